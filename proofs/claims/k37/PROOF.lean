import PyProof.Rows.All
import Wide.All
import OpenK.AllK
import Wide.FinOn
import HandS.ForMost
import HandS.Wide
import HandS.Style
import HandS.TupAny
import HandS.Flow
import HandS.Conv
import HandS.TupMul
import HandS.Exc
import HandS.ExcInit
import HandS.ExcField
import HandS.TryOnly
import HandS.DictTup
import KE.KDictKeyed
import HandS.Zip
import HandS.SortInts
import OpenK.KMore
import KE.GoesEnum
import HandS.Codes
import PyProof.StrLawsRepr
import HandS.IsInst
import HandS.Deep
import HandS.Iter
import HandS.SetFor
import HandS.WideBits
import PyProof.P3In
import HandS.SetBool
import HandS.Strs
import PyProof.AutoSeq1
import PyProof.Rows.StrOr
import HandS.Star
import KE.GoesZip
import HandS.TupSets
import HandS.Text
import KE.KDictDisplayH
import KE.KExcSuper
import KE.SortData
import KE.KDictPairs
import PyProof.DictItems
import KE.DataMinMax
import PySem.Challenge.RW_fewestpours_k37_whole_more_rooms

set_option Elab.async false
set_option linter.all false
set_option maxRecDepth 100000
set_option maxHeartbeats 4000000
/-! DL, part 0: tuples known exactly: objects without attributes of their own. What makes tuples, told so. -/
namespace L2
open PySem PySem.Spec PyProof.Rows
/-- a tuple whose object holds no dict -/
def XT (K : PySem.W.Frag) (H : Hp) (a : Addr) (xs : List V) : Prop :=
  (∃ o, H a = some (.frz o (.tup xs)) ∧ o.dict = none) ∨
    ∃ (o : Obj) (its : Array Value) (n : Nat), K.lookup a = some o ∧ o.cls = .type "tuple" ∧ o.dict = none ∧ o.data = .seq its n ∧ its.size ≤ sizeLine ∧ Vals xs its.toList
theorem XT.sq {K : PySem.W.Frag} {H : Hp} {a : Addr} {xs : List V} (h : XT K H a xs) : SqT K H a xs := by
  rcases h with ⟨o, h, _⟩ | ⟨o, its, n, h1, h2, _, h4, h5, h6⟩
  · exact .inl (.inr ⟨o, h⟩)
  · exact .inr ⟨o, its, n, h1, h2, h4, h5, h6⟩
/-- a new one -/
def NewT (H : Hp) (xs : List V) (Q : VK) : Prop := ∀ (p : Addr) (o : Obj), H p = none → o.dict = none → Q (.ref p) (upd H p (.frz o (.tup xs)))
theorem lay_tup {X : Cx} {pins : List (Addr × Obj)} {σ : St} {H : Hp} {s : Shared} {xs : List V} {its : List Value} {Q : VK} (t' : Nat) (I : Inv X pins σ H s) (r : Vals xs its) (hz : xs.length ≤ sizeLine) (q : NewT H xs Q) :
    EP X pins σ Q (.ref s.heap.objs.size) { s with heap := s.heap.push { cls := .type "tuple", data := .seq its.toArray }, toks := t' } :=
  ⟨.ref s.heap.objs.size, _, I.laid (t' := t') (o := .frz { cls := .type "tuple", data := .seq its.toArray } (.tup xs)) (fun b ob q => Heap.get?_push_of_some _ q) (Nat.le_refl _) ⟨Heap.get?_push_size _ rfl, hz, its, r, IsTup.new _ _⟩, rfl, q _ _ (I.hok.fresh (Nat.le_refl _)) rfl⟩
section
variable {X : Cx} {e : Expr} {es : List Expr} {te : TE} {t : TA} {pos : Pos}
/-- a display -/
def tTupX (t : TA) : TE := fun σ H Q => t σ H fun xs H1 => xs.length ≤ sizeLine ∧ NewT H1 xs Q
theorem pe_tupX {k} (h : PA X es t) : PE X (.Tuple es k pos) (tTupX t) := by
  refine ⟨fun pins s σ H Q I hq => wpAny_Tuple_spliced (thn (h.run pos pins s σ H _ I hq) ?_)⟩
  rintro us s1 ⟨xs, H1, I1, r, z, q⟩
  exact ⟨by rw [← r.length]; exact z, lay_tup s1.toks I1 r z q⟩
/-- tuple(x) of a list or a tuple -/
def rTupX (K : PySem.W.Frag) : List V → Hp → VK → Prop := fun xs H Q => ∃ p ys, xs = [.ref p] ∧ (SqL K H p ys ∧ NewT H ys Q ∨ SqT K H p ys ∧ Q (.ref p) H)
theorem cr_tupX : CallR X (.type "tuple") (rTupX X.K) := by
  rintro pins s σ H vs us Q I r ⟨p, ys, rfl, h⟩
  obtain ⟨u, rfl, rx⟩ := vals1 r
  cases rx
  rcases h with ⟨hs, q⟩ | ⟨hs, q⟩
  · obtain ⟨its, rv, pl, hz⟩ := I.list hs
    refine call_tuple_list pl.isList (fun h' keep => lay_tup s.toks (I.kept (t' := s.toks) keep) rv hz q) ?_
    rw [List.size_toArray, ← rv.length]
    exact hz
  · obtain ⟨its, _, pl, _⟩ := I.tuple hs
    exact call_tuple_same pl ⟨.ref p, H, I, rfl, q⟩
/-- tuple + tuple -/
def rCatX (K : PySem.W.Frag) : R2 := fun x y H Q => ∃ a b xs ys, x = .ref a ∧ y = .ref b ∧ SqT K H a xs ∧ SqT K H b ys ∧ xs.length + ys.length ≤ sizeLine ∧
  (xs = [] → Q (.ref b) H) ∧ (xs ≠ [] → ys = [] → Q (.ref a) H) ∧ (xs ≠ [] → ys ≠ [] → NewT H (xs ++ ys) Q)
theorem op_catX : OpR X (binaryOp .Add) (rCatX X.K) := by
  rintro pins s σ H x y v u Q I rx ry ⟨a, b, xs, ys, rfl, rfl, ha, hb, hz, q0, q1, q2⟩
  cases rx
  cases ry
  obtain ⟨is, r1, p1, _⟩ := I.tuple ha
  obtain ⟨js, r2, p2, _⟩ := I.tuple hb
  by_cases hx : xs = []
  · subst hx
    cases r1
    exact cat_tup0 p1 p2 ⟨.ref b, H, I, rfl, q0 rfl⟩
  · refine HT.cat_tup p1 p2 (fun z => hx (r1.nil_iff.mp z)) (fun z => ⟨.ref a, H, I, rfl, q1 hx (r2.nil_iff.mp z)⟩) (fun z => ?_) ?_
    · exact lay_tup s.toks I (r1.append r2) (by rw [List.length_append]; exact hz) (q2 hx fun w => z (r2.nil_iff.mpr w))
    · rw [← r1.length, ← r2.length]; exact hz
/-- t[lo:hi] -/
def rSlX (K : PySem.W.Frag) : V → Option Int → Option Int → Hp → VK → Prop := fun x lo hi H Q => ∃ a xs, x = .ref a ∧ SqT K H a xs ∧
  (HT.sIx xs.length 0 lo = 0 ∧ HT.sIx xs.length xs.length hi = xs.length → Q (.ref a) H) ∧ (¬ (HT.sIx xs.length 0 lo = 0 ∧ HT.sIx xs.length xs.length hi = xs.length) → NewT H (cutV xs lo hi) Q)
theorem sl_tupX : SlR X (rSlX X.K) := by
  rintro pins s σ H x v vl vu lo hi sl Q I rx hs pl pu ⟨a, xs, rfl, hx, q1, q2⟩
  cases rx
  obtain ⟨its, r, ht, hz⟩ := I.tuple hx
  have hlen : its.toArray.size = xs.length := by rw [List.size_toArray]; exact r.length.symm
  refine ⟨"tuple", _, PyProof.Rows.slot_tuple_getitem.lookup, ht.typeIs, ?_⟩
  by_cases hw : HT.sIx xs.length 0 lo = 0 ∧ HT.sIx xs.length xs.length hi = xs.length
  · exact getItem_tuple_whole ht hs pl pu (by rw [hlen]; exact hw) ⟨.ref a, H, I, rfl, q1 hw⟩
  · refine HT.getItem_tuple_cut ht hs pl pu (by rw [hlen]; exact hw) ?_ (by rw [hlen]; exact hz)
    rw [hlen]
    exact lay_tup s.toks I ((r.drop _).take _) (Nat.le_trans (cutV_length xs lo hi) hz) (q2 hw)
/-- t * k -/
def rRepX (K : PySem.W.Frag) : R2 := fun x y H Q => ∃ l k xs, x = .ref l ∧ y = .int k ∧ SqT K H l xs ∧ xs ≠ [] ∧ 2 ≤ k ∧ k ≤ 1000 ∧ xs.length ≤ 1000 ∧ NewT H (List.replicate k.toNat xs).flatten Q
theorem vals_rep {xs : List V} {us : List Value} (r : Vals xs us) : ∀ m : Nat, Vals (List.replicate m xs).flatten (List.replicate m us).flatten
  | 0 => .nil
  | m + 1 => by
    rw [List.replicate_succ, List.replicate_succ, List.flatten_cons, List.flatten_cons]
    exact r.append (vals_rep r m)
theorem op_repX : OpR X (binaryOp .Mult) (rRepX X.K) := by
  rintro pins s σ H x y v u Q I rx ry ⟨l, k, xs, rfl, rfl, hT, hne, h1, h2, hz, q⟩
  cases rx
  obtain ⟨t, rfl⟩ := ry
  obtain ⟨its, r, ⟨⟨cl, di, da, sl⟩, ho, hc, n, hd⟩, hs⟩ := I.tuple hT
  simp only at hc hd
  subst hc hd
  have hle : its.length = xs.length := r.length.symm
  have hpos : 1 ≤ its.length := by
    rcases Nat.eq_zero_or_pos its.length with h | h
    · exact absurd (List.eq_nil_of_length_eq_zero (hle.symm.trans h)) hne
    · exact h
  have hi : its.toArray.isEmpty = false := by
    cases its with
    | nil => exact absurd hpos (by simp)
    | cons _ _ => rfl
  have hm : ((its.toArray.size : Nat) : Int) * k ≤ 1000000 := by
    rw [List.size_toArray, hle]
    have : ((xs.length : Nat) : Int) * k ≤ 1000 * k := Int.mul_le_mul_of_nonneg_right (by omega) (by omega)
    omega
  have hm0 : (0 : Int) ≤ ((its.toArray.size : Nat) : Int) * k := Int.mul_nonneg (by omega) (by omega)
  have fl : ∀ {α : Type} (ys : List α) (m : Nat), (List.replicate m ys).flatten.length = m * ys.length := fun ys m => by
    rw [PyProof.Rows.lm_len_rep_flat]
  have hb : k.toNat * xs.length ≤ 1000 * 1000 := Nat.mul_le_mul (by omega) hz
  have flen : (List.replicate k.toNat its).flatten.length ≤ sizeLine := by
    rw [fl, hle, sizeLine_eq]; omega
  have c0 : (decide (k < -(2 ^ 63)) || decide (k ≥ 2 ^ 63)) = false := by
    rw [decide_eq_false (by omega), decide_eq_false (by omega)]; rfl
  have c1 : (its.toArray.isEmpty || k == 1) = false := by
    rw [hi, Bool.false_or]
    exact beq_eq_false_iff_ne.mpr (by omega)
  have c2 : (decide (k ≤ 0) || its.toArray.isEmpty) = false := by
    rw [hi, Bool.or_false]
    exact decide_eq_false (by omega)
  have c3 : ¬ ((its.toArray.size : Nat) : Int) * k > (2 ^ 63 - 1) / 8 := by omega
  have c4 : Builtin.Tuple.tupleTooMany (((its.toArray.size : Nat) : Int) * k) = false := by
    unfold Builtin.Tuple.tupleTooMany
    have := sizeLine_eq
    simp only [decide_eq_false_iff_not]
    omega
  have eA : ∀ m : Nat, (List.foldl (fun x1 x2 => x1 ++ x2) #[] (List.replicate m its.toArray)) = (List.replicate m its).flatten.toArray := size_rep its
  refine wpAny_binaryOp_repeat_ref (T := "tuple") (U := "int") (by decide) ⟨_, ho, rfl⟩ (fun s' => typeIs_int s' k t) noFill_tuple_mul F.fills_int_mul F.slot_int_rmul repeat_tuple F.slot_int_index.lookup
    (call_meets F.slot_int_rmul (typeIs_int s k t) F.entry_int_rmul (F.args_int_rmul_2 _ _) (int_rmul_tuple k t l its.toArray n di sl)
      ⟨ho, rfl, ⟨_, ho, rfl⟩, call_meets F.slot_tuple_mul ⟨_, ho, rfl⟩ F.entry_tuple_mul (F.args_tuple_mul_2 _ _) (tuple_mulW l its.toArray n di sl k t c0 c1 c2 c3 c4 (by rw [eA, List.size_toArray]; exact flen)) ⟨ho, ?_⟩⟩)
  rw [eA]
  exact lay_tup s.toks I (vals_rep r _) (by rw [fl, sizeLine_eq]; omega) q
/-- tuple(range(..)) -/
def tTupRgX (tr : St → Hp → (Int → Int → Hp → Prop) → Prop) : TE := fun σ H Q => tr σ H fun a b H1 => RgOk a b ∧ NewT H1 (rgV a b) Q
theorem pe_tupRgX {p : Pos} {tr : St → Hp → (Int → Int → Hp → Prop) → Prop} (hc : X.calm = true) (hg : Gl X "tuple") (hm : X.mg "tuple" = none) (he : PRg X e tr) (na : starEach [e] X.env = (false, eval e X.env) :: starEach [] X.env := by rfl) :
    PE X (.Call (.Name "tuple" p) [e] [] pos) (tTupRgX tr) := by
  refine ⟨fun pins s σ H Q I h => Call_ (ld_blt I hg hm boot_tuple (PyProof.Rows.callWith_type1 (args_cons (thn (he pins s σ H _ I h) ?_) na) na))⟩
  rintro x s1 ⟨r, a, b, t, u, v, H1, rfl, hr, I1, ⟨b1, b2, b3, b4, b5⟩, q⟩
  refine args_nil (call_tuple_range (n := (b - a).toNat) (I1.ok.hd hc) hr (small_one b1 b2 b3 b4) (rangeSize_nat a b) b5 fun h' tk acc keep hi => ?_)
  have := lay_tup (X := X) (pins := pins) (σ := σ) (its := acc.toList) (Q := Q) tk (I1.kept (t' := tk) keep) (vals_rg hi) (by rw [rgV_length, sizeLine_eq]; omega) q
  simpa using this
end
end L2

/-! DL, part a: data over the hand layer. What the slots hold, told as plain data; what is owned by a slot; the deal of a law. -/
namespace DL
open PySem L2

abbrev D := PyData
abbrev DM := Option (Addr × Addr)
def isM (dm : DM) (x : Addr) : Prop := ∃ p, dm = some p ∧ (x = p.1 ∨ x = p.2)

structure DealAt (F H : Hp) (a b : Addr) : Prop where
  fa : F a = none
  fb : F b = none
  ex : ∃ (cells : List Int) (blend : Int), H a = some (.lst [.ref b, .int blend]) ∧ H b = some (.lst (cells.map V.int)) ∧ cells.length ≤ 64 ∧ 0 ≤ blend ∧ blend < 2147483647

mutual
/-- a value is this data: lists are tracked, tuples tracked or written -/
inductive Dp (K : PySem.W.Frag) (H : Hp) : V → PyData → Prop
  | non : Dp K H .non .none
  | bl (b : Bool) : Dp K H (.bl b) (.bool b)
  | int (i : Int) : Dp K H (.int i) (.int i)
  | str (x : Str) : Dp K H (.str x) (.str x)
  | lst {a : Addr} {xs : List V} {ds : List PyData} : H a = some (.lst xs) → DpAll K H xs ds → Dp K H (.ref a) (.list ds)
  | tup {a : Addr} {xs : List V} {ds : List PyData} : XT K H a xs → DpAll K H xs ds → Dp K H (.ref a) (.tuple ds)
inductive DpAll (K : PySem.W.Frag) (H : Hp) : List V → List PyData → Prop
  | nil : DpAll K H [] []
  | cons {v : V} {vs : List V} {d : PyData} {ds : List PyData} : Dp K H v d → DpAll K H vs ds → DpAll K H (v :: vs) (d :: ds)
end
mutual
theorem Dp.l2 {K : PySem.W.Frag} {H : Hp} : ∀ {v : V} {d : D}, Dp K H v d → L2.Dp K H v d
  | _, _, .non => .non
  | _, _, .bl b => .bl b
  | _, _, .int i => .int i
  | _, _, .str x => .str x
  | _, _, .lst h r => .lst (.of h) (DpAll.l2 r)
  | _, _, .tup h r => .tup h.sq (DpAll.l2 r)
theorem DpAll.l2 {K : PySem.W.Frag} {H : Hp} : ∀ {vs : List V} {ds : List D}, DpAll K H vs ds → L2.DpAll K H vs ds
  | _, _, .nil => .nil
  | _, _, .cons h r => .cons (Dp.l2 h) (DpAll.l2 r)
end

/-! ### dicts: the keys are ints or tuples of ints, nested; the values are data -/
/-- a key: an int, or a tuple of keys, at most so deep -/
def kIn : Nat → D → Bool
  | _, .int _ => true
  | n + 1, .tuple ds => ds.all (kIn n)
  | _, _ => false
def nkN : Nat → D → NestedKey
  | _, .int i => .num i
  | n + 1, .tuple ds => .tup (ds.map (nkN n))
  | _, _ => .none
def kOk (d : D) : Bool := kIn 8 d
def nk (d : D) : NestedKey := nkN 8 d
def isTu : D → Bool
  | .tuple _ => true
  | _ => false
/-- the dict at a is known: its entries -/
def rawO (a : Addr) (es : Array DictEntry) (ep : Nat) : HO := .ext fun h => h.DictRaw a es ep ∧ (a == sysModules) = false
def EntR (K : PySem.W.Frag) (F : Hp) (p : D × D) (en : DictEntry) : Prop := ∃ kv vv, Dp K F kv p.1 ∧ RelV kv en.key ∧ Dp K F vv p.2 ∧ RelV vv en.val ∧ ∀ w, en.hash = (nk p.1).hash w
structure WK (kvs : List (D × D)) : Prop where
  nd : (kvs.map (·.1)).Nodup
  ok : ∀ p ∈ kvs, kOk p.1 = true
  one : ∀ p ∈ kvs, ∀ q ∈ kvs, isTu p.1 = isTu q.1
  len : kvs.length ≤ sizeLine
/-- a dict stands at v, of its own or frozen -/
def DicAt (K : PySem.W.Frag) (F H : Hp) (o : Bool) (kvs : List (D × D)) (v : V) (fp : List Addr) : Prop :=
  ∃ a es ep, v = .ref a ∧ Paired (EntR K F) kvs es.toList ∧ WK kvs ∧ (if o = true then F a = none ∧ H a = some (rawO a es ep) ∧ fp = [a] else F a = some (rawO a es ep) ∧ fp = [])
/-- another kind of thing that a slot may hold, told by what it is of the heap; F: what never changes, fp: cells of its own; tag: it is a dict -/
structure Oth where
  rel : PySem.W.Frag → Hp → Hp → V → List Addr → Prop
  still : Bool
  tag : Option (Bool × List (D × D))
  mono : ∀ {K F H F' H' v fp}, Same F F' → rel K F H v fp → (∀ a ∈ fp, H' a = H a ∧ F' a = none) → rel K F' H' v fp
  there : ∀ {K F H v fp}, rel K F H v fp → ∀ a ∈ fp, H a ≠ none ∧ F a = none
  bare : still = true → ∀ {K F H v fp}, rel K F H v fp → fp = []
  dic : ∀ {o kvs}, tag = some (o, kvs) → ∀ {K F H v fp}, rel K F H v fp → DicAt K F H o kvs v fp
/-- what a slot holds: data that never changes again; a list of its own; a dict of its own; the law's source of draws; the law's script -/
inductive W where
  | fz (d : D)
  | own (ws : List W)
  | oth (o : Oth)
  | deal
  | scr (ns : List Int)
abbrev Env := List (Option W)
mutual
inductive WR (K : PySem.W.Frag) (dm : DM) (F H : Hp) : W → V → List Addr → Prop
  | fz {d : D} {v : V} : Dp K F v d → WR K dm F H (.fz d) v []
  | own {a : Addr} {vs : List V} {ws : List W} {fp : List Addr} : F a = none → H a = some (.lst vs) → WRs K dm F H ws vs fp → WR K dm F H (.own ws) (.ref a) (a :: fp)
  | oth {o : Oth} {v : V} {fp : List Addr} : o.rel K F H v fp → WR K dm F H (.oth o) v fp
  | deal {p : Addr × Addr} : dm = some p → WR K dm F H .deal (.ref p.1) []
  | scr {a : Addr} {ns : List Int} : dm = none → SqL K F a (ns.map V.int) → WR K dm F H (.scr ns) (.ref a) []
inductive WRs (K : PySem.W.Frag) (dm : DM) (F H : Hp) : List W → List V → List Addr → Prop
  | nil : WRs K dm F H [] [] []
  | cons {w : W} {v : V} {fp : List Addr} {ws : List W} {vs : List V} {fq : List Addr} : WR K dm F H w v fp → WRs K dm F H ws vs fq → WRs K dm F H (w :: ws) (v :: vs) (fp ++ fq)
end

/-! ### data stays where the heap stays -/
theorem xt_same {K : PySem.W.Frag} {F F' : Hp} (e : Same F F') {a : Addr} {xs : List V} (h : XT K F a xs) : XT K F' a xs := by
  rcases h with ⟨o, h, d⟩ | h
  · exact .inl ⟨o, e _ _ h, d⟩
  · exact .inr h
theorem sqT_same {K : PySem.W.Frag} {F F' : Hp} (e : Same F F') {a : Addr} {xs : List V} (h : SqT K F a xs) : SqT K F' a xs := by
  rcases h with (h | ⟨o, h⟩) | h
  · exact .inl (.inl (e _ _ h))
  · exact .inl (.inr ⟨o, e _ _ h⟩)
  · exact .inr h
mutual
theorem dp_same {K : PySem.W.Frag} {F F' : Hp} (e : Same F F') : ∀ {v : V} {d : D}, Dp K F v d → Dp K F' v d
  | _, _, .non => .non
  | _, _, .bl b => .bl b
  | _, _, .int i => .int i
  | _, _, .str x => .str x
  | _, _, .lst h r => .lst (e _ _ h) (dpAll_same e r)
  | _, _, .tup h r => .tup (xt_same e h) (dpAll_same e r)
theorem dpAll_same {K : PySem.W.Frag} {F F' : Hp} (e : Same F F') : ∀ {vs : List V} {ds : List D}, DpAll K F vs ds → DpAll K F' vs ds
  | _, _, .nil => .nil
  | _, _, .cons h r => .cons (dp_same e h) (dpAll_same e r)
end
mutual
theorem WR.mono {K : PySem.W.Frag} {dm : DM} {F H F' H' : Hp} (e : Same F F') : ∀ {w : W} {v : V} {fp : List Addr}, WR K dm F H w v fp → (∀ a ∈ fp, H' a = H a ∧ F' a = none) → WR K dm F' H' w v fp
  | _, _, _, .fz h, _ => .fz (dp_same e h)
  | _, _, _, .own h1 h2 h3, k => .own (k _ (List.mem_cons_self ..)).2 ((k _ (List.mem_cons_self ..)).1.trans h2) (WRs.mono e h3 fun a ha => k a (List.mem_cons_of_mem _ ha))
  | _, _, _, .oth (o := o) h, k => .oth (o.mono e h k)
  | _, _, _, .deal h, _ => .deal h
  | _, _, _, .scr n h, _ => .scr n (e.seq h)
theorem WRs.mono {K : PySem.W.Frag} {dm : DM} {F H F' H' : Hp} (e : Same F F') : ∀ {ws : List W} {vs : List V} {fp : List Addr}, WRs K dm F H ws vs fp → (∀ a ∈ fp, H' a = H a ∧ F' a = none) → WRs K dm F' H' ws vs fp
  | _, _, _, .nil, _ => .nil
  | _, _, _, .cons h r, k => .cons (WR.mono e h fun a ha => k a (List.mem_append_left _ ha)) (WRs.mono e r fun a ha => k a (List.mem_append_right _ ha))
end
mutual
theorem WR.there {K : PySem.W.Frag} {dm : DM} {F H : Hp} : ∀ {w : W} {v : V} {fp : List Addr}, WR K dm F H w v fp → ∀ a ∈ fp, H a ≠ none ∧ F a = none
  | _, _, _, .fz _, a, ha => nomatch ha
  | _, _, _, .own h1 h2 h3, a, ha => by
    rcases List.mem_cons.mp ha with e | ha
    · subst e; exact ⟨by rw [h2]; simp, h1⟩
    · exact WRs.there h3 a ha
  | _, _, _, .oth (o := o) h, a, ha => o.there h a ha
  | _, _, _, .deal _, a, ha => nomatch ha
  | _, _, _, .scr _ _, a, ha => nomatch ha
theorem WRs.there {K : PySem.W.Frag} {dm : DM} {F H : Hp} : ∀ {ws : List W} {vs : List V} {fp : List Addr}, WRs K dm F H ws vs fp → ∀ a ∈ fp, H a ≠ none ∧ F a = none
  | _, _, _, .nil, a, ha => nomatch ha
  | _, _, _, .cons h r, a, ha => (List.mem_append.mp ha).elim (WR.there h a) (WRs.there r a)
end

/-! ### the state -/
/-- behind an expression: what was there stands (but the deal's two cells), new data may be there -/
structure Ext (dm : DM) (F H F' H' : Hp) : Prop where
  ff : Same F F'
  hh : ∀ a o, H a = some o → ¬ isM dm a → H' a = some o
  nw : ∀ a, F a = none → H a ≠ none → F' a = none
  fh : Same F' H'
  dl : ∀ p, dm = some p → DealAt F' H' p.1 p.2
theorem DealAt.here {F H : Hp} {a b : Addr} (h : DealAt F H a b) : H a ≠ none ∧ H b ≠ none := by
  obtain ⟨c, d, e1, e2, _⟩ := h.ex
  exact ⟨by rw [e1]; simp, by rw [e2]; simp⟩
theorem Ext.dom {dm : DM} {F H F' H' : Hp} (e : Ext dm F H F' H') {a : Addr} (h : H a ≠ none) : H' a ≠ none := by
  by_cases hm : isM dm a
  · obtain ⟨p, hp, ha⟩ := hm
    have := (e.dl p hp).here
    rcases ha with rfl | rfl
    · exact this.1
    · exact this.2
  · cases q : H a with
    | none => exact absurd q h
    | some o => rw [e.hh a o q hm]; simp
theorem Ext.trans {dm : DM} {F H F1 H1 F2 H2 : Hp} (a : Ext dm F H F1 H1) (b : Ext dm F1 H1 F2 H2) : Ext dm F H F2 H2 where
  ff := a.ff.trans b.ff
  hh := fun c o h m => b.hh c o (a.hh c o h m) m
  nw := fun c f h => b.nw c (a.nw c f h) (a.dom h)
  fh := b.fh
  dl := b.dl

structure SRx (K : PySem.W.Frag) (env : Env) (σ : St) (F H : Hp) (ow : Addr → Option Nat) (dm : DM) : Prop where
  same : Same F H
  len : env.length = σ.length
  sl : ∀ i w, env[i]? = some (some w) → ∃ v fp, σ[i]? = some (some v) ∧ WR K dm F H w v fp ∧ fp.Nodup ∧ ∀ a ∈ fp, ow a = some i
  dl : ∀ p, dm = some p → DealAt F H p.1 p.2
  dow : ∀ p, dm = some p → ow p.1 = none ∧ ow p.2 = none
section
variable {K : PySem.W.Frag} {env : Env} {σ : St} {F H F' H' : Hp} {ow : Addr → Option Nat} {dm : DM}
theorem SRx.refl (S : SRx K env σ F H ow dm) : Ext dm F H F H := ⟨Same.refl F, fun _ _ h _ => h, fun _ h _ => h, S.same, S.dl⟩
theorem SRx.notM (S : SRx K env σ F H ow dm) {a : Addr} {i : Nat} (h : ow a = some i) : ¬ isM dm a := by
  rintro ⟨p, hp, rfl | rfl⟩
  · rw [(S.dow p hp).1] at h; cases h
  · rw [(S.dow p hp).2] at h; cases h
theorem SRx.notMF (S : SRx K env σ F H ow dm) {a : Addr} (h : F a ≠ none) : ¬ isM dm a := by
  rintro ⟨p, hp, rfl | rfl⟩
  · exact h (S.dl p hp).fa
  · exact h (S.dl p hp).fb
theorem SRx.notMN (S : SRx K env σ F H ow dm) {a : Addr} (h : H a = none) : ¬ isM dm a := by
  rintro ⟨p, hp, rfl | rfl⟩
  · exact (S.dl p hp).here.1 h
  · exact (S.dl p hp).here.2 h
theorem SRx.ext (S : SRx K env σ F H ow dm) (e : Ext dm F H F' H') : SRx K env σ F' H' ow dm := by
  refine ⟨e.fh, S.len, fun i w hw => ?_, e.dl, S.dow⟩
  obtain ⟨v, fp, h1, h2, h3, h4⟩ := S.sl i w hw
  refine ⟨v, fp, h1, h2.mono e.ff fun a ha => ?_, h3, h4⟩
  have ht := h2.there a ha
  cases q : H a with
  | none => exact absurd q ht.1
  | some o => exact ⟨e.hh a o q (S.notM (h4 a ha)), e.nw a ht.2 ht.1⟩
/-- new data laid -/
theorem Ext.laid (hs : Same F H) (hdl : ∀ p, dm = some p → DealAt F H p.1 p.2) {p : Addr} {o : HO} (hp : H p = none) : Ext dm F H (upd F p o) (upd H p o) := by
  have fp : F p = none := hs.free hp
  refine ⟨fun b u h => ?_, fun b u h _ => ?_, fun b h1 h2 => ?_, fun b u h => ?_, fun q hq => ?_⟩
  · rw [upd_ne (ne_of_none h fp)]; exact h
  · rw [upd_ne (ne_of_none h hp)]; exact h
  · by_cases e : b = p
    · subst e; exact absurd hp h2
    · rw [upd_ne e]; exact h1
  · by_cases e : b = p
    · subst e; rw [upd_same] at h ⊢; exact h
    · rw [upd_ne e] at h ⊢; exact hs b u h
  · have d := hdl q hq
    have h := d.here
    have n1 : q.1 ≠ p := fun e => h.1 (e ▸ hp)
    have n2 : q.2 ≠ p := fun e => h.2 (e ▸ hp)
    exact ⟨by rw [upd_ne n1]; exact d.fa, by rw [upd_ne n2]; exact d.fb, by rw [upd_ne n1, upd_ne n2]; exact d.ex⟩
/-- a new object of its own laid -/
theorem Ext.laidOwn (hs : Same F H) (hdl : ∀ p, dm = some p → DealAt F H p.1 p.2) {p : Addr} {o : HO} (hp : H p = none) : Ext dm F H F (upd H p o) := by
  have fp : F p = none := hs.free hp
  refine ⟨Same.refl F, fun b u h _ => ?_, fun b h1 h2 => h1, fun b u h => ?_, fun q hq => ?_⟩
  · rw [upd_ne (ne_of_none h hp)]; exact h
  · rw [upd_ne (ne_of_none (hs b u h) hp)]; exact hs b u h
  · have d := hdl q hq
    have h := d.here
    have n1 : q.1 ≠ p := fun e => h.1 (e ▸ hp)
    have n2 : q.2 ≠ p := fun e => h.2 (e ▸ hp)
    exact ⟨d.fa, d.fb, by rw [upd_ne n1, upd_ne n2]; exact d.ex⟩
end

/-! ### freezing: what was of its own becomes data -/
mutual
def W.data : W → D
  | .fz d => d
  | .own ws => .list (W.datas ws)
  | .oth _ => .none
  | .deal => .none
  | .scr _ => .none
def W.datas : List W → List D
  | [] => []
  | w :: ws => w.data :: W.datas ws
end
mutual
/-- made of lists and data alone -/
def W.plain : W → Bool
  | .fz _ => true
  | .own ws => W.plains ws
  | .oth _ => false
  | .deal => false
  | .scr _ => false
def W.plains : List W → Bool
  | [] => true
  | w :: ws => w.plain && W.plains ws
end
/-- the frozen heap with some cells more -/
def addF (F H : Hp) (fp : List Addr) : Hp := fun a => if a ∈ fp then H a else F a
theorem addF_same {F H : Hp} {fp : List Addr} (h : ∀ a ∈ fp, F a = none) : Same F (addF F H fp) := fun b o e => by
  unfold addF
  rw [if_neg (fun z => by rw [h b z] at e; cases e)]
  exact e
mutual
theorem WR.frozen {K : PySem.W.Frag} {dm : DM} {F H G : Hp} (e : Same F G) : ∀ {w : W} {v : V} {fp : List Addr}, WR K dm F H w v fp → w.plain = true → (∀ a ∈ fp, G a = H a) → Dp K G v w.data
  | _, _, _, .fz h, _, _ => dp_same e h
  | _, _, _, .own h1 h2 h3, hp, k => .lst ((k _ (List.mem_cons_self ..)).trans h2) (WRs.frozen e h3 hp fun a ha => k a (List.mem_cons_of_mem _ ha))
  | _, _, _, .oth _, hp, _ => absurd hp (by simp [W.plain])
  | _, _, _, .deal _, hp, _ => absurd hp (by simp [W.plain])
  | _, _, _, .scr _ _, hp, _ => absurd hp (by simp [W.plain])
theorem WRs.frozen {K : PySem.W.Frag} {dm : DM} {F H G : Hp} (e : Same F G) : ∀ {ws : List W} {vs : List V} {fp : List Addr}, WRs K dm F H ws vs fp → W.plains ws = true → (∀ a ∈ fp, G a = H a) → DpAll K G vs (W.datas ws)
  | _, _, _, .nil, _, _ => .nil
  | _, _, _, .cons h r, hp, k => by
    have hp' := Bool.and_eq_true_iff.mp hp
    exact .cons (WR.frozen e h hp'.1 fun a ha => k a (List.mem_append_left _ ha)) (WRs.frozen e r hp'.2 fun a ha => k a (List.mem_append_right _ ha))
end
theorem Ext.freeze {dm : DM} {F H F' H' : Hp} (e : Ext dm F H F' H') {fp : List Addr} (hf : ∀ a ∈ fp, F' a = none) (hn : ∀ a ∈ fp, H a = none) (hm : ∀ a ∈ fp, ¬ isM dm a) : Ext dm F H (addF F' H' fp) H' where
  ff := e.ff.trans (addF_same hf)
  hh := e.hh
  nw := fun a h1 h2 => by
    unfold addF
    rw [if_neg (fun z => h2 (hn a z))]
    exact e.nw a h1 h2
  fh := fun b o h => by
    unfold addF at h
    split at h
    · exact h
    · exact e.fh b o h
  dl := fun p hp => by
    have d := e.dl p hp
    refine ⟨?_, ?_, d.ex⟩
    · unfold addF
      rw [if_neg (fun z => hm _ z ⟨p, hp, .inl rfl⟩)]
      exact d.fa
    · unfold addF
      rw [if_neg (fun z => hm _ z ⟨p, hp, .inr rfl⟩)]
      exact d.fb
end DL

/-! DL, part b: the judgements over data: what is made (DW), what is looked at (DB), tests (DT), arguments (DA). -/
namespace DL
open PySem L2

theorem pe_mono {X : Cx} {e : Expr} {t t' : TE} (h : PE X e t) (m : ∀ σ H Q, t' σ H Q → t σ H Q) : PE X e t' := ⟨fun pins s σ H Q I q => h.run pins s σ H Q I (m σ H Q q)⟩
theorem pt_mono {X : Cx} {e : Expr} {t t' : TT} (h : PT X e t) (m : ∀ σ H Q, t' σ H Q → t σ H Q) : PT X e t' := ⟨fun pins s σ H Q I q => h.run pins s σ H Q I (m σ H Q q)⟩
theorem pw_mono {X : Cx} {e : Expr} {t t' : TT} (h : PW X e t) (m : ∀ σ H Q, t' σ H Q → t σ H Q) : PW X e t' := ⟨fun wh pins s σ H Q I q => h.run wh pins s σ H Q I (m σ H Q q)⟩
theorem pa_mono {X : Cx} {es : List Expr} {t t' : TA} (h : PA X es t) (m : ∀ σ H Q, t' σ H Q → t σ H Q) : PA X es t' := ⟨fun pos pins s σ H Q I q => h.run pos pins s σ H Q I (m σ H Q q)⟩

/-- looked at: data, or a list of a slot's own whose items are data -/
def Db (K : PySem.W.Frag) (dm : DM) (F H : Hp) (v : V) (d : D) : Prop :=
  Dp K F v d ∨ ∃ a vs ds, v = .ref a ∧ d = .list ds ∧ H a = some (.lst vs) ∧ ¬ isM dm a ∧ DpAll K F vs ds
theorem Db.ext {K : PySem.W.Frag} {dm : DM} {F H F' H' : Hp} (e : Ext dm F H F' H') {v : V} {d : D} (h : Db K dm F H v d) : Db K dm F' H' v d := by
  rcases h with h | ⟨a, vs, ds, h1, h2, h3, h4, h5⟩
  · exact .inl (dp_same e.ff h)
  · exact .inr ⟨a, vs, ds, h1, h2, e.hh a _ h3 h4, h4, dpAll_same e.ff h5⟩
theorem Db.dp {K : PySem.W.Frag} {dm : DM} {F H : Hp} (s : Same F H) {v : V} {d : D} (h : Db K dm F H v d) : Dp K H v d := by
  rcases h with h | ⟨a, vs, ds, rfl, rfl, h3, _, h5⟩
  · exact dp_same s h
  · exact .lst h3 (dpAll_same s h5)
inductive DbAll (K : PySem.W.Frag) (dm : DM) (F H : Hp) : List V → List D → Prop
  | nil : DbAll K dm F H [] []
  | cons {v : V} {d : D} {vs : List V} {ds : List D} : Db K dm F H v d → DbAll K dm F H vs ds → DbAll K dm F H (v :: vs) (d :: ds)
theorem DbAll.ext {K : PySem.W.Frag} {dm : DM} {F H F' H' : Hp} (e : Ext dm F H F' H') : ∀ {vs : List V} {ds : List D}, DbAll K dm F H vs ds → DbAll K dm F' H' vs ds
  | _, _, .nil => .nil
  | _, _, .cons h r => .cons (h.ext e) (DbAll.ext e r)

abbrev TW := Env → (W → Prop) → Prop
abbrev TB := Env → (D → Prop) → Prop
abbrev TQ := Env → (Bool → Prop) → Prop
abbrev TDs := Env → (List D → Prop) → Prop
abbrev TWs := Env → (List W → Prop) → Prop
/-- made: w, all its own cells new -/
def Got (K : PySem.W.Frag) (dm : DM) (F H : Hp) (Q : VK) (w : W) : Prop :=
  ∀ v F' H' fp, Ext dm F H F' H' → WR K dm F' H' w v fp → fp.Nodup → (∀ a ∈ fp, H a = none) → Q v H'
def lW (K : PySem.W.Frag) (t : TW) : TE := fun σ H Q => ∃ env F ow dm P, SRx K env σ F H ow dm ∧ t env P ∧ ∀ w, P w → Got K dm F H Q w
def lB (K : PySem.W.Frag) (t : TB) : TE := fun σ H Q => ∃ env F ow dm P, SRx K env σ F H ow dm ∧ t env P ∧ ∀ d, P d → ∀ v F' H', Ext dm F H F' H' → Db K dm F' H' v d → Q v H'
def lT (K : PySem.W.Frag) (t : TQ) : TT := fun σ H Q => ∃ env F ow dm P, SRx K env σ F H ow dm ∧ t env P ∧ ∀ b, P b → ∀ F' H', Ext dm F H F' H' → Q b H'
def lDs (K : PySem.W.Frag) (t : TDs) : TA := fun σ H Q => ∃ env F ow dm P, SRx K env σ F H ow dm ∧ t env P ∧ ∀ ds, P ds → ∀ vs F' H', Ext dm F H F' H' → DbAll K dm F' H' vs ds → Q vs H'
def lWs (K : PySem.W.Frag) (t : TWs) : TA := fun σ H Q => ∃ env F ow dm P, SRx K env σ F H ow dm ∧ t env P ∧ ∀ ws, P ws → ∀ vs F' H' fp, Ext dm F H F' H' → WRs K dm F' H' ws vs fp → fp.Nodup → (∀ a ∈ fp, H a = none) → Q vs H'
def DW (X : Cx) (e : Expr) (t : TW) : Prop := PE X e (lW X.K t)
def DB (X : Cx) (e : Expr) (t : TB) : Prop := PE X e (lB X.K t)
def DT (X : Cx) (e : Expr) (t : TQ) : Prop := PT X e (lT X.K t)
def DTw (X : Cx) (e : Expr) (t : TQ) : Prop := PW X e (lT X.K t)
def DA (X : Cx) (es : List Expr) (t : TDs) : Prop := PA X es (lDs X.K t)
def DAw (X : Cx) (es : List Expr) (t : TWs) : Prop := PA X es (lWs X.K t)

section
variable {X : Cx} {e a b c : Expr} {es : List Expr} {pos : Pos}
/-- what is made may be looked at -/
def dLook (t : TW) : TB := fun env Q => t env fun w => w.plain = true ∧ Q w.data
theorem db_w {t : TW} (h : DW X e t) : DB X e (dLook t) := by
  refine pe_mono h fun σ H Q ⟨env, F, ow, dm, P, S, q, k⟩ => ⟨env, F, ow, dm, _, S, q, fun w ⟨hp, hP⟩ v F' H' fp x r nd fr => ?_⟩
  have nM : ∀ a ∈ fp, ¬ isM dm a := fun a ha => S.notMN (fr a ha)
  have hF : ∀ a ∈ fp, F' a = none := fun a ha => (r.there a ha).2
  exact k w.data hP v _ H' (x.freeze hF fr nM) (.inl (r.frozen (addF_same hF) hp fun a ha => if_pos ha))

/-! ### names, constants -/
/-- data in a slot -/
def dVar (i : Nat) : TW := fun env Q => match env[i]? with
  | some (some (.fz d)) => Q (.fz d)
  | some (some .deal) => Q .deal
  | some (some (.scr ns)) => Q (.scr ns)
  | some (some (.oth o)) => o.still = true ∧ Q (.oth o)
  | _ => False
theorem dw_var (i : Nat) {x : Str} (h : PE X (.Name x pos) (tVar i)) : DW X (.Name x pos) (dVar i) := by
  refine pe_mono h fun σ H Q ⟨env, F, ow, dm, P, S, q, k⟩ => ?_
  unfold dVar at q
  split at q
  · rename_i d e
    obtain ⟨v, fp, h1, h2, _, _⟩ := S.sl i _ e
    exact ⟨v, h1, k _ q v F H [] S.refl (by cases h2; exact .fz ‹_›) List.nodup_nil (fun _ ha => nomatch ha)⟩
  · rename_i e
    obtain ⟨v, fp, h1, h2, _, _⟩ := S.sl i _ e
    exact ⟨v, h1, k _ q v F H [] S.refl (by cases h2; exact .deal ‹_›) List.nodup_nil (fun _ ha => nomatch ha)⟩
  · rename_i e
    obtain ⟨v, fp, h1, h2, _, _⟩ := S.sl i _ e
    exact ⟨v, h1, k _ q v F H [] S.refl (by cases h2; exact .scr ‹_› ‹_›) List.nodup_nil (fun _ ha => nomatch ha)⟩
  · rename_i o e
    obtain ⟨v, fp, h1, h2, _, _⟩ := S.sl i _ e
    cases h2 with
    | oth h2 =>
      have e0 := o.bare q.1 h2
      subst e0
      exact ⟨v, h1, k _ q.2 v F H [] S.refl (.oth h2) List.nodup_nil (fun _ ha => nomatch ha)⟩
  · exact q.elim
/-- a list's items, all of them data -/
def W.flat : List W → Option (List D)
  | [] => some []
  | .fz d :: ws => (W.flat ws).map (d :: ·)
  | _ :: _ => none
theorem W.flat_dp {K : PySem.W.Frag} {dm : DM} {F H : Hp} : ∀ {ws : List W} {vs : List V} {fp : List Addr} {ds : List D}, WRs K dm F H ws vs fp → W.flat ws = some ds → DpAll K F vs ds
  | [], _, _, ds, .nil, h => by cases h; exact .nil
  | .fz d :: ws, _, _, ds, .cons h r, e => by
    unfold W.flat at e
    cases q : W.flat ws with
    | none => rw [q] at e; cases e
    | some ds' =>
      rw [q] at e
      cases e
      cases h with
      | fz h => exact .cons h (W.flat_dp r q)
  | .own _ :: _, _, _, _, .cons _ _, e => by cases e
  | .oth _ :: _, _, _, _, .cons _ _, e => by cases e
  | .deal :: _, _, _, _, .cons _ _, e => by cases e
  | .scr _ :: _, _, _, _, .cons _ _, e => by cases e
theorem W.flat_map (ds : List D) : W.flat (ds.map .fz) = some ds := by
  induction ds with
  | nil => rfl
  | cons d ds ih => simp [W.flat, ih]
/-- a slot looked at -/
def dSee (i : Nat) : TB := fun env Q => match env[i]? with
  | some (some (.fz d)) => Q d
  | some (some (.own ws)) => match W.flat ws with
    | some ds => Q (.list ds)
    | none => False
  | _ => False
theorem db_var (i : Nat) {x : Str} (h : PE X (.Name x pos) (tVar i)) : DB X (.Name x pos) (dSee i) := by
  refine pe_mono h fun σ H Q ⟨env, F, ow, dm, P, S, q, k⟩ => ?_
  unfold dSee at q
  split at q
  · rename_i d e
    obtain ⟨v, fp, h1, h2, _, _⟩ := S.sl i _ e
    exact ⟨v, h1, k _ q v F H S.refl (by cases h2; exact .inl ‹_›)⟩
  · rename_i ws e
    split at q
    · rename_i ds ef
      obtain ⟨v, fp, h1, h2, _, h4⟩ := S.sl i _ e
      refine ⟨v, h1, k _ q v F H S.refl ?_⟩
      cases h2 with
      | own g1 g2 g3 => exact .inr ⟨_, _, _, rfl, rfl, g2, S.notM (h4 _ (List.mem_cons_self ..)), W.flat_dp g3 ef⟩
    · exact q.elim
  · exact q.elim
def dC (d : D) : TW := fun _ Q => Q (.fz d)
theorem dw_const {v : V} {d : D} (h : PE X e (tC v)) (hd : ∀ F, Dp X.K F v d) : DW X e (dC d) :=
  pe_mono h fun σ H Q ⟨env, F, ow, dm, P, S, q, k⟩ => k _ q v F H [] S.refl (.fz (hd F)) List.nodup_nil (fun _ ha => nomatch ha)
theorem dw_int {i j} : DW X (.Constant (.int i) j pos) (dC (.int i)) := dw_const pe_int fun _ => .int i
theorem dw_bl {b j} : DW X (.Constant (.bool b) j pos) (dC (.bool b)) := dw_const pe_bl fun _ => .bl b
theorem dw_non {j} : DW X (.Constant .none j pos) (dC .none) := dw_const pe_non fun _ => .non
theorem dw_str {x j} : DW X (.Constant (.str x) j pos) (dC (.str x)) := dw_const pe_str fun _ => .str x

/-! ### operators by values -/
/-- what an operation on values makes of data -/
def Snd2 (K : PySem.W.Frag) (r : R2) (g : D → D → (W → Prop) → Prop) : Prop :=
  ∀ (dm : DM) (F H : Hp) (x y : V) (d1 d2 : D) (Q : VK) (P : W → Prop), Same F H → (∀ p, dm = some p → DealAt F H p.1 p.2) → Db K dm F H x d1 → Db K dm F H y d2 → g d1 d2 P → (∀ w, P w → Got K dm F H Q w) → r x y H Q
theorem got_of {K : PySem.W.Frag} {dm : DM} {F H F' H' : Hp} {Q : VK} {w : W} (x : Ext dm F H F' H') (h : Got K dm F H Q w) : Got K dm F' H' Q w := fun v F2 H2 fp x2 r nd fr => by
  refine h v F2 H2 fp (x.trans x2) r nd fun a ha => ?_
  cases q : H a with
  | none => rfl
  | some o => exact absurd (fr a ha) (x.dom (by rw [q]; simp))
def dOp2 (g : D → D → (W → Prop) → Prop) (ta tb : TB) : TW := fun env Q => ta env fun x => tb env fun y => g x y Q
theorem tOp_of {r : R2} {g : D → D → (W → Prop) → Prop} (s : Snd2 X.K r g) {ta tb : TB} {σ : St} {H : Hp} {Q : VK} (h : lW X.K (dOp2 g ta tb) σ H Q) : tOp r (lB X.K ta) (lB X.K tb) σ H Q := by
  obtain ⟨env, F, ow, dm, P, S, q, k⟩ := h
  refine ⟨env, F, ow, dm, _, S, q, fun x hx v F1 H1 x1 r1 => ?_⟩
  refine ⟨env, F1, ow, dm, _, S.ext x1, hx, fun y hy u F2 H2 x2 r2 => ?_⟩
  exact s dm F2 H2 v u x y Q P x2.fh x2.dl (r1.ext x2) r2 hy fun w hw => got_of (x1.trans x2) (k w hw)
theorem dw_op {op : Operator} {r : R2} {g : D → D → (W → Prop) → Prop} {ta tb : TB} (ho : OpR X (binaryOp op) r) (s : Snd2 X.K r g) (ha : DB X a ta) (hb : DB X b tb) : DW X (.BinOp a op b pos) (dOp2 g ta tb) :=
  pe_mono (pe_op ho ha hb) fun _ _ _ h => tOp_of s h
theorem dw_cmp {op : CmpOp} {r : R2} {g : D → D → (W → Prop) → Prop} {ta tb : TB} (ho : OpR X (compareOp op) r) (s : Snd2 X.K r g) (ha : DB X a ta) (hb : DB X b tb) (hm : behindInMarks op b = false := by first | exact nomark _ | rfl) :
    DW X (.Compare a [op] [b] pos) (dOp2 g ta tb) := pe_mono (pe_cmpR ho ha hb hm) fun _ _ _ h => tOp_of s h
theorem dw_ix {r : R2} {g : D → D → (W → Prop) → Prop} {ta tb : TB} (ho : IxR X r) (s : Snd2 X.K r g) (ha : DB X a ta) (hb : DB X b tb) (hs : PlainIx b := by exact fun _ _ => rfl) : DW X (.Subscript a b pos) (dOp2 g ta tb) :=
  pe_mono (pe_ix ho ha hb hs) fun _ _ _ h => tOp_of s h
end
end DL

/-! DL, part c: operators, comparisons, subscripts, displays, calls of built-ins, tests. -/
namespace DL
open PySem L2

section
variable {K : PySem.W.Frag} {dm : DM} {F H : Hp} {Q : VK}
theorem Db.int_inv {v : V} {i : Int} (h : Db K dm F H v (.int i)) : v = .int i := by
  rcases h with h | ⟨_, _, _, _, h, _⟩
  · cases h; rfl
  · cases h
theorem Db.str_inv {v : V} {x : Str} (h : Db K dm F H v (.str x)) : v = .str x := by
  rcases h with h | ⟨_, _, _, _, h, _⟩
  · cases h; rfl
  · cases h
theorem Db.bool_inv {v : V} {x : Bool} (h : Db K dm F H v (.bool x)) : v = .bl x := by
  rcases h with h | ⟨_, _, _, _, h, _⟩
  · cases h; rfl
  · cases h
theorem Db.none_inv {v : V} (h : Db K dm F H v .none) : v = .non := by
  rcases h with h | ⟨_, _, _, _, h, _⟩
  · cases h; rfl
  · cases h
theorem Db.lst_inv (s : Same F H) {v : V} {ds : List D} (h : Db K dm F H v (.list ds)) : ∃ a vs, v = .ref a ∧ H a = some (.lst vs) ∧ DpAll K F vs ds := by
  rcases h with h | ⟨a, vs, ds', h1, h2, h3, _, h5⟩
  · cases h with
    | lst h r => exact ⟨_, _, rfl, s _ _ h, r⟩
  · cases h2
    exact ⟨a, vs, h1, h3, h5⟩
theorem Db.tup_inv (s : Same F H) {v : V} {ds : List D} (h : Db K dm F H v (.tuple ds)) : ∃ a vs, v = .ref a ∧ XT K F a vs ∧ SqT K H a vs ∧ DpAll K F vs ds := by
  rcases h with h | ⟨a, vs, ds', h1, h2, h3, _, h5⟩
  · cases h with
    | tup h r => exact ⟨_, _, rfl, h, sqT_same s h.sq, r⟩
  · cases h2
theorem dpAll_length : ∀ {vs : List V} {ds : List D}, DpAll K F vs ds → vs.length = ds.length
  | _, _, .nil => rfl
  | _, _, .cons _ r => congrArg (· + 1) (dpAll_length r)
theorem dpAll_get : ∀ {vs : List V} {ds : List D} {i : Nat} {d : D}, DpAll K F vs ds → ds[i]? = some d → ∃ v, vs[i]? = some v ∧ Dp K F v d
  | _, _, _, _, .nil, e => by simp at e
  | _, _, 0, _, .cons h _, e => by simp at e; subst e; exact ⟨_, rfl, h⟩
  | _, _, i + 1, _, .cons _ r, e => by
    obtain ⟨v, h1, h2⟩ := dpAll_get (i := i) r (by simpa using e)
    exact ⟨v, by simpa using h1, h2⟩
theorem dpAll_take : ∀ {vs : List V} {ds : List D} (n : Nat), DpAll K F vs ds → DpAll K F (vs.take n) (ds.take n)
  | _, _, 0, _ => .nil
  | _, _, _ + 1, .nil => .nil
  | _, _, n + 1, .cons h r => .cons h (dpAll_take n r)
theorem dpAll_drop : ∀ {vs : List V} {ds : List D} (n : Nat), DpAll K F vs ds → DpAll K F (vs.drop n) (ds.drop n)
  | _, _, 0, r => r
  | _, _, _ + 1, .nil => .nil
  | _, _, n + 1, .cons _ r => dpAll_drop n r
theorem dpAll_append : ∀ {vs us : List V} {ds es : List D}, DpAll K F vs ds → DpAll K F us es → DpAll K F (vs ++ us) (ds ++ es)
  | _, _, _, _, .nil, s => s
  | _, _, _, _, .cons h r, s => .cons h (dpAll_append r s)
theorem dpAll_reverse : ∀ {vs : List V} {ds : List D}, DpAll K F vs ds → DpAll K F vs.reverse ds.reverse
  | _, _, .nil => .nil
  | _, _, .cons h r => by
    rw [List.reverse_cons, List.reverse_cons]
    exact dpAll_append (dpAll_reverse r) (.cons h .nil)
theorem dpAll_ints : ∀ {vs : List V} {ns : List Int}, DpAll K F vs (ns.map .int) → vs = ns.map V.int
  | _, [], .nil => rfl
  | _, n :: ns, .cons h r => by
    cases h
    rw [dpAll_ints (ns := ns) r]
    rfl
theorem dpAll_repeat {vs : List V} {ds : List D} (h : DpAll K F vs ds) : ∀ n : Nat, DpAll K F (List.replicate n vs).flatten (List.replicate n ds).flatten
  | 0 => .nil
  | n + 1 => by
    rw [List.replicate_succ, List.replicate_succ, List.flatten_cons, List.flatten_cons]
    exact dpAll_append h (dpAll_repeat h n)
theorem wrs_fz : ∀ {vs : List V} {ds : List D}, DpAll K F vs ds → WRs K dm F H (ds.map .fz) vs []
  | _, _, .nil => .nil
  | _, _, .cons h r => .cons (.fz h) (wrs_fz r)

/-! ### what is handed on -/
theorem got_here (hs : Same F H) (dl : ∀ p, dm = some p → DealAt F H p.1 p.2) {v : V} {d : D} (r : Dp K F v d) (h : Got K dm F H Q (.fz d)) : Q v H :=
  h v F H [] ⟨Same.refl F, fun _ _ h _ => h, fun _ h _ => h, hs, dl⟩ (.fz r) List.nodup_nil (fun _ ha => nomatch ha)
theorem got_tup (hs : Same F H) (dl : ∀ p, dm = some p → DealAt F H p.1 p.2) {vs : List V} {ds : List D} (r : DpAll K F vs ds) (h : Got K dm F H Q (.fz (.tuple ds))) : NewT H vs Q := by
  intro p o hp ho
  have x := Ext.laid (dm := dm) (o := .frz o (.tup vs)) hs dl hp
  exact h _ _ _ [] x (.fz (.tup (.inl ⟨o, upd_same, ho⟩) (dpAll_same x.ff r))) List.nodup_nil (fun _ ha => nomatch ha)
theorem got_lst (hs : Same F H) (dl : ∀ p, dm = some p → DealAt F H p.1 p.2) {vs : List V} {ws : List W} {fp : List Addr} {F0 H0 : Hp} (x0 : Ext dm F0 H0 F H) (r : WRs K dm F H ws vs fp) (nd : fp.Nodup) (fr : ∀ a ∈ fp, H0 a = none)
    (h : Got K dm F0 H0 Q (.own ws)) {p : Addr} (hp : H p = none) : Q (.ref p) (upd H p (.lst vs)) := by
  have x := Ext.laidOwn (dm := dm) (o := .lst vs) hs dl hp
  have np : ∀ a ∈ fp, a ≠ p := fun a ha e => (r.there a ha).1 (e ▸ hp)
  refine h _ _ _ (p :: fp) (x0.trans x) (.own (hs.free hp) upd_same (r.mono (Same.refl F) fun a ha => ⟨upd_ne (np a ha), (r.there a ha).2⟩)) (List.nodup_cons.mpr ⟨fun z => np p z rfl, nd⟩) fun a ha => ?_
  rcases List.mem_cons.mp ha with rfl | ha
  · cases q : H0 a with
    | none => rfl
    | some o => exact absurd hp (x0.dom (by rw [q]; simp))
  · exact fr a ha
theorem got_lst0 (hs : Same F H) (dl : ∀ p, dm = some p → DealAt F H p.1 p.2) {vs : List V} {ds : List D} (r : DpAll K F vs ds) (h : Got K dm F H Q (.own (ds.map .fz))) {p : Addr} (hp : H p = none) : Q (.ref p) (upd H p (.lst vs)) :=
  got_lst hs dl ⟨Same.refl F, fun _ _ h _ => h, fun _ h _ => h, hs, dl⟩ (wrs_fz r) List.nodup_nil (fun _ ha => nomatch ha) h hp
end

/-! ### ints -/
def gI (C : Int → Int → Prop) (f : Int → Int → D) : D → D → (W → Prop) → Prop := fun x y P => match x, y with
  | .int i, .int j => C i j ∧ P (.fz (f i j))
  | _, _ => False
def cT : Int → Int → Prop := fun _ _ => True
section
variable {K : PySem.W.Frag}
theorem snd_I {C C' : Int → Int → Prop} {f : Int → Int → Int} (hC : ∀ i j, C i j → C' i j) : Snd2 K (rI C' fun i j => .int (f i j)) (gI C fun i j => .int (f i j)) := by
  intro dm F H x y d1 d2 Q P hs dl h1 h2 g k
  unfold gI at g
  split at g
  · cases h1.int_inv; cases h2.int_inv
    exact ⟨_, _, rfl, rfl, hC _ _ g.1, got_here hs dl (.int _) (k _ g.2)⟩
  · exact g.elim
theorem snd_I0 {f : Int → Int → Int} : Snd2 K (rI0 fun i j => .int (f i j)) (gI cT fun i j => .int (f i j)) := by
  intro dm F H x y d1 d2 Q P hs dl h1 h2 g k
  unfold gI at g
  split at g
  · cases h1.int_inv; cases h2.int_inv
    exact ⟨_, _, rfl, rfl, got_here hs dl (.int _) (k _ g.2)⟩
  · exact g.elim
theorem snd_B0 {f : Int → Int → Bool} : Snd2 K (rI0 fun i j => .bl (f i j)) (gI cT fun i j => .bool (f i j)) := by
  intro dm F H x y d1 d2 Q P hs dl h1 h2 g k
  unfold gI at g
  split at g
  · cases h1.int_inv; cases h2.int_inv
    exact ⟨_, _, rfl, rfl, got_here hs dl (.bl _) (k _ g.2)⟩
  · exact g.elim
end
section
variable {X : Cx} {a b c : Expr} {ta tb tc : TB} {pos : Pos}
abbrev dSub (ta tb : TB) : TW := dOp2 (gI cT fun i j => .int (i - j)) ta tb
abbrev dDiv (ta tb : TB) : TW := dOp2 (gI CDivW fun i j => .int (i / j)) ta tb
abbrev dMod (ta tb : TB) : TW := dOp2 (gI (fun _ j => 0 < j) fun i j => .int (i % j)) ta tb
abbrev dPow (ta tb : TB) : TW := dOp2 (gI CPow fun i j => .int (i ^ j.toNat)) ta tb
theorem dw_sub (ha : DB X a ta) (hb : DB X b tb) : DW X (.BinOp a .Sub b pos) (dSub ta tb) := dw_op op_sub snd_I0 ha hb
theorem dw_div (ha : DB X a ta) (hb : DB X b tb) : DW X (.BinOp a .FloorDiv b pos) (dDiv ta tb) := dw_op op_fdivW (snd_I fun _ _ h => h) ha hb
theorem dw_mod (ha : DB X a ta) (hb : DB X b tb) : DW X (.BinOp a .Mod b pos) (dMod ta tb) := dw_op op_mod (snd_I fun _ _ h => h) ha hb
theorem dw_pow (ha : DB X a ta) (hb : DB X b tb) : DW X (.BinOp a .Pow b pos) (dPow ta tb) := dw_op op_pow (snd_I fun _ _ h => h) ha hb
/-- one of two rules -/
theorem opOr {f : Value → Value → Sem Value} {r r' : R2} (h : OpR X f r) (h' : OpR X f r') : OpR X f (fun x y H Q => r x y H Q ∨ r' x y H Q) := fun pins s σ H x y v u Q I rx ry q => q.elim (h pins s σ H x y v u Q I rx ry) (h' pins s σ H x y v u Q I rx ry)
/-- +: ints, texts, lists, tuples -/
def gAdd : D → D → (W → Prop) → Prop := fun x y P => match x, y with
  | .int i, .int j => P (.fz (.int (i + j)))
  | .str i, .str j => i.length + j.length ≤ sizeLine ∧ P (.fz (.str (i ++ j)))
  | .list xs, .list ys => xs.length + ys.length ≤ sizeLine ∧ P (.own ((xs ++ ys).map .fz))
  | .tuple xs, .tuple ys => xs.length + ys.length ≤ sizeLine ∧ P (.fz (.tuple (xs ++ ys)))
  | _, _ => False
abbrev dAdd (ta tb : TB) : TW := dOp2 gAdd ta tb
theorem snd_add {K : PySem.W.Frag} : Snd2 K (fun x y H Q => ((rI0 fun i j => .int (i + j)) x y H Q ∨ (∃ i j, x = .str i ∧ y = .str j ∧ i.length + j.length ≤ sizeLine ∧ Q (.str (i ++ j)) H)) ∨ (rCat x y H Q ∨ rCatX K x y H Q)) gAdd := by
  intro dm F H x y d1 d2 Q P hs dl h1 h2 g k
  unfold gAdd at g
  split at g
  · cases h1.int_inv; cases h2.int_inv
    exact .inl (.inl ⟨_, _, rfl, rfl, got_here hs dl (.int _) (k _ g)⟩)
  · cases h1.str_inv; cases h2.str_inv
    exact .inl (.inr ⟨_, _, rfl, rfl, g.1, got_here hs dl (.str _) (k _ g.2)⟩)
  · obtain ⟨a, vs, rfl, hq, r⟩ := h1.lst_inv hs
    obtain ⟨b, us, rfl, hq2, r2⟩ := h2.lst_inv hs
    exact .inr (.inl ⟨a, b, vs, us, rfl, rfl, hq, hq2, by rw [dpAll_length r, dpAll_length r2]; exact g.1, fun p hp => got_lst0 hs dl (dpAll_append r r2) (k _ g.2) hp⟩)
  · obtain ⟨a, vs, rfl, hF, hq, r⟩ := h1.tup_inv hs
    obtain ⟨b, us, rfl, hF2, hq2, r2⟩ := h2.tup_inv hs
    refine .inr (.inr ⟨a, b, vs, us, rfl, rfl, hq, hq2, by rw [dpAll_length r, dpAll_length r2]; exact g.1, fun e => ?_, fun _ e => ?_, fun _ _ => got_tup hs dl (dpAll_append r r2) (k _ g.2)⟩)
    · subst e
      cases r
      exact got_here hs dl (.tup hF2 r2) (k _ g.2)
    · subst e
      cases r2
      rw [List.append_nil] at g
      exact got_here hs dl (.tup hF r) (k _ g.2)
  · exact g.elim
theorem dw_add (ha : DB X a ta) (hb : DB X b tb) : DW X (.BinOp a .Add b pos) (dAdd ta tb) := dw_op (opOr (opOr op_add op_add_str) (opOr op_cat op_catX)) snd_add ha hb
/-- *: ints, a list times an int -/
def gMul : D → D → (W → Prop) → Prop := fun x y P => match x, y with
  | .int i, .int j => CMulW i j ∧ P (.fz (.int (i * j)))
  | .list xs, .int k => (-(2 ^ 63) ≤ k ∧ k < 2 ^ 63 ∧ xs.length * k.toNat ≤ sizeLine) ∧ P (.own ((List.replicate k.toNat xs).flatten.map .fz))
  | _, _ => False
abbrev dMul (ta tb : TB) : TW := dOp2 gMul ta tb
theorem snd_mul {K : PySem.W.Frag} : Snd2 K (fun x y H Q => (rI CMulW fun i j => .int (i * j)) x y H Q ∨ rRep x y H Q) gMul := by
  intro dm F H x y d1 d2 Q P hs dl h1 h2 g k
  unfold gMul at g
  split at g
  · cases h1.int_inv; cases h2.int_inv
    exact .inl ⟨_, _, rfl, rfl, g.1, got_here hs dl (.int _) (k _ g.2)⟩
  · obtain ⟨a, vs, rfl, hq, r⟩ := h1.lst_inv hs
    cases h2.int_inv
    exact .inr ⟨a, _, vs, rfl, rfl, hq, g.1.1, g.1.2.1, by rw [dpAll_length r]; exact g.1.2.2, fun p hp => got_lst0 hs dl (dpAll_repeat r _) (k _ g.2) hp⟩
  · exact g.elim
theorem dw_mul (ha : DB X a ta) (hb : DB X b tb) : DW X (.BinOp a .Mult b pos) (dMul ta tb) := dw_op (opOr op_mulW op_rep) snd_mul ha hb
/-- an order of numbers, of texts -/
def gOrd (f : Int → Int → Bool) (h : List Nat → List Nat → Bool) : D → D → (W → Prop) → Prop := fun x y P => match x, y with
  | .int i, .int j => P (.fz (.bool (f i j)))
  | .str i, .str j => P (.fz (.bool (h i.cps.toList j.cps.toList)))
  | _, _ => False
theorem snd_ord {K : PySem.W.Frag} {f : Int → Int → Bool} {h : List Nat → List Nat → Bool} : Snd2 K (fun x y H Q => rI0 (fun i j => .bl (f i j)) x y H Q ∨ ∃ i j, x = .str i ∧ y = .str j ∧ Q (.bl (h i.cps.toList j.cps.toList)) H) (gOrd f h) := by
  intro dm F H x y d1 d2 Q P hs dl h1 h2 g k
  unfold gOrd at g
  split at g
  · cases h1.int_inv; cases h2.int_inv
    exact .inl ⟨_, _, rfl, rfl, got_here hs dl (.bl _) (k _ g)⟩
  · cases h1.str_inv; cases h2.str_inv
    exact .inr ⟨_, _, rfl, rfl, got_here hs dl (.bl _) (k _ g)⟩
  · exact g.elim
abbrev gLt : D → D → (W → Prop) → Prop := gOrd (fun i j => decide (i < j)) fun x y => decide (x < y)
abbrev gLe : D → D → (W → Prop) → Prop := gOrd (fun i j => decide (i ≤ j)) fun x y => !decide (y < x)
abbrev dLt (ta tb : TB) : TW := dOp2 gLt ta tb
abbrev dLe (ta tb : TB) : TW := dOp2 gLe ta tb
theorem op_ltA : OpR X (compareOp .Lt) (fun x y H Q => rI0 (fun i j => .bl (decide (i < j))) x y H Q ∨ ∃ i j, x = .str i ∧ y = .str j ∧ Q (.bl (decide (i.cps.toList < j.cps.toList))) H) := opOr op_lt op_lt_str
theorem op_leA : OpR X (compareOp .LtE) (fun x y H Q => rI0 (fun i j => .bl (decide (i ≤ j))) x y H Q ∨ ∃ i j, x = .str i ∧ y = .str j ∧ Q (.bl (!decide (j.cps.toList < i.cps.toList))) H) := opOr op_le op_le_str
abbrev dGt (ta tb : TB) : TW := dOp2 (gI cT fun i j => .bool (decide (i > j))) ta tb
abbrev dGe (ta tb : TB) : TW := dOp2 (gI cT fun i j => .bool (decide (i ≥ j))) ta tb
theorem dw_lt (ha : DB X a ta) (hb : DB X b tb) : DW X (.Compare a [.Lt] [b] pos) (dLt ta tb) := dw_cmp op_ltA snd_ord ha hb
theorem dw_le (ha : DB X a ta) (hb : DB X b tb) : DW X (.Compare a [.LtE] [b] pos) (dLe ta tb) := dw_cmp op_leA snd_ord ha hb
theorem dw_gt (ha : DB X a ta) (hb : DB X b tb) : DW X (.Compare a [.Gt] [b] pos) (dGt ta tb) := dw_cmp op_gt snd_B0 ha hb
theorem dw_ge (ha : DB X a ta) (hb : DB X b tb) : DW X (.Compare a [.GtE] [b] pos) (dGe ta tb) := dw_cmp op_ge snd_B0 ha hb
/-! ### equal, unequal -/
def gEq (neg : Bool) : D → D → (W → Prop) → Prop := fun x y P => match x, y with
  | .int i, .int j => P (.fz (.bool (xor neg (decide (i = j)))))
  | .str i, .str j => P (.fz (.bool (xor neg (decide (i = j)))))
  | _, _ => SeqAt.shaped x = true ∧ SeqAt.shaped y = true ∧ P (.fz (.bool (xor neg (PyData.eqv x y))))
abbrev dEq (ta tb : TB) : TW := dOp2 (gEq false) ta tb
abbrev dNe (ta tb : TB) : TW := dOp2 (gEq true) ta tb
theorem shaped_int (i : Int) : SeqAt.shaped (.int i) = true := by
  simp [SeqAt.shaped, PyData.canLay0, PyData.depth]
theorem eqv_int (i j : Int) : PyData.eqv (.int i) (.int j) = decide (i = j) := by
  simp only [PyData.eqv]
  exact Bool.beq_eq_decide_eq i j
/-- two numbers, two texts, or data of fitting shape -/
theorem snd_eq {K : PySem.W.Frag} : Snd2 K (fun x y H Q => rEq x y H Q ∨ rEqD K x y H Q) (gEq false) := by
  intro dm F H x y d1 d2 Q P hs dl h1 h2 g k
  unfold gEq at g
  split at g
  · cases h1.int_inv; cases h2.int_inv
    refine .inl ⟨rfl, got_here (K := K) hs dl (.bl _) ?_⟩
    have := k _ g
    simpa using this
  · cases h1.str_inv; cases h2.str_inv
    refine .inl ⟨rfl, got_here (K := K) hs dl (.bl _) ?_⟩
    have := k _ g
    simpa using this
  · refine .inr ⟨_, _, (h1.dp hs).l2, (h2.dp hs).l2, g.1, g.2.1, got_here (K := K) hs dl (.bl _) ?_⟩
    have := k _ g.2.2
    rwa [Bool.false_xor] at this
theorem snd_ne {K : PySem.W.Frag} : Snd2 K (fun x y H Q => rNe x y H Q ∨ rNeD K x y H Q) (gEq true) := by
  intro dm F H x y d1 d2 Q P hs dl h1 h2 g k
  unfold gEq at g
  split at g
  · cases h1.int_inv; cases h2.int_inv
    refine .inl ⟨rfl, got_here (K := K) hs dl (.bl _) ?_⟩
    have := k _ g
    simpa using this
  · cases h1.str_inv; cases h2.str_inv
    refine .inl ⟨rfl, got_here (K := K) hs dl (.bl _) ?_⟩
    have := k _ g
    simpa using this
  · refine .inr ⟨_, _, (h1.dp hs).l2, (h2.dp hs).l2, g.1, g.2.1, got_here (K := K) hs dl (.bl _) ?_⟩
    have := k _ g.2.2
    rwa [Bool.true_xor] at this
theorem dw_eq (hu : X.A.units + 64 < cLine) (ha : DB X a ta) (hb : DB X b tb) : DW X (.Compare a [.Eq] [b] pos) (dEq ta tb) := dw_cmp (opOr op_eq (op_eqD hu)) snd_eq ha hb
theorem dw_ne (hu : X.A.units + 64 < cLine) (ha : DB X a ta) (hb : DB X b tb) : DW X (.Compare a [.NotEq] [b] pos) (dNe ta tb) := dw_cmp (opOr op_ne (op_neD hu)) snd_ne ha hb

/-! ### subscripts -/
def gIx : D → D → (W → Prop) → Prop := fun x y P => match x, y with
  | .list ds, .int i => ∃ d, atI ds i = some d ∧ P (.fz d)
  | .tuple ds, .int i => ∃ d, atI ds i = some d ∧ P (.fz d)
  | .str z, .int i => z.length ≤ sizeLine ∧ ∃ c, atI z.cps.toList i = some c ∧ P (.fz (.str ⟨#[c]⟩))
  | _, _ => False
theorem atI_dp {K : PySem.W.Frag} {F : Hp} {vs : List V} {ds : List D} {i : Int} {d : D} (r : DpAll K F vs ds) (h : atI ds i = some d) : ∃ v, atI vs i = some v ∧ Dp K F v d := by
  unfold atI at h ⊢
  rw [dpAll_length r]
  cases q : ixN ds.length i with
  | none => rw [q] at h; cases h
  | some j =>
    rw [q] at h
    exact dpAll_get r h
theorem snd_ix {K : PySem.W.Frag} : Snd2 K (rIx K) gIx := by
  intro dm F H x y d1 d2 Q P hs dl h1 h2 g k
  unfold gIx at g
  split at g
  · obtain ⟨d, e, g⟩ := g
    obtain ⟨a, vs, rfl, hq, r⟩ := h1.lst_inv hs
    cases h2.int_inv
    obtain ⟨v, ev, rv⟩ := atI_dp r e
    exact .inl ⟨a, vs, _, v, rfl, rfl, .of hq, ev, got_here hs dl rv (k _ g)⟩
  · obtain ⟨d, e, g⟩ := g
    obtain ⟨a, vs, rfl, _, hq, r⟩ := h1.tup_inv hs
    cases h2.int_inv
    obtain ⟨v, ev, rv⟩ := atI_dp r e
    exact .inr (.inl ⟨a, vs, _, v, rfl, rfl, hq, ev, got_here hs dl rv (k _ g)⟩)
  · obtain ⟨hz, c, e, g⟩ := g
    cases h1.str_inv
    cases h2.int_inv
    exact .inr (.inr ⟨_, _, c, rfl, rfl, hz, e, got_here hs dl (.str _) (k _ g)⟩)
  · exact g.elim
abbrev dIx (ta tb : TB) : TW := dOp2 gIx ta tb
theorem dw_sub_ix (ha : DB X a ta) (hb : DB X b tb) (hs : PlainIx b := by exact fun _ _ => rfl) : DW X (.Subscript a b pos) (dIx ta tb) := dw_ix ix_seq snd_ix ha hb hs
end
end DL

/-! DL, part d: displays, built-ins, tests, walks, comprehensions. -/
namespace DL
open PySem L2

/-! ### fully frozen looks -/
def lF (K : PySem.W.Frag) (t : TB) : TE := fun σ H Q => ∃ env F ow dm P, SRx K env σ F H ow dm ∧ t env P ∧ ∀ d, P d → ∀ v F' H', Ext dm F H F' H' → Dp K F' v d → Q v H'
def DF (X : Cx) (e : Expr) (t : TB) : Prop := PE X e (lF X.K t)
section
variable {X : Cx} {e a b c : Expr} {es : List Expr} {pos : Pos}
theorem df_w {t : TW} (h : DW X e t) : DF X e (dLook t) := by
  refine pe_mono h fun σ H Q ⟨env, F, ow, dm, P, S, q, k⟩ => ⟨env, F, ow, dm, _, S, q, fun w ⟨hp, hP⟩ v F' H' fp x r nd fr => ?_⟩
  have nM : ∀ a ∈ fp, ¬ isM dm a := fun a ha => S.notMN (fr a ha)
  have hF : ∀ a ∈ fp, F' a = none := fun a ha => (r.there a ha).2
  exact k w.data hP v _ H' (x.freeze hF fr nM) (r.frozen (addF_same hF) hp fun a ha => if_pos ha)
/-- a slot's data, as it is -/
def dRead (i : Nat) : TB := fun env Q => match env[i]? with
  | some (some (.fz d)) => Q d
  | _ => False
theorem df_var (i : Nat) {x : Str} (h : PE X (.Name x pos) (tVar i)) : DF X (.Name x pos) (dRead i) := by
  refine pe_mono h fun σ H Q ⟨env, F, ow, dm, P, S, q, k⟩ => ?_
  unfold dRead at q
  split at q
  · rename_i d e
    obtain ⟨v, fp, h1, h2, _, _⟩ := S.sl i _ e
    exact ⟨v, h1, k _ q v F H S.refl (by cases h2; assumption)⟩
  · exact q.elim

/-! ### arguments -/
def aNil : TDs := fun _ Q => Q []
def aCons (t : TB) (u : TDs) : TDs := fun env Q => t env fun d => u env fun ds => Q (d :: ds)
theorem da_nil : DA X [] aNil := pa_mono pa_nil fun σ H Q ⟨env, F, ow, dm, P, S, q, k⟩ => k _ q [] F H S.refl .nil
theorem da_cons {t : TB} {u : TDs} (h : DB X e t) (hr : DA X es u) (hs : starEach (e :: es) X.env = (false, eval e X.env) :: starEach es X.env := by rfl) : DA X (e :: es) (aCons t u) := by
  refine pa_mono (pa_cons h hr hs) fun σ H Q ⟨env, F, ow, dm, P, S, q, k⟩ => ?_
  refine ⟨env, F, ow, dm, _, S, q, fun d hd v F1 H1 x1 r1 => ⟨env, F1, ow, dm, _, S.ext x1, hd, fun ds hds vs F2 H2 x2 r2 => ?_⟩⟩
  exact k _ hds (v :: vs) F2 H2 (x1.trans x2) (.cons (r1.ext x2) r2)
/-- things made, one after another -/
def wNil : TWs := fun _ Q => Q []
def wCons (t : TW) (u : TWs) : TWs := fun env Q => t env fun w => u env fun ws => Q (w :: ws)
theorem wext {K : PySem.W.Frag} {dm : DM} {F H F' H' : Hp} (x : Ext dm F H F' H') {w : W} {v : V} {fp : List Addr} (r : WR K dm F H w v fp) (nm : ∀ a ∈ fp, ¬ isM dm a) : WR K dm F' H' w v fp :=
  r.mono x.ff fun a ha => by
    have t := r.there a ha
    cases q : H a with
    | none => exact absurd q t.1
    | some o => exact ⟨x.hh a o q (nm a ha), x.nw a t.2 t.1⟩
theorem wexts {K : PySem.W.Frag} {dm : DM} {F H F' H' : Hp} (x : Ext dm F H F' H') {ws : List W} {vs : List V} {fp : List Addr} (r : WRs K dm F H ws vs fp) (nm : ∀ a ∈ fp, ¬ isM dm a) : WRs K dm F' H' ws vs fp :=
  r.mono x.ff fun a ha => by
    have t := r.there a ha
    cases q : H a with
    | none => exact absurd q t.1
    | some o => exact ⟨x.hh a o q (nm a ha), x.nw a t.2 t.1⟩
theorem daw_nil : DAw X [] wNil := pa_mono pa_nil fun σ H Q ⟨env, F, ow, dm, P, S, q, k⟩ => k _ q [] F H [] S.refl .nil List.nodup_nil (fun _ ha => nomatch ha)
theorem daw_cons {t : TW} {u : TWs} (h : DW X e t) (hr : DAw X es u) (hs : starEach (e :: es) X.env = (false, eval e X.env) :: starEach es X.env := by rfl) : DAw X (e :: es) (wCons t u) := by
  refine pa_mono (pa_cons h hr hs) fun σ H Q ⟨env, F, ow, dm, P, S, q, k⟩ => ?_
  refine ⟨env, F, ow, dm, _, S, q, fun w hw v F1 H1 fp x1 r1 nd1 fr1 => ⟨env, F1, ow, dm, _, S.ext x1, hw, fun ws hws vs F2 H2 fq x2 r2 nd2 fr2 => ?_⟩⟩
  have fr2' : ∀ a ∈ fq, H a = none := fun a ha => by
    cases q : H a with
    | none => rfl
    | some o => exact absurd (fr2 a ha) (x1.dom (by rw [q]; simp))
  refine k _ hws (v :: vs) F2 H2 (fp ++ fq) (x1.trans x2) (.cons (wext x2 r1 fun a ha => S.notMN (fr1 a ha)) r2) ?_ fun a ha => (List.mem_append.mp ha).elim (fr1 a) (fr2' a)
  exact List.nodup_append.mpr ⟨nd1, nd2, fun a ha b hb e => (r1.there a ha).1 (by rw [e]; exact fr2 b hb)⟩

/-! ### displays -/
def dLst (t : TWs) : TW := fun env Q => t env fun ws => ws.length ≤ sizeLine ∧ Q (.own ws)
theorem wrs_length {K : PySem.W.Frag} {dm : DM} {F H : Hp} : ∀ {ws : List W} {vs : List V} {fp : List Addr}, WRs K dm F H ws vs fp → vs.length = ws.length
  | _, _, _, .nil => rfl
  | _, _, _, .cons _ r => congrArg (· + 1) (wrs_length r)
theorem dw_lst {t : TWs} (h : DAw X es t) : DW X (.List es pos) (dLst t) := by
  refine pe_mono (pe_lst h) fun σ H Q ⟨env, F, ow, dm, P, S, q, k⟩ => ?_
  refine ⟨env, F, ow, dm, _, S, q, fun ws ⟨hz, hw⟩ vs F1 H1 fp x r nd fr => ⟨by rw [wrs_length r]; exact hz, fun p hp => ?_⟩⟩
  exact got_lst x.fh x.dl x r nd fr (k _ hw) hp
/-- a tuple of data -/
def dTup (t : TWs) : TW := fun env Q => t env fun ws => W.plains ws = true ∧ ws.length ≤ sizeLine ∧ Q (.fz (.tuple (W.datas ws)))
theorem dw_tup {t : TWs} {x1} (h : DAw X es t) : DW X (.Tuple es x1 pos) (dTup t) := by
  refine pe_mono (pe_tupX h) fun σ H Q ⟨env, F, ow, dm, P, S, q, k⟩ => ?_
  refine ⟨env, F, ow, dm, _, S, q, fun ws ⟨hpl, hz, hw⟩ vs F1 H1 fp x r nd fr => ⟨by rw [wrs_length r]; exact hz, ?_⟩⟩
  have hF : ∀ a ∈ fp, F1 a = none := fun a ha => (r.there a ha).2
  have x' := x.freeze hF fr fun a ha => S.notMN (fr a ha)
  have rr := r.frozen (addF_same hF) hpl fun a ha => if_pos ha
  exact got_tup x'.fh x'.dl rr (got_of x' (k _ hw))

/-! ### calls of built-ins by values -/
def SndC (K : PySem.W.Frag) (r : List V → Hp → VK → Prop) (g : List D → (W → Prop) → Prop) : Prop :=
  ∀ (dm : DM) (F H : Hp) (vs : List V) (ds : List D) (Q : VK) (P : W → Prop), Same F H → (∀ p, dm = some p → DealAt F H p.1 p.2) → DbAll K dm F H vs ds → g ds P → (∀ w, P w → Got K dm F H Q w) → r vs H Q
def dCall (g : List D → (W → Prop) → Prop) (t : TDs) : TW := fun env Q => t env fun ds => g ds Q
theorem tCB_of {r : List V → Hp → VK → Prop} {g : List D → (W → Prop) → Prop} (s : SndC X.K r g) {t : TDs} {σ : St} {H : Hp} {Q : VK} (h : lW X.K (dCall g t) σ H Q) : tCB r (lDs X.K t) σ H Q := by
  obtain ⟨env, F, ow, dm, P, S, q, k⟩ := h
  exact ⟨env, F, ow, dm, _, S, q, fun ds hds vs F1 H1 x1 r1 => s dm F1 H1 vs ds Q P x1.fh x1.dl r1 hds fun w hw => got_of x1 (k w hw)⟩
theorem dw_callB {r : List V → Hp → VK → Prop} {g : List D → (W → Prop) → Prop} {t : TDs} {x : Str} {id : String} {p : Pos} (hc : CallR X (.builtin id) r) (s : SndC X.K r g) (hm : X.mg x = none) (ha : DA X (e :: es) t) (hg : Gl X x := by rfl)
    (hv : bootBuiltins x = some (.builtin id) := by decide +kernel) (hn : x ≠ "__name__" := by decide) (hdb : (x == ("__debug__" : Str)) = false := by decide)
    (he : starEach (e :: es) X.env = (false, eval e X.env) :: starEach es X.env := by rfl) (hpl : (backTo pos (starEach es X.env)).any (·.1) = false := by rfl) : DW X (.Call (.Name x p) (e :: es) [] pos) (dCall g t) :=
  pe_mono (pe_callB hc hg hm hv ha hn hdb he hpl) fun _ _ _ h => tCB_of s h
theorem dw_callT {r : List V → Hp → VK → Prop} {g : List D → (W → Prop) → Prop} {t : TDs} {x : Str} {id : String} {p : Pos} (hc : CallR X (.type id) r) (s : SndC X.K r g) (hm : X.mg x = none) (ha : DA X (e :: es) t) (hg : Gl X x := by rfl)
    (hv : bootBuiltins x = some (.type id) := by decide +kernel) (hn : x ≠ "__name__" := by decide) (hdb : (x == ("__debug__" : Str)) = false := by decide)
    (he : starEach (e :: es) X.env = (false, eval e X.env) :: starEach es X.env := by rfl) (hpl : (backTo pos (starEach es X.env)).any (·.1) = false := by rfl) : DW X (.Call (.Name x p) (e :: es) [] pos) (dCall g t) :=
  pe_mono (pe_callTy hc hg hm hv ha hn hdb he hpl) fun _ _ _ h => tCB_of s h

/-! ### tests -/
def dBool (t : TW) : TQ := fun env Q => t env fun w => match w with
  | .fz (.bool b) => Q b
  | _ => False
theorem dt_val {t : TW} (h : DW X e t) (he : ∀ whole, isTrue e X.env whole = (do let v ← whole; standAt e.pos; holding [v] (truthy v)) := by intro _; rfl) : DT X e (dBool t) := by
  refine pt_mono (pt_val h he) fun σ H Q ⟨env, F, ow, dm, P, S, q, k⟩ => ⟨env, F, ow, dm, _, S, q, fun w hw v F1 H1 fp x r nd fr => ?_⟩
  split at hw
  · rename_i b
    cases r with
    | fz r => cases r; exact ⟨b, rfl, k b hw F1 H1 x⟩
  · exact hw.elim
theorem dt_cmp {op : CmpOp} {r : R2} {g : D → D → (W → Prop) → Prop} {ta tb : TB} (ho : OpR X (compareOp op) r) (s : Snd2 X.K r g) (ha : DB X a ta) (hb : DB X b tb) (hm : behindInMarks op b = false := by first | exact nomark _ | rfl) :
    DT X (.Compare a [op] [b] pos) (dBool (dOp2 g ta tb)) := by
  have hh : PT X (.Compare a [op] [b] pos) (tTest (lW X.K (dOp2 g ta tb))) := pt_mono (pt_cmpR ho ha hb hm) fun σ H Q h => tOp_of s h
  refine pt_mono hh fun σ H Q ⟨env, F, ow, dm, P, S, q, k⟩ => ⟨env, F, ow, dm, _, S, q, fun w hw v F1 H1 fp x r nd fr => ?_⟩
  split at hw
  · rename_i b
    cases r with
    | fz r => cases r; exact ⟨b, rfl, k b hw F1 H1 x⟩
  · exact hw.elim
def dAnd (t u : TQ) : TQ := fun env Q => t env fun b => if b = true then u env Q else Q false
def dOr (t u : TQ) : TQ := fun env Q => t env fun b => if b = true then Q true else u env Q
def dNot (t : TQ) : TQ := fun env Q => t env fun b => Q (!b)
theorem lT_and {t u : TQ} {σ : St} {H : Hp} {Q : Bool → Hp → Prop} (h : lT X.K (dAnd t u) σ H Q) : tAnd (lT X.K t) (lT X.K u) σ H Q := by
  obtain ⟨env, F, ow, dm, P, S, q, k⟩ := h
  refine ⟨env, F, ow, dm, _, S, q, fun b hb F1 H1 x => ?_⟩
  cases b with
  | true => exact ⟨env, F1, ow, dm, P, S.ext x, hb, fun b' hb' F2 H2 x2 => k b' hb' F2 H2 (x.trans x2)⟩
  | false => exact k false hb F1 H1 x
theorem lT_or {t u : TQ} {σ : St} {H : Hp} {Q : Bool → Hp → Prop} (h : lT X.K (dOr t u) σ H Q) : tOr (lT X.K t) (lT X.K u) σ H Q := by
  obtain ⟨env, F, ow, dm, P, S, q, k⟩ := h
  refine ⟨env, F, ow, dm, _, S, q, fun b hb F1 H1 x => ?_⟩
  cases b with
  | false => exact ⟨env, F1, ow, dm, P, S.ext x, hb, fun b' hb' F2 H2 x2 => k b' hb' F2 H2 (x.trans x2)⟩
  | true => exact k true hb F1 H1 x
theorem dtw_and1 {t : TQ} (h : DT X a t) : DTw X (.BoolOp .And [a] pos) t := pw_and1 h
theorem dtw_or1 {t : TQ} (h : DT X a t) : DTw X (.BoolOp .Or [a] pos) t := pw_or1 h
theorem dtw_and {t u : TQ} {rest : List Expr} (h : DT X a t) (hr : DTw X (.BoolOp .And (b :: rest) pos) u) : DTw X (.BoolOp .And (a :: b :: rest) pos) (dAnd t u) := pw_mono (pw_and h hr) fun _ _ _ h => lT_and h
theorem dtw_or {t u : TQ} {rest : List Expr} (h : DT X a t) (hr : DTw X (.BoolOp .Or (b :: rest) pos) u) : DTw X (.BoolOp .Or (a :: b :: rest) pos) (dOr t u) := pw_mono (pw_or h hr) fun _ _ _ h => lT_or h
theorem dt_w {t : TQ} (h : DTw X e t) : DT X e t := PW.pt h
theorem dt_not {t : TQ} (h : DT X a t) : DT X (.UnaryOp .Not a pos) (dNot t) :=
  pt_mono (pt_not h) fun σ H Q ⟨env, F, ow, dm, P, S, q, k⟩ => ⟨env, F, ow, dm, _, S, q, fun b hb F1 H1 x => k _ hb F1 H1 x⟩
/-- a test as a value -/
def dIf (c : TQ) (t u : TW) : TW := fun env Q => c env fun b => if b = true then t env Q else u env Q
theorem dw_ifExp {tc : TQ} {t u : TW} (hc : DT X c tc) (ha : DW X a t) (hb : DW X b u) : DW X (.IfExp c a b pos) (dIf tc t u) := by
  refine pe_mono (pe_ifExp hc ha hb) fun σ H Q ⟨env, F, ow, dm, P, S, q, k⟩ => ⟨env, F, ow, dm, _, S, q, fun b hb F1 H1 x => ?_⟩
  cases b with
  | true => exact ⟨env, F1, ow, dm, P, S.ext x, hb, fun w hw => got_of x (k w hw)⟩
  | false => exact ⟨env, F1, ow, dm, P, S.ext x, hb, fun w hw => got_of x (k w hw)⟩
/-- and, or, not of bools, as values -/
def dAndV (t u : TW) : TW := fun env Q => t env fun w => match w with
  | .fz (.bool true) => u env Q
  | .fz (.bool false) => Q (.fz (.bool false))
  | _ => False
def dOrV (t u : TW) : TW := fun env Q => t env fun w => match w with
  | .fz (.bool true) => Q (.fz (.bool true))
  | .fz (.bool false) => u env Q
  | _ => False
def dNotV (t : TW) : TW := fun env Q => t env fun w => match w with
  | .fz (.bool b) => Q (.fz (.bool (!b)))
  | _ => False
theorem dw_one {op} {t : TW} (h : DW X a t) : DW X (.BoolOp op [a] pos) t := pe_one h
theorem dw_and {t u : TW} {rest : List Expr} (h : DW X a t) (hr : DW X (.BoolOp .And (b :: rest) pos) u) : DW X (.BoolOp .And (a :: b :: rest) pos) (dAndV t u) := by
  refine pe_mono (pe_and h hr) fun σ H Q ⟨env, F, ow, dm, P, S, q, k⟩ => ⟨env, F, ow, dm, _, S, q, fun w hw v F1 H1 fp x r nd fr => ?_⟩
  split at hw
  · cases r with
    | fz r => cases r; exact ⟨true, rfl, env, F1, ow, dm, P, S.ext x, hw, fun w hw => got_of x (k w hw)⟩
  · cases r with
    | fz r => cases r; exact ⟨false, rfl, got_here x.fh x.dl (.bl false) (got_of x (k _ hw))⟩
  · exact hw.elim
theorem dw_or {t u : TW} {rest : List Expr} (h : DW X a t) (hr : DW X (.BoolOp .Or (b :: rest) pos) u) : DW X (.BoolOp .Or (a :: b :: rest) pos) (dOrV t u) := by
  refine pe_mono (pe_or h hr) fun σ H Q ⟨env, F, ow, dm, P, S, q, k⟩ => ⟨env, F, ow, dm, _, S, q, fun w hw v F1 H1 fp x r nd fr => ?_⟩
  split at hw
  · cases r with
    | fz r => cases r; exact ⟨true, rfl, got_here x.fh x.dl (.bl true) (got_of x (k _ hw))⟩
  · cases r with
    | fz r => cases r; exact ⟨false, rfl, env, F1, ow, dm, P, S.ext x, hw, fun w hw => got_of x (k w hw)⟩
  · exact hw.elim
theorem dw_not {t : TW} (h : DW X a t) : DW X (.UnaryOp .Not a pos) (dNotV t) := by
  refine pe_mono (pe_not h) fun σ H Q ⟨env, F, ow, dm, P, S, q, k⟩ => ⟨env, F, ow, dm, _, S, q, fun w hw v F1 H1 fp x r nd fr => ?_⟩
  split at hw
  · cases r with
    | fz r => cases r; exact ⟨_, rfl, got_here x.fh x.dl (.bl _) (got_of x (k _ hw))⟩
  · exact hw.elim
end
end DL

/-! DL, part e: targets, walks, comprehensions. -/
namespace DL
open PySem L2

theorem pg_mono {X : Cx} {tg : Expr} {t t' : TG} (h : PG X tg t) (m : ∀ v σ H Q, t' v σ H Q → t v σ H Q) : PG X tg t' := ⟨fun pins s σ H v u Q I r q => h.run pins s σ H v u Q I r (m v σ H Q q)⟩
theorem pgs_mono {X : Cx} {tg : List Expr} {t t' : TGs} (h : PGs X tg t) (m : ∀ v σ H Q, t' v σ H Q → t v σ H Q) : PGs X tg t' := ⟨fun pins s σ H v u Q I r q => h.run pins s σ H v u Q I r (m v σ H Q q)⟩
theorem pi_mono {X : Cx} {tg it : Expr} {t t' : TI} (h : PI X tg it t) (m : ∀ σ H R, t' σ H R → t σ H R) : PI X tg it t' := ⟨fun pins s σ H R I q => h.run pins s σ H R I (m σ H R q)⟩

/-! ### targets: data put into slots -/
abbrev TGd := D → Env → (Env → Prop) → Prop
abbrev TGds := List D → Env → (Env → Prop) → Prop
/-- only slots of ks are touched -/
def Only' (ks : List Nat) (σ σ' : St) : Prop := σ'.length = σ.length ∧ ∀ i, i ∉ ks → σ'[i]? = σ[i]?
def lG (K : PySem.W.Frag) (ks : List Nat) (t : TGd) : TG := fun v σ H Q => ∃ env F ow dm d P, SRx K env σ F H ow dm ∧ Dp K F v d ∧ t d env P ∧ ∀ env', P env' → ∀ σ', SRx K env' σ' F H ow dm → Only' ks σ σ' → Q σ' H
def lGs (K : PySem.W.Frag) (ks : List Nat) (t : TGds) : TGs := fun vs σ H Q => ∃ env F ow dm ds P, SRx K env σ F H ow dm ∧ DpAll K F vs ds ∧ t ds env P ∧ ∀ env', P env' → ∀ σ', SRx K env' σ' F H ow dm → Only' ks σ σ' → Q σ' H
def DG (X : Cx) (tg : Expr) (ks : List Nat) (t : TGd) : Prop := PG X tg (lG X.K ks t)
def DGs (X : Cx) (tg : List Expr) (ks : List Nat) (t : TGds) : Prop := PGs X tg (lGs X.K ks t)
theorem SRx.set {K : PySem.W.Frag} {env : Env} {σ : St} {F H : Hp} {ow : Addr → Option Nat} {dm : DM} (S : SRx K env σ F H ow dm) {i : Nat} {v : V} {d : D} (r : Dp K F v d) : SRx K (env.set i (some (.fz d))) (σ.set i (some v)) F H ow dm := by
  refine ⟨S.same, by rw [List.length_set, List.length_set]; exact S.len, fun j w hw => ?_, S.dl, S.dow⟩
  by_cases e : i = j
  · subst e
    have hi : i < env.length := by
      rcases Nat.lt_or_ge i env.length with h | h
      · exact h
      · rw [List.getElem?_eq_none (by rw [List.length_set]; exact h)] at hw; cases hw
    rw [List.getElem?_set_self hi] at hw
    cases hw
    refine ⟨v, [], ?_, .fz r, List.nodup_nil, fun _ ha => nomatch ha⟩
    rw [List.getElem?_set_self (by rw [← S.len]; exact hi)]
  · rw [List.getElem?_set_ne e] at hw ⊢
    exact S.sl j w hw
theorem Only'.set {σ : St} {i : Nat} {o : Option V} : Only' [i] σ (σ.set i o) := ⟨List.length_set, fun j hj => List.getElem?_set_ne (fun e => hj (by simp [e]))⟩
theorem Only'.trans {ks ls : List Nat} {a b c : St} (h : Only' ks a b) (g : Only' ls b c) : Only' (ks ++ ls) a c :=
  ⟨g.1.trans h.1, fun i hi => (g.2 i fun z => hi (List.mem_append_right _ z)).trans (h.2 i fun z => hi (List.mem_append_left _ z))⟩
theorem wipe_of {ks vs : List Nat} {σ σ' : St} (h : Only' ks σ σ') (hk : ∀ i ∈ ks, i ∈ vs) : wipe σ' vs = wipe σ vs := by
  have get : ∀ (τ : St) (ls : List Nat) (i : Nat), (wipe τ ls)[i]? = if i ∈ ls ∧ i < τ.length then some none else τ[i]? := by
    intro τ ls
    induction ls with
    | nil => intro i; simp [wipe]
    | cons l ls ih =>
      intro i
      unfold wipe
      by_cases e : l = i
      · subst e
        by_cases hl : l < τ.length
        · rw [List.getElem?_set_self (by rw [wipe_length]; exact hl), if_pos ⟨List.mem_cons_self .., hl⟩]
        · rw [if_neg (fun z => hl z.2), List.getElem?_eq_none (by rw [List.length_set, wipe_length]; omega), List.getElem?_eq_none (by omega)]
      · rw [List.getElem?_set_ne e, ih i]
        have : (i ∈ l :: ls ∧ i < τ.length) ↔ (i ∈ ls ∧ i < τ.length) := by
          rw [List.mem_cons]
          exact ⟨fun z => ⟨z.1.resolve_left (fun q => e q.symm), z.2⟩, fun z => ⟨.inr z.1, z.2⟩⟩
        by_cases h2 : i ∈ ls ∧ i < τ.length
        · rw [if_pos h2, if_pos (this.mpr h2)]
        · rw [if_neg h2, if_neg fun z => h2 (this.mp z)]
  apply List.ext_getElem?
  intro i
  rw [get, get, h.1]
  by_cases hv : i ∈ vs ∧ i < σ.length
  · rw [if_pos hv, if_pos hv]
  · rw [if_neg hv, if_neg hv]
    by_cases hi : i ∈ ks
    · have hn : ¬ i < σ.length := fun z => hv ⟨hk i hi, z⟩
      rw [List.getElem?_eq_none (by rw [h.1]; omega), List.getElem?_eq_none (by omega)]
    · exact h.2 i hi
section
variable {X : Cx} {e a b c iter : Expr} {es : List Expr} {pos : Pos}
def gNam (i : Nat) : TGd := fun d env Q => Q (env.set i (some (.fz d)))
theorem dg_name (i : Nat) {x : Str} (h : PG X (.Name x pos) (gName i)) : DG X (.Name x pos) [i] (gNam i) :=
  pg_mono h fun v σ H Q ⟨env, F, ow, dm, d, P, S, r, q, k⟩ => k _ q _ (S.set r) .set
def gNl : TGds := fun ds env Q => ds = [] ∧ Q env
def gCn (t : TGd) (u : TGds) : TGds := fun ds env Q => match ds with
  | d :: r => t d env fun env' => u r env' Q
  | [] => False
theorem dgs_nil : DGs X [] [] gNl := pgs_mono pgs_nil fun vs σ H Q ⟨env, F, ow, dm, ds, P, S, r, q, k⟩ => by
  obtain ⟨rfl, q⟩ := q
  cases r
  exact ⟨rfl, k _ q σ S ⟨rfl, fun _ _ => rfl⟩⟩
theorem dgs_cons {t : TGd} {u : TGds} {ks ls : List Nat} (h : DG X e ks t) (hr : DGs X es ls u) (hs : (assignEach (e :: es) X.env).map (·.2) = assign e X.env :: (assignEach es X.env).map (·.2) := by rfl) : DGs X (e :: es) (ks ++ ls) (gCn t u) := by
  refine pgs_mono (pgs_cons h hr hs) fun vs σ H Q ⟨env, F, ow, dm, ds, P, S, r, q, k⟩ => ?_
  cases r with
  | nil => exact q.elim
  | cons r rr =>
    refine ⟨_, _, rfl, env, F, ow, dm, _, _, S, r, q, fun env1 q1 σ1 S1 o1 => ⟨env1, F, ow, dm, _, P, S1, rr, q1, fun env2 q2 σ2 S2 o2 => k _ q2 σ2 S2 (o1.trans o2)⟩⟩
def gTp (n : Nat) (t : TGds) : TGd := fun d env Q => match d with
  | .tuple ds => ds.length = n ∧ t ds env Q
  | _ => False
theorem dg_tup {k : Nat} {t : TGds} {n : Nat} {ks : List Nat} (h : DGs X es ks t) (hc : X.calm = true := by rfl) (hn : (assignEach es X.env).length = n := by rfl) (hst : (assignEach es X.env).findIdx? (·.1) = none := by rfl) : DG X (.Tuple es k pos) ks (gTp n t) := by
  refine pg_mono (pg_tup hc h hn hst) fun v σ H Q ⟨env, F, ow, dm, d, P, S, r, q, kk⟩ => ?_
  unfold gTp at q
  split at q
  · cases r with
    | tup h1 h2 => exact ⟨_, _, rfl, sqT_same S.same h1.sq, (dpAll_length h2).trans q.1, env, F, ow, dm, _, P, S, h2, q.2, kk⟩
  · exact q.elim

/-! ### walks -/
/-- the walk J yields these, as long as the cells at C stand -/
def ItR (K : PySem.W.Frag) (C : Addr → Prop) (F1 H1 : Hp) (J : It) (items : List D) : Prop :=
  ∀ (dm : DM) F H, Same F1 F → Same F H → (∀ p, dm = some p → DealAt F H p.1 p.2) → (∀ b, C b → H b = H1 b) →
    (∀ i d, items[i]? = some d → J.go i H ∧ ∀ x H', J.yld i H x H' → ∃ F', Ext dm F H F' H' ∧ Dp K F' x d) ∧ J.stop items.length H
abbrev TIt := Env → (List D → Prop) → Prop
/-- a walk; st: it leans on data alone -/
def lI (K : PySem.W.Frag) (st : Bool) (t : TIt) : TI := fun σ H R => ∃ env F ow dm P, SRx K env σ F H ow dm ∧ t env P ∧ ∀ items, P items → ∀ J F1 H1 C, Ext dm F H F1 H1 → ItR K C F1 H1 J items → (∀ b, C b → st = false ∧ H1 b ≠ none ∧ ¬ isM dm b) → R J H1
def DI (X : Cx) (st : Bool) (tg iter : Expr) (t : TIt) : Prop := PI X tg iter (lI X.K st t)
def items2 (lo : Int) (n : Nat) : List D := (List.range n).map fun i => .int (lo + (i : Nat))
theorem items2_get {lo : Int} {n i : Nat} {d : D} (h : (items2 lo n)[i]? = some d) : i < n ∧ d = .int (lo + (i : Nat)) := by
  unfold items2 at h
  rw [List.getElem?_map] at h
  cases q : (List.range n)[i]? with
  | none => rw [q] at h; cases h
  | some j =>
    rw [q] at h
    obtain ⟨h1, h2⟩ := List.getElem?_eq_some_iff.mp q
    rw [List.length_range] at h1
    rw [List.getElem_range] at h2
    subst h2
    exact ⟨h1, (Option.some.inj h).symm⟩
theorem itr_range {K : PySem.W.Frag} {F1 H1 : Hp} {lo : Int} {n : Nat} : ItR K (fun _ => False) F1 H1 (Itr lo n) (items2 lo n) := fun dm F H h1 h2 h3 _ =>
  ⟨fun i d hd => by
    obtain ⟨hi, rfl⟩ := items2_get hd
    exact ⟨hi, fun x H' ⟨e1, e2⟩ => by subst e1; subst e2; exact ⟨F, ⟨Same.refl F, fun _ _ h _ => h, fun _ h _ => h, h2, h3⟩, .int _⟩⟩, by show n ≤ _; unfold items2; rw [List.length_map, List.length_range]; exact Nat.le_refl _⟩
def iRange1 (t : TDs) : TIt := fun env Q => t env fun ds => match ds with
  | [.int j] => -(2 ^ 62) ≤ j ∧ j < 2 ^ 62 ∧ Q (items2 0 j.toNat)
  | _ => False
def iRange2 (t : TDs) : TIt := fun env Q => t env fun ds => match ds with
  | [.int i, .int j] => (-(2 ^ 62) ≤ i ∧ i < 2 ^ 62 ∧ -(2 ^ 62) ≤ j ∧ j < 2 ^ 62) ∧ Q (items2 i (j - i).toNat)
  | _ => False
variable {st : Bool} {tg : Expr} {p : Pos}
theorem di_range1 {t : TDs} (hm : X.mg "range" = none) (ha : DA X [a] t) (hg : Gl X "range" := by rfl) (hs : starEach [a] X.env = [(false, eval a X.env)] := by rfl) : DI X st tg (.Call (.Name "range" p) [a] [] pos) (iRange1 t) := by
  refine pi_mono (pi_range1 hg hm ha hs) fun σ H R ⟨env, F, ow, dm, P, S, q, k⟩ => ⟨env, F, ow, dm, _, S, q, fun ds hds vs F1 H1 x r => ?_⟩
  split at hds
  · cases r with
    | cons r rr =>
      cases rr
      cases r.int_inv
      exact ⟨_, rfl, hds.1, hds.2.1, k _ hds.2.2 _ F1 H1 _ x itr_range fun _ hb => hb.elim⟩
  · exact hds.elim
theorem di_range2 {t : TDs} (hm : X.mg "range" = none) (ha : DA X [a, b] t) (hg : Gl X "range" := by rfl) (hs : starEach [a, b] X.env = [(false, eval a X.env), (false, eval b X.env)] := by rfl)
    (hs2 : starEach [b] X.env = [(false, eval b X.env)] := by rfl) : DI X st tg (.Call (.Name "range" p) [a, b] [] pos) (iRange2 t) := by
  refine pi_mono (pi_range2 hg hm ha hs hs2) fun σ H R ⟨env, F, ow, dm, P, S, q, k⟩ => ⟨env, F, ow, dm, _, S, q, fun ds hds vs F1 H1 x r => ?_⟩
  split at hds
  · cases r with
    | cons r rr =>
      cases rr with
      | cons r' rr =>
        cases rr
        cases r.int_inv
        cases r'.int_inv
        exact ⟨_, _, rfl, hds.1, k _ hds.2 _ F1 H1 _ x itr_range fun _ hb => hb.elim⟩
  · exact hds.elim

/-- a list or a tuple walked, whichever it is -/
def iSeq (K : PySem.W.Frag) (tl : TE) : TI := fun σ H R => tl σ H fun x H1 => ∃ a, x = .ref a ∧ ((∃ xs, SqL K H1 a xs) ∧ R (Itl K a) H1 ∨ (∃ xs, SqT K H1 a xs) ∧ R (Itt K a) H1)
theorem fp_one {X : Cx} {pins : List (Addr × Obj)} {σ : St} {H : Hp} {s : Shared} (I : Inv X pins σ H s) : ∀ b ∈ [s.heap.objs.size], FpOk X pins H b := fun b hb => by
  rw [List.mem_singleton.mp hb]
  exact I.fpOk (Nat.le_refl _) (I.hok.fresh (Nat.le_refl _))
theorem pi_seq {l : Expr} {tl : TE} (hl : PE X l tl) : PI X tg l (iSeq X.K tl) := by
  refine ⟨fun pins s σ H R I h => thn (hl.run pins s σ H _ I h) fun v s1 ⟨x, H1, I1, r1, a, ea, q⟩ => ?_⟩
  subst ea
  cases r1
  have J : ∀ u : Obj, Inv X pins σ H1 { s1 with heap := s1.heap.push u, toks := s1.toks } := fun u => I1.kept fun b o e => Heap.get?_push_of_some _ e
  rcases q with ⟨⟨xs, hq⟩, q⟩ | ⟨⟨xs, hq⟩, q⟩
  · obtain ⟨its, rv, pl, hz⟩ := I1.list hq
    exact wpAny_pyIter_list pl.isList ⟨s1.heap.objs.size, [s1.heap.objs.size], _, _, H1, rfl, J _, turn_list a _, ⟨_, Heap.get?_push_size _ rfl, rfl, rfl⟩, fp_one I1, q⟩
  · obtain ⟨its, rv, pl, hz⟩ := I1.tuple hq
    exact wpAny_pyIter_tuple (show s1.heap.IsTuple a its.toArray from pl) ⟨s1.heap.objs.size, [s1.heap.objs.size], _, _, H1, rfl, J _, turn_tuple a _, ⟨_, Heap.get?_push_size _ rfl, rfl, rfl⟩, fp_one I1, q⟩
theorem itr_list {K : PySem.W.Frag} {F1 H1 : Hp} {C : Addr → Prop} {a : Addr} {vs : List V} {ds : List D} (hq : ∀ F H, Same F1 F → Same F H → (∀ b, C b → H b = H1 b) → SqL K H a vs) (r : DpAll K F1 vs ds) : ItR K C F1 H1 (Itl K a) ds := fun dm F H h1 h2 h3 h4 => by
  have q := hq F H h1 h2 h4
  refine ⟨fun i d hd => ?_, ⟨vs, q, by rw [dpAll_length r]; exact Nat.le_refl _⟩⟩
  obtain ⟨v, e, rv⟩ := dpAll_get r hd
  refine ⟨⟨vs, v, q, e⟩, fun x H' ⟨e1, e2⟩ => ?_⟩
  have e3 := e2 vs q
  rw [e] at e3
  cases e3
  subst e1
  exact ⟨F, ⟨Same.refl F, fun _ _ h _ => h, fun _ h _ => h, h2, h3⟩, dp_same h1 rv⟩
theorem itr_tup {K : PySem.W.Frag} {F1 H1 : Hp} {C : Addr → Prop} {a : Addr} {vs : List V} {ds : List D} (hq : SqT K F1 a vs) (r : DpAll K F1 vs ds) : ItR K C F1 H1 (Itt K a) ds := fun dm F H h1 h2 h3 h4 => by
  have q := sqT_same (h1.trans h2) hq
  refine ⟨fun i d hd => ?_, ⟨vs, q, by rw [dpAll_length r]; exact Nat.le_refl _⟩⟩
  obtain ⟨v, e, rv⟩ := dpAll_get r hd
  refine ⟨⟨vs, v, q, e⟩, fun x H' ⟨e1, e2⟩ => ?_⟩
  have e3 := e2 vs q
  rw [e] at e3
  cases e3
  subst e1
  exact ⟨F, ⟨Same.refl F, fun _ _ h _ => h, fun _ h _ => h, h2, h3⟩, dp_same h1 rv⟩
def iOver (t : TB) : TIt := fun env Q => t env fun d => match d with
  | .list ds => Q ds
  | .tuple ds => Q ds
  | _ => False
/-- data walked -/
theorem di_f {t : TB} (h : DF X e t) : DI X st tg e (iOver t) := by
  refine pi_mono (pi_seq h) fun σ H R ⟨env, F, ow, dm, P, S, q, k⟩ => ⟨env, F, ow, dm, _, S, q, fun d hd v F1 H1 x r => ?_⟩
  split at hd
  · cases r with
    | lst h1 h2 => exact ⟨_, rfl, .inl ⟨⟨_, .of (x.fh _ _ h1)⟩, k _ hd _ F1 H1 (fun _ => False) x (itr_list (fun F H e1 e2 _ => .of ((e1.trans e2) _ _ h1)) h2) fun _ z => z.elim⟩⟩
  · cases r with
    | tup h1 h2 => exact ⟨_, rfl, .inr ⟨⟨_, sqT_same x.fh h1.sq⟩, k _ hd _ F1 H1 (fun _ => False) x (itr_tup h1.sq h2) fun _ z => z.elim⟩⟩
  · exact hd.elim
/-- what is looked at, walked (in a comprehension) -/
theorem di_b {t : TB} (h : DB X e t) : DI X false tg e (iOver t) := by
  refine pi_mono (pi_seq h) fun σ H R ⟨env, F, ow, dm, P, S, q, k⟩ => ⟨env, F, ow, dm, _, S, q, fun d hd v F1 H1 x r => ?_⟩
  rcases r with r | ⟨a, vs, ds, rfl, rfl, h3, h4, h5⟩
  · split at hd
    · cases r with
      | lst h1 h2 => exact ⟨_, rfl, .inl ⟨⟨_, .of (x.fh _ _ h1)⟩, k _ hd _ F1 H1 (fun _ => False) x (itr_list (fun F H e1 e2 _ => .of ((e1.trans e2) _ _ h1)) h2) fun _ z => z.elim⟩⟩
    · cases r with
      | tup h1 h2 => exact ⟨_, rfl, .inr ⟨⟨_, sqT_same x.fh h1.sq⟩, k _ hd _ F1 H1 (fun _ => False) x (itr_tup h1.sq h2) fun _ z => z.elim⟩⟩
    · exact hd.elim
  · exact ⟨a, rfl, .inl ⟨⟨vs, .of h3⟩, k _ hd _ F1 H1 (fun b => b = a) x (itr_list (fun F H e1 e2 e3 => .of ((e3 a rfl).trans h3)) h5) fun b hb => by subst hb; exact ⟨rfl, by rw [h3]; simp, h4⟩⟩⟩
end
end DL

/-! DL, part f: comprehensions. -/
namespace DL
open PySem L2

def dYes : TQ := fun _ Q => Q true
def DTs (X : Cx) (ifs : List Expr) (t : TQ) : Prop := PTs X ifs (lT X.K t)
theorem pts_mono {X : Cx} {e : List Expr} {t t' : TT} (h : PTs X e t) (m : ∀ σ H Q, t' σ H Q → t σ H Q) : PTs X e t' := ⟨fun pins s σ H Q I q => h.run pins s σ H Q I (m σ H Q q)⟩
theorem dts_nil {X : Cx} : DTs X [] dYes := pts_mono pts_nil fun σ H Q ⟨env, F, ow, dm, P, S, q, k⟩ => k true q F H S.refl
theorem dts_one {X : Cx} {c : Expr} {t : TQ} (h : DT X c t) : DTs X [c] t := pts_one h

def wipeE (env : Env) : List Nat → Env
  | [] => env
  | v :: vs => (wipeE env vs).set v none
theorem SRx.unset {K : PySem.W.Frag} {env : Env} {σ : St} {F H : Hp} {ow : Addr → Option Nat} {dm : DM} (S : SRx K env σ F H ow dm) {i : Nat} {o : Option V} : SRx K (env.set i none) (σ.set i o) F H ow dm := by
  refine ⟨S.same, by rw [List.length_set, List.length_set]; exact S.len, fun j w hw => ?_, S.dl, S.dow⟩
  by_cases e : i = j
  · subst e
    rcases Nat.lt_or_ge i env.length with h | h
    · rw [List.getElem?_set_self h] at hw; cases hw
    · rw [List.getElem?_eq_none (by rw [List.length_set]; exact h)] at hw; cases hw
  · rw [List.getElem?_set_ne e] at hw ⊢
    exact S.sl j w hw
theorem SRx.wipe {K : PySem.W.Frag} {env : Env} {σ : St} {F H : Hp} {ow : Addr → Option Nat} {dm : DM} (S : SRx K env σ F H ow dm) : ∀ vs : List Nat, SRx K (wipeE env vs) (L2.wipe σ vs) F H ow dm
  | [] => S
  | v :: vs => (SRx.wipe S vs).unset

theorem only_wipe (σ : St) : ∀ vs : List Nat, Only' vs σ (L2.wipe σ vs)
  | [] => ⟨rfl, fun _ _ => rfl⟩
  | v :: vs => ⟨wipe_length σ (v :: vs), fun i hi => by
    have h := (only_wipe σ vs).2 i fun z => hi (List.mem_cons_of_mem _ z)
    show ((L2.wipe σ vs).set v none)[i]? = σ[i]?
    rw [List.getElem?_set_ne fun e => hi (by rw [e]; exact List.mem_cons_self ..)]
    exact h⟩
/-- one turn after another: what is made is put behind -/
def compW (env : Env) (g : TGd) (tq : TQ) (tw : TW) : List D → List W → (W → Prop) → Prop
  | [], acc, Q => Q (.own acc)
  | d :: ds, acc, Q => g d env fun env2 => tq env2 fun b => if b = true then tw env2 fun w => compW env g tq tw ds (acc ++ [w]) Q else compW env g tq tw ds acc Q
def dComp (vs : List Nat) (ti : TIt) (g : TGd) (tq : TQ) (tw : TW) : TW := fun env Q => ti env fun items => items.length < sizeLine ∧ compW (wipeE env vs) g tq tw items [] Q

theorem Ext.upd {dm : DM} {F1 H1 F H : Hp} (x : Ext dm F1 H1 F H) {d : Addr} {o : HO} (h1 : H1 d = none) (h2 : F d = none) (nm : ¬ isM dm d) : Ext dm F1 H1 F (upd H d o) where
  ff := x.ff
  hh := fun a u h m => by rw [upd_ne (ne_of_none h h1)]; exact x.hh a u h m
  nw := x.nw
  fh := fun a u h => by rw [upd_ne (ne_of_none h h2)]; exact x.fh a u h
  dl := fun p hp => by
    have q := x.dl p hp
    have n1 : p.1 ≠ d := fun e => nm ⟨p, hp, .inl e.symm⟩
    have n2 : p.2 ≠ d := fun e => nm ⟨p, hp, .inr e.symm⟩
    exact ⟨q.fa, q.fb, by rw [upd_ne n1, upd_ne n2]; exact q.ex⟩
theorem WRs.app {K : PySem.W.Frag} {dm : DM} {F H : Hp} : ∀ {ws : List W} {vs : List V} {fp : List Addr} {us : List W} {zs : List V} {fq : List Addr}, WRs K dm F H ws vs fp → WRs K dm F H us zs fq → WRs K dm F H (ws ++ us) (vs ++ zs) (fp ++ fq)
  | _, _, _, _, _, _, .nil, s => s
  | _, _, _, _, _, _, .cons h r, s => by
    rw [List.append_assoc]
    exact .cons h (WRs.app r s)

theorem compTurns {X : Cx} {ti : TIt} {g : TGd} {tq : TQ} {tw : TW} {vs ks : List Nat} {env : Env} {F H : Hp} {ow : Addr → Option Nat} {dm : DM} {P : W → Prop} {σ : St} {Q : VK} (S : SRx X.K env σ F H ow dm) (k : ∀ w, P w → Got X.K dm F H Q w)
    (hks : ∀ i ∈ ks, i ∈ vs) {items : List D} (hz : items.length < sizeLine) (hc : compW (wipeE env vs) g tq tw items [] P) {J : It} {F1 H1 : Hp} {C : Addr → Prop} (x1 : Ext dm F H F1 H1) (hI : ItR X.K C F1 H1 J items)
    (hC : ∀ b, C b → H1 b ≠ none ∧ ¬ isM dm b) {d : Addr} (hd : H1 d = none) :
    ∃ W : Nat → Nat → Hp → Prop, (∃ m, W 0 m (upd H1 d (.lst []))) ∧ ∀ i m H, W i m H → (J.stop i H ∧ Q (.ref d) H) ∨ (J.go i H ∧ ∃ Nx : Hp → Prop, (∀ H', Nx H' → ∃ m', m' < m ∧ W (i + 1) m' H') ∧
      ∀ x H', J.yld i H x H' → lG X.K ks g x (L2.wipe σ vs) H' fun σ2 H2 => L2.wipe σ2 vs = L2.wipe σ vs ∧ lT X.K tq σ2 H2 fun b H3 => if b = true then lW X.K tw σ2 H3 fun y H4 => ∃ acc, H4 d = some (.lst acc) ∧ acc.length < sizeLine ∧ Nx (upd H4 d (.lst (acc ++ [y]))) else Nx H3) := by
  have S1 := S.ext x1
  have nMd : ¬ isM dm d := S1.notMN hd
  refine ⟨fun i m H' => m = items.length - i ∧ i ≤ items.length ∧ ∃ F' ws us fp, Ext dm F1 H1 F' H' ∧ F' d = none ∧ H' d = some (.lst us) ∧ WRs X.K dm F' H' ws us fp ∧ fp.Nodup ∧ (∀ a ∈ fp, H1 a = none ∧ a ≠ d) ∧ us.length ≤ i ∧ compW (wipeE env vs) g tq tw (items.drop i) ws P,
    ⟨_, rfl, Nat.zero_le _, F1, [], [], [], Ext.laidOwn x1.fh x1.dl hd, x1.fh.free hd, upd_same, .nil, List.nodup_nil, (fun _ ha => nomatch ha), Nat.le_refl _, hc⟩, ?_⟩
  rintro i m H' ⟨rfl, hi, F', ws, us, fp, x, fd, hl, r, nd, fr, hlen, hcw⟩
  have S' := S1.ext x
  have hIt := hI dm F' H' x.ff x.fh x.dl fun b hb => by
    have := hC b hb
    cases q : H1 b with
    | none => exact absurd q this.1
    | some o => exact x.hh b o q this.2
  rcases Nat.lt_or_ge i items.length with hlt | hge
  · refine .inr ?_
    obtain ⟨e0, he0⟩ : ∃ e0, items[i]? = some e0 := ⟨_, List.getElem?_eq_getElem hlt⟩
    have hdrop : items.drop i = e0 :: items.drop (i + 1) := by
      rw [List.drop_eq_getElem_cons hlt]
      rw [List.getElem?_eq_getElem hlt] at he0
      rw [Option.some.inj he0]
    rw [hdrop] at hcw
    obtain ⟨hgo, hy⟩ := hIt.1 i e0 he0
    refine ⟨hgo, _, fun H'' hN => ⟨items.length - (i + 1), by omega, hN⟩, fun y0 H2 hyl => ?_⟩
    obtain ⟨F2, x2, r2⟩ := hy y0 H2 hyl
    refine ⟨wipeE env vs, F2, ow, dm, e0, _, (S'.wipe vs).ext x2, r2, hcw, fun env2 hq σ2 S2 o2 => ⟨(wipe_of o2 hks).trans (wipe_of (only_wipe σ vs) fun _ h => h), env2, F2, ow, dm, _, S2, hq, fun b hb F3 H3 x3 => ?_⟩⟩
    have x23 := x2.trans x3
    have hD3 : H3 d = some (.lst us) := x23.hh d _ hl nMd
    have fd3 : F3 d = none := x23.nw d fd (by rw [hl]; simp)
    have nMfp : ∀ a ∈ fp, ¬ isM dm a := fun a ha => S1.notMN (fr a ha).1
    cases b with
    | false =>
      exact ⟨rfl, hlt, F3, ws, us, fp, x.trans x23, fd3, hD3, wexts x23 r nMfp, nd, fr, Nat.le_succ_of_le hlen, hb⟩
    | true =>
      refine ⟨env2, F3, ow, dm, _, S2.ext x3, hb, fun w hw v F4 H4 fq x4 r4 nd4 fr4 => ?_⟩
      have hD4 : H4 d = some (.lst us) := x4.hh d _ hD3 nMd
      have fd4 : F4 d = none := x4.nw d fd3 (by rw [hD3]; simp)
      have ne4 : ∀ a ∈ fq, a ≠ d := fun a ha e => by rw [e] at ha; rw [fr4 d ha] at hD3; cases hD3
      have xx := (x.trans x23).trans x4
      have fr1 : ∀ a ∈ fq, H1 a = none := fun a ha => by
        cases q : H1 a with
        | none => rfl
        | some o => exact absurd (fr4 a ha) ((x.trans x23).dom (by rw [q]; simp))
      have rr := (wexts (x23.trans x4) r nMfp)
      have r5 : ∀ {ws : List W} {zs : List V} {fz : List Addr}, WRs X.K dm F4 H4 ws zs fz → (∀ a ∈ fz, a ≠ d) → WRs X.K dm F4 (L2.upd H4 d (.lst (us ++ [v]))) ws zs fz := fun h hn =>
        h.mono (Same.refl F4) fun a ha => ⟨upd_ne (hn a ha), (h.there a ha).2⟩
      refine ⟨us, hD4, Nat.lt_of_le_of_lt hlen (Nat.lt_trans hlt hz), rfl, hlt, F4, ws ++ [w], us ++ [v], fp ++ fq, xx.upd hd fd4 nMd, fd4, upd_same, ?_, ?_, ?_, by rw [List.length_append]; exact Nat.succ_le_succ hlen, hw⟩
      · have r6 := WRs.app rr (WRs.cons r4 .nil)
        rw [List.append_nil] at r6
        exact r5 r6 fun a ha => (List.mem_append.mp ha).elim (fun z => (fr a z).2) (ne4 a)
      · refine List.nodup_append.mpr ⟨nd, nd4, fun a ha b hb e => ?_⟩
        subst e
        have t3 := ((wexts x23 r nMfp).there a ha).1
        exact t3 (fr4 a hb)
      · intro a ha
        rcases List.mem_append.mp ha with z | z
        · exact fr a z
        · exact ⟨fr1 a z, ne4 a z⟩
  · refine .inl ?_
    have e : i = items.length := Nat.le_antisymm hi hge
    subst e
    rw [List.drop_length] at hcw
    refine ⟨hIt.2, k _ hcw (.ref d) F' H' (d :: fp) (x1.trans x) (.own fd hl r) (List.nodup_cons.mpr ⟨fun z => (fr d z).2 rfl, nd⟩) fun a ha => ?_⟩
    have h1 : H1 a = none := by
      rcases List.mem_cons.mp ha with rfl | z
      · exact hd
      · exact (fr a z).1
    cases q : H a with
    | none => rfl
    | some o => exact absurd h1 (x1.dom (by rw [q]; simp))
section
variable {X : Cx} {elt tg iter : Expr} {ifs : List Expr} {scope : Scope} {own : List (Str × Nat)} {pos spos py : Pos} {ti : TIt} {g : TGd} {tq : TQ} {tw : TW} {ks : List Nat}
theorem tLc_of {vs : List Nat} {σ : St} {H : Hp} {Q : VK} (hks : ∀ i ∈ ks, i ∈ vs) (h : lW X.K (dComp vs ti g tq tw) σ H Q) : tLc (lI X.K false ti) (lG X.K ks g) (lT X.K tq) (lW X.K tw) vs σ H Q := by
  obtain ⟨env, F, ow, dm, P, S, q, k⟩ := h
  exact ⟨env, F, ow, dm, _, S, q, fun items ⟨hz, hc⟩ J F1 H1 C x1 hI hC d hd => compTurns (ti := ti) S k hks hz hc x1 hI (fun b hb => (hC b hb).2) hd⟩
theorem dw_lc (own : List (Str × Nat)) (hN : X.N.Nodup) (hi : DI X false tg iter ti) (ok : blkC X.N X.env.scope scope own = true)
    (hg : ∀ (s : Shared) (H : Hp) (C : Addr) (cl : List (Str × Addr)) (fp : List Addr), DG (X.blk s H scope (compEnvC scope cl C X.env) fp) tg ks g) (ht : ∀ (s : Shared) (H : Hp) (C : Addr) (cl : List (Str × Addr)) (fp : List Addr), DTs (X.blk s H scope (compEnvC scope cl C X.env) fp) ifs tq)
    (he : ∀ (s : Shared) (H : Hp) (C : Addr) (cl : List (Str × Addr)) (fp : List Addr), DW (X.blk s H scope (compEnvC scope cl C X.env) fp) elt tw) (hks : ∀ i ∈ ks, i ∈ own.map (·.2) := by decide) (hc : X.calm = true := by rfl) (hs : ∀ x, foldedSetIterable iter X.env x = pure x := by intro _; rfl) :
    DW X (.ListComp elt [⟨tg, iter, ifs, 0⟩] scope pos) (dComp (own.map (·.2)) ti g tq tw) :=
  pe_mono (pe_lc (wi := lI X.K false ti) (g := lG X.K ks g) (tt := lT X.K tq) (te := lW X.K tw) hc hN hi (blkOk_by ok) (fun s H C cl fp => hg s H C cl fp) (fun s H C cl fp => ht s H C cl fp) (fun s H C cl fp => he s H C cl fp) hs) fun _ _ _ h => tLc_of hks h
end
end DL

/-! DL, part g: statements. -/
namespace DL
open PySem L2

theorem ps_mono {X : Cx} {st : Stmt} {t t' : TS} (h : PS X st t) (m : ∀ D σ H, t' D σ H → t D σ H) : PS X st t' := ⟨fun pins s σ H D I q => h.run pins s σ H D I (m D σ H q)⟩
theorem pss_mono {X : Cx} {st : List Stmt} {t t' : TS} (h : PSs X st t) (m : ∀ D σ H, t' D σ H → t D σ H) : PSs X st t' := ⟨fun pins s σ H D I q => h.run pins s σ H D I (m D σ H q)⟩

/-- where a def began: the frozen heap, the heap, the deal; G: frozen data that must stay -/
structure Anc where
  F : Hp
  H : Hp
  G : Hp
  dm : DM
structure SA (K : PySem.W.Frag) (A : Anc) (env : Env) (σ : St) (F H : Hp) (ow : Addr → Option Nat) (dm : DM) : Prop where
  x : SRx K env σ F H ow dm
  anc : Ext A.dm A.F A.H F H
  pin : Same A.G F
  own : ∀ a i, ow a = some i → A.H a = none
  owh : ∀ a i, ow a = some i → H a ≠ none
  dmf : A.dm = dm ∨ (A.dm = none ∧ ∀ p, dm = some p → A.H p.1 = none ∧ A.H p.2 = none)
mutual
/-- no deal within -/
def W.nd : W → Bool
  | .fz _ => true
  | .own ws => W.nds ws
  | .oth _ => true
  | .deal => false
  | .scr _ => false
def W.nds : List W → Bool
  | [] => true
  | w :: ws => w.nd && W.nds ws
end
theorem W.nds_fz (ds : List D) : W.nds (ds.map .fz) = true := by
  induction ds with
  | nil => rfl
  | cons d ds ih => simp [W.nds, W.nd, ih]
mutual
theorem WR.redm {K : PySem.W.Frag} {dm dm' : DM} {F H : Hp} : ∀ {w : W} {v : V} {fp : List Addr}, WR K dm F H w v fp → w.nd = true → WR K dm' F H w v fp
  | _, _, _, .fz h, _ => .fz h
  | _, _, _, .own h1 h2 h3, n => .own h1 h2 (WRs.redm h3 n)
  | _, _, _, .oth h, _ => .oth h
  | _, _, _, .scr _ h, n => absurd n (by simp [W.nd])
  | _, _, _, .deal h, n => absurd n (by simp [W.nd])
theorem WRs.redm {K : PySem.W.Frag} {dm dm' : DM} {F H : Hp} : ∀ {ws : List W} {vs : List V} {fp : List Addr}, WRs K dm F H ws vs fp → W.nds ws = true → WRs K dm' F H ws vs fp
  | _, _, _, .nil, _ => .nil
  | _, _, _, .cons h r, n => by
    have n' := Bool.and_eq_true_iff.mp n
    exact .cons (WR.redm h n'.1) (WRs.redm r n'.2)
end
structure EndsD where
  nx : Env → Prop
  rt : W → Prop
  bk : Env → Prop := fun _ => False
  ct : Env → Prop := fun _ => False
  ex : Env → Str → D → Prop := fun _ _ _ => False
abbrev TSd := EndsD → Env → Prop
/-- an exception that flies: of the class named c, its attribute at is a -/
def ExAt (K : PySem.W.Frag) (mg : Str → Option Value) (F : Hp) (c : Str) (a : D) (cls : Value) (d : Option Addr) : Prop :=
  mg c = some cls ∧ ∃ (dx : Addr) (u : V), d = some dx ∧ F dx = some (.xd [("at", u)]) ∧ Dp K F u a
structure EOk (K : PySem.W.Frag) (mg : Str → Option Value) (WW : WX) (A : Anc) (E : EndsD) (D : Ends) : Prop where
  nx : ∀ env σ F H ow dm, SA K A env σ F H ow dm → E.nx env → D.nx σ H
  rt : ∀ w v F H fp, Ext A.dm A.F A.H F H → WR K A.dm F H w v fp → fp.Nodup → (∀ a ∈ fp, A.H a = none) → E.rt w → D.rt v H
  bk : ∀ env σ F H ow dm, SA K A env σ F H ow dm → E.bk env → D.bk σ H
  ct : ∀ env σ F H ow dm, SA K A env σ F H ow dm → E.ct env → D.ct σ H
  ex : ∀ env σ F H ow dm c a cls d, SA K A env σ F H ow dm → E.ex env c a → ExAt K mg F c a cls d → WW cls d σ H
def lS (K : PySem.W.Frag) (mg : Str → Option Value) (WW : WX) (t : TSd) : TS := fun D σ H => ∃ A E env F ow dm, SA K A env σ F H ow dm ∧ t E env ∧ EOk K mg WW A E D
theorem takes_no {X : Cx} : Takes X (fun _ _ _ _ => False) := fun _ _ ⟨_, _, _, _, _, _, _, _, _, _, _, _, _, _, _, _, w⟩ => w.elim
def DS (X : Cx) (st : Stmt) (t : TSd) : Prop := ∀ WW, Takes X WW → PS X st (lS X.K X.mg WW t)
def DSs (X : Cx) (sts : List Stmt) (t : TSd) : Prop := ∀ WW, Takes X WW → PSs X sts (lS X.K X.mg WW t)

section
variable {K : PySem.W.Frag} {A : Anc} {env : Env} {σ : St} {F H F' H' : Hp} {ow : Addr → Option Nat} {dm : DM}
theorem SA.notM (S : SA K A env σ F H ow dm) {a : Addr} (h : A.H a ≠ none) (m : ¬ isM A.dm a) : ¬ isM dm a := by
  rcases S.dmf with e | ⟨_, e⟩
  · rw [← e]; exact m
  · rintro ⟨p, hp, rfl | rfl⟩
    · exact h (e p hp).1
    · exact h (e p hp).2
theorem SA.ext (S : SA K A env σ F H ow dm) (x : Ext dm F H F' H') : SA K A env σ F' H' ow dm where
  x := S.x.ext x
  anc := ⟨S.anc.ff.trans x.ff, fun a o h m => x.hh a o (S.anc.hh a o h m) (S.notM (by rw [h]; simp) m), fun a h1 h2 => x.nw a (S.anc.nw a h1 h2) (S.anc.dom h2), x.fh, fun p hp => by
    rcases S.dmf with e | ⟨e, _⟩
    · exact x.dl p (e ▸ hp)
    · rw [e] at hp; cases hp⟩
  pin := S.pin.trans x.ff
  own := S.own
  owh := fun a i h => x.dom (S.owh a i h)
  dmf := S.dmf
theorem SA.fresh (S : SA K A env σ F H ow dm) {a : Addr} (h : H a = none) : A.H a = none := by
  cases q : A.H a with
  | none => rfl
  | some o => exact absurd h (S.anc.dom (by rw [q]; simp))
/-- a slot gets something that nobody has -/
theorem SA.put' (S : SA K A env σ F H ow dm) {i : Nat} {w : W} {v : V} {fp : List Addr} (r : WR K dm F H w v fp) (nd : fp.Nodup) (fr : ∀ a ∈ fp, ow a = none ∧ ¬ isM dm a ∧ A.H a = none) :
    SA K A (env.set i (some w)) (σ.set i (some v)) F H (fun a => if a ∈ fp then some i else ow a) dm := by
  refine ⟨⟨S.x.same, by rw [List.length_set, List.length_set]; exact S.x.len, fun j u hu => ?_, S.x.dl, fun p hp => ?_⟩, S.anc, S.pin, fun a j h => ?_, fun a j h => ?_, S.dmf⟩
  · by_cases e : i = j
    · subst e
      have hi : i < env.length := by
        rcases Nat.lt_or_ge i env.length with h | h
        · exact h
        · rw [List.getElem?_eq_none (by rw [List.length_set]; exact h)] at hu; cases hu
      rw [List.getElem?_set_self hi] at hu
      cases hu
      exact ⟨v, fp, List.getElem?_set_self (by rw [← S.x.len]; exact hi), r, nd, fun a ha => if_pos ha⟩
    · rw [List.getElem?_set_ne e] at hu ⊢
      obtain ⟨z, fq, h1, h2, h3, h4⟩ := S.x.sl j u hu
      refine ⟨z, fq, h1, h2, h3, fun a ha => ?_⟩
      show (if a ∈ fp then some i else ow a) = some j
      rw [if_neg fun ha' => by have q := h4 a ha; rw [(fr a ha').1] at q; cases q]
      exact h4 a ha
  · show (if p.1 ∈ fp then some i else ow p.1) = none ∧ (if p.2 ∈ fp then some i else ow p.2) = none
    rw [if_neg fun z => (fr _ z).2.1 ⟨p, hp, .inl rfl⟩, if_neg fun z => (fr _ z).2.1 ⟨p, hp, .inr rfl⟩]
    exact S.x.dow p hp
  · by_cases ha : a ∈ fp
    · exact (fr a ha).2.2
    · have h' : (if a ∈ fp then some i else ow a) = some j := h
      rw [if_neg ha] at h'
      exact S.own a j h'
  · by_cases ha : a ∈ fp
    · exact (r.there a ha).1
    · have h' : (if a ∈ fp then some i else ow a) = some j := h
      rw [if_neg ha] at h'
      exact S.owh a j h'
theorem SA.free (S : SA K A env σ F H ow dm) {a : Addr} (h : H a = none) : ow a = none := by
  cases q : ow a with
  | none => rfl
  | some i => exact absurd h (S.owh a i q)
/-- a slot gets something new -/
theorem SA.put (S : SA K A env σ F H ow dm) (x : Ext dm F H F' H') {i : Nat} {w : W} {v : V} {fp : List Addr} (r : WR K dm F' H' w v fp) (nd : fp.Nodup) (fr : ∀ a ∈ fp, H a = none) :
    SA K A (env.set i (some w)) (σ.set i (some v)) F' H' (fun a => if a ∈ fp then some i else ow a) dm :=
  (S.ext x).put' r nd fun a ha => ⟨S.free (fr a ha), S.x.notMN (fr a ha), S.fresh (fr a ha)⟩
def setAll {α : Type} : List Nat → List α → List (Option α) → List (Option α)
  | i :: is, x :: xs, l => setAll is xs (l.set i (some x))
  | _, _, l => l
theorem SA.puts : ∀ {is : List Nat} {ws : List W} {vs : List V} {fp : List Addr} {env : Env} {σ : St} {ow : Addr → Option Nat}, SA K A env σ F H ow dm → WRs K dm F H ws vs fp → fp.Nodup → (∀ a ∈ fp, ow a = none ∧ ¬ isM dm a ∧ A.H a = none) →
    ∃ ow', SA K A (setAll is ws env) (setAll is vs σ) F H ow' dm
  | [], _, _, _, _, _, _, S, _, _, _ => ⟨_, by unfold setAll; exact S⟩
  | _ :: _, _, _, _, _, _, _, S, .nil, _, _ => ⟨_, by unfold setAll; exact S⟩
  | i :: is, _, _, _, env, σ, ow, S, .cons (w := w) (v := v) (fp := fp) (ws := ws) (vs := vs) (fq := fq) h r, nd, fr => by
    have nd' := List.nodup_append.mp nd
    have S1 := S.put' (i := i) h nd'.1 fun a ha => fr a (List.mem_append_left _ ha)
    have f1 : ∀ a ∈ fq, (fun a => if a ∈ fp then some i else ow a) a = none ∧ ¬ isM dm a ∧ A.H a = none := fun a ha => by
      have q := fr a (List.mem_append_right _ ha)
      refine ⟨?_, q.2⟩
      show (if a ∈ fp then some i else ow a) = none
      rw [if_neg fun z => nd'.2.2 a z a ha rfl]
      exact q.1
    obtain ⟨ow', S2⟩ := SA.puts (is := is) S1 r nd'.2.1 f1
    exact ⟨ow', S2⟩
/-- a slot of its own changed: the cell a and the cells of the new items -/
theorem SA.mut (S : SA K A env σ F H ow dm) {i : Nat} {ws : List W} (e : env[i]? = some (some (.own ws))) :
    ∃ a vs fp, σ[i]? = some (some (.ref a)) ∧ H a = some (.lst vs) ∧ F a = none ∧ ¬ isM dm a ∧ WRs K dm F H ws vs fp ∧ (a :: fp).Nodup ∧ (∀ b ∈ fp, ¬ isM dm b) ∧
      ∀ (F' H' : Hp) (ws' : List W) (vs' : List V) (fp' : List Addr), Ext dm F H F' H' → H' a = some (.lst vs) → WRs K dm F' H' ws' vs' fp' → (a :: fp').Nodup → (∀ b ∈ fp', b ∈ fp ∨ H b = none) →
        SA K A (env.set i (some (.own ws'))) σ F' (upd H' a (.lst vs')) (fun b => if b ∈ fp' then some i else ow b) dm := by
  obtain ⟨v, fp0, h1, h2, h3, h4⟩ := S.x.sl i _ e
  cases h2 with
  | @own a vs _ fp g1 g2 g3 =>
    have nMa := S.x.notM (h4 a (List.mem_cons_self ..))
    refine ⟨a, vs, fp, h1, g2, g1, nMa, g3, h3, fun b hb => S.x.notM (h4 b (List.mem_cons_of_mem _ hb)), fun F' H' ws' vs' fp' x ha r nd fr => ?_⟩
    have S' := S.ext x
    have oa : ow a = some i := h4 a (List.mem_cons_self ..)
    have Fa : F' a = none := x.nw a g1 (by rw [g2]; simp)
    have Aa : A.H a = none := S.own a i oa
    have nd' := List.nodup_cons.mp nd
    -- the heap with the cell changed
    have hs : Same F' (upd H' a (.lst vs')) := fun b o hb => by rw [upd_ne (ne_of_none hb Fa)]; exact x.fh b o hb
    have hdl : ∀ p, dm = some p → DealAt F' (upd H' a (.lst vs')) p.1 p.2 := fun p hp => by
      have q := x.dl p hp
      have n1 : p.1 ≠ a := fun z => nMa ⟨p, hp, .inl z.symm⟩
      have n2 : p.2 ≠ a := fun z => nMa ⟨p, hp, .inr z.symm⟩
      exact ⟨q.fa, q.fb, by rw [upd_ne n1, upd_ne n2]; exact q.ex⟩
    refine ⟨⟨hs, by rw [List.length_set]; exact S.x.len, fun j u hu => ?_, hdl, fun p hp => ?_⟩, ⟨S'.anc.ff, fun b o h m => ?_, S'.anc.nw, hs, fun p hp => ?_⟩, S'.pin, fun b j h => ?_, fun b j h => ?_, S.dmf⟩
    · by_cases ej : i = j
      · subst ej
        have hi : i < env.length := by
          rcases Nat.lt_or_ge i env.length with h | h
          · exact h
          · rw [List.getElem?_eq_none h] at e; cases e
        rw [List.getElem?_set_self hi] at hu
        cases hu
        refine ⟨.ref a, a :: fp', h1, .own Fa upd_same (r.mono (Same.refl F') fun b hb => ⟨upd_ne fun z => nd'.1 (z ▸ hb), (r.there b hb).2⟩), nd, fun b hb => ?_⟩
        show (if b ∈ fp' then some i else ow b) = some i
        by_cases hb' : b ∈ fp'
        · rw [if_pos hb']
        · rw [if_neg hb']
          exact (List.mem_cons.mp hb).elim (fun z => z ▸ oa) fun z => absurd z hb'
      · rw [List.getElem?_set_ne ej] at hu
        obtain ⟨z, fq, k1, k2, k3, k4⟩ := S.x.sl j u hu
        have na : ∀ b ∈ fq, b ≠ a := fun b hb z => by
          have := k4 b hb
          rw [z, oa] at this
          exact ej (Option.some.inj this)
        have k2' := wext x k2 fun b hb => S.x.notM (k4 b hb)
        refine ⟨z, fq, k1, k2'.mono (Same.refl F') fun b hb => ⟨upd_ne (na b hb), (k2'.there b hb).2⟩, k3, fun b hb => ?_⟩
        show (if b ∈ fp' then some i else ow b) = some j
        have nb : b ∉ fp' := fun z => by
          rcases fr b z with q | q
          · have q1 := h4 b (List.mem_cons_of_mem _ q)
            rw [k4 b hb] at q1
            exact ej (Option.some.inj q1).symm
          · exact (k2.there b hb).1 q
        rw [if_neg nb]
        exact k4 b hb
    · have d := S.x.dl p hp
      have nn : ∀ c, isM dm c → H c ≠ none → c ∉ fp' := fun c hm hc z => by
        rcases fr c z with q | q
        · exact S.x.notM (h4 c (List.mem_cons_of_mem _ q)) hm
        · exact hc q
      show (if p.1 ∈ fp' then some i else ow p.1) = none ∧ (if p.2 ∈ fp' then some i else ow p.2) = none
      rw [if_neg (nn _ ⟨p, hp, .inl rfl⟩ d.here.1), if_neg (nn _ ⟨p, hp, .inr rfl⟩ d.here.2)]
      exact S.x.dow p hp
    · have nb : b ≠ a := fun z => by rw [z, Aa] at h; cases h
      rw [upd_ne nb]
      exact S'.anc.hh b o h m
    · have hp' : dm = some p := by
        rcases S.dmf with q | ⟨q, _⟩
        · exact q ▸ hp
        · rw [q] at hp; cases hp
      exact hdl p hp'
    · have h' : (if b ∈ fp' then some i else ow b) = some j := h
      by_cases hb : b ∈ fp'
      · rcases fr b hb with q | q
        · exact S.own b i (h4 b (List.mem_cons_of_mem _ q))
        · exact S.fresh q
      · rw [if_neg hb] at h'
        exact S.own b j h'
    · have h' : (if b ∈ fp' then some i else ow b) = some j := h
      by_cases hba : b = a
      · subst hba; rw [upd_same]; simp
      · rw [upd_ne hba]
        by_cases hb : b ∈ fp'
        · exact (r.there b hb).1
        · rw [if_neg hb] at h'
          exact x.dom (S.owh b j h')
end
end DL

/-! DL, part h: rules for statements. -/
namespace DL
open PySem L2

section
variable {X : Cx} {st : Stmt} {rest : List Stmt} {e a b c tg : Expr} {t u : TSd} {pos : Pos}
theorem EOk.same {K : PySem.W.Frag} {mg : Str → Option Value} {WW : WX} {A : Anc} {E : EndsD} {D : Ends} (k : EOk K mg WW A E D) {nx : Env → Prop} {nx' : St → Hp → Prop} (h : ∀ env σ F H ow dm, SA K A env σ F H ow dm → nx env → nx' σ H) : EOk K mg WW A { E with nx := nx } { D with nx := nx' } := ⟨h, k.rt, k.bk, k.ct, k.ex⟩
def dNext : TSd := fun E env => E.nx env
def dSeq (t u : TSd) : TSd := fun E env => t { E with nx := fun env' => u E env' } env
theorem dss_nil : DSs X [] dNext := fun _ _ => pss_mono pss_nil fun D σ H ⟨A, E, env, F, ow, dm, S, q, k⟩ => k.nx _ _ _ _ _ _ S q
theorem dss_cons (h : DS X st t) (hr : DSs X rest u) : DSs X (st :: rest) (dSeq t u) := fun WW tk =>
  pss_mono (pss_cons (h WW tk) (hr WW tk)) fun D σ H ⟨A, E, env, F, ow, dm, S, q, k⟩ => ⟨A, _, env, F, ow, dm, S, q, k.same fun env' σ' F' H' ow' dm' S' q' => ⟨A, E, env', F', ow', dm', S', q', k⟩⟩
theorem dss_one (h : DS X st t) : DSs X [st] t := fun WW tk => pss_one (h WW tk)
theorem ds_pass : DS X (.Pass pos) dNext := fun _ _ => ps_mono ps_pass fun D σ H ⟨A, E, env, F, ow, dm, S, q, k⟩ => k.nx _ _ _ _ _ _ S q
def dBreak : TSd := fun E env => E.bk env
def dCont : TSd := fun E env => E.ct env
theorem ds_break : DS X (.Break pos) dBreak := fun _ _ => ps_mono ps_break fun D σ H ⟨A, E, env, F, ow, dm, S, q, k⟩ => k.bk _ _ _ _ _ _ S q
theorem ds_continue : DS X (.Continue pos) dCont := fun _ _ => ps_mono ps_continue fun D σ H ⟨A, E, env, F, ow, dm, S, q, k⟩ => k.ct _ _ _ _ _ _ S q
/-- name = value -/
def dSet (i : Nat) (tw : TW) : TSd := fun E env => tw env fun w => E.nx (env.set i (some w))
theorem tAsg_of {i : Nat} {tw : TW} {mg : Str → Option Value} {WW : WX} {D : Ends} {σ : St} {H : Hp} (h : lS X.K mg WW (dSet i tw) D σ H) : tAsg (lW X.K tw) (gName i) D σ H := by
  obtain ⟨A, E, env, F, ow, dm, S, q, k⟩ := h
  exact ⟨env, F, ow, dm, _, S.x, q, fun w hw v F1 H1 fp x r nd fr => k.nx _ _ _ _ _ _ (S.put x r nd fr) hw⟩
theorem ds_set (i : Nat) {tw : TW} {x : Str} {p : Pos} (hN : X.N.Nodup) (he : DW X e tw) (hi : X.N[i]? = some x := by rfl) (hx : Loc X.env.scope x := by first | exact .inl rfl | exact .inr rfl)
    (hs : swapsWith e (some (.Name x p)) pos.line X.env = pure false := by rfl) (hf : X.fn x = true ∨ X.env.scope.names.lookup x = some .local := by first | exact .inl rfl | exact .inr rfl) : DS X (.Assign [.Name x p] e pos) (dSet i tw) := fun _ _ =>
  ps_mono (ps_set hN hi hx he hs hf) fun _ _ _ h => tAsg_of h
theorem ds_setLc (i : Nat) {y : Str} {py : Pos} {elt iter : Expr} {ifs : List Expr} {scope : Scope} {spos : Pos} {ti : TIt} {g : TGd} {tq : TQ} {tw : TW} {ks : List Nat} (own : List (Str × Nat)) (hN : X.N.Nodup) (hi : DI X false tg iter ti) (ok : blkC X.N X.env.scope scope own = true)
    (hg : ∀ (s : Shared) (H : Hp) (C : Addr) (cl : List (Str × Addr)) (fp : List Addr), DG (X.blk s H scope (compEnvC scope cl C X.env) fp) tg ks g) (ht : ∀ (s : Shared) (H : Hp) (C : Addr) (cl : List (Str × Addr)) (fp : List Addr), DTs (X.blk s H scope (compEnvC scope cl C X.env) fp) ifs tq)
    (he : ∀ (s : Shared) (H : Hp) (C : Addr) (cl : List (Str × Addr)) (fp : List Addr), DW (X.blk s H scope (compEnvC scope cl C X.env) fp) elt tw)
    (hsw : swapsWith (.ListComp elt [⟨tg, iter, ifs, 0⟩] scope pos) (some (.Name y py)) spos.line X.env = pure true := by exact sw_true rfl rfl rfl (by decide +kernel)) (hy : X.N[i]? = some y := by rfl) (hyl : X.env.scope.names.lookup y = some .local := by rfl)
    (hks : ∀ i ∈ ks, i ∈ own.map (·.2) := by decide) (hc : X.calm = true := by rfl) (hs : ∀ x, foldedSetIterable iter X.env x = pure x := by intro _; rfl) :
    DS X (.Assign [.Name y py] (.ListComp elt [⟨tg, iter, ifs, 0⟩] scope pos) spos) (dSet i (dComp (own.map (·.2)) ti g tq tw)) := fun _ _ =>
  ps_mono (ps_setLc (wi := lI X.K false ti) (g := lG X.K ks g) (tt := lT X.K tq) (te := lW X.K tw) hc hN hy hyl hsw hi (blkOk_by ok) (fun s H C cl fp => hg s H C cl fp) (fun s H C cl fp => ht s H C cl fp) (fun s H C cl fp => he s H C cl fp) hs)
    fun D σ H h => by
      have h' := tAsg_of h
      exact tLc_of hks h'
/-- frozen data into a target -/
def dAsg (te : TB) (g : TGd) : TSd := fun E env => te env fun d => g d env E.nx
theorem ds_asg {te : TB} {g : TGd} {ks : List Nat} (he : DF X e te) (hg : DG X tg ks g) (hs : swapsWithSole [tg] e pos.line X.env = pure false := by rfl) (hw : swappedStores [tg] e X.env = pure none := by rfl)
    (h1 : (assignEach [tg] X.env).map (·.2) = [assign tg X.env] := by rfl) : DS X (.Assign [tg] e pos) (dAsg te g) := fun _ _ =>
  ps_mono (ps_asg he hg hs hw h1) fun D σ H ⟨A, E, env, F, ow, dm, S, q, k⟩ => ⟨env, F, ow, dm, _, S.x, q, fun d hd v F1 H1 x r => by
    have S1 := S.ext x
    exact ⟨env, F1, ow, dm, d, _, S1.x, r, hd, fun env' h' σ' S' _ => k.nx env' σ' F1 H1 ow dm ⟨S', S1.anc, S1.pin, S1.own, S1.owh, S1.dmf⟩ h'⟩⟩
/-- several names at once -/
def dPar (is : List Nat) (t : TWs) : TSd := fun E env => t env fun ws => ws.length = is.length ∧ E.nx (setAll is ws env)
theorem puts_of {is : List Nat} {A : Anc} {env : Env} {σ : St} {F H F1 H1 : Hp} {ow : Addr → Option Nat} {dm : DM} {ws : List W} {vs : List V} {fp : List Addr} (S : SA X.K A env σ F H ow dm) (x : Ext dm F H F1 H1) (r : WRs X.K dm F1 H1 ws vs fp) (nd : fp.Nodup) (fr : ∀ a ∈ fp, H a = none) :
    ∃ ow', SA X.K A (setAll is ws env) (setAll is vs σ) F1 H1 ow' dm := (S.ext x).puts r nd fun a ha => ⟨S.free (fr a ha), S.x.notMN (fr a ha), S.fresh (fr a ha)⟩
theorem two_of {vs : List V} {ws : List W} {n : Nat} {K : PySem.W.Frag} {dm : DM} {F H : Hp} {fp : List Addr} (r : WRs K dm F H ws vs fp) (h : ws.length = n) : vs.length = n := (wrs_length r).trans h
theorem ds_par2 (i j : Nat) {x y : Str} {px py pt : Pos} {kt k2 pt2} {t : TWs} (hN : X.N.Nodup) (ha : DAw X [a, b] t) (hij : i ≠ j := by decide) (hi : X.N[i]? = some x := by rfl) (hj : X.N[j]? = some y := by rfl)
    (hx : X.env.scope.names.lookup x = some .local := by rfl) (hy : X.env.scope.names.lookup y = some .local := by rfl) (hc : X.calm = true := by rfl)
    (hw : swappedStores [.Tuple [.Name x px, .Name y py] kt pt] (.Tuple [a, b] k2 pt2) X.env = pure (some [x, y]) := by rfl)
    (hs : swapsWithSole [.Tuple [.Name x px, .Name y py] kt pt] (.Tuple [a, b] k2 pt2) pos.line X.env = pure false := by rfl) : DS X (.Assign [.Tuple [.Name x px, .Name y py] kt pt] (.Tuple [a, b] k2 pt2) pos) (dPar [i, j] t) := fun _ _ =>
  ps_mono (ps_par hc hN hi hj hij hx hy ha hw hs) fun D σ H ⟨A, E, env, F, ow, dm, S, q, k⟩ => ⟨env, F, ow, dm, _, S.x, q, fun ws ⟨hl, hn⟩ vs F1 H1 fp x r nd fr => by
    obtain ⟨ow', S'⟩ := puts_of (is := [i, j]) S x r nd fr
    match vs, two_of r hl, S' with
    | [v, w], _, S' => exact ⟨v, w, rfl, k.nx _ _ _ _ _ _ S' hn⟩⟩
theorem ds_par3 (i j l : Nat) {x y z : Str} {px py pz pt : Pos} {kt k2 pt2} {t : TWs} (hN : X.N.Nodup) (ha : DAw X [a, b, c] t) (hij : i ≠ j := by decide) (hil : i ≠ l := by decide) (hjl : j ≠ l := by decide) (hi : X.N[i]? = some x := by rfl) (hj : X.N[j]? = some y := by rfl) (hl : X.N[l]? = some z := by rfl)
    (hx : X.env.scope.names.lookup x = some .local := by rfl) (hy : X.env.scope.names.lookup y = some .local := by rfl) (hz : X.env.scope.names.lookup z = some .local := by rfl) (hc : X.calm = true := by rfl)
    (hw : swappedStores [.Tuple [.Name x px, .Name y py, .Name z pz] kt pt] (.Tuple [a, b, c] k2 pt2) X.env = pure (some [x, y, z]) := by rfl)
    (hs : swapsWithSole [.Tuple [.Name x px, .Name y py, .Name z pz] kt pt] (.Tuple [a, b, c] k2 pt2) pos.line X.env = pure false := by rfl) : DS X (.Assign [.Tuple [.Name x px, .Name y py, .Name z pz] kt pt] (.Tuple [a, b, c] k2 pt2) pos) (dPar [i, j, l] t) := fun _ _ =>
  ps_mono (ps_par3 hc hN hi hj hl hij hil hjl hx hy hz ha hw hs) fun D σ H ⟨A, E, env, F, ow, dm, S, q, k⟩ => ⟨env, F, ow, dm, _, S.x, q, fun ws ⟨hl, hn⟩ vs F1 H1 fp x r nd fr => by
    obtain ⟨ow', S'⟩ := puts_of (is := [i, j, l]) S x r nd fr
    match vs, two_of r hl, S' with
    | [v, w, o], _, S' => exact ⟨v, w, o, rfl, k.nx _ _ _ _ _ _ S' hn⟩⟩
/-- plain names as targets, one behind the other -/
def gNames : List Nat → TGs
  | [] => gNil
  | i :: is => gCons (gName i) (gNames is)
theorem gNames_of : ∀ {is : List Nat} {vs : List V} {σ : St} {H : Hp} {Q : St → Hp → Prop}, vs.length = is.length → Q (setAll is vs σ) H → gNames is vs σ H Q
  | [], [], σ, H, Q, _, h => ⟨rfl, h⟩
  | i :: is, v :: vs, σ, H, Q, hl, h => ⟨v, vs, rfl, gNames_of (is := is) (by simpa using hl) h⟩
/-- .. by a tuple that is made and taken apart -/
theorem ds_parT (is : List Nat) {es ts : List Expr} {p1 p2 : Pos} {k1 k2} {t : TWs} (ha : DAw X es t) (hg : PGs X ts (gNames is)) (hc : X.calm = true := by rfl) (hn : (assignEach ts X.env).length = is.length := by rfl) (hst : (assignEach ts X.env).findIdx? (·.1) = none := by rfl)
    (hs : swapsWithSole [.Tuple ts k1 p1] (.Tuple es k2 p2) pos.line X.env = pure false := by rfl) (hw : swappedStores [.Tuple ts k1 p1] (.Tuple es k2 p2) X.env = pure none := by rfl)
    (h1 : (assignEach [.Tuple ts k1 p1] X.env).map (·.2) = [assign (.Tuple ts k1 p1) X.env] := by rfl) (hz : is.length ≤ sizeLine := by decide) : DS X (.Assign [.Tuple ts k1 p1] (.Tuple es k2 p2) pos) (dPar is t) := by
  intro _ _
  refine ps_mono (ps_asg (pe_tup ha) (pg_tup (n := is.length) hc hg hn hst) hs hw h1) fun D σ H ⟨A, E, env, F, ow, dm, S, q, k⟩ => ⟨env, F, ow, dm, _, S.x, q, fun ws ⟨hl, hx⟩ vs F1 H1 fp x r nd fr => ?_⟩
  have hv : vs.length = is.length := (wrs_length r).trans hl
  refine ⟨by rw [hv]; exact hz, fun p hp => ?_⟩
  have S1 := S.ext x
  have y := Ext.laidOwn (o := .tup vs) x.fh x.dl hp
  have S2 := S1.ext y
  refine ⟨p, vs, rfl, .inl (.inl upd_same), hv, gNames_of hv ?_⟩
  have r2 := wexts y r fun a ha => S.x.notMN (fr a ha)
  obtain ⟨ow', S'⟩ := S2.puts (is := is) r2 nd fun a ha => ⟨S.free (fr a ha), S.x.notMN (fr a ha), S.fresh (fr a ha)⟩
  exact k.nx _ _ _ _ _ _ S' hx

/-! ### return -/
def dRet (tw : TW) : TSd := fun E env => tw env fun w => w.nd = true ∧ E.rt w
theorem ds_ret {tw : TW} (he : DW X e tw) : DS X (.Return (some e) pos) (dRet tw) := fun _ _ =>
  ps_mono (ps_ret he) fun D σ H ⟨A, E, env, F, ow, dm, S, q, k⟩ => ⟨env, F, ow, dm, _, S.x, q, fun w ⟨hn, hw⟩ v F1 H1 fp x r nd fr => k.rt w v F1 H1 fp (S.ext x).anc (r.redm hn) nd (fun a ha => S.fresh (fr a ha)) hw⟩
def dRetN : TSd := fun E env => E.rt (.fz .none)
theorem ds_retN : DS X (.Return none pos) dRetN := fun _ _ =>
  ps_mono ps_retN fun D σ H ⟨A, E, env, F, ow, dm, S, q, k⟩ => k.rt (.fz .none) .non F H [] S.anc (.fz .non) List.nodup_nil (fun _ ha => nomatch ha) q
/-- a slot's own list handed back -/
def dRetOwn (i : Nat) : TSd := fun E env => match env[i]? with
  | some (some w) => w.nd = true ∧ E.rt w
  | _ => False
theorem ds_retOwn (i : Nat) {x : Str} {p : Pos} (h : PE X (.Name x p) (tVar i)) : DS X (.Return (some (.Name x p)) pos) (dRetOwn i) := by
  intro _ _
  refine ps_mono (ps_ret h) fun D σ H ⟨A, E, env, F, ow, dm, S, q, k⟩ => ?_
  unfold dRetOwn at q
  split at q
  · rename_i w e
    obtain ⟨v, fp, h1, h2, h3, h4⟩ := S.x.sl i w e
    exact ⟨v, h1, k.rt w v F H fp S.anc (h2.redm q.1) h3 (fun a ha => S.own a i (h4 a ha)) q.2⟩
  · exact q.elim
/-- what is dropped -/
def dDrop (tw : TW) : TSd := fun E env => tw env fun _ => E.nx env
theorem ds_expr {tw : TW} (he : DW X e tw) (hs : swapsWith e none pos.line X.env = pure false := by rfl) : DS X (.Expr e pos) (dDrop tw) := fun _ _ =>
  ps_mono (ps_expr he hs) fun D σ H ⟨A, E, env, F, ow, dm, S, q, k⟩ => ⟨env, F, ow, dm, _, S.x, q, fun w hw v F1 H1 fp x r nd fr => k.nx _ _ _ _ _ _ (S.ext x) hw⟩

/-! ### if, while, for -/
def dIte (c : TQ) (t u : TSd) : TSd := fun E env => c env fun b => if b = true then t E env else u E env
theorem ds_if {tc : TQ} {as bs : List Stmt} (hc : DT X c tc) (ha : DSs X as t) (hb : DSs X bs u) : DS X (.If c as bs pos) (dIte tc t u) := fun WW tk =>
  ps_mono (ps_if hc (ha WW tk) (hb WW tk)) fun D σ H ⟨A, E, env, F, ow, dm, S, q, k⟩ => ⟨env, F, ow, dm, _, S.x, q, fun b hb F1 H1 x => by
    cases b with
    | true => exact ⟨A, E, env, F1, ow, dm, S.ext x, hb, k⟩
    | false => exact ⟨A, E, env, F1, ow, dm, S.ext x, hb, k⟩⟩
def dWhile (c : TQ) (tb : TSd) : TSd := fun E env => ∃ I : Nat → Env → Prop, (∃ m, I m env) ∧ ∀ m env, I m env → c env fun b => if b = true then tb { E with nx := fun e' => ∃ m', m' < m ∧ I m' e', ct := fun e' => ∃ m', m' < m ∧ I m' e', bk := E.nx } env else E.nx env
theorem ds_while {tc : TQ} {body : List Stmt} {tb : TSd} (hc : DT X c tc) (hb : DSs X body tb) (hp : PassesOwn (model X.prog X.w) X.A X.env X.xe := by exact PassesOwn.never) : DS X (.While c body [] pos) (dWhile tc tb) := by
  intro WW tk
  refine ps_mono (ps_while hp hc (hb WW tk)) fun D σ H ⟨A, E, env, F, ow, dm, S, ⟨I, ⟨m0, h0⟩, turn⟩, k⟩ => ?_
  refine ⟨fun m σ H => ∃ env F ow dm, SA X.K A env σ F H ow dm ∧ I m env, ⟨m0, env, F, ow, dm, S, h0⟩, fun m σ1 H1 ⟨env1, F1, ow1, dm1, S1, h1⟩ => ?_⟩
  refine ⟨env1, F1, ow1, dm1, _, S1.x, turn m env1 h1, fun b hb F2 H2 x => ?_⟩
  cases b with
  | true =>
    refine ⟨fun σ' H' => ∃ m', m' < m ∧ ∃ env F ow dm, SA X.K A env σ' F H' ow dm ∧ I m' env, fun _ _ h => h, A, _, env1, F2, ow1, dm1, S1.ext x, hb, ?_⟩
    exact ⟨fun env σ F H ow dm S ⟨m', hm, hI⟩ => ⟨m', hm, env, F, ow, dm, S, hI⟩, k.rt, k.nx, fun env σ F H ow dm S ⟨m', hm, hI⟩ => ⟨m', hm, env, F, ow, dm, S, hI⟩, k.ex⟩
  | false => exact k.nx _ _ _ _ _ _ (S1.ext x) hb
/-- a loop over known items -/
def loopD (g : TGd) (tb : TSd) : List D → TSd
  | [], E, env => E.nx env
  | d :: ds, E, env => g d env fun env1 => tb { E with nx := fun e' => loopD g tb ds E e', ct := fun e' => loopD g tb ds E e', bk := E.nx } env1
def dFor (ti : TIt) (g : TGd) (tb : TSd) : TSd := fun E env => ti env fun items => loopD g tb items E env
theorem SA.repin {K : PySem.W.Frag} {A : Anc} {env : Env} {σ : St} {F H G : Hp} {ow : Addr → Option Nat} {dm : DM} (S : SA K A env σ F H ow dm) (h : Same G F) : SA K { A with G := G } env σ F H ow dm := ⟨S.x, S.anc, h, S.own, S.owh, S.dmf⟩
theorem ds_for {iter : Expr} {body : List Stmt} {ti : TIt} {g : TGd} {tb : TSd} {ks : List Nat} (hi : DI X true tg iter ti) (hg : DG X tg ks g) (hb : DSs X body tb) (hc : X.calm = true := by rfl) (hp : PassesOwn (model X.prog X.w) X.A X.env X.xe := by exact PassesOwn.never)
    (hs : ∀ x, foldedSetIterable iter X.env x = pure x := by intro _; rfl) :
    DS X (.For tg iter body [] pos) (dFor ti g tb) := by
  intro WW tk
  refine ps_mono (ps_for hp hc hi hg (hb WW tk) hs) fun D σ H ⟨A, E, env, F, ow, dm, S, q, k⟩ => ⟨env, F, ow, dm, _, S.x, q, fun items hit J F1 H1 C x hI hC => ?_⟩
  have noC : ∀ b, ¬ C b := fun b hb => by cases (hC b hb).1
  have S1 := S.ext x
  refine ⟨fun i m σ H => m = items.length - i ∧ i ≤ items.length ∧ ∃ env F ow dm, SA X.K { A with G := F1 } env σ F H ow dm ∧ loopD g tb (items.drop i) E env, ⟨_, rfl, Nat.zero_le _, env, F1, ow, dm, S1.repin (Same.refl F1), hit⟩, ?_⟩
  rintro i m σ2 H2 ⟨rfl, hle, env2, F2, ow2, dm2, S2, hl⟩
  have hIt := hI dm2 F2 H2 S2.pin S2.x.same S2.x.dl fun b hb => (noC b hb).elim
  have back : ∀ {env : Env} {σ : St} {F H : Hp} {ow : Addr → Option Nat} {dm : DM}, SA X.K { A with G := F1 } env σ F H ow dm → SA X.K A env σ F H ow dm := fun T => ⟨T.x, T.anc, S1.pin.trans T.pin, T.own, T.owh, T.dmf⟩
  rcases Nat.lt_or_ge i items.length with hlt | hge
  · refine .inr ?_
    obtain ⟨e0, he0⟩ : ∃ e0, items[i]? = some e0 := ⟨_, List.getElem?_eq_getElem hlt⟩
    have hdrop : items.drop i = e0 :: items.drop (i + 1) := by
      rw [List.drop_eq_getElem_cons hlt]
      rw [List.getElem?_eq_getElem hlt] at he0
      rw [Option.some.inj he0]
    rw [hdrop] at hl
    obtain ⟨hgo, hy⟩ := hIt.1 i e0 he0
    refine ⟨hgo, _, fun σ' H' hN => ⟨items.length - (i + 1), by omega, hN⟩, fun y0 H3 hyl => ?_⟩
    obtain ⟨F3, x3, r3⟩ := hy y0 H3 hyl
    have S3 := S2.ext x3
    refine ⟨env2, F3, ow2, dm2, e0, _, S3.x, r3, hl, fun env4 hq σ4 S4 _ => ?_⟩
    refine ⟨{ A with G := F1 }, _, env4, F3, ow2, dm2, ⟨S4, S3.anc, S3.pin, S3.own, S3.owh, S3.dmf⟩, hq, ?_⟩
    exact ⟨fun env σ F H ow dm T hn => ⟨rfl, hlt, env, F, ow, dm, T, hn⟩, k.rt, fun env σ F H ow dm T hb => k.nx env σ F H ow dm (back T) hb, fun env σ F H ow dm T hn => ⟨rfl, hlt, env, F, ow, dm, T, hn⟩, fun env σ F H ow dm c a cls d T => k.ex env σ F H ow dm c a cls d (back T)⟩
  · refine .inl ?_
    have e : i = items.length := Nat.le_antisymm hle hge
    subst e
    rw [List.drop_length] at hl
    exact ⟨hIt.2, k.nx _ _ _ _ _ _ (back S2) hl⟩
end
end DL

/-! DL, part i: built-ins over data; slices, sums of lists; a slot's own list changed. -/
namespace DL
open PySem L2

/-! ### built-ins -/
def intsOf : List D → Option (List Int)
  | [] => some []
  | .int i :: ds => (intsOf ds).map (i :: ·)
  | _ :: _ => none
theorem intsOf_map (ns : List Int) : intsOf (ns.map .int) = some ns := by
  induction ns with
  | nil => rfl
  | cons n ns ih => simp [intsOf, ih]
theorem intsOf_eq : ∀ {ds : List D} {ns : List Int}, intsOf ds = some ns → ds = ns.map .int
  | [], _, h => by cases h; rfl
  | .int i :: ds, ns, h => by
    unfold intsOf at h
    cases q : intsOf ds with
    | none => rw [q] at h; cases h
    | some ms =>
      rw [q] at h
      cases h
      rw [intsOf_eq q]
      rfl
  | .none :: _, _, h => by cases h
  | .bool _ :: _, _, h => by cases h
  | .str _ :: _, _, h => by cases h
  | .list _ :: _, _, h => by cases h
  | .tuple _ :: _, _, h => by cases h
  | .dict _ :: _, _, h => by cases h
section
variable {K : PySem.W.Frag}
theorem dball1 {dm : DM} {F H : Hp} {vs : List V} {d : D} (r : DbAll K dm F H vs [d]) : ∃ v, vs = [v] ∧ Db K dm F H v d := by
  cases r with
  | cons h r => cases r; exact ⟨_, rfl, h⟩
theorem dball2 {dm : DM} {F H : Hp} {vs : List V} {d e : D} (r : DbAll K dm F H vs [d, e]) : ∃ v u, vs = [v, u] ∧ Db K dm F H v d ∧ Db K dm F H u e := by
  cases r with
  | cons h r =>
    obtain ⟨u, rfl, h'⟩ := dball1 r
    exact ⟨_, _, rfl, h, h'⟩
def gLen : List D → (W → Prop) → Prop := fun ds P => match ds with
  | [.list xs] => P (.fz (.int xs.length))
  | [.tuple xs] => P (.fz (.int xs.length))
  | [.str z] => z.length ≤ sizeLine ∧ P (.fz (.int z.length))
  | _ => False
theorem snd_len : SndC K (fun xs H Q => ∃ x n, xs = [x] ∧ LenV K x H n ∧ Q (.int n) H) gLen := by
  intro dm F H vs ds Q P hs dl r g k
  unfold gLen at g
  split at g
  · obtain ⟨v, rfl, h⟩ := dball1 r
    obtain ⟨a, us, rfl, hq, rr⟩ := h.lst_inv hs
    exact ⟨_, _, rfl, .inl ⟨us, .of hq, rfl⟩, by rw [dpAll_length rr]; exact got_here hs dl (.int _) (k _ g)⟩
  · obtain ⟨v, rfl, h⟩ := dball1 r
    obtain ⟨a, us, rfl, _, hq, rr⟩ := h.tup_inv hs
    exact ⟨_, _, rfl, .inr ⟨us, hq, rfl⟩, by rw [dpAll_length rr]; exact got_here hs dl (.int _) (k _ g)⟩
  · obtain ⟨v, rfl, h⟩ := dball1 r
    cases h.str_inv
    exact ⟨_, _, rfl, ⟨g.1, rfl⟩, got_here hs dl (.int _) (k _ g.2)⟩
  · exact g.elim
/-- one int in, one value out -/
def gU (f : Int → D) : List D → (W → Prop) → Prop := fun ds P => match ds with
  | [.int i] => P (.fz (f i))
  | _ => False
theorem snd_abs : SndC K (fun xs H Q => ∃ i, xs = [.int i] ∧ Q (.int (if i < 0 then -i else i)) H) (gU fun i => .int (if i < 0 then -i else i)) := by
  intro dm F H vs ds Q P hs dl r g k
  unfold gU at g
  split at g
  · obtain ⟨v, rfl, h⟩ := dball1 r
    cases h.int_inv
    exact ⟨_, rfl, got_here hs dl (.int _) (k _ g)⟩
  · exact g.elim
theorem snd_int : SndC K (fun xs H Q => (∃ i, xs = [.int i] ∧ Q (.int i) H) ∨ ∃ k, xs = [.bl k] ∧ Q (.int (if k then 1 else 0)) H) (gU fun i => .int i) := by
  intro dm F H vs ds Q P hs dl r g k
  unfold gU at g
  split at g
  · obtain ⟨v, rfl, h⟩ := dball1 r
    cases h.int_inv
    exact .inl ⟨_, rfl, got_here hs dl (.int _) (k _ g)⟩
  · exact g.elim
def gB (f : Int → Int → D) : List D → (W → Prop) → Prop := fun ds P => match ds with
  | [.int i, .int j] => P (.fz (f i j))
  | _ => False
theorem snd_max2 : SndC K (fun xs H Q => ∃ i j, xs = [.int i, .int j] ∧ Q (.int (if j > i then j else i)) H) (gB fun i j => .int (if j > i then j else i)) := by
  intro dm F H vs ds Q P hs dl r g k
  unfold gB at g
  split at g
  · obtain ⟨v, u, rfl, h, h'⟩ := dball2 r
    cases h.int_inv; cases h'.int_inv
    exact ⟨_, _, rfl, got_here hs dl (.int _) (k _ g)⟩
  · exact g.elim
theorem snd_min2 : SndC K (fun xs H Q => ∃ i j, xs = [.int i, .int j] ∧ Q (.int (if j < i then j else i)) H) (gB fun i j => .int (if j < i then j else i)) := by
  intro dm F H vs ds Q P hs dl r g k
  unfold gB at g
  split at g
  · obtain ⟨v, u, rfl, h, h'⟩ := dball2 r
    cases h.int_inv; cases h'.int_inv
    exact ⟨_, _, rfl, got_here hs dl (.int _) (k _ g)⟩
  · exact g.elim
/-- a list of ints in -/
def gNs (f : List Int → (W → Prop) → Prop) : List D → (W → Prop) → Prop := fun ds P => match ds with
  | [.list xs] => ∃ ns, intsOf xs = some ns ∧ f ns P
  | _ => False
theorem snd_Ns {r : List V → Hp → VK → Prop} {f : List Int → (W → Prop) → Prop} (hr : ∀ (dm : DM) (F H : Hp) (Q : VK) (P : W → Prop) (a : Addr) (ns : List Int), Same F H → (∀ p, dm = some p → DealAt F H p.1 p.2) → SqL K H a (ns.map V.int) → f ns P → (∀ w, P w → Got K dm F H Q w) → r [.ref a] H Q) : SndC K r (gNs f) := by
  intro dm F H vs ds Q P hs dl h g k
  unfold gNs at g
  split at g
  · obtain ⟨ns, e, g⟩ := g
    rw [intsOf_eq e] at h
    obtain ⟨v, rfl, h'⟩ := dball1 h
    obtain ⟨a, us, rfl, hq, rr⟩ := h'.lst_inv hs
    rw [dpAll_ints rr] at hq
    exact hr dm F H Q P a ns hs dl (.of hq) g k
  · exact g.elim
theorem snd_sum : SndC K (rSum K) (gNs fun ns P => P (.fz (.int ns.sum))) := snd_Ns fun dm F H Q P a ns hs dl hq g k => ⟨a, ns, rfl, hq, got_here hs dl (.int _) (k _ g)⟩
theorem snd_max : SndC K (rMax K) (gNs fun ns P => 0 < ns.length ∧ ∀ m, m ∈ ns → (∀ y, y ∈ ns → y ≤ m) → P (.fz (.int m))) := snd_Ns fun dm F H Q P a ns hs dl hq g k => ⟨a, ns, rfl, hq, g.1, fun m h1 h2 => got_here hs dl (.int _) (k _ (g.2 m h1 h2))⟩
theorem snd_min : SndC K (rMin K) (gNs fun ns P => 0 < ns.length ∧ ∀ m, m ∈ ns → (∀ y, y ∈ ns → m ≤ y) → P (.fz (.int m))) := snd_Ns fun dm F H Q P a ns hs dl hq g k => ⟨a, ns, rfl, hq, g.1, fun m h1 h2 => got_here hs dl (.int _) (k _ (g.2 m h1 h2))⟩
theorem dpAll_of_ints {F : Hp} : ∀ ns : List Int, DpAll K F (ns.map V.int) (ns.map .int)
  | [] => .nil
  | n :: ns => .cons (.int n) (dpAll_of_ints ns)
theorem snd_sorted : SndC K (rSortedI K) (gNs fun ns P => ∀ ns' : List Int, ns'.Perm ns → ns'.Pairwise (· ≤ ·) → P (.own ((ns'.map PyData.int).map .fz))) :=
  snd_Ns fun dm F H Q P a ns hs dl hq g k => ⟨a, ns, rfl, hq, fun ns' p h1 h2 hp => got_lst0 hs dl (dpAll_of_ints ns') (k _ (g ns' h1 h2)) hp⟩
/-- tuple(xs), list(xs) -/
def gTuple : List D → (W → Prop) → Prop := fun ds P => match ds with
  | [.list xs] => P (.fz (.tuple xs))
  | [.tuple xs] => P (.fz (.tuple xs))
  | _ => False
theorem snd_tuple : SndC K (rTupX K) gTuple := by
  intro dm F H vs ds Q P hs dl r g k
  unfold gTuple at g
  split at g
  · obtain ⟨v, rfl, h⟩ := dball1 r
    obtain ⟨a, us, rfl, hq, rr⟩ := h.lst_inv hs
    exact ⟨_, _, rfl, .inl ⟨.of hq, got_tup hs dl rr (k _ g)⟩⟩
  · obtain ⟨v, rfl, h⟩ := dball1 r
    obtain ⟨a, us, rfl, hF, hq, rr⟩ := h.tup_inv hs
    exact ⟨_, _, rfl, .inr ⟨hq, got_here hs dl (.tup hF rr) (k _ g)⟩⟩
  · exact g.elim
def gList : List D → (W → Prop) → Prop := fun ds P => match ds with
  | [.list xs] => P (.own (xs.map .fz))
  | [.tuple xs] => P (.own (xs.map .fz))
  | _ => False
theorem snd_list : SndC K (fun xs H Q => ∃ p ys, xs = [.ref p] ∧ (SqL K H p ys ∨ SqT K H p ys) ∧ ∀ l, H l = none → Q (.ref l) (upd H l (.lst ys))) gList := by
  intro dm F H vs ds Q P hs dl r g k
  unfold gList at g
  split at g
  · obtain ⟨v, rfl, h⟩ := dball1 r
    obtain ⟨a, us, rfl, hq, rr⟩ := h.lst_inv hs
    exact ⟨_, _, rfl, .inl (.of hq), fun l hl => got_lst0 hs dl rr (k _ g) hl⟩
  · obtain ⟨v, rfl, h⟩ := dball1 r
    obtain ⟨a, us, rfl, hF, hq, rr⟩ := h.tup_inv hs
    exact ⟨_, _, rfl, .inr hq, fun l hl => got_lst0 hs dl rr (k _ g) hl⟩
  · exact g.elim
end
section
variable {X : Cx} {e a b c : Expr} {pos p : Pos} {t : TDs}
abbrev dLen (t : TDs) : TW := dCall gLen t
theorem dw_len (hm : X.mg "len" = none) (ha : DA X [e] t) (hg : Gl X "len" := by rfl) (he : starEach [e] X.env = [(false, eval e X.env)] := by rfl) : DW X (.Call (.Name "len" p) [e] [] pos) (dLen t) := dw_callB call_len snd_len hm ha hg (he := he)
theorem dw_abs (hm : X.mg "abs" = none) (ha : DA X [e] t) (hg : Gl X "abs" := by rfl) (he : starEach [e] X.env = [(false, eval e X.env)] := by rfl) : DW X (.Call (.Name "abs" p) [e] [] pos) (dCall (gU fun i => .int (if i < 0 then -i else i)) t) := dw_callB call_abs snd_abs hm ha hg (he := he)
theorem dw_int1 (hm : X.mg "int" = none) (ha : DA X [e] t) (hg : Gl X "int" := by rfl) (he : starEach [e] X.env = [(false, eval e X.env)] := by rfl) : DW X (.Call (.Name "int" p) [e] [] pos) (dCall (gU fun i => .int i) t) := dw_callT call_int1 snd_int hm ha hg (he := he)
theorem dw_sum (hm : X.mg "sum" = none) (ha : DA X [e] t) (hc : X.calm = true := by rfl) (hg : Gl X "sum" := by rfl) (he : starEach [e] X.env = [(false, eval e X.env)] := by rfl) : DW X (.Call (.Name "sum" p) [e] [] pos) (dCall (gNs fun ns P => P (.fz (.int ns.sum))) t) := dw_callB (cr_sum hc) snd_sum hm ha hg (he := he)
theorem dw_max1 (hm : X.mg "max" = none) (ha : DA X [e] t) (hc : X.calm = true := by rfl) (hg : Gl X "max" := by rfl) (he : starEach [e] X.env = [(false, eval e X.env)] := by rfl) : DW X (.Call (.Name "max" p) [e] [] pos) (dCall (gNs fun ns P => 0 < ns.length ∧ ∀ m, m ∈ ns → (∀ y, y ∈ ns → y ≤ m) → P (.fz (.int m))) t) := dw_callB (cr_max hc) snd_max hm ha hg (he := he)
theorem dw_min1 (hm : X.mg "min" = none) (ha : DA X [e] t) (hc : X.calm = true := by rfl) (hg : Gl X "min" := by rfl) (he : starEach [e] X.env = [(false, eval e X.env)] := by rfl) : DW X (.Call (.Name "min" p) [e] [] pos) (dCall (gNs fun ns P => 0 < ns.length ∧ ∀ m, m ∈ ns → (∀ y, y ∈ ns → m ≤ y) → P (.fz (.int m))) t) := dw_callB (cr_min hc) snd_min hm ha hg (he := he)
theorem dw_max2 (hm : X.mg "max" = none) (ha : DA X [a, b] t) (hc : X.calm = true := by rfl) (hg : Gl X "max" := by rfl) (he : starEach [a, b] X.env = (false, eval a X.env) :: starEach [b] X.env := by rfl) (hpl : (backTo pos (starEach [b] X.env)).any (·.1) = false := by rfl) :
    DW X (.Call (.Name "max" p) [a, b] [] pos) (dCall (gB fun i j => .int (if j > i then j else i)) t) := dw_callB (call_max2 hc) snd_max2 hm ha hg (he := he) (hpl := hpl)
theorem dw_min2 (hm : X.mg "min" = none) (ha : DA X [a, b] t) (hc : X.calm = true := by rfl) (hg : Gl X "min" := by rfl) (he : starEach [a, b] X.env = (false, eval a X.env) :: starEach [b] X.env := by rfl) (hpl : (backTo pos (starEach [b] X.env)).any (·.1) = false := by rfl) :
    DW X (.Call (.Name "min" p) [a, b] [] pos) (dCall (gB fun i j => .int (if j < i then j else i)) t) := dw_callB (call_min2 hc) snd_min2 hm ha hg (he := he) (hpl := hpl)
theorem dw_sorted (hm : X.mg "sorted" = none) (ha : DA X [e] t) (hg : Gl X "sorted" := by rfl) (he : starEach [e] X.env = [(false, eval e X.env)] := by rfl) :
    DW X (.Call (.Name "sorted" p) [e] [] pos) (dCall (gNs fun ns P => ∀ ns' : List Int, ns'.Perm ns → ns'.Pairwise (· ≤ ·) → P (.own ((ns'.map PyData.int).map .fz))) t) := dw_callB cr_sortedI snd_sorted hm ha hg (he := he)
theorem dw_tuple (hm : X.mg "tuple" = none) (ha : DA X [e] t) (hg : Gl X "tuple" := by rfl) (he : starEach [e] X.env = [(false, eval e X.env)] := by rfl) : DW X (.Call (.Name "tuple" p) [e] [] pos) (dCall gTuple t) := dw_callT cr_tupX snd_tuple hm ha hg (he := he)
theorem dw_list (hm : X.mg "list" = none) (ha : DA X [e] t) (hg : Gl X "list" := by rfl) (he : starEach [e] X.env = [(false, eval e X.env)] := by rfl) : DW X (.Call (.Name "list" p) [e] [] pos) (dCall gList t) := dw_callT call_list_of snd_list hm ha hg (he := he)

/-! ### slices -/
abbrev TOd := Env → (Option Int → Prop) → Prop
def lO (K : PySem.W.Frag) (t : TOd) : St → Hp → (Option Int → Hp → Prop) → Prop := fun σ H Q => ∃ env F ow dm P, SRx K env σ F H ow dm ∧ t env P ∧ ∀ o, P o → ∀ F' H', Ext dm F H F' H' → Q o H'
def DO (X : Cx) (e : Option Expr) (t : TOd) : Prop := PO X e (lO X.K t)
def oNone : TOd := fun _ Q => Q none
def oSome (t : TB) : TOd := fun env Q => t env fun d => match d with
  | .int i => Q (some i)
  | _ => False
theorem po_mono {X : Cx} {e : Option Expr} {t t' : TO} (h : PO X e t) (m : ∀ σ H Q, t' σ H Q → t σ H Q) : PO X e t' := ⟨fun pins s σ H Q I q => h.run pins s σ H Q I (m σ H Q q)⟩
theorem do_none : DO X none oNone := po_mono po_none fun σ H Q ⟨env, F, ow, dm, P, S, q, k⟩ => k none q F H S.refl
theorem do_some {t : TB} (h : DB X e t) : DO X (some e) (oSome t) := po_mono (po_some h) fun σ H Q ⟨env, F, ow, dm, P, S, q, k⟩ => ⟨env, F, ow, dm, _, S, q, fun d hd v F1 H1 x r => by
  split at hd
  · cases r.int_inv
    exact ⟨_, rfl, k _ hd F1 H1 x⟩
  · exact hd.elim⟩
def cutL {α : Type} (xs : List α) (lo hi : Option Int) : List α := (xs.drop (HT.sIx xs.length 0 lo)).take (HT.sIx xs.length xs.length hi - HT.sIx xs.length 0 lo)
def gCut (x : D) (lo hi : Option Int) (P : W → Prop) : Prop := match x with
  | .list ds => P (.own ((cutL ds lo hi).map .fz))
  | .tuple ds => P (.fz (.tuple (cutL ds lo hi)))
  | .str z => z.length ≤ sizeLine ∧ P (.fz (.str (cutS z lo hi)))
  | _ => False
def dCut (te : TB) (tl th : TOd) : TW := fun env Q => te env fun x => tl env fun l => th env fun h => gCut x l h Q
/-- what a slice of values asks, by kind -/
def rCut (K : PySem.W.Frag) : V → Option Int → Option Int → Hp → VK → Prop := fun x lo hi H Q => rSlL K x lo hi H Q ∨ rSlX K x lo hi H Q ∨ rSlS x lo hi H Q
theorem sl_cut : SlR X (rCut X.K) := by
  intro pins s σ H x v vl vu l u a Q I r1 hsl pl pu h
  rcases h with h | h | h
  · exact sl_list pins s σ H x v vl vu l u a Q I r1 hsl pl pu h
  · exact sl_tupX pins s σ H x v vl vu l u a Q I r1 hsl pl pu h
  · exact sl_str pins s σ H x v vl vu l u a Q I r1 hsl pl pu h
theorem cutL_all {α : Type} {xs : List α} {lo hi : Option Int} (h : HT.sIx xs.length 0 lo = 0 ∧ HT.sIx xs.length xs.length hi = xs.length) : cutL xs lo hi = xs := by
  unfold cutL
  rw [h.1, h.2, List.drop_zero, Nat.sub_zero, List.take_length]
theorem dpAll_cut {K : PySem.W.Frag} {F : Hp} {vs : List V} {ds : List D} {lo hi : Option Int} (r : DpAll K F vs ds) : DpAll K F (cutV vs lo hi) (cutL ds lo hi) := by
  unfold cutV cutL
  rw [dpAll_length r]
  exact dpAll_take _ (dpAll_drop _ r)
theorem dw_slice {lo hi : Option Expr} {p2 : Pos} {te : TB} {tl th : TOd} (he : DB X e te) (hl : DO X lo tl) (hh : DO X hi th) : DW X (.Subscript e (.Slice lo hi none p2) pos) (dCut te tl th) := by
  refine pe_mono (pe_slice sl_cut he hl hh) fun σ H Q ⟨env, F, ow, dm, P, S, q, k⟩ => ⟨env, F, ow, dm, _, S, q, fun d hd v F1 H1 x1 r1 => ⟨env, F1, ow, dm, _, S.ext x1, hd, fun l hl F2 H2 x2 => ⟨env, F2, ow, dm, _, (S.ext x1).ext x2, hl, fun h hh F3 H3 x3 => ?_⟩⟩⟩
  have x := (x1.trans x2).trans x3
  have r := (r1.ext x2).ext x3
  unfold gCut at hh
  split at hh
  · obtain ⟨a, us, rfl, hq, rr⟩ := r.lst_inv x3.fh
    exact .inl ⟨a, us, rfl, .of hq, fun p hp => got_lst0 x.fh x.dl (dpAll_cut rr) (got_of x (k _ hh)) hp⟩
  · obtain ⟨a, us, rfl, hF, hq, rr⟩ := r.tup_inv x3.fh
    refine .inr (.inl ⟨a, us, rfl, hq, fun hall => ?_, fun _ => got_tup x.fh x.dl (dpAll_cut rr) (got_of x (k _ hh))⟩)
    rw [dpAll_length rr] at hall
    rw [cutL_all hall] at hh
    exact got_here x.fh x.dl (.tup hF rr) (got_of x (k _ hh))
  · cases r.str_inv
    exact .inr (.inr ⟨_, rfl, hh.1, got_here x.fh x.dl (.str _) (got_of x (k _ hh.2))⟩)
  · exact hh.elim
/-- xs[::-1] of a list -/
def dRev (te : TB) : TW := fun env Q => te env fun d => match d with
  | .list ds => Q (.own (ds.reverse.map .fz))
  | _ => False
theorem dw_rev {k : Nat} {p1 p2 p3 : Pos} {te : TB} (he : DB X e te) : DW X (.Subscript e (.Slice none none (some (.UnaryOp .USub (.Constant (.int 1) k p1) p2)) p3) pos) (dRev te) := by
  refine pe_mono (pe_revL he) fun σ H Q ⟨env, F, ow, dm, P, S, q, k⟩ => ⟨env, F, ow, dm, _, S, q, fun d hd v F1 H1 x r => ?_⟩
  split at hd
  · obtain ⟨a, us, rfl, hq, rr⟩ := r.lst_inv x.fh
    exact ⟨a, us, rfl, .of hq, fun p hp => got_lst0 x.fh x.dl (dpAll_reverse rr) (got_of x (k _ hd)) hp⟩
  · exact hd.elim
end
end DL

/-! DL, part j: a slot's own list changed. -/
namespace DL
open PySem L2

theorem wr1 {K : PySem.W.Frag} {dm : DM} {F H : Hp} {w : W} {vs : List V} {fp : List Addr} (r : WRs K dm F H [w] vs fp) : ∃ v, vs = [v] ∧ WR K dm F H w v fp := by
  cases r with
  | cons h r =>
    cases r
    rw [List.append_nil]
    exact ⟨_, rfl, h⟩
/-- the last item parted from the others -/
theorem WRs.last {K : PySem.W.Frag} {dm : DM} {F H : Hp} : ∀ {ws : List W} {vs : List V} {fp : List Addr} {w : W}, WRs K dm F H (ws ++ [w]) vs fp → ∃ us v fq fr, vs = us ++ [v] ∧ fp = fq ++ fr ∧ WRs K dm F H ws us fq ∧ WR K dm F H w v fr
  | [], vs, fp, w, r => by
    obtain ⟨v, rfl, h⟩ := wr1 r
    exact ⟨[], v, [], fp, rfl, rfl, .nil, h⟩
  | u :: ws, _, _, w, .cons (fp := f1) h r => by
    obtain ⟨us, v, fq, fr, rfl, rfl, r1, r2⟩ := WRs.last (ws := ws) r
    exact ⟨_ :: us, v, f1 ++ fq, fr, rfl, (List.append_assoc ..).symm, .cons h r1, r2⟩
/-- an item exchanged -/
theorem WRs.set {K : PySem.W.Frag} {dm : DM} {F H : Hp} {w : W} {v : V} {fq : List Addr} (h : WR K dm F H w v fq) : ∀ {ws : List W} {vs : List V} {fp : List Addr} (j : Nat), WRs K dm F H ws vs fp → (fp ++ fq).Nodup →
    ∃ fr, WRs K dm F H (ws.set j w) (vs.set j v) fr ∧ fr.Nodup ∧ ∀ a ∈ fr, a ∈ fp ∨ a ∈ fq
  | _, _, _, _, .nil, nd => ⟨[], .nil, List.nodup_nil, fun _ ha => nomatch ha⟩
  | _, _, _, 0, .cons (fp := f1) (fq := f2) h1 r, nd => by
    refine ⟨fq ++ f2, .cons h r, ?_, fun a ha => ?_⟩
    · have n1 := List.nodup_append.mp nd
      have n2 := List.nodup_append.mp n1.1
      exact List.nodup_append.mpr ⟨n1.2.1, n2.2.1, fun a ha b hb e => n1.2.2 b (List.mem_append_right _ hb) a ha e.symm⟩
    · rcases List.mem_append.mp ha with z | z
      · exact .inr z
      · exact .inl (List.mem_append_right _ z)
  | _, _, _, j + 1, .cons (fp := f1) (fq := f2) h1 r, nd => by
    have n1 := List.nodup_append.mp nd
    have n2 := List.nodup_append.mp n1.1
    obtain ⟨fr, r1, n3, k⟩ := WRs.set h j r (List.nodup_append.mpr ⟨n2.2.1, n1.2.1, fun a ha b hb e => n1.2.2 a (List.mem_append_right _ ha) b hb e⟩)
    refine ⟨f1 ++ fr, .cons h1 r1, List.nodup_append.mpr ⟨n2.1, n3, fun a ha b hb e => ?_⟩, fun a ha => ?_⟩
    · rcases k b hb with z | z
      · exact n2.2.2 a ha b z e
      · exact n1.2.2 a (List.mem_append_left _ ha) b z e
    · rcases List.mem_append.mp ha with z | z
      · exact .inl (List.mem_append_left _ z)
      · rcases k a z with y | y
        · exact .inl (List.mem_append_right _ y)
        · exact .inr y
section
variable {X : Cx} {e a b c o : Expr} {pos apos cpos p : Pos} {x : Str}
/-- x.append(e) -/
def dApp (i : Nat) (tw : TW) : TSd := fun E env => match env[i]? with
  | some (some (.own ws)) => ws.length < sizeLine ∧ tw env fun w => E.nx (env.set i (some (.own (ws ++ [w]))))
  | _ => False
theorem ds_append (i : Nat) {tw : TW} (h : PE X e (tBM X.K "list" rAppend (tVar i) (lWs X.K (wCons tw wNil)))) (hs : swapsWith e none pos.line X.env = pure false := by rfl) : DS X (.Expr e pos) (dApp i tw) := by
  intro _ _
  refine ps_mono (ps_expr h hs) fun D σ H ⟨A, E, env, F, ow, dm, S, q, k⟩ => ?_
  unfold dApp at q
  split at q
  · rename_i ws ei
    obtain ⟨l, vs, fp, hσ, hl, Fl, nM, r, nd, nmf, K⟩ := S.mut ei
    refine ⟨.ref l, hσ, .inl ⟨rfl, _, SqL.of hl⟩, env, F, ow, dm, fun ws1 => match ws1 with | [w] => E.nx (env.set i (some (.own (ws ++ [w])))) | _ => False, S.x, q.2, fun ws1 hw us F1 H1 fq x1 r1 nd1 fr1 => ?_⟩
    dsimp only at hw
    split at hw
    · rename_i w
      obtain ⟨v, rfl, r2⟩ := wr1 r1
      have hl1 : H1 l = some (.lst vs) := x1.hh l _ hl nM
      refine ⟨l, vs, v, rfl, rfl, hl1, by rw [wrs_length r]; exact q.1, ?_⟩
      have nl : l ∉ fq := fun z => by rw [fr1 l z] at hl; cases hl
      have nd' := List.nodup_cons.mp nd
      have dj : ∀ c ∈ fp, ∀ d ∈ fq, c ≠ d := fun c hc d hd z => (r.there c hc).1 (z ▸ fr1 d hd)
      refine k.nx _ _ _ _ _ _ (K F1 H1 (ws ++ [w]) (vs ++ [v]) (fp ++ fq) x1 hl1 ?_ (List.nodup_cons.mpr ⟨fun z => (List.mem_append.mp z).elim nd'.1 nl, List.nodup_append.mpr ⟨nd'.2, nd1, dj⟩⟩) fun c hc => ?_) hw
      · have := WRs.app (wexts x1 r nmf) (WRs.cons r2 .nil)
        rw [List.append_nil] at this
        exact this
      · exact (List.mem_append.mp hc).imp id fun z => fr1 c z
    · exact hw.elim
  · exact q.elim
/-- y = x.pop(): the last item, data -/
def dPop (j i : Nat) : TSd := fun E env => match env[i]? with
  | some (some (.own ws)) => ∃ us d, ws = us ++ [.fz d] ∧ E.nx ((env.set i (some (.own us))).set j (some (.fz d)))
  | _ => False
theorem ds_pop (j i : Nat) {y : Str} {py : Pos} (h : PE X e (tBM0 X.K "list" rPop (tVar i))) (hN : X.N.Nodup) (hi : X.N[j]? = some y := by rfl) (hx : Loc X.env.scope y := by first | exact .inl rfl | exact .inr rfl)
    (hs : swapsWith e (some (.Name y py)) pos.line X.env = pure false := by rfl) (hf : X.fn y = true ∨ X.env.scope.names.lookup y = some .local := by first | exact .inl rfl | exact .inr rfl) : DS X (.Assign [.Name y py] e pos) (dPop j i) := by
  intro _ _
  refine ps_mono (ps_set hN hi hx h hs hf) fun D σ H ⟨A, E, env, F, ow, dm, S, q, k⟩ => ?_
  unfold dPop at q
  split at q
  · rename_i ws ei
    obtain ⟨us, d, rfl, q⟩ := q
    obtain ⟨l, vs, fp, hσ, hl, Fl, nM, r, nd, nmf, K⟩ := S.mut ei
    obtain ⟨zs, v, fq, fr, rfl, rfl, r1, r2⟩ := WRs.last r
    refine ⟨.ref l, hσ, .inl ⟨rfl, _, SqL.of hl⟩, l, zs ++ [v], v, rfl, rfl, hl, by simp, ?_⟩
    cases r2 with
    | fz r2 =>
      rw [List.append_nil] at nd nmf
      have S1 := K F H us zs fq S.x.refl hl r1 nd fun c hc => .inl (by rw [List.append_nil]; exact hc)
      rw [List.dropLast_concat]
      exact k.nx _ _ _ _ _ _ (S1.put' (i := j) (.fz r2) List.nodup_nil (fun _ ha => nomatch ha)) q
  · exact q.elim
/-- x.pop() -/
def dPop0 (i : Nat) : TSd := fun E env => match env[i]? with
  | some (some (.own ws)) => ∃ us w, ws = us ++ [w] ∧ E.nx (env.set i (some (.own us)))
  | _ => False
theorem ds_pop0 (i : Nat) (h : PE X e (tBM0 X.K "list" rPop (tVar i))) (hs : swapsWith e none pos.line X.env = pure false := by rfl) : DS X (.Expr e pos) (dPop0 i) := by
  intro _ _
  refine ps_mono (ps_expr h hs) fun D σ H ⟨A, E, env, F, ow, dm, S, q, k⟩ => ?_
  unfold dPop0 at q
  split at q
  · rename_i ws ei
    obtain ⟨us, d, rfl, q⟩ := q
    obtain ⟨l, vs, fp, hσ, hl, Fl, nM, r, nd, nmf, K⟩ := S.mut ei
    obtain ⟨zs, v, fq, fr, rfl, rfl, r1, r2⟩ := WRs.last r
    refine ⟨.ref l, hσ, .inl ⟨rfl, _, SqL.of hl⟩, l, zs ++ [v], v, rfl, rfl, hl, by simp, ?_⟩
    have nd' := List.nodup_cons.mp nd
    have S1 := K F H us zs fq S.x.refl hl r1 (List.nodup_cons.mpr ⟨fun z => nd'.1 (List.mem_append_left _ z), (List.nodup_append.mp nd'.2).1⟩) fun c hc => .inl (List.mem_append_left _ hc)
    rw [List.dropLast_concat]
    exact k.nx _ _ _ _ _ _ S1 q
  · exact q.elim
/-- x.extend(e), e a list looked at -/
def dExt (i : Nat) (tb : TB) : TSd := fun E env => match env[i]? with
  | some (some (.own ws)) => tb env fun d => match d with
    | .list ds => ws.length + ds.length ≤ sizeLine ∧ E.nx (env.set i (some (.own (ws ++ ds.map .fz))))
    | _ => False
  | _ => False
theorem ds_extend (i : Nat) {tb : TB} (h : PE X e (tBM X.K "list" rExtend (tVar i) (lDs X.K (aCons tb aNil)))) (hs : swapsWith e none pos.line X.env = pure false := by rfl) : DS X (.Expr e pos) (dExt i tb) := by
  intro _ _
  refine ps_mono (ps_expr h hs) fun D σ H ⟨A, E, env, F, ow, dm, S, q, k⟩ => ?_
  unfold dExt at q
  split at q
  · rename_i ws ei
    obtain ⟨l, vs, fp, hσ, hl, Fl, nM, r, nd, nmf, K⟩ := S.mut ei
    refine ⟨.ref l, hσ, .inl ⟨rfl, _, SqL.of hl⟩, env, F, ow, dm, fun ds => match ds with | [.list ds] => ws.length + ds.length ≤ sizeLine ∧ E.nx (env.set i (some (.own (ws ++ ds.map .fz)))) | _ => False, S.x, ?_, fun ds hd us F1 H1 x1 r1 => ?_⟩
    · refine Eq.mp (congrArg (tb env) ?_) q
      funext d
      cases d <;> rfl
    · dsimp only at hd
      split at hd
      · obtain ⟨v, rfl, rd⟩ := dball1 r1
        obtain ⟨b, zs, rfl, hb, rz⟩ := rd.lst_inv x1.fh
        have hl1 : H1 l = some (.lst vs) := x1.hh l _ hl nM
        refine ⟨l, b, vs, zs, rfl, rfl, hl1, hb, by rw [wrs_length r, dpAll_length rz]; exact hd.1, ?_⟩
        refine k.nx _ _ _ _ _ _ (K F1 H1 (ws ++ _) (vs ++ zs) fp x1 hl1 ?_ nd fun c hc => .inl hc) hd.2
        have := WRs.app (wexts x1 r nmf) (wrs_fz (dm := dm) (H := H1) rz)
        rw [List.append_nil] at this
        exact this
      · exact hd.elim
  · exact q.elim
/-- x[k] = e -/
def dPut (i : Nat) (tw : TW) (tk : TB) : TSd := fun E env => match env[i]? with
  | some (some (.own ws)) => tw env fun w => tk env fun d => match d with
    | .int n => ∃ j, ixN ws.length n = some j ∧ E.nx (env.set i (some (.own (ws.set j w))))
    | _ => False
  | _ => False
theorem ds_setix (i : Nat) {tw : TW} {tk : TB} {tp : Pos} (he : DW X e tw) (hg : PG X (.Subscript o a tp) (gSub (tVar i) (lB X.K tk) rSetL)) (hs : swapsWithSole [.Subscript o a tp] e pos.line X.env = pure false := by rfl)
    (hw : swappedStores [.Subscript o a tp] e X.env = pure none := by rfl) (h1 : (assignEach [.Subscript o a tp] X.env).map (·.2) = [assign (.Subscript o a tp) X.env] := by rfl) : DS X (.Assign [.Subscript o a tp] e pos) (dPut i tw tk) := by
  intro _ _
  refine ps_mono (ps_asg he hg hs hw h1) fun D σ H ⟨A, E, env, F, ow, dm, S, q, k⟩ => ?_
  unfold dPut at q
  split at q
  · rename_i ws ei
    obtain ⟨l, vs, fp, hσ, hl, Fl, nM, r, nd, nmf, K⟩ := S.mut ei
    refine ⟨env, F, ow, dm, _, S.x, q, fun w hw v F1 H1 fq x1 r1 nd1 fr1 => ⟨.ref l, hσ, env, F1, ow, dm, _, S.x.ext x1, hw, fun d hd u F2 H2 x2 ru => ?_⟩⟩
    split at hd
    · cases ru.int_inv
      obtain ⟨j, hj, hn⟩ := hd
      have x := x1.trans x2
      have hl2 : H2 l = some (.lst vs) := x.hh l _ hl nM
      refine ⟨l, vs, _, j, rfl, rfl, hl2, by rw [wrs_length r]; exact hj, ?_⟩
      have nl : l ∉ fq := fun z => by rw [fr1 l z] at hl; cases hl
      have nd' := List.nodup_cons.mp nd
      have dj : ∀ c ∈ fp, ∀ d ∈ fq, c ≠ d := fun c hc d hd z => (r.there c hc).1 (z ▸ fr1 d hd)
      have rw2 := wext x2 r1 fun c hc => S.x.notMN (fr1 c hc)
      obtain ⟨fr, r3, n3, k3⟩ := WRs.set rw2 j (wexts x r nmf) (List.nodup_append.mpr ⟨nd'.2, nd1, dj⟩)
      exact k.nx _ _ _ _ _ _ (K F2 H2 _ _ fr x hl2 r3 (List.nodup_cons.mpr ⟨fun z => (k3 l z).elim nd'.1 nl, n3⟩) fun c hc => (k3 c hc).imp id (fr1 c)) hn
    · exact hd.elim
  · exact q.elim

/-! ### what a slot has becomes data -/
def dFreeze (i : Nat) (t : TSd) : TSd := fun E env => match env[i]? with
  | some (some w) => w.plain = true ∧ t E (env.set i (some (.fz w.data)))
  | _ => False
theorem SA.frz {K : PySem.W.Frag} {A : Anc} {env : Env} {σ : St} {F H : Hp} {ow : Addr → Option Nat} {dm : DM} (S : SA K A env σ F H ow dm) {i : Nat} {w : W} (e : env[i]? = some (some w)) (hp : w.plain = true) : ∃ F' ow', SA K A (env.set i (some (.fz w.data))) σ F' H ow' dm := by
  obtain ⟨v, fp, h1, h2, h3, h4⟩ := S.x.sl i w e
  have hF : ∀ a ∈ fp, F a = none := fun a ha => (h2.there a ha).2
  have hs := addF_same (H := H) hF
  have nm : ∀ a ∈ fp, ¬ isM dm a := fun a ha => S.x.notM (h4 a ha)
  have get : ∀ {a : Addr}, a ∉ fp → addF F H fp a = F a := fun {a} ha => if_neg ha
  have sh : Same (addF F H fp) H := fun b o h => by
    unfold addF at h
    split at h
    · exact h
    · exact S.x.same b o h
  have hdl : ∀ p, dm = some p → DealAt (addF F H fp) H p.1 p.2 := fun p hp => by
    have d := S.x.dl p hp
    exact ⟨by rw [get fun z => nm _ z ⟨p, hp, .inl rfl⟩]; exact d.fa, by rw [get fun z => nm _ z ⟨p, hp, .inr rfl⟩]; exact d.fb, d.ex⟩
  refine ⟨addF F H fp, fun a => if a ∈ fp then none else ow a, ⟨sh, by rw [List.length_set]; exact S.x.len, fun j u hu => ?_, hdl, fun p hp => ?_⟩, ⟨S.anc.ff.trans hs, S.anc.hh, fun a a1 a2 => ?_, sh, fun p hp => ?_⟩, S.pin.trans hs, fun a j h => ?_, fun a j h => ?_, S.dmf⟩
  · by_cases ej : i = j
    · subst ej
      have hi : i < env.length := by
        rcases Nat.lt_or_ge i env.length with h | h
        · exact h
        · rw [List.getElem?_eq_none h] at e; cases e
      rw [List.getElem?_set_self hi] at hu
      cases hu
      exact ⟨v, [], h1, .fz (h2.frozen hs hp fun a ha => if_pos ha), List.nodup_nil, fun _ ha => nomatch ha⟩
    · rw [List.getElem?_set_ne ej] at hu
      obtain ⟨z, fq, k1, k2, k3, k4⟩ := S.x.sl j u hu
      have nb : ∀ a ∈ fq, a ∉ fp := fun a ha z => by
        have := k4 a ha
        rw [h4 a z] at this
        exact ej (Option.some.inj this)
      refine ⟨z, fq, k1, k2.mono hs fun a ha => ⟨rfl, by rw [get (nb a ha)]; exact (k2.there a ha).2⟩, k3, fun a ha => ?_⟩
      show (if a ∈ fp then none else ow a) = some j
      rw [if_neg (nb a ha)]
      exact k4 a ha
  · have d := S.x.dow p hp
    show (if p.1 ∈ fp then none else ow p.1) = none ∧ (if p.2 ∈ fp then none else ow p.2) = none
    exact ⟨by split; rfl; exact d.1, by split; rfl; exact d.2⟩
  · rw [get fun z => by have := S.own a i (h4 a z); exact a2 this]
    exact S.anc.nw a a1 a2
  · rcases S.dmf with q | ⟨q, _⟩
    · exact hdl p (q ▸ hp)
    · rw [q] at hp; cases hp
  · have h' : (if a ∈ fp then none else ow a) = some j := h
    split at h'
    · cases h'
    · exact S.own a j h'
  · have h' : (if a ∈ fp then none else ow a) = some j := h
    split at h'
    · cases h'
    · exact S.owh a j h'
theorem ds_freeze (i : Nat) {st : Stmt} {t : TSd} (h : DS X st t) : DS X st (dFreeze i t) := by
  intro WW tk
  refine ps_mono (h WW tk) fun D σ H ⟨A, E, env, F, ow, dm, S, q, k⟩ => ?_
  unfold dFreeze at q
  split at q
  · rename_i w e
    obtain ⟨F', ow', S'⟩ := S.frz e q.1
    exact ⟨A, E, _, F', ow', dm, S', q.2, k⟩
  · exact q.elim
end
end DL

/-! DL, part k: defs and their calls; around a def's call no guard runs. -/
namespace DL
open PySem PySem.Spec PyProof.Rows L2

/-- a def keeps its promise, where nothing is being shown (no guard runs) -/
structure FnG (P : Program) (w : World) (K : PySem.W.Frag) (mg : Str → Option Value) (base : Heap) (CX : CXT) (k : Nat) (f : Addr) (fd : FuncData) (ps : List Str) (sp : Sp) : Prop where
  len : ∀ vs H Q E, sp vs H Q E → vs.length = ps.length
  run : ∀ (A : Around) (outer : List PySem.Env) (s : Shared) (H : Hp) (args : Args) (us : List Value) (vs : List V) (Q : VK) (E : XK), A.guards = some [] → Room k A → Env0 P w K mg base A outer s H → BindsTo s fd args (ps.zip us) →
    Vals vs us → sp vs H Q E → codeAny (model P w) A (.call (.ref f) args) (CR CX outer P w H s Q E) s
section
variable {P : Program} {w : World} {K : PySem.W.Frag} {mg : Str → Option Value} {base : Heap} {CX : CXT}
theorem fnG_of {k : Nat} {f : Addr} {name qual : Str} {params : Arguments} {body : List Stmt} {scope : Scope} {dV kV doc pm cdv ct oc : Value} {an od : Option Addr} {osl : Array (Option Value)} {N ps : List Str} {sp : Sp}
    (lk : K.lookup f = some ⟨oc, od, .func (PySem.W.fnOf name qual params body scope dV kV doc pm an cdv ct), osl⟩) (hcd : PySem.W.codeIn K cdv qual = true) (S : FnScope N ps scope) (len : ∀ vs H Q E, sp vs H Q E → vs.length = ps.length)
    (hb : ∀ (A : Around) (outer : List PySem.Env) (s : Shared) (H : Hp) (vs : List V) (Q : VK) (E : XK), A.guards = some [] → Room k (A.deeper (envOfC qual scope s.heap.objs.size f cdv)) → sp vs H Q E →
      ∃ t, PSs (cxOf CX P w K mg base N qual scope f cdv A outer s H E) body t ∧ t { nx := fun _ H' => Q .non H', rt := Q } (start N vs) H) : FnG P w K mg base CX (k + 1) f (PySem.W.fnOf name qual params body scope dV kV doc pm an cdv ct) ps sp := by
  refine ⟨len, fun A outer s H args us vs Q E hg hr e0 hbd rv hsp => ?_⟩
  have kin : K.In s.heap := e0.mod.kin.keeps (fun b o e => (e0.bs b o e).1)
  have lim : s.heap.NoLimit := e0.mod.nolimit.keeps (fun b o e => (e0.bs b o e).1)
  have hk : ∀ y ∈ ps.zip us, scope.names.lookup y.1 = some .local ∨ (scope.names.lookup y.1 = some .cell ∧ ((cellsFrom (s.heap.objs.size + 1) scope.names []).lookup y.1).isSome = true) := by
    rintro ⟨n, v⟩ hy
    exact (S.par n (List.of_mem_zip hy).1).imp id fun q => ⟨q, PySem.W.cellsFrom_some _ _ _ (.inl q)⟩
  refine codeAny_call_function hr.depth (kin _ _ lk) rfl S.co S.gen rfl (PySem.W.codeRec_of kin hcd) (hbd _ _ _ _ (wpAny_newFunctionEnv_cells S.kind hk fun env he s1 x => ?_))
  subst he
  obtain ⟨t, ht, hq⟩ := hb A outer s H vs Q E hg (hr.deeper _) hsp
  have I := inv_start (cd := cdv) (qual := qual) (CX := CX) (f := f) (E := E) S hr.hd e0 (len _ _ _ _ hsp) rv x
  refine ⟨lim.keeps x.toInCall.keep, codeAny_func (wpAny_mono (ht.run [] s1 _ H _ I hq) (fun fl s' hs => ?_) fun _ _ z => z)⟩
  cases fl with
  | ret u => exact let ⟨v, _, H', J, rv', q⟩ := hs; ⟨v, H', J.os, J.bare, J.base, J.hok, rv', q⟩
  | next => exact let ⟨_, H', J, q⟩ := hs; ⟨.non, H', J.os, J.bare, J.base, J.hok, rfl, q⟩
  | brk => exact let ⟨_, _, _, q⟩ := hs; False.elim q
  | cont => exact let ⟨_, _, _, q⟩ := hs; False.elim q
theorem FnG.mono {j k : Nat} {f : Addr} {fd : FuncData} {ps : List Str} {sp : Sp} (F : FnG P w K mg base CX j f fd ps sp) (h : j ≤ k) : FnG P w K mg base CX k f fd ps sp :=
  ⟨F.len, fun A outer s H args us vs Q E hg hr => F.run A outer s H args us vs Q E hg (hr.mono h)⟩
end

/-! ### a def's promise over data -/
abbrev Spec := List W → (W → Prop) → Prop
def spD (K : PySem.W.Frag) (S : Spec) : Sp := fun vs H Q _ => ∃ ws F dm P, Same F H ∧ (∀ p, dm = some p → DealAt F H p.1 p.2) ∧ WRs K dm F H ws vs [] ∧ S ws P ∧ ∀ w, P w → Got K dm F H Q w
theorem wrs_nil_get {K : PySem.W.Frag} {dm : DM} {F H : Hp} : ∀ {ws : List W} {vs : List V} {fp : List Addr} (i : Nat) (w : W), fp = [] → WRs K dm F H ws vs fp → ws[i]? = some w → ∃ v, vs[i]? = some v ∧ WR K dm F H w v []
  | _, _, _, _, _, _, .nil, e => by simp at e
  | _, _, _, 0, w, hf, .cons h r, e => by
    simp at e
    subst e
    have h1 := (List.append_eq_nil_iff.mp hf).1
    subst h1
    exact ⟨_, rfl, h⟩
  | _, _, _, i + 1, w, hf, .cons h r, e => by
    obtain ⟨v, e1, e2⟩ := wrs_nil_get i w (List.append_eq_nil_iff.mp hf).2 r (by simpa using e)
    exact ⟨v, by simpa using e1, e2⟩
/-- the slots at a def's entry -/
def enter (N : List Str) (ws : List W) : Env := ws.map some ++ List.replicate (N.length - ws.length) none
abbrev bodyX (P : Program) (w : World) (K : PySem.W.Frag) (mg : Str → Option Value) (base : Heap) (N : List Str) (qual : Str) (st : Stmt) (f : Addr) (cdv : Value) (A : Around) (outer : List PySem.Env) (s : Shared) (H : Hp) (E : XK) : Cx :=
  (cxOf CX0 P w K mg base N qual (defScope st) f cdv A outer s H E).nox
section
variable {P : Program} {w : World} {K : PySem.W.Frag} {mg : Str → Option Value} {base : Heap}
theorem enter_ok {N : List Str} {ws : List W} {vs : List V} {F H : Hp} {dm : DM} (hs : Same F H) (hdl : ∀ p, dm = some p → DealAt F H p.1 p.2) (r : WRs K dm F H ws vs []) :
    SA K ⟨F, H, F, dm⟩ (enter N ws) (start N vs) F H (fun _ => none) dm := by
  have hl := wrs_length r
  refine ⟨⟨hs, ?_, fun i u hu => ?_, hdl, fun _ _ => ⟨rfl, rfl⟩⟩, ⟨Same.refl F, fun _ _ h _ => h, fun _ h _ => h, hs, hdl⟩, Same.refl F, (fun _ _ h => nomatch h), (fun _ _ h => nomatch h), .inl rfl⟩
  · unfold enter L2.start
    rw [List.length_append, List.length_append, List.length_map, List.length_map, List.length_replicate, List.length_replicate, hl]
  · unfold enter at hu
    rcases Nat.lt_or_ge i ws.length with h | h
    · rw [List.getElem?_append_left (by rw [List.length_map]; exact h), List.getElem?_map] at hu
      cases q : ws[i]? with
      | none => rw [q] at hu; cases hu
      | some w0 =>
        rw [q] at hu
        cases hu
        obtain ⟨v, e1, e2⟩ := wrs_nil_get i u rfl r q
        refine ⟨v, [], ?_, e2, List.nodup_nil, fun _ ha => nomatch ha⟩
        unfold L2.start
        rw [List.getElem?_append_left (by rw [List.length_map, hl]; exact h), List.getElem?_map, e1]
        rfl
    · rw [List.getElem?_append_right (by rw [List.length_map]; exact h), List.getElem?_replicate] at hu
      split at hu <;> cases hu
/-- THE RULE for a def over data -/
theorem fn_D {x qual : Str} {st : Stmt} {f : Addr} {fd : FuncData} {N ps : List Str} {k : Nat} {S : Spec} {t : TSd} (F : Fun K x qual st f fd) (sc : FnScope N ps (defScope st)) (len : ∀ ws P, S ws P → ws.length = ps.length)
    (hb : ∀ (cdv : Value) (A : Around) (outer : List PySem.Env) (s : Shared) (H : Hp) (E : XK), A.guards = some [] → Room k (bodyX P w K mg base N qual st f cdv A outer s H E).A → DSs (bodyX P w K mg base N qual st f cdv A outer s H E) (defBody st) t)
    (hs : ∀ ws Q, S ws Q → t { nx := fun _ => Q (.fz .none), rt := Q } (enter N ws)) : FnG P w K mg base CX0 (k + 1) f fd ps (spD K S) := by
  obtain ⟨oc, od, kV, doc, pm, an, cdv, ct, osl, rfl, lk, hcd⟩ := F.ex
  refine fnG_of lk hcd sc (fun vs H Q E ⟨ws, F0, dm, R, _, _, r, h, _⟩ => by rw [wrs_length r]; exact len _ _ h) fun A outer s H vs Q E hg hr ⟨ws, F0, dm, R, hsm, hdl, r, h, k⟩ => ⟨_, PSs.nox (hb cdv A outer s H E hg hr (fun _ _ _ _ => False) takes_no), ?_⟩
  refine ⟨⟨F0, H, F0, dm⟩, _, _, F0, _, dm, enter_ok hsm hdl r, hs ws R h, ⟨fun env σ F' H' ow dm' T q => ?_, fun w v F' H' fp x r nd fr q => k w q v F' H' fp x r nd fr, fun _ _ _ _ _ _ _ z => z.elim, fun _ _ _ _ _ _ _ z => z.elim, fun _ _ _ _ _ _ _ _ _ _ _ z => z.elim⟩⟩
  exact k _ q .non F' H' [] T.anc (.fz .non) List.nodup_nil (fun _ ha => nomatch ha)
end

/-! ### arguments of defs: data, the deal, the script -/
def lAg (K : PySem.W.Frag) (n : Nat) (t : TWs) : TA := fun σ H Q => ∃ env F ow dm P, SRx K env σ F H ow dm ∧ t env P ∧ ∀ ws, P ws → ws.length = n → ∀ vs F' H', Ext dm F H F' H' → WRs K dm F' H' ws vs [] → Q vs H'
def DAg (X : Cx) (es : List Expr) (t : TWs) : Prop := PA X es (lAg X.K es.length t)
def DKg (X : Cx) (kws : List Keyword) (t : TWs) : Prop := PK X kws (lAg X.K kws.length t)
def gArg (w : W) (Q : W → Prop) : Prop := match w with
  | .fz d => Q (.fz d)
  | .own ws => W.plains ws = true ∧ Q (.fz (.list (W.datas ws)))
  | .oth o => o.still = true ∧ Q (.oth o)
  | .deal => Q .deal
  | .scr ns => Q (.scr ns)
def gsNil : TWs := fun _ Q => Q []
def gsCons (t : TW) (u : TWs) : TWs := fun env Q => t env fun w => gArg w fun w' => u env fun ws => Q (w' :: ws)
theorem wr_arg {K : PySem.W.Frag} {dm : DM} {F H F1 H1 : Hp} {w : W} {v : V} {fp : List Addr} {Q : W → Prop} (x : Ext dm F H F1 H1) (r : WR K dm F1 H1 w v fp) (fr : ∀ a ∈ fp, H a = none) (nm : ∀ a ∈ fp, ¬ isM dm a) (h : gArg w Q) :
    ∃ w' F2, Ext dm F H F2 H1 ∧ WR K dm F2 H1 w' v [] ∧ Q w' := by
  cases r with
  | fz r => exact ⟨_, F1, x, .fz r, h⟩
  | @own a vs ws fq h1 h2 h3 =>
    have r : WR K dm F1 H1 (.own ws) (.ref a) (a :: fq) := .own h1 h2 h3
    have hF : ∀ b ∈ a :: fq, F1 b = none := fun b hb => (r.there b hb).2
    exact ⟨_, _, x.freeze hF fr nm, .fz (r.frozen (addF_same hF) h.1 fun b hb => if_pos hb), h.2⟩
  | @oth o v fp r =>
    have e0 := o.bare h.1 r
    subst e0
    exact ⟨_, F1, x, .oth r, h.2⟩
  | deal r => exact ⟨_, F1, x, .deal r, h⟩
  | scr n r => exact ⟨_, F1, x, .scr n r, h⟩
theorem wext0 {K : PySem.W.Frag} {dm : DM} {F H F' H' : Hp} (x : Ext dm F H F' H') {w : W} {v : V} (r : WR K dm F H w v []) : WR K dm F' H' w v [] := wext x r fun _ ha => nomatch ha
theorem tCons_of {X : Cx} {tw : TW} {u : TWs} {n : Nat} {σ : L2.St} {H : Hp} {Q : List V → Hp → Prop} (h : lAg X.K (n + 1) (gsCons tw u) σ H Q) : tCons (lW X.K tw) (lAg X.K n u) σ H Q := by
  obtain ⟨env, F, ow, dm, P, S, q, k⟩ := h
  refine ⟨env, F, ow, dm, _, S, q, fun w hw v F1 H1 fp x1 r1 nd fr => ?_⟩
  obtain ⟨w', F2, x2, r2, hq⟩ := wr_arg x1 r1 fr (fun a ha => S.notMN (fr a ha)) hw
  refine ⟨env, F2, ow, dm, _, S.ext x2, hq, fun ws hws hl vs F3 H3 x3 r3 => k _ hws (congrArg (· + 1) hl) (v :: vs) F3 H3 (x2.trans x3) ?_⟩
  exact .cons (fp := []) (fq := []) (wext0 x3 r2) r3
section
variable {X : Cx} {e : Expr} {es : List Expr} {kws : List Keyword}
theorem dag_nil : DAg X [] gsNil := pa_mono pa_nil fun σ H Q ⟨env, F, ow, dm, P, S, q, k⟩ => k [] q rfl [] F H S.refl .nil
theorem dag_cons {t : TW} {u : TWs} (h : DW X e t) (hr : DAg X es u) (hs : starEach (e :: es) X.env = (false, eval e X.env) :: starEach es X.env := by rfl) : DAg X (e :: es) (gsCons t u) :=
  pa_mono (pa_cons h hr hs) fun _ _ _ h => tCons_of h
theorem pk_mono {t t' : TA} (h : PK X kws t) (m : ∀ σ H Q, t' σ H Q → t σ H Q) : PK X kws t' := ⟨fun pos pins s σ H Q I q => h.run pos pins s σ H Q I (m σ H Q q)⟩
theorem dkg_nil : DKg X [] gsNil := pk_mono pk_nil fun σ H Q ⟨env, F, ow, dm, P, S, q, k⟩ => k [] q rfl [] F H S.refl .nil
theorem dkg_cons {nm : Option Str} {kpos : Pos} {t : TW} {u : TWs} (h : DW X e t) (hr : DKg X kws u) : DKg X (⟨nm, e, kpos⟩ :: kws) (gsCons t u) :=
  pk_mono (pk_cons h hr) fun _ _ _ h => tCons_of h
end
end DL

/-! DL, part l: calls of defs; repr. -/
namespace DL
open PySem PySem.Spec PyProof.Rows L2

def pick {α : Type} (π : List Nat) (l : List α) : List α := π.filterMap fun i => l[i]?
theorem vals_pick {vs : List V} {us : List Value} (r : Vals vs us) : ∀ π : List Nat, Vals (pick π vs) (pick π us)
  | [] => .nil
  | i :: π => by
    unfold pick
    rw [List.filterMap_cons, List.filterMap_cons]
    cases q : vs[i]? with
    | none => rw [r.none_of q]; exact vals_pick r π
    | some v =>
      obtain ⟨u, e, ru⟩ := r.get q
      rw [e]
      exact .cons ru (vals_pick r π)
theorem wrs_get_none {K : PySem.W.Frag} {dm : DM} {F H : Hp} {ws : List W} {vs : List V} {fp : List Addr} (r : WRs K dm F H ws vs fp) {i : Nat} (h : ws[i]? = none) : vs[i]? = none := by
  rw [List.getElem?_eq_none_iff] at h ⊢
  rw [wrs_length r]
  exact h
theorem wrs_pick {K : PySem.W.Frag} {dm : DM} {F H : Hp} {ws : List W} {vs : List V} (r : WRs K dm F H ws vs []) : ∀ π : List Nat, WRs K dm F H (pick π ws) (pick π vs) []
  | [] => .nil
  | i :: π => by
    unfold pick
    rw [List.filterMap_cons, List.filterMap_cons]
    cases q : ws[i]? with
    | none => rw [wrs_get_none r q]; exact wrs_pick r π
    | some w =>
      obtain ⟨v, e, rv⟩ := wrs_nil_get i w rfl r q
      rw [e]
      exact .cons (fp := []) (fq := []) rv (wrs_pick r π)
/-- how n1 arguments by place and those by the names ks come to the parameters -/
def KBd (fd : FuncData) (ps : List Str) (n1 : Nat) (ks : List Str) (π : List Nat) : Prop :=
  ∀ (s : Shared) (us : List Value), us.length = n1 + ks.length → BindsTo s fd ⟨us.take n1, ks.zip (us.drop n1)⟩ (ps.zip (pick π us))
section
variable {X : Cx} {k : Nat} {f : Addr} {fd : FuncData} {ps ks : List Str} {S : Spec} {x : Str} {p pos : Pos} {e : Expr} {es : List Expr} {kws : List Keyword} {n1 : Nat} {π : List Nat} {t u : TWs}
/-- a def's call upon data: the values in the order in which they are reckoned -/
def dCallF (S : Spec) (π : List Nat) (t u : TWs) : TW := fun env Q => t env fun ws => u env fun zs => S (pick π (ws ++ zs)) Q
theorem runG {pins : List (Addr × Obj)} {σ : L2.St} {H : Hp} {s : Shared} {Q : VK} {us : List Value} {vs : List V} (F : FnG X.prog X.w X.K X.mg X.base CX0 k f fd ps (spD X.K S)) (hgd : X.A.guards = some []) (hr : Room k X.A) (hb : KBd fd ps n1 ks π)
    (I : Inv X pins σ H s) (r : Vals vs us) (hl : us.length = n1 + ks.length) (h : spD X.K S (pick π vs) H Q E0) : wpAny (model X.prog X.w) X.A (call (.ref f) (us.take n1) (ks.zip (us.drop n1))) (EP X pins σ Q) X.xe s := by
  refine wpAny_call (codeAny_mono (F.run X.A X.stack s H _ (pick π us) (pick π vs) Q E0 hgd hr I.env0 (hb s us hl) (vals_pick r π) h) fun z s' hq => ?_)
  cases z with
  | error _ => exact hq.elim
  | ok fl =>
    cases fl with
    | ret _ => exact I.after hq
    | next => exact hq.elim
    | brk => exact hq.elim
    | cont => exact hq.elim
theorem sp_of {env : PySem.W.Frag} {F H F2 H2 : Hp} {dm : DM} {Q : VK} {P : W → Prop} {ws : List W} {vs : List V} (x : Ext dm F H F2 H2) (r : WRs env dm F2 H2 ws vs []) (h : S ws P) (k : ∀ w, P w → Got env dm F H Q w) : spD env S vs H2 Q E0 :=
  ⟨ws, F2, dm, P, x.fh, x.dl, r, h, fun w hw => got_of x (k w hw)⟩
theorem lAg_len {K : PySem.W.Frag} {dm : DM} {F H : Hp} {ws : List W} {vs : List V} {us : List Value} (r : WRs K dm F H ws vs []) (rv : Vals vs us) : us.length = ws.length := rv.length.symm.trans (wrs_length r)
/-- f(e, ..) -/
theorem dw_call (F : FnG X.prog X.w X.K X.mg X.base CX0 k f fd ps (spD X.K S)) (hgd : X.A.guards = some []) (hr : Room k X.A) (hm : X.mg x = some (.ref f)) (hk : PySem.W.keepIn X.K (.ref f) = true) (hb : KBd fd ps (e :: es).length [] π) (ha : DAg X (e :: es) t)
    (hg : Gl X x := by rfl) (hdb : (x == ("__debug__" : Str)) = false := by decide) (he : starEach (e :: es) X.env = (false, eval e X.env) :: starEach es X.env := by rfl) (hpl : (backTo pos (starEach es X.env)).any (·.1) = false := by rfl) :
    DW X (.Call (.Name x p) (e :: es) [] pos) (dCallF S π t gsNil) := by
  refine ⟨fun pins s σ H Q I ⟨env, G, ow, dm, P, T, q, kk⟩ => ?_⟩
  refine wpAny_Call_Name_kw (ld_glob I hg hm (PySem.W.callWith_K (h₀ := X.base) I.ok.mod.kin hk (thn (ha.run pos pins s σ H
    (fun vs H' => ∃ ws F', ws.length = (e :: es).length ∧ S (pick π (ws ++ [])) P ∧ Ext dm G H F' H' ∧ WRs X.K dm F' H' ws vs []) I ?_) fun us s1 hh => ?_) he hpl) hdb)
  · exact ⟨env, G, ow, dm, _, T, q, fun ws hws hl vs F' H' x1 r1 => ⟨ws, F', hl, hws, x1, r1⟩⟩
  · obtain ⟨vs, H1, I1, r, ws, F', hl, hS, x1, r1⟩ := hh
    refine ⟨I1.kIn, ?_⟩
    rw [List.append_nil] at hS
    have hl2 : us.length = (e :: es).length := (lAg_len r1 r).trans hl
    have := runG (ks := []) F hgd hr hb I1 r (by simpa using hl2) (sp_of x1 (wrs_pick r1 π) hS kk)
    rw [List.take_of_length_le (Nat.le_of_eq hl2)] at this
    exact this
/-- f(k = v, ..) -/
theorem dw_callK0 (F : FnG X.prog X.w X.K X.mg X.base CX0 k f fd ps (spD X.K S)) (hgd : X.A.guards = some []) (hr : Room k X.A) (hm : X.mg x = some (.ref f)) (hk : PySem.W.keepIn X.K (.ref f) = true) (hb : KBd fd ps 0 ks π) (hu : DKg X kws u) (hkl : ks.length = kws.length)
    (hall : (backToKw pos (keywordEach kws X.env)).all (·.1.isSome) = true := by rfl) (hks : (backToKw pos (keywordEach kws X.env)).filterMap (·.1) = ks := by rfl)
    (hpl : ((backTo pos (starEach [] X.env)).any (·.1) || (backToKw pos (keywordEach kws X.env)).any (·.1.isNone)) = false := by rfl) (hg : Gl X x := by rfl) (hdb : (x == ("__debug__" : Str)) = false := by decide) :
    DW X (.Call (.Name x p) [] kws pos) (dCallF S π gsNil u) := by
  refine ⟨fun pins s σ H Q I ⟨env, G, ow, dm, P, T, q, kk⟩ => ?_⟩
  refine wpAny_Call_Name_kw (ld_glob I hg hm (PySem.W.callWith_KW0 (h₀ := X.base) I.ok.mod.kin hk hall (thn (hu.run pos pins s σ H
    (fun vs H' => ∃ ws F', ws.length = kws.length ∧ S (pick π ([] ++ ws)) P ∧ Ext dm G H F' H' ∧ WRs X.K dm F' H' ws vs []) I ?_) fun us s1 hh => ?_) hpl) hdb)
  · exact ⟨env, G, ow, dm, _, T, q, fun ws hws hl vs F' H' x1 r1 => ⟨ws, F', hl, hws, x1, r1⟩⟩
  · obtain ⟨vs, H1, I1, r, ws, F', hl, hS, x1, r1⟩ := hh
    refine ⟨I1.kIn, ?_⟩
    rw [List.nil_append] at hS
    have hl2 : us.length = 0 + ks.length := by rw [hkl, Nat.zero_add]; exact (lAg_len r1 r).trans hl
    have := runG (n1 := 0) F hgd hr hb I1 r hl2 (sp_of x1 (wrs_pick r1 π) hS kk)
    rw [List.take_zero, List.drop_zero] at this
    rw [hks]
    exact this
/-- f(e, .., k = v, ..) -/
theorem dw_callK (F : FnG X.prog X.w X.K X.mg X.base CX0 k f fd ps (spD X.K S)) (hgd : X.A.guards = some []) (hr : Room k X.A) (hm : X.mg x = some (.ref f)) (hk : PySem.W.keepIn X.K (.ref f) = true) (hb : KBd fd ps (e :: es).length ks π) (ha : DAg X (e :: es) t) (hu : DKg X kws u) (hkl : ks.length = kws.length)
    (hall : (backToKw pos (keywordEach kws X.env)).all (·.1.isSome) = true := by rfl) (hks : (backToKw pos (keywordEach kws X.env)).filterMap (·.1) = ks := by rfl) (he : starEach (e :: es) X.env = (false, eval e X.env) :: starEach es X.env := by rfl)
    (hpl : ((backTo pos (starEach (e :: es) X.env)).any (·.1) || (backToKw pos (keywordEach kws X.env)).any (·.1.isNone)) = false := by rfl) (hg : Gl X x := by rfl) (hdb : (x == ("__debug__" : Str)) = false := by decide) :
    DW X (.Call (.Name x p) (e :: es) kws pos) (dCallF S π t u) := by
  refine ⟨fun pins s σ H Q I ⟨env, G, ow, dm, P, T, q, kk⟩ => ?_⟩
  refine wpAny_Call_Name_kw (ld_glob I hg hm (PySem.W.callWith_KW (h₀ := X.base) I.ok.mod.kin hk hall (thn (ha.run pos pins s σ H
    (fun vs H' => ∃ ws F', ws.length = (e :: es).length ∧ (u env fun zs => S (pick π (ws ++ zs)) P) ∧ Ext dm G H F' H' ∧ WRs X.K dm F' H' ws vs []) I ?_) fun us s1 hh => ?_) hpl he) hdb)
  · exact ⟨env, G, ow, dm, _, T, q, fun ws hws hl vs F' H' x1 r1 => ⟨ws, F', hl, hws, x1, r1⟩⟩
  · obtain ⟨vs, H1, I1, r, ws, F', hl, hS, x1, r1⟩ := hh
    refine thn (hu.run pos pins s1 σ H1 (fun vs2 H' => ∃ zs F2, zs.length = kws.length ∧ S (pick π (ws ++ zs)) P ∧ Ext dm G H F2 H' ∧ WRs X.K dm F2 H' ws vs [] ∧ WRs X.K dm F2 H' zs vs2 []) I1 ?_) fun us2 s2 hh => ?_
    · exact ⟨env, F', ow, dm, _, T.ext x1, hS, fun zs hzs hl2 vs2 F2 H2 x2 r2 => ⟨zs, F2, hl2, hzs, x1.trans x2, wexts x2 r1 (fun _ ha => nomatch ha), r2⟩⟩
    · obtain ⟨vs2, H2, I2, rv2, zs, F2, hl2, hS2, x2, ra, rb⟩ := hh
      refine ⟨I2.kIn, ?_⟩
      have e1 : us.length = (e :: es).length := (lAg_len ra r).trans hl
      have e2 : us2.length = ks.length := by rw [hkl]; exact (lAg_len rb rv2).trans hl2
      have := runG F hgd hr hb I2 (r.append rv2) (by rw [List.length_append, e1, e2]) (sp_of x2 (wrs_pick (WRs.app ra rb) π) hS2 kk)
      rw [← e1, List.take_left, List.drop_left] at this
      rw [hks]
      exact this

/-! ### repr -/
def gRepr : List D → (W → Prop) → Prop := fun ds P => match ds with
  | [d] => (d.showable = true ∧ d.hasDict = false ∧ d.shown.length ≤ sizeLine ∧ d.depth ≤ 40) ∧ P (.fz (.str d.shown))
  | _ => False
def rRepr (K : PySem.W.Frag) : List V → Hp → VK → Prop := fun xs H Q => ∃ x d, xs = [x] ∧ L2.Dp K H x d ∧ (d.showable = true ∧ d.hasDict = false ∧ d.shown.length ≤ sizeLine ∧ d.depth ≤ 40) ∧ Q (.str d.shown) H
theorem call_repr (hgd : X.A.guards = some []) (hu : X.A.units + 64 < cLine) : CallR X (.builtin "repr") (rRepr X.K) := by
  intro pins s σ H xs us Q I r h
  obtain ⟨x, d, rfl, hd, ⟨h1, h2, h3, h4⟩, q⟩ := h
  cases r with
  | cons r rr =>
    cases rr
    cases hd with
    | non => cases r; exact PySem.P.repr_of_none ⟨.str _, H, I.tok _, ⟨_, rfl⟩, q⟩
    | bl b => cases r; exact PySem.P.repr_of_bool ⟨.str _, H, I.tok _, ⟨_, rfl⟩, q⟩
    | int i =>
      obtain ⟨t, rfl⟩ := r
      exact PySem.P.repr_of_int (by simpa [PyData.showable] using h1) ⟨.str _, H, I.tok _, ⟨_, rfl⟩, q⟩
    | str z =>
      obtain ⟨t, rfl⟩ := r
      exact PySem.P.repr_of_str ⟨.str _, H, I.tok _, ⟨_, rfl⟩, q⟩ h3
    | lst g1 g2 =>
      obtain ⟨as, hr⟩ := L2.Dp.reads I _ _ _ (L2.Dp.lst g1 g2) r
      cases r
      exact repr_of_reads' hr h1 (PyData.noDict_hsm h2) hgd (by omega) (fun _ _ e => e) (fun h' u tk hk => ⟨.str _, H, I.kept hk, ⟨_, rfl⟩, q⟩) h3
    | tup g1 g2 =>
      obtain ⟨as, hr⟩ := L2.Dp.reads I _ _ _ (L2.Dp.tup g1 g2) r
      cases r
      exact repr_of_reads' hr h1 (PyData.noDict_hsm h2) hgd (by omega) (fun _ _ e => e) (fun h' u tk hk => ⟨.str _, H, I.kept hk, ⟨_, rfl⟩, q⟩) h3
theorem snd_repr {K : PySem.W.Frag} : SndC K (rRepr K) gRepr := by
  intro dm F H vs ds Q P hs dl r g k
  unfold gRepr at g
  split at g
  · obtain ⟨v, rfl, h⟩ := dball1 r
    exact ⟨v, _, rfl, (h.dp hs).l2, g.1, got_here hs dl (.str _) (k _ g.2)⟩
  · exact g.elim
theorem dw_repr {t : TDs} (hgd : X.A.guards = some []) (hu : X.A.units + 64 < cLine) (hm : X.mg "repr" = none) (ha : DA X [e] t) (hg : Gl X "repr" := by rfl) (he : starEach [e] X.env = [(false, eval e X.env)] := by rfl) : DW X (.Call (.Name "repr" p) [e] [] pos) (dCall gRepr t) :=
  dw_callB (call_repr hgd hu) snd_repr hm ha hg (he := he)
end
end DL

namespace DL
open PySem PySem.Spec PyProof.Rows L2
set_option maxHeartbeats 1000000 in
theorem meets_enumerate_1 {v : Value} {o : Obj} {G : Heap → Prop} (B : Begins v o G) :
    Meets (Builtin.«enumerate.__new__» ⟨[.type "enumerate", v], []⟩) (fun _ R s => G s.heap ∧ R (.ok (.ret (.ref (s.heap.push o).objs.size)))
      { s with heap := (s.heap.push o).push { cls := .type "enumerate", data := .fields #[.none, .bool false, .ref s.heap.objs.size, rawInt 0, .none, .none] } }) := by
  refine .of_wp fun prog w A R s h => ?_
  obtain ⟨hp, g, d, tk, os⟩ := s
  obtain ⟨h1, h⟩ := h
  have hsub := sub_enumerate
  have q1 : ∀ {A' : Around} {E : Value → Shared → Prop} {Q : Value → Shared → Prop}, Q (.ref hp.objs.size) ⟨hp.push o, g, d, tk, os⟩ → wpAny (model prog w) A' (pyIter v) Q E ⟨hp, g, d, tk, os⟩ := fun q => B.iter prog w _ _ ⟨hp, g, d, tk, os⟩ _ h1 q
  wp_walk using q1
  refine wpAny_stack_any fun st => wpAny_pure ?_
  split
  · rename_i c _ _ _ _ _
    cases (c == Value.type "enumerate") <;> (wp_walk using q1; exact ⟨_, rfl, h⟩)
  · wp_walk using q1
    exact ⟨_, rfl, h⟩

/-- enumerate over what draws: xs are its items, while G stands in the abstract heap -/
def Itx (G : Hp → Prop) (xs : List V) : It :=
  ⟨fun i H => G H ∧ i < xs.length, fun i H v H' => ∃ T o x, v = .ref T ∧ H T = none ∧ o.dict = none ∧ H' = upd H T (.frz o (.tup [.int (i : Nat), x])) ∧ xs[i]? = some x, fun i H => G H ∧ i = xs.length⟩
/-- the inner iterator's side -/
structure Src (P : Program) (w : World) (K : PySem.W.Frag) (it : Addr) (G : Hp → Prop) (xs : List V) (tI : Nat → Heap → Prop) : Prop where
  obj : ∀ i h, tI i h → ∃ o, h.get? it = some o ∧ (∀ v, o.data ≠ .cell v) ∧ o.cls ≠ .type "enumerate"
  keep : ∀ i h h', tI i h → (∀ o, h.get? it = some o → h'.get? it = some o) → tI i h'
  draw : ∀ (X : Cx), X.prog = P → X.w = w → X.K = K → X.calm = true → ∀ (pins : List (Addr × Obj)) (s : Shared) (σ : L2.St) (H : Hp) (e : Addr), Inv X pins σ H s → G H → (∃ i, tI i s.heap) → e ≠ it → (∃ i old, IsEnum s.heap e it i old) →
    ∃ (fp : List Addr) (Pd : Nat → Value → Prop) (St : Nat → Heap → Prop), Draws P w X.A.in1 it fp xs.length Pd St ∧ e ∉ fp ∧ (∀ i, tI i s.heap → St i s.heap) ∧ (∀ i h, St i h → tI i h) ∧ ∀ i u, i < xs.length → Pd i u → ∃ x, xs[i]? = some x ∧ RelV x u
theorem turn_enumx {P : Program} {w : World} {K : PySem.W.Frag} {elts : List Expr} {kk : Nat} {tpos : Pos} {e it : Addr} {G : Hp → Prop} {xs : List V} {tI : Nat → Heap → Prop} (R : Src P w K it G xs tI) :
    Turn P w K (.Tuple elts kk tpos) (Itx G xs) [e, it] e (fun i h => (∃ old, IsEnum h e it ((i : Nat) : Int) old) ∧ tI i h ∧ e ≠ it) where
  mem := by simp
  obj := fun i h ⟨⟨old, he⟩, hi, _⟩ b hb => by
    have hb' : b = e ∨ b = it := by simpa using hb
    rcases hb' with z | z
    · subst z
      exact ⟨_, he, fun v q => nomatch q⟩
    · subst z
      obtain ⟨o, ho, hc, _⟩ := R.obj i h hi
      exact ⟨o, ho, hc⟩
  keep := fun i h h' ⟨⟨old, he⟩, hi, ne⟩ k => ⟨⟨old, k e (by simp) _ he⟩, R.keep i h h' hi (fun o q => k it (by simp) o q), ne⟩
  item := fun X hP hw hK hc i pins s σ H E I hf ⟨⟨old, he⟩, hi, ne⟩ ⟨hG, hlt⟩ => by
    obtain ⟨fp, Pd, St, D, nef, d1, d2, d3⟩ := R.draw X hP hw hK hc pins s σ H e I hG ⟨i, hi⟩ ne ⟨_, old, he⟩
    subst hP hw hK
    refine wpAny_pyNext_enum_itemD D he (d1 i hi) hlt ne nef fun u h' tk hu ho hs hT hz hk => ?_
    obtain ⟨x, hx, ru⟩ := d3 i u hlt hu
    refine ⟨_, rfl, wpAny_letOwnedTupleGo_enum (s := { s with heap := h', toks := tk + 1 }) ho fun h2 he2 sb => ?_⟩
    have le : e < s.heap.objs.size := Heap.lt_size he
    have lit : it < s.heap.objs.size := by
      obtain ⟨o, q, _⟩ := R.obj i _ hi
      exact Heap.lt_size q
    have hT2 := (sb.2 _ (Nat.ne_of_gt le)).trans hT
    have I1 : Inv X pins σ (upd H s.heap.objs.size (.frz _ (.tup [.int (i : Nat), x]))) { s with heap := h2, toks := tk + 1 } := I.turnedNew (ch := [e, it])
      (fun b ob hb q => (sb.2 b (fun z => hb (by simp [z]))).trans (hk b ob (fun z => hb (by simp [z])) (fun z => hb (by simp [z])) q)) hf (Nat.le_refl _)
      ⟨hT2, by show 2 ≤ sizeLine; decide, [.int i tk, u], .cons ⟨_, rfl⟩ (.cons ru .nil), ⟨_, hT2, rfl, _, rfl⟩⟩
    refine ⟨.ref s.heap.objs.size, _, I1, rfl, ⟨_, _, x, rfl, I.hok.fresh (Nat.le_refl _), rfl, rfl, hx⟩, ⟨⟨u, ?_⟩, R.keep _ _ _ (d2 _ _ hs) fun o q => (sb.2 it (Ne.symm ne)).trans q, ne⟩, fun b hb => ?_⟩
    · rw [show ((i + 1 : Nat) : Int) = (i : Int) + 1 from by omega]
      exact he2
    · have lb : b < s.heap.objs.size := by
        have hb' : b = e ∨ b = it := by simpa using hb
        rcases hb' with z | z
        · subst z; exact le
        · subst z; exact lit
      rw [upd_ne (Nat.ne_of_lt lb)]
      exact (hf b hb).1
  done := fun X hP hw hK hc i pins s σ H E I hf ⟨⟨old, he⟩, hi, ne⟩ ⟨hG, hge⟩ => by
    have hge' : i = xs.length := hge
    subst hge'
    obtain ⟨fp, Pd, St, D, nef, d1, d2, d3⟩ := R.draw X hP hw hK hc pins s σ H e I hG ⟨_, hi⟩ ne ⟨_, old, he⟩
    subst hP hw hK
    have q := hf it (by simp)
    exact wpAny_pyNext_enum_endD D he (d1 _ hi) fun h' hx => ⟨rfl, I.turned (t' := s.toks) (it := it) (fun b o hb z => hx b o hb z) q.1 q.2.1 q.2.2.2.1 q.2.2.2.2.1 q.2.2.2.2.2⟩
  self := fun A i s Q E ⟨⟨_, he⟩, _⟩ h => wpAny_pyIter_enum he h

theorem src_tup {P : Program} {w : World} {K : PySem.W.Frag} {it a : Addr} {xs : List V} : Src P w K it (fun H => SqT K H a xs) xs (fun i h => h.IsTupleIter it a i ∧ a ≠ it) where
  obj := fun i h ⟨⟨o, ho, hc, hd⟩, _⟩ => ⟨o, ho, (fun v q => by rw [hd] at q; cases q), fun q => by rw [hc] at q; exact absurd q (by decide)⟩
  keep := fun i h h' ⟨⟨o, ho, r⟩, ne⟩ k => ⟨⟨o, k o ho, r⟩, ne⟩
  draw := fun X hP hw hK hc pins s σ H e I hG ⟨j, hj⟩ ne ⟨_, _, he⟩ => by
    subst hP hw hK
    obtain ⟨its, rv, hT, hz⟩ := I.tuple hG
    have D := Draws.tuple (prog := X.prog) (w := X.w) (A := X.A.in1) (I.ok.hd hc) it a hj.2 its.toArray
    have el : its.toArray.size = xs.length := by rw [List.size_toArray]; exact rv.length.symm
    rw [el] at D
    refine ⟨_, _, _, D, fun z => ?_, fun i q => ⟨q.1, hT⟩, fun i h q => ⟨q.1, hj.2⟩, fun i u hi hu => ?_⟩
    · have z' : e = it ∨ e = a := by simpa using z
      rcases z' with z | z
      · exact ne z
      · subst z
        obtain ⟨o, ho, hc', _⟩ := hT
        rw [he] at ho
        cases ho
        exact absurd (show Value.type "enumerate" = Value.type "tuple" from hc') (by decide)
    · obtain ⟨v, hv⟩ : ∃ v, xs[i]? = some v := ⟨_, List.getElem?_eq_getElem hi⟩
      obtain ⟨u', hu', ru⟩ := rv.get hv
      have : its[i]? = some u := by simpa using hu
      rw [hu'] at this
      cases this
      exact ⟨v, hv, ru⟩
theorem src_lst {P : Program} {w : World} {K : PySem.W.Frag} {it a : Addr} {xs : List V} : Src P w K it (fun H => SqL K H a xs) xs (fun i h => h.IsListIter it a i ∧ a ≠ it) where
  obj := fun i h ⟨⟨o, ho, hc, hd⟩, _⟩ => ⟨o, ho, (fun v q => by rw [hd] at q; cases q), fun q => by rw [hc] at q; exact absurd q (by decide)⟩
  keep := fun i h h' ⟨⟨o, ho, r⟩, ne⟩ k => ⟨⟨o, k o ho, r⟩, ne⟩
  draw := fun X hP hw hK hc pins s σ H e I hG ⟨j, hj⟩ ne ⟨_, _, he⟩ => by
    subst hP hw hK
    obtain ⟨its, rv, hT, hz⟩ := I.list hG
    have D := Draws.list (prog := X.prog) (w := X.w) (A := X.A.in1) (I.ok.hd hc) it a hj.2 its.toArray
    have el : its.toArray.size = xs.length := by rw [List.size_toArray]; exact rv.length.symm
    rw [el] at D
    refine ⟨_, _, _, D, fun z => ?_, fun i q => ⟨q.1, hT.isList⟩, fun i h q => ⟨q.1, hj.2⟩, fun i u hi hu => ?_⟩
    · have z' : e = it ∨ e = a := by simpa using z
      rcases z' with z | z
      · exact ne z
      · subst z
        obtain ⟨o, ho, hc', _⟩ := hT.isList
        rw [he] at ho
        cases ho
        exact absurd (show Value.type "enumerate" = Value.type "list" from hc') (by decide)
    · obtain ⟨v, hv⟩ : ∃ v, xs[i]? = some v := ⟨_, List.getElem?_eq_getElem hi⟩
      obtain ⟨u', hu', ru⟩ := rv.get hv
      have : its[i]? = some u := by simpa using hu
      rw [hu'] at this
      cases this
      exact ⟨v, hv, ru⟩
theorem src_str {P : Program} {w : World} {K : PySem.W.Frag} {it : Addr} {x : Str} {t : Tok} : Src P w K it (fun _ => True) (x.cps.toList.map fun c => V.str ⟨#[c]⟩) (fun i h => h.IsStrIter it (strIterType x) x t i) where
  obj := fun i h ⟨o, ho, hc, hd⟩ => by
    refine ⟨o, ho, (fun v q => by rw [hd] at q; cases q), fun q => ?_⟩
    rw [hc] at q
    unfold strIterType at q
    split at q <;> exact absurd q (by decide)
  keep := fun i h h' ⟨o, ho, r⟩ k => ⟨o, k o ho, r⟩
  draw := fun X hP hw hK hc pins s σ H e I hG _ ne _ => by
    subst hP hw hK
    have D := Draws.text (prog := X.prog) (w := X.w) (A := X.A.in1) (I.ok.hd hc) it x t
    have el : x.cps.size = (x.cps.toList.map fun c => V.str ⟨#[c]⟩).length := by rw [List.length_map, Array.length_toList]
    rw [el] at D
    refine ⟨_, _, _, D, fun z => ne (List.mem_singleton.mp z), fun i q => q, fun i h q => q, fun i u hi hu => ?_⟩
    obtain ⟨c, tk, hx, rfl⟩ := hu
    exact ⟨.str ⟨#[c]⟩, by rw [List.getElem?_map, Array.getElem?_toList, hx]; rfl, ⟨tk, rfl⟩⟩
/-- enumerate of a list, a tuple, a text -/
def iEnumx (K : PySem.W.Frag) (ta : TA) : TI := fun σ H R => ta σ H fun vs H1 => (∃ a xs, vs = [.ref a] ∧ SqL K H1 a xs ∧ R (Itx (fun H => SqL K H a xs) xs) H1) ∨ (∃ a xs, vs = [.ref a] ∧ SqT K H1 a xs ∧ R (Itx (fun H => SqT K H a xs) xs) H1) ∨
  ∃ x, vs = [.str x] ∧ R (Itx (fun _ => True) (x.cps.toList.map fun c => V.str ⟨#[c]⟩)) H1
theorem boot_enum : bootBuiltins "enumerate" = some (.type "enumerate") := by decide +kernel
section
variable {X : Cx} {e : Expr} {ta : TA} {p pos tpos : Pos} {elts : List Expr} {kk : Nat}
theorem fp_two {pins : List (Addr × Obj)} {σ : L2.St} {H : Hp} {s : Shared} (I : Inv X pins σ H s) : ∀ b ∈ [s.heap.objs.size + 1, s.heap.objs.size], FpOk X pins H b := fun b hb => by
  have hb' : b = s.heap.objs.size + 1 ∨ b = s.heap.objs.size := by simpa using hb
  have le : s.heap.objs.size ≤ b := hb'.elim (fun z => z ▸ Nat.le_succ _) (fun z => z ▸ Nat.le_refl _)
  exact I.fpOk le (I.hok.fresh le)
theorem enum1 {prog : Program} {w : World} {A : Around} {E : Value → Shared → Prop} {s : Shared} {v : Value} {o : Obj} {G : Heap → Prop} {Q : Value → Shared → Prop} (B : Begins v o G) (h1 : G s.heap)
    (h : ∀ h', IsEnum h' (s.heap.objs.size + 1) s.heap.objs.size 0 .none → h'.get? s.heap.objs.size = some o → (∀ b u, s.heap.get? b = some u → h'.get? b = some u) → Q (.ref (s.heap.objs.size + 1)) { s with heap := h' }) :
    wpAny (model prog w) A (call (.type "enumerate") [v]) Q E s := by
  have hz : (s.heap.push o).objs.size = s.heap.objs.size + 1 := Heap.size_push ..
  refine callType_new F.called_enumerate (by decide) (F.typeCall_enumerate_1 _) (F.newCall_enumerate_1 _) (fun obj => F.args_object_init_2 obj _) F.entry_enumerate_new (meets_enumerate_1 B) ⟨h1, ?_⟩
  have he := Heap.get?_push_size (s.heap.push o) (o := { cls := .type "enumerate", data := .fields #[.none, .bool false, .ref s.heap.objs.size, rawInt 0, .none, .none] }) rfl
  rw [hz] at he
  show _ ∧ _
  rw [hz]
  exact ⟨⟨_, he, rfl⟩, h _ he (Heap.get?_push_of_some _ (Heap.get?_push_size _ B.free)) fun b u z => Heap.get?_push_of_some _ (Heap.get?_push_of_some _ z)⟩
theorem pi_enumx (hg : Gl X "enumerate") (hm : X.mg "enumerate" = none) (ha : PA X [e] ta) (hs : starEach [e] X.env = [(false, eval e X.env)]) : PI X (.Tuple elts kk tpos) (.Call (.Name "enumerate" p) [e] [] pos) (iEnumx X.K ta) := by
  refine ⟨fun pins s σ H R I h => Call_ (ld_blt I hg hm boot_enum (PyProof.Rows.callWith_type1 (thn (ha.run pos pins s σ H _ I h) fun us s1 ⟨vs, H1, I1, r1, q1⟩ => ?_) hs rfl))⟩
  have ne : s1.heap.objs.size + 1 ≠ s1.heap.objs.size := Nat.succ_ne_self _
  rcases q1 with ⟨a, xs, rfl, hq, q⟩ | ⟨a, xs, rfl, hq, q⟩ | ⟨x, rfl, q⟩
  · cases r1 with
    | cons r rr =>
      cases rr
      cases r
      obtain ⟨its, rv, pl, hz⟩ := I1.list hq
      refine enum1 (begins_list a its.toArray) pl.isList fun h' he hi hk => wpAny_pyIter_enum he ?_
      have la : a ≠ s1.heap.objs.size := by
        obtain ⟨o, ho, _⟩ := pl.isList
        exact Nat.ne_of_lt (Heap.lt_size ho)
      exact ⟨_, _, _, _, H1, rfl, I1.kept (t' := s1.toks) hk, turn_enumx src_lst, ⟨⟨.none, he⟩, ⟨⟨_, hi, rfl, rfl⟩, la⟩, ne⟩, fp_two I1, q⟩
  · cases r1 with
    | cons r rr =>
      cases rr
      cases r
      obtain ⟨its, rv, pl, hz⟩ := I1.tuple hq
      have la : a ≠ s1.heap.objs.size := by
        obtain ⟨o, ho, _⟩ := pl
        exact Nat.ne_of_lt (Heap.lt_size ho)
      refine enum1 (begins_tuple a its.toArray) (show s1.heap.IsTuple a its.toArray from pl) fun h' he hi hk => wpAny_pyIter_enum he ?_
      exact ⟨_, _, _, _, H1, rfl, I1.kept (t' := s1.toks) hk, turn_enumx src_tup, ⟨⟨.none, he⟩, ⟨⟨_, hi, rfl, rfl⟩, la⟩, ne⟩, fp_two I1, q⟩
  · cases r1 with
    | cons r rr =>
      cases rr
      obtain ⟨t, rfl⟩ := r
      refine enum1 (begins_text x t) trivial fun h' he hi hk => wpAny_pyIter_enum he ?_
      exact ⟨_, _, _, _, H1, rfl, I1.kept (t' := s1.toks) hk, turn_enumx (src_str (t := t)), ⟨⟨.none, he⟩, ⟨_, hi, rfl, rfl⟩, ne⟩, fp_two I1, q⟩
end
end DL

/-! DL, part n: enumerate, chains, in, join, constants of the module. -/
namespace DL
open PySem PySem.Spec PyProof.Rows L2

/-! ### enumerate over data -/
def enumD (xs : List D) : List D := xs.zipIdx.map fun p => .tuple [.int (p.2 : Nat), p.1]
theorem enumD_get {xs : List D} {i : Nat} {d : D} (h : (enumD xs)[i]? = some d) : ∃ x, xs[i]? = some x ∧ d = .tuple [.int (i : Nat), x] := by
  unfold enumD at h
  rw [List.getElem?_map, List.getElem?_zipIdx] at h
  cases q : xs[i]? with
  | none => rw [q] at h; cases h
  | some x =>
    rw [q] at h
    refine ⟨x, rfl, ?_⟩
    have := Option.some.inj h
    simp only [Nat.zero_add] at this
    exact this.symm
theorem enumD_length (xs : List D) : (enumD xs).length = xs.length := by simp [enumD]
theorem pair_new {K : PySem.W.Frag} {dm : DM} {F H : Hp} (h2 : Same F H) (h3 : ∀ p, dm = some p → DealAt F H p.1 p.2) {T : Addr} {ob : Obj} {v1 v2 : V} {d1 d2 : D} (hT : H T = none) (hob : ob.dict = none) (r1 : Dp K F v1 d1) (r2 : Dp K F v2 d2) :
    ∃ F', Ext dm F H F' (upd H T (.frz ob (.tup [v1, v2]))) ∧ Dp K F' (.ref T) (.tuple [d1, d2]) := by
  have x := Ext.laid (dm := dm) (o := .frz ob (.tup [v1, v2])) h2 h3 hT
  exact ⟨_, x, .tup (.inl ⟨ob, upd_same, hob⟩) (.cons (dp_same x.ff r1) (.cons (dp_same x.ff r2) .nil))⟩
theorem itr_enumx {K : PySem.W.Frag} {F1 H1 : Hp} {C : Addr → Prop} {G : Hp → Prop} {vs : List V} {ds : List D} (hG : ∀ F H, Same F1 F → Same F H → (∀ b, C b → H b = H1 b) → G H) (r : DpAll K F1 vs ds) : ItR K C F1 H1 (Itx G vs) (enumD ds) := fun dm F H h1 h2 h3 h4 => by
  have g := hG F H h1 h2 h4
  refine ⟨fun i d hd => ?_, ⟨g, by rw [dpAll_length r, enumD_length]⟩⟩
  obtain ⟨x, hx, rfl⟩ := enumD_get hd
  obtain ⟨v, e, rv⟩ := dpAll_get r hx
  refine ⟨⟨g, (List.getElem?_eq_some_iff.mp e).1⟩, fun y H' ⟨T, ob, z, e1, hT, hob, e2, e4⟩ => ?_⟩
  rw [e] at e4
  cases e4
  subst e1 e2
  exact pair_new h2 h3 hT hob (.int _) (dp_same h1 rv)
def charsD (z : Str) : List D := z.cps.toList.map fun c => .str ⟨#[c]⟩
theorem chars_dp {K : PySem.W.Frag} {F : Hp} (z : Str) : DpAll K F (z.cps.toList.map fun c => V.str ⟨#[c]⟩) (charsD z) := by
  unfold charsD
  induction z.cps.toList with
  | nil => exact .nil
  | cons c cs ih => exact .cons (.str _) ih
def iEnumD (t : TB) : TIt := fun env Q => t env fun d => match d with
  | .list xs => Q (enumD xs)
  | .tuple xs => Q (enumD xs)
  | .str z => Q (enumD (charsD z))
  | _ => False
section
variable {X : Cx} {e a b c : Expr} {es : List Expr} {pos p tpos : Pos} {st : Bool} {elts : List Expr} {kk : Nat}
theorem pa_one {te : TE} (h : PE X e te) (hs : starEach [e] X.env = [(false, eval e X.env)]) : PA X [e] (tCons te tNil) := pa_cons h pa_nil (by rw [hs]; rfl)
/-- enumerate of data -/
theorem di_enum {t : TB} (hm : X.mg "enumerate" = none) (h : DF X e t) (hg : Gl X "enumerate" := by rfl) (hs : starEach [e] X.env = [(false, eval e X.env)] := by rfl) : DI X st (.Tuple elts kk tpos) (.Call (.Name "enumerate" p) [e] [] pos) (iEnumD t) := by
  refine pi_mono (pi_enumx hg hm (pa_one h hs) hs) fun σ H R ⟨env, F, ow, dm, P, S, q, k⟩ => ⟨env, F, ow, dm, _, S, q, fun d hd v F1 H1 x r => ?_⟩
  show (∃ a xs, [v] = [V.ref a] ∧ _) ∨ (∃ a xs, [v] = [V.ref a] ∧ _) ∨ ∃ z, [v] = [V.str z] ∧ _
  split at hd
  · cases r with
    | lst h1 h2 => exact .inl ⟨_, _, rfl, .of (x.fh _ _ h1), k _ hd _ F1 H1 (fun _ => False) x (itr_enumx (fun F H e1 e2 _ => .of ((e1.trans e2) _ _ h1)) h2) fun _ z => z.elim⟩
  · cases r with
    | tup h1 h2 => exact .inr (.inl ⟨_, _, rfl, sqT_same x.fh h1.sq, k _ hd _ F1 H1 (fun _ => False) x (itr_enumx (fun F H e1 e2 _ => sqT_same (e1.trans e2) h1.sq) h2) fun _ z => z.elim⟩)
  · cases r
    exact .inr (.inr ⟨_, rfl, k _ hd _ F1 H1 (fun _ => False) x (itr_enumx (fun _ _ _ _ _ => trivial) (chars_dp _)) fun _ z => z.elim⟩)
  · exact hd.elim
/-- .. of what is looked at, in a comprehension -/
theorem di_enumb {t : TB} (hm : X.mg "enumerate" = none) (h : DB X e t) (hg : Gl X "enumerate" := by rfl) (hs : starEach [e] X.env = [(false, eval e X.env)] := by rfl) : DI X false (.Tuple elts kk tpos) (.Call (.Name "enumerate" p) [e] [] pos) (iEnumD t) := by
  refine pi_mono (pi_enumx hg hm (pa_one h hs) hs) fun σ H R ⟨env, F, ow, dm, P, S, q, k⟩ => ⟨env, F, ow, dm, _, S, q, fun d hd v F1 H1 x r => ?_⟩
  show (∃ a xs, [v] = [V.ref a] ∧ _) ∨ (∃ a xs, [v] = [V.ref a] ∧ _) ∨ ∃ z, [v] = [V.str z] ∧ _
  rcases r with r | ⟨a, vs, ds, rfl, rfl, h3, h4, h5⟩
  · split at hd
    · cases r with
      | lst h1 h2 => exact .inl ⟨_, _, rfl, .of (x.fh _ _ h1), k _ hd _ F1 H1 (fun _ => False) x (itr_enumx (fun F H e1 e2 _ => .of ((e1.trans e2) _ _ h1)) h2) fun _ z => z.elim⟩
    · cases r with
      | tup h1 h2 => exact .inr (.inl ⟨_, _, rfl, sqT_same x.fh h1.sq, k _ hd _ F1 H1 (fun _ => False) x (itr_enumx (fun F H e1 e2 _ => sqT_same (e1.trans e2) h1.sq) h2) fun _ z => z.elim⟩)
    · cases r
      exact .inr (.inr ⟨_, rfl, k _ hd _ F1 H1 (fun _ => False) x (itr_enumx (fun _ _ _ _ _ => trivial) (chars_dp _)) fun _ z => z.elim⟩)
    · exact hd.elim
  · exact .inl ⟨a, vs, rfl, .of h3, k _ hd _ F1 H1 (fun b => b = a) x (itr_enumx (fun F H e1 e2 e3 => .of ((e3 a rfl).trans h3)) h5) fun b hb => by subst hb; exact ⟨rfl, by rw [h3]; simp, h4⟩⟩

/-! ### a < b < c -/
def dChain (g h : D → D → (W → Prop) → Prop) (ta tb tc : TB) : TW := fun env Q => ta env fun x => tb env fun y => g x y fun w => match w with
  | .fz (.bool true) => tc env fun z => h y z Q
  | .fz (.bool false) => Q (.fz (.bool false))
  | _ => False
theorem tChain_of {r r' : R2} {g h : D → D → (W → Prop) → Prop} (s : Snd2 X.K r g) (s' : Snd2 X.K r' h) {ta tb tc : TB} {σ : L2.St} {H : Hp} {Q : VK} (q : lW X.K (dChain g h ta tb tc) σ H Q) : tChain r r' (lB X.K ta) (lB X.K tb) (lB X.K tc) σ H Q := by
  obtain ⟨env, F, ow, dm, P, S, q, k⟩ := q
  refine ⟨env, F, ow, dm, _, S, q, fun x hx v F1 H1 x1 r1 => ⟨env, F1, ow, dm, _, S.ext x1, hx, fun y hy u F2 H2 x2 r2 => ?_⟩⟩
  have x12 := x1.trans x2
  refine s dm F2 H2 v u x y _ _ x2.fh x2.dl (r1.ext x2) r2 hy fun w hw z F3 H3 fp x3 r3 nd fr => ?_
  have x13 := x12.trans x3
  split at hw
  · cases r3 with
    | fz r3 =>
      cases r3
      refine ⟨true, rfl, env, F3, ow, dm, _, S.ext x13, hw, fun c hc u' F4 H4 x4 r4 => ?_⟩
      exact s' dm F4 H4 u u' y c Q P x4.fh x4.dl ((r2.ext x3).ext x4) r4 hc fun w hw => got_of (x13.trans x4) (k w hw)
  · cases r3 with
    | fz r3 =>
      cases r3
      exact ⟨false, rfl, got_here x3.fh x3.dl (.bl false) (got_of x13 (k _ hw))⟩
  · exact hw.elim
theorem dw_chain {op op' : CmpOp} {r r' : R2} {g h : D → D → (W → Prop) → Prop} {ta tb tc : TB} (ho : OpR X (compareOp op) r) (ho' : OpR X (compareOp op') r') (s : Snd2 X.K r g) (s' : Snd2 X.K r' h) (ha : DB X a ta) (hb : DB X b tb) (hc : DB X c tc)
    (hm : lastMarks [op, op'] [b, c] = false := by with_unfolding_all rfl) : DW X (.Compare a [op, op'] [b, c] pos) (dChain g h ta tb tc) :=
  pe_mono (pe_chain ho ho' ha hb hc hm) fun _ _ _ q => tChain_of s s' q
theorem dt_chain {op op' : CmpOp} {r r' : R2} {g h : D → D → (W → Prop) → Prop} {ta tb tc : TB} (ho : OpR X (compareOp op) r) (ho' : OpR X (compareOp op') r') (s : Snd2 X.K r g) (s' : Snd2 X.K r' h) (ha : DB X a ta) (hb : DB X b tb) (hc : DB X c tc)
    (hm : lastMarks [op, op'] [b, c] = false := by with_unfolding_all rfl) : DT X (.Compare a [op, op'] [b, c] pos) (dBool (dChain g h ta tb tc)) := by
  have hh : PT X (.Compare a [op, op'] [b, c] pos) (tTest (lW X.K (dChain g h ta tb tc))) := pt_mono (pt_chain ho ho' ha hb hc hm) fun σ H Q q => tChain_of s s' q
  refine pt_mono hh fun σ H Q ⟨env, F, ow, dm, P, S, q, k⟩ => ⟨env, F, ow, dm, _, S, q, fun w hw v F1 H1 fp x r nd fr => ?_⟩
  split at hw
  · cases r with
    | fz r => cases r; exact ⟨_, rfl, k _ hw F1 H1 x⟩
  · exact hw.elim

/-! ### in -/
def D.flat : D → Bool
  | .none => true
  | .bool _ => true
  | .int _ => true
  | .str _ => true
  | _ => false
/-- x in y: a sign in a text; flat data in a list or tuple of flat data -/
def gIn (neg : Bool) : D → D → (W → Prop) → Prop := fun x y P => match y with
  | .str z => ∃ c, x = .str ⟨#[c]⟩ ∧ P (.fz (.bool (xor neg (decide (c ∈ z.cps.toList)))))
  | .list ds => (D.flat x = true ∧ ds.all D.flat = true) ∧ P (.fz (.bool (xor neg (ds.any fun d => PyData.eqv d x))))
  | .tuple ds => (D.flat x = true ∧ ds.all D.flat = true) ∧ P (.fz (.bool (xor neg (ds.any fun d => PyData.eqv d x))))
  | _ => False
theorem flat_dp {K : PySem.W.Frag} {F : Hp} {v : V} {d : D} (r : Dp K F v d) (h : D.flat d = true) : flatV v = true := by
  cases r <;> first | rfl | (simp [D.flat] at h)
theorem eqV_dp {K : PySem.W.Frag} {F F' : Hp} {v u : V} {d e : D} (r : Dp K F v d) (s : Dp K F' u e) (h : D.flat d = true) (h' : D.flat e = true) : eqV v u = PyData.eqv d e := by
  cases r <;> cases s <;> first | rfl | (simp [D.flat] at h) | (simp [D.flat] at h') | (simp [eqV, PyData.eqv])
theorem inV_dp {K : PySem.W.Frag} {F F' : Hp} {u : V} {e : D} (s : Dp K F' u e) (h' : D.flat e = true) : ∀ {vs : List V} {ds : List D}, DpAll K F vs ds → ds.all D.flat = true → vs.all flatV = true ∧ inV u vs = ds.any fun d => PyData.eqv d e
  | _, _, .nil, _ => ⟨rfl, rfl⟩
  | _, _, .cons (v := v) (vs := vs) (d := d) (ds := ds) r rr, h => by
    rw [List.all_cons, Bool.and_eq_true] at h
    obtain ⟨a1, a2⟩ := inV_dp s h' rr h.2
    refine ⟨by rw [List.all_cons, flat_dp r h.1, a1]; rfl, ?_⟩
    unfold inV at a2 ⊢
    rw [List.any_cons, List.any_cons, eqV_dp r s h.1 h', a2]
theorem db_flat {K : PySem.W.Frag} {dm : DM} {F H : Hp} {v : V} {d : D} (r : Db K dm F H v d) (h : D.flat d = true) : Dp K F v d := by
  rcases r with r | ⟨_, _, _, _, rfl, _⟩
  · exact r
  · simp [D.flat] at h
theorem snd_in {K : PySem.W.Frag} (neg : Bool) : Snd2 K (fun x y H Q => rIn K neg x y H Q ∨ ∃ (c : Nat) (z : Str), x = .str ⟨#[c]⟩ ∧ y = .str z ∧ Q (.bl (xor neg (decide (c ∈ z.cps.toList)))) H) (gIn neg) := by
  intro dm F H x y d1 d2 Q P hs dl h1 h2 g k
  unfold gIn at g
  split at g
  · obtain ⟨c, rfl, g⟩ := g
    cases h1.str_inv
    cases h2.str_inv
    exact .inr ⟨c, _, rfl, rfl, got_here hs dl (.bl _) (k _ g)⟩
  · obtain ⟨a, vs, rfl, hq, r⟩ := h2.lst_inv hs
    have h1' := db_flat h1 g.1.1
    obtain ⟨a1, a2⟩ := inV_dp h1' g.1.1 r g.1.2
    refine .inl ⟨a, vs, rfl, .inl (.of hq), flat_dp h1' g.1.1, a1, ?_⟩
    rw [a2]
    have := got_here hs dl (.bl _) (k _ g.2)
    cases neg <;> simpa using this
  · obtain ⟨a, vs, rfl, hF, hq, r⟩ := h2.tup_inv hs
    have h1' := db_flat h1 g.1.1
    obtain ⟨a1, a2⟩ := inV_dp h1' g.1.1 r g.1.2
    refine .inl ⟨a, vs, rfl, .inr hq, flat_dp h1' g.1.1, a1, ?_⟩
    rw [a2]
    have := got_here hs dl (.bl _) (k _ g.2)
    cases neg <;> simpa using this
  · exact g.elim
abbrev dIn (ta tb : TB) : TW := dOp2 (gIn false) ta tb
abbrev dNotIn (ta tb : TB) : TW := dOp2 (gIn true) ta tb
variable {ta tb : TB}
theorem op_inA : OpR X (compareOp .In) (fun x y H Q => rIn X.K false x y H Q ∨ ∃ (c : Nat) (z : Str), x = .str ⟨#[c]⟩ ∧ y = .str z ∧ Q (.bl (xor false (decide (c ∈ z.cps.toList)))) H) := opOr op_in_seq fun pins s σ H x y v u Q I rx ry ⟨c, z, h1, h2, q⟩ => op_in_sign pins s σ H x y v u Q I rx ry ⟨c, z, h1, h2, by rwa [Bool.false_xor] at q⟩
theorem op_notInA : OpR X (compareOp .NotIn) (fun x y H Q => rIn X.K true x y H Q ∨ ∃ (c : Nat) (z : Str), x = .str ⟨#[c]⟩ ∧ y = .str z ∧ Q (.bl (xor true (decide (c ∈ z.cps.toList)))) H) := opOr op_notIn_seq fun pins s σ H x y v u Q I rx ry ⟨c, z, h1, h2, q⟩ => op_notIn_sign pins s σ H x y v u Q I rx ry ⟨c, z, h1, h2, by rwa [Bool.true_xor] at q⟩
theorem dw_in (ha : DB X a ta) (hb : DB X b tb) (hm : behindInMarks .In b = false := by rfl) : DW X (.Compare a [.In] [b] pos) (dIn ta tb) := dw_cmp op_inA (snd_in false) ha hb hm
theorem dw_notIn (ha : DB X a ta) (hb : DB X b tb) (hm : behindInMarks .NotIn b = false := by rfl) : DW X (.Compare a [.NotIn] [b] pos) (dNotIn ta tb) := dw_cmp op_notInA (snd_in true) ha hb hm

/-! ### is None, is True -/
def gIsN (neg : Bool) : D → D → (W → Prop) → Prop := fun x y P => match y with
  | .none => P (.fz (.bool (xor neg (match x with | .none => true | _ => false))))
  | .bool b => match x with
    | .bool a => P (.fz (.bool (xor neg (decide (a = b)))))
    | _ => False
  | _ => False
theorem snd_isN {K : PySem.W.Frag} : Snd2 K (fun x y H Q => (y = .non ∧ Q (.bl (decide (x = .non))) H) ∨ rIsB x y H Q) (gIsN false) := by
  intro dm F H x y d1 d2 Q P hs dl h1 h2 g k
  unfold gIsN at g
  split at g
  · cases h2.none_inv
    refine .inl ⟨rfl, got_here (K := K) hs dl (.bl _) ?_⟩
    have := k _ g
    rw [Bool.false_xor] at this
    rcases h1 with r | ⟨_, _, _, rfl, rfl, _⟩
    · cases r <;> simpa using this
    · simpa using this
  · split at g
    · cases h1.bool_inv; cases h2.bool_inv
      refine .inr ⟨_, _, rfl, rfl, got_here (K := K) hs dl (.bl _) ?_⟩
      have := k _ g
      rwa [Bool.false_xor] at this
    · exact g.elim
  · exact g.elim
theorem snd_notN {K : PySem.W.Frag} : Snd2 K (fun x y H Q => (y = .non ∧ Q (.bl (!decide (x = .non))) H) ∨ rNotB x y H Q) (gIsN true) := by
  intro dm F H x y d1 d2 Q P hs dl h1 h2 g k
  unfold gIsN at g
  split at g
  · cases h2.none_inv
    refine .inl ⟨rfl, got_here (K := K) hs dl (.bl _) ?_⟩
    have := k _ g
    rw [Bool.true_xor] at this
    rcases h1 with r | ⟨_, _, _, rfl, rfl, _⟩
    · cases r <;> simpa using this
    · simpa using this
  · split at g
    · cases h1.bool_inv; cases h2.bool_inv
      refine .inr ⟨_, _, rfl, rfl, got_here (K := K) hs dl (.bl _) ?_⟩
      have := k _ g
      rwa [Bool.true_xor] at this
    · exact g.elim
  · exact g.elim
theorem dw_is (ha : DB X a ta) (hb : DB X b tb) : DW X (.Compare a [.Is] [b] pos) (dOp2 (gIsN false) ta tb) := dw_cmp (opOr op_isN op_isBl) snd_isN ha hb
theorem dw_isnot (ha : DB X a ta) (hb : DB X b tb) : DW X (.Compare a [.IsNot] [b] pos) (dOp2 (gIsN true) ta tb) := dw_cmp (opOr op_notN op_notBl) snd_notN ha hb

/-! ### sep.join(texts) -/
def strsOf : List D → Option (List Str)
  | [] => some []
  | .str z :: ds => (strsOf ds).map (z :: ·)
  | _ :: _ => none
theorem strsOf_map (zs : List Str) : strsOf (zs.map .str) = some zs := by
  induction zs with
  | nil => rfl
  | cons z zs ih => simp [strsOf, ih]
theorem strsOf_dp {K : PySem.W.Frag} {F : Hp} : ∀ {vs : List V} {ds : List D} {zs : List Str}, DpAll K F vs ds → strsOf ds = some zs → vs = zs.map V.str
  | _, [], _, .nil, h => by cases h; rfl
  | _, .str z :: ds, zs, .cons r rr, h => by
    unfold strsOf at h
    cases q : strsOf ds with
    | none => rw [q] at h; cases h
    | some ys =>
      rw [q] at h
      cases h
      cases r
      rw [strsOf_dp rr q]
      rfl
  | _, .none :: _, _, _, h => by cases h
  | _, .bool _ :: _, _, _, h => by cases h
  | _, .int _ :: _, _, _, h => by cases h
  | _, .list _ :: _, _, _, h => by cases h
  | _, .tuple _ :: _, _, _, h => by cases h
  | _, .dict _ :: _, _, _, h => by cases h
def gJoin (x y : D) (P : W → Prop) : Prop := match x, y with
  | .str a, .list ds => ∃ zs, strsOf ds = some zs ∧ (zs.map (·.length)).sum + zs.length * a.length ≤ 16777216 ∧ P (.fz (.str (Txt.join a zs)))
  | .str a, .tuple ds => ∃ zs, strsOf ds = some zs ∧ (zs.map (·.length)).sum + zs.length * a.length ≤ 16777216 ∧ P (.fz (.str (Txt.join a zs)))
  | _, _ => False
def dJoin (ta tb : TB) : TW := fun env Q => ta env fun x => (match x with | .str _ => True | _ => False) ∧ tb env fun y => gJoin x y Q
theorem dw_join {o : Expr} {apos : Pos} (ho : DB X o ta) (he : DB X e tb) (hs : starEach [e] X.env = [(false, eval e X.env)] := by rfl) (hbase : attributeBase o "join" X.env (eval o X.env) = eval o X.env := by rfl) (hline : (apos.endLine == pos.line) = true := by rfl) :
    DW X (.Call (.Attribute o "join" apos) [e] [] pos) (dJoin ta tb) := by
  refine pe_mono (pe_join ho he hs hbase hline) fun σ H Q ⟨env, F, ow, dm, P, S, q, k⟩ => ?_
  refine ⟨env, F, ow, dm, _, S, q, fun x ⟨hx, hy⟩ v F1 H1 x1 r1 => ?_⟩
  split at hx
  · cases r1.str_inv
    refine ⟨⟨_, rfl⟩, env, F1, ow, dm, _, S.ext x1, hy, fun y hy u F2 H2 x2 r2 => ?_⟩
    have xx := x1.trans x2
    unfold gJoin at hy
    split at hy
    · rename_i e1
      cases e1
      obtain ⟨zs, e, hz, hn⟩ := hy
      obtain ⟨l, us, rfl, hq, rr⟩ := r2.lst_inv x2.fh
      rw [strsOf_dp rr e] at hq
      exact ⟨_, l, zs, rfl, rfl, .inl (.of hq), hz, got_here xx.fh xx.dl (.str _) (got_of xx (k _ hn))⟩
    · rename_i e1
      cases e1
      obtain ⟨zs, e, hz, hn⟩ := hy
      obtain ⟨l, us, rfl, hF, hq, rr⟩ := r2.tup_inv x2.fh
      rw [strsOf_dp rr e] at hq
      exact ⟨_, l, zs, rfl, rfl, .inr hq, hz, got_here xx.fh xx.dl (.str _) (got_of xx (k _ hn))⟩
    · exact hy.elim
  · exact hx.elim
/-- a module's constant -/
theorem dw_glob {x : Str} {v : V} {u : Value} {d : D} (hm : X.mg x = some u) (r : RelV v u) (hd : ∀ F, Dp X.K F v d) (hg : Gl X x := by rfl) (hdb : (x == ("__debug__" : Str)) = false := by decide) : DW X (.Name x pos) (dC d) := dw_const (pe_glob hg hm r hdb) hd
end
end DL

/-! DL, part o: callees by name; the script's first items; the deal is laid. -/
namespace DL
open PySem PySem.Spec PyProof.Rows L2

/-- the def x of the text keeps a promise over data -/
structure Cal (P : Program) (w : World) (K : PySem.W.Frag) (mg : Str → Option Value) (base : Heap) (k : Nat) (x : Str) (st : Stmt) (ps : List Str) (S : Spec) : Prop where
  ex : ∃ f fd, Fun K x x st f fd ∧ mg x = some (.ref f) ∧ FnG P w K mg base CX0 k f fd ps (spD K S)
theorem Cal.mono {P : Program} {w : World} {K : PySem.W.Frag} {mg : Str → Option Value} {base : Heap} {j k : Nat} {x : Str} {st : Stmt} {ps : List Str} {S : Spec} (C : Cal P w K mg base j x st ps S) (h : j ≤ k) : Cal P w K mg base k x st ps S :=
  let ⟨f, fd, F, m, G⟩ := C.ex; ⟨f, fd, F, m, G.mono h⟩
def BdOk (st : Stmt) (x : Str) (ps : List Str) (n1 : Nat) (ks : List Str) (π : List Nat) : Prop :=
  ∀ (kV doc pm : Value) (an : Option Addr) (cdv ct : Value) (us : List Value), us.length = n1 + ks.length → bindArgs (PySem.W.fnOf x x (defArgs st) (defBody st) (defScope st) .none kV doc pm an cdv ct) ⟨us.take n1, ks.zip (us.drop n1)⟩ = pure (ps.zip (pick π us))
theorem kbd_of {K : PySem.W.Frag} {x : Str} {st : Stmt} {f : Addr} {fd : FuncData} {ps ks : List Str} {n1 : Nat} {π : List Nat} (F : Fun K x x st f fd) (h : BdOk st x ps n1 ks π) : KBd fd ps n1 ks π := fun s us hl => by
  obtain ⟨oc, od, kV, doc, pm, an, cdv, ct, osl, rfl, lk, hcd⟩ := F.ex
  exact .of_eq (h kV doc pm an cdv ct us hl)
section
variable {X : Cx} {k : Nat} {ps ks : List Str} {S : Spec} {x : Str} {st : Stmt} {p pos : Pos} {e : Expr} {es : List Expr} {kws : List Keyword} {π : List Nat} {t u : TWs}
theorem dw_fn (C : Cal X.prog X.w X.K X.mg X.base k x st ps S) (hgd : X.A.guards = some []) (hr : Room k X.A) (hb : BdOk st x ps (e :: es).length [] π) (ha : DAg X (e :: es) t)
    (hg : Gl X x := by rfl) (hdb : (x == ("__debug__" : Str)) = false := by decide) (he : starEach (e :: es) X.env = (false, eval e X.env) :: starEach es X.env := by rfl) (hpl : (backTo pos (starEach es X.env)).any (·.1) = false := by rfl) :
    DW X (.Call (.Name x p) (e :: es) [] pos) (dCallF S π t gsNil) := by
  obtain ⟨f, fd, F, m, G⟩ := C.ex
  exact dw_call G hgd hr m F.kp (kbd_of F hb) ha hg hdb he hpl
theorem dw_fnK0 (C : Cal X.prog X.w X.K X.mg X.base k x st ps S) (hgd : X.A.guards = some []) (hr : Room k X.A) (hb : BdOk st x ps 0 ks π) (hu : DKg X kws u) (hkl : ks.length = kws.length := by rfl)
    (hall : (backToKw pos (keywordEach kws X.env)).all (·.1.isSome) = true := by rfl) (hks : (backToKw pos (keywordEach kws X.env)).filterMap (·.1) = ks := by rfl)
    (hpl : ((backTo pos (starEach [] X.env)).any (·.1) || (backToKw pos (keywordEach kws X.env)).any (·.1.isNone)) = false := by rfl) (hg : Gl X x := by rfl) (hdb : (x == ("__debug__" : Str)) = false := by decide) :
    DW X (.Call (.Name x p) [] kws pos) (dCallF S π gsNil u) := by
  obtain ⟨f, fd, F, m, G⟩ := C.ex
  exact dw_callK0 G hgd hr m F.kp (kbd_of F hb) hu hkl hall hks hpl hg hdb
theorem dw_fnK (C : Cal X.prog X.w X.K X.mg X.base k x st ps S) (hgd : X.A.guards = some []) (hr : Room k X.A) (hb : BdOk st x ps (e :: es).length ks π) (ha : DAg X (e :: es) t) (hu : DKg X kws u) (hkl : ks.length = kws.length := by rfl)
    (hall : (backToKw pos (keywordEach kws X.env)).all (·.1.isSome) = true := by rfl) (hks : (backToKw pos (keywordEach kws X.env)).filterMap (·.1) = ks := by rfl) (he : starEach (e :: es) X.env = (false, eval e X.env) :: starEach es X.env := by rfl)
    (hpl : ((backTo pos (starEach (e :: es) X.env)).any (·.1) || (backToKw pos (keywordEach kws X.env)).any (·.1.isNone)) = false := by rfl) (hg : Gl X x := by rfl) (hdb : (x == ("__debug__" : Str)) = false := by decide) :
    DW X (.Call (.Name x p) (e :: es) kws pos) (dCallF S π t u) := by
  obtain ⟨f, fd, F, m, G⟩ := C.ex
  exact dw_callK G hgd hr m F.kp (kbd_of F hb) ha hu hkl hall hks he hpl hg hdb

/-! ### the script's first items -/
def dScr (i : Nat) (n : Int) : TW := fun env Q => match env[i]? with
  | some (some (.scr ns)) => Q (.own (((cutL ns none (some n)).map PyData.int).map .fz))
  | _ => False
theorem dw_scr (i : Nat) {n : Int} {j : Nat} {p2 p3 : Pos} (h : PE X (.Name x p) (tVar i)) : DW X (.Subscript (.Name x p) (.Slice none (some (.Constant (.int n) j p3)) none p2) pos) (dScr i n) := by
  refine pe_mono (pe_slice sl_list h po_none (po_some pe_int)) fun σ H Q ⟨env, F, ow, dm, P, T, q, kk⟩ => ?_
  unfold dScr at q
  split at q
  · rename_i ns ei
    obtain ⟨v, fp, h1, h2, _, _⟩ := T.sl i _ ei
    cases h2 with
    | @scr a _ _ h2 =>
      refine ⟨.ref a, h1, n, rfl, a, _, rfl, T.same.seq h2, fun p hp => ?_⟩
      have e : cutV (ns.map V.int) none (some n) = (cutL ns none (some n)).map V.int := by
        unfold cutV cutL
        rw [List.length_map, List.map_take, List.map_drop]
      rw [e]
      exact got_lst0 T.same T.dl (dpAll_of_ints _) (kk _ q) hp
  · exact q.elim
end

/-! ### the deal is laid: what the source of draws gives is from now on the deal; the script is forgotten -/
def dDeal (i s : Nat) (t : TSd) : TSd := fun E env => match env[i]?, env[s]? with
  | some (some (.own [.own ws, .fz (.int b)])), some (some (.scr _)) =>
    (∃ cells : List Int, ws = (cells.map PyData.int).map .fz ∧ cells.length ≤ 64 ∧ 0 ≤ b ∧ b < 2147483647) ∧ (∀ (j : Nat) (w : W), j ≠ s → env[j]? = some (some w) → w.nd = true) ∧ t E ((env.set s none).set i (some .deal))
  | _, _ => False
theorem wrs_ints {K : PySem.W.Frag} {dm : DM} {F H : Hp} : ∀ {cells : List Int} {vs : List V} {fp : List Addr}, WRs K dm F H ((cells.map PyData.int).map .fz) vs fp → vs = cells.map V.int ∧ fp = []
  | [], _, _, .nil => ⟨rfl, rfl⟩
  | c :: cs, _, _, .cons h r => by
    obtain ⟨rfl, rfl⟩ := wrs_ints (cells := cs) r
    cases h with
    | fz h => cases h; exact ⟨rfl, rfl⟩
theorem SA.lay {K : PySem.W.Frag} {A : Anc} {env : Env} {σ : L2.St} {F H : Hp} {ow : Addr → Option Nat} {dm : DM} (S : SA K A env σ F H ow dm) {i s : Nat} {ws : List W} {b : Int} {ns cells : List Int} (ei : env[i]? = some (some (.own [.own ws, .fz (.int b)]))) (es : env[s]? = some (some (.scr ns)))
    (ew : ws = (cells.map PyData.int).map .fz) (hc : cells.length ≤ 64) (h0 : 0 ≤ b) (h1 : b < 2147483647) (hn : ∀ (j : Nat) (w : W), j ≠ s → env[j]? = some (some w) → w.nd = true) : ∃ ow' dm', SA K A ((env.set s none).set i (some .deal)) σ F H ow' dm' := by
  obtain ⟨vs0, fps, _, hscr, _, _⟩ := S.x.sl s _ es
  have hdm : dm = none := by cases hscr; assumption
  subst hdm
  have hA : A.dm = none := by
    rcases S.dmf with e | ⟨e, _⟩
    · exact e
    · exact e
  have nis : i ≠ s := fun e => by rw [e, es] at ei; cases ei
  obtain ⟨v, fp, k1, k2, k3, k4⟩ := S.x.sl i _ ei
  cases k2 with
  | @own a vs _ fq g1 g2 g3 =>
    obtain ⟨c, vl, f1, f2, rfl, rfl, r1, r2⟩ := WRs.last (ws := [.own ws]) g3
    obtain ⟨v1, rfl, r4⟩ := wr1 r1
    cases r2 with
    | fz r2 =>
      cases r2
      cases r4 with
      | @own a2 vs2 _ f3 q1 q2 q3 =>
        subst ew
        obtain ⟨rfl, rfl⟩ := wrs_ints q3
        have nab : a ≠ a2 := fun z => (List.nodup_cons.mp k3).1 (by rw [z]; simp)
        have oa : ow a = some i := k4 a (by simp)
        have ob : ow a2 = some i := k4 a2 (by simp)
        have dl : ∀ p, (some (a, a2) : DM) = some p → DealAt F H p.1 p.2 := fun p hp => by
          cases hp
          exact ⟨g1, q1, cells, b, g2, q2, hc, h0, h1⟩
        have clean : ∀ x, isM (some (a, a2)) x → x = a ∨ x = a2 := fun x ⟨p, hp, hx⟩ => by cases hp; exact hx
        refine ⟨fun x => if x = a ∨ x = a2 then none else ow x, some (a, a2), ⟨S.x.same, by rw [List.length_set, List.length_set]; exact S.x.len, fun j w hw => ?_, dl, fun p hp => by cases hp; exact ⟨if_pos (.inl rfl), if_pos (.inr rfl)⟩⟩, ?_, S.pin, fun x j h => ?_, fun x j h => ?_, .inr ⟨hA, fun p hp => by cases hp; exact ⟨S.own a i oa, S.own a2 i ob⟩⟩⟩
        · by_cases ej : i = j
          · subst ej
            have hi : i < env.length := by
              rcases Nat.lt_or_ge i env.length with h | h
              · exact h
              · rw [List.getElem?_eq_none h] at ei; cases ei
            rw [List.getElem?_set_self (by rw [List.length_set]; exact hi)] at hw
            cases hw
            exact ⟨.ref a, [], k1, .deal rfl, List.nodup_nil, fun _ ha => nomatch ha⟩
          · rw [List.getElem?_set_ne ej] at hw
            by_cases es' : s = j
            · subst es'
              rcases Nat.lt_or_ge s env.length with h | h
              · rw [List.getElem?_set_self h] at hw; cases hw
              · rw [List.getElem?_eq_none (by rw [List.length_set]; exact h)] at hw; cases hw
            · rw [List.getElem?_set_ne es'] at hw
              obtain ⟨z, fz, m1, m2, m3, m4⟩ := S.x.sl j w hw
              refine ⟨z, fz, m1, m2.redm (hn j w (fun e => es' e.symm) hw), m3, fun x hx => ?_⟩
              have ox := m4 x hx
              show (if x = a ∨ x = a2 then none else ow x) = some j
              rw [if_neg fun z => by
                rcases z with z | z
                · rw [z, oa] at ox; exact ej (Option.some.inj ox)
                · rw [z, ob] at ox; exact ej (Option.some.inj ox)]
              exact ox
        · exact S.anc
        · have h' : (if x = a ∨ x = a2 then none else ow x) = some j := h
          split at h'
          · cases h'
          · exact S.own x j h'
        · have h' : (if x = a ∨ x = a2 then none else ow x) = some j := h
          split at h'
          · cases h'
          · exact S.owh x j h'
theorem ds_deal {X : Cx} (i s : Nat) {st : Stmt} {t : TSd} (h : DS X st t) : DS X st (dDeal i s t) := by
  intro WW tk
  refine ps_mono (h WW tk) fun D σ H ⟨A, E, env, F, ow, dm, S, q, k⟩ => ?_
  unfold dDeal at q
  split at q
  · rename_i ws b ns ei es
    obtain ⟨⟨cells, e1, e2, e3, e4⟩, hn, q⟩ := q
    obtain ⟨ow', dm', S'⟩ := S.lay ei es e1 e2 e3 e4 hn
    exact ⟨A, E, _, F, ow', dm', S', q, k⟩
  · exact q.elim
/-- a slot forgotten -/
def dForget (i : Nat) (t : TSd) : TSd := fun E env => t E (env.set i none)
end DL

/-! DL, part p: the law's own call, and the end of a row. -/
namespace DL
open PySem PySem.Spec PyProof.Rows L2

/-- the law's promise: whatever the script, True -/
def lawS : Spec := fun ws P => ∃ ns : List Int, ws = [.scr ns] ∧ ns.length ≤ 63 ∧ P (.fz (.bool true))
section
variable {P : Program} {w : World} {K : PySem.W.Frag} {mg mb : Str → Option Value} {k : Nat} {fa a : Addr} {fd : FuncData} {x : Str} {s : Shared} {vs : List Value} {ns : List Int}
/-- from an abstract heap that tracks the script alone, or nothing -/
theorem law_from (KX : K.In s.heap) (hns : s.heap.Ns mainGlobals mg) (hb : s.heap.Ns builtinsNs mb) (hbb : ∀ y : Str, y ≠ "__name__" → mb y = bootBuiltins y) (hlim : s.heap.NoLimit) (hgs : s.gens = #[]) (hr : Room k callerA) (hl : ns.length ≤ 63)
    (ha : s.heap.get? a = some { cls := .type "list", data := .seq vs.toArray }) (G : ∀ base : Heap, K.In base → base.Ns mainGlobals mg → FnG P w K mg base CX0 k fa fd [x] (spD K lawS)) (hbd : ∀ (s : Shared) (u : Value), BindsTo s fd ⟨[u], []⟩ [(x, u)])
    (H : Hp) (hO : L2.Only H) (hS : SqL K H a (ns.map V.int)) (hok : HOk P w H s.heap) (hA : ∀ b, H b ≠ none → b = a ∧ K.lookup a = none) :
    codeAny (model P w) callerA (.call (.ref fa) ⟨[.ref a], []⟩) (fun r s' => r = .ok (.ret (.bool true)) ∧ OldK s.heap s'.heap ∧ s'.os = s.os ∧ AllBare s'.gens) s := by
  have free : ∀ {b : Addr} {o : Obj}, s.heap.get? b = some o → b ≠ a → (hidT s.heap H).get? b = some o := fun {b o} e ne => hidT_get e (by
    cases q : H b with
    | none => rfl
    | some u => exact absurd (hA b (by rw [q]; simp)).1 ne)
  have nsK : ∀ {b : Addr} {m : Str → Option Value}, s.heap.Ns b m → (hidT s.heap H).Ns b m := by
    rintro b m ⟨o, es, ep, e, d, r⟩
    refine ⟨o, es, ep, free e ?_, d, r⟩
    rintro rfl
    rw [ha] at e
    cases e
    exact absurd (show Data.seq vs.toArray _ = Data.dict es ep from d) (by intro z; cases z)
  have kin : K.In (hidT s.heap H) := fun b o e => by
    cases q : H b with
    | none => exact hidT_get (KX b o e) q
    | some u =>
      obtain ⟨rfl, z⟩ := hA b (by rw [q]; simp)
      rw [z] at e
      cases e
  obtain ⟨mc, l1, l2⟩ := hlim
  have e0 : Env0 P w K mg (hidT s.heap H) callerA [] s H := {
    frames := rfl
    mod := ⟨kin, nsK hns, ⟨mb, nsK hb, hbb⟩, mc, nsK l1, l2⟩
    bs := fun b o e => of_hidT e
    bsz := Nat.le_of_eq (hidT_size _ _)
    funs := trivial
    frf := fun _ hb => nomatch hb
    hok := hok
    bare := .of_eq hgs }
  have promise : spD K lawS [.ref a] H (fun v _ => v = .bl true) E0 := by
    refine ⟨[.scr ns], H, none, fun w => w = .fz (.bool true), Same.refl H, (fun _ h => nomatch h), .cons (fp := []) (fq := []) (.scr rfl hS) .nil, ⟨ns, rfl, hl, rfl⟩, ?_⟩
    rintro _ rfl v F' H' fp _ r _ _
    cases r with
    | fz r => cases r; rfl
  refine codeAny_mono ((G _ kin (nsK hns)).run callerA [] s H ⟨[.ref a], []⟩ [.ref a] [.ref a] _ E0 rfl hr e0 (hbd s (.ref a)) (.cons rfl .nil) promise) fun r s' h => ?_
  match r, h with
  | .ok (.ret u), ⟨v, H', os, bare, un, hok', r', q⟩ =>
    cases (show v = .bl true from q)
    cases r'
    refine ⟨rfl, OldK.of_keep fun b o e => ?_, os, bare⟩
    rcases hO b with z | ⟨ob, xs, z⟩
    · exact un.keep b o e z (fun h => nomatch (show b ∈ ([] : List Addr) from h)) (fun h => nomatch h)
    · have e1 := (hok b _ z).1
      rw [e] at e1
      cases e1
      exact (hok' b _ (un.frzs b _ _ z)).1
theorem law_callG (KX : K.In s.heap) (hns : s.heap.Ns mainGlobals mg) (hb : s.heap.Ns builtinsNs mb) (hbb : ∀ y : Str, y ≠ "__name__" → mb y = bootBuiltins y) (hlim : s.heap.NoLimit) (hgs : s.gens = #[]) (hr : Room k callerA) (hl : ns.length ≤ 63) (hi : IntsAre vs ns)
    (ha : s.heap.get? a = some { cls := .type "list", data := .seq vs.toArray }) (G : ∀ base : Heap, K.In base → base.Ns mainGlobals mg → FnG P w K mg base CX0 k fa fd [x] (spD K lawS)) (hbd : ∀ (s : Shared) (u : Value), BindsTo s fd ⟨[u], []⟩ [(x, u)]) :
    codeAny (model P w) callerA (.call (.ref fa) ⟨[.ref a], []⟩) (fun r s' => r = .ok (.ret (.bool true)) ∧ OldK s.heap s'.heap ∧ s'.os = s.os ∧ AllBare s'.gens) s := by
  have rv := vals_ints hi
  have lv := hi.length
  have hz : (ns.map V.int).length ≤ sizeLine := by rw [List.length_map]; exact Nat.le_trans hl (by decide)
  cases hk : K.lookup a with
  | some o =>
    have e := KX a o hk
    rw [ha] at e
    cases e
    refine law_from KX hns hb hbb hlim hgs hr hl ha G hbd (fun _ => none) (fun _ => .inl rfl) (.inr ⟨_, vs.toArray, _, hk, rfl, rfl, rfl, ?_, by simpa using rv⟩) (fun _ _ z => nomatch z) fun b z => absurd rfl z
    rw [List.size_toArray, lv]
    exact Nat.le_trans hl (by decide)
  | none =>
    have at_ : ∀ {b : Addr} {u : HO}, (if b = a then some (HO.frz { cls := .type "list", data := .seq vs.toArray } (.lst (ns.map V.int))) else none) = some u → b = a ∧ u = HO.frz { cls := .type "list", data := .seq vs.toArray } (.lst (ns.map V.int)) := fun {b u} z => by
      split at z
      · exact ⟨‹_›, (Option.some.inj z).symm⟩
      · cases z
    refine law_from KX hns hb hbb hlim hgs hr hl ha G hbd (fun b => if b = a then some (.frz { cls := .type "list", data := .seq vs.toArray } (.lst (ns.map V.int))) else none) (fun b => ?_) (.inl (.inr ⟨_, if_pos rfl⟩)) (fun b u z => ?_) fun b z => ?_
    · by_cases q : b = a
      · exact .inr ⟨_, _, if_pos q⟩
      · exact .inl (if_neg q)
    · obtain ⟨rfl, rfl⟩ := at_ z
      exact ⟨ha, hz, vs, _, rv, ha⟩
    · refine ⟨?_, hk⟩
      by_cases q : b = a
      · exact q
      · exact absurd (if_neg q) z
end
/-- the goal that k_head leaves, from the law's promise over data -/
theorem walk_G {l : PySem.W.OpenLaw} {k : Nat} {q : Program} {loose : List Str} {XP : (Str → Option Value) → Heap → Prop} {YP : World → Heap → Prop} {d : DefRec} {K : Params → PySem.W.Frag} {x : Str} (hn : l.most = some 63) (hdf : d.params.defaults = []) (hr : Room k callerA)
    (hY : ∀ (w : World) (h : Heap), YP w h → (K w.params).In h)
    (F : ∀ (w : World) (mg : Str → Option Value) (fa : Addr) (h : Heap), (K w.params).In h → h.Ns mainGlobals mg → mg d.name = some (.ref fa) → ∃ fd : FuncData, (∀ (s : Shared) (u : Value), BindsTo s fd ⟨[u], []⟩ [(x, u)]) ∧
      ∀ base : Heap, (K w.params).In base → base.Ns mainGlobals mg → FnG l.prog w (K w.params) mg base CX0 k fa fd [x] (spD (K w.params) lawS)) :
    PySem.W.WalkO q loose XP YP l.row.toRowW d [] (fun f vs => PySem.call f vs) := by
  refine Att.attach_call hn hdf fun w s₀ s₁ mg mb fa o pm cd doc a vs ns G Y ho hd hcd hmg hobj hints hlen hg => ?_
  have kin := hY w _ Y
  obtain ⟨fd, hb, hF⟩ := F w mg fa _ kin G.T.g hmg
  exact law_callG kin G.T.g G.T.b G.T.builtins G.T.nolimit hg hr hlen hints hobj hF hb
end DL

/-! DL, part q: short names for terms; the minus; lists of ranges; loops by an invariant. -/
namespace DL
open PySem L2

abbrev dAbs (t : TDs) : TW := dCall (gU fun i => .int (if i < 0 then -i else i)) t
abbrev dInt (t : TDs) : TW := dCall (gU fun i => .int i) t
abbrev dSum (t : TDs) : TW := dCall (gNs fun ns P => P (.fz (.int ns.sum))) t
abbrev dMax1 (t : TDs) : TW := dCall (gNs fun ns P => 0 < ns.length ∧ ∀ m, m ∈ ns → (∀ y, y ∈ ns → y ≤ m) → P (.fz (.int m))) t
abbrev dMin1 (t : TDs) : TW := dCall (gNs fun ns P => 0 < ns.length ∧ ∀ m, m ∈ ns → (∀ y, y ∈ ns → m ≤ y) → P (.fz (.int m))) t
abbrev dMax2 (t : TDs) : TW := dCall (gB fun i j => .int (if j > i then j else i)) t
abbrev dMin2 (t : TDs) : TW := dCall (gB fun i j => .int (if j < i then j else i)) t
abbrev dSorted (t : TDs) : TW := dCall (gNs fun ns P => ∀ ns' : List Int, ns'.Perm ns → ns'.Pairwise (· ≤ ·) → P (.own ((ns'.map PyData.int).map .fz))) t
abbrev dTuple (t : TDs) : TW := dCall gTuple t
abbrev dList (t : TDs) : TW := dCall gList t
abbrev dRepr (t : TDs) : TW := dCall gRepr t
abbrev dIs (ta tb : TB) : TW := dOp2 (gIsN false) ta tb
abbrev dIsNot (ta tb : TB) : TW := dOp2 (gIsN true) ta tb
section
variable {X : Cx} {e a b c : Expr} {pos p : Pos} {ta tb : TB}
def dNeg (t : TB) : TW := fun env Q => t env fun d => match d with
  | .int i => Q (.fz (.int (-i)))
  | _ => False
theorem dw_neg (ha : DB X a ta) : DW X (.UnaryOp .USub a pos) (dNeg ta) := by
  refine pe_mono (pe_un un_neg ha) fun σ H Q ⟨env, F, ow, dm, P, S, q, k⟩ => ⟨env, F, ow, dm, _, S, q, fun d hd v F1 H1 x r => ?_⟩
  split at hd
  · cases r.int_inv
    exact ⟨_, rfl, got_here x.fh x.dl (.int _) (got_of x (k _ hd))⟩
  · exact hd.elim
theorem dp_rg {K : PySem.W.Frag} {F : Hp} (i j : Int) : DpAll K F (rgV i j) (items2 i (j - i).toNat) := by
  have e1 : rgV i j = ((List.range (j - i).toNat).map fun (k : Nat) => i + (k : Int)).map V.int := by unfold rgV; rw [List.map_map]; rfl
  have e2 : items2 i (j - i).toNat = ((List.range (j - i).toNat).map fun (k : Nat) => i + (k : Int)).map PyData.int := by unfold items2; rw [List.map_map]; rfl
  rw [e1, e2]
  exact dpAll_of_ints _
def dRg1 (g : Int → Int → (W → Prop) → Prop) (ta : TB) : TW := fun env Q => ta env fun d => match d with
  | .int j => RgOk 0 j ∧ g 0 j Q
  | _ => False
def dRg2 (g : Int → Int → (W → Prop) → Prop) (ta tb : TB) : TW := fun env Q => ta env fun d => tb env fun d' => match d, d' with
  | .int i, .int j => RgOk i j ∧ g i j Q
  | _, _ => False
abbrev gLrg : Int → Int → (W → Prop) → Prop := fun i j Q => Q (.own ((items2 i (j - i).toNat).map .fz))
abbrev gTrg : Int → Int → (W → Prop) → Prop := fun i j Q => Q (.fz (.tuple (items2 i (j - i).toNat)))
abbrev dListRange1 (ta : TB) : TW := dRg1 gLrg ta
abbrev dListRange2 (ta tb : TB) : TW := dRg2 gLrg ta tb
abbrev dTupleRange1 (ta : TB) : TW := dRg1 gTrg ta
abbrev dTupleRange2 (ta tb : TB) : TW := dRg2 gTrg ta tb
theorem dw_listRange1 {q pos2 : Pos} (hl : X.mg "list" = none) (hm : X.mg "range" = none) (ha : DB X a ta) (hc : X.calm = true := by rfl) (hg : Gl X "list" := by rfl) (hg2 : Gl X "range" := by rfl)
    (n1 : starEach [.Call (.Name "range" q) [a] [] pos] X.env = (false, eval (.Call (.Name "range" q) [a] [] pos) X.env) :: starEach [] X.env := by rfl) (n2 : starEach [a] X.env = (false, eval a X.env) :: starEach [] X.env := by rfl) :
    DW X (.Call (.Name "list" p) [.Call (.Name "range" q) [a] [] pos] [] pos2) (dListRange1 ta) := by
  refine pe_mono (pe_listRg hc hg hl (prg_1 hg2 hm ha n2) n1) fun σ H Q ⟨env, F, ow, dm, P, S, q, k⟩ => ⟨env, F, ow, dm, _, S, q, fun d hd v F1 H1 x r => ?_⟩
  split at hd
  · cases r.int_inv
    exact ⟨_, rfl, hd.1, fun q hq => got_lst0 x.fh x.dl (dp_rg _ _) (got_of x (k _ hd.2)) hq⟩
  · exact hd.elim
end
/-! ### loops by an invariant -/
theorem loopD_ind {g : TGd} {tb : TSd} {E : EndsD} (I : Nat → Env → Prop) {ds : List D} {env : Env} (h0 : I 0 env)
    (step : ∀ i d env (N : Env → Prop), ds[i]? = some d → I i env → (∀ e, I (i + 1) e → N e) → g d env fun env1 => tb { E with nx := N, ct := N, bk := E.nx } env1) (fin : ∀ env, I ds.length env → E.nx env) : loopD g tb ds E env := by
  have key : ∀ (n i : Nat) (env : Env), i + n = ds.length → I i env → loopD g tb (ds.drop i) E env := by
    intro n
    induction n with
    | zero =>
      intro i env e h
      have : i = ds.length := by omega
      subst this
      rw [List.drop_length]
      exact fin env h
    | succ n ih =>
      intro i env e h
      have hlt : i < ds.length := by omega
      rw [List.drop_eq_getElem_cons hlt]
      exact step i _ env _ (List.getElem?_eq_getElem hlt) h fun e' h' => ih (i + 1) e' (by omega) h'
  have := key ds.length 0 env (by omega) h0
  rwa [List.drop_zero] at this
theorem compW_ind {g : TGd} {tq : TQ} {tw : TW} {env : Env} {Q : W → Prop} (I : Nat → List W → Prop) {ds : List D} {acc : List W} (h0 : I 0 acc)
    (step : ∀ i d acc (N : List W → Prop), ds[i]? = some d → I i acc → (∀ a, I (i + 1) a → N a) → g d env fun env2 => tq env2 fun b => if b = true then tw env2 fun w => N (acc ++ [w]) else N acc) (fin : ∀ acc, I ds.length acc → Q (.own acc)) :
    compW env g tq tw ds acc Q := by
  have key : ∀ (n i : Nat) (acc : List W), i + n = ds.length → I i acc → compW env g tq tw (ds.drop i) acc Q := by
    intro n
    induction n with
    | zero =>
      intro i acc e h
      have : i = ds.length := by omega
      subst this
      rw [List.drop_length]
      exact fin acc h
    | succ n ih =>
      intro i acc e h
      have hlt : i < ds.length := by omega
      rw [List.drop_eq_getElem_cons hlt]
      exact step i _ acc (fun a => compW env g tq tw (ds.drop (i + 1)) a Q) (List.getElem?_eq_getElem hlt) h fun a h' => ih (i + 1) a (by omega) h'
  have := key ds.length 0 acc (by omega) h0
  rwa [List.drop_zero] at this
theorem compW_map {g : TGd} {tq : TQ} {tw : TW} {env : Env} {Q : W → Prop} (f : D → W) {ds : List D} {acc : List W}
    (h : ∀ d, d ∈ ds → ∀ (N : W → Prop) (M : Prop), N (f d) → g d env fun env2 => tq env2 fun b => if b = true then tw env2 N else M) (q : Q (.own (acc ++ ds.map f))) : compW env g tq tw ds acc Q := by
  refine compW_ind (fun i a => a = acc ++ (ds.take i).map f) (by simp) (fun i d a N hd ha hN => ?_) (fun a ha => by rw [ha, List.take_length]; exact q)
  have hm := List.mem_of_getElem? hd
  refine h d hm (fun w => N (a ++ [w])) _ (hN _ ?_)
  rw [ha, List.take_add_one, hd]
  simp
theorem compW_filter {g : TGd} {tq : TQ} {tw : TW} {env : Env} {Q : W → Prop} (p : D → Bool) (f : D → W) {ds : List D} {acc : List W}
    (h : ∀ d, d ∈ ds → ∀ (N : W → Prop) (M : Prop), (p d = true → N (f d)) → (p d = false → M) → g d env fun env2 => tq env2 fun b => if b = true then tw env2 N else M) (q : Q (.own (acc ++ (ds.filter p).map f))) : compW env g tq tw ds acc Q := by
  refine compW_ind (fun i a => a = acc ++ ((ds.take i).filter p).map f) (by simp) (fun i d a N hd ha hN => ?_) (fun a ha => by rw [ha, List.take_length]; exact q)
  have hm := List.mem_of_getElem? hd
  refine h d hm (fun w => N (a ++ [w])) _ (fun hp => hN _ ?_) (fun hp => hN _ ?_)
  · rw [ha, List.take_add_one, hd]
    simp [hp]
  · rw [ha, List.take_add_one, hd]
    simp [hp]
/-- .. where what is made is told by a relation -/
theorem compW_rel {g : TGd} {tq : TQ} {tw : TW} {env : Env} {Q : W → Prop} (R : D → W → Prop) {ds : List D} {acc : List W}
    (h : ∀ d, d ∈ ds → ∀ (N : W → Prop) (M : Prop), (∀ w, R d w → N w) → g d env fun env2 => tq env2 fun b => if b = true then tw env2 N else M) (q : ∀ ws, ws.length = ds.length → (∀ (i : Nat) (d : D) (w : W), ds[i]? = some d → ws[i]? = some w → R d w) → Q (.own (acc ++ ws))) : compW env g tq tw ds acc Q := by
  refine compW_ind (fun i a => ∃ ws, a = acc ++ ws ∧ ws.length = min i ds.length ∧ ∀ (j : Nat) (d : D) (w : W), ds[j]? = some d → ws[j]? = some w → R d w) ⟨[], by simp, by simp, fun _ _ _ _ h => by simp at h⟩ (fun i d a N hd ha hN => ?_) (fun a ha => ?_)
  · obtain ⟨ws, rfl, hl, hr⟩ := ha
    have hlt : i < ds.length := (List.getElem?_eq_some_iff.mp hd).1
    have hl' : ws.length = i := by omega
    refine h d (List.mem_of_getElem? hd) (fun w => N (acc ++ ws ++ [w])) _ fun w hw => hN _ ⟨ws ++ [w], by simp, by simp; omega, fun j d' w' h1 h2 => ?_⟩
    rcases Nat.lt_trichotomy j ws.length with hj | hj | hj
    · rw [List.getElem?_append_left hj] at h2
      exact hr j d' w' h1 h2
    · rw [hj, List.getElem?_append_right (Nat.le_refl _), Nat.sub_self] at h2
      rw [hj, hl', hd] at h1
      cases h1; cases h2
      exact hw
    · rw [List.getElem?_eq_none (by simp; omega)] at h2
      cases h2
  · obtain ⟨ws, rfl, hl, hr⟩ := ha
    exact q ws (by omega) hr
theorem W.datas_fz (ds : List D) : W.datas (ds.map .fz) = ds := by
  induction ds with
  | nil => rfl
  | cons d ds ih => simp [W.datas, W.data, ih]
theorem W.plains_fz (ds : List D) : W.plains (ds.map .fz) = true := by
  induction ds with
  | nil => rfl
  | cons d ds ih => simp [W.plains, W.plain, ih]
theorem W.flat_fz (ds : List D) : W.flat (ds.map .fz) = some ds := by
  induction ds with
  | nil => rfl
  | cons d ds ih => simp [W.flat, ih]
theorem W.datas_fm {α : Type} (f : α → D) (xs : List α) : W.datas (xs.map fun x => .fz (f x)) = xs.map f := by
  induction xs with
  | nil => rfl
  | cons d ds ih => simp [W.datas, W.data, ih]
theorem W.plains_fm {α : Type} (f : α → D) (xs : List α) : W.plains (xs.map fun x => .fz (f x)) = true := by
  induction xs with
  | nil => rfl
  | cons d ds ih => simp [W.plains, W.plain, ih]
theorem W.flat_fm {α : Type} (f : α → D) (xs : List α) : W.flat (xs.map fun x => .fz (f x)) = some (xs.map f) := by
  induction xs with
  | nil => rfl
  | cons d ds ih => simp [W.flat, ih]
end DL

/-! DL, part r: how long a repr is. -/
namespace DL
open PySem L2
mutual
/-- at least the repr's length, where every int has at most k digits -/
def rz (k : Nat) : PyData → Nat
  | .none => 4
  | .bool _ => 5
  | .int _ => k + 1
  | .str x => 10 * x.length + 2
  | .list xs => rzs k xs + 2
  | .tuple xs => rzs k xs + 3
  | .dict _ => 0
def rzs (k : Nat) : List PyData → Nat
  | [] => 0
  | x :: xs => rz k x + 2 + rzs k xs
end
mutual
def rok (k : Nat) : PyData → Bool
  | .none => true
  | .bool _ => true
  | .int i => decide (i.natAbs < 10 ^ k)
  | .str x => x.cps.toList.all fun c => decide (c < 16 ^ 8)
  | .list xs => roks k xs
  | .tuple xs => roks k xs
  | .dict _ => false
def roks (k : Nat) : List PyData → Bool
  | [] => true
  | x :: xs => rok k x && roks k xs
end
theorem tupleText_le (ts : List Str) : (tupleText ts).length ≤ piled ts + 3 := by
  unfold tupleText
  rw [strLen_append, strLen_append]
  have e1 : ((("(" : String) : Str)).length = 1 := rfl
  have e3 : (((if ts.length == 1 then ",)" else ")" : String) : Str)).length ≤ 2 := by split <;> decide
  rw [e1]
  by_cases h : ts = []
  · subst h
    have : (Str.join ", " []).length = 0 := rfl
    omega
  · have := join_length_add ts h
    omega
theorem listText_le (ts : List Str) : (listText ts).length ≤ piled ts + 2 := by
  cases ts with
  | nil => exact Nat.le_of_eq rfl
  | cons t r =>
    have h := textFrom_length_pos r 1 (("[" : Str) ++ (if (0 : Nat) > 0 then ", " else "" : String) ++ t) (Nat.succ_pos 0)
    have e : ((("[" : Str) ++ (if (0 : Nat) > 0 then ", " else "" : String) ++ t)).length = 1 + t.length := by
      rw [strLen_append, strLen_append]; rfl
    have hX : (listText (t :: r)).length = (textFrom 1 (("[" : Str) ++ (if (0 : Nat) > 0 then ", " else "" : String) ++ t) r).length + 1 := by
      show ((textFrom 0 "[" (t :: r)) ++ "]").length = _
      rw [strLen_append]; rfl
    rw [hX, h, e, piled_cons]; omega
mutual
theorem shown_le {k : Nat} (hk : 0 < k) : ∀ d : PyData, rok k d = true → d.shown.length ≤ rz k d
  | .none, _ => by simp only [PyData.shown, rz]; decide
  | .bool b, _ => by cases b <;> (simp only [PyData.shown, rz]; decide)
  | .int i, h => by
    simp only [rok, decide_eq_true_eq] at h
    have e := int_text_length_le10 hk h
    simp only [PyData.shown, rz]
    show (Str.ofString (toString i)).length ≤ _
    rw [ofString_length]
    exact e
  | .str x, h => by
    simp only [rok, List.all_eq_true, decide_eq_true_eq] at h
    simp only [PyData.shown, rz]
    exact PySem.StrLaws.reprText_len x h
  | .list xs, h => by
    simp only [rok] at h
    simp only [PyData.shown, rz]
    exact Nat.le_trans (listText_le _) (Nat.add_le_add_right (showns_le hk xs h) 2)
  | .tuple xs, h => by
    simp only [rok] at h
    simp only [PyData.shown, rz]
    exact Nat.le_trans (tupleText_le _) (Nat.add_le_add_right (showns_le hk xs h) 3)
  | .dict _, h => by simp [rok] at h
theorem showns_le {k : Nat} (hk : 0 < k) : ∀ ds : List PyData, roks k ds = true → piled (PyData.shownAll ds) ≤ rzs k ds
  | [], _ => by simp only [PyData.shownAll, rzs]; exact Nat.le_of_eq rfl
  | d :: ds, h => by
    simp only [roks, Bool.and_eq_true] at h
    simp only [PyData.shownAll, rzs, piled_cons]
    have := shown_le hk d h.1
    have := showns_le hk ds h.2
    omega
end
mutual
theorem rok_dict {k : Nat} : ∀ d : PyData, rok k d = true → d.hasDict = false
  | .none, _ => by simp only [PyData.hasDict]
  | .bool _, _ => by simp only [PyData.hasDict]
  | .int _, _ => by simp only [PyData.hasDict]
  | .str _, _ => by simp only [PyData.hasDict]
  | .list xs, h => by simp only [rok] at h; simp only [PyData.hasDict]; exact roks_dict xs h
  | .tuple xs, h => by simp only [rok] at h; simp only [PyData.hasDict]; exact roks_dict xs h
  | .dict _, h => by simp [rok] at h
theorem roks_dict {k : Nat} : ∀ ds : List PyData, roks k ds = true → PyData.hasDictAll ds = false
  | [], _ => by simp only [PyData.hasDictAll]
  | d :: ds, h => by
    simp only [roks, Bool.and_eq_true] at h
    simp only [PyData.hasDictAll, rok_dict d h.1, roks_dict ds h.2, Bool.or_self]
end
theorem log_lt {n k : Nat} (h : n < 10 ^ k) (hk : k ≤ 500) : n.log2 < 1920 := by
  by_cases h0 : n = 0
  · subst h0; decide
  · refine (Nat.log2_lt h0).mpr (Nat.lt_of_lt_of_le h ?_)
    refine Nat.le_trans (Nat.pow_le_pow_right (by decide) hk) ?_
    decide +kernel
mutual
theorem rok_show {k : Nat} (hk : k ≤ 500) : ∀ d : PyData, rok k d = true → d.showable = true
  | .none, _ => by simp only [PyData.showable]
  | .bool _, _ => by simp only [PyData.showable]
  | .int i, h => by
    simp only [rok, decide_eq_true_eq] at h
    simp only [PyData.showable, decide_eq_true_eq]
    exact log_lt h hk
  | .str _, _ => by simp only [PyData.showable]
  | .list xs, h => by simp only [rok] at h; simp only [PyData.showable]; exact roks_show hk xs h
  | .tuple xs, h => by simp only [rok] at h; simp only [PyData.showable]; exact roks_show hk xs h
  | .dict _, h => by simp [rok] at h
theorem roks_show {k : Nat} (hk : k ≤ 500) : ∀ ds : List PyData, roks k ds = true → PyData.showableAll ds = true
  | [], _ => by simp only [PyData.showableAll]
  | d :: ds, h => by
    simp only [roks, Bool.and_eq_true] at h
    simp only [PyData.showableAll, rok_show hk d h.1, roks_show hk ds h.2, Bool.and_self]
end
theorem repr_ok {d : PyData} {k : Nat} (h : rok k d = true) (hz : rz k d ≤ sizeLine) (hd : d.depth ≤ 40) (h0 : 0 < k := by decide) (hk : k ≤ 500 := by decide) : d.showable = true ∧ d.hasDict = false ∧ d.shown.length ≤ sizeLine ∧ d.depth ≤ 40 :=
  ⟨rok_show hk d h, rok_dict d h, Nat.le_trans (shown_le h0 d h) hz, hd⟩
/-- of lists -/
theorem roks_map {α : Type} {k : Nat} {f : α → PyData} {xs : List α} (h : ∀ x ∈ xs, rok k (f x) = true) : roks k (xs.map f) = true := by
  induction xs with
  | nil => simp [roks]
  | cons x xs ih => simp [roks, h x (by simp), ih fun y hy => h y (by simp [hy])]
theorem rzs_map {α : Type} {k m : Nat} {f : α → PyData} {xs : List α} (h : ∀ x ∈ xs, rz k (f x) ≤ m) : rzs k (xs.map f) ≤ xs.length * (m + 2) := by
  induction xs with
  | nil => simp [rzs]
  | cons x xs ih =>
    have h1 := h x (by simp)
    have h2 := ih fun y hy => h y (by simp [hy])
    simp only [List.map_cons, rzs, List.length_cons, Nat.add_mul, Nat.one_mul]
    omega
theorem depths_map {α : Type} {m : Nat} {f : α → PyData} {xs : List α} (h : ∀ x ∈ xs, (f x).depth ≤ m) : PyData.depthAll (xs.map f) ≤ m := by
  induction xs with
  | nil => simp [PyData.depthAll]
  | cons x xs ih =>
    have h1 := h x (by simp)
    have h2 := ih fun y hy => h y (by simp [hy])
    simp only [List.map_cons, PyData.depthAll]
    omega
theorem lays_map {α : Type} {f : α → PyData} {xs : List α} (h : ∀ x ∈ xs, (f x).canLay0 = true) : PyData.canLayAll0 (xs.map f) = true := by
  induction xs with
  | nil => simp [PyData.canLayAll0]
  | cons x xs ih => simp [PyData.canLayAll0, h x (by simp), ih fun y hy => h y (by simp [hy])]
mutual
theorem eqv_refl : ∀ d : PyData, d.canLay0 = true → PyData.eqv d d = true
  | .none, _ => by simp [PyData.eqv]
  | .bool b, _ => by simp [PyData.eqv]
  | .int i, _ => by simp [PyData.eqv]
  | .str x, _ => by simp [PyData.eqv]
  | .list xs, h => by simp only [PyData.canLay0] at h; simp only [PyData.eqv]; exact eqvs_refl xs h
  | .tuple xs, h => by simp only [PyData.canLay0] at h; simp only [PyData.eqv]; exact eqvs_refl xs h
  | .dict _, h => by simp [PyData.canLay0] at h
theorem eqvs_refl : ∀ ds : List PyData, PyData.canLayAll0 ds = true → PyData.eqvAll ds ds = true
  | [], _ => by simp [PyData.eqvAll]
  | d :: ds, h => by
    simp only [PyData.canLayAll0, Bool.and_eq_true] at h
    simp only [PyData.eqvAll, eqv_refl d h.1, eqvs_refl ds h.2, Bool.and_self]
end
theorem dWhile_ind {c : TQ} {tb : TSd} {E : EndsD} {env : Env} (I : Nat → Env → Prop) {m : Nat} (h0 : I m env)
    (step : ∀ (m : Nat) (env : Env) (N : Env → Prop), I m env → (∀ (m' : Nat) (e' : Env), m' < m → I m' e' → N e') → c env fun b => if b = true then tb { E with nx := N, ct := N, bk := E.nx } env else E.nx env) : dWhile c tb E env :=
  ⟨I, ⟨m, h0⟩, fun m env h => step m env _ h fun m' e' h1 h2 => ⟨m', h1, h2⟩⟩
end DL

/-! DL, part s: isinstance; all, any; x in data of any depth; step ranges; lists within lists changed; found.append(left.pop(k)). -/
namespace DL
open PySem L2

/-! ### a cell of a slot changed -/
section
variable {K : PySem.W.Frag} {A : Anc} {env : Env} {σ : St} {F H F' H' : Hp} {ow : Addr → Option Nat} {dm : DM}
theorem SA.mutC (S : SA K A env σ F H ow dm) {i : Nat} {w : W} {v : V} {fp0 : List Addr} (e : env[i]? = some (some w)) (h1 : σ[i]? = some (some v)) (h2 : WR K dm F H w v fp0) (h4 : ∀ b ∈ fp0, ow b = some i) {c : Addr} (hc : c ∈ fp0)
    {w' : W} {fp' : List Addr} {o : HO} (x : Ext dm F H F' H') (r : WR K dm F' (upd H' c o) w' v fp') (nd : fp'.Nodup) (fr : ∀ b ∈ fp', b ∈ fp0 ∨ H b = none) :
    SA K A (env.set i (some w')) σ F' (upd H' c o) (fun b => if b ∈ fp' then some i else ow b) dm := by
  have oa : ow c = some i := h4 c hc
  have nMa := S.x.notM oa
  have S' := S.ext x
  have Fa : F' c = none := x.nw c (h2.there c hc).2 (h2.there c hc).1
  have Aa : A.H c = none := S.own c i oa
  have hs : Same F' (upd H' c o) := fun b u hb => by rw [upd_ne (ne_of_none hb Fa)]; exact x.fh b u hb
  have hdl : ∀ p, dm = some p → DealAt F' (upd H' c o) p.1 p.2 := fun p hp => by
    have q := x.dl p hp
    have n1 : p.1 ≠ c := fun z => nMa ⟨p, hp, .inl z.symm⟩
    have n2 : p.2 ≠ c := fun z => nMa ⟨p, hp, .inr z.symm⟩
    exact ⟨q.fa, q.fb, by rw [upd_ne n1, upd_ne n2]; exact q.ex⟩
  refine ⟨⟨hs, by rw [List.length_set]; exact S.x.len, fun j u hu => ?_, hdl, fun p hp => ?_⟩, ⟨S'.anc.ff, fun b u h m => ?_, S'.anc.nw, hs, fun p hp => ?_⟩, S'.pin, fun b j h => ?_, fun b j h => ?_, S.dmf⟩
  · by_cases ej : i = j
    · subst ej
      have hi : i < env.length := by
        rcases Nat.lt_or_ge i env.length with h | h
        · exact h
        · rw [List.getElem?_eq_none h] at e; cases e
      rw [List.getElem?_set_self hi] at hu
      cases hu
      exact ⟨v, fp', h1, r, nd, fun b hb => if_pos hb⟩
    · rw [List.getElem?_set_ne ej] at hu
      obtain ⟨z, fq, k1, k2, k3, k4⟩ := S.x.sl j u hu
      have na : ∀ b ∈ fq, b ≠ c := fun b hb z => by
        have := k4 b hb
        rw [z, oa] at this
        exact ej (Option.some.inj this)
      have k2' := wext x k2 fun b hb => S.x.notM (k4 b hb)
      refine ⟨z, fq, k1, k2'.mono (Same.refl F') fun b hb => ⟨upd_ne (na b hb), (k2'.there b hb).2⟩, k3, fun b hb => ?_⟩
      show (if b ∈ fp' then some i else ow b) = some j
      have nb : b ∉ fp' := fun z => by
        rcases fr b z with q | q
        · have q1 := h4 b q
          rw [k4 b hb] at q1
          exact ej (Option.some.inj q1).symm
        · exact (k2.there b hb).1 q
      rw [if_neg nb]
      exact k4 b hb
  · have d := S.x.dl p hp
    have nn : ∀ b, isM dm b → H b ≠ none → b ∉ fp' := fun b hm hb z => by
      rcases fr b z with q | q
      · exact S.x.notM (h4 b q) hm
      · exact hb q
    show (if p.1 ∈ fp' then some i else ow p.1) = none ∧ (if p.2 ∈ fp' then some i else ow p.2) = none
    rw [if_neg (nn _ ⟨p, hp, .inl rfl⟩ d.here.1), if_neg (nn _ ⟨p, hp, .inr rfl⟩ d.here.2)]
    exact S.x.dow p hp
  · have nb : b ≠ c := fun z => by rw [z, Aa] at h; cases h
    rw [upd_ne nb]
    exact S'.anc.hh b u h m
  · have hp' : dm = some p := by
      rcases S.dmf with q | ⟨q, _⟩
      · rw [← q]; exact hp
      · rw [q] at hp; cases hp
    exact hdl p hp'
  · by_cases hb : b ∈ fp'
    · rcases fr b hb with q | q
      · exact S.own b i (h4 b q)
      · exact S.fresh q
    · have h' : (if b ∈ fp' then some i else ow b) = some j := h
      rw [if_neg hb] at h'
      exact S.own b j h'
  · by_cases hb : b ∈ fp'
    · exact (r.there b hb).1
    · have h' : (if b ∈ fp' then some i else ow b) = some j := h
      rw [if_neg hb] at h'
      by_cases ec : b = c
      · rw [ec, upd_same]; simp
      · rw [upd_ne ec]; exact x.dom (S.owh b j h')
end

/-! ### isinstance -/
def tyD : D → String
  | .none => "NoneType"
  | .bool _ => "bool"
  | .int _ => "int"
  | .str _ => "str"
  | .list _ => "list"
  | .tuple _ => "tuple"
  | .dict _ => "dict"
def isiD (n : String) (d : D) : Bool := (kitB (tyD d) n).getD false
def isiOk (n : String) : Bool := ["NoneType", "bool", "int", "str", "list", "tuple", "dict"].all fun t => (kitB t n).isSome
theorem isi_some {n : String} (h : isiOk n = true) (d : D) : kitB (tyD d) n = some (isiD n d) := by
  have h1 := List.all_eq_true.mp h
  have h2 : (kitB (tyD d) n).isSome = true := h1 _ (by cases d <;> simp [tyD])
  unfold isiD
  cases q : kitB (tyD d) n with
  | none => rw [q] at h2; cases h2
  | some b => rfl
theorem tyx_of {K : PySem.W.Frag} {F H : Hp} (hs : Same F H) {v : V} {d : D} (r : Dp K F v d) : TyX K H v (.type (tyD d)) := by
  cases r with
  | non => exact .base .non
  | bl => exact .base (.bl _)
  | int => exact .base (.int _)
  | str => exact .base (.str _)
  | lst h1 h2 => exact .base (.lst (hs _ _ h1))
  | tup h1 h2 =>
    rcases h1 with ⟨o, h1, _⟩ | ⟨o, its, n, h1, h3, _⟩
    · exact .fTuple (hs _ _ h1)
    · exact .kTuple h1 h3
section
variable {X : Cx} {e : Expr} {p q pos : Pos}
def dIsi (n : String) (t : TB) : TW := fun env Q => t env fun d => Q (.fz (.bool (isiD n d)))
theorem dw_isi {t : TB} {T : Str} (n : String) (hm : X.mg "isinstance" = none) (hT : X.mg T = none) (h : DB X e t) (hv : bootBuiltins T = some (.type n)) (hn : isiOk n = true) (hg : Gl X "isinstance" := by rfl) (hgT : Gl X T := by rfl)
    (hT1 : T ≠ "__name__" := by decide) (hT2 : (T == ("__debug__" : Str)) = false := by decide) (he : starEach [e, .Name T q] X.env = (false, eval e X.env) :: starEach [.Name T q] X.env := by rfl) (he2 : starEach [.Name T q] X.env = (false, eval (.Name T q) X.env) :: starEach [] X.env := by rfl)
    (hpl : (backTo pos (starEach [.Name T q] X.env)).any (·.1) = false := by rfl) : DW X (.Call (.Name "isinstance" p) [e, .Name T q] [] pos) (dIsi n t) := by
  have h1 : PE X (.Name T q) (tC (.ty n)) := pe_bltn hgT hT hv rfl hT1 hT2
  refine pe_mono (pe_callB call_isi hg hm PyProof.Rows.boot_isinstance (pa_cons h (pa_cons h1 pa_nil he2) he) (by decide) (by decide) he hpl) fun σ H Q ⟨env, F, ow, dm, P, S, q, k⟩ => ?_
  refine ⟨env, F, ow, dm, _, S, q, fun d hd v F1 H1 x r => ?_⟩
  have ty : TyX X.K H1 v (.type (tyD d)) := by
    rcases r with r | ⟨a, vs, ds, rfl, rfl, h3, h4, h5⟩
    · exact tyx_of x.fh r
    · exact .base (.lst h3)
  exact ⟨v, .ty n, _, _, _, rfl, .ty n, ty, kit_ty (isi_some hn d), got_here x.fh x.dl (.bl _) (got_of x (k _ hd))⟩
end
end DL

/-! DL, part t: found.append(left.pop(k)); x[k].append(e); all, any, index, deep in; step ranges. -/
namespace DL
open PySem L2

theorem wrs_fz_inv {K : PySem.W.Frag} {dm : DM} {F H : Hp} : ∀ {ds : List D} {vs : List V} {fp : List Addr}, WRs K dm F H (ds.map .fz) vs fp → fp = [] ∧ DpAll K F vs ds
  | [], _, _, .nil => ⟨rfl, .nil⟩
  | d :: ds, _, _, .cons h r => by
    obtain ⟨rfl, h2⟩ := wrs_fz_inv (ds := ds) r
    cases h with
    | fz h => exact ⟨rfl, .cons h h2⟩
theorem dpAll_erase {K : PySem.W.Frag} {F : Hp} : ∀ {vs : List V} {ds : List D} (k : Nat), DpAll K F vs ds → DpAll K F (vs.eraseIdx k) (ds.eraseIdx k)
  | _, _, _, .nil => by simp; exact .nil
  | _, _, 0, .cons h r => by simpa using r
  | _, _, k + 1, .cons h r => by
    rw [List.eraseIdx_cons_succ, List.eraseIdx_cons_succ]
    exact .cons h (dpAll_erase k r)
section
variable {X : Cx} {e a b c o : Expr} {pos apos cpos p : Pos} {x : Str}
/-- found.append(left.pop(k)): left of plain data -/
def dAppPop (i j : Nat) (tk : TB) : TSd := fun E env => match env[i]?, env[j]? with
  | some (some (.own ws)), some (some (.own us)) => i ≠ j ∧ ws.length < sizeLine ∧ ∃ ds : List D, us = ds.map .fz ∧ tk env fun d => match d with
    | .int n => ∃ k y, ixN ds.length n = some k ∧ (-(2 ^ 63) ≤ n ∧ n < 2 ^ 63) ∧ ds[k]? = some y ∧ E.nx ((env.set j (some (.own ((ds.eraseIdx k).map .fz)))).set i (some (.own (ws ++ [.fz y]))))
    | _ => False
  | _, _ => False
theorem ds_appPop (i j : Nat) {tk : TB} (h : PE X e (tBM X.K "list" rAppend (tVar i) (tCons (tBM X.K "list" rPopAt (tVar j) (lDs X.K (aCons tk aNil))) tNil))) (hs : swapsWith e none pos.line X.env = pure false := by rfl) : DS X (.Expr e pos) (dAppPop i j tk) := by
  intro _ _
  refine ps_mono (ps_expr h hs) fun En σ H ⟨A, E, env, F, ow, dm, S, q, k⟩ => ?_
  unfold dAppPop at q
  split at q
  · rename_i ws us ei ej
    obtain ⟨hij, hz, ds, rfl, q⟩ := q
    obtain ⟨l, vs, fp, hσ, hl, Fl, nM, r, nd, nmf, K⟩ := S.mut ei
    obtain ⟨l2, vs2, fp2, hσ2, hl2, Fl2, nM2, r2, nd2, nmf2, K2⟩ := S.mut ej
    refine ⟨.ref l, hσ, .inl ⟨rfl, _, SqL.of hl⟩, .ref l2, hσ2, .inl ⟨rfl, _, SqL.of hl2⟩, env, F, ow, dm, (fun zs => match zs with | [.int n] => ∃ k y, ixN ds.length n = some k ∧ (-(2 ^ 63) ≤ n ∧ n < 2 ^ 63) ∧ ds[k]? = some y ∧ E.nx ((env.set j (some (.own ((ds.eraseIdx k).map .fz)))).set i (some (.own (ws ++ [.fz y])))) | _ => False), S.x, ?_, fun zs hzs us1 F1 H1 x1 r1 => ?_⟩
    · show tk env fun d => _
      have e : (fun d => match d with | .int n => ∃ k y, ixN ds.length n = some k ∧ (-(2 ^ 63) ≤ n ∧ n < 2 ^ 63) ∧ ds[k]? = some y ∧ E.nx ((env.set j (some (.own ((ds.eraseIdx k).map .fz)))).set i (some (.own (ws ++ [.fz y])))) | _ => False) = fun d : D => aNil env fun ds' => (match d :: ds' with | [.int n] => ∃ k y, ixN ds.length n = some k ∧ (-(2 ^ 63) ≤ n ∧ n < 2 ^ 63) ∧ ds[k]? = some y ∧ E.nx ((env.set j (some (.own ((ds.eraseIdx k).map .fz)))).set i (some (.own (ws ++ [.fz y])))) | _ => False) := by
        funext d
        cases d <;> rfl
      rw [e] at q
      exact q
    · dsimp only at hzs
      split at hzs
      · rename_i n
        obtain ⟨kk, y, h1, h2, h3, hn⟩ := hzs
        obtain ⟨v, rfl, rv⟩ := dball1 r1
        cases rv.int_inv
        obtain ⟨rfl, da⟩ := wrs_fz_inv r2
        have hl2' : H1 l2 = some (.lst vs2) := x1.hh l2 _ hl2 nM2
        have da1 := (wrs_fz_inv (wexts x1 r2 fun _ ha => nomatch ha)).2
        have hlen : vs2.length = ds.length := dpAll_length da
        obtain ⟨yv, hy, ry⟩ := dpAll_get da1 h3
        refine ⟨l2, vs2, n, kk, yv, rfl, rfl, hl2', h2.1, h2.2, by rw [hlen]; exact (ixN_seq h1).1, hy, ?_⟩
        have S1 := K2 F1 H1 ((ds.eraseIdx kk).map .fz) (vs2.eraseIdx kk) [] x1 hl2' (wrs_fz (dpAll_erase kk da1)) (by simp) (fun _ ha => nomatch ha)
        have ei' : (env.set j (some (.own ((ds.eraseIdx kk).map .fz))))[i]? = some (some (.own ws)) := by
          rw [List.getElem?_set_ne (fun z => hij z.symm)]; exact ei
        obtain ⟨l', vs', fp', hσ', hl', Fl', nM', r', nd', nmf', K'⟩ := S1.mut ei'
        rw [hσ] at hσ'
        cases hσ'
        refine ⟨l, vs', yv, rfl, rfl, hl', by rw [wrs_length r']; exact hz, ?_⟩
        refine k.nx _ _ _ _ _ _ (K' F1 _ (ws ++ [.fz y]) (vs' ++ [yv]) fp' S1.x.refl hl' ?_ nd' fun c hc => .inl hc) hn
        have := WRs.app r' (.cons (.fz ry) .nil)
        simpa using this
      · exact hzs.elim
  · exact q.elim
theorem WRs.split {K : PySem.W.Frag} {dm : DM} {F H : Hp} : ∀ {ws : List W} {vs : List V} {fp : List Addr} {j : Nat} {w : W}, WRs K dm F H ws vs fp → ws[j]? = some w →
    ∃ ws1 ws2 vs1 v vs2 f1 fw f2, ws = ws1 ++ w :: ws2 ∧ ws1.length = j ∧ vs = vs1 ++ v :: vs2 ∧ vs1.length = j ∧ fp = f1 ++ (fw ++ f2) ∧ WRs K dm F H ws1 vs1 f1 ∧ WR K dm F H w v fw ∧ WRs K dm F H ws2 vs2 f2
  | _, _, _, _, _, .nil, h => by simp at h
  | _, _, _, 0, _, .cons (fp := fw) (fq := f2) h r, e => by
    simp at e
    subst e
    exact ⟨[], _, [], _, _, [], fw, f2, rfl, rfl, rfl, rfl, rfl, .nil, h, r⟩
  | _, _, _, j + 1, _, .cons (fp := f0) h r, e => by
    rw [List.getElem?_cons_succ] at e
    obtain ⟨ws1, ws2, vs1, v, vs2, f1, fw, f2, rfl, hl, rfl, hl2, rfl, r1, r2, r3⟩ := WRs.split r e
    exact ⟨_ :: ws1, ws2, _ :: vs1, v, vs2, f0 ++ f1, fw, f2, rfl, by simp [hl], rfl, by simp [hl2], (List.append_assoc ..).symm, .cons h r1, r2, r3⟩
/-- x[k].append(e): x a list of lists of its own -/
def dAppAt (i : Nat) (tk : TB) (tw : TW) : TSd := fun E env => match env[i]? with
  | some (some (.own ws)) => tk env fun d => match d with
    | .int n => ∃ j us, ixN ws.length n = some j ∧ ws[j]? = some (.own us) ∧ us.length < sizeLine ∧ tw env fun w => E.nx (env.set i (some (.own (ws.set j (.own (us ++ [w]))))))
    | _ => False
  | _ => False
theorem ds_appAt (i : Nat) {tk : TB} {tw : TW} (h : PE X e (tBM X.K "list" rAppend (tOp (rIxL X.K) (tVar i) (lB X.K tk)) (lWs X.K (wCons tw wNil)))) (hs : swapsWith e none pos.line X.env = pure false := by rfl) : DS X (.Expr e pos) (dAppAt i tk tw) := by
  intro _ _
  refine ps_mono (ps_expr h hs) fun En σ H ⟨A, E, env, F, ow, dm, S, q, k⟩ => ?_
  unfold dAppAt at q
  split at q
  · rename_i ws ei
    obtain ⟨v0, fp0, hσ, hw0, nd0, ow0⟩ := S.x.sl i _ ei
    cases hw0 with
    | @own a vs _ fp g1 g2 g3 =>
      refine ⟨.ref a, hσ, env, F, ow, dm, _, S.x, q, fun d hd v1 F1 H1 x1 r1 => ?_⟩
      split at hd
      · rename_i n
        obtain ⟨j, us, hj, hu, hz, hn⟩ := hd
        cases r1.int_inv
        have nMa := S.x.notM (ow0 a (List.mem_cons_self ..))
        have nMf : ∀ b ∈ fp, ¬ isM dm b := fun b hb => S.x.notM (ow0 b (List.mem_cons_of_mem _ hb))
        obtain ⟨ws1, ws2, vs1, v, vs2, f1, fw, f2, rfl, hl1, rfl, hl2, rfl, s1, s2, s3⟩ := WRs.split g3 hu
        cases s2 with
        | @own l ivs _ fi g4 g5 g6 =>
          have ha1 : H1 a = some (.lst (vs1 ++ .ref l :: vs2)) := x1.hh a _ g2 nMa
          have lm : l ∈ f1 ++ ((l :: fi) ++ f2) := by simp
          have hl1' : H1 l = some (.lst ivs) := x1.hh l _ g5 (nMf l lm)
          have hat : atI (vs1 ++ V.ref l :: vs2) n = some (V.ref l) := by
            unfold atI
            rw [wrs_length g3, hj]
            show (vs1 ++ V.ref l :: vs2)[j]? = _
            rw [← hl2]
            simp
          refine ⟨a, _, n, .ref l, rfl, rfl, .of ha1, hat, .inl ⟨rfl, _, SqL.of hl1'⟩, env, F1, ow, dm, fun ws' => match ws' with | [w] => E.nx (env.set i (some (.own ((ws1 ++ .own us :: ws2).set j (.own (us ++ [w])))))) | _ => False, S.x.ext x1, hn, fun zs hzs us1 F2 H2 fq x2 r2 nd2 fr2 => ?_⟩
          dsimp only at hzs
          split at hzs
          · rename_i w
            obtain ⟨v, rfl, rw2⟩ := wr1 r2
            have x12 := x1.trans x2
            have hl3 : H2 l = some (.lst ivs) := x12.hh l _ g5 (nMf l lm)
            refine ⟨l, ivs, v, rfl, rfl, hl3, by rw [wrs_length g6]; exact hz, ?_⟩
            have frq : ∀ b ∈ fq, H b = none := fun b hb => by
              cases q : H b with
              | none => rfl
              | some o => exact absurd (fr2 b hb) (x1.dom (by rw [q]; simp))
            have ndX : (a :: (f1 ++ ((l :: fi) ++ f2))).Nodup := nd0
            have nd' := List.nodup_cons.mp ndX
            have inH : ∀ b ∈ a :: (f1 ++ ((l :: fi) ++ f2)), H b ≠ none := fun b hb => ((WR.own g1 g2 g3).there b hb).1
            have pm : List.Perm (a :: (f1 ++ ((l :: (fi ++ fq)) ++ f2))) ((a :: (f1 ++ ((l :: fi) ++ f2))) ++ fq) := by
              have e0 : (a :: (f1 ++ ((l :: fi) ++ f2))) ++ fq = a :: (f1 ++ (((l :: fi) ++ f2) ++ fq)) := by rw [List.cons_append, List.append_assoc]
              rw [e0]
              refine List.Perm.cons a (List.Perm.append_left f1 ?_)
              have e1 : (l :: (fi ++ fq)) ++ f2 = (l :: fi) ++ (fq ++ f2) := by simp
              have e2 : ((l :: fi) ++ f2) ++ fq = (l :: fi) ++ (f2 ++ fq) := by simp
              rw [e1, e2]
              exact List.Perm.append_left _ List.perm_append_comm
            have ndN : (a :: (f1 ++ ((l :: (fi ++ fq)) ++ f2))).Nodup := (pm.nodup_iff).mpr (List.nodup_append.mpr ⟨ndX, nd2, fun b hb d hd z => inH b hb (by rw [z]; exact frq d hd)⟩)
            have nl : ∀ b ∈ f1, b ≠ l := fun b hb z => by
              subst z
              exact (List.nodup_append.mp nd'.2).2.2 b hb b (List.mem_append_left _ (List.mem_cons_self ..)) rfl
            have nd3 := List.nodup_append.mp (List.nodup_append.mp nd'.2).2.1
            have nli : ∀ b ∈ fi, b ≠ l := fun b hb z => (List.nodup_cons.mp nd3.1).1 (z ▸ hb)
            have nl2 : ∀ b ∈ f2, b ≠ l := fun b hb z => nd3.2.2 l (List.mem_cons_self ..) b hb z.symm
            have nlq : ∀ b ∈ fq, b ≠ l := fun b hb z => inH l (List.mem_cons_of_mem _ lm) (z ▸ frq b hb)
            have nal : a ≠ l := fun z => nd'.1 (z ▸ lm)
            have Fl : F2 l = none := x12.nw l g4 (by rw [g5]; simp)
            have Fa : F2 a = none := x12.nw a g1 (by rw [g2]; simp)
            have up : ∀ {w : W} {v : V} {fz : List Addr}, WR X.K dm F2 H2 w v fz → (∀ b ∈ fz, b ≠ l) → WR X.K dm F2 (upd H2 l (.lst (ivs ++ [v]))) w v fz := fun r hb => r.mono (Same.refl F2) fun b hb' => ⟨upd_ne (hb b hb'), (r.there b hb').2⟩
            have ups : ∀ {ws : List W} {vs : List V} {fz : List Addr}, WRs X.K dm F2 H2 ws vs fz → (∀ b ∈ fz, b ≠ l) → WRs X.K dm F2 (upd H2 l (.lst (ivs ++ [v]))) ws vs fz := fun r hb => r.mono (Same.refl F2) fun b hb' => ⟨upd_ne (hb b hb'), (r.there b hb').2⟩
            have m1 : ∀ b ∈ f1, ¬ isM dm b := fun b hb => nMf b (List.mem_append_left _ hb)
            have mi : ∀ b ∈ fi, ¬ isM dm b := fun b hb => nMf b (by simp [hb])
            have m2 : ∀ b ∈ f2, ¬ isM dm b := fun b hb => nMf b (by simp [hb])
            have inner : WRs X.K dm F2 (upd H2 l (.lst (ivs ++ [v]))) (us ++ [w]) (ivs ++ [v]) (fi ++ fq) := by
              have := WRs.app (ups (wexts x12 g6 mi) nli) (WRs.cons (up rw2 nlq) WRs.nil)
              simpa using this
            have mid : WRs X.K dm F2 (upd H2 l (.lst (ivs ++ [v]))) (ws1 ++ .own (us ++ [w]) :: ws2) (vs1 ++ .ref l :: vs2) (f1 ++ ((l :: (fi ++ fq)) ++ f2)) :=
              WRs.app (ups (wexts x12 s1 m1) nl) (.cons (.own Fl upd_same inner) (ups (wexts x12 s3 m2) nl2))
            have es : (ws1 ++ W.own us :: ws2).set j (.own (us ++ [w])) = ws1 ++ .own (us ++ [w]) :: ws2 := by
              rw [← hl1, List.set_append_right _ _ (Nat.le_refl _), Nat.sub_self]
              rfl
            rw [es] at hzs
            have ha2 : upd H2 l (.lst (ivs ++ [v])) a = some (.lst (vs1 ++ .ref l :: vs2)) := by rw [upd_ne nal]; exact x12.hh a _ g2 nMa
            exact k.nx _ _ _ _ _ _ (S.mutC ei hσ (.own g1 g2 g3) ow0 (c := l) (List.mem_cons_of_mem _ lm) x12 (.own Fa ha2 mid) ndN fun b hb => by
              rcases List.mem_append.mp ((pm.mem_iff).mp hb) with z | z
              · exact .inl z
              · exact .inr (frq b z)) hzs
          · exact hzs.elim
      · exact hd.elim
  · exact q.elim
end
end DL

/-! DL, part u: all, any; x in data of any depth; index, count; shifts; step ranges; zip. -/
namespace DL
open PySem L2

def boolsOf : List D → Option (List Bool)
  | [] => some []
  | .bool b :: ds => (boolsOf ds).map (b :: ·)
  | _ :: _ => none
theorem boolsOf_map (bs : List Bool) : boolsOf (bs.map .bool) = some bs := by
  induction bs with
  | nil => rfl
  | cons n ns ih => simp [boolsOf, ih]
theorem boolsOf_dp {K : PySem.W.Frag} {F : Hp} : ∀ {vs : List V} {ds : List D} {bs : List Bool}, DpAll K F vs ds → boolsOf ds = some bs → vs = bs.map V.bl
  | _, _, _, .nil, h => by cases h; rfl
  | v :: vs, d :: ds, bs, .cons h r, e => by
    cases h with
    | bl b =>
      unfold boolsOf at e
      cases q : boolsOf ds with
      | none => rw [q] at e; cases e
      | some cs =>
        rw [q] at e
        cases e
        rw [boolsOf_dp r q]
        rfl
    | _ => cases e
section
variable {K : PySem.W.Frag}
def gBs (f : List Bool → Bool) : List D → (W → Prop) → Prop := fun ds P => match ds with
  | [.list xs] => ∃ bs, boolsOf xs = some bs ∧ P (.fz (.bool (f bs)))
  | _ => False
theorem snd_all : SndC K (rAll K) (gBs fun bs => bs.all id) := by
  intro dm F H vs ds Q P hs dl h g k
  unfold gBs at g
  split at g
  · obtain ⟨bs, e, g⟩ := g
    obtain ⟨v, rfl, h'⟩ := dball1 h
    obtain ⟨a, us, rfl, hq, rr⟩ := h'.lst_inv hs
    exact ⟨a, bs, rfl, .of (by rw [hq, boolsOf_dp rr e]), got_here hs dl (.bl _) (k _ g)⟩
  · exact g.elim
theorem snd_any : SndC K (rAny K) (gBs fun bs => bs.any id) := by
  intro dm F H vs ds Q P hs dl h g k
  unfold gBs at g
  split at g
  · obtain ⟨bs, e, g⟩ := g
    obtain ⟨v, rfl, h'⟩ := dball1 h
    obtain ⟨a, us, rfl, hq, rr⟩ := h'.lst_inv hs
    exact ⟨a, bs, rfl, .of (by rw [hq, boolsOf_dp rr e]), got_here hs dl (.bl _) (k _ g)⟩
  · exact g.elim
end
section
variable {X : Cx} {e a b c o : Expr} {pos p apos : Pos} {t : TDs} {ta tb to : TB}
abbrev dAll (t : TDs) : TW := dCall (gBs fun bs => bs.all id) t
abbrev dAny (t : TDs) : TW := dCall (gBs fun bs => bs.any id) t
theorem dw_all (hm : X.mg "all" = none) (ha : DA X [e] t) (hc : X.calm = true := by rfl) (hg : Gl X "all" := by rfl) (he : starEach [e] X.env = [(false, eval e X.env)] := by rfl) : DW X (.Call (.Name "all" p) [e] [] pos) (dAll t) := dw_callB (cr_all hc) snd_all hm ha hg (he := he)
theorem dw_any (hm : X.mg "any" = none) (ha : DA X [e] t) (hc : X.calm = true := by rfl) (hg : Gl X "any" := by rfl) (he : starEach [e] X.env = [(false, eval e X.env)] := by rfl) : DW X (.Call (.Name "any" p) [e] [] pos) (dAny t) := dw_callB (cr_any hc) snd_any hm ha hg (he := he)
/-! ### x in data of any depth -/
def gInS (neg : Bool) : D → D → (W → Prop) → Prop := fun x y P => match y with
  | .list ds => (SeqAt.shaped x = true ∧ SeqAt.shaped (.list ds) = true) ∧ P (.fz (.bool (xor neg (ds.any fun d => PyData.eqv d x))))
  | .tuple ds => (SeqAt.shaped x = true ∧ SeqAt.shaped (.tuple ds) = true) ∧ P (.fz (.bool (xor neg (ds.any fun d => PyData.eqv d x))))
  | _ => False
def rInDA (neg : Bool) (K : PySem.W.Frag) : R2 := fun x y H Q => ∃ d ds, L2.Dp K H x d ∧ (L2.Dp K H y (.list ds) ∧ SeqAt.shaped (.list ds) = true ∨ L2.Dp K H y (.tuple ds) ∧ SeqAt.shaped (.tuple ds) = true) ∧ SeqAt.shaped d = true ∧ Q (.bl (xor neg (ds.any fun z => PyData.eqv z d))) H
theorem rm_in {A : Around} {xs : List PyData} {d : PyData} (hd : SeqAt.shaped d = true) (hu : A.units + 65 < cLine) : A.units + 1 + min (PyData.depthAll xs) d.depth < cLine := by
  have h1 := SeqAt.depth_of_shaped hd
  have h2 : min (PyData.depthAll xs) d.depth ≤ d.depth := Nat.min_le_right _ _
  omega
theorem op_inDA (hu : X.A.units + 65 < cLine) : OpR X (compareOp .In) (rInDA false X.K) := by
  intro pins s σ H x y v u Q I rx ry h
  obtain ⟨d, ds, hd, he, sd, q⟩ := h
  rw [Bool.false_xor] at q
  obtain ⟨as, r1⟩ := L2.Dp.reads I d x v hd rx
  rcases he with ⟨he, se⟩ | ⟨he, se⟩
  · obtain ⟨bs, r2⟩ := L2.Dp.reads I (.list ds) y u he ry
    exact SeqAt.in_list_reads r2 r1 (SeqAt.canLay_of_shaped se) (SeqAt.canLay_of_shaped sd) (rm_in sd hu) ⟨.bl _, H, I, rfl, q⟩
  · obtain ⟨bs, r2⟩ := L2.Dp.reads I (.tuple ds) y u he ry
    exact SeqAt.in_tuple_reads r2 r1 (SeqAt.canLay_of_shaped se) (SeqAt.canLay_of_shaped sd) (rm_in sd hu) ⟨.bl _, H, I, rfl, q⟩
theorem op_notInDA (hu : X.A.units + 65 < cLine) : OpR X (compareOp .NotIn) (rInDA true X.K) := by
  intro pins s σ H x y v u Q I rx ry h
  obtain ⟨d, ds, hd, he, sd, q⟩ := h
  rw [Bool.true_xor] at q
  obtain ⟨as, r1⟩ := L2.Dp.reads I d x v hd rx
  rcases he with ⟨he, se⟩ | ⟨he, se⟩
  · obtain ⟨bs, r2⟩ := L2.Dp.reads I (.list ds) y u he ry
    exact SeqAt.notIn_list_reads r2 r1 (SeqAt.canLay_of_shaped se) (SeqAt.canLay_of_shaped sd) (rm_in sd hu) ⟨.bl _, H, I, rfl, q⟩
  · obtain ⟨bs, r2⟩ := L2.Dp.reads I (.tuple ds) y u he ry
    exact SeqAt.notIn_tuple_reads r2 r1 (SeqAt.canLay_of_shaped se) (SeqAt.canLay_of_shaped sd) (rm_in sd hu) ⟨.bl _, H, I, rfl, q⟩
theorem snd_inS {K : PySem.W.Frag} (neg : Bool) : Snd2 K (rInDA neg K) (gInS neg) := by
  intro dm F H x y d1 d2 Q P hs dl h1 h2 g k
  unfold gInS at g
  split at g
  · exact ⟨_, _, (h1.dp hs).l2, .inl ⟨(h2.dp hs).l2, g.1.2⟩, g.1.1, got_here hs dl (.bl _) (k _ g.2)⟩
  · exact ⟨_, _, (h1.dp hs).l2, .inr ⟨(h2.dp hs).l2, g.1.2⟩, g.1.1, got_here hs dl (.bl _) (k _ g.2)⟩
  · exact g.elim
abbrev dInS (ta tb : TB) : TW := dOp2 (gInS false) ta tb
abbrev dNotInS (ta tb : TB) : TW := dOp2 (gInS true) ta tb
theorem dw_inS (hu : X.A.units + 65 < cLine) (ha : DB X a ta) (hb : DB X b tb) (hm : behindInMarks .In b = false := by rfl) : DW X (.Compare a [.In] [b] pos) (dInS ta tb) := dw_cmp (op_inDA hu) (snd_inS false) ha hb hm
theorem dw_notInS (hu : X.A.units + 65 < cLine) (ha : DB X a ta) (hb : DB X b tb) (hm : behindInMarks .NotIn b = false := by rfl) : DW X (.Compare a [.NotIn] [b] pos) (dNotInS ta tb) := dw_cmp (op_notInDA hu) (snd_inS true) ha hb hm
/-! ### l.index(x), l.count(x) -/
def gIndex (x y : D) (P : W → Prop) : Prop := match x with
  | .list ds => (SeqAt.shaped (.list ds) = true ∧ SeqAt.shaped y = true) ∧ ∃ j z, ds[j]? = some z ∧ PyData.eqv z y = true ∧ (∀ (m : Nat) (z' : PyData), m < j → ds[m]? = some z' → PyData.eqv z' y = false) ∧ P (.fz (.int (j : Nat)))
  | _ => False
def isL : D → Prop
  | .list _ => True
  | _ => False
def dIndex (to ta : TB) : TW := fun env Q => to env fun x => isL x ∧ ta env fun y => gIndex x y Q
theorem dw_index (h : PE X e (tBM X.K "list" (rIndexD X.K) (lB X.K to) (lDs X.K (aCons ta aNil)))) : DW X e (dIndex to ta) := by
  refine pe_mono h fun σ H Q ⟨env, F, ow, dm, P, S, q, k⟩ => ⟨env, F, ow, dm, _, S, q, fun d ⟨hl, hd⟩ v F1 H1 x r => ?_⟩
  cases d with
  | list ds =>
    obtain ⟨a, us, rfl, hq, rr⟩ := r.lst_inv x.fh
    refine ⟨.inl ⟨rfl, _, SqL.of hq⟩, env, F1, ow, dm, (fun zs => match zs with | [y] => gIndex (.list ds) y P | _ => False), S.ext x, hd, fun zs hzs us1 F2 H2 x2 r2 => ?_⟩
    dsimp only at hzs
    split at hzs
    · rename_i y
      obtain ⟨⟨s1, s2⟩, j, z, h1, h2, h3, h4⟩ := hzs
      obtain ⟨v, rfl, rv⟩ := dball1 r2
      have r' := r.ext x2
      have x12 := x.trans x2
      exact ⟨a, v, y, ds, j, z, rfl, rfl, (r'.dp x2.fh).l2, (rv.dp x2.fh).l2, s1, s2, h1, h2, h3, got_here x2.fh x2.dl (.int _) (got_of x12 (k _ h4))⟩
    · exact hzs.elim
  | _ => exact hl.elim
/-! ### shifts -/
abbrev dShl (ta tb : TB) : TW := dOp2 (gI CShl fun i j => .int (i * 2 ^ j.toNat)) ta tb
theorem dw_shl (ha : DB X a ta) (hb : DB X b tb) : DW X (.BinOp a .LShift b pos) (dShl ta tb) := dw_op op_shlW (snd_I fun _ _ h => h) ha hb
/-! ### a range with a step -/
def items3 (lo c : Int) (n : Nat) : List D := (List.range n).map fun i => .int (lo + (i : Nat) * c)
theorem items3_get {lo c : Int} {n i : Nat} {d : D} (h : (items3 lo c n)[i]? = some d) : i < n ∧ d = .int (lo + (i : Nat) * c) := by
  unfold items3 at h
  rw [List.getElem?_map] at h
  cases q : (List.range n)[i]? with
  | none => rw [q] at h; cases h
  | some j =>
    rw [q] at h
    obtain ⟨h1, h2⟩ := List.getElem?_eq_some_iff.mp q
    rw [List.length_range] at h1
    rw [List.getElem_range] at h2
    subst h2
    exact ⟨h1, (Option.some.inj h).symm⟩
theorem itr_rangeC {K : PySem.W.Frag} {F1 H1 : Hp} {lo c : Int} {n : Nat} : ItR K (fun _ => False) F1 H1 (Itc lo c n) (items3 lo c n) := fun dm F H h1 h2 h3 _ =>
  ⟨fun i d hd => by
    obtain ⟨hi, rfl⟩ := items3_get hd
    exact ⟨hi, fun x H' ⟨e1, e2⟩ => by subst e1; subst e2; exact ⟨F, ⟨Same.refl F, fun _ _ h _ => h, fun _ h _ => h, h2, h3⟩, .int _⟩⟩, by show n ≤ _; unfold items3; rw [List.length_map, List.length_range]; exact Nat.le_refl _⟩
def iRange3 (t : TDs) : TIt := fun env Q => t env fun ds => match ds with
  | [.int i, .int j, .int c] => ∃ n, RgC i j c n ∧ Q (items3 i c n)
  | _ => False
theorem di_range3 {st : Bool} {tg : Expr} (hm : X.mg "range" = none) (ha : DA X [a, b, c] t) (hg : Gl X "range" := by rfl) (hs : starEach [a, b, c] X.env = (false, eval a X.env) :: starEach [b, c] X.env := by rfl)
    (hpl : (backTo pos (starEach [b, c] X.env)).any (·.1) = false := by rfl) : DI X st tg (.Call (.Name "range" p) [a, b, c] [] pos) (iRange3 t) := by
  refine pi_mono (pi_range3 hg hm ha hs hpl) fun σ H R ⟨env, F, ow, dm, P, S, q, k⟩ => ⟨env, F, ow, dm, _, S, q, fun ds hds vs F1 H1 x r => ?_⟩
  split at hds
  · obtain ⟨n, hn, hq⟩ := hds
    cases r with
    | cons r rr =>
      cases rr with
      | cons r' rr =>
        cases rr with
        | cons r'' rr =>
          cases rr
          cases r.int_inv
          cases r'.int_inv
          cases r''.int_inv
          exact ⟨_, _, _, n, rfl, hn, k _ hq _ F1 H1 _ x itr_rangeC fun _ hb => hb.elim⟩
  · exact hds.elim
end
section
variable {X : Cx} {a b : Expr} {pos p q pos2 : Pos} {ta tb : TB}
theorem dw_tupleRange1 (hl : X.mg "tuple" = none) (hm : X.mg "range" = none) (ha : DB X a ta) (hc : X.calm = true := by rfl) (hg : Gl X "tuple" := by rfl) (hg2 : Gl X "range" := by rfl)
    (n1 : starEach [.Call (.Name "range" q) [a] [] pos] X.env = (false, eval (.Call (.Name "range" q) [a] [] pos) X.env) :: starEach [] X.env := by rfl) (n2 : starEach [a] X.env = (false, eval a X.env) :: starEach [] X.env := by rfl) :
    DW X (.Call (.Name "tuple" p) [.Call (.Name "range" q) [a] [] pos] [] pos2) (dTupleRange1 ta) := by
  refine pe_mono (pe_tupRgX hc hg hl (prg_1 hg2 hm ha n2) n1) fun σ H Q ⟨env, F, ow, dm, P, S, q, k⟩ => ⟨env, F, ow, dm, _, S, q, fun d hd v F1 H1 x r => ?_⟩
  split at hd
  · cases r.int_inv
    exact ⟨_, rfl, hd.1, got_tup x.fh x.dl (dp_rg _ _) (got_of x (k _ hd.2))⟩
  · exact hd.elim
theorem dw_listRange2 (hl : X.mg "list" = none) (hm : X.mg "range" = none) (ha : DB X a ta) (hb : DB X b tb) (hc : X.calm = true := by rfl) (hg : Gl X "list" := by rfl) (hg2 : Gl X "range" := by rfl)
    (n1 : starEach [.Call (.Name "range" q) [a, b] [] pos] X.env = (false, eval (.Call (.Name "range" q) [a, b] [] pos) X.env) :: starEach [] X.env := by rfl) (n2 : starEach [a, b] X.env = (false, eval a X.env) :: starEach [b] X.env := by rfl) (n3 : starEach [b] X.env = (false, eval b X.env) :: starEach [] X.env := by rfl) (n4 : (backTo pos (starEach [b] X.env)).any (·.1) = false := by rfl) :
    DW X (.Call (.Name "list" p) [.Call (.Name "range" q) [a, b] [] pos] [] pos2) (dListRange2 ta tb) := by
  refine pe_mono (pe_listRg hc hg hl (prg_2 hg2 hm ha hb n2 n3 n4) n1) fun σ H Q ⟨env, F, ow, dm, P, S, q, k⟩ => ⟨env, F, ow, dm, _, S, q, fun d hd v F1 H1 x r => ⟨env, F1, ow, dm, _, S.ext x, hd, fun d2 hd2 v2 F2 H2 x2 r2 => ?_⟩⟩
  split at hd2
  · cases r.int_inv
    cases r2.int_inv
    exact ⟨_, _, rfl, rfl, hd2.1, fun q hq => got_lst0 x2.fh x2.dl (dp_rg _ _) (got_of (x.trans x2) (k _ hd2.2)) hq⟩
  · exact hd2.elim
theorem dw_tupleRange2 (hl : X.mg "tuple" = none) (hm : X.mg "range" = none) (ha : DB X a ta) (hb : DB X b tb) (hc : X.calm = true := by rfl) (hg : Gl X "tuple" := by rfl) (hg2 : Gl X "range" := by rfl)
    (n1 : starEach [.Call (.Name "range" q) [a, b] [] pos] X.env = (false, eval (.Call (.Name "range" q) [a, b] [] pos) X.env) :: starEach [] X.env := by rfl) (n2 : starEach [a, b] X.env = (false, eval a X.env) :: starEach [b] X.env := by rfl) (n3 : starEach [b] X.env = (false, eval b X.env) :: starEach [] X.env := by rfl) (n4 : (backTo pos (starEach [b] X.env)).any (·.1) = false := by rfl) :
    DW X (.Call (.Name "tuple" p) [.Call (.Name "range" q) [a, b] [] pos] [] pos2) (dTupleRange2 ta tb) := by
  refine pe_mono (pe_tupRgX hc hg hl (prg_2 hg2 hm ha hb n2 n3 n4) n1) fun σ H Q ⟨env, F, ow, dm, P, S, q, k⟩ => ⟨env, F, ow, dm, _, S, q, fun d hd v F1 H1 x r => ⟨env, F1, ow, dm, _, S.ext x, hd, fun d2 hd2 v2 F2 H2 x2 r2 => ?_⟩⟩
  split at hd2
  · cases r.int_inv
    cases r2.int_inv
    exact ⟨_, _, rfl, rfl, hd2.1, got_tup x2.fh x2.dl (dp_rg _ _) (got_of (x.trans x2) (k _ hd2.2))⟩
  · exact hd2.elim
end
end DL

/-! DL, part v: t[::-1] of a tuple; a tuple times an int. -/
namespace HT
open PySem PySem.Spec PyProof.Rows PySem.Builtin
section
variable {prog : Program} {w : World} {A : Around} {E : Value → Shared → Prop} {s : Shared}
theorem back_adjust (n : Nat) : Builtin.Slice.sliceAdjust none none (-1) (n : Int) = ((n : Int) - 1, -1) := by
  unfold Builtin.Slice.sliceAdjust
  simp
theorem back_places (n : Nat) : Builtin.Slice.slicePlaces ((n : Int) - 1) (-1) (-1) = n := by
  unfold Builtin.Slice.slicePlaces
  have h1 : ¬ ((-1 : Int) > 0) := by omega
  have e : ((n : Int) - 1 - -1 - 1) / (- -1) + 1 = (n : Int) := by
    rw [show (- -1 : Int) = 1 by decide, Int.ediv_one]
    omega
  simp only [h1, if_false, e]
  split <;> omega
theorem fm_congr {α β : Type} {f g : α → Option β} : ∀ {l : List α}, (∀ x ∈ l, f x = g x) → l.filterMap f = l.filterMap g
  | [], _ => rfl
  | x :: l, h => by
    rw [List.filterMap_cons, List.filterMap_cons, h x (by simp), fm_congr fun y hy => h y (by simp [hy])]
theorem back_pick (xs : Array Value) : ((List.range xs.size).filterMap fun (m : Nat) => xs[((xs.size : Int) - 1 + (m : Int) * (-1)).toNat]?).toArray = xs.toList.reverse.toArray := by
  have e : ((List.range xs.size).filterMap fun (m : Nat) => xs[((xs.size : Int) - 1 + (m : Int) * (-1)).toNat]?) = xs.toList.reverse := by
    have h1 : ((List.range xs.size).filterMap fun (m : Nat) => xs[((xs.size : Int) - 1 + (m : Int) * (-1)).toNat]?) = (List.range xs.size).filterMap fun m => xs.toList.reverse[m]? := by
      refine fm_congr fun m hm => ?_
      have hm' := List.mem_range.mp hm
      have : ((xs.size : Int) - 1 + (m : Int) * (-1)).toNat = xs.size - 1 - m := by omega
      rw [this, List.getElem?_reverse (by simpa using hm')]
      simp
    rw [h1]
    have h2 : xs.size = xs.toList.reverse.length := by simp
    rw [h2]
    generalize xs.toList.reverse = l
    induction l with
    | nil => rfl
    | cons x l ih =>
      rw [List.length_cons, List.range_succ_eq_map, List.filterMap_cons]
      simp only [List.getElem?_cons_zero, List.filterMap_map]
      congr 1
  rw [e]
theorem sliceApplied_back {sl : Addr} {vl vu vs : Value} {n : Nat} {Q : Int × Int × Nat → Shared → Prop} (hs : s.heap.IsSliceOf sl vl vu vs) (pl : IsPart vl none) (pu : IsPart vu none) (ps : IsPart vs (some (-1)))
    (h : Q ((n : Int) - 1, -1, n) s) : wpAny (model prog w) A (Builtin.Slice.sliceApplied (.ref sl) (pure (n : Int))) Q E s := by
  obtain ⟨os, hos, hcs, hds⟩ := id hs
  unfold Builtin.Slice.sliceApplied Builtin.Slice.sliceFields
  refine wpAny_bind (wpAny_bind (wpAny_field hos hds (x := vl) rfl (wpAny_bind (wpAny_field hos hds (x := vu) rfl (wpAny_bind (wpAny_field hos hds (x := vs) rfl (wpAny_pure ?_)))))))
  refine wpAny_bind (slicePart_ ps ?_)
  show wpAny _ _ (if ((-1 : Int) == 0) = true then _ else _) _ _ s
  rw [if_neg (by decide)]
  refine wpAny_bind (slicePart_ pl (wpAny_bind (slicePart_ pu (wpAny_bind (wpAny_pure ?_)))))
  show wpAny _ _ (match Builtin.Slice.sliceAdjust none none (-1) (n : Int) with | (lo, hi) => pure (lo, (-1 : Int), Builtin.Slice.slicePlaces lo hi (-1))) _ _ s
  rw [back_adjust n]
  show wpAny _ _ (pure ((n : Int) - 1, (-1 : Int), Builtin.Slice.slicePlaces ((n : Int) - 1) (-1) (-1))) _ _ s
  rw [back_places]
  exact wpAny_pure h
theorem getItem_tuple_back {t sl : Addr} {items : Array Value} {vl vu vs : Value} {Q : Value → Shared → Prop} (ht : IsTup s.heap t items) (hs : s.heap.IsSliceOf sl vl vu vs) (pl : IsPart vl none) (pu : IsPart vu none) (ps : IsPart vs (some (-1)))
    (h : Q (.ref s.heap.objs.size) { s with heap := s.heap.push { cls := .type "tuple", data := .seq items.toList.reverse.toArray } })
    (hsz : items.size ≤ sizeLine) : wpAny (model prog w) A (getItem (.ref t) (.ref sl)) Q E s := by
  have htake : sizeOk (.seq items.toList.reverse.toArray) := by
    show items.toList.reverse.toArray.size ≤ sizeLine
    rw [List.size_toArray, List.length_reverse, Array.length_toList]
    exact hsz
  obtain ⟨os, hos, hcs, hds⟩ := id hs
  have hTs : s.TypeIs (.ref sl) "slice" := ⟨os, hos, hcs⟩
  unfold getItem
  try with_reducible refine wpAny_holding ?_
  first | refine wpAny_bind (wpAny_pure ?_) | skip
  refine wpAny_bind (wpAny_sequenceKey ht.typeIs (by decide) ?_)
  refine wpAny_bind (wpAny_callSpecial?_slot (name := Str.ofString "__getitem__") ht.typeIs PyProof.Rows.slot_tuple_getitem
    (wpAny_call_entry PyProof.Rows.slot_tuple_getitem ht.typeIs entry_tuple_getitem ?_ (args_tuple_getitem _ _)))
  show wpAny _ _ (Builtin.Tuple.tupleItemsOf (.ref t) >>= _) _ _ s
  refine wpAny_bind (tupleItemsOf_ ht ?_)
  refine wpAny_bind (wpAny_typeOf hTs ?_)
  rw [if_pos (by decide)]
  refine wpAny_bind (sliceApplied_back hs pl pu ps ?_)
  have hno : ¬ ((((items.size : Int) - 1) == 0 && (-1 : Int) == 1 && items.size == items.size) = true) := by
    intro q
    rw [Bool.and_eq_true, Bool.and_eq_true] at q
    exact absurd q.1.2 (by decide)
  show wpAny _ _ (if (((items.size : Int) - 1) == 0 && (-1 : Int) == 1 && items.size == items.size) = true then _ else _) _ _ s
  rw [if_neg hno, back_pick]
  first
    | exact wpAny_bind (m := Builtin.Tuple.tupleExact _) (wpAny_newObj_type (wpAny_pure ⟨_, rfl, wpAny_pure h⟩) htake)
    | exact wpAny_bind (m := Builtin.Tuple.tupleExact _) (wpAny_newObj_type (wpAny_bind (wpAny_pure (wpAny_pure ⟨_, rfl, wpAny_pure h⟩))) htake)
    | exact wpAny_bind (wpAny_bind (m := Builtin.Tuple.tupleExact _) (wpAny_newObj_type (wpAny_pure (wpAny_pure ⟨_, rfl, wpAny_pure h⟩)) htake))
    | exact wpAny_bind (wpAny_bind (m := Builtin.Tuple.tupleExact _) (wpAny_newObj_type (wpAny_pure ⟨_, rfl, wpAny_pure h⟩) htake))
end
end HT
namespace DL
open PySem L2 PySem.Spec PyProof.Rows
def tRevA (K : PySem.W.Frag) (te : TE) : TE := fun σ H Q => te σ H fun x H1 => ∃ a xs, x = .ref a ∧ (SqL K H1 a xs ∧ (∀ p, H1 p = none → Q (.ref p) (upd H1 p (.lst xs.reverse))) ∨ SqT K H1 a xs ∧ NewT H1 xs.reverse Q)
theorem pe_revA {X : Cx} {e : Expr} {te : TE} {k : Nat} {p1 p2 p3 pos : Pos} (he : PE X e te) : PE X (.Subscript e (.Slice none none (some (.UnaryOp .USub (.Constant (.int 1) k p1) p2)) p3) pos) (tRevA X.K te) := by
  refine ⟨fun pins s σ H Q I h => ?_⟩
  refine Subscript_ (thn (he.run pins s σ H _ I h) fun v s1 ⟨x, H1, I1, r1, q1⟩ => ?_)
  obtain ⟨a, xs, ex, q⟩ := q1
  subst ex
  cases r1
  have hst : PO X (some (.UnaryOp .USub (.Constant (.int 1) k p1) p2)) (tPart (tUn (rU fun i => .int (-i)) (tC (.int 1)))) := po_some (pe_un un_neg pe_int)
  refine wpAny_Slice (thn (po_none.run pins s1 σ H1 (fun o H2 => o = none ∧ H2 = H1) I1 ⟨rfl, rfl⟩) fun vl s2 ⟨l, H2, I2, pl, el, e2⟩ => ?_)
  subst el e2
  refine thn (po_none.run pins s2 σ H2 (fun o H3 => o = none ∧ H3 = H2) I2 ⟨rfl, rfl⟩) fun vu s3 ⟨u, H3, I3, pu, eu, e3⟩ => ?_
  subst eu e3
  refine thn (hst.run pins s3 σ H3 (fun o H4 => o = some (-1) ∧ H4 = H3) I3 ⟨1, rfl, -1, rfl, rfl, rfl⟩) fun vs s4 ⟨o, H4, I4, ps, eo, e4⟩ => ?_
  subst eo e4
  have I5 : Inv X pins σ H4 { s4 with heap := s4.heap.push { cls := .type "slice", data := .fields #[vl, vu, vs] } } := I4.kept (t' := s4.toks) fun b ob q => Heap.get?_push_of_some _ q
  show wpAny (model X.prog X.w) X.A (subscriptTail e (.Slice none none (some (.UnaryOp .USub (.Constant (.int 1) k p1) p2)) p3) (.ref a) (.ref s4.heap.objs.size)) (EP X pins σ Q) X.xe { s4 with heap := s4.heap.push { cls := .type "slice", data := .fields #[vl, vu, vs] } }
  rcases q with ⟨hx, q⟩ | ⟨hx, q⟩
  · obtain ⟨its, r, ht, hz⟩ := I5.list hx
    have hlen := r.length
    refine tail_any (ops := [.ref a, .ref s4.heap.objs.size]) ht.isList.typeIs (PySem.slot_list_getitem.lookup) ?_ (by with_unfolding_all rfl)
    refine wpAny_getItem_list_slice ht.isList (Heap.IsSliceOf.new _ vl vu vs) pl pu ps (by decide) ?_ (by rw [List.size_toArray]; omega)
    rw [PySem.W.krv_pick]
    refine ⟨.ref _, _, I5.laid (t' := s4.toks) (o := .lst xs.reverse) (fun b ob q => Heap.get?_push_of_some _ q) (Nat.le_refl _) ?_, rfl, q _ (I5.hok.fresh (Nat.le_refl _))⟩
    exact ⟨by rw [List.length_reverse]; exact hz, _, 0, r.reverse, Heap.get?_push_size _ rfl⟩
  · obtain ⟨its, r, ht, hz⟩ := I5.tuple hx
    have hlen := r.length
    refine tail_any (ops := [.ref a, .ref s4.heap.objs.size]) ht.typeIs PyProof.Rows.slot_tuple_getitem.lookup ?_ (by with_unfolding_all rfl)
    refine HT.getItem_tuple_back ht (Heap.IsSliceOf.new _ vl vu vs) pl pu ps ?_ (by rw [List.size_toArray]; omega)
    exact lay_tup s4.toks I5 r.reverse (by rw [List.length_reverse]; exact hz) q
/-- xs[::-1] of a list or a tuple -/
def dRevA (te : TB) : TW := fun env Q => te env fun d => match d with
  | .list ds => Q (.own (ds.reverse.map .fz))
  | .tuple ds => Q (.fz (.tuple ds.reverse))
  | _ => False
theorem dw_revA {X : Cx} {e : Expr} {pos : Pos} {k : Nat} {p1 p2 p3 : Pos} {te : TB} (he : DB X e te) : DW X (.Subscript e (.Slice none none (some (.UnaryOp .USub (.Constant (.int 1) k p1) p2)) p3) pos) (dRevA te) := by
  refine pe_mono (pe_revA he) fun σ H Q ⟨env, F, ow, dm, P, S, q, k⟩ => ⟨env, F, ow, dm, _, S, q, fun d hd v F1 H1 x r => ?_⟩
  split at hd
  · obtain ⟨a, us, rfl, hq, rr⟩ := r.lst_inv x.fh
    exact ⟨a, us, rfl, .inl ⟨.of hq, fun p hp => got_lst0 x.fh x.dl (dpAll_reverse rr) (got_of x (k _ hd)) hp⟩⟩
  · obtain ⟨a, us, rfl, hF, hq, rr⟩ := r.tup_inv x.fh
    exact ⟨a, us, rfl, .inr ⟨hq, got_tup x.fh x.dl (dpAll_reverse rr) (got_of x (k _ hd))⟩⟩
  · exact hd.elim
end DL

/-! DL, part w: sum, max, min of a list or a tuple of ints. -/
namespace L2
open PySem PySem.Spec PyProof.Rows
section
variable {prog : Program} {w : World} {A : Around} {E : Value → Shared → Prop} {s : Shared} {l : Addr} {xs : Array (Int × Tok)} {its : List Value} {ns : List Int} {Q : Value → Shared → Prop}
theorem iter_intTup (hl : s.heap.IsTuple l (intItems xs))
    (h : ∀ s₂ : Shared, s₂ = { s with heap := s.heap.push { cls := .type "tuple_iterator", data := .fields #[.ref l, .int 0 0] } } →
      (s₂.heap.IsTupleIter s.heap.objs.size l 0 ∧ s₂.heap.IsTuple l (intItems xs)) → (∀ b ∈ [s.heap.objs.size, l], b < s₂.heap.objs.size) → l ≠ s.heap.objs.size → Q (.ref s.heap.objs.size) s₂) : wpAny (model prog w) A (pyIter (.ref l)) Q E s := by
  have hlt : l < s.heap.objs.size := by obtain ⟨_, e, _⟩ := hl; exact Heap.lt_size e
  refine wpAny_pyIter_tuple hl (h _ rfl ⟨⟨_, Heap.get?_push_size _ rfl, rfl, rfl⟩, hl.push _⟩ (fun b hb => ?_) (Nat.ne_of_lt hlt))
  show b < (s.heap.push _).objs.size
  rw [Heap.size_push]
  rcases List.mem_cons.mp hb with rfl | hb
  · exact Nat.lt_succ_self _
  · rw [List.mem_singleton.mp hb]; exact Nat.lt_succ_of_lt hlt
theorem old_push {h h' : Heap} {o₀ : Obj} (hk : ∀ (b : Addr) (o : Obj), b ∉ [h.objs.size] → (h.push o₀).get? b = some o → h'.get? b = some o) (b : Addr) (o : Obj) (e : h.get? b = some o) : h'.get? b = some o :=
  hk b o (fun m => Nat.lt_irrefl _ (by have := Heap.lt_size e; rw [List.mem_singleton.mp m] at this; exact this)) (Heap.get?_push_of_some _ e)
theorem sum_intTup (hh : A.handled = none) (hl : s.heap.IsTuple l (intItems xs))
    (h : ∀ h' tk t', (∀ b o, s.heap.get? b = some o → h'.get? b = some o) → Q (.int (preSum (numAt xs) xs.size) t') { s with heap := h', toks := tk }) :
    wpAny (model prog w) A (call (.builtin "sum") [.ref l]) Q E s := by
  refine call_sum_walkG (iter_intTup hl fun s₂ e st hfp hlI => ?_)
  subst e
  refine ⟨_, _, _, _, _, _, numAt xs, rfl, Walks.tuple (A := A.in1) hh _ l hlI (intItems xs), st, hfp, (fun _ _ => intItems_at), fun h' tk t' hk => ?_⟩
  have := h h' tk t' (old_push hk)
  simpa [intItems] using this
theorem max_intTup (hh : A.handled = none) (hl : s.heap.IsTuple l (intItems xs)) (hne : 0 < xs.size)
    (h : ∀ v h' tk, (intItems xs)[argBest (fun i j => decide (numAt xs i > numAt xs j)) (xs.size - 1)]? = some v → (∀ b o, s.heap.get? b = some o → h'.get? b = some o) → Q v { s with heap := h', toks := tk }) :
    wpAny (model prog w) A (call (.builtin "max") [.ref l]) Q E s := by
  refine call_max_walk (iter_intTup hl fun s₂ e st hfp hlI => ?_)
  subst e
  refine ⟨_, _, _, _, _, _, _, rfl, Walks.tuple (A := A.in1) hh _ l hlI (intItems xs), st, hfp, by simpa [intItems] using hne, CmpOf.ints_gt (numAt xs) (fun _ _ => intItems_at), fun v h' tk hP hk => ?_⟩
  exact h v h' tk (by simpa [intItems] using hP) (old_push hk)
theorem min_intTup (hh : A.handled = none) (hl : s.heap.IsTuple l (intItems xs)) (hne : 0 < xs.size)
    (h : ∀ v h' tk, (intItems xs)[argBest (fun i j => decide (numAt xs i < numAt xs j)) (xs.size - 1)]? = some v → (∀ b o, s.heap.get? b = some o → h'.get? b = some o) → Q v { s with heap := h', toks := tk }) :
    wpAny (model prog w) A (call (.builtin "min") [.ref l]) Q E s := by
  refine call_min_walk (iter_intTup hl fun s₂ e st hfp hlI => ?_)
  subst e
  refine ⟨_, _, _, _, _, _, _, rfl, Walks.tuple (A := A.in1) hh _ l hlI (intItems xs), st, hfp, by simpa [intItems] using hne, CmpOf.ints_lt (numAt xs) (fun _ _ => intItems_at), fun v h' tk hP hk => ?_⟩
  exact h v h' tk (by simpa [intItems] using hP) (old_push hk)
theorem sum_rawT (hh : A.handled = none) (hl : s.heap.IsTuple l its.toArray) (hi : IntsAre its ns)
    (h : ∀ h' tk t', (∀ b o, s.heap.get? b = some o → h'.get? b = some o) → Q (.int ns.sum t') { s with heap := h', toks := tk }) : wpAny (model prog w) A (call (.builtin "sum") [.ref l]) Q E s := by
  obtain ⟨xs, e⟩ := hi.allInts.items
  have hn : numsOf (intItems xs).toList = ns := by rw [← e]; exact hi.numsOf
  rw [nums_intItems] at hn
  rw [e] at hl
  refine sum_intTup hh hl fun h' tk t' hk => ?_
  rw [preSum_eq, List.take_of_length_le (by simp), hn]
  exact h h' tk t' hk
theorem max_rawT (hh : A.handled = none) (hl : s.heap.IsTuple l its.toArray) (hi : IntsAre its ns) (hne : 0 < ns.length)
    (h : ∀ h' tk M t', (∀ b o, s.heap.get? b = some o → h'.get? b = some o) → M ∈ ns → (∀ a, a ∈ ns → a ≤ M) → Q (.int M t') { s with heap := h', toks := tk }) : wpAny (model prog w) A (call (.builtin "max") [.ref l]) Q E s := by
  obtain ⟨xs, e⟩ := hi.allInts.items
  have hn : numsOf (intItems xs).toList = ns := by rw [← e]; exact hi.numsOf
  rw [nums_intItems] at hn
  subst hn
  rw [e] at hl
  have hsz : 0 < xs.size := by simpa using hne
  refine max_intTup hh hl hsz fun v h' tk hv hk => ?_
  obtain ⟨t, rfl⟩ := intItems_at hv
  obtain ⟨h1, h2⟩ := argBest_gt (numAt xs) (xs.size - 1)
  refine h h' tk _ t hk ?_ fun a ha => ?_
  · rw [numAt_eq]; exact PySem.getD_mem (by rw [List.length_map, Array.length_toList]; omega)
  · obtain ⟨j, hj, rfl⟩ := mem_getD ha
    rw [List.length_map, Array.length_toList] at hj
    rw [← numAt_eq]; exact h2 j (by omega)
theorem min_rawT (hh : A.handled = none) (hl : s.heap.IsTuple l its.toArray) (hi : IntsAre its ns) (hne : 0 < ns.length)
    (h : ∀ h' tk M t', (∀ b o, s.heap.get? b = some o → h'.get? b = some o) → M ∈ ns → (∀ a, a ∈ ns → M ≤ a) → Q (.int M t') { s with heap := h', toks := tk }) : wpAny (model prog w) A (call (.builtin "min") [.ref l]) Q E s := by
  obtain ⟨xs, e⟩ := hi.allInts.items
  have hn : numsOf (intItems xs).toList = ns := by rw [← e]; exact hi.numsOf
  rw [nums_intItems] at hn
  subst hn
  rw [e] at hl
  have hsz : 0 < xs.size := by simpa using hne
  refine min_intTup hh hl hsz fun v h' tk hv hk => ?_
  obtain ⟨t, rfl⟩ := intItems_at hv
  obtain ⟨h1, h2⟩ := argBest_lt (numAt xs) (xs.size - 1)
  refine h h' tk _ t hk ?_ fun a ha => ?_
  · rw [numAt_eq]; exact PySem.getD_mem (by rw [List.length_map, Array.length_toList]; omega)
  · obtain ⟨j, hj, rfl⟩ := mem_getD ha
    rw [List.length_map, Array.length_toList] at hj
    rw [← numAt_eq]; exact h2 j (by omega)
end
end L2
namespace DL
open PySem L2
/-- a list or a tuple of ints in -/
def gNsA (f : List Int → (W → Prop) → Prop) : List D → (W → Prop) → Prop := fun ds P => match ds with
  | [.list xs] => ∃ ns, intsOf xs = some ns ∧ f ns P
  | [.tuple xs] => ∃ ns, intsOf xs = some ns ∧ f ns P
  | _ => False
section
variable {X : Cx}
def rA (K : PySem.W.Frag) (c : List Int → VK → Hp → Prop) : List V → Hp → VK → Prop := fun vs H Q => ∃ (a : Addr) (ns : List Int), vs = [V.ref a] ∧ (SqL K H a (ns.map V.int) ∨ SqT K H a (ns.map V.int)) ∧ c ns Q H
def cSum : List Int → VK → Hp → Prop := fun ns Q H => Q (.int ns.sum) H
def cMax : List Int → VK → Hp → Prop := fun ns Q H => 0 < ns.length ∧ ∀ m, m ∈ ns → (∀ y, y ∈ ns → y ≤ m) → Q (.int m) H
def cMin : List Int → VK → Hp → Prop := fun ns Q H => 0 < ns.length ∧ ∀ m, m ∈ ns → (∀ y, y ∈ ns → m ≤ y) → Q (.int m) H
theorem cr_sumA (hc : X.calm = true) : CallR X (.builtin "sum") (rA X.K cSum) := by
  rintro pins s σ H vs us Q I r ⟨a, ns, rfl, hs | hs, q⟩
  · exact cr_sum hc pins s σ H _ us Q I r ⟨a, ns, rfl, hs, q⟩
  · obtain ⟨its, rv, hl, _⟩ := I.tuple hs
    rw [Vals.ref1 r]
    exact sum_rawT (I.ok.hd hc) hl rv.ints fun h' tk t' hk => ⟨.int _, H, I.kept hk, ⟨_, rfl⟩, q⟩
theorem cr_maxA (hc : X.calm = true) : CallR X (.builtin "max") (rA X.K cMax) := by
  rintro pins s σ H vs us Q I r ⟨a, ns, rfl, hs | hs, hne, q⟩
  · exact cr_max hc pins s σ H _ us Q I r ⟨a, ns, rfl, hs, hne, q⟩
  · obtain ⟨its, rv, hl, _⟩ := I.tuple hs
    rw [Vals.ref1 r]
    exact max_rawT (I.ok.hd hc) hl rv.ints hne fun h' tk m t' hk h1 h2 => ⟨.int _, H, I.kept hk, ⟨_, rfl⟩, q m h1 h2⟩
theorem cr_minA (hc : X.calm = true) : CallR X (.builtin "min") (rA X.K cMin) := by
  rintro pins s σ H vs us Q I r ⟨a, ns, rfl, hs | hs, hne, q⟩
  · exact cr_min hc pins s σ H _ us Q I r ⟨a, ns, rfl, hs, hne, q⟩
  · obtain ⟨its, rv, hl, _⟩ := I.tuple hs
    rw [Vals.ref1 r]
    exact min_rawT (I.ok.hd hc) hl rv.ints hne fun h' tk m t' hk h1 h2 => ⟨.int _, H, I.kept hk, ⟨_, rfl⟩, q m h1 h2⟩
theorem snd_A {K : PySem.W.Frag} {c : List Int → VK → Hp → Prop} {f : List Int → (W → Prop) → Prop} (hr : ∀ (dm : DM) (F H : Hp) (Q : VK) (P : W → Prop) (ns : List Int), Same F H → (∀ p, dm = some p → DealAt F H p.1 p.2) → f ns P → (∀ w, P w → Got K dm F H Q w) → c ns Q H) : SndC K (rA K c) (gNsA f) := by
  intro dm F H vs ds Q P hs dl h g k
  unfold gNsA at g
  split at g
  · obtain ⟨ns, e, g⟩ := g
    rw [intsOf_eq e] at h
    obtain ⟨v, rfl, h'⟩ := dball1 h
    obtain ⟨a, us, rfl, hq, rr⟩ := h'.lst_inv hs
    rw [dpAll_ints rr] at hq
    exact ⟨a, ns, rfl, .inl (.of hq), hr dm F H Q P ns hs dl g k⟩
  · obtain ⟨ns, e, g⟩ := g
    rw [intsOf_eq e] at h
    obtain ⟨v, rfl, h'⟩ := dball1 h
    obtain ⟨a, us, rfl, hF, hq, rr⟩ := h'.tup_inv hs
    rw [dpAll_ints rr] at hq
    exact ⟨a, ns, rfl, .inr hq, hr dm F H Q P ns hs dl g k⟩
  · exact g.elim
theorem snd_sumA {K : PySem.W.Frag} : SndC K (rA K cSum) (gNsA fun ns P => P (.fz (.int ns.sum))) := snd_A fun dm F H Q P ns hs dl g k => got_here hs dl (.int _) (k _ g)
theorem snd_maxA {K : PySem.W.Frag} : SndC K (rA K cMax) (gNsA fun ns P => 0 < ns.length ∧ ∀ m, m ∈ ns → (∀ y, y ∈ ns → y ≤ m) → P (.fz (.int m))) := snd_A fun dm F H Q P ns hs dl g k => ⟨g.1, fun m h1 h2 => got_here hs dl (.int _) (k _ (g.2 m h1 h2))⟩
theorem snd_minA {K : PySem.W.Frag} : SndC K (rA K cMin) (gNsA fun ns P => 0 < ns.length ∧ ∀ m, m ∈ ns → (∀ y, y ∈ ns → m ≤ y) → P (.fz (.int m))) := snd_A fun dm F H Q P ns hs dl g k => ⟨g.1, fun m h1 h2 => got_here hs dl (.int _) (k _ (g.2 m h1 h2))⟩
variable {e : Expr} {pos p : Pos} {t : TDs}
abbrev dSumA (t : TDs) : TW := dCall (gNsA fun ns P => P (.fz (.int ns.sum))) t
abbrev dMaxA (t : TDs) : TW := dCall (gNsA fun ns P => 0 < ns.length ∧ ∀ m, m ∈ ns → (∀ y, y ∈ ns → y ≤ m) → P (.fz (.int m))) t
abbrev dMinA (t : TDs) : TW := dCall (gNsA fun ns P => 0 < ns.length ∧ ∀ m, m ∈ ns → (∀ y, y ∈ ns → m ≤ y) → P (.fz (.int m))) t
theorem dw_sumA (hm : X.mg "sum" = none) (ha : DA X [e] t) (hc : X.calm = true := by rfl) (hg : Gl X "sum" := by rfl) (he : starEach [e] X.env = [(false, eval e X.env)] := by rfl) : DW X (.Call (.Name "sum" p) [e] [] pos) (dSumA t) := dw_callB (cr_sumA hc) snd_sumA hm ha hg (he := he)
theorem dw_maxA (hm : X.mg "max" = none) (ha : DA X [e] t) (hc : X.calm = true := by rfl) (hg : Gl X "max" := by rfl) (he : starEach [e] X.env = [(false, eval e X.env)] := by rfl) : DW X (.Call (.Name "max" p) [e] [] pos) (dMaxA t) := dw_callB (cr_maxA hc) snd_maxA hm ha hg (he := he)
theorem dw_minA (hm : X.mg "min" = none) (ha : DA X [e] t) (hc : X.calm = true := by rfl) (hg : Gl X "min" := by rfl) (he : starEach [e] X.env = [(false, eval e X.env)] := by rfl) : DW X (.Call (.Name "min" p) [e] [] pos) (dMinA t) := dw_callB (cr_minA hc) snd_minA hm ha hg (he := he)
end
end DL

/-! DL, part x: len(set(xs)) of ints. -/
namespace DL
open PySem L2 PySem.Spec
/-- the distinct ones -/
theorem met_ok (val : Nat → Int) : ∀ i, (PyProof.Rows.firstMet val i).Nodup ∧ ∀ k, k ∈ PyProof.Rows.firstMet val i ↔ k ∈ (List.range i).map val
  | 0 => by rw [PyProof.Rows.firstMet_zero]; simp
  | i + 1 => by
    obtain ⟨h1, h2⟩ := met_ok val i
    rw [PyProof.Rows.firstMet_succ]
    unfold PyProof.Rows.step_dedup
    rw [List.range_succ, List.map_append]
    by_cases h : (PyProof.Rows.firstMet val i).any (· == val i) = true
    · rw [if_pos h]
      refine ⟨h1, fun k => ?_⟩
      have hm : val i ∈ PyProof.Rows.firstMet val i := by
        obtain ⟨y, hy, e⟩ := List.any_eq_true.mp h
        rwa [← eq_of_beq e]
      rw [h2 k, List.mem_append]
      constructor
      · exact .inl
      · rintro (h | h)
        · exact h
        · have : k = val i := by simpa using h
          rw [this]
          exact (h2 _).mp hm
    · rw [if_neg h]
      have hm : val i ∉ PyProof.Rows.firstMet val i := fun hm => h (List.any_eq_true.mpr ⟨_, hm, beq_self_eq_true _⟩)
      refine ⟨List.nodup_append.mpr ⟨h1, by simp, fun a ha b hb e => ?_⟩, fun k => ?_⟩
      · rw [List.mem_singleton] at hb
        rw [e, hb] at ha
        exact hm ha
      · rw [List.mem_append, List.mem_append, h2 k]
        simp
theorem range_get (ns : List Int) : (List.range ns.length).map (fun i => ns.getD i 0) = ns := by
  apply List.ext_getElem?
  intro i
  by_cases h : i < ns.length
  · rw [List.getElem?_map, List.getElem?_range h, List.getElem?_eq_getElem h]
    simp [h]
  · rw [List.getElem?_eq_none (by simp; omega), List.getElem?_eq_none (by omega)]
/-- the length of any list without doubles that has just these -/
def cLenSet (ns : List Int) (Q : Int → Prop) : Prop := ns.length ≤ 4000 ∧ ∀ L : List Int, L.Nodup → (∀ k, k ∈ L ↔ k ∈ ns) → Q (L.length : Nat)
def tLenSetA (K : PySem.W.Frag) (ta : TE) : TE := fun σ H Q => ta σ H fun x H1 => ∃ (l : Addr) (ns : List Int), x = .ref l ∧ (SqL K H1 l (ns.map V.int) ∨ SqT K H1 l (ns.map V.int)) ∧ cLenSet ns fun i => Q (.int i) H1
theorem pe_lenSetA {X : Cx} {a : Expr} {ta : TE} {p p2 q pos : Pos} (hg : Gl X "len") (hm : X.mg "len" = none) (hg2 : Gl X "set") (hm2 : X.mg "set" = none) (ha : PE X a ta) (hc : X.calm = true := by rfl)
    (na : starEach [a] X.env = (false, eval a X.env) :: starEach [] X.env := by rfl) : PE X (.Call (.Name "len" p) [.Call (.Name "set" p2) [a] [] q] [] pos) (tLenSetA X.K ta) := by
  refine ⟨fun pins s σ H Q I h => ?_⟩
  refine PyProof.Rows.Call_ (ld_blt I hg hm PySem.boot_len ?_)
  refine PyProof.Rows.callWith_builtin1 (PyProof.Rows.args_cons ?_ rfl) rfl rfl
  refine PyProof.Rows.Call_ (ld_blt I hg2 hm2 PyProof.Rows.boot_set ?_)
  refine PyProof.Rows.callWith_type1 (PyProof.Rows.args_cons (thn (ha.run pins s σ H _ I h) fun v s1 ⟨x, H1, I1, r1, q1⟩ => PyProof.Rows.args_nil ?_) na) na rfl
  obtain ⟨l, ns, rfl, hq, hlen, q1⟩ := q1
  cases r1
  have hsb : ns.length + 1 < scanBound := by unfold scanBound; omega
  rcases hq with hq | hq
  · obtain ⟨its, r, pl, hz⟩ := I1.list hq
    have hl : its.toArray.size = ns.length := by rw [List.size_toArray, ← r.length, List.length_map]
    refine PySem.call_set_list (I1.ok.hd hc) pl.isList (ns := ns) (by simpa using r.ints) (by rw [hl]; exact hsb) fun h' tk hS hk => ?_
    rw [hl] at hS
    refine PyProof.Rows.args_nil ?_
    obtain ⟨o, es, ep, t, ho, hex, hd, _, _, _, hf, hn⟩ := hS
    have hb := PyProof.Rows.firstMet_length_le (fun i => ns.getD i 0) ns.length
    have I2 : Inv X pins σ H1 { s1 with heap := h', toks := tk } := I1.kept fun b o e => hk b o (Heap.lt_size e) e
    obtain ⟨m1, m2⟩ := met_ok (fun i => ns.getD i 0) ns.length
    have := q1 _ m1 fun k => by rw [m2 k, range_get]
    refine PySem.call_len_set ho hex hd hf (by rw [hn] <;> omega) ⟨.int _, H1, I2.tok _, ⟨_, by rw [hn]⟩, this⟩
  · obtain ⟨its, r, pl, hz⟩ := I1.tuple hq
    refine call_set_tupI ns (I1.ok.hd hc) pl (by simpa using r.ints) hsb fun h' tk c hS hc' hk => ?_
    refine PyProof.Rows.args_nil ?_
    obtain ⟨o, es, ep, t, ho, hex, hd, _, hnd, hmem, _, hf, hn, _⟩ := hS
    have I2 : Inv X pins σ H1 { s1 with heap := h', toks := tk } := I1.kept hk
    have := q1 (es.toList.map keyOf) hnd fun k => by rw [← hmem k, decide_eq_true_eq]
    rw [List.length_map, Array.length_toList, hn] at this
    refine PySem.call_len_set ho hex hd hf (by rw [hn] <;> omega) ⟨.int _, H1, I2.tok _, ⟨_, by rw [hn]⟩, this⟩
section
variable {X : Cx} {e : Expr} {pos p p2 q : Pos} {ta : TB}
def gLenSet (d : D) (Q : W → Prop) : Prop := match d with
  | .list xs => ∃ ns, intsOf xs = some ns ∧ cLenSet ns fun i => Q (.fz (.int i))
  | .tuple xs => ∃ ns, intsOf xs = some ns ∧ cLenSet ns fun i => Q (.fz (.int i))
  | _ => False
def dLenSet (ta : TB) : TW := fun env Q => ta env fun d => gLenSet d Q
theorem dw_lenSet (hm : X.mg "len" = none) (hm2 : X.mg "set" = none) (ha : DB X e ta) (hc : X.calm = true := by rfl) (hg : Gl X "len" := by rfl) (hg2 : Gl X "set" := by rfl) (na : starEach [e] X.env = (false, eval e X.env) :: starEach [] X.env := by rfl) :
    DW X (.Call (.Name "len" p) [.Call (.Name "set" p2) [e] [] q] [] pos) (dLenSet ta) := by
  refine pe_mono (pe_lenSetA hg hm hg2 hm2 ha hc na) fun σ H Q ⟨env, F, ow, dm, P, S, q, k⟩ => ⟨env, F, ow, dm, _, S, q, fun d hd v F1 H1 x r => ?_⟩
  unfold gLenSet at hd
  split at hd
  · obtain ⟨ns, e, hl, hq⟩ := hd
    rw [intsOf_eq e] at r
    obtain ⟨a, us, rfl, hs, rr⟩ := r.lst_inv x.fh
    rw [dpAll_ints rr] at hs
    exact ⟨a, ns, rfl, .inl (.of hs), hl, fun L h1 h2 => got_here x.fh x.dl (.int _) (got_of x (k _ (hq L h1 h2)))⟩
  · obtain ⟨ns, e, hl, hq⟩ := hd
    rw [intsOf_eq e] at r
    obtain ⟨a, us, rfl, hF, hs, rr⟩ := r.tup_inv x.fh
    rw [dpAll_ints rr] at hs
    exact ⟨a, ns, rfl, .inr hs, hl, fun L h1 h2 => got_here x.fh x.dl (.int _) (got_of x (k _ (hq L h1 h2)))⟩
  · exact hd.elim
abbrev dShr (ta tb : TB) : TW := dOp2 (gI (fun _ j => 0 ≤ j) fun i j => .int (i / 2 ^ j.toNat)) ta tb
theorem dw_shr {a b : Expr} {tb : TB} (ha : DB X a ta) (hb : DB X b tb) : DW X (.BinOp a .RShift b pos) (dShr ta tb) := dw_op op_shr (snd_I fun _ _ h => h) ha hb
end
end DL

set_option maxHeartbeats 4000000
/-! DL, part y: a tuple times an int. -/
namespace L2
open PySem PySem.Spec PyProof.Rows
theorem tup_once (l : Addr) (items : Array Value) (n : Nat) (dd : Option Addr) (sl : Array (Option Value)) (u : Tok) :
    Meets (Builtin.«tuple.__mul__» ⟨[.ref l, .int 1 u], []⟩) (fun _ R s => s.heap.get? l = some { cls := .type "tuple", dict := dd, data := .seq items n, slots := sl } ∧ R (.ok (.ret (Value.ref l))) s) :=
  .of_wp fun prog w A R s h => by
    obtain ⟨hp, g, d, tk, os⟩ := s
    obtain ⟨hl, h⟩ := h
    have f1 := AutoSeq1.idx_int
    have c1 : (items.isEmpty || ((1 : Int) == 1)) = true := by rw [Bool.or_eq_true]; exact .inr rfl
    wp_walk using wpAny_loadPart' hl
    exact ⟨_, rfl, h⟩
def rRepT1 (K : PySem.W.Frag) : R2 := fun x y H Q => ∃ l xs, x = .ref l ∧ y = .int 1 ∧ SqT K H l xs ∧ Q (.ref l) H
theorem op_repT1 {X : Cx} : OpR X (binaryOp .Mult) (rRepT1 X.K) := by
  rintro pins s σ H x y v u Q I rx ry ⟨l, xs, rfl, rfl, hT, q⟩
  cases rx
  obtain ⟨t, rfl⟩ := ry
  obtain ⟨its, r, ⟨⟨cls, dd, data, sl⟩, ho, hc, n, hd⟩, hs⟩ := I.tuple hT
  simp only at hc hd
  subst hc hd
  refine wpAny_binaryOp_repeat_ref (T := "tuple") (U := "int") (by decide) ⟨_, ho, rfl⟩ (fun s' => typeIs_int s' 1 t) noFill_tuple_mul F.fills_int_mul F.slot_int_rmul repeat_tuple F.slot_int_index.lookup
    (call_meets F.slot_int_rmul (typeIs_int s 1 t) F.entry_int_rmul (F.args_int_rmul_2 _ _) (int_rmul_tuple 1 t l its.toArray n dd sl)
      ⟨ho, rfl, ⟨_, ho, rfl⟩, call_meets F.slot_tuple_mul ⟨_, ho, rfl⟩ F.entry_tuple_mul (F.args_tuple_mul_2 _ _) (tup_once l its.toArray n dd sl t) ⟨ho, ?_⟩⟩)
  exact ⟨.ref l, H, I, rfl, q⟩
end L2
namespace DL
open PySem L2
def gMulA : D → D → (W → Prop) → Prop := fun x y P => match x, y with
  | .int i, .int j => CMulW i j ∧ P (.fz (.int (i * j)))
  | .list xs, .int k => (-(2 ^ 63) ≤ k ∧ k < 2 ^ 63 ∧ xs.length * k.toNat ≤ sizeLine) ∧ P (.own ((List.replicate k.toNat xs).flatten.map .fz))
  | .tuple xs, .int k => (xs ≠ [] ∧ 1 ≤ k ∧ k ≤ 1000 ∧ xs.length ≤ 1000) ∧ P (.fz (.tuple (List.replicate k.toNat xs).flatten))
  | _, _ => False
theorem snd_mulA {K : PySem.W.Frag} : Snd2 K (fun x y H Q => ((rI CMulW fun i j => .int (i * j)) x y H Q ∨ rRep x y H Q) ∨ (rRepX K x y H Q ∨ rRepT1 K x y H Q)) gMulA := by
  intro dm F H x y d1 d2 Q P hs dl h1 h2 g k
  unfold gMulA at g
  split at g
  · exact .inl (snd_mul dm F H x y _ _ Q P hs dl h1 h2 g k)
  · exact .inl (snd_mul dm F H x y _ _ Q P hs dl h1 h2 g k)
  · rename_i xs j
    obtain ⟨a, us, rfl, hF, hq, rr⟩ := h1.tup_inv hs
    cases h2.int_inv
    obtain ⟨⟨g1, g2, g3, g4⟩, g5⟩ := g
    have hl := dpAll_length rr
    by_cases hj : j = 1
    · subst hj
      have e : (List.replicate (1 : Int).toNat xs).flatten = xs := by simp
      rw [e] at g5
      exact .inr (.inr ⟨a, us, rfl, rfl, hq, got_here hs dl (.tup hF rr) (k _ g5)⟩)
    · refine .inr (.inl ⟨a, j, us, rfl, rfl, hq, fun e => g1 ?_, by omega, g3, by omega, got_tup hs dl (dpAll_repeat rr j.toNat) (k _ g5)⟩)
      rw [e] at hl
      exact List.eq_nil_of_length_eq_zero hl.symm
  · exact g.elim
section
variable {X : Cx} {a b : Expr} {pos : Pos} {ta tb : TB}
abbrev dMulA (ta tb : TB) : TW := dOp2 gMulA ta tb
theorem dw_mulA (ha : DB X a ta) (hb : DB X b tb) : DW X (.BinOp a .Mult b pos) (dMulA ta tb) := dw_op (opOr (opOr op_mulW op_rep) (opOr op_repX op_repT1)) snd_mulA ha hb
end
end DL

set_option maxHeartbeats 1000000
/-! DL, part z: {elt for x in ..}: the set may be of any kind that has an add. -/
namespace DL
open PySem L2 PySem.Spec PyProof.Rows PpSet 
/-- D begins as O0 D; each item that is let in is added by the rule r of the add -/
def tScR (O0 : Addr → HO) (r : V → List V → Hp → VK → Prop) (wi : TI) (g : TG) (tt : TT) (te : TE) (vs : List Nat) : TE := fun σ H Q => wi σ H fun J H1 => ∀ D, H1 D = none → ∃ W : Nat → Nat → Hp → Prop, (∃ m, W 0 m (upd H1 D (O0 D))) ∧ ∀ i m H, W i m H →
  (J.stop i H ∧ Q (.ref D) H) ∨ (J.go i H ∧ ∃ Nx : Hp → Prop, (∀ H', Nx H' → ∃ m', m' < m ∧ W (i + 1) m' H') ∧ ∀ x H', J.yld i H x H' → g x (L2.wipe σ vs) H' fun σ2 H2 => L2.wipe σ2 vs = L2.wipe σ vs ∧ tt σ2 H2 fun b H3 =>
    if b = true then te σ2 H3 fun y H4 => r (.ref D) [y] H4 fun _ H5 => Nx H5 else Nx H3)
section
variable {X : Cx} {pins : List (Addr × Obj)} {s : Shared} {σ : L2.St} {H : Hp} {Q : VK} {elt tg iter : Expr} {ifs : List Expr} {scope : Scope} {own : List (PySem.Str × Nat)} {pos pos' : Pos} {wi : TI} {g : TG} {tt : TT} {te : TE} {use : Option (Value → Sem Unit)} {Qf : Value → Shared → Prop} {O0 : Addr → HO} {r : V → List V → Hp → VK → Prop}
/-- a set just made, as the heap holds it -/
abbrev setNew (w : World) : Obj := { cls := .type "set", dict := none, data := .set #[] 0 (.fresh 0 0 (!w.params.followText "set-order")) }
/-- one turn's end: back to the loop's invariant -/
theorem turn_end {X : Cx} {s3 s7 s' : Shared} {H3 H' : Hp} {ce : PySem.Env} {fp : List Addr} {σ σ8 : L2.St} {vs : List Nat} {tn : Nat → Heap → Prop} {i : Nat} (I' : L2.Inv (X.blk s3 H3 scope ce fp) ([] ++ pinsAt fp s7.heap) σ8 H' s') (hw : L2.wipe σ8 vs = L2.wipe σ vs)
    (keep : ∀ (h h' : Heap), tn (i + 1) h → (∀ b ∈ fp, ∀ o, h.get? b = some o → h'.get? b = some o) → tn (i + 1) h') (obj : ∀ b ∈ fp, ∃ o, s7.heap.get? b = some o) (st : tn (i + 1) s7.heap) :
    L2.Inv (X.blk s3 H3 scope ce fp) [] (L2.wipe σ vs) H' s' ∧ tn (i + 1) s'.heap ∧ ∀ b ∈ fp, H' b = none := by
  have at_ : ∀ b ∈ fp, ∀ o, s7.heap.get? b = some o → s'.heap.get? b = some o ∧ H' b = none := fun b hb o e => by
    have z := I'.pin (b, o) (List.mem_append_right _ (List.mem_append_right _ (mem_pinsAt hb e)))
    exact ⟨z.1, z.2.1⟩
  refine ⟨(I'.unpinned (pins := [])).weak (by rw [← hw, wipe_length]) (fun j v e => ?_), keep _ _ st fun b hb o e => (at_ b hb o e).1, fun b hb => ?_⟩
  · rw [← hw] at e
    exact (wipe_some e).1
  · obtain ⟨o, e⟩ := obj b hb
    exact (at_ b hb o e).2
theorem sc_any (hc : X.calm = true) (hN : X.N.Nodup) (hi : PI X tg iter wi) (ok : BlkOk X.N X.env.scope scope own)
    (hO : ∀ {H : Hp} {h : Heap}, ObjOk X.prog X.w H (h.push (setNew X.w)) h.objs.size (O0 h.objs.size)) (hm : ∀ X' : Cx, X'.prog = X.prog → X'.w = X.w → X'.K = X.K → MtR X' "set.add" r)
    (hg : ∀ (s : Shared) (H : Hp) (C : Addr) (cl : List (PySem.Str × Addr)) (fp : List Addr), PG (X.blk s H scope (compEnvC scope cl C X.env) fp) tg g) (ht : ∀ (s : Shared) (H : Hp) (C : Addr) (cl : List (PySem.Str × Addr)) (fp : List Addr), PTs (X.blk s H scope (compEnvC scope cl C X.env) fp) ifs tt)
    (he : ∀ (s : Shared) (H : Hp) (C : Addr) (cl : List (PySem.Str × Addr)) (fp : List Addr), PE (X.blk s H scope (compEnvC scope cl C X.env) fp) elt te) (hs : ∀ x, foldedSetIterable iter X.env x = pure x := by intro _; rfl) :
    PE X (.SetComp elt [⟨tg, iter, ifs, 0⟩] scope pos) (tScR O0 r wi g tt te (own.map (·.2))) := by
  refine ⟨fun pins s σ H Q I h => ?_⟩
  rw [eval_SetComp]
  have hfree : ∀ y ∈ scope.names, y.2 = .free → ∃ c, X.env.cells.lookup y.1 = some c := fun y hy e => (ok.free y hy e).elim (fun k => I.ok.has _ (.inl k)) fun k => I.ok.has _ (.inr k)
  refine wpAny_comprehension_free (use := none) rfl hs (closure_ok hfree) ok.kind (fun y hy e => by rw [ok.uniq y hy, e]) (thn (hi.run pins s σ H _ I h) fun xv s1 hx => thn hx fun itv s2 h2 => ?_)
  obtain ⟨it, fp, tn, J, H2, e, I2, T, st2, f2, q⟩ := h2
  subst e
  refine newSet_ok (newEnv_comp ?_)
  have hDn : H2 s2.heap.objs.size = none := I2.hok.fresh (Nat.le_refl _)
  obtain ⟨W, ⟨m0, w0⟩, turn⟩ := q _ hDn
  have I3 : L2.Inv X pins σ (upd H2 s2.heap.objs.size (O0 s2.heap.objs.size)) { s2 with heap := s2.heap.push (setNew X.w) } := I2.laid (t' := s2.toks) (fun b o e => Heap.get?_push_of_some _ e) (Nat.le_refl _) hO
  generalize hD : s2.heap.objs.size = D at I3 w0 turn hDn ⊢
  generalize hs3 : ({ s2 with heap := s2.heap.push (setNew X.w) } : Shared) = s3 at I3
  have h3 : s3.heap = s2.heap.push (setNew X.w) := by rw [← hs3]
  have f3 : ∀ b ∈ fp, FpOk X pins (upd H2 D (O0 D)) b ∧ b < s3.heap.objs.size := fun b hb => by
    obtain ⟨o, e, _⟩ := T.obj _ _ st2 b hb
    have hlt := Heap.lt_size e
    refine ⟨⟨?_, (f2 b hb).2⟩, by rw [h3, Heap.size_push]; exact Nat.lt_succ_of_lt hlt⟩
    rw [upd_ne (by rw [← hD]; exact Nat.ne_of_lt hlt)]
    exact (f2 b hb).1
  have st3 : tn 0 s3.heap := T.keep _ _ _ st2 fun b _ o e => by rw [h3]; exact Heap.get?_push_of_some _ e
  have I4 := block_start I3 ok hN f3
  generalize hH3 : upd H2 D (O0 D) = H3 at I3 I4 w0 f3
  have pg := hg s3 H3 s3.heap.objs.size (cellsFrom (s3.heap.objs.size + 1) scope.names (cloFrom X.env.cells scope.names [])) fp
  have pt := ht s3 H3 s3.heap.objs.size (cellsFrom (s3.heap.objs.size + 1) scope.names (cloFrom X.env.cells scope.names [])) fp
  have pe := he s3 H3 s3.heap.objs.size (cellsFrom (s3.heap.objs.size + 1) scope.names (cloFrom X.env.cells scope.names [])) fp
  show codeAny (model X.prog X.w) X.A (.compStart (.SetComp elt [⟨tg, iter, ifs, 0⟩] scope pos) 0 (.ref it) (.ref D) (compEnvC scope (cellsFrom (s3.heap.objs.size + 1) scope.names (cloFrom X.env.cells scope.names [])) s3.heap.objs.size X.env)) (compPost (model X.prog X.w) X.A X.xe none (EP X pins σ Q) (.ref D) s3.heap.objs.size) { s3 with heap := pushCells (s3.heap.push { cls := .type "dict", data := .dict #[] }) scope.names }
  generalize hce : compEnvC scope (cellsFrom (s3.heap.objs.size + 1) scope.names (cloFrom X.env.cells scope.names [])) s3.heap.objs.size X.env = ce at I4 pg pt pe ⊢
  have cL : ce.locals = s3.heap.objs.size := by subst hce; rfl
  have st4 : tn 0 (pushCells (s3.heap.push { cls := .type "dict", data := .dict #[] }) scope.names) := T.keep _ _ _ st3 fun b _ o e => pushCells_keeps _ _ _ _ (Heap.get?_push_of_some _ e)
  have free0 : ∀ b ∈ fp, H3 b = none := fun b hb => (f3 b hb).1.1
  have stat : ∀ {σ' : L2.St} {H' : Hp} {s' : Shared}, L2.Inv (X.blk s3 H3 scope ce fp) [] σ' H' s' → (∀ b ∈ fp, H' b = none) → ∀ b ∈ fp, FpOk (X.blk s3 H3 scope ce fp) [] H' b := fun I' hn b hb =>
    ⟨hn b hb, (I'.ok.exf b hb).1, I'.ok.exfs b hb, .inl hb, fun x c e => (I'.ok.exf b hb).2 x c e, fun p hp => absurd (show p ∈ ([] : List (Addr × Obj)) ++ [] from hp) (by simp)⟩
  refine codeAny_compStart_set ?loop (T.self X.A 0 _ _ _ st4 ?loop)
  refine compLoopS_any (fun n s' => ∃ i H', L2.Inv (X.blk s3 H3 scope ce fp) [] (L2.wipe σ (own.map (·.2))) H' s' ∧ tn i s'.heap ∧ (∀ b ∈ fp, H' b = none) ∧ W i n H') ?_ m0 ⟨0, H3, I4, st4, free0, w0⟩
  rintro n s5 ⟨i, H5, I5, st5, n5, w5⟩
  rcases turn i n H5 w5 with ⟨stop, qq⟩ | ⟨go, Nx, hNx, step⟩
  · refine thnF (T.done (X.blk s3 H3 scope ce fp) rfl rfl rfl hc i [] s5 _ H5 (fun _ _ => False) I5 (stat I5 n5) st5 stop) fun r6 s6 ⟨hr, I6⟩ => ?_
    subst hr
    have I7 : L2.Inv X pins σ H5 s6 := I3.call' (ch := fp) I6.os I6.base I6.hok I6.bare fun b hb => ⟨(f3 b hb).1.2.2.2.1, (f3 b hb).1.2.1, (f3 b hb).1.2.2.2.2.1, (f3 b hb).1.2.2.2.2.2⟩
    have nC : H5 s3.heap.objs.size = none := cL ▸ (show H5 ce.locals = none from I6.free)
    obtain ⟨m, hn, _⟩ := I6.loc
    have hn' : s6.heap.Ns s3.heap.objs.size m := cL ▸ (show s6.heap.Ns ce.locals m from hn)
    obtain ⟨f0, f1, f2', f3', f4, f5⟩ := I3.fpOk (Nat.le_refl _) nC
    refine ⟨m, hn', fun h'' sb => ⟨.ref D, H5, I7.turned (t' := s6.toks) (fun b o hb e => (sb.2 b hb).trans e) nC f1 f3' f4 f5, rfl, qq⟩⟩
  · refine thnF (T.item (X.blk s3 H3 scope ce fp) rfl rfl rfl hc i [] s5 _ H5 (fun _ _ => False) I5 (stat I5 n5) st5 go) fun r6 s6 ⟨u, hr, h6⟩ => ?_
    subst hr
    refine thnF h6 fun _ s7 ⟨x, H7, I7, r7, y7, st7, n7⟩ => ?_
    refine thnF (pg.run _ s7 _ H7 x u _ (I7.pinned (stat I7 n7) (T.obj _ _ st7)) r7 (step x H7 y7)) fun _ s8 ⟨σ8, H8, I8, hw8, q8⟩ => ?_
    refine thnF (pt.run _ s8 σ8 H8 _ I8 q8) fun b s9 ⟨H9, I9, q9⟩ => ?_
    have fin : ∀ {s' : Shared} {H' : Hp}, L2.Inv (X.blk s3 H3 scope ce fp) ([] ++ pinsAt fp s7.heap) σ8 H' s' → Nx H' → ∃ m, m < n ∧ ∃ i H', L2.Inv (X.blk s3 H3 scope ce fp) [] (L2.wipe σ (own.map (·.2))) H' s' ∧ tn i s'.heap ∧ (∀ b ∈ fp, H' b = none) ∧ W i m H' := fun {s' H'} I' nx => by
      obtain ⟨m', hm', w'⟩ := hNx H' nx
      obtain ⟨J1, J2, J3⟩ := turn_end (i := i) I' hw8 (T.keep (i + 1)) (fun b hb => (T.obj _ _ st7 b hb).imp fun _ z => z.1) st7
      exact ⟨m', hm', i + 1, H', J1, J2, J3, w'⟩
    cases b with
    | false =>
      simp only [Bool.false_eq_true, if_false] at q9 ⊢
      exact fin I9 q9
    | true =>
      simp only [if_true] at q9 ⊢
      refine thnF (pe.run _ s9 σ8 H9 _ I9 q9) fun z s10 ⟨yv, H10, I10, r10, hr10⟩ => ?_
      refine thnF (hm (X.blk s3 H3 scope ce fp) rfl rfl rfl _ s10 σ8 H10 (.ref D) [yv] (.ref D) [z] _ I10 rfl (.cons r10 .nil) hr10) fun _ s11 ⟨_, H11, I11, _, q11⟩ => ?_
      exact fin I11 q11
end
end DL

set_option maxHeartbeats 1000000
/-! DL, part za: len({e for x in ..}) of ints. -/
namespace DL
open PySem L2
/-- one turn after another: the ints that are put in -/
def compS (env : Env) (g : TGd) (tq : TQ) (tw : TW) : List D → List Int → (List Int → Prop) → Prop
  | [], acc, Q => Q acc
  | d :: ds, acc, Q => g d env fun env2 => tq env2 fun b => if b = true then tw env2 fun w => (match w with
    | .fz (.int k) => compS env g tq tw ds (acc ++ [k]) Q
    | _ => False) else compS env g tq tw ds acc Q
def dLenSc (vs : List Nat) (ti : TIt) (g : TGd) (tq : TQ) (tw : TW) : TW := fun env Q => ti env fun items => items.length < 4000 ∧ compS (wipeE env vs) g tq tw items [] fun ns => ∀ L : List Int, L.Nodup → (∀ k, k ∈ L ↔ k ∈ ns) → Q (.fz (.int (L.length : Nat)))
theorem compS_map {g : TGd} {tq : TQ} {tw : TW} {env : Env} {Q : List Int → Prop} (f : D → Int) {ds : List D} {acc : List Int}
    (h : ∀ d, d ∈ ds → ∀ (N : W → Prop) (M : Prop), N (.fz (.int (f d))) → g d env fun env2 => tq env2 fun b => if b = true then tw env2 N else M) (q : Q (acc ++ ds.map f)) : compS env g tq tw ds acc Q := by
  induction ds generalizing acc with
  | nil => simpa [compS] using q
  | cons d ds ih =>
    refine h d (List.mem_cons_self ..) _ _ (ih (fun d hd => h d (List.mem_cons_of_mem _ hd)) ?_)
    rw [List.append_assoc]
    exact q
theorem scTurns {X : Cx} {w : World} {g : TGd} {tq : TQ} {tw : TW} {vs ks : List Nat} {env : Env} {F H : Hp} {ow : Addr → Option Nat} {dm : DM} {PQ : List Int → Prop} {σ : St} {Q : VK} (S : SRx X.K env σ F H ow dm)
    (hks : ∀ i ∈ ks, i ∈ vs) {items : List D} (hz : items.length < 4000) (hc : compS (wipeE env vs) g tq tw items [] PQ) {J : It} {F1 H1 : Hp} {C : Addr → Prop} (x1 : Ext dm F H F1 H1) (hI : ItR X.K C F1 H1 J items)
    (hC : ∀ b, C b → H1 b ≠ none ∧ ¬ isM dm b) {d : Addr} (hd : H1 d = none)
    (hQ : ∀ F' H' Sx n ns, Ext dm F1 H1 F' H' → H' d = some (SetO w d Sx n) → (∀ k, Sx k = true ↔ k ∈ ns) → PQ ns → Q (.ref d) H') :
    ∃ W : Nat → Nat → Hp → Prop, (∃ m, W 0 m (upd H1 d (SetO w d (fun _ => false) 0))) ∧ ∀ i m H, W i m H → (J.stop i H ∧ Q (.ref d) H) ∨ (J.go i H ∧ ∃ Nx : Hp → Prop, (∀ H', Nx H' → ∃ m', m' < m ∧ W (i + 1) m' H') ∧
      ∀ x H', J.yld i H x H' → lG X.K ks g x (L2.wipe σ vs) H' fun σ2 H2 => L2.wipe σ2 vs = L2.wipe σ vs ∧ lT X.K tq σ2 H2 fun b H3 => if b = true then lW X.K tw σ2 H3 fun y H4 => rSAdd w (.ref d) [y] H4 fun _ H5 => Nx H5 else Nx H3) := by
  have S1 := S.ext x1
  have nMd : ¬ isM dm d := S1.notMN hd
  have fd1 : F1 d = none := x1.fh.free hd
  refine ⟨fun i m H' => m = items.length - i ∧ i ≤ items.length ∧ ∃ F' Sx n ns, Ext dm F1 H1 F' H' ∧ F' d = none ∧ H' d = some (SetO w d Sx n) ∧ (∀ k, Sx k = true ↔ k ∈ ns) ∧ n ≤ i ∧ compS (wipeE env vs) g tq tw (items.drop i) ns PQ,
    ⟨_, rfl, Nat.zero_le _, F1, _, 0, [], Ext.laidOwn x1.fh x1.dl hd, fd1, upd_same, (by simp), Nat.le_refl _, hc⟩, ?_⟩
  rintro i m H' ⟨rfl, hi, F', Sx, n, ns, x, fd, hl, hS, hn, hcw⟩
  have S' := S1.ext x
  have hIt := hI dm F' H' x.ff x.fh x.dl fun b hb => by
    have := hC b hb
    cases q : H1 b with
    | none => exact absurd q this.1
    | some o => exact x.hh b o q this.2
  rcases Nat.lt_or_ge i items.length with hlt | hge
  · refine .inr ?_
    obtain ⟨e0, he0⟩ : ∃ e0, items[i]? = some e0 := ⟨_, List.getElem?_eq_getElem hlt⟩
    have hdrop : items.drop i = e0 :: items.drop (i + 1) := by
      rw [List.drop_eq_getElem_cons hlt]
      rw [List.getElem?_eq_getElem hlt] at he0
      rw [Option.some.inj he0]
    rw [hdrop] at hcw
    obtain ⟨hgo, hy⟩ := hIt.1 i e0 he0
    refine ⟨hgo, _, fun H'' hN => ⟨items.length - (i + 1), by omega, hN⟩, fun y0 H2 hyl => ?_⟩
    obtain ⟨F2, x2, r2⟩ := hy y0 H2 hyl
    refine ⟨wipeE env vs, F2, ow, dm, e0, _, (S'.wipe vs).ext x2, r2, hcw, fun env2 hq σ2 S2 o2 => ⟨(wipe_of o2 hks).trans (wipe_of (only_wipe σ vs) fun _ h => h), env2, F2, ow, dm, _, S2, hq, fun b hb F3 H3 x3 => ?_⟩⟩
    have x23 := x2.trans x3
    have hD3 : H3 d = some (SetO w d Sx n) := x23.hh d _ hl nMd
    have fd3 : F3 d = none := x23.nw d fd (by rw [hl]; simp)
    cases b with
    | false =>
      exact ⟨rfl, hlt, F3, Sx, n, ns, x.trans x23, fd3, hD3, hS, Nat.le_succ_of_le hn, hb⟩
    | true =>
      refine ⟨env2, F3, ow, dm, _, S2.ext x3, hb, fun wv hw v F4 H4 fq x4 r4 nd4 fr4 => ?_⟩
      have hD4 : H4 d = some (SetO w d Sx n) := x4.hh d _ hD3 nMd
      have fd4 : F4 d = none := x4.nw d fd3 (by rw [hD3]; simp)
      have xx := (x.trans x23).trans x4
      split at hw
      · rename_i k
        cases r4 with
        | fz r4 =>
          cases r4
          have hsb : n + 1 < PySem.scanBound := by unfold PySem.scanBound; omega
          refine ⟨d, k, Sx, n, rfl, rfl, hD4, hsb, rfl, hlt, F4, _, _, ns ++ [k], xx.upd hd fd4 nMd, fd4, upd_same, fun j => ?_, ?_, hw⟩
          · rw [Bool.or_eq_true, hS j, List.mem_append, List.mem_singleton, decide_eq_true_eq]
          · split <;> omega
      · exact hw.elim
  · refine .inl ?_
    have e : i = items.length := Nat.le_antisymm hi hge
    subst e
    rw [List.drop_length] at hcw
    exact ⟨hIt.2, hQ F' H' Sx n ns x hl hS hcw⟩
def rLenSO (w : World) : List V → Hp → VK → Prop := fun xs H Q => ∃ a S n, xs = [.ref a] ∧ H a = some (SetO w a S n) ∧ ∀ L : List Int, L.Nodup → (∀ k, S k = true ↔ k ∈ L) → Q (.int (L.length : Nat)) H
theorem call_len_setO {X : Cx} : CallR X (.builtin "len") (rLenSO X.w) := by
  rintro pins s σ H xs us Q I r ⟨a, S, n, rfl, ha, q⟩
  cases r with
  | cons r rr =>
    cases rr
    cases r
    obtain ⟨o, es, ep, t, ho, hex, hd, _, hnd, hmem, hb, hf, hn, _⟩ := setO_get I ha
    unfold PySem.scanBound at hb
    have := q (es.toList.map keyOf) hnd hmem
    rw [List.length_map, Array.length_toList, hn] at this
    exact PySem.call_len_set ho hex hd hf (by rw [hn] <;> omega) ⟨.int _, H, I.tok _, ⟨_, by rw [hn]⟩, this⟩
section
variable {X : Cx} {elt tg iter : Expr} {ifs : List Expr} {scope : Scope} {own : List (Str × Nat)} {pos spos p : Pos} {ti : TIt} {g : TGd} {tq : TQ} {tw : TW} {ks : List Nat}
theorem dw_lenSc (own : List (Str × Nat)) (hm : X.mg "len" = none) (hN : X.N.Nodup) (hi : DI X false tg iter ti) (ok : blkC X.N X.env.scope scope own = true)
    (hg : ∀ (s : Shared) (H : Hp) (C : Addr) (cl : List (Str × Addr)) (fp : List Addr), DG (X.blk s H scope (compEnvC scope cl C X.env) fp) tg ks g) (ht : ∀ (s : Shared) (H : Hp) (C : Addr) (cl : List (Str × Addr)) (fp : List Addr), DTs (X.blk s H scope (compEnvC scope cl C X.env) fp) ifs tq)
    (he : ∀ (s : Shared) (H : Hp) (C : Addr) (cl : List (Str × Addr)) (fp : List Addr), DW (X.blk s H scope (compEnvC scope cl C X.env) fp) elt tw) (hks : ∀ i ∈ ks, i ∈ own.map (·.2) := by decide) (hc : X.calm = true := by rfl) (hs : ∀ x, foldedSetIterable iter X.env x = pure x := by intro _; rfl) (hgl : Gl X "len" := by rfl)
    (hse : starEach [.SetComp elt [⟨tg, iter, ifs, 0⟩] scope pos] X.env = (false, eval (.SetComp elt [⟨tg, iter, ifs, 0⟩] scope pos) X.env) :: starEach [] X.env := by rfl) :
    DW X (.Call (.Name "len" p) [.SetComp elt [⟨tg, iter, ifs, 0⟩] scope pos] [] spos) (dLenSc (own.map (·.2)) ti g tq tw) := by
  refine pe_mono (pe_callB call_len_setO hgl hm PySem.boot_len (pa_cons (sc_any (wi := lI X.K false ti) (g := lG X.K ks g) (tt := lT X.K tq) (te := lW X.K tw) (r := rSAdd X.w) (O0 := fun a => SetO X.w a (fun _ => false) 0) hc hN hi (blkOk_by ok) (fun {H h} => setO_new (setR_fresh X.w))
    (fun X' e1 e2 e3 => by rw [← e2]; exact mt_sadd) (fun s H C cl fp => hg s H C cl fp) (fun s H C cl fp => ht s H C cl fp) (fun s H C cl fp => he s H C cl fp) hs) pa_nil hse) (by decide) (by decide) hse) fun σ H Q ⟨env, F, ow, dm, P, S, q, k⟩ => ?_
  refine ⟨env, F, ow, dm, _, S, q, fun items ⟨hz, hcw⟩ J F1 H1 C x1 hI hC d hd => scTurns (w := X.w) (Q := fun x H => rLenSO X.w [x] H Q) (PQ := fun ns => ∀ L : List Int, L.Nodup → (∀ k, k ∈ L ↔ k ∈ ns) → P (.fz (.int (L.length : Nat)))) S hks hz hcw x1 hI (fun b hb => (hC b hb).2) hd fun F' H' Sx n ns x hl hS hP => ?_⟩
  exact ⟨d, Sx, n, rfl, hl, fun L h1 h2 => got_here x.fh x.dl (.int _) (got_of (x1.trans x) (k _ (hP L h1 fun j => ((h2 j).symm.trans (hS j)))))⟩
end
end DL

/-! DL, part zb: numbers as data: small lemmas that every law wants. -/
namespace DL
open PySem L2
abbrev iD (n : Nat) : D := .int (n : Nat)
abbrev tD (l : List Nat) : D := .tuple (l.map iD)
def fzn (n : Nat) : W := .fz (iD n)
def isI : D → Bool
  | .int _ => true
  | _ => false
def isN : D → Bool
  | .int i => decide (0 ≤ i)
  | _ => false
def isX (n : Int) : D → Bool
  | .int i => decide (0 ≤ i) && decide (i < n)
  | _ => false
def natOf : D → Nat
  | .int i => i.toNat
  | _ => 0
def intOf : D → Int
  | .int i => i
  | _ => 0
theorem size_ok {n : Nat} (h : n ≤ 1000000) : n < sizeLine := Nat.lt_of_le_of_lt h (by decide)
theorem size_le {n : Nat} (h : n ≤ 1000000) : n ≤ sizeLine := Nat.le_of_lt (size_ok h)
theorem flat_fzn (xs : List Nat) : W.flat (xs.map fzn) = some (xs.map iD) := W.flat_fm iD xs
theorem plains_fzn (l : List Nat) : W.plains (l.map fzn) = true := W.plains_fm iD l
theorem datas_fzn (l : List Nat) : W.datas (l.map fzn) = l.map iD := W.datas_fm iD l
theorem nds_fzn (l : List Nat) : W.nds (l.map fzn) = true := by
  induction l with
  | nil => rfl
  | cons x l ih => simp [W.nds, fzn, W.nd, ih]
theorem fz_iD (l : List Nat) : (l.map iD).map W.fz = l.map fzn := by rw [List.map_map]; rfl
theorem natOf_iD (l : List Nat) : (l.map iD).map natOf = l := by
  rw [List.map_map]
  conv => rhs; rw [← List.map_id l]
  exact List.map_congr_left fun x _ => Int.toNat_natCast x
theorem isX_nats {n : Nat} : ∀ {ds : List D}, ds.all (isX n) = true → ds = (ds.map natOf).map iD ∧ ∀ x ∈ ds.map natOf, x < n
  | [], _ => ⟨rfl, fun _ h => nomatch h⟩
  | d :: ds, h => by
    rw [List.all_cons, Bool.and_eq_true] at h
    obtain ⟨h1, h2⟩ := isX_nats h.2
    cases d with
    | int i =>
      have h3 := h.1
      unfold isX at h3
      rw [Bool.and_eq_true, decide_eq_true_eq, decide_eq_true_eq] at h3
      refine ⟨?_, fun x hx => ?_⟩
      · rw [List.map_cons, List.map_cons, ← h1]
        have : ((i.toNat : Nat) : Int) = i := by omega
        show _ = PyData.int ((i.toNat : Nat) : Int) :: ds
        rw [this]
      · rcases List.mem_cons.mp hx with rfl | hx
        · show i.toNat < n
          omega
        · exact h2 x hx
    | _ => simp [isX] at h
theorem isX_all {n : Nat} {l : List Nat} (h : ∀ x ∈ l, x < n) : (l.map iD).all (isX n) = true := by
  rw [List.all_eq_true]
  intro d hd
  obtain ⟨x, hx, rfl⟩ := List.mem_map.mp hd
  have := h x hx
  show (decide (0 ≤ (x : Int)) && decide ((x : Int) < (n : Int))) = true
  rw [Bool.and_eq_true, decide_eq_true_eq, decide_eq_true_eq]
  omega
theorem flatD_iD (xs : List Nat) : (xs.map iD).all D.flat = true := by
  rw [List.all_map, List.all_eq_true]
  intro x _
  rfl
theorem any_iD (xs : List Nat) (x : Nat) : ((xs.map iD).any fun d => PyData.eqv d (iD x)) = decide (x ∈ xs) := by
  induction xs with
  | nil => simp
  | cons y xs ih =>
    rw [List.map_cons, List.any_cons, ih]
    have : PyData.eqv (iD y) (iD x) = decide (y = x) := by
      rw [eqv_int]
      by_cases h : y = x
      · simp [h]
      · have h' : ¬ (y : Int) = x := by omega
        simp [h, h']
    rw [this]
    by_cases h : y = x
    · simp [h]
    · have h' : ¬ x = y := fun e => h e.symm
      simp [h, h']
theorem natsum (xs : List Nat) : (xs.map fun (n : Nat) => (n : Int)).sum = ((xs.sum : Nat) : Int) := by
  induction xs with
  | nil => rfl
  | cons x xs ih => simp [ih]
theorem ints_iD (xs : List Nat) : intsOf (xs.map iD) = some (xs.map fun (n : Nat) => (n : Int)) := by
  have := intsOf_map (xs.map fun (n : Nat) => (n : Int))
  rwa [List.map_map] at this
theorem atI_natD {α : Type} (xs : List α) (i : Nat) : L2.atI xs (i : Int) = xs[i]? := by
  unfold L2.atI L2.ixN
  rw [if_pos (by omega)]
  by_cases h : (i : Int) < xs.length
  · rw [if_pos h]; simp
  · rw [if_neg h, List.getElem?_eq_none (by omega)]; rfl
theorem atI_last {α : Type} (xs : List α) : L2.atI xs (-1) = xs[xs.length - 1]? := by
  unfold L2.atI L2.ixN
  rw [if_neg (by omega)]
  by_cases h : 0 < xs.length
  · rw [if_pos (by omega)]
    show xs[(((xs.length : Nat) : Int) + -1).toNat]? = _
    congr 1
    omega
  · have : xs = [] := List.eq_nil_of_length_eq_zero (by omega)
    subst this
    rfl
theorem at_iD {f : List Nat} {x : Nat} (h : x < f.length) : L2.atI (f.map iD) (x : Int) = some (iD (f.getD x 0)) := by
  rw [atI_natD, List.getElem?_map, List.getD_eq_getElem?_getD, List.getElem?_eq_getElem h]
  rfl
theorem at_map {α β : Type} {f : List α} {g : α → β} {x : Nat} (h : x < f.length) : L2.atI (f.map g) (x : Int) = some (g f[x]) := by
  rw [atI_natD, List.getElem?_map, List.getElem?_eq_getElem h]
  rfl
theorem set_fzn (g : List Nat) (j v : Nat) : (g.map fzn).set j (fzn v) = (g.set j v).map fzn := by rw [List.map_set]
theorem ixN_natD {n j : Nat} (h : j < n) : L2.ixN n (j : Int) = some j := by
  unfold L2.ixN
  rw [if_pos (by omega), if_pos (by omega)]
  simp
theorem drop_at {α : Type} {p : List α} {i : Nat} {m : α} (h : p[i]? = some m) : p.drop i = m :: p.drop (i + 1) := by
  obtain ⟨h1, h2⟩ := List.getElem?_eq_some_iff.mp h
  rw [List.drop_eq_getElem_cons h1, h2]
theorem items2_0 (n : Nat) : items2 0 n = (List.range n).map iD := by
  unfold items2
  exact List.map_congr_left fun x _ => by rw [Int.zero_add]
theorem items2_n (lo n : Nat) : items2 (lo : Int) n = ((List.range n).map (lo + ·)).map iD := by
  unfold items2
  rw [List.map_map]
  exact List.map_congr_left fun x _ => by
    show PyData.int ((lo : Int) + (x : Int)) = PyData.int ((lo + x : Nat) : Int)
    congr 1
theorem items2_z (n : Nat) : items2 0 (((n : Nat) : Int) - 0).toNat = (List.range n).map iD := by rw [Int.sub_zero, Int.toNat_natCast, items2_0]
theorem items2_i (n : Nat) : items2 0 ((n : Nat) : Int).toNat = (List.range n).map iD := by rw [Int.toNat_natCast, items2_0]
theorem items2_len (lo : Int) (n : Nat) : (items2 lo n).length = n := by unfold items2; rw [List.length_map, List.length_range]
theorem mulOk {i j : Int} (hi : -(2 ^ 64) < i ∧ i < 2 ^ 64) (hj : -(2 ^ 64) < j ∧ j < 2 ^ 64) : L2.CMulW i j := L2.wide_mul (a := 64) (b := 64) (by omega) (by omega) (by decide) (by decide) (by decide)
theorem iteF {b : Bool} {p q : Prop} (h : b = false) (hq : q) : if b = true then p else q := by subst h; exact hq
theorem iteT {b : Bool} {p q : Prop} (h : b = true) (hq : p) : if b = true then p else q := by subst h; exact hq
theorem ntT {b : Bool} (h : b = true) : (!b) = false := by subst h; rfl
theorem ntF {b : Bool} (h : b = false) : (!b) = true := by subst h; rfl
theorem isi_int (d : D) : isiD "int" d = (match d with | .int _ => true | .bool _ => true | _ => false) := by cases d <;> (simp only [isiD, tyD]; decide +kernel)
theorem isi_bool (d : D) : isiD "bool" d = (match d with | .bool _ => true | _ => false) := by cases d <;> (simp only [isiD, tyD]; decide +kernel)
theorem isi_tuple (d : D) : isiD "tuple" d = (match d with | .tuple _ => true | _ => false) := by cases d <;> (simp only [isiD, tyD]; decide +kernel)
theorem isi_str (d : D) : isiD "str" d = (match d with | .str _ => true | _ => false) := by cases d <;> (simp only [isiD, tyD]; decide +kernel)
theorem isi_list (d : D) : isiD "list" d = (match d with | .list _ => true | _ => false) := by cases d <;> (simp only [isiD, tyD]; decide +kernel)
/-! shapes and reprs of numbers -/
theorem shaped_iD (l : List Nat) : SeqAt.shaped (.list (l.map iD)) = true := by
  unfold SeqAt.shaped
  have h1 : (PyData.list (l.map iD)).canLay0 = true := by
    simp only [PyData.canLay0]
    exact lays_map fun x _ => by simp only [PyData.canLay0]
  rw [h1, Bool.true_and, decide_eq_true_eq]
  simp only [PyData.depth]
  have := depths_map (m := 0) (f := iD) (xs := l) fun x _ => by simp [PyData.depth]
  omega
theorem shaped_tD (l : List Nat) : SeqAt.shaped (tD l) = true := by
  unfold SeqAt.shaped
  have h1 : (tD l).canLay0 = true := by
    simp only [PyData.canLay0]
    exact lays_map fun x _ => by simp only [PyData.canLay0]
  rw [h1, Bool.true_and, decide_eq_true_eq]
  simp only [PyData.depth]
  have := depths_map (m := 0) (f := iD) (xs := l) fun x _ => by simp [PyData.depth]
  omega
theorem repr_iD {n : Nat} (h : n < 10 ^ 100) : (iD n).showable = true ∧ (iD n).hasDict = false ∧ (iD n).shown.length ≤ sizeLine ∧ (iD n).depth ≤ 40 :=
  repr_ok (k := 100) (by simp only [rok]; exact decide_eq_true (by simpa using h)) (by simp only [rz]; decide) (by simp [PyData.depth])
theorem repr_tD {l : List Nat} (h : ∀ x ∈ l, x < 10 ^ 100) (hl : l.length ≤ 5000) : (tD l).showable = true ∧ (tD l).hasDict = false ∧ (tD l).shown.length ≤ sizeLine ∧ (tD l).depth ≤ 40 := by
  refine repr_ok (k := 100) ?_ ?_ ?_
  · simp only [rok]
    refine roks_map fun x hx => ?_
    simp only [rok, decide_eq_true_eq]
    simpa using h x hx
  · simp only [rz]
    have := rzs_map (k := 100) (m := 101) (f := iD) (xs := l) fun x hx => by simp only [rz]; decide
    have h2 : l.length * (101 + 2) ≤ 5000 * 103 := Nat.mul_le_mul_right _ hl
    exact Nat.le_trans (Nat.add_le_add_right (Nat.le_trans this h2) 3) (by decide)
  · simp only [PyData.depth]
    have := depths_map (m := 0) (f := iD) (xs := l) fun x _ => by simp [PyData.depth]
    omega
theorem perm_iD {es : List D} {l : List Nat} (h : es.Perm (l.map iD)) : ∃ l2 : List Nat, es = l2.map iD ∧ l2.Perm l := by
  refine ⟨es.map natOf, ?_, ?_⟩
  · rw [List.map_map]
    have : es = es.map id := (List.map_id es).symm
    conv => lhs; rw [this]
    refine List.map_congr_left fun d hd => ?_
    obtain ⟨n, _, rfl⟩ := List.mem_map.mp (h.mem_iff.mp hd)
    show iD n = iD (n : Int).toNat
    rw [Int.toNat_natCast]
  · have := h.map natOf
    rwa [natOf_iD] at this
theorem perm_casts {ns' : List Int} {l : List Nat} (h : ns'.Perm (l.map fun (n : Nat) => (n : Int))) : ∃ m : List Nat, ns' = m.map (fun (n : Nat) => (n : Int)) ∧ m.Perm l := by
  refine ⟨ns'.map Int.toNat, ?_, ?_⟩
  · rw [List.map_map]
    have : ns' = ns'.map id := (List.map_id ns').symm
    conv => lhs; rw [this]
    refine List.map_congr_left fun d hd => ?_
    obtain ⟨n, _, rfl⟩ := List.mem_map.mp (h.mem_iff.mp hd)
    rfl
  · have := h.map Int.toNat
    rw [List.map_map] at this
    have e : (Int.toNat ∘ fun (n : Nat) => (n : Int)) = id := by funext n; simp
    rwa [e, List.map_id] at this
theorem nums_of {R : Nat → Prop} : ∀ {ws : List W}, (∀ w ∈ ws, ∃ n : Nat, w = fzn n ∧ R n) → ∃ ns : List Nat, ws = ns.map fzn ∧ ∀ n ∈ ns, R n
  | [], _ => ⟨[], rfl, fun _ h => nomatch h⟩
  | w :: ws, h => by
    obtain ⟨n, rfl, hn⟩ := h w (by simp)
    obtain ⟨ns, rfl, hns⟩ := nums_of (ws := ws) fun w hw => h w (by simp [hw])
    refine ⟨n :: ns, rfl, fun x hx => ?_⟩
    rcases List.mem_cons.mp hx with rfl | hx
    · exact hn
    · exact hns x hx
/-! two lists without doubles and with the same members are as long -/
theorem len_le_of_sub {α : Type} [DecidableEq α] : ∀ {a b : List α}, a.Nodup → (∀ x ∈ a, x ∈ b) → a.length ≤ b.length
  | [], _, _, _ => Nat.zero_le _
  | x :: a, b, h, hs => by
    have h' := List.nodup_cons.mp h
    have hx := hs x (List.mem_cons_self ..)
    have := len_le_of_sub (a := a) (b := b.erase x) h'.2 fun y hy => (List.mem_erase_of_ne (fun (e : y = x) => h'.1 (e ▸ hy))).mpr (hs y (List.mem_cons_of_mem _ hy))
    rw [List.length_erase_of_mem hx] at this
    have := List.length_pos_of_mem hx
    simp only [List.length_cons]
    omega
theorem len_eq_of_same {α : Type} [DecidableEq α] {a b : List α} (ha : a.Nodup) (hb : b.Nodup) (h : ∀ x, x ∈ a ↔ x ∈ b) : a.length = b.length :=
  Nat.le_antisymm (len_le_of_sub ha fun x => (h x).mp) (len_le_of_sub hb fun x => (h x).mpr)
/-- without doubles -/
def dd : List Nat → List Nat
  | [] => []
  | x :: xs => if x ∈ dd xs then dd xs else x :: dd xs
theorem dd_mem : ∀ {l : List Nat} {x : Nat}, x ∈ dd l ↔ x ∈ l
  | [], x => Iff.rfl
  | y :: l, x => by
    unfold dd
    split
    · rename_i h
      rw [dd_mem, List.mem_cons]
      exact ⟨.inr, fun z => z.elim (fun e => e ▸ dd_mem.mp h) id⟩
    · rw [List.mem_cons, List.mem_cons, dd_mem]
theorem dd_nodup : ∀ l : List Nat, (dd l).Nodup
  | [] => List.nodup_nil
  | y :: l => by
    unfold dd
    split
    · exact dd_nodup l
    · rename_i h
      exact List.nodup_cons.mpr ⟨h, dd_nodup l⟩
theorem dd_of_nodup : ∀ {l : List Nat}, l.Nodup → dd l = l
  | [], _ => rfl
  | y :: l, h => by
    have h' := List.nodup_cons.mp h
    unfold dd
    rw [dd_of_nodup h'.2, if_neg h'.1]
theorem dd_len_le : ∀ l : List Nat, (dd l).length ≤ l.length
  | [] => Nat.le_refl _
  | y :: l => by
    have := dd_len_le l
    unfold dd
    split <;> simp only [List.length_cons] <;> omega
theorem dd_len_nodup : ∀ {l : List Nat}, (dd l).length = l.length → l.Nodup
  | [], _ => List.nodup_nil
  | y :: l, h => by
    have := dd_len_le l
    unfold dd at h
    split at h
    · simp only [List.length_cons] at h; omega
    · rename_i hn
      simp only [List.length_cons] at h
      exact List.nodup_cons.mpr ⟨fun hm => hn (dd_mem.mpr hm), dd_len_nodup (by omega)⟩
/-- what len(set(..)) tells -/
theorem dd_len {L : List Int} {l : List Nat} (h1 : L.Nodup) (h2 : ∀ k, k ∈ L ↔ k ∈ l.map fun (n : Nat) => (n : Int)) : L.length = (dd l).length := by
  have e : (((dd l).map fun (n : Nat) => (n : Int))).length = (dd l).length := List.length_map ..
  rw [← e]
  refine len_eq_of_same h1 ?_ fun k => ?_
  · refine List.pairwise_map.mpr ((dd_nodup l).imp fun h => ?_)
    omega
  · rw [h2 k, List.mem_map, List.mem_map]
    exact ⟨fun ⟨x, hx, e⟩ => ⟨x, dd_mem.mpr hx, e⟩, fun ⟨x, hx, e⟩ => ⟨x, dd_mem.mp hx, e⟩⟩
/-! walks over numbers -/
theorem compW_nat {g : TGd} {tq : TQ} {tw : TW} {env : Env} {Q : W → Prop} (f : Nat → W) {l : List Nat} {acc : List W}
    (h : ∀ x, x ∈ l → ∀ (N : W → Prop) (M : Prop), N (f x) → g (iD x) env fun env2 => tq env2 fun b => if b = true then tw env2 N else M) (q : Q (.own (acc ++ l.map f))) : compW env g tq tw (l.map iD) acc Q := by
  refine compW_map (fun d => f (natOf d)) (fun d hd N M hN => ?_) ?_
  · obtain ⟨x, hx, rfl⟩ := List.mem_map.mp hd
    exact h x hx N M hN
  · have : (l.map iD).map (fun d => f (natOf d)) = l.map f := by
      rw [List.map_map]
      exact List.map_congr_left fun x _ => congrArg f (Int.toNat_natCast x)
    rw [this]
    exact q
theorem compW_natF {g : TGd} {tq : TQ} {tw : TW} {env : Env} {Q : W → Prop} (p : Nat → Bool) (f : Nat → W) {l : List Nat} {acc : List W}
    (h : ∀ x, x ∈ l → ∀ (N : W → Prop) (M : Prop), (p x = true → N (f x)) → (p x = false → M) → g (iD x) env fun env2 => tq env2 fun b => if b = true then tw env2 N else M) (q : Q (.own (acc ++ (l.filter p).map f))) : compW env g tq tw (l.map iD) acc Q := by
  refine compW_filter (fun d => p (natOf d)) (fun d => f (natOf d)) (fun d hd N M h1 h2 => ?_) ?_
  · obtain ⟨x, hx, rfl⟩ := List.mem_map.mp hd
    exact h x hx N M h1 h2
  · have : ((l.map iD).filter (fun d => p (natOf d))).map (fun d => f (natOf d)) = (l.filter p).map f := by
      rw [List.filter_map, List.map_map]
      have e1 : ((fun d => p (natOf d)) ∘ iD) = p := by funext x; exact congrArg p (Int.toNat_natCast x)
      rw [e1]
      exact List.map_congr_left fun x _ => congrArg f (Int.toNat_natCast x)
    rw [this]
    exact q
theorem compS_nat {g : TGd} {tq : TQ} {tw : TW} {env : Env} {Q : List Int → Prop} (f : Nat → Int) {l : List Nat} {acc : List Int}
    (h : ∀ x, x ∈ l → ∀ (N : W → Prop) (M : Prop), N (.fz (.int (f x))) → g (iD x) env fun env2 => tq env2 fun b => if b = true then tw env2 N else M) (q : Q (acc ++ l.map f)) : compS env g tq tw (l.map iD) acc Q := by
  refine compS_map (fun d => f (natOf d)) (fun d hd N M hN => ?_) ?_
  · obtain ⟨x, hx, rfl⟩ := List.mem_map.mp hd
    exact h x hx N M hN
  · have : (l.map iD).map (fun d => f (natOf d)) = l.map f := by
      rw [List.map_map]
      exact List.map_congr_left fun x _ => congrArg f (Int.toNat_natCast x)
    rw [this]
    exact q
/-- a loop over numbers by an invariant -/
theorem loopD_nat {g : TGd} {tb : TSd} {E : EndsD} (I : Nat → Env → Prop) {l : List Nat} {env : Env} (h0 : I 0 env)
    (step : ∀ i x env (N : Env → Prop), l[i]? = some x → I i env → (∀ e, I (i + 1) e → N e) → g (iD x) env fun env1 => tb { E with nx := N, ct := N, bk := E.nx } env1) (fin : ∀ env, I l.length env → E.nx env) : loopD g tb (l.map iD) E env := by
  refine loopD_ind I h0 (fun i d env N hd hI hN => ?_) (fun env h => fin env (by rwa [List.length_map] at h))
  rw [List.getElem?_map] at hd
  cases q : l[i]? with
  | none => rw [q] at hd; cases hd
  | some x =>
    rw [q] at hd
    cases hd
    exact step i x env N q hI hN
theorem loopD_range {g : TGd} {tb : TSd} {E : EndsD} (I : Nat → Env → Prop) {n : Nat} {env : Env} (h0 : I 0 env)
    (step : ∀ i env (N : Env → Prop), i < n → I i env → (∀ e, I (i + 1) e → N e) → g (iD i) env fun env1 => tb { E with nx := N, ct := N, bk := E.nx } env1) (fin : ∀ env, I n env → E.nx env) : loopD g tb ((List.range n).map iD) E env := by
  refine loopD_nat I h0 (fun i x env N hx hI hN => ?_) (fun env h => fin env (by rwa [List.length_range] at h))
  obtain ⟨h1, h2⟩ := List.getElem?_eq_some_iff.mp hx
  rw [List.length_range] at h1
  rw [List.getElem_range] at h2
  subst h2
  exact step i env N h1 hI hN
end DL

/-! DL, part zc: the items of a slot's own list become data; the list itself stays its own. -/
namespace DL
open PySem L2
theorem SA.frzPart {K : PySem.W.Frag} {A : Anc} {env : Env} {σ : St} {F H : Hp} {ow : Addr → Option Nat} {dm : DM} (S : SA K A env σ F H ow dm) {i : Nat} {w w' : W} (e : env[i]? = some (some w))
    (hw : ∀ v fp, WR K dm F H w v fp → fp.Nodup → ∃ fz fq : List Addr, (∀ a ∈ fz, a ∈ fp) ∧ fq.Nodup ∧ (∀ a ∈ fq, a ∈ fp ∧ a ∉ fz) ∧ WR K dm (addF F H fz) H w' v fq) : ∃ F' ow', SA K A (env.set i (some w')) σ F' H ow' dm := by
  obtain ⟨v, fp0, h1, h2, h3, h4⟩ := S.x.sl i w e
  obtain ⟨fp, fq, f1, f2, f3, f4⟩ := hw v fp0 h2 h3
  have h4' : ∀ a ∈ fp, ow a = some i := fun a ha => h4 a (f1 a ha)
  have hF : ∀ a ∈ fp, F a = none := fun a ha => (h2.there a (f1 a ha)).2
  have hs := addF_same (H := H) hF
  have nm : ∀ a ∈ fp, ¬ isM dm a := fun a ha => S.x.notM (h4' a ha)
  have get : ∀ {a : Addr}, a ∉ fp → addF F H fp a = F a := fun {a} ha => if_neg ha
  have sh : Same (addF F H fp) H := fun b o h => by
    unfold addF at h
    split at h
    · exact h
    · exact S.x.same b o h
  have hdl : ∀ p, dm = some p → DealAt (addF F H fp) H p.1 p.2 := fun p hp => by
    have d := S.x.dl p hp
    exact ⟨by rw [get fun z => nm _ z ⟨p, hp, .inl rfl⟩]; exact d.fa, by rw [get fun z => nm _ z ⟨p, hp, .inr rfl⟩]; exact d.fb, d.ex⟩
  refine ⟨addF F H fp, fun a => if a ∈ fp then none else ow a, ⟨sh, by rw [List.length_set]; exact S.x.len, fun j u hu => ?_, hdl, fun p hp => ?_⟩, ⟨S.anc.ff.trans hs, S.anc.hh, fun a a1 a2 => ?_, sh, fun p hp => ?_⟩, S.pin.trans hs, fun a j h => ?_, fun a j h => ?_, S.dmf⟩
  · by_cases ej : i = j
    · subst ej
      have hi : i < env.length := by
        rcases Nat.lt_or_ge i env.length with h | h
        · exact h
        · rw [List.getElem?_eq_none h] at e; cases e
      rw [List.getElem?_set_self hi] at hu
      cases hu
      refine ⟨v, fq, h1, f4, f2, fun a ha => ?_⟩
      show (if a ∈ fp then none else ow a) = some i
      rw [if_neg (f3 a ha).2]
      exact h4 a (f3 a ha).1
    · rw [List.getElem?_set_ne ej] at hu
      obtain ⟨z, fr, k1, k2, k3, k4⟩ := S.x.sl j u hu
      have nb : ∀ a ∈ fr, a ∉ fp := fun a ha z => by
        have := k4 a ha
        rw [h4' a z] at this
        exact ej (Option.some.inj this)
      refine ⟨z, fr, k1, k2.mono hs fun a ha => ⟨rfl, by rw [get (nb a ha)]; exact (k2.there a ha).2⟩, k3, fun a ha => ?_⟩
      show (if a ∈ fp then none else ow a) = some j
      rw [if_neg (nb a ha)]
      exact k4 a ha
  · have d := S.x.dow p hp
    show (if p.1 ∈ fp then none else ow p.1) = none ∧ (if p.2 ∈ fp then none else ow p.2) = none
    exact ⟨by split; rfl; exact d.1, by split; rfl; exact d.2⟩
  · rw [get fun z => by have := S.own a i (h4' a z); exact a2 this]
    exact S.anc.nw a a1 a2
  · rcases S.dmf with q | ⟨q, _⟩
    · exact hdl p (q ▸ hp)
    · rw [q] at hp; cases hp
  · have h' : (if a ∈ fp then none else ow a) = some j := h
    split at h'
    · cases h'
    · exact S.own a j h'
  · have h' : (if a ∈ fp then none else ow a) = some j := h
    split at h'
    · cases h'
    · exact S.owh a j h'
def dSettle (i : Nat) (t : TSd) : TSd := fun E env => match env[i]? with
  | some (some (.own ws)) => W.plains ws = true ∧ t E (env.set i (some (.own ((W.datas ws).map .fz))))
  | _ => False
theorem ds_settle {X : Cx} (i : Nat) {st : Stmt} {t : TSd} (h : DS X st t) : DS X st (dSettle i t) := by
  intro WW tk
  refine ps_mono (h WW tk) fun D σ H ⟨A, E, env, F, ow, dm, S, q, k⟩ => ?_
  unfold dSettle at q
  split at q
  · rename_i ws e
    obtain ⟨F', ow', S'⟩ := S.frzPart (w' := .own ((W.datas ws).map .fz)) e fun v fp r nd => by
      cases r with
      | own r1 r2 r3 =>
        rename_i a vs fp
        have nd' := List.nodup_cons.mp nd
        have hF : ∀ b ∈ fp, F b = none := fun b hb => (r3.there b hb).2
        refine ⟨fp, [a], fun b hb => List.mem_cons_of_mem _ hb, by simp, fun b hb => ?_, .own (by rw [addF, if_neg nd'.1]; exact r1) r2 (wrs_fz (r3.frozen (addF_same hF) q.1 fun b hb => if_pos hb))⟩
        rw [List.mem_singleton] at hb
        subst hb
        exact ⟨List.mem_cons_self .., nd'.1⟩
    exact ⟨A, E, _, F', ow', dm, S', q.2, k⟩
  · exact q.elim
end DL

/-! DL, part zd: walks over the data of any things. -/
namespace DL
open PySem L2
theorem compW_A {α : Type} {g : TGd} {tq : TQ} {tw : TW} {env : Env} {Q : W → Prop} (j : α → D) (f : α → W) {l : List α} {acc : List W}
    (h : ∀ x, x ∈ l → ∀ (N : W → Prop) (M : Prop), N (f x) → g (j x) env fun env2 => tq env2 fun b => if b = true then tw env2 N else M) (q : Q (.own (acc ++ l.map f))) : compW env g tq tw (l.map j) acc Q := by
  induction l generalizing acc with
  | nil => simpa [compW] using q
  | cons x l ih =>
    refine h x (List.mem_cons_self ..) _ _ (ih (fun y hy => h y (List.mem_cons_of_mem _ hy)) ?_)
    rw [List.append_assoc]
    exact q
theorem compW_AF {α : Type} {g : TGd} {tq : TQ} {tw : TW} {env : Env} {Q : W → Prop} (j : α → D) (p : α → Bool) (f : α → W) {l : List α} {acc : List W}
    (h : ∀ x, x ∈ l → ∀ (N : W → Prop) (M : Prop), (p x = true → N (f x)) → (p x = false → M) → g (j x) env fun env2 => tq env2 fun b => if b = true then tw env2 N else M) (q : Q (.own (acc ++ (l.filter p).map f))) : compW env g tq tw (l.map j) acc Q := by
  induction l generalizing acc with
  | nil => simpa [compW] using q
  | cons x l ih =>
    refine h x (List.mem_cons_self ..) _ _ (fun hp => ?_) (fun hp => ?_)
    · refine ih (fun y hy => h y (List.mem_cons_of_mem _ hy)) ?_
      rw [List.append_assoc]
      rw [List.filter_cons_of_pos hp] at q
      exact q
    · refine ih (fun y hy => h y (List.mem_cons_of_mem _ hy)) ?_
      rw [List.filter_cons_of_neg (by rw [hp]; simp)] at q
      exact q
/-- .. those that are told, by a partial function -/
theorem compW_AO {α : Type} {g : TGd} {tq : TQ} {tw : TW} {env : Env} {Q : W → Prop} (j : α → D) (f : α → Option W) {l : List α} {acc : List W}
    (h : ∀ x, x ∈ l → ∀ (N : W → Prop) (M : Prop), (∀ w, f x = some w → N w) → (f x = none → M) → g (j x) env fun env2 => tq env2 fun b => if b = true then tw env2 N else M) (q : Q (.own (acc ++ l.filterMap f))) : compW env g tq tw (l.map j) acc Q := by
  induction l generalizing acc with
  | nil => simpa [compW] using q
  | cons x l ih =>
    refine h x (List.mem_cons_self ..) _ _ (fun w hp => ?_) (fun hp => ?_)
    · refine ih (fun y hy => h y (List.mem_cons_of_mem _ hy)) ?_
      rw [List.append_assoc]
      rw [List.filterMap_cons, hp] at q
      exact q
    · refine ih (fun y hy => h y (List.mem_cons_of_mem _ hy)) ?_
      rw [List.filterMap_cons, hp] at q
      exact q
theorem loopD_A {α : Type} {g : TGd} {tb : TSd} {E : EndsD} (j : α → D) (I : Nat → Env → Prop) {l : List α} {env : Env} (h0 : I 0 env)
    (step : ∀ i x env (N : Env → Prop), l[i]? = some x → I i env → (∀ e, I (i + 1) e → N e) → g (j x) env fun env1 => tb { E with nx := N, ct := N, bk := E.nx } env1) (fin : ∀ env, I l.length env → E.nx env) : loopD g tb (l.map j) E env := by
  refine loopD_ind I h0 (fun i d env N hd hI hN => ?_) (fun env h => fin env (by rwa [List.length_map] at h))
  rw [List.getElem?_map] at hd
  cases q : l[i]? with
  | none => rw [q] at hd; cases hd
  | some x =>
    rw [q] at hd
    cases hd
    exact step i x env N q hI hN
theorem map_map_fzn {α : Type} (f : α → Nat) (l : List α) : (l.map fun x => fzn (f x)) = (l.map f).map fzn := by rw [List.map_map]; rfl
theorem map_map_iD {α : Type} (f : α → Nat) (l : List α) : (l.map fun x => iD (f x)) = (l.map f).map iD := by rw [List.map_map]; rfl
theorem cut_from {α : Type} (xs : List α) (k : Nat) : cutL xs (some (k : Int)) none = xs.drop k := by
  unfold cutL
  have h9 : HT.sIx xs.length xs.length none = xs.length := rfl
  rw [h9, HT.sIx_nat]
  rcases Nat.le_total k xs.length with h | h
  · rw [Nat.min_eq_left h]
    exact List.take_of_length_le (by rw [List.length_drop]; omega)
  · rw [Nat.min_eq_right h, List.drop_length, List.take_nil, List.drop_of_length_le h]
theorem cut_to {α : Type} (xs : List α) (k : Nat) : cutL xs none (some (k : Int)) = xs.take k := by
  unfold cutL
  have h0 : HT.sIx xs.length 0 none = 0 := rfl
  rw [h0, HT.sIx_nat, List.drop_zero, Nat.sub_zero]
  rcases Nat.le_total k xs.length with h | h
  · rw [Nat.min_eq_left h]
  · rw [Nat.min_eq_right h, List.take_length, List.take_of_length_le h]
theorem cut_last {α : Type} (xs : List α) : cutL xs none (some (-1)) = xs.dropLast := by
  unfold cutL
  have h : HT.sIx xs.length xs.length (some (-1)) = xs.length - 1 := by
    show (if (-1 : Int) < 0 then ((-1 : Int) + (xs.length : Int)).toNat else min (-1 : Int).toNat xs.length) = _
    rw [if_pos (by decide)]
    omega
  have h0 : HT.sIx xs.length 0 none = 0 := rfl
  rw [h0, h, List.drop_zero, Nat.sub_zero, List.dropLast_eq_take]
theorem cut_mid {α : Type} (xs : List α) (j k : Nat) : cutL xs (some (j : Int)) (some (k : Int)) = (xs.take k).drop j := by
  unfold cutL
  rw [HT.sIx_nat, HT.sIx_nat, List.drop_take]
  rcases Nat.le_total j xs.length with h | h
  · rw [Nat.min_eq_left h]
    rcases Nat.le_total k xs.length with h2 | h2
    · rw [Nat.min_eq_left h2]
    · rw [Nat.min_eq_right h2, List.take_of_length_le (by rw [List.length_drop]; omega), List.take_of_length_le (by rw [List.length_drop]; omega)]
  · rw [Nat.min_eq_right h, List.drop_length, List.take_nil, List.drop_of_length_le h, List.take_nil]
/-- each thing made is of this kind -/
theorem compW_all {g : TGd} {tq : TQ} {tw : TW} {env : Env} {Q : W → Prop} (R : W → Prop) {ds : List D} {acc : List W}
    (h : ∀ d, d ∈ ds → ∀ (N : W → Prop) (M : Prop), (∀ w, R w → N w) → g d env fun env2 => tq env2 fun b => if b = true then tw env2 N else M) (q : ∀ ws, ws.length = ds.length → (∀ w ∈ ws, R w) → Q (.own (acc ++ ws))) : compW env g tq tw ds acc Q := by
  refine compW_rel (fun _ w => R w) h fun ws hl hr => q ws hl fun w hw => ?_
  obtain ⟨i, hi, e⟩ := List.mem_iff_getElem.mp hw
  exact hr i ds[i] w (List.getElem?_eq_getElem (by omega)) (by rw [List.getElem?_eq_getElem hi, e])
/-- numbers made -/
theorem compW_nums {g : TGd} {tq : TQ} {tw : TW} {env : Env} {Q : W → Prop} (R : Nat → Prop) {ds : List D}
    (h : ∀ d, d ∈ ds → ∀ (N : W → Prop) (M : Prop), (∀ n, R n → N (fzn n)) → g d env fun env2 => tq env2 fun b => if b = true then tw env2 N else M) (q : ∀ ns : List Nat, ns.length = ds.length → (∀ n ∈ ns, R n) → Q (.own (ns.map fzn))) : compW env g tq tw ds [] Q := by
  refine compW_all (fun w => ∃ n : Nat, w = fzn n ∧ R n) (fun d hd N M hN => h d hd N M fun n hn => hN _ ⟨n, rfl, hn⟩) fun ws hl hr => ?_
  obtain ⟨ns, rfl, hns⟩ := nums_of hr
  rw [List.nil_append]
  exact q ns (by rw [List.length_map] at hl; exact hl) hns
/-- data made, told by things -/
theorem compW_things {α : Type} (j : α → D) {g : TGd} {tq : TQ} {tw : TW} {env : Env} {Q : W → Prop} (R : α → Prop) {ds : List D}
    (h : ∀ d, d ∈ ds → ∀ (N : W → Prop) (M : Prop), (∀ n, R n → N (.fz (j n))) → g d env fun env2 => tq env2 fun b => if b = true then tw env2 N else M) (q : ∀ ns : List α, ns.length = ds.length → (∀ n ∈ ns, R n) → Q (.own ((ns.map j).map .fz))) : compW env g tq tw ds [] Q := by
  refine compW_all (fun w => ∃ n : α, w = .fz (j n) ∧ R n) (fun d hd N M hN => h d hd N M fun n hn => hN _ ⟨n, rfl, hn⟩) fun ws hl hr => ?_
  have key : ∀ ws : List W, (∀ w ∈ ws, ∃ n : α, w = .fz (j n) ∧ R n) → ∃ ns : List α, ws = (ns.map j).map .fz ∧ ∀ n ∈ ns, R n := by
    intro ws
    induction ws with
    | nil => exact fun _ => ⟨[], rfl, fun _ h => nomatch h⟩
    | cons w ws ih =>
      intro hw
      obtain ⟨n, rfl, hn⟩ := hw w (by simp)
      obtain ⟨ns, rfl, hns⟩ := ih fun w h => hw w (by simp [h])
      refine ⟨n :: ns, rfl, fun x hx => ?_⟩
      rcases List.mem_cons.mp hx with rfl | hx
      · exact hn
      · exact hns x hx
  obtain ⟨ns, rfl, hns⟩ := key ws hr
  rw [List.nil_append]
  exact q ns (by rw [List.length_map, List.length_map] at hl; exact hl) hns
theorem replicate_none {n j : Nat} {w : W} (h : (List.replicate n (none : Option W))[j]? = some (some w)) : False := by
  rw [List.getElem?_replicate] at h
  split at h <;> cases h
theorem datas_fm2 {α : Type} (f : α → Nat) (xs : List α) : W.datas (xs.map fun x => fzn (f x)) = xs.map fun x => iD (f x) := W.datas_fm (fun x => iD (f x)) xs
theorem plains_fm2 {α : Type} (f : α → Nat) (xs : List α) : W.plains (xs.map fun x => fzn (f x)) = true := W.plains_fm (fun x => iD (f x)) xs
theorem flat_fm2 {α : Type} (f : α → Nat) (xs : List α) : W.flat (xs.map fun x => fzn (f x)) = some (xs.map fun x => iD (f x)) := W.flat_fm (fun x => iD (f x)) xs
theorem nds_fm2 {α : Type} (f : α → Nat) (xs : List α) : W.nds (xs.map fun x => fzn (f x)) = true := by rw [map_map_fzn]; exact nds_fzn _
end DL

/-! DL, part ze: a, b = xs.pop(). -/
namespace DL
open PySem L2
section
variable {X : Cx} {e tg : Expr} {pos : Pos}
/-- a, b = x.pop(): the last item, data, taken apart -/
def dPopG (i : Nat) (g : TGd) : TSd := fun E env => match env[i]? with
  | some (some (.own ws)) => ∃ us d, ws = us ++ [.fz d] ∧ g d (env.set i (some (.own us))) E.nx
  | _ => False
theorem ds_popG (i : Nat) {g : TGd} {ks : List Nat} (h : PE X e (tBM0 X.K "list" rPop (tVar i))) (hg : DG X tg ks g) (hs : swapsWithSole [tg] e pos.line X.env = pure false := by rfl) (hw : swappedStores [tg] e X.env = pure none := by rfl)
    (h1 : (assignEach [tg] X.env).map (·.2) = [assign tg X.env] := by rfl) : DS X (.Assign [tg] e pos) (dPopG i g) := by
  intro _ _
  refine ps_mono (ps_asg h hg hs hw h1) fun D σ H ⟨A, E, env, F, ow, dm, S, q, k⟩ => ?_
  unfold dPopG at q
  split at q
  · rename_i ws ei
    obtain ⟨us, d, rfl, q⟩ := q
    obtain ⟨l, vs, fp, hσ, hl, Fl, nM, r, nd, nmf, K⟩ := S.mut ei
    obtain ⟨zs, v, fq, fr, rfl, rfl, r1, r2⟩ := WRs.last r
    refine ⟨.ref l, hσ, .inl ⟨rfl, _, SqL.of hl⟩, l, zs ++ [v], v, rfl, rfl, hl, by simp, ?_⟩
    cases r2 with
    | fz r2 =>
      rw [List.append_nil] at nd nmf
      have S1 := K F H us zs fq S.x.refl hl r1 nd fun c hc => .inl (by rw [List.append_nil]; exact hc)
      rw [List.dropLast_concat]
      exact ⟨_, F, _, _, d, _, S1.x, r2, q, fun env' h' σ' S' _ => k.nx env' σ' F _ _ _ ⟨S', S1.anc, S1.pin, S1.own, S1.owh, S1.dmf⟩ h'⟩
  · exact q.elim
end
end DL

set_option maxHeartbeats 4000000
/-! DL, part zf: a list extended by a tuple; a tuple sorted. -/
namespace L2
open PySem PySem.Spec PyProof.Rows
theorem ext_tup (l b : Addr) (xs ys : Array Value) (n k : Nat) (dd : Option Addr) (sl : Array (Option Value)) (hl : ¬ (!xs.isEmpty && Builtin.List.listTooLong (xs.size + ys.size)) = true) (h1 : xs.size ≤ sizeLine) (h2 : xs.size + ys.size ≤ sizeLine + 1) :
    Meets (Builtin.«list.extend» ⟨[.ref l, .ref b], []⟩) (fun _ R s => s.heap.get? l = some { cls := .type "list", data := .seq xs n } ∧ s.heap.get? b = some { cls := .type "tuple", dict := dd, data := .seq ys k, slots := sl } ∧ R (.ok (.ret Value.none)) { s with heap := s.heap.update l (Obj.mapSeq fun z => z ++ ys), toks := s.toks }) :=
  .of_wp fun prog w A R s h => by
    obtain ⟨hp, g, d, tk, os⟩ := s
    obtain ⟨hl1, hb1, h⟩ := h
    have g1 := AutoSeq1.sub_tuple_list
    have g2 := AutoSeq1.sub_list_list
    have g3 := AutoSeq1.sub_tuple_tuple
    have g4 := AutoSeq1.sub_list_tuple
    have hz' : (xs ++ ys).size ≤ sizeLine + 1 := by rw [Array.size_append]; exact h2
    wp_walk using (wpAny_updateSeq hl1 rfl (hz := h1) (_hz' := hz')), AutoSeq1.wpAny_loadPart' hl1, AutoSeq1.wpAny_loadPart' hb1
    exact ⟨_, rfl, h⟩
/-- x.extend(t), t a tuple -/
def rExtendT (K : PySem.W.Frag) : V → List V → Hp → VK → Prop := fun x vs H Q => ∃ l b xs zs, x = .ref l ∧ vs = [.ref b] ∧ H l = some (.lst xs) ∧ SqT K H b zs ∧ xs.length + zs.length ≤ sizeLine ∧ Q .non (upd H l (.lst (xs ++ zs)))
theorem mt_extendA {X : Cx} : MtM X "list.extend" (fun x vs H Q => rExtend x vs H Q ∨ rExtendT X.K x vs H Q) := by
  intro pins s σ H x vs v us Q I rx rv h
  rcases h with h | ⟨l, b, xs, zs, rfl, rfl, hH, hB, hz, q⟩
  · exact mt_extend pins s σ H x vs v us Q I rx rv h
  · cases rx
    obtain ⟨u, rfl, ru⟩ := rv.one
    cases ru
    obtain ⟨z, its, n, r, hl, e⟩ := I.lstM hH
    obtain ⟨its2, r2, ⟨⟨cls, dd, data, sl⟩, ho, hc, n2, hd⟩, hs⟩ := I.tuple hB
    simp only at hc hd
    subst hc hd
    have hl2 := r2.length
    have sz : its.toArray.size + its2.toArray.size ≤ sizeLine := by simp only [List.size_toArray]; omega
    have lg : ¬ (!its.toArray.isEmpty && Builtin.List.listTooLong (its.toArray.size + its2.toArray.size)) = true := by rw [notLongL sz]; simp
    refine call_meets F.slot_list_extend ⟨_, e, rfl⟩ F.entry_list_extend (F.args_list_extend_2 _ _) (ext_tup l b its.toArray its2.toArray n n2 dd sl lg (by omega) (by omega)) ⟨e, ho, .non, _, I.lset (its' := its ++ its2) hH e (by simp) (r.append r2) (by rw [List.length_append]; omega), rfl, q⟩
end L2
namespace DL
open PySem L2
section
variable {X : Cx} {e : Expr} {pos : Pos}
/-- x.extend(e), e a list or a tuple looked at -/
def dExtA (i : Nat) (tb : TB) : TSd := fun E env => match env[i]? with
  | some (some (.own ws)) => tb env fun d => match d with
    | .list ds => ws.length + ds.length ≤ sizeLine ∧ E.nx (env.set i (some (.own (ws ++ ds.map .fz))))
    | .tuple ds => ws.length + ds.length ≤ sizeLine ∧ E.nx (env.set i (some (.own (ws ++ ds.map .fz))))
    | _ => False
  | _ => False
theorem ds_extendA (i : Nat) {tb : TB} (h : PE X e (tBM X.K "list" (fun x vs H Q => rExtend x vs H Q ∨ rExtendT X.K x vs H Q) (tVar i) (lDs X.K (aCons tb aNil)))) (hs : swapsWith e none pos.line X.env = pure false := by rfl) : DS X (.Expr e pos) (dExtA i tb) := by
  intro _ _
  refine ps_mono (ps_expr h hs) fun D σ H ⟨A, E, env, F, ow, dm, S, q, k⟩ => ?_
  unfold dExtA at q
  split at q
  · rename_i ws ei
    obtain ⟨l, vs, fp, hσ, hl, Fl, nM, r, nd, nmf, K⟩ := S.mut ei
    refine ⟨.ref l, hσ, .inl ⟨rfl, _, SqL.of hl⟩, env, F, ow, dm, fun ds => ∃ es, (ds = [.list es] ∨ ds = [.tuple es]) ∧ ws.length + es.length ≤ sizeLine ∧ E.nx (env.set i (some (.own (ws ++ es.map .fz)))), S.x, ?_, fun ds hd us F1 H1 x1 r1 => ?_⟩
    · refine Eq.mp (congrArg (tb env) ?_) q
      funext d
      refine propext ⟨fun hd => ?_, fun ⟨es, he, hd⟩ => ?_⟩
      · split at hd
        · exact ⟨_, .inl rfl, hd⟩
        · exact ⟨_, .inr rfl, hd⟩
        · exact hd.elim
      · rcases he with he | he <;> (cases he; exact hd)
    · obtain ⟨es, he, hz, hn⟩ := hd
      have hl1 : H1 l = some (.lst vs) := x1.hh l _ hl nM
      have fin : ∀ zs, DpAll X.K F1 zs es → D.nx σ (upd H1 l (.lst (vs ++ zs))) := fun zs rz => by
        refine k.nx _ _ _ _ _ _ (K F1 H1 (ws ++ _) (vs ++ zs) fp x1 hl1 ?_ nd fun c hc => .inl hc) hn
        have := WRs.app (wexts x1 r nmf) (wrs_fz (dm := dm) (H := H1) rz)
        rw [List.append_nil] at this
        exact this
      rcases he with rfl | rfl
      · obtain ⟨v, rfl, rd⟩ := dball1 r1
        obtain ⟨b, zs, rfl, hb, rz⟩ := rd.lst_inv x1.fh
        exact .inl ⟨l, b, vs, zs, rfl, rfl, hl1, hb, by rw [wrs_length r, dpAll_length rz]; exact hz, fin zs rz⟩
      · obtain ⟨v, rfl, rd⟩ := dball1 r1
        obtain ⟨b, zs, rfl, _, hb, rz⟩ := rd.tup_inv x1.fh
        exact .inr ⟨l, b, vs, zs, rfl, rfl, hl1, hb, by rw [wrs_length r, dpAll_length rz]; exact hz, fin zs rz⟩
  · exact q.elim
end
end DL
/-! ### sorted(t) -/
namespace SrtO
open PySem PyProof.Rows Srt
section
variable {prog : Program} {w : World} {A : Around} {E : Value → Shared → Prop} {s : Shared}
theorem collect_tuple {l : Addr} {vs : List Value} {Q : List Value → Shared → Prop} (ht : IsTup s.heap l vs.toArray) (hz : vs.length ≤ sizeLine)
    (h : Q vs { s with heap := (s.heap.push (seqObj "list" #[] 0)).update s.heap.objs.size (Obj.mapSeq (· ++ vs.toArray)) }) : wpAny (model prog w) A (collect (.ref l)) Q E s := by
  obtain ⟨o, ho, hc, n, hd⟩ := ht
  have hL : (s.heap.push (seqObj "list" #[] 0)).get? s.heap.objs.size = some (seqObj "list" #[] 0) := Heap.get?_push_size _ rfl
  have hT : (s.heap.push (seqObj "list" #[] 0)).get? l = some o := Heap.get?_push_of_some _ ho
  have hN : ((#[] : Array Value) ++ vs.toArray).toList = vs := by simp
  have tail : wpAny (model prog w) A (do let o ← load s.heap.objs.size; match o.data with | .seq xs _ => pure xs.toList | _ => unsupported "internal:collect") Q E { s with heap := (s.heap.push (seqObj "list" #[] 0)).update s.heap.objs.size (Obj.mapSeq (· ++ vs.toArray)) } := by
    refine wpAny_bind (wpAny_load (get?_update_seq hL _) ?_)
    show wpAny _ _ (pure _) Q E _
    rw [hN]
    exact wpAny_pure h
  have ty : (Value.type "tuple" == Value.type "tuple") = true := by rfl
  unfold collect
  refine wpAny_bind (wpAny_runValue (codeAny_builtin entry_proto_collect' ?_))
  show wpAny _ _ (newList [] >>= fun x => again (.builtin "list.__iadd__" ⟨[x, .ref l], []⟩)) _ _ s
  refine wpAny_bind (wpAny_newList (wpAny_pure ⟨Code.quiet_builtin _ (by decide +kernel), codeAny_builtin entry_list_iadd' ?_⟩))
  show wpAny _ _ (Builtin.List.listExtendWith (.ref s.heap.objs.size) (.ref l) (.ref s.heap.objs.size)) _ _ _
  unfold Builtin.List.listExtendWith
  refine wpAny_bind (wpAny_typeOf (T := "tuple") ⟨o, hT, hc⟩ ?_)
  rw [if_pos (by simp [ty])]
  refine wpAny_bind (listItems_at hT hd (wpAny_bind (listItems_at hL rfl ?_)))
  rw [if_neg (by simp)]
  exact wpAny_bind (listUpdate_at hL rfl (wpAny_pure tail) (Nat.zero_le _) (by show (#[] ++ vs.toArray).size ≤ sizeLine + 1; simp; omega))
/-- sorted(t), t a tuple, by an order -/
theorem sorted_tuple {l : Addr} {vs : List Value} {ltv : Value → Value → Bool} {Q : Value → Shared → Prop} (O : Swo ltv) (ht : IsTup s.heap l vs.toArray) (hz : vs.length ≤ sizeLine)
    (hS : 2 ≤ vs.length → ∀ (h₁ : Heap) (a : Addr), h₁.get? a = some (seqObj "list" vs.toArray 0) → (∀ b o, s.heap.get? b = some o → b ≠ a ∧ h₁.get? b = some o) → SortableO prog w A.in1.in1 { s with heap := h₁ } a vs ltv)
    (h : ∀ out : List Value, Srtd ltv out → Stb ltv out vs → Q (.ref (s.heap.objs.size + 1)) { s with heap := sortedAll s.heap vs out.toArray }) : wpAny (model prog w) A (call (.builtin "sorted") [.ref l]) Q E s := by
  have size1 : ((s.heap.push (seqObj "list" #[] 0)).update s.heap.objs.size (Obj.mapSeq (· ++ vs.toArray))).objs.size = s.heap.objs.size + 1 := by rw [Heap.size_update, size_push']
  have at2 : (((s.heap.push (seqObj "list" #[] 0)).update s.heap.objs.size (Obj.mapSeq (· ++ vs.toArray))).push (seqObj "list" vs.toArray 0)).get? (s.heap.objs.size + 1) = some (seqObj "list" vs.toArray 0) := by
    rw [← size1]
    exact Heap.get?_push_size _ rfl
  have old : ∀ b o, s.heap.get? b = some o → b ≠ s.heap.objs.size + 1 ∧ (((s.heap.push (seqObj "list" #[] 0)).update s.heap.objs.size (Obj.mapSeq (· ++ vs.toArray))).push (seqObj "list" vs.toArray 0)).get? b = some o := fun b o q => by
    have lt := Heap.lt_size q
    refine ⟨Nat.ne_of_lt (Nat.lt_succ_of_lt lt), Heap.get?_push_of_some _ ?_⟩
    rw [Heap.get?_update_ne _ _ _ _ (Nat.ne_of_lt lt)]
    exact Heap.get?_push_of_some _ q
  refine Calls.call_function_entry kind_sorted plain_sorted entry_sorted (args_sorted1 _) ?_
  unfold Builtin.«sorted»
  refine wpAny_bind (m := checkCount "sorted" 1 1 _) (wpAny_pure (wpAny_bind (collect_tuple ht hz (wpAny_bind (wpAny_newList ?_ hz)))))
  show wpAny _ _ _ _ _ { s with heap := ((s.heap.push (seqObj "list" #[] 0)).update s.heap.objs.size (Obj.mapSeq (· ++ vs.toArray))).push (seqObj "list" vs.toArray 0) }
  rw [size1]
  exact wpAny_bind (wpAny_holding (wpAny_call_entry slot_list_sort ⟨_, at2, rfl⟩ entry_list_sort (list_sort_ord O at2 hz (fun h2 => hS h2 _ _ at2 old) fun out hs hb => ⟨_, rfl, wpAny_pure ⟨_, rfl, h out hs hb⟩⟩) (args_list_sort _)))
end
end SrtO
namespace L2
open PySem PySem.Spec PyProof.Rows
/-- sorted(xs), ints, a list or a tuple -/
def rSortedIT (K : PySem.W.Frag) : List V → Hp → VK → Prop := fun vs H Q => ∃ (a : Addr) (ns : List Int), vs = [V.ref a] ∧ SqT K H a (ns.map V.int) ∧
  ∀ (ns' : List Int) (p : Addr), ns'.Perm ns → ns'.Pairwise (· ≤ ·) → H p = none → Q (.ref p) (upd H p (.lst (ns'.map V.int)))
theorem cr_sortedA {X : Cx} : CallR X (.builtin "sorted") (fun vs H Q => rSortedI X.K vs H Q ∨ rSortedIT X.K vs H Q) := by
  intro pins s σ H vs us Q I r h
  rcases h with h | ⟨a, ns, rfl, hs, q⟩
  · exact cr_sortedI pins s σ H vs us Q I r h
  · obtain ⟨its, rv, hl, hz⟩ := I.tuple hs
    rw [Vals.ref1 r]
    have hi := rv.ints
    refine SrtO.sorted_tuple SrtO.swo_int hl (by rw [← rv.length]; exact hz) (fun h2 h₁ a' _ _ => SrtO.ints_sortable hi h2) fun out h1 h2 => ?_
    obtain ⟨k1, k2, k3⟩ := SrtO.ints_out hi h1 h2
    obtain ⟨ep, he⟩ := PyProof.Rows.sortedAll_at s.heap its out.toArray
    have sz : ((out.map SrtO.iv).map V.int).length ≤ sizeLine := by
      rw [List.length_map, k2.length_eq, ← List.length_map (f := V.int)]
      exact hz
    exact ⟨.ref _, upd H (s.heap.objs.size + 1) (.lst ((out.map SrtO.iv).map V.int)), I.laid (t' := s.toks) (fun _ _ => PyProof.Rows.sortedAll_old) (Nat.le_succ _) ⟨sz, out, ep, vals_of_ints k1, he⟩, rfl, q _ _ k2 k3 (I.hok.fresh (Nat.le_succ _))⟩
end L2
namespace DL
open PySem L2
def gSortedA : List D → (W → Prop) → Prop := fun ds P => match ds with
  | [.list xs] => ∃ ns, intsOf xs = some ns ∧ ∀ ns' : List Int, ns'.Perm ns → ns'.Pairwise (· ≤ ·) → P (.own ((ns'.map PyData.int).map .fz))
  | [.tuple xs] => ∃ ns, intsOf xs = some ns ∧ ∀ ns' : List Int, ns'.Perm ns → ns'.Pairwise (· ≤ ·) → P (.own ((ns'.map PyData.int).map .fz))
  | _ => False
theorem snd_sortedA {K : PySem.W.Frag} : SndC K (fun vs H Q => rSortedI K vs H Q ∨ rSortedIT K vs H Q) gSortedA := by
  intro dm F H vs ds Q P hs dl r g k
  unfold gSortedA at g
  split at g
  · obtain ⟨ns, e, g⟩ := g
    rw [intsOf_eq e] at r
    obtain ⟨v, rfl, h⟩ := dball1 r
    obtain ⟨a, us, rfl, hq, rr⟩ := h.lst_inv hs
    rw [dpAll_ints rr] at hq
    exact .inl ⟨a, ns, rfl, .of hq, fun ns' p h1 h2 hp => got_lst0 hs dl (dpAll_of_ints ns') (k _ (g ns' h1 h2)) hp⟩
  · obtain ⟨ns, e, g⟩ := g
    rw [intsOf_eq e] at r
    obtain ⟨v, rfl, h⟩ := dball1 r
    obtain ⟨a, us, rfl, _, hq, rr⟩ := h.tup_inv hs
    rw [dpAll_ints rr] at hq
    exact .inr ⟨a, ns, rfl, hq, fun ns' p h1 h2 hp => got_lst0 hs dl (dpAll_of_ints ns') (k _ (g ns' h1 h2)) hp⟩
  · exact g.elim
abbrev dSortedA (t : TDs) : TW := dCall gSortedA t
theorem dw_sortedA {X : Cx} {e : Expr} {pos p : Pos} {t : TDs} (hm : X.mg "sorted" = none) (ha : DA X [e] t) (hg : Gl X "sorted" := by rfl) (he : starEach [e] X.env = [(false, eval e X.env)] := by rfl) :
    DW X (.Call (.Name "sorted" p) [e] [] pos) (dSortedA t) := dw_callB cr_sortedA snd_sortedA hm ha hg (he := he)
end DL

/-! DL, part zg: repr of great ints. -/
namespace L2
open PySem PySem.Spec PyProof.Rows
theorem ns_none {K : PySem.W.Frag} {h : Heap} {a : Addr} {m : Str → Option Value} {n : Str} (X : K.In h) (G : h.Ns a m) (e : PySem.W.nsIn K a n = some none) : m n = none := by
  obtain ⟨o, es, ep, h1, h2, _, h3⟩ := G
  unfold PySem.W.nsIn at e
  split at e
  · rename_i q
    have e1 := X _ _ q
    rw [h1] at e1
    cases e1
    cases h2
    split at e
    · cases e
    · rename_i e2
      have e3 := h3 n
      unfold nsFind findBy at e3
      rw [← Array.find?_toList, e2] at e3
      exact e3.symm
  · cases e
section
variable {prog : Program} {w : World} {A : Around} {E : Value → Shared → Prop} {s : Shared}
theorem repr_great {a : Int} {t : Tok} {Q : Value → Shared → Prop} (hh : A.handled = none) (hn : s.heap.NoDigits) (ha : a.natAbs < 10 ^ 4300) (h : Q (.str (toString a) s.toks) { s with toks := s.toks + 1 }) : wpAny (model prog w) A (call (.builtin "repr") [.int a t]) Q E s := by
  have hv : [Value.int a t].any Value.onHeap = false := rfl
  have hT := typeIs_int s a t
  refine Calls.call_function_entry F.kind_repr F.plain_repr F.entry_repr (F.args_repr1 _) ?_
  unfold Builtin.«repr»
  refine wpAny_bind (m := oneArg "repr" _) (wpAny_pure ?_)
  simp only [cRoomFor, hv, Bool.false_eq_true, if_false, pure_bind]
  refine wpAny_bind (wpAny_specialOf (name := Str.ofString "__repr__") hT F.slot_int_repr.lookup (wpAny_bind (m := callSpecialIfBound? (.int a t) (Str.ofString "__repr__")) (wpAny_callSpecialIfBound?_slot (name := Str.ofString "__repr__") hT F.slot_int_repr (call_int_repr_or hh hn (fun _ => ?_) fun z => absurd ha (Nat.not_lt.mpr z)))))
  exact wpAny_bind (wpAny_isInstance (T := "str") (b := true) rfl isSubtype_str_str (wpAny_pure ⟨_, rfl, h⟩))
end
def rReprI : List V → Hp → VK → Prop := fun xs H Q => ∃ i : Int, xs = [.int i] ∧ i.natAbs < 10 ^ 4300 ∧ Q (.str (toString i)) H
theorem call_reprI {X : Cx} (hc : X.calm = true) (hz : PySem.W.nsIn X.K cStatics "sys.int_max_str_digits" = some none) : CallR X (.builtin "repr") rReprI := by
  rintro pins s σ H xs us Q I r ⟨i, rfl, hi, q⟩
  cases r with
  | cons r rr =>
    cases rr
    obtain ⟨t, rfl⟩ := r
    obtain ⟨mc, hns, _⟩ := I.nolimit
    exact repr_great (I.ok.hd hc) ⟨mc, hns, ns_none I.kIn hns hz⟩ hi ⟨.str _, H, I.tok _, ⟨_, rfl⟩, q⟩
end L2
namespace DL
open PySem L2
def gReprI : List D → (W → Prop) → Prop := fun ds P => match ds with
  | [.int i] => i.natAbs < 10 ^ 4300 ∧ P (.fz (.str (toString i)))
  | _ => False
theorem snd_reprI {K : PySem.W.Frag} : SndC K rReprI gReprI := by
  intro dm F H vs ds Q P hs dl r g k
  unfold gReprI at g
  split at g
  · obtain ⟨v, rfl, h⟩ := dball1 r
    cases h.int_inv
    exact ⟨_, rfl, g.1, got_here hs dl (.str _) (k _ g.2)⟩
  · exact g.elim
abbrev dReprI (t : TDs) : TW := dCall gReprI t
theorem dw_reprI {X : Cx} {e : Expr} {pos p : Pos} {t : TDs} (hz : PySem.W.nsIn X.K cStatics "sys.int_max_str_digits" = some none) (hm : X.mg "repr" = none) (ha : DA X [e] t) (hc : X.calm = true := by rfl) (hg : Gl X "repr" := by rfl) (he : starEach [e] X.env = [(false, eval e X.env)] := by rfl) :
    DW X (.Call (.Name "repr" p) [e] [] pos) (dReprI t) := dw_callB (call_reprI hc hz) snd_reprI hm ha hg (he := he)
end DL

/-! DL, part zh: displays with starred items: lists and tuples of data, ranges. -/
namespace DL
open PySem L2
/-- *e, e a list or a tuple looked at -/
def wStar (t : TB) (u : TWs) : TWs := fun env Q => t env fun d => match d with
  | .list ds => u env fun ws => Q (ds.map .fz ++ ws)
  | .tuple ds => u env fun ws => Q (ds.map .fz ++ ws)
  | _ => False
/-- *range(i, j) -/
def wStarR1 (ta : TB) (u : TWs) : TWs := fun env Q => ta env fun d => match d with
  | .int j => RgOk 0 j ∧ u env fun ws => Q ((items2 0 (j - 0).toNat).map .fz ++ ws)
  | _ => False
def wStarR2 (ta tb : TB) (u : TWs) : TWs := fun env Q => ta env fun d => tb env fun d' => match d, d' with
  | .int i, .int j => RgOk i j ∧ u env fun ws => Q ((items2 i (j - i).toNat).map .fz ++ ws)
  | _, _ => False
section
variable {X : Cx} {e a b : Expr} {es : List Expr} {p q pos : Pos} {ta tb : TB} {u : TWs}
theorem wrs_front {K : PySem.W.Frag} {dm : DM} {F H : Hp} {vs : List V} {ds : List D} (r : DpAll K F vs ds) {ws : List W} {vs2 : List V} {fp : List Addr} (r2 : WRs K dm F H ws vs2 fp) : WRs K dm F H (ds.map .fz ++ ws) (vs ++ vs2) fp := by
  have := WRs.app (wrs_fz (dm := dm) (H := H) r) r2
  rwa [List.nil_append] at this
theorem daw_star (h : DB X e ta) (hr : DAw X es u) (hs : starEach (.Starred e p :: es) X.env = (true, eval e X.env) :: starEach es X.env := by rfl) : DAw X (.Starred e p :: es) (wStar ta u) := by
  refine pa_mono (StX.pa_star h hr hs) fun σ H Q ⟨env, F, ow, dm, P, S, q, k⟩ => ?_
  refine ⟨env, F, ow, dm, fun d => ∃ ds, (d = .list ds ∨ d = .tuple ds) ∧ u env fun ws => P (ds.map .fz ++ ws), S, ?_, fun d ⟨ds, he, hd⟩ v F1 H1 x1 r1 => ?_⟩
  · refine Eq.mp (congrArg (ta env) ?_) q
    funext d
    refine propext ⟨fun hd => ?_, fun ⟨es, he, hd⟩ => ?_⟩
    · split at hd
      · exact ⟨_, .inl rfl, hd⟩
      · exact ⟨_, .inr rfl, hd⟩
      · exact hd.elim
    · rcases he with he | he <;> (cases he; exact hd)
  · have fin : ∀ (xs : List V), DpAll X.K F1 xs ds → lWs X.K u σ H1 fun ys H2 => Q (xs ++ ys) H2 := fun xs rx =>
      ⟨env, F1, ow, dm, _, S.ext x1, hd, fun ws hws vs F2 H2 fq x2 r2 nd2 fr2 => k _ hws (xs ++ vs) F2 H2 fq (x1.trans x2) (wrs_front (dpAll_same x2.ff rx) r2) nd2 fun a ha => by
        cases q : H a with
        | none => rfl
        | some o => exact absurd (fr2 a ha) (x1.dom (by rw [q]; simp))⟩
    rcases he with rfl | rfl
    · obtain ⟨c, xs, rfl, hc, rx⟩ := r1.lst_inv x1.fh
      exact ⟨c, xs, rfl, .inr (.of hc), fin xs rx⟩
    · obtain ⟨c, xs, rfl, _, hc, rx⟩ := r1.tup_inv x1.fh
      exact ⟨c, xs, rfl, .inl hc, fin xs rx⟩
def tStarRg (tr : St → Hp → (Int → Int → Hp → Prop) → Prop) (t : TA) : TA := fun σ H Q => tr σ H fun i j H1 => RgOk i j ∧ t σ H1 fun ys H2 => Q (rgV i j ++ ys) H2
theorem pa_starRg {tr : St → Hp → (Int → Int → Hp → Prop) → Prop} {t : TA} (hc : X.calm = true) (he : PRg X e tr) (hr : PA X es t) (hs : starEach (.Starred e p :: es) X.env = (true, eval e X.env) :: starEach es X.env) : PA X (.Starred e p :: es) (tStarRg tr t) := by
  refine ⟨fun pos pins s σ H Q I h => ?_⟩
  refine PySem.W.items_star (thn (he pins s σ H _ I h) fun v s1 ⟨r, i, j, tt, tu, tv, H1, ev, hrg, I1, ok, q⟩ => ?_) hs
  subst ev
  obtain ⟨b1, b2, b3, b4, b5⟩ := ok
  unfold PySem.W.StarOf notIterableAtAll
  refine wpAny_bind (wpAny_specialOf (T := "range") ⟨_, hrg, rfl⟩ PySem.F.slot_range_iter.lookup (wpAny_pure ⟨rfl, ?_⟩))
  refine L2.collect_range (n := (j - i).toNat) (I1.ok.hd hc) hrg (PySem.small_one b1 b2 b3 b4) (PyProof.Rows.rangeSize_nat i j) b5 fun h' tk acc hk hi => ?_
  have I2 : Inv X pins σ H1 { s1 with heap := h', toks := tk } := I1.kept hk
  exact thn (hr.run pos pins _ σ H1 _ I2 q) fun ws s3 ⟨vs, H3, I3, r3, q3⟩ => ⟨rgV i j ++ vs, H3, I3, (vals_rg hi).append r3, q3⟩
theorem daw_starR1 (hm : X.mg "range" = none) (ha : DB X a ta) (hr : DAw X es u) (hc : X.calm = true := by rfl) (hg : Gl X "range" := by rfl) (hs : starEach (.Starred (.Call (.Name "range" p) [a] [] q) pos :: es) X.env = (true, eval (.Call (.Name "range" p) [a] [] q) X.env) :: starEach es X.env := by rfl)
    (n2 : starEach [a] X.env = (false, eval a X.env) :: starEach [] X.env := by rfl) : DAw X (.Starred (.Call (.Name "range" p) [a] [] q) pos :: es) (wStarR1 ta u) := by
  refine pa_mono (pa_starRg hc (prg_1 hg hm ha n2) hr hs) fun σ H Q ⟨env, F, ow, dm, P, S, q, k⟩ => ⟨env, F, ow, dm, _, S, q, fun d hd v F1 H1 x1 r1 => ?_⟩
  split at hd
  · cases r1.int_inv
    exact ⟨_, rfl, hd.1, env, F1, ow, dm, _, S.ext x1, hd.2, fun ws hws vs F2 H2 fq x2 r2 nd2 fr2 => k _ hws (rgV 0 _ ++ vs) F2 H2 fq (x1.trans x2) (wrs_front (dp_rg 0 _) r2) nd2 fun a ha => by
      cases q : H a with
      | none => rfl
      | some o => exact absurd (fr2 a ha) (x1.dom (by rw [q]; simp))⟩
  · exact hd.elim
theorem daw_starR2 (hm : X.mg "range" = none) (ha : DB X a ta) (hb : DB X b tb) (hr : DAw X es u) (hc : X.calm = true := by rfl) (hg : Gl X "range" := by rfl) (hs : starEach (.Starred (.Call (.Name "range" p) [a, b] [] q) pos :: es) X.env = (true, eval (.Call (.Name "range" p) [a, b] [] q) X.env) :: starEach es X.env := by rfl)
    (n1 : starEach [a, b] X.env = (false, eval a X.env) :: starEach [b] X.env := by rfl) (n2 : starEach [b] X.env = (false, eval b X.env) :: starEach [] X.env := by rfl) (hp : (backTo q (starEach [b] X.env)).any (·.1) = false := by rfl) :
    DAw X (.Starred (.Call (.Name "range" p) [a, b] [] q) pos :: es) (wStarR2 ta tb u) := by
  refine pa_mono (pa_starRg hc (prg_2 hg hm ha hb n1 n2 hp) hr hs) fun σ H Q ⟨env, F, ow, dm, P, S, q, k⟩ => ⟨env, F, ow, dm, _, S, q, fun d hd v F1 H1 x1 r1 => ⟨env, F1, ow, dm, _, S.ext x1, hd, fun d2 hd2 v2 F2 H2 x2 r2 => ?_⟩⟩
  split at hd2
  · cases r1.int_inv
    cases r2.int_inv
    exact ⟨_, _, rfl, rfl, hd2.1, env, F2, ow, dm, _, (S.ext x1).ext x2, hd2.2, fun ws hws vs F3 H3 fq x3 r3 nd3 fr3 => k _ hws (rgV _ _ ++ vs) F3 H3 fq ((x1.trans x2).trans x3) (wrs_front (dp_rg _ _) r3) nd3 fun a ha => by
      cases q : H a with
      | none => rfl
      | some o => exact absurd (fr3 a ha) ((x1.trans x2).dom (by rw [q]; simp))⟩
  · exact hd2.elim
end
end DL

/-! DL, part zi: sorted(set(xs)) of ints. -/
namespace L2
open PySem PySem.Spec PyProof.Rows
section
variable {P : Program} {w : World} {A : Around} {E : Value → Shared → Prop} {s : Shared}
abbrev noSet (w : World) : Obj := { cls := .type "set", dict := none, data := .set #[] 0 (.fresh 0 0 (!w.params.followText "set-order")) }
/-- the call of set, by what its __init__ does to the new set -/
theorem call_set_by {a : Value} {Q : Value → Shared → Prop}
    (h : wpAny (model P w) A.in1.in1 (Builtin.«set.__init__» ⟨[.ref s.heap.objs.size, a], []⟩)
      (fun fin s' => match fin with | .done f => wants (fun r s₂ => r = .none ∧ Q (.ref s.heap.objs.size) s₂) E (.ok f) s' | .again c' => c'.quiet = true ∧ codeAny (model P w) A.in1 c' (wants (fun r s₂ => r = .none ∧ Q (.ref s.heap.objs.size) s₂) E) s')
      (fun e s' => wants (fun r s₂ => r = .none ∧ Q (.ref s.heap.objs.size) s₂) E (.error e) s') { s with heap := s.heap.push (noSet w) }) :
    wpAny (model P w) A (call (.type "set") [a]) Q E s := by
  obtain ⟨c, tl, hmro⟩ := F.called_set.mro
  have g1 := F.called_set.made
  have g2 := F.called_set.sub
  have g3 := F.called_set.notType
  have g4 := F.called_set.canCreate
  have g5 := F.typeCall_set_1 a
  have hT : Shared.TypeIs { s with heap := s.heap.push (noSet w) } (.ref s.heap.objs.size) "set" := ⟨_, Heap.get?_push_size _ rfl, rfl⟩
  have g6 := F.called_set.init.lookup
  have g7 := F.called_set.init.bind (.ref s.heap.objs.size)
  refine wpAny_call (codeAny_of_tree ?_)
  show wpAny _ _ (callAny (.type "set") _) _ _ _
  refine wpAny_pure ⟨Code.quiet_builtin _ (by decide +kernel), codeAny_builtin F.entry_type_call ?_⟩
  rw [Around.under_plain (weight_type_call_type "set" [a] []) rfl]
  repeat (any_goals (first | assumption | wp_step))
  refine codeAny_mono (code_set_led1 a (E := E) (Q₁ := fun obj s₁ => obj = .ref s.heap.objs.size ∧ s₁ = { s with heap := s.heap.push (noSet w) }) ⟨rfl, rfl⟩) fun r s₁ hr => ?_
  match r, hr with
  | .error e, hr => exact hr
  | .ok (.ret obj), hr =>
    obtain ⟨rfl, rfl⟩ := hr
    repeat (any_goals (first | assumption | wp_step))
    refine codeAny_mono (codeAny_call_builtin F.called_set.init.plain F.entry_set_init (check_set_init_1 hT h)) fun r₂ s₂ hr₂ => ?_
    match r₂, hr₂ with
    | .error e, hr₂ => exact hr₂
    | .ok (.ret r), hr₂ =>
      obtain ⟨rfl, hq⟩ := hr₂
      repeat (any_goals (first | assumption | wp_step))
/-- set(xs), xs a list of ints: the set with all it keeps -/
theorem call_set_listI {l : Addr} {items : Array Value} (ns : List Int) {Q : Value → Shared → Prop} (hh : A.handled = none) (hl : s.heap.IsList l items) (hit : IntsAre items.toList ns) (hb : ns.length + 1 < scanBound)
    (h : ∀ (h' : Heap) (tk c : Nat), SetR w h' s.heap.objs.size (fun j => decide (j ∈ ns)) c → c ≤ ns.length → (∀ b o, s.heap.get? b = some o → h'.get? b = some o) → Q (.ref s.heap.objs.size) { s with heap := h', toks := tk }) :
    wpAny (model P w) A (call (.type "set") [.ref l]) Q E s := by
  have hz : items.size = ns.length := by
    have := IntsAre.length hit
    rwa [Array.length_toList] at this
  refine call_set_by ?_
  obtain ⟨⟨cls, dic, dat, slo⟩, ho, hc, n, hd⟩ := hl
  simp only at hc hd
  subst hc hd
  have hlt : l < s.heap.objs.size := Heap.lt_size ho
  have sz1 : (s.heap.push (noSet w)).objs.size = s.heap.objs.size + 1 := Heap.size_push ..
  have hS : (s.heap.push (noSet w)).get? s.heap.objs.size = some (noSet w) := Heap.get?_push_size _ rfl
  have ho1 : (s.heap.push (noSet w)).get? l = some { cls := .type "list", dict := dic, data := .seq items n, slots := slo } := Heap.get?_push_of_some _ ho
  have hl1 : (s.heap.push (noSet w)).IsList l items := ⟨_, ho1, rfl, n, rfl⟩
  have u1 := F.sub_list_set
  have u2 := F.sub_list_frozenset
  have u3 : (Value.type "list" == Value.type "dict") = false := by decide
  unfold Builtin.«set.__init__» noKeywords Builtin.Frozenset.updateFrom
  generalize hPI : pyIter = PI
  wp_walk
  subst hPI
  refine wpAny_pyIter_list hl1 (wpAny_bind (wpAny_runValue ?_))
  have hval : ∀ (i : Nat) (v : Value), items[i]? = some v → ∃ k t, ns[i]? = some k ∧ v = .int k t := fun i v hv => by
    have hi : i < ns.length := by rw [← hz]; exact (Array.getElem?_eq_some_iff.mp hv).1
    obtain ⟨t, e⟩ := IntsAre.int_at hit i v (by rw [Array.getElem?_toList]; exact hv)
    exact ⟨ns[i], t, List.getElem?_eq_getElem hi, by rw [e, List.getD_eq_getElem?_getD, List.getElem?_eq_getElem hi]; rfl⟩
  refine set_update_ints ((Walks.list (by simp [hh]) _ l (by rw [sz1]; exact Nat.ne_of_lt (Nat.lt_succ_of_lt hlt)) items).toS) s.heap.objs.size (fun hm => ?_) ns hz hb hval (items.size - 0) 0 _ (by omega) (Nat.zero_le _)
    ⟨⟨_, Heap.get?_push_size _ rfl, rfl, rfl⟩, hl1.push _⟩ ⟨0, Nat.le_refl 0, setR_new_at (Heap.get?_push_of_some _ hS)⟩ fun s' c hm hc hR => ?_
  · rw [sz1] at hm
    rcases List.mem_cons.mp hm with e | hm
    · exact absurd e (Nat.ne_of_lt (Nat.lt_succ_self _))
    · rw [List.mem_singleton.mp hm] at hlt
      exact Nat.lt_irrefl _ hlt
  · rw [Moved.eq_with hm]
    refine wpAny_pure (wpAny_pure ⟨rfl, h _ _ c hR (by rw [← hz]; exact hc) fun b o e => ?_⟩)
    have hb0 : b < s.heap.objs.size := Heap.lt_size e
    refine hm.heap b o (fun hmem => ?_) (Heap.get?_push_of_some _ (Heap.get?_push_of_some _ e))
    rcases List.mem_cons.mp hmem with e1 | hmem
    · exact absurd e1 (Nat.ne_of_lt hb0)
    · rcases List.mem_cons.mp hmem with e1 | hmem
      · rw [sz1] at e1; exact absurd e1 (Nat.ne_of_lt (Nat.lt_succ_of_lt hb0))
      · cases hmem
end
/-- sorted(set(xs)): the distinct ones, ascending -/
def cSortSet (ns : List Int) (Q : List Int → Prop) : Prop := ns.length < 64 ∧ ∀ L : List Int, L.Pairwise (· < ·) → (∀ k, k ∈ L ↔ k ∈ ns) → Q L
def tSortSet (K : PySem.W.Frag) (ta : TE) : TE := fun σ H Q => ta σ H fun x H1 => ∃ (l : Addr) (ns : List Int), x = .ref l ∧ (SqL K H1 l (ns.map V.int) ∨ SqT K H1 l (ns.map V.int)) ∧ cSortSet ns fun L => ∀ p, H1 p = none → Q (.ref p) (upd H1 p (.lst (L.map V.int)))
theorem pe_sortSet {X : Cx} {a : Expr} {ta : TE} {p p2 q pos : Pos} (hg : Gl X "sorted") (hm : X.mg "sorted" = none) (hg2 : Gl X "set") (hm2 : X.mg "set" = none) (ha : PE X a ta) (hc : X.calm = true := by rfl)
    (na : starEach [a] X.env = (false, eval a X.env) :: starEach [] X.env := by rfl) : PE X (.Call (.Name "sorted" p) [.Call (.Name "set" p2) [a] [] q] [] pos) (tSortSet X.K ta) := by
  refine ⟨fun pins s σ H Q I h => ?_⟩
  refine PyProof.Rows.Call_ (ld_blt (u := .builtin "sorted") I hg hm (by decide +kernel) ?_)
  refine PyProof.Rows.callWith_builtin1 (PyProof.Rows.args_cons ?_ rfl) rfl rfl
  refine PyProof.Rows.Call_ (ld_blt I hg2 hm2 PyProof.Rows.boot_set ?_)
  refine PyProof.Rows.callWith_type1 (PyProof.Rows.args_cons (thn (ha.run pins s σ H _ I h) fun v s1 ⟨x, H1, I1, r1, q1⟩ => PyProof.Rows.args_nil ?_) na) na rfl
  obtain ⟨l, ns, rfl, hq, hlen, q1⟩ := q1
  cases r1
  have hsb : ns.length + 1 < scanBound := by unfold scanBound; omega
  have fin : ∀ (s2 : Shared) (a : Addr) (c : Nat), SetR X.w s2.heap a (fun j => decide (j ∈ ns)) c → c ≤ ns.length → Inv X pins σ H1 s2 → wpAny (model X.prog X.w) X.A (call (.builtin "sorted") [.ref a]) (EP X pins σ Q) X.xe s2 := by
    intro s2 a c R hcn I2
    refine sorted_set R (I2.ok.hd hc) (by omega) fun s' p out c ns' k g o hp hg hi hs hmm hl => ?_
    have hn : H1 p = none := I2.hok.fresh hp
    have hlen2 : (ns'.map V.int).length ≤ sizeLine := by rw [List.length_map, hl, sizeLine_eq]; omega
    have J : Inv X pins σ (upd H1 p (.lst (ns'.map V.int))) { s2 with heap := s'.heap, gens := s'.gens, drawn := s'.drawn, toks := s'.toks } :=
      I2.call (ch := []) (Un.laid k hp hn) (I2.hok.laid k hp ⟨hlen2, out.toList, c, vals_of_ints hi, hg⟩) (by rw [g]; exact I2.bare) (fun _ z => nomatch z)
    have e : s' = { s2 with heap := s'.heap, gens := s'.gens, drawn := s'.drawn, toks := s'.toks } := by
      obtain ⟨h1, g1, d1, t1, o1⟩ := s'
      cases o
      rfl
    rw [e]
    exact ⟨.ref p, _, J, rfl, q1 ns' hs (fun k => by rw [hmm k, decide_eq_true_eq]) p hn⟩
  rcases hq with hq | hq
  · obtain ⟨its, r, pl, hz⟩ := I1.list hq
    exact call_set_listI ns (I1.ok.hd hc) pl.isList (by simpa using r.ints) hsb fun h' tk c R hcn hk => PyProof.Rows.args_nil (fin _ _ c R hcn (I1.kept hk))
  · obtain ⟨its, r, pl, hz⟩ := I1.tuple hq
    exact call_set_tupI ns (I1.ok.hd hc) pl (by simpa using r.ints) hsb fun h' tk c R hcn hk => PyProof.Rows.args_nil (fin _ _ c R hcn (I1.kept hk))
end L2
namespace DL
open PySem L2
section
variable {X : Cx} {e : Expr} {pos p p2 q : Pos} {ta : TB}
def gSortSet (d : D) (Q : W → Prop) : Prop := match d with
  | .list xs => ∃ ns, intsOf xs = some ns ∧ cSortSet ns fun L => Q (.own ((L.map PyData.int).map .fz))
  | .tuple xs => ∃ ns, intsOf xs = some ns ∧ cSortSet ns fun L => Q (.own ((L.map PyData.int).map .fz))
  | _ => False
def dSortSet (ta : TB) : TW := fun env Q => ta env fun d => gSortSet d Q
theorem dw_sortSet (hm : X.mg "sorted" = none) (hm2 : X.mg "set" = none) (ha : DB X e ta) (hc : X.calm = true := by rfl) (hg : Gl X "sorted" := by rfl) (hg2 : Gl X "set" := by rfl) (na : starEach [e] X.env = (false, eval e X.env) :: starEach [] X.env := by rfl) :
    DW X (.Call (.Name "sorted" p) [.Call (.Name "set" p2) [e] [] q] [] pos) (dSortSet ta) := by
  refine pe_mono (pe_sortSet hg hm hg2 hm2 ha hc na) fun σ H Q ⟨env, F, ow, dm, P, S, q, k⟩ => ⟨env, F, ow, dm, _, S, q, fun d hd v F1 H1 x r => ?_⟩
  unfold gSortSet at hd
  split at hd
  · obtain ⟨ns, e, hl, hq⟩ := hd
    rw [intsOf_eq e] at r
    obtain ⟨a, us, rfl, hs, rr⟩ := r.lst_inv x.fh
    rw [dpAll_ints rr] at hs
    exact ⟨a, ns, rfl, .inl (.of hs), hl, fun L h1 h2 q hq2 => got_lst0 x.fh x.dl (dpAll_of_ints L) (got_of x (k _ (hq L h1 h2))) hq2⟩
  · obtain ⟨ns, e, hl, hq⟩ := hd
    rw [intsOf_eq e] at r
    obtain ⟨a, us, rfl, hF, hs, rr⟩ := r.tup_inv x.fh
    rw [dpAll_ints rr] at hs
    exact ⟨a, ns, rfl, .inr hs, hl, fun L h1 h2 q hq2 => got_lst0 x.fh x.dl (dpAll_of_ints L) (got_of x (k _ (hq L h1 h2))) hq2⟩
  · exact hd.elim
end
end DL

/-! DL, part zj: x.count(k) of ints, x a list or a tuple. -/
namespace L2
open PySem PySem.Spec PyProof.Rows
section
variable {X : Cx}
def rCntT (K : PySem.W.Frag) : V → List V → Hp → VK → Prop := fun x xs H Q => ∃ (p : Addr) (ns : List Int) (k : Int), x = .ref p ∧ xs = [.int k] ∧ SqT K H p (ns.map V.int) ∧ Q (.int (ns.count k : Nat)) H
theorem mt_tcount : MtR X "tuple.count" (rCntT X.K) := by
  rintro pins s σ H x xs v us Q I rx rxs ⟨p, ns, k, rfl, rfl, hs, q⟩
  cases rx
  obtain ⟨u, rfl, ⟨t, rfl⟩⟩ := rxs.one
  obtain ⟨its, rv, ⟨⟨cl, di, da, sl⟩, ho, hc, n, hd⟩, _⟩ := I.tuple hs
  simp only at hc hd
  subst hc hd
  have hi := ints_of_vals rv
  refine call_meets F.slot_tuple_count ⟨_, ho, rfl⟩ F.entry_tuple_count (F.args_tuple_count_2 _ _)
    (SeqAt.tuple_countAt p its.toArray n di sl (.int k t) (eqk k)) ⟨ho, fun y hy => (eqk_gives hi y (by simpa using hy)).at _ _, ?_⟩
  have ec : its.toArray.toList.countP (eqk k) = ns.count k := eqk_count hi
  rw [ec]
  exact ⟨.int (ns.count k : Nat), H, I.tok _, ⟨s.toks, rfl⟩, q⟩
theorem xt_is {pins : List (Addr × Obj)} {σ : St} {H : Hp} {s : Shared} {p : Addr} {xs : List V} (I : Inv X pins σ H s) (h : XT X.K H p xs) :
    s.TypeIs (.ref p) "tuple" ∧ ∀ a, Value.ref p = .ref a → ∃ ob, s.heap.get? a = some ob ∧ ob.dict = none := by
  rcases h with ⟨o, h, hd⟩ | ⟨o, _, _, h, hc, hd, _⟩
  · obtain ⟨e, _, its, _, ⟨o2, e2, c2, _⟩⟩ := I.hok p _ h
    rw [e] at e2
    cases e2
    exact ⟨⟨o, e, c2⟩, fun a q => by cases q; exact ⟨o, e, hd⟩⟩
  · exact ⟨⟨o, I.kIn p o h, hc⟩, fun a q => by cases q; exact ⟨o, I.kIn _ o h, hd⟩⟩
def tCnt (K : PySem.W.Frag) (to : TE) (t : TA) : TE := fun σ H Q => to σ H fun x H1 =>
  (∃ p xs, x = .ref p ∧ SqL K H1 p xs ∧ t σ H1 fun ys H2 => rCntI K x ys H2 Q) ∨ (∃ p xs, x = .ref p ∧ XT K H1 p xs ∧ t σ H1 fun ys H2 => rCntT K x ys H2 Q)
variable {o e : Expr} {es : List Expr} {to : TE} {t : TA} {apos cpos : Pos}
theorem pe_cnt (ho : PE X o to) (ha : PA X (e :: es) t) (hbase : attributeBase o "count" X.env (eval o X.env) = eval o X.env := by rfl)
    (hfew : ((backTo cpos (starEach (e :: es) X.env)).all (fun x => !x.1) && (backToKw cpos (keywordEach [] X.env)).all (fun x => x.1.isSome)
      && decide ((e :: es).length + ([] : List Keyword).length + (if ([] : List Keyword).isEmpty then 0 else 1) < 30)) = true := by rfl)
    (hline : (apos.endLine == cpos.line) = true := by rfl) (hs : starEach (e :: es) X.env = (false, eval e X.env) :: starEach es X.env := by rfl) (hplain : (backTo cpos (starEach es X.env)).any (·.1) = false := by rfl) :
    PE X (.Call (.Attribute o "count" apos) (e :: es) [] cpos) (tCnt X.K to t) := by
  refine ⟨fun pins s σ H Q I h => wpAny_Call_method_late hbase hfew hline rfl (thn (ho.run pins s σ H _ I h) ?_)⟩
  have args : ∀ {id : String} {r : V → List V → Hp → VK → Prop} (hm : MtR X id r) {v : Value} {s1 : Shared} {x : V} {H1 : Hp} (I1 : Inv X pins σ H1 s1) (r1 : RelV x v), (t σ H1 fun ys H2 => r x ys H2 Q) →
      wpAny (model X.prog X.w) X.A (callWith cpos (.builtin id) [v] (backTo cpos (starEach (e :: es) X.env)) []) (EP X pins σ Q) X.xe s1 := by
    intro id r hm v s1 x H1 I1 r1 q
    have hA := ha.run cpos pins s1 σ H1 _ I1 q
    rw [hs] at hA ⊢
    refine Calls.callWith_builtin (by show (false || (backTo cpos (starEach es X.env)).any (·.1)) = false; rw [hplain] <;> rfl) (Calls.evalArgs_plain (thn hA ?_))
    exact fun us s2 ⟨vs, H2, I2, r2, q2⟩ => hm pins s2 σ H2 x vs v us Q I2 r1 r2 q2
  rintro v s1 ⟨x, H1, I1, r1, ⟨p, xs, rfl, hq, q⟩ | ⟨p, xs, rfl, hq, q⟩⟩
  · obtain ⟨h1, h2⟩ := tyV_is (T := "list") I1 r1 (.inl ⟨rfl, xs, hq⟩)
    exact ⟨"list", _, F.plainAttrs_list, F.slot_list_count, F.type_list_count, h1, h2, args mt_lcount I1 r1 q⟩
  · cases r1
    obtain ⟨h1, h2⟩ := xt_is I1 hq
    exact ⟨"tuple", _, F.plainAttrs_tuple, F.slot_tuple_count, F.type_tuple_count, h1, h2, args mt_tcount (x := .ref p) I1 rfl q⟩
end
end L2
namespace DL
open PySem L2
section
variable {X : Cx} {o e : Expr} {es : List Expr} {to ta : TB} {apos cpos : Pos}
def gCount (x y : D) (P : W → Prop) : Prop := match x, y with
  | .list ds, .int k => ∃ ns, intsOf ds = some ns ∧ P (.fz (.int (ns.count k : Nat)))
  | .tuple ds, .int k => ∃ ns, intsOf ds = some ns ∧ P (.fz (.int (ns.count k : Nat)))
  | _, _ => False
def isLT (x : D) : Prop := match x with
  | .list _ => True
  | .tuple _ => True
  | _ => False
def dCount (to ta : TB) : TW := fun env Q => to env fun x => isLT x ∧ ta env fun y => gCount x y Q
theorem dw_count (ho : DB X o to) (ha : DB X e ta) (hbase : attributeBase o "count" X.env (eval o X.env) = eval o X.env := by rfl)
    (hfew : ((backTo cpos (starEach [e] X.env)).all (fun x => !x.1) && (backToKw cpos (keywordEach [] X.env)).all (fun x => x.1.isSome)
      && decide ([e].length + ([] : List Keyword).length + (if ([] : List Keyword).isEmpty then 0 else 1) < 30)) = true := by rfl)
    (hline : (apos.endLine == cpos.line) = true := by rfl) (hs : starEach [e] X.env = (false, eval e X.env) :: starEach [] X.env := by rfl) (hplain : (backTo cpos (starEach [] X.env)).any (·.1) = false := by rfl) :
    DW X (.Call (.Attribute o "count" apos) [e] [] cpos) (dCount to ta) := by
  refine pe_mono (pe_cnt ho (da_cons ha da_nil hs) hbase hfew hline hs hplain) fun σ H Q ⟨env, F, ow, dm, P, S, q, k⟩ => ⟨env, F, ow, dm, _, S, q, fun d ⟨hl, hd⟩ v F1 H1 x r => ?_⟩
  cases d with
  | list ds =>
    obtain ⟨a, us, rfl, hq, rr⟩ := r.lst_inv x.fh
    refine .inl ⟨a, _, rfl, .of hq, env, F1, ow, dm, (fun zs => match zs with | [y] => gCount (.list ds) y P | _ => False), S.ext x, hd, fun zs hzs us1 F2 H2 x2 r2 => ?_⟩
    dsimp only at hzs
    split at hzs
    · rename_i y
      obtain ⟨v, rfl, rv⟩ := dball1 r2
      have r' := r.ext x2
      have x12 := x.trans x2
      cases y with
      | int k0 =>
        obtain ⟨ns, e, h4⟩ := hzs
        rw [intsOf_eq e] at r'
        obtain ⟨a2, us2, ea, hs, rr2⟩ := r'.lst_inv x2.fh
        cases ea
        rw [dpAll_ints rr2] at hs
        cases rv.int_inv
        exact ⟨a, ns, k0, rfl, rfl, .of hs, got_here x2.fh x2.dl (.int _) (got_of x12 (k _ h4))⟩
      | _ => exact hzs.elim
    · exact hzs.elim
  | tuple ds =>
    obtain ⟨a, us, rfl, hF, hq, rr⟩ := r.tup_inv x.fh
    refine .inr ⟨a, _, rfl, xt_same x.fh hF, env, F1, ow, dm, (fun zs => match zs with | [y] => gCount (.tuple ds) y P | _ => False), S.ext x, hd, fun zs hzs us1 F2 H2 x2 r2 => ?_⟩
    dsimp only at hzs
    split at hzs
    · rename_i y
      obtain ⟨v, rfl, rv⟩ := dball1 r2
      have r' := r.ext x2
      have x12 := x.trans x2
      cases y with
      | int k0 =>
        obtain ⟨ns, e, h4⟩ := hzs
        rw [intsOf_eq e] at r'
        obtain ⟨a2, us2, ea, _, hs, rr2⟩ := r'.tup_inv x2.fh
        cases ea
        rw [dpAll_ints rr2] at hs
        cases rv.int_inv
        exact ⟨a, ns, k0, rfl, rfl, hs, got_here x2.fh x2.dl (.int _) (got_of x12 (k _ h4))⟩
      | _ => exact hzs.elim
    · exact hzs.elim
  | _ => exact hl.elim
end
end DL

/-! DL, part zk: comprehensions with two clauses. -/
namespace DL
open PySem L2
/-- the second clause's turns -/
def compI (env : Env) (g1 : TGd) (tq1 : TQ) (tw : TW) : List D → List W → (List W → Prop) → Prop
  | [], acc, R => R acc
  | d :: ds, acc, R => g1 d env fun env3 => tq1 env3 fun b => if b = true then tw env3 fun w => compI env g1 tq1 tw ds (acc ++ [w]) R else compI env g1 tq1 tw ds acc R
def compW2 (env : Env) (g : TGd) (tq : TQ) (vs1 : List Nat) (ti1 : TIt) (g1 : TGd) (tq1 : TQ) (tw : TW) : List D → List W → (W → Prop) → Prop
  | [], acc, Q => Q (.own acc)
  | d :: ds, acc, Q => g d env fun env2 => tq env2 fun b => if b = true then ti1 env2 fun items => acc.length + items.length < sizeLine ∧ compI (wipeE env2 vs1) g1 tq1 tw items acc (fun acc' => compW2 env g tq vs1 ti1 g1 tq1 tw ds acc' Q) else compW2 env g tq vs1 ti1 g1 tq1 tw ds acc Q
def dComp2 (vs : List Nat) (ti : TIt) (g : TGd) (tq : TQ) (vs1 : List Nat) (ti1 : TIt) (g1 : TGd) (tq1 : TQ) (tw : TW) : TW := fun env Q => ti env fun items => compW2 (wipeE env vs) g tq vs1 ti1 g1 tq1 tw items [] Q
/-- the list that is made -/
structure Acc (K : PySem.W.Frag) (dm : DM) (F1 H1 : Hp) (d : Addr) (F' H' : Hp) (ws : List W) : Prop where
  ex : ∃ us fp, Ext dm F1 H1 F' H' ∧ F' d = none ∧ H' d = some (.lst us) ∧ WRs K dm F' H' ws us fp ∧ fp.Nodup ∧ (∀ a ∈ fp, H1 a = none ∧ a ≠ d)
section
variable {K : PySem.W.Frag} {dm : DM} {F1 H1 : Hp} {d : Addr}
theorem Acc.zero (fh : Same F1 H1) (dl : ∀ p, dm = some p → DealAt F1 H1 p.1 p.2) (hd : H1 d = none) : Acc K dm F1 H1 d F1 (upd H1 d (.lst [])) [] :=
  ⟨[], [], Ext.laidOwn fh dl hd, fh.free hd, upd_same, .nil, List.nodup_nil, (fun _ ha => nomatch ha)⟩
theorem Acc.on {F' H' F2 H2 : Hp} {ws : List W} (A : Acc K dm F1 H1 d F' H' ws) (x : Ext dm F' H' F2 H2) (nM : ∀ a, H1 a = none → ¬ isM dm a) (hd : H1 d = none) : Acc K dm F1 H1 d F2 H2 ws := by
  obtain ⟨us, fp, x0, fd, hl, r, nd, fr⟩ := A.ex
  exact ⟨us, fp, x0.trans x, x.nw d fd (by rw [hl]; simp), x.hh d _ hl (nM d hd), wexts x r fun a ha => nM a (fr a ha).1, nd, fr⟩
theorem Acc.push {F3 H3 F4 H4 : Hp} {ws : List W} {w : W} {v : V} {fq : List Addr} (A : Acc K dm F1 H1 d F3 H3 ws) (x4 : Ext dm F3 H3 F4 H4) (nM : ∀ a, H1 a = none → ¬ isM dm a) (hd : H1 d = none)
    (r4 : WR K dm F4 H4 w v fq) (nd4 : fq.Nodup) (fr4 : ∀ a ∈ fq, H3 a = none) : ∃ us, H4 d = some (.lst us) ∧ us.length = ws.length ∧ Acc K dm F1 H1 d F4 (upd H4 d (.lst (us ++ [v]))) (ws ++ [w]) := by
  obtain ⟨us, fp, x0, fd3, hD3, r, nd, fr⟩ := A.ex
  have hD4 : H4 d = some (.lst us) := x4.hh d _ hD3 (nM d hd)
  have fd4 : F4 d = none := x4.nw d fd3 (by rw [hD3]; simp)
  have ne4 : ∀ a ∈ fq, a ≠ d := fun a ha e => by rw [e] at ha; rw [fr4 d ha] at hD3; cases hD3
  have xx := x0.trans x4
  have fr1 : ∀ a ∈ fq, H1 a = none := fun a ha => by
    cases q : H1 a with
    | none => rfl
    | some o => exact absurd (fr4 a ha) (x0.dom (by rw [q]; simp))
  have nMfp : ∀ a ∈ fp, ¬ isM dm a := fun a ha => nM a (fr a ha).1
  have rr := wexts x4 r nMfp
  have r5 : ∀ {ws : List W} {zs : List V} {fz : List Addr}, WRs K dm F4 H4 ws zs fz → (∀ a ∈ fz, a ≠ d) → WRs K dm F4 (L2.upd H4 d (.lst (us ++ [v]))) ws zs fz := fun h hn =>
    h.mono (Same.refl F4) fun a ha => ⟨upd_ne (hn a ha), (h.there a ha).2⟩
  refine ⟨us, hD4, wrs_length r, us ++ [v], fp ++ fq, xx.upd hd fd4 (nM d hd), fd4, upd_same, ?_, ?_, ?_⟩
  · have r6 := WRs.app rr (WRs.cons r4 .nil)
    rw [List.append_nil] at r6
    exact r5 r6 fun a ha => (List.mem_append.mp ha).elim (fun z => (fr a z).2) (ne4 a)
  · refine List.nodup_append.mpr ⟨nd, nd4, fun a ha b hb e => ?_⟩
    subst e
    exact (r.there a ha).1 (fr4 a hb)
  · intro a ha
    rcases List.mem_append.mp ha with z | z
    · exact fr a z
    · exact ⟨fr1 a z, ne4 a z⟩
theorem Acc.done {X : Cx} {F H : Hp} {P : W → Prop} {Q : VK} {F' H' : Hp} {ws : List W} (A : Acc X.K dm F1 H1 d F' H' ws) (x1 : Ext dm F H F1 H1) (hd : H1 d = none) (k : ∀ w, P w → Got X.K dm F H Q w) (h : P (.own ws)) : Q (.ref d) H' := by
  obtain ⟨us, fp, x, fd, hl, r, nd, fr⟩ := A.ex
  refine k _ h (.ref d) F' H' (d :: fp) (x1.trans x) (.own fd hl r) (List.nodup_cons.mpr ⟨fun z => (fr d z).2 rfl, nd⟩) fun a ha => ?_
  have h1 : H1 a = none := by
    rcases List.mem_cons.mp ha with rfl | z
    · exact hd
    · exact (fr a z).1
  cases q : H a with
  | none => rfl
  | some o => exact absurd h1 (x1.dom (by rw [q]; simp))
theorem get_drop {α : Type} {items : List α} {i : Nat} (h : i < items.length) : ∃ e, items[i]? = some e ∧ items.drop i = e :: items.drop (i + 1) :=
  ⟨items[i], List.getElem?_eq_getElem h, List.drop_eq_getElem_cons h⟩
end
section
variable {K : PySem.W.Frag} {env : Env} {σ : St} {F H : Hp} {ow : Addr → Option Nat} {dm : DM} {d : Addr}
/-- what is not there is owned by none -/
theorem SRx.unown (S : SRx K env σ F H ow dm) (h : H d = none) : SRx K env σ F H (fun a => if a = d then none else ow a) dm := by
  refine ⟨S.same, S.len, fun i w hw => ?_, S.dl, fun p hp => ?_⟩
  · obtain ⟨v, fp, h1, h2, h3, h4⟩ := S.sl i w hw
    refine ⟨v, fp, h1, h2, h3, fun a ha => ?_⟩
    have hne : a ≠ d := fun e => (h2.there a ha).1 (by rw [e]; exact h)
    show (if a = d then none else ow a) = some i
    rw [if_neg hne]
    exact h4 a ha
  · have := S.dow p hp
    constructor
    · show (if p.1 = d then none else ow p.1) = none
      split
      · rfl
      · exact this.1
    · show (if p.2 = d then none else ow p.2) = none
      split
      · rfl
      · exact this.2
/-- what none owns is changed -/
theorem SRx.aside (S : SRx K env σ F H ow dm) {o : HO} (h : ow d = none) (hF : F d = none) (hM : ¬ isM dm d) : SRx K env σ F (upd H d o) ow dm := by
  refine ⟨fun b u hb => ?_, S.len, fun i w hw => ?_, fun p hp => ?_, S.dow⟩
  · rw [upd_ne (ne_of_none hb hF)]
    exact S.same b u hb
  · obtain ⟨v, fp, h1, h2, h3, h4⟩ := S.sl i w hw
    refine ⟨v, fp, h1, h2.mono (Same.refl F) fun a ha => ⟨upd_ne fun e => ?_, (h2.there a ha).2⟩, h3, h4⟩
    have := h4 a ha
    rw [e, h] at this
    cases this
  · have q := S.dl p hp
    have n1 : p.1 ≠ d := fun e => hM ⟨p, hp, .inl e.symm⟩
    have n2 : p.2 ≠ d := fun e => hM ⟨p, hp, .inr e.symm⟩
    exact ⟨q.fa, q.fb, by rw [upd_ne n1, upd_ne n2]; exact q.ex⟩
end
theorem compTurns2 {X : Cx} {g g1 : TGd} {tq tq1 : TQ} {ti1 : TIt} {tw : TW} {vs ks vs1 ks1 : List Nat} {env : Env} {F H : Hp} {ow : Addr → Option Nat} {dm : DM} {P : W → Prop} {σ : St} {Q : VK} (S : SRx X.K env σ F H ow dm) (k : ∀ w, P w → Got X.K dm F H Q w)
    (hks : ∀ i ∈ ks, i ∈ vs) (hks1 : ∀ i ∈ ks1, i ∈ vs1) {items : List D} (hc : compW2 (wipeE env vs) g tq vs1 ti1 g1 tq1 tw items [] P) {J : It} {F1 H1 : Hp} {C : Addr → Prop} (x1 : Ext dm F H F1 H1) (hI : ItR X.K C F1 H1 J items)
    (hC : ∀ b, C b → H1 b ≠ none ∧ ¬ isM dm b) {d : Addr} (hd : H1 d = none) :
    ∃ W : Nat → Nat → Hp → Prop, (∃ m, W 0 m (upd H1 d (.lst []))) ∧ ∀ i m H, W i m H →
      (J.stop i H ∧ Q (.ref d) H) ∨ (J.go i H ∧ ∃ Nx : Hp → Prop, (∀ H', Nx H' → ∃ m', m' < m ∧ W (i + 1) m' H') ∧ ∀ x H', J.yld i H x H' → lG X.K ks g x (L2.wipe σ vs) H' fun σ2 H2 => L2.wipe σ2 vs = L2.wipe σ vs ∧ lT X.K tq σ2 H2 fun b H3 =>
        if b = true then lI X.K true ti1 σ2 H3 fun J1 H4 => ∃ W1 : Nat → Nat → Hp → Prop, (∃ m, W1 0 m H4) ∧ ∀ j k H, W1 j k H →
          (J1.stop j H ∧ Nx H) ∨ (J1.go j H ∧ ∃ Nx1 : Hp → Prop, (∀ H', Nx1 H' → ∃ k', k' < k ∧ W1 (j + 1) k' H') ∧ ∀ x H', J1.yld j H x H' → lG X.K ks1 g1 x (L2.wipe σ2 vs1) H' fun σ3 H5 => L2.wipe σ3 vs1 = L2.wipe σ2 vs1 ∧ lT X.K tq1 σ3 H5 fun b H6 =>
            if b = true then lW X.K tw σ3 H6 fun y H7 => ∃ acc, H7 d = some (.lst acc) ∧ acc.length < sizeLine ∧ Nx1 (upd H7 d (.lst (acc ++ [y]))) else Nx1 H6)
        else Nx H3) := by
  have S1 := (S.ext x1).unown hd
  have nM : ∀ a, H1 a = none → ¬ isM dm a := fun a ha => S1.notMN ha
  refine ⟨fun i m H' => m = items.length - i ∧ i ≤ items.length ∧ ∃ F' ws, Ext dm F1 H1 F' H' ∧ Acc X.K dm F1 H1 d F' H' ws ∧ compW2 (wipeE env vs) g tq vs1 ti1 g1 tq1 tw (items.drop i) ws P,
    ⟨_, rfl, Nat.zero_le _, F1, [], Ext.laidOwn x1.fh x1.dl hd, Acc.zero x1.fh x1.dl hd, hc⟩, ?_⟩
  rintro i m H' ⟨rfl, hi, F', ws, x, A, hcw⟩
  have S' := S1.ext x
  have hIt := hI dm F' H' x.ff x.fh x.dl fun b hb => by
    have := hC b hb
    cases q : H1 b with
    | none => exact absurd q this.1
    | some o => exact x.hh b o q this.2
  rcases Nat.lt_or_ge i items.length with hlt | hge
  · refine .inr ?_
    obtain ⟨e0, he0, hdrop⟩ := get_drop hlt
    rw [hdrop] at hcw
    obtain ⟨hgo, hy⟩ := hIt.1 i e0 he0
    refine ⟨hgo, _, fun H'' hN => ⟨items.length - (i + 1), by omega, hN⟩, fun y0 H2 hyl => ?_⟩
    obtain ⟨F2, x2, r2⟩ := hy y0 H2 hyl
    refine ⟨wipeE env vs, F2, _, dm, e0, _, (S'.wipe vs).ext x2, r2, hcw, fun env2 hq σ2 S2 o2 => ⟨(wipe_of o2 hks).trans (wipe_of (only_wipe σ vs) fun _ h => h), env2, F2, _, dm, _, S2, hq, fun b hb F3 H3 x3 => ?_⟩⟩
    have x23 := x2.trans x3
    cases b with
    | false => exact ⟨rfl, hlt, F3, ws, x.trans x23, A.on x23 nM hd, hb⟩
    | true =>
      refine ⟨env2, F3, _, dm, _, S2.ext x3, hb, fun items1 ⟨hz, hcI⟩ J1 F4 H4 C1 x4 hI1 hC1 => ?_⟩
      have S4 := (S2.ext x3).ext x4
      have x24 := x23.trans x4
      refine ⟨fun j k H5 => k = items1.length - j ∧ j ≤ items1.length ∧ ∃ F5 ws5, Ext dm F1 H1 F5 H5 ∧ Same F4 F5 ∧ SRx X.K env2 σ2 F5 H5 (fun a => if a = d then none else ow a) dm ∧ Acc X.K dm F1 H1 d F5 H5 ws5 ∧ ws5.length ≤ ws.length + j ∧ compI (wipeE env2 vs1) g1 tq1 tw (items1.drop j) ws5 (fun acc' => compW2 (wipeE env vs) g tq vs1 ti1 g1 tq1 tw (items.drop (i + 1)) acc' P),
        ⟨_, rfl, Nat.zero_le _, F4, ws, x.trans x24, Same.refl F4, S4, A.on x24 nM hd, Nat.le_refl _, hcI⟩, ?_⟩
      rintro j k5 H5 ⟨rfl, hj, F5, ws5, x5, s5, S5, A5, hl5, hcI5⟩
      have hIt1 := hI1 dm F5 H5 s5 S5.same S5.dl fun b hb => absurd (hC1 b hb).1 (by decide)
      rcases Nat.lt_or_ge j items1.length with hlt1 | hge1
      · refine .inr ?_
        obtain ⟨e1, he1, hdrop1⟩ := get_drop hlt1
        rw [hdrop1] at hcI5
        obtain ⟨hgo1, hy1⟩ := hIt1.1 j e1 he1
        refine ⟨hgo1, _, fun H'' hN => ⟨items1.length - (j + 1), by omega, hN⟩, fun y1 H6 hyl1 => ?_⟩
        obtain ⟨F6, x6, r6⟩ := hy1 y1 H6 hyl1
        refine ⟨wipeE env2 vs1, F6, _, dm, e1, _, (S5.wipe vs1).ext x6, r6, hcI5, fun env3 hq3 σ3 S3 o3 => ⟨(wipe_of o3 hks1).trans (wipe_of (only_wipe σ2 vs1) fun _ h => h), env3, F6, _, dm, _, S3, hq3, fun b1 hb1 F7 H7 x7 => ?_⟩⟩
        have x67 := x6.trans x7
        cases b1 with
        | false => exact ⟨rfl, hlt1, F7, ws5, x5.trans x67, s5.trans x67.ff, S5.ext x67, A5.on x67 nM hd, Nat.le_trans hl5 (Nat.le_succ _), hb1⟩
        | true =>
          refine ⟨env3, F7, _, dm, _, S3.ext x7, hb1, fun w hw v F8 H8 fq x8 r8 nd8 fr8 => ?_⟩
          obtain ⟨us, hD8, hul, A8⟩ := (A5.on x67 nM hd).push x8 nM hd r8 nd8 fr8
          have x68 := x67.trans x8
          have S8 := S5.ext x68
          have fd8 : F8 d = none := by
            obtain ⟨us, fp, _, fd, _⟩ := A8.ex
            exact fd
          refine ⟨us, hD8, by omega, rfl, hlt1, F8, ws5 ++ [w], (x5.trans x68).upd hd fd8 (nM d hd), s5.trans x68.ff, S8.aside (if_pos rfl) fd8 (nM d hd), A8, by rw [List.length_append, List.length_singleton]; omega, hw⟩
      · refine .inl ?_
        have e : j = items1.length := Nat.le_antisymm hj hge1
        subst e
        rw [List.drop_length] at hcI5
        exact ⟨hIt1.2, rfl, hlt, F5, ws5, x5, A5, hcI5⟩
  · refine .inl ?_
    have e : i = items.length := Nat.le_antisymm hi hge
    subst e
    rw [List.drop_length] at hcw
    exact ⟨hIt.2, A.done x1 hd k hcw⟩
section
variable {X : Cx} {elt tg iter tg1 iter1 : Expr} {ifs ifs1 : List Expr} {scope : Scope} {own : List (Str × Nat)} {pos : Pos} {ti ti1 : TIt} {g g1 : TGd} {tq tq1 : TQ} {tw : TW} {ks ks1 vs1 : List Nat}
theorem dw_lc2 (own : List (Str × Nat)) (vs1 : List Nat) (hN : X.N.Nodup) (hi : DI X false tg iter ti) (ok : blkC X.N X.env.scope scope own = true)
    (hg : ∀ (s : Shared) (H : Hp) (C : Addr) (cl : List (Str × Addr)) (fp : List Addr), DG (X.blk s H scope (compEnvC scope cl C X.env) fp) tg ks g) (ht : ∀ (s : Shared) (H : Hp) (C : Addr) (cl : List (Str × Addr)) (fp : List Addr), DTs (X.blk s H scope (compEnvC scope cl C X.env) fp) ifs tq)
    (hi1 : ∀ (s : Shared) (H : Hp) (C : Addr) (cl : List (Str × Addr)) (fp : List Addr), DI (X.blk s H scope (compEnvC scope cl C X.env) fp) true tg1 iter1 ti1)
    (hg1 : ∀ (s : Shared) (H : Hp) (C : Addr) (cl : List (Str × Addr)) (fp : List Addr), DG (X.blk s H scope (compEnvC scope cl C X.env) fp) tg1 ks1 g1) (ht1 : ∀ (s : Shared) (H : Hp) (C : Addr) (cl : List (Str × Addr)) (fp : List Addr), DTs (X.blk s H scope (compEnvC scope cl C X.env) fp) ifs1 tq1)
    (he : ∀ (s : Shared) (H : Hp) (C : Addr) (cl : List (Str × Addr)) (fp : List Addr), DW (X.blk s H scope (compEnvC scope cl C X.env) fp) elt tw) (hks : ∀ i ∈ ks, i ∈ own.map (·.2) := by decide) (hks1 : ∀ i ∈ ks1, i ∈ vs1 := by decide) (hv : ∀ i ∈ vs1, i ∈ own.map (·.2) := by decide) (hc : X.calm = true := by rfl)
    (hs : ∀ x, foldedSetIterable iter X.env x = pure x := by intro _; rfl) (hs1 : ∀ env x, foldedSetIterable iter1 env x = pure x := by intro _ _; rfl) :
    DW X (.ListComp elt [⟨tg, iter, ifs, 0⟩, ⟨tg1, iter1, ifs1, 0⟩] scope pos) (dComp2 (own.map (·.2)) ti g tq vs1 ti1 g1 tq1 tw) :=
  pe_mono (pe_lc2 (wi := lI X.K false ti) (g := lG X.K ks g) (tt := lT X.K tq) (wi1 := lI X.K true ti1) (g1 := lG X.K ks1 g1) (tt1 := lT X.K tq1) (te := lW X.K tw) (vs1 := vs1) hc hN hi (blkOk_by ok) hv (fun s H C cl fp => hg s H C cl fp) (fun s H C cl fp => ht s H C cl fp)
    (fun s H C cl fp => hi1 s H C cl fp) (fun s H C cl fp => hg1 s H C cl fp) (fun s H C cl fp => ht1 s H C cl fp) (fun s H C cl fp => he s H C cl fp) hs hs1) fun σ H Q ⟨env, F, ow, dm, P, S, q, k⟩ => by
      refine ⟨env, F, ow, dm, _, S, q, fun items hcw J F1 H1 C x1 hI hC d hd => ?_⟩
      exact compTurns2 S k hks hks1 hcw x1 hI (fun b hb => (hC b hb).2) hd
theorem ds_setLc2 (i : Nat) {y : Str} {py : Pos} {spos : Pos} (own : List (Str × Nat)) (vs1 : List Nat) (hN : X.N.Nodup) (hi : DI X false tg iter ti) (ok : blkC X.N X.env.scope scope own = true)
    (hg : ∀ (s : Shared) (H : Hp) (C : Addr) (cl : List (Str × Addr)) (fp : List Addr), DG (X.blk s H scope (compEnvC scope cl C X.env) fp) tg ks g) (ht : ∀ (s : Shared) (H : Hp) (C : Addr) (cl : List (Str × Addr)) (fp : List Addr), DTs (X.blk s H scope (compEnvC scope cl C X.env) fp) ifs tq)
    (hi1 : ∀ (s : Shared) (H : Hp) (C : Addr) (cl : List (Str × Addr)) (fp : List Addr), DI (X.blk s H scope (compEnvC scope cl C X.env) fp) true tg1 iter1 ti1)
    (hg1 : ∀ (s : Shared) (H : Hp) (C : Addr) (cl : List (Str × Addr)) (fp : List Addr), DG (X.blk s H scope (compEnvC scope cl C X.env) fp) tg1 ks1 g1) (ht1 : ∀ (s : Shared) (H : Hp) (C : Addr) (cl : List (Str × Addr)) (fp : List Addr), DTs (X.blk s H scope (compEnvC scope cl C X.env) fp) ifs1 tq1)
    (he : ∀ (s : Shared) (H : Hp) (C : Addr) (cl : List (Str × Addr)) (fp : List Addr), DW (X.blk s H scope (compEnvC scope cl C X.env) fp) elt tw)
    (hsw : swapsWith (.ListComp elt [⟨tg, iter, ifs, 0⟩, ⟨tg1, iter1, ifs1, 0⟩] scope pos) (some (.Name y py)) spos.line X.env = pure true := by exact sw_true rfl rfl rfl (by decide +kernel)) (hy : X.N[i]? = some y := by rfl) (hyl : X.env.scope.names.lookup y = some .local := by rfl)
    (hks : ∀ i ∈ ks, i ∈ own.map (·.2) := by decide) (hks1 : ∀ i ∈ ks1, i ∈ vs1 := by decide) (hv : ∀ i ∈ vs1, i ∈ own.map (·.2) := by decide) (hc : X.calm = true := by rfl)
    (hs : ∀ x, foldedSetIterable iter X.env x = pure x := by intro _; rfl) (hs1 : ∀ env x, foldedSetIterable iter1 env x = pure x := by intro _ _; rfl) :
    DS X (.Assign [.Name y py] (.ListComp elt [⟨tg, iter, ifs, 0⟩, ⟨tg1, iter1, ifs1, 0⟩] scope pos) spos) (dSet i (dComp2 (own.map (·.2)) ti g tq vs1 ti1 g1 tq1 tw)) := fun _ _ =>
  ps_mono (ps_setLc2 (wi := lI X.K false ti) (g := lG X.K ks g) (tt := lT X.K tq) (wi1 := lI X.K true ti1) (g1 := lG X.K ks1 g1) (tt1 := lT X.K tq1) (te := lW X.K tw) (vs1 := vs1) hc hN hy hyl hsw hi (blkOk_by ok) hv (fun s H C cl fp => hg s H C cl fp) (fun s H C cl fp => ht s H C cl fp)
    (fun s H C cl fp => hi1 s H C cl fp) (fun s H C cl fp => hg1 s H C cl fp) (fun s H C cl fp => ht1 s H C cl fp) (fun s H C cl fp => he s H C cl fp) hs hs1)
    fun D σ H h => by
      have h' : lW X.K (dComp2 (own.map (·.2)) ti g tq vs1 ti1 g1 tq1 tw) σ H _ := tAsg_of h
      obtain ⟨env, F, ow, dm, P, S, q, k⟩ := h'
      refine ⟨env, F, ow, dm, _, S, q, fun items hcw J F1 H1 C x1 hI hC d hd => ?_⟩
      exact compTurns2 S k hks hks1 hcw x1 hI (fun b hb => (hC b hb).2) hd
end
end DL

/-! DL, part zl: what follows a call is held back, so that the simp set reads from left to right; helpers for lists of lists. -/
namespace DL
open PySem L2
/-! a row of names, so that the kernel opens Hold and HoldS ahead of what they hold (it opens the name of greater height first) -/
def hh0 : Unit := ()
def hh1 : Unit := hh0
def hh2 : Unit := hh1
def hh3 : Unit := hh2
def hh4 : Unit := hh3
def hh5 : Unit := hh4
def hh6 : Unit := hh5
def hh7 : Unit := hh6
def hh8 : Unit := hh7
def hh9 : Unit := hh8
def hh10 : Unit := hh9
def hh11 : Unit := hh10
def hh12 : Unit := hh11
def hh13 : Unit := hh12
def hh14 : Unit := hh13
def hh15 : Unit := hh14
def hh16 : Unit := hh15
def hh17 : Unit := hh16
def hh18 : Unit := hh17
def hh19 : Unit := hh18
def hh20 : Unit := hh19
def hh21 : Unit := hh20
def hh22 : Unit := hh21
def hh23 : Unit := hh22
def hh24 : Unit := hh23
def hh25 : Unit := hh24
def hh26 : Unit := hh25
def hh27 : Unit := hh26
def hh28 : Unit := hh27
def hh29 : Unit := hh28
def hh30 : Unit := hh29
def hh31 : Unit := hh30
def hh32 : Unit := hh31
def hh33 : Unit := hh32
def hh34 : Unit := hh33
def hh35 : Unit := hh34
def hh36 : Unit := hh35
def hh37 : Unit := hh36
def hh38 : Unit := hh37
def hh39 : Unit := hh38
def hh40 : Unit := hh39
def hh41 : Unit := hh40
def hh42 : Unit := hh41
def hh43 : Unit := hh42
def hh44 : Unit := hh43
def hh45 : Unit := hh44
def hh46 : Unit := hh45
def hh47 : Unit := hh46
def hh48 : Unit := hh47
def hh49 : Unit := hh48
def hh50 : Unit := hh49
def hh51 : Unit := hh50
def hh52 : Unit := hh51
def hh53 : Unit := hh52
def hh54 : Unit := hh53
def hh55 : Unit := hh54
def hh56 : Unit := hh55
def hh57 : Unit := hh56
def hh58 : Unit := hh57
def hh59 : Unit := hh58
def hh60 : Unit := hh59
def hh61 : Unit := hh60
def hh62 : Unit := hh61
def hh63 : Unit := hh62
def hh64 : Unit := hh63
def hh65 : Unit := hh64
def hh66 : Unit := hh65
def hh67 : Unit := hh66
def hh68 : Unit := hh67
def hh69 : Unit := hh68
def hh70 : Unit := hh69
def hh71 : Unit := hh70
def hh72 : Unit := hh71
def hh73 : Unit := hh72
def hh74 : Unit := hh73
def hh75 : Unit := hh74
def hh76 : Unit := hh75
def hh77 : Unit := hh76
def hh78 : Unit := hh77
def hh79 : Unit := hh78
def hh80 : Unit := hh79
def hh81 : Unit := hh80
def hh82 : Unit := hh81
def hh83 : Unit := hh82
def hh84 : Unit := hh83
def hh85 : Unit := hh84
def hh86 : Unit := hh85
def hh87 : Unit := hh86
def hh88 : Unit := hh87
def hh89 : Unit := hh88
def hh90 : Unit := hh89
def hh91 : Unit := hh90
def hh92 : Unit := hh91
def hh93 : Unit := hh92
def hh94 : Unit := hh93
def hh95 : Unit := hh94
def hh96 : Unit := hh95
def hh97 : Unit := hh96
def hh98 : Unit := hh97
def hh99 : Unit := hh98
def hh100 : Unit := hh99
def hh101 : Unit := hh100
def hh102 : Unit := hh101
def hh103 : Unit := hh102
def hh104 : Unit := hh103
def hh105 : Unit := hh104
def hh106 : Unit := hh105
def hh107 : Unit := hh106
def hh108 : Unit := hh107
def hh109 : Unit := hh108
def hh110 : Unit := hh109
def hh111 : Unit := hh110
def hh112 : Unit := hh111
def hh113 : Unit := hh112
def hh114 : Unit := hh113
def hh115 : Unit := hh114
def hh116 : Unit := hh115
def hh117 : Unit := hh116
def hh118 : Unit := hh117
def hh119 : Unit := hh118
def hh120 : Unit := hh119
def hh121 : Unit := hh120
def hh122 : Unit := hh121
def hh123 : Unit := hh122
def hh124 : Unit := hh123
def hh125 : Unit := hh124
def hh126 : Unit := hh125
def hh127 : Unit := hh126
def hh128 : Unit := hh127
def hh129 : Unit := hh128
def hh130 : Unit := hh129
def hh131 : Unit := hh130
def hh132 : Unit := hh131
def hh133 : Unit := hh132
def hh134 : Unit := hh133
def hh135 : Unit := hh134
def hh136 : Unit := hh135
def hh137 : Unit := hh136
def hh138 : Unit := hh137
def hh139 : Unit := hh138
def hh140 : Unit := hh139
def hh141 : Unit := hh140
def hh142 : Unit := hh141
def hh143 : Unit := hh142
def hh144 : Unit := hh143
def hh145 : Unit := hh144
def hh146 : Unit := hh145
def hh147 : Unit := hh146
def hh148 : Unit := hh147
def hh149 : Unit := hh148
def hh150 : Unit := hh149
structure HTag (P : W → Prop) : Type where
def Hold (P : W → Prop) (_ : HTag P) : W → Prop := fun w => (fun _ : Unit => P w) hh150
theorem hold_app (P : W → Prop) (t : HTag P) (w : W) : Hold P t w = P w := rfl
structure STag (t : TSd) (E : EndsD) : Type where
def HoldS (t : TSd) (E : EndsD) (_ : STag t E) : Env → Prop := fun env => (fun _ : Unit => t E env) hh150
theorem holdS_app (t : TSd) (E : EndsD) (g : STag t E) (env : Env) : HoldS t E g env = t E env := rfl
theorem dCallF_hold (S : Spec) (π : List Nat) (t u : TWs) (env : Env) (Q : W → Prop) : dCallF S π t u env Q = t env fun ws => u env fun zs => S (pick π (ws ++ zs)) (Hold Q .mk) := rfl
theorem dRepr_hold (t : TDs) (env : Env) (Q : W → Prop) : dRepr t env Q = t env fun ds => gRepr ds (Hold Q .mk) := rfl
theorem dSeq_hold (a b : TSd) (E : EndsD) (env : Env) : dSeq a b E env = a { E with nx := HoldS b E .mk } env := rfl
theorem dComp_hold (vs : List Nat) (ti : TIt) (g : TGd) (tq : TQ) (tw : TW) (env : Env) (Q : W → Prop) : dComp vs ti g tq tw env Q = ti env fun items => items.length < sizeLine ∧ compW (wipeE env vs) g tq tw items [] (Hold Q .mk) := rfl
theorem dComp2_hold (vs : List Nat) (ti : TIt) (g : TGd) (tq : TQ) (vs1 : List Nat) (ti1 : TIt) (g1 : TGd) (tq1 : TQ) (tw : TW) (env : Env) (Q : W → Prop) : dComp2 vs ti g tq vs1 ti1 g1 tq1 tw env Q = ti env fun items => compW2 (wipeE env vs) g tq vs1 ti1 g1 tq1 tw items [] (Hold Q .mk) := rfl
theorem dLenSc_hold (vs : List Nat) (ti : TIt) (g : TGd) (tq : TQ) (tw : TW) (env : Env) (Q : W → Prop) : dLenSc vs ti g tq tw env Q = ti env fun items => items.length < 4000 ∧ compS (wipeE env vs) g tq tw items [] fun ns => ∀ L : List Int, L.Nodup → (∀ k, k ∈ L ↔ k ∈ ns) → Hold Q .mk (.fz (.int (L.length : Nat))) := rfl
/-! lists of lists of numbers -/
theorem small64 {n : Nat} (h : n ≤ 1000000) : -(2 ^ 64) < (n : Int) ∧ (n : Int) < 2 ^ 64 := by omega
abbrev lD (l : List Nat) : D := .list (l.map iD)
abbrev llD (tb : List (List Nat)) : D := .list (tb.map lD)
theorem plains_own {α : Type} (f : α → List Nat) (l : List α) : W.plains (l.map fun r => W.own ((f r).map fzn)) = true := by
  induction l with
  | nil => rfl
  | cons x l ih => simp only [List.map_cons, W.plains, W.plain, plains_fzn, ih, Bool.and_true]
theorem datas_own {α : Type} (f : α → List Nat) (l : List α) : W.datas (l.map fun r => W.own ((f r).map fzn)) = l.map fun r => lD (f r) := by
  induction l with
  | nil => rfl
  | cons x l ih => simp only [List.map_cons, W.datas, W.data, datas_fzn, ih]
theorem nds_own {α : Type} (f : α → List Nat) (l : List α) : W.nds (l.map fun r => W.own ((f r).map fzn)) = true := by
  induction l with
  | nil => rfl
  | cons x l ih => simp only [List.map_cons, W.nds, W.nd, nds_fzn, ih, Bool.and_true]
theorem perm_mapD {α : Type} {f : α → D} {es : List D} {L : List α} (h : es.Perm (L.map f)) : ∃ L2 : List α, es = L2.map f ∧ L2.Perm L := by
  generalize hM : L.map f = M at h
  induction h generalizing L with
  | nil => exact ⟨[], rfl, by rw [List.map_eq_nil_iff.mp hM]⟩
  | cons x h ih =>
    rename_i l1 l2
    cases L with
    | nil => cases hM
    | cons a L =>
      rw [List.map_cons] at hM
      injection hM with h1 h2
      obtain ⟨L2, rfl, hp⟩ := ih h2
      exact ⟨a :: L2, by rw [List.map_cons, h1], hp.cons a⟩
  | swap x y l =>
    match L, hM with
    | a :: b :: L, hM =>
      simp only [List.map_cons] at hM
      injection hM with h1 h2
      injection h2 with h2 h3
      exact ⟨b :: a :: L, by rw [List.map_cons, List.map_cons, h1, h2, h3], .swap a b L⟩
    | [], hM => cases hM
    | [a], hM => cases hM
  | trans h1 h2 ih1 ih2 =>
    obtain ⟨L2, rfl, p2⟩ := ih2 hM
    obtain ⟨L3, rfl, p3⟩ := ih1 rfl
    exact ⟨L3, rfl, p3.trans p2⟩
end DL

set_option maxHeartbeats 4000000
/-! DL, part zm: a tuple times any int. -/
namespace L2
open PySem PySem.Spec PyProof.Rows
theorem tup_same (l : Addr) (items : Array Value) (n : Nat) (dd : Option Addr) (sl : Array (Option Value)) (k : Int) (u : Tok) (c0 : (decide (k < -(2 ^ 63)) || decide (k ≥ 2 ^ 63)) = false) (c1 : (items.isEmpty || (k == 1)) = true) :
    Meets (Builtin.«tuple.__mul__» ⟨[.ref l, .int k u], []⟩) (fun _ R s => s.heap.get? l = some { cls := .type "tuple", dict := dd, data := .seq items n, slots := sl } ∧ R (.ok (.ret (Value.ref l))) s) :=
  .of_wp fun prog w A R s h => by
    obtain ⟨hp, g, d, tk, os⟩ := s
    obtain ⟨hl, h⟩ := h
    have f1 := AutoSeq1.idx_int
    wp_walk using wpAny_loadPart' hl
    repeat (first
      | (refine wpAny_ite_false (decide_eq_false (by rw [c0]; exact Bool.false_ne_true)) ?_; wp_walk using wpAny_loadPart' hl)
      | (refine wpAny_ite_true (decide_eq_true (by rw [c1])) ?_; wp_walk using wpAny_loadPart' hl))
    exact ⟨_, rfl, h⟩
theorem tup_none (l : Addr) (items : Array Value) (n : Nat) (dd : Option Addr) (sl : Array (Option Value)) (x : Int) (u : Tok) (c0 : (decide (x < -(2 ^ 63)) || decide (x ≥ 2 ^ 63)) = false) (c1 : (items.isEmpty || x == 1) = false) (c2 : (decide (x ≤ 0) || items.isEmpty) = true) :
    Meets (Builtin.«tuple.__mul__» ⟨[.ref l, .int x u], []⟩) (fun _ R s => s.heap.get? l = some { cls := .type "tuple", dict := dd, data := .seq items n, slots := sl } ∧
      R (.ok (.ret (Value.ref s.heap.objs.size))) { s with heap := s.heap.push { cls := Value.type "tuple", data := Data.seq #[] }, toks := s.toks }) :=
  .of_wp fun prog w A R s h => by
    obtain ⟨hp, g, d, tk, os⟩ := s
    obtain ⟨hl, h⟩ := h
    have f1 := AutoSeq1.idx_int
    wp_walk using wpAny_loadPart' hl
    repeat (first
      | (refine wpAny_ite_false (decide_eq_false (by rw [c0]; exact Bool.false_ne_true)) ?_; wp_walk using wpAny_loadPart' hl)
      | (refine wpAny_ite_false (decide_eq_false (by rw [c1]; exact Bool.false_ne_true)) ?_; wp_walk using wpAny_loadPart' hl)
      | (refine wpAny_ite_true (decide_eq_true (by rw [c2])) ?_; wp_walk using wpAny_loadPart' hl))
    exact ⟨_, rfl, h⟩
/-- the same object, or an empty one -/
def rRepT2 (K : PySem.W.Frag) : R2 := fun x y H Q => ∃ l k xs, x = .ref l ∧ y = .int k ∧ SqT K H l xs ∧ -(2 ^ 63) ≤ k ∧ k < 2 ^ 63 ∧ (xs = [] ∧ Q (.ref l) H ∨ xs ≠ [] ∧ k ≤ 0 ∧ NewT H [] Q)
theorem op_repT2 {X : Cx} : OpR X (binaryOp .Mult) (rRepT2 X.K) := by
  rintro pins s σ H x y v u Q I rx ry ⟨l, k, xs, rfl, rfl, hT, h1, h2, q⟩
  cases rx
  obtain ⟨t, rfl⟩ := ry
  obtain ⟨its, r, ⟨⟨cls, dd, data, sl⟩, ho, hc, n, hd⟩, hs⟩ := I.tuple hT
  simp only at hc hd
  subst hc hd
  have hle : its.length = xs.length := r.length.symm
  have c0 : (decide (k < -(2 ^ 63)) || decide (k ≥ 2 ^ 63)) = false := by
    rw [decide_eq_false (by omega), decide_eq_false (by omega)] <;> rfl
  rcases q with ⟨hx, q⟩ | ⟨hx, hk, q⟩
  · have hi : its.toArray.isEmpty = true := by
      rw [hx] at hle
      have := List.eq_nil_of_length_eq_zero hle
      subst this
      rfl
    refine wpAny_binaryOp_repeat_ref (T := "tuple") (U := "int") (by decide) ⟨_, ho, rfl⟩ (fun s' => typeIs_int s' k t) noFill_tuple_mul F.fills_int_mul F.slot_int_rmul repeat_tuple F.slot_int_index.lookup
      (call_meets F.slot_int_rmul (typeIs_int s k t) F.entry_int_rmul (F.args_int_rmul_2 _ _) (int_rmul_tuple k t l its.toArray n dd sl)
        ⟨ho, rfl, ⟨_, ho, rfl⟩, call_meets F.slot_tuple_mul ⟨_, ho, rfl⟩ F.entry_tuple_mul (F.args_tuple_mul_2 _ _) (tup_same l its.toArray n dd sl k t c0 (by rw [hi]; rfl)) ⟨ho, ?_⟩⟩)
    exact ⟨.ref l, H, I, rfl, q⟩
  · have hi : its.toArray.isEmpty = false := by
      cases its with
      | nil => exact absurd (List.eq_nil_of_length_eq_zero hle.symm) hx
      | cons a b => rfl
    have c1 : (its.toArray.isEmpty || k == 1) = false := by
      rw [hi, Bool.false_or]
      exact beq_eq_false_iff_ne.mpr (by omega)
    have c2 : (decide (k ≤ 0) || its.toArray.isEmpty) = true := by
      rw [decide_eq_true hk]; rfl
    refine wpAny_binaryOp_repeat_ref (T := "tuple") (U := "int") (by decide) ⟨_, ho, rfl⟩ (fun s' => typeIs_int s' k t) noFill_tuple_mul F.fills_int_mul F.slot_int_rmul repeat_tuple F.slot_int_index.lookup
      (call_meets F.slot_int_rmul (typeIs_int s k t) F.entry_int_rmul (F.args_int_rmul_2 _ _) (int_rmul_tuple k t l its.toArray n dd sl)
        ⟨ho, rfl, ⟨_, ho, rfl⟩, call_meets F.slot_tuple_mul ⟨_, ho, rfl⟩ F.entry_tuple_mul (F.args_tuple_mul_2 _ _) (tup_none l its.toArray n dd sl k t c0 c1 c2) ⟨ho, ?_⟩⟩)
    exact lay_tup s.toks I .nil (by rw [sizeLine_eq]; decide) q
end L2
namespace DL
open PySem L2
def gMulB : D → D → (W → Prop) → Prop := fun x y P => match x, y with
  | .int i, .int j => CMulW i j ∧ P (.fz (.int (i * j)))
  | .list xs, .int k => (-(2 ^ 63) ≤ k ∧ k < 2 ^ 63 ∧ xs.length * k.toNat ≤ sizeLine) ∧ P (.own ((List.replicate k.toNat xs).flatten.map .fz))
  | .tuple xs, .int k => (-(2 ^ 63) ≤ k ∧ k ≤ 1000 ∧ xs.length ≤ 1000) ∧ P (.fz (.tuple (List.replicate k.toNat xs).flatten))
  | _, _ => False
theorem snd_mulB {K : PySem.W.Frag} : Snd2 K (fun x y H Q => (((rI CMulW fun i j => .int (i * j)) x y H Q ∨ rRep x y H Q) ∨ (rRepX K x y H Q ∨ rRepT1 K x y H Q)) ∨ rRepT2 K x y H Q) gMulB := by
  intro dm F H x y d1 d2 Q P hs dl h1 h2 g k
  unfold gMulB at g
  split at g
  · exact .inl (snd_mulA dm F H x y _ _ Q P hs dl h1 h2 g k)
  · exact .inl (snd_mulA dm F H x y _ _ Q P hs dl h1 h2 g k)
  · rename_i xs j
    obtain ⟨⟨g1, g3, g4⟩, g5⟩ := g
    by_cases hx : xs = []
    · subst hx
      obtain ⟨a, us, rfl, hF, hq, rr⟩ := h1.tup_inv hs
      cases h2.int_inv
      cases rr
      have e : (List.replicate j.toNat ([] : List D)).flatten = [] := by simp
      rw [e] at g5
      exact .inr ⟨a, j, [], rfl, rfl, hq, g1, by omega, .inl ⟨rfl, got_here hs dl (.tup hF .nil) (k _ g5)⟩⟩
    · by_cases hj : 1 ≤ j
      · exact .inl (snd_mulA dm F H x y _ _ Q P hs dl h1 h2 ⟨⟨hx, hj, g3, g4⟩, g5⟩ k)
      · obtain ⟨a, us, rfl, hF, hq, rr⟩ := h1.tup_inv hs
        cases h2.int_inv
        have e : j.toNat = 0 := by omega
        rw [e] at g5
        refine .inr ⟨a, j, us, rfl, rfl, hq, g1, by omega, .inr ⟨fun e => hx ?_, by omega, got_tup hs dl (ds := []) .nil (k _ g5)⟩⟩
        subst e
        cases rr
        rfl
  · exact g.elim
section
variable {X : Cx} {a b : Expr} {pos : Pos} {ta tb : TB}
abbrev dMulB (ta tb : TB) : TW := dOp2 gMulB ta tb
theorem dw_mulB (ha : DB X a ta) (hb : DB X b tb) : DW X (.BinOp a .Mult b pos) (dMulB ta tb) := dw_op (opOr (opOr (opOr op_mulW op_rep) (opOr op_repX op_repT1)) op_repT2) snd_mulB ha hb
end
end DL

set_option maxHeartbeats 1000000
/-! DL, part zn: zip of two lists or tuples, each of either kind. -/
namespace DL
open PySem PySem.Spec PyProof.Rows L2
theorem meets_zip_2 {v1 v2 : Value} {o1 o2 : Obj} {G1 G2 : Heap → Prop} (B1 : Begins v1 o1 G1) (B2 : Begins v2 o2 G2) :
    Meets (Builtin.«zip.__new__» ⟨[.type "zip", v1, v2], []⟩) (fun _ R s => G1 s.heap ∧ G2 s.heap ∧ R (.ok (.ret (.ref (s.heap.objs.size + 4))))
      { s with heap := ((((s.heap.push o1).push o2).push { cls := .type "tuple", data := .seq #[.ref s.heap.objs.size, .ref (s.heap.objs.size + 1)] }).push { cls := .type "tuple", data := .seq #[.none, .none] }).push { cls := .type "zip", data := .fields #[.none, .bool false, .bool false, .ref (s.heap.objs.size + 2), .ref (s.heap.objs.size + 3)] } }) := by
  refine .of_wp fun prog w A R s h => ?_
  obtain ⟨hp, g, d, tk, os⟩ := s
  obtain ⟨h1, h2, h⟩ := h
  have hsub := sub_zip
  have z1 : (hp.push o1).objs.size = hp.objs.size + 1 := Heap.size_push ..
  have q1 : ∀ {A' : Around} {E : Value → Shared → Prop} {Q : Value → Shared → Prop}, Q (.ref hp.objs.size) ⟨hp.push o1, g, d, tk, os⟩ → wpAny (model prog w) A' (pyIter v1) Q E ⟨hp, g, d, tk, os⟩ := fun q => B1.iter prog w _ _ ⟨hp, g, d, tk, os⟩ _ h1 q
  have q2 : ∀ {A' : Around} {E : Value → Shared → Prop} {Q : Value → Shared → Prop}, Q (.ref (hp.objs.size + 1)) ⟨(hp.push o1).push o2, g, d, tk, os⟩ → wpAny (model prog w) A' (pyIter v2) Q E ⟨hp.push o1, g, d, tk, os⟩ := fun q =>
    B2.iter prog w _ _ ⟨hp.push o1, g, d, tk, os⟩ _ (B2.keeps _ _ h2 fun b o e => Heap.get?_push_of_some _ e) (by rw [z1]; exact q)
  have z2 : ((hp.push o1).push o2).objs.size = hp.objs.size + 2 := by rw [Heap.size_push, z1]
  have z3 : ∀ o, (((hp.push o1).push o2).push o).objs.size = hp.objs.size + 3 := fun o => by rw [Heap.size_push, z2]
  have z4 : ∀ o u, ((((hp.push o1).push o2).push o).push u).objs.size = hp.objs.size + 4 := fun o u => by rw [Heap.size_push, z3]
  wp_walk using q1, q2
  refine ⟨_, rfl, ?_⟩
  simp only [z4, z3, z2]
  exact h
/-- of two kinds: a tuple (true), a list (false) -/
def SqB (b : Bool) (K : PySem.W.Frag) (H : Hp) (a : Addr) (xs : List V) : Prop := match b with
  | true => SqT K H a xs
  | false => SqL K H a xs
def ItB (b : Bool) (h : Heap) (it a : Addr) (i : Nat) : Prop := match b with
  | true => h.IsTupleIter it a i
  | false => h.IsListIter it a i
def ObB (b : Bool) (h : Heap) (a : Addr) (its : Array Value) : Prop := match b with
  | true => h.IsTuple a its
  | false => h.IsList a its
def itO (b : Bool) (a : Addr) : Obj := match b with
  | true => { cls := .type "tuple_iterator", data := .fields #[.ref a, .int 0 0] }
  | false => { cls := .type "list_iterator", data := .fields #[.ref a, .int 0 0] }
theorem begB (b : Bool) (a : Addr) (its : Array Value) : Begins (.ref a) (itO b a) fun h => ObB b h a its := by
  cases b
  · exact begins_list a its
  · exact begins_tuple a its
theorem drawB (b : Bool) {prog : Program} {w : World} {A : Around} (hh : A.handled = none) (it a : Addr) (hne : a ≠ it) (its : Array Value) : Draws prog w A it [it, a] its.size (fun i v => its[i]? = some v) fun i h => ItB b h it a i ∧ ObB b h a its := by
  cases b
  · exact Draws.list hh it a hne its
  · exact Draws.tuple hh it a hne its
theorem itB_obj {b : Bool} {h : Heap} {it a : Addr} {i : Nat} (st : ItB b h it a i) : ∃ o, h.get? it = some o ∧ ∀ v, o.data ≠ .cell v := by
  cases b
  · obtain ⟨o, ho, _, hd⟩ := st
    exact ⟨o, ho, fun v q => by rw [hd] at q; cases q⟩
  · obtain ⟨o, ho, _, hd⟩ := st
    exact ⟨o, ho, fun v q => by rw [hd] at q; cases q⟩
theorem itB_keep {b : Bool} {h h' : Heap} {it a : Addr} {i : Nat} (st : ItB b h it a i) (k : ∀ o, h.get? it = some o → h'.get? it = some o) : ItB b h' it a i := by
  cases b
  · exact Heap.IsListIter.at st k
  · exact Heap.IsTupleIter.at st k
theorem itB_new {b : Bool} {h : Heap} {it a : Addr} (ho : h.get? it = some (itO b a)) : ItB b h it a 0 := by
  cases b
  · exact ⟨_, ho, rfl, rfl⟩
  · exact ⟨_, ho, rfl, rfl⟩
theorem itO_free (b : Bool) (a : Addr) : (itO b a).isFreed = false := (begB b a #[]).free
/-- what stands at a -/
theorem invB {b : Bool} {X : Cx} {pins : List (Addr × Obj)} {σ : L2.St} {H : Hp} {s : Shared} (I : Inv X pins σ H s) {a : Addr} {xs : List V} (h : SqB b X.K H a xs) : ∃ its : List Value, Vals xs its ∧ ObB b s.heap a its.toArray ∧ ∃ o, s.heap.get? a = some o := by
  cases b
  · obtain ⟨its, rv, pl, _⟩ := I.list h
    obtain ⟨o, ho, _⟩ := pl.isList.typeIs
    exact ⟨its, rv, pl.isList, o, ho⟩
  · obtain ⟨its, rv, pl, _⟩ := I.tuple h
    obtain ⟨o, ho, _⟩ := id pl
    exact ⟨its, rv, pl, o, ho⟩
/-- two together: pairs, as many as the shorter one has -/
def Itz2 (G : Hp → Prop) (xs ys : List V) : It :=
  ⟨fun i H => G H ∧ i < xs.length ∧ i < ys.length, fun i H v H' => ∃ T o x y, v = .ref T ∧ H T = none ∧ o.dict = none ∧ H' = upd H T (.frz o (.tup [x, y])) ∧ xs[i]? = some x ∧ ys[i]? = some y, fun i H => G H ∧ i ≤ xs.length ∧ i ≤ ys.length ∧ (i = xs.length ∨ i = ys.length)⟩
theorem turn_zip2 {P : Program} {w : World} {K : PySem.W.Frag} {elts : List Expr} {kk : Nat} {tpos : Pos} {z TI TO i1 i2 l1 l2 : Addr} {b1 b2 : Bool} {xs ys : List V} (S : ZipSep2 z TI TO i1 i2 [i1, l1] [i2, l2]) (n1 : l1 ≠ i1) (n2 : l2 ≠ i2) :
    Turn P w K (.Tuple elts kk tpos) (Itz2 (fun H => SqB b1 K H l1 xs ∧ SqB b2 K H l2 ys) xs ys) [z, TI, TO, i1, i2] z (fun i h => IsZip h z TI TO .none ∧ IsTupOf2 h TI (.ref i1) (.ref i2) ∧ (∃ x y, IsTupOf2 h TO x y) ∧ ItB b1 h i1 l1 i ∧ ItB b2 h i2 l2 i) where
  mem := by simp
  obj := fun i h ⟨hz, hTI, ⟨x, y, hTO⟩, h1, h2⟩ b hb => by
    have hb' : b = z ∨ b = TI ∨ b = TO ∨ b = i1 ∨ b = i2 := by simpa using hb
    rcases hb' with q | q | q | q | q
    · subst q; exact ⟨_, hz, fun v e => nomatch e⟩
    · subst q; exact ⟨_, hTI, fun v e => nomatch e⟩
    · subst q; exact ⟨_, hTO, fun v e => nomatch e⟩
    · subst q; exact itB_obj h1
    · subst q; exact itB_obj h2
  keep := fun i h h' ⟨hz, hTI, ⟨x, y, hTO⟩, h1, h2⟩ k => ⟨k z (by simp) _ hz, k TI (by simp) _ hTI, ⟨x, y, k TO (by simp) _ hTO⟩, itB_keep h1 fun o e => k i1 (by simp) o e, itB_keep h2 fun o e => k i2 (by simp) o e⟩
  item := by
    rintro X rfl rfl rfl hc i pins s σ H E I hf ⟨hz, hTI, ⟨x0, y0, hTO⟩, h1, h2⟩ ⟨⟨g1, g2⟩, lx, ly⟩
    obtain ⟨its, rv, p1, _⟩ := invB I g1
    obtain ⟨its2, rv2, p2, _⟩ := invB I g2
    have D1 := drawB b1 (prog := X.prog) (w := X.w) (A := X.A.in1) (I.ok.hd hc) i1 l1 n1 its.toArray
    have D2 := drawB b2 (prog := X.prog) (w := X.w) (A := X.A.in1) (I.ok.hd hc) i2 l2 n2 its2.toArray
    have e1 := rv.length
    have e2 := rv2.length
    have zl := Heap.lt_size hz
    refine wpAny_pyNext_zipD2_item S D1 D2 hz hTI hTO ⟨h1, p1⟩ ⟨h2, p2⟩ (by rw [List.size_toArray]; omega) (by rw [List.size_toArray]; omega) fun u1 u2 h' tk y1 y2 z' TO' s1 s2 hT hsz hk => ?_
    obtain ⟨vx, hvx⟩ : ∃ v, xs[i]? = some v := ⟨_, List.getElem?_eq_getElem lx⟩
    obtain ⟨vy, hvy⟩ : ∃ v, ys[i]? = some v := ⟨_, List.getElem?_eq_getElem ly⟩
    obtain ⟨w1, hw1, r1⟩ := rv.get hvx
    obtain ⟨w2, hw2, r2⟩ := rv2.get hvy
    have y1' : its[i]? = some u1 := by simpa using y1
    have y2' : its2[i]? = some u2 := by simpa using y2
    rw [hw1] at y1'
    rw [hw2] at y2'
    cases y1'
    cases y2'
    refine ⟨_, rfl, wpAny_letOwnedTupleGo_zip (s := { s with heap := h', toks := tk }) z' fun h3 z3 sb => ?_⟩
    have up : ∀ c o, c ≠ z → h'.get? c = some o → h3.get? c = some o := fun c o hc e => sb.extBut c o hc e
    have hT3 := up _ _ (Nat.ne_of_gt zl) hT
    have I1 : Inv X pins σ (upd H s.heap.objs.size (.frz _ (.tup [vx, vy]))) { s with heap := h3, toks := tk } := I.turnedNew (ch := [z, TI, TO, i1, i2])
      (fun c o hb q => up c o (fun e => hb (by simp [e])) (hk c o (fun e => hb (by simp [e])) (fun e => hb (by simp [e])) (fun e => hb (by simp [e])) (fun e => hb (by simp [e])) q)) hf (Nat.le_refl _)
      ⟨hT3, by show 2 ≤ sizeLine; decide, [u1, u2], .cons r1 (.cons r2 .nil), ⟨_, hT3, rfl, _, rfl⟩⟩
    have nz1 : i1 ≠ z := fun e => S.zf1 (by simp [e])
    have nz2 : i2 ≠ z := fun e => S.zf2 (by simp [e])
    refine ⟨.ref s.heap.objs.size, _, I1, rfl, ⟨_, _, vx, vy, rfl, I.hok.fresh (Nat.le_refl _), rfl, rfl, hvx, hvy⟩, ⟨z3, up _ _ S.TIz (hk _ _ S.TIz S.TITO S.TIi1 S.TIi2 hTI), ⟨_, _, up _ _ S.TOz TO'⟩, itB_keep s1.1 fun o e => up _ _ nz1 e, itB_keep s2.1 fun o e => up _ _ nz2 e⟩, fun c hcm => ?_⟩
    have lt : c < s.heap.objs.size := by
      have hc' : c = z ∨ c = TI ∨ c = TO ∨ c = i1 ∨ c = i2 := by simpa using hcm
      rcases hc' with q | q | q | q | q
      · exact q ▸ zl
      · exact q ▸ Heap.lt_size hTI
      · exact q ▸ Heap.lt_size hTO
      · subst q; obtain ⟨o, ho, _⟩ := itB_obj h1; exact Heap.lt_size ho
      · subst q; obtain ⟨o, ho, _⟩ := itB_obj h2; exact Heap.lt_size ho
    rw [upd_ne (Nat.ne_of_lt lt)]
    exact (hf c hcm).1
  done := by
    rintro X rfl rfl rfl hc i pins s σ H E I hf ⟨hz, hTI, ⟨x0, y0, hTO⟩, h1, h2⟩ ⟨⟨g1, g2⟩, lx, ly, hend⟩
    obtain ⟨its, rv, p1, _⟩ := invB I g1
    obtain ⟨its2, rv2, p2, _⟩ := invB I g2
    have D1 := drawB b1 (prog := X.prog) (w := X.w) (A := X.A.in1) (I.ok.hd hc) i1 l1 n1 its.toArray
    have D2 := drawB b2 (prog := X.prog) (w := X.w) (A := X.A.in1) (I.ok.hd hc) i2 l2 n2 its2.toArray
    have e1 := rv.length
    have e2 := rv2.length
    exact wpAny_pyNext_zipD2_end S D1 D2 hz hTI hTO ⟨h1, p1⟩ ⟨h2, p2⟩ (by rw [List.size_toArray]; omega) (by rw [List.size_toArray]; omega) (by rw [List.size_toArray, List.size_toArray]; omega) fun h' tk hk => ⟨rfl, I.turnedL (ch := [z, TI, TO, i1, i2]) (fun c o hb q =>
      hk c o (fun e => hb (by simp [e])) (fun e => hb (by simp [e])) (fun e => hb (by simp [e])) (fun e => hb (by simp [e])) q) hf⟩
  self := fun A i s Q E st h => wpAny_pyIter_zip st.1 h
/-- zip of two -/
def iZip2 (K : PySem.W.Frag) (ta : TA) : TI := fun σ H R => ta σ H fun vs H1 => ∃ a b xs ys b1 b2, vs = [.ref a, .ref b] ∧ SqB b1 K H1 a xs ∧ SqB b2 K H1 b ys ∧ R (Itz2 (fun H => SqB b1 K H a xs ∧ SqB b2 K H b ys) xs ys) H1
theorem call_zip2 {prog : Program} {w : World} {A : Around} {E : Value → Shared → Prop} {s : Shared} {l1 l2 : Addr} {b1 b2 : Bool} {xs ys : Array Value} {Q : Value → Shared → Prop} (h1 : ObB b1 s.heap l1 xs) (h2 : ObB b2 s.heap l2 ys)
    (h : ∀ h', IsZip h' (s.heap.objs.size + 4) (s.heap.objs.size + 2) (s.heap.objs.size + 3) .none → IsTupOf2 h' (s.heap.objs.size + 2) (.ref s.heap.objs.size) (.ref (s.heap.objs.size + 1)) → IsTupOf2 h' (s.heap.objs.size + 3) .none .none →
      ItB b1 h' s.heap.objs.size l1 0 → ItB b2 h' (s.heap.objs.size + 1) l2 0 → (∀ c o, s.heap.get? c = some o → h'.get? c = some o) → Q (.ref (s.heap.objs.size + 4)) { s with heap := h' }) : wpAny (model prog w) A (call (.type "zip") [.ref l1, .ref l2]) Q E s := by
  refine callType_new F.called_zip (by decide) (F.typeCall_zip_2 _ _) (F.newCall_zip_2 _ _) (fun obj => F.args_object_init_3 obj _ _) F.entry_zip_new (meets_zip_2 (begB b1 l1 xs) (begB b2 l2 ys)) ⟨h1, h2, ?_⟩
  have z1 : (s.heap.push (itO b1 l1)).objs.size = s.heap.objs.size + 1 := Heap.size_push ..
  have z2 : ((s.heap.push (itO b1 l1)).push (itO b2 l2)).objs.size = s.heap.objs.size + 2 := by rw [Heap.size_push, z1]
  have z3 : ∀ o, (((s.heap.push (itO b1 l1)).push (itO b2 l2)).push o).objs.size = s.heap.objs.size + 3 := fun o => by rw [Heap.size_push, z2]
  have z4 : ∀ o u, ((((s.heap.push (itO b1 l1)).push (itO b2 l2)).push o).push u).objs.size = s.heap.objs.size + 4 := fun o u => by rw [Heap.size_push, z3]
  have g1 := Heap.get?_push_size s.heap (o := itO b1 l1) (itO_free b1 l1)
  have g2 := Heap.get?_push_size (s.heap.push (itO b1 l1)) (o := itO b2 l2) (itO_free b2 l2)
  rw [z1] at g2
  have g3 := Heap.get?_push_size ((s.heap.push (itO b1 l1)).push (itO b2 l2)) (o := { cls := .type "tuple", data := .seq #[.ref s.heap.objs.size, .ref (s.heap.objs.size + 1)] }) rfl
  rw [z2] at g3
  have g4 := Heap.get?_push_size (((s.heap.push (itO b1 l1)).push (itO b2 l2)).push { cls := .type "tuple", data := .seq #[.ref s.heap.objs.size, .ref (s.heap.objs.size + 1)] }) (o := { cls := .type "tuple", data := .seq #[.none, .none] }) rfl
  rw [z3] at g4
  have g5 := Heap.get?_push_size ((((s.heap.push (itO b1 l1)).push (itO b2 l2)).push { cls := .type "tuple", data := .seq #[.ref s.heap.objs.size, .ref (s.heap.objs.size + 1)] }).push { cls := .type "tuple", data := .seq #[.none, .none] }) (o := { cls := .type "zip", data := .fields #[.none, .bool false, .bool false, .ref (s.heap.objs.size + 2), .ref (s.heap.objs.size + 3)] }) rfl
  rw [z4] at g5
  show _ ∧ _
  exact ⟨⟨_, g5, rfl⟩, h _ g5 (Heap.get?_push_of_some _ (Heap.get?_push_of_some _ g3)) (Heap.get?_push_of_some _ g4) (itB_new (Heap.get?_push_of_some _ (Heap.get?_push_of_some _ (Heap.get?_push_of_some _ (Heap.get?_push_of_some _ g1)))))
    (itB_new (Heap.get?_push_of_some _ (Heap.get?_push_of_some _ (Heap.get?_push_of_some _ g2)))) fun c o e => Heap.get?_push_of_some _ (Heap.get?_push_of_some _ (Heap.get?_push_of_some _ (Heap.get?_push_of_some _ (Heap.get?_push_of_some _ e))))⟩
section
variable {X : Cx} {e e2 : Expr} {ta : TA} {p pos tpos : Pos} {elts : List Expr} {kk : Nat}
theorem pi_zip2 (hg : Gl X "zip") (hm : X.mg "zip" = none) (ha : PA X [e, e2] ta)
    (hs : starEach [e, e2] X.env = (false, eval e X.env) :: starEach [e2] X.env := by rfl) (hpl : (backTo pos (starEach [e2] X.env)).any (·.1) = false := by rfl) : PI X (.Tuple elts kk tpos) (.Call (.Name "zip" p) [e, e2] [] pos) (iZip2 X.K ta) := by
  refine ⟨fun pins s σ H R I h => Call_ (ld_blt I hg hm PyProof.Rows.boot_zip (PyProof.Rows.callWith_type1 (thn (ha.run pos pins s σ H _ I h) fun us s1 ⟨vs, H1, I1, r1, q1⟩ => ?_) hs hpl))⟩
  obtain ⟨a, b, xs, ys, b1, b2, rfl, k1, k2, q⟩ := q1
  cases r1 with
  | cons ra rr =>
  cases rr with
  | cons rb rr =>
  cases rr
  cases ra
  cases rb
  obtain ⟨its, rv, p1, o1, ho1⟩ := invB I1 k1
  obtain ⟨its2, rv2, p2, o2, ho2⟩ := invB I1 k2
  have la := Heap.lt_size ho1
  have lb := Heap.lt_size ho2
  refine call_zip2 p1 p2 fun h' hz hTI hTO h1 h2 hk => wpAny_pyIter_zip hz ?_
  have S : ZipSep2 (s1.heap.objs.size + 4) (s1.heap.objs.size + 2) (s1.heap.objs.size + 3) s1.heap.objs.size (s1.heap.objs.size + 1) [s1.heap.objs.size, a] [s1.heap.objs.size + 1, b] := by
    have a4 : a ≠ s1.heap.objs.size + 4 := Nat.ne_of_lt (Nat.lt_of_lt_of_le la (Nat.le_add_right _ _))
    have a3 : a ≠ s1.heap.objs.size + 3 := Nat.ne_of_lt (Nat.lt_of_lt_of_le la (Nat.le_add_right _ _))
    have a1 : a ≠ s1.heap.objs.size + 1 := Nat.ne_of_lt (Nat.lt_of_lt_of_le la (Nat.le_add_right _ _))
    have c4 : b ≠ s1.heap.objs.size + 4 := Nat.ne_of_lt (Nat.lt_of_lt_of_le lb (Nat.le_add_right _ _))
    have c3 : b ≠ s1.heap.objs.size + 3 := Nat.ne_of_lt (Nat.lt_of_lt_of_le lb (Nat.le_add_right _ _))
    have c0 : b ≠ s1.heap.objs.size := Nat.ne_of_lt lb
    have ni : ∀ {x u v : Addr}, x ≠ u → x ≠ v → x ∉ [u, v] := fun h1 h2 h3 => by
      rcases List.mem_cons.mp h3 with e | h3
      · exact h1 e
      · exact h2 (List.mem_singleton.mp h3)
    have pl : ∀ m n : Nat, m ≠ n → s1.heap.objs.size + m ≠ s1.heap.objs.size + n := fun m n h e => h (Nat.add_left_cancel e)
    exact ⟨pl 2 4 (by decide), pl 3 4 (by decide), pl 2 3 (by decide), pl 2 0 (by decide), by simp, ni (pl 4 0 (by decide)) (Ne.symm a4), ni (pl 3 0 (by decide)) (Ne.symm a3), pl 2 1 (by decide), by simp,
      ni (pl 4 1 (by decide)) (Ne.symm c4), ni (pl 3 1 (by decide)) (Ne.symm c3), ni (pl 0 1 (by decide)) (Ne.symm c0), ni (pl 1 0 (by decide)) (Ne.symm a1)⟩
  refine ⟨s1.heap.objs.size + 4, [s1.heap.objs.size + 4, s1.heap.objs.size + 2, s1.heap.objs.size + 3, s1.heap.objs.size, s1.heap.objs.size + 1], _, _, H1, rfl, I1.kept (t' := s1.toks) hk, turn_zip2 S (Nat.ne_of_lt la) (Nat.ne_of_lt (Nat.lt_succ_of_lt lb)), ⟨hz, hTI, ⟨_, _, hTO⟩, h1, h2⟩, fun c hcm => ?_, q⟩
  have hle : s1.heap.objs.size ≤ c := by
    have hc' : c = s1.heap.objs.size + 4 ∨ c = s1.heap.objs.size + 2 ∨ c = s1.heap.objs.size + 3 ∨ c = s1.heap.objs.size ∨ c = s1.heap.objs.size + 1 := by simpa using hcm
    rcases hc' with q | q | q | q | q
    · exact q ▸ Nat.le_add_right _ _
    · exact q ▸ Nat.le_add_right _ _
    · exact q ▸ Nat.le_add_right _ _
    · exact q ▸ Nat.le_refl _
    · exact q ▸ Nat.le_add_right _ _
  exact I1.fpOk hle (I1.hok.fresh hle)
end
/-! ### zip over data -/
def zipD : List D → List D → List D
  | x :: xs, y :: ys => .tuple [x, y] :: zipD xs ys
  | _, _ => []
theorem zipD_get : ∀ {xs ys : List D} {i : Nat} {d : D}, (zipD xs ys)[i]? = some d → ∃ x y, xs[i]? = some x ∧ ys[i]? = some y ∧ d = .tuple [x, y]
  | x :: xs, y :: ys, 0, d, h => ⟨x, y, rfl, rfl, (Option.some.inj h).symm⟩
  | x :: xs, y :: ys, i + 1, d, h => zipD_get (xs := xs) (ys := ys) (i := i) h
  | [], _, i, d, h => by unfold zipD at h; simp at h
  | _ :: _, [], i, d, h => by unfold zipD at h; simp at h
theorem zipD_len : ∀ xs ys : List D, (zipD xs ys).length = min xs.length ys.length
  | x :: xs, y :: ys => by unfold zipD; rw [List.length_cons, zipD_len xs ys, List.length_cons, List.length_cons]; omega
  | [], ys => by unfold zipD; simp
  | _ :: _, [] => by unfold zipD; simp
theorem itr_zip2 {K : PySem.W.Frag} {F1 H1 : Hp} {C : Addr → Prop} {G : Hp → Prop} {vs us : List V} {ds es : List D} (hG : ∀ F H, Same F1 F → Same F H → (∀ b, C b → H b = H1 b) → G H) (r : DpAll K F1 vs ds) (r2 : DpAll K F1 us es) : ItR K C F1 H1 (Itz2 G vs us) (zipD ds es) := fun dm F H h1 h2 h3 h4 => by
  have g := hG F H h1 h2 h4
  have l1 := dpAll_length r
  have l2 := dpAll_length r2
  refine ⟨fun i d hd => ?_, ⟨g, by rw [zipD_len]; omega, by rw [zipD_len]; omega, by rw [zipD_len]; omega⟩⟩
  obtain ⟨x, y, hx, hy, rfl⟩ := zipD_get hd
  obtain ⟨v, e, rv⟩ := dpAll_get r hx
  obtain ⟨u, e', ru⟩ := dpAll_get r2 hy
  refine ⟨⟨g, (List.getElem?_eq_some_iff.mp e).1, (List.getElem?_eq_some_iff.mp e').1⟩, fun z H' ⟨T, ob, x', y', e1, hT, hob, e2, e4, e5⟩ => ?_⟩
  rw [e] at e4
  rw [e'] at e5
  cases e4
  cases e5
  subst e1 e2
  exact pair_new h2 h3 hT hob (dp_same h1 rv) (dp_same h1 ru)
/-- the items of a list or tuple -/
def itemsD : D → Option (List D)
  | .list ds => some ds
  | .tuple ds => some ds
  | _ => none
def iZipD (t u : TB) : TIt := fun env Q => t env fun d => u env fun e => match itemsD d, itemsD e with
  | some xs, some ys => Q (zipD xs ys)
  | _, _ => False
/-- what is looked at stands as a list or a tuple, of frozen items; C: the cell of a list of its own -/
theorem db_seq {K : PySem.W.Frag} {dm : DM} {F H : Hp} {v : V} {d : D} {ds : List D} (r : Db K dm F H v d) (hi : itemsD d = some ds) :
    ∃ a vs b, v = .ref a ∧ DpAll K F vs ds ∧ ∃ C : Addr → Prop, (∀ c, C c → H c ≠ none ∧ ¬ isM dm c) ∧ ∀ F' H', Same F F' → Same F' H' → (∀ c, C c → H' c = H c) → SqB b K H' a vs := by
  rcases r with r | ⟨a, vs, es, rfl, rfl, h3, h4, h5⟩
  · cases r with
    | lst h1 h2 => cases hi; exact ⟨_, _, false, rfl, h2, fun _ => False, fun _ z => z.elim, fun F' H' e1 e2 _ => .of ((e1.trans e2) _ _ h1)⟩
    | tup h1 h2 => cases hi; exact ⟨_, _, true, rfl, h2, fun _ => False, fun _ z => z.elim, fun F' H' e1 e2 _ => sqT_same (e1.trans e2) h1.sq⟩
    | _ => cases hi
  · cases hi
    exact ⟨a, vs, false, rfl, h5, fun c => c = a, fun c hc => by subst hc; exact ⟨by rw [h3]; simp, h4⟩, fun F' H' e1 e2 e3 => .of ((e3 a rfl).trans h3)⟩
section
variable {X : Cx} {a b : Expr} {p pos tpos : Pos} {elts : List Expr} {kk : Nat} {t u : TB}
/-- zip of two looked at, in a comprehension -/
theorem di_zipb (hm : X.mg "zip" = none) (ha : DB X a t) (hb : DB X b u) (hg : Gl X "zip" := by rfl) (hs : starEach [a, b] X.env = (false, eval a X.env) :: starEach [b] X.env := by rfl) (hs2 : starEach [b] X.env = [(false, eval b X.env)] := by rfl)
    (hpl : (backTo pos (starEach [b] X.env)).any (·.1) = false := by rfl) : DI X false (.Tuple elts kk tpos) (.Call (.Name "zip" p) [a, b] [] pos) (iZipD t u) := by
  refine pi_mono (pi_zip2 hg hm (pa_cons ha (pa_one hb hs2) hs) hs hpl) fun σ H R ⟨env, F, ow, dm, P, S, q, k⟩ => ⟨env, F, ow, dm, _, S, q, fun d hd v F1 H1 x r => ⟨env, F1, ow, dm, _, S.ext x, hd, fun e he w F2 H2 x2 r2 => ?_⟩⟩
  have r1 := r.ext x2
  split at he
  · rename_i xs ys e1 e2
    obtain ⟨a1, vs, b1, rfl, g1, C1, c1, k1⟩ := db_seq r1 e1
    obtain ⟨a2, us, b2, rfl, g2, C2, c2, k2⟩ := db_seq r2 e2
    refine ⟨a1, a2, vs, us, b1, b2, rfl, k1 F2 H2 (Same.refl F2) x2.fh (fun _ _ => rfl), k2 F2 H2 (Same.refl F2) x2.fh (fun _ _ => rfl), k _ he _ F2 H2 (fun c => C1 c ∨ C2 c) (x.trans x2) (itr_zip2 (fun F H e1 e2 e3 => ⟨k1 F H e1 e2 fun c hc => e3 c (.inl hc), k2 F H e1 e2 fun c hc => e3 c (.inr hc)⟩) g1 g2) fun c hc => ⟨rfl, hc.elim (c1 c) (c2 c)⟩⟩
  · exact he.elim
theorem df_dp {K : PySem.W.Frag} {F : Hp} {v : V} {d : D} {ds : List D} (r : Dp K F v d) (hi : itemsD d = some ds) : ∃ a vs b, v = .ref a ∧ DpAll K F vs ds ∧ ∀ F' H', Same F F' → Same F' H' → SqB b K H' a vs := by
  cases r with
  | lst h1 h2 => cases hi; exact ⟨_, _, false, rfl, h2, fun F' H' e1 e2 => .of ((e1.trans e2) _ _ h1)⟩
  | tup h1 h2 => cases hi; exact ⟨_, _, true, rfl, h2, fun F' H' e1 e2 => sqT_same (e1.trans e2) h1.sq⟩
  | _ => cases hi
/-- zip of data, in a loop -/
theorem di_zip {st : Bool} (hm : X.mg "zip" = none) (ha : DF X a t) (hb : DF X b u) (hg : Gl X "zip" := by rfl) (hs : starEach [a, b] X.env = (false, eval a X.env) :: starEach [b] X.env := by rfl) (hs2 : starEach [b] X.env = [(false, eval b X.env)] := by rfl)
    (hpl : (backTo pos (starEach [b] X.env)).any (·.1) = false := by rfl) : DI X st (.Tuple elts kk tpos) (.Call (.Name "zip" p) [a, b] [] pos) (iZipD t u) := by
  refine pi_mono (pi_zip2 hg hm (pa_cons ha (pa_one hb hs2) hs) hs hpl) fun σ H R ⟨env, F, ow, dm, P, S, q, k⟩ => ⟨env, F, ow, dm, _, S, q, fun d hd v F1 H1 x r => ⟨env, F1, ow, dm, _, S.ext x, hd, fun e he w F2 H2 x2 r2 => ?_⟩⟩
  split at he
  · rename_i xs ys e1 e2
    obtain ⟨a1, vs, b1, rfl, g1, k1⟩ := df_dp r e1
    obtain ⟨a2, us, b2, rfl, g2, k2⟩ := df_dp r2 e2
    have g1' := dpAll_same x2.ff g1
    refine ⟨a1, a2, vs, us, b1, b2, rfl, k1 F2 H2 x2.ff x2.fh, k2 F2 H2 (Same.refl F2) x2.fh, k _ he _ F2 H2 (fun _ => False) (x.trans x2) (itr_zip2 (fun F H e1 e2 _ => ⟨k1 F H (x2.ff.trans e1) e2, k2 F H e1 e2⟩) g1' g2) fun c hc => hc.elim⟩
  · exact he.elim
end
end DL

set_option maxHeartbeats 4000000
/-! DL, part zo: a raise that is never met; sorted lists of tuples of ints. -/
namespace DL
open PySem L2
/-- code that is never reached -/
def dDead : TSd := fun _ _ => False
theorem ds_dead {X : Cx} {st : Stmt} : DS X st dDead := fun _ _ => ⟨fun pins s σ H D I h => by
  obtain ⟨A, E, env, F, ow, dm, S, q, k⟩ := h
  exact q.elim⟩
/-- the ints of a tuple -/
def tupInts : D → Option (List Int)
  | .tuple ds => intsOf ds
  | _ => none
theorem perm_dpAll {K : PySem.W.Frag} {F : Hp} {vs us : List V} (p : vs.Perm us) : ∀ {ds : List D}, DpAll K F us ds → ∃ es : List D, es.Perm ds ∧ DpAll K F vs es := by
  induction p with
  | nil => intro ds r; cases r; exact ⟨[], .refl _, .nil⟩
  | cons v p ih =>
    intro ds r
    cases r with
    | cons h r =>
      obtain ⟨es, h1, h2⟩ := ih r
      exact ⟨_ :: es, h1.cons _, .cons h h2⟩
  | swap x y l =>
    intro ds r
    cases r with
    | cons h r => cases r with
      | cons h2 r => exact ⟨_, .swap _ _ _, .cons h2 (.cons h r)⟩
  | trans p q ih1 ih2 =>
    intro ds r
    obtain ⟨es, h1, h2⟩ := ih2 r
    obtain ⟨fs, h3, h4⟩ := ih1 h2
    exact ⟨fs, h3.trans h1, h4⟩
theorem tupI_of {K : PySem.W.Frag} {F H : Hp} (hs : Same F H) {v : V} {d : D} {ns : List Int} (r : Dp K F v d) (e : tupInts d = some ns) : TupI K H v ns := by
  unfold tupInts at e
  split at e
  · rw [intsOf_eq e] at r
    have h : Db K none F H v _ := .inl r
    obtain ⟨a, us, rfl, _, hq, rr⟩ := h.tup_inv hs
    rw [dpAll_ints rr] at hq
    exact ⟨a, rfl, hq⟩
  · cases e
theorem pair_dpAll {K : PySem.W.Frag} {F H : Hp} (hs : Same F H) (B : Int) : ∀ {vs : List V} {ds : List D}, DpAll K F vs ds → vs.Pairwise (fun x y => ∀ n m, TupI K H x n → TupI K H y m → TS.code B n ≤ TS.code B m) →
    ds.Pairwise fun x y => ∀ n m, tupInts x = some n → tupInts y = some m → TS.code B n ≤ TS.code B m
  | _, _, .nil, _ => .nil
  | v :: vs, d :: ds, .cons h r, p => by
    obtain ⟨p1, p2⟩ := List.pairwise_cons.mp p
    refine List.pairwise_cons.mpr ⟨fun y hy n m e1 e2 => ?_, pair_dpAll hs B r p2⟩
    obtain ⟨i, hi⟩ := List.getElem?_of_mem hy
    obtain ⟨u, hu, ru⟩ := dpAll_get r hi
    exact p1 u (List.mem_of_getElem? hu) n m (tupI_of hs h e1) (tupI_of hs ru e2)
def gSortedT : List D → (W → Prop) → Prop := fun ds P => match ds with
  | [.list xs] => xs.length < 64 ∧ ∃ (n : Nat) (B : Int), 1 ≤ n ∧ (∀ x ∈ xs, ∃ ns, tupInts x = some ns ∧ ns.length = n ∧ TS.Bd B ns) ∧
    ∀ es : List D, es.Perm xs → es.Pairwise (fun x y => ∀ n m, tupInts x = some n → tupInts y = some m → TS.code B n ≤ TS.code B m) → P (.own (es.map .fz))
  | _ => False
theorem cr_sortTU {X : Cx} : CallR X (.builtin "sorted") (fun vs H Q => ∃ (d : Nat) (B : Int), 1 ≤ d ∧ rSortU X.K d B vs H Q) := by
  intro pins s σ H vs us Q I r h
  obtain ⟨d, B, hd, h⟩ := h
  exact cr_sortT hd pins s σ H vs us Q I r h
theorem snd_sortedT {K : PySem.W.Frag} : SndC K (fun vs H Q => ∃ (d : Nat) (B : Int), 1 ≤ d ∧ rSortU K d B vs H Q) gSortedT := by
  intro dm F H vs ds Q P hs dl r g k
  unfold gSortedT at g
  split at g
  · obtain ⟨h64, n, B, n1, hx, g⟩ := g
    obtain ⟨v, rfl, h⟩ := dball1 r
    obtain ⟨a, us, rfl, hq, rr⟩ := h.lst_inv hs
    refine ⟨n, B, n1, a, us, rfl, .of hq, by rw [dpAll_length rr]; exact h64, fun x hx' => ?_, fun ys p h1 h2 hp => ?_⟩
    · obtain ⟨i, hi⟩ := List.getElem?_of_mem hx'
      have hl : i < us.length := (List.getElem?_eq_some_iff.mp hi).1
      obtain ⟨u, hu, ru⟩ := dpAll_get rr (List.getElem?_eq_getElem (by rw [← dpAll_length rr]; exact hl))
      rw [hi] at hu
      cases hu
      obtain ⟨ns, e1, e2, e3⟩ := hx _ (List.getElem_mem _)
      exact ⟨ns, tupI_of hs ru e1, e2, e3⟩
    · obtain ⟨es, k1, k2⟩ := perm_dpAll h1 rr
      exact got_lst0 hs dl k2 (k _ (g es k1 (pair_dpAll hs B k2 h2))) hp
  · exact g.elim
abbrev dSortedT (t : TDs) : TW := dCall gSortedT t
theorem dw_sortedT {X : Cx} {e : Expr} {pos p : Pos} {t : TDs} (hm : X.mg "sorted" = none) (ha : DA X [e] t) (hg : Gl X "sorted" := by rfl) (he : starEach [e] X.env = [(false, eval e X.env)] := by rfl) :
    DW X (.Call (.Name "sorted" p) [e] [] pos) (dSortedT t) := dw_callB cr_sortTU snd_sortedT hm ha hg (he := he)
end DL

set_option maxHeartbeats 1000000
/-! DL, part zp: x[k] looked at, x an own list of own lists. -/
namespace DL
open PySem L2
section
variable {X : Cx} {e : Expr}
def dSeeAt (i : Nat) (tk : TB) : TB := fun env Q => match env[i]? with
  | some (some (.own ws)) => tk env fun d => match d with
    | .int n => ∃ j us ds, ixN ws.length n = some j ∧ ws[j]? = some (.own us) ∧ W.flat us = some ds ∧ Q (.list ds)
    | _ => False
  | _ => False
theorem db_seeAt (i : Nat) {tk : TB} (h : PE X e (tOp (rIxL X.K) (tVar i) (lB X.K tk))) : DB X e (dSeeAt i tk) := by
  refine pe_mono h fun σ H Q ⟨env, F, ow, dm, P, S, q, k⟩ => ?_
  unfold dSeeAt at q
  split at q
  · rename_i ws ei
    obtain ⟨v0, fp0, hσ, hw0, nd0, ow0⟩ := S.sl i _ ei
    cases hw0 with
    | @own a vs _ fp g1 g2 g3 =>
      refine ⟨.ref a, hσ, env, F, ow, dm, _, S, q, fun d hd v1 F1 H1 x1 r1 => ?_⟩
      split at hd
      · rename_i n
        obtain ⟨j, us, ds, hj, hu, hf, hn⟩ := hd
        cases r1.int_inv
        have nMa := S.notM (ow0 a (List.mem_cons_self ..))
        have nMf : ∀ b ∈ fp, ¬ isM dm b := fun b hb => S.notM (ow0 b (List.mem_cons_of_mem _ hb))
        obtain ⟨ws1, ws2, vs1, v, vs2, f1, fw, f2, rfl, hl1, rfl, hl2, rfl, s1, s2, s3⟩ := WRs.split g3 hu
        cases s2 with
        | @own l ivs _ fi g4 g5 g6 =>
          have ha1 : H1 a = some (.lst (vs1 ++ .ref l :: vs2)) := x1.hh a _ g2 nMa
          have lm : l ∈ f1 ++ ((l :: fi) ++ f2) := by simp
          have hl1' : H1 l = some (.lst ivs) := x1.hh l _ g5 (nMf l lm)
          have hat : atI (vs1 ++ V.ref l :: vs2) n = some (V.ref l) := by
            unfold atI
            rw [wrs_length g3, hj]
            show (vs1 ++ V.ref l :: vs2)[j]? = _
            rw [← hl2]
            simp
          exact ⟨a, _, n, .ref l, rfl, rfl, .of ha1, hat, k _ hn (.ref l) F1 H1 x1 (.inr ⟨l, ivs, ds, rfl, rfl, hl1', nMf l lm, dpAll_same x1.ff (W.flat_dp g6 hf)⟩)⟩
      · exact hd.elim
  · exact q.elim
end
end DL

set_option maxHeartbeats 2000000
/-! DL, part zq: x[i], x[j] = (e, f), x an own list, what is put in is data. -/
namespace DL
open PySem L2
section
variable {X : Cx} {pos : Pos}
def dPut2 (i : Nat) (t : TWs) (k1 k2 : TB) : TSd := fun E env => match env[i]? with
  | some (some (.own ws)) => t env fun vs => ∃ d1 d2, vs = [.fz d1, .fz d2] ∧ k1 env fun m1 => ∃ n1 j1, m1 = .int n1 ∧ ixN ws.length n1 = some j1 ∧
      k2 (env.set i (some (.own (ws.set j1 (.fz d1))))) fun m2 => ∃ n2 j2, m2 = .int n2 ∧ ixN ws.length n2 = some j2 ∧ E.nx (env.set i (some (.own ((ws.set j1 (.fz d1)).set j2 (.fz d2)))))
  | _ => False
theorem ds_put2 (i : Nat) {es ts : List Expr} {p1 p2 : Pos} {k1 k2} {t : TWs} {b1 b2 : TB} (ha : DAw X es t) (hg : PGs X ts (gCons (gSub (tVar i) (lB X.K b1) rSetL) (gCons (gSub (tVar i) (lB X.K b2) rSetL) gNil))) (hc : X.calm = true := by rfl)
    (hn : (assignEach ts X.env).length = 2 := by rfl) (hst : (assignEach ts X.env).findIdx? (·.1) = none := by rfl)
    (hs : swapsWithSole [.Tuple ts k1 p1] (.Tuple es k2 p2) pos.line X.env = pure false := by rfl) (hw : swappedStores [.Tuple ts k1 p1] (.Tuple es k2 p2) X.env = pure none := by rfl)
    (h1 : (assignEach [.Tuple ts k1 p1] X.env).map (·.2) = [assign (.Tuple ts k1 p1) X.env] := by rfl) : DS X (.Assign [.Tuple ts k1 p1] (.Tuple es k2 p2) pos) (dPut2 i t b1 b2) := by
  intro _ _
  refine ps_mono (ps_asg (pe_tup ha) (pg_tup (n := 2) hc hg hn hst) hs hw h1) fun D σ H ⟨A, E, env, F, ow, dm, S, q, k⟩ => ?_
  unfold dPut2 at q
  split at q
  · rename_i ws ei
    refine ⟨env, F, ow, dm, _, S.x, q, fun zs hz vs F1 H1 fp x r nd fr => ?_⟩
    obtain ⟨d1, d2, rfl, hk⟩ := hz
    cases r with
    | cons r1 r => cases r with
      | cons r2 r => cases r with
        | nil =>
          rename_i v1 fp1 v2 fp2
          cases r1 with
          | fz e1 => cases r2 with
            | fz e2 =>
              refine ⟨by show 2 ≤ sizeLine; decide, fun p hp => ?_⟩
              have y := Ext.laidOwn (o := .tup [v1, v2]) x.fh x.dl hp
              have S2 := (S.ext x).ext y
              obtain ⟨l, us, fq, hσ, hl, Fl, nM, ru, ndu, nmu, K⟩ := S2.mut ei
              refine ⟨p, [v1, v2], rfl, .inl (.inl upd_same), rfl, v1, [v2], rfl, .ref l, hσ, env, _, _, dm, _, S2.x, hk, fun d hd u F3 H3 x3 rd => ?_⟩
              obtain ⟨n1, j1, rfl, hj1, hk2⟩ := hd
              cases rd.int_inv
              have hl3 : H3 l = some (.lst us) := x3.hh l _ hl nM
              have e13 : WR X.K dm F3 H3 (.fz d1) v1 [] := .fz (dp_same x3.ff (dp_same y.ff e1))
              have nd' := List.nodup_cons.mp ndu
              obtain ⟨fs, r3, n3, k3⟩ := WRs.set e13 j1 (wexts x3 ru nmu) (by rw [List.append_nil]; exact nd'.2)
              have S4 := K F3 H3 _ _ fs x3 hl3 r3 (List.nodup_cons.mpr ⟨fun z => (k3 l z).elim nd'.1 (fun z => nomatch z), n3⟩) fun c hc => (k3 c hc).imp id (fun z => nomatch z)
              have ei2 : (env.set i (some (.own (ws.set j1 (.fz d1)))))[i]? = some (some (.own (ws.set j1 (.fz d1)))) := by
                rw [List.getElem?_set_self (List.getElem?_eq_some_iff.mp ei).1]
              refine ⟨l, us, _, j1, rfl, rfl, hl3, by rw [wrs_length ru]; exact hj1, ?_⟩
              obtain ⟨l2, us2, fq2, hσ2, hl2, Fl2, nM2, ru2, ndu2, nmu2, K2⟩ := S4.mut ei2
              refine ⟨v2, [], rfl, .ref l2, hσ2, _, _, _, dm, _, S4.x, hk2, fun d hd u F5 H5 x5 rd => ?_⟩
              obtain ⟨n2, j2, rfl, hj2, hnx⟩ := hd
              cases rd.int_inv
              have hl5 : H5 l2 = some (.lst us2) := x5.hh l2 _ hl2 nM2
              have e25 : WR X.K dm F5 H5 (.fz d2) v2 [] := .fz (dp_same x5.ff (dp_same x3.ff (dp_same y.ff e2)))
              have nd2 := List.nodup_cons.mp ndu2
              obtain ⟨fs2, r5, n5, k5⟩ := WRs.set e25 j2 (wexts x5 ru2 nmu2) (by rw [List.append_nil]; exact nd2.2)
              have S6 := K2 F5 H5 _ _ fs2 x5 hl5 r5 (List.nodup_cons.mpr ⟨fun z => (k5 l2 z).elim nd2.1 (fun z => nomatch z), n5⟩) fun c hc => (k5 c hc).imp id (fun z => nomatch z)
              refine ⟨l2, us2, _, j2, rfl, rfl, hl5, by rw [wrs_length ru2, List.length_set]; exact hj2, rfl, ?_⟩
              rw [List.set_set] at S6
              exact k.nx _ _ _ _ _ _ S6 hnx
  · exact q.elim
end
end DL

set_option maxHeartbeats 2000000
/-! DL, part zr: a < b < c < d as a test. -/
namespace L2
open PySem PySem.Spec PyProof.Rows
def qChain3 (r r' r'' : R2) (ta tb tc td : TE) : TT := fun σ H Q => ta σ H fun x H1 => tb σ H1 fun y H2 => r x y H2 fun z H3 => ∃ k, z = .bl k ∧
  (if k = true then tc σ H3 fun w H4 => r' y w H4 fun z2 H5 => ∃ k2, z2 = .bl k2 ∧ (if k2 = true then td σ H5 fun v H6 => r'' w v H6 fun z3 H7 => ∃ k3, z3 = .bl k3 ∧ Q k3 H7 else Q false H5) else Q false H3)
theorem pt_chain3 {X : Cx} {a b c d : Expr} {pos : Pos} {ta tb tc td : TE} {op op' op'' : CmpOp} {r r' r'' : R2} (ho : OpR X (compareOp op) r) (ho' : OpR X (compareOp op') r') (ho'' : OpR X (compareOp op'') r'') (ha : PE X a ta) (hb : PE X b tb) (hc : PE X c tc) (hd : PE X d td)
    (hm : lastMarks [op, op', op''] [b, c, d] = false := by with_unfolding_all rfl) : PT X (.Compare a [op, op', op''] [b, c, d] pos) (qChain3 r r' r'' ta tb tc td) := by
  refine ⟨fun pins s σ H Q I h => ?_⟩
  refine isTrue_chain (thn (ha.run pins s σ H _ I h) fun v s1 ⟨x, H1, I1, r1, q1⟩ => test_link (thn (hb.run pins s1 σ H1 _ I1 q1) fun u s2 ⟨y, H2, I2, r2, q2⟩ =>
    thn (ho pins s2 σ H2 x y v u _ I2 r1 r2 q2) fun d' s3 ⟨z, H3, I3, r3, k, e, q3⟩ => ?_)) hm
  subst e
  cases r3
  refine wpAny_truthy_bool ?_
  cases k with
  | false => exact ite_ff ⟨H3, I3, q3⟩
  | true =>
    refine ite_tt (test_link (thn (hc.run pins s3 σ H3 _ I3 q3) fun w' s4 ⟨z', H4, I4, r4, q4⟩ => thn (ho' pins s4 σ H4 y z' u w' _ I4 r2 r4 q4) fun d' s5 ⟨z2, H5, I5, r5, k2, e2, q5⟩ => ?_))
    subst e2
    cases r5
    refine wpAny_truthy_bool ?_
    cases k2 with
    | false => exact ite_ff ⟨H5, I5, q5⟩
    | true =>
      refine ite_tt (test_last (thn (hd.run pins s5 σ H5 _ I5 q5) fun w3 s6 ⟨z6, H6, I6, r6, q6⟩ => thn (ho'' pins s6 σ H6 z' z6 w' w3 _ I6 r4 r6 q6) fun d'' s7 ⟨z7, H7, I7, r7, k3, e3, q7⟩ => ?_))
      subst e3
      cases r7
      exact wpAny_truthy_bool ⟨H7, I7, q7⟩
end L2
namespace DL
open PySem L2
section
variable {X : Cx} {a b c d : Expr} {pos : Pos}
def dChainT3 (g h l : D → D → (W → Prop) → Prop) (ta tb tc td : TB) : TQ := fun env Q => ta env fun x => tb env fun y => g x y fun w => match w with
  | .fz (.bool true) => tc env fun z => h y z fun w2 => match w2 with
    | .fz (.bool true) => td env fun u => l z u fun w3 => match w3 with
      | .fz (.bool k) => Q k
      | _ => False
    | .fz (.bool false) => Q false
    | _ => False
  | .fz (.bool false) => Q false
  | _ => False
theorem dt_chain3 {op op' op'' : CmpOp} {r r' r'' : R2} {g h l : D → D → (W → Prop) → Prop} {ta tb tc td : TB} (ho : OpR X (compareOp op) r) (ho' : OpR X (compareOp op') r') (ho'' : OpR X (compareOp op'') r'') (s : Snd2 X.K r g) (s' : Snd2 X.K r' h) (s'' : Snd2 X.K r'' l) (ha : DB X a ta) (hb : DB X b tb) (hc : DB X c tc) (hd : DB X d td)
    (hm : lastMarks [op, op', op''] [b, c, d] = false := by with_unfolding_all rfl) : DT X (.Compare a [op, op', op''] [b, c, d] pos) (dChainT3 g h l ta tb tc td) := by
  refine pt_mono (pt_chain3 ho ho' ho'' ha hb hc hd hm) fun σ H Q ⟨env, F, ow, dm, P, S, q, k⟩ => ?_
  refine ⟨env, F, ow, dm, _, S, q, fun x hx v F1 H1 x1 r1 => ⟨env, F1, ow, dm, _, S.ext x1, hx, fun y hy u F2 H2 x2 r2 => ?_⟩⟩
  have x12 := x1.trans x2
  refine s dm F2 H2 v u x y _ _ x2.fh x2.dl (r1.ext x2) r2 hy fun w hw z F3 H3 fp x3 r3 nd fr => ?_
  have x13 := x12.trans x3
  split at hw
  · cases r3 with
    | fz r3 =>
      cases r3
      refine ⟨true, rfl, env, F3, ow, dm, _, S.ext x13, hw, fun c hc u' F4 H4 x4 r4 => ?_⟩
      have x14 := x13.trans x4
      refine s' dm F4 H4 u u' y c _ _ x4.fh x4.dl ((r2.ext x3).ext x4) r4 hc fun w hw z F5 H5 fp x5 r5 nd fr => ?_
      have x15 := x14.trans x5
      split at hw
      · cases r5 with
        | fz r5 =>
          cases r5
          refine ⟨true, rfl, env, F5, ow, dm, _, S.ext x15, hw, fun e he u6 F6 H6 x6 r6 => ?_⟩
          have x16 := x15.trans x6
          refine s'' dm F6 H6 u' u6 c e _ _ x6.fh x6.dl ((r4.ext x5).ext x6) r6 he fun w hw z F7 H7 fp x7 r7 nd fr => ?_
          split at hw
          · cases r7 with
            | fz r7 => cases r7; exact ⟨_, rfl, k _ hw F7 H7 (x16.trans x7)⟩
          · exact hw.elim
      · cases r5 with
        | fz r5 =>
          cases r5
          exact ⟨false, rfl, k _ hw F5 H5 x15⟩
      · exact hw.elim
  · cases r3 with
    | fz r3 =>
      cases r3
      exact ⟨false, rfl, k _ hw F3 H3 x13⟩
  · exact hw.elim
end
end DL

/-! DL, part zs: a text within a text. -/
namespace DL
open PySem L2
def textIn (i j : Str) : Bool := !(Builtin.Str.occurrences j i 0 j.length 1).isEmpty
def gInT : D → D → (W → Prop) → Prop := fun x y P => match x, y with
  | .str i, .str j => P (.fz (.bool (textIn i j)))
  | _, _ => False
theorem snd_inT {K : PySem.W.Frag} : Snd2 K (fun x y H Q => ∃ i j, x = .str i ∧ y = .str j ∧ Q (.bl (!(Builtin.Str.occurrences j i 0 j.length 1).isEmpty)) H) gInT := by
  intro dm F H x y d1 d2 Q P hs dl h1 h2 g k
  unfold gInT at g
  split at g
  · cases h1.str_inv
    cases h2.str_inv
    exact ⟨_, _, rfl, rfl, got_here hs dl (.bl _) (k _ g)⟩
  · exact g.elim
section
variable {X : Cx} {a b : Expr} {pos : Pos} {ta tb : TB}
abbrev dInT (ta tb : TB) : TW := dOp2 gInT ta tb
theorem dw_inT (ha : DB X a ta) (hb : DB X b tb) (hm : behindInMarks .In b = false := by rfl) : DW X (.Compare a [.In] [b] pos) (dInT ta tb) := dw_cmp op_in_str snd_inT ha hb hm
end
end DL

/-! DL, part zt: x.upper(). -/
namespace DL
open PySem L2
def dUpper (t : TB) : TW := fun env Q => t env fun d => match d with
  | .str z => z.length ≤ 5592405 ∧ Q (.fz (.str (Txt.upper z)))
  | _ => False
section
variable {X : Cx} {o : Expr} {apos pos : Pos} {to : TB}
theorem dw_upper (ho : DB X o to) (hbase : attributeBase o "upper" X.env (eval o X.env) = eval o X.env := by rfl) (hline : (apos.endLine == pos.line) = true := by rfl) : DW X (.Call (.Attribute o "upper" apos) [] [] pos) (dUpper to) := by
  refine pe_mono (pe_upper ho hbase hline) fun σ H Q ⟨env, F, ow, dm, P, S, q, k⟩ => ⟨env, F, ow, dm, _, S, q, fun d hd v F1 H1 x r => ?_⟩
  split at hd
  · cases r.str_inv
    exact ⟨⟨_, rfl⟩, _, rfl, rfl, hd.1, got_here x.fh x.dl (.str _) (got_of x (k _ hd.2))⟩
  · exact hd.elim
end
end DL

/-! DL, part zu: dicts: keys and tables, plain; the kit's two kinds of dicts held against them. -/
namespace DL
open PySem PySem.Spec PyProof.Rows L2

/-! ### keys -/
theorem nkN_inj (n : Nat) : ∀ (a b : D), kIn n a = true → kIn n b = true → nkN n a = nkN n b → a = b := by
  induction n with
  | zero =>
    intro a b ha hb h
    cases a <;> simp [kIn] at ha
    cases b <;> simp [kIn] at hb
    simp [nkN] at h
    rw [h]
  | succ n ih =>
    have list : ∀ (as bs : List D), as.all (kIn n) = true → bs.all (kIn n) = true → as.map (nkN n) = bs.map (nkN n) → as = bs := by
      intro as
      induction as with
      | nil =>
        intro bs _ _ h
        cases bs with
        | nil => rfl
        | cons _ _ => simp at h
      | cons x xs ihx =>
        intro bs h1 h2 h
        cases bs with
        | nil => simp at h
        | cons y ys =>
          rw [List.all_cons, Bool.and_eq_true] at h1 h2
          rw [List.map_cons, List.map_cons] at h
          injection h with h3 h4
          rw [ih x y h1.1 h2.1 h3, ihx ys h1.2 h2.2 h4]
    intro a b ha hb h
    cases a with
    | int i =>
      cases b with
      | int j => simp [nkN] at h; rw [h]
      | tuple ys => simp [nkN] at h
      | _ => simp [kIn] at hb
    | tuple xs =>
      cases b with
      | int j => simp [nkN] at h
      | tuple ys =>
        have h' : NestedKey.tup (xs.map (nkN n)) = NestedKey.tup (ys.map (nkN n)) := h
        injection h' with h'
        rw [list xs ys ha hb h']
      | _ => simp [kIn] at hb
    | _ => simp [kIn] at ha
theorem nk_inj {a b : D} (ha : kOk a = true) (hb : kOk b = true) (h : nk a = nk b) : a = b := nkN_inj 8 a b ha hb h
theorem nkN_depth (n : Nat) : ∀ d : D, (nkN n d).depth ≤ n := by
  induction n with
  | zero => intro d; cases d <;> simp [nkN, NestedKey.depth]
  | succ n ih =>
    have list : ∀ ds : List D, NestedKey.depthAll (ds.map (nkN n)) ≤ n := by
      intro ds
      induction ds with
      | nil => simp [NestedKey.depthAll]
      | cons d ds ihd =>
        rw [List.map_cons]
        show max (nkN n d).depth _ ≤ n
        have := ih d
        omega
    intro d
    cases d with
    | tuple ds =>
      show NestedKey.depthAll (ds.map (nkN n)) + 1 ≤ n + 1
      have := list ds
      omega
    | _ => simp [nkN, NestedKey.depth]
theorem nkN_hash (n : Nat) : ∀ d : D, kIn n d = true → ∀ w w', (nkN n d).hash w = (nkN n d).hash w' := by
  induction n with
  | zero =>
    intro d h
    cases d <;> simp [kIn] at h
    intro w w'
    rfl
  | succ n ih =>
    have list : ∀ ds : List D, ds.all (kIn n) = true → ∀ w w', NestedKey.hashes w (ds.map (nkN n)) = NestedKey.hashes w' (ds.map (nkN n)) := by
      intro ds
      induction ds with
      | nil => intro _ _ _; rfl
      | cons d ds ihd =>
        intro h w w'
        rw [List.all_cons, Bool.and_eq_true] at h
        rw [List.map_cons]
        show NestedKey.hash w _ :: NestedKey.hashes w _ = NestedKey.hash w' _ :: NestedKey.hashes w' _
        rw [ih d h.1 w w', ihd h.2 w w']
    intro d h w w'
    cases d with
    | int i => rfl
    | tuple ds =>
      show reduceHash _ = reduceHash _
      rw [list ds h w w']
    | _ => simp [kIn] at h
theorem nkN_is {X : Cx} {pins : List (Addr × Obj)} {σ : L2.St} {F H : Hp} {s : Shared} (I : Inv X pins σ H s) (hs : Same F H) (n : Nat) :
    ∀ (d : D) (v : V) (u : Value), kIn n d = true → Dp X.K F v d → RelV v u → NestedIs s.heap (nkN n d) u := by
  induction n with
  | zero =>
    intro d v u h r q
    cases d <;> simp [kIn] at h
    cases r
    obtain ⟨t, rfl⟩ := q
    exact .int _ t
  | succ n ih =>
    have list : ∀ (ds : List D) (vs : List V) (us : List Value), ds.all (kIn n) = true → DpAll X.K F vs ds → Vals vs us → NestedAll s.heap (ds.map (nkN n)) us := by
      intro ds
      induction ds with
      | nil =>
        intro vs us _ r q
        cases r
        cases q
        exact .nil
      | cons d ds ihd =>
        intro vs us h r q
        rw [List.all_cons, Bool.and_eq_true] at h
        cases r with
        | cons r rr =>
          cases q with
          | cons q qq => exact .cons (ih _ _ _ h.1 r q) (ihd _ _ h.2 rr qq)
    intro d v u h r q
    cases d with
    | int i =>
      cases r
      obtain ⟨t, rfl⟩ := q
      exact .int _ t
    | tuple ds =>
      cases r with
      | tup h1 h2 =>
        obtain rfl : u = Value.ref _ := q
        obtain ⟨its, rv, ⟨o, e, c, m, dt⟩, _⟩ := I.tuple (sqT_same hs h1.sq)
        exact .tup e c dt (by simpa using list ds _ its h h2 rv)
    | _ => simp [kIn] at h

/-! ### tables -/
noncomputable instance decD : DecidableEq D := fun a b => Classical.propDecidable (a = b)
noncomputable def dGetK : List (D × D) → D → Option D
  | [], _ => none
  | p :: r, k => if p.1 = k then some p.2 else dGetK r k
noncomputable def dPutK : List (D × D) → D → D → List (D × D)
  | [], k, v => [(k, v)]
  | p :: r, k, v => if p.1 = k then (k, v) :: r else p :: dPutK r k v
noncomputable def dDropK : List (D × D) → D → List (D × D)
  | [], _ => []
  | p :: r, k => if p.1 = k then r else p :: dDropK r k
theorem dGetK_mem {k : D} : ∀ {kvs : List (D × D)}, k ∈ kvs.map (·.1) → ∃ v, dGetK kvs k = some v ∧ (k, v) ∈ kvs
  | [], h => nomatch h
  | p :: r, h => by
    unfold dGetK
    by_cases e : p.1 = k
    · rw [if_pos e]; exact ⟨p.2, rfl, by rw [← e]; exact List.mem_cons_self ..⟩
    · rw [if_neg e]
      rw [List.map_cons] at h
      obtain ⟨v, h1, h2⟩ := dGetK_mem ((List.mem_cons.mp h).resolve_left fun z => e z.symm)
      exact ⟨v, h1, List.mem_cons_of_mem _ h2⟩
theorem dGetK_none {k : D} : ∀ {kvs : List (D × D)}, k ∉ kvs.map (·.1) → dGetK kvs k = none
  | [], _ => rfl
  | p :: r, h => by
    rw [List.map_cons] at h
    unfold dGetK
    rw [if_neg fun e => h (by rw [← e]; exact List.mem_cons_self ..)]
    exact dGetK_none fun z => h (List.mem_cons_of_mem _ z)
theorem dGetK_some {k v : D} : ∀ {kvs : List (D × D)}, dGetK kvs k = some v → (k, v) ∈ kvs
  | [], h => nomatch h
  | p :: r, h => by
    unfold dGetK at h
    split at h
    · rename_i e
      cases h
      rw [← e]
      exact List.mem_cons_self ..
    · exact List.mem_cons_of_mem _ (dGetK_some h)
theorem dPutK_new {k v : D} : ∀ {kvs : List (D × D)}, k ∉ kvs.map (·.1) → dPutK kvs k v = kvs ++ [(k, v)]
  | [], _ => rfl
  | p :: r, h => by
    rw [List.map_cons] at h
    unfold dPutK
    rw [if_neg fun e => h (by rw [← e]; exact List.mem_cons_self ..), dPutK_new fun z => h (List.mem_cons_of_mem _ z)]
    rfl
theorem dPutK_keys {k v : D} : ∀ {kvs : List (D × D)}, k ∈ kvs.map (·.1) → (dPutK kvs k v).map (·.1) = kvs.map (·.1)
  | [], h => nomatch h
  | p :: r, h => by
    unfold dPutK
    by_cases e : p.1 = k
    · rw [if_pos e, List.map_cons, List.map_cons, e]
    · rw [if_neg e, List.map_cons, List.map_cons, dPutK_keys ((List.mem_cons.mp (by rw [List.map_cons] at h; exact h)).resolve_left fun z => e z.symm)]
theorem dPutK_mem {k v : D} {q : D × D} : ∀ {kvs : List (D × D)}, q ∈ dPutK kvs k v → q ∈ kvs ∨ q = (k, v)
  | [], h => .inr (List.mem_singleton.mp h)
  | p :: r, h => by
    unfold dPutK at h
    split at h
    · rcases List.mem_cons.mp h with h | h
      · exact .inr h
      · exact .inl (List.mem_cons_of_mem _ h)
    · rcases List.mem_cons.mp h with h | h
      · exact .inl (h ▸ List.mem_cons_self ..)
      · exact (dPutK_mem h).imp (List.mem_cons_of_mem _) id
theorem dPutK_length {k v : D} : ∀ {kvs : List (D × D)}, (dPutK kvs k v).length ≤ kvs.length + 1
  | [] => Nat.le_refl _
  | p :: r => by
    unfold dPutK
    split
    · simp
    · have := dPutK_length (k := k) (v := v) (kvs := r)
      simp only [List.length_cons]
      omega
theorem dGetK_put {k v j : D} : ∀ {kvs : List (D × D)}, dGetK (dPutK kvs k v) j = (if k = j then some v else dGetK kvs j)
  | [] => by
    unfold dPutK dGetK
    rfl
  | p :: r => by
    have ih := dGetK_put (k := k) (v := v) (j := j) (kvs := r)
    unfold dPutK
    by_cases e : p.1 = k
    · rw [if_pos e]
      show (if k = j then some v else dGetK r j) = if k = j then some v else (if p.1 = j then some p.2 else dGetK r j)
      by_cases ej : k = j
      · rw [if_pos ej, if_pos ej]
      · rw [if_neg ej, if_neg ej, if_neg (fun z => ej (e.symm.trans z))]
    · rw [if_neg e]
      show (if p.1 = j then some p.2 else dGetK (dPutK r k v) j) = if k = j then some v else (if p.1 = j then some p.2 else dGetK r j)
      by_cases ej : p.1 = j
      · rw [if_pos ej, if_neg (fun z => e (ej.trans z.symm)), if_pos ej]
      · rw [if_neg ej, if_neg ej, ih]
/-- a key that may be asked of a table -/
def kFit (kvs : List (D × D)) (k : D) : Prop := kOk k = true ∧ ∀ p ∈ kvs, isTu p.1 = isTu k
theorem WK.put {kvs : List (D × D)} {k v : D} (w : WK kvs) (f : kFit kvs k) (l : kvs.length < sizeLine) : WK (dPutK kvs k v) where
  nd := by
    by_cases h : k ∈ kvs.map (·.1)
    · rw [dPutK_keys h]; exact w.nd
    · rw [dPutK_new h, List.map_append]
      exact List.nodup_append.mpr ⟨w.nd, by simp, fun a ha b hb e => by
        have : b = k := by simpa using hb
        exact h (by rw [← this, ← e]; exact ha)⟩
  ok := fun p hp => by
    rcases dPutK_mem hp with h | h
    · exact w.ok p h
    · rw [h]; exact f.1
  one := fun p hp q hq => by
    rcases dPutK_mem hp with h | h <;> rcases dPutK_mem hq with h' | h'
    · exact w.one p h q h'
    · rw [h']; exact f.2 p h
    · rw [h]; exact (f.2 q h').symm
    · rw [h, h']
  len := by have := dPutK_length (k := k) (v := v) (kvs := kvs); omega
theorem WK.nil : WK [] := ⟨List.nodup_nil, (fun _ h => nomatch h), (fun _ h => nomatch h), Nat.zero_le _⟩
theorem WK.fit {kvs : List (D × D)} {k v : D} (w : WK kvs) (h : dGetK kvs k = some v) : kFit kvs k := ⟨w.ok _ (dGetK_some h), fun p hp => w.one p hp _ (dGetK_some h)⟩

/-! ### tuples as keys -/
section
variable {X : Cx} {pins : List (Addr × Obj)} {σ : L2.St} {F H : Hp} {s : Shared}
def XR (K : PySem.W.Frag) (F : Hp) (p : D × D) (x : NestedKey × Addr × Value) : Prop := x.1 = nk p.1 ∧ Dp K F (.ref x.2.1) p.1 ∧ ∃ vv, Dp K F vv p.2 ∧ RelV vv x.2.2
theorem ents_x {P : Program} {w : World} {K : PySem.W.Frag} : ∀ {kvs : List (D × D)} {es : List DictEntry}, Paired (EntR K F) kvs es → (∀ p ∈ kvs, isTu p.1 = true) → ∃ xs, es = xs.map (entryOfKey (nestedKind P w)) ∧ Paired (XR K F) kvs xs
  | _, _, .nil, _ => ⟨[], rfl, .nil⟩
  | (k, v) :: r, en :: es, .cons h t, q => by
    obtain ⟨xs, e1, e2⟩ := ents_x t fun p hp => q p (List.mem_cons_of_mem _ hp)
    obtain ⟨kv, vv, r1, r2, r3, r4, r5⟩ := h
    have ht : isTu k = true := q (k, v) (List.mem_cons_self ..)
    cases k with
    | tuple ds =>
      obtain ⟨a, ys, rfl, h1, h2⟩ : ∃ a ys, kv = .ref a ∧ XT K F a ys ∧ DpAll K F ys ds := by
        cases r1 with
        | tup h1 h2 => exact ⟨_, _, rfl, h1, h2⟩
      have ek : en.key = Value.ref a := r2
      refine ⟨(nk (.tuple ds), a, en.val) :: xs, ?_, .cons ⟨rfl, .tup h1 h2, vv, r3, r4⟩ e2⟩
      rw [List.map_cons, ← e1]
      congr 1
      have e5 := r5 w
      cases en
      simp only [] at ek e5
      show DictEntry.mk _ _ _ = DictEntry.mk _ _ _
      rw [ek, e5]
      rfl
    | _ => simp [isTu] at ht
theorem ents_back {P : Program} {w : World} {K : PySem.W.Frag} : ∀ {kvs : List (D × D)} {xs : List (NestedKey × Addr × Value)}, Paired (XR K F) kvs xs → (∀ p ∈ kvs, kOk p.1 = true) → Paired (EntR K F) kvs (xs.map (entryOfKey (nestedKind P w)))
  | _, _, .nil, _ => .nil
  | p :: r, x :: xs, .cons h t, q => by
    obtain ⟨h1, h2, vv, h3, h4⟩ := h
    refine .cons ⟨_, vv, h2, rfl, h3, h4, fun w' => ?_⟩ (ents_back t fun p hp => q p (List.mem_cons_of_mem _ hp))
    show NestedKey.hash w x.1 = _
    rw [h1]
    exact nkN_hash 8 p.1 (q p (List.mem_cons_self ..)) w w'
theorem xr_keys {K : PySem.W.Frag} : ∀ {kvs : List (D × D)} {xs : List (NestedKey × Addr × Value)}, Paired (XR K F) kvs xs → xs.map (·.1) = kvs.map fun p => nk p.1
  | _, _, .nil => rfl
  | p :: r, x :: xs, .cons h t => by rw [List.map_cons, List.map_cons, h.1, xr_keys t]
theorem nk_nodup {kvs : List (D × D)} (w : WK kvs) : (kvs.map fun p => nk p.1).Nodup := by
  have h := w.nd
  have o := w.ok
  clear w
  induction kvs with
  | nil => exact List.nodup_nil
  | cons p r ih =>
    rw [List.map_cons, List.nodup_cons] at h ⊢
    refine ⟨fun z => ?_, ih h.2 fun p hp => o p (List.mem_cons_of_mem _ hp)⟩
    obtain ⟨q, hq, e⟩ := List.mem_map.mp z
    have := nk_inj (o q (List.mem_cons_of_mem _ hq)) (o p (List.mem_cons_self ..)) e
    exact h.1 (List.mem_map.mpr ⟨q, hq, this⟩)
/-- the kit's dict -/
theorem dict_H (I : Inv X pins σ H s) (hs : Same F H) {a : Addr} {es : Array DictEntry} {ep : Nat} {kvs : List (D × D)} (ha : H a = some (rawO a es ep)) (he : Paired (EntR X.K F) kvs es.toList) (w : WK kvs) (ht : ∀ p ∈ kvs, isTu p.1 = true) :
    ∃ xs, s.heap.DictOfH (nestedKind X.prog X.w) a xs ∧ (a == sysModules) = false ∧ Paired (XR X.K F) kvs xs := by
  obtain ⟨⟨o, ho, hx, hd⟩, h2⟩ := (show s.heap.DictRaw a es ep ∧ (a == sysModules) = false from (I.hok a _ ha).1)
  obtain ⟨xs, e1, e2⟩ := ents_x (P := X.prog) (w := X.w) he ht
  refine ⟨xs, ⟨o, es, ep, ho, hx, hd, e1, ?_, by rw [xr_keys e2]; exact nk_nodup w⟩, h2, e2⟩
  have : ∀ {kvs : List (D × D)} {xs : List (NestedKey × Addr × Value)}, Paired (XR X.K F) kvs xs → (∀ p ∈ kvs, kOk p.1 = true) → ∀ x ∈ xs, (nestedKind X.prog X.w).is s.heap x.1 x.2.1 := by
    intro kvs xs q
    induction q with
    | nil => intro _ x hx; nomatch hx
    | cons h t ih =>
      intro o x hx
      rcases List.mem_cons.mp hx with rfl | hx
      · obtain ⟨h1, h2, _⟩ := h
        rw [h1]
        exact ⟨nkN_is I hs 8 _ _ _ (o _ (List.mem_cons_self ..)) h2 rfl, nkN_depth 8 _⟩
      · exact ih (fun p hp => o p (List.mem_cons_of_mem _ hp)) x hx
  exact this e2 w.ok
theorem xr_get {K : PySem.W.Frag} {k : D} (hk : kOk k = true) : ∀ {kvs : List (D × D)} {xs : List (NestedKey × Addr × Value)}, Paired (XR K F) kvs xs → (∀ p ∈ kvs, kOk p.1 = true) →
    (∃ v u vv, dGetK kvs k = some v ∧ (atKey xs (nk k)).map (·.2) = some u ∧ Dp K F vv v ∧ RelV vv u) ∨ (dGetK kvs k = none ∧ atKey xs (nk k) = none)
  | _, _, .nil, _ => .inr ⟨rfl, rfl⟩
  | p :: r, x :: xs, .cons h t, o => by
    have ih := xr_get hk t fun p hp => o p (List.mem_cons_of_mem _ hp)
    obtain ⟨h1, h2, vv, h3, h4⟩ := h
    by_cases e : p.1 = k
    · refine .inl ⟨p.2, x.2.2, vv, by unfold dGetK; rw [if_pos e], ?_, h3, h4⟩
      simp [atKey, h1, e]
    · have ne : ¬ x.1 = nk k := fun z => e (nk_inj (o p (List.mem_cons_self ..)) hk (h1.symm.trans z))
      have e1 : dGetK (p :: r) k = dGetK r k := by
        show (if p.1 = k then some p.2 else dGetK r k) = _
        rw [if_neg e]
      have e2 : atKey (x :: xs) (nk k) = atKey xs (nk k) := by simp [atKey, List.find?_cons, ne]
      rw [e1, e2]
      exact ih
theorem xr_put {K : PySem.W.Frag} {k v : D} {b : Addr} {vv : V} {u : Value} (hk : kOk k = true) (hb : Dp K F (.ref b) k) (hv : Dp K F vv v) (rv : RelV vv u) : ∀ {kvs : List (D × D)} {xs : List (NestedKey × Addr × Value)}, Paired (XR K F) kvs xs → (∀ p ∈ kvs, kOk p.1 = true) →
    (kvs.map (·.1)).Nodup → Paired (XR K F) (dPutK kvs k v) (storedH xs (nk k) b u)
  | _, _, .nil, _, _ => .cons ⟨rfl, hb, vv, hv, rv⟩ .nil
  | p :: r, x :: xs, .cons h t, o, nd => by
    rw [List.map_cons, List.nodup_cons] at nd
    have ih := xr_put hk hb hv rv t (fun p hp => o p (List.mem_cons_of_mem _ hp)) nd.2
    obtain ⟨h1, h2, h3⟩ := h
    by_cases e : p.1 = k
    · have nx : nk k ∉ xs.map (·.1) := fun z => by
        rw [xr_keys t] at z
        obtain ⟨q, hq, e2⟩ := List.mem_map.mp z
        have := nk_inj (o q (List.mem_cons_of_mem _ hq)) hk e2
        exact nd.1 (List.mem_map.mpr ⟨q, hq, this.trans e.symm⟩)
      have e1 : storedH (x :: xs) (nk k) b u = (x.1, x.2.1, u) :: xs := by
        have : (atKey (x :: xs) (nk k)).isSome = true := by simp [atKey, h1, e]
        unfold storedH
        rw [if_pos this, List.map_cons, map_putAt_of_not_mem xs _ _ nx, putAt, if_pos (by rw [h1, e])]
      have e2 : dPutK (p :: r) k v = (k, v) :: r := by
        show (if p.1 = k then (k, v) :: r else _) = _
        rw [if_pos e]
      rw [e1, e2]
      exact .cons ⟨by show x.1 = nk k; rw [h1, e], by show Dp K F (.ref x.2.1) k; rw [← e]; exact h2, vv, hv, rv⟩ t
    · have ne : ¬ x.1 = nk k := fun z => e (nk_inj (o p (List.mem_cons_self ..)) hk (h1.symm.trans z))
      have e1 : storedH (x :: xs) (nk k) b u = x :: storedH xs (nk k) b u := by
        have : atKey (x :: xs) (nk k) = atKey xs (nk k) := by simp [atKey, List.find?_cons, ne]
        unfold storedH
        rw [this]
        split
        · rw [List.map_cons, putAt, if_neg ne]
        · rfl
      have e2 : dPutK (p :: r) k v = p :: dPutK r k v := by
        show (if p.1 = k then (k, v) :: r else p :: dPutK r k v) = _
        rw [if_neg e]
      rw [e1, e2]
      exact .cons ⟨h1, h2, h3⟩ ih

/-! ### ints as keys -/
def YR (K : PySem.W.Frag) (F : Hp) (p : D × D) (y : Int × Value) : Prop := p.1 = .int y.1 ∧ ∃ vv, Dp K F vv p.2 ∧ RelV vv y.2
theorem ents_y {P : Program} {w : World} {K : PySem.W.Frag} : ∀ {kvs : List (D × D)} {es : List DictEntry}, Paired (EntR K F) kvs es → (∀ p ∈ kvs, kOk p.1 = true) → (∀ p ∈ kvs, isTu p.1 = false) →
    ∃ ys, Pairs (intKind P w) es ys ∧ (∀ e ∈ es, ∃ k, (intKind P w).is k e.key = true ∧ e.hash = (intKind P w).hash k) ∧ Paired (YR K F) kvs ys
  | _, _, .nil, _, _ => ⟨[], .nil, (fun _ h => nomatch h), .nil⟩
  | (k, v) :: r, en :: es, .cons h t, o, q => by
    obtain ⟨ys, e1, e2, e3⟩ := ents_y (P := P) (w := w) t (fun p hp => o p (List.mem_cons_of_mem _ hp)) fun p hp => q p (List.mem_cons_of_mem _ hp)
    obtain ⟨kv, vv, r1, r2, r3, r4, r5⟩ := h
    have ht : isTu k = false := q (k, v) (List.mem_cons_self ..)
    have ho : kOk k = true := o (k, v) (List.mem_cons_self ..)
    cases k with
    | int i =>
      cases r1
      obtain ⟨tk, ek⟩ := r2
      have is : (intKind P w).is i en.key = true := by
        rw [ek]
        show Value.isInt i (.int i tk) = true
        simp [Value.isInt]
      refine ⟨(i, en.val) :: ys, .cons is rfl e1, fun e he => ?_, .cons ⟨rfl, vv, r3, r4⟩ e3⟩
      rcases List.mem_cons.mp he with rfl | he
      · exact ⟨i, is, r5 w⟩
      · exact e2 e he
    | tuple _ => simp [isTu] at ht
    | _ => simp [kOk, kIn] at ho
theorem ents_yback {P : Program} {w : World} {K : PySem.W.Frag} : ∀ {kvs : List (D × D)} {ys : List (Int × Value)} {es : List DictEntry}, Paired (YR K F) kvs ys → Pairs (intKind P w) es ys → (∀ e ∈ es, ∃ k, (intKind P w).is k e.key = true ∧ e.hash = (intKind P w).hash k) → Paired (EntR K F) kvs es
  | _, _, _, .nil, .nil, _ => .nil
  | p :: r, y :: ys, e :: es, .cons h t, .cons g1 g2 g3, q => by
    obtain ⟨h1, vv, h3, h4⟩ := h
    refine .cons ⟨.int y.1, vv, by rw [h1]; exact .int _, ?_, h3, by rw [g2]; exact h4, fun w' => ?_⟩ (ents_yback t g3 fun e he => q e (List.mem_cons_of_mem _ he))
    · obtain ⟨tk, ek⟩ := Value.isInt_shape g1
      exact ⟨tk, ek⟩
    · obtain ⟨k, k1, k2⟩ := q e (List.mem_cons_self ..)
      have : k = y.1 := (intKind P w).inj _ _ _ k1 g1
      rw [k2, this, h1]
      rfl
theorem yr_keys {K : PySem.W.Frag} : ∀ {kvs : List (D × D)} {ys : List (Int × Value)}, Paired (YR K F) kvs ys → kvs.map (·.1) = ys.map fun y => PyData.int y.1
  | _, _, .nil => rfl
  | p :: r, y :: ys, .cons h t => by rw [List.map_cons, List.map_cons, h.1, yr_keys t]
theorem dict_I (I : Inv X pins σ H s) {a : Addr} {es : Array DictEntry} {ep : Nat} {kvs : List (D × D)} (ha : H a = some (rawO a es ep)) (he : Paired (EntR X.K F) kvs es.toList) (w : WK kvs) (ht : ∀ p ∈ kvs, isTu p.1 = false) :
    ∃ ys, s.heap.DictOf (intKind X.prog X.w) a ys ∧ (a == sysModules) = false ∧ Paired (YR X.K F) kvs ys := by
  obtain ⟨⟨o, ho, hx, hd⟩, h2⟩ := (show s.heap.DictRaw a es ep ∧ (a == sysModules) = false from (I.hok a _ ha).1)
  obtain ⟨ys, e1, e2, e3⟩ := ents_y (P := X.prog) (w := X.w) he w.ok ht
  refine ⟨ys, ⟨o, es, ep, ho, hx, hd, fun e he => e2 e (Array.mem_toList_iff.mpr he), e1, ?_⟩, h2, e3⟩
  have h := w.nd
  rw [yr_keys e3] at h
  have : ys.map (fun y => PyData.int y.1) = (ys.map (·.1)).map PyData.int := by rw [List.map_map]; rfl
  rw [this] at h
  exact (List.pairwise_map.mp h).imp fun h e => h (congrArg _ e)
theorem yr_get {K : PySem.W.Frag} {i : Int} : ∀ {kvs : List (D × D)} {ys : List (Int × Value)}, Paired (YR K F) kvs ys →
    (∃ v u vv, dGetK kvs (.int i) = some v ∧ valueAt ys i = some u ∧ Dp K F vv v ∧ RelV vv u) ∨ (dGetK kvs (.int i) = none ∧ valueAt ys i = none)
  | _, _, .nil => .inr ⟨rfl, rfl⟩
  | p :: r, y :: ys, .cons h t => by
    have ih := yr_get (i := i) t
    obtain ⟨h1, vv, h3, h4⟩ := h
    by_cases e : y.1 = i
    · exact .inl ⟨p.2, y.2, vv, by unfold dGetK; rw [if_pos (by rw [h1, e])], by simp [valueAt, List.find?_cons, e], h3, h4⟩
    · have e1 : dGetK (p :: r) (.int i) = dGetK r (.int i) := by
        show (if p.1 = .int i then some p.2 else dGetK r (.int i)) = _
        rw [if_neg fun z => by rw [h1] at z; injection z with z; exact e z]
      have e2 : valueAt (y :: ys) i = valueAt ys i := by simp [valueAt, List.find?_cons, e]
      rw [e1, e2]
      exact ih
theorem yr_put {K : PySem.W.Frag} {i : Int} {v : D} {vv : V} {u : Value} (hv : Dp K F vv v) (rv : RelV vv u) : ∀ {kvs : List (D × D)} {ys : List (Int × Value)}, Paired (YR K F) kvs ys → (kvs.map (·.1)).Nodup → Paired (YR K F) (dPutK kvs (.int i) v) (stored ys i u)
  | _, _, .nil, _ => .cons ⟨rfl, vv, hv, rv⟩ .nil
  | p :: r, y :: ys, .cons h t, nd => by
    rw [List.map_cons, List.nodup_cons] at nd
    have ih := yr_put (i := i) hv rv t nd.2
    obtain ⟨h1, h3⟩ := h
    by_cases e : y.1 = i
    · have nx : i ∉ ys.map (·.1) := fun z => by
        obtain ⟨q, hq, e2⟩ := List.mem_map.mp z
        refine nd.1 ?_
        rw [yr_keys t, h1]
        exact List.mem_map.mpr ⟨q, hq, by rw [e2, e]⟩
      have e1 : stored (y :: ys) i u = (y.1, u) :: ys := by
        unfold stored
        rw [if_pos (by simp [e]), List.map_cons, if_pos e, map_store_of_not_mem ys _ _ nx]
      have e2 : dPutK (p :: r) (.int i) v = (.int i, v) :: r := by
        show (if p.1 = .int i then (PyData.int i, v) :: r else _) = _
        rw [if_pos (by rw [h1, e])]
      rw [e1, e2]
      exact .cons ⟨by show PyData.int i = .int y.1; rw [e], vv, hv, rv⟩ t
    · have e1 : stored (y :: ys) i u = y :: stored ys i u := by
        unfold stored
        rw [List.any_cons, decide_eq_false e, Bool.false_or]
        split
        · rw [List.map_cons, if_neg e]
        · rfl
      have e2 : dPutK (p :: r) (.int i) v = p :: dPutK r (.int i) v := by
        show (if p.1 = .int i then (PyData.int i, v) :: r else p :: dPutK r (.int i) v) = _
        rw [if_neg fun z => by rw [h1] at z; injection z with z; exact e z]
      rw [e1, e2]
      exact .cons ⟨h1, h3⟩ ih
end
end DL

/-! DL, part zv: dicts: what is asked of them, stored, walked. -/
namespace DL
open PySem PySem.Spec PyProof.Rows L2

theorem rawO_ok {P : Program} {w : World} {H : Hp} {h : Heap} {a : Addr} {es : Array DictEntry} {ep : Nat} (x : h.DictRaw a es ep) (n : (a == sysModules) = false) : ObjOk P w H h a (rawO a es ep) :=
  ⟨⟨x, n⟩, (let ⟨o, ho, _⟩ := x; ⟨o, ho⟩), fun _ _ h k => ⟨h.1.at k, h.2⟩⟩
theorem ent_same {K : PySem.W.Frag} {F F' : Hp} (e : Same F F') {p : D × D} {en : DictEntry} (h : EntR K F p en) : EntR K F' p en :=
  let ⟨kv, vv, h1, h2, h3, h4, h5⟩ := h; ⟨kv, vv, dp_same e h1, h2, dp_same e h3, h4, h5⟩
theorem ents_same {K : PySem.W.Frag} {F F' : Hp} (e : Same F F') : ∀ {kvs : List (D × D)} {es : List DictEntry}, Paired (EntR K F) kvs es → Paired (EntR K F') kvs es
  | _, _, .nil => .nil
  | _, _, .cons h t => .cons (ent_same e h) (ents_same e t)
/-- a dict in a slot: of its own, or frozen -/
def dicO (o : Bool) (kvs : List (D × D)) : Oth where
  rel := fun K F H v fp => DicAt K F H o kvs v fp
  still := !o
  tag := some (o, kvs)
  mono := fun {K F H F' H' v fp} e h k => by
    obtain ⟨a, es, ep, rfl, h2, h3, h4⟩ := h
    refine ⟨a, es, ep, rfl, ents_same e h2, h3, ?_⟩
    cases o with
    | true =>
      rw [if_pos rfl] at h4 ⊢
      obtain ⟨h4, h5, rfl⟩ := h4
      have := k a (List.mem_cons_self ..)
      exact ⟨this.2, this.1.trans h5, rfl⟩
    | false =>
      rw [if_neg Bool.false_ne_true] at h4 ⊢
      exact ⟨e _ _ h4.1, h4.2⟩
  there := fun {K F H v fp} h a ha => by
    obtain ⟨b, es, ep, rfl, h2, h3, h4⟩ := h
    cases o with
    | true =>
      rw [if_pos rfl] at h4
      obtain ⟨h4, h5, rfl⟩ := h4
      rw [List.mem_singleton.mp ha]
      exact ⟨by rw [h5]; simp, h4⟩
    | false =>
      rw [if_neg Bool.false_ne_true] at h4
      rw [h4.2] at ha
      nomatch ha
  bare := fun hs {K F H v fp} h => by
    obtain ⟨b, es, ep, rfl, h2, h3, h4⟩ := h
    cases o with
    | true => simp at hs
    | false =>
      rw [if_neg Bool.false_ne_true] at h4
      exact h4.2
  dic := fun {o' kvs'} e {K F H v fp} h => by
    injection e with e
    injection e with e1 e2
    subst e1 e2
    exact h
def W.dicV : W → Option (Bool × List (D × D))
  | .oth o => o.tag
  | _ => none
theorem dicV_dic (o : Bool) (kvs : List (D × D)) : (W.oth (dicO o kvs)).dicV = some (o, kvs) := rfl
theorem WR.dic {K : PySem.W.Frag} {dm : DM} {F H : Hp} {w : W} {v : V} {fp : List Addr} {o : Bool} {kvs : List (D × D)} (r : WR K dm F H w v fp) (e : w.dicV = some (o, kvs)) : DicAt K F H o kvs v fp := by
  cases r with
  | oth h => exact Oth.dic _ e h
  | _ => exact nomatch e
/-- the dict at a -/
def DK (K : PySem.W.Frag) (F H : Hp) (a : Addr) (kvs : List (D × D)) : Prop := ∃ es ep, H a = some (rawO a es ep) ∧ Paired (EntR K F) kvs es.toList ∧ WK kvs
theorem DicAt.dk {K : PySem.W.Frag} {F H : Hp} {o : Bool} {kvs : List (D × D)} {v : V} {fp : List Addr} (h : DicAt K F H o kvs v fp) (s : Same F H) : ∃ a, v = .ref a ∧ DK K F H a kvs := by
  obtain ⟨a, es, ep, rfl, h2, h3, h4⟩ := h
  refine ⟨a, rfl, es, ep, ?_, h2, h3⟩
  cases o with
  | true => rw [if_pos rfl] at h4; exact h4.2.1
  | false => rw [if_neg Bool.false_ne_true] at h4; exact s _ _ h4.1

section
variable {X : Cx} {pins : List (Addr × Obj)} {σ : L2.St} {F H : Hp} {s : Shared} {a : Addr} {kvs : List (D × D)} {k v : D} {y : V} {u : Value} {A : Around} {E : Value → Shared → Prop}
theorem room8 {P : Program} {w : World} {A : Around} (hu : A.units + 64 < cLine) : (nestedKind P w).room A.in1 := by
  show A.in1.units + 8 < cLine
  rw [Around.in1_units]
  omega
theorem DK.typeIs (I : Inv X pins σ H s) (d : DK X.K F H a kvs) : s.TypeIs (.ref a) "dict" ∧ (∀ b, Value.ref a = .ref b → ∃ ob, s.heap.get? b = some ob ∧ ob.dict = none) ∧ (a == sysModules) = false := by
  obtain ⟨es, ep, ha, _⟩ := d
  obtain ⟨⟨o, ho, hx, hd⟩, h2⟩ := (show s.heap.DictRaw a es ep ∧ (a == sysModules) = false from (I.hok a _ ha).1)
  refine ⟨⟨o, ho, hx.1⟩, fun b q => ?_, h2⟩
  cases q
  exact ⟨o, ho, hx.2.1⟩
theorem key_i (hk : kOk k = true) (ht : isTu k = false) (r : Dp X.K F y k) (ry : RelV y u) : ∃ i t, k = .int i ∧ u = .int i t := by
  cases k with
  | int i =>
    cases r
    obtain ⟨t, rfl⟩ := ry
    exact ⟨i, t, rfl, rfl⟩
  | tuple _ => simp [isTu] at ht
  | _ => simp [kOk, kIn] at hk
theorem key_t (ht : isTu k = true) (r : Dp X.K F y k) (ry : RelV y u) : ∃ b, y = .ref b ∧ u = .ref b := by
  cases k with
  | tuple ds =>
    cases r
    exact ⟨_, rfl, ry⟩
  | _ => simp [isTu] at ht
theorem key_is {b : Addr} (I : Inv X pins σ H s) (hs : Same F H) (hk : kOk k = true) (r : Dp X.K F (.ref b) k) : (nestedKind X.prog X.w).is s.heap (nk k) b := ⟨nkN_is I hs 8 _ _ _ hk r rfl, nkN_depth 8 _⟩
/-- what stands at a key -/
inductive KRes (X : Cx) (F : Hp) (kvs : List (D × D)) (k : D) : Option Value → Prop
  | some {v : D} {u : Value} {vv : V} : dGetK kvs k = .some v → Dp X.K F vv v → RelV vv u → KRes X F kvs k (.some u)
  | none : dGetK kvs k = .none → KRes X F kvs k .none
/-- d[y], there -/
theorem k_getItem {Q : Value → Shared → Prop} (hu : A.units + 64 < cLine) (I : Inv X pins σ H s) (hs : Same F H) (d : DK X.K F H a kvs) (r : Dp X.K F y k) (ry : RelV y u) (g : dGetK kvs k = some v)
    (h : ∀ w' x s', Inv X pins σ H s' → Dp X.K F x v → RelV x w' → Q w' s') : wpAny (model X.prog X.w) A (getItem (.ref a) u) Q E s := by
  obtain ⟨es, ep, ha, he, wk⟩ := d
  have f := wk.fit g
  cases ht : isTu k with
  | true =>
    obtain ⟨b, rfl, rfl⟩ := key_t ht r ry
    obtain ⟨xs, dd, nd, rel⟩ := dict_H I hs ha he wk fun p hp => (f.2 p hp).trans ht
    rcases xr_get f.1 rel wk.ok with ⟨v', u', vv, g1, g2, g3, g4⟩ | ⟨g1, _⟩
    · rw [g] at g1
      cases g1
      obtain ⟨p, hp, rfl⟩ := Option.map_eq_some_iff.mp g2
      exact wpAny_getItem_heap (room8 hu) (key_is I hs f.1 r) dd hp (h _ _ _ (I.tok _) g3 g4)
    · rw [g] at g1; cases g1
  | false =>
    obtain ⟨i, t, rfl, rfl⟩ := key_i f.1 ht r ry
    obtain ⟨ys, dd, nd, rel⟩ := dict_I I ha he wk fun p hp => (f.2 p hp).trans ht
    rcases yr_get (i := i) rel with ⟨v', u', vv, g1, g2, g3, g4⟩ | ⟨g1, _⟩
    · rw [g] at g1
      cases g1
      exact wpAny_getItem_of (knd := intKind X.prog X.w) (k := i) (by show Value.isInt i (.int i t) = true; simp [Value.isInt]) dd.mapOf g2 (h _ _ _ (I.tok _) g3 g4)
    · rw [g] at g1; cases g1
/-- y in d -/
theorem k_in {Q : Value → Shared → Prop} (neg : Bool) (hu : A.units + 64 < cLine) (I : Inv X pins σ H s) (hs : Same F H) (d : DK X.K F H a kvs) (r : Dp X.K F y k) (ry : RelV y u) (f : kFit kvs k)
    (h : ∀ s', Inv X pins σ H s' → Q (.bool (xor neg (dGetK kvs k).isSome)) s') : wpAny (model X.prog X.w) A (compareOp (if neg = true then .NotIn else .In) u (.ref a)) Q E s := by
  obtain ⟨es, ep, ha, he, wk⟩ := d
  cases ht : isTu k with
  | true =>
    obtain ⟨b, rfl, rfl⟩ := key_t ht r ry
    obtain ⟨xs, dd, nd, rel⟩ := dict_H I hs ha he wk fun p hp => (f.2 p hp).trans ht
    have e : (atKey xs (nk k)).isSome = (dGetK kvs k).isSome := by
      rcases xr_get f.1 rel wk.ok with ⟨v', u', vv, g1, g2, g3, g4⟩ | ⟨g1, g2⟩
      · rw [g1]
        obtain ⟨p, hp, _⟩ := Option.map_eq_some_iff.mp g2
        rw [hp]; rfl
      · rw [g1, g2]; rfl
    cases neg with
    | true => exact wpAny_notIn_heap (room8 hu) (key_is I hs f.1 r) nd dd (by rw [e]; have := h _ (I.tok (s.toks + (nestedKind X.prog X.w).draws (nk k))); rw [Bool.true_xor] at this; exact this)
    | false => exact wpAny_in_heap (room8 hu) (key_is I hs f.1 r) nd dd (by rw [e]; have := h _ (I.tok (s.toks + (nestedKind X.prog X.w).draws (nk k))); rw [Bool.false_xor] at this; exact this)
  | false =>
    obtain ⟨i, t, rfl, rfl⟩ := key_i f.1 ht r ry
    obtain ⟨ys, dd, nd, rel⟩ := dict_I I ha he wk fun p hp => (f.2 p hp).trans ht
    have e : (valueAt ys i).isSome = (dGetK kvs (.int i)).isSome := by
      rcases yr_get (i := i) rel with ⟨v', u', vv, g1, g2, g3, g4⟩ | ⟨g1, g2⟩
      · rw [g1, g2]; rfl
      · rw [g1, g2]; rfl
    cases neg with
    | true => exact wpAny_notIn_of (knd := intKind X.prog X.w) (k := i) (by show Value.isInt i (.int i t) = true; simp [Value.isInt]) nd dd.mapOf (by rw [e]; have := h _ (I.tok (s.toks + 1)); rw [Bool.true_xor] at this; exact this)
    | false => exact wpAny_in_of (knd := intKind X.prog X.w) (k := i) (by show Value.isInt i (.int i t) = true; simp [Value.isInt]) nd dd.mapOf (by rw [e]; have := h _ (I.tok (s.toks + 1)); rw [Bool.false_xor] at this; exact this)
/-- d.get(y, z) -/
theorem k_get2 {Q : Value → Shared → Prop} {x : V} {z : D} {r0 : Value} (hu : A.units + 64 < cLine) (I : Inv X pins σ H s) (hs : Same F H) (d : DK X.K F H a kvs) (r : Dp X.K F y k) (ry : RelV y u) (f : kFit kvs k) (hx : Dp X.K F x z) (rx : RelV x r0)
    (h : ∀ w' x' s', Inv X pins σ H s' → Dp X.K F x' ((dGetK kvs k).getD z) → RelV x' w' → Q w' s') : wpAny (model X.prog X.w) A (call (.builtin "dict.get") [.ref a, u, r0]) Q E s := by
  obtain ⟨es, ep, ha, he, wk⟩ := d
  cases ht : isTu k with
  | true =>
    obtain ⟨b, rfl, rfl⟩ := key_t ht r ry
    obtain ⟨xs, dd, nd, rel⟩ := dict_H I hs ha he wk fun p hp => (f.2 p hp).trans ht
    refine call_meetsIn PySem.F.slot_dict_get dd.typeIs PySem.F.entry_dict_get (PySem.F.args_dict_get_3 _ _ _) (meetsH_dict_get_default (nestedKind X.prog X.w) a b nd r0) ⟨room8 hu, nk k, xs, (key_is I hs f.1 r), dd, ?_⟩
    rcases xr_get f.1 rel wk.ok with ⟨v', u', vv, g1, g2, g3, g4⟩ | ⟨g1, g2⟩
    · rw [g2]
      exact h _ vv _ (I.tok _) (by rw [g1]; exact g3) g4
    · rw [g2]
      exact h _ x _ (I.tok _) (by rw [g1]; exact hx) rx
  | false =>
    obtain ⟨i, t, rfl, rfl⟩ := key_i f.1 ht r ry
    obtain ⟨ys, dd, nd, rel⟩ := dict_I I ha he wk fun p hp => (f.2 p hp).trans ht
    refine call_meetsIn PySem.F.slot_dict_get dd.typeIs PySem.F.entry_dict_get (PySem.F.args_dict_get_3 _ _ _) (meets_dict_get_default (intKind X.prog X.w) (k := i) a (by show Value.isInt i (.int i t) = true; simp [Value.isInt]) nd r0) ⟨_, dd.mapOf, ?_⟩
    rcases yr_get (i := i) rel with ⟨v', u', vv, g1, g2, g3, g4⟩ | ⟨g1, g2⟩
    · rw [g2]
      exact h _ vv _ (I.tok _) (by rw [g1]; exact g3) g4
    · rw [g2]
      exact h _ x _ (I.tok _) (by rw [g1]; exact hx) rx
/-- d[y] = v -/
theorem k_setItem {Q : Unit → Shared → Prop} {x : V} {r0 : Value} (hu : A.units + 64 < cLine) (I : Inv X pins σ H s) (hs : Same F H) (d : DK X.K F H a kvs) (r : Dp X.K F y k) (ry : RelV y u) (f : kFit kvs k) (hx : Dp X.K F x v) (rx : RelV x r0)
    (h : ∀ es ep s', Inv X pins σ (upd H a (rawO a es ep)) s' → Paired (EntR X.K F) (dPutK kvs k v) es.toList → Q () s') : wpAny (model X.prog X.w) A (setItem (.ref a) u r0) Q E s := by
  obtain ⟨es, ep, ha, he, wk⟩ := d
  cases ht : isTu k with
  | true =>
    obtain ⟨b, rfl, rfl⟩ := key_t ht r ry
    obtain ⟨xs, dd, nd, rel⟩ := dict_H I hs ha he wk fun p hp => (f.2 p hp).trans ht
    have hz : xs.length ≤ sizeLine := by rw [← Paired.length rel]; exact wk.len
    refine wpAny_setItem_heap (hsz := hz) (room8 hu) (key_is I hs f.1 r) dd fun h' dd' sb => ?_
    obtain ⟨q, es', ep', hq, h2, h3, h4, _, h5⟩ := dd'
    refine h es' ep' _ (d_write I (by rw [ha]; exact True.intro) sb ⟨q, hq⟩ (rawO_ok ⟨q, hq, h2, h3⟩ nd)) ?_
    rw [h4]
    refine ents_back (xr_put f.1 r hx rx rel wk.ok wk.nd) fun p hp => ?_
    rcases dPutK_mem hp with z | z
    · exact wk.ok p z
    · rw [z]; exact f.1
  | false =>
    obtain ⟨i, t, rfl, rfl⟩ := key_i f.1 ht r ry
    obtain ⟨ys, dd, nd, rel⟩ := dict_I I ha he wk fun p hp => (f.2 p hp).trans ht
    have hz : ys.length ≤ sizeLine := by rw [← Paired.length rel]; exact wk.len
    refine wpAny_setItem_pairs (knd := intKind X.prog X.w) (k := i) (hsz := hz) (by show Value.isInt i (.int i t) = true; simp [Value.isInt]) dd fun h' dd' sb => ?_
    obtain ⟨q, es', ep', hq, h2, h3, h4, h5, _⟩ := dd'
    refine h es' ep' _ (d_write I (by rw [ha]; exact True.intro) sb ⟨q, hq⟩ (rawO_ok ⟨q, hq, h2, h3⟩ nd)) ?_
    exact ents_yback (yr_put hx rx rel wk.nd) h5 fun e hm => h4 e (Array.mem_toList_iff.mp hm)
/-- len(d) -/
theorem k_len {Q : Value → Shared → Prop} (I : Inv X pins σ H s) (d : DK X.K F H a kvs) (h : ∀ t s', Inv X pins σ H s' → Q (.int kvs.length t) s') : wpAny (model X.prog X.w) A (call (.builtin "len") [.ref a]) Q E s := by
  have t := d.typeIs I
  obtain ⟨es, ep, ha, he, wk⟩ := d
  have raw := (show s.heap.DictRaw a es ep ∧ (a == sysModules) = false from (I.hok a _ ha).1)
  have l : es.size = kvs.length := by rw [← Array.length_toList, ← Paired.length he]
  have z := wk.len
  rw [sizeLine_eq] at z
  refine call_len_slot (n := (kvs.length : Int)) t.1 PySem.F.slot_dict_len (fun Q' hq => call_len_raw raw.2 raw.1 (by rw [l]; exact hq)) (by omega) (by omega) (h _ _ (I.tok _))
end
end DL

/-! DL, part zw: dicts in slots: d[k], k in d, d.get, len(d), d[k] = v, walks, {} and {k: v}; a dict frozen. -/
namespace DL
open PySem PySem.Spec PyProof.Rows L2

/-- the dict in a slot -/
def dicA (env : Env) (i : Nat) : Option (Bool × List (D × D)) := match env[i]? with
  | some (some w) => w.dicV
  | _ => none
theorem dicA_some {env : Env} {i : Nat} {p : Bool × List (D × D)} (h : dicA env i = some p) : ∃ w, env[i]? = some (some w) ∧ w.dicV = some p := by
  unfold dicA at h
  split at h
  · rename_i w e
    exact ⟨w, e, h⟩
  · cases h
theorem SRx.dk {K : PySem.W.Frag} {env : Env} {σ : L2.St} {F H : Hp} {ow : Addr → Option Nat} {dm : DM} (S : SRx K env σ F H ow dm) {i : Nat} {o : Bool} {kvs : List (D × D)} (e : dicA env i = some (o, kvs)) :
    ∃ a, σ[i]? = some (some (.ref a)) ∧ ∀ F' H', Ext dm F H F' H' → DK K F' H' a kvs := by
  obtain ⟨w, e1, e2⟩ := dicA_some e
  obtain ⟨v, fp, h1, h2, _, _⟩ := S.sl i w e1
  obtain ⟨a, rfl, _⟩ := (h2.dic e2).dk S.same
  refine ⟨a, h1, fun F' H' x => ?_⟩
  obtain ⟨v', fp', g1, g2, _, _⟩ := (S.ext x).sl i w e1
  rw [h1] at g1
  cases g1
  obtain ⟨b, eb, d⟩ := (g2.dic e2).dk x.fh
  cases eb
  exact d
section
variable {X : Cx} {e a b c : Expr} {es : List Expr} {pos p p2 apos cpos : Pos} {x : Str}
/-- d[k] -/
def dKGet (i : Nat) (tk : TB) : TW := fun env Q => match dicA env i with
  | some (_, kvs) => tk env fun k => ∃ v, dGetK kvs k = some v ∧ Q (.fz v)
  | none => False
theorem dw_kget (i : Nat) {tk : TB} (hu : X.A.units + 64 < cLine) (hx : PE X (.Name x p) (tVar i)) (hk : DF X e tk) (hs : NoSl e) : DW X (.Subscript (.Name x p) e pos) (dKGet i tk) := by
  refine ⟨fun pins s σ H Q I ⟨env, F, ow, dm, P, S, q, k⟩ => ?_⟩
  unfold dKGet at q
  split at q
  · rename_i o kvs ei
    obtain ⟨ad, hσ, D⟩ := S.dk ei
    refine subD_of PySem.F.slot_dict_getitem.lookup hs (thn (hx.run pins s σ H (fun v H1 => v = .ref ad ∧ H1 = H) I ⟨.ref ad, hσ, rfl, rfl⟩) fun u s1 ⟨v0, H1, I1, rx, ev, eH⟩ => ?_)
    subst ev eH
    obtain rfl : u = Value.ref ad := rx
    refine thn (hk.run pins s1 σ H1 (fun v H2 => ∃ d F', Ext dm F H1 F' H2 ∧ Dp X.K F' v d ∧ ∃ v, dGetK kvs d = some v ∧ P (.fz v)) I1 ⟨env, F, ow, dm, _, S, q, fun d hd v F' H' x r => ⟨d, F', x, r, hd⟩⟩) fun iv s2 ⟨y, H2, I2, ry, d, F', x, r, v, g, hP⟩ => ?_
    exact ⟨((D F' H2 x).typeIs I2).1, k_getItem hu I2 x.fh (D F' H2 x) r ry g fun w' z s3 I3 rz rw' => ⟨z, H2, I3, rw', k _ hP z F' H2 [] x (.fz rz) List.nodup_nil (fun _ ha => nomatch ha)⟩⟩
  · exact q.elim
/-- k in d -/
def dKIn (neg : Bool) (i : Nat) (tk : TB) : TW := fun env Q => match dicA env i with
  | some (_, kvs) => tk env fun k => kFit kvs k ∧ Q (.fz (.bool (xor neg (dGetK kvs k).isSome)))
  | none => False
theorem pc_kin (neg : Bool) (i : Nat) {tk : TB} (hu : X.A.units + 64 < cLine) (hx : PE X (.Name x p) (tVar i)) (hk : DF X e tk) : PC X (if neg = true then .NotIn else .In) e (.Name x p) (lW X.K (dKIn neg i tk)) := by
  refine ⟨fun pins s σ H Q I ⟨env, F, ow, dm, P, S, q, k⟩ => ?_⟩
  unfold dKIn at q
  split at q
  · rename_i o kvs ei
    obtain ⟨ad, hσ, D⟩ := S.dk ei
    refine thn (hk.run pins s σ H (fun v H2 => ∃ d F', Ext dm F H F' H2 ∧ Dp X.K F' v d ∧ kFit kvs d ∧ P (.fz (.bool (xor neg (dGetK kvs d).isSome)))) I ⟨env, F, ow, dm, _, S, q, fun d hd v F' H' x r => ⟨d, F', x, r, hd⟩⟩) fun iv s2 ⟨y, H2, I2, ry, d, F', x, r, f, hP⟩ => ?_
    refine thn (hx.run pins s2 σ H2 (fun v H1 => v = .ref ad ∧ H1 = H2) I2 ⟨.ref ad, hσ, rfl, rfl⟩) fun u s3 ⟨v0, H3, I3, rx, ev, eH⟩ => ?_
    subst ev eH
    obtain rfl : u = Value.ref ad := rx
    exact k_in neg hu I3 x.fh (D F' H3 x) r ry f fun s4 I4 => ⟨.bl _, H3, I4, rfl, k _ hP _ F' H3 [] x (.fz (.bl _)) List.nodup_nil (fun _ ha => nomatch ha)⟩
  · exact q.elim
theorem dw_kin (i : Nat) {tk : TB} (hu : X.A.units + 64 < cLine) (hx : PE X (.Name x p) (tVar i)) (hk : DF X e tk) : DW X (.Compare e [.In] [.Name x p] pos) (dKIn false i tk) := pe_cmp (pc_kin false i hu hx hk) rfl
theorem dw_knotin (i : Nat) {tk : TB} (hu : X.A.units + 64 < cLine) (hx : PE X (.Name x p) (tVar i)) (hk : DF X e tk) : DW X (.Compare e [.NotIn] [.Name x p] pos) (dKIn true i tk) := pe_cmp (pc_kin true i hu hx hk) rfl
theorem dt_kany {op : CmpOp} (neg : Bool) (i : Nat) {tk : TB} (h : PC X op e (.Name x p) (lW X.K (dKIn neg i tk))) (h1 : behindInMarks op (.Name x p) = false) : DT X (.Compare e [op] [.Name x p] pos) (dBool (dKIn neg i tk)) := by
  refine pt_mono (pt_cmp h h1) fun σ H Q ⟨env, F, ow, dm, P, S, q, k⟩ => ⟨env, F, ow, dm, _, S, q, fun w hw v F1 H1 fp x r nd fr => ?_⟩
  split at hw
  · rename_i b
    cases r with
    | fz r => cases r; exact ⟨b, rfl, k b hw F1 H1 x⟩
  · exact hw.elim
theorem dt_kin (i : Nat) {tk : TB} (hu : X.A.units + 64 < cLine) (hx : PE X (.Name x p) (tVar i)) (hk : DF X e tk) : DT X (.Compare e [.In] [.Name x p] pos) (dBool (dKIn false i tk)) := dt_kany false i (pc_kin false i hu hx hk) rfl
theorem dt_knotin (i : Nat) {tk : TB} (hu : X.A.units + 64 < cLine) (hx : PE X (.Name x p) (tVar i)) (hk : DF X e tk) : DT X (.Compare e [.NotIn] [.Name x p] pos) (dBool (dKIn true i tk)) := dt_kany true i (pc_kin true i hu hx hk) rfl
/-- d.get(k, z) -/
def dKGet2 (i : Nat) (tk tz : TB) : TW := fun env Q => match dicA env i with
  | some (_, kvs) => tk env fun k => tz env fun z => kFit kvs k ∧ Q (.fz ((dGetK kvs k).getD z))
  | none => False
theorem dw_kget2 (i : Nat) {tk tz : TB} (hu : X.A.units + 64 < cLine) (hx : PE X (.Name x p) (tVar i)) (hk : DF X e tk) (hz : DF X a tz) (m : M2 X (.Name x p) "get" apos e a cpos) : DW X (.Call (.Attribute (.Name x p) "get" apos) [e, a] [] cpos) (dKGet2 i tk tz) := by
  refine ⟨fun pins s σ H Q I ⟨env, F, ow, dm, P, S, q, k⟩ => ?_⟩
  unfold dKGet2 at q
  split at q
  · rename_i o kvs ei
    obtain ⟨ad, hσ, D⟩ := S.dk ei
    refine wpAny_Call_method m.base m.few m.line PySem.F.plainAttrs_dict PySem.F.slot_dict_get PySem.F.type_dict_get (thn (hx.run pins s σ H (fun v H1 => v = .ref ad ∧ H1 = H) I ⟨.ref ad, hσ, rfl, rfl⟩) fun u s1 ⟨v0, H1, I1, rx, ev, eH⟩ => ?_)
    subst ev eH
    obtain rfl : u = Value.ref ad := rx
    obtain ⟨t1, t2, _⟩ := (D F H1 S.refl).typeIs I1
    refine ⟨t1, t2, ?_⟩
    rw [m.trees]
    refine Calls.callWith_builtin rfl (Calls.evalArgs_plain (Calls.spliced_cons (thn (hk.run pins s1 σ H1 (fun v H2 => ∃ d F', Ext dm F H1 F' H2 ∧ Dp X.K F' v d ∧ tz env fun z => kFit kvs d ∧ P (.fz ((dGetK kvs d).getD z))) I1 ⟨env, F, ow, dm, _, S, q, fun d hd v F' H' x r => ⟨d, F', x, r, hd⟩⟩) fun iv s2 ⟨y, H2, I2, ry, d, F', x, r, q2⟩ =>
      Calls.spliced_cons (thn (hz.run pins s2 σ H2 (fun v H3 => ∃ z F3, Ext dm F' H2 F3 H3 ∧ Dp X.K F3 v z ∧ kFit kvs d ∧ P (.fz ((dGetK kvs d).getD z))) I2 ⟨env, F', ow, dm, _, S.ext x, q2, fun d hd v F' H' x r => ⟨d, F', x, r, hd⟩⟩) fun fv s3 ⟨y2, H3, I3, rz, z, F3, x3, r3, f, hP⟩ => Calls.spliced_nil ?_))))
    have x13 := x.trans x3
    exact k_get2 hu I3 x3.fh (D F3 H3 x13) (dp_same x3.ff r) ry f r3 rz fun w' z' s4 I4 rz' rw' => ⟨z', H3, I4, rw', k _ hP z' F3 H3 [] x13 (.fz rz') List.nodup_nil (fun _ ha => nomatch ha)⟩
  · exact q.elim
/-- len(d) -/
def dKLen (i : Nat) : TW := fun env Q => match dicA env i with
  | some (_, kvs) => Q (.fz (.int kvs.length))
  | none => False
theorem dw_klen (i : Nat) (hx : PE X (.Name x p) (tVar i)) (hm : X.mg "len" = none) (hg : Gl X "len" := by rfl) (he : starEach [.Name x p] X.env = [(false, eval (.Name x p) X.env)] := by rfl) (hpl : (backTo pos (starEach ([] : List Expr) X.env)).any (·.1) = false := by rfl) :
    DW X (.Call (.Name "len" p2) [.Name x p] [] pos) (dKLen i) := by
  have hc : CallR X (.builtin "len") (fun xs H Q => ∃ F ad kvs, xs = [.ref ad] ∧ DK X.K F H ad kvs ∧ Q (.int kvs.length) H) := by
    intro pins s σ H xs us Q I r ⟨F, ad, kvs, ex, d, q⟩
    subst ex
    obtain rfl := Vals.ref1 r
    exact k_len I d fun t s' I' => ⟨.int kvs.length, H, I', ⟨t, rfl⟩, q⟩
  refine pe_mono (pe_callB hc hg hm (by decide +kernel) (pa_cons hx pa_nil he) (by decide) (by decide) he hpl) fun σ H Q ⟨env, F, ow, dm, P, S, q, k⟩ => ?_
  unfold dKLen at q
  split at q
  · rename_i o kvs ei
    obtain ⟨ad, hσ, D⟩ := S.dk ei
    exact ⟨.ref ad, hσ, F, ad, kvs, rfl, D F H S.refl, k _ q _ F H [] S.refl (.fz (.int _)) List.nodup_nil (fun _ ha => nomatch ha)⟩
  · exact q.elim

/-! ### displays -/
theorem raw_new (h : Heap) : (h.push { cls := .type "dict", data := .dict #[] }).DictRaw h.objs.size #[] 0 := ⟨_, Heap.get?_push_size _ rfl, ⟨rfl, rfl, rfl⟩, rfl⟩
/-- {} -/
def dKNew : TW := fun _ Q => Q (.oth (dicO true []))
theorem dw_knew : DW X (.Dict [] [] pos) dKNew := by
  refine ⟨fun pins s σ H Q I ⟨env, F, ow, dm, P, S, q, k⟩ => wpAny_Dict_empty ?_⟩
  have hn : H s.heap.objs.size = none := I.hok.fresh (Nat.le_refl _)
  refine ⟨.ref s.heap.objs.size, _, I.laid (a := s.heap.objs.size) (o := rawO s.heap.objs.size #[] 0) (t' := s.toks) (fun _ _ q => Heap.get?_push_of_some _ q) (Nat.le_refl _) (rawO_ok (raw_new _) (beq_eq_false_iff_ne.mpr (Ne.symm (Nat.ne_of_lt I.big)))), rfl, ?_⟩
  refine k _ q _ F _ [s.heap.objs.size] (Ext.laidOwn S.same S.dl hn) (.oth ?_) (by simp) fun a ha => by rw [List.mem_singleton.mp ha]; exact hn
  refine ⟨_, #[], 0, rfl, .nil, WK.nil, ?_⟩
  rw [if_pos rfl]
  exact ⟨S.same.free hn, upd_same, rfl⟩
end

/-! ### d[k] = v -/
section
variable {K : PySem.W.Frag} {A : Anc} {env : Env} {σ : L2.St} {F H : Hp} {ow : Addr → Option Nat} {dm : DM}
/-- a slot's own dict changed -/
theorem SA.mutD (S : SA K A env σ F H ow dm) {i : Nat} {kvs : List (D × D)} (ei : dicA env i = some (true, kvs)) :
    ∃ a, σ[i]? = some (some (.ref a)) ∧ ∀ (F' H' : Hp) (kvs' : List (D × D)) (es' : Array DictEntry) (ep' : Nat), Ext dm F H F' H' → Paired (EntR K F') kvs' es'.toList → WK kvs' →
        SA K A (env.set i (some (.oth (dicO true kvs')))) σ F' (upd H' a (rawO a es' ep')) ow dm := by
  obtain ⟨w, e, ed⟩ := dicA_some ei
  obtain ⟨v, fp0, h1, h2, h3, h4⟩ := S.x.sl i w e
  obtain ⟨a, es, ep, rfl, g1, g2, g3⟩ := h2.dic ed
  rw [if_pos rfl] at g3
  obtain ⟨Fa0, ha, rfl⟩ := g3
  have oa : ow a = some i := h4 a (List.mem_cons_self ..)
  have nMa := S.x.notM oa
  refine ⟨a, h1, fun F' H' kvs' es' ep' x pe wk => ?_⟩
  have S' := S.ext x
  have Fa : F' a = none := x.nw a Fa0 (by rw [ha]; simp)
  have Aa : A.H a = none := S.own a i oa
  have hs : Same F' (upd H' a (rawO a es' ep')) := fun b o hb => by rw [upd_ne (ne_of_none hb Fa)]; exact x.fh b o hb
  have hdl : ∀ p, dm = some p → DealAt F' (upd H' a (rawO a es' ep')) p.1 p.2 := fun p hp => by
    have q := x.dl p hp
    have n1 : p.1 ≠ a := fun z => nMa ⟨p, hp, .inl z.symm⟩
    have n2 : p.2 ≠ a := fun z => nMa ⟨p, hp, .inr z.symm⟩
    exact ⟨q.fa, q.fb, by rw [upd_ne n1, upd_ne n2]; exact q.ex⟩
  refine ⟨⟨hs, by rw [List.length_set]; exact S.x.len, fun j u hu => ?_, hdl, S.x.dow⟩, ⟨S'.anc.ff, fun b o h m => ?_, S'.anc.nw, hs, fun p hp => ?_⟩, S'.pin, S.own, fun b j h => ?_, S.dmf⟩
  · by_cases ej : i = j
    · subst ej
      have hi : i < env.length := by
        rcases Nat.lt_or_ge i env.length with h | h
        · exact h
        · rw [List.getElem?_eq_none h] at e; cases e
      rw [List.getElem?_set_self hi] at hu
      cases hu
      refine ⟨.ref a, [a], h1, .oth ⟨a, es', ep', rfl, pe, wk, ?_⟩, by simp, fun b hb => by rw [List.mem_singleton.mp hb]; exact oa⟩
      rw [if_pos rfl]
      exact ⟨Fa, upd_same, rfl⟩
    · rw [List.getElem?_set_ne ej] at hu
      obtain ⟨z, fq, k1, k2, k3, k4⟩ := S.x.sl j u hu
      have na : ∀ b ∈ fq, b ≠ a := fun b hb z => by
        have := k4 b hb
        rw [z, oa] at this
        exact ej (Option.some.inj this)
      have k2' := wext x k2 fun b hb => S.x.notM (k4 b hb)
      exact ⟨z, fq, k1, k2'.mono (Same.refl F') fun b hb => ⟨upd_ne (na b hb), (k2'.there b hb).2⟩, k3, k4⟩
  · have nb : b ≠ a := fun z => by rw [z, Aa] at h; cases h
    rw [upd_ne nb]
    exact S'.anc.hh b o h m
  · have hp' : dm = some p := by
      rcases S.dmf with q | ⟨q, _⟩
      · exact q ▸ hp
      · rw [q] at hp; cases hp
    exact hdl p hp'
  · by_cases hba : b = a
    · subst hba; rw [upd_same]; simp
    · rw [upd_ne hba]
      exact x.dom (S.owh b j h)
end
section
variable {X : Cx} {e a b c : Expr} {pos p p2 tp : Pos} {x : Str}
def dKPut (i : Nat) (tv tk : TB) : TSd := fun E env => match dicA env i with
  | some (true, kvs) => tv env fun v => tk env fun k => kFit kvs k ∧ kvs.length < sizeLine ∧ E.nx (env.set i (some (.oth (dicO true (dPutK kvs k v)))))
  | _ => False
theorem ds_kput (i : Nat) {tv tk : TB} (hu : X.A.units + 64 < cLine) (hx : PE X (.Name x p) (tVar i)) (hv : DF X e tv) (hk : DF X a tk) (hs : swapsWith e (some (.Subscript (.Name x p) a tp)) pos.line X.env = pure false := by rfl) :
    DS X (.Assign [.Subscript (.Name x p) a tp] e pos) (dKPut i tv tk) := by
  refine fun WW tkk => ⟨fun pins s σ H DD I ⟨A, E, env, F, ow, dm, S, q, kk⟩ => ?_⟩
  unfold dKPut at q
  split at q
  · rename_i kvs ei
    obtain ⟨ad, hσ, D⟩ := S.x.dk ei
    obtain ⟨ad', hσ', M⟩ := S.mutD ei
    rw [hσ] at hσ'
    cases hσ'
    refine wpAny_Assign_Subscript (thn (hv.run pins s σ H (fun v H2 => ∃ d F', Ext dm F H F' H2 ∧ Dp X.K F' v d ∧ tk env fun k => kFit kvs k ∧ kvs.length < sizeLine ∧ E.nx (env.set i (some (.oth (dicO true (dPutK kvs k d)))))) I ⟨env, F, ow, dm, _, S.x, q, fun d hd v F' H' x r => ⟨d, F', x, r, hd⟩⟩) fun r0 s1 ⟨v, H1, I1, rv, d, F1, x1, r1, q1⟩ => ?_) hs
    refine thn (hx.run pins s1 σ H1 (fun v H2 => v = .ref ad ∧ H2 = H1) I1 ⟨.ref ad, hσ, rfl, rfl⟩) fun u s2 ⟨v0, H2, I2, rx, ev, eH⟩ => ?_
    subst ev eH
    obtain rfl : u = Value.ref ad := rx
    refine thn (hk.run pins s2 σ H2 (fun v H3 => ∃ k F', Ext dm F1 H2 F' H3 ∧ Dp X.K F' v k ∧ kFit kvs k ∧ kvs.length < sizeLine ∧ E.nx (env.set i (some (.oth (dicO true (dPutK kvs k d)))))) I2 ⟨env, F1, ow, dm, _, S.x.ext x1, q1, fun d hd v F' H' x r => ⟨d, F', x, r, hd⟩⟩) fun iv s3 ⟨y, H3, I3, ry, k, F3, x3, r3, f, l, hn⟩ => ?_
    have x13 := x1.trans x3
    refine k_setItem hu I3 x3.fh (D F3 H3 x13) r3 ry f (dp_same x3.ff r1) rv fun es ep s4 I4 pe => ?_
    have wk : WK (dPutK kvs k d) := by
      obtain ⟨_, _, _, _, w⟩ := D F H S.x.refl
      exact w.put f l
    exact ⟨σ, _, I4, kk.nx _ _ _ _ _ _ (M F3 H3 _ es ep x13 pe wk) hn⟩
  · exact q.elim

/-! ### a dict that does not change any more -/
def dFreezeD (i : Nat) (t : TSd) : TSd := fun E env => match dicA env i with
  | some (_, kvs) => t E (env.set i (some (.oth (dicO false kvs))))
  | none => False
end
section
variable {K : PySem.W.Frag} {A : Anc} {env : Env} {σ : L2.St} {F H : Hp} {ow : Addr → Option Nat} {dm : DM}
theorem SA.frzW (S : SA K A env σ F H ow dm) {i : Nat} {w w' : W} (e : env[i]? = some (some w)) (hp : ∀ v fp G, WR K dm F H w v fp → Same F G → (∀ a ∈ fp, G a = H a) → WR K dm G H w' v []) : ∃ F' ow', SA K A (env.set i (some w')) σ F' H ow' dm := by
  obtain ⟨v, fp, h1, h2, h3, h4⟩ := S.x.sl i w e
  have hF : ∀ a ∈ fp, F a = none := fun a ha => (h2.there a ha).2
  have hs := addF_same (H := H) hF
  have nm : ∀ a ∈ fp, ¬ isM dm a := fun a ha => S.x.notM (h4 a ha)
  have get : ∀ {a : Addr}, a ∉ fp → addF F H fp a = F a := fun {a} ha => if_neg ha
  have sh : Same (addF F H fp) H := fun b o h => by
    unfold addF at h
    split at h
    · exact h
    · exact S.x.same b o h
  have hdl : ∀ p, dm = some p → DealAt (addF F H fp) H p.1 p.2 := fun p hp => by
    have d := S.x.dl p hp
    exact ⟨by rw [get fun z => nm _ z ⟨p, hp, .inl rfl⟩]; exact d.fa, by rw [get fun z => nm _ z ⟨p, hp, .inr rfl⟩]; exact d.fb, d.ex⟩
  refine ⟨addF F H fp, fun a => if a ∈ fp then none else ow a, ⟨sh, by rw [List.length_set]; exact S.x.len, fun j u hu => ?_, hdl, fun p hp => ?_⟩, ⟨S.anc.ff.trans hs, S.anc.hh, fun a a1 a2 => ?_, sh, fun p hp => ?_⟩, S.pin.trans hs, fun a j h => ?_, fun a j h => ?_, S.dmf⟩
  · by_cases ej : i = j
    · subst ej
      have hi : i < env.length := by
        rcases Nat.lt_or_ge i env.length with h | h
        · exact h
        · rw [List.getElem?_eq_none h] at e; cases e
      rw [List.getElem?_set_self hi] at hu
      cases hu
      exact ⟨v, [], h1, hp v fp _ h2 hs fun a ha => if_pos ha, List.nodup_nil, fun _ ha => nomatch ha⟩
    · rw [List.getElem?_set_ne ej] at hu
      obtain ⟨z, fq, k1, k2, k3, k4⟩ := S.x.sl j u hu
      have nb : ∀ a ∈ fq, a ∉ fp := fun a ha z => by
        have := k4 a ha
        rw [h4 a z] at this
        exact ej (Option.some.inj this)
      refine ⟨z, fq, k1, k2.mono hs fun a ha => ⟨rfl, by rw [get (nb a ha)]; exact (k2.there a ha).2⟩, k3, fun a ha => ?_⟩
      show (if a ∈ fp then none else ow a) = some j
      rw [if_neg (nb a ha)]
      exact k4 a ha
  · have d := S.x.dow p hp
    show (if p.1 ∈ fp then none else ow p.1) = none ∧ (if p.2 ∈ fp then none else ow p.2) = none
    exact ⟨by split; rfl; exact d.1, by split; rfl; exact d.2⟩
  · rw [get fun z => by have := S.own a i (h4 a z); exact a2 this]
    exact S.anc.nw a a1 a2
  · rcases S.dmf with q | ⟨q, _⟩
    · exact hdl p (q ▸ hp)
    · rw [q] at hp; cases hp
  · have h' : (if a ∈ fp then none else ow a) = some j := h
    split at h'
    · cases h'
    · exact S.own a j h'
  · have h' : (if a ∈ fp then none else ow a) = some j := h
    split at h'
    · cases h'
    · exact S.owh a j h'
theorem dic_frozen {w : W} {o : Bool} {kvs : List (D × D)} (ed : w.dicV = some (o, kvs)) : ∀ v fp G, WR K dm F H w v fp → Same F G → (∀ a ∈ fp, G a = H a) → WR K dm G H (.oth (dicO false kvs)) v [] := by
  intro v fp G r sg k
  obtain ⟨a, es, ep, rfl, g1, g2, g3⟩ := r.dic ed
  refine .oth ⟨a, es, ep, rfl, ents_same sg g1, g2, ?_⟩
  rw [if_neg Bool.false_ne_true]
  cases o with
  | true =>
    rw [if_pos rfl] at g3
    obtain ⟨h1, h2, rfl⟩ := g3
    exact ⟨(k a (List.mem_cons_self ..)).trans h2, rfl⟩
  | false =>
    rw [if_neg Bool.false_ne_true] at g3
    exact ⟨sg _ _ g3.1, rfl⟩
end
section
variable {X : Cx} {e a b c tg : Expr} {pos p p2 tp : Pos} {x : Str} {st : Stmt}
theorem ds_freezeD (i : Nat) {t : TSd} (h : DS X st t) : DS X st (dFreezeD i t) := by
  intro WW tk
  refine ps_mono (h WW tk) fun D σ H ⟨A, E, env, F, ow, dm, S, q, k⟩ => ?_
  unfold dFreezeD at q
  split at q
  · rename_i o kvs e
    obtain ⟨w, e1, e2⟩ := dicA_some e
    obtain ⟨F', ow', S'⟩ := S.frzW e1 (dic_frozen e2)
    exact ⟨A, E, _, F', ow', dm, S', q, k⟩
  · exact q.elim

/-! ### for k in d -/
def ItD (d : Addr) (es : Array DictEntry) (ep : Nat) : It :=
  ⟨fun i H => H d = some (rawO d es ep) ∧ i < es.size, fun i H x H' => H' = H ∧ ∃ en, es[i]? = some en ∧ RelV x en.key, fun i H => H d = some (rawO d es ep) ∧ es.size ≤ i⟩
/-- the entries' keys are values of the data layer -/
def KeysV (es : Array DictEntry) : Prop := ∀ (i : Nat) (en : DictEntry), es[i]? = some en → ∃ x, RelV x en.key
theorem turn_dict {P : Program} {w : World} {K : PySem.W.Frag} {d : Addr} {es : Array DictEntry} {ep : Nat} (kv : KeysV es) (it : Addr) : Turn P w K tg (ItD d es ep) [it] it (fun i h => h.IsKeyIter it d i es.size ep) where
  mem := by simp
  obj := fun i h st b hb => by
    have e : b = it := by simpa using hb
    subst e
    obtain ⟨oi, e, c, dd⟩ := st
    exact ⟨oi, e, fun v z => by rw [dd] at z; cases z⟩
  keep := fun i h h' st k => st.at fun oi e => k it (by simp) oi e
  item := by
    intro X hP hw hK hc i pins s σ H E I hf st hg
    subst hP hw hK
    obtain ⟨hd, hi⟩ := hg
    obtain ⟨f0, f1, f2, f3, f4, f5⟩ := hf it (by simp)
    obtain ⟨⟨o, ho, hx, hdt⟩, h2⟩ := (show s.heap.DictRaw d es ep ∧ (d == sysModules) = false from (I.hok d _ hd).1)
    have hen : es[i]? = some es[i] := Array.getElem?_eq_getElem hi
    obtain ⟨x, hkey⟩ := kv i _ hen
    refine next_key_item st ho hdt rfl hen fun h' st' sb => ?_
    have I1 : Inv X pins σ H { s with heap := h' } := I.turned (t' := s.toks) (fun b ob hb e => (sb.2 b hb).trans e) f0 f1 f3 f4 f5
    obtain ⟨oi, e, c, dd⟩ := id st'
    exact ⟨es[i].key, rfl, go_of (s := { s with heap := h' }) e c dd (by decide) ⟨x, H, I1, hkey, ⟨rfl, _, hen, hkey⟩, st', fun b hb => (hf b hb).1⟩⟩
  done := by
    intro X hP hw hK hc i pins s σ H E I hf st hg
    subst hP hw hK
    obtain ⟨hd, hi⟩ := hg
    obtain ⟨f0, f1, f2, f3, f4, f5⟩ := hf it (by simp)
    obtain ⟨⟨o, ho, hx, hdt⟩, h2⟩ := (show s.heap.DictRaw d es ep ∧ (d == sysModules) = false from (I.hok d _ hd).1)
    exact next_key_end (I.ok.hd hc) st ho hdt rfl hi fun h' eb => ⟨rfl, I.turned (t' := s.toks) (fun b ob hb e => eb b ob hb e) f0 f1 f3 f4 f5⟩
  self := fun A i s Q E st h => wpAny_pyIter_keyiter st h
theorem pi_dict {td : TE} (he : PE X e td) : PI X tg e (fun σ H R => td σ H fun x H1 => ∃ d es ep, x = .ref d ∧ KeysV es ∧ H1 d = some (rawO d es ep) ∧ R (ItD d es ep) H1) := by
  refine ⟨fun pins s σ H R I h => ?_⟩
  refine thn (he.run pins s σ H _ I h) fun u s1 ⟨x, H1, I1, rx, d, es, ep, ex, kv, hd, q⟩ => ?_
  subst ex
  obtain rfl : u = Value.ref d := rx
  obtain ⟨⟨o, ho, hx, hdt⟩, h2⟩ := (show s1.heap.DictRaw d es ep ∧ (d == sysModules) = false from (I1.hok d _ hd).1)
  exact iter_keys h2 ho hx hdt (pi_one (tk := s1.toks) I1 _ (turn_dict kv _) ⟨_, Heap.get?_push_size _ rfl, rfl, rfl⟩ q)
theorem ents_keys {K : PySem.W.Frag} {F : Hp} {kvs : List (D × D)} {es : Array DictEntry} (h : Paired (EntR K F) kvs es.toList) : KeysV es := by
  intro i en hi
  have hm : en ∈ es.toList := List.mem_of_getElem? (by rw [Array.getElem?_toList]; exact hi)
  obtain ⟨p, kv, vv, h1, h2, _⟩ := Paired.right h en hm
  exact ⟨kv, h2⟩
theorem ents_at {K : PySem.W.Frag} {F : Hp} : ∀ {kvs : List (D × D)} {es : List DictEntry} {i : Nat} {k : D}, Paired (EntR K F) kvs es → (kvs.map (·.1))[i]? = some k → ∃ en kv, es[i]? = some en ∧ Dp K F kv k ∧ RelV kv en.key
  | _, _, i, k, .nil, h => by simp at h
  | p :: r, en :: es, 0, k, .cons h t, e => by
    obtain ⟨kv, vv, h1, h2, _⟩ := h
    have : p.1 = k := by simpa using e
    exact ⟨en, kv, rfl, by rw [← this]; exact h1, h2⟩
  | p :: r, en :: es, i + 1, k, .cons h t, e => by
    obtain ⟨en', kv, h1, h2, h3⟩ := ents_at (i := i) (k := k) t (by simpa using e)
    exact ⟨en', kv, by simpa using h1, h2, h3⟩
theorem itr_dict {K : PySem.W.Frag} {F1 H1 : Hp} {C : Addr → Prop} {a : Addr} {es : Array DictEntry} {ep : Nat} {kvs : List (D × D)} (hq : ∀ F H, Same F1 F → Same F H → (∀ b, C b → H b = H1 b) → H a = some (rawO a es ep)) (r : Paired (EntR K F1) kvs es.toList) :
    ItR K C F1 H1 (ItD a es ep) (kvs.map (·.1)) := fun dm F H h1 h2 h3 h4 => by
  have q := hq F H h1 h2 h4
  have l : es.size = (kvs.map (·.1)).length := by rw [List.length_map, ← Array.length_toList, ← Paired.length r]
  refine ⟨fun i d hd => ?_, ⟨q, by rw [l]; exact Nat.le_refl _⟩⟩
  obtain ⟨en, kv, e1, e2, e3⟩ := ents_at r hd
  have hi : i < es.size := by rw [l]; exact (List.getElem?_eq_some_iff.mp hd).1
  refine ⟨⟨q, hi⟩, fun x H' ⟨eH, en', g1, g2⟩ => ?_⟩
  subst eH
  rw [Array.getElem?_toList] at e1
  rw [e1] at g1
  cases g1
  obtain rfl := RelV.inj g2 e3
  exact ⟨F, ⟨Same.refl F, fun _ _ h _ => h, fun _ h _ => h, h2, h3⟩, dp_same h1 e2⟩
/-- the keys of a dict; frozen if st -/
def iDic (st : Bool) (i : Nat) : TIt := fun env Q => match dicA env i with
  | some (o, kvs) => (o = true → st = false) ∧ Q (kvs.map (·.1))
  | none => False
theorem di_dict {st : Bool} (i : Nat) (hx : PE X (.Name x p) (tVar i)) : DI X st tg (.Name x p) (iDic st i) := by
  refine pi_mono (pi_dict hx) fun σ H R ⟨env, F, ow, dm, P, S, q, k⟩ => ?_
  unfold iDic at q
  split at q
  · rename_i o kvs ei
    obtain ⟨w, e1, e2⟩ := dicA_some ei
    obtain ⟨v, fp, h1, h2, _, h4⟩ := S.sl i w e1
    obtain ⟨a, es, ep, rfl, g1, g2, g3⟩ := h2.dic e2
    cases o with
    | true =>
      rw [if_pos rfl] at g3
      obtain ⟨f1, f2, rfl⟩ := g3
      exact ⟨.ref a, h1, a, es, ep, rfl, ents_keys g1, f2, k _ q.2 _ F H (fun b => b = a) S.refl (itr_dict (fun F H e1 e2 e3 => (e3 a rfl).trans f2) g1) fun b hb => by subst hb; exact ⟨q.1 rfl, by rw [f2]; simp, S.notM (h4 _ (List.mem_cons_self ..))⟩⟩
    | false =>
      rw [if_neg Bool.false_ne_true] at g3
      exact ⟨.ref a, h1, a, es, ep, rfl, ents_keys g1, S.same _ _ g3.1, k _ q.2 _ F H (fun _ => False) S.refl (itr_dict (fun F H e1 e2 _ => (e1.trans e2) _ _ g3.1) g1) fun _ z => z.elim⟩
  · exact q.elim
end
end DL

/-! DL, part zx: dict displays. -/
namespace DL
open PySem PySem.Spec PyProof.Rows L2

abbrev TPs := Env → (List (D × D) → Prop) → Prop
def pNil : TPs := fun _ Q => Q []
def pCons (tk tv : TB) (u : TPs) : TPs := fun env Q => tk env fun k => tv env fun v => u env fun ps => Q ((k, v) :: ps)
def PD (K : PySem.W.Frag) (F : Hp) (x : V × V) (d : D × D) : Prop := Dp K F x.1 d.1 ∧ Dp K F x.2 d.2
theorem pd_same {K : PySem.W.Frag} {F F' : Hp} (e : Same F F') : ∀ {vs : List (V × V)} {ps : List (D × D)}, Paired (PD K F) vs ps → Paired (PD K F') vs ps
  | _, _, .nil => .nil
  | _, _, .cons h t => .cons ⟨dp_same e h.1, dp_same e h.2⟩ (pd_same e t)
structure DPs (X : Cx) (pos : Pos) (keys : List (Option Expr)) (values : List Expr) (t : TPs) : Prop where
  run : ∀ (pins : List (Addr × Obj)) (s : Shared) (σ : L2.St) (H : Hp) (Q : List (V × V) → Hp → Prop), Inv X pins σ H s →
    (∃ env F ow dm P, SRx X.K env σ F H ow dm ∧ t env P ∧ ∀ ps, P ps → ∀ vs F' H', Ext dm F H F' H' → Paired (PD X.K F') vs ps → Q vs H') →
    wpAny (model X.prog X.w) X.A (evalPairs (pairTrees keys values X.env pos)) (fun vs s' => ∃ ps H', Inv X pins σ H' s' ∧ VV ps vs ∧ Q ps H') X.xe s
section
variable {X : Cx} {pos : Pos} {k v : Expr} {ks : List (Option Expr)} {vs : List Expr}
theorem dps_nil : DPs X pos [] [] pNil := ⟨fun pins s σ H Q I ⟨env, F, ow, dm, P, S, q, kk⟩ => pairTrees_nil_walk ⟨[], H, I, .nil, kk _ q [] F H S.refl .nil⟩⟩
theorem dps_cons {tk tv : TB} {u : TPs} (hk : DF X k tk) (hv : DF X v tv) (hr : DPs X pos ks vs u) : DPs X pos (some k :: ks) (v :: vs) (pCons tk tv u) := by
  refine ⟨fun pins s σ H Q I ⟨env, F, ow, dm, P, S, q, kk⟩ => pairTrees_cons_walk ?_⟩
  refine thn (hk.run pins s σ H (fun x H1 => ∃ d F1, Ext dm F H F1 H1 ∧ Dp X.K F1 x d ∧ tv env fun v => u env fun ps => P ((d, v) :: ps)) I ⟨env, F, ow, dm, _, S, q, fun d hd v F' H' x r => ⟨d, F', x, r, hd⟩⟩) fun u1 s1 ⟨x, H1, I1, rx, d, F1, x1, r1, q1⟩ => ?_
  refine thn (hv.run pins s1 σ H1 (fun x H2 => ∃ d2 F2, Ext dm F1 H1 F2 H2 ∧ Dp X.K F2 x d2 ∧ u env fun ps => P ((d, d2) :: ps)) I1 ⟨env, F1, ow, dm, _, S.ext x1, q1, fun d hd v F' H' x r => ⟨d, F', x, r, hd⟩⟩) fun u2 s2 ⟨y, H2, I2, ry, d2, F2, x2, r2, q2⟩ => ?_
  have x12 := x1.trans x2
  refine thn (hr.run pins s2 σ H2 (fun vs H3 => Q ((x, y) :: vs) H3) I2 ⟨env, F2, ow, dm, _, S.ext x12, q2, fun ps hps vs F3 H3 x3 r3 => kk _ hps _ F3 H3 (x12.trans x3) (.cons ⟨dp_same (x2.ff.trans x3.ff) r1, dp_same x3.ff r2⟩ r3)⟩) fun ws s3 ⟨ps, H3, I3, rel, q3⟩ => ?_
  exact ⟨(x, y) :: ps, H3, I3, .cons ⟨rx, ry⟩ rel, q3⟩
end
noncomputable def putAll (ps : List (D × D)) : List (D × D) := ps.foldl (fun acc p => dPutK acc p.1 p.2) []
def dKDisp (t : TPs) : TW := fun env Q => t env fun ps => ps.all (fun p => kOk p.1) = true ∧ (ps.all (fun p => isTu p.1) || ps.all (fun p => !isTu p.1)) = true ∧ ps.length ≤ 15 ∧ Q (.oth (dicO true (putAll ps)))
section
variable {X : Cx} {pins : List (Addr × Obj)} {σ : L2.St} {F H : Hp} {s : Shared}
theorem carr_H (I : Inv X pins σ H s) (hs : Same F H) : ∀ {ps : List (D × D)} {vs : List (V × V)} {us : List (Value × Value)}, Paired (PD X.K F) vs ps → VV vs us → (∀ p ∈ ps, kOk p.1 = true) → (∀ p ∈ ps, isTu p.1 = true) →
    ∃ xs, CarriesH (nestedKind X.prog X.w) s.heap us xs ∧ Paired (XR X.K F) ps xs
  | _, _, _, .nil, .nil, _, _ => ⟨[], trivial, .nil⟩
  | p :: ps, (v1, v2) :: vs, (u1, u2) :: us, .cons h t, .cons g gg, o, q => by
    obtain ⟨xs, c, r⟩ := carr_H I hs t gg (fun p hp => o p (List.mem_cons_of_mem _ hp)) fun p hp => q p (List.mem_cons_of_mem _ hp)
    obtain ⟨b, e1, e2⟩ := key_t (q p (List.mem_cons_self ..)) h.1 g.1
    have e1' : v1 = .ref b := e1
    have e2' : u1 = .ref b := e2
    subst e1' e2'
    exact ⟨(nk p.1, b, u2) :: xs, ⟨rfl, rfl, key_is I hs (o p (List.mem_cons_self ..)) h.1, c⟩, .cons ⟨rfl, h.1, v2, h.2, g.2⟩ r⟩
theorem all_H : ∀ {ps acc : List (D × D)} {xs ax : List (NestedKey × Addr × Value)}, Paired (XR X.K F) ps xs → Paired (XR X.K F) acc ax → WK acc → (∀ p ∈ ps, kOk p.1 = true) → (∀ p ∈ ps, isTu p.1 = true) → (∀ p ∈ acc, isTu p.1 = true) → acc.length + ps.length ≤ sizeLine →
    Paired (XR X.K F) (ps.foldl (fun acc p => dPutK acc p.1 p.2) acc) (storedAllH ax xs) ∧ WK (ps.foldl (fun acc p => dPutK acc p.1 p.2) acc)
  | [], acc, _, ax, .nil, r, w, _, _, _, _ => ⟨r, w⟩
  | p :: ps, acc, x :: xs, ax, .cons h t, r, w, o, q, qa, l => by
    obtain ⟨h1, h2, vv, h3, h4⟩ := h
    have ok := o p (List.mem_cons_self ..)
    have qp := q p (List.mem_cons_self ..)
    rw [List.length_cons] at l
    have l2 := dPutK_length (k := p.1) (v := p.2) (kvs := acc)
    have f : kFit acc p.1 := ⟨ok, fun z hz => (qa z hz).trans qp.symm⟩
    have r2 := xr_put (k := p.1) (v := p.2) ok h2 h3 h4 r w.ok w.nd
    rw [← h1] at r2
    have := all_H t r2 (w.put f (by omega)) (fun p hp => o p (List.mem_cons_of_mem _ hp)) (fun p hp => q p (List.mem_cons_of_mem _ hp)) (fun z hz => by
      rcases dPutK_mem hz with hz | hz
      · exact qa z hz
      · rw [hz]; exact qp) (by omega)
    exact this
theorem carr_I : ∀ {ps : List (D × D)} {vs : List (V × V)} {us : List (Value × Value)}, Paired (PD X.K F) vs ps → VV vs us → (∀ p ∈ ps, kOk p.1 = true) → (∀ p ∈ ps, isTu p.1 = false) →
    ∃ ys, Carries (intKind X.prog X.w) us ys ∧ Paired (YR X.K F) ps ys
  | _, _, _, .nil, .nil, _, _ => ⟨[], trivial, .nil⟩
  | p :: ps, (v1, v2) :: vs, (u1, u2) :: us, .cons h t, .cons g gg, o, q => by
    obtain ⟨ys, c, r⟩ := carr_I t gg (fun p hp => o p (List.mem_cons_of_mem _ hp)) fun p hp => q p (List.mem_cons_of_mem _ hp)
    obtain ⟨i, tt, e1, e2⟩ := key_i (o p (List.mem_cons_self ..)) (q p (List.mem_cons_self ..)) h.1 g.1
    have e2' : u1 = .int i tt := e2
    subst e2'
    exact ⟨(i, u2) :: ys, ⟨by show Value.isInt i (.int i tt) = true; simp [Value.isInt], rfl, c⟩, .cons ⟨e1, v2, h.2, g.2⟩ r⟩
theorem all_I : ∀ {ps acc : List (D × D)} {ys ay : List (Int × Value)}, Paired (YR X.K F) ps ys → Paired (YR X.K F) acc ay → WK acc → (∀ p ∈ ps, kOk p.1 = true) → (∀ p ∈ ps, isTu p.1 = false) → (∀ p ∈ acc, isTu p.1 = false) → acc.length + ps.length ≤ sizeLine →
    Paired (YR X.K F) (ps.foldl (fun acc p => dPutK acc p.1 p.2) acc) (merged ay ys) ∧ WK (ps.foldl (fun acc p => dPutK acc p.1 p.2) acc)
  | [], acc, _, ay, .nil, r, w, _, _, _, _ => ⟨r, w⟩
  | p :: ps, acc, y :: ys, ay, .cons h t, r, w, o, q, qa, l => by
    obtain ⟨h1, vv, h3, h4⟩ := h
    have ok := o p (List.mem_cons_self ..)
    have qp := q p (List.mem_cons_self ..)
    rw [List.length_cons] at l
    have l2 := dPutK_length (k := p.1) (v := p.2) (kvs := acc)
    have f : kFit acc p.1 := ⟨ok, fun z hz => (qa z hz).trans qp.symm⟩
    have r2 := yr_put (i := y.1) (v := p.2) h3 h4 r w.nd
    rw [← h1] at r2
    have := all_I t r2 (w.put f (by omega)) (fun p hp => o p (List.mem_cons_of_mem _ hp)) (fun p hp => q p (List.mem_cons_of_mem _ hp)) (fun z hz => by
      rcases dPutK_mem hz with hz | hz
      · exact qa z hz
      · rw [hz]; exact qp) (by omega)
    exact this
theorem dw_kdisp {pos : Pos} {keys : List (Option Expr)} {values : List Expr} {t : TPs} (hu : X.A.units + 64 < cLine) (h : DPs X pos keys values t) (hall : keys.all (·.isSome) = true := by rfl) (hl : keys.length = values.length := by rfl) (h0 : keys ≠ [] := by simp)
    (h15 : keys.length ≤ 15 := by decide) : DW X (.Dict keys values pos) (dKDisp t) := by
  refine ⟨fun pins s σ H Q I ⟨env, F, ow, dm, P, S, q, kk⟩ => ?_⟩
  have hn : H s.heap.objs.size = none := I.hok.fresh (Nat.le_refl _)
  have nd := beq_eq_false_iff_ne.mpr (Ne.symm (Nat.ne_of_lt I.big))
  have I1 := I.laid (a := s.heap.objs.size) (o := rawO s.heap.objs.size #[] 0) (h' := s.heap.push { cls := .type "dict", data := .dict #[] }) (t' := s.toks) (fun _ _ q => Heap.get?_push_of_some _ q) (Nat.le_refl _) (rawO_ok (raw_new _) nd)
  have x0 : Ext dm F H F (upd H s.heap.objs.size (rawO s.heap.objs.size #[] 0)) := Ext.laidOwn S.same S.dl hn
  have nM := S.notMN hn
  have hn' := zip_pairTrees keys values X.env pos hall hl
  have hln := pairTrees_length keys values X.env pos hall hl
  have run := h.run pins _ σ _ (fun vs H2 => ∃ ps F2, Ext dm F (upd H s.heap.objs.size (rawO s.heap.objs.size #[] 0)) F2 H2 ∧ Paired (PD X.K F2) vs ps ∧ ps.all (fun p => kOk p.1) = true ∧ (ps.all (fun p => isTu p.1) || ps.all (fun p => !isTu p.1)) = true ∧ ps.length ≤ 15 ∧ P (.oth (dicO true (putAll ps)))) I1
    ⟨env, F, ow, dm, _, S.ext x0, q, fun ps hps vs F' H' x r => ⟨ps, F', x, r, hps⟩⟩
  -- behind the pairs
  have fin : ∀ (ps : List (D × D)) (F2 H2 : Hp) (es : Array DictEntry) (ep : Nat) (s3 : Shared), Ext dm F (upd H s.heap.objs.size (rawO s.heap.objs.size #[] 0)) F2 H2 → Inv X pins σ (upd H2 s.heap.objs.size (rawO s.heap.objs.size es ep)) s3 → Paired (EntR X.K F2) (putAll ps) es.toList → WK (putAll ps) → P (.oth (dicO true (putAll ps))) →
      EP X pins σ Q (.ref s.heap.objs.size) s3 := by
    intro ps F2 H2 es ep s3 x J pe wk hP
    have x02 := x0.trans x
    have F2n : F2 s.heap.objs.size = none := x.nw _ (S.same.free hn) (by rw [upd_same]; simp)
    have hH2 : H2 s.heap.objs.size = some (rawO s.heap.objs.size #[] 0) := x.hh _ _ upd_same nM
    refine ⟨.ref s.heap.objs.size, _, J, rfl, kk _ hP _ F2 _ [s.heap.objs.size] ?_ (.oth ⟨_, es, ep, rfl, pe, wk, ?_⟩) (by simp) fun a ha => by rw [List.mem_singleton.mp ha]; exact hn⟩
    · refine ⟨x02.ff, fun b o hb m => ?_, x02.nw, fun b o hb => ?_, fun p hp => ?_⟩
      · rw [upd_ne (ne_of_none hb hn)]; exact x02.hh b o hb m
      · rw [upd_ne (ne_of_none hb F2n)]; exact x02.fh b o hb
      · have d := x02.dl p hp
        have n1 : p.1 ≠ s.heap.objs.size := fun e => nM ⟨p, hp, .inl e.symm⟩
        have n2 : p.2 ≠ s.heap.objs.size := fun e => nM ⟨p, hp, .inr e.symm⟩
        exact ⟨d.fa, d.fb, by rw [upd_ne n1, upd_ne n2]; exact d.ex⟩
    · rw [if_pos rfl]
      exact ⟨F2n, upd_same, rfl⟩
  by_cases hT : True
  · rw [arm_eval_Dict, hn', dictDisplay_pairs _ (fun e => h0 (List.length_eq_zero_iff.mp (by rw [← hln, e]; rfl))) (by omega)]
    refine wpAny_bind (wpAny_standAt (wpAny_bind ?_))
    unfold subDict
    refine wpAny_bind (wpAny_alloc ?_)
    refine wpAny_bind (wpAny_holding ?_)
    rw [if_pos (by rw [hln]; exact h15)]
    refine wpAny_bind (wpAny_mono (wpAny_evalPairs_len run) (fun us s2 h2 => ?_) fun _ _ e => e)
    obtain ⟨hvl, vs, H2, I2, rel, ps, F2, x, r, ok, one, l15, hP⟩ := h2
    have hH2 : H2 s.heap.objs.size = some (rawO s.heap.objs.size #[] 0) := x.hh _ _ upd_same nM
    obtain ⟨⟨o, ho, hx, hd⟩, h2⟩ := (show s2.heap.DictRaw s.heap.objs.size #[] 0 ∧ _ from (I2.hok _ _ hH2).1)
    have ok' : ∀ p ∈ ps, kOk p.1 = true := List.all_eq_true.mp ok
    refine wpAny_holding ?_
    rcases Bool.or_eq_true_iff.mp one with one | one
    · have tu : ∀ p ∈ ps, isTu p.1 = true := List.all_eq_true.mp one
      obtain ⟨xs, c, rx⟩ := carr_H I2 x.fh r rel ok' tu
      obtain ⟨q1, wk⟩ := all_H rx .nil WK.nil ok' tu (fun _ h => nomatch h) (by rw [sizeLine_eq]; simp only [List.length_nil]; omega)
      refine wpAny_bind (wpAny_storeAllH (knd := nestedKind X.prog X.w) (by show X.A.units + 8 < cLine; omega) us xs [] s2 _ c ⟨o, #[], 0, ho, hx, hd, rfl, (fun _ h => nomatch h), List.nodup_nil⟩ (by rw [← Paired.length rx, sizeLine_eq]; simp only [List.length_nil]; omega) fun h' tk dd sb => wpAny_pure (wpAny_pure (wpAny_pure ?_)))
      obtain ⟨o', es', ep', hq, g2, g3, g4, _, g5⟩ := dd
      refine fin ps F2 H2 es' ep' _ x (d_write I2 (by rw [hH2]; exact True.intro) sb ⟨o', hq⟩ (rawO_ok ⟨o', hq, g2, g3⟩ nd)) ?_ wk hP
      rw [g4]
      exact ents_back q1 wk.ok
    · have tu : ∀ p ∈ ps, isTu p.1 = false := fun p hp => by have := List.all_eq_true.mp one p hp; simpa using this
      obtain ⟨ys, c, ry⟩ := carr_I (X := X) r rel ok' tu
      obtain ⟨q1, wk⟩ := all_I (X := X) ry .nil WK.nil ok' tu (fun _ h => nomatch h) (by rw [sizeLine_eq]; simp only [List.length_nil]; omega)
      refine wpAny_bind (wpAny_storeAll (knd := intKind X.prog X.w) us ys [] s2 _ c ⟨o, #[], 0, ho, hx, hd, (fun _ h => nomatch h), .nil, List.nodup_nil⟩ (by rw [← Paired.length ry, sizeLine_eq]; simp only [List.length_nil]; omega) fun h' dd sb => wpAny_pure (wpAny_pure (wpAny_pure ?_)))
      obtain ⟨o', es', ep', hq, g2, g3, g4, g5, _⟩ := dd
      refine fin ps F2 H2 es' ep' _ x (d_write I2 (by rw [hH2]; exact True.intro) sb ⟨o', hq⟩ (rawO_ok ⟨o', hq, g2, g3⟩ nd)) ?_ wk hP
      exact ents_yback q1 g5 fun e hm => g4 e (Array.mem_toList_iff.mp hm)
  · exact absurd trivial hT
end
end DL

/-! DL, part zy: dicts told by tables of things. -/
namespace DL
open PySem
section
variable {α β : Type} [DecidableEq α] {ek : α → D} {ev : β → D}
def tabD (ek : α → D) (ev : β → D) (L : List (α × β)) : List (D × D) := L.map fun p => (ek p.1, ev p.2)
def tGet : List (α × β) → α → Option β
  | [], _ => none
  | p :: r, k => if p.1 = k then some p.2 else tGet r k
def tPut : List (α × β) → α → β → List (α × β)
  | [], k, v => [(k, v)]
  | p :: r, k, v => if p.1 = k then (k, v) :: r else p :: tPut r k v
theorem dGetK_tab (inj : ∀ a b, ek a = ek b → a = b) (k : α) : ∀ L : List (α × β), dGetK (tabD ek ev L) (ek k) = (tGet L k).map ev
  | [] => rfl
  | p :: r => by
    have ih := dGetK_tab inj k r
    show (if ek p.1 = ek k then some (ev p.2) else dGetK (tabD ek ev r) (ek k)) = Option.map ev (if p.1 = k then some p.2 else tGet r k)
    by_cases e : p.1 = k
    · rw [if_pos e, if_pos (by rw [e])]; rfl
    · rw [if_neg e, if_neg fun z => e (inj _ _ z), ih]
theorem dPutK_tab (inj : ∀ a b, ek a = ek b → a = b) (k : α) (v : β) : ∀ L : List (α × β), dPutK (tabD ek ev L) (ek k) (ev v) = tabD ek ev (tPut L k v)
  | [] => rfl
  | p :: r => by
    have ih := dPutK_tab inj k v r
    show (if ek p.1 = ek k then (ek k, ev v) :: tabD ek ev r else (ek p.1, ev p.2) :: dPutK (tabD ek ev r) (ek k) (ev v)) = tabD ek ev (if p.1 = k then (k, v) :: r else p :: tPut r k v)
    by_cases e : p.1 = k
    · rw [if_pos e, if_pos (by rw [e])]; rfl
    · rw [if_neg e, if_neg fun z => e (inj _ _ z), ih]; rfl
theorem kFit_tab (t : Bool) (hk : ∀ a, kOk (ek a) = true) (ht : ∀ a, isTu (ek a) = t) (L : List (α × β)) (k : α) : kFit (tabD ek ev L) (ek k) := by
  refine ⟨hk k, fun p hp => ?_⟩
  obtain ⟨q, _, rfl⟩ := List.mem_map.mp hp
  rw [ht k]
  exact ht q.1
theorem tabD_keys (L : List (α × β)) : (tabD ek ev L).map (·.1) = (L.map (·.1)).map ek := by
  unfold tabD
  rw [List.map_map, List.map_map]
  rfl
theorem tabD_length (L : List (α × β)) : (tabD ek ev L).length = L.length := List.length_map ..
theorem tGet_mem {k : α} {v : β} : ∀ {L : List (α × β)}, tGet L k = some v → (k, v) ∈ L
  | [], h => nomatch h
  | p :: r, h => by
    unfold tGet at h
    split at h
    · rename_i e
      cases h
      rw [← e]
      exact List.mem_cons_self ..
    · exact List.mem_cons_of_mem _ (tGet_mem h)
theorem tGet_of {k : α} {v : β} : ∀ {L : List (α × β)}, (L.map (·.1)).Nodup → (k, v) ∈ L → tGet L k = some v
  | [], _, h => nomatch h
  | p :: r, nd, h => by
    rw [List.map_cons, List.nodup_cons] at nd
    unfold tGet
    rcases List.mem_cons.mp h with rfl | h
    · rw [if_pos rfl]
    · rw [if_neg fun e => nd.1 (List.mem_map.mpr ⟨(k, v), h, e.symm⟩)]
      exact tGet_of nd.2 h
theorem tGet_none {k : α} : ∀ {L : List (α × β)}, tGet L k = none ↔ k ∉ L.map (·.1)
  | [] => by simp [tGet]
  | p :: r => by
    have ih := tGet_none (k := k) (L := r)
    unfold tGet
    rw [List.map_cons, List.mem_cons]
    by_cases e : p.1 = k
    · rw [if_pos e]
      exact ⟨(fun h => nomatch h), fun h => (h (.inl e.symm)).elim⟩
    · rw [if_neg e, ih]
      exact ⟨fun h z => z.elim (fun z => e z.symm) h, fun h z => h (.inr z)⟩
theorem tPut_keys {k j : α} {v : β} : ∀ {L : List (α × β)}, j ∈ (tPut L k v).map (·.1) ↔ j = k ∨ j ∈ L.map (·.1)
  | [] => by simp [tPut]
  | p :: r => by
    have ih := tPut_keys (k := k) (j := j) (v := v) (L := r)
    unfold tPut
    by_cases e : p.1 = k
    · rw [if_pos e, List.map_cons, List.map_cons, List.mem_cons, List.mem_cons, e]
      exact ⟨fun h => h.elim .inl fun z => .inr (.inr z), fun h => h.elim .inl fun z => z.elim .inl .inr⟩
    · rw [if_neg e, List.map_cons, List.map_cons, List.mem_cons, List.mem_cons, ih]
      exact ⟨fun h => h.elim (fun z => .inr (.inl z)) fun z => z.elim .inl fun z => .inr (.inr z), fun h => h.elim (fun z => .inr (.inl z)) fun z => z.elim .inl fun z => .inr (.inr z)⟩
theorem tPut_nodup {k : α} {v : β} : ∀ {L : List (α × β)}, (L.map (·.1)).Nodup → ((tPut L k v).map (·.1)).Nodup
  | [], _ => by simp [tPut]
  | p :: r, nd => by
    have nd' := nd
    rw [List.map_cons, List.nodup_cons] at nd'
    unfold tPut
    by_cases e : p.1 = k
    · rw [if_pos e, List.map_cons, List.nodup_cons]
      exact ⟨by rw [← e]; exact nd'.1, nd'.2⟩
    · rw [if_neg e, List.map_cons, List.nodup_cons, tPut_keys]
      exact ⟨fun h => h.elim e nd'.1, tPut_nodup nd'.2⟩
theorem tGet_put {k j : α} {v : β} : ∀ {L : List (α × β)}, tGet (tPut L k v) j = if k = j then some v else tGet L j
  | [] => rfl
  | p :: r => by
    have ih := tGet_put (k := k) (j := j) (v := v) (L := r)
    unfold tPut
    by_cases e : p.1 = k
    · rw [if_pos e]
      show (if k = j then some v else tGet r j) = if k = j then some v else (if p.1 = j then some p.2 else tGet r j)
      by_cases ej : k = j
      · rw [if_pos ej, if_pos ej]
      · rw [if_neg ej, if_neg ej, if_neg fun z => ej (e.symm.trans z)]
    · rw [if_neg e]
      show (if p.1 = j then some p.2 else tGet (tPut r k v) j) = if k = j then some v else (if p.1 = j then some p.2 else tGet r j)
      by_cases ej : p.1 = j
      · rw [if_pos ej, if_pos ej, if_neg fun z => e (ej.trans z.symm)]
      · rw [if_neg ej, if_neg ej, ih]
end
theorem iD_inj {a b : Nat} (h : iD a = iD b) : a = b := by
  injection h with h
  exact Int.ofNat.inj h
theorem lst_inj {α : Type} {f : α → D} (inj : ∀ a b, f a = f b → a = b) : ∀ {xs ys : List α}, xs.map f = ys.map f → xs = ys
  | [], [], _ => rfl
  | [], _ :: _, h => by simp at h
  | _ :: _, [], h => by simp at h
  | x :: xs, y :: ys, h => by
    rw [List.map_cons, List.map_cons] at h
    injection h with h1 h2
    rw [inj _ _ h1, lst_inj inj h2]
theorem tD_inj {a b : List Nat} (h : tD a = tD b) : a = b := by
  injection h with h
  exact lst_inj (fun _ _ => iD_inj) h
theorem kIn_iD (n x : Nat) : kIn n (iD x) = true := by unfold kIn; rfl
theorem kOk_tD (l : List Nat) : kOk (tD l) = true := by
  show (l.map iD).all (kIn 7) = true
  rw [List.all_map, List.all_eq_true]
  exact fun x _ => kIn_iD 7 x
theorem kOk_ttD (tb : List (List Nat)) : kOk (.tuple (tb.map tD)) = true := by
  show (tb.map tD).all (kIn 7) = true
  rw [List.all_map, List.all_eq_true]
  intro l _
  show (l.map iD).all (kIn 6) = true
  rw [List.all_map, List.all_eq_true]
  exact fun x _ => kIn_iD 6 x
theorem ttD_inj {a b : List (List Nat)} (h : PyData.tuple (a.map tD) = .tuple (b.map tD)) : a = b := by
  injection h with h
  exact lst_inj (fun _ _ => tD_inj) h
end DL

set_option maxHeartbeats 4000000
/-! DL, part zz: an error class of the program: its __init__ says super().__init__(a text), then self.at = at. -/
namespace DL
open PySem PySem.Spec PySem.Calls PyProof.Rows L2

/-- an error class below ValueError whose __init__ is its own alone -/
structure ErrC (K : PySem.W.Frag) (C : Addr) : Prop where
  ox : OexC K C
  sup : PySem.W.ks_superIn K C C "__init__" = some (some (.builtin "ValueError.__init__"))
  ve : PySem.W.subIn K (.ref C) (.type "ValueError") = some true
  sf : PySem.W.mroIn K C (.ref C) = some true
  tp : PySem.W.nsIn K cStatics "thirdparty.any" = some none
  noat : PySem.W.findIn K (.ref C) "at" = some none
/-- what super() looks at -/
structure SupC (P : Program) (K : PySem.W.Frag) (f cda cc C : Addr) : Prop where
  fn : ∃ (o : Obj) (fd : FuncData) (ar : Arg), K.lookup f = some o ∧ o.data = .func fd ∧ (fd.params.posonlyargs ++ fd.params.args).head? = some ar ∧ ar.arg = "self"
  code : ∃ (o : Obj) (vs : Array Value) (file : Str) (tf : Tok), K.lookup cda = some o ∧ o.data = .fields vs ∧ vs[2]? = some (.str file tf) ∧ ((P.main.file : Str) == file) = true
  cell : ∃ o : Obj, K.lookup cc = some o ∧ o.data = .cell (some (.ref C))
  top : (P.main.scope.names.lookup ("super" : Str)).isSome = false
theorem boot_super : bootBuiltins "super" = some (.type "super") := by decide +kernel

theorem super_init {X : Cx} {pins : List (Addr × Obj)} {σ : L2.St} {H : Hp} {s : Shared} {a C f cda cc : Addr} {body : List Stmt} {p0 p1 p2 p3 pos : Pos} {j : Nat} {m : Str} {Q : Value → Shared → Prop}
    (EC : ErrC X.K C) (SC : SupC X.prog X.K f cda cc C) (hfu : X.env.func = some f) (hco : X.env.code = .ref cda) (hcl : X.env.cells.lookup ("__class__" : Str) = some cc)
    (hks : X.env.kindOf "super" = some .globalImplicit) (hkc : X.env.kindOf "__class__" = some .free) (hksf : X.env.kindOf "self" = some .local) (hmg : X.mg "super" = none)
    (I : Inv X pins σ H s) (i : Nat) (hi : X.N[i]? = some ("self" : Str)) (hσ : σ[i]? = some (some (.ref a))) (ea : H a = some (exo a C none))
    (h : ∀ s', Inv X pins σ H s' → Q .none s') {pl : Sem Bool}
    (he : eval (.Call (.Attribute (.Call (.Name "super" p0) [] [] p1) "__init__" p2) [.Constant (.str m) j p3] [] pos) X.env = (do
      let ov ← attributeBase (.Call (.Name "super" p0) [] [] p1) "__init__" X.env (eval (.Call (.Name "super" p0) [] [] p1) X.env)
      standAt p2.atName
      let (f, first) ← holding [ov] (getMethod ov "__init__" pl)
      callWith pos f first (backTo pos (starEach [.Constant (.str m) j p3] X.env)) []) := by rfl) :
    _root_.PySem.wpAt (model X.prog X.w) X.A (.func body X.env) (eval (.Call (.Attribute (.Call (.Name "super" p0) [] [] p1) "__init__" p2) [.Constant (.str m) j p3] [] pos) X.env) Q X.xe s := by
  obtain ⟨of, fd, ar, f1, f2, f3, f4⟩ := SC.fn
  obtain ⟨oc, vs, file, tf, c1, c2, c3, c4⟩ := SC.code
  obtain ⟨ol, l1, l2⟩ := SC.cell
  obtain ⟨mb, hb1, hb2⟩ := I.mod.blt
  obtain ⟨ml, hns, hlook⟩ := I.loc
  obtain ⟨u, ru, lu⟩ := hlook i "self" (.ref a) hi hσ (.inl hksf)
  obtain rfl : u = Value.ref a := ru
  have hv : ml "self" = some (.ref a) := by
    rcases lu with ⟨_, e⟩ | ⟨k, _⟩
    · exact e
    · rcases k with k | k <;> (rw [hksf] at k; cases k)
  obtain ⟨nm, q, N, bs, bm, sn, sub, ab, col, dd, k0, k1, k2, k3, k5, hC, hbm⟩ := EC.ox.cls
  obtain ⟨t0, hoe⟩ := exo_at I.hok ea
  have KI := I.kIn
  refine PySem.ks_wpAt_MethodCall ?_ he
  refine PySem.ks_wpAt_super_base hks hkc (by decide) hfu (KI _ _ f1) f2 f3 hco (KI _ _ c1) c2 c3 c4 SC.top ?_
  refine PySem.W.ks_loadName_global I.ok.kind hks (loadGlobal_builtin (by rw [I.ok.glob]; exact I.mod.glob.keeps I.bk) hmg (by rw [I.ok.blt]; exact hb1.keeps I.bk) ((hb2 "super" (by decide)).trans boot_super) ⟨rfl, ?_⟩)
  refine wpAny_loadName_free I.ok.kind hkc hcl ⟨_, KI _ _ l1, l2⟩ ?_
  rw [f4]
  refine wpAny_loadName_local I.ok.kind hksf hns hv ?_
  refine PySem.ks_wpAny_isType_cls (KI _ _ hC) rfl ⟨rfl, ?_⟩
  have hmro : PySem.W.clsIn X.K C = some { name := nm, bases := bs, mro := .ref C :: bm, ns := N, qualname := q, hasDict := true, slotNames := sn, subclasses := sub, abstract := ab, collection := col, hasDel := false } := by unfold PySem.W.clsIn; rw [hC] <;> rfl
  obtain ⟨hp, g, d, tk, os⟩ := s
  refine PySem.ks_wpAny_call_super (KI _ _ hC) rfl hoe rfl (fun _ z => by cases z) (PySem.W.looks_mroIn KI EC.sf) fun h1 e1 k1' => ?_
  have I1 : Inv X pins σ H ⟨h1, g, d, tk, os⟩ := I.kept (t' := tk) k1'
  have al : PySem.W.alongIn X.K "__init__" (((Value.ref C :: bm).dropWhile (· != .ref C)).drop 1) = some (some (.builtin "ValueError.__init__")) := by
    have z := EC.sup
    unfold PySem.W.ks_superIn at z
    rw [hmro] at z
    exact z
  have IA : PySem.W.InstAt h1 a ({ cls := .ref C, data := .fields #[.ref t0, .none, .none, .none, .bool false, .none] } : Obj) C none := ⟨k1' _ _ hoe, rfl, rfl, trivial⟩
  refine PySem.W.kxs_getMethod PySem.W.kxs_ValueError e1 (PySem.W.looks_opaque I1.kIn EC.tp) (l₀ := Value.ref C :: bm) (fun A Q E s k q => wpAny_bind ((PySem.W.looks_clsIn I1.kIn hmro) A _ E s k (wpAny_pure q))) rfl I1.kIn al (IA.type.andThen (PySem.W.looks_subIn I1.kIn EC.ve)) (PySem.W.ks_ne I1.kIn IA hmro) (by decide) ?_
  generalize hmw : PySem.W.kxs_mw "ValueError.__init__" a = mw
  have I2 : Inv X pins σ H ⟨h1.push mw, g, d, tk + 1, os⟩ := I1.kept (t' := tk + 1) fun b o z => Heap.get?_push_of_some _ z
  have eu : (h1.push mw).get? h1.objs.size = some mw := Heap.get?_push_at rfl (by subst hmw; rfl)
  have I3 : Inv X (pins ++ [(h1.objs.size, mw)]) σ H ⟨h1.push mw, g, d, tk + 1, os⟩ := I2.pins_of fun p hp => by
    rcases List.mem_append.mp hp with hp | hp
    · exact I2.pin p (List.mem_append_right _ hp)
    · obtain rfl := List.mem_singleton.mp hp
      refine ⟨eu, I1.hok.fresh (Nat.le_refl _), fun z => ?_, fun z => ?_, fun v z => ?_⟩
      · obtain ⟨m1, ⟨o1, _, _, ho1, _⟩, _⟩ := I1.loc
        have := Heap.lt_size ho1
        rw [← z] at this
        exact absurd this (Nat.lt_irrefl _)
      · obtain ⟨_, o2, ho2, _⟩ := I1.ok.funs.mem z
        obtain ⟨o3, ho3⟩ := I1.base.there _ _ ho2 fun w => I1.ok.exfs _ w z
        exact absurd (Heap.lt_size ho3) (Nat.lt_irrefl _)
      · subst hmw
        cases z
  have hst : starEach [.Constant (.str m) j p3] X.env = [(false, eval (.Constant (.str m) j p3) X.env)] := by rfl
  have ha := ((pa_cons (pe_str (X := X) (x := m) (j := j) (pos := p3)) pa_nil hst).run pos (pins ++ [(h1.objs.size, mw)]) ⟨h1.push mw, g, d, tk + 1, os⟩ σ H (fun vs H' => vs = [.str m] ∧ H' = H) I3 ⟨rfl, rfl⟩)
  show wpAny _ _ (callWith pos (.ref h1.objs.size) [] (backTo pos (starEach [.Constant (.str m) j p3] X.env)) []) _ _ _
  rw [hst] at ha ⊢
  refine PySem.W.kxs_callWith (i := "ValueError.__init__") (x := a) rfl (evalArgs_plain (thn ha fun us s3 ⟨vs3, H3, I4, r4, e4, e5⟩ => ?_))
  subst e4
  have e6 := e5.symm
  subst e6
  obtain ⟨h3, g3, d3, t3, os3⟩ := s3
  have eu3 : h3.get? h1.objs.size = some mw := (I4.pin (h1.objs.size, mw) (by simp)).1
  refine ⟨by subst hmw; exact eu3, ?_⟩
  have hus : us.length ≤ sizeLine := by
    rw [← r4.length, sizeLine_eq]
    simp
  obtain ⟨t4, ho4⟩ := exo_at I4.hok ea
  show wpAny _ _ (call (.ref h1.objs.size) us) _ _ _
  refine wpAny_call (codeAny_of_tree ?_)
  show wpAny _ X.A.in1 (callAny (.ref h1.objs.size) ⟨us, []⟩) _ _ _
  simp only [callAny]
  refine wpAny_bind (wpAny_load eu3 ?_)
  subst hmw
  simp only [PySem.W.kxs_mw, show (Value.type "method-wrapper" == Value.type "method" || Value.type "method-wrapper" == Value.type "builtin_function_or_method" || Value.type "method-wrapper" == Value.type "method-wrapper") = true by decide, if_true]
  refine PySem.W.KFB.if_so (by decide) ?_
  have FB := F.excBase_ValueError
  refine wpAny_bind (PySem.W.check_bound_init FB.toExcCallFacts (I4.kIn _ _ hC) ho4 rfl ?_)
  refine wpAny_bind (wpAny_pure (wpAny_pure ?_))
  refine ⟨plainId_quiet FB.init.plain _, codeAny_builtin FB.initEntry ?_⟩
  refine PySem.W.exc_init_tree (cls := .ref C) (t0 := t4) (dv := none) (c2 := .none) (c3 := .none) (b4 := .bool false) ho4 hus fun h' k5' e5' _ => ?_
  have J := (I4.unpinned).write (t' := t3) (x := a) (e := a) (o := exo a C none) (by rw [ea]; exact True.intro) (.inl rfl) k5' ⟨_, e5'⟩ (exo_ok e5')
  have euh : upd H a (exo a C none) = H := by
    funext b
    by_cases hb : b = a
    · rw [hb, upd_same, ea]
    · rw [upd_ne hb]
  rw [euh] at J
  exact h _ J

/-! ### the __init__ as a def -/
abbrev errScope : Scope := { kind := .function, names := [("self", .local), ("at", .local), ("__class__", .free), ("super", .globalImplicit)], isGenerator := false, isCoroutine := false, more := [] }
def errBody (m : Str) (p0 p1 p2 p3 p4 p5 p6 p7 p8 p9 : Pos) (j : Nat) : List Stmt :=
  [.Expr (.Call (.Attribute (.Call (.Name "super" p0) [] [] p1) "__init__" p2) [.Constant (.str m) j p3] [] p4) p5, .Assign [.Attribute (.Name "self" p6) "at" p7] (.Name "at" p8) p9]
def spErr (K : PySem.W.Frag) (C : Addr) : Sp := fun vs H Q _ => ∃ (a : Addr) (y : V), vs = [.ref a, y] ∧ H a = some (exo a C none) ∧ ∀ dx, H dx = none → dx ≠ a → Q .non (upd (upd H dx (exd dx [("at", y)])) a (exo a C (some dx)))
def errCx (P : Program) (w : World) (K : PySem.W.Frag) (mg : Str → Option Value) (base : Heap) (qual : Str) (f cda cc : Addr) (A : Around) (outer : List PySem.Env) (s : Shared) (H : Hp) (E : XK) : Cx where
  prog := P
  w := w
  K := K
  mg := mg
  base := base
  A := A.deeper (PySem.W.ksEnv qual errScope s.heap.objs.size f (.ref cda) cc)
  N := ["self", "at"]
  s_0 := s
  H_0 := H
  env := PySem.W.ksEnv qual errScope s.heap.objs.size f (.ref cda) cc
  outer := outer
  stack := PySem.W.ksEnv qual errScope s.heap.objs.size f (.ref cda) cc :: outer
  ex := []
  calm := true
  fn := fun x => x != "__class__"
  pn := []
  xe := fun e s' => wpAny (model P w) (A.deeper (PySem.W.ksEnv qual errScope s.heap.objs.size f (.ref cda) cc)) (leaving (PySem.W.ksEnv qual errScope s.heap.objs.size f (.ref cda) cc) e) (fun _ s'' => L2.CX P w outer H s E e s'') (fun e' s'' => L2.CX P w outer H s E e' s'') s'
theorem lkp {α : Type} (f g : Str) (y : α) (fs : List (Str × α)) : ((f, y) :: fs).lookup g = if g = f then some y else fs.lookup g := by
  by_cases h : g = f
  · subst h
    simp [List.lookup]
  · have e : (g == f) = false := by simpa using h
    rw [if_neg h]
    simp [List.lookup, e]
theorem errNames (x : Str) : errScope.names.lookup x = some .cell ∨ errScope.names.lookup x = some .free → x = "__class__" := by
  intro h
  have e : errScope.names.lookup x = if x = "self" then some .local else if x = "at" then some .local else if x = "__class__" then some .free else if x = "super" then some .globalImplicit else none := by
    show List.lookup x [(("self" : Str), NameKind.local), (("at" : Str), NameKind.local), (("__class__" : Str), NameKind.free), (("super" : Str), NameKind.globalImplicit)] = _
    rw [lkp, lkp, lkp, lkp]
    rfl
  rw [e] at h
  by_cases c : x = "__class__"
  · exact c
  · exfalso
    repeat (split at h <;> try simp_all)

theorem inv_err {P : Program} {w : World} {K : PySem.W.Frag} {mg : Str → Option Value} {base : Heap} {qual : Str} {C f cda cc a : Addr} {A : Around} {outer : List PySem.Env} {s : Shared} {H : Hp} {E : XK} {h1 : Heap} {tk : Nat} {y : V} {uy : Value}
    (SC : SupC P K f cda cc C) (hd : A.handled = none) (e0 : Env0 P w K mg base A outer s H) (ry : RelV y uy) (hns : h1.Ns s.heap.objs.size (fun x => [(("self" : Str), Value.ref a), (("at" : Str), uy)].reverse.lookup x)) (hk : ∀ b o, s.heap.get? b = some o → h1.get? b = some o) :
    Inv (errCx P w K mg base qual f cda cc A outer s H E) [] [some (.ref a), some y] H { s with heap := h1, toks := tk } := by
  obtain ⟨ol, l1, l2⟩ := SC.cell
  have lcb := e0.mod.kin _ _ l1
  have cel : ∀ x c, (errCx P w K mg base qual f cda cc A outer s H E).env.cells.lookup x = some c → x = "__class__" ∧ c = cc := fun x c h => by
    have h' : List.lookup x [(("__class__" : Str), cc)] = some c := h
    rw [lkp] at h'
    split at h'
    · rename_i e
      exact ⟨e, (Option.some.inj h').symm⟩
    · cases h'
  have noA : ∀ b : Addr, b ∉ (errCx P w K mg base qual f cda cc A outer s H E).ex := fun b z => absurd (show b ∈ ([] : List Addr) from z) (by simp)
  refine ⟨⟨e0.mod, rfl, rfl, rfl, Nat.le_refl _, fun y z c h1 h2 => (cel _ _ h1).1.trans (cel _ _ h2).1.symm, fun y hy => ⟨cc, ?_⟩, fun y c q h => ?_, fun _ => hd, Around.frames_deeper e0.frames, .inr ⟨rfl, rfl⟩, fun b z => absurd z (noA b), e0.bs, e0.bsz, fun b _ _ => noA b, fun b z => absurd z (noA b), e0.funs, e0.frf⟩,
    rfl, e0.bare, Un.kept hk, ⟨_, hns, fun i x v h1 h2 h3 => ?_⟩, fun y c h => ?_, e0.hok.fresh (Nat.le_refl _), fun y c h => ?_, fun p hp => absurd (show p ∈ ([] : List (Addr × Obj)) from hp) (by simp), e0.hok.kept hk, rfl⟩
  · obtain rfl := errNames y hy
    rfl
  · have q' : (y != "__class__") = true := q
    rw [(cel _ _ h).1] at q'
    simp at q'
  · match i, h1, h2 with
    | 0, h1, h2 =>
      cases h1
      cases h2
      exact ⟨.ref a, rfl, .inl ⟨rfl, rfl⟩⟩
    | 1, h1, h2 =>
      cases h1
      cases h2
      exact ⟨uy, ry, .inl ⟨rfl, rfl⟩⟩
    | (i + 2), h1, _ => cases h1
  · rw [(cel _ _ h).2]
    exact ⟨_, ol, hk _ _ (e0.bs _ _ lcb).1, l2⟩
  · rw [(cel _ _ h).2]
    exact (e0.bs _ _ lcb).2
theorem ok_err {P : Program} {w : World} {K : PySem.W.Frag} {mg : Str → Option Value} {base : Heap} {qual : Str} {C f cda cc : Addr} {params : Arguments} {m : Str} {p0 p1 p2 p3 p4 p5 p6 p7 p8 p9 : Pos} {j : Nat} {dV kV doc pm ct oc : Value} {an od : Option Addr} {osl : Array (Option Value)} {pl : Sem Bool}
    (EC : ErrC K C) (SC : SupC P K f cda cc C) (lk : K.lookup f = some ⟨oc, od, .func (PySem.W.ksFn "__init__" qual params (errBody m p0 p1 p2 p3 p4 p5 p6 p7 p8 p9 j) errScope dV kV doc pm an (.ref cda) ct cc), osl⟩) (hcd : PySem.W.codeIn K (.ref cda) qual = true) (hmg : mg "super" = none)
    (he : ∀ L, eval (.Call (.Attribute (.Call (.Name "super" p0) [] [] p1) "__init__" p2) [.Constant (.str m) j p3] [] p4) (PySem.W.ksEnv qual errScope L f (.ref cda) cc) = (do
      let ov ← attributeBase (.Call (.Name "super" p0) [] [] p1) "__init__" (PySem.W.ksEnv qual errScope L f (.ref cda) cc) (eval (.Call (.Name "super" p0) [] [] p1) (PySem.W.ksEnv qual errScope L f (.ref cda) cc))
      standAt p2.atName
      let (ff, first) ← holding [ov] (getMethod ov "__init__" pl)
      callWith p4 ff first (backTo p4 (starEach [.Constant (.str m) j p3] (PySem.W.ksEnv qual errScope L f (.ref cda) cc))) []) := by intro _; rfl)
    (hs1 : ∀ L, swapsWith (.Call (.Attribute (.Call (.Name "super" p0) [] [] p1) "__init__" p2) [.Constant (.str m) j p3] [] p4) none p5.line (PySem.W.ksEnv qual errScope L f (.ref cda) cc) = pure false := by intro _; rfl)
    (hs2 : ∀ L, swapsWith (.Name "at" p8) (some (.Attribute (.Name "self" p6) "at" p7)) p9.line (PySem.W.ksEnv qual errScope L f (.ref cda) cc) = pure false := by intro _; rfl) :
    FnOk P w K mg base (L2.CX P w) 1 f (PySem.W.ksFn "__init__" qual params (errBody m p0 p1 p2 p3 p4 p5 p6 p7 p8 p9 j) errScope dV kV doc pm an (.ref cda) ct cc) ["self", "at"] (spErr K C) := by
  refine ⟨fun vs H Q E ⟨a, y, e, _⟩ => by rw [e]; rfl, fun A outer s H args us vs Q E hr e0 hb r hsp => ?_⟩
  obtain ⟨a, y, rfl, ea, hq⟩ := hsp
  obtain ⟨ua, uy, rfl, ra, ry⟩ : ∃ ua uy, us = [ua, uy] ∧ RelV (.ref a) ua ∧ RelV y uy := by
    cases r with
    | cons r1 r => cases r with
      | cons r2 r => cases r; exact ⟨_, _, rfl, r1, r2⟩
  obtain rfl : ua = Value.ref a := ra
  have KX : K.In s.heap := e0.mod.kin.keeps fun b o e => (e0.bs b o e).1
  have lim : s.heap.NoLimit := e0.mod.nolimit.keeps fun b o e => (e0.bs b o e).1
  refine PySem.ks_codeAny_call_defAt (fd := PySem.W.ksFn "__init__" qual params (errBody m p0 p1 p2 p3 p4 p5 p6 p7 p8 p9 j) errScope dV kV doc pm an (.ref cda) ct cc) (body := errBody m p0 p1 p2 p3 p4 p5 p6 p7 p8 p9 j) (binds := [("self", .ref a), ("at", uy)])
    (by have := hr.dp; omega) (KX _ _ lk) rfl lim (PySem.W.codeRec_of KX hcd) rfl hb (show ∀ x ∈ errScope.names, x.2 ≠ .cell by decide) (fun x hx => ?_) (fun h1 hns hk => ?_)
  · rcases List.mem_cons.mp hx with rfl | hx
    · rfl
    · obtain rfl := List.mem_singleton.mp hx
      rfl
  have I := inv_err (w := w) (mg := mg) (qual := qual) (E := E) (tk := s.toks + 2) SC hr.hd e0 ry hns hk
  show _root_.PySem.wpAt (model P w) (A.deeper (PySem.W.ksEnv qual errScope s.heap.objs.size f (.ref cda) cc)) (.func (errBody m p0 p1 p2 p3 p4 p5 p6 p7 p8 p9 j) (PySem.W.ksEnv qual errScope s.heap.objs.size f (.ref cda) cc)) (execs (errBody m p0 p1 p2 p3 p4 p5 p6 p7 p8 p9 j) (PySem.W.ksEnv qual errScope s.heap.objs.size f (.ref cda) cc)) _ _ _
  refine PySem.ks_wpAt_execs_cons (PySem.ks_wpAt_Expr_any (super_init (X := errCx P w K mg base qual f cda cc A outer s H E) EC SC rfl rfl rfl rfl rfl rfl hmg I 0 rfl rfl ea (fun s2 J => ?_) (he _)) rfl (hs1 _))
  refine PySem.wpAt_of_wpAny ?_
  have hps : PS (errCx P w K mg base qual f cda cc A outer s H E) (.Assign [.Attribute (.Name "self" p6) "at" p7] (.Name "at" p8) p9) (tOst K "at" (tVar 0) (tVar 1)) :=
    ps_ost (pe_var rfl (.inl rfl)) (pe_var rfl (.inl rfl)) (hs2 _)
  refine wpAny_mono ((pss_one hps).run [] s2 _ H { nx := fun _ H' => Q .non H', rt := Q } J ⟨y, rfl, .ref a, rfl, a, C, rfl, EC.ox, EC.noat, .inl ⟨ea, hq⟩⟩) (fun fl s' hs => ?_) fun e s' hs => hs
  have fin : ∀ {σ' : L2.St} {H' : Hp} {v : V} {u : Value}, Inv (errCx P w K mg base qual f cda cc A outer s H E) [] σ' H' s' → RelV v u → Q v H' → CE outer P w H s Q u s' :=
    fun {σ' H' v u} J rv q => ⟨v, H', J.os, J.bare, J.base, J.hok, rv, q⟩
  cases fl with
  | ret u =>
    obtain ⟨v, σ', H', J, rv, q⟩ := hs
    exact fin J rv q
  | next =>
    obtain ⟨σ', H', J, q⟩ := hs
    exact fin (v := V.non) (u := Value.none) J rfl q
  | brk =>
    obtain ⟨_, _, _, q⟩ := hs
    exact False.elim q
  | cont =>
    obtain ⟨_, _, _, q⟩ := hs
    exact False.elim q
end DL

set_option maxHeartbeats 4000000
/-! DL, part zza: raise. -/
namespace DL
open PySem PySem.Spec PySem.Calls PyProof.Rows L2

/-- an error class that can be made -/
structure ErrM (P : Program) (w : World) (K : PySem.W.Frag) (mg : Str → Option Value) (base : Heap) (c : Str) : Prop where
  ex : ∃ (C fI : Addr) (fd : FuncData), mg c = some (.ref C) ∧ ErrC K C ∧ PySem.W.findIn K (.ref C) "__init__" = some (some (.ref fI)) ∧ PySem.W.typeIn K (.ref fI) = some (.type "function") ∧
    FnOk P w K mg base (L2.CX P w) 1 fI fd ["self", "at"] (spErr K C) ∧ Binds K fd ["self", "at"] []
theorem passE {X : Cx} : Passes (L2.CX X.prog X.w) X (fun _ _ _ => False) := fun _ _ _ _ _ _ _ h => by
  obtain ⟨_, _, _, _, _, _, _, _, _, _, _, _, z⟩ := h
  exact z.elim
theorem wrs_one {K : PySem.W.Frag} {dm : DM} {F H : Hp} {a : D} : ∀ {vs : List V} {fp : List Addr}, WRs K dm F H [.fz a] vs fp → ∃ v, vs = [v] ∧ Dp K F v a
  | _, _, .cons (.fz h) .nil => ⟨_, rfl, h⟩
/-- raise c(e) -/
def dRaise (c : Str) (t : TWs) : TSd := fun E env => t env fun ws => match ws with
  | [.fz a] => E.ex env c a
  | _ => False
theorem ds_raise {X : Cx} {c : Str} {e : Expr} {t : TWs} {p pos pos' : Pos} (M : ErrM X.prog X.w X.K X.mg X.base c) (hr : Room 2 X.A) (hg : Gl X c) (ha : DAg X [e] t) (hdb : (c == ("__debug__" : Str)) = false := by decide) (hc : X.calm = true := by rfl)
    (he : starEach [e] X.env = (false, eval e X.env) :: starEach [] X.env := by rfl) (hpl : (backTo pos (starEach [] X.env)).any (·.1) = false := by rfl) : DS X (.Raise (some (.Call (.Name c p) [e] [] pos)) none pos') (dRaise c t) := by
  intro WW tk
  obtain ⟨C, fI, fd, hm, EC, iC, tI, F1, hb⟩ := M.ex
  refine ps_mono (ps_raise hc tk (pmk_oex EC.ox iC tI F1 hr hb .nil passE hg hm ha hdb he hpl)) fun D σ H ⟨A, E, env, F, ow, dm, S, q, k⟩ => ?_
  refine ⟨env, F, ow, dm, _, S.x, q, fun ws hw hl vs F1 H1 x r => ?_⟩
  match ws, hw, r with
  | [.fz a0], hw, r =>
    obtain ⟨v, rfl, r0⟩ := wrs_one r
    refine ⟨by simp, fun a ha => ⟨a, v, rfl, upd_same, fun dx hdx ne => ⟨rfl, dx, [("at", v)], upd_same, by rw [upd_ne ne, upd_same], ?_, ?_⟩⟩⟩
    · rw [upd_ne ne] at hdx; exact hdx
    · rw [upd_ne ne] at hdx
      have eH : upd (del (upd (upd (upd H1 a (exo a C none)) dx (exd dx [("at", v)])) a (exo a C (some dx))) a) dx (.xd [("at", v)]) = upd H1 dx (.xd [("at", v)]) := by
        funext b
        by_cases hb : b = dx
        · rw [hb, upd_same, upd_same]
        · rw [upd_ne hb, upd_ne hb]
          by_cases hba : b = a
          · rw [hba, del_same, ha]
          · rw [del_ne hba, upd_ne hba, upd_ne hb, upd_ne hba]
      rw [eH]
      have y := Ext.laid (o := .xd [("at", v)]) x.fh x.dl hdx
      exact k.ex env σ _ _ ow dm c a0 _ _ (S.ext (x.trans y)) hw ⟨hm, dx, v, rfl, upd_same, dp_same y.ff r0⟩
end DL

set_option maxHeartbeats 4000000
/-! DL, part zzb: defs that raise, and their calls. -/
namespace DL
open PySem PySem.Spec PySem.Calls PyProof.Rows L2

abbrev SpecX := List W → (W → Prop) → (Str → D → Prop) → Prop
def spX (K : PySem.W.Frag) (mg : Str → Option Value) (S : SpecX) : Sp := fun vs H Q E => ∃ ws F dm P R, Same F H ∧ (∀ p, dm = some p → DealAt F H p.1 p.2) ∧ WRs K dm F H ws vs [] ∧ S ws P R ∧ (∀ w, P w → Got K dm F H Q w) ∧
  ∀ c a, R c a → ∀ cls d F' H', Ext dm F H F' H' → ExAt K mg F' c a cls d → E cls d H'
abbrev bodyXX (P : Program) (w : World) (K : PySem.W.Frag) (mg : Str → Option Value) (base : Heap) (N : List Str) (qual : Str) (st : Stmt) (f : Addr) (cdv : Value) (A : Around) (outer : List PySem.Env) (s : Shared) (H : Hp) (E : XK) : Cx :=
  cxOf (L2.CX P w) P w K mg base N qual (defScope st) f cdv A outer s H E
section
variable {P : Program} {w : World} {K : PySem.W.Frag} {mg : Str → Option Value} {base : Heap}
/-- the rule for a def that may raise -/
theorem fn_X {x qual : Str} {st : Stmt} {f : Addr} {fd : FuncData} {N ps : List Str} {k : Nat} {S : SpecX} {t : TSd} (F : Fun K x qual st f fd) (sc : FnScope N ps (defScope st)) (len : ∀ ws P R, S ws P R → ws.length = ps.length)
    (hb : ∀ (cdv : Value) (A : Around) (outer : List PySem.Env) (s : Shared) (H : Hp) (E : XK), A.guards = some [] → Room k (bodyXX P w K mg base N qual st f cdv A outer s H E).A → DSs (bodyXX P w K mg base N qual st f cdv A outer s H E) (defBody st) t)
    (hs : ∀ ws Q R, S ws Q R → t { nx := fun _ => Q (.fz .none), rt := Q, ex := fun _ => R } (enter N ws)) : FnG P w K mg base (L2.CX P w) (k + 1) f fd ps (spX K mg S) := by
  obtain ⟨oc, od, kV, doc, pm, an, cdv, ct, osl, rfl, lk, hcd⟩ := F.ex
  refine fnG_of lk hcd sc (fun vs H Q E ⟨ws, F0, dm, Q0, R, _, _, r, h, _⟩ => by rw [wrs_length r]; exact len _ _ _ h) fun A outer s H vs Q E hg hr ⟨ws, F0, dm, Q0, R, hsm, hdl, r, h, k, kx⟩ =>
    ⟨_, hb cdv A outer s H E hg hr (fun cls d _ H' => E cls d H') (takes_of rfl rfl rfl rfl), ?_⟩
  refine ⟨⟨F0, H, F0, dm⟩, _, _, F0, _, dm, enter_ok hsm hdl r, hs ws Q0 R h, ⟨fun env σ F' H' ow dm' T q => ?_, fun w v F' H' fp x r nd fr q => k w q v F' H' fp x r nd fr, fun _ _ _ _ _ _ _ z => z.elim, fun _ _ _ _ _ _ _ z => z.elim, fun env σ F' H' ow dm' c a cls d T q e => kx c a q cls d F' H' T.anc e⟩⟩
  exact k _ q .non F' H' [] T.anc (.fz .non) List.nodup_nil (fun _ ha => nomatch ha)
end

/-! ### what may raise -/
abbrev TX := (Str → D → Prop) → Env → (W → Prop) → Prop
def lWX (K : PySem.W.Frag) (mg : Str → Option Value) (WW : WX) (t : TX) : TE := fun σ H Q => ∃ env F ow dm P R, SRx K env σ F H ow dm ∧ t R env P ∧ (∀ w, P w → Got K dm F H Q w) ∧
  ∀ c a, R c a → ∀ cls d F' H', Ext dm F H F' H' → ExAt K mg F' c a cls d → WW cls d σ H'
def DWX (X : Cx) (e : Expr) (t : TX) : Prop := ∀ WW, Takes X WW → PE X e (lWX X.K X.mg WW t)
section
variable {X : Cx} {k : Nat} {f : Addr} {fd : FuncData} {ps ks : List Str} {S : SpecX} {x : Str} {p pos : Pos} {e : Expr} {es : List Expr} {kws : List Keyword} {n1 : Nat} {π : List Nat} {t u : TWs}
/-- a raising def's call upon data -/
def dCallX (S : SpecX) (π : List Nat) (t u : TWs) : TX := fun R env Q => t env fun ws => u env fun zs => S (pick π (ws ++ zs)) Q R
theorem runGX {WW : WX} {pins : List (Addr × Obj)} {σ : L2.St} {H : Hp} {s : Shared} {Q : VK} {us : List Value} {vs : List V} (F : FnG X.prog X.w X.K X.mg X.base (L2.CX X.prog X.w) k f fd ps (spX X.K X.mg S)) (tk : Takes X WW) (hgd : X.A.guards = some []) (hr : Room k X.A) (hb : KBd fd ps n1 ks π)
    (I : Inv X pins σ H s) (r : Vals vs us) (hl : us.length = n1 + ks.length) (h : spX X.K X.mg S (pick π vs) H Q (fun cls d H' => WW cls d σ H')) : wpAny (model X.prog X.w) X.A (call (.ref f) (us.take n1) (ks.zip (us.drop n1))) (EP X pins σ Q) X.xe s := by
  refine wpAny_call (codeAny_mono (F.run X.A X.stack s H _ (pick π us) (pick π vs) Q _ hgd hr I.env0 (hb s us hl) (vals_pick r π) h) fun z s' hq => ?_)
  cases z with
  | error e => exact tk e s' (XE.of_call I (fun _ _ _ h => h) hq)
  | ok fl =>
    cases fl with
    | ret _ => exact I.after hq
    | next => exact hq.elim
    | brk => exact hq.elim
    | cont => exact hq.elim
theorem spX_of {K : PySem.W.Frag} {mg : Str → Option Value} {WW : WX} {σ : L2.St} {F H F2 H2 : Hp} {dm : DM} {Q : VK} {P : W → Prop} {R : Str → D → Prop} {ws : List W} {vs : List V} (x : Ext dm F H F2 H2) (r : WRs K dm F2 H2 ws vs []) (h : S ws P R) (k : ∀ w, P w → Got K dm F H Q w)
    (kx : ∀ c a, R c a → ∀ cls d F' H', Ext dm F H F' H' → ExAt K mg F' c a cls d → WW cls d σ H') : spX K mg S vs H2 Q (fun cls d H' => WW cls d σ H') :=
  ⟨ws, F2, dm, P, R, x.fh, x.dl, r, h, fun w hw => got_of x (k w hw), fun c a hR cls d F' H' y e => kx c a hR cls d F' H' (x.trans y) e⟩
theorem dwx_call (F : FnG X.prog X.w X.K X.mg X.base (L2.CX X.prog X.w) k f fd ps (spX X.K X.mg S)) (hgd : X.A.guards = some []) (hr : Room k X.A) (hm : X.mg x = some (.ref f)) (hk : PySem.W.keepIn X.K (.ref f) = true) (hb : KBd fd ps (e :: es).length [] π) (ha : DAg X (e :: es) t)
    (hg : Gl X x := by rfl) (hdb : (x == ("__debug__" : Str)) = false := by decide) (he : starEach (e :: es) X.env = (false, eval e X.env) :: starEach es X.env := by rfl) (hpl : (backTo pos (starEach es X.env)).any (·.1) = false := by rfl) :
    DWX X (.Call (.Name x p) (e :: es) [] pos) (dCallX S π t gsNil) := by
  intro WW tk
  refine ⟨fun pins s σ H Q I ⟨env, G, ow, dm, P, R, T, q, kk, kx⟩ => ?_⟩
  refine wpAny_Call_Name_kw (ld_glob I hg hm (PySem.W.callWith_K (h₀ := X.base) I.ok.mod.kin hk (thn (ha.run pos pins s σ H
    (fun vs H' => ∃ ws F', ws.length = (e :: es).length ∧ S (pick π (ws ++ [])) P R ∧ Ext dm G H F' H' ∧ WRs X.K dm F' H' ws vs []) I ?_) fun us s1 hh => ?_) he hpl) hdb)
  · exact ⟨env, G, ow, dm, _, T, q, fun ws hws hl vs F' H' x1 r1 => ⟨ws, F', hl, hws, x1, r1⟩⟩
  · obtain ⟨vs, H1, I1, r, ws, F', hl, hS, x1, r1⟩ := hh
    refine ⟨I1.kIn, ?_⟩
    rw [List.append_nil] at hS
    have hl2 : us.length = (e :: es).length := (lAg_len r1 r).trans hl
    have := runGX (ks := []) F tk hgd hr hb I1 r (by simpa using hl2) (spX_of x1 (wrs_pick r1 π) hS kk kx)
    rw [List.take_of_length_le (Nat.le_of_eq hl2)] at this
    exact this
theorem dwx_callK0 (F : FnG X.prog X.w X.K X.mg X.base (L2.CX X.prog X.w) k f fd ps (spX X.K X.mg S)) (hgd : X.A.guards = some []) (hr : Room k X.A) (hm : X.mg x = some (.ref f)) (hk : PySem.W.keepIn X.K (.ref f) = true) (hb : KBd fd ps 0 ks π) (hu : DKg X kws u) (hkl : ks.length = kws.length)
    (hall : (backToKw pos (keywordEach kws X.env)).all (·.1.isSome) = true := by rfl) (hks : (backToKw pos (keywordEach kws X.env)).filterMap (·.1) = ks := by rfl)
    (hpl : ((backTo pos (starEach [] X.env)).any (·.1) || (backToKw pos (keywordEach kws X.env)).any (·.1.isNone)) = false := by rfl) (hg : Gl X x := by rfl) (hdb : (x == ("__debug__" : Str)) = false := by decide) :
    DWX X (.Call (.Name x p) [] kws pos) (dCallX S π gsNil u) := by
  intro WW tk
  refine ⟨fun pins s σ H Q I ⟨env, G, ow, dm, P, R, T, q, kk, kx⟩ => ?_⟩
  refine wpAny_Call_Name_kw (ld_glob I hg hm (PySem.W.callWith_KW0 (h₀ := X.base) I.ok.mod.kin hk hall (thn (hu.run pos pins s σ H
    (fun vs H' => ∃ ws F', ws.length = kws.length ∧ S (pick π ([] ++ ws)) P R ∧ Ext dm G H F' H' ∧ WRs X.K dm F' H' ws vs []) I ?_) fun us s1 hh => ?_) hpl) hdb)
  · exact ⟨env, G, ow, dm, _, T, q, fun ws hws hl vs F' H' x1 r1 => ⟨ws, F', hl, hws, x1, r1⟩⟩
  · obtain ⟨vs, H1, I1, r, ws, F', hl, hS, x1, r1⟩ := hh
    refine ⟨I1.kIn, ?_⟩
    rw [List.nil_append] at hS
    have hl2 : us.length = 0 + ks.length := by rw [hkl, Nat.zero_add]; exact (lAg_len r1 r).trans hl
    have := runGX (n1 := 0) F tk hgd hr hb I1 r hl2 (spX_of x1 (wrs_pick r1 π) hS kk kx)
    rw [List.take_zero, List.drop_zero] at this
    rw [hks]
    exact this
/-- what doesn't raise -/
theorem dwx_of {t : TW} (h : DW X e t) : DWX X e (fun _ => t) := fun _ _ => pe_mono h fun σ H Q ⟨env, F, ow, dm, P, R, T, q, kk, _⟩ => ⟨env, F, ow, dm, P, T, q, kk⟩
end

/-! ### statements headed by it -/
section
variable {X : Cx} {e : Expr} {pos : Pos} {t : TX}
def dRetX (t : TX) : TSd := fun E env => t (E.ex env) env fun w => w.nd = true ∧ E.rt w
theorem ds_retX (he : DWX X e t) : DS X (.Return (some e) pos) (dRetX t) := fun WW tk =>
  ps_mono (ps_ret (he WW tk)) fun D σ H ⟨A, E, env, F, ow, dm, S, q, k⟩ => ⟨env, F, ow, dm, _, _, S.x, q, fun w ⟨hn, hw⟩ v F1 H1 fp x r nd fr => k.rt w v F1 H1 fp (S.ext x).anc (r.redm hn) nd (fun a ha => S.fresh (fr a ha)) hw,
    fun c a hR cls d F' H' x e => k.ex _ _ _ _ _ _ _ _ _ _ (S.ext x) hR e⟩
def dSetX (i : Nat) (t : TX) : TSd := fun E env => t (E.ex env) env fun w => E.nx (env.set i (some w))
theorem ds_setX (i : Nat) {x : Str} {p : Pos} (hN : X.N.Nodup) (he : DWX X e t) (hi : X.N[i]? = some x := by rfl) (hx : Loc X.env.scope x := by first | exact .inl rfl | exact .inr rfl)
    (hs : swapsWith e (some (.Name x p)) pos.line X.env = pure false := by rfl) (hf : X.fn x = true ∨ X.env.scope.names.lookup x = some .local := by first | exact .inl rfl | exact .inr rfl) : DS X (.Assign [.Name x p] e pos) (dSetX i t) := fun WW tk =>
  ps_mono (ps_set hN hi hx (he WW tk) hs hf) fun D σ H ⟨A, E, env, F, ow, dm, S, q, k⟩ => ⟨env, F, ow, dm, _, _, S.x, q, fun w hw v F1 H1 fp x r nd fr => k.nx _ _ _ _ _ _ (S.put x r nd fr) hw,
    fun c a hR cls d F' H' x e => k.ex _ _ _ _ _ _ _ _ _ _ (S.ext x) hR e⟩
def dDropX (t : TX) : TSd := fun E env => t (E.ex env) env fun _ => E.nx env
theorem ds_exprX (he : DWX X e t) (hs : swapsWith e none pos.line X.env = pure false := by rfl) : DS X (.Expr e pos) (dDropX t) := fun WW tk =>
  ps_mono (ps_expr (he WW tk) hs) fun D σ H ⟨A, E, env, F, ow, dm, S, q, k⟩ => ⟨env, F, ow, dm, _, _, S.x, q, fun w hw v F1 H1 fp x r nd fr => k.nx _ _ _ _ _ _ (S.ext x) hw,
    fun c a hR cls d F' H' x e => k.ex _ _ _ _ _ _ _ _ _ _ (S.ext x) hR e⟩
end
end DL

set_option maxHeartbeats 4000000
/-! DL, part zzc: try .. except. -/
namespace DL
open PySem PySem.Spec PySem.Calls PyProof.Rows L2

section
variable {X : Cx} {x n : Str} {i : Nat} {body suite : List Stmt} {b₀ : Stmt} {np pos pos' : Pos} {tb : TSd}
/-- try: .. except C: .., without a name; cs: the classes that it catches -/
def dTryO (cs : List Str) (tb ts : TSd) : TSd := fun E env => tb { E with ex := fun env' c' _ => c' ∈ cs ∧ ts { E with ex := fun _ _ _ => False } env' } env
theorem ds_tryO (cs : List Str) {ts : TSd} {C : Value} (hc : Names X x C) (hcs : ∀ c ∈ cs, ∃ v, X.mg c = some v ∧ PySem.W.exmOne X.K v C = some true)
    (hb : ∀ (pn : List (Addr × Obj)) (xe : Value → Shared → Prop), PassesOwn (model X.prog X.w) X.A X.env xe → DSs (X.tr pn xe) body tb)
    (hsu : ∀ (a : Addr) (pn : List (Addr × Obj)), DSs (X.suite a pn) (b₀ :: suite) ts)
    (hs : X.stack = X.env :: X.outer := by rfl) (hf : X.env.frame = some X.env.locals := by rfl) : DS X (.Try body [.ExceptHandler (some (.Name x np)) none (b₀ :: suite) pos'] [] [] pos) (dTryO cs tb ts) := by
  intro WW tk
  refine ps_mono (ps_try_only (tb := fun W => lS X.K X.mg W tb) (ts := fun _ _ _ => lS X.K X.mg (fun _ _ _ _ => False) ts) hs hf hc tk (fun W pn xe tk2 hp => hb pn xe hp W tk2) (fun a oe cls d pn _ _ => hsu a _ _ takes_no)) fun D σ H ⟨A, E, env, F, ow, dm, S, q, k⟩ => ?_
  refine ⟨A, _, env, F, ow, dm, S, q, ⟨k.nx, k.rt, k.bk, k.ct, fun env' σ' F' H' ow' dm' c' a' cls d S' ⟨hm, q'⟩ e => ?_⟩⟩
  obtain ⟨v, h1, h2⟩ := hcs c' hm
  obtain rfl : v = cls := Option.some.inj (h1.symm.trans e.1)
  exact ⟨true, h2, fun _ a _ => ⟨A, _, env', F', ow', dm', S', q', ⟨k.nx, k.rt, k.bk, k.ct, fun _ _ _ _ _ _ _ _ _ _ _ z => z.elim⟩⟩, fun z => by cases z⟩
end

/-! ### with a name -/
/-- a caught exception -/
def excW (a dx : Addr) (d : D) : Oth where
  rel := fun K F _ v fp => v = .ref a ∧ fp = [] ∧ ∃ u, F dx = some (.xd [("at", u)]) ∧ Dp K F u d
  still := true
  tag := none
  mono := fun s ⟨h1, h2, u, h3, h4⟩ _ => ⟨h1, h2, u, s _ _ h3, dp_same s h4⟩
  there := fun ⟨_, h2, _⟩ a ha => by rw [h2] at ha; cases ha
  bare := fun _ _ _ _ _ _ ⟨_, h2, _⟩ => h2
  dic := fun z => nomatch z
theorem SA.unset {K : PySem.W.Frag} {A : Anc} {env : Env} {σ : L2.St} {F H : Hp} {ow : Addr → Option Nat} {dm : DM} (S : SA K A env σ F H ow dm) (i : Nat) : SA K A (env.set i none) (σ.set i none) F H ow dm := by
  refine ⟨⟨S.x.same, by rw [List.length_set, List.length_set]; exact S.x.len, fun j u hu => ?_, S.x.dl, S.x.dow⟩, S.anc, S.pin, S.own, S.owh, S.dmf⟩
  have ne : i ≠ j := fun e => by
    subst e
    rw [List.getElem?_set] at hu
    simp only [if_true] at hu
    split at hu <;> cases hu
  rw [List.getElem?_set_ne ne] at hu ⊢
  exact S.x.sl j u hu
section
variable {X : Cx} {x n : Str} {i : Nat} {body suite : List Stmt} {b₀ : Stmt} {np pos pos' : Pos} {tb : TSd}
/-- behind the clause the name is gone -/
def EndsD.gone (E : EndsD) (i : Nat) : EndsD := { nx := fun e => E.nx (e.set i none), rt := E.rt, bk := fun e => E.bk (e.set i none), ct := fun e => E.ct (e.set i none) }
/-- try: .. except c as n: .. -/
def dTryA (c : Str) (i : Nat) (tb : TSd) (ts : Addr → Addr → D → TSd) : TSd := fun E env => tb { E with ex := fun env' c' d => c' = c ∧ ∀ a dx, ts a dx d (E.gone i) (env'.set i (some (.oth (excW a dx d)))) } env
theorem ds_tryA (i : Nat) {ts : Addr → Addr → D → TSd} {C : Addr} (hN : X.N.Nodup) (hc : Names X x (.ref C)) (hm : X.mg x = some (.ref C)) (hx : PySem.W.exmOne X.K (.ref C) (.ref C) = some true)
    (hb : ∀ (pn : List (Addr × Obj)) (xe : Value → Shared → Prop), PassesOwn (model X.prog X.w) X.A X.env xe → DSs (X.tr pn xe) body tb)
    (hsu : ∀ (a dx : Addr) (d : D) (oe : Obj) (pn : List (Addr × Obj)), Zc (.ref C) (some dx) oe → (∃ vs, oe.data = .fields vs) → DSs (X.suite a ((a, oe) :: pn)) (b₀ :: suite) (ts a dx d))
    (hi : X.N[i]? = some n := by rfl) (hln : X.env.kindOf n = some .local := by rfl)
    (hs : X.stack = X.env :: X.outer := by rfl) (hf : X.env.frame = some X.env.locals := by rfl) : DS X (.Try body [.ExceptHandler (some (.Name x np)) (some n) (b₀ :: suite) pos'] [] [] pos) (dTryA x i tb ts) := by
  intro WW tk
  refine ps_mono (ps_try_as (i := i) (tb := fun W => lS X.K X.mg W tb) (ts := fun a cls d D σ H => cls = .ref C ∧ ∃ dx e, d = some dx ∧ lS X.K X.mg (fun _ _ _ _ => False) (ts a dx e) D σ H) hs hf hN hi hln hc tk (fun W pn xe tk2 hp => hb pn xe hp W tk2)
    (fun a oe cls d pn hz hf => ⟨fun pins s σ H D I ⟨e1, dx, e, e2, q⟩ => by
      subst e1 e2
      exact (hsu a dx e oe pn hz hf _ takes_no).run pins s σ H D I q⟩)) fun D σ H ⟨A, E, env, F, ow, dm, S, q, k⟩ => ?_
  refine ⟨A, _, env, F, ow, dm, S, q, ⟨k.nx, k.rt, k.bk, k.ct, fun env' σ' F' H' ow' dm' c' a' cls d S' ⟨hm', q'⟩ e => ?_⟩⟩
  subst hm'
  obtain ⟨e1, dx, u, e2, e3, e4⟩ := e
  obtain rfl : Value.ref C = cls := Option.some.inj (hm.symm.trans e1)
  subst e2
  refine ⟨true, hx, fun _ a ha => ⟨rfl, dx, a', rfl, A, _, env'.set i (some (.oth (excW a dx a'))), F', _, dm', S'.put (ow := ow') (SRx.refl S'.x) (.oth ⟨rfl, rfl, u, e3, e4⟩) List.nodup_nil (fun _ z => nomatch z), q' a dx, ?_⟩, fun z => by cases z⟩
  exact ⟨fun e σ F H ow dm T z => k.nx _ _ _ _ _ _ (T.unset i) z, k.rt, fun e σ F H ow dm T z => k.bk _ _ _ _ _ _ (T.unset i) z, fun e σ F H ow dm T z => k.ct _ _ _ _ _ _ (T.unset i) z, fun _ _ _ _ _ _ _ _ _ _ _ z => z.elim⟩
/-- n.at -/
def dExAt (a dx : Addr) (d : D) (i : Nat) : TW := fun env Q => env[i]? = some (some (.oth (excW a dx d))) ∧ Q (.fz d)
theorem dw_exAt (i : Nat) {a dx C : Addr} {d : D} {oe : Obj} {pn : List (Addr × Obj)} (T : XfC X.K C) (hno : PySem.W.findIn X.K (.ref C) "at" = some none) (hz : Zc (.ref C) (some dx) oe) (hf : ∃ vs, oe.data = .fields vs)
    (hv : PE (X.suite a ((a, oe) :: pn)) (.Name n np) (tVar i)) (hb : attributeBase (.Name n np) "at" X.env (eval (.Name n np) X.env) = eval (.Name n np) X.env := by rfl) :
    DW (X.suite a ((a, oe) :: pn)) (.Attribute (.Name n np) "at" pos) (dExAt a dx d i) := by
  refine pe_mono (pe_xf T hno hz hf hv hb) fun σ H Q ⟨env, F, ow, dm, P, S, ⟨e, q⟩, k⟩ => ?_
  obtain ⟨v, fp, h1, h2, _, _⟩ := S.sl i _ e
  cases h2 with
  | oth h2 =>
    obtain ⟨rfl, rfl, u, h3, h4⟩ := h2
    exact ⟨_, h1, rfl, rfl, dx, _, u, rfl, S.same _ _ h3, rfl, k _ q u F H [] S.refl (.fz h4) List.nodup_nil (fun _ ha => nomatch ha)⟩
end
end DL

set_option maxHeartbeats 4000000
/-! DL, part zzd: calls whose first argument may raise. -/
namespace DL
open PySem PySem.Spec PySem.Calls PyProof.Rows L2

abbrev TXs := (Str → D → Prop) → Env → (List W → Prop) → Prop
def lAgX (K : PySem.W.Frag) (mg : Str → Option Value) (WW : WX) (n : Nat) (t : TXs) : TA := fun σ H Q => ∃ env F ow dm P R, SRx K env σ F H ow dm ∧ t R env P ∧ (∀ ws, P ws → ws.length = n → ∀ vs F' H', Ext dm F H F' H' → WRs K dm F' H' ws vs [] → Q vs H') ∧
  ∀ c a, R c a → ∀ cls d F' H', Ext dm F H F' H' → ExAt K mg F' c a cls d → WW cls d σ H'
def DAgX (X : Cx) (es : List Expr) (t : TXs) : Prop := ∀ WW, Takes X WW → PA X es (lAgX X.K X.mg WW es.length t)
def gsConsX (t : TX) (u : TWs) : TXs := fun R env Q => t R env fun w => gArg w fun w' => u env fun ws => Q (w' :: ws)
section
variable {X : Cx} {e : Expr} {es : List Expr}
theorem dagx_cons {t : TX} {u : TWs} (h : DWX X e t) (hr : DAg X es u) (hs : starEach (e :: es) X.env = (false, eval e X.env) :: starEach es X.env := by rfl) : DAgX X (e :: es) (gsConsX t u) := fun WW tk =>
  pa_mono (pa_cons (h WW tk) hr hs) fun σ H Q ⟨env, F, ow, dm, P, R, S, q, k, kx⟩ => ⟨env, F, ow, dm, _, R, S, q, fun w hw v F1 H1 fp x1 r1 nd fr => by
    obtain ⟨w', F2, x2, r2, hq⟩ := wr_arg x1 r1 fr (fun a ha => S.notMN (fr a ha)) hw
    refine ⟨env, F2, ow, dm, _, S.ext x2, hq, fun ws hws hl vs F3 H3 x3 r3 => k _ hws (congrArg (· + 1) hl) (v :: vs) F3 H3 (x2.trans x3) ?_⟩
    exact .cons (fp := []) (fq := []) (wext0 x3 r2) r3, kx⟩
end
section
variable {X : Cx} {k : Nat} {f : Addr} {fd : FuncData} {ps : List Str} {S : Spec} {x : Str} {p pos : Pos} {e : Expr} {es : List Expr} {π : List Nat} {t : TXs}
/-- a call of a def that doesn't raise, its first argument does -/
def dCallA (S : Spec) (π : List Nat) (t : TXs) : TX := fun R env Q => t R env fun ws => S (pick π (ws ++ [])) Q
theorem dwx_callA (F : FnG X.prog X.w X.K X.mg X.base CX0 k f fd ps (spD X.K S)) (hgd : X.A.guards = some []) (hr : Room k X.A) (hm : X.mg x = some (.ref f)) (hk : PySem.W.keepIn X.K (.ref f) = true) (hb : KBd fd ps (e :: es).length [] π) (ha : DAgX X (e :: es) t)
    (hg : Gl X x := by rfl) (hdb : (x == ("__debug__" : Str)) = false := by decide) (he : starEach (e :: es) X.env = (false, eval e X.env) :: starEach es X.env := by rfl) (hpl : (backTo pos (starEach es X.env)).any (·.1) = false := by rfl) :
    DWX X (.Call (.Name x p) (e :: es) [] pos) (dCallA S π t) := by
  intro WW tk
  refine ⟨fun pins s σ H Q I ⟨env, G, ow, dm, P, R, T, q, kk, kx⟩ => ?_⟩
  refine wpAny_Call_Name_kw (ld_glob I hg hm (PySem.W.callWith_K (h₀ := X.base) I.ok.mod.kin hk (thn ((ha WW tk).run pos pins s σ H
    (fun vs H' => ∃ ws F', ws.length = (e :: es).length ∧ S (pick π (ws ++ [])) P ∧ Ext dm G H F' H' ∧ WRs X.K dm F' H' ws vs []) I ?_) fun us s1 hh => ?_) he hpl) hdb)
  · exact ⟨env, G, ow, dm, _, R, T, q, fun ws hws hl vs F' H' x1 r1 => ⟨ws, F', hl, hws, x1, r1⟩, kx⟩
  · obtain ⟨vs, H1, I1, r, ws, F', hl, hS, x1, r1⟩ := hh
    refine ⟨I1.kIn, ?_⟩
    rw [List.append_nil] at hS
    have hl2 : us.length = (e :: es).length := (lAg_len r1 r).trans hl
    have := runG (ks := []) F hgd hr hb I1 r (by simpa using hl2) (sp_of x1 (wrs_pick r1 π) hS kk)
    rw [List.take_of_length_le (Nat.le_of_eq hl2)] at this
    exact this
end
end DL

set_option maxHeartbeats 4000000
/-! DL, part zze: raising defs by their names. -/
namespace DL
open PySem PySem.Spec PySem.Calls PyProof.Rows L2
/-- the def x of the text keeps a promise over data, and may raise -/
structure CalX (P : Program) (w : World) (K : PySem.W.Frag) (mg : Str → Option Value) (base : Heap) (k : Nat) (x : Str) (st : Stmt) (ps : List Str) (S : SpecX) : Prop where
  ex : ∃ f fd, Fun K x x st f fd ∧ mg x = some (.ref f) ∧ FnG P w K mg base (L2.CX P w) k f fd ps (spX K mg S)
theorem CalX.mono {P : Program} {w : World} {K : PySem.W.Frag} {mg : Str → Option Value} {base : Heap} {j k : Nat} {x : Str} {st : Stmt} {ps : List Str} {S : SpecX} (C : CalX P w K mg base j x st ps S) (h : j ≤ k) : CalX P w K mg base k x st ps S :=
  let ⟨f, fd, F, m, G⟩ := C.ex; ⟨f, fd, F, m, G.mono h⟩
section
variable {X : Cx} {k : Nat} {ps ks : List Str} {x : Str} {st : Stmt} {p pos : Pos} {e : Expr} {es : List Expr} {kws : List Keyword} {π : List Nat} {t u : TWs}
theorem dwx_fn {S : SpecX} (C : CalX X.prog X.w X.K X.mg X.base k x st ps S) (hgd : X.A.guards = some []) (hr : Room k X.A) (hb : BdOk st x ps (e :: es).length [] π) (ha : DAg X (e :: es) t)
    (hg : Gl X x := by rfl) (hdb : (x == ("__debug__" : Str)) = false := by decide) (he : starEach (e :: es) X.env = (false, eval e X.env) :: starEach es X.env := by rfl) (hpl : (backTo pos (starEach es X.env)).any (·.1) = false := by rfl) :
    DWX X (.Call (.Name x p) (e :: es) [] pos) (dCallX S π t gsNil) := by
  obtain ⟨f, fd, F, m, G⟩ := C.ex
  exact dwx_call G hgd hr m F.kp (kbd_of F hb) ha hg hdb he hpl
theorem dwx_fnK0 {S : SpecX} (C : CalX X.prog X.w X.K X.mg X.base k x st ps S) (hgd : X.A.guards = some []) (hr : Room k X.A) (hb : BdOk st x ps 0 ks π) (hu : DKg X kws u) (hkl : ks.length = kws.length := by rfl)
    (hall : (backToKw pos (keywordEach kws X.env)).all (·.1.isSome) = true := by rfl) (hks : (backToKw pos (keywordEach kws X.env)).filterMap (·.1) = ks := by rfl)
    (hpl : ((backTo pos (starEach [] X.env)).any (·.1) || (backToKw pos (keywordEach kws X.env)).any (·.1.isNone)) = false := by rfl) (hg : Gl X x := by rfl) (hdb : (x == ("__debug__" : Str)) = false := by decide) :
    DWX X (.Call (.Name x p) [] kws pos) (dCallX S π gsNil u) := by
  obtain ⟨f, fd, F, m, G⟩ := C.ex
  exact dwx_callK0 G hgd hr m F.kp (kbd_of F hb) hu hkl hall hks hpl hg hdb
theorem dwx_fnA {S : Spec} {t : TXs} (C : Cal X.prog X.w X.K X.mg X.base k x st ps S) (hgd : X.A.guards = some []) (hr : Room k X.A) (hb : BdOk st x ps (e :: es).length [] π) (ha : DAgX X (e :: es) t)
    (hg : Gl X x := by rfl) (hdb : (x == ("__debug__" : Str)) = false := by decide) (he : starEach (e :: es) X.env = (false, eval e X.env) :: starEach es X.env := by rfl) (hpl : (backTo pos (starEach es X.env)).any (·.1) = false := by rfl) :
    DWX X (.Call (.Name x p) (e :: es) [] pos) (dCallA S π t) := by
  obtain ⟨f, fd, F, m, G⟩ := C.ex
  exact dwx_callA G hgd hr m F.kp (kbd_of F hb) ha hg hdb he hpl
end
end DL

set_option maxHeartbeats 4000000
/-! DL, part zzf: isinstance with two types. -/
namespace DL
open PySem PySem.Spec PySem.Calls PyProof.Rows L2
section
variable {X : Cx} {e : Expr} {p q q2 qt pos : Pos} {kt : Nat}
def dIsi2 (n m : String) (t : TB) : TW := fun env Q => t env fun d => Q (.fz (.bool (isiD n d || isiD m d)))
theorem dw_isi2 {t : TB} {T U : Str} (n m : String) (hm : X.mg "isinstance" = none) (hT : X.mg T = none) (hU : X.mg U = none) (h : DB X e t) (hv : bootBuiltins T = some (.type n)) (hw : bootBuiltins U = some (.type m)) (hn : isiOk n = true) (hn2 : isiOk m = true)
    (hg : Gl X "isinstance" := by rfl) (hgT : Gl X T := by rfl) (hgU : Gl X U := by rfl)
    (hT1 : T ≠ "__name__" := by decide) (hT2 : (T == ("__debug__" : Str)) = false := by decide) (hU1 : U ≠ "__name__" := by decide) (hU2 : (U == ("__debug__" : Str)) = false := by decide)
    (he : starEach [e, .Tuple [.Name T q, .Name U q2] kt qt] X.env = (false, eval e X.env) :: starEach [.Tuple [.Name T q, .Name U q2] kt qt] X.env := by rfl)
    (he2 : starEach [.Tuple [.Name T q, .Name U q2] kt qt] X.env = (false, eval (.Tuple [.Name T q, .Name U q2] kt qt) X.env) :: starEach [] X.env := by rfl)
    (he3 : starEach [.Name T q, .Name U q2] X.env = (false, eval (.Name T q) X.env) :: starEach [.Name U q2] X.env := by rfl)
    (he4 : starEach [.Name U q2] X.env = (false, eval (.Name U q2) X.env) :: starEach [] X.env := by rfl)
    (hpl : (backTo pos (starEach [.Tuple [.Name T q, .Name U q2] kt qt] X.env)).any (·.1) = false := by rfl) : DW X (.Call (.Name "isinstance" p) [e, .Tuple [.Name T q, .Name U q2] kt qt] [] pos) (dIsi2 n m t) := by
  have h1 : PE X (.Name T q) (tC (.ty n)) := pe_bltn hgT hT hv rfl hT1 hT2
  have h2 : PE X (.Name U q2) (tC (.ty m)) := pe_bltn hgU hU hw rfl hU1 hU2
  refine pe_mono (pe_callB call_isiT hg hm PyProof.Rows.boot_isinstance (pa_cons h (pa_cons (pe_tup (pa_cons h1 (pa_cons h2 pa_nil he4) he3)) pa_nil he2) he) (by decide) (by decide) he hpl) fun σ H Q ⟨env, F, ow, dm, P, S, q, k⟩ => ?_
  refine ⟨env, F, ow, dm, _, S, q, fun d hd v F1 H1 x r => ⟨by rw [sizeLine_eq]; show 2 ≤ 16777216; decide, fun a ha => ?_⟩⟩
  have y := Ext.laidOwn (o := .tup [.ty n, .ty m]) x.fh x.dl ha
  have r2 := r.ext y
  have ty : TyX X.K (upd H1 a (.tup [.ty n, .ty m])) v (.type (tyD d)) := by
    rcases r2 with r | ⟨a, vs, ds, rfl, rfl, h3, h4, h5⟩
    · exact tyx_of (x.trans y).fh r
    · exact .base (.lst h3)
  refine ⟨v, a, _, _, [.type n, .type m], _, rfl, upd_same, .cons (.ty n) (.cons (.ty m) .nil), ty, kitAny_cons (kit_ty (isi_some hn d)) (fun z => ?_) (fun z => ?_), got_here (x.trans y).fh (x.trans y).dl (.bl (isiD n d || isiD m d)) (got_of (x.trans y) (k _ hd))⟩
  · rw [z, Bool.false_or]
    exact kitAny_cons (kit_ty (isi_some hn2 d)) (fun z2 => by rw [z2]; rfl) (fun z2 => z2)
  · rw [z, Bool.true_or]
end
end DL

set_option maxHeartbeats 4000000
/-! DL, part zzg: sorted of lists of alike data (nested tuples, texts, ints), any number of them. -/
namespace DL
open PySem PySem.Spec PySem.Calls PyProof.Rows L2
/-- Python's order of data -/
def leD (x y : D) : Bool := !PySem.W.dataLt y x
def sortD (ds : List D) : List D := ds.mergeSort leD
/-- as it is asked of a dict's keys -/
def okSort0 (ds : List D) : Prop := PySem.W.AllAlike ds ∧ PySem.W.Sortable ds ∧ ∀ d ∈ ds, d.depth ≤ 40
def okSort (ds : List D) : Prop := PySem.W.AllAlike ds ∧ (PySem.W.Sortable ds ∨ (ds.length ≤ 1 ∧ ∀ d, d ∈ ds → d ≠ .none)) ∧ ∀ d ∈ ds, d.depth ≤ 40
def rSortD (K : PySem.W.Frag) : List V → Hp → VK → Prop := fun vs H Q => ∃ (a : Addr) (xs : List V) (ds : List D) (F : Hp), vs = [V.ref a] ∧ SqL K H a xs ∧ Same F H ∧ DpAll K F xs ds ∧ okSort ds ∧
  ∀ (ys : List V) (p : Addr), ys.Perm xs → DpAll K F ys (sortD ds) → H p = none → Q (.ref p) (upd H p (.lst ys))
theorem dataLe_leD {β : Type} (k : β → D) (a b : β) : PySem.W.dataLe false k a b = leD (k a) (k b) := by
  rw [PySem.W.dataLe_eq]
  rfl
theorem zip_fst {α β : Type} : ∀ {xs : List α} {ys : List β}, xs.length = ys.length → (xs.zip ys).map Prod.fst = xs
  | [], [], _ => rfl
  | x :: xs, y :: ys, h => by rw [List.zip_cons_cons, List.map_cons, zip_fst (by simpa using h)]
theorem zip_snd {α β : Type} : ∀ {xs : List α} {ys : List β}, xs.length = ys.length → (xs.zip ys).map Prod.snd = ys
  | [], [], _ => rfl
  | x :: xs, y :: ys, h => by rw [List.zip_cons_cons, List.map_cons, zip_snd (by simpa using h)]
theorem each_zip {K : PySem.W.Frag} {H : Hp} : ∀ {xs : List V} {ds : List D} {us : List Value}, DpAll K H xs ds → Vals xs us → PySem.W.EachIs (fun (v : Value) (b : V × D) => RelV b.1 v ∧ Dp K H b.1 b.2) us (xs.zip ds)
  | [], [], _, .nil, .nil => .nil
  | x :: xs, d :: ds, _, .cons h1 h2, .cons r1 r2 => .cons ⟨r1, h1⟩ (each_zip h2 r2)
theorem zip_each {K : PySem.W.Frag} {H : Hp} : ∀ {us : List Value} {bs : List (V × D)}, PySem.W.EachIs (fun (v : Value) (b : V × D) => RelV b.1 v ∧ Dp K H b.1 b.2) us bs → Vals (bs.map Prod.fst) us ∧ DpAll K H (bs.map Prod.fst) (bs.map Prod.snd)
  | _, _, .nil => ⟨.nil, .nil⟩
  | _, _, .cons ⟨r1, h1⟩ e => let ⟨r, h⟩ := zip_each e; ⟨.cons r1 r, .cons h1 h⟩
section
variable {prog : Program} {w : World} {A : Around} {E : Value → Shared → Prop} {s : Shared} {β : Type} {vs : List Value} {bs : List β} {enc : β → PyData} {R : Value → β → Prop}
/-- one item at most is sorted whatever it is -/
theorem sortsAt_one {ds : List PyData} (e : PySem.W.EachIs (fun v d => ∃ as, Reads s.heap v d as) vs ds) (hal : PySem.W.AllAlike ds) (hn : ∀ d, d ∈ ds → d ≠ .none) (h1 : ds.length ≤ 1) (hu : ∀ d, d ∈ ds → A.units + d.depth < cLine) : PySem.W.SortsAt prog w A s (PySem.W.dataKind s.heap ds) vs := by
  refine ⟨fun v hv => ?_, general', ?_, fun h2 => absurd h2 (by rw [e.length]; omega)⟩
  · obtain ⟨d, hd, as, r⟩ := e.left v hv
    exact ⟨_, PySem.W.dataKind_some hal hd r⟩
  · intro E x y a b Q ha hb hq
    obtain ⟨d, as, hd, ra, rfl⟩ := PySem.W.dataKind_inv ha
    obtain ⟨d', as', hd', rb, rfl⟩ := PySem.W.dataKind_inv hb
    rw [show keyLt' general' x y = oneLt' false x y from rfl]
    exact PySem.W.oneLt_alike (fun z => by cases z) ra rb (hal d hd d' hd') (hn d hd) (Nat.lt_of_le_of_lt (Nat.add_le_add_left (Nat.min_le_left _ _) _) (hu d hd)) hq
theorem sorted_dataE {l : Addr} {Q : Value → Shared → Prop} (hl : s.heap.IsList l vs.toArray) (e : PySem.W.EachIs R vs bs) (er : PySem.W.EachIs (fun v b => ∃ as, Reads s.heap v (enc b) as) vs bs) (hal : PySem.W.AllAlike (bs.map enc)) (hk : PySem.W.Sortable (bs.map enc) ∨ ((bs.map enc).length ≤ 1 ∧ ∀ d, d ∈ bs.map enc → d ≠ .none)) (hL : bs.length ≤ sizeLine)
    (hu : ∀ b, b ∈ bs → A.units + 2 + (enc b).depth < cLine) (h : ∀ out, out.length = bs.length → PySem.W.EachIs R out (bs.mergeSort (PySem.W.dataLe false enc)) → Q (.ref (s.heap.objs.size + 1)) { s with heap := sortedAll s.heap vs (List.toArray out) }) :
    wpAny (model prog w) A (call (.builtin "sorted") [.ref l]) Q E s := by
  rcases hk with hk | ⟨h1, hn⟩
  · exact PySem.W.sorted_data hl e er hal hk hL hu h
  · have er' : PySem.W.EachIs (fun v b => ∃ as, Reads (PySem.W.sortingHeap (PySem.W.copyHeap s.heap vs) (s.heap.objs.size + 1) vs) v (enc b) as) vs bs := er.mono fun _ _ ⟨as, r⟩ => ⟨as, PyProof.Rows.Reads.keeps (fun _ _ => PySem.W.sorting_copy_old) r⟩
    exact PySem.W.sorted_vals hl (sortsAt_one (s := { s with heap := PySem.W.sortingHeap (PySem.W.copyHeap s.heap vs) (s.heap.objs.size + 1) vs }) (PySem.W.each_map (R := fun v d => ∃ as, Reads (PySem.W.sortingHeap (PySem.W.copyHeap s.heap vs) (s.heap.objs.size + 1) vs) v d as) enc er') hal hn h1 (PySem.W.bound_map hu)) (by rw [e.length]; exact hL)
      (h _ (by rw [PySem.W.sortVals_length false rfl]; exact e.length) (PySem.W.sortVals_data false e er' hal))
end
theorem cr_sortD {X : Cx} (hu : X.A.units + 64 < cLine) : CallR X (.builtin "sorted") (rSortD X.K) := by
  intro pins s σ H vs us Q I r h
  obtain ⟨a, xs, ds, F, rfl, hs, hF, hd, ⟨o1, o2, o3⟩, q⟩ := h
  obtain ⟨its, rv, hl, hz⟩ := I.list hs
  rw [Vals.ref1 r]
  have hlen : xs.length = ds.length := dpAll_length hd
  have e := each_zip hd rv
  have eds : (xs.zip ds).map Prod.snd = ds := zip_snd hlen
  have exs : (xs.zip ds).map Prod.fst = xs := zip_fst hlen
  refine sorted_dataE (enc := Prod.snd) (R := fun (v : Value) (b : V × D) => RelV b.1 v ∧ Dp X.K F b.1 b.2) hl.isList e (e.mono fun v b ⟨r1, r2⟩ => L2.Dp.reads I _ _ _ (dp_same hF r2).l2 r1) (by rw [eds]; exact o1) (by rw [eds]; exact o2) (by rw [List.length_zip, ← hlen, Nat.min_self]; exact hz)
    (fun b hb => ?_) fun out h1 h2 => ?_
  · have := o3 b.2 (by rw [← eds]; exact List.mem_map.mpr ⟨b, hb, rfl⟩)
    omega
  · obtain ⟨k1, k2⟩ := zip_each h2
    have p1 : ((xs.zip ds).mergeSort (PySem.W.dataLe false Prod.snd)).Perm (xs.zip ds) := List.mergeSort_perm _ _
    have p2 := p1.map Prod.fst
    rw [exs] at p2
    have e2 : ((xs.zip ds).mergeSort (PySem.W.dataLe false Prod.snd)).map Prod.snd = sortD ds := by
      unfold sortD
      rw [List.map_mergeSort (s := leD) fun a _ b _ => dataLe_leD Prod.snd a b, eds]
    rw [e2] at k2
    obtain ⟨ep, he'⟩ := PyProof.Rows.sortedAll_at s.heap its out.toArray
    have hlen2 : (((xs.zip ds).mergeSort (PySem.W.dataLe false Prod.snd)).map Prod.fst).length ≤ sizeLine := by rw [p2.length_eq]; exact hz
    exact ⟨.ref _, upd H (s.heap.objs.size + 1) (.lst _), I.laid (t' := s.toks) (fun _ _ => PyProof.Rows.sortedAll_old) (Nat.le_succ _) ⟨hlen2, out, ep, k1, he'⟩, rfl, q _ _ p2 k2 (I.hok.fresh (Nat.le_succ _))⟩
def gSortedD : List D → (W → Prop) → Prop := fun ds P => match ds with
  | [.list xs] => okSort xs ∧ P (.own ((sortD xs).map .fz))
  | _ => False
theorem snd_sortedD {K : PySem.W.Frag} : SndC K (rSortD K) gSortedD := by
  intro dm F H vs ds Q P hs dl r g k
  unfold gSortedD at g
  split at g
  · obtain ⟨h1, g⟩ := g
    obtain ⟨v, rfl, h⟩ := dball1 r
    obtain ⟨a, us, rfl, hq, rr⟩ := h.lst_inv hs
    exact ⟨a, us, _, F, rfl, .of hq, hs, rr, h1, fun ys p h2 h3 hp => got_lst0 hs dl h3 (k _ g) hp⟩
  · exact g.elim
abbrev dSortedD (t : TDs) : TW := dCall gSortedD t
theorem dw_sortedD {X : Cx} {e : Expr} {pos p : Pos} {t : TDs} (hu : X.A.units + 64 < cLine) (hm : X.mg "sorted" = none) (ha : DA X [e] t) (hg : Gl X "sorted" := by rfl) (he : starEach [e] X.env = [(false, eval e X.env)] := by rfl) :
    DW X (.Call (.Name "sorted" p) [e] [] pos) (dSortedD t) := dw_callB (cr_sortD hu) snd_sortedD hm ha hg (he := he)
end DL

set_option maxHeartbeats 4000000
/-! DL, part zzh: data that are short to show (Sml); walks in walks; lists of tests; == of lists of numbers. -/
namespace DL
open PySem L2
structure Sml (z p : Nat) (d : D) : Prop where
  ok : rok 12 d = true
  sz : rz 12 d ≤ z
  dp : d.depth ≤ p
  ly : d.canLay0 = true
theorem Sml.mono {z p z2 p2 : Nat} {d : D} (h : Sml z p d) (h1 : z ≤ z2 := by omega) (h2 : p ≤ p2 := by omega) : Sml z2 p2 d := ⟨h.ok, Nat.le_trans h.sz h1, Nat.le_trans h.dp h2, h.ly⟩
theorem Sml.int {i : Int} (h : i.natAbs < 10 ^ 12) : Sml 13 0 (.int i) := ⟨decide_eq_true h, Nat.le_of_eq rfl, Nat.le_of_eq (by simp [PyData.depth]), by simp [PyData.canLay0]⟩
theorem Sml.nat {n : Nat} (h : n < 10 ^ 12) : Sml 13 0 (iD n) := Sml.int (by simpa using h)
theorem Sml.bool (b : Bool) : Sml 13 0 (.bool b) := ⟨rfl, by simp [rz], Nat.le_of_eq (by simp [PyData.depth]), by simp [PyData.canLay0]⟩
theorem Sml.none : Sml 13 0 .none := ⟨rfl, by simp [rz], Nat.le_of_eq (by simp [PyData.depth]), by simp [PyData.canLay0]⟩
theorem smls {z p m : Nat} : ∀ {ds : List D}, (∀ d ∈ ds, Sml z p d) → ds.length ≤ m → roks 12 ds = true ∧ rzs 12 ds ≤ m * (z + 2) ∧ PyData.depthAll ds ≤ p ∧ PyData.canLayAll0 ds = true
  | [], _, _ => ⟨rfl, Nat.zero_le _, by simp [PyData.depthAll], by simp [PyData.canLayAll0]⟩
  | d :: ds, h, hl => by
    obtain ⟨h1, h2, h3, h4⟩ := h d (by simp)
    have hl' : ds.length + 1 ≤ m := hl
    obtain ⟨k1, k2, k3, k4⟩ := smls (m := m - 1) (fun e he => h e (by simp [he])) (show ds.length ≤ m - 1 by omega)
    refine ⟨by rw [roks, h1, k1]; rfl, ?_, by rw [PyData.depthAll]; omega, by rw [PyData.canLayAll0, h4, k4]; rfl⟩
    rw [rzs]
    have : m * (z + 2) = (m - 1) * (z + 2) + (z + 2) := by
      obtain ⟨m, rfl⟩ : ∃ m', m = m' + 1 := ⟨m - 1, by omega⟩
      rw [Nat.add_sub_cancel, Nat.add_mul, Nat.one_mul]
    omega
theorem Sml.tup {z p m : Nat} {ds : List D} (h : ∀ d ∈ ds, Sml z p d) (hl : ds.length ≤ m) : Sml (m * (z + 2) + 3) (p + 1) (.tuple ds) := by
  obtain ⟨h1, h2, h3, h4⟩ := smls h hl
  exact ⟨by rw [rok]; exact h1, by rw [rz]; omega, by rw [PyData.depth]; omega, by rw [PyData.canLay0]; exact h4⟩
theorem Sml.lst {z p m : Nat} {ds : List D} (h : ∀ d ∈ ds, Sml z p d) (hl : ds.length ≤ m) : Sml (m * (z + 2) + 3) (p + 1) (.list ds) := by
  obtain ⟨h1, h2, h3, h4⟩ := smls h hl
  exact ⟨by rw [rok]; exact h1, by rw [rz]; omega, by rw [PyData.depth]; omega, by rw [PyData.canLay0]; exact h4⟩
theorem smm {α : Type} {f : α → D} {z p : Nat} {xs : List α} (h : ∀ x ∈ xs, Sml z p (f x)) : ∀ d ∈ xs.map f, Sml z p d := fun d hd => by
  obtain ⟨x, hx, rfl⟩ := List.mem_map.mp hd
  exact h x hx
theorem Sml.tD {l : List Nat} {m : Nat} (h : ∀ x ∈ l, x < 10 ^ 12) (hl : l.length ≤ m) : Sml (m * 15 + 3) 1 (tD l) := Sml.tup (z := 13) (smm fun x hx => Sml.nat (h x hx)) (by rw [List.length_map]; exact hl)
theorem Sml.lD {l : List Nat} {m : Nat} (h : ∀ x ∈ l, x < 10 ^ 12) (hl : l.length ≤ m) : Sml (m * 15 + 3) 1 (lD l) := Sml.lst (z := 13) (smm fun x hx => Sml.nat (h x hx)) (by rw [List.length_map]; exact hl)
theorem Sml.repr {z p : Nat} {d : D} (h : Sml z p d) (hz : z ≤ 1000000 := by decide) (hp : p ≤ 40 := by decide) : d.showable = true ∧ d.hasDict = false ∧ d.shown.length ≤ sizeLine ∧ d.depth ≤ 40 := repr_ok h.ok (Nat.le_trans h.sz (size_le hz)) (Nat.le_trans h.dp hp)
theorem Sml.shaped {z p : Nat} {d : D} (h : Sml z p d) (hp : p ≤ 60 := by decide) : SeqAt.shaped d = true := by
  unfold SeqAt.shaped
  rw [h.ly, Bool.true_and]
  exact decide_eq_true (by have := h.dp; omega)
theorem compI_map {α : Type} {g : TGd} {tq : TQ} {tw : TW} {env : DL.Env} {R : List W → Prop} (j : α → D) (f : α → W) {l : List α} {acc : List W}
    (h : ∀ x, x ∈ l → ∀ (N : W → Prop) (M : Prop), N (f x) → g (j x) env fun env2 => tq env2 fun b => if b = true then tw env2 N else M) (q : R (acc ++ l.map f)) : compI env g tq tw (l.map j) acc R := by
  induction l generalizing acc with
  | nil => simpa [compI] using q
  | cons x l ih =>
    refine h x (List.mem_cons_self ..) _ _ (ih (fun y hy => h y (List.mem_cons_of_mem _ hy)) ?_)
    rw [List.append_assoc]
    exact q
/-- turns in turns: each thing gives its part -/
theorem compW2_A {α : Type} {g g1 : TGd} {tq tq1 : TQ} {vs1 : List Nat} {ti1 : TIt} {tw : TW} {env : DL.Env} {Q : W → Prop} (j : α → D) (f : α → List W) {l : List α} {acc : List W} {B : Nat} (hB : acc.length + (l.flatMap f).length ≤ B)
    (h : ∀ x, x ∈ l → ∀ (acc : List W) (N : List W → Prop) (M : Prop), acc.length + (f x).length ≤ B → N (acc ++ f x) → g (j x) env fun env2 => tq env2 fun b => if b = true then ti1 env2 fun items => acc.length + items.length < sizeLine ∧ compI (wipeE env2 vs1) g1 tq1 tw items acc N else M)
    (q : Q (.own (acc ++ l.flatMap f))) : compW2 env g tq vs1 ti1 g1 tq1 tw (l.map j) acc Q := by
  induction l generalizing acc with
  | nil => simpa [compW2] using q
  | cons x l ih =>
    rw [List.flatMap_cons, List.length_append] at hB
    refine h x (List.mem_cons_self ..) acc _ _ (by omega) (ih (by rw [List.length_append]; omega) (fun y hy => h y (List.mem_cons_of_mem _ hy)) ?_)
    rw [List.append_assoc, ← List.flatMap_cons]
    exact q
theorem eqvAll_iD : ∀ a b : List Nat, PyData.eqvAll (a.map iD) (b.map iD) = decide (a = b)
  | [], [] => by simp [PyData.eqvAll]
  | [], b :: bs => by simp [PyData.eqvAll]
  | a :: as, [] => by simp [PyData.eqvAll]
  | a :: as, b :: bs => by
    rw [List.map_cons, List.map_cons, PyData.eqvAll, eqvAll_iD as bs, eqv_int]
    by_cases h : a = b
    · by_cases h2 : as = bs
      · simp [h, h2]
      · simp [h, h2]
    · have : ¬ (a : Int) = (b : Int) := by omega
      simp [h, this]
theorem eqv_lD (a b : List Nat) : PyData.eqv (lD a) (lD b) = decide (a = b) := by rw [PyData.eqv, eqvAll_iD]
theorem bools_map {α : Type} (f : α → Bool) (ds : List α) : boolsOf (ds.map fun d => PyData.bool (f d)) = some (ds.map f) := by
  have := boolsOf_map (ds.map f)
  rwa [List.map_map] at this
theorem all_idm {α : Type} (f : α → Bool) (ds : List α) : (ds.map f).all id = ds.all f := by rw [List.all_map]; rfl
theorem isN_nats : ∀ {ds : List D}, ds.all isN = true → ds = (ds.map natOf).map iD
  | [], _ => rfl
  | d :: ds, h => by
    rw [List.all_cons, Bool.and_eq_true] at h
    have h1 := isN_nats h.2
    cases d with
    | int i =>
      have h3 := h.1
      unfold isN at h3
      rw [decide_eq_true_eq] at h3
      rw [List.map_cons, List.map_cons, ← h1]
      have : ((i.toNat : Nat) : Int) = i := by omega
      show _ = PyData.int ((i.toNat : Nat) : Int) :: ds
      rw [this]
    | _ => simp [isN] at h
theorem sorted_adj : ∀ ms : List Nat, ((List.range (ms.length - 1)).all fun i => decide (ms.getD i 0 < ms.getD (i + 1) 0)) = decide (ms.Pairwise (· < ·))
  | [] => by simp
  | [x] => by simp
  | x :: y :: ms => by
    have ih := sorted_adj (y :: ms)
    have e : (x :: y :: ms).length - 1 = ((y :: ms).length - 1) + 1 := by simp
    rw [e, List.range_succ_eq_map, List.all_cons, List.all_map]
    have e2 : ((fun i => decide ((x :: y :: ms).getD i 0 < (x :: y :: ms).getD (i + 1) 0)) ∘ Nat.succ) = fun i => decide ((y :: ms).getD i 0 < (y :: ms).getD (i + 1) 0) := by funext i; simp
    rw [e2, ih]
    have e3 : (x :: y :: ms).getD 0 0 = x := rfl
    have e4 : (x :: y :: ms).getD (0 + 1) 0 = y := rfl
    rw [e3, e4, ← Bool.decide_and]
    congr 1
    apply propext
    constructor
    · rintro ⟨h1, h2⟩
      refine List.pairwise_cons.mpr ⟨fun z hz => ?_, h2⟩
      rcases List.mem_cons.mp hz with rfl | hz
      · exact h1
      · exact Nat.lt_trans h1 ((List.pairwise_cons.mp h2).1 z hz)
    · intro h
      obtain ⟨h1, h2⟩ := List.pairwise_cons.mp h
      exact ⟨h1 y (by simp), h2⟩
theorem notT {b : Bool} {p q : Prop} (h : b = true) (hq : q) : if (!b) = true then p else q := by subst h; exact hq
theorem notF {b : Bool} {p q : Prop} (h : b = false) (hp : p) : if (!b) = true then p else q := by subst h; exact hp
end DL

set_option maxHeartbeats 4000000
/-! DL, part zzi: list(d) and sorted(d) of a dict. -/
namespace DL
open PySem PySem.Spec PySem.Calls PyProof.Rows L2
section
variable {X : Cx} {x : Str} {p pos p2 : Pos}
/-- the keys gathered -/
theorem keys_rel {K : PySem.W.Frag} {F : Hp} {kvs : List (D × D)} {es : Array DictEntry} (h : Paired (EntR K F) kvs es.toList) {acc : Array Value} (it : ItemsOf (fun i v => ∃ en : DictEntry, es[i]? = some en ∧ v = en.key) acc es.size) :
    ∃ ks : List V, Vals ks acc.toList ∧ DpAll K F ks (kvs.map (·.1)) := by
  have l1 : es.toList.length = acc.toList.length := by rw [Array.length_toList, Array.length_toList, it.1]
  have hat : ∀ j v, acc.toList[j]? = some v → ∃ en : DictEntry, es.toList[j]? = some en ∧ v = en.key := fun j v e => by
    obtain ⟨en, h1, h2⟩ := it.2 j v (by rw [← Array.getElem?_toList]; exact e)
    exact ⟨en, by rw [Array.getElem?_toList]; exact h1, h2⟩
  generalize acc.toList = us at l1 hat ⊢
  generalize es.toList = el at h l1 hat
  clear it
  induction h generalizing us with
  | nil =>
    cases us with
    | nil => exact ⟨[], .nil, .nil⟩
    | cons u us => simp at l1
  | cons h t ih =>
    cases us with
    | nil => simp at l1
    | cons u us =>
      obtain ⟨kv, vv, h1, h2, _⟩ := h
      obtain ⟨en, e1, e2⟩ := hat 0 u rfl
      obtain rfl := Option.some.inj e1
      obtain ⟨ks, k1, k2⟩ := ih us (by simpa using l1) fun j v e => hat (j + 1) v e
      exact ⟨kv :: ks, .cons (by rw [e2]; exact h2) k1, .cons h1 k2⟩
def rKList (K : PySem.W.Frag) : List V → Hp → VK → Prop := fun xs H Q => ∃ F ad kvs, xs = [.ref ad] ∧ DK K F H ad kvs ∧ ∀ ks q, DpAll K F ks (kvs.map (·.1)) → H q = none → Q (.ref q) (upd H q (.lst ks))
theorem call_listK (hcalm : X.calm = true) : CallR X (.type "list") (rKList X.K) := by
  intro pins s σ H xs us Q I r ⟨F, ad, kvs, ex, d, q⟩
  subst ex
  obtain rfl := Vals.ref1 r
  obtain ⟨es, ep, hd, he, wk⟩ := d
  obtain ⟨⟨o, ho, hx, hdt⟩, h2⟩ := (show s.heap.DictRaw ad es ep ∧ (ad == sysModules) = false from (I.hok ad _ hd).1)
  have l1 : es.size = kvs.length := by rw [← Array.length_toList, ← Paired.length he]
  have hz : kvs.length ≤ sizeLine := wk.len
  refine PySem.W.kdl_call (kdl_raw h2 hx hdt) (I.ok.hd hcalm) ho (by omega) fun h' tk acc' c' kp e it => ?_
  obtain ⟨ks, k1, k2⟩ := keys_rel he it
  have hl : ks.length ≤ sizeLine := by rw [dpAll_length k2, List.length_map]; exact hz
  exact ⟨.ref s.heap.objs.size, _, I.laid (t' := tk) (o := .lst ks) kp (Nat.le_refl _) ⟨hl, acc'.toList, c', k1, by rw [Array.toArray_toList]; exact e⟩, rfl, q _ _ k2 (I.hok.fresh (Nat.le_refl _))⟩
/-- list(d) -/
def dKList (i : Nat) : TW := fun env Q => match dicA env i with
  | some (_, kvs) => Q (.own ((kvs.map (·.1)).map .fz))
  | none => False
/-- sorted(d) -/
def dKSorted (i : Nat) : TW := fun env Q => match dicA env i with
  | some (_, kvs) => okSort0 (kvs.map (·.1)) ∧ Q (.own ((sortD (kvs.map (·.1))).map .fz))
  | none => False
def rKSorted (K : PySem.W.Frag) : List V → Hp → VK → Prop := fun xs H Q => ∃ F ad kvs, xs = [.ref ad] ∧ DK K F H ad kvs ∧ Same F H ∧ okSort0 (kvs.map (·.1)) ∧ ∀ ks q, DpAll K F ks (sortD (kvs.map (·.1))) → H q = none → Q (.ref q) (upd H q (.lst ks))
theorem call_sortedK (hcalm : X.calm = true) (hu : X.A.units + 64 < cLine) : CallR X (.builtin "sorted") (rKSorted X.K) := by
  intro pins s σ H xs us Q I r ⟨F, ad, kvs, ex, d, hF, ⟨o1, o2, o3⟩, q⟩
  subst ex
  obtain rfl := Vals.ref1 r
  obtain ⟨es, ep, hd, he, wk⟩ := d
  obtain ⟨⟨o, ho, hx, hdt⟩, h2⟩ := (show s.heap.DictRaw ad es ep ∧ (ad == sysModules) = false from (I.hok ad _ hd).1)
  have l1 : es.size = kvs.length := by rw [← Array.length_toList, ← Paired.length he]
  have hz : kvs.length ≤ sizeLine := wk.len
  refine Calls.call_function_entry PyProof.Rows.kind_sorted PyProof.Rows.plain_sorted PyProof.Rows.entry_sorted (PyProof.Rows.args_sorted1 _) ?_
  unfold Builtin.«sorted»
  refine wpAny_bind (m := checkCount "sorted" 1 1 _) (wpAny_pure ?_)
  refine wpAny_bind (PySem.W.kdu_collect (A := X.A.in1) (kdl_raw h2 hx hdt) (I.ok.hd hcalm) ho (by omega) fun h' tk acc hk it => ?_)
  obtain ⟨ks, k1, k2⟩ := keys_rel he it
  have hl : acc.toList.length = kvs.length := by rw [Array.length_toList, it.1]; exact l1
  have I1 : Inv X pins σ H { s with heap := h', toks := tk } := I.kept hk
  have hlen : ks.length = (kvs.map (·.1)).length := dpAll_length k2
  have e := each_zip k2 k1
  have eds : (ks.zip (kvs.map (·.1))).map Prod.snd = kvs.map (·.1) := zip_snd hlen
  have er : PySem.W.EachIs (fun (v : Value) (b : V × D) => ∃ as, Reads h' v (Prod.snd b) as) acc.toList (ks.zip (kvs.map (·.1))) := e.mono fun v b ⟨r1, r2⟩ => L2.Dp.reads I1 _ _ _ (dp_same hF r2).l2 r1
  refine wpAny_bind (wpAny_newList ?_ (by rw [hl]; exact hz))
  have hoL : (h'.push (seqObj "list" acc.toList.toArray 0)).get? h'.objs.size = some (seqObj "list" acc.toList.toArray 0) := Heap.get?_push_size _ rfl
  show wpAny _ _ _ _ _ { s with heap := h'.push (seqObj "list" acc.toList.toArray 0), toks := tk }
  have er' : PySem.W.EachIs (fun (v : Value) (b : V × D) => ∃ as, Reads (PySem.W.sortingHeap (h'.push (seqObj "list" acc.toList.toArray 0)) h'.objs.size acc.toList) v (Prod.snd b) as) acc.toList (ks.zip (kvs.map (·.1))) :=
    er.mono fun _ _ ⟨as, r⟩ => ⟨as, PyProof.Rows.Reads.keeps (fun b o e => PySem.W.sortingHeap_old (Nat.ne_of_lt (Heap.lt_size e)) (Heap.get?_push_of_some _ e)) r⟩
  refine wpAny_bind (wpAny_holding (wpAny_call_entry PyProof.Rows.slot_list_sort ⟨_, hoL, rfl⟩ PyProof.Rows.entry_list_sort
    (PySem.W.list_sort_vals (s := { s with heap := h'.push (seqObj "list" acc.toList.toArray 0), toks := tk }) hoL
      (PySem.W.SortsAt.data (s := { s with heap := PySem.W.sortingHeap (h'.push (seqObj "list" acc.toList.toArray 0)) h'.objs.size acc.toList, toks := tk }) (PySem.W.each_map (R := fun v d => ∃ as, Reads (PySem.W.sortingHeap (h'.push (seqObj "list" acc.toList.toArray 0)) h'.objs.size acc.toList) v d as) Prod.snd er')
        (by rw [eds]; exact o1) (by rw [eds]; exact o2) fun d hd => ?_) (by rw [hl]; exact hz) ⟨_, rfl, ?_⟩) (PyProof.Rows.args_list_sort _)))
  · rw [eds] at hd
    have := o3 d hd
    show X.A.units + 2 + d.depth < cLine
    omega
  have h3 := PySem.W.sortVals_data (R := fun (v : Value) (b : V × D) => RelV b.1 v ∧ Dp X.K F b.1 b.2) false e er' (by rw [eds]; exact o1)
  obtain ⟨k3, k4⟩ := zip_each h3
  have e2 : ((ks.zip (kvs.map (·.1))).mergeSort (PySem.W.dataLe false Prod.snd)).map Prod.snd = sortD (kvs.map (·.1)) := by
    unfold sortD
    rw [List.map_mergeSort (s := leD) fun a _ b _ => dataLe_leD Prod.snd a b, eds]
  rw [e2] at k4
  obtain ⟨e', he'⟩ := PyProof.Rows.sortedHeap_at (vs := acc.toList) (out := (PySem.W.sortVals (PySem.W.dataKind (PySem.W.sortingHeap (h'.push (seqObj "list" acc.toList.toArray 0)) h'.objs.size acc.toList) ((ks.zip (kvs.map (·.1))).map Prod.snd)) false acc.toList acc.toList).toArray) hoL
  have hlen2 : (((ks.zip (kvs.map (·.1))).mergeSort (PySem.W.dataLe false Prod.snd)).map Prod.fst).length ≤ sizeLine := by
    rw [dpAll_length k4]
    unfold sortD
    rw [List.length_mergeSort, List.length_map]
    exact hz
  refine wpAny_pure ⟨_, rfl, .ref h'.objs.size, upd H h'.objs.size (.lst _), I1.laid (t' := tk) (fun b u e => ?_) (Nat.le_refl _)
    (show ObjOk X.prog X.w _ _ _ (.lst _) from ⟨hlen2, _, e', k3, he'⟩), rfl, q _ _ k4 (I1.hok.fresh (Nat.le_refl _))⟩
  have hb : b < h'.objs.size := Heap.lt_size e
  rw [PyProof.Rows.sortedHeap_old (Nat.ne_of_lt hb) (by rw [size_push']; exact Nat.lt_succ_of_lt hb)]
  exact Heap.get?_push_of_some _ e
theorem dw_klist (i : Nat) (hc : X.calm = true) (hx : PE X (.Name x p) (tVar i)) (hm : X.mg "list" = none) (hg : Gl X "list" := by rfl) (he : starEach [.Name x p] X.env = [(false, eval (.Name x p) X.env)] := by rfl) (hpl : (backTo pos (starEach ([] : List Expr) X.env)).any (·.1) = false := by rfl) :
    DW X (.Call (.Name "list" p2) [.Name x p] [] pos) (dKList i) := by
  refine pe_mono (pe_callTy (call_listK hc) hg hm (by decide +kernel) (pa_cons hx pa_nil he)) fun σ H Q ⟨env, F, ow, dm, P, S, q, k⟩ => ?_
  unfold dKList at q
  split at q
  · rename_i o kvs ei
    obtain ⟨ad, hσ, D⟩ := S.dk ei
    exact ⟨.ref ad, hσ, F, ad, kvs, rfl, D F H S.refl, fun ks q2 hk hq => got_lst0 S.same S.dl hk (fun v F2 H2 fp x r nd fr => k _ q v F2 H2 fp x r nd fr) hq⟩
  · exact q.elim
theorem dw_ksorted (i : Nat) (hc : X.calm = true) (hu : X.A.units + 64 < cLine) (hx : PE X (.Name x p) (tVar i)) (hm : X.mg "sorted" = none) (hg : Gl X "sorted" := by rfl) (he : starEach [.Name x p] X.env = [(false, eval (.Name x p) X.env)] := by rfl) (hpl : (backTo pos (starEach ([] : List Expr) X.env)).any (·.1) = false := by rfl) :
    DW X (.Call (.Name "sorted" p2) [.Name x p] [] pos) (dKSorted i) := by
  refine pe_mono (pe_callB (call_sortedK hc hu) hg hm (by decide +kernel) (pa_cons hx pa_nil he) (by decide) (by decide) he hpl) fun σ H Q ⟨env, F, ow, dm, P, S, q, k⟩ => ?_
  unfold dKSorted at q
  split at q
  · rename_i o kvs ei
    obtain ⟨ad, hσ, D⟩ := S.dk ei
    exact ⟨.ref ad, hσ, F, ad, kvs, rfl, D F H S.refl, S.same, q.1, fun ks q2 hk hq => got_lst0 S.same S.dl hk (fun v F2 H2 fp x r nd fr => k _ q.2 v F2 H2 fp x r nd fr) hq⟩
  · exact q.elim
end
end DL

set_option maxHeartbeats 4000000
/-! DL, part zzj: sorted lists of data are one. -/
namespace DL
open PySem PyProof.Rows PySem.W
theorem leD_total (x y : D) : (leD x y || leD y x) = true := by
  unfold leD dataLt
  cases h : PyProof.Rows.lexLt itemOrd (keyToks y) (keyToks x) with
  | false => rfl
  | true =>
    cases h2 : PyProof.Rows.lexLt itemOrd (keyToks x) (keyToks y) with
    | false => rfl
    | true =>
      have := (listOrd itemOrd).trans _ _ _ h h2
      rw [(listOrd itemOrd).irrefl] at this
      cases this
theorem leD_trans (x y z : D) (h1 : leD x y = true) (h2 : leD y z = true) : leD x z = true := by
  unfold leD dataLt at *
  rw [Bool.not_eq_true'] at *
  cases h : PyProof.Rows.lexLt itemOrd (keyToks z) (keyToks x) with
  | false => rfl
  | true =>
    rcases lex_negTrans (O := itemOrd) _ (keyToks y) _ h with h | h
    · rw [h] at h2; cases h2
    · rw [h] at h1; cases h1
theorem leD_toks {x y : D} (h1 : leD x y = true) (h2 : leD y x = true) : keyToks x = keyToks y := by
  unfold leD dataLt at *
  rw [Bool.not_eq_true'] at *
  exact (listOrd itemOrd).total _ _ h2 h1
theorem eqv_toks {x y : D} (h : alike x y = true) (e : keyToks x = keyToks y) : PyData.eqv x y = true := by
  cases he : PyData.eqv x y with
  | true => rfl
  | false =>
    have k := (toks_eqv x y h).2 he [] [.inl 0]
    rw [e, lex_pre, lex_irrefl] at k
    cases k
theorem sortD_perm (ds : List D) : (sortD ds).Perm ds := List.mergeSort_perm _ _
theorem sortD_sorted (ds : List D) : (sortD ds).Pairwise fun a b => leD a b = true := List.pairwise_mergeSort leD_trans leD_total ds
theorem sorted_uniq {α : Type} {f : α → D} (hal : ∀ a b, alike (f a) (f b) = true) (hinj : ∀ a b, PyData.eqv (f a) (f b) = true → a = b) {xs ys : List α} (p : xs.Perm ys)
    (h1 : (xs.map f).Pairwise fun a b => leD a b = true) (h2 : (ys.map f).Pairwise fun a b => leD a b = true) : xs = ys :=
  List.Perm.eq_of_pairwise (le := fun a b => leD (f a) (f b) = true) (fun a b _ _ g1 g2 => hinj a b (eqv_toks (hal a b) (leD_toks g1 g2))) (List.pairwise_map.mp h1) (List.pairwise_map.mp h2) p
/-- what sorted of data told by things tells -/
theorem sortD_map {α : Type} (f : α → D) (xs : List α) : ∃ ys : List α, sortD (xs.map f) = ys.map f ∧ ys.Perm xs := by
  refine ⟨xs.mergeSort fun a b => leD (f a) (f b), ?_, List.mergeSort_perm _ _⟩
  unfold sortD
  rw [List.map_mergeSort]
  exact fun _ _ _ _ => rfl
theorem alike_nats : ∀ a b : List Nat, alikeAll (a.map iD) (b.map iD) = true
  | [], _ => by simp [alikeAll]
  | _ :: _, [] => by simp [alikeAll]
  | x :: a, y :: b => by
    rw [List.map_cons, List.map_cons, alikeAll, alike_nats a b]
    rfl
theorem alike_tD (a b : List Nat) : alike (tD a) (tD b) = true := by rw [alike]; exact alike_nats a b
theorem alike_ttDs : ∀ a b : List (List Nat), alikeAll (a.map tD) (b.map tD) = true
  | [], _ => by simp [alikeAll]
  | _ :: _, [] => by simp [alikeAll]
  | x :: a, y :: b => by
    rw [List.map_cons, List.map_cons, alikeAll, alike_ttDs a b, alike_tD]
    rfl
theorem alike_ttD (a b : List (List Nat)) : alike (.tuple (a.map tD)) (.tuple (b.map tD)) = true := by rw [alike]; exact alike_ttDs a b
theorem eqv_tD (a b : List Nat) : PyData.eqv (tD a) (tD b) = decide (a = b) := by rw [PyData.eqv, eqvAll_iD]
theorem eqvAll_tD : ∀ a b : List (List Nat), PyData.eqvAll (a.map tD) (b.map tD) = decide (a = b)
  | [], [] => by simp [PyData.eqvAll]
  | [], b :: bs => by simp [PyData.eqvAll]
  | a :: as, [] => by simp [PyData.eqvAll]
  | a :: as, b :: bs => by
    rw [List.map_cons, List.map_cons, PyData.eqvAll, eqvAll_tD as bs, eqv_tD]
    by_cases h : a = b
    · by_cases h2 : as = bs
      · simp [h, h2]
      · simp [h, h2]
    · simp [h]
theorem eqv_ttD (a b : List (List Nat)) : PyData.eqv (.tuple (a.map tD)) (.tuple (b.map tD)) = decide (a = b) := by rw [PyData.eqv, eqvAll_tD]
theorem okSort_ttD {L : List (List (List Nat))} (h : ∀ p ∈ L, p ≠ []) : okSort (L.map fun p => PyData.tuple (p.map tD)) := by
  refine ⟨AllAlike.of alike_ttD, .inl (.inl fun d hd => ?_), fun d hd => ?_⟩
  · obtain ⟨p, hp, rfl⟩ := List.mem_map.mp hd
    cases p with
    | nil => exact absurd rfl (h _ hp)
    | cons x r => exact ⟨_, _, rfl⟩
  · obtain ⟨p, hp, rfl⟩ := List.mem_map.mp hd
    simp only [PyData.depth]
    have := depths_map (m := 1) (f := tD) (xs := p) fun y _ => by
      simp only [PyData.depth]
      have := depths_map (m := 0) (f := iD) (xs := y) fun z _ => by simp [PyData.depth]
      omega
    omega
theorem okSort_ttD0 {L : List (List (List Nat))} (h : ∀ p ∈ L, p ≠ []) : okSort0 (L.map fun p => PyData.tuple (p.map tD)) := by
  refine ⟨AllAlike.of alike_ttD, .inl fun d hd => ?_, fun d hd => ?_⟩
  · obtain ⟨p, hp, rfl⟩ := List.mem_map.mp hd
    cases p with
    | nil => exact absurd rfl (h _ hp)
    | cons x r => exact ⟨_, _, rfl⟩
  · obtain ⟨p, hp, rfl⟩ := List.mem_map.mp hd
    simp only [PyData.depth]
    have := depths_map (m := 1) (f := tD) (xs := p) fun y _ => by
      simp only [PyData.depth]
      have := depths_map (m := 0) (f := iD) (xs := y) fun z _ => by simp [PyData.depth]
      omega
    omega
theorem okSort_tD {L : List (List Nat)} (h : (∀ p ∈ L, p ≠ []) ∨ L.length ≤ 1) : okSort (L.map tD) := by
  refine ⟨AllAlike.of alike_tD, ?_, fun d hd => ?_⟩
  · rcases h with h | h
    · refine .inl (.inl fun d hd => ?_)
      obtain ⟨p, hp, rfl⟩ := List.mem_map.mp hd
      cases p with
      | nil => exact absurd rfl (h _ hp)
      | cons x r => exact ⟨_, _, rfl⟩
    · refine .inr ⟨by rw [List.length_map]; exact h, fun d hd => ?_⟩
      obtain ⟨p, hp, rfl⟩ := List.mem_map.mp hd
      exact fun z => by cases z
  · obtain ⟨p, hp, rfl⟩ := List.mem_map.mp hd
    simp only [PyData.depth]
    have := depths_map (m := 0) (f := iD) (xs := p) fun z _ => by simp [PyData.depth]
    omega
end DL

set_option maxHeartbeats 4000000
/-! DL, part zzk: expressions that surely raise where their first part does; either so or not. -/
namespace DL
open PySem PySem.Spec PySem.Calls PyProof.Rows L2

abbrev TZ := (Str → D → Prop) → Env → Prop
def bZ (K : PySem.W.Frag) (mg : Str → Option Value) (WW : WX) (t : TZ) : L2.St → Hp → Prop := fun σ H => ∃ env F ow dm R, SRx K env σ F H ow dm ∧ t R env ∧
  ∀ c a, R c a → ∀ cls d F' H', Ext dm F H F' H' → ExAt K mg F' c a cls d → WW cls d σ H'
/-- it surely raises -/
def DZ (X : Cx) (e : Expr) (t : TZ) : Prop := ∀ WW, Takes X WW → PE X e (fun σ H _ => bZ X.K X.mg WW t σ H)
/-- a call that surely raises -/
def dCallZ (S : SpecX) (π : List Nat) (t u : TWs) : TZ := fun R env => dCallX S π t u R env (fun _ => False)
section
variable {X : Cx} {e a b elt tg iter : Expr} {pos p : Pos} {x : Str} {t : TZ}
theorem dz_of {tx : TX} (h : DWX X e tx) : DZ X e (fun R env => tx R env (fun _ => False)) := fun WW tk => pe_mono (h WW tk) fun σ H Q ⟨env, F, ow, dm, R, S, q, kx⟩ => ⟨env, F, ow, dm, fun _ => False, R, S, q, fun _ z => z.elim, kx⟩
theorem dz_call {S : SpecX} {π : List Nat} {u v : TWs} (h : DWX X e (dCallX S π u v)) : DZ X e (dCallZ S π u v) := dz_of h
theorem dwx_z (h : DZ X e t) : DWX X e (fun R env _ => t R env) := fun WW tk => pe_mono (h WW tk) fun σ H Q ⟨env, F, ow, dm, P, R, S, q, _, kx⟩ => ⟨env, F, ow, dm, R, S, q, kx⟩
/-- either it doesn't raise, or it surely does -/
def dEi (tw : TW) (tz : TZ) : TX := fun R env Q => tw env Q ∨ tz R env
theorem dwx_ei {tw : TW} (h1 : DW X e tw) (h2 : DZ X e t) : DWX X e (dEi tw t) := fun WW tk =>
  ⟨fun pins s σ H Q I ⟨env, F, ow, dm, P, R, S, q, k, kx⟩ => q.elim (fun q => h1.run pins s σ H Q I ⟨env, F, ow, dm, P, S, q, k⟩) (fun q => (h2 WW tk).run pins s σ H Q I ⟨env, F, ow, dm, R, S, q, kx⟩)⟩
theorem dz_tuple (hm : X.mg "tuple" = none) (h : DZ X a t) (hg : Gl X "tuple" := by rfl) (he : starEach [a] X.env = [(false, eval a X.env)] := by rfl) : DZ X (.Call (.Name "tuple" p) [a] [] pos) t := fun WW tk =>
  pe_mono (pe_callTy cr_tupX hg hm (by decide +kernel) (pa_cons (h WW tk) pa_nil he) (by decide) (by decide) he rfl) fun σ H Q q => q
theorem dz_list (hm : X.mg "list" = none) (h : DZ X a t) (hg : Gl X "list" := by rfl) (he : starEach [a] X.env = [(false, eval a X.env)] := by rfl) : DZ X (.Call (.Name "list" p) [a] [] pos) t := fun WW tk =>
  pe_mono (pe_callTy call_list_of hg hm (by decide +kernel) (pa_cons (h WW tk) pa_nil he) (by decide) (by decide) he rfl) fun σ H Q q => q
theorem dz_len (hm : X.mg "len" = none) (h : DZ X a t) (hg : Gl X "len" := by rfl) (he : starEach [a] X.env = [(false, eval a X.env)] := by rfl) : DZ X (.Call (.Name "len" p) [a] [] pos) t := fun WW tk =>
  pe_mono (pe_callB call_len hg hm (by decide +kernel) (pa_cons (h WW tk) pa_nil he) (by decide) (by decide) he rfl) fun σ H Q q => q
theorem dz_sorted (hm : X.mg "sorted" = none) (h : DZ X a t) (hg : Gl X "sorted" := by rfl) (he : starEach [a] X.env = [(false, eval a X.env)] := by rfl) : DZ X (.Call (.Name "sorted" p) [a] [] pos) t := fun WW tk =>
  pe_mono (pe_callB cr_sortedI hg hm (by decide +kernel) (pa_cons (h WW tk) pa_nil he) (by decide) (by decide) he rfl) fun σ H Q q => q
theorem dz_ix {tb : TB} (h : DZ X a t) (hb : DB X b tb) (hs : PlainIx b := by exact fun _ _ => rfl) : DZ X (.Subscript a b pos) t := fun WW tk =>
  pe_mono (pe_ix ix_seq (h WW tk) hb hs) fun σ H Q q => q
theorem dz_lc {ifs : List Expr} {scope : Scope} {g : TGd} {tq : TQ} {tw : TW} {ks : List Nat} (own : List (Str × Nat)) (hN : X.N.Nodup) (h : DZ X iter t) (ok : blkC X.N X.env.scope scope own = true)
    (hg : ∀ (s : Shared) (H : Hp) (C : Addr) (cl : List (Str × Addr)) (fp : List Addr), DG (X.blk s H scope (compEnvC scope cl C X.env) fp) tg ks g) (ht : ∀ (s : Shared) (H : Hp) (C : Addr) (cl : List (Str × Addr)) (fp : List Addr), DTs (X.blk s H scope (compEnvC scope cl C X.env) fp) ifs tq)
    (he : ∀ (s : Shared) (H : Hp) (C : Addr) (cl : List (Str × Addr)) (fp : List Addr), DW (X.blk s H scope (compEnvC scope cl C X.env) fp) elt tw) (hc : X.calm = true := by rfl) (hs : ∀ x, foldedSetIterable iter X.env x = pure x := by intro _; rfl) :
    DZ X (.ListComp elt [⟨tg, iter, ifs, 0⟩] scope pos) t := fun WW tk =>
  pe_mono (pe_lc (g := lG X.K ks g) (tt := lT X.K tq) (te := lW X.K tw) hc hN (pi_seq (h WW tk)) (blkOk_by ok) (fun s H C cl fp => hg s H C cl fp) (fun s H C cl fp => ht s H C cl fp) (fun s H C cl fp => he s H C cl fp) hs) fun σ H Q q => q
/-- x.append(e), e may raise -/
def dAppX (i : Nat) (tw : TW) (tz : TZ) : TSd := fun E env => dApp i tw E env ∨ match env[i]? with
  | some (some (.own _)) => tz (E.ex env) env
  | _ => False
theorem ds_appendX (i : Nat) {tw : TW} {f : Expr} (h : PE X f (tBM X.K "list" rAppend (tVar i) (lWs X.K (wCons tw wNil))))
    (hz : ∀ WW, Takes X WW → PE X f (tBM X.K "list" rAppend (tVar i) (tCons (fun σ H _ => bZ X.K X.mg WW t σ H) tNil))) (hs : swapsWith f none pos.line X.env = pure false := by rfl) : DS X (.Expr f pos) (dAppX i tw t) := fun WW tk =>
  ⟨fun pins s σ H D I ⟨A, E, env, F, ow, dm, S, q, k⟩ => q.elim (fun q => (ds_append i h hs WW tk).run pins s σ H D I ⟨A, E, env, F, ow, dm, S, q, k⟩) fun q => by
    split at q
    · rename_i ws ei
      obtain ⟨l, vs, fp, hσ, hl, Fl, nM, r, nd, nmf, K⟩ := S.mut ei
      refine (ps_expr (hz WW tk) hs).run pins s σ H D I ⟨.ref l, hσ, .inl ⟨rfl, _, SqL.of hl⟩, env, F, ow, dm, _, S.x, q, fun c a hR cls d F' H' x e => k.ex _ _ _ _ _ _ _ _ _ _ (S.ext x) hR e⟩
    · exact q.elim⟩
theorem ds_appendZ (i : Nat) {tw : TW} {o a : Expr} {apos cpos : Pos} (ho : PE X o (tVar i)) (ha : DW X a tw) (hz : DZ X a t)
    (hbase : attributeBase o "append" X.env (eval o X.env) = eval o X.env := by rfl)
    (hfew : ((backTo cpos (starEach [a] X.env)).all (fun x => !x.1) && (backToKw cpos (keywordEach [] X.env)).all (fun x => x.1.isSome)
      && decide ([a].length + ([] : List Keyword).length + (if ([] : List Keyword).isEmpty then 0 else 1) < 30)) = true := by rfl)
    (hline : (apos.endLine == cpos.line) = true := by rfl) (hs2 : starEach [a] X.env = (false, eval a X.env) :: starEach [] X.env := by rfl) (hplain : (backTo cpos (starEach [] X.env)).any (·.1) = false := by rfl)
    (hs : swapsWith (.Call (.Attribute o "append" apos) [a] [] cpos) none pos.line X.env = pure false := by rfl) : DS X (.Expr (.Call (.Attribute o "append" apos) [a] [] cpos) pos) (dAppX i tw t) :=
  ds_appendX i (pe_bm PySem.F.plainAttrs_list PySem.F.slot_list_append PySem.F.type_list_append mt_append ho (daw_cons ha daw_nil hs2) hbase hfew hline hs2 hplain)
    (fun WW tk => pe_bm PySem.F.plainAttrs_list PySem.F.slot_list_append PySem.F.type_list_append mt_append ho (pa_cons (hz WW tk) pa_nil hs2) hbase hfew hline hs2 hplain) hs
end
end DL

set_option maxHeartbeats 4000000
/-! DL, part zzl: tuples that hold things other than data (frozen dicts); more expressions that surely raise in their first part. -/
namespace DL
open PySem PySem.Spec PySem.Calls PyProof.Rows L2

def TiR (K : PySem.W.Frag) (F H : Hp) : D ⊕ Oth → V → Prop
  | .inl d, v => Dp K F v d
  | .inr o, v => o.still = true ∧ o.rel K F H v []
theorem ti_mono {K : PySem.W.Frag} {F H F' H' : Hp} (e : Same F F') {i : D ⊕ Oth} {v : V} (h : TiR K F H i v) : TiR K F' H' i v := by
  cases i with
  | inl d => exact dp_same e h
  | inr o => exact ⟨h.1, o.mono e h.2 fun a ha => nomatch ha⟩
theorem tis_mono {K : PySem.W.Frag} {F H F' H' : Hp} (e : Same F F') : ∀ {its : List (D ⊕ Oth)} {vs : List V}, Paired (TiR K F H) its vs → Paired (TiR K F' H') its vs
  | _, _, .nil => .nil
  | _, _, .cons h t => .cons (ti_mono e h) (tis_mono e t)
/-- a tuple of such -/
def tupO (its : List (D ⊕ Oth)) : Oth where
  rel := fun K F H v fp => fp = [] ∧ ∃ a xs, v = .ref a ∧ XT K F a xs ∧ Paired (TiR K F H) its xs
  still := true
  tag := none
  mono := fun {K F H F' H' v fp} e h k => by
    obtain ⟨rfl, a, xs, rfl, h1, h2⟩ := h
    exact ⟨rfl, a, xs, rfl, xt_same e h1, tis_mono e h2⟩
  there := fun {K F H v fp} h a ha => by
    obtain ⟨rfl, _⟩ := h
    cases ha
  bare := fun _ {K F H v fp} h => h.1
  dic := fun h => nomatch h
def wItem : W → Option (D ⊕ Oth)
  | .fz d => some (.inl d)
  | .oth o => match o.still with
    | true => some (.inr o)
    | false => none
  | _ => none
def wItems : List W → Option (List (D ⊕ Oth))
  | [] => some []
  | w :: ws => match wItem w, wItems ws with
    | some i, some is => some (i :: is)
    | _, _ => none
def itW : D ⊕ Oth → W
  | .inl d => .fz d
  | .inr o => .oth o
theorem item_rel {K : PySem.W.Frag} {dm : DM} {F H : Hp} {w : W} {v : V} {fp : List Addr} {i : D ⊕ Oth} (r : WR K dm F H w v fp) (h : wItem w = some i) : fp = [] ∧ TiR K F H i v := by
  cases w with
  | fz d =>
    cases h
    cases r with
    | fz r => exact ⟨rfl, r⟩
  | oth o =>
    have h : (match o.still with | true => some (Sum.inr o : D ⊕ Oth) | false => none) = some i := h
    cases e : o.still with
    | true =>
      rw [e] at h
      cases h
      cases r with
      | oth r =>
        have := o.bare e r
        subst this
        exact ⟨rfl, e, r⟩
    | false => rw [e] at h; cases h
  | own ws => cases h
  | deal => cases h
  | scr ns => cases h
theorem items_rel {K : PySem.W.Frag} {dm : DM} {F H : Hp} : ∀ {ws : List W} {vs : List V} {fp : List Addr} {is : List (D ⊕ Oth)}, WRs K dm F H ws vs fp → wItems ws = some is → fp = [] ∧ Paired (TiR K F H) is vs
  | [], _, _, is, .nil, h => by cases h; exact ⟨rfl, .nil⟩
  | w :: ws, _, _, is, .cons r rs, h => by
    unfold wItems at h
    cases e1 : wItem w with
    | none => rw [e1] at h; cases h
    | some i =>
      cases e2 : wItems ws with
      | none => rw [e1, e2] at h; cases h
      | some js =>
        rw [e1, e2] at h
        cases h
        obtain ⟨rfl, g1⟩ := item_rel r e1
        obtain ⟨rfl, g2⟩ := items_rel rs e2
        exact ⟨rfl, .cons g1 g2⟩
theorem itW_rel {K : PySem.W.Frag} {dm : DM} {F H : Hp} {i : D ⊕ Oth} {v : V} (h : TiR K F H i v) : WR K dm F H (itW i) v [] := by
  cases i with
  | inl d => exact .fz h
  | inr o => exact .oth h.2
theorem paired_get {α β : Type} {R : α → β → Prop} : ∀ {xs : List α} {ys : List β} {k : Nat} {x : α}, Paired R xs ys → xs[k]? = some x → ∃ y, ys[k]? = some y ∧ R x y
  | _ :: _, _ :: _, 0, x, .cons h _, e => by cases e; exact ⟨_, rfl, h⟩
  | _ :: _, _ :: _, k + 1, x, .cons _ t, e => by
    obtain ⟨y, h1, h2⟩ := paired_get (k := k) t (by simpa using e)
    exact ⟨y, by simpa using h1, h2⟩
section
variable {X : Cx} {e a b : Expr} {es : List Expr} {pos : Pos} {t : TZ}
def dTupO (t : TWs) : TW := fun env Q => t env fun ws => ws.length ≤ sizeLine ∧ ∃ is, wItems ws = some is ∧ Q (.oth (tupO is))
theorem dw_tupO {u : TWs} {x1} (h : DAw X es u) : DW X (.Tuple es x1 pos) (dTupO u) := by
  refine pe_mono (pe_tupX h) fun σ H Q ⟨env, F, ow, dm, P, S, q, k⟩ => ?_
  refine ⟨env, F, ow, dm, _, S, q, fun ws ⟨hz, is, hi, hw⟩ vs F1 H1 fp x r nd fr => ⟨by rw [wrs_length r]; exact hz, ?_⟩⟩
  obtain ⟨rfl, rr⟩ := items_rel r hi
  intro p o hp ho
  have x2 := Ext.laid (o := .frz o (.tup vs)) x.fh x.dl hp
  have x3 := x.trans x2
  exact k _ hw _ _ _ [] x3 (.oth ⟨rfl, p, vs, rfl, .inl ⟨o, upd_same, ho⟩, tis_mono x2.ff rr⟩) List.nodup_nil (fun _ ha => nomatch ha)
/-- an item of one -/
def dIxO (t : TW) (k : Nat) : TW := fun env Q => t env fun w => ∃ is i, w = .oth (tupO is) ∧ is[k]? = some i ∧ Q (itW i)
theorem dw_ixO {tw : TW} {k : Nat} {j} {p2 : Pos} (h : DW X a tw) (hs : PlainIx (.Constant (.int (k : Int)) j p2) := by exact fun _ _ => rfl) : DW X (.Subscript a (.Constant (.int (k : Int)) j p2) pos) (dIxO tw k) := by
  refine pe_mono (pe_ix ix_seq h (dw_int (X := X) (i := (k : Int)) (j := j) (pos := p2)) hs) fun σ H Q ⟨env, F, ow, dm, P, S, q, kk⟩ => ?_
  refine ⟨env, F, ow, dm, _, S, q, fun w ⟨is, i, hw, hi, hq⟩ v F1 H1 fp x r nd fr => ?_⟩
  subst hw
  cases r with
  | oth r =>
    obtain ⟨rfl, c, xs, rfl, h1, h2⟩ := r
    obtain ⟨y, h3, h4⟩ := paired_get h2 hi
    refine ⟨env, F1, ow, dm, (fun w => w = .fz (.int (k : Int))), S.ext x, rfl, fun w2 e2 v2 F2 H2 fp2 x2 r2 _ _ => ?_⟩
    subst e2
    cases r2 with
    | fz r2 =>
      cases r2
      have x3 := x.trans x2
      refine .inr (.inl ⟨c, xs, _, y, rfl, rfl, (xt_same x2.fh (xt_same x2.ff h1)).sq, ?_, ?_⟩)
      · unfold L2.atI
        have hlt := (List.getElem?_eq_some_iff.mp h3).1
        rw [ixN_natD hlt]
        exact h3
      · exact kk _ hq _ _ _ [] x3 (itW_rel (ti_mono x2.ff h4)) List.nodup_nil (fun _ ha => nomatch ha)
theorem dz_op {op : Operator} {r : R2} {tb : TB} (ho : OpR X (binaryOp op) r) (h : DZ X a t) (hb : DB X b tb) : DZ X (.BinOp a op b pos) t := fun WW tk =>
  pe_mono (pe_op ho (h WW tk) hb) fun σ H Q q => q
theorem dz_cmp {op : CmpOp} {r : R2} {tb : TB} (ho : OpR X (compareOp op) r) (h : DZ X a t) (hb : DB X b tb) (hm : behindInMarks op b = false := by first | exact nomark _ | rfl) : DZ X (.Compare a [op] [b] pos) t := fun WW tk =>
  pe_mono (pe_cmpR ho (h WW tk) hb hm) fun σ H Q q => q
end
end DL

set_option maxHeartbeats 4000000
/-! DL, part zzm: `&` of ints; sorted(set(xs)) of a list of fewer than 64 tuples of as many small numbers. -/
namespace DL
open PySem PySem.Spec PySem.Calls PyProof.Rows L2

def codeN (B : Nat) : List Nat → Nat
  | [] => 0
  | x :: r => x * B ^ r.length + codeN B r
theorem code_cast (B : Nat) : ∀ r : List Nat, TS.code (B : Int) (r.map fun (n : Nat) => (n : Int)) = ((codeN B r : Nat) : Int)
  | [] => rfl
  | x :: r => by
    show (x : Int) * (B : Int) ^ (r.map fun (n : Nat) => (n : Int)).length + TS.code (B : Int) (r.map fun (n : Nat) => (n : Int)) = _
    rw [code_cast B r, List.length_map]
    show _ = (((x * B ^ r.length + codeN B r : Nat)) : Int)
    rw [Int.natCast_add, Int.natCast_mul, Int.natCast_pow]
theorem codeN_lt {B : Nat} : ∀ {r : List Nat}, (∀ x ∈ r, x < B) → codeN B r < B ^ r.length
  | [], _ => by simp [codeN]
  | x :: r, h => by
    have h1 := codeN_lt (r := r) fun y hy => h y (by simp [hy])
    have h2 := h x (by simp)
    show x * B ^ r.length + codeN B r < B ^ (r.length + 1)
    have h3 : (x + 1) * B ^ r.length ≤ B * B ^ r.length := Nat.mul_le_mul_right _ h2
    rw [Nat.pow_succ, Nat.mul_comm (B ^ r.length)]
    rw [Nat.add_mul, Nat.one_mul] at h3
    omega
theorem codeN_inj {B : Nat} : ∀ {a b : List Nat}, a.length = b.length → (∀ x ∈ a, x < B) → (∀ x ∈ b, x < B) → codeN B a = codeN B b → a = b
  | [], [], _, _, _, _ => rfl
  | [], _ :: _, h, _, _, _ => by simp at h
  | _ :: _, [], h, _, _, _ => by simp at h
  | x :: a, y :: b, hl, ha, hb, h => by
    have hl' : a.length = b.length := by simpa using hl
    have l1 := codeN_lt (r := a) fun z hz => ha z (by simp [hz])
    have l2 := codeN_lt (r := b) fun z hz => hb z (by simp [hz])
    have h' : x * B ^ a.length + codeN B a = y * B ^ b.length + codeN B b := h
    rw [← hl'] at h' l2
    generalize B ^ a.length = P at *
    have hP : 0 < P := by omega
    have e1 : x = y := by
      rcases Nat.lt_trichotomy x y with g | g | g
      · have : (x + 1) * P ≤ y * P := Nat.mul_le_mul_right _ g
        rw [Nat.add_mul, Nat.one_mul] at this
        omega
      · exact g
      · have : (y + 1) * P ≤ x * P := Nat.mul_le_mul_right _ g
        rw [Nat.add_mul, Nat.one_mul] at this
        omega
    subst e1
    have e2 : codeN B a = codeN B b := by omega
    rw [codeN_inj hl' (fun z hz => ha z (by simp [hz])) (fun z hz => hb z (by simp [hz])) e2]
section
variable {X : Cx} {e a b : Expr} {pos p p2 q : Pos} {ta tb : TB}
abbrev dAndB (ta tb : TB) : TW := dOp2 (gI cT fun i j => .int (Builtin.bitAnd i j)) ta tb
theorem dw_andB (ha : DB X a ta) (hb : DB X b tb) : DW X (.BinOp a .BitAnd b pos) (dAndB ta tb) := dw_op op_and snd_I0 ha hb
/-- rows of as many small numbers, fewer than 64 of them -/
def gSortSetT (B : Nat) : D → (W → Prop) → Prop := fun d P => ∃ (tb : List (List Nat)) (w : Nat), d = .list (tb.map tD) ∧ tb.length < 64 ∧ 1 ≤ w ∧ (∀ r ∈ tb, r.length = w ∧ ∀ x ∈ r, x < B) ∧
  ∀ L : List (List Nat), L.Nodup → (∀ r, r ∈ L ↔ r ∈ tb) → L.Pairwise (fun q r => codeN B q ≤ codeN B r) → P (.own (L.map fun r => .fz (tD r)))
def dSortSetT (B : Nat) (ta : TB) : TW := fun env Q => ta env fun d => gSortSetT B d Q
theorem intI_inj {a b : List Nat} (h : (a.map fun (n : Nat) => (n : Int)) = b.map fun (n : Nat) => (n : Int)) : a = b := by
  induction a generalizing b with
  | nil => cases b with
    | nil => rfl
    | cons y b => simp at h
  | cons x a ih => cases b with
    | nil => simp at h
    | cons y b =>
      rw [List.map_cons, List.map_cons] at h
      injection h with h1 h2
      rw [ih h2, Int.ofNat.inj h1]
theorem cast_ks {ks : List (Addr × List Nat)} : ∀ {L : List (Addr × List Int)}, (∀ p ∈ L, p ∈ ks.map fun p => (p.1, p.2.map fun (n : Nat) => (n : Int))) → ∃ ms : List (Addr × List Nat), L = (ms.map fun p => (p.1, p.2.map fun (n : Nat) => (n : Int))) ∧ ∀ m ∈ ms, m ∈ ks
  | [], _ => ⟨[], rfl, fun _ h => nomatch h⟩
  | p :: L, h => by
    obtain ⟨ms, e, hm⟩ := cast_ks (L := L) fun q hq => h q (List.mem_cons_of_mem _ hq)
    obtain ⟨m, h1, h2⟩ := List.mem_map.mp (h p (List.mem_cons_self ..))
    refine ⟨m :: ms, by rw [List.map_cons, ← e, h2], fun z hz => ?_⟩
    rcases List.mem_cons.mp hz with rfl | hz
    · exact h1
    · exact hm z hz
theorem dp_ks {K : PySem.W.Frag} {F : Hp} : ∀ {ms : List (Addr × List Nat)}, (∀ m ∈ ms, Dp K F (.ref m.1) (tD m.2)) → DpAll K F (ms.map fun p => V.ref p.1) ((ms.map (·.2)).map tD)
  | [], _ => .nil
  | m :: ms, h => .cons (h m (List.mem_cons_self ..)) (dp_ks fun z hz => h z (List.mem_cons_of_mem _ hz))
/-- the tuples of a table, by their places -/
theorem tab_ks {K : PySem.W.Frag} {F : Hp} : ∀ {tb : List (List Nat)} {vs : List V}, DpAll K F vs (tb.map tD) → ∃ ks : List (Addr × List Nat), vs = ks.map (fun p => V.ref p.1) ∧ tb = ks.map (·.2) ∧ ∀ p ∈ ks, Dp K F (.ref p.1) (tD p.2) ∧ SqT K F p.1 ((p.2.map fun (n : Nat) => (n : Int)).map V.int)
  | [], _, h => by cases h; exact ⟨[], rfl, rfl, fun _ h => nomatch h⟩
  | r :: tb, _, h => by
    cases h with
    | cons h1 h2 =>
      obtain ⟨ks, e1, e2, e3⟩ := tab_ks h2
      have key : ∀ {v : V} {d : D}, Dp K F v d → d = tD r → ∃ a, v = .ref a ∧ SqT K F a ((r.map fun (n : Nat) => (n : Int)).map V.int) := by
        intro v d hd e
        cases hd with
        | tup g1 g2 =>
          rename_i a xs ds
          injection e with e
          subst e
          refine ⟨a, rfl, ?_⟩
          have : xs = (r.map fun (n : Nat) => (n : Int)).map V.int := by
            have g3 : DpAll K F xs ((r.map fun (n : Nat) => (n : Int)).map PyData.int) := by rw [List.map_map]; exact g2
            exact dpAll_ints g3
          rw [← this]
          exact g1.sq
        | _ => cases e
      obtain ⟨a, e, g⟩ := key h1 rfl
      subst e
      refine ⟨(a, r) :: ks, by rw [List.map_cons, e1], by rw [List.map_cons, ← e2], fun p hp => ?_⟩
      rcases List.mem_cons.mp hp with rfl | hp
      · exact ⟨h1, g⟩
      · exact e3 p hp
theorem dw_sortSetT (B : Nat) (hu : X.A.units + 64 < cLine) (hm : X.mg "sorted" = none) (hm2 : X.mg "set" = none) (ha : DB X e ta) (hc : X.calm = true := by rfl) (hg : Gl X "sorted" := by rfl) (hg2 : Gl X "set" := by rfl) (na : starEach [e] X.env = (false, eval e X.env) :: starEach [] X.env := by rfl)
    (na2 : starEach [Expr.Call (.Name "set" p2) [e] [] q] X.env = (false, eval (Expr.Call (.Name "set" p2) [e] [] q) X.env) :: starEach [] X.env := by rfl) :
    DW X (.Call (.Name "sorted" p) [.Call (.Name "set" p2) [e] [] q] [] pos) (dSortSetT B ta) := by
  have h1 : PE X (.Call (.Name "set" p2) [e] [] q) (tCB (rSetOfT X.K X.prog X.w) (tCons (lB X.K ta) tNil)) := pe_callTy (cr_setOfT hc hu) hg2 hm2 (by decide +kernel) (pa_cons ha pa_nil na) (by decide) (by decide) na rfl
  have h2 : PE X (.Call (.Name "sorted" p) [.Call (.Name "set" p2) [e] [] q] [] pos) (tCB (rSortedT X.K X.prog X.w) (tCons (tCB (rSetOfT X.K X.prog X.w) (tCons (lB X.K ta) tNil)) tNil)) := pe_callB (cr_sortedT hc) hg hm (by decide +kernel) (pa_cons h1 pa_nil na2) (by decide) (by decide) na2 rfl
  refine pe_mono h2 fun σ H Q ⟨env, F, ow, dm, P, S, q, k⟩ => ?_
  refine ⟨env, F, ow, dm, _, S, q, fun d hd v F1 H1 x r => ?_⟩
  obtain ⟨tb, w, rfl, hl, hw, hr, hq⟩ := hd
  obtain ⟨a, us, rfl, hs, rr⟩ := r.lst_inv x.fh
  obtain ⟨ks, e1, e2, e3⟩ := tab_ks rr
  subst e1
  have hF : ∀ p ∈ ks, SqT X.K H1 p.1 ((p.2.map fun (n : Nat) => (n : Int)).map V.int) := fun p hp => sqT_same x.fh (e3 p hp).2
  refine ⟨a, ks.map fun p => (p.1, p.2.map fun (n : Nat) => (n : Int)), rfl, ?_, fun p hp => ?_, ?_, fun a2 L hn hsub hall => ?_⟩
  · rw [List.map_map]; exact .of hs
  · obtain ⟨p0, h0, rfl⟩ := List.mem_map.mp hp
    exact hF p0 h0
  · rw [List.length_map]
    rw [e2, List.length_map] at hl
    exact hl
  · have x0 : Ext dm F1 H1 F1 (upd H1 a2 (SetTO X.prog X.w a2 L)) := Ext.laidOwn x.fh x.dl hn
    have sm : Same H1 (upd H1 a2 (SetTO X.prog X.w a2 L)) := fun b o h => by rw [upd_ne (ne_of_none h hn)]; exact h
    refine ⟨a2, L, w, (B : Int), rfl, upd_same, fun p hp => ?_, hw, fun p hp => ?_, fun L' p2 hpm hnd hl2 hso hp2 => ?_⟩
    · obtain ⟨p0, h0, rfl⟩ := List.mem_map.mp (hsub p hp)
      exact sqT_same sm (hF p0 h0)
    · obtain ⟨p0, h0, rfl⟩ := List.mem_map.mp (hsub p hp)
      have g := hr p0.2 (by rw [e2]; exact List.mem_map.mpr ⟨p0, h0, rfl⟩)
      refine ⟨by rw [List.length_map]; exact g.1, fun m hm => ?_⟩
      obtain ⟨n, hn1, rfl⟩ := List.mem_map.mp hm
      have := g.2 n hn1
      omega
    · obtain ⟨ms, e, hm⟩ := cast_ks (L := L') fun p hp => hsub p (hpm.mem_iff.mp hp)
      subst e
      have mm : ∀ r, r ∈ ms.map (·.2) ↔ r ∈ tb := fun r => by
        constructor
        · intro h
          obtain ⟨m, h1, rfl⟩ := List.mem_map.mp h
          rw [e2]
          exact List.mem_map.mpr ⟨m, hm m h1, rfl⟩
        · intro h
          rw [e2] at h
          obtain ⟨m, h1, rfl⟩ := List.mem_map.mp h
          have h2 := hall _ (List.mem_map.mpr ⟨m, h1, rfl⟩)
          obtain ⟨q0, h3, h4⟩ := List.mem_map.mp h2
          have h5 := hpm.mem_iff.mpr h3
          obtain ⟨m2, h6, h7⟩ := List.mem_map.mp h5
          refine List.mem_map.mpr ⟨m2, h6, intI_inj ?_⟩
          have := congrArg Prod.snd h7
          exact this.trans h4
      have nd : (ms.map (·.2)).Nodup := by
        have := hnd
        rw [List.map_map] at this
        have h2 : (ms.map ((fun p : Addr × List Int => p.2) ∘ fun p : Addr × List Nat => (p.1, p.2.map fun (n : Nat) => (n : Int)))) = (ms.map (·.2)).map fun r => r.map fun (n : Nat) => (n : Int) := by rw [List.map_map]; rfl
        rw [h2] at this
        exact List.Pairwise.of_map _ (fun _ _ h e => h (congrArg _ e)) this
      have so : (ms.map (·.2)).Pairwise fun q r => codeN B q ≤ codeN B r := by
        refine List.pairwise_map.mpr ((List.pairwise_map.mp hso).imp fun {a b} h => ?_)
        simp only [code_cast] at h
        omega
      have hz : P (.own (((ms.map (·.2)).map tD).map .fz)) := by
        rw [List.map_map]
        exact hq _ nd mm so
      rw [List.map_map]
      exact got_lst0 x0.fh x0.dl (dp_ks (K := X.K) (F := F1) (ms := ms) fun m h => (e3 m (hm m h)).1) (got_of (x.trans x0) (k _ hz)) hp2
end
end DL

set_option maxHeartbeats 4000000
/-! DL, part zzn: dict(xs) of a list or tuple of pairs whose keys are ints. -/
namespace DL
open PySem PySem.Spec PySem.Calls PyProof.Rows L2
abbrev prD (p : Int × D) : D := .tuple [.int p.1, p.2]
abbrev prK (p : Int × D) : D × D := (.int p.1, p.2)
section
variable {X : Cx} {pins : List (Addr × Obj)} {σ : L2.St} {F H : Hp} {s : Shared}
theorem prs_of (I : Inv X pins σ H s) (hs : Same F H) : ∀ {ps : List (Int × D)} {xs : List V} {us : List Value}, DpAll X.K F xs (ps.map prD) → Vals xs us →
    ∃ (Ts : List Addr) (prs : List (Value × Value)) (ys : List (Int × Value)), us = Ts.map Value.ref ∧ Ts.length = ps.length ∧ prs.length = ps.length ∧ ys.length = ps.length ∧
      (∀ (j : Nat) (k v : Value), prs[j]? = some (k, v) → ∃ T, Ts[j]? = some T ∧ s.heap.IsTuple T #[k, v]) ∧ Paired (YR X.K F) (ps.map prK) ys ∧ ∀ (j : Nat) (k v : Value), prs[j]? = some (k, v) → ∃ i, ys[j]? = some (i, v) ∧ Value.isInt i k = true
  | [], _, _, .nil, .nil => ⟨[], [], [], rfl, rfl, rfl, rfl, (fun j k v h => by simp at h), .nil, fun j k v h => by simp at h⟩
  | p :: ps, x :: xs, u :: us, .cons h t, .cons r rr => by
    obtain ⟨Ts, prs, ys, e1, e2, e3, e4, e5, e6, e7⟩ := prs_of I hs t rr
    cases h with
    | tup hx hd =>
      rename_i a vs
      obtain rfl : u = Value.ref a := r
      cases hd with
      | cons d1 hd =>
        cases hd with
        | cons d2 hd =>
          cases hd
          cases d1
          rename_i v2
          obtain ⟨its, rv, ht, _⟩ := I.tuple (sqT_same hs hx.sq)
          cases rv with
          | cons r1 rv =>
            cases rv with
            | cons r2 rv =>
              cases rv
              rename_i u1 u2
              obtain ⟨tk, rfl⟩ := r1
              refine ⟨a :: Ts, (.int p.1 tk, u2) :: prs, (p.1, u2) :: ys, by rw [e1]; rfl, by simp [e2], by simp [e3], by simp [e4], fun j k v hj => ?_, .cons ⟨rfl, v2, d2, r2⟩ e6, fun j k v hj => ?_⟩
              · cases j with
                | zero =>
                  simp at hj
                  obtain ⟨rfl, rfl⟩ := hj
                  exact ⟨a, rfl, by simpa [IsTup, Heap.IsTuple] using ht⟩
                | succ j => simpa using e5 j k v (by simpa using hj)
              · cases j with
                | zero =>
                  simp at hj
                  obtain ⟨rfl, rfl⟩ := hj
                  exact ⟨p.1, rfl, by simp [Value.isInt]⟩
                | succ j => simpa using e7 j k v (by simpa using hj)
end
def rDictP (K : PySem.W.Frag) : List V → Hp → VK → Prop := fun vs H Q => ∃ (a : Addr) (xs : List V) (ps : List (Int × D)) (F : Hp), vs = [V.ref a] ∧ (SqL K H a xs ∨ XT K H a xs) ∧ Same F H ∧ DpAll K F xs (ps.map prD) ∧ ps.length ≤ sizeLine ∧
  ∀ (p : Addr) (es : Array DictEntry) (ep : Nat), H p = none → Paired (EntR K F) (putAll (ps.map prK)) es.toList → WK (putAll (ps.map prK)) → Q (.ref p) (upd H p (rawO p es ep))
theorem cr_dictP {X : Cx} (hcalm : X.calm = true) : CallR X (.type "dict") (rDictP X.K) := by
  intro pins s σ H vs us Q I r h
  obtain ⟨a, xs, ps, F, rfl, hs, hF, hd, hz, q⟩ := h
  rw [Vals.ref1 r]
  have hm : (s.heap.objs.size == sysModules) = false := beq_eq_false_iff_ne.mpr (Nat.ne_of_gt I.big)
  have fin : ∀ (us : List Value), Vals xs us → ∀ T, (T = "list" ∨ T = "tuple") → PlainSeq T s.heap a us.toArray → wpAny (model X.prog X.w) X.A (call (.type "dict") [.ref a]) (EP X pins σ Q) X.xe s := by
    intro us rv T hT pl
    obtain ⟨Ts, prs, ys, rfl, e2, e3, e4, e5, e6, e7⟩ := prs_of I hF hd rv
    have items : PairItems s.heap (Ts.map Value.ref).toArray (fun j => (Ts[j]?).getD 0) prs := by
      refine ⟨by rw [List.size_toArray, List.length_map, e2, e3], fun j k v hj => ?_⟩
      obtain ⟨T', h1, h2⟩ := e5 j k v hj
      refine ⟨?_, ?_⟩
      · show (Ts.map Value.ref).toArray[j]? = _
        rw [List.getElem?_toArray, List.getElem?_map, h1]
        show some (Value.ref T') = some (Value.ref ((Ts[j]?).getD 0))
        rw [h1]
        rfl
      · show PairAt s.heap ((Ts[j]?).getD 0) k v
        rw [h1]
        exact .inl h2
    have hc : PairsHave (intKind X.prog X.w) prs.length (PairRel prs) ys := ⟨by rw [e4, e3], fun j key v hj => e7 j key v hj⟩
    have done : ∀ h' tk, h'.DictOf (intKind X.prog X.w) s.heap.objs.size (merged [] ys) → (∀ b o, b ∉ ([] : List Addr) → s.heap.get? b = some o → h'.get? b = some o) → EP X pins σ Q (.ref s.heap.objs.size) { s with heap := h', toks := tk } := by
      intro h' tk dd hk
      obtain ⟨q1, wk⟩ := all_I (X := X) e6 .nil WK.nil (fun p hp => by
        obtain ⟨x, _, rfl⟩ := List.mem_map.mp hp
        rfl) (fun p hp => by
        obtain ⟨x, _, rfl⟩ := List.mem_map.mp hp
        rfl) (fun _ h => nomatch h) (by rw [List.length_map]; simpa using hz)
      obtain ⟨o', es', ep', hq, g2, g3, g4, g5, _⟩ := dd
      refine ⟨.ref s.heap.objs.size, upd H s.heap.objs.size (rawO s.heap.objs.size es' ep'), I.laid (t' := tk) (fun b o e => hk b o (fun z => nomatch z) e) (Nat.le_refl _) (rawO_ok ⟨o', hq, g2, g3⟩ hm), rfl, q _ es' ep' (I.hok.fresh (Nat.le_refl _)) ?_ wk⟩
      exact ents_yback q1 g5 fun e hm => g4 e (Array.mem_toList_iff.mp hm)
    rcases hT with rfl | rfl
    · exact call_dict_pairs (PairArg.list a _ _ prs) (I.ok.hd hcalm) ⟨pl, items⟩ hc (by rw [e3]; exact hz) done
    · exact call_dict_pairs (PairArg.tuple a _ _ prs) (I.ok.hd hcalm) ⟨pl, items⟩ hc (by rw [e3]; exact hz) done
  rcases hs with hs | hs
  · obtain ⟨its, rv, ⟨o, n, h1, h2, h3, h4⟩, _⟩ := I.list hs
    exact fin its rv "list" (.inl rfl) ⟨o, n, h1, h2, h3, h4⟩
  · obtain ⟨its, rv, ⟨o2, h1, h2, n, h4⟩, _⟩ := I.tuple hs.sq
    obtain ⟨_, x2⟩ := xt_is I hs
    obtain ⟨ob, y1, y2⟩ := x2 a rfl
    rw [h1] at y1
    cases y1
    exact fin its rv "tuple" (.inr rfl) ⟨o2, n, h1, h2, y2, h4⟩
def gDictP : List D → (W → Prop) → Prop := fun ds P => match ds with
  | [.list xs] => ∃ ps : List (Int × D), xs = ps.map prD ∧ ps.length ≤ sizeLine ∧ P (.oth (dicO true (putAll (ps.map prK))))
  | [.tuple xs] => ∃ ps : List (Int × D), xs = ps.map prD ∧ ps.length ≤ sizeLine ∧ P (.oth (dicO true (putAll (ps.map prK))))
  | _ => False
theorem got_dic {K : PySem.W.Frag} {dm : DM} {F H : Hp} {Q : VK} {kvs : List (D × D)} {p : Addr} {es : Array DictEntry} {ep : Nat} (hs : Same F H) (dl : ∀ p, dm = some p → DealAt F H p.1 p.2) (hp : H p = none) (he : Paired (EntR K F) kvs es.toList) (wk : WK kvs)
    (h : Got K dm F H Q (.oth (dicO true kvs))) : Q (.ref p) (upd H p (rawO p es ep)) := by
  have fn : F p = none := hs.free hp
  refine h _ F _ [p] (Ext.laidOwn hs dl hp) (.oth ⟨p, es, ep, rfl, he, wk, ?_⟩) (by simp) fun a ha => by rw [List.mem_singleton.mp ha]; exact hp
  rw [if_pos rfl]
  exact ⟨fn, upd_same, rfl⟩
theorem snd_dictP {K : PySem.W.Frag} : SndC K (rDictP K) gDictP := by
  intro dm F H vs ds Q P hs dl r g k
  unfold gDictP at g
  split at g
  · obtain ⟨ps, rfl, hz, g⟩ := g
    obtain ⟨v, rfl, h⟩ := dball1 r
    obtain ⟨a, us, rfl, hq, rr⟩ := h.lst_inv hs
    exact ⟨a, us, ps, F, rfl, .inl (.of hq), hs, rr, hz, fun p es ep hp he wk => got_dic hs dl hp he wk (k _ g)⟩
  · obtain ⟨ps, rfl, hz, g⟩ := g
    obtain ⟨v, rfl, h⟩ := dball1 r
    obtain ⟨a, us, rfl, hq, _, rr⟩ := h.tup_inv hs
    exact ⟨a, us, ps, F, rfl, .inr (xt_same hs hq), hs, rr, hz, fun p es ep hp he wk => got_dic hs dl hp he wk (k _ g)⟩
  · exact g.elim
abbrev dDictP (t : TDs) : TW := dCall gDictP t
theorem dw_dictP {X : Cx} {e : Expr} {pos p : Pos} {t : TDs} (hm : X.mg "dict" = none) (ha : DA X [e] t) (hcalm : X.calm = true := by rfl) (hg : Gl X "dict" := by rfl) (he : starEach [e] X.env = [(false, eval e X.env)] := by rfl) :
    DW X (.Call (.Name "dict" p) [e] [] pos) (dDictP t) := dw_callT (cr_dictP hcalm) snd_dictP hm ha hg (he := he)
end DL

set_option maxHeartbeats 4000000
/-! DL, part zzo: for a, b in d.items(), d a dict whose keys are ints. -/
namespace DL
open PySem PySem.Spec PySem.Calls PyProof.Rows L2
def ItP (d : Addr) (es : Array DictEntry) (ep : Nat) (ys : List (Int × Value)) : It :=
  ⟨fun i H => H d = some (rawO d es ep) ∧ i < ys.length, fun i H x H' => ∃ T ob k u vv, x = .ref T ∧ H T = none ∧ ob.dict = none ∧ H' = upd H T (.frz ob (.tup [.int k, vv])) ∧ ys[i]? = some (k, u) ∧ RelV vv u, fun i H => H d = some (rawO d es ep) ∧ ys.length ≤ i⟩
/-- the entries are ints with values -/
structure IntEs (P : Program) (w : World) (es : Array DictEntry) (ys : List (Int × Value)) : Prop where
  pr : Pairs (intKind P w) es.toList ys
  ks : ∀ e ∈ es, ∃ k, (intKind P w).is k e.key = true ∧ e.hash = (intKind P w).hash k
  nd : (ys.map (·.1)).Nodup
  vs : ∀ p ∈ ys, ∃ vv, RelV vv p.2
theorem IntEs.at {P : Program} {w : World} {h : Heap} {d : Addr} {es : Array DictEntry} {ep : Nat} {ys : List (Int × Value)} (x : IntEs P w es ys) (r : h.DictRaw d es ep) : h.DictAt (intKind P w) d ys ep := by
  obtain ⟨o, ho, hx, hd⟩ := r
  exact ⟨o, es, ho, hx, hd, x.ks, x.pr, x.nd⟩
theorem turn_itemsR {P : Program} {w : World} {K : PySem.W.Frag} {elts : List Expr} {kk : Nat} {tpos : Pos} {d : Addr} {es : Array DictEntry} {ep : Nat} {ys : List (Int × Value)} (x : IntEs P w es ys) (it : Addr) :
    Turn P w K (.Tuple elts kk tpos) (ItP d es ep ys) [it] it (fun i h => ∃ ok ov, IsItemIter h it d i ys.length ep ok ov) where
  mem := by simp
  obj := fun i h st b hb => by
    have e : b = it := by simpa using hb
    subst e
    obtain ⟨ok, ov, e⟩ := st
    exact ⟨_, e, fun v z => nomatch z⟩
  keep := fun i h h' st k => let ⟨ok, ov, e⟩ := st; ⟨ok, ov, k it (by simp) _ e⟩
  item := by
    intro X hP hw hK hc i pins s σ H E I hf st hg
    subst hP hw hK
    obtain ⟨hd, hi⟩ := hg
    obtain ⟨raw, h2⟩ := (show s.heap.DictRaw d es ep ∧ (d == sysModules) = false from (I.hok d _ hd).1)
    have hm := x.at raw
    obtain ⟨⟨k, u⟩, hkv⟩ : ∃ p, ys[i]? = some p := ⟨ys[i], List.getElem?_eq_getElem hi⟩
    obtain ⟨vv, rv⟩ := x.vs _ (List.mem_of_getElem? hkv)
    obtain ⟨ok, ov, he⟩ := st
    have hlt : it < s.heap.objs.size := Heap.lt_size he
    refine wpAny_pyNext_items_item he hm hkv fun key h' hkey ho hT hz hk => ?_
    obtain ⟨tk, ek⟩ := Value.isInt_shape (show Value.isInt k key = true from hkey)
    refine ⟨_, rfl, wpAny_letOwnedTupleGo_items (s := { s with heap := h' }) ho fun h'' he' sb => ?_⟩
    have hT2 : h''.get? s.heap.objs.size = some { cls := .type "tuple", data := .seq #[key, u] } := (sb.2 _ (Nat.ne_of_gt hlt)).trans hT
    have I1 : Inv X pins σ (upd H s.heap.objs.size (.frz _ (.tup [.int k, vv]))) { s with heap := h'' } := I.turnedNew (t' := s.toks) (ch := [it])
      (fun b ob hb e => (sb.2 b (by simpa using hb)).trans (hk b ob (by simpa using hb) e)) hf (Nat.le_refl _)
      ⟨hT2, by show 2 ≤ sizeLine; decide, [key, u], .cons ⟨tk, ek⟩ (.cons rv .nil), ⟨_, hT2, rfl, _, rfl⟩⟩
    refine ⟨.ref s.heap.objs.size, _, I1, rfl, ⟨_, _, k, u, vv, rfl, I.hok.fresh (Nat.le_refl _), rfl, rfl, hkv, rv⟩, ⟨key, u, he'⟩, fun b hb => ?_⟩
    have e : b = it := by simpa using hb
    rw [e, upd_ne (Nat.ne_of_lt hlt)]
    exact (hf it (by simp)).1
  done := by
    intro X hP hw hK hc i pins s σ H E I hf st hg
    subst hP hw hK
    obtain ⟨hd, hi⟩ := hg
    obtain ⟨f0, f1, f2, f3, f4, f5⟩ := hf it (by simp)
    obtain ⟨raw, h2⟩ := (show s.heap.DictRaw d es ep ∧ (d == sysModules) = false from (I.hok d _ hd).1)
    obtain ⟨ok, ov, he⟩ := st
    exact wpAny_pyNext_items_end (I.ok.hd hc) he (x.at raw) (List.getElem?_eq_none hi) fun h' eb => ⟨rfl, I.turned (t' := s.toks) (fun b ob hb e => eb b ob hb e) f0 f1 f3 f4 f5⟩
  self := fun A i s Q E st h => let ⟨_, _, e⟩ := st; PySem.W.kcp_self e h
theorem pi_itemsR {X : Cx} {e : Expr} {elts : List Expr} {kk : Nat} {tpos apos cpos : Pos} {td : TE} (he : PE X e td) (hbase : attributeBase e "items" X.env (eval e X.env) = eval e X.env := by rfl) (hline : (apos.endLine == cpos.line) = true := by rfl) :
    PI X (.Tuple elts kk tpos) (.Call (.Attribute e "items" apos) [] [] cpos) (fun σ H R => td σ H fun x H1 => ∃ d es ep ys, x = .ref d ∧ IntEs X.prog X.w es ys ∧ H1 d = some (rawO d es ep) ∧ R (ItP d es ep ys) H1) := by
  refine ⟨fun pins s σ H R I h => ?_⟩
  have hdK : ∀ {s1 : Shared} {H1 : Hp} {d : Addr} {es : Array DictEntry} {ep : Nat}, Inv X pins σ H1 s1 → H1 d = some (rawO d es ep) → s1.heap.DictRaw d es ep ∧ (d == sysModules) = false := fun I1 hd => (I1.hok _ _ hd).1
  refine wpAny_Call_method (T := "dict") (id := "dict.items") hbase rfl hline F.plainAttrs_dict F.slot_dict_items F.type_dict_items (thn (he.run pins s σ H _ I h) fun u s1 ⟨x, H1, I1, rx, d, es, ep, ys, ex, hx, hd, q⟩ => ?_)
  subst ex
  obtain rfl : u = Value.ref d := rx
  obtain ⟨raw, hs⟩ := hdK I1 hd
  have hm := hx.at raw
  have hof : s1.heap.DictOf (intKind X.prog X.w) d ys := let ⟨o, es, a1, a2, a3, a4, a5, a6⟩ := hm; ⟨o, es, ep, a1, a2, a3, a4, a5, a6⟩
  refine ⟨hof.typeIs, hof.mapOf.noDict, ?_⟩
  have I2 : Inv X pins σ H1 { s1 with heap := s1.heap.push { cls := .type "dict_items", data := .fields #[.ref d] } } := I1.kept (t' := s1.toks) fun b ob q => Heap.get?_push_of_some _ q
  have fin : wpAny (model X.prog X.w) X.A (pyIter (.ref s1.heap.objs.size)) (PIE X pins σ (.Tuple elts kk tpos) R) X.xe { s1 with heap := s1.heap.push { cls := .type "dict_items", data := .fields #[.ref d] } } := by
    exact wpAny_pyIter_items (d := d) (knd := intKind X.prog X.w) ⟨_, Heap.get?_push_size _ rfl, rfl, rfl⟩ (hm.push _) (pi_one (tk := s1.toks) I2 _ (turn_itemsR hx _) ⟨.none, .none, Heap.get?_push_size _ rfl⟩ q)
  show wpAny _ _ (callWith cpos (.builtin "dict.items") [.ref d] [] []) _ X.xe s1
  exact method_meetsIn F.slot_dict_items F.entry_dict_items rfl (PySem.evalArgs_none ⟨rfl, hof.typeIs, F.args_dict_items_1 _, _, meets_dict_items (intKind X.prog X.w) d hs, ⟨ys, hof⟩, fin⟩)
theorem itr_items {K : PySem.W.Frag} {F1 H1 : Hp} {C : Addr → Prop} {a : Addr} {es : Array DictEntry} {ep : Nat} {kvs : List (D × D)} {ys : List (Int × Value)} (hq : ∀ F H, Same F1 F → Same F H → (∀ b, C b → H b = H1 b) → H a = some (rawO a es ep)) (r : Paired (YR K F1) kvs ys) :
    ItR K C F1 H1 (ItP a es ep ys) (kvs.map fun p => .tuple [p.1, p.2]) := fun dm F H h1 h2 h3 h4 => by
  have q := hq F H h1 h2 h4
  have l : kvs.length = ys.length := Paired.length r
  refine ⟨fun i d hd => ?_, ⟨q, by rw [List.length_map, l]; exact Nat.le_refl _⟩⟩
  rw [List.getElem?_map] at hd
  cases hk : kvs[i]? with
  | none => rw [hk] at hd; cases hd
  | some p =>
    rw [hk] at hd
    cases hd
    have hi : i < ys.length := by rw [← l]; exact (List.getElem?_eq_some_iff.mp hk).1
    refine ⟨⟨q, hi⟩, fun x H' ⟨T, ob, k, u, vv, e1, hT, hob, e2, e3, e4⟩ => ?_⟩
    subst e1 e2
    obtain ⟨y, hy, h5, vv2, h6, h7⟩ := paired_get r hk
    rw [e3] at hy
    cases hy
    obtain rfl := RelV.inj e4 h7
    obtain ⟨F', x1, x2⟩ := pair_new h2 h3 hT hob (.int k) (dp_same h1 h6)
    exact ⟨F', x1, by show Dp K F' (V.ref T) (.tuple [p.1, p.2]); rw [h5]; exact x2⟩
/-- the pairs of a dict; frozen if st -/
def iItemsD (st : Bool) (i : Nat) : TIt := fun env Q => match dicA env i with
  | some (o, kvs) => (o = true → st = false) ∧ (∀ p ∈ kvs, isTu p.1 = false) ∧ Q (kvs.map fun p => .tuple [p.1, p.2])
  | none => False
theorem di_items {X : Cx} {x : Str} {p apos cpos tpos : Pos} {elts : List Expr} {kk : Nat} {st : Bool} (i : Nat) (hx : PE X (.Name x p) (tVar i)) (hline : (apos.endLine == cpos.line) = true := by rfl) : DI X st (.Tuple elts kk tpos) (.Call (.Attribute (.Name x p) "items" apos) [] [] cpos) (iItemsD st i) := by
  refine pi_mono (pi_itemsR hx (hline := hline)) fun σ H R ⟨env, F, ow, dm, P, S, q, k⟩ => ?_
  unfold iItemsD at q
  split at q
  · rename_i o kvs ei
    obtain ⟨w, e1, e2⟩ := dicA_some ei
    obtain ⟨v, fp, h1, h2, _, h4⟩ := S.sl i w e1
    obtain ⟨a, es, ep, rfl, g1, g2, g3⟩ := h2.dic e2
    obtain ⟨ys, y1, y2, y3⟩ := ents_y (P := X.prog) (w := X.w) g1 g2.ok q.2.1
    have hx : IntEs X.prog X.w es ys := ⟨y1, fun e he => y2 e (Array.mem_toList_iff.mpr he), by
      have h := g2.nd
      rw [yr_keys y3] at h
      have : ys.map (fun y => PyData.int y.1) = (ys.map (·.1)).map PyData.int := by rw [List.map_map]; rfl
      rw [this] at h
      exact (List.pairwise_map.mp h).imp fun h e => h (congrArg _ e), fun p hp => by
      obtain ⟨p0, _, vv, _, r2⟩ := Paired.right y3 p hp
      exact ⟨vv, r2⟩⟩
    cases o with
    | true =>
      rw [if_pos rfl] at g3
      obtain ⟨f1, f2, rfl⟩ := g3
      exact ⟨.ref a, h1, a, es, ep, ys, rfl, hx, f2, k _ q.2.2 _ F H (fun b => b = a) S.refl (itr_items (fun F H e1 e2 e3 => (e3 a rfl).trans f2) y3) fun b hb => by subst hb; exact ⟨q.1 rfl, by rw [f2]; simp, S.notM (h4 _ (List.mem_cons_self ..))⟩⟩
    | false =>
      rw [if_neg Bool.false_ne_true] at g3
      exact ⟨.ref a, h1, a, es, ep, ys, rfl, hx, S.same _ _ g3.1, k _ q.2.2 _ F H (fun _ => False) S.refl (itr_items (fun F H e1 e2 _ => (e1.trans e2) _ _ g3.1) y3) fun _ z => z.elim⟩
  · exact q.elim
end DL

set_option maxHeartbeats 4000000
/-! DL, part zzp: d.pop(k) as a statement (keys that are ints), d.get(k). -/
namespace DL
open PySem PySem.Spec PySem.Calls PyProof.Rows L2
theorem yr_drop {K : PySem.W.Frag} {F : Hp} {i : Int} : ∀ {kvs : List (D × D)} {ys : List (Int × Value)}, Paired (YR K F) kvs ys → (kvs.map (·.1)).Nodup → Paired (YR K F) (dDropK kvs (.int i)) (without ys i)
  | _, _, .nil, _ => .nil
  | p :: r, y :: ys, .cons h t, nd => by
    rw [List.map_cons, List.nodup_cons] at nd
    have ih := yr_drop (i := i) t nd.2
    obtain ⟨h1, h3⟩ := h
    by_cases e : y.1 = i
    · have nx : i ∉ ys.map (·.1) := fun z => by
        obtain ⟨q, hq, e2⟩ := List.mem_map.mp z
        refine nd.1 ?_
        rw [yr_keys t, h1]
        exact List.mem_map.mpr ⟨q, hq, by rw [e2, e]⟩
      have e1 : without (y :: ys) i = ys := by
        have : without (y :: ys) i = without ys i := by unfold without; rw [List.filter_cons]; simp [e]
        rw [this, without_of_not_mem ys i nx]
      have e2 : dDropK (p :: r) (.int i) = r := by
        show (if p.1 = .int i then r else p :: dDropK r (.int i)) = _
        rw [if_pos (by rw [h1, e])]
      rw [e1, e2]
      exact t
    · have e1 : without (y :: ys) i = y :: without ys i := by unfold without; rw [List.filter_cons]; simp [e]
      have e2 : dDropK (p :: r) (.int i) = p :: dDropK r (.int i) := by
        show (if p.1 = .int i then r else p :: dDropK r (.int i)) = _
        rw [if_neg fun z => by rw [h1] at z; injection z with z; exact e z]
      rw [e1, e2]
      exact .cons ⟨h1, h3⟩ ih
theorem dDropK_sub {k : D} : ∀ {kvs : List (D × D)}, (dDropK kvs k).Sublist kvs
  | [] => .slnil
  | p :: r => by
    show (if p.1 = k then r else p :: dDropK r k).Sublist (p :: r)
    split
    · exact List.sublist_cons_self _ _
    · exact .cons₂ _ dDropK_sub
theorem WK.drop {kvs : List (D × D)} {k : D} (w : WK kvs) : WK (dDropK kvs k) := by
  have s := dDropK_sub (k := k) (kvs := kvs)
  exact ⟨(s.map _).nodup w.nd, fun p hp => w.ok p (s.subset hp), fun p hp q hq => w.one p (s.subset hp) q (s.subset hq), Nat.le_trans s.length_le w.len⟩
section
variable {X : Cx} {pins : List (Addr × Obj)} {σ : L2.St} {F H : Hp} {s : Shared} {a : Addr} {kvs : List (D × D)} {k v : D} {y : V} {u : Value} {A : Around} {E : Value → Shared → Prop}
/-- d.pop(y) -/
theorem k_pop {Q : Value → Shared → Prop} (I : Inv X pins σ H s) (d : DK X.K F H a kvs) (r : Dp X.K F y k) (ry : RelV y u) (ht : isTu k = false) (hv : dGetK kvs k = some v)
    (h : ∀ es ep s' w' v', Inv X pins σ (upd H a (rawO a es ep)) s' → Paired (EntR X.K F) (dDropK kvs k) es.toList → Dp X.K F v' v → RelV v' w' → Q w' s') : wpAny (model X.prog X.w) A (call (.builtin "dict.pop") [.ref a, u]) Q E s := by
  obtain ⟨es, ep, ha, he, wk⟩ := d
  have f := wk.fit hv
  obtain ⟨i, t, rfl, rfl⟩ := key_i f.1 ht r ry
  obtain ⟨ys, dd, nd, rel⟩ := dict_I I ha he wk fun p hp => (f.2 p hp).trans ht
  have hz : ys.length ≤ sizeLine := by rw [← Paired.length rel]; exact wk.len
  rcases yr_get (i := i) rel with ⟨v', u', vv, g1, g2, g3, g4⟩ | ⟨g1, g2⟩
  · rw [hv] at g1
    cases g1
    refine call_meetsIn PySem.F.slot_dict_pop dd.typeIs PySem.F.entry_dict_pop (PySem.F.args_dict_pop_2 _ _) (meets_dict_pop_there (intKind X.prog X.w) (k := i) a (by show Value.isInt i (.int i t) = true; simp [Value.isInt]) [] (.inl rfl) (by rfl))
      ⟨ys, u', dd, hz, g2, fun h' dd' hs => ?_⟩
    obtain ⟨q, es', ep', hq, h2, h3, h4, h5, _⟩ := dd'
    exact h es' ep' _ u' vv (d_write I (by rw [ha]; exact True.intro) hs ⟨q, hq⟩ (rawO_ok ⟨q, hq, h2, h3⟩ nd)) (ents_yback (yr_drop rel wk.nd) h5 fun e hm => h4 e (Array.mem_toList_iff.mp hm)) g3 g4
  · rw [hv] at g1
    cases g1
/-- d.get(y) -/
theorem k_get1 {Q : Value → Shared → Prop} (hu : A.units + 64 < cLine) (I : Inv X pins σ H s) (hs : Same F H) (d : DK X.K F H a kvs) (r : Dp X.K F y k) (ry : RelV y u) (f : kFit kvs k)
    (h : ∀ w' x' s', Inv X pins σ H s' → Dp X.K F x' ((dGetK kvs k).getD .none) → RelV x' w' → Q w' s') : wpAny (model X.prog X.w) A (call (.builtin "dict.get") [.ref a, u]) Q E s := by
  obtain ⟨es, ep, ha, he, wk⟩ := d
  cases ht : isTu k with
  | true =>
    obtain ⟨b, rfl, rfl⟩ := key_t ht r ry
    obtain ⟨xs, dd, nd, rel⟩ := dict_H I hs ha he wk fun p hp => (f.2 p hp).trans ht
    refine call_meetsIn PySem.F.slot_dict_get dd.typeIs PySem.F.entry_dict_get (PySem.F.args_dict_get_2 _ _) (meetsH_dict_get (nestedKind X.prog X.w) a b nd) ⟨room8 hu, nk k, xs, (key_is I hs f.1 r), dd, ?_⟩
    rcases xr_get f.1 rel wk.ok with ⟨v', u', vv, g1, g2, g3, g4⟩ | ⟨g1, g2⟩
    · rw [g2]
      exact h _ vv _ (I.tok _) (by rw [g1]; exact g3) g4
    · rw [g2]
      exact h _ .non _ (I.tok _) (by rw [g1]; exact .non) rfl
  | false =>
    obtain ⟨i, t, rfl, rfl⟩ := key_i f.1 ht r ry
    obtain ⟨ys, dd, nd, rel⟩ := dict_I I ha he wk fun p hp => (f.2 p hp).trans ht
    refine call_meetsIn PySem.F.slot_dict_get dd.typeIs PySem.F.entry_dict_get (PySem.F.args_dict_get_2 _ _) (meets_dict_get (intKind X.prog X.w) (k := i) a (by show Value.isInt i (.int i t) = true; simp [Value.isInt]) nd) ⟨_, dd.mapOf, ?_⟩
    rcases yr_get (i := i) rel with ⟨v', u', vv, g1, g2, g3, g4⟩ | ⟨g1, g2⟩
    · rw [g2]
      exact h _ vv _ (I.tok _) (by rw [g1]; exact g3) g4
    · rw [g2]
      exact h _ .non _ (I.tok _) (by rw [g1]; exact .non) rfl
end
section
variable {X : Cx} {x : Str} {p apos cpos pos : Pos} {e : Expr}
/-- d.get(k) -/
def dKGet1 (i : Nat) (tk : TB) : TW := fun env Q => match dicA env i with
  | some (_, kvs) => tk env fun k => kFit kvs k ∧ Q (.fz ((dGetK kvs k).getD .none))
  | none => False
theorem dw_kget1 (i : Nat) {tk : TB} (hu : X.A.units + 64 < cLine) (hx : PE X (.Name x p) (tVar i)) (hk : DF X e tk) (m : M1 X (.Name x p) "get" apos e cpos) : DW X (.Call (.Attribute (.Name x p) "get" apos) [e] [] cpos) (dKGet1 i tk) := by
  refine ⟨fun pins s σ H Q I ⟨env, F, ow, dm, P, S, q, k⟩ => ?_⟩
  unfold dKGet1 at q
  split at q
  · rename_i o kvs ei
    obtain ⟨ad, hσ, D⟩ := S.dk ei
    refine wpAny_Call_method m.base m.few m.line PySem.F.plainAttrs_dict PySem.F.slot_dict_get PySem.F.type_dict_get (thn (hx.run pins s σ H (fun v H1 => v = .ref ad ∧ H1 = H) I ⟨.ref ad, hσ, rfl, rfl⟩) fun u s1 ⟨v0, H1, I1, rx, ev, eH⟩ => ?_)
    subst ev eH
    obtain rfl : u = Value.ref ad := rx
    obtain ⟨t1, t2, _⟩ := (D F H1 S.refl).typeIs I1
    refine ⟨t1, t2, ?_⟩
    rw [m.trees]
    refine Calls.callWith_builtin rfl (Calls.evalArgs_plain (Calls.spliced_cons (thn (hk.run pins s1 σ H1 (fun v H2 => ∃ d F', Ext dm F H1 F' H2 ∧ Dp X.K F' v d ∧ kFit kvs d ∧ P (.fz ((dGetK kvs d).getD .none))) I1 ⟨env, F, ow, dm, _, S, q, fun d hd v F' H' x r => ⟨d, F', x, r, hd⟩⟩) fun iv s2 ⟨y, H2, I2, ry, d, F', x, r, f, hP⟩ => Calls.spliced_nil ?_)))
    exact k_get1 hu I2 x.fh (D F' H2 x) r ry f fun w' z' s4 I4 rz' rw' => ⟨z', H2, I4, rw', k _ hP z' F' H2 [] x (.fz rz') List.nodup_nil (fun _ ha => nomatch ha)⟩
  · exact q.elim
/-- d.pop(k) -/
def dKPop (i : Nat) (tk : TB) : TSd := fun E env => match dicA env i with
  | some (true, kvs) => tk env fun k => (∃ v, dGetK kvs k = some v) ∧ isTu k = false ∧ E.nx (env.set i (some (.oth (dicO true (dDropK kvs k)))))
  | _ => False
def tKPop (K : PySem.W.Frag) (i : Nat) (tk : TB) : TE := fun σ H Q => ∃ env F ow dm ad kvs P, SRx K env σ F H ow dm ∧ σ[i]? = some (some (.ref ad)) ∧ (∀ F' H', Ext dm F H F' H' → DK K F' H' ad kvs) ∧ tk env P ∧
  ∀ k, P k → isTu k = false ∧ ∃ v, dGetK kvs k = some v ∧ ∀ F' H' es ep u, Ext dm F H F' H' → Paired (EntR K F') (dDropK kvs k) es.toList → Q u (upd H' ad (rawO ad es ep))
theorem pe_kpop (i : Nat) {tk : TB} (hx : PE X (.Name x p) (tVar i)) (hk : DF X e tk) (m : M1 X (.Name x p) "pop" apos e cpos) : PE X (.Call (.Attribute (.Name x p) "pop" apos) [e] [] cpos) (tKPop X.K i tk) := by
  refine ⟨fun pins s σ H Q I ⟨env, F, ow, dm, ad, kvs, P, S, hσ, D, q, k⟩ => ?_⟩
  refine wpAny_Call_method m.base m.few m.line PySem.F.plainAttrs_dict PySem.F.slot_dict_pop PySem.F.type_dict_pop (thn (hx.run pins s σ H (fun v H1 => v = .ref ad ∧ H1 = H) I ⟨.ref ad, hσ, rfl, rfl⟩) fun u s1 ⟨v0, H1, I1, rx, ev, eH⟩ => ?_)
  subst ev eH
  obtain rfl : u = Value.ref ad := rx
  obtain ⟨t1, t2, _⟩ := (D F H1 S.refl).typeIs I1
  refine ⟨t1, t2, ?_⟩
  rw [m.trees]
  refine Calls.callWith_builtin rfl (Calls.evalArgs_plain (Calls.spliced_cons (thn (hk.run pins s1 σ H1 (fun v H2 => ∃ d F', Ext dm F H1 F' H2 ∧ Dp X.K F' v d ∧ P d) I1 ⟨env, F, ow, dm, _, S, q, fun d hd v F' H' x r => ⟨d, F', x, r, hd⟩⟩) fun iv s2 ⟨y, H2, I2, ry, d, F', x, r, hP⟩ => Calls.spliced_nil ?_)))
  obtain ⟨h1, v, h2, h3⟩ := k d hP
  exact k_pop I2 (D F' H2 x) r ry h1 h2 fun es ep s4 w' v' I4 pe _ rw' => ⟨v', _, I4, rw', h3 F' H2 es ep v' x pe⟩
theorem ds_kpop (i : Nat) {tk : TB} (hx : PE X (.Name x p) (tVar i)) (hk : DF X e tk) (m : M1 X (.Name x p) "pop" apos e cpos) (hs : swapsWith (.Call (.Attribute (.Name x p) "pop" apos) [e] [] cpos) none pos.line X.env = pure false := by rfl) :
    DS X (.Expr (.Call (.Attribute (.Name x p) "pop" apos) [e] [] cpos) pos) (dKPop i tk) := fun _ _ =>
  ps_mono (ps_expr (pe_kpop i hx hk m) hs) fun D σ H ⟨A, E, env, F, ow, dm, S, q, kk⟩ => by
    unfold dKPop at q
    split at q
    · rename_i kvs ei
      obtain ⟨ad, hσ, DD⟩ := S.x.dk ei
      obtain ⟨ad', hσ', M⟩ := S.mutD ei
      rw [hσ] at hσ'
      cases hσ'
      have w : WK kvs := by
        obtain ⟨_, _, _, _, w⟩ := DD F H S.x.refl
        exact w
      exact ⟨env, F, ow, dm, ad, kvs, _, S.x, hσ, DD, q, fun k ⟨⟨v, h1⟩, h2, h3⟩ => ⟨h2, v, h1, fun F' H' es ep u x pe => kk.nx _ _ _ _ _ _ (M F' H' _ es ep x pe w.drop) h3⟩⟩
    · exact q.elim
end
/-! ### plain -/
section
variable {α β : Type} [DecidableEq α] {ek : α → D} {ev : β → D}
def tDrop : List (α × β) → α → List (α × β)
  | [], _ => []
  | p :: r, k => if p.1 = k then r else p :: tDrop r k
theorem dDropK_tab (inj : ∀ a b, ek a = ek b → a = b) (k : α) : ∀ L : List (α × β), dDropK (tabD ek ev L) (ek k) = tabD ek ev (tDrop L k)
  | [] => rfl
  | p :: r => by
    have ih := dDropK_tab inj k r
    show (if ek p.1 = ek k then tabD ek ev r else (ek p.1, ev p.2) :: dDropK (tabD ek ev r) (ek k)) = tabD ek ev (if p.1 = k then r else p :: tDrop r k)
    by_cases e : p.1 = k
    · rw [if_pos e, if_pos (by rw [e])]
    · rw [if_neg e, if_neg fun z => e (inj _ _ z), ih]; rfl
end
end DL

set_option maxHeartbeats 4000000
/-! DL, part zzq: max of a list of alike data. -/
namespace DL
open PySem PySem.Spec PySem.Calls PyProof.Rows L2
theorem max_split {H : Heap} : ∀ {vs : List Value} {ds : List PyData} {as : List Addr}, ReadsAll H vs ds as → vs.length = ds.length := fun r => PySem.W.readsAll_len r
def maxDL : List D → D
  | [] => .none
  | x :: xs => PySem.W.maxD x xs
def rMaxD (K : PySem.W.Frag) : List V → Hp → VK → Prop := fun vs H Q => ∃ (a : Addr) (xs : List V) (ds : List D) (F : Hp), vs = [V.ref a] ∧ SqL K H a xs ∧ Same F H ∧ DpAll K F xs ds ∧ ds ≠ [] ∧ PySem.W.AlikeAll ds ∧ (∀ d ∈ ds, d.depth ≤ 40) ∧
  ∀ v, Dp K F v (maxDL ds) → Q v H
theorem depth_all {n : Nat} : ∀ {ds : List D}, (∀ d ∈ ds, d.depth ≤ n) → PyData.depthAll ds ≤ n
  | [], _ => by simp [PyData.depthAll]
  | d :: ds, h => by
    rw [PyData.depthAll]
    exact Nat.max_le.mpr ⟨h d (by simp), depth_all fun e he => h e (by simp [he])⟩
theorem dp_read {X : Cx} {pins : List (Addr × Obj)} {σ : L2.St} {F H : Hp} {s : Shared} (I : Inv X pins σ H s) (hF : Same F H) : ∀ {xs : List V} {ds : List D} {us : List Value}, DpAll X.K F xs ds → Vals xs us → ∃ as, ReadsAll s.heap us ds as
  | [], [], _, .nil, .nil => ⟨[], .nil⟩
  | x :: xs, d :: ds, u :: us, .cons h t, .cons r rr => by
    obtain ⟨as, h1⟩ := dp_read I hF t rr
    obtain ⟨bs, h2⟩ := L2.Dp.reads I _ _ _ (dp_same hF h).l2 r
    exact ⟨_, .cons h2 h1⟩
theorem vals_at2 : ∀ {xs : List V} {us : List Value} {i : Nat} {x : V} {u : Value}, Vals xs us → xs[i]? = some x → us[i]? = some u → RelV x u
  | _, _, i, x, u, .nil, h, _ => by simp at h
  | a :: xs, b :: us, 0, x, u, .cons r rr, h1, h2 => by
    have e1 : a = x := by simpa using h1
    have e2 : b = u := by simpa using h2
    rw [← e1, ← e2]
    exact r
  | a :: xs, b :: us, i + 1, x, u, .cons r rr, h1, h2 => vals_at2 (i := i) rr (by simpa using h1) (by simpa using h2)
theorem cr_maxD {X : Cx} (hu : X.A.units + 64 < cLine) (hcalm : X.calm = true) : CallR X (.builtin "max") (rMaxD X.K) := by
  intro pins s σ H vs us Q I r h
  obtain ⟨a, xs, ds, F, rfl, hs, hF, hd, hne, hal, hdp, q⟩ := h
  obtain ⟨its, rv, hl, hz⟩ := I.list hs
  rw [Vals.ref1 r]
  cases ds with
  | nil => exact absurd rfl hne
  | cons y ys =>
    obtain ⟨as, hr⟩ := dp_read I hF hd rv
    have dA := depth_all hdp
    refine PySem.W.max_list_data (I.ok.hd hcalm) hl.isList (by simpa using hr) hal (by omega) fun i v h' tk bs hi hrd hk => ?_
    have hi' : its[i]? = some v := by simpa using hi
    have hlen : xs.length = (y :: ys).length := dpAll_length hd
    have hvl := rv.length
    have hlt : i < xs.length := by rw [hvl]; exact (List.getElem?_eq_some_iff.mp hi').1
    obtain ⟨x, hx⟩ : ∃ x, xs[i]? = some x := ⟨xs[i], List.getElem?_eq_getElem hlt⟩
    obtain ⟨d, hdi⟩ : ∃ d, (y :: ys)[i]? = some d := ⟨(y :: ys)[i]'(by rw [← hlen]; exact hlt), List.getElem?_eq_getElem _⟩
    obtain ⟨x2, e2, rd⟩ := dpAll_get hd hdi
    rw [hx] at e2
    cases e2
    have rxv : RelV x v := vals_at2 rv hx hi'
    obtain ⟨bs2, hr2⟩ := L2.Dp.reads I _ _ _ (dp_same hF rd).l2 rxv
    have ed : d = PySem.W.maxD y ys := (Reads.unique (Reads.keeps hk hr2) _ _ hrd).1
    exact ⟨x, H, I.kept (t' := tk) hk, rxv, q x (by show Dp X.K F x (PySem.W.maxD y ys); rw [← ed]; exact rd)⟩
def gMaxD : List D → (W → Prop) → Prop := fun ds P => match ds with
  | [.list xs] => xs ≠ [] ∧ PySem.W.AlikeAll xs ∧ (∀ d ∈ xs, d.depth ≤ 40) ∧ P (.fz (maxDL xs))
  | _ => False
theorem snd_maxD {K : PySem.W.Frag} : SndC K (rMaxD K) gMaxD := by
  intro dm F H vs ds Q P hs dl r g k
  unfold gMaxD at g
  split at g
  · obtain ⟨h1, h2, h3, g⟩ := g
    obtain ⟨v, rfl, h⟩ := dball1 r
    obtain ⟨a, us, rfl, hq, rr⟩ := h.lst_inv hs
    exact ⟨a, us, _, F, rfl, .of hq, hs, rr, h1, h2, h3, fun v hv => k _ g v F H [] ⟨Same.refl F, fun _ _ h _ => h, fun _ h _ => h, hs, dl⟩ (.fz hv) List.nodup_nil (fun _ ha => nomatch ha)⟩
  · exact g.elim
abbrev dMaxD (t : TDs) : TW := dCall gMaxD t
theorem dw_maxD {X : Cx} {e : Expr} {pos p : Pos} {t : TDs} (hu : X.A.units + 64 < cLine) (hm : X.mg "max" = none) (ha : DA X [e] t) (hcalm : X.calm = true := by rfl) (hg : Gl X "max" := by rfl) (he : starEach [e] X.env = [(false, eval e X.env)] := by rfl) :
    DW X (.Call (.Name "max" p) [e] [] pos) (dMaxD t) := dw_callB (cr_maxD hu hcalm) snd_maxD hm ha hg (he := he)
end DL

/-! rooms and asks, plain: furthest first keeps the most -/
namespace K

section
variable (m : Nat)
/-- the greatest number of hits for the asks that are left, S in the rooms -/
def opt : List Nat → List Nat → Nat
  | [], _ => 0
  | p :: r, S => if p ∈ S then 1 + opt r S else if S.length < m then opt r (p :: S) else (S.map fun z => opt r (p :: S.erase z)).foldl max 0
end
theorem foldl_max_ge : ∀ (l : List Nat) (a : Nat), a ≤ l.foldl max a ∧ ∀ x ∈ l, x ≤ l.foldl max a
  | [], a => ⟨Nat.le_refl _, fun _ h => nomatch h⟩
  | y :: l, a => by
    obtain ⟨h1, h2⟩ := foldl_max_ge l (max a y)
    rw [List.foldl_cons]
    exact ⟨Nat.le_trans (Nat.le_max_left _ _) h1, fun x hx => (List.mem_cons.mp hx).elim (fun e => by rw [e]; exact Nat.le_trans (Nat.le_max_right _ _) h1) (h2 x)⟩
theorem foldl_max_le {b : Nat} : ∀ (l : List Nat) (a : Nat), a ≤ b → (∀ x ∈ l, x ≤ b) → l.foldl max a ≤ b
  | [], a, h, _ => h
  | y :: l, a, h, h2 => by
    rw [List.foldl_cons]
    exact foldl_max_le l _ (Nat.max_le.mpr ⟨h, h2 y (by simp)⟩) fun x hx => h2 x (by simp [hx])
variable {m : Nat}
theorem opt_hit {p : Nat} {r S : List Nat} (h : p ∈ S) : opt m (p :: r) S = 1 + opt m r S := by rw [opt, if_pos h]
theorem opt_room {p : Nat} {r S : List Nat} (h : p ∉ S) (hl : S.length < m) : opt m (p :: r) S = opt m r (p :: S) := by rw [opt, if_neg h, if_pos hl]
theorem opt_full_ge {p z : Nat} {r S : List Nat} (h : p ∉ S) (hl : ¬ S.length < m) (hz : z ∈ S) : opt m r (p :: S.erase z) ≤ opt m (p :: r) S := by
  rw [opt, if_neg h, if_neg hl]
  exact (foldl_max_ge _ 0).2 _ (List.mem_map.mpr ⟨z, hz, rfl⟩)
theorem opt_full_le {p b : Nat} {r S : List Nat} (h : p ∉ S) (hl : ¬ S.length < m) (hb : ∀ z ∈ S, opt m r (p :: S.erase z) ≤ b) : opt m (p :: r) S ≤ b := by
  rw [opt, if_neg h, if_neg hl]
  refine foldl_max_le _ 0 (Nat.zero_le _) fun x hx => ?_
  obtain ⟨z, hz, rfl⟩ := List.mem_map.mp hx
  exact hb z hz
/-- what of S is not in T -/
def dif (S T : List Nat) : List Nat := S.filter fun x => !decide (x ∈ T)
theorem mem_dif {S T : List Nat} {x : Nat} : x ∈ dif S T ↔ x ∈ S ∧ x ∉ T := by
  unfold dif
  rw [List.mem_filter]
  simp
theorem nd_len {a b : List Nat} (h : a.Nodup) (hs : ∀ x ∈ a, x ∈ b) : a.length ≤ b.length := by
  induction a generalizing b with
  | nil => exact Nat.zero_le _
  | cons x a ih =>
    obtain ⟨h1, h2⟩ := List.nodup_cons.mp h
    have hb : x ∈ b := hs x (by simp)
    have := ih h2 (b := b.erase x) fun y hy => (List.mem_erase_of_ne (fun e => h1 (by rw [← e]; exact hy))).mpr (hs y (by simp [hy]))
    rw [List.length_erase_of_mem hb] at this
    have := List.length_pos_of_mem hb
    rw [List.length_cons]
    omega
theorem dif_len {S T U V : List Nat} (hS : S.Nodup) (h : ∀ x, x ∈ S → x ∉ T → x ∈ U ∧ x ∉ V) : (dif S T).length ≤ (dif U V).length :=
  nd_len (hS.filter _) fun x hx => mem_dif.mpr (h x (mem_dif.mp hx).1 (mem_dif.mp hx).2)
/-- who has more in the rooms than another one has at most so many hits more -/
theorem opt_dif : ∀ (r S T : List Nat), S.Nodup → T.Nodup → S.length ≤ m → T.length ≤ m → opt m r S ≤ opt m r T + (dif S T).length
  | [], _, _, _, _, _, _ => by simp [opt]
  | p :: r, S, T, hS, hT, lS, lT => by
    by_cases pS : p ∈ S
    · rw [opt_hit pS]
      by_cases pT : p ∈ T
      · rw [opt_hit pT]
        have := opt_dif r S T hS hT lS lT
        omega
      · have hd : (dif S (p :: T)).length + 1 ≤ (dif S T).length := by
          have := nd_len (a := p :: dif S (p :: T)) (b := dif S T) (List.nodup_cons.mpr ⟨fun z => (mem_dif.mp z).2 (by simp), hS.filter _⟩) fun x hx => by
            rcases List.mem_cons.mp hx with rfl | hx
            · exact mem_dif.mpr ⟨pS, pT⟩
            · obtain ⟨h1, h2⟩ := mem_dif.mp hx
              exact mem_dif.mpr ⟨h1, fun z => h2 (by simp [z])⟩
          simpa using this
        by_cases fT : T.length < m
        · rw [opt_room pT fT]
          have := opt_dif r S (p :: T) hS (List.nodup_cons.mpr ⟨pT, hT⟩) lS (by rw [List.length_cons]; exact fT)
          omega
        · -- one that S has not leaves
          obtain ⟨z, zT, zS⟩ : ∃ z ∈ T, z ∉ S := by
            refine Classical.byContradiction fun hno => ?_
            have h1 : ∀ x ∈ T, x ∈ S.erase p := fun x hx => by
              have : x ∈ S := Classical.byContradiction fun h => hno ⟨x, hx, h⟩
              exact (List.mem_erase_of_ne (fun e => pT (by rw [← e]; exact hx))).mpr this
            have h2 := nd_len hT h1
            rw [List.length_erase_of_mem pS] at h2
            have := List.length_pos_of_mem pS
            omega
          have h1 := opt_full_ge (r := r) pT fT zT
          have nT : (p :: T.erase z).Nodup := List.nodup_cons.mpr ⟨fun h => pT (List.mem_of_mem_erase h), hT.erase z⟩
          have h2 := opt_dif r S (p :: T.erase z) hS nT lS (by rw [List.length_cons, List.length_erase_of_mem zT]; have := List.length_pos_of_mem zT; omega)
          have h3 : (dif S (p :: T.erase z)).length ≤ (dif S (p :: T)).length := dif_len hS fun x h1 h2 => ⟨h1, fun h => h2 (by
            rcases List.mem_cons.mp h with e | e
            · simp [e]
            · exact List.mem_cons_of_mem _ ((List.mem_erase_of_ne (fun e2 => zS (by rw [← e2]; exact h1))).mpr e))⟩
          omega
    · by_cases pT : p ∈ T
      · rw [opt_hit pT]
        -- whatever S does, it has no more that T lacks
        have key : ∀ S2 : List Nat, S2.Nodup → S2.length ≤ m → (∀ x ∈ S2, x = p ∨ x ∈ S) → opt m r S2 ≤ 1 + opt m r T + (dif S T).length := fun S2 n2 l2 hs => by
          have h1 := opt_dif r S2 T n2 hT l2 lT
          have h2 : (dif S2 T).length ≤ (dif S T).length := dif_len n2 fun x h1 h2 => ⟨(hs x h1).elim (fun e => absurd (e ▸ pT) h2) id, h2⟩
          omega
        by_cases fS : S.length < m
        · rw [opt_room pS fS]
          exact key _ (List.nodup_cons.mpr ⟨pS, hS⟩) (by rw [List.length_cons]; exact fS) fun x hx => List.mem_cons.mp hx
        · refine opt_full_le pS fS fun z hz => key _ (List.nodup_cons.mpr ⟨fun h => pS (List.mem_of_mem_erase h), hS.erase z⟩) (by rw [List.length_cons, List.length_erase_of_mem hz]; have := List.length_pos_of_mem hz; omega) fun x hx => ?_
          rcases List.mem_cons.mp hx with e | e
          · exact .inl e
          · exact .inr (List.mem_of_mem_erase e)
      · -- both miss
        have key : ∀ S2 : List Nat, S2.Nodup → S2.length ≤ m → p ∈ S2 → (∀ x ∈ S2, x = p ∨ x ∈ S) → (S2 = p :: S ∨ ∃ z ∈ S, S2 = p :: S.erase z) → opt m r S2 ≤ opt m (p :: r) T + (dif S T).length := fun S2 n2 l2 pm hs form => by
          by_cases fT : T.length < m
          · rw [opt_room pT fT]
            have h1 := opt_dif r S2 (p :: T) n2 (List.nodup_cons.mpr ⟨pT, hT⟩) l2 (by rw [List.length_cons]; exact fT)
            have h2 : (dif S2 (p :: T)).length ≤ (dif S T).length := dif_len n2 fun x h1 h2 => ⟨(hs x h1).elim (fun e => absurd (by simp [e]) h2) id, fun z => h2 (by simp [z])⟩
            omega
          · have tail : ∀ z ∈ T, (dif S2 (p :: T.erase z)).length ≤ (dif S T).length → opt m r S2 ≤ opt m (p :: r) T + (dif S T).length := fun z zT hd => by
              have h1 := opt_full_ge (r := r) pT fT zT
              have nT : (p :: T.erase z).Nodup := List.nodup_cons.mpr ⟨fun h => pT (List.mem_of_mem_erase h), hT.erase z⟩
              have h2 := opt_dif r S2 (p :: T.erase z) n2 nT l2 (by rw [List.length_cons, List.length_erase_of_mem zT]; have := List.length_pos_of_mem zT; omega)
              omega
            rcases form with e | ⟨z, zS, e⟩
            · -- S has room, T is full: one that S has not leaves
              obtain ⟨z, zT, zS⟩ : ∃ z ∈ T, z ∉ S := by
                refine Classical.byContradiction fun hno => ?_
                have h2 := nd_len hT (b := S) fun x hx => Classical.byContradiction fun h => hno ⟨x, hx, h⟩
                rw [e, List.length_cons] at l2
                omega
              refine tail z zT (dif_len n2 fun x h1 h2 => ?_)
              have xp : x ≠ p := fun e => h2 (by simp [e])
              have xS : x ∈ S := (hs x h1).elim (fun e => absurd e xp) id
              refine ⟨xS, fun xT => h2 (List.mem_cons_of_mem _ ((List.mem_erase_of_ne (fun e2 => zS (by rw [← e2]; exact xS))).mpr xT))⟩
            · by_cases zT : z ∈ T
              · refine tail z zT (dif_len n2 fun x h1 h2 => ?_)
                have xp : x ≠ p := fun e => h2 (by simp [e])
                rw [e] at h1
                rcases List.mem_cons.mp h1 with e1 | e1
                · exact absurd e1 xp
                · have xz : x ≠ z := fun e2 => by
                    rw [e2] at e1
                    exact (hS.mem_erase_iff.mp e1).1 rfl
                  exact ⟨List.mem_of_mem_erase e1, fun xT => h2 (List.mem_cons_of_mem _ ((List.mem_erase_of_ne xz).mpr xT))⟩
              · -- z is none of T's: any one leaves
                obtain ⟨y, yT⟩ : ∃ y, y ∈ T := by
                  cases T with
                  | nil =>
                    have := List.length_pos_of_mem zS
                    simp at fT
                    omega
                  | cons y _ => exact ⟨y, by simp⟩
                refine tail y yT ?_
                have h1 : (dif S2 (p :: T.erase y)).length ≤ (y :: (dif S T).erase z).length := nd_len (n2.filter _) fun x hx => by
                  obtain ⟨h1, h2⟩ := mem_dif.mp hx
                  have xp : x ≠ p := fun e => h2 (by simp [e])
                  rw [e] at h1
                  rcases List.mem_cons.mp h1 with e1 | e1
                  · exact absurd e1 xp
                  · obtain ⟨xz, xS⟩ := hS.mem_erase_iff.mp e1
                    by_cases xy : x = y
                    · simp [xy]
                    · refine List.mem_cons_of_mem _ ((List.mem_erase_of_ne xz).mpr (mem_dif.mpr ⟨xS, fun xT => h2 (List.mem_cons_of_mem _ ((List.mem_erase_of_ne xy).mpr xT))⟩))
                have zd : z ∈ dif S T := mem_dif.mpr ⟨zS, zT⟩
                rw [List.length_cons, List.length_erase_of_mem zd] at h1
                have := List.length_pos_of_mem zd
                omega
        by_cases fS : S.length < m
        · rw [opt_room pS fS]
          exact key _ (List.nodup_cons.mpr ⟨pS, hS⟩) (by rw [List.length_cons]; exact fS) (by simp) (fun x hx => List.mem_cons.mp hx) (.inl rfl)
        · refine opt_full_le pS fS fun z hz => key _ (List.nodup_cons.mpr ⟨fun h => pS (List.mem_of_mem_erase h), hS.erase z⟩) (by rw [List.length_cons, List.length_erase_of_mem hz]; have := List.length_pos_of_mem hz; omega) (by simp) (fun x hx => ?_) (.inr ⟨z, hz, rfl⟩)
          rcases List.mem_cons.mp hx with e | e
          · exact .inl e
          · exact .inr (List.mem_of_mem_erase e)
/-- when a page is asked for again: the first place, or the length -/
def nxt (r : List Nat) (x : Nat) : Nat := r.findIdx fun y => decide (y = x)
theorem nxt_here (p : Nat) (r : List Nat) : nxt (p :: r) p = 0 := by simp [nxt, List.findIdx_cons]
theorem nxt_tail {p x : Nat} (r : List Nat) (h : p ≠ x) : nxt (p :: r) x = nxt r x + 1 := by simp [nxt, List.findIdx_cons, h]
theorem opt_same {r S T : List Nat} (hS : S.Nodup) (hT : T.Nodup) (lS : S.length ≤ m) (lT : T.length ≤ m) (h : ∀ x, x ∈ S ↔ x ∈ T) : opt m r S = opt m r T := by
  have e1 : dif S T = [] := List.eq_nil_iff_forall_not_mem.mpr fun x hx => (mem_dif.mp hx).2 ((h x).mp (mem_dif.mp hx).1)
  have e2 : dif T S = [] := List.eq_nil_iff_forall_not_mem.mpr fun x hx => (mem_dif.mp hx).2 ((h x).mpr (mem_dif.mp hx).1)
  have h1 := opt_dif r S T hS hT lS lT
  have h2 := opt_dif r T S hT hS lT lS
  rw [e1] at h1
  rw [e2] at h2
  simp at h1 h2
  omega
/-- instead of one, one that is asked for sooner -/
theorem opt_swap : ∀ (r U : List Nat) (x y : Nat), U.Nodup → x ∉ U → y ∉ U → U.length + 1 ≤ m → nxt r y ≤ nxt r x → opt m r (x :: U) ≤ opt m r (y :: U)
  | [], _, _, _, _, _, _, _, _ => by simp [opt]
  | p :: r, U, x, y, hU, hx, hy, hl, hn => by
    by_cases exy : x = y
    · rw [exy]; exact Nat.le_refl _
    have nX : (x :: U).Nodup := List.nodup_cons.mpr ⟨hx, hU⟩
    have nY : (y :: U).Nodup := List.nodup_cons.mpr ⟨hy, hU⟩
    by_cases pU : p ∈ U
    · have px : p ≠ x := fun e => hx (e ▸ pU)
      have py : p ≠ y := fun e => hy (e ▸ pU)
      rw [nxt_tail r px, nxt_tail r py] at hn
      rw [opt_hit (List.mem_cons_of_mem _ pU), opt_hit (List.mem_cons_of_mem _ pU)]
      have := opt_swap r U x y hU hx hy hl (by omega)
      omega
    · by_cases px : p = x
      · rw [px, nxt_here] at hn
        rw [nxt_tail r exy] at hn
        omega
      by_cases py : p = y
      · -- y is asked for now
        have hyh : opt m (p :: r) (y :: U) = 1 + opt m r (y :: U) := opt_hit (by rw [py]; simp)
        rw [hyh]
        have key : ∀ S2 : List Nat, S2.Nodup → S2.length ≤ m → (∀ z ∈ S2, z = p ∨ z = x ∨ z ∈ U) → opt m r S2 ≤ 1 + opt m r (y :: U) := fun S2 n2 l2 hs => by
          have h1 := opt_dif r S2 (y :: U) n2 nY l2 (by rw [List.length_cons]; exact hl)
          have h2 : (dif S2 (y :: U)).length ≤ [x].length := nd_len (n2.filter _) fun z hz => by
            obtain ⟨a1, a2⟩ := mem_dif.mp hz
            rcases hs z a1 with e | e | e
            · exact absurd (by rw [e, py]; simp) a2
            · simp [e]
            · exact absurd (List.mem_cons_of_mem _ e) a2
          simp at h2
          omega
        have pX : p ∉ x :: U := fun h => (List.mem_cons.mp h).elim px pU
        by_cases f : (x :: U).length < m
        · rw [opt_room pX f]
          exact key _ (List.nodup_cons.mpr ⟨pX, nX⟩) (by rw [List.length_cons]; exact f) fun z hz => by simpa using hz
        · refine opt_full_le pX f fun z hz => key _ (List.nodup_cons.mpr ⟨fun h => pX (List.mem_of_mem_erase h), nX.erase z⟩) (by rw [List.length_cons, List.length_erase_of_mem hz]; have := List.length_pos_of_mem hz; rw [List.length_cons] at *; omega) fun w hw => ?_
          rcases List.mem_cons.mp hw with e | e
          · exact .inl e
          · exact .inr (by simpa using List.mem_of_mem_erase e)
      · have pX : p ∉ x :: U := fun h => (List.mem_cons.mp h).elim px pU
        have pY : p ∉ y :: U := fun h => (List.mem_cons.mp h).elim py pU
        rw [nxt_tail r px, nxt_tail r py] at hn
        by_cases f : (x :: U).length < m
        · have f' : (y :: U).length < m := by simpa using f
          have f2 : U.length + 1 + 1 ≤ m := by
            have h := f
            rw [List.length_cons] at h
            exact h
          rw [opt_room pX f, opt_room pY f']
          have h1 := opt_swap r (p :: U) x y (List.nodup_cons.mpr ⟨pU, hU⟩) (fun h => (List.mem_cons.mp h).elim (fun e => px e.symm) hx) (fun h => (List.mem_cons.mp h).elim (fun e => py e.symm) hy) (by simpa using f2) (by omega)
          have e1 : opt m r (p :: x :: U) = opt m r (x :: p :: U) := opt_same (List.nodup_cons.mpr ⟨pX, nX⟩) (List.nodup_cons.mpr ⟨fun h => (List.mem_cons.mp h).elim (fun e => px e.symm) hx, List.nodup_cons.mpr ⟨pU, hU⟩⟩) (by simpa using f2) (by simpa using f2) fun z => by simp; constructor <;> (intro h; rcases h with h | h | h <;> simp [h])
          have e2 : opt m r (p :: y :: U) = opt m r (y :: p :: U) := opt_same (List.nodup_cons.mpr ⟨pY, nY⟩) (List.nodup_cons.mpr ⟨fun h => (List.mem_cons.mp h).elim (fun e => py e.symm) hy, List.nodup_cons.mpr ⟨pU, hU⟩⟩) (by simpa using f2) (by simpa using f2) fun z => by simp; constructor <;> (intro h; rcases h with h | h | h <;> simp [h])
          rw [e1, e2]
          exact h1
        · have f' : ¬ (y :: U).length < m := by simpa using f
          refine opt_full_le pX f fun z hz => ?_
          by_cases zx : z = x
          · have h1 := opt_full_ge (r := r) pY f' (show y ∈ y :: U by simp)
            rw [List.erase_cons_head] at h1
            rw [zx, List.erase_cons_head]
            exact h1
          · have zU : z ∈ U := (List.mem_cons.mp hz).elim (fun e => absurd e zx) id
            have zy : z ≠ y := fun e => hy (e ▸ zU)
            have h1 := opt_full_ge (r := r) pY f' (show z ∈ y :: U by simp [zU])
            rw [List.erase_cons_tail (by simpa using fun e : y = z => zy e.symm)] at h1
            rw [List.erase_cons_tail (by simpa using fun e : x = z => zx e.symm)]
            have lz : (U.erase z).length + 1 = U.length := by rw [List.length_erase_of_mem zU]; have := List.length_pos_of_mem zU; omega
            have pz : p ∉ U.erase z := fun h => pU (List.mem_of_mem_erase h)
            have xz : x ∉ U.erase z := fun h => hx (List.mem_of_mem_erase h)
            have yz : y ∉ U.erase z := fun h => hy (List.mem_of_mem_erase h)
            have nz := hU.erase z
            have h2 := opt_swap r (p :: U.erase z) x y (List.nodup_cons.mpr ⟨pz, nz⟩) (fun h => (List.mem_cons.mp h).elim (fun e => px e.symm) xz) (fun h => (List.mem_cons.mp h).elim (fun e => py e.symm) yz) (by rw [List.length_cons]; omega) (by omega)
            have e1 : opt m r (p :: x :: U.erase z) = opt m r (x :: p :: U.erase z) := opt_same (List.nodup_cons.mpr ⟨fun h => (List.mem_cons.mp h).elim px pz, List.nodup_cons.mpr ⟨xz, nz⟩⟩) (List.nodup_cons.mpr ⟨fun h => (List.mem_cons.mp h).elim (fun e => px e.symm) xz, List.nodup_cons.mpr ⟨pz, nz⟩⟩) (by simp; omega) (by simp; omega) fun w => by simp; constructor <;> (intro h; rcases h with h | h | h <;> simp [h])
            have e2 : opt m r (p :: y :: U.erase z) = opt m r (y :: p :: U.erase z) := opt_same (List.nodup_cons.mpr ⟨fun h => (List.mem_cons.mp h).elim py pz, List.nodup_cons.mpr ⟨yz, nz⟩⟩) (List.nodup_cons.mpr ⟨fun h => (List.mem_cons.mp h).elim (fun e => py e.symm) yz, List.nodup_cons.mpr ⟨pz, nz⟩⟩) (by simp; omega) (by simp; omega) fun w => by simp; constructor <;> (intro h; rcases h with h | h | h <;> simp [h])
            rw [e1]
            rw [e2] at h1
            exact Nat.le_trans h2 h1
/-- the one that is asked for again last leaves -/
theorem opt_far {p x : Nat} {r S : List Nat} (hS : S.Nodup) (hp : p ∉ S) (hl : S.length = m) (hx : x ∈ S) (hf : ∀ z ∈ S, nxt r z ≤ nxt r x) : opt m (p :: r) S = opt m r (p :: S.erase x) := by
  have f : ¬ S.length < m := by omega
  refine Nat.le_antisymm (opt_full_le hp f fun z hz => ?_) (opt_full_ge hp f hx)
  by_cases zx : z = x
  · rw [zx]; exact Nat.le_refl _
  have px : p ≠ x := fun e => hp (e ▸ hx)
  have pz : p ≠ z := fun e => hp (e ▸ hz)
  have hxz : x ∈ S.erase z := (List.mem_erase_of_ne (Ne.symm zx)).mpr hx
  have hzx : z ∈ S.erase x := (List.mem_erase_of_ne zx).mpr hz
  have ls : 2 ≤ S.length := by
    have := nd_len (a := [x, z]) (b := S) (by simp; exact fun e => zx e.symm) fun w hw => by
      simp at hw
      rcases hw with e | e <;> (rw [e]; assumption)
    simpa using this
  let U := p :: (S.erase z).erase x
  have nU : U.Nodup := List.nodup_cons.mpr ⟨fun h => hp (List.mem_of_mem_erase (List.mem_of_mem_erase h)), (hS.erase z).erase x⟩
  have xU : x ∉ U := fun h => (List.mem_cons.mp h).elim (fun e => px e.symm) fun h => ((hS.erase z).mem_erase_iff.mp h).1 rfl
  have zU : z ∉ U := fun h => (List.mem_cons.mp h).elim (fun e => pz e.symm) fun h => (hS.mem_erase_iff.mp (List.mem_of_mem_erase h)).1 rfl
  have lU : U.length + 1 = m := by
    show ((S.erase z).erase x).length + 1 + 1 = m
    rw [List.length_erase_of_mem hxz, List.length_erase_of_mem hz]
    omega
  have h1 := opt_swap (m := m) r U x z nU xU zU (by omega) (hf z hz)
  have e1 : opt m r (p :: S.erase z) = opt m r (x :: U) := opt_same (List.nodup_cons.mpr ⟨fun h => hp (List.mem_of_mem_erase h), hS.erase z⟩) (List.nodup_cons.mpr ⟨xU, nU⟩) (by rw [List.length_cons, List.length_erase_of_mem hz]; omega) (by rw [List.length_cons]; omega) fun w => by
    by_cases wx : w = x
    · simp [wx, hxz, U]
    · by_cases wp : w = p
      · simp [wp, U]
      · simp only [U, List.mem_cons, wx, wp, false_or]
        rw [List.mem_erase_of_ne wx]
  have e2 : opt m r (p :: S.erase x) = opt m r (z :: U) := opt_same (List.nodup_cons.mpr ⟨fun h => hp (List.mem_of_mem_erase h), hS.erase x⟩) (List.nodup_cons.mpr ⟨zU, nU⟩) (by rw [List.length_cons, List.length_erase_of_mem hx]; omega) (by rw [List.length_cons]; omega) fun w => by
    by_cases wz : w = z
    · simp [wz, hzx, U]
    · by_cases wp : w = p
      · simp [wp, U]
      · simp only [U, List.mem_cons, wz, wp, false_or]
        rw [List.erase_comm, List.mem_erase_of_ne wz]
  rw [e1, e2]
  exact h1
end K

/-! stretches; the rule step by step -/
namespace K
section
variable (A : List Nat)
/-- the page asked for at a time -/
def pg (i : Nat) : Nat := A.getD i 0
/-- a stretch -/
structure Strc (i j : Nat) : Prop where
  lt : i < j
  ln : j < A.length
  eq : pg A i = pg A j
  no : ∀ k, i < k → k < j → pg A k ≠ pg A i
def later (i : Nat) : List Nat := (List.range' (i + 1) (A.length - (i + 1))).filter fun t => decide (pg A t = pg A i)
def stre : List (Nat × Nat) := (List.range A.length).flatMap fun i => ((later A i).take 1).map fun t => (i, t)
/-- when the page of a time is asked for again, or the length -/
def endOf (i : Nat) : Nat := ((later A i).head?).getD A.length
end
variable {A : List Nat}
theorem mem_later {i t : Nat} : t ∈ later A i ↔ i < t ∧ t < A.length ∧ pg A t = pg A i := by
  unfold later
  rw [List.mem_filter, List.mem_range'_1]
  constructor
  · rintro ⟨⟨h1, h2⟩, h3⟩; exact ⟨by omega, by omega, of_decide_eq_true h3⟩
  · rintro ⟨h1, h2, h3⟩; exact ⟨⟨by omega, by omega⟩, decide_eq_true h3⟩
theorem later_sorted (i : Nat) : (later A i).Pairwise (· < ·) := (List.pairwise_lt_range').filter _
theorem later_head {i t : Nat} (h : (later A i).head? = some t) : Strc A i t := by
  cases hl : later A i with
  | nil => rw [hl] at h; cases h
  | cons x l =>
    rw [hl] at h
    cases h
    have hx := mem_later.mp (show t ∈ later A i by rw [hl]; simp)
    refine ⟨hx.1, hx.2.1, hx.2.2.symm, fun k h1 h2 e => ?_⟩
    have hk := mem_later.mpr ⟨h1, Nat.lt_trans h2 hx.2.1, e⟩
    have hs := later_sorted (A := A) i
    rw [hl] at hk hs
    rcases List.mem_cons.mp hk with e2 | e2
    · omega
    · have := (List.pairwise_cons.mp hs).1 k e2
      omega
theorem strc_head {i t : Nat} (h : Strc A i t) : (later A i).head? = some t := by
  have ht := mem_later.mpr ⟨h.lt, h.ln, h.eq.symm⟩
  cases hl : later A i with
  | nil => rw [hl] at ht; cases ht
  | cons x l =>
    have hx := mem_later.mp (show x ∈ later A i by rw [hl]; simp)
    have hs := later_sorted (A := A) i
    rw [hl] at ht hs
    rcases List.mem_cons.mp ht with e | e
    · rw [e]; rfl
    · have := (List.pairwise_cons.mp hs).1 t e
      exact absurd hx.2.2 (h.no x hx.1 this)
theorem mem_stre {p : Nat × Nat} : p ∈ stre A ↔ Strc A p.1 p.2 := by
  unfold stre
  rw [List.mem_flatMap]
  constructor
  · rintro ⟨i, _, h⟩
    obtain ⟨t, ht, rfl⟩ := List.mem_map.mp h
    refine later_head ?_
    cases hl : later A i with
    | nil => rw [hl] at ht; cases ht
    | cons x l =>
      rw [hl] at ht
      simp at ht
      rw [ht]; rfl
  · intro h
    refine ⟨p.1, List.mem_range.mpr (Nat.lt_trans h.lt h.ln), List.mem_map.mpr ⟨p.2, ?_, rfl⟩⟩
    have := strc_head h
    cases hl : later A p.1 with
    | nil => rw [hl] at this; cases this
    | cons x l => rw [hl] at this; cases this; simp
theorem strc_uniq {i j j' : Nat} (h : Strc A i j) (h' : Strc A i j') : j = j' := by
  have h1 := strc_head h
  rw [strc_head h'] at h1
  exact (Option.some.inj h1).symm
theorem strc_uniq' {i i' j : Nat} (h : Strc A i j) (h' : Strc A i' j) : i = i' := by
  rcases Nat.lt_trichotomy i i' with g | g | g
  · exact absurd (h'.eq.trans h.eq.symm) (h.no i' g h'.lt)
  · exact g
  · exact absurd (h.eq.trans h'.eq.symm) (h'.no i g h.lt)
/-- pairs ascend by their first number -/
theorem stre_sorted : (stre A).Pairwise fun p q => p.1 < q.1 := by
  unfold stre
  have key : ∀ l : List Nat, l.Pairwise (· < ·) → (l.flatMap fun i => ((later A i).take 1).map fun t => (i, t)).Pairwise fun p q : Nat × Nat => p.1 < q.1 := by
    intro l
    induction l with
    | nil => intro _; exact .nil
    | cons x l ih =>
      intro h
      obtain ⟨h1, h2⟩ := List.pairwise_cons.mp h
      rw [List.flatMap_cons]
      refine List.pairwise_append.mpr ⟨?_, ih h2, fun a ha b hb => ?_⟩
      · cases later A x with
        | nil => exact .nil
        | cons y r => simp
      · obtain ⟨t, _, rfl⟩ := List.mem_map.mp ha
        obtain ⟨i, hi, hb⟩ := List.mem_flatMap.mp hb
        obtain ⟨u, _, rfl⟩ := List.mem_map.mp hb
        exact h1 i hi
  exact key _ List.pairwise_lt_range
theorem stre_nodup : (stre A).Nodup := stre_sorted.imp fun h e => by rw [e] at h; omega
/-- what is found time by time is the stretches -/
theorem perm_stre {L : List (Nat × Nat)} (hn : L.Nodup) (h : ∀ i j, (i, j) ∈ L ↔ Strc A i j) : L.Perm (stre A) :=
  (List.perm_ext_iff_of_nodup hn stre_nodup).mpr fun p => by rw [mem_stre]; exact h p.1 p.2
theorem endOf_strc {i j : Nat} (h : Strc A i j) : endOf A i = j := by unfold endOf; rw [strc_head h]; rfl
theorem endOf_none {i : Nat} (h : ∀ j, ¬ Strc A i j) : endOf A i = A.length := by
  unfold endOf
  cases e : (later A i).head? with
  | none => rfl
  | some t => exact absurd (later_head e) (h t)
theorem endOf_cases (i : Nat) : Strc A i (endOf A i) ∨ (endOf A i = A.length ∧ ∀ j, ¬ Strc A i j) := by
  cases e : (later A i).head? with
  | some t => exact .inl (by unfold endOf; rw [e]; exact later_head e)
  | none => exact .inr ⟨by unfold endOf; rw [e]; rfl, fun j h => by rw [strc_head h] at e; cases e⟩
/-! ### the rooms -/
/-- times in the rooms ahead of time t: each is the last ask for its page -/
structure Rms (A : List Nat) (m t : Nat) (R : List Nat) : Prop where
  nd : R.Nodup
  lt : ∀ s ∈ R, s < t
  last : ∀ s ∈ R, ∀ k, s < k → k < t → pg A k ≠ pg A s
  few : R.length ≤ m
theorem Rms.inj {m t : Nat} {R : List Nat} (h : Rms A m t R) {s s' : Nat} (hs : s ∈ R) (hs' : s' ∈ R) (e : pg A s = pg A s') : s = s' := by
  rcases Nat.lt_trichotomy s s' with g | g | g
  · exact absurd e.symm (h.last s hs s' g (h.lt s' hs'))
  · exact g
  · exact absurd e (h.last s' hs' s g (h.lt s hs))
/-- a stretch that a room keeps -/
theorem Rms.hit {m t : Nat} {R : List Nat} (h : Rms A m t R) (ht : t < A.length) {s : Nat} (hs : s ∈ R) (e : pg A s = pg A t) : Strc A s t := ⟨h.lt s hs, ht, e, h.last s hs⟩
theorem Rms.pages {m t : Nat} {R : List Nat} (h : Rms A m t R) : (R.map (pg A)).Nodup := by
  have := h.nd
  refine List.pairwise_map.mpr ((List.nodup_iff_pairwise_ne.mp this).imp_of_mem fun {a b} ha hb hne e => hne (h.inj ha hb e))
/-- the next time is in the rooms, in the place of the one before or of one that left -/
theorem Rms.next {m t : Nat} {R R2 : List Nat} (h : Rms A m t R) (hm : 1 ≤ m) (hs : R2.Sublist R) (hn : ∀ s ∈ R2, pg A s ≠ pg A t) (hl : R2.length + 1 ≤ m) : Rms A m (t + 1) (R2 ++ [t]) := by
  have hlt : ∀ s ∈ R2, s < t := fun s hs2 => h.lt s (hs.subset hs2)
  refine ⟨List.nodup_append.mpr ⟨hs.nodup h.nd, by simp, fun a ha b hb e => ?_⟩, fun s hs2 => ?_, fun s hs2 k h1 h2 => ?_, by rw [List.length_append]; exact hl⟩
  · have := hlt a ha
    simp at hb
    omega
  · rcases List.mem_append.mp hs2 with e | e
    · have := hlt s e; omega
    · simp at e; omega
  · rcases List.mem_append.mp hs2 with e | e
    · rcases Nat.lt_or_ge k t with g | g
      · exact h.last s (hs.subset e) k h1 g
      · have : k = t := by omega
        rw [this]
        exact fun e2 => hn s e e2.symm
    · simp at e; omega
/-- how far the next ask is -/
theorem nxt_end {m t : Nat} {R : List Nat} (h : Rms A m t R) (ht : t < A.length) {s : Nat} (hs : s ∈ R) (hp : pg A s ≠ pg A t) : nxt (A.drop (t + 1)) (pg A s) + (t + 1) = endOf A s := by
  have hlen : (A.drop (t + 1)).length = A.length - (t + 1) := List.length_drop ..
  have hat : ∀ k, k < A.length - (t + 1) → (A.drop (t + 1))[k]? = some (pg A (t + 1 + k)) := fun k hk => by
    rw [List.getElem?_drop, pg, List.getD_eq_getElem?_getD, List.getElem?_eq_getElem (by omega)]; rfl
  have hn : nxt (A.drop (t + 1)) (pg A s) ≤ A.length - (t + 1) := by
    rw [← hlen]; exact List.findIdx_le_length
  have hbef : ∀ k, k < nxt (A.drop (t + 1)) (pg A s) → pg A (t + 1 + k) ≠ pg A s := fun k hk e => by
    have h1 := List.not_of_lt_findIdx (p := fun y => decide (y = pg A s)) (xs := A.drop (t + 1)) (i := k) hk
    have h2 := hat k (by omega)
    obtain ⟨h3, h4⟩ := List.getElem?_eq_some_iff.mp h2
    rw [h4, e] at h1
    simp at h1
  have hall : ∀ k, s < k → k < t + 1 + nxt (A.drop (t + 1)) (pg A s) → pg A k ≠ pg A s := fun k h1 h2 e => by
    rcases Nat.lt_trichotomy k t with g | g | g
    · exact h.last s hs k h1 g e
    · rw [g] at e; exact hp e.symm
    · have := hbef (k - (t + 1)) (by omega)
      rw [show t + 1 + (k - (t + 1)) = k by omega] at this
      exact this e
  have hst := h.lt s hs
  rcases Nat.lt_or_ge (nxt (A.drop (t + 1)) (pg A s)) (A.length - (t + 1)) with g | g
  · have h1 : pg A (t + 1 + nxt (A.drop (t + 1)) (pg A s)) = pg A s := by
      have h2 := List.findIdx_getElem (p := fun y => decide (y = pg A s)) (xs := A.drop (t + 1)) (w := by rw [hlen]; exact g)
      have h3 := hat _ g
      obtain ⟨h4, h5⟩ := List.getElem?_eq_some_iff.mp h3
      have h6 := of_decide_eq_true h2
      exact h5.symm.trans h6
    have : Strc A s (t + 1 + nxt (A.drop (t + 1)) (pg A s)) := ⟨by omega, by omega, h1.symm, fun k a b => hall k a b⟩
    rw [endOf_strc this]
    omega
  · rw [endOf_none fun j hj => ?_]
    · omega
    · exact absurd hj.eq.symm (hall j hj.lt (by have := hj.ln; omega))
end K

/-! the rule's run: what it keeps, and that it is the most -/
namespace K
variable {A : List Nat} {m : Nat}
structure Run (A : List Nat) (m t : Nat) (R : List Nat) (found : List (Nat × Nat)) : Prop where
  rm : Rms A m t R
  val : found.length + opt m (A.drop t) (R.map (pg A)) = opt m A []
  fnd : ∀ p ∈ found, Strc A p.1 p.2 ∧ p.2 < t
  ord : found.Pairwise fun p q => p.2 < q.2
  cov : ∀ k, k < t → ∃ Rk : List Nat, Rk.length ≤ m ∧ k ∈ Rk ∧ (∀ p ∈ found, p.1 < k → k < p.2 → p.1 ∈ Rk) ∧ ∀ s ∈ R, s ≤ k → s ∈ Rk
theorem Run.start : Run A m 0 [] [] := ⟨⟨List.nodup_nil, (fun _ h => nomatch h), (fun _ h => nomatch h), Nat.zero_le _⟩, by simp, (fun _ h => nomatch h), .nil, fun k h => absurd h (Nat.not_lt_zero _)⟩
theorem Run.perm {t : Nat} {R R2 : List Nat} {found : List (Nat × Nat)} (h : Run A m t R found) (p : R2.Perm R) : Run A m t R2 found := by
  have r2 : Rms A m t R2 := ⟨p.nodup_iff.mpr h.rm.nd, fun s hs => h.rm.lt s (p.mem_iff.mp hs), fun s hs => h.rm.last s (p.mem_iff.mp hs), by rw [p.length_eq]; exact h.rm.few⟩
  refine ⟨r2, ?_, h.fnd, h.ord, fun k hk => ?_⟩
  · rw [opt_same r2.pages h.rm.pages (by rw [List.length_map]; exact r2.few) (by rw [List.length_map]; exact h.rm.few) fun x => (p.map (pg A)).mem_iff]
    exact h.val
  · obtain ⟨Rk, a1, a2, a3, a4⟩ := h.cov k hk
    exact ⟨Rk, a1, a2, a3, fun s hs => a4 s (p.mem_iff.mp hs)⟩
theorem drop_pg {t : Nat} (ht : t < A.length) : A.drop t = pg A t :: A.drop (t + 1) := by
  rw [List.drop_eq_getElem_cons ht, pg, List.getD_eq_getElem?_getD, List.getElem?_eq_getElem ht]
  rfl
/-- the rooms behind time t, and what was found ahead -/
theorem Run.put {t : Nat} {R R2 : List Nat} {found f2 : List (Nat × Nat)} (h : Run A m t R found) (hm : 1 ≤ m) (hs : R2.Sublist R) (hn : ∀ s ∈ R2, pg A s ≠ pg A t) (hl : R2.length + 1 ≤ m)
    (hv : f2.length + opt m (A.drop (t + 1)) ((R2 ++ [t]).map (pg A)) = opt m A []) (hf : f2 = found ∨ ∃ s ∈ R, Strc A s t ∧ f2 = found ++ [(s, t)]) : Run A m (t + 1) (R2 ++ [t]) f2 := by
  have rm := h.rm.next hm hs hn hl
  refine ⟨rm, hv, fun p hp => ?_, ?_, fun k hk => ?_⟩
  · rcases hf with rfl | ⟨s, _, h2, rfl⟩
    · exact ⟨(h.fnd p hp).1, Nat.lt_succ_of_lt (h.fnd p hp).2⟩
    · rcases List.mem_append.mp hp with e | e
      · exact ⟨(h.fnd p e).1, Nat.lt_succ_of_lt (h.fnd p e).2⟩
      · simp at e
        rw [e]
        exact ⟨h2, Nat.lt_succ_self _⟩
  · rcases hf with rfl | ⟨s, _, _, rfl⟩
    · exact h.ord
    · refine List.pairwise_append.mpr ⟨h.ord, by simp, fun a ha b hb => ?_⟩
      simp at hb
      rw [hb]
      exact (h.fnd a ha).2
  · rcases Nat.lt_or_ge k t with g | g
    · obtain ⟨Rk, a1, a2, a3, a4⟩ := h.cov k g
      refine ⟨Rk, a1, a2, fun p hp h1 h2 => ?_, fun s hs2 hk2 => ?_⟩
      · rcases hf with rfl | ⟨s, hsR, _, rfl⟩
        · exact a3 p hp h1 h2
        · rcases List.mem_append.mp hp with e | e
          · exact a3 p e h1 h2
          · simp at e
            rw [e] at h1 ⊢
            exact a4 s hsR (Nat.le_of_lt h1)
      · rcases List.mem_append.mp hs2 with e | e
        · exact a4 s (hs.subset e) hk2
        · simp at e; omega
    · have : k = t := by omega
      subst this
      refine ⟨R2 ++ [k], by rw [List.length_append]; exact hl, by simp, fun p hp h1 h2 => ?_, fun s hs2 _ => hs2⟩
      have : p.2 ≤ k := by
        rcases hf with rfl | ⟨s, _, _, rfl⟩
        · exact Nat.le_of_lt (h.fnd p hp).2
        · rcases List.mem_append.mp hp with e | e
          · exact Nat.le_of_lt (h.fnd p e).2
          · simp at e
            rw [e]
            exact Nat.le_refl _
      omega
theorem filter_ne {R : List Nat} (hn : R.Nodup) {s : Nat} (hs : s ∈ R) : (R.filter fun x => decide (x ≠ s)).length + 1 = R.length := by
  have e : R.filter (fun x => decide (x ≠ s)) = R.erase s := by rw [hn.erase_eq_filter]; congr 1; funext x; by_cases h : x = s <;> simp [h]
  rw [e, List.length_erase_of_mem hs]
  have := List.length_pos_of_mem hs
  omega
/-- a hit -/
theorem Run.hit {t s : Nat} {R : List Nat} {found : List (Nat × Nat)} (h : Run A m t R found) (hm : 1 ≤ m) (ht : t < A.length) (hs : s ∈ R) (e : pg A s = pg A t) : Run A m (t + 1) ((R.filter fun x => decide (x ≠ s)) ++ [t]) (found ++ [(s, t)]) := by
  have hst := h.rm.hit ht hs e
  have hl := filter_ne h.rm.nd hs
  have hn : ∀ x ∈ R.filter (fun x => decide (x ≠ s)), pg A x ≠ pg A t := fun x hx e2 => by
    obtain ⟨h1, h2⟩ := List.mem_filter.mp hx
    exact of_decide_eq_true h2 (h.rm.inj h1 hs (e2.trans e.symm))
  have hfew := h.rm.few
  refine h.put hm List.filter_sublist hn (by omega) ?_ (.inr ⟨s, hs, hst, rfl⟩)
  have hv := h.val
  rw [drop_pg ht, opt_hit (List.mem_map.mpr ⟨s, hs, e⟩)] at hv
  have rm2 := h.rm.next hm List.filter_sublist hn (by omega)
  have : opt m (A.drop (t + 1)) (((R.filter fun x => decide (x ≠ s)) ++ [t]).map (pg A)) = opt m (A.drop (t + 1)) (R.map (pg A)) := opt_same rm2.pages h.rm.pages (by rw [List.length_map]; exact rm2.few) (by rw [List.length_map]; exact hfew) fun x => by
    rw [List.map_append, List.mem_append]
    constructor
    · rintro (h1 | h1)
      · obtain ⟨y, hy, rfl⟩ := List.mem_map.mp h1
        exact List.mem_map.mpr ⟨y, (List.mem_filter.mp hy).1, rfl⟩
      · simp at h1
        exact List.mem_map.mpr ⟨s, hs, by rw [h1, e]⟩
    · intro h1
      obtain ⟨y, hy, rfl⟩ := List.mem_map.mp h1
      by_cases hy2 : y = s
      · right; simp [hy2, e]
      · exact .inl (List.mem_map.mpr ⟨y, List.mem_filter.mpr ⟨hy, decide_eq_true hy2⟩, rfl⟩)
  rw [this, List.length_append]
  simp
  omega
theorem not_in {t : Nat} {R : List Nat} (hn : ∀ s ∈ R, pg A s ≠ pg A t) : pg A t ∉ R.map (pg A) := fun h => by
  obtain ⟨s, hs, e⟩ := List.mem_map.mp h
  exact hn s hs e
/-- a miss, with room -/
theorem Run.room {t : Nat} {R : List Nat} {found : List (Nat × Nat)} (h : Run A m t R found) (hm : 1 ≤ m) (ht : t < A.length) (hn : ∀ s ∈ R, pg A s ≠ pg A t) (hl : R.length < m) : Run A m (t + 1) (R ++ [t]) found := by
  refine h.put hm (List.Sublist.refl _) hn hl ?_ (.inl rfl)
  have hv := h.val
  rw [drop_pg ht, opt_room (not_in hn) (by rw [List.length_map]; exact hl)] at hv
  have rm2 := h.rm.next hm (List.Sublist.refl _) hn hl
  rw [opt_same (T := pg A t :: R.map (pg A)) rm2.pages (List.nodup_cons.mpr ⟨not_in hn, h.rm.pages⟩) (by rw [List.length_map]; exact rm2.few) (by rw [List.length_cons, List.length_map]; exact hl) fun x => by simp [or_comm]]
  exact hv
/-- the one whose page is asked for again last -/
def Vic (A R : List Nat) (v : Nat) : Prop := v ∈ R ∧ ∀ s ∈ R, endOf A s ≤ endOf A v
/-- a miss, all full -/
theorem Run.full {t v : Nat} {R : List Nat} {found : List (Nat × Nat)} (h : Run A m t R found) (hm : 1 ≤ m) (ht : t < A.length) (hn : ∀ s ∈ R, pg A s ≠ pg A t) (hl : R.length = m) (hv : Vic A R v) : Run A m (t + 1) ((R.filter fun x => decide (x ≠ v)) ++ [t]) found := by
  have hfl := filter_ne h.rm.nd hv.1
  have hn2 : ∀ x ∈ R.filter (fun x => decide (x ≠ v)), pg A x ≠ pg A t := fun x hx => hn x (List.mem_filter.mp hx).1
  refine h.put hm List.filter_sublist hn2 (by omega) ?_ (.inl rfl)
  have hval := h.val
  have hfar := opt_far (m := m) (p := pg A t) (x := pg A v) (r := A.drop (t + 1)) h.rm.pages (not_in hn) (by rw [List.length_map]; exact hl) (List.mem_map.mpr ⟨v, hv.1, rfl⟩) fun z hz => by
    obtain ⟨s, hs, rfl⟩ := List.mem_map.mp hz
    have h1 := nxt_end h.rm ht hs (hn s hs)
    have h2 := nxt_end h.rm ht hv.1 (hn v hv.1)
    have := hv.2 s hs
    omega
  rw [drop_pg ht, hfar] at hval
  have rm2 := h.rm.next hm List.filter_sublist hn2 (by omega)
  have nd2 : (pg A t :: (R.map (pg A)).erase (pg A v)).Nodup := List.nodup_cons.mpr ⟨fun z => not_in hn (List.mem_of_mem_erase z), h.rm.pages.erase _⟩
  rw [opt_same (T := pg A t :: (R.map (pg A)).erase (pg A v)) rm2.pages nd2 (by rw [List.length_map]; exact rm2.few) (by
    rw [List.length_cons, List.length_erase_of_mem (List.mem_map.mpr ⟨v, hv.1, rfl⟩), List.length_map]
    omega) fun x => ?_]
  · exact hval
  · rw [List.map_append, List.mem_append, List.mem_cons, h.rm.pages.mem_erase_iff]
    constructor
    · rintro (h1 | h1)
      · obtain ⟨y, hy, rfl⟩ := List.mem_map.mp h1
        obtain ⟨a1, a2⟩ := List.mem_filter.mp hy
        exact .inr ⟨fun e => of_decide_eq_true a2 (h.rm.inj a1 hv.1 e), List.mem_map.mpr ⟨y, a1, rfl⟩⟩
      · exact .inl (by simpa using h1)
    · rintro (h1 | ⟨h1, h2⟩)
      · exact .inr (by simp [h1])
      · obtain ⟨y, hy, rfl⟩ := List.mem_map.mp h2
        exact .inl (List.mem_map.mpr ⟨y, List.mem_filter.mpr ⟨hy, decide_eq_true fun e => h1 (by rw [e])⟩, rfl⟩)
/-! ### two runs keep the same -/
structure Alk (A R R2 : List Nat) : Prop where
  len : R.length = R2.length
  liv : ∀ s j, Strc A s j → (s ∈ R ↔ s ∈ R2)
theorem Alk.put {t : Nat} {S S2 : List Nat} (hl : S.length = S2.length) (h : ∀ s j, Strc A s j → (s ∈ S ↔ s ∈ S2)) : Alk A (S ++ [t]) (S2 ++ [t]) := ⟨by simp [hl], fun s j hs => by rw [List.mem_append, List.mem_append, h s j hs]⟩
theorem Alk.vic {R R2 : List Nat} {v v2 : Nat} (h : Alk A R R2) (n1 : R.Nodup) (n2 : R2.Nodup) (hv : Vic A R v) (hv2 : Vic A R2 v2) :
    ∀ s j, Strc A s j → (s ∈ R.filter (fun x => decide (x ≠ v)) ↔ s ∈ R2.filter (fun x => decide (x ≠ v2))) := by
  have dead : ∀ {Q Q2 : List Nat} {w w2 : Nat}, Alk A Q Q2 → Q.Nodup → Q2.Nodup → Vic A Q w → Vic A Q2 w2 → (∀ j, ¬ Strc A w j) → ∀ j, ¬ Strc A w2 j := by
    intro Q Q2 w w2 a q1 q2 hw hw2 hd j hj
    have he : endOf A w = A.length := endOf_none hd
    have he2 := endOf_strc hj
    -- all of Q2 are alive
    have all : ∀ s ∈ Q2, ∃ i, Strc A s i := fun s hs => by
      rcases endOf_cases (A := A) s with e | ⟨e, _⟩
      · exact ⟨_, e⟩
      · have := hw2.2 s hs
        have := hj.ln
        omega
    have := nd_len (a := w :: Q2) (b := Q) (List.nodup_cons.mpr ⟨fun z => by
      obtain ⟨i, hi⟩ := all w z
      exact hd i hi, q2⟩) fun x hx => by
      rcases List.mem_cons.mp hx with e | e
      · rw [e]; exact hw.1
      · obtain ⟨i, hi⟩ := all x e
        exact (a.liv x i hi).mpr e
    rw [List.length_cons] at this
    have := a.len
    omega
  have hsym : Alk A R2 R := ⟨h.len.symm, fun s j hs => (h.liv s j hs).symm⟩
  intro s j hs
  rw [List.mem_filter, List.mem_filter]
  rcases endOf_cases (A := A) v with hl | ⟨_, hd⟩
  · -- both alive: the same
    have hl2 : Strc A v2 (endOf A v2) := by
      rcases endOf_cases (A := A) v2 with e | ⟨_, e⟩
      · exact e
      · exact absurd hl (dead hsym n2 n1 hv2 hv e _)
    have m2 : v2 ∈ R := (h.liv _ _ hl2).mpr hv2.1
    have m1 : v ∈ R2 := (h.liv _ _ hl).mp hv.1
    have e1 := hv.2 v2 m2
    have e2 := hv2.2 v m1
    have ev : v = v2 := by
      have : endOf A v = endOf A v2 := by omega
      rw [this] at hl
      exact strc_uniq' hl hl2
    rw [ev, h.liv s j hs]
  · have hd2 := dead h n1 n2 hv hv2 hd
    have a1 : s ≠ v := fun e => hd j (e ▸ hs)
    have a2 : s ≠ v2 := fun e => hd2 j (e ▸ hs)
    simp [a1, a2, h.liv s j hs]
/-! ### the end -/
theorem Run.most {R : List Nat} {found : List (Nat × Nat)} (h : Run A m A.length R found) : found.length = opt m A [] := by
  have := h.val
  rw [List.drop_length] at this
  simpa [opt] using this
/-- fewer than m of what is kept lie over any time -/
theorem Run.fits {R : List Nat} {found L : List (Nat × Nat)} (h : Run A m A.length R found) (hL : ∀ p ∈ L, p ∈ found) (hn : L.Nodup) (k : Nat) (hk : k < A.length) : (L.filter fun p => decide (p.1 < k) && decide (k < p.2)).length < m := by
  obtain ⟨Rk, a1, a2, a3, _⟩ := h.cov k hk
  have key : ∀ p ∈ L.filter (fun p => decide (p.1 < k) && decide (k < p.2)), p ∈ found ∧ p.1 < k ∧ k < p.2 := fun p hp => by
    obtain ⟨b1, b2⟩ := List.mem_filter.mp hp
    rw [Bool.and_eq_true, decide_eq_true_eq, decide_eq_true_eq] at b2
    exact ⟨hL p b1, b2⟩
  have h1 : (k :: (L.filter fun p => decide (p.1 < k) && decide (k < p.2)).map (·.1)).Nodup := by
    refine List.nodup_cons.mpr ⟨fun z => ?_, ?_⟩
    · obtain ⟨p, hp, e⟩ := List.mem_map.mp z
      have := (key p hp).2.1
      omega
    · refine List.pairwise_map.mpr ((List.nodup_iff_pairwise_ne.mp (hn.filter _)).imp_of_mem fun {p q} hp hq hne e => hne ?_)
      have s1 := (h.fnd p (key p hp).1).1
      have s2 := (h.fnd q (key q hq).1).1
      have e' : p.1 = q.1 := e
      rw [e'] at s1
      exact Prod.ext e (strc_uniq s1 s2)
  have h2 := nd_len h1 (b := Rk) fun x hx => by
    rcases List.mem_cons.mp hx with e | e
    · rw [e]; exact a2
    · obtain ⟨p, hp, rfl⟩ := List.mem_map.mp e
      obtain ⟨b1, b2, b3⟩ := key p hp
      exact a3 p b1 b2 b3
  rw [List.length_cons, List.length_map] at h2
  omega
end K

/-! the rule, told; all that can lie in the rooms -/
namespace K
variable {A : List Nat} {m : Nat}
def Step (A : List Nat) (m t : Nat) (R : List Nat) (f : List (Nat × Nat)) (R' : List Nat) (f' : List (Nat × Nat)) : Prop :=
  (∃ s, s ∈ R ∧ pg A s = pg A t ∧ R'.Perm ((R.filter fun x => decide (x ≠ s)) ++ [t]) ∧ f' = f ++ [(s, t)]) ∨
  ((∀ s ∈ R, pg A s ≠ pg A t) ∧ R.length < m ∧ R'.Perm (R ++ [t]) ∧ f' = f) ∨
  ((∀ s ∈ R, pg A s ≠ pg A t) ∧ R.length = m ∧ ∃ v, Vic A R v ∧ R'.Perm ((R.filter fun x => decide (x ≠ v)) ++ [t]) ∧ f' = f)
def Rule (A : List Nat) (m : Nat) : Nat → List Nat → List (Nat × Nat) → Prop
  | 0, R, f => R = [] ∧ f = []
  | t + 1, R, f => ∃ R0 f0, Rule A m t R0 f0 ∧ Step A m t R0 f0 R f
theorem Rule.run (hm : 1 ≤ m) : ∀ {t : Nat} {R : List Nat} {f : List (Nat × Nat)}, t ≤ A.length → Rule A m t R f → Run A m t R f
  | 0, _, _, _, ⟨h1, h2⟩ => by rw [h1, h2]; exact Run.start
  | t + 1, R, f, ht, ⟨R0, f0, h, st⟩ => by
    have r := Rule.run hm (by omega) h
    rcases st with ⟨s, hs, e, p, rfl⟩ | ⟨hn, hl, p, rfl⟩ | ⟨hn, hl, v, hv, p, rfl⟩
    · exact (r.hit hm (by omega) hs e).perm p
    · exact (r.room hm (by omega) hn hl).perm p
    · exact (r.full hm (by omega) hn hl hv).perm p
theorem Alk.perm {R R2 S S2 : List Nat} (h : Alk A R R2) (p : S.Perm R) (q : S2.Perm R2) : Alk A S S2 := ⟨by rw [p.length_eq, q.length_eq, h.len], fun s j hs => by rw [p.mem_iff, q.mem_iff]; exact h.liv s j hs⟩
theorem Rule.same (hm : 1 ≤ m) : ∀ {t : Nat} {R R2 : List Nat} {f f2 : List (Nat × Nat)}, t ≤ A.length → Rule A m t R f → Rule A m t R2 f2 → f = f2 ∧ Alk A R R2
  | 0, _, _, _, _, _, ⟨h1, h2⟩, ⟨h3, h4⟩ => by rw [h1, h2, h3, h4]; exact ⟨rfl, rfl, fun _ _ _ => Iff.rfl⟩
  | t + 1, R, R2, f, f2, ht, ⟨R0, f0, h, st⟩, ⟨Q0, g0, h', st'⟩ => by
    obtain ⟨rfl, al⟩ := Rule.same hm (by omega) h h'
    have r := (Rule.run hm (by omega) h).rm
    have r' := (Rule.run hm (by omega) h').rm
    have ht' : t < A.length := by omega
    -- a hit is a hit in both
    rcases st with ⟨s, hs, e, p, rfl⟩ | ⟨hn, hl, p, rfl⟩ | ⟨hn, hl, v, hv, p, rfl⟩
    · have hst := r.hit ht' hs e
      have hs2 := (al.liv s t hst).mp hs
      rcases st' with ⟨s', hs', e', p', rfl⟩ | ⟨hn', _⟩ | ⟨hn', _⟩
      · have ess : s = s' := r'.inj hs2 hs' (e.trans e'.symm)
        subst ess
        refine ⟨rfl, (Alk.put ?_ fun x j hx => ?_).perm p p'⟩
        · have h1 := filter_ne r.nd hs
          have h2 := filter_ne r'.nd hs2
          have := al.len
          omega
        · rw [List.mem_filter, List.mem_filter, al.liv x j hx]
      · exact absurd e (hn' s hs2)
      · exact absurd e (hn' s hs2)
    · rcases st' with ⟨s', hs', e', _⟩ | ⟨hn', hl', p', rfl⟩ | ⟨hn', hl', _⟩
      · have hst := r'.hit ht' hs' e'
        exact absurd e' (hn s' ((al.liv s' t hst).mpr hs'))
      · exact ⟨rfl, (Alk.put al.len al.liv).perm p p'⟩
      · have := al.len; omega
    · rcases st' with ⟨s', hs', e', _⟩ | ⟨hn', hl', p', rfl⟩ | ⟨hn', hl', v', hv', p', rfl⟩
      · have hst := r'.hit ht' hs' e'
        exact absurd e' (hn s' ((al.liv s' t hst).mpr hs'))
      · have := al.len; omega
      · refine ⟨rfl, (Alk.put ?_ (al.vic r.nd r'.nd hv hv')).perm p p'⟩
        have h1 := filter_ne r.nd hv.1
        have h2 := filter_ne r'.nd hv'.1
        have := al.len
        omega
/-- what is kept, in order -/
def kp (A : List Nat) (f : List (Nat × Nat)) : List (Nat × Nat) := (stre A).filter fun p => decide (p ∈ f)
theorem Run.kp_perm {t : Nat} {R : List Nat} {f : List (Nat × Nat)} (h : Run A m t R f) : f.Perm (kp A f) := by
  have hn : f.Nodup := h.ord.imp fun h e => by rw [e] at h; omega
  refine (List.perm_ext_iff_of_nodup hn (stre_nodup.filter _)).mpr fun p => ?_
  rw [List.mem_filter, decide_eq_true_eq]
  exact ⟨fun hp => ⟨mem_stre.mpr (h.fnd p hp).1, hp⟩, fun hp => hp.2⟩
theorem kp_sorted (f : List (Nat × Nat)) : (kp A f).Pairwise fun p q => p.1 < q.1 := stre_sorted.filter _
/-! ### all that can lie in the rooms -/
def rests (p : Nat) (s : List Nat) : List Nat := s.filter fun x => !decide (x = p)
def cands (m p : Nat) (s : List Nat) : List (List Nat) := if (rests p s).length < m then [rests p s] else (List.range (rests p s).length).map fun i => (rests p s).take i ++ (rests p s).drop (i + 1)
def hitV (p : Nat) (s : List Nat) : Nat := if p ∈ s then 1 else 0
theorem mem_rests {p x : Nat} {s : List Nat} : x ∈ rests p s ↔ x ∈ s ∧ x ≠ p := by
  unfold rests
  rw [List.mem_filter]
  simp
theorem out_perm (l : List Nat) (i : Nat) (h : i < l.length) : l.Perm (l[i] :: (l.take i ++ l.drop (i + 1))) := by
  have e : l = l.take i ++ l[i] :: l.drop (i + 1) := by rw [← List.drop_eq_getElem_cons h, List.take_append_drop]
  exact (List.Perm.of_eq e).trans List.perm_middle
/-- a state's successors tell no more than it does, and one tells as much -/
theorem cands_ok {p : Nat} {r s : List Nat} (hm : 1 ≤ m) (hn : s.Nodup) (hl : s.length ≤ m) :
    (∀ c ∈ cands m p s, ∀ w : List Nat, w.Perm (c ++ [p]) → w.Nodup ∧ w.length ≤ m ∧ (∀ x ∈ w, x = p ∨ x ∈ s) ∧ hitV p s + opt m r w ≤ opt m (p :: r) s) ∧
    ∃ c ∈ cands m p s, ∀ w : List Nat, w.Perm (c ++ [p]) → hitV p s + opt m r w = opt m (p :: r) s := by
  have nr : (rests p s).Nodup := hn.filter _
  have np : ∀ {c : List Nat}, c.Sublist (rests p s) → (c ++ [p]).Nodup := fun {c} hc => List.nodup_append.mpr ⟨hc.nodup nr, by simp, fun a ha b hb e => by
    simp at hb
    exact (mem_rests.mp (hc.subset ha)).2 (e.trans hb)⟩
  by_cases hp : p ∈ s
  · -- a hit
    have hlr : (rests p s).length < m := by
      have := nd_len (a := p :: rests p s) (b := s) (List.nodup_cons.mpr ⟨fun z => (mem_rests.mp z).2 rfl, nr⟩) fun x hx => (List.mem_cons.mp hx).elim (fun e => e ▸ hp) fun e => (mem_rests.mp e).1
      rw [List.length_cons] at this
      omega
    have hc : cands m p s = [rests p s] := by unfold cands; rw [if_pos hlr]
    have main : ∀ w : List Nat, w.Perm (rests p s ++ [p]) → w.Nodup ∧ w.length ≤ m ∧ (∀ x ∈ w, x = p ∨ x ∈ s) ∧ hitV p s + opt m r w = opt m (p :: r) s := fun w hw => by
      have nw : w.Nodup := hw.nodup_iff.mpr (np (List.Sublist.refl _))
      have lw : w.length ≤ m := by rw [hw.length_eq, List.length_append]; exact hlr
      have mw : ∀ x, x ∈ w ↔ x ∈ s := fun x => by
        rw [hw.mem_iff, List.mem_append, mem_rests]
        by_cases e : x = p
        · simp [e, hp]
        · simp [e]
      refine ⟨nw, lw, fun x hx => .inr ((mw x).mp hx), ?_⟩
      rw [opt_hit hp, opt_same nw hn lw hl mw, hitV, if_pos hp]
    rw [hc]
    refine ⟨fun c hc w hw => ?_, _, List.mem_singleton.mpr rfl, fun w hw => (main w hw).2.2.2⟩
    rw [List.mem_singleton.mp hc] at hw
    obtain ⟨a1, a2, a3, a4⟩ := main w hw
    exact ⟨a1, a2, a3, by omega⟩
  · have hr : rests p s = s := List.filter_eq_self.mpr fun x hx => by
      have : x ≠ p := fun e => hp (e ▸ hx)
      simp [this]
    have hv : hitV p s = 0 := by unfold hitV; rw [if_neg hp]
    by_cases hlr : s.length < m
    · have hc : cands m p s = [s] := by unfold cands; rw [hr, if_pos hlr]
      have main : ∀ w : List Nat, w.Perm (s ++ [p]) → w.Nodup ∧ w.length ≤ m ∧ (∀ x ∈ w, x = p ∨ x ∈ s) ∧ hitV p s + opt m r w = opt m (p :: r) s := fun w hw => by
        have nw : w.Nodup := hw.nodup_iff.mpr (by have := np (List.Sublist.refl _); rwa [hr] at this)
        have lw : w.length ≤ m := by rw [hw.length_eq, List.length_append]; exact hlr
        have mw : ∀ x, x ∈ w ↔ x ∈ p :: s := fun x => by rw [hw.mem_iff]; simp [or_comm]
        refine ⟨nw, lw, fun x hx => List.mem_cons.mp ((mw x).mp hx), ?_⟩
        rw [opt_room hp hlr, hv, Nat.zero_add]
        exact opt_same nw (List.nodup_cons.mpr ⟨hp, hn⟩) lw (by rw [List.length_cons]; exact hlr) mw
      rw [hc]
      refine ⟨fun c hc w hw => ?_, _, List.mem_singleton.mpr rfl, fun w hw => (main w hw).2.2.2⟩
      rw [List.mem_singleton.mp hc] at hw
      obtain ⟨a1, a2, a3, a4⟩ := main w hw
      exact ⟨a1, a2, a3, by omega⟩
    · have hc : cands m p s = (List.range s.length).map fun i => s.take i ++ s.drop (i + 1) := by unfold cands; rw [hr, if_neg hlr]
      have main : ∀ i (hi : i < s.length), ∀ w : List Nat, w.Perm ((s.take i ++ s.drop (i + 1)) ++ [p]) → w.Nodup ∧ w.length ≤ m ∧ (∀ x ∈ w, x = p ∨ x ∈ s) ∧ opt m r w = opt m r (p :: s.erase s[i]) := fun i hi w hw => by
        have pm := out_perm s i hi
        have ni := pm.nodup_iff.mp hn
        obtain ⟨n1, n2⟩ := List.nodup_cons.mp ni
        have ll := pm.length_eq
        rw [List.length_cons] at ll
        have hmem : ∀ x, x ∈ s.take i ++ s.drop (i + 1) ↔ x ∈ s ∧ x ≠ s[i] := fun x => by
          rw [pm.mem_iff, List.mem_cons]
          exact ⟨fun h => ⟨.inr h, fun e => n1 (e ▸ h)⟩, fun h => h.1.elim (fun e => absurd e h.2) id⟩
        have nw : w.Nodup := hw.nodup_iff.mpr (List.nodup_append.mpr ⟨n2, by simp, fun a ha b hb e => by
          simp at hb
          exact hp (by rw [← hb, ← e]; exact ((hmem a).mp ha).1)⟩)
        have lw : w.length ≤ m := by rw [hw.length_eq, List.length_append, List.length_singleton]; omega
        have mw : ∀ x, x ∈ w ↔ x ∈ p :: s.erase s[i] := fun x => by
          rw [hw.mem_iff, List.mem_append, hmem, List.mem_singleton, List.mem_cons, hn.mem_erase_iff]
          constructor
          · rintro (h | h)
            · exact .inr ⟨h.2, h.1⟩
            · exact .inl h
          · rintro (h | h)
            · exact .inr h
            · exact .inl ⟨h.2, h.1⟩
        refine ⟨nw, lw, fun x hx => ((List.mem_cons.mp ((mw x).mp hx)).elim .inl fun e => .inr (List.mem_of_mem_erase e)), ?_⟩
        exact opt_same nw (List.nodup_cons.mpr ⟨fun h => hp (List.mem_of_mem_erase h), hn.erase _⟩) lw (by rw [List.length_cons, List.length_erase_of_mem (List.getElem_mem hi)]; omega) mw
      rw [hc]
      refine ⟨fun c hc w hw => ?_, ?_⟩
      · obtain ⟨i, hi, rfl⟩ := List.mem_map.mp hc
        have hi' := List.mem_range.mp hi
        obtain ⟨a1, a2, a3, a4⟩ := main i hi' w hw
        refine ⟨a1, a2, a3, ?_⟩
        rw [hv, Nat.zero_add, a4]
        exact opt_full_ge hp hlr (List.getElem_mem hi')
      · -- one that tells as much
        obtain ⟨z, hz, ez⟩ : ∃ z ∈ s, opt m (p :: r) s ≤ opt m r (p :: s.erase z) := by
          refine Classical.byContradiction fun hno => ?_
          have hlt : ∀ z ∈ s, opt m r (p :: s.erase z) < opt m (p :: r) s := fun z hz => Nat.lt_of_not_le fun h => hno ⟨z, hz, h⟩
          obtain ⟨z0, hz0⟩ : ∃ z, z ∈ s := by
            cases s with
            | nil => simp at hlr; omega
            | cons z _ => exact ⟨z, by simp⟩
          have h0 := hlt z0 hz0
          have := opt_full_le (m := m) (r := r) (b := opt m (p :: r) s - 1) hp hlr fun z hz => by have := hlt z hz; omega
          omega
        obtain ⟨i, hi, e⟩ := List.mem_iff_getElem.mp hz
        refine ⟨_, List.mem_map.mpr ⟨i, List.mem_range.mpr hi, rfl⟩, fun w hw => ?_⟩
        obtain ⟨_, _, _, a4⟩ := main i hi w hw
        have := opt_full_ge (r := r) hp hlr hz
        rw [hv, Nat.zero_add, a4, e]
        omega
/-- the table: what can lie in the rooms, with the hits; O the most -/
structure Tab (m pages O : Nat) (r : List Nat) (L : List (List Nat × Nat)) : Prop where
  keys : (L.map (·.1)).Nodup
  ok : ∀ q ∈ L, q.1.Nodup ∧ q.1.length ≤ m ∧ (∀ x ∈ q.1, x < pages) ∧ q.1.Pairwise (· < ·) ∧ q.2 + opt m r q.1 ≤ O
/-- lists of ascending numbers -/
def subs : Nat → List (List Nat)
  | 0 => [[]]
  | k + 1 => subs k ++ (subs k).map fun l => l ++ [k]
theorem subs_len : ∀ k, (subs k).length = 2 ^ k
  | 0 => rfl
  | k + 1 => by rw [subs, List.length_append, List.length_map, subs_len k, Nat.pow_succ]; omega
theorem mem_subs : ∀ (k : Nat) (l : List Nat), l.Pairwise (· < ·) → (∀ x ∈ l, x < k) → l ∈ subs k
  | 0, l, _, h => by
    cases l with
    | nil => simp [subs]
    | cons x l => exact absurd (h x (by simp)) (Nat.not_lt_zero _)
  | k + 1, l, hs, h => by
    rw [subs, List.mem_append, List.mem_map]
    by_cases hk : k ∈ l
    · right
      obtain ⟨a, b, rfl⟩ := List.append_of_mem hk
      obtain ⟨h1, h2, h3⟩ := List.pairwise_append.mp hs
      have hb : b = [] := by
        cases b with
        | nil => rfl
        | cons y b =>
          have g1 := (List.pairwise_cons.mp h2).1 y (by simp)
          have g2 := h y (by simp)
          omega
      subst hb
      exact ⟨a, mem_subs k a h1 fun x hx => h3 x hx k (by simp), rfl⟩
    · left
      exact mem_subs k l hs fun x hx => by
        have := h x hx
        have : x ≠ k := fun e => hk (e ▸ hx)
        omega
theorem nd_lenL {α : Type} [DecidableEq α] {a b : List α} (h : a.Nodup) (hs : ∀ x ∈ a, x ∈ b) : a.length ≤ b.length := by
  induction a generalizing b with
  | nil => exact Nat.zero_le _
  | cons x a ih =>
    obtain ⟨h1, h2⟩ := List.nodup_cons.mp h
    have hb : x ∈ b := hs x (by simp)
    have := ih h2 (b := b.erase x) fun y hy => (List.mem_erase_of_ne (fun e => h1 (by rw [← e]; exact hy))).mpr (hs y (by simp [hy]))
    rw [List.length_erase_of_mem hb] at this
    have := List.length_pos_of_mem hb
    rw [List.length_cons]
    omega
theorem Tab.few {pages O : Nat} {r : List Nat} {L : List (List Nat × Nat)} (h : Tab m pages O r L) : L.length ≤ 2 ^ pages := by
  have := nd_lenL (a := L.map (·.1)) (b := subs pages) h.keys fun x hx => by
    obtain ⟨q, hq, rfl⟩ := List.mem_map.mp hx
    obtain ⟨_, _, h3, h4, _⟩ := h.ok q hq
    exact mem_subs pages _ h4 h3
  rwa [List.length_map, subs_len] at this
end K

/-! lots of stretches: the most hits are the greatest lot -/
namespace K
variable {A : List Nat} {m : Nat}
/-- how many of some stretches lie over a time -/
def cov (k : Nat) (p : Nat × Nat) : Bool := decide (p.1 < k) && decide (k < p.2)
def over (L : List (Nat × Nat)) (k : Nat) : Nat := (L.filter (cov k)).length
theorem over_append (L M : List (Nat × Nat)) (k : Nat) : over (L ++ M) k = over L k + over M k := by unfold over; rw [List.filter_append, List.length_append]
theorem over_perm {L M : List (Nat × Nat)} (p : L.Perm M) (k : Nat) : over L k = over M k := (p.filter _).length_eq
theorem over_cons (p : Nat × Nat) (L : List (Nat × Nat)) (k : Nat) : over (p :: L) k = (if cov k p = true then 1 else 0) + over L k := by
  unfold over
  rw [List.filter_cons]
  split <;> simp <;> omega
/-- a lot that m rooms keep -/
structure Lot (A : List Nat) (m : Nat) (L : List (Nat × Nat)) : Prop where
  nd : L.Nodup
  st : ∀ p ∈ L, Strc A p.1 p.2
  ov : ∀ k, k < A.length → over L k < m
theorem lot_go (hm : 1 ≤ m) {L : List (Nat × Nat)} (h : Lot A m L) : ∀ (d t : Nat) (S : List Nat), t + d = A.length → S.Nodup → S.length ≤ m → (∀ p ∈ L, p.1 < t → t ≤ p.2 → pg A p.1 ∈ S) →
    (L.filter fun p => decide (t ≤ p.2)).length ≤ opt m (A.drop t) S
  | 0, t, S, ht, _, _, _ => by
    have : (L.filter fun p => decide (t ≤ p.2)) = [] := List.filter_eq_nil_iff.mpr fun p hp => by
      have := (h.st p hp).ln
      simp
      omega
    rw [this]
    exact Nat.zero_le _
  | d + 1, t, S, ht, nS, lS, hS => by
    have ht' : t < A.length := by omega
    rw [drop_pg ht']
    by_cases hh : ∃ p ∈ L, p.2 = t
    · obtain ⟨p0, hp0, e0⟩ := hh
      have s0 := h.st p0 hp0
      have hit : pg A t ∈ S := by
        have := hS p0 hp0 (by have := s0.lt; omega) (by omega)
        rw [s0.eq, e0] at this
        exact this
      rw [opt_hit hit]
      have h1 := lot_go hm h d (t + 1) S (by omega) nS lS fun p hp a b => by
        rcases Nat.lt_or_ge p.1 t with g | g
        · exact hS p hp g (by omega)
        · rw [show p.1 = t by omega]; exact hit
      have h2 : (L.filter fun p => decide (t ≤ p.2)).length ≤ (p0 :: L.filter fun p => decide (t + 1 ≤ p.2)).length := nd_lenL (h.nd.filter _) fun p hp => by
        obtain ⟨a, b⟩ := List.mem_filter.mp hp
        have b' := of_decide_eq_true b
        rcases Nat.lt_or_ge t p.2 with g | g
        · exact List.mem_cons_of_mem _ (List.mem_filter.mpr ⟨a, decide_eq_true g⟩)
        · have e : p.2 = t := by omega
          have s1 := h.st p a
          rw [e] at s1
          rw [e0] at s0
          rw [show p = p0 from Prod.ext (strc_uniq' s1 s0) (e.trans e0.symm)]
          simp
      rw [List.length_cons] at h2
      omega
    · have hcnt : (L.filter fun p => decide (t ≤ p.2)).length ≤ (L.filter fun p => decide (t + 1 ≤ p.2)).length := nd_lenL (h.nd.filter _) fun p hp => by
        obtain ⟨a, b⟩ := List.mem_filter.mp hp
        have b' := of_decide_eq_true b
        have : p.2 ≠ t := fun e => hh ⟨p, a, e⟩
        exact List.mem_filter.mpr ⟨a, decide_eq_true (by omega)⟩
      by_cases hit : pg A t ∈ S
      · rw [opt_hit hit]
        have h1 := lot_go hm h d (t + 1) S (by omega) nS lS fun p hp a b => by
          rcases Nat.lt_or_ge p.1 t with g | g
          · exact hS p hp g (by omega)
          · rw [show p.1 = t by omega]; exact hit
        omega
      · by_cases hl : S.length < m
        · rw [opt_room hit hl]
          have h1 := lot_go hm h d (t + 1) (pg A t :: S) (by omega) (List.nodup_cons.mpr ⟨hit, nS⟩) (by rw [List.length_cons]; exact hl) fun p hp a b => by
            rcases Nat.lt_or_ge p.1 t with g | g
            · exact List.mem_cons_of_mem _ (hS p hp g (by omega))
            · rw [show p.1 = t by omega]; simp
          omega
        · -- one leaves that no stretch over t wants
          obtain ⟨z, hz, hz2⟩ : ∃ z ∈ S, ∀ p ∈ L, p.1 < t → t < p.2 → pg A p.1 ≠ z := by
            refine Classical.byContradiction fun hno => ?_
            have h1 := nd_len nS (b := (L.filter (cov t)).map fun p => pg A p.1) fun z hz => Classical.byContradiction fun hzn => hno ⟨z, hz, fun p hp a b e => hzn (List.mem_map.mpr ⟨p, List.mem_filter.mpr ⟨hp, by simp [cov, a, b]⟩, e⟩)⟩
            rw [List.length_map] at h1
            have := h.ov t ht'
            unfold over at this
            omega
          refine Nat.le_trans ?_ (opt_full_ge hit hl hz)
          have h1 := lot_go hm h d (t + 1) (pg A t :: S.erase z) (by omega) (List.nodup_cons.mpr ⟨fun w => hit (List.mem_of_mem_erase w), nS.erase z⟩) (by rw [List.length_cons, List.length_erase_of_mem hz]; have := List.length_pos_of_mem hz; omega) fun p hp a b => by
            rcases Nat.lt_or_ge p.1 t with g | g
            · exact List.mem_cons_of_mem _ ((List.mem_erase_of_ne (hz2 p hp g (by omega))).mpr (hS p hp g (by omega)))
            · rw [show p.1 = t by omega]; simp
          omega
theorem lot_le (hm : 1 ≤ m) {L : List (Nat × Nat)} (h : Lot A m L) : L.length ≤ opt m A [] := by
  have := lot_go hm h A.length 0 [] (Nat.zero_add _) List.nodup_nil (Nat.zero_le _) fun p _ a _ => absurd a (Nat.not_lt_zero _)
  rw [List.drop_zero, List.filter_eq_self.mpr (fun p _ => by simp)] at this
  exact this
/-- the rule goes on -/
theorem max_ex {R : List Nat} (h : R ≠ []) : ∃ v, Vic A R v := by
  induction R with
  | nil => exact absurd rfl h
  | cons x R ih =>
    by_cases e : R = []
    · subst e
      exact ⟨x, by simp, fun s hs => by rw [List.mem_singleton.mp hs]; exact Nat.le_refl _⟩
    · obtain ⟨v, hv, hmax⟩ := ih e
      by_cases c : endOf A v ≤ endOf A x
      · exact ⟨x, by simp, fun s hs => (List.mem_cons.mp hs).elim (fun e => by rw [e]; exact Nat.le_refl _) fun e => Nat.le_trans (hmax s e) c⟩
      · exact ⟨v, by simp [hv], fun s hs => (List.mem_cons.mp hs).elim (fun e => by rw [e]; omega) (hmax s)⟩
theorem Rule.ex (hm : 1 ≤ m) : ∀ t, t ≤ A.length → ∃ R f, Rule A m t R f
  | 0, _ => ⟨[], [], rfl, rfl⟩
  | t + 1, ht => by
    obtain ⟨R, f, h⟩ := Rule.ex hm t (by omega)
    have few := (Rule.run hm (by omega) h).rm.few
    by_cases hh : ∃ s ∈ R, pg A s = pg A t
    · obtain ⟨s, hs, e⟩ := hh
      exact ⟨_, _, R, f, h, .inl ⟨s, hs, e, List.Perm.refl _, rfl⟩⟩
    · have hn : ∀ s ∈ R, pg A s ≠ pg A t := fun s hs e => hh ⟨s, hs, e⟩
      by_cases hl : R.length < m
      · exact ⟨_, _, R, f, h, .inr (.inl ⟨hn, hl, List.Perm.refl _, rfl⟩)⟩
      · obtain ⟨v, hv⟩ := max_ex (A := A) (R := R) (fun e => by rw [e] at hl; simp at hl; omega)
        exact ⟨_, _, R, f, h, .inr (.inr ⟨hn, by omega, v, hv, List.Perm.refl _, rfl⟩)⟩
/-- and some lot is as great -/
theorem lot_ex (hm : 1 ≤ m) : ∃ L, Lot A m L ∧ L.length = opt m A [] := by
  obtain ⟨R, f, h⟩ := Rule.ex (A := A) hm A.length (Nat.le_refl _)
  have run := Rule.run hm (Nat.le_refl _) h
  have nd : f.Nodup := run.ord.imp fun h e => by rw [e] at h; omega
  exact ⟨f, ⟨nd, fun p hp => (run.fnd p hp).1, fun k hk => run.fits (fun _ h => h) nd k hk⟩, run.most⟩
/-! ### more rooms -/
theorem opt_mono (hm : 1 ≤ m) : opt m A [] ≤ opt (m + 1) A [] := by
  obtain ⟨L, h, e⟩ := lot_ex (A := A) hm
  rw [← e]
  exact lot_le (by omega) ⟨h.nd, h.st, fun k hk => Nat.lt_succ_of_lt (h.ov k hk)⟩
/-- intervals shared out evenly -/
theorem even : ∀ (n : Nat) (D : List (Nat × Nat)), D.length = n → (∀ p ∈ D, p.1 < p.2) → ∃ X Y : List (Nat × Nat), (X ++ Y).Perm D ∧ ∀ k, over X k ≤ over Y k + 1 ∧ over Y k ≤ over X k + 1
  | 0, D, h, _ => by
    rw [List.length_eq_zero_iff.mp h]
    exact ⟨[], [], List.Perm.refl _, fun k => by simp [over]⟩
  | 1, D, h, _ => by
    obtain ⟨p, rfl⟩ := List.length_eq_one_iff.mp h
    exact ⟨[p], [], List.Perm.refl _, fun k => by rw [over_cons]; split <;> simp [over]⟩
  | n + 2, D, h, hD => by
    -- the two that begin first
    have mn : ∀ l : List (Nat × Nat), l ≠ [] → ∃ p l', l.Perm (p :: l') ∧ ∀ q ∈ l', p.1 ≤ q.1 := by
      intro l
      induction l with
      | nil => intro h; exact absurd rfl h
      | cons x l ih =>
        intro _
        by_cases e : l = []
        · subst e; exact ⟨x, [], List.Perm.refl _, fun _ h => nomatch h⟩
        · obtain ⟨p, l', pm, hp⟩ := ih e
          by_cases c : x.1 ≤ p.1
          · exact ⟨x, l, List.Perm.refl _, fun q hq => (List.mem_cons.mp (pm.mem_iff.mp hq)).elim (fun e => by rw [e]; exact c) fun e => Nat.le_trans c (hp q e)⟩
          · exact ⟨p, x :: l', (pm.cons x).trans (List.Perm.swap ..), fun q hq => (List.mem_cons.mp hq).elim (fun e => by rw [e]; omega) (hp q)⟩
    obtain ⟨p, D1, pm1, h1⟩ := mn D (fun e => by rw [e] at h; simp at h)
    have l1 : D1.length = n + 1 := by have := pm1.length_eq; rw [List.length_cons] at this; omega
    obtain ⟨q, E, pm2, h2⟩ := mn D1 (fun e => by rw [e] at l1; simp at l1)
    have lE : E.length = n := by have := pm2.length_eq; rw [List.length_cons] at this; omega
    have pm : D.Perm (p :: q :: E) := pm1.trans (pm2.cons p)
    have dp : p.1 < p.2 := hD p (pm.mem_iff.mpr (by simp))
    have dq : q.1 < q.2 := hD q (pm.mem_iff.mpr (by simp))
    have dE : ∀ e ∈ E, e.1 < e.2 := fun e he => hD e (pm.mem_iff.mpr (by simp [he]))
    have hpq : p.1 ≤ q.1 := h1 q (pm2.mem_iff.mpr (by simp))
    have hqE : ∀ e ∈ E, q.1 ≤ e.1 := h2
    by_cases hd : p.2 ≤ q.1 + 1
    · -- p ends before all others cover anything
      obtain ⟨X, Y, pxy, hxy⟩ := even (n + 1) D1 l1 fun e he => hD e (pm1.mem_iff.mpr (List.mem_cons_of_mem _ he))
      refine ⟨p :: X, Y, (pxy.cons p).trans pm1.symm, fun k => ?_⟩
      have := hxy k
      rw [over_cons]
      by_cases c : cov k p = true
      · have hk : k ≤ q.1 := by simp [cov] at c; omega
        have none : ∀ M : List (Nat × Nat), (∀ e ∈ M, e ∈ D1) → over M k = 0 := fun M hM => by
          unfold over
          rw [List.filter_eq_nil_iff.mpr fun e he => ?_]
          · rfl
          · have : q.1 ≤ e.1 := (List.mem_cons.mp (pm2.mem_iff.mp (hM e he))).elim (fun e => by rw [e]; exact Nat.le_refl _) (hqE e)
            simp [cov]
            omega
        rw [if_pos c, none X fun e he => pxy.mem_iff.mp (List.mem_append_left _ he), none Y fun e he => pxy.mem_iff.mp (List.mem_append_right _ he)]
        omega
      · rw [if_neg c]; omega
    · -- the two in one
      let r : Nat × Nat := (min p.2 q.2 - 1, max p.2 q.2)
      have hmin : q.1 + 1 ≤ min p.2 q.2 := by omega
      have dr : r.1 < r.2 := by show min p.2 q.2 - 1 < max p.2 q.2; omega
      obtain ⟨X, Y, pxy, hxy⟩ := even (n + 1) (r :: E) (by rw [List.length_cons, lE]) fun e he => (List.mem_cons.mp he).elim (fun z => by rw [z]; exact dr) (dE e)
      -- the longer one, and the shorter
      obtain ⟨lo, sh, hls, plo⟩ : ∃ lo sh : Nat × Nat, (∀ k, q.1 < k → (if cov k lo = true then 1 else 0) = (if cov k sh = true then 1 else 0) + (if cov k r = true then 1 else 0)) ∧ [lo, sh].Perm [p, q] := by
        by_cases c : p.2 ≤ q.2
        · refine ⟨q, p, fun k hk => ?_, List.Perm.swap ..⟩
          simp only [cov, r, Bool.and_eq_true, decide_eq_true_eq]
          split <;> split <;> split <;> omega
        · refine ⟨p, q, fun k hk => ?_, List.Perm.refl _⟩
          simp only [cov, r, Bool.and_eq_true, decide_eq_true_eq]
          split <;> split <;> split <;> omega
      have one : ∀ k, k ≤ q.1 → (if cov k lo = true then 1 else 0) + (if cov k sh = true then 1 else 0) ≤ 1 := fun k hk => by
        have hq0 : cov k q = false := by simp [cov]; omega
        have h3 : over [lo, sh] k = over [p, q] k := over_perm plo k
        have hc : (if cov k p = true then 1 else 0) ≤ 1 := by split <;> omega
        have h0 : over [] k = 0 := rfl
        rw [over_cons, over_cons, over_cons, over_cons, hq0, h0, if_neg Bool.false_ne_true] at h3
        omega
      have none : ∀ k, k ≤ q.1 → ∀ M : List (Nat × Nat), (∀ e ∈ M, e ∈ r :: E) → over M k = 0 := fun k hk M hM => by
        unfold over
        rw [List.filter_eq_nil_iff.mpr fun e he => ?_]
        · rfl
        · have : q.1 ≤ e.1 := (List.mem_cons.mp (hM e he)).elim (fun z => by rw [z]; show q.1 ≤ min p.2 q.2 - 1; omega) (hqE e)
          simp [cov]
          omega
      have main : ∀ X0 Y0 : List (Nat × Nat), (r :: X0 ++ Y0).Perm (r :: E) → (∀ k, over (r :: X0) k ≤ over Y0 k + 1 ∧ over Y0 k ≤ over (r :: X0) k + 1) → (lo :: X0 ++ sh :: Y0).Perm D ∧ ∀ k, over (lo :: X0) k ≤ over (sh :: Y0) k + 1 ∧ over (sh :: Y0) k ≤ over (lo :: X0) k + 1 := by
        intro X0 Y0 pp hh
        have p0 : (X0 ++ Y0).Perm E := (List.perm_cons r).mp pp
        refine ⟨?_, fun k => ?_⟩
        · have e1 : (lo :: X0 ++ sh :: Y0).Perm (lo :: sh :: (X0 ++ Y0)) := by
            rw [List.cons_append]
            exact List.perm_middle.cons lo
          exact e1.trans (((p0.cons sh).cons lo).trans ((plo.append_right E).trans pm.symm))
        · have hk := hh k
          rw [over_cons] at hk
          rw [over_cons, over_cons]
          rcases Nat.lt_or_ge q.1 k with g | g
          · have := hls k g
            omega
          · have a1 := none k g X0 fun e he => pp.mem_iff.mp (by simp [he])
            have a2 := none k g Y0 fun e he => pp.mem_iff.mp (by simp [he])
            have := one k g
            omega
      have hr : r ∈ X ++ Y := pxy.mem_iff.mpr (by simp)
      rcases List.mem_append.mp hr with hr | hr
      · have px := List.perm_cons_erase hr
        obtain ⟨a1, a2⟩ := main (X.erase r) Y ((px.symm.append_right Y).trans pxy) fun k => by rw [over_perm px.symm k]; exact hxy k
        exact ⟨_, _, a1, a2⟩
      · have py := List.perm_cons_erase hr
        obtain ⟨a1, a2⟩ := main (Y.erase r) X ((py.symm.append_right X).trans ((List.perm_append_comm).trans pxy)) fun k => by rw [over_perm py.symm k]; exact ⟨(hxy k).2, (hxy k).1⟩
        exact ⟨_, _, a1, a2⟩
end K

/-! more rooms bring less and less; backwards, by other numbers, with one ask more -/
namespace K
variable {A : List Nat} {m : Nat}
theorem over_nil (k : Nat) : over [] k = 0 := rfl
/-- each room more brings no more than the one before -/
theorem opt_conc (hm : 1 ≤ m) : opt m A [] + opt (m + 2) A [] ≤ 2 * opt (m + 1) A [] := by
  obtain ⟨L1, h1, e1⟩ := lot_ex (A := A) hm
  obtain ⟨L2, h2, e2⟩ := lot_ex (A := A) (m := m + 2) (by omega)
  let C := L1.filter fun p => decide (p ∈ L2)
  let D1 := L1.filter fun p => !decide (p ∈ L2)
  let D2 := L2.filter fun p => !decide (p ∈ L1)
  have split : ∀ (L M : List (Nat × Nat)), L.Perm (L.filter (fun p => decide (p ∈ M)) ++ L.filter fun p => !decide (p ∈ M)) := fun L M => (List.filter_append_perm (fun p => decide (p ∈ M)) L).symm
  have p1 : L1.Perm (C ++ D1) := split L1 L2
  have p2 : L2.Perm (C ++ D2) := by
    refine (split L2 L1).trans (List.Perm.append_right _ ?_)
    refine (List.perm_ext_iff_of_nodup (h2.nd.filter _) (h1.nd.filter _)).mpr fun p => ?_
    rw [List.mem_filter, List.mem_filter, decide_eq_true_eq, decide_eq_true_eq]
    exact And.comm
  have hst : ∀ p ∈ D1 ++ D2, Strc A p.1 p.2 := fun p hp => (List.mem_append.mp hp).elim (fun h => h1.st p (List.mem_filter.mp h).1) fun h => h2.st p (List.mem_filter.mp h).1
  obtain ⟨X, Y, pxy, hxy⟩ := even (D1 ++ D2).length (D1 ++ D2) rfl fun p hp => (hst p hp).lt
  have cN : C.Nodup := h1.nd.filter _
  have dN : (D1 ++ D2).Nodup := List.nodup_append.mpr ⟨h1.nd.filter _, h2.nd.filter _, fun a ha b hb e => by
    subst e
    have := (List.mem_filter.mp hb).2
    simp [(List.mem_filter.mp ha).1] at this⟩
  have xyN := pxy.nodup_iff.mpr dN
  obtain ⟨xN, yN, _⟩ := List.nodup_append.mp xyN
  have cd : ∀ p ∈ C, p ∉ D1 ++ D2 := fun p hp hd => by
    obtain ⟨a, b⟩ := List.mem_filter.mp hp
    rcases List.mem_append.mp hd with h | h
    · have := (List.mem_filter.mp h).2
      simp [of_decide_eq_true b] at this
    · have := (List.mem_filter.mp h).2
      simp [a] at this
  have cnt : ∀ k, over L1 k = over C k + over D1 k ∧ over L2 k = over C k + over D2 k ∧ over X k + over Y k = over D1 k + over D2 k := fun k => ⟨by rw [over_perm p1, over_append], by rw [over_perm p2, over_append], by rw [← over_append, over_perm pxy, over_append]⟩
  have lot : ∀ Z : List (Nat × Nat), Z.Nodup → (∀ p ∈ Z, p ∈ D1 ++ D2) → (∀ k, k < A.length → over C k + over Z k < m + 1) → Lot A (m + 1) (C ++ Z) := fun Z zN zD zo => ⟨List.nodup_append.mpr ⟨cN, zN, fun a ha b hb e => cd a ha (e ▸ zD b hb)⟩, fun p hp => (List.mem_append.mp hp).elim (fun h => h1.st p (List.mem_filter.mp h).1) fun h => hst p (zD p h), fun k hk => by rw [over_append]; exact zo k hk⟩
  have lx := lot_le (by omega) (lot X xN (fun p hp => pxy.mem_iff.mp (List.mem_append_left _ hp)) fun k hk => by
    obtain ⟨a, b, c⟩ := cnt k
    have := h1.ov k hk
    have := h2.ov k hk
    have := hxy k
    omega)
  have ly := lot_le (by omega) (lot Y yN (fun p hp => pxy.mem_iff.mp (List.mem_append_right _ hp)) fun k hk => by
    obtain ⟨a, b, c⟩ := cnt k
    have := h1.ov k hk
    have := h2.ov k hk
    have := hxy k
    omega)
  have g1 := p1.length_eq
  have g2 := p2.length_eq
  have g3 := pxy.length_eq
  rw [List.length_append] at g1 g2 g3 lx ly
  rw [List.length_append] at g3
  omega
/-- one room keeps what is asked for at once again -/
theorem opt_one : opt 1 A [] = ((stre A).filter fun p => decide (p.2 = p.1 + 1)).length := by
  refine Nat.le_antisymm ?_ ?_
  · obtain ⟨L, h, e⟩ := lot_ex (A := A) (m := 1) (Nat.le_refl _)
    rw [← e]
    refine nd_lenL h.nd fun p hp => ?_
    have hs := h.st p hp
    refine List.mem_filter.mpr ⟨mem_stre.mpr hs, decide_eq_true ?_⟩
    have hlt := hs.lt
    rcases Nat.lt_or_ge (p.1 + 1) p.2 with g | g
    · have h0 := h.ov (p.1 + 1) (Nat.lt_trans g hs.ln)
      have : 0 < over L (p.1 + 1) := List.length_pos_of_mem (List.mem_filter.mpr ⟨hp, by simp [cov, g]⟩)
      omega
    · omega
  · refine lot_le (Nat.le_refl _) ⟨stre_nodup.filter _, fun p hp => mem_stre.mp (List.mem_filter.mp hp).1, fun k hk => ?_⟩
    unfold over
    rw [List.filter_eq_nil_iff.mpr fun p hp => ?_]
    · exact Nat.zero_lt_one
    · have := of_decide_eq_true (List.mem_filter.mp hp).2
      simp [cov]
      omega
/-- with a room for each page all are kept -/
theorem opt_all (hm : 1 ≤ m) (hp : ∀ i, i < A.length → pg A i < m) : opt m A [] = (stre A).length := by
  refine Nat.le_antisymm ?_ ?_
  · obtain ⟨L, h, e⟩ := lot_ex (A := A) hm
    rw [← e]
    exact nd_lenL h.nd fun p hp => mem_stre.mpr (h.st p hp)
  · refine lot_le hm ⟨stre_nodup, fun p hp => mem_stre.mp hp, fun k hk => ?_⟩
    have h1 : (pg A k :: ((stre A).filter (cov k)).map fun p => pg A p.1).Nodup := by
      have key : ∀ p ∈ (stre A).filter (cov k), Strc A p.1 p.2 ∧ p.1 < k ∧ k < p.2 := fun p hp => by
        obtain ⟨a, b⟩ := List.mem_filter.mp hp
        simp [cov] at b
        exact ⟨mem_stre.mp a, b⟩
      refine List.nodup_cons.mpr ⟨fun z => ?_, ?_⟩
      · obtain ⟨p, hp, e⟩ := List.mem_map.mp z
        obtain ⟨a, b, c⟩ := key p hp
        exact a.no k b c e.symm
      · refine List.pairwise_map.mpr ((List.nodup_iff_pairwise_ne.mp (stre_nodup.filter _)).imp_of_mem fun {p q} hp hq hne e => hne ?_)
        obtain ⟨a, b, c⟩ := key p hp
        obtain ⟨a', b', c'⟩ := key q hq
        have e1 : p.1 = q.1 := by
          rcases Nat.lt_trichotomy p.1 q.1 with g | g | g
          · exact absurd e.symm (a.no q.1 g (by omega))
          · exact g
          · exact absurd e (a'.no p.1 g (by omega))
        rw [e1] at a
        exact Prod.ext e1 (strc_uniq a a')
    have h2 := nd_len h1 (b := List.range m) fun x hx => by
      rcases List.mem_cons.mp hx with e | e
      · rw [e]; exact List.mem_range.mpr (hp k hk)
      · obtain ⟨p, hp2, rfl⟩ := List.mem_map.mp e
        have := mem_stre.mp (List.mem_filter.mp hp2).1
        exact List.mem_range.mpr (hp p.1 (Nat.lt_trans this.lt this.ln))
    rw [List.length_cons, List.length_map, List.length_range] at h2
    unfold over
    omega
/-- lots carried over: B has the stretches f tells, no more over each time -/
theorem opt_carry {B : List Nat} (hm : 1 ≤ m) (f : Nat × Nat → Nat × Nat) (hf : ∀ p, Strc A p.1 p.2 → Strc B (f p).1 (f p).2) (inj : ∀ p q, Strc A p.1 p.2 → Strc A q.1 q.2 → f p = f q → p = q)
    (ov : ∀ k, k < B.length → ∃ k', k' < A.length ∧ ∀ p, Strc A p.1 p.2 → cov k (f p) = true → cov k' p = true) : opt m A [] ≤ opt m B [] := by
  obtain ⟨L, h, e⟩ := lot_ex (A := A) hm
  rw [← e, ← List.length_map f]
  refine lot_le hm ⟨List.pairwise_map.mpr ((List.nodup_iff_pairwise_ne.mp h.nd).imp_of_mem fun {p q} hp hq hne e => hne (inj p q (h.st p hp) (h.st q hq) e)), fun p hp => ?_, fun k hk => ?_⟩
  · obtain ⟨q, hq, rfl⟩ := List.mem_map.mp hp
    exact hf q (h.st q hq)
  · obtain ⟨k', hk', hc⟩ := ov k hk
    refine Nat.lt_of_le_of_lt ?_ (h.ov k' hk')
    unfold over
    rw [List.filter_map, List.length_map]
    refine nd_lenL (h.nd.filter _) fun p hp => ?_
    obtain ⟨a, b⟩ := List.mem_filter.mp hp
    exact List.mem_filter.mpr ⟨a, hc p (h.st p a) b⟩
theorem pg_rev {i : Nat} (h : i < A.length) : pg A.reverse i = pg A (A.length - 1 - i) := by
  unfold pg
  rw [List.getD_eq_getElem?_getD, List.getD_eq_getElem?_getD, List.getElem?_reverse h]
theorem strc_rev {i j : Nat} (h : Strc A i j) : Strc A.reverse (A.length - 1 - j) (A.length - 1 - i) := by
  have h1 := h.lt
  have h2 := h.ln
  have hl : A.reverse.length = A.length := List.length_reverse
  refine ⟨by omega, by omega, ?_, fun k a b => ?_⟩
  · rw [pg_rev (by omega), pg_rev (by omega), show A.length - 1 - (A.length - 1 - j) = j by omega, show A.length - 1 - (A.length - 1 - i) = i by omega]
    exact h.eq.symm
  · rw [pg_rev (by omega), pg_rev (by omega), show A.length - 1 - (A.length - 1 - j) = j by omega, ← h.eq]
    exact h.no _ (by omega) (by omega)
theorem opt_rev_le (hm : 1 ≤ m) (A : List Nat) : opt m A [] ≤ opt m A.reverse [] := by
  refine opt_carry hm (fun p => (A.length - 1 - p.2, A.length - 1 - p.1)) (fun p hp => strc_rev hp) (fun p q hp hq e => ?_) fun k hk => ?_
  · have := hp.lt
    have := hp.ln
    have := hq.lt
    have := hq.ln
    have e1 : A.length - 1 - p.2 = A.length - 1 - q.2 := congrArg Prod.fst e
    have e2 : A.length - 1 - p.1 = A.length - 1 - q.1 := congrArg Prod.snd e
    exact Prod.ext (by omega) (by omega)
  · rw [List.length_reverse] at hk
    refine ⟨A.length - 1 - k, by omega, fun p hp hc => ?_⟩
    have := hp.lt
    have := hp.ln
    simp [cov] at hc ⊢
    omega
theorem opt_rev (hm : 1 ≤ m) : opt m A.reverse [] = opt m A [] := Nat.le_antisymm (by have := opt_rev_le hm A.reverse; rwa [List.reverse_reverse] at this) (opt_rev_le hm A)
theorem pg_map (f : Nat → Nat) {i : Nat} (h : i < A.length) : pg (A.map f) i = f (pg A i) := by
  unfold pg
  rw [List.getD_eq_getElem?_getD, List.getD_eq_getElem?_getD, List.getElem?_map, List.getElem?_eq_getElem h]
  rfl
/-- by other numbers -/
theorem opt_ren (hm : 1 ≤ m) (f : Nat → Nat) (inj : ∀ i j, i < A.length → j < A.length → f (pg A i) = f (pg A j) → pg A i = pg A j) : opt m (A.map f) [] = opt m A [] := by
  have hl : (A.map f).length = A.length := List.length_map _
  have st : ∀ i j, Strc (A.map f) i j ↔ Strc A i j := fun i j => by
    constructor
    · intro h
      have h1 := h.lt
      have h2 := h.ln
      rw [hl] at h2
      refine ⟨h1, h2, inj i j (by omega) h2 (by have := h.eq; rwa [pg_map f (by omega), pg_map f h2] at this), fun k a b e => ?_⟩
      have := h.no k a b
      rw [pg_map f (by omega), pg_map f (by omega), e] at this
      exact this rfl
    · intro h
      have h1 := h.lt
      have h2 := h.ln
      refine ⟨h1, by omega, by rw [pg_map f (by omega), pg_map f h2, h.eq], fun k a b e => ?_⟩
      rw [pg_map f (by omega), pg_map f (by omega)] at e
      exact h.no k a b (inj k i (by omega) (by omega) e)
  refine Nat.le_antisymm (opt_carry hm id (fun p hp => (st _ _).mp hp) (fun p q _ _ e => e) fun k hk => ⟨k, by omega, fun p _ h => h⟩) (opt_carry hm id (fun p hp => (st _ _).mpr hp) (fun p q _ _ e => e) fun k hk => ⟨k, by omega, fun p _ h => h⟩)
end K

/-! one ask more -/
namespace K
variable {A : List Nat} {m a x : Nat}
def insA (A : List Nat) (a x : Nat) : List Nat := A.take a ++ x :: A.drop a
theorem insA_len (ha : a ≤ A.length) : (insA A a x).length = A.length + 1 := by
  unfold insA
  rw [List.length_append, List.length_cons, List.length_take, List.length_drop]
  omega
theorem pg_ins (ha : a ≤ A.length) (i : Nat) : pg (insA A a x) i = if i < a then pg A i else if i = a then x else pg A (i - 1) := by
  unfold insA pg
  rw [List.getD_eq_getElem?_getD, List.getElem?_append, List.length_take, Nat.min_eq_left ha]
  by_cases c : i < a
  · rw [if_pos c, if_pos c, List.getElem?_take, if_pos c, List.getD_eq_getElem?_getD]
  · rw [if_neg c, if_neg c]
    by_cases e : i = a
    · rw [if_pos e, e, Nat.sub_self]; rfl
    · rw [if_neg e, List.getElem?_cons, if_neg (by omega), List.getElem?_drop, List.getD_eq_getElem?_getD, show a + (i - a - 1) = i - 1 by omega]
def phi (a k : Nat) : Nat := if k < a then k else k - 1
def psi (a k : Nat) : Nat := if k < a then k else k + 1
theorem pg_psi (ha : a ≤ A.length) (k : Nat) : pg (insA A a x) (psi a k) = pg A k := by
  rw [pg_ins ha]
  unfold psi
  by_cases c : k < a
  · rw [if_pos c, if_pos c]
  · rw [if_neg c, if_neg (by omega), if_neg (by omega), Nat.add_sub_cancel]
theorem psi_phi {k : Nat} (h : k ≠ a) : psi a (phi a k) = k := by
  unfold psi phi
  by_cases c : k < a
  · rw [if_pos c, if_pos c]
  · rw [if_neg c, if_neg (by omega)]
    omega
theorem psi_lt {i j : Nat} : psi a i < psi a j ↔ i < j := by
  unfold psi
  split <;> split <;> omega
theorem psi_ne (k : Nat) : psi a k ≠ a := by unfold psi; split <;> omega
theorem psi_len (ha : a ≤ A.length) {k : Nat} : psi a k < (insA A a x).length ↔ k < A.length := by
  rw [insA_len ha]
  unfold psi
  split <;> omega
theorem psi_inj {i j : Nat} (h : psi a i = psi a j) : i = j := by
  unfold psi at h
  split at h <;> split at h <;> omega
/-- a stretch of the longer row that doesn't touch the new ask -/
theorem strc_out (ha : a ≤ A.length) {i j : Nat} (h : Strc (insA A a x) (psi a i) (psi a j)) : Strc A i j :=
  ⟨psi_lt.mp h.lt, (psi_len ha).mp h.ln, by have := h.eq; rwa [pg_psi ha, pg_psi ha] at this, fun k h1 h2 => by
    have := h.no (psi a k) (psi_lt.mpr h1) (psi_lt.mpr h2)
    rwa [pg_psi ha, pg_psi ha] at this⟩
theorem strc_in (ha : a ≤ A.length) {i j : Nat} (h : Strc A i j) (hx : ¬ (i < a ∧ a ≤ j ∧ pg A i = x)) : Strc (insA A a x) (psi a i) (psi a j) := by
  refine ⟨psi_lt.mpr h.lt, (psi_len ha).mpr h.ln, by rw [pg_psi ha, pg_psi ha]; exact h.eq, fun k h1 h2 => ?_⟩
  by_cases e : k = a
  · rw [pg_ins ha, if_neg (by omega), if_pos e, pg_psi ha]
    intro z
    refine hx ⟨?_, ?_, z.symm⟩
    · rw [e] at h1; unfold psi at h1; split at h1 <;> omega
    · rw [e] at h2; unfold psi at h2; split at h2 <;> omega
  · rw [← psi_phi e] at h1 h2 ⊢
    rw [pg_psi ha, pg_psi ha]
    exact h.no _ (psi_lt.mp h1) (psi_lt.mp h2)
theorem over_le {L M : List (Nat × Nat)} {k k' : Nat} (f : Nat × Nat → Nat × Nat) (h : ∀ p ∈ L, cov k (f p) = true → cov k' p = true) : over (L.map f) k ≤ over L k' := by
  unfold over
  rw [List.filter_map, List.length_map]
  induction L with
  | nil => exact Nat.le_refl _
  | cons p L ih =>
    have ih' := ih fun q hq => h q (by simp [hq])
    have hp := h p (by simp)
    rw [List.filter_cons, List.filter_cons]
    show (if cov k (f p) = true then _ else _ : List _).length ≤ _
    by_cases c : cov k (f p) = true
    · rw [if_pos c, if_pos (hp c), List.length_cons, List.length_cons]
      exact Nat.succ_le_succ ih'
    · rw [if_neg c]
      split
      · rw [List.length_cons]; exact Nat.le_succ_of_le ih'
      · exact ih'
/-- one ask more: no fewer misses -/
theorem ins_up (hm : 1 ≤ m) (ha : a ≤ A.length) : opt m (insA A a x) [] ≤ opt m A [] + 1 := by
  obtain ⟨L, h, e⟩ := lot_ex (A := insA A a x) hm
  rw [← e]
  let T : Nat × Nat → Bool := fun p => decide (p.1 = a) || decide (p.2 = a)
  have pm : L.Perm (L.filter (fun p => !T p) ++ L.filter T) := (List.perm_append_comm.trans (List.filter_append_perm T L)).symm
  have h0 : ∀ p ∈ L.filter (fun p => !T p), p ∈ L ∧ p.1 ≠ a ∧ p.2 ≠ a := fun p hp => by
    obtain ⟨b, c⟩ := List.mem_filter.mp hp
    simp [T] at c
    exact ⟨b, c⟩
  let f : Nat × Nat → Nat × Nat := fun p => (phi a p.1, phi a p.2)
  have hf : ∀ p, p.1 ≠ a → p.2 ≠ a → (psi a (f p).1, psi a (f p).2) = p := fun p h1 h2 => Prod.ext (psi_phi h1) (psi_phi h2)
  have st0 : ∀ p ∈ L.filter (fun p => !T p), Strc A (f p).1 (f p).2 := fun p hp => by
    obtain ⟨b, c, d⟩ := h0 p hp
    have hs := h.st p b
    have e := hf p c d
    refine strc_out ha (x := x) ?_
    rw [show psi a (f p).1 = p.1 from congrArg Prod.fst e, show psi a (f p).2 = p.2 from congrArg Prod.snd e]
    exact hs
  have nd0 : ((L.filter (fun p => !T p)).map f).Nodup := List.pairwise_map.mpr ((List.nodup_iff_pairwise_ne.mp (h.nd.filter _)).imp_of_mem fun {p q} hp hq hne e => hne (by
    obtain ⟨_, c, d⟩ := h0 p hp
    obtain ⟨_, c', d'⟩ := h0 q hq
    rw [← hf p c d, ← hf q c' d', e]))
  have cv : ∀ k, ∀ p : Nat × Nat, p.1 ≠ a → p.2 ≠ a → cov k (f p) = true → cov (psi a k) p = true := fun k p c d hc => by
    have e := hf p c d
    simp only [cov, Bool.and_eq_true, decide_eq_true_eq] at hc ⊢
    rw [← show psi a (f p).1 = p.1 from congrArg Prod.fst e, ← show psi a (f p).2 = p.2 from congrArg Prod.snd e]
    exact ⟨psi_lt.mpr hc.1, psi_lt.mpr hc.2⟩
  have ov0 : ∀ k, over ((L.filter (fun p => !T p)).map f) k ≤ over (L.filter fun p => !T p) (psi a k) := fun k => over_le (M := []) f fun p hp hc => cv k p (h0 p hp).2.1 (h0 p hp).2.2 hc
  have lenL := pm.length_eq
  rw [List.length_append] at lenL
  have tot : ∀ k, over L k = over (L.filter fun p => !T p) k + over (L.filter T) k := fun k => by rw [over_perm pm, over_append]
  by_cases h2 : (L.filter T).length ≤ 1
  · have := lot_le hm (A := A) (L := (L.filter (fun p => !T p)).map f) ⟨nd0, fun p hp => by
      obtain ⟨q, hq, rfl⟩ := List.mem_map.mp hp
      exact st0 q hq, fun k hk => by
      have g1 := ov0 k
      have g2 := tot (psi a k)
      have g3 := h.ov (psi a k) ((psi_len ha).mpr hk)
      omega⟩
    rw [List.length_map] at this
    omega
  · -- both stretches of the new ask are kept: they go into one
    have touch : ∀ p ∈ L.filter T, p ∈ L ∧ (p.1 = a ∨ p.2 = a) := fun p hp => by
      obtain ⟨b, c⟩ := List.mem_filter.mp hp
      simp [T] at c
      exact ⟨b, c⟩
    have tn : (L.filter T).Nodup := h.nd.filter _
    obtain ⟨o, ho, ho1⟩ : ∃ o ∈ L.filter T, o.1 = a := by
      refine Classical.byContradiction fun hno => ?_
      match hT : L.filter T, tn with
      | [], _ => rw [hT] at h2; simp at h2
      | [_], _ => rw [hT] at h2; simp at h2
      | p :: q :: r, tn =>
        have mp : p ∈ L.filter T := by rw [hT]; simp
        have mq : q ∈ L.filter T := by rw [hT]; simp
        obtain ⟨b, c⟩ := touch p mp
        obtain ⟨b', c'⟩ := touch q mq
        have p2 : p.2 = a := c.resolve_left fun z => hno ⟨p, mp, z⟩
        have q2 : q.2 = a := c'.resolve_left fun z => hno ⟨q, mq, z⟩
        have s1 := h.st p b
        have s2 := h.st q b'
        rw [p2] at s1
        rw [q2] at s2
        have : p = q := Prod.ext (strc_uniq' s1 s2) (p2.trans q2.symm)
        simp [this] at tn
    obtain ⟨i, hi, hi1⟩ : ∃ i ∈ L.filter T, i.2 = a := by
      refine Classical.byContradiction fun hno => ?_
      match hT : L.filter T, tn with
      | [], _ => rw [hT] at h2; simp at h2
      | [_], _ => rw [hT] at h2; simp at h2
      | p :: q :: r, tn =>
        have mp : p ∈ L.filter T := by rw [hT]; simp
        have mq : q ∈ L.filter T := by rw [hT]; simp
        obtain ⟨b, c⟩ := touch p mp
        obtain ⟨b', c'⟩ := touch q mq
        have p2 : p.1 = a := c.resolve_right fun z => hno ⟨p, mp, z⟩
        have q2 : q.1 = a := c'.resolve_right fun z => hno ⟨q, mq, z⟩
        have s1 := h.st p b
        have s2 := h.st q b'
        rw [p2] at s1
        rw [q2] at s2
        have : p = q := Prod.ext (p2.trans q2.symm) (strc_uniq s1 s2)
        simp [this] at tn
    have so := h.st o (touch o ho).1
    have si := h.st i (touch i hi).1
    have oi : o ≠ i := fun z => by
      rw [z] at ho1
      have := si.lt
      omega
    have hT2 : (L.filter T).Perm [i, o] := by
      refine (List.perm_ext_iff_of_nodup tn (by simp; exact fun z => oi z.symm)).mpr fun p => ⟨fun hp => ?_, fun hp => ?_⟩
      · obtain ⟨b, c⟩ := touch p hp
        have s1 := h.st p b
        rcases c with c | c
        · rw [c] at s1
          rw [ho1] at so
          rw [show p = o from Prod.ext (c.trans ho1.symm) (strc_uniq s1 so)]
          simp
        · rw [c] at s1
          rw [hi1] at si
          rw [show p = i from Prod.ext (strc_uniq' s1 si) (c.trans hi1.symm)]
          simp
      · simp at hp
        rcases hp with e | e <;> (rw [e]; assumption)
    have i1 : i.1 ≠ a := fun z => by have := si.lt; omega
    have o2 : o.2 ≠ a := fun z => by have := so.lt; omega
    -- the two in one
    have e1 := si.eq
    have e2 := so.eq
    rw [hi1] at e1
    rw [ho1] at e2
    have l1 := si.lt
    have l2 := so.lt
    have sm : Strc A (phi a i.1) (phi a o.2) := by
      refine ⟨psi_lt (a := a).mp (by rw [psi_phi i1, psi_phi o2]; omega), (psi_len (x := x) ha).mp (by rw [psi_phi o2]; exact so.ln), ?_, fun k g1 g2 => ?_⟩
      · rw [← pg_psi (x := x) ha (phi a i.1), ← pg_psi (x := x) ha (phi a o.2), psi_phi i1, psi_phi o2]
        exact e1.trans e2
      · have k1 : i.1 < psi a k := by have := psi_lt (a := a).mpr g1; rwa [psi_phi i1] at this
        have k2 : psi a k < o.2 := by have := psi_lt (a := a).mpr g2; rwa [psi_phi o2] at this
        have kn := psi_ne (a := a) k
        rw [← pg_psi (x := x) ha k, ← pg_psi (x := x) ha (phi a i.1), psi_phi i1]
        rcases Nat.lt_or_ge (psi a k) a with g | g
        · exact si.no _ k1 (by omega)
        · have := so.no (psi a k) (by omega) k2
          rw [ho1] at this
          rw [e1]
          exact this
    have := lot_le hm (A := A) (L := (phi a i.1, phi a o.2) :: (L.filter (fun p => !T p)).map f) ⟨List.nodup_cons.mpr ⟨fun z => ?_, nd0⟩, fun p hp => ?_, fun k hk => ?_⟩
    · rw [List.length_cons, List.length_map] at this
      have := hT2.length_eq
      simp at this
      omega
    · obtain ⟨q, hq, e⟩ := List.mem_map.mp z
      obtain ⟨b, c, d⟩ := h0 q hq
      have s1 := st0 q hq
      have e3 : phi a q.1 = phi a i.1 := congrArg Prod.fst e
      have : q.1 = i.1 := by rw [← psi_phi c, ← psi_phi i1, e3]
      have s2 := h.st q b
      rw [this] at s2
      have := strc_uniq s2 si
      exact d (this.trans hi1)
    · rcases List.mem_cons.mp hp with e | e
      · rw [e]; exact sm
      · obtain ⟨q, hq, rfl⟩ := List.mem_map.mp e
        exact st0 q hq
    · have g1 := ov0 k
      have g2 := tot (psi a k)
      have g3 := h.ov (psi a k) ((psi_len ha).mpr hk)
      have g4 := over_perm hT2 (psi a k)
      rw [over_cons, over_cons, over_nil] at g4
      rw [over_cons]
      have hpsi := psi_ne (a := a) k
      have one : (if cov k (phi a i.1, phi a o.2) = true then 1 else 0) ≤ (if cov (psi a k) i = true then 1 else 0) + (if cov (psi a k) o = true then 1 else 0) := by
        by_cases c : cov k (phi a i.1, phi a o.2) = true
        · rw [if_pos c]
          simp only [cov, Bool.and_eq_true, decide_eq_true_eq] at c
          have c1 : i.1 < psi a k := by have := psi_lt (a := a).mpr c.1; rwa [psi_phi i1] at this
          have c2 : psi a k < o.2 := by have := psi_lt (a := a).mpr c.2; rwa [psi_phi o2] at this
          rcases Nat.lt_or_ge (psi a k) a with g | g
          · have : cov (psi a k) i = true := by simp [cov]; omega
            rw [if_pos this]
            omega
          · have : cov (psi a k) o = true := by simp [cov]; omega
            rw [if_pos this]
            omega
        · rw [if_neg c]; exact Nat.zero_le _
      omega
/-- and two more at most -/
theorem ins_down (hm : 1 ≤ m) (ha : a ≤ A.length) : opt m A [] ≤ opt m (insA A a x) [] + 1 := by
  obtain ⟨L, h, e⟩ := lot_ex (A := A) hm
  rw [← e]
  let g : Nat × Nat → Nat × Nat := fun p => (psi a p.1, psi a p.2)
  let Cr : Nat × Nat → Bool := fun p => decide (p.1 < a) && decide (a ≤ p.2)
  have ginj : ∀ p q, g p = g q → p = q := fun p q e => Prod.ext (psi_inj (congrArg Prod.fst e)) (psi_inj (congrArg Prod.snd e))
  -- a smaller lot that no new ask breaks, and few of which lie over it
  have main : ∀ L' : List (Nat × Nat), L'.Sublist L → (∀ p ∈ L', ¬ (p.1 < a ∧ a ≤ p.2 ∧ pg A p.1 = x)) → (L'.filter Cr).length < m → L'.length ≤ opt m (insA A a x) [] := fun L' hs hx hc => by
    have := lot_le hm (A := insA A a x) (L := L'.map g) ⟨List.pairwise_map.mpr ((List.nodup_iff_pairwise_ne.mp (hs.nodup h.nd)).imp fun hne e => hne (ginj _ _ e)), fun p hp => by
      obtain ⟨q, hq, rfl⟩ := List.mem_map.mp hp
      exact strc_in ha (h.st q (hs.subset hq)) (hx q hq), fun k hk => by
      by_cases ek : k = a
      · subst ek
        refine Nat.lt_of_le_of_lt ?_ hc
        unfold over
        rw [List.filter_map, List.length_map]
        refine nd_lenL ((hs.nodup h.nd).filter _) fun p hp => ?_
        obtain ⟨b, c⟩ := List.mem_filter.mp hp
        refine List.mem_filter.mpr ⟨b, ?_⟩
        have c' : cov k (g p) = true := c
        simp only [cov, g, Bool.and_eq_true, decide_eq_true_eq] at c'
        simp only [Cr, Bool.and_eq_true, decide_eq_true_eq]
        obtain ⟨c1, c2⟩ := c'
        unfold psi at c1 c2
        constructor
        · split at c1 <;> omega
        · split at c2 <;> omega
      · have h1 : over (L'.map g) k ≤ over L' (phi a k) := over_le (M := []) g fun p hp hc => by
          simp only [cov, g, Bool.and_eq_true, decide_eq_true_eq] at hc ⊢
          rw [← psi_phi ek] at hc
          exact ⟨psi_lt.mp hc.1, psi_lt.mp hc.2⟩
        have h2 : over L' (phi a k) ≤ over L (phi a k) := by
          unfold over
          exact (hs.filter _).length_le
        have h3 := h.ov (phi a k) ((psi_len (x := x) ha).mp (by rw [psi_phi ek]; exact hk))
        omega⟩
    rwa [List.length_map] at this
  -- at most m cross the gap
  have few : (L.filter Cr).length ≤ m := by
    rcases Nat.eq_zero_or_pos a with e | e
    · rw [List.filter_eq_nil_iff.mpr fun p _ => by simp [Cr, e]]
      exact Nat.zero_le _
    · by_cases hn : a - 1 < A.length
      · have h1 := h.ov (a - 1) hn
        have pm := (List.filter_append_perm (fun p => decide (p.1 = a - 1)) (L.filter Cr)).symm.length_eq
        rw [List.length_append] at pm
        have k1 : ((L.filter Cr).filter fun p => decide (p.1 = a - 1)).length ≤ 1 := by
          match hT : (L.filter Cr).filter fun p => decide (p.1 = a - 1), ((h.nd.filter _).filter _ : ((L.filter Cr).filter fun p => decide (p.1 = a - 1)).Nodup) with
          | [], _ => rw [hT]; exact Nat.zero_le _
          | [_], _ => rw [hT]; exact Nat.le_refl _
          | p :: q :: r, tn =>
            have mp : p ∈ (L.filter Cr).filter fun p => decide (p.1 = a - 1) := by rw [hT]; simp
            have mq : q ∈ (L.filter Cr).filter fun p => decide (p.1 = a - 1) := by rw [hT]; simp
            obtain ⟨b, c⟩ := List.mem_filter.mp mp
            obtain ⟨b', c'⟩ := List.mem_filter.mp mq
            have s1 := h.st p (List.mem_filter.mp b).1
            have s2 := h.st q (List.mem_filter.mp b').1
            rw [of_decide_eq_true c] at s1
            rw [of_decide_eq_true c'] at s2
            have : p = q := Prod.ext ((of_decide_eq_true c).trans (of_decide_eq_true c').symm) (strc_uniq s1 s2)
            rw [hT] at tn
            simp [this] at tn
        have k2 : ((L.filter Cr).filter fun p => !decide (p.1 = a - 1)).length ≤ over L (a - 1) := by
          unfold over
          refine nd_lenL ((h.nd.filter _).filter _) fun p hp => ?_
          obtain ⟨b, c⟩ := List.mem_filter.mp hp
          obtain ⟨b1, b2⟩ := List.mem_filter.mp b
          simp only [Cr, Bool.and_eq_true, decide_eq_true_eq] at b2
          simp at c
          refine List.mem_filter.mpr ⟨b1, ?_⟩
          simp only [cov, Bool.and_eq_true, decide_eq_true_eq]
          omega
        omega
      · rw [List.filter_eq_nil_iff.mpr fun p hp => by
          have := (h.st p hp).ln
          simp [Cr]
          omega]
        exact Nat.zero_le _
  by_cases hb : ∃ p ∈ L, p.1 < a ∧ a ≤ p.2 ∧ pg A p.1 = x
  · obtain ⟨b, hbL, b1, b2, b3⟩ := hb
    have hcr : b ∈ L.filter Cr := List.mem_filter.mpr ⟨hbL, by simp [Cr, b1, b2]⟩
    have key := main (L.erase b) List.erase_sublist (fun p hp ⟨c1, c2, c3⟩ => by
      obtain ⟨d1, d2⟩ := h.nd.mem_erase_iff.mp hp
      have s1 := h.st p d2
      have s2 := h.st b hbL
      refine d1 ?_
      have e1 : p.1 = b.1 := by
        rcases Nat.lt_trichotomy p.1 b.1 with g | g | g
        · exact absurd (b3.trans c3.symm) (s1.no b.1 g (by omega))
        · exact g
        · exact absurd (c3.trans b3.symm) (s2.no p.1 g (by omega))
      rw [e1] at s1
      exact Prod.ext e1 (strc_uniq s1 s2)) (by
      have : ((L.erase b).filter Cr).length + 1 ≤ (L.filter Cr).length := by
        have := nd_lenL (a := b :: (L.erase b).filter Cr) (b := L.filter Cr) (List.nodup_cons.mpr ⟨fun z => (h.nd.mem_erase_iff.mp (List.mem_filter.mp z).1).1 rfl, (h.nd.erase b).filter _⟩) fun p hp => (List.mem_cons.mp hp).elim (fun e => by rw [e]; exact hcr) fun e => List.mem_filter.mpr ⟨List.mem_of_mem_erase (List.mem_filter.mp e).1, (List.mem_filter.mp e).2⟩
        simpa using this
      omega)
    rw [List.length_erase_of_mem hbL] at key
    omega
  · have hx : ∀ p ∈ L, ¬ (p.1 < a ∧ a ≤ p.2 ∧ pg A p.1 = x) := fun p hp z => hb ⟨p, hp, z⟩
    by_cases hc : (L.filter Cr).length < m
    · have := main L (List.Sublist.refl _) hx hc
      omega
    · obtain ⟨b, hcr⟩ : ∃ b, b ∈ L.filter Cr := by
        cases hT : L.filter Cr with
        | nil => rw [hT] at hc; simp at hc; omega
        | cons b _ => exact ⟨b, by simp⟩
      have hbL := (List.mem_filter.mp hcr).1
      have key := main (L.erase b) List.erase_sublist (fun p hp => hx p (List.mem_of_mem_erase hp)) (by
        have : ((L.erase b).filter Cr).length + 1 ≤ (L.filter Cr).length := by
          have := nd_lenL (a := b :: (L.erase b).filter Cr) (b := L.filter Cr) (List.nodup_cons.mpr ⟨fun z => (h.nd.mem_erase_iff.mp (List.mem_filter.mp z).1).1 rfl, (h.nd.erase b).filter _⟩) fun p hp => (List.mem_cons.mp hp).elim (fun e => by rw [e]; exact hcr) fun e => List.mem_filter.mpr ⟨List.mem_of_mem_erase (List.mem_filter.mp e).1, (List.mem_filter.mp e).2⟩
          simpa using this
        omega)
      rw [List.length_erase_of_mem hbL] at key
      omega
end K

/-! what the defs promise -/
namespace K
open PySem DL
abbrev S__law_any : DL.Spec := fun ws P => ∃ n : Int, ws = [.deal, .fz (.int n)] ∧ 0 < n ∧ n < 2 ^ 62 ∧ ∀ i : Int, 0 ≤ i → i < n → P (.fz (.int i))
abbrev S__law_draw : DL.Spec := fun ws P => ∃ (ns : List Int) (k : Int), ws = [.scr ns, .fz (.int k)] ∧ 0 ≤ k ∧ k ≤ 100 ∧ ∀ (cells : List Int) (b : Int), cells.length ≤ 48 → 0 ≤ b → b < 2147483647 → P (.own [.own ((cells.map PyData.int).map .fz), .fz (.int b)])
abbrev S__law_of : DL.Spec := fun ws P => ∃ ds : List D, ws = [.deal, .fz (.list ds)] ∧ 0 < ds.length ∧ ds.length < 2 ^ 62 ∧ ∀ d ∈ ds, P (.fz d)
def S__law_mixed : DL.Spec := fun ws P => ∃ ds : List D, ws = [.deal, .fz (.list ds)] ∧ ds.length ≤ 1000 ∧ SeqAt.shaped (.list ds) = true ∧ ∀ es : List D, es.Perm ds → P (.own (es.map .fz))
abbrev pD (p : Nat × Nat) : D := .tuple [iD p.1, iD p.2]
structure Ask (A : List Nat) : Prop where
  len : A.length ≤ 100
  lt : ∀ x ∈ A, x < 100
def S__law_asks : DL.Spec := fun ws P => ∃ most pages : Nat, ws = [.deal, .fz (iD most), .fz (iD pages)] ∧ most ≤ 90 ∧ 1 ≤ pages ∧ pages ≤ 20 ∧ ∀ A : List Nat, A.length ≤ most → (∀ x ∈ A, x < pages) → P (.fz (tD A))
def S_stretches : DL.Spec := fun ws P => ∃ A : List Nat, ws = [.fz (tD A)] ∧ Ask A ∧ P (.fz (.tuple ((stre A).map pD)))
def S__law_stretches : DL.Spec := fun ws P => ∃ A : List Nat, ws = [.fz (tD A)] ∧ Ask A ∧ P (.own ((stre A).map fun p => .fz (pD p)))
def S_furthest : DL.Spec := fun ws P => ∃ (A : List Nat) (m : Nat), ws = [.fz (tD A), .fz (iD m)] ∧ Ask A ∧ 1 ≤ m ∧ m ≤ 100 ∧ ∀ R f, Rule A m A.length R f → P (.fz (.tuple ((kp A f).map pD)))
def S__law_spared : DL.Spec := fun ws P => ∃ (A : List Nat) (k m : Nat), ws = [.fz (tD A), .fz (lD (List.replicate k 1)), .fz (iD m)] ∧ Ask A ∧ k ≤ 8 ∧ (∀ x ∈ A, x < k) ∧ 1 ≤ m ∧ m ≤ 100 ∧ P (.fz (iD (opt m A [])))
def S_fewest_misses : DL.Spec := fun ws P => ∃ (A : List Nat) (m : Nat), ws = [.fz (tD A), .fz (iD m)] ∧ Ask A ∧ 1 ≤ m ∧ m ≤ 100 ∧ ∀ R f, Rule A m A.length R f → P (.fz (.int ((A.length : Int) - (f.length : Int))))
def S_hits_by_rooms : DL.Spec := fun ws P => ∃ (A : List Nat) (most : Nat), ws = [.fz (tD A), .fz (iD most)] ∧ Ask A ∧ most ≤ 50 ∧ P (.fz (tD ((List.range most).map fun i => opt (i + 1) A [])))
abbrev S_law : DL.Spec := lawS
/-! ### pairs in order -/
theorem ltD_ne {p q : Nat × Nat} (h : p.1 ≠ q.1) : PySem.W.dataLt (pD p) (pD q) = decide (p.1 < q.1) := by
  rw [PySem.W.dataLt_tuple, PySem.W.dataLt_all_no (by rw [PySem.W.alike]) (by rw [PyData.eqv]; exact decide_eq_false fun z => h (by omega)), PySem.W.dataLt_int]
  exact decide_eq_decide.mpr (by omega)
theorem leD_pair {p q : Nat × Nat} (h : p.1 < q.1) : leD (pD p) (pD q) = true := by
  unfold leD
  rw [ltD_ne (by omega), decide_eq_false (by omega)]
  rfl
theorem leD_fst {p q : Nat × Nat} (h : leD (pD p) (pD q) = true) : p.1 ≤ q.1 := by
  rcases Nat.lt_or_ge q.1 p.1 with g | g
  · unfold leD at h
    rw [ltD_ne (by omega), decide_eq_true g] at h
    cases h
  · exact g
theorem okSort_pD (L : List (Nat × Nat)) : okSort (L.map pD) := by
  have e : L.map pD = (L.map fun p => [p.1, p.2]).map tD := by rw [List.map_map]; rfl
  rw [e]
  refine okSort_tD (.inl fun p hp => ?_)
  obtain ⟨q, _, rfl⟩ := List.mem_map.mp hp
  simp
theorem eqv_pD (p q : Nat × Nat) : PyData.eqv (pD p) (pD q) = decide (p = q) := by
  rw [show PyData.eqv (pD p) (pD q) = decide ([p.1, p.2] = [q.1, q.2]) from eqv_tD [p.1, p.2] [q.1, q.2]]
  obtain ⟨a, b⟩ := p
  obtain ⟨c, d⟩ := q
  exact decide_eq_decide.mpr (by simp)
theorem sort_pairs {L M : List (Nat × Nat)} (p : L.Perm M) (h : M.Pairwise fun p q => p.1 < q.1) : sortD (L.map pD) = M.map pD := by
  obtain ⟨ys, e, py⟩ := sortD_map pD L
  rw [e]
  congr 1
  refine sorted_uniq (f := pD) (fun a b => alike_tD [a.1, a.2] [b.1, b.2]) (fun a b h => of_decide_eq_true ((eqv_pD a b).symm.trans h)) (py.trans p) (by rw [← e]; exact sortD_sorted _) ?_
  exact List.pairwise_map.mpr (h.imp leD_pair)
theorem maxDL_spec : ∀ (ds : List D), ds ≠ [] → maxDL ds ∈ ds ∧ ∀ y ∈ ds, leD y (maxDL ds) = true
  | [], h => absurd rfl h
  | x :: xs, _ => by
    show PySem.W.maxD x xs ∈ x :: xs ∧ ∀ y ∈ x :: xs, leD y (PySem.W.maxD x xs) = true
    unfold PySem.W.maxD
    have key : ∀ (xs : List D) (x : D), (xs.foldl (fun a y => if PySem.W.dataLt a y then y else a) x) ∈ x :: xs ∧ ∀ y ∈ x :: xs, leD y (xs.foldl (fun a y => if PySem.W.dataLt a y then y else a) x) = true := by
      intro xs
      induction xs with
      | nil =>
        intro x
        refine ⟨by simp, fun y hy => ?_⟩
        rw [List.mem_singleton.mp hy]
        have := leD_total x x
        simpa using this
      | cons z xs ih =>
        intro x
        rw [List.foldl_cons]
        by_cases c : PySem.W.dataLt x z = true
        · rw [if_pos c]
          obtain ⟨h1, h2⟩ := ih z
          refine ⟨List.mem_cons_of_mem _ h1, fun y hy => ?_⟩
          rcases List.mem_cons.mp hy with e | e
          · have hxz : leD x z = true := by
              have h3 := leD_total x z
              have h4 : leD z x = false := by unfold leD; rw [c]; rfl
              rw [h4] at h3
              simpa using h3
            rw [e]
            exact leD_trans _ _ _ hxz (h2 z (by simp))
          · exact h2 y e
        · rw [if_neg c]
          obtain ⟨h1, h2⟩ := ih x
          refine ⟨by
            rcases List.mem_cons.mp h1 with e | e
            · rw [e]; simp
            · exact List.mem_cons_of_mem _ (List.mem_cons_of_mem _ e), fun y hy => ?_⟩
          rcases List.mem_cons.mp hy with e | e
          · exact h2 y (by simp [e])
          · rcases List.mem_cons.mp e with e | e
            · rw [e]
              refine leD_trans _ x _ ?_ (h2 x (by simp))
              unfold leD
              cases q : PySem.W.dataLt x z with
              | true => exact absurd q c
              | false => rfl
            · exact h2 y (by simp [e])
    exact key xs x
/-- the greatest of some pairs -/
theorem max_pairs {L : List (Nat × Nat)} (h : L ≠ []) : ∃ v ∈ L, maxDL (L.map pD) = pD v ∧ ∀ q ∈ L, q.1 ≤ v.1 := by
  obtain ⟨h1, h2⟩ := maxDL_spec (L.map pD) (by simpa using h)
  obtain ⟨v, hv, e⟩ := List.mem_map.mp h1
  exact ⟨v, hv, e.symm, fun q hq => leD_fst (by rw [e]; exact h2 _ (List.mem_map.mpr ⟨q, hq, rfl⟩))⟩
theorem alike_pairs (L : List (Nat × Nat)) : PySem.W.AlikeAll (L.map pD) := ⟨fun x hx y hy => by
  obtain ⟨p, _, rfl⟩ := List.mem_map.mp hx
  obtain ⟨q, _, rfl⟩ := List.mem_map.mp hy
  exact alike_tD [p.1, p.2] [q.1, q.2], fun x hx => by
  obtain ⟨p, _, rfl⟩ := List.mem_map.mp hx
  exact fun z => nomatch z⟩
theorem depth_pairs (L : List (Nat × Nat)) : ∀ d ∈ L.map pD, d.depth ≤ 40 := fun d hd => by
  obtain ⟨p, _, rfl⟩ := List.mem_map.mp hd
  have := depths_map (m := 0) (f := iD) (xs := [p.1, p.2]) fun z _ => by simp [PyData.depth]
  show PyData.depth (.tuple ([p.1, p.2].map iD)) ≤ 40
  rw [PyData.depth]
  omega
end K

/-! printed by gen.py: the defs by places, their bodies over data -/
namespace K
open PySem PySem.Spec PyProof.Rows L2 DL
def topL (i : Nat) : Stmt := PySem.Challenge.pw_fewestpours_k37_whole_more_rooms.main.body.getD i (.Pass ⟨0, 0, 0, 0⟩)
abbrev s__law_draw : Stmt := topL 7
abbrev N__law_draw : List Str := ["_law_script", "_law_salt", "_law_cells", "_law_blend", "_law_cell"]
theorem sc_law_draw : FnScope N__law_draw ["_law_script", "_law_salt"] (defScope s__law_draw) := ⟨rfl, rfl, rfl, by decide +kernel, rfl, by decide +kernel, by decide +kernel⟩
abbrev s__law_stretches : Stmt := topL 12
abbrev N__law_stretches : List Str := ["_law_asks_here", "_law_found", "_law_first", "_law_later", "_law_time"]
theorem sc_law_stretches : FnScope N__law_stretches ["_law_asks_here"] (defScope s__law_stretches) := ⟨rfl, rfl, rfl, by decide +kernel, rfl, by decide +kernel, by decide +kernel⟩
abbrev s__law_any : Stmt := topL 8
abbrev N__law_any : List Str := ["_law_deal", "_law_bound", "_law_rest"]
theorem sc_law_any : FnScope N__law_any ["_law_deal", "_law_bound"] (defScope s__law_any) := ⟨rfl, rfl, rfl, by decide +kernel, rfl, by decide +kernel, by decide +kernel⟩
abbrev s__law_mixed : Stmt := topL 10
abbrev N__law_mixed : List Str := ["_law_deal", "_law_some", "_law_left", "_law_found"]
theorem sc_law_mixed : FnScope N__law_mixed ["_law_deal", "_law_some"] (defScope s__law_mixed) := ⟨rfl, rfl, rfl, by decide +kernel, rfl, by decide +kernel, by decide +kernel⟩
abbrev s__law_of : Stmt := topL 9
abbrev N__law_of : List Str := ["_law_deal", "_law_some"]
theorem sc_law_of : FnScope N__law_of ["_law_deal", "_law_some"] (defScope s__law_of) := ⟨rfl, rfl, rfl, by decide +kernel, rfl, by decide +kernel, by decide +kernel⟩
abbrev s__law_asks : Stmt := topL 11
abbrev N__law_asks : List Str := ["_law_deal", "_law_most", "_law_pages", "_law_found", "_law_turn", "_law_near"]
theorem sc_law_asks : FnScope N__law_asks ["_law_deal", "_law_most", "_law_pages"] (defScope s__law_asks) := ⟨rfl, rfl, rfl, by decide +kernel, rfl, by decide +kernel, by decide +kernel⟩
abbrev s__law_spared : Stmt := topL 13
abbrev N__law_spared : List Str := ["_law_asks_here", "_law_costs", "_law_m", "_law_states", "_law_page", "_law_later", "_law_state", "_law_spared_here", "_law_rest", "_law_some", "_law_one", "_law_new", "_law_at"]
theorem sc_law_spared : FnScope N__law_spared ["_law_asks_here", "_law_costs", "_law_m"] (defScope s__law_spared) := ⟨rfl, rfl, rfl, by decide +kernel, rfl, by decide +kernel, by decide +kernel⟩
abbrev s_stretches : Stmt := topL 1
abbrev N_stretches : List Str := ["asks", "last", "found", "time", "page"]
theorem scstretches : FnScope N_stretches ["asks"] (defScope s_stretches) := ⟨rfl, rfl, rfl, by decide +kernel, rfl, by decide +kernel, by decide +kernel⟩
abbrev s_furthest : Stmt := topL 3
abbrev N_furthest : List Str := ["asks", "m", "later", "there", "found", "time", "page", "ends", "one", "since"]
theorem scfurthest : FnScope N_furthest ["asks", "m"] (defScope s_furthest) := ⟨rfl, rfl, rfl, by decide +kernel, rfl, by decide +kernel, by decide +kernel⟩
abbrev s_fewest_misses : Stmt := topL 4
abbrev N_fewest_misses : List Str := ["asks", "m"]
theorem scfewest_misses : FnScope N_fewest_misses ["asks", "m"] (defScope s_fewest_misses) := ⟨rfl, rfl, rfl, by decide +kernel, rfl, by decide +kernel, by decide +kernel⟩
abbrev s_hits_by_rooms : Stmt := topL 5
abbrev N_hits_by_rooms : List Str := ["asks", "most", "m"]
theorem schits_by_rooms : FnScope N_hits_by_rooms ["asks", "most"] (defScope s_hits_by_rooms) := ⟨rfl, rfl, rfl, by decide +kernel, rfl, by decide +kernel, by decide +kernel⟩
abbrev s_law : Stmt := topL 14
abbrev N_law : List Str := ["_law_script", "_law_deal", "_law_turn", "_law_pages", "_law_asks_here", "_law_most", "_law_due", "_law_wins", "_law_known", "_law_names", "_law_other", "_law_at", "_law_m", "_law_more", "_law_fewer", "_law_later", "_law_one", "_law_page"]
theorem sclaw : FnScope N_law ["_law_script"] (defScope s_law) := ⟨rfl, rfl, rfl, by decide +kernel, rfl, by decide +kernel, by decide +kernel⟩
def t__law_draw : TSd :=
    (dSeq (dSet 2 (dComp [4] (iOver (dLook (dScr 0 48))) (gNam 4) dYes (dAbs (aCons (dLook (dInt (aCons (dSee 4) aNil))) aNil))))
    (dSeq (dSet 3 (dAdd (dLook (dC (.int 7919))) (dLook (dMulB (dLook (dC (.int 104729))) (dSee 1)))))
    (dSeq (dFreeze 2 (dFor (iOver (dRead 2)) (gNam 4) (dSet 3 (dMod (dLook (dInt (aCons (dLook (dAdd (dLook (dAdd (dLook (dMulB (dSee 3) (dLook (dC (.int 48271))))) (dLook (dMod (dSee 4) (dLook (dC (.int 2147483549))))))) (dLook (dC (.int 11))))) aNil))) (dLook (dC (.int 2147483647)))))))
    (dRet (dLst (wCons (dRevA (dLook (dComp [4] (iOver (dSee 2)) (gNam 4) (dBool (dGe (dSee 4) (dLook (dPow (dLook (dC (.int 10))) (dLook (dC (.int 18))))))) (dVar 4)))) (wCons (dVar 3) wNil)))))))
def t__law_stretches_1 : TSd :=
    (dSet 1 (dAdd (dSee 1) (dLook (dComp [4] (iOver (dLook (dCut (dSee 3) oNone (oSome (dLook (dC (.int 1))))))) (gNam 4) dYes (dTup (wCons (dVar 2) (wCons (dVar 4) wNil)))))))
def t__law_stretches_2 : TSd :=
    (dRetOwn 1)
def t__law_stretches_3 : TSd :=
    (dSeq (dFor (iRange1 (aCons (dLook (dLen (aCons (dSee 0) aNil))) aNil)) (gNam 2) (dSeq (dSet 3 (dComp [4] (iRange2 (aCons (dLook (dAdd (dSee 2) (dLook (dC (.int 1))))) (aCons (dLook (dLen (aCons (dSee 0) aNil))) aNil))) (gNam 4) (dBool (dEq (dLook (dIx (dSee 0) (dSee 4))) (dLook (dIx (dSee 0) (dSee 2))))) (dVar 4)))
    t__law_stretches_1))
    t__law_stretches_2)
def t__law_stretches : TSd :=
    (dSeq (dSet 1 (dLst wNil))
    t__law_stretches_3)
def t__law_mixed : TSd :=
    (dSeq (dPar [2, 3] (wCons (dList (aCons (dSee 1) aNil)) (wCons (dLst wNil) wNil)))
    (dSeq (dWhile (dBool (dNe (dSee 2) (dLook (dLst wNil)))) (dAppPop 3 2 (dLook (dCallF S__law_any [0, 1] (gsCons (dVar 0) (gsCons (dLen (aCons (dSee 2) aNil)) gsNil)) gsNil))))
    (dRetOwn 3)))
def t__law_of : TSd :=
    (dRet (dIx (dSee 1) (dLook (dCallF S__law_any [0, 1] (gsCons (dVar 0) (gsCons (dLen (aCons (dSee 1) aNil)) gsNil)) gsNil))))
def t__law_asks_1 : TSd :=
    (dFreeze 5 (dApp 3 (dIf (dBool (dNe (dSee 5) (dLook (dLst wNil)))) (dCallF S__law_of [0, 1] (gsCons (dVar 0) (gsCons (dVar 5) gsNil)) gsNil) (dCallF S__law_any [0, 1] (gsCons (dVar 0) (gsCons (dVar 2) gsNil)) gsNil))))
def t__law_asks_2 : TSd :=
    (dRet (dTuple (aCons (dSee 3) aNil)))
def t__law_asks_3 : TSd :=
    (dSeq (dFor (iRange1 (aCons (dLook (dCallF S__law_any [0, 1] (gsCons (dVar 0) (gsCons (dAdd (dSee 1) (dLook (dC (.int 1)))) gsNil)) gsNil)) aNil)) (gNam 4) (dSeq (dSet 5 (dIf (dBool (dEq (dLook (dCallF S__law_any [0, 1] (gsCons (dVar 0) (gsCons (dC (.int 4)) gsNil)) gsNil)) (dLook (dC (.int 0))))) (dCut (dSee 3) (oSome (dLook (dNeg (dLook (dC (.int 3)))))) oNone) (dLst wNil)))
    t__law_asks_1))
    t__law_asks_2)
def t__law_asks : TSd :=
    (dSeq (dSet 3 (dLst wNil))
    t__law_asks_3)
def t__law_spared_1 : TSd :=
    (dKPut 5 (dLook (dMax2 (aCons (dLook (dKGet2 5 (dRead 11) (dLook (dC (.int 0))))) (aCons (dSee 7) aNil)))) (dRead 11))
def t__law_spared_2 : TSd :=
    (dFreeze 9 (dFor (iOver (dRead 9)) (gNam 10) (dSeq (dSet 11 (dTuple (aCons (dLook (dSortedA (aCons (dLook (dAdd (dSee 10) (dLook (dLst (wCons (dVar 4) wNil))))) aNil))) aNil)))
    t__law_spared_1)))
def t__law_spared_3 : TSd :=
    (dSeq (dFreeze 8 (dSet 9 (dIf (dBool (dLt (dLook (dLen (aCons (dSee 8) aNil))) (dSee 2))) (dLst (wCons (dVar 8) wNil)) (dComp [12] (iRange1 (aCons (dLook (dLen (aCons (dSee 8) aNil))) aNil)) (gNam 12) dYes (dAdd (dLook (dCut (dSee 8) oNone (oSome (dSee 12)))) (dLook (dCut (dSee 8) (oSome (dLook (dAdd (dSee 12) (dLook (dC (.int 1)))))) oNone)))))))
    t__law_spared_2)
def t__law_spared_4 : TSd :=
    (dSeq (dSet 8 (dComp [10] (iOver (dSee 6)) (gNam 10) (dBool (dNe (dSee 10) (dSee 4))) (dVar 10)))
    t__law_spared_3)
def t__law_spared_5 : TSd :=
    (dFreezeD 5 (dSet 3 (dVar 5)))
def t__law_spared_6 : TSd :=
    (dSeq (dFreezeD 3 (dFor (iDic true 3) (gNam 6) (dSeq (dSet 7 (dAdd (dLook (dKGet 3 (dRead 6))) (dLook (dIf (dBool (dIn (dSee 4) (dSee 6))) (dIx (dSee 1) (dSee 4)) (dC (.int 0))))))
    t__law_spared_4)))
    t__law_spared_5)
def t__law_spared_7 : TSd :=
    (dRet (dMaxA (aCons (dLook (dComp [6] (iDic false 3) (gNam 6) dYes (dKGet 3 (dRead 6)))) aNil)))
def t__law_spared_8 : TSd :=
    (dSeq (dFor (iOver (dRead 0)) (gNam 4) (dSeq (dSet 5 dKNew)
    t__law_spared_6))
    t__law_spared_7)
def t__law_spared : TSd :=
    (dSeq (dSet 3 (dKDisp (pCons (dLook (dTup wNil)) (dLook (dC (.int 0))) pNil)))
    t__law_spared_8)
def t_stretches_1 : TSd :=
    (dKPut 1 (dRead 3) (dRead 4))
def t_stretches_2 : TSd :=
    (dRet (dTuple (aCons (dLook (dSortedD (aCons (dSee 2) aNil))) aNil)))
def t_stretches_3 : TSd :=
    (dSeq (dFor (iEnumD (dRead 0)) (gTp 2 (gCn (gNam 3) (gCn (gNam 4) gNl))) (dSeq (dIte (dBool (dKIn false 1 (dRead 4))) (dApp 2 (dTup (wCons (dKGet 1 (dRead 4)) (wCons (dVar 3) wNil)))) dNext)
    t_stretches_1))
    t_stretches_2)
def t_stretches : TSd :=
    (dSeq (dPar [1, 2] (wCons dKNew (wCons (dLst wNil) wNil)))
    t_stretches_3)
def t_furthest_1 : TSd :=
    (dKPop 3 (dLook (dIx (dLook (dMaxD (aCons (dSee 7) aNil))) (dLook (dC (.int 1))))))
def t_furthest_2 : TSd :=
    (dKPut 3 (dRead 5) (dRead 6))
def t_furthest_3 : TSd :=
    (dRet (dTuple (aCons (dLook (dSortedD (aCons (dSee 4) aNil))) aNil)))
def t_furthest_4 : TSd :=
    (dSeq (dFor (iEnumD (dRead 0)) (gTp 2 (gCn (gNam 5) (gCn (gNam 6) gNl))) (dSeq (dIte (dBool (dKIn false 3 (dRead 6))) (dApp 4 (dTup (wCons (dKGet 3 (dRead 6)) (wCons (dVar 5) wNil)))) (dIte (dBool (dEq (dLook (dKLen 3)) (dSee 1))) (dSeq (dSet 7 (dComp [8, 9] (iItemsD false 3) (gTp 2 (gCn (gNam 8) (gCn (gNam 9) gNl))) dYes (dTup (wCons (dKGet2 2 (dRead 9) (dLook (dLen (aCons (dSee 0) aNil)))) (wCons (dVar 8) wNil)))))
    t_furthest_1) dNext))
    t_furthest_2))
    t_furthest_3)
def t_furthest : TSd :=
    (dSeq (dPar [2, 3, 4] (wCons (dDictP (aCons (dLook (dCallF S_stretches [0] (gsCons (dVar 0) gsNil) gsNil)) aNil)) (wCons dKNew (wCons (dLst wNil) wNil))))
    t_furthest_4)
def t_fewest_misses : TSd :=
    (dRet (dSub (dLook (dLen (aCons (dSee 0) aNil))) (dLook (dLen (aCons (dLook (dCallF S_furthest [0, 1] (gsCons (dVar 0) (gsCons (dVar 1) gsNil)) gsNil)) aNil)))))
def t_hits_by_rooms : TSd :=
    (dRet (dTuple (aCons (dLook (dComp [2] (iRange2 (aCons (dLook (dC (.int 1))) (aCons (dLook (dAdd (dSee 1) (dLook (dC (.int 1))))) aNil))) (gNam 2) dYes (dLen (aCons (dLook (dCallF S_furthest [0, 1] (gsCons (dVar 0) (gsCons (dVar 2) gsNil)) gsNil)) aNil)))) aNil)))
def t_law_1 : TSd :=
    (dIte (dOr (dBool (dNe (dSee 15) (dLook (dSub (dLook (dLen (aCons (dSee 13) aNil))) (dLook (dCallF S__law_spared [0, 1, 2] (gsCons (dVar 13) (gsCons (dMulB (dLook (dLst (wCons (dC (.int 1)) wNil))) (dLook (dC (.int 8)))) (gsCons (dVar 12) gsNil))) gsNil)))))) (dOr (dBool (dLt (dSee 15) (dSee 14))) (dBool (dGt (dSee 15) (dLook (dAdd (dSee 14) (dLook (dC (.int 2))))))))) (dRet (dC (.bool false))) dNext)
def t_law_2 : TSd :=
    (dSeq (dPar [14, 15] (wCons (dSub (dLook (dLen (aCons (dSee 4) aNil))) (dLook (dIx (dSee 6) (dLook (dSub (dSee 12) (dLook (dC (.int 1)))))))) (wCons (dCallF S_fewest_misses [0, 1] (gsCons (dVar 13) (gsCons (dVar 12) gsNil)) gsNil) wNil)))
    t_law_1)
def t_law_3 : TSd :=
    (dSeq (dSet 13 (dAdd (dLook (dAdd (dLook (dCut (dSee 4) oNone (oSome (dSee 11)))) (dLook (dTup (wCons (dCallF S__law_any [0, 1] (gsCons (dVar 1) (gsCons (dAdd (dSee 3) (dLook (dC (.int 1)))) gsNil)) gsNil) wNil))))) (dLook (dCut (dSee 4) (oSome (dSee 11)) oNone))))
    t_law_2)
def t_law_4 : TSd :=
    (dSeq (dPar [11, 12] (wCons (dCallF S__law_any [0, 1] (gsCons (dVar 1) (gsCons (dAdd (dLook (dLen (aCons (dSee 4) aNil))) (dLook (dC (.int 1)))) gsNil)) gsNil) (wCons (dAdd (dLook (dC (.int 1))) (dLook (dCallF S__law_any [0, 1] (gsCons (dVar 1) (gsCons (dVar 5) gsNil)) gsNil))) wNil)))
    t_law_3)
def t_law_5 : TSd :=
    (dSeq (dIte (dOr (dBool (dNe (dLook (dCallF S_hits_by_rooms [0, 1] (gsCons (dRevA (dSee 4)) (gsCons (dVar 5) gsNil)) gsNil)) (dLook (dTuple (aCons (dSee 6) aNil))))) (dBool (dNe (dLook (dCallF S_hits_by_rooms [0, 1] (gsCons (dVar 10) (gsCons (dVar 5) gsNil)) gsNil)) (dLook (dTuple (aCons (dSee 6) aNil)))))) (dRet (dC (.bool false))) dNext)
    t_law_4)
def t_law_6 : TSd :=
    (dSeq (dSet 10 (dTuple (aCons (dLook (dComp [17] (iOver (dSee 4)) (gNam 17) dYes (dIx (dSee 9) (dSee 17)))) aNil)))
    t_law_5)
def t_law_7 : TSd :=
    (dSeq (dSet 9 (dCallF S__law_mixed [0, 1] (gsCons (dVar 1) (gsCons (dListRange1 (dLook (dAdd (dSee 3) (dLook (dC (.int 3)))))) gsNil)) gsNil))
    t_law_6)
def t_law_8 : TSd :=
    (dSeq (dIte (dOr (dBool (dNe (dLook (dIx (dSee 6) (dLook (dC (.int 0))))) (dLook (dLen (aCons (dLook (dComp [16] (iOver (dSee 8)) (gNam 16) (dBool (dEq (dLook (dIx (dSee 16) (dLook (dC (.int 1))))) (dLook (dAdd (dLook (dIx (dSee 16) (dLook (dC (.int 0))))) (dLook (dC (.int 1))))))) (dVar 16))) aNil))))) (dAnd (dBool (dGe (dSee 5) (dSee 3))) (dBool (dNe (dLook (dIx (dSee 6) (dLook (dNeg (dLook (dC (.int 1))))))) (dLook (dLen (aCons (dSee 8) aNil))))))) (dRet (dC (.bool false))) dNext)
    t_law_7)
def t_law_9 : TSd :=
    (dSeq (dSet 8 (dCallF S__law_stretches [0] (gsCons (dVar 4) gsNil) gsNil))
    t_law_8)
def t_law_10 : TSd :=
    (dSeq (dIte (dOr (dBool (dNe (dSee 7) (dLook (dRevA (dLook (dSortedA (aCons (dSee 7) aNil))))))) (dBool (dNe (dSee 7) (dLook (dComp [16] (iOver (dSee 7)) (gNam 16) (dBool (dGe (dSee 16) (dLook (dC (.int 0))))) (dVar 16)))))) (dRet (dC (.bool false))) dNext)
    t_law_9)
def t_law_11 : TSd :=
    (dSeq (dSet 7 (dComp [11] (iRange1 (aCons (dLook (dSub (dLook (dLen (aCons (dSee 6) aNil))) (dLook (dC (.int 1))))) aNil)) (gNam 11) dYes (dSub (dLook (dIx (dSee 6) (dLook (dAdd (dSee 11) (dLook (dC (.int 1))))))) (dLook (dIx (dSee 6) (dSee 11))))))
    t_law_10)
def t_law_12 : TSd :=
    (dSeq (dIte (dOr (dBool (dNe (dLook (dRepr (aCons (dLook (dCallF S_hits_by_rooms [0, 1] (gsCons (dVar 4) (gsCons (dVar 5) gsNil)) gsNil)) aNil))) (dLook (dRepr (aCons (dLook (dTuple (aCons (dSee 6) aNil))) aNil))))) (dBool (dNe (dLook (dRepr (aCons (dLook (dCallF S_hits_by_rooms [1, 0] gsNil (gsCons (dVar 5) (gsCons (dVar 4) gsNil)))) aNil))) (dLook (dRepr (aCons (dLook (dTuple (aCons (dSee 6) aNil))) aNil)))))) (dRet (dC (.bool false))) dNext)
    t_law_11)
def t_law_13 : TSd :=
    (dSeq (dSet 6 (dComp [12] (iRange2 (aCons (dLook (dC (.int 1))) (aCons (dLook (dAdd (dSee 5) (dLook (dC (.int 1))))) aNil))) (gNam 12) dYes (dCallF S__law_spared [0, 1, 2] (gsCons (dVar 4) (gsCons (dMulB (dLook (dLst (wCons (dC (.int 1)) wNil))) (dLook (dC (.int 7)))) (gsCons (dVar 12) gsNil))) gsNil)))
    t_law_12)
def t_law_14 : TSd :=
    (dSeq (dPar [4, 5] (wCons (dCallF S__law_asks [0, 1, 2] (gsCons (dVar 1) (gsCons (dC (.int 16)) (gsCons (dVar 3) gsNil))) gsNil) (wCons (dAdd (dLook (dC (.int 1))) (dLook (dCallF S__law_any [0, 1] (gsCons (dVar 1) (gsCons (dC (.int 6)) gsNil)) gsNil))) wNil)))
    t_law_13)
def t_law_15 : TSd :=
    (dRet (dC (.bool true)))
def t_law_16 : TSd :=
    (dSeq (dDeal 1 0 (dFor (iRange1 (aCons (dLook (dC (.int 3))) aNil)) (gNam 2) (dSeq (dSet 3 (dAdd (dLook (dC (.int 1))) (dLook (dCallF S__law_any [0, 1] (gsCons (dVar 1) (gsCons (dC (.int 6)) gsNil)) gsNil))))
    t_law_14)))
    t_law_15)
def t_law : TSd :=
    (dSeq (dSet 1 (dCallF S__law_draw [0, 1] (gsCons (dVar 0) (gsCons (dC (.int 37)) gsNil)) gsNil))
    t_law_16)
structure Txt (mg : Str → Option Value) : Prop where
  b_abs : mg "abs" = none
  b_dict : mg "dict" = none
  b_enumerate : mg "enumerate" = none
  b_int : mg "int" = none
  b_len : mg "len" = none
  b_list : mg "list" = none
  b_max : mg "max" = none
  b_range : mg "range" = none
  b_repr : mg "repr" = none
  b_sorted : mg "sorted" = none
  b_tuple : mg "tuple" = none
end K

/-! the drawing defs, alike in every law -/
namespace K
open PySem DL
open SX (S)
local macro_rules
  | `(tactic| bv_omega) => `(tactic| simp only [dSeq, dSet, dC, dLook, dVar, dSee, dRead, dOp2, dCall, dRet, dRetN, dRetOwn, dIte, dNext, dBool, dAnd, dOr, dNot, dIf, dAndV, dOrV, dNotV, dNeg, dChain, dFor, dComp, dYes, dLst, dTup, dTupO, dIxO, itW, dPar, setAll, dApp, dPut, dPop, dPop0, dPopG, dExt, dExtA, dSortedA, gSortedA, dReprI, gReprI, dFreeze, dSettle, dDrop, dAsg, dCut, oNone, oSome, dRev, dRevA, dIsi, dAppPop, dAppAt, dSeeAt, dChainT3, dPut2, dDead, dRaise, dRetX, dSetX, dDropX, dCallX, dCallA, dTryO, dTryA, dExAt, gsConsX, dIsi2, dSortedD, gSortedD, dSortSetT, gSortSetT, dKList, dKSorted, EndsD.gone, dSortedT, gSortedT, gInS, gIndex, isL, isLT, gInT, dUpper, dIndex, iRange3, gBs, gIsN, gNsA, dLenSet, wStar, wStarR1, wStarR2, dSortSet, dCount, dComp2, gCount, gSortSet, gLenSet, dLenSc, dShr, dJoin, dIn, dNotIn, gIn, gIx, gAdd, gMul, gMulA, gMulB, gLen, gU, gB, gI, cT, gOrd, gEq, gTuple, gList, gCut, gJoin, gNam, gTp, gCn, gNl, dicA, dicV_dic, dKGet, dKIn, dKGet2, dKGet1, dDictP, gDictP, iItemsD, dKPop, gMaxD, dMaxD, dKLen, dKNew, dKDisp, pNil, pCons, dKPut, dFreezeD, iDic, aNil, aCons, wNil, wCons, gsNil, gsCons, gArg, dCallF, pick, iRange1, iRange2, iOver, iEnumD, iZipD, itemsD, dScr, dDeal, enter, wipeE, dRg1, dRg2, gLrg, gTrg, W.plain, W.plains, W.data, W.datas, W.nd, W.nds, W.nds_fz, W.flat, W.datas_fz, W.plains_fz, W.flat_fz, W.datas_fm, W.plains_fm, W.flat_fm, flat_fzn, plains_fzn, datas_fzn, nds_fzn, datas_fm2, plains_fm2, flat_fm2, nds_fm2,
  List.map_cons, List.map_nil, List.cons_append, List.nil_append, List.length_cons, List.length_nil, List.length_map, List.replicate, List.getElem?_cons_zero, List.getElem?_cons_succ, List.getElem?_nil, List.set_cons_zero, List.set_cons_succ, List.set_nil, List.filterMap_cons, List.filterMap_nil, List.take_succ_cons, Nat.reduceSub, Nat.reduceAdd, Nat.reduceLeDiff, true_and, and_true, if_true, Bool.false_eq_true, if_false, reduceCtorEq, Bool.false_xor, Bool.true_xor, Bool.xor_false, Bool.not_true, Bool.not_false, Bool.and_true, Bool.true_and, Bool.and_false, Bool.false_and, Option.map_some, Option.map_none])
theorem mulW {i j : Int} (hi : -(2 ^ 64) < i ∧ i < 2 ^ 64) (hj : -(2 ^ 64) < j ∧ j < 2 ^ 64) : L2.CMulW i j := L2.wide_mul (a := 64) (b := 64) (by omega) (by omega) (by decide) (by decide) (by decide)
theorem ints_mem {d : D} {ns : List Int} (h : d ∈ ns.map PyData.int) : ∃ n : Int, d = .int n := by
  obtain ⟨n, _, e⟩ := List.mem_map.mp h
  exact ⟨n, e.symm⟩
def absD : D → W
  | .int i => .fz (.int (if i < 0 then -i else i))
  | _ => .fz .none
def geD : D → Bool
  | .int i => decide (i ≥ 10 ^ 18)
  | _ => false
def intD : D → Int
  | .int i => if i < 0 then -i else i
  | _ => 0
theorem len__law_draw : ∀ ws P, S__law_draw ws P → ws.length = 2 := fun ws P ⟨ns, k, e, _⟩ => by rw [e]; rfl
theorem cut48 (ns : List Int) : (cutL ns none (some 48)).length ≤ 48 := by
  unfold cutL
  have e : HT.sIx ns.length ns.length (some 48) ≤ 48 := by
    unfold HT.sIx
    simp
    omega
  rw [List.length_take]
  omega
theorem wp__law_draw : ∀ ws Q, S__law_draw ws Q → t__law_draw { nx := fun _ => Q (.fz .none), rt := Q } (enter N__law_draw ws) := by
  rintro ws Q ⟨ns, k, rfl, h0, h1, hq⟩
  unfold t__law_draw
  bv_omega
  have hc := cut48 ns
  generalize hcs : cutL ns none (some 48) = cs at hc ⊢
  refine ⟨Nat.lt_of_le_of_lt (by simpa using hc) (by decide), ?_⟩
  refine compW_map absD (fun d hd N M hN => ?_) ?_
  · obtain ⟨n, rfl⟩ := ints_mem hd
    bv_omega
    exact hN
  · bv_omega
    have e : List.map absD (List.map PyData.int cs) = ((cs.map fun i => if i < 0 then -i else i).map PyData.int).map W.fz := by
      rw [List.map_map, List.map_map, List.map_map]
      rfl
    rw [e, W.datas_fz, W.plains_fz]
    have hc2 : (cs.map fun i => if i < 0 then -i else i).length ≤ 48 := by simpa using hc
    generalize (cs.map fun i => if i < 0 then -i else i) = cells at hc2 ⊢
    refine ⟨mulW (by omega) (by omega), rfl, ?_⟩
    refine loopD_ind (fun _ env => ∃ (b : Int) (x : Option W), 0 ≤ b ∧ b < 2147483647 ∧ env = [some (.scr ns), some (.fz (.int k)), some (.fz (.list (cells.map .int))), some (.fz (.int b)), x]) ⟨7919 + 104729 * k, none, by omega, by omega, rfl⟩ ?_ ?_
    · rintro i d env N hd ⟨b, x, b0, b1, rfl⟩ hN
      obtain ⟨n, rfl⟩ := ints_mem (List.mem_of_getElem? hd)
      bv_omega
      refine ⟨mulW (by omega) (by omega), by decide, by decide, hN _ ⟨_, _, ?_, ?_, rfl⟩⟩ <;> omega
    · rintro env ⟨b, x, b0, b1, rfl⟩
      bv_omega
      refine ⟨Nat.lt_of_le_of_lt (by simpa using hc2) (by decide), compW_filter geD W.fz (fun d hd N M h1 h2 => ?_) ?_⟩
      · obtain ⟨n, rfl⟩ := ints_mem hd
        bv_omega
        refine ⟨⟨by decide, by decide, by decide⟩, ?_⟩
        split
        · rename_i h; exact h1 h
        · rename_i h; exact h2 (by simpa [geD] using h)
      · have e2 : (cells.map PyData.int).filter geD = (cells.filter fun i => decide (i ≥ 10 ^ 18)).map PyData.int := by
          rw [List.filter_map]; rfl
        rw [e2]
        bv_omega
        rw [← List.map_reverse]
        refine ⟨by decide, hq _ b ?_ b0 b1⟩
        rw [List.length_reverse]
        exact Nat.le_trans (List.length_filter_le _ _) hc2
theorem len__law_of : ∀ ws P, S__law_of ws P → ws.length = 2 := fun ws P ⟨ns, e, _⟩ => by rw [e]; rfl
theorem atI_nat {α : Type} (xs : List α) (i : Nat) : L2.atI xs (i : Int) = xs[i]? := by
  unfold L2.atI L2.ixN
  rw [if_pos (by omega)]
  by_cases h : (i : Int) < xs.length
  · rw [if_pos h]; simp
  · rw [if_neg h, List.getElem?_eq_none (by omega)]; rfl
theorem wp__law_of : ∀ ws Q, S__law_of ws Q → t__law_of { nx := fun _ => Q (.fz .none), rt := Q } (enter N__law_of ws) := by
  rintro ws Q ⟨ds, rfl, h0, h1, hq⟩
  unfold t__law_of
  bv_omega
  refine ⟨_, rfl, by omega, by omega, fun i i0 i1 => ?_⟩
  bv_omega
  obtain ⟨j, rfl⟩ := Int.eq_ofNat_of_zero_le i0
  have hj : j < ds.length := by omega
  exact ⟨_, (atI_nat ds j).trans (List.getElem?_eq_getElem hj), hq _ (List.getElem_mem hj)⟩
theorem ixN_last {n : Nat} (h : 0 < n) : L2.ixN n (-1) = some (n - 1) := by
  unfold L2.ixN
  rw [if_neg (by omega), if_pos (by omega)]
  congr 1
  omega
theorem ite_f {b : Bool} {p q : Prop} (h : b = false) (hq : q) : if b = true then p else q := by subst h; exact hq
theorem ite_t {b : Bool} {p q : Prop} (h : b = true) (hq : p) : if b = true then p else q := by subst h; exact hq
theorem nt {b : Bool} (h : b = true) : (!b) = false := by subst h; rfl
theorem lt_int (i n : Nat) : decide ((i : Int) < (n : Int)) = decide (i < n) := by simp
theorem len__law_mixed : ∀ ws P, S__law_mixed ws P → ws.length = 2 := fun ws P ⟨ns, e, _⟩ => by rw [e]; rfl
theorem eqv_nilL (ds : List D) : PyData.eqv (.list ds) (.list []) = ds.isEmpty := by
  cases ds <;> simp [PyData.eqv, PyData.eqvAll]
theorem eqv_nilT (ds : List D) : PyData.eqv (.tuple ds) (.tuple []) = ds.isEmpty := by
  cases ds <;> simp [PyData.eqv, PyData.eqvAll]
theorem shaped_perm : ∀ {ds es : List D}, es.Perm ds → SeqAt.shaped (.list ds) = true → SeqAt.shaped (.list es) = true := by
  have key : ∀ ds : List D, SeqAt.shaped (.list ds) = true ↔ ∀ d ∈ ds, d.canLay0 = true ∧ d.depth + 1 ≤ 64 := by
    intro ds
    unfold SeqAt.shaped
    rw [Bool.and_eq_true, decide_eq_true_eq]
    simp only [PyData.canLay0, PyData.depth]
    induction ds with
    | nil => simp [PyData.canLayAll0, PyData.depthAll]
    | cons d ds ih =>
      simp only [PyData.canLayAll0, PyData.depthAll, Bool.and_eq_true, List.mem_cons, forall_eq_or_imp]
      rw [← ih]
      constructor
      · rintro ⟨⟨h1, h2⟩, h3⟩
        exact ⟨⟨h1, by omega⟩, h2, by omega⟩
      · rintro ⟨⟨h1, h2⟩, h3, h4⟩
        exact ⟨⟨h1, h3⟩, by omega⟩
  intro ds es p h
  rw [key] at h ⊢
  exact fun d hd => h d (p.mem_iff.mp hd)
theorem perm_erase {α : Type} {l : List α} {k : Nat} {x : α} (h : l[k]? = some x) : (x :: l.eraseIdx k).Perm l := by
  induction l generalizing k with
  | nil => simp at h
  | cons y l ih =>
    cases k with
    | zero => simp at h; subst h; simp
    | succ k =>
      rw [List.getElem?_cons_succ] at h
      rw [List.eraseIdx_cons_succ]
      exact (List.Perm.swap y x _).trans (List.Perm.cons y (ih h))
theorem wp__law_mixed : ∀ ws Q, S__law_mixed ws Q → t__law_mixed { nx := fun _ => Q (.fz .none), rt := Q } (enter N__law_mixed ws) := by
  rintro ws Q ⟨ds, rfl, hl, hs, hq⟩
  unfold t__law_mixed
  bv_omega
  refine ⟨Nat.zero_le _, ?_⟩
  refine dWhile_ind (fun m env => ∃ left found : List D, env = [some .deal, some (.fz (.list ds)), some (.own (left.map .fz)), some (.own (found.map .fz))] ∧ (found ++ left).Perm ds ∧ m = left.length) ⟨ds, [], rfl, by simp, rfl⟩ ?_
  rintro m env N ⟨left, found, rfl, hp, rfl⟩ hN
  have hlen := hp.length_eq
  rw [List.length_append] at hlen
  have hsl : SeqAt.shaped (.list left) = true := by
    have h1 := shaped_perm hp hs
    have : ∀ a b : List D, SeqAt.shaped (.list (a ++ b)) = true → SeqAt.shaped (.list b) = true := by
      intro a b
      unfold SeqAt.shaped
      rw [Bool.and_eq_true, Bool.and_eq_true, decide_eq_true_eq, decide_eq_true_eq]
      simp only [PyData.canLay0, PyData.depth]
      induction a with
      | nil => exact id
      | cons d a ih =>
        simp only [List.cons_append, PyData.canLayAll0, PyData.depthAll, Bool.and_eq_true]
        rintro ⟨⟨h1, h2⟩, h3⟩
        exact ih ⟨h2, by omega⟩
    exact this _ _ h1
  bv_omega
  refine ⟨Nat.zero_le _, hsl, by decide +kernel, ?_⟩
  rw [eqv_nilL]
  cases left with
  | nil =>
    exact ite_f rfl (hq found (by simpa using hp))
  | cons d0 left =>
    refine ite_t rfl ⟨by decide, Nat.lt_of_le_of_lt (by omega : found.length ≤ 1000) (by decide), d0 :: left, rfl, ?_⟩
    refine ⟨_, rfl, ?_, ?_, fun i i0 i1 => ?_⟩
    · simp only [List.length_cons]; omega
    · simp only [List.length_cons] at hlen ⊢; omega
    · obtain ⟨k, rfl⟩ := Int.eq_ofNat_of_zero_le i0
      have hk : k < (d0 :: left).length := by omega
      refine ⟨rfl, k, _, ?_, ⟨by omega, by simp only [List.length_cons] at hlen i1; omega⟩, List.getElem?_eq_getElem hk, hN _ _ ?_ ⟨(d0 :: left).eraseIdx k, found ++ [(d0 :: left)[k]], by simp, ?_, rfl⟩⟩
      · unfold L2.ixN
        rw [if_pos (by omega), if_pos i1]
        simp
      · rw [List.length_eraseIdx_of_lt hk]
        simp only [List.length_cons]
        omega
      · refine List.Perm.trans ?_ hp
        rw [List.append_assoc]
        exact List.Perm.append_left found (perm_erase (List.getElem?_eq_getElem hk))
section
open PySem.Spec PyProof.Rows L2 DL
/-- the deal's cells behind some turns -/
structure At (H0 : Hp) (a b : Addr) (cells : List Int) (blend : Int) (H : Hp) : Prop where
  ha : H a = some (.lst [.ref b, .int blend])
  hb : H b = some (.lst (cells.map V.int))
  cl : cells.length ≤ 64
  b0 : 0 ≤ blend
  b1 : blend < 2147483647
  fr : ∀ c o, H0 c = some o → c ≠ a → c ≠ b → H c = some o
theorem At.more {H0 H : Hp} {a b p : Addr} {cells : List Int} {blend : Int} {o : HO} (h : At H0 a b cells blend H) (hp : H p = none) : At H0 a b cells blend (upd H p o) :=
  ⟨by rw [upd_ne (ne_of_none h.ha hp)]; exact h.ha, by rw [upd_ne (ne_of_none h.hb hp)]; exact h.hb, h.cl, h.b0, h.b1, fun c u hc h1 h2 => by rw [upd_ne (ne_of_none (h.fr c u hc h1 h2) hp)]; exact h.fr c u hc h1 h2⟩
theorem At.ne {H0 H : Hp} {a b : Addr} {cells : List Int} {blend : Int} (h : At H0 a b cells blend H) : a ≠ b := by
  intro e
  have h1 := h.ha
  rw [e, h.hb] at h1
  have h2 : cells.map V.int = [.ref b, .int blend] := by simpa using h1
  match cells, h2 with
  | [], h2 => cases h2
  | c :: cs, h2 => simp at h2
theorem At.put {H0 H : Hp} {a b : Addr} {cells cells' : List Int} {blend : Int} (h : At H0 a b cells blend H) (hl : cells'.length ≤ 64) : At H0 a b cells' blend (upd H b (.lst (cells'.map V.int))) :=
  ⟨by rw [upd_ne h.ne]; exact h.ha, upd_same, hl, h.b0, h.b1, fun c u hc h1 h2 => by rw [upd_ne h2]; exact h.fr c u hc h1 h2⟩
theorem ints_dp {K : PySem.W.Frag} {H : Hp} : ∀ ns : List Int, L2.DpAll K H (ns.map V.int) (ns.map .int)
  | [] => .nil
  | n :: ns => .cons (.int n) (ints_dp ns)
theorem depth_ints : ∀ ns : List Int, PyData.depthAll (ns.map .int) = 0
  | [] => by simp [PyData.depthAll]
  | n :: ns => by simp [PyData.depthAll, PyData.depth, depth_ints ns]
theorem lay_ints : ∀ ns : List Int, PyData.canLayAll0 (ns.map .int) = true
  | [] => by simp [PyData.canLayAll0]
  | n :: ns => by simp [PyData.canLayAll0, PyData.canLay0, lay_ints ns]
theorem shaped_ints (ns : List Int) : SeqAt.shaped (.list (ns.map .int)) = true := by
  simp [SeqAt.shaped, PyData.canLay0, PyData.depth, lay_ints, depth_ints]
theorem eqv_nil (ns : List Int) : PyData.eqv (.list (ns.map .int)) (.list []) = ns.isEmpty := by
  cases ns <;> simp [PyData.eqv, PyData.eqvAll]
section
variable {P : Program} {w : World} {K : PySem.W.Frag} {mg : Str → Option Value} {base : Heap}
theorem ok__law_any {f : Addr} {fd : FuncData} (F : Fun K "_law_any" "_law_any" s__law_any f fd) (T : Txt mg) : FnG P w K mg base CX0 1 f fd ["_law_deal", "_law_bound"] (spD K S__law_any) := by
  obtain ⟨oc, od, kV, doc, pm, an, cdv, ct, osl, rfl, lk, hcd⟩ := F.ex
  refine fnG_of lk hcd sc_law_any (fun vs H Q E ⟨ws, F0, dm, R, _, _, r, ⟨n, e, _⟩, _⟩ => by rw [wrs_length r, e]; rfl) fun A outer s H vs Q E hg hr ⟨ws, F0, dm, R, hsm, hdl, r, ⟨n, ews, n0, n1, hR⟩, k⟩ => ?_
  have hu : A.units + 64 < cLine := by have := hr.units; have e : (A.deeper (envOfC "_law_any" (defScope s__law_any) s.heap.objs.size f cdv)).units = A.units + 3 := rfl; omega
  have hu' : (A.deeper (envOfC "_law_any" (defScope s__law_any) s.heap.objs.size f cdv)).units + 64 < cLine := hr.units
  refine ⟨_, PSs.nox (pss_cons (ps_while PassesOwn.never (PW.pt (pw_and (pt_cmpR (op_neD hu') (pe_ix ix_list (pv 0) pe_int (fun _ _ => rfl)) (pe_lst pa_nil) (nomark _))
      (pw_and1 (pt_cmpR op_eq (pe_ix ix_list (pe_ix ix_list (pv 0) pe_int (fun _ _ => rfl)) (pe_un un_neg pe_int) (fun _ _ => rfl)) pe_int (nomark _)))))
      (pss_one (ps_expr (pe_bm0 PySem.F.plainAttrs_list PySem.F.slot_list_pop PySem.F.type_list_pop mt_pop (pe_ix ix_list (pv 0) pe_int (fun _ _ => rfl))))))
    (pss_cons (ps_if (pt_cmpR (op_neD hu') (pe_ix ix_list (pv 0) pe_int (fun _ _ => rfl)) (pe_lst pa_nil) (nomark _))
      (pss_cons (ps_set (i := 2) sc_law_any.nd rfl (.inl rfl) (pe_callTy call_int1 (by rfl) T.b_int boot_int (pa_cons (pe_bm0 PySem.F.plainAttrs_list PySem.F.slot_list_pop PySem.F.type_list_pop mt_pop (pe_ix ix_list (pv 0) pe_int (fun _ _ => rfl))) pa_nil)))
      (pss_cons (ps_expr (pe_bm PySem.F.plainAttrs_list PySem.F.slot_list_append PySem.F.type_list_append mt_append (pe_ix ix_list (pv 0) pe_int (fun _ _ => rfl)) (pa_cons (pe_op op_fdivW (pv 2) (pv 1)) pa_nil)))
      (pss_one (ps_ret (pe_op op_mod (pv 2) (pv 1)))))) pss_nil)
    (pss_cons (ps_asg (pe_op op_mod (pe_callTy call_int1 (by rfl) T.b_int boot_int (pa_cons (pe_op op_add (pe_op op_mul (pe_ix ix_list (pv 0) pe_int (fun _ _ => rfl)) pe_int) pe_int) pa_nil)) pe_int) (pg_sub (pv 0) pe_int set_list))
    (pss_one (ps_ret (pe_op op_mod (pe_callTy call_int1 (by rfl) T.b_int boot_int (pa_cons (pe_op op_fdiv (pe_ix ix_list (pv 0) pe_int (fun _ _ => rfl)) pe_int) pa_nil)) (pv 1))))))), ?_⟩
  subst ews
  obtain ⟨a, b, hdm, rfl⟩ : ∃ a b, dm = some (a, b) ∧ vs = [.ref a, .int n] := by
    obtain ⟨v0, e0, r0⟩ := wrs_nil_get 0 .deal rfl r rfl
    obtain ⟨v1, e1, r1⟩ := wrs_nil_get 1 (.fz (.int n)) rfl r rfl
    have hl := wrs_length r
    match vs, hl, e0, e1 with
    | [x, y], _, e0, e1 =>
      cases e0
      cases e1
      cases r0 with
      | @deal p e =>
        cases r1 with
        | fz r1 =>
          cases r1
          exact ⟨p.1, p.2, e, rfl⟩
  subst hdm
  obtain ⟨fa, fb, cells0, blend0, h1, h2, h3, h4, h5⟩ := hdl _ rfl
  have J0 : At H a b cells0 blend0 H := ⟨h1, h2, h3, h4, h5, fun c o h _ _ => h⟩
  -- how it ends
  have fin : ∀ {H' : Hp} {cells : List Int} {blend i : Int}, At H a b cells blend H' → 0 ≤ i → i < n → Q (.int i) H' := fun {H' cells blend i} J i0 i1 => by
    have nm : ∀ c, ¬ isM (some (a, b)) c → c ≠ a ∧ c ≠ b := fun c hc => ⟨fun z => hc ⟨_, rfl, .inl z⟩, fun z => hc ⟨_, rfl, .inr z⟩⟩
    refine k _ (hR i i0 i1) (.int i) F0 H' [] ⟨Same.refl F0, fun c o hc hm => J.fr c o hc (nm c hm).1 (nm c hm).2, fun _ h _ => h, fun c o hc => ?_, fun p hp => ?_⟩ (.fz (.int i)) List.nodup_nil (fun _ ha => nomatch ha)
    · exact J.fr c o (hsm c o hc) (fun z => by rw [z, fa] at hc; cases hc) (fun z => by rw [z, fb] at hc; cases hc)
    · cases hp
      exact ⟨fa, fb, cells, blend, J.ha, J.hb, J.cl, J.b0, J.b1⟩
  -- the looks
  have cd : ∀ i, CDivW i n := fun i => wide_div n0 (b := 62) (by omega) (by decide) (by decide)
  have ask : ∀ {cells : List Int} {blend : Int} {H1 : Hp} {σ : L2.St} {R : Bool → Hp → Prop}, At H a b cells blend H1 → σ[0]? = some (some (.ref a)) → (∀ p, H1 p = none → R (!cells.isEmpty) (upd H1 p (.lst []))) →
      tTest (tOp (rNeD K) (tOp (rIxL K) (tVar 0) (tC (.int 0))) (tLst tNil)) σ H1 R := fun {cells blend H1 σ R} J e h => by
    refine ⟨.ref a, e, a, _, 0, .ref b, rfl, rfl, .of J.ha, rfl, Nat.zero_le _, fun p hp => ?_⟩
    have J' := J.more (o := .lst []) hp
    refine ⟨.list (cells.map .int), .list [], .lst (.of J'.hb) (ints_dp cells), .lst (.of upd_same) .nil, shaped_ints _, shaped_ints [], ?_⟩
    rw [eqv_nil]
    exact ⟨_, rfl, h p hp⟩
  refine ⟨fun m σ H' => ∃ cells blend, m = cells.length ∧ σ = [some (.ref a), some (.int n), none] ∧ At H a b cells blend H', ⟨_, cells0, blend0, rfl, rfl, J0⟩, ?_⟩
  rintro m σ H1 ⟨cells, blend, rfl, rfl, J⟩
  have last : cells = [] ∨ ∃ cs c, cells = cs ++ [c] := by
    rcases List.eq_nil_or_concat cells with e | ⟨cs, c, e⟩
    · exact .inl e
    · exact .inr ⟨cs, c, by rw [e]; simp⟩
  refine ask J rfl fun p hp => ?_
  have J1 := J.more (o := .lst []) hp
  have key : ∃ cs, At H a b cs blend (upd H1 p (.lst [])) := ⟨_, J1⟩
  have lastOf : ∀ l : List Int, l = [] ∨ ∃ cs c, l = cs ++ [c] := fun l => by
    rcases List.eq_nil_or_concat l with e | ⟨cs, c, e⟩
    · exact .inl e
    · exact .inr ⟨cs, c, by rw [e]; simp⟩
  rcases lastOf cells with e | ⟨cs, c, e⟩
  · subst e
    refine iteF (iteF ?_)
    obtain ⟨cs, J2⟩ := key
    refine ask J2 rfl fun q hq => ?_
    have J3 := J2.more (o := .lst []) hq
    rcases lastOf cs with e | ⟨cs, c, e⟩
    · subst e
      refine iteF ⟨.ref a, rfl, a, _, 1, .int blend, rfl, rfl, .of J3.ha, rfl, blend, 40693, rfl, rfl, .inr ⟨by decide, by decide⟩, _, _, rfl, rfl, .inl ⟨_, rfl, _, _, rfl, rfl, (by show (0 : Int) < 2147483647; decide), .ref a, rfl, a, _, 1, 1, rfl, rfl, J3.ha, rfl, ?_⟩⟩
      have J4 : At H a b [] ((blend * 40693 + 71) % 2147483647) (upd (upd (upd H1 p (.lst [])) q (.lst [])) a (.lst [.ref b, .int ((blend * 40693 + 71) % 2147483647)])) :=
        ⟨upd_same, by rw [upd_ne J3.ne.symm]; exact J3.hb, Nat.zero_le _, by omega, by omega, fun c o hc h1 h2 => by rw [upd_ne h1]; exact J3.fr c o hc h1 h2⟩
      refine ⟨.ref a, rfl, a, _, 1, .int _, rfl, rfl, .of J4.ha, rfl, _, 64, rfl, rfl, ⟨by decide, by decide⟩, .inl ⟨_, rfl, .int n, rfl, _, _, rfl, rfl, n0, ?_⟩⟩
      exact fin J4 (Int.emod_nonneg _ (by omega)) (Int.emod_lt_of_pos _ n0)
    · subst e
      have e : (!(cs ++ [c]).isEmpty) = true := by simp
      rw [e]
      refine iteT ⟨.ref a, rfl, a, _, 0, .ref b, rfl, rfl, .of J3.ha, rfl, .inl ⟨rfl, _, .of J3.hb⟩, b, _, .int c, rfl, rfl, J3.hb, by simp, .inl ⟨c, rfl, ?_⟩⟩
      rw [List.map_append, List.map_singleton, List.dropLast_concat]
      have hcl : cs.length + 1 ≤ 64 := by have := J3.cl; simpa using this
      have J4 := J3.put (cells' := cs) (by omega)
      refine ⟨.ref a, rfl, a, _, 0, .ref b, rfl, rfl, .of J4.ha, rfl, .inl ⟨rfl, _, .of J4.hb⟩, .int c, rfl, .int n, rfl, c, n, rfl, rfl, cd c, b, _, .int (c / n), rfl, rfl, J4.hb, by rw [List.length_map]; exact Nat.lt_of_lt_of_le (by omega : cs.length < 100) (by decide), ?_⟩
      have J5 := J4.put (cells' := cs ++ [c / n]) (by simp; omega)
      rw [List.map_append, List.map_singleton] at J5
      refine ⟨.int c, rfl, .int n, rfl, c, n, rfl, rfl, n0, ?_⟩
      exact fin J5 (Int.emod_nonneg _ (by omega)) (Int.emod_lt_of_pos _ n0)
  · subst e
    have e : (!(cs ++ [c]).isEmpty) = true := by simp
    rw [e]
    refine iteT ⟨.ref a, rfl, a, _, 0, .ref b, rfl, rfl, .of J1.ha, rfl, 1, rfl, b, _, -1, .int c, rfl, rfl, .of J1.hb, by rw [List.map_append]; exact atI_last _ _, rfl, _, rfl, ?_⟩
    by_cases hc : c = 0
    · subst hc
      refine iteT ⟨fun σ' H' => ∃ m', m' < (cs ++ [(0 : Int)]).length ∧ ∃ cells blend, m' = cells.length ∧ σ' = [some (.ref a), some (.int n), none] ∧ At H a b cells blend H', fun _ _ h => h, ?_⟩
      refine ⟨.ref a, rfl, a, _, 0, .ref b, rfl, rfl, .of J1.ha, rfl, .inl ⟨rfl, _, .of J1.hb⟩, b, _, .int 0, rfl, rfl, J1.hb, by simp, cs.length, by simp, cs, blend, rfl, rfl, ?_⟩
      rw [List.map_append, List.map_singleton, List.dropLast_concat]
      exact J1.put (by have := J1.cl; simp at this; omega)
    · rw [show decide (V.int c = V.int 0) = false from decide_eq_false fun z => hc (V.int.inj z)]
      refine iteF ?_
      obtain ⟨cs, J2⟩ := key
      refine ask J2 rfl fun q hq => ?_
      have J3 := J2.more (o := .lst []) hq
      rcases lastOf cs with e | ⟨cs, c, e⟩
      · subst e
        refine iteF ⟨.ref a, rfl, a, _, 1, .int blend, rfl, rfl, .of J3.ha, rfl, blend, 40693, rfl, rfl, .inr ⟨by decide, by decide⟩, _, _, rfl, rfl, .inl ⟨_, rfl, _, _, rfl, rfl, (by show (0 : Int) < 2147483647; decide), .ref a, rfl, a, _, 1, 1, rfl, rfl, J3.ha, rfl, ?_⟩⟩
        have J4 : At H a b [] ((blend * 40693 + 71) % 2147483647) (upd (upd (upd H1 p (.lst [])) q (.lst [])) a (.lst [.ref b, .int ((blend * 40693 + 71) % 2147483647)])) :=
          ⟨upd_same, by rw [upd_ne J3.ne.symm]; exact J3.hb, Nat.zero_le _, by omega, by omega, fun c o hc h1 h2 => by rw [upd_ne h1]; exact J3.fr c o hc h1 h2⟩
        refine ⟨.ref a, rfl, a, _, 1, .int _, rfl, rfl, .of J4.ha, rfl, _, 64, rfl, rfl, ⟨by decide, by decide⟩, .inl ⟨_, rfl, .int n, rfl, _, _, rfl, rfl, n0, ?_⟩⟩
        exact fin J4 (Int.emod_nonneg _ (by omega)) (Int.emod_lt_of_pos _ n0)
      · subst e
        have e : (!(cs ++ [c]).isEmpty) = true := by simp
        rw [e]
        refine iteT ⟨.ref a, rfl, a, _, 0, .ref b, rfl, rfl, .of J3.ha, rfl, .inl ⟨rfl, _, .of J3.hb⟩, b, _, .int c, rfl, rfl, J3.hb, by simp, .inl ⟨c, rfl, ?_⟩⟩
        rw [List.map_append, List.map_singleton, List.dropLast_concat]
        have hcl : cs.length + 1 ≤ 64 := by have := J3.cl; simpa using this
        have J4 := J3.put (cells' := cs) (by omega)
        refine ⟨.ref a, rfl, a, _, 0, .ref b, rfl, rfl, .of J4.ha, rfl, .inl ⟨rfl, _, .of J4.hb⟩, .int c, rfl, .int n, rfl, c, n, rfl, rfl, cd c, b, _, .int (c / n), rfl, rfl, J4.hb, by rw [List.length_map]; exact Nat.lt_of_lt_of_le (by omega : cs.length < 100) (by decide), ?_⟩
        have J5 := J4.put (cells' := cs ++ [c / n]) (by simp; omega)
        rw [List.map_append, List.map_singleton] at J5
        refine ⟨.int c, rfl, .int n, rfl, c, n, rfl, rfl, n0, ?_⟩
        exact fin J5 (Int.emod_nonneg _ (by omega)) (Int.emod_lt_of_pos _ n0)
end
end
end K

set_option pp.maxSteps 3500
/-! stretches -/
namespace K
open PySem DL
local macro_rules
  | `(tactic| bv_omega) => `(tactic| simp -dsimp only [↓hold_app, ↓holdS_app, ↓dCallF_hold, ↓dRepr_hold, ↓dSeq_hold, ↓dComp_hold, ↓dComp2_hold, ↓dSet, ↓dC, ↓dLook, ↓dVar, ↓dSee, ↓dRead, ↓dOp2, ↓dCall, ↓dRet, ↓dRetN, ↓dRetOwn, ↓dIte, ↓dNext, ↓dBool, ↓dAnd, ↓dOr, ↓dNot, ↓dIf, ↓dAndV, ↓dOrV, ↓dNotV, ↓dNeg, ↓dChain, ↓dFor, ↓dYes, ↓dLst, ↓dTup, ↓dTupO, ↓dIxO, itW, ↓dPar, ↓setAll, ↓dApp, ↓dPut, ↓dPop, ↓dPop0, ↓dPopG, ↓dExt, ↓dExtA, ↓dSortedA, ↓gSortedA, ↓dReprI, ↓gReprI, ↓dFreeze, ↓dSettle, ↓dDrop, ↓dAsg, ↓dCut, ↓oNone, ↓oSome, ↓dRev, ↓dRevA, ↓dIsi, ↓dAppPop, ↓dAppAt, ↓dSeeAt, ↓dChainT3, ↓dPut2, ↓dDead, ↓dRaise, ↓dRetX, ↓dSetX, ↓dDropX, ↓dCallX, ↓dCallA, ↓dTryO, ↓dTryA, ↓dExAt, gsConsX, ↓dIsi2, ↓dSortedD, ↓gSortedD, ↓dSortSetT, ↓gSortSetT, ↓dKList, ↓dKSorted, EndsD.gone, ↓dSortedT, ↓gSortedT, ↓gInS, ↓gIndex, ↓isL, ↓isLT, ↓gInT, ↓dUpper, ↓dIndex, ↓iRange3, ↓gBs, ↓gIsN, ↓gNsA, ↓dLenSet, ↓wStar, ↓wStarR1, ↓wStarR2, ↓dSortSet, ↓dCount, ↓gCount, ↓gSortSet, ↓gLenSet, ↓dLenSc, ↓dShr, ↓dJoin, ↓dIn, ↓dNotIn, ↓gIn, ↓gIx, ↓gAdd, ↓gMul, ↓gMulA, ↓gMulB, ↓gLen, ↓gU, ↓gB, ↓gI, cT, ↓gOrd, ↓gEq, ↓gTuple, ↓gList, ↓gCut, ↓gJoin, ↓gNam, ↓gTp, ↓gCn, ↓gNl, dicA, dicV_dic, ↓dKGet, ↓dKIn, ↓dKGet2, ↓dKGet1, ↓dDictP, ↓gDictP, ↓iItemsD, ↓dKPop, ↓gMaxD, ↓dMaxD, ↓dKLen, ↓dKNew, ↓dKDisp, pNil, pCons, ↓dKPut, ↓dFreezeD, ↓iDic, ↓aNil, ↓aCons, ↓wNil, ↓wCons, gsNil, gsCons, ↓gArg, ↓pick, ↓iRange1, ↓iRange2, ↓iOver, ↓iEnumD, ↓iZipD, itemsD, ↓dScr, ↓dDeal, ↓enter, ↓wipeE, ↓dRg1, ↓dRg2, ↓gLrg, ↓gTrg, W.plain, W.plains, W.data, W.datas, W.nd, W.nds, W.nds_fz, W.flat, W.datas_fz, W.plains_fz, W.flat_fz, W.datas_fm, W.plains_fm, W.flat_fm, flat_fzn, plains_fzn, datas_fzn, nds_fzn, datas_fm2, plains_fm2, flat_fm2, nds_fm2,
  List.map_cons, List.map_nil, List.cons_append, List.nil_append, List.length_cons, List.length_nil, List.length_map, List.replicate, List.getElem?_cons_zero, List.getElem?_cons_succ, List.getElem?_nil, List.set_cons_zero, List.set_cons_succ, List.set_nil, List.filterMap_cons, List.filterMap_nil, List.take_succ_cons, Nat.reduceSub, Nat.reduceAdd, Nat.reduceLeDiff, true_and, and_true, if_true, Bool.false_eq_true, if_false, reduceCtorEq, Bool.false_xor, Bool.true_xor, Bool.xor_false, Bool.not_true, Bool.not_false, Bool.and_true, Bool.true_and, Bool.and_false, Bool.false_and, Option.map_some, Option.map_none])
theorem nds_fzf {α : Type} (f : α → D) : ∀ l : List α, W.nds (l.map fun p => .fz (f p)) = true
  | [] => rfl
  | x :: l => by
    rw [List.map_cons, W.nds, nds_fzf f l]
    rfl
abbrev tN (L : List (Nat × Nat)) : List (D × D) := tabD iD iD L
theorem fitN (L : List (Nat × Nat)) (p : Nat) : kFit (tN L) (iD p) := kFit_tab false (fun _ => rfl) (fun _ => rfl) L p
theorem getN (L : List (Nat × Nat)) (p : Nat) : dGetK (tN L) (iD p) = (tGet L p).map iD := dGetK_tab (fun _ _ => iD_inj) p L
theorem putN (L : List (Nat × Nat)) (p v : Nat) : dPutK (tN L) (iD p) (iD v) = tN (tPut L p v) := dPutK_tab (fun _ _ => iD_inj) p v L
/-- the last time of each page ahead of time i -/
def LastT (A : List Nat) (i : Nat) (L : List (Nat × Nat)) : Prop := ∀ p s, tGet L p = some s ↔ (s < i ∧ pg A s = p ∧ ∀ k, s < k → k < i → pg A k ≠ p)
theorem LastT.nil (A : List Nat) : LastT A 0 [] := fun p s => ⟨fun h => (by cases h), fun h => absurd h.1 (Nat.not_lt_zero _)⟩
theorem LastT.put {A : List Nat} {i : Nat} {L : List (Nat × Nat)} (h : LastT A i L) : LastT A (i + 1) (tPut L (pg A i) i) := fun p s => by
  rw [tGet_put]
  by_cases e : pg A i = p
  · rw [if_pos e]
    constructor
    · intro h1
      cases h1
      exact ⟨Nat.lt_succ_self _, e, fun k a b => by omega⟩
    · rintro ⟨h1, h2, h3⟩
      rcases Nat.lt_or_ge s i with g | g
      · exact absurd e (h3 i g (Nat.lt_succ_self _))
      · rw [show s = i by omega]
  · rw [if_neg e, h p s]
    constructor
    · rintro ⟨h1, h2, h3⟩
      refine ⟨by omega, h2, fun k a b => ?_⟩
      rcases Nat.lt_or_ge k i with g | g
      · exact h3 k a g
      · rw [show k = i by omega]; exact e
    · rintro ⟨h1, h2, h3⟩
      have : s ≠ i := fun z => e (z ▸ h2)
      exact ⟨by omega, h2, fun k a b => h3 k a (by omega)⟩
theorem LastT.strc {A : List Nat} {i s : Nat} {L : List (Nat × Nat)} (h : LastT A i L) (hi : i < A.length) : tGet L (pg A i) = some s ↔ Strc A s i := by
  rw [h]
  exact ⟨fun ⟨a, b, c⟩ => ⟨a, hi, b, fun k x y => by rw [b]; exact c k x y⟩, fun h => ⟨h.lt, h.eq, fun k x y => by rw [← h.eq]; exact h.no k x y⟩⟩
theorem tPut_len {L : List (Nat × Nat)} {k v : Nat} : (tPut L k v).length ≤ L.length + 1 := by
  induction L with
  | nil => exact Nat.le_refl _
  | cons p L ih =>
    show (if p.1 = k then (k, v) :: L else p :: tPut L k v).length ≤ _
    split
    · simp
    · simp; exact ih
theorem at_pg {A : List Nat} {i : Nat} {x : D} (h : (A.map iD)[i]? = some x) : i < A.length ∧ x = iD (pg A i) := by
  rw [List.getElem?_map] at h
  cases e : A[i]? with
  | none => rw [e] at h; cases h
  | some y =>
    rw [e] at h
    cases h
    exact ⟨(List.getElem?_eq_some_iff.mp e).1, by rw [pg, List.getD_eq_getElem?_getD, e]; rfl⟩
theorem at_ix {A : List Nat} {i : Nat} (h : i < A.length) : L2.atI (A.map iD) (i : Int) = some (iD (pg A i)) := by
  rw [atI_natD, List.getElem?_map, List.getElem?_eq_getElem h, pg, List.getD_eq_getElem?_getD, List.getElem?_eq_getElem h]
  rfl
theorem stre_few {A : List Nat} (h : A.length ≤ 100) : (stre A).length ≤ 100 := by
  have := nd_len (a := (stre A).map (·.1)) (b := List.range A.length) (List.pairwise_map.mpr (stre_sorted.imp fun h e => by omega)) fun x hx => by
    obtain ⟨p, hp, rfl⟩ := List.mem_map.mp hx
    have := mem_stre.mp hp
    exact List.mem_range.mpr (Nat.lt_trans this.lt this.ln)
  rw [List.length_map, List.length_range] at this
  omega
theorem len_stretches : ∀ ws P, S_stretches ws P → ws.length = 1 := fun ws P ⟨_, e, _⟩ => by rw [e]; rfl
theorem wp_stretches : ∀ ws Q, S_stretches ws Q → t_stretches { nx := fun _ => Q (.fz .none), rt := Q } (enter N_stretches ws) := by
  rintro ws Q ⟨A, rfl, hA, hq⟩
  unfold t_stretches
  bv_omega
  unfold t_stretches_3
  bv_omega
  refine ⟨by decide, loopD_ind (fun i env => ∃ (L F : List (Nat × Nat)) (x3 x4 : Option W), (LastT A i L ∧ L.length ≤ i ∧ F.length ≤ i ∧ F.Pairwise (fun p q => p.2 < q.2) ∧ ∀ p, p ∈ F ↔ Strc A p.1 p.2 ∧ p.2 < i) ∧ env = [some (.fz (tD A)), some (.oth (dicO true (tN L))), some (.own (F.map fun p => .fz (pD p))), x3, x4]) ⟨[], [], none, none, ⟨LastT.nil A, Nat.le_refl _, Nat.le_refl _, .nil, fun p => ⟨fun h => (by cases h), fun h => absurd h.2 (Nat.not_lt_zero _)⟩⟩, rfl⟩ ?_ ?_⟩
  · rintro i d env N hd ⟨L, F, x3, x4, ⟨h1, h2, h3, h4, h5⟩, rfl⟩ hN
    obtain ⟨x, hx, rfl⟩ := enumD_get hd
    obtain ⟨hi, rfl⟩ := at_pg hx
    have hl := hA.len
    bv_omega
    refine ⟨fitN L _, ?_⟩
    rw [getN]
    have fin : ∀ F2 : List (Nat × Nat), F2.length ≤ i + 1 → F2.Pairwise (fun p q => p.2 < q.2) → (∀ p, p ∈ F2 ↔ Strc A p.1 p.2 ∧ p.2 < i + 1) → t_stretches_1 { nx := N, rt := Q, bk := HoldS t_stretches_2 { nx := fun x => Q (W.fz PyData.none), rt := Q } { }, ct := N } [some (.fz (tD A)), some (.oth (dicO true (tN L))), some (.own (F2.map fun p => .fz (pD p))), some (.fz (iD i)), some (.fz (iD (pg A i)))] := by
      intro F2 g1 g2 g3
      unfold t_stretches_1
      bv_omega
      refine ⟨fitN L _, by rw [tabD_length, sizeLine_eq]; omega, ?_⟩
      rw [putN]
      exact hN _ ⟨tPut L (pg A i) i, F2, _, _, ⟨h1.put, Nat.le_trans tPut_len (by omega), g1, g2, g3⟩, rfl⟩
    cases ht : tGet L (pg A i) with
    | some s =>
      have hs := (h1.strc hi).mp ht
      refine iteT (by rfl) ⟨size_ok (by omega), _, rfl, by decide, ?_⟩
      have h6 := fin (F ++ [(s, i)]) (by rw [List.length_append]; show F.length + 1 ≤ i + 1; omega) (List.pairwise_append.mpr ⟨h4, by simp, fun a ha b hb => by
        simp at hb
        rw [hb]
        exact ((h5 a).mp ha).2⟩) fun p => by
        rw [List.mem_append, h5, List.mem_singleton]
        constructor
        · rintro (h | h)
          · exact ⟨h.1, by omega⟩
          · rw [h]; exact ⟨hs, Nat.lt_succ_self _⟩
        · rintro ⟨a, b⟩
          rcases Nat.lt_or_ge p.2 i with g | g
          · exact .inl ⟨a, g⟩
          · have e : p.2 = i := by omega
            rw [e] at a
            exact .inr (Prod.ext (strc_uniq' a hs) e)
      rw [List.map_append] at h6
      exact h6
    | none =>
      refine iteF (by rfl) ?_
      refine fin F (by omega) h4 fun p => ?_
      rw [h5]
      refine ⟨fun h => ⟨h.1, by omega⟩, fun h => ⟨h.1, ?_⟩⟩
      rcases Nat.lt_or_ge p.2 i with g | g
      · exact g
      · have e : p.2 = i := by omega
        have h6 := h.1
        rw [e] at h6
        rw [(h1.strc hi).mpr h6] at ht
        cases ht
  · rintro env ⟨L, F, x3, x4, ⟨h1, h2, h3, h4, h5⟩, rfl⟩
    rw [enumD_length, List.length_map] at h3 h5
    bv_omega
    unfold t_stretches_2
    bv_omega
    have hp : F.Perm (stre A) := perm_stre (h4.imp fun h e => by rw [e] at h; omega) fun a b => by
      rw [h5]
      exact ⟨fun h => h.1, fun h => ⟨h, h.ln⟩⟩
    refine ⟨okSort_pD F, ?_⟩
    rw [sort_pairs hp stre_sorted]
    exact hq
theorem len__law_stretches : ∀ ws P, S__law_stretches ws P → ws.length = 1 := fun ws P ⟨_, e, _⟩ => by rw [e]; rfl
theorem wp__law_stretches : ∀ ws Q, S__law_stretches ws Q → t__law_stretches { nx := fun _ => Q (.fz .none), rt := Q } (enter N__law_stretches ws) := by
  rintro ws Q ⟨A, rfl, hA, hq⟩
  have hl := hA.len
  unfold t__law_stretches
  bv_omega
  unfold t__law_stretches_3
  bv_omega
  refine ⟨by decide, by omega, by omega, ?_⟩
  rw [Int.toNat_natCast, items2_0]
  refine loopD_range (fun i env => ∃ x2 x3 x4 : Option W, env = [some (.fz (tD A)), some (.own (((List.range i).flatMap fun i => ((later A i).take 1).map fun t => (i, t)).map fun p => .fz (pD p))), x2, x3, x4]) ⟨_, _, _, rfl⟩ ?_ ?_
  · rintro i env N hi ⟨x2, x3, x4, rfl⟩ hN
    bv_omega
    have e1 : ((A.length : Int) - ((i : Int) + 1)).toNat = A.length - (i + 1) := by omega
    have e2 : items2 ((i : Int) + 1) (A.length - (i + 1)) = (List.range' (i + 1) (A.length - (i + 1))).map iD := by
      rw [show (i : Int) + 1 = ((i + 1 : Nat) : Int) from rfl, items2_n, List.range'_eq_map_range]
    rw [e1, e2]
    refine ⟨⟨by omega, by omega, by omega, by omega⟩, size_ok (by rw [List.length_map, List.length_range']; omega), ?_⟩
    refine compW_natF (fun t => decide (pg A t = pg A i)) fzn (fun t ht M K h1 h2 => ?_) ?_
    · have ht2 := List.mem_range'_1.mp ht
      bv_omega
      refine ⟨_, at_ix (by omega), _, at_ix hi, ?_⟩
      show if decide ((pg A t : Int) = (pg A i : Int)) = true then M (fzn t) else K
      by_cases c : pg A t = pg A i
      · exact iteT (decide_eq_true (by rw [c])) (h1 (decide_eq_true c))
      · exact iteF (decide_eq_false (by omega)) (h2 (decide_eq_false c))
    · rw [show (List.range' (i + 1) (A.length - (i + 1))).filter (fun t => decide (pg A t = pg A i)) = later A i from rfl]
      bv_omega
      unfold t__law_stretches_1
      bv_omega
      have e3 : cutL ((later A i).map iD) none (some 1) = ((later A i).take 1).map iD := by
        rw [show (some (1 : Int)) = some ((1 : Nat) : Int) from rfl, cut_to, List.map_take]
      rw [e3]
      refine ⟨size_ok (by rw [List.length_map, List.length_take]; omega), compW_nat (fun t => .fz (pD (i, t))) (fun t ht M K h => ?_) ?_⟩
      · bv_omega
        exact ⟨by decide, h⟩
      · bv_omega
        have hlen : ∀ l : List Nat, (l.flatMap fun i => ((later A i).take 1).map fun t => (i, t)).length ≤ l.length := fun l => by
          induction l with
          | nil => exact Nat.zero_le _
          | cons x l ih =>
            rw [List.flatMap_cons, List.length_append, List.length_map, List.length_take, List.length_cons]
            omega
        have h1 := hlen (List.range i)
        rw [List.length_range] at h1
        refine ⟨Nat.le_of_lt (size_ok (by rw [List.length_take]; omega)), ?_⟩
        have e4 : List.map W.fz (List.map pD ((List.range i).flatMap fun i => ((later A i).take 1).map fun t => (i, t)) ++ List.map (fun x => pD (i, x)) ((later A i).take 1)) = ((List.range (i + 1)).flatMap fun i => ((later A i).take 1).map fun t => (i, t)).map fun p => W.fz (pD p) := by
          rw [List.range_succ, List.flatMap_append]
          simp
          rfl
        rw [e4]
        exact hN _ ⟨_, _, _, rfl⟩
  · rintro env ⟨x2, x3, x4, rfl⟩
    bv_omega
    unfold t__law_stretches_2
    bv_omega
    exact ⟨nds_fzf _ _, hq⟩
end K

set_option pp.maxSteps 3500
/-! furthest first -/
namespace K
open PySem DL
local macro_rules
  | `(tactic| bv_omega) => `(tactic| simp -dsimp only [↓hold_app, ↓holdS_app, ↓dCallF_hold, ↓dRepr_hold, ↓dSeq_hold, ↓dComp_hold, ↓dComp2_hold, ↓dSet, ↓dC, ↓dLook, ↓dVar, ↓dSee, ↓dRead, ↓dOp2, ↓dCall, ↓dRet, ↓dRetN, ↓dRetOwn, ↓dIte, ↓dNext, ↓dBool, ↓dAnd, ↓dOr, ↓dNot, ↓dIf, ↓dAndV, ↓dOrV, ↓dNotV, ↓dNeg, ↓dChain, ↓dFor, ↓dYes, ↓dLst, ↓dTup, ↓dTupO, ↓dIxO, itW, ↓dPar, ↓setAll, ↓dApp, ↓dPut, ↓dPop, ↓dPop0, ↓dPopG, ↓dExt, ↓dExtA, ↓dSortedA, ↓gSortedA, ↓dReprI, ↓gReprI, ↓dFreeze, ↓dSettle, ↓dDrop, ↓dAsg, ↓dCut, ↓oNone, ↓oSome, ↓dRev, ↓dRevA, ↓dIsi, ↓dAppPop, ↓dAppAt, ↓dSeeAt, ↓dChainT3, ↓dPut2, ↓dDead, ↓dRaise, ↓dRetX, ↓dSetX, ↓dDropX, ↓dCallX, ↓dCallA, ↓dTryO, ↓dTryA, ↓dExAt, gsConsX, ↓dIsi2, ↓dSortedD, ↓gSortedD, ↓dSortSetT, ↓gSortSetT, ↓dKList, ↓dKSorted, EndsD.gone, ↓dSortedT, ↓gSortedT, ↓gInS, ↓gIndex, ↓isL, ↓isLT, ↓gInT, ↓dUpper, ↓dIndex, ↓iRange3, ↓gBs, ↓gIsN, ↓gNsA, ↓dLenSet, ↓wStar, ↓wStarR1, ↓wStarR2, ↓dSortSet, ↓dCount, ↓gCount, ↓gSortSet, ↓gLenSet, ↓dLenSc, ↓dShr, ↓dJoin, ↓dIn, ↓dNotIn, ↓gIn, ↓gIx, ↓gAdd, ↓gMul, ↓gMulA, ↓gMulB, ↓gLen, ↓gU, ↓gB, ↓gI, cT, ↓gOrd, ↓gEq, ↓gTuple, ↓gList, ↓gCut, ↓gJoin, ↓gNam, ↓gTp, ↓gCn, ↓gNl, dicA, dicV_dic, ↓dKGet, ↓dKIn, ↓dKGet2, ↓dKGet1, ↓dDictP, ↓gDictP, ↓iItemsD, ↓dKPop, ↓gMaxD, ↓dMaxD, ↓dKLen, ↓dKNew, ↓dKDisp, pNil, pCons, ↓dKPut, ↓dFreezeD, ↓iDic, ↓aNil, ↓aCons, ↓wNil, ↓wCons, gsNil, gsCons, ↓gArg, ↓pick, ↓iRange1, ↓iRange2, ↓iOver, ↓iEnumD, ↓iZipD, itemsD, ↓dScr, ↓dDeal, ↓enter, ↓wipeE, ↓dRg1, ↓dRg2, ↓gLrg, ↓gTrg, W.plain, W.plains, W.data, W.datas, W.nd, W.nds, W.nds_fz, W.flat, W.datas_fz, W.plains_fz, W.flat_fz, W.datas_fm, W.plains_fm, W.flat_fm, flat_fzn, plains_fzn, datas_fzn, nds_fzn, datas_fm2, plains_fm2, flat_fm2, nds_fm2,
  List.map_cons, List.map_nil, List.cons_append, List.nil_append, List.length_cons, List.length_nil, List.length_map, List.replicate, List.getElem?_cons_zero, List.getElem?_cons_succ, List.getElem?_nil, List.set_cons_zero, List.set_cons_succ, List.set_nil, List.filterMap_cons, List.filterMap_nil, List.take_succ_cons, Nat.reduceSub, Nat.reduceAdd, Nat.reduceLeDiff, true_and, and_true, if_true, Bool.false_eq_true, if_false, reduceCtorEq, Bool.false_xor, Bool.true_xor, Bool.xor_false, Bool.not_true, Bool.not_false, Bool.and_true, Bool.true_and, Bool.and_false, Bool.false_and, Option.map_some, Option.map_none])
theorem at0 {d : D} {r : List D} : L2.atI (d :: r) 0 = some d := by
  show L2.atI (d :: r) ((0 : Nat) : Int) = _
  rw [atI_natD]
  rfl
theorem at1 {d e : D} {r : List D} : L2.atI (d :: e :: r) 1 = some e := by
  show L2.atI (d :: e :: r) ((1 : Nat) : Int) = _
  rw [atI_natD]
  rfl
theorem pgs_lt {A : List Nat} (h : Ask A) (i : Nat) : pg A i < 100 := by
  unfold pg
  rw [List.getD_eq_getElem?_getD]
  cases e : A[i]? with
  | none => exact Nat.zero_lt_succ _
  | some x => exact h.lt x (List.mem_of_getElem? e)
theorem dkp_tab (L : List (Nat × Nat)) (p : Nat) : dDropK (tN L) (iD p) = tN (tDrop L p) := dDropK_tab (fun _ _ => iD_inj) p L
theorem putAll_nd : ∀ (kvs acc : List (D × D)), ((acc ++ kvs).map (·.1)).Nodup → kvs.foldl (fun acc p => dPutK acc p.1 p.2) acc = acc ++ kvs
  | [], acc, _ => by simp
  | p :: kvs, acc, h => by
    have hn : p.1 ∉ acc.map (·.1) := fun z => by
      rw [List.map_append, List.map_cons] at h
      exact (List.nodup_append.mp h).2.2 _ z _ (by simp) rfl
    rw [List.foldl_cons, dPutK_new hn, putAll_nd kvs (acc ++ [p]) (by rw [List.append_assoc]; exact h), List.append_assoc]
    rfl
theorem putAll_str (A : List Nat) : putAll ((stre A).map fun p => (iD p.1, iD p.2)) = tN (stre A) := by
  have : putAll ((stre A).map fun p => (iD p.1, iD p.2)) = [] ++ (stre A).map fun p => (iD p.1, iD p.2) := putAll_nd _ _ (by
    rw [List.nil_append, List.map_map]
    refine List.pairwise_map.mpr (stre_sorted.imp fun h e => ?_)
    have := iD_inj e
    omega)
  rw [this]
  rfl
theorem get_str (A : List Nat) (s : Nat) : (tGet (stre A) s).getD A.length = endOf A s := by
  have hk : ((stre A).map (·.1)).Nodup := List.pairwise_map.mpr (stre_sorted.imp fun h e => by omega)
  rcases endOf_cases (A := A) s with h | ⟨h1, h2⟩
  · rw [tGet_of hk ((mem_stre (p := (s, endOf A s))).mpr h)]
    rfl
  · cases e : tGet (stre A) s with
    | none => exact h1.symm
    | some j => exact absurd (mem_stre.mp (tGet_mem e)) (h2 j)
theorem get_later (A : List Nat) (s : Nat) : (dGetK (tN (stre A)) (iD s)).getD (iD A.length) = iD (endOf A s) := by
  rw [getN, ← get_str]
  cases tGet (stre A) s <;> rfl
/-- the dict of what is there: pages with their times -/
structure Thr (A : List Nat) (L : List (Nat × Nat)) : Prop where
  pgs : ∀ q ∈ L, q.1 = pg A q.2
  nd : (L.map (·.1)).Nodup
theorem tPut_perm (L : List (Nat × Nat)) (p i : Nat) : (tPut L p i).Perm (tDrop L p ++ [(p, i)]) := by
  induction L with
  | nil => exact List.Perm.refl _
  | cons q L ih =>
    show (if q.1 = p then (p, i) :: L else q :: tPut L p i).Perm ((if q.1 = p then L else q :: tDrop L p) ++ [(p, i)])
    by_cases e : q.1 = p
    · rw [if_pos e, if_pos e]
      exact (List.perm_append_singleton _ _).symm
    · rw [if_neg e, if_neg e, List.cons_append]
      exact ih.cons q
theorem tDrop_filter {L : List (Nat × Nat)} (h : (L.map (·.1)).Nodup) (p : Nat) : tDrop L p = L.filter fun q => decide (q.1 ≠ p) := by
  induction L with
  | nil => rfl
  | cons q L ih =>
    rw [List.map_cons] at h
    obtain ⟨h1, h2⟩ := List.nodup_cons.mp h
    show (if q.1 = p then L else q :: tDrop L p) = _
    by_cases e : q.1 = p
    · rw [if_pos e, List.filter_cons, if_neg (by simp [e])]
      refine (List.filter_eq_self.mpr fun x hx => ?_).symm
      exact decide_eq_true fun z => h1 (by rw [e, ← z]; exact List.mem_map.mpr ⟨x, hx, rfl⟩)
    · rw [if_neg e, List.filter_cons, if_pos (by simp [e]), ih h2]
theorem Thr.drop {A : List Nat} {L : List (Nat × Nat)} (h : Thr A L) {p s : Nat} (hs : (p, s) ∈ L) : (tDrop L p).map (·.2) = (L.map (·.2)).filter fun x => decide (x ≠ s) := by
  rw [tDrop_filter h.nd, List.filter_map]
  congr 1
  refine List.filter_congr fun q hq => ?_
  show decide (q.1 ≠ p) = decide (q.2 ≠ s)
  refine decide_eq_decide.mpr ⟨fun h1 e => h1 ?_, fun h1 e => h1 ?_⟩
  · rw [h.pgs q hq, e]; exact (h.pgs _ hs).symm
  · have a := tGet_of h.nd (show (p, q.2) ∈ L by rw [← e]; exact hq)
    rw [tGet_of h.nd hs] at a
    exact (Option.some.inj a).symm
theorem Thr.gone {A : List Nat} {L : List (Nat × Nat)} {p : Nat} (hp : tGet L p = none) : tDrop L p = L := by
  have := tGet_none.mp hp
  induction L with
  | nil => rfl
  | cons q L ih =>
    have e : q.1 ≠ p := fun e => this (by simp [e])
    have e2 : tGet L p = none := by
      have : (if q.1 = p then some q.2 else tGet L p) = none := hp
      rwa [if_neg e] at this
    show (if q.1 = p then L else q :: tDrop L p) = _
    rw [if_neg e, ih e2 (tGet_none.mp e2)]
theorem Thr.put {A : List Nat} {L : List (Nat × Nat)} (h : Thr A L) (i : Nat) : Thr A (tPut L (pg A i) i) := ⟨fun q hq => by
  rcases List.mem_append.mp ((tPut_perm L (pg A i) i).mem_iff.mp hq) with e | e
  · rw [tDrop_filter h.nd] at e
    exact h.pgs q (List.mem_filter.mp e).1
  · rw [List.mem_singleton.mp e], tPut_nodup h.nd⟩
theorem Thr.dropT {A : List Nat} {L : List (Nat × Nat)} (h : Thr A L) (p : Nat) : Thr A (tDrop L p) := by
  rw [tDrop_filter h.nd]
  exact ⟨fun q hq => h.pgs q (List.mem_filter.mp hq).1, h.nd.sublist (List.filter_sublist.map _)⟩
theorem len_furthest : ∀ ws P, S_furthest ws P → ws.length = 2 := fun ws P ⟨_, _, e, _⟩ => by rw [e]; rfl
theorem wp_furthest : ∀ ws Q, S_furthest ws Q → t_furthest { nx := fun _ => Q (.fz .none), rt := Q } (enter N_furthest ws) := by
  rintro ws Q ⟨A, m, rfl, hA, hm, hm2, hq⟩
  have hl := hA.len
  unfold t_furthest
  bv_omega
  refine ⟨A, rfl, hA, ?_⟩
  bv_omega
  refine ⟨(stre A).map fun p => ((p.1 : Int), iD p.2), by rw [List.map_map]; rfl, by rw [List.length_map]; exact Nat.le_of_lt (size_ok (Nat.le_trans (stre_few hl) (by decide))), by decide, ?_⟩
  have e0 : putAll (((stre A).map fun p => ((p.1 : Int), iD p.2)).map prK) = tN (stre A) := by
    rw [List.map_map]
    exact putAll_str A
  rw [e0]
  unfold t_furthest_4
  bv_omega
  refine loopD_ind (fun i env => ∃ (L F : List (Nat × Nat)) (x5 x6 x7 x8 x9 : Option W), (Thr A L ∧ Rule A m i (L.map (·.2)) F) ∧ env = [some (.fz (tD A)), some (.fz (iD m)), some (.oth (dicO true (tN (stre A)))), some (.oth (dicO true (tN L))), some (.own (F.map fun p => .fz (pD p))), x5, x6, x7, x8, x9]) ⟨[], [], _, _, _, _, _, ⟨⟨(fun _ h => nomatch h), List.nodup_nil⟩, rfl, rfl⟩, rfl⟩ ?_ ?_
  · rintro i d env N hd ⟨L, F, x5, x6, x7, x8, x9, ⟨hT, hR⟩, rfl⟩ hN
    obtain ⟨x, hx, rfl⟩ := enumD_get hd
    obtain ⟨hi, rfl⟩ := at_pg hx
    have run := Rule.run hm (Nat.le_of_lt hi) hR
    have lL : L.length ≤ m := by have := run.rm.few; rwa [List.length_map] at this
    have lF : F.length ≤ 100 := by
      have := nd_len (a := F.map (·.2)) (b := List.range A.length) (List.pairwise_map.mpr (run.ord.imp fun h e => by omega)) fun x hx => by
        obtain ⟨p, hp, rfl⟩ := List.mem_map.mp hx
        exact List.mem_range.mpr (run.fnd p hp).1.ln
      rw [List.length_map, List.length_range] at this
      omega
    bv_omega
    refine ⟨fitN L _, ?_⟩
    rw [getN]
    have fin : ∀ (L2 F2 : List (Nat × Nat)) (x7 : Option W), Thr A L2 → L2.length ≤ m → Step A m i (L.map (·.2)) F ((tPut L2 (pg A i) i).map (·.2)) F2 → t_furthest_2 { nx := N, rt := Q, bk := HoldS t_furthest_3 { nx := fun x => Q (W.fz PyData.none), rt := Q } { }, ct := N } [some (.fz (tD A)), some (.fz (iD m)), some (.oth (dicO true (tN (stre A)))), some (.oth (dicO true (tN L2))), some (.own (F2.map fun p => .fz (pD p))), some (.fz (iD i)), some (.fz (iD (pg A i))), x7, x8, x9] := by
      intro L2 F2 x7 g1 g2 g3
      unfold t_furthest_2
      bv_omega
      refine ⟨fitN L2 _, by rw [tabD_length, sizeLine_eq]; omega, ?_⟩
      rw [putN]
      exact hN _ ⟨tPut L2 (pg A i) i, F2, _, _, _, _, _, ⟨g1.put i, _, _, hR, g3⟩, rfl⟩
    cases ht : tGet L (pg A i) with
    | some s =>
      have hs := tGet_mem ht
      refine iteT (by rfl) ⟨size_ok (by omega), _, rfl, by decide, ?_⟩
      have h6 := fin L (F ++ [(s, i)]) x7 hT lL (.inl ⟨s, List.mem_map.mpr ⟨_, hs, rfl⟩, (hT.pgs _ hs).symm, by
        have := (tPut_perm L (pg A i) i).map (·.2)
        rw [List.map_append, hT.drop hs] at this
        exact this, rfl⟩)
      rw [List.map_append] at h6
      exact h6
    | none =>
      have hno : ∀ s ∈ L.map (·.2), pg A s ≠ pg A i := fun s hs e => by
        obtain ⟨q, hq, rfl⟩ := List.mem_map.mp hs
        refine tGet_none.mp ht ?_
        rw [← e, ← hT.pgs q hq]
        exact List.mem_map.mpr ⟨q, hq, rfl⟩
      refine iteF (by rfl) ?_
      rw [tabD_length]
      by_cases hc : L.length = m
      · refine iteT (decide_eq_true (by omega)) ⟨fun _ => trivial, fun p hp => ?_, size_ok (by omega), ?_⟩
        · obtain ⟨q, _, rfl⟩ := List.mem_map.mp hp
          rfl
        have e1 : (tN L).map (fun p => PyData.tuple [p.1, p.2]) = L.map pD := by rw [show tN L = L.map fun p => (iD p.1, iD p.2) from rfl, List.map_map]; rfl
        rw [e1]
        refine compW_A pD (fun q => .fz (pD (endOf A q.2, q.1))) (fun q hqm M K h => ?_) ?_
        · bv_omega
          refine ⟨fitN (stre A) q.2, ?_⟩
          rw [show PyData.int ((A.length : Nat) : Int) = iD A.length from rfl, get_later]
          exact ⟨by decide, h⟩
        bv_omega
        unfold t_furthest_1
        bv_omega
        have e2 : L.map (fun x => pD (endOf A x.2, x.1)) = (L.map fun q => (endOf A q.2, q.1)).map pD := by rw [List.map_map]; rfl
        rw [e2]
        have hne : (L.map fun q => (endOf A q.2, q.1)) ≠ [] := fun z => by
          have := congrArg List.length z
          rw [List.length_map, List.length_nil] at this
          omega
        obtain ⟨v, hv, ev, hmax⟩ := max_pairs hne
        rw [ev]
        obtain ⟨q, hqL, rfl⟩ := List.mem_map.mp hv
        refine ⟨fun z => hne (List.map_eq_nil_iff.mp z), alike_pairs _, depth_pairs _, iD q.1, at1, ⟨iD q.2, ?_⟩, rfl, ?_⟩
        · rw [getN, tGet_of hT.nd hqL]
          rfl
        rw [dkp_tab]
        have hdl : (tDrop L q.1).length ≤ m := by rw [tDrop_filter hT.nd]; exact Nat.le_trans (List.length_filter_le _ _) lL
        refine fin (tDrop L q.1) F _ (hT.dropT _) hdl (.inr (.inr ⟨hno, by rw [List.length_map]; exact hc, q.2, ⟨List.mem_map.mpr ⟨q, hqL, rfl⟩, fun s hs => ?_⟩, ?_, rfl⟩))
        · obtain ⟨q', hq', rfl⟩ := List.mem_map.mp hs
          exact hmax _ (List.mem_map.mpr ⟨q', hq', rfl⟩)
        · have hg : tGet (tDrop L q.1) (pg A i) = none := tGet_none.mpr fun z => by
            rw [tDrop_filter hT.nd] at z
            obtain ⟨y, hy, e⟩ := List.mem_map.mp z
            exact tGet_none.mp ht (List.mem_map.mpr ⟨y, (List.mem_filter.mp hy).1, e⟩)
          have := (tPut_perm (tDrop L q.1) (pg A i) i).map (·.2)
          rw [Thr.gone (A := A) hg, List.map_append, hT.drop hqL] at this
          exact this
      · refine iteF (decide_eq_false (by omega)) ?_
        refine fin L F x7 hT lL (.inr (.inl ⟨hno, by rw [List.length_map]; omega, ?_, rfl⟩))
        have := (tPut_perm L (pg A i) i).map (·.2)
        rw [Thr.gone (A := A) ht, List.map_append] at this
        exact this
  · rintro env ⟨L, F, x5, x6, x7, x8, x9, ⟨hT, hR⟩, rfl⟩
    rw [enumD_length, List.length_map] at hR
    have run := Rule.run hm (Nat.le_refl _) hR
    bv_omega
    unfold t_furthest_3
    bv_omega
    refine ⟨okSort_pD F, ?_⟩
    rw [sort_pairs run.kp_perm (kp_sorted F)]
    exact hq _ F hR
end K

set_option pp.maxSteps 3500
/-! all that can lie in the rooms -/
namespace K
def ins (x : Nat) : List Nat → List Nat
  | [] => [x]
  | y :: l => if x ≤ y then x :: y :: l else y :: ins x l
def srt : List Nat → List Nat
  | [] => []
  | x :: l => ins x (srt l)
theorem ins_perm (x : Nat) : ∀ l : List Nat, (ins x l).Perm (x :: l)
  | [] => List.Perm.refl _
  | y :: l => by
    unfold ins
    split
    · exact List.Perm.refl _
    · exact ((ins_perm x l).cons y).trans (List.Perm.swap x y l)
theorem ins_sorted {x : Nat} : ∀ {l : List Nat}, l.Pairwise (· ≤ ·) → (ins x l).Pairwise (· ≤ ·)
  | [], _ => List.pairwise_singleton _ _
  | y :: l, h => by
    have h' := List.pairwise_cons.mp h
    unfold ins
    split
    · rename_i hxy
      refine List.pairwise_cons.mpr ⟨fun z hz => ?_, h⟩
      rcases List.mem_cons.mp hz with rfl | hz
      · exact hxy
      · exact Nat.le_trans hxy (h'.1 z hz)
    · rename_i hxy
      refine List.pairwise_cons.mpr ⟨fun z hz => ?_, ins_sorted h'.2⟩
      rcases List.mem_cons.mp ((ins_perm x l).mem_iff.mp hz) with rfl | hz
      · omega
      · exact h'.1 z hz
theorem srt_perm : ∀ l : List Nat, (srt l).Perm l
  | [] => List.Perm.refl _
  | x :: l => (ins_perm x _).trans ((srt_perm l).cons x)
theorem srt_sorted : ∀ l : List Nat, (srt l).Pairwise (· ≤ ·)
  | [] => List.Pairwise.nil
  | x :: l => ins_sorted (srt_sorted l)
theorem srt_uniq {ns : List Int} {l : List Nat} (hp : ns.Perm (l.map fun (n : Nat) => (n : Int))) (hs : ns.Pairwise (· ≤ ·)) : ns = (srt l).map fun (n : Nat) => (n : Int) := by
  refine List.Perm.eq_of_pairwise (le := (· ≤ ·)) (fun a b _ _ h1 h2 => Int.le_antisymm h1 h2) hs ?_ (hp.trans ((srt_perm l).map _).symm)
  exact List.pairwise_map.mpr ((srt_sorted l).imp fun h => by omega)
end K
namespace K
open PySem DL
local macro_rules
  | `(tactic| bv_omega) => `(tactic| simp -dsimp only [↓hold_app, ↓holdS_app, ↓dCallF_hold, ↓dRepr_hold, ↓dSeq_hold, ↓dComp_hold, ↓dComp2_hold, ↓dSet, ↓dC, ↓dLook, ↓dVar, ↓dSee, ↓dRead, ↓dOp2, ↓dCall, ↓dRet, ↓dRetN, ↓dRetOwn, ↓dIte, ↓dNext, ↓dBool, ↓dAnd, ↓dOr, ↓dNot, ↓dIf, ↓dAndV, ↓dOrV, ↓dNotV, ↓dNeg, ↓dChain, ↓dFor, ↓dYes, ↓dLst, ↓dTup, ↓dTupO, ↓dIxO, itW, ↓dPar, ↓setAll, ↓dApp, ↓dPut, ↓dPop, ↓dPop0, ↓dPopG, ↓dExt, ↓dExtA, ↓dSortedA, ↓gSortedA, ↓dReprI, ↓gReprI, ↓dFreeze, ↓dSettle, ↓dDrop, ↓dAsg, ↓dCut, ↓oNone, ↓oSome, ↓dRev, ↓dRevA, ↓dIsi, ↓dAppPop, ↓dAppAt, ↓dSeeAt, ↓dChainT3, ↓dPut2, ↓dDead, ↓dRaise, ↓dRetX, ↓dSetX, ↓dDropX, ↓dCallX, ↓dCallA, ↓dTryO, ↓dTryA, ↓dExAt, gsConsX, ↓dIsi2, ↓dSortedD, ↓gSortedD, ↓dSortSetT, ↓gSortSetT, ↓dKList, ↓dKSorted, EndsD.gone, ↓dSortedT, ↓gSortedT, ↓gInS, ↓gIndex, ↓isL, ↓isLT, ↓gInT, ↓dUpper, ↓dIndex, ↓iRange3, ↓gBs, ↓gIsN, ↓gNsA, ↓dLenSet, ↓wStar, ↓wStarR1, ↓wStarR2, ↓dSortSet, ↓dCount, ↓gCount, ↓gSortSet, ↓gLenSet, ↓dLenSc, ↓dShr, ↓dJoin, ↓dIn, ↓dNotIn, ↓gIn, ↓gIx, ↓gAdd, ↓gMul, ↓gMulA, ↓gMulB, ↓gLen, ↓gU, ↓gB, ↓gI, cT, ↓gOrd, ↓gEq, ↓gTuple, ↓gList, ↓gCut, ↓gJoin, ↓gNam, ↓gTp, ↓gCn, ↓gNl, dicA, dicV_dic, ↓dKGet, ↓dKIn, ↓dKGet2, ↓dKGet1, ↓dDictP, ↓gDictP, ↓iItemsD, ↓dKPop, ↓gMaxD, ↓dMaxD, ↓dKLen, ↓dKNew, ↓dKDisp, pNil, pCons, ↓dKPut, ↓dFreezeD, ↓iDic, ↓aNil, ↓aCons, ↓wNil, ↓wCons, gsNil, gsCons, ↓gArg, ↓pick, ↓iRange1, ↓iRange2, ↓iOver, ↓iEnumD, ↓iZipD, itemsD, ↓dScr, ↓dDeal, ↓enter, ↓wipeE, ↓dRg1, ↓dRg2, ↓gLrg, ↓gTrg, W.plain, W.plains, W.data, W.datas, W.nd, W.nds, W.nds_fz, W.flat, W.datas_fz, W.plains_fz, W.flat_fz, W.datas_fm, W.plains_fm, W.flat_fm, flat_fzn, plains_fzn, datas_fzn, nds_fzn, datas_fm2, plains_fm2, flat_fm2, nds_fm2,
  List.map_cons, List.map_nil, List.cons_append, List.nil_append, List.length_cons, List.length_nil, List.length_map, List.replicate, List.getElem?_cons_zero, List.getElem?_cons_succ, List.getElem?_nil, List.set_cons_zero, List.set_cons_succ, List.set_nil, List.filterMap_cons, List.filterMap_nil, List.take_succ_cons, Nat.reduceSub, Nat.reduceAdd, Nat.reduceLeDiff, true_and, and_true, if_true, Bool.false_eq_true, if_false, reduceCtorEq, Bool.false_xor, Bool.true_xor, Bool.xor_false, Bool.not_true, Bool.not_false, Bool.and_true, Bool.true_and, Bool.and_false, Bool.false_and, Option.map_some, Option.map_none])
theorem Run.few {A : List Nat} {m t : Nat} {R : List Nat} {F : List (Nat × Nat)} (run : Run A m t R F) (hl : A.length ≤ 100) : F.length ≤ 100 := by
  have := nd_len (a := F.map (·.2)) (b := List.range A.length) (List.pairwise_map.mpr (run.ord.imp fun h e => by omega)) fun x hx => by
    obtain ⟨p, hp, rfl⟩ := List.mem_map.mp hx
    exact List.mem_range.mpr (run.fnd p hp).1.ln
  rw [List.length_map, List.length_range] at this
  omega
theorem any_iD (s : Nat) (l : List Nat) : (l.map iD).any (fun d => PyData.eqv d (iD s)) = decide (s ∈ l) := by
  induction l with
  | nil => simp
  | cons x l ih =>
    rw [List.map_cons, List.any_cons, ih]
    by_cases h : x = s
    · simp [h, PyData.eqv]
    · have h1 : PyData.eqv (iD x) (iD s) = false := by simp [PyData.eqv]; omega
      have h2 : ¬ s = x := fun e => h e.symm
      rw [h1]
      simp [h2]
theorem flat_iDs (l : List Nat) : (l.map iD).all D.flat = true := List.all_eq_true.mpr fun d hd => by
  obtain ⟨x, _, rfl⟩ := List.mem_map.mp hd
  rfl
abbrev tS (L : List (List Nat × Nat)) : List (D × D) := tabD tD iD L
theorem fitS (L : List (List Nat × Nat)) (p : List Nat) : kFit (tS L) (tD p) := kFit_tab true kOk_tD (fun _ => rfl) L p
theorem getS (L : List (List Nat × Nat)) (p : List Nat) : dGetK (tS L) (tD p) = (tGet L p).map iD := dGetK_tab (fun _ _ => tD_inj) p L
theorem putS (L : List (List Nat × Nat)) (p : List Nat) (v : Nat) : dPutK (tS L) (tD p) (iD v) = tS (tPut L p v) := dPutK_tab (fun _ _ => tD_inj) p v L
def Att (m O : Nat) (r : List Nat) (L : List (List Nat × Nat)) : Prop := ∃ q ∈ L, q.2 + opt m r q.1 = O
structure Okw (m k : Nat) (w : List Nat) : Prop where
  nd : w.Nodup
  len : w.length ≤ m
  lt : ∀ x ∈ w, x < k
  so : w.Pairwise (· < ·)
theorem Tab.put {m k O : Nat} {r : List Nat} {L : List (List Nat × Nat)} (h : Tab m k O r L) {w : List Nat} {x : Nat} (hw : Okw m k w) (hx : x + opt m r w ≤ O) :
    Tab m k O r (tPut L w (max ((tGet L w).getD 0) x)) ∧ (Att m O r L → Att m O r (tPut L w (max ((tGet L w).getD 0) x))) ∧ (x + opt m r w = O → Att m O r (tPut L w (max ((tGet L w).getD 0) x))) := by
  have hn : ((tPut L w (max ((tGet L w).getD 0) x)).map (·.1)).Nodup := tPut_nodup h.keys
  have hval : (max ((tGet L w).getD 0) x) + opt m r w ≤ O := by
    cases e : tGet L w with
    | none => simpa using hx
    | some y =>
      have := (h.ok _ (tGet_mem e)).2.2.2.2
      show max y x + opt m r w ≤ O
      have h1 : y + opt m r w ≤ O := this
      omega
  have hmem : ∀ q, q ∈ tPut L w (max ((tGet L w).getD 0) x) → q = (w, max ((tGet L w).getD 0) x) ∨ q ∈ L := fun q hq => by
    have e := tGet_of hn (show (q.1, q.2) ∈ _ from hq)
    rw [tGet_put] at e
    by_cases c : w = q.1
    · rw [if_pos c] at e
      left
      exact Prod.ext c.symm (Option.some.inj e).symm
    · rw [if_neg c] at e
      exact .inr (tGet_mem e)
  have hin : (w, max ((tGet L w).getD 0) x) ∈ tPut L w (max ((tGet L w).getD 0) x) := tGet_mem (by rw [tGet_put, if_pos rfl])
  refine ⟨⟨hn, fun q hq => ?_⟩, fun ⟨q, hq, e⟩ => ?_, fun e => ⟨_, hin, ?_⟩⟩
  · rcases hmem q hq with rfl | e
    · exact ⟨hw.nd, hw.len, hw.lt, hw.so, hval⟩
    · exact h.ok q e
  · by_cases c : w = q.1
    · refine ⟨_, hin, ?_⟩
      have e2 : tGet L w = some q.2 := by rw [c]; exact tGet_of h.keys (show (q.1, q.2) ∈ L from hq)
      rw [e2] at hval ⊢
      show max q.2 x + opt m r w = O
      have h1 : max q.2 x + opt m r w ≤ O := hval
      rw [← c] at e
      omega
    · exact ⟨q, tGet_mem (by rw [tGet_put, if_neg c]; exact tGet_of h.keys (show (q.1, q.2) ∈ L from hq)), e⟩
  · show max ((tGet L w).getD 0) x + opt m r w = O
    omega
theorem len__law_spared : ∀ ws P, S__law_spared ws P → ws.length = 3 := fun ws P ⟨_, _, _, e, _⟩ => by rw [e]; rfl
theorem wp__law_spared : ∀ ws Q, S__law_spared ws Q → t__law_spared { nx := fun _ => Q (.fz .none), rt := Q } (enter N__law_spared ws) := by
  rintro ws Q ⟨A, k, m, rfl, hA, hk, hAk, hm, hm2, hq⟩
  have hl := hA.len
  unfold t__law_spared
  bv_omega
  refine ⟨by decide, rfl, rfl, ?_⟩
  rw [show putAll [(PyData.tuple [], PyData.int 0)] = tS [([], 0)] from rfl]
  unfold t__law_spared_8
  bv_omega
  have hdrop : ∀ {i p : Nat}, A[i]? = some p → A.drop i = p :: A.drop (i + 1) := fun {i p} h => by
    obtain ⟨h1, h2⟩ := List.getElem?_eq_some_iff.mp h
    rw [List.drop_eq_getElem_cons h1, h2]
  refine loopD_nat (fun i env => ∃ (L : List (List Nat × Nat)) (o : Bool) (x4 x5 x6 x7 x8 x9 x10 x11 x12 : Option W), (Tab m k (opt m A []) (A.drop i) L ∧ Att m (opt m A []) (A.drop i) L) ∧ env = [some (.fz (tD A)), some (.fz (lD (List.replicate k 1))), some (.fz (iD m)), some (.oth (dicO o (tS L))), x4, x5, x6, x7, x8, x9, x10, x11, x12]) ⟨[([], 0)], true, _, _, _, _, _, _, _, _, _, ⟨⟨by simp, fun q hq => ?_⟩, _, List.mem_singleton.mpr rfl, ?_⟩, rfl⟩ ?_ ?_
  · rw [List.mem_singleton.mp hq]
    exact ⟨List.nodup_nil, Nat.zero_le _, (fun _ h => nomatch h), .nil, by rw [List.drop_zero]; exact Nat.le_of_eq (Nat.zero_add _)⟩
  · rw [List.drop_zero]; exact Nat.zero_add _
  · rintro i p env N hp ⟨L, o, x4, x5, x6, x7, x8, x9, x10, x11, x12, ⟨hT, hAt⟩, rfl⟩ hN
    have hpk : p < k := hAk p (List.mem_of_getElem? hp)
    rw [hdrop hp] at hT hAt
    generalize hr : A.drop (i + 1) = r at *
    generalize hO : opt m A [] = O at *
    bv_omega
    unfold t__law_spared_6
    bv_omega
    have ek : (tS L).map (fun x => x.1) = L.map fun q => tD q.1 := by rw [show tS L = L.map fun q => (tD q.1, iD q.2) from rfl, List.map_map]; rfl
    rw [ek]
    refine ⟨fun z => z.elim, loopD_A (fun q : List Nat × Nat => tD q.1) (fun j env => ∃ (T2 : List (List Nat × Nat)) (x6 x7 x8 x9 x10 x11 x12 : Option W), (Tab m k O r T2 ∧ ∀ q ∈ L.take j, q.2 + opt m (p :: r) q.1 = O → Att m O r T2) ∧ env = [some (.fz (tD A)), some (.fz (lD (List.replicate k 1))), some (.fz (iD m)), some (.oth (dicO false (tS L))), some (.fz (iD p)), some (.oth (dicO true (tS T2))), x6, x7, x8, x9, x10, x11, x12]) ⟨[], _, _, _, _, _, _, _, ⟨⟨List.nodup_nil, (fun _ h => nomatch h)⟩, by simp⟩, rfl⟩ ?_ ?_⟩
    · rintro j q env N2 hj ⟨T2, x6, x7, x8, x9, x10, x11, x12, ⟨hT2, hA2⟩, rfl⟩ hN2
      have hqL := List.mem_of_getElem? hj
      obtain ⟨s1, s2, s3, s4, s5⟩ := hT.ok q hqL
      have hget : dGetK (tS L) (tD q.1) = some (iD q.2) := by rw [getS, tGet_of hT.keys (show (q.1, q.2) ∈ L from hqL)]; rfl
      have hcost : L2.atI ((List.replicate k 1).map iD) (p : Int) = some (iD 1) := by
        rw [atI_natD, List.getElem?_map, List.getElem?_replicate, if_pos hpk]
        rfl
      bv_omega
      refine ⟨iD q.2, hget, ⟨rfl, flat_iDs q.1⟩, ?_⟩
      rw [any_iD]
      have h4 : t__law_spared_4 { nx := N2, rt := Q, bk := HoldS t__law_spared_5 { nx := N, rt := Q, bk := HoldS t__law_spared_7 { nx := fun x => Q (W.fz PyData.none), rt := Q } { }, ct := N } { }, ct := N2 } [some (.fz (tD A)), some (.fz (lD (List.replicate k 1))), some (.fz (iD m)), some (.oth (dicO false (tS L))), some (.fz (iD p)), some (.oth (dicO true (tS T2))), some (.fz (tD q.1)), some (.fz (iD (q.2 + hitV p q.1))), x8, x9, x10, x11, x12] := by
        obtain ⟨c1, c2⟩ := cands_ok (p := p) (r := r) hm s1 s2
        unfold t__law_spared_4
        bv_omega
        refine ⟨size_ok (by omega), compW_natF (fun x => !decide (x = p)) fzn (fun x hx M K h1 h2 => ?_) ?_⟩
        · bv_omega
          by_cases c : x = p
          · exact iteF (by simp [c]) (h2 (by simp [c]))
          · exact iteT (by simp; omega) (h1 (by simp [c]))
        rw [show q.1.filter (fun x => !decide (x = p)) = rests p q.1 from rfl]
        bv_omega
        have h3 : ∀ x9 x10 x11 x12 : Option W, loopD (gNam 10) (dSeq (dSet 11 (dTuple (aCons (dLook (dCall gSortedA (aCons (dLook (dAdd (dSee 10) (dLook (dLst (wCons (dVar 4) wNil))))) aNil))) aNil))) t__law_spared_1) ((cands m p q.1).map lD)
            { nx := N2, rt := Q, bk := HoldS t__law_spared_5 { nx := N, rt := Q, bk := HoldS t__law_spared_7 { nx := fun x => Q (W.fz PyData.none), rt := Q } { }, ct := N } { }, ct := N2 }
            [some (.fz (tD A)), some (.fz (lD (List.replicate k 1))), some (.fz (iD m)), some (.oth (dicO false (tS L))), some (.fz (iD p)), some (.oth (dicO true (tS T2))), some (.fz (tD q.1)), some (.fz (iD (q.2 + hitV p q.1))), some (.fz (lD (rests p q.1))), x9, x10, x11, x12] := by
          intro x9 x10 x11 x12
          refine loopD_A lD (fun t env => ∃ (T3 : List (List Nat × Nat)) (x10 x11 : Option W), (Tab m k O r T3 ∧ (∀ q ∈ L.take j, q.2 + opt m (p :: r) q.1 = O → Att m O r T3) ∧ ∀ c ∈ (cands m p q.1).take t, (∀ w : List Nat, w.Perm (c ++ [p]) → hitV p q.1 + opt m r w = opt m (p :: r) q.1) → q.2 + opt m (p :: r) q.1 = O → Att m O r T3) ∧ env = [some (.fz (tD A)), some (.fz (lD (List.replicate k 1))), some (.fz (iD m)), some (.oth (dicO false (tS L))), some (.fz (iD p)), some (.oth (dicO true (tS T3))), some (.fz (tD q.1)), some (.fz (iD (q.2 + hitV p q.1))), some (.fz (lD (rests p q.1))), x9, x10, x11, x12]) ⟨T2, x10, x11, ⟨hT2, hA2, by simp⟩, rfl⟩ ?_ ?_
          · rintro t c env N3 ht ⟨T3, x10, x11, ⟨g1, g2, g3⟩, rfl⟩ hN3
            have hcm : c ∈ cands m p q.1 := List.mem_of_getElem? ht
            bv_omega
            have hcl : c.length ≤ 100 := by
              have := (c1 c hcm _ (List.Perm.refl _)).2.1
              rw [List.length_append] at this
              omega
            refine ⟨by decide, Nat.le_of_lt (size_ok (by omega)), _, (by rw [show c.map iD ++ [iD p] = (c ++ [p]).map iD by simp]; exact ints_iD _), fun ns k1 k2 => ?_⟩
            rw [srt_uniq k1 k2]
            have hwp := srt_perm (c ++ [p])
            obtain ⟨w1, w2, w3, w4⟩ := c1 c hcm _ hwp
            have hws : (srt (c ++ [p])).Pairwise (· < ·) := by
              refine (List.Pairwise.and (srt_sorted _) (List.nodup_iff_pairwise_ne.mp w1)).imp fun h => ?_
              have := h.1
              have := h.2
              omega
            have okw : Okw m k (srt (c ++ [p])) := ⟨w1, w2, fun x hx => (w3 x hx).elim (fun e => by rw [e]; exact hpk) (s3 x), hws⟩
            obtain ⟨t1, t2, t3⟩ := g1.put okw (x := q.2 + hitV p q.1) (by omega)
            have hfew := g1.few
            have h28 : 2 ^ k ≤ 2 ^ 8 := Nat.pow_le_pow_right (by decide) hk
            have ew : PyData.tuple (((srt (c ++ [p])).map fun (n : Nat) => (n : Int)).map PyData.int) = tD (srt (c ++ [p])) := by rw [List.map_map]; rfl
            rw [ew]
            generalize srt (c ++ [p]) = w at *
            unfold t__law_spared_1
            bv_omega
            have eg : (dGetK (tS T3) (tD w)).getD (PyData.int 0) = iD ((tGet T3 w).getD 0) := by
              rw [getS]
              cases tGet T3 w <;> rfl
            rw [eg]
            refine ⟨fitS T3 w, fitS T3 w, by rw [tabD_length, sizeLine_eq]; omega, ?_⟩
            have em : (if ((q.2 + hitV p q.1 : Nat) : Int) > (((tGet T3 w).getD 0 : Nat) : Int) then ((q.2 + hitV p q.1 : Nat) : Int) else (((tGet T3 w).getD 0 : Nat) : Int)) = ((max ((tGet T3 w).getD 0) (q.2 + hitV p q.1) : Nat) : Int) := by split <;> omega
            rw [em, show PyData.int ((max ((tGet T3 w).getD 0) (q.2 + hitV p q.1) : Nat) : Int) = iD (max ((tGet T3 w).getD 0) (q.2 + hitV p q.1)) from rfl, putS]
            refine hN3 _ ⟨_, _, _, ⟨t1, fun q' hq' e => t2 (g2 q' hq' e), fun c' hc' heq e => ?_⟩, rfl⟩
            rw [List.take_add_one, ht] at hc'
            rcases List.mem_append.mp hc' with h | h
            · exact t2 (g3 c' h heq e)
            · have e2 : c' = c := by simpa using h
              rw [e2] at heq
              have := heq w hwp
              exact t3 (by omega)
          · rintro env ⟨T3, x10, x11, ⟨g1, g2, g3⟩, rfl⟩
            rw [List.take_length] at g3
            refine hN2 _ ⟨T3, _, _, _, _, _, _, _, ⟨g1, fun q' hq' e => ?_⟩, rfl⟩
            rw [List.take_add_one, hj] at hq'
            rcases List.mem_append.mp hq' with h | h
            · exact g2 q' h e
            · have e2 : q' = q := by simpa using h
              rw [e2] at e
              obtain ⟨c, hc, h⟩ := c2
              exact g3 c hc h e
        unfold t__law_spared_3
        bv_omega
        have lr : (rests p q.1).length ≤ q.1.length := List.length_filter_le _ _
        by_cases hlr : (rests p q.1).length < m
        · refine iteT (decide_eq_true (by omega)) ⟨by decide, ?_⟩
          unfold t__law_spared_2
          bv_omega
          have hc : cands m p q.1 = [rests p q.1] := by unfold cands; rw [if_pos hlr]
          rw [hc] at h3
          exact h3 _ _ _ _
        · refine iteF (decide_eq_false (by omega)) ⟨by omega, by omega, ?_⟩
          rw [Int.toNat_natCast, items2_0]
          refine ⟨size_ok (by rw [List.length_map, List.length_range]; omega), compW_nat (fun i => .own (((rests p q.1).take i ++ (rests p q.1).drop (i + 1)).map fzn)) (fun x hx M K h => ?_) ?_⟩
          · have hx2 := List.mem_range.mp hx
            bv_omega
            have e6 : cutL ((rests p q.1).map iD) none (some (x : Int)) ++ cutL ((rests p q.1).map iD) (some ((x : Int) + 1)) none = ((rests p q.1).take x ++ (rests p q.1).drop (x + 1)).map iD := by
              rw [cut_to, show (x : Int) + 1 = ((x + 1 : Nat) : Int) from rfl, cut_from, List.map_append, List.map_take, List.map_drop]
            have e7 := congrArg List.length e6
            rw [List.length_append] at e7
            rw [e6, e7]
            refine ⟨Nat.le_of_lt (size_ok (by rw [List.length_map, List.length_append, List.length_take, List.length_drop]; omega)), ?_⟩
            rw [List.map_map]
            exact h
          · bv_omega
            unfold t__law_spared_2
            bv_omega
            refine ⟨plains_own (fun i => (rests p q.1).take i ++ (rests p q.1).drop (i + 1)) _, ?_⟩
            rw [datas_own (fun i => (rests p q.1).take i ++ (rests p q.1).drop (i + 1))]
            have hc : (List.range (rests p q.1).length).map (fun i => lD ((rests p q.1).take i ++ (rests p q.1).drop (i + 1))) = (cands m p q.1).map lD := by unfold cands; rw [if_neg hlr, List.map_map]; rfl
            rw [hc]
            exact h3 _ _ _ _
      unfold hitV at h4
      by_cases hc : p ∈ q.1
      · rw [if_pos hc] at h4
        exact iteT (decide_eq_true hc) ⟨_, hcost, h4⟩
      · rw [if_neg hc] at h4
        exact iteF (decide_eq_false hc) h4
    · rintro env ⟨T2, x6, x7, x8, x9, x10, x11, x12, ⟨hT2, hA2⟩, rfl⟩
      rw [List.take_length] at hA2
      bv_omega
      unfold t__law_spared_5
      bv_omega
      obtain ⟨q0, hq0, e0⟩ := hAt
      exact ⟨rfl, hN _ ⟨T2, false, _, _, _, _, _, _, _, _, _, ⟨hT2, hA2 q0 hq0 e0⟩, rfl⟩⟩
  · rintro env ⟨L, o, x4, x5, x6, x7, x8, x9, x10, x11, x12, ⟨hT, hAt⟩, rfl⟩
    bv_omega
    unfold t__law_spared_7
    bv_omega
    have ek : (tS L).map (fun x => x.1) = L.map fun q => tD q.1 := by rw [show tS L = L.map fun q => (tD q.1, iD q.2) from rfl, List.map_map]; rfl
    have hfew := hT.few
    have h28 : 2 ^ k ≤ 2 ^ 8 := Nat.pow_le_pow_right (by decide) hk
    rw [ek, List.drop_length] at *
    refine ⟨fun _ => trivial, size_ok (by rw [tabD_length]; omega), compW_A (fun q : List Nat × Nat => tD q.1) (fun q => fzn q.2) (fun q hqL M K h => ?_) ?_⟩
    · bv_omega
      refine ⟨iD q.2, ?_, h⟩
      rw [getS, tGet_of hT.keys (show (q.1, q.2) ∈ L from hqL)]
      rfl
    · bv_omega
      have e8 : L.map (fun x => iD x.2) = (L.map (·.2)).map iD := by rw [List.map_map]; rfl
      rw [e8]
      obtain ⟨q0, hq0, eq0⟩ := hAt
      have v0 : q0.2 = opt m A [] := by simpa [opt] using eq0
      have m0 : ((q0.2 : Nat) : Int) ∈ (L.map (·.2)).map fun (n : Nat) => (n : Int) := List.mem_map.mpr ⟨q0.2, List.mem_map.mpr ⟨q0, hq0, rfl⟩, rfl⟩
      refine ⟨_, ints_iD _, List.length_pos_of_mem m0, fun y hy hmax => ?_⟩
      have h1 := hmax _ m0
      obtain ⟨z, hz, rfl⟩ := List.mem_map.mp hy
      obtain ⟨q1, hq1, rfl⟩ := List.mem_map.mp hz
      have h2 := (hT.ok q1 hq1).2.2.2.2
      have e9 : q1.2 = opt m A [] := by
        have : q1.2 + opt m [] q1.1 ≤ opt m A [] := h2
        rw [opt] at this
        omega
      rw [e9]
      exact hq
end K

set_option pp.maxSteps 3500
/-! kept lots; misses; asks drawn -/
namespace K
open PySem DL
local macro_rules
  | `(tactic| bv_omega) => `(tactic| simp -dsimp only [↓hold_app, ↓holdS_app, ↓dCallF_hold, ↓dRepr_hold, ↓dSeq_hold, ↓dComp_hold, ↓dComp2_hold, ↓dSet, ↓dC, ↓dLook, ↓dVar, ↓dSee, ↓dRead, ↓dOp2, ↓dCall, ↓dRet, ↓dRetN, ↓dRetOwn, ↓dIte, ↓dNext, ↓dBool, ↓dAnd, ↓dOr, ↓dNot, ↓dIf, ↓dAndV, ↓dOrV, ↓dNotV, ↓dNeg, ↓dChain, ↓dFor, ↓dYes, ↓dLst, ↓dTup, ↓dTupO, ↓dIxO, itW, ↓dPar, ↓setAll, ↓dApp, ↓dPut, ↓dPop, ↓dPop0, ↓dPopG, ↓dExt, ↓dExtA, ↓dSortedA, ↓gSortedA, ↓dReprI, ↓gReprI, ↓dFreeze, ↓dSettle, ↓dDrop, ↓dAsg, ↓dCut, ↓oNone, ↓oSome, ↓dRev, ↓dRevA, ↓dIsi, ↓dAppPop, ↓dAppAt, ↓dSeeAt, ↓dChainT3, ↓dPut2, ↓dDead, ↓dRaise, ↓dRetX, ↓dSetX, ↓dDropX, ↓dCallX, ↓dCallA, ↓dTryO, ↓dTryA, ↓dExAt, gsConsX, ↓dIsi2, ↓dSortedD, ↓gSortedD, ↓dSortSetT, ↓gSortSetT, ↓dKList, ↓dKSorted, EndsD.gone, ↓dSortedT, ↓gSortedT, ↓gInS, ↓gIndex, ↓isL, ↓isLT, ↓gInT, ↓dUpper, ↓dIndex, ↓iRange3, ↓gBs, ↓gIsN, ↓gNsA, ↓dLenSet, ↓wStar, ↓wStarR1, ↓wStarR2, ↓dSortSet, ↓dCount, ↓gCount, ↓gSortSet, ↓gLenSet, ↓dLenSc, ↓dShr, ↓dJoin, ↓dIn, ↓dNotIn, ↓gIn, ↓gIx, ↓gAdd, ↓gMul, ↓gMulA, ↓gMulB, ↓gLen, ↓gU, ↓gB, ↓gI, cT, ↓gOrd, ↓gEq, ↓gTuple, ↓gList, ↓gCut, ↓gJoin, ↓gNam, ↓gTp, ↓gCn, ↓gNl, dicA, dicV_dic, ↓dKGet, ↓dKIn, ↓dKGet2, ↓dKGet1, ↓dDictP, ↓gDictP, ↓iItemsD, ↓dKPop, ↓gMaxD, ↓dMaxD, ↓dKLen, ↓dKNew, ↓dKDisp, pNil, pCons, ↓dKPut, ↓dFreezeD, ↓iDic, ↓aNil, ↓aCons, ↓wNil, ↓wCons, gsNil, gsCons, ↓gArg, ↓pick, ↓iRange1, ↓iRange2, ↓iOver, ↓iEnumD, ↓iZipD, itemsD, ↓dScr, ↓dDeal, ↓enter, ↓wipeE, ↓dRg1, ↓dRg2, ↓gLrg, ↓gTrg, W.plain, W.plains, W.data, W.datas, W.nd, W.nds, W.nds_fz, W.flat, W.datas_fz, W.plains_fz, W.flat_fz, W.datas_fm, W.plains_fm, W.flat_fm, flat_fzn, plains_fzn, datas_fzn, nds_fzn, datas_fm2, plains_fm2, flat_fm2, nds_fm2,
  List.map_cons, List.map_nil, List.cons_append, List.nil_append, List.length_cons, List.length_nil, List.length_map, List.replicate, List.getElem?_cons_zero, List.getElem?_cons_succ, List.getElem?_nil, List.set_cons_zero, List.set_cons_succ, List.set_nil, List.filterMap_cons, List.filterMap_nil, List.take_succ_cons, Nat.reduceSub, Nat.reduceAdd, Nat.reduceLeDiff, true_and, and_true, if_true, Bool.false_eq_true, if_false, reduceCtorEq, Bool.false_xor, Bool.true_xor, Bool.xor_false, Bool.not_true, Bool.not_false, Bool.and_true, Bool.true_and, Bool.and_false, Bool.false_and, Option.map_some, Option.map_none])
theorem len_fewest_misses : ∀ ws P, S_fewest_misses ws P → ws.length = 2 := fun ws P ⟨_, _, e, _⟩ => by rw [e]; rfl
theorem wp_fewest_misses : ∀ ws Q, S_fewest_misses ws Q → t_fewest_misses { nx := fun _ => Q (.fz .none), rt := Q } (enter N_fewest_misses ws) := by
  rintro ws Q ⟨A, m, rfl, hA, hm, hm2, hq⟩
  have hl := hA.len
  unfold t_fewest_misses
  bv_omega
  refine ⟨A, m, rfl, hA, hm, hm2, fun R f hR => ?_⟩
  bv_omega
  have := hq R f hR
  rw [(Rule.run hm (Nat.le_refl _) hR).kp_perm.length_eq] at this
  exact this
theorem cutL_map (B : List Nat) (a b : Option Int) : cutL (B.map iD) a b = (cutL B a b).map iD := by
  unfold cutL
  simp [List.map_drop, List.map_take]
theorem cutL_sub (B : List Nat) (a b : Option Int) : (cutL B a b).Sublist B := by
  unfold cutL
  first | exact (List.drop_sublist _ _).trans (List.take_sublist _ _) | exact (List.take_sublist _ _).trans (List.drop_sublist _ _)
theorem len__law_asks : ∀ ws P, S__law_asks ws P → ws.length = 3 := fun ws P ⟨_, _, e, _⟩ => by rw [e]; rfl
theorem wp__law_asks : ∀ ws Q, S__law_asks ws Q → t__law_asks { nx := fun _ => Q (.fz .none), rt := Q } (enter N__law_asks ws) := by
  rintro ws Q ⟨most, pages, rfl, h1, h2, h3, hq⟩
  unfold t__law_asks
  bv_omega
  unfold t__law_asks_3
  bv_omega
  refine ⟨by decide, (most : Int) + 1, rfl, by omega, by omega, fun n n0 n1 => ?_⟩
  obtain ⟨n, rfl⟩ := Int.eq_ofNat_of_zero_le n0
  bv_omega
  refine ⟨by omega, by omega, ?_⟩
  rw [Int.toNat_natCast, items2_0]
  refine loopD_range (fun i env => ∃ (B : List Nat) (x4 x5 : Option W), (B.length = i ∧ ∀ x ∈ B, x < pages) ∧ env = [some .deal, some (.fz (iD most)), some (.fz (iD pages)), some (.own (B.map fzn)), x4, x5]) ⟨[], _, _, ⟨rfl, (fun _ h => nomatch h)⟩, rfl⟩ ?_ ?_
  · rintro i env N hi ⟨B, x4, x5, ⟨hB, hBp⟩, rfl⟩ hN
    bv_omega
    refine ⟨4, rfl, by decide, by decide, fun y y0 y1 => ?_⟩
    bv_omega
    have nxt : ∀ C : List Nat, (∀ x ∈ C, x < pages) → C.length ≤ 1000 → t__law_asks_1 { nx := N, rt := Q, bk := HoldS t__law_asks_2 { nx := fun x => Q (W.fz PyData.none), rt := Q } { }, ct := N } [some .deal, some (.fz (iD most)), some (.fz (iD pages)), some (.own (B.map fzn)), some (.fz (iD i)), some (.own (C.map fzn))] := by
      intro C hC hCl
      have fin : ∀ x : Nat, x < pages → N [some .deal, some (.fz (iD most)), some (.fz (iD pages)), some (.own (B.map fzn ++ [fzn x])), some (.fz (iD i)), some (.fz (lD C))] := fun x hx => by
        have h := hN [some .deal, some (.fz (iD most)), some (.fz (iD pages)), some (.own ((B ++ [x]).map fzn)), some (.fz (iD i)), some (.fz (lD C))] ⟨B ++ [x], _, _, ⟨by rw [List.length_append, hB]; rfl, fun z hz => (List.mem_append.mp hz).elim (hBp z) fun e => by rw [List.mem_singleton.mp e]; exact hx⟩, rfl⟩
        rw [List.map_append] at h
        exact h
      unfold t__law_asks_1
      bv_omega
      refine ⟨size_ok (by omega), by decide, shaped_iD C, by decide, ?_⟩
      cases C with
      | nil =>
        refine iteF (by simp [PyData.eqv, PyData.eqvAll]) ⟨pages, rfl, by omega, by omega, fun x x0 x1 => ?_⟩
        obtain ⟨x, rfl⟩ := Int.eq_ofNat_of_zero_le x0
        bv_omega
        exact fin x (by omega)
      | cons c C =>
        refine iteT (by simp [PyData.eqv, PyData.eqvAll]) ⟨(c :: C).map iD, rfl, by simp, by rw [List.length_map]; omega, fun d hd => ?_⟩
        obtain ⟨x, hx, rfl⟩ := List.mem_map.mp hd
        bv_omega
        exact fin x (hC x hx)
    by_cases hy : y = 0
    · refine iteT (decide_eq_true hy) ?_
      rw [cutL_map, List.map_map]
      have hs := cutL_sub B (some (-3)) none
      exact nxt _ (fun x hx => hBp x (hs.subset hx)) (Nat.le_trans hs.length_le (by omega))
    · exact iteF (decide_eq_false hy) ⟨by decide, nxt [] (fun _ h => nomatch h) (by decide)⟩
  · rintro env ⟨B, x4, x5, ⟨hB, hBp⟩, rfl⟩
    bv_omega
    unfold t__law_asks_2
    bv_omega
    exact hq B (by omega) hBp
theorem len_hits_by_rooms : ∀ ws P, S_hits_by_rooms ws P → ws.length = 2 := fun ws P ⟨_, _, e, _⟩ => by rw [e]; rfl
theorem wp_hits_by_rooms : ∀ ws Q, S_hits_by_rooms ws Q → t_hits_by_rooms { nx := fun _ => Q (.fz .none), rt := Q } (enter N_hits_by_rooms ws) := by
  rintro ws Q ⟨A, most, rfl, hA, hmost, hq⟩
  have hl := hA.len
  unfold t_hits_by_rooms
  bv_omega
  have e1 : ((most : Int) + 1 - 1).toNat = most := by omega
  have e2 : items2 1 most = ((List.range most).map fun i => i + 1).map iD := by
    rw [show (1 : Int) = ((1 : Nat) : Int) from rfl, items2_n]
    congr 1
    exact List.map_congr_left fun i _ => Nat.add_comm 1 i
  rw [e1, e2]
  refine ⟨⟨by decide, by decide, by omega, by omega⟩, size_ok (by rw [List.length_map, List.length_map, List.length_range]; omega), compW_nat (fun m => fzn (opt m A [])) (fun m hm M K h => ?_) ?_⟩
  · obtain ⟨i, hi, rfl⟩ := List.mem_map.mp hm
    have hi' := List.mem_range.mp hi
    bv_omega
    refine ⟨A, i + 1, rfl, hA, by omega, by omega, fun R f hR => ?_⟩
    have run := Rule.run (m := i + 1) (by omega) (Nat.le_refl _) hR
    bv_omega
    have e3 : (kp A f).length = opt (i + 1) A [] := by rw [← run.kp_perm.length_eq]; exact run.most
    rw [e3]
    exact h
  · rw [List.map_map]
    bv_omega
    have ed : (List.range most).map ((fun m => fzn (opt m A [])) ∘ fun i => i + 1) = ((List.range most).map fun i => opt (i + 1) A []).map fzn := by rw [List.map_map]; rfl
    rw [ed]
    exact ⟨plains_fzn _, by rw [datas_fzn]; exact hq⟩
end K

set_option pp.maxSteps 3500
/-! the law -/
namespace K
open PySem DL
local macro_rules
  | `(tactic| bv_omega) => `(tactic| simp -dsimp only [↓hold_app, ↓holdS_app, ↓dCallF_hold, ↓dRepr_hold, ↓dSeq_hold, ↓dComp_hold, ↓dComp2_hold, ↓dSet, ↓dC, ↓dLook, ↓dVar, ↓dSee, ↓dRead, ↓dOp2, ↓dCall, ↓dRet, ↓dRetN, ↓dRetOwn, ↓dIte, ↓dNext, ↓dBool, ↓dAnd, ↓dOr, ↓dNot, ↓dIf, ↓dAndV, ↓dOrV, ↓dNotV, ↓dNeg, ↓dChain, ↓dFor, ↓dYes, ↓dLst, ↓dTup, ↓dTupO, ↓dIxO, itW, ↓dPar, ↓setAll, ↓dApp, ↓dPut, ↓dPop, ↓dPop0, ↓dPopG, ↓dExt, ↓dExtA, ↓dSortedA, ↓gSortedA, ↓dReprI, ↓gReprI, ↓dFreeze, ↓dSettle, ↓dDrop, ↓dAsg, ↓dCut, ↓oNone, ↓oSome, ↓dRev, ↓dRevA, ↓dIsi, ↓dAppPop, ↓dAppAt, ↓dSeeAt, ↓dChainT3, ↓dPut2, ↓dDead, ↓dRaise, ↓dRetX, ↓dSetX, ↓dDropX, ↓dCallX, ↓dCallA, ↓dTryO, ↓dTryA, ↓dExAt, gsConsX, ↓dIsi2, ↓dSortedD, ↓gSortedD, ↓dSortSetT, ↓gSortSetT, ↓dKList, ↓dKSorted, EndsD.gone, ↓dSortedT, ↓gSortedT, ↓gInS, ↓gIndex, ↓isL, ↓isLT, ↓gInT, ↓dUpper, ↓dIndex, ↓iRange3, ↓gBs, ↓gIsN, ↓gNsA, ↓dLenSet, ↓wStar, ↓wStarR1, ↓wStarR2, ↓dSortSet, ↓dCount, ↓gCount, ↓gSortSet, ↓gLenSet, ↓dLenSc, ↓dShr, ↓dJoin, ↓dIn, ↓dNotIn, ↓gIn, ↓gIx, ↓gAdd, ↓gMul, ↓gMulA, ↓gMulB, ↓gLen, ↓gU, ↓gB, ↓gI, cT, ↓gOrd, ↓gEq, ↓gTuple, ↓gList, ↓gCut, ↓gJoin, ↓gNam, ↓gTp, ↓gCn, ↓gNl, dicA, dicV_dic, ↓dKGet, ↓dKIn, ↓dKGet2, ↓dKGet1, ↓dDictP, ↓gDictP, ↓iItemsD, ↓dKPop, ↓gMaxD, ↓dMaxD, ↓dKLen, ↓dKNew, ↓dKDisp, pNil, pCons, ↓dKPut, ↓dFreezeD, ↓iDic, ↓aNil, ↓aCons, ↓wNil, ↓wCons, gsNil, gsCons, ↓gArg, ↓pick, ↓iRange1, ↓iRange2, ↓iOver, ↓iEnumD, ↓iZipD, itemsD, ↓dScr, ↓dDeal, ↓enter, ↓wipeE, ↓dRg1, ↓dRg2, ↓gLrg, ↓gTrg, W.plain, W.plains, W.data, W.datas, W.nd, W.nds, W.nds_fz, W.flat, W.datas_fz, W.plains_fz, W.flat_fz, W.datas_fm, W.plains_fm, W.flat_fm, flat_fzn, plains_fzn, datas_fzn, nds_fzn, datas_fm2, plains_fm2, flat_fm2, nds_fm2,
  List.map_cons, List.map_nil, List.cons_append, List.nil_append, List.length_cons, List.length_nil, List.length_map, List.replicate, List.getElem?_cons_zero, List.getElem?_cons_succ, List.getElem?_nil, List.set_cons_zero, List.set_cons_succ, List.set_nil, List.filterMap_cons, List.filterMap_nil, List.take_succ_cons, Nat.reduceSub, Nat.reduceAdd, Nat.reduceLeDiff, true_and, and_true, if_true, Bool.false_eq_true, if_false, reduceCtorEq, Bool.false_xor, Bool.true_xor, Bool.xor_false, Bool.not_true, Bool.not_false, Bool.and_true, Bool.true_and, Bool.and_false, Bool.false_and, Option.map_some, Option.map_none])
/-- what a room more brings -/
def win (A : List Nat) (i : Nat) : Nat := opt (i + 2) A [] - opt (i + 1) A []
theorem win_anti {A : List Nat} {i j : Nat} (h : i ≤ j) : win A j ≤ win A i := by
  induction h with
  | refl => exact Nat.le_refl _
  | @step j _ ih =>
    refine Nat.le_trans ?_ ih
    have h1 := opt_conc (A := A) (m := j + 1) (by omega)
    have h2 := opt_mono (A := A) (m := j + 1) (by omega)
    have h3 := opt_mono (A := A) (m := j + 2) (by omega)
    unfold win
    show opt (j + 1 + 2) A [] - opt (j + 1 + 1) A [] ≤ opt (j + 2) A [] - opt (j + 1) A []
    have e1 : opt (j + 1 + 2) A [] = opt (j + 2 + 1) A [] := rfl
    have e2 : opt (j + 1 + 1) A [] = opt (j + 2) A [] := rfl
    rw [e2] at h1 h2 ⊢
    rw [e1] at h1 ⊢
    omega
abbrev Ev (x2 x3 x4 x5 x6 x7 x8 x9 x10 x11 x12 x13 x14 x15 x16 x17 : Option W) : DL.Env := [none, some .deal, x2, x3, x4, x5, x6, x7, x8, x9, x10, x11, x12, x13, x14, x15, x16, x17]
theorem len_law : ∀ ws P, S_law ws P → ws.length = 1 := fun ws P ⟨ns, e, _⟩ => by rw [e]; rfl
theorem wp_law : ∀ ws Q, S_law ws Q → t_law { nx := fun _ => Q (.fz .none), rt := Q } (enter N_law ws) := by
  rintro ws Q ⟨ns, rfl, hns, hq⟩
  unfold t_law
  bv_omega
  refine ⟨ns, 37, rfl, by decide, by decide, fun cells b hc b0 b1 => ?_⟩
  bv_omega
  unfold t_law_16
  bv_omega
  refine ⟨⟨cells, rfl, Nat.le_trans hc (by decide), b0, b1⟩, fun j w hj hw => ?_, by decide, by decide, ?_⟩
  · match j, hj, hw with
    | 1, _, hw => cases hw; simp only [W.nd, W.nds, W.nds_fz, Bool.and_true]
    | j + 2, _, hw => exact (replicate_none (n := 16) (j := j) hw).elim
  rw [show (Int.toNat 3) = 3 from rfl, items2_0]
  refine loopD_range (fun i env => ∃ x2 x3 x4 x5 x6 x7 x8 x9 x10 x11 x12 x13 x14 x15 x16 x17 : Option W, env = Ev x2 x3 x4 x5 x6 x7 x8 x9 x10 x11 x12 x13 x14 x15 x16 x17) ⟨_, _, _, _, _, _, _, _, _, _, _, _, _, _, _, _, rfl⟩ ?_ ?_
  · rintro i env N hi ⟨x2, x3, x4, x5, x6, x7, x8, x9, x10, x11, x12, x13, x14, x15, x16, x17, rfl⟩ hN
    have hN' : ∀ x2 x3 x4 x5 x6 x7 x8 x9 x10 x11 x12 x13 x14 x15 x16 x17, N (Ev x2 x3 x4 x5 x6 x7 x8 x9 x10 x11 x12 x13 x14 x15 x16 x17) := fun _ _ _ _ _ _ _ _ _ _ _ _ _ _ _ _ => hN _ ⟨_, _, _, _, _, _, _, _, _, _, _, _, _, _, _, _, rfl⟩
    bv_omega
    refine ⟨6, rfl, by decide, by decide, fun a a0 a1 => ?_⟩
    obtain ⟨a, rfl⟩ := Int.eq_ofNat_of_zero_le a0
    bv_omega
    have ep : (1 : Int) + (a : Int) = ((1 + a : Nat) : Int) := by omega
    rw [ep]
    have hp1 : 1 ≤ 1 + a := by omega
    have hp2 : 1 + a ≤ 6 := by omega
    generalize 1 + a = pages at *
    unfold t_law_14
    bv_omega
    refine ⟨16, pages, rfl, by decide, hp1, by omega, fun A hAl hAp => ?_⟩
    have hA : Ask A := ⟨by omega, fun x hx => by have := hAp x hx; omega⟩
    bv_omega
    refine ⟨6, rfl, by decide, by decide, fun c c0 c1 => ?_⟩
    obtain ⟨c, rfl⟩ := Int.eq_ofNat_of_zero_le c0
    bv_omega
    have em : (1 : Int) + (c : Int) = ((1 + c : Nat) : Int) := by omega
    rw [em]
    have hm1 : 1 ≤ 1 + c := by omega
    have hm2 : 1 + c ≤ 6 := by omega
    generalize 1 + c = most at *
    unfold t_law_13
    bv_omega
    have e1 : ((most : Int) + 1 - 1).toNat = most := by omega
    have e2 : items2 1 most = ((List.range most).map fun i => i + 1).map iD := by
      rw [show (1 : Int) = ((1 : Nat) : Int) from rfl, items2_n]
      congr 1
      exact List.map_congr_left fun i _ => Nat.add_comm 1 i
    rw [e1, e2]
    refine ⟨⟨by decide, by decide, by omega, by omega⟩, size_ok (by rw [List.length_map, List.length_map, List.length_range]; omega), compW_nat (fun m => fzn (opt m A [])) (fun m hm M K h => ?_) ?_⟩
    · obtain ⟨i, hi, rfl⟩ := List.mem_map.mp hm
      have hi' := List.mem_range.mp hi
      bv_omega
      refine ⟨by decide, ⟨by decide, by decide, by decide⟩, A, 7, i + 1, rfl, hA, by decide, (fun x hx => by have := hAp x hx; omega), by omega, by omega, ?_⟩
      bv_omega
      exact h
    rw [List.map_map]
    have ed : (List.range most).map ((fun m => fzn (opt m A [])) ∘ fun i => i + 1) = ((List.range most).map fun i => opt (i + 1) A []).map fzn := by rw [List.map_map]; rfl
    rw [ed]
    have hDl : ((List.range most).map fun i => opt (i + 1) A []).length = most := by rw [List.length_map, List.length_range]
    have hDg : ∀ i, i < most → ((List.range most).map fun i => opt (i + 1) A [])[i]? = some (opt (i + 1) A []) := fun i hi => by rw [List.getElem?_map, List.getElem?_range hi]; rfl
    have hDb : ∀ x ∈ (List.range most).map fun i => opt (i + 1) A [], x < 10 ^ 12 := fun x hx => by
      obtain ⟨i, _, rfl⟩ := List.mem_map.mp hx
      obtain ⟨L, hL, e⟩ := lot_ex (A := A) (m := i + 1) (by omega)
      have := nd_lenL hL.nd fun p hp => mem_stre.mpr (hL.st p hp)
      have := stre_few hA.len
      omega
    generalize hD : (List.range most).map (fun i => opt (i + 1) A []) = D0 at *
    have sD : Sml (10 * 15 + 3) 1 (tD D0) := Sml.tD hDb (by omega)
    unfold t_law_12
    bv_omega
    refine ⟨A, most, rfl, hA, by omega, ?_⟩
    rw [hD]
    bv_omega
    try unfold gRepr
    refine ⟨sD.repr, ?_⟩
    try bv_omega
    try unfold gRepr
    refine ⟨sD.repr, ?_⟩
    try bv_omega
    refine iteF (by simp) ?_
    refine ⟨A, most, rfl, hA, by omega, ?_⟩
    rw [hD]
    bv_omega
    try unfold gRepr
    refine ⟨sD.repr, ?_⟩
    try bv_omega
    try unfold gRepr
    refine ⟨sD.repr, ?_⟩
    try bv_omega
    refine iteF (by simp) ?_
    unfold t_law_11
    bv_omega
    have el : ((D0.length : Int) - 1).toNat = most - 1 := by omega
    rw [el, items2_0]
    refine ⟨by omega, by omega, size_ok (by rw [List.length_map, List.length_range]; omega), compW_nat (fun i => fzn (win A i)) (fun x hx M K h => ?_) ?_⟩
    · have hx' := List.mem_range.mp hx
      bv_omega
      have g1 : L2.atI (D0.map iD) ((x : Int) + 1) = some (iD (opt (x + 2) A [])) := by
        rw [show (x : Int) + 1 = ((x + 1 : Nat) : Int) from rfl, atI_natD, List.getElem?_map, hDg (x + 1) (by omega)]
        rfl
      have g2 : L2.atI (D0.map iD) (x : Int) = some (iD (opt (x + 1) A [])) := by
        rw [atI_natD, List.getElem?_map, hDg x (by omega)]
        rfl
      refine ⟨_, g1, _, g2, ?_⟩
      have hmono := opt_mono (A := A) (m := x + 1) (by omega)
      have e3 : PyData.int ((opt (x + 2) A [] : Int) - (opt (x + 1) A [] : Int)) = iD (win A x) := by
        unfold win iD
        congr 1
        have : opt (x + 1) A [] ≤ opt (x + 2) A [] := hmono
        omega
      show M (.fz (PyData.int ((opt (x + 2) A [] : Int) - (opt (x + 1) A [] : Int))))
      rw [e3]
      exact h
    have hWs : ((List.range (most - 1)).map (win A)).Pairwise (· ≥ ·) := List.pairwise_map.mpr (List.pairwise_lt_range.imp fun h => win_anti (Nat.le_of_lt h))
    have hWl : ((List.range (most - 1)).map (win A)).length ≤ 10 := by rw [List.length_map, List.length_range]; omega
    have hWe : (List.range (most - 1)).map (fun i => fzn (win A i)) = ((List.range (most - 1)).map (win A)).map fzn := by rw [List.map_map]; rfl
    have hWb : ∀ x ∈ (List.range (most - 1)).map (win A), x < 10 ^ 12 := fun x hx => by
      obtain ⟨i, hi, rfl⟩ := List.mem_map.mp hx
      have hi' := List.mem_range.mp hi
      have := hDb _ (List.mem_of_getElem? (hDg (i + 1) (by omega)))
      have h2 : opt (i + 1 + 1) A [] < 10 ^ 12 := this
      unfold win
      show opt (i + 1 + 1) A [] - _ < _
      omega
    rw [hWe]
    generalize (List.range (most - 1)).map (win A) = WN at *
    unfold t_law_10
    bv_omega
    refine ⟨_, ints_iD WN, fun ns' k1 k2 => ?_⟩
    have en : ns' = WN.reverse.map fun (n : Nat) => (n : Int) := List.Perm.eq_of_pairwise (le := fun a b : Int => a ≤ b) (fun a b _ _ h1 h2 => Int.le_antisymm h1 h2) k2 (List.pairwise_map.mpr ((List.pairwise_reverse.mpr hWs).imp fun h => by omega)) (k1.trans ((List.reverse_perm WN).symm.map _))
    have er : (ns'.map PyData.int).reverse = WN.map iD := by
      rw [en, List.map_map, ← List.map_reverse, List.reverse_reverse]
      rfl
    rw [er]
    have sW : Sml (10 * 15 + 3) 1 (lD WN) := Sml.lD hWb hWl
    refine ⟨sW.shaped, sW.shaped, iteF (by rw [eqv_refl _ sW.ly]; rfl) ⟨size_ok (by omega), compW_natF (fun _ => true) fzn (fun x hx M K h1 h2 => ?_) ?_⟩⟩
    · bv_omega
      exact iteT (decide_eq_true (Int.natCast_nonneg x)) (h1 rfl)
    rw [List.filter_eq_self.mpr fun _ _ => rfl]
    bv_omega
    refine ⟨sW.shaped, sW.shaped, iteF (by rw [eqv_refl _ sW.ly]; rfl) ?_⟩
    unfold t_law_9
    bv_omega
    refine ⟨A, rfl, hA, ?_⟩
    bv_omega
    unfold t_law_8
    bv_omega
    have hsf := stre_few hA.len
    have g0 : L2.atI (D0.map iD) 0 = some (iD (opt 1 A [])) := by
      show L2.atI (D0.map iD) ((0 : Nat) : Int) = _
      rw [atI_natD, List.getElem?_map, hDg 0 (by omega)]
      rfl
    have gl : L2.atI (D0.map iD) (-1) = some (iD (opt most A [])) := by
      rw [atI_last, List.length_map, List.getElem?_map, hDl, hDg (most - 1) (by omega)]
      show some (iD (opt (most - 1 + 1) A [])) = _
      rw [Nat.sub_add_cancel hm1]
    refine ⟨_, g0, size_ok (by omega), compW_AF pD (fun p => decide (p.2 = p.1 + 1)) (fun p => .fz (pD p)) (fun p hp M K h1 h2 => ?_) ?_⟩
    · bv_omega
      refine ⟨_, at1, _, at0, ?_⟩
      show if decide ((p.2 : Int) = (p.1 : Int) + 1) = true then M (.fz (pD p)) else K
      by_cases c : p.2 = p.1 + 1
      · exact iteT (decide_eq_true (by omega)) (h1 (decide_eq_true c))
      · exact iteF (decide_eq_false (by omega)) (h2 (decide_eq_false c))
    bv_omega
    have l1 := opt_one (A := A)
    rw [← l1]
    have h7 : t_law_7 { nx := N, rt := Q, bk := HoldS t_law_15 { nx := fun x => Q (W.fz PyData.none), rt := Q } { }, ct := N } [none, some W.deal, some (W.fz (iD i)), some (W.fz (PyData.int pages)), some (W.fz (tD A)), some (W.fz (PyData.int most)), some (W.own (List.map fzn D0)), some (W.own (List.map fzn WN)), some (W.own (List.map (fun p => W.fz (pD p)) (stre A))), x9, x10, x11, x12, x13, x14, x15, x16, x17] := by
      unfold t_law_7
      bv_omega
      have e5 : items2 0 ((pages : Int) + 3 - 0).toNat = (List.range (pages + 3)).map iD := by rw [show ((pages : Int) + 3 - 0).toNat = pages + 3 by omega, items2_0]
      rw [e5]
      refine ⟨L2.RgOk.of_le (by omega) (by omega) (by omega) (by omega), (List.range (pages + 3)).map iD, rfl, by rw [List.length_map, List.length_range]; omega, shaped_iD _, fun es hes => ?_⟩
      obtain ⟨nm, rfl, pn⟩ := perm_mapD hes
      have nml : nm.length = pages + 3 := by rw [pn.length_eq, List.length_range]
      have nmn : nm.Nodup := pn.nodup_iff.mpr List.nodup_range
      have nmb : ∀ x ∈ nm, x < pages + 3 := fun x hx => List.mem_range.mp (pn.mem_iff.mp hx)
      have at_nm : ∀ x, x < pages → L2.atI (nm.map iD) (x : Int) = some (iD (nm.getD x 0)) := fun x hx => by
        rw [atI_natD, List.getElem?_map, List.getD_eq_getElem?_getD, List.getElem?_eq_getElem (by omega)]
        rfl
      bv_omega
      unfold t_law_6
      bv_omega
      refine ⟨size_ok (by omega), compW_nat (fun x => fzn (nm.getD x 0)) (fun x hx M K h => ?_) ?_⟩
      · bv_omega
        exact ⟨_, at_nm x (hAp x hx), h⟩
      have em2 : A.map (fun x => fzn (nm.getD x 0)) = (A.map fun x => nm.getD x 0).map fzn := by rw [List.map_map]; rfl
      rw [em2]
      have hnb : ∀ x, x < pages → nm.getD x 0 < 9 := fun x hx => by
        rw [List.getD_eq_getElem?_getD, List.getElem?_eq_getElem (by omega)]
        have := nmb _ (List.getElem_mem (l := nm) (n := x) (by omega))
        show nm[x]'(by omega) < 9
        omega
      have hAk : ∀ i, i < A.length → pg A i < pages := fun i hi => hAp _ (by
        unfold pg
        rw [List.getD_eq_getElem?_getD, List.getElem?_eq_getElem hi]
        exact List.getElem_mem hi)
      have hren : ∀ m, 1 ≤ m → opt m (A.map fun x => nm.getD x 0) [] = opt m A [] := fun m hm => opt_ren hm _ fun i j hi hj e => by
        have a1 := hAk i hi
        have a2 := hAk j hj
        rw [List.getD_eq_getElem?_getD, List.getD_eq_getElem?_getD, List.getElem?_eq_getElem (by omega), List.getElem?_eq_getElem (by omega)] at e
        exact (List.getElem_inj nmn).mp e
      have hO : Ask (A.map fun x => nm.getD x 0) := ⟨by rw [List.length_map]; omega, fun y hy => by
        obtain ⟨x, hx, rfl⟩ := List.mem_map.mp hy
        have := hnb x (hAp x hx)
        omega⟩
      have hR : Ask A.reverse := ⟨by rw [List.length_reverse]; omega, fun y hy => hA.lt y (List.mem_reverse.mp hy)⟩
      have eO : (List.range most).map (fun i => opt (i + 1) (A.map fun x => nm.getD x 0) []) = D0 := by rw [← hD]; exact List.map_congr_left fun i _ => hren _ (by omega)
      have eR : (List.range most).map (fun i => opt (i + 1) A.reverse []) = D0 := by rw [← hD]; exact List.map_congr_left fun i _ => opt_rev (by omega)
      bv_omega
      unfold t_law_5
      bv_omega
      refine ⟨A.reverse, most, by rw [← List.map_reverse], hR, by omega, ?_⟩
      rw [eR]
      bv_omega
      refine ⟨sD.shaped, sD.shaped, iteF (by rw [eqv_refl _ sD.ly]; rfl) ?_⟩
      refine ⟨_, most, rfl, hO, by omega, ?_⟩
      rw [eO]
      bv_omega
      refine ⟨sD.shaped, sD.shaped, iteF (by rw [eqv_refl _ sD.ly]; rfl) ?_⟩
      unfold t_law_4
      bv_omega
      refine ⟨(A.length : Int) + 1, rfl, by omega, by omega, fun z z0 z1 => ?_⟩
      obtain ⟨z, rfl⟩ := Int.eq_ofNat_of_zero_le z0
      bv_omega
      refine ⟨most, rfl, by omega, by omega, fun u u0 u1 => ?_⟩
      obtain ⟨u, rfl⟩ := Int.eq_ofNat_of_zero_le u0
      bv_omega
      have eu : (1 : Int) + (u : Int) = ((1 + u : Nat) : Int) := by omega
      rw [eu]
      have hu1 : 1 ≤ 1 + u := by omega
      have hu2 : 1 + u ≤ most := by omega
      generalize 1 + u = m at *
      unfold t_law_3
      bv_omega
      refine ⟨(pages : Int) + 1, rfl, by omega, by omega, fun x x0 x1 => ?_⟩
      obtain ⟨x, rfl⟩ := Int.eq_ofNat_of_zero_le x0
      bv_omega
      have hz : z ≤ A.length := by omega
      have e6 : cutL (A.map iD) none (some (z : Int)) = (A.take z).map iD := by rw [cut_to, List.map_take]
      have e7 : cutL (A.map iD) (some (z : Int)) none = (A.drop z).map iD := by rw [cut_from, List.map_drop]
      rw [e6, e7]
      have e8 : (A.take z).map iD ++ [PyData.int (x : Int)] ++ (A.drop z).map iD = (insA A z x).map iD := by
        unfold insA
        rw [List.map_append, List.map_cons, List.append_assoc]
        rfl
      rw [e8]
      have bl := insA_len (A := A) (x := x) hz
      have hB7 : ∀ y ∈ insA A z x, y < 8 := fun y hy => by
        rcases List.mem_append.mp hy with e | e
        · have := hAp y (List.mem_of_mem_take e); omega
        · rcases List.mem_cons.mp e with e | e
          · omega
          · have := hAp y (List.mem_of_mem_drop e); omega
      have hB : Ask (insA A z x) := ⟨by omega, fun y hy => by have := hB7 y hy; omega⟩
      have up := ins_up (A := A) (x := x) hu1 hz
      have dn := ins_down (A := A) (x := x) hu1 hz
      have cB : opt m (insA A z x) [] ≤ (insA A z x).length := by
        obtain ⟨L, hL, e⟩ := lot_ex (A := insA A z x) hu1
        have := nd_len (a := L.map (·.1)) (b := List.range (insA A z x).length) (List.pairwise_map.mpr ((List.nodup_iff_pairwise_ne.mp hL.nd).imp_of_mem fun {p q} hp hq hne e2 => hne (by
          have s1 := hL.st p hp
          have s2 := hL.st q hq
          have e3 : p.1 = q.1 := e2
          rw [e3] at s1
          exact Prod.ext e3 (strc_uniq s1 s2)))) fun y hy => by
          obtain ⟨p, hp, rfl⟩ := List.mem_map.mp hy
          have := hL.st p hp
          exact List.mem_range.mpr (Nat.lt_trans this.lt this.ln)
        rw [List.length_map, List.length_range] at this
        omega
      refine ⟨by decide, Nat.le_of_lt (size_ok (by rw [List.length_map, List.length_take]; omega)), Nat.le_of_lt (size_ok (by rw [List.length_append, List.length_map, List.length_map, List.length_take, List.length_drop, List.length_singleton]; omega)), ?_⟩
      unfold t_law_2
      bv_omega
      have gm : L2.atI (D0.map iD) ((m : Int) - 1) = some (iD (opt m A [])) := by
        rw [show (m : Int) - 1 = ((m - 1 : Nat) : Int) by omega, atI_natD, List.getElem?_map, hDg (m - 1) (by omega)]
        show some (iD (opt (m - 1 + 1) A [])) = _
        rw [Nat.sub_add_cancel hu1]
      refine ⟨_, gm, ?_⟩
      bv_omega
      refine ⟨insA A z x, m, rfl, hB, hu1, by omega, fun Rf ff hRf => ?_⟩
      have most1 : ff.length = opt m (insA A z x) [] := (Rule.run hu1 (Nat.le_refl _) hRf).most
      rw [most1]
      bv_omega
      unfold t_law_1
      bv_omega
      refine ⟨by decide, ⟨by decide, by decide, by decide⟩, insA A z x, 8, m, rfl, hB, by decide, hB7, hu1, by omega, ?_⟩
      bv_omega
      exact iteF (by simp) (iteF (decide_eq_false (by omega)) (iteF (decide_eq_false (by omega)) (hN' _ _ _ _ _ _ _ _ _ _ _ _ _ _ _ _)))
    refine iteF (by simp) ?_
    by_cases hge : pages ≤ most
    · refine iteT (decide_eq_true (by omega)) ⟨_, gl, ?_⟩
      have l2 := opt_all (A := A) (m := most) hm1 fun i hi => Nat.lt_of_lt_of_le (hAp _ (by
        unfold pg
        rw [List.getD_eq_getElem?_getD, List.getElem?_eq_getElem hi]
        exact List.getElem_mem hi)) hge
      rw [l2]
      exact iteF (by simp) h7
    · exact iteF (decide_eq_false (by omega)) h7
  · rintro env ⟨x2, x3, x4, x5, x6, x7, x8, x9, x10, x11, x12, x13, x14, x15, x16, x17, rfl⟩
    bv_omega
    unfold t_law_15
    bv_omega
    exact hq
end K

set_option maxHeartbeats 4000000
/-! printed by gen.py: the derivations, the promises, the end -/
namespace K
open PySem PySem.Spec PyProof.Rows L2 DL
section
variable {P : Program} {w : World} {K : PySem.W.Frag} {mg : Str → Option Value} {base : Heap}
theorem der__law_draw (T : Txt mg)  (f : Addr) (cdv : Value) (A : Around) (outer : List PySem.Env) (s : Shared) (H : Hp) (E : XK) (hg : A.guards = some []) (hr : Room 0 (bodyX P w K mg base N__law_draw "_law_draw" s__law_draw f cdv A outer s H E).A) :
    DSs (bodyX P w K mg base N__law_draw "_law_draw" s__law_draw f cdv A outer s H E) (defBody s__law_draw) t__law_draw := by
  have hu := hr.units
  have hu5 : (bodyX P w K mg base N__law_draw "_law_draw" s__law_draw f cdv A outer s H E).A.units + 65 < cLine := by have := hr.un; omega
  exact (dss_cons (ds_setLc 2 [("_law_cell", 4)] sc_law_draw.nd (di_b (db_w (dw_scr 0 (pv 0)))) (by first | (show blkC N__law_draw (defScope s__law_draw) _ _ = true; decide +kernel) | (show blkC N__law_draw ⟨_, _, _, _, _⟩ _ _ = true; decide +kernel) | rfl) (fun _ _ _ _ _ => (dg_name 4 (pg_name (i := 4) sc_law_draw.nd rfl (by first | exact .inl rfl | exact .inr rfl)))) (fun _ _ _ _ _ => dts_nil) (fun _ _ _ _ _ => (dw_abs T.b_abs (da_cons (db_w (dw_int1 T.b_int (da_cons (db_var 4 (pv 4)) da_nil))) da_nil))))
    (dss_cons (ds_set 3 sc_law_draw.nd (dw_add (db_w dw_int) (db_w (dw_mulB (db_w dw_int) (db_var 1 (pv 1))))))
    (dss_cons (ds_freeze 2 (ds_for (di_f (df_var 2 (pv 2))) (dg_name 4 (pg_name (i := 4) sc_law_draw.nd rfl (by first | exact .inl rfl | exact .inr rfl))) (dss_one (ds_set 3 sc_law_draw.nd (dw_mod (db_w (dw_int1 T.b_int (da_cons (db_w (dw_add (db_w (dw_add (db_w (dw_mulB (db_var 3 (pv 3)) (db_w dw_int))) (db_w (dw_mod (db_var 4 (pv 4)) (db_w dw_int))))) (db_w dw_int))) da_nil))) (db_w dw_int))))))
    (dss_one (ds_ret (dw_lst (daw_cons (dw_revA (db_w (dw_lc [("_law_cell", 4)] sc_law_draw.nd (di_b (db_var 2 (pv 2))) (by first | (show blkC N__law_draw (defScope s__law_draw) _ _ = true; decide +kernel) | (show blkC N__law_draw ⟨_, _, _, _, _⟩ _ _ = true; decide +kernel) | rfl) (fun _ _ _ _ _ => (dg_name 4 (pg_name (i := 4) sc_law_draw.nd rfl (by first | exact .inl rfl | exact .inr rfl)))) (fun _ _ _ _ _ => (dts_one (dt_cmp op_ge snd_B0 (db_var 4 (pv 4)) (db_w (dw_pow (db_w dw_int) (db_w dw_int)))))) (fun _ _ _ _ _ => (dw_var 4 (pv 4)))))) (daw_cons (dw_var 3 (pv 3)) daw_nil))))))))
theorem ok__law_draw {f : Addr} {fd : FuncData} (F : Fun K "_law_draw" "_law_draw" s__law_draw f fd) (T : Txt mg)  : FnG P w K mg base CX0 1 f fd ["_law_script", "_law_salt"] (spD K S__law_draw) :=
  fn_D F sc_law_draw len__law_draw (fun cdv A outer s H E hg hr => der__law_draw T  f cdv A outer s H E hg hr) wp__law_draw
theorem der__law_stretches (T : Txt mg)  (f : Addr) (cdv : Value) (A : Around) (outer : List PySem.Env) (s : Shared) (H : Hp) (E : XK) (hg : A.guards = some []) (hr : Room 0 (bodyX P w K mg base N__law_stretches "_law_stretches" s__law_stretches f cdv A outer s H E).A) :
    DSs (bodyX P w K mg base N__law_stretches "_law_stretches" s__law_stretches f cdv A outer s H E) (defBody s__law_stretches) t__law_stretches := by
  have hu := hr.units
  have hu5 : (bodyX P w K mg base N__law_stretches "_law_stretches" s__law_stretches f cdv A outer s H E).A.units + 65 < cLine := by have := hr.un; omega
  exact (dss_cons (ds_set 1 sc_law_stretches.nd (dw_lst daw_nil))
    (dss_cons (ds_for (di_range1 T.b_range (da_cons (db_w (dw_len T.b_len (da_cons (db_var 0 (pv 0)) da_nil))) da_nil)) (dg_name 2 (pg_name (i := 2) sc_law_stretches.nd rfl (by first | exact .inl rfl | exact .inr rfl))) (dss_cons (ds_setLc 3 [("_law_time", 4)] sc_law_stretches.nd (di_range2 T.b_range (da_cons (db_w (dw_add (db_var 2 (pv 2)) (db_w dw_int))) (da_cons (db_w (dw_len T.b_len (da_cons (db_var 0 (pv 0)) da_nil))) da_nil))) (by first | (show blkC N__law_stretches (defScope s__law_stretches) _ _ = true; decide +kernel) | (show blkC N__law_stretches ⟨_, _, _, _, _⟩ _ _ = true; decide +kernel) | rfl) (fun _ _ _ _ _ => (dg_name 4 (pg_name (i := 4) sc_law_stretches.nd rfl (by first | exact .inl rfl | exact .inr rfl)))) (fun _ _ _ _ _ => (dts_one (dt_cmp (opOr op_eq (op_eqD hu)) snd_eq (db_w (dw_sub_ix (db_var 0 (pv 0)) (db_var 4 (pv 4)))) (db_w (dw_sub_ix (db_var 0 (pv 0)) (db_var 2 (pv 2))))))) (fun _ _ _ _ _ => (dw_var 4 (pv 4))))
    (dss_one (ds_set 1 sc_law_stretches.nd (dw_add (db_var 1 (pv 1)) (db_w (dw_lc [("_law_time", 4)] sc_law_stretches.nd (di_b (db_w (dw_slice (db_var 3 (pv 3)) do_none (do_some (db_w dw_int))))) (by first | (show blkC N__law_stretches (defScope s__law_stretches) _ _ = true; decide +kernel) | (show blkC N__law_stretches ⟨_, _, _, _, _⟩ _ _ = true; decide +kernel) | rfl) (fun _ _ _ _ _ => (dg_name 4 (pg_name (i := 4) sc_law_stretches.nd rfl (by first | exact .inl rfl | exact .inr rfl)))) (fun _ _ _ _ _ => dts_nil) (fun _ _ _ _ _ => (dw_tup (daw_cons (dw_var 2 (pv 2)) (daw_cons (dw_var 4 (pv 4)) daw_nil)))))))))))
    (dss_one (ds_retOwn 1 (pv 1)))))
theorem ok__law_stretches {f : Addr} {fd : FuncData} (F : Fun K "_law_stretches" "_law_stretches" s__law_stretches f fd) (T : Txt mg)  : FnG P w K mg base CX0 1 f fd ["_law_asks_here"] (spD K S__law_stretches) :=
  fn_D F sc_law_stretches len__law_stretches (fun cdv A outer s H E hg hr => der__law_stretches T  f cdv A outer s H E hg hr) wp__law_stretches
theorem der__law_mixed (T : Txt mg) (C__law_any : Cal P w K mg base 1 "_law_any" s__law_any ["_law_deal", "_law_bound"] S__law_any) (f : Addr) (cdv : Value) (A : Around) (outer : List PySem.Env) (s : Shared) (H : Hp) (E : XK) (hg : A.guards = some []) (hr : Room 1 (bodyX P w K mg base N__law_mixed "_law_mixed" s__law_mixed f cdv A outer s H E).A) :
    DSs (bodyX P w K mg base N__law_mixed "_law_mixed" s__law_mixed f cdv A outer s H E) (defBody s__law_mixed) t__law_mixed := by
  have hu := hr.units
  have hu5 : (bodyX P w K mg base N__law_mixed "_law_mixed" s__law_mixed f cdv A outer s H E).A.units + 65 < cLine := by have := hr.un; omega
  exact (dss_cons (ds_par2 2 3 sc_law_mixed.nd (daw_cons (dw_list T.b_list (da_cons (db_var 1 (pv 1)) da_nil)) (daw_cons (dw_lst daw_nil) daw_nil)))
    (dss_cons (ds_while (dt_cmp (opOr op_ne (op_neD hu)) snd_ne (db_var 2 (pv 2)) (db_w (dw_lst daw_nil))) (dss_one (ds_appPop 3 2 (pe_bm PySem.F.plainAttrs_list PySem.F.slot_list_append PySem.F.type_list_append mt_append (pv 3) (pa_cons (pe_bm PySem.F.plainAttrs_list PySem.F.slot_list_pop PySem.F.type_list_pop mt_popAt (pv 2) (da_cons (db_w (dw_fn (π := [0, 1]) C__law_any hg hr (fun _ _ _ _ _ _ us hl => match us, hl with | [_, _], _ => rfl) (dag_cons (dw_var 0 (pv 0)) (dag_cons (dw_len T.b_len (da_cons (db_var 2 (pv 2)) da_nil)) dag_nil)))) da_nil)) pa_nil)))))
    (dss_one (ds_retOwn 3 (pv 3)))))
theorem ok__law_mixed {f : Addr} {fd : FuncData} (F : Fun K "_law_mixed" "_law_mixed" s__law_mixed f fd) (T : Txt mg) (C__law_any : Cal P w K mg base 1 "_law_any" s__law_any ["_law_deal", "_law_bound"] S__law_any) : FnG P w K mg base CX0 2 f fd ["_law_deal", "_law_some"] (spD K S__law_mixed) :=
  fn_D F sc_law_mixed len__law_mixed (fun cdv A outer s H E hg hr => der__law_mixed T C__law_any f cdv A outer s H E hg hr) wp__law_mixed
theorem der__law_of (T : Txt mg) (C__law_any : Cal P w K mg base 1 "_law_any" s__law_any ["_law_deal", "_law_bound"] S__law_any) (f : Addr) (cdv : Value) (A : Around) (outer : List PySem.Env) (s : Shared) (H : Hp) (E : XK) (hg : A.guards = some []) (hr : Room 1 (bodyX P w K mg base N__law_of "_law_of" s__law_of f cdv A outer s H E).A) :
    DSs (bodyX P w K mg base N__law_of "_law_of" s__law_of f cdv A outer s H E) (defBody s__law_of) t__law_of := by
  have hu := hr.units
  have hu5 : (bodyX P w K mg base N__law_of "_law_of" s__law_of f cdv A outer s H E).A.units + 65 < cLine := by have := hr.un; omega
  exact (dss_one (ds_ret (dw_sub_ix (db_var 1 (pv 1)) (db_w (dw_fn (π := [0, 1]) C__law_any hg hr (fun _ _ _ _ _ _ us hl => match us, hl with | [_, _], _ => rfl) (dag_cons (dw_var 0 (pv 0)) (dag_cons (dw_len T.b_len (da_cons (db_var 1 (pv 1)) da_nil)) dag_nil)))))))
theorem ok__law_of {f : Addr} {fd : FuncData} (F : Fun K "_law_of" "_law_of" s__law_of f fd) (T : Txt mg) (C__law_any : Cal P w K mg base 1 "_law_any" s__law_any ["_law_deal", "_law_bound"] S__law_any) : FnG P w K mg base CX0 2 f fd ["_law_deal", "_law_some"] (spD K S__law_of) :=
  fn_D F sc_law_of len__law_of (fun cdv A outer s H E hg hr => der__law_of T C__law_any f cdv A outer s H E hg hr) wp__law_of
theorem der__law_asks (T : Txt mg) (C__law_any : Cal P w K mg base 2 "_law_any" s__law_any ["_law_deal", "_law_bound"] S__law_any) (C__law_of : Cal P w K mg base 2 "_law_of" s__law_of ["_law_deal", "_law_some"] S__law_of) (f : Addr) (cdv : Value) (A : Around) (outer : List PySem.Env) (s : Shared) (H : Hp) (E : XK) (hg : A.guards = some []) (hr : Room 2 (bodyX P w K mg base N__law_asks "_law_asks" s__law_asks f cdv A outer s H E).A) :
    DSs (bodyX P w K mg base N__law_asks "_law_asks" s__law_asks f cdv A outer s H E) (defBody s__law_asks) t__law_asks := by
  have hu := hr.units
  have hu5 : (bodyX P w K mg base N__law_asks "_law_asks" s__law_asks f cdv A outer s H E).A.units + 65 < cLine := by have := hr.un; omega
  exact (dss_cons (ds_set 3 sc_law_asks.nd (dw_lst daw_nil))
    (dss_cons (ds_for (di_range1 T.b_range (da_cons (db_w (dw_fn (π := [0, 1]) C__law_any hg hr (fun _ _ _ _ _ _ us hl => match us, hl with | [_, _], _ => rfl) (dag_cons (dw_var 0 (pv 0)) (dag_cons (dw_add (db_var 1 (pv 1)) (db_w dw_int)) dag_nil)))) da_nil)) (dg_name 4 (pg_name (i := 4) sc_law_asks.nd rfl (by first | exact .inl rfl | exact .inr rfl))) (dss_cons (ds_set 5 sc_law_asks.nd (dw_ifExp (dt_cmp (opOr op_eq (op_eqD hu)) snd_eq (db_w (dw_fn (π := [0, 1]) C__law_any hg hr (fun _ _ _ _ _ _ us hl => match us, hl with | [_, _], _ => rfl) (dag_cons (dw_var 0 (pv 0)) (dag_cons dw_int dag_nil)))) (db_w dw_int)) (dw_slice (db_var 3 (pv 3)) (do_some (db_w (dw_neg (db_w dw_int)))) do_none) (dw_lst daw_nil)))
    (dss_one (ds_freeze 5 (ds_append 3 (pe_bm PySem.F.plainAttrs_list PySem.F.slot_list_append PySem.F.type_list_append mt_append (pv 3) (daw_cons (dw_ifExp (dt_cmp (opOr op_ne (op_neD hu)) snd_ne (db_var 5 (pv 5)) (db_w (dw_lst daw_nil))) (dw_fn (π := [0, 1]) C__law_of hg hr (fun _ _ _ _ _ _ us hl => match us, hl with | [_, _], _ => rfl) (dag_cons (dw_var 0 (pv 0)) (dag_cons (dw_var 5 (pv 5)) dag_nil))) (dw_fn (π := [0, 1]) C__law_any hg hr (fun _ _ _ _ _ _ us hl => match us, hl with | [_, _], _ => rfl) (dag_cons (dw_var 0 (pv 0)) (dag_cons (dw_var 2 (pv 2)) dag_nil)))) daw_nil)))))))
    (dss_one (ds_ret (dw_tuple T.b_tuple (da_cons (db_var 3 (pv 3)) da_nil))))))
theorem ok__law_asks {f : Addr} {fd : FuncData} (F : Fun K "_law_asks" "_law_asks" s__law_asks f fd) (T : Txt mg) (C__law_any : Cal P w K mg base 2 "_law_any" s__law_any ["_law_deal", "_law_bound"] S__law_any) (C__law_of : Cal P w K mg base 2 "_law_of" s__law_of ["_law_deal", "_law_some"] S__law_of) : FnG P w K mg base CX0 3 f fd ["_law_deal", "_law_most", "_law_pages"] (spD K S__law_asks) :=
  fn_D F sc_law_asks len__law_asks (fun cdv A outer s H E hg hr => der__law_asks T C__law_any C__law_of f cdv A outer s H E hg hr) wp__law_asks
theorem der__law_spared (T : Txt mg)  (f : Addr) (cdv : Value) (A : Around) (outer : List PySem.Env) (s : Shared) (H : Hp) (E : XK) (hg : A.guards = some []) (hr : Room 0 (bodyX P w K mg base N__law_spared "_law_spared" s__law_spared f cdv A outer s H E).A) :
    DSs (bodyX P w K mg base N__law_spared "_law_spared" s__law_spared f cdv A outer s H E) (defBody s__law_spared) t__law_spared := by
  have hu := hr.units
  have hu5 : (bodyX P w K mg base N__law_spared "_law_spared" s__law_spared f cdv A outer s H E).A.units + 65 < cLine := by have := hr.un; omega
  exact (dss_cons (ds_set 3 sc_law_spared.nd (dw_kdisp hu (dps_cons (df_w (dw_tup daw_nil)) (df_w dw_int) dps_nil)))
    (dss_cons (ds_for (di_f (df_var 0 (pv 0))) (dg_name 4 (pg_name (i := 4) sc_law_spared.nd rfl (by first | exact .inl rfl | exact .inr rfl))) (dss_cons (ds_set 5 sc_law_spared.nd dw_knew)
    (dss_cons (ds_freezeD 3 (ds_for (di_dict (st := true) 3 (pv 3)) (dg_name 6 (pg_name (i := 6) sc_law_spared.nd rfl (by first | exact .inl rfl | exact .inr rfl))) (dss_cons (ds_set 7 sc_law_spared.nd (dw_add (db_w (dw_kget 3 hu (pv 3) (df_var 6 (pv 6)) (fun _ _ => rfl))) (db_w (dw_ifExp (dt_cmp op_inA (snd_in false) (db_var 4 (pv 4)) (db_var 6 (pv 6))) (dw_sub_ix (db_var 1 (pv 1)) (db_var 4 (pv 4))) dw_int))))
    (dss_cons (ds_set 8 sc_law_spared.nd (dw_lc [("_law_one", 10)] sc_law_spared.nd (di_b (db_var 6 (pv 6))) (by first | (show blkC N__law_spared (defScope s__law_spared) _ _ = true; decide +kernel) | (show blkC N__law_spared ⟨_, _, _, _, _⟩ _ _ = true; decide +kernel) | rfl) (fun _ _ _ _ _ => (dg_name 10 (pg_name (i := 10) sc_law_spared.nd rfl (by first | exact .inl rfl | exact .inr rfl)))) (fun _ _ _ _ _ => (dts_one (dt_cmp (opOr op_ne (op_neD hu)) snd_ne (db_var 10 (pv 10)) (db_var 4 (pv 4))))) (fun _ _ _ _ _ => (dw_var 10 (pv 10)))))
    (dss_cons (ds_freeze 8 (ds_set 9 sc_law_spared.nd (dw_ifExp (dt_cmp op_ltA snd_ord (db_w (dw_len T.b_len (da_cons (db_var 8 (pv 8)) da_nil))) (db_var 2 (pv 2))) (dw_lst (daw_cons (dw_var 8 (pv 8)) daw_nil)) (dw_lc [("_law_at", 12)] sc_law_spared.nd (di_range1 T.b_range (da_cons (db_w (dw_len T.b_len (da_cons (db_var 8 (pv 8)) da_nil))) da_nil)) (by first | (show blkC N__law_spared (defScope s__law_spared) _ _ = true; decide +kernel) | (show blkC N__law_spared ⟨_, _, _, _, _⟩ _ _ = true; decide +kernel) | rfl) (fun _ _ _ _ _ => (dg_name 12 (pg_name (i := 12) sc_law_spared.nd rfl (by first | exact .inl rfl | exact .inr rfl)))) (fun _ _ _ _ _ => dts_nil) (fun _ _ _ _ _ => (dw_add (db_w (dw_slice (db_var 8 (pv 8)) do_none (do_some (db_var 12 (pv 12))))) (db_w (dw_slice (db_var 8 (pv 8)) (do_some (db_w (dw_add (db_var 12 (pv 12)) (db_w dw_int)))) do_none))))))))
    (dss_one (ds_freeze 9 (ds_for (di_f (df_var 9 (pv 9))) (dg_name 10 (pg_name (i := 10) sc_law_spared.nd rfl (by first | exact .inl rfl | exact .inr rfl))) (dss_cons (ds_set 11 sc_law_spared.nd (dw_tuple T.b_tuple (da_cons (db_w (dw_sortedA T.b_sorted (da_cons (db_w (dw_add (db_var 10 (pv 10)) (db_w (dw_lst (daw_cons (dw_var 4 (pv 4)) daw_nil))))) da_nil))) da_nil)))
    (dss_one (ds_kput 5 hu (pv 5) (df_w (dw_max2 T.b_max (da_cons (db_w (dw_kget2 5 hu (pv 5) (df_var 11 (pv 11)) (df_w dw_int) ⟨rfl, rfl, rfl, rfl⟩)) (da_cons (db_var 7 (pv 7)) da_nil)))) (df_var 11 (pv 11)))))))))))))
    (dss_one (ds_freezeD 5 (ds_set 3 sc_law_spared.nd (dw_var 5 (pv 5))))))))
    (dss_one (ds_ret (dw_maxA T.b_max (da_cons (db_w (dw_lc [("_law_state", 6)] sc_law_spared.nd (di_dict (st := false) 3 (pv 3)) (by first | (show blkC N__law_spared (defScope s__law_spared) _ _ = true; decide +kernel) | (show blkC N__law_spared ⟨_, _, _, _, _⟩ _ _ = true; decide +kernel) | rfl) (fun _ _ _ _ _ => (dg_name 6 (pg_name (i := 6) sc_law_spared.nd rfl (by first | exact .inl rfl | exact .inr rfl)))) (fun _ _ _ _ _ => dts_nil) (fun _ _ _ _ _ => (dw_kget 3 hu (pv 3) (df_var 6 (pv 6)) (fun _ _ => rfl))))) da_nil))))))
theorem ok__law_spared {f : Addr} {fd : FuncData} (F : Fun K "_law_spared" "_law_spared" s__law_spared f fd) (T : Txt mg)  : FnG P w K mg base CX0 1 f fd ["_law_asks_here", "_law_costs", "_law_m"] (spD K S__law_spared) :=
  fn_D F sc_law_spared len__law_spared (fun cdv A outer s H E hg hr => der__law_spared T  f cdv A outer s H E hg hr) wp__law_spared
theorem der_stretches (T : Txt mg)  (f : Addr) (cdv : Value) (A : Around) (outer : List PySem.Env) (s : Shared) (H : Hp) (E : XK) (hg : A.guards = some []) (hr : Room 0 (bodyX P w K mg base N_stretches "stretches" s_stretches f cdv A outer s H E).A) :
    DSs (bodyX P w K mg base N_stretches "stretches" s_stretches f cdv A outer s H E) (defBody s_stretches) t_stretches := by
  have hu := hr.units
  have hu5 : (bodyX P w K mg base N_stretches "stretches" s_stretches f cdv A outer s H E).A.units + 65 < cLine := by have := hr.un; omega
  exact (dss_cons (ds_par2 1 2 scstretches.nd (daw_cons dw_knew (daw_cons (dw_lst daw_nil) daw_nil)))
    (dss_cons (ds_for (di_enum T.b_enumerate (df_var 0 (pv 0))) (dg_tup (dgs_cons (dg_name 3 (pg_name (i := 3) scstretches.nd rfl (by first | exact .inl rfl | exact .inr rfl))) (dgs_cons (dg_name 4 (pg_name (i := 4) scstretches.nd rfl (by first | exact .inl rfl | exact .inr rfl))) dgs_nil))) (dss_cons (ds_if (dt_kin 1 hu (pv 1) (df_var 4 (pv 4))) (dss_one (ds_append 2 (pe_bm PySem.F.plainAttrs_list PySem.F.slot_list_append PySem.F.type_list_append mt_append (pv 2) (daw_cons (dw_tup (daw_cons (dw_kget 1 hu (pv 1) (df_var 4 (pv 4)) (fun _ _ => rfl)) (daw_cons (dw_var 3 (pv 3)) daw_nil))) daw_nil)))) dss_nil)
    (dss_one (ds_kput 1 hu (pv 1) (df_var 3 (pv 3)) (df_var 4 (pv 4))))))
    (dss_one (ds_ret (dw_tuple T.b_tuple (da_cons (db_w (dw_sortedD hu T.b_sorted (da_cons (db_var 2 (pv 2)) da_nil))) da_nil))))))
theorem ok_stretches {f : Addr} {fd : FuncData} (F : Fun K "stretches" "stretches" s_stretches f fd) (T : Txt mg)  : FnG P w K mg base CX0 1 f fd ["asks"] (spD K S_stretches) :=
  fn_D F scstretches len_stretches (fun cdv A outer s H E hg hr => der_stretches T  f cdv A outer s H E hg hr) wp_stretches
theorem der_furthest (T : Txt mg) (C_stretches : Cal P w K mg base 1 "stretches" s_stretches ["asks"] S_stretches) (f : Addr) (cdv : Value) (A : Around) (outer : List PySem.Env) (s : Shared) (H : Hp) (E : XK) (hg : A.guards = some []) (hr : Room 1 (bodyX P w K mg base N_furthest "furthest" s_furthest f cdv A outer s H E).A) :
    DSs (bodyX P w K mg base N_furthest "furthest" s_furthest f cdv A outer s H E) (defBody s_furthest) t_furthest := by
  have hu := hr.units
  have hu5 : (bodyX P w K mg base N_furthest "furthest" s_furthest f cdv A outer s H E).A.units + 65 < cLine := by have := hr.un; omega
  exact (dss_cons (ds_parT [2, 3, 4] (daw_cons (dw_dictP T.b_dict (da_cons (db_w (dw_fn (π := [0]) C_stretches hg hr (fun _ _ _ _ _ _ us hl => match us, hl with | [_], _ => rfl) (dag_cons (dw_var 0 (pv 0)) dag_nil))) da_nil)) (daw_cons dw_knew (daw_cons (dw_lst daw_nil) daw_nil))) (pgs_cons (pg_name (i := 2) scfurthest.nd rfl (by first | exact .inl rfl | exact .inr rfl)) (pgs_cons (pg_name (i := 3) scfurthest.nd rfl (by first | exact .inl rfl | exact .inr rfl)) (pgs_cons (pg_name (i := 4) scfurthest.nd rfl (by first | exact .inl rfl | exact .inr rfl)) pgs_nil))))
    (dss_cons (ds_for (di_enum T.b_enumerate (df_var 0 (pv 0))) (dg_tup (dgs_cons (dg_name 5 (pg_name (i := 5) scfurthest.nd rfl (by first | exact .inl rfl | exact .inr rfl))) (dgs_cons (dg_name 6 (pg_name (i := 6) scfurthest.nd rfl (by first | exact .inl rfl | exact .inr rfl))) dgs_nil))) (dss_cons (ds_if (dt_kin 3 hu (pv 3) (df_var 6 (pv 6))) (dss_one (ds_append 4 (pe_bm PySem.F.plainAttrs_list PySem.F.slot_list_append PySem.F.type_list_append mt_append (pv 4) (daw_cons (dw_tup (daw_cons (dw_kget 3 hu (pv 3) (df_var 6 (pv 6)) (fun _ _ => rfl)) (daw_cons (dw_var 5 (pv 5)) daw_nil))) daw_nil)))) (dss_one (ds_if (dt_cmp (opOr op_eq (op_eqD hu)) snd_eq (db_w (dw_klen 3 (pv 3) T.b_len)) (db_var 1 (pv 1))) (dss_cons (ds_setLc 7 [("one", 8), ("since", 9)] scfurthest.nd (di_items (st := false) 3 (pv 3)) (by first | (show blkC N_furthest (defScope s_furthest) _ _ = true; decide +kernel) | (show blkC N_furthest ⟨_, _, _, _, _⟩ _ _ = true; decide +kernel) | rfl) (fun _ _ _ _ _ => (dg_tup (dgs_cons (dg_name 8 (pg_name (i := 8) scfurthest.nd rfl (by first | exact .inl rfl | exact .inr rfl))) (dgs_cons (dg_name 9 (pg_name (i := 9) scfurthest.nd rfl (by first | exact .inl rfl | exact .inr rfl))) dgs_nil)))) (fun _ _ _ _ _ => dts_nil) (fun _ _ _ _ _ => (dw_tup (daw_cons (dw_kget2 2 hu (pv 2) (df_var 9 (pv 9)) (df_w (dw_len T.b_len (da_cons (db_var 0 (pv 0)) da_nil))) ⟨rfl, rfl, rfl, rfl⟩) (daw_cons (dw_var 8 (pv 8)) daw_nil)))))
    (dss_one (ds_kpop 3 (pv 3) (df_w (dw_sub_ix (db_w (dw_maxD hu T.b_max (da_cons (db_var 7 (pv 7)) da_nil))) (db_w dw_int))) ⟨rfl, rfl, rfl, rfl⟩))) dss_nil)))
    (dss_one (ds_kput 3 hu (pv 3) (df_var 5 (pv 5)) (df_var 6 (pv 6))))))
    (dss_one (ds_ret (dw_tuple T.b_tuple (da_cons (db_w (dw_sortedD hu T.b_sorted (da_cons (db_var 4 (pv 4)) da_nil))) da_nil))))))
theorem ok_furthest {f : Addr} {fd : FuncData} (F : Fun K "furthest" "furthest" s_furthest f fd) (T : Txt mg) (C_stretches : Cal P w K mg base 1 "stretches" s_stretches ["asks"] S_stretches) : FnG P w K mg base CX0 2 f fd ["asks", "m"] (spD K S_furthest) :=
  fn_D F scfurthest len_furthest (fun cdv A outer s H E hg hr => der_furthest T C_stretches f cdv A outer s H E hg hr) wp_furthest
theorem der_fewest_misses (T : Txt mg) (C_furthest : Cal P w K mg base 2 "furthest" s_furthest ["asks", "m"] S_furthest) (f : Addr) (cdv : Value) (A : Around) (outer : List PySem.Env) (s : Shared) (H : Hp) (E : XK) (hg : A.guards = some []) (hr : Room 2 (bodyX P w K mg base N_fewest_misses "fewest_misses" s_fewest_misses f cdv A outer s H E).A) :
    DSs (bodyX P w K mg base N_fewest_misses "fewest_misses" s_fewest_misses f cdv A outer s H E) (defBody s_fewest_misses) t_fewest_misses := by
  have hu := hr.units
  have hu5 : (bodyX P w K mg base N_fewest_misses "fewest_misses" s_fewest_misses f cdv A outer s H E).A.units + 65 < cLine := by have := hr.un; omega
  exact (dss_one (ds_ret (dw_sub (db_w (dw_len T.b_len (da_cons (db_var 0 (pv 0)) da_nil))) (db_w (dw_len T.b_len (da_cons (db_w (dw_fn (π := [0, 1]) C_furthest hg hr (fun _ _ _ _ _ _ us hl => match us, hl with | [_, _], _ => rfl) (dag_cons (dw_var 0 (pv 0)) (dag_cons (dw_var 1 (pv 1)) dag_nil)))) da_nil))))))
theorem ok_fewest_misses {f : Addr} {fd : FuncData} (F : Fun K "fewest_misses" "fewest_misses" s_fewest_misses f fd) (T : Txt mg) (C_furthest : Cal P w K mg base 2 "furthest" s_furthest ["asks", "m"] S_furthest) : FnG P w K mg base CX0 3 f fd ["asks", "m"] (spD K S_fewest_misses) :=
  fn_D F scfewest_misses len_fewest_misses (fun cdv A outer s H E hg hr => der_fewest_misses T C_furthest f cdv A outer s H E hg hr) wp_fewest_misses
theorem der_hits_by_rooms (T : Txt mg) (C_furthest : Cal P w K mg base 2 "furthest" s_furthest ["asks", "m"] S_furthest) (f : Addr) (cdv : Value) (A : Around) (outer : List PySem.Env) (s : Shared) (H : Hp) (E : XK) (hg : A.guards = some []) (hr : Room 2 (bodyX P w K mg base N_hits_by_rooms "hits_by_rooms" s_hits_by_rooms f cdv A outer s H E).A) :
    DSs (bodyX P w K mg base N_hits_by_rooms "hits_by_rooms" s_hits_by_rooms f cdv A outer s H E) (defBody s_hits_by_rooms) t_hits_by_rooms := by
  have hu := hr.units
  have hu5 : (bodyX P w K mg base N_hits_by_rooms "hits_by_rooms" s_hits_by_rooms f cdv A outer s H E).A.units + 65 < cLine := by have := hr.un; omega
  exact (dss_one (ds_ret (dw_tuple T.b_tuple (da_cons (db_w (dw_lc [("m", 2)] schits_by_rooms.nd (di_range2 T.b_range (da_cons (db_w dw_int) (da_cons (db_w (dw_add (db_var 1 (pv 1)) (db_w dw_int))) da_nil))) (by first | (show blkC N_hits_by_rooms (defScope s_hits_by_rooms) _ _ = true; decide +kernel) | (show blkC N_hits_by_rooms ⟨_, _, _, _, _⟩ _ _ = true; decide +kernel) | rfl) (fun _ _ _ _ _ => (dg_name 2 (pg_name (i := 2) schits_by_rooms.nd rfl (by first | exact .inl rfl | exact .inr rfl)))) (fun _ _ _ _ _ => dts_nil) (fun _ _ _ _ _ => (dw_len T.b_len (da_cons (db_w (dw_fn (π := [0, 1]) C_furthest hg hr (fun _ _ _ _ _ _ us hl => match us, hl with | [_, _], _ => rfl) (dag_cons (dw_var 0 (pv 0)) (dag_cons (dw_var 2 (pv 2)) dag_nil)))) da_nil))))) da_nil))))
theorem ok_hits_by_rooms {f : Addr} {fd : FuncData} (F : Fun K "hits_by_rooms" "hits_by_rooms" s_hits_by_rooms f fd) (T : Txt mg) (C_furthest : Cal P w K mg base 2 "furthest" s_furthest ["asks", "m"] S_furthest) : FnG P w K mg base CX0 3 f fd ["asks", "most"] (spD K S_hits_by_rooms) :=
  fn_D F schits_by_rooms len_hits_by_rooms (fun cdv A outer s H E hg hr => der_hits_by_rooms T C_furthest f cdv A outer s H E hg hr) wp_hits_by_rooms
theorem der_law (T : Txt mg) (C__law_draw : Cal P w K mg base 3 "_law_draw" s__law_draw ["_law_script", "_law_salt"] S__law_draw) (C__law_stretches : Cal P w K mg base 3 "_law_stretches" s__law_stretches ["_law_asks_here"] S__law_stretches) (C__law_mixed : Cal P w K mg base 3 "_law_mixed" s__law_mixed ["_law_deal", "_law_some"] S__law_mixed) (C__law_any : Cal P w K mg base 3 "_law_any" s__law_any ["_law_deal", "_law_bound"] S__law_any) (C__law_asks : Cal P w K mg base 3 "_law_asks" s__law_asks ["_law_deal", "_law_most", "_law_pages"] S__law_asks) (C__law_spared : Cal P w K mg base 3 "_law_spared" s__law_spared ["_law_asks_here", "_law_costs", "_law_m"] S__law_spared) (C_fewest_misses : Cal P w K mg base 3 "fewest_misses" s_fewest_misses ["asks", "m"] S_fewest_misses) (C_hits_by_rooms : Cal P w K mg base 3 "hits_by_rooms" s_hits_by_rooms ["asks", "most"] S_hits_by_rooms) (f : Addr) (cdv : Value) (A : Around) (outer : List PySem.Env) (s : Shared) (H : Hp) (E : XK) (hg : A.guards = some []) (hr : Room 3 (bodyX P w K mg base N_law "law" s_law f cdv A outer s H E).A) :
    DSs (bodyX P w K mg base N_law "law" s_law f cdv A outer s H E) (defBody s_law) t_law := by
  have hu := hr.units
  have hu5 : (bodyX P w K mg base N_law "law" s_law f cdv A outer s H E).A.units + 65 < cLine := by have := hr.un; omega
  exact (dss_cons (ds_set 1 sclaw.nd (dw_fn (π := [0, 1]) C__law_draw hg hr (fun _ _ _ _ _ _ us hl => match us, hl with | [_, _], _ => rfl) (dag_cons (dw_var 0 (pv 0)) (dag_cons dw_int dag_nil))))
    (dss_cons (ds_deal 1 0 (ds_for (di_range1 T.b_range (da_cons (db_w dw_int) da_nil)) (dg_name 2 (pg_name (i := 2) sclaw.nd rfl (by first | exact .inl rfl | exact .inr rfl))) (dss_cons (ds_set 3 sclaw.nd (dw_add (db_w dw_int) (db_w (dw_fn (π := [0, 1]) C__law_any hg hr (fun _ _ _ _ _ _ us hl => match us, hl with | [_, _], _ => rfl) (dag_cons (dw_var 1 (pv 1)) (dag_cons dw_int dag_nil))))))
    (dss_cons (ds_parT [4, 5] (daw_cons (dw_fn (π := [0, 1, 2]) C__law_asks hg hr (fun _ _ _ _ _ _ us hl => match us, hl with | [_, _, _], _ => rfl) (dag_cons (dw_var 1 (pv 1)) (dag_cons dw_int (dag_cons (dw_var 3 (pv 3)) dag_nil)))) (daw_cons (dw_add (db_w dw_int) (db_w (dw_fn (π := [0, 1]) C__law_any hg hr (fun _ _ _ _ _ _ us hl => match us, hl with | [_, _], _ => rfl) (dag_cons (dw_var 1 (pv 1)) (dag_cons dw_int dag_nil))))) daw_nil)) (pgs_cons (pg_name (i := 4) sclaw.nd rfl (by first | exact .inl rfl | exact .inr rfl)) (pgs_cons (pg_name (i := 5) sclaw.nd rfl (by first | exact .inl rfl | exact .inr rfl)) pgs_nil)))
    (dss_cons (ds_set 6 sclaw.nd (dw_lc [("_law_m", 12)] sclaw.nd (di_range2 T.b_range (da_cons (db_w dw_int) (da_cons (db_w (dw_add (db_var 5 (pv 5)) (db_w dw_int))) da_nil))) (by first | (show blkC N_law (defScope s_law) _ _ = true; decide +kernel) | (show blkC N_law ⟨_, _, _, _, _⟩ _ _ = true; decide +kernel) | rfl) (fun _ _ _ _ _ => (dg_name 12 (pg_name (i := 12) sclaw.nd rfl (by first | exact .inl rfl | exact .inr rfl)))) (fun _ _ _ _ _ => dts_nil) (fun _ _ _ _ _ => (dw_fn (π := [0, 1, 2]) C__law_spared hg hr (fun _ _ _ _ _ _ us hl => match us, hl with | [_, _, _], _ => rfl) (dag_cons (dw_var 4 (pv 4)) (dag_cons (dw_mulB (db_w (dw_lst (daw_cons dw_int daw_nil))) (db_w dw_int)) (dag_cons (dw_var 12 (pv 12)) dag_nil)))))))
    (dss_cons (ds_if (dt_w (dtw_or (dt_cmp (opOr op_ne (op_neD hu)) snd_ne (db_w (dw_repr hg hu T.b_repr (da_cons (db_w (dw_fn (π := [0, 1]) C_hits_by_rooms hg hr (fun _ _ _ _ _ _ us hl => match us, hl with | [_, _], _ => rfl) (dag_cons (dw_var 4 (pv 4)) (dag_cons (dw_var 5 (pv 5)) dag_nil)))) da_nil))) (db_w (dw_repr hg hu T.b_repr (da_cons (db_w (dw_tuple T.b_tuple (da_cons (db_var 6 (pv 6)) da_nil))) da_nil)))) (dtw_or1 (dt_cmp (opOr op_ne (op_neD hu)) snd_ne (db_w (dw_repr hg hu T.b_repr (da_cons (db_w (dw_fnK0 (ks := ["most", "asks"]) (π := [1, 0]) C_hits_by_rooms hg hr (fun _ _ _ _ _ _ us hl => match us, hl with | [_, _], _ => rfl) (dkg_cons (dw_var 5 (pv 5)) (dkg_cons (dw_var 4 (pv 4)) dkg_nil)))) da_nil))) (db_w (dw_repr hg hu T.b_repr (da_cons (db_w (dw_tuple T.b_tuple (da_cons (db_var 6 (pv 6)) da_nil))) da_nil))))))) (dss_one (ds_ret dw_bl)) dss_nil)
    (dss_cons (ds_setLc 7 [("_law_at", 11)] sclaw.nd (di_range1 T.b_range (da_cons (db_w (dw_sub (db_w (dw_len T.b_len (da_cons (db_var 6 (pv 6)) da_nil))) (db_w dw_int))) da_nil)) (by first | (show blkC N_law (defScope s_law) _ _ = true; decide +kernel) | (show blkC N_law ⟨_, _, _, _, _⟩ _ _ = true; decide +kernel) | rfl) (fun _ _ _ _ _ => (dg_name 11 (pg_name (i := 11) sclaw.nd rfl (by first | exact .inl rfl | exact .inr rfl)))) (fun _ _ _ _ _ => dts_nil) (fun _ _ _ _ _ => (dw_sub (db_w (dw_sub_ix (db_var 6 (pv 6)) (db_w (dw_add (db_var 11 (pv 11)) (db_w dw_int))))) (db_w (dw_sub_ix (db_var 6 (pv 6)) (db_var 11 (pv 11)))))))
    (dss_cons (ds_if (dt_w (dtw_or (dt_cmp (opOr op_ne (op_neD hu)) snd_ne (db_var 7 (pv 7)) (db_w (dw_revA (db_w (dw_sortedA T.b_sorted (da_cons (db_var 7 (pv 7)) da_nil)))))) (dtw_or1 (dt_cmp (opOr op_ne (op_neD hu)) snd_ne (db_var 7 (pv 7)) (db_w (dw_lc [("_law_one", 16)] sclaw.nd (di_b (db_var 7 (pv 7))) (by first | (show blkC N_law (defScope s_law) _ _ = true; decide +kernel) | (show blkC N_law ⟨_, _, _, _, _⟩ _ _ = true; decide +kernel) | rfl) (fun _ _ _ _ _ => (dg_name 16 (pg_name (i := 16) sclaw.nd rfl (by first | exact .inl rfl | exact .inr rfl)))) (fun _ _ _ _ _ => (dts_one (dt_cmp op_ge snd_B0 (db_var 16 (pv 16)) (db_w dw_int)))) (fun _ _ _ _ _ => (dw_var 16 (pv 16))))))))) (dss_one (ds_ret dw_bl)) dss_nil)
    (dss_cons (ds_set 8 sclaw.nd (dw_fn (π := [0]) C__law_stretches hg hr (fun _ _ _ _ _ _ us hl => match us, hl with | [_], _ => rfl) (dag_cons (dw_var 4 (pv 4)) dag_nil)))
    (dss_cons (ds_if (dt_w (dtw_or (dt_cmp (opOr op_ne (op_neD hu)) snd_ne (db_w (dw_sub_ix (db_var 6 (pv 6)) (db_w dw_int))) (db_w (dw_len T.b_len (da_cons (db_w (dw_lc [("_law_one", 16)] sclaw.nd (di_b (db_var 8 (pv 8))) (by first | (show blkC N_law (defScope s_law) _ _ = true; decide +kernel) | (show blkC N_law ⟨_, _, _, _, _⟩ _ _ = true; decide +kernel) | rfl) (fun _ _ _ _ _ => (dg_name 16 (pg_name (i := 16) sclaw.nd rfl (by first | exact .inl rfl | exact .inr rfl)))) (fun _ _ _ _ _ => (dts_one (dt_cmp (opOr op_eq (op_eqD hu)) snd_eq (db_w (dw_sub_ix (db_var 16 (pv 16)) (db_w dw_int))) (db_w (dw_add (db_w (dw_sub_ix (db_var 16 (pv 16)) (db_w dw_int))) (db_w dw_int)))))) (fun _ _ _ _ _ => (dw_var 16 (pv 16))))) da_nil)))) (dtw_or1 (dt_w (dtw_and (dt_cmp op_ge snd_B0 (db_var 5 (pv 5)) (db_var 3 (pv 3))) (dtw_and1 (dt_cmp (opOr op_ne (op_neD hu)) snd_ne (db_w (dw_sub_ix (db_var 6 (pv 6)) (db_w (dw_neg (db_w dw_int))))) (db_w (dw_len T.b_len (da_cons (db_var 8 (pv 8)) da_nil)))))))))) (dss_one (ds_ret dw_bl)) dss_nil)
    (dss_cons (ds_set 9 sclaw.nd (dw_fn (π := [0, 1]) C__law_mixed hg hr (fun _ _ _ _ _ _ us hl => match us, hl with | [_, _], _ => rfl) (dag_cons (dw_var 1 (pv 1)) (dag_cons (dw_listRange1 T.b_list T.b_range (db_w (dw_add (db_var 3 (pv 3)) (db_w dw_int)))) dag_nil))))
    (dss_cons (ds_set 10 sclaw.nd (dw_tuple T.b_tuple (da_cons (db_w (dw_lc [("_law_page", 17)] sclaw.nd (di_b (db_var 4 (pv 4))) (by first | (show blkC N_law (defScope s_law) _ _ = true; decide +kernel) | (show blkC N_law ⟨_, _, _, _, _⟩ _ _ = true; decide +kernel) | rfl) (fun _ _ _ _ _ => (dg_name 17 (pg_name (i := 17) sclaw.nd rfl (by first | exact .inl rfl | exact .inr rfl)))) (fun _ _ _ _ _ => dts_nil) (fun _ _ _ _ _ => (dw_sub_ix (db_var 9 (pv 9)) (db_var 17 (pv 17)))))) da_nil)))
    (dss_cons (ds_if (dt_w (dtw_or (dt_cmp (opOr op_ne (op_neD hu)) snd_ne (db_w (dw_fn (π := [0, 1]) C_hits_by_rooms hg hr (fun _ _ _ _ _ _ us hl => match us, hl with | [_, _], _ => rfl) (dag_cons (dw_revA (db_var 4 (pv 4))) (dag_cons (dw_var 5 (pv 5)) dag_nil)))) (db_w (dw_tuple T.b_tuple (da_cons (db_var 6 (pv 6)) da_nil)))) (dtw_or1 (dt_cmp (opOr op_ne (op_neD hu)) snd_ne (db_w (dw_fn (π := [0, 1]) C_hits_by_rooms hg hr (fun _ _ _ _ _ _ us hl => match us, hl with | [_, _], _ => rfl) (dag_cons (dw_var 10 (pv 10)) (dag_cons (dw_var 5 (pv 5)) dag_nil)))) (db_w (dw_tuple T.b_tuple (da_cons (db_var 6 (pv 6)) da_nil))))))) (dss_one (ds_ret dw_bl)) dss_nil)
    (dss_cons (ds_par2 11 12 sclaw.nd (daw_cons (dw_fn (π := [0, 1]) C__law_any hg hr (fun _ _ _ _ _ _ us hl => match us, hl with | [_, _], _ => rfl) (dag_cons (dw_var 1 (pv 1)) (dag_cons (dw_add (db_w (dw_len T.b_len (da_cons (db_var 4 (pv 4)) da_nil))) (db_w dw_int)) dag_nil))) (daw_cons (dw_add (db_w dw_int) (db_w (dw_fn (π := [0, 1]) C__law_any hg hr (fun _ _ _ _ _ _ us hl => match us, hl with | [_, _], _ => rfl) (dag_cons (dw_var 1 (pv 1)) (dag_cons (dw_var 5 (pv 5)) dag_nil))))) daw_nil)))
    (dss_cons (ds_set 13 sclaw.nd (dw_add (db_w (dw_add (db_w (dw_slice (db_var 4 (pv 4)) do_none (do_some (db_var 11 (pv 11))))) (db_w (dw_tup (daw_cons (dw_fn (π := [0, 1]) C__law_any hg hr (fun _ _ _ _ _ _ us hl => match us, hl with | [_, _], _ => rfl) (dag_cons (dw_var 1 (pv 1)) (dag_cons (dw_add (db_var 3 (pv 3)) (db_w dw_int)) dag_nil))) daw_nil))))) (db_w (dw_slice (db_var 4 (pv 4)) (do_some (db_var 11 (pv 11))) do_none))))
    (dss_cons (ds_par2 14 15 sclaw.nd (daw_cons (dw_sub (db_w (dw_len T.b_len (da_cons (db_var 4 (pv 4)) da_nil))) (db_w (dw_sub_ix (db_var 6 (pv 6)) (db_w (dw_sub (db_var 12 (pv 12)) (db_w dw_int)))))) (daw_cons (dw_fn (π := [0, 1]) C_fewest_misses hg hr (fun _ _ _ _ _ _ us hl => match us, hl with | [_, _], _ => rfl) (dag_cons (dw_var 13 (pv 13)) (dag_cons (dw_var 12 (pv 12)) dag_nil))) daw_nil)))
    (dss_one (ds_if (dt_w (dtw_or (dt_cmp (opOr op_ne (op_neD hu)) snd_ne (db_var 15 (pv 15)) (db_w (dw_sub (db_w (dw_len T.b_len (da_cons (db_var 13 (pv 13)) da_nil))) (db_w (dw_fn (π := [0, 1, 2]) C__law_spared hg hr (fun _ _ _ _ _ _ us hl => match us, hl with | [_, _, _], _ => rfl) (dag_cons (dw_var 13 (pv 13)) (dag_cons (dw_mulB (db_w (dw_lst (daw_cons dw_int daw_nil))) (db_w dw_int)) (dag_cons (dw_var 12 (pv 12)) dag_nil)))))))) (dtw_or (dt_cmp op_ltA snd_ord (db_var 15 (pv 15)) (db_var 14 (pv 14))) (dtw_or1 (dt_cmp op_gt snd_B0 (db_var 15 (pv 15)) (db_w (dw_add (db_var 14 (pv 14)) (db_w dw_int)))))))) (dss_one (ds_ret dw_bl)) dss_nil))))))))))))))))))
    (dss_one (ds_ret dw_bl))))
theorem ok_law {f : Addr} {fd : FuncData} (F : Fun K "law" "law" s_law f fd) (T : Txt mg) (C__law_draw : Cal P w K mg base 3 "_law_draw" s__law_draw ["_law_script", "_law_salt"] S__law_draw) (C__law_stretches : Cal P w K mg base 3 "_law_stretches" s__law_stretches ["_law_asks_here"] S__law_stretches) (C__law_mixed : Cal P w K mg base 3 "_law_mixed" s__law_mixed ["_law_deal", "_law_some"] S__law_mixed) (C__law_any : Cal P w K mg base 3 "_law_any" s__law_any ["_law_deal", "_law_bound"] S__law_any) (C__law_asks : Cal P w K mg base 3 "_law_asks" s__law_asks ["_law_deal", "_law_most", "_law_pages"] S__law_asks) (C__law_spared : Cal P w K mg base 3 "_law_spared" s__law_spared ["_law_asks_here", "_law_costs", "_law_m"] S__law_spared) (C_fewest_misses : Cal P w K mg base 3 "fewest_misses" s_fewest_misses ["asks", "m"] S_fewest_misses) (C_hits_by_rooms : Cal P w K mg base 3 "hits_by_rooms" s_hits_by_rooms ["asks", "most"] S_hits_by_rooms) : FnG P w K mg base CX0 4 f fd ["_law_script"] (spD K S_law) :=
  fn_D F sclaw len_law (fun cdv A outer s H E hg hr => der_law T C__law_draw C__law_stretches C__law_mixed C__law_any C__law_asks C__law_spared C_fewest_misses C_hits_by_rooms f cdv A outer s H E hg hr) wp_law
end
theorem all_mk {l : PySem.W.OpenLaw} {w : World} {K : PySem.W.Frag} {h : Heap} {mg : Str → Option Value} {fa : Addr} (X : K.In h) (G : h.Ns mainGlobals mg) (hfa : mg "law" = some (.ref fa))
    {oc0 kV0 dc0 pm0 cd0 ct0 : Value} {od0 an0 : Option Addr} {sl0 : Array (Option Value)} {f0 : Addr}
    (a0 : PySem.W.nsIn K mainGlobals "_law_draw" = some (some (.ref f0))) (l0 : K.lookup f0 = some ⟨oc0, od0, .func (PySem.W.fnOf "_law_draw" "_law_draw" (defArgs s__law_draw) (defBody s__law_draw) (defScope s__law_draw) .none kV0 dc0 pm0 an0 cd0 ct0), sl0⟩) (c0 : PySem.W.codeIn K cd0 "_law_draw" = true) (k0 : PySem.W.keepIn K (.ref f0) = true)
    {oc1 kV1 dc1 pm1 cd1 ct1 : Value} {od1 an1 : Option Addr} {sl1 : Array (Option Value)} {f1 : Addr}
    (a1 : PySem.W.nsIn K mainGlobals "_law_stretches" = some (some (.ref f1))) (l1 : K.lookup f1 = some ⟨oc1, od1, .func (PySem.W.fnOf "_law_stretches" "_law_stretches" (defArgs s__law_stretches) (defBody s__law_stretches) (defScope s__law_stretches) .none kV1 dc1 pm1 an1 cd1 ct1), sl1⟩) (c1 : PySem.W.codeIn K cd1 "_law_stretches" = true) (k1 : PySem.W.keepIn K (.ref f1) = true)
    {oc2 kV2 dc2 pm2 cd2 ct2 : Value} {od2 an2 : Option Addr} {sl2 : Array (Option Value)} {f2 : Addr}
    (a2 : PySem.W.nsIn K mainGlobals "_law_any" = some (some (.ref f2))) (l2 : K.lookup f2 = some ⟨oc2, od2, .func (PySem.W.fnOf "_law_any" "_law_any" (defArgs s__law_any) (defBody s__law_any) (defScope s__law_any) .none kV2 dc2 pm2 an2 cd2 ct2), sl2⟩) (c2 : PySem.W.codeIn K cd2 "_law_any" = true) (k2 : PySem.W.keepIn K (.ref f2) = true)
    {oc3 kV3 dc3 pm3 cd3 ct3 : Value} {od3 an3 : Option Addr} {sl3 : Array (Option Value)} {f3 : Addr}
    (a3 : PySem.W.nsIn K mainGlobals "_law_mixed" = some (some (.ref f3))) (l3 : K.lookup f3 = some ⟨oc3, od3, .func (PySem.W.fnOf "_law_mixed" "_law_mixed" (defArgs s__law_mixed) (defBody s__law_mixed) (defScope s__law_mixed) .none kV3 dc3 pm3 an3 cd3 ct3), sl3⟩) (c3 : PySem.W.codeIn K cd3 "_law_mixed" = true) (k3 : PySem.W.keepIn K (.ref f3) = true)
    {oc4 kV4 dc4 pm4 cd4 ct4 : Value} {od4 an4 : Option Addr} {sl4 : Array (Option Value)} {f4 : Addr}
    (a4 : PySem.W.nsIn K mainGlobals "_law_of" = some (some (.ref f4))) (l4 : K.lookup f4 = some ⟨oc4, od4, .func (PySem.W.fnOf "_law_of" "_law_of" (defArgs s__law_of) (defBody s__law_of) (defScope s__law_of) .none kV4 dc4 pm4 an4 cd4 ct4), sl4⟩) (c4 : PySem.W.codeIn K cd4 "_law_of" = true) (k4 : PySem.W.keepIn K (.ref f4) = true)
    {oc5 kV5 dc5 pm5 cd5 ct5 : Value} {od5 an5 : Option Addr} {sl5 : Array (Option Value)} {f5 : Addr}
    (a5 : PySem.W.nsIn K mainGlobals "_law_asks" = some (some (.ref f5))) (l5 : K.lookup f5 = some ⟨oc5, od5, .func (PySem.W.fnOf "_law_asks" "_law_asks" (defArgs s__law_asks) (defBody s__law_asks) (defScope s__law_asks) .none kV5 dc5 pm5 an5 cd5 ct5), sl5⟩) (c5 : PySem.W.codeIn K cd5 "_law_asks" = true) (k5 : PySem.W.keepIn K (.ref f5) = true)
    {oc6 kV6 dc6 pm6 cd6 ct6 : Value} {od6 an6 : Option Addr} {sl6 : Array (Option Value)} {f6 : Addr}
    (a6 : PySem.W.nsIn K mainGlobals "_law_spared" = some (some (.ref f6))) (l6 : K.lookup f6 = some ⟨oc6, od6, .func (PySem.W.fnOf "_law_spared" "_law_spared" (defArgs s__law_spared) (defBody s__law_spared) (defScope s__law_spared) .none kV6 dc6 pm6 an6 cd6 ct6), sl6⟩) (c6 : PySem.W.codeIn K cd6 "_law_spared" = true) (k6 : PySem.W.keepIn K (.ref f6) = true)
    {oc7 kV7 dc7 pm7 cd7 ct7 : Value} {od7 an7 : Option Addr} {sl7 : Array (Option Value)} {f7 : Addr}
    (a7 : PySem.W.nsIn K mainGlobals "stretches" = some (some (.ref f7))) (l7 : K.lookup f7 = some ⟨oc7, od7, .func (PySem.W.fnOf "stretches" "stretches" (defArgs s_stretches) (defBody s_stretches) (defScope s_stretches) .none kV7 dc7 pm7 an7 cd7 ct7), sl7⟩) (c7 : PySem.W.codeIn K cd7 "stretches" = true) (k7 : PySem.W.keepIn K (.ref f7) = true)
    {oc8 kV8 dc8 pm8 cd8 ct8 : Value} {od8 an8 : Option Addr} {sl8 : Array (Option Value)} {f8 : Addr}
    (a8 : PySem.W.nsIn K mainGlobals "furthest" = some (some (.ref f8))) (l8 : K.lookup f8 = some ⟨oc8, od8, .func (PySem.W.fnOf "furthest" "furthest" (defArgs s_furthest) (defBody s_furthest) (defScope s_furthest) .none kV8 dc8 pm8 an8 cd8 ct8), sl8⟩) (c8 : PySem.W.codeIn K cd8 "furthest" = true) (k8 : PySem.W.keepIn K (.ref f8) = true)
    {oc9 kV9 dc9 pm9 cd9 ct9 : Value} {od9 an9 : Option Addr} {sl9 : Array (Option Value)} {f9 : Addr}
    (a9 : PySem.W.nsIn K mainGlobals "fewest_misses" = some (some (.ref f9))) (l9 : K.lookup f9 = some ⟨oc9, od9, .func (PySem.W.fnOf "fewest_misses" "fewest_misses" (defArgs s_fewest_misses) (defBody s_fewest_misses) (defScope s_fewest_misses) .none kV9 dc9 pm9 an9 cd9 ct9), sl9⟩) (c9 : PySem.W.codeIn K cd9 "fewest_misses" = true) (k9 : PySem.W.keepIn K (.ref f9) = true)
    {oc10 kV10 dc10 pm10 cd10 ct10 : Value} {od10 an10 : Option Addr} {sl10 : Array (Option Value)} {f10 : Addr}
    (a10 : PySem.W.nsIn K mainGlobals "hits_by_rooms" = some (some (.ref f10))) (l10 : K.lookup f10 = some ⟨oc10, od10, .func (PySem.W.fnOf "hits_by_rooms" "hits_by_rooms" (defArgs s_hits_by_rooms) (defBody s_hits_by_rooms) (defScope s_hits_by_rooms) .none kV10 dc10 pm10 an10 cd10 ct10), sl10⟩) (c10 : PySem.W.codeIn K cd10 "hits_by_rooms" = true) (k10 : PySem.W.keepIn K (.ref f10) = true)
    {oc11 kV11 dc11 pm11 cd11 ct11 : Value} {od11 an11 : Option Addr} {sl11 : Array (Option Value)} {f11 : Addr}
    (a11 : PySem.W.nsIn K mainGlobals "law" = some (some (.ref f11))) (l11 : K.lookup f11 = some ⟨oc11, od11, .func (PySem.W.fnOf "law" "law" (defArgs s_law) (defBody s_law) (defScope s_law) .none kV11 dc11 pm11 an11 cd11 ct11), sl11⟩) (c11 : PySem.W.codeIn K cd11 "law" = true) (k11 : PySem.W.keepIn K (.ref f11) = true)
    (z_abs : PySem.W.nsIn K mainGlobals "abs" = some none) (z_dict : PySem.W.nsIn K mainGlobals "dict" = some none) (z_enumerate : PySem.W.nsIn K mainGlobals "enumerate" = some none) (z_int : PySem.W.nsIn K mainGlobals "int" = some none) (z_len : PySem.W.nsIn K mainGlobals "len" = some none) (z_list : PySem.W.nsIn K mainGlobals "list" = some none) (z_max : PySem.W.nsIn K mainGlobals "max" = some none) (z_range : PySem.W.nsIn K mainGlobals "range" = some none) (z_repr : PySem.W.nsIn K mainGlobals "repr" = some none) (z_sorted : PySem.W.nsIn K mainGlobals "sorted" = some none) (z_tuple : PySem.W.nsIn K mainGlobals "tuple" = some none) :
    ∃ fd : FuncData, (∀ (s : Shared) (v : Value), BindsTo s fd ⟨[v], []⟩ [("_law_script", v)]) ∧ ∀ base : Heap, K.In base → base.Ns mainGlobals mg → FnG l.prog w K mg base CX0 4 fa fd ["_law_script"] (spD K lawS) := by
  have e := hfa.symm.trans (PySem.W.mg_of X G a11)
  cases e
  have T : Txt mg := ⟨PySem.W.mg_none_of X G z_abs, PySem.W.mg_none_of X G z_dict, PySem.W.mg_none_of X G z_enumerate, PySem.W.mg_none_of X G z_int, PySem.W.mg_none_of X G z_len, PySem.W.mg_none_of X G z_list, PySem.W.mg_none_of X G z_max, PySem.W.mg_none_of X G z_range, PySem.W.mg_none_of X G z_repr, PySem.W.mg_none_of X G z_sorted, PySem.W.mg_none_of X G z_tuple⟩
  have F0 := fun_mk (st := s__law_draw) l0 c0 k0
  have F1 := fun_mk (st := s__law_stretches) l1 c1 k1
  have F2 := fun_mk (st := s__law_any) l2 c2 k2
  have F3 := fun_mk (st := s__law_mixed) l3 c3 k3
  have F4 := fun_mk (st := s__law_of) l4 c4 k4
  have F5 := fun_mk (st := s__law_asks) l5 c5 k5
  have F6 := fun_mk (st := s__law_spared) l6 c6 k6
  have F7 := fun_mk (st := s_stretches) l7 c7 k7
  have F8 := fun_mk (st := s_furthest) l8 c8 k8
  have F9 := fun_mk (st := s_fewest_misses) l9 c9 k9
  have F10 := fun_mk (st := s_hits_by_rooms) l10 c10 k10
  have F11 := fun_mk (st := s_law) l11 c11 k11
  refine ⟨PySem.W.fnOf "law" "law" (defArgs s_law) (defBody s_law) (defScope s_law) .none kV11 dc11 pm11 an11 cd11 ct11, fun s v => .of_eq rfl, fun base _ _ => ?_⟩
  have C__law_draw : Cal l.prog w K mg base 1 "_law_draw" s__law_draw ["_law_script", "_law_salt"] S__law_draw := ⟨⟨_, _, F0, PySem.W.mg_of X G a0, ok__law_draw F0 T ⟩⟩
  have C__law_stretches : Cal l.prog w K mg base 1 "_law_stretches" s__law_stretches ["_law_asks_here"] S__law_stretches := ⟨⟨_, _, F1, PySem.W.mg_of X G a1, ok__law_stretches F1 T ⟩⟩
  have C__law_any : Cal l.prog w K mg base 1 "_law_any" s__law_any ["_law_deal", "_law_bound"] S__law_any := ⟨⟨_, _, F2, PySem.W.mg_of X G a2, ok__law_any F2 T ⟩⟩
  have C__law_mixed : Cal l.prog w K mg base 2 "_law_mixed" s__law_mixed ["_law_deal", "_law_some"] S__law_mixed := ⟨⟨_, _, F3, PySem.W.mg_of X G a3, ok__law_mixed F3 T (C__law_any.mono (by decide))⟩⟩
  have C__law_of : Cal l.prog w K mg base 2 "_law_of" s__law_of ["_law_deal", "_law_some"] S__law_of := ⟨⟨_, _, F4, PySem.W.mg_of X G a4, ok__law_of F4 T (C__law_any.mono (by decide))⟩⟩
  have C__law_asks : Cal l.prog w K mg base 3 "_law_asks" s__law_asks ["_law_deal", "_law_most", "_law_pages"] S__law_asks := ⟨⟨_, _, F5, PySem.W.mg_of X G a5, ok__law_asks F5 T (C__law_any.mono (by decide)) (C__law_of.mono (by decide))⟩⟩
  have C__law_spared : Cal l.prog w K mg base 1 "_law_spared" s__law_spared ["_law_asks_here", "_law_costs", "_law_m"] S__law_spared := ⟨⟨_, _, F6, PySem.W.mg_of X G a6, ok__law_spared F6 T ⟩⟩
  have C_stretches : Cal l.prog w K mg base 1 "stretches" s_stretches ["asks"] S_stretches := ⟨⟨_, _, F7, PySem.W.mg_of X G a7, ok_stretches F7 T ⟩⟩
  have C_furthest : Cal l.prog w K mg base 2 "furthest" s_furthest ["asks", "m"] S_furthest := ⟨⟨_, _, F8, PySem.W.mg_of X G a8, ok_furthest F8 T (C_stretches.mono (by decide))⟩⟩
  have C_fewest_misses : Cal l.prog w K mg base 3 "fewest_misses" s_fewest_misses ["asks", "m"] S_fewest_misses := ⟨⟨_, _, F9, PySem.W.mg_of X G a9, ok_fewest_misses F9 T (C_furthest.mono (by decide))⟩⟩
  have C_hits_by_rooms : Cal l.prog w K mg base 3 "hits_by_rooms" s_hits_by_rooms ["asks", "most"] S_hits_by_rooms := ⟨⟨_, _, F10, PySem.W.mg_of X G a10, ok_hits_by_rooms F10 T (C_furthest.mono (by decide))⟩⟩
  exact ok_law F11 T (C__law_draw.mono (by decide)) (C__law_stretches.mono (by decide)) (C__law_mixed.mono (by decide)) (C__law_any.mono (by decide)) (C__law_asks.mono (by decide)) (C__law_spared.mono (by decide)) (C_fewest_misses.mono (by decide)) (C_hits_by_rooms.mono (by decide))
theorem walk {l : PySem.W.OpenLaw} {q : Program} {loose : List Str} {XP : (Str → Option Value) → Heap → Prop} {YP : World → Heap → Prop} {d : DefRec} {K : Params → PySem.W.Frag} (hn : l.most = some 63) (hdf : d.params.defaults = []) (hY : ∀ (w : World) (h : Heap), YP w h → (K w.params).In h)
    (F : ∀ (w : World) (mg : Str → Option Value) (fa : Addr) (h : Heap), (K w.params).In h → h.Ns mainGlobals mg → mg d.name = some (.ref fa) → ∃ fd : FuncData, (∀ (s : Shared) (u : Value), BindsTo s fd ⟨[u], []⟩ [("_law_script", u)]) ∧
      ∀ base : Heap, (K w.params).In base → base.Ns mainGlobals mg → FnG l.prog w (K w.params) mg base CX0 4 fa fd ["_law_script"] (spD (K w.params) lawS)) : PySem.W.WalkO q loose XP YP l.row.toRowW d [] (fun f vs => PySem.call f vs) :=
  walk_G hn hdf ⟨rfl, by decide, by decide⟩ hY F
end K

open PySem PySem.W PyProof.Rows in
set_option maxRecDepth 100000 in
set_option maxHeartbeats 0 in
theorem PySem.Challenge.cw_fewestpours_k37_whole_more_rooms_holds : PySem.Challenge.rw_fewestpours_k37_whole_more_rooms.Holds := by
  w_on; o_law; k_head; (case hw => w_witness2)
  k_fill
  refine K.walk (l := PySem.Challenge.rw_fewestpours_k37_whole_more_rooms) rfl rfl (fun w h Y => PySem.W.kIn_of Y) ?F
  case F =>
    intro w mg fa h KX G hmg
    refine' K.all_mk KX G hmg ?a0 ?l0 ?c0 ?k0 ?a1 ?l1 ?c1 ?k1 ?a2 ?l2 ?c2 ?k2 ?a3 ?l3 ?c3 ?k3 ?a4 ?l4 ?c4 ?k4 ?a5 ?l5 ?c5 ?k5 ?a6 ?l6 ?c6 ?k6 ?a7 ?l7 ?c7 ?k7 ?a8 ?l8 ?c8 ?k8 ?a9 ?l9 ?c9 ?k9 ?a10 ?l10 ?c10 ?k10 ?a11 ?l11 ?c11 ?k11 ?z_abs ?z_dict ?z_enumerate ?z_int ?z_len ?z_list ?z_max ?z_range ?z_repr ?z_sorted ?z_tuple
    (case a0 => k_is)
    (case l0 => k_is)
    (case c0 => k_is)
    (case k0 => k_is)
    (case a1 => k_is)
    (case l1 => k_is)
    (case c1 => k_is)
    (case k1 => k_is)
    (case a2 => k_is)
    (case l2 => k_is)
    (case c2 => k_is)
    (case k2 => k_is)
    (case a3 => k_is)
    (case l3 => k_is)
    (case c3 => k_is)
    (case k3 => k_is)
    (case a4 => k_is)
    (case l4 => k_is)
    (case c4 => k_is)
    (case k4 => k_is)
    (case a5 => k_is)
    (case l5 => k_is)
    (case c5 => k_is)
    (case k5 => k_is)
    (case a6 => k_is)
    (case l6 => k_is)
    (case c6 => k_is)
    (case k6 => k_is)
    (case a7 => k_is)
    (case l7 => k_is)
    (case c7 => k_is)
    (case k7 => k_is)
    (case a8 => k_is)
    (case l8 => k_is)
    (case c8 => k_is)
    (case k8 => k_is)
    (case a9 => k_is)
    (case l9 => k_is)
    (case c9 => k_is)
    (case k9 => k_is)
    (case a10 => k_is)
    (case l10 => k_is)
    (case c10 => k_is)
    (case k10 => k_is)
    (case a11 => k_is)
    (case l11 => k_is)
    (case c11 => k_is)
    (case k11 => k_is)
    (case z_abs => k_is)
    (case z_dict => k_is)
    (case z_enumerate => k_is)
    (case z_int => k_is)
    (case z_len => k_is)
    (case z_list => k_is)
    (case z_max => k_is)
    (case z_range => k_is)
    (case z_repr => k_is)
    (case z_sorted => k_is)
    (case z_tuple => k_is)
