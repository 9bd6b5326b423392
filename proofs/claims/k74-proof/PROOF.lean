import PyProof.Rows.All
import Wide.All
import OpenK.AllK
import Wide.FinOn
import HandS.ForSpec
import HandS.ForMost
import HandS.Walk
import HandS.Flow
import HandS.TupAny
import HandS.TupMul
import HandS.IsInst
import HandS.Conv
import HandS.Style
import HandS.Wide
import HandS.Lambda
import HandS.Nested
import HandS.Zip
import KE.GoesMore
import KE.GoesZip
import HandS.Defaults
import HandS.CallSlots
import HandS.ExcCtx
import HandS.HeadHook1
import HandS.ExcInit
import HandS.Hot
import HandS.HotCalls
import HandS.ExcIs
import KE.KExcIs
import HandS.EndTab
import HandS.CallLocal
import HandS.HeadHook4
import HandS.HeadWalk
import HandS.Head2
import HandS.HeadEnd
import PySem.Challenge.RW_anynumeral_k74_whole_rules_grown_step_by
set_option Elab.async false
set_option linter.all false
set_option maxRecDepth 100000
set_option maxHeartbeats 4000000
set_option autoImplicit false
/-! Vs: tuples whose object is known to have no dict (their methods may be asked), and what makes them. -/
namespace Vs
open PySem PySem.Spec PyProof.Rows L2

/-- a new tuple's entry -/
def XT (xs : List V) (u : HO) : Prop := ∃ o : Obj, u = .frz o (.tup xs) ∧ o.dict = none ∧ o.slots = #[]
def SqX (K : PySem.W.Frag) (H : Hp) (a : Addr) (xs : List V) : Prop :=
  (∃ u, H a = some u ∧ XT xs u) ∨ ∃ (o : Obj) (its : Array Value) (n : Nat), K.lookup a = some o ∧ o.cls = .type "tuple" ∧ o.dict = none ∧ o.slots = #[] ∧ o.data = .seq its n ∧ its.size ≤ sizeLine ∧ Vals xs its.toList
theorem SqX.t {K : PySem.W.Frag} {H : Hp} {a : Addr} {xs : List V} (h : SqX K H a xs) : SqT K H a xs := by
  rcases h with ⟨u, h1, o, rfl, h2⟩ | ⟨o, its, n, h1, h2, h3, h3', h4⟩
  · exact Or.inl (Or.inr ⟨o, h1⟩)
  · exact Or.inr ⟨o, its, n, h1, h2, h4⟩
theorem SqX.up {K : PySem.W.Frag} {H H' : Hp} {a : Addr} {xs : List V} (e : Same H H') (h : SqX K H a xs) : SqX K H' a xs := by
  rcases h with ⟨u, h1, h2⟩ | h
  · exact Or.inl ⟨u, e _ _ h1, h2⟩
  · exact Or.inr h
theorem XT.nt {xs : List V} {u : HO} (h : XT xs u) : ∀ ps, u ≠ .tbl ps := by
  obtain ⟨o, rfl, _⟩ := h
  intro ps z; cases z
/-- the object of such a tuple -/
theorem SqX.obj {X : Cx} {pins : List (Addr × Obj)} {σ : L2.St} {H : Hp} {s : Shared} {a : Addr} {xs : List V} (I : Inv X pins σ H s) (h : SqX X.K H a xs) :
    ∃ (its : List Value) (n : Nat), s.heap.get? a = some { cls := .type "tuple", dict := none, data := .seq its.toArray n, slots := #[] } ∧ Vals xs its ∧ xs.length ≤ sizeLine := by
  have key : ∀ (o : Obj) (d : Data), o.cls = .type "tuple" → o.dict = none → o.slots = #[] → o.data = d → o = { cls := .type "tuple", dict := none, data := d, slots := #[] } := fun o d h1 h2 h3 h4 => by
    cases o
    dsimp only at h1 h2 h3 h4
    subst h1 h2 h3 h4
    rfl
  rcases h with ⟨u, h1, o, rfl, h2, h3⟩ | ⟨o, its, n, h1, h2, h3, h3', h4, h5, h6⟩
  · obtain ⟨e, z, its, r, ⟨o', e', c, n, d⟩⟩ := I.hok a _ h1
    rw [e] at e'; cases e'
    exact ⟨its, n, by rw [e, key o _ c h2 h3 d], r, z⟩
  · have e := h6.length
    simp only [Array.length_toList] at e
    exact ⟨its.toList, n, by rw [I.kIn a o h1, key o _ h2 h3 h3' (by simpa using h4)], h6, by omega⟩
section
variable {X : Cx} {pins : List (Addr × Obj)} {σ : L2.St} {H : Hp} {s : Shared}
theorem laidX {us : List Value} {xs : List V} {h : Heap} {t : Nat} (I : Inv X pins σ H { s with heap := h, toks := t }) (r : Vals xs us) (z : xs.length ≤ sizeLine) :
    ∃ u, XT xs u ∧ Inv X pins σ (upd H h.objs.size u) { s with heap := h.push { cls := .type "tuple", data := .seq us.toArray }, toks := t } ∧ H h.objs.size = none := by
  have e : (h.push { cls := .type "tuple", data := .seq us.toArray }).get? h.objs.size = some { cls := .type "tuple", data := .seq us.toArray } := Heap.get?_push_size _ rfl
  refine ⟨.frz { cls := .type "tuple", data := .seq us.toArray } (.tup xs), ⟨_, rfl, rfl, rfl⟩, ?_, I.hok.fresh (Nat.le_refl _)⟩
  exact I.laid (t' := t) (fun b o q => Heap.get?_push_of_some _ q) (Nat.le_refl _) ⟨e, z, us, r, IsTup.new _ _⟩
def tTupX (t : TA) : TE := fun σ H Q => t σ H fun xs H1 => xs.length ≤ sizeLine ∧ ∀ p u, H1 p = none → XT xs u → Q (.ref p) (upd H1 p u)
theorem pe_tupX {es : List Expr} {t : TA} {k : Nat} {pos : Pos} (h : PA X es t) : PE X (.Tuple es k pos) (tTupX t) := by
  refine ⟨fun pins s σ H Q I hq => wpAny_Tuple_spliced (thn (h.run pos pins s σ H _ I hq) fun us s1 y => ?_)⟩
  obtain ⟨xs, H1, I1, r, z, q⟩ := y
  obtain ⟨u, hu, I2, hn⟩ := laidX (s := s1) (h := s1.heap) (t := s1.toks) I1 r z
  exact ⟨by rw [← r.length]; exact z, .ref s1.heap.objs.size, _, I2, rfl, q _ u hn hu⟩
/-- t + u -/
def rCatX (K : PySem.W.Frag) : R2 := fun x y H Q => ∃ a b xs ys, x = .ref a ∧ y = .ref b ∧ SqT K H a xs ∧ SqT K H b ys ∧ xs.length + ys.length ≤ sizeLine ∧
  (xs = [] → Q (.ref b) H) ∧ (xs ≠ [] → ys = [] → Q (.ref a) H) ∧ (xs ≠ [] → ys ≠ [] → ∀ p u, H p = none → XT (xs ++ ys) u → Q (.ref p) (upd H p u))
theorem op_catX : OpR X (binaryOp .Add) (rCatX X.K) := by
  intro pins s σ H x y v u Q I rx ry h
  obtain ⟨a, b, xs, ys, rfl, rfl, ha, hb, hz, q0, q1, q2⟩ := h
  by_cases hx : xs = []
  · exact op_catA pins s σ H _ _ v u Q I rx ry ⟨a, b, xs, ys, rfl, rfl, ha, hb, hz, q0, q1, fun z => absurd hx z⟩
  · cases rx
    cases ry
    obtain ⟨its, r1, p1, _⟩ := I.tuple ha
    obtain ⟨its2, r2, p2, _⟩ := I.tuple hb
    have n1 : its ≠ [] := fun z => hx (r1.nil_iff.mp z)
    refine HT.cat_tup p1 p2 n1 (fun z => ?_) (fun z => ?_) ?_
    · exact ⟨.ref a, H, I, rfl, q1 hx (r2.nil_iff.mp z)⟩
    · obtain ⟨w, hw, I2, hn⟩ := laidX (s := s) (h := s.heap) (t := s.toks) I (r1.append r2) (by rw [List.length_append]; exact hz)
      exact ⟨.ref s.heap.objs.size, _, I2, rfl, q2 hx (fun e => z (r2.nil_iff.mpr e)) _ w hn hw⟩
    · rw [← r1.length, ← r2.length]; exact hz
/-- t[lo:hi] -/
def rSlX (K : PySem.W.Frag) : V → Option Int → Option Int → Hp → VK → Prop := fun x lo hi H Q => ∃ a xs, x = .ref a ∧ SqT K H a xs ∧
  (HT.sIx xs.length 0 lo = 0 ∧ HT.sIx xs.length xs.length hi = xs.length → Q (.ref a) H) ∧
  (¬ (HT.sIx xs.length 0 lo = 0 ∧ HT.sIx xs.length xs.length hi = xs.length) → ∀ p u, H p = none → XT (cutV xs lo hi) u → Q (.ref p) (upd H p u))
theorem sl_tupX : SlR X (rSlX X.K) := by
  intro pins s σ H x v vl vu lo hi sl Q I rx hs pl pu h
  obtain ⟨a, xs, rfl, hx, q1, q2⟩ := h
  by_cases hw : HT.sIx xs.length 0 lo = 0 ∧ HT.sIx xs.length xs.length hi = xs.length
  · exact sl_tupA pins s σ H _ v vl vu lo hi sl Q I rx hs pl pu ⟨a, xs, rfl, hx, q1, fun z => absurd hw z⟩
  · cases rx
    obtain ⟨its, r, ht, hz⟩ := I.tuple hx
    have e : its.toArray.size = xs.length := by rw [List.size_toArray]; exact r.length.symm
    refine ⟨"tuple", _, PyProof.Rows.slot_tuple_getitem.lookup, ht.typeIs, ?_⟩
    refine HT.getItem_tuple_cut ht hs pl pu (by rw [e]; exact hw) ?_ (by rw [e]; exact hz)
    rw [e]
    have rr := (r.drop (HT.sIx xs.length 0 lo)).take (HT.sIx xs.length xs.length hi - HT.sIx xs.length 0 lo)
    obtain ⟨w, h1, I2, hn⟩ := laidX (s := s) (h := s.heap) (t := s.toks) I rr (Nat.le_trans (cutV_length xs lo hi) hz)
    exact ⟨.ref s.heap.objs.size, _, I2, rfl, q2 hw _ w hn h1⟩
/-- tuple(list), tuple(tuple) -/
def rTupX (K : PySem.W.Frag) : List V → Hp → VK → Prop := fun xs H Q => ∃ p ys, xs = [.ref p] ∧ ((SqL K H p ys ∧ ∀ l u, H l = none → XT ys u → Q (.ref l) (upd H l u)) ∨ (SqT K H p ys ∧ Q (.ref p) H))
theorem call_tupleX : CallR X (.type "tuple") (rTupX X.K) := by
  intro pins s σ H xs us Q I r h
  obtain ⟨p, ys, rfl, h⟩ := h
  rcases h with ⟨hq, q⟩ | ⟨hq, q⟩
  · obtain ⟨u, rfl, rx⟩ := r.one
    cases rx
    obtain ⟨its, r2, pl, hz⟩ := I.list hq
    have e := r2.length
    refine call_tuple_list pl.isList (fun h' kp => ?_) (by rw [List.size_toArray]; omega)
    obtain ⟨w, hw, I2, hn⟩ := laidX (s := s) (h := h') (t := s.toks) (I.kept kp) r2 hz
    exact ⟨.ref h'.objs.size, _, I2, rfl, q _ w hn hw⟩
  · exact call_tupleT pins s σ H _ us Q I r ⟨p, ys, rfl, hq, q⟩
/-- t * k, k two or more -/
def rRepX (K : PySem.W.Frag) : R2 := fun x y H Q => ∃ l k xs, x = .ref l ∧ y = .int k ∧ SqT K H l xs ∧ xs ≠ [] ∧ 2 ≤ k ∧ xs.length * k.toNat ≤ 1000000 ∧ ∀ p u, H p = none → XT (List.replicate k.toNat xs).flatten u → Q (.ref p) (upd H p u)
theorem op_repX : OpR X (binaryOp .Mult) (rRepX X.K) := by
  intro pins s σ H x y v u Q I rx ry h
  obtain ⟨l, k, xs, rfl, rfl, hT, hne, hk, hm, q⟩ := h
  obtain ⟨t, rfl⟩ := ry
  cases rx
  obtain ⟨its, r, ⟨⟨cls, dd, data, sl⟩, ho, hc, n, hd⟩, hs⟩ := I.tuple hT
  dsimp only at hc hd
  subst hc
  subst hd
  have el : its.length = xs.length := r.length.symm
  have x1 : 1 ≤ xs.length := by
    cases xs with
    | nil => exact absurd rfl hne
    | cons _ _ => exact Nat.succ_le_succ (Nat.zero_le _)
  have hi : its.toArray.isEmpty = false := by
    cases its with
    | nil => rw [← el] at x1; exact absurd x1 (by decide)
    | cons _ _ => rfl
  have hkn : ((k.toNat : Nat) : Int) = k := Int.toNat_of_nonneg (by omega)
  have hmul : ((its.toArray.size : Nat) : Int) * k = ((xs.length * k.toNat : Nat) : Int) := by
    rw [List.size_toArray, el, Int.natCast_mul, hkn]
  have kle : k.toNat ≤ 1000000 := Nat.le_trans (Nat.le_mul_of_pos_left _ x1) hm
  have flen : (List.replicate k.toNat its).flatten.length = xs.length * k.toNat := by
    rw [PyProof.Rows.lm_len_rep_flat, el, Nat.mul_comm]
  have c0 : (decide (k < -(2 ^ 63)) || decide (k ≥ 2 ^ 63)) = false := by
    rw [decide_eq_false (by omega), decide_eq_false (by omega)]; rfl
  have c1 : (its.toArray.isEmpty || k == 1) = false := by
    rw [hi, Bool.false_or]; exact beq_eq_false_iff_ne.mpr (by omega)
  have c2 : (decide (k ≤ 0) || its.toArray.isEmpty) = false := by
    rw [hi, Bool.or_false]; exact decide_eq_false (by omega)
  have c3 : ¬ ((its.toArray.size : Nat) : Int) * k > (2 ^ 63 - 1) / 8 := by rw [hmul]; omega
  have c4 : Builtin.Tuple.tupleTooMany (((its.toArray.size : Nat) : Int) * k) = false := by
    rw [hmul]
    unfold Builtin.Tuple.tupleTooMany
    rw [sizeLine_eq]
    exact decide_eq_false (by omega)
  have c5 : (List.foldl (fun x1 x2 => x1 ++ x2) #[] (List.replicate k.toNat its.toArray)).size ≤ sizeLine := by
    rw [size_rep, List.size_toArray, flen, sizeLine_eq]; omega
  have tl : Shared.TypeIs s (.ref l) "tuple" := ⟨_, ho, rfl⟩
  have body := tuple_mulW l its.toArray n dd sl k t c0 c1 c2 c3 c4 c5
  refine wpAny_binaryOp_repeat_ref (T := "tuple") (U := "int") (by decide) tl (fun s' => typeIs_int s' k t) noFill_tuple_mul F.fills_int_mul F.slot_int_rmul repeat_tuple F.slot_int_index.lookup ?_
  refine call_meets F.slot_int_rmul (typeIs_int s k t) F.entry_int_rmul (F.args_int_rmul_2 _ _) (int_rmul_tuple k t l its.toArray n dd sl) ⟨ho, rfl, tl, ?_⟩
  refine call_meets F.slot_tuple_mul tl F.entry_tuple_mul (F.args_tuple_mul_2 _ _) body ⟨ho, ?_⟩
  rw [size_rep]
  obtain ⟨w, hw, I2, hn⟩ := laidX (s := s) (h := s.heap) (t := s.toks) I (r.rep k.toNat) (by rw [PyProof.Rows.lm_len_rep_flat, sizeLine_eq, Nat.mul_comm]; omega)
  exact ⟨.ref s.heap.objs.size, _, I2, rfl, q _ w hn hw⟩
/-- a list extended by a list or a tuple -/
def rExtX (K : PySem.W.Frag) : V → List V → Hp → VK → Prop := fun x vs H Q => ∃ l b xs zs, x = .ref l ∧ vs = [.ref b] ∧ H l = some (.lst xs) ∧ (H b = some (.lst zs) ∨ SqX K H b zs) ∧ xs.length + zs.length ≤ sizeLine ∧ Q .non (upd H l (.lst (xs ++ zs)))
theorem mt_extendX : MtM X "list.extend" (rExtX X.K) := by
  intro pins s σ H x vs v us Q I rx rv h
  obtain ⟨l, b, xs, zs, rfl, rfl, hH, hB, hz, q⟩ := h
  rcases hB with hB | hB
  · exact mt_extend pins s σ H _ _ v us Q I rx rv ⟨l, b, xs, zs, rfl, rfl, hH, hB, hz, q⟩
  · obtain ⟨u, rfl, ru⟩ := rv.one
    cases ru
    cases rx
    obtain ⟨z, its, n, r, hl, e⟩ := I.lstM hH
    obtain ⟨ts, m, ho, r2, hs⟩ := SqX.obj I hB
    have e2 := r2.length
    have hsz : its.toArray.size + ts.toArray.size ≤ sizeLine := by rw [List.size_toArray, List.size_toArray]; omega
    have hlong : ¬ (!its.toArray.isEmpty && Builtin.List.listTooLong (its.toArray.size + ts.toArray.size)) = true := by
      rw [notLongL hsz, Bool.and_false]; decide
    refine call_meets F.slot_list_extend ⟨_, e, rfl⟩ F.entry_list_extend (F.args_list_extend_2 _ _) (AutoSeq1.list_extend_list_tuple_0 l its.toArray n b ts.toArray m hlong (by rw [List.size_toArray]; omega) (by omega)) ⟨e, ho, ?_⟩
    have hlen : (xs ++ zs).length ≤ sizeLine := by rw [List.length_append]; omega
    exact ⟨.non, _, I.lset (its' := its ++ ts) hH e (by simp) (r.append r2) hlen, rfl, q⟩
/-- a tuple's method, asked of a tuple that is so known -/
def tXM (K : PySem.W.Frag) (r : V → List V → Hp → VK → Prop) (to : TE) (t : TA) : TE := fun σ H Q => to σ H fun x H1 => (∃ p xs, x = .ref p ∧ SqX K H1 p xs) ∧ t σ H1 fun ys H2 => r x ys H2 Q
theorem pe_tm {name : Str} {id : String} {r : V → List V → Hp → VK → Prop} {o e : Expr} {es : List Expr} {to : TE} {t : TA} {apos cpos : Pos}
    (slot : Slot "tuple" name id) (hty : typeOf (.builtin id) = pure (.type "method_descriptor")) (hm : MtR X id r) (ho : PE X o to) (ha : PA X (e :: es) t)
    (hbase : attributeBase o name X.env (eval o X.env) = eval o X.env := by rfl)
    (hfew : ((backTo cpos (starEach (e :: es) X.env)).all (fun x => !x.1) && (backToKw cpos (keywordEach [] X.env)).all (fun x => x.1.isSome) && decide ((e :: es).length + ([] : List Keyword).length + (if ([] : List Keyword).isEmpty then 0 else 1) < 30)) = true := by rfl)
    (hline : (apos.endLine == cpos.line) = true := by rfl) (hs : starEach (e :: es) X.env = (false, eval e X.env) :: starEach es X.env := by rfl) (hplain : (backTo cpos (starEach es X.env)).any (·.1) = false := by rfl) :
    PE X (.Call (.Attribute o name apos) (e :: es) [] cpos) (tXM X.K r to t) := by
  refine ⟨fun pins s σ H Q I h => wpAny_Call_method_late hbase hfew hline rfl (thn (ho.run pins s σ H _ I h) fun v s1 y => ?_)⟩
  obtain ⟨x, H1, I1, r1, ⟨p, xs, rfl, hx⟩, q1⟩ := y
  obtain ⟨its, n, e0, _, _⟩ := SqX.obj I1 hx
  obtain rfl : v = Value.ref p := r1
  refine ⟨"tuple", id, PySem.F.plainAttrs_tuple, slot, hty, ⟨_, e0, rfl⟩, fun a ea => ?_, ?_⟩
  · cases ea; exact ⟨_, e0, rfl⟩
  · have hA := ha.run cpos pins s1 σ H1 _ I1 q1
    rw [hs] at hA ⊢
    refine Calls.callWith_builtin ?_ (Calls.evalArgs_plain (thn hA fun us s2 z => ?_))
    · show (false || (backTo cpos (starEach es X.env)).any (·.1)) = false
      rw [hplain]; rfl
    · obtain ⟨vs, H2, I2, r2, q2⟩ := z
      exact hm pins s2 σ H2 (.ref p) vs (.ref p) us Q I2 (show L2.RelV (V.ref p) (Value.ref p) from rfl) r2 q2
/-- t.count(x): flat things -/
def rTCnt (K : PySem.W.Frag) : V → List V → Hp → VK → Prop := fun x xs H Q => ∃ (p : Addr) (ys : List V) (y : V), x = .ref p ∧ xs = [y] ∧ SqX K H p ys ∧ flatV y = true ∧ ys.all flatV = true ∧ Q (.int (ys.countP (fun z => eqV z y) : Nat)) H
theorem cnt_eqU {x : V} : ∀ {xs : List V} {us : List Value}, Vals xs us → xs.all flatV = true → us.countP (eqU x) = xs.countP fun y => eqV y x
  | _, _, .nil, _ => rfl
  | y :: xs, u :: us, .cons r t, f => by
    have f2 := List.all_cons ▸ f
    obtain ⟨f3, f4⟩ := Bool.and_eq_true_iff.mp f2
    rw [List.countP_cons, List.countP_cons, cnt_eqU t f4, eqU_of r f3]
theorem mt_tcount : MtR X "tuple.count" (rTCnt X.K) := by
  intro pins s σ H x xs v us Q I rx rxs h
  obtain ⟨p, ys, y, rfl, rfl, hs, fy, fys, q⟩ := h
  obtain ⟨uy, rfl, ry⟩ := rxs.one
  obtain rfl : v = Value.ref p := rx
  obtain ⟨its, n, e0, rv, hz⟩ := SqX.obj I hs
  refine call_meets PySem.F.slot_tuple_count ⟨_, e0, rfl⟩ PySem.F.entry_tuple_count (PySem.F.args_tuple_count_2 _ _) (SeqAt.tuple_countAt p its.toArray n none #[] uy (eqU y)) ⟨e0, fun w hw => ?_, ?_⟩
  · exact mem_eqAt ry fy rv fys w (by simpa using hw)
  · have e1 : its.toArray.toList.countP (eqU y) = ys.countP fun z => eqV z y := by rw [List.toList_toArray]; exact cnt_eqU rv fys
    rw [e1]
    exact ⟨.int _, H, I.tok _, ⟨_, rfl⟩, q⟩
end
end Vs
/-! Vs: values by what they are, over the hand layer. -/
namespace Vs
open PySem PySem.Spec PyProof.Rows L2 LamX NdefX

inductive D where
  | non
  | bl (b : Bool)
  | int (i : Int)
  | str (x : Str)
  | ref (a : Addr)
  | ty (n : String)
  | tup (xs : List D)
  | lst (xs : List D)
  | sq (xs : List D)
  | ins (C : Addr) (fs : List (Str × D))
  | dic (ks : List (Key × D))
  deriving Inhabited

mutual
def Rl (K : PySem.W.Frag) (F : Hp) : D → V → Prop
  | .non, v => v = .non
  | .bl b, v => v = .bl b
  | .int i, v => v = .int i
  | .str x, v => v = .str x
  | .ref a, v => v = .ref a
  | .ty n, v => v = .ty n
  | .tup ds, v => ∃ a xs, v = .ref a ∧ SqX K F a xs ∧ Rls K F ds xs
  | .lst ds, v => ∃ a xs, v = .ref a ∧ F a = some (.lst xs) ∧ Rls K F ds xs
  | .sq ds, v => ∃ a xs, v = .ref a ∧ SqL K F a xs ∧ Rls K F ds xs
  | .ins C fs, v => ∃ a dx gs, v = .ref a ∧ F a = some (.ins C dx gs) ∧ Rfs K F fs gs
  | .dic ks, v => ∃ a kvs, v = .ref a ∧ F a = some (.dK kvs) ∧ Rks K F ks kvs
def Rls (K : PySem.W.Frag) (F : Hp) : List D → List V → Prop
  | [], xs => xs = []
  | d :: ds, xs => ∃ x r, xs = x :: r ∧ Rl K F d x ∧ Rls K F ds r
def Rfs (K : PySem.W.Frag) (F : Hp) : List (Str × D) → List (Str × V) → Prop
  | [], xs => xs = []
  | (n, d) :: ds, xs => ∃ x r, xs = (n, x) :: r ∧ Rl K F d x ∧ Rfs K F ds r
def Rks (K : PySem.W.Frag) (F : Hp) : List (Key × D) → List (Key × V) → Prop
  | [], xs => xs = []
  | (n, d) :: ds, xs => ∃ x r, xs = (n, x) :: r ∧ Rl K F d x ∧ Rks K F ds r
end

mutual
theorem Rl.up {K : PySem.W.Frag} {F G : Hp} (e : Same F G) : ∀ (d : D) (v : V), Rl K F d v → Rl K G d v
  | .non, v, h => by simpa only [Rl] using h
  | .bl b, v, h => by simpa only [Rl] using h
  | .int b, v, h => by simpa only [Rl] using h
  | .str b, v, h => by simpa only [Rl] using h
  | .ref b, v, h => by simpa only [Rl] using h
  | .ty b, v, h => by simpa only [Rl] using h
  | .tup ds, v, h => by
    simp only [Rl] at h ⊢
    obtain ⟨a, xs, h1, h2, h3⟩ := h
    exact ⟨a, xs, h1, h2.up e, Rls.up e ds xs h3⟩
  | .lst ds, v, h => by
    simp only [Rl] at h ⊢
    obtain ⟨a, xs, h1, h2, h3⟩ := h
    exact ⟨a, xs, h1, e _ _ h2, Rls.up e ds xs h3⟩
  | .sq ds, v, h => by
    simp only [Rl] at h ⊢
    obtain ⟨a, xs, h1, h2, h3⟩ := h
    exact ⟨a, xs, h1, e.seq h2, Rls.up e ds xs h3⟩
  | .ins C fs, v, h => by
    simp only [Rl] at h ⊢
    obtain ⟨a, dx, gs, h1, h2, h3⟩ := h
    exact ⟨a, dx, gs, h1, e _ _ h2, Rfs.up e fs gs h3⟩
  | .dic ks, v, h => by
    simp only [Rl] at h ⊢
    obtain ⟨a, gs, h1, h2, h3⟩ := h
    exact ⟨a, gs, h1, e _ _ h2, Rks.up e ks gs h3⟩
theorem Rls.up {K : PySem.W.Frag} {F G : Hp} (e : Same F G) : ∀ (ds : List D) (vs : List V), Rls K F ds vs → Rls K G ds vs
  | [], _, h => by simpa only [Rls] using h
  | d :: ds, _, h => by
    simp only [Rls] at h ⊢
    obtain ⟨x, r, h1, h2, h3⟩ := h
    exact ⟨x, r, h1, Rl.up e d x h2, Rls.up e ds r h3⟩
theorem Rfs.up {K : PySem.W.Frag} {F G : Hp} (e : Same F G) : ∀ (ds : List (Str × D)) (vs : List (Str × V)), Rfs K F ds vs → Rfs K G ds vs
  | [], _, h => by simpa only [Rfs] using h
  | (n, d) :: ds, _, h => by
    simp only [Rfs] at h ⊢
    obtain ⟨x, r, h1, h2, h3⟩ := h
    exact ⟨x, r, h1, Rl.up e d x h2, Rfs.up e ds r h3⟩
theorem Rks.up {K : PySem.W.Frag} {F G : Hp} (e : Same F G) : ∀ (ds : List (Key × D)) (vs : List (Key × V)), Rks K F ds vs → Rks K G ds vs
  | [], _, h => by simpa only [Rks] using h
  | (n, d) :: ds, _, h => by
    simp only [Rks] at h ⊢
    obtain ⟨x, r, h1, h2, h3⟩ := h
    exact ⟨x, r, h1, Rl.up e d x h2, Rks.up e ds r h3⟩
end

section
variable {K : PySem.W.Frag} {F : Hp}
theorem Rls.nil : Rls K F [] [] := by simp only [Rls]
theorem Rls.cons {d : D} {ds : List D} {v : V} {vs : List V} (h : Rl K F d v) (t : Rls K F ds vs) : Rls K F (d :: ds) (v :: vs) := by
  simp only [Rls]; exact ⟨v, vs, rfl, h, t⟩
theorem Rls.len : ∀ {ds : List D} {vs : List V}, Rls K F ds vs → vs.length = ds.length
  | [], _, h => by simp only [Rls] at h; rw [h]; rfl
  | d :: ds, _, h => by
    simp only [Rls] at h
    obtain ⟨x, r, rfl, _, h3⟩ := h
    simp [Rls.len h3]
theorem Rls.get : ∀ {ds : List D} {vs : List V} {i : Nat} {d : D}, Rls K F ds vs → ds[i]? = some d → ∃ v, vs[i]? = some v ∧ Rl K F d v
  | [], _, i, d, h, e => by simp at e
  | d0 :: ds, _, 0, d, h, e => by
    simp only [Rls] at h
    obtain ⟨x, r, rfl, h2, h3⟩ := h
    simp at e; subst e
    exact ⟨x, rfl, h2⟩
  | d0 :: ds, _, i + 1, d, h, e => by
    simp only [Rls] at h
    obtain ⟨x, r, rfl, h2, h3⟩ := h
    simp at e
    obtain ⟨v, h4, h5⟩ := Rls.get h3 e
    exact ⟨v, by simpa using h4, h5⟩
theorem Rls.get' {ds : List D} {vs : List V} {i : Nat} {v : V} (h : Rls K F ds vs) (e : vs[i]? = some v) : ∃ d, ds[i]? = some d ∧ Rl K F d v := by
  have hl := h.len
  obtain ⟨hi, _⟩ := List.getElem?_eq_some_iff.mp e
  have hi' : i < ds.length := by omega
  obtain ⟨w, h1, h2⟩ := h.get (List.getElem?_eq_getElem hi')
  rw [e] at h1; cases h1
  exact ⟨_, List.getElem?_eq_getElem hi', h2⟩
theorem Rls.app : ∀ {ds es : List D} {vs ws : List V}, Rls K F ds vs → Rls K F es ws → Rls K F (ds ++ es) (vs ++ ws)
  | [], _, _, _, h, g => by simp only [Rls] at h; subst h; exact g
  | d :: ds, _, _, _, h, g => by
    simp only [Rls] at h
    obtain ⟨x, r, rfl, h2, h3⟩ := h
    exact Rls.cons h2 (Rls.app h3 g)
theorem Rls.set : ∀ {ds : List D} {vs : List V} {d : D} {v : V} (i : Nat), Rls K F ds vs → Rl K F d v → Rls K F (ds.set i d) (vs.set i v)
  | [], _, d, v, i, h, g => by simp only [Rls] at h; subst h; exact Rls.nil
  | d0 :: ds, _, d, v, 0, h, g => by
    simp only [Rls] at h
    obtain ⟨x, r, rfl, h2, h3⟩ := h
    exact Rls.cons g h3
  | d0 :: ds, _, d, v, i + 1, h, g => by
    simp only [Rls] at h
    obtain ⟨x, r, rfl, h2, h3⟩ := h
    exact Rls.cons h2 (Rls.set i h3 g)
theorem Rls.take : ∀ {ds : List D} {vs : List V} (n : Nat), Rls K F ds vs → Rls K F (ds.take n) (vs.take n)
  | _, _, 0, _ => Rls.nil
  | [], _, n + 1, h => by simp only [Rls] at h; subst h; exact Rls.nil
  | d :: ds, _, n + 1, h => by
    simp only [Rls] at h
    obtain ⟨x, r, rfl, h2, h3⟩ := h
    exact Rls.cons h2 (Rls.take n h3)
theorem Rls.drop : ∀ {ds : List D} {vs : List V} (n : Nat), Rls K F ds vs → Rls K F (ds.drop n) (vs.drop n)
  | _, _, 0, h => h
  | [], _, n + 1, h => by simp only [Rls] at h; subst h; exact Rls.nil
  | d :: ds, _, n + 1, h => by
    simp only [Rls] at h
    obtain ⟨x, r, rfl, h2, h3⟩ := h
    exact Rls.drop n h3
theorem Rls.ints : ∀ {ns : List Int} {vs : List V}, Rls K F (ns.map D.int) vs → vs = ns.map V.int
  | [], _, h => by simpa only [List.map_nil, Rls] using h
  | n :: ns, _, h => by
    simp only [List.map_cons, Rls, Rl] at h
    obtain ⟨x, r, rfl, rfl, h3⟩ := h
    rw [Rls.ints h3]; rfl
theorem Rls.ofInts : ∀ {ns : List Int}, Rls K F (ns.map D.int) (ns.map V.int)
  | [] => Rls.nil
  | n :: ns => Rls.cons (by simp only [Rl]) Rls.ofInts
theorem Rls.rep {d : D} {v : V} (h : Rl K F d v) : ∀ n : Nat, Rls K F (List.replicate n d) (List.replicate n v)
  | 0 => Rls.nil
  | n + 1 => Rls.cons h (Rls.rep h n)
theorem Rls.flat {ds : List D} {vs : List V} (h : Rls K F ds vs) : ∀ n : Nat, Rls K F (List.replicate n ds).flatten (List.replicate n vs).flatten
  | 0 => Rls.nil
  | n + 1 => by
    rw [List.replicate_succ, List.replicate_succ, List.flatten_cons, List.flatten_cons]
    exact Rls.app h (Rls.flat h n)
end

/-- a slot: unknown, shared (never changed from then on), an own list, a lent list -/
inductive Sl where
  | no
  | sh (d : D)
  | ol (ds : List D)
  | io (ds : List D)
  deriving Inhabited
abbrev Ev := List Sl
abbrev Sg := L2.St
def Sl.own : Sl → Bool
  | .ol _ => true
  | .io _ => true
  | _ => false
def Nt (o : HO) : Prop := ∀ ps, o ≠ .tbl ps

structure Gx where
  T : List NTab
  F0 : Hp
  H0 : Hp
  io : List Addr
  E : XK

def SlR (K : PySem.W.Frag) (G : Gx) (F H : Hp) (σ : Sg) (i : Nat) : Sl → Prop
  | .no => True
  | .sh d => ∃ v, σ[i]? = some (some v) ∧ Rl K F d v
  | .ol ds => ∃ a xs, σ[i]? = some (some (.ref a)) ∧ H a = some (.lst xs) ∧ F a = none ∧ G.H0 a = none ∧ Rls K F ds xs
  | .io ds => ∃ a xs, σ[i]? = some (some (.ref a)) ∧ H a = some (.lst xs) ∧ F a = none ∧ a ∈ G.io ∧ Rls K F ds xs

structure Rel (K : PySem.W.Frag) (G : Gx) (F : Hp) (ev : Ev) (σ : Sg) (H : Hp) : Prop where
  sub : Same F H
  nt : ∀ a o, F a = some o → Nt o
  old : ∀ a o, G.H0 a = some o → Nt o → a ∉ G.io → H a = some o
  dom : ∀ a, H a = none → G.H0 a = none
  tab : TabsN G.T H
  f0 : Same G.F0 F
  new : ∀ a o, F a = some o → G.F0 a = some o ∨ G.H0 a = none
  len : ev.length = σ.length
  slot : ∀ (i : Nat) (s : Sl), ev[i]? = some s → SlR K G F H σ i s
  dis : ∀ (i j : Nat) (s t : Sl) (a : Addr), i ≠ j → ev[i]? = some s → ev[j]? = some t → s.own = true → t.own = true → σ[i]? = some (some (V.ref a)) → σ[j]? = some (some (V.ref a)) → False

/-- a is none of the own lists of the slots -/
def Apart (ev : Ev) (σ : Sg) (a : Addr) : Prop := ∀ (i : Nat) (s : Sl), ev[i]? = some s → s.own = true → σ[i]? = some (some (V.ref a)) → False

theorem tabsN_but {T : List NTab} {H H' : Hp} (t : TabsN T H) (e : ∀ b o, H b = some o → (∃ ps, o = .tbl ps) ∨ (∃ c q, b = c ∧ o = CodeO c q) → H' b = some o) : TabsN T H' := fun p hp => by
  obtain ⟨ps, h1, h2, h3⟩ := t p hp
  refine ⟨ps, e _ _ h1 (.inl ⟨ps, rfl⟩), h2, fun pos cv hc => ?_⟩
  obtain ⟨c, e1, e2⟩ := h3 pos cv hc
  exact ⟨c, e1, e _ _ e2 (.inr ⟨c, _, rfl, rfl⟩)⟩
theorem codeO_lst {c : Addr} {q : Str} {xs : List V} : CodeO c q ≠ .lst xs := fun z => by unfold CodeO at z; cases z
theorem nt_lst {xs : List V} : Nt (.lst xs) := fun ps z => by cases z
theorem nt_tup {xs : List V} : Nt (.tup xs) := fun ps z => by cases z
theorem nt_dk {kvs : List (Key × V)} : Nt (.dK kvs) := fun ps z => by cases z
theorem nt_ins {C dx : Addr} {fs : List (Str × V)} : Nt (.ins C dx fs) := fun ps z => by cases z

theorem same_new {H : Hp} {p : Addr} {o : HO} (h : H p = none) : Same H (upd H p o) := fun b x e => by
  rw [upd_ne (ne_of_none e h)]; exact e

section
variable {K : PySem.W.Frag} {G : Gx} {F H : Hp} {ev : Ev} {σ : Sg}

theorem SlR.up {F' : Hp} {s : Sl} {i : Nat} (R : Same F F') (h : SlR K G F H σ i s) (hf : ∀ a, σ[i]? = some (some (.ref a)) → s.own = true → F a = none → F' a = none) : SlR K G F' H σ i s := by
  cases s with
  | no => trivial
  | sh d =>
    obtain ⟨v, h1, h2⟩ := h
    exact ⟨v, h1, Rl.up R d v h2⟩
  | ol ds =>
    obtain ⟨a, xs, h1, h2, h3, h4, h5⟩ := h
    exact ⟨a, xs, h1, h2, hf a h1 rfl h3, h4, Rls.up R _ _ h5⟩
  | io ds =>
    obtain ⟨a, xs, h1, h2, h3, h4, h5⟩ := h
    exact ⟨a, xs, h1, h2, hf a h1 rfl h3, h4, Rls.up R _ _ h5⟩
theorem SlR.heap {H' : Hp} {s : Sl} {i : Nat} (h : SlR K G F H σ i s) (hh : ∀ a xs, σ[i]? = some (some (.ref a)) → s.own = true → H a = some (.lst xs) → H' a = some (.lst xs)) : SlR K G F H' σ i s := by
  cases s with
  | no => trivial
  | sh d => exact h
  | ol ds =>
    obtain ⟨a, xs, h1, h2, h3, h4, h5⟩ := h
    exact ⟨a, xs, h1, hh a xs h1 rfl h2, h3, h4, h5⟩
  | io ds =>
    obtain ⟨a, xs, h1, h2, h3, h4, h5⟩ := h
    exact ⟨a, xs, h1, hh a xs h1 rfl h2, h3, h4, h5⟩
theorem SlR.lstAt {s : Sl} {i : Nat} (h : SlR K G F H σ i s) (ho : s.own = true) : ∃ a xs, σ[i]? = some (some (.ref a)) ∧ H a = some (.lst xs) ∧ F a = none := by
  cases s with
  | no => cases ho
  | sh d => cases ho
  | ol ds => obtain ⟨a, xs, h1, h2, h3, _⟩ := h; exact ⟨a, xs, h1, h2, h3⟩
  | io ds => obtain ⟨a, xs, h1, h2, h3, _⟩ := h; exact ⟨a, xs, h1, h2, h3⟩

theorem Rel.h0 (R : Rel K G F ev σ H) {p : Addr} (h : H p = none) : G.H0 p = none := R.dom p h
theorem Rel.fnone (R : Rel K G F ev σ H) {p : Addr} (h : H p = none) : F p = none := R.sub.free h
/-- a new object, frozen -/
theorem Rel.alloc (R : Rel K G F ev σ H) {p : Addr} {o : HO} (hp : H p = none) (ho : Nt o) : Rel K G (upd F p o) ev σ (upd H p o) where
  sub := fun b x e => by
    by_cases hb : b = p
    · subst hb; rw [upd_same] at e ⊢; exact e
    · rw [upd_ne hb] at e ⊢; exact R.sub b x e
  nt := fun b x e => by
    by_cases hb : b = p
    · subst hb; rw [upd_same] at e; cases e; exact ho
    · rw [upd_ne hb] at e; exact R.nt b x e
  old := fun b x e n h => same_new hp _ _ (R.old b x e n h)
  dom := fun b e => by
    by_cases hb : b = p
    · subst hb; rw [upd_same] at e; cases e
    · rw [upd_ne hb] at e; exact R.dom b e
  tab := R.tab.ext (same_new hp)
  f0 := R.f0.trans (same_new (R.fnone hp))
  new := fun b x e => by
    by_cases hb : b = p
    · subst hb; exact .inr (R.h0 hp)
    · rw [upd_ne hb] at e; exact R.new b x e
  len := R.len
  slot := fun i s e => by
    refine SlR.heap (SlR.up (same_new (R.fnone hp)) (R.slot i s e) fun a ha ho hf => ?_) fun a xs ha ho hf => same_new hp _ _ hf
    obtain ⟨b, xs, h1, h2, h3⟩ := (R.slot i s e).lstAt ho
    rw [ha] at h1; cases h1
    rw [upd_ne (ne_of_none h2 hp)]; exact hf
  dis := R.dis
/-- a new list, kept apart -/
theorem Rel.allocO (R : Rel K G F ev σ H) {p : Addr} {o : HO} (hp : H p = none) : Rel K G F ev σ (upd H p o) where
  sub := R.sub.trans (same_new hp)
  nt := R.nt
  old := fun b x e n h => same_new hp _ _ (R.old b x e n h)
  dom := fun b e => by
    by_cases hb : b = p
    · subst hb; rw [upd_same] at e; cases e
    · rw [upd_ne hb] at e; exact R.dom b e
  tab := R.tab.ext (same_new hp)
  f0 := R.f0
  new := R.new
  len := R.len
  slot := fun i s e => SlR.heap (R.slot i s e) fun a xs ha ho hf => same_new hp _ _ hf
  dis := R.dis
/-- a list that is apart is frozen -/
theorem Rel.freeze (R : Rel K G F ev σ H) {p : Addr} {xs : List V} (hp : H p = some (.lst xs)) (fp : F p = none) (h0 : G.H0 p = none) (ap : Apart ev σ p) : Rel K G (upd F p (.lst xs)) ev σ H where
  sub := fun b x e => by
    by_cases hb : b = p
    · subst hb; rw [upd_same] at e; cases e; exact hp
    · rw [upd_ne hb] at e; exact R.sub b x e
  nt := fun b x e => by
    by_cases hb : b = p
    · subst hb; rw [upd_same] at e; cases e; exact nt_lst
    · rw [upd_ne hb] at e; exact R.nt b x e
  old := R.old
  dom := R.dom
  tab := R.tab
  f0 := R.f0.trans (same_new fp)
  new := fun b x e => by
    by_cases hb : b = p
    · subst hb; exact .inr h0
    · rw [upd_ne hb] at e; exact R.new b x e
  len := R.len
  slot := fun i s e => SlR.up (same_new fp) (R.slot i s e) fun a ha ho hf => by
    have hb : a ≠ p := fun z => ap i s e ho (by rw [← z]; exact ha)
    rw [upd_ne hb]; exact hf
  dis := R.dis
theorem Rel.apartNew (R : Rel K G F ev σ H) {p : Addr} (hp : H p = none) : Apart ev σ p := fun i s e ho ha => by
  obtain ⟨b, xs, h1, h2, _⟩ := (R.slot i s e).lstAt ho
  rw [ha] at h1; cases h1
  rw [hp] at h2; cases h2
/-- slot i gets a shared value -/
theorem Rel.put (R : Rel K G F ev σ H) {i : Nat} {d : D} {v : V} (h : Rl K F d v) : Rel K G F (ev.set i (.sh d)) (σ.set i (some v)) H where
  sub := R.sub
  nt := R.nt
  old := R.old
  dom := R.dom
  tab := R.tab
  f0 := R.f0
  new := R.new
  len := by rw [List.length_set, List.length_set]; exact R.len
  slot := fun j s e => by
    by_cases hj : j = i
    · subst hj
      have hl : j < ev.length := by
        have := (List.getElem?_eq_some_iff.mp e).1
        rwa [List.length_set] at this
      rw [List.getElem?_set_self hl] at e
      cases e
      exact ⟨v, List.getElem?_set_self (by rw [← R.len]; exact hl), h⟩
    · rw [List.getElem?_set_ne (Ne.symm hj)] at e
      have hs : (σ.set i (some v))[j]? = σ[j]? := List.getElem?_set_ne (Ne.symm hj)
      have q := R.slot j s e
      cases s with
      | no => trivial
      | sh d => obtain ⟨w, h1, h2⟩ := q; exact ⟨w, hs.trans h1, h2⟩
      | ol ds => obtain ⟨a, xs, h1, h2⟩ := q; exact ⟨a, xs, hs.trans h1, h2⟩
      | io ds => obtain ⟨a, xs, h1, h2⟩ := q; exact ⟨a, xs, hs.trans h1, h2⟩
  dis := fun j k s t a hjk ej ek os ot hj hk => by
    have key : ∀ (j : Nat) (s : Sl), (ev.set i (.sh d))[j]? = some s → s.own = true → ev[j]? = some s ∧ (σ.set i (some v))[j]? = σ[j]? := fun j s e os => by
      by_cases hj : j = i
      · subst hj
        have hl : j < ev.length := by
          have := (List.getElem?_eq_some_iff.mp e).1
          rwa [List.length_set] at this
        rw [List.getElem?_set_self hl] at e
        cases e; cases os
      · rw [List.getElem?_set_ne (Ne.symm hj)] at e
        exact ⟨e, List.getElem?_set_ne (Ne.symm hj)⟩
    obtain ⟨a1, a2⟩ := key j s ej os
    obtain ⟨b1, b2⟩ := key k t ek ot
    exact R.dis j k s t a hjk a1 b1 os ot (a2.symm.trans hj) (b2.symm.trans hk)
/-- slot i gets an own list -/
theorem Rel.putO (R : Rel K G F ev σ H) {i : Nat} {ds : List D} {a : Addr} {xs : List V} (ha : H a = some (.lst xs)) (fa : F a = none) (h0 : G.H0 a = none) (ap : Apart ev σ a) (h : Rls K F ds xs) :
    Rel K G F (ev.set i (.ol ds)) (σ.set i (some (V.ref a))) H where
  sub := R.sub
  nt := R.nt
  old := R.old
  dom := R.dom
  tab := R.tab
  f0 := R.f0
  new := R.new
  len := by rw [List.length_set, List.length_set]; exact R.len
  slot := fun j s e => by
    by_cases hj : j = i
    · subst hj
      have hl : j < ev.length := by
        have := (List.getElem?_eq_some_iff.mp e).1
        rwa [List.length_set] at this
      rw [List.getElem?_set_self hl] at e
      cases e
      exact ⟨a, xs, List.getElem?_set_self (by rw [← R.len]; exact hl), ha, fa, h0, h⟩
    · rw [List.getElem?_set_ne (Ne.symm hj)] at e
      have hs : (σ.set i (some (V.ref a)))[j]? = σ[j]? := List.getElem?_set_ne (Ne.symm hj)
      have q := R.slot j s e
      cases s with
      | no => trivial
      | sh d => obtain ⟨w, h1, h2⟩ := q; exact ⟨w, hs.trans h1, h2⟩
      | ol ds => obtain ⟨a, xs, h1, h2⟩ := q; exact ⟨a, xs, hs.trans h1, h2⟩
      | io ds => obtain ⟨a, xs, h1, h2⟩ := q; exact ⟨a, xs, hs.trans h1, h2⟩
  dis := fun j k s t b hjk ej ek os ot hj hk => by
    have key : ∀ (j : Nat) (s : Sl), j ≠ i → (ev.set i (.ol ds))[j]? = some s → ev[j]? = some s ∧ (σ.set i (some (V.ref a)))[j]? = σ[j]? := fun j s hj e => by
      rw [List.getElem?_set_ne (Ne.symm hj)] at e
      exact ⟨e, List.getElem?_set_ne (Ne.symm hj)⟩
    have at_ : ∀ (j : Nat) (s : Sl), j = i → (ev.set i (.ol ds))[j]? = some s → (σ.set i (some (V.ref a)))[j]? = some (some (.ref b)) → b = a := fun j s hj e e2 => by
      subst hj
      have hl : j < ev.length := by
        have := (List.getElem?_eq_some_iff.mp e).1
        rwa [List.length_set] at this
      rw [List.getElem?_set_self (by rw [← R.len]; exact hl)] at e2
      cases e2; rfl
    by_cases h1 : j = i
    · have h2 : k ≠ i := fun z => hjk (h1.trans z.symm)
      obtain ⟨b1, b2⟩ := key k t h2 ek
      have e := at_ j s h1 ej hj
      subst e
      exact ap k t b1 ot (b2.symm.trans hk)
    · obtain ⟨a1, a2⟩ := key j s h1 ej
      by_cases h2 : k = i
      · have e := at_ k t h2 ek hk
        subst e
        exact ap j s a1 os (a2.symm.trans hj)
      · obtain ⟨b1, b2⟩ := key k t h2 ek
        exact R.dis j k s t b hjk a1 b1 os ot (a2.symm.trans hj) (b2.symm.trans hk)
/-- slot i is forgotten -/
theorem Rel.drop (R : Rel K G F ev σ H) {i : Nat} {o : Option V} : Rel K G F (ev.set i .no) (σ.set i o) H where
  sub := R.sub
  nt := R.nt
  old := R.old
  dom := R.dom
  tab := R.tab
  f0 := R.f0
  new := R.new
  len := by rw [List.length_set, List.length_set]; exact R.len
  slot := fun j s e => by
    by_cases hj : j = i
    · subst hj
      have hl : j < ev.length := by
        have := (List.getElem?_eq_some_iff.mp e).1
        rwa [List.length_set] at this
      rw [List.getElem?_set_self hl] at e
      cases e; trivial
    · rw [List.getElem?_set_ne (Ne.symm hj)] at e
      have hs : (σ.set i o)[j]? = σ[j]? := List.getElem?_set_ne (Ne.symm hj)
      have q := R.slot j s e
      cases s with
      | no => trivial
      | sh d => obtain ⟨w, h1, h2⟩ := q; exact ⟨w, hs.trans h1, h2⟩
      | ol ds => obtain ⟨a, xs, h1, h2⟩ := q; exact ⟨a, xs, hs.trans h1, h2⟩
      | io ds => obtain ⟨a, xs, h1, h2⟩ := q; exact ⟨a, xs, hs.trans h1, h2⟩
  dis := fun j k s t a hjk ej ek os ot hj hk => by
    have key : ∀ (j : Nat) (s : Sl), (ev.set i Sl.no)[j]? = some s → s.own = true → ev[j]? = some s ∧ (σ.set i o)[j]? = σ[j]? := fun j s e os => by
      by_cases hj : j = i
      · subst hj
        have hl : j < ev.length := by
          have := (List.getElem?_eq_some_iff.mp e).1
          rwa [List.length_set] at this
        rw [List.getElem?_set_self hl] at e
        cases e; cases os
      · rw [List.getElem?_set_ne (Ne.symm hj)] at e
        exact ⟨e, List.getElem?_set_ne (Ne.symm hj)⟩
    obtain ⟨a1, a2⟩ := key j s ej os
    obtain ⟨b1, b2⟩ := key k t ek ot
    exact R.dis j k s t a hjk a1 b1 os ot (a2.symm.trans hj) (b2.symm.trans hk)
/-- slot i is forgotten, what it holds stays -/
theorem Rel.forget (R : Rel K G F ev σ H) {i : Nat} : Rel K G F (ev.set i .no) σ H := by
  by_cases hi : i < σ.length
  · have h := R.drop (i := i) (o := σ[i])
    rwa [List.set_getElem_self] at h
  · have e1 : ev.set i .no = ev := List.set_eq_of_length_le (by rw [R.len]; omega)
    rw [e1]; exact R
end
end Vs
/-! Vs, expressions: what each construct gives as a plain function of the slots. -/
namespace Vs
open PySem PySem.Spec PyProof.Rows L2 LamX NdefX

inductive Rs (α : Type) where
  | ok (a : α) (ev : Ev)
  | ex (C : Addr) (fs : List (Str × D)) (ev : Ev)
  | bad
abbrev M (α : Type) := Ev → Rs α
def ret {α : Type} (a : α) : M α := fun ev => .ok a ev
def bnd {α β : Type} (m : M α) (k : α → M β) : M β := fun ev => match m ev with
  | .ok a ev' => k a ev'
  | .ex C fs ev' => .ex C fs ev'
  | .bad => .bad
def bad {α : Type} : M α := fun _ => .bad
def opt {α : Type} : Option α → M α
  | some a => ret a
  | none => bad

def ExOk (K : PySem.W.Frag) (F H : Hp) (fs : List (Str × D)) (dd : Option Addr) : Prop := match fs with
  | [] => dd = none
  | fs => ∃ a gs, dd = some a ∧ H a = some (.xd gs) ∧ Rfs K F fs gs

def Go (K : PySem.W.Frag) (G : Gx) (σ : Sg) (F : Hp) {α : Type} (r : Rs α) (k : Hp → Ev → α → Hp → Prop) : Prop := match r with
  | .ok a ev' => ∀ F' H', Rel K G F' ev' σ H' → Same F F' → k F' ev' a H'
  | .ex C fs ev' => ∀ F' H' dd, Rel K G F' ev' σ H' → Same F F' → ExOk K F' H' fs dd → G.E (.ref C) dd H'
  | .bad => False

section
variable {K : PySem.W.Frag} {G : Gx} {σ : Sg} {F H : Hp} {ev : Ev} {α β : Type}
theorem Go.up {F' : Hp} {r : Rs α} {k : Hp → Ev → α → Hp → Prop} (e : Same F F') (h : Go K G σ F r k) : Go K G σ F' r k := by
  cases r with
  | ok a ev' => exact fun F2 H2 R s => h F2 H2 R (e.trans s)
  | ex C fs ev' => exact fun F2 H2 dd R s x => h F2 H2 dd R (e.trans s) x
  | bad => exact h
theorem Go.imp {r : Rs α} {k k' : Hp → Ev → α → Hp → Prop} (h : Go K G σ F r k) (i : ∀ F' ev' a H', r = .ok a ev' → Rel K G F' ev' σ H' → Same F F' → k F' ev' a H' → k' F' ev' a H') : Go K G σ F r k' := by
  cases r with
  | ok a ev' => exact fun F2 H2 R s => i F2 ev' a H2 rfl R s (h F2 H2 R s)
  | ex C fs ev' => exact h
  | bad => exact h
theorem Go.bind {m : M α} {g : α → M β} {k : Hp → Ev → β → Hp → Prop} (h : Go K G σ F (bnd m g ev) k) : Go K G σ F (m ev) (fun F' ev' a H' => Go K G σ F' (g a ev') k) := by
  unfold bnd at h
  cases e : m ev with
  | ok a ev' =>
    rw [e] at h
    exact fun F2 H2 R s => h.up s
  | ex C fs ev' => rw [e] at h; exact h
  | bad => rw [e] at h; exact h
theorem Go.opt {o : Option α} {k : Hp → Ev → α → Hp → Prop} (h : Go K G σ F (opt o ev) k) (R : Rel K G F ev σ H) : ∃ a, o = some a ∧ k F ev a H := by
  cases o with
  | none => exact h.elim
  | some a => exact ⟨a, rfl, h F H R (Same.refl _)⟩
theorem Go.ret {a : α} {k : Hp → Ev → α → Hp → Prop} (h : Go K G σ F (Vs.ret a ev) k) (R : Rel K G F ev σ H) : k F ev a H := h F H R (Same.refl _)
theorem Go.ok {a : α} {ev' : Ev} {r : Rs α} {k : Hp → Ev → α → Hp → Prop} (h : Go K G σ F r k) (e : r = .ok a ev') {F' H' : Hp} (R : Rel K G F' ev' σ H') (s : Same F F') : k F' ev' a H' := by
  subst e; exact h F' H' R s
end

/-! ### readings -/
def LE (K : PySem.W.Frag) (G : Gx) (f : M D) : TE := fun σ H Q => ∃ F ev, Rel K G F ev σ H ∧ Go K G σ F (f ev) fun F' _ d H' => ∀ v, Rl K F' d v → Q v H'
def LT (K : PySem.W.Frag) (G : Gx) (f : M Bool) : TT := fun σ H Q => ∃ F ev, Rel K G F ev σ H ∧ Go K G σ F (f ev) fun _ _ b H' => Q b H'
def LA (K : PySem.W.Frag) (G : Gx) (f : M (List D)) : TA := fun σ H Q => ∃ F ev, Rel K G F ev σ H ∧ Go K G σ F (f ev) fun F' _ ds H' => ∀ vs, Rls K F' ds vs → Q vs H'
/-- a new list that nobody else holds -/
def Fresh (K : PySem.W.Frag) (G : Gx) (σ : Sg) (F : Hp) (ev : Ev) (ds : List D) (H : Hp) (a : Addr) : Prop :=
  ∃ xs, H a = some (.lst xs) ∧ F a = none ∧ G.H0 a = none ∧ Apart ev σ a ∧ Rls K F ds xs
def LF (K : PySem.W.Frag) (G : Gx) (f : M (List D)) : TE := fun σ H Q => ∃ F ev, Rel K G F ev σ H ∧ Go K G σ F (f ev) fun F' ev' ds H' => ∀ a, Fresh K G σ F' ev' ds H' a → Q (.ref a) H'
/-- a value, or a list as it stands now -/
def Rq (K : PySem.W.Frag) (F H : Hp) (d : D) (v : V) : Prop := Rl K F d v ∨ ∃ ds a xs, d = .lst ds ∧ v = .ref a ∧ H a = some (.lst xs) ∧ Rls K F ds xs
def LQ (K : PySem.W.Frag) (G : Gx) (f : M D) : TE := fun σ H Q => ∃ F ev, Rel K G F ev σ H ∧ Go K G σ F (f ev) fun F' _ d H' => ∀ v, Rq K F' H' d v → Q v H'

section
variable {X : Cx} {G : Gx}
theorem PE.wk {e : Expr} {t t' : TE} (h : PE X e t) (w : ∀ σ H Q, t' σ H Q → t σ H Q) : PE X e t' := ⟨fun pins s σ H Q I q => h.run pins s σ H Q I (w σ H Q q)⟩
theorem PT.wk {e : Expr} {t t' : TT} (h : PT X e t) (w : ∀ σ H Q, t' σ H Q → t σ H Q) : PT X e t' := ⟨fun pins s σ H Q I q => h.run pins s σ H Q I (w σ H Q q)⟩
theorem PW.wk {e : Expr} {t t' : TT} (h : PW X e t) (w : ∀ σ H Q, t' σ H Q → t σ H Q) : PW X e t' := ⟨fun wh pins s σ H Q I q => h.run wh pins s σ H Q I (w σ H Q q)⟩
theorem PA.wk {es : List Expr} {t t' : TA} (h : PA X es t) (w : ∀ σ H Q, t' σ H Q → t σ H Q) : PA X es t' := ⟨fun pos pins s σ H Q I q => h.run pos pins s σ H Q I (w σ H Q q)⟩

/-! ### values, names -/
theorem le_q {K : PySem.W.Frag} {f : M D} {σ : Sg} {H : Hp} {Q : VK} (h : LQ K G f σ H Q) : LE K G f σ H Q := by
  obtain ⟨F, ev, R, g⟩ := h
  exact ⟨F, ev, R, g.imp fun F' ev' d H' _ _ _ k v rv => k v (.inl rv)⟩
theorem q_of {e : Expr} {f : M D} (h : PE X e (LE X.K G f)) : PE X e (LQ X.K G f) := PE.wk h fun _ _ _ q => le_q q
/-- a new list, frozen -/
def frz (f : M (List D)) : M D := bnd f fun ds => ret (.lst ds)
theorem ie_frz {e : Expr} {f : M (List D)} (h : PE X e (LF X.K G f)) : PE X e (LE X.K G (frz f)) := PE.wk h fun σ H Q q => by
  obtain ⟨F, ev, R, g⟩ := q
  refine ⟨F, ev, R, g.bind.imp fun F' ev' ds H' _ R' s k a fr => ?_⟩
  obtain ⟨xs, h1, h2, h3, h4, h5⟩ := fr
  have R2 := R'.freeze h1 h2 h3 h4
  have s2 := same_new (o := .lst xs) h2
  refine k _ _ R2 s2 (.ref a) ?_
  simp only [Rl]
  exact ⟨a, xs, rfl, upd_same, Rls.up s2 _ _ h5⟩
theorem iq_frz {e : Expr} {f : M (List D)} (h : PE X e (LF X.K G f)) : PE X e (LQ X.K G (frz f)) := q_of (ie_frz h)
theorem ie_int {i : Int} {j : Nat} {pos : Pos} : PE X (.Constant (.int i) j pos) (LE X.K G (ret (.int i))) := PE.wk pe_int fun σ H Q q => by
  obtain ⟨F, ev, R, g⟩ := q
  exact g.ret R _ (by simp only [Rl])
theorem ie_str {i : Str} {j : Nat} {pos : Pos} : PE X (.Constant (.str i) j pos) (LE X.K G (ret (.str i))) := PE.wk pe_str fun σ H Q q => by
  obtain ⟨F, ev, R, g⟩ := q
  exact g.ret R _ (by simp only [Rl])
theorem ie_bl {i : Bool} {j : Nat} {pos : Pos} : PE X (.Constant (.bool i) j pos) (LE X.K G (ret (.bl i))) := PE.wk pe_bl fun σ H Q q => by
  obtain ⟨F, ev, R, g⟩ := q
  exact g.ret R _ (by simp only [Rl])
theorem ie_non {j : Nat} {pos : Pos} : PE X (.Constant .none j pos) (LE X.K G (ret .non)) := PE.wk pe_non fun σ H Q q => by
  obtain ⟨F, ev, R, g⟩ := q
  exact g.ret R _ (by simp only [Rl])
/-- a name of the module (its value told for every heap) -/
theorem ie_glob {x : Str} {d : D} {v : V} {u : Value} {pos : Pos} (hg : Gl X x) (hm : X.mg x = some u) (r : RelV v u) (hd : ∀ F, Rl X.K F d v) (hb : (x == ("__debug__" : Str)) = false := by decide) : PE X (.Name x pos) (LE X.K G (ret d)) :=
  PE.wk (pe_glob hg hm r hb) fun σ H Q q => by
    obtain ⟨F, ev, R, g⟩ := q
    exact g.ret R _ (hd F)
theorem ie_bltn {x : Str} {n : String} {pos : Pos} (hg : Gl X x) (hm : X.mg x = none) (hv : bootBuiltins x = some (.type n)) (hn : x ≠ "__name__" := by decide) (hb : (x == ("__debug__" : Str)) = false := by decide) : PE X (.Name x pos) (LE X.K G (ret (.ty n))) :=
  PE.wk (pe_bltn (v := .ty n) hg hm hv rfl hn hb) fun σ H Q q => by
    obtain ⟨F, ev, R, g⟩ := q
    exact g.ret R _ (by simp only [Rl])
/-- the slot i: an own list is frozen by being handed on -/
def vV (i : Nat) : M D := fun ev => match ev[i]? with
  | some (.sh d) => .ok d ev
  | some (.ol ds) => .ok (.lst ds) (ev.set i (.sh (.lst ds)))
  | _ => .bad
/-- the slot i, looked at -/
def vP (i : Nat) : M D := fun ev => match ev[i]? with
  | some (.sh d) => .ok d ev
  | some (.ol ds) => .ok (.lst ds) ev
  | some (.io ds) => .ok (.lst ds) ev
  | _ => .bad
theorem set_id {σ : Sg} {i : Nat} {o : Option V} (h : σ[i]? = some o) : σ.set i o = σ := by
  obtain ⟨hi, e⟩ := List.getElem?_eq_some_iff.mp h
  rw [← e, List.set_getElem_self]
theorem Rel.own_sh {K : PySem.W.Frag} {F H : Hp} {ev : Ev} {σ : Sg} {i : Nat} {ds : List D} (R : Rel K G F ev σ H) (e : ev[i]? = some (.ol ds)) :
    ∃ a xs, σ[i]? = some (some (.ref a)) ∧ H a = some (.lst xs) ∧ F a = none ∧ Rls K F ds xs ∧ Rel K G (upd F a (.lst xs)) (ev.set i (.sh (.lst ds))) σ H := by
  obtain ⟨a, xs, h1, h2, h3, h4, h5⟩ := R.slot i _ e
  refine ⟨a, xs, h1, h2, h3, h5, ?_⟩
  have ap : Apart (ev.set i .no) σ a := fun j s ej os hj => by
    by_cases hij : j = i
    · subst hij
      have hl : j < ev.length := (List.getElem?_eq_some_iff.mp e).1
      rw [List.getElem?_set_self hl] at ej
      cases ej; cases os
    · rw [List.getElem?_set_ne (Ne.symm hij)] at ej
      exact R.dis j i s _ a hij ej e os rfl hj h1
  have R1 := (R.forget (i := i)).freeze h2 h3 h4 ap
  have s2 := same_new (o := .lst xs) h3
  have rl : Rl K (upd F a (.lst xs)) (.lst ds) (.ref a) := by
    simp only [Rl]
    exact ⟨a, xs, rfl, upd_same, Rls.up s2 _ _ h5⟩
  have R2 := R1.put (i := i) rl
  rw [List.set_set, set_id h1] at R2
  exact R2
theorem ie_var {e : Expr} {i : Nat} (h : PE X e (tVar i)) : PE X e (LE X.K G (vV i)) := PE.wk h fun σ H Q q => by
  obtain ⟨F, ev, R, g⟩ := q
  unfold vV at g
  cases es : ev[i]? with
  | none => rw [es] at g; exact g.elim
  | some s =>
    rw [es] at g
    cases s with
    | no => exact g.elim
    | sh d =>
      obtain ⟨v, h1, h2⟩ := R.slot i _ es
      exact ⟨v, h1, g F H R (Same.refl _) v h2⟩
    | ol ds =>
      obtain ⟨a, xs, h1, h2, h3, h5, R2⟩ := R.own_sh es
      have s2 := same_new (o := .lst xs) h3
      refine ⟨.ref a, h1, g _ H R2 s2 (.ref a) ?_⟩
      simp only [Rl]
      exact ⟨a, xs, rfl, upd_same, Rls.up s2 _ _ h5⟩
    | io ds => exact g.elim
theorem iq_var {e : Expr} {i : Nat} (h : PE X e (tVar i)) : PE X e (LQ X.K G (vP i)) := PE.wk h fun σ H Q q => by
  obtain ⟨F, ev, R, g⟩ := q
  unfold vP at g
  cases es : ev[i]? with
  | none => rw [es] at g; exact g.elim
  | some s =>
    rw [es] at g
    cases s with
    | no => exact g.elim
    | sh d =>
      obtain ⟨v, h1, h2⟩ := R.slot i _ es
      exact ⟨v, h1, g F H R (Same.refl _) v (.inl h2)⟩
    | ol ds =>
      obtain ⟨a, xs, h1, h2, h3, h4, h5⟩ := R.slot i _ es
      exact ⟨.ref a, h1, g F H R (Same.refl _) (.ref a) (.inr ⟨ds, a, xs, rfl, rfl, h2, h5⟩)⟩
    | io ds =>
      obtain ⟨a, xs, h1, h2, h3, h4, h5⟩ := R.slot i _ es
      exact ⟨.ref a, h1, g F H R (Same.refl _) (.ref a) (.inr ⟨ds, a, xs, rfl, rfl, h2, h5⟩)⟩

/-! ### two operands, one -/
def OpS (K : PySem.W.Frag) (G : Gx) (r : R2) (g : D → D → M D) : Prop := ∀ (F H : Hp) (ev : Ev) (σ : Sg) (dx dy : D) (x y : V) (Q : VK), Rel K G F ev σ H → Rl K F dx x → Rl K F dy y →
  Go K G σ F (g dx dy ev) (fun F' _ d H' => ∀ v, Rl K F' d v → Q v H') → r x y H Q
def b2 (g : D → D → M D) (fa fb : M D) : M D := bnd fa fun x => bnd fb fun y => g x y
theorem lop {K : PySem.W.Frag} {r : R2} {g : D → D → M D} {fa fb : M D} (hs : OpS K G r g) {σ : Sg} {H : Hp} {Q : VK} (h : LE K G (b2 g fa fb) σ H Q) : tOp r (LE K G fa) (LE K G fb) σ H Q := by
  obtain ⟨F, ev, R, q⟩ := h
  refine ⟨F, ev, R, q.bind.imp fun F1 ev1 dx H1 _ R1 _ k1 x rx => ⟨F1, ev1, R1, k1.bind.imp fun F2 ev2 dy H2 _ R2 s2 k2 y ry => ?_⟩⟩
  exact hs F2 H2 ev2 σ dx dy x y Q R2 (Rl.up s2 _ _ rx) ry k2
theorem ie_bin {op : Operator} {r : R2} {g : D → D → M D} {a b : Expr} {fa fb : M D} {pos : Pos} (ho : OpR X (binaryOp op) r) (hs : OpS X.K G r g) (ha : PE X a (LE X.K G fa)) (hb : PE X b (LE X.K G fb)) :
    PE X (.BinOp a op b pos) (LE X.K G (b2 g fa fb)) := PE.wk (pe_op ho ha hb) fun _ _ _ q => lop hs q
theorem ie_cmp {op : CmpOp} {r : R2} {g : D → D → M D} {a b : Expr} {fa fb : M D} {pos : Pos} (ho : OpR X (compareOp op) r) (hs : OpS X.K G r g) (ha : PE X a (LE X.K G fa)) (hb : PE X b (LE X.K G fb)) (hm : behindInMarks op b = false) :
    PE X (.Compare a [op] [b] pos) (LE X.K G (b2 g fa fb)) := PE.wk (pe_cmpR ho ha hb hm) fun _ _ _ q => lop hs q
/-- a bool's value -/
def asB (f : M D) : M Bool := bnd f fun d => match d with
  | .bl b => ret b
  | _ => bad
theorem lt_tB {K : PySem.W.Frag} {f : M D} {σ : Sg} {H : Hp} {Q : Bool → Hp → Prop} (h : LT K G (asB f) σ H Q) : LE K G f σ H fun x H1 => ∃ c, x = .bl c ∧ Q c H1 := by
  obtain ⟨F, ev, R, q⟩ := h
  refine ⟨F, ev, R, q.bind.imp fun F1 ev1 d H1 _ R1 _ k v rv => ?_⟩
  cases d with
  | bl b =>
    simp only [Rl] at rv
    exact ⟨b, rv, Go.ret k R1⟩
  | _ => exact k.elim
theorem it_cmp {op : CmpOp} {r : R2} {g : D → D → M D} {a b : Expr} {fa fb : M D} {pos : Pos} (ho : OpR X (compareOp op) r) (hs : OpS X.K G r g) (ha : PE X a (LE X.K G fa)) (hb : PE X b (LE X.K G fb)) (hm : behindInMarks op b = false) :
    PT X (.Compare a [op] [b] pos) (LT X.K G (asB (b2 g fa fb))) := PT.wk (pt_cmpR ho ha hb hm) fun σ H Q q => lop hs (lt_tB q)
theorem it_val {e : Expr} {f : M D} (h : PE X e (LE X.K G f)) (he : ∀ whole, isTrue e X.env whole = (do let v ← whole; standAt e.pos; holding [v] (truthy v)) := by intro _; rfl) : PT X e (LT X.K G (asB f)) := PT.wk (pt_val h he) fun σ H Q q => lt_tB q
/-- a chain of two comparisons -/
def ch (g g' : D → D → M D) (fa fb fc : M D) : M D := bnd fa fun x => bnd fb fun y => bnd (asB (g x y)) fun k => if k then bnd fc fun z => g' y z else ret (.bl false)
theorem lch {K : PySem.W.Frag} {r r' : R2} {g g' : D → D → M D} {fa fb fc : M D} (hs : OpS K G r g) (hs' : OpS K G r' g') {σ : Sg} {H : Hp} {Q : VK} (h : LE K G (ch g g' fa fb fc) σ H Q) : tChain r r' (LE K G fa) (LE K G fb) (LE K G fc) σ H Q := by
  obtain ⟨F, ev, R, q⟩ := h
  refine ⟨F, ev, R, q.bind.imp fun F1 ev1 dx H1 _ R1 _ k1 x rx => ⟨F1, ev1, R1, k1.bind.imp fun F2 ev2 dy H2 _ R2 s2 k2 y ry => ?_⟩⟩
  refine hs F2 H2 ev2 σ dx dy x y _ R2 (Rl.up s2 _ _ rx) ry ?_
  have k3 := k2.bind
  refine Go.imp (Go.bind k3) fun F3 ev3 d H3 _ R3 s3 k4 v rv => ?_
  cases d with
  | bl b =>
    simp only [Rl] at rv
    refine ⟨b, rv, ?_⟩
    have k5 := Go.ret k4 R3
    cases b with
    | false => exact k5 F3 H3 R3 (Same.refl _) (.bl false) (by simp only [Rl])
    | true =>
      refine ⟨F3, ev3, R3, Go.imp (Go.bind k5) fun F4 ev4 dz H4 _ R4 s4 k6 z rz => ?_⟩
      exact hs' F4 H4 ev4 σ dy dz y z Q R4 (Rl.up (s3.trans s4) _ _ ry) rz k6
  | _ => exact k4.elim
theorem ie_chain {op op' : CmpOp} {r r' : R2} {g g' : D → D → M D} {a b c : Expr} {fa fb fc : M D} {pos : Pos} (ho : OpR X (compareOp op) r) (ho' : OpR X (compareOp op') r') (hs : OpS X.K G r g) (hs' : OpS X.K G r' g')
    (ha : PE X a (LE X.K G fa)) (hb : PE X b (LE X.K G fb)) (hc : PE X c (LE X.K G fc)) (hm : lastMarks [op, op'] [b, c] = false := by rfl) : PE X (.Compare a [op, op'] [b, c] pos) (LE X.K G (ch g g' fa fb fc)) := PE.wk (pe_chain ho ho' ha hb hc hm) fun _ _ _ q => lch hs hs' q
theorem it_chain {op op' : CmpOp} {r r' : R2} {g g' : D → D → M D} {a b c : Expr} {fa fb fc : M D} {pos : Pos} (ho : OpR X (compareOp op) r) (ho' : OpR X (compareOp op') r') (hs : OpS X.K G r g) (hs' : OpS X.K G r' g')
    (ha : PE X a (LE X.K G fa)) (hb : PE X b (LE X.K G fb)) (hc : PE X c (LE X.K G fc)) (hm : lastMarks [op, op'] [b, c] = false := by rfl) : PT X (.Compare a [op, op'] [b, c] pos) (LT X.K G (asB (ch g g' fa fb fc))) := PT.wk (pt_chain ho ho' ha hb hc hm) fun σ H Q q => lch hs hs' (lt_tB q)

/-! ### tests, and, or, not, if -/
def andT (a b : M Bool) : M Bool := bnd a fun c => if c then b else ret false
def orT (a b : M Bool) : M Bool := bnd a fun c => if c then ret true else b
def notT (a : M Bool) : M Bool := bnd a fun c => ret (!c)
theorem it_not {a : Expr} {f : M Bool} {pos : Pos} (h : PT X a (LT X.K G f)) : PT X (.UnaryOp .Not a pos) (LT X.K G (notT f)) := PT.wk (pt_not h) fun σ H Q q => by
  obtain ⟨F, ev, R, q⟩ := q
  exact ⟨F, ev, R, q.bind.imp fun F1 ev1 c H1 _ R1 _ k => Go.ret k R1⟩
theorem iw_and1 {a : Expr} {f : M Bool} {pos : Pos} (h : PT X a (LT X.K G f)) : PW X (.BoolOp .And [a] pos) (LT X.K G f) := pw_and1 h
theorem iw_or1 {a : Expr} {f : M Bool} {pos : Pos} (h : PT X a (LT X.K G f)) : PW X (.BoolOp .Or [a] pos) (LT X.K G f) := pw_or1 h
theorem iw_and {a b : Expr} {rest : List Expr} {f g : M Bool} {pos : Pos} (h : PT X a (LT X.K G f)) (h2 : PW X (.BoolOp .And (b :: rest) pos) (LT X.K G g)) : PW X (.BoolOp .And (a :: b :: rest) pos) (LT X.K G (andT f g)) := PW.wk (pw_and h h2) fun σ H Q q => by
  obtain ⟨F, ev, R, q⟩ := q
  refine ⟨F, ev, R, q.bind.imp fun F1 ev1 c H1 _ R1 _ k => ?_⟩
  cases c with
  | true => exact ⟨F1, ev1, R1, k⟩
  | false => exact Go.ret k R1
theorem iw_or {a b : Expr} {rest : List Expr} {f g : M Bool} {pos : Pos} (h : PT X a (LT X.K G f)) (h2 : PW X (.BoolOp .Or (b :: rest) pos) (LT X.K G g)) : PW X (.BoolOp .Or (a :: b :: rest) pos) (LT X.K G (orT f g)) := PW.wk (pw_or h h2) fun σ H Q q => by
  obtain ⟨F, ev, R, q⟩ := q
  refine ⟨F, ev, R, q.bind.imp fun F1 ev1 c H1 _ R1 _ k => ?_⟩
  cases c with
  | true => exact Go.ret k R1
  | false => exact ⟨F1, ev1, R1, k⟩
theorem it_w {e : Expr} {f : M Bool} (h : PW X e (LT X.K G f)) : PT X e (LT X.K G f) := h.pt
/-- .. as values: all but the last True or False -/
def andE (a b : M D) : M D := bnd (asB a) fun c => if c then b else ret (.bl false)
def orE (a b : M D) : M D := bnd (asB a) fun c => if c then ret (.bl true) else b
def notE (a : M D) : M D := bnd (asB a) fun c => ret (.bl (!c))
theorem ie_one {op : BoolOp} {a : Expr} {f : M D} {pos : Pos} (h : PE X a (LE X.K G f)) : PE X (.BoolOp op [a] pos) (LE X.K G f) := pe_one h
theorem ie_and {a b : Expr} {rest : List Expr} {f g : M D} {pos : Pos} (h : PE X a (LE X.K G f)) (h2 : PE X (.BoolOp .And (b :: rest) pos) (LE X.K G g)) : PE X (.BoolOp .And (a :: b :: rest) pos) (LE X.K G (andE f g)) := PE.wk (pe_and h h2) fun σ H Q q => by
  obtain ⟨F, ev, R, q⟩ := q
  refine ⟨F, ev, R, Go.imp (Go.bind (Go.bind q)) fun F1 ev1 d H1 _ R1 _ k v rv => ?_⟩
  cases d with
  | bl b =>
    simp only [Rl] at rv
    refine ⟨b, rv, ?_⟩
    have k5 := Go.ret k R1
    cases b with
    | true => exact ⟨F1, ev1, R1, k5⟩
    | false => exact Go.ret k5 R1 (.bl false) (by simp only [Rl])
  | _ => exact k.elim
theorem ie_or {a b : Expr} {rest : List Expr} {f g : M D} {pos : Pos} (h : PE X a (LE X.K G f)) (h2 : PE X (.BoolOp .Or (b :: rest) pos) (LE X.K G g)) : PE X (.BoolOp .Or (a :: b :: rest) pos) (LE X.K G (orE f g)) := PE.wk (pe_or h h2) fun σ H Q q => by
  obtain ⟨F, ev, R, q⟩ := q
  refine ⟨F, ev, R, Go.imp (Go.bind (Go.bind q)) fun F1 ev1 d H1 _ R1 _ k v rv => ?_⟩
  cases d with
  | bl b =>
    simp only [Rl] at rv
    refine ⟨b, rv, ?_⟩
    have k5 := Go.ret k R1
    cases b with
    | true => exact Go.ret k5 R1 (.bl true) (by simp only [Rl])
    | false => exact ⟨F1, ev1, R1, k5⟩
  | _ => exact k.elim
theorem ie_not {a : Expr} {f : M D} {pos : Pos} (h : PE X a (LE X.K G f)) : PE X (.UnaryOp .Not a pos) (LE X.K G (notE f)) := PE.wk (pe_not h) fun σ H Q q => by
  obtain ⟨F, ev, R, q⟩ := q
  refine ⟨F, ev, R, Go.imp (Go.bind (Go.bind q)) fun F1 ev1 d H1 _ R1 _ k v rv => ?_⟩
  cases d with
  | bl b =>
    simp only [Rl] at rv
    exact ⟨b, rv, Go.ret (Go.ret k R1) R1 _ (by simp only [Rl])⟩
  | _ => exact k.elim
def ifE {α : Type} (c : M Bool) (a b : M α) : M α := bnd c fun k => if k then a else b
theorem ie_if {c a b : Expr} {fc : M Bool} {f g : M D} {pos : Pos} (hc : PT X c (LT X.K G fc)) (ha : PE X a (LE X.K G f)) (hb : PE X b (LE X.K G g)) : PE X (.IfExp c a b pos) (LE X.K G (ifE fc f g)) := PE.wk (pe_ifExp hc ha hb) fun σ H Q q => by
  obtain ⟨F, ev, R, q⟩ := q
  refine ⟨F, ev, R, q.bind.imp fun F1 ev1 c H1 _ R1 _ k => ?_⟩
  cases c with
  | true => exact ⟨F1, ev1, R1, k⟩
  | false => exact ⟨F1, ev1, R1, k⟩

/-! ### arguments, displays -/
def args : List (M D) → M (List D)
  | [] => ret []
  | f :: fs => bnd f fun x => bnd (args fs) fun xs => ret (x :: xs)
theorem ia_nil : PA X [] (LA X.K G (args [])) := PA.wk pa_nil fun σ H Q q => by
  obtain ⟨F, ev, R, q⟩ := q
  exact Go.ret q R [] Rls.nil
theorem ia_cons {e : Expr} {es : List Expr} {f : M D} {fs : List (M D)} (h : PE X e (LE X.K G f)) (t : PA X es (LA X.K G (args fs))) (hs : starEach (e :: es) X.env = (false, eval e X.env) :: starEach es X.env := by rfl) : PA X (e :: es) (LA X.K G (args (f :: fs))) :=
  PA.wk (pa_cons h t hs) fun σ H Q q => by
    obtain ⟨F, ev, R, q⟩ := q
    refine ⟨F, ev, R, q.bind.imp fun F1 ev1 d H1 _ R1 _ k v rv => ⟨F1, ev1, R1, k.bind.imp fun F2 ev2 ds H2 _ R2 s2 k2 vs rs => ?_⟩⟩
    exact Go.ret k2 R2 _ (Rls.cons (Rl.up s2 _ _ rv) rs)
def big : Nat := 16777216
def tupE (fs : M (List D)) : M D := bnd fs fun ds => if ds.length ≤ big then ret (.tup ds) else bad
def lstF (fs : M (List D)) : M (List D) := bnd fs fun ds => if ds.length ≤ big then ret ds else bad
theorem big_line {n : Nat} (h : n ≤ big) : n ≤ sizeLine := by rw [sizeLine_eq]; exact h
theorem Go.iff {K : PySem.W.Frag} {F : Hp} {σ : Sg} {ev : Ev} {α : Type} {c : Prop} [Decidable c] {m : M α} {k : Hp → Ev → α → Hp → Prop} (h : Go K G σ F ((if c then m else bad) ev) k) : c ∧ Go K G σ F (m ev) k := by
  by_cases hc : c
  · rw [if_pos hc] at h; exact ⟨hc, h⟩
  · rw [if_neg hc] at h; exact h.elim
theorem ie_tup {es : List Expr} {fs : M (List D)} {k : Nat} {pos : Pos} (h : PA X es (LA X.K G fs)) : PE X (.Tuple es k pos) (LE X.K G (tupE fs)) := PE.wk (pe_tupX h) fun σ H Q q => by
  obtain ⟨F, ev, R, q⟩ := q
  refine ⟨F, ev, R, q.bind.imp fun F1 ev1 ds H1 _ R1 _ k vs rs => ?_⟩
  obtain ⟨hl, k⟩ := Go.iff k
  refine ⟨big_line (by rw [rs.len]; exact hl), fun p u hp hu => ?_⟩
  have s := same_new (o := u) (R1.fnone hp)
  refine k _ _ (R1.alloc hp hu.nt) s (.ref p) ?_
  simp only [Rl]
  exact ⟨p, vs, rfl, .inl ⟨u, upd_same, hu⟩, Rls.up s _ _ rs⟩
theorem if_lst {es : List Expr} {fs : M (List D)} {pos : Pos} (h : PA X es (LA X.K G fs)) : PE X (.List es pos) (LF X.K G (lstF fs)) := PE.wk (pe_lst h) fun σ H Q q => by
  obtain ⟨F, ev, R, q⟩ := q
  refine ⟨F, ev, R, q.bind.imp fun F1 ev1 ds H1 _ R1 _ k vs rs => ?_⟩
  obtain ⟨hl, k⟩ := Go.iff k
  refine ⟨big_line (by rw [rs.len]; exact hl), fun p hp => ?_⟩
  refine k _ _ (R1.allocO hp) (Same.refl _) p ⟨vs, upd_same, R1.fnone hp, R1.h0 hp, R1.apartNew hp, rs⟩
end
end Vs
/-! Vs, operators, built-in calls, items, slices. -/
namespace Vs
open PySem PySem.Spec PyProof.Rows L2 LamX NdefX

theorem SqX.t_up {K : PySem.W.Frag} {H H' : Hp} {a : Addr} {xs : List V} (h : SqX K H a xs) (e : Same H H') : SqT K H' a xs := (h.up e).t
theorem opOr {X : Cx} {f : Value → Value → Sem Value} {r r' : R2} (h : OpR X f r) (h' : OpR X f r') : OpR X f (fun x y H Q => r x y H Q ∨ r' x y H Q) := by
  intro pins s σ H x y v u Q I rx ry q
  rcases q with q | q
  · exact h pins s σ H x y v u Q I rx ry q
  · exact h' pins s σ H x y v u Q I rx ry q

section
variable {K : PySem.W.Frag} {G : Gx}
theorem OpS.or {r r' : R2} {g g' : D → D → M D} (h : OpS K G r g) (h' : OpS K G r' g') (c : D → D → Bool) : OpS K G (fun x y H Q => r x y H Q ∨ r' x y H Q) (fun x y => if c x y then g x y else g' x y) := by
  intro F H ev σ dx dy x y Q R rx ry q
  dsimp only at q
  by_cases hc : c dx dy = true
  · rw [if_pos hc] at q; exact .inl (h F H ev σ dx dy x y Q R rx ry q)
  · rw [if_neg hc] at q; exact .inr (h' F H ev σ dx dy x y Q R rx ry q)
/-- two ints -/
def int2 (g : Int → Int → Option D) : D → D → M D := fun x y => match x, y with
  | .int i, .int j => opt (g i j)
  | _, _ => bad
theorem op_int2 {r : R2} {g : Int → Int → Option D} (h : ∀ i j d (v : V) (H : Hp) (Q : VK), g i j = some d → (∀ F, Rl K F d v) → (∃ w, (∀ F, Rl K F d w)) → (∀ w, (∀ F, Rl K F d w) → Q w H) → r (.int i) (.int j) H Q)
    (hd : ∀ i j d, g i j = some d → ∃ v, ∀ F, Rl K F d v) : OpS K G r (int2 g) := by
  intro F H ev σ dx dy x y Q R rx ry q
  unfold int2 at q
  cases dx <;> cases dy <;> first | exact q.elim | skip
  rename_i i j
  simp only [Rl] at rx ry
  subst rx ry
  obtain ⟨d, e, k⟩ := Go.opt q R
  obtain ⟨v, hv⟩ := hd i j d e
  exact h i j d v H Q e hv ⟨v, hv⟩ fun w hw => k w (hw F)
def isI2 : D → D → Bool
  | .int _, .int _ => true
  | _, _ => false
def isT2 : D → D → Bool
  | .tup _, .tup _ => true
  | _, _ => false
def isL2 : D → D → Bool
  | .lst _, .lst _ => true
  | _, _ => false
def fI (g : Int → Int → Int) : Int → Int → Option D := fun i j => some (.int (g i j))
def fB (g : Int → Int → Bool) : Int → Int → Option D := fun i j => some (.bl (g i j))
theorem os_rI0 {g : Int → Int → Int} : OpS K G (rI0 fun i j => .int (g i j)) (int2 (fI g)) :=
  op_int2 (fun i j d v H Q e hv _ k => ⟨i, j, rfl, rfl, k _ fun F => by cases e; simp only [Rl]⟩) fun i j d e => by cases e; exact ⟨.int (g i j), fun F => by simp only [Rl]⟩
theorem os_rB0 {g : Int → Int → Bool} : OpS K G (rI0 fun i j => .bl (g i j)) (int2 (fB g)) :=
  op_int2 (fun i j d v H Q e hv _ k => ⟨i, j, rfl, rfl, k _ fun F => by cases e; simp only [Rl]⟩) fun i j d e => by cases e; exact ⟨.bl (g i j), fun F => by simp only [Rl]⟩
def fIc (C : Int → Int → Prop) [∀ i j, Decidable (C i j)] (g : Int → Int → Int) : Int → Int → Option D := fun i j => if C i j then some (.int (g i j)) else none
theorem os_rI {C : Int → Int → Prop} [∀ i j, Decidable (C i j)] {g : Int → Int → Int} : OpS K G (rI C fun i j => .int (g i j)) (int2 (fIc C g)) := by
  refine op_int2 (fun i j d v H Q e hv _ k => ?_) fun i j d e => ?_
  · unfold fIc at e
    by_cases hc : C i j
    · rw [if_pos hc] at e
      cases e
      exact ⟨i, j, rfl, rfl, hc, k _ fun F => by simp only [Rl]⟩
    · rw [if_neg hc] at e; cases e
  · unfold fIc at e
    split at e
    · cases e; exact ⟨.int (g i j), fun F => by simp only [Rl]⟩
    · cases e
/-! ### + -/
def catT : D → D → M D := fun x y => match x, y with
  | .tup a, .tup b => if a.length + b.length ≤ big then ret (.tup (a ++ b)) else bad
  | _, _ => bad
theorem os_catA : OpS K G (rCatX K) catT := by
  intro F H ev σ dx dy x y Q R rx ry q
  unfold catT at q
  cases dx <;> cases dy <;> first | exact q.elim | skip
  rename_i as bs
  obtain ⟨hl, q⟩ := Go.iff q
  have hx := rx
  have hy := ry
  simp only [Rl] at rx ry
  obtain ⟨a, xs, rfl, hA, rA⟩ := rx
  obtain ⟨b, ys, rfl, hB, rB⟩ := ry
  refine ⟨a, b, xs, ys, rfl, rfl, hA.t_up R.sub, hB.t_up R.sub, big_line (by rw [rA.len, rB.len]; exact hl), fun e => ?_, fun _ e => ?_, fun _ _ p u hp hu => ?_⟩
  · subst e
    have e2 : as = [] := List.eq_nil_of_length_eq_zero rA.len.symm
    subst e2
    exact q F H R (Same.refl _) _ (by simpa using hy)
  · subst e
    have e2 : bs = [] := List.eq_nil_of_length_eq_zero rB.len.symm
    subst e2
    exact q F H R (Same.refl _) _ (by simpa using hx)
  · have s := same_new (o := u) (R.fnone hp)
    refine q _ _ (R.alloc hp hu.nt) s (.ref p) ?_
    simp only [Rl]
    exact ⟨p, _, rfl, .inl ⟨u, upd_same, hu⟩, Rls.up s _ _ (rA.app rB)⟩
def catL : D → D → M D := fun x y => match x, y with
  | .lst a, .lst b => if a.length + b.length ≤ big then ret (.lst (a ++ b)) else bad
  | _, _ => bad
theorem os_cat : OpS K G rCat catL := by
  intro F H ev σ dx dy x y Q R rx ry q
  unfold catL at q
  cases dx <;> cases dy <;> first | exact q.elim | skip
  rename_i as bs
  obtain ⟨hl, q⟩ := Go.iff q
  simp only [Rl] at rx ry
  obtain ⟨a, xs, rfl, hA, rA⟩ := rx
  obtain ⟨b, ys, rfl, hB, rB⟩ := ry
  refine ⟨a, b, xs, ys, rfl, rfl, R.sub _ _ hA, R.sub _ _ hB, big_line (by rw [rA.len, rB.len]; exact hl), fun p hp => ?_⟩
  have s := same_new (o := .lst (xs ++ ys)) (R.fnone hp)
  refine q _ _ (R.alloc hp nt_lst) s (.ref p) ?_
  simp only [Rl]
  exact ⟨p, _, rfl, upd_same, Rls.up s _ _ (rA.app rB)⟩
/-- +: ints, tuples, lists -/
def addD : D → D → M D := fun x y => if isI2 x y then int2 (fI fun i j => i + j) x y else if isT2 x y then catT x y else catL x y
theorem op_addD {X : Cx} : OpR X (binaryOp .Add) (fun x y H Q => rI0 (fun i j => .int (i + j)) x y H Q ∨ (rCatX X.K x y H Q ∨ rCat x y H Q)) := opOr op_add (opOr op_catX op_cat)
theorem os_addD : OpS K G (fun x y H Q => rI0 (fun i j => .int (i + j)) x y H Q ∨ (rCatX K x y H Q ∨ rCat x y H Q)) addD := os_rI0.or (os_catA.or os_cat isT2) isI2
def subD : D → D → M D := int2 (fI fun i j => i - j)
theorem op_subD {X : Cx} : OpR X (binaryOp .Sub) (rI0 fun i j => .int (i - j)) := op_sub
theorem os_subD : OpS K G (rI0 fun i j => .int (i - j)) subD := os_rI0
/-! ### * -/
instance : ∀ i j, Decidable (CMulW i j) := fun i j => by unfold CMulW; exact inferInstance
instance : ∀ i j, Decidable (CDivW i j) := fun i j => by unfold CDivW; exact inferInstance
instance : ∀ i j, Decidable (CPow i j) := fun i j => by unfold CPow; exact inferInstance
def repL : D → D → M D := fun x y => match x, y with
  | .lst a, .int k => if k < 2 ^ 62 ∧ -(2 ^ 62) < k ∧ a.length * k.toNat ≤ big then ret (.lst (List.replicate k.toNat a).flatten) else bad
  | _, _ => bad
theorem os_rep : OpS K G rRep repL := by
  intro F H ev σ dx dy x y Q R rx ry q
  unfold repL at q
  cases dx <;> cases dy <;> first | exact q.elim | skip
  rename_i as k
  obtain ⟨⟨h1, h2, hl⟩, q⟩ := Go.iff q
  simp only [Rl] at rx ry
  obtain ⟨a, xs, rfl, hA, rA⟩ := rx
  subst ry
  refine ⟨a, k, xs, rfl, rfl, R.sub _ _ hA, by omega, by omega, big_line (by rw [rA.len]; exact hl), fun p hp => ?_⟩
  have s := same_new (o := .lst (List.replicate k.toNat xs).flatten) (R.fnone hp)
  refine q _ _ (R.alloc hp nt_lst) s (.ref p) ?_
  simp only [Rl]
  exact ⟨p, _, rfl, upd_same, Rls.up s _ _ (rA.flat _)⟩
def repT : D → D → M D := fun x y => match x, y with
  | .tup a, .int k => if a ≠ [] ∧ 2 ≤ k ∧ a.length * k.toNat ≤ 1000000 then ret (.tup (List.replicate k.toNat a).flatten) else bad
  | _, _ => bad
theorem os_repT : OpS K G (rRepX K) repT := by
  intro F H ev σ dx dy x y Q R rx ry q
  unfold repT at q
  cases dx <;> cases dy <;> first | exact q.elim | skip
  rename_i as k
  obtain ⟨⟨h0, h1, h2⟩, q⟩ := Go.iff q
  simp only [Rl] at rx ry
  obtain ⟨a, xs, rfl, hA, rA⟩ := rx
  subst ry
  have hx : xs ≠ [] := fun z => h0 (List.eq_nil_of_length_eq_zero (by rw [← rA.len, z]; rfl))
  refine ⟨a, k, xs, rfl, rfl, hA.t_up R.sub, hx, h1, by rw [rA.len]; exact h2, fun p u hp hu => ?_⟩
  have s := same_new (o := u) (R.fnone hp)
  refine q _ _ (R.alloc hp hu.nt) s (.ref p) ?_
  simp only [Rl]
  exact ⟨p, _, rfl, .inl ⟨u, upd_same, hu⟩, Rls.up s _ _ (rA.flat _)⟩
def isTI : D → D → Bool
  | .tup _, .int _ => true
  | _, _ => false
def mulD : D → D → M D := fun x y => if isI2 x y then int2 (fIc CMulW fun i j => i * j) x y else if isTI x y then repT x y else repL x y
theorem op_mulD {X : Cx} : OpR X (binaryOp .Mult) (fun x y H Q => rI CMulW (fun i j => .int (i * j)) x y H Q ∨ (rRepX X.K x y H Q ∨ rRep x y H Q)) := opOr op_mulW (opOr op_repX op_rep)
theorem os_mulD : OpS K G (fun x y H Q => rI CMulW (fun i j => .int (i * j)) x y H Q ∨ (rRepX K x y H Q ∨ rRep x y H Q)) mulD := os_rI.or (os_repT.or os_rep isTI) isI2
def divD : D → D → M D := int2 (fIc CDivW fun i j => i / j)
theorem op_divD {X : Cx} : OpR X (binaryOp .FloorDiv) (rI CDivW fun i j => .int (i / j)) := op_fdivW
theorem os_divD : OpS K G (rI CDivW fun i j => .int (i / j)) divD := os_rI
def modD : D → D → M D := int2 (fIc (fun _ j => 0 < j) fun i j => i % j)
theorem op_modD {X : Cx} : OpR X (binaryOp .Mod) (rI (fun _ j => 0 < j) fun i j => .int (i % j)) := op_mod
theorem os_modD : OpS K G (rI (fun _ j => 0 < j) fun i j => .int (i % j)) modD := os_rI
def powD : D → D → M D := int2 (fIc CPow fun i j => i ^ j.toNat)
theorem op_powD {X : Cx} : OpR X (binaryOp .Pow) (rI CPow fun i j => .int (i ^ j.toNat)) := op_pow
theorem os_powD : OpS K G (rI CPow fun i j => .int (i ^ j.toNat)) powD := os_rI
/-! ### comparisons -/
def ltD : D → D → M D := int2 (fB fun i j => decide (i < j))
def leD : D → D → M D := int2 (fB fun i j => decide (i ≤ j))
def gtD : D → D → M D := int2 (fB fun i j => decide (j < i))
def geD : D → D → M D := int2 (fB fun i j => decide (j ≤ i))
theorem os_ltD : OpS K G (rI0 fun i j => .bl (decide (i < j))) ltD := os_rB0
theorem os_leD : OpS K G (rI0 fun i j => .bl (decide (i ≤ j))) leD := os_rB0
theorem os_gtD : OpS K G (rI0 fun i j => .bl (decide (j < i))) gtD := os_rB0
theorem os_geD : OpS K G (rI0 fun i j => .bl (decide (j ≤ i))) geD := os_rB0
mutual
def pd : D → Option PyData
  | .non => some .none
  | .bl b => some (.bool b)
  | .int i => some (.int i)
  | .str x => some (.str x)
  | .tup xs => (pds xs).map .tuple
  | .lst xs => (pds xs).map .list
  | .sq xs => (pds xs).map .list
  | .ref _ => none
  | .ty _ => none
  | .ins _ _ => none
  | .dic _ => none
def pds : List D → Option (List PyData)
  | [] => some []
  | x :: xs => match pd x, pds xs with
    | some p, some ps => some (p :: ps)
    | _, _ => none
end
mutual
theorem dp_of {F H : Hp} (s : Same F H) : ∀ (d : D) (v : V) (p : PyData), Rl K F d v → pd d = some p → Dp K H v p
  | .non, v, p, h, e => by simp only [Rl] at h; simp only [pd] at e; cases e; subst h; exact .non
  | .bl b, v, p, h, e => by simp only [Rl] at h; simp only [pd] at e; cases e; subst h; exact .bl b
  | .int b, v, p, h, e => by simp only [Rl] at h; simp only [pd] at e; cases e; subst h; exact .int b
  | .str b, v, p, h, e => by simp only [Rl] at h; simp only [pd] at e; cases e; subst h; exact .str b
  | .tup xs, v, p, h, e => by
    simp only [Rl] at h
    simp only [pd, Option.map_eq_some_iff] at e
    obtain ⟨a, vs, rfl, h2, h3⟩ := h
    obtain ⟨ps, e1, rfl⟩ := e
    exact .tup (h2.t_up s) (dps_of s xs vs ps h3 e1)
  | .lst xs, v, p, h, e => by
    simp only [Rl] at h
    simp only [pd, Option.map_eq_some_iff] at e
    obtain ⟨a, vs, rfl, h2, h3⟩ := h
    obtain ⟨ps, e1, rfl⟩ := e
    exact .lst (SqL.of (s _ _ h2)) (dps_of s xs vs ps h3 e1)
  | .sq xs, v, p, h, e => by
    simp only [Rl] at h
    simp only [pd, Option.map_eq_some_iff] at e
    obtain ⟨a, vs, rfl, h2, h3⟩ := h
    obtain ⟨ps, e1, rfl⟩ := e
    exact .lst (s.seq h2) (dps_of s xs vs ps h3 e1)
  | .ref _, _, _, _, e => by simp only [pd] at e; cases e
  | .ty _, _, _, _, e => by simp only [pd] at e; cases e
  | .ins _ _, _, _, _, e => by simp only [pd] at e; cases e
  | .dic _, _, _, _, e => by simp only [pd] at e; cases e
theorem dps_of {F H : Hp} (s : Same F H) : ∀ (ds : List D) (vs : List V) (ps : List PyData), Rls K F ds vs → pds ds = some ps → DpAll K H vs ps
  | [], vs, ps, h, e => by simp only [Rls] at h; simp only [pds] at e; cases e; subst h; exact .nil
  | d :: ds, vs, ps, h, e => by
    simp only [Rls] at h
    simp only [pds] at e
    obtain ⟨x, r, rfl, h2, h3⟩ := h
    cases e1 : pd d with
    | none => rw [e1] at e; cases e
    | some p =>
      cases e2 : pds ds with
      | none => rw [e1, e2] at e; cases e
      | some ps' =>
        rw [e1, e2] at e
        cases e
        exact .cons (dp_of s d x p h2 e1) (dps_of s ds r ps' h3 e2)
end
def eqO : D → D → Option Bool := fun x y => match pd x, pd y with
  | some p, some q => if SeqAt.shaped p = true ∧ SeqAt.shaped q = true then some (PyData.eqv p q) else none
  | _, _ => none
def eqD : D → D → M D := fun x y => opt ((eqO x y).map .bl)
def neD : D → D → M D := fun x y => opt ((eqO x y).map fun b => .bl (!b))
theorem eqO_ok {x y : D} {b : Bool} (h : eqO x y = some b) : ∃ p q, pd x = some p ∧ pd y = some q ∧ SeqAt.shaped p = true ∧ SeqAt.shaped q = true ∧ b = PyData.eqv p q := by
  unfold eqO at h
  cases e1 : pd x with
  | none => rw [e1] at h; cases h
  | some p =>
    cases e2 : pd y with
    | none => rw [e1, e2] at h; cases h
    | some q =>
      rw [e1, e2] at h
      dsimp only at h
      split at h
      · rename_i hc
        cases h
        exact ⟨p, q, rfl, rfl, hc.1, hc.2, rfl⟩
      · cases h
theorem os_eqD : OpS K G (rEqD K) eqD := by
  intro F H ev σ dx dy x y Q R rx ry q
  obtain ⟨d, e, k⟩ := Go.opt q R
  obtain ⟨b, e1, rfl⟩ := Option.map_eq_some_iff.mp e
  obtain ⟨p, q', h1, h2, h3, h4, rfl⟩ := eqO_ok e1
  exact ⟨p, q', dp_of R.sub _ _ _ rx h1, dp_of R.sub _ _ _ ry h2, h3, h4, k _ (by simp only [Rl])⟩
theorem os_neD : OpS K G (rNeD K) neD := by
  intro F H ev σ dx dy x y Q R rx ry q
  obtain ⟨d, e, k⟩ := Go.opt q R
  obtain ⟨b, e1, rfl⟩ := Option.map_eq_some_iff.mp e
  obtain ⟨p, q', h1, h2, h3, h4, rfl⟩ := eqO_ok e1
  exact ⟨p, q', dp_of R.sub _ _ _ rx h1, dp_of R.sub _ _ _ ry h2, h3, h4, k _ (by simp only [Rl])⟩
/-- x is None -/
def isnD (neg : Bool) : D → D → M D := fun x y => match y with
  | .non => match x with
    | .non => ret (.bl (!neg))
    | _ => ret (.bl neg)
  | _ => bad
theorem nonV {F : Hp} {d : D} {v : V} (h : Rl K F d v) : v = .non ↔ d = .non := by
  cases d <;> simp only [Rl] at h
  case non => exact ⟨fun _ => rfl, fun _ => h⟩
  case tup => obtain ⟨a, xs, rfl, _⟩ := h; exact ⟨(fun z => nomatch z), (fun z => nomatch z)⟩
  case lst => obtain ⟨a, xs, rfl, _⟩ := h; exact ⟨(fun z => nomatch z), (fun z => nomatch z)⟩
  case sq => obtain ⟨a, xs, rfl, _⟩ := h; exact ⟨(fun z => nomatch z), (fun z => nomatch z)⟩
  case dic => obtain ⟨a, xs, rfl, _⟩ := h; exact ⟨(fun z => nomatch z), (fun z => nomatch z)⟩
  case ins => obtain ⟨a, dx, xs, rfl, _⟩ := h; exact ⟨(fun z => nomatch z), (fun z => nomatch z)⟩
  all_goals (subst h; exact ⟨(fun z => nomatch z), (fun z => nomatch z)⟩)
theorem os_isn : OpS K G (fun x y H Q => y = .non ∧ Q (.bl (decide (x = .non))) H) (isnD false) := by
  intro F H ev σ dx dy x y Q R rx ry q
  unfold isnD at q
  cases dy <;> first | exact q.elim | skip
  refine ⟨(nonV ry).mpr rfl, ?_⟩
  by_cases hd : dx = .non
  · subst hd
    rw [decide_eq_true ((nonV rx).mpr rfl)]
    exact Go.ret q R _ (by simp only [Rl]; rfl)
  · rw [decide_eq_false (fun z => hd ((nonV rx).mp z))]
    cases dx <;> first | exact absurd rfl hd | exact Go.ret q R _ (by simp only [Rl])
theorem os_isnN : OpS K G (fun x y H Q => y = .non ∧ Q (.bl (!decide (x = .non))) H) (isnD true) := by
  intro F H ev σ dx dy x y Q R rx ry q
  unfold isnD at q
  cases dy <;> first | exact q.elim | skip
  refine ⟨(nonV ry).mpr rfl, ?_⟩
  by_cases hd : dx = .non
  · subst hd
    rw [decide_eq_true ((nonV rx).mpr rfl)]
    exact Go.ret q R _ (by simp only [Rl])
  · rw [decide_eq_false (fun z => hd ((nonV rx).mp z))]
    cases dx <;> first | exact absurd rfl hd | exact Go.ret q R _ (by simp only [Rl]; rfl)
/-- x is True, x is not False -/
def isbD (neg : Bool) : D → D → M D := fun x y => match x, y with
  | .bl a, .bl b => ret (.bl (neg != decide (a = b)))
  | _, _ => bad
theorem os_isb : OpS K G rIsB (isbD false) := by
  intro F H ev σ dx dy x y Q R rx ry q
  unfold isbD at q
  cases dx <;> cases dy <;> first | exact q.elim | skip
  simp only [Rl] at rx ry
  subst rx ry
  exact ⟨_, _, rfl, rfl, Go.ret q R _ (by simp only [Rl]; rw [Bool.false_bne])⟩
theorem os_isbN : OpS K G rNotB (isbD true) := by
  intro F H ev σ dx dy x y Q R rx ry q
  unfold isbD at q
  cases dx <;> cases dy <;> first | exact q.elim | skip
  simp only [Rl] at rx ry
  subst rx ry
  exact ⟨_, _, rfl, rfl, Go.ret q R _ (by simp only [Rl]; rw [Bool.true_bne])⟩
/-! ### items -/
def its : D → Option (List D)
  | .tup xs => some xs
  | .lst xs => some xs
  | .sq xs => some xs
  | _ => none
def ixO : D → D → Option D := fun x y => match x, y with
  | .str z, .int i => if z.length ≤ big then (atI z.cps.toList i).map fun c => .str ⟨#[c]⟩ else none
  | x, .int i => (its x).bind fun xs => atI xs i
  | _, _ => none
def ixD : D → D → M D := fun x y => opt (ixO x y)
theorem Rls.atI {F : Hp} {ds : List D} {vs : List V} {i : Int} {d : D} (h : Rls K F ds vs) (e : L2.atI ds i = some d) : ∃ v, L2.atI vs i = some v ∧ Rl K F d v := by
  unfold L2.atI at e ⊢
  rw [h.len]
  obtain ⟨j, e1, e2⟩ := Option.bind_eq_some_iff.mp e
  rw [e1]
  exact h.get e2
/-- the items of what is walked, read -/
theorem seq_of {F H : Hp} (s : Same F H) {d : D} {v : V} {ds : List D} (h : Rq K F H d v) (e : its d = some ds) : ∃ a xs, v = .ref a ∧ (SqL K H a xs ∨ SqT K H a xs) ∧ Rls K F ds xs := by
  rcases h with h | ⟨es, a, xs, rfl, rfl, h1, h2⟩
  · cases d <;> simp only [its] at e <;> first | cases e | skip
    · simp only [Rl] at h
      obtain ⟨a, xs, rfl, h1, h2⟩ := h
      exact ⟨a, xs, rfl, .inr (h1.t_up s), h2⟩
    · simp only [Rl] at h
      obtain ⟨a, xs, rfl, h1, h2⟩ := h
      exact ⟨a, xs, rfl, .inl (SqL.of (s _ _ h1)), h2⟩
    · simp only [Rl] at h
      obtain ⟨a, xs, rfl, h1, h2⟩ := h
      exact ⟨a, xs, rfl, .inl (s.seq h1), h2⟩
  · simp only [its] at e
    cases e
    exact ⟨a, xs, rfl, .inl (SqL.of h1), h2⟩
theorem ix_rd {F H : Hp} (s : Same F H) {dx dy d : D} {x y : V} {Q : VK} (rx : Rq K F H dx x) (ry : Rl K F dy y) (e : ixO dx dy = some d) (k : ∀ v, Rl K F d v → Q v H) : rIx K x y H Q := by
  unfold ixO at e
  split at e
  · rename_i z i
    split at e
    · rename_i hz
      obtain ⟨c, e1, rfl⟩ := Option.map_eq_some_iff.mp e
      simp only [Rl] at ry
      subst ry
      have rx : x = .str z := by
        rcases rx with rx | ⟨_, _, _, z, _⟩
        · simpa only [Rl] using rx
        · cases z
      subst rx
      exact .inr (.inr ⟨z, i, c, rfl, rfl, big_line hz, e1, k _ (by simp only [Rl])⟩)
    · cases e
  · rename_i i _
    obtain ⟨xs, e1, e2⟩ := Option.bind_eq_some_iff.mp e
    obtain ⟨a, vs, rfl, hs, rs⟩ := seq_of s rx e1
    simp only [Rl] at ry
    subst ry
    obtain ⟨v, h1, h2⟩ := rs.atI e2
    rcases hs with hs | hs
    · exact .inl ⟨a, vs, i, v, rfl, rfl, hs, h1, k v h2⟩
    · exact .inr (.inl ⟨a, vs, i, v, rfl, rfl, hs, h1, k v h2⟩)
  · cases e
theorem os_ix : OpS K G (rIx K) ixD := by
  intro F H ev σ dx dy x y Q R rx ry q
  obtain ⟨d, e, k⟩ := Go.opt q R
  exact ix_rd R.sub (.inl rx) ry e k
end
section
variable {X : Cx} {G : Gx}
theorem ie_ix {a b : Expr} {fa fb : M D} {pos : Pos} (ha : PE X a (LE X.K G fa)) (hb : PE X b (LE X.K G fb)) (hs : PlainIx b := by exact fun _ _ => rfl) : PE X (.Subscript a b pos) (LE X.K G (b2 ixD fa fb)) := PE.wk (pe_ix ix_seq ha hb hs) fun _ _ _ q => lop os_ix q
/-- the slot i is there -/
theorem vP_there {K : PySem.W.Frag} {F H : Hp} {ev : Ev} {σ : Sg} {i : Nat} {α : Type} {g : D → M α} {k : Hp → Ev → α → Hp → Prop} (h : Go K G σ F (bnd (vP i) g ev) k) (R : Rel K G F ev σ H) :
    ∃ d x, σ[i]? = some (some x) ∧ Rq K F H d x ∧ Go K G σ F (g d ev) k := by
  unfold bnd vP at h
  cases es : ev[i]? with
  | none => rw [es] at h; exact h.elim
  | some s =>
    rw [es] at h
    have sl := R.slot i s es
    cases s with
    | no => exact h.elim
    | sh d =>
      obtain ⟨v, h1, h2⟩ := sl
      exact ⟨d, v, h1, .inl h2, h⟩
    | ol ds =>
      obtain ⟨a, xs, h1, h2, h3, h4, h5⟩ := sl
      exact ⟨_, _, h1, .inr ⟨ds, a, xs, rfl, rfl, h2, h5⟩, h⟩
    | io ds =>
      obtain ⟨a, xs, h1, h2, h3, h4, h5⟩ := sl
      exact ⟨_, _, h1, .inr ⟨ds, a, xs, rfl, rfl, h2, h5⟩, h⟩
/-- x[i], x the slot i as it stands behind the index -/
def ixV (i : Nat) (fb : M D) : M D := bnd (vP i) fun _ => bnd fb fun y => bnd (vP i) fun x => ixD x y
theorem ie_ixV {i : Nat} {a b : Expr} {fb : M D} {pos : Pos} (ha : PE X a (tVar i)) (hb : PE X b (LE X.K G fb)) (hs : PlainIx b := by exact fun _ _ => rfl) : PE X (.Subscript a b pos) (LE X.K G (ixV i fb)) := PE.wk (pe_ix ix_seq ha hb hs) fun σ H Q q => by
  obtain ⟨F, ev, R, g⟩ := q
  obtain ⟨d0, x, hx, _, g⟩ := vP_there g R
  refine ⟨x, hx, F, ev, R, g.bind.imp fun F2 ev2 dy H2 _ R2 s2 k2 y ry => ?_⟩
  obtain ⟨d, x', hx', rx, k3⟩ := vP_there k2 R2
  rw [hx] at hx'
  cases hx'
  obtain ⟨e, e1, k⟩ := Go.opt k3 R2
  exact ix_rd R2.sub rx ry e1 k
end
end Vs
/-! Vs, slices, built-in calls, methods, fields. -/
namespace Vs
open PySem PySem.Spec PyProof.Rows L2 LamX NdefX

/-! ### slices -/
def cutG {α : Type} (xs : List α) (lo hi : Option Int) : List α := (xs.drop (HT.sIx xs.length 0 lo)).take (HT.sIx xs.length xs.length hi - HT.sIx xs.length 0 lo)
theorem Rls.cut {K : PySem.W.Frag} {F : Hp} {ds : List D} {vs : List V} (h : Rls K F ds vs) (lo hi : Option Int) : Rls K F (cutG ds lo hi) (cutV vs lo hi) := by
  unfold cutG cutV
  rw [h.len]
  exact Rls.take _ (Rls.drop _ h)
def LO (K : PySem.W.Frag) (G : Gx) (f : M (Option Int)) : TO := fun σ H Q => ∃ F ev, Rel K G F ev σ H ∧ Go K G σ F (f ev) fun _ _ o H' => Q o H'
theorem PO.wk {X : Cx} {e : Option Expr} {t t' : TO} (h : PO X e t) (w : ∀ σ H Q, t' σ H Q → t σ H Q) : PO X e t' := ⟨fun pins s σ H Q I q => h.run pins s σ H Q I (w σ H Q q)⟩
def asI (f : M D) : M (Option Int) := bnd f fun d => match d with
  | .int i => ret (some i)
  | _ => bad
section
variable {X : Cx} {G : Gx}
theorem io_none : PO X none (LO X.K G (ret none)) := PO.wk po_none fun σ H Q q => by
  obtain ⟨F, ev, R, g⟩ := q
  exact Go.ret g R
theorem io_some {e : Expr} {f : M D} (h : PE X e (LE X.K G f)) : PO X (some e) (LO X.K G (asI f)) := PO.wk (po_some h) fun σ H Q q => by
  obtain ⟨F, ev, R, g⟩ := q
  refine ⟨F, ev, R, g.bind.imp fun F1 ev1 d H1 _ R1 _ k v rv => ?_⟩
  cases d with
  | int i =>
    simp only [Rl] at rv
    exact ⟨i, rv, Go.ret k R1⟩
  | _ => exact k.elim
theorem slOr {r r' : V → Option Int → Option Int → Hp → VK → Prop} (h : L2.SlR X r) (h' : L2.SlR X r') : L2.SlR X (fun x lo hi H Q => r x lo hi H Q ∨ r' x lo hi H Q) := L2.SlR.or h h'
/-- x[a:b] as a value -/
def slD (x : D) (lo hi : Option Int) : M D := match x with
  | .tup xs => ret (.tup (cutG xs lo hi))
  | .lst xs => ret (.lst (cutG xs lo hi))
  | .sq xs => ret (.lst (cutG xs lo hi))
  | _ => bad
def sl3 (f : M D) (fl fu : M (Option Int)) : M D := bnd f fun x => bnd fl fun l => bnd fu fun u => slD x l u
theorem cutG_all {α : Type} {xs : List α} {lo hi : Option Int} (h : HT.sIx xs.length 0 lo = 0 ∧ HT.sIx xs.length xs.length hi = xs.length) : cutG xs lo hi = xs := by
  unfold cutG
  rw [h.1, h.2]
  simp
theorem sl_list_ok {K : PySem.W.Frag} {F H : Hp} {ev : Ev} {σ : Sg} {ds : List D} {a : Addr} {xs : List V} {lo hi : Option Int} {Q : VK} (R : Rel K G F ev σ H) (hs : SqL K H a xs) (rs : Rls K F ds xs)
    (k : Go K G σ F (ret (.lst (cutG ds lo hi)) ev) fun F' _ d H' => ∀ v, Rl K F' d v → Q v H') : rSlL K (.ref a) lo hi H Q := by
  refine ⟨a, xs, rfl, hs, fun p hp => ?_⟩
  have s := same_new (o := .lst (cutV xs lo hi)) (R.fnone hp)
  refine k _ _ (R.alloc hp nt_lst) s (.ref p) ?_
  simp only [Rl]
  exact ⟨p, _, rfl, upd_same, Rls.up s _ _ (rs.cut lo hi)⟩
theorem ie_sl {e : Expr} {lo hi : Option Expr} {f : M D} {fl fu : M (Option Int)} {p2 pos : Pos} (he : PE X e (LE X.K G f)) (hl : PO X lo (LO X.K G fl)) (hu : PO X hi (LO X.K G fu)) : PE X (.Subscript e (.Slice lo hi none p2) pos) (LE X.K G (sl3 f fl fu)) :=
  PE.wk (pe_slice (slOr sl_list sl_tupX) he hl hu) fun σ H Q q => by
    obtain ⟨F, ev, R, g⟩ := q
    refine ⟨F, ev, R, g.bind.imp fun F1 ev1 dx H1 _ R1 _ k1 x rx => ⟨F1, ev1, R1, k1.bind.imp fun F2 ev2 l H2 _ R2 s2 k2 => ⟨F2, ev2, R2, k2.bind.imp fun F3 ev3 u H3 _ R3 s3 k3 => ?_⟩⟩⟩
    have rx3 := Rl.up (s2.trans s3) _ _ rx
    unfold slD at k3
    cases dx <;> first | exact k3.elim | skip
    · have hx := rx3
      simp only [Rl] at rx3
      obtain ⟨a, xs, rfl, h1, h2⟩ := rx3
      refine .inr ⟨a, xs, rfl, h1.t_up R3.sub, fun hw => ?_, fun hw p w hp hu => ?_⟩
      · rw [h2.len] at hw
        dsimp only at k3
        rw [cutG_all hw] at k3
        exact Go.ret k3 R3 _ hx
      · have s := same_new (o := w) (R3.fnone hp)
        refine k3 _ _ (R3.alloc hp hu.nt) s (.ref p) ?_
        simp only [Rl]
        exact ⟨p, _, rfl, .inl ⟨w, upd_same, hu⟩, Rls.up s _ _ (h2.cut l u)⟩
    · simp only [Rl] at rx3
      obtain ⟨a, xs, rfl, h1, h2⟩ := rx3
      exact .inl (sl_list_ok R3 (SqL.of (R3.sub _ _ h1)) h2 k3)
    · simp only [Rl] at rx3
      obtain ⟨a, xs, rfl, h1, h2⟩ := rx3
      exact .inl (sl_list_ok R3 (R3.sub.seq h1) h2 k3)
/-- x[a:b], x the slot i (its own list is not handed on) -/
def slV (i : Nat) (fl fu : M (Option Int)) : M D := bnd (vP i) fun _ => bnd fl fun l => bnd fu fun u => bnd (vP i) fun x => match x with
  | .lst xs => ret (.lst (cutG xs l u))
  | _ => bad
theorem ie_slV {i : Nat} {e : Expr} {lo hi : Option Expr} {fl fu : M (Option Int)} {p2 pos : Pos} (he : PE X e (tVar i)) (hl : PO X lo (LO X.K G fl)) (hu : PO X hi (LO X.K G fu)) : PE X (.Subscript e (.Slice lo hi none p2) pos) (LE X.K G (slV i fl fu)) :=
  PE.wk (pe_slice sl_list he hl hu) fun σ H Q q => by
    obtain ⟨F, ev, R, g⟩ := q
    obtain ⟨d0, x, hx, _, g⟩ := vP_there g R
    refine ⟨x, hx, F, ev, R, g.bind.imp fun F2 ev2 l H2 _ R2 s2 k2 => ⟨F2, ev2, R2, k2.bind.imp fun F3 ev3 u H3 _ R3 s3 k3 => ?_⟩⟩
    obtain ⟨d, x', hx', rx, k4⟩ := vP_there k3 R3
    rw [hx] at hx'
    cases hx'
    cases d <;> first | exact k4.elim | skip
    obtain ⟨a, xs, rfl, hs, rs⟩ : ∃ a xs, x = .ref a ∧ SqL X.K H3 a xs ∧ Rls X.K F3 _ xs := by
      rcases rx with rx | ⟨es, a, xs, e1, rfl, h1, h2⟩
      · simp only [Rl] at rx
        obtain ⟨a, xs, rfl, h1, h2⟩ := rx
        exact ⟨a, xs, rfl, SqL.of (R3.sub _ _ h1), h2⟩
      · cases e1
        exact ⟨a, xs, rfl, SqL.of h1, h2⟩
    exact sl_list_ok R3 hs rs k4

/-! ### calls of built-ins, one argument that is looked at -/
def LAq (K : PySem.W.Frag) (G : Gx) (f : M D) : TA := fun σ H Q => LQ K G f σ H fun v H' => Q [v] H'
theorem ia_q {e : Expr} {f : M D} (h : PE X e (LQ X.K G f)) (hs : starEach (e :: []) X.env = (false, eval e X.env) :: starEach [] X.env := by rfl) : PA X [e] (LAq X.K G f) := PA.wk (pa_cons h pa_nil hs) fun σ H Q q => q
def C1 (K : PySem.W.Frag) (G : Gx) (r : List V → Hp → VK → Prop) (g : D → M D) : Prop := ∀ (F H : Hp) (ev : Ev) (σ : Sg) (d : D) (v : V) (Q : VK), Rel K G F ev σ H → Rq K F H d v →
  Go K G σ F (g d ev) (fun F' _ d H' => ∀ v, Rl K F' d v → Q v H') → r [v] H Q
theorem lc1 {K : PySem.W.Frag} {r : List V → Hp → VK → Prop} {g : D → M D} {f : M D} (hs : C1 K G r g) {σ : Sg} {H : Hp} {Q : VK} (h : LE K G (bnd f g) σ H Q) : tCB r (LAq K G f) σ H Q := by
  obtain ⟨F, ev, R, q⟩ := h
  exact ⟨F, ev, R, q.bind.imp fun F1 ev1 d H1 _ R1 _ k1 v rv => hs F1 H1 ev1 σ d v Q R1 rv k1⟩
theorem ie_b1 {e : Expr} {f : M D} {id : String} {r : List V → Hp → VK → Prop} {g : D → M D} {x : Str} {p pos : Pos} (hc : CallR X (.builtin id) r) (hs : C1 X.K G r g) (hg : Gl X x) (hm : X.mg x = none) (hv : bootBuiltins x = some (.builtin id)) (he : PE X e (LQ X.K G f))
    (hn : x ≠ "__name__" := by decide) (hdb : (x == ("__debug__" : Str)) = false := by decide) (h1 : starEach (e :: []) X.env = (false, eval e X.env) :: starEach [] X.env := by rfl) : PE X (.Call (.Name x p) [e] [] pos) (LE X.K G (bnd f g)) :=
  PE.wk (pe_callB hc hg hm hv (ia_q he h1) hn hdb h1 rfl) fun _ _ _ q => lc1 hs q
theorem ie_t1 {e : Expr} {f : M D} {T : String} {r : List V → Hp → VK → Prop} {g : D → M D} {x : Str} {p pos : Pos} (hc : CallR X (.type T) r) (hs : C1 X.K G r g) (hg : Gl X x) (hm : X.mg x = none) (hv : bootBuiltins x = some (.type T)) (he : PE X e (LQ X.K G f))
    (hn : x ≠ "__name__" := by decide) (hdb : (x == ("__debug__" : Str)) = false := by decide) (h1 : starEach (e :: []) X.env = (false, eval e X.env) :: starEach [] X.env := by rfl) : PE X (.Call (.Name x p) [e] [] pos) (LE X.K G (bnd f g)) :=
  PE.wk (pe_callTy hc hg hm hv (ia_q he h1) hn hdb h1 rfl) fun _ _ _ q => lc1 hs q
def CN (K : PySem.W.Frag) (G : Gx) (r : List V → Hp → VK → Prop) (g : List D → M D) : Prop := ∀ (F H : Hp) (ev : Ev) (σ : Sg) (ds : List D) (vs : List V) (Q : VK), Rel K G F ev σ H → Rls K F ds vs →
  Go K G σ F (g ds ev) (fun F' _ d H' => ∀ v, Rl K F' d v → Q v H') → r vs H Q
theorem lcn {K : PySem.W.Frag} {r : List V → Hp → VK → Prop} {g : List D → M D} {f : M (List D)} (hs : CN K G r g) {σ : Sg} {H : Hp} {Q : VK} (h : LE K G (bnd f g) σ H Q) : tCB r (LA K G f) σ H Q := by
  obtain ⟨F, ev, R, q⟩ := h
  exact ⟨F, ev, R, q.bind.imp fun F1 ev1 d H1 _ R1 _ k1 v rv => hs F1 H1 ev1 σ d v Q R1 rv k1⟩
theorem ie_bn {e : Expr} {es : List Expr} {f : M (List D)} {id : String} {r : List V → Hp → VK → Prop} {g : List D → M D} {x : Str} {p pos : Pos} (hc : CallR X (.builtin id) r) (hs : CN X.K G r g) (hg : Gl X x) (hm : X.mg x = none) (hv : bootBuiltins x = some (.builtin id)) (he : PA X (e :: es) (LA X.K G f))
    (hn : x ≠ "__name__" := by decide) (hdb : (x == ("__debug__" : Str)) = false := by decide) (h1 : starEach (e :: es) X.env = (false, eval e X.env) :: starEach es X.env := by rfl) (h2 : (backTo pos (starEach es X.env)).any (·.1) = false := by rfl) : PE X (.Call (.Name x p) (e :: es) [] pos) (LE X.K G (bnd f g)) :=
  PE.wk (pe_callB hc hg hm hv he hn hdb h1 h2) fun _ _ _ q => lcn hs q

/-! ### which -/
variable {K : PySem.W.Frag}
def lenD (d : D) : M D := match d with
  | .str z => if z.length ≤ big then ret (.int z.length) else bad
  | d => opt ((its d).map fun xs => .int xs.length)
theorem c1_len : C1 K G (fun xs H Q => ∃ x n, xs = [x] ∧ LenV K x H n ∧ Q (.int n) H) lenD := by
  intro F H ev σ d v Q R rv q
  have key : Go K G σ F (opt ((its d).map fun xs => D.int xs.length) ev) (fun F' _ d H' => ∀ v, Rl K F' d v → Q v H') → ∃ x n, [v] = [x] ∧ LenV K x H n ∧ Q (.int n) H := fun q => by
    obtain ⟨e, e1, k⟩ := Go.opt q R
    obtain ⟨xs, e2, rfl⟩ := Option.map_eq_some_iff.mp e1
    obtain ⟨a, vs, rfl, hs, rs⟩ := seq_of R.sub rv e2
    refine ⟨.ref a, vs.length, rfl, ?_, ?_⟩
    · rcases hs with hs | hs
      · exact .inl ⟨vs, hs, rfl⟩
      · exact .inr ⟨vs, hs, rfl⟩
    · rw [rs.len]; exact k _ (by simp only [Rl])
  cases d <;> first | exact key q | skip
  rename_i z
  unfold lenD at q
  obtain ⟨hz, q⟩ := Go.iff q
  have rv : v = .str z := by
    rcases rv with rv | ⟨_, _, _, e, _⟩
    · simpa only [Rl] using rv
    · cases e
  subst rv
  exact ⟨_, z.length, rfl, ⟨big_line hz, rfl⟩, Go.ret q R _ (by simp only [Rl])⟩
theorem rq_int {F H : Hp} {i : Int} {v : V} (h : Rq K F H (.int i) v) : v = .int i := by
  rcases h with h | ⟨_, _, _, e, _⟩
  · simpa only [Rl] using h
  · cases e
theorem rq_bl {F H : Hp} {i : Bool} {v : V} (h : Rq K F H (.bl i) v) : v = .bl i := by
  rcases h with h | ⟨_, _, _, e, _⟩
  · simpa only [Rl] using h
  · cases e
def absD (d : D) : M D := match d with
  | .int i => ret (.int (if i < 0 then -i else i))
  | _ => bad
theorem c1_abs : C1 K G (fun xs H Q => ∃ i, xs = [.int i] ∧ Q (.int (if i < 0 then -i else i)) H) absD := by
  intro F H ev σ d v Q R rv q
  unfold absD at q
  cases d <;> first | exact q.elim | skip
  rw [rq_int rv]
  exact ⟨_, rfl, Go.ret q R _ (by simp only [Rl])⟩
def intD (d : D) : M D := match d with
  | .int i => ret (.int i)
  | .bl b => ret (.int (if b then 1 else 0))
  | _ => bad
theorem c1_int : C1 K G (fun xs H Q => (∃ i, xs = [.int i] ∧ Q (.int i) H) ∨ ∃ k, xs = [.bl k] ∧ Q (.int (if k then 1 else 0)) H) intD := by
  intro F H ev σ d v Q R rv q
  unfold intD at q
  cases d <;> first | exact q.elim | skip
  · rw [rq_bl rv]
    exact .inr ⟨_, rfl, Go.ret q R _ (by simp only [Rl])⟩
  · rw [rq_int rv]
    exact .inl ⟨_, rfl, Go.ret q R _ (by simp only [Rl])⟩
def lstI : List D → Option (List Int)
  | [] => some []
  | .int i :: ds => (lstI ds).map fun is => i :: is
  | _ :: _ => none
theorem lstI_ok : ∀ {ds : List D} {ns : List Int}, lstI ds = some ns → ds = ns.map D.int
  | [], ns, h => by simp only [lstI] at h; cases h; rfl
  | d :: ds, ns, h => by
    cases d <;> simp only [lstI] at h <;> first | cases h | skip
    obtain ⟨is, e, rfl⟩ := Option.map_eq_some_iff.mp h
    rw [lstI_ok e]; rfl
def lstB : List D → Option (List Bool)
  | [] => some []
  | .bl i :: ds => (lstB ds).map fun is => i :: is
  | _ :: _ => none
theorem lstB_ok : ∀ {ds : List D} {ns : List Bool}, lstB ds = some ns → ds = ns.map D.bl
  | [], ns, h => by simp only [lstB] at h; cases h; rfl
  | d :: ds, ns, h => by
    cases d <;> simp only [lstB] at h <;> first | cases h | skip
    obtain ⟨is, e, rfl⟩ := Option.map_eq_some_iff.mp h
    rw [lstB_ok e]; rfl
theorem Rls.bls {F : Hp} : ∀ {ns : List Bool} {vs : List V}, Rls K F (ns.map D.bl) vs → vs = ns.map V.bl
  | [], _, h => by simpa only [List.map_nil, Rls] using h
  | n :: ns, _, h => by
    simp only [List.map_cons, Rls, Rl] at h
    obtain ⟨x, r, rfl, rfl, h3⟩ := h
    rw [Rls.bls h3]; rfl
def itsL : D → Option (List D)
  | .lst xs => some xs
  | .sq xs => some xs
  | _ => none
theorem seqL_of {F H : Hp} (s : Same F H) {d : D} {v : V} {ds : List D} (h : Rq K F H d v) (e : itsL d = some ds) : ∃ a xs, v = .ref a ∧ SqL K H a xs ∧ Rls K F ds xs := by
  rcases h with h | ⟨es, a, xs, rfl, rfl, h1, h2⟩
  · cases d <;> simp only [itsL] at e <;> first | cases e | skip
    · simp only [Rl] at h
      obtain ⟨a, xs, rfl, h1, h2⟩ := h
      exact ⟨a, xs, rfl, SqL.of (s _ _ h1), h2⟩
    · simp only [Rl] at h
      obtain ⟨a, xs, rfl, h1, h2⟩ := h
      exact ⟨a, xs, rfl, s.seq h1, h2⟩
  · simp only [itsL] at e
    cases e
    exact ⟨a, xs, rfl, SqL.of h1, h2⟩
def sumD (d : D) : M D := opt (((itsL d).bind lstI).map fun ns => .int ns.sum)
theorem c1_sum : C1 K G (rSum K) sumD := by
  intro F H ev σ d v Q R rv q
  obtain ⟨e, e1, k⟩ := Go.opt q R
  obtain ⟨ns, e2, rfl⟩ := Option.map_eq_some_iff.mp e1
  obtain ⟨ds, e3, e4⟩ := Option.bind_eq_some_iff.mp e2
  obtain ⟨a, xs, rfl, hs, rs⟩ := seqL_of R.sub rv e3
  rw [lstI_ok e4] at rs
  rw [rs.ints] at hs
  exact ⟨a, ns, rfl, hs, k _ (by simp only [Rl])⟩
def allD (d : D) : M D := opt (((itsL d).bind lstB).map fun ns => .bl (ns.all id))
theorem c1_all : C1 K G (rAll K) allD := by
  intro F H ev σ d v Q R rv q
  obtain ⟨e, e1, k⟩ := Go.opt q R
  obtain ⟨ns, e2, rfl⟩ := Option.map_eq_some_iff.mp e1
  obtain ⟨ds, e3, e4⟩ := Option.bind_eq_some_iff.mp e2
  obtain ⟨a, xs, rfl, hs, rs⟩ := seqL_of R.sub rv e3
  rw [lstB_ok e4] at rs
  rw [rs.bls] at hs
  exact ⟨a, ns, rfl, hs, k _ (by simp only [Rl])⟩
def anyD (d : D) : M D := opt (((itsL d).bind lstB).map fun ns => .bl (ns.any id))
theorem c1_any : C1 K G (rAny K) anyD := by
  intro F H ev σ d v Q R rv q
  obtain ⟨e, e1, k⟩ := Go.opt q R
  obtain ⟨ns, e2, rfl⟩ := Option.map_eq_some_iff.mp e1
  obtain ⟨ds, e3, e4⟩ := Option.bind_eq_some_iff.mp e2
  obtain ⟨a, xs, rfl, hs, rs⟩ := seqL_of R.sub rv e3
  rw [lstB_ok e4] at rs
  rw [rs.bls] at hs
  exact ⟨a, ns, rfl, hs, k _ (by simp only [Rl])⟩
def tupD (d : D) : M D := match d with
  | .tup xs => ret (.tup xs)
  | d => opt ((itsL d).map .tup)
theorem c1_tup : C1 K G (rTupX K) tupD := by
  intro F H ev σ d v Q R rv q
  have key : Go K G σ F (opt ((itsL d).map .tup) ev) (fun F' _ d H' => ∀ v, Rl K F' d v → Q v H') → rTupX K [v] H Q := fun q => by
    obtain ⟨e, e1, k⟩ := Go.opt q R
    obtain ⟨ds, e2, rfl⟩ := Option.map_eq_some_iff.mp e1
    obtain ⟨a, xs, rfl, hs, rs⟩ := seqL_of R.sub rv e2
    refine ⟨a, xs, rfl, .inl ⟨hs, fun l u hl hu => ?_⟩⟩
    have s := same_new (o := u) (R.fnone hl)
    refine q.imp (fun F' ev' d' H' er R' s' k' => k') |>.ok (by rw [e1]; rfl) (R.alloc hl hu.nt) s (.ref l) ?_
    simp only [Rl]
    exact ⟨l, _, rfl, .inl ⟨u, upd_same, hu⟩, Rls.up s _ _ rs⟩
  cases d <;> first | exact key q | skip
  rename_i xs
  rcases rv with rv | ⟨_, _, _, e, _⟩
  · have hx := rv
    simp only [Rl] at rv
    obtain ⟨a, vs, rfl, h1, h2⟩ := rv
    exact ⟨a, vs, rfl, .inr ⟨h1.t_up R.sub, Go.ret q R _ hx⟩⟩
  · cases e
def lisD (d : D) : M D := opt ((its d).map .lst)
theorem c1_lis : C1 K G (fun xs H Q => ∃ p ys, xs = [.ref p] ∧ (SqL K H p ys ∨ SqT K H p ys) ∧ ∀ l, H l = none → Q (.ref l) (upd H l (.lst ys))) lisD := by
  intro F H ev σ d v Q R rv q
  obtain ⟨e, e1, _⟩ := Go.opt q R
  obtain ⟨ds, e2, rfl⟩ := Option.map_eq_some_iff.mp e1
  obtain ⟨a, xs, rfl, hs, rs⟩ := seq_of R.sub rv e2
  refine ⟨a, xs, rfl, hs, fun l hl => ?_⟩
  have s := same_new (o := .lst xs) (R.fnone hl)
  refine q.ok (by unfold lisD; rw [e1]; rfl) (R.alloc hl nt_lst) s (.ref l) ?_
  simp only [Rl]
  exact ⟨l, _, rfl, upd_same, Rls.up s _ _ rs⟩
def max2D (ds : List D) : M D := match ds with
  | [.int i, .int j] => ret (.int (if j > i then j else i))
  | _ => bad
theorem cn_max2 : CN K G (fun xs H Q => ∃ i j, xs = [.int i, .int j] ∧ Q (.int (if j > i then j else i)) H) max2D := by
  intro F H ev σ ds vs Q R rs q
  unfold max2D at q
  split at q
  · simp only [Rls, Rl] at rs
    obtain ⟨x, r, rfl, rfl, x2, r2, rfl, rfl, rfl⟩ := rs
    exact ⟨_, _, rfl, Go.ret q R _ (by simp only [Rl])⟩
  · exact q.elim
end
end Vs
/-! Vs, isinstance, methods of lists, fields. -/
namespace Vs
open PySem PySem.Spec PyProof.Rows L2 LamX NdefX
abbrev Tn := Sum String Addr
def Tn.v : Tn → Value
  | .inl n => .type n
  | .inr a => .ref a
def tyD : D → Option Tn
  | .non => some (.inl "NoneType")
  | .bl _ => some (.inl "bool")
  | .int _ => some (.inl "int")
  | .str _ => some (.inl "str")
  | .tup _ => some (.inl "tuple")
  | .lst _ => some (.inl "list")
  | .sq _ => some (.inl "list")
  | .ins C _ => some (.inr C)
  | .dic _ => some (.inl "dict")
  | _ => none
def clD : D → Option Tn
  | .ty n => some (.inl n)
  | .ref a => some (.inr a)
  | _ => none
/-- what isinstance tells of classes of the module -/
structure KT (K : PySem.W.Frag) (kf : Tn → Tn → Option Bool) : Prop where
  ok : ∀ a b r, kf a b = some r → PySem.W.kitOne K a.v b.v = some r
  ins : ∀ C b r, kf (.inr C) b = some r → Cls K C ∧ PySem.W.findIn K (.ref C) "__class__" = some (some (.builtin "object.__class__")) ∧
    PySem.W.specialIn K (.builtin "object.__class__") "__get__" = some (some (.builtin "getset_descriptor.__get__")) ∧ PySem.W.takesIn K (.builtin "object.__class__") = some true ∧ PySem.W.mroIn K C (.type "object") = some true
def kfB : Tn → Tn → Option Bool
  | .inl a, .inl b => kitB a b
  | _, _ => none
theorem ktB {K : PySem.W.Frag} : KT K kfB := ⟨fun a b r h => by
  cases a <;> cases b <;> simp only [kfB] at h <;> first | cases h | exact kit_ty h, fun C b r h => by cases b <;> cases h⟩
def isO (kf : Tn → Tn → Option Bool) (x c : D) : Option D := match tyD x, clD c with
  | some a, some b => (kf a b).map .bl
  | _, _ => none
def isD (kf : Tn → Tn → Option Bool) (ds : List D) : M D := match ds with
  | [x, c] => opt (isO kf x c)
  | _ => bad
section
variable {X : Cx} {G : Gx} {K : PySem.W.Frag}
theorem tyX_of {F H : Hp} {kf : Tn → Tn → Option Bool} (kt : KT K kf) (s : Same F H) {d : D} {v : V} {a b : Tn} {r : Bool} (h : Rl K F d v) (e : tyD d = some a) (hk : kf a b = some r) : TyX K H v a.v := by
  cases d <;> simp only [tyD] at e <;> first | cases e | skip
  all_goals simp only [Rl] at h
  · subst h; exact .base .non
  · subst h; exact .base (.bl _)
  · subst h; exact .base (.int _)
  · subst h; exact .base (.str _)
  · obtain ⟨p, xs, rfl, h1, h2⟩ := h
    rcases h1 with ⟨u, h1, o, rfl, _⟩ | ⟨o, its, n, h1, h3, _⟩
    · exact .fTuple (s _ _ h1)
    · exact .kTuple h1 h3
  · obtain ⟨p, xs, rfl, h1, h2⟩ := h
    exact .base (.lst (s _ _ h1))
  · obtain ⟨p, xs, rfl, h1, h2⟩ := h
    rcases h1 with (h1 | ⟨o, h1⟩) | ⟨o, its, n, h1, h3, _⟩
    · exact .base (.lst (s _ _ h1))
    · exact .base (.frz (s _ _ h1))
    · exact .kList h1 h3
  · obtain ⟨p, dx, gs, rfl, h1, h2⟩ := h
    obtain ⟨k1, k2, k3, k4, k5⟩ := kt.ins _ _ _ hk
    exact .base (.ins (s _ _ h1) k1 k2 k3 k4 k5)
  · obtain ⟨p, gs, rfl, h1, h2⟩ := h
    exact .base (.dK (s _ _ h1))
theorem cn_is {kf : Tn → Tn → Option Bool} (kt : KT K kf) : CN K G (rIsi K) (isD kf) := by
  intro F H ev σ ds vs Q R rs q
  unfold isD at q
  split at q
  · rename_i x c
    obtain ⟨d, e, k⟩ := Go.opt q R
    simp only [Rls] at rs
    obtain ⟨v, r, rfl, rx, w, r2, rfl, rc, rfl⟩ := rs
    unfold isO at e
    cases e1 : tyD x with
    | none => rw [e1] at e; cases e
    | some a =>
      cases e2 : clD c with
      | none => rw [e1, e2] at e; cases e
      | some b =>
        rw [e1, e2] at e
        obtain ⟨r, e3, rfl⟩ := Option.map_eq_some_iff.mp e
        have hc : ClsV w b.v := by
          cases c <;> simp only [clD] at e2 <;> first | cases e2 | skip
          · simp only [Rl] at rc; subst rc; exact .own _
          · simp only [Rl] at rc; subst rc; exact .ty _
        exact ⟨v, w, a.v, b.v, r, rfl, hc, tyX_of kt R.sub rx e1 e3, kt.ok _ _ _ e3, k _ (by simp only [Rl])⟩
  · exact q.elim

/-! ### methods of a list that is a slot's own -/
def _root_.Vs.Sl.to : Sl → List D → Sl
  | .ol _, es => .ol es
  | .io _, es => .io es
  | s, _ => s
/-- the own list of the slot i becomes f of it, what is told is d -/
def mutV (i : Nat) (g : List D → Option (List D × D)) : M D := fun ev => match ev[i]? with
  | some (.ol ds) => match g ds with
    | some (es, d) => .ok d (ev.set i (.ol es))
    | none => .bad
  | some (.io ds) => match g ds with
    | some (es, d) => .ok d (ev.set i (.io es))
    | none => .bad
  | _ => .bad
/-- an own list is written -/
theorem Rel.mut {F H : Hp} {ev : Ev} {σ : Sg} {i : Nat} {ds es : List D} {a : Addr} {xs ys : List V} {s : Sl} (R : Rel K G F ev σ H) (hs : ev[i]? = some s) (ho : s = .ol ds ∨ s = .io ds) (ha : σ[i]? = some (some (.ref a))) (hx : H a = some (.lst xs)) (ry : Rls K F es ys) :
    Rel K G F (ev.set i (s.to es)) σ (upd H a (.lst ys)) := by
  have own : s.own = true := by rcases ho with rfl | rfl <;> rfl
  have sl := R.slot i s hs
  have fa : F a = none := by
    obtain ⟨b, zs, h1, h2, h3⟩ := sl.lstAt own
    rw [ha] at h1; cases h1; exact h3
  have hi : i < ev.length := (List.getElem?_eq_some_iff.mp hs).1
  have io : G.H0 a = none ∨ a ∈ G.io := by
    rcases ho with rfl | rfl
    · obtain ⟨b, zs, h1, h2, h3, h4, h5⟩ := sl
      rw [ha] at h1; cases h1; exact .inl h4
    · obtain ⟨b, zs, h1, h2, h3, h4, h5⟩ := sl
      rw [ha] at h1; cases h1; exact .inr h4
  have nf : ∀ b o, F b = some o → b ≠ a := fun b o e z => by rw [z, fa] at e; cases e
  refine ⟨fun b o e => ?_, R.nt, fun b o e n hio => ?_, fun b e => ?_, tabsN_but R.tab fun b o e hc => ?_, R.f0, R.new, by rw [List.length_set]; exact R.len, fun j t e => ?_, fun j k t u b hjk ej ek ot ou hj hk => ?_⟩
  · rw [upd_ne (nf b o e)]; exact R.sub b o e
  · by_cases hb : b = a
    · subst hb
      rcases io with h | h
      · rw [h] at e; cases e
      · exact absurd h hio
    · rw [upd_ne hb]; exact R.old b o e n hio
  · by_cases hb : b = a
    · subst hb; rw [upd_same] at e; cases e
    · rw [upd_ne hb] at e; exact R.dom b e
  · have hb : b ≠ a := fun z => by
      rw [z, hx] at e
      cases e
      rcases hc with ⟨ps, z⟩ | ⟨c, q, _, z⟩
      · cases z
      · exact codeO_lst z.symm
    rw [upd_ne hb]; exact e
  · by_cases hj : j = i
    · subst hj
      rw [List.getElem?_set_self hi] at e
      rcases ho with rfl | rfl
      · cases e
        obtain ⟨b, zs, h1, h2, h3, h4, h5⟩ := sl
        rw [ha] at h1; cases h1
        exact ⟨a, ys, ha, upd_same, h3, h4, ry⟩
      · cases e
        obtain ⟨b, zs, h1, h2, h3, h4, h5⟩ := sl
        rw [ha] at h1; cases h1
        exact ⟨a, ys, ha, upd_same, h3, h4, ry⟩
    · rw [List.getElem?_set_ne (Ne.symm hj)] at e
      refine SlR.heap (R.slot j t e) fun b zs h1 h2 h3 => ?_
      have hb : b ≠ a := fun z => R.dis j i t s b hj e hs h2 own h1 (by rw [z]; exact ha)
      rw [upd_ne hb]; exact h3
  · have key : ∀ (j : Nat) (t : Sl), (ev.set i (s.to es))[j]? = some t → t.own = true → ∃ t', ev[j]? = some t' ∧ t'.own = true := fun j t e ot => by
      by_cases hj : j = i
      · subst hj; exact ⟨s, hs, own⟩
      · rw [List.getElem?_set_ne (Ne.symm hj)] at e; exact ⟨t, e, ot⟩
    obtain ⟨t', e1, o1⟩ := key j t ej ot
    obtain ⟨u', e2, o2⟩ := key k u ek ou
    exact R.dis j k t' u' b hjk e1 e2 o1 o2 hj hk
/-- what mutV asks -/
theorem mutV_at {F H : Hp} {ev : Ev} {σ : Sg} {i : Nat} {g : List D → Option (List D × D)} {k : Hp → Ev → D → Hp → Prop} (h : Go K G σ F (mutV i g ev) k) (R : Rel K G F ev σ H) :
    ∃ a xs ds es d, σ[i]? = some (some (.ref a)) ∧ H a = some (.lst xs) ∧ Rls K F ds xs ∧ g ds = some (es, d) ∧
      ∀ ys, Rls K F es ys → ∃ ev', Rel K G F ev' σ (upd H a (.lst ys)) ∧ k F ev' d (upd H a (.lst ys)) := by
  unfold mutV at h
  cases es : ev[i]? with
  | none => rw [es] at h; exact h.elim
  | some s =>
    rw [es] at h
    have sl := R.slot i s es
    cases s with
    | no => exact h.elim
    | sh d => exact h.elim
    | ol ds =>
      obtain ⟨a, xs, h1, h2, h3, h4, h5⟩ := sl
      dsimp only at h
      cases eg : g ds with
      | none => rw [eg] at h; exact h.elim
      | some q =>
        obtain ⟨es', d⟩ := q
        rw [eg] at h
        refine ⟨a, xs, ds, es', d, h1, h2, h5, eg, fun ys ry => ?_⟩
        have R2 := R.mut (es := es') es (.inl rfl) h1 h2 ry
        exact ⟨_, R2, h F _ R2 (Same.refl _)⟩
    | io ds =>
      obtain ⟨a, xs, h1, h2, h3, h4, h5⟩ := sl
      dsimp only at h
      cases eg : g ds with
      | none => rw [eg] at h; exact h.elim
      | some q =>
        obtain ⟨es', d⟩ := q
        rw [eg] at h
        refine ⟨a, xs, ds, es', d, h1, h2, h5, eg, fun ys ry => ?_⟩
        have R2 := R.mut (es := es') es (.inr rfl) h1 h2 ry
        exact ⟨_, R2, h F _ R2 (Same.refl _)⟩
def vL (i : Nat) : M (List D) := fun ev => match ev[i]? with
  | some (.ol ds) => .ok ds ev
  | some (.io ds) => .ok ds ev
  | _ => .bad
theorem vL_there {F H : Hp} {ev : Ev} {σ : Sg} {i : Nat} {α : Type} {g : List D → M α} {k : Hp → Ev → α → Hp → Prop} (h : Go K G σ F (bnd (vL i) g ev) k) (R : Rel K G F ev σ H) :
    ∃ ds a xs, σ[i]? = some (some (.ref a)) ∧ H a = some (.lst xs) ∧ Go K G σ F (g ds ev) k := by
  unfold bnd vL at h
  cases es : ev[i]? with
  | none => rw [es] at h; exact h.elim
  | some s =>
    rw [es] at h
    have sl := R.slot i s es
    cases s with
    | no => exact h.elim
    | sh d => exact h.elim
    | ol ds =>
      obtain ⟨a, xs, h1, h2, h3, h4, h5⟩ := sl
      exact ⟨ds, a, xs, h1, h2, h⟩
    | io ds =>
      obtain ⟨a, xs, h1, h2, h3, h4, h5⟩ := sl
      exact ⟨ds, a, xs, h1, h2, h⟩
/-- x.m(..), x the slot i's own list -/
def meV (i : Nat) (fs : M (List D)) (g : List D → List D → Option (List D × D)) : M D := bnd (vL i) fun _ => bnd fs fun ds => mutV i (g ds)
/-- the method's rule, by values -/
def MeS (K : PySem.W.Frag) (r : V → List V → Hp → VK → Prop) (g : List D → List D → Option (List D × D)) : Prop := ∀ (F H : Hp) (ds es es' : List D) (d : D) (vs xs : List V) (a : Addr) (Q : VK), Same F H → (∀ b o, F b = some o → b ≠ a) → H a = some (.lst xs) → Rls K F ds vs → Rls K F es xs →
  g ds es = some (es', d) → (∀ ys, Rls K F es' ys → ∀ v, Rl K F d v → Q v (upd H a (.lst ys))) → r (.ref a) vs H Q
theorem me_ok {r : V → List V → Hp → VK → Prop} {g : List D → List D → Option (List D × D)} {i : Nat} {fs : M (List D)} (hr : MeS K r g) {σ : Sg} {H : Hp} {Q : VK} (h : LE K G (meV i fs g) σ H Q) : tBM K "list" r (tVar i) (LA K G fs) σ H Q := by
  obtain ⟨F, ev, R, q⟩ := h
  obtain ⟨ds0, a, xs0, ha, hx, q⟩ := vL_there q R
  refine ⟨.ref a, ha, .inl ⟨rfl, xs0, SqL.of hx⟩, F, ev, R, q.bind.imp fun F1 ev1 ds H1 _ R1 _ k1 vs rs => ?_⟩
  have fa : ∀ (s : Sl), ev1[i]? = some s → s.own = true → F1 a = none := fun s e o => by
    obtain ⟨b, zs, h1, _, h3⟩ := (R1.slot i s e).lstAt o
    rw [ha] at h1; cases h1; exact h3
  obtain ⟨a', xs, es, es', d, h1, h2, h3, h4, k2⟩ := mutV_at k1 R1
  rw [ha] at h1; cases h1
  have fa1 : F1 a = none := by
    unfold mutV at k1
    cases e : ev1[i]? with
    | none => rw [e] at k1; exact k1.elim
    | some s =>
      cases s with
      | no => rw [e] at k1; exact k1.elim
      | sh d => rw [e] at k1; exact k1.elim
      | ol ds => exact fa _ e rfl
      | io ds => exact fa _ e rfl
  refine hr F1 H1 ds es es' d vs xs a Q R1.sub (fun b o e z => by rw [z, fa1] at e; cases e) h2 rs h3 h4 fun ys ry v rv => ?_
  obtain ⟨ev', R2, k3⟩ := k2 ys ry
  exact k3 v rv
end
def gApp : List D → List D → Option (List D × D) := fun ds es => match ds with
  | [y] => if es.length < big then some (es ++ [y], .non) else none
  | _ => none
def gExt : List D → List D → Option (List D × D) := fun ds es => match ds with
  | [.tup zs] => if es.length + zs.length ≤ big then some (es ++ zs, .non) else none
  | [.lst zs] => if es.length + zs.length ≤ big then some (es ++ zs, .non) else none
  | _ => none
def gPop : List D → List D → Option (List D × D) := fun ds es => match ds with
  | [] => es[es.length - 1]?.map fun d => (es.dropLast, d)
  | _ => none
section
variable {X : Cx} {G : Gx} {K : PySem.W.Frag}
theorem big_lt {n : Nat} (h : n < big) : n < sizeLine := by rw [sizeLine_eq]; exact h
theorem ms_app : MeS K rAppend gApp := by
  intro F H ds es es' d vs xs a Q s nf ha rs re e k
  unfold gApp at e
  split at e
  · rename_i y
    split at e
    · rename_i hl
      cases e
      simp only [Rls] at rs
      obtain ⟨v, r, rfl, rv, rfl⟩ := rs
      exact ⟨a, xs, v, rfl, rfl, ha, by rw [re.len]; exact big_lt hl, k _ (re.app (Rls.cons rv Rls.nil)) _ (by simp only [Rl])⟩
    · cases e
  · cases e
theorem ms_ext : MeS K (rExtX K) gExt := by
  intro F H ds es es' d vs xs a Q s nf ha rs re e k
  unfold gExt at e
  split at e
  · rename_i zs
    split at e
    · rename_i hl
      cases e
      simp only [Rls, Rl] at rs
      obtain ⟨v, r, rfl, ⟨b, ws, rfl, h1, h2⟩, rfl⟩ := rs
      exact ⟨a, b, xs, ws, rfl, rfl, ha, .inr (h1.up s), by rw [re.len, h2.len]; exact big_line hl, k _ (re.app h2) _ (by simp only [Rl])⟩
    · cases e
  · rename_i zs
    split at e
    · rename_i hl
      cases e
      simp only [Rls, Rl] at rs
      obtain ⟨v, r, rfl, ⟨b, ws, rfl, h1, h2⟩, rfl⟩ := rs
      exact ⟨a, b, xs, ws, rfl, rfl, ha, .inl (s _ _ h1), by rw [re.len, h2.len]; exact big_line hl, k _ (re.app h2) _ (by simp only [Rl])⟩
    · cases e
  · cases e
theorem Rls.dropLast {F : Hp} : ∀ {ds : List D} {vs : List V}, Rls K F ds vs → Rls K F ds.dropLast vs.dropLast
  | [], _, h => by simp only [Rls] at h; subst h; exact Rls.nil
  | [d], _, h => by
    simp only [Rls] at h
    obtain ⟨x, r, rfl, h1, rfl⟩ := h
    exact Rls.nil
  | d :: e :: ds, _, h => by
    simp only [Rls] at h
    obtain ⟨x, r, rfl, h1, y, r2, rfl, h2, h3⟩ := h
    exact Rls.cons h1 (Rls.dropLast (Rls.cons h2 h3))
theorem ms_pop : MeS K rPop gPop := by
  intro F H ds es es' d vs xs a Q s nf ha rs re e k
  unfold gPop at e
  split at e
  · obtain ⟨d', e1, e2⟩ := Option.map_eq_some_iff.mp e
    cases e2
    simp only [Rls] at rs
    subst rs
    obtain ⟨v, h1, h2⟩ := re.get e1
    exact ⟨a, xs, v, rfl, rfl, ha, by rw [re.len]; exact h1, k _ re.dropLast v h2⟩
  · cases e
theorem ie_app {i : Nat} {o e : Expr} {fs : M (List D)} {apos cpos : Pos} (ho : PE X o (tVar i)) (ha : PA X [e] (LA X.K G fs))
    (h1 : attributeBase o "append" X.env (eval o X.env) = eval o X.env := by rfl) (h2 : ((backTo cpos (starEach (e :: []) X.env)).all (fun x => !x.1) && (backToKw cpos (keywordEach [] X.env)).all (fun x => x.1.isSome) && decide ((e :: ([] : List Expr)).length + ([] : List Keyword).length + (if ([] : List Keyword).isEmpty then 0 else 1) < 30)) = true := by rfl)
    (h3 : (apos.endLine == cpos.line) = true := by rfl) (h4 : starEach (e :: []) X.env = (false, eval e X.env) :: starEach [] X.env := by rfl) : PE X (.Call (.Attribute o "append" apos) [e] [] cpos) (LE X.K G (meV i fs gApp)) :=
  PE.wk (pe_bm PySem.F.plainAttrs_list PySem.F.slot_list_append PySem.F.type_list_append mt_append ho ha h1 h2 h3 h4 rfl) fun _ _ _ q => me_ok ms_app q
theorem ie_ext {i : Nat} {o e : Expr} {fs : M (List D)} {apos cpos : Pos} (ho : PE X o (tVar i)) (ha : PA X [e] (LA X.K G fs))
    (h1 : attributeBase o "extend" X.env (eval o X.env) = eval o X.env := by rfl) (h2 : ((backTo cpos (starEach (e :: []) X.env)).all (fun x => !x.1) && (backToKw cpos (keywordEach [] X.env)).all (fun x => x.1.isSome) && decide ((e :: ([] : List Expr)).length + ([] : List Keyword).length + (if ([] : List Keyword).isEmpty then 0 else 1) < 30)) = true := by rfl)
    (h3 : (apos.endLine == cpos.line) = true := by rfl) (h4 : starEach (e :: []) X.env = (false, eval e X.env) :: starEach [] X.env := by rfl) : PE X (.Call (.Attribute o "extend" apos) [e] [] cpos) (LE X.K G (meV i fs gExt)) :=
  PE.wk (pe_bm PySem.F.plainAttrs_list PySem.F.slot_list_extend PySem.F.type_list_extend mt_extendX ho ha h1 h2 h3 h4 rfl) fun _ _ _ q => me_ok ms_ext q
theorem ie_pop {i : Nat} {o : Expr} {apos cpos : Pos} (ho : PE X o (tVar i)) (h1 : attributeBase o "pop" X.env (eval o X.env) = eval o X.env := by rfl) (h3 : (apos.endLine == cpos.line) = true := by rfl) :
    PE X (.Call (.Attribute o "pop" apos) [] [] cpos) (LE X.K G (meV i (args []) gPop)) :=
  PE.wk (pe_bm0 PySem.F.plainAttrs_list PySem.F.slot_list_pop PySem.F.type_list_pop mt_pop ho h1 h3) fun σ H Q q => by
    have h := me_ok (ms_pop (K := X.K)) q
    obtain ⟨v, e1, e2, F, ev, R, g⟩ := h
    exact ⟨v, e1, e2, Go.ret g R [] Rls.nil⟩

/-! ### t.count(x), t a tuple -/
def fltD : D → Bool
  | .non => true
  | .bl _ => true
  | .int _ => true
  | .str _ => true
  | _ => false
def toV : D → V
  | .non => .non
  | .bl b => .bl b
  | .int i => .int i
  | .str x => .str x
  | _ => .non
theorem flt_v {F : Hp} {d : D} {v : V} (h : Rl K F d v) (f : fltD d = true) : v = toV d ∧ flatV v = true := by
  cases d <;> first | exact absurd (show false = true from f) Bool.false_ne_true | skip
  all_goals (simp only [Rl] at h; subst h; exact ⟨rfl, rfl⟩)
theorem flts_v {F : Hp} : ∀ {ds : List D} {vs : List V}, Rls K F ds vs → ds.all fltD = true → vs = ds.map toV ∧ vs.all flatV = true
  | [], _, h, _ => by simp only [Rls] at h; subst h; exact ⟨rfl, rfl⟩
  | d :: ds, _, h, f => by
    simp only [Rls] at h
    obtain ⟨x, r, rfl, h1, h2⟩ := h
    obtain ⟨f1, f2⟩ := Bool.and_eq_true_iff.mp (List.all_cons ▸ f)
    obtain ⟨e1, e2⟩ := flt_v h1 f1
    obtain ⟨e3, e4⟩ := flts_v h2 f2
    refine ⟨by rw [e1, e3]; rfl, ?_⟩
    rw [List.all_cons, e2, e4]; rfl
def eqF (a b : D) : Bool := eqV (toV a) (toV b)
def cntE (f g : M D) : M D := bnd f fun x => match x with
  | .tup xs => bnd g fun y => if fltD y = true ∧ xs.all fltD = true then ret (.int ((xs.countP fun z => eqF z y : Nat))) else bad
  | _ => bad
theorem ie_tcount {o e : Expr} {f g : M D} {apos cpos : Pos} (ho : PE X o (LE X.K G f)) (ha : PE X e (LE X.K G g))
    (h1 : attributeBase o "count" X.env (eval o X.env) = eval o X.env := by rfl) (h2 : ((backTo cpos (starEach (e :: []) X.env)).all (fun x => !x.1) && (backToKw cpos (keywordEach [] X.env)).all (fun x => x.1.isSome) && decide ((e :: ([] : List Expr)).length + ([] : List Keyword).length + (if ([] : List Keyword).isEmpty then 0 else 1) < 30)) = true := by rfl)
    (h3 : (apos.endLine == cpos.line) = true := by rfl) (h4 : starEach (e :: []) X.env = (false, eval e X.env) :: starEach [] X.env := by rfl) : PE X (.Call (.Attribute o "count" apos) [e] [] cpos) (LE X.K G (cntE f g)) :=
  PE.wk (pe_tm PySem.F.slot_tuple_count PySem.F.type_tuple_count mt_tcount ho (pa_cons ha pa_nil h4) h1 h2 h3 h4 rfl) fun σ H Q q => by
    obtain ⟨F, ev, R, q⟩ := q
    refine ⟨F, ev, R, q.bind.imp fun F1 ev1 dx H1 e0 R1 _ k1 x rx => ?_⟩
    clear e0
    cases dx <;> first | exact k1.elim | skip
    rename_i xs
    have hx := rx
    simp only [Rl] at rx
    obtain ⟨p, vs, rfl, h5, h6⟩ := rx
    refine ⟨⟨p, vs, rfl, h5.up R1.sub⟩, F1, ev1, R1, k1.bind.imp fun F2 ev2 dy H2 _ R2 s2 k2 y ry => ?_⟩
    obtain ⟨⟨c1, c2⟩, k2⟩ := Go.iff k2
    obtain ⟨e1, e2⟩ := flt_v ry c1
    obtain ⟨e3, e4⟩ := flts_v h6 c2
    refine ⟨p, vs, y, rfl, rfl, h5.up (s2.trans R2.sub), e2, e4, ?_⟩
    have e5 : vs.countP (fun z => eqV z y) = xs.countP fun z => eqF z dy := by
      rw [e3, e1, List.countP_map]; rfl
    rw [e5]
    exact Go.ret k2 R2 _ (by simp only [Rl])
end
end Vs
/-! Vs, statements. -/
namespace Vs
open PySem PySem.Spec PyProof.Rows L2 LamX NdefX

inductive Out where
  | nx (ev : Ev)
  | rt (d : D) (ev : Ev)
  | rl (ds : List D) (ev : Ev)
  | bk (ev : Ev)
  | ct (ev : Ev)
  | ex (C : Addr) (fs : List (Str × D)) (ev : Ev)
  | bad
abbrev S := Ev → Out
def GoS (K : PySem.W.Frag) (G : Gx) (F : Hp) (r : Out) (D : Ends) : Prop := match r with
  | .nx ev' => ∀ F' H' σ', Rel K G F' ev' σ' H' → Same F F' → D.nx σ' H'
  | .rt d ev' => ∀ F' H' σ' v, Rel K G F' ev' σ' H' → Same F F' → Rl K F' d v → D.rt v H'
  | .rl ds ev' => ∀ F' H' σ' a, Rel K G F' ev' σ' H' → Same F F' → Fresh K G σ' F' ev' ds H' a → D.rt (.ref a) H'
  | .bk ev' => ∀ F' H' σ', Rel K G F' ev' σ' H' → Same F F' → D.bk σ' H'
  | .ct ev' => ∀ F' H' σ', Rel K G F' ev' σ' H' → Same F F' → D.ct σ' H'
  | .ex C fs ev' => ∀ F' H' σ' dd, Rel K G F' ev' σ' H' → Same F F' → ExOk K F' H' fs dd → G.E (.ref C) dd H'
  | .bad => False
def LS (K : PySem.W.Frag) (G : Gx) (f : S) : TS := fun D σ H => ∃ F ev, Rel K G F ev σ H ∧ GoS K G F (f ev) D
def lf {α : Type} (m : M α) (k : α → S) : S := fun ev => match m ev with
  | .ok a ev' => k a ev'
  | .ex C fs ev' => .ex C fs ev'
  | .bad => .bad
def sq (f g : S) : S := fun ev => match f ev with
  | .nx ev' => g ev'
  | .rt d ev' => .rt d ev'
  | .rl d ev' => .rl d ev'
  | .bk ev' => .bk ev'
  | .ct ev' => .ct ev'
  | .ex C fs ev' => .ex C fs ev'
  | .bad => .bad
def nxt : S := fun ev => .nx ev
def brk : S := fun ev => .bk ev
def cnt : S := fun ev => .ct ev
def outB : S := fun _ => .bad

section
variable {K : PySem.W.Frag} {G : Gx} {F H : Hp} {ev : Ev} {σ : Sg} {D : Ends}
theorem GoS.up {F' : Hp} {r : Out} (e : Same F F') (h : GoS K G F r D) : GoS K G F' r D := by
  cases r with
  | nx ev' => exact fun F2 H2 s2 R s => h F2 H2 s2 R (e.trans s)
  | rt d ev' => exact fun F2 H2 s2 v R s => h F2 H2 s2 v R (e.trans s)
  | rl d ev' => exact fun F2 H2 s2 v R s => h F2 H2 s2 v R (e.trans s)
  | bk ev' => exact fun F2 H2 s2 R s => h F2 H2 s2 R (e.trans s)
  | ct ev' => exact fun F2 H2 s2 R s => h F2 H2 s2 R (e.trans s)
  | ex C fs ev' => exact fun F2 H2 s2 dd R s x => h F2 H2 s2 dd R (e.trans s) x
  | bad => exact h
theorem GoS.lf {α : Type} {m : M α} {k : α → S} (h : GoS K G F (Vs.lf m k ev) D) : Go K G σ F (m ev) (fun F' ev' a H' => GoS K G F' (k a ev') D) := by
  unfold Vs.lf at h
  cases e : m ev with
  | ok a ev' =>
    rw [e] at h
    exact fun F2 H2 R s => h.up s
  | ex C fs ev' =>
    rw [e] at h
    exact fun F2 H2 dd R s x => h F2 H2 σ dd R s x
  | bad => rw [e] at h; exact h
theorem GoS.nxt {ev' : Ev} (h : GoS K G F (.nx ev') D) (R : Rel K G F ev' σ H) : D.nx σ H := h F H σ R (Same.refl _)
/-- a step, then the rest -/
theorem GoS.sq {f g : S} (h : GoS K G F (Vs.sq f g ev) D) : GoS K G F (f ev) { D with nx := LS K G g D } := by
  unfold Vs.sq at h
  cases e : f ev with
  | nx ev' =>
    rw [e] at h
    exact fun F2 H2 s2 R s => ⟨F2, ev', R, h.up s⟩
  | rt d ev' => rw [e] at h; exact h
  | rl d ev' => rw [e] at h; exact h
  | bk ev' => rw [e] at h; exact h
  | ct ev' => rw [e] at h; exact h
  | ex C fs ev' => rw [e] at h; exact h
  | bad => rw [e] at h; exact h
end
section
variable {X : Cx} {G : Gx}
theorem PS.wk {st : Stmt} {t t' : TS} (h : PS X st t) (w : ∀ D σ H, t' D σ H → t D σ H) : PS X st t' := ⟨fun pins s σ H D I q => h.run pins s σ H D I (w D σ H q)⟩
theorem PSs.wk {st : List Stmt} {t t' : TS} (h : PSs X st t) (w : ∀ D σ H, t' D σ H → t D σ H) : PSs X st t' := ⟨fun pins s σ H D I q => h.run pins s σ H D I (w D σ H q)⟩
theorem iss_nil : PSs X [] (LS X.K G nxt) := PSs.wk pss_nil fun D σ H q => by
  obtain ⟨F, ev, R, g⟩ := q
  exact g.nxt R
theorem iss_one {st : Stmt} {f : S} (h : PS X st (LS X.K G f)) : PSs X [st] (LS X.K G f) := pss_one h
theorem iss_cons {st : Stmt} {rest : List Stmt} {f g : S} (h : PS X st (LS X.K G f)) (h2 : PSs X rest (LS X.K G g)) : PSs X (st :: rest) (LS X.K G (sq f g)) := PSs.wk (pss_cons h h2) fun D σ H q => by
  obtain ⟨F, ev, R, g⟩ := q
  exact ⟨F, ev, R, g.sq⟩
theorem is_pass {pos : Pos} : PS X (.Pass pos) (LS X.K G nxt) := PS.wk ps_pass fun D σ H q => by
  obtain ⟨F, ev, R, g⟩ := q
  exact g.nxt R
theorem is_break {pos : Pos} : PS X (.Break pos) (LS X.K G brk) := PS.wk ps_break fun D σ H q => by
  obtain ⟨F, ev, R, g⟩ := q
  exact g F H σ R (Same.refl _)
theorem is_cont {pos : Pos} : PS X (.Continue pos) (LS X.K G cnt) := PS.wk ps_continue fun D σ H q => by
  obtain ⟨F, ev, R, g⟩ := q
  exact g F H σ R (Same.refl _)
/-- an expression alone -/
def dropS (f : M D) : S := lf f fun _ => nxt
theorem is_expr {st : Stmt} {f : M D} (h : PS X st (tDrop (LE X.K G f))) : PS X st (LS X.K G (dropS f)) := PS.wk h fun D σ H q => by
  obtain ⟨F, ev, R, g⟩ := q
  exact ⟨F, ev, R, g.lf.imp fun F1 ev1 d H1 _ R1 _ k v rv => k.nxt R1⟩
/-- return -/
def retS (f : M D) : S := lf f fun d ev => .rt d ev
theorem is_ret {st : Stmt} {f : M D} (h : PS X st (tRet (LE X.K G f))) : PS X st (LS X.K G (retS f)) := PS.wk h fun D σ H q => by
  obtain ⟨F, ev, R, g⟩ := q
  exact ⟨F, ev, R, g.lf.imp fun F1 ev1 d H1 _ R1 _ k v rv => k F1 H1 σ v R1 (Same.refl _) rv⟩
def retF (f : M (List D)) : S := lf f fun d ev => .rl d ev
theorem is_retF {st : Stmt} {f : M (List D)} (h : PS X st (tRet (LF X.K G f))) : PS X st (LS X.K G (retF f)) := PS.wk h fun D σ H q => by
  obtain ⟨F, ev, R, g⟩ := q
  exact ⟨F, ev, R, g.lf.imp fun F1 ev1 d H1 _ R1 _ k a rv => k F1 H1 σ a R1 (Same.refl _) rv⟩
/-- name = e -/
def putS (i : Nat) (d : D) : S := fun ev => .nx (ev.set i (.sh d))
def setS (i : Nat) (f : M D) : S := lf f (putS i)
theorem is_set {st : Stmt} {i : Nat} {f : M D} (h : PS X st (tAsg (LE X.K G f) (gName i))) : PS X st (LS X.K G (setS i f)) := PS.wk h fun D σ H q => by
  obtain ⟨F, ev, R, g⟩ := q
  exact ⟨F, ev, R, g.lf.imp fun F1 ev1 d H1 _ R1 _ k v rv => k F1 H1 _ (R1.put rv) (Same.refl _)⟩
def setO (i : Nat) (f : M (List D)) : S := lf f fun ds ev => .nx (ev.set i (.ol ds))
theorem is_setO {st : Stmt} {i : Nat} {f : M (List D)} (h : PS X st (tAsg (LF X.K G f) (gName i))) : PS X st (LS X.K G (setO i f)) := PS.wk h fun D σ H q => by
  obtain ⟨F, ev, R, g⟩ := q
  refine ⟨F, ev, R, g.lf.imp fun F1 ev1 d H1 _ R1 _ k a rv => ?_⟩
  obtain ⟨xs, h1, h2, h3, h4, h5⟩ := rv
  exact k F1 H1 _ (R1.putO h1 h2 h3 h4 h5) (Same.refl _)
/-- the reading of name = e weakened -/
theorem asg_wk {st : Stmt} {t t' : TE} {g : TG} (h : PS X st (tAsg t g)) (w : ∀ σ H Q, t' σ H Q → t σ H Q) : PS X st (tAsg t' g) := PS.wk h fun D σ H q => w σ H _ q
theorem setF {st : Stmt} {i : Nat} {f : M (List D)} (h : PS X st (tAsg (LF X.K G f) (gName i))) : PS X st (tAsg (LE X.K G (frz f)) (gName i)) := asg_wk h fun σ H Q q => by
  obtain ⟨F, ev, R, g⟩ := q
  refine ⟨F, ev, R, g.bind.imp fun F' ev' ds H' _ R' s k a fr => ?_⟩
  obtain ⟨xs, h1, h2, h3, h4, h5⟩ := fr
  have R2 := R'.freeze h1 h2 h3 h4
  have s2 := same_new (o := .lst xs) h2
  refine k _ _ R2 s2 (.ref a) ?_
  simp only [Rl]
  exact ⟨a, xs, rfl, upd_same, Rls.up s2 _ _ h5⟩
/-- if -/
def ifS (c : M Bool) (a b : S) : S := lf c fun k => if k then a else b
theorem is_if {c : Expr} {a b : List Stmt} {fc : M Bool} {f g : S} {pos : Pos} (hc : PT X c (LT X.K G fc)) (ha : PSs X a (LS X.K G f)) (hb : PSs X b (LS X.K G g)) : PS X (.If c a b pos) (LS X.K G (ifS fc f g)) := PS.wk (ps_if hc ha hb) fun D σ H q => by
  obtain ⟨F, ev, R, g⟩ := q
  refine ⟨F, ev, R, g.lf.imp fun F1 ev1 c H1 _ R1 _ k => ?_⟩
  cases c with
  | true => exact ⟨F1, ev1, R1, k⟩
  | false => exact ⟨F1, ev1, R1, k⟩
/-- a, b = x, y -/
def parS (i j : Nat) (f g : M D) : S := lf f fun x => lf g fun y ev => .nx ((ev.set i (.sh x)).set j (.sh y))
theorem is_par {st : Stmt} {i j : Nat} {f g : M D} (h : PS X st (tPar i j (tCons (LE X.K G f) (tCons (LE X.K G g) tNil)))) : PS X st (LS X.K G (parS i j f g)) := PS.wk h fun D σ H q => by
  obtain ⟨F, ev, R, g⟩ := q
  refine ⟨F, ev, R, g.lf.imp fun F1 ev1 x H1 _ R1 _ k v rv => ⟨F1, ev1, R1, k.lf.imp fun F2 ev2 y H2 _ R2 s2 k2 w rw => ⟨v, w, rfl, ?_⟩⟩⟩
  exact k2 F2 H2 _ ((R2.put (Rl.up s2 _ _ rv)).put rw) (Same.refl _)
theorem Apart.set {ev : Ev} {σ : Sg} {i : Nat} {d : D} {v : V} {a : Addr} (h : Apart ev σ a) : Apart (ev.set i (.sh d)) (σ.set i (some v)) a := fun j s e o hj => by
  by_cases hi : j = i
  · subst hi
    have hl : j < ev.length := by
      have := (List.getElem?_eq_some_iff.mp e).1
      rwa [List.length_set] at this
    rw [List.getElem?_set_self hl] at e
    cases e; cases o
  · rw [List.getElem?_set_ne (Ne.symm hi)] at e hj
    exact h j s e o hj
def parO (i j : Nat) (f : M D) (g : M (List D)) : S := lf f fun x => lf g fun y ev => .nx ((ev.set i (.sh x)).set j (.ol y))
theorem is_parO {st : Stmt} {i j : Nat} {f : M D} {g : M (List D)} (h : PS X st (tPar i j (tCons (LE X.K G f) (tCons (LF X.K G g) tNil)))) : PS X st (LS X.K G (parO i j f g)) := PS.wk h fun D σ H q => by
  obtain ⟨F, ev, R, g⟩ := q
  refine ⟨F, ev, R, g.lf.imp fun F1 ev1 x H1 _ R1 _ k v rv => ⟨F1, ev1, R1, k.lf.imp fun F2 ev2 y H2 _ R2 s2 k2 a fr => ⟨v, _, rfl, ?_⟩⟩⟩
  obtain ⟨xs, h1, h2, h3, h4, h5⟩ := fr
  exact k2 F2 H2 _ ((R2.put (Rl.up s2 _ _ rv)).putO h1 h2 h3 h4.set h5) (Same.refl _)
/-- raise, with no field -/
def exS (C : Addr) : S := fun ev => .ex C [] ev
theorem is_raise {st : Stmt} {C : Addr} (h : PS X st (fun _ _ H => G.E (.ref C) none H)) : PS X st (LS X.K G (exS C)) := PS.wk h fun D σ H q => by
  obtain ⟨F, ev, R, g⟩ := q
  exact g F H σ none R (Same.refl _) rfl
end
end Vs
/-! Vs, item stores, loops. -/
namespace Vs
open PySem PySem.Spec PyProof.Rows L2 LamX NdefX

section
variable {X : Cx} {G : Gx}
/-- x[k] = e, x the slot i's own list -/
def gSet (k : Int) (d : D) : List D → Option (List D × D) := fun es => (ixN es.length k).map fun j => (es.set j d, .non)
def subS (i : Nat) (f fi : M D) : S := lf f fun d => lf (vL i) fun _ => lf fi fun ix => match ix with
  | .int k => lf (mutV i (gSet k d)) fun _ => nxt
  | _ => outB
theorem GoS.lb {K : PySem.W.Frag} {F : Hp} {ev : Ev} {α β : Type} {m : M α} {g : α → M β} {k : β → S} {D : Ends} : Vs.lf (bnd m g) k ev = Vs.lf m (fun a => Vs.lf (g a) k) ev := by
  unfold Vs.lf bnd
  cases m ev <;> rfl
theorem vL_thereS {K : PySem.W.Frag} {F H : Hp} {ev : Ev} {σ : Sg} {i : Nat} {g : List D → S} {D : Ends} (h : GoS K G F (lf (vL i) g ev) D) (R : Rel K G F ev σ H) :
    ∃ ds a xs, σ[i]? = some (some (.ref a)) ∧ H a = some (.lst xs) ∧ GoS K G F (g ds ev) D := by
  unfold lf vL at h
  cases es : ev[i]? with
  | none => rw [es] at h; exact h.elim
  | some s =>
    rw [es] at h
    have sl := R.slot i s es
    cases s with
    | no => exact h.elim
    | sh d => exact h.elim
    | ol ds =>
      obtain ⟨a, xs, h1, h2, h3, h4, h5⟩ := sl
      exact ⟨ds, a, xs, h1, h2, h⟩
    | io ds =>
      obtain ⟨a, xs, h1, h2, h3, h4, h5⟩ := sl
      exact ⟨ds, a, xs, h1, h2, h⟩
theorem is_sub {st : Stmt} {i : Nat} {f fi : M D} (h : PS X st (tAsg (LE X.K G f) (gSub (tVar i) (LE X.K G fi) rSetL))) : PS X st (LS X.K G (subS i f fi)) := PS.wk h fun Dn σ H q => by
  obtain ⟨F, ev, R, g⟩ := q
  refine ⟨F, ev, R, g.lf.imp fun F1 ev1 d H1 _ R1 _ k1 v rv => ?_⟩
  obtain ⟨ds0, a, xs0, ha, hx, k1⟩ := vL_thereS k1 R1
  refine ⟨.ref a, ha, F1, ev1, R1, k1.lf.imp fun F2 ev2 ix H2 _ R2 s2 k2 w rw => ?_⟩
  cases ix with
  | int k =>
    simp only [Rl] at rw
    subst rw
    obtain ⟨a', xs, ds, es, d', h1, h2, h3, h4, k3⟩ := mutV_at k2.lf R2
    rw [ha] at h1; cases h1
    unfold gSet at h4
    cases ej : ixN ds.length k with
    | none => rw [ej] at h4; cases h4
    | some j =>
      rw [ej] at h4
      cases h4
      refine ⟨a, xs, k, j, rfl, rfl, h2, by rw [h3.len]; exact ej, ?_⟩
      obtain ⟨ev3, R3, k4⟩ := k3 _ (Rls.set j h3 (Rl.up s2 _ _ rv))
      exact k4.nxt R3
  | _ => exact k2.elim
end

/-! ### loops -/
def fg (cl : List Nat) (ev : Ev) : Ev := cl.foldl (fun e i => e.set i .no) ev
theorem Rel.fg {K : PySem.W.Frag} {G : Gx} {F H : Hp} {σ : Sg} : ∀ {cl : List Nat} {ev : Ev}, Rel K G F ev σ H → Rel K G F (fg cl ev) σ H
  | [], _, R => R
  | i :: cl, ev, R => Rel.fg (cl := cl) (R.forget (i := i))
def loop (cl : List Nat) (step : D → S) : List D → S
  | [] => fun ev => .nx ev
  | d :: ds => fun ev => match step d ev with
    | .nx ev' => loop cl step ds (fg cl ev')
    | .ct ev' => loop cl step ds (fg cl ev')
    | .bk ev' => .nx ev'
    | .rt d ev' => .rt d ev'
    | .rl d ev' => .rl d ev'
    | .ex C fs ev' => .ex C fs ev'
    | .bad => .bad
section
variable {K : PySem.W.Frag} {G : Gx}
/-- what the loop keeps at turn i -/
def LP (K : PySem.W.Frag) (G : Gx) (F1 : Hp) (cl : List Nat) (step : D → S) (D : Ends) (ds : List Vs.D) (i : Nat) : Sg → Hp → Prop := fun σ H => ∃ F ev, Same F1 F ∧ Rel K G F ev σ H ∧ GoS K G F (loop cl step (ds.drop i) ev) D
theorem loop_it {J : It} {n : Nat} {Gd : Hp → Prop} {Y : Nat → Hp → V → Hp → Prop} (w : Walk J n Gd Y) {g : TG} {tb : TS} {D : Ends} {cl : List Nat} {step : Vs.D → S} {ds : List Vs.D} {F1 H1 : Hp} {ev1 : Ev} {σ1 : Sg} (hn : ds.length = n)
    (hG : ∀ F ev σ H, Same F1 F → Rel K G F ev σ H → Gd H)
    (hs : ∀ i d x F ev σ H H' D', ds[i]? = some d → Same F1 F → Rel K G F ev σ H → Y i H x H' → GoS K G F (step d ev) D' → g x σ H' fun σ2 H2 => tb D' σ2 H2)
    (R : Rel K G F1 ev1 σ1 H1) (q : GoS K G F1 (loop cl step ds ev1) D) :
    ∃ W : Nat → Nat → L2.St → Hp → Prop, (∃ m, W 0 m σ1 H1) ∧ ∀ i m σ H, W i m σ H →
      (J.stop i H ∧ D.nx σ H) ∨ (J.go i H ∧ ∃ N : L2.St → Hp → Prop, (∀ σ' H', N σ' H' → ∃ m', m' < m ∧ W (i + 1) m' σ' H') ∧ ∀ x H', J.yld i H x H' → g x σ H' fun σ2 H2 => tb { D with nx := N, ct := N, bk := D.nx } σ2 H2) := by
  refine for_it w (LP K G F1 cl step D ds) ⟨F1, ev1, Same.refl _, R, q⟩ (fun i σ H hi p => ?_) (fun i x σ H H' hi p y => ?_) (fun σ H p => ?_)
  · obtain ⟨F, ev, s, R, _⟩ := p
    exact hG F ev σ H s R
  · obtain ⟨F, ev, s, R, q⟩ := p
    have hd : i < ds.length := by omega
    refine hs i ds[i] x F ev σ H H' _ (List.getElem?_eq_getElem hd) s R y ?_
    rw [List.drop_eq_getElem_cons hd] at q
    unfold loop at q
    cases e : step ds[i] ev with
    | nx ev' => rw [e] at q; exact fun F2 H2 s2 R2 t => ⟨F2, _, s.trans t, R2.fg, q.up t⟩
    | ct ev' => rw [e] at q; exact fun F2 H2 s2 R2 t => ⟨F2, _, s.trans t, R2.fg, q.up t⟩
    | bk ev' => rw [e] at q; exact q
    | rt d ev' => rw [e] at q; exact q
    | rl d ev' => rw [e] at q; exact q
    | ex C fs ev' => rw [e] at q; exact q
    | bad => rw [e] at q; exact q
  · obtain ⟨F, ev, s, R, q⟩ := p
    rw [List.drop_eq_nil_of_le (by omega)] at q
    exact q F H σ R (Same.refl _)
end
/-- for over a tuple, a list -/
def forS (cl : List Nat) (f : M D) (step : D → S) : S := lf f fun x => match x with
  | .tup ds => loop cl step ds
  | _ => outB
def forL (cl : List Nat) (f : M D) (step : D → S) : S := lf f fun x => match x with
  | .lst ds => loop cl step ds
  | .sq ds => loop cl step ds
  | _ => outB
def rng (i j : Int) : List D := (List.range (j - i).toNat).map fun (k : Nat) => D.int (i + k)
def forR1 (cl : List Nat) (f : M D) (step : D → S) : S := lf f fun x => match x with
  | .int j => if -(2 ^ 62) ≤ j ∧ j < 2 ^ 62 then loop cl step (rng 0 j) else outB
  | _ => outB
def forR2 (cl : List Nat) (f g : M D) (step : D → S) : S := lf f fun x => lf g fun y => match x, y with
  | .int i, .int j => if -(2 ^ 62) ≤ i ∧ i < 2 ^ 62 ∧ -(2 ^ 62) ≤ j ∧ j < 2 ^ 62 then loop cl step (rng i j) else outB
  | _, _ => outB
/-- the target is a name -/
def stp (i : Nat) (body : S) : D → S := fun d ev => body (ev.set i (.sh d))
/-- .. two names -/
def stp2 (i j : Nat) (body : S) : D → S := fun d ev => match d with
  | .tup [x, y] => body ((ev.set i (.sh x)).set j (.sh y))
  | _ => .bad
/-- a target's step -/
def TgS (K : PySem.W.Frag) (G : Gx) (g : TG) (sg : S → D → S) : Prop := ∀ (F H : Hp) (ev : Ev) (σ : Sg) (d : D) (v : V) (body : S) (D' : Ends), Rel K G F ev σ H → Rl K F d v → GoS K G F (sg body d ev) D' → g v σ H fun σ2 H2 => LS K G body D' σ2 H2
theorem tg_name {K : PySem.W.Frag} {G : Gx} {i : Nat} : TgS K G (gName i) (stp i) := fun F H ev σ d v body D' R r q => ⟨F, _, R.put r, q⟩
theorem tg_two {K : PySem.W.Frag} {G : Gx} {i j : Nat} : TgS K G (gTup K 2 (gCons (gName i) (gCons (gName j) gNil))) (stp2 i j) := fun F H ev σ d v body D' R r q => by
  unfold stp2 at q
  split at q
  · simp only [Rl, Rls] at r
    obtain ⟨a, xs, rfl, hs, x, r1, rfl, hx, y, r2, rfl, hy, rfl⟩ := r
    exact ⟨a, _, rfl, (hs.up R.sub).t, rfl, x, _, rfl, y, _, rfl, rfl, F, _, (R.put hx).put hy, q⟩
  · exact q.elim
section
variable {X : Cx} {G : Gx}
theorem rng_len {i j : Int} : (rng i j).length = (j - i).toNat := by simp [rng]
theorem rng_at {i j : Int} {k : Nat} {d : D} (h : (rng i j)[k]? = some d) : d = .int (i + k) := by
  unfold rng at h
  rw [List.getElem?_map] at h
  cases e : (List.range (j - i).toNat)[k]? with
  | none => rw [e] at h; cases h
  | some m =>
    rw [e] at h
    obtain ⟨h1, h2⟩ := List.getElem?_eq_some_iff.mp e
    simp at h2 h
    rw [← h, h2]
theorem is_forT {st : Stmt} {f : M D} {g : TG} {sg : S → D → S} {body : S} (cl : List Nat) (hg : TgS X.K G g sg) (h : PS X st (tFor (iTup X.K (LE X.K G f)) g (LS X.K G body))) : PS X st (LS X.K G (forS cl f (sg body))) := PS.wk h fun D σ H q => by
  obtain ⟨F, ev, R, q⟩ := q
  refine ⟨F, ev, R, q.lf.imp fun F1 ev1 x H1 _ R1 _ k v rv => ?_⟩
  cases x with
  | tup ds =>
    simp only [Rl] at rv
    obtain ⟨a, xs, rfl, hs, rs⟩ := rv
    refine ⟨a, rfl, ⟨xs, (hs.up R1.sub).t⟩, ?_⟩
    refine loop_it (K := X.K) (G := G) (walk_tup (xs := xs)) (ds := ds) rs.len.symm (fun F ev σ H s R => (hs.up (s.trans R.sub)).t) (fun i d x F ev σ H H' D' e s R y q => ?_) R1 k
    obtain ⟨rfl, y⟩ := y
    obtain ⟨v, e1, e2⟩ := rs.get e
    rw [y] at e1; cases e1
    exact hg F H' ev σ d x body D' R (Rl.up s _ _ e2) q
  | _ => exact k.elim
theorem is_forL {st : Stmt} {f : M D} {g : TG} {sg : S → D → S} {body : S} (cl : List Nat) (hg : TgS X.K G g sg) (h : PS X st (tFor (iList X.K (LE X.K G f)) g (LS X.K G body))) : PS X st (LS X.K G (forL cl f (sg body))) := PS.wk h fun D σ H q => by
  obtain ⟨F, ev, R, q⟩ := q
  refine ⟨F, ev, R, q.lf.imp fun F1 ev1 x H1 _ R1 _ k v rv => ?_⟩
  have key : ∀ ds a xs, v = .ref a → Rls X.K F1 ds xs → (∀ F H, Same F1 F → Same F H → SqL X.K H a xs) → GoS X.K G F1 (loop cl (sg body) ds ev1) D → ∃ a, v = .ref a ∧ (∃ xs, SqL X.K H1 a xs) ∧ ∃ W : Nat → Nat → L2.St → Hp → Prop, (∃ m, W 0 m σ H1) ∧ ∀ i m σ H, W i m σ H →
      ((Itl X.K a).stop i H ∧ D.nx σ H) ∨ ((Itl X.K a).go i H ∧ ∃ N : L2.St → Hp → Prop, (∀ σ' H', N σ' H' → ∃ m', m' < m ∧ W (i + 1) m' σ' H') ∧ ∀ x H', (Itl X.K a).yld i H x H' → g x σ H' fun σ2 H2 => LS X.K G body { D with nx := N, ct := N, bk := D.nx } σ2 H2) := fun ds a xs hv rs hl k => by
    refine ⟨a, hv, ⟨xs, hl F1 H1 (Same.refl _) R1.sub⟩, ?_⟩
    refine loop_it (K := X.K) (G := G) (walk_list (xs := xs)) (ds := ds) rs.len.symm (fun F ev σ H s R => hl F H s R.sub) (fun i d x F ev σ H H' D' e s R y q => ?_) R1 k
    obtain ⟨rfl, y⟩ := y
    obtain ⟨v, e1, e2⟩ := rs.get e
    rw [y] at e1; cases e1
    exact hg F H' ev σ d x body D' R (Rl.up s _ _ e2) q
  cases x with
  | lst ds =>
    simp only [Rl] at rv
    obtain ⟨a, xs, rfl, hs, rs⟩ := rv
    exact key ds a xs rfl rs (fun F H s t => SqL.of (t _ _ (s _ _ hs))) k
  | sq ds =>
    simp only [Rl] at rv
    obtain ⟨a, xs, rfl, hs, rs⟩ := rv
    exact key ds a xs rfl rs (fun F H s t => (s.trans t).seq hs) k
  | _ => exact k.elim
theorem is_forR1 {st : Stmt} {f : M D} {g : TG} {sg : S → D → S} {body : S} (cl : List Nat) (hg : TgS X.K G g sg) (h : PS X st (tFor (iRng1 (tCons (LE X.K G f) tNil)) g (LS X.K G body))) : PS X st (LS X.K G (forR1 cl f (sg body))) := PS.wk h fun D σ H q => by
  obtain ⟨F, ev, R, q⟩ := q
  refine ⟨F, ev, R, q.lf.imp fun F1 ev1 x H1 _ R1 _ k v rv => ?_⟩
  cases x with
  | int j =>
    simp only [Rl] at rv
    subst rv
    dsimp only at k
    split at k
    · rename_i hj
      refine ⟨j, rfl, hj.1, hj.2, ?_⟩
      refine loop_it (K := X.K) (G := G) walk_range (ds := rng 0 j) (by rw [rng_len]; simp) (fun _ _ _ _ _ _ => trivial) (fun i d x F ev σ H H' D' e s R y q => ?_) R1 k
      obtain ⟨rfl, rfl⟩ := y
      have := rng_at e
      subst this
      exact hg F H' ev σ _ _ body D' R (by simp only [Rl]) q
    · exact k.elim
  | _ => exact k.elim
theorem is_forR2 {st : Stmt} {f f2 : M D} {g : TG} {sg : S → D → S} {body : S} (cl : List Nat) (hg : TgS X.K G g sg) (h : PS X st (tFor (iRng2 (tCons (LE X.K G f) (tCons (LE X.K G f2) tNil))) g (LS X.K G body))) : PS X st (LS X.K G (forR2 cl f f2 (sg body))) := PS.wk h fun D σ H q => by
  obtain ⟨F, ev, R, q⟩ := q
  refine ⟨F, ev, R, q.lf.imp fun F1 ev1 x H1 _ R1 _ k v rv => ⟨F1, ev1, R1, k.lf.imp fun F2 ev2 y H2 _ R2 s2 k v2 rv2 => ?_⟩⟩
  cases x with
  | int i =>
    cases y with
    | int j =>
      simp only [Rl] at rv rv2
      subst rv; subst rv2
      dsimp only at k
      split at k
      · rename_i hj
        refine ⟨i, j, rfl, hj, ?_⟩
        refine loop_it (K := X.K) (G := G) walk_range (ds := rng i j) rng_len (fun _ _ _ _ _ _ => trivial) (fun i d x F ev σ H H' D' e s R y q => ?_) R2 k
        obtain ⟨rfl, rfl⟩ := y
        have := rng_at e
        subst this
        exact hg F H' ev σ _ _ body D' R (by simp only [Rl]) q
      · exact k.elim
    | _ => exact k.elim
  | _ => exact k.elim
end
end Vs
/-! Vs: zip of a tuple and a list. -/
namespace Vs
open PySem PySem.Spec PyProof.Rows L2 LamX NdefX

/-- the tuple at a and the list at b, in new pairs -/
def ItM (K : PySem.W.Frag) (a b : Addr) : It where
  go := fun i H => ∃ (xs ys : List V), SqT K H a xs ∧ SqL K H b ys ∧ i < xs.length ∧ i < ys.length
  yld := fun i H v H' => ∃ T x y, v = .ref T ∧ H T = none ∧ H' = upd H T (.tup [x, y]) ∧ (∀ xs, SqT K H a xs → xs[i]? = some x) ∧ ∀ ys, SqL K H b ys → ys[i]? = some y
  stop := fun i H => ∃ xs ys : List V, SqT K H a xs ∧ SqL K H b ys ∧ i ≤ xs.length ∧ i ≤ ys.length ∧ (i = xs.length ∨ i = ys.length)
/-- where the zip stands -/
def AtM (z TI TO i1 i2 a b : Addr) (i : Nat) (h : Heap) : Prop := IsZip h z TI TO .none ∧ IsTupOf2 h TI (.ref i1) (.ref i2) ∧ (∃ x y, IsTupOf2 h TO x y) ∧ h.IsTupleIter i1 a i ∧ h.IsListIter i2 b i
theorem sepM {z TI TO i1 i2 a b : Addr} (D : ZipApart z TI TO i1 i2 a b) : ZipSep2 z TI TO i1 i2 [i1, a] [i2, b] where
  TIz := D.TIz
  TOz := D.TOz
  TITO := D.TITO
  TIi1 := D.TIi1
  mem1 := by simp
  zf1 := by simp [D.i1z.symm, D.l1z.symm]
  Tf1 := by simp [D.TOi1, D.l1TO.symm]
  TIi2 := D.TIi2
  mem2 := by simp
  zf2 := by simp [D.i2z.symm, D.l2z.symm]
  Tf2 := by simp [D.TOi2, D.l2TO.symm]
  sep1_2 := by simp [D.i12, D.l2i1.symm]
  sep2_1 := by simp [D.i12.symm, D.l1i2.symm]
theorem mem5 {c z TI TO i1 i2 : Addr} (h : c ∈ [z, TI, TO, i1, i2]) : c = z ∨ c = TI ∨ c = TO ∨ c = i1 ∨ c = i2 := by simpa using h
theorem AtM.objs {z TI TO i1 i2 a b : Addr} {i : Nat} {h : Heap} (st : AtM z TI TO i1 i2 a b i h) {c : Addr} (hc : c ∈ [z, TI, TO, i1, i2]) : ∃ o, h.get? c = some o ∧ ∀ v, o.data ≠ .cell v := by
  obtain ⟨g1, g2, ⟨x, y, g3⟩, ⟨p, g4, _, g5⟩, ⟨q, g6, _, g7⟩⟩ := st
  rcases mem5 hc with e | e | e | e | e
  · subst e; exact ⟨_, g1, fun v w => nomatch w⟩
  · subst e; exact ⟨_, g2, fun v w => nomatch w⟩
  · subst e; exact ⟨_, g3, fun v w => nomatch w⟩
  · exact ⟨p, e ▸ g4, fun v w => by rw [g5] at w; cases w⟩
  · exact ⟨q, e ▸ g6, fun v w => by rw [g7] at w; cases w⟩
theorem turnM {P : Program} {w : World} {K : PySem.W.Frag} {es : List Expr} {k : Nat} {tp : Pos} {a b z TI TO i1 i2 : Addr} (D : ZipApart z TI TO i1 i2 a b) :
    Turn P w K (.Tuple es k tp) (ItM K a b) [z, TI, TO, i1, i2] z (AtM z TI TO i1 i2 a b) where
  mem := List.mem_cons_self ..
  obj := fun _ _ st _ hc => st.objs hc
  keep := fun _ _ _ st k => by
    obtain ⟨g1, g2, ⟨x, y, g3⟩, g4, g5⟩ := st
    exact ⟨k _ (by simp) _ g1, k _ (by simp) _ g2, ⟨x, y, k _ (by simp) _ g3⟩, g4.at fun o q => k _ (by simp) o q, g5.at fun o q => k _ (by simp) o q⟩
  self := fun _ _ _ _ _ st q => wpAny_pyIter_zip st.1 q
  done := by
    intro X eP ew eK hc i pins s σ H E I hf st stop
    subst eP ew eK
    obtain ⟨g1, g2, ⟨x0, y0, g3⟩, g4, g5⟩ := st
    obtain ⟨xs, ys, qx, qy, l1, l2, l3⟩ := stop
    obtain ⟨us, r1, p1, _⟩ := I.tuple qx
    obtain ⟨ws, r2, p2, _⟩ := I.list qy
    have e1 : us.toArray.size = xs.length := by rw [r1.length]; simp
    have e2 : ws.toArray.size = ys.length := by rw [r2.length]; simp
    refine wpAny_pyNext_zipD2_end (sepM D) (Draws.tuple (A := X.A.in1) (I.ok.hd hc) i1 a D.l1i1 us.toArray) (Draws.list (A := X.A.in1) (I.ok.hd hc) i2 b D.l2i2 ws.toArray) g1 g2 g3 ⟨g4, p1⟩ ⟨g5, p2.isList⟩ (by omega) (by omega) (by omega) fun h' tk kp => ⟨rfl, ?_⟩
    exact I.turnedL (ch := [z, TI, TO, i1, i2]) (fun c o hn q => by
      simp only [List.mem_cons, not_or] at hn
      exact kp c o hn.1 hn.2.2.1 hn.2.2.2.1 hn.2.2.2.2.1 q) hf
  item := by
    intro X eP ew eK hc i pins s σ H E I hf st go
    subst eP ew eK
    obtain ⟨g1, g2, ⟨x0, y0, g3⟩, g4, g5⟩ := st
    obtain ⟨xs, ys, qx, qy, l1, l2⟩ := go
    obtain ⟨us, r1, p1, _⟩ := I.tuple qx
    obtain ⟨ws, r2, p2, _⟩ := I.list qy
    have e1 : us.toArray.size = xs.length := by rw [r1.length]; simp
    have e2 : ws.toArray.size = ys.length := by rw [r2.length]; simp
    have lz := Heap.lt_size g1
    refine wpAny_pyNext_zipD2_item (sepM D) (Draws.tuple (A := X.A.in1) (I.ok.hd hc) i1 a D.l1i1 us.toArray) (Draws.list (A := X.A.in1) (I.ok.hd hc) i2 b D.l2i2 ws.toArray) g1 g2 g3 ⟨g4, p1⟩ ⟨g5, p2.isList⟩ (by omega) (by omega) fun u1 u2 h' tk t1 t2 m1 m2 m3 m4 m5 m6 kp => ?_
    refine ⟨_, rfl, wpAny_letOwnedTupleGo_zip m1 fun h2 m7 sb => ?_⟩
    obtain ⟨v1, f1, rv1⟩ : ∃ v1, xs[i]? = some v1 ∧ RelV v1 u1 := by
      obtain ⟨u, z1, z2⟩ := r1.get (List.getElem?_eq_getElem l1)
      have t1' : us[i]? = some u1 := by simpa using t1
      rw [z1] at t1'; cases t1'
      exact ⟨_, List.getElem?_eq_getElem l1, z2⟩
    obtain ⟨v2, f2, rv2⟩ : ∃ v2, ys[i]? = some v2 ∧ RelV v2 u2 := by
      obtain ⟨u, z1, z2⟩ := r2.get (List.getElem?_eq_getElem l2)
      have t2' : ws[i]? = some u2 := by simpa using t2
      rw [z1] at t2'; cases t2'
      exact ⟨_, List.getElem?_eq_getElem l2, z2⟩
    have nz : s.heap.objs.size ≠ z := Nat.ne_of_gt lz
    have tT : h2.get? s.heap.objs.size = some { cls := .type "tuple", data := .seq #[u1, u2] } := (sb.2 _ nz).trans m5
    have ok2 : ObjOk X.prog X.w (upd H s.heap.objs.size (.tup [v1, v2])) h2 s.heap.objs.size (.tup [v1, v2]) :=
      ⟨by show 2 ≤ sizeLine; decide, [u1, u2], .cons rv1 (.cons rv2 .nil), ⟨_, tT, rfl, _, rfl⟩⟩
    have up : ∀ c o, c ∉ [z, TI, TO, i1, i2] → s.heap.get? c = some o → h2.get? c = some o := fun c o hn q => by
      simp only [List.mem_cons, not_or] at hn
      exact (sb.2 c hn.1).trans (kp c o hn.1 hn.2.2.1 hn.2.2.2.1 hn.2.2.2.2.1 q)
    have J : Inv X pins σ (upd H s.heap.objs.size (.tup [v1, v2])) { s with heap := h2, toks := tk } := I.turnedNew (ch := [z, TI, TO, i1, i2]) up hf (Nat.le_refl _) ok2
    refine ⟨.ref s.heap.objs.size, _, J, rfl, ⟨_, v1, v2, rfl, I.hok.fresh (Nat.le_refl _), rfl, fun l hl => by rw [I.tuple_inj hl qx]; exact f1, fun l hl => by rw [I.list_inj hl qy]; exact f2⟩, ?_, fun c hcm => ?_⟩
    · have ty : h2.get? TI = some _ := (sb.2 _ D.TIz).trans (kp _ _ D.TIz D.TITO D.TIi1 D.TIi2 g2)
      refine ⟨m7, ty, ⟨u1, u2, (sb.2 _ D.TOz).trans m2⟩, m3.1.at fun o q => (sb.2 _ D.i1z).trans q, m4.1.at fun o q => (sb.2 _ D.i2z).trans q⟩
    · obtain ⟨o, q, _⟩ := AtM.objs (a := a) (b := b) ⟨g1, g2, ⟨x0, y0, g3⟩, g4, g5⟩ hcm
      rw [upd_ne (Nat.ne_of_lt (Heap.lt_size q))]
      exact (hf c hcm).1
def iZipM (K : PySem.W.Frag) (ta : TA) : TI := fun σ H R => ta σ H fun vs H1 => ∃ a b xs ys, vs = [.ref a, .ref b] ∧ SqT K H1 a xs ∧ SqL K H1 b ys ∧ R (ItM K a b) H1
theorem pi_zipM {X : Cx} {e e2 : Expr} {ta : TA} {p pos tp : Pos} {es : List Expr} {k : Nat} (hg : Gl X "zip") (hm : X.mg "zip" = none) (ha : PA X [e, e2] ta)
    (hs : starEach [e, e2] X.env = (false, eval e X.env) :: starEach [e2] X.env := by rfl) (hp : (backTo pos (starEach [e2] X.env)).any (·.1) = false := by rfl) :
    PI X (.Tuple es k tp) (.Call (.Name "zip" p) [e, e2] [] pos) (iZipM X.K ta) := ⟨fun pins s σ H R I h => by
  refine Call_ (ld_blt I hg hm PyProof.Rows.boot_zip (PyProof.Rows.callWith_type1 (thn (ha.run pos pins s σ H _ I h) fun us s1 q => ?_) hs hp))
  obtain ⟨vs, H1, I1, r, a, b, xs, ys, e, qx, qy, q⟩ := q
  subst e
  cases r with
  | cons ra rr => cases rr with
    | cons rb rn =>
      cases rn
      cases ra
      cases rb
      obtain ⟨us, r1, p1, _⟩ := I1.tuple qx
      obtain ⟨ws, r2, p2, _⟩ := I1.list qy
      have p1' : s1.heap.IsTuple a us.toArray := p1
      obtain ⟨o1, z1, _⟩ := id p1
      refine zip_begins2 (begins_tuple a us.toArray) (begins_list b ws.toArray) p1' p2.isList fun h' k1 k2 k3 k4 k5 k6 kp => wpAny_pyIter_zip k1 ?_
      refine ⟨_, [_, _, _, _, _], _, _, H1, rfl, I1.kept (t' := s1.toks) kp, turnM (PySem.W.ktu_apart s1.heap.objs.size a b (Heap.lt_size z1) p2.lt), ⟨k1, k2, ⟨_, _, k3⟩, ⟨_, k4, rfl, rfl⟩, ⟨_, k5, rfl, rfl⟩⟩, fun c hc => ?_, q⟩
      have lc : s1.heap.objs.size ≤ c := by rcases mem5 hc with z | z | z | z | z <;> rw [z] <;> first | exact Nat.le_refl _ | exact Nat.le_add_right _ _
      exact I1.fpOk lc (I1.hok.fresh lc)⟩
theorem walkM {K : PySem.W.Frag} {a b : Addr} {xs ys : List V} : Walk (ItM K a b) (min xs.length ys.length) (fun H => SqT K H a xs ∧ SqL K H b ys) (YPair (fun i => xs[i]?) (fun i => ys[i]?)) where
  goes := fun i H hi q => ⟨xs, ys, q.1, q.2, by omega, by omega⟩
  stops := fun H q => ⟨xs, ys, q.1, q.2, by omega, by omega, by omega⟩
  yields := fun i H v H' hi q y => by
    obtain ⟨T, x, z, h1, h2, h3, h4, h5⟩ := y
    exact ⟨T, x, z, h1, h2, h3, h4 xs q.1, h5 ys q.2⟩

def zipD (xs ys : List D) : List D := List.zipWith (fun x y => D.tup [x, y]) xs ys
def forZ (cl : List Nat) (f g : M D) (step : D → S) : S := lf f fun x => lf g fun y => match x, y with
  | .tup xs, .lst ys => loop cl step (zipD xs ys)
  | _, _ => outB
theorem is_forZ {X : Cx} {G : Gx} {st : Stmt} {f f2 : M D} {i j : Nat} {body : S} (cl : List Nat) (h : PS X st (tFor (iZipM X.K (tCons (LE X.K G f) (tCons (LE X.K G f2) tNil))) (gTup X.K 2 (gCons (gName i) (gCons (gName j) gNil))) (LS X.K G body))) :
    PS X st (LS X.K G (forZ cl f f2 (stp2 i j body))) := PS.wk h fun D σ H q => by
  obtain ⟨F, ev, R, q⟩ := q
  refine ⟨F, ev, R, q.lf.imp fun F1 ev1 x H1 _ R1 _ k v rv => ⟨F1, ev1, R1, k.lf.imp fun F2 ev2 y H2 _ R2 s2 k v2 rv2 => ?_⟩⟩
  cases x with
  | tup da =>
    cases y with
    | lst db =>
      simp only [Rl] at rv rv2
      obtain ⟨a, xs, rfl, hs, rs⟩ := rv
      obtain ⟨b, ys, rfl, hs2, rs2⟩ := rv2
      refine ⟨a, b, xs, ys, rfl, (hs.up (s2.trans R2.sub)).t, SqL.of (R2.sub _ _ hs2), ?_⟩
      have rs' := Rls.up s2 _ _ rs
      refine loop_it (K := X.K) (G := G) (walkM (xs := xs) (ys := ys)) (ds := zipD da db) (by simp [zipD, rs.len, rs2.len]) (fun F ev σ H s R => ⟨(hs.up (s2.trans (s.trans R.sub))).t, SqL.of (R.sub _ _ (s _ _ hs2))⟩) (fun n d x F ev σ H H' D' e s R y q => ?_) R2 k
      obtain ⟨T, v, w, rfl, hT, rfl, ex, ey⟩ := y
      unfold zipD at e
      obtain ⟨dx, dy, e1, e2, rfl⟩ := List.getElem?_zipWith_eq_some.mp e
      obtain ⟨v', e3, r3⟩ := rs'.get e1
      obtain ⟨w', e4, r4⟩ := rs2.get e2
      have e3' := ex.symm.trans e3
      cases e3'
      have e4' := ey.symm.trans e4
      cases e4'
      have R3 := R.alloc hT (nt_tup (xs := [v, w]))
      have s3 := same_new (o := .tup [v, w]) (R.fnone hT)
      refine ⟨T, [v, w], rfl, SqT.of upd_same, rfl, v, _, rfl, w, _, rfl, rfl, _, _, (R3.put (Rl.up (s.trans s3) _ _ r3)).put (Rl.up (s.trans s3) _ _ r4), ?_⟩
      exact GoS.up s3 q
    | _ => exact k.elim
  | _ => exact k.elim
end Vs
/-! Vs: comprehensions. -/
namespace Vs
open PySem PySem.Spec PyProof.Rows L2 LamX NdefX

/-- a frame within: what stands now is old, the own lists are lent -/
def lend (ev : Ev) : Ev := ev.map fun s => match s with
  | .ol ds => .io ds
  | s => s
def unl1 : Sl → Sl → Sl
  | .ol _, .io ds => .ol ds
  | .io _, .io ds => .io ds
  | _, .sh d => .sh d
  | _, _ => .no
def unl (ev ev' : Ev) : Ev := List.zipWith unl1 ev ev'
def ioAt (s : Option Sl) (v : Option (Option V)) : Option Addr := match s, v with
  | some s, some (some (V.ref a)) => if s.own then some a else none
  | _, _ => none
def ioOf (ev : Ev) (σ : Sg) : List Addr := (List.range ev.length).filterMap fun i => ioAt (ev[i]?) (σ[i]?)
theorem mem_ioOf {ev : Ev} {σ : Sg} {a : Addr} : a ∈ ioOf ev σ ↔ ∃ (i : Nat) (s : Sl), ev[i]? = some s ∧ s.own = true ∧ σ[i]? = some (some (V.ref a)) := by
  unfold ioOf
  rw [List.mem_filterMap]
  constructor
  · rintro ⟨i, _, h⟩
    unfold ioAt at h
    split at h
    · rename_i s b h1 h2
      split at h
      · rename_i ho
        cases h
        exact ⟨i, s, h1, ho, h2⟩
      · cases h
    · cases h
  · rintro ⟨i, s, h1, h2, h3⟩
    refine ⟨i, List.mem_range.mpr (List.getElem?_eq_some_iff.mp h1).1, ?_⟩
    simp only [ioAt, h1, h3, h2, if_true]
@[reducible] def Gx.sub (G : Gx) (F H : Hp) (io : List Addr) : Gx := { T := G.T, F0 := F, H0 := H, io := io, E := fun _ _ _ => False }
section
variable {K : PySem.W.Frag} {G : Gx} {F H : Hp} {ev : Ev} {σ : Sg}
theorem lend_at {i : Nat} {s : Sl} (h : (lend ev)[i]? = some s) : ∃ t, ev[i]? = some t ∧ ((∃ ds, t = .ol ds ∧ s = .io ds) ∨ ((∀ ds, t ≠ .ol ds) ∧ s = t)) := by
  unfold lend at h
  rw [List.getElem?_map] at h
  cases e : ev[i]? with
  | none => rw [e] at h; cases h
  | some t =>
    rw [e] at h
    refine ⟨t, rfl, ?_⟩
    cases t with
    | ol ds => cases h; exact .inl ⟨ds, rfl, rfl⟩
    | no => cases h; exact .inr ⟨fun ds z => (by cases z), rfl⟩
    | sh d => cases h; exact .inr ⟨fun ds z => (by cases z), rfl⟩
    | io d => cases h; exact .inr ⟨fun ds z => (by cases z), rfl⟩
theorem Rel.lend (R : Rel K G F ev σ H) : Rel K (G.sub F H (ioOf ev σ)) F (lend ev) σ H where
  sub := R.sub
  nt := R.nt
  old := fun a o e _ _ => e
  dom := fun a e => e
  tab := R.tab
  f0 := Same.refl _
  new := fun a o e => .inl e
  len := by unfold Vs.lend; rw [List.length_map]; exact R.len
  slot := fun i s e => by
    obtain ⟨t, h1, h2⟩ := lend_at e
    rcases h2 with ⟨ds, rfl, rfl⟩ | ⟨hn, rfl⟩
    · obtain ⟨a, xs, g1, g2, g3, g4, g5⟩ := R.slot i _ h1
      exact ⟨a, xs, g1, g2, g3, mem_ioOf.mpr ⟨i, _, h1, rfl, g1⟩, g5⟩
    · cases s with
      | no => trivial
      | sh d => exact R.slot i _ h1
      | ol ds => exact absurd rfl (hn ds)
      | io ds =>
        obtain ⟨a, xs, g1, g2, g3, g4, g5⟩ := R.slot i _ h1
        exact ⟨a, xs, g1, g2, g3, mem_ioOf.mpr ⟨i, _, h1, rfl, g1⟩, g5⟩
  dis := fun i j s t a hij e1 e2 o1 o2 h1 h2 => by
    have key : ∀ (i : Nat) (s : Sl), (Vs.lend ev)[i]? = some s → s.own = true → ∃ s', ev[i]? = some s' ∧ s'.own = true := fun i s e o => by
      obtain ⟨t, q1, q2⟩ := lend_at e
      rcases q2 with ⟨ds, rfl, rfl⟩ | ⟨hn, rfl⟩
      · exact ⟨_, q1, rfl⟩
      · exact ⟨_, q1, o⟩
    obtain ⟨s', k1, k2⟩ := key i s e1 o1
    obtain ⟨t', k3, k4⟩ := key j t e2 o2
    exact R.dis i j s' t' a hij k1 k3 k2 k4 h1 h2
/-- an address that is lent is none of the frame's old ones -/
theorem Rel.io_new (R : Rel K G F ev σ H) {a : Addr} {o : HO} (h0 : G.H0 a = some o) (hn : a ∉ G.io) : a ∉ ioOf ev σ := fun h => by
  obtain ⟨i, s, h1, h2, h3⟩ := mem_ioOf.mp h
  have q := R.slot i s h1
  cases s with
  | no => cases h2
  | sh d => cases h2
  | ol ds =>
    obtain ⟨b, xs, g1, g2, g3, g4, g5⟩ := q
    rw [h3] at g1; cases g1
    rw [h0] at g4; cases g4
  | io ds =>
    obtain ⟨b, xs, g1, g2, g3, g4, g5⟩ := q
    rw [h3] at g1; cases g1
    exact hn g4
theorem unl_at {ev ev' : Ev} {i : Nat} {s : Sl} (h : (unl ev ev')[i]? = some s) : ∃ t t', ev[i]? = some t ∧ ev'[i]? = some t' ∧ s = unl1 t t' := by
  unfold unl at h
  obtain ⟨t, t', h1, h2, h3⟩ := List.getElem?_zipWith_eq_some.mp h
  exact ⟨t, t', h1, h2, h3.symm⟩
theorem unl_own {t t' : Sl} (h : (unl1 t t').own = true) : t.own = true ∧ ∃ ds, t' = .io ds := by
  cases t <;> cases t' <;> first | exact ⟨rfl, _, rfl⟩ | cases h
/-- back from the frame within -/
theorem Rel.unlend {F' H' : Hp} {ev' : Ev} (R : Rel K G F ev σ H) (R' : Rel K (G.sub F H (ioOf ev σ)) F' ev' σ H') : Rel K G F' (unl ev ev') σ H' where
  sub := R'.sub
  nt := R'.nt
  old := fun a o e n hio => R'.old a o (R.old a o e n hio) n (R.io_new e hio)
  dom := fun a e => R.dom a (R'.dom a e)
  tab := R'.tab
  f0 := R.f0.trans R'.f0
  new := fun a o e => (R'.new a o e).elim (fun z => R.new a o z) fun z => .inr (R.dom a z)
  len := by unfold unl; rw [List.length_zipWith, R.len, R'.len]; simp
  slot := fun i s e => by
    obtain ⟨t, t', h1, h2, rfl⟩ := unl_at e
    have q := R'.slot i t' h2
    have p := R.slot i t h1
    cases t' with
    | no => cases t <;> trivial
    | sh d => cases t <;> exact q
    | ol ds => cases t <;> trivial
    | io ds =>
      cases t with
      | no => trivial
      | sh d => trivial
      | ol es =>
        obtain ⟨a, xs, g1, g2, g3, g4, g5⟩ := q
        obtain ⟨b, ys, k1, k2, k3, k4, k5⟩ := p
        rw [g1] at k1; cases k1
        exact ⟨a, xs, g1, g2, g3, k4, g5⟩
      | io es =>
        obtain ⟨a, xs, g1, g2, g3, g4, g5⟩ := q
        obtain ⟨b, ys, k1, k2, k3, k4, k5⟩ := p
        rw [g1] at k1; cases k1
        exact ⟨a, xs, g1, g2, g3, k4, g5⟩
  dis := fun i j s t a hij e1 e2 o1 o2 h1 h2 => by
    obtain ⟨t1, t1', p1, p2, rfl⟩ := unl_at e1
    obtain ⟨t2, t2', p3, p4, rfl⟩ := unl_at e2
    exact R.dis i j t1 t2 a hij p1 p3 (unl_own o1).1 (unl_own o2).1 h1 h2
/-- other slots that agree where anything is known -/
theorem Rel.slots {σ' : Sg} (R : Rel K G F ev σ H) (hl : σ'.length = σ.length) (h : ∀ (i : Nat) (s : Sl), ev[i]? = some s → s ≠ .no → σ'[i]? = σ[i]?) : Rel K G F ev σ' H where
  sub := R.sub
  nt := R.nt
  old := R.old
  dom := R.dom
  tab := R.tab
  f0 := R.f0
  new := R.new
  len := by rw [hl]; exact R.len
  slot := fun i s e => by
    have q := R.slot i s e
    cases s with
    | no => trivial
    | sh d => obtain ⟨v, h1, h2⟩ := q; exact ⟨v, (h i _ e (by intro z; cases z)).trans h1, h2⟩
    | ol d => obtain ⟨v, xs, h1, h2⟩ := q; exact ⟨v, xs, (h i _ e (by intro z; cases z)).trans h1, h2⟩
    | io d => obtain ⟨v, xs, h1, h2⟩ := q; exact ⟨v, xs, (h i _ e (by intro z; cases z)).trans h1, h2⟩
  dis := fun i j s t a hij e1 e2 o1 o2 h1 h2 => by
    have n : ∀ {s : Sl}, s.own = true → s ≠ .no := fun {s} o z => by rw [z] at o; cases o
    exact R.dis i j s t a hij e1 e2 o1 o2 ((h i s e1 (n o1)).symm.trans h1) ((h j t e2 (n o2)).symm.trans h2)
/-- an object that nobody tracks is written -/
theorem Rel.mutO (R : Rel K G F ev σ H) {p : Addr} {xs ys : List V} (hp : H p = some (.lst xs)) (fp : F p = none) (h0 : G.H0 p = none) (ap : Apart ev σ p) : Rel K G F ev σ (upd H p (.lst ys)) where
  sub := fun b x e => by
    have hb : b ≠ p := fun z => by rw [z, fp] at e; cases e
    rw [upd_ne hb]; exact R.sub b x e
  nt := R.nt
  old := fun b x e n h => by
    have hb : b ≠ p := fun z => by rw [z, h0] at e; cases e
    rw [upd_ne hb]; exact R.old b x e n h
  dom := fun b e => by
    by_cases hb : b = p
    · subst hb; rw [upd_same] at e; cases e
    · rw [upd_ne hb] at e; exact R.dom b e
  tab := tabsN_but R.tab fun b o e hc => by
    have hb : b ≠ p := fun z => by
      rw [z, hp] at e
      cases e
      rcases hc with ⟨ps, z⟩ | ⟨c, q, _, z⟩
      · cases z
      · exact codeO_lst z.symm
    rw [upd_ne hb]; exact e
  f0 := R.f0
  new := R.new
  len := R.len
  slot := fun i s e => SlR.heap (R.slot i s e) fun a zs ha ho hz => by
    have hb : a ≠ p := fun z => ap i s e ho (by rw [← z]; exact ha)
    rw [upd_ne hb]; exact hz
  dis := R.dis
end

/-! ### [e for x in .. if c] -/
def inn {α : Type} (vs : List Nat) (m : M α) : M α := fun ev => match m (lend ev) with
  | .ok a ev' => .ok a (unl ev (fg vs ev'))
  | _ => .bad
def lcA (vs : List Nat) (step : D → M (Option D)) : List D → M (List D)
  | [] => ret []
  | d :: ds => bnd (inn vs (step d)) fun o => bnd (lcA vs step ds) fun r => ret (o.toList ++ r)
def lcM (vs : List Nat) (step : D → M (Option D)) (ds : List D) : M (List D) := fun ev => if ds.length ≤ big then lcA vs step ds (fg vs ev) else .bad
def stE (tg : D → Ev → Option Ev) (c : M Bool) (e : M D) : D → M (Option D) := fun d ev => match tg d ev with
  | some ev1 => ifE c (bnd e fun y => ret (some y)) (ret none) ev1
  | none => .bad
def tg1 (i : Nat) : D → Ev → Option Ev := fun d ev => some (ev.set i (.sh d))
def tg2 (i j : Nat) : D → Ev → Option Ev := fun d ev => match d with
  | .tup [x, y] => some ((ev.set i (.sh x)).set j (.sh y))
  | _ => none
def yes : M Bool := ret true
/-- a comprehension's target: its slots are vs -/
def TgE (K : PySem.W.Frag) (vs : List Nat) (g : TG) (tg : D → Ev → Option Ev) : Prop := ∀ (G : Gx) (F H : Hp) (ev ev1 : Ev) (σ : Sg) (d : D) (v : V) (Q : Sg → Hp → Prop), Rel K G F ev (wipe σ vs) H → Rl K F d v → tg d ev = some ev1 →
  (∀ σ2, Rel K G F ev1 σ2 H → wipe σ2 vs = wipe σ vs → σ2.length = σ.length → (∀ i, i ∉ vs → σ2[i]? = σ[i]?) → Q σ2 H) → g v (wipe σ vs) H Q
theorem wipe_at {σ : Sg} {j : Nat} : ∀ {vs : List Nat}, (wipe σ vs)[j]? = if j ∈ vs then (σ[j]?).map (fun _ => none) else σ[j]?
  | [] => by simp [wipe]
  | v :: vs => by
    unfold wipe
    by_cases hj : j = v
    · subst hj
      rw [if_pos (List.mem_cons_self ..)]
      by_cases hl : j < σ.length
      · rw [List.getElem?_set_self (by rw [wipe_length]; exact hl), List.getElem?_eq_getElem hl]; rfl
      · rw [List.getElem?_eq_none (by rw [List.length_set, wipe_length]; omega), List.getElem?_eq_none (by omega)]; rfl
    · rw [List.getElem?_set_ne (Ne.symm hj), wipe_at (vs := vs)]
      by_cases hm : j ∈ vs
      · rw [if_pos hm, if_pos (List.mem_cons_of_mem _ hm)]
      · rw [if_neg hm, if_neg (by simp [hj, hm])]
theorem wipe_of {σ τ : Sg} {vs : List Nat} (hl : τ.length = σ.length) (h : ∀ i, i ∉ vs → τ[i]? = σ[i]?) : wipe τ vs = wipe σ vs := by
  apply List.ext_getElem?
  intro j
  rw [wipe_at, wipe_at]
  by_cases hm : j ∈ vs
  · rw [if_pos hm, if_pos hm]
    by_cases hj : j < σ.length
    · rw [List.getElem?_eq_getElem hj, List.getElem?_eq_getElem (by omega)]; rfl
    · rw [List.getElem?_eq_none (by omega), List.getElem?_eq_none (by omega)]
  · rw [if_neg hm, if_neg hm, h j hm]
theorem ne_in {i j : Nat} {vs : List Nat} (hi : i ∈ vs) (hj : j ∉ vs) : i ≠ j := fun z => hj (by rw [← z]; exact hi)
theorem tgE1 {K : PySem.W.Frag} {i : Nat} {vs : List Nat} (hi : i ∈ vs) : TgE K vs (gName i) (tg1 i) := fun G F H ev ev1 σ d v Q R r e k => by
  cases e
  have h2 : ∀ j, j ∉ vs → ((wipe σ vs).set i (some v))[j]? = σ[j]? := fun j hj => by
    rw [List.getElem?_set_ne (ne_in hi hj), wipe_at, if_neg hj]
  have h1 : ((wipe σ vs).set i (some v)).length = σ.length := by rw [List.length_set, wipe_length]
  exact k _ (R.put r) (wipe_of h1 h2) h1 h2
theorem tgE2 {K : PySem.W.Frag} {i j : Nat} {vs : List Nat} (hi : i ∈ vs) (hj : j ∈ vs) : TgE K vs (gTup K 2 (gCons (gName i) (gCons (gName j) gNil))) (tg2 i j) := fun G F H ev ev1 σ d v Q R r e k => by
  unfold tg2 at e
  split at e
  · cases e
    simp only [Rl, Rls] at r
    obtain ⟨a, xs, rfl, hs, x, r1, rfl, hx, y, r2, rfl, hy, rfl⟩ := r
    have h2 : ∀ n, n ∉ vs → (((wipe σ vs).set i (some x)).set j (some y))[n]? = σ[n]? := fun n hn => by
      rw [List.getElem?_set_ne (ne_in hj hn), List.getElem?_set_ne (ne_in hi hn), wipe_at, if_neg hn]
    have h1 : (((wipe σ vs).set i (some x)).set j (some y)).length = σ.length := by rw [List.length_set, List.length_set, wipe_length]
    exact ⟨a, _, rfl, (hs.up R.sub).t, rfl, x, _, rfl, y, _, rfl, rfl, k _ ((R.put hx).put hy) (wipe_of h1 h2) h1 h2⟩
  · cases e
theorem fg_no {cl : List Nat} : ∀ {ev : Ev} {i : Nat} {s : Sl}, i ∈ cl → (fg cl ev)[i]? = some s → s = .no := by
  have keep : ∀ (cl : List Nat) (ev : Ev) (i : Nat), (∀ s, ev[i]? = some s → s = .no) → ∀ s, (fg cl ev)[i]? = some s → s = .no := by
    intro cl
    induction cl with
    | nil => intro ev i h s e; exact h s e
    | cons c cl ih =>
      intro ev i h s e
      refine ih (ev.set c .no) i (fun s e => ?_) s e
      by_cases hc : i = c
      · subst hc
        have hl : i < ev.length := by
          have := (List.getElem?_eq_some_iff.mp e).1
          rwa [List.length_set] at this
        rw [List.getElem?_set_self hl] at e
        cases e; rfl
      · rw [List.getElem?_set_ne (Ne.symm hc)] at e; exact h s e
  induction cl with
  | nil => intro ev i s h; cases h
  | cons c cl ih =>
    intro ev i s h e
    rcases List.mem_cons.mp h with z | z
    · subst z
      refine keep cl (ev.set i .no) i (fun s e => ?_) s e
      have hl : i < ev.length := by
        have := (List.getElem?_eq_some_iff.mp e).1
        rwa [List.length_set] at this
      rw [List.getElem?_set_self hl] at e
      cases e; rfl
    · exact ih z e
/-- what a walk gives at turn i -/
def GivesL (K : PySem.W.Frag) (G : Gx) (F1 : Hp) (ds : List D) (Y : Nat → Hp → V → Hp → Prop) : Prop := ∀ i d x F ev σ H H', ds[i]? = some d → Same F1 F → Rel K G F ev σ H → Y i H x H' →
  ∃ F', Rel K G F' ev σ H' ∧ Same F F' ∧ Rl K F' d x ∧ ∀ b o, H b = some o → H' b = some o ∧ (F b = none → F' b = none)
/-- the list so far -/
def LcP (K : PySem.W.Frag) (G : Gx) (σ : Sg) (F1 : Hp) (vs : List Nat) (step : D → M (Option D)) (ds : List D) (Q : VK) (L : Addr) (i : Nat) : Hp → Prop := fun H => ∃ F ev accD acc, Same F1 F ∧ Rel K G F ev σ H ∧ (∀ j s, j ∈ vs → ev[j]? = some s → s = Sl.no) ∧
  H L = some (.lst acc) ∧ F L = none ∧ G.H0 L = none ∧ Apart ev σ L ∧ Rls K F accD acc ∧ acc.length ≤ i ∧ Go K G σ F (lcA vs step (ds.drop i) ev) fun F' ev' r H' => ∀ a, Fresh K G σ F' ev' (accD ++ r) H' a → Q (.ref a) H'
theorem lc_all {K : PySem.W.Frag} {G : Gx} {J : It} {n : Nat} {Gd : Hp → Prop} {Y : Nat → Hp → V → Hp → Prop} (w : Walk J n Gd Y) {g : TG} {tg : D → Ev → Option Ev} {vs : List Nat} {c : M Bool} {e : M D} {ds : List D} {F1 H1 : Hp} {ev1 : Ev} {σ : Sg} {Q : VK} (hn : ds.length = n)
    (hG : ∀ F ev σ H, Same F1 F → Rel K G F ev σ H → Gd H) (hY : GivesL K G F1 ds Y) (ht : TgE K vs g tg)
    (R : Rel K G F1 ev1 σ H1) (q : Go K G σ F1 (lcM vs (stE tg c e) ds ev1) fun F' ev' r H' => ∀ a, Fresh K G σ F' ev' r H' a → Q (.ref a) H') (L : Addr) (hL : H1 L = none) :
    ∃ W : Nat → Nat → Hp → Prop, (∃ m, W 0 m (upd H1 L (.lst []))) ∧ ∀ i m H, W i m H →
      (J.stop i H ∧ Q (.ref L) H) ∨ (J.go i H ∧ ∃ Nx : Hp → Prop, (∀ H', Nx H' → ∃ m', m' < m ∧ W (i + 1) m' H') ∧ ∀ x H', J.yld i H x H' → g x (wipe σ vs) H' fun σ2 H2 => wipe σ2 vs = wipe σ vs ∧
        (∃ F0 H0 io, LT K (G.sub F0 H0 io) c σ2 H2 fun b H3 =>
          if b = true then ∃ F0 H0 io, LE K (G.sub F0 H0 io) e σ2 H3 fun y H4 => ∃ acc, H4 L = some (.lst acc) ∧ acc.length < sizeLine ∧ Nx (upd H4 L (.lst (acc ++ [y]))) else Nx H3)) := by
  unfold lcM at q
  by_cases hb : ds.length ≤ big
  case neg => rw [if_neg hb] at q; exact q.elim
  rw [if_pos hb] at q
  have Rg : Rel K G F1 (fg vs ev1) σ H1 := R.fg
  refine lc_it (g := g) (vs := vs) (σ := σ) (tt := fun σ2 H2 Q => ∃ F0 H0 io, LT K (G.sub F0 H0 io) c σ2 H2 Q) (te := fun σ2 H2 Q => ∃ F0 H0 io, LE K (G.sub F0 H0 io) e σ2 H2 Q) w (LcP K G σ F1 vs (stE tg c e) ds Q L) ?_ (fun i H hi p => ?_) (fun i x H H' hi p y => ?_) (fun H p => ?_)
  · exact ⟨F1, fg vs ev1, [], [], Same.refl _, Rg.allocO hL, fun j s hj e => fg_no hj e, upd_same, Rg.fnone hL, Rg.h0 hL, Rg.apartNew hL, Rls.nil, Nat.le_refl _, q⟩
  · obtain ⟨F, ev, accD, acc, s, R, _⟩ := p
    exact hG F ev σ H s R
  · obtain ⟨F, ev, accD, acc, s, R, hno, p1, p2, p3, p4, p5, p6, q⟩ := p
    have hd : i < ds.length := by omega
    rw [List.drop_eq_getElem_cons hd] at q
    obtain ⟨F', R', s', rx, kp⟩ := hY i ds[i] x F ev σ H H' (List.getElem?_eq_getElem hd) s R y
    obtain ⟨k1, k2⟩ := kp L _ p1
    have k2 := k2 p2
    unfold lcA at q
    have q := q.bind
    unfold inn at q
    have Rl0 := R'.lend
    have hno2 : ∀ j s, j ∈ vs → (lend ev)[j]? = some s → s = Sl.no := fun j s hj e => by
      obtain ⟨t, h1, h2⟩ := lend_at e
      have := hno j t hj h1
      subst this
      rcases h2 with ⟨ds, z, _⟩ | ⟨_, z⟩
      · cases z
      · exact z
    have Rw : Rel K (G.sub F' H' (ioOf ev σ)) F' (lend ev) (wipe σ vs) H' := Rl0.slots (wipe_length σ vs) fun j s e hs => by
      rw [wipe_at]
      by_cases hj : j ∈ vs
      · exact absurd (hno2 j s hj e) hs
      · rw [if_neg hj]
    have nL : L ∉ ioOf ev σ := fun z => by
      obtain ⟨j, t, z1, z2, z3⟩ := mem_ioOf.mp z
      exact p4 j t z1 z2 z3
    cases et : tg ds[i] (lend ev) with
    | none =>
      unfold stE at q
      rw [et] at q
      exact q.elim
    | some ev2 =>
      unfold stE at q
      rw [et] at q
      dsimp only at q
      refine ht _ F' H' (lend ev) ev2 σ ds[i] x _ Rw rx et fun σ2 R2 hw hlen hsl => ⟨hw, F', H', ioOf ev σ, F', ev2, R2, ?_⟩
      -- back to the frame around
      have back : ∀ F4 H4 ev4, Rel K (G.sub F' H' (ioOf ev σ)) F4 ev4 σ2 H4 → Rel K G F4 (unl ev (fg vs ev4)) σ H4 ∧ H4 L = some (.lst acc) ∧ F4 L = none ∧ Apart (unl ev (fg vs ev4)) σ L ∧ (∀ j s, j ∈ vs → (unl ev (fg vs ev4))[j]? = some s → s = Sl.no) := fun F4 H4 ev4 R4 => by
        have R5 : Rel K (G.sub F' H' (ioOf ev σ)) F4 (fg vs ev4) σ H4 := (R4.fg (cl := vs)).slots hlen.symm fun j s e hs => by
          by_cases hj : j ∈ vs
          · exact absurd (fg_no hj e) hs
          · exact (hsl j hj).symm
        refine ⟨R'.unlend R5, R4.old L _ k1 nt_lst nL, ?_, fun j s e ho hj => ?_, fun j s hj e => ?_⟩
        · cases ef : F4 L with
          | none => rfl
          | some o =>
            rcases R4.new L o ef with z | z
            · have z' : F' L = some o := z
              rw [k2] at z'; cases z'
            · have z' : H' L = none := z
              rw [k1] at z'; cases z'
        · obtain ⟨t, t', h1, h2, rfl⟩ := unl_at e
          exact p4 j t h1 (unl_own ho).1 hj
        · obtain ⟨t, t', h1, h2, rfl⟩ := unl_at e
          have := fg_no hj h2
          subst this
          cases t <;> rfl
      unfold ifE bnd at q
      cases ec : c ev2 with
      | bad => rw [ec] at q; exact q.elim
      | ex C fs ev3 => rw [ec] at q; exact q.elim
      | ok b ev3 =>
        rw [ec] at q
        intro F3 H3 R3 s3
        cases b with
        | false =>
          rw [if_neg (by intro z; cases z)]
          obtain ⟨b1, b2, b3, b4, b5⟩ := back F3 H3 ev3 R3
          have q2 := q F3 H3 b1 (s'.trans s3)
          refine ⟨F3, _, accD, acc, s.trans (s'.trans s3), b1, b5, b2, b3, p3, b4, Rls.up (s'.trans s3) _ _ p5, by omega, ?_⟩
          refine (Go.bind q2).imp fun F5 ev5 r H5 _ R5 _ k a fr => ?_
          exact Go.ret k R5 a fr
        | true =>
          rw [if_pos rfl]
          refine ⟨F', H', ioOf ev σ, F3, ev3, R3, ?_⟩
          simp only [if_true] at q
          cases ee : e ev3 with
          | bad => rw [ee] at q; exact q.elim
          | ex C fs ev4 => rw [ee] at q; exact q.elim
          | ok yd ev4 =>
            rw [ee] at q
            intro F4 H4 R4 s4 v rv
            obtain ⟨b1, b2, b3, b4, b5⟩ := back F4 H4 ev4 R4
            have sF : Same F F4 := s'.trans (s3.trans s4)
            have q2 := q F4 H4 b1 sF
            refine ⟨acc, b2, big_lt (by omega), ?_⟩
            have ra : Rls K F4 (accD ++ [yd]) (acc ++ [v]) := Rls.app (Rls.up sF _ _ p5) (Rls.cons rv Rls.nil)
            refine ⟨F4, _, accD ++ [yd], acc ++ [v], s.trans sF, b1.mutO b2 b3 p3 b4, b5, upd_same, b3, p3, b4, ra, by simp; omega, ?_⟩
            refine (Go.bind q2).imp fun F5 ev5 r H5 _ R5 _ k a fr => ?_
            refine Go.ret k R5 a ?_
            have e1 : accD ++ ((some yd).toList ++ r) = accD ++ [yd] ++ r := by simp
            rw [e1]; exact fr
  · obtain ⟨F, ev, accD, acc, s, R, hno, p1, p2, p3, p4, p5, p6, q⟩ := p
    rw [List.drop_eq_nil_of_le (by omega)] at q
    refine Go.ret q R L ?_
    rw [List.append_nil]
    exact ⟨acc, p1, p2, p3, p4, p5⟩
end Vs
/-! Vs: comprehensions over tuples, lists, ranges. -/
namespace Vs
open PySem PySem.Spec PyProof.Rows L2 LamX NdefX

def exT (K : PySem.W.Frag) (G : Gx) (c : M Bool) : TT := fun σ H Q => ∃ F0 H0 io, LT K (G.sub F0 H0 io) c σ H Q
def exE (K : PySem.W.Frag) (G : Gx) (e : M D) : TE := fun σ H Q => ∃ F0 H0 io, LE K (G.sub F0 H0 io) e σ H Q
theorem pt_ex {X : Cx} {G : Gx} {a : Expr} {c : M Bool} (h : ∀ F0 H0 io, PT X a (LT X.K (G.sub F0 H0 io) c)) : PT X a (exT X.K G c) := ⟨fun pins s σ H Q I q => by
  obtain ⟨F0, H0, io, q⟩ := q
  exact (h F0 H0 io).run pins s σ H Q I q⟩
theorem pe_ex {X : Cx} {G : Gx} {a : Expr} {c : M D} (h : ∀ F0 H0 io, PE X a (LE X.K (G.sub F0 H0 io) c)) : PE X a (exE X.K G c) := ⟨fun pins s σ H Q I q => by
  obtain ⟨F0, H0, io, q⟩ := q
  exact (h F0 H0 io).run pins s σ H Q I q⟩
theorem pts_ex {X : Cx} {G : Gx} {a : Expr} {c : M Bool} (h : ∀ F0 H0 io, PT X a (LT X.K (G.sub F0 H0 io) c)) : PTs X [a] (exT X.K G c) := pts_one (pt_ex h)
theorem pts_yes {X : Cx} {G : Gx} : PTs X [] (exT X.K G yes) := ⟨fun pins s σ H Q I q => by
  obtain ⟨F0, H0, io, F, ev, R, q⟩ := q
  exact pts_nil.run pins s σ H Q I (Go.ret q R)⟩
def lcT (vs : List Nat) (f : M D) (st : D → M (Option D)) : M (List D) := bnd f fun x => match x with
  | .tup ds => lcM vs st ds
  | _ => bad
def lcL (vs : List Nat) (f : M D) (st : D → M (Option D)) : M (List D) := bnd f fun x => match x with
  | .lst ds => lcM vs st ds
  | .sq ds => lcM vs st ds
  | _ => bad
def lcR1 (vs : List Nat) (f : M D) (st : D → M (Option D)) : M (List D) := bnd f fun x => match x with
  | .int j => if -(2 ^ 62) ≤ j ∧ j < 2 ^ 62 then lcM vs st (rng 0 j) else bad
  | _ => bad
def lcR2 (vs : List Nat) (f f2 : M D) (st : D → M (Option D)) : M (List D) := bnd f fun x => bnd f2 fun y => match x, y with
  | .int i, .int j => if -(2 ^ 62) ≤ i ∧ i < 2 ^ 62 ∧ -(2 ^ 62) ≤ j ∧ j < 2 ^ 62 then lcM vs st (rng i j) else bad
  | _, _ => bad
section
variable {K : PySem.W.Frag} {G : Gx} {σ : Sg} {H : Hp} {Q : VK} {vs : List Nat} {f f2 : M D} {c : M Bool} {e : M D} {g : TG} {tg : D → Ev → Option Ev}
theorem gives_at {F1 : Hp} {ds : List D} {xs : List V} (rs : Rls K F1 ds xs) : GivesL K G F1 ds (YAt xs) := fun i d x F ev σ H H' e s R y => by
  obtain ⟨rfl, y⟩ := y
  obtain ⟨v, e1, e2⟩ := rs.get e
  rw [y] at e1; cases e1
  exact ⟨F, R, Same.refl _, Rl.up s _ _ e2, fun b o z => ⟨z, id⟩⟩
theorem gives_rng {F1 : Hp} {i j : Int} : GivesL K G F1 (rng i j) (YFn fun k => .int (i + k)) := fun k d x F ev σ H H' e s R y => by
  obtain ⟨rfl, rfl⟩ := y
  have := rng_at e
  subst this
  exact ⟨F, R, Same.refl _, by simp only [Rl], fun b o z => ⟨z, id⟩⟩
theorem lcT_ok (ht : TgE K vs g tg) (h : LF K G (lcT vs f (stE tg c e)) σ H Q) : tLc (iTup K (LE K G f)) g (exT K G c) (exE K G e) vs σ H Q := by
  obtain ⟨F, ev, R, q⟩ := h
  refine ⟨F, ev, R, q.bind.imp fun F1 ev1 x H1 _ R1 _ k v rv => ?_⟩
  cases x with
  | tup ds =>
    simp only [Rl] at rv
    obtain ⟨a, xs, rfl, hs, rs⟩ := rv
    refine ⟨a, rfl, ⟨xs, (hs.up R1.sub).t⟩, fun L hL => ?_⟩
    exact lc_all (walk_tup (xs := xs)) rs.len.symm (fun F ev σ H s R => (hs.up (s.trans R.sub)).t) (gives_at rs) ht R1 k L hL
  | _ => exact k.elim
theorem lcL_ok (ht : TgE K vs g tg) (h : LF K G (lcL vs f (stE tg c e)) σ H Q) : tLc (iList K (LE K G f)) g (exT K G c) (exE K G e) vs σ H Q := by
  obtain ⟨F, ev, R, q⟩ := h
  refine ⟨F, ev, R, q.bind.imp fun F1 ev1 x H1 _ R1 _ k v rv => ?_⟩
  cases x with
  | lst ds =>
    simp only [Rl] at rv
    obtain ⟨a, xs, rfl, hs, rs⟩ := rv
    refine ⟨a, rfl, ⟨xs, SqL.of (R1.sub _ _ hs)⟩, fun L hL => ?_⟩
    exact lc_all (walk_list (xs := xs)) rs.len.symm (fun F ev σ H s R => SqL.of (R.sub _ _ (s _ _ hs))) (gives_at rs) ht R1 k L hL
  | sq ds =>
    simp only [Rl] at rv
    obtain ⟨a, xs, rfl, hs, rs⟩ := rv
    refine ⟨a, rfl, ⟨xs, R1.sub.seq hs⟩, fun L hL => ?_⟩
    exact lc_all (walk_list (xs := xs)) rs.len.symm (fun F ev σ H s R => (s.trans R.sub).seq hs) (gives_at rs) ht R1 k L hL
  | _ => exact k.elim
theorem lcR1_ok (ht : TgE K vs g tg) (h : LF K G (lcR1 vs f (stE tg c e)) σ H Q) : tLc (iRng1 (tCons (LE K G f) tNil)) g (exT K G c) (exE K G e) vs σ H Q := by
  obtain ⟨F, ev, R, q⟩ := h
  refine ⟨F, ev, R, q.bind.imp fun F1 ev1 x H1 _ R1 _ k v rv => ?_⟩
  cases x with
  | int j =>
    simp only [Rl] at rv
    subst rv
    dsimp only at k
    obtain ⟨hj, k⟩ := Go.iff k
    refine ⟨j, rfl, hj.1, hj.2, fun L hL => ?_⟩
    exact lc_all walk_range (by rw [rng_len]; simp) (fun _ _ _ _ _ _ => trivial) gives_rng ht R1 k L hL
  | _ => exact k.elim
theorem lcR2_ok (ht : TgE K vs g tg) (h : LF K G (lcR2 vs f f2 (stE tg c e)) σ H Q) : tLc (iRng2 (tCons (LE K G f) (tCons (LE K G f2) tNil))) g (exT K G c) (exE K G e) vs σ H Q := by
  obtain ⟨F, ev, R, q⟩ := h
  refine ⟨F, ev, R, q.bind.imp fun F1 ev1 x H1 _ R1 _ k v rv => ⟨F1, ev1, R1, k.bind.imp fun F2 ev2 y H2 _ R2 s2 k w rw => ?_⟩⟩
  cases x with
  | int i =>
    cases y with
    | int j =>
      simp only [Rl] at rv rw
      subst rv; subst rw
      dsimp only at k
      obtain ⟨hj, k⟩ := Go.iff k
      refine ⟨i, j, rfl, hj, fun L hL => ?_⟩
      exact lc_all walk_range rng_len (fun _ _ _ _ _ _ => trivial) gives_rng ht R2 k L hL
    | _ => exact k.elim
  | _ => exact k.elim
end
section
variable {X : Cx} {G : Gx} {vs : List Nat} {f f2 : M D} {c : M Bool} {e : M D} {g : TG} {tg : D → Ev → Option Ev} {a : Expr} {st : Stmt} {i : Nat}
theorem if_lcT (ht : TgE X.K vs g tg) (h : PE X a (tLc (iTup X.K (LE X.K G f)) g (exT X.K G c) (exE X.K G e) vs)) : PE X a (LF X.K G (lcT vs f (stE tg c e))) := PE.wk h fun _ _ _ q => lcT_ok ht q
theorem if_lcL (ht : TgE X.K vs g tg) (h : PE X a (tLc (iList X.K (LE X.K G f)) g (exT X.K G c) (exE X.K G e) vs)) : PE X a (LF X.K G (lcL vs f (stE tg c e))) := PE.wk h fun _ _ _ q => lcL_ok ht q
theorem if_lcR1 (ht : TgE X.K vs g tg) (h : PE X a (tLc (iRng1 (tCons (LE X.K G f) tNil)) g (exT X.K G c) (exE X.K G e) vs)) : PE X a (LF X.K G (lcR1 vs f (stE tg c e))) := PE.wk h fun _ _ _ q => lcR1_ok ht q
theorem if_lcR2 (ht : TgE X.K vs g tg) (h : PE X a (tLc (iRng2 (tCons (LE X.K G f) (tCons (LE X.K G f2) tNil))) g (exT X.K G c) (exE X.K G e) vs)) : PE X a (LF X.K G (lcR2 vs f f2 (stE tg c e))) := PE.wk h fun _ _ _ q => lcR2_ok ht q
theorem ia_lcT (ht : TgE X.K vs g tg) (h : PS X st (tAsg (tLc (iTup X.K (LE X.K G f)) g (exT X.K G c) (exE X.K G e) vs) (gName i))) : PS X st (tAsg (LF X.K G (lcT vs f (stE tg c e))) (gName i)) := asg_wk h fun _ _ _ q => lcT_ok ht q
theorem ia_lcL (ht : TgE X.K vs g tg) (h : PS X st (tAsg (tLc (iList X.K (LE X.K G f)) g (exT X.K G c) (exE X.K G e) vs) (gName i))) : PS X st (tAsg (LF X.K G (lcL vs f (stE tg c e))) (gName i)) := asg_wk h fun _ _ _ q => lcL_ok ht q
theorem ia_lcR1 (ht : TgE X.K vs g tg) (h : PS X st (tAsg (tLc (iRng1 (tCons (LE X.K G f) tNil)) g (exT X.K G c) (exE X.K G e) vs) (gName i))) : PS X st (tAsg (LF X.K G (lcR1 vs f (stE tg c e))) (gName i)) := asg_wk h fun _ _ _ q => lcR1_ok ht q
theorem ia_lcR2 (ht : TgE X.K vs g tg) (h : PS X st (tAsg (tLc (iRng2 (tCons (LE X.K G f) (tCons (LE X.K G f2) tNil))) g (exT X.K G c) (exE X.K G e) vs) (gName i))) : PS X st (tAsg (LF X.K G (lcR2 vs f f2 (stE tg c e))) (gName i)) := asg_wk h fun _ _ _ q => lcR2_ok ht q
end
end Vs
/-! Vs: defs, their promises, calls. -/
namespace Vs
open PySem PySem.Spec PyProof.Rows L2 LamX NdefX

/-- how a def's call ends: io what is in the lent list then -/
inductive Rc where
  | ok (d : D) (io : List D)
  | okl (ds : List D) (io : List D)
  | ex (C : Addr) (fs : List (Str × D)) (io : List D)
  | bad
structure Bef (T : List NTab) (F H : Hp) : Prop where
  sub : Same F H
  nt : ∀ a o, F a = some o → Nt o
  tab : TabsN T H
structure Aft (T : List NTab) (io : List Addr) (F H F' H' : Hp) : Prop where
  sub : Same F' H'
  nt : ∀ a o, F' a = some o → Nt o
  tab : TabsN T H'
  f : Same F F'
  old : ∀ b o, H b = some o → Nt o → b ∉ io → H' b = some o
  dom : ∀ b, H' b = none → H b = none
  new : ∀ b o, F' b = some o → F b = some o ∨ H b = none
def Fin (K : PySem.W.Frag) (T : List NTab) (io : List Addr) (F H : Hp) (chk : Hp → Hp → List D → Prop) (Q : VK) (E : XK) : Rc → Prop
  | .ok d es => ∀ F' H' v, Aft T io F H F' H' → chk F' H' es → Rl K F' d v → Q v H'
  | .okl ds es => ∀ F' H' a xs, Aft T io F H F' H' → chk F' H' es → H' a = some (.lst xs) → F' a = none → H a = none → Rls K F' ds xs → Q (.ref a) H'
  | .ex C fs es => ∀ F' H' dd, Aft T io F H F' H' → chk F' H' es → ExOk K F' H' fs dd → E (.ref C) dd H'
  | .bad => False
def spP (K : PySem.W.Frag) (T : List NTab) (n : Nat) (f : List D → Rc) : Sp := fun vs H Q E => ∃ F ds, Bef T F H ∧ Rls K F ds vs ∧ vs.length = n ∧ Fin K T [] F H (fun _ _ _ => True) Q E (f ds)
def spI (K : PySem.W.Frag) (T : List NTab) (n : Nat) (f : List D → List D → Rc) : Sp := fun vs H Q E => ∃ F a xs ds ws es, vs = .ref a :: ws ∧ vs.length = n ∧ Bef T F H ∧ H a = some (.lst xs) ∧ F a = none ∧ Rls K F ds xs ∧ Rls K F es ws ∧
  Fin K T [a] F H (fun F' H' ds' => ∃ xs', H' a = some (.lst xs') ∧ F' a = none ∧ Rls K F' ds' xs') Q E (f ds es)
/-- a body from its entry -/
def runP (k : Nat) (body : S) (ds : List D) : Rc := match body (ds.map .sh ++ List.replicate k .no) with
  | .nx _ => .ok .non []
  | .rt d _ => .ok d []
  | .rl ds _ => .okl ds []
  | .ex C fs _ => .ex C fs []
  | _ => .bad
def io0 (ev : Ev) (g : List D → Rc) : Rc := match (ev[0]? : Option Sl) with
  | some (.io es) => g es
  | _ => .bad
def runI (k : Nat) (body : S) (ds es : List D) : Rc := match body (.io ds :: es.map .sh ++ List.replicate k .no) with
  | .nx ev => io0 ev (.ok .non)
  | .rt d ev => io0 ev (.ok d)
  | .rl ds ev => io0 ev (.okl ds)
  | .ex C fs ev => io0 ev (.ex C fs)
  | _ => .bad

section
variable {K : PySem.W.Frag} {T : List NTab} {F H : Hp}
@[reducible] def gxOf (T : List NTab) (F H : Hp) (io : List Addr) (E : XK) : Gx := { T := T, F0 := F, H0 := H, io := io, E := E }
theorem Rel.aft {G : Gx} {F' H' : Hp} {ev : Ev} {σ : Sg} {E : XK} {io : List Addr} (hG : G = gxOf T F H io E) (R : Rel K G F' ev σ H') : Aft T io F H F' H' := by
  subst hG
  exact ⟨R.sub, R.nt, R.tab, R.f0, R.old, R.dom, R.new⟩
theorem rep_at {α : Type} {k i : Nat} {x y : α} (h : (List.replicate k x)[i]? = some y) : y = x := by
  rw [List.getElem?_replicate] at h
  split at h
  · cases h; rfl
  · cases h
/-- the slots at the entry: the parameters shared -/
theorem start_at {ds : List D} {vs : List V} {k i : Nat} {s : Sl} (rs : Rls K F ds vs) (e : (ds.map Sl.sh ++ List.replicate k Sl.no)[i]? = some s) :
    s = .no ∨ ∃ d v, s = .sh d ∧ (vs.map some ++ List.replicate k none)[i]? = some (some v) ∧ Rl K F d v := by
  by_cases hi : i < ds.length
  · rw [List.getElem?_append_left (by simpa using hi), List.getElem?_map] at e
    rw [List.getElem?_eq_getElem hi] at e
    cases e
    obtain ⟨v, h1, h2⟩ := rs.get (List.getElem?_eq_getElem hi)
    refine .inr ⟨_, v, rfl, ?_, h2⟩
    rw [List.getElem?_append_left (by simpa [rs.len] using hi), List.getElem?_map, h1]; rfl
  · rw [List.getElem?_append_right (by simpa using hi)] at e
    exact .inl (rep_at e)
theorem Rel.startP {ds : List D} {vs : List V} {k : Nat} {E : XK} (B : Bef T F H) (rs : Rls K F ds vs) : Rel K (gxOf T F H [] E) F (ds.map .sh ++ List.replicate k .no) (vs.map some ++ List.replicate k none) H where
  sub := B.sub
  nt := B.nt
  old := fun _ _ e _ _ => e
  dom := fun _ e => e
  tab := B.tab
  f0 := Same.refl _
  new := fun _ _ e => .inl e
  len := by simp [rs.len]
  slot := fun i s e => by
    rcases start_at rs e with rfl | ⟨d, v, rfl, h1, h2⟩
    · trivial
    · exact ⟨v, h1, h2⟩
  dis := fun i j s t a _ e1 _ o1 _ _ _ => by
    rcases start_at rs e1 with rfl | ⟨d, v, rfl, h1, h2⟩ <;> cases o1
theorem Rel.startI {a : Addr} {ds es : List D} {xs ws : List V} {k : Nat} {E : XK} (B : Bef T F H) (ha : H a = some (.lst xs)) (fa : F a = none) (rx : Rls K F ds xs) (rs : Rls K F es ws) :
    Rel K (gxOf T F H [a] E) F (.io ds :: es.map .sh ++ List.replicate k .no) ((V.ref a :: ws).map some ++ List.replicate k none) H where
  sub := B.sub
  nt := B.nt
  old := fun _ _ e _ _ => e
  dom := fun _ e => e
  tab := B.tab
  f0 := Same.refl _
  new := fun _ _ e => .inl e
  len := by simp [rs.len]
  slot := fun i s e => by
    cases i with
    | zero => cases e; exact ⟨a, xs, rfl, ha, fa, List.mem_singleton.mpr rfl, rx⟩
    | succ i =>
      rcases start_at rs (show (es.map Sl.sh ++ List.replicate k Sl.no)[i]? = some s from e) with rfl | ⟨d, v, rfl, h1, h2⟩
      · trivial
      · exact ⟨v, h1, h2⟩
  dis := fun i j s t b hij e1 e2 o1 o2 _ _ => by
    have z : ∀ (i : Nat) (s : Sl), (Sl.io ds :: es.map .sh ++ List.replicate k .no)[i]? = some s → s.own = true → i = 0 := fun i s e o => by
      cases i with
      | zero => rfl
      | succ i =>
        rcases start_at rs (show (es.map Sl.sh ++ List.replicate k Sl.no)[i]? = some s from e) with rfl | ⟨d, v, rfl, h1, h2⟩ <;> cases o
    exact hij ((z i s e1 o1).trans (z j t e2 o2).symm)
theorem start_eq {N : List Str} {vs : List V} {n k : Nat} (hn : vs.length = n) (hN : N.length = n + k) : L2.start N vs = vs.map some ++ List.replicate k none := by
  unfold L2.start
  rw [hN, hn, Nat.add_sub_cancel_left]
theorem body_P {N : List Str} {n k : Nat} {vs : List V} {Q : VK} {E : XK} {body : S} (hN : N.length = n + k) (h : spP K T n (runP k body) vs H Q E) :
    ∃ F, LS K (gxOf T F H [] E) body { nx := fun _ H' => Q .non H', rt := Q } (L2.start N vs) H := by
  obtain ⟨F, ds, B, rs, hl, h⟩ := h
  refine ⟨F, F, ds.map .sh ++ List.replicate k .no, by rw [start_eq hl hN]; exact Rel.startP B rs, ?_⟩
  unfold runP at h
  cases e : body (ds.map .sh ++ List.replicate k .no) with
  | nx ev => rw [e] at h; exact fun F' H' σ' R _ => h F' H' .non (R.aft rfl) trivial (by simp only [Rl])
  | rt d ev => rw [e] at h; exact fun F' H' σ' v R _ rv => h F' H' v (R.aft rfl) trivial rv
  | rl ds ev =>
    rw [e] at h
    exact fun F' H' σ' a R _ fr => by
      obtain ⟨xs, h1, h2, h3, h4, h5⟩ := fr
      exact h F' H' a xs (R.aft rfl) trivial h1 h2 h3 h5
  | ex C fs ev => rw [e] at h; exact fun F' H' σ' dd R _ x => h F' H' dd (R.aft rfl) trivial x
  | bk ev => rw [e] at h; exact h.elim
  | ct ev => rw [e] at h; exact h.elim
  | bad => rw [e] at h; exact h.elim
theorem io0_ok {ev : Ev} {g : List D → Rc} {P : Rc → Prop} (h : P (io0 ev g)) (hb : ¬ P .bad) : ∃ es, ev[0]? = some (.io es) ∧ P (g es) := by
  unfold io0 at h
  split at h
  · exact ⟨_, by assumption, h⟩
  · exact absurd h hb
theorem io_at {a : Addr} {E : XK} {F' H' : Hp} {ev : Ev} {σ : Sg} {es : List D} (R : Rel K (gxOf T F H [a] E) F' ev σ H') (e : ev[0]? = some (.io es)) : ∃ xs', H' a = some (.lst xs') ∧ F' a = none ∧ Rls K F' es xs' := by
  obtain ⟨b, xs, h1, h2, h3, h4, h5⟩ := R.slot 0 _ e
  have : b = a := List.mem_singleton.mp h4
  subst this
  exact ⟨xs, h2, h3, h5⟩
theorem body_I {N : List Str} {n k : Nat} {vs : List V} {Q : VK} {E : XK} {body : S} (hN : N.length = n + k) (h : spI K T n (runI k body) vs H Q E) :
    ∃ F a, LS K (gxOf T F H [a] E) body { nx := fun _ H' => Q .non H', rt := Q } (L2.start N vs) H := by
  obtain ⟨F, a, xs, ds, ws, es, rfl, hl, B, ha, fa, rx, rs, h⟩ := h
  refine ⟨F, a, F, .io ds :: es.map .sh ++ List.replicate k .no, by rw [start_eq hl hN]; exact Rel.startI B ha fa rx rs, ?_⟩
  unfold runI at h
  cases e : body (.io ds :: es.map .sh ++ List.replicate k .no) with
  | nx ev =>
    rw [e] at h
    obtain ⟨es', e1, h⟩ := io0_ok h id
    exact fun F' H' σ' R _ => h F' H' .non (R.aft rfl) (io_at R e1) (by simp only [Rl])
  | rt d ev =>
    rw [e] at h
    obtain ⟨es', e1, h⟩ := io0_ok h id
    exact fun F' H' σ' v R _ rv => h F' H' v (R.aft rfl) (io_at R e1) rv
  | rl ds ev =>
    rw [e] at h
    obtain ⟨es', e1, h⟩ := io0_ok h id
    exact fun F' H' σ' b R _ fr => by
      obtain ⟨xs, h1, h2, h3, h4, h5⟩ := fr
      exact h F' H' b xs (R.aft rfl) (io_at R e1) h1 h2 h3 h5
  | ex C fs ev =>
    rw [e] at h
    obtain ⟨es', e1, h⟩ := io0_ok h id
    exact fun F' H' σ' dd R _ x => h F' H' dd (R.aft rfl) (io_at R e1) x
  | bk ev => rw [e] at h; exact h.elim
  | ct ev => rw [e] at h; exact h.elim
  | bad => rw [e] at h; exact h.elim
end

/-! ### calls -/
section
variable {K : PySem.W.Frag} {G : Gx} {F H : Hp} {ev : Ev} {σ : Sg}
theorem Rel.bef (R : Rel K G F ev σ H) : Bef G.T F H := ⟨R.sub, R.nt, R.tab⟩
theorem Rel.after {F' H' : Hp} (R : Rel K G F ev σ H) (A : Aft G.T [] F H F' H') : Rel K G F' ev σ H' where
  sub := A.sub
  nt := A.nt
  old := fun a o e n h => A.old a o (R.old a o e n h) n (by simp)
  dom := fun a e => R.dom a (A.dom a e)
  tab := A.tab
  f0 := R.f0.trans A.f
  new := fun a o e => (A.new a o e).elim (fun z => R.new a o z) fun z => .inr (R.dom a z)
  len := R.len
  slot := fun i s e => by
    refine SlR.heap (SlR.up A.f (R.slot i s e) fun a ha ho hf => ?_) fun a xs ha ho hx => A.old a _ hx nt_lst (by simp)
    obtain ⟨b, xs, h1, h2, h3⟩ := (R.slot i s e).lstAt ho
    rw [ha] at h1; cases h1
    cases q : F' a with
    | none => rfl
    | some o =>
      rcases A.new a o q with z | z
      · rw [z] at hf; cases hf
      · rw [z] at h2; cases h2
  dis := R.dis
theorem Rel.afterI {F' H' : Hp} {i : Nat} {s : Sl} {a : Addr} {ds es : List D} {xs' : List V} (R : Rel K G F ev σ H) (hs : ev[i]? = some s) (ho : s = .ol ds ∨ s = .io ds) (ha : σ[i]? = some (some (.ref a))) (A : Aft G.T [a] F H F' H')
    (hx : H' a = some (.lst xs')) (fx : F' a = none) (rx : Rls K F' es xs') : Rel K G F' (ev.set i (s.to es)) σ H' := by
  have own : s.own = true := by rcases ho with rfl | rfl <;> rfl
  have sl := R.slot i s hs
  have hi : i < ev.length := (List.getElem?_eq_some_iff.mp hs).1
  have io : G.H0 a = none ∨ a ∈ G.io := by
    rcases ho with rfl | rfl
    · obtain ⟨b, zs, h1, h2, h3, h4, h5⟩ := sl
      rw [ha] at h1; cases h1; exact .inl h4
    · obtain ⟨b, zs, h1, h2, h3, h4, h5⟩ := sl
      rw [ha] at h1; cases h1; exact .inr h4
  have ne : ∀ (j : Nat) (t : Sl) (b : Addr), j ≠ i → ev[j]? = some t → t.own = true → σ[j]? = some (some (V.ref b)) → b ≠ a := fun j t b hj e o h z => R.dis j i t s b hj e hs o own h (by rw [z]; exact ha)
  refine ⟨A.sub, A.nt, fun b o e n hio => A.old b o (R.old b o e n hio) n fun z => ?_, fun b e => R.dom b (A.dom b e), A.tab, R.f0.trans A.f, fun b o e => (A.new b o e).elim (fun z => R.new b o z) fun z => .inr (R.dom b z), by rw [List.length_set]; exact R.len, fun j t e => ?_, fun j k t u b hjk ej ek ot ou hj hk => ?_⟩
  · have z' : b = a := List.mem_singleton.mp z
    subst z'
    rcases io with h | h
    · rw [h] at e; cases e
    · exact hio h
  · by_cases hj : j = i
    · subst hj
      rw [List.getElem?_set_self hi] at e
      rcases ho with rfl | rfl
      · cases e
        obtain ⟨b, zs, h1, h2, h3, h4, h5⟩ := sl
        rw [ha] at h1; cases h1
        exact ⟨a, xs', ha, hx, fx, h4, rx⟩
      · cases e
        obtain ⟨b, zs, h1, h2, h3, h4, h5⟩ := sl
        rw [ha] at h1; cases h1
        exact ⟨a, xs', ha, hx, fx, h4, rx⟩
    · rw [List.getElem?_set_ne (Ne.symm hj)] at e
      refine SlR.heap (SlR.up A.f (R.slot j t e) fun b h1 h2 h3 => ?_) fun b zs h1 h2 h3 => A.old b _ h3 nt_lst fun z => ne j t b hj e h2 h1 (List.mem_singleton.mp z)
      obtain ⟨b', zs, g1, g2, g3⟩ := (R.slot j t e).lstAt h2
      rw [h1] at g1; cases g1
      cases q : F' b with
      | none => rfl
      | some o =>
        rcases A.new b o q with z | z
        · rw [z] at h3; cases h3
        · rw [z] at g2; cases g2
  · have key : ∀ (j : Nat) (t : Sl), (ev.set i (s.to es))[j]? = some t → t.own = true → ∃ t', ev[j]? = some t' ∧ t'.own = true := fun j t e ot => by
      by_cases hj : j = i
      · subst hj; exact ⟨s, hs, own⟩
      · rw [List.getElem?_set_ne (Ne.symm hj)] at e; exact ⟨t, e, ot⟩
    obtain ⟨t', e1, o1⟩ := key j t ej ot
    obtain ⟨u', e2, o2⟩ := key k u ek ou
    exact R.dis j k t' u' b hjk e1 e2 o1 o2 hj hk
end
/-- f(..) as a value -/
def cl (f : List D → Rc) (fs : M (List D)) : M D := bnd fs fun ds ev => match f ds with
  | .ok d _ => .ok d ev
  | .ex C fs _ => .ex C fs ev
  | _ => .bad
/-- .. a new list -/
def clF (f : List D → Rc) (fs : M (List D)) : M (List D) := bnd fs fun ds ev => match f ds with
  | .okl d _ => .ok d ev
  | .ex C fs _ => .ex C fs ev
  | _ => .bad
/-- f(x, ..), x the slot i's own list lent -/
def clI (i : Nat) (f : List D → List D → Rc) (fs : M (List D)) : M D := bnd (vL i) fun _ => bnd fs fun es => bnd (vL i) fun ds ev => match ev[i]? with
  | some s => (match f ds es with
    | .ok d ds' => .ok d (ev.set i (s.to ds'))
    | .ex C fs ds' => .ex C fs (ev.set i (s.to ds'))
    | _ => .bad)
  | none => .bad
section
variable {K : PySem.W.Frag} {G : Gx} {σ : Sg} {H : Hp} {Q : VK}
theorem call_ok {n : Nat} {f : List D → Rc} {fs : M (List D)} {t : TA} (ht : ∀ (R : List V → Hp → Prop), LA K G fs σ H (fun vs H' => R vs H' ) → t σ H R) (hn : ∀ ev ds ev', fs ev = .ok ds ev' → ds.length = n)
    (h : LE K G (cl f fs) σ H Q) : tCall (spP K G.T n f) [] G.E t σ H Q := by
  refine ht _ ?_
  obtain ⟨F, ev, R, q⟩ := h
  refine ⟨F, ev, R, q.bind.imp fun F1 ev1 ds H1 e R1 _ k vs rs => ?_⟩
  refine ⟨F1, ds, R1.bef, by rw [List.append_nil]; exact rs, by rw [List.append_nil, rs.len]; exact hn _ _ _ e, ?_⟩
  cases e2 : f ds with
  | ok d es => rw [e2] at k; exact fun F' H' v A _ rv => k F' H' (R1.after A) A.f v rv
  | okl d es => rw [e2] at k; exact k.elim
  | ex C gs es => rw [e2] at k; exact fun F' H' dd A _ x => k F' H' dd (R1.after A) A.f x
  | bad => rw [e2] at k; exact k.elim
theorem callF_ok {n : Nat} {f : List D → Rc} {fs : M (List D)} {t : TA} (ht : ∀ (R : List V → Hp → Prop), LA K G fs σ H (fun vs H' => R vs H' ) → t σ H R) (hn : ∀ ev ds ev', fs ev = .ok ds ev' → ds.length = n)
    (h : LF K G (clF f fs) σ H Q) : tCall (spP K G.T n f) [] G.E t σ H Q := by
  refine ht _ ?_
  obtain ⟨F, ev, R, q⟩ := h
  refine ⟨F, ev, R, q.bind.imp fun F1 ev1 ds H1 e R1 _ k vs rs => ?_⟩
  refine ⟨F1, ds, R1.bef, by rw [List.append_nil]; exact rs, by rw [List.append_nil, rs.len]; exact hn _ _ _ e, ?_⟩
  cases e2 : f ds with
  | okl d es =>
    rw [e2] at k
    refine fun F' H' a xs A _ h1 h2 h3 rv => k F' H' (R1.after A) A.f a ⟨xs, h1, h2, R1.dom a h3, fun i s e o hi => ?_, rv⟩
    obtain ⟨b, ys, g1, g2, g3⟩ := (R1.slot i s e).lstAt o
    rw [hi] at g1; cases g1
    rw [h3] at g2; cases g2
  | ok d es => rw [e2] at k; exact k.elim
  | ex C gs es => rw [e2] at k; exact fun F' H' dd A _ x => k F' H' dd (R1.after A) A.f x
  | bad => rw [e2] at k; exact k.elim
theorem callI_ok {n i : Nat} {f : List D → List D → Rc} {fs : M (List D)} (hn : ∀ ev ds ev', fs ev = .ok ds ev' → ds.length + 1 = n)
    (h : LE K G (clI i f fs) σ H Q) : tCall (spI K G.T n f) [] G.E (tCons (tVar i) (LA K G fs)) σ H Q := by
  obtain ⟨F, ev, R, q⟩ := h
  unfold clI at q
  obtain ⟨ds0, a, xs0, ha, hx, q⟩ := vL_there q R
  refine ⟨.ref a, ha, F, ev, R, q.bind.imp fun F1 ev1 es H1 e R1 _ k ws rs => ?_⟩
  have k' := k
  unfold bnd vL at k'
  cases es1 : ev1[i]? with
  | none => rw [es1] at k'; exact k'.elim
  | some s =>
    rw [es1] at k'
    have own : ∃ ds, (s = .ol ds ∨ s = .io ds) ∧ Go K G σ F1 (match f ds es with
        | .ok d ds' => .ok d (ev1.set i (s.to ds'))
        | .ex C fs ds' => .ex C fs (ev1.set i (s.to ds'))
        | _ => .bad) (fun F' _ d H' => ∀ v, Rl K F' d v → Q v H') := by
      cases s with
      | no => exact k'.elim
      | sh d => exact k'.elim
      | ol ds => dsimp only at k'; rw [es1] at k'; exact ⟨ds, .inl rfl, k'⟩
      | io ds => dsimp only at k'; rw [es1] at k'; exact ⟨ds, .inr rfl, k'⟩
    obtain ⟨ds, ho, k2⟩ := own
    obtain ⟨a', xs, h1, h2, h3, h5⟩ : ∃ a' xs, σ[i]? = some (some (V.ref a')) ∧ H1 a' = some (.lst xs) ∧ F1 a' = none ∧ Rls K F1 ds xs := by
      have sl := R1.slot i s es1
      rcases ho with rfl | rfl
      · obtain ⟨b, zs, h1, h2, h3, h4, h5⟩ := sl; exact ⟨b, zs, h1, h2, h3, h5⟩
      · obtain ⟨b, zs, h1, h2, h3, h4, h5⟩ := sl; exact ⟨b, zs, h1, h2, h3, h5⟩
    rw [ha] at h1; cases h1
    refine ⟨F1, a, xs, ds, ws, es, by simp, by simp [rs.len]; exact hn _ _ _ e, R1.bef, h2, h3, h5, rs, ?_⟩
    cases e2 : f ds es with
    | ok d ds' =>
      rw [e2] at k2
      exact fun F' H' v A c rv => by
        obtain ⟨xs', c1, c2, c3⟩ := c
        exact k2 F' H' (R1.afterI es1 ho ha A c1 c2 c3) A.f v rv
    | okl d ds' => rw [e2] at k2; exact k2.elim
    | ex C gs ds' =>
      rw [e2] at k2
      exact fun F' H' dd A c x => by
        obtain ⟨xs', c1, c2, c3⟩ := c
        exact k2 F' H' dd (R1.afterI es1 ho ha A c1 c2 c3) A.f x
    | bad => rw [e2] at k2; exact k2.elim
end
end Vs
/-! Vs: calls of known defs. -/
namespace Vs
open PySem PySem.Spec PyProof.Rows L2 LamX NdefX

/-- the def that the module's name x stands for keeps sp -/
def Known (P : Program) (w : World) (K : PySem.W.Frag) (mg : Str → Option Value) (base : Heap) (x : Str) (k n : Nat) (sp : Sp) : Prop :=
  ∃ (f : Addr) (fd : FuncData) (ps : List Str), mg x = some (.ref f) ∧ PySem.W.keepIn K (.ref f) = true ∧ Binds K fd ps [] ∧ ps.length = n ∧ FnOk P w K mg base (L2N.CX P w) k f fd ps sp
theorem args_len : ∀ {fs : List (M D)} {ev ev' : Ev} {ds : List D}, args fs ev = .ok ds ev' → ds.length = fs.length
  | [], ev, ev', ds, h => by cases h; rfl
  | f :: fs, ev, ev', ds, h => by
    unfold args bnd at h
    cases e1 : f ev with
    | ok a ev1 =>
      rw [e1] at h
      dsimp only [bnd] at h
      cases e2 : args fs ev1 with
      | ok r ev2 =>
        rw [e2] at h
        cases h
        simp [args_len e2]
      | ex C g ev2 => rw [e2] at h; cases h
      | bad => rw [e2] at h; cases h
    | ex C g ev1 => rw [e1] at h; cases h
    | bad => rw [e1] at h; cases h
/-- in a block nothing is let out -/
theorem passNo {X : Cx} : Passes (L2N.CX X.prog X.w) X (fun _ _ _ => False) := fun _ _ _ _ _ _ _ h => by
  obtain ⟨_, _, _, _, _, _, _, _, _, _, _, _, z⟩ := h
  exact z.elim
section
variable {X : Cx} {G : Gx} {x : Str} {j k n i : Nat} {p pos : Pos} {e e0 : Expr} {es : List Expr} {fs : List (M D)}
theorem ie_call {f : List D → Rc} (F : Known X.prog X.w X.K X.mg X.base x j n (spP X.K G.T n f)) (hr : Room k X.A) (hg : Gl X x) (hx : Passes (L2N.CX X.prog X.w) X G.E) (ha : PA X (e :: es) (LA X.K G (args fs))) (hj : j ≤ k := by decide) (hn : fs.length = n := by rfl)
    (hdb : (x == ("__debug__" : Str)) = false := by decide) (he : starEach (e :: es) X.env = (false, eval e X.env) :: starEach es X.env := by rfl) (hpl : (backTo pos (starEach es X.env)).any (·.1) = false := by rfl) :
    PE X (.Call (.Name x p) (e :: es) [] pos) (LE X.K G (cl f (args fs))) := by
  obtain ⟨fa, fd, ps, h1, h2, h3, h4, h5⟩ := F
  refine PE.wk (pe_call (E := G.E) (dvs := []) (ds := []) h5 (hr.mono hj) hg h1 h2 h3 .nil hx ha hdb he hpl) fun σ H Q q => call_ok (fun R r => r) (fun ev ds ev' z => (args_len z).trans hn) q
theorem if_call {f : List D → Rc} (F : Known X.prog X.w X.K X.mg X.base x j n (spP X.K G.T n f)) (hr : Room k X.A) (hg : Gl X x) (hx : Passes (L2N.CX X.prog X.w) X G.E) (ha : PA X (e :: es) (LA X.K G (args fs))) (hj : j ≤ k := by decide) (hn : fs.length = n := by rfl)
    (hdb : (x == ("__debug__" : Str)) = false := by decide) (he : starEach (e :: es) X.env = (false, eval e X.env) :: starEach es X.env := by rfl) (hpl : (backTo pos (starEach es X.env)).any (·.1) = false := by rfl) :
    PE X (.Call (.Name x p) (e :: es) [] pos) (LF X.K G (clF f (args fs))) := by
  obtain ⟨fa, fd, ps, h1, h2, h3, h4, h5⟩ := F
  refine PE.wk (pe_call (E := G.E) (dvs := []) (ds := []) h5 (hr.mono hj) hg h1 h2 h3 .nil hx ha hdb he hpl) fun σ H Q q => callF_ok (fun R r => r) (fun ev ds ev' z => (args_len z).trans hn) q
theorem ie_callI {f : List D → List D → Rc} (F : Known X.prog X.w X.K X.mg X.base x j n (spI X.K G.T n f)) (hr : Room k X.A) (hg : Gl X x) (hx : Passes (L2N.CX X.prog X.w) X G.E) (h0 : PE X e (tVar i)) (ha : PA X es (LA X.K G (args fs))) (hj : j ≤ k := by decide) (hn : fs.length + 1 = n := by rfl)
    (hdb : (x == ("__debug__" : Str)) = false := by decide) (he : starEach (e :: es) X.env = (false, eval e X.env) :: starEach es X.env := by rfl) (hpl : (backTo pos (starEach es X.env)).any (·.1) = false := by rfl) :
    PE X (.Call (.Name x p) (e :: es) [] pos) (LE X.K G (clI i f (args fs))) := by
  obtain ⟨fa, fd, ps, h1, h2, h3, h4, h5⟩ := F
  refine PE.wk (pe_call (E := G.E) (dvs := []) (ds := []) h5 (hr.mono hj) hg h1 h2 h3 .nil hx (pa_cons h0 ha he) hdb he hpl) fun σ H Q q => callI_ok (fun ev ds ev' z => by rw [args_len z]; exact hn) q
theorem ie_gint {i : Int} (hg : Gl X x) (h : ∃ t, X.mg x = some (.int i t)) (hb : (x == ("__debug__" : Str)) = false := by decide) : PE X (.Name x p) (LE X.K G (ret (.int i))) := by
  obtain ⟨t, h⟩ := h
  exact ie_glob (v := .int i) hg h ⟨t, rfl⟩ (fun F => by simp only [Rl]) hb
/-- a def or a class, by name -/
theorem ie_gref {a : Addr} (hg : Gl X x) (h : X.mg x = some (.ref a)) (hb : (x == ("__debug__" : Str)) = false := by decide) : PE X (.Name x p) (LE X.K G (ret (.ref a))) :=
  ie_glob (v := .ref a) hg h rfl (fun F => by simp only [Rl]) hb
end
section
variable {P : Program} {w : World} {K : PySem.W.Frag} {mg : Str → Option Value} {base : Heap} {x qual : Str} {params : Arguments} {body : List Stmt} {scope : Scope} {f : Addr} {fd : FuncData} {N ps : List Str} {T : List NTab} {k n m : Nat} {f0 : S}
/-- a def's promise by its body's walk -/
theorem def_P (F : FunD K x qual params body scope [] [] f fd) (Sc : FnScope N ps scope) (hps : ps.length = n) (hN : N.length = n + m)
    (hw : ∀ (X : Cx) (G : Gx), X.prog = P → X.w = w → X.K = K → X.mg = mg → X.base = base → X.N = N → X.env.scope = scope → X.calm = true → G.T = T → Room k X.A → L2N.Takes X (fun cls d _ H => G.E cls d H) → PassesOwn (model X.prog X.w) X.A X.env X.xe → PSs X body (LS X.K G f0)) :
    FnOk P w K mg base (L2N.CX P w) (k + 1) f fd ps (spP K T n (runP m f0)) := by
  refine F.ok Sc (fun vs H Q E h => ?_) fun cdv A outer s H vs Q E hr h => ?_
  · obtain ⟨F, ds, _, _, h, _⟩ := h
    rw [h, hps]
  · obtain ⟨F0, h0⟩ := body_P hN h
    exact ⟨_, hw _ _ rfl rfl rfl rfl rfl rfl rfl rfl rfl hr (L2N.takes_of rfl rfl rfl rfl) (L2.passes_of rfl), h0⟩
end
end Vs
/-! Vs: raise, and new lists by repeating. -/
namespace Vs
open PySem PySem.Spec PyProof.Rows L2 LamX NdefX

/-- the module's exception class x -/
structure Exn (K : PySem.W.Frag) (mg : Str → Option Value) (x : Str) (C : Addr) : Prop where
  g : mg x = some (.ref C)
  k : PySem.W.keepIn K (.ref C) = true
  b : PySem.W.subIn K (.ref C) (.type "BaseException") = some true
  t : PySem.W.typeIn K (.ref C) = some (.type "type")
/-- .. with no __init__ of its own -/
structure Exn0 (K : PySem.W.Frag) (mg : Str → Option Value) (x : Str) (C : Addr) : Prop extends Exn K mg x C where
  x0 : PySem.W.excIn K C He.veBase "ValueError.__new__" = true
section
variable {X : Cx} {G : Gx} {x : Str} {C : Addr} {p pos spos : Pos}
theorem pmk_no (e : Exn0 X.K X.mg x C) (hg : Gl X x) (hd : (x == ("__debug__" : Str)) = false := by decide) : L2N.PMk X (.Call (.Name x p) [] [] pos) (fun _ H Q => Q (.ref C) none H) := fun pins s σ H Q I h => by
  refine wpAny_Call_Name_kw (ld_glob I hg e.g (PySem.W.callWith_K0 I.kIn e.k ?_) hd)
  obtain ⟨bm, N, nm, qn, bs, hdct, sn, sub, ab, col, dd, k0, k1, k2, k3, k5, mN, hC, hN, hni, T⟩ := exc_obj I.kIn e.x0
  exact wpAny_call_exc_subT PySem.F.excBase_ValueError T hC hN hni (fun h' u hm => L2N.mk_of I hm (raises_own e.b e.t) h (I.hok.gone hm.new)) (Nat.zero_le _)
theorem is_raise0 (e : Exn0 X.K X.mg x C) (hg : Gl X x) (hc : X.calm = true) (tk : L2N.Takes X (fun cls d _ H => G.E cls d H)) (hd : (x == ("__debug__" : Str)) = false := by decide) :
    PS X (.Raise (some (.Call (.Name x p) [] [] pos)) none spos) (LS X.K G (exS C)) := is_raise (L2N.ps_raise hc tk (pmk_no e hg hd))
/-- [..] * n: a new list -/
def repF (fa fb : M D) : M (List D) := bnd fa fun x => bnd fb fun y => match x, y with
  | .lst a, .int k => if k < 2 ^ 62 ∧ -(2 ^ 62) < k ∧ a.length * k.toNat ≤ big then ret (List.replicate k.toNat a).flatten else bad
  | _, _ => bad
theorem if_rep {a b : Expr} {fa fb : M D} (ha : PE X a (LE X.K G fa)) (hb : PE X b (LE X.K G fb)) : PE X (.BinOp a .Mult b pos) (LF X.K G (repF fa fb)) := PE.wk (pe_op op_rep ha hb) fun σ H Q q => by
  obtain ⟨F, ev, R, q⟩ := q
  refine ⟨F, ev, R, q.bind.imp fun F1 ev1 x H1 e1 R1 _ k v rv => ⟨F1, ev1, R1, k.bind.imp fun F2 ev2 y H2 e2 R2 s2 k w rw => ?_⟩⟩
  clear e1 e2
  cases x <;> cases y <;> first | exact k.elim | skip
  rename_i as m
  obtain ⟨⟨h1, h2, hl⟩, k⟩ := Go.iff k
  simp only [Rl] at rv rw
  obtain ⟨a, xs, rfl, hA, rA⟩ := rv
  subst rw
  have rA' := Rls.up s2 _ _ rA
  refine ⟨a, m, xs, rfl, rfl, R2.sub _ _ (s2 _ _ hA), by omega, by omega, big_line (by rw [rA.len]; exact hl), fun p hp => ?_⟩
  exact k F2 _ (R2.allocO hp) (Same.refl _) p ⟨_, upd_same, R2.fnone hp, R2.h0 hp, R2.apartNew hp, rA'.flat _⟩
end
end Vs
/-! Vs: walks over a list or a tuple, whichever it is. -/
namespace Vs
open PySem PySem.Spec PyProof.Rows L2 LamX NdefX

def iAny (K : PySem.W.Frag) (tl : TE) : TI := fun σ H R => tl σ H fun x H1 => ∃ a xs, x = .ref a ∧ ((SqL K H1 a xs ∧ R (Itl K a) H1) ∨ (SqT K H1 a xs ∧ R (Itt K a) H1))
theorem pi_any {X : Cx} {tg l : Expr} {tl : TE} (hl : PE X l tl) : PI X tg l (iAny X.K tl) := ⟨fun pins s σ H R I h => by
  refine thn (hl.run pins s σ H _ I h) fun v s1 z => ?_
  obtain ⟨x, H1, J, r, a, xs, rfl, z⟩ := z
  cases r
  have new : ∀ b ∈ [s1.heap.objs.size], FpOk X pins H1 b := fun b hb => by
    rw [List.mem_singleton.mp hb]
    exact J.fpOk (Nat.le_refl _) (J.hok.fresh (Nat.le_refl _))
  rcases z with ⟨hq, q⟩ | ⟨hq, q⟩
  · obtain ⟨us, _, p, _⟩ := J.list hq
    refine wpAny_pyIter_list p.isList ⟨_, [_], _, _, H1, rfl, J.kept (t' := s1.toks) fun b o e => ?_, turn_list a _, ⟨_, Heap.get?_push_size _ rfl, rfl, rfl⟩, new, q⟩
    exact Heap.get?_push_of_some _ e
  · obtain ⟨us, _, p, _⟩ := J.tuple hq
    refine wpAny_pyIter_tuple (items := us.toArray) p ⟨_, [_], _, _, H1, rfl, J.kept (t' := s1.toks) fun b o e => ?_, turn_tuple a _, ⟨_, Heap.get?_push_size _ rfl, rfl, rfl⟩, new, q⟩
    exact Heap.get?_push_of_some _ e⟩
/-- what is walked -/
def itA (x : D) : Option (List D) := match x with
  | .tup ds => some ds
  | .lst ds => some ds
  | .sq ds => some ds
  | _ => none
def forA (cl : List Nat) (f : M D) (step : D → S) : S := lf f fun x => match itA x with
  | some ds => loop cl step ds
  | none => outB
def lcAn (vs : List Nat) (f : M D) (st : D → M (Option D)) : M (List D) := bnd f fun x => match itA x with
  | some ds => lcM vs st ds
  | none => bad
section
variable {X : Cx} {G : Gx}
theorem itA_at {K : PySem.W.Frag} {F H : Hp} (s : Same F H) {x : D} {v : V} {ds : List D} (h : Rl K F x v) (e : itA x = some ds) : ∃ a xs, v = .ref a ∧ Rls K F ds xs ∧ ((∀ F' H', Same F F' → Same F' H' → SqL K H' a xs) ∨ (∀ F' H', Same F F' → Same F' H' → SqT K H' a xs)) := by
  cases x <;> simp only [itA] at e <;> cases e
  · simp only [Rl] at h
    obtain ⟨a, xs, rfl, hs, rs⟩ := h
    exact ⟨a, xs, rfl, rs, .inr fun F' H' s1 s2 => (hs.up (s1.trans s2)).t⟩
  · simp only [Rl] at h
    obtain ⟨a, xs, rfl, hs, rs⟩ := h
    exact ⟨a, xs, rfl, rs, .inl fun F' H' s1 s2 => SqL.of (s2 _ _ (s1 _ _ hs))⟩
  · simp only [Rl] at h
    obtain ⟨a, xs, rfl, hs, rs⟩ := h
    exact ⟨a, xs, rfl, rs, .inl fun F' H' s1 s2 => (s1.trans s2).seq hs⟩
theorem is_forA {st : Stmt} {f : M D} {g : TG} {sg : S → D → S} {body : S} (cl : List Nat) (hg : TgS X.K G g sg) (h : PS X st (tFor (iAny X.K (LE X.K G f)) g (LS X.K G body))) : PS X st (LS X.K G (forA cl f (sg body))) := PS.wk h fun D σ H q => by
  obtain ⟨F, ev, R, q⟩ := q
  refine ⟨F, ev, R, q.lf.imp fun F1 ev1 x H1 _ R1 _ k v rv => ?_⟩
  cases e : itA x with
  | none => rw [e] at k; exact k.elim
  | some ds =>
    rw [e] at k
    obtain ⟨a, xs, rfl, rs, hq⟩ := itA_at R1.sub rv e
    have give : ∀ {i : Nat} {d : Vs.D} {x : V} {F : Hp} {ev : Ev} {σ : Sg} {H H' : Hp} {D' : Ends}, ds[i]? = some d → Same F1 F → Rel X.K G F ev σ H → YAt xs i H x H' → GoS X.K G F (sg body d ev) D' → g x σ H' fun σ2 H2 => LS X.K G body D' σ2 H2 := fun {i d x F ev σ H H' D'} e s R y q => by
      obtain ⟨rfl, y⟩ := y
      obtain ⟨v, e1, e2⟩ := rs.get e
      rw [y] at e1; cases e1
      exact hg F H' ev σ d x body D' R (Rl.up s _ _ e2) q
    rcases hq with hq | hq
    · refine ⟨a, xs, rfl, .inl ⟨hq F1 H1 (Same.refl _) R1.sub, ?_⟩⟩
      exact loop_it (K := X.K) (G := G) (walk_list (xs := xs)) (ds := ds) rs.len.symm (fun F ev σ H s R => hq F H s R.sub) (fun i d x F ev σ H H' D' e s R y q => give e s R y q) R1 k
    · refine ⟨a, xs, rfl, .inr ⟨hq F1 H1 (Same.refl _) R1.sub, ?_⟩⟩
      exact loop_it (K := X.K) (G := G) (walk_tup (xs := xs)) (ds := ds) rs.len.symm (fun F ev σ H s R => hq F H s R.sub) (fun i d x F ev σ H H' D' e s R y q => give e s R y q) R1 k
variable {vs : List Nat} {f : M D} {c : M Bool} {e : M D} {g : TG} {tg : D → Ev → Option Ev} {a : Expr} {st : Stmt} {i : Nat}
theorem lcAn_ok {K : PySem.W.Frag} {σ : Sg} {H : Hp} {Q : VK} (ht : TgE K vs g tg) (h : LF K G (lcAn vs f (stE tg c e)) σ H Q) : tLc (iAny K (LE K G f)) g (exT K G c) (exE K G e) vs σ H Q := by
  obtain ⟨F, ev, R, q⟩ := h
  refine ⟨F, ev, R, q.bind.imp fun F1 ev1 x H1 _ R1 _ k v rv => ?_⟩
  cases e : itA x with
  | none => rw [e] at k; exact k.elim
  | some ds =>
    rw [e] at k
    obtain ⟨a, xs, rfl, rs, hq⟩ := itA_at R1.sub rv e
    rcases hq with hq | hq
    · refine ⟨a, xs, rfl, .inl ⟨hq F1 H1 (Same.refl _) R1.sub, fun L hL => ?_⟩⟩
      exact lc_all (walk_list (xs := xs)) rs.len.symm (fun F ev σ H s R => hq F H s R.sub) (gives_at rs) ht R1 k L hL
    · refine ⟨a, xs, rfl, .inr ⟨hq F1 H1 (Same.refl _) R1.sub, fun L hL => ?_⟩⟩
      exact lc_all (walk_tup (xs := xs)) rs.len.symm (fun F ev σ H s R => hq F H s R.sub) (gives_at rs) ht R1 k L hL
theorem if_lcA (ht : TgE X.K vs g tg) (h : PE X a (tLc (iAny X.K (LE X.K G f)) g (exT X.K G c) (exE X.K G e) vs)) : PE X a (LF X.K G (lcAn vs f (stE tg c e))) := PE.wk h fun _ _ _ q => lcAn_ok ht q
theorem ia_lcA (ht : TgE X.K vs g tg) (h : PS X st (tAsg (tLc (iAny X.K (LE X.K G f)) g (exT X.K G c) (exE X.K G e) vs) (gName i))) : PS X st (tAsg (LF X.K G (lcAn vs f (stE tg c e))) (gName i)) := asg_wk h fun _ _ _ q => lcAn_ok ht q
/-- -x -/
def negD (f : M D) : M D := bnd f fun d => match d with
  | .int i => ret (.int (-i))
  | _ => bad
theorem ie_neg {pos : Pos} (h : PE X a (LE X.K G e)) : PE X (.UnaryOp .USub a pos) (LE X.K G (negD e)) := PE.wk (pe_un un_neg h) fun σ H Q q => by
  obtain ⟨F, ev, R, q⟩ := q
  refine ⟨F, ev, R, q.bind.imp fun F1 ev1 d H1 e1 R1 _ k v rv => ?_⟩
  clear e1
  cases d <;> first | exact k.elim | skip
  rename_i j
  simp only [Rl] at rv
  exact ⟨j, rv, Go.ret k R1 _ (by simp only [Rl])⟩
end
end Vs
/-! Vs: what the printed walks lean on. -/
namespace Vs
open PySem PySem.Spec PyProof.Rows L2 LamX NdefX

theorem tkOf {P : Program} {w : World} {K : PySem.W.Frag} {mg : Str → Option Value} {base : Heap} {N : List Str} {qual : Str} {scope : Scope} {f : Addr} {cd : Value} {A : Around} {outer : List Env} {s : Shared} {H : Hp} {E : XK} :
    L2N.Takes (cxOf (L2N.CX P w) P w K mg base N qual scope f cd A outer s H E) (fun cls d _ H => E cls d H) := L2N.takes_of rfl rfl rfl rfl
theorem hxOf {P : Program} {w : World} {K : PySem.W.Frag} {mg : Str → Option Value} {base : Heap} {N : List Str} {qual : Str} {scope : Scope} {f : Addr} {cd : Value} {A : Around} {outer : List Env} {s : Shared} {H : Hp} {E : XK} :
    Passes (L2N.CX P w) (cxOf (L2N.CX P w) P w K mg base N qual scope f cd A outer s H E) E := L2N.passes_call tkOf fun _ _ _ _ h => h
theorem lenP {K : PySem.W.Frag} {T : List NTab} {n : Nat} {f : List D → Rc} {ps : List Str} (h : ps.length = n) (vs : List V) (H : Hp) (Q : VK) (E : XK) (q : spP K T n f vs H Q E) : vs.length = ps.length := by
  obtain ⟨_, _, _, _, q, _⟩ := q
  rw [q, h]
theorem lenI {K : PySem.W.Frag} {T : List NTab} {n : Nat} {f : List D → List D → Rc} {ps : List Str} (h : ps.length = n) (vs : List V) (H : Hp) (Q : VK) (E : XK) (q : spI K T n f vs H Q E) : vs.length = ps.length := by
  obtain ⟨_, _, _, _, _, _, _, q, _⟩ := q
  rw [q, h]
theorem bt_len : bootBuiltins "len" = some (.builtin "len") := by decide +kernel
theorem bt_abs : bootBuiltins "abs" = some (.builtin "abs") := by decide +kernel
theorem bt_sum : bootBuiltins "sum" = some (.builtin "sum") := by decide +kernel
theorem bt_all : bootBuiltins "all" = some (.builtin "all") := by decide +kernel
theorem bt_any : bootBuiltins "any" = some (.builtin "any") := by decide +kernel
theorem bt_max : bootBuiltins "max" = some (.builtin "max") := by decide +kernel
theorem bt_isinstance : bootBuiltins "isinstance" = some (.builtin "isinstance") := by decide +kernel
theorem bt_int : bootBuiltins "int" = some (.type "int") := by decide +kernel
theorem bt_bool : bootBuiltins "bool" = some (.type "bool") := by decide +kernel
theorem bt_tuple : bootBuiltins "tuple" = some (.type "tuple") := by decide +kernel
theorem bt_list : bootBuiltins "list" = some (.type "list") := by decide +kernel
theorem bt_str : bootBuiltins "str" = some (.type "str") := by decide +kernel
theorem bt_dict : bootBuiltins "dict" = some (.type "dict") := by decide +kernel
def asgT (i j : Nat) (f : M D) : S := lf f fun d ev => match d with
  | .tup [x, y] => .nx ((ev.set i (.sh x)).set j (.sh y))
  | _ => .bad
theorem is_asgT {X : Cx} {G : Gx} {st : Stmt} {i j : Nat} {f : M D} (h : PS X st (tAsg (LE X.K G f) (gTup X.K 2 (gCons (gName i) (gCons (gName j) gNil))))) : PS X st (LS X.K G (asgT i j f)) := PS.wk h fun Dn σ H q => by
  obtain ⟨F, ev, R, q⟩ := q
  refine ⟨F, ev, R, q.lf.imp fun F1 ev1 d H1 e1 R1 _ k v rv => ?_⟩
  clear e1
  split at k
  · simp only [Rl, Rls] at rv
    obtain ⟨a, xs, rfl, hs, x, r1, rfl, hx, y, r2, rfl, hy, rfl⟩ := rv
    exact ⟨a, _, rfl, (hs.up R1.sub).t, rfl, x, _, rfl, y, _, rfl, rfl, k F1 H1 _ ((R1.put hx).put hy) (Same.refl _)⟩
  · exact k.elim
/-- .. with an __init__ that takes one value and keeps it as the field most -/
structure ExnI (K : PySem.W.Frag) (mg : Str → Option Value) (x : Str) (C : Addr) : Prop extends Exn K mg x C where
  todo : True
end Vs
/-! Vs: a written dict of one pair. -/
namespace Vs
open PySem PySem.Spec PyProof.Rows L2 LamX NdefX

section
variable {K : PySem.W.Frag} {G : Gx} {F H : Hp} {ev : Ev} {σ : Sg}
/-- an object that nobody tracks is written for the last time -/
theorem Rel.seal (R : Rel K G F ev σ H) {p : Addr} {o0 o : HO} (hp : H p = some o0) (n1 : Nt o0) (n2 : ∀ c q, o0 ≠ CodeO c q) (fp : F p = none) (h0 : G.H0 p = none) (ap : Apart ev σ p) (ho : Nt o) : Rel K G (upd F p o) ev σ (upd H p o) where
  sub := fun b x e => by
    by_cases hb : b = p
    · subst hb; rw [upd_same] at e ⊢; exact e
    · rw [upd_ne hb] at e ⊢; exact R.sub b x e
  nt := fun b x e => by
    by_cases hb : b = p
    · subst hb; rw [upd_same] at e; cases e; exact ho
    · rw [upd_ne hb] at e; exact R.nt b x e
  old := fun b x e n h => by
    have hb : b ≠ p := fun z => by rw [z, h0] at e; cases e
    rw [upd_ne hb]; exact R.old b x e n h
  dom := fun b e => by
    by_cases hb : b = p
    · subst hb; rw [upd_same] at e; cases e
    · rw [upd_ne hb] at e; exact R.dom b e
  tab := tabsN_but R.tab fun b x e hc => by
    have hb : b ≠ p := fun z => by
      rw [z, hp] at e
      cases e
      rcases hc with ⟨ps, z⟩ | ⟨c, q, _, z⟩
      · exact n1 ps z
      · exact n2 c q z
    rw [upd_ne hb]; exact e
  f0 := R.f0.trans (same_new fp)
  new := fun b x e => by
    by_cases hb : b = p
    · subst hb; exact .inr h0
    · rw [upd_ne hb] at e; exact R.new b x e
  len := R.len
  slot := fun i s e => by
    refine SlR.heap (SlR.up (same_new fp) (R.slot i s e) fun a ha hs hf => ?_) fun a xs ha hs hx => ?_
    · have hb : a ≠ p := fun z => ap i s e hs (by rw [← z]; exact ha)
      rw [upd_ne hb]; exact hf
    · have hb : a ≠ p := fun z => ap i s e hs (by rw [← z]; exact ha)
      rw [upd_ne hb]; exact hx
  dis := R.dis
end
def dic1 (k : Str) (f : M D) : M D := bnd (inn [] f) fun d => ret (.dic [(.inr k, d)])
theorem ie_dic1 {X : Cx} {G : Gx} {k : Str} {j : Nat} {v : Expr} {kp pos : Pos} {f : M D} (hv : ∀ F0 H0 io, PE X v (LE X.K (G.sub F0 H0 io) f)) : PE X (.Dict [some (.Constant (.str k) j kp)] [v] pos) (LE X.K G (dic1 k f)) :=
  PE.wk (pe_disp (pps_cons pe_str (pe_ex hv) pps_nil) rfl rfl (fun z => by cases z) (by show 1 ≤ 15; decide)) fun σ H Q q => by
    obtain ⟨F, ev, R, q⟩ := q
    intro p hp
    have q := q.bind
    have R1 := R.allocO (o := .dK []) hp
    have ap := R.apartNew hp
    refine ⟨F, _, _, F, _, R1.lend, ?_⟩
    unfold inn at q
    cases e : f (lend ev) with
    | bad => rw [e] at q; exact q.elim
    | ex C fs ev' => rw [e] at q; exact q.elim
    | ok d ev' =>
      rw [e] at q
      intro F4 H4 R4 s4 v rv
      have nL : p ∉ ioOf ev σ := fun z => by
        obtain ⟨i, t, z1, z2, z3⟩ := mem_ioOf.mp z
        exact ap i t z1 z2 z3
      have h4 : H4 p = some (.dK []) := R4.old p _ upd_same nt_dk nL
      have f4 : F4 p = none := by
        cases ef : F4 p with
        | none => rfl
        | some o =>
          rcases R4.new p o ef with z | z
          · have z' : F p = some o := z
            rw [R.fnone hp] at z'; cases z'
          · have z' : upd H p (.dK []) p = none := z
            rw [upd_same] at z'; cases z'
      have R5 := R1.unlend R4
      have ap5 : Apart (unl ev ev') σ p := fun i s ei ho hi => by
        obtain ⟨t, t', h1, h2, rfl⟩ := unl_at ei
        exact ap i t h1 (unl_own ho).1 hi
      have R6 := R5.seal h4 nt_dk (fun c q z => by unfold CodeO at z; cases z) f4 (R.h0 hp) ap5 (nt_dk (kvs := [(.inr k, v)]))
      have s6 := same_new (o := .dK [(.inr k, v)]) f4
      refine ⟨h4, [(.inr k, v)], rfl, by show 1 ≤ 15; decide, ?_⟩
      refine Go.ret (q _ _ R6 (s4.trans s6)) R6 _ ?_
      simp only [Rl, Rks]
      exact ⟨p, _, rfl, upd_same, v, [], rfl, Rl.up s6 _ _ rv, rfl⟩
end Vs
/-! Vs: an exception class whose __init__ hands on to its base's and keeps one field. -/
namespace Vs
open PySem PySem.Spec PyProof.Rows L2 LamX NdefX

/-- the base class B as a receiver of __init__ -/
structure BaseI (K : PySem.W.Frag) (mg : Str → Option Value) (x : Str) (B : Addr) : Prop where
  g : mg x = some (.ref B)
  ga : PySem.W.specialIn K (.ref B) "__getattribute__" = some (some (.builtin "type.__getattribute__"))
  rd : PySem.W.readsIn K B (.type "type") = true
  fi : PySem.W.findCls K (.ref B) (.type "type") "__init__" = some (.val (.builtin "ValueError.__init__"))
section
variable {X : Cx} {G : Gx} {x : Str} {B C : Addr} {p p1 p2 pos spos : Pos} {e : Expr} {es : List Expr} {ta : TA}
/-- B.__init__(self, ..) -/
theorem pe_binit {pl : Sem Bool} (b : BaseI X.K X.mg x B) (hg : Gl X x) (ha : PA X (e :: es) ta)
    (ht : eval (.Call (.Attribute (.Name x p1) "__init__" p2) (e :: es) [] pos) X.env = (do
      let o ← eval (.Name x p1) X.env
      standAt p2.atName
      let (f, first) ← holding [o] (getMethod o "__init__" pl)
      callWith pos f first (backTo pos (starEach (e :: es) X.env)) (backToKw pos (keywordEach [] X.env))) := by rfl)
    (he : starEach (e :: es) X.env = (false, eval e X.env) :: starEach es X.env := by rfl) (hpl : (backTo pos (starEach es X.env)).any (·.1) = false := by rfl) (hd : (x == ("__debug__" : Str)) = false := by decide) :
    PE X (.Call (.Attribute (.Name x p1) "__init__" p2) (e :: es) [] pos) (tVeI X.K ta) := ⟨fun pins s σ H Q I h => by
  refine PySem.W.methodCall_KW (ld_glob I hg b.g ?_ hd) ht
  refine PySem.W.method_cls I.kIn b.ga (PySem.W.cls_value I.kIn b.rd b.fi (by decide +kernel) ?_)
  refine PyProof.Rows.callWith_method1 (thn (ha.run pos pins _ σ H _ (I.tok _) h) fun us s1 z => ?_) he hpl
  obtain ⟨vs, H1, J, r, a, C, ws, rfl, hl, T, ea, q⟩ := z
  cases r with
  | @cons _ u _ ur ru rw =>
    have eu : u = Value.ref a := ru
    subst eu
    have hz : ur.length ≤ sizeLine := by rw [← rw.length, sizeLine_eq]; omega
    exact oinit_ok T J ea hz fun s2 J2 => ⟨.non, H1, J2, rfl, q⟩⟩
/-- C(e, ..) by C's own __init__, the exception's context being None -/
theorem pmk_ini {x : Str} {fI : Addr} {k : Nat} {fd : FuncData} {ps : List Str} {sp : Sp} (T : OexC X.K C) (iC : PySem.W.findIn X.K (.ref C) "__init__" = some (some (.ref fI))) (tI : PySem.W.typeIn X.K (.ref fI) = some (.type "function"))
    (F1 : FnOk X.prog X.w X.K X.mg X.base (L2N.CX X.prog X.w) k fI fd ps sp) (hr : Room (k + 1) X.A) (hb : Binds X.K fd ps []) (hg : Gl X x) (hm : X.mg x = some (.ref C)) (ha : PA X (e :: es) ta)
    (hd : (x == ("__debug__" : Str)) = false := by decide) (he : starEach (e :: es) X.env = (false, eval e X.env) :: starEach es X.env := by rfl) (hpl : (backTo pos (starEach es X.env)).any (·.1) = false := by rfl) :
    L2N.PMk X (.Call (.Name x p) (e :: es) [] pos) (tMkO C sp [] ta) := fun pins s σ H Q I h => by
  obtain ⟨nm, q, N, bs, bm, sn, sub, ab, col, dd, k0, k1, k2, k3, k5, hC, hbm⟩ := T.cls
  refine wpAny_Call_Name_kw (ld_glob I hg hm (PySem.W.callWith_K (h₀ := X.base) I.ok.mod.kin T.kC (thn (ha.run pos pins s σ H _ I h) fun us s1 z => ?_) he hpl) hd)
  obtain ⟨vs, H1, J, r, hz, q1⟩ := z
  refine ⟨J.kIn, ?_⟩
  obtain ⟨hp, g, dr, tk, os⟩ := s1
  have le1 : hp.objs.size ≤ hp.objs.size + 1 := Nat.le_succ _
  have n1 : H1 (hp.objs.size + 1) = none := J.hok.fresh le1
  have w1 := q1 _ n1
  have up : ∀ b o, hp.get? b = some o → ((hp.push (PySem.W.kdv_tup us)).push (PySem.HandSPX.excO C hp.objs.size)).get? b = some o := fun b o z => Heap.get?_push_of_some _ (Heap.get?_push_of_some _ z)
  have at1 : ((hp.push (PySem.W.kdv_tup us)).push (PySem.HandSPX.excO C hp.objs.size)).get? (hp.objs.size + 1) = some (PySem.HandSPX.excO C hp.objs.size) := by heap_get
  have J2 : Inv X pins σ (upd H1 (hp.objs.size + 1) (exo (hp.objs.size + 1) C none)) ⟨(hp.push (PySem.W.kdv_tup us)).push (PySem.HandSPX.excO C hp.objs.size), g, dr, tk, os⟩ := J.laid (t' := tk) up le1 (exo_ok at1)
  have r2 : Vals (V.ref (hp.objs.size + 1) :: (vs ++ [])) (Value.ref (hp.objs.size + 1) :: (us ++ [])) := .cons rfl (r.append .nil)
  have hl : (Value.ref (hp.objs.size + 1) :: us ++ []).length = ps.length := (r2.length.symm.trans (F1.len _ _ _ _ w1))
  have hus : us.length ≤ sizeLine := by rw [← r.length, sizeLine_eq]; omega
  have W1 := F1.run _ X.stack _ _ ⟨Value.ref (hp.objs.size + 1) :: us, []⟩ _ _ _ (fun _ _ _ => False) (hr.make C us []) (J2.env0.make C us []) (hb _ (Value.ref (hp.objs.size + 1) :: us) J2.kIn hl) r2 w1
  refine wpAny_call (PySem.HandSPX.call_own PySem.F.excBase_ValueError (fun Y => PySem.HandSPX.refsVE_contains Y bm hbm) (J.kIn _ _ hC) (PySem.W.looks_findIn J.kIn iC) (fun self => PySem.W.bind_fn J.kIn self tI) hus (codeAny_mono W1 fun r s' z => ?_))
  · cases r with
    | error er =>
      obtain ⟨_, _, _, _, _, _, _, _, _, _, _, _, z⟩ := z
      exact z.elim
    | ok fl =>
      cases fl with
      | next => exact False.elim z
      | brk => exact False.elim z
      | cont => exact False.elim z
      | ret u =>
        obtain ⟨v, H2, os2, bare2, un2, hok2, rv, ev, d, fs, ea, ed, hd1, q2⟩ := z
        subst ev
        obtain ⟨h2, g2, d2, t2, os'⟩ := s'
        obtain ⟨t0, G0, J3, kG, ge, hoe, na⟩ := mk_end0 (d2 := d2) (t2 := t2) J le1 up un2 hok2 os2 bare2 ea ed hd1
        exact ⟨rv, _, _, _, ⟨G0, g2, d2, t2, os'⟩, _, .ref C, some d, rfl, J3, kG, ge, hoe, ⟨rfl, rfl, fun vs z => by cases z; rfl⟩, rfl, rfl, na, rfl, bare2, raises_own T.exC T.tyC, q2⟩
/-- __init__(self, most): the base's, then the field -/
def spTM (K : PySem.W.Frag) (C : Addr) (f : Str) : Sp := fun vs H Q _ => ∃ (a : Addr) (v : V), vs = [.ref a, v] ∧ H a = some (exo a C none) ∧ OexC K C ∧ PySem.W.findIn K (.ref C) f = some none ∧
  ∀ d, H d = none → d ≠ a → Q .non (upd (upd H d (exd d [(f, v)])) a (exo a C (some d)))
def KnownI (P : Program) (w : World) (K : PySem.W.Frag) (mg : Str → Option Value) (base : Heap) (x : Str) (C : Addr) (f : Str) : Prop := mg x = some (.ref C) ∧ OexC K C ∧ PySem.W.findIn K (.ref C) f = some none ∧
  ∃ (fI : Addr) (fd : FuncData) (ps : List Str), PySem.W.findIn K (.ref C) "__init__" = some (some (.ref fI)) ∧ PySem.W.typeIn K (.ref fI) = some (.type "function") ∧ Binds K fd ps [] ∧ FnOk P w K mg base (L2N.CX P w) 1 fI fd ps (spTM K C f)
def exM (C : Addr) (f : Str) (fs : M (List D)) : S := lf fs fun ds ev => match ds with
  | [x] => .ex C [(f, x)] ev
  | _ => .bad
theorem is_raise1 {f : Str} {k : Nat} {fs : M (List D)} (h : KnownI X.prog X.w X.K X.mg X.base x C f) (hr : Room k X.A) (hg : Gl X x) (hc : X.calm = true) (tk : L2N.Takes X (fun cls d _ H => G.E cls d H)) (ha : PA X [e] (LA X.K G fs)) (hk : 2 ≤ k := by decide)
    (hd : (x == ("__debug__" : Str)) = false := by decide) (he : starEach [e] X.env = (false, eval e X.env) :: starEach [] X.env := by rfl) (hpl : (backTo pos (starEach [] X.env)).any (·.1) = false := by rfl) :
    PS X (.Raise (some (.Call (.Name x p) [e] [] pos)) none spos) (LS X.K G (exM C f fs)) := by
  obtain ⟨hm, T, nf, fI, fd, ps, iC, tI, hb, F1⟩ := h
  refine PS.wk (L2N.ps_raise hc tk (pmk_ini T iC tI F1 (hr.mono hk) hb hg hm ha hd he hpl)) fun Dn σ H q => ?_
  obtain ⟨F, ev, R, q⟩ := q
  refine ⟨F, ev, R, q.lf.imp fun F1 ev1 ds H1 e1 R1 _ k vs rs => ?_⟩
  clear e1
  cases ds with
  | nil => exact k.elim
  | cons x ds =>
    cases ds with
    | cons y ds => exact k.elim
    | nil =>
      simp only [Rls] at rs
      obtain ⟨v, _, rfl, rv, rfl⟩ := rs
      refine ⟨by show 1 ≤ 1000; decide, fun a ha => ⟨a, v, rfl, upd_same, T, nf, fun d hd1 hda => ⟨rfl, d, [(f, v)], upd_same, by rw [upd_ne hda, upd_same], ?_, ?_⟩⟩⟩
      · rwa [upd_ne hda] at hd1
      · have n1 : H1 d = none := by rwa [upd_ne hda] at hd1
        have eH : upd (del (upd (upd (upd H1 a (exo a C none)) d (exd d [(f, v)])) a (exo a C (some d))) a) d (.xd [(f, v)]) = upd H1 d (.xd [(f, v)]) := by
          funext b
          by_cases hb : b = d
          · subst hb; rw [upd_same, upd_same]
          · rw [upd_ne hb, upd_ne hb]
            by_cases hb2 : b = a
            · subst hb2; rw [del_same, ha]
            · rw [del_ne hb2, upd_ne hb2, upd_ne hb, upd_ne hb2]
        rw [eH]
        refine k F1 _ σ (some d) (R1.allocO n1) (Same.refl _) ⟨d, [(f, v)], rfl, upd_same, ?_⟩
        simp only [Rfs]
        exact ⟨v, [], rfl, rv, rfl⟩
end
end Vs
/-! Vs: walks over lists, pairs taken apart, comprehensions, while an exception is handled. -/
namespace Vs
open PySem PySem.Spec PyProof.Rows L2 LamX NdefX HotX

section
variable {prog : Program} {w : World} {A : Around} {E : Value → Shared → Prop} {s : Shared}
theorem HotAt.keeps {x1 : Addr} {h h' : Heap} (hot : HotAt A x1 h) (k : ∀ o vs, h.get? x1 = some o → o.data = .fields vs → vs[2]? = some .none → h'.get? x1 = some o) : HotAt A x1 h' := by
  obtain ⟨h0, o, vs, h1, h2, h3⟩ := hot
  exact ⟨h0, o, vs, k o vs h1 h2 h3, h2, h3⟩
theorem hot_ne {x1 it : Addr} {h : Heap} {o : Obj} {u v : Value} (hot : HotAt A x1 h) (e : h.get? it = some o) (d : o.data = .fields #[u, v]) : x1 ≠ it := fun z => by
  obtain ⟨_, o1, vs, h1, h2, h3⟩ := hot
  rw [z, e] at h1; cases h1
  rw [d] at h2; cases h2
  simp at h3
/-- the end of a list's walk -/
theorem list_end_hot {it l x1 : Addr} {i : Nat} {items : Array Value} {Q : Option Value → Shared → Prop} (hot : HotAt A x1 s.heap) (hit : s.heap.IsListIter it l i) (hl : s.heap.IsList l items) (hx : items[i]? = none)
    (hQ : ∀ h', Heap.ExtBut it s.heap h' → Q none { s with heap := h' }) : wpAny (model prog w) A (pyNext (.ref it)) Q E s := by
  obtain ⟨o, ho, hc, hd⟩ := id hit; obtain ⟨ol, hol, _, nl, hdl⟩ := hl
  have ne := hot_ne hot ho hd
  unfold pyNext; refine wpAny_bind (wpAny_attempt (wpAny_callSpecial?_slot (name := Str.ofString "__next__") hit.typeIs slot_listiter_next (wpAny_call_entry slot_listiter_next hit.typeIs entry_listiter_next ?_ (args_listiter_next _))))
  show wpAny _ _ (field (.ref it) 0 >>= _) _ _ s; refine wpAny_bind (wpAny_field ho hd (x := .ref l) rfl ?_)
  show wpAny _ _ (if (Value.ref l == Value.none) = true then _ else _) _ _ s; rw [if_neg (show ¬ ((Value.ref l == Value.none) = true) from Bool.false_ne_true)]
  show wpAny _ _ (field (.ref it) 1 >>= _) _ _ s; refine wpAny_bind (wpAny_field ho hd (x := .int i 0) rfl ?_)
  show wpAny _ _ (seqItems? (.ref l) >>= _) _ _ s; refine wpAny_bind (wpAny_seqItems hol hdl ?_); simp only [Int.toNat_natCast, hx]
  refine wpAny_bind (wpAny_rule (wpAny_bind (wpAny_setField ho hd (by simp) ?_))); show wpAny _ _ (newExc (.type "StopIteration") [] >>= _) _ _ _
  refine wpAny_bind ?_; simp only [newExc, newTuple]; refine wpAny_bind (wpAny_newObj_type ?_ (by size_fits))
  refine wpAny_bind (m := firstArgMember _ _) (wpAny_of_eq (a := Value.none) (by first | rfl | (simp only [firstArgMember]; rfl)) (wpAny_newObj_type ?_ (by size_fits)))
  obtain ⟨h0, o1, vs1, h1, h2, h3⟩ := id hot
  have u1 : ∀ f, (s.heap.update it f).get? x1 = some o1 := fun f => by rw [Heap.get?_update_other _ _ (Ne.symm ne)]; exact h1
  refine raiseNew_hot ⟨h0, o1, vs1, Heap.get?_push_of_some _ (Heap.get?_push_of_some _ (u1 _)), h2, h3⟩ (Nat.ne_of_lt (Heap.lt_size (Heap.get?_push_of_some _ (u1 _)))) (Heap.get?_push_size _ rfl) rfl (by first | (simp; done) | (simp; omega) | (simp only [Array.size_append]; simp; omega)) ?_
  refine wpAny_bind (wpAny_isInstance (T := "StopIteration") (b := true) ⟨_, Heap.get?_update_self _ (Heap.get?_push_size _ rfl) rfl, rfl⟩ isSubtype_stop (wpAny_pure (hQ _ fun b o hb e => ?_)))
  have e1 : ∀ f, (s.heap.update it f).get? b = some o := fun f => by rw [Heap.get?_update_other _ _ (Ne.symm hb)]; exact e
  rw [Heap.get?_update_other _ _ (Nat.ne_of_gt (Heap.lt_size (Heap.get?_push_of_some _ (e1 _))))]
  exact Heap.get?_push_of_some _ (Heap.get?_push_of_some _ (e1 _))
/-- the end of a tuple's walk -/
theorem tup_end_hot {it t x1 : Addr} {i : Nat} {items : Array Value} {Q : Option Value → Shared → Prop} (hot : HotAt A x1 s.heap) (hit : IsTupIter s.heap it t i) (ht : IsTup s.heap t items) (hx : items[i]? = none)
    (hQ : ∀ h', Heap.ExtBut it s.heap h' → Q none { s with heap := h' }) : wpAny (model prog w) A (pyNext (.ref it)) Q E s := by
  obtain ⟨o, ho, hc, hd⟩ := id hit; obtain ⟨ol, hol, _, nl, hdl⟩ := ht
  have ne := hot_ne hot ho hd
  unfold pyNext; refine wpAny_bind (wpAny_attempt (wpAny_callSpecial?_slot (name := Str.ofString "__next__") hit.typeIs slot_tupleiter_next (wpAny_call_entry slot_tupleiter_next hit.typeIs entry_tupleiter_next ?_ (args_tupleiter_next _))))
  show wpAny _ _ (field (.ref it) 0 >>= _) _ _ s; refine wpAny_bind (wpAny_field ho hd (x := .ref t) rfl ?_)
  show wpAny _ _ (if (Value.ref t == Value.none) = true then _ else _) _ _ s; rw [if_neg (show ¬ ((Value.ref t == Value.none) = true) from Bool.false_ne_true)]
  show wpAny _ _ (field (.ref it) 1 >>= _) _ _ s; refine wpAny_bind (wpAny_field ho hd (x := .int i 0) rfl ?_)
  show wpAny _ _ (seqItems? (.ref t) >>= _) _ _ s; refine wpAny_bind (wpAny_seqItems hol hdl ?_); simp only [Int.toNat_natCast, hx]
  refine wpAny_bind (wpAny_rule (wpAny_bind (wpAny_setField ho hd (by simp) ?_))); show wpAny _ _ (newExc (.type "StopIteration") [] >>= _) _ _ _
  refine wpAny_bind ?_; simp only [newExc, newTuple]; refine wpAny_bind (wpAny_newObj_type ?_ (by size_fits))
  refine wpAny_bind (m := firstArgMember _ _) (wpAny_of_eq (a := Value.none) (by first | rfl | (simp only [firstArgMember]; rfl)) (wpAny_newObj_type ?_ (by size_fits)))
  obtain ⟨h0, o1, vs1, h1, h2, h3⟩ := id hot
  have u1 : ∀ f, (s.heap.update it f).get? x1 = some o1 := fun f => by rw [Heap.get?_update_other _ _ (Ne.symm ne)]; exact h1
  refine raiseNew_hot ⟨h0, o1, vs1, Heap.get?_push_of_some _ (Heap.get?_push_of_some _ (u1 _)), h2, h3⟩ (Nat.ne_of_lt (Heap.lt_size (Heap.get?_push_of_some _ (u1 _)))) (Heap.get?_push_size _ rfl) rfl (by first | (simp; done) | (simp; omega) | (simp only [Array.size_append]; simp; omega)) ?_
  refine wpAny_bind (wpAny_isInstance (T := "StopIteration") (b := true) ⟨_, Heap.get?_update_self _ (Heap.get?_push_size _ rfl) rfl, rfl⟩ isSubtype_stop (wpAny_pure (hQ _ fun b o hb e => ?_)))
  have e1 : ∀ f, (s.heap.update it f).get? b = some o := fun f => by rw [Heap.get?_update_other _ _ (Ne.symm hb)]; exact e
  rw [Heap.get?_update_other _ _ (Nat.ne_of_gt (Heap.lt_size (Heap.get?_push_of_some _ (e1 _))))]
  exact Heap.get?_push_of_some _ (Heap.get?_push_of_some _ (e1 _))
theorem assign_tup_hot {env : Env} {elts : List Expr} {k : Nat} {pos : Pos} {t x1 : Addr} {items : Array Value} {Q : Unit → Shared → Prop} (hot : HotAt A x1 s.heap) (ht : IsTup s.heap t items) (hn : (assignEach elts env).length = items.size) (hstar : (assignEach elts env).findIdx? (·.1) = none)
    (h : ∀ h', Heap.ExtBut s.heap.objs.size s.heap h' → wpAny (model prog w) A (assignInOrder ((assignEach elts env).map (·.2)) items.toList) Q E { s with heap := h' }) : wpAny (model prog w) A (assign (.Tuple elts k pos) env (.ref t)) Q E s := by
  rw [assign_Tuple]; refine wpAny_bind (wpAny_standAt ?_); unfold unpack; rw [hn, hstar]; refine wpAny_bind (wpAny_holding ?_)
  have hlt : t ≠ s.heap.objs.size := by obtain ⟨o, ho, _⟩ := ht; exact Nat.ne_of_lt (Heap.lt_size ho)
  unfold unpackItems; refine wpAny_bind ?_; unfold notIterableAtAll; refine wpAny_bind (wpAny_specialOf ht.typeIs slot_tuple_iter.lookup (wpAny_pure ?_))
  simp only [Bool.false_eq_true, if_false]; refine wpAny_bind (wpAny_holding (iter_tuple ht ?_))
  refine wpAny_bind (wpAny_holding (draw_tuple hlt items.size 0 _ _ ⟨_, Heap.get?_push_size _ rfl, rfl, rfl⟩ (ht.push _) (by omega) fun h₁ hit₁ hs₁ => ?_))
  rw [List.drop_zero, List.take_of_length_le (by simp), if_neg (by simp)]
  have hot1 : HotAt A x1 h₁ := HotAt.keeps hot fun o vs e _ _ => hs₁.extBut _ _ (Nat.ne_of_lt (Heap.lt_size e)) (Heap.get?_push_of_some _ e)
  refine wpAny_bind (wpAny_holding (tup_end_hot hot1 hit₁ ((ht.push _).extBut hs₁.extBut hlt) (by simp) fun h₂ he₂ => ?_))
  simp only [Option.isSome_none, Bool.false_eq_true, if_false]
  exact wpAny_pure (h h₂ fun b o hb e => he₂ b o hb (hs₁.extBut b o hb (Heap.get?_push_of_some _ e)))
end

/-- x1 is handled, and it is none of what the context may touch -/
structure HotS (X : Cx) (x1 : Addr) : Prop where
  hot : ∀ pins σ H s, Inv X pins σ H s → HotAt X.A x1 s.heap
  none : ∀ pins σ H s, Inv X pins σ H s → H x1 = Option.none
  fr : x1 ∉ frs X.stack
  fp : ∀ pins H b, FpOk X pins H b → x1 ≠ b
section
variable {X : Cx} {x1 : Addr}
theorem hotS_suite {a : Addr} {oe : Obj} {vs : Array Value} {pn : List (Addr × Obj)} (hd : oe.data = .fields vs) (hc : vs[2]? = some .none) (hs : X.stack = X.env :: X.outer) (hf : X.env.frame = some X.env.locals)
    {pins : List (Addr × Obj)} {σ : Sg} {H : Hp} {s : Shared} (I : Inv (X.suite a ((a, oe) :: pn)) pins σ H s) : HotS (X.suite a ((a, oe) :: pn)) a where
  hot := fun pins σ H s I => ⟨rfl, oe, vs, (I.pin (a, oe) (List.mem_append_left _ (List.mem_cons_self ..))).1, hd, hc⟩
  none := fun pins σ H s I => (I.pin (a, oe) (List.mem_append_left _ (List.mem_cons_self ..))).2.1
  fr := by
    obtain ⟨_, _, h3, h4, _⟩ := I.pin (a, oe) (List.mem_append_left _ (List.mem_cons_self ..))
    show a ∉ frs X.stack
    rw [hs]
    unfold frs
    rw [List.filterMap_cons, hf]
    exact List.not_mem_cons_of_ne_of_not_mem h3 h4
  fp := fun pins H b f => f.2.2.2.2.2 (a, oe) (List.mem_append_left _ (List.mem_cons_self ..))
/-- in a comprehension's block -/
theorem HotS.blk {pins : List (Addr × Obj)} {σ0 : Sg} {s0 : Shared} {H0 : Hp} {scope : Scope} {ce : Env} {fp : List Addr} (hs : HotS X x1) (I0 : Inv X pins σ0 H0 s0) (hfp : ∀ b ∈ fp, FpOk X pins H0 b) {pins' : List (Addr × Obj)} {σ : Sg} {H : Hp} {s : Shared} (I : Inv (X.blk s0 H0 scope ce fp) pins' σ H s) : HotAt X.A x1 s.heap :=
  HotAt.keeps (hs.hot _ _ _ _ I0) fun o vs e _ _ => I.base.keep x1 o e (hs.none _ _ _ _ I0) hs.fr fun z => hs.fp _ _ _ (hfp x1 z) rfl
/-- a pair taken apart by two names, x1 being handled -/
theorem pg_tupH {es : List Expr} {k : Nat} {t : TGs} {n : Nat} {pos : Pos} (hot : ∀ pins σ H s, Inv X pins σ H s → HotAt X.A x1 s.heap) (h : PGs X es t) (hn : (assignEach es X.env).length = n := by rfl) (hst : (assignEach es X.env).findIdx? (·.1) = none := by rfl) : PG X (.Tuple es k pos) (gTup X.K n t) :=
  ⟨fun pins s σ H v u Q I r q => by
    obtain ⟨a, xs, rfl, hq, hl, q⟩ := q
    cases r
    obtain ⟨us, rv, p, _⟩ := I.tuple hq
    refine assign_tup_hot (hot _ _ _ _ I) p (by simp [hn, ← hl, rv.length]) hst fun h' hx => ?_
    have J : Inv X pins σ H { s with heap := h' } := I.kept (t' := s.toks) fun b o e => hx b o (Nat.ne_of_lt (Heap.lt_size e)) e
    exact h.run pins _ σ H xs _ Q J (by simpa using rv) q⟩
/-- [elt for target in list if ..] while x1 is handled -/
theorem lcH_core {pins : List (Addr × Obj)} {s : Shared} {σ : Sg} {H : Hp} {Q : VK} {use : Option (Value → Sem Unit)} {Qf : Value → Shared → Prop} {pos' : Pos} {elt tg iter : Expr} {ifs : List Expr} {scope : Scope} {own : List (Str × Nat)} {pos : Pos} {tl : TE} {g : TG} {tt : TT} {te : TE} (I : Inv X pins σ H s) (HS : HotS X x1) (hN : X.N.Nodup) (hl : PE X iter tl) (ok : BlkOk X.N X.env.scope scope own)
    (hg : ∀ (s : Shared) (H : Hp) (C : Addr) (cl : List (Str × Addr)) (fp : List Addr), (∀ pins σ H' s', Inv (X.blk s H scope (compEnvC scope cl C X.env) fp) pins σ H' s' → HotAt X.A x1 s'.heap) → PG (X.blk s H scope (compEnvC scope cl C X.env) fp) tg g)
    (ht : ∀ (s : Shared) (H : Hp) (C : Addr) (cl : List (Str × Addr)) (fp : List Addr), PTs (X.blk s H scope (compEnvC scope cl C X.env) fp) ifs tt)
    (he : ∀ (s : Shared) (H : Hp) (C : Addr) (cl : List (Str × Addr)) (fp : List Addr), PE (X.blk s H scope (compEnvC scope cl C X.env) fp) elt te) (hs : ∀ x, foldedSetIterable iter X.env x = pure x) (h : tLc (iList X.K tl) g tt te (own.map (·.2)) σ H Q)
    (hRR : ∀ D C s' m H', Inv X pins σ H' s' → Q (.ref D) H' → s'.heap.Ns C m → FpOk X pins H' C → compPost (model X.prog X.w) X.A X.xe use Qf (.ref D) C (.ok .next) s') :
    wpAny (model X.prog X.w) X.A (comprehension (.ListComp elt [⟨tg, iter, ifs, 0⟩] scope pos) scope X.env pos' (newList []) false (eval iter X.env) use) Qf X.xe s := by
  have hfree : ∀ y ∈ scope.names, y.2 = .free → ∃ c, X.env.cells.lookup y.1 = some c := fun y hy e => (ok.free y hy e).elim (fun k => I.ok.has _ (.inl k)) fun k => I.ok.has _ (.inr k)
  refine wpAny_comprehension_free (use := use) rfl hs (closure_ok hfree) ok.kind (fun y hy e => by rw [ok.uniq y hy, e]) (thn (hl.run pins s σ H _ I h) fun xv s1 hx => ?_)
  obtain ⟨v, H2, I1, r1, a, rfl, ⟨xs, hq⟩, q⟩ := hx
  cases r1
  obtain ⟨us0, _, p0, _⟩ := I1.list hq
  refine wpAny_pyIter_list p0.isList ?_
  -- the iterator, the new list
  generalize hit : s1.heap.objs.size = it
  generalize hs2 : ({ s1 with heap := s1.heap.push { cls := .type "list_iterator", data := .fields #[.ref a, .int 0 0] } } : Shared) = s2
  have I2 : Inv X pins σ H2 s2 := by rw [← hs2]; exact I1.kept (t' := s1.toks) fun b o e => Heap.get?_push_of_some _ e
  have st2 : s2.heap.IsListIter it a 0 := by rw [← hs2, ← hit]; exact ⟨_, Heap.get?_push_size _ rfl, rfl, rfl⟩
  have fit : FpOk X pins H2 it := I1.fpOk (by rw [hit]; exact Nat.le_refl _) (I1.hok.fresh (by rw [hit]; exact Nat.le_refl _))
  refine wpAny_newObj_type (newEnv_comp ?_) (by show 0 ≤ sizeLine; decide)
  generalize hD : s2.heap.objs.size = D
  have hDn : H2 D = none := I2.hok.fresh (Nat.le_of_eq hD)
  obtain ⟨W, ⟨m0, w0⟩, turn⟩ := q D hDn
  generalize hs3 : ({ s2 with heap := s2.heap.push { cls := .type "list", data := .seq ([] : List Value).toArray } } : Shared) = s3
  have h3 : s3.heap = s2.heap.push { cls := .type "list", data := .seq ([] : List Value).toArray } := by rw [← hs3]
  have I3 : Inv X pins σ (upd H2 D (.lst [])) s3 := by
    rw [← hs3]; exact I2.laid (t' := s2.toks) (fun b o e => Heap.get?_push_of_some _ e) (Nat.le_of_eq hD) ⟨Nat.zero_le _, [], 0, .nil, by rw [← hD]; exact Heap.get?_push_size _ rfl⟩
  have lit : it < s2.heap.objs.size := by obtain ⟨_, e, _⟩ := st2; exact Heap.lt_size e
  have nit : upd H2 D (.lst []) it = none := by rw [upd_ne (by rw [← hD]; exact Nat.ne_of_lt lit)]; exact fit.1
  have f3 : ∀ b ∈ [it], FpOk X pins (upd H2 D (.lst [])) b ∧ b < s3.heap.objs.size := fun b hb => by
    rw [List.mem_singleton.mp hb]; exact ⟨⟨nit, fit.2⟩, by rw [h3, Heap.size_push]; exact Nat.lt_succ_of_lt lit⟩
  have st3 : s3.heap.IsListIter it a 0 := by rw [h3]; exact st2.at fun o e => Heap.get?_push_of_some _ e
  have I4 := block_start I3 ok hN f3
  have hotB : ∀ {ce : Env} {pins' σ' H' s'}, Inv (X.blk s3 (upd H2 D (.lst [])) scope ce [it]) pins' σ' H' s' → HotAt X.A x1 s'.heap := fun {ce pins' σ' H' s'} J => HS.blk I3 (fun b hb => (f3 b hb).1) J
  have pg := hg s3 (upd H2 D (.lst [])) s3.heap.objs.size (cellsFrom (s3.heap.objs.size + 1) scope.names (cloFrom X.env.cells scope.names [])) [it] fun _ _ _ _ J => hotB J
  have pt := ht s3 (upd H2 D (.lst [])) s3.heap.objs.size (cellsFrom (s3.heap.objs.size + 1) scope.names (cloFrom X.env.cells scope.names [])) [it]
  have pe := he s3 (upd H2 D (.lst [])) s3.heap.objs.size (cellsFrom (s3.heap.objs.size + 1) scope.names (cloFrom X.env.cells scope.names [])) [it]
  show codeAny _ _ (.compStart (.ListComp elt [⟨tg, iter, ifs, 0⟩] scope pos) 0 (.ref it) (.ref D) (compEnvC scope (cellsFrom (s3.heap.objs.size + 1) scope.names (cloFrom X.env.cells scope.names [])) s3.heap.objs.size X.env)) (compPost (model X.prog X.w) X.A X.xe use Qf (.ref D) s3.heap.objs.size) { s3 with heap := pushCells (s3.heap.push { cls := .type "dict", data := .dict #[] }) scope.names }
  generalize hce : compEnvC scope (cellsFrom (s3.heap.objs.size + 1) scope.names (cloFrom X.env.cells scope.names [])) s3.heap.objs.size X.env = ce at I4 pg pt pe ⊢
  have cL : ce.locals = s3.heap.objs.size := by subst hce; rfl
  generalize hH3 : upd H2 D (.lst []) = H3 at I3 I4 pg pt pe w0 nit f3 hotB
  generalize hs4 : ({ s3 with heap := pushCells (s3.heap.push { cls := .type "dict", data := .dict #[] }) scope.names } : Shared) = s4 at I4 ⊢
  have st4 : s4.heap.IsListIter it a 0 := st3.at fun o e => by rw [← hs4]; exact pushCells_keeps _ _ _ _ (Heap.get?_push_of_some _ e)
  have stat : ∀ {σ' : Sg} {H' : Hp} {s' : Shared}, Inv (X.blk s3 H3 scope ce [it]) [] σ' H' s' → H' it = none → FpOk (X.blk s3 H3 scope ce [it]) [] H' it := fun {σ' H' s'} J hn => by
    have hm : it ∈ [it] := List.mem_singleton.mpr rfl
    exact ⟨hn, (J.ok.exf it hm).1, J.ok.exfs it hm, .inl hm, fun x c e => (J.ok.exf it hm).2 x c e, fun p hp => absurd (show p ∈ ([] : List (Addr × Obj)) ++ [] from hp) (by simp)⟩
  have loop : codeAny (model X.prog X.w) X.A (.compLoop (.ListComp elt [⟨tg, iter, ifs, 0⟩] scope pos) 0 (.ref it) (.ref D) ce) (compPost (model X.prog X.w) X.A X.xe use Qf (.ref D) s3.heap.objs.size) s4 := by
    refine compLoop_any (fun n s' => ∃ i H', Inv (X.blk s3 H3 scope ce [it]) [] (wipe σ (own.map (·.2))) H' s' ∧ s'.heap.IsListIter it a i ∧ H' it = none ∧ W i n H') ?_ m0 ⟨0, H3, I4, st4, nit, w0⟩
    rintro n s5 ⟨i, H5, I5, st5, n5, w5⟩
    have fx := stat I5 n5
    rcases turn i n H5 w5 with ⟨⟨xs, hq, hi⟩, qq⟩ | ⟨⟨xs, x, hq, hi⟩, Nx, hNx, step⟩
    · obtain ⟨us, rv, p, _⟩ := I5.list hq
      have hl := rv.length
      refine list_end_hot (hotB I5) st5 p.isList (by simp; omega) fun h' eb => ?_
      have I6 : Inv (X.blk s3 H3 scope ce [it]) [] (wipe σ (own.map (·.2))) H5 { s5 with heap := h' } := I5.turned (t' := s5.toks) (fun b o hb e => eb b o hb e) fx.1 fx.2.1 fx.2.2.2.1 fx.2.2.2.2.1 fx.2.2.2.2.2
      have I7 : Inv X pins σ H5 { s5 with heap := h' } := I3.call' (ch := [it]) I6.os I6.base I6.hok I6.bare fun b hb => ⟨(f3 b hb).1.2.2.2.1, (f3 b hb).1.2.1, (f3 b hb).1.2.2.2.2.1, (f3 b hb).1.2.2.2.2.2⟩
      have nC : H5 s3.heap.objs.size = none := by have z : H5 ce.locals = none := I6.free; rw [cL] at z; exact z
      obtain ⟨m, hn, _⟩ := I6.loc
      have hn2 : Heap.Ns h' ce.locals m := hn
      rw [cL] at hn2
      exact hRR D s3.heap.objs.size { s5 with heap := h' } m H5 I7 qq hn2 (I3.fpOk (Nat.le_refl _) nC)
    · obtain ⟨us, rv, p, _⟩ := I5.list hq
      obtain ⟨u, hu, ru⟩ := rv.get hi
      refine wpAny_pyNext_list_item st5 p.isList (x := u) (by simpa using hu) fun h' st6 sb => ?_
      have I6 : Inv (X.blk s3 H3 scope ce [it]) [] (wipe σ (own.map (·.2))) H5 { s5 with heap := h' } := I5.turned (t' := s5.toks) (fun b o hb e => (sb.2 b hb).trans e) fx.1 fx.2.1 fx.2.2.2.1 fx.2.2.2.2.1 fx.2.2.2.2.2
      obtain ⟨oi, ei, ci, di⟩ := id st6
      refine go_of (s := { s5 with heap := h' }) ei ci di (by decide) ?_
      have hfps : ∀ b ∈ [it], FpOk (X.blk s3 H3 scope ce [it]) [] H5 b := fun b hb => by rw [List.mem_singleton.mp hb]; exact fx
      have hobj : ∀ b ∈ [it], ∃ o, h'.get? b = some o ∧ ∀ v, o.data ≠ .cell v := fun b hb => by rw [List.mem_singleton.mp hb]; exact ⟨oi, ei, fun v z => by rw [di] at z; cases z⟩
      have I7 := I6.pinned hfps hobj
      refine thnF (pg.run _ _ _ H5 x u _ I7 ru (step x H5 ⟨rfl, fun ys hy => by rw [I5.list_inj hy hq]; exact hi⟩)) fun _ s8 z8 => ?_
      obtain ⟨σ8, H8, I8, hw8, q8⟩ := z8
      refine thnF (pt.run _ s8 σ8 H8 _ I8 q8) fun b s9 z9 => ?_
      obtain ⟨H9, I9, q9⟩ := z9
      have fin : ∀ {s' : Shared} {H' : Hp}, Inv (X.blk s3 H3 scope ce [it]) ([] ++ pinsAt [it] h') σ8 H' s' → Nx H' → ∃ m, m < n ∧ ∃ i H', Inv (X.blk s3 H3 scope ce [it]) [] (wipe σ (own.map (·.2))) H' s' ∧ s'.heap.IsListIter it a i ∧ H' it = none ∧ W i m H' := fun {s' H'} J nx => by
        obtain ⟨m', hm, w'⟩ := hNx H' nx
        have pin := J.pin (it, oi) (List.mem_append_right _ (List.mem_append_right _ (mem_pinsAt (List.mem_singleton.mpr rfl) ei)))
        have hlen : (wipe σ (own.map (·.2))).length = σ8.length := by rw [← hw8, wipe_length]
        refine ⟨m', hm, i + 1, H', (J.unpinned (pins := [])).weak hlen (fun j v e => ?_), st6.at fun o e => ?_, pin.2.1, w'⟩
        · rw [← hw8] at e; exact (wipe_some e).1
        · have e' : some oi = some o := ei.symm.trans e
          cases e'; exact pin.1
      cases b with
      | false => simp only [Bool.false_eq_true, if_false] at q9 ⊢; exact fin I9 q9
      | true =>
        simp only [if_true] at q9 ⊢
        refine thnF (pe.run _ s9 σ8 H9 _ I9 q9) fun z s10 z10 => ?_
        obtain ⟨yv, H10, I10, r10, acc, hD10, hz10, nx⟩ := z10
        exact app_ok (X := X.blk s3 H3 scope ce [it]) I10 hD10 hz10 r10 fun s11 I11 => fin I11 nx
  exact codeAny_compStart_list loop (wpAny_pyIter_listiter st4 loop)
/-- .. as a value -/
theorem pe_lcH {elt tg iter : Expr} {ifs : List Expr} {scope : Scope} {own : List (Str × Nat)} {pos : Pos} {tl : TE} {g : TG} {tt : TT} {te : TE} (hh : ∀ pins σ H s, Inv X pins σ H s → HotS X x1) (hN : X.N.Nodup) (hl : PE X iter tl) (ok : BlkOk X.N X.env.scope scope own)
    (hg : ∀ (s : Shared) (H : Hp) (C : Addr) (cl : List (Str × Addr)) (fp : List Addr), (∀ pins σ H' s', Inv (X.blk s H scope (compEnvC scope cl C X.env) fp) pins σ H' s' → HotAt X.A x1 s'.heap) → PG (X.blk s H scope (compEnvC scope cl C X.env) fp) tg g)
    (ht : ∀ (s : Shared) (H : Hp) (C : Addr) (cl : List (Str × Addr)) (fp : List Addr), PTs (X.blk s H scope (compEnvC scope cl C X.env) fp) ifs tt)
    (he : ∀ (s : Shared) (H : Hp) (C : Addr) (cl : List (Str × Addr)) (fp : List Addr), PE (X.blk s H scope (compEnvC scope cl C X.env) fp) elt te) (hs : ∀ x, foldedSetIterable iter X.env x = pure x := by intro _; rfl) :
    PE X (.ListComp elt [⟨tg, iter, ifs, 0⟩] scope pos) (tLc (iList X.K tl) g tt te (own.map (·.2))) := ⟨fun pins s σ H Q I h => by
  rw [eval_ListComp]
  refine lcH_core I (hh _ _ _ _ I) hN hl ok hg ht he hs h fun L C s' m H' J q hn f => ⟨m, hn, fun h'' sb => ?_⟩
  exact ⟨.ref L, H', J.turned (t' := s'.toks) (fun b o hb e => (sb.2 b hb).trans e) f.1 f.2.1 f.2.2.2.1 f.2.2.2.2.1 f.2.2.2.2.2, rfl, q⟩⟩
/-- .. to a local name, on one line -/
theorem ps_setLcH {i : Nat} {y : Str} {py : Pos} {elt tg iter : Expr} {ifs : List Expr} {scope : Scope} {own : List (Str × Nat)} {pos spos : Pos} {tl : TE} {g : TG} {tt : TT} {te : TE} (hh : ∀ pins σ H s, Inv X pins σ H s → HotS X x1) (hN : X.N.Nodup) (hy : X.N[i]? = some y) (hyl : X.env.scope.names.lookup y = some .local)
    (hsw : swapsWith (.ListComp elt [⟨tg, iter, ifs, 0⟩] scope pos) (some (.Name y py)) spos.line X.env = pure true) (hl : PE X iter tl) (ok : BlkOk X.N X.env.scope scope own)
    (hg : ∀ (s : Shared) (H : Hp) (C : Addr) (cl : List (Str × Addr)) (fp : List Addr), (∀ pins σ H' s', Inv (X.blk s H scope (compEnvC scope cl C X.env) fp) pins σ H' s' → HotAt X.A x1 s'.heap) → PG (X.blk s H scope (compEnvC scope cl C X.env) fp) tg g)
    (ht : ∀ (s : Shared) (H : Hp) (C : Addr) (cl : List (Str × Addr)) (fp : List Addr), PTs (X.blk s H scope (compEnvC scope cl C X.env) fp) ifs tt)
    (he : ∀ (s : Shared) (H : Hp) (C : Addr) (cl : List (Str × Addr)) (fp : List Addr), PE (X.blk s H scope (compEnvC scope cl C X.env) fp) elt te) (hs : ∀ x, foldedSetIterable iter X.env x = pure x := by intro _; rfl) :
    PS X (.Assign [.Name y py] (.ListComp elt [⟨tg, iter, ifs, 0⟩] scope pos) spos) (tAsg (tLc (iList X.K tl) g tt te (own.map (·.2))) (gName i)) := ⟨fun pins s σ H Dn I h => by
  rw [exec_Assign_Name_used _ _ _ _ hsw]; refine wpAny_bind (wpAny_standAt (wpAny_bind ?_))
  show wpAny _ X.A (comprehension (.ListComp elt [⟨tg, iter, ifs, 0⟩] scope pos) scope X.env (firstIterPos [⟨tg, iter, ifs, 0⟩] pos) (newList []) false (eval iter X.env) (some (assign (.Name y py) X.env)) >>= fun _ => pure ()) _ _ s
  have h2 : tLc (iList X.K tl) g tt te (own.map (·.2)) σ H (fun x H1 => gName i x σ H1 Dn.nx) := h
  refine wpAny_bind (thn (lcH_core (Qf := fun _ s' => SP X pins Dn .next s') I (hh _ _ _ _ I) hN hl ok hg ht he hs h2 fun L C s' m H' J q hn f => ?_) fun _ s' hq => wpAny_pure (wpAny_pure hq))
  show wpAny _ _ (assign (.Name y py) X.env (.ref L)) _ _ _
  refine wpAny_assign_Name (store_ok2 (v := V.ref L) J hN hy (.inl hyl) rfl (fun s2 J2 z => ?_) (.inr hyl))
  obtain ⟨a, sb, ha⟩ := z
  have haC : C ≠ a := ha.elim (fun z => by rw [z]; exact f.2.1) fun z => fun e => f.2.2.2.2.1 y a z e.symm
  refine ⟨m, hn.sameBut sb haC, fun h3 sb3 => ⟨_, H', J2.turned (t' := s2.toks) (fun b o hb e => (sb3.2 b hb).trans e) f.1 f.2.1 f.2.2.2.1 f.2.2.2.2.1 f.2.2.2.2.2, q⟩⟩⟩
end
end Vs
/-! Vs: a lambda without parameters handed to a def that calls it. -/
namespace Vs
open PySem PySem.Spec PyProof.Rows L2 LamX NdefX

def nT (T : List (Addr × Str)) : List NTab := T.map fun p => (p.1, fun _ _ => p.2)
theorem tabs_nT {T : List (Addr × Str)} {H : Hp} : TabsN (nT T) H ↔ Tabs T H := by
  constructor
  · intro h p hp
    exact h (p.1, fun _ _ => p.2) (List.mem_map.mpr ⟨p, hp, rfl⟩)
  · intro h p hp
    obtain ⟨q, hq, rfl⟩ := List.mem_map.mp hp
    exact h q hq
section
variable {X : Cx} {pins : List (Addr × Obj)} {σ : L2.St} {H HZ : Hp} {s s1 : Shared}
/-- LamX.lam_make2, and no address is let go -/
theorem lam_make3 {T : List (Addr × Str)} {c P : Addr} {params : Arguments} {body : Expr} {scope : Scope} {pos : Pos} {E : Value → Shared → Prop} {Q : Value → Shared → Prop} (I : Inv X pins σ H s) (TB : TabB X.base X.mg c P) (hcode : X.env.code = .ref c)
    (hm : (P, X.env.qual ++ "<lambda>") ∈ T) (hu : ∀ p ∈ T, p.1 = P → p.2 = X.env.qual ++ "<lambda>") (hT : Tabs T H) (hdef : defaultsOf params X.env = ([], [])) (hfree : ∀ y ∈ scope.names, y.2 = .free → ∃ c, X.env.cells.lookup y.1 = some c)
    (h : ∀ (f c' : Addr) (pm ctv : Value) (H1 : Hp) (s' : Shared), Inv X pins σ H1 s' → ExtN H H1 → (∀ b, H1 b = none → H b = none) → Tabs T H1 →
      s'.heap.get? f = some (PySem.W.kla_obj "<lambda>" (X.env.qual ++ "<lambda>") params body scope (cloFrom X.env.cells scope.names []) pm c' ctv) → H1 f = none → f ∉ frs X.stack → H1 c' = some (CodeO c' (X.env.qual ++ "<lambda>")) → Q (.ref f) s') :
    wpAny (model X.prog X.w) X.A (eval (.Lambda params body scope pos) X.env) Q E s := by
  obtain ⟨ps, hP, ht, ha⟩ := hT _ hm; refine PySem.W.kla_eval hdef ?_
  have bP : s.heap.BuiltinsAt X.mg P := TB.bm.keeps I.bk; have hP' : s.heap.get? P = some { cls := .none, data := .fields ps } := I.hok P _ hP
  have nofr : ∀ f, s.heap.objs.size ≤ f → f ∉ frs X.stack := fun f hf z => (List.mem_cons.mp (I.stkSub _ z)).elim (fun e => Nat.lt_irrefl _ (Nat.lt_of_lt_of_le (by have h1 := I.lt; rw [← e] at h1; exact h1) hf)) fun e => I.nofs hf e
  cases hc : codeAmong pos ps.toList with
  | none =>
    refine PySem.W.kla_makeFunction (mg := X.mg) (c := c) (P := P) (ps := ps) (closure_ok hfree) I.ok.glob (I.mod.glob.keeps I.bk) hcode (TB.code.keeps I.bk) hP' ht hc TB.gP bP fun c' ctv h' tk hx hge hlt hrec htb => ?_
    obtain ⟨c2, oc, vs, t, e2, hoc, hd, hv⟩ := hrec
    cases e2
    have hsz : s.heap.objs.size ≤ h'.objs.size := Nat.le_trans hge (Nat.le_of_lt hlt)
    have nC : H c' = none := I.hok.fresh hge; have nPc : P ≠ c' := ne_of_none hP nC
    generalize hr : #[rawInt pos.line, rawInt pos.col, Value.ref c'] = r at htb
    have I1 := inv_table (t' := tk) (more := r) (h' := h'.push (PySem.W.kla_obj "<lambda>" (X.env.qual ++ "<lambda>") params body scope (cloFrom X.env.cells scope.names []) ((X.mg "__name__").getD .none) c' ctv)) I hP (fun b o hb e => Heap.get?_push_of_some _ (hx b o hb e)) (Heap.get?_push_of_some _ htb) hge ⟨oc, vs, t, Heap.get?_push_of_some _ hoc, hd, hv⟩
    have eP : ∀ b o, H b = some o → (∀ qs, o ≠ .tbl qs) → b ≠ P := fun b o e n z => by rw [z, hP] at e; exact n ps (Option.some.inj e).symm
    have hE : ExtN H (upd (upd H P (.tbl (ps ++ r))) c' (CodeO c' (X.env.qual ++ "<lambda>"))) := fun b o e n => by rw [upd_ne (ne_of_none e nC), upd_ne (eP b o e n)]; exact e
    have hD : ∀ b, upd (upd H P (.tbl (ps ++ r))) c' (CodeO c' (X.env.qual ++ "<lambda>")) b = none → H b = none := fun b e => by
      by_cases h1 : b = c'
      · subst h1; exact nC
      · rw [upd_ne h1] at e
        by_cases h2 : b = P
        · subst h2; rw [upd_same] at e; cases e
        · rw [upd_ne h2] at e; exact e
    have eL : (ps ++ r).toList = ps.toList ++ [rawInt pos.line, rawInt pos.col, .ref c'] := by rw [← hr]; simp
    refine h h'.objs.size c' ((X.mg "__name__").getD .none) ctv _ _ I1 hE hD (fun p hp => ?_) (Heap.get?_push_size _ rfl) ?_ (nofr _ hsz) upd_same
    · by_cases hb : p.1 = P
      · rw [hu p hp hb, hb]
        refine ⟨ps ++ r, by rw [upd_ne nPc, upd_same], by rw [eL]; exact PySem.TriplesOk_snoc _ _ _ _ ht, fun p' cv hcv => ?_⟩
        rw [eL] at hcv
        exact (among_app _ ht hcv).elim (fun z => by obtain ⟨c0, e1, e2⟩ := ha p' cv z; exact ⟨c0, e1, hE _ _ e2 codeO_ne⟩) fun z => ⟨c', z, upd_same⟩
      · obtain ⟨ps', a1, a2, a3⟩ := hT p hp
        refine ⟨ps', by rw [upd_ne (ne_of_none a1 nC), upd_ne hb]; exact a1, a2, fun p' cv hcv => ?_⟩
        obtain ⟨c0, e1, e2⟩ := a3 p' cv hcv; exact ⟨c0, e1, hE _ _ e2 codeO_ne⟩
    · rw [upd_ne (Nat.ne_of_gt hlt), upd_ne (Nat.ne_of_gt (Nat.lt_of_lt_of_le (Heap.lt_size hP') hsz))]; exact I.hok.fresh hsz
  | some cv =>
    obtain ⟨c', rfl, hco⟩ := ha pos cv hc
    refine PySem.W.kla_makeFunctionHit (mg := X.mg) (c := c) (P := P) (ps := ps) (closure_ok hfree) I.ok.glob (I.mod.glob.keeps I.bk) hcode (TB.code.keeps I.bk) hP' ht hc bP fun ctv h' tk hx hsz => ?_
    exact h h'.objs.size c' ((X.mg "__name__").getD .none) ctv H _ (I.kept (t' := tk) fun b o e => Heap.get?_push_of_some _ (hx b o e)) (ExtN.refl H) (fun b e => e) hT (Heap.get?_push_size _ rfl) (I.hok.fresh hsz) (nofr _ hsz) hco
/-- LamX.lamCx, its exceptions with context None -/
def lamCxN (X : Cx) (A : Around) (outer : List Env) (s : Shared) (H : Hp) (E : XK) (scope : Scope) (f c' : Addr) : Cx :=
  { lamCx X A outer s H E scope f c' with xe := fun e s' => wpAny (model X.prog X.w) (A.deeper (lamEnv X scope s.heap.objs.size f c')) (leaving (lamEnv X scope s.heap.objs.size f c') e) (fun _ s'' => L2N.CX X.prog X.w outer H s E e s'') (fun e' s'' => L2N.CX X.prog X.w outer H s E e' s'') s' }
theorem lam_inv {A : Around} {outer : List Env} {E : XK} {scope : Scope} {f c' : Addr} {pins : List (Addr × Obj)} {σ : Sg} (I : Inv (lamCx X A outer s1 HZ E scope f c') pins σ H s) : Inv (lamCxN X A outer s1 HZ E scope f c') pins σ H s := I.wish _
theorem lam_tk {A : Around} {outer : List Env} {E : XK} {scope : Scope} {f c' : Addr} : L2N.Takes (lamCxN X A outer s1 HZ E scope f c') (fun cls d _ H => E cls d H) := L2N.takes_of rfl rfl rfl rfl
theorem hxLam {A : Around} {outer : List Env} {E : XK} {scope : Scope} {f c' : Addr} : Passes (L2N.CX (lamCxN X A outer s1 HZ E scope f c').prog (lamCxN X A outer s1 HZ E scope f c').w) (lamCxN X A outer s1 HZ E scope f c') E := L2N.passes_call lam_tk fun _ _ _ _ h => h
/-- x(), in the def that got the lambda -/
theorem pe_actN {CXg : CXT} {Eg : XK} {Ng : List Str} {qg : Str} {sg : Scope} {g f c' : Addr} {cdg pm ctv : Value} {params : Arguments} {body : Expr} {scope : Scope} {k i : Nat} {a : Str} {pn : List (Addr × Obj)} {xe : Value → Shared → Prop} {W : WX} {tb : XK → TE} {p1 p2 : Pos}
    (I : Inv X pins σ H s) (L : LamS X.env.scope scope) (hf : s.heap.get? f = some (PySem.W.kla_obj "<lambda>" (X.env.qual ++ "<lambda>") params body scope (cloFrom X.env.cells scope.names []) pm c' ctv)) (hfn : H f = none) (hfr : f ∉ frs X.stack)
    (hbind : bindArgs (PySem.W.kla_fn "<lambda>" (X.env.qual ++ "<lambda>") params body scope (cloFrom X.env.cells scope.names []) pm (.ref c') ctv) ⟨[], []⟩ = pure [])
    (tk : L2N.Takes ((cxOf CXg X.prog X.w X.K X.mg X.base Ng qg sg g cdg X.A X.stack s H Eg).tr pn xe) W) (hr : Room (k + 1) (X.A.deeper (envOfC qg sg s.heap.objs.size g cdg)))
    (hbody : ∀ (E : XK) (A : Around) (outer : List Env) (s : Shared) (H : Hp), Room k (A.deeper (lamEnv X scope s.heap.objs.size f c')) → PE (lamCxN X A outer s H E scope f c') body (tb E))
    (hN : Ng[i]? = some a) (hv : Vis sg a) (hd : (a == ("__debug__" : Str)) = false := by decide) (hcd : (a == ("__classdict__" : Str)) = false := by decide) :
    PE ((cxOf CXg X.prog X.w X.K X.mg X.base Ng qg sg g cdg X.A X.stack s H Eg).tr pn xe) (.Call (.Name a p1) [] [] p2)
      (fun σZ HZ Q => σZ[i]? = some (some (.ref f)) ∧ HZ c' = some (CodeO c' (X.env.qual ++ "<lambda>")) ∧ tb (fun cls d H' => W cls d σZ H') σ HZ Q) := ⟨fun pinsZ sZ σZ HZ Q IZ h => by
  obtain ⟨hs, hc, ht⟩ := h
  refine wpAny_Call_Name_kw (thn ((pe_var (pos := p1) (i := i) hN hv hd hcd).run pinsZ sZ σZ HZ (fun v H1 => v = .ref f ∧ H1 = HZ) IZ ⟨.ref f, hs, rfl, rfl⟩) fun u s1 z => ?_)
  obtain ⟨v, H1, I1, r1, rfl, rfl⟩ := z
  have eu : u = Value.ref f := r1
  subst eu
  have of1 : s1.heap.get? f = some (PySem.W.kla_obj "<lambda>" (X.env.qual ++ "<lambda>") params body scope (cloFrom X.env.cells scope.names []) pm c' ctv) := I1.base.keep f _ hf hfn hfr (fun z => nomatch (show f ∈ ([] : List Addr) from z))
  refine PySem.W.callWith_F0 ⟨_, _, _, _, of1⟩ ?_
  have un : Un (frs X.stack) [] H H1 s.heap s1.heap := I1.base
  obtain ⟨⟨oc, vs, t, hoc, hdc, hvc⟩, _, _⟩ := I1.hok c' _ hc
  have rc : codeAny (model X.prog X.w) (X.A.deeper (envOfC qg sg s.heap.objs.size g cdg)) (.call (.ref f) ⟨[], []⟩) (CR (L2N.CX X.prog X.w) (envOfC qg sg s.heap.objs.size g cdg :: X.stack) X.prog X.w H1 s1 Q fun cls d H' => W cls d σZ H') s1 := by
    refine PySem.W.kla_callFunE hr.depth of1 rfl L.co L.gen rfl ⟨c', oc, vs, t, rfl, hoc, hdc, hvc⟩ ?_
    rw [hbind]; refine wpAny_pure (wpAny_newFunctionEnv (fun y hy => (L.own y hy).2) (fun y hy => absurd hy (by simp)) (fun h₁ hns hsb => ⟨I1.nolimit.fresh _ hsb, ?_⟩) L.kind)
    show codeAny _ _ (.expr body (lamEnv X scope s1.heap.objs.size f c')) _ _
    have kp : ∀ b o, s1.heap.get? b = some o → h₁.get? b = some o := fun b o e => hsb.extBut b o (Nat.ne_of_lt (Heap.lt_size e)) (Heap.get?_push_of_some _ e)
    have J := lam_inv (lam_start2 (E := fun cls d H' => W cls d σZ H') (f := f) (c' := c') (tk := s1.toks + ([] : List (Str × Value)).length) I L I1.env0 hr.hd un hns kp)
    refine PySem.W.kla_codeExpr (wpAny_mono ((hbody _ _ _ s1 H1 (hr.deeper _)).run [] _ _ H1 Q J ht) (fun v s' hq => ?_) fun e s' hq => hq)
    obtain ⟨w', H', J', rv, q⟩ := hq; exact ⟨w', H', J'.os, J'.bare, J'.base, J'.hok, rv, q⟩
  refine wpAny_call (codeAny_mono rc fun r s' hq => ?_)
  cases r with
  | error e => exact L2N.passAt tk σZ pinsZ H1 s1 e s' I1 hq
  | ok fl =>
    cases fl with
    | ret u => exact I1.after hq
    | next => exact False.elim hq
    | brk => exact False.elim hq
    | cont => exact False.elim hq⟩
end
end Vs
/-! Vs: x(..) of a local that holds a def; isinstance of a caught exception; f(lambda: e), f telling what e raises. -/
namespace Vs
open PySem PySem.Spec PyProof.Rows L2 LamX NdefX HotX

/-- the defs that a local may hold -/
def KnownV (P : Program) (w : World) (K : PySem.W.Frag) (mg : Str → Option Value) (base : Heap) (T : List NTab) (k n : Nat) (fn : Addr → Option (List D → Rc)) : Prop := ∀ a r, fn a = some r →
  ∃ (fd : FuncData) (ps : List Str), PySem.W.keepIn K (.ref a) = true ∧ Binds K fd ps [] ∧ FnOk P w K mg base (L2N.CX P w) k a fd ps (spP K T n r)
def clV (i : Nat) (fn : Addr → Option (List D → Rc)) (fs : M (List D)) : M D := bnd (vP i) fun x => match x with
  | .ref a => (match fn a with
    | some r => cl r fs
    | none => bad)
  | _ => bad
section
variable {X : Cx} {G : Gx} {x : Str} {i j k n : Nat} {p pos : Pos} {e : Expr} {es : List Expr} {fs : List (M D)}
theorem ie_callV {fn : Addr → Option (List D → Rc)} (V : KnownV X.prog X.w X.K X.mg X.base G.T j n fn) (hr : Room k X.A) (hN : X.N[i]? = some x) (hv : Vis X.env.scope x) (hx : Passes (L2N.CX X.prog X.w) X G.E) (ha : PA X (e :: es) (LA X.K G (args fs))) (hj : j ≤ k := by decide) (hn : fs.length = n := by rfl)
    (hdb : (x == ("__debug__" : Str)) = false := by decide) (hcd : (x == ("__classdict__" : Str)) = false := by decide) (he : starEach (e :: es) X.env = (false, eval e X.env) :: starEach es X.env := by rfl) (hpl : (backTo pos (starEach es X.env)).any (·.1) = false := by rfl) :
    PE X (.Call (.Name x p) (e :: es) [] pos) (LE X.K G (clV i fn (args fs))) := ⟨fun pins s σ H Q I h => by
  obtain ⟨F, ev, R, q⟩ := h
  unfold clV at q
  have key : ∃ a r, ev[i]? = some (.sh (.ref a)) ∧ fn a = some r ∧ Go X.K G σ F (cl r (args fs) ev) fun F' _ d H' => ∀ v, Rl X.K F' d v → Q v H' := by
    unfold bnd vP at q
    cases es : ev[i]? with
    | none => rw [es] at q; exact q.elim
    | some t =>
      rw [es] at q
      cases t with
      | no => exact q.elim
      | ol ds => exact q.elim
      | io ds => exact q.elim
      | sh d =>
        dsimp only at q
        cases d <;> first | exact q.elim | skip
        rename_i a
        cases ef : fn a with
        | none => dsimp only at q; rw [ef] at q; exact q.elim
        | some r => dsimp only at q; rw [ef] at q; exact ⟨a, r, rfl, ef, q⟩
  obtain ⟨a, r, hs, hf, q⟩ := key
  obtain ⟨fd, ps, hk, hb, F1⟩ := V a r hf
  obtain ⟨v, h1, h2⟩ := R.slot i _ hs
  simp only [Rl] at h2
  subst h2
  refine (pe_callL (i := i) (E := G.E) (dvs := []) (ds := []) F1 (hr.mono hj) hN hv hk hb .nil hx ha hdb hcd he hpl).run pins s σ H Q I ⟨h1, ?_⟩
  exact call_ok (fun R r => r) (fun ev ds ev' z => (args_len z).trans hn) ⟨F, ev, R, q⟩⟩
end

/-! ### isinstance(error, C) in the suite -/
def xdAt (H : Hp) (d : Option Addr) : Prop := d = none ∨ ∃ dd gs, d = some dd ∧ H dd = some (.xd gs)
theorem nt_xd {gs : List (Str × V)} : Nt (.xd gs) := fun ps z => by cases z
def rIsX (K : PySem.W.Frag) (D a : Addr) (d : Option Addr) : List V → Hp → VK → Prop := fun xs H Q => ∃ (c : V) (cv : Value) (b : Bool), xs = [.ref a, c] ∧ (∀ u, RelV c u → u = cv) ∧ PySem.W.kitOne K (.ref D) cv = some b ∧ xdAt H d ∧ Q (.bl b) H
theorem call_isX {X : Cx} {a D : Addr} {oe : Obj} {d : Option Addr} {pn : List (Addr × Obj)} (C : ExcC X.K D) (hz : Zc (.ref D) d oe) (hf : ∃ vs, oe.data = .fields vs) : CallR (X.suite a ((a, oe) :: pn)) (.builtin "isinstance") (rIsX X.K D a d) := by
  intro pins s σ H xs us Q I r h
  obtain ⟨c, cv, b, rfl, hcv, e, hd, q⟩ := h
  cases r with
  | cons rx rr => cases rr with
    | cons rt rr =>
      cases rr
      cases rx
      have ec := hcv _ rt
      subst ec
      obtain ⟨hget, _⟩ := I.pin (a, oe) (List.mem_append_left _ (List.mem_cons_self ..))
      obtain ⟨vs, hv⟩ := hf
      have J : ∃ od, PySem.W.InstAt s.heap a oe D od := by
        obtain ⟨oc, od, oda, osl⟩ := oe
        obtain ⟨h1, h2⟩ := hz
        dsimp only at h1 h2 hv
        subst h1 h2 hv
        rcases hd with rfl | ⟨dd, gs, rfl, hg⟩
        · exact ⟨none, hget, rfl, rfl, trivial⟩
        · obtain ⟨mA, ⟨o, es, ep, e1, _⟩, _⟩ := I.hok dd _ hg
          exact ⟨some o, hget, rfl, rfl, e1⟩
      obtain ⟨od, J⟩ := J
      have hcl : (PySem.W.clsIn X.K D).isSome = true := by
        obtain ⟨cd, hc, _⟩ := PySem.W.any_some C.hd
        rw [hc]; rfl
      exact PySem.W.kia_one (PySem.W.kitx_exc hcl C.hg C.hk C.hs C.ha C.hn C.ht C.hm) I.kIn J e (fun z => nomatch z) fun tk => ⟨.bl b, H, I.kept (t' := tk) fun _ _ z => z, rfl, q⟩
/-- the slot i holds the exception at a, of the class D -/
def isE (K : PySem.W.Frag) (ok : List Addr) (D a : Addr) (i : Nat) (cv : Value) : M Vs.D := if D ∈ ok then bnd (vP i) fun x => match x with
  | .ref b => if b = a then opt ((PySem.W.kitOne K (.ref D) cv).map .bl) else bad
  | _ => bad else bad
section
variable {X : Cx} {G : Gx} {i : Nat} {a D : Addr} {oe : Obj} {d : Option Addr} {pn : List (Addr × Obj)} {p pos : Pos} {e1 e2 : Expr} {c : V} {cv : Value}
theorem ie_isE {ok : List Addr} (C : ∀ D ∈ ok, ExcC X.K D) (hz : L2N.Zn (.ref D) d oe) (hf : ∃ vs, oe.data = .fields vs) (hd : xdAt G.H0 d) (hio : G.io = []) (hg : Gl (X.suite a ((a, oe) :: pn)) "isinstance") (hm : X.mg "isinstance" = none) (h1 : PE (X.suite a ((a, oe) :: pn)) e1 (tVar i)) (h2 : PE (X.suite a ((a, oe) :: pn)) e2 (tC c)) (hcv : ∀ u, RelV c u → u = cv)
    (hs : starEach (e1 :: [e2]) X.env = (false, eval e1 X.env) :: starEach [e2] X.env := by rfl) (hs2 : starEach (e2 :: []) X.env = (false, eval e2 X.env) :: starEach [] X.env := by rfl) (hpl : (backTo pos (starEach [e2] X.env)).any (·.1) = false := by rfl) :
    PE (X.suite a ((a, oe) :: pn)) (.Call (.Name "isinstance" p) [e1, e2] [] pos) (LE X.K G (isE X.K ok D a i cv)) := by
  by_cases hD : D ∈ ok
  case neg => exact ⟨fun pins s σ H Q I q => by
    obtain ⟨F, ev, R, q⟩ := q
    unfold isE at q
    rw [if_neg hD] at q
    exact q.elim⟩
  exact PE.wk (pe_callB (call_isX (C D hD) hz.zc hf) hg hm bt_isinstance (pa_cons h1 (pa_cons h2 pa_nil hs2) hs) (by decide) (by decide) hs hpl) fun σ H Q q => by
    obtain ⟨F, ev, R, q⟩ := q
    unfold isE at q
    rw [if_pos hD] at q
    unfold bnd vP at q
    cases es : ev[i]? with
    | none => rw [es] at q; exact q.elim
    | some t =>
      rw [es] at q
      cases t with
      | no => exact q.elim
      | ol ds => exact q.elim
      | io ds => exact q.elim
      | sh x =>
        dsimp only at q
        cases x <;> first | exact q.elim | skip
        rename_i b
        obtain ⟨v, h3, h4⟩ := R.slot i _ es
        simp only [Rl] at h4
        subst h4
        have q : Go X.K G σ F ((if b = a then opt ((PySem.W.kitOne X.K (.ref D) cv).map Vs.D.bl) else bad) ev) fun F' _ d H' => ∀ v, Rl X.K F' d v → Q v H' := q
        obtain ⟨hb, q2⟩ := Go.iff q
        subst hb
        obtain ⟨r, h5, q3⟩ := Go.opt q2 R
        obtain ⟨b', h6, rfl⟩ := Option.map_eq_some_iff.mp h5
        refine ⟨_, h3, c, cv, b', rfl, hcv, h6, ?_, q3 _ (by simp only [Rl])⟩
        rcases hd with h | ⟨dd, gs, h, h'⟩
        · exact .inl h
        · exact .inr ⟨dd, gs, h, R.old _ _ h' nt_xd (by rw [hio]; simp)⟩
end
end Vs
/-! Vs: x(lambda: e), where x tells by a text what e raises. -/
namespace Vs
open PySem PySem.Spec PyProof.Rows L2 LamX NdefX HotX

def rtOf : Out → Option D
  | .rt d _ => some d
  | _ => none
open Classical in
/-- what is told whatever the exception's address -/
noncomputable def rtAll (g : Addr → Out) : Option D := if ∀ a, rtOf (g a) = rtOf (g 0) then rtOf (g 0) else none
theorem rtAll_of {g : Addr → Out} {d : D} (h : ∀ a, rtOf (g a) = some d) : rtAll g = some d := by
  unfold rtAll
  rw [if_pos (fun a => (h a).trans (h 0).symm), h 0]
theorem rtAll_at {g : Addr → Out} {d : D} (h : rtAll g = some d) (a : Addr) : ∃ ev, g a = .rt d ev := by
  unfold rtAll at h
  split at h
  · rename_i hc
    have e := (hc a).trans h
    cases q : g a <;> rw [q] at e <;> simp only [rtOf] at e <;> cases e
    exact ⟨_, rfl⟩
  · cases h
def evE (n : Nat) (a : Addr) : Ev := .no :: .sh (.ref a) :: List.replicate n .no
noncomputable def errM (K : PySem.W.Frag) (B : Addr) (lt : Str) (n : Nat) (suite : Addr → Addr → S) (f : M D) : M D := fun ev => match f (lend ev) with
  | .ok _ ev' => .ok (.str lt) (unl ev ev')
  | .ex C _ ev' => if PySem.W.exmOne K (.ref C) (.ref B) = some true then (match rtAll (fun a => suite C a (evE n a)) with
    | some d => .ok d (unl ev ev')
    | none => .bad) else .bad
  | .bad => .bad
def errW (K : PySem.W.Frag) (T : List NTab) (B : Addr) (n : Nat) (suite : Addr → Addr → S) (Q : VK) : XK := fun cls d H' => ∃ C, cls = .ref C ∧ PySem.W.exmOne K (.ref C) (.ref B) = some true ∧ xdAt H' d ∧
  ∃ F' r, Bef T F' H' ∧ rtAll (fun a => suite C a (evE n a)) = some r ∧ ∀ F2 H2 v, Aft T [] F' H' F2 H2 → Rl K F2 r v → Q v H2
/-- the def x: its parameter a is called, what it raises is told -/
structure ErrD (P : Program) (w : World) (K : PySem.W.Frag) (mg : Str → Option Value) (base : Heap) (T : List NTab) (x a : Str) (B : Addr) (lt : Str) (n : Nat) (suite : Addr → Addr → S) : Prop where
  ex : ∃ (g : Addr) (pg : Arguments) (bg : List Stmt) (sg : Scope) (dV kV doc pm cdv ct oc : Value) (an od : Option Addr) (osl : Array (Option Value)) (Ng : List Str), mg x = some (.ref g) ∧ PySem.W.keepIn K (.ref g) = true ∧
    K.lookup g = some ⟨oc, od, .func (PySem.W.fnOf x x pg bg sg dV kV doc pm an cdv ct), osl⟩ ∧ PySem.W.codeIn K cdv x = true ∧ L2.Binds K (PySem.W.fnOf x x pg bg sg dV kV doc pm an cdv ct) [a] [] ∧ FnScope Ng [a] sg ∧ Ng[0]? = some a ∧ Vis sg a ∧
    ∀ (A : Around) (outer : List Env) (f c' : Addr) (s : Shared) (H : Hp) (Q : VK) (q : Str) (tl : XK → Hp → VK → Prop),
      (∀ (W : WX) (pn : List (Addr × Obj)) (xe : Value → Shared → Prop) (p1 p2 : Pos), L2N.Takes ((cxOf (L2N.CX P w) P w K mg base Ng x sg g cdv A outer s H (fun _ _ _ => False)).tr pn xe) W →
        PE ((cxOf (L2N.CX P w) P w K mg base Ng x sg g cdv A outer s H (fun _ _ _ => False)).tr pn xe) (.Call (.Name a p1) [] [] p2) (fun σZ HZ Q => σZ[0]? = some (some (.ref f)) ∧ HZ c' = some (CodeO c' q) ∧ tl (fun cls d H' => W cls d σZ H') HZ Q)) →
      H c' = some (CodeO c' q) → (∀ E : XK, (∀ cls d H', errW K T B n suite Q cls d H' → E cls d H') → tl E H (fun _ H2 => Q (.str lt) H2)) →
      ∃ t, PSs (cxOf (L2N.CX P w) P w K mg base Ng x sg g cdv A outer s H (fun _ _ _ => False)) bg t ∧ t { nx := fun _ H' => Q .non H', rt := Q } (L2.start Ng [.ref f]) H
@[reducible] def gxS (T : List NTab) (F0 H0 : Hp) : Gx := { T := T, F0 := F0, H0 := H0, io := [], E := fun _ _ _ => False }
def tsE (K : PySem.W.Frag) (T : List NTab) (suite : Addr → Addr → S) (a : Addr) (cls : Value) (d : Option Addr) : TS := fun D σ H => ∃ C F0 H0, cls = .ref C ∧ xdAt H0 d ∧ LS K (gxS T F0 H0) (suite C a) D σ H
theorem takesNo {X : Cx} : L2N.Takes X (fun _ _ _ _ => False) := fun _ _ x => by
  obtain ⟨_, _, _, _, _, _, _, _, _, _, _, _, _, _, _, _, z⟩ := x
  exact z.elim
section
variable {P : Program} {w : World} {K : PySem.W.Frag} {mg : Str → Option Value} {base : Heap} {T : List NTab}
/-- try: a() / except B as e: suite / return lt -/
theorem errD_of {x a e nm lt : Str} {g B : Addr} {fd : FuncData} {pg : Arguments} {sg : Scope} {Ng : List Str} {b0 : Stmt} {su : List Stmt} {j n : Nat} {p1 p2 p3 p4 p5 p6 p7 p8 : Pos} {suite : Addr → Addr → S}
    (F : FunD K x x pg [.Try [.Expr (.Call (.Name a p1) [] [] p2) p3] [.ExceptHandler (some (.Name e p4)) (some nm) (b0 :: su) p5] [] [] p6, .Return (some (.Constant (.str lt) j p7)) p8] sg [] [] g fd) (hm : mg x = some (.ref g)) (hb : L2.Binds K fd [a] []) (Sg : FnScope Ng [a] sg) (hNg : Ng[0]? = some a)
    (hva : Vis sg a) (hlen : Ng.length = n + 2) (h1 : Ng[1]? = some nm) (hln : sg.names.lookup nm = some .local) (hge : sg.names.lookup e = some .globalImplicit) (hde : (e == ("__debug__" : Str)) = false) (hme : mg e = some (.ref B))
    (hsw : ∀ (L f : Addr) (cd : Value), swapsWith (.Call (.Name a p1) [] [] p2) none p3.line (envOfC x sg L f cd) = pure false)
    (hsu : ∀ (cdv : Value) (A : Around) (outer : List Env) (s : Shared) (H : Hp) (pn : List (Addr × Obj)) (ex : Addr) (oe : Obj) (C : Addr) (d : Option Addr) (F0 H0 : Hp), L2N.Zn (.ref C) d oe → (∃ vs, oe.data = .fields vs) → xdAt H0 d →
      PSs ((cxOf (L2N.CX P w) P w K mg base Ng x sg g cdv A outer s H (fun _ _ _ => False)).suite ex ((ex, oe) :: pn)) (b0 :: su) (LS K (gxS T F0 H0) (suite C ex))) : ErrD P w K mg base T x a B lt n suite := by
  obtain ⟨oc, od, dV, kV, doc, pm, an, cdv, ct, osl, rfl, lk, hcd, _, _⟩ := F.ex
  refine ⟨g, pg, _, sg, dV, kV, doc, pm, cdv, ct, oc, an, od, osl, Ng, hm, F.kp, lk, hcd, hb, Sg, hNg, hva, fun A outer f c' s H Q q tl act hc htl => ?_⟩
  refine ⟨_, pss_cons (L2N.ps_try_as (X := cxOf (L2N.CX P w) P w K mg base Ng x sg g cdv A outer s H (fun _ _ _ => False)) (i := 1) (c := .ref B) (Wout := fun _ _ _ _ => False) (ts := tsE K T suite)
    (tb := fun W => tDrop fun σZ HZ Q => σZ[0]? = some (some (.ref f)) ∧ HZ c' = some (CodeO c' q) ∧ tl (fun cls d H' => W cls d σZ H') HZ Q) rfl rfl Sg.nd h1 hln ⟨hge, hde, .inl hme⟩ takesNo
    (fun W pn xe tk _ => pss_one (ps_expr (act W pn xe p1 p2 tk) (hsw _ _ _))) fun ex oe cls d pn hz hf => ⟨fun pins s' σ' H' D I q => ?_⟩) (pss_one (ps_ret pe_str)), ?_⟩
  · obtain ⟨C, F0, H0, rfl, hx, q⟩ := q
    exact (hsu cdv A outer s H pn ex oe C d F0 H0 hz hf hx).run pins s' σ' H' D I q
  · refine ⟨?_, hc, htl _ fun cls d H' z => ?_⟩
    · unfold L2.start
      rfl
    · obtain ⟨C, rfl, hexm, hx, F', r, B', hr, k⟩ := z
      refine ⟨true, hexm, fun _ ex hex => ⟨C, F', H', rfl, hx, F', evE n ex, ?_, ?_⟩, fun z => nomatch z⟩
      · have e1 : L2.start Ng [V.ref f] = some (V.ref f) :: none :: List.replicate n none := by
          unfold L2.start
          rw [hlen]
          rfl
        rw [e1]
        refine ⟨B'.sub, B'.nt, fun _ _ z _ _ => z, fun _ z => z, B'.tab, Same.refl _, fun _ _ z => .inl z, by simp [evE], fun i s ei => ?_, fun i j s t b hij e1 e2 o1 o2 _ _ => ?_⟩
        · match i, ei with
          | 0, ei => cases ei; trivial
          | 1, ei => cases ei; exact ⟨V.ref ex, rfl, by simp only [Rl]⟩
          | i + 2, ei =>
            have := rep_at (show (List.replicate n Sl.no)[i]? = some s from ei)
            subst this
            trivial
        · match i, e1 with
          | 0, e1 => cases e1; cases o1
          | 1, e1 => cases e1; cases o1
          | i + 2, e1 =>
            have := rep_at (show (List.replicate n Sl.no)[i]? = some s from e1)
            subst this
            cases o1
      · obtain ⟨ev2, e2⟩ := rtAll_at hr ex
        rw [e2]
        exact fun F2 H2 σ2 v R2 _ rv => k F2 H2 v ⟨R2.sub, R2.nt, R2.tab, R2.f0, R2.old, R2.dom, R2.new⟩ rv
end
theorem Rel.chE {K : PySem.W.Frag} {G : Gx} {F H : Hp} {ev : Ev} {σ : Sg} {E : XK} (R : Rel K G F ev σ H) : Rel K { G with E := E } F ev σ H :=
  ⟨R.sub, R.nt, R.old, R.dom, R.tab, R.f0, R.new, R.len, fun i s e => by
    have q := R.slot i s e
    cases s with
    | no => trivial
    | sh d => exact q
    | ol d => exact q
    | io d => exact q, R.dis⟩
/-- the heap has grown by a code object -/
theorem Rel.grow {K : PySem.W.Frag} {G : Gx} {F H H1 : Hp} {ev : Ev} {σ : Sg} (R : Rel K G F ev σ H) (e : ExtN H H1) (d : ∀ b, H1 b = none → H b = none) (t : TabsN G.T H1) : Rel K G F ev σ H1 where
  sub := fun a o h => e a o (R.sub a o h) (R.nt a o h)
  nt := R.nt
  old := fun a o h n hi => e a o (R.old a o h n hi) n
  dom := fun a h => R.dom a (d a h)
  tab := t
  f0 := R.f0
  new := R.new
  len := R.len
  slot := fun i s h => SlR.heap (R.slot i s h) fun a xs _ _ hx => e a _ hx nt_lst
  dis := R.dis
section
variable {X : Cx} {G : Gx}
theorem ie_err {x a lt : Str} {B c Pt : Addr} {n k : Nat} {T : List (Addr × Str)} {suite : Addr → Addr → S} {params : Arguments} {body : Expr} {scope : Scope} {f : M D} {p lpos pos : Pos} (D : ErrD X.prog X.w X.K X.mg X.base (nT T) x a B lt n suite) (hg : Gl X x) (hGT : G.T = nT T)
    (TB : TabB X.base X.mg c Pt) (hcode : X.env.code = .ref c) (hmT : (Pt, X.env.qual ++ "<lambda>") ∈ T) (hu : ∀ p ∈ T, p.1 = Pt → p.2 = X.env.qual ++ "<lambda>") (hr : Room (k + 2) X.A) (L : LamS X.env.scope scope) (hdef : defaultsOf params X.env = ([], []))
    (hbind : ∀ (q : Str) (cl : List (Str × Addr)) (pm cv ctv : Value), bindArgs (PySem.W.kla_fn "<lambda>" q params body scope cl pm cv ctv) ⟨[], []⟩ = pure [])
    (hbody : ∀ (E : XK) (f' c' : Addr) (A : Around) (outer : List Env) (s : Shared) (H : Hp) (F0 H0 : Hp) (io : List Addr), Room k (A.deeper (lamEnv X scope s.heap.objs.size f' c')) → PE (lamCxN X A outer s H E scope f' c') body (LE X.K { G.sub F0 H0 io with E := E } f))
    (hdb : (x == ("__debug__" : Str)) = false := by decide) (hd : (a == ("__debug__" : Str)) = false := by decide) (hcd : (a == ("__classdict__" : Str)) = false := by decide) :
    PE X (.Call (.Name x p) [.Lambda params body scope lpos] [] pos) (LE X.K G (errM X.K B lt n suite f)) := ⟨fun pins s σ H Q I h => by
  obtain ⟨F, ev, R, q⟩ := h
  obtain ⟨g, pg, bg, sg, dV, kV, doc, pm, cdv, ct, oc, an, od, osl, Ng, hm, hk, lk, hcg, hb, Sg, hNg, hva, hG⟩ := D.ex
  have hT : Tabs T H := tabs_nT.mp (by rw [← hGT]; exact R.tab)
  refine wpAny_Call_Name_kw (ld_glob I hg hm (PySem.W.callWith_K (h₀ := X.base) I.ok.mod.kin hk ?_ (by rfl) (by rfl)) hdb)
  show wpAny _ _ (spliced ((false, eval (.Lambda params body scope lpos) X.env) :: backTo pos (starEach [] X.env))) _ _ s
  refine Calls.spliced_cons (lam_make3 I TB hcode hmT hu hT hdef (L.has I.ok) fun f1 c' pm' ctv H1 s' I1 eN eD T1 hf hfn hfr hco => Calls.spliced_nil ⟨I1.kIn, ?_⟩)
  have R1 : Rel X.K G F ev σ H1 := R.grow eN eD (by rw [hGT]; exact tabs_nT.mpr T1)
  have rc : codeAny (model X.prog X.w) X.A (.call (.ref g) ⟨[.ref f1], []⟩) (CR (L2N.CX X.prog X.w) X.stack X.prog X.w H1 s' Q (fun _ _ _ => False)) s' := by
    refine run_ofS (N := Ng) (ps := [a]) (us := [.ref f1]) (vs := [.ref f1]) lk hcg Sg hr I1.env0 (hb s' [.ref f1] I1.kIn rfl) (.cons rfl .nil) rfl fun hr' => ?_
    refine hG X.A X.stack f1 c' s' H1 Q (X.env.qual ++ "<lambda>") (fun E H' Q' => ∃ F0 H0 io, LE X.K { G.sub F0 H0 io with E := E } f σ H' Q') (fun W pn xe p1 p2 tk => ?_) hco fun E hE => ?_
    · refine pe_actN (i := 0) (tb := fun E σ H' Q' => ∃ F0 H0 io, LE X.K { G.sub F0 H0 io with E := E } f σ H' Q') I1 L hf hfn hfr (hbind _ _ _ _ _) tk hr' (fun E A outer s H hr2 => ⟨fun pins s σ H Q I q => ?_⟩) hNg hva hd hcd
      obtain ⟨F0, H0, io, q⟩ := q
      exact (hbody E f1 c' A outer _ _ F0 H0 io hr2).run pins s σ H Q I q
    · refine ⟨F, H1, ioOf ev σ, F, lend ev, R1.lend.chE, ?_⟩
      unfold errM at q
      cases e : f (lend ev) with
      | bad => rw [e] at q; exact q.elim
      | ok d ev' =>
        rw [e] at q
        exact fun F2 H2 R2 s2 v rv => q F2 H2 (R1.unlend (R2.chE (E := fun _ _ _ => False))) s2 (.str lt) (by simp only [Rl])
      | ex C fs ev' =>
        rw [e] at q
        dsimp only at q
        split at q
        · rename_i hx
          cases er : rtAll (fun a => suite C a (evE n a)) with
          | none => rw [er] at q; exact q.elim
          | some r =>
            rw [er] at q
            intro F2 H2 dd R2 s2 hxo
            have R3 := R1.unlend (R2.chE (E := fun _ _ _ => False))
            refine hE _ _ _ ⟨C, rfl, hx, ?_, F2, r, ⟨R2.sub, R2.nt, by rw [← hGT]; exact R3.tab⟩, er, fun F4 H4 v A rv => ?_⟩
            · unfold ExOk at hxo
              cases fs with
              | nil => exact .inl hxo
              | cons f0 fs => obtain ⟨dx, gs, h1, h2, _⟩ := hxo; exact .inr ⟨dx, gs, h1, h2⟩
            · exact q F4 H4 (R3.after (by rw [hGT]; exact A)) (s2.trans A.f) v rv
        · exact q.elim
  refine wpAny_call (codeAny_mono rc fun r s2 hq => ?_)
  cases r with
  | error e =>
    obtain ⟨_, _, _, _, _, _, _, _, _, _, _, _, z⟩ := hq
    exact z.elim
  | ok fl =>
    cases fl with
    | ret u => exact I1.after hq
    | next => exact False.elim hq
    | brk => exact False.elim hq
    | cont => exact False.elim hq⟩
end
end Vs
/-! Vs: what the printed walks lean on, more. -/
namespace Vs
open PySem PySem.Spec PyProof.Rows L2 LamX NdefX HotX

/-- a def's rule, its code object known -/
theorem okC {P : Program} {w : World} {K : PySem.W.Frag} {mg : Str → Option Value} {base : Heap} {x qual : Str} {params : Arguments} {body : List Stmt} {scope : Scope} {dvs : List V} {kws : List (Str × V)} {f : Addr} {fd : FuncData} {CX : CXT} {N ps : List Str} {k : Nat} {sp : Sp}
    (F : FunD K x qual params body scope dvs kws f fd) (Sc : FnScope N ps scope) {p : Str × Option Str} (hp : f = He.fAd K p) (len : ∀ vs H Q E, sp vs H Q E → vs.length = ps.length)
    (hbody : ∀ (A : Around) (outer : List Env) (s : Shared) (H : Hp) (vs : List V) (Q : VK) (E : XK), Room k (A.deeper (envOfC qual scope s.heap.objs.size f (.ref (He.codeOf K p)))) → sp vs H Q E →
      ∃ t, PSs (cxOf CX P w K mg base N qual scope f (.ref (He.codeOf K p)) A outer s H E) body t ∧ t { nx := fun _ H' => Q .non H', rt := Q } (L2.start N vs) H) : FnOk P w K mg base CX (k + 1) f fd ps sp := by
  obtain ⟨oc, od, dV, kV, doc, pm, an, cdv, ct, osl, rfl, lk, hcd, _, _⟩ := F.ex
  obtain ⟨c, rfl⟩ := He.codeIn_ref hcd
  subst hp
  have e := He.codeOf_eq lk rfl
  subst e
  exact fn_of lk hcd Sc len fun A outer s H vs Q E hr hsp => hbody A outer s H vs Q E hr hsp
theorem tt_u {α β : Type} {g : α → β} : ∀ {l : List α}, (l.map g).Nodup → ∀ x ∈ l, ∀ y ∈ l, g x = g y → x = y
  | [], _, x, hx, _, _, _ => by cases hx
  | a :: l, nd, x, hx, y, hy, e => by
    rw [List.map_cons, List.nodup_cons] at nd
    rcases List.mem_cons.mp hx with h1 | h1
    · rcases List.mem_cons.mp hy with h2 | h2
      · rw [h1, h2]
      · exact absurd (List.mem_map.mpr ⟨y, h2, by rw [← e, h1]⟩) nd.1
    · rcases List.mem_cons.mp hy with h2 | h2
      · exact absurd (List.mem_map.mpr ⟨x, h1, by rw [e, h2]⟩) nd.1
      · exact tt_u nd.2 x h1 y h2 e
def lamQ (x : Str) : Str := (x ++ ".<locals>.") ++ "<lambda>"
/-- the tables of the defs that make lambdas -/
def TT (K : PySem.W.Frag) (l : List Str) : List (Addr × Str) := l.map fun x => ((He.cT K (x, none)).2, lamQ x)
theorem TT_u {K : PySem.W.Frag} {l : List Str} (nd : (l.map fun x => (He.cT K (x, none)).2).Nodup) {x : Str} (hx : x ∈ l) : ∀ p ∈ TT K l, p.1 = (He.cT K (x, none)).2 → p.2 = lamQ x := fun p hp e => by
  obtain ⟨y, hy, rfl⟩ := List.mem_map.mp hp
  have := tt_u nd y hy x hx e
  subst this
  rfl
theorem TT_m {K : PySem.W.Frag} {l : List Str} {x : Str} (hx : x ∈ l) : ((He.cT K (x, none)).2, lamQ x) ∈ TT K l := List.mem_map.mpr ⟨x, hx, rfl⟩
/-- several defs by their addresses -/
def fnL (K : PySem.W.Frag) : List (Str × (List D → Rc)) → Addr → Option (List D → Rc)
  | [], _ => none
  | p :: l, a => if a = He.ga K p.1 then some p.2 else fnL K l a
section
variable {P : Program} {w : World} {K : PySem.W.Frag} {mg : Str → Option Value} {base : Heap} {T : List NTab} {j i n : Nat}
theorem kv_nil : KnownV P w K mg base T j n (fnL K []) := fun a r h => by cases h
theorem kv_cons {x : Str} {r : List D → Rc} {l : List (Str × (List D → Rc))} (h : Known P w K mg base x i n (spP K T n r)) (hg : mg x = some (.ref (He.ga K x))) (t : KnownV P w K mg base T j n (fnL K l)) (hij : i ≤ j := by decide) : KnownV P w K mg base T j n (fnL K ((x, r) :: l)) := fun a q e => by
  unfold fnL at e
  split at e
  · rename_i ha
    cases e
    obtain ⟨f, fd, ps, h1, h2, h3, h4, h5⟩ := h
    rw [hg] at h1
    cases h1
    subst ha
    exact ⟨fd, ps, h2, h3, h5.mono hij⟩
  · exact t a q e
theorem known_of {x : Str} {sp : Sp} {k n : Nat} {params : Arguments} {body : List Stmt} {scope : Scope} {f : Addr} {fd : FuncData} {ps : List Str} (F : FunD K x x params body scope [] [] f fd) (hm : mg x = some (.ref f)) (hn : ps.length = n)
    (hb : ∀ (kV doc pm : Value) (an : Option Addr) (cdv ct : Value) (us : List Value), us.length = ps.length → bindArgs (PySem.W.fnOf x x params body scope .none kV doc pm an cdv ct) ⟨us, []⟩ = pure (ps.zip us))
    (h : FnOk P w K mg base (L2N.CX P w) k f fd ps sp) : Known P w K mg base x k n sp := ⟨f, fd, ps, hm, F.kp, F.bindsN hb, hn, h⟩
end
/-- ints compared -/
def eqS : D → D → M D := int2 (fB fun i j => decide (i = j))
theorem os_eqS {K : PySem.W.Frag} {G : Gx} : OpS K G rEq eqS := by
  intro F H ev σ dx dy x y Q R rx ry q
  unfold eqS int2 at q
  cases dx <;> first | exact q.elim | skip
  cases dy <;> first | exact q.elim | skip
  simp only [Rl] at rx ry
  subst rx ry
  rename_i i j
  refine ⟨rfl, ?_⟩
  have e : decide (V.int i = V.int j) = decide (i = j) := by rw [dec_int]; rfl
  rw [e]
  exact Go.ret q R _ (by simp only [Rl])
theorem hotOf {X : Cx} {ex : Addr} {oe : Obj} {pn : List (Addr × Obj)} {cls : Value} {d : Option Addr} (hz : L2N.Zn cls d oe) (hf : ∃ vs, oe.data = .fields vs) (hs : X.stack = X.env :: X.outer) (hfm : X.env.frame = some X.env.locals)
    (pins : List (Addr × Obj)) (σ : Sg) (H : Hp) (s : Shared) (I : Inv (X.suite ex ((ex, oe) :: pn)) pins σ H s) : HotS (X.suite ex ((ex, oe) :: pn)) ex := by
  obtain ⟨vs, hv⟩ := hf
  exact hotS_suite hv (hz.2.2 vs hv) hs hfm I
theorem bt_ValueError : bootBuiltins "ValueError" = some (.type "ValueError") := by decide +kernel
theorem relO {c : Addr} (u : Value) (h : RelV (.ref c) u) : u = .ref c := h
theorem relT {n : String} (u : Value) (h : RelV (.ty n) u) : u = .type n := h
end Vs
/-! Vs: facts of the module that a head tells by a Bool; the law's end. -/
namespace Vs
open PySem PySem.Spec PyProof.Rows L2 LamX NdefX HotX

def ba2 {a b : Bool} (h : (a && b) = true) : a = true ∧ b = true := Bool.and_eq_true_iff.mp h
/-- an exception class, as isinstance wants it -/
def excB (K : PySem.W.Frag) (D : Addr) : Bool := decide (PySem.W.findIn K (.ref D) "__getattribute__" = some (some (.builtin "BaseException.__getattribute__"))) && (decide (PySem.W.findIn K (.ref D) "__getattr__" = some none) && (decide (PySem.W.subIn K (.ref D) (.type "BaseException") = some true) && (PySem.W.hasDictIn K D &&
  (decide (PySem.W.findIn K (.ref D) "__class__" = some (some (.builtin "object.__class__"))) && (decide (PySem.W.specialIn K (.builtin "object.__class__") "__get__" = some (some (.builtin "getset_descriptor.__get__"))) && (decide (PySem.W.takesIn K (.builtin "object.__class__") = some true) && decide (PySem.W.mroIn K D (.type "object") = some true)))))))
theorem excB_ok {K : PySem.W.Frag} {D : Addr} (h : excB K D = true) : ExcC K D := by
  obtain ⟨h1, h⟩ := ba2 h
  obtain ⟨h2, h⟩ := ba2 h
  obtain ⟨h3, h⟩ := ba2 h
  obtain ⟨h4, h⟩ := ba2 h
  obtain ⟨h5, h⟩ := ba2 h
  obtain ⟨h6, h⟩ := ba2 h
  obtain ⟨h7, h8⟩ := ba2 h
  exact ⟨of_decide_eq_true h1, of_decide_eq_true h2, of_decide_eq_true h3, h4, of_decide_eq_true h5, of_decide_eq_true h6, of_decide_eq_true h7, of_decide_eq_true h8⟩
/-- an exception class with an __init__ of its own -/
def oexB (K : PySem.W.Frag) (C : Addr) : Bool := match K.lookup C with
  | some ⟨.type t, _, .cls cd, sl⟩ => (match cd.mro, sl.toList with
    | .ref C' :: bm, [_, _, _, _, some (.builtin n), _] => t == "type" && (C' == C && (n == "ValueError.__new__" && (!cd.hasDel && (cd.hasDict && PySem.HandSPX.refsVE bm))))
    | _, _ => false)
  | _ => false
theorem oexB_ok {K : PySem.W.Frag} {C : Addr} (h : oexB K C = true) : ∃ nm q N bs bm sn sub ab col dd k0 k1 k2 k3 k5, K.lookup C = some (excClassObj nm q C N bs bm true sn sub ab col dd k0 k1 k2 k3 k5 "ValueError.__new__") ∧ PySem.HandSPX.refsVE bm = true := by
  unfold oexB at h
  split at h
  · rename_i t dd cd sl lk
    split at h
    · rename_i C' bm k0 k1 k2 k3 n k5 hm hs
      simp only [Bool.and_eq_true, beq_iff_eq, Bool.not_eq_true'] at h
      obtain ⟨rfl, rfl, rfl, h4, h5, h6⟩ := h
      obtain ⟨nm, bs, mro, ns, qn, hd, sn, sub, ab, col, del⟩ := cd
      obtain ⟨l⟩ := sl
      dsimp only at hm hs h4 h5
      subst hm hs h4 h5
      exact ⟨nm, qn, ns, bs, bm, sn, sub, ab, col, dd, k0, k1, k2, k3, k5, lk, h6⟩
    · cases h
  · cases h
def iniB (K : PySem.W.Frag) (C fI : Addr) (f : Str) : Bool := oexB K C && (decide (PySem.W.findIn K (.ref C) "__setattr__" = some (some (.builtin "object.__setattr__"))) && (decide (PySem.W.subIn K (.ref C) (.type "BaseException") = some true) && (decide (PySem.W.typeIn K (.ref C) = some (.type "type")) && (PySem.W.keepIn K (.ref C) &&
  (decide (PySem.W.findIn K (.ref C) f = some none) && (decide (PySem.W.findIn K (.ref C) "__init__" = some (some (.ref fI))) && decide (PySem.W.typeIn K (.ref fI) = some (.type "function"))))))))
theorem iniB_ok {K : PySem.W.Frag} {C fI : Addr} {f : Str} (h : iniB K C fI f = true) : OexC K C ∧ PySem.W.findIn K (.ref C) f = some none ∧ PySem.W.findIn K (.ref C) "__init__" = some (some (.ref fI)) ∧ PySem.W.typeIn K (.ref fI) = some (.type "function") := by
  obtain ⟨h1, h⟩ := ba2 h
  obtain ⟨h2, h⟩ := ba2 h
  obtain ⟨h3, h⟩ := ba2 h
  obtain ⟨h4, h⟩ := ba2 h
  obtain ⟨h5, h⟩ := ba2 h
  obtain ⟨h6, h⟩ := ba2 h
  obtain ⟨h7, h8⟩ := ba2 h
  exact ⟨⟨oexB_ok h1, of_decide_eq_true h2, of_decide_eq_true h3, of_decide_eq_true h4, h5⟩, of_decide_eq_true h6, of_decide_eq_true h7, of_decide_eq_true h8⟩
def baseB (K : PySem.W.Frag) (B : Addr) : Bool := decide (PySem.W.specialIn K (.ref B) "__getattribute__" = some (some (.builtin "type.__getattribute__"))) && (PySem.W.readsIn K B (.type "type") && (match PySem.W.findCls K (.ref B) (.type "type") "__init__" with
  | some (.val (.builtin n)) => n == "ValueError.__init__"
  | _ => false))
theorem baseB_ok {K : PySem.W.Frag} {mg : Str → Option Value} {x : Str} {B : Addr} (hg : mg x = some (.ref B)) (h : baseB K B = true) : BaseI K mg x B := by
  obtain ⟨h1, h⟩ := ba2 h
  obtain ⟨h2, h3⟩ := ba2 h
  refine ⟨hg, of_decide_eq_true h1, h2, ?_⟩
  split at h3
  · rename_i n e
    rw [e, beq_iff_eq.mp h3]
  · cases h3
/-- C is of the class B, and isinstance tells of it as told -/
def exmB (K : PySem.W.Frag) (B : Addr) (C : Addr) : Bool := decide (PySem.W.exmOne K (.ref C) (.ref B) = some true)
def kitsB (K : PySem.W.Frag) (l : List (Addr × Value × Bool)) : Bool := l.all fun p => decide (PySem.W.kitOne K (.ref p.1) p.2.1 = some p.2.2)
theorem kitsB_ok {K : PySem.W.Frag} {l : List (Addr × Value × Bool)} (h : kitsB K l = true) : ∀ p ∈ l, PySem.W.kitOne K (.ref p.1) p.2.1 = some p.2.2 := fun p hp => of_decide_eq_true (List.all_eq_true.mp h p hp)
/-- the law's promise at the head's heap -/
theorem law_sp {K : PySem.W.Frag} {T : List NTab} {r : List D → Rc} {H : Hp} {a : Addr} {ns : List Int} (hT : TabsN T H) (hS : SqL K H a (ns.map V.int)) (hr : r [.sq (ns.map D.int)] = .ok (.bl true) []) : spP K T 1 r [.ref a] H (fun v _ => v = .bl true) fun _ _ _ => False := by
  have fin : ∀ F : Hp, Bef T F H → SqL K F a (ns.map V.int) → spP K T 1 r [.ref a] H (fun v _ => v = .bl true) fun _ _ _ => False := fun F B hs => by
    refine ⟨F, [.sq (ns.map D.int)], B, ?_, rfl, ?_⟩
    · simp only [Rls, Rl]
      exact ⟨_, [], rfl, ⟨a, _, rfl, hs, Rls.ofInts⟩, rfl⟩
    · rw [hr]
      exact fun F' H' v _ _ rv => by simpa only [Rl] using rv
  rcases hS with (h | ⟨o, h⟩) | h
  · refine fin (fun b => if b = a then some (.lst (ns.map V.int)) else none) ⟨fun b o e => ?_, fun b o e => ?_, hT⟩ (.inl (.inl (if_pos rfl)))
    · by_cases hb : b = a
      · subst hb; rw [if_pos rfl] at e; cases e; exact h
      · rw [if_neg hb] at e; cases e
    · by_cases hb : b = a
      · rw [if_pos hb] at e; cases e; exact nt_lst
      · rw [if_neg hb] at e; cases e
  · refine fin (fun b => if b = a then some (.frz o (.lst (ns.map V.int))) else none) ⟨fun b o e => ?_, fun b o e => ?_, hT⟩ (.inl (.inr ⟨o, if_pos rfl⟩))
    · by_cases hb : b = a
      · subst hb; rw [if_pos rfl] at e; cases e; exact h
      · rw [if_neg hb] at e; cases e
    · by_cases hb : b = a
      · rw [if_pos hb] at e; cases e; exact fun ps z => by cases z
      · rw [if_neg hb] at e; cases e
  · exact fin (fun _ => none) ⟨fun b o e => (by cases e), fun b o e => (by cases e), hT⟩ (.inr h)

/-! ### He.hookX, with the class statics among what is told -/
section
open He
def asY (g : Addr → Option Obj) (n : Nat) : List Addr := asD g n ++ [PySem.cStatics]
def obsY (n : Nat) (fa : List Fa) (fn : List DefD) (tf : List Defn) (ex : PySem.W.Frag → Bool) (g : Addr → Option Obj) : AlX := (obsT fa fn [] (frT g (asY g n)), ex (frT g (asY g n)) && tabsB g tf (frT g (asY g n)))
theorem saysY_of {fa : List Fa} {fn : List DefD} {tf : List Defn} {ex : PySem.W.Frag → Bool} {w : World} {h : Heap} {as : List Addr} (e : ((obsT fa fn [] (frT h.get? as), ex (frT h.get? as) && tabsB h.get? tf (frT h.get? as)) : AlX) = valX fn [] w) : SaysX fa fn [] tf ex w h (frT h.get? as) := by
  have h2 := ba2 (congrArg (fun z : AlX => z.2) e)
  have key : ∀ p ∈ tf, PySem.W.codeHdIn (frT h.get? as) (cT (frT h.get? as) p).1 (cT (frT h.get? as) p).2 = true ∧ ∃ o, h.get? (cT (frT h.get? as) p).2 = some o ∧ emptyTab o = true := fun p hp => by
    have h4 := ba2 (List.all_eq_true.mp h2.2 p hp)
    refine ⟨h4.1, ?_⟩
    have h5 := h4.2
    split at h5
    · rename_i o q; exact ⟨o, q, h5⟩
    · cases h5
  refine ⟨congrArg (fun z : AlX => z.1) e, h2.1, fun p hp => (key p hp).1, fun p hp => ?_, fun p hp => ?_⟩
  · obtain ⟨_, o, q, z⟩ := key p hp; exact frT_none q z
  · obtain ⟨_, o, q, z⟩ := key p hp; rw [q, emptyTab_eq z]
def hookY (n : Nat) (fa : List Fa) (fn : List DefD) (tf : List Defn) (ex : PySem.W.Frag → Bool) : PySem.W.Hook where
  α := AlX
  obs := fun s => obsY n fa fn tf ex s.heap.get?
  val := fun w => valX fn [] w
  says := fun w h => ∃ K : PySem.W.Frag, K.In h ∧ SaysX fa fn [] tf ex w h K
  of := fun _ _ e => ⟨_, frT_in, saysY_of e⟩
  keeps := fun _ _ _ ⟨K, hK, c⟩ k => ⟨K, PySem.W.Frag.In.keeps hK k, ⟨c.t, c.more, c.hd, c.out, fun p hp => k _ _ (c.empty p hp)⟩⟩
theorem obsY_eq {n : Nat} {fa : List Fa} {fn : List DefD} {tf : List Defn} {ex : PySem.W.Frag → Bool} {g : Addr → Option Obj} {s : Shared} (h : ∀ a, g a = s.heap.get? a) : obsY n fa fn tf ex g = (hookY n fa fn tf ex).obs s := by
  rw [show g = s.heap.get? from funext h] <;> rfl
end
end Vs
/-! Vs, numbers drawn by hand: the laws' own draw. -/
namespace Vs
open PySem PySem.Spec PyProof.Rows L2 LamX NdefX HotX
def mDrA : S := ifS (andT (asB (b2 eqD (ixV 0 (ret (.int 2))) (ret (.int 0)))) (asB (b2 ltD (ixV 0 (ret (.int 1))) (bnd (ixV 0 (ret (.int 0))) lenD)))) (sq (setS 2 (b2 ixD (ixV 0 (ret (.int 0))) (ixV 0 (ret (.int 1)))))
    (sq (subS 0 (b2 addD (ixV 0 (ret (.int 1))) (ret (.int 1))) (ret (.int 1)))
    (sq (subS 0 (b2 modD (bnd (b2 addD (b2 addD (bnd (b2 mulD (ixV 0 (ret (.int 3))) (ret (.int 48271))) intD) (vV 2)) (ret (.int 17))) intD) (ret (.int 2147483647))) (ret (.int 3)))
    (subS 0 (ifE (asB (b2 geD (vV 2) (b2 powD (ret (.int 10)) (ret (.int 18))))) (vV 2) (ret (.int 0))) (ret (.int 2)))))) (nxt)
def mDrB : S := sq (ifS (asB (b2 gtD (ixV 0 (ret (.int 2))) (ret (.int 0)))) (sq (setS 3 (b2 modD (bnd (ixV 0 (ret (.int 2))) intD) (vV 1)))
    (sq (subS 0 (b2 divD (ixV 0 (ret (.int 2))) (bnd (args [ret (.int 2), vV 1]) max2D)) (ret (.int 2)))
    (retS (vV 3)))) (nxt))
    (sq (subS 0 (b2 addD (ixV 0 (ret (.int 4))) (ret (.int 1))) (ret (.int 4)))
    (sq (setS 4 (b2 modD (bnd (b2 mulD (bnd (b2 addD (ixV 0 (ret (.int 3))) (b2 mulD (ret (.int 7919)) (ixV 0 (ret (.int 4))))) intD) (ret (.int 48271))) intD) (ret (.int 2147483647))))
    (sq (setS 4 (b2 modD (bnd (b2 mulD (vV 4) (b2 addD (b2 divD (vV 4) (ret (.int 1009))) (ret (.int 69621)))) intD) (ret (.int 2147483647))))
    (retS (b2 modD (bnd (b2 divD (vV 4) (ret (.int 16))) intD) (vV 1))))))
def mDraw : S := sq mDrA mDrB
def rDraw (ds es : List D) : Rc := runI 3 mDraw ds es
theorem log2_lt {n k : Nat} (h : n < 2 ^ k) (hk : 0 < k) : n.log2 < k := by
  by_cases h0 : n = 0
  · subst h0; simpa using hk
  · exact (Nat.log2_lt h0).2 h
theorem mulW_ok {i j : Int} (h1 : i.natAbs < 2 ^ 2000) (h2 : j.natAbs < 2 ^ 2000) : CMulW i j := by
  have a := log2_lt h1 (by omega)
  have b := log2_lt h2 (by omega)
  unfold CMulW
  omega
structure Hnd where
  cs : List Int
  p : Int
  a : Int
  b : Int
  c : Int
def Hnd.ds (h : Hnd) : List D := [.lst (h.cs.map .int), .int h.p, .int h.a, .int h.b, .int h.c]
structure Hnd.Ok (h : Hnd) (n : Nat) : Prop where
  cl : ∀ c ∈ h.cs, 0 ≤ c ∧ c < 2 ^ 200
  p0 : 0 ≤ h.p
  a0 : 0 ≤ h.a
  a1 : h.a < 2 ^ 200
  b0 : 0 ≤ h.b
  b1 : h.b < 2 ^ 40
  c0 : 0 ≤ h.c
  c1 : h.c ≤ n
theorem Hnd.Ok.mono {h : Hnd} {n m : Nat} (k : h.Ok n) (l : n ≤ m) : h.Ok m := { k with c1 := by have := k.c1; omega }

theorem eqO_int {i j : Int} : eqO (.int i) (.int j) = some (decide (i = j)) := by
  unfold eqO
  simp [Vs.runI, Vs.io0, Vs.retS, Vs.setS, Vs.lf, Vs.sq, Vs.nxt, Vs.ifS, Vs.bnd, Vs.ret, Vs.bad, Vs.opt, Vs.ifE, Vs.asB, Vs.vP, Vs.vV, Vs.b2, Vs.andT, Vs.args, Vs.dropS, Vs.outB, Vs.putS, Vs.leD, Vs.ltD, Vs.gtD, Vs.geD, Vs.int2, Vs.fB, Vs.fI, Vs.fIc, Vs.addD, Vs.subD, Vs.mulD, Vs.divD, Vs.modD, Vs.powD, Vs.isI2, Vs.isT2, Vs.isTI, Vs.ixD, Vs.ixO, Vs.its, Vs.ixV, Vs.subS, Vs.vL, Vs.mutV, Vs.gSet, Vs.lenD, Vs.intD, Vs.max2D, Vs.itsL, pd, SeqAt.shaped, PyData.canLay0, PyData.depth, PyData.eqv]
  by_cases h : i = j <;> simp [Vs.runI, Vs.io0, Vs.retS, Vs.setS, Vs.lf, Vs.sq, Vs.nxt, Vs.ifS, Vs.bnd, Vs.ret, Vs.bad, Vs.opt, Vs.ifE, Vs.asB, Vs.vP, Vs.vV, Vs.b2, Vs.andT, Vs.args, Vs.dropS, Vs.outB, Vs.putS, Vs.leD, Vs.ltD, Vs.gtD, Vs.geD, Vs.int2, Vs.fB, Vs.fI, Vs.fIc, Vs.addD, Vs.subD, Vs.mulD, Vs.divD, Vs.modD, Vs.powD, Vs.isI2, Vs.isT2, Vs.isTI, Vs.ixD, Vs.ixO, Vs.its, Vs.ixV, Vs.subS, Vs.vL, Vs.mutV, Vs.gSet, Vs.lenD, Vs.intD, Vs.max2D, Vs.itsL, h]
theorem dr_if {c : Prop} [Decidable c] {f g : Ev → Out} {ev : Ev} : (if c then f else g) ev = if c then f ev else g ev := by split <;> rfl
theorem dr_ifR {α : Type} {c : Prop} [Decidable c] {f g : M α} {ev : Ev} : (if c then f else g) ev = if c then f ev else g ev := by split <;> rfl
theorem drA {h : Hnd} {n : Nat} {a : Int} (k : h.Ok n) : ∃ (h' : Hnd) (s : Sl), mDrA [.io h.ds, .sh (.int a), .no, .no, .no] = .nx [.io h'.ds, .sh (.int a), s, .no, .no] ∧ h'.Ok n := by
  by_cases h1 : h.a = 0
  · by_cases h2 : h.p < (h.cs.length : Int)
    · obtain ⟨j, hj⟩ : ∃ j : Nat, h.p = (j : Int) := ⟨h.p.toNat, by have := k.p0; omega⟩
      have hjl : j < h.cs.length := by omega
      have hat : atI (h.cs.map D.int) (j : Int) = some (.int h.cs[j]) := by
        refine atI_nat ?_
        simp [Vs.runI, Vs.io0, Vs.retS, Vs.setS, Vs.lf, Vs.sq, Vs.nxt, Vs.ifS, Vs.bnd, Vs.ret, Vs.bad, Vs.opt, Vs.ifE, Vs.asB, Vs.vP, Vs.vV, Vs.b2, Vs.andT, Vs.args, Vs.dropS, Vs.outB, Vs.putS, Vs.leD, Vs.ltD, Vs.gtD, Vs.geD, Vs.int2, Vs.fB, Vs.fI, Vs.fIc, Vs.addD, Vs.subD, Vs.mulD, Vs.divD, Vs.modD, Vs.powD, Vs.isI2, Vs.isT2, Vs.isTI, Vs.ixD, Vs.ixO, Vs.its, Vs.ixV, Vs.subS, Vs.vL, Vs.mutV, Vs.gSet, Vs.lenD, Vs.intD, Vs.max2D, Vs.itsL, hjl]
      have hc := k.cl _ (List.getElem_mem hjl)
      have m1 : CMulW h.b 48271 := mulW_ok (by have := k.b0; have := k.b1; omega) (by omega)
      have m2 : CPow 10 18 := ⟨by omega, by omega, by omega⟩
      refine ⟨⟨h.cs, h.p + 1, if 10 ^ 18 ≤ h.cs[j] then h.cs[j] else 0, (h.b * 48271 + h.cs[j] + 17) % 2147483647, h.c⟩, .sh (.int h.cs[j]), ?_, ⟨k.cl, by have := k.p0; simp [Vs.runI, Vs.io0, Vs.retS, Vs.setS, Vs.lf, Vs.sq, Vs.nxt, Vs.ifS, Vs.bnd, Vs.ret, Vs.bad, Vs.opt, Vs.ifE, Vs.asB, Vs.vP, Vs.vV, Vs.b2, Vs.andT, Vs.args, Vs.dropS, Vs.outB, Vs.putS, Vs.leD, Vs.ltD, Vs.gtD, Vs.geD, Vs.int2, Vs.fB, Vs.fI, Vs.fIc, Vs.addD, Vs.subD, Vs.mulD, Vs.divD, Vs.modD, Vs.powD, Vs.isI2, Vs.isT2, Vs.isTI, Vs.ixD, Vs.ixO, Vs.its, Vs.ixV, Vs.subS, Vs.vL, Vs.mutV, Vs.gSet, Vs.lenD, Vs.intD, Vs.max2D, Vs.itsL]; omega, ?_, ?_, ?_, ?_, k.c0, k.c1⟩⟩
      · have hb : (j : Int) < (h.cs.length : Int) := by omega
        simp [Vs.runI, Vs.io0, Vs.retS, Vs.setS, Vs.lf, Vs.sq, Vs.nxt, Vs.ifS, Vs.bnd, Vs.ret, Vs.bad, Vs.opt, Vs.ifE, Vs.asB, Vs.vP, Vs.vV, Vs.b2, Vs.andT, Vs.args, Vs.dropS, Vs.outB, Vs.putS, Vs.leD, Vs.ltD, Vs.gtD, Vs.geD, Vs.int2, Vs.fB, Vs.fI, Vs.fIc, Vs.addD, Vs.subD, Vs.mulD, Vs.divD, Vs.modD, Vs.powD, Vs.isI2, Vs.isT2, Vs.isTI, Vs.ixD, Vs.ixO, Vs.its, Vs.ixV, Vs.subS, Vs.vL, Vs.mutV, Vs.gSet, Vs.lenD, Vs.intD, Vs.max2D, Vs.itsL, mDrA, Hnd.ds, atI, ixN, eqD, eqO_int, h1, hj, dr_if, dr_ifR]
        simp [Vs.runI, Vs.io0, Vs.retS, Vs.setS, Vs.lf, Vs.sq, Vs.nxt, Vs.ifS, Vs.bnd, Vs.ret, Vs.bad, Vs.opt, Vs.ifE, Vs.asB, Vs.vP, Vs.vV, Vs.b2, Vs.andT, Vs.args, Vs.dropS, Vs.outB, Vs.putS, Vs.leD, Vs.ltD, Vs.gtD, Vs.geD, Vs.int2, Vs.fB, Vs.fI, Vs.fIc, Vs.addD, Vs.subD, Vs.mulD, Vs.divD, Vs.modD, Vs.powD, Vs.isI2, Vs.isT2, Vs.isTI, Vs.ixD, Vs.ixO, Vs.its, Vs.ixV, Vs.subS, Vs.vL, Vs.mutV, Vs.gSet, Vs.lenD, Vs.intD, Vs.max2D, Vs.itsL, atI, ixN] at hat
        simp [Vs.runI, Vs.io0, Vs.retS, Vs.setS, Vs.lf, Vs.sq, Vs.nxt, Vs.ifS, Vs.bnd, Vs.ret, Vs.bad, Vs.opt, Vs.ifE, Vs.asB, Vs.vP, Vs.vV, Vs.b2, Vs.andT, Vs.args, Vs.dropS, Vs.outB, Vs.putS, Vs.leD, Vs.ltD, Vs.gtD, Vs.geD, Vs.int2, Vs.fB, Vs.fI, Vs.fIc, Vs.addD, Vs.subD, Vs.mulD, Vs.divD, Vs.modD, Vs.powD, Vs.isI2, Vs.isT2, Vs.isTI, Vs.ixD, Vs.ixO, Vs.its, Vs.ixV, Vs.subS, Vs.vL, Vs.mutV, Vs.gSet, Vs.lenD, Vs.intD, Vs.max2D, Vs.itsL, hat, hb, m1, m2, atI, ixN, dr_if, dr_ifR]
        rw [if_pos hjl]
        by_cases hq : 1000000000000000000 ≤ h.cs[j]
        · simp [Vs.runI, Vs.io0, Vs.retS, Vs.setS, Vs.lf, Vs.sq, Vs.nxt, Vs.ifS, Vs.bnd, Vs.ret, Vs.bad, Vs.opt, Vs.ifE, Vs.asB, Vs.vP, Vs.vV, Vs.b2, Vs.andT, Vs.args, Vs.dropS, Vs.outB, Vs.putS, Vs.leD, Vs.ltD, Vs.gtD, Vs.geD, Vs.int2, Vs.fB, Vs.fI, Vs.fIc, Vs.addD, Vs.subD, Vs.mulD, Vs.divD, Vs.modD, Vs.powD, Vs.isI2, Vs.isT2, Vs.isTI, Vs.ixD, Vs.ixO, Vs.its, Vs.ixV, Vs.subS, Vs.vL, Vs.mutV, Vs.gSet, Vs.lenD, Vs.intD, Vs.max2D, Vs.itsL, hq]
        · simp [Vs.runI, Vs.io0, Vs.retS, Vs.setS, Vs.lf, Vs.sq, Vs.nxt, Vs.ifS, Vs.bnd, Vs.ret, Vs.bad, Vs.opt, Vs.ifE, Vs.asB, Vs.vP, Vs.vV, Vs.b2, Vs.andT, Vs.args, Vs.dropS, Vs.outB, Vs.putS, Vs.leD, Vs.ltD, Vs.gtD, Vs.geD, Vs.int2, Vs.fB, Vs.fI, Vs.fIc, Vs.addD, Vs.subD, Vs.mulD, Vs.divD, Vs.modD, Vs.powD, Vs.isI2, Vs.isT2, Vs.isTI, Vs.ixD, Vs.ixO, Vs.its, Vs.ixV, Vs.subS, Vs.vL, Vs.mutV, Vs.gSet, Vs.lenD, Vs.intD, Vs.max2D, Vs.itsL, hq]
      · simp [Vs.runI, Vs.io0, Vs.retS, Vs.setS, Vs.lf, Vs.sq, Vs.nxt, Vs.ifS, Vs.bnd, Vs.ret, Vs.bad, Vs.opt, Vs.ifE, Vs.asB, Vs.vP, Vs.vV, Vs.b2, Vs.andT, Vs.args, Vs.dropS, Vs.outB, Vs.putS, Vs.leD, Vs.ltD, Vs.gtD, Vs.geD, Vs.int2, Vs.fB, Vs.fI, Vs.fIc, Vs.addD, Vs.subD, Vs.mulD, Vs.divD, Vs.modD, Vs.powD, Vs.isI2, Vs.isT2, Vs.isTI, Vs.ixD, Vs.ixO, Vs.its, Vs.ixV, Vs.subS, Vs.vL, Vs.mutV, Vs.gSet, Vs.lenD, Vs.intD, Vs.max2D, Vs.itsL]; split <;> omega
      · simp [Vs.runI, Vs.io0, Vs.retS, Vs.setS, Vs.lf, Vs.sq, Vs.nxt, Vs.ifS, Vs.bnd, Vs.ret, Vs.bad, Vs.opt, Vs.ifE, Vs.asB, Vs.vP, Vs.vV, Vs.b2, Vs.andT, Vs.args, Vs.dropS, Vs.outB, Vs.putS, Vs.leD, Vs.ltD, Vs.gtD, Vs.geD, Vs.int2, Vs.fB, Vs.fI, Vs.fIc, Vs.addD, Vs.subD, Vs.mulD, Vs.divD, Vs.modD, Vs.powD, Vs.isI2, Vs.isT2, Vs.isTI, Vs.ixD, Vs.ixO, Vs.its, Vs.ixV, Vs.subS, Vs.vL, Vs.mutV, Vs.gSet, Vs.lenD, Vs.intD, Vs.max2D, Vs.itsL]; split <;> omega
      · simp [Vs.runI, Vs.io0, Vs.retS, Vs.setS, Vs.lf, Vs.sq, Vs.nxt, Vs.ifS, Vs.bnd, Vs.ret, Vs.bad, Vs.opt, Vs.ifE, Vs.asB, Vs.vP, Vs.vV, Vs.b2, Vs.andT, Vs.args, Vs.dropS, Vs.outB, Vs.putS, Vs.leD, Vs.ltD, Vs.gtD, Vs.geD, Vs.int2, Vs.fB, Vs.fI, Vs.fIc, Vs.addD, Vs.subD, Vs.mulD, Vs.divD, Vs.modD, Vs.powD, Vs.isI2, Vs.isT2, Vs.isTI, Vs.ixD, Vs.ixO, Vs.its, Vs.ixV, Vs.subS, Vs.vL, Vs.mutV, Vs.gSet, Vs.lenD, Vs.intD, Vs.max2D, Vs.itsL]; omega
      · simp [Vs.runI, Vs.io0, Vs.retS, Vs.setS, Vs.lf, Vs.sq, Vs.nxt, Vs.ifS, Vs.bnd, Vs.ret, Vs.bad, Vs.opt, Vs.ifE, Vs.asB, Vs.vP, Vs.vV, Vs.b2, Vs.andT, Vs.args, Vs.dropS, Vs.outB, Vs.putS, Vs.leD, Vs.ltD, Vs.gtD, Vs.geD, Vs.int2, Vs.fB, Vs.fI, Vs.fIc, Vs.addD, Vs.subD, Vs.mulD, Vs.divD, Vs.modD, Vs.powD, Vs.isI2, Vs.isT2, Vs.isTI, Vs.ixD, Vs.ixO, Vs.its, Vs.ixV, Vs.subS, Vs.vL, Vs.mutV, Vs.gSet, Vs.lenD, Vs.intD, Vs.max2D, Vs.itsL]; omega
    · refine ⟨h, .no, ?_, k⟩
      simp [Vs.runI, Vs.io0, Vs.retS, Vs.setS, Vs.lf, Vs.sq, Vs.nxt, Vs.ifS, Vs.bnd, Vs.ret, Vs.bad, Vs.opt, Vs.ifE, Vs.asB, Vs.vP, Vs.vV, Vs.b2, Vs.andT, Vs.args, Vs.dropS, Vs.outB, Vs.putS, Vs.leD, Vs.ltD, Vs.gtD, Vs.geD, Vs.int2, Vs.fB, Vs.fI, Vs.fIc, Vs.addD, Vs.subD, Vs.mulD, Vs.divD, Vs.modD, Vs.powD, Vs.isI2, Vs.isT2, Vs.isTI, Vs.ixD, Vs.ixO, Vs.its, Vs.ixV, Vs.subS, Vs.vL, Vs.mutV, Vs.gSet, Vs.lenD, Vs.intD, Vs.max2D, Vs.itsL, mDrA, Hnd.ds, atI, ixN, eqD, eqO_int, h1, h2, dr_if, dr_ifR]
  · refine ⟨h, .no, ?_, k⟩
    simp [Vs.runI, Vs.io0, Vs.retS, Vs.setS, Vs.lf, Vs.sq, Vs.nxt, Vs.ifS, Vs.bnd, Vs.ret, Vs.bad, Vs.opt, Vs.ifE, Vs.asB, Vs.vP, Vs.vV, Vs.b2, Vs.andT, Vs.args, Vs.dropS, Vs.outB, Vs.putS, Vs.leD, Vs.ltD, Vs.gtD, Vs.geD, Vs.int2, Vs.fB, Vs.fI, Vs.fIc, Vs.addD, Vs.subD, Vs.mulD, Vs.divD, Vs.modD, Vs.powD, Vs.isI2, Vs.isT2, Vs.isTI, Vs.ixD, Vs.ixO, Vs.its, Vs.ixV, Vs.subS, Vs.vL, Vs.mutV, Vs.gSet, Vs.lenD, Vs.intD, Vs.max2D, Vs.itsL, mDrA, Hnd.ds, atI, ixN, eqD, eqO_int, h1, dr_if, dr_ifR]
theorem drB {h : Hnd} {n : Nat} {a : Int} {s : Sl} (k : h.Ok n) (ha : 1 ≤ a) (ha2 : a < 2 ^ 60) (hn : n < 2 ^ 60) : ∃ (h' : Hnd) (i : Int) (ev : Ev), mDrB [.io h.ds, .sh (.int a), s, .no, .no] = .rt (.int i) ev ∧ ev[0]? = some (.io h'.ds) ∧ 0 ≤ i ∧ i < a ∧ h'.Ok (n + 1) := by
  have k0 := k.a0
  have k1 := k.a1
  by_cases h1 : 0 < h.a
  · have d1 : 0 < a := by omega
    have d2 : CDivW h.a (if a > 2 then a else 2) := ⟨by split <;> omega, by
      have : (if a > 2 then a else 2).natAbs < 2 ^ 60 := by split <;> omega
      have := log2_lt this (by omega)
      omega⟩
    refine ⟨⟨h.cs, h.p, h.a / (if a > 2 then a else 2), h.b, h.c⟩, h.a % a, [.io [.lst (h.cs.map .int), .int h.p, .int (h.a / (if a > 2 then a else 2)), .int h.b, .int h.c], .sh (.int a), s, .sh (.int (h.a % a)), .no], ?_, rfl, Int.emod_nonneg _ (by omega), Int.emod_lt_of_pos _ d1, ⟨k.cl, k.p0, Int.ediv_nonneg k0 (by split <;> omega), ?_, k.b0, k.b1, k.c0, by have := k.c1; simp [Vs.runI, Vs.io0, Vs.retS, Vs.setS, Vs.lf, Vs.sq, Vs.nxt, Vs.ifS, Vs.bnd, Vs.ret, Vs.bad, Vs.opt, Vs.ifE, Vs.asB, Vs.vP, Vs.vV, Vs.b2, Vs.andT, Vs.args, Vs.dropS, Vs.outB, Vs.putS, Vs.leD, Vs.ltD, Vs.gtD, Vs.geD, Vs.int2, Vs.fB, Vs.fI, Vs.fIc, Vs.addD, Vs.subD, Vs.mulD, Vs.divD, Vs.modD, Vs.powD, Vs.isI2, Vs.isT2, Vs.isTI, Vs.ixD, Vs.ixO, Vs.its, Vs.ixV, Vs.subS, Vs.vL, Vs.mutV, Vs.gSet, Vs.lenD, Vs.intD, Vs.max2D, Vs.itsL]; omega⟩⟩
    · simp [Vs.runI, Vs.io0, Vs.retS, Vs.setS, Vs.lf, Vs.sq, Vs.nxt, Vs.ifS, Vs.bnd, Vs.ret, Vs.bad, Vs.opt, Vs.ifE, Vs.asB, Vs.vP, Vs.vV, Vs.b2, Vs.andT, Vs.args, Vs.dropS, Vs.outB, Vs.putS, Vs.leD, Vs.ltD, Vs.gtD, Vs.geD, Vs.int2, Vs.fB, Vs.fI, Vs.fIc, Vs.addD, Vs.subD, Vs.mulD, Vs.divD, Vs.modD, Vs.powD, Vs.isI2, Vs.isT2, Vs.isTI, Vs.ixD, Vs.ixO, Vs.its, Vs.ixV, Vs.subS, Vs.vL, Vs.mutV, Vs.gSet, Vs.lenD, Vs.intD, Vs.max2D, Vs.itsL, mDrB, Hnd.ds, atI, ixN, h1, d1, dr_if, dr_ifR]
      simp [Vs.runI, Vs.io0, Vs.retS, Vs.setS, Vs.lf, Vs.sq, Vs.nxt, Vs.ifS, Vs.bnd, Vs.ret, Vs.bad, Vs.opt, Vs.ifE, Vs.asB, Vs.vP, Vs.vV, Vs.b2, Vs.andT, Vs.args, Vs.dropS, Vs.outB, Vs.putS, Vs.leD, Vs.ltD, Vs.gtD, Vs.geD, Vs.int2, Vs.fB, Vs.fI, Vs.fIc, Vs.addD, Vs.subD, Vs.mulD, Vs.divD, Vs.modD, Vs.powD, Vs.isI2, Vs.isT2, Vs.isTI, Vs.ixD, Vs.ixO, Vs.its, Vs.ixV, Vs.subS, Vs.vL, Vs.mutV, Vs.gSet, Vs.lenD, Vs.intD, Vs.max2D, Vs.itsL, d2]
    · show h.a / _ < _
      exact Int.lt_of_le_of_lt (Int.ediv_le_self _ k0) k1
  · have e0 : h.a = 0 := by omega
    have b0 := k.b0
    have b1 := k.b1
    have c0 := k.c0
    have c1 := k.c1
    have d1 : 0 < a := by omega
    have m1 : CMulW 7919 (h.c + 1) := mulW_ok (by omega) (by omega)
    have m2 : CMulW (h.b + 7919 * (h.c + 1)) 48271 := mulW_ok (by omega) (by omega)
    have m3 : ∀ x : Int, CMulW (x % 2147483647) (x % 2147483647 / 1009 + 69621) := fun x => mulW_ok (by omega) (by omega)
    have m4 : ∀ x : Int, CDivW x 1009 := fun x => ⟨by omega, by decide⟩
    have m5 : ∀ x : Int, CDivW x 16 := fun x => ⟨by omega, by decide⟩
    have hm : ∃ x y : Int, mDrB [.io h.ds, .sh (.int a), s, .no, .no] = .rt (.int (x % a)) [.io [.lst (h.cs.map .int), .int h.p, .int 0, .int h.b, .int (h.c + 1)], .sh (.int a), s, .no, .sh (.int y)] := by
      refine ⟨((h.b + 7919 * (h.c + 1)) * 48271 % 2147483647 * ((h.b + 7919 * (h.c + 1)) * 48271 % 2147483647 / 1009 + 69621) % 2147483647) / 16, (h.b + 7919 * (h.c + 1)) * 48271 % 2147483647 * ((h.b + 7919 * (h.c + 1)) * 48271 % 2147483647 / 1009 + 69621) % 2147483647, ?_⟩
      simp [Vs.runI, Vs.io0, Vs.retS, Vs.setS, Vs.lf, Vs.sq, Vs.nxt, Vs.ifS, Vs.bnd, Vs.ret, Vs.bad, Vs.opt, Vs.ifE, Vs.asB, Vs.vP, Vs.vV, Vs.b2, Vs.andT, Vs.args, Vs.dropS, Vs.outB, Vs.putS, Vs.leD, Vs.ltD, Vs.gtD, Vs.geD, Vs.int2, Vs.fB, Vs.fI, Vs.fIc, Vs.addD, Vs.subD, Vs.mulD, Vs.divD, Vs.modD, Vs.powD, Vs.isI2, Vs.isT2, Vs.isTI, Vs.ixD, Vs.ixO, Vs.its, Vs.ixV, Vs.subS, Vs.vL, Vs.mutV, Vs.gSet, Vs.lenD, Vs.intD, Vs.max2D, Vs.itsL, mDrB, Hnd.ds, atI, ixN, e0, d1, dr_if, dr_ifR, m1, m2, m3, m4, m5]
    obtain ⟨x, y, hm⟩ := hm
    exact ⟨⟨h.cs, h.p, 0, h.b, h.c + 1⟩, x % a, _, hm, rfl, Int.emod_nonneg _ (by omega), Int.emod_lt_of_pos _ d1, ⟨k.cl, k.p0, by simp [Vs.runI, Vs.io0, Vs.retS, Vs.setS, Vs.lf, Vs.sq, Vs.nxt, Vs.ifS, Vs.bnd, Vs.ret, Vs.bad, Vs.opt, Vs.ifE, Vs.asB, Vs.vP, Vs.vV, Vs.b2, Vs.andT, Vs.args, Vs.dropS, Vs.outB, Vs.putS, Vs.leD, Vs.ltD, Vs.gtD, Vs.geD, Vs.int2, Vs.fB, Vs.fI, Vs.fIc, Vs.addD, Vs.subD, Vs.mulD, Vs.divD, Vs.modD, Vs.powD, Vs.isI2, Vs.isT2, Vs.isTI, Vs.ixD, Vs.ixO, Vs.its, Vs.ixV, Vs.subS, Vs.vL, Vs.mutV, Vs.gSet, Vs.lenD, Vs.intD, Vs.max2D, Vs.itsL], by simp [Vs.runI, Vs.io0, Vs.retS, Vs.setS, Vs.lf, Vs.sq, Vs.nxt, Vs.ifS, Vs.bnd, Vs.ret, Vs.bad, Vs.opt, Vs.ifE, Vs.asB, Vs.vP, Vs.vV, Vs.b2, Vs.andT, Vs.args, Vs.dropS, Vs.outB, Vs.putS, Vs.leD, Vs.ltD, Vs.gtD, Vs.geD, Vs.int2, Vs.fB, Vs.fI, Vs.fIc, Vs.addD, Vs.subD, Vs.mulD, Vs.divD, Vs.modD, Vs.powD, Vs.isI2, Vs.isT2, Vs.isTI, Vs.ixD, Vs.ixO, Vs.its, Vs.ixV, Vs.subS, Vs.vL, Vs.mutV, Vs.gSet, Vs.lenD, Vs.intD, Vs.max2D, Vs.itsL], b0, b1, by simp [Vs.runI, Vs.io0, Vs.retS, Vs.setS, Vs.lf, Vs.sq, Vs.nxt, Vs.ifS, Vs.bnd, Vs.ret, Vs.bad, Vs.opt, Vs.ifE, Vs.asB, Vs.vP, Vs.vV, Vs.b2, Vs.andT, Vs.args, Vs.dropS, Vs.outB, Vs.putS, Vs.leD, Vs.ltD, Vs.gtD, Vs.geD, Vs.int2, Vs.fB, Vs.fI, Vs.fIc, Vs.addD, Vs.subD, Vs.mulD, Vs.divD, Vs.modD, Vs.powD, Vs.isI2, Vs.isT2, Vs.isTI, Vs.ixD, Vs.ixO, Vs.its, Vs.ixV, Vs.subS, Vs.vL, Vs.mutV, Vs.gSet, Vs.lenD, Vs.intD, Vs.max2D, Vs.itsL]; omega, by simp [Vs.runI, Vs.io0, Vs.retS, Vs.setS, Vs.lf, Vs.sq, Vs.nxt, Vs.ifS, Vs.bnd, Vs.ret, Vs.bad, Vs.opt, Vs.ifE, Vs.asB, Vs.vP, Vs.vV, Vs.b2, Vs.andT, Vs.args, Vs.dropS, Vs.outB, Vs.putS, Vs.leD, Vs.ltD, Vs.gtD, Vs.geD, Vs.int2, Vs.fB, Vs.fI, Vs.fIc, Vs.addD, Vs.subD, Vs.mulD, Vs.divD, Vs.modD, Vs.powD, Vs.isI2, Vs.isT2, Vs.isTI, Vs.ixD, Vs.ixO, Vs.its, Vs.ixV, Vs.subS, Vs.vL, Vs.mutV, Vs.gSet, Vs.lenD, Vs.intD, Vs.max2D, Vs.itsL]; omega⟩⟩
theorem draw_ok {h : Hnd} {n : Nat} {a : Int} (k : h.Ok n) (ha : 1 ≤ a) (ha2 : a < 2 ^ 60) (hn : n < 2 ^ 60) : ∃ (h' : Hnd) (i : Int), rDraw h.ds [.int a] = .ok (.int i) h'.ds ∧ 0 ≤ i ∧ i < a ∧ h'.Ok (n + 1) := by
  obtain ⟨h1, s, e1, k1⟩ := drA (a := a) k
  obtain ⟨h2, i, ev, e2, e3, i0, i1, k2⟩ := drB (s := s) k1 ha ha2 hn
  refine ⟨h2, i, ?_, i0, i1, k2⟩
  unfold rDraw runI mDraw sq
  simp only [List.map_cons, List.map_nil, List.replicate, List.cons_append, List.nil_append, e1, e2, io0, e3]
theorem loop_inv {cl : List Nat} {step : D → S} : ∀ (ds : List D) (I : Nat → Ev → Prop) (ev : Ev), (∀ (k : Nat) (d : D) (ev : Ev), ds[k]? = some d → I k ev → ∃ ev', step d ev = .nx ev' ∧ I (k + 1) (fg cl ev')) → I 0 ev → ∃ ev', loop cl step ds ev = .nx ev' ∧ I ds.length ev'
  | [], I, ev, _, h0 => ⟨ev, rfl, h0⟩
  | d :: ds, I, ev, hs, h0 => by
    obtain ⟨e1, h1, h2⟩ := hs 0 d ev rfl h0
    obtain ⟨e2, h3, h4⟩ := loop_inv ds (fun k e => I (k + 1) e) (fg cl e1) (fun k d ev hk hi => hs (k + 1) d ev (by simpa [Vs.runI, Vs.io0, Vs.retS, Vs.setS, Vs.lf, Vs.sq, Vs.nxt, Vs.ifS, Vs.bnd, Vs.ret, Vs.bad, Vs.opt, Vs.ifE, Vs.asB, Vs.vP, Vs.vV, Vs.b2, Vs.andT, Vs.args, Vs.dropS, Vs.outB, Vs.putS, Vs.leD, Vs.ltD, Vs.gtD, Vs.geD, Vs.int2, Vs.fB, Vs.fI, Vs.fIc, Vs.addD, Vs.subD, Vs.mulD, Vs.divD, Vs.modD, Vs.powD, Vs.isI2, Vs.isT2, Vs.isTI, Vs.ixD, Vs.ixO, Vs.its, Vs.ixV, Vs.subS, Vs.vL, Vs.mutV, Vs.gSet, Vs.lenD, Vs.intD, Vs.max2D, Vs.itsL] using hk) hi) h2
    refine ⟨e2, ?_, by simpa [Vs.runI, Vs.io0, Vs.retS, Vs.setS, Vs.lf, Vs.sq, Vs.nxt, Vs.ifS, Vs.bnd, Vs.ret, Vs.bad, Vs.opt, Vs.ifE, Vs.asB, Vs.vP, Vs.vV, Vs.b2, Vs.andT, Vs.args, Vs.dropS, Vs.outB, Vs.putS, Vs.leD, Vs.ltD, Vs.gtD, Vs.geD, Vs.int2, Vs.fB, Vs.fI, Vs.fIc, Vs.addD, Vs.subD, Vs.mulD, Vs.divD, Vs.modD, Vs.powD, Vs.isI2, Vs.isT2, Vs.isTI, Vs.ixD, Vs.ixO, Vs.its, Vs.ixV, Vs.subS, Vs.vL, Vs.mutV, Vs.gSet, Vs.lenD, Vs.intD, Vs.max2D, Vs.itsL] using h4⟩
    rw [loop]
    simp only [h1]
    exact h3
theorem lcA_inv {vs : List Nat} {step : D → M (Option D)} : ∀ (ds : List D) (I : Nat → List D → Ev → Prop) (acc : List D) (ev : Ev), (∀ (k : Nat) (d : D) (acc : List D) (ev : Ev), ds[k]? = some d → I k acc ev → ∃ x ev', inn vs (step d) ev = .ok x ev' ∧ I (k + 1) (acc ++ x.toList) ev') → I 0 acc ev → ∃ xs ev', lcA vs step ds ev = .ok xs ev' ∧ I ds.length (acc ++ xs) ev'
  | [], I, acc, ev, _, h0 => ⟨[], ev, rfl, by simpa [Vs.runI, Vs.io0, Vs.retS, Vs.setS, Vs.lf, Vs.sq, Vs.nxt, Vs.ifS, Vs.bnd, Vs.ret, Vs.bad, Vs.opt, Vs.ifE, Vs.asB, Vs.vP, Vs.vV, Vs.b2, Vs.andT, Vs.args, Vs.dropS, Vs.outB, Vs.putS, Vs.leD, Vs.ltD, Vs.gtD, Vs.geD, Vs.int2, Vs.fB, Vs.fI, Vs.fIc, Vs.addD, Vs.subD, Vs.mulD, Vs.divD, Vs.modD, Vs.powD, Vs.isI2, Vs.isT2, Vs.isTI, Vs.ixD, Vs.ixO, Vs.its, Vs.ixV, Vs.subS, Vs.vL, Vs.mutV, Vs.gSet, Vs.lenD, Vs.intD, Vs.max2D, Vs.itsL] using h0⟩
  | d :: ds, I, acc, ev, hs, h0 => by
    obtain ⟨x, e1, h1, h2⟩ := hs 0 d acc ev rfl h0
    obtain ⟨xs, e2, h3, h4⟩ := lcA_inv ds (fun k a e => I (k + 1) a e) (acc ++ x.toList) e1 (fun k d acc ev hk hi => hs (k + 1) d acc ev (by simpa [Vs.runI, Vs.io0, Vs.retS, Vs.setS, Vs.lf, Vs.sq, Vs.nxt, Vs.ifS, Vs.bnd, Vs.ret, Vs.bad, Vs.opt, Vs.ifE, Vs.asB, Vs.vP, Vs.vV, Vs.b2, Vs.andT, Vs.args, Vs.dropS, Vs.outB, Vs.putS, Vs.leD, Vs.ltD, Vs.gtD, Vs.geD, Vs.int2, Vs.fB, Vs.fI, Vs.fIc, Vs.addD, Vs.subD, Vs.mulD, Vs.divD, Vs.modD, Vs.powD, Vs.isI2, Vs.isT2, Vs.isTI, Vs.ixD, Vs.ixO, Vs.its, Vs.ixV, Vs.subS, Vs.vL, Vs.mutV, Vs.gSet, Vs.lenD, Vs.intD, Vs.max2D, Vs.itsL] using hk) hi) h2
    refine ⟨x.toList ++ xs, e2, ?_, by simpa [Vs.runI, Vs.io0, Vs.retS, Vs.setS, Vs.lf, Vs.sq, Vs.nxt, Vs.ifS, Vs.bnd, Vs.ret, Vs.bad, Vs.opt, Vs.ifE, Vs.asB, Vs.vP, Vs.vV, Vs.b2, Vs.andT, Vs.args, Vs.dropS, Vs.outB, Vs.putS, Vs.leD, Vs.ltD, Vs.gtD, Vs.geD, Vs.int2, Vs.fB, Vs.fI, Vs.fIc, Vs.addD, Vs.subD, Vs.mulD, Vs.divD, Vs.modD, Vs.powD, Vs.isI2, Vs.isT2, Vs.isTI, Vs.ixD, Vs.ixO, Vs.its, Vs.ixV, Vs.subS, Vs.vL, Vs.mutV, Vs.gSet, Vs.lenD, Vs.intD, Vs.max2D, Vs.itsL, List.append_assoc] using h4⟩
    unfold lcA
    simp only [bnd, h1, h3]
    rfl
/-- the same list, word by word -/
theorem lcA_draw {vs : List Nat} {step : D → M (Option D)} {E : Hnd → Ev} (P : D → Prop) {ds : List D} {h : Hnd} {n : Nat} (k0 : h.Ok n) (hs : ∀ (d : D) (h : Hnd) (m : Nat), d ∈ ds → h.Ok m → m < n + ds.length → ∃ x h', inn vs (step d) (E h) = .ok (some x) (E h') ∧ P x ∧ h'.Ok (m + 1)) :
    ∃ xs h', lcA vs step ds (E h) = .ok xs (E h') ∧ xs.length = ds.length ∧ (∀ x ∈ xs, P x) ∧ h'.Ok (n + ds.length) := by
  obtain ⟨xs, e, h1, h2⟩ := lcA_inv ds (fun k acc ev => ∃ h, ev = E h ∧ h.Ok (n + k) ∧ acc.length = k ∧ ∀ x ∈ acc, P x) [] (E h) (fun k d acc ev hk hi => by
    obtain ⟨h, rfl, k1, k2, k3⟩ := hi
    have hk' := (List.getElem?_eq_some_iff.mp hk).1
    obtain ⟨x, h', e1, e2, e3⟩ := hs d h (n + k) (List.mem_of_getElem? hk) k1 (by omega)
    exact ⟨some x, E h', e1, h', rfl, e3, by simp [Vs.runI, Vs.io0, Vs.retS, Vs.setS, Vs.lf, Vs.sq, Vs.nxt, Vs.ifS, Vs.bnd, Vs.ret, Vs.bad, Vs.opt, Vs.ifE, Vs.asB, Vs.vP, Vs.vV, Vs.b2, Vs.andT, Vs.args, Vs.dropS, Vs.outB, Vs.putS, Vs.leD, Vs.ltD, Vs.gtD, Vs.geD, Vs.int2, Vs.fB, Vs.fI, Vs.fIc, Vs.addD, Vs.subD, Vs.mulD, Vs.divD, Vs.modD, Vs.powD, Vs.isI2, Vs.isT2, Vs.isTI, Vs.ixD, Vs.ixO, Vs.its, Vs.ixV, Vs.subS, Vs.vL, Vs.mutV, Vs.gSet, Vs.lenD, Vs.intD, Vs.max2D, Vs.itsL, k2], fun y hy => by
      rcases List.mem_append.mp hy with hy | hy
      · exact k3 y hy
      · simp [Vs.runI, Vs.io0, Vs.retS, Vs.setS, Vs.lf, Vs.sq, Vs.nxt, Vs.ifS, Vs.bnd, Vs.ret, Vs.bad, Vs.opt, Vs.ifE, Vs.asB, Vs.vP, Vs.vV, Vs.b2, Vs.andT, Vs.args, Vs.dropS, Vs.outB, Vs.putS, Vs.leD, Vs.ltD, Vs.gtD, Vs.geD, Vs.int2, Vs.fB, Vs.fI, Vs.fIc, Vs.addD, Vs.subD, Vs.mulD, Vs.divD, Vs.modD, Vs.powD, Vs.isI2, Vs.isT2, Vs.isTI, Vs.ixD, Vs.ixO, Vs.its, Vs.ixV, Vs.subS, Vs.vL, Vs.mutV, Vs.gSet, Vs.lenD, Vs.intD, Vs.max2D, Vs.itsL] at hy; subst hy; exact e2⟩) ⟨h, rfl, k0, rfl, fun x hx => by cases hx⟩
  obtain ⟨h', rfl, k1, k2, k3⟩ := h2
  exact ⟨xs, h', h1, by simpa [Vs.runI, Vs.io0, Vs.retS, Vs.setS, Vs.lf, Vs.sq, Vs.nxt, Vs.ifS, Vs.bnd, Vs.ret, Vs.bad, Vs.opt, Vs.ifE, Vs.asB, Vs.vP, Vs.vV, Vs.b2, Vs.andT, Vs.args, Vs.dropS, Vs.outB, Vs.putS, Vs.leD, Vs.ltD, Vs.gtD, Vs.geD, Vs.int2, Vs.fB, Vs.fI, Vs.fIc, Vs.addD, Vs.subD, Vs.mulD, Vs.divD, Vs.modD, Vs.powD, Vs.isI2, Vs.isT2, Vs.isTI, Vs.ixD, Vs.ixO, Vs.its, Vs.ixV, Vs.subS, Vs.vL, Vs.mutV, Vs.gSet, Vs.lenD, Vs.intD, Vs.max2D, Vs.itsL] using k2, by simpa [Vs.runI, Vs.io0, Vs.retS, Vs.setS, Vs.lf, Vs.sq, Vs.nxt, Vs.ifS, Vs.bnd, Vs.ret, Vs.bad, Vs.opt, Vs.ifE, Vs.asB, Vs.vP, Vs.vV, Vs.b2, Vs.andT, Vs.args, Vs.dropS, Vs.outB, Vs.putS, Vs.leD, Vs.ltD, Vs.gtD, Vs.geD, Vs.int2, Vs.fB, Vs.fI, Vs.fIc, Vs.addD, Vs.subD, Vs.mulD, Vs.divD, Vs.modD, Vs.powD, Vs.isI2, Vs.isT2, Vs.isTI, Vs.ixD, Vs.ixO, Vs.its, Vs.ixV, Vs.subS, Vs.vL, Vs.mutV, Vs.gSet, Vs.lenD, Vs.intD, Vs.max2D, Vs.itsL] using k3, k1⟩
theorem lcM_draw {vs : List Nat} {step : D → M (Option D)} {E : Hnd → Ev} (P : D → Prop) {ds : List D} {ev : Ev} {h : Hnd} {n : Nat} (k0 : h.Ok n) (he : fg vs ev = E h) (hl : ds.length ≤ 1000000) (hs : ∀ (d : D) (h : Hnd) (m : Nat), d ∈ ds → h.Ok m → m < n + ds.length → ∃ x h', inn vs (step d) (E h) = .ok (some x) (E h') ∧ P x ∧ h'.Ok (m + 1)) :
    ∃ xs h', lcM vs step ds ev = .ok xs (E h') ∧ xs.length = ds.length ∧ (∀ x ∈ xs, P x) ∧ h'.Ok (n + ds.length) := by
  obtain ⟨xs, h', e, r⟩ := lcA_draw P k0 hs
  refine ⟨xs, h', ?_, r⟩
  unfold lcM
  rw [if_pos (by unfold big; omega), he]
  exact e
/-- a list of ints told by a property -/
theorem ints_of {P : Int → Prop} : ∀ {xs : List D}, (∀ x ∈ xs, ∃ i, x = .int i ∧ P i) → ∃ ns : List Int, xs = ns.map .int ∧ ns.length = xs.length ∧ ∀ i ∈ ns, P i
  | [], _ => ⟨[], rfl, rfl, fun i h => by cases h⟩
  | x :: xs, h => by
    obtain ⟨i, rfl, hi⟩ := h x (List.mem_cons_self ..)
    obtain ⟨ns, rfl, hl, hn⟩ := ints_of fun y hy => h y (List.mem_cons_of_mem _ hy)
    exact ⟨i :: ns, rfl, by simp [Vs.runI, Vs.io0, Vs.retS, Vs.setS, Vs.lf, Vs.sq, Vs.nxt, Vs.ifS, Vs.bnd, Vs.ret, Vs.bad, Vs.opt, Vs.ifE, Vs.asB, Vs.vP, Vs.vV, Vs.b2, Vs.andT, Vs.args, Vs.dropS, Vs.outB, Vs.putS, Vs.leD, Vs.ltD, Vs.gtD, Vs.geD, Vs.int2, Vs.fB, Vs.fI, Vs.fIc, Vs.addD, Vs.subD, Vs.mulD, Vs.divD, Vs.modD, Vs.powD, Vs.isI2, Vs.isT2, Vs.isTI, Vs.ixD, Vs.ixO, Vs.its, Vs.ixV, Vs.subS, Vs.vL, Vs.mutV, Vs.gSet, Vs.lenD, Vs.intD, Vs.max2D, Vs.itsL], fun j hj => by
      rcases List.mem_cons.mp hj with rfl | hj
      · exact hi
      · exact hn j hj⟩
end Vs
namespace K74
noncomputable section
open PySem PySem.Spec PyProof.Rows L2 LamX NdefX HotX Vs
def top (i : Nat) : Stmt := PySem.Challenge.pw_anynumeral_k74_whole_rules_grown_step_by.main.body.getD i (.Pass ⟨0, 0, 0, 0⟩)

def lamDefs : List Str := ["_law_far_right", "_law_refused_right"]
abbrev T (K : PySem.W.Frag) : List NTab := nT (TT K lamDefs)
def excs (K : PySem.W.Frag) : List Addr := [He.ga K "TooMany", He.ga K "NoNumber", He.ga K "NoSign", He.ga K "NoRule", He.ga K "NoSigns"]
structure Fc (K : PySem.W.Frag) (mg : Str → Option Value) : Prop where
  b_ValueError : mg "ValueError" = none
  b_abs : mg "abs" = none
  b_all : mg "all" = none
  b_bool : mg "bool" = none
  b_int : mg "int" = none
  b_isinstance : mg "isinstance" = none
  b_len : mg "len" = none
  b_max : mg "max" = none
  b_range : mg "range" = none
  b_sum : mg "sum" = none
  b_tuple : mg "tuple" = none
  b_zip : mg "zip" = none
  MOST_SIGNS : ∃ t, mg "MOST_SIGNS" = some (.int 40 t)
  MOST_PUT : ∃ t, mg "MOST_PUT" = some (.int 4 t)
  MOST_ROW : ∃ t, mg "MOST_ROW" = some (.int 400 t)
  MOST_GROWN : ∃ t, mg "MOST_GROWN" = some (.int 20000 t)
  MOST_TIMES : ∃ t, mg "MOST_TIMES" = some (.int 200 t)
  g_is_integer : mg "is_integer" = some (.ref (He.ga K "is_integer"))
  g_is_within : mg "is_within" = some (.ref (He.ga K "is_within"))
  g_are_signs : mg "are_signs" = some (.ref (He.ga K "are_signs"))
  g_is_rule : mg "is_rule" = some (.ref (He.ga K "is_rule"))
  g_check_rule : mg "check_rule" = some (.ref (He.ga K "check_rule"))
  g_check_sign : mg "check_sign" = some (.ref (He.ga K "check_sign"))
  g_check_signs : mg "check_signs" = some (.ref (He.ga K "check_signs"))
  g_check_times : mg "check_times" = some (.ref (He.ga K "check_times"))
  g_raw_grow : mg "raw_grow" = some (.ref (He.ga K "raw_grow"))
  g_grow : mg "grow" = some (.ref (He.ga K "grow"))
  g_grow_often : mg "grow_often" = some (.ref (He.ga K "grow_often"))
  g_counts_grown : mg "counts_grown" = some (.ref (He.ga K "counts_grown"))
  g_raw_signs_grown : mg "raw_signs_grown" = some (.ref (He.ga K "raw_signs_grown"))
  g_signs_grown : mg "signs_grown" = some (.ref (He.ga K "signs_grown"))
  g_size_grown : mg "size_grown" = some (.ref (He.ga K "size_grown"))
  g__law_hand : mg "_law_hand" = some (.ref (He.ga K "_law_hand"))
  g__law_draw : mg "_law_draw" = some (.ref (He.ga K "_law_draw"))
  g__law_any : mg "_law_any" = some (.ref (He.ga K "_law_any"))
  g__law_rule : mg "_law_rule" = some (.ref (He.ga K "_law_rule"))
  g__law_step : mg "_law_step" = some (.ref (He.ga K "_law_step"))
  g__law_sums : mg "_law_sums" = some (.ref (He.ga K "_law_sums"))
  g__law_error : mg "_law_error" = some (.ref (He.ga K "_law_error"))
  g__law_steps_right : mg "_law_steps_right" = some (.ref (He.ga K "_law_steps_right"))
  g__law_far_right : mg "_law_far_right" = some (.ref (He.ga K "_law_far_right"))
  g__law_bent : mg "_law_bent" = some (.ref (He.ga K "_law_bent"))
  g__law_refused_right : mg "_law_refused_right" = some (.ref (He.ga K "_law_refused_right"))
  g_law : mg "law" = some (.ref (He.ga K "law"))
  NumeralError : Exn0 K mg "NumeralError" (He.ga K "NumeralError")
  TooMany : Exn K mg "TooMany" (He.ga K "TooMany")
  NoNumber : Exn0 K mg "NoNumber" (He.ga K "NoNumber")
  NoSign : Exn0 K mg "NoSign" (He.ga K "NoSign")
  NoRule : Exn0 K mg "NoRule" (He.ga K "NoRule")
  NoSigns : Exn0 K mg "NoSigns" (He.ga K "NoSigns")
  exC : ∀ D ∈ excs K, ExcC K D
  tabs : (lamDefs.map fun x => (He.cT K (x, none)).2).Nodup
section
variable {P : Program} {w : World} {K : PySem.W.Frag} {mg : Str → Option Value} {base : Heap}
/-! ### is_integer -/
theorem sc_is_integer : FnScope ["thing"] ["thing"] (defScope (top 8)) := ⟨rfl, rfl, rfl, by decide +kernel, rfl, by decide +kernel, by decide +kernel⟩
def m_is_integer (K : PySem.W.Frag) : S := retS (andE (bnd (args [vV 0, ret (.ty "int")]) (isD kfB)) (notE (bnd (args [vV 0, ret (.ty "bool")]) (isD kfB))))
def r_is_integer (K : PySem.W.Frag) (ds : List D) : Rc := runP 0 (m_is_integer K) ds
theorem ok_is_integer {f : Addr} {fd : FuncData} (F : FunD K "is_integer" "is_integer" (defArgs (top 8)) (defBody (top 8)) (defScope (top 8)) [] [] f fd) (c : Fc K mg)  :
    FnOk P w K mg base (L2N.CX P w) 2 f fd ["thing"] (spP K (T K) 1 (r_is_integer K)) := by
  refine F.ok sc_is_integer (lenP rfl) fun cdv A outer s H vs Q E hr h => ?_
  obtain ⟨F0, h0⟩ := body_P (T := T K) (N := ["thing"]) (k := 0) rfl h
  exact ⟨LS K (gxOf (T K) F0 H [] E) (m_is_integer K), (iss_one (is_ret (ps_ret (ie_and (ie_bn call_isi (cn_is ktB) rfl c.b_isinstance bt_isinstance (ia_cons (ie_var (pv 0)) (ia_cons (ie_bltn rfl c.b_int bt_int) ia_nil))) (ie_one (ie_not (ie_bn call_isi (cn_is ktB) rfl c.b_isinstance bt_isinstance (ia_cons (ie_var (pv 0)) (ia_cons (ie_bltn rfl c.b_bool bt_bool) ia_nil))))))))), h0⟩
/-! ### is_within -/
theorem sc_is_within : FnScope ["thing", "low", "high"] ["thing", "low", "high"] (defScope (top 9)) := ⟨rfl, rfl, rfl, by decide +kernel, rfl, by decide +kernel, by decide +kernel⟩
def m_is_within (K : PySem.W.Frag) : S := retS (andE (cl (r_is_integer K) (args [vV 0])) (ch leD leD (vV 1) (vV 0) (vV 2)))
def r_is_within (K : PySem.W.Frag) (ds : List D) : Rc := runP 0 (m_is_within K) ds
theorem ok_is_within {f : Addr} {fd : FuncData} (F : FunD K "is_within" "is_within" (defArgs (top 9)) (defBody (top 9)) (defScope (top 9)) [] [] f fd) (c : Fc K mg) (h_is_integer : Known P w K mg base "is_integer" 2 1 (spP K (T K) 1 (r_is_integer K))) :
    FnOk P w K mg base (L2N.CX P w) 3 f fd ["thing", "low", "high"] (spP K (T K) 3 (r_is_within K)) := by
  refine F.ok sc_is_within (lenP rfl) fun cdv A outer s H vs Q E hr h => ?_
  obtain ⟨F0, h0⟩ := body_P (T := T K) (N := ["thing", "low", "high"]) (k := 0) rfl h
  exact ⟨LS K (gxOf (T K) F0 H [] E) (m_is_within K), (iss_one (is_ret (ps_ret (ie_and (ie_call h_is_integer hr rfl hxOf (ia_cons (ie_var (pv 0)) ia_nil)) (ie_one (ie_chain op_le op_le os_leD os_leD (ie_var (pv 1)) (ie_var (pv 0)) (ie_var (pv 2)))))))), h0⟩
/-! ### are_signs -/
theorem sc_are_signs : FnScope ["many", "most", "thing", "sign"] ["many", "most", "thing"] (defScope (top 16)) := ⟨rfl, rfl, rfl, by decide +kernel, rfl, by decide +kernel, by decide +kernel⟩
def el_are_signs_0 (K : PySem.W.Frag) : D → M (Option D) := stE (tg1 3) (yes) (cl (r_is_within K) (args [vV 3, ret (.int 1), vV 0]))
def m_are_signs (K : PySem.W.Frag) : S := sq (ifS (orT (notT (asB (bnd (args [vV 2, ret (.ty "tuple")]) (isD kfB)))) (asB (b2 gtD (bnd (vP 2) lenD) (vV 1)))) (retS (ret (.bl false))) (nxt))
    (retS (bnd (frz (lcAn [3] (vV 2) (el_are_signs_0 K))) allD))
def r_are_signs (K : PySem.W.Frag) (ds : List D) : Rc := runP 1 (m_are_signs K) ds
theorem ok_are_signs {f : Addr} {fd : FuncData} (F : FunD K "are_signs" "are_signs" (defArgs (top 16)) (defBody (top 16)) (defScope (top 16)) [] [] f fd) (c : Fc K mg) (h_is_within : Known P w K mg base "is_within" 3 3 (spP K (T K) 3 (r_is_within K))) :
    FnOk P w K mg base (L2N.CX P w) 4 f fd ["many", "most", "thing"] (spP K (T K) 3 (r_are_signs K)) := by
  refine F.ok sc_are_signs (lenP rfl) fun cdv A outer s H vs Q E hr h => ?_
  obtain ⟨F0, h0⟩ := body_P (T := T K) (N := ["many", "most", "thing", "sign"]) (k := 1) rfl h
  exact ⟨LS K (gxOf (T K) F0 H [] E) (m_are_signs K), (iss_cons (is_if (it_w (iw_or (it_not (it_val (ie_bn call_isi (cn_is ktB) rfl c.b_isinstance bt_isinstance (ia_cons (ie_var (pv 2)) (ia_cons (ie_bltn rfl c.b_tuple bt_tuple) ia_nil))))) (iw_or1 (it_cmp op_gt os_gtD (ie_b1 call_len c1_len rfl c.b_len bt_len (iq_var (pv 2))) (ie_var (pv 1)) (nomark _))))) (iss_one (is_ret (ps_ret ie_bl))) iss_nil)
    (iss_one (is_ret (ps_ret (ie_b1 (cr_all rfl) c1_all rfl c.b_all bt_all (iq_frz (if_lcA (tgE1 (by decide)) (pe_lc (own := [("sign", 3)]) rfl sc_are_signs.nd (pi_any (ie_var (pv 2))) (blkOk_by (N := ["many", "most", "thing", "sign"]) (sc := defScope (top 16)) (by decide +kernel)) (fun _ _ _ _ _ => (pg_name (i := 3) sc_are_signs.nd rfl (Or.inl rfl))) (fun _ _ _ _ _ => pts_yes) (fun _ _ _ _ _ => pe_ex fun _ _ _ => (ie_call h_is_within hr rfl passNo (ia_cons (ie_var (pv 3)) (ia_cons ie_int (ia_cons (ie_var (pv 0)) ia_nil))))))))))))), h0⟩
/-! ### is_rule -/
theorem sc_is_rule : FnScope ["thing", "word"] ["thing"] (defScope (top 17)) := ⟨rfl, rfl, rfl, by decide +kernel, rfl, by decide +kernel, by decide +kernel⟩
def el_is_rule_0 (K : PySem.W.Frag) : D → M (Option D) := stE (tg1 1) (yes) (andE (cl (r_are_signs K) (args [bnd (vP 0) lenD, ret (.int 4), vV 1])) (b2 gtD (bnd (vP 1) lenD) (ret (.int 0))))
def m_is_rule (K : PySem.W.Frag) : S := sq (ifS (orT (notT (asB (bnd (args [vV 0, ret (.ty "tuple")]) (isD kfB)))) (notT (asB (ch leD leD (ret (.int 1)) (bnd (vP 0) lenD) (ret (.int 40)))))) (retS (ret (.bl false))) (nxt))
    (retS (bnd (frz (lcAn [1] (vV 0) (el_is_rule_0 K))) allD))
def r_is_rule (K : PySem.W.Frag) (ds : List D) : Rc := runP 1 (m_is_rule K) ds
theorem ok_is_rule {f : Addr} {fd : FuncData} (F : FunD K "is_rule" "is_rule" (defArgs (top 17)) (defBody (top 17)) (defScope (top 17)) [] [] f fd) (c : Fc K mg) (h_are_signs : Known P w K mg base "are_signs" 4 3 (spP K (T K) 3 (r_are_signs K))) :
    FnOk P w K mg base (L2N.CX P w) 5 f fd ["thing"] (spP K (T K) 1 (r_is_rule K)) := by
  refine F.ok sc_is_rule (lenP rfl) fun cdv A outer s H vs Q E hr h => ?_
  obtain ⟨F0, h0⟩ := body_P (T := T K) (N := ["thing", "word"]) (k := 1) rfl h
  exact ⟨LS K (gxOf (T K) F0 H [] E) (m_is_rule K), (iss_cons (is_if (it_w (iw_or (it_not (it_val (ie_bn call_isi (cn_is ktB) rfl c.b_isinstance bt_isinstance (ia_cons (ie_var (pv 0)) (ia_cons (ie_bltn rfl c.b_tuple bt_tuple) ia_nil))))) (iw_or1 (it_not (it_chain op_le op_le os_leD os_leD ie_int (ie_b1 call_len c1_len rfl c.b_len bt_len (iq_var (pv 0))) (ie_gint rfl c.MOST_SIGNS)))))) (iss_one (is_ret (ps_ret ie_bl))) iss_nil)
    (iss_one (is_ret (ps_ret (ie_b1 (cr_all rfl) c1_all rfl c.b_all bt_all (iq_frz (if_lcA (tgE1 (by decide)) (pe_lc (own := [("word", 1)]) rfl sc_is_rule.nd (pi_any (ie_var (pv 0))) (blkOk_by (N := ["thing", "word"]) (sc := defScope (top 17)) (by decide +kernel)) (fun _ _ _ _ _ => (pg_name (i := 1) sc_is_rule.nd rfl (Or.inl rfl))) (fun _ _ _ _ _ => pts_yes) (fun _ _ _ _ _ => pe_ex fun _ _ _ => (ie_and (ie_call h_are_signs hr rfl passNo (ia_cons (ie_b1 call_len c1_len rfl c.b_len bt_len (iq_var (pv 0))) (ia_cons (ie_gint rfl c.MOST_PUT) (ia_cons (ie_var (pv 1)) ia_nil)))) (ie_one (ie_cmp op_gt os_gtD (ie_b1 call_len c1_len rfl c.b_len bt_len (iq_var (pv 1))) ie_int (nomark _))))))))))))), h0⟩
/-! ### check_rule -/
theorem sc_check_rule : FnScope ["rule"] ["rule"] (defScope (top 18)) := ⟨rfl, rfl, rfl, by decide +kernel, rfl, by decide +kernel, by decide +kernel⟩
def m_check_rule (K : PySem.W.Frag) : S := ifS (notT (asB (cl (r_is_rule K) (args [vV 0])))) (exS (He.ga K "NoRule")) (nxt)
def r_check_rule (K : PySem.W.Frag) (ds : List D) : Rc := runP 0 (m_check_rule K) ds
theorem ok_check_rule {f : Addr} {fd : FuncData} (F : FunD K "check_rule" "check_rule" (defArgs (top 18)) (defBody (top 18)) (defScope (top 18)) [] [] f fd) (c : Fc K mg) (h_is_rule : Known P w K mg base "is_rule" 5 1 (spP K (T K) 1 (r_is_rule K))) :
    FnOk P w K mg base (L2N.CX P w) 6 f fd ["rule"] (spP K (T K) 1 (r_check_rule K)) := by
  refine F.ok sc_check_rule (lenP rfl) fun cdv A outer s H vs Q E hr h => ?_
  obtain ⟨F0, h0⟩ := body_P (T := T K) (N := ["rule"]) (k := 0) rfl h
  exact ⟨LS K (gxOf (T K) F0 H [] E) (m_check_rule K), (iss_one (is_if (it_not (it_val (ie_call h_is_rule hr rfl hxOf (ia_cons (ie_var (pv 0)) ia_nil)))) (iss_one (is_raise0 c.NoRule rfl rfl tkOf)) iss_nil)), h0⟩
/-! ### check_sign -/
theorem sc_check_sign : FnScope ["rule", "sign"] ["rule", "sign"] (defScope (top 19)) := ⟨rfl, rfl, rfl, by decide +kernel, rfl, by decide +kernel, by decide +kernel⟩
def m_check_sign (K : PySem.W.Frag) : S := sq (dropS (cl (r_check_rule K) (args [vV 0])))
    (ifS (notT (asB (cl (r_is_within K) (args [vV 1, ret (.int 1), bnd (vP 0) lenD])))) (exS (He.ga K "NoSign")) (nxt))
def r_check_sign (K : PySem.W.Frag) (ds : List D) : Rc := runP 0 (m_check_sign K) ds
theorem ok_check_sign {f : Addr} {fd : FuncData} (F : FunD K "check_sign" "check_sign" (defArgs (top 19)) (defBody (top 19)) (defScope (top 19)) [] [] f fd) (c : Fc K mg) (h_is_within : Known P w K mg base "is_within" 3 3 (spP K (T K) 3 (r_is_within K))) (h_check_rule : Known P w K mg base "check_rule" 6 1 (spP K (T K) 1 (r_check_rule K))) :
    FnOk P w K mg base (L2N.CX P w) 7 f fd ["rule", "sign"] (spP K (T K) 2 (r_check_sign K)) := by
  refine F.ok sc_check_sign (lenP rfl) fun cdv A outer s H vs Q E hr h => ?_
  obtain ⟨F0, h0⟩ := body_P (T := T K) (N := ["rule", "sign"]) (k := 0) rfl h
  exact ⟨LS K (gxOf (T K) F0 H [] E) (m_check_sign K), (iss_cons (is_expr (ps_expr (ie_call h_check_rule hr rfl hxOf (ia_cons (ie_var (pv 0)) ia_nil))))
    (iss_one (is_if (it_not (it_val (ie_call h_is_within hr rfl hxOf (ia_cons (ie_var (pv 1)) (ia_cons ie_int (ia_cons (ie_b1 call_len c1_len rfl c.b_len bt_len (iq_var (pv 0))) ia_nil)))))) (iss_one (is_raise0 c.NoSign rfl rfl tkOf)) iss_nil))), h0⟩
/-! ### check_signs -/
theorem sc_check_signs : FnScope ["rule", "signs"] ["rule", "signs"] (defScope (top 20)) := ⟨rfl, rfl, rfl, by decide +kernel, rfl, by decide +kernel, by decide +kernel⟩
def m_check_signs (K : PySem.W.Frag) : S := sq (dropS (cl (r_check_rule K) (args [vV 0])))
    (ifS (notT (asB (cl (r_are_signs K) (args [bnd (vP 0) lenD, ret (.int 400), vV 1])))) (exS (He.ga K "NoSigns")) (nxt))
def r_check_signs (K : PySem.W.Frag) (ds : List D) : Rc := runP 0 (m_check_signs K) ds
theorem ok_check_signs {f : Addr} {fd : FuncData} (F : FunD K "check_signs" "check_signs" (defArgs (top 20)) (defBody (top 20)) (defScope (top 20)) [] [] f fd) (c : Fc K mg) (h_are_signs : Known P w K mg base "are_signs" 4 3 (spP K (T K) 3 (r_are_signs K))) (h_check_rule : Known P w K mg base "check_rule" 6 1 (spP K (T K) 1 (r_check_rule K))) :
    FnOk P w K mg base (L2N.CX P w) 7 f fd ["rule", "signs"] (spP K (T K) 2 (r_check_signs K)) := by
  refine F.ok sc_check_signs (lenP rfl) fun cdv A outer s H vs Q E hr h => ?_
  obtain ⟨F0, h0⟩ := body_P (T := T K) (N := ["rule", "signs"]) (k := 0) rfl h
  exact ⟨LS K (gxOf (T K) F0 H [] E) (m_check_signs K), (iss_cons (is_expr (ps_expr (ie_call h_check_rule hr rfl hxOf (ia_cons (ie_var (pv 0)) ia_nil))))
    (iss_one (is_if (it_not (it_val (ie_call h_are_signs hr rfl hxOf (ia_cons (ie_b1 call_len c1_len rfl c.b_len bt_len (iq_var (pv 0))) (ia_cons (ie_gint rfl c.MOST_ROW) (ia_cons (ie_var (pv 1)) ia_nil)))))) (iss_one (is_raise0 c.NoSigns rfl rfl tkOf)) iss_nil))), h0⟩
/-! ### check_times -/
theorem sc_check_times : FnScope ["times"] ["times"] (defScope (top 21)) := ⟨rfl, rfl, rfl, by decide +kernel, rfl, by decide +kernel, by decide +kernel⟩
def m_check_times (K : PySem.W.Frag) : S := ifS (notT (asB (cl (r_is_within K) (args [vV 0, ret (.int 0), ret (.int 200)])))) (exS (He.ga K "NoNumber")) (nxt)
def r_check_times (K : PySem.W.Frag) (ds : List D) : Rc := runP 0 (m_check_times K) ds
theorem ok_check_times {f : Addr} {fd : FuncData} (F : FunD K "check_times" "check_times" (defArgs (top 21)) (defBody (top 21)) (defScope (top 21)) [] [] f fd) (c : Fc K mg) (h_is_within : Known P w K mg base "is_within" 3 3 (spP K (T K) 3 (r_is_within K))) :
    FnOk P w K mg base (L2N.CX P w) 4 f fd ["times"] (spP K (T K) 1 (r_check_times K)) := by
  refine F.ok sc_check_times (lenP rfl) fun cdv A outer s H vs Q E hr h => ?_
  obtain ⟨F0, h0⟩ := body_P (T := T K) (N := ["times"]) (k := 0) rfl h
  exact ⟨LS K (gxOf (T K) F0 H [] E) (m_check_times K), (iss_one (is_if (it_not (it_val (ie_call h_is_within hr rfl hxOf (ia_cons (ie_var (pv 0)) (ia_cons ie_int (ia_cons (ie_gint rfl c.MOST_TIMES) ia_nil)))))) (iss_one (is_raise0 c.NoNumber rfl rfl tkOf)) iss_nil)), h0⟩
/-! ### raw_grow -/
theorem sc_raw_grow : FnScope ["rule", "signs", "found", "sign"] ["rule", "signs"] (defScope (top 22)) := ⟨rfl, rfl, rfl, by decide +kernel, rfl, by decide +kernel, by decide +kernel⟩
def lp_raw_grow_0 (K : PySem.W.Frag) : D → S := stp 3 (dropS (meV 2 (args [b2 ixD (vV 0) (b2 subD (vV 3) (ret (.int 1)))]) gExt))
def m_raw_grow (K : PySem.W.Frag) : S := sq (setO 2 (lstF (args [])))
    (sq (forA [3] (vV 1) (lp_raw_grow_0 K))
    (retS (bnd (vP 2) tupD)))
def r_raw_grow (K : PySem.W.Frag) (ds : List D) : Rc := runP 2 (m_raw_grow K) ds
theorem ok_raw_grow {f : Addr} {fd : FuncData} (F : FunD K "raw_grow" "raw_grow" (defArgs (top 22)) (defBody (top 22)) (defScope (top 22)) [] [] f fd) (c : Fc K mg)  :
    FnOk P w K mg base (L2N.CX P w) 2 f fd ["rule", "signs"] (spP K (T K) 2 (r_raw_grow K)) := by
  refine F.ok sc_raw_grow (lenP rfl) fun cdv A outer s H vs Q E hr h => ?_
  obtain ⟨F0, h0⟩ := body_P (T := T K) (N := ["rule", "signs", "found", "sign"]) (k := 2) rfl h
  exact ⟨LS K (gxOf (T K) F0 H [] E) (m_raw_grow K), (iss_cons (is_setO (ps_set (i := 2) sc_raw_grow.nd rfl (Or.inl rfl) (if_lst ia_nil)))
    (iss_cons (is_forA [3] tg_name (ps_for (L2.passes_of rfl) rfl (pi_any (ie_var (pv 1))) (pg_name (i := 3) sc_raw_grow.nd rfl (Or.inl rfl)) (iss_one (is_expr (ps_expr (ie_ext (pv 2) (ia_cons (ie_ix (ie_var (pv 0)) (ie_bin op_subD os_subD (ie_var (pv 3)) ie_int)) ia_nil)))))))
    (iss_one (is_ret (ps_ret (ie_t1 call_tupleX c1_tup rfl c.b_tuple bt_tuple (iq_var (pv 2)))))))), h0⟩
/-! ### grow -/
theorem sc_grow : FnScope ["rule", "signs"] ["rule", "signs"] (defScope (top 23)) := ⟨rfl, rfl, rfl, by decide +kernel, rfl, by decide +kernel, by decide +kernel⟩
def m_grow (K : PySem.W.Frag) : S := sq (dropS (cl (r_check_signs K) (args [vV 0, vV 1])))
    (retS (cl (r_raw_grow K) (args [vV 0, vV 1])))
def r_grow (K : PySem.W.Frag) (ds : List D) : Rc := runP 0 (m_grow K) ds
theorem ok_grow {f : Addr} {fd : FuncData} (F : FunD K "grow" "grow" (defArgs (top 23)) (defBody (top 23)) (defScope (top 23)) [] [] f fd) (c : Fc K mg) (h_check_signs : Known P w K mg base "check_signs" 7 2 (spP K (T K) 2 (r_check_signs K))) (h_raw_grow : Known P w K mg base "raw_grow" 2 2 (spP K (T K) 2 (r_raw_grow K))) :
    FnOk P w K mg base (L2N.CX P w) 8 f fd ["rule", "signs"] (spP K (T K) 2 (r_grow K)) := by
  refine F.ok sc_grow (lenP rfl) fun cdv A outer s H vs Q E hr h => ?_
  obtain ⟨F0, h0⟩ := body_P (T := T K) (N := ["rule", "signs"]) (k := 0) rfl h
  exact ⟨LS K (gxOf (T K) F0 H [] E) (m_grow K), (iss_cons (is_expr (ps_expr (ie_call h_check_signs hr rfl hxOf (ia_cons (ie_var (pv 0)) (ia_cons (ie_var (pv 1)) ia_nil)))))
    (iss_one (is_ret (ps_ret (ie_call h_raw_grow hr rfl hxOf (ia_cons (ie_var (pv 0)) (ia_cons (ie_var (pv 1)) ia_nil))))))), h0⟩
/-! ### grow_often -/
theorem sc_grow_often : FnScope ["rule", "signs", "times", "found", "turn", "sign"] ["rule", "signs", "times"] (defScope (top 24)) := ⟨rfl, rfl, rfl, by decide +kernel, rfl, by decide +kernel, by decide +kernel⟩
def el_grow_often_0 (K : PySem.W.Frag) : D → M (Option D) := stE (tg1 5) (yes) (bnd (b2 ixD (vV 0) (b2 subD (vV 5) (ret (.int 1)))) lenD)
def lp_grow_often_1 (K : PySem.W.Frag) : D → S := stp 4 (sq (ifS (asB (b2 gtD (bnd (frz (lcAn [5] (vV 3) (el_grow_often_0 K))) sumD) (ret (.int 20000)))) (exM (He.ga K "TooMany") "most" (args [ret (.int 20000)])) (nxt))
    (setS 3 (cl (r_raw_grow K) (args [vV 0, vV 3]))))
def m_grow_often (K : PySem.W.Frag) : S := sq (dropS (cl (r_check_signs K) (args [vV 0, vV 1])))
    (sq (dropS (cl (r_check_times K) (args [vV 2])))
    (sq (setS 3 (vV 1))
    (sq (forR1 [4, 5] (vV 2) (lp_grow_often_1 K))
    (retS (vV 3)))))
def r_grow_often (K : PySem.W.Frag) (ds : List D) : Rc := runP 3 (m_grow_often K) ds
theorem ok_grow_often {f : Addr} {fd : FuncData} (F : FunD K "grow_often" "grow_often" (defArgs (top 24)) (defBody (top 24)) (defScope (top 24)) [] [] f fd) (c : Fc K mg) (h_check_signs : Known P w K mg base "check_signs" 7 2 (spP K (T K) 2 (r_check_signs K))) (h_check_times : Known P w K mg base "check_times" 4 1 (spP K (T K) 1 (r_check_times K))) (h_raw_grow : Known P w K mg base "raw_grow" 2 2 (spP K (T K) 2 (r_raw_grow K))) (h_TooMany : KnownI P w K mg base "TooMany" (He.ga K "TooMany") "most") :
    FnOk P w K mg base (L2N.CX P w) 8 f fd ["rule", "signs", "times"] (spP K (T K) 3 (r_grow_often K)) := by
  refine F.ok sc_grow_often (lenP rfl) fun cdv A outer s H vs Q E hr h => ?_
  obtain ⟨F0, h0⟩ := body_P (T := T K) (N := ["rule", "signs", "times", "found", "turn", "sign"]) (k := 3) rfl h
  exact ⟨LS K (gxOf (T K) F0 H [] E) (m_grow_often K), (iss_cons (is_expr (ps_expr (ie_call h_check_signs hr rfl hxOf (ia_cons (ie_var (pv 0)) (ia_cons (ie_var (pv 1)) ia_nil)))))
    (iss_cons (is_expr (ps_expr (ie_call h_check_times hr rfl hxOf (ia_cons (ie_var (pv 2)) ia_nil))))
    (iss_cons (is_set (ps_set (i := 3) sc_grow_often.nd rfl (Or.inl rfl) (ie_var (pv 1))))
    (iss_cons (is_forR1 [4, 5] tg_name (ps_for (L2.passes_of rfl) rfl (pi_range1 rfl c.b_range (pa_cons (ie_var (pv 2)) pa_nil)) (pg_name (i := 4) sc_grow_often.nd rfl (Or.inl rfl)) (iss_cons (is_if (it_cmp op_gt os_gtD (ie_b1 (cr_sum rfl) c1_sum rfl c.b_sum bt_sum (iq_frz (if_lcA (tgE1 (by decide)) (pe_lc (own := [("sign", 5)]) rfl sc_grow_often.nd (pi_any (ie_var (pv 3))) (blkOk_by (N := ["rule", "signs", "times", "found", "turn", "sign"]) (sc := defScope (top 24)) (by decide +kernel)) (fun _ _ _ _ _ => (pg_name (i := 5) sc_grow_often.nd rfl (Or.inl rfl))) (fun _ _ _ _ _ => pts_yes) (fun _ _ _ _ _ => pe_ex fun _ _ _ => (ie_b1 call_len c1_len rfl c.b_len bt_len (q_of (ie_ix (ie_var (pv 0)) (ie_bin op_subD os_subD (ie_var (pv 5)) ie_int))))))))) (ie_gint rfl c.MOST_GROWN) (nomark _)) (iss_one (is_raise1 h_TooMany hr rfl rfl tkOf (ia_cons (ie_gint rfl c.MOST_GROWN) ia_nil))) iss_nil)
    (iss_one (is_set (ps_set (i := 3) sc_grow_often.nd rfl (Or.inl rfl) (ie_call h_raw_grow hr rfl hxOf (ia_cons (ie_var (pv 0)) (ia_cons (ie_var (pv 3)) ia_nil)))))))))
    (iss_one (is_ret (ps_ret (ie_var (pv 3))))))))), h0⟩
/-! ### counts_grown -/
theorem sc_counts_grown : FnScope ["rule", "counts", "found", "word", "many", "sign"] ["rule", "counts"] (defScope (top 25)) := ⟨rfl, rfl, rfl, by decide +kernel, rfl, by decide +kernel, by decide +kernel⟩
def lp_counts_grown_0 (K : PySem.W.Frag) : D → S := stp 5 (subS 2 (b2 addD (ixV 2 (b2 subD (vV 5) (ret (.int 1)))) (vV 4)) (b2 subD (vV 5) (ret (.int 1))))
def lp_counts_grown_1 (K : PySem.W.Frag) : D → S := stp2 3 4 (forA [5] (vV 3) (lp_counts_grown_0 K))
def m_counts_grown (K : PySem.W.Frag) : S := sq (setO 2 (repF (frz (lstF (args [ret (.int 0)]))) (bnd (vP 0) lenD)))
    (sq (forZ [3, 4, 5] (vV 0) (vV 1) (lp_counts_grown_1 K))
    (retS (vV 2)))
def r_counts_grown (K : PySem.W.Frag) (ds : List D) : Rc := runP 4 (m_counts_grown K) ds
theorem ok_counts_grown {f : Addr} {fd : FuncData} (F : FunD K "counts_grown" "counts_grown" (defArgs (top 25)) (defBody (top 25)) (defScope (top 25)) [] [] f fd) (c : Fc K mg)  :
    FnOk P w K mg base (L2N.CX P w) 2 f fd ["rule", "counts"] (spP K (T K) 2 (r_counts_grown K)) := by
  refine F.ok sc_counts_grown (lenP rfl) fun cdv A outer s H vs Q E hr h => ?_
  obtain ⟨F0, h0⟩ := body_P (T := T K) (N := ["rule", "counts", "found", "word", "many", "sign"]) (k := 4) rfl h
  exact ⟨LS K (gxOf (T K) F0 H [] E) (m_counts_grown K), (iss_cons (is_setO (ps_set (i := 2) sc_counts_grown.nd rfl (Or.inl rfl) (if_rep (ie_frz (if_lst (ia_cons ie_int ia_nil))) (ie_b1 call_len c1_len rfl c.b_len bt_len (iq_var (pv 0))))))
    (iss_cons (is_forZ [3, 4, 5] (ps_for (L2.passes_of rfl) rfl (pi_zipM rfl c.b_zip (pa_cons (ie_var (pv 0)) (pa_cons (ie_var (pv 1)) pa_nil))) (pg_tup rfl (pgs_cons (pg_name (i := 3) sc_counts_grown.nd rfl (Or.inl rfl)) (pgs_cons (pg_name (i := 4) sc_counts_grown.nd rfl (Or.inl rfl)) pgs_nil))) (iss_one (is_forA [5] tg_name (ps_for (L2.passes_of rfl) rfl (pi_any (ie_var (pv 3))) (pg_name (i := 5) sc_counts_grown.nd rfl (Or.inl rfl)) (iss_one (is_sub (ps_asg (ie_bin op_addD os_addD (ie_ixV (pv 2) (ie_bin op_subD os_subD (ie_var (pv 5)) ie_int)) (ie_var (pv 4))) (pg_sub (pv 2) (ie_bin op_subD os_subD (ie_var (pv 5)) ie_int) set_list)))))))))
    (iss_one (is_ret (ps_ret (ie_var (pv 2))))))), h0⟩
/-! ### raw_signs_grown -/
theorem sc_raw_signs_grown : FnScope ["rule", "sign", "times", "counts", "turn", "one"] ["rule", "sign", "times"] (defScope (top 26)) := ⟨rfl, rfl, rfl, by decide +kernel, rfl, by decide +kernel, by decide +kernel⟩
def el_raw_signs_grown_0 (K : PySem.W.Frag) : D → M (Option D) := stE (tg1 5) (yes) (bnd (b2 eqD (vV 5) (b2 subD (vV 1) (ret (.int 1)))) intD)
def lp_raw_signs_grown_1 (K : PySem.W.Frag) : D → S := stp 4 (setS 3 (cl (r_counts_grown K) (args [vV 0, vV 3])))
def m_raw_signs_grown (K : PySem.W.Frag) : S := sq (setS 3 (frz (lcR1 [5] (bnd (vP 0) lenD) (el_raw_signs_grown_0 K))))
    (sq (forR1 [4] (vV 2) (lp_raw_signs_grown_1 K))
    (retS (vV 3)))
def r_raw_signs_grown (K : PySem.W.Frag) (ds : List D) : Rc := runP 3 (m_raw_signs_grown K) ds
theorem ok_raw_signs_grown {f : Addr} {fd : FuncData} (F : FunD K "raw_signs_grown" "raw_signs_grown" (defArgs (top 26)) (defBody (top 26)) (defScope (top 26)) [] [] f fd) (c : Fc K mg) (h_counts_grown : Known P w K mg base "counts_grown" 2 2 (spP K (T K) 2 (r_counts_grown K))) :
    FnOk P w K mg base (L2N.CX P w) 3 f fd ["rule", "sign", "times"] (spP K (T K) 3 (r_raw_signs_grown K)) := by
  refine F.ok sc_raw_signs_grown (lenP rfl) fun cdv A outer s H vs Q E hr h => ?_
  obtain ⟨F0, h0⟩ := body_P (T := T K) (N := ["rule", "sign", "times", "counts", "turn", "one"]) (k := 3) rfl h
  exact ⟨LS K (gxOf (T K) F0 H [] E) (m_raw_signs_grown K), (iss_cons (is_set (setF (ia_lcR1 (tgE1 (by decide)) (ps_setLc (i := 3) (own := [("one", 5)]) rfl sc_raw_signs_grown.nd rfl rfl (sw_true rfl rfl rfl (by decide +kernel)) (pi_range1 rfl c.b_range (pa_cons (ie_b1 call_len c1_len rfl c.b_len bt_len (iq_var (pv 0))) pa_nil)) (blkOk_by (N := ["rule", "sign", "times", "counts", "turn", "one"]) (sc := defScope (top 26)) (by decide +kernel)) (fun _ _ _ _ _ => (pg_name (i := 5) sc_raw_signs_grown.nd rfl (Or.inl rfl))) (fun _ _ _ _ _ => pts_yes) (fun _ _ _ _ _ => pe_ex fun _ _ _ => (ie_t1 call_int1 c1_int rfl c.b_int bt_int (q_of (ie_cmp (op_eqD (Room.units hr)) os_eqD (ie_var (pv 5)) (ie_bin op_subD os_subD (ie_var (pv 1)) ie_int) (nomark _)))))))))
    (iss_cons (is_forR1 [4] tg_name (ps_for (L2.passes_of rfl) rfl (pi_range1 rfl c.b_range (pa_cons (ie_var (pv 2)) pa_nil)) (pg_name (i := 4) sc_raw_signs_grown.nd rfl (Or.inl rfl)) (iss_one (is_set (ps_set (i := 3) sc_raw_signs_grown.nd rfl (Or.inl rfl) (ie_call h_counts_grown hr rfl hxOf (ia_cons (ie_var (pv 0)) (ia_cons (ie_var (pv 3)) ia_nil))))))))
    (iss_one (is_ret (ps_ret (ie_var (pv 3))))))), h0⟩
/-! ### signs_grown -/
theorem sc_signs_grown : FnScope ["rule", "sign", "times"] ["rule", "sign", "times"] (defScope (top 27)) := ⟨rfl, rfl, rfl, by decide +kernel, rfl, by decide +kernel, by decide +kernel⟩
def m_signs_grown (K : PySem.W.Frag) : S := sq (dropS (cl (r_check_sign K) (args [vV 0, vV 1])))
    (sq (dropS (cl (r_check_times K) (args [vV 2])))
    (retS (bnd (cl (r_raw_signs_grown K) (args [vV 0, vV 1, vV 2])) tupD)))
def r_signs_grown (K : PySem.W.Frag) (ds : List D) : Rc := runP 0 (m_signs_grown K) ds
theorem ok_signs_grown {f : Addr} {fd : FuncData} (F : FunD K "signs_grown" "signs_grown" (defArgs (top 27)) (defBody (top 27)) (defScope (top 27)) [] [] f fd) (c : Fc K mg) (h_check_sign : Known P w K mg base "check_sign" 7 2 (spP K (T K) 2 (r_check_sign K))) (h_check_times : Known P w K mg base "check_times" 4 1 (spP K (T K) 1 (r_check_times K))) (h_raw_signs_grown : Known P w K mg base "raw_signs_grown" 3 3 (spP K (T K) 3 (r_raw_signs_grown K))) :
    FnOk P w K mg base (L2N.CX P w) 8 f fd ["rule", "sign", "times"] (spP K (T K) 3 (r_signs_grown K)) := by
  refine F.ok sc_signs_grown (lenP rfl) fun cdv A outer s H vs Q E hr h => ?_
  obtain ⟨F0, h0⟩ := body_P (T := T K) (N := ["rule", "sign", "times"]) (k := 0) rfl h
  exact ⟨LS K (gxOf (T K) F0 H [] E) (m_signs_grown K), (iss_cons (is_expr (ps_expr (ie_call h_check_sign hr rfl hxOf (ia_cons (ie_var (pv 0)) (ia_cons (ie_var (pv 1)) ia_nil)))))
    (iss_cons (is_expr (ps_expr (ie_call h_check_times hr rfl hxOf (ia_cons (ie_var (pv 2)) ia_nil))))
    (iss_one (is_ret (ps_ret (ie_t1 call_tupleX c1_tup rfl c.b_tuple bt_tuple (q_of (ie_call h_raw_signs_grown hr rfl hxOf (ia_cons (ie_var (pv 0)) (ia_cons (ie_var (pv 1)) (ia_cons (ie_var (pv 2)) ia_nil))))))))))), h0⟩
/-! ### size_grown -/
theorem sc_size_grown : FnScope ["rule", "sign", "times"] ["rule", "sign", "times"] (defScope (top 28)) := ⟨rfl, rfl, rfl, by decide +kernel, rfl, by decide +kernel, by decide +kernel⟩
def m_size_grown (K : PySem.W.Frag) : S := sq (dropS (cl (r_check_sign K) (args [vV 0, vV 1])))
    (sq (dropS (cl (r_check_times K) (args [vV 2])))
    (retS (bnd (cl (r_raw_signs_grown K) (args [vV 0, vV 1, vV 2])) sumD)))
def r_size_grown (K : PySem.W.Frag) (ds : List D) : Rc := runP 0 (m_size_grown K) ds
theorem ok_size_grown {f : Addr} {fd : FuncData} (F : FunD K "size_grown" "size_grown" (defArgs (top 28)) (defBody (top 28)) (defScope (top 28)) [] [] f fd) (c : Fc K mg) (h_check_sign : Known P w K mg base "check_sign" 7 2 (spP K (T K) 2 (r_check_sign K))) (h_check_times : Known P w K mg base "check_times" 4 1 (spP K (T K) 1 (r_check_times K))) (h_raw_signs_grown : Known P w K mg base "raw_signs_grown" 3 3 (spP K (T K) 3 (r_raw_signs_grown K))) :
    FnOk P w K mg base (L2N.CX P w) 8 f fd ["rule", "sign", "times"] (spP K (T K) 3 (r_size_grown K)) := by
  refine F.ok sc_size_grown (lenP rfl) fun cdv A outer s H vs Q E hr h => ?_
  obtain ⟨F0, h0⟩ := body_P (T := T K) (N := ["rule", "sign", "times"]) (k := 0) rfl h
  exact ⟨LS K (gxOf (T K) F0 H [] E) (m_size_grown K), (iss_cons (is_expr (ps_expr (ie_call h_check_sign hr rfl hxOf (ia_cons (ie_var (pv 0)) (ia_cons (ie_var (pv 1)) ia_nil)))))
    (iss_cons (is_expr (ps_expr (ie_call h_check_times hr rfl hxOf (ia_cons (ie_var (pv 2)) ia_nil))))
    (iss_one (is_ret (ps_ret (ie_b1 (cr_sum rfl) c1_sum rfl c.b_sum bt_sum (q_of (ie_call h_raw_signs_grown hr rfl hxOf (ia_cons (ie_var (pv 0)) (ia_cons (ie_var (pv 1)) (ia_cons (ie_var (pv 2)) ia_nil))))))))))), h0⟩
/-! ### _law_hand -/
theorem sc__law_hand : FnScope ["script", "cells", "cell"] ["script"] (defScope (top 30)) := ⟨rfl, rfl, rfl, by decide +kernel, rfl, by decide +kernel, by decide +kernel⟩
def el__law_hand_0 (K : PySem.W.Frag) : D → M (Option D) := stE (tg1 2) (yes) (b2 modD (bnd (bnd (bnd (vP 2) intD) absD) intD) (b2 powD (ret (.int 10)) (ret (.int 36))))
def m__law_hand (K : PySem.W.Frag) : S := sq (setS 1 (frz (lcAn [2] (sl3 (vV 0) (ret none) (asI (ret (.int 60)))) (el__law_hand_0 K))))
    (retF (lstF (args [vV 1, ret (.int 0), ret (.int 0), b2 addD (ret (.int 29)) (b2 mulD (ret (.int 3)) (bnd (vP 1) lenD)), ret (.int 0)])))
def r__law_hand (K : PySem.W.Frag) (ds : List D) : Rc := runP 2 (m__law_hand K) ds
theorem ok__law_hand {f : Addr} {fd : FuncData} (F : FunD K "_law_hand" "_law_hand" (defArgs (top 30)) (defBody (top 30)) (defScope (top 30)) [] [] f fd) (c : Fc K mg)  :
    FnOk P w K mg base (L2N.CX P w) 2 f fd ["script"] (spP K (T K) 1 (r__law_hand K)) := by
  refine F.ok sc__law_hand (lenP rfl) fun cdv A outer s H vs Q E hr h => ?_
  obtain ⟨F0, h0⟩ := body_P (T := T K) (N := ["script", "cells", "cell"]) (k := 2) rfl h
  exact ⟨LS K (gxOf (T K) F0 H [] E) (m__law_hand K), (iss_cons (is_set (setF (ia_lcA (tgE1 (by decide)) (ps_setLc (i := 1) (own := [("cell", 2)]) rfl sc__law_hand.nd rfl rfl (sw_true rfl rfl rfl (by decide +kernel)) (pi_any (ie_sl (ie_var (pv 0)) io_none (io_some ie_int))) (blkOk_by (N := ["script", "cells", "cell"]) (sc := defScope (top 30)) (by decide +kernel)) (fun _ _ _ _ _ => (pg_name (i := 2) sc__law_hand.nd rfl (Or.inl rfl))) (fun _ _ _ _ _ => pts_yes) (fun _ _ _ _ _ => pe_ex fun _ _ _ => (ie_bin op_modD os_modD (ie_t1 call_int1 c1_int rfl c.b_int bt_int (q_of (ie_b1 call_abs c1_abs rfl c.b_abs bt_abs (q_of (ie_t1 call_int1 c1_int rfl c.b_int bt_int (iq_var (pv 2))))))) (ie_bin op_powD os_powD ie_int ie_int)))))))
    (iss_one (is_retF (ps_ret (if_lst (ia_cons (ie_var (pv 1)) (ia_cons ie_int (ia_cons ie_int (ia_cons (ie_bin op_addD os_addD ie_int (ie_bin op_mulD os_mulD ie_int (ie_b1 call_len c1_len rfl c.b_len bt_len (iq_var (pv 1))))) (ia_cons ie_int ia_nil)))))))))), h0⟩
/-! ### _law_draw -/
theorem sc__law_draw : FnScope ["hand", "amount", "cell", "digit", "number"] ["hand", "amount"] (defScope (top 31)) := ⟨rfl, rfl, rfl, by decide +kernel, rfl, by decide +kernel, by decide +kernel⟩
def m__law_draw (K : PySem.W.Frag) : S := sq (ifS (andT (asB (b2 eqD (ixV 0 (ret (.int 2))) (ret (.int 0)))) (asB (b2 ltD (ixV 0 (ret (.int 1))) (bnd (ixV 0 (ret (.int 0))) lenD)))) (sq (setS 2 (b2 ixD (ixV 0 (ret (.int 0))) (ixV 0 (ret (.int 1)))))
    (sq (subS 0 (b2 addD (ixV 0 (ret (.int 1))) (ret (.int 1))) (ret (.int 1)))
    (sq (subS 0 (b2 modD (bnd (b2 addD (b2 addD (bnd (b2 mulD (ixV 0 (ret (.int 3))) (ret (.int 48271))) intD) (vV 2)) (ret (.int 17))) intD) (ret (.int 2147483647))) (ret (.int 3)))
    (subS 0 (ifE (asB (b2 geD (vV 2) (b2 powD (ret (.int 10)) (ret (.int 18))))) (vV 2) (ret (.int 0))) (ret (.int 2)))))) (nxt))
    (sq (ifS (asB (b2 gtD (ixV 0 (ret (.int 2))) (ret (.int 0)))) (sq (setS 3 (b2 modD (bnd (ixV 0 (ret (.int 2))) intD) (vV 1)))
    (sq (subS 0 (b2 divD (ixV 0 (ret (.int 2))) (bnd (args [ret (.int 2), vV 1]) max2D)) (ret (.int 2)))
    (retS (vV 3)))) (nxt))
    (sq (subS 0 (b2 addD (ixV 0 (ret (.int 4))) (ret (.int 1))) (ret (.int 4)))
    (sq (setS 4 (b2 modD (bnd (b2 mulD (bnd (b2 addD (ixV 0 (ret (.int 3))) (b2 mulD (ret (.int 7919)) (ixV 0 (ret (.int 4))))) intD) (ret (.int 48271))) intD) (ret (.int 2147483647))))
    (sq (setS 4 (b2 modD (bnd (b2 mulD (vV 4) (b2 addD (b2 divD (vV 4) (ret (.int 1009))) (ret (.int 69621)))) intD) (ret (.int 2147483647))))
    (retS (b2 modD (bnd (b2 divD (vV 4) (ret (.int 16))) intD) (vV 1)))))))
def r__law_draw (K : PySem.W.Frag) (ds es : List D) : Rc := runI 3 (m__law_draw K) ds es
theorem ok__law_draw {f : Addr} {fd : FuncData} (F : FunD K "_law_draw" "_law_draw" (defArgs (top 31)) (defBody (top 31)) (defScope (top 31)) [] [] f fd) (c : Fc K mg)  :
    FnOk P w K mg base (L2N.CX P w) 2 f fd ["hand", "amount"] (spI K (T K) 2 (r__law_draw K)) := by
  refine F.ok sc__law_draw (lenI rfl) fun cdv A outer s H vs Q E hr h => ?_
  obtain ⟨F0, a0, h0⟩ := body_I (T := T K) (N := ["hand", "amount", "cell", "digit", "number"]) (k := 3) rfl h
  exact ⟨LS K (gxOf (T K) F0 H [a0] E) (m__law_draw K), (iss_cons (is_if (it_w (iw_and (it_cmp (op_eqD (Room.units hr)) os_eqD (ie_ixV (pv 0) ie_int) ie_int (nomark _)) (iw_and1 (it_cmp op_lt os_ltD (ie_ixV (pv 0) ie_int) (ie_b1 call_len c1_len rfl c.b_len bt_len (q_of (ie_ixV (pv 0) ie_int))) (nomark _))))) (iss_cons (is_set (ps_set (i := 2) sc__law_draw.nd rfl (Or.inl rfl) (ie_ix (ie_ixV (pv 0) ie_int) (ie_ixV (pv 0) ie_int))))
    (iss_cons (is_sub (ps_asg (ie_bin op_addD os_addD (ie_ixV (pv 0) ie_int) ie_int) (pg_sub (pv 0) ie_int set_list)))
    (iss_cons (is_sub (ps_asg (ie_bin op_modD os_modD (ie_t1 call_int1 c1_int rfl c.b_int bt_int (q_of (ie_bin op_addD os_addD (ie_bin op_addD os_addD (ie_t1 call_int1 c1_int rfl c.b_int bt_int (q_of (ie_bin op_mulD os_mulD (ie_ixV (pv 0) ie_int) ie_int))) (ie_var (pv 2))) ie_int))) ie_int) (pg_sub (pv 0) ie_int set_list)))
    (iss_one (is_sub (ps_asg (ie_if (it_cmp op_ge os_geD (ie_var (pv 2)) (ie_bin op_powD os_powD ie_int ie_int) (nomark _)) (ie_var (pv 2)) ie_int) (pg_sub (pv 0) ie_int set_list))))))) iss_nil)
    (iss_cons (is_if (it_cmp op_gt os_gtD (ie_ixV (pv 0) ie_int) ie_int (nomark _)) (iss_cons (is_set (ps_set (i := 3) sc__law_draw.nd rfl (Or.inl rfl) (ie_bin op_modD os_modD (ie_t1 call_int1 c1_int rfl c.b_int bt_int (q_of (ie_ixV (pv 0) ie_int))) (ie_var (pv 1)))))
    (iss_cons (is_sub (ps_asg (ie_bin op_divD os_divD (ie_ixV (pv 0) ie_int) (ie_bn (call_max2 rfl) cn_max2 rfl c.b_max bt_max (ia_cons ie_int (ia_cons (ie_var (pv 1)) ia_nil)))) (pg_sub (pv 0) ie_int set_list)))
    (iss_one (is_ret (ps_ret (ie_var (pv 3))))))) iss_nil)
    (iss_cons (is_sub (ps_asg (ie_bin op_addD os_addD (ie_ixV (pv 0) ie_int) ie_int) (pg_sub (pv 0) ie_int set_list)))
    (iss_cons (is_set (ps_set (i := 4) sc__law_draw.nd rfl (Or.inl rfl) (ie_bin op_modD os_modD (ie_t1 call_int1 c1_int rfl c.b_int bt_int (q_of (ie_bin op_mulD os_mulD (ie_t1 call_int1 c1_int rfl c.b_int bt_int (q_of (ie_bin op_addD os_addD (ie_ixV (pv 0) ie_int) (ie_bin op_mulD os_mulD ie_int (ie_ixV (pv 0) ie_int))))) ie_int))) ie_int)))
    (iss_cons (is_set (ps_set (i := 4) sc__law_draw.nd rfl (Or.inl rfl) (ie_bin op_modD os_modD (ie_t1 call_int1 c1_int rfl c.b_int bt_int (q_of (ie_bin op_mulD os_mulD (ie_var (pv 4)) (ie_bin op_addD os_addD (ie_bin op_divD os_divD (ie_var (pv 4)) ie_int) ie_int)))) ie_int)))
    (iss_one (is_ret (ps_ret (ie_bin op_modD os_modD (ie_t1 call_int1 c1_int rfl c.b_int bt_int (q_of (ie_bin op_divD os_divD (ie_var (pv 4)) ie_int))) (ie_var (pv 1))))))))))), h0⟩
/-! ### _law_any -/
theorem sc__law_any : FnScope ["hand", "some"] ["hand", "some"] (defScope (top 32)) := ⟨rfl, rfl, rfl, by decide +kernel, rfl, by decide +kernel, by decide +kernel⟩
def m__law_any (K : PySem.W.Frag) : S := retS (b2 ixD (vV 1) (clI 0 (r__law_draw K) (args [bnd (vP 1) lenD])))
def r__law_any (K : PySem.W.Frag) (ds es : List D) : Rc := runI 0 (m__law_any K) ds es
theorem ok__law_any {f : Addr} {fd : FuncData} (F : FunD K "_law_any" "_law_any" (defArgs (top 32)) (defBody (top 32)) (defScope (top 32)) [] [] f fd) (c : Fc K mg) (h__law_draw : Known P w K mg base "_law_draw" 2 2 (spI K (T K) 2 (r__law_draw K))) :
    FnOk P w K mg base (L2N.CX P w) 3 f fd ["hand", "some"] (spI K (T K) 2 (r__law_any K)) := by
  refine F.ok sc__law_any (lenI rfl) fun cdv A outer s H vs Q E hr h => ?_
  obtain ⟨F0, a0, h0⟩ := body_I (T := T K) (N := ["hand", "some"]) (k := 0) rfl h
  exact ⟨LS K (gxOf (T K) F0 H [a0] E) (m__law_any K), (iss_one (is_ret (ps_ret (ie_ix (ie_var (pv 1)) (ie_callI h__law_draw hr rfl hxOf (pv 0) (ia_cons (ie_b1 call_len c1_len rfl c.b_len bt_len (iq_var (pv 1))) ia_nil)))))), h0⟩
/-! ### _law_rule -/
theorem sc__law_rule : FnScope ["hand", "most", "size", "start", "rule", "sign_here", "text", "turn"] ["hand", "most"] (defScope (top 33)) := ⟨rfl, rfl, rfl, by decide +kernel, rfl, by decide +kernel, by decide +kernel⟩
def el__law_rule_0 (K : PySem.W.Frag) : D → M (Option D) := stE (tg1 7) (yes) (b2 addD (ret (.int 1)) (clI 0 (r__law_draw K) (args [vV 2])))
def lp__law_rule_1 (K : PySem.W.Frag) : D → S := stp 5 (sq (setS 6 (frz (lcR1 [7] (b2 addD (ret (.int 1)) (clI 0 (r__law_draw K) (args [ret (.int 3)]))) (el__law_rule_0 K))))
    (sq (ifS (asB (b2 eqD (vV 5) (vV 3))) (setS 6 (b2 addD (frz (lstF (args [vV 3]))) (ifE (asB (b2 ltD (bnd (vP 6) lenD) (ret (.int 3)))) (vV 6) (sl3 (vV 6) (ret none) (asI (ret (.int 2))))))) (nxt))
    (dropS (meV 4 (args [bnd (vP 6) tupD]) gApp))))
def m__law_rule (K : PySem.W.Frag) : S := sq (setS 2 (b2 addD (ret (.int 1)) (clI 0 (r__law_draw K) (args [vV 1]))))
    (sq (parO 3 4 (b2 addD (ret (.int 1)) (clI 0 (r__law_draw K) (args [vV 2]))) (lstF (args [])))
    (sq (forR2 [5, 6, 7] (ret (.int 1)) (b2 addD (vV 2) (ret (.int 1))) (lp__law_rule_1 K))
    (retS (tupE (args [bnd (vP 4) tupD, vV 3])))))
def r__law_rule (K : PySem.W.Frag) (ds es : List D) : Rc := runI 6 (m__law_rule K) ds es
theorem ok__law_rule {f : Addr} {fd : FuncData} (F : FunD K "_law_rule" "_law_rule" (defArgs (top 33)) (defBody (top 33)) (defScope (top 33)) [] [] f fd) (c : Fc K mg) (h__law_draw : Known P w K mg base "_law_draw" 2 2 (spI K (T K) 2 (r__law_draw K))) :
    FnOk P w K mg base (L2N.CX P w) 3 f fd ["hand", "most"] (spI K (T K) 2 (r__law_rule K)) := by
  refine F.ok sc__law_rule (lenI rfl) fun cdv A outer s H vs Q E hr h => ?_
  obtain ⟨F0, a0, h0⟩ := body_I (T := T K) (N := ["hand", "most", "size", "start", "rule", "sign_here", "text", "turn"]) (k := 6) rfl h
  exact ⟨LS K (gxOf (T K) F0 H [a0] E) (m__law_rule K), (iss_cons (is_set (ps_set (i := 2) sc__law_rule.nd rfl (Or.inr rfl) (ie_bin op_addD os_addD ie_int (ie_callI h__law_draw hr rfl hxOf (pv 0) (ia_cons (ie_var (pv 1)) ia_nil)))))
    (iss_cons (is_parO (ps_par (i := 3) (j := 4) rfl sc__law_rule.nd rfl rfl (by decide) rfl rfl (pa_cons (ie_bin op_addD os_addD ie_int (ie_callI h__law_draw hr rfl hxOf (pv 0) (ia_cons (ie_var (pv 2)) ia_nil))) (pa_cons (if_lst ia_nil) pa_nil)) rfl))
    (iss_cons (is_forR2 [5, 6, 7] tg_name (ps_for (L2.passes_of rfl) rfl (pi_range2 rfl c.b_range (pa_cons ie_int (pa_cons (ie_bin op_addD os_addD (ie_var (pv 2)) ie_int) pa_nil))) (pg_name (i := 5) sc__law_rule.nd rfl (Or.inl rfl)) (iss_cons (is_set (setF (ia_lcR1 (tgE1 (by decide)) (ps_setLc (i := 6) (own := [("turn", 7)]) rfl sc__law_rule.nd rfl rfl (sw_true rfl rfl rfl (by decide +kernel)) (pi_range1 rfl c.b_range (pa_cons (ie_bin op_addD os_addD ie_int (ie_callI h__law_draw hr rfl hxOf (pv 0) (ia_cons ie_int ia_nil))) pa_nil)) (blkOk_by (N := ["hand", "most", "size", "start", "rule", "sign_here", "text", "turn"]) (sc := defScope (top 33)) (by decide +kernel)) (fun _ _ _ _ _ => (pg_name (i := 7) sc__law_rule.nd rfl (Or.inl rfl))) (fun _ _ _ _ _ => pts_yes) (fun _ _ _ _ _ => pe_ex fun _ _ _ => (ie_bin op_addD os_addD ie_int (ie_callI h__law_draw hr rfl passNo (pv 0) (ia_cons (ie_var (pv 2)) ia_nil))))))))
    (iss_cons (is_if (it_cmp (op_eqD (Room.units hr)) os_eqD (ie_var (pv 5)) (ie_var (pv 3)) (nomark _)) (iss_one (is_set (ps_set (i := 6) sc__law_rule.nd rfl (Or.inl rfl) (ie_bin op_addD os_addD (ie_frz (if_lst (ia_cons (ie_var (pv 3)) ia_nil))) (ie_if (it_cmp op_lt os_ltD (ie_b1 call_len c1_len rfl c.b_len bt_len (iq_var (pv 6))) ie_int (nomark _)) (ie_var (pv 6)) (ie_sl (ie_var (pv 6)) io_none (io_some ie_int))))))) iss_nil)
    (iss_one (is_expr (ps_expr (ie_app (pv 4) (ia_cons (ie_t1 call_tupleX c1_tup rfl c.b_tuple bt_tuple (iq_var (pv 6))) ia_nil)))))))))
    (iss_one (is_ret (ps_ret (ie_tup (ia_cons (ie_t1 call_tupleX c1_tup rfl c.b_tuple bt_tuple (iq_var (pv 4))) (ia_cons (ie_var (pv 3)) ia_nil))))))))), h0⟩
/-! ### _law_step -/
theorem sc__law_step : FnScope ["rule", "row", "found", "sign_here"] ["rule", "row"] (defScope (top 34)) := ⟨rfl, rfl, rfl, by decide +kernel, rfl, by decide +kernel, by decide +kernel⟩
def lp__law_step_0 (K : PySem.W.Frag) : D → S := stp 3 (dropS (meV 2 (args [b2 ixD (vV 0) (b2 subD (vV 3) (ret (.int 1)))]) gExt))
def m__law_step (K : PySem.W.Frag) : S := sq (setO 2 (lstF (args [])))
    (sq (forA [3] (vV 1) (lp__law_step_0 K))
    (retS (bnd (vP 2) tupD)))
def r__law_step (K : PySem.W.Frag) (ds : List D) : Rc := runP 2 (m__law_step K) ds
theorem ok__law_step {f : Addr} {fd : FuncData} (F : FunD K "_law_step" "_law_step" (defArgs (top 34)) (defBody (top 34)) (defScope (top 34)) [] [] f fd) (c : Fc K mg)  :
    FnOk P w K mg base (L2N.CX P w) 2 f fd ["rule", "row"] (spP K (T K) 2 (r__law_step K)) := by
  refine F.ok sc__law_step (lenP rfl) fun cdv A outer s H vs Q E hr h => ?_
  obtain ⟨F0, h0⟩ := body_P (T := T K) (N := ["rule", "row", "found", "sign_here"]) (k := 2) rfl h
  exact ⟨LS K (gxOf (T K) F0 H [] E) (m__law_step K), (iss_cons (is_setO (ps_set (i := 2) sc__law_step.nd rfl (Or.inl rfl) (if_lst ia_nil)))
    (iss_cons (is_forA [3] tg_name (ps_for (L2.passes_of rfl) rfl (pi_any (ie_var (pv 1))) (pg_name (i := 3) sc__law_step.nd rfl (Or.inl rfl)) (iss_one (is_expr (ps_expr (ie_ext (pv 2) (ia_cons (ie_ix (ie_var (pv 0)) (ie_bin op_subD os_subD (ie_var (pv 3)) ie_int)) ia_nil)))))))
    (iss_one (is_ret (ps_ret (ie_t1 call_tupleX c1_tup rfl c.b_tuple bt_tuple (iq_var (pv 2)))))))), h0⟩
/-! ### _law_sums -/
theorem sc__law_sums : FnScope ["rule", "sign_here", "turns_due", "counts", "found", "turn", "later", "text", "amount", "one"] ["rule", "sign_here", "turns_due"] (defScope (top 35)) := ⟨rfl, rfl, rfl, by decide +kernel, rfl, by decide +kernel, by decide +kernel⟩
def el__law_sums_0 (K : PySem.W.Frag) : D → M (Option D) := stE (tg1 9) (yes) (bnd (b2 eqD (b2 addD (vV 9) (ret (.int 1))) (vV 1)) intD)
def lp__law_sums_1 (K : PySem.W.Frag) : D → S := stp 9 (subS 6 (b2 addD (ixV 6 (b2 subD (vV 9) (ret (.int 1)))) (vV 8)) (b2 subD (vV 9) (ret (.int 1))))
def lp__law_sums_2 (K : PySem.W.Frag) : D → S := stp2 7 8 (forA [9] (vV 7) (lp__law_sums_1 K))
def lp__law_sums_3 (K : PySem.W.Frag) : D → S := stp 5 (sq (setO 6 (repF (frz (lstF (args [ret (.int 0)]))) (bnd (vP 0) lenD)))
    (sq (forZ [7, 8, 9] (vV 0) (vV 3) (lp__law_sums_2 K))
    (sq (setS 3 (vV 6))
    (dropS (meV 4 (args [vV 3]) gApp)))))
def m__law_sums (K : PySem.W.Frag) : S := sq (setS 3 (frz (lcR1 [9] (bnd (vP 0) lenD) (el__law_sums_0 K))))
    (sq (setO 4 (lstF (args [vV 3])))
    (sq (forR1 [5, 6, 7, 8, 9] (vV 2) (lp__law_sums_3 K))
    (retS (vV 4))))
def r__law_sums (K : PySem.W.Frag) (ds : List D) : Rc := runP 7 (m__law_sums K) ds
theorem ok__law_sums {f : Addr} {fd : FuncData} (F : FunD K "_law_sums" "_law_sums" (defArgs (top 35)) (defBody (top 35)) (defScope (top 35)) [] [] f fd) (c : Fc K mg)  :
    FnOk P w K mg base (L2N.CX P w) 2 f fd ["rule", "sign_here", "turns_due"] (spP K (T K) 3 (r__law_sums K)) := by
  refine F.ok sc__law_sums (lenP rfl) fun cdv A outer s H vs Q E hr h => ?_
  obtain ⟨F0, h0⟩ := body_P (T := T K) (N := ["rule", "sign_here", "turns_due", "counts", "found", "turn", "later", "text", "amount", "one"]) (k := 7) rfl h
  exact ⟨LS K (gxOf (T K) F0 H [] E) (m__law_sums K), (iss_cons (is_set (setF (ia_lcR1 (tgE1 (by decide)) (ps_setLc (i := 3) (own := [("one", 9)]) rfl sc__law_sums.nd rfl rfl (sw_true rfl rfl rfl (by decide +kernel)) (pi_range1 rfl c.b_range (pa_cons (ie_b1 call_len c1_len rfl c.b_len bt_len (iq_var (pv 0))) pa_nil)) (blkOk_by (N := ["rule", "sign_here", "turns_due", "counts", "found", "turn", "later", "text", "amount", "one"]) (sc := defScope (top 35)) (by decide +kernel)) (fun _ _ _ _ _ => (pg_name (i := 9) sc__law_sums.nd rfl (Or.inl rfl))) (fun _ _ _ _ _ => pts_yes) (fun _ _ _ _ _ => pe_ex fun _ _ _ => (ie_t1 call_int1 c1_int rfl c.b_int bt_int (q_of (ie_cmp (op_eqD (Room.units hr)) os_eqD (ie_bin op_addD os_addD (ie_var (pv 9)) ie_int) (ie_var (pv 1)) (nomark _)))))))))
    (iss_cons (is_setO (ps_set (i := 4) sc__law_sums.nd rfl (Or.inl rfl) (if_lst (ia_cons (ie_var (pv 3)) ia_nil))))
    (iss_cons (is_forR1 [5, 6, 7, 8, 9] tg_name (ps_for (L2.passes_of rfl) rfl (pi_range1 rfl c.b_range (pa_cons (ie_var (pv 2)) pa_nil)) (pg_name (i := 5) sc__law_sums.nd rfl (Or.inl rfl)) (iss_cons (is_setO (ps_set (i := 6) sc__law_sums.nd rfl (Or.inl rfl) (if_rep (ie_frz (if_lst (ia_cons ie_int ia_nil))) (ie_b1 call_len c1_len rfl c.b_len bt_len (iq_var (pv 0))))))
    (iss_cons (is_forZ [7, 8, 9] (ps_for (L2.passes_of rfl) rfl (pi_zipM rfl c.b_zip (pa_cons (ie_var (pv 0)) (pa_cons (ie_var (pv 3)) pa_nil))) (pg_tup rfl (pgs_cons (pg_name (i := 7) sc__law_sums.nd rfl (Or.inl rfl)) (pgs_cons (pg_name (i := 8) sc__law_sums.nd rfl (Or.inl rfl)) pgs_nil))) (iss_one (is_forA [9] tg_name (ps_for (L2.passes_of rfl) rfl (pi_any (ie_var (pv 7))) (pg_name (i := 9) sc__law_sums.nd rfl (Or.inl rfl)) (iss_one (is_sub (ps_asg (ie_bin op_addD os_addD (ie_ixV (pv 6) (ie_bin op_subD os_subD (ie_var (pv 9)) ie_int)) (ie_var (pv 8))) (pg_sub (pv 6) (ie_bin op_subD os_subD (ie_var (pv 9)) ie_int) set_list)))))))))
    (iss_cons (is_set (ps_set (i := 3) sc__law_sums.nd rfl (Or.inl rfl) (ie_var (pv 6))))
    (iss_one (is_expr (ps_expr (ie_app (pv 4) (ia_cons (ie_var (pv 3)) ia_nil))))))))))
    (iss_one (is_ret (ps_ret (ie_var (pv 4)))))))), h0⟩
/-! ### _law_error -/
theorem sc__law_error : FnScope ["call", "error", "some", "found", "name", "is_it"] ["call"] (defScope (top 36)) := ⟨rfl, rfl, rfl, by decide +kernel, rfl, by decide +kernel, by decide +kernel⟩
def ms__law_error (K : PySem.W.Frag) (C a : Addr) : S := sq (setS 2 (frz (lstF (args [tupE (args [ret (.str "rule"), isE K (excs K) C a 1 (.ref (He.ga K "NoRule"))]), tupE (args [ret (.str "signs"), isE K (excs K) C a 1 (.ref (He.ga K "NoSigns"))]), tupE (args [ret (.str "sign"), isE K (excs K) C a 1 (.ref (He.ga K "NoSign"))]), tupE (args [ret (.str "number"), isE K (excs K) C a 1 (.ref (He.ga K "NoNumber"))]), tupE (args [ret (.str "many"), isE K (excs K) C a 1 (.ref (He.ga K "TooMany"))])]))))
    (sq (setS 3 (frz (lcL [4, 5] (vV 2) (stE (tg2 4 5) (asB (vV 5)) (vV 4)))))
    (retS (ifE (andT (asB (b2 eqS (bnd (vP 3) lenD) (ret (.int 1)))) (asB (isE K (excs K) C a 1 (.type "ValueError")))) (b2 ixD (vV 3) (ret (.int 0))) (ret (.str "other")))))
theorem ed__law_error {f : Addr} {fd : FuncData} (F : FunD K "_law_error" "_law_error" (defArgs (top 36)) (defBody (top 36)) (defScope (top 36)) [] [] f fd) (c : Fc K mg) (hm : mg "_law_error" = some (.ref f)) :
    ErrD P w K mg base (T K) "_law_error" "call" (He.ga K "NumeralError") "let" 4 (ms__law_error K) := by
  refine errD_of F hm (F.bindsN fun _ _ _ _ _ _ us hl => match us, hl with | [_], _ => rfl) sc__law_error rfl (Or.inl rfl) rfl rfl rfl rfl (by decide) c.NumeralError.g (fun _ _ _ => rfl) fun cdv A outer s H pn ex oe C d F0 H0 hz hf hx => ?_
  exact (iss_cons (is_set (ps_set (i := 2) sc__law_error.nd rfl (Or.inl rfl) (ie_frz (if_lst (ia_cons (ie_tup (ia_cons ie_str (ia_cons (ie_isE c.exC hz hf hx rfl rfl c.b_isinstance (pv 1) (pe_glob (v := .ref (He.ga K "NoRule")) rfl c.NoRule.g rfl) relO) ia_nil))) (ia_cons (ie_tup (ia_cons ie_str (ia_cons (ie_isE c.exC hz hf hx rfl rfl c.b_isinstance (pv 1) (pe_glob (v := .ref (He.ga K "NoSigns")) rfl c.NoSigns.g rfl) relO) ia_nil))) (ia_cons (ie_tup (ia_cons ie_str (ia_cons (ie_isE c.exC hz hf hx rfl rfl c.b_isinstance (pv 1) (pe_glob (v := .ref (He.ga K "NoSign")) rfl c.NoSign.g rfl) relO) ia_nil))) (ia_cons (ie_tup (ia_cons ie_str (ia_cons (ie_isE c.exC hz hf hx rfl rfl c.b_isinstance (pv 1) (pe_glob (v := .ref (He.ga K "NoNumber")) rfl c.NoNumber.g rfl) relO) ia_nil))) (ia_cons (ie_tup (ia_cons ie_str (ia_cons (ie_isE c.exC hz hf hx rfl rfl c.b_isinstance (pv 1) (pe_glob (v := .ref (He.ga K "TooMany")) rfl c.TooMany.g rfl) relO) ia_nil))) ia_nil)))))))))
    (iss_cons (is_set (setF (ia_lcL (tgE2 (by decide) (by decide)) (ps_setLcH (i := 3) (own := [("name", 4), ("is_it", 5)]) (hotOf hz hf rfl rfl) sc__law_error.nd rfl rfl (sw_true rfl rfl rfl (by decide +kernel)) (ie_var (pv 2)) (blkOk_by (N := ["call", "error", "some", "found", "name", "is_it"]) (sc := defScope (top 36)) (by decide +kernel)) (fun _ _ _ _ _ hot => (pg_tupH hot (pgs_cons (pg_name (i := 4) sc__law_error.nd rfl (Or.inl rfl)) (pgs_cons (pg_name (i := 5) sc__law_error.nd rfl (Or.inl rfl)) pgs_nil)))) (fun _ _ _ _ _ => (pts_ex fun _ _ _ => (it_val (ie_var (pv 5))))) (fun _ _ _ _ _ => pe_ex fun _ _ _ => (ie_var (pv 4)))))))
    (iss_one (is_ret (ps_ret (ie_if (it_w (iw_and (it_cmp op_eq os_eqS (ie_b1 call_len c1_len rfl c.b_len bt_len (iq_var (pv 3))) ie_int (nomark _)) (iw_and1 (it_val (ie_isE c.exC hz hf hx rfl rfl c.b_isinstance (pv 1) (pe_bltn (v := .ty "ValueError") rfl c.b_ValueError bt_ValueError rfl) relT))))) (ie_ix (ie_var (pv 3)) ie_int) ie_str))))))
/-! ### _law_steps_right -/
theorem sc__law_steps_right : FnScope ["hand", "rule", "row", "turns_due", "now", "turn", "sign_here", "due", "one"] ["hand", "rule"] (defScope (top 37)) := ⟨rfl, rfl, rfl, by decide +kernel, rfl, by decide +kernel, by decide +kernel⟩
def el__law_steps_right_0 (K : PySem.W.Frag) : D → M (Option D) := stE (tg1 5) (yes) (b2 addD (ret (.int 1)) (clI 0 (r__law_draw K) (args [bnd (vP 1) lenD])))
def lp__law_steps_right_1 (K : PySem.W.Frag) : D → S := stp 5 (setS 4 (cl (r__law_step K) (args [vV 1, vV 4])))
def el__law_steps_right_2 (K : PySem.W.Frag) : D → M (Option D) := stE (tg1 8) (yes) (cntE (vV 4) (vV 8))
def m__law_steps_right (K : PySem.W.Frag) : S := sq (setS 2 (bnd (frz (lcR1 [5] (clI 0 (r__law_draw K) (args [ret (.int 9)])) (el__law_steps_right_0 K))) tupD))
    (sq (asgT 3 4 (tupE (args [clI 0 (r__law_draw K) (args [ret (.int 5)]), vV 2])))
    (sq (forR1 [5] (vV 3) (lp__law_steps_right_1 K))
    (sq (ifS (orT (asB (b2 neD (cl (r_grow K) (args [vV 1, vV 2])) (cl (r__law_step K) (args [vV 1, vV 2])))) (asB (b2 neD (cl (r_grow_often K) (args [vV 1, vV 2, vV 3])) (vV 4)))) (retS (ret (.bl false))) (nxt))
    (sq (setS 6 (b2 addD (ret (.int 1)) (clI 0 (r__law_draw K) (args [bnd (vP 1) lenD]))))
    (sq (setS 4 (tupE (args [vV 6])))
    (sq (forR1 [5] (vV 3) (lp__law_steps_right_1 K))
    (sq (setS 7 (bnd (frz (lcR2 [8] (ret (.int 1)) (b2 addD (bnd (vP 1) lenD) (ret (.int 1))) (el__law_steps_right_2 K))) tupD))
    (retS (andE (b2 eqD (cl (r_signs_grown K) (args [vV 1, vV 6, vV 3])) (vV 7)) (b2 eqD (cl (r_size_grown K) (args [vV 1, vV 6, vV 3])) (bnd (vP 4) lenD)))))))))))
def r__law_steps_right (K : PySem.W.Frag) (ds es : List D) : Rc := runI 7 (m__law_steps_right K) ds es
theorem ok__law_steps_right {f : Addr} {fd : FuncData} (F : FunD K "_law_steps_right" "_law_steps_right" (defArgs (top 37)) (defBody (top 37)) (defScope (top 37)) [] [] f fd) (c : Fc K mg) (h_grow : Known P w K mg base "grow" 8 2 (spP K (T K) 2 (r_grow K))) (h_grow_often : Known P w K mg base "grow_often" 8 3 (spP K (T K) 3 (r_grow_often K))) (h_signs_grown : Known P w K mg base "signs_grown" 8 3 (spP K (T K) 3 (r_signs_grown K))) (h_size_grown : Known P w K mg base "size_grown" 8 3 (spP K (T K) 3 (r_size_grown K))) (h__law_draw : Known P w K mg base "_law_draw" 2 2 (spI K (T K) 2 (r__law_draw K))) (h__law_step : Known P w K mg base "_law_step" 2 2 (spP K (T K) 2 (r__law_step K))) :
    FnOk P w K mg base (L2N.CX P w) 9 f fd ["hand", "rule"] (spI K (T K) 2 (r__law_steps_right K)) := by
  refine F.ok sc__law_steps_right (lenI rfl) fun cdv A outer s H vs Q E hr h => ?_
  obtain ⟨F0, a0, h0⟩ := body_I (T := T K) (N := ["hand", "rule", "row", "turns_due", "now", "turn", "sign_here", "due", "one"]) (k := 7) rfl h
  exact ⟨LS K (gxOf (T K) F0 H [a0] E) (m__law_steps_right K), (iss_cons (is_set (ps_set (i := 2) sc__law_steps_right.nd rfl (Or.inl rfl) (ie_t1 call_tupleX c1_tup rfl c.b_tuple bt_tuple (iq_frz (if_lcR1 (tgE1 (by decide)) (pe_lc (own := [("turn", 5)]) rfl sc__law_steps_right.nd (pi_range1 rfl c.b_range (pa_cons (ie_callI h__law_draw hr rfl hxOf (pv 0) (ia_cons ie_int ia_nil)) pa_nil)) (blkOk_by (N := ["hand", "rule", "row", "turns_due", "now", "turn", "sign_here", "due", "one"]) (sc := defScope (top 37)) (by decide +kernel)) (fun _ _ _ _ _ => (pg_name (i := 5) sc__law_steps_right.nd rfl (Or.inl rfl))) (fun _ _ _ _ _ => pts_yes) (fun _ _ _ _ _ => pe_ex fun _ _ _ => (ie_bin op_addD os_addD ie_int (ie_callI h__law_draw hr rfl passNo (pv 0) (ia_cons (ie_b1 call_len c1_len rfl c.b_len bt_len (iq_var (pv 1))) ia_nil))))))))))
    (iss_cons (is_asgT (ps_asg (ie_tup (ia_cons (ie_callI h__law_draw hr rfl hxOf (pv 0) (ia_cons ie_int ia_nil)) (ia_cons (ie_var (pv 2)) ia_nil))) (pg_tup rfl (pgs_cons (pg_name (i := 3) sc__law_steps_right.nd rfl (Or.inl rfl)) (pgs_cons (pg_name (i := 4) sc__law_steps_right.nd rfl (Or.inr rfl)) pgs_nil)))))
    (iss_cons (is_forR1 [5] tg_name (ps_for (L2.passes_of rfl) rfl (pi_range1 rfl c.b_range (pa_cons (ie_var (pv 3)) pa_nil)) (pg_name (i := 5) sc__law_steps_right.nd rfl (Or.inl rfl)) (iss_one (is_set (ps_set (i := 4) sc__law_steps_right.nd rfl (Or.inr rfl) (ie_call h__law_step hr rfl hxOf (ia_cons (ie_var (pv 1)) (ia_cons (ie_var (pv 4)) ia_nil))))))))
    (iss_cons (is_if (it_w (iw_or (it_cmp (op_neD (Room.units hr)) os_neD (ie_call h_grow hr rfl hxOf (ia_cons (ie_var (pv 1)) (ia_cons (ie_var (pv 2)) ia_nil))) (ie_call h__law_step hr rfl hxOf (ia_cons (ie_var (pv 1)) (ia_cons (ie_var (pv 2)) ia_nil))) (nomark _)) (iw_or1 (it_cmp (op_neD (Room.units hr)) os_neD (ie_call h_grow_often hr rfl hxOf (ia_cons (ie_var (pv 1)) (ia_cons (ie_var (pv 2)) (ia_cons (ie_var (pv 3)) ia_nil)))) (ie_var (pv 4)) (nomark _))))) (iss_one (is_ret (ps_ret ie_bl))) iss_nil)
    (iss_cons (is_set (ps_set (i := 6) sc__law_steps_right.nd rfl (Or.inl rfl) (ie_bin op_addD os_addD ie_int (ie_callI h__law_draw hr rfl hxOf (pv 0) (ia_cons (ie_b1 call_len c1_len rfl c.b_len bt_len (iq_var (pv 1))) ia_nil)))))
    (iss_cons (is_set (ps_set (i := 4) sc__law_steps_right.nd rfl (Or.inr rfl) (ie_tup (ia_cons (ie_var (pv 6)) ia_nil))))
    (iss_cons (is_forR1 [5] tg_name (ps_for (L2.passes_of rfl) rfl (pi_range1 rfl c.b_range (pa_cons (ie_var (pv 3)) pa_nil)) (pg_name (i := 5) sc__law_steps_right.nd rfl (Or.inl rfl)) (iss_one (is_set (ps_set (i := 4) sc__law_steps_right.nd rfl (Or.inr rfl) (ie_call h__law_step hr rfl hxOf (ia_cons (ie_var (pv 1)) (ia_cons (ie_var (pv 4)) ia_nil))))))))
    (iss_cons (is_set (ps_set (i := 7) sc__law_steps_right.nd rfl (Or.inl rfl) (ie_t1 call_tupleX c1_tup rfl c.b_tuple bt_tuple (iq_frz (if_lcR2 (tgE1 (by decide)) (pe_lc (own := [("one", 8)]) rfl sc__law_steps_right.nd (pi_range2 rfl c.b_range (pa_cons ie_int (pa_cons (ie_bin op_addD os_addD (ie_b1 call_len c1_len rfl c.b_len bt_len (iq_var (pv 1))) ie_int) pa_nil))) (blkOk_by (N := ["hand", "rule", "row", "turns_due", "now", "turn", "sign_here", "due", "one"]) (sc := defScope (top 37)) (by decide +kernel)) (fun _ _ _ _ _ => (pg_name (i := 8) sc__law_steps_right.nd rfl (Or.inl rfl))) (fun _ _ _ _ _ => pts_yes) (fun _ _ _ _ _ => pe_ex fun _ _ _ => (ie_tcount (ie_var (pv 4)) (ie_var (pv 8))))))))))
    (iss_one (is_ret (ps_ret (ie_and (ie_cmp (op_eqD (Room.units hr)) os_eqD (ie_call h_signs_grown hr rfl hxOf (ia_cons (ie_var (pv 1)) (ia_cons (ie_var (pv 6)) (ia_cons (ie_var (pv 3)) ia_nil)))) (ie_var (pv 7)) (nomark _)) (ie_one (ie_cmp (op_eqD (Room.units hr)) os_eqD (ie_call h_size_grown hr rfl hxOf (ia_cons (ie_var (pv 1)) (ia_cons (ie_var (pv 6)) (ia_cons (ie_var (pv 3)) ia_nil)))) (ie_b1 call_len c1_len rfl c.b_len bt_len (iq_var (pv 4))) (nomark _))))))))))))))), h0⟩
/-! ### _law_far_right -/
theorem sc__law_far_right : FnScope ["hand", "rule", "sign_here", "turns_due", "sums", "great", "step"] ["hand", "rule"] (defScope (top 38)) := ⟨rfl, rfl, rfl, by decide +kernel, rfl, by decide +kernel, by decide +kernel⟩
def el__law_far_right_0 (K : PySem.W.Frag) : D → M (Option D) := stE (tg1 6) (asB (b2 gtD (bnd (b2 ixD (vV 4) (vV 6)) sumD) (ret (.int 20000)))) (vV 6)
def m__law_far_right (K : PySem.W.Frag) : S := sq (asgT 2 3 (tupE (args [b2 addD (ret (.int 1)) (clI 0 (r__law_draw K) (args [bnd (vP 1) lenD])), clI 0 (r__law_draw K) (args [ret (.int 201)])])))
    (sq (setS 4 (cl (r__law_sums K) (args [vV 1, vV 2, ret (.int 200)])))
    (sq (ifS (asB (b2 neD (cl (r_signs_grown K) (args [vV 1, vV 2, vV 3])) (bnd (b2 ixD (vV 4) (vV 3)) tupD))) (retS (ret (.bl false))) (nxt))
    (sq (ifS (asB (b2 neD (cl (r_size_grown K) (args [vV 1, vV 2, vV 3])) (bnd (b2 ixD (vV 4) (vV 3)) sumD))) (retS (ret (.bl false))) (nxt))
    (sq (setS 5 (frz (lcR1 [6] (ret (.int 201)) (el__law_far_right_0 K))))
    (sq (ifS (asB (b2 eqD (vV 5) (frz (lstF (args []))))) (retS (b2 eqD (bnd (cl (r_grow_often K) (args [vV 1, tupE (args [vV 2]), vV 3])) lenD) (bnd (b2 ixD (vV 4) (vV 3)) sumD))) (nxt))
    (sq (ifS (asB (b2 neD (errM K (He.ga K "NumeralError") "let" 4 (ms__law_error K) (cl (r_grow_often K) (args [vV 1, tupE (args [vV 2]), b2 ixD (vV 5) (ret (.int 0))]))) (ret (.str "many")))) (retS (ret (.bl false))) (nxt))
    (retS (b2 eqD (bnd (cl (r_grow_often K) (args [vV 1, tupE (args [vV 2]), b2 subD (b2 ixD (vV 5) (ret (.int 0))) (ret (.int 1))])) lenD) (bnd (b2 ixD (vV 4) (b2 subD (b2 ixD (vV 5) (ret (.int 0))) (ret (.int 1)))) sumD)))))))))
def r__law_far_right (K : PySem.W.Frag) (ds es : List D) : Rc := runI 5 (m__law_far_right K) ds es
theorem ok__law_far_right {fd : FuncData} (F : FunD K "_law_far_right" "_law_far_right" (defArgs (top 38)) (defBody (top 38)) (defScope (top 38)) [] [] (He.fAd K ("_law_far_right", none)) fd) (c : Fc K mg) (h_grow_often : Known P w K mg base "grow_often" 8 3 (spP K (T K) 3 (r_grow_often K))) (h_signs_grown : Known P w K mg base "signs_grown" 8 3 (spP K (T K) 3 (r_signs_grown K))) (h_size_grown : Known P w K mg base "size_grown" 8 3 (spP K (T K) 3 (r_size_grown K))) (h__law_draw : Known P w K mg base "_law_draw" 2 2 (spI K (T K) 2 (r__law_draw K))) (h__law_sums : Known P w K mg base "_law_sums" 2 3 (spP K (T K) 3 (r__law_sums K))) (h__law_error : ErrD P w K mg base (T K) "_law_error" "call" (He.ga K "NumeralError") "let" 4 (ms__law_error K)) (tb : TabB base mg (He.cT K ("_law_far_right", none)).1 (He.cT K ("_law_far_right", none)).2) :
    FnOk P w K mg base (L2N.CX P w) 11 (He.fAd K ("_law_far_right", none)) fd ["hand", "rule"] (spI K (T K) 2 (r__law_far_right K)) := by
  refine okC F sc__law_far_right (p := ("_law_far_right", none)) rfl (lenI rfl) fun A outer s H vs Q E hr h => ?_
  obtain ⟨F0, a0, h0⟩ := body_I (T := T K) (N := ["hand", "rule", "sign_here", "turns_due", "sums", "great", "step"]) (k := 5) rfl h
  exact ⟨LS K (gxOf (T K) F0 H [a0] E) (m__law_far_right K), (iss_cons (is_asgT (ps_asg (ie_tup (ia_cons (ie_bin op_addD os_addD ie_int (ie_callI h__law_draw hr rfl hxOf (pv 0) (ia_cons (ie_b1 call_len c1_len rfl c.b_len bt_len (iq_var (pv 1))) ia_nil))) (ia_cons (ie_callI h__law_draw hr rfl hxOf (pv 0) (ia_cons ie_int ia_nil)) ia_nil))) (pg_tup rfl (pgs_cons (pg_name (i := 2) sc__law_far_right.nd rfl (Or.inr rfl)) (pgs_cons (pg_name (i := 3) sc__law_far_right.nd rfl (Or.inl rfl)) pgs_nil)))))
    (iss_cons (is_set (ps_set (i := 4) sc__law_far_right.nd rfl (Or.inr rfl) (ie_call h__law_sums hr rfl hxOf (ia_cons (ie_var (pv 1)) (ia_cons (ie_var (pv 2)) (ia_cons ie_int ia_nil))))))
    (iss_cons (is_if (it_cmp (op_neD (Room.units hr)) os_neD (ie_call h_signs_grown hr rfl hxOf (ia_cons (ie_var (pv 1)) (ia_cons (ie_var (pv 2)) (ia_cons (ie_var (pv 3)) ia_nil)))) (ie_t1 call_tupleX c1_tup rfl c.b_tuple bt_tuple (q_of (ie_ix (ie_var (pv 4)) (ie_var (pv 3))))) (nomark _)) (iss_one (is_ret (ps_ret ie_bl))) iss_nil)
    (iss_cons (is_if (it_cmp (op_neD (Room.units hr)) os_neD (ie_call h_size_grown hr rfl hxOf (ia_cons (ie_var (pv 1)) (ia_cons (ie_var (pv 2)) (ia_cons (ie_var (pv 3)) ia_nil)))) (ie_b1 (cr_sum rfl) c1_sum rfl c.b_sum bt_sum (q_of (ie_ix (ie_var (pv 4)) (ie_var (pv 3))))) (nomark _)) (iss_one (is_ret (ps_ret ie_bl))) iss_nil)
    (iss_cons (is_set (ps_set (i := 5) sc__law_far_right.nd rfl (Or.inr rfl) (ie_frz (if_lcR1 (tgE1 (by decide)) (pe_lc (own := [("step", 6)]) rfl sc__law_far_right.nd (pi_range1 rfl c.b_range (pa_cons ie_int pa_nil)) (blkOk_by (N := ["hand", "rule", "sign_here", "turns_due", "sums", "great", "step"]) (sc := defScope (top 38)) (by decide +kernel)) (fun _ _ _ _ _ => (pg_name (i := 6) sc__law_far_right.nd rfl (Or.inl rfl))) (fun _ _ _ _ _ => (pts_ex fun _ _ _ => (it_cmp op_gt os_gtD (ie_b1 (cr_sum rfl) c1_sum rfl c.b_sum bt_sum (q_of (ie_ix (ie_var (pv 4)) (ie_var (pv 6))))) ie_int (nomark _)))) (fun _ _ _ _ _ => pe_ex fun _ _ _ => (ie_var (pv 6))))))))
    (iss_cons (is_if (it_cmp (op_eqD (Room.units hr)) os_eqD (ie_var (pv 5)) (ie_frz (if_lst ia_nil)) (nomark _)) (iss_one (is_ret (ps_ret (ie_cmp (op_eqD (Room.units hr)) os_eqD (ie_b1 call_len c1_len rfl c.b_len bt_len (q_of (ie_call h_grow_often hr rfl hxOf (ia_cons (ie_var (pv 1)) (ia_cons (ie_tup (ia_cons (ie_var (pv 2)) ia_nil)) (ia_cons (ie_var (pv 3)) ia_nil)))))) (ie_b1 (cr_sum rfl) c1_sum rfl c.b_sum bt_sum (q_of (ie_ix (ie_var (pv 4)) (ie_var (pv 3))))) (nomark _))))) iss_nil)
    (iss_cons (is_if (it_cmp (op_neD (Room.units hr)) os_neD (ie_err (T := TT K lamDefs) (c := (He.cT K ("_law_far_right", none)).1) (Pt := (He.cT K ("_law_far_right", none)).2) (k := 8) h__law_error rfl rfl tb rfl (TT_m (List.mem_of_getElem? (l := lamDefs) (i := 0) rfl)) (TT_u c.tabs (List.mem_of_getElem? (l := lamDefs) (i := 0) rfl)) (hr.mono (by decide)) (lamS_by (sc := defScope (top 38)) (by decide +kernel)) rfl (fun _ _ _ _ _ => rfl) (fun _ _ _ _ _ _ _ _ _ _ hr => (ie_call h_grow_often hr rfl hxLam (ia_cons (ie_var (pv 1)) (ia_cons (ie_tup (ia_cons (ie_var (pv 2)) ia_nil)) (ia_cons (ie_ix (ie_var (pv 5)) ie_int) ia_nil)))))) ie_str (nomark _)) (iss_one (is_ret (ps_ret ie_bl))) iss_nil)
    (iss_one (is_ret (ps_ret (ie_cmp (op_eqD (Room.units hr)) os_eqD (ie_b1 call_len c1_len rfl c.b_len bt_len (q_of (ie_call h_grow_often hr rfl hxOf (ia_cons (ie_var (pv 1)) (ia_cons (ie_tup (ia_cons (ie_var (pv 2)) ia_nil)) (ia_cons (ie_bin op_subD os_subD (ie_ix (ie_var (pv 5)) ie_int) ie_int) ia_nil)))))) (ie_b1 (cr_sum rfl) c1_sum rfl c.b_sum bt_sum (q_of (ie_ix (ie_var (pv 4)) (ie_bin op_subD os_subD (ie_ix (ie_var (pv 5)) ie_int) ie_int)))) (nomark _)))))))))))), h0⟩
/-! ### _law_bent -/
theorem sc__law_bent : FnScope ["hand", "rule", "size", "some"] ["hand", "rule"] (defScope (top 39)) := ⟨rfl, rfl, rfl, by decide +kernel, rfl, by decide +kernel, by decide +kernel⟩
def m__law_bent (K : PySem.W.Frag) : S := sq (setS 2 (bnd (vP 1) lenD))
    (sq (setS 3 (frz (lstF (args [ret .non, tupE (args []), frz (lstF (args [b2 ixD (vV 1) (ret (.int 0))])), b2 addD (vV 1) (tupE (args [tupE (args [])])), b2 addD (vV 1) (tupE (args [b2 mulD (tupE (args [ret (.int 1)])) (ret (.int 5))])), b2 addD (vV 1) (tupE (args [tupE (args [b2 addD (vV 2) (ret (.int 2))])])), b2 addD (vV 1) (tupE (args [tupE (args [ret (.int 0)])]))]))))
    (sq (setS 3 (b2 addD (vV 3) (frz (lstF (args [b2 addD (vV 1) (tupE (args [tupE (args [ret (.bl true)])])), b2 addD (vV 1) (tupE (args [frz (lstF (args [ret (.int 1)]))])), b2 mulD (tupE (args [tupE (args [ret (.int 1)])])) (ret (.int 41)), tupE (args [ret (.int 1)]), ret (.str "12"), dic1 "1" (tupE (args [ret (.int 1)]))])))))
    (retS (clI 0 (r__law_any K) (args [b2 addD (vV 3) (frz (lstF (args [tupE (args [tupE (args [negD (ret (.int 1))])]), b2 addD (vV 1) (tupE (args [ret .non]))])))])))))
def r__law_bent (K : PySem.W.Frag) (ds es : List D) : Rc := runI 2 (m__law_bent K) ds es
theorem ok__law_bent {f : Addr} {fd : FuncData} (F : FunD K "_law_bent" "_law_bent" (defArgs (top 39)) (defBody (top 39)) (defScope (top 39)) [] [] f fd) (c : Fc K mg) (h__law_any : Known P w K mg base "_law_any" 3 2 (spI K (T K) 2 (r__law_any K))) :
    FnOk P w K mg base (L2N.CX P w) 4 f fd ["hand", "rule"] (spI K (T K) 2 (r__law_bent K)) := by
  refine F.ok sc__law_bent (lenI rfl) fun cdv A outer s H vs Q E hr h => ?_
  obtain ⟨F0, a0, h0⟩ := body_I (T := T K) (N := ["hand", "rule", "size", "some"]) (k := 2) rfl h
  exact ⟨LS K (gxOf (T K) F0 H [a0] E) (m__law_bent K), (iss_cons (is_set (ps_set (i := 2) sc__law_bent.nd rfl (Or.inl rfl) (ie_b1 call_len c1_len rfl c.b_len bt_len (iq_var (pv 1)))))
    (iss_cons (is_set (ps_set (i := 3) sc__law_bent.nd rfl (Or.inl rfl) (ie_frz (if_lst (ia_cons ie_non (ia_cons (ie_tup ia_nil) (ia_cons (ie_frz (if_lst (ia_cons (ie_ix (ie_var (pv 1)) ie_int) ia_nil))) (ia_cons (ie_bin op_addD os_addD (ie_var (pv 1)) (ie_tup (ia_cons (ie_tup ia_nil) ia_nil))) (ia_cons (ie_bin op_addD os_addD (ie_var (pv 1)) (ie_tup (ia_cons (ie_bin op_mulD os_mulD (ie_tup (ia_cons ie_int ia_nil)) ie_int) ia_nil))) (ia_cons (ie_bin op_addD os_addD (ie_var (pv 1)) (ie_tup (ia_cons (ie_tup (ia_cons (ie_bin op_addD os_addD (ie_var (pv 2)) ie_int) ia_nil)) ia_nil))) (ia_cons (ie_bin op_addD os_addD (ie_var (pv 1)) (ie_tup (ia_cons (ie_tup (ia_cons ie_int ia_nil)) ia_nil))) ia_nil)))))))))))
    (iss_cons (is_set (ps_set (i := 3) sc__law_bent.nd rfl (Or.inl rfl) (ie_bin op_addD os_addD (ie_var (pv 3)) (ie_frz (if_lst (ia_cons (ie_bin op_addD os_addD (ie_var (pv 1)) (ie_tup (ia_cons (ie_tup (ia_cons ie_bl ia_nil)) ia_nil))) (ia_cons (ie_bin op_addD os_addD (ie_var (pv 1)) (ie_tup (ia_cons (ie_frz (if_lst (ia_cons ie_int ia_nil))) ia_nil))) (ia_cons (ie_bin op_mulD os_mulD (ie_tup (ia_cons (ie_tup (ia_cons ie_int ia_nil)) ia_nil)) ie_int) (ia_cons (ie_tup (ia_cons ie_int ia_nil)) (ia_cons ie_str (ia_cons (ie_dic1 fun _ _ _ => (ie_tup (ia_cons ie_int ia_nil))) ia_nil)))))))))))
    (iss_one (is_ret (ps_ret (ie_callI h__law_any hr rfl hxOf (pv 0) (ia_cons (ie_bin op_addD os_addD (ie_var (pv 3)) (ie_frz (if_lst (ia_cons (ie_tup (ia_cons (ie_tup (ia_cons (ie_neg ie_int) ia_nil)) ia_nil)) (ia_cons (ie_bin op_addD os_addD (ie_var (pv 1)) (ie_tup (ia_cons ie_non ia_nil))) ia_nil))))) ia_nil)))))))), h0⟩
/-! ### _law_refused_right -/
theorem sc__law_refused_right : FnScope ["hand", "rule", "bad", "size", "row", "sign_here", "turns_due", "asked", "words_met"] ["hand", "rule"] (defScope (top 40)) := ⟨rfl, rfl, rfl, by decide +kernel, rfl, by decide +kernel, by decide +kernel⟩
def m__law_refused_right (K : PySem.W.Frag) : S := sq (asgT 2 3 (tupE (args [clI 0 (r__law_bent K) (args [vV 1]), bnd (vP 1) lenD])))
    (sq (setS 4 (clI 0 (r__law_any K) (args [frz (lstF (args [ret .non, frz (lstF (args [ret (.int 1)])), tupE (args [ret (.int 0)]), tupE (args [b2 addD (vV 3) (ret (.int 1))]), tupE (args [ret (.bl true)]), b2 mulD (tupE (args [ret (.int 1)])) (ret (.int 401)), ret (.int 1), ret (.str "1")]))])))
    (sq (setS 5 (clI 0 (r__law_any K) (args [frz (lstF (args [ret (.int 0), b2 addD (vV 3) (ret (.int 1)), ret .non, ret (.bl true), ret (.str "1"), tupE (args [ret (.int 1)])]))])))
    (sq (setS 6 (clI 0 (r__law_any K) (args [frz (lstF (args [negD (ret (.int 1)), ret (.int 201), ret .non, ret (.bl true), ret (.str "1")]))])))
    (sq (ifS (orT (asB (b2 (isbD true) (cl (r_is_rule K) (args [vV 2])) (ret (.bl false)))) (asB (b2 (isbD true) (cl (r_is_rule K) (args [vV 1])) (ret (.bl true))))) (retS (ret (.bl false))) (nxt))
    (sq (setS 7 (clI 0 (r__law_any K) (args [frz (lstF (args [ret (.ref (He.ga K "signs_grown")), ret (.ref (He.ga K "size_grown"))]))])))
    (sq (setO 8 (lstF (args [errM K (He.ga K "NumeralError") "let" 4 (ms__law_error K) (cl (r_grow K) (args [vV 2, vV 4]))])))
    (sq (dropS (meV 8 (args [errM K (He.ga K "NumeralError") "let" 4 (ms__law_error K) (cl (r_grow_often K) (args [vV 2, vV 4, vV 6]))]) gApp))
    (sq (dropS (meV 8 (args [errM K (He.ga K "NumeralError") "let" 4 (ms__law_error K) (cl (r_grow K) (args [vV 1, vV 4]))]) gApp))
    (sq (dropS (meV 8 (args [errM K (He.ga K "NumeralError") "let" 4 (ms__law_error K) (cl (r_grow_often K) (args [vV 1, vV 4, vV 6]))]) gApp))
    (sq (dropS (meV 8 (args [errM K (He.ga K "NumeralError") "let" 4 (ms__law_error K) (cl (r_grow_often K) (args [vV 1, tupE (args [ret (.int 1)]), vV 6]))]) gApp))
    (sq (dropS (meV 8 (args [errM K (He.ga K "NumeralError") "let" 4 (ms__law_error K) (clV 7 (fnL K [("signs_grown", r_signs_grown K), ("size_grown", r_size_grown K)]) (args [vV 2, vV 5, vV 6]))]) gApp))
    (sq (dropS (meV 8 (args [errM K (He.ga K "NumeralError") "let" 4 (ms__law_error K) (clV 7 (fnL K [("signs_grown", r_signs_grown K), ("size_grown", r_size_grown K)]) (args [vV 1, vV 5, vV 6]))]) gApp))
    (sq (dropS (meV 8 (args [errM K (He.ga K "NumeralError") "let" 4 (ms__law_error K) (clV 7 (fnL K [("signs_grown", r_signs_grown K), ("size_grown", r_size_grown K)]) (args [vV 1, ret (.int 1), vV 6]))]) gApp))
    (retS (b2 eqD (vV 8) (frz (lstF (args [ret (.str "rule"), ret (.str "rule"), ret (.str "signs"), ret (.str "signs"), ret (.str "number"), ret (.str "rule"), ret (.str "sign"), ret (.str "number")]))))))))))))))))))
def r__law_refused_right (K : PySem.W.Frag) (ds es : List D) : Rc := runI 7 (m__law_refused_right K) ds es
theorem ok__law_refused_right {fd : FuncData} (F : FunD K "_law_refused_right" "_law_refused_right" (defArgs (top 40)) (defBody (top 40)) (defScope (top 40)) [] [] (He.fAd K ("_law_refused_right", none)) fd) (c : Fc K mg) (h_is_rule : Known P w K mg base "is_rule" 5 1 (spP K (T K) 1 (r_is_rule K))) (h_grow : Known P w K mg base "grow" 8 2 (spP K (T K) 2 (r_grow K))) (h_grow_often : Known P w K mg base "grow_often" 8 3 (spP K (T K) 3 (r_grow_often K))) (h_signs_grown : Known P w K mg base "signs_grown" 8 3 (spP K (T K) 3 (r_signs_grown K))) (h_size_grown : Known P w K mg base "size_grown" 8 3 (spP K (T K) 3 (r_size_grown K))) (h__law_any : Known P w K mg base "_law_any" 3 2 (spI K (T K) 2 (r__law_any K))) (h__law_bent : Known P w K mg base "_law_bent" 4 2 (spI K (T K) 2 (r__law_bent K))) (h__law_error : ErrD P w K mg base (T K) "_law_error" "call" (He.ga K "NumeralError") "let" 4 (ms__law_error K)) (tb : TabB base mg (He.cT K ("_law_refused_right", none)).1 (He.cT K ("_law_refused_right", none)).2) :
    FnOk P w K mg base (L2N.CX P w) 11 (He.fAd K ("_law_refused_right", none)) fd ["hand", "rule"] (spI K (T K) 2 (r__law_refused_right K)) := by
  refine okC F sc__law_refused_right (p := ("_law_refused_right", none)) rfl (lenI rfl) fun A outer s H vs Q E hr h => ?_
  obtain ⟨F0, a0, h0⟩ := body_I (T := T K) (N := ["hand", "rule", "bad", "size", "row", "sign_here", "turns_due", "asked", "words_met"]) (k := 7) rfl h
  exact ⟨LS K (gxOf (T K) F0 H [a0] E) (m__law_refused_right K), (iss_cons (is_asgT (ps_asg (ie_tup (ia_cons (ie_callI h__law_bent hr rfl hxOf (pv 0) (ia_cons (ie_var (pv 1)) ia_nil)) (ia_cons (ie_b1 call_len c1_len rfl c.b_len bt_len (iq_var (pv 1))) ia_nil))) (pg_tup rfl (pgs_cons (pg_name (i := 2) sc__law_refused_right.nd rfl (Or.inr rfl)) (pgs_cons (pg_name (i := 3) sc__law_refused_right.nd rfl (Or.inl rfl)) pgs_nil)))))
    (iss_cons (is_set (ps_set (i := 4) sc__law_refused_right.nd rfl (Or.inr rfl) (ie_callI h__law_any hr rfl hxOf (pv 0) (ia_cons (ie_frz (if_lst (ia_cons ie_non (ia_cons (ie_frz (if_lst (ia_cons ie_int ia_nil))) (ia_cons (ie_tup (ia_cons ie_int ia_nil)) (ia_cons (ie_tup (ia_cons (ie_bin op_addD os_addD (ie_var (pv 3)) ie_int) ia_nil)) (ia_cons (ie_tup (ia_cons ie_bl ia_nil)) (ia_cons (ie_bin op_mulD os_mulD (ie_tup (ia_cons ie_int ia_nil)) ie_int) (ia_cons ie_int (ia_cons ie_str ia_nil)))))))))) ia_nil))))
    (iss_cons (is_set (ps_set (i := 5) sc__law_refused_right.nd rfl (Or.inr rfl) (ie_callI h__law_any hr rfl hxOf (pv 0) (ia_cons (ie_frz (if_lst (ia_cons ie_int (ia_cons (ie_bin op_addD os_addD (ie_var (pv 3)) ie_int) (ia_cons ie_non (ia_cons ie_bl (ia_cons ie_str (ia_cons (ie_tup (ia_cons ie_int ia_nil)) ia_nil)))))))) ia_nil))))
    (iss_cons (is_set (ps_set (i := 6) sc__law_refused_right.nd rfl (Or.inr rfl) (ie_callI h__law_any hr rfl hxOf (pv 0) (ia_cons (ie_frz (if_lst (ia_cons (ie_neg ie_int) (ia_cons ie_int (ia_cons ie_non (ia_cons ie_bl (ia_cons ie_str ia_nil))))))) ia_nil))))
    (iss_cons (is_if (it_w (iw_or (it_cmp op_notBl os_isbN (ie_call h_is_rule hr rfl hxOf (ia_cons (ie_var (pv 2)) ia_nil)) ie_bl (nomark _)) (iw_or1 (it_cmp op_notBl os_isbN (ie_call h_is_rule hr rfl hxOf (ia_cons (ie_var (pv 1)) ia_nil)) ie_bl (nomark _))))) (iss_one (is_ret (ps_ret ie_bl))) iss_nil)
    (iss_cons (is_set (ps_set (i := 7) sc__law_refused_right.nd rfl (Or.inr rfl) (ie_callI h__law_any hr rfl hxOf (pv 0) (ia_cons (ie_frz (if_lst (ia_cons (ie_gref rfl c.g_signs_grown) (ia_cons (ie_gref rfl c.g_size_grown) ia_nil)))) ia_nil))))
    (iss_cons (is_setO (ps_set (i := 8) sc__law_refused_right.nd rfl (Or.inl rfl) (if_lst (ia_cons (ie_err (T := TT K lamDefs) (c := (He.cT K ("_law_refused_right", none)).1) (Pt := (He.cT K ("_law_refused_right", none)).2) (k := 8) h__law_error rfl rfl tb rfl (TT_m (List.mem_of_getElem? (l := lamDefs) (i := 1) rfl)) (TT_u c.tabs (List.mem_of_getElem? (l := lamDefs) (i := 1) rfl)) (hr.mono (by decide)) (lamS_by (sc := defScope (top 40)) (by decide +kernel)) rfl (fun _ _ _ _ _ => rfl) (fun _ _ _ _ _ _ _ _ _ _ hr => (ie_call h_grow hr rfl hxLam (ia_cons (ie_var (pv 2)) (ia_cons (ie_var (pv 4)) ia_nil))))) ia_nil))))
    (iss_cons (is_expr (ps_expr (ie_app (pv 8) (ia_cons (ie_err (T := TT K lamDefs) (c := (He.cT K ("_law_refused_right", none)).1) (Pt := (He.cT K ("_law_refused_right", none)).2) (k := 8) h__law_error rfl rfl tb rfl (TT_m (List.mem_of_getElem? (l := lamDefs) (i := 1) rfl)) (TT_u c.tabs (List.mem_of_getElem? (l := lamDefs) (i := 1) rfl)) (hr.mono (by decide)) (lamS_by (sc := defScope (top 40)) (by decide +kernel)) rfl (fun _ _ _ _ _ => rfl) (fun _ _ _ _ _ _ _ _ _ _ hr => (ie_call h_grow_often hr rfl hxLam (ia_cons (ie_var (pv 2)) (ia_cons (ie_var (pv 4)) (ia_cons (ie_var (pv 6)) ia_nil)))))) ia_nil))))
    (iss_cons (is_expr (ps_expr (ie_app (pv 8) (ia_cons (ie_err (T := TT K lamDefs) (c := (He.cT K ("_law_refused_right", none)).1) (Pt := (He.cT K ("_law_refused_right", none)).2) (k := 8) h__law_error rfl rfl tb rfl (TT_m (List.mem_of_getElem? (l := lamDefs) (i := 1) rfl)) (TT_u c.tabs (List.mem_of_getElem? (l := lamDefs) (i := 1) rfl)) (hr.mono (by decide)) (lamS_by (sc := defScope (top 40)) (by decide +kernel)) rfl (fun _ _ _ _ _ => rfl) (fun _ _ _ _ _ _ _ _ _ _ hr => (ie_call h_grow hr rfl hxLam (ia_cons (ie_var (pv 1)) (ia_cons (ie_var (pv 4)) ia_nil))))) ia_nil))))
    (iss_cons (is_expr (ps_expr (ie_app (pv 8) (ia_cons (ie_err (T := TT K lamDefs) (c := (He.cT K ("_law_refused_right", none)).1) (Pt := (He.cT K ("_law_refused_right", none)).2) (k := 8) h__law_error rfl rfl tb rfl (TT_m (List.mem_of_getElem? (l := lamDefs) (i := 1) rfl)) (TT_u c.tabs (List.mem_of_getElem? (l := lamDefs) (i := 1) rfl)) (hr.mono (by decide)) (lamS_by (sc := defScope (top 40)) (by decide +kernel)) rfl (fun _ _ _ _ _ => rfl) (fun _ _ _ _ _ _ _ _ _ _ hr => (ie_call h_grow_often hr rfl hxLam (ia_cons (ie_var (pv 1)) (ia_cons (ie_var (pv 4)) (ia_cons (ie_var (pv 6)) ia_nil)))))) ia_nil))))
    (iss_cons (is_expr (ps_expr (ie_app (pv 8) (ia_cons (ie_err (T := TT K lamDefs) (c := (He.cT K ("_law_refused_right", none)).1) (Pt := (He.cT K ("_law_refused_right", none)).2) (k := 8) h__law_error rfl rfl tb rfl (TT_m (List.mem_of_getElem? (l := lamDefs) (i := 1) rfl)) (TT_u c.tabs (List.mem_of_getElem? (l := lamDefs) (i := 1) rfl)) (hr.mono (by decide)) (lamS_by (sc := defScope (top 40)) (by decide +kernel)) rfl (fun _ _ _ _ _ => rfl) (fun _ _ _ _ _ _ _ _ _ _ hr => (ie_call h_grow_often hr rfl hxLam (ia_cons (ie_var (pv 1)) (ia_cons (ie_tup (ia_cons ie_int ia_nil)) (ia_cons (ie_var (pv 6)) ia_nil)))))) ia_nil))))
    (iss_cons (is_expr (ps_expr (ie_app (pv 8) (ia_cons (ie_err (T := TT K lamDefs) (c := (He.cT K ("_law_refused_right", none)).1) (Pt := (He.cT K ("_law_refused_right", none)).2) (k := 8) h__law_error rfl rfl tb rfl (TT_m (List.mem_of_getElem? (l := lamDefs) (i := 1) rfl)) (TT_u c.tabs (List.mem_of_getElem? (l := lamDefs) (i := 1) rfl)) (hr.mono (by decide)) (lamS_by (sc := defScope (top 40)) (by decide +kernel)) rfl (fun _ _ _ _ _ => rfl) (fun _ _ _ _ _ _ _ _ _ _ hr => (ie_callV (j := 8) (fn := (fnL K [("signs_grown", r_signs_grown K), ("size_grown", r_size_grown K)])) (kv_cons h_signs_grown c.g_signs_grown (kv_cons h_size_grown c.g_size_grown kv_nil)) hr rfl (Or.inr (Or.inr rfl)) hxLam (ia_cons (ie_var (pv 2)) (ia_cons (ie_var (pv 5)) (ia_cons (ie_var (pv 6)) ia_nil)))))) ia_nil))))
    (iss_cons (is_expr (ps_expr (ie_app (pv 8) (ia_cons (ie_err (T := TT K lamDefs) (c := (He.cT K ("_law_refused_right", none)).1) (Pt := (He.cT K ("_law_refused_right", none)).2) (k := 8) h__law_error rfl rfl tb rfl (TT_m (List.mem_of_getElem? (l := lamDefs) (i := 1) rfl)) (TT_u c.tabs (List.mem_of_getElem? (l := lamDefs) (i := 1) rfl)) (hr.mono (by decide)) (lamS_by (sc := defScope (top 40)) (by decide +kernel)) rfl (fun _ _ _ _ _ => rfl) (fun _ _ _ _ _ _ _ _ _ _ hr => (ie_callV (j := 8) (fn := (fnL K [("signs_grown", r_signs_grown K), ("size_grown", r_size_grown K)])) (kv_cons h_signs_grown c.g_signs_grown (kv_cons h_size_grown c.g_size_grown kv_nil)) hr rfl (Or.inr (Or.inr rfl)) hxLam (ia_cons (ie_var (pv 1)) (ia_cons (ie_var (pv 5)) (ia_cons (ie_var (pv 6)) ia_nil)))))) ia_nil))))
    (iss_cons (is_expr (ps_expr (ie_app (pv 8) (ia_cons (ie_err (T := TT K lamDefs) (c := (He.cT K ("_law_refused_right", none)).1) (Pt := (He.cT K ("_law_refused_right", none)).2) (k := 8) h__law_error rfl rfl tb rfl (TT_m (List.mem_of_getElem? (l := lamDefs) (i := 1) rfl)) (TT_u c.tabs (List.mem_of_getElem? (l := lamDefs) (i := 1) rfl)) (hr.mono (by decide)) (lamS_by (sc := defScope (top 40)) (by decide +kernel)) rfl (fun _ _ _ _ _ => rfl) (fun _ _ _ _ _ _ _ _ _ _ hr => (ie_callV (j := 8) (fn := (fnL K [("signs_grown", r_signs_grown K), ("size_grown", r_size_grown K)])) (kv_cons h_signs_grown c.g_signs_grown (kv_cons h_size_grown c.g_size_grown kv_nil)) hr rfl (Or.inr (Or.inr rfl)) hxLam (ia_cons (ie_var (pv 1)) (ia_cons ie_int (ia_cons (ie_var (pv 6)) ia_nil)))))) ia_nil))))
    (iss_one (is_ret (ps_ret (ie_cmp (op_eqD (Room.units hr)) os_eqD (ie_var (pv 8)) (ie_frz (if_lst (ia_cons ie_str (ia_cons ie_str (ia_cons ie_str (ia_cons ie_str (ia_cons ie_str (ia_cons ie_str (ia_cons ie_str (ia_cons ie_str ia_nil)))))))))) (nomark _))))))))))))))))))), h0⟩
/-! ### law -/
theorem sc_law : FnScope ["script", "hand", "turn", "rule"] ["script"] (defScope (top 41)) := ⟨rfl, rfl, rfl, by decide +kernel, rfl, by decide +kernel, by decide +kernel⟩
def lp_law_0 (K : PySem.W.Frag) : D → S := stp 2 (sq (setS 3 (b2 ixD (clI 1 (r__law_rule K) (args [ret (.int 5)])) (ret (.int 0))))
    (ifS (orT (notT (asB (clI 1 (r__law_steps_right K) (args [vV 3])))) (orT (notT (asB (clI 1 (r__law_far_right K) (args [vV 3])))) (notT (asB (clI 1 (r__law_refused_right K) (args [vV 3])))))) (retS (ret (.bl false))) (nxt)))
def m_law (K : PySem.W.Frag) : S := sq (setO 1 (clF (r__law_hand K) (args [vV 0])))
    (sq (forR1 [2, 3] (ret (.int 4)) (lp_law_0 K))
    (retS (andE (b2 eqD (cl (r_grow K) (args [tupE (args [tupE (args [ret (.int 1), ret (.int 2)]), tupE (args [ret (.int 1)])]), b2 mulD (tupE (args [ret (.int 1)])) (ret (.int 400))])) (b2 mulD (tupE (args [ret (.int 1), ret (.int 2)])) (ret (.int 400)))) (b2 eqD (cl (r_grow_often K) (args [tupE (args [tupE (args [ret (.int 1)])]), tupE (args []), ret (.int 200)])) (tupE (args []))))))
def r_law (K : PySem.W.Frag) (ds : List D) : Rc := runP 3 (m_law K) ds
theorem ok_law {f : Addr} {fd : FuncData} (F : FunD K "law" "law" (defArgs (top 41)) (defBody (top 41)) (defScope (top 41)) [] [] f fd) (c : Fc K mg) (h_grow : Known P w K mg base "grow" 8 2 (spP K (T K) 2 (r_grow K))) (h_grow_often : Known P w K mg base "grow_often" 8 3 (spP K (T K) 3 (r_grow_often K))) (h__law_hand : Known P w K mg base "_law_hand" 2 1 (spP K (T K) 1 (r__law_hand K))) (h__law_rule : Known P w K mg base "_law_rule" 3 2 (spI K (T K) 2 (r__law_rule K))) (h__law_steps_right : Known P w K mg base "_law_steps_right" 9 2 (spI K (T K) 2 (r__law_steps_right K))) (h__law_far_right : Known P w K mg base "_law_far_right" 11 2 (spI K (T K) 2 (r__law_far_right K))) (h__law_refused_right : Known P w K mg base "_law_refused_right" 11 2 (spI K (T K) 2 (r__law_refused_right K))) :
    FnOk P w K mg base (L2N.CX P w) 12 f fd ["script"] (spP K (T K) 1 (r_law K)) := by
  refine F.ok sc_law (lenP rfl) fun cdv A outer s H vs Q E hr h => ?_
  obtain ⟨F0, h0⟩ := body_P (T := T K) (N := ["script", "hand", "turn", "rule"]) (k := 3) rfl h
  exact ⟨LS K (gxOf (T K) F0 H [] E) (m_law K), (iss_cons (is_setO (ps_set (i := 1) sc_law.nd rfl (Or.inl rfl) (if_call h__law_hand hr rfl hxOf (ia_cons (ie_var (pv 0)) ia_nil))))
    (iss_cons (is_forR1 [2, 3] tg_name (ps_for (L2.passes_of rfl) rfl (pi_range1 rfl c.b_range (pa_cons ie_int pa_nil)) (pg_name (i := 2) sc_law.nd rfl (Or.inl rfl)) (iss_cons (is_set (ps_set (i := 3) sc_law.nd rfl (Or.inl rfl) (ie_ix (ie_callI h__law_rule hr rfl hxOf (pv 1) (ia_cons ie_int ia_nil)) ie_int)))
    (iss_one (is_if (it_w (iw_or (it_not (it_val (ie_callI h__law_steps_right hr rfl hxOf (pv 1) (ia_cons (ie_var (pv 3)) ia_nil)))) (iw_or (it_not (it_val (ie_callI h__law_far_right hr rfl hxOf (pv 1) (ia_cons (ie_var (pv 3)) ia_nil)))) (iw_or1 (it_not (it_val (ie_callI h__law_refused_right hr rfl hxOf (pv 1) (ia_cons (ie_var (pv 3)) ia_nil)))))))) (iss_one (is_ret (ps_ret ie_bl))) iss_nil)))))
    (iss_one (is_ret (ps_ret (ie_and (ie_cmp (op_eqD (Room.units hr)) os_eqD (ie_call h_grow hr rfl hxOf (ia_cons (ie_tup (ia_cons (ie_tup (ia_cons ie_int (ia_cons ie_int ia_nil))) (ia_cons (ie_tup (ia_cons ie_int ia_nil)) ia_nil))) (ia_cons (ie_bin op_mulD os_mulD (ie_tup (ia_cons ie_int ia_nil)) ie_int) ia_nil))) (ie_bin op_mulD os_mulD (ie_tup (ia_cons ie_int (ia_cons ie_int ia_nil))) ie_int) (nomark _)) (ie_one (ie_cmp (op_eqD (Room.units hr)) os_eqD (ie_call h_grow_often hr rfl hxOf (ia_cons (ie_tup (ia_cons (ie_tup (ia_cons ie_int ia_nil)) ia_nil)) (ia_cons (ie_tup ia_nil) (ia_cons ie_int ia_nil)))) (ie_tup ia_nil) (nomark _))))))))), h0⟩
end
def ini_TooMany : Stmt := match top 2 with
  | .ClassDef _ _ _ b _ _ _ _ _ _ _ => b.getD 0 (.Pass ⟨0, 0, 0, 0⟩)
  | s => s
theorem sc_ini_TooMany : FnScope ["self", "most"] ["self", "most"] (defScope ini_TooMany) := ⟨rfl, rfl, rfl, by decide +kernel, rfl, by decide +kernel, by decide +kernel⟩
theorem ok_ini_TooMany {P : Program} {w : World} {K : PySem.W.Frag} {mg : Str → Option Value} {base : Heap} {f : Addr} {fd : FuncData} (F : FunD K "__init__" "TooMany.__init__" (defArgs ini_TooMany) (defBody ini_TooMany) (defScope ini_TooMany) [] [] f fd) (b : BaseI K mg "NumeralError" (He.ga K "NumeralError")) :
    FnOk P w K mg base (L2N.CX P w) 1 f fd ["self", "most"] (spTM K (He.ga K "TooMany") "most") := by
  refine F.ok sc_ini_TooMany (fun vs H Q E h => by obtain ⟨_, _, rfl, _⟩ := h; rfl) fun cdv A outer s H vs Q E hr h => ?_
  obtain ⟨a, v, rfl, h1, h2, h3, k⟩ := h
  refine ⟨_, pss_cons (ps_expr (pe_binit b rfl (pa_cons (pv 0) (pa_cons (pv 1) pa_nil)))) (pss_one (ps_ost (pv 0) (pv 1))), ?_⟩
  exact ⟨_, rfl, _, rfl, a, _, [v], rfl, by show 1 ≤ 1000; decide, h2, h1, _, rfl, _, rfl, a, _, rfl, h2, h3, .inl ⟨h1, fun dx n1 n2 => k dx n1 n2⟩⟩
def fa : List He.Fa := [.free "ValueError", .free "abs", .free "all", .free "bool", .free "int", .free "isinstance", .free "len", .free "max", .free "range", .free "sum", .free "tuple", .free "zip", .int "MOST_SIGNS" 40, .int "MOST_PUT" 4, .int "MOST_ROW" 400, .int "MOST_GROWN" 20000, .int "MOST_TIMES" 200, .glo "is_integer", .glo "is_within", .glo "are_signs", .glo "is_rule", .glo "check_rule", .glo "check_sign", .glo "check_signs", .glo "check_times", .glo "raw_grow", .glo "grow", .glo "grow_often", .glo "counts_grown", .glo "raw_signs_grown", .glo "signs_grown", .glo "size_grown", .glo "_law_hand", .glo "_law_draw", .glo "_law_any", .glo "_law_rule", .glo "_law_step", .glo "_law_sums", .glo "_law_error", .glo "_law_steps_right", .glo "_law_far_right", .glo "_law_bent", .glo "_law_refused_right", .glo "law", .glo "NumeralError", .glo "TooMany", .glo "NoNumber", .glo "NoSign", .glo "NoRule", .glo "NoSigns", .exc "NumeralError", .exc "NoNumber", .exc "NoSign", .exc "NoRule", .exc "NoSigns", .keep "TooMany"]
def d_is_integer : He.DefD := ⟨("is_integer", none), "is_integer", "is_integer", defArgs (top 8), defBody (top 8), defScope (top 8), [], []⟩
def d_is_within : He.DefD := ⟨("is_within", none), "is_within", "is_within", defArgs (top 9), defBody (top 9), defScope (top 9), [], []⟩
def d_are_signs : He.DefD := ⟨("are_signs", none), "are_signs", "are_signs", defArgs (top 16), defBody (top 16), defScope (top 16), [], []⟩
def d_is_rule : He.DefD := ⟨("is_rule", none), "is_rule", "is_rule", defArgs (top 17), defBody (top 17), defScope (top 17), [], []⟩
def d_check_rule : He.DefD := ⟨("check_rule", none), "check_rule", "check_rule", defArgs (top 18), defBody (top 18), defScope (top 18), [], []⟩
def d_check_sign : He.DefD := ⟨("check_sign", none), "check_sign", "check_sign", defArgs (top 19), defBody (top 19), defScope (top 19), [], []⟩
def d_check_signs : He.DefD := ⟨("check_signs", none), "check_signs", "check_signs", defArgs (top 20), defBody (top 20), defScope (top 20), [], []⟩
def d_check_times : He.DefD := ⟨("check_times", none), "check_times", "check_times", defArgs (top 21), defBody (top 21), defScope (top 21), [], []⟩
def d_raw_grow : He.DefD := ⟨("raw_grow", none), "raw_grow", "raw_grow", defArgs (top 22), defBody (top 22), defScope (top 22), [], []⟩
def d_grow : He.DefD := ⟨("grow", none), "grow", "grow", defArgs (top 23), defBody (top 23), defScope (top 23), [], []⟩
def d_grow_often : He.DefD := ⟨("grow_often", none), "grow_often", "grow_often", defArgs (top 24), defBody (top 24), defScope (top 24), [], []⟩
def d_counts_grown : He.DefD := ⟨("counts_grown", none), "counts_grown", "counts_grown", defArgs (top 25), defBody (top 25), defScope (top 25), [], []⟩
def d_raw_signs_grown : He.DefD := ⟨("raw_signs_grown", none), "raw_signs_grown", "raw_signs_grown", defArgs (top 26), defBody (top 26), defScope (top 26), [], []⟩
def d_signs_grown : He.DefD := ⟨("signs_grown", none), "signs_grown", "signs_grown", defArgs (top 27), defBody (top 27), defScope (top 27), [], []⟩
def d_size_grown : He.DefD := ⟨("size_grown", none), "size_grown", "size_grown", defArgs (top 28), defBody (top 28), defScope (top 28), [], []⟩
def d__law_hand : He.DefD := ⟨("_law_hand", none), "_law_hand", "_law_hand", defArgs (top 30), defBody (top 30), defScope (top 30), [], []⟩
def d__law_draw : He.DefD := ⟨("_law_draw", none), "_law_draw", "_law_draw", defArgs (top 31), defBody (top 31), defScope (top 31), [], []⟩
def d__law_any : He.DefD := ⟨("_law_any", none), "_law_any", "_law_any", defArgs (top 32), defBody (top 32), defScope (top 32), [], []⟩
def d__law_rule : He.DefD := ⟨("_law_rule", none), "_law_rule", "_law_rule", defArgs (top 33), defBody (top 33), defScope (top 33), [], []⟩
def d__law_step : He.DefD := ⟨("_law_step", none), "_law_step", "_law_step", defArgs (top 34), defBody (top 34), defScope (top 34), [], []⟩
def d__law_sums : He.DefD := ⟨("_law_sums", none), "_law_sums", "_law_sums", defArgs (top 35), defBody (top 35), defScope (top 35), [], []⟩
def d__law_error : He.DefD := ⟨("_law_error", none), "_law_error", "_law_error", defArgs (top 36), defBody (top 36), defScope (top 36), [], []⟩
def d__law_steps_right : He.DefD := ⟨("_law_steps_right", none), "_law_steps_right", "_law_steps_right", defArgs (top 37), defBody (top 37), defScope (top 37), [], []⟩
def d__law_far_right : He.DefD := ⟨("_law_far_right", none), "_law_far_right", "_law_far_right", defArgs (top 38), defBody (top 38), defScope (top 38), [], []⟩
def d__law_bent : He.DefD := ⟨("_law_bent", none), "_law_bent", "_law_bent", defArgs (top 39), defBody (top 39), defScope (top 39), [], []⟩
def d__law_refused_right : He.DefD := ⟨("_law_refused_right", none), "_law_refused_right", "_law_refused_right", defArgs (top 40), defBody (top 40), defScope (top 40), [], []⟩
def d_law : He.DefD := ⟨("law", none), "law", "law", defArgs (top 41), defBody (top 41), defScope (top 41), [], []⟩
def d_ini_TooMany : He.DefD := ⟨("TooMany", some "__init__"), "__init__", "TooMany.__init__", defArgs ini_TooMany, defBody ini_TooMany, defScope ini_TooMany, [], []⟩
def fn : List He.DefD := [d_is_integer, d_is_within, d_are_signs, d_is_rule, d_check_rule, d_check_sign, d_check_signs, d_check_times, d_raw_grow, d_grow, d_grow_often, d_counts_grown, d_raw_signs_grown, d_signs_grown, d_size_grown, d__law_hand, d__law_draw, d__law_any, d__law_rule, d__law_step, d__law_sums, d__law_error, d__law_steps_right, d__law_far_right, d__law_bent, d__law_refused_right, d_law, d_ini_TooMany]
def kits (K : PySem.W.Frag) : List (Addr × Value × Bool) := [(He.ga K "TooMany", .ref (He.ga K "TooMany"), true), (He.ga K "TooMany", .ref (He.ga K "NoNumber"), false), (He.ga K "TooMany", .ref (He.ga K "NoSign"), false), (He.ga K "TooMany", .ref (He.ga K "NoRule"), false), (He.ga K "TooMany", .ref (He.ga K "NoSigns"), false), (He.ga K "NoNumber", .ref (He.ga K "TooMany"), false), (He.ga K "NoNumber", .ref (He.ga K "NoNumber"), true), (He.ga K "NoNumber", .ref (He.ga K "NoSign"), false), (He.ga K "NoNumber", .ref (He.ga K "NoRule"), false), (He.ga K "NoNumber", .ref (He.ga K "NoSigns"), false), (He.ga K "NoSign", .ref (He.ga K "TooMany"), false), (He.ga K "NoSign", .ref (He.ga K "NoNumber"), false), (He.ga K "NoSign", .ref (He.ga K "NoSign"), true), (He.ga K "NoSign", .ref (He.ga K "NoRule"), false), (He.ga K "NoSign", .ref (He.ga K "NoSigns"), false), (He.ga K "NoRule", .ref (He.ga K "TooMany"), false), (He.ga K "NoRule", .ref (He.ga K "NoNumber"), false), (He.ga K "NoRule", .ref (He.ga K "NoSign"), false), (He.ga K "NoRule", .ref (He.ga K "NoRule"), true), (He.ga K "NoRule", .ref (He.ga K "NoSigns"), false), (He.ga K "NoSigns", .ref (He.ga K "TooMany"), false), (He.ga K "NoSigns", .ref (He.ga K "NoNumber"), false), (He.ga K "NoSigns", .ref (He.ga K "NoSign"), false), (He.ga K "NoSigns", .ref (He.ga K "NoRule"), false), (He.ga K "NoSigns", .ref (He.ga K "NoSigns"), true), (He.ga K "TooMany", .type "ValueError", true), (He.ga K "NoNumber", .type "ValueError", true), (He.ga K "NoSign", .type "ValueError", true), (He.ga K "NoRule", .type "ValueError", true), (He.ga K "NoSigns", .type "ValueError", true)]
def exAll (K : PySem.W.Frag) : Bool := ((((excs K).all (excB K) && (excs K).all (exmB K (He.ga K "NumeralError"))) && kitsB K (kits K)) && (decide ((excs K).Nodup) && decide ((lamDefs.map fun x => (He.cT K (x, none)).2).Nodup))) && (iniB K (He.ga K "TooMany") (He.ma K (He.ga K "TooMany") "__init__") "most" && baseB K (He.ga K "NumeralError"))
section
variable {K : PySem.W.Frag} {mg : Str → Option Value} {h : Heap}
theorem ex_base (m : exAll K = true) : ((((excs K).all (excB K) && (excs K).all (exmB K (He.ga K "NumeralError"))) && kitsB K (kits K)) && (decide ((excs K).Nodup) && decide ((lamDefs.map fun x => (He.cT K (x, none)).2).Nodup))) = true := (ba2 m).1
theorem fc_of (X : K.In h) (G : h.Ns mainGlobals mg) (d : He.SaysD fa fn K) (m : exAll K = true) : Fc K mg where
  b_ValueError := He.free_ok X G (d.fact 0 (f := .free "ValueError") rfl)
  b_abs := He.free_ok X G (d.fact 1 (f := .free "abs") rfl)
  b_all := He.free_ok X G (d.fact 2 (f := .free "all") rfl)
  b_bool := He.free_ok X G (d.fact 3 (f := .free "bool") rfl)
  b_int := He.free_ok X G (d.fact 4 (f := .free "int") rfl)
  b_isinstance := He.free_ok X G (d.fact 5 (f := .free "isinstance") rfl)
  b_len := He.free_ok X G (d.fact 6 (f := .free "len") rfl)
  b_max := He.free_ok X G (d.fact 7 (f := .free "max") rfl)
  b_range := He.free_ok X G (d.fact 8 (f := .free "range") rfl)
  b_sum := He.free_ok X G (d.fact 9 (f := .free "sum") rfl)
  b_tuple := He.free_ok X G (d.fact 10 (f := .free "tuple") rfl)
  b_zip := He.free_ok X G (d.fact 11 (f := .free "zip") rfl)
  MOST_SIGNS := He.int_ok X G (d.fact 12 (f := .int "MOST_SIGNS" 40) rfl)
  MOST_PUT := He.int_ok X G (d.fact 13 (f := .int "MOST_PUT" 4) rfl)
  MOST_ROW := He.int_ok X G (d.fact 14 (f := .int "MOST_ROW" 400) rfl)
  MOST_GROWN := He.int_ok X G (d.fact 15 (f := .int "MOST_GROWN" 20000) rfl)
  MOST_TIMES := He.int_ok X G (d.fact 16 (f := .int "MOST_TIMES" 200) rfl)
  g_is_integer := He.glo_ok X G (d.fact 17 (f := .glo "is_integer") rfl)
  g_is_within := He.glo_ok X G (d.fact 18 (f := .glo "is_within") rfl)
  g_are_signs := He.glo_ok X G (d.fact 19 (f := .glo "are_signs") rfl)
  g_is_rule := He.glo_ok X G (d.fact 20 (f := .glo "is_rule") rfl)
  g_check_rule := He.glo_ok X G (d.fact 21 (f := .glo "check_rule") rfl)
  g_check_sign := He.glo_ok X G (d.fact 22 (f := .glo "check_sign") rfl)
  g_check_signs := He.glo_ok X G (d.fact 23 (f := .glo "check_signs") rfl)
  g_check_times := He.glo_ok X G (d.fact 24 (f := .glo "check_times") rfl)
  g_raw_grow := He.glo_ok X G (d.fact 25 (f := .glo "raw_grow") rfl)
  g_grow := He.glo_ok X G (d.fact 26 (f := .glo "grow") rfl)
  g_grow_often := He.glo_ok X G (d.fact 27 (f := .glo "grow_often") rfl)
  g_counts_grown := He.glo_ok X G (d.fact 28 (f := .glo "counts_grown") rfl)
  g_raw_signs_grown := He.glo_ok X G (d.fact 29 (f := .glo "raw_signs_grown") rfl)
  g_signs_grown := He.glo_ok X G (d.fact 30 (f := .glo "signs_grown") rfl)
  g_size_grown := He.glo_ok X G (d.fact 31 (f := .glo "size_grown") rfl)
  g__law_hand := He.glo_ok X G (d.fact 32 (f := .glo "_law_hand") rfl)
  g__law_draw := He.glo_ok X G (d.fact 33 (f := .glo "_law_draw") rfl)
  g__law_any := He.glo_ok X G (d.fact 34 (f := .glo "_law_any") rfl)
  g__law_rule := He.glo_ok X G (d.fact 35 (f := .glo "_law_rule") rfl)
  g__law_step := He.glo_ok X G (d.fact 36 (f := .glo "_law_step") rfl)
  g__law_sums := He.glo_ok X G (d.fact 37 (f := .glo "_law_sums") rfl)
  g__law_error := He.glo_ok X G (d.fact 38 (f := .glo "_law_error") rfl)
  g__law_steps_right := He.glo_ok X G (d.fact 39 (f := .glo "_law_steps_right") rfl)
  g__law_far_right := He.glo_ok X G (d.fact 40 (f := .glo "_law_far_right") rfl)
  g__law_bent := He.glo_ok X G (d.fact 41 (f := .glo "_law_bent") rfl)
  g__law_refused_right := He.glo_ok X G (d.fact 42 (f := .glo "_law_refused_right") rfl)
  g_law := He.glo_ok X G (d.fact 43 (f := .glo "law") rfl)
  NumeralError := by
    obtain ⟨h1, h2, h3, h4⟩ := He.exc_ok (d.fact 50 (f := .exc "NumeralError") rfl)
    exact ⟨⟨He.glo_ok X G (d.fact 44 (f := .glo "NumeralError") rfl), h2, h3, h4⟩, h1⟩
  TooMany := by
    obtain ⟨T, _⟩ := iniB_ok (ba2 (ba2 m).2).1
    exact ⟨He.glo_ok X G (d.fact 45 (f := .glo "TooMany") rfl), T.kC, T.exC, T.tyC⟩
  NoNumber := by
    obtain ⟨h1, h2, h3, h4⟩ := He.exc_ok (d.fact 51 (f := .exc "NoNumber") rfl)
    exact ⟨⟨He.glo_ok X G (d.fact 46 (f := .glo "NoNumber") rfl), h2, h3, h4⟩, h1⟩
  NoSign := by
    obtain ⟨h1, h2, h3, h4⟩ := He.exc_ok (d.fact 52 (f := .exc "NoSign") rfl)
    exact ⟨⟨He.glo_ok X G (d.fact 47 (f := .glo "NoSign") rfl), h2, h3, h4⟩, h1⟩
  NoRule := by
    obtain ⟨h1, h2, h3, h4⟩ := He.exc_ok (d.fact 53 (f := .exc "NoRule") rfl)
    exact ⟨⟨He.glo_ok X G (d.fact 48 (f := .glo "NoRule") rfl), h2, h3, h4⟩, h1⟩
  NoSigns := by
    obtain ⟨h1, h2, h3, h4⟩ := He.exc_ok (d.fact 54 (f := .exc "NoSigns") rfl)
    exact ⟨⟨He.glo_ok X G (d.fact 49 (f := .glo "NoSigns") rfl), h2, h3, h4⟩, h1⟩
  exC := fun D hD => excB_ok (List.all_eq_true.mp (ba2 (ba2 (ba2 (ex_base m)).1).1).1 D hD)
  tabs := of_decide_eq_true (ba2 (ba2 (ex_base m)).2).2
/-- what the plain law asks of K -/
structure Kf (K : PySem.W.Frag) : Prop where
  exm : ∀ C ∈ excs K, PySem.W.exmOne K (.ref C) (.ref (He.ga K "NumeralError")) = some true
  kit : ∀ p ∈ kits K, PySem.W.kitOne K (.ref p.1) p.2.1 = some p.2.2
  nd : (excs K).Nodup
theorem kf_of (m : exAll K = true) : Kf K where
  exm := fun C hC => of_decide_eq_true (List.all_eq_true.mp (ba2 (ba2 (ba2 (ex_base m)).1).1).2 C hC)
  kit := kitsB_ok (ba2 (ba2 (ex_base m)).1).2
  nd := of_decide_eq_true (ba2 (ba2 (ex_base m)).2).1
theorem ki_TooMany {P : Program} {w : World} {base : Heap} (X : K.In h) (G : h.Ns mainGlobals mg) (d : He.SaysD fa fn K) (m : exAll K = true) : KnownI P w K mg base "TooMany" (He.ga K "TooMany") "most" := by
  obtain ⟨fd, F⟩ := d.def_ 27 (d := d_ini_TooMany) rfl
  obtain ⟨T, nf, fi, ti⟩ := iniB_ok (ba2 (ba2 m).2).1
  exact ⟨He.glo_ok X G (d.fact 45 (f := .glo "TooMany") rfl), T, nf, He.ma K (He.ga K "TooMany") "__init__", fd, _, fi, ti, FunD.bindsN F fun _ _ _ _ _ _ us hl => match us, hl with | [_, _], _ => rfl, ok_ini_TooMany F (baseB_ok (He.glo_ok X G (d.fact 44 (f := .glo "NumeralError") rfl)) (ba2 (ba2 m).2).2)⟩
theorem main_ok {P : Program} {w : World} {base : Heap} (X : K.In h) (G : h.Ns mainGlobals mg) (d : He.SaysD fa fn K) (m : exAll K = true) (tb : ∀ x ∈ lamDefs, TabB base mg (He.cT K (x, none)).1 (He.cT K (x, none)).2)
    {fd_law : FuncData} (F_law : FunD K "law" "law" (defArgs (top 41)) (defBody (top 41)) (defScope (top 41)) [] [] (He.fAd K ("law", none)) fd_law) :
    FnOk P w K mg base (L2N.CX P w) 12 (He.ga K "law") fd_law ["script"] (spP K (T K) 1 (r_law K)) := by
  have c := fc_of X G d m
  have h_TooMany : KnownI P w K mg base "TooMany" (He.ga K "TooMany") "most" := ki_TooMany X G d m
  obtain ⟨fd_is_integer, F_is_integer⟩ := d.def_ 0 (d := d_is_integer) rfl
  have h_is_integer : Known P w K mg base "is_integer" 2 1 (spP K (T K) 1 (r_is_integer K)) := known_of F_is_integer c.g_is_integer rfl (fun _ _ _ _ _ _ us hl => match us, hl with | [_], _ => rfl) (ok_is_integer F_is_integer c )
  obtain ⟨fd_is_within, F_is_within⟩ := d.def_ 1 (d := d_is_within) rfl
  have h_is_within : Known P w K mg base "is_within" 3 3 (spP K (T K) 3 (r_is_within K)) := known_of F_is_within c.g_is_within rfl (fun _ _ _ _ _ _ us hl => match us, hl with | [_, _, _], _ => rfl) (ok_is_within F_is_within c h_is_integer)
  obtain ⟨fd_are_signs, F_are_signs⟩ := d.def_ 2 (d := d_are_signs) rfl
  have h_are_signs : Known P w K mg base "are_signs" 4 3 (spP K (T K) 3 (r_are_signs K)) := known_of F_are_signs c.g_are_signs rfl (fun _ _ _ _ _ _ us hl => match us, hl with | [_, _, _], _ => rfl) (ok_are_signs F_are_signs c h_is_within)
  obtain ⟨fd_is_rule, F_is_rule⟩ := d.def_ 3 (d := d_is_rule) rfl
  have h_is_rule : Known P w K mg base "is_rule" 5 1 (spP K (T K) 1 (r_is_rule K)) := known_of F_is_rule c.g_is_rule rfl (fun _ _ _ _ _ _ us hl => match us, hl with | [_], _ => rfl) (ok_is_rule F_is_rule c h_are_signs)
  obtain ⟨fd_check_rule, F_check_rule⟩ := d.def_ 4 (d := d_check_rule) rfl
  have h_check_rule : Known P w K mg base "check_rule" 6 1 (spP K (T K) 1 (r_check_rule K)) := known_of F_check_rule c.g_check_rule rfl (fun _ _ _ _ _ _ us hl => match us, hl with | [_], _ => rfl) (ok_check_rule F_check_rule c h_is_rule)
  obtain ⟨fd_check_sign, F_check_sign⟩ := d.def_ 5 (d := d_check_sign) rfl
  have h_check_sign : Known P w K mg base "check_sign" 7 2 (spP K (T K) 2 (r_check_sign K)) := known_of F_check_sign c.g_check_sign rfl (fun _ _ _ _ _ _ us hl => match us, hl with | [_, _], _ => rfl) (ok_check_sign F_check_sign c h_is_within h_check_rule)
  obtain ⟨fd_check_signs, F_check_signs⟩ := d.def_ 6 (d := d_check_signs) rfl
  have h_check_signs : Known P w K mg base "check_signs" 7 2 (spP K (T K) 2 (r_check_signs K)) := known_of F_check_signs c.g_check_signs rfl (fun _ _ _ _ _ _ us hl => match us, hl with | [_, _], _ => rfl) (ok_check_signs F_check_signs c h_are_signs h_check_rule)
  obtain ⟨fd_check_times, F_check_times⟩ := d.def_ 7 (d := d_check_times) rfl
  have h_check_times : Known P w K mg base "check_times" 4 1 (spP K (T K) 1 (r_check_times K)) := known_of F_check_times c.g_check_times rfl (fun _ _ _ _ _ _ us hl => match us, hl with | [_], _ => rfl) (ok_check_times F_check_times c h_is_within)
  obtain ⟨fd_raw_grow, F_raw_grow⟩ := d.def_ 8 (d := d_raw_grow) rfl
  have h_raw_grow : Known P w K mg base "raw_grow" 2 2 (spP K (T K) 2 (r_raw_grow K)) := known_of F_raw_grow c.g_raw_grow rfl (fun _ _ _ _ _ _ us hl => match us, hl with | [_, _], _ => rfl) (ok_raw_grow F_raw_grow c )
  obtain ⟨fd_grow, F_grow⟩ := d.def_ 9 (d := d_grow) rfl
  have h_grow : Known P w K mg base "grow" 8 2 (spP K (T K) 2 (r_grow K)) := known_of F_grow c.g_grow rfl (fun _ _ _ _ _ _ us hl => match us, hl with | [_, _], _ => rfl) (ok_grow F_grow c h_check_signs h_raw_grow)
  obtain ⟨fd_grow_often, F_grow_often⟩ := d.def_ 10 (d := d_grow_often) rfl
  have h_grow_often : Known P w K mg base "grow_often" 8 3 (spP K (T K) 3 (r_grow_often K)) := known_of F_grow_often c.g_grow_often rfl (fun _ _ _ _ _ _ us hl => match us, hl with | [_, _, _], _ => rfl) (ok_grow_often F_grow_often c h_check_signs h_check_times h_raw_grow h_TooMany)
  obtain ⟨fd_counts_grown, F_counts_grown⟩ := d.def_ 11 (d := d_counts_grown) rfl
  have h_counts_grown : Known P w K mg base "counts_grown" 2 2 (spP K (T K) 2 (r_counts_grown K)) := known_of F_counts_grown c.g_counts_grown rfl (fun _ _ _ _ _ _ us hl => match us, hl with | [_, _], _ => rfl) (ok_counts_grown F_counts_grown c )
  obtain ⟨fd_raw_signs_grown, F_raw_signs_grown⟩ := d.def_ 12 (d := d_raw_signs_grown) rfl
  have h_raw_signs_grown : Known P w K mg base "raw_signs_grown" 3 3 (spP K (T K) 3 (r_raw_signs_grown K)) := known_of F_raw_signs_grown c.g_raw_signs_grown rfl (fun _ _ _ _ _ _ us hl => match us, hl with | [_, _, _], _ => rfl) (ok_raw_signs_grown F_raw_signs_grown c h_counts_grown)
  obtain ⟨fd_signs_grown, F_signs_grown⟩ := d.def_ 13 (d := d_signs_grown) rfl
  have h_signs_grown : Known P w K mg base "signs_grown" 8 3 (spP K (T K) 3 (r_signs_grown K)) := known_of F_signs_grown c.g_signs_grown rfl (fun _ _ _ _ _ _ us hl => match us, hl with | [_, _, _], _ => rfl) (ok_signs_grown F_signs_grown c h_check_sign h_check_times h_raw_signs_grown)
  obtain ⟨fd_size_grown, F_size_grown⟩ := d.def_ 14 (d := d_size_grown) rfl
  have h_size_grown : Known P w K mg base "size_grown" 8 3 (spP K (T K) 3 (r_size_grown K)) := known_of F_size_grown c.g_size_grown rfl (fun _ _ _ _ _ _ us hl => match us, hl with | [_, _, _], _ => rfl) (ok_size_grown F_size_grown c h_check_sign h_check_times h_raw_signs_grown)
  obtain ⟨fd__law_hand, F__law_hand⟩ := d.def_ 15 (d := d__law_hand) rfl
  have h__law_hand : Known P w K mg base "_law_hand" 2 1 (spP K (T K) 1 (r__law_hand K)) := known_of F__law_hand c.g__law_hand rfl (fun _ _ _ _ _ _ us hl => match us, hl with | [_], _ => rfl) (ok__law_hand F__law_hand c )
  obtain ⟨fd__law_draw, F__law_draw⟩ := d.def_ 16 (d := d__law_draw) rfl
  have h__law_draw : Known P w K mg base "_law_draw" 2 2 (spI K (T K) 2 (r__law_draw K)) := known_of F__law_draw c.g__law_draw rfl (fun _ _ _ _ _ _ us hl => match us, hl with | [_, _], _ => rfl) (ok__law_draw F__law_draw c )
  obtain ⟨fd__law_any, F__law_any⟩ := d.def_ 17 (d := d__law_any) rfl
  have h__law_any : Known P w K mg base "_law_any" 3 2 (spI K (T K) 2 (r__law_any K)) := known_of F__law_any c.g__law_any rfl (fun _ _ _ _ _ _ us hl => match us, hl with | [_, _], _ => rfl) (ok__law_any F__law_any c h__law_draw)
  obtain ⟨fd__law_rule, F__law_rule⟩ := d.def_ 18 (d := d__law_rule) rfl
  have h__law_rule : Known P w K mg base "_law_rule" 3 2 (spI K (T K) 2 (r__law_rule K)) := known_of F__law_rule c.g__law_rule rfl (fun _ _ _ _ _ _ us hl => match us, hl with | [_, _], _ => rfl) (ok__law_rule F__law_rule c h__law_draw)
  obtain ⟨fd__law_step, F__law_step⟩ := d.def_ 19 (d := d__law_step) rfl
  have h__law_step : Known P w K mg base "_law_step" 2 2 (spP K (T K) 2 (r__law_step K)) := known_of F__law_step c.g__law_step rfl (fun _ _ _ _ _ _ us hl => match us, hl with | [_, _], _ => rfl) (ok__law_step F__law_step c )
  obtain ⟨fd__law_sums, F__law_sums⟩ := d.def_ 20 (d := d__law_sums) rfl
  have h__law_sums : Known P w K mg base "_law_sums" 2 3 (spP K (T K) 3 (r__law_sums K)) := known_of F__law_sums c.g__law_sums rfl (fun _ _ _ _ _ _ us hl => match us, hl with | [_, _, _], _ => rfl) (ok__law_sums F__law_sums c )
  obtain ⟨fd__law_error, F__law_error⟩ := d.def_ 21 (d := d__law_error) rfl
  have h__law_error : ErrD P w K mg base (T K) "_law_error" "call" (He.ga K "NumeralError") "let" 4 (ms__law_error K) := ed__law_error F__law_error c c.g__law_error
  obtain ⟨fd__law_steps_right, F__law_steps_right⟩ := d.def_ 22 (d := d__law_steps_right) rfl
  have h__law_steps_right : Known P w K mg base "_law_steps_right" 9 2 (spI K (T K) 2 (r__law_steps_right K)) := known_of F__law_steps_right c.g__law_steps_right rfl (fun _ _ _ _ _ _ us hl => match us, hl with | [_, _], _ => rfl) (ok__law_steps_right F__law_steps_right c h_grow h_grow_often h_signs_grown h_size_grown h__law_draw h__law_step)
  obtain ⟨fd__law_far_right, F__law_far_right⟩ := d.def_ 23 (d := d__law_far_right) rfl
  have h__law_far_right : Known P w K mg base "_law_far_right" 11 2 (spI K (T K) 2 (r__law_far_right K)) := known_of F__law_far_right c.g__law_far_right rfl (fun _ _ _ _ _ _ us hl => match us, hl with | [_, _], _ => rfl) (ok__law_far_right F__law_far_right c h_grow_often h_signs_grown h_size_grown h__law_draw h__law_sums h__law_error (tb _ (List.mem_of_getElem? (l := lamDefs) (i := 0) rfl)))
  obtain ⟨fd__law_bent, F__law_bent⟩ := d.def_ 24 (d := d__law_bent) rfl
  have h__law_bent : Known P w K mg base "_law_bent" 4 2 (spI K (T K) 2 (r__law_bent K)) := known_of F__law_bent c.g__law_bent rfl (fun _ _ _ _ _ _ us hl => match us, hl with | [_, _], _ => rfl) (ok__law_bent F__law_bent c h__law_any)
  obtain ⟨fd__law_refused_right, F__law_refused_right⟩ := d.def_ 25 (d := d__law_refused_right) rfl
  have h__law_refused_right : Known P w K mg base "_law_refused_right" 11 2 (spI K (T K) 2 (r__law_refused_right K)) := known_of F__law_refused_right c.g__law_refused_right rfl (fun _ _ _ _ _ _ us hl => match us, hl with | [_, _], _ => rfl) (ok__law_refused_right F__law_refused_right c h_is_rule h_grow h_grow_often h_signs_grown h_size_grown h__law_any h__law_bent h__law_error (tb _ (List.mem_of_getElem? (l := lamDefs) (i := 1) rfl)))
  exact ok_law F_law c h_grow h_grow_often h__law_hand h__law_rule h__law_steps_right h__law_far_right h__law_refused_right
end
def names0 : List PySem.Str := ["NumeralError", "TooMany", "NoNumber", "NoSign", "NoRule", "NoSigns", "is_integer", "is_within", "MOST_SIGNS", "MOST_PUT", "MOST_ROW", "MOST_GROWN"]
def names1 : List PySem.Str := ["MOST_TIMES", "are_signs", "is_rule", "check_rule", "check_sign", "check_signs", "check_times", "raw_grow", "grow", "grow_often", "counts_grown", "raw_signs_grown"]
def names2 : List PySem.Str := ["signs_grown", "size_grown", "_law_hand", "_law_draw", "_law_any", "_law_rule", "_law_step", "_law_sums", "_law_error", "_law_steps_right", "_law_far_right", "_law_bent"]
def names3 : List PySem.Str := ["_law_refused_right"]
def names : List PySem.Str := names0 ++ names1 ++ names2 ++ names3
abbrev R : PySem.W.OpenRow := PySem.W.OpenLaw.row PySem.Challenge.rw_anynumeral_k74_whole_rules_grown_step_by
abbrev qv : Program := PySem.W.view R.prog [41]
def tfs : List He.Defn := lamDefs.map fun x => (x, none)
abbrev hk : PySem.W.Hook := hookY 5 fa fn tfs exAll
def ob (s : PySem.W.SharedT) : He.AlX := obsY 5 fa fn tfs exAll (HandSHeadRun.getT s)
theorem ob_eq (s : PySem.W.SharedT) : ob s = hk.obs s.abs := obsY_eq (HandSHeadRun.getT_eq s)
set_option maxHeartbeats 0 in
theorem run (w : World) : HandSHeadRun.RunEq R qv hk ob 6000 names w := by
  intro os
  kernel_rfl
open PySem PySem.W PySem.Calls PyProof.Rows in
set_option maxHeartbeats 0 in
theorem holds_of (hl : ∀ (K : Frag) (ns : List Int), Kf K → ns.length ≤ 63 → (∀ z ∈ ns, Builtin.Int.intBits z ≤ 1048576) → r_law K [.sq (ns.map D.int)] = .ok (.bl true) []) : PySem.Challenge.rw_anynumeral_k74_whole_rules_grown_step_by.Holds := by
  w_on; o_law
  refine HandSHeadRun.head_any (r := R) (q := qv) (H := hk) (ob := ob) (M := 6000) (loose := names) (d := HandSHeadRun.topDef R.prog 41) (kwd := []) ob_eq
    (by kernel_rfl) (fun s => by kernel_rfl) run (by kernel_rfl) (by kernel_rfl) (by kernel_rfl) (by rfl) (by first | assumption | decide +kernel) (by decide +kernel) ⟨rfl, rfl, rfl, rfl, rfl, by decide +kernel⟩ ?hw ?hc
  case hw => w_witness2
  case hc =>
    refine LamX.walk_ofTsE (l := PySem.Challenge.rw_anynumeral_k74_whole_rules_grown_step_by) (n := 63) (k := 12) (x := "script") (CX := fun w => L2N.CX (PySem.Challenge.rw_anynumeral_k74_whole_rules_grown_step_by).prog w) rfl (by decide) (by kernel_rfl) ⟨rfl, by decide, by decide⟩ ?F ?E
    case E => exact fun w H s e s' z => by obtain ⟨_, _, _, _, _, _, _, _, _, _, _, _, z⟩ := z; exact z.elim
    intro w mg fa0 h Y G hmg0
    obtain ⟨K, KX, c⟩ := Y
    have hmg : mg ("law" : PySem.Str) = some (.ref fa0) := by
      have e : (HandSHeadRun.topDef R.prog 41).name = ("law" : PySem.Str) := by kernel_rfl
      rw [← e]
      exact hmg0
    have e0 := hmg.symm.trans (fc_of KX G c.t.d c.more).g_law
    cases e0
    have cs_mem : ∀ {p : Addr × Addr}, p ∈ tfs.map (He.cT K) → ∃ x ∈ lamDefs, p = He.cT K (x, none) := fun {p} hp => by
      obtain ⟨q, hq, rfl⟩ := List.mem_map.mp hp
      obtain ⟨x, hx, rfl⟩ := List.mem_map.mp hq
      exact ⟨x, hx, rfl⟩
    have mem_cs : ∀ {x : Str}, x ∈ lamDefs → He.cT K (x, none) ∈ tfs.map (He.cT K) := fun {x} hx => List.mem_map.mpr ⟨(x, none), List.mem_map.mpr ⟨x, hx, rfl⟩, rfl⟩
    obtain ⟨fd0, F0⟩ := c.t.d.def_ 26 (d := d_law) rfl
    refine ⟨K, KX, fd0, tfs.map (He.cT K), (spP K (T K) 1 (r_law K)), fun p hp => ?_, fun p hp => ?_, fun p hp => ?_, fun s u => FunD.bindsA (ps := ["script"]) F0 (fun _ _ _ _ _ _ us hl => match us, hl with | [_], _ => rfl) s [u] rfl, fun H a ns hn hbits hT hS => ?_, fun base hKb hGb hTB => ?_⟩
    · obtain ⟨q, hq, rfl⟩ := List.mem_map.mp hp; exact c.empty q hq
    · obtain ⟨q, hq, rfl⟩ := List.mem_map.mp hp; exact c.out q hq
    · obtain ⟨q, hq, rfl⟩ := List.mem_map.mp hp; exact PySem.W.codeHd_of_K KX (c.hd q hq)
    · refine law_sp (tabs_nT.mpr fun p hp => ?_) hS (hl K ns (kf_of c.more) hn hbits)
      obtain ⟨x, hx, rfl⟩ := List.mem_map.mp hp
      exact LamX.TabS.nil (hT _ (mem_cs hx))
    · exact main_ok (P := (PySem.Challenge.rw_anynumeral_k74_whole_rules_grown_step_by).prog) (w := w) (base := base) KX G c.t.d c.more (fun x hx => hTB _ (mem_cs hx)) F0
end
end K74
namespace K74
open PySem PySem.Spec PyProof.Rows L2 LamX NdefX HotX Vs

theorem ite_ev {α : Type} {c : Prop} [Decidable c] {f g : Ev → α} {ev : Ev} : (if c then f else g) ev = if c then f ev else g ev := by split <;> rfl
theorem itA_tup {ds : List D} : itA (.tup ds) = some ds := rfl
theorem itA_lst {ds : List D} : itA (.lst ds) = some ds := rfl
theorem itA_sq {ds : List D} : itA (.sq ds) = some ds := rfl
theorem kit_ii : kitB "int" "int" = some true := by rfl
theorem kit_ib : kitB "int" "bool" = some false := by decide +kernel
theorem kit_bi : kitB "bool" "int" = some true := by decide +kernel
theorem kit_bb : kitB "bool" "bool" = some true := by rfl
theorem kit_ni : kitB "NoneType" "int" = some false := by decide +kernel
theorem kit_si : kitB "str" "int" = some false := by decide +kernel
theorem kit_ti : kitB "tuple" "int" = some false := by decide +kernel
theorem kit_li : kitB "list" "int" = some false := by decide +kernel
theorem kit_di : kitB "dict" "int" = some false := by decide +kernel
theorem kit_tt : kitB "tuple" "tuple" = some true := by rfl
theorem kit_it : kitB "int" "tuple" = some false := by decide +kernel
theorem kit_bt : kitB "bool" "tuple" = some false := by decide +kernel
theorem kit_nt : kitB "NoneType" "tuple" = some false := by decide +kernel
theorem kit_st : kitB "str" "tuple" = some false := by decide +kernel
theorem kit_lt : kitB "list" "tuple" = some false := by decide +kernel
theorem kit_dt : kitB "dict" "tuple" = some false := by decide +kernel
/-- a value of the kinds that the checks meet -/
def Pl : D → Bool
  | .non => true
  | .bl _ => true
  | .int _ => true
  | .str _ => true
  | .tup _ => true
  | .lst _ => true
  | .dic _ => true
  | _ => false
def isI : D → Bool
  | .int _ => true
  | _ => false
theorem is_integer_eq (K : PySem.W.Frag) {x : D} (h : Pl x = true) : r_is_integer K [x] = .ok (.bl (isI x)) [] := by
  cases x <;> simp [Vs.runP, Vs.runI, Vs.io0, Vs.retS, Vs.setS, Vs.setO, Vs.putS, Vs.lf, Vs.sq, Vs.nxt, Vs.ifS, Vs.bnd, Vs.ret, Vs.bad, Vs.opt, Vs.andE, Vs.orE, Vs.notE, Vs.asB, Vs.args, Vs.vV, Vs.vP, Vs.isD, Vs.isO, Vs.tyD, Vs.clD, Vs.kfB, Vs.cl, Vs.b2, Vs.ch, Vs.andT, Vs.orT, Vs.notT, Vs.dropS, Vs.exS, Vs.outB, K74.ite_ev, K74.itA_tup, K74.itA_lst, K74.itA_sq, K74.kit_ii, K74.kit_ib, K74.kit_bi, K74.kit_bb, K74.kit_ni, K74.kit_si, K74.kit_ti, K74.kit_li, K74.kit_di, K74.kit_tt, K74.kit_it, K74.kit_bt, K74.kit_nt, K74.kit_st, K74.kit_lt, K74.kit_dt, Pl] at h <;> simp [Vs.runP, Vs.runI, Vs.io0, Vs.retS, Vs.setS, Vs.setO, Vs.putS, Vs.lf, Vs.sq, Vs.nxt, Vs.ifS, Vs.bnd, Vs.ret, Vs.bad, Vs.opt, Vs.andE, Vs.orE, Vs.notE, Vs.asB, Vs.args, Vs.vV, Vs.vP, Vs.isD, Vs.isO, Vs.tyD, Vs.clD, Vs.kfB, Vs.cl, Vs.b2, Vs.ch, Vs.andT, Vs.orT, Vs.notT, Vs.dropS, Vs.exS, Vs.outB, K74.ite_ev, K74.itA_tup, K74.itA_lst, K74.itA_sq, K74.kit_ii, K74.kit_ib, K74.kit_bi, K74.kit_bb, K74.kit_ni, K74.kit_si, K74.kit_ti, K74.kit_li, K74.kit_di, K74.kit_tt, K74.kit_it, K74.kit_bt, K74.kit_nt, K74.kit_st, K74.kit_lt, K74.kit_dt, r_is_integer, m_is_integer, isI]

def inR (x : D) (lo hi : Int) : Bool := match x with
  | .int i => decide (lo ≤ i) && decide (i ≤ hi)
  | _ => false
theorem is_within_eq (K : PySem.W.Frag) {x : D} {lo hi : Int} (h : Pl x = true) : r_is_within K [x, .int lo, .int hi] = .ok (.bl (inR x lo hi)) [] := by
  have e := is_integer_eq K h
  cases x <;> simp [Vs.runP, Vs.runI, Vs.io0, Vs.retS, Vs.setS, Vs.setO, Vs.putS, Vs.lf, Vs.sq, Vs.nxt, Vs.ifS, Vs.bnd, Vs.ret, Vs.bad, Vs.opt, Vs.andE, Vs.orE, Vs.notE, Vs.asB, Vs.args, Vs.vV, Vs.vP, Vs.isD, Vs.isO, Vs.tyD, Vs.clD, Vs.kfB, Vs.cl, Vs.b2, Vs.ch, Vs.andT, Vs.orT, Vs.notT, Vs.dropS, Vs.exS, Vs.outB, K74.ite_ev, K74.itA_tup, K74.itA_lst, K74.itA_sq, K74.kit_ii, K74.kit_ib, K74.kit_bi, K74.kit_bb, K74.kit_ni, K74.kit_si, K74.kit_ti, K74.kit_li, K74.kit_di, K74.kit_tt, K74.kit_it, K74.kit_bt, K74.kit_nt, K74.kit_st, K74.kit_lt, K74.kit_dt, Vs.inn, Vs.lend, Vs.unl, Vs.unl1, Vs.fg, Vs.stE, Vs.tg1, Vs.tg2, Vs.ifE, Vs.yes, Vs.frz, Vs.lcAn, Vs.lcM, Vs.allD, Vs.itsL, Vs.lstB, Vs.lenD, Vs.its, Vs.leD, Vs.ltD, Vs.gtD, Vs.geD, Vs.int2, Vs.fB, Vs.fI, Vs.addD, Vs.isI2, Vs.isT2, Vs.subD, Vs.catT, Vs.catL, Vs.ixD, Vs.ixO, Pl] at h <;> simp [Vs.runP, Vs.runI, Vs.io0, Vs.retS, Vs.setS, Vs.setO, Vs.putS, Vs.lf, Vs.sq, Vs.nxt, Vs.ifS, Vs.bnd, Vs.ret, Vs.bad, Vs.opt, Vs.andE, Vs.orE, Vs.notE, Vs.asB, Vs.args, Vs.vV, Vs.vP, Vs.isD, Vs.isO, Vs.tyD, Vs.clD, Vs.kfB, Vs.cl, Vs.b2, Vs.ch, Vs.andT, Vs.orT, Vs.notT, Vs.dropS, Vs.exS, Vs.outB, K74.ite_ev, K74.itA_tup, K74.itA_lst, K74.itA_sq, K74.kit_ii, K74.kit_ib, K74.kit_bi, K74.kit_bb, K74.kit_ni, K74.kit_si, K74.kit_ti, K74.kit_li, K74.kit_di, K74.kit_tt, K74.kit_it, K74.kit_bt, K74.kit_nt, K74.kit_st, K74.kit_lt, K74.kit_dt, Vs.inn, Vs.lend, Vs.unl, Vs.unl1, Vs.fg, Vs.stE, Vs.tg1, Vs.tg2, Vs.ifE, Vs.yes, Vs.frz, Vs.lcAn, Vs.lcM, Vs.allD, Vs.itsL, Vs.lstB, Vs.lenD, Vs.its, Vs.leD, Vs.ltD, Vs.gtD, Vs.geD, Vs.int2, Vs.fB, Vs.fI, Vs.addD, Vs.isI2, Vs.isT2, Vs.subD, Vs.catT, Vs.catL, Vs.ixD, Vs.ixO, isI] at e <;> simp [Vs.runP, Vs.runI, Vs.io0, Vs.retS, Vs.setS, Vs.setO, Vs.putS, Vs.lf, Vs.sq, Vs.nxt, Vs.ifS, Vs.bnd, Vs.ret, Vs.bad, Vs.opt, Vs.andE, Vs.orE, Vs.notE, Vs.asB, Vs.args, Vs.vV, Vs.vP, Vs.isD, Vs.isO, Vs.tyD, Vs.clD, Vs.kfB, Vs.cl, Vs.b2, Vs.ch, Vs.andT, Vs.orT, Vs.notT, Vs.dropS, Vs.exS, Vs.outB, K74.ite_ev, K74.itA_tup, K74.itA_lst, K74.itA_sq, K74.kit_ii, K74.kit_ib, K74.kit_bi, K74.kit_bb, K74.kit_ni, K74.kit_si, K74.kit_ti, K74.kit_li, K74.kit_di, K74.kit_tt, K74.kit_it, K74.kit_bt, K74.kit_nt, K74.kit_st, K74.kit_lt, K74.kit_dt, Vs.inn, Vs.lend, Vs.unl, Vs.unl1, Vs.fg, Vs.stE, Vs.tg1, Vs.tg2, Vs.ifE, Vs.yes, Vs.frz, Vs.lcAn, Vs.lcM, Vs.allD, Vs.itsL, Vs.lstB, Vs.lenD, Vs.its, Vs.leD, Vs.ltD, Vs.gtD, Vs.geD, Vs.int2, Vs.fB, Vs.fI, Vs.addD, Vs.isI2, Vs.isT2, Vs.subD, Vs.catT, Vs.catL, Vs.ixD, Vs.ixO, r_is_within, m_is_within, e, inR]
  rename_i i
  by_cases h1 : lo ≤ i <;> simp [Vs.runP, Vs.runI, Vs.io0, Vs.retS, Vs.setS, Vs.setO, Vs.putS, Vs.lf, Vs.sq, Vs.nxt, Vs.ifS, Vs.bnd, Vs.ret, Vs.bad, Vs.opt, Vs.andE, Vs.orE, Vs.notE, Vs.asB, Vs.args, Vs.vV, Vs.vP, Vs.isD, Vs.isO, Vs.tyD, Vs.clD, Vs.kfB, Vs.cl, Vs.b2, Vs.ch, Vs.andT, Vs.orT, Vs.notT, Vs.dropS, Vs.exS, Vs.outB, K74.ite_ev, K74.itA_tup, K74.itA_lst, K74.itA_sq, K74.kit_ii, K74.kit_ib, K74.kit_bi, K74.kit_bb, K74.kit_ni, K74.kit_si, K74.kit_ti, K74.kit_li, K74.kit_di, K74.kit_tt, K74.kit_it, K74.kit_bt, K74.kit_nt, K74.kit_st, K74.kit_lt, K74.kit_dt, Vs.inn, Vs.lend, Vs.unl, Vs.unl1, Vs.fg, Vs.stE, Vs.tg1, Vs.tg2, Vs.ifE, Vs.yes, Vs.frz, Vs.lcAn, Vs.lcM, Vs.allD, Vs.itsL, Vs.lstB, Vs.lenD, Vs.its, Vs.leD, Vs.ltD, Vs.gtD, Vs.geD, Vs.int2, Vs.fB, Vs.fI, Vs.addD, Vs.isI2, Vs.isT2, Vs.subD, Vs.catT, Vs.catL, Vs.ixD, Vs.ixO, h1]
theorem lcA_map {vs : List Nat} {step : D → M (Option D)} {g : D → D} {ev : Ev} : ∀ {ds : List D}, (∀ d ∈ ds, inn vs (step d) ev = .ok (some (g d)) ev) → lcA vs step ds ev = .ok (ds.map g) ev
  | [], _ => rfl
  | d :: ds, h => by
    unfold lcA
    simp only [bnd]
    rw [h d (List.mem_cons_self ..)]
    simp only [lcA_map (fun x hx => h x (List.mem_cons_of_mem _ hx))]
    rfl
theorem lstB_map {α : Type} {g : α → Bool} : ∀ {l : List α}, lstB (l.map fun x => D.bl (g x)) = some (l.map g)
  | [] => rfl
  | a :: l => by simp [Vs.runP, Vs.runI, Vs.io0, Vs.retS, Vs.setS, Vs.setO, Vs.putS, Vs.lf, Vs.sq, Vs.nxt, Vs.ifS, Vs.bnd, Vs.ret, Vs.bad, Vs.opt, Vs.andE, Vs.orE, Vs.notE, Vs.asB, Vs.args, Vs.vV, Vs.vP, Vs.isD, Vs.isO, Vs.tyD, Vs.clD, Vs.kfB, Vs.cl, Vs.b2, Vs.ch, Vs.andT, Vs.orT, Vs.notT, Vs.dropS, Vs.exS, Vs.outB, K74.ite_ev, K74.itA_tup, K74.itA_lst, K74.itA_sq, K74.kit_ii, K74.kit_ib, K74.kit_bi, K74.kit_bb, K74.kit_ni, K74.kit_si, K74.kit_ti, K74.kit_li, K74.kit_di, K74.kit_tt, K74.kit_it, K74.kit_bt, K74.kit_nt, K74.kit_st, K74.kit_lt, K74.kit_dt, Vs.inn, Vs.lend, Vs.unl, Vs.unl1, Vs.fg, Vs.stE, Vs.tg1, Vs.tg2, Vs.ifE, Vs.yes, Vs.frz, Vs.lcAn, Vs.lcM, Vs.allD, Vs.itsL, Vs.lstB, Vs.lenD, Vs.its, Vs.leD, Vs.ltD, Vs.gtD, Vs.geD, Vs.int2, Vs.fB, Vs.fI, Vs.addD, Vs.isI2, Vs.isT2, Vs.subD, Vs.catT, Vs.catL, Vs.ixD, Vs.ixO, lstB, lstB_map (l := l)]
/-- a word: a tuple of plain things -/
def sgD (many most : Int) : D → Bool
  | .tup xs => !decide (most < (xs.length : Int)) && xs.all fun x => inR x 1 many
  | _ => false
def Pls (x : D) : Bool := match x with
  | .tup xs => xs.all Pl && decide (xs.length ≤ big)
  | x => Pl x
theorem are_signs_eq (K : PySem.W.Frag) {x : D} {many most : Int} (h : Pls x = true) : r_are_signs K [.int many, .int most, x] = .ok (.bl (sgD many most x)) [] := by
  cases x <;> simp [Vs.runP, Vs.runI, Vs.io0, Vs.retS, Vs.setS, Vs.setO, Vs.putS, Vs.lf, Vs.sq, Vs.nxt, Vs.ifS, Vs.bnd, Vs.ret, Vs.bad, Vs.opt, Vs.andE, Vs.orE, Vs.notE, Vs.asB, Vs.args, Vs.vV, Vs.vP, Vs.isD, Vs.isO, Vs.tyD, Vs.clD, Vs.kfB, Vs.cl, Vs.b2, Vs.ch, Vs.andT, Vs.orT, Vs.notT, Vs.dropS, Vs.exS, Vs.outB, K74.ite_ev, K74.itA_tup, K74.itA_lst, K74.itA_sq, K74.kit_ii, K74.kit_ib, K74.kit_bi, K74.kit_bb, K74.kit_ni, K74.kit_si, K74.kit_ti, K74.kit_li, K74.kit_di, K74.kit_tt, K74.kit_it, K74.kit_bt, K74.kit_nt, K74.kit_st, K74.kit_lt, K74.kit_dt, Vs.inn, Vs.lend, Vs.unl, Vs.unl1, Vs.fg, Vs.stE, Vs.tg1, Vs.tg2, Vs.ifE, Vs.yes, Vs.frz, Vs.lcAn, Vs.lcM, Vs.allD, Vs.itsL, Vs.lstB, Vs.lenD, Vs.its, Vs.leD, Vs.ltD, Vs.gtD, Vs.geD, Vs.int2, Vs.fB, Vs.fI, Vs.addD, Vs.isI2, Vs.isT2, Vs.subD, Vs.catT, Vs.catL, Vs.ixD, Vs.ixO, Pls, Pl] at h <;> simp [Vs.runP, Vs.runI, Vs.io0, Vs.retS, Vs.setS, Vs.setO, Vs.putS, Vs.lf, Vs.sq, Vs.nxt, Vs.ifS, Vs.bnd, Vs.ret, Vs.bad, Vs.opt, Vs.andE, Vs.orE, Vs.notE, Vs.asB, Vs.args, Vs.vV, Vs.vP, Vs.isD, Vs.isO, Vs.tyD, Vs.clD, Vs.kfB, Vs.cl, Vs.b2, Vs.ch, Vs.andT, Vs.orT, Vs.notT, Vs.dropS, Vs.exS, Vs.outB, K74.ite_ev, K74.itA_tup, K74.itA_lst, K74.itA_sq, K74.kit_ii, K74.kit_ib, K74.kit_bi, K74.kit_bb, K74.kit_ni, K74.kit_si, K74.kit_ti, K74.kit_li, K74.kit_di, K74.kit_tt, K74.kit_it, K74.kit_bt, K74.kit_nt, K74.kit_st, K74.kit_lt, K74.kit_dt, Vs.inn, Vs.lend, Vs.unl, Vs.unl1, Vs.fg, Vs.stE, Vs.tg1, Vs.tg2, Vs.ifE, Vs.yes, Vs.frz, Vs.lcAn, Vs.lcM, Vs.allD, Vs.itsL, Vs.lstB, Vs.lenD, Vs.its, Vs.leD, Vs.ltD, Vs.gtD, Vs.geD, Vs.int2, Vs.fB, Vs.fI, Vs.addD, Vs.isI2, Vs.isT2, Vs.subD, Vs.catT, Vs.catL, Vs.ixD, Vs.ixO, r_are_signs, m_are_signs, sgD]
  rename_i xs
  by_cases hm : most < (xs.length : Int)
  · simp [Vs.runP, Vs.runI, Vs.io0, Vs.retS, Vs.setS, Vs.setO, Vs.putS, Vs.lf, Vs.sq, Vs.nxt, Vs.ifS, Vs.bnd, Vs.ret, Vs.bad, Vs.opt, Vs.andE, Vs.orE, Vs.notE, Vs.asB, Vs.args, Vs.vV, Vs.vP, Vs.isD, Vs.isO, Vs.tyD, Vs.clD, Vs.kfB, Vs.cl, Vs.b2, Vs.ch, Vs.andT, Vs.orT, Vs.notT, Vs.dropS, Vs.exS, Vs.outB, K74.ite_ev, K74.itA_tup, K74.itA_lst, K74.itA_sq, K74.kit_ii, K74.kit_ib, K74.kit_bi, K74.kit_bb, K74.kit_ni, K74.kit_si, K74.kit_ti, K74.kit_li, K74.kit_di, K74.kit_tt, K74.kit_it, K74.kit_bt, K74.kit_nt, K74.kit_st, K74.kit_lt, K74.kit_dt, Vs.inn, Vs.lend, Vs.unl, Vs.unl1, Vs.fg, Vs.stE, Vs.tg1, Vs.tg2, Vs.ifE, Vs.yes, Vs.frz, Vs.lcAn, Vs.lcM, Vs.allD, Vs.itsL, Vs.lstB, Vs.lenD, Vs.its, Vs.leD, Vs.ltD, Vs.gtD, Vs.geD, Vs.int2, Vs.fB, Vs.fI, Vs.addD, Vs.isI2, Vs.isT2, Vs.subD, Vs.catT, Vs.catL, Vs.ixD, Vs.ixO, hm]
  · have hb : ¬ (big < xs.length) := by omega
    simp [Vs.runP, Vs.runI, Vs.io0, Vs.retS, Vs.setS, Vs.setO, Vs.putS, Vs.lf, Vs.sq, Vs.nxt, Vs.ifS, Vs.bnd, Vs.ret, Vs.bad, Vs.opt, Vs.andE, Vs.orE, Vs.notE, Vs.asB, Vs.args, Vs.vV, Vs.vP, Vs.isD, Vs.isO, Vs.tyD, Vs.clD, Vs.kfB, Vs.cl, Vs.b2, Vs.ch, Vs.andT, Vs.orT, Vs.notT, Vs.dropS, Vs.exS, Vs.outB, K74.ite_ev, K74.itA_tup, K74.itA_lst, K74.itA_sq, K74.kit_ii, K74.kit_ib, K74.kit_bi, K74.kit_bb, K74.kit_ni, K74.kit_si, K74.kit_ti, K74.kit_li, K74.kit_di, K74.kit_tt, K74.kit_it, K74.kit_bt, K74.kit_nt, K74.kit_st, K74.kit_lt, K74.kit_dt, Vs.inn, Vs.lend, Vs.unl, Vs.unl1, Vs.fg, Vs.stE, Vs.tg1, Vs.tg2, Vs.ifE, Vs.yes, Vs.frz, Vs.lcAn, Vs.lcM, Vs.allD, Vs.itsL, Vs.lstB, Vs.lenD, Vs.its, Vs.leD, Vs.ltD, Vs.gtD, Vs.geD, Vs.int2, Vs.fB, Vs.fI, Vs.addD, Vs.isI2, Vs.isT2, Vs.subD, Vs.catT, Vs.catL, Vs.ixD, Vs.ixO, hm, h.2]
    rw [lcA_map (g := fun x => D.bl (inR x 1 many)) (fun d hd => by simp [Vs.runP, Vs.runI, Vs.io0, Vs.retS, Vs.setS, Vs.setO, Vs.putS, Vs.lf, Vs.sq, Vs.nxt, Vs.ifS, Vs.bnd, Vs.ret, Vs.bad, Vs.opt, Vs.andE, Vs.orE, Vs.notE, Vs.asB, Vs.args, Vs.vV, Vs.vP, Vs.isD, Vs.isO, Vs.tyD, Vs.clD, Vs.kfB, Vs.cl, Vs.b2, Vs.ch, Vs.andT, Vs.orT, Vs.notT, Vs.dropS, Vs.exS, Vs.outB, K74.ite_ev, K74.itA_tup, K74.itA_lst, K74.itA_sq, K74.kit_ii, K74.kit_ib, K74.kit_bi, K74.kit_bb, K74.kit_ni, K74.kit_si, K74.kit_ti, K74.kit_li, K74.kit_di, K74.kit_tt, K74.kit_it, K74.kit_bt, K74.kit_nt, K74.kit_st, K74.kit_lt, K74.kit_dt, Vs.inn, Vs.lend, Vs.unl, Vs.unl1, Vs.fg, Vs.stE, Vs.tg1, Vs.tg2, Vs.ifE, Vs.yes, Vs.frz, Vs.lcAn, Vs.lcM, Vs.allD, Vs.itsL, Vs.lstB, Vs.lenD, Vs.its, Vs.leD, Vs.ltD, Vs.gtD, Vs.geD, Vs.int2, Vs.fB, Vs.fI, Vs.addD, Vs.isI2, Vs.isT2, Vs.subD, Vs.catT, Vs.catL, Vs.ixD, Vs.ixO, el_are_signs_0, is_within_eq K (h.1 d hd)])]
    simp [Vs.runP, Vs.runI, Vs.io0, Vs.retS, Vs.setS, Vs.setO, Vs.putS, Vs.lf, Vs.sq, Vs.nxt, Vs.ifS, Vs.bnd, Vs.ret, Vs.bad, Vs.opt, Vs.andE, Vs.orE, Vs.notE, Vs.asB, Vs.args, Vs.vV, Vs.vP, Vs.isD, Vs.isO, Vs.tyD, Vs.clD, Vs.kfB, Vs.cl, Vs.b2, Vs.ch, Vs.andT, Vs.orT, Vs.notT, Vs.dropS, Vs.exS, Vs.outB, K74.ite_ev, K74.itA_tup, K74.itA_lst, K74.itA_sq, K74.kit_ii, K74.kit_ib, K74.kit_bi, K74.kit_bb, K74.kit_ni, K74.kit_si, K74.kit_ti, K74.kit_li, K74.kit_di, K74.kit_tt, K74.kit_it, K74.kit_bt, K74.kit_nt, K74.kit_st, K74.kit_lt, K74.kit_dt, Vs.inn, Vs.lend, Vs.unl, Vs.unl1, Vs.fg, Vs.stE, Vs.tg1, Vs.tg2, Vs.ifE, Vs.yes, Vs.frz, Vs.lcAn, Vs.lcM, Vs.allD, Vs.itsL, Vs.lstB, Vs.lenD, Vs.its, Vs.leD, Vs.ltD, Vs.gtD, Vs.geD, Vs.int2, Vs.fB, Vs.fI, Vs.addD, Vs.isI2, Vs.isT2, Vs.subD, Vs.catT, Vs.catL, Vs.ixD, Vs.ixO, lstB_map]

/-! ### equality of tuples, lists of ints -/
theorem pds_ints : ∀ ns : List Int, pds (ns.map D.int) = some (ns.map PyData.int)
  | [] => rfl
  | n :: ns => by simp [Vs.runP, Vs.runI, Vs.io0, Vs.retS, Vs.setS, Vs.setO, Vs.putS, Vs.lf, Vs.sq, Vs.nxt, Vs.ifS, Vs.bnd, Vs.ret, Vs.bad, Vs.opt, Vs.andE, Vs.orE, Vs.notE, Vs.asB, Vs.args, Vs.vV, Vs.vP, Vs.isD, Vs.isO, Vs.tyD, Vs.clD, Vs.kfB, Vs.cl, Vs.b2, Vs.ch, Vs.andT, Vs.orT, Vs.notT, Vs.dropS, Vs.exS, Vs.outB, K74.ite_ev, K74.itA_tup, K74.itA_lst, K74.itA_sq, K74.kit_ii, K74.kit_ib, K74.kit_bi, K74.kit_bb, K74.kit_ni, K74.kit_si, K74.kit_ti, K74.kit_li, K74.kit_di, K74.kit_tt, K74.kit_it, K74.kit_bt, K74.kit_nt, K74.kit_st, K74.kit_lt, K74.kit_dt, Vs.inn, Vs.lend, Vs.unl, Vs.unl1, Vs.fg, Vs.stE, Vs.tg1, Vs.tg2, Vs.ifE, Vs.yes, Vs.frz, Vs.lcAn, Vs.lcM, Vs.allD, Vs.itsL, Vs.lstB, Vs.lenD, Vs.its, Vs.leD, Vs.ltD, Vs.gtD, Vs.geD, Vs.int2, Vs.fB, Vs.fI, Vs.addD, Vs.isI2, Vs.isT2, Vs.subD, Vs.catT, Vs.catL, Vs.ixD, Vs.ixO, pds, pd, pds_ints ns]
theorem lay_ints : ∀ ns : List Int, PyData.canLayAll0 (ns.map PyData.int) = true
  | [] => by simp [Vs.runP, Vs.runI, Vs.io0, Vs.retS, Vs.setS, Vs.setO, Vs.putS, Vs.lf, Vs.sq, Vs.nxt, Vs.ifS, Vs.bnd, Vs.ret, Vs.bad, Vs.opt, Vs.andE, Vs.orE, Vs.notE, Vs.asB, Vs.args, Vs.vV, Vs.vP, Vs.isD, Vs.isO, Vs.tyD, Vs.clD, Vs.kfB, Vs.cl, Vs.b2, Vs.ch, Vs.andT, Vs.orT, Vs.notT, Vs.dropS, Vs.exS, Vs.outB, K74.ite_ev, K74.itA_tup, K74.itA_lst, K74.itA_sq, K74.kit_ii, K74.kit_ib, K74.kit_bi, K74.kit_bb, K74.kit_ni, K74.kit_si, K74.kit_ti, K74.kit_li, K74.kit_di, K74.kit_tt, K74.kit_it, K74.kit_bt, K74.kit_nt, K74.kit_st, K74.kit_lt, K74.kit_dt, Vs.inn, Vs.lend, Vs.unl, Vs.unl1, Vs.fg, Vs.stE, Vs.tg1, Vs.tg2, Vs.ifE, Vs.yes, Vs.frz, Vs.lcAn, Vs.lcM, Vs.allD, Vs.itsL, Vs.lstB, Vs.lenD, Vs.its, Vs.leD, Vs.ltD, Vs.gtD, Vs.geD, Vs.int2, Vs.fB, Vs.fI, Vs.addD, Vs.isI2, Vs.isT2, Vs.subD, Vs.catT, Vs.catL, Vs.ixD, Vs.ixO, PyData.canLayAll0]
  | n :: ns => by simp [Vs.runP, Vs.runI, Vs.io0, Vs.retS, Vs.setS, Vs.setO, Vs.putS, Vs.lf, Vs.sq, Vs.nxt, Vs.ifS, Vs.bnd, Vs.ret, Vs.bad, Vs.opt, Vs.andE, Vs.orE, Vs.notE, Vs.asB, Vs.args, Vs.vV, Vs.vP, Vs.isD, Vs.isO, Vs.tyD, Vs.clD, Vs.kfB, Vs.cl, Vs.b2, Vs.ch, Vs.andT, Vs.orT, Vs.notT, Vs.dropS, Vs.exS, Vs.outB, K74.ite_ev, K74.itA_tup, K74.itA_lst, K74.itA_sq, K74.kit_ii, K74.kit_ib, K74.kit_bi, K74.kit_bb, K74.kit_ni, K74.kit_si, K74.kit_ti, K74.kit_li, K74.kit_di, K74.kit_tt, K74.kit_it, K74.kit_bt, K74.kit_nt, K74.kit_st, K74.kit_lt, K74.kit_dt, Vs.inn, Vs.lend, Vs.unl, Vs.unl1, Vs.fg, Vs.stE, Vs.tg1, Vs.tg2, Vs.ifE, Vs.yes, Vs.frz, Vs.lcAn, Vs.lcM, Vs.allD, Vs.itsL, Vs.lstB, Vs.lenD, Vs.its, Vs.leD, Vs.ltD, Vs.gtD, Vs.geD, Vs.int2, Vs.fB, Vs.fI, Vs.addD, Vs.isI2, Vs.isT2, Vs.subD, Vs.catT, Vs.catL, Vs.ixD, Vs.ixO, PyData.canLayAll0, PyData.canLay0, lay_ints ns]
theorem dep_ints : ∀ ns : List Int, PyData.depthAll (ns.map PyData.int) ≤ 1
  | [] => by simp [Vs.runP, Vs.runI, Vs.io0, Vs.retS, Vs.setS, Vs.setO, Vs.putS, Vs.lf, Vs.sq, Vs.nxt, Vs.ifS, Vs.bnd, Vs.ret, Vs.bad, Vs.opt, Vs.andE, Vs.orE, Vs.notE, Vs.asB, Vs.args, Vs.vV, Vs.vP, Vs.isD, Vs.isO, Vs.tyD, Vs.clD, Vs.kfB, Vs.cl, Vs.b2, Vs.ch, Vs.andT, Vs.orT, Vs.notT, Vs.dropS, Vs.exS, Vs.outB, K74.ite_ev, K74.itA_tup, K74.itA_lst, K74.itA_sq, K74.kit_ii, K74.kit_ib, K74.kit_bi, K74.kit_bb, K74.kit_ni, K74.kit_si, K74.kit_ti, K74.kit_li, K74.kit_di, K74.kit_tt, K74.kit_it, K74.kit_bt, K74.kit_nt, K74.kit_st, K74.kit_lt, K74.kit_dt, Vs.inn, Vs.lend, Vs.unl, Vs.unl1, Vs.fg, Vs.stE, Vs.tg1, Vs.tg2, Vs.ifE, Vs.yes, Vs.frz, Vs.lcAn, Vs.lcM, Vs.allD, Vs.itsL, Vs.lstB, Vs.lenD, Vs.its, Vs.leD, Vs.ltD, Vs.gtD, Vs.geD, Vs.int2, Vs.fB, Vs.fI, Vs.addD, Vs.isI2, Vs.isT2, Vs.subD, Vs.catT, Vs.catL, Vs.ixD, Vs.ixO, PyData.depthAll]
  | n :: ns => by
    have := dep_ints ns
    simp [Vs.runP, Vs.runI, Vs.io0, Vs.retS, Vs.setS, Vs.setO, Vs.putS, Vs.lf, Vs.sq, Vs.nxt, Vs.ifS, Vs.bnd, Vs.ret, Vs.bad, Vs.opt, Vs.andE, Vs.orE, Vs.notE, Vs.asB, Vs.args, Vs.vV, Vs.vP, Vs.isD, Vs.isO, Vs.tyD, Vs.clD, Vs.kfB, Vs.cl, Vs.b2, Vs.ch, Vs.andT, Vs.orT, Vs.notT, Vs.dropS, Vs.exS, Vs.outB, K74.ite_ev, K74.itA_tup, K74.itA_lst, K74.itA_sq, K74.kit_ii, K74.kit_ib, K74.kit_bi, K74.kit_bb, K74.kit_ni, K74.kit_si, K74.kit_ti, K74.kit_li, K74.kit_di, K74.kit_tt, K74.kit_it, K74.kit_bt, K74.kit_nt, K74.kit_st, K74.kit_lt, K74.kit_dt, Vs.inn, Vs.lend, Vs.unl, Vs.unl1, Vs.fg, Vs.stE, Vs.tg1, Vs.tg2, Vs.ifE, Vs.yes, Vs.frz, Vs.lcAn, Vs.lcM, Vs.allD, Vs.itsL, Vs.lstB, Vs.lenD, Vs.its, Vs.leD, Vs.ltD, Vs.gtD, Vs.geD, Vs.int2, Vs.fB, Vs.fI, Vs.addD, Vs.isI2, Vs.isT2, Vs.subD, Vs.catT, Vs.catL, Vs.ixD, Vs.ixO, PyData.depthAll, PyData.depth]
    omega
theorem eqv_ints : ∀ ns ms : List Int, PyData.eqvAll (ns.map PyData.int) (ms.map PyData.int) = decide (ns = ms)
  | [], [] => by simp [Vs.runP, Vs.runI, Vs.io0, Vs.retS, Vs.setS, Vs.setO, Vs.putS, Vs.lf, Vs.sq, Vs.nxt, Vs.ifS, Vs.bnd, Vs.ret, Vs.bad, Vs.opt, Vs.andE, Vs.orE, Vs.notE, Vs.asB, Vs.args, Vs.vV, Vs.vP, Vs.isD, Vs.isO, Vs.tyD, Vs.clD, Vs.kfB, Vs.cl, Vs.b2, Vs.ch, Vs.andT, Vs.orT, Vs.notT, Vs.dropS, Vs.exS, Vs.outB, K74.ite_ev, K74.itA_tup, K74.itA_lst, K74.itA_sq, K74.kit_ii, K74.kit_ib, K74.kit_bi, K74.kit_bb, K74.kit_ni, K74.kit_si, K74.kit_ti, K74.kit_li, K74.kit_di, K74.kit_tt, K74.kit_it, K74.kit_bt, K74.kit_nt, K74.kit_st, K74.kit_lt, K74.kit_dt, Vs.inn, Vs.lend, Vs.unl, Vs.unl1, Vs.fg, Vs.stE, Vs.tg1, Vs.tg2, Vs.ifE, Vs.yes, Vs.frz, Vs.lcAn, Vs.lcM, Vs.allD, Vs.itsL, Vs.lstB, Vs.lenD, Vs.its, Vs.leD, Vs.ltD, Vs.gtD, Vs.geD, Vs.int2, Vs.fB, Vs.fI, Vs.addD, Vs.isI2, Vs.isT2, Vs.subD, Vs.catT, Vs.catL, Vs.ixD, Vs.ixO, PyData.eqvAll]
  | [], m :: ms => by simp [Vs.runP, Vs.runI, Vs.io0, Vs.retS, Vs.setS, Vs.setO, Vs.putS, Vs.lf, Vs.sq, Vs.nxt, Vs.ifS, Vs.bnd, Vs.ret, Vs.bad, Vs.opt, Vs.andE, Vs.orE, Vs.notE, Vs.asB, Vs.args, Vs.vV, Vs.vP, Vs.isD, Vs.isO, Vs.tyD, Vs.clD, Vs.kfB, Vs.cl, Vs.b2, Vs.ch, Vs.andT, Vs.orT, Vs.notT, Vs.dropS, Vs.exS, Vs.outB, K74.ite_ev, K74.itA_tup, K74.itA_lst, K74.itA_sq, K74.kit_ii, K74.kit_ib, K74.kit_bi, K74.kit_bb, K74.kit_ni, K74.kit_si, K74.kit_ti, K74.kit_li, K74.kit_di, K74.kit_tt, K74.kit_it, K74.kit_bt, K74.kit_nt, K74.kit_st, K74.kit_lt, K74.kit_dt, Vs.inn, Vs.lend, Vs.unl, Vs.unl1, Vs.fg, Vs.stE, Vs.tg1, Vs.tg2, Vs.ifE, Vs.yes, Vs.frz, Vs.lcAn, Vs.lcM, Vs.allD, Vs.itsL, Vs.lstB, Vs.lenD, Vs.its, Vs.leD, Vs.ltD, Vs.gtD, Vs.geD, Vs.int2, Vs.fB, Vs.fI, Vs.addD, Vs.isI2, Vs.isT2, Vs.subD, Vs.catT, Vs.catL, Vs.ixD, Vs.ixO, PyData.eqvAll]
  | n :: ns, [] => by simp [Vs.runP, Vs.runI, Vs.io0, Vs.retS, Vs.setS, Vs.setO, Vs.putS, Vs.lf, Vs.sq, Vs.nxt, Vs.ifS, Vs.bnd, Vs.ret, Vs.bad, Vs.opt, Vs.andE, Vs.orE, Vs.notE, Vs.asB, Vs.args, Vs.vV, Vs.vP, Vs.isD, Vs.isO, Vs.tyD, Vs.clD, Vs.kfB, Vs.cl, Vs.b2, Vs.ch, Vs.andT, Vs.orT, Vs.notT, Vs.dropS, Vs.exS, Vs.outB, K74.ite_ev, K74.itA_tup, K74.itA_lst, K74.itA_sq, K74.kit_ii, K74.kit_ib, K74.kit_bi, K74.kit_bb, K74.kit_ni, K74.kit_si, K74.kit_ti, K74.kit_li, K74.kit_di, K74.kit_tt, K74.kit_it, K74.kit_bt, K74.kit_nt, K74.kit_st, K74.kit_lt, K74.kit_dt, Vs.inn, Vs.lend, Vs.unl, Vs.unl1, Vs.fg, Vs.stE, Vs.tg1, Vs.tg2, Vs.ifE, Vs.yes, Vs.frz, Vs.lcAn, Vs.lcM, Vs.allD, Vs.itsL, Vs.lstB, Vs.lenD, Vs.its, Vs.leD, Vs.ltD, Vs.gtD, Vs.geD, Vs.int2, Vs.fB, Vs.fI, Vs.addD, Vs.isI2, Vs.isT2, Vs.subD, Vs.catT, Vs.catL, Vs.ixD, Vs.ixO, PyData.eqvAll]
  | n :: ns, m :: ms => by
    simp [Vs.runP, Vs.runI, Vs.io0, Vs.retS, Vs.setS, Vs.setO, Vs.putS, Vs.lf, Vs.sq, Vs.nxt, Vs.ifS, Vs.bnd, Vs.ret, Vs.bad, Vs.opt, Vs.andE, Vs.orE, Vs.notE, Vs.asB, Vs.args, Vs.vV, Vs.vP, Vs.isD, Vs.isO, Vs.tyD, Vs.clD, Vs.kfB, Vs.cl, Vs.b2, Vs.ch, Vs.andT, Vs.orT, Vs.notT, Vs.dropS, Vs.exS, Vs.outB, K74.ite_ev, K74.itA_tup, K74.itA_lst, K74.itA_sq, K74.kit_ii, K74.kit_ib, K74.kit_bi, K74.kit_bb, K74.kit_ni, K74.kit_si, K74.kit_ti, K74.kit_li, K74.kit_di, K74.kit_tt, K74.kit_it, K74.kit_bt, K74.kit_nt, K74.kit_st, K74.kit_lt, K74.kit_dt, Vs.inn, Vs.lend, Vs.unl, Vs.unl1, Vs.fg, Vs.stE, Vs.tg1, Vs.tg2, Vs.ifE, Vs.yes, Vs.frz, Vs.lcAn, Vs.lcM, Vs.allD, Vs.itsL, Vs.lstB, Vs.lenD, Vs.its, Vs.leD, Vs.ltD, Vs.gtD, Vs.geD, Vs.int2, Vs.fB, Vs.fI, Vs.addD, Vs.isI2, Vs.isT2, Vs.subD, Vs.catT, Vs.catL, Vs.ixD, Vs.ixO, PyData.eqvAll, PyData.eqv, eqv_ints ns ms]
    by_cases h : n = m <;> simp [Vs.runP, Vs.runI, Vs.io0, Vs.retS, Vs.setS, Vs.setO, Vs.putS, Vs.lf, Vs.sq, Vs.nxt, Vs.ifS, Vs.bnd, Vs.ret, Vs.bad, Vs.opt, Vs.andE, Vs.orE, Vs.notE, Vs.asB, Vs.args, Vs.vV, Vs.vP, Vs.isD, Vs.isO, Vs.tyD, Vs.clD, Vs.kfB, Vs.cl, Vs.b2, Vs.ch, Vs.andT, Vs.orT, Vs.notT, Vs.dropS, Vs.exS, Vs.outB, K74.ite_ev, K74.itA_tup, K74.itA_lst, K74.itA_sq, K74.kit_ii, K74.kit_ib, K74.kit_bi, K74.kit_bb, K74.kit_ni, K74.kit_si, K74.kit_ti, K74.kit_li, K74.kit_di, K74.kit_tt, K74.kit_it, K74.kit_bt, K74.kit_nt, K74.kit_st, K74.kit_lt, K74.kit_dt, Vs.inn, Vs.lend, Vs.unl, Vs.unl1, Vs.fg, Vs.stE, Vs.tg1, Vs.tg2, Vs.ifE, Vs.yes, Vs.frz, Vs.lcAn, Vs.lcM, Vs.allD, Vs.itsL, Vs.lstB, Vs.lenD, Vs.its, Vs.leD, Vs.ltD, Vs.gtD, Vs.geD, Vs.int2, Vs.fB, Vs.fI, Vs.addD, Vs.isI2, Vs.isT2, Vs.subD, Vs.catT, Vs.catL, Vs.ixD, Vs.ixO, h]
theorem eqO_tup (ns ms : List Int) : eqO (.tup (ns.map .int)) (.tup (ms.map .int)) = some (decide (ns = ms)) := by
  have s : ∀ ns : List Int, SeqAt.shaped (.tuple (ns.map PyData.int)) = true := fun ns => by
    have := dep_ints ns
    simp [Vs.runP, Vs.runI, Vs.io0, Vs.retS, Vs.setS, Vs.setO, Vs.putS, Vs.lf, Vs.sq, Vs.nxt, Vs.ifS, Vs.bnd, Vs.ret, Vs.bad, Vs.opt, Vs.andE, Vs.orE, Vs.notE, Vs.asB, Vs.args, Vs.vV, Vs.vP, Vs.isD, Vs.isO, Vs.tyD, Vs.clD, Vs.kfB, Vs.cl, Vs.b2, Vs.ch, Vs.andT, Vs.orT, Vs.notT, Vs.dropS, Vs.exS, Vs.outB, K74.ite_ev, K74.itA_tup, K74.itA_lst, K74.itA_sq, K74.kit_ii, K74.kit_ib, K74.kit_bi, K74.kit_bb, K74.kit_ni, K74.kit_si, K74.kit_ti, K74.kit_li, K74.kit_di, K74.kit_tt, K74.kit_it, K74.kit_bt, K74.kit_nt, K74.kit_st, K74.kit_lt, K74.kit_dt, Vs.inn, Vs.lend, Vs.unl, Vs.unl1, Vs.fg, Vs.stE, Vs.tg1, Vs.tg2, Vs.ifE, Vs.yes, Vs.frz, Vs.lcAn, Vs.lcM, Vs.allD, Vs.itsL, Vs.lstB, Vs.lenD, Vs.its, Vs.leD, Vs.ltD, Vs.gtD, Vs.geD, Vs.int2, Vs.fB, Vs.fI, Vs.addD, Vs.isI2, Vs.isT2, Vs.subD, Vs.catT, Vs.catL, Vs.ixD, Vs.ixO, SeqAt.shaped, PyData.canLay0, lay_ints, PyData.depth]
    omega
  unfold eqO
  simp [Vs.runP, Vs.runI, Vs.io0, Vs.retS, Vs.setS, Vs.setO, Vs.putS, Vs.lf, Vs.sq, Vs.nxt, Vs.ifS, Vs.bnd, Vs.ret, Vs.bad, Vs.opt, Vs.andE, Vs.orE, Vs.notE, Vs.asB, Vs.args, Vs.vV, Vs.vP, Vs.isD, Vs.isO, Vs.tyD, Vs.clD, Vs.kfB, Vs.cl, Vs.b2, Vs.ch, Vs.andT, Vs.orT, Vs.notT, Vs.dropS, Vs.exS, Vs.outB, K74.ite_ev, K74.itA_tup, K74.itA_lst, K74.itA_sq, K74.kit_ii, K74.kit_ib, K74.kit_bi, K74.kit_bb, K74.kit_ni, K74.kit_si, K74.kit_ti, K74.kit_li, K74.kit_di, K74.kit_tt, K74.kit_it, K74.kit_bt, K74.kit_nt, K74.kit_st, K74.kit_lt, K74.kit_dt, Vs.inn, Vs.lend, Vs.unl, Vs.unl1, Vs.fg, Vs.stE, Vs.tg1, Vs.tg2, Vs.ifE, Vs.yes, Vs.frz, Vs.lcAn, Vs.lcM, Vs.allD, Vs.itsL, Vs.lstB, Vs.lenD, Vs.its, Vs.leD, Vs.ltD, Vs.gtD, Vs.geD, Vs.int2, Vs.fB, Vs.fI, Vs.addD, Vs.isI2, Vs.isT2, Vs.subD, Vs.catT, Vs.catL, Vs.ixD, Vs.ixO, pd, pds_ints, s, PyData.eqv, eqv_ints]
theorem eqO_int (i j : Int) : eqO (.int i) (.int j) = some (decide (i = j)) := by
  unfold eqO
  simp [Vs.runP, Vs.runI, Vs.io0, Vs.retS, Vs.setS, Vs.setO, Vs.putS, Vs.lf, Vs.sq, Vs.nxt, Vs.ifS, Vs.bnd, Vs.ret, Vs.bad, Vs.opt, Vs.andE, Vs.orE, Vs.notE, Vs.asB, Vs.args, Vs.vV, Vs.vP, Vs.isD, Vs.isO, Vs.tyD, Vs.clD, Vs.kfB, Vs.cl, Vs.b2, Vs.ch, Vs.andT, Vs.orT, Vs.notT, Vs.dropS, Vs.exS, Vs.outB, K74.ite_ev, K74.itA_tup, K74.itA_lst, K74.itA_sq, K74.kit_ii, K74.kit_ib, K74.kit_bi, K74.kit_bb, K74.kit_ni, K74.kit_si, K74.kit_ti, K74.kit_li, K74.kit_di, K74.kit_tt, K74.kit_it, K74.kit_bt, K74.kit_nt, K74.kit_st, K74.kit_lt, K74.kit_dt, Vs.inn, Vs.lend, Vs.unl, Vs.unl1, Vs.fg, Vs.stE, Vs.tg1, Vs.tg2, Vs.ifE, Vs.yes, Vs.frz, Vs.lcAn, Vs.lcM, Vs.allD, Vs.itsL, Vs.lstB, Vs.lenD, Vs.its, Vs.leD, Vs.ltD, Vs.gtD, Vs.geD, Vs.int2, Vs.fB, Vs.fI, Vs.addD, Vs.isI2, Vs.isT2, Vs.subD, Vs.catT, Vs.catL, Vs.ixD, Vs.ixO, pd, SeqAt.shaped, PyData.canLay0, PyData.depth, PyData.eqv]
  by_cases h : i = j <;> simp [Vs.runP, Vs.runI, Vs.io0, Vs.retS, Vs.setS, Vs.setO, Vs.putS, Vs.lf, Vs.sq, Vs.nxt, Vs.ifS, Vs.bnd, Vs.ret, Vs.bad, Vs.opt, Vs.andE, Vs.orE, Vs.notE, Vs.asB, Vs.args, Vs.vV, Vs.vP, Vs.isD, Vs.isO, Vs.tyD, Vs.clD, Vs.kfB, Vs.cl, Vs.b2, Vs.ch, Vs.andT, Vs.orT, Vs.notT, Vs.dropS, Vs.exS, Vs.outB, K74.ite_ev, K74.itA_tup, K74.itA_lst, K74.itA_sq, K74.kit_ii, K74.kit_ib, K74.kit_bi, K74.kit_bb, K74.kit_ni, K74.kit_si, K74.kit_ti, K74.kit_li, K74.kit_di, K74.kit_tt, K74.kit_it, K74.kit_bt, K74.kit_nt, K74.kit_st, K74.kit_lt, K74.kit_dt, Vs.inn, Vs.lend, Vs.unl, Vs.unl1, Vs.fg, Vs.stE, Vs.tg1, Vs.tg2, Vs.ifE, Vs.yes, Vs.frz, Vs.lcAn, Vs.lcM, Vs.allD, Vs.itsL, Vs.lstB, Vs.lenD, Vs.its, Vs.leD, Vs.ltD, Vs.gtD, Vs.geD, Vs.int2, Vs.fB, Vs.fI, Vs.addD, Vs.isI2, Vs.isT2, Vs.subD, Vs.catT, Vs.catL, Vs.ixD, Vs.ixO, h]
/-! ### checks -/
def lenD0 : D → Int
  | .tup xs => xs.length
  | _ => 0
def isRu : D → Bool
  | .tup ws => decide (1 ≤ (ws.length : Int)) && (decide ((ws.length : Int) ≤ 40) && ws.all fun w => sgD ws.length 4 w && decide (0 < lenD0 w))
  | _ => false
def Plr (x : D) : Bool := match x with
  | .tup xs => xs.all Pls && decide (xs.length ≤ big)
  | x => Pl x
theorem is_rule_eq (K : PySem.W.Frag) {x : D} (h : Plr x = true) : r_is_rule K [x] = .ok (.bl (isRu x)) [] := by
  cases x <;> simp [Vs.runP, Vs.runI, Vs.io0, Vs.retS, Vs.setS, Vs.setO, Vs.putS, Vs.lf, Vs.sq, Vs.nxt, Vs.ifS, Vs.bnd, Vs.ret, Vs.bad, Vs.opt, Vs.andE, Vs.orE, Vs.notE, Vs.asB, Vs.args, Vs.vV, Vs.vP, Vs.isD, Vs.isO, Vs.tyD, Vs.clD, Vs.kfB, Vs.cl, Vs.b2, Vs.ch, Vs.andT, Vs.orT, Vs.notT, Vs.dropS, Vs.exS, Vs.outB, K74.ite_ev, K74.itA_tup, K74.itA_lst, K74.itA_sq, K74.kit_ii, K74.kit_ib, K74.kit_bi, K74.kit_bb, K74.kit_ni, K74.kit_si, K74.kit_ti, K74.kit_li, K74.kit_di, K74.kit_tt, K74.kit_it, K74.kit_bt, K74.kit_nt, K74.kit_st, K74.kit_lt, K74.kit_dt, Vs.inn, Vs.lend, Vs.unl, Vs.unl1, Vs.fg, Vs.stE, Vs.tg1, Vs.tg2, Vs.ifE, Vs.yes, Vs.frz, Vs.lcAn, Vs.lcM, Vs.allD, Vs.itsL, Vs.lstB, Vs.lenD, Vs.its, Vs.leD, Vs.ltD, Vs.gtD, Vs.geD, Vs.int2, Vs.fB, Vs.fI, Vs.addD, Vs.isI2, Vs.isT2, Vs.subD, Vs.catT, Vs.catL, Vs.ixD, Vs.ixO, Plr, Pl] at h <;> simp [Vs.runP, Vs.runI, Vs.io0, Vs.retS, Vs.setS, Vs.setO, Vs.putS, Vs.lf, Vs.sq, Vs.nxt, Vs.ifS, Vs.bnd, Vs.ret, Vs.bad, Vs.opt, Vs.andE, Vs.orE, Vs.notE, Vs.asB, Vs.args, Vs.vV, Vs.vP, Vs.isD, Vs.isO, Vs.tyD, Vs.clD, Vs.kfB, Vs.cl, Vs.b2, Vs.ch, Vs.andT, Vs.orT, Vs.notT, Vs.dropS, Vs.exS, Vs.outB, K74.ite_ev, K74.itA_tup, K74.itA_lst, K74.itA_sq, K74.kit_ii, K74.kit_ib, K74.kit_bi, K74.kit_bb, K74.kit_ni, K74.kit_si, K74.kit_ti, K74.kit_li, K74.kit_di, K74.kit_tt, K74.kit_it, K74.kit_bt, K74.kit_nt, K74.kit_st, K74.kit_lt, K74.kit_dt, Vs.inn, Vs.lend, Vs.unl, Vs.unl1, Vs.fg, Vs.stE, Vs.tg1, Vs.tg2, Vs.ifE, Vs.yes, Vs.frz, Vs.lcAn, Vs.lcM, Vs.allD, Vs.itsL, Vs.lstB, Vs.lenD, Vs.its, Vs.leD, Vs.ltD, Vs.gtD, Vs.geD, Vs.int2, Vs.fB, Vs.fI, Vs.addD, Vs.isI2, Vs.isT2, Vs.subD, Vs.catT, Vs.catL, Vs.ixD, Vs.ixO, r_is_rule, m_is_rule, isRu]
  rename_i xs
  by_cases h1 : (1 : Int) ≤ xs.length
  · by_cases h2 : (xs.length : Int) ≤ 40
    · simp [Vs.runP, Vs.runI, Vs.io0, Vs.retS, Vs.setS, Vs.setO, Vs.putS, Vs.lf, Vs.sq, Vs.nxt, Vs.ifS, Vs.bnd, Vs.ret, Vs.bad, Vs.opt, Vs.andE, Vs.orE, Vs.notE, Vs.asB, Vs.args, Vs.vV, Vs.vP, Vs.isD, Vs.isO, Vs.tyD, Vs.clD, Vs.kfB, Vs.cl, Vs.b2, Vs.ch, Vs.andT, Vs.orT, Vs.notT, Vs.dropS, Vs.exS, Vs.outB, K74.ite_ev, K74.itA_tup, K74.itA_lst, K74.itA_sq, K74.kit_ii, K74.kit_ib, K74.kit_bi, K74.kit_bb, K74.kit_ni, K74.kit_si, K74.kit_ti, K74.kit_li, K74.kit_di, K74.kit_tt, K74.kit_it, K74.kit_bt, K74.kit_nt, K74.kit_st, K74.kit_lt, K74.kit_dt, Vs.inn, Vs.lend, Vs.unl, Vs.unl1, Vs.fg, Vs.stE, Vs.tg1, Vs.tg2, Vs.ifE, Vs.yes, Vs.frz, Vs.lcAn, Vs.lcM, Vs.allD, Vs.itsL, Vs.lstB, Vs.lenD, Vs.its, Vs.leD, Vs.ltD, Vs.gtD, Vs.geD, Vs.int2, Vs.fB, Vs.fI, Vs.addD, Vs.isI2, Vs.isT2, Vs.subD, Vs.catT, Vs.catL, Vs.ixD, Vs.ixO, h1, h2, h.2]
      rw [lcA_map (g := fun w => D.bl (sgD xs.length 4 w && decide (0 < lenD0 w))) (fun d hd => ?_)]
      · simp [Vs.runP, Vs.runI, Vs.io0, Vs.retS, Vs.setS, Vs.setO, Vs.putS, Vs.lf, Vs.sq, Vs.nxt, Vs.ifS, Vs.bnd, Vs.ret, Vs.bad, Vs.opt, Vs.andE, Vs.orE, Vs.notE, Vs.asB, Vs.args, Vs.vV, Vs.vP, Vs.isD, Vs.isO, Vs.tyD, Vs.clD, Vs.kfB, Vs.cl, Vs.b2, Vs.ch, Vs.andT, Vs.orT, Vs.notT, Vs.dropS, Vs.exS, Vs.outB, K74.ite_ev, K74.itA_tup, K74.itA_lst, K74.itA_sq, K74.kit_ii, K74.kit_ib, K74.kit_bi, K74.kit_bb, K74.kit_ni, K74.kit_si, K74.kit_ti, K74.kit_li, K74.kit_di, K74.kit_tt, K74.kit_it, K74.kit_bt, K74.kit_nt, K74.kit_st, K74.kit_lt, K74.kit_dt, Vs.inn, Vs.lend, Vs.unl, Vs.unl1, Vs.fg, Vs.stE, Vs.tg1, Vs.tg2, Vs.ifE, Vs.yes, Vs.frz, Vs.lcAn, Vs.lcM, Vs.allD, Vs.itsL, Vs.lstB, Vs.lenD, Vs.its, Vs.leD, Vs.ltD, Vs.gtD, Vs.geD, Vs.int2, Vs.fB, Vs.fI, Vs.addD, Vs.isI2, Vs.isT2, Vs.subD, Vs.catT, Vs.catL, Vs.ixD, Vs.ixO, lstB_map]
      · simp [Vs.runP, Vs.runI, Vs.io0, Vs.retS, Vs.setS, Vs.setO, Vs.putS, Vs.lf, Vs.sq, Vs.nxt, Vs.ifS, Vs.bnd, Vs.ret, Vs.bad, Vs.opt, Vs.andE, Vs.orE, Vs.notE, Vs.asB, Vs.args, Vs.vV, Vs.vP, Vs.isD, Vs.isO, Vs.tyD, Vs.clD, Vs.kfB, Vs.cl, Vs.b2, Vs.ch, Vs.andT, Vs.orT, Vs.notT, Vs.dropS, Vs.exS, Vs.outB, K74.ite_ev, K74.itA_tup, K74.itA_lst, K74.itA_sq, K74.kit_ii, K74.kit_ib, K74.kit_bi, K74.kit_bb, K74.kit_ni, K74.kit_si, K74.kit_ti, K74.kit_li, K74.kit_di, K74.kit_tt, K74.kit_it, K74.kit_bt, K74.kit_nt, K74.kit_st, K74.kit_lt, K74.kit_dt, Vs.inn, Vs.lend, Vs.unl, Vs.unl1, Vs.fg, Vs.stE, Vs.tg1, Vs.tg2, Vs.ifE, Vs.yes, Vs.frz, Vs.lcAn, Vs.lcM, Vs.allD, Vs.itsL, Vs.lstB, Vs.lenD, Vs.its, Vs.leD, Vs.ltD, Vs.gtD, Vs.geD, Vs.int2, Vs.fB, Vs.fI, Vs.addD, Vs.isI2, Vs.isT2, Vs.subD, Vs.catT, Vs.catL, Vs.ixD, Vs.ixO, el_is_rule_0, are_signs_eq K (h.1 d hd)]
        cases hs : sgD xs.length 4 d with
        | false => simp [Vs.runP, Vs.runI, Vs.io0, Vs.retS, Vs.setS, Vs.setO, Vs.putS, Vs.lf, Vs.sq, Vs.nxt, Vs.ifS, Vs.bnd, Vs.ret, Vs.bad, Vs.opt, Vs.andE, Vs.orE, Vs.notE, Vs.asB, Vs.args, Vs.vV, Vs.vP, Vs.isD, Vs.isO, Vs.tyD, Vs.clD, Vs.kfB, Vs.cl, Vs.b2, Vs.ch, Vs.andT, Vs.orT, Vs.notT, Vs.dropS, Vs.exS, Vs.outB, K74.ite_ev, K74.itA_tup, K74.itA_lst, K74.itA_sq, K74.kit_ii, K74.kit_ib, K74.kit_bi, K74.kit_bb, K74.kit_ni, K74.kit_si, K74.kit_ti, K74.kit_li, K74.kit_di, K74.kit_tt, K74.kit_it, K74.kit_bt, K74.kit_nt, K74.kit_st, K74.kit_lt, K74.kit_dt, Vs.inn, Vs.lend, Vs.unl, Vs.unl1, Vs.fg, Vs.stE, Vs.tg1, Vs.tg2, Vs.ifE, Vs.yes, Vs.frz, Vs.lcAn, Vs.lcM, Vs.allD, Vs.itsL, Vs.lstB, Vs.lenD, Vs.its, Vs.leD, Vs.ltD, Vs.gtD, Vs.geD, Vs.int2, Vs.fB, Vs.fI, Vs.addD, Vs.isI2, Vs.isT2, Vs.subD, Vs.catT, Vs.catL, Vs.ixD, Vs.ixO]
        | true =>
          cases d <;> simp [Vs.runP, Vs.runI, Vs.io0, Vs.retS, Vs.setS, Vs.setO, Vs.putS, Vs.lf, Vs.sq, Vs.nxt, Vs.ifS, Vs.bnd, Vs.ret, Vs.bad, Vs.opt, Vs.andE, Vs.orE, Vs.notE, Vs.asB, Vs.args, Vs.vV, Vs.vP, Vs.isD, Vs.isO, Vs.tyD, Vs.clD, Vs.kfB, Vs.cl, Vs.b2, Vs.ch, Vs.andT, Vs.orT, Vs.notT, Vs.dropS, Vs.exS, Vs.outB, K74.ite_ev, K74.itA_tup, K74.itA_lst, K74.itA_sq, K74.kit_ii, K74.kit_ib, K74.kit_bi, K74.kit_bb, K74.kit_ni, K74.kit_si, K74.kit_ti, K74.kit_li, K74.kit_di, K74.kit_tt, K74.kit_it, K74.kit_bt, K74.kit_nt, K74.kit_st, K74.kit_lt, K74.kit_dt, Vs.inn, Vs.lend, Vs.unl, Vs.unl1, Vs.fg, Vs.stE, Vs.tg1, Vs.tg2, Vs.ifE, Vs.yes, Vs.frz, Vs.lcAn, Vs.lcM, Vs.allD, Vs.itsL, Vs.lstB, Vs.lenD, Vs.its, Vs.leD, Vs.ltD, Vs.gtD, Vs.geD, Vs.int2, Vs.fB, Vs.fI, Vs.addD, Vs.isI2, Vs.isT2, Vs.subD, Vs.catT, Vs.catL, Vs.ixD, Vs.ixO, sgD] at hs
          simp [Vs.runP, Vs.runI, Vs.io0, Vs.retS, Vs.setS, Vs.setO, Vs.putS, Vs.lf, Vs.sq, Vs.nxt, Vs.ifS, Vs.bnd, Vs.ret, Vs.bad, Vs.opt, Vs.andE, Vs.orE, Vs.notE, Vs.asB, Vs.args, Vs.vV, Vs.vP, Vs.isD, Vs.isO, Vs.tyD, Vs.clD, Vs.kfB, Vs.cl, Vs.b2, Vs.ch, Vs.andT, Vs.orT, Vs.notT, Vs.dropS, Vs.exS, Vs.outB, K74.ite_ev, K74.itA_tup, K74.itA_lst, K74.itA_sq, K74.kit_ii, K74.kit_ib, K74.kit_bi, K74.kit_bb, K74.kit_ni, K74.kit_si, K74.kit_ti, K74.kit_li, K74.kit_di, K74.kit_tt, K74.kit_it, K74.kit_bt, K74.kit_nt, K74.kit_st, K74.kit_lt, K74.kit_dt, Vs.inn, Vs.lend, Vs.unl, Vs.unl1, Vs.fg, Vs.stE, Vs.tg1, Vs.tg2, Vs.ifE, Vs.yes, Vs.frz, Vs.lcAn, Vs.lcM, Vs.allD, Vs.itsL, Vs.lstB, Vs.lenD, Vs.its, Vs.leD, Vs.ltD, Vs.gtD, Vs.geD, Vs.int2, Vs.fB, Vs.fI, Vs.addD, Vs.isI2, Vs.isT2, Vs.subD, Vs.catT, Vs.catL, Vs.ixD, Vs.ixO, lenD0]
    · simp [Vs.runP, Vs.runI, Vs.io0, Vs.retS, Vs.setS, Vs.setO, Vs.putS, Vs.lf, Vs.sq, Vs.nxt, Vs.ifS, Vs.bnd, Vs.ret, Vs.bad, Vs.opt, Vs.andE, Vs.orE, Vs.notE, Vs.asB, Vs.args, Vs.vV, Vs.vP, Vs.isD, Vs.isO, Vs.tyD, Vs.clD, Vs.kfB, Vs.cl, Vs.b2, Vs.ch, Vs.andT, Vs.orT, Vs.notT, Vs.dropS, Vs.exS, Vs.outB, K74.ite_ev, K74.itA_tup, K74.itA_lst, K74.itA_sq, K74.kit_ii, K74.kit_ib, K74.kit_bi, K74.kit_bb, K74.kit_ni, K74.kit_si, K74.kit_ti, K74.kit_li, K74.kit_di, K74.kit_tt, K74.kit_it, K74.kit_bt, K74.kit_nt, K74.kit_st, K74.kit_lt, K74.kit_dt, Vs.inn, Vs.lend, Vs.unl, Vs.unl1, Vs.fg, Vs.stE, Vs.tg1, Vs.tg2, Vs.ifE, Vs.yes, Vs.frz, Vs.lcAn, Vs.lcM, Vs.allD, Vs.itsL, Vs.lstB, Vs.lenD, Vs.its, Vs.leD, Vs.ltD, Vs.gtD, Vs.geD, Vs.int2, Vs.fB, Vs.fI, Vs.addD, Vs.isI2, Vs.isT2, Vs.subD, Vs.catT, Vs.catL, Vs.ixD, Vs.ixO, h1, h2]
  · simp [Vs.runP, Vs.runI, Vs.io0, Vs.retS, Vs.setS, Vs.setO, Vs.putS, Vs.lf, Vs.sq, Vs.nxt, Vs.ifS, Vs.bnd, Vs.ret, Vs.bad, Vs.opt, Vs.andE, Vs.orE, Vs.notE, Vs.asB, Vs.args, Vs.vV, Vs.vP, Vs.isD, Vs.isO, Vs.tyD, Vs.clD, Vs.kfB, Vs.cl, Vs.b2, Vs.ch, Vs.andT, Vs.orT, Vs.notT, Vs.dropS, Vs.exS, Vs.outB, K74.ite_ev, K74.itA_tup, K74.itA_lst, K74.itA_sq, K74.kit_ii, K74.kit_ib, K74.kit_bi, K74.kit_bb, K74.kit_ni, K74.kit_si, K74.kit_ti, K74.kit_li, K74.kit_di, K74.kit_tt, K74.kit_it, K74.kit_bt, K74.kit_nt, K74.kit_st, K74.kit_lt, K74.kit_dt, Vs.inn, Vs.lend, Vs.unl, Vs.unl1, Vs.fg, Vs.stE, Vs.tg1, Vs.tg2, Vs.ifE, Vs.yes, Vs.frz, Vs.lcAn, Vs.lcM, Vs.allD, Vs.itsL, Vs.lstB, Vs.lenD, Vs.its, Vs.leD, Vs.ltD, Vs.gtD, Vs.geD, Vs.int2, Vs.fB, Vs.fI, Vs.addD, Vs.isI2, Vs.isT2, Vs.subD, Vs.catT, Vs.catL, Vs.ixD, Vs.ixO, h1]
theorem check_rule_eq (K : PySem.W.Frag) {x : D} (h : Plr x = true) : r_check_rule K [x] = if isRu x then .ok .non [] else .ex (He.ga K "NoRule") [] [] := by
  simp [Vs.runP, Vs.runI, Vs.io0, Vs.retS, Vs.setS, Vs.setO, Vs.putS, Vs.lf, Vs.sq, Vs.nxt, Vs.ifS, Vs.bnd, Vs.ret, Vs.bad, Vs.opt, Vs.andE, Vs.orE, Vs.notE, Vs.asB, Vs.args, Vs.vV, Vs.vP, Vs.isD, Vs.isO, Vs.tyD, Vs.clD, Vs.kfB, Vs.cl, Vs.b2, Vs.ch, Vs.andT, Vs.orT, Vs.notT, Vs.dropS, Vs.exS, Vs.outB, K74.ite_ev, K74.itA_tup, K74.itA_lst, K74.itA_sq, K74.kit_ii, K74.kit_ib, K74.kit_bi, K74.kit_bb, K74.kit_ni, K74.kit_si, K74.kit_ti, K74.kit_li, K74.kit_di, K74.kit_tt, K74.kit_it, K74.kit_bt, K74.kit_nt, K74.kit_st, K74.kit_lt, K74.kit_dt, Vs.inn, Vs.lend, Vs.unl, Vs.unl1, Vs.fg, Vs.stE, Vs.tg1, Vs.tg2, Vs.ifE, Vs.yes, Vs.frz, Vs.lcAn, Vs.lcM, Vs.allD, Vs.itsL, Vs.lstB, Vs.lenD, Vs.its, Vs.leD, Vs.ltD, Vs.gtD, Vs.geD, Vs.int2, Vs.fB, Vs.fI, Vs.addD, Vs.isI2, Vs.isT2, Vs.subD, Vs.catT, Vs.catL, Vs.ixD, Vs.ixO, r_check_rule, m_check_rule, is_rule_eq K h]
  cases isRu x <;> simp [Vs.runP, Vs.runI, Vs.io0, Vs.retS, Vs.setS, Vs.setO, Vs.putS, Vs.lf, Vs.sq, Vs.nxt, Vs.ifS, Vs.bnd, Vs.ret, Vs.bad, Vs.opt, Vs.andE, Vs.orE, Vs.notE, Vs.asB, Vs.args, Vs.vV, Vs.vP, Vs.isD, Vs.isO, Vs.tyD, Vs.clD, Vs.kfB, Vs.cl, Vs.b2, Vs.ch, Vs.andT, Vs.orT, Vs.notT, Vs.dropS, Vs.exS, Vs.outB, K74.ite_ev, K74.itA_tup, K74.itA_lst, K74.itA_sq, K74.kit_ii, K74.kit_ib, K74.kit_bi, K74.kit_bb, K74.kit_ni, K74.kit_si, K74.kit_ti, K74.kit_li, K74.kit_di, K74.kit_tt, K74.kit_it, K74.kit_bt, K74.kit_nt, K74.kit_st, K74.kit_lt, K74.kit_dt, Vs.inn, Vs.lend, Vs.unl, Vs.unl1, Vs.fg, Vs.stE, Vs.tg1, Vs.tg2, Vs.ifE, Vs.yes, Vs.frz, Vs.lcAn, Vs.lcM, Vs.allD, Vs.itsL, Vs.lstB, Vs.lenD, Vs.its, Vs.leD, Vs.ltD, Vs.gtD, Vs.geD, Vs.int2, Vs.fB, Vs.fI, Vs.addD, Vs.isI2, Vs.isT2, Vs.subD, Vs.catT, Vs.catL, Vs.ixD, Vs.ixO]
theorem check_sign_eq (K : PySem.W.Frag) {x s : D} (h : Plr x = true) (hs : Pl s = true) : r_check_sign K [x, s] = if isRu x then (if inR s 1 (lenD0 x) then .ok .non [] else .ex (He.ga K "NoSign") [] []) else .ex (He.ga K "NoRule") [] [] := by
  simp [Vs.runP, Vs.runI, Vs.io0, Vs.retS, Vs.setS, Vs.setO, Vs.putS, Vs.lf, Vs.sq, Vs.nxt, Vs.ifS, Vs.bnd, Vs.ret, Vs.bad, Vs.opt, Vs.andE, Vs.orE, Vs.notE, Vs.asB, Vs.args, Vs.vV, Vs.vP, Vs.isD, Vs.isO, Vs.tyD, Vs.clD, Vs.kfB, Vs.cl, Vs.b2, Vs.ch, Vs.andT, Vs.orT, Vs.notT, Vs.dropS, Vs.exS, Vs.outB, K74.ite_ev, K74.itA_tup, K74.itA_lst, K74.itA_sq, K74.kit_ii, K74.kit_ib, K74.kit_bi, K74.kit_bb, K74.kit_ni, K74.kit_si, K74.kit_ti, K74.kit_li, K74.kit_di, K74.kit_tt, K74.kit_it, K74.kit_bt, K74.kit_nt, K74.kit_st, K74.kit_lt, K74.kit_dt, Vs.inn, Vs.lend, Vs.unl, Vs.unl1, Vs.fg, Vs.stE, Vs.tg1, Vs.tg2, Vs.ifE, Vs.yes, Vs.frz, Vs.lcAn, Vs.lcM, Vs.allD, Vs.itsL, Vs.lstB, Vs.lenD, Vs.its, Vs.leD, Vs.ltD, Vs.gtD, Vs.geD, Vs.int2, Vs.fB, Vs.fI, Vs.addD, Vs.isI2, Vs.isT2, Vs.subD, Vs.catT, Vs.catL, Vs.ixD, Vs.ixO, r_check_sign, m_check_sign, check_rule_eq K h]
  cases hr : isRu x with
  | false => simp [Vs.runP, Vs.runI, Vs.io0, Vs.retS, Vs.setS, Vs.setO, Vs.putS, Vs.lf, Vs.sq, Vs.nxt, Vs.ifS, Vs.bnd, Vs.ret, Vs.bad, Vs.opt, Vs.andE, Vs.orE, Vs.notE, Vs.asB, Vs.args, Vs.vV, Vs.vP, Vs.isD, Vs.isO, Vs.tyD, Vs.clD, Vs.kfB, Vs.cl, Vs.b2, Vs.ch, Vs.andT, Vs.orT, Vs.notT, Vs.dropS, Vs.exS, Vs.outB, K74.ite_ev, K74.itA_tup, K74.itA_lst, K74.itA_sq, K74.kit_ii, K74.kit_ib, K74.kit_bi, K74.kit_bb, K74.kit_ni, K74.kit_si, K74.kit_ti, K74.kit_li, K74.kit_di, K74.kit_tt, K74.kit_it, K74.kit_bt, K74.kit_nt, K74.kit_st, K74.kit_lt, K74.kit_dt, Vs.inn, Vs.lend, Vs.unl, Vs.unl1, Vs.fg, Vs.stE, Vs.tg1, Vs.tg2, Vs.ifE, Vs.yes, Vs.frz, Vs.lcAn, Vs.lcM, Vs.allD, Vs.itsL, Vs.lstB, Vs.lenD, Vs.its, Vs.leD, Vs.ltD, Vs.gtD, Vs.geD, Vs.int2, Vs.fB, Vs.fI, Vs.addD, Vs.isI2, Vs.isT2, Vs.subD, Vs.catT, Vs.catL, Vs.ixD, Vs.ixO]
  | true =>
    cases x <;> simp [Vs.runP, Vs.runI, Vs.io0, Vs.retS, Vs.setS, Vs.setO, Vs.putS, Vs.lf, Vs.sq, Vs.nxt, Vs.ifS, Vs.bnd, Vs.ret, Vs.bad, Vs.opt, Vs.andE, Vs.orE, Vs.notE, Vs.asB, Vs.args, Vs.vV, Vs.vP, Vs.isD, Vs.isO, Vs.tyD, Vs.clD, Vs.kfB, Vs.cl, Vs.b2, Vs.ch, Vs.andT, Vs.orT, Vs.notT, Vs.dropS, Vs.exS, Vs.outB, K74.ite_ev, K74.itA_tup, K74.itA_lst, K74.itA_sq, K74.kit_ii, K74.kit_ib, K74.kit_bi, K74.kit_bb, K74.kit_ni, K74.kit_si, K74.kit_ti, K74.kit_li, K74.kit_di, K74.kit_tt, K74.kit_it, K74.kit_bt, K74.kit_nt, K74.kit_st, K74.kit_lt, K74.kit_dt, Vs.inn, Vs.lend, Vs.unl, Vs.unl1, Vs.fg, Vs.stE, Vs.tg1, Vs.tg2, Vs.ifE, Vs.yes, Vs.frz, Vs.lcAn, Vs.lcM, Vs.allD, Vs.itsL, Vs.lstB, Vs.lenD, Vs.its, Vs.leD, Vs.ltD, Vs.gtD, Vs.geD, Vs.int2, Vs.fB, Vs.fI, Vs.addD, Vs.isI2, Vs.isT2, Vs.subD, Vs.catT, Vs.catL, Vs.ixD, Vs.ixO, isRu] at hr
    rename_i xs
    simp [Vs.runP, Vs.runI, Vs.io0, Vs.retS, Vs.setS, Vs.setO, Vs.putS, Vs.lf, Vs.sq, Vs.nxt, Vs.ifS, Vs.bnd, Vs.ret, Vs.bad, Vs.opt, Vs.andE, Vs.orE, Vs.notE, Vs.asB, Vs.args, Vs.vV, Vs.vP, Vs.isD, Vs.isO, Vs.tyD, Vs.clD, Vs.kfB, Vs.cl, Vs.b2, Vs.ch, Vs.andT, Vs.orT, Vs.notT, Vs.dropS, Vs.exS, Vs.outB, K74.ite_ev, K74.itA_tup, K74.itA_lst, K74.itA_sq, K74.kit_ii, K74.kit_ib, K74.kit_bi, K74.kit_bb, K74.kit_ni, K74.kit_si, K74.kit_ti, K74.kit_li, K74.kit_di, K74.kit_tt, K74.kit_it, K74.kit_bt, K74.kit_nt, K74.kit_st, K74.kit_lt, K74.kit_dt, Vs.inn, Vs.lend, Vs.unl, Vs.unl1, Vs.fg, Vs.stE, Vs.tg1, Vs.tg2, Vs.ifE, Vs.yes, Vs.frz, Vs.lcAn, Vs.lcM, Vs.allD, Vs.itsL, Vs.lstB, Vs.lenD, Vs.its, Vs.leD, Vs.ltD, Vs.gtD, Vs.geD, Vs.int2, Vs.fB, Vs.fI, Vs.addD, Vs.isI2, Vs.isT2, Vs.subD, Vs.catT, Vs.catL, Vs.ixD, Vs.ixO, is_within_eq K hs, lenD0]
    by_cases hq : inR s 1 (xs.length : Int) = true
    · simp [Vs.runP, Vs.runI, Vs.io0, Vs.retS, Vs.setS, Vs.setO, Vs.putS, Vs.lf, Vs.sq, Vs.nxt, Vs.ifS, Vs.bnd, Vs.ret, Vs.bad, Vs.opt, Vs.andE, Vs.orE, Vs.notE, Vs.asB, Vs.args, Vs.vV, Vs.vP, Vs.isD, Vs.isO, Vs.tyD, Vs.clD, Vs.kfB, Vs.cl, Vs.b2, Vs.ch, Vs.andT, Vs.orT, Vs.notT, Vs.dropS, Vs.exS, Vs.outB, K74.ite_ev, K74.itA_tup, K74.itA_lst, K74.itA_sq, K74.kit_ii, K74.kit_ib, K74.kit_bi, K74.kit_bb, K74.kit_ni, K74.kit_si, K74.kit_ti, K74.kit_li, K74.kit_di, K74.kit_tt, K74.kit_it, K74.kit_bt, K74.kit_nt, K74.kit_st, K74.kit_lt, K74.kit_dt, Vs.inn, Vs.lend, Vs.unl, Vs.unl1, Vs.fg, Vs.stE, Vs.tg1, Vs.tg2, Vs.ifE, Vs.yes, Vs.frz, Vs.lcAn, Vs.lcM, Vs.allD, Vs.itsL, Vs.lstB, Vs.lenD, Vs.its, Vs.leD, Vs.ltD, Vs.gtD, Vs.geD, Vs.int2, Vs.fB, Vs.fI, Vs.addD, Vs.isI2, Vs.isT2, Vs.subD, Vs.catT, Vs.catL, Vs.ixD, Vs.ixO, hq]
    · simp only [Bool.not_eq_true] at hq; simp [Vs.runP, Vs.runI, Vs.io0, Vs.retS, Vs.setS, Vs.setO, Vs.putS, Vs.lf, Vs.sq, Vs.nxt, Vs.ifS, Vs.bnd, Vs.ret, Vs.bad, Vs.opt, Vs.andE, Vs.orE, Vs.notE, Vs.asB, Vs.args, Vs.vV, Vs.vP, Vs.isD, Vs.isO, Vs.tyD, Vs.clD, Vs.kfB, Vs.cl, Vs.b2, Vs.ch, Vs.andT, Vs.orT, Vs.notT, Vs.dropS, Vs.exS, Vs.outB, K74.ite_ev, K74.itA_tup, K74.itA_lst, K74.itA_sq, K74.kit_ii, K74.kit_ib, K74.kit_bi, K74.kit_bb, K74.kit_ni, K74.kit_si, K74.kit_ti, K74.kit_li, K74.kit_di, K74.kit_tt, K74.kit_it, K74.kit_bt, K74.kit_nt, K74.kit_st, K74.kit_lt, K74.kit_dt, Vs.inn, Vs.lend, Vs.unl, Vs.unl1, Vs.fg, Vs.stE, Vs.tg1, Vs.tg2, Vs.ifE, Vs.yes, Vs.frz, Vs.lcAn, Vs.lcM, Vs.allD, Vs.itsL, Vs.lstB, Vs.lenD, Vs.its, Vs.leD, Vs.ltD, Vs.gtD, Vs.geD, Vs.int2, Vs.fB, Vs.fI, Vs.addD, Vs.isI2, Vs.isT2, Vs.subD, Vs.catT, Vs.catL, Vs.ixD, Vs.ixO, hq]
theorem check_signs_eq (K : PySem.W.Frag) {x s : D} (h : Plr x = true) (hs : Pls s = true) : r_check_signs K [x, s] = if isRu x then (if sgD (lenD0 x) 400 s then .ok .non [] else .ex (He.ga K "NoSigns") [] []) else .ex (He.ga K "NoRule") [] [] := by
  simp [Vs.runP, Vs.runI, Vs.io0, Vs.retS, Vs.setS, Vs.setO, Vs.putS, Vs.lf, Vs.sq, Vs.nxt, Vs.ifS, Vs.bnd, Vs.ret, Vs.bad, Vs.opt, Vs.andE, Vs.orE, Vs.notE, Vs.asB, Vs.args, Vs.vV, Vs.vP, Vs.isD, Vs.isO, Vs.tyD, Vs.clD, Vs.kfB, Vs.cl, Vs.b2, Vs.ch, Vs.andT, Vs.orT, Vs.notT, Vs.dropS, Vs.exS, Vs.outB, K74.ite_ev, K74.itA_tup, K74.itA_lst, K74.itA_sq, K74.kit_ii, K74.kit_ib, K74.kit_bi, K74.kit_bb, K74.kit_ni, K74.kit_si, K74.kit_ti, K74.kit_li, K74.kit_di, K74.kit_tt, K74.kit_it, K74.kit_bt, K74.kit_nt, K74.kit_st, K74.kit_lt, K74.kit_dt, Vs.inn, Vs.lend, Vs.unl, Vs.unl1, Vs.fg, Vs.stE, Vs.tg1, Vs.tg2, Vs.ifE, Vs.yes, Vs.frz, Vs.lcAn, Vs.lcM, Vs.allD, Vs.itsL, Vs.lstB, Vs.lenD, Vs.its, Vs.leD, Vs.ltD, Vs.gtD, Vs.geD, Vs.int2, Vs.fB, Vs.fI, Vs.addD, Vs.isI2, Vs.isT2, Vs.subD, Vs.catT, Vs.catL, Vs.ixD, Vs.ixO, r_check_signs, m_check_signs, check_rule_eq K h]
  cases hr : isRu x with
  | false => simp [Vs.runP, Vs.runI, Vs.io0, Vs.retS, Vs.setS, Vs.setO, Vs.putS, Vs.lf, Vs.sq, Vs.nxt, Vs.ifS, Vs.bnd, Vs.ret, Vs.bad, Vs.opt, Vs.andE, Vs.orE, Vs.notE, Vs.asB, Vs.args, Vs.vV, Vs.vP, Vs.isD, Vs.isO, Vs.tyD, Vs.clD, Vs.kfB, Vs.cl, Vs.b2, Vs.ch, Vs.andT, Vs.orT, Vs.notT, Vs.dropS, Vs.exS, Vs.outB, K74.ite_ev, K74.itA_tup, K74.itA_lst, K74.itA_sq, K74.kit_ii, K74.kit_ib, K74.kit_bi, K74.kit_bb, K74.kit_ni, K74.kit_si, K74.kit_ti, K74.kit_li, K74.kit_di, K74.kit_tt, K74.kit_it, K74.kit_bt, K74.kit_nt, K74.kit_st, K74.kit_lt, K74.kit_dt, Vs.inn, Vs.lend, Vs.unl, Vs.unl1, Vs.fg, Vs.stE, Vs.tg1, Vs.tg2, Vs.ifE, Vs.yes, Vs.frz, Vs.lcAn, Vs.lcM, Vs.allD, Vs.itsL, Vs.lstB, Vs.lenD, Vs.its, Vs.leD, Vs.ltD, Vs.gtD, Vs.geD, Vs.int2, Vs.fB, Vs.fI, Vs.addD, Vs.isI2, Vs.isT2, Vs.subD, Vs.catT, Vs.catL, Vs.ixD, Vs.ixO]
  | true =>
    cases x <;> simp [Vs.runP, Vs.runI, Vs.io0, Vs.retS, Vs.setS, Vs.setO, Vs.putS, Vs.lf, Vs.sq, Vs.nxt, Vs.ifS, Vs.bnd, Vs.ret, Vs.bad, Vs.opt, Vs.andE, Vs.orE, Vs.notE, Vs.asB, Vs.args, Vs.vV, Vs.vP, Vs.isD, Vs.isO, Vs.tyD, Vs.clD, Vs.kfB, Vs.cl, Vs.b2, Vs.ch, Vs.andT, Vs.orT, Vs.notT, Vs.dropS, Vs.exS, Vs.outB, K74.ite_ev, K74.itA_tup, K74.itA_lst, K74.itA_sq, K74.kit_ii, K74.kit_ib, K74.kit_bi, K74.kit_bb, K74.kit_ni, K74.kit_si, K74.kit_ti, K74.kit_li, K74.kit_di, K74.kit_tt, K74.kit_it, K74.kit_bt, K74.kit_nt, K74.kit_st, K74.kit_lt, K74.kit_dt, Vs.inn, Vs.lend, Vs.unl, Vs.unl1, Vs.fg, Vs.stE, Vs.tg1, Vs.tg2, Vs.ifE, Vs.yes, Vs.frz, Vs.lcAn, Vs.lcM, Vs.allD, Vs.itsL, Vs.lstB, Vs.lenD, Vs.its, Vs.leD, Vs.ltD, Vs.gtD, Vs.geD, Vs.int2, Vs.fB, Vs.fI, Vs.addD, Vs.isI2, Vs.isT2, Vs.subD, Vs.catT, Vs.catL, Vs.ixD, Vs.ixO, isRu] at hr
    rename_i xs
    simp [Vs.runP, Vs.runI, Vs.io0, Vs.retS, Vs.setS, Vs.setO, Vs.putS, Vs.lf, Vs.sq, Vs.nxt, Vs.ifS, Vs.bnd, Vs.ret, Vs.bad, Vs.opt, Vs.andE, Vs.orE, Vs.notE, Vs.asB, Vs.args, Vs.vV, Vs.vP, Vs.isD, Vs.isO, Vs.tyD, Vs.clD, Vs.kfB, Vs.cl, Vs.b2, Vs.ch, Vs.andT, Vs.orT, Vs.notT, Vs.dropS, Vs.exS, Vs.outB, K74.ite_ev, K74.itA_tup, K74.itA_lst, K74.itA_sq, K74.kit_ii, K74.kit_ib, K74.kit_bi, K74.kit_bb, K74.kit_ni, K74.kit_si, K74.kit_ti, K74.kit_li, K74.kit_di, K74.kit_tt, K74.kit_it, K74.kit_bt, K74.kit_nt, K74.kit_st, K74.kit_lt, K74.kit_dt, Vs.inn, Vs.lend, Vs.unl, Vs.unl1, Vs.fg, Vs.stE, Vs.tg1, Vs.tg2, Vs.ifE, Vs.yes, Vs.frz, Vs.lcAn, Vs.lcM, Vs.allD, Vs.itsL, Vs.lstB, Vs.lenD, Vs.its, Vs.leD, Vs.ltD, Vs.gtD, Vs.geD, Vs.int2, Vs.fB, Vs.fI, Vs.addD, Vs.isI2, Vs.isT2, Vs.subD, Vs.catT, Vs.catL, Vs.ixD, Vs.ixO, are_signs_eq K hs, lenD0]
    by_cases hq : sgD (xs.length : Int) 400 s = true
    · simp [Vs.runP, Vs.runI, Vs.io0, Vs.retS, Vs.setS, Vs.setO, Vs.putS, Vs.lf, Vs.sq, Vs.nxt, Vs.ifS, Vs.bnd, Vs.ret, Vs.bad, Vs.opt, Vs.andE, Vs.orE, Vs.notE, Vs.asB, Vs.args, Vs.vV, Vs.vP, Vs.isD, Vs.isO, Vs.tyD, Vs.clD, Vs.kfB, Vs.cl, Vs.b2, Vs.ch, Vs.andT, Vs.orT, Vs.notT, Vs.dropS, Vs.exS, Vs.outB, K74.ite_ev, K74.itA_tup, K74.itA_lst, K74.itA_sq, K74.kit_ii, K74.kit_ib, K74.kit_bi, K74.kit_bb, K74.kit_ni, K74.kit_si, K74.kit_ti, K74.kit_li, K74.kit_di, K74.kit_tt, K74.kit_it, K74.kit_bt, K74.kit_nt, K74.kit_st, K74.kit_lt, K74.kit_dt, Vs.inn, Vs.lend, Vs.unl, Vs.unl1, Vs.fg, Vs.stE, Vs.tg1, Vs.tg2, Vs.ifE, Vs.yes, Vs.frz, Vs.lcAn, Vs.lcM, Vs.allD, Vs.itsL, Vs.lstB, Vs.lenD, Vs.its, Vs.leD, Vs.ltD, Vs.gtD, Vs.geD, Vs.int2, Vs.fB, Vs.fI, Vs.addD, Vs.isI2, Vs.isT2, Vs.subD, Vs.catT, Vs.catL, Vs.ixD, Vs.ixO, hq]
    · simp only [Bool.not_eq_true] at hq; simp [Vs.runP, Vs.runI, Vs.io0, Vs.retS, Vs.setS, Vs.setO, Vs.putS, Vs.lf, Vs.sq, Vs.nxt, Vs.ifS, Vs.bnd, Vs.ret, Vs.bad, Vs.opt, Vs.andE, Vs.orE, Vs.notE, Vs.asB, Vs.args, Vs.vV, Vs.vP, Vs.isD, Vs.isO, Vs.tyD, Vs.clD, Vs.kfB, Vs.cl, Vs.b2, Vs.ch, Vs.andT, Vs.orT, Vs.notT, Vs.dropS, Vs.exS, Vs.outB, K74.ite_ev, K74.itA_tup, K74.itA_lst, K74.itA_sq, K74.kit_ii, K74.kit_ib, K74.kit_bi, K74.kit_bb, K74.kit_ni, K74.kit_si, K74.kit_ti, K74.kit_li, K74.kit_di, K74.kit_tt, K74.kit_it, K74.kit_bt, K74.kit_nt, K74.kit_st, K74.kit_lt, K74.kit_dt, Vs.inn, Vs.lend, Vs.unl, Vs.unl1, Vs.fg, Vs.stE, Vs.tg1, Vs.tg2, Vs.ifE, Vs.yes, Vs.frz, Vs.lcAn, Vs.lcM, Vs.allD, Vs.itsL, Vs.lstB, Vs.lenD, Vs.its, Vs.leD, Vs.ltD, Vs.gtD, Vs.geD, Vs.int2, Vs.fB, Vs.fI, Vs.addD, Vs.isI2, Vs.isT2, Vs.subD, Vs.catT, Vs.catL, Vs.ixD, Vs.ixO, hq]
theorem check_times_eq (K : PySem.W.Frag) {s : D} (hs : Pl s = true) : r_check_times K [s] = if inR s 0 200 then .ok .non [] else .ex (He.ga K "NoNumber") [] [] := by
  simp [Vs.runP, Vs.runI, Vs.io0, Vs.retS, Vs.setS, Vs.setO, Vs.putS, Vs.lf, Vs.sq, Vs.nxt, Vs.ifS, Vs.bnd, Vs.ret, Vs.bad, Vs.opt, Vs.andE, Vs.orE, Vs.notE, Vs.asB, Vs.args, Vs.vV, Vs.vP, Vs.isD, Vs.isO, Vs.tyD, Vs.clD, Vs.kfB, Vs.cl, Vs.b2, Vs.ch, Vs.andT, Vs.orT, Vs.notT, Vs.dropS, Vs.exS, Vs.outB, K74.ite_ev, K74.itA_tup, K74.itA_lst, K74.itA_sq, K74.kit_ii, K74.kit_ib, K74.kit_bi, K74.kit_bb, K74.kit_ni, K74.kit_si, K74.kit_ti, K74.kit_li, K74.kit_di, K74.kit_tt, K74.kit_it, K74.kit_bt, K74.kit_nt, K74.kit_st, K74.kit_lt, K74.kit_dt, Vs.inn, Vs.lend, Vs.unl, Vs.unl1, Vs.fg, Vs.stE, Vs.tg1, Vs.tg2, Vs.ifE, Vs.yes, Vs.frz, Vs.lcAn, Vs.lcM, Vs.allD, Vs.itsL, Vs.lstB, Vs.lenD, Vs.its, Vs.leD, Vs.ltD, Vs.gtD, Vs.geD, Vs.int2, Vs.fB, Vs.fI, Vs.addD, Vs.isI2, Vs.isT2, Vs.subD, Vs.catT, Vs.catL, Vs.ixD, Vs.ixO, r_check_times, m_check_times, is_within_eq K hs]
  cases inR s 0 200 <;> simp [Vs.runP, Vs.runI, Vs.io0, Vs.retS, Vs.setS, Vs.setO, Vs.putS, Vs.lf, Vs.sq, Vs.nxt, Vs.ifS, Vs.bnd, Vs.ret, Vs.bad, Vs.opt, Vs.andE, Vs.orE, Vs.notE, Vs.asB, Vs.args, Vs.vV, Vs.vP, Vs.isD, Vs.isO, Vs.tyD, Vs.clD, Vs.kfB, Vs.cl, Vs.b2, Vs.ch, Vs.andT, Vs.orT, Vs.notT, Vs.dropS, Vs.exS, Vs.outB, K74.ite_ev, K74.itA_tup, K74.itA_lst, K74.itA_sq, K74.kit_ii, K74.kit_ib, K74.kit_bi, K74.kit_bb, K74.kit_ni, K74.kit_si, K74.kit_ti, K74.kit_li, K74.kit_di, K74.kit_tt, K74.kit_it, K74.kit_bt, K74.kit_nt, K74.kit_st, K74.kit_lt, K74.kit_dt, Vs.inn, Vs.lend, Vs.unl, Vs.unl1, Vs.fg, Vs.stE, Vs.tg1, Vs.tg2, Vs.ifE, Vs.yes, Vs.frz, Vs.lcAn, Vs.lcM, Vs.allD, Vs.itsL, Vs.lstB, Vs.lenD, Vs.its, Vs.leD, Vs.ltD, Vs.gtD, Vs.geD, Vs.int2, Vs.fB, Vs.fI, Vs.addD, Vs.isI2, Vs.isT2, Vs.subD, Vs.catT, Vs.catL, Vs.ixD, Vs.ixO]

/-! ### rules, words -/
theorem loop_run {α : Type} {cl : List Nat} {step : D → S} {enc : α → Ev} {f : D → α → α} (I : List D → α → Prop) (h : ∀ d ds s, I (d :: ds) s → (∃ e', step d (enc s) = .nx e' ∧ fg cl e' = enc (f d s)) ∧ I ds (f d s)) :
    ∀ (ds : List D) (s : α), I ds s → loop cl step ds (enc s) = .nx (enc (ds.foldl (fun s d => f d s) s))
  | [], s, _ => rfl
  | d :: ds, s, hi => by
    obtain ⟨⟨e', h1, h2⟩, h3⟩ := h d ds s hi
    unfold loop
    rw [h1]
    simp only [h2]
    exact loop_run I h ds (f d s) h3
structure RuOk (rule : List (List Int)) : Prop where
  lo : 1 ≤ rule.length
  hi : rule.length ≤ 40
  wlo : ∀ w ∈ rule, 1 ≤ w.length
  whi : ∀ w ∈ rule, w.length ≤ 4
  let_ : ∀ w ∈ rule, ∀ s ∈ w, 1 ≤ s ∧ s ≤ rule.length
def ID (ns : List Int) : D := .tup (ns.map .int)
def RD (rule : List (List Int)) : D := .tup (rule.map ID)
def wd (rule : List (List Int)) (s : Int) : List Int := rule.getD (s - 1).toNat []
def grw (rule : List (List Int)) (signs : List Int) : List Int := signs.flatMap (wd rule)
def Vd (n : Nat) (signs : List Int) : Prop := ∀ s ∈ signs, 1 ≤ s ∧ s ≤ (n : Int)
theorem big_eq : big = 16777216 := rfl
theorem inR_int {i lo hi : Int} : inR (.int i) lo hi = (decide (lo ≤ i) && decide (i ≤ hi)) := rfl
theorem sgD_ID {n : Nat} {m : Int} {ns : List Int} (h : Vd n ns) (hl : (ns.length : Int) ≤ m) : sgD n m (ID ns) = true := by
  have h2 : ¬ m < (ns.length : Int) := by omega
  have h3 : ∀ x : Int, x ∈ ns → inR (.int x) 1 n = true := fun s hs => by
    obtain ⟨a, b⟩ := h s hs
    simp [Vs.runP, Vs.runI, Vs.io0, Vs.retS, Vs.setS, Vs.setO, Vs.putS, Vs.lf, Vs.sq, Vs.nxt, Vs.ifS, Vs.bnd, Vs.ret, Vs.bad, Vs.opt, Vs.andE, Vs.orE, Vs.notE, Vs.asB, Vs.args, Vs.vV, Vs.vP, Vs.isD, Vs.isO, Vs.tyD, Vs.clD, Vs.kfB, Vs.cl, Vs.b2, Vs.ch, Vs.andT, Vs.orT, Vs.notT, Vs.dropS, Vs.exS, Vs.outB, K74.ite_ev, K74.itA_tup, K74.itA_lst, K74.itA_sq, K74.kit_ii, K74.kit_ib, K74.kit_bi, K74.kit_bb, K74.kit_ni, K74.kit_si, K74.kit_ti, K74.kit_li, K74.kit_di, K74.kit_tt, K74.kit_it, K74.kit_bt, K74.kit_nt, K74.kit_st, K74.kit_lt, K74.kit_dt, Vs.inn, Vs.lend, Vs.unl, Vs.unl1, Vs.fg, Vs.stE, Vs.tg1, Vs.tg2, Vs.ifE, Vs.yes, Vs.frz, Vs.lcAn, Vs.lcM, Vs.allD, Vs.itsL, Vs.lstB, Vs.lenD, Vs.its, Vs.leD, Vs.ltD, Vs.gtD, Vs.geD, Vs.int2, Vs.fB, Vs.fI, Vs.addD, Vs.isI2, Vs.isT2, Vs.subD, Vs.catT, Vs.catL, Vs.ixD, Vs.ixO, inR, a, b]
  simp [Vs.runP, Vs.runI, Vs.io0, Vs.retS, Vs.setS, Vs.setO, Vs.putS, Vs.lf, Vs.sq, Vs.nxt, Vs.ifS, Vs.bnd, Vs.ret, Vs.bad, Vs.opt, Vs.andE, Vs.orE, Vs.notE, Vs.asB, Vs.args, Vs.vV, Vs.vP, Vs.isD, Vs.isO, Vs.tyD, Vs.clD, Vs.kfB, Vs.cl, Vs.b2, Vs.ch, Vs.andT, Vs.orT, Vs.notT, Vs.dropS, Vs.exS, Vs.outB, K74.ite_ev, K74.itA_tup, K74.itA_lst, K74.itA_sq, K74.kit_ii, K74.kit_ib, K74.kit_bi, K74.kit_bb, K74.kit_ni, K74.kit_si, K74.kit_ti, K74.kit_li, K74.kit_di, K74.kit_tt, K74.kit_it, K74.kit_bt, K74.kit_nt, K74.kit_st, K74.kit_lt, K74.kit_dt, Vs.inn, Vs.lend, Vs.unl, Vs.unl1, Vs.fg, Vs.stE, Vs.tg1, Vs.tg2, Vs.ifE, Vs.yes, Vs.frz, Vs.lcAn, Vs.lcM, Vs.allD, Vs.itsL, Vs.lstB, Vs.lenD, Vs.its, Vs.leD, Vs.ltD, Vs.gtD, Vs.geD, Vs.int2, Vs.fB, Vs.fI, Vs.addD, Vs.isI2, Vs.isT2, Vs.subD, Vs.catT, Vs.catL, Vs.ixD, Vs.ixO, sgD, ID, h2]
  exact h3
theorem Pls_ID {ns : List Int} (h : ns.length ≤ big) : Pls (ID ns) = true := by
  simp [Vs.runP, Vs.runI, Vs.io0, Vs.retS, Vs.setS, Vs.setO, Vs.putS, Vs.lf, Vs.sq, Vs.nxt, Vs.ifS, Vs.bnd, Vs.ret, Vs.bad, Vs.opt, Vs.andE, Vs.orE, Vs.notE, Vs.asB, Vs.args, Vs.vV, Vs.vP, Vs.isD, Vs.isO, Vs.tyD, Vs.clD, Vs.kfB, Vs.cl, Vs.b2, Vs.ch, Vs.andT, Vs.orT, Vs.notT, Vs.dropS, Vs.exS, Vs.outB, K74.ite_ev, K74.itA_tup, K74.itA_lst, K74.itA_sq, K74.kit_ii, K74.kit_ib, K74.kit_bi, K74.kit_bb, K74.kit_ni, K74.kit_si, K74.kit_ti, K74.kit_li, K74.kit_di, K74.kit_tt, K74.kit_it, K74.kit_bt, K74.kit_nt, K74.kit_st, K74.kit_lt, K74.kit_dt, Vs.inn, Vs.lend, Vs.unl, Vs.unl1, Vs.fg, Vs.stE, Vs.tg1, Vs.tg2, Vs.ifE, Vs.yes, Vs.frz, Vs.lcAn, Vs.lcM, Vs.allD, Vs.itsL, Vs.lstB, Vs.lenD, Vs.its, Vs.leD, Vs.ltD, Vs.gtD, Vs.geD, Vs.int2, Vs.fB, Vs.fI, Vs.addD, Vs.isI2, Vs.isT2, Vs.subD, Vs.catT, Vs.catL, Vs.ixD, Vs.ixO, Pls, ID, Pl, h]
theorem RuOk.isRu {rule : List (List Int)} (h : RuOk rule) : isRu (RD rule) = true := by
  have h1 := h.lo
  have h2 := h.hi
  have key : ∀ w ∈ rule, sgD rule.length 4 (ID w) = true ∧ 0 < lenD0 (ID w) := fun w hw => by
    refine ⟨sgD_ID (h.let_ w hw) (by have := h.whi w hw; omega), ?_⟩
    have := h.wlo w hw
    simp [Vs.runP, Vs.runI, Vs.io0, Vs.retS, Vs.setS, Vs.setO, Vs.putS, Vs.lf, Vs.sq, Vs.nxt, Vs.ifS, Vs.bnd, Vs.ret, Vs.bad, Vs.opt, Vs.andE, Vs.orE, Vs.notE, Vs.asB, Vs.args, Vs.vV, Vs.vP, Vs.isD, Vs.isO, Vs.tyD, Vs.clD, Vs.kfB, Vs.cl, Vs.b2, Vs.ch, Vs.andT, Vs.orT, Vs.notT, Vs.dropS, Vs.exS, Vs.outB, K74.ite_ev, K74.itA_tup, K74.itA_lst, K74.itA_sq, K74.kit_ii, K74.kit_ib, K74.kit_bi, K74.kit_bb, K74.kit_ni, K74.kit_si, K74.kit_ti, K74.kit_li, K74.kit_di, K74.kit_tt, K74.kit_it, K74.kit_bt, K74.kit_nt, K74.kit_st, K74.kit_lt, K74.kit_dt, Vs.inn, Vs.lend, Vs.unl, Vs.unl1, Vs.fg, Vs.stE, Vs.tg1, Vs.tg2, Vs.ifE, Vs.yes, Vs.frz, Vs.lcAn, Vs.lcM, Vs.allD, Vs.itsL, Vs.lstB, Vs.lenD, Vs.its, Vs.leD, Vs.ltD, Vs.gtD, Vs.geD, Vs.int2, Vs.fB, Vs.fI, Vs.addD, Vs.isI2, Vs.isT2, Vs.subD, Vs.catT, Vs.catL, Vs.ixD, Vs.ixO, lenD0, ID]
    omega
  simp [Vs.runP, Vs.runI, Vs.io0, Vs.retS, Vs.setS, Vs.setO, Vs.putS, Vs.lf, Vs.sq, Vs.nxt, Vs.ifS, Vs.bnd, Vs.ret, Vs.bad, Vs.opt, Vs.andE, Vs.orE, Vs.notE, Vs.asB, Vs.args, Vs.vV, Vs.vP, Vs.isD, Vs.isO, Vs.tyD, Vs.clD, Vs.kfB, Vs.cl, Vs.b2, Vs.ch, Vs.andT, Vs.orT, Vs.notT, Vs.dropS, Vs.exS, Vs.outB, K74.ite_ev, K74.itA_tup, K74.itA_lst, K74.itA_sq, K74.kit_ii, K74.kit_ib, K74.kit_bi, K74.kit_bb, K74.kit_ni, K74.kit_si, K74.kit_ti, K74.kit_li, K74.kit_di, K74.kit_tt, K74.kit_it, K74.kit_bt, K74.kit_nt, K74.kit_st, K74.kit_lt, K74.kit_dt, Vs.inn, Vs.lend, Vs.unl, Vs.unl1, Vs.fg, Vs.stE, Vs.tg1, Vs.tg2, Vs.ifE, Vs.yes, Vs.frz, Vs.lcAn, Vs.lcM, Vs.allD, Vs.itsL, Vs.lstB, Vs.lenD, Vs.its, Vs.leD, Vs.ltD, Vs.gtD, Vs.geD, Vs.int2, Vs.fB, Vs.fI, Vs.addD, Vs.isI2, Vs.isT2, Vs.subD, Vs.catT, Vs.catL, Vs.ixD, Vs.ixO, K74.isRu, RD]
  exact ⟨by omega, by omega, fun w hw => ⟨(key w hw).1, (key w hw).2⟩⟩
theorem RuOk.Plr {rule : List (List Int)} (h : RuOk rule) : Plr (RD rule) = true := by
  have h2 := h.hi
  simp [Vs.runP, Vs.runI, Vs.io0, Vs.retS, Vs.setS, Vs.setO, Vs.putS, Vs.lf, Vs.sq, Vs.nxt, Vs.ifS, Vs.bnd, Vs.ret, Vs.bad, Vs.opt, Vs.andE, Vs.orE, Vs.notE, Vs.asB, Vs.args, Vs.vV, Vs.vP, Vs.isD, Vs.isO, Vs.tyD, Vs.clD, Vs.kfB, Vs.cl, Vs.b2, Vs.ch, Vs.andT, Vs.orT, Vs.notT, Vs.dropS, Vs.exS, Vs.outB, K74.ite_ev, K74.itA_tup, K74.itA_lst, K74.itA_sq, K74.kit_ii, K74.kit_ib, K74.kit_bi, K74.kit_bb, K74.kit_ni, K74.kit_si, K74.kit_ti, K74.kit_li, K74.kit_di, K74.kit_tt, K74.kit_it, K74.kit_bt, K74.kit_nt, K74.kit_st, K74.kit_lt, K74.kit_dt, Vs.inn, Vs.lend, Vs.unl, Vs.unl1, Vs.fg, Vs.stE, Vs.tg1, Vs.tg2, Vs.ifE, Vs.yes, Vs.frz, Vs.lcAn, Vs.lcM, Vs.allD, Vs.itsL, Vs.lstB, Vs.lenD, Vs.its, Vs.leD, Vs.ltD, Vs.gtD, Vs.geD, Vs.int2, Vs.fB, Vs.fI, Vs.addD, Vs.isI2, Vs.isT2, Vs.subD, Vs.catT, Vs.catL, Vs.ixD, Vs.ixO, K74.Plr, RD, big_eq]
  exact ⟨fun w hw => Pls_ID (by have := h.whi w hw; rw [big_eq]; omega), by omega⟩
theorem lenD0_RD {rule : List (List Int)} : lenD0 (RD rule) = rule.length := by simp [Vs.runP, Vs.runI, Vs.io0, Vs.retS, Vs.setS, Vs.setO, Vs.putS, Vs.lf, Vs.sq, Vs.nxt, Vs.ifS, Vs.bnd, Vs.ret, Vs.bad, Vs.opt, Vs.andE, Vs.orE, Vs.notE, Vs.asB, Vs.args, Vs.vV, Vs.vP, Vs.isD, Vs.isO, Vs.tyD, Vs.clD, Vs.kfB, Vs.cl, Vs.b2, Vs.ch, Vs.andT, Vs.orT, Vs.notT, Vs.dropS, Vs.exS, Vs.outB, K74.ite_ev, K74.itA_tup, K74.itA_lst, K74.itA_sq, K74.kit_ii, K74.kit_ib, K74.kit_bi, K74.kit_bb, K74.kit_ni, K74.kit_si, K74.kit_ti, K74.kit_li, K74.kit_di, K74.kit_tt, K74.kit_it, K74.kit_bt, K74.kit_nt, K74.kit_st, K74.kit_lt, K74.kit_dt, Vs.inn, Vs.lend, Vs.unl, Vs.unl1, Vs.fg, Vs.stE, Vs.tg1, Vs.tg2, Vs.ifE, Vs.yes, Vs.frz, Vs.lcAn, Vs.lcM, Vs.allD, Vs.itsL, Vs.lstB, Vs.lenD, Vs.its, Vs.leD, Vs.ltD, Vs.gtD, Vs.geD, Vs.int2, Vs.fB, Vs.fI, Vs.addD, Vs.isI2, Vs.isT2, Vs.subD, Vs.catT, Vs.catL, Vs.ixD, Vs.ixO, lenD0, RD]
theorem atI_in {α : Type} {xs : List α} {s : Int} (h1 : 1 ≤ s) (h2 : s ≤ (xs.length : Int)) : ∃ h : (s - 1).toNat < xs.length, L2.atI xs (s - 1) = some xs[(s - 1).toNat] := by
  have hl : (s - 1).toNat < xs.length := by omega
  refine ⟨hl, ?_⟩
  have e : (((s - 1).toNat : Nat) : Int) = s - 1 := by omega
  have q := atI_nat (List.getElem?_eq_getElem hl)
  rwa [e] at q
theorem atI_RD {rule : List (List Int)} {s : Int} (h1 : 1 ≤ s) (h2 : s ≤ (rule.length : Int)) : L2.atI (rule.map ID) (s - 1) = some (ID (wd rule s)) := by
  obtain ⟨hl, e⟩ := atI_in (xs := rule.map ID) h1 (by simpa [Vs.runP, Vs.runI, Vs.io0, Vs.retS, Vs.setS, Vs.setO, Vs.putS, Vs.lf, Vs.sq, Vs.nxt, Vs.ifS, Vs.bnd, Vs.ret, Vs.bad, Vs.opt, Vs.andE, Vs.orE, Vs.notE, Vs.asB, Vs.args, Vs.vV, Vs.vP, Vs.isD, Vs.isO, Vs.tyD, Vs.clD, Vs.kfB, Vs.cl, Vs.b2, Vs.ch, Vs.andT, Vs.orT, Vs.notT, Vs.dropS, Vs.exS, Vs.outB, K74.ite_ev, K74.itA_tup, K74.itA_lst, K74.itA_sq, K74.kit_ii, K74.kit_ib, K74.kit_bi, K74.kit_bb, K74.kit_ni, K74.kit_si, K74.kit_ti, K74.kit_li, K74.kit_di, K74.kit_tt, K74.kit_it, K74.kit_bt, K74.kit_nt, K74.kit_st, K74.kit_lt, K74.kit_dt, Vs.inn, Vs.lend, Vs.unl, Vs.unl1, Vs.fg, Vs.stE, Vs.tg1, Vs.tg2, Vs.ifE, Vs.yes, Vs.frz, Vs.lcAn, Vs.lcM, Vs.allD, Vs.itsL, Vs.lstB, Vs.lenD, Vs.its, Vs.leD, Vs.ltD, Vs.gtD, Vs.geD, Vs.int2, Vs.fB, Vs.fI, Vs.addD, Vs.isI2, Vs.isT2, Vs.subD, Vs.catT, Vs.catL, Vs.ixD, Vs.ixO] using h2)
  rw [e]
  simp [Vs.runP, Vs.runI, Vs.io0, Vs.retS, Vs.setS, Vs.setO, Vs.putS, Vs.lf, Vs.sq, Vs.nxt, Vs.ifS, Vs.bnd, Vs.ret, Vs.bad, Vs.opt, Vs.andE, Vs.orE, Vs.notE, Vs.asB, Vs.args, Vs.vV, Vs.vP, Vs.isD, Vs.isO, Vs.tyD, Vs.clD, Vs.kfB, Vs.cl, Vs.b2, Vs.ch, Vs.andT, Vs.orT, Vs.notT, Vs.dropS, Vs.exS, Vs.outB, K74.ite_ev, K74.itA_tup, K74.itA_lst, K74.itA_sq, K74.kit_ii, K74.kit_ib, K74.kit_bi, K74.kit_bb, K74.kit_ni, K74.kit_si, K74.kit_ti, K74.kit_li, K74.kit_di, K74.kit_tt, K74.kit_it, K74.kit_bt, K74.kit_nt, K74.kit_st, K74.kit_lt, K74.kit_dt, Vs.inn, Vs.lend, Vs.unl, Vs.unl1, Vs.fg, Vs.stE, Vs.tg1, Vs.tg2, Vs.ifE, Vs.yes, Vs.frz, Vs.lcAn, Vs.lcM, Vs.allD, Vs.itsL, Vs.lstB, Vs.lenD, Vs.its, Vs.leD, Vs.ltD, Vs.gtD, Vs.geD, Vs.int2, Vs.fB, Vs.fI, Vs.addD, Vs.isI2, Vs.isT2, Vs.subD, Vs.catT, Vs.catL, Vs.ixD, Vs.ixO] at hl
  simp [Vs.runP, Vs.runI, Vs.io0, Vs.retS, Vs.setS, Vs.setO, Vs.putS, Vs.lf, Vs.sq, Vs.nxt, Vs.ifS, Vs.bnd, Vs.ret, Vs.bad, Vs.opt, Vs.andE, Vs.orE, Vs.notE, Vs.asB, Vs.args, Vs.vV, Vs.vP, Vs.isD, Vs.isO, Vs.tyD, Vs.clD, Vs.kfB, Vs.cl, Vs.b2, Vs.ch, Vs.andT, Vs.orT, Vs.notT, Vs.dropS, Vs.exS, Vs.outB, K74.ite_ev, K74.itA_tup, K74.itA_lst, K74.itA_sq, K74.kit_ii, K74.kit_ib, K74.kit_bi, K74.kit_bb, K74.kit_ni, K74.kit_si, K74.kit_ti, K74.kit_li, K74.kit_di, K74.kit_tt, K74.kit_it, K74.kit_bt, K74.kit_nt, K74.kit_st, K74.kit_lt, K74.kit_dt, Vs.inn, Vs.lend, Vs.unl, Vs.unl1, Vs.fg, Vs.stE, Vs.tg1, Vs.tg2, Vs.ifE, Vs.yes, Vs.frz, Vs.lcAn, Vs.lcM, Vs.allD, Vs.itsL, Vs.lstB, Vs.lenD, Vs.its, Vs.leD, Vs.ltD, Vs.gtD, Vs.geD, Vs.int2, Vs.fB, Vs.fI, Vs.addD, Vs.isI2, Vs.isT2, Vs.subD, Vs.catT, Vs.catL, Vs.ixD, Vs.ixO, wd, hl]
theorem wd_mem {rule : List (List Int)} {s : Int} (h1 : 1 ≤ s) (h2 : s ≤ (rule.length : Int)) : wd rule s ∈ rule := by
  have hl : (s - 1).toNat < rule.length := by omega
  unfold wd
  rw [List.getD_eq_getElem?_getD, List.getElem?_eq_getElem hl]
  exact List.getElem_mem hl
theorem raw_grow_eq (K : PySem.W.Frag) {rule : List (List Int)} {signs : List Int} (h : RuOk rule) (hv : Vd rule.length signs) (hl : signs.length ≤ 1000000) : r_raw_grow K [RD rule, ID signs] = .ok (ID (grw rule signs)) [] := by
  have L := loop_run (cl := [3]) (step := lp_raw_grow_0 K) (enc := fun s : List Int => [.sh (RD rule), .sh (ID signs), .ol (s.map .int), .no])
    (f := fun d s => match d with | .int i => s ++ wd rule i | _ => s) (I := fun ds s => (∃ ns : List Int, ds = ns.map D.int ∧ Vd rule.length ns) ∧ s.length + 4 * ds.length ≤ 4000000) (fun d ds s hi => by
      obtain ⟨⟨ns, e, hv⟩, hz⟩ := hi
      cases ns with
      | nil => cases e
      | cons n ns =>
        simp [Vs.runP, Vs.runI, Vs.io0, Vs.retS, Vs.setS, Vs.setO, Vs.putS, Vs.lf, Vs.sq, Vs.nxt, Vs.ifS, Vs.bnd, Vs.ret, Vs.bad, Vs.opt, Vs.andE, Vs.orE, Vs.notE, Vs.asB, Vs.args, Vs.vV, Vs.vP, Vs.isD, Vs.isO, Vs.tyD, Vs.clD, Vs.kfB, Vs.cl, Vs.b2, Vs.ch, Vs.andT, Vs.orT, Vs.notT, Vs.dropS, Vs.exS, Vs.outB, K74.ite_ev, K74.itA_tup, K74.itA_lst, K74.itA_sq, K74.kit_ii, K74.kit_ib, K74.kit_bi, K74.kit_bb, K74.kit_ni, K74.kit_si, K74.kit_ti, K74.kit_li, K74.kit_di, K74.kit_tt, K74.kit_it, K74.kit_bt, K74.kit_nt, K74.kit_st, K74.kit_lt, K74.kit_dt, Vs.inn, Vs.lend, Vs.unl, Vs.unl1, Vs.fg, Vs.stE, Vs.tg1, Vs.tg2, Vs.ifE, Vs.yes, Vs.frz, Vs.lcAn, Vs.lcM, Vs.allD, Vs.itsL, Vs.lstB, Vs.lenD, Vs.its, Vs.leD, Vs.ltD, Vs.gtD, Vs.geD, Vs.int2, Vs.fB, Vs.fI, Vs.addD, Vs.isI2, Vs.isT2, Vs.subD, Vs.catT, Vs.catL, Vs.ixD, Vs.ixO, Vs.forA, Vs.forR1, Vs.forR2, Vs.forL, Vs.stp, Vs.stp2, Vs.meV, Vs.mutV, Vs.vL, Vs.gExt, Vs.gApp, Vs.lstF, Vs.tupE, Vs.slV, Vs.sl3, Vs.slD, Vs.tupD, Vs.sumD, Vs.absD, Vs.intD, Vs.lcR1, Vs.lcR2, Vs.lcL, Vs.forZ, Vs.zipD, Vs.repF, Vs.subS, Vs.gSet, Vs.ixV, Vs.eqD, Vs.neD, Vs.isnD, Vs.isbD, Vs.max2D] at e
        obtain ⟨rfl, rfl⟩ := e
        obtain ⟨h1, h2⟩ := hv n (List.mem_cons_self ..)
        have hw := h.whi _ (wd_mem h1 h2)
        have hb : s.length + (wd rule n).length ≤ big := by rw [big_eq]; simp [Vs.runP, Vs.runI, Vs.io0, Vs.retS, Vs.setS, Vs.setO, Vs.putS, Vs.lf, Vs.sq, Vs.nxt, Vs.ifS, Vs.bnd, Vs.ret, Vs.bad, Vs.opt, Vs.andE, Vs.orE, Vs.notE, Vs.asB, Vs.args, Vs.vV, Vs.vP, Vs.isD, Vs.isO, Vs.tyD, Vs.clD, Vs.kfB, Vs.cl, Vs.b2, Vs.ch, Vs.andT, Vs.orT, Vs.notT, Vs.dropS, Vs.exS, Vs.outB, K74.ite_ev, K74.itA_tup, K74.itA_lst, K74.itA_sq, K74.kit_ii, K74.kit_ib, K74.kit_bi, K74.kit_bb, K74.kit_ni, K74.kit_si, K74.kit_ti, K74.kit_li, K74.kit_di, K74.kit_tt, K74.kit_it, K74.kit_bt, K74.kit_nt, K74.kit_st, K74.kit_lt, K74.kit_dt, Vs.inn, Vs.lend, Vs.unl, Vs.unl1, Vs.fg, Vs.stE, Vs.tg1, Vs.tg2, Vs.ifE, Vs.yes, Vs.frz, Vs.lcAn, Vs.lcM, Vs.allD, Vs.itsL, Vs.lstB, Vs.lenD, Vs.its, Vs.leD, Vs.ltD, Vs.gtD, Vs.geD, Vs.int2, Vs.fB, Vs.fI, Vs.addD, Vs.isI2, Vs.isT2, Vs.subD, Vs.catT, Vs.catL, Vs.ixD, Vs.ixO, Vs.forA, Vs.forR1, Vs.forR2, Vs.forL, Vs.stp, Vs.stp2, Vs.meV, Vs.mutV, Vs.vL, Vs.gExt, Vs.gApp, Vs.lstF, Vs.tupE, Vs.slV, Vs.sl3, Vs.slD, Vs.tupD, Vs.sumD, Vs.absD, Vs.intD, Vs.lcR1, Vs.lcR2, Vs.lcL, Vs.forZ, Vs.zipD, Vs.repF, Vs.subS, Vs.gSet, Vs.ixV, Vs.eqD, Vs.neD, Vs.isnD, Vs.isbD, Vs.max2D] at hz; omega
        refine ⟨⟨[.sh (RD rule), .sh (ID signs), .ol ((s ++ wd rule n).map .int), .sh (.int n)], ?_, rfl⟩, ⟨ns, rfl, fun x hx => hv x (List.mem_cons_of_mem _ hx)⟩, ?_⟩
        · simp [Vs.runP, Vs.runI, Vs.io0, Vs.retS, Vs.setS, Vs.setO, Vs.putS, Vs.lf, Vs.sq, Vs.nxt, Vs.ifS, Vs.bnd, Vs.ret, Vs.bad, Vs.opt, Vs.andE, Vs.orE, Vs.notE, Vs.asB, Vs.args, Vs.vV, Vs.vP, Vs.isD, Vs.isO, Vs.tyD, Vs.clD, Vs.kfB, Vs.cl, Vs.b2, Vs.ch, Vs.andT, Vs.orT, Vs.notT, Vs.dropS, Vs.exS, Vs.outB, K74.ite_ev, K74.itA_tup, K74.itA_lst, K74.itA_sq, K74.kit_ii, K74.kit_ib, K74.kit_bi, K74.kit_bb, K74.kit_ni, K74.kit_si, K74.kit_ti, K74.kit_li, K74.kit_di, K74.kit_tt, K74.kit_it, K74.kit_bt, K74.kit_nt, K74.kit_st, K74.kit_lt, K74.kit_dt, Vs.inn, Vs.lend, Vs.unl, Vs.unl1, Vs.fg, Vs.stE, Vs.tg1, Vs.tg2, Vs.ifE, Vs.yes, Vs.frz, Vs.lcAn, Vs.lcM, Vs.allD, Vs.itsL, Vs.lstB, Vs.lenD, Vs.its, Vs.leD, Vs.ltD, Vs.gtD, Vs.geD, Vs.int2, Vs.fB, Vs.fI, Vs.addD, Vs.isI2, Vs.isT2, Vs.subD, Vs.catT, Vs.catL, Vs.ixD, Vs.ixO, Vs.forA, Vs.forR1, Vs.forR2, Vs.forL, Vs.stp, Vs.stp2, Vs.meV, Vs.mutV, Vs.vL, Vs.gExt, Vs.gApp, Vs.lstF, Vs.tupE, Vs.slV, Vs.sl3, Vs.slD, Vs.tupD, Vs.sumD, Vs.absD, Vs.intD, Vs.lcR1, Vs.lcR2, Vs.lcL, Vs.forZ, Vs.zipD, Vs.repF, Vs.subS, Vs.gSet, Vs.ixV, Vs.eqD, Vs.neD, Vs.isnD, Vs.isbD, Vs.max2D, lp_raw_grow_0, RD]
          rw [atI_RD h1 h2]
          simp [Vs.runP, Vs.runI, Vs.io0, Vs.retS, Vs.setS, Vs.setO, Vs.putS, Vs.lf, Vs.sq, Vs.nxt, Vs.ifS, Vs.bnd, Vs.ret, Vs.bad, Vs.opt, Vs.andE, Vs.orE, Vs.notE, Vs.asB, Vs.args, Vs.vV, Vs.vP, Vs.isD, Vs.isO, Vs.tyD, Vs.clD, Vs.kfB, Vs.cl, Vs.b2, Vs.ch, Vs.andT, Vs.orT, Vs.notT, Vs.dropS, Vs.exS, Vs.outB, K74.ite_ev, K74.itA_tup, K74.itA_lst, K74.itA_sq, K74.kit_ii, K74.kit_ib, K74.kit_bi, K74.kit_bb, K74.kit_ni, K74.kit_si, K74.kit_ti, K74.kit_li, K74.kit_di, K74.kit_tt, K74.kit_it, K74.kit_bt, K74.kit_nt, K74.kit_st, K74.kit_lt, K74.kit_dt, Vs.inn, Vs.lend, Vs.unl, Vs.unl1, Vs.fg, Vs.stE, Vs.tg1, Vs.tg2, Vs.ifE, Vs.yes, Vs.frz, Vs.lcAn, Vs.lcM, Vs.allD, Vs.itsL, Vs.lstB, Vs.lenD, Vs.its, Vs.leD, Vs.ltD, Vs.gtD, Vs.geD, Vs.int2, Vs.fB, Vs.fI, Vs.addD, Vs.isI2, Vs.isT2, Vs.subD, Vs.catT, Vs.catL, Vs.ixD, Vs.ixO, Vs.forA, Vs.forR1, Vs.forR2, Vs.forL, Vs.stp, Vs.stp2, Vs.meV, Vs.mutV, Vs.vL, Vs.gExt, Vs.gApp, Vs.lstF, Vs.tupE, Vs.slV, Vs.sl3, Vs.slD, Vs.tupD, Vs.sumD, Vs.absD, Vs.intD, Vs.lcR1, Vs.lcR2, Vs.lcL, Vs.forZ, Vs.zipD, Vs.repF, Vs.subS, Vs.gSet, Vs.ixV, Vs.eqD, Vs.neD, Vs.isnD, Vs.isbD, Vs.max2D, ID, hb]
        · simp [Vs.runP, Vs.runI, Vs.io0, Vs.retS, Vs.setS, Vs.setO, Vs.putS, Vs.lf, Vs.sq, Vs.nxt, Vs.ifS, Vs.bnd, Vs.ret, Vs.bad, Vs.opt, Vs.andE, Vs.orE, Vs.notE, Vs.asB, Vs.args, Vs.vV, Vs.vP, Vs.isD, Vs.isO, Vs.tyD, Vs.clD, Vs.kfB, Vs.cl, Vs.b2, Vs.ch, Vs.andT, Vs.orT, Vs.notT, Vs.dropS, Vs.exS, Vs.outB, K74.ite_ev, K74.itA_tup, K74.itA_lst, K74.itA_sq, K74.kit_ii, K74.kit_ib, K74.kit_bi, K74.kit_bb, K74.kit_ni, K74.kit_si, K74.kit_ti, K74.kit_li, K74.kit_di, K74.kit_tt, K74.kit_it, K74.kit_bt, K74.kit_nt, K74.kit_st, K74.kit_lt, K74.kit_dt, Vs.inn, Vs.lend, Vs.unl, Vs.unl1, Vs.fg, Vs.stE, Vs.tg1, Vs.tg2, Vs.ifE, Vs.yes, Vs.frz, Vs.lcAn, Vs.lcM, Vs.allD, Vs.itsL, Vs.lstB, Vs.lenD, Vs.its, Vs.leD, Vs.ltD, Vs.gtD, Vs.geD, Vs.int2, Vs.fB, Vs.fI, Vs.addD, Vs.isI2, Vs.isT2, Vs.subD, Vs.catT, Vs.catL, Vs.ixD, Vs.ixO, Vs.forA, Vs.forR1, Vs.forR2, Vs.forL, Vs.stp, Vs.stp2, Vs.meV, Vs.mutV, Vs.vL, Vs.gExt, Vs.gApp, Vs.lstF, Vs.tupE, Vs.slV, Vs.sl3, Vs.slD, Vs.tupD, Vs.sumD, Vs.absD, Vs.intD, Vs.lcR1, Vs.lcR2, Vs.lcL, Vs.forZ, Vs.zipD, Vs.repF, Vs.subS, Vs.gSet, Vs.ixV, Vs.eqD, Vs.neD, Vs.isnD, Vs.isbD, Vs.max2D] at hz ⊢; omega) (signs.map .int) [] ⟨⟨signs, rfl, hv⟩, by simp [Vs.runP, Vs.runI, Vs.io0, Vs.retS, Vs.setS, Vs.setO, Vs.putS, Vs.lf, Vs.sq, Vs.nxt, Vs.ifS, Vs.bnd, Vs.ret, Vs.bad, Vs.opt, Vs.andE, Vs.orE, Vs.notE, Vs.asB, Vs.args, Vs.vV, Vs.vP, Vs.isD, Vs.isO, Vs.tyD, Vs.clD, Vs.kfB, Vs.cl, Vs.b2, Vs.ch, Vs.andT, Vs.orT, Vs.notT, Vs.dropS, Vs.exS, Vs.outB, K74.ite_ev, K74.itA_tup, K74.itA_lst, K74.itA_sq, K74.kit_ii, K74.kit_ib, K74.kit_bi, K74.kit_bb, K74.kit_ni, K74.kit_si, K74.kit_ti, K74.kit_li, K74.kit_di, K74.kit_tt, K74.kit_it, K74.kit_bt, K74.kit_nt, K74.kit_st, K74.kit_lt, K74.kit_dt, Vs.inn, Vs.lend, Vs.unl, Vs.unl1, Vs.fg, Vs.stE, Vs.tg1, Vs.tg2, Vs.ifE, Vs.yes, Vs.frz, Vs.lcAn, Vs.lcM, Vs.allD, Vs.itsL, Vs.lstB, Vs.lenD, Vs.its, Vs.leD, Vs.ltD, Vs.gtD, Vs.geD, Vs.int2, Vs.fB, Vs.fI, Vs.addD, Vs.isI2, Vs.isT2, Vs.subD, Vs.catT, Vs.catL, Vs.ixD, Vs.ixO, Vs.forA, Vs.forR1, Vs.forR2, Vs.forL, Vs.stp, Vs.stp2, Vs.meV, Vs.mutV, Vs.vL, Vs.gExt, Vs.gApp, Vs.lstF, Vs.tupE, Vs.slV, Vs.sl3, Vs.slD, Vs.tupD, Vs.sumD, Vs.absD, Vs.intD, Vs.lcR1, Vs.lcR2, Vs.lcL, Vs.forZ, Vs.zipD, Vs.repF, Vs.subS, Vs.gSet, Vs.ixV, Vs.eqD, Vs.neD, Vs.isnD, Vs.isbD, Vs.max2D]; omega⟩
  have fo : ∀ (ns s : List Int), (ns.map D.int).foldl (fun s d => match d with | .int i => s ++ wd rule i | _ => s) s = s ++ grw rule ns := fun ns => by
    induction ns with
    | nil => intro s; simp [Vs.runP, Vs.runI, Vs.io0, Vs.retS, Vs.setS, Vs.setO, Vs.putS, Vs.lf, Vs.sq, Vs.nxt, Vs.ifS, Vs.bnd, Vs.ret, Vs.bad, Vs.opt, Vs.andE, Vs.orE, Vs.notE, Vs.asB, Vs.args, Vs.vV, Vs.vP, Vs.isD, Vs.isO, Vs.tyD, Vs.clD, Vs.kfB, Vs.cl, Vs.b2, Vs.ch, Vs.andT, Vs.orT, Vs.notT, Vs.dropS, Vs.exS, Vs.outB, K74.ite_ev, K74.itA_tup, K74.itA_lst, K74.itA_sq, K74.kit_ii, K74.kit_ib, K74.kit_bi, K74.kit_bb, K74.kit_ni, K74.kit_si, K74.kit_ti, K74.kit_li, K74.kit_di, K74.kit_tt, K74.kit_it, K74.kit_bt, K74.kit_nt, K74.kit_st, K74.kit_lt, K74.kit_dt, Vs.inn, Vs.lend, Vs.unl, Vs.unl1, Vs.fg, Vs.stE, Vs.tg1, Vs.tg2, Vs.ifE, Vs.yes, Vs.frz, Vs.lcAn, Vs.lcM, Vs.allD, Vs.itsL, Vs.lstB, Vs.lenD, Vs.its, Vs.leD, Vs.ltD, Vs.gtD, Vs.geD, Vs.int2, Vs.fB, Vs.fI, Vs.addD, Vs.isI2, Vs.isT2, Vs.subD, Vs.catT, Vs.catL, Vs.ixD, Vs.ixO, Vs.forA, Vs.forR1, Vs.forR2, Vs.forL, Vs.stp, Vs.stp2, Vs.meV, Vs.mutV, Vs.vL, Vs.gExt, Vs.gApp, Vs.lstF, Vs.tupE, Vs.slV, Vs.sl3, Vs.slD, Vs.tupD, Vs.sumD, Vs.absD, Vs.intD, Vs.lcR1, Vs.lcR2, Vs.lcL, Vs.forZ, Vs.zipD, Vs.repF, Vs.subS, Vs.gSet, Vs.ixV, Vs.eqD, Vs.neD, Vs.isnD, Vs.isbD, Vs.max2D, grw]
    | cons n ns ih => intro s; simp only [List.map_cons, List.foldl_cons]; rw [ih]; simp [Vs.runP, Vs.runI, Vs.io0, Vs.retS, Vs.setS, Vs.setO, Vs.putS, Vs.lf, Vs.sq, Vs.nxt, Vs.ifS, Vs.bnd, Vs.ret, Vs.bad, Vs.opt, Vs.andE, Vs.orE, Vs.notE, Vs.asB, Vs.args, Vs.vV, Vs.vP, Vs.isD, Vs.isO, Vs.tyD, Vs.clD, Vs.kfB, Vs.cl, Vs.b2, Vs.ch, Vs.andT, Vs.orT, Vs.notT, Vs.dropS, Vs.exS, Vs.outB, K74.ite_ev, K74.itA_tup, K74.itA_lst, K74.itA_sq, K74.kit_ii, K74.kit_ib, K74.kit_bi, K74.kit_bb, K74.kit_ni, K74.kit_si, K74.kit_ti, K74.kit_li, K74.kit_di, K74.kit_tt, K74.kit_it, K74.kit_bt, K74.kit_nt, K74.kit_st, K74.kit_lt, K74.kit_dt, Vs.inn, Vs.lend, Vs.unl, Vs.unl1, Vs.fg, Vs.stE, Vs.tg1, Vs.tg2, Vs.ifE, Vs.yes, Vs.frz, Vs.lcAn, Vs.lcM, Vs.allD, Vs.itsL, Vs.lstB, Vs.lenD, Vs.its, Vs.leD, Vs.ltD, Vs.gtD, Vs.geD, Vs.int2, Vs.fB, Vs.fI, Vs.addD, Vs.isI2, Vs.isT2, Vs.subD, Vs.catT, Vs.catL, Vs.ixD, Vs.ixO, Vs.forA, Vs.forR1, Vs.forR2, Vs.forL, Vs.stp, Vs.stp2, Vs.meV, Vs.mutV, Vs.vL, Vs.gExt, Vs.gApp, Vs.lstF, Vs.tupE, Vs.slV, Vs.sl3, Vs.slD, Vs.tupD, Vs.sumD, Vs.absD, Vs.intD, Vs.lcR1, Vs.lcR2, Vs.lcL, Vs.forZ, Vs.zipD, Vs.repF, Vs.subS, Vs.gSet, Vs.ixV, Vs.eqD, Vs.neD, Vs.isnD, Vs.isbD, Vs.max2D, grw]
  simp only [fo] at L
  simp [Vs.runP, Vs.runI, Vs.io0, Vs.retS, Vs.setS, Vs.setO, Vs.putS, Vs.lf, Vs.sq, Vs.nxt, Vs.ifS, Vs.bnd, Vs.ret, Vs.bad, Vs.opt, Vs.andE, Vs.orE, Vs.notE, Vs.asB, Vs.args, Vs.vV, Vs.vP, Vs.isD, Vs.isO, Vs.tyD, Vs.clD, Vs.kfB, Vs.cl, Vs.b2, Vs.ch, Vs.andT, Vs.orT, Vs.notT, Vs.dropS, Vs.exS, Vs.outB, K74.ite_ev, K74.itA_tup, K74.itA_lst, K74.itA_sq, K74.kit_ii, K74.kit_ib, K74.kit_bi, K74.kit_bb, K74.kit_ni, K74.kit_si, K74.kit_ti, K74.kit_li, K74.kit_di, K74.kit_tt, K74.kit_it, K74.kit_bt, K74.kit_nt, K74.kit_st, K74.kit_lt, K74.kit_dt, Vs.inn, Vs.lend, Vs.unl, Vs.unl1, Vs.fg, Vs.stE, Vs.tg1, Vs.tg2, Vs.ifE, Vs.yes, Vs.frz, Vs.lcAn, Vs.lcM, Vs.allD, Vs.itsL, Vs.lstB, Vs.lenD, Vs.its, Vs.leD, Vs.ltD, Vs.gtD, Vs.geD, Vs.int2, Vs.fB, Vs.fI, Vs.addD, Vs.isI2, Vs.isT2, Vs.subD, Vs.catT, Vs.catL, Vs.ixD, Vs.ixO, Vs.forA, Vs.forR1, Vs.forR2, Vs.forL, Vs.stp, Vs.stp2, Vs.meV, Vs.mutV, Vs.vL, Vs.gExt, Vs.gApp, Vs.lstF, Vs.tupE, Vs.slV, Vs.sl3, Vs.slD, Vs.tupD, Vs.sumD, Vs.absD, Vs.intD, Vs.lcR1, Vs.lcR2, Vs.lcL, Vs.forZ, Vs.zipD, Vs.repF, Vs.subS, Vs.gSet, Vs.ixV, Vs.eqD, Vs.neD, Vs.isnD, Vs.isbD, Vs.max2D] at L
  simp [Vs.runP, Vs.runI, Vs.io0, Vs.retS, Vs.setS, Vs.setO, Vs.putS, Vs.lf, Vs.sq, Vs.nxt, Vs.ifS, Vs.bnd, Vs.ret, Vs.bad, Vs.opt, Vs.andE, Vs.orE, Vs.notE, Vs.asB, Vs.args, Vs.vV, Vs.vP, Vs.isD, Vs.isO, Vs.tyD, Vs.clD, Vs.kfB, Vs.cl, Vs.b2, Vs.ch, Vs.andT, Vs.orT, Vs.notT, Vs.dropS, Vs.exS, Vs.outB, K74.ite_ev, K74.itA_tup, K74.itA_lst, K74.itA_sq, K74.kit_ii, K74.kit_ib, K74.kit_bi, K74.kit_bb, K74.kit_ni, K74.kit_si, K74.kit_ti, K74.kit_li, K74.kit_di, K74.kit_tt, K74.kit_it, K74.kit_bt, K74.kit_nt, K74.kit_st, K74.kit_lt, K74.kit_dt, Vs.inn, Vs.lend, Vs.unl, Vs.unl1, Vs.fg, Vs.stE, Vs.tg1, Vs.tg2, Vs.ifE, Vs.yes, Vs.frz, Vs.lcAn, Vs.lcM, Vs.allD, Vs.itsL, Vs.lstB, Vs.lenD, Vs.its, Vs.leD, Vs.ltD, Vs.gtD, Vs.geD, Vs.int2, Vs.fB, Vs.fI, Vs.addD, Vs.isI2, Vs.isT2, Vs.subD, Vs.catT, Vs.catL, Vs.ixD, Vs.ixO, Vs.forA, Vs.forR1, Vs.forR2, Vs.forL, Vs.stp, Vs.stp2, Vs.meV, Vs.mutV, Vs.vL, Vs.gExt, Vs.gApp, Vs.lstF, Vs.tupE, Vs.slV, Vs.sl3, Vs.slD, Vs.tupD, Vs.sumD, Vs.absD, Vs.intD, Vs.lcR1, Vs.lcR2, Vs.lcL, Vs.forZ, Vs.zipD, Vs.repF, Vs.subS, Vs.gSet, Vs.ixV, Vs.eqD, Vs.neD, Vs.isnD, Vs.isbD, Vs.max2D, r_raw_grow, m_raw_grow]
  rw [show itA (ID signs) = some (signs.map .int) from rfl]
  simp [Vs.runP, Vs.runI, Vs.io0, Vs.retS, Vs.setS, Vs.setO, Vs.putS, Vs.lf, Vs.sq, Vs.nxt, Vs.ifS, Vs.bnd, Vs.ret, Vs.bad, Vs.opt, Vs.andE, Vs.orE, Vs.notE, Vs.asB, Vs.args, Vs.vV, Vs.vP, Vs.isD, Vs.isO, Vs.tyD, Vs.clD, Vs.kfB, Vs.cl, Vs.b2, Vs.ch, Vs.andT, Vs.orT, Vs.notT, Vs.dropS, Vs.exS, Vs.outB, K74.ite_ev, K74.itA_tup, K74.itA_lst, K74.itA_sq, K74.kit_ii, K74.kit_ib, K74.kit_bi, K74.kit_bb, K74.kit_ni, K74.kit_si, K74.kit_ti, K74.kit_li, K74.kit_di, K74.kit_tt, K74.kit_it, K74.kit_bt, K74.kit_nt, K74.kit_st, K74.kit_lt, K74.kit_dt, Vs.inn, Vs.lend, Vs.unl, Vs.unl1, Vs.fg, Vs.stE, Vs.tg1, Vs.tg2, Vs.ifE, Vs.yes, Vs.frz, Vs.lcAn, Vs.lcM, Vs.allD, Vs.itsL, Vs.lstB, Vs.lenD, Vs.its, Vs.leD, Vs.ltD, Vs.gtD, Vs.geD, Vs.int2, Vs.fB, Vs.fI, Vs.addD, Vs.isI2, Vs.isT2, Vs.subD, Vs.catT, Vs.catL, Vs.ixD, Vs.ixO, Vs.forA, Vs.forR1, Vs.forR2, Vs.forL, Vs.stp, Vs.stp2, Vs.meV, Vs.mutV, Vs.vL, Vs.gExt, Vs.gApp, Vs.lstF, Vs.tupE, Vs.slV, Vs.sl3, Vs.slD, Vs.tupD, Vs.sumD, Vs.absD, Vs.intD, Vs.lcR1, Vs.lcR2, Vs.lcL, Vs.forZ, Vs.zipD, Vs.repF, Vs.subS, Vs.gSet, Vs.ixV, Vs.eqD, Vs.neD, Vs.isnD, Vs.isbD, Vs.max2D, L]
  rfl

theorem step_eq (K : PySem.W.Frag) {rule : List (List Int)} {signs : List Int} (h : RuOk rule) (hv : Vd rule.length signs) (hl : signs.length ≤ 1000000) : r__law_step K [RD rule, ID signs] = .ok (ID (grw rule signs)) [] := raw_grow_eq K h hv hl
theorem grw_vd {rule : List (List Int)} {signs : List Int} (h : RuOk rule) (hv : Vd rule.length signs) : Vd rule.length (grw rule signs) := fun s hs => by
  obtain ⟨t, ht, hs⟩ := List.mem_flatMap.mp hs
  obtain ⟨h1, h2⟩ := hv t ht
  exact h.let_ _ (wd_mem h1 h2) s hs
def gsz (rule : List (List Int)) (signs : List Int) : Nat := (signs.map fun s => (wd rule s).length).sum
theorem grw_len {rule : List (List Int)} {signs : List Int} : (grw rule signs).length = gsz rule signs := by
  unfold grw gsz
  rw [List.length_flatMap]
theorem gsz_le {rule : List (List Int)} (h : RuOk rule) : ∀ {signs : List Int}, Vd rule.length signs → gsz rule signs ≤ 4 * signs.length
  | [], _ => by simp [Vs.runP, Vs.runI, Vs.io0, Vs.retS, Vs.setS, Vs.setO, Vs.putS, Vs.lf, Vs.sq, Vs.nxt, Vs.ifS, Vs.bnd, Vs.ret, Vs.bad, Vs.opt, Vs.andE, Vs.orE, Vs.notE, Vs.asB, Vs.args, Vs.vV, Vs.vP, Vs.isD, Vs.isO, Vs.tyD, Vs.clD, Vs.kfB, Vs.cl, Vs.b2, Vs.ch, Vs.andT, Vs.orT, Vs.notT, Vs.dropS, Vs.exS, Vs.outB, K74.ite_ev, K74.itA_tup, K74.itA_lst, K74.itA_sq, K74.kit_ii, K74.kit_ib, K74.kit_bi, K74.kit_bb, K74.kit_ni, K74.kit_si, K74.kit_ti, K74.kit_li, K74.kit_di, K74.kit_tt, K74.kit_it, K74.kit_bt, K74.kit_nt, K74.kit_st, K74.kit_lt, K74.kit_dt, Vs.inn, Vs.lend, Vs.unl, Vs.unl1, Vs.fg, Vs.stE, Vs.tg1, Vs.tg2, Vs.ifE, Vs.yes, Vs.frz, Vs.lcAn, Vs.lcM, Vs.allD, Vs.itsL, Vs.lstB, Vs.lenD, Vs.its, Vs.leD, Vs.ltD, Vs.gtD, Vs.geD, Vs.int2, Vs.fB, Vs.fI, Vs.addD, Vs.isI2, Vs.isT2, Vs.subD, Vs.catT, Vs.catL, Vs.ixD, Vs.ixO, Vs.forA, Vs.forR1, Vs.forR2, Vs.forL, Vs.stp, Vs.stp2, Vs.meV, Vs.mutV, Vs.vL, Vs.gExt, Vs.gApp, Vs.lstF, Vs.tupE, Vs.slV, Vs.sl3, Vs.slD, Vs.tupD, Vs.sumD, Vs.absD, Vs.intD, Vs.lcR1, Vs.lcR2, Vs.lcL, Vs.forZ, Vs.zipD, Vs.repF, Vs.subS, Vs.gSet, Vs.ixV, Vs.eqD, Vs.neD, Vs.isnD, Vs.isbD, Vs.max2D, gsz]
  | s :: ss, hv => by
    have := gsz_le h (signs := ss) fun x hx => hv x (List.mem_cons_of_mem _ hx)
    obtain ⟨h1, h2⟩ := hv s (List.mem_cons_self ..)
    have hw := h.whi _ (wd_mem h1 h2)
    simp [Vs.runP, Vs.runI, Vs.io0, Vs.retS, Vs.setS, Vs.setO, Vs.putS, Vs.lf, Vs.sq, Vs.nxt, Vs.ifS, Vs.bnd, Vs.ret, Vs.bad, Vs.opt, Vs.andE, Vs.orE, Vs.notE, Vs.asB, Vs.args, Vs.vV, Vs.vP, Vs.isD, Vs.isO, Vs.tyD, Vs.clD, Vs.kfB, Vs.cl, Vs.b2, Vs.ch, Vs.andT, Vs.orT, Vs.notT, Vs.dropS, Vs.exS, Vs.outB, K74.ite_ev, K74.itA_tup, K74.itA_lst, K74.itA_sq, K74.kit_ii, K74.kit_ib, K74.kit_bi, K74.kit_bb, K74.kit_ni, K74.kit_si, K74.kit_ti, K74.kit_li, K74.kit_di, K74.kit_tt, K74.kit_it, K74.kit_bt, K74.kit_nt, K74.kit_st, K74.kit_lt, K74.kit_dt, Vs.inn, Vs.lend, Vs.unl, Vs.unl1, Vs.fg, Vs.stE, Vs.tg1, Vs.tg2, Vs.ifE, Vs.yes, Vs.frz, Vs.lcAn, Vs.lcM, Vs.allD, Vs.itsL, Vs.lstB, Vs.lenD, Vs.its, Vs.leD, Vs.ltD, Vs.gtD, Vs.geD, Vs.int2, Vs.fB, Vs.fI, Vs.addD, Vs.isI2, Vs.isT2, Vs.subD, Vs.catT, Vs.catL, Vs.ixD, Vs.ixO, Vs.forA, Vs.forR1, Vs.forR2, Vs.forL, Vs.stp, Vs.stp2, Vs.meV, Vs.mutV, Vs.vL, Vs.gExt, Vs.gApp, Vs.lstF, Vs.tupE, Vs.slV, Vs.sl3, Vs.slD, Vs.tupD, Vs.sumD, Vs.absD, Vs.intD, Vs.lcR1, Vs.lcR2, Vs.lcL, Vs.forZ, Vs.zipD, Vs.repF, Vs.subS, Vs.gSet, Vs.ixV, Vs.eqD, Vs.neD, Vs.isnD, Vs.isbD, Vs.max2D, gsz] at this ⊢
    omega
theorem len_le {rule : List (List Int)} (h : RuOk rule) : ∀ {signs : List Int}, Vd rule.length signs → signs.length ≤ gsz rule signs
  | [], _ => by simp [Vs.runP, Vs.runI, Vs.io0, Vs.retS, Vs.setS, Vs.setO, Vs.putS, Vs.lf, Vs.sq, Vs.nxt, Vs.ifS, Vs.bnd, Vs.ret, Vs.bad, Vs.opt, Vs.andE, Vs.orE, Vs.notE, Vs.asB, Vs.args, Vs.vV, Vs.vP, Vs.isD, Vs.isO, Vs.tyD, Vs.clD, Vs.kfB, Vs.cl, Vs.b2, Vs.ch, Vs.andT, Vs.orT, Vs.notT, Vs.dropS, Vs.exS, Vs.outB, K74.ite_ev, K74.itA_tup, K74.itA_lst, K74.itA_sq, K74.kit_ii, K74.kit_ib, K74.kit_bi, K74.kit_bb, K74.kit_ni, K74.kit_si, K74.kit_ti, K74.kit_li, K74.kit_di, K74.kit_tt, K74.kit_it, K74.kit_bt, K74.kit_nt, K74.kit_st, K74.kit_lt, K74.kit_dt, Vs.inn, Vs.lend, Vs.unl, Vs.unl1, Vs.fg, Vs.stE, Vs.tg1, Vs.tg2, Vs.ifE, Vs.yes, Vs.frz, Vs.lcAn, Vs.lcM, Vs.allD, Vs.itsL, Vs.lstB, Vs.lenD, Vs.its, Vs.leD, Vs.ltD, Vs.gtD, Vs.geD, Vs.int2, Vs.fB, Vs.fI, Vs.addD, Vs.isI2, Vs.isT2, Vs.subD, Vs.catT, Vs.catL, Vs.ixD, Vs.ixO, Vs.forA, Vs.forR1, Vs.forR2, Vs.forL, Vs.stp, Vs.stp2, Vs.meV, Vs.mutV, Vs.vL, Vs.gExt, Vs.gApp, Vs.lstF, Vs.tupE, Vs.slV, Vs.sl3, Vs.slD, Vs.tupD, Vs.sumD, Vs.absD, Vs.intD, Vs.lcR1, Vs.lcR2, Vs.lcL, Vs.forZ, Vs.zipD, Vs.repF, Vs.subS, Vs.gSet, Vs.ixV, Vs.eqD, Vs.neD, Vs.isnD, Vs.isbD, Vs.max2D, gsz]
  | s :: ss, hv => by
    have := len_le h (signs := ss) fun x hx => hv x (List.mem_cons_of_mem _ hx)
    obtain ⟨h1, h2⟩ := hv s (List.mem_cons_self ..)
    have hw := h.wlo _ (wd_mem h1 h2)
    simp [Vs.runP, Vs.runI, Vs.io0, Vs.retS, Vs.setS, Vs.setO, Vs.putS, Vs.lf, Vs.sq, Vs.nxt, Vs.ifS, Vs.bnd, Vs.ret, Vs.bad, Vs.opt, Vs.andE, Vs.orE, Vs.notE, Vs.asB, Vs.args, Vs.vV, Vs.vP, Vs.isD, Vs.isO, Vs.tyD, Vs.clD, Vs.kfB, Vs.cl, Vs.b2, Vs.ch, Vs.andT, Vs.orT, Vs.notT, Vs.dropS, Vs.exS, Vs.outB, K74.ite_ev, K74.itA_tup, K74.itA_lst, K74.itA_sq, K74.kit_ii, K74.kit_ib, K74.kit_bi, K74.kit_bb, K74.kit_ni, K74.kit_si, K74.kit_ti, K74.kit_li, K74.kit_di, K74.kit_tt, K74.kit_it, K74.kit_bt, K74.kit_nt, K74.kit_st, K74.kit_lt, K74.kit_dt, Vs.inn, Vs.lend, Vs.unl, Vs.unl1, Vs.fg, Vs.stE, Vs.tg1, Vs.tg2, Vs.ifE, Vs.yes, Vs.frz, Vs.lcAn, Vs.lcM, Vs.allD, Vs.itsL, Vs.lstB, Vs.lenD, Vs.its, Vs.leD, Vs.ltD, Vs.gtD, Vs.geD, Vs.int2, Vs.fB, Vs.fI, Vs.addD, Vs.isI2, Vs.isT2, Vs.subD, Vs.catT, Vs.catL, Vs.ixD, Vs.ixO, Vs.forA, Vs.forR1, Vs.forR2, Vs.forL, Vs.stp, Vs.stp2, Vs.meV, Vs.mutV, Vs.vL, Vs.gExt, Vs.gApp, Vs.lstF, Vs.tupE, Vs.slV, Vs.sl3, Vs.slD, Vs.tupD, Vs.sumD, Vs.absD, Vs.intD, Vs.lcR1, Vs.lcR2, Vs.lcL, Vs.forZ, Vs.zipD, Vs.repF, Vs.subS, Vs.gSet, Vs.ixV, Vs.eqD, Vs.neD, Vs.isnD, Vs.isbD, Vs.max2D, gsz] at this ⊢
    omega
theorem lstI_map {α : Type} {g : α → Int} : ∀ {l : List α}, lstI (l.map fun x => D.int (g x)) = some (l.map g)
  | [] => rfl
  | a :: l => by simp [Vs.runP, Vs.runI, Vs.io0, Vs.retS, Vs.setS, Vs.setO, Vs.putS, Vs.lf, Vs.sq, Vs.nxt, Vs.ifS, Vs.bnd, Vs.ret, Vs.bad, Vs.opt, Vs.andE, Vs.orE, Vs.notE, Vs.asB, Vs.args, Vs.vV, Vs.vP, Vs.isD, Vs.isO, Vs.tyD, Vs.clD, Vs.kfB, Vs.cl, Vs.b2, Vs.ch, Vs.andT, Vs.orT, Vs.notT, Vs.dropS, Vs.exS, Vs.outB, K74.ite_ev, K74.itA_tup, K74.itA_lst, K74.itA_sq, K74.kit_ii, K74.kit_ib, K74.kit_bi, K74.kit_bb, K74.kit_ni, K74.kit_si, K74.kit_ti, K74.kit_li, K74.kit_di, K74.kit_tt, K74.kit_it, K74.kit_bt, K74.kit_nt, K74.kit_st, K74.kit_lt, K74.kit_dt, Vs.inn, Vs.lend, Vs.unl, Vs.unl1, Vs.fg, Vs.stE, Vs.tg1, Vs.tg2, Vs.ifE, Vs.yes, Vs.frz, Vs.lcAn, Vs.lcM, Vs.allD, Vs.itsL, Vs.lstB, Vs.lenD, Vs.its, Vs.leD, Vs.ltD, Vs.gtD, Vs.geD, Vs.int2, Vs.fB, Vs.fI, Vs.addD, Vs.isI2, Vs.isT2, Vs.subD, Vs.catT, Vs.catL, Vs.ixD, Vs.ixO, Vs.forA, Vs.forR1, Vs.forR2, Vs.forL, Vs.stp, Vs.stp2, Vs.meV, Vs.mutV, Vs.vL, Vs.gExt, Vs.gApp, Vs.lstF, Vs.tupE, Vs.slV, Vs.sl3, Vs.slD, Vs.tupD, Vs.sumD, Vs.absD, Vs.intD, Vs.lcR1, Vs.lcR2, Vs.lcL, Vs.forZ, Vs.zipD, Vs.repF, Vs.subS, Vs.gSet, Vs.ixV, Vs.eqD, Vs.neD, Vs.isnD, Vs.isbD, Vs.max2D, lstI, lstI_map (l := l)]
theorem lstI_ints {l : List Int} : lstI (l.map D.int) = some l := by
  have := lstI_map (l := l) (g := fun x => x)
  simpa [Vs.runP, Vs.runI, Vs.io0, Vs.retS, Vs.setS, Vs.setO, Vs.putS, Vs.lf, Vs.sq, Vs.nxt, Vs.ifS, Vs.bnd, Vs.ret, Vs.bad, Vs.opt, Vs.andE, Vs.orE, Vs.notE, Vs.asB, Vs.args, Vs.vV, Vs.vP, Vs.isD, Vs.isO, Vs.tyD, Vs.clD, Vs.kfB, Vs.cl, Vs.b2, Vs.ch, Vs.andT, Vs.orT, Vs.notT, Vs.dropS, Vs.exS, Vs.outB, K74.ite_ev, K74.itA_tup, K74.itA_lst, K74.itA_sq, K74.kit_ii, K74.kit_ib, K74.kit_bi, K74.kit_bb, K74.kit_ni, K74.kit_si, K74.kit_ti, K74.kit_li, K74.kit_di, K74.kit_tt, K74.kit_it, K74.kit_bt, K74.kit_nt, K74.kit_st, K74.kit_lt, K74.kit_dt, Vs.inn, Vs.lend, Vs.unl, Vs.unl1, Vs.fg, Vs.stE, Vs.tg1, Vs.tg2, Vs.ifE, Vs.yes, Vs.frz, Vs.lcAn, Vs.lcM, Vs.allD, Vs.itsL, Vs.lstB, Vs.lenD, Vs.its, Vs.leD, Vs.ltD, Vs.gtD, Vs.geD, Vs.int2, Vs.fB, Vs.fI, Vs.addD, Vs.isI2, Vs.isT2, Vs.subD, Vs.catT, Vs.catL, Vs.ixD, Vs.ixO, Vs.forA, Vs.forR1, Vs.forR2, Vs.forL, Vs.stp, Vs.stp2, Vs.meV, Vs.mutV, Vs.vL, Vs.gExt, Vs.gApp, Vs.lstF, Vs.tupE, Vs.slV, Vs.sl3, Vs.slD, Vs.tupD, Vs.sumD, Vs.absD, Vs.intD, Vs.lcR1, Vs.lcR2, Vs.lcL, Vs.forZ, Vs.zipD, Vs.repF, Vs.subS, Vs.gSet, Vs.ixV, Vs.eqD, Vs.neD, Vs.isnD, Vs.isbD, Vs.max2D] using this
/-- grown times often; none: too many signs -/
def gro (rule : List (List Int)) : Nat → List Int → Option (List Int)
  | 0, s => some s
  | n + 1, s => if 20000 < gsz rule s then none else gro rule n (grw rule s)
theorem sum_nat {α : Type} (f : α → Nat) : ∀ l : List α, (l.map fun x => ((f x : Nat) : Int)).sum = ((l.map f).sum : Nat)
  | [] => rfl
  | a :: l => by simp [Vs.runP, Vs.runI, Vs.io0, Vs.retS, Vs.setS, Vs.setO, Vs.putS, Vs.lf, Vs.sq, Vs.nxt, Vs.ifS, Vs.bnd, Vs.ret, Vs.bad, Vs.opt, Vs.andE, Vs.orE, Vs.notE, Vs.asB, Vs.args, Vs.vV, Vs.vP, Vs.isD, Vs.isO, Vs.tyD, Vs.clD, Vs.kfB, Vs.cl, Vs.b2, Vs.ch, Vs.andT, Vs.orT, Vs.notT, Vs.dropS, Vs.exS, Vs.outB, K74.ite_ev, K74.itA_tup, K74.itA_lst, K74.itA_sq, K74.kit_ii, K74.kit_ib, K74.kit_bi, K74.kit_bb, K74.kit_ni, K74.kit_si, K74.kit_ti, K74.kit_li, K74.kit_di, K74.kit_tt, K74.kit_it, K74.kit_bt, K74.kit_nt, K74.kit_st, K74.kit_lt, K74.kit_dt, Vs.inn, Vs.lend, Vs.unl, Vs.unl1, Vs.fg, Vs.stE, Vs.tg1, Vs.tg2, Vs.ifE, Vs.yes, Vs.frz, Vs.lcAn, Vs.lcM, Vs.allD, Vs.itsL, Vs.lstB, Vs.lenD, Vs.its, Vs.leD, Vs.ltD, Vs.gtD, Vs.geD, Vs.int2, Vs.fB, Vs.fI, Vs.addD, Vs.isI2, Vs.isT2, Vs.subD, Vs.catT, Vs.catL, Vs.ixD, Vs.ixO, Vs.forA, Vs.forR1, Vs.forR2, Vs.forL, Vs.stp, Vs.stp2, Vs.meV, Vs.mutV, Vs.vL, Vs.gExt, Vs.gApp, Vs.lstF, Vs.tupE, Vs.slV, Vs.sl3, Vs.slD, Vs.tupD, Vs.sumD, Vs.absD, Vs.intD, Vs.lcR1, Vs.lcR2, Vs.lcL, Vs.forZ, Vs.zipD, Vs.repF, Vs.subS, Vs.gSet, Vs.ixV, Vs.eqD, Vs.neD, Vs.isnD, Vs.isbD, Vs.max2D, sum_nat f l]
def lenI (d : D) (rule : List (List Int)) : D := match d with
  | .int s => .int (wd rule s).length
  | _ => .non
theorem gsz_comp (K : PySem.W.Frag) {rule : List (List Int)} {found : List Int} {ev : Ev} (h : RuOk rule) (hv : Vd rule.length found) (he : ∀ s : Int, 1 ≤ s → s ≤ rule.length → inn [5] (el_grow_often_0 K (.int s)) ev = .ok (some (.int (wd rule s).length)) ev) :
    lcA [5] (el_grow_often_0 K) (found.map D.int) ev = .ok (found.map fun s => D.int (wd rule s).length) ev := by
  rw [lcA_map (g := fun d => match d with | .int s => .int (wd rule s).length | _ => .non) (fun d hd => ?_)]
  · rw [List.map_map]; rfl
  · obtain ⟨s, hs, rfl⟩ := List.mem_map.mp hd
    obtain ⟨h1, h2⟩ := hv s hs
    exact he s h1 h2
theorem loop_gro (K : PySem.W.Frag) {rule : List (List Int)} {sg tm : D} (h : RuOk rule) : ∀ (ks : List D) (found : List Int), Vd rule.length found → found.length ≤ 80000 →
    (∀ r, gro rule ks.length found = some r → loop [4, 5] (lp_grow_often_1 K) ks [.sh (RD rule), .sh sg, .sh tm, .sh (ID found), .no, .no] = .nx [.sh (RD rule), .sh sg, .sh tm, .sh (ID r), .no, .no]) ∧
      (gro rule ks.length found = none → ∃ ev, loop [4, 5] (lp_grow_often_1 K) ks [.sh (RD rule), .sh sg, .sh tm, .sh (ID found), .no, .no] = .ex (He.ga K "TooMany") [("most", .int 20000)] ev)
  | [], found, _, _ => ⟨fun r e => by cases e; rfl, fun e => by cases e⟩
  | k :: ks, found, hv, hl => by
    have hc := gsz_comp K (ev := [.sh (RD rule), .sh sg, .sh tm, .sh (ID found), .sh k, .no]) h hv (fun s h1 h2 => by
      simp [Vs.runP, Vs.runI, Vs.io0, Vs.retS, Vs.setS, Vs.setO, Vs.putS, Vs.lf, Vs.sq, Vs.nxt, Vs.ifS, Vs.bnd, Vs.ret, Vs.bad, Vs.opt, Vs.andE, Vs.orE, Vs.notE, Vs.asB, Vs.args, Vs.vV, Vs.vP, Vs.isD, Vs.isO, Vs.tyD, Vs.clD, Vs.kfB, Vs.cl, Vs.b2, Vs.ch, Vs.andT, Vs.orT, Vs.notT, Vs.dropS, Vs.exS, Vs.outB, K74.ite_ev, K74.itA_tup, K74.itA_lst, K74.itA_sq, K74.kit_ii, K74.kit_ib, K74.kit_bi, K74.kit_bb, K74.kit_ni, K74.kit_si, K74.kit_ti, K74.kit_li, K74.kit_di, K74.kit_tt, K74.kit_it, K74.kit_bt, K74.kit_nt, K74.kit_st, K74.kit_lt, K74.kit_dt, Vs.inn, Vs.lend, Vs.unl, Vs.unl1, Vs.fg, Vs.stE, Vs.tg1, Vs.tg2, Vs.ifE, Vs.yes, Vs.frz, Vs.lcAn, Vs.lcM, Vs.allD, Vs.itsL, Vs.lstB, Vs.lenD, Vs.its, Vs.leD, Vs.ltD, Vs.gtD, Vs.geD, Vs.int2, Vs.fB, Vs.fI, Vs.addD, Vs.isI2, Vs.isT2, Vs.subD, Vs.catT, Vs.catL, Vs.ixD, Vs.ixO, Vs.forA, Vs.forR1, Vs.forR2, Vs.forL, Vs.stp, Vs.stp2, Vs.meV, Vs.mutV, Vs.vL, Vs.gExt, Vs.gApp, Vs.lstF, Vs.tupE, Vs.slV, Vs.sl3, Vs.slD, Vs.tupD, Vs.sumD, Vs.absD, Vs.intD, Vs.lcR1, Vs.lcR2, Vs.lcL, Vs.forZ, Vs.zipD, Vs.repF, Vs.subS, Vs.gSet, Vs.ixV, Vs.eqD, Vs.neD, Vs.isnD, Vs.isbD, Vs.max2D, el_grow_often_0, RD]
      rw [atI_RD h1 h2]
      simp [Vs.runP, Vs.runI, Vs.io0, Vs.retS, Vs.setS, Vs.setO, Vs.putS, Vs.lf, Vs.sq, Vs.nxt, Vs.ifS, Vs.bnd, Vs.ret, Vs.bad, Vs.opt, Vs.andE, Vs.orE, Vs.notE, Vs.asB, Vs.args, Vs.vV, Vs.vP, Vs.isD, Vs.isO, Vs.tyD, Vs.clD, Vs.kfB, Vs.cl, Vs.b2, Vs.ch, Vs.andT, Vs.orT, Vs.notT, Vs.dropS, Vs.exS, Vs.outB, K74.ite_ev, K74.itA_tup, K74.itA_lst, K74.itA_sq, K74.kit_ii, K74.kit_ib, K74.kit_bi, K74.kit_bb, K74.kit_ni, K74.kit_si, K74.kit_ti, K74.kit_li, K74.kit_di, K74.kit_tt, K74.kit_it, K74.kit_bt, K74.kit_nt, K74.kit_st, K74.kit_lt, K74.kit_dt, Vs.inn, Vs.lend, Vs.unl, Vs.unl1, Vs.fg, Vs.stE, Vs.tg1, Vs.tg2, Vs.ifE, Vs.yes, Vs.frz, Vs.lcAn, Vs.lcM, Vs.allD, Vs.itsL, Vs.lstB, Vs.lenD, Vs.its, Vs.leD, Vs.ltD, Vs.gtD, Vs.geD, Vs.int2, Vs.fB, Vs.fI, Vs.addD, Vs.isI2, Vs.isT2, Vs.subD, Vs.catT, Vs.catL, Vs.ixD, Vs.ixO, Vs.forA, Vs.forR1, Vs.forR2, Vs.forL, Vs.stp, Vs.stp2, Vs.meV, Vs.mutV, Vs.vL, Vs.gExt, Vs.gApp, Vs.lstF, Vs.tupE, Vs.slV, Vs.sl3, Vs.slD, Vs.tupD, Vs.sumD, Vs.absD, Vs.intD, Vs.lcR1, Vs.lcR2, Vs.lcL, Vs.forZ, Vs.zipD, Vs.repF, Vs.subS, Vs.gSet, Vs.ixV, Vs.eqD, Vs.neD, Vs.isnD, Vs.isbD, Vs.max2D, ID])
    have e1 : itA (ID found) = some (found.map .int) := rfl
    have hb : found.length ≤ big := by rw [big_eq]; omega
    have st : lp_grow_often_1 K k [.sh (RD rule), .sh sg, .sh tm, .sh (ID found), .no, .no] = if 20000 < gsz rule found then .ex (He.ga K "TooMany") [("most", .int 20000)] [.sh (RD rule), .sh sg, .sh tm, .sh (ID found), .sh k, .no] else .nx [.sh (RD rule), .sh sg, .sh tm, .sh (ID (grw rule found)), .sh k, .no] := by
      simp [Vs.runP, Vs.runI, Vs.io0, Vs.retS, Vs.setS, Vs.setO, Vs.putS, Vs.lf, Vs.sq, Vs.nxt, Vs.ifS, Vs.bnd, Vs.ret, Vs.bad, Vs.opt, Vs.andE, Vs.orE, Vs.notE, Vs.asB, Vs.args, Vs.vV, Vs.vP, Vs.isD, Vs.isO, Vs.tyD, Vs.clD, Vs.kfB, Vs.cl, Vs.b2, Vs.ch, Vs.andT, Vs.orT, Vs.notT, Vs.dropS, Vs.exS, Vs.outB, K74.ite_ev, K74.itA_tup, K74.itA_lst, K74.itA_sq, K74.kit_ii, K74.kit_ib, K74.kit_bi, K74.kit_bb, K74.kit_ni, K74.kit_si, K74.kit_ti, K74.kit_li, K74.kit_di, K74.kit_tt, K74.kit_it, K74.kit_bt, K74.kit_nt, K74.kit_st, K74.kit_lt, K74.kit_dt, Vs.inn, Vs.lend, Vs.unl, Vs.unl1, Vs.fg, Vs.stE, Vs.tg1, Vs.tg2, Vs.ifE, Vs.yes, Vs.frz, Vs.lcAn, Vs.lcM, Vs.allD, Vs.itsL, Vs.lstB, Vs.lenD, Vs.its, Vs.leD, Vs.ltD, Vs.gtD, Vs.geD, Vs.int2, Vs.fB, Vs.fI, Vs.addD, Vs.isI2, Vs.isT2, Vs.subD, Vs.catT, Vs.catL, Vs.ixD, Vs.ixO, Vs.forA, Vs.forR1, Vs.forR2, Vs.forL, Vs.stp, Vs.stp2, Vs.meV, Vs.mutV, Vs.vL, Vs.gExt, Vs.gApp, Vs.lstF, Vs.tupE, Vs.slV, Vs.sl3, Vs.slD, Vs.tupD, Vs.sumD, Vs.absD, Vs.intD, Vs.lcR1, Vs.lcR2, Vs.lcL, Vs.forZ, Vs.zipD, Vs.repF, Vs.subS, Vs.gSet, Vs.ixV, Vs.eqD, Vs.neD, Vs.isnD, Vs.isbD, Vs.max2D, lp_grow_often_1, e1, hb, hc, lstI_map, sum_nat]
      by_cases hq : 20000 < gsz rule found
      · have hq' : (20000 : Int) < ((found.map fun s => (wd rule s).length).sum : Nat) := by unfold gsz at hq; omega
        simp [Vs.runP, Vs.runI, Vs.io0, Vs.retS, Vs.setS, Vs.setO, Vs.putS, Vs.lf, Vs.sq, Vs.nxt, Vs.ifS, Vs.bnd, Vs.ret, Vs.bad, Vs.opt, Vs.andE, Vs.orE, Vs.notE, Vs.asB, Vs.args, Vs.vV, Vs.vP, Vs.isD, Vs.isO, Vs.tyD, Vs.clD, Vs.kfB, Vs.cl, Vs.b2, Vs.ch, Vs.andT, Vs.orT, Vs.notT, Vs.dropS, Vs.exS, Vs.outB, K74.ite_ev, K74.itA_tup, K74.itA_lst, K74.itA_sq, K74.kit_ii, K74.kit_ib, K74.kit_bi, K74.kit_bb, K74.kit_ni, K74.kit_si, K74.kit_ti, K74.kit_li, K74.kit_di, K74.kit_tt, K74.kit_it, K74.kit_bt, K74.kit_nt, K74.kit_st, K74.kit_lt, K74.kit_dt, Vs.inn, Vs.lend, Vs.unl, Vs.unl1, Vs.fg, Vs.stE, Vs.tg1, Vs.tg2, Vs.ifE, Vs.yes, Vs.frz, Vs.lcAn, Vs.lcM, Vs.allD, Vs.itsL, Vs.lstB, Vs.lenD, Vs.its, Vs.leD, Vs.ltD, Vs.gtD, Vs.geD, Vs.int2, Vs.fB, Vs.fI, Vs.addD, Vs.isI2, Vs.isT2, Vs.subD, Vs.catT, Vs.catL, Vs.ixD, Vs.ixO, Vs.forA, Vs.forR1, Vs.forR2, Vs.forL, Vs.stp, Vs.stp2, Vs.meV, Vs.mutV, Vs.vL, Vs.gExt, Vs.gApp, Vs.lstF, Vs.tupE, Vs.slV, Vs.sl3, Vs.slD, Vs.tupD, Vs.sumD, Vs.absD, Vs.intD, Vs.lcR1, Vs.lcR2, Vs.lcL, Vs.forZ, Vs.zipD, Vs.repF, Vs.subS, Vs.gSet, Vs.ixV, Vs.eqD, Vs.neD, Vs.isnD, Vs.isbD, Vs.max2D, hq, hq', exM]
      · have hq' : ¬ (20000 : Int) < ((found.map fun s => (wd rule s).length).sum : Nat) := by unfold gsz at hq; omega
        simp [Vs.runP, Vs.runI, Vs.io0, Vs.retS, Vs.setS, Vs.setO, Vs.putS, Vs.lf, Vs.sq, Vs.nxt, Vs.ifS, Vs.bnd, Vs.ret, Vs.bad, Vs.opt, Vs.andE, Vs.orE, Vs.notE, Vs.asB, Vs.args, Vs.vV, Vs.vP, Vs.isD, Vs.isO, Vs.tyD, Vs.clD, Vs.kfB, Vs.cl, Vs.b2, Vs.ch, Vs.andT, Vs.orT, Vs.notT, Vs.dropS, Vs.exS, Vs.outB, K74.ite_ev, K74.itA_tup, K74.itA_lst, K74.itA_sq, K74.kit_ii, K74.kit_ib, K74.kit_bi, K74.kit_bb, K74.kit_ni, K74.kit_si, K74.kit_ti, K74.kit_li, K74.kit_di, K74.kit_tt, K74.kit_it, K74.kit_bt, K74.kit_nt, K74.kit_st, K74.kit_lt, K74.kit_dt, Vs.inn, Vs.lend, Vs.unl, Vs.unl1, Vs.fg, Vs.stE, Vs.tg1, Vs.tg2, Vs.ifE, Vs.yes, Vs.frz, Vs.lcAn, Vs.lcM, Vs.allD, Vs.itsL, Vs.lstB, Vs.lenD, Vs.its, Vs.leD, Vs.ltD, Vs.gtD, Vs.geD, Vs.int2, Vs.fB, Vs.fI, Vs.addD, Vs.isI2, Vs.isT2, Vs.subD, Vs.catT, Vs.catL, Vs.ixD, Vs.ixO, Vs.forA, Vs.forR1, Vs.forR2, Vs.forL, Vs.stp, Vs.stp2, Vs.meV, Vs.mutV, Vs.vL, Vs.gExt, Vs.gApp, Vs.lstF, Vs.tupE, Vs.slV, Vs.sl3, Vs.slD, Vs.tupD, Vs.sumD, Vs.absD, Vs.intD, Vs.lcR1, Vs.lcR2, Vs.lcL, Vs.forZ, Vs.zipD, Vs.repF, Vs.subS, Vs.gSet, Vs.ixV, Vs.eqD, Vs.neD, Vs.isnD, Vs.isbD, Vs.max2D, hq, hq', raw_grow_eq K h hv (by omega)]
    unfold loop
    rw [st]
    by_cases hq : 20000 < gsz rule found
    · simp only [hq, if_true, List.length_cons, gro]
      exact ⟨fun r e => (by cases e), fun _ => ⟨_, rfl⟩⟩
    · have hv2 := grw_vd h hv
      have hl2 : (grw rule found).length ≤ 80000 := by rw [grw_len]; omega
      have ih := loop_gro K (sg := sg) (tm := tm) h ks (grw rule found) hv2 hl2
      simp only [hq, if_false, List.length_cons, gro]
      exact ih

theorem rng_length {n : Int} : (rng 0 n).length = n.toNat := by simp [Vs.runP, Vs.runI, Vs.io0, Vs.retS, Vs.setS, Vs.setO, Vs.putS, Vs.lf, Vs.sq, Vs.nxt, Vs.ifS, Vs.bnd, Vs.ret, Vs.bad, Vs.opt, Vs.andE, Vs.orE, Vs.notE, Vs.asB, Vs.args, Vs.vV, Vs.vP, Vs.isD, Vs.isO, Vs.tyD, Vs.clD, Vs.kfB, Vs.cl, Vs.b2, Vs.ch, Vs.andT, Vs.orT, Vs.notT, Vs.dropS, Vs.exS, Vs.outB, K74.ite_ev, K74.itA_tup, K74.itA_lst, K74.itA_sq, K74.kit_ii, K74.kit_ib, K74.kit_bi, K74.kit_bb, K74.kit_ni, K74.kit_si, K74.kit_ti, K74.kit_li, K74.kit_di, K74.kit_tt, K74.kit_it, K74.kit_bt, K74.kit_nt, K74.kit_st, K74.kit_lt, K74.kit_dt, Vs.inn, Vs.lend, Vs.unl, Vs.unl1, Vs.fg, Vs.stE, Vs.tg1, Vs.tg2, Vs.ifE, Vs.yes, Vs.frz, Vs.lcAn, Vs.lcM, Vs.allD, Vs.itsL, Vs.lstB, Vs.lenD, Vs.its, Vs.leD, Vs.ltD, Vs.gtD, Vs.geD, Vs.int2, Vs.fB, Vs.fI, Vs.addD, Vs.isI2, Vs.isT2, Vs.subD, Vs.catT, Vs.catL, Vs.ixD, Vs.ixO, Vs.forA, Vs.forR1, Vs.forR2, Vs.forL, Vs.stp, Vs.stp2, Vs.meV, Vs.mutV, Vs.vL, Vs.gExt, Vs.gApp, Vs.lstF, Vs.tupE, Vs.slV, Vs.sl3, Vs.slD, Vs.tupD, Vs.sumD, Vs.absD, Vs.intD, Vs.lcR1, Vs.lcR2, Vs.lcL, Vs.forZ, Vs.zipD, Vs.repF, Vs.subS, Vs.gSet, Vs.ixV, Vs.eqD, Vs.neD, Vs.isnD, Vs.isbD, Vs.max2D, rng]
theorem grow_often_eq (K : PySem.W.Frag) {rule : List (List Int)} {signs : List Int} {t : Int} (h : RuOk rule) (hv : Vd rule.length signs) (hl : signs.length ≤ 400) (h0 : 0 ≤ t) (h1 : t ≤ 200) :
    r_grow_often K [RD rule, ID signs, .int t] = match gro rule t.toNat signs with
      | some r => .ok (ID r) []
      | none => .ex (He.ga K "TooMany") [("most", .int 20000)] [] := by
  have c1 := check_signs_eq K h.Plr (Pls_ID (ns := signs) (by rw [big_eq]; omega))
  rw [h.isRu, lenD0_RD, sgD_ID hv (by omega)] at c1
  simp [Vs.runP, Vs.runI, Vs.io0, Vs.retS, Vs.setS, Vs.setO, Vs.putS, Vs.lf, Vs.sq, Vs.nxt, Vs.ifS, Vs.bnd, Vs.ret, Vs.bad, Vs.opt, Vs.andE, Vs.orE, Vs.notE, Vs.asB, Vs.args, Vs.vV, Vs.vP, Vs.isD, Vs.isO, Vs.tyD, Vs.clD, Vs.kfB, Vs.cl, Vs.b2, Vs.ch, Vs.andT, Vs.orT, Vs.notT, Vs.dropS, Vs.exS, Vs.outB, K74.ite_ev, K74.itA_tup, K74.itA_lst, K74.itA_sq, K74.kit_ii, K74.kit_ib, K74.kit_bi, K74.kit_bb, K74.kit_ni, K74.kit_si, K74.kit_ti, K74.kit_li, K74.kit_di, K74.kit_tt, K74.kit_it, K74.kit_bt, K74.kit_nt, K74.kit_st, K74.kit_lt, K74.kit_dt, Vs.inn, Vs.lend, Vs.unl, Vs.unl1, Vs.fg, Vs.stE, Vs.tg1, Vs.tg2, Vs.ifE, Vs.yes, Vs.frz, Vs.lcAn, Vs.lcM, Vs.allD, Vs.itsL, Vs.lstB, Vs.lenD, Vs.its, Vs.leD, Vs.ltD, Vs.gtD, Vs.geD, Vs.int2, Vs.fB, Vs.fI, Vs.addD, Vs.isI2, Vs.isT2, Vs.subD, Vs.catT, Vs.catL, Vs.ixD, Vs.ixO, Vs.forA, Vs.forR1, Vs.forR2, Vs.forL, Vs.stp, Vs.stp2, Vs.meV, Vs.mutV, Vs.vL, Vs.gExt, Vs.gApp, Vs.lstF, Vs.tupE, Vs.slV, Vs.sl3, Vs.slD, Vs.tupD, Vs.sumD, Vs.absD, Vs.intD, Vs.lcR1, Vs.lcR2, Vs.lcL, Vs.forZ, Vs.zipD, Vs.repF, Vs.subS, Vs.gSet, Vs.ixV, Vs.eqD, Vs.neD, Vs.isnD, Vs.isbD, Vs.max2D] at c1
  have c2 := check_times_eq K (s := .int t) rfl
  simp [Vs.runP, Vs.runI, Vs.io0, Vs.retS, Vs.setS, Vs.setO, Vs.putS, Vs.lf, Vs.sq, Vs.nxt, Vs.ifS, Vs.bnd, Vs.ret, Vs.bad, Vs.opt, Vs.andE, Vs.orE, Vs.notE, Vs.asB, Vs.args, Vs.vV, Vs.vP, Vs.isD, Vs.isO, Vs.tyD, Vs.clD, Vs.kfB, Vs.cl, Vs.b2, Vs.ch, Vs.andT, Vs.orT, Vs.notT, Vs.dropS, Vs.exS, Vs.outB, K74.ite_ev, K74.itA_tup, K74.itA_lst, K74.itA_sq, K74.kit_ii, K74.kit_ib, K74.kit_bi, K74.kit_bb, K74.kit_ni, K74.kit_si, K74.kit_ti, K74.kit_li, K74.kit_di, K74.kit_tt, K74.kit_it, K74.kit_bt, K74.kit_nt, K74.kit_st, K74.kit_lt, K74.kit_dt, Vs.inn, Vs.lend, Vs.unl, Vs.unl1, Vs.fg, Vs.stE, Vs.tg1, Vs.tg2, Vs.ifE, Vs.yes, Vs.frz, Vs.lcAn, Vs.lcM, Vs.allD, Vs.itsL, Vs.lstB, Vs.lenD, Vs.its, Vs.leD, Vs.ltD, Vs.gtD, Vs.geD, Vs.int2, Vs.fB, Vs.fI, Vs.addD, Vs.isI2, Vs.isT2, Vs.subD, Vs.catT, Vs.catL, Vs.ixD, Vs.ixO, Vs.forA, Vs.forR1, Vs.forR2, Vs.forL, Vs.stp, Vs.stp2, Vs.meV, Vs.mutV, Vs.vL, Vs.gExt, Vs.gApp, Vs.lstF, Vs.tupE, Vs.slV, Vs.sl3, Vs.slD, Vs.tupD, Vs.sumD, Vs.absD, Vs.intD, Vs.lcR1, Vs.lcR2, Vs.lcL, Vs.forZ, Vs.zipD, Vs.repF, Vs.subS, Vs.gSet, Vs.ixV, Vs.eqD, Vs.neD, Vs.isnD, Vs.isbD, Vs.max2D, inR_int, h0, h1] at c2
  have hr : -4611686018427387904 ≤ t ∧ t < 4611686018427387904 := by omega
  obtain ⟨g1, g2⟩ := loop_gro K (sg := ID signs) (tm := .int t) h (rng 0 t) signs hv (by omega)
  rw [rng_length] at g1 g2
  cases e : gro rule t.toNat signs with
  | some r => simp [Vs.runP, Vs.runI, Vs.io0, Vs.retS, Vs.setS, Vs.setO, Vs.putS, Vs.lf, Vs.sq, Vs.nxt, Vs.ifS, Vs.bnd, Vs.ret, Vs.bad, Vs.opt, Vs.andE, Vs.orE, Vs.notE, Vs.asB, Vs.args, Vs.vV, Vs.vP, Vs.isD, Vs.isO, Vs.tyD, Vs.clD, Vs.kfB, Vs.cl, Vs.b2, Vs.ch, Vs.andT, Vs.orT, Vs.notT, Vs.dropS, Vs.exS, Vs.outB, K74.ite_ev, K74.itA_tup, K74.itA_lst, K74.itA_sq, K74.kit_ii, K74.kit_ib, K74.kit_bi, K74.kit_bb, K74.kit_ni, K74.kit_si, K74.kit_ti, K74.kit_li, K74.kit_di, K74.kit_tt, K74.kit_it, K74.kit_bt, K74.kit_nt, K74.kit_st, K74.kit_lt, K74.kit_dt, Vs.inn, Vs.lend, Vs.unl, Vs.unl1, Vs.fg, Vs.stE, Vs.tg1, Vs.tg2, Vs.ifE, Vs.yes, Vs.frz, Vs.lcAn, Vs.lcM, Vs.allD, Vs.itsL, Vs.lstB, Vs.lenD, Vs.its, Vs.leD, Vs.ltD, Vs.gtD, Vs.geD, Vs.int2, Vs.fB, Vs.fI, Vs.addD, Vs.isI2, Vs.isT2, Vs.subD, Vs.catT, Vs.catL, Vs.ixD, Vs.ixO, Vs.forA, Vs.forR1, Vs.forR2, Vs.forL, Vs.stp, Vs.stp2, Vs.meV, Vs.mutV, Vs.vL, Vs.gExt, Vs.gApp, Vs.lstF, Vs.tupE, Vs.slV, Vs.sl3, Vs.slD, Vs.tupD, Vs.sumD, Vs.absD, Vs.intD, Vs.lcR1, Vs.lcR2, Vs.lcL, Vs.forZ, Vs.zipD, Vs.repF, Vs.subS, Vs.gSet, Vs.ixV, Vs.eqD, Vs.neD, Vs.isnD, Vs.isbD, Vs.max2D, r_grow_often, m_grow_often, c1, c2, hr, g1 r e]
  | none =>
    obtain ⟨ev, e2⟩ := g2 e
    simp [Vs.runP, Vs.runI, Vs.io0, Vs.retS, Vs.setS, Vs.setO, Vs.putS, Vs.lf, Vs.sq, Vs.nxt, Vs.ifS, Vs.bnd, Vs.ret, Vs.bad, Vs.opt, Vs.andE, Vs.orE, Vs.notE, Vs.asB, Vs.args, Vs.vV, Vs.vP, Vs.isD, Vs.isO, Vs.tyD, Vs.clD, Vs.kfB, Vs.cl, Vs.b2, Vs.ch, Vs.andT, Vs.orT, Vs.notT, Vs.dropS, Vs.exS, Vs.outB, K74.ite_ev, K74.itA_tup, K74.itA_lst, K74.itA_sq, K74.kit_ii, K74.kit_ib, K74.kit_bi, K74.kit_bb, K74.kit_ni, K74.kit_si, K74.kit_ti, K74.kit_li, K74.kit_di, K74.kit_tt, K74.kit_it, K74.kit_bt, K74.kit_nt, K74.kit_st, K74.kit_lt, K74.kit_dt, Vs.inn, Vs.lend, Vs.unl, Vs.unl1, Vs.fg, Vs.stE, Vs.tg1, Vs.tg2, Vs.ifE, Vs.yes, Vs.frz, Vs.lcAn, Vs.lcM, Vs.allD, Vs.itsL, Vs.lstB, Vs.lenD, Vs.its, Vs.leD, Vs.ltD, Vs.gtD, Vs.geD, Vs.int2, Vs.fB, Vs.fI, Vs.addD, Vs.isI2, Vs.isT2, Vs.subD, Vs.catT, Vs.catL, Vs.ixD, Vs.ixO, Vs.forA, Vs.forR1, Vs.forR2, Vs.forL, Vs.stp, Vs.stp2, Vs.meV, Vs.mutV, Vs.vL, Vs.gExt, Vs.gApp, Vs.lstF, Vs.tupE, Vs.slV, Vs.sl3, Vs.slD, Vs.tupD, Vs.sumD, Vs.absD, Vs.intD, Vs.lcR1, Vs.lcR2, Vs.lcL, Vs.forZ, Vs.zipD, Vs.repF, Vs.subS, Vs.gSet, Vs.ixV, Vs.eqD, Vs.neD, Vs.isnD, Vs.isbD, Vs.max2D, r_grow_often, m_grow_often, c1, c2, hr, e2]
theorem grow_eq (K : PySem.W.Frag) {rule : List (List Int)} {signs : List Int} (h : RuOk rule) (hv : Vd rule.length signs) (hl : signs.length ≤ 400) : r_grow K [RD rule, ID signs] = .ok (ID (grw rule signs)) [] := by
  have c1 := check_signs_eq K h.Plr (Pls_ID (ns := signs) (by rw [big_eq]; omega))
  rw [h.isRu, lenD0_RD, sgD_ID hv (by omega)] at c1
  simp [Vs.runP, Vs.runI, Vs.io0, Vs.retS, Vs.setS, Vs.setO, Vs.putS, Vs.lf, Vs.sq, Vs.nxt, Vs.ifS, Vs.bnd, Vs.ret, Vs.bad, Vs.opt, Vs.andE, Vs.orE, Vs.notE, Vs.asB, Vs.args, Vs.vV, Vs.vP, Vs.isD, Vs.isO, Vs.tyD, Vs.clD, Vs.kfB, Vs.cl, Vs.b2, Vs.ch, Vs.andT, Vs.orT, Vs.notT, Vs.dropS, Vs.exS, Vs.outB, K74.ite_ev, K74.itA_tup, K74.itA_lst, K74.itA_sq, K74.kit_ii, K74.kit_ib, K74.kit_bi, K74.kit_bb, K74.kit_ni, K74.kit_si, K74.kit_ti, K74.kit_li, K74.kit_di, K74.kit_tt, K74.kit_it, K74.kit_bt, K74.kit_nt, K74.kit_st, K74.kit_lt, K74.kit_dt, Vs.inn, Vs.lend, Vs.unl, Vs.unl1, Vs.fg, Vs.stE, Vs.tg1, Vs.tg2, Vs.ifE, Vs.yes, Vs.frz, Vs.lcAn, Vs.lcM, Vs.allD, Vs.itsL, Vs.lstB, Vs.lenD, Vs.its, Vs.leD, Vs.ltD, Vs.gtD, Vs.geD, Vs.int2, Vs.fB, Vs.fI, Vs.addD, Vs.isI2, Vs.isT2, Vs.subD, Vs.catT, Vs.catL, Vs.ixD, Vs.ixO, Vs.forA, Vs.forR1, Vs.forR2, Vs.forL, Vs.stp, Vs.stp2, Vs.meV, Vs.mutV, Vs.vL, Vs.gExt, Vs.gApp, Vs.lstF, Vs.tupE, Vs.slV, Vs.sl3, Vs.slD, Vs.tupD, Vs.sumD, Vs.absD, Vs.intD, Vs.lcR1, Vs.lcR2, Vs.lcL, Vs.forZ, Vs.zipD, Vs.repF, Vs.subS, Vs.gSet, Vs.ixV, Vs.eqD, Vs.neD, Vs.isnD, Vs.isbD, Vs.max2D] at c1
  simp [Vs.runP, Vs.runI, Vs.io0, Vs.retS, Vs.setS, Vs.setO, Vs.putS, Vs.lf, Vs.sq, Vs.nxt, Vs.ifS, Vs.bnd, Vs.ret, Vs.bad, Vs.opt, Vs.andE, Vs.orE, Vs.notE, Vs.asB, Vs.args, Vs.vV, Vs.vP, Vs.isD, Vs.isO, Vs.tyD, Vs.clD, Vs.kfB, Vs.cl, Vs.b2, Vs.ch, Vs.andT, Vs.orT, Vs.notT, Vs.dropS, Vs.exS, Vs.outB, K74.ite_ev, K74.itA_tup, K74.itA_lst, K74.itA_sq, K74.kit_ii, K74.kit_ib, K74.kit_bi, K74.kit_bb, K74.kit_ni, K74.kit_si, K74.kit_ti, K74.kit_li, K74.kit_di, K74.kit_tt, K74.kit_it, K74.kit_bt, K74.kit_nt, K74.kit_st, K74.kit_lt, K74.kit_dt, Vs.inn, Vs.lend, Vs.unl, Vs.unl1, Vs.fg, Vs.stE, Vs.tg1, Vs.tg2, Vs.ifE, Vs.yes, Vs.frz, Vs.lcAn, Vs.lcM, Vs.allD, Vs.itsL, Vs.lstB, Vs.lenD, Vs.its, Vs.leD, Vs.ltD, Vs.gtD, Vs.geD, Vs.int2, Vs.fB, Vs.fI, Vs.addD, Vs.isI2, Vs.isT2, Vs.subD, Vs.catT, Vs.catL, Vs.ixD, Vs.ixO, Vs.forA, Vs.forR1, Vs.forR2, Vs.forL, Vs.stp, Vs.stp2, Vs.meV, Vs.mutV, Vs.vL, Vs.gExt, Vs.gApp, Vs.lstF, Vs.tupE, Vs.slV, Vs.sl3, Vs.slD, Vs.tupD, Vs.sumD, Vs.absD, Vs.intD, Vs.lcR1, Vs.lcR2, Vs.lcL, Vs.forZ, Vs.zipD, Vs.repF, Vs.subS, Vs.gSet, Vs.ixV, Vs.eqD, Vs.neD, Vs.isnD, Vs.isbD, Vs.max2D, r_grow, m_grow, c1, raw_grow_eq K h hv (by omega)]
/-! ### counts -/
def LD (ns : List Int) : D := .lst (ns.map .int)
def addAt (f : List Int) (s m : Int) : List Int := f.set (s - 1).toNat (f.getD (s - 1).toNat 0 + m)
def addW (f : List Int) (w : List Int) (m : Int) : List Int := w.foldl (fun f s => addAt f s m) f
def cgr (rule : List (List Int)) (counts : List Int) : List Int := (rule.zip counts).foldl (fun f p => addW f p.1 p.2) (List.replicate rule.length 0)
theorem addAt_len {f : List Int} {s m : Int} : (addAt f s m).length = f.length := by simp [Vs.runP, Vs.runI, Vs.io0, Vs.retS, Vs.setS, Vs.setO, Vs.putS, Vs.lf, Vs.sq, Vs.nxt, Vs.ifS, Vs.bnd, Vs.ret, Vs.bad, Vs.opt, Vs.andE, Vs.orE, Vs.notE, Vs.asB, Vs.args, Vs.vV, Vs.vP, Vs.isD, Vs.isO, Vs.tyD, Vs.clD, Vs.kfB, Vs.cl, Vs.b2, Vs.ch, Vs.andT, Vs.orT, Vs.notT, Vs.dropS, Vs.exS, Vs.outB, K74.ite_ev, K74.itA_tup, K74.itA_lst, K74.itA_sq, K74.kit_ii, K74.kit_ib, K74.kit_bi, K74.kit_bb, K74.kit_ni, K74.kit_si, K74.kit_ti, K74.kit_li, K74.kit_di, K74.kit_tt, K74.kit_it, K74.kit_bt, K74.kit_nt, K74.kit_st, K74.kit_lt, K74.kit_dt, Vs.inn, Vs.lend, Vs.unl, Vs.unl1, Vs.fg, Vs.stE, Vs.tg1, Vs.tg2, Vs.ifE, Vs.yes, Vs.frz, Vs.lcAn, Vs.lcM, Vs.allD, Vs.itsL, Vs.lstB, Vs.lenD, Vs.its, Vs.leD, Vs.ltD, Vs.gtD, Vs.geD, Vs.int2, Vs.fB, Vs.fI, Vs.addD, Vs.isI2, Vs.isT2, Vs.subD, Vs.catT, Vs.catL, Vs.ixD, Vs.ixO, Vs.forA, Vs.forR1, Vs.forR2, Vs.forL, Vs.stp, Vs.stp2, Vs.meV, Vs.mutV, Vs.vL, Vs.gExt, Vs.gApp, Vs.lstF, Vs.tupE, Vs.slV, Vs.sl3, Vs.slD, Vs.tupD, Vs.sumD, Vs.absD, Vs.intD, Vs.lcR1, Vs.lcR2, Vs.lcL, Vs.forZ, Vs.zipD, Vs.repF, Vs.subS, Vs.gSet, Vs.ixV, Vs.eqD, Vs.neD, Vs.isnD, Vs.isbD, Vs.max2D, addAt]
theorem addW_len {m : Int} : ∀ {w f : List Int}, (addW f w m).length = f.length
  | [], f => rfl
  | s :: w, f => by
    unfold addW
    rw [List.foldl_cons]
    exact (addW_len (w := w)).trans addAt_len
theorem ixN_in {n : Nat} {s : Int} (h1 : 1 ≤ s) (h2 : s ≤ (n : Int)) : ixN n (s - 1) = some (s - 1).toNat := by
  unfold ixN
  rw [if_pos (by omega), if_pos (by omega)]
theorem addW_loop (K : PySem.W.Frag) {e0 e1 e3 : Sl} {m : Int} : ∀ (w f : List Int), Vd f.length w →
    loop [5] (lp_counts_grown_0 K) (w.map .int) [e0, e1, .ol (f.map .int), e3, .sh (.int m), .no] = .nx [e0, e1, .ol ((addW f w m).map .int), e3, .sh (.int m), .no]
  | [], f, _ => rfl
  | s :: w, f, hv => by
    obtain ⟨h1, h2⟩ := hv s (List.mem_cons_self ..)
    have hl : (s - 1).toNat < f.length := by omega
    have e : lp_counts_grown_0 K (.int s) [e0, e1, .ol (f.map .int), e3, .sh (.int m), .no] = .nx [e0, e1, .ol ((addAt f s m).map .int), e3, .sh (.int m), .sh (.int s)] := by
      obtain ⟨hl', q⟩ := atI_in (xs := f.map D.int) h1 (by simpa [Vs.runP, Vs.runI, Vs.io0, Vs.retS, Vs.setS, Vs.setO, Vs.putS, Vs.lf, Vs.sq, Vs.nxt, Vs.ifS, Vs.bnd, Vs.ret, Vs.bad, Vs.opt, Vs.andE, Vs.orE, Vs.notE, Vs.asB, Vs.args, Vs.vV, Vs.vP, Vs.isD, Vs.isO, Vs.tyD, Vs.clD, Vs.kfB, Vs.cl, Vs.b2, Vs.ch, Vs.andT, Vs.orT, Vs.notT, Vs.dropS, Vs.exS, Vs.outB, K74.ite_ev, K74.itA_tup, K74.itA_lst, K74.itA_sq, K74.kit_ii, K74.kit_ib, K74.kit_bi, K74.kit_bb, K74.kit_ni, K74.kit_si, K74.kit_ti, K74.kit_li, K74.kit_di, K74.kit_tt, K74.kit_it, K74.kit_bt, K74.kit_nt, K74.kit_st, K74.kit_lt, K74.kit_dt, Vs.inn, Vs.lend, Vs.unl, Vs.unl1, Vs.fg, Vs.stE, Vs.tg1, Vs.tg2, Vs.ifE, Vs.yes, Vs.frz, Vs.lcAn, Vs.lcM, Vs.allD, Vs.itsL, Vs.lstB, Vs.lenD, Vs.its, Vs.leD, Vs.ltD, Vs.gtD, Vs.geD, Vs.int2, Vs.fB, Vs.fI, Vs.addD, Vs.isI2, Vs.isT2, Vs.subD, Vs.catT, Vs.catL, Vs.ixD, Vs.ixO, Vs.forA, Vs.forR1, Vs.forR2, Vs.forL, Vs.stp, Vs.stp2, Vs.meV, Vs.mutV, Vs.vL, Vs.gExt, Vs.gApp, Vs.lstF, Vs.tupE, Vs.slV, Vs.sl3, Vs.slD, Vs.tupD, Vs.sumD, Vs.absD, Vs.intD, Vs.lcR1, Vs.lcR2, Vs.lcL, Vs.forZ, Vs.zipD, Vs.repF, Vs.subS, Vs.gSet, Vs.ixV, Vs.eqD, Vs.neD, Vs.isnD, Vs.isbD, Vs.max2D] using h2)
      have q2 := ixN_in (n := f.length) h1 h2
      simp [Vs.runP, Vs.runI, Vs.io0, Vs.retS, Vs.setS, Vs.setO, Vs.putS, Vs.lf, Vs.sq, Vs.nxt, Vs.ifS, Vs.bnd, Vs.ret, Vs.bad, Vs.opt, Vs.andE, Vs.orE, Vs.notE, Vs.asB, Vs.args, Vs.vV, Vs.vP, Vs.isD, Vs.isO, Vs.tyD, Vs.clD, Vs.kfB, Vs.cl, Vs.b2, Vs.ch, Vs.andT, Vs.orT, Vs.notT, Vs.dropS, Vs.exS, Vs.outB, K74.ite_ev, K74.itA_tup, K74.itA_lst, K74.itA_sq, K74.kit_ii, K74.kit_ib, K74.kit_bi, K74.kit_bb, K74.kit_ni, K74.kit_si, K74.kit_ti, K74.kit_li, K74.kit_di, K74.kit_tt, K74.kit_it, K74.kit_bt, K74.kit_nt, K74.kit_st, K74.kit_lt, K74.kit_dt, Vs.inn, Vs.lend, Vs.unl, Vs.unl1, Vs.fg, Vs.stE, Vs.tg1, Vs.tg2, Vs.ifE, Vs.yes, Vs.frz, Vs.lcAn, Vs.lcM, Vs.allD, Vs.itsL, Vs.lstB, Vs.lenD, Vs.its, Vs.leD, Vs.ltD, Vs.gtD, Vs.geD, Vs.int2, Vs.fB, Vs.fI, Vs.addD, Vs.isI2, Vs.isT2, Vs.subD, Vs.catT, Vs.catL, Vs.ixD, Vs.ixO, Vs.forA, Vs.forR1, Vs.forR2, Vs.forL, Vs.stp, Vs.stp2, Vs.meV, Vs.mutV, Vs.vL, Vs.gExt, Vs.gApp, Vs.lstF, Vs.tupE, Vs.slV, Vs.sl3, Vs.slD, Vs.tupD, Vs.sumD, Vs.absD, Vs.intD, Vs.lcR1, Vs.lcR2, Vs.lcL, Vs.forZ, Vs.zipD, Vs.repF, Vs.subS, Vs.gSet, Vs.ixV, Vs.eqD, Vs.neD, Vs.isnD, Vs.isbD, Vs.max2D, lp_counts_grown_0, q, q2]
      have hl2 : s.toNat - 1 < f.length := by omega
      simp [Vs.runP, Vs.runI, Vs.io0, Vs.retS, Vs.setS, Vs.setO, Vs.putS, Vs.lf, Vs.sq, Vs.nxt, Vs.ifS, Vs.bnd, Vs.ret, Vs.bad, Vs.opt, Vs.andE, Vs.orE, Vs.notE, Vs.asB, Vs.args, Vs.vV, Vs.vP, Vs.isD, Vs.isO, Vs.tyD, Vs.clD, Vs.kfB, Vs.cl, Vs.b2, Vs.ch, Vs.andT, Vs.orT, Vs.notT, Vs.dropS, Vs.exS, Vs.outB, K74.ite_ev, K74.itA_tup, K74.itA_lst, K74.itA_sq, K74.kit_ii, K74.kit_ib, K74.kit_bi, K74.kit_bb, K74.kit_ni, K74.kit_si, K74.kit_ti, K74.kit_li, K74.kit_di, K74.kit_tt, K74.kit_it, K74.kit_bt, K74.kit_nt, K74.kit_st, K74.kit_lt, K74.kit_dt, Vs.inn, Vs.lend, Vs.unl, Vs.unl1, Vs.fg, Vs.stE, Vs.tg1, Vs.tg2, Vs.ifE, Vs.yes, Vs.frz, Vs.lcAn, Vs.lcM, Vs.allD, Vs.itsL, Vs.lstB, Vs.lenD, Vs.its, Vs.leD, Vs.ltD, Vs.gtD, Vs.geD, Vs.int2, Vs.fB, Vs.fI, Vs.addD, Vs.isI2, Vs.isT2, Vs.subD, Vs.catT, Vs.catL, Vs.ixD, Vs.ixO, Vs.forA, Vs.forR1, Vs.forR2, Vs.forL, Vs.stp, Vs.stp2, Vs.meV, Vs.mutV, Vs.vL, Vs.gExt, Vs.gApp, Vs.lstF, Vs.tupE, Vs.slV, Vs.sl3, Vs.slD, Vs.tupD, Vs.sumD, Vs.absD, Vs.intD, Vs.lcR1, Vs.lcR2, Vs.lcL, Vs.forZ, Vs.zipD, Vs.repF, Vs.subS, Vs.gSet, Vs.ixV, Vs.eqD, Vs.neD, Vs.isnD, Vs.isbD, Vs.max2D, addAt, List.map_set, hl2, List.getD_eq_getElem?_getD]
    unfold loop
    rw [List.map_cons]
    simp only
    rw [e]
    exact addW_loop K w (addAt f s m) (by rw [addAt_len]; exact fun x hx => hv x (List.mem_cons_of_mem _ hx))

theorem zip_map {rule : List (List Int)} {cs : List Int} : zipD (rule.map ID) (cs.map .int) = (rule.zip cs).map fun p => .tup [ID p.1, .int p.2] := by
  simp only [zipD, List.zipWith_map, List.zip, List.map_zipWith]
theorem cg_loop (K : PySem.W.Frag) {e0 e1 : Sl} : ∀ (ps : List (List Int × Int)) (f : List Int), (∀ p ∈ ps, Vd f.length p.1) →
    loop [3, 4, 5] (lp_counts_grown_1 K) (ps.map fun p => .tup [ID p.1, .int p.2]) [e0, e1, .ol (f.map .int), .no, .no, .no] = .nx [e0, e1, .ol ((ps.foldl (fun f p => addW f p.1 p.2) f).map .int), .no, .no, .no]
  | [], f, _ => rfl
  | p :: ps, f, hv => by
    have e1' : itA (ID p.1) = some (p.1.map .int) := rfl
    have e : lp_counts_grown_1 K (.tup [ID p.1, .int p.2]) [e0, e1, .ol (f.map .int), .no, .no, .no] = .nx [e0, e1, .ol ((addW f p.1 p.2).map .int), .sh (ID p.1), .sh (.int p.2), .no] := by
      have := addW_loop K (e0 := e0) (e1 := e1) (e3 := .sh (ID p.1)) (m := p.2) p.1 f (hv p (List.mem_cons_self ..))
      simp [Vs.runP, Vs.runI, Vs.io0, Vs.retS, Vs.setS, Vs.setO, Vs.putS, Vs.lf, Vs.sq, Vs.nxt, Vs.ifS, Vs.bnd, Vs.ret, Vs.bad, Vs.opt, Vs.andE, Vs.orE, Vs.notE, Vs.asB, Vs.args, Vs.vV, Vs.vP, Vs.isD, Vs.isO, Vs.tyD, Vs.clD, Vs.kfB, Vs.cl, Vs.b2, Vs.ch, Vs.andT, Vs.orT, Vs.notT, Vs.dropS, Vs.exS, Vs.outB, K74.ite_ev, K74.itA_tup, K74.itA_lst, K74.itA_sq, K74.kit_ii, K74.kit_ib, K74.kit_bi, K74.kit_bb, K74.kit_ni, K74.kit_si, K74.kit_ti, K74.kit_li, K74.kit_di, K74.kit_tt, K74.kit_it, K74.kit_bt, K74.kit_nt, K74.kit_st, K74.kit_lt, K74.kit_dt, Vs.inn, Vs.lend, Vs.unl, Vs.unl1, Vs.fg, Vs.stE, Vs.tg1, Vs.tg2, Vs.ifE, Vs.yes, Vs.frz, Vs.lcAn, Vs.lcM, Vs.allD, Vs.itsL, Vs.lstB, Vs.lenD, Vs.its, Vs.leD, Vs.ltD, Vs.gtD, Vs.geD, Vs.int2, Vs.fB, Vs.fI, Vs.addD, Vs.isI2, Vs.isT2, Vs.subD, Vs.catT, Vs.catL, Vs.ixD, Vs.ixO, Vs.forA, Vs.forR1, Vs.forR2, Vs.forL, Vs.stp, Vs.stp2, Vs.meV, Vs.mutV, Vs.vL, Vs.gExt, Vs.gApp, Vs.lstF, Vs.tupE, Vs.slV, Vs.sl3, Vs.slD, Vs.tupD, Vs.sumD, Vs.absD, Vs.intD, Vs.lcR1, Vs.lcR2, Vs.lcL, Vs.forZ, Vs.zipD, Vs.repF, Vs.subS, Vs.gSet, Vs.ixV, Vs.eqD, Vs.neD, Vs.isnD, Vs.isbD, Vs.max2D, lp_counts_grown_1, e1', this]
    unfold loop
    rw [List.map_cons]
    simp only
    rw [e]
    simp only [List.foldl_cons]
    exact cg_loop K ps (addW f p.1 p.2) (by rw [addW_len]; exact fun x hx => hv x (List.mem_cons_of_mem _ hx))
theorem zip_vd {rule : List (List Int)} (h : RuOk rule) {cs : List Int} {n : Nat} (hn : n = rule.length) : ∀ p ∈ rule.zip cs, Vd n p.1 := fun p hp => by
  subst hn
  exact fun s hs => h.let_ p.1 (List.of_mem_zip hp).1 s hs
theorem repl_flat {n : Nat} : (List.replicate n [D.int 0]).flatten = List.replicate n (D.int 0) := by
  induction n with
  | zero => rfl
  | succ n ih => rw [List.replicate_succ, List.flatten_cons, ih]; rfl
theorem rep0 {n : Nat} {f : M D} {ev : Ev} (hf : f ev = .ok (.int n) ev) (h : n ≤ 1000) : repF (frz (lstF (args [Vs.ret (.int 0)]))) f ev = .ok (List.replicate n (.int 0)) ev := by
  have b1 : 1 ≤ big := by rw [big_eq]; omega
  have b2 : 1 * n ≤ big := by rw [big_eq]; omega
  have e1 : frz (lstF (args [Vs.ret (.int 0)])) ev = .ok (.lst [.int 0]) ev := by
    simp only [frz, lstF, args, bnd, Vs.ret, List.length_cons, List.length_nil]
    rw [if_pos b1]
    rfl
  unfold repF
  simp only [bnd]
  rw [e1]
  simp only
  rw [hf]
  simp only
  rw [if_pos ⟨by omega, by omega, by simpa [Vs.runP, Vs.runI, Vs.io0, Vs.retS, Vs.setS, Vs.setO, Vs.putS, Vs.lf, Vs.sq, Vs.nxt, Vs.ifS, Vs.bnd, Vs.ret, Vs.bad, Vs.opt, Vs.andE, Vs.orE, Vs.notE, Vs.asB, Vs.args, Vs.vV, Vs.vP, Vs.isD, Vs.isO, Vs.tyD, Vs.clD, Vs.kfB, Vs.cl, Vs.b2, Vs.ch, Vs.andT, Vs.orT, Vs.notT, Vs.dropS, Vs.exS, Vs.outB, K74.ite_ev, K74.itA_tup, K74.itA_lst, K74.itA_sq, K74.kit_ii, K74.kit_ib, K74.kit_bi, K74.kit_bb, K74.kit_ni, K74.kit_si, K74.kit_ti, K74.kit_li, K74.kit_di, K74.kit_tt, K74.kit_it, K74.kit_bt, K74.kit_nt, K74.kit_st, K74.kit_lt, K74.kit_dt, Vs.inn, Vs.lend, Vs.unl, Vs.unl1, Vs.fg, Vs.stE, Vs.tg1, Vs.tg2, Vs.ifE, Vs.yes, Vs.frz, Vs.lcAn, Vs.lcM, Vs.allD, Vs.itsL, Vs.lstB, Vs.lenD, Vs.its, Vs.leD, Vs.ltD, Vs.gtD, Vs.geD, Vs.int2, Vs.fB, Vs.fI, Vs.addD, Vs.isI2, Vs.isT2, Vs.subD, Vs.catT, Vs.catL, Vs.ixD, Vs.ixO, Vs.forA, Vs.forR1, Vs.forR2, Vs.forL, Vs.stp, Vs.stp2, Vs.meV, Vs.mutV, Vs.vL, Vs.gExt, Vs.gApp, Vs.lstF, Vs.tupE, Vs.slV, Vs.sl3, Vs.slD, Vs.tupD, Vs.sumD, Vs.absD, Vs.intD, Vs.lcR1, Vs.lcR2, Vs.lcL, Vs.forZ, Vs.zipD, Vs.repF, Vs.subS, Vs.gSet, Vs.ixV, Vs.eqD, Vs.neD, Vs.isnD, Vs.isbD, Vs.max2D] using b2⟩]
  simp only [Vs.ret, Int.toNat_natCast, repl_flat]
theorem cg_gen (K : PySem.W.Frag) {x y : D} {ev1 ev2 : Ev} {zs rs : List D} (e1 : repF (frz (lstF (args [Vs.ret (.int 0)]))) (bnd (vP 0) lenD) [.sh x, .sh y, .no, .no, .no, .no] = .ok zs ev1)
    (e2 : forZ [3, 4, 5] (vV 0) (vV 1) (lp_counts_grown_1 K) (ev1.set 2 (.ol zs)) = .nx ev2) (e3 : ev2[2]? = some (.ol rs)) : r_counts_grown K [x, y] = .ok (.lst rs) [] := by
  have a1 : setO 2 (repF (frz (lstF (args [Vs.ret (.int 0)]))) (bnd (vP 0) lenD)) [.sh x, .sh y, .no, .no, .no, .no] = .nx (ev1.set 2 (.ol zs)) := by
    unfold setO lf
    rw [e1]
  have a2 : retS (vV 2) ev2 = .rt (.lst rs) (ev2.set 2 (.sh (.lst rs))) := by
    unfold retS lf vV
    rw [e3]
  unfold r_counts_grown runP m_counts_grown sq
  simp only [List.map_cons, List.map_nil, List.replicate, List.cons_append, List.nil_append, a1, e2, a2]
theorem cg_eq (K : PySem.W.Frag) {rule : List (List Int)} {cs : List Int} (h : RuOk rule) : r_counts_grown K [RD rule, LD cs] = .ok (LD (cgr rule cs)) [] := by
  have hl := h.hi
  have L := cg_loop K (e0 := .sh (RD rule)) (e1 := .sh (LD cs)) (rule.zip cs) (List.replicate rule.length 0) (zip_vd h (by simp [Vs.runP, Vs.runI, Vs.io0, Vs.retS, Vs.setS, Vs.setO, Vs.putS, Vs.lf, Vs.sq, Vs.nxt, Vs.ifS, Vs.bnd, Vs.ret, Vs.bad, Vs.opt, Vs.andE, Vs.orE, Vs.notE, Vs.asB, Vs.args, Vs.vV, Vs.vP, Vs.isD, Vs.isO, Vs.tyD, Vs.clD, Vs.kfB, Vs.cl, Vs.b2, Vs.ch, Vs.andT, Vs.orT, Vs.notT, Vs.dropS, Vs.exS, Vs.outB, K74.ite_ev, K74.itA_tup, K74.itA_lst, K74.itA_sq, K74.kit_ii, K74.kit_ib, K74.kit_bi, K74.kit_bb, K74.kit_ni, K74.kit_si, K74.kit_ti, K74.kit_li, K74.kit_di, K74.kit_tt, K74.kit_it, K74.kit_bt, K74.kit_nt, K74.kit_st, K74.kit_lt, K74.kit_dt, Vs.inn, Vs.lend, Vs.unl, Vs.unl1, Vs.fg, Vs.stE, Vs.tg1, Vs.tg2, Vs.ifE, Vs.yes, Vs.frz, Vs.lcAn, Vs.lcM, Vs.allD, Vs.itsL, Vs.lstB, Vs.lenD, Vs.its, Vs.leD, Vs.ltD, Vs.gtD, Vs.geD, Vs.int2, Vs.fB, Vs.fI, Vs.addD, Vs.isI2, Vs.isT2, Vs.subD, Vs.catT, Vs.catL, Vs.ixD, Vs.ixO, Vs.forA, Vs.forR1, Vs.forR2, Vs.forL, Vs.stp, Vs.stp2, Vs.meV, Vs.mutV, Vs.vL, Vs.gExt, Vs.gApp, Vs.lstF, Vs.tupE, Vs.slV, Vs.sl3, Vs.slD, Vs.tupD, Vs.sumD, Vs.absD, Vs.intD, Vs.lcR1, Vs.lcR2, Vs.lcL, Vs.forZ, Vs.zipD, Vs.repF, Vs.subS, Vs.gSet, Vs.ixV, Vs.eqD, Vs.neD, Vs.isnD, Vs.isbD, Vs.max2D]))
  rw [← zip_map] at L
  simp only [List.map_replicate] at L
  refine cg_gen K (ev1 := [.sh (RD rule), .sh (LD cs), .no, .no, .no, .no]) (zs := List.replicate rule.length (.int 0)) (ev2 := [.sh (RD rule), .sh (LD cs), .ol ((cgr rule cs).map .int), .no, .no, .no]) (rep0 (by simp [Vs.runP, Vs.runI, Vs.io0, Vs.retS, Vs.setS, Vs.setO, Vs.putS, Vs.lf, Vs.sq, Vs.nxt, Vs.ifS, Vs.bnd, Vs.ret, Vs.bad, Vs.opt, Vs.andE, Vs.orE, Vs.notE, Vs.asB, Vs.args, Vs.vV, Vs.vP, Vs.isD, Vs.isO, Vs.tyD, Vs.clD, Vs.kfB, Vs.cl, Vs.b2, Vs.ch, Vs.andT, Vs.orT, Vs.notT, Vs.dropS, Vs.exS, Vs.outB, K74.ite_ev, K74.itA_tup, K74.itA_lst, K74.itA_sq, K74.kit_ii, K74.kit_ib, K74.kit_bi, K74.kit_bb, K74.kit_ni, K74.kit_si, K74.kit_ti, K74.kit_li, K74.kit_di, K74.kit_tt, K74.kit_it, K74.kit_bt, K74.kit_nt, K74.kit_st, K74.kit_lt, K74.kit_dt, Vs.inn, Vs.lend, Vs.unl, Vs.unl1, Vs.fg, Vs.stE, Vs.tg1, Vs.tg2, Vs.ifE, Vs.yes, Vs.frz, Vs.lcAn, Vs.lcM, Vs.allD, Vs.itsL, Vs.lstB, Vs.lenD, Vs.its, Vs.leD, Vs.ltD, Vs.gtD, Vs.geD, Vs.int2, Vs.fB, Vs.fI, Vs.addD, Vs.isI2, Vs.isT2, Vs.subD, Vs.catT, Vs.catL, Vs.ixD, Vs.ixO, Vs.forA, Vs.forR1, Vs.forR2, Vs.forL, Vs.stp, Vs.stp2, Vs.meV, Vs.mutV, Vs.vL, Vs.gExt, Vs.gApp, Vs.lstF, Vs.tupE, Vs.slV, Vs.sl3, Vs.slD, Vs.tupD, Vs.sumD, Vs.absD, Vs.intD, Vs.lcR1, Vs.lcR2, Vs.lcL, Vs.forZ, Vs.zipD, Vs.repF, Vs.subS, Vs.gSet, Vs.ixV, Vs.eqD, Vs.neD, Vs.isnD, Vs.isbD, Vs.max2D, RD]) (by omega)) ?_ rfl
  unfold forZ lf vV
  simp only [List.set_cons_succ, List.set_cons_zero, List.getElem?_cons_zero, List.getElem?_cons_succ]
  exact L

end K74
namespace K74
open PySem PySem.Spec PyProof.Rows L2 LamX NdefX HotX Vs






/-! ### runs, step by step -/
theorem loop_nil {cl : List Nat} {step : D → S} {ev : Ev} : loop cl step [] ev = .nx ev := rfl
theorem loop_cons {cl : List Nat} {step : D → S} {d : D} {ds : List D} {ev ev' : Ev} (h : step d ev = .nx ev') : loop cl step (d :: ds) ev = loop cl step ds (fg cl ev') := by
  rw [loop]
  simp only [h]
theorem loop_rt {cl : List Nat} {step : D → S} {d r : D} {ds : List D} {ev ev' : Ev} (h : step d ev = .rt r ev') : loop cl step (d :: ds) ev = .rt r ev' := by
  rw [loop]
  simp only [h]
theorem sq_nx {f g : S} {ev ev1 : Ev} (h : f ev = .nx ev1) : sq f g ev = g ev1 := by
  unfold sq
  rw [h]
theorem sq_rt {f g : S} {ev ev1 : Ev} {d : D} (h : f ev = .rt d ev1) : sq f g ev = .rt d ev1 := by
  unfold sq
  rw [h]
theorem sq_ex {f g : S} {ev ev1 : Ev} {C : Addr} {fs : List (Str × D)} (h : f ev = .ex C fs ev1) : sq f g ev = .ex C fs ev1 := by
  unfold sq
  rw [h]
theorem lf_ok {α : Type} {m : M α} {k : α → S} {ev ev1 : Ev} {a : α} (h : m ev = .ok a ev1) : lf m k ev = k a ev1 := by
  unfold lf
  rw [h]
theorem lf_ex {α : Type} {m : M α} {k : α → S} {ev ev1 : Ev} {C : Addr} {fs : List (Str × D)} (h : m ev = .ex C fs ev1) : lf m k ev = .ex C fs ev1 := by
  unfold lf
  rw [h]
theorem bnd_ok {α β : Type} {m : M α} {k : α → M β} {ev ev1 : Ev} {a : α} (h : m ev = .ok a ev1) : bnd m k ev = k a ev1 := by
  unfold bnd
  rw [h]
theorem setS_ok {i : Nat} {f : M D} {ev ev1 : Ev} {d : D} (h : f ev = .ok d ev1) : setS i f ev = .nx (ev1.set i (.sh d)) := lf_ok h
theorem setO_ok {i : Nat} {f : M (List D)} {ev ev1 : Ev} {d : List D} (h : f ev = .ok d ev1) : setO i f ev = .nx (ev1.set i (.ol d)) := lf_ok h
theorem retS_ok {f : M D} {ev ev1 : Ev} {d : D} (h : f ev = .ok d ev1) : retS f ev = .rt d ev1 := lf_ok h
theorem dropS_ok {f : M D} {ev ev1 : Ev} {d : D} (h : f ev = .ok d ev1) : dropS f ev = .nx ev1 := lf_ok h
theorem ifS_ok {c : M Bool} {a b : S} {ev ev1 : Ev} {k : Bool} (h : c ev = .ok k ev1) : ifS c a b ev = if k then a ev1 else b ev1 := by
  unfold ifS
  rw [lf_ok h]
  split <;> rfl
theorem frz_ok {f : M (List D)} {ev ev1 : Ev} {ds : List D} (h : f ev = .ok ds ev1) : frz f ev = .ok (.lst ds) ev1 := by
  unfold frz
  rw [bnd_ok h]
  rfl
theorem setF_ok {i : Nat} {f : M (List D)} {zs : List D} {ev ev1 : Ev} (h : f ev = .ok zs ev1) : setS i (frz f) ev = .nx (ev1.set i (.sh (.lst zs))) := setS_ok (frz_ok h)
theorem args_nil {ev : Ev} : args [] ev = .ok [] ev := rfl
theorem args_ok {f : M D} {fs : List (M D)} {ev ev1 ev2 : Ev} {d : D} {ds : List D} (h : f ev = .ok d ev1) (t : args fs ev1 = .ok ds ev2) : args (f :: fs) ev = .ok (d :: ds) ev2 := by
  show bnd f (fun x => bnd (args fs) fun xs => Vs.ret (x :: xs)) ev = _
  rw [bnd_ok h, bnd_ok t]
  rfl
theorem cl_ok {f : List D → Rc} {fs : M (List D)} {ev ev1 : Ev} {ds es : List D} {d : D} (h : fs ev = .ok ds ev1) (e : f ds = .ok d es) : cl f fs ev = .ok d ev1 := by
  unfold cl
  rw [bnd_ok h]
  simp only [e]
theorem cl_ex {f : List D → Rc} {fs : M (List D)} {ev ev1 : Ev} {ds es : List D} {C : Addr} {gs : List (Str × D)} (h : fs ev = .ok ds ev1) (e : f ds = .ex C gs es) : cl f fs ev = .ex C gs ev1 := by
  unfold cl
  rw [bnd_ok h]
  simp only [e]
theorem b2_ok {g : D → D → M D} {fa fb : M D} {ev ev1 ev2 : Ev} {x y : D} (h : fa ev = .ok x ev1) (h2 : fb ev1 = .ok y ev2) : b2 g fa fb ev = g x y ev2 := by
  unfold b2
  rw [bnd_ok h, bnd_ok h2]
theorem runP_rt {k : Nat} {body : S} {ds : List D} {d : D} {ev : Ev} (h : body (ds.map .sh ++ List.replicate k .no) = .rt d ev) : runP k body ds = .ok d [] := by
  unfold runP
  rw [h]
theorem runP_nx {k : Nat} {body : S} {ds : List D} {ev : Ev} (h : body (ds.map .sh ++ List.replicate k .no) = .nx ev) : runP k body ds = .ok .non [] := by
  unfold runP
  rw [h]
theorem runP_ex {k : Nat} {body : S} {ds : List D} {C : Addr} {fs : List (Str × D)} {ev : Ev} (h : body (ds.map .sh ++ List.replicate k .no) = .ex C fs ev) : runP k body ds = .ex C fs [] := by
  unfold runP
  rw [h]
theorem lcM_map {vs : List Nat} {st : D → M (Option D)} {g : D → D} {ds : List D} {ev : Ev} (hl : ds.length ≤ 1000000) (hs : ∀ d ∈ ds, inn vs (st d) (fg vs ev) = .ok (some (g d)) (fg vs ev)) : lcM vs st ds ev = .ok (ds.map g) (fg vs ev) := by
  have hb : ds.length ≤ big := by rw [big_eq]; omega
  unfold lcM
  rw [if_pos hb]
  exact lcA_map hs
theorem lcR1_map {vs : List Nat} {f : M D} {st : D → M (Option D)} {g : D → D} {n : Int} {ev : Ev} (hf : f ev = .ok (.int n) ev) (h0 : 0 ≤ n) (hn : n ≤ 100000) (hs : ∀ i : Int, 0 ≤ i → i < n → inn vs (st (.int i)) (fg vs ev) = .ok (some (g (.int i))) (fg vs ev)) : lcR1 vs f st ev = .ok ((rng 0 n).map g) (fg vs ev) := by
  unfold lcR1 bnd
  rw [hf]
  simp only
  rw [if_pos ⟨by omega, by omega⟩]
  refine lcM_map (by rw [rng_length]; omega) fun d hd => ?_
  unfold rng at hd
  obtain ⟨k, hk, rfl⟩ := List.mem_map.mp hd
  have := List.mem_range.mp hk
  exact hs _ (by omega) (by omega)
theorem rng_map {α : Type} {n : Int} {g : D → α} : (rng 0 n).map g = (List.range n.toNat).map fun (k : Nat) => g (.int k) := by
  unfold rng
  rw [List.map_map]
  simp only [Int.sub_zero]
  refine List.map_congr_left fun k _ => ?_
  simp [Vs.runP, Vs.runI, Vs.io0, Vs.retS, Vs.setS, Vs.setO, Vs.putS, Vs.lf, Vs.sq, Vs.nxt, Vs.ifS, Vs.bnd, Vs.ret, Vs.bad, Vs.opt, Vs.andE, Vs.orE, Vs.notE, Vs.asB, Vs.args, Vs.vV, Vs.vP, Vs.isD, Vs.isO, Vs.tyD, Vs.clD, Vs.kfB, Vs.cl, Vs.b2, Vs.ch, Vs.andT, Vs.orT, Vs.notT, Vs.dropS, Vs.exS, Vs.outB, K74.ite_ev, K74.itA_tup, K74.itA_lst, K74.itA_sq, K74.kit_ii, K74.kit_ib, K74.kit_bi, K74.kit_bb, K74.kit_ni, K74.kit_si, K74.kit_ti, K74.kit_li, K74.kit_di, K74.kit_tt, K74.kit_it, K74.kit_bt, K74.kit_nt, K74.kit_st, K74.kit_lt, K74.kit_dt, Vs.inn, Vs.lend, Vs.unl, Vs.unl1, Vs.fg, Vs.stE, Vs.tg1, Vs.tg2, Vs.ifE, Vs.yes, Vs.frz, Vs.lcAn, Vs.lcM, Vs.allD, Vs.itsL, Vs.lstB, Vs.lenD, Vs.its, Vs.leD, Vs.ltD, Vs.gtD, Vs.geD, Vs.int2, Vs.fB, Vs.fI, Vs.addD, Vs.isI2, Vs.isT2, Vs.subD, Vs.catT, Vs.catL, Vs.ixD, Vs.ixO, Vs.forA, Vs.forR1, Vs.forR2, Vs.forL, Vs.stp, Vs.stp2, Vs.meV, Vs.mutV, Vs.vL, Vs.gExt, Vs.gApp, Vs.lstF, Vs.tupE, Vs.slV, Vs.sl3, Vs.slD, Vs.tupD, Vs.sumD, Vs.absD, Vs.intD, Vs.lcR1, Vs.lcR2, Vs.lcL, Vs.forZ, Vs.zipD, Vs.repF, Vs.subS, Vs.gSet, Vs.ixV, Vs.eqD, Vs.neD, Vs.isnD, Vs.isbD, Vs.max2D]
def one0 (n : Nat) (s : Int) : List Int := (List.range n).map fun (j : Nat) => if (j : Int) = s - 1 then (1 : Int) else 0
def itc (rule : List (List Int)) : Nat → List Int → List Int
  | 0, v => v
  | n + 1, v => itc rule n (cgr rule v)
theorem rsg_step (K : PySem.W.Frag) {x y z k : D} {e1 e2 : Sl} (e : r_counts_grown K [x, y] = .ok z []) : lp_raw_signs_grown_1 K k [.sh x, e1, e2, .sh y, .no, .no] = .nx [.sh x, e1, e2, .sh z, .sh k, .no] := by
  simp [Vs.runP, Vs.runI, Vs.io0, Vs.retS, Vs.setS, Vs.setO, Vs.putS, Vs.lf, Vs.sq, Vs.nxt, Vs.ifS, Vs.bnd, Vs.ret, Vs.bad, Vs.opt, Vs.andE, Vs.orE, Vs.notE, Vs.asB, Vs.args, Vs.vV, Vs.vP, Vs.isD, Vs.isO, Vs.tyD, Vs.clD, Vs.kfB, Vs.cl, Vs.b2, Vs.ch, Vs.andT, Vs.orT, Vs.notT, Vs.dropS, Vs.exS, Vs.outB, K74.ite_ev, K74.itA_tup, K74.itA_lst, K74.itA_sq, K74.kit_ii, K74.kit_ib, K74.kit_bi, K74.kit_bb, K74.kit_ni, K74.kit_si, K74.kit_ti, K74.kit_li, K74.kit_di, K74.kit_tt, K74.kit_it, K74.kit_bt, K74.kit_nt, K74.kit_st, K74.kit_lt, K74.kit_dt, Vs.inn, Vs.lend, Vs.unl, Vs.unl1, Vs.fg, Vs.stE, Vs.tg1, Vs.tg2, Vs.ifE, Vs.yes, Vs.frz, Vs.lcAn, Vs.lcM, Vs.allD, Vs.itsL, Vs.lstB, Vs.lenD, Vs.its, Vs.leD, Vs.ltD, Vs.gtD, Vs.geD, Vs.int2, Vs.fB, Vs.fI, Vs.addD, Vs.isI2, Vs.isT2, Vs.subD, Vs.catT, Vs.catL, Vs.ixD, Vs.ixO, Vs.forA, Vs.forR1, Vs.forR2, Vs.forL, Vs.stp, Vs.stp2, Vs.meV, Vs.mutV, Vs.vL, Vs.gExt, Vs.gApp, Vs.lstF, Vs.tupE, Vs.slV, Vs.sl3, Vs.slD, Vs.tupD, Vs.sumD, Vs.absD, Vs.intD, Vs.lcR1, Vs.lcR2, Vs.lcL, Vs.forZ, Vs.zipD, Vs.repF, Vs.subS, Vs.gSet, Vs.ixV, Vs.eqD, Vs.neD, Vs.isnD, Vs.isbD, Vs.max2D, lp_raw_signs_grown_1, e]
theorem itc_loop (K : PySem.W.Frag) {rule : List (List Int)} {e1 e2 : Sl} (h : RuOk rule) : ∀ (ks : List D) (v : List Int), loop [4] (lp_raw_signs_grown_1 K) ks [.sh (RD rule), e1, e2, .sh (LD v), .no, .no] = .nx [.sh (RD rule), e1, e2, .sh (LD (itc rule ks.length v)), .no, .no]
  | [], v => rfl
  | k :: ks, v => by
    exact (loop_cons (rsg_step K (cg_eq K h))).trans (itc_loop K h ks (cgr rule v))
theorem forR1_ok {cl : List Nat} {f : M D} {step : D → S} {n : Int} {ev ev2 : Ev} (hf : f ev = .ok (.int n) ev) (h0 : 0 ≤ n) (hn : n ≤ 1000000) (hl : loop cl step (rng 0 n) ev = .nx ev2) : forR1 cl f step ev = .nx ev2 := by
  unfold forR1 lf
  rw [hf]
  simp only
  rw [if_pos ⟨by omega, by omega⟩]
  exact hl
theorem el_rsg (K : PySem.W.Frag) {x t : D} {s i : Int} : inn [5] (el_raw_signs_grown_0 K (.int i)) (fg [5] [.sh x, .sh (.int s), .sh t, .no, .no, .no]) = .ok (some (.int (if i = s - 1 then 1 else 0))) (fg [5] [.sh x, .sh (.int s), .sh t, .no, .no, .no]) := by
  simp [Vs.runP, Vs.runI, Vs.io0, Vs.retS, Vs.setS, Vs.setO, Vs.putS, Vs.lf, Vs.sq, Vs.nxt, Vs.ifS, Vs.bnd, Vs.ret, Vs.bad, Vs.opt, Vs.andE, Vs.orE, Vs.notE, Vs.asB, Vs.args, Vs.vV, Vs.vP, Vs.isD, Vs.isO, Vs.tyD, Vs.clD, Vs.kfB, Vs.cl, Vs.b2, Vs.ch, Vs.andT, Vs.orT, Vs.notT, Vs.dropS, Vs.exS, Vs.outB, K74.ite_ev, K74.itA_tup, K74.itA_lst, K74.itA_sq, K74.kit_ii, K74.kit_ib, K74.kit_bi, K74.kit_bb, K74.kit_ni, K74.kit_si, K74.kit_ti, K74.kit_li, K74.kit_di, K74.kit_tt, K74.kit_it, K74.kit_bt, K74.kit_nt, K74.kit_st, K74.kit_lt, K74.kit_dt, Vs.inn, Vs.lend, Vs.unl, Vs.unl1, Vs.fg, Vs.stE, Vs.tg1, Vs.tg2, Vs.ifE, Vs.yes, Vs.frz, Vs.lcAn, Vs.lcM, Vs.allD, Vs.itsL, Vs.lstB, Vs.lenD, Vs.its, Vs.leD, Vs.ltD, Vs.gtD, Vs.geD, Vs.int2, Vs.fB, Vs.fI, Vs.addD, Vs.isI2, Vs.isT2, Vs.subD, Vs.catT, Vs.catL, Vs.ixD, Vs.ixO, Vs.forA, Vs.forR1, Vs.forR2, Vs.forL, Vs.stp, Vs.stp2, Vs.meV, Vs.mutV, Vs.vL, Vs.gExt, Vs.gApp, Vs.lstF, Vs.tupE, Vs.slV, Vs.sl3, Vs.slD, Vs.tupD, Vs.sumD, Vs.absD, Vs.intD, Vs.lcR1, Vs.lcR2, Vs.lcL, Vs.forZ, Vs.zipD, Vs.repF, Vs.subS, Vs.gSet, Vs.ixV, Vs.eqD, Vs.neD, Vs.isnD, Vs.isbD, Vs.max2D, el_raw_signs_grown_0, eqO_int]
theorem lenRD {rule : List (List Int)} {ev : Ev} (h : ev[0]? = some (.sh (RD rule))) : bnd (vP 0) lenD ev = .ok (.int rule.length) ev := by
  have e : vP 0 ev = .ok (RD rule) ev := by unfold vP; rw [h]
  rw [bnd_ok e]
  simp [Vs.runP, Vs.runI, Vs.io0, Vs.retS, Vs.setS, Vs.setO, Vs.putS, Vs.lf, Vs.sq, Vs.nxt, Vs.ifS, Vs.bnd, Vs.ret, Vs.bad, Vs.opt, Vs.andE, Vs.orE, Vs.notE, Vs.asB, Vs.args, Vs.vV, Vs.vP, Vs.isD, Vs.isO, Vs.tyD, Vs.clD, Vs.kfB, Vs.cl, Vs.b2, Vs.ch, Vs.andT, Vs.orT, Vs.notT, Vs.dropS, Vs.exS, Vs.outB, K74.ite_ev, K74.itA_tup, K74.itA_lst, K74.itA_sq, K74.kit_ii, K74.kit_ib, K74.kit_bi, K74.kit_bb, K74.kit_ni, K74.kit_si, K74.kit_ti, K74.kit_li, K74.kit_di, K74.kit_tt, K74.kit_it, K74.kit_bt, K74.kit_nt, K74.kit_st, K74.kit_lt, K74.kit_dt, Vs.inn, Vs.lend, Vs.unl, Vs.unl1, Vs.fg, Vs.stE, Vs.tg1, Vs.tg2, Vs.ifE, Vs.yes, Vs.frz, Vs.lcAn, Vs.lcM, Vs.allD, Vs.itsL, Vs.lstB, Vs.lenD, Vs.its, Vs.leD, Vs.ltD, Vs.gtD, Vs.geD, Vs.int2, Vs.fB, Vs.fI, Vs.addD, Vs.isI2, Vs.isT2, Vs.subD, Vs.catT, Vs.catL, Vs.ixD, Vs.ixO, Vs.forA, Vs.forR1, Vs.forR2, Vs.forL, Vs.stp, Vs.stp2, Vs.meV, Vs.mutV, Vs.vL, Vs.gExt, Vs.gApp, Vs.lstF, Vs.tupE, Vs.slV, Vs.sl3, Vs.slD, Vs.tupD, Vs.sumD, Vs.absD, Vs.intD, Vs.lcR1, Vs.lcR2, Vs.lcL, Vs.forZ, Vs.zipD, Vs.repF, Vs.subS, Vs.gSet, Vs.ixV, Vs.eqD, Vs.neD, Vs.isnD, Vs.isbD, Vs.max2D, RD, lenD]
theorem raw_signs_eq (K : PySem.W.Frag) {rule : List (List Int)} {s t : Int} (h : RuOk rule) (h0 : 0 ≤ t) (h1 : t ≤ 200) : r_raw_signs_grown K [RD rule, .int s, .int t] = .ok (LD (itc rule t.toNat (one0 rule.length s))) [] := by
  have hl := h.hi
  have c1 : lcR1 [5] (bnd (vP 0) lenD) (el_raw_signs_grown_0 K) [.sh (RD rule), .sh (.int s), .sh (.int t), .no, .no, .no] = .ok ((one0 rule.length s).map .int) [.sh (RD rule), .sh (.int s), .sh (.int t), .no, .no, .no] := by
    refine (lcR1_map (g := fun d => match d with | .int i => .int (if i = s - 1 then 1 else 0) | _ => .non) (n := rule.length) (lenRD rfl) (by omega) (by omega) (fun i _ _ => el_rsg K)).trans ?_
    rw [rng_map]
    show Rs.ok _ _ = Rs.ok _ _
    congr 1
    simp [Vs.runP, Vs.runI, Vs.io0, Vs.retS, Vs.setS, Vs.setO, Vs.putS, Vs.lf, Vs.sq, Vs.nxt, Vs.ifS, Vs.bnd, Vs.ret, Vs.bad, Vs.opt, Vs.andE, Vs.orE, Vs.notE, Vs.asB, Vs.args, Vs.vV, Vs.vP, Vs.isD, Vs.isO, Vs.tyD, Vs.clD, Vs.kfB, Vs.cl, Vs.b2, Vs.ch, Vs.andT, Vs.orT, Vs.notT, Vs.dropS, Vs.exS, Vs.outB, K74.ite_ev, K74.itA_tup, K74.itA_lst, K74.itA_sq, K74.kit_ii, K74.kit_ib, K74.kit_bi, K74.kit_bb, K74.kit_ni, K74.kit_si, K74.kit_ti, K74.kit_li, K74.kit_di, K74.kit_tt, K74.kit_it, K74.kit_bt, K74.kit_nt, K74.kit_st, K74.kit_lt, K74.kit_dt, Vs.inn, Vs.lend, Vs.unl, Vs.unl1, Vs.fg, Vs.stE, Vs.tg1, Vs.tg2, Vs.ifE, Vs.yes, Vs.frz, Vs.lcAn, Vs.lcM, Vs.allD, Vs.itsL, Vs.lstB, Vs.lenD, Vs.its, Vs.leD, Vs.ltD, Vs.gtD, Vs.geD, Vs.int2, Vs.fB, Vs.fI, Vs.addD, Vs.isI2, Vs.isT2, Vs.subD, Vs.catT, Vs.catL, Vs.ixD, Vs.ixO, Vs.forA, Vs.forR1, Vs.forR2, Vs.forL, Vs.stp, Vs.stp2, Vs.meV, Vs.mutV, Vs.vL, Vs.gExt, Vs.gApp, Vs.lstF, Vs.tupE, Vs.slV, Vs.sl3, Vs.slD, Vs.tupD, Vs.sumD, Vs.absD, Vs.intD, Vs.lcR1, Vs.lcR2, Vs.lcL, Vs.forZ, Vs.zipD, Vs.repF, Vs.subS, Vs.gSet, Vs.ixV, Vs.eqD, Vs.neD, Vs.isnD, Vs.isbD, Vs.max2D, one0]
  have c2 := itc_loop K (e1 := .sh (.int s)) (e2 := .sh (.int t)) h (rng 0 t) (one0 rule.length s)
  rw [rng_length] at c2
  have c3 : setS 3 (frz (lcR1 [5] (bnd (vP 0) lenD) (el_raw_signs_grown_0 K))) [.sh (RD rule), .sh (.int s), .sh (.int t), .no, .no, .no] = .nx [.sh (RD rule), .sh (.int s), .sh (.int t), .sh (LD (one0 rule.length s)), .no, .no] := by
    exact setF_ok c1
  have c4 := forR1_ok (cl := [4]) (f := vV 2) (step := lp_raw_signs_grown_1 K) (n := t) (ev := [.sh (RD rule), .sh (.int s), .sh (.int t), .sh (LD (one0 rule.length s)), .no, .no]) rfl h0 (by omega) c2
  have c5 : retS (vV 3) [.sh (RD rule), .sh (.int s), .sh (.int t), .sh (LD (itc rule t.toNat (one0 rule.length s))), .no, .no] = .rt (LD (itc rule t.toNat (one0 rule.length s))) [.sh (RD rule), .sh (.int s), .sh (.int t), .sh (LD (itc rule t.toNat (one0 rule.length s))), .no, .no] := rfl
  exact runP_rt ((sq_nx c3).trans ((sq_nx c4).trans c5))
theorem checks_eq (K : PySem.W.Frag) {rule : List (List Int)} {s t : Int} (h : RuOk rule) (hs : 1 ≤ s ∧ s ≤ rule.length) (h0 : 0 ≤ t) (h1 : t ≤ 200) : r_check_sign K [RD rule, .int s] = .ok .non [] ∧ r_check_times K [.int t] = .ok .non [] := by
  have c1 := check_sign_eq K (s := .int s) h.Plr rfl
  rw [h.isRu, lenD0_RD] at c1
  simp [Vs.runP, Vs.runI, Vs.io0, Vs.retS, Vs.setS, Vs.setO, Vs.putS, Vs.lf, Vs.sq, Vs.nxt, Vs.ifS, Vs.bnd, Vs.ret, Vs.bad, Vs.opt, Vs.andE, Vs.orE, Vs.notE, Vs.asB, Vs.args, Vs.vV, Vs.vP, Vs.isD, Vs.isO, Vs.tyD, Vs.clD, Vs.kfB, Vs.cl, Vs.b2, Vs.ch, Vs.andT, Vs.orT, Vs.notT, Vs.dropS, Vs.exS, Vs.outB, K74.ite_ev, K74.itA_tup, K74.itA_lst, K74.itA_sq, K74.kit_ii, K74.kit_ib, K74.kit_bi, K74.kit_bb, K74.kit_ni, K74.kit_si, K74.kit_ti, K74.kit_li, K74.kit_di, K74.kit_tt, K74.kit_it, K74.kit_bt, K74.kit_nt, K74.kit_st, K74.kit_lt, K74.kit_dt, Vs.inn, Vs.lend, Vs.unl, Vs.unl1, Vs.fg, Vs.stE, Vs.tg1, Vs.tg2, Vs.ifE, Vs.yes, Vs.frz, Vs.lcAn, Vs.lcM, Vs.allD, Vs.itsL, Vs.lstB, Vs.lenD, Vs.its, Vs.leD, Vs.ltD, Vs.gtD, Vs.geD, Vs.int2, Vs.fB, Vs.fI, Vs.addD, Vs.isI2, Vs.isT2, Vs.subD, Vs.catT, Vs.catL, Vs.ixD, Vs.ixO, Vs.forA, Vs.forR1, Vs.forR2, Vs.forL, Vs.stp, Vs.stp2, Vs.meV, Vs.mutV, Vs.vL, Vs.gExt, Vs.gApp, Vs.lstF, Vs.tupE, Vs.slV, Vs.sl3, Vs.slD, Vs.tupD, Vs.sumD, Vs.absD, Vs.intD, Vs.lcR1, Vs.lcR2, Vs.lcL, Vs.forZ, Vs.zipD, Vs.repF, Vs.subS, Vs.gSet, Vs.ixV, Vs.eqD, Vs.neD, Vs.isnD, Vs.isbD, Vs.max2D, inR_int, hs.1, hs.2] at c1
  have c2 := check_times_eq K (s := .int t) rfl
  simp [Vs.runP, Vs.runI, Vs.io0, Vs.retS, Vs.setS, Vs.setO, Vs.putS, Vs.lf, Vs.sq, Vs.nxt, Vs.ifS, Vs.bnd, Vs.ret, Vs.bad, Vs.opt, Vs.andE, Vs.orE, Vs.notE, Vs.asB, Vs.args, Vs.vV, Vs.vP, Vs.isD, Vs.isO, Vs.tyD, Vs.clD, Vs.kfB, Vs.cl, Vs.b2, Vs.ch, Vs.andT, Vs.orT, Vs.notT, Vs.dropS, Vs.exS, Vs.outB, K74.ite_ev, K74.itA_tup, K74.itA_lst, K74.itA_sq, K74.kit_ii, K74.kit_ib, K74.kit_bi, K74.kit_bb, K74.kit_ni, K74.kit_si, K74.kit_ti, K74.kit_li, K74.kit_di, K74.kit_tt, K74.kit_it, K74.kit_bt, K74.kit_nt, K74.kit_st, K74.kit_lt, K74.kit_dt, Vs.inn, Vs.lend, Vs.unl, Vs.unl1, Vs.fg, Vs.stE, Vs.tg1, Vs.tg2, Vs.ifE, Vs.yes, Vs.frz, Vs.lcAn, Vs.lcM, Vs.allD, Vs.itsL, Vs.lstB, Vs.lenD, Vs.its, Vs.leD, Vs.ltD, Vs.gtD, Vs.geD, Vs.int2, Vs.fB, Vs.fI, Vs.addD, Vs.isI2, Vs.isT2, Vs.subD, Vs.catT, Vs.catL, Vs.ixD, Vs.ixO, Vs.forA, Vs.forR1, Vs.forR2, Vs.forL, Vs.stp, Vs.stp2, Vs.meV, Vs.mutV, Vs.vL, Vs.gExt, Vs.gApp, Vs.lstF, Vs.tupE, Vs.slV, Vs.sl3, Vs.slD, Vs.tupD, Vs.sumD, Vs.absD, Vs.intD, Vs.lcR1, Vs.lcR2, Vs.lcL, Vs.forZ, Vs.zipD, Vs.repF, Vs.subS, Vs.gSet, Vs.ixV, Vs.eqD, Vs.neD, Vs.isnD, Vs.isbD, Vs.max2D, inR_int, h0, h1] at c2
  exact ⟨c1, c2⟩
theorem sg_gen (K : PySem.W.Frag) {x y z : D} {zs : List D} (c1 : r_check_sign K [x, y] = .ok .non []) (c2 : r_check_times K [z] = .ok .non []) (c3 : r_raw_signs_grown K [x, y, z] = .ok (.lst zs) []) : r_signs_grown K [x, y, z] = .ok (.tup zs) [] := by
  simp [Vs.runP, Vs.runI, Vs.io0, Vs.retS, Vs.setS, Vs.setO, Vs.putS, Vs.lf, Vs.sq, Vs.nxt, Vs.ifS, Vs.bnd, Vs.ret, Vs.bad, Vs.opt, Vs.andE, Vs.orE, Vs.notE, Vs.asB, Vs.args, Vs.vV, Vs.vP, Vs.isD, Vs.isO, Vs.tyD, Vs.clD, Vs.kfB, Vs.cl, Vs.b2, Vs.ch, Vs.andT, Vs.orT, Vs.notT, Vs.dropS, Vs.exS, Vs.outB, K74.ite_ev, K74.itA_tup, K74.itA_lst, K74.itA_sq, K74.kit_ii, K74.kit_ib, K74.kit_bi, K74.kit_bb, K74.kit_ni, K74.kit_si, K74.kit_ti, K74.kit_li, K74.kit_di, K74.kit_tt, K74.kit_it, K74.kit_bt, K74.kit_nt, K74.kit_st, K74.kit_lt, K74.kit_dt, Vs.inn, Vs.lend, Vs.unl, Vs.unl1, Vs.fg, Vs.stE, Vs.tg1, Vs.tg2, Vs.ifE, Vs.yes, Vs.frz, Vs.lcAn, Vs.lcM, Vs.allD, Vs.itsL, Vs.lstB, Vs.lenD, Vs.its, Vs.leD, Vs.ltD, Vs.gtD, Vs.geD, Vs.int2, Vs.fB, Vs.fI, Vs.addD, Vs.isI2, Vs.isT2, Vs.subD, Vs.catT, Vs.catL, Vs.ixD, Vs.ixO, Vs.forA, Vs.forR1, Vs.forR2, Vs.forL, Vs.stp, Vs.stp2, Vs.meV, Vs.mutV, Vs.vL, Vs.gExt, Vs.gApp, Vs.lstF, Vs.tupE, Vs.slV, Vs.sl3, Vs.slD, Vs.tupD, Vs.sumD, Vs.absD, Vs.intD, Vs.lcR1, Vs.lcR2, Vs.lcL, Vs.forZ, Vs.zipD, Vs.repF, Vs.subS, Vs.gSet, Vs.ixV, Vs.eqD, Vs.neD, Vs.isnD, Vs.isbD, Vs.max2D, r_signs_grown, m_signs_grown, c1, c2, c3]
theorem zg_gen (K : PySem.W.Frag) {x y z : D} {zs : List Int} (c1 : r_check_sign K [x, y] = .ok .non []) (c2 : r_check_times K [z] = .ok .non []) (c3 : r_raw_signs_grown K [x, y, z] = .ok (.lst (zs.map .int)) []) : r_size_grown K [x, y, z] = .ok (.int zs.sum) [] := by
  simp [Vs.runP, Vs.runI, Vs.io0, Vs.retS, Vs.setS, Vs.setO, Vs.putS, Vs.lf, Vs.sq, Vs.nxt, Vs.ifS, Vs.bnd, Vs.ret, Vs.bad, Vs.opt, Vs.andE, Vs.orE, Vs.notE, Vs.asB, Vs.args, Vs.vV, Vs.vP, Vs.isD, Vs.isO, Vs.tyD, Vs.clD, Vs.kfB, Vs.cl, Vs.b2, Vs.ch, Vs.andT, Vs.orT, Vs.notT, Vs.dropS, Vs.exS, Vs.outB, K74.ite_ev, K74.itA_tup, K74.itA_lst, K74.itA_sq, K74.kit_ii, K74.kit_ib, K74.kit_bi, K74.kit_bb, K74.kit_ni, K74.kit_si, K74.kit_ti, K74.kit_li, K74.kit_di, K74.kit_tt, K74.kit_it, K74.kit_bt, K74.kit_nt, K74.kit_st, K74.kit_lt, K74.kit_dt, Vs.inn, Vs.lend, Vs.unl, Vs.unl1, Vs.fg, Vs.stE, Vs.tg1, Vs.tg2, Vs.ifE, Vs.yes, Vs.frz, Vs.lcAn, Vs.lcM, Vs.allD, Vs.itsL, Vs.lstB, Vs.lenD, Vs.its, Vs.leD, Vs.ltD, Vs.gtD, Vs.geD, Vs.int2, Vs.fB, Vs.fI, Vs.addD, Vs.isI2, Vs.isT2, Vs.subD, Vs.catT, Vs.catL, Vs.ixD, Vs.ixO, Vs.forA, Vs.forR1, Vs.forR2, Vs.forL, Vs.stp, Vs.stp2, Vs.meV, Vs.mutV, Vs.vL, Vs.gExt, Vs.gApp, Vs.lstF, Vs.tupE, Vs.slV, Vs.sl3, Vs.slD, Vs.tupD, Vs.sumD, Vs.absD, Vs.intD, Vs.lcR1, Vs.lcR2, Vs.lcL, Vs.forZ, Vs.zipD, Vs.repF, Vs.subS, Vs.gSet, Vs.ixV, Vs.eqD, Vs.neD, Vs.isnD, Vs.isbD, Vs.max2D, r_size_grown, m_size_grown, c1, c2, c3, lstI_ints]
theorem signs_grown_eq (K : PySem.W.Frag) {rule : List (List Int)} {s t : Int} (h : RuOk rule) (hs : 1 ≤ s ∧ s ≤ rule.length) (h0 : 0 ≤ t) (h1 : t ≤ 200) : r_signs_grown K [RD rule, .int s, .int t] = .ok (ID (itc rule t.toNat (one0 rule.length s))) [] := by
  obtain ⟨c1, c2⟩ := checks_eq K h hs h0 h1
  exact sg_gen K c1 c2 (raw_signs_eq K h h0 h1)
theorem size_grown_eq (K : PySem.W.Frag) {rule : List (List Int)} {s t : Int} (h : RuOk rule) (hs : 1 ≤ s ∧ s ≤ rule.length) (h0 : 0 ≤ t) (h1 : t ≤ 200) : r_size_grown K [RD rule, .int s, .int t] = .ok (.int (itc rule t.toNat (one0 rule.length s)).sum) [] := by
  obtain ⟨c1, c2⟩ := checks_eq K h hs h0 h1
  exact zg_gen K c1 c2 (raw_signs_eq K h h0 h1)
end K74
namespace K74
open PySem PySem.Spec PyProof.Rows L2 LamX NdefX HotX Vs






theorem draw_eq (K : PySem.W.Frag) : r__law_draw K = rDraw := rfl
theorem draw_ok (K : PySem.W.Frag) {h : Hnd} {n : Nat} {a : Int} (k : h.Ok n) (ha : 1 ≤ a) (ha2 : a < 2 ^ 60) (hn : n < 2 ^ 60) : ∃ (h' : Hnd) (i : Int), r__law_draw K h.ds [.int a] = .ok (.int i) h'.ds ∧ 0 ≤ i ∧ i < a ∧ h'.Ok (n + 1) := by
  rw [draw_eq]
  exact Vs.draw_ok k ha ha2 hn
theorem any_ok (K : PySem.W.Frag) {h : Hnd} {n : Nat} {xs : List D} (k : h.Ok n) (h0 : 1 ≤ xs.length) (hl : xs.length ≤ 1000) (hn : n < 2 ^ 60) : ∃ (h' : Hnd) (x : D), r__law_any K h.ds [.lst xs] = .ok x h'.ds ∧ x ∈ xs ∧ h'.Ok (n + 1) := by
  obtain ⟨h', i, e, i0, i1, k'⟩ := draw_ok K (a := (xs.length : Int)) k (by omega) (by omega) hn
  have hi : i.toNat < xs.length := by omega
  have ha : L2.atI xs i = some xs[i.toNat] := by
    have q := L2.atI_nat (List.getElem?_eq_getElem hi)
    rwa [show ((i.toNat : Nat) : Int) = i by omega] at q
  refine ⟨h', xs[i.toNat], ?_, List.getElem_mem hi, k'⟩
  simp [Vs.runP, Vs.runI, Vs.io0, Vs.retS, Vs.setS, Vs.setO, Vs.putS, Vs.lf, Vs.sq, Vs.nxt, Vs.ifS, Vs.bnd, Vs.ret, Vs.bad, Vs.opt, Vs.andE, Vs.orE, Vs.notE, Vs.asB, Vs.args, Vs.vV, Vs.vP, Vs.isD, Vs.isO, Vs.tyD, Vs.clD, Vs.kfB, Vs.cl, Vs.b2, Vs.ch, Vs.andT, Vs.orT, Vs.notT, Vs.dropS, Vs.exS, Vs.outB, K74.ite_ev, K74.itA_tup, K74.itA_lst, K74.itA_sq, K74.kit_ii, K74.kit_ib, K74.kit_bi, K74.kit_bb, K74.kit_ni, K74.kit_si, K74.kit_ti, K74.kit_li, K74.kit_di, K74.kit_tt, K74.kit_it, K74.kit_bt, K74.kit_nt, K74.kit_st, K74.kit_lt, K74.kit_dt, Vs.inn, Vs.lend, Vs.unl, Vs.unl1, Vs.fg, Vs.stE, Vs.tg1, Vs.tg2, Vs.ifE, Vs.yes, Vs.frz, Vs.lcAn, Vs.lcM, Vs.allD, Vs.itsL, Vs.lstB, Vs.lenD, Vs.its, Vs.leD, Vs.ltD, Vs.gtD, Vs.geD, Vs.int2, Vs.fB, Vs.fI, Vs.addD, Vs.isI2, Vs.isT2, Vs.subD, Vs.catT, Vs.catL, Vs.ixD, Vs.ixO, Vs.forA, Vs.forR1, Vs.forR2, Vs.forL, Vs.stp, Vs.stp2, Vs.meV, Vs.mutV, Vs.vL, Vs.gExt, Vs.gApp, Vs.lstF, Vs.tupE, Vs.slV, Vs.sl3, Vs.slD, Vs.tupD, Vs.sumD, Vs.absD, Vs.intD, Vs.lcR1, Vs.lcR2, Vs.lcL, Vs.forZ, Vs.zipD, Vs.repF, Vs.subS, Vs.gSet, Vs.ixV, Vs.eqD, Vs.neD, Vs.isnD, Vs.isbD, Vs.max2D, Vs.asgT, Vs.clI, Vs.Sl.to, Vs.parO, Vs.asI, r__law_any, m__law_any, e, ha]
theorem text_ok (K : PySem.W.Frag) {h : Hnd} {n : Nat} {s : Int} {d0 d3 : D} {rs : List D} {here : D} (hs : 1 ≤ s ∧ s ≤ 5) (k : h.Ok n) (hn : n < 2 ^ 50) : ∃ (h' : Hnd) (t : List Int), lcR1 [7] (b2 addD (Vs.ret (.int 1)) (clI 0 (r__law_draw K) (args [Vs.ret (.int 3)]))) (el__law_rule_0 K) [.io h.ds, .sh d0, .sh (.int s), .sh d3, .ol rs, .sh here, .no, .no] = .ok (t.map .int) [.io h'.ds, .sh d0, .sh (.int s), .sh d3, .ol rs, .sh here, .no, .no] ∧
    1 ≤ t.length ∧ t.length ≤ 3 ∧ (∀ x ∈ t, 1 ≤ x ∧ x ≤ s) ∧ h'.Ok (n + 4) := by
  obtain ⟨h1, i, e1, i0, i1, k1⟩ := draw_ok K (a := 3) k (by omega) (by omega) (by omega)
  obtain ⟨xs, h2, e2, l2, p2, k2⟩ := lcM_draw (vs := [7]) (step := el__law_rule_0 K) (E := fun h => [.io h.ds, .sh d0, .sh (.int s), .sh d3, .ol rs, .sh here, .no, .no]) (fun x => ∃ i, x = .int i ∧ (1 ≤ i ∧ i ≤ s)) (ds := rng 0 (1 + i)) (ev := [.io h1.ds, .sh d0, .sh (.int s), .sh d3, .ol rs, .sh here, .no, .no]) k1 rfl (by rw [rng_length]; omega) (fun d h m hd hm hmn => by
    rw [rng_length] at hmn
    obtain ⟨h', i, e, j0, j1, k'⟩ := draw_ok K (a := s) hm (by omega) (by omega) (by omega)
    refine ⟨.int (1 + i), h', ?_, ⟨1 + i, rfl, by omega, by omega⟩, k'⟩
    simp [Vs.runP, Vs.runI, Vs.io0, Vs.retS, Vs.setS, Vs.setO, Vs.putS, Vs.lf, Vs.sq, Vs.nxt, Vs.ifS, Vs.bnd, Vs.ret, Vs.bad, Vs.opt, Vs.andE, Vs.orE, Vs.notE, Vs.asB, Vs.args, Vs.vV, Vs.vP, Vs.isD, Vs.isO, Vs.tyD, Vs.clD, Vs.kfB, Vs.cl, Vs.b2, Vs.ch, Vs.andT, Vs.orT, Vs.notT, Vs.dropS, Vs.exS, Vs.outB, K74.ite_ev, K74.itA_tup, K74.itA_lst, K74.itA_sq, K74.kit_ii, K74.kit_ib, K74.kit_bi, K74.kit_bb, K74.kit_ni, K74.kit_si, K74.kit_ti, K74.kit_li, K74.kit_di, K74.kit_tt, K74.kit_it, K74.kit_bt, K74.kit_nt, K74.kit_st, K74.kit_lt, K74.kit_dt, Vs.inn, Vs.lend, Vs.unl, Vs.unl1, Vs.fg, Vs.stE, Vs.tg1, Vs.tg2, Vs.ifE, Vs.yes, Vs.frz, Vs.lcAn, Vs.lcM, Vs.allD, Vs.itsL, Vs.lstB, Vs.lenD, Vs.its, Vs.leD, Vs.ltD, Vs.gtD, Vs.geD, Vs.int2, Vs.fB, Vs.fI, Vs.addD, Vs.isI2, Vs.isT2, Vs.subD, Vs.catT, Vs.catL, Vs.ixD, Vs.ixO, Vs.forA, Vs.forR1, Vs.forR2, Vs.forL, Vs.stp, Vs.stp2, Vs.meV, Vs.mutV, Vs.vL, Vs.gExt, Vs.gApp, Vs.lstF, Vs.tupE, Vs.slV, Vs.sl3, Vs.slD, Vs.tupD, Vs.sumD, Vs.absD, Vs.intD, Vs.lcR1, Vs.lcR2, Vs.lcL, Vs.forZ, Vs.zipD, Vs.repF, Vs.subS, Vs.gSet, Vs.ixV, Vs.eqD, Vs.neD, Vs.isnD, Vs.isbD, Vs.max2D, Vs.asgT, Vs.clI, Vs.Sl.to, Vs.parO, Vs.asI, el__law_rule_0, e])
  obtain ⟨t, rfl, tl, tp⟩ := ints_of p2
  rw [l2, rng_length] at tl
  rw [rng_length] at k2
  have hr : -4611686018427387904 ≤ 1 + i ∧ 1 + i < 4611686018427387904 := by omega
  refine ⟨h2, t, ?_, by omega, by omega, tp, k2.mono (by omega)⟩
  simp [Vs.runP, Vs.runI, Vs.io0, Vs.retS, Vs.setS, Vs.setO, Vs.putS, Vs.lf, Vs.sq, Vs.nxt, Vs.ifS, Vs.bnd, Vs.ret, Vs.bad, Vs.opt, Vs.andE, Vs.orE, Vs.notE, Vs.asB, Vs.args, Vs.vV, Vs.vP, Vs.isD, Vs.isO, Vs.tyD, Vs.clD, Vs.kfB, Vs.cl, Vs.b2, Vs.ch, Vs.andT, Vs.orT, Vs.notT, Vs.dropS, Vs.exS, Vs.outB, K74.ite_ev, K74.itA_tup, K74.itA_lst, K74.itA_sq, K74.kit_ii, K74.kit_ib, K74.kit_bi, K74.kit_bb, K74.kit_ni, K74.kit_si, K74.kit_ti, K74.kit_li, K74.kit_di, K74.kit_tt, K74.kit_it, K74.kit_bt, K74.kit_nt, K74.kit_st, K74.kit_lt, K74.kit_dt, Vs.inn, Vs.lend, Vs.unl, Vs.unl1, Vs.fg, Vs.stE, Vs.tg1, Vs.tg2, Vs.ifE, Vs.yes, Vs.frz, Vs.lcAn, Vs.allD, Vs.itsL, Vs.lstB, Vs.lenD, Vs.its, Vs.leD, Vs.ltD, Vs.gtD, Vs.geD, Vs.int2, Vs.fB, Vs.fI, Vs.addD, Vs.isI2, Vs.isT2, Vs.subD, Vs.catT, Vs.catL, Vs.ixD, Vs.ixO, Vs.forA, Vs.forR1, Vs.forR2, Vs.forL, Vs.stp, Vs.stp2, Vs.meV, Vs.mutV, Vs.vL, Vs.gExt, Vs.gApp, Vs.lstF, Vs.tupE, Vs.slV, Vs.sl3, Vs.slD, Vs.tupD, Vs.sumD, Vs.absD, Vs.intD, Vs.lcR1, Vs.lcR2, Vs.lcL, Vs.forZ, Vs.zipD, Vs.repF, Vs.subS, Vs.gSet, Vs.ixV, Vs.eqD, Vs.neD, Vs.isnD, Vs.isbD, Vs.max2D, Vs.asgT, Vs.clI, Vs.Sl.to, Vs.parO, Vs.asI, e1, hr]
  exact e2
def WOk (s : Int) (w : List Int) : Prop := 1 ≤ w.length ∧ w.length ≤ 3 ∧ ∀ x ∈ w, 1 ≤ x ∧ x ≤ s
theorem word_step (K : PySem.W.Frag) {h : Hnd} {n : Nat} {s st i : Int} {d0 : D} {rs : List D} (hs : 1 ≤ s ∧ s ≤ 5) (ht : 1 ≤ st ∧ st ≤ s) (k : h.Ok n) (hn : n < 2 ^ 50) (hl : rs.length < 1000) :
    ∃ (h' : Hnd) (w : List Int) (x y z : Sl), lp__law_rule_1 K (.int i) [.io h.ds, .sh d0, .sh (.int s), .sh (.int st), .ol rs, .no, .no, .no] = .nx [.io h'.ds, .sh d0, .sh (.int s), .sh (.int st), .ol (rs ++ [ID w]), x, y, z] ∧ WOk s w ∧ h'.Ok (n + 4) := by
  obtain ⟨h1, t, e1, t0, t1, tp, k1⟩ := text_ok K (d0 := d0) (d3 := .int st) (rs := rs) (here := .int i) hs k hn
  have hb : rs.length < big := by unfold big; omega
  unfold lp__law_rule_1
  generalize lcR1 [7] (b2 addD (Vs.ret (.int 1)) (clI 0 (r__law_draw K) (args [Vs.ret (.int 3)]))) (el__law_rule_0 K) = X at e1 ⊢
  have b1 : t.length + 1 ≤ big := by unfold big; omega
  have b3 : 3 ≤ big := by unfold big; omega
  have b0 : 1 ≤ big := by unfold big; omega
  by_cases hi : i = st
  · subst hi
    by_cases h3 : t.length < 3
    · refine ⟨h1, i :: t, .sh (.int i), .sh (.lst ((i :: t).map .int)), .no, ?_, ⟨by simp [Vs.runP, Vs.runI, Vs.io0, Vs.retS, Vs.setS, Vs.setO, Vs.putS, Vs.lf, Vs.sq, Vs.nxt, Vs.ifS, Vs.bnd, Vs.ret, Vs.bad, Vs.opt, Vs.andE, Vs.orE, Vs.notE, Vs.asB, Vs.args, Vs.vV, Vs.vP, Vs.isD, Vs.isO, Vs.tyD, Vs.clD, Vs.kfB, Vs.cl, Vs.b2, Vs.ch, Vs.andT, Vs.orT, Vs.notT, Vs.dropS, Vs.exS, Vs.outB, K74.ite_ev, K74.itA_tup, K74.itA_lst, K74.itA_sq, K74.kit_ii, K74.kit_ib, K74.kit_bi, K74.kit_bb, K74.kit_ni, K74.kit_si, K74.kit_ti, K74.kit_li, K74.kit_di, K74.kit_tt, K74.kit_it, K74.kit_bt, K74.kit_nt, K74.kit_st, K74.kit_lt, K74.kit_dt, Vs.inn, Vs.lend, Vs.unl, Vs.unl1, Vs.fg, Vs.stE, Vs.tg1, Vs.tg2, Vs.ifE, Vs.yes, Vs.frz, Vs.lcAn, Vs.lcM, Vs.allD, Vs.itsL, Vs.lstB, Vs.lenD, Vs.its, Vs.leD, Vs.ltD, Vs.gtD, Vs.geD, Vs.int2, Vs.fB, Vs.fI, Vs.addD, Vs.isI2, Vs.isT2, Vs.subD, Vs.catT, Vs.catL, Vs.ixD, Vs.ixO, Vs.forA, Vs.forR1, Vs.forR2, Vs.forL, Vs.stp, Vs.stp2, Vs.meV, Vs.mutV, Vs.vL, Vs.gExt, Vs.gApp, Vs.lstF, Vs.tupE, Vs.slV, Vs.sl3, Vs.slD, Vs.tupD, Vs.sumD, Vs.absD, Vs.intD, Vs.lcR1, Vs.lcR2, Vs.lcL, Vs.forZ, Vs.zipD, Vs.repF, Vs.subS, Vs.gSet, Vs.ixV, Vs.eqD, Vs.neD, Vs.isnD, Vs.isbD, Vs.max2D, Vs.asgT, Vs.clI, Vs.Sl.to, Vs.parO, Vs.asI], by simp [Vs.runP, Vs.runI, Vs.io0, Vs.retS, Vs.setS, Vs.setO, Vs.putS, Vs.lf, Vs.sq, Vs.nxt, Vs.ifS, Vs.bnd, Vs.ret, Vs.bad, Vs.opt, Vs.andE, Vs.orE, Vs.notE, Vs.asB, Vs.args, Vs.vV, Vs.vP, Vs.isD, Vs.isO, Vs.tyD, Vs.clD, Vs.kfB, Vs.cl, Vs.b2, Vs.ch, Vs.andT, Vs.orT, Vs.notT, Vs.dropS, Vs.exS, Vs.outB, K74.ite_ev, K74.itA_tup, K74.itA_lst, K74.itA_sq, K74.kit_ii, K74.kit_ib, K74.kit_bi, K74.kit_bb, K74.kit_ni, K74.kit_si, K74.kit_ti, K74.kit_li, K74.kit_di, K74.kit_tt, K74.kit_it, K74.kit_bt, K74.kit_nt, K74.kit_st, K74.kit_lt, K74.kit_dt, Vs.inn, Vs.lend, Vs.unl, Vs.unl1, Vs.fg, Vs.stE, Vs.tg1, Vs.tg2, Vs.ifE, Vs.yes, Vs.frz, Vs.lcAn, Vs.lcM, Vs.allD, Vs.itsL, Vs.lstB, Vs.lenD, Vs.its, Vs.leD, Vs.ltD, Vs.gtD, Vs.geD, Vs.int2, Vs.fB, Vs.fI, Vs.addD, Vs.isI2, Vs.isT2, Vs.subD, Vs.catT, Vs.catL, Vs.ixD, Vs.ixO, Vs.forA, Vs.forR1, Vs.forR2, Vs.forL, Vs.stp, Vs.stp2, Vs.meV, Vs.mutV, Vs.vL, Vs.gExt, Vs.gApp, Vs.lstF, Vs.tupE, Vs.slV, Vs.sl3, Vs.slD, Vs.tupD, Vs.sumD, Vs.absD, Vs.intD, Vs.lcR1, Vs.lcR2, Vs.lcL, Vs.forZ, Vs.zipD, Vs.repF, Vs.subS, Vs.gSet, Vs.ixV, Vs.eqD, Vs.neD, Vs.isnD, Vs.isbD, Vs.max2D, Vs.asgT, Vs.clI, Vs.Sl.to, Vs.parO, Vs.asI]; omega, fun x hx => ?_⟩, k1⟩
      · have h3' : (t.length : Int) < 3 := by omega
        simp [Vs.runP, Vs.runI, Vs.io0, Vs.retS, Vs.setS, Vs.setO, Vs.putS, Vs.lf, Vs.sq, Vs.nxt, Vs.ifS, Vs.bnd, Vs.ret, Vs.bad, Vs.opt, Vs.andE, Vs.orE, Vs.notE, Vs.asB, Vs.args, Vs.vV, Vs.vP, Vs.isD, Vs.isO, Vs.tyD, Vs.clD, Vs.kfB, Vs.cl, Vs.b2, Vs.ch, Vs.andT, Vs.orT, Vs.notT, Vs.dropS, Vs.exS, Vs.outB, K74.ite_ev, K74.itA_tup, K74.itA_lst, K74.itA_sq, K74.kit_ii, K74.kit_ib, K74.kit_bi, K74.kit_bb, K74.kit_ni, K74.kit_si, K74.kit_ti, K74.kit_li, K74.kit_di, K74.kit_tt, K74.kit_it, K74.kit_bt, K74.kit_nt, K74.kit_st, K74.kit_lt, K74.kit_dt, Vs.inn, Vs.lend, Vs.unl, Vs.unl1, Vs.fg, Vs.stE, Vs.tg1, Vs.tg2, Vs.ifE, Vs.yes, Vs.frz, Vs.lcAn, Vs.lcM, Vs.allD, Vs.itsL, Vs.lstB, Vs.lenD, Vs.its, Vs.leD, Vs.ltD, Vs.gtD, Vs.geD, Vs.int2, Vs.fB, Vs.fI, Vs.addD, Vs.isI2, Vs.isT2, Vs.subD, Vs.catT, Vs.catL, Vs.ixD, Vs.ixO, Vs.forA, Vs.forR1, Vs.forR2, Vs.forL, Vs.stp, Vs.stp2, Vs.meV, Vs.mutV, Vs.vL, Vs.gExt, Vs.gApp, Vs.lstF, Vs.tupE, Vs.slV, Vs.sl3, Vs.slD, Vs.tupD, Vs.sumD, Vs.absD, Vs.intD, Vs.lcR1, Vs.lcR2, Vs.lcL, Vs.forZ, Vs.zipD, Vs.repF, Vs.subS, Vs.gSet, Vs.ixV, Vs.eqD, Vs.neD, Vs.isnD, Vs.isbD, Vs.max2D, Vs.asgT, Vs.clI, Vs.Sl.to, Vs.parO, Vs.asI, e1, eqO_int, h3', hb, b0, b1, isL2, Nat.add_comm]
        simp [Vs.runP, Vs.runI, Vs.io0, Vs.retS, Vs.setS, Vs.setO, Vs.putS, Vs.lf, Vs.sq, Vs.nxt, Vs.ifS, Vs.bnd, Vs.ret, Vs.bad, Vs.opt, Vs.andE, Vs.orE, Vs.notE, Vs.asB, Vs.args, Vs.vV, Vs.vP, Vs.isD, Vs.isO, Vs.tyD, Vs.clD, Vs.kfB, Vs.cl, Vs.b2, Vs.ch, Vs.andT, Vs.orT, Vs.notT, Vs.dropS, Vs.exS, Vs.outB, K74.ite_ev, K74.itA_tup, K74.itA_lst, K74.itA_sq, K74.kit_ii, K74.kit_ib, K74.kit_bi, K74.kit_bb, K74.kit_ni, K74.kit_si, K74.kit_ti, K74.kit_li, K74.kit_di, K74.kit_tt, K74.kit_it, K74.kit_bt, K74.kit_nt, K74.kit_st, K74.kit_lt, K74.kit_dt, Vs.inn, Vs.lend, Vs.unl, Vs.unl1, Vs.fg, Vs.stE, Vs.tg1, Vs.tg2, Vs.ifE, Vs.yes, Vs.frz, Vs.lcAn, Vs.lcM, Vs.allD, Vs.itsL, Vs.lstB, Vs.lenD, Vs.its, Vs.leD, Vs.ltD, Vs.gtD, Vs.geD, Vs.int2, Vs.fB, Vs.fI, Vs.addD, Vs.isI2, Vs.isT2, Vs.subD, Vs.catT, Vs.catL, Vs.ixD, Vs.ixO, Vs.forA, Vs.forR1, Vs.forR2, Vs.forL, Vs.stp, Vs.stp2, Vs.meV, Vs.mutV, Vs.vL, Vs.gExt, Vs.gApp, Vs.lstF, Vs.tupE, Vs.slV, Vs.sl3, Vs.slD, Vs.tupD, Vs.sumD, Vs.absD, Vs.intD, Vs.lcR1, Vs.lcR2, Vs.lcL, Vs.forZ, Vs.zipD, Vs.repF, Vs.subS, Vs.gSet, Vs.ixV, Vs.eqD, Vs.neD, Vs.isnD, Vs.isbD, Vs.max2D, Vs.asgT, Vs.clI, Vs.Sl.to, Vs.parO, Vs.asI, ID]
      · rcases List.mem_cons.mp hx with rfl | hx
        · exact ht
        · exact tp x hx
    · refine ⟨h1, i :: t.take 2, .sh (.int i), .sh (.lst ((i :: t.take 2).map .int)), .no, ?_, ⟨by simp [Vs.runP, Vs.runI, Vs.io0, Vs.retS, Vs.setS, Vs.setO, Vs.putS, Vs.lf, Vs.sq, Vs.nxt, Vs.ifS, Vs.bnd, Vs.ret, Vs.bad, Vs.opt, Vs.andE, Vs.orE, Vs.notE, Vs.asB, Vs.args, Vs.vV, Vs.vP, Vs.isD, Vs.isO, Vs.tyD, Vs.clD, Vs.kfB, Vs.cl, Vs.b2, Vs.ch, Vs.andT, Vs.orT, Vs.notT, Vs.dropS, Vs.exS, Vs.outB, K74.ite_ev, K74.itA_tup, K74.itA_lst, K74.itA_sq, K74.kit_ii, K74.kit_ib, K74.kit_bi, K74.kit_bb, K74.kit_ni, K74.kit_si, K74.kit_ti, K74.kit_li, K74.kit_di, K74.kit_tt, K74.kit_it, K74.kit_bt, K74.kit_nt, K74.kit_st, K74.kit_lt, K74.kit_dt, Vs.inn, Vs.lend, Vs.unl, Vs.unl1, Vs.fg, Vs.stE, Vs.tg1, Vs.tg2, Vs.ifE, Vs.yes, Vs.frz, Vs.lcAn, Vs.lcM, Vs.allD, Vs.itsL, Vs.lstB, Vs.lenD, Vs.its, Vs.leD, Vs.ltD, Vs.gtD, Vs.geD, Vs.int2, Vs.fB, Vs.fI, Vs.addD, Vs.isI2, Vs.isT2, Vs.subD, Vs.catT, Vs.catL, Vs.ixD, Vs.ixO, Vs.forA, Vs.forR1, Vs.forR2, Vs.forL, Vs.stp, Vs.stp2, Vs.meV, Vs.mutV, Vs.vL, Vs.gExt, Vs.gApp, Vs.lstF, Vs.tupE, Vs.slV, Vs.sl3, Vs.slD, Vs.tupD, Vs.sumD, Vs.absD, Vs.intD, Vs.lcR1, Vs.lcR2, Vs.lcL, Vs.forZ, Vs.zipD, Vs.repF, Vs.subS, Vs.gSet, Vs.ixV, Vs.eqD, Vs.neD, Vs.isnD, Vs.isbD, Vs.max2D, Vs.asgT, Vs.clI, Vs.Sl.to, Vs.parO, Vs.asI], by simp [Vs.runP, Vs.runI, Vs.io0, Vs.retS, Vs.setS, Vs.setO, Vs.putS, Vs.lf, Vs.sq, Vs.nxt, Vs.ifS, Vs.bnd, Vs.ret, Vs.bad, Vs.opt, Vs.andE, Vs.orE, Vs.notE, Vs.asB, Vs.args, Vs.vV, Vs.vP, Vs.isD, Vs.isO, Vs.tyD, Vs.clD, Vs.kfB, Vs.cl, Vs.b2, Vs.ch, Vs.andT, Vs.orT, Vs.notT, Vs.dropS, Vs.exS, Vs.outB, K74.ite_ev, K74.itA_tup, K74.itA_lst, K74.itA_sq, K74.kit_ii, K74.kit_ib, K74.kit_bi, K74.kit_bb, K74.kit_ni, K74.kit_si, K74.kit_ti, K74.kit_li, K74.kit_di, K74.kit_tt, K74.kit_it, K74.kit_bt, K74.kit_nt, K74.kit_st, K74.kit_lt, K74.kit_dt, Vs.inn, Vs.lend, Vs.unl, Vs.unl1, Vs.fg, Vs.stE, Vs.tg1, Vs.tg2, Vs.ifE, Vs.yes, Vs.frz, Vs.lcAn, Vs.lcM, Vs.allD, Vs.itsL, Vs.lstB, Vs.lenD, Vs.its, Vs.leD, Vs.ltD, Vs.gtD, Vs.geD, Vs.int2, Vs.fB, Vs.fI, Vs.addD, Vs.isI2, Vs.isT2, Vs.subD, Vs.catT, Vs.catL, Vs.ixD, Vs.ixO, Vs.forA, Vs.forR1, Vs.forR2, Vs.forL, Vs.stp, Vs.stp2, Vs.meV, Vs.mutV, Vs.vL, Vs.gExt, Vs.gApp, Vs.lstF, Vs.tupE, Vs.slV, Vs.sl3, Vs.slD, Vs.tupD, Vs.sumD, Vs.absD, Vs.intD, Vs.lcR1, Vs.lcR2, Vs.lcL, Vs.forZ, Vs.zipD, Vs.repF, Vs.subS, Vs.gSet, Vs.ixV, Vs.eqD, Vs.neD, Vs.isnD, Vs.isbD, Vs.max2D, Vs.asgT, Vs.clI, Vs.Sl.to, Vs.parO, Vs.asI]; omega, fun x hx => ?_⟩, k1⟩
      · have h3' : ¬ (t.length : Int) < 3 := by omega
        have h4 : t.length = 3 := by omega
        simp [Vs.runP, Vs.runI, Vs.io0, Vs.retS, Vs.setS, Vs.setO, Vs.putS, Vs.lf, Vs.sq, Vs.nxt, Vs.ifS, Vs.bnd, Vs.ret, Vs.bad, Vs.opt, Vs.andE, Vs.orE, Vs.notE, Vs.asB, Vs.args, Vs.vV, Vs.vP, Vs.isD, Vs.isO, Vs.tyD, Vs.clD, Vs.kfB, Vs.cl, Vs.b2, Vs.ch, Vs.andT, Vs.orT, Vs.notT, Vs.dropS, Vs.exS, Vs.outB, K74.ite_ev, K74.itA_tup, K74.itA_lst, K74.itA_sq, K74.kit_ii, K74.kit_ib, K74.kit_bi, K74.kit_bb, K74.kit_ni, K74.kit_si, K74.kit_ti, K74.kit_li, K74.kit_di, K74.kit_tt, K74.kit_it, K74.kit_bt, K74.kit_nt, K74.kit_st, K74.kit_lt, K74.kit_dt, Vs.inn, Vs.lend, Vs.unl, Vs.unl1, Vs.fg, Vs.stE, Vs.tg1, Vs.tg2, Vs.ifE, Vs.yes, Vs.frz, Vs.lcAn, Vs.lcM, Vs.allD, Vs.itsL, Vs.lstB, Vs.lenD, Vs.its, Vs.leD, Vs.ltD, Vs.gtD, Vs.geD, Vs.int2, Vs.fB, Vs.fI, Vs.addD, Vs.isI2, Vs.isT2, Vs.subD, Vs.catT, Vs.catL, Vs.ixD, Vs.ixO, Vs.forA, Vs.forR1, Vs.forR2, Vs.forL, Vs.stp, Vs.stp2, Vs.meV, Vs.mutV, Vs.vL, Vs.gExt, Vs.gApp, Vs.lstF, Vs.tupE, Vs.slV, Vs.sl3, Vs.slD, Vs.tupD, Vs.sumD, Vs.absD, Vs.intD, Vs.lcR1, Vs.lcR2, Vs.lcL, Vs.forZ, Vs.zipD, Vs.repF, Vs.subS, Vs.gSet, Vs.ixV, Vs.eqD, Vs.neD, Vs.isnD, Vs.isbD, Vs.max2D, Vs.asgT, Vs.clI, Vs.Sl.to, Vs.parO, Vs.asI, e1, eqO_int, h3', hb, b0, b1, isL2, cutG, HT.sIx, h4, b3]
        simp [Vs.runP, Vs.runI, Vs.io0, Vs.retS, Vs.setS, Vs.setO, Vs.putS, Vs.lf, Vs.sq, Vs.nxt, Vs.ifS, Vs.bnd, Vs.ret, Vs.bad, Vs.opt, Vs.andE, Vs.orE, Vs.notE, Vs.asB, Vs.args, Vs.vV, Vs.vP, Vs.isD, Vs.isO, Vs.tyD, Vs.clD, Vs.kfB, Vs.cl, Vs.b2, Vs.ch, Vs.andT, Vs.orT, Vs.notT, Vs.dropS, Vs.exS, Vs.outB, K74.ite_ev, K74.itA_tup, K74.itA_lst, K74.itA_sq, K74.kit_ii, K74.kit_ib, K74.kit_bi, K74.kit_bb, K74.kit_ni, K74.kit_si, K74.kit_ti, K74.kit_li, K74.kit_di, K74.kit_tt, K74.kit_it, K74.kit_bt, K74.kit_nt, K74.kit_st, K74.kit_lt, K74.kit_dt, Vs.inn, Vs.lend, Vs.unl, Vs.unl1, Vs.fg, Vs.stE, Vs.tg1, Vs.tg2, Vs.ifE, Vs.yes, Vs.frz, Vs.lcAn, Vs.lcM, Vs.allD, Vs.itsL, Vs.lstB, Vs.lenD, Vs.its, Vs.leD, Vs.ltD, Vs.gtD, Vs.geD, Vs.int2, Vs.fB, Vs.fI, Vs.addD, Vs.isI2, Vs.isT2, Vs.subD, Vs.catT, Vs.catL, Vs.ixD, Vs.ixO, Vs.forA, Vs.forR1, Vs.forR2, Vs.forL, Vs.stp, Vs.stp2, Vs.meV, Vs.mutV, Vs.vL, Vs.gExt, Vs.gApp, Vs.lstF, Vs.tupE, Vs.slV, Vs.sl3, Vs.slD, Vs.tupD, Vs.sumD, Vs.absD, Vs.intD, Vs.lcR1, Vs.lcR2, Vs.lcL, Vs.forZ, Vs.zipD, Vs.repF, Vs.subS, Vs.gSet, Vs.ixV, Vs.eqD, Vs.neD, Vs.isnD, Vs.isbD, Vs.max2D, Vs.asgT, Vs.clI, Vs.Sl.to, Vs.parO, Vs.asI, ID]

      · rcases List.mem_cons.mp hx with rfl | hx
        · exact ht
        · exact tp x (List.mem_of_mem_take hx)
  · refine ⟨h1, t, .sh (.int i), .sh (.lst (t.map .int)), .no, ?_, ⟨t0, t1, tp⟩, k1⟩
    simp [Vs.runP, Vs.runI, Vs.io0, Vs.retS, Vs.setS, Vs.setO, Vs.putS, Vs.lf, Vs.sq, Vs.nxt, Vs.ifS, Vs.bnd, Vs.ret, Vs.bad, Vs.opt, Vs.andE, Vs.orE, Vs.notE, Vs.asB, Vs.args, Vs.vV, Vs.vP, Vs.isD, Vs.isO, Vs.tyD, Vs.clD, Vs.kfB, Vs.cl, Vs.b2, Vs.ch, Vs.andT, Vs.orT, Vs.notT, Vs.dropS, Vs.exS, Vs.outB, K74.ite_ev, K74.itA_tup, K74.itA_lst, K74.itA_sq, K74.kit_ii, K74.kit_ib, K74.kit_bi, K74.kit_bb, K74.kit_ni, K74.kit_si, K74.kit_ti, K74.kit_li, K74.kit_di, K74.kit_tt, K74.kit_it, K74.kit_bt, K74.kit_nt, K74.kit_st, K74.kit_lt, K74.kit_dt, Vs.inn, Vs.lend, Vs.unl, Vs.unl1, Vs.fg, Vs.stE, Vs.tg1, Vs.tg2, Vs.ifE, Vs.yes, Vs.frz, Vs.lcAn, Vs.lcM, Vs.allD, Vs.itsL, Vs.lstB, Vs.lenD, Vs.its, Vs.leD, Vs.ltD, Vs.gtD, Vs.geD, Vs.int2, Vs.fB, Vs.fI, Vs.addD, Vs.isI2, Vs.isT2, Vs.subD, Vs.catT, Vs.catL, Vs.ixD, Vs.ixO, Vs.forA, Vs.forR1, Vs.forR2, Vs.forL, Vs.stp, Vs.stp2, Vs.meV, Vs.mutV, Vs.vL, Vs.gExt, Vs.gApp, Vs.lstF, Vs.tupE, Vs.slV, Vs.sl3, Vs.slD, Vs.tupD, Vs.sumD, Vs.absD, Vs.intD, Vs.lcR1, Vs.lcR2, Vs.lcL, Vs.forZ, Vs.zipD, Vs.repF, Vs.subS, Vs.gSet, Vs.ixV, Vs.eqD, Vs.neD, Vs.isnD, Vs.isbD, Vs.max2D, Vs.asgT, Vs.clI, Vs.Sl.to, Vs.parO, Vs.asI, e1, eqO_int, hi, hb]
    simp [Vs.runP, Vs.runI, Vs.io0, Vs.retS, Vs.setS, Vs.setO, Vs.putS, Vs.lf, Vs.sq, Vs.nxt, Vs.ifS, Vs.bnd, Vs.ret, Vs.bad, Vs.opt, Vs.andE, Vs.orE, Vs.notE, Vs.asB, Vs.args, Vs.vV, Vs.vP, Vs.isD, Vs.isO, Vs.tyD, Vs.clD, Vs.kfB, Vs.cl, Vs.b2, Vs.ch, Vs.andT, Vs.orT, Vs.notT, Vs.dropS, Vs.exS, Vs.outB, K74.ite_ev, K74.itA_tup, K74.itA_lst, K74.itA_sq, K74.kit_ii, K74.kit_ib, K74.kit_bi, K74.kit_bb, K74.kit_ni, K74.kit_si, K74.kit_ti, K74.kit_li, K74.kit_di, K74.kit_tt, K74.kit_it, K74.kit_bt, K74.kit_nt, K74.kit_st, K74.kit_lt, K74.kit_dt, Vs.inn, Vs.lend, Vs.unl, Vs.unl1, Vs.fg, Vs.stE, Vs.tg1, Vs.tg2, Vs.ifE, Vs.yes, Vs.frz, Vs.lcAn, Vs.lcM, Vs.allD, Vs.itsL, Vs.lstB, Vs.lenD, Vs.its, Vs.leD, Vs.ltD, Vs.gtD, Vs.geD, Vs.int2, Vs.fB, Vs.fI, Vs.addD, Vs.isI2, Vs.isT2, Vs.subD, Vs.catT, Vs.catL, Vs.ixD, Vs.ixO, Vs.forA, Vs.forR1, Vs.forR2, Vs.forL, Vs.stp, Vs.stp2, Vs.meV, Vs.mutV, Vs.vL, Vs.gExt, Vs.gApp, Vs.lstF, Vs.tupE, Vs.slV, Vs.sl3, Vs.slD, Vs.tupD, Vs.sumD, Vs.absD, Vs.intD, Vs.lcR1, Vs.lcR2, Vs.lcL, Vs.forZ, Vs.zipD, Vs.repF, Vs.subS, Vs.gSet, Vs.ixV, Vs.eqD, Vs.neD, Vs.isnD, Vs.isbD, Vs.max2D, Vs.asgT, Vs.clI, Vs.Sl.to, Vs.parO, Vs.asI, ID]
theorem rng1_get {m : Int} {k : Nat} {d : D} (h : (rng 1 (m + 1))[k]? = some d) : d = .int (1 + k) ∧ (k : Int) < m := by
  unfold rng at h
  simp only [List.getElem?_map, Option.map_eq_some_iff] at h
  obtain ⟨a, h1, rfl⟩ := h
  have := List.getElem?_eq_some_iff.mp h1
  obtain ⟨hk, rfl⟩ := this
  simp [Vs.runP, Vs.runI, Vs.io0, Vs.retS, Vs.setS, Vs.setO, Vs.putS, Vs.lf, Vs.sq, Vs.nxt, Vs.ifS, Vs.bnd, Vs.ret, Vs.bad, Vs.opt, Vs.andE, Vs.orE, Vs.notE, Vs.asB, Vs.args, Vs.vV, Vs.vP, Vs.isD, Vs.isO, Vs.tyD, Vs.clD, Vs.kfB, Vs.cl, Vs.b2, Vs.ch, Vs.andT, Vs.orT, Vs.notT, Vs.dropS, Vs.exS, Vs.outB, K74.ite_ev, K74.itA_tup, K74.itA_lst, K74.itA_sq, K74.kit_ii, K74.kit_ib, K74.kit_bi, K74.kit_bb, K74.kit_ni, K74.kit_si, K74.kit_ti, K74.kit_li, K74.kit_di, K74.kit_tt, K74.kit_it, K74.kit_bt, K74.kit_nt, K74.kit_st, K74.kit_lt, K74.kit_dt, Vs.inn, Vs.lend, Vs.unl, Vs.unl1, Vs.fg, Vs.stE, Vs.tg1, Vs.tg2, Vs.ifE, Vs.yes, Vs.frz, Vs.lcAn, Vs.lcM, Vs.allD, Vs.itsL, Vs.lstB, Vs.lenD, Vs.its, Vs.leD, Vs.ltD, Vs.gtD, Vs.geD, Vs.int2, Vs.fB, Vs.fI, Vs.addD, Vs.isI2, Vs.isT2, Vs.subD, Vs.catT, Vs.catL, Vs.ixD, Vs.ixO, Vs.forA, Vs.forR1, Vs.forR2, Vs.forL, Vs.stp, Vs.stp2, Vs.meV, Vs.mutV, Vs.vL, Vs.gExt, Vs.gApp, Vs.lstF, Vs.tupE, Vs.slV, Vs.sl3, Vs.slD, Vs.tupD, Vs.sumD, Vs.absD, Vs.intD, Vs.lcR1, Vs.lcR2, Vs.lcL, Vs.forZ, Vs.zipD, Vs.repF, Vs.subS, Vs.gSet, Vs.ixV, Vs.eqD, Vs.neD, Vs.isnD, Vs.isbD, Vs.max2D, Vs.asgT, Vs.clI, Vs.Sl.to, Vs.parO, Vs.asI] at hk ⊢
  omega
theorem rule_loop (K : PySem.W.Frag) {h : Hnd} {n : Nat} {s st : Int} {d0 : D} (hs : 1 ≤ s ∧ s ≤ 5) (ht : 1 ≤ st ∧ st ≤ s) (k : h.Ok n) (hn : n < 2 ^ 49) :
    ∃ (h' : Hnd) (ws : List (List Int)), loop [5, 6, 7] (lp__law_rule_1 K) (rng 1 (s + 1)) [.io h.ds, .sh d0, .sh (.int s), .sh (.int st), .ol [], .no, .no, .no] = .nx [.io h'.ds, .sh d0, .sh (.int s), .sh (.int st), .ol (ws.map ID), .no, .no, .no] ∧ (ws.length : Int) = s ∧ (∀ w ∈ ws, WOk s w) ∧ h'.Ok (n + 20) := by
  obtain ⟨ev, e, hi⟩ := loop_inv (cl := [5, 6, 7]) (step := lp__law_rule_1 K) (rng 1 (s + 1)) (fun j ev => ∃ (h : Hnd) (ws : List (List Int)), ev = [.io h.ds, .sh d0, .sh (.int s), .sh (.int st), .ol (ws.map ID), .no, .no, .no] ∧ ws.length = j ∧ (∀ w ∈ ws, WOk s w) ∧ h.Ok (n + 4 * j)) [.io h.ds, .sh d0, .sh (.int s), .sh (.int st), .ol [], .no, .no, .no] (fun j d ev hj hi => by
    obtain ⟨h, ws, rfl, wl, wo, hk⟩ := hi
    obtain ⟨rfl, hj2⟩ := rng1_get hj
    obtain ⟨h', w, x, y, z, e, w1, k'⟩ := word_step K (i := 1 + (j : Int)) (d0 := d0) (rs := ws.map ID) hs ht hk (by omega) (by simp [Vs.runP, Vs.runI, Vs.io0, Vs.retS, Vs.setS, Vs.setO, Vs.putS, Vs.lf, Vs.sq, Vs.nxt, Vs.ifS, Vs.bnd, Vs.ret, Vs.bad, Vs.opt, Vs.andE, Vs.orE, Vs.notE, Vs.asB, Vs.args, Vs.vV, Vs.vP, Vs.isD, Vs.isO, Vs.tyD, Vs.clD, Vs.kfB, Vs.cl, Vs.b2, Vs.ch, Vs.andT, Vs.orT, Vs.notT, Vs.dropS, Vs.exS, Vs.outB, K74.ite_ev, K74.itA_tup, K74.itA_lst, K74.itA_sq, K74.kit_ii, K74.kit_ib, K74.kit_bi, K74.kit_bb, K74.kit_ni, K74.kit_si, K74.kit_ti, K74.kit_li, K74.kit_di, K74.kit_tt, K74.kit_it, K74.kit_bt, K74.kit_nt, K74.kit_st, K74.kit_lt, K74.kit_dt, Vs.inn, Vs.lend, Vs.unl, Vs.unl1, Vs.fg, Vs.stE, Vs.tg1, Vs.tg2, Vs.ifE, Vs.yes, Vs.frz, Vs.lcAn, Vs.lcM, Vs.allD, Vs.itsL, Vs.lstB, Vs.lenD, Vs.its, Vs.leD, Vs.ltD, Vs.gtD, Vs.geD, Vs.int2, Vs.fB, Vs.fI, Vs.addD, Vs.isI2, Vs.isT2, Vs.subD, Vs.catT, Vs.catL, Vs.ixD, Vs.ixO, Vs.forA, Vs.forR1, Vs.forR2, Vs.forL, Vs.stp, Vs.stp2, Vs.meV, Vs.mutV, Vs.vL, Vs.gExt, Vs.gApp, Vs.lstF, Vs.tupE, Vs.slV, Vs.sl3, Vs.slD, Vs.tupD, Vs.sumD, Vs.absD, Vs.intD, Vs.lcR1, Vs.lcR2, Vs.lcL, Vs.forZ, Vs.zipD, Vs.repF, Vs.subS, Vs.gSet, Vs.ixV, Vs.eqD, Vs.neD, Vs.isnD, Vs.isbD, Vs.max2D, Vs.asgT, Vs.clI, Vs.Sl.to, Vs.parO, Vs.asI]; omega)
    refine ⟨_, e, h', ws ++ [w], ?_, by simp [Vs.runP, Vs.runI, Vs.io0, Vs.retS, Vs.setS, Vs.setO, Vs.putS, Vs.lf, Vs.sq, Vs.nxt, Vs.ifS, Vs.bnd, Vs.ret, Vs.bad, Vs.opt, Vs.andE, Vs.orE, Vs.notE, Vs.asB, Vs.args, Vs.vV, Vs.vP, Vs.isD, Vs.isO, Vs.tyD, Vs.clD, Vs.kfB, Vs.cl, Vs.b2, Vs.ch, Vs.andT, Vs.orT, Vs.notT, Vs.dropS, Vs.exS, Vs.outB, K74.ite_ev, K74.itA_tup, K74.itA_lst, K74.itA_sq, K74.kit_ii, K74.kit_ib, K74.kit_bi, K74.kit_bb, K74.kit_ni, K74.kit_si, K74.kit_ti, K74.kit_li, K74.kit_di, K74.kit_tt, K74.kit_it, K74.kit_bt, K74.kit_nt, K74.kit_st, K74.kit_lt, K74.kit_dt, Vs.inn, Vs.lend, Vs.unl, Vs.unl1, Vs.fg, Vs.stE, Vs.tg1, Vs.tg2, Vs.ifE, Vs.yes, Vs.frz, Vs.lcAn, Vs.lcM, Vs.allD, Vs.itsL, Vs.lstB, Vs.lenD, Vs.its, Vs.leD, Vs.ltD, Vs.gtD, Vs.geD, Vs.int2, Vs.fB, Vs.fI, Vs.addD, Vs.isI2, Vs.isT2, Vs.subD, Vs.catT, Vs.catL, Vs.ixD, Vs.ixO, Vs.forA, Vs.forR1, Vs.forR2, Vs.forL, Vs.stp, Vs.stp2, Vs.meV, Vs.mutV, Vs.vL, Vs.gExt, Vs.gApp, Vs.lstF, Vs.tupE, Vs.slV, Vs.sl3, Vs.slD, Vs.tupD, Vs.sumD, Vs.absD, Vs.intD, Vs.lcR1, Vs.lcR2, Vs.lcL, Vs.forZ, Vs.zipD, Vs.repF, Vs.subS, Vs.gSet, Vs.ixV, Vs.eqD, Vs.neD, Vs.isnD, Vs.isbD, Vs.max2D, Vs.asgT, Vs.clI, Vs.Sl.to, Vs.parO, Vs.asI, wl], fun v hv => ?_, k'.mono (by omega)⟩
    · simp [Vs.runP, Vs.runI, Vs.io0, Vs.retS, Vs.setS, Vs.setO, Vs.putS, Vs.lf, Vs.sq, Vs.nxt, Vs.ifS, Vs.bnd, Vs.ret, Vs.bad, Vs.opt, Vs.andE, Vs.orE, Vs.notE, Vs.asB, Vs.args, Vs.vV, Vs.vP, Vs.isD, Vs.isO, Vs.tyD, Vs.clD, Vs.kfB, Vs.cl, Vs.b2, Vs.ch, Vs.andT, Vs.orT, Vs.notT, Vs.dropS, Vs.exS, Vs.outB, K74.ite_ev, K74.itA_tup, K74.itA_lst, K74.itA_sq, K74.kit_ii, K74.kit_ib, K74.kit_bi, K74.kit_bb, K74.kit_ni, K74.kit_si, K74.kit_ti, K74.kit_li, K74.kit_di, K74.kit_tt, K74.kit_it, K74.kit_bt, K74.kit_nt, K74.kit_st, K74.kit_lt, K74.kit_dt, Vs.inn, Vs.lend, Vs.unl, Vs.unl1, Vs.fg, Vs.stE, Vs.tg1, Vs.tg2, Vs.ifE, Vs.yes, Vs.frz, Vs.lcAn, Vs.lcM, Vs.allD, Vs.itsL, Vs.lstB, Vs.lenD, Vs.its, Vs.leD, Vs.ltD, Vs.gtD, Vs.geD, Vs.int2, Vs.fB, Vs.fI, Vs.addD, Vs.isI2, Vs.isT2, Vs.subD, Vs.catT, Vs.catL, Vs.ixD, Vs.ixO, Vs.forA, Vs.forR1, Vs.forR2, Vs.forL, Vs.stp, Vs.stp2, Vs.meV, Vs.mutV, Vs.vL, Vs.gExt, Vs.gApp, Vs.lstF, Vs.tupE, Vs.slV, Vs.sl3, Vs.slD, Vs.tupD, Vs.sumD, Vs.absD, Vs.intD, Vs.lcR1, Vs.lcR2, Vs.lcL, Vs.forZ, Vs.zipD, Vs.repF, Vs.subS, Vs.gSet, Vs.ixV, Vs.eqD, Vs.neD, Vs.isnD, Vs.isbD, Vs.max2D, Vs.asgT, Vs.clI, Vs.Sl.to, Vs.parO, Vs.asI]
    · rcases List.mem_append.mp hv with hv | hv
      · exact wo v hv
      · simp [Vs.runP, Vs.runI, Vs.io0, Vs.retS, Vs.setS, Vs.setO, Vs.putS, Vs.lf, Vs.sq, Vs.nxt, Vs.ifS, Vs.bnd, Vs.ret, Vs.bad, Vs.opt, Vs.andE, Vs.orE, Vs.notE, Vs.asB, Vs.args, Vs.vV, Vs.vP, Vs.isD, Vs.isO, Vs.tyD, Vs.clD, Vs.kfB, Vs.cl, Vs.b2, Vs.ch, Vs.andT, Vs.orT, Vs.notT, Vs.dropS, Vs.exS, Vs.outB, K74.ite_ev, K74.itA_tup, K74.itA_lst, K74.itA_sq, K74.kit_ii, K74.kit_ib, K74.kit_bi, K74.kit_bb, K74.kit_ni, K74.kit_si, K74.kit_ti, K74.kit_li, K74.kit_di, K74.kit_tt, K74.kit_it, K74.kit_bt, K74.kit_nt, K74.kit_st, K74.kit_lt, K74.kit_dt, Vs.inn, Vs.lend, Vs.unl, Vs.unl1, Vs.fg, Vs.stE, Vs.tg1, Vs.tg2, Vs.ifE, Vs.yes, Vs.frz, Vs.lcAn, Vs.lcM, Vs.allD, Vs.itsL, Vs.lstB, Vs.lenD, Vs.its, Vs.leD, Vs.ltD, Vs.gtD, Vs.geD, Vs.int2, Vs.fB, Vs.fI, Vs.addD, Vs.isI2, Vs.isT2, Vs.subD, Vs.catT, Vs.catL, Vs.ixD, Vs.ixO, Vs.forA, Vs.forR1, Vs.forR2, Vs.forL, Vs.stp, Vs.stp2, Vs.meV, Vs.mutV, Vs.vL, Vs.gExt, Vs.gApp, Vs.lstF, Vs.tupE, Vs.slV, Vs.sl3, Vs.slD, Vs.tupD, Vs.sumD, Vs.absD, Vs.intD, Vs.lcR1, Vs.lcR2, Vs.lcL, Vs.forZ, Vs.zipD, Vs.repF, Vs.subS, Vs.gSet, Vs.ixV, Vs.eqD, Vs.neD, Vs.isnD, Vs.isbD, Vs.max2D, Vs.asgT, Vs.clI, Vs.Sl.to, Vs.parO, Vs.asI] at hv; subst hv; exact w1) ⟨h, [], rfl, rfl, (fun w hw => by cases hw), k⟩
  obtain ⟨h', ws, rfl, wl, wo, hk⟩ := hi
  rw [Vs.rng_len] at wl hk
  refine ⟨h', ws, e, by omega, wo, hk.mono (by omega)⟩
theorem rule_ok (K : PySem.W.Frag) {h : Hnd} {n : Nat} (k : h.Ok n) (hn : n < 2 ^ 48) : ∃ (h' : Hnd) (rule : List (List Int)) (st : Int), r__law_rule K h.ds [.int 5] = .ok (.tup [RD rule, .int st]) h'.ds ∧ RuOk rule ∧ rule.length ≤ 5 ∧ (∀ w ∈ rule, w.length ≤ 3) ∧ h'.Ok (n + 22) := by
  obtain ⟨h1, i, e1, i0, i1, k1⟩ := draw_ok K (a := 5) k (by omega) (by omega) (by omega)
  obtain ⟨h2, j, e2, j0, j1, k2⟩ := draw_ok K (a := 1 + i) k1 (by omega) (by omega) (by omega)
  obtain ⟨h3, ws, e3, wl, wo, k3⟩ := rule_loop K (s := 1 + i) (st := 1 + j) (d0 := .int 5) ⟨by omega, by omega⟩ ⟨by omega, by omega⟩ k2 (by omega)
  have ww : ∀ w ∈ ws, 1 ≤ w.length ∧ w.length ≤ 3 ∧ ∀ x ∈ w, 1 ≤ x ∧ x ≤ (ws.length : Int) := fun w hw => by
    obtain ⟨a, b, c⟩ := wo w hw
    exact ⟨a, b, fun x hx => by rw [wl]; exact c x hx⟩
  refine ⟨h3, ws, 1 + j, ?_, ⟨by omega, by omega, fun w hw => (ww w hw).1, fun w hw => by have := (ww w hw).2.1; omega, fun w hw => (ww w hw).2.2⟩, by omega, fun w hw => (ww w hw).2.1, k3⟩
  have hr : -4611686018427387904 ≤ 1 + i + 1 ∧ 1 + i + 1 < 4611686018427387904 := by omega
  have b2 : 2 ≤ big := by unfold big; omega
  generalize hX : lp__law_rule_1 K = X at e3
  simp [Vs.runP, Vs.runI, Vs.io0, Vs.retS, Vs.setS, Vs.setO, Vs.putS, Vs.lf, Vs.sq, Vs.nxt, Vs.ifS, Vs.bnd, Vs.ret, Vs.bad, Vs.opt, Vs.andE, Vs.orE, Vs.notE, Vs.asB, Vs.args, Vs.vV, Vs.vP, Vs.isD, Vs.isO, Vs.tyD, Vs.clD, Vs.kfB, Vs.cl, Vs.b2, Vs.ch, Vs.andT, Vs.orT, Vs.notT, Vs.dropS, Vs.exS, Vs.outB, K74.ite_ev, K74.itA_tup, K74.itA_lst, K74.itA_sq, K74.kit_ii, K74.kit_ib, K74.kit_bi, K74.kit_bb, K74.kit_ni, K74.kit_si, K74.kit_ti, K74.kit_li, K74.kit_di, K74.kit_tt, K74.kit_it, K74.kit_bt, K74.kit_nt, K74.kit_st, K74.kit_lt, K74.kit_dt, Vs.inn, Vs.lend, Vs.unl, Vs.unl1, Vs.fg, Vs.stE, Vs.tg1, Vs.tg2, Vs.ifE, Vs.yes, Vs.frz, Vs.lcAn, Vs.lcM, Vs.allD, Vs.itsL, Vs.lstB, Vs.lenD, Vs.its, Vs.leD, Vs.ltD, Vs.gtD, Vs.geD, Vs.int2, Vs.fB, Vs.fI, Vs.addD, Vs.isI2, Vs.isT2, Vs.subD, Vs.catT, Vs.catL, Vs.ixD, Vs.ixO, Vs.forA, Vs.forR1, Vs.forR2, Vs.forL, Vs.stp, Vs.stp2, Vs.meV, Vs.mutV, Vs.vL, Vs.gExt, Vs.gApp, Vs.lstF, Vs.tupE, Vs.slV, Vs.sl3, Vs.slD, Vs.tupD, Vs.sumD, Vs.absD, Vs.intD, Vs.lcR1, Vs.lcR2, Vs.lcL, Vs.forZ, Vs.zipD, Vs.repF, Vs.subS, Vs.gSet, Vs.ixV, Vs.eqD, Vs.neD, Vs.isnD, Vs.isbD, Vs.max2D, Vs.asgT, Vs.clI, Vs.Sl.to, Vs.parO, Vs.asI, r__law_rule, m__law_rule, e1, e2, hX, hr, e3, b2, RD]
end K74
namespace K74
open PySem PySem.Spec PyProof.Rows L2 LamX NdefX HotX Vs






theorem hand_ok (K : PySem.W.Frag) {ns : List Int} (hl : ns.length ≤ 63) : ∃ h : Hnd, r__law_hand K [.sq (ns.map .int)] = .okl h.ds [] ∧ h.Ok 0 := by
  have m2 : CPow 10 36 := ⟨by omega, by omega, by omega⟩
  have m1 : CMulW 3 ((ns.take 60).length : Int) := mulW_ok (by omega) (by have : (ns.take 60).length ≤ 60 := List.length_take_le ..; omega)
  have c1 : cutG (ns.map D.int) none (some 60) = (ns.take 60).map .int := by
    simp [Vs.runP, Vs.runI, Vs.io0, Vs.retS, Vs.setS, Vs.setO, Vs.putS, Vs.lf, Vs.sq, Vs.nxt, Vs.ifS, Vs.bnd, Vs.ret, Vs.bad, Vs.opt, Vs.andE, Vs.orE, Vs.notE, Vs.asB, Vs.args, Vs.vV, Vs.vP, Vs.isD, Vs.isO, Vs.tyD, Vs.clD, Vs.kfB, Vs.cl, Vs.b2, Vs.ch, Vs.andT, Vs.orT, Vs.notT, Vs.dropS, Vs.exS, Vs.outB, K74.ite_ev, K74.itA_tup, K74.itA_lst, K74.itA_sq, K74.kit_ii, K74.kit_ib, K74.kit_bi, K74.kit_bb, K74.kit_ni, K74.kit_si, K74.kit_ti, K74.kit_li, K74.kit_di, K74.kit_tt, K74.kit_it, K74.kit_bt, K74.kit_nt, K74.kit_st, K74.kit_lt, K74.kit_dt, Vs.inn, Vs.lend, Vs.unl, Vs.unl1, Vs.fg, Vs.stE, Vs.tg1, Vs.tg2, Vs.ifE, Vs.yes, Vs.frz, Vs.lcAn, Vs.lcM, Vs.allD, Vs.itsL, Vs.lstB, Vs.lenD, Vs.its, Vs.leD, Vs.ltD, Vs.gtD, Vs.geD, Vs.int2, Vs.fB, Vs.fI, Vs.addD, Vs.isI2, Vs.isT2, Vs.subD, Vs.catT, Vs.catL, Vs.ixD, Vs.ixO, Vs.forA, Vs.forR1, Vs.forR2, Vs.forL, Vs.stp, Vs.stp2, Vs.meV, Vs.mutV, Vs.vL, Vs.gExt, Vs.gApp, Vs.lstF, Vs.tupE, Vs.slV, Vs.sl3, Vs.slD, Vs.tupD, Vs.sumD, Vs.absD, Vs.intD, Vs.lcR1, Vs.lcR2, Vs.lcL, Vs.forZ, Vs.zipD, Vs.repF, Vs.subS, Vs.gSet, Vs.ixV, Vs.eqD, Vs.neD, Vs.isnD, Vs.isbD, Vs.max2D, Vs.asgT, Vs.clI, Vs.Sl.to, Vs.parO, Vs.asI, cutG, HT.sIx]
  have hb : (ns.take 60).length ≤ big := by simp [Vs.runP, Vs.runI, Vs.io0, Vs.retS, Vs.setS, Vs.setO, Vs.putS, Vs.lf, Vs.sq, Vs.nxt, Vs.ifS, Vs.bnd, Vs.ret, Vs.bad, Vs.opt, Vs.andE, Vs.orE, Vs.notE, Vs.asB, Vs.args, Vs.vV, Vs.vP, Vs.isD, Vs.isO, Vs.tyD, Vs.clD, Vs.kfB, Vs.cl, Vs.b2, Vs.ch, Vs.andT, Vs.orT, Vs.notT, Vs.dropS, Vs.exS, Vs.outB, K74.ite_ev, K74.itA_tup, K74.itA_lst, K74.itA_sq, K74.kit_ii, K74.kit_ib, K74.kit_bi, K74.kit_bb, K74.kit_ni, K74.kit_si, K74.kit_ti, K74.kit_li, K74.kit_di, K74.kit_tt, K74.kit_it, K74.kit_bt, K74.kit_nt, K74.kit_st, K74.kit_lt, K74.kit_dt, Vs.inn, Vs.lend, Vs.unl, Vs.unl1, Vs.fg, Vs.stE, Vs.tg1, Vs.tg2, Vs.ifE, Vs.yes, Vs.frz, Vs.lcAn, Vs.lcM, Vs.allD, Vs.itsL, Vs.lstB, Vs.lenD, Vs.its, Vs.leD, Vs.ltD, Vs.gtD, Vs.geD, Vs.int2, Vs.fB, Vs.fI, Vs.addD, Vs.isI2, Vs.isT2, Vs.subD, Vs.catT, Vs.catL, Vs.ixD, Vs.ixO, Vs.forA, Vs.forR1, Vs.forR2, Vs.forL, Vs.stp, Vs.stp2, Vs.meV, Vs.mutV, Vs.vL, Vs.gExt, Vs.gApp, Vs.lstF, Vs.tupE, Vs.slV, Vs.sl3, Vs.slD, Vs.tupD, Vs.sumD, Vs.absD, Vs.intD, Vs.lcR1, Vs.lcR2, Vs.lcL, Vs.forZ, Vs.zipD, Vs.repF, Vs.subS, Vs.gSet, Vs.ixV, Vs.eqD, Vs.neD, Vs.isnD, Vs.isbD, Vs.max2D, Vs.asgT, Vs.clI, Vs.Sl.to, Vs.parO, Vs.asI]; unfold big; omega
  have c2 : ∀ d0 : D, lcA [2] (el__law_hand_0 K) ((ns.take 60).map .int) [.sh d0, .no, .no] = .ok ((ns.take 60).map fun i => D.int ((if i < 0 then -i else i) % 10 ^ 36)) [.sh d0, .no, .no] := fun d0 => by
    rw [lcA_map (g := fun d => match d with | .int i => .int ((if i < 0 then -i else i) % 10 ^ 36) | _ => .non) (fun d hd => ?_)]
    · rw [List.map_map]; rfl
    · obtain ⟨s, hs, rfl⟩ := List.mem_map.mp hd
      simp [Vs.runP, Vs.runI, Vs.io0, Vs.retS, Vs.setS, Vs.setO, Vs.putS, Vs.lf, Vs.sq, Vs.nxt, Vs.ifS, Vs.bnd, Vs.ret, Vs.bad, Vs.opt, Vs.andE, Vs.orE, Vs.notE, Vs.asB, Vs.args, Vs.vV, Vs.vP, Vs.isD, Vs.isO, Vs.tyD, Vs.clD, Vs.kfB, Vs.cl, Vs.b2, Vs.ch, Vs.andT, Vs.orT, Vs.notT, Vs.dropS, Vs.exS, Vs.outB, K74.ite_ev, K74.itA_tup, K74.itA_lst, K74.itA_sq, K74.kit_ii, K74.kit_ib, K74.kit_bi, K74.kit_bb, K74.kit_ni, K74.kit_si, K74.kit_ti, K74.kit_li, K74.kit_di, K74.kit_tt, K74.kit_it, K74.kit_bt, K74.kit_nt, K74.kit_st, K74.kit_lt, K74.kit_dt, Vs.inn, Vs.lend, Vs.unl, Vs.unl1, Vs.fg, Vs.stE, Vs.tg1, Vs.tg2, Vs.ifE, Vs.yes, Vs.frz, Vs.lcAn, Vs.lcM, Vs.allD, Vs.itsL, Vs.lstB, Vs.lenD, Vs.its, Vs.leD, Vs.ltD, Vs.gtD, Vs.geD, Vs.int2, Vs.fB, Vs.fI, Vs.addD, Vs.isI2, Vs.isT2, Vs.subD, Vs.catT, Vs.catL, Vs.ixD, Vs.ixO, Vs.forA, Vs.forR1, Vs.forR2, Vs.forL, Vs.stp, Vs.stp2, Vs.meV, Vs.mutV, Vs.vL, Vs.gExt, Vs.gApp, Vs.lstF, Vs.tupE, Vs.slV, Vs.sl3, Vs.slD, Vs.tupD, Vs.sumD, Vs.absD, Vs.intD, Vs.lcR1, Vs.lcR2, Vs.lcL, Vs.forZ, Vs.zipD, Vs.repF, Vs.subS, Vs.gSet, Vs.ixV, Vs.eqD, Vs.neD, Vs.isnD, Vs.isbD, Vs.max2D, Vs.asgT, Vs.clI, Vs.Sl.to, Vs.parO, Vs.asI, el__law_hand_0, powD, modD, fIc, m2]
  generalize hX : el__law_hand_0 K = X at c2
  refine ⟨⟨(ns.take 60).map fun i => (if i < 0 then -i else i) % 10 ^ 36, 0, 0, 29 + 3 * ((ns.take 60).length : Int), 0⟩, ?_, ⟨fun c hc => ?_, by simp [Vs.runP, Vs.runI, Vs.io0, Vs.retS, Vs.setS, Vs.setO, Vs.putS, Vs.lf, Vs.sq, Vs.nxt, Vs.ifS, Vs.bnd, Vs.ret, Vs.bad, Vs.opt, Vs.andE, Vs.orE, Vs.notE, Vs.asB, Vs.args, Vs.vV, Vs.vP, Vs.isD, Vs.isO, Vs.tyD, Vs.clD, Vs.kfB, Vs.cl, Vs.b2, Vs.ch, Vs.andT, Vs.orT, Vs.notT, Vs.dropS, Vs.exS, Vs.outB, K74.ite_ev, K74.itA_tup, K74.itA_lst, K74.itA_sq, K74.kit_ii, K74.kit_ib, K74.kit_bi, K74.kit_bb, K74.kit_ni, K74.kit_si, K74.kit_ti, K74.kit_li, K74.kit_di, K74.kit_tt, K74.kit_it, K74.kit_bt, K74.kit_nt, K74.kit_st, K74.kit_lt, K74.kit_dt, Vs.inn, Vs.lend, Vs.unl, Vs.unl1, Vs.fg, Vs.stE, Vs.tg1, Vs.tg2, Vs.ifE, Vs.yes, Vs.frz, Vs.lcAn, Vs.lcM, Vs.allD, Vs.itsL, Vs.lstB, Vs.lenD, Vs.its, Vs.leD, Vs.ltD, Vs.gtD, Vs.geD, Vs.int2, Vs.fB, Vs.fI, Vs.addD, Vs.isI2, Vs.isT2, Vs.subD, Vs.catT, Vs.catL, Vs.ixD, Vs.ixO, Vs.forA, Vs.forR1, Vs.forR2, Vs.forL, Vs.stp, Vs.stp2, Vs.meV, Vs.mutV, Vs.vL, Vs.gExt, Vs.gApp, Vs.lstF, Vs.tupE, Vs.slV, Vs.sl3, Vs.slD, Vs.tupD, Vs.sumD, Vs.absD, Vs.intD, Vs.lcR1, Vs.lcR2, Vs.lcL, Vs.forZ, Vs.zipD, Vs.repF, Vs.subS, Vs.gSet, Vs.ixV, Vs.eqD, Vs.neD, Vs.isnD, Vs.isbD, Vs.max2D, Vs.asgT, Vs.clI, Vs.Sl.to, Vs.parO, Vs.asI], by simp [Vs.runP, Vs.runI, Vs.io0, Vs.retS, Vs.setS, Vs.setO, Vs.putS, Vs.lf, Vs.sq, Vs.nxt, Vs.ifS, Vs.bnd, Vs.ret, Vs.bad, Vs.opt, Vs.andE, Vs.orE, Vs.notE, Vs.asB, Vs.args, Vs.vV, Vs.vP, Vs.isD, Vs.isO, Vs.tyD, Vs.clD, Vs.kfB, Vs.cl, Vs.b2, Vs.ch, Vs.andT, Vs.orT, Vs.notT, Vs.dropS, Vs.exS, Vs.outB, K74.ite_ev, K74.itA_tup, K74.itA_lst, K74.itA_sq, K74.kit_ii, K74.kit_ib, K74.kit_bi, K74.kit_bb, K74.kit_ni, K74.kit_si, K74.kit_ti, K74.kit_li, K74.kit_di, K74.kit_tt, K74.kit_it, K74.kit_bt, K74.kit_nt, K74.kit_st, K74.kit_lt, K74.kit_dt, Vs.inn, Vs.lend, Vs.unl, Vs.unl1, Vs.fg, Vs.stE, Vs.tg1, Vs.tg2, Vs.ifE, Vs.yes, Vs.frz, Vs.lcAn, Vs.lcM, Vs.allD, Vs.itsL, Vs.lstB, Vs.lenD, Vs.its, Vs.leD, Vs.ltD, Vs.gtD, Vs.geD, Vs.int2, Vs.fB, Vs.fI, Vs.addD, Vs.isI2, Vs.isT2, Vs.subD, Vs.catT, Vs.catL, Vs.ixD, Vs.ixO, Vs.forA, Vs.forR1, Vs.forR2, Vs.forL, Vs.stp, Vs.stp2, Vs.meV, Vs.mutV, Vs.vL, Vs.gExt, Vs.gApp, Vs.lstF, Vs.tupE, Vs.slV, Vs.sl3, Vs.slD, Vs.tupD, Vs.sumD, Vs.absD, Vs.intD, Vs.lcR1, Vs.lcR2, Vs.lcL, Vs.forZ, Vs.zipD, Vs.repF, Vs.subS, Vs.gSet, Vs.ixV, Vs.eqD, Vs.neD, Vs.isnD, Vs.isbD, Vs.max2D, Vs.asgT, Vs.clI, Vs.Sl.to, Vs.parO, Vs.asI], by simp [Vs.runP, Vs.runI, Vs.io0, Vs.retS, Vs.setS, Vs.setO, Vs.putS, Vs.lf, Vs.sq, Vs.nxt, Vs.ifS, Vs.bnd, Vs.ret, Vs.bad, Vs.opt, Vs.andE, Vs.orE, Vs.notE, Vs.asB, Vs.args, Vs.vV, Vs.vP, Vs.isD, Vs.isO, Vs.tyD, Vs.clD, Vs.kfB, Vs.cl, Vs.b2, Vs.ch, Vs.andT, Vs.orT, Vs.notT, Vs.dropS, Vs.exS, Vs.outB, K74.ite_ev, K74.itA_tup, K74.itA_lst, K74.itA_sq, K74.kit_ii, K74.kit_ib, K74.kit_bi, K74.kit_bb, K74.kit_ni, K74.kit_si, K74.kit_ti, K74.kit_li, K74.kit_di, K74.kit_tt, K74.kit_it, K74.kit_bt, K74.kit_nt, K74.kit_st, K74.kit_lt, K74.kit_dt, Vs.inn, Vs.lend, Vs.unl, Vs.unl1, Vs.fg, Vs.stE, Vs.tg1, Vs.tg2, Vs.ifE, Vs.yes, Vs.frz, Vs.lcAn, Vs.lcM, Vs.allD, Vs.itsL, Vs.lstB, Vs.lenD, Vs.its, Vs.leD, Vs.ltD, Vs.gtD, Vs.geD, Vs.int2, Vs.fB, Vs.fI, Vs.addD, Vs.isI2, Vs.isT2, Vs.subD, Vs.catT, Vs.catL, Vs.ixD, Vs.ixO, Vs.forA, Vs.forR1, Vs.forR2, Vs.forL, Vs.stp, Vs.stp2, Vs.meV, Vs.mutV, Vs.vL, Vs.gExt, Vs.gApp, Vs.lstF, Vs.tupE, Vs.slV, Vs.sl3, Vs.slD, Vs.tupD, Vs.sumD, Vs.absD, Vs.intD, Vs.lcR1, Vs.lcR2, Vs.lcL, Vs.forZ, Vs.zipD, Vs.repF, Vs.subS, Vs.gSet, Vs.ixV, Vs.eqD, Vs.neD, Vs.isnD, Vs.isbD, Vs.max2D, Vs.asgT, Vs.clI, Vs.Sl.to, Vs.parO, Vs.asI], by simp [Vs.runP, Vs.runI, Vs.io0, Vs.retS, Vs.setS, Vs.setO, Vs.putS, Vs.lf, Vs.sq, Vs.nxt, Vs.ifS, Vs.bnd, Vs.ret, Vs.bad, Vs.opt, Vs.andE, Vs.orE, Vs.notE, Vs.asB, Vs.args, Vs.vV, Vs.vP, Vs.isD, Vs.isO, Vs.tyD, Vs.clD, Vs.kfB, Vs.cl, Vs.b2, Vs.ch, Vs.andT, Vs.orT, Vs.notT, Vs.dropS, Vs.exS, Vs.outB, K74.ite_ev, K74.itA_tup, K74.itA_lst, K74.itA_sq, K74.kit_ii, K74.kit_ib, K74.kit_bi, K74.kit_bb, K74.kit_ni, K74.kit_si, K74.kit_ti, K74.kit_li, K74.kit_di, K74.kit_tt, K74.kit_it, K74.kit_bt, K74.kit_nt, K74.kit_st, K74.kit_lt, K74.kit_dt, Vs.inn, Vs.lend, Vs.unl, Vs.unl1, Vs.fg, Vs.stE, Vs.tg1, Vs.tg2, Vs.ifE, Vs.yes, Vs.frz, Vs.lcAn, Vs.lcM, Vs.allD, Vs.itsL, Vs.lstB, Vs.lenD, Vs.its, Vs.leD, Vs.ltD, Vs.gtD, Vs.geD, Vs.int2, Vs.fB, Vs.fI, Vs.addD, Vs.isI2, Vs.isT2, Vs.subD, Vs.catT, Vs.catL, Vs.ixD, Vs.ixO, Vs.forA, Vs.forR1, Vs.forR2, Vs.forL, Vs.stp, Vs.stp2, Vs.meV, Vs.mutV, Vs.vL, Vs.gExt, Vs.gApp, Vs.lstF, Vs.tupE, Vs.slV, Vs.sl3, Vs.slD, Vs.tupD, Vs.sumD, Vs.absD, Vs.intD, Vs.lcR1, Vs.lcR2, Vs.lcL, Vs.forZ, Vs.zipD, Vs.repF, Vs.subS, Vs.gSet, Vs.ixV, Vs.eqD, Vs.neD, Vs.isnD, Vs.isbD, Vs.max2D, Vs.asgT, Vs.clI, Vs.Sl.to, Vs.parO, Vs.asI]; omega, by simp [Vs.runP, Vs.runI, Vs.io0, Vs.retS, Vs.setS, Vs.setO, Vs.putS, Vs.lf, Vs.sq, Vs.nxt, Vs.ifS, Vs.bnd, Vs.ret, Vs.bad, Vs.opt, Vs.andE, Vs.orE, Vs.notE, Vs.asB, Vs.args, Vs.vV, Vs.vP, Vs.isD, Vs.isO, Vs.tyD, Vs.clD, Vs.kfB, Vs.cl, Vs.b2, Vs.ch, Vs.andT, Vs.orT, Vs.notT, Vs.dropS, Vs.exS, Vs.outB, K74.ite_ev, K74.itA_tup, K74.itA_lst, K74.itA_sq, K74.kit_ii, K74.kit_ib, K74.kit_bi, K74.kit_bb, K74.kit_ni, K74.kit_si, K74.kit_ti, K74.kit_li, K74.kit_di, K74.kit_tt, K74.kit_it, K74.kit_bt, K74.kit_nt, K74.kit_st, K74.kit_lt, K74.kit_dt, Vs.inn, Vs.lend, Vs.unl, Vs.unl1, Vs.fg, Vs.stE, Vs.tg1, Vs.tg2, Vs.ifE, Vs.yes, Vs.frz, Vs.lcAn, Vs.lcM, Vs.allD, Vs.itsL, Vs.lstB, Vs.lenD, Vs.its, Vs.leD, Vs.ltD, Vs.gtD, Vs.geD, Vs.int2, Vs.fB, Vs.fI, Vs.addD, Vs.isI2, Vs.isT2, Vs.subD, Vs.catT, Vs.catL, Vs.ixD, Vs.ixO, Vs.forA, Vs.forR1, Vs.forR2, Vs.forL, Vs.stp, Vs.stp2, Vs.meV, Vs.mutV, Vs.vL, Vs.gExt, Vs.gApp, Vs.lstF, Vs.tupE, Vs.slV, Vs.sl3, Vs.slD, Vs.tupD, Vs.sumD, Vs.absD, Vs.intD, Vs.lcR1, Vs.lcR2, Vs.lcL, Vs.forZ, Vs.zipD, Vs.repF, Vs.subS, Vs.gSet, Vs.ixV, Vs.eqD, Vs.neD, Vs.isnD, Vs.isbD, Vs.max2D, Vs.asgT, Vs.clI, Vs.Sl.to, Vs.parO, Vs.asI]; omega, by simp [Vs.runP, Vs.runI, Vs.io0, Vs.retS, Vs.setS, Vs.setO, Vs.putS, Vs.lf, Vs.sq, Vs.nxt, Vs.ifS, Vs.bnd, Vs.ret, Vs.bad, Vs.opt, Vs.andE, Vs.orE, Vs.notE, Vs.asB, Vs.args, Vs.vV, Vs.vP, Vs.isD, Vs.isO, Vs.tyD, Vs.clD, Vs.kfB, Vs.cl, Vs.b2, Vs.ch, Vs.andT, Vs.orT, Vs.notT, Vs.dropS, Vs.exS, Vs.outB, K74.ite_ev, K74.itA_tup, K74.itA_lst, K74.itA_sq, K74.kit_ii, K74.kit_ib, K74.kit_bi, K74.kit_bb, K74.kit_ni, K74.kit_si, K74.kit_ti, K74.kit_li, K74.kit_di, K74.kit_tt, K74.kit_it, K74.kit_bt, K74.kit_nt, K74.kit_st, K74.kit_lt, K74.kit_dt, Vs.inn, Vs.lend, Vs.unl, Vs.unl1, Vs.fg, Vs.stE, Vs.tg1, Vs.tg2, Vs.ifE, Vs.yes, Vs.frz, Vs.lcAn, Vs.lcM, Vs.allD, Vs.itsL, Vs.lstB, Vs.lenD, Vs.its, Vs.leD, Vs.ltD, Vs.gtD, Vs.geD, Vs.int2, Vs.fB, Vs.fI, Vs.addD, Vs.isI2, Vs.isT2, Vs.subD, Vs.catT, Vs.catL, Vs.ixD, Vs.ixO, Vs.forA, Vs.forR1, Vs.forR2, Vs.forL, Vs.stp, Vs.stp2, Vs.meV, Vs.mutV, Vs.vL, Vs.gExt, Vs.gApp, Vs.lstF, Vs.tupE, Vs.slV, Vs.sl3, Vs.slD, Vs.tupD, Vs.sumD, Vs.absD, Vs.intD, Vs.lcR1, Vs.lcR2, Vs.lcL, Vs.forZ, Vs.zipD, Vs.repF, Vs.subS, Vs.gSet, Vs.ixV, Vs.eqD, Vs.neD, Vs.isnD, Vs.isbD, Vs.max2D, Vs.asgT, Vs.clI, Vs.Sl.to, Vs.parO, Vs.asI], by simp [Vs.runP, Vs.runI, Vs.io0, Vs.retS, Vs.setS, Vs.setO, Vs.putS, Vs.lf, Vs.sq, Vs.nxt, Vs.ifS, Vs.bnd, Vs.ret, Vs.bad, Vs.opt, Vs.andE, Vs.orE, Vs.notE, Vs.asB, Vs.args, Vs.vV, Vs.vP, Vs.isD, Vs.isO, Vs.tyD, Vs.clD, Vs.kfB, Vs.cl, Vs.b2, Vs.ch, Vs.andT, Vs.orT, Vs.notT, Vs.dropS, Vs.exS, Vs.outB, K74.ite_ev, K74.itA_tup, K74.itA_lst, K74.itA_sq, K74.kit_ii, K74.kit_ib, K74.kit_bi, K74.kit_bb, K74.kit_ni, K74.kit_si, K74.kit_ti, K74.kit_li, K74.kit_di, K74.kit_tt, K74.kit_it, K74.kit_bt, K74.kit_nt, K74.kit_st, K74.kit_lt, K74.kit_dt, Vs.inn, Vs.lend, Vs.unl, Vs.unl1, Vs.fg, Vs.stE, Vs.tg1, Vs.tg2, Vs.ifE, Vs.yes, Vs.frz, Vs.lcAn, Vs.lcM, Vs.allD, Vs.itsL, Vs.lstB, Vs.lenD, Vs.its, Vs.leD, Vs.ltD, Vs.gtD, Vs.geD, Vs.int2, Vs.fB, Vs.fI, Vs.addD, Vs.isI2, Vs.isT2, Vs.subD, Vs.catT, Vs.catL, Vs.ixD, Vs.ixO, Vs.forA, Vs.forR1, Vs.forR2, Vs.forL, Vs.stp, Vs.stp2, Vs.meV, Vs.mutV, Vs.vL, Vs.gExt, Vs.gApp, Vs.lstF, Vs.tupE, Vs.slV, Vs.sl3, Vs.slD, Vs.tupD, Vs.sumD, Vs.absD, Vs.intD, Vs.lcR1, Vs.lcR2, Vs.lcL, Vs.forZ, Vs.zipD, Vs.repF, Vs.subS, Vs.gSet, Vs.ixV, Vs.eqD, Vs.neD, Vs.isnD, Vs.isbD, Vs.max2D, Vs.asgT, Vs.clI, Vs.Sl.to, Vs.parO, Vs.asI]⟩⟩
  · have b5 : 5 ≤ big := by unfold big; omega
    generalize ns.take 60 = ms at *
    have hb' : ms.length ≤ big := hb
    simp [Vs.runP, Vs.runI, Vs.io0, Vs.retS, Vs.setS, Vs.setO, Vs.putS, Vs.lf, Vs.sq, Vs.nxt, Vs.ifS, Vs.bnd, Vs.ret, Vs.bad, Vs.opt, Vs.andE, Vs.orE, Vs.notE, Vs.asB, Vs.args, Vs.vV, Vs.vP, Vs.isD, Vs.isO, Vs.tyD, Vs.clD, Vs.kfB, Vs.cl, Vs.b2, Vs.ch, Vs.andT, Vs.orT, Vs.notT, Vs.dropS, Vs.exS, Vs.outB, K74.ite_ev, K74.itA_tup, K74.itA_lst, K74.itA_sq, K74.kit_ii, K74.kit_ib, K74.kit_bi, K74.kit_bb, K74.kit_ni, K74.kit_si, K74.kit_ti, K74.kit_li, K74.kit_di, K74.kit_tt, K74.kit_it, K74.kit_bt, K74.kit_nt, K74.kit_st, K74.kit_lt, K74.kit_dt, Vs.inn, Vs.lend, Vs.unl, Vs.unl1, Vs.fg, Vs.stE, Vs.tg1, Vs.tg2, Vs.ifE, Vs.yes, Vs.frz, Vs.lcAn, Vs.lcM, Vs.allD, Vs.itsL, Vs.lstB, Vs.lenD, Vs.its, Vs.leD, Vs.ltD, Vs.gtD, Vs.geD, Vs.int2, Vs.fB, Vs.fI, Vs.addD, Vs.isI2, Vs.isT2, Vs.subD, Vs.catT, Vs.catL, Vs.ixD, Vs.ixO, Vs.forA, Vs.forR1, Vs.forR2, Vs.forL, Vs.stp, Vs.stp2, Vs.meV, Vs.mutV, Vs.vL, Vs.gExt, Vs.gApp, Vs.lstF, Vs.tupE, Vs.slV, Vs.sl3, Vs.slD, Vs.tupD, Vs.sumD, Vs.absD, Vs.intD, Vs.lcR1, Vs.lcR2, Vs.lcL, Vs.forZ, Vs.zipD, Vs.repF, Vs.subS, Vs.gSet, Vs.ixV, Vs.eqD, Vs.neD, Vs.isnD, Vs.isbD, Vs.max2D, Vs.asgT, Vs.clI, Vs.Sl.to, Vs.parO, Vs.asI, r__law_hand, m__law_hand, hX, asI, c1, hb', c2, retF, mulD, isTI, fIc, m1, b5, Hnd.ds]
  · obtain ⟨i, hi, rfl⟩ := List.mem_map.mp hc
    omega
end K74
namespace K74
open PySem PySem.Spec PyProof.Rows L2 LamX NdefX HotX Vs






theorem meApp_ok {i : Nat} {f : M (List D)} {ev ev1 : Ev} {es0 es : List D} {d : D} (h0 : ev[i]? = some (.ol es0)) (h : f ev = .ok [d] ev1) (h1 : ev1[i]? = some (.ol es)) (hl : es.length < big) : meV i f gApp ev = .ok .non (ev1.set i (.ol (es ++ [d]))) := by
  have e1 : vL i ev = .ok es0 ev := by unfold vL; rw [h0]
  have e2 : gApp [d] es = some (es ++ [d], .non) := by unfold gApp; simp only; rw [if_pos hl]
  unfold meV
  rw [bnd_ok e1, bnd_ok h]
  unfold mutV
  rw [h1]
  simp only [e2]
theorem sAdd_loop (K : PySem.W.Frag) {e0 e1 e2 e3 e4 e5 e7 : Sl} {m : Int} : ∀ (w f : List Int), Vd f.length w →
    loop [9] (lp__law_sums_1 K) (w.map .int) [e0, e1, e2, e3, e4, e5, .ol (f.map .int), e7, .sh (.int m), .no] = .nx [e0, e1, e2, e3, e4, e5, .ol ((addW f w m).map .int), e7, .sh (.int m), .no]
  | [], f, _ => rfl
  | s :: w, f, hv => by
    obtain ⟨h1, h2⟩ := hv s (List.mem_cons_self ..)
    have hl : (s - 1).toNat < f.length := by omega
    have e : lp__law_sums_1 K (.int s) [e0, e1, e2, e3, e4, e5, .ol (f.map .int), e7, .sh (.int m), .no] = .nx [e0, e1, e2, e3, e4, e5, .ol ((addAt f s m).map .int), e7, .sh (.int m), .sh (.int s)] := by
      obtain ⟨hl', q⟩ := atI_in (xs := f.map D.int) h1 (by simpa [Vs.runP, Vs.runI, Vs.io0, Vs.retS, Vs.setS, Vs.setO, Vs.putS, Vs.lf, Vs.sq, Vs.nxt, Vs.ifS, Vs.bnd, Vs.ret, Vs.bad, Vs.opt, Vs.andE, Vs.orE, Vs.notE, Vs.asB, Vs.args, Vs.vV, Vs.vP, Vs.isD, Vs.isO, Vs.tyD, Vs.clD, Vs.kfB, Vs.cl, Vs.b2, Vs.ch, Vs.andT, Vs.orT, Vs.notT, Vs.dropS, Vs.exS, Vs.outB, K74.ite_ev, K74.itA_tup, K74.itA_lst, K74.itA_sq, K74.kit_ii, K74.kit_ib, K74.kit_bi, K74.kit_bb, K74.kit_ni, K74.kit_si, K74.kit_ti, K74.kit_li, K74.kit_di, K74.kit_tt, K74.kit_it, K74.kit_bt, K74.kit_nt, K74.kit_st, K74.kit_lt, K74.kit_dt, Vs.inn, Vs.lend, Vs.unl, Vs.unl1, Vs.fg, Vs.stE, Vs.tg1, Vs.tg2, Vs.ifE, Vs.yes, Vs.frz, Vs.lcAn, Vs.lcM, Vs.allD, Vs.itsL, Vs.lstB, Vs.lenD, Vs.its, Vs.leD, Vs.ltD, Vs.gtD, Vs.geD, Vs.int2, Vs.fB, Vs.fI, Vs.addD, Vs.isI2, Vs.isT2, Vs.subD, Vs.catT, Vs.catL, Vs.ixD, Vs.ixO, Vs.forA, Vs.forR1, Vs.forR2, Vs.forL, Vs.stp, Vs.stp2, Vs.meV, Vs.mutV, Vs.vL, Vs.gExt, Vs.gApp, Vs.lstF, Vs.tupE, Vs.slV, Vs.sl3, Vs.slD, Vs.tupD, Vs.sumD, Vs.absD, Vs.intD, Vs.lcR1, Vs.lcR2, Vs.lcL, Vs.forZ, Vs.zipD, Vs.repF, Vs.subS, Vs.gSet, Vs.ixV, Vs.eqD, Vs.neD, Vs.isnD, Vs.isbD, Vs.max2D, Vs.asgT, Vs.clI, Vs.Sl.to, Vs.parO, Vs.asI] using h2)
      have q2 := ixN_in (n := f.length) h1 h2
      simp [Vs.runP, Vs.runI, Vs.io0, Vs.retS, Vs.setS, Vs.setO, Vs.putS, Vs.lf, Vs.sq, Vs.nxt, Vs.ifS, Vs.bnd, Vs.ret, Vs.bad, Vs.opt, Vs.andE, Vs.orE, Vs.notE, Vs.asB, Vs.args, Vs.vV, Vs.vP, Vs.isD, Vs.isO, Vs.tyD, Vs.clD, Vs.kfB, Vs.cl, Vs.b2, Vs.ch, Vs.andT, Vs.orT, Vs.notT, Vs.dropS, Vs.exS, Vs.outB, K74.ite_ev, K74.itA_tup, K74.itA_lst, K74.itA_sq, K74.kit_ii, K74.kit_ib, K74.kit_bi, K74.kit_bb, K74.kit_ni, K74.kit_si, K74.kit_ti, K74.kit_li, K74.kit_di, K74.kit_tt, K74.kit_it, K74.kit_bt, K74.kit_nt, K74.kit_st, K74.kit_lt, K74.kit_dt, Vs.inn, Vs.lend, Vs.unl, Vs.unl1, Vs.fg, Vs.stE, Vs.tg1, Vs.tg2, Vs.ifE, Vs.yes, Vs.frz, Vs.lcAn, Vs.lcM, Vs.allD, Vs.itsL, Vs.lstB, Vs.lenD, Vs.its, Vs.leD, Vs.ltD, Vs.gtD, Vs.geD, Vs.int2, Vs.fB, Vs.fI, Vs.addD, Vs.isI2, Vs.isT2, Vs.subD, Vs.catT, Vs.catL, Vs.ixD, Vs.ixO, Vs.forA, Vs.forR1, Vs.forR2, Vs.forL, Vs.stp, Vs.stp2, Vs.meV, Vs.mutV, Vs.vL, Vs.gExt, Vs.gApp, Vs.lstF, Vs.tupE, Vs.slV, Vs.sl3, Vs.slD, Vs.tupD, Vs.sumD, Vs.absD, Vs.intD, Vs.lcR1, Vs.lcR2, Vs.lcL, Vs.forZ, Vs.zipD, Vs.repF, Vs.subS, Vs.gSet, Vs.ixV, Vs.eqD, Vs.neD, Vs.isnD, Vs.isbD, Vs.max2D, Vs.asgT, Vs.clI, Vs.Sl.to, Vs.parO, Vs.asI, lp__law_sums_1, q, q2]
      have hl2 : s.toNat - 1 < f.length := by omega
      simp [Vs.runP, Vs.runI, Vs.io0, Vs.retS, Vs.setS, Vs.setO, Vs.putS, Vs.lf, Vs.sq, Vs.nxt, Vs.ifS, Vs.bnd, Vs.ret, Vs.bad, Vs.opt, Vs.andE, Vs.orE, Vs.notE, Vs.asB, Vs.args, Vs.vV, Vs.vP, Vs.isD, Vs.isO, Vs.tyD, Vs.clD, Vs.kfB, Vs.cl, Vs.b2, Vs.ch, Vs.andT, Vs.orT, Vs.notT, Vs.dropS, Vs.exS, Vs.outB, K74.ite_ev, K74.itA_tup, K74.itA_lst, K74.itA_sq, K74.kit_ii, K74.kit_ib, K74.kit_bi, K74.kit_bb, K74.kit_ni, K74.kit_si, K74.kit_ti, K74.kit_li, K74.kit_di, K74.kit_tt, K74.kit_it, K74.kit_bt, K74.kit_nt, K74.kit_st, K74.kit_lt, K74.kit_dt, Vs.inn, Vs.lend, Vs.unl, Vs.unl1, Vs.fg, Vs.stE, Vs.tg1, Vs.tg2, Vs.ifE, Vs.yes, Vs.frz, Vs.lcAn, Vs.lcM, Vs.allD, Vs.itsL, Vs.lstB, Vs.lenD, Vs.its, Vs.leD, Vs.ltD, Vs.gtD, Vs.geD, Vs.int2, Vs.fB, Vs.fI, Vs.addD, Vs.isI2, Vs.isT2, Vs.subD, Vs.catT, Vs.catL, Vs.ixD, Vs.ixO, Vs.forA, Vs.forR1, Vs.forR2, Vs.forL, Vs.stp, Vs.stp2, Vs.meV, Vs.mutV, Vs.vL, Vs.gExt, Vs.gApp, Vs.lstF, Vs.tupE, Vs.slV, Vs.sl3, Vs.slD, Vs.tupD, Vs.sumD, Vs.absD, Vs.intD, Vs.lcR1, Vs.lcR2, Vs.lcL, Vs.forZ, Vs.zipD, Vs.repF, Vs.subS, Vs.gSet, Vs.ixV, Vs.eqD, Vs.neD, Vs.isnD, Vs.isbD, Vs.max2D, Vs.asgT, Vs.clI, Vs.Sl.to, Vs.parO, Vs.asI, addAt, List.map_set, hl2, List.getD_eq_getElem?_getD]
    refine (loop_cons e).trans ?_
    exact sAdd_loop K w (addAt f s m) (by rw [addAt_len]; exact fun x hx => hv x (List.mem_cons_of_mem _ hx))
theorem sZip_loop (K : PySem.W.Frag) {e0 e1 e2 e3 e4 e5 : Sl} : ∀ (ps : List (List Int × Int)) (f : List Int), (∀ p ∈ ps, Vd f.length p.1) →
    loop [7, 8, 9] (lp__law_sums_2 K) (ps.map fun p => .tup [ID p.1, .int p.2]) [e0, e1, e2, e3, e4, e5, .ol (f.map .int), .no, .no, .no] = .nx [e0, e1, e2, e3, e4, e5, .ol ((ps.foldl (fun f p => addW f p.1 p.2) f).map .int), .no, .no, .no]
  | [], f, _ => rfl
  | p :: ps, f, hv => by
    have e1' : itA (ID p.1) = some (p.1.map .int) := rfl
    have e : lp__law_sums_2 K (.tup [ID p.1, .int p.2]) [e0, e1, e2, e3, e4, e5, .ol (f.map .int), .no, .no, .no] = .nx [e0, e1, e2, e3, e4, e5, .ol ((addW f p.1 p.2).map .int), .sh (ID p.1), .sh (.int p.2), .no] := by
      have := sAdd_loop K (e0 := e0) (e1 := e1) (e2 := e2) (e3 := e3) (e4 := e4) (e5 := e5) (e7 := .sh (ID p.1)) (m := p.2) p.1 f (hv p (List.mem_cons_self ..))
      simp [Vs.runP, Vs.runI, Vs.io0, Vs.retS, Vs.setS, Vs.setO, Vs.putS, Vs.lf, Vs.sq, Vs.nxt, Vs.ifS, Vs.bnd, Vs.ret, Vs.bad, Vs.opt, Vs.andE, Vs.orE, Vs.notE, Vs.asB, Vs.args, Vs.vV, Vs.vP, Vs.isD, Vs.isO, Vs.tyD, Vs.clD, Vs.kfB, Vs.cl, Vs.b2, Vs.ch, Vs.andT, Vs.orT, Vs.notT, Vs.dropS, Vs.exS, Vs.outB, K74.ite_ev, K74.itA_tup, K74.itA_lst, K74.itA_sq, K74.kit_ii, K74.kit_ib, K74.kit_bi, K74.kit_bb, K74.kit_ni, K74.kit_si, K74.kit_ti, K74.kit_li, K74.kit_di, K74.kit_tt, K74.kit_it, K74.kit_bt, K74.kit_nt, K74.kit_st, K74.kit_lt, K74.kit_dt, Vs.inn, Vs.lend, Vs.unl, Vs.unl1, Vs.fg, Vs.stE, Vs.tg1, Vs.tg2, Vs.ifE, Vs.yes, Vs.frz, Vs.lcAn, Vs.lcM, Vs.allD, Vs.itsL, Vs.lstB, Vs.lenD, Vs.its, Vs.leD, Vs.ltD, Vs.gtD, Vs.geD, Vs.int2, Vs.fB, Vs.fI, Vs.addD, Vs.isI2, Vs.isT2, Vs.subD, Vs.catT, Vs.catL, Vs.ixD, Vs.ixO, Vs.forA, Vs.forR1, Vs.forR2, Vs.forL, Vs.stp, Vs.stp2, Vs.meV, Vs.mutV, Vs.vL, Vs.gExt, Vs.gApp, Vs.lstF, Vs.tupE, Vs.slV, Vs.sl3, Vs.slD, Vs.tupD, Vs.sumD, Vs.absD, Vs.intD, Vs.lcR1, Vs.lcR2, Vs.lcL, Vs.forZ, Vs.zipD, Vs.repF, Vs.subS, Vs.gSet, Vs.ixV, Vs.eqD, Vs.neD, Vs.isnD, Vs.isbD, Vs.max2D, Vs.asgT, Vs.clI, Vs.Sl.to, Vs.parO, Vs.asI, lp__law_sums_2, e1', this]
    refine (loop_cons e).trans ?_
    exact sZip_loop K ps (addW f p.1 p.2) (by rw [addW_len]; exact fun x hx => hv x (List.mem_cons_of_mem _ hx))
/-- one turn of the sums, of values told apart -/
theorem sTurn (K : PySem.W.Frag) {x s t k : D} {n : Nat} {xs fs ys rs : List D} (hx : x = .tup xs) (hn : xs.length = n) (n0 : n ≤ 1000) (hf : fs.length < 1000)
    (hz : loop [7, 8, 9] (lp__law_sums_2 K) (zipD xs ys) [.sh x, .sh s, .sh t, .sh (.lst ys), .ol fs, .sh k, .ol (List.replicate n (.int 0)), .no, .no, .no] = .nx [.sh x, .sh s, .sh t, .sh (.lst ys), .ol fs, .sh k, .ol rs, .no, .no, .no]) :
    lp__law_sums_3 K k [.sh x, .sh s, .sh t, .sh (.lst ys), .ol fs, .no, .no, .no, .no, .no] = .nx [.sh x, .sh s, .sh t, .sh (.lst rs), .ol (fs ++ [.lst rs]), .sh k, .sh (.lst rs), .no, .no, .no] := by
  have r0 := rep0 (f := bnd (vP 0) lenD) (n := n) (ev := [.sh x, .sh s, .sh t, .sh (.lst ys), .ol fs, .sh k, .no, .no, .no, .no]) (by subst hx; simp [Vs.runP, Vs.runI, Vs.io0, Vs.retS, Vs.setS, Vs.setO, Vs.putS, Vs.lf, Vs.sq, Vs.nxt, Vs.ifS, Vs.bnd, Vs.ret, Vs.bad, Vs.opt, Vs.andE, Vs.orE, Vs.notE, Vs.asB, Vs.args, Vs.vV, Vs.vP, Vs.isD, Vs.isO, Vs.tyD, Vs.clD, Vs.kfB, Vs.cl, Vs.b2, Vs.ch, Vs.andT, Vs.orT, Vs.notT, Vs.dropS, Vs.exS, Vs.outB, K74.ite_ev, K74.itA_tup, K74.itA_lst, K74.itA_sq, K74.kit_ii, K74.kit_ib, K74.kit_bi, K74.kit_bb, K74.kit_ni, K74.kit_si, K74.kit_ti, K74.kit_li, K74.kit_di, K74.kit_tt, K74.kit_it, K74.kit_bt, K74.kit_nt, K74.kit_st, K74.kit_lt, K74.kit_dt, Vs.inn, Vs.lend, Vs.unl, Vs.unl1, Vs.fg, Vs.stE, Vs.tg1, Vs.tg2, Vs.ifE, Vs.yes, Vs.frz, Vs.lcAn, Vs.lcM, Vs.allD, Vs.itsL, Vs.lstB, Vs.lenD, Vs.its, Vs.leD, Vs.ltD, Vs.gtD, Vs.geD, Vs.int2, Vs.fB, Vs.fI, Vs.addD, Vs.isI2, Vs.isT2, Vs.subD, Vs.catT, Vs.catL, Vs.ixD, Vs.ixO, Vs.forA, Vs.forR1, Vs.forR2, Vs.forL, Vs.stp, Vs.stp2, Vs.meV, Vs.mutV, Vs.vL, Vs.gExt, Vs.gApp, Vs.lstF, Vs.tupE, Vs.slV, Vs.sl3, Vs.slD, Vs.tupD, Vs.sumD, Vs.absD, Vs.intD, Vs.lcR1, Vs.lcR2, Vs.lcL, Vs.forZ, Vs.zipD, Vs.repF, Vs.subS, Vs.gSet, Vs.ixV, Vs.eqD, Vs.neD, Vs.isnD, Vs.isbD, Vs.max2D, Vs.asgT, Vs.clI, Vs.Sl.to, Vs.parO, Vs.asI, hn]) n0
  have hb : fs.length < big := by unfold big; omega
  refine (sq_nx (setO_ok r0)).trans ?_
  have f1 : forZ [7, 8, 9] (vV 0) (vV 3) (lp__law_sums_2 K) [.sh x, .sh s, .sh t, .sh (.lst ys), .ol fs, .sh k, .ol (List.replicate n (.int 0)), .no, .no, .no] = .nx [.sh x, .sh s, .sh t, .sh (.lst ys), .ol fs, .sh k, .ol rs, .no, .no, .no] := by
    subst hx
    exact hz
  refine (sq_nx f1).trans ?_
  refine (sq_nx (setS_ok (d := .lst rs) (ev1 := [.sh x, .sh s, .sh t, .sh (.lst ys), .ol fs, .sh k, .sh (.lst rs), .no, .no, .no]) rfl)).trans ?_
  exact dropS_ok (meApp_ok (ev := [.sh x, .sh s, .sh t, .sh (.lst rs), .ol fs, .sh k, .sh (.lst rs), .no, .no, .no]) rfl (args_ok (f := vV 3) rfl args_nil) rfl hb)
theorem itc_succ (rule : List (List Int)) : ∀ (n : Nat) (v : List Int), itc rule (n + 1) v = cgr rule (itc rule n v)
  | 0, v => rfl
  | n + 1, v => by
    show itc rule (n + 1) (cgr rule v) = _
    rw [itc_succ rule n]
    rfl
def sums (rule : List (List Int)) (v : List Int) (n : Nat) : List D := (List.range n).map fun k => LD (itc rule k v)
theorem sums_succ {rule : List (List Int)} {v : List Int} {n : Nat} : sums rule v (n + 1) = sums rule v n ++ [LD (itc rule n v)] := by
  simp [Vs.runP, Vs.runI, Vs.io0, Vs.retS, Vs.setS, Vs.setO, Vs.putS, Vs.lf, Vs.sq, Vs.nxt, Vs.ifS, Vs.bnd, Vs.ret, Vs.bad, Vs.opt, Vs.andE, Vs.orE, Vs.notE, Vs.asB, Vs.args, Vs.vV, Vs.vP, Vs.isD, Vs.isO, Vs.tyD, Vs.clD, Vs.kfB, Vs.cl, Vs.b2, Vs.ch, Vs.andT, Vs.orT, Vs.notT, Vs.dropS, Vs.exS, Vs.outB, K74.ite_ev, K74.itA_tup, K74.itA_lst, K74.itA_sq, K74.kit_ii, K74.kit_ib, K74.kit_bi, K74.kit_bb, K74.kit_ni, K74.kit_si, K74.kit_ti, K74.kit_li, K74.kit_di, K74.kit_tt, K74.kit_it, K74.kit_bt, K74.kit_nt, K74.kit_st, K74.kit_lt, K74.kit_dt, Vs.inn, Vs.lend, Vs.unl, Vs.unl1, Vs.fg, Vs.stE, Vs.tg1, Vs.tg2, Vs.ifE, Vs.yes, Vs.frz, Vs.lcAn, Vs.lcM, Vs.allD, Vs.itsL, Vs.lstB, Vs.lenD, Vs.its, Vs.leD, Vs.ltD, Vs.gtD, Vs.geD, Vs.int2, Vs.fB, Vs.fI, Vs.addD, Vs.isI2, Vs.isT2, Vs.subD, Vs.catT, Vs.catL, Vs.ixD, Vs.ixO, Vs.forA, Vs.forR1, Vs.forR2, Vs.forL, Vs.stp, Vs.stp2, Vs.meV, Vs.mutV, Vs.vL, Vs.gExt, Vs.gApp, Vs.lstF, Vs.tupE, Vs.slV, Vs.sl3, Vs.slD, Vs.tupD, Vs.sumD, Vs.absD, Vs.intD, Vs.lcR1, Vs.lcR2, Vs.lcL, Vs.forZ, Vs.zipD, Vs.repF, Vs.subS, Vs.gSet, Vs.ixV, Vs.eqD, Vs.neD, Vs.isnD, Vs.isbD, Vs.max2D, Vs.asgT, Vs.clI, Vs.Sl.to, Vs.parO, Vs.asI, sums, List.range_succ]
theorem sums_loop (K : PySem.W.Frag) {rule : List (List Int)} {v : List Int} {s t : D} {m : Int} (h : RuOk rule) (hm : m ≤ 900) :
    loop [5, 6, 7, 8, 9] (lp__law_sums_3 K) (rng 0 m) [.sh (RD rule), .sh s, .sh t, .sh (LD v), .ol [LD v], .no, .no, .no, .no, .no] = .nx [.sh (RD rule), .sh s, .sh t, .sh (LD (itc rule m.toNat v)), .ol (sums rule v (m.toNat + 1)), .no, .no, .no, .no, .no] := by
  obtain ⟨ev, e, hi⟩ := loop_inv (cl := [5, 6, 7, 8, 9]) (step := lp__law_sums_3 K) (rng 0 m) (fun j ev => ev = [.sh (RD rule), .sh s, .sh t, .sh (LD (itc rule j v)), .ol (sums rule v (j + 1)), .no, .no, .no, .no, .no]) [.sh (RD rule), .sh s, .sh t, .sh (LD v), .ol [LD v], .no, .no, .no, .no, .no] (fun j d ev hj hi => by
    subst hi
    have hj2 := (List.getElem?_eq_some_iff.mp hj).1
    rw [rng_length] at hj2
    have hz := sZip_loop K (e0 := .sh (RD rule)) (e1 := .sh s) (e2 := .sh t) (e3 := .sh (LD (itc rule j v))) (e4 := .ol (sums rule v (j + 1))) (e5 := .sh d) (rule.zip (itc rule j v)) (List.replicate rule.length 0) (zip_vd h (by simp [Vs.runP, Vs.runI, Vs.io0, Vs.retS, Vs.setS, Vs.setO, Vs.putS, Vs.lf, Vs.sq, Vs.nxt, Vs.ifS, Vs.bnd, Vs.ret, Vs.bad, Vs.opt, Vs.andE, Vs.orE, Vs.notE, Vs.asB, Vs.args, Vs.vV, Vs.vP, Vs.isD, Vs.isO, Vs.tyD, Vs.clD, Vs.kfB, Vs.cl, Vs.b2, Vs.ch, Vs.andT, Vs.orT, Vs.notT, Vs.dropS, Vs.exS, Vs.outB, K74.ite_ev, K74.itA_tup, K74.itA_lst, K74.itA_sq, K74.kit_ii, K74.kit_ib, K74.kit_bi, K74.kit_bb, K74.kit_ni, K74.kit_si, K74.kit_ti, K74.kit_li, K74.kit_di, K74.kit_tt, K74.kit_it, K74.kit_bt, K74.kit_nt, K74.kit_st, K74.kit_lt, K74.kit_dt, Vs.inn, Vs.lend, Vs.unl, Vs.unl1, Vs.fg, Vs.stE, Vs.tg1, Vs.tg2, Vs.ifE, Vs.yes, Vs.frz, Vs.lcAn, Vs.lcM, Vs.allD, Vs.itsL, Vs.lstB, Vs.lenD, Vs.its, Vs.leD, Vs.ltD, Vs.gtD, Vs.geD, Vs.int2, Vs.fB, Vs.fI, Vs.addD, Vs.isI2, Vs.isT2, Vs.subD, Vs.catT, Vs.catL, Vs.ixD, Vs.ixO, Vs.forA, Vs.forR1, Vs.forR2, Vs.forL, Vs.stp, Vs.stp2, Vs.meV, Vs.mutV, Vs.vL, Vs.gExt, Vs.gApp, Vs.lstF, Vs.tupE, Vs.slV, Vs.sl3, Vs.slD, Vs.tupD, Vs.sumD, Vs.absD, Vs.intD, Vs.lcR1, Vs.lcR2, Vs.lcL, Vs.forZ, Vs.zipD, Vs.repF, Vs.subS, Vs.gSet, Vs.ixV, Vs.eqD, Vs.neD, Vs.isnD, Vs.isbD, Vs.max2D, Vs.asgT, Vs.clI, Vs.Sl.to, Vs.parO, Vs.asI]))
    rw [← zip_map] at hz
    simp only [List.map_replicate] at hz
    have st := sTurn K (x := RD rule) (s := s) (t := t) (k := d) rfl (by simp [Vs.runP, Vs.runI, Vs.io0, Vs.retS, Vs.setS, Vs.setO, Vs.putS, Vs.lf, Vs.sq, Vs.nxt, Vs.ifS, Vs.bnd, Vs.ret, Vs.bad, Vs.opt, Vs.andE, Vs.orE, Vs.notE, Vs.asB, Vs.args, Vs.vV, Vs.vP, Vs.isD, Vs.isO, Vs.tyD, Vs.clD, Vs.kfB, Vs.cl, Vs.b2, Vs.ch, Vs.andT, Vs.orT, Vs.notT, Vs.dropS, Vs.exS, Vs.outB, K74.ite_ev, K74.itA_tup, K74.itA_lst, K74.itA_sq, K74.kit_ii, K74.kit_ib, K74.kit_bi, K74.kit_bb, K74.kit_ni, K74.kit_si, K74.kit_ti, K74.kit_li, K74.kit_di, K74.kit_tt, K74.kit_it, K74.kit_bt, K74.kit_nt, K74.kit_st, K74.kit_lt, K74.kit_dt, Vs.inn, Vs.lend, Vs.unl, Vs.unl1, Vs.fg, Vs.stE, Vs.tg1, Vs.tg2, Vs.ifE, Vs.yes, Vs.frz, Vs.lcAn, Vs.lcM, Vs.allD, Vs.itsL, Vs.lstB, Vs.lenD, Vs.its, Vs.leD, Vs.ltD, Vs.gtD, Vs.geD, Vs.int2, Vs.fB, Vs.fI, Vs.addD, Vs.isI2, Vs.isT2, Vs.subD, Vs.catT, Vs.catL, Vs.ixD, Vs.ixO, Vs.forA, Vs.forR1, Vs.forR2, Vs.forL, Vs.stp, Vs.stp2, Vs.meV, Vs.mutV, Vs.vL, Vs.gExt, Vs.gApp, Vs.lstF, Vs.tupE, Vs.slV, Vs.sl3, Vs.slD, Vs.tupD, Vs.sumD, Vs.absD, Vs.intD, Vs.lcR1, Vs.lcR2, Vs.lcL, Vs.forZ, Vs.zipD, Vs.repF, Vs.subS, Vs.gSet, Vs.ixV, Vs.eqD, Vs.neD, Vs.isnD, Vs.isbD, Vs.max2D, Vs.asgT, Vs.clI, Vs.Sl.to, Vs.parO, Vs.asI]) (by have := h.hi; omega) (by simp [Vs.runP, Vs.runI, Vs.io0, Vs.retS, Vs.setS, Vs.setO, Vs.putS, Vs.lf, Vs.sq, Vs.nxt, Vs.ifS, Vs.bnd, Vs.ret, Vs.bad, Vs.opt, Vs.andE, Vs.orE, Vs.notE, Vs.asB, Vs.args, Vs.vV, Vs.vP, Vs.isD, Vs.isO, Vs.tyD, Vs.clD, Vs.kfB, Vs.cl, Vs.b2, Vs.ch, Vs.andT, Vs.orT, Vs.notT, Vs.dropS, Vs.exS, Vs.outB, K74.ite_ev, K74.itA_tup, K74.itA_lst, K74.itA_sq, K74.kit_ii, K74.kit_ib, K74.kit_bi, K74.kit_bb, K74.kit_ni, K74.kit_si, K74.kit_ti, K74.kit_li, K74.kit_di, K74.kit_tt, K74.kit_it, K74.kit_bt, K74.kit_nt, K74.kit_st, K74.kit_lt, K74.kit_dt, Vs.inn, Vs.lend, Vs.unl, Vs.unl1, Vs.fg, Vs.stE, Vs.tg1, Vs.tg2, Vs.ifE, Vs.yes, Vs.frz, Vs.lcAn, Vs.lcM, Vs.allD, Vs.itsL, Vs.lstB, Vs.lenD, Vs.its, Vs.leD, Vs.ltD, Vs.gtD, Vs.geD, Vs.int2, Vs.fB, Vs.fI, Vs.addD, Vs.isI2, Vs.isT2, Vs.subD, Vs.catT, Vs.catL, Vs.ixD, Vs.ixO, Vs.forA, Vs.forR1, Vs.forR2, Vs.forL, Vs.stp, Vs.stp2, Vs.meV, Vs.mutV, Vs.vL, Vs.gExt, Vs.gApp, Vs.lstF, Vs.tupE, Vs.slV, Vs.sl3, Vs.slD, Vs.tupD, Vs.sumD, Vs.absD, Vs.intD, Vs.lcR1, Vs.lcR2, Vs.lcL, Vs.forZ, Vs.zipD, Vs.repF, Vs.subS, Vs.gSet, Vs.ixV, Vs.eqD, Vs.neD, Vs.isnD, Vs.isbD, Vs.max2D, Vs.asgT, Vs.clI, Vs.Sl.to, Vs.parO, Vs.asI, sums]; omega) hz
    refine ⟨_, st, ?_⟩
    rw [sums_succ (n := j + 1), itc_succ rule j v]
    rfl) rfl
  rw [rng_length] at hi
  subst hi
  exact e
theorem el_sums (K : PySem.W.Frag) {x t : D} {s i : Int} : inn [9] (el__law_sums_0 K (.int i)) (fg [9] [.sh x, .sh (.int s), .sh t, .no, .no, .no, .no, .no, .no, .no]) = .ok (some (.int (if i = s - 1 then 1 else 0))) (fg [9] [.sh x, .sh (.int s), .sh t, .no, .no, .no, .no, .no, .no, .no]) := by
  have : (i + 1 = s) ↔ (i = s - 1) := by omega
  simp [Vs.runP, Vs.runI, Vs.io0, Vs.retS, Vs.setS, Vs.setO, Vs.putS, Vs.lf, Vs.sq, Vs.nxt, Vs.ifS, Vs.bnd, Vs.ret, Vs.bad, Vs.opt, Vs.andE, Vs.orE, Vs.notE, Vs.asB, Vs.args, Vs.vV, Vs.vP, Vs.isD, Vs.isO, Vs.tyD, Vs.clD, Vs.kfB, Vs.cl, Vs.b2, Vs.ch, Vs.andT, Vs.orT, Vs.notT, Vs.dropS, Vs.exS, Vs.outB, K74.ite_ev, K74.itA_tup, K74.itA_lst, K74.itA_sq, K74.kit_ii, K74.kit_ib, K74.kit_bi, K74.kit_bb, K74.kit_ni, K74.kit_si, K74.kit_ti, K74.kit_li, K74.kit_di, K74.kit_tt, K74.kit_it, K74.kit_bt, K74.kit_nt, K74.kit_st, K74.kit_lt, K74.kit_dt, Vs.inn, Vs.lend, Vs.unl, Vs.unl1, Vs.fg, Vs.stE, Vs.tg1, Vs.tg2, Vs.ifE, Vs.yes, Vs.frz, Vs.lcAn, Vs.lcM, Vs.allD, Vs.itsL, Vs.lstB, Vs.lenD, Vs.its, Vs.leD, Vs.ltD, Vs.gtD, Vs.geD, Vs.int2, Vs.fB, Vs.fI, Vs.addD, Vs.isI2, Vs.isT2, Vs.subD, Vs.catT, Vs.catL, Vs.ixD, Vs.ixO, Vs.forA, Vs.forR1, Vs.forR2, Vs.forL, Vs.stp, Vs.stp2, Vs.meV, Vs.mutV, Vs.vL, Vs.gExt, Vs.gApp, Vs.lstF, Vs.tupE, Vs.slV, Vs.sl3, Vs.slD, Vs.tupD, Vs.sumD, Vs.absD, Vs.intD, Vs.lcR1, Vs.lcR2, Vs.lcL, Vs.forZ, Vs.zipD, Vs.repF, Vs.subS, Vs.gSet, Vs.ixV, Vs.eqD, Vs.neD, Vs.isnD, Vs.isbD, Vs.max2D, Vs.asgT, Vs.clI, Vs.Sl.to, Vs.parO, Vs.asI, el__law_sums_0, eqO_int, this]
theorem sums_eq (K : PySem.W.Frag) {rule : List (List Int)} {s t : Int} (h : RuOk rule) (h0 : 0 ≤ t) (h1 : t ≤ 200) : r__law_sums K [RD rule, .int s, .int t] = .ok (.lst (sums rule (one0 rule.length s) (t.toNat + 1))) [] := by
  have hl := h.hi
  have c1 : lcR1 [9] (bnd (vP 0) lenD) (el__law_sums_0 K) [.sh (RD rule), .sh (.int s), .sh (.int t), .no, .no, .no, .no, .no, .no, .no] = .ok ((one0 rule.length s).map .int) [.sh (RD rule), .sh (.int s), .sh (.int t), .no, .no, .no, .no, .no, .no, .no] := by
    refine (lcR1_map (g := fun d => match d with | .int i => .int (if i = s - 1 then 1 else 0) | _ => .non) (n := rule.length) (lenRD rfl) (by omega) (by omega) (fun i _ _ => el_sums K)).trans ?_
    rw [rng_map]
    show Rs.ok _ _ = Rs.ok _ _
    congr 1
    simp [Vs.runP, Vs.runI, Vs.io0, Vs.retS, Vs.setS, Vs.setO, Vs.putS, Vs.lf, Vs.sq, Vs.nxt, Vs.ifS, Vs.bnd, Vs.ret, Vs.bad, Vs.opt, Vs.andE, Vs.orE, Vs.notE, Vs.asB, Vs.args, Vs.vV, Vs.vP, Vs.isD, Vs.isO, Vs.tyD, Vs.clD, Vs.kfB, Vs.cl, Vs.b2, Vs.ch, Vs.andT, Vs.orT, Vs.notT, Vs.dropS, Vs.exS, Vs.outB, K74.ite_ev, K74.itA_tup, K74.itA_lst, K74.itA_sq, K74.kit_ii, K74.kit_ib, K74.kit_bi, K74.kit_bb, K74.kit_ni, K74.kit_si, K74.kit_ti, K74.kit_li, K74.kit_di, K74.kit_tt, K74.kit_it, K74.kit_bt, K74.kit_nt, K74.kit_st, K74.kit_lt, K74.kit_dt, Vs.inn, Vs.lend, Vs.unl, Vs.unl1, Vs.fg, Vs.stE, Vs.tg1, Vs.tg2, Vs.ifE, Vs.yes, Vs.frz, Vs.lcAn, Vs.lcM, Vs.allD, Vs.itsL, Vs.lstB, Vs.lenD, Vs.its, Vs.leD, Vs.ltD, Vs.gtD, Vs.geD, Vs.int2, Vs.fB, Vs.fI, Vs.addD, Vs.isI2, Vs.isT2, Vs.subD, Vs.catT, Vs.catL, Vs.ixD, Vs.ixO, Vs.forA, Vs.forR1, Vs.forR2, Vs.forL, Vs.stp, Vs.stp2, Vs.meV, Vs.mutV, Vs.vL, Vs.gExt, Vs.gApp, Vs.lstF, Vs.tupE, Vs.slV, Vs.sl3, Vs.slD, Vs.tupD, Vs.sumD, Vs.absD, Vs.intD, Vs.lcR1, Vs.lcR2, Vs.lcL, Vs.forZ, Vs.zipD, Vs.repF, Vs.subS, Vs.gSet, Vs.ixV, Vs.eqD, Vs.neD, Vs.isnD, Vs.isbD, Vs.max2D, Vs.asgT, Vs.clI, Vs.Sl.to, Vs.parO, Vs.asI, one0]
  have c2 := sums_loop K (s := .int s) (t := .int t) (v := one0 rule.length s) (m := t) h (by omega)
  have c3 : setS 3 (frz (lcR1 [9] (bnd (vP 0) lenD) (el__law_sums_0 K))) [.sh (RD rule), .sh (.int s), .sh (.int t), .no, .no, .no, .no, .no, .no, .no] = .nx [.sh (RD rule), .sh (.int s), .sh (.int t), .sh (LD (one0 rule.length s)), .no, .no, .no, .no, .no, .no] := setF_ok c1
  have c4 : setO 4 (lstF (args [vV 3])) [.sh (RD rule), .sh (.int s), .sh (.int t), .sh (LD (one0 rule.length s)), .no, .no, .no, .no, .no, .no] = .nx [.sh (RD rule), .sh (.int s), .sh (.int t), .sh (LD (one0 rule.length s)), .ol [LD (one0 rule.length s)], .no, .no, .no, .no, .no] := by
    have b1 : 1 ≤ big := by unfold big; omega
    generalize RD rule = R
    generalize LD (one0 rule.length s) = L
    simp [Vs.runP, Vs.runI, Vs.io0, Vs.retS, Vs.setS, Vs.setO, Vs.putS, Vs.lf, Vs.sq, Vs.nxt, Vs.ifS, Vs.bnd, Vs.ret, Vs.bad, Vs.opt, Vs.andE, Vs.orE, Vs.notE, Vs.asB, Vs.args, Vs.vV, Vs.vP, Vs.isD, Vs.isO, Vs.tyD, Vs.clD, Vs.kfB, Vs.cl, Vs.b2, Vs.ch, Vs.andT, Vs.orT, Vs.notT, Vs.dropS, Vs.exS, Vs.outB, K74.ite_ev, K74.itA_tup, K74.itA_lst, K74.itA_sq, K74.kit_ii, K74.kit_ib, K74.kit_bi, K74.kit_bb, K74.kit_ni, K74.kit_si, K74.kit_ti, K74.kit_li, K74.kit_di, K74.kit_tt, K74.kit_it, K74.kit_bt, K74.kit_nt, K74.kit_st, K74.kit_lt, K74.kit_dt, Vs.inn, Vs.lend, Vs.unl, Vs.unl1, Vs.fg, Vs.stE, Vs.tg1, Vs.tg2, Vs.ifE, Vs.yes, Vs.frz, Vs.lcAn, Vs.lcM, Vs.allD, Vs.itsL, Vs.lstB, Vs.lenD, Vs.its, Vs.leD, Vs.ltD, Vs.gtD, Vs.geD, Vs.int2, Vs.fB, Vs.fI, Vs.addD, Vs.isI2, Vs.isT2, Vs.subD, Vs.catT, Vs.catL, Vs.ixD, Vs.ixO, Vs.forA, Vs.forR1, Vs.forR2, Vs.forL, Vs.stp, Vs.stp2, Vs.meV, Vs.mutV, Vs.vL, Vs.gExt, Vs.gApp, Vs.lstF, Vs.tupE, Vs.slV, Vs.sl3, Vs.slD, Vs.tupD, Vs.sumD, Vs.absD, Vs.intD, Vs.lcR1, Vs.lcR2, Vs.lcL, Vs.forZ, Vs.zipD, Vs.repF, Vs.subS, Vs.gSet, Vs.ixV, Vs.eqD, Vs.neD, Vs.isnD, Vs.isbD, Vs.max2D, Vs.asgT, Vs.clI, Vs.Sl.to, Vs.parO, Vs.asI, b1]
  have c5 := forR1_ok (cl := [5, 6, 7, 8, 9]) (f := vV 2) (step := lp__law_sums_3 K) (n := t) (ev := [.sh (RD rule), .sh (.int s), .sh (.int t), .sh (LD (one0 rule.length s)), .ol [LD (one0 rule.length s)], .no, .no, .no, .no, .no]) rfl h0 (by omega) c2
  exact runP_rt ((sq_nx c3).trans ((sq_nx c4).trans ((sq_nx c5).trans rfl)))
end K74
namespace K74
open PySem PySem.Spec PyProof.Rows L2 LamX NdefX HotX Vs
/-! ### counts of rows -/
def cnt (n : Nat) (row : List Int) : List Int := (List.range n).map fun (j : Nat) => ((row.count ((j : Int) + 1) : Nat) : Int)
theorem cnt_len {n : Nat} {row : List Int} : (cnt n row).length = n := by simp [cnt]
theorem cnt_get {n j : Nat} {row : List Int} (h : j < n) : (cnt n row).getD j 0 = ((row.count ((j : Int) + 1) : Nat) : Int) := by
  simp [cnt, List.getD_eq_getElem?_getD, h]
theorem ext_getD {a b : List Int} (hl : a.length = b.length) (h : ∀ j, j < a.length → a.getD j 0 = b.getD j 0) : a = b := by
  refine List.ext_getElem hl fun j h1 h2 => ?_
  have := h j h1
  simpa [List.getD_eq_getElem?_getD, h1, h2] using this
theorem addAt_get {f : List Int} {s m : Int} {j : Nat} (h1 : 1 ≤ s) (h2 : s ≤ f.length) (hj : j < f.length) : (addAt f s m).getD j 0 = f.getD j 0 + if s = (j : Int) + 1 then m else 0 := by
  unfold addAt
  by_cases h : s = (j : Int) + 1
  · have e : (s - 1).toNat = j := by omega
    rw [e]
    simp [List.getD_eq_getElem?_getD, hj, h]
  · have e : (s - 1).toNat ≠ j := by omega
    rw [List.getD_eq_getElem?_getD, List.getElem?_set_ne e]
    simp [h, List.getD_eq_getElem?_getD]
theorem addW_get {m : Int} {j : Nat} : ∀ (w f : List Int), Vd f.length w → j < f.length → (addW f w m).getD j 0 = f.getD j 0 + m * (w.count ((j : Int) + 1) : Nat)
  | [], f, _, _ => by simp [addW]
  | s :: w, f, hv, hj => by
    obtain ⟨h1, h2⟩ := hv s (List.mem_cons_self ..)
    have ih := addW_get w (addAt f s m) (m := m) (j := j) (by rw [addAt_len]; exact fun x hx => hv x (List.mem_cons_of_mem _ hx)) (by rw [addAt_len]; exact hj)
    have e : addW f (s :: w) m = addW (addAt f s m) w m := rfl
    rw [e, ih, addAt_get h1 h2 hj, List.count_cons]
    by_cases h : s = (j : Int) + 1
    · simp [h]
      rw [Int.mul_add]
      omega
    · simp [h]
def gj (j : Nat) (ps : List (List Int × Int)) : Int := (ps.map fun p => p.2 * ((p.1.count ((j : Int) + 1) : Nat) : Int)).sum
theorem fold_len : ∀ (ps : List (List Int × Int)) (f : List Int), (ps.foldl (fun f p => addW f p.1 p.2) f).length = f.length
  | [], f => rfl
  | p :: ps, f => by rw [List.foldl_cons, fold_len ps, addW_len]
theorem fold_get {j : Nat} : ∀ (ps : List (List Int × Int)) (f : List Int), (∀ p ∈ ps, Vd f.length p.1) → j < f.length → (ps.foldl (fun f p => addW f p.1 p.2) f).getD j 0 = f.getD j 0 + gj j ps
  | [], f, _, _ => by simp [gj]
  | p :: ps, f, hv, hj => by
    have e1 := addW_get (m := p.2) (j := j) p.1 f (hv p (List.mem_cons_self ..)) hj
    have ih := fold_get ps (addW f p.1 p.2) (j := j) (by rw [addW_len]; exact fun x hx => hv x (List.mem_cons_of_mem _ hx)) (by rw [addW_len]; exact hj)
    rw [List.foldl_cons, ih, e1]
    simp [gj, Int.add_assoc]
theorem gj_addAt {j : Nat} {s : Int} : ∀ (rule : List (List Int)) (c : List Int), c.length = rule.length → 1 ≤ s → s ≤ rule.length → gj j (rule.zip (addAt c s 1)) = gj j (rule.zip c) + ((wd rule s).count ((j : Int) + 1) : Nat)
  | [], _, _, h1, h2 => by simp at h2; omega
  | r :: rule, [], hl, _, _ => by simp at hl
  | r :: rule, x :: c, hl, h1, h2 => by
    by_cases hs : s = 1
    · subst hs
      simp [addAt, wd, gj, Int.add_mul]
      omega
    · have ih := gj_addAt (j := j) (s := s - 1) rule c (by simpa using hl) (by omega) (by simp at h2; omega)
      obtain ⟨k, hk⟩ : ∃ k : Nat, (s - 1).toNat = k + 1 := ⟨(s - 2).toNat, by omega⟩
      have hk2 : (s - 1 - 1).toNat = k := by omega
      simp only [addAt, wd, hk, hk2] at ih ⊢
      simp [gj] at ih ⊢
      omega
theorem cnt_cons {n : Nat} {s : Int} {row : List Int} (h1 : 1 ≤ s) (h2 : s ≤ n) : cnt n (s :: row) = addAt (cnt n row) s 1 := by
  refine ext_getD (by rw [addAt_len, cnt_len, cnt_len]) fun j hj => ?_
  rw [cnt_len] at hj
  rw [addAt_get h1 (by rw [cnt_len]; exact h2) (by rw [cnt_len]; exact hj), cnt_get hj, cnt_get hj, List.count_cons]
  by_cases h : s = (j : Int) + 1 <;> simp [h]
theorem zip_cnt_nil {j : Nat} : ∀ (rule : List (List Int)) (c : List Int), (∀ x ∈ c, x = 0) → gj j (rule.zip c) = 0
  | [], _, _ => by simp [gj]
  | r :: rule, [], _ => by simp [gj]
  | r :: rule, x :: c, h => by
    have ih := zip_cnt_nil (j := j) rule c fun y hy => h y (List.mem_cons_of_mem _ hy)
    have := h x (List.mem_cons_self ..)
    subst this
    simp [gj] at ih ⊢
    omega
theorem gj_cnt {rule : List (List Int)} {j : Nat} : ∀ row : List Int, Vd rule.length row → gj j (rule.zip (cnt rule.length row)) = ((grw rule row).count ((j : Int) + 1) : Nat)
  | [], _ => by
    rw [zip_cnt_nil]
    · simp [grw]
    · intro x hx
      simp [cnt] at hx
      exact hx.2.symm
  | s :: row, hv => by
    obtain ⟨h1, h2⟩ := hv s (List.mem_cons_self ..)
    have ih := gj_cnt (rule := rule) (j := j) row fun x hx => hv x (List.mem_cons_of_mem _ hx)
    rw [cnt_cons h1 h2, gj_addAt rule _ cnt_len h1 h2, ih]
    simp [grw, List.count_append]
    omega
theorem cgr_cnt {rule : List (List Int)} {row : List Int} (h : RuOk rule) (hv : Vd rule.length row) : cgr rule (cnt rule.length row) = cnt rule.length (grw rule row) := by
  have hl : (cgr rule (cnt rule.length row)).length = rule.length := by
    unfold cgr
    rw [fold_len]
    simp
  refine ext_getD (by rw [hl, cnt_len]) fun j hj => ?_
  rw [hl] at hj
  rw [cnt_get hj, ← gj_cnt row hv]
  unfold cgr
  rw [fold_get _ _ (zip_vd h (by simp)) (by simpa using hj)]
  simp [List.getD_eq_getElem?_getD, hj]
/-- grown n times -/
def git (rule : List (List Int)) : Nat → List Int → List Int
  | 0, s => s
  | n + 1, s => git rule n (grw rule s)
theorem git_vd {rule : List (List Int)} (h : RuOk rule) : ∀ (n : Nat) {s : List Int}, Vd rule.length s → Vd rule.length (git rule n s)
  | 0, _, hv => hv
  | n + 1, _, hv => git_vd h n (grw_vd h hv)
theorem itc_cnt {rule : List (List Int)} (h : RuOk rule) : ∀ (n : Nat) {s : List Int}, Vd rule.length s → itc rule n (cnt rule.length s) = cnt rule.length (git rule n s)
  | 0, _, _ => rfl
  | n + 1, s, hv => by
    show itc rule n (cgr rule _) = _
    rw [cgr_cnt h hv, itc_cnt h n (grw_vd h hv)]
    rfl
theorem one0_cnt {n : Nat} {s : Int} : one0 n s = cnt n [s] := by
  unfold one0 cnt
  refine List.map_congr_left fun j hj => ?_
  by_cases h : (j : Int) = s - 1
  · have : s = (j : Int) + 1 := by omega
    simp [this]
  · have : ¬ s = (j : Int) + 1 := by omega
    simp [h, this]
theorem sum_addAt {s m : Int} : ∀ (f : List Int), 1 ≤ s → s ≤ f.length → (addAt f s m).sum = f.sum + m
  | [], h1, h2 => by simp at h2; omega
  | x :: f, h1, h2 => by
    by_cases hs : s = 1
    · subst hs
      simp [addAt]
      omega
    · have ih := sum_addAt (s := s - 1) (m := m) f (by omega) (by simp at h2; omega)
      obtain ⟨k, hk⟩ : ∃ k : Nat, (s - 1).toNat = k + 1 := ⟨(s - 2).toNat, by omega⟩
      have hk2 : (s - 1 - 1).toNat = k := by omega
      simp only [addAt, hk, hk2] at ih ⊢
      simp at ih ⊢
      omega
theorem sum_cnt {n : Nat} : ∀ row : List Int, Vd n row → (cnt n row).sum = row.length
  | [], _ => by
    have : ∀ l : List Int, (∀ x ∈ l, x = 0) → l.sum = 0 := fun l => by
      induction l with
      | nil => intro _; rfl
      | cons a l ih => intro h; rw [List.sum_cons, ih fun x hx => h x (List.mem_cons_of_mem _ hx), h a (List.mem_cons_self ..)]; rfl
    refine (this _ fun x hx => ?_).trans (by simp)
    simp [cnt] at hx
    exact hx.2.symm
  | s :: row, hv => by
    obtain ⟨h1, h2⟩ := hv s (List.mem_cons_self ..)
    rw [cnt_cons h1 h2, sum_addAt _ h1 (by rw [cnt_len]; exact h2), sum_cnt row fun x hx => hv x (List.mem_cons_of_mem _ hx)]
    simp
theorem git_succ (rule : List (List Int)) : ∀ (n : Nat) (s : List Int), git rule (n + 1) s = grw rule (git rule n s)
  | 0, _ => rfl
  | n + 1, s => by
    show git rule (n + 1) (grw rule s) = _
    rw [git_succ rule n]
    rfl
/-- grown often lets, where the sizes are small -/
theorem gro_some {rule : List (List Int)} : ∀ (n : Nat) (s : List Int), (∀ k, k < n → (git rule (k + 1) s).length ≤ 20000) → gro rule n s = some (git rule n s)
  | 0, _, _ => rfl
  | n + 1, s, h => by
    have h0 := h 0 (by omega)
    have e : (git rule (0 + 1) s).length = gsz rule s := grw_len
    unfold gro
    rw [if_neg (by omega), gro_some n (grw rule s) fun k hk => h (k + 1) (by omega)]
    rfl
theorem gro_none {rule : List (List Int)} : ∀ (n : Nat) (s : List Int) (k : Nat), k < n → 20000 < (git rule (k + 1) s).length → gro rule n s = none
  | 0, _, _, h, _ => by omega
  | n + 1, s, 0, h, hq => by
    have e : (git rule (0 + 1) s).length = gsz rule s := grw_len
    unfold gro
    rw [if_pos (by omega)]
  | n + 1, s, k + 1, h, hq => by
    unfold gro
    split
    · rfl
    · exact gro_none n (grw rule s) k (by omega) hq
end K74
namespace K74
open PySem PySem.Spec PyProof.Rows L2 LamX NdefX HotX Vs






theorem asB_ok {f : M D} {ev ev1 : Ev} {b : Bool} (h : f ev = .ok (.bl b) ev1) : asB f ev = .ok b ev1 := by
  unfold asB
  rw [bnd_ok h]
  rfl
theorem orT_no {a b : M Bool} {ev ev1 : Ev} (h : a ev = .ok false ev1) : orT a b ev = b ev1 := by
  unfold orT
  rw [bnd_ok h]
  rfl
theorem andE_yes {a b : M D} {ev ev1 : Ev} (h : a ev = .ok (.bl true) ev1) : andE a b ev = b ev1 := by
  unfold andE
  rw [bnd_ok (asB_ok h)]
  rfl
theorem eqD_ID {a b : List Int} {ev : Ev} : eqD (ID a) (ID b) ev = .ok (.bl (decide (a = b))) ev := by
  have e : eqO (ID a) (ID b) = some (decide (a = b)) := eqO_tup a b
  unfold eqD
  rw [e]
  rfl
theorem neD_ID {a b : List Int} {ev : Ev} : neD (ID a) (ID b) ev = .ok (.bl (!decide (a = b))) ev := by
  have e : eqO (ID a) (ID b) = some (decide (a = b)) := eqO_tup a b
  unfold neD
  rw [e]
  rfl
theorem eqD_int {a b : Int} {ev : Ev} : eqD (.int a) (.int b) ev = .ok (.bl (decide (a = b))) ev := by
  unfold eqD
  rw [eqO_int]
  rfl
theorem neD_int {a b : Int} {ev : Ev} : neD (.int a) (.int b) ev = .ok (.bl (!decide (a = b))) ev := by
  unfold neD
  rw [eqO_int]
  rfl
theorem vP_sh {i : Nat} {ev : Ev} {d : D} (h : ev[i]? = some (.sh d)) : vP i ev = .ok d ev := by
  unfold vP
  rw [h]
theorem vV_sh {i : Nat} {ev : Ev} {d : D} (h : ev[i]? = some (.sh d)) : vV i ev = .ok d ev := by
  unfold vV
  rw [h]
theorem len_ID {i : Nat} {ev : Ev} {ns : List Int} (h : ev[i]? = some (.sh (ID ns))) : bnd (vP i) lenD ev = .ok (.int ns.length) ev := by
  rw [bnd_ok (vP_sh h)]
  simp [Vs.runP, Vs.runI, Vs.io0, Vs.retS, Vs.setS, Vs.setO, Vs.putS, Vs.lf, Vs.sq, Vs.nxt, Vs.ifS, Vs.bnd, Vs.ret, Vs.bad, Vs.opt, Vs.andE, Vs.orE, Vs.notE, Vs.asB, Vs.args, Vs.vV, Vs.vP, Vs.isD, Vs.isO, Vs.tyD, Vs.clD, Vs.kfB, Vs.cl, Vs.b2, Vs.ch, Vs.andT, Vs.orT, Vs.notT, Vs.dropS, Vs.exS, Vs.outB, K74.ite_ev, K74.itA_tup, K74.itA_lst, K74.itA_sq, K74.kit_ii, K74.kit_ib, K74.kit_bi, K74.kit_bb, K74.kit_ni, K74.kit_si, K74.kit_ti, K74.kit_li, K74.kit_di, K74.kit_tt, K74.kit_it, K74.kit_bt, K74.kit_nt, K74.kit_st, K74.kit_lt, K74.kit_dt, Vs.inn, Vs.lend, Vs.unl, Vs.unl1, Vs.fg, Vs.stE, Vs.tg1, Vs.tg2, Vs.ifE, Vs.yes, Vs.frz, Vs.lcAn, Vs.lcM, Vs.allD, Vs.itsL, Vs.lstB, Vs.lenD, Vs.its, Vs.leD, Vs.ltD, Vs.gtD, Vs.geD, Vs.int2, Vs.fB, Vs.fI, Vs.addD, Vs.isI2, Vs.isT2, Vs.subD, Vs.catT, Vs.catL, Vs.ixD, Vs.ixO, Vs.forA, Vs.forR1, Vs.forR2, Vs.forL, Vs.stp, Vs.stp2, Vs.meV, Vs.mutV, Vs.vL, Vs.gExt, Vs.gApp, Vs.lstF, Vs.tupE, Vs.slV, Vs.sl3, Vs.slD, Vs.tupD, Vs.sumD, Vs.absD, Vs.intD, Vs.lcR1, Vs.lcR2, Vs.lcL, Vs.forZ, Vs.zipD, Vs.repF, Vs.subS, Vs.gSet, Vs.ixV, Vs.eqD, Vs.neD, Vs.isnD, Vs.isbD, Vs.max2D, Vs.asgT, Vs.clI, Vs.Sl.to, Vs.parO, Vs.asI, ID]
theorem len_RD {i : Nat} {ev : Ev} {rule : List (List Int)} (h : ev[i]? = some (.sh (RD rule))) : bnd (vP i) lenD ev = .ok (.int rule.length) ev := by
  rw [bnd_ok (vP_sh h)]
  simp [Vs.runP, Vs.runI, Vs.io0, Vs.retS, Vs.setS, Vs.setO, Vs.putS, Vs.lf, Vs.sq, Vs.nxt, Vs.ifS, Vs.bnd, Vs.ret, Vs.bad, Vs.opt, Vs.andE, Vs.orE, Vs.notE, Vs.asB, Vs.args, Vs.vV, Vs.vP, Vs.isD, Vs.isO, Vs.tyD, Vs.clD, Vs.kfB, Vs.cl, Vs.b2, Vs.ch, Vs.andT, Vs.orT, Vs.notT, Vs.dropS, Vs.exS, Vs.outB, K74.ite_ev, K74.itA_tup, K74.itA_lst, K74.itA_sq, K74.kit_ii, K74.kit_ib, K74.kit_bi, K74.kit_bb, K74.kit_ni, K74.kit_si, K74.kit_ti, K74.kit_li, K74.kit_di, K74.kit_tt, K74.kit_it, K74.kit_bt, K74.kit_nt, K74.kit_st, K74.kit_lt, K74.kit_dt, Vs.inn, Vs.lend, Vs.unl, Vs.unl1, Vs.fg, Vs.stE, Vs.tg1, Vs.tg2, Vs.ifE, Vs.yes, Vs.frz, Vs.lcAn, Vs.lcM, Vs.allD, Vs.itsL, Vs.lstB, Vs.lenD, Vs.its, Vs.leD, Vs.ltD, Vs.gtD, Vs.geD, Vs.int2, Vs.fB, Vs.fI, Vs.addD, Vs.isI2, Vs.isT2, Vs.subD, Vs.catT, Vs.catL, Vs.ixD, Vs.ixO, Vs.forA, Vs.forR1, Vs.forR2, Vs.forL, Vs.stp, Vs.stp2, Vs.meV, Vs.mutV, Vs.vL, Vs.gExt, Vs.gApp, Vs.lstF, Vs.tupE, Vs.slV, Vs.sl3, Vs.slD, Vs.tupD, Vs.sumD, Vs.absD, Vs.intD, Vs.lcR1, Vs.lcR2, Vs.lcL, Vs.forZ, Vs.zipD, Vs.repF, Vs.subS, Vs.gSet, Vs.ixV, Vs.eqD, Vs.neD, Vs.isnD, Vs.isbD, Vs.max2D, Vs.asgT, Vs.clI, Vs.Sl.to, Vs.parO, Vs.asI, RD]
theorem clI_io {i : Nat} {f : List D → List D → Rc} {fs : M (List D)} {ev ev1 : Ev} {ds0 ds ds' es : List D} {d : D} (h0 : ev[i]? = some (.io ds0)) (h : fs ev = .ok es ev1) (h1 : ev1[i]? = some (.io ds)) (hf : f ds es = .ok d ds') : clI i f fs ev = .ok d (ev1.set i (.io ds')) := by
  have a1 : vL i ev = .ok ds0 ev := by unfold vL; rw [h0]
  have a2 : vL i ev1 = .ok ds ev1 := by unfold vL; rw [h1]
  unfold clI
  rw [bnd_ok a1, bnd_ok h, bnd_ok a2]
  simp only [h1, hf]
  rfl
theorem clI_ol {i : Nat} {f : List D → List D → Rc} {fs : M (List D)} {ev ev1 : Ev} {ds0 ds ds' es : List D} {d : D} (h0 : ev[i]? = some (.ol ds0)) (h : fs ev = .ok es ev1) (h1 : ev1[i]? = some (.ol ds)) (hf : f ds es = .ok d ds') : clI i f fs ev = .ok d (ev1.set i (.ol ds')) := by
  have a1 : vL i ev = .ok ds0 ev := by unfold vL; rw [h0]
  have a2 : vL i ev1 = .ok ds ev1 := by unfold vL; rw [h1]
  unfold clI
  rw [bnd_ok a1, bnd_ok h, bnd_ok a2]
  simp only [h1, hf]
  rfl
theorem lcR1_hd {vs : List Nat} {f : M D} {step : D → M (Option D)} {E : Hnd → Ev} (P : Int → Prop) {ev ev1 : Ev} {m : Int} {h : Hnd} {n : Nat} (hf : f ev = .ok (.int m) ev1) (he : fg vs ev1 = E h) (h0 : 0 ≤ m) (hm : m ≤ 1000) (k : h.Ok n)
    (hs : ∀ (i : D) (h : Hnd) (q : Nat), h.Ok q → q < n + 1000 → ∃ (x : Int) (h' : Hnd), inn vs (step i) (E h) = .ok (some (.int x)) (E h') ∧ P x ∧ h'.Ok (q + 1)) :
    ∃ (ns : List Int) (h' : Hnd), lcR1 vs f step ev = .ok (ns.map .int) (E h') ∧ ns.length = m.toNat ∧ (∀ x ∈ ns, P x) ∧ h'.Ok (n + m.toNat) := by
  obtain ⟨xs, h', e, l, p, k'⟩ := lcM_draw (vs := vs) (step := step) (E := E) (fun x => ∃ i, x = .int i ∧ P i) (ds := rng 0 m) (ev := ev1) k he (by rw [rng_length]; omega) (fun d h q hd hq hqn => by
    rw [rng_length] at hqn
    obtain ⟨x, h', e, p, k'⟩ := hs d h q hq (by omega)
    exact ⟨.int x, h', e, ⟨x, rfl, p⟩, k'⟩)
  obtain ⟨ns, rfl, nl, np⟩ := ints_of p
  rw [rng_length] at l k'
  refine ⟨ns, h', ?_, by omega, np, k'⟩
  unfold lcR1
  rw [bnd_ok hf]
  simp only
  rw [if_pos ⟨by omega, by omega⟩]
  exact e
theorem lcR2_map {vs : List Nat} {f f2 : M D} {st : D → M (Option D)} {g : D → D} {n : Int} {ev ev1 : Ev} (hf : f ev = .ok (.int 1) ev) (hf2 : f2 ev = .ok (.int n) ev1) (h0 : 0 ≤ n) (hn : n ≤ 100000) (hs : ∀ i : Int, inn vs (st (.int i)) (fg vs ev1) = .ok (some (g (.int i))) (fg vs ev1)) : lcR2 vs f f2 st ev = .ok ((rng 1 n).map g) (fg vs ev1) := by
  unfold lcR2
  rw [bnd_ok hf, bnd_ok hf2]
  simp only
  rw [if_pos ⟨by omega, by omega, by omega, by omega⟩]
  refine lcM_map (by rw [Vs.rng_len]; omega) fun d hd => ?_
  unfold rng at hd
  obtain ⟨k, hk, rfl⟩ := List.mem_map.mp hd
  exact hs _
end K74
namespace K74
open PySem PySem.Spec PyProof.Rows L2 LamX NdefX HotX Vs






theorem git_len {rule : List (List Int)} (h : RuOk rule) : ∀ (k : Nat) {s : List Int}, Vd rule.length s → (git rule k s).length ≤ 4 ^ k * s.length
  | 0, s, _ => by simp [Vs.runP, Vs.runI, Vs.io0, Vs.retS, Vs.setS, Vs.setO, Vs.putS, Vs.lf, Vs.sq, Vs.nxt, Vs.ifS, Vs.bnd, Vs.ret, Vs.bad, Vs.opt, Vs.andE, Vs.orE, Vs.notE, Vs.asB, Vs.args, Vs.vV, Vs.vP, Vs.isD, Vs.isO, Vs.tyD, Vs.clD, Vs.kfB, Vs.cl, Vs.b2, Vs.ch, Vs.andT, Vs.orT, Vs.notT, Vs.dropS, Vs.exS, Vs.outB, K74.ite_ev, K74.itA_tup, K74.itA_lst, K74.itA_sq, K74.kit_ii, K74.kit_ib, K74.kit_bi, K74.kit_bb, K74.kit_ni, K74.kit_si, K74.kit_ti, K74.kit_li, K74.kit_di, K74.kit_tt, K74.kit_it, K74.kit_bt, K74.kit_nt, K74.kit_st, K74.kit_lt, K74.kit_dt, Vs.inn, Vs.lend, Vs.unl, Vs.unl1, Vs.fg, Vs.stE, Vs.tg1, Vs.tg2, Vs.ifE, Vs.yes, Vs.frz, Vs.lcAn, Vs.lcM, Vs.allD, Vs.itsL, Vs.lstB, Vs.lenD, Vs.its, Vs.leD, Vs.ltD, Vs.gtD, Vs.geD, Vs.int2, Vs.fB, Vs.fI, Vs.addD, Vs.isI2, Vs.isT2, Vs.subD, Vs.catT, Vs.catL, Vs.ixD, Vs.ixO, Vs.forA, Vs.forR1, Vs.forR2, Vs.forL, Vs.stp, Vs.stp2, Vs.meV, Vs.mutV, Vs.vL, Vs.gExt, Vs.gApp, Vs.lstF, Vs.tupE, Vs.slV, Vs.sl3, Vs.slD, Vs.tupD, Vs.sumD, Vs.absD, Vs.intD, Vs.lcR1, Vs.lcR2, Vs.lcL, Vs.forZ, Vs.zipD, Vs.repF, Vs.subS, Vs.gSet, Vs.ixV, Vs.eqD, Vs.neD, Vs.isnD, Vs.isbD, Vs.max2D, Vs.asgT, Vs.clI, Vs.Sl.to, Vs.parO, Vs.asI, git]
  | k + 1, s, hv => by
    have ih := git_len h k (grw_vd h hv)
    have := gsz_le h hv
    rw [← grw_len] at this
    show (git rule k (grw rule s)).length ≤ _
    have h2 : 4 ^ k * (grw rule s).length ≤ 4 ^ k * (4 * s.length) := Nat.mul_le_mul_left _ this
    have h3 : 4 ^ (k + 1) * s.length = 4 ^ k * (4 * s.length) := by rw [Nat.pow_succ, Nat.mul_assoc]
    omega
theorem now_step (K : PySem.W.Frag) {e0 e2 e3 e6 : Sl} {x y z k : D} (e : r__law_step K [x, y] = .ok z []) : lp__law_steps_right_1 K k [e0, .sh x, e2, e3, .sh y, .no, e6, .no, .no] = .nx [e0, .sh x, e2, e3, .sh z, .sh k, e6, .no, .no] := by
  simp [Vs.runP, Vs.runI, Vs.io0, Vs.retS, Vs.setS, Vs.setO, Vs.putS, Vs.lf, Vs.sq, Vs.nxt, Vs.ifS, Vs.bnd, Vs.ret, Vs.bad, Vs.opt, Vs.andE, Vs.orE, Vs.notE, Vs.asB, Vs.args, Vs.vV, Vs.vP, Vs.isD, Vs.isO, Vs.tyD, Vs.clD, Vs.kfB, Vs.cl, Vs.b2, Vs.ch, Vs.andT, Vs.orT, Vs.notT, Vs.dropS, Vs.exS, Vs.outB, K74.ite_ev, K74.itA_tup, K74.itA_lst, K74.itA_sq, K74.kit_ii, K74.kit_ib, K74.kit_bi, K74.kit_bb, K74.kit_ni, K74.kit_si, K74.kit_ti, K74.kit_li, K74.kit_di, K74.kit_tt, K74.kit_it, K74.kit_bt, K74.kit_nt, K74.kit_st, K74.kit_lt, K74.kit_dt, Vs.inn, Vs.lend, Vs.unl, Vs.unl1, Vs.fg, Vs.stE, Vs.tg1, Vs.tg2, Vs.ifE, Vs.yes, Vs.frz, Vs.lcAn, Vs.lcM, Vs.allD, Vs.itsL, Vs.lstB, Vs.lenD, Vs.its, Vs.leD, Vs.ltD, Vs.gtD, Vs.geD, Vs.int2, Vs.fB, Vs.fI, Vs.addD, Vs.isI2, Vs.isT2, Vs.subD, Vs.catT, Vs.catL, Vs.ixD, Vs.ixO, Vs.forA, Vs.forR1, Vs.forR2, Vs.forL, Vs.stp, Vs.stp2, Vs.meV, Vs.mutV, Vs.vL, Vs.gExt, Vs.gApp, Vs.lstF, Vs.tupE, Vs.slV, Vs.sl3, Vs.slD, Vs.tupD, Vs.sumD, Vs.absD, Vs.intD, Vs.lcR1, Vs.lcR2, Vs.lcL, Vs.forZ, Vs.zipD, Vs.repF, Vs.subS, Vs.gSet, Vs.ixV, Vs.eqD, Vs.neD, Vs.isnD, Vs.isbD, Vs.max2D, Vs.asgT, Vs.clI, Vs.Sl.to, Vs.parO, Vs.asI, lp__law_steps_right_1, e]
theorem now_loop (K : PySem.W.Frag) {rule : List (List Int)} {e0 e2 e3 e6 : Sl} (h : RuOk rule) : ∀ (ks : List D) (s : List Int), Vd rule.length s → 4 ^ ks.length * s.length ≤ 1000000 →
    loop [5] (lp__law_steps_right_1 K) ks [e0, .sh (RD rule), e2, e3, .sh (ID s), .no, e6, .no, .no] = .nx [e0, .sh (RD rule), e2, e3, .sh (ID (git rule ks.length s)), .no, e6, .no, .no]
  | [], s, _, _ => rfl
  | k :: ks, s, hv, hl => by
    have h1 : 4 ^ (ks.length + 1) * s.length = 4 ^ ks.length * (4 * s.length) := by rw [Nat.pow_succ, Nat.mul_assoc]
    have h2 : 1 * (4 * s.length) ≤ 4 ^ ks.length * (4 * s.length) := Nat.mul_le_mul_right _ (Nat.pos_of_ne_zero (by simp [Vs.runP, Vs.runI, Vs.io0, Vs.retS, Vs.setS, Vs.setO, Vs.putS, Vs.lf, Vs.sq, Vs.nxt, Vs.ifS, Vs.bnd, Vs.ret, Vs.bad, Vs.opt, Vs.andE, Vs.orE, Vs.notE, Vs.asB, Vs.args, Vs.vV, Vs.vP, Vs.isD, Vs.isO, Vs.tyD, Vs.clD, Vs.kfB, Vs.cl, Vs.b2, Vs.ch, Vs.andT, Vs.orT, Vs.notT, Vs.dropS, Vs.exS, Vs.outB, K74.ite_ev, K74.itA_tup, K74.itA_lst, K74.itA_sq, K74.kit_ii, K74.kit_ib, K74.kit_bi, K74.kit_bb, K74.kit_ni, K74.kit_si, K74.kit_ti, K74.kit_li, K74.kit_di, K74.kit_tt, K74.kit_it, K74.kit_bt, K74.kit_nt, K74.kit_st, K74.kit_lt, K74.kit_dt, Vs.inn, Vs.lend, Vs.unl, Vs.unl1, Vs.fg, Vs.stE, Vs.tg1, Vs.tg2, Vs.ifE, Vs.yes, Vs.frz, Vs.lcAn, Vs.lcM, Vs.allD, Vs.itsL, Vs.lstB, Vs.lenD, Vs.its, Vs.leD, Vs.ltD, Vs.gtD, Vs.geD, Vs.int2, Vs.fB, Vs.fI, Vs.addD, Vs.isI2, Vs.isT2, Vs.subD, Vs.catT, Vs.catL, Vs.ixD, Vs.ixO, Vs.forA, Vs.forR1, Vs.forR2, Vs.forL, Vs.stp, Vs.stp2, Vs.meV, Vs.mutV, Vs.vL, Vs.gExt, Vs.gApp, Vs.lstF, Vs.tupE, Vs.slV, Vs.sl3, Vs.slD, Vs.tupD, Vs.sumD, Vs.absD, Vs.intD, Vs.lcR1, Vs.lcR2, Vs.lcL, Vs.forZ, Vs.zipD, Vs.repF, Vs.subS, Vs.gSet, Vs.ixV, Vs.eqD, Vs.neD, Vs.isnD, Vs.isbD, Vs.max2D, Vs.asgT, Vs.clI, Vs.Sl.to, Vs.parO, Vs.asI]))
    have h3 := gsz_le h hv
    rw [← grw_len] at h3
    have h4 : 4 ^ ks.length * (grw rule s).length ≤ 4 ^ ks.length * (4 * s.length) := Nat.mul_le_mul_left _ h3
    simp only [List.length_cons] at hl
    exact (loop_cons (now_step K (step_eq K h hv (by omega)))).trans (now_loop K h ks (grw rule s) (grw_vd h hv) (by omega))
theorem cnt_int {ns : List Int} {i : Int} : (ns.map D.int).countP (fun z => eqF z (.int i)) = ns.count i := by
  rw [List.countP_map, List.count_eq_countP]
  refine congrArg (fun p => List.countP p ns) (funext fun x => ?_)
  simp [Vs.runP, Vs.runI, Vs.io0, Vs.retS, Vs.setS, Vs.setO, Vs.putS, Vs.lf, Vs.sq, Vs.nxt, Vs.ifS, Vs.bnd, Vs.ret, Vs.bad, Vs.opt, Vs.andE, Vs.orE, Vs.notE, Vs.asB, Vs.args, Vs.vV, Vs.vP, Vs.isD, Vs.isO, Vs.tyD, Vs.clD, Vs.kfB, Vs.cl, Vs.b2, Vs.ch, Vs.andT, Vs.orT, Vs.notT, Vs.dropS, Vs.exS, Vs.outB, K74.ite_ev, K74.itA_tup, K74.itA_lst, K74.itA_sq, K74.kit_ii, K74.kit_ib, K74.kit_bi, K74.kit_bb, K74.kit_ni, K74.kit_si, K74.kit_ti, K74.kit_li, K74.kit_di, K74.kit_tt, K74.kit_it, K74.kit_bt, K74.kit_nt, K74.kit_st, K74.kit_lt, K74.kit_dt, Vs.inn, Vs.lend, Vs.unl, Vs.unl1, Vs.fg, Vs.stE, Vs.tg1, Vs.tg2, Vs.ifE, Vs.yes, Vs.frz, Vs.lcAn, Vs.lcM, Vs.allD, Vs.itsL, Vs.lstB, Vs.lenD, Vs.its, Vs.leD, Vs.ltD, Vs.gtD, Vs.geD, Vs.int2, Vs.fB, Vs.fI, Vs.addD, Vs.isI2, Vs.isT2, Vs.subD, Vs.catT, Vs.catL, Vs.ixD, Vs.ixO, Vs.forA, Vs.forR1, Vs.forR2, Vs.forL, Vs.stp, Vs.stp2, Vs.meV, Vs.mutV, Vs.vL, Vs.gExt, Vs.gApp, Vs.lstF, Vs.tupE, Vs.slV, Vs.sl3, Vs.slD, Vs.tupD, Vs.sumD, Vs.absD, Vs.intD, Vs.lcR1, Vs.lcR2, Vs.lcL, Vs.forZ, Vs.zipD, Vs.repF, Vs.subS, Vs.gSet, Vs.ixV, Vs.eqD, Vs.neD, Vs.isnD, Vs.isbD, Vs.max2D, Vs.asgT, Vs.clI, Vs.Sl.to, Vs.parO, Vs.asI, eqF, Vs.toV, eqV]
theorem flt_ints (ns : List Int) : (ns.map D.int).all fltD = true := by
  simp [Vs.runP, Vs.runI, Vs.io0, Vs.retS, Vs.setS, Vs.setO, Vs.putS, Vs.lf, Vs.sq, Vs.nxt, Vs.ifS, Vs.bnd, Vs.ret, Vs.bad, Vs.opt, Vs.andE, Vs.orE, Vs.notE, Vs.asB, Vs.args, Vs.vV, Vs.vP, Vs.isD, Vs.isO, Vs.tyD, Vs.clD, Vs.kfB, Vs.cl, Vs.b2, Vs.ch, Vs.andT, Vs.orT, Vs.notT, Vs.dropS, Vs.exS, Vs.outB, K74.ite_ev, K74.itA_tup, K74.itA_lst, K74.itA_sq, K74.kit_ii, K74.kit_ib, K74.kit_bi, K74.kit_bb, K74.kit_ni, K74.kit_si, K74.kit_ti, K74.kit_li, K74.kit_di, K74.kit_tt, K74.kit_it, K74.kit_bt, K74.kit_nt, K74.kit_st, K74.kit_lt, K74.kit_dt, Vs.inn, Vs.lend, Vs.unl, Vs.unl1, Vs.fg, Vs.stE, Vs.tg1, Vs.tg2, Vs.ifE, Vs.yes, Vs.frz, Vs.lcAn, Vs.lcM, Vs.allD, Vs.itsL, Vs.lstB, Vs.lenD, Vs.its, Vs.leD, Vs.ltD, Vs.gtD, Vs.geD, Vs.int2, Vs.fB, Vs.fI, Vs.addD, Vs.isI2, Vs.isT2, Vs.subD, Vs.catT, Vs.catL, Vs.ixD, Vs.ixO, Vs.forA, Vs.forR1, Vs.forR2, Vs.forL, Vs.stp, Vs.stp2, Vs.meV, Vs.mutV, Vs.vL, Vs.gExt, Vs.gApp, Vs.lstF, Vs.tupE, Vs.slV, Vs.sl3, Vs.slD, Vs.tupD, Vs.sumD, Vs.absD, Vs.intD, Vs.lcR1, Vs.lcR2, Vs.lcL, Vs.forZ, Vs.zipD, Vs.repF, Vs.subS, Vs.gSet, Vs.ixV, Vs.eqD, Vs.neD, Vs.isnD, Vs.isbD, Vs.max2D, Vs.asgT, Vs.clI, Vs.Sl.to, Vs.parO, Vs.asI, fltD]
theorem el_cnt (K : PySem.W.Frag) {e0 e1 e2 e3 e6 : Sl} {ns : List Int} {i : Int} (h0 : lend [e0, e1, e2, e3, e6] = [e0, e1, e2, e3, e6]) (h1 : unl [e0, e1, e2, e3, e6] [e0, e1, e2, e3, e6] = [e0, e1, e2, e3, e6]) : inn [8] (el__law_steps_right_2 K (.int i)) [e0, e1, e2, e3, .sh (ID ns), .no, e6, .no, .no] = .ok (some (.int (ns.count i))) [e0, e1, e2, e3, .sh (ID ns), .no, e6, .no, .no] := by
  have hc : cntE (vV 4) (vV 8) [e0, e1, e2, e3, .sh (ID ns), .no, e6, .no, .sh (.int i)] = .ok (.int (ns.count i)) [e0, e1, e2, e3, .sh (ID ns), .no, e6, .no, .sh (.int i)] := by
    have a1 : vV 4 [e0, e1, e2, e3, .sh (ID ns), .no, e6, .no, .sh (.int i)] = .ok (.tup (ns.map .int)) [e0, e1, e2, e3, .sh (ID ns), .no, e6, .no, .sh (.int i)] := rfl
    have a2 : vV 8 [e0, e1, e2, e3, .sh (ID ns), .no, e6, .no, .sh (.int i)] = .ok (.int i) [e0, e1, e2, e3, .sh (ID ns), .no, e6, .no, .sh (.int i)] := rfl
    unfold cntE
    rw [bnd_ok a1]
    simp only
    rw [bnd_ok a2, if_pos ⟨rfl, flt_ints ns⟩, cnt_int]
    rfl
  simp only [lend, List.map_cons, List.map_nil, unl, List.zipWith_cons_cons, List.zipWith_nil_left, List.cons.injEq, and_true] at h0 h1
  obtain ⟨p0, p1, p2, p3, p6⟩ := h0
  obtain ⟨q0, q1, q2, q3, q6⟩ := h1
  unfold inn
  simp only [lend, List.map_cons, List.map_nil, p0, p1, p2, p3, p6]
  unfold el__law_steps_right_2
  simp only [stE, tg1, ifE, yes, List.set_cons_succ, List.set_cons_zero]
  simp only [bnd, Vs.ret, hc, if_true]
  simp only [unl, fg, List.foldl_cons, List.foldl_nil, List.set_cons_succ, List.set_cons_zero, List.zipWith_cons_cons, List.zipWith_nil_left, q0, q1, q2, q3, q6]
  rfl
theorem el_row (K : PySem.W.Frag) {h : Hnd} {q : Nat} {rule : List (List Int)} {i : D} (hr : RuOk rule) (k : h.Ok q) (hq : q < 2 ^ 50) : ∃ (x : Int) (h' : Hnd), inn [5] (el__law_steps_right_0 K i) [.io h.ds, .sh (RD rule), .no, .no, .no, .no, .no, .no, .no] = .ok (some (.int x)) [.io h'.ds, .sh (RD rule), .no, .no, .no, .no, .no, .no, .no] ∧ (1 ≤ x ∧ x ≤ rule.length) ∧ h'.Ok (q + 1) := by
  have h1 := hr.lo
  have h2 := hr.hi
  obtain ⟨h', j, e, j0, j1, k'⟩ := draw_ok K (a := (rule.length : Int)) k (by omega) (by omega) (by omega)
  refine ⟨1 + j, h', ?_, ⟨by omega, by omega⟩, k'⟩
  have a1 := args_ok (len_RD (i := 1) (rule := rule) (ev := [.io h.ds, .sh (RD rule), .no, .no, .no, .sh i, .no, .no, .no]) rfl) args_nil
  have a2 := clI_io (i := 0) (f := r__law_draw K) rfl a1 rfl e
  have a3 : b2 addD (Vs.ret (.int 1)) (clI 0 (r__law_draw K) (args [bnd (vP 1) lenD])) [.io h.ds, .sh (RD rule), .no, .no, .no, .sh i, .no, .no, .no] = .ok (.int (1 + j)) [.io h'.ds, .sh (RD rule), .no, .no, .no, .sh i, .no, .no, .no] := b2_ok rfl a2
  unfold inn el__law_steps_right_0
  generalize b2 addD (Vs.ret (.int 1)) (clI 0 (r__law_draw K) (args [bnd (vP 1) lenD])) = X at a3 ⊢
  generalize RD rule = R at a3 ⊢
  simp [Vs.runP, Vs.runI, Vs.io0, Vs.retS, Vs.setS, Vs.setO, Vs.putS, Vs.lf, Vs.sq, Vs.nxt, Vs.ifS, Vs.bnd, Vs.ret, Vs.bad, Vs.opt, Vs.andE, Vs.orE, Vs.notE, Vs.asB, Vs.args, Vs.vV, Vs.vP, Vs.isD, Vs.isO, Vs.tyD, Vs.clD, Vs.kfB, Vs.cl, Vs.b2, Vs.ch, Vs.andT, Vs.orT, Vs.notT, Vs.dropS, Vs.exS, Vs.outB, K74.ite_ev, K74.itA_tup, K74.itA_lst, K74.itA_sq, K74.kit_ii, K74.kit_ib, K74.kit_bi, K74.kit_bb, K74.kit_ni, K74.kit_si, K74.kit_ti, K74.kit_li, K74.kit_di, K74.kit_tt, K74.kit_it, K74.kit_bt, K74.kit_nt, K74.kit_st, K74.kit_lt, K74.kit_dt, Vs.inn, Vs.lend, Vs.unl, Vs.unl1, Vs.fg, Vs.stE, Vs.tg1, Vs.tg2, Vs.ifE, Vs.yes, Vs.frz, Vs.lcAn, Vs.lcM, Vs.allD, Vs.itsL, Vs.lstB, Vs.lenD, Vs.its, Vs.leD, Vs.ltD, Vs.gtD, Vs.geD, Vs.int2, Vs.fB, Vs.fI, Vs.addD, Vs.isI2, Vs.isT2, Vs.subD, Vs.catT, Vs.catL, Vs.ixD, Vs.ixO, Vs.forA, Vs.forR1, Vs.forR2, Vs.forL, Vs.stp, Vs.stp2, Vs.meV, Vs.mutV, Vs.vL, Vs.gExt, Vs.gApp, Vs.lstF, Vs.tupE, Vs.slV, Vs.sl3, Vs.slD, Vs.tupD, Vs.sumD, Vs.absD, Vs.intD, Vs.lcR1, Vs.lcR2, Vs.lcL, Vs.forZ, Vs.zipD, Vs.repF, Vs.subS, Vs.gSet, Vs.ixV, Vs.eqD, Vs.neD, Vs.isnD, Vs.isbD, Vs.max2D, Vs.asgT, Vs.clI, Vs.Sl.to, Vs.parO, Vs.asI, a3]
end K74
namespace K74
open PySem PySem.Spec PyProof.Rows L2 LamX NdefX HotX Vs






theorem ifS_no {c : M Bool} {a : S} {ev ev1 : Ev} (h : c ev = .ok false ev1) : ifS c a nxt ev = .nx ev1 := (ifS_ok h).trans rfl
theorem runI_rt {k : Nat} {body : S} {ds es es' : List D} {d : D} {ev : Ev} (h : body (.io ds :: es.map .sh ++ List.replicate k .no) = .rt d ev) (h2 : ev[0]? = some (.io es')) : runI k body ds es = .ok d es' := by
  unfold runI
  rw [h]
  simp only [io0, h2]
theorem cl_val {f : List D → Rc} {fs : M (List D)} {ev ev1 : Ev} {ds : List D} {d : D} (h : fs ev = .ok ds ev1) (e : f ds = .ok d []) : cl f fs ev = .ok d ev1 := cl_ok h e
theorem a3_ok {i j k : Nat} {ev : Ev} {x y z : D} (h1 : ev[i]? = some (.sh x)) (h2 : ev[j]? = some (.sh y)) (h3 : ev[k]? = some (.sh z)) : args [vV i, vV j, vV k] ev = .ok [x, y, z] ev := args_ok (vV_sh h1) (args_ok (vV_sh h2) (args_ok (vV_sh h3) args_nil))
theorem a2_ok {i j : Nat} {ev : Ev} {x y : D} (h1 : ev[i]? = some (.sh x)) (h2 : ev[j]? = some (.sh y)) : args [vV i, vV j] ev = .ok [x, y] ev := args_ok (vV_sh h1) (args_ok (vV_sh h2) args_nil)
theorem rng1_cnt {n : Nat} {ns : List Int} : (rng 1 ((n : Int) + 1)).map (fun d => match d with | .int i => D.int (ns.count i) | _ => .non) = (cnt n ns).map .int := by
  unfold rng cnt
  rw [List.map_map, List.map_map, show ((n : Int) + 1 - 1).toNat = n by omega]
  refine List.map_congr_left fun k _ => ?_
  simp [Vs.runP, Vs.runI, Vs.io0, Vs.retS, Vs.setS, Vs.setO, Vs.putS, Vs.lf, Vs.sq, Vs.nxt, Vs.ifS, Vs.bnd, Vs.ret, Vs.bad, Vs.opt, Vs.andE, Vs.orE, Vs.notE, Vs.asB, Vs.args, Vs.vV, Vs.vP, Vs.isD, Vs.isO, Vs.tyD, Vs.clD, Vs.kfB, Vs.cl, Vs.b2, Vs.ch, Vs.andT, Vs.orT, Vs.notT, Vs.dropS, Vs.exS, Vs.outB, K74.ite_ev, K74.itA_tup, K74.itA_lst, K74.itA_sq, K74.kit_ii, K74.kit_ib, K74.kit_bi, K74.kit_bb, K74.kit_ni, K74.kit_si, K74.kit_ti, K74.kit_li, K74.kit_di, K74.kit_tt, K74.kit_it, K74.kit_bt, K74.kit_nt, K74.kit_st, K74.kit_lt, K74.kit_dt, Vs.inn, Vs.lend, Vs.unl, Vs.unl1, Vs.fg, Vs.stE, Vs.tg1, Vs.tg2, Vs.ifE, Vs.yes, Vs.frz, Vs.lcAn, Vs.lcM, Vs.allD, Vs.itsL, Vs.lstB, Vs.lenD, Vs.its, Vs.leD, Vs.ltD, Vs.gtD, Vs.geD, Vs.int2, Vs.fB, Vs.fI, Vs.addD, Vs.isI2, Vs.isT2, Vs.subD, Vs.catT, Vs.catL, Vs.ixD, Vs.ixO, Vs.forA, Vs.forR1, Vs.forR2, Vs.forL, Vs.stp, Vs.stp2, Vs.meV, Vs.mutV, Vs.vL, Vs.gExt, Vs.gApp, Vs.lstF, Vs.tupE, Vs.slV, Vs.sl3, Vs.slD, Vs.tupD, Vs.sumD, Vs.absD, Vs.intD, Vs.lcR1, Vs.lcR2, Vs.lcL, Vs.forZ, Vs.zipD, Vs.repF, Vs.subS, Vs.gSet, Vs.ixV, Vs.eqD, Vs.neD, Vs.isnD, Vs.isbD, Vs.max2D, Vs.asgT, Vs.clI, Vs.Sl.to, Vs.parO, Vs.asI, Int.add_comm]
theorem tup_ok {f : M D} {ev ev1 : Ev} {ds : List D} (h : f ev = .ok (.lst ds) ev1) : bnd f tupD ev = .ok (.tup ds) ev1 := by
  rw [bnd_ok h]
  rfl
theorem asgT_ok {i j : Nat} {f : M D} {ev ev1 : Ev} {x y : D} (h : f ev = .ok (.tup [x, y]) ev1) : asgT i j f ev = .nx ((ev1.set i (.sh x)).set j (.sh y)) := by
  unfold asgT
  rw [lf_ok h]
theorem tupE_ok {f : M (List D)} {ev ev1 : Ev} {ds : List D} (h : f ev = .ok ds ev1) (hl : ds.length ≤ 1000) : tupE f ev = .ok (.tup ds) ev1 := by
  unfold tupE
  rw [bnd_ok h, if_pos (by unfold big; omega)]
  rfl
theorem pow_le {k : Nat} (h : k ≤ 4) : 4 ^ k ≤ 256 := by
  have := Nat.pow_le_pow_right (n := 4) (by omega) h
  omega
theorem steps_ok (K : PySem.W.Frag) {h : Hnd} {n : Nat} {rule : List (List Int)} (hr : RuOk rule) (k : h.Ok n) (hn : n < 2 ^ 48) : ∃ h' : Hnd, r__law_steps_right K h.ds [RD rule] = .ok (.bl true) h'.ds ∧ h'.Ok (n + 20) := by
  have hlo := hr.lo
  have hhi := hr.hi
  obtain ⟨h1, m, e1, m0, m1, k1⟩ := draw_ok K (a := 9) k (by omega) (by omega) (by omega)
  have f1 : clI 0 (r__law_draw K) (args [Vs.ret (.int 9)]) [.io h.ds, .sh (RD rule), .no, .no, .no, .no, .no, .no, .no] = .ok (.int m) [.io h1.ds, .sh (RD rule), .no, .no, .no, .no, .no, .no, .no] := clI_io (i := 0) rfl (args_ok rfl args_nil) rfl e1
  obtain ⟨row, h2, e2, l2, p2, k2⟩ := lcR1_hd (vs := [5]) (step := el__law_steps_right_0 K) (E := fun h => [.io h.ds, .sh (RD rule), .no, .no, .no, .no, .no, .no, .no]) (fun x => 1 ≤ x ∧ x ≤ rule.length) f1 rfl m0 (by omega) k1 (fun i h q hq hqn => el_row K hr hq (by omega))
  have hv : Vd rule.length row := p2
  have s1 : setS 2 (bnd (frz (lcR1 [5] (clI 0 (r__law_draw K) (args [Vs.ret (.int 9)])) (el__law_steps_right_0 K))) tupD) [.io h.ds, .sh (RD rule), .no, .no, .no, .no, .no, .no, .no] = .nx [.io h2.ds, .sh (RD rule), .sh (ID row), .no, .no, .no, .no, .no, .no] := setS_ok (tup_ok (frz_ok e2))
  obtain ⟨h3, t, e3, t0, t1, k3⟩ := draw_ok K (a := 5) k2 (by omega) (by omega) (by omega)
  have f3 : clI 0 (r__law_draw K) (args [Vs.ret (.int 5)]) [.io h2.ds, .sh (RD rule), .sh (ID row), .no, .no, .no, .no, .no, .no] = .ok (.int t) [.io h3.ds, .sh (RD rule), .sh (ID row), .no, .no, .no, .no, .no, .no] := clI_io (i := 0) rfl (args_ok rfl args_nil) rfl e3
  have s2 : asgT 3 4 (tupE (args [clI 0 (r__law_draw K) (args [Vs.ret (.int 5)]), vV 2])) [.io h2.ds, .sh (RD rule), .sh (ID row), .no, .no, .no, .no, .no, .no] = .nx [.io h3.ds, .sh (RD rule), .sh (ID row), .sh (.int t), .sh (ID row), .no, .no, .no, .no] := asgT_ok (tupE_ok (args_ok f3 (args_ok (vV_sh rfl) args_nil)) (by simp [Vs.runP, Vs.runI, Vs.io0, Vs.retS, Vs.setS, Vs.setO, Vs.putS, Vs.lf, Vs.sq, Vs.nxt, Vs.ifS, Vs.bnd, Vs.ret, Vs.bad, Vs.opt, Vs.andE, Vs.orE, Vs.notE, Vs.asB, Vs.args, Vs.vV, Vs.vP, Vs.isD, Vs.isO, Vs.tyD, Vs.clD, Vs.kfB, Vs.cl, Vs.b2, Vs.ch, Vs.andT, Vs.orT, Vs.notT, Vs.dropS, Vs.exS, Vs.outB, K74.ite_ev, K74.itA_tup, K74.itA_lst, K74.itA_sq, K74.kit_ii, K74.kit_ib, K74.kit_bi, K74.kit_bb, K74.kit_ni, K74.kit_si, K74.kit_ti, K74.kit_li, K74.kit_di, K74.kit_tt, K74.kit_it, K74.kit_bt, K74.kit_nt, K74.kit_st, K74.kit_lt, K74.kit_dt, Vs.inn, Vs.lend, Vs.unl, Vs.unl1, Vs.fg, Vs.stE, Vs.tg1, Vs.tg2, Vs.ifE, Vs.yes, Vs.frz, Vs.lcAn, Vs.lcM, Vs.allD, Vs.itsL, Vs.lstB, Vs.lenD, Vs.its, Vs.leD, Vs.ltD, Vs.gtD, Vs.geD, Vs.int2, Vs.fB, Vs.fI, Vs.addD, Vs.isI2, Vs.isT2, Vs.subD, Vs.catT, Vs.catL, Vs.ixD, Vs.ixO, Vs.forA, Vs.forR1, Vs.forR2, Vs.forL, Vs.stp, Vs.stp2, Vs.meV, Vs.mutV, Vs.vL, Vs.gExt, Vs.gApp, Vs.lstF, Vs.tupE, Vs.slV, Vs.sl3, Vs.slD, Vs.tupD, Vs.sumD, Vs.absD, Vs.intD, Vs.lcR1, Vs.lcR2, Vs.lcL, Vs.forZ, Vs.zipD, Vs.repF, Vs.subS, Vs.gSet, Vs.ixV, Vs.eqD, Vs.neD, Vs.isnD, Vs.isbD, Vs.max2D, Vs.asgT, Vs.clI, Vs.Sl.to, Vs.parO, Vs.asI]))
  have tp := pow_le (k := t.toNat) (by omega)
  have hsz : 4 ^ t.toNat * row.length ≤ 256 * 8 := Nat.mul_le_mul tp (by omega)
  have L1 := now_loop K (e0 := .io h3.ds) (e2 := .sh (ID row)) (e3 := .sh (.int t)) (e6 := .no) hr (rng 0 t) row hv (by rw [rng_length]; omega)
  rw [rng_length] at L1
  have s3 := forR1_ok (cl := [5]) (f := vV 3) (n := t) (ev := [.io h3.ds, .sh (RD rule), .sh (ID row), .sh (.int t), .sh (ID row), .no, .no, .no, .no]) (vV_sh rfl) t0 (by omega) L1
  have g1 := grow_eq K hr hv (by omega)
  have g2 := step_eq K hr hv (by omega)
  have gs : gro rule t.toNat row = some (git rule t.toNat row) := gro_some _ _ fun j hj => by
    have a := git_len hr (j + 1) hv
    have b : 4 ^ (j + 1) * row.length ≤ 256 * 8 := Nat.mul_le_mul (pow_le (by omega)) (by omega)
    omega
  have g3 := grow_often_eq K hr hv (by omega) t0 (by omega)
  rw [gs] at g3
  have c1 : orT (asB (b2 neD (cl (r_grow K) (args [vV 1, vV 2])) (cl (r__law_step K) (args [vV 1, vV 2])))) (asB (b2 neD (cl (r_grow_often K) (args [vV 1, vV 2, vV 3])) (vV 4))) [.io h3.ds, .sh (RD rule), .sh (ID row), .sh (.int t), .sh (ID (git rule t.toNat row)), .no, .no, .no, .no] = .ok false [.io h3.ds, .sh (RD rule), .sh (ID row), .sh (.int t), .sh (ID (git rule t.toNat row)), .no, .no, .no, .no] := by
    have q1 := neD_ID (a := grw rule row) (b := grw rule row) (ev := [.io h3.ds, .sh (RD rule), .sh (ID row), .sh (.int t), .sh (ID (git rule t.toNat row)), .no, .no, .no, .no])
    have q2 := neD_ID (a := git rule t.toNat row) (b := git rule t.toNat row) (ev := [.io h3.ds, .sh (RD rule), .sh (ID row), .sh (.int t), .sh (ID (git rule t.toNat row)), .no, .no, .no, .no])
    rw [decide_eq_true rfl] at q1 q2
    rw [orT_no (asB_ok ((b2_ok (cl_val (a2_ok rfl rfl) g1) (cl_val (a2_ok rfl rfl) g2)).trans q1))]
    exact asB_ok ((b2_ok (cl_val (a3_ok rfl rfl rfl) g3) (vV_sh rfl)).trans q2)
  obtain ⟨h4, s, e4, s0, s1', k4⟩ := draw_ok K (a := (rule.length : Int)) k3 (by omega) (by omega) (by omega)
  have f4 : clI 0 (r__law_draw K) (args [bnd (vP 1) lenD]) [.io h3.ds, .sh (RD rule), .sh (ID row), .sh (.int t), .sh (ID (git rule t.toNat row)), .no, .no, .no, .no] = .ok (.int s) [.io h4.ds, .sh (RD rule), .sh (ID row), .sh (.int t), .sh (ID (git rule t.toNat row)), .no, .no, .no, .no] := clI_io (i := 0) (f := r__law_draw K) rfl (args_ok (len_RD (i := 1) (rule := rule) rfl) args_nil) rfl e4
  have f5 : b2 addD (Vs.ret (.int 1)) (clI 0 (r__law_draw K) (args [bnd (vP 1) lenD])) [.io h3.ds, .sh (RD rule), .sh (ID row), .sh (.int t), .sh (ID (git rule t.toNat row)), .no, .no, .no, .no] = .ok (.int (1 + s)) [.io h4.ds, .sh (RD rule), .sh (ID row), .sh (.int t), .sh (ID (git rule t.toNat row)), .no, .no, .no, .no] := (b2_ok rfl f4).trans rfl
  have s4 : setS 6 (b2 addD (Vs.ret (.int 1)) (clI 0 (r__law_draw K) (args [bnd (vP 1) lenD]))) [.io h3.ds, .sh (RD rule), .sh (ID row), .sh (.int t), .sh (ID (git rule t.toNat row)), .no, .no, .no, .no] = .nx [.io h4.ds, .sh (RD rule), .sh (ID row), .sh (.int t), .sh (ID (git rule t.toNat row)), .no, .sh (.int (1 + s)), .no, .no] := setS_ok f5
  have s5 : setS 4 (tupE (args [vV 6])) [.io h4.ds, .sh (RD rule), .sh (ID row), .sh (.int t), .sh (ID (git rule t.toNat row)), .no, .sh (.int (1 + s)), .no, .no] = .nx [.io h4.ds, .sh (RD rule), .sh (ID row), .sh (.int t), .sh (ID [1 + s]), .no, .sh (.int (1 + s)), .no, .no] := setS_ok (tupE_ok (args_ok (vV_sh rfl) args_nil) (by simp [Vs.runP, Vs.runI, Vs.io0, Vs.retS, Vs.setS, Vs.setO, Vs.putS, Vs.lf, Vs.sq, Vs.nxt, Vs.ifS, Vs.bnd, Vs.ret, Vs.bad, Vs.opt, Vs.andE, Vs.orE, Vs.notE, Vs.asB, Vs.args, Vs.vV, Vs.vP, Vs.isD, Vs.isO, Vs.tyD, Vs.clD, Vs.kfB, Vs.cl, Vs.b2, Vs.ch, Vs.andT, Vs.orT, Vs.notT, Vs.dropS, Vs.exS, Vs.outB, K74.ite_ev, K74.itA_tup, K74.itA_lst, K74.itA_sq, K74.kit_ii, K74.kit_ib, K74.kit_bi, K74.kit_bb, K74.kit_ni, K74.kit_si, K74.kit_ti, K74.kit_li, K74.kit_di, K74.kit_tt, K74.kit_it, K74.kit_bt, K74.kit_nt, K74.kit_st, K74.kit_lt, K74.kit_dt, Vs.inn, Vs.lend, Vs.unl, Vs.unl1, Vs.fg, Vs.stE, Vs.tg1, Vs.tg2, Vs.ifE, Vs.yes, Vs.frz, Vs.lcAn, Vs.lcM, Vs.allD, Vs.itsL, Vs.lstB, Vs.lenD, Vs.its, Vs.leD, Vs.ltD, Vs.gtD, Vs.geD, Vs.int2, Vs.fB, Vs.fI, Vs.addD, Vs.isI2, Vs.isT2, Vs.subD, Vs.catT, Vs.catL, Vs.ixD, Vs.ixO, Vs.forA, Vs.forR1, Vs.forR2, Vs.forL, Vs.stp, Vs.stp2, Vs.meV, Vs.mutV, Vs.vL, Vs.gExt, Vs.gApp, Vs.lstF, Vs.tupE, Vs.slV, Vs.sl3, Vs.slD, Vs.tupD, Vs.sumD, Vs.absD, Vs.intD, Vs.lcR1, Vs.lcR2, Vs.lcL, Vs.forZ, Vs.zipD, Vs.repF, Vs.subS, Vs.gSet, Vs.ixV, Vs.eqD, Vs.neD, Vs.isnD, Vs.isbD, Vs.max2D, Vs.asgT, Vs.clI, Vs.Sl.to, Vs.parO, Vs.asI]))
  have hv2 : Vd rule.length [1 + s] := fun x hx => by
    simp [Vs.runP, Vs.runI, Vs.io0, Vs.retS, Vs.setS, Vs.setO, Vs.putS, Vs.lf, Vs.sq, Vs.nxt, Vs.ifS, Vs.bnd, Vs.ret, Vs.bad, Vs.opt, Vs.andE, Vs.orE, Vs.notE, Vs.asB, Vs.args, Vs.vV, Vs.vP, Vs.isD, Vs.isO, Vs.tyD, Vs.clD, Vs.kfB, Vs.cl, Vs.b2, Vs.ch, Vs.andT, Vs.orT, Vs.notT, Vs.dropS, Vs.exS, Vs.outB, K74.ite_ev, K74.itA_tup, K74.itA_lst, K74.itA_sq, K74.kit_ii, K74.kit_ib, K74.kit_bi, K74.kit_bb, K74.kit_ni, K74.kit_si, K74.kit_ti, K74.kit_li, K74.kit_di, K74.kit_tt, K74.kit_it, K74.kit_bt, K74.kit_nt, K74.kit_st, K74.kit_lt, K74.kit_dt, Vs.inn, Vs.lend, Vs.unl, Vs.unl1, Vs.fg, Vs.stE, Vs.tg1, Vs.tg2, Vs.ifE, Vs.yes, Vs.frz, Vs.lcAn, Vs.lcM, Vs.allD, Vs.itsL, Vs.lstB, Vs.lenD, Vs.its, Vs.leD, Vs.ltD, Vs.gtD, Vs.geD, Vs.int2, Vs.fB, Vs.fI, Vs.addD, Vs.isI2, Vs.isT2, Vs.subD, Vs.catT, Vs.catL, Vs.ixD, Vs.ixO, Vs.forA, Vs.forR1, Vs.forR2, Vs.forL, Vs.stp, Vs.stp2, Vs.meV, Vs.mutV, Vs.vL, Vs.gExt, Vs.gApp, Vs.lstF, Vs.tupE, Vs.slV, Vs.sl3, Vs.slD, Vs.tupD, Vs.sumD, Vs.absD, Vs.intD, Vs.lcR1, Vs.lcR2, Vs.lcL, Vs.forZ, Vs.zipD, Vs.repF, Vs.subS, Vs.gSet, Vs.ixV, Vs.eqD, Vs.neD, Vs.isnD, Vs.isbD, Vs.max2D, Vs.asgT, Vs.clI, Vs.Sl.to, Vs.parO, Vs.asI] at hx
    subst hx
    omega
  have L2 := now_loop K (e0 := .io h4.ds) (e2 := .sh (ID row)) (e3 := .sh (.int t)) (e6 := .sh (.int (1 + s))) hr (rng 0 t) [1 + s] hv2 (by rw [rng_length]; simp [Vs.runP, Vs.runI, Vs.io0, Vs.retS, Vs.setS, Vs.setO, Vs.putS, Vs.lf, Vs.sq, Vs.nxt, Vs.ifS, Vs.bnd, Vs.ret, Vs.bad, Vs.opt, Vs.andE, Vs.orE, Vs.notE, Vs.asB, Vs.args, Vs.vV, Vs.vP, Vs.isD, Vs.isO, Vs.tyD, Vs.clD, Vs.kfB, Vs.cl, Vs.b2, Vs.ch, Vs.andT, Vs.orT, Vs.notT, Vs.dropS, Vs.exS, Vs.outB, K74.ite_ev, K74.itA_tup, K74.itA_lst, K74.itA_sq, K74.kit_ii, K74.kit_ib, K74.kit_bi, K74.kit_bb, K74.kit_ni, K74.kit_si, K74.kit_ti, K74.kit_li, K74.kit_di, K74.kit_tt, K74.kit_it, K74.kit_bt, K74.kit_nt, K74.kit_st, K74.kit_lt, K74.kit_dt, Vs.inn, Vs.lend, Vs.unl, Vs.unl1, Vs.fg, Vs.stE, Vs.tg1, Vs.tg2, Vs.ifE, Vs.yes, Vs.frz, Vs.lcAn, Vs.lcM, Vs.allD, Vs.itsL, Vs.lstB, Vs.lenD, Vs.its, Vs.leD, Vs.ltD, Vs.gtD, Vs.geD, Vs.int2, Vs.fB, Vs.fI, Vs.addD, Vs.isI2, Vs.isT2, Vs.subD, Vs.catT, Vs.catL, Vs.ixD, Vs.ixO, Vs.forA, Vs.forR1, Vs.forR2, Vs.forL, Vs.stp, Vs.stp2, Vs.meV, Vs.mutV, Vs.vL, Vs.gExt, Vs.gApp, Vs.lstF, Vs.tupE, Vs.slV, Vs.sl3, Vs.slD, Vs.tupD, Vs.sumD, Vs.absD, Vs.intD, Vs.lcR1, Vs.lcR2, Vs.lcL, Vs.forZ, Vs.zipD, Vs.repF, Vs.subS, Vs.gSet, Vs.ixV, Vs.eqD, Vs.neD, Vs.isnD, Vs.isbD, Vs.max2D, Vs.asgT, Vs.clI, Vs.Sl.to, Vs.parO, Vs.asI]; omega)
  rw [rng_length] at L2
  have s6 := forR1_ok (cl := [5]) (f := vV 3) (n := t) (ev := [.io h4.ds, .sh (RD rule), .sh (ID row), .sh (.int t), .sh (ID [1 + s]), .no, .sh (.int (1 + s)), .no, .no]) (vV_sh rfl) t0 (by omega) L2
  have f7 : lcR2 [8] (Vs.ret (.int 1)) (b2 addD (bnd (vP 1) lenD) (Vs.ret (.int 1))) (el__law_steps_right_2 K) [.io h4.ds, .sh (RD rule), .sh (ID row), .sh (.int t), .sh (ID (git rule t.toNat [1 + s])), .no, .sh (.int (1 + s)), .no, .no] = .ok ((cnt rule.length (git rule t.toNat [1 + s])).map .int) [.io h4.ds, .sh (RD rule), .sh (ID row), .sh (.int t), .sh (ID (git rule t.toNat [1 + s])), .no, .sh (.int (1 + s)), .no, .no] := by
    refine (lcR2_map (n := (rule.length : Int) + 1) (g := fun d => match d with | .int i => D.int ((git rule t.toNat [1 + s]).count i) | _ => .non) rfl (b2_ok (len_RD (i := 1) (rule := rule) rfl) rfl) (by omega) (by omega) fun i => el_cnt K rfl rfl).trans ?_
    rw [rng1_cnt]
    rfl
  have s7 : setS 7 (bnd (frz (lcR2 [8] (Vs.ret (.int 1)) (b2 addD (bnd (vP 1) lenD) (Vs.ret (.int 1))) (el__law_steps_right_2 K))) tupD) [.io h4.ds, .sh (RD rule), .sh (ID row), .sh (.int t), .sh (ID (git rule t.toNat [1 + s])), .no, .sh (.int (1 + s)), .no, .no] = .nx [.io h4.ds, .sh (RD rule), .sh (ID row), .sh (.int t), .sh (ID (git rule t.toNat [1 + s])), .no, .sh (.int (1 + s)), .sh (ID (cnt rule.length (git rule t.toNat [1 + s]))), .no] := setS_ok (tup_ok (frz_ok f7))
  have g4 := signs_grown_eq K (s := 1 + s) hr ⟨by omega, by omega⟩ t0 (by omega)
  have g5 := size_grown_eq K (s := 1 + s) hr ⟨by omega, by omega⟩ t0 (by omega)
  rw [one0_cnt, itc_cnt hr _ hv2] at g4 g5
  rw [sum_cnt _ (git_vd hr _ hv2)] at g5
  have c8 : andE (b2 eqD (cl (r_signs_grown K) (args [vV 1, vV 6, vV 3])) (vV 7)) (b2 eqD (cl (r_size_grown K) (args [vV 1, vV 6, vV 3])) (bnd (vP 4) lenD)) [.io h4.ds, .sh (RD rule), .sh (ID row), .sh (.int t), .sh (ID (git rule t.toNat [1 + s])), .no, .sh (.int (1 + s)), .sh (ID (cnt rule.length (git rule t.toNat [1 + s]))), .no] = .ok (.bl true) [.io h4.ds, .sh (RD rule), .sh (ID row), .sh (.int t), .sh (ID (git rule t.toNat [1 + s])), .no, .sh (.int (1 + s)), .sh (ID (cnt rule.length (git rule t.toNat [1 + s]))), .no] := by
    have q1 := eqD_ID (a := cnt rule.length (git rule t.toNat [1 + s])) (b := cnt rule.length (git rule t.toNat [1 + s])) (ev := [.io h4.ds, .sh (RD rule), .sh (ID row), .sh (.int t), .sh (ID (git rule t.toNat [1 + s])), .no, .sh (.int (1 + s)), .sh (ID (cnt rule.length (git rule t.toNat [1 + s]))), .no])
    have q2 := eqD_int (a := (git rule t.toNat [1 + s]).length) (b := (git rule t.toNat [1 + s]).length) (ev := [.io h4.ds, .sh (RD rule), .sh (ID row), .sh (.int t), .sh (ID (git rule t.toNat [1 + s])), .no, .sh (.int (1 + s)), .sh (ID (cnt rule.length (git rule t.toNat [1 + s]))), .no])
    rw [decide_eq_true rfl] at q1 q2
    rw [andE_yes ((b2_ok (cl_val (a3_ok rfl rfl rfl) g4) (vV_sh rfl)).trans q1)]
    exact (b2_ok (cl_val (a3_ok rfl rfl rfl) g5) (len_ID rfl)).trans q2
  refine ⟨h4, ?_, k4.mono (by omega)⟩
  have fin := (sq_nx s1).trans ((sq_nx s2).trans ((sq_nx s3).trans ((sq_nx (ifS_no (a := retS (Vs.ret (.bl false))) c1)).trans ((sq_nx s4).trans ((sq_nx s5).trans ((sq_nx s6).trans ((sq_nx s7).trans (retS_ok c8))))))))
  exact runI_rt fin rfl
end K74
namespace K74
open PySem PySem.Spec PyProof.Rows L2 LamX NdefX HotX Vs






structure Ke (K : PySem.W.Frag) : Prop where
  exm : ∀ C ∈ excs K, PySem.W.exmOne K (.ref C) (.ref (He.ga K "NumeralError")) = some true
  kit : ∀ C ∈ excs K, ∀ D ∈ excs K, PySem.W.kitOne K (.ref C) (.ref D) = some (decide (C = D))
  val : ∀ C ∈ excs K, PySem.W.kitOne K (.ref C) (.type "ValueError") = some true
  nd : (excs K).Nodup
theorem isE_ok {K : PySem.W.Frag} {ok : List Addr} {C a : Addr} {i : Nat} {cv : Value} {b : Bool} {ev : Ev} (hC : C ∈ ok) (h : ev[i]? = some (.sh (.ref a))) (hk : PySem.W.kitOne K (.ref C) cv = some b) : isE K ok C a i cv ev = .ok (.bl b) ev := by
  unfold isE
  rw [if_pos hC, bnd_ok (vP_sh h)]
  simp only
  rw [if_pos trivial, hk]
  rfl
def Er (K : PySem.W.Frag) (C : Addr) (x : Str) : Prop := C ∈ excs K ∧ ∀ a, rtOf (ms__law_error K C a (evE 4 a)) = some (.str x)
theorem er_gen (K : PySem.W.Frag) {C : Addr} {b1 b2 b3 b4 b5 : Bool} {x : Str} (hC : C ∈ excs K) (k1 : PySem.W.kitOne K (.ref C) (.ref (He.ga K "NoRule")) = some b1) (k2 : PySem.W.kitOne K (.ref C) (.ref (He.ga K "NoSigns")) = some b2) (k3 : PySem.W.kitOne K (.ref C) (.ref (He.ga K "NoSign")) = some b3)
    (k4 : PySem.W.kitOne K (.ref C) (.ref (He.ga K "NoNumber")) = some b4) (k5 : PySem.W.kitOne K (.ref C) (.ref (He.ga K "TooMany")) = some b5) (k6 : PySem.W.kitOne K (.ref C) (.type "ValueError") = some true)
    (hx : (([("rule", b1), ("signs", b2), ("sign", b3), ("number", b4), ("many", b5)] : List (Str × Bool)).filter fun p => p.2).map (fun p => p.1) = [x]) : Er K C x := by
  refine ⟨hC, fun a => ?_⟩
  have i1 : ∀ ev : Ev, ev[1]? = some (.sh (.ref a)) → isE K (excs K) C a 1 (.ref (He.ga K "NoRule")) ev = .ok (.bl b1) ev := fun ev h => isE_ok hC h k1
  have i2 : ∀ ev : Ev, ev[1]? = some (.sh (.ref a)) → isE K (excs K) C a 1 (.ref (He.ga K "NoSigns")) ev = .ok (.bl b2) ev := fun ev h => isE_ok hC h k2
  have i3 : ∀ ev : Ev, ev[1]? = some (.sh (.ref a)) → isE K (excs K) C a 1 (.ref (He.ga K "NoSign")) ev = .ok (.bl b3) ev := fun ev h => isE_ok hC h k3
  have i4 : ∀ ev : Ev, ev[1]? = some (.sh (.ref a)) → isE K (excs K) C a 1 (.ref (He.ga K "NoNumber")) ev = .ok (.bl b4) ev := fun ev h => isE_ok hC h k4
  have i5 : ∀ ev : Ev, ev[1]? = some (.sh (.ref a)) → isE K (excs K) C a 1 (.ref (He.ga K "TooMany")) ev = .ok (.bl b5) ev := fun ev h => isE_ok hC h k5
  have i6 : ∀ ev : Ev, ev[1]? = some (.sh (.ref a)) → isE K (excs K) C a 1 (.type "ValueError") ev = .ok (.bl true) ev := fun ev h => isE_ok hC h k6
  unfold ms__law_error
  generalize isE K (excs K) C a 1 (.ref (He.ga K "NoRule")) = I1 at i1 ⊢
  generalize isE K (excs K) C a 1 (.ref (He.ga K "NoSigns")) = I2 at i2 ⊢
  generalize isE K (excs K) C a 1 (.ref (He.ga K "NoSign")) = I3 at i3 ⊢
  generalize isE K (excs K) C a 1 (.ref (He.ga K "NoNumber")) = I4 at i4 ⊢
  generalize isE K (excs K) C a 1 (.ref (He.ga K "TooMany")) = I5 at i5 ⊢
  generalize isE K (excs K) C a 1 (.type "ValueError") = I6 at i6 ⊢
  have h2 : 2 ≤ big := by unfold big; omega
  have h5 : 5 ≤ big := by unfold big; omega
  cases b1 <;> cases b2 <;> cases b3 <;> cases b4 <;> cases b5 <;> simp [Vs.runP, Vs.runI, Vs.io0, Vs.retS, Vs.setS, Vs.setO, Vs.putS, Vs.lf, Vs.sq, Vs.nxt, Vs.ifS, Vs.bnd, Vs.ret, Vs.bad, Vs.opt, Vs.andE, Vs.orE, Vs.notE, Vs.asB, Vs.args, Vs.vV, Vs.vP, Vs.isD, Vs.isO, Vs.tyD, Vs.clD, Vs.kfB, Vs.cl, Vs.b2, Vs.ch, Vs.andT, Vs.orT, Vs.notT, Vs.dropS, Vs.exS, Vs.outB, K74.ite_ev, K74.itA_tup, K74.itA_lst, K74.itA_sq, K74.kit_ii, K74.kit_ib, K74.kit_bi, K74.kit_bb, K74.kit_ni, K74.kit_si, K74.kit_ti, K74.kit_li, K74.kit_di, K74.kit_tt, K74.kit_it, K74.kit_bt, K74.kit_nt, K74.kit_st, K74.kit_lt, K74.kit_dt, Vs.inn, Vs.lend, Vs.unl, Vs.unl1, Vs.fg, Vs.stE, Vs.tg1, Vs.tg2, Vs.ifE, Vs.yes, Vs.frz, Vs.lcAn, Vs.lcM, Vs.allD, Vs.itsL, Vs.lstB, Vs.lenD, Vs.its, Vs.leD, Vs.ltD, Vs.gtD, Vs.geD, Vs.int2, Vs.fB, Vs.fI, Vs.addD, Vs.isI2, Vs.isT2, Vs.subD, Vs.catT, Vs.catL, Vs.ixD, Vs.ixO, Vs.forA, Vs.forR1, Vs.forR2, Vs.forL, Vs.stp, Vs.stp2, Vs.meV, Vs.mutV, Vs.vL, Vs.gExt, Vs.gApp, Vs.lstF, Vs.tupE, Vs.slV, Vs.sl3, Vs.slD, Vs.tupD, Vs.sumD, Vs.absD, Vs.intD, Vs.lcR1, Vs.lcR2, Vs.lcL, Vs.forZ, Vs.zipD, Vs.repF, Vs.subS, Vs.gSet, Vs.ixV, Vs.eqD, Vs.neD, Vs.isnD, Vs.isbD, Vs.max2D, Vs.asgT, Vs.clI, Vs.Sl.to, Vs.parO, Vs.asI] at hx <;> subst hx <;>
    simp [Vs.runP, Vs.runI, Vs.io0, Vs.retS, Vs.setS, Vs.setO, Vs.putS, Vs.lf, Vs.sq, Vs.nxt, Vs.ifS, Vs.bnd, Vs.ret, Vs.bad, Vs.opt, Vs.andE, Vs.orE, Vs.notE, Vs.asB, Vs.args, Vs.vV, Vs.vP, Vs.isD, Vs.isO, Vs.tyD, Vs.clD, Vs.kfB, Vs.cl, Vs.b2, Vs.ch, Vs.andT, Vs.orT, Vs.notT, Vs.dropS, Vs.exS, Vs.outB, K74.ite_ev, K74.itA_tup, K74.itA_lst, K74.itA_sq, K74.kit_ii, K74.kit_ib, K74.kit_bi, K74.kit_bb, K74.kit_ni, K74.kit_si, K74.kit_ti, K74.kit_li, K74.kit_di, K74.kit_tt, K74.kit_it, K74.kit_bt, K74.kit_nt, K74.kit_st, K74.kit_lt, K74.kit_dt, Vs.inn, Vs.lend, Vs.unl, Vs.unl1, Vs.fg, Vs.stE, Vs.tg1, Vs.tg2, Vs.ifE, Vs.yes, Vs.frz, Vs.lcAn, Vs.lcM, Vs.allD, Vs.itsL, Vs.lstB, Vs.lenD, Vs.its, Vs.leD, Vs.ltD, Vs.gtD, Vs.geD, Vs.int2, Vs.fB, Vs.fI, Vs.addD, Vs.isI2, Vs.isT2, Vs.subD, Vs.catT, Vs.catL, Vs.ixD, Vs.ixO, Vs.forA, Vs.forR1, Vs.forR2, Vs.forL, Vs.stp, Vs.stp2, Vs.meV, Vs.mutV, Vs.vL, Vs.gExt, Vs.gApp, Vs.lstF, Vs.tupE, Vs.slV, Vs.sl3, Vs.slD, Vs.tupD, Vs.sumD, Vs.absD, Vs.intD, Vs.lcR1, Vs.lcR2, Vs.lcL, Vs.forZ, Vs.zipD, Vs.repF, Vs.subS, Vs.gSet, Vs.ixV, Vs.eqD, Vs.neD, Vs.isnD, Vs.isbD, Vs.max2D, Vs.asgT, Vs.clI, Vs.Sl.to, Vs.parO, Vs.asI, evE, i1, i2, i3, i4, i5, i6, h2, h5, rtOf, lcA, eqS, L2.atI, L2.ixN]
theorem mem_ex {K : PySem.W.Frag} : He.ga K "TooMany" ∈ excs K ∧ He.ga K "NoNumber" ∈ excs K ∧ He.ga K "NoSign" ∈ excs K ∧ He.ga K "NoRule" ∈ excs K ∧ He.ga K "NoSigns" ∈ excs K := by
  simp [Vs.runP, Vs.runI, Vs.io0, Vs.retS, Vs.setS, Vs.setO, Vs.putS, Vs.lf, Vs.sq, Vs.nxt, Vs.ifS, Vs.bnd, Vs.ret, Vs.bad, Vs.opt, Vs.andE, Vs.orE, Vs.notE, Vs.asB, Vs.args, Vs.vV, Vs.vP, Vs.isD, Vs.isO, Vs.tyD, Vs.clD, Vs.kfB, Vs.cl, Vs.b2, Vs.ch, Vs.andT, Vs.orT, Vs.notT, Vs.dropS, Vs.exS, Vs.outB, K74.ite_ev, K74.itA_tup, K74.itA_lst, K74.itA_sq, K74.kit_ii, K74.kit_ib, K74.kit_bi, K74.kit_bb, K74.kit_ni, K74.kit_si, K74.kit_ti, K74.kit_li, K74.kit_di, K74.kit_tt, K74.kit_it, K74.kit_bt, K74.kit_nt, K74.kit_st, K74.kit_lt, K74.kit_dt, Vs.inn, Vs.lend, Vs.unl, Vs.unl1, Vs.fg, Vs.stE, Vs.tg1, Vs.tg2, Vs.ifE, Vs.yes, Vs.frz, Vs.lcAn, Vs.lcM, Vs.allD, Vs.itsL, Vs.lstB, Vs.lenD, Vs.its, Vs.leD, Vs.ltD, Vs.gtD, Vs.geD, Vs.int2, Vs.fB, Vs.fI, Vs.addD, Vs.isI2, Vs.isT2, Vs.subD, Vs.catT, Vs.catL, Vs.ixD, Vs.ixO, Vs.forA, Vs.forR1, Vs.forR2, Vs.forL, Vs.stp, Vs.stp2, Vs.meV, Vs.mutV, Vs.vL, Vs.gExt, Vs.gApp, Vs.lstF, Vs.tupE, Vs.slV, Vs.sl3, Vs.slD, Vs.tupD, Vs.sumD, Vs.absD, Vs.intD, Vs.lcR1, Vs.lcR2, Vs.lcL, Vs.forZ, Vs.zipD, Vs.repF, Vs.subS, Vs.gSet, Vs.ixV, Vs.eqD, Vs.neD, Vs.isnD, Vs.isbD, Vs.max2D, Vs.asgT, Vs.clI, Vs.Sl.to, Vs.parO, Vs.asI, excs]
theorem ne_ex {K : PySem.W.Frag} (h : Ke K) : He.ga K "TooMany" ≠ He.ga K "NoNumber" ∧ He.ga K "TooMany" ≠ He.ga K "NoSign" ∧ He.ga K "TooMany" ≠ He.ga K "NoRule" ∧ He.ga K "TooMany" ≠ He.ga K "NoSigns" ∧
    He.ga K "NoNumber" ≠ He.ga K "NoSign" ∧ He.ga K "NoNumber" ≠ He.ga K "NoRule" ∧ He.ga K "NoNumber" ≠ He.ga K "NoSigns" ∧ He.ga K "NoSign" ≠ He.ga K "NoRule" ∧ He.ga K "NoSign" ≠ He.ga K "NoSigns" ∧ He.ga K "NoRule" ≠ He.ga K "NoSigns" := by
  have n := h.nd
  simp [Vs.runP, Vs.runI, Vs.io0, Vs.retS, Vs.setS, Vs.setO, Vs.putS, Vs.lf, Vs.sq, Vs.nxt, Vs.ifS, Vs.bnd, Vs.ret, Vs.bad, Vs.opt, Vs.andE, Vs.orE, Vs.notE, Vs.asB, Vs.args, Vs.vV, Vs.vP, Vs.isD, Vs.isO, Vs.tyD, Vs.clD, Vs.kfB, Vs.cl, Vs.b2, Vs.ch, Vs.andT, Vs.orT, Vs.notT, Vs.dropS, Vs.exS, Vs.outB, K74.ite_ev, K74.itA_tup, K74.itA_lst, K74.itA_sq, K74.kit_ii, K74.kit_ib, K74.kit_bi, K74.kit_bb, K74.kit_ni, K74.kit_si, K74.kit_ti, K74.kit_li, K74.kit_di, K74.kit_tt, K74.kit_it, K74.kit_bt, K74.kit_nt, K74.kit_st, K74.kit_lt, K74.kit_dt, Vs.inn, Vs.lend, Vs.unl, Vs.unl1, Vs.fg, Vs.stE, Vs.tg1, Vs.tg2, Vs.ifE, Vs.yes, Vs.frz, Vs.lcAn, Vs.lcM, Vs.allD, Vs.itsL, Vs.lstB, Vs.lenD, Vs.its, Vs.leD, Vs.ltD, Vs.gtD, Vs.geD, Vs.int2, Vs.fB, Vs.fI, Vs.addD, Vs.isI2, Vs.isT2, Vs.subD, Vs.catT, Vs.catL, Vs.ixD, Vs.ixO, Vs.forA, Vs.forR1, Vs.forR2, Vs.forL, Vs.stp, Vs.stp2, Vs.meV, Vs.mutV, Vs.vL, Vs.gExt, Vs.gApp, Vs.lstF, Vs.tupE, Vs.slV, Vs.sl3, Vs.slD, Vs.tupD, Vs.sumD, Vs.absD, Vs.intD, Vs.lcR1, Vs.lcR2, Vs.lcL, Vs.forZ, Vs.zipD, Vs.repF, Vs.subS, Vs.gSet, Vs.ixV, Vs.eqD, Vs.neD, Vs.isnD, Vs.isbD, Vs.max2D, Vs.asgT, Vs.clI, Vs.Sl.to, Vs.parO, Vs.asI, excs] at n
  obtain ⟨⟨a1, a2, a3, a4⟩, ⟨a5, a6, a7⟩, ⟨a8, a9⟩, a10⟩ := n
  exact ⟨a1, a2, a3, a4, a5, a6, a7, a8, a9, a10⟩
theorem kit_of {K : PySem.W.Frag} (h : Ke K) {C D : Addr} (hC : C ∈ excs K) (hD : D ∈ excs K) {b : Bool} (e : decide (C = D) = b) : PySem.W.kitOne K (.ref C) (.ref D) = some b := by
  rw [h.kit C hC D hD, e]
theorem er_rule {K : PySem.W.Frag} (h : Ke K) : Er K (He.ga K "NoRule") "rule" := by
  obtain ⟨m1, m2, m3, m4, m5⟩ := mem_ex (K := K)
  obtain ⟨n1, n2, n3, n4, n5, n6, n7, n8, n9, n10⟩ := ne_ex h
  exact er_gen K m4 (kit_of h m4 m4 (b := true) (by simp [Vs.runP, Vs.runI, Vs.io0, Vs.retS, Vs.setS, Vs.setO, Vs.putS, Vs.lf, Vs.sq, Vs.nxt, Vs.ifS, Vs.bnd, Vs.ret, Vs.bad, Vs.opt, Vs.andE, Vs.orE, Vs.notE, Vs.asB, Vs.args, Vs.vV, Vs.vP, Vs.isD, Vs.isO, Vs.tyD, Vs.clD, Vs.kfB, Vs.cl, Vs.b2, Vs.ch, Vs.andT, Vs.orT, Vs.notT, Vs.dropS, Vs.exS, Vs.outB, K74.ite_ev, K74.itA_tup, K74.itA_lst, K74.itA_sq, K74.kit_ii, K74.kit_ib, K74.kit_bi, K74.kit_bb, K74.kit_ni, K74.kit_si, K74.kit_ti, K74.kit_li, K74.kit_di, K74.kit_tt, K74.kit_it, K74.kit_bt, K74.kit_nt, K74.kit_st, K74.kit_lt, K74.kit_dt, Vs.inn, Vs.lend, Vs.unl, Vs.unl1, Vs.fg, Vs.stE, Vs.tg1, Vs.tg2, Vs.ifE, Vs.yes, Vs.frz, Vs.lcAn, Vs.lcM, Vs.allD, Vs.itsL, Vs.lstB, Vs.lenD, Vs.its, Vs.leD, Vs.ltD, Vs.gtD, Vs.geD, Vs.int2, Vs.fB, Vs.fI, Vs.addD, Vs.isI2, Vs.isT2, Vs.subD, Vs.catT, Vs.catL, Vs.ixD, Vs.ixO, Vs.forA, Vs.forR1, Vs.forR2, Vs.forL, Vs.stp, Vs.stp2, Vs.meV, Vs.mutV, Vs.vL, Vs.gExt, Vs.gApp, Vs.lstF, Vs.tupE, Vs.slV, Vs.sl3, Vs.slD, Vs.tupD, Vs.sumD, Vs.absD, Vs.intD, Vs.lcR1, Vs.lcR2, Vs.lcL, Vs.forZ, Vs.zipD, Vs.repF, Vs.subS, Vs.gSet, Vs.ixV, Vs.eqD, Vs.neD, Vs.isnD, Vs.isbD, Vs.max2D, Vs.asgT, Vs.clI, Vs.Sl.to, Vs.parO, Vs.asI])) (kit_of h m4 m5 (b := false) (by simp [Vs.runP, Vs.runI, Vs.io0, Vs.retS, Vs.setS, Vs.setO, Vs.putS, Vs.lf, Vs.sq, Vs.nxt, Vs.ifS, Vs.bnd, Vs.ret, Vs.bad, Vs.opt, Vs.andE, Vs.orE, Vs.notE, Vs.asB, Vs.args, Vs.vV, Vs.vP, Vs.isD, Vs.isO, Vs.tyD, Vs.clD, Vs.kfB, Vs.cl, Vs.b2, Vs.ch, Vs.andT, Vs.orT, Vs.notT, Vs.dropS, Vs.exS, Vs.outB, K74.ite_ev, K74.itA_tup, K74.itA_lst, K74.itA_sq, K74.kit_ii, K74.kit_ib, K74.kit_bi, K74.kit_bb, K74.kit_ni, K74.kit_si, K74.kit_ti, K74.kit_li, K74.kit_di, K74.kit_tt, K74.kit_it, K74.kit_bt, K74.kit_nt, K74.kit_st, K74.kit_lt, K74.kit_dt, Vs.inn, Vs.lend, Vs.unl, Vs.unl1, Vs.fg, Vs.stE, Vs.tg1, Vs.tg2, Vs.ifE, Vs.yes, Vs.frz, Vs.lcAn, Vs.lcM, Vs.allD, Vs.itsL, Vs.lstB, Vs.lenD, Vs.its, Vs.leD, Vs.ltD, Vs.gtD, Vs.geD, Vs.int2, Vs.fB, Vs.fI, Vs.addD, Vs.isI2, Vs.isT2, Vs.subD, Vs.catT, Vs.catL, Vs.ixD, Vs.ixO, Vs.forA, Vs.forR1, Vs.forR2, Vs.forL, Vs.stp, Vs.stp2, Vs.meV, Vs.mutV, Vs.vL, Vs.gExt, Vs.gApp, Vs.lstF, Vs.tupE, Vs.slV, Vs.sl3, Vs.slD, Vs.tupD, Vs.sumD, Vs.absD, Vs.intD, Vs.lcR1, Vs.lcR2, Vs.lcL, Vs.forZ, Vs.zipD, Vs.repF, Vs.subS, Vs.gSet, Vs.ixV, Vs.eqD, Vs.neD, Vs.isnD, Vs.isbD, Vs.max2D, Vs.asgT, Vs.clI, Vs.Sl.to, Vs.parO, Vs.asI, n10])) (kit_of h m4 m3 (b := false) (by simp [Vs.runP, Vs.runI, Vs.io0, Vs.retS, Vs.setS, Vs.setO, Vs.putS, Vs.lf, Vs.sq, Vs.nxt, Vs.ifS, Vs.bnd, Vs.ret, Vs.bad, Vs.opt, Vs.andE, Vs.orE, Vs.notE, Vs.asB, Vs.args, Vs.vV, Vs.vP, Vs.isD, Vs.isO, Vs.tyD, Vs.clD, Vs.kfB, Vs.cl, Vs.b2, Vs.ch, Vs.andT, Vs.orT, Vs.notT, Vs.dropS, Vs.exS, Vs.outB, K74.ite_ev, K74.itA_tup, K74.itA_lst, K74.itA_sq, K74.kit_ii, K74.kit_ib, K74.kit_bi, K74.kit_bb, K74.kit_ni, K74.kit_si, K74.kit_ti, K74.kit_li, K74.kit_di, K74.kit_tt, K74.kit_it, K74.kit_bt, K74.kit_nt, K74.kit_st, K74.kit_lt, K74.kit_dt, Vs.inn, Vs.lend, Vs.unl, Vs.unl1, Vs.fg, Vs.stE, Vs.tg1, Vs.tg2, Vs.ifE, Vs.yes, Vs.frz, Vs.lcAn, Vs.lcM, Vs.allD, Vs.itsL, Vs.lstB, Vs.lenD, Vs.its, Vs.leD, Vs.ltD, Vs.gtD, Vs.geD, Vs.int2, Vs.fB, Vs.fI, Vs.addD, Vs.isI2, Vs.isT2, Vs.subD, Vs.catT, Vs.catL, Vs.ixD, Vs.ixO, Vs.forA, Vs.forR1, Vs.forR2, Vs.forL, Vs.stp, Vs.stp2, Vs.meV, Vs.mutV, Vs.vL, Vs.gExt, Vs.gApp, Vs.lstF, Vs.tupE, Vs.slV, Vs.sl3, Vs.slD, Vs.tupD, Vs.sumD, Vs.absD, Vs.intD, Vs.lcR1, Vs.lcR2, Vs.lcL, Vs.forZ, Vs.zipD, Vs.repF, Vs.subS, Vs.gSet, Vs.ixV, Vs.eqD, Vs.neD, Vs.isnD, Vs.isbD, Vs.max2D, Vs.asgT, Vs.clI, Vs.Sl.to, Vs.parO, Vs.asI, n8.symm])) (kit_of h m4 m2 (b := false) (by simp [Vs.runP, Vs.runI, Vs.io0, Vs.retS, Vs.setS, Vs.setO, Vs.putS, Vs.lf, Vs.sq, Vs.nxt, Vs.ifS, Vs.bnd, Vs.ret, Vs.bad, Vs.opt, Vs.andE, Vs.orE, Vs.notE, Vs.asB, Vs.args, Vs.vV, Vs.vP, Vs.isD, Vs.isO, Vs.tyD, Vs.clD, Vs.kfB, Vs.cl, Vs.b2, Vs.ch, Vs.andT, Vs.orT, Vs.notT, Vs.dropS, Vs.exS, Vs.outB, K74.ite_ev, K74.itA_tup, K74.itA_lst, K74.itA_sq, K74.kit_ii, K74.kit_ib, K74.kit_bi, K74.kit_bb, K74.kit_ni, K74.kit_si, K74.kit_ti, K74.kit_li, K74.kit_di, K74.kit_tt, K74.kit_it, K74.kit_bt, K74.kit_nt, K74.kit_st, K74.kit_lt, K74.kit_dt, Vs.inn, Vs.lend, Vs.unl, Vs.unl1, Vs.fg, Vs.stE, Vs.tg1, Vs.tg2, Vs.ifE, Vs.yes, Vs.frz, Vs.lcAn, Vs.lcM, Vs.allD, Vs.itsL, Vs.lstB, Vs.lenD, Vs.its, Vs.leD, Vs.ltD, Vs.gtD, Vs.geD, Vs.int2, Vs.fB, Vs.fI, Vs.addD, Vs.isI2, Vs.isT2, Vs.subD, Vs.catT, Vs.catL, Vs.ixD, Vs.ixO, Vs.forA, Vs.forR1, Vs.forR2, Vs.forL, Vs.stp, Vs.stp2, Vs.meV, Vs.mutV, Vs.vL, Vs.gExt, Vs.gApp, Vs.lstF, Vs.tupE, Vs.slV, Vs.sl3, Vs.slD, Vs.tupD, Vs.sumD, Vs.absD, Vs.intD, Vs.lcR1, Vs.lcR2, Vs.lcL, Vs.forZ, Vs.zipD, Vs.repF, Vs.subS, Vs.gSet, Vs.ixV, Vs.eqD, Vs.neD, Vs.isnD, Vs.isbD, Vs.max2D, Vs.asgT, Vs.clI, Vs.Sl.to, Vs.parO, Vs.asI, n6.symm])) (kit_of h m4 m1 (b := false) (by simp [Vs.runP, Vs.runI, Vs.io0, Vs.retS, Vs.setS, Vs.setO, Vs.putS, Vs.lf, Vs.sq, Vs.nxt, Vs.ifS, Vs.bnd, Vs.ret, Vs.bad, Vs.opt, Vs.andE, Vs.orE, Vs.notE, Vs.asB, Vs.args, Vs.vV, Vs.vP, Vs.isD, Vs.isO, Vs.tyD, Vs.clD, Vs.kfB, Vs.cl, Vs.b2, Vs.ch, Vs.andT, Vs.orT, Vs.notT, Vs.dropS, Vs.exS, Vs.outB, K74.ite_ev, K74.itA_tup, K74.itA_lst, K74.itA_sq, K74.kit_ii, K74.kit_ib, K74.kit_bi, K74.kit_bb, K74.kit_ni, K74.kit_si, K74.kit_ti, K74.kit_li, K74.kit_di, K74.kit_tt, K74.kit_it, K74.kit_bt, K74.kit_nt, K74.kit_st, K74.kit_lt, K74.kit_dt, Vs.inn, Vs.lend, Vs.unl, Vs.unl1, Vs.fg, Vs.stE, Vs.tg1, Vs.tg2, Vs.ifE, Vs.yes, Vs.frz, Vs.lcAn, Vs.lcM, Vs.allD, Vs.itsL, Vs.lstB, Vs.lenD, Vs.its, Vs.leD, Vs.ltD, Vs.gtD, Vs.geD, Vs.int2, Vs.fB, Vs.fI, Vs.addD, Vs.isI2, Vs.isT2, Vs.subD, Vs.catT, Vs.catL, Vs.ixD, Vs.ixO, Vs.forA, Vs.forR1, Vs.forR2, Vs.forL, Vs.stp, Vs.stp2, Vs.meV, Vs.mutV, Vs.vL, Vs.gExt, Vs.gApp, Vs.lstF, Vs.tupE, Vs.slV, Vs.sl3, Vs.slD, Vs.tupD, Vs.sumD, Vs.absD, Vs.intD, Vs.lcR1, Vs.lcR2, Vs.lcL, Vs.forZ, Vs.zipD, Vs.repF, Vs.subS, Vs.gSet, Vs.ixV, Vs.eqD, Vs.neD, Vs.isnD, Vs.isbD, Vs.max2D, Vs.asgT, Vs.clI, Vs.Sl.to, Vs.parO, Vs.asI, n3.symm])) (h.val _ m4) rfl
theorem er_signs {K : PySem.W.Frag} (h : Ke K) : Er K (He.ga K "NoSigns") "signs" := by
  obtain ⟨m1, m2, m3, m4, m5⟩ := mem_ex (K := K)
  obtain ⟨n1, n2, n3, n4, n5, n6, n7, n8, n9, n10⟩ := ne_ex h
  exact er_gen K m5 (kit_of h m5 m4 (b := false) (by simp [Vs.runP, Vs.runI, Vs.io0, Vs.retS, Vs.setS, Vs.setO, Vs.putS, Vs.lf, Vs.sq, Vs.nxt, Vs.ifS, Vs.bnd, Vs.ret, Vs.bad, Vs.opt, Vs.andE, Vs.orE, Vs.notE, Vs.asB, Vs.args, Vs.vV, Vs.vP, Vs.isD, Vs.isO, Vs.tyD, Vs.clD, Vs.kfB, Vs.cl, Vs.b2, Vs.ch, Vs.andT, Vs.orT, Vs.notT, Vs.dropS, Vs.exS, Vs.outB, K74.ite_ev, K74.itA_tup, K74.itA_lst, K74.itA_sq, K74.kit_ii, K74.kit_ib, K74.kit_bi, K74.kit_bb, K74.kit_ni, K74.kit_si, K74.kit_ti, K74.kit_li, K74.kit_di, K74.kit_tt, K74.kit_it, K74.kit_bt, K74.kit_nt, K74.kit_st, K74.kit_lt, K74.kit_dt, Vs.inn, Vs.lend, Vs.unl, Vs.unl1, Vs.fg, Vs.stE, Vs.tg1, Vs.tg2, Vs.ifE, Vs.yes, Vs.frz, Vs.lcAn, Vs.lcM, Vs.allD, Vs.itsL, Vs.lstB, Vs.lenD, Vs.its, Vs.leD, Vs.ltD, Vs.gtD, Vs.geD, Vs.int2, Vs.fB, Vs.fI, Vs.addD, Vs.isI2, Vs.isT2, Vs.subD, Vs.catT, Vs.catL, Vs.ixD, Vs.ixO, Vs.forA, Vs.forR1, Vs.forR2, Vs.forL, Vs.stp, Vs.stp2, Vs.meV, Vs.mutV, Vs.vL, Vs.gExt, Vs.gApp, Vs.lstF, Vs.tupE, Vs.slV, Vs.sl3, Vs.slD, Vs.tupD, Vs.sumD, Vs.absD, Vs.intD, Vs.lcR1, Vs.lcR2, Vs.lcL, Vs.forZ, Vs.zipD, Vs.repF, Vs.subS, Vs.gSet, Vs.ixV, Vs.eqD, Vs.neD, Vs.isnD, Vs.isbD, Vs.max2D, Vs.asgT, Vs.clI, Vs.Sl.to, Vs.parO, Vs.asI, n10.symm])) (kit_of h m5 m5 (b := true) (by simp [Vs.runP, Vs.runI, Vs.io0, Vs.retS, Vs.setS, Vs.setO, Vs.putS, Vs.lf, Vs.sq, Vs.nxt, Vs.ifS, Vs.bnd, Vs.ret, Vs.bad, Vs.opt, Vs.andE, Vs.orE, Vs.notE, Vs.asB, Vs.args, Vs.vV, Vs.vP, Vs.isD, Vs.isO, Vs.tyD, Vs.clD, Vs.kfB, Vs.cl, Vs.b2, Vs.ch, Vs.andT, Vs.orT, Vs.notT, Vs.dropS, Vs.exS, Vs.outB, K74.ite_ev, K74.itA_tup, K74.itA_lst, K74.itA_sq, K74.kit_ii, K74.kit_ib, K74.kit_bi, K74.kit_bb, K74.kit_ni, K74.kit_si, K74.kit_ti, K74.kit_li, K74.kit_di, K74.kit_tt, K74.kit_it, K74.kit_bt, K74.kit_nt, K74.kit_st, K74.kit_lt, K74.kit_dt, Vs.inn, Vs.lend, Vs.unl, Vs.unl1, Vs.fg, Vs.stE, Vs.tg1, Vs.tg2, Vs.ifE, Vs.yes, Vs.frz, Vs.lcAn, Vs.lcM, Vs.allD, Vs.itsL, Vs.lstB, Vs.lenD, Vs.its, Vs.leD, Vs.ltD, Vs.gtD, Vs.geD, Vs.int2, Vs.fB, Vs.fI, Vs.addD, Vs.isI2, Vs.isT2, Vs.subD, Vs.catT, Vs.catL, Vs.ixD, Vs.ixO, Vs.forA, Vs.forR1, Vs.forR2, Vs.forL, Vs.stp, Vs.stp2, Vs.meV, Vs.mutV, Vs.vL, Vs.gExt, Vs.gApp, Vs.lstF, Vs.tupE, Vs.slV, Vs.sl3, Vs.slD, Vs.tupD, Vs.sumD, Vs.absD, Vs.intD, Vs.lcR1, Vs.lcR2, Vs.lcL, Vs.forZ, Vs.zipD, Vs.repF, Vs.subS, Vs.gSet, Vs.ixV, Vs.eqD, Vs.neD, Vs.isnD, Vs.isbD, Vs.max2D, Vs.asgT, Vs.clI, Vs.Sl.to, Vs.parO, Vs.asI])) (kit_of h m5 m3 (b := false) (by simp [Vs.runP, Vs.runI, Vs.io0, Vs.retS, Vs.setS, Vs.setO, Vs.putS, Vs.lf, Vs.sq, Vs.nxt, Vs.ifS, Vs.bnd, Vs.ret, Vs.bad, Vs.opt, Vs.andE, Vs.orE, Vs.notE, Vs.asB, Vs.args, Vs.vV, Vs.vP, Vs.isD, Vs.isO, Vs.tyD, Vs.clD, Vs.kfB, Vs.cl, Vs.b2, Vs.ch, Vs.andT, Vs.orT, Vs.notT, Vs.dropS, Vs.exS, Vs.outB, K74.ite_ev, K74.itA_tup, K74.itA_lst, K74.itA_sq, K74.kit_ii, K74.kit_ib, K74.kit_bi, K74.kit_bb, K74.kit_ni, K74.kit_si, K74.kit_ti, K74.kit_li, K74.kit_di, K74.kit_tt, K74.kit_it, K74.kit_bt, K74.kit_nt, K74.kit_st, K74.kit_lt, K74.kit_dt, Vs.inn, Vs.lend, Vs.unl, Vs.unl1, Vs.fg, Vs.stE, Vs.tg1, Vs.tg2, Vs.ifE, Vs.yes, Vs.frz, Vs.lcAn, Vs.lcM, Vs.allD, Vs.itsL, Vs.lstB, Vs.lenD, Vs.its, Vs.leD, Vs.ltD, Vs.gtD, Vs.geD, Vs.int2, Vs.fB, Vs.fI, Vs.addD, Vs.isI2, Vs.isT2, Vs.subD, Vs.catT, Vs.catL, Vs.ixD, Vs.ixO, Vs.forA, Vs.forR1, Vs.forR2, Vs.forL, Vs.stp, Vs.stp2, Vs.meV, Vs.mutV, Vs.vL, Vs.gExt, Vs.gApp, Vs.lstF, Vs.tupE, Vs.slV, Vs.sl3, Vs.slD, Vs.tupD, Vs.sumD, Vs.absD, Vs.intD, Vs.lcR1, Vs.lcR2, Vs.lcL, Vs.forZ, Vs.zipD, Vs.repF, Vs.subS, Vs.gSet, Vs.ixV, Vs.eqD, Vs.neD, Vs.isnD, Vs.isbD, Vs.max2D, Vs.asgT, Vs.clI, Vs.Sl.to, Vs.parO, Vs.asI, n9.symm])) (kit_of h m5 m2 (b := false) (by simp [Vs.runP, Vs.runI, Vs.io0, Vs.retS, Vs.setS, Vs.setO, Vs.putS, Vs.lf, Vs.sq, Vs.nxt, Vs.ifS, Vs.bnd, Vs.ret, Vs.bad, Vs.opt, Vs.andE, Vs.orE, Vs.notE, Vs.asB, Vs.args, Vs.vV, Vs.vP, Vs.isD, Vs.isO, Vs.tyD, Vs.clD, Vs.kfB, Vs.cl, Vs.b2, Vs.ch, Vs.andT, Vs.orT, Vs.notT, Vs.dropS, Vs.exS, Vs.outB, K74.ite_ev, K74.itA_tup, K74.itA_lst, K74.itA_sq, K74.kit_ii, K74.kit_ib, K74.kit_bi, K74.kit_bb, K74.kit_ni, K74.kit_si, K74.kit_ti, K74.kit_li, K74.kit_di, K74.kit_tt, K74.kit_it, K74.kit_bt, K74.kit_nt, K74.kit_st, K74.kit_lt, K74.kit_dt, Vs.inn, Vs.lend, Vs.unl, Vs.unl1, Vs.fg, Vs.stE, Vs.tg1, Vs.tg2, Vs.ifE, Vs.yes, Vs.frz, Vs.lcAn, Vs.lcM, Vs.allD, Vs.itsL, Vs.lstB, Vs.lenD, Vs.its, Vs.leD, Vs.ltD, Vs.gtD, Vs.geD, Vs.int2, Vs.fB, Vs.fI, Vs.addD, Vs.isI2, Vs.isT2, Vs.subD, Vs.catT, Vs.catL, Vs.ixD, Vs.ixO, Vs.forA, Vs.forR1, Vs.forR2, Vs.forL, Vs.stp, Vs.stp2, Vs.meV, Vs.mutV, Vs.vL, Vs.gExt, Vs.gApp, Vs.lstF, Vs.tupE, Vs.slV, Vs.sl3, Vs.slD, Vs.tupD, Vs.sumD, Vs.absD, Vs.intD, Vs.lcR1, Vs.lcR2, Vs.lcL, Vs.forZ, Vs.zipD, Vs.repF, Vs.subS, Vs.gSet, Vs.ixV, Vs.eqD, Vs.neD, Vs.isnD, Vs.isbD, Vs.max2D, Vs.asgT, Vs.clI, Vs.Sl.to, Vs.parO, Vs.asI, n7.symm])) (kit_of h m5 m1 (b := false) (by simp [Vs.runP, Vs.runI, Vs.io0, Vs.retS, Vs.setS, Vs.setO, Vs.putS, Vs.lf, Vs.sq, Vs.nxt, Vs.ifS, Vs.bnd, Vs.ret, Vs.bad, Vs.opt, Vs.andE, Vs.orE, Vs.notE, Vs.asB, Vs.args, Vs.vV, Vs.vP, Vs.isD, Vs.isO, Vs.tyD, Vs.clD, Vs.kfB, Vs.cl, Vs.b2, Vs.ch, Vs.andT, Vs.orT, Vs.notT, Vs.dropS, Vs.exS, Vs.outB, K74.ite_ev, K74.itA_tup, K74.itA_lst, K74.itA_sq, K74.kit_ii, K74.kit_ib, K74.kit_bi, K74.kit_bb, K74.kit_ni, K74.kit_si, K74.kit_ti, K74.kit_li, K74.kit_di, K74.kit_tt, K74.kit_it, K74.kit_bt, K74.kit_nt, K74.kit_st, K74.kit_lt, K74.kit_dt, Vs.inn, Vs.lend, Vs.unl, Vs.unl1, Vs.fg, Vs.stE, Vs.tg1, Vs.tg2, Vs.ifE, Vs.yes, Vs.frz, Vs.lcAn, Vs.lcM, Vs.allD, Vs.itsL, Vs.lstB, Vs.lenD, Vs.its, Vs.leD, Vs.ltD, Vs.gtD, Vs.geD, Vs.int2, Vs.fB, Vs.fI, Vs.addD, Vs.isI2, Vs.isT2, Vs.subD, Vs.catT, Vs.catL, Vs.ixD, Vs.ixO, Vs.forA, Vs.forR1, Vs.forR2, Vs.forL, Vs.stp, Vs.stp2, Vs.meV, Vs.mutV, Vs.vL, Vs.gExt, Vs.gApp, Vs.lstF, Vs.tupE, Vs.slV, Vs.sl3, Vs.slD, Vs.tupD, Vs.sumD, Vs.absD, Vs.intD, Vs.lcR1, Vs.lcR2, Vs.lcL, Vs.forZ, Vs.zipD, Vs.repF, Vs.subS, Vs.gSet, Vs.ixV, Vs.eqD, Vs.neD, Vs.isnD, Vs.isbD, Vs.max2D, Vs.asgT, Vs.clI, Vs.Sl.to, Vs.parO, Vs.asI, n4.symm])) (h.val _ m5) rfl
theorem er_sign {K : PySem.W.Frag} (h : Ke K) : Er K (He.ga K "NoSign") "sign" := by
  obtain ⟨m1, m2, m3, m4, m5⟩ := mem_ex (K := K)
  obtain ⟨n1, n2, n3, n4, n5, n6, n7, n8, n9, n10⟩ := ne_ex h
  exact er_gen K m3 (kit_of h m3 m4 (b := false) (by simp [Vs.runP, Vs.runI, Vs.io0, Vs.retS, Vs.setS, Vs.setO, Vs.putS, Vs.lf, Vs.sq, Vs.nxt, Vs.ifS, Vs.bnd, Vs.ret, Vs.bad, Vs.opt, Vs.andE, Vs.orE, Vs.notE, Vs.asB, Vs.args, Vs.vV, Vs.vP, Vs.isD, Vs.isO, Vs.tyD, Vs.clD, Vs.kfB, Vs.cl, Vs.b2, Vs.ch, Vs.andT, Vs.orT, Vs.notT, Vs.dropS, Vs.exS, Vs.outB, K74.ite_ev, K74.itA_tup, K74.itA_lst, K74.itA_sq, K74.kit_ii, K74.kit_ib, K74.kit_bi, K74.kit_bb, K74.kit_ni, K74.kit_si, K74.kit_ti, K74.kit_li, K74.kit_di, K74.kit_tt, K74.kit_it, K74.kit_bt, K74.kit_nt, K74.kit_st, K74.kit_lt, K74.kit_dt, Vs.inn, Vs.lend, Vs.unl, Vs.unl1, Vs.fg, Vs.stE, Vs.tg1, Vs.tg2, Vs.ifE, Vs.yes, Vs.frz, Vs.lcAn, Vs.lcM, Vs.allD, Vs.itsL, Vs.lstB, Vs.lenD, Vs.its, Vs.leD, Vs.ltD, Vs.gtD, Vs.geD, Vs.int2, Vs.fB, Vs.fI, Vs.addD, Vs.isI2, Vs.isT2, Vs.subD, Vs.catT, Vs.catL, Vs.ixD, Vs.ixO, Vs.forA, Vs.forR1, Vs.forR2, Vs.forL, Vs.stp, Vs.stp2, Vs.meV, Vs.mutV, Vs.vL, Vs.gExt, Vs.gApp, Vs.lstF, Vs.tupE, Vs.slV, Vs.sl3, Vs.slD, Vs.tupD, Vs.sumD, Vs.absD, Vs.intD, Vs.lcR1, Vs.lcR2, Vs.lcL, Vs.forZ, Vs.zipD, Vs.repF, Vs.subS, Vs.gSet, Vs.ixV, Vs.eqD, Vs.neD, Vs.isnD, Vs.isbD, Vs.max2D, Vs.asgT, Vs.clI, Vs.Sl.to, Vs.parO, Vs.asI, n8])) (kit_of h m3 m5 (b := false) (by simp [Vs.runP, Vs.runI, Vs.io0, Vs.retS, Vs.setS, Vs.setO, Vs.putS, Vs.lf, Vs.sq, Vs.nxt, Vs.ifS, Vs.bnd, Vs.ret, Vs.bad, Vs.opt, Vs.andE, Vs.orE, Vs.notE, Vs.asB, Vs.args, Vs.vV, Vs.vP, Vs.isD, Vs.isO, Vs.tyD, Vs.clD, Vs.kfB, Vs.cl, Vs.b2, Vs.ch, Vs.andT, Vs.orT, Vs.notT, Vs.dropS, Vs.exS, Vs.outB, K74.ite_ev, K74.itA_tup, K74.itA_lst, K74.itA_sq, K74.kit_ii, K74.kit_ib, K74.kit_bi, K74.kit_bb, K74.kit_ni, K74.kit_si, K74.kit_ti, K74.kit_li, K74.kit_di, K74.kit_tt, K74.kit_it, K74.kit_bt, K74.kit_nt, K74.kit_st, K74.kit_lt, K74.kit_dt, Vs.inn, Vs.lend, Vs.unl, Vs.unl1, Vs.fg, Vs.stE, Vs.tg1, Vs.tg2, Vs.ifE, Vs.yes, Vs.frz, Vs.lcAn, Vs.lcM, Vs.allD, Vs.itsL, Vs.lstB, Vs.lenD, Vs.its, Vs.leD, Vs.ltD, Vs.gtD, Vs.geD, Vs.int2, Vs.fB, Vs.fI, Vs.addD, Vs.isI2, Vs.isT2, Vs.subD, Vs.catT, Vs.catL, Vs.ixD, Vs.ixO, Vs.forA, Vs.forR1, Vs.forR2, Vs.forL, Vs.stp, Vs.stp2, Vs.meV, Vs.mutV, Vs.vL, Vs.gExt, Vs.gApp, Vs.lstF, Vs.tupE, Vs.slV, Vs.sl3, Vs.slD, Vs.tupD, Vs.sumD, Vs.absD, Vs.intD, Vs.lcR1, Vs.lcR2, Vs.lcL, Vs.forZ, Vs.zipD, Vs.repF, Vs.subS, Vs.gSet, Vs.ixV, Vs.eqD, Vs.neD, Vs.isnD, Vs.isbD, Vs.max2D, Vs.asgT, Vs.clI, Vs.Sl.to, Vs.parO, Vs.asI, n9])) (kit_of h m3 m3 (b := true) (by simp [Vs.runP, Vs.runI, Vs.io0, Vs.retS, Vs.setS, Vs.setO, Vs.putS, Vs.lf, Vs.sq, Vs.nxt, Vs.ifS, Vs.bnd, Vs.ret, Vs.bad, Vs.opt, Vs.andE, Vs.orE, Vs.notE, Vs.asB, Vs.args, Vs.vV, Vs.vP, Vs.isD, Vs.isO, Vs.tyD, Vs.clD, Vs.kfB, Vs.cl, Vs.b2, Vs.ch, Vs.andT, Vs.orT, Vs.notT, Vs.dropS, Vs.exS, Vs.outB, K74.ite_ev, K74.itA_tup, K74.itA_lst, K74.itA_sq, K74.kit_ii, K74.kit_ib, K74.kit_bi, K74.kit_bb, K74.kit_ni, K74.kit_si, K74.kit_ti, K74.kit_li, K74.kit_di, K74.kit_tt, K74.kit_it, K74.kit_bt, K74.kit_nt, K74.kit_st, K74.kit_lt, K74.kit_dt, Vs.inn, Vs.lend, Vs.unl, Vs.unl1, Vs.fg, Vs.stE, Vs.tg1, Vs.tg2, Vs.ifE, Vs.yes, Vs.frz, Vs.lcAn, Vs.lcM, Vs.allD, Vs.itsL, Vs.lstB, Vs.lenD, Vs.its, Vs.leD, Vs.ltD, Vs.gtD, Vs.geD, Vs.int2, Vs.fB, Vs.fI, Vs.addD, Vs.isI2, Vs.isT2, Vs.subD, Vs.catT, Vs.catL, Vs.ixD, Vs.ixO, Vs.forA, Vs.forR1, Vs.forR2, Vs.forL, Vs.stp, Vs.stp2, Vs.meV, Vs.mutV, Vs.vL, Vs.gExt, Vs.gApp, Vs.lstF, Vs.tupE, Vs.slV, Vs.sl3, Vs.slD, Vs.tupD, Vs.sumD, Vs.absD, Vs.intD, Vs.lcR1, Vs.lcR2, Vs.lcL, Vs.forZ, Vs.zipD, Vs.repF, Vs.subS, Vs.gSet, Vs.ixV, Vs.eqD, Vs.neD, Vs.isnD, Vs.isbD, Vs.max2D, Vs.asgT, Vs.clI, Vs.Sl.to, Vs.parO, Vs.asI])) (kit_of h m3 m2 (b := false) (by simp [Vs.runP, Vs.runI, Vs.io0, Vs.retS, Vs.setS, Vs.setO, Vs.putS, Vs.lf, Vs.sq, Vs.nxt, Vs.ifS, Vs.bnd, Vs.ret, Vs.bad, Vs.opt, Vs.andE, Vs.orE, Vs.notE, Vs.asB, Vs.args, Vs.vV, Vs.vP, Vs.isD, Vs.isO, Vs.tyD, Vs.clD, Vs.kfB, Vs.cl, Vs.b2, Vs.ch, Vs.andT, Vs.orT, Vs.notT, Vs.dropS, Vs.exS, Vs.outB, K74.ite_ev, K74.itA_tup, K74.itA_lst, K74.itA_sq, K74.kit_ii, K74.kit_ib, K74.kit_bi, K74.kit_bb, K74.kit_ni, K74.kit_si, K74.kit_ti, K74.kit_li, K74.kit_di, K74.kit_tt, K74.kit_it, K74.kit_bt, K74.kit_nt, K74.kit_st, K74.kit_lt, K74.kit_dt, Vs.inn, Vs.lend, Vs.unl, Vs.unl1, Vs.fg, Vs.stE, Vs.tg1, Vs.tg2, Vs.ifE, Vs.yes, Vs.frz, Vs.lcAn, Vs.lcM, Vs.allD, Vs.itsL, Vs.lstB, Vs.lenD, Vs.its, Vs.leD, Vs.ltD, Vs.gtD, Vs.geD, Vs.int2, Vs.fB, Vs.fI, Vs.addD, Vs.isI2, Vs.isT2, Vs.subD, Vs.catT, Vs.catL, Vs.ixD, Vs.ixO, Vs.forA, Vs.forR1, Vs.forR2, Vs.forL, Vs.stp, Vs.stp2, Vs.meV, Vs.mutV, Vs.vL, Vs.gExt, Vs.gApp, Vs.lstF, Vs.tupE, Vs.slV, Vs.sl3, Vs.slD, Vs.tupD, Vs.sumD, Vs.absD, Vs.intD, Vs.lcR1, Vs.lcR2, Vs.lcL, Vs.forZ, Vs.zipD, Vs.repF, Vs.subS, Vs.gSet, Vs.ixV, Vs.eqD, Vs.neD, Vs.isnD, Vs.isbD, Vs.max2D, Vs.asgT, Vs.clI, Vs.Sl.to, Vs.parO, Vs.asI, n5.symm])) (kit_of h m3 m1 (b := false) (by simp [Vs.runP, Vs.runI, Vs.io0, Vs.retS, Vs.setS, Vs.setO, Vs.putS, Vs.lf, Vs.sq, Vs.nxt, Vs.ifS, Vs.bnd, Vs.ret, Vs.bad, Vs.opt, Vs.andE, Vs.orE, Vs.notE, Vs.asB, Vs.args, Vs.vV, Vs.vP, Vs.isD, Vs.isO, Vs.tyD, Vs.clD, Vs.kfB, Vs.cl, Vs.b2, Vs.ch, Vs.andT, Vs.orT, Vs.notT, Vs.dropS, Vs.exS, Vs.outB, K74.ite_ev, K74.itA_tup, K74.itA_lst, K74.itA_sq, K74.kit_ii, K74.kit_ib, K74.kit_bi, K74.kit_bb, K74.kit_ni, K74.kit_si, K74.kit_ti, K74.kit_li, K74.kit_di, K74.kit_tt, K74.kit_it, K74.kit_bt, K74.kit_nt, K74.kit_st, K74.kit_lt, K74.kit_dt, Vs.inn, Vs.lend, Vs.unl, Vs.unl1, Vs.fg, Vs.stE, Vs.tg1, Vs.tg2, Vs.ifE, Vs.yes, Vs.frz, Vs.lcAn, Vs.lcM, Vs.allD, Vs.itsL, Vs.lstB, Vs.lenD, Vs.its, Vs.leD, Vs.ltD, Vs.gtD, Vs.geD, Vs.int2, Vs.fB, Vs.fI, Vs.addD, Vs.isI2, Vs.isT2, Vs.subD, Vs.catT, Vs.catL, Vs.ixD, Vs.ixO, Vs.forA, Vs.forR1, Vs.forR2, Vs.forL, Vs.stp, Vs.stp2, Vs.meV, Vs.mutV, Vs.vL, Vs.gExt, Vs.gApp, Vs.lstF, Vs.tupE, Vs.slV, Vs.sl3, Vs.slD, Vs.tupD, Vs.sumD, Vs.absD, Vs.intD, Vs.lcR1, Vs.lcR2, Vs.lcL, Vs.forZ, Vs.zipD, Vs.repF, Vs.subS, Vs.gSet, Vs.ixV, Vs.eqD, Vs.neD, Vs.isnD, Vs.isbD, Vs.max2D, Vs.asgT, Vs.clI, Vs.Sl.to, Vs.parO, Vs.asI, n2.symm])) (h.val _ m3) rfl
theorem er_number {K : PySem.W.Frag} (h : Ke K) : Er K (He.ga K "NoNumber") "number" := by
  obtain ⟨m1, m2, m3, m4, m5⟩ := mem_ex (K := K)
  obtain ⟨n1, n2, n3, n4, n5, n6, n7, n8, n9, n10⟩ := ne_ex h
  exact er_gen K m2 (kit_of h m2 m4 (b := false) (by simp [Vs.runP, Vs.runI, Vs.io0, Vs.retS, Vs.setS, Vs.setO, Vs.putS, Vs.lf, Vs.sq, Vs.nxt, Vs.ifS, Vs.bnd, Vs.ret, Vs.bad, Vs.opt, Vs.andE, Vs.orE, Vs.notE, Vs.asB, Vs.args, Vs.vV, Vs.vP, Vs.isD, Vs.isO, Vs.tyD, Vs.clD, Vs.kfB, Vs.cl, Vs.b2, Vs.ch, Vs.andT, Vs.orT, Vs.notT, Vs.dropS, Vs.exS, Vs.outB, K74.ite_ev, K74.itA_tup, K74.itA_lst, K74.itA_sq, K74.kit_ii, K74.kit_ib, K74.kit_bi, K74.kit_bb, K74.kit_ni, K74.kit_si, K74.kit_ti, K74.kit_li, K74.kit_di, K74.kit_tt, K74.kit_it, K74.kit_bt, K74.kit_nt, K74.kit_st, K74.kit_lt, K74.kit_dt, Vs.inn, Vs.lend, Vs.unl, Vs.unl1, Vs.fg, Vs.stE, Vs.tg1, Vs.tg2, Vs.ifE, Vs.yes, Vs.frz, Vs.lcAn, Vs.lcM, Vs.allD, Vs.itsL, Vs.lstB, Vs.lenD, Vs.its, Vs.leD, Vs.ltD, Vs.gtD, Vs.geD, Vs.int2, Vs.fB, Vs.fI, Vs.addD, Vs.isI2, Vs.isT2, Vs.subD, Vs.catT, Vs.catL, Vs.ixD, Vs.ixO, Vs.forA, Vs.forR1, Vs.forR2, Vs.forL, Vs.stp, Vs.stp2, Vs.meV, Vs.mutV, Vs.vL, Vs.gExt, Vs.gApp, Vs.lstF, Vs.tupE, Vs.slV, Vs.sl3, Vs.slD, Vs.tupD, Vs.sumD, Vs.absD, Vs.intD, Vs.lcR1, Vs.lcR2, Vs.lcL, Vs.forZ, Vs.zipD, Vs.repF, Vs.subS, Vs.gSet, Vs.ixV, Vs.eqD, Vs.neD, Vs.isnD, Vs.isbD, Vs.max2D, Vs.asgT, Vs.clI, Vs.Sl.to, Vs.parO, Vs.asI, n6])) (kit_of h m2 m5 (b := false) (by simp [Vs.runP, Vs.runI, Vs.io0, Vs.retS, Vs.setS, Vs.setO, Vs.putS, Vs.lf, Vs.sq, Vs.nxt, Vs.ifS, Vs.bnd, Vs.ret, Vs.bad, Vs.opt, Vs.andE, Vs.orE, Vs.notE, Vs.asB, Vs.args, Vs.vV, Vs.vP, Vs.isD, Vs.isO, Vs.tyD, Vs.clD, Vs.kfB, Vs.cl, Vs.b2, Vs.ch, Vs.andT, Vs.orT, Vs.notT, Vs.dropS, Vs.exS, Vs.outB, K74.ite_ev, K74.itA_tup, K74.itA_lst, K74.itA_sq, K74.kit_ii, K74.kit_ib, K74.kit_bi, K74.kit_bb, K74.kit_ni, K74.kit_si, K74.kit_ti, K74.kit_li, K74.kit_di, K74.kit_tt, K74.kit_it, K74.kit_bt, K74.kit_nt, K74.kit_st, K74.kit_lt, K74.kit_dt, Vs.inn, Vs.lend, Vs.unl, Vs.unl1, Vs.fg, Vs.stE, Vs.tg1, Vs.tg2, Vs.ifE, Vs.yes, Vs.frz, Vs.lcAn, Vs.lcM, Vs.allD, Vs.itsL, Vs.lstB, Vs.lenD, Vs.its, Vs.leD, Vs.ltD, Vs.gtD, Vs.geD, Vs.int2, Vs.fB, Vs.fI, Vs.addD, Vs.isI2, Vs.isT2, Vs.subD, Vs.catT, Vs.catL, Vs.ixD, Vs.ixO, Vs.forA, Vs.forR1, Vs.forR2, Vs.forL, Vs.stp, Vs.stp2, Vs.meV, Vs.mutV, Vs.vL, Vs.gExt, Vs.gApp, Vs.lstF, Vs.tupE, Vs.slV, Vs.sl3, Vs.slD, Vs.tupD, Vs.sumD, Vs.absD, Vs.intD, Vs.lcR1, Vs.lcR2, Vs.lcL, Vs.forZ, Vs.zipD, Vs.repF, Vs.subS, Vs.gSet, Vs.ixV, Vs.eqD, Vs.neD, Vs.isnD, Vs.isbD, Vs.max2D, Vs.asgT, Vs.clI, Vs.Sl.to, Vs.parO, Vs.asI, n7])) (kit_of h m2 m3 (b := false) (by simp [Vs.runP, Vs.runI, Vs.io0, Vs.retS, Vs.setS, Vs.setO, Vs.putS, Vs.lf, Vs.sq, Vs.nxt, Vs.ifS, Vs.bnd, Vs.ret, Vs.bad, Vs.opt, Vs.andE, Vs.orE, Vs.notE, Vs.asB, Vs.args, Vs.vV, Vs.vP, Vs.isD, Vs.isO, Vs.tyD, Vs.clD, Vs.kfB, Vs.cl, Vs.b2, Vs.ch, Vs.andT, Vs.orT, Vs.notT, Vs.dropS, Vs.exS, Vs.outB, K74.ite_ev, K74.itA_tup, K74.itA_lst, K74.itA_sq, K74.kit_ii, K74.kit_ib, K74.kit_bi, K74.kit_bb, K74.kit_ni, K74.kit_si, K74.kit_ti, K74.kit_li, K74.kit_di, K74.kit_tt, K74.kit_it, K74.kit_bt, K74.kit_nt, K74.kit_st, K74.kit_lt, K74.kit_dt, Vs.inn, Vs.lend, Vs.unl, Vs.unl1, Vs.fg, Vs.stE, Vs.tg1, Vs.tg2, Vs.ifE, Vs.yes, Vs.frz, Vs.lcAn, Vs.lcM, Vs.allD, Vs.itsL, Vs.lstB, Vs.lenD, Vs.its, Vs.leD, Vs.ltD, Vs.gtD, Vs.geD, Vs.int2, Vs.fB, Vs.fI, Vs.addD, Vs.isI2, Vs.isT2, Vs.subD, Vs.catT, Vs.catL, Vs.ixD, Vs.ixO, Vs.forA, Vs.forR1, Vs.forR2, Vs.forL, Vs.stp, Vs.stp2, Vs.meV, Vs.mutV, Vs.vL, Vs.gExt, Vs.gApp, Vs.lstF, Vs.tupE, Vs.slV, Vs.sl3, Vs.slD, Vs.tupD, Vs.sumD, Vs.absD, Vs.intD, Vs.lcR1, Vs.lcR2, Vs.lcL, Vs.forZ, Vs.zipD, Vs.repF, Vs.subS, Vs.gSet, Vs.ixV, Vs.eqD, Vs.neD, Vs.isnD, Vs.isbD, Vs.max2D, Vs.asgT, Vs.clI, Vs.Sl.to, Vs.parO, Vs.asI, n5])) (kit_of h m2 m2 (b := true) (by simp [Vs.runP, Vs.runI, Vs.io0, Vs.retS, Vs.setS, Vs.setO, Vs.putS, Vs.lf, Vs.sq, Vs.nxt, Vs.ifS, Vs.bnd, Vs.ret, Vs.bad, Vs.opt, Vs.andE, Vs.orE, Vs.notE, Vs.asB, Vs.args, Vs.vV, Vs.vP, Vs.isD, Vs.isO, Vs.tyD, Vs.clD, Vs.kfB, Vs.cl, Vs.b2, Vs.ch, Vs.andT, Vs.orT, Vs.notT, Vs.dropS, Vs.exS, Vs.outB, K74.ite_ev, K74.itA_tup, K74.itA_lst, K74.itA_sq, K74.kit_ii, K74.kit_ib, K74.kit_bi, K74.kit_bb, K74.kit_ni, K74.kit_si, K74.kit_ti, K74.kit_li, K74.kit_di, K74.kit_tt, K74.kit_it, K74.kit_bt, K74.kit_nt, K74.kit_st, K74.kit_lt, K74.kit_dt, Vs.inn, Vs.lend, Vs.unl, Vs.unl1, Vs.fg, Vs.stE, Vs.tg1, Vs.tg2, Vs.ifE, Vs.yes, Vs.frz, Vs.lcAn, Vs.lcM, Vs.allD, Vs.itsL, Vs.lstB, Vs.lenD, Vs.its, Vs.leD, Vs.ltD, Vs.gtD, Vs.geD, Vs.int2, Vs.fB, Vs.fI, Vs.addD, Vs.isI2, Vs.isT2, Vs.subD, Vs.catT, Vs.catL, Vs.ixD, Vs.ixO, Vs.forA, Vs.forR1, Vs.forR2, Vs.forL, Vs.stp, Vs.stp2, Vs.meV, Vs.mutV, Vs.vL, Vs.gExt, Vs.gApp, Vs.lstF, Vs.tupE, Vs.slV, Vs.sl3, Vs.slD, Vs.tupD, Vs.sumD, Vs.absD, Vs.intD, Vs.lcR1, Vs.lcR2, Vs.lcL, Vs.forZ, Vs.zipD, Vs.repF, Vs.subS, Vs.gSet, Vs.ixV, Vs.eqD, Vs.neD, Vs.isnD, Vs.isbD, Vs.max2D, Vs.asgT, Vs.clI, Vs.Sl.to, Vs.parO, Vs.asI])) (kit_of h m2 m1 (b := false) (by simp [Vs.runP, Vs.runI, Vs.io0, Vs.retS, Vs.setS, Vs.setO, Vs.putS, Vs.lf, Vs.sq, Vs.nxt, Vs.ifS, Vs.bnd, Vs.ret, Vs.bad, Vs.opt, Vs.andE, Vs.orE, Vs.notE, Vs.asB, Vs.args, Vs.vV, Vs.vP, Vs.isD, Vs.isO, Vs.tyD, Vs.clD, Vs.kfB, Vs.cl, Vs.b2, Vs.ch, Vs.andT, Vs.orT, Vs.notT, Vs.dropS, Vs.exS, Vs.outB, K74.ite_ev, K74.itA_tup, K74.itA_lst, K74.itA_sq, K74.kit_ii, K74.kit_ib, K74.kit_bi, K74.kit_bb, K74.kit_ni, K74.kit_si, K74.kit_ti, K74.kit_li, K74.kit_di, K74.kit_tt, K74.kit_it, K74.kit_bt, K74.kit_nt, K74.kit_st, K74.kit_lt, K74.kit_dt, Vs.inn, Vs.lend, Vs.unl, Vs.unl1, Vs.fg, Vs.stE, Vs.tg1, Vs.tg2, Vs.ifE, Vs.yes, Vs.frz, Vs.lcAn, Vs.lcM, Vs.allD, Vs.itsL, Vs.lstB, Vs.lenD, Vs.its, Vs.leD, Vs.ltD, Vs.gtD, Vs.geD, Vs.int2, Vs.fB, Vs.fI, Vs.addD, Vs.isI2, Vs.isT2, Vs.subD, Vs.catT, Vs.catL, Vs.ixD, Vs.ixO, Vs.forA, Vs.forR1, Vs.forR2, Vs.forL, Vs.stp, Vs.stp2, Vs.meV, Vs.mutV, Vs.vL, Vs.gExt, Vs.gApp, Vs.lstF, Vs.tupE, Vs.slV, Vs.sl3, Vs.slD, Vs.tupD, Vs.sumD, Vs.absD, Vs.intD, Vs.lcR1, Vs.lcR2, Vs.lcL, Vs.forZ, Vs.zipD, Vs.repF, Vs.subS, Vs.gSet, Vs.ixV, Vs.eqD, Vs.neD, Vs.isnD, Vs.isbD, Vs.max2D, Vs.asgT, Vs.clI, Vs.Sl.to, Vs.parO, Vs.asI, n1.symm])) (h.val _ m2) rfl
theorem er_many {K : PySem.W.Frag} (h : Ke K) : Er K (He.ga K "TooMany") "many" := by
  obtain ⟨m1, m2, m3, m4, m5⟩ := mem_ex (K := K)
  obtain ⟨n1, n2, n3, n4, n5, n6, n7, n8, n9, n10⟩ := ne_ex h
  exact er_gen K m1 (kit_of h m1 m4 (b := false) (by simp [Vs.runP, Vs.runI, Vs.io0, Vs.retS, Vs.setS, Vs.setO, Vs.putS, Vs.lf, Vs.sq, Vs.nxt, Vs.ifS, Vs.bnd, Vs.ret, Vs.bad, Vs.opt, Vs.andE, Vs.orE, Vs.notE, Vs.asB, Vs.args, Vs.vV, Vs.vP, Vs.isD, Vs.isO, Vs.tyD, Vs.clD, Vs.kfB, Vs.cl, Vs.b2, Vs.ch, Vs.andT, Vs.orT, Vs.notT, Vs.dropS, Vs.exS, Vs.outB, K74.ite_ev, K74.itA_tup, K74.itA_lst, K74.itA_sq, K74.kit_ii, K74.kit_ib, K74.kit_bi, K74.kit_bb, K74.kit_ni, K74.kit_si, K74.kit_ti, K74.kit_li, K74.kit_di, K74.kit_tt, K74.kit_it, K74.kit_bt, K74.kit_nt, K74.kit_st, K74.kit_lt, K74.kit_dt, Vs.inn, Vs.lend, Vs.unl, Vs.unl1, Vs.fg, Vs.stE, Vs.tg1, Vs.tg2, Vs.ifE, Vs.yes, Vs.frz, Vs.lcAn, Vs.lcM, Vs.allD, Vs.itsL, Vs.lstB, Vs.lenD, Vs.its, Vs.leD, Vs.ltD, Vs.gtD, Vs.geD, Vs.int2, Vs.fB, Vs.fI, Vs.addD, Vs.isI2, Vs.isT2, Vs.subD, Vs.catT, Vs.catL, Vs.ixD, Vs.ixO, Vs.forA, Vs.forR1, Vs.forR2, Vs.forL, Vs.stp, Vs.stp2, Vs.meV, Vs.mutV, Vs.vL, Vs.gExt, Vs.gApp, Vs.lstF, Vs.tupE, Vs.slV, Vs.sl3, Vs.slD, Vs.tupD, Vs.sumD, Vs.absD, Vs.intD, Vs.lcR1, Vs.lcR2, Vs.lcL, Vs.forZ, Vs.zipD, Vs.repF, Vs.subS, Vs.gSet, Vs.ixV, Vs.eqD, Vs.neD, Vs.isnD, Vs.isbD, Vs.max2D, Vs.asgT, Vs.clI, Vs.Sl.to, Vs.parO, Vs.asI, n3])) (kit_of h m1 m5 (b := false) (by simp [Vs.runP, Vs.runI, Vs.io0, Vs.retS, Vs.setS, Vs.setO, Vs.putS, Vs.lf, Vs.sq, Vs.nxt, Vs.ifS, Vs.bnd, Vs.ret, Vs.bad, Vs.opt, Vs.andE, Vs.orE, Vs.notE, Vs.asB, Vs.args, Vs.vV, Vs.vP, Vs.isD, Vs.isO, Vs.tyD, Vs.clD, Vs.kfB, Vs.cl, Vs.b2, Vs.ch, Vs.andT, Vs.orT, Vs.notT, Vs.dropS, Vs.exS, Vs.outB, K74.ite_ev, K74.itA_tup, K74.itA_lst, K74.itA_sq, K74.kit_ii, K74.kit_ib, K74.kit_bi, K74.kit_bb, K74.kit_ni, K74.kit_si, K74.kit_ti, K74.kit_li, K74.kit_di, K74.kit_tt, K74.kit_it, K74.kit_bt, K74.kit_nt, K74.kit_st, K74.kit_lt, K74.kit_dt, Vs.inn, Vs.lend, Vs.unl, Vs.unl1, Vs.fg, Vs.stE, Vs.tg1, Vs.tg2, Vs.ifE, Vs.yes, Vs.frz, Vs.lcAn, Vs.lcM, Vs.allD, Vs.itsL, Vs.lstB, Vs.lenD, Vs.its, Vs.leD, Vs.ltD, Vs.gtD, Vs.geD, Vs.int2, Vs.fB, Vs.fI, Vs.addD, Vs.isI2, Vs.isT2, Vs.subD, Vs.catT, Vs.catL, Vs.ixD, Vs.ixO, Vs.forA, Vs.forR1, Vs.forR2, Vs.forL, Vs.stp, Vs.stp2, Vs.meV, Vs.mutV, Vs.vL, Vs.gExt, Vs.gApp, Vs.lstF, Vs.tupE, Vs.slV, Vs.sl3, Vs.slD, Vs.tupD, Vs.sumD, Vs.absD, Vs.intD, Vs.lcR1, Vs.lcR2, Vs.lcL, Vs.forZ, Vs.zipD, Vs.repF, Vs.subS, Vs.gSet, Vs.ixV, Vs.eqD, Vs.neD, Vs.isnD, Vs.isbD, Vs.max2D, Vs.asgT, Vs.clI, Vs.Sl.to, Vs.parO, Vs.asI, n4])) (kit_of h m1 m3 (b := false) (by simp [Vs.runP, Vs.runI, Vs.io0, Vs.retS, Vs.setS, Vs.setO, Vs.putS, Vs.lf, Vs.sq, Vs.nxt, Vs.ifS, Vs.bnd, Vs.ret, Vs.bad, Vs.opt, Vs.andE, Vs.orE, Vs.notE, Vs.asB, Vs.args, Vs.vV, Vs.vP, Vs.isD, Vs.isO, Vs.tyD, Vs.clD, Vs.kfB, Vs.cl, Vs.b2, Vs.ch, Vs.andT, Vs.orT, Vs.notT, Vs.dropS, Vs.exS, Vs.outB, K74.ite_ev, K74.itA_tup, K74.itA_lst, K74.itA_sq, K74.kit_ii, K74.kit_ib, K74.kit_bi, K74.kit_bb, K74.kit_ni, K74.kit_si, K74.kit_ti, K74.kit_li, K74.kit_di, K74.kit_tt, K74.kit_it, K74.kit_bt, K74.kit_nt, K74.kit_st, K74.kit_lt, K74.kit_dt, Vs.inn, Vs.lend, Vs.unl, Vs.unl1, Vs.fg, Vs.stE, Vs.tg1, Vs.tg2, Vs.ifE, Vs.yes, Vs.frz, Vs.lcAn, Vs.lcM, Vs.allD, Vs.itsL, Vs.lstB, Vs.lenD, Vs.its, Vs.leD, Vs.ltD, Vs.gtD, Vs.geD, Vs.int2, Vs.fB, Vs.fI, Vs.addD, Vs.isI2, Vs.isT2, Vs.subD, Vs.catT, Vs.catL, Vs.ixD, Vs.ixO, Vs.forA, Vs.forR1, Vs.forR2, Vs.forL, Vs.stp, Vs.stp2, Vs.meV, Vs.mutV, Vs.vL, Vs.gExt, Vs.gApp, Vs.lstF, Vs.tupE, Vs.slV, Vs.sl3, Vs.slD, Vs.tupD, Vs.sumD, Vs.absD, Vs.intD, Vs.lcR1, Vs.lcR2, Vs.lcL, Vs.forZ, Vs.zipD, Vs.repF, Vs.subS, Vs.gSet, Vs.ixV, Vs.eqD, Vs.neD, Vs.isnD, Vs.isbD, Vs.max2D, Vs.asgT, Vs.clI, Vs.Sl.to, Vs.parO, Vs.asI, n2])) (kit_of h m1 m2 (b := false) (by simp [Vs.runP, Vs.runI, Vs.io0, Vs.retS, Vs.setS, Vs.setO, Vs.putS, Vs.lf, Vs.sq, Vs.nxt, Vs.ifS, Vs.bnd, Vs.ret, Vs.bad, Vs.opt, Vs.andE, Vs.orE, Vs.notE, Vs.asB, Vs.args, Vs.vV, Vs.vP, Vs.isD, Vs.isO, Vs.tyD, Vs.clD, Vs.kfB, Vs.cl, Vs.b2, Vs.ch, Vs.andT, Vs.orT, Vs.notT, Vs.dropS, Vs.exS, Vs.outB, K74.ite_ev, K74.itA_tup, K74.itA_lst, K74.itA_sq, K74.kit_ii, K74.kit_ib, K74.kit_bi, K74.kit_bb, K74.kit_ni, K74.kit_si, K74.kit_ti, K74.kit_li, K74.kit_di, K74.kit_tt, K74.kit_it, K74.kit_bt, K74.kit_nt, K74.kit_st, K74.kit_lt, K74.kit_dt, Vs.inn, Vs.lend, Vs.unl, Vs.unl1, Vs.fg, Vs.stE, Vs.tg1, Vs.tg2, Vs.ifE, Vs.yes, Vs.frz, Vs.lcAn, Vs.lcM, Vs.allD, Vs.itsL, Vs.lstB, Vs.lenD, Vs.its, Vs.leD, Vs.ltD, Vs.gtD, Vs.geD, Vs.int2, Vs.fB, Vs.fI, Vs.addD, Vs.isI2, Vs.isT2, Vs.subD, Vs.catT, Vs.catL, Vs.ixD, Vs.ixO, Vs.forA, Vs.forR1, Vs.forR2, Vs.forL, Vs.stp, Vs.stp2, Vs.meV, Vs.mutV, Vs.vL, Vs.gExt, Vs.gApp, Vs.lstF, Vs.tupE, Vs.slV, Vs.sl3, Vs.slD, Vs.tupD, Vs.sumD, Vs.absD, Vs.intD, Vs.lcR1, Vs.lcR2, Vs.lcL, Vs.forZ, Vs.zipD, Vs.repF, Vs.subS, Vs.gSet, Vs.ixV, Vs.eqD, Vs.neD, Vs.isnD, Vs.isbD, Vs.max2D, Vs.asgT, Vs.clI, Vs.Sl.to, Vs.parO, Vs.asI, n1])) (kit_of h m1 m1 (b := true) (by simp [Vs.runP, Vs.runI, Vs.io0, Vs.retS, Vs.setS, Vs.setO, Vs.putS, Vs.lf, Vs.sq, Vs.nxt, Vs.ifS, Vs.bnd, Vs.ret, Vs.bad, Vs.opt, Vs.andE, Vs.orE, Vs.notE, Vs.asB, Vs.args, Vs.vV, Vs.vP, Vs.isD, Vs.isO, Vs.tyD, Vs.clD, Vs.kfB, Vs.cl, Vs.b2, Vs.ch, Vs.andT, Vs.orT, Vs.notT, Vs.dropS, Vs.exS, Vs.outB, K74.ite_ev, K74.itA_tup, K74.itA_lst, K74.itA_sq, K74.kit_ii, K74.kit_ib, K74.kit_bi, K74.kit_bb, K74.kit_ni, K74.kit_si, K74.kit_ti, K74.kit_li, K74.kit_di, K74.kit_tt, K74.kit_it, K74.kit_bt, K74.kit_nt, K74.kit_st, K74.kit_lt, K74.kit_dt, Vs.inn, Vs.lend, Vs.unl, Vs.unl1, Vs.fg, Vs.stE, Vs.tg1, Vs.tg2, Vs.ifE, Vs.yes, Vs.frz, Vs.lcAn, Vs.lcM, Vs.allD, Vs.itsL, Vs.lstB, Vs.lenD, Vs.its, Vs.leD, Vs.ltD, Vs.gtD, Vs.geD, Vs.int2, Vs.fB, Vs.fI, Vs.addD, Vs.isI2, Vs.isT2, Vs.subD, Vs.catT, Vs.catL, Vs.ixD, Vs.ixO, Vs.forA, Vs.forR1, Vs.forR2, Vs.forL, Vs.stp, Vs.stp2, Vs.meV, Vs.mutV, Vs.vL, Vs.gExt, Vs.gApp, Vs.lstF, Vs.tupE, Vs.slV, Vs.sl3, Vs.slD, Vs.tupD, Vs.sumD, Vs.absD, Vs.intD, Vs.lcR1, Vs.lcR2, Vs.lcL, Vs.forZ, Vs.zipD, Vs.repF, Vs.subS, Vs.gSet, Vs.ixV, Vs.eqD, Vs.neD, Vs.isnD, Vs.isbD, Vs.max2D, Vs.asgT, Vs.clI, Vs.Sl.to, Vs.parO, Vs.asI])) (h.val _ m1) rfl
theorem unl_lend : ∀ ev : Ev, unl ev (lend ev) = ev
  | [] => rfl
  | s :: ev => by
    have ih := unl_lend ev
    simp only [unl, lend] at ih ⊢
    cases s <;> simp only [List.map_cons, List.zipWith_cons_cons, unl1, ih]
theorem errM_ok {K : PySem.W.Frag} {C : Addr} {x : Str} {f : M D} {ev : Ev} {gs : List (Str × D)} (h : Ke K) (he : Er K C x) (hf : f (lend ev) = .ex C gs (lend ev)) : errM K (He.ga K "NumeralError") "let" 4 (ms__law_error K) f ev = .ok (.str x) ev := by
  obtain ⟨hC, hs⟩ := he
  unfold errM
  simp only [hf]
  have r : rtAll (fun a => ms__law_error K C a (evE 4 a)) = some (.str x) := by
    unfold rtAll
    rw [if_pos fun a => by rw [hs, hs], hs]
  rw [if_pos (h.exm C hC), r]
  simp only [unl_lend]
end K74
namespace K74
open PySem PySem.Spec PyProof.Rows L2 LamX NdefX HotX Vs






theorem lcA_fm {vs : List Nat} {step : D → M (Option D)} {g : D → Option D} {ev : Ev} : ∀ {ds : List D}, (∀ d ∈ ds, inn vs (step d) ev = .ok (g d) ev) → lcA vs step ds ev = .ok (ds.filterMap g) ev
  | [], _ => rfl
  | d :: ds, h => by
    have ih := lcA_fm (g := g) (fun x hx => h x (List.mem_cons_of_mem _ hx))
    unfold lcA
    rw [bnd_ok (h d (List.mem_cons_self ..)), bnd_ok ih]
    cases e : g d <;> simp [Vs.runP, Vs.runI, Vs.io0, Vs.retS, Vs.setS, Vs.setO, Vs.putS, Vs.lf, Vs.sq, Vs.nxt, Vs.ifS, Vs.bnd, Vs.ret, Vs.bad, Vs.opt, Vs.andE, Vs.orE, Vs.notE, Vs.asB, Vs.args, Vs.vV, Vs.vP, Vs.isD, Vs.isO, Vs.tyD, Vs.clD, Vs.kfB, Vs.cl, Vs.b2, Vs.ch, Vs.andT, Vs.orT, Vs.notT, Vs.dropS, Vs.exS, Vs.outB, K74.ite_ev, K74.itA_tup, K74.itA_lst, K74.itA_sq, K74.kit_ii, K74.kit_ib, K74.kit_bi, K74.kit_bb, K74.kit_ni, K74.kit_si, K74.kit_ti, K74.kit_li, K74.kit_di, K74.kit_tt, K74.kit_it, K74.kit_bt, K74.kit_nt, K74.kit_st, K74.kit_lt, K74.kit_dt, Vs.inn, Vs.lend, Vs.unl, Vs.unl1, Vs.fg, Vs.stE, Vs.tg1, Vs.tg2, Vs.ifE, Vs.yes, Vs.frz, Vs.lcAn, Vs.lcM, Vs.allD, Vs.itsL, Vs.lstB, Vs.lenD, Vs.its, Vs.leD, Vs.ltD, Vs.gtD, Vs.geD, Vs.int2, Vs.fB, Vs.fI, Vs.addD, Vs.isI2, Vs.isT2, Vs.subD, Vs.catT, Vs.catL, Vs.ixD, Vs.ixO, Vs.forA, Vs.forR1, Vs.forR2, Vs.forL, Vs.stp, Vs.stp2, Vs.meV, Vs.mutV, Vs.vL, Vs.gExt, Vs.gApp, Vs.lstF, Vs.tupE, Vs.slV, Vs.sl3, Vs.slD, Vs.tupD, Vs.sumD, Vs.absD, Vs.intD, Vs.lcR1, Vs.lcR2, Vs.lcL, Vs.forZ, Vs.zipD, Vs.repF, Vs.subS, Vs.gSet, Vs.ixV, Vs.eqD, Vs.neD, Vs.isnD, Vs.isbD, Vs.max2D, Vs.asgT, Vs.clI, Vs.Sl.to, Vs.parO, Vs.asI, e]
/-- the first of the filtered -/
theorem filt_head {p : Nat → Bool} {n g : Nat} {r : List Nat} (h : (List.range n).filter p = g :: r) : g < n ∧ p g = true ∧ ∀ k, k < g → p k = false := by
  have hm : g ∈ (List.range n).filter p := by rw [h]; exact List.mem_cons_self ..
  have h1 := List.mem_filter.mp hm
  refine ⟨List.mem_range.mp h1.1, h1.2, fun k hk => ?_⟩
  cases e : p k with
  | false => rfl
  | true =>
    have hk2 : k ∈ (List.range n).filter p := List.mem_filter.mpr ⟨List.mem_range.mpr (by have := List.mem_range.mp h1.1; omega), e⟩
    have hp : ((List.range n).filter p).Pairwise (· < ·) := List.Pairwise.filter _ List.pairwise_lt_range
    rw [h] at hk2 hp
    rcases List.mem_cons.mp hk2 with rfl | hk3
    · omega
    · have := (List.pairwise_cons.mp hp).1 k hk3
      omega
theorem filt_nil {p : Nat → Bool} {n : Nat} (h : (List.range n).filter p = []) : ∀ k, k < n → p k = false := fun k hk => by
  cases e : p k with
  | false => rfl
  | true =>
    have : k ∈ (List.range n).filter p := List.mem_filter.mpr ⟨List.mem_range.mpr hk, e⟩
    rw [h] at this
    cases this
theorem eqO_lst (ns ms : List Int) : eqO (.lst (ns.map .int)) (.lst (ms.map .int)) = some (decide (ns = ms)) := by
  have s : ∀ ns : List Int, SeqAt.shaped (.list (ns.map PyData.int)) = true := fun ns => by
    have := dep_ints ns
    simp [Vs.runP, Vs.runI, Vs.io0, Vs.retS, Vs.setS, Vs.setO, Vs.putS, Vs.lf, Vs.sq, Vs.nxt, Vs.ifS, Vs.bnd, Vs.ret, Vs.bad, Vs.opt, Vs.andE, Vs.orE, Vs.notE, Vs.asB, Vs.args, Vs.vV, Vs.vP, Vs.isD, Vs.isO, Vs.tyD, Vs.clD, Vs.kfB, Vs.cl, Vs.b2, Vs.ch, Vs.andT, Vs.orT, Vs.notT, Vs.dropS, Vs.exS, Vs.outB, K74.ite_ev, K74.itA_tup, K74.itA_lst, K74.itA_sq, K74.kit_ii, K74.kit_ib, K74.kit_bi, K74.kit_bb, K74.kit_ni, K74.kit_si, K74.kit_ti, K74.kit_li, K74.kit_di, K74.kit_tt, K74.kit_it, K74.kit_bt, K74.kit_nt, K74.kit_st, K74.kit_lt, K74.kit_dt, Vs.inn, Vs.lend, Vs.unl, Vs.unl1, Vs.fg, Vs.stE, Vs.tg1, Vs.tg2, Vs.ifE, Vs.yes, Vs.frz, Vs.lcAn, Vs.lcM, Vs.allD, Vs.itsL, Vs.lstB, Vs.lenD, Vs.its, Vs.leD, Vs.ltD, Vs.gtD, Vs.geD, Vs.int2, Vs.fB, Vs.fI, Vs.addD, Vs.isI2, Vs.isT2, Vs.subD, Vs.catT, Vs.catL, Vs.ixD, Vs.ixO, Vs.forA, Vs.forR1, Vs.forR2, Vs.forL, Vs.stp, Vs.stp2, Vs.meV, Vs.mutV, Vs.vL, Vs.gExt, Vs.gApp, Vs.lstF, Vs.tupE, Vs.slV, Vs.sl3, Vs.slD, Vs.tupD, Vs.sumD, Vs.absD, Vs.intD, Vs.lcR1, Vs.lcR2, Vs.lcL, Vs.forZ, Vs.zipD, Vs.repF, Vs.subS, Vs.gSet, Vs.ixV, Vs.eqD, Vs.neD, Vs.isnD, Vs.isbD, Vs.max2D, Vs.asgT, Vs.clI, Vs.Sl.to, Vs.parO, Vs.asI, SeqAt.shaped, PyData.canLay0, lay_ints, PyData.depth]
    omega
  unfold eqO
  simp [Vs.runP, Vs.runI, Vs.io0, Vs.retS, Vs.setS, Vs.setO, Vs.putS, Vs.lf, Vs.sq, Vs.nxt, Vs.ifS, Vs.bnd, Vs.ret, Vs.bad, Vs.opt, Vs.andE, Vs.orE, Vs.notE, Vs.asB, Vs.args, Vs.vV, Vs.vP, Vs.isD, Vs.isO, Vs.tyD, Vs.clD, Vs.kfB, Vs.cl, Vs.b2, Vs.ch, Vs.andT, Vs.orT, Vs.notT, Vs.dropS, Vs.exS, Vs.outB, K74.ite_ev, K74.itA_tup, K74.itA_lst, K74.itA_sq, K74.kit_ii, K74.kit_ib, K74.kit_bi, K74.kit_bb, K74.kit_ni, K74.kit_si, K74.kit_ti, K74.kit_li, K74.kit_di, K74.kit_tt, K74.kit_it, K74.kit_bt, K74.kit_nt, K74.kit_st, K74.kit_lt, K74.kit_dt, Vs.inn, Vs.lend, Vs.unl, Vs.unl1, Vs.fg, Vs.stE, Vs.tg1, Vs.tg2, Vs.ifE, Vs.yes, Vs.frz, Vs.lcAn, Vs.lcM, Vs.allD, Vs.itsL, Vs.lstB, Vs.lenD, Vs.its, Vs.leD, Vs.ltD, Vs.gtD, Vs.geD, Vs.int2, Vs.fB, Vs.fI, Vs.addD, Vs.isI2, Vs.isT2, Vs.subD, Vs.catT, Vs.catL, Vs.ixD, Vs.ixO, Vs.forA, Vs.forR1, Vs.forR2, Vs.forL, Vs.stp, Vs.stp2, Vs.meV, Vs.mutV, Vs.vL, Vs.gExt, Vs.gApp, Vs.lstF, Vs.tupE, Vs.slV, Vs.sl3, Vs.slD, Vs.tupD, Vs.sumD, Vs.absD, Vs.intD, Vs.lcR1, Vs.lcR2, Vs.lcL, Vs.forZ, Vs.zipD, Vs.repF, Vs.subS, Vs.gSet, Vs.ixV, Vs.eqD, Vs.neD, Vs.isnD, Vs.isbD, Vs.max2D, Vs.asgT, Vs.clI, Vs.Sl.to, Vs.parO, Vs.asI, pd, pds_ints, s, PyData.eqv, eqv_ints]
theorem eqD_LD {a b : List Int} {ev : Ev} : eqD (LD a) (LD b) ev = .ok (.bl (decide (a = b))) ev := by
  have e : eqO (LD a) (LD b) = some (decide (a = b)) := eqO_lst a b
  unfold eqD
  rw [e]
  rfl
theorem atI_sums {rule : List (List Int)} {v : List Int} {n : Nat} {i : Int} (h0 : 0 ≤ i) (h1 : i < n) : L2.atI (sums rule v n) i = some (LD (itc rule i.toNat v)) := by
  have hl : i.toNat < (sums rule v n).length := by simp [Vs.runP, Vs.runI, Vs.io0, Vs.retS, Vs.setS, Vs.setO, Vs.putS, Vs.lf, Vs.sq, Vs.nxt, Vs.ifS, Vs.bnd, Vs.ret, Vs.bad, Vs.opt, Vs.andE, Vs.orE, Vs.notE, Vs.asB, Vs.args, Vs.vV, Vs.vP, Vs.isD, Vs.isO, Vs.tyD, Vs.clD, Vs.kfB, Vs.cl, Vs.b2, Vs.ch, Vs.andT, Vs.orT, Vs.notT, Vs.dropS, Vs.exS, Vs.outB, K74.ite_ev, K74.itA_tup, K74.itA_lst, K74.itA_sq, K74.kit_ii, K74.kit_ib, K74.kit_bi, K74.kit_bb, K74.kit_ni, K74.kit_si, K74.kit_ti, K74.kit_li, K74.kit_di, K74.kit_tt, K74.kit_it, K74.kit_bt, K74.kit_nt, K74.kit_st, K74.kit_lt, K74.kit_dt, Vs.inn, Vs.lend, Vs.unl, Vs.unl1, Vs.fg, Vs.stE, Vs.tg1, Vs.tg2, Vs.ifE, Vs.yes, Vs.frz, Vs.lcAn, Vs.lcM, Vs.allD, Vs.itsL, Vs.lstB, Vs.lenD, Vs.its, Vs.leD, Vs.ltD, Vs.gtD, Vs.geD, Vs.int2, Vs.fB, Vs.fI, Vs.addD, Vs.isI2, Vs.isT2, Vs.subD, Vs.catT, Vs.catL, Vs.ixD, Vs.ixO, Vs.forA, Vs.forR1, Vs.forR2, Vs.forL, Vs.stp, Vs.stp2, Vs.meV, Vs.mutV, Vs.vL, Vs.gExt, Vs.gApp, Vs.lstF, Vs.tupE, Vs.slV, Vs.sl3, Vs.slD, Vs.tupD, Vs.sumD, Vs.absD, Vs.intD, Vs.lcR1, Vs.lcR2, Vs.lcL, Vs.forZ, Vs.zipD, Vs.repF, Vs.subS, Vs.gSet, Vs.ixV, Vs.eqD, Vs.neD, Vs.isnD, Vs.isbD, Vs.max2D, Vs.asgT, Vs.clI, Vs.Sl.to, Vs.parO, Vs.asI, sums]; omega
  have q := L2.atI_nat (List.getElem?_eq_getElem hl)
  rw [show ((i.toNat : Nat) : Int) = i by omega] at q
  rw [q]
  simp [Vs.runP, Vs.runI, Vs.io0, Vs.retS, Vs.setS, Vs.setO, Vs.putS, Vs.lf, Vs.sq, Vs.nxt, Vs.ifS, Vs.bnd, Vs.ret, Vs.bad, Vs.opt, Vs.andE, Vs.orE, Vs.notE, Vs.asB, Vs.args, Vs.vV, Vs.vP, Vs.isD, Vs.isO, Vs.tyD, Vs.clD, Vs.kfB, Vs.cl, Vs.b2, Vs.ch, Vs.andT, Vs.orT, Vs.notT, Vs.dropS, Vs.exS, Vs.outB, K74.ite_ev, K74.itA_tup, K74.itA_lst, K74.itA_sq, K74.kit_ii, K74.kit_ib, K74.kit_bi, K74.kit_bb, K74.kit_ni, K74.kit_si, K74.kit_ti, K74.kit_li, K74.kit_di, K74.kit_tt, K74.kit_it, K74.kit_bt, K74.kit_nt, K74.kit_st, K74.kit_lt, K74.kit_dt, Vs.inn, Vs.lend, Vs.unl, Vs.unl1, Vs.fg, Vs.stE, Vs.tg1, Vs.tg2, Vs.ifE, Vs.yes, Vs.frz, Vs.lcAn, Vs.lcM, Vs.allD, Vs.itsL, Vs.lstB, Vs.lenD, Vs.its, Vs.leD, Vs.ltD, Vs.gtD, Vs.geD, Vs.int2, Vs.fB, Vs.fI, Vs.addD, Vs.isI2, Vs.isT2, Vs.subD, Vs.catT, Vs.catL, Vs.ixD, Vs.ixO, Vs.forA, Vs.forR1, Vs.forR2, Vs.forL, Vs.stp, Vs.stp2, Vs.meV, Vs.mutV, Vs.vL, Vs.gExt, Vs.gApp, Vs.lstF, Vs.tupE, Vs.slV, Vs.sl3, Vs.slD, Vs.tupD, Vs.sumD, Vs.absD, Vs.intD, Vs.lcR1, Vs.lcR2, Vs.lcL, Vs.forZ, Vs.zipD, Vs.repF, Vs.subS, Vs.gSet, Vs.ixV, Vs.eqD, Vs.neD, Vs.isnD, Vs.isbD, Vs.max2D, Vs.asgT, Vs.clI, Vs.Sl.to, Vs.parO, Vs.asI, sums]
theorem ix_sums {rule : List (List Int)} {v : List Int} {n : Nat} {i : Int} {f g : M D} {ev : Ev} (hf : f ev = .ok (.lst (sums rule v n)) ev) (hg : g ev = .ok (.int i) ev) (h0 : 0 ≤ i) (h1 : i < n) : b2 ixD f g ev = .ok (LD (itc rule i.toNat v)) ev := by
  rw [b2_ok hf hg]
  have q := atI_sums (rule := rule) (v := v) h0 h1
  unfold ixD ixO
  simp only [its, Option.bind_some, q]
  rfl
theorem ix_LD {a : Int} {l : List Int} {f : M D} {ev : Ev} (hf : f ev = .ok (LD (a :: l)) ev) : b2 ixD f (Vs.ret (.int 0)) ev = .ok (.int a) ev := by
  rw [b2_ok hf (show Vs.ret (D.int 0) ev = .ok (.int 0) ev from rfl)]
  have q : L2.atI ((a :: l).map D.int) 0 = some (.int a) := L2.atI_nat (j := 0) rfl
  unfold ixD ixO LD
  simp only [its, Option.bind_some, q]
  rfl
theorem sum_LD {l : List Int} {f : M D} {ev ev1 : Ev} (hf : f ev = .ok (LD l) ev1) : bnd f sumD ev = .ok (.int l.sum) ev1 := by
  rw [bnd_ok hf]
  unfold sumD LD
  simp only [itsL, Option.bind_some, lstI_ints]
  rfl
theorem lenT_ID {l : List Int} {f : M D} {ev ev1 : Ev} (hf : f ev = .ok (ID l) ev1) : bnd f lenD ev = .ok (.int l.length) ev1 := by
  rw [bnd_ok hf]
  simp [Vs.runP, Vs.runI, Vs.io0, Vs.retS, Vs.setS, Vs.setO, Vs.putS, Vs.lf, Vs.sq, Vs.nxt, Vs.ifS, Vs.bnd, Vs.ret, Vs.bad, Vs.opt, Vs.andE, Vs.orE, Vs.notE, Vs.asB, Vs.args, Vs.vV, Vs.vP, Vs.isD, Vs.isO, Vs.tyD, Vs.clD, Vs.kfB, Vs.cl, Vs.b2, Vs.ch, Vs.andT, Vs.orT, Vs.notT, Vs.dropS, Vs.exS, Vs.outB, K74.ite_ev, K74.itA_tup, K74.itA_lst, K74.itA_sq, K74.kit_ii, K74.kit_ib, K74.kit_bi, K74.kit_bb, K74.kit_ni, K74.kit_si, K74.kit_ti, K74.kit_li, K74.kit_di, K74.kit_tt, K74.kit_it, K74.kit_bt, K74.kit_nt, K74.kit_st, K74.kit_lt, K74.kit_dt, Vs.inn, Vs.lend, Vs.unl, Vs.unl1, Vs.fg, Vs.stE, Vs.tg1, Vs.tg2, Vs.ifE, Vs.yes, Vs.frz, Vs.lcAn, Vs.lcM, Vs.allD, Vs.itsL, Vs.lstB, Vs.lenD, Vs.its, Vs.leD, Vs.ltD, Vs.gtD, Vs.geD, Vs.int2, Vs.fB, Vs.fI, Vs.addD, Vs.isI2, Vs.isT2, Vs.subD, Vs.catT, Vs.catL, Vs.ixD, Vs.ixO, Vs.forA, Vs.forR1, Vs.forR2, Vs.forL, Vs.stp, Vs.stp2, Vs.meV, Vs.mutV, Vs.vL, Vs.gExt, Vs.gApp, Vs.lstF, Vs.tupE, Vs.slV, Vs.sl3, Vs.slD, Vs.tupD, Vs.sumD, Vs.absD, Vs.intD, Vs.lcR1, Vs.lcR2, Vs.lcL, Vs.forZ, Vs.zipD, Vs.repF, Vs.subS, Vs.gSet, Vs.ixV, Vs.eqD, Vs.neD, Vs.isnD, Vs.isbD, Vs.max2D, Vs.asgT, Vs.clI, Vs.Sl.to, Vs.parO, Vs.asI, ID]
theorem gtD_int {a b : Int} {ev : Ev} : gtD (.int a) (.int b) ev = .ok (.bl (decide (b < a))) ev := rfl
theorem el_far (K : PySem.W.Frag) {rule : List (List Int)} {v : List Int} {h : Hnd} {x s t : D} {i : Int} (h0 : 0 ≤ i) (h1 : i < 201) : inn [6] (el__law_far_right_0 K (.int i)) [.io h.ds, .sh x, .sh s, .sh t, .sh (.lst (sums rule v 201)), .no, .no] = .ok (if 20000 < (itc rule i.toNat v).sum then some (.int i) else none) [.io h.ds, .sh x, .sh s, .sh t, .sh (.lst (sums rule v 201)), .no, .no] := by
  have a1 : b2 gtD (bnd (b2 ixD (vV 4) (vV 6)) sumD) (Vs.ret (.int 20000)) [.io h.ds, .sh x, .sh s, .sh t, .sh (.lst (sums rule v 201)), .no, .sh (.int i)] = .ok (.bl (decide (20000 < (itc rule i.toNat v).sum))) [.io h.ds, .sh x, .sh s, .sh t, .sh (.lst (sums rule v 201)), .no, .sh (.int i)] :=
    (b2_ok (sum_LD (ix_sums (rule := rule) (v := v) (n := 201) (i := i) rfl rfl h0 (by omega))) rfl).trans gtD_int
  have a2 := asB_ok a1
  unfold inn el__law_far_right_0 stE tg1 ifE
  simp only [lend, List.map_cons, List.map_nil, List.set_cons_succ, List.set_cons_zero]
  rw [bnd_ok a2]
  by_cases hq : 20000 < (itc rule i.toNat v).sum
  · rw [decide_eq_true hq]
    simp only [hq, if_true]
    rfl
  · rw [decide_eq_false hq]
    simp only [hq, if_false]
    rfl
end K74
namespace K74
open PySem PySem.Spec PyProof.Rows L2 LamX NdefX HotX Vs






theorem ifS_yes {c : M Bool} {a b : S} {ev ev1 : Ev} (h : c ev = .ok true ev1) : ifS c a b ev = a ev1 := (ifS_ok h).trans rfl
def fgr (rule : List (List Int)) (v : List Int) : List Nat := (List.range 201).filter fun k => decide (20000 < (itc rule k v).sum)
theorem far_great (K : PySem.W.Frag) {rule : List (List Int)} {v : List Int} {h : Hnd} {x s t : D} : lcR1 [6] (Vs.ret (.int 201)) (el__law_far_right_0 K) [.io h.ds, .sh x, .sh s, .sh t, .sh (.lst (sums rule v 201)), .no, .no] = .ok (((fgr rule v).map fun (k : Nat) => (k : Int)).map .int) [.io h.ds, .sh x, .sh s, .sh t, .sh (.lst (sums rule v 201)), .no, .no] := by
  have a1 : lcA [6] (el__law_far_right_0 K) (rng 0 201) [.io h.ds, .sh x, .sh s, .sh t, .sh (.lst (sums rule v 201)), .no, .no] = .ok ((rng 0 201).filterMap fun d => match d with | .int i => if 20000 < (itc rule i.toNat v).sum then some (.int i) else none | _ => none) [.io h.ds, .sh x, .sh s, .sh t, .sh (.lst (sums rule v 201)), .no, .no] := lcA_fm fun d hd => by
    unfold rng at hd
    obtain ⟨k, hk, rfl⟩ := List.mem_map.mp hd
    have := List.mem_range.mp hk
    exact el_far K (by omega) (by omega)
  have a2 : ((rng 0 201).filterMap fun d => match d with | .int i => if 20000 < (itc rule i.toNat v).sum then some (D.int i) else none | _ => none) = ((fgr rule v).map fun (k : Nat) => (k : Int)).map .int := by
    unfold rng fgr
    rw [List.filterMap_map, List.map_map, ← List.filterMap_eq_filter, List.map_filterMap]
    refine congrArg (fun f => List.filterMap f (List.range ((201 : Int) - 0).toNat)) (funext fun k => ?_)
    simp only [Function.comp, Option.guard]
    by_cases hq : 20000 < (itc rule k v).sum
    · simp [Vs.runP, Vs.runI, Vs.io0, Vs.retS, Vs.setS, Vs.setO, Vs.putS, Vs.lf, Vs.sq, Vs.nxt, Vs.ifS, Vs.bnd, Vs.ret, Vs.bad, Vs.opt, Vs.andE, Vs.orE, Vs.notE, Vs.asB, Vs.args, Vs.vV, Vs.vP, Vs.isD, Vs.isO, Vs.tyD, Vs.clD, Vs.kfB, Vs.cl, Vs.b2, Vs.ch, Vs.andT, Vs.orT, Vs.notT, Vs.dropS, Vs.exS, Vs.outB, K74.ite_ev, K74.itA_tup, K74.itA_lst, K74.itA_sq, K74.kit_ii, K74.kit_ib, K74.kit_bi, K74.kit_bb, K74.kit_ni, K74.kit_si, K74.kit_ti, K74.kit_li, K74.kit_di, K74.kit_tt, K74.kit_it, K74.kit_bt, K74.kit_nt, K74.kit_st, K74.kit_lt, K74.kit_dt, Vs.inn, Vs.lend, Vs.unl, Vs.unl1, Vs.fg, Vs.stE, Vs.tg1, Vs.tg2, Vs.ifE, Vs.yes, Vs.frz, Vs.lcAn, Vs.lcM, Vs.allD, Vs.itsL, Vs.lstB, Vs.lenD, Vs.its, Vs.leD, Vs.ltD, Vs.gtD, Vs.geD, Vs.int2, Vs.fB, Vs.fI, Vs.addD, Vs.isI2, Vs.isT2, Vs.subD, Vs.catT, Vs.catL, Vs.ixD, Vs.ixO, Vs.forA, Vs.forR1, Vs.forR2, Vs.forL, Vs.stp, Vs.stp2, Vs.meV, Vs.mutV, Vs.vL, Vs.gExt, Vs.gApp, Vs.lstF, Vs.tupE, Vs.slV, Vs.sl3, Vs.slD, Vs.tupD, Vs.sumD, Vs.absD, Vs.intD, Vs.lcR1, Vs.lcR2, Vs.lcL, Vs.forZ, Vs.zipD, Vs.repF, Vs.subS, Vs.gSet, Vs.ixV, Vs.eqD, Vs.neD, Vs.isnD, Vs.isbD, Vs.max2D, Vs.asgT, Vs.clI, Vs.Sl.to, Vs.parO, Vs.asI, hq]
    · simp [Vs.runP, Vs.runI, Vs.io0, Vs.retS, Vs.setS, Vs.setO, Vs.putS, Vs.lf, Vs.sq, Vs.nxt, Vs.ifS, Vs.bnd, Vs.ret, Vs.bad, Vs.opt, Vs.andE, Vs.orE, Vs.notE, Vs.asB, Vs.args, Vs.vV, Vs.vP, Vs.isD, Vs.isO, Vs.tyD, Vs.clD, Vs.kfB, Vs.cl, Vs.b2, Vs.ch, Vs.andT, Vs.orT, Vs.notT, Vs.dropS, Vs.exS, Vs.outB, K74.ite_ev, K74.itA_tup, K74.itA_lst, K74.itA_sq, K74.kit_ii, K74.kit_ib, K74.kit_bi, K74.kit_bb, K74.kit_ni, K74.kit_si, K74.kit_ti, K74.kit_li, K74.kit_di, K74.kit_tt, K74.kit_it, K74.kit_bt, K74.kit_nt, K74.kit_st, K74.kit_lt, K74.kit_dt, Vs.inn, Vs.lend, Vs.unl, Vs.unl1, Vs.fg, Vs.stE, Vs.tg1, Vs.tg2, Vs.ifE, Vs.yes, Vs.frz, Vs.lcAn, Vs.lcM, Vs.allD, Vs.itsL, Vs.lstB, Vs.lenD, Vs.its, Vs.leD, Vs.ltD, Vs.gtD, Vs.geD, Vs.int2, Vs.fB, Vs.fI, Vs.addD, Vs.isI2, Vs.isT2, Vs.subD, Vs.catT, Vs.catL, Vs.ixD, Vs.ixO, Vs.forA, Vs.forR1, Vs.forR2, Vs.forL, Vs.stp, Vs.stp2, Vs.meV, Vs.mutV, Vs.vL, Vs.gExt, Vs.gApp, Vs.lstF, Vs.tupE, Vs.slV, Vs.sl3, Vs.slD, Vs.tupD, Vs.sumD, Vs.absD, Vs.intD, Vs.lcR1, Vs.lcR2, Vs.lcL, Vs.forZ, Vs.zipD, Vs.repF, Vs.subS, Vs.gSet, Vs.ixV, Vs.eqD, Vs.neD, Vs.isnD, Vs.isbD, Vs.max2D, Vs.asgT, Vs.clI, Vs.Sl.to, Vs.parO, Vs.asI, hq]
  rw [a2] at a1
  unfold lcR1
  rw [bnd_ok (show Vs.ret (D.int 201) [.io h.ds, .sh x, .sh s, .sh t, .sh (.lst (sums rule v 201)), .no, .no] = .ok (.int 201) [.io h.ds, .sh x, .sh s, .sh t, .sh (.lst (sums rule v 201)), .no, .no] from rfl)]
  simp only
  rw [if_pos ⟨by omega, by omega⟩]
  unfold lcM
  rw [if_pos (by rw [rng_length]; unfold big; omega)]
  exact a1
theorem neD_same {x : Str} {ev : Ev} (hx : PyData.strOk x = true) : neD (.str x) (.str x) ev = .ok (.bl false) ev := by
  have e : eqO (.str x) (.str x) = some true := by
    unfold eqO
    simp [Vs.runP, Vs.runI, Vs.io0, Vs.retS, Vs.setS, Vs.setO, Vs.putS, Vs.lf, Vs.sq, Vs.nxt, Vs.ifS, Vs.bnd, Vs.ret, Vs.bad, Vs.opt, Vs.andE, Vs.orE, Vs.notE, Vs.asB, Vs.args, Vs.vV, Vs.vP, Vs.isD, Vs.isO, Vs.tyD, Vs.clD, Vs.kfB, Vs.cl, Vs.b2, Vs.ch, Vs.andT, Vs.orT, Vs.notT, Vs.dropS, Vs.exS, Vs.outB, K74.ite_ev, K74.itA_tup, K74.itA_lst, K74.itA_sq, K74.kit_ii, K74.kit_ib, K74.kit_bi, K74.kit_bb, K74.kit_ni, K74.kit_si, K74.kit_ti, K74.kit_li, K74.kit_di, K74.kit_tt, K74.kit_it, K74.kit_bt, K74.kit_nt, K74.kit_st, K74.kit_lt, K74.kit_dt, Vs.inn, Vs.lend, Vs.unl, Vs.unl1, Vs.fg, Vs.stE, Vs.tg1, Vs.tg2, Vs.ifE, Vs.yes, Vs.frz, Vs.lcAn, Vs.lcM, Vs.allD, Vs.itsL, Vs.lstB, Vs.lenD, Vs.its, Vs.leD, Vs.ltD, Vs.gtD, Vs.geD, Vs.int2, Vs.fB, Vs.fI, Vs.addD, Vs.isI2, Vs.isT2, Vs.subD, Vs.catT, Vs.catL, Vs.ixD, Vs.ixO, Vs.forA, Vs.forR1, Vs.forR2, Vs.forL, Vs.stp, Vs.stp2, Vs.meV, Vs.mutV, Vs.vL, Vs.gExt, Vs.gApp, Vs.lstF, Vs.tupE, Vs.slV, Vs.sl3, Vs.slD, Vs.tupD, Vs.sumD, Vs.absD, Vs.intD, Vs.lcR1, Vs.lcR2, Vs.lcL, Vs.forZ, Vs.zipD, Vs.repF, Vs.subS, Vs.gSet, Vs.ixV, Vs.eqD, Vs.neD, Vs.isnD, Vs.isbD, Vs.max2D, Vs.asgT, Vs.clI, Vs.Sl.to, Vs.parO, Vs.asI, pd, SeqAt.shaped, PyData.canLay0, PyData.depth, PyData.eqv, hx]
  unfold neD
  rw [e]
  rfl
theorem far_ok (K : PySem.W.Frag) {h : Hnd} {n : Nat} {rule : List (List Int)} (he : Ke K) (hr : RuOk rule) (k : h.Ok n) (hn : n < 2 ^ 48) : ∃ h' : Hnd, r__law_far_right K h.ds [RD rule] = .ok (.bl true) h'.ds ∧ h'.Ok (n + 20) := by
  have hlo := hr.lo
  have hhi := hr.hi
  obtain ⟨h1, s, e1, s0, s1, k1⟩ := draw_ok K (a := (rule.length : Int)) k (by omega) (by omega) (by omega)
  obtain ⟨h2, t, e2, t0, t1, k2⟩ := draw_ok K (a := 201) k1 (by omega) (by omega) (by omega)
  have hv : Vd rule.length [1 + s] := fun x hx => by
    simp [Vs.runP, Vs.runI, Vs.io0, Vs.retS, Vs.setS, Vs.setO, Vs.putS, Vs.lf, Vs.sq, Vs.nxt, Vs.ifS, Vs.bnd, Vs.ret, Vs.bad, Vs.opt, Vs.andE, Vs.orE, Vs.notE, Vs.asB, Vs.args, Vs.vV, Vs.vP, Vs.isD, Vs.isO, Vs.tyD, Vs.clD, Vs.kfB, Vs.cl, Vs.b2, Vs.ch, Vs.andT, Vs.orT, Vs.notT, Vs.dropS, Vs.exS, Vs.outB, K74.ite_ev, K74.itA_tup, K74.itA_lst, K74.itA_sq, K74.kit_ii, K74.kit_ib, K74.kit_bi, K74.kit_bb, K74.kit_ni, K74.kit_si, K74.kit_ti, K74.kit_li, K74.kit_di, K74.kit_tt, K74.kit_it, K74.kit_bt, K74.kit_nt, K74.kit_st, K74.kit_lt, K74.kit_dt, Vs.inn, Vs.lend, Vs.unl, Vs.unl1, Vs.fg, Vs.stE, Vs.tg1, Vs.tg2, Vs.ifE, Vs.yes, Vs.frz, Vs.lcAn, Vs.lcM, Vs.allD, Vs.itsL, Vs.lstB, Vs.lenD, Vs.its, Vs.leD, Vs.ltD, Vs.gtD, Vs.geD, Vs.int2, Vs.fB, Vs.fI, Vs.addD, Vs.isI2, Vs.isT2, Vs.subD, Vs.catT, Vs.catL, Vs.ixD, Vs.ixO, Vs.forA, Vs.forR1, Vs.forR2, Vs.forL, Vs.stp, Vs.stp2, Vs.meV, Vs.mutV, Vs.vL, Vs.gExt, Vs.gApp, Vs.lstF, Vs.tupE, Vs.slV, Vs.sl3, Vs.slD, Vs.tupD, Vs.sumD, Vs.absD, Vs.intD, Vs.lcR1, Vs.lcR2, Vs.lcL, Vs.forZ, Vs.zipD, Vs.repF, Vs.subS, Vs.gSet, Vs.ixV, Vs.eqD, Vs.neD, Vs.isnD, Vs.isbD, Vs.max2D, Vs.asgT, Vs.clI, Vs.Sl.to, Vs.parO, Vs.asI] at hx
    subst hx
    omega
  have f1 : clI 0 (r__law_draw K) (args [bnd (vP 1) lenD]) [.io h.ds, .sh (RD rule), .no, .no, .no, .no, .no] = .ok (.int s) [.io h1.ds, .sh (RD rule), .no, .no, .no, .no, .no] := clI_io (i := 0) (f := r__law_draw K) rfl (args_ok (len_RD (i := 1) (rule := rule) rfl) args_nil) rfl e1
  have f2 : b2 addD (Vs.ret (.int 1)) (clI 0 (r__law_draw K) (args [bnd (vP 1) lenD])) [.io h.ds, .sh (RD rule), .no, .no, .no, .no, .no] = .ok (.int (1 + s)) [.io h1.ds, .sh (RD rule), .no, .no, .no, .no, .no] := (b2_ok rfl f1).trans rfl
  have f3 : clI 0 (r__law_draw K) (args [Vs.ret (.int 201)]) [.io h1.ds, .sh (RD rule), .no, .no, .no, .no, .no] = .ok (.int t) [.io h2.ds, .sh (RD rule), .no, .no, .no, .no, .no] := clI_io (i := 0) rfl (args_ok rfl args_nil) rfl e2
  have s1' : asgT 2 3 (tupE (args [b2 addD (Vs.ret (.int 1)) (clI 0 (r__law_draw K) (args [bnd (vP 1) lenD])), clI 0 (r__law_draw K) (args [Vs.ret (.int 201)])])) [.io h.ds, .sh (RD rule), .no, .no, .no, .no, .no] = .nx [.io h2.ds, .sh (RD rule), .sh (.int (1 + s)), .sh (.int t), .no, .no, .no] := asgT_ok (tupE_ok (args_ok f2 (args_ok f3 args_nil)) (by simp [Vs.runP, Vs.runI, Vs.io0, Vs.retS, Vs.setS, Vs.setO, Vs.putS, Vs.lf, Vs.sq, Vs.nxt, Vs.ifS, Vs.bnd, Vs.ret, Vs.bad, Vs.opt, Vs.andE, Vs.orE, Vs.notE, Vs.asB, Vs.args, Vs.vV, Vs.vP, Vs.isD, Vs.isO, Vs.tyD, Vs.clD, Vs.kfB, Vs.cl, Vs.b2, Vs.ch, Vs.andT, Vs.orT, Vs.notT, Vs.dropS, Vs.exS, Vs.outB, K74.ite_ev, K74.itA_tup, K74.itA_lst, K74.itA_sq, K74.kit_ii, K74.kit_ib, K74.kit_bi, K74.kit_bb, K74.kit_ni, K74.kit_si, K74.kit_ti, K74.kit_li, K74.kit_di, K74.kit_tt, K74.kit_it, K74.kit_bt, K74.kit_nt, K74.kit_st, K74.kit_lt, K74.kit_dt, Vs.inn, Vs.lend, Vs.unl, Vs.unl1, Vs.fg, Vs.stE, Vs.tg1, Vs.tg2, Vs.ifE, Vs.yes, Vs.frz, Vs.lcAn, Vs.lcM, Vs.allD, Vs.itsL, Vs.lstB, Vs.lenD, Vs.its, Vs.leD, Vs.ltD, Vs.gtD, Vs.geD, Vs.int2, Vs.fB, Vs.fI, Vs.addD, Vs.isI2, Vs.isT2, Vs.subD, Vs.catT, Vs.catL, Vs.ixD, Vs.ixO, Vs.forA, Vs.forR1, Vs.forR2, Vs.forL, Vs.stp, Vs.stp2, Vs.meV, Vs.mutV, Vs.vL, Vs.gExt, Vs.gApp, Vs.lstF, Vs.tupE, Vs.slV, Vs.sl3, Vs.slD, Vs.tupD, Vs.sumD, Vs.absD, Vs.intD, Vs.lcR1, Vs.lcR2, Vs.lcL, Vs.forZ, Vs.zipD, Vs.repF, Vs.subS, Vs.gSet, Vs.ixV, Vs.eqD, Vs.neD, Vs.isnD, Vs.isbD, Vs.max2D, Vs.asgT, Vs.clI, Vs.Sl.to, Vs.parO, Vs.asI]))
  have g0 := sums_eq K (s := 1 + s) (t := 200) hr (by omega) (by omega)
  have g1 := signs_grown_eq K (s := 1 + s) hr ⟨by omega, by omega⟩ t0 (by omega)
  have g2 := size_grown_eq K (s := 1 + s) hr ⟨by omega, by omega⟩ t0 (by omega)
  have hs : ∀ j : Nat, (itc rule j (one0 rule.length (1 + s))).sum = (git rule j [1 + s]).length := fun j => by
    rw [one0_cnt, itc_cnt hr j hv, sum_cnt _ (git_vd hr j hv)]
  generalize hv0 : one0 rule.length (1 + s) = v at g0 g1 g2 hs
  have s2 : setS 4 (cl (r__law_sums K) (args [vV 1, vV 2, Vs.ret (.int 200)])) [.io h2.ds, .sh (RD rule), .sh (.int (1 + s)), .sh (.int t), .no, .no, .no] = .nx [.io h2.ds, .sh (RD rule), .sh (.int (1 + s)), .sh (.int t), .sh (.lst (sums rule v 201)), .no, .no] := setS_ok (cl_val (args_ok (vV_sh rfl) (args_ok (vV_sh rfl) (args_ok rfl args_nil))) g0)
  have w1 : b2 ixD (vV 4) (vV 3) [.io h2.ds, .sh (RD rule), .sh (.int (1 + s)), .sh (.int t), .sh (.lst (sums rule v 201)), .no, .no] = .ok (LD (itc rule t.toNat v)) [.io h2.ds, .sh (RD rule), .sh (.int (1 + s)), .sh (.int t), .sh (.lst (sums rule v 201)), .no, .no] := ix_sums rfl rfl t0 (by omega)
  have q1 := neD_ID (a := itc rule t.toNat v) (b := itc rule t.toNat v) (ev := [.io h2.ds, .sh (RD rule), .sh (.int (1 + s)), .sh (.int t), .sh (.lst (sums rule v 201)), .no, .no])
  have q2 := neD_int (a := (itc rule t.toNat v).sum) (b := (itc rule t.toNat v).sum) (ev := [.io h2.ds, .sh (RD rule), .sh (.int (1 + s)), .sh (.int t), .sh (.lst (sums rule v 201)), .no, .no])
  rw [decide_eq_true rfl] at q1 q2
  have s3 := ifS_no (a := retS (Vs.ret (.bl false))) (asB_ok ((b2_ok (cl_val (a3_ok (i := 1) (j := 2) (k := 3) rfl rfl rfl) g1) (tup_ok w1)).trans q1))
  have s4 := ifS_no (a := retS (Vs.ret (.bl false))) (asB_ok ((b2_ok (cl_val (a3_ok (i := 1) (j := 2) (k := 3) rfl rfl rfl) g2) (sum_LD w1)).trans q2))
  have s5 : setS 5 (frz (lcR1 [6] (Vs.ret (.int 201)) (el__law_far_right_0 K))) [.io h2.ds, .sh (RD rule), .sh (.int (1 + s)), .sh (.int t), .sh (.lst (sums rule v 201)), .no, .no] = .nx [.io h2.ds, .sh (RD rule), .sh (.int (1 + s)), .sh (.int t), .sh (.lst (sums rule v 201)), .sh (LD ((fgr rule v).map fun (k : Nat) => (k : Int))), .no] := setF_ok (far_great K)
  have pre := fun (f : S) => (sq_nx (g := f) s5)
  refine ⟨h2, ?_, k2.mono (by omega)⟩
  have nil0 : frz (lstF (args [])) [.io h2.ds, .sh (RD rule), .sh (.int (1 + s)), .sh (.int t), .sh (.lst (sums rule v 201)), .sh (LD ((fgr rule v).map fun (k : Nat) => (k : Int))), .no] = .ok (LD []) [.io h2.ds, .sh (RD rule), .sh (.int (1 + s)), .sh (.int t), .sh (.lst (sums rule v 201)), .sh (LD ((fgr rule v).map fun (k : Nat) => (k : Int))), .no] := rfl
  have c6 := eqD_LD (a := (fgr rule v).map fun (k : Nat) => (k : Int)) (b := []) (ev := [.io h2.ds, .sh (RD rule), .sh (.int (1 + s)), .sh (.int t), .sh (.lst (sums rule v 201)), .sh (LD ((fgr rule v).map fun (k : Nat) => (k : Int))), .no])
  have c6' := asB_ok ((b2_ok (fa := vV 5) (vV_sh rfl) nil0).trans c6)
  have a0 : ∀ {ev : Ev}, ev[2]? = some (.sh (.int (1 + s))) → tupE (args [vV 2]) ev = .ok (ID [1 + s]) ev := fun hh => tupE_ok (args_ok (vV_sh hh) args_nil) (by simp [Vs.runP, Vs.runI, Vs.io0, Vs.retS, Vs.setS, Vs.setO, Vs.putS, Vs.lf, Vs.sq, Vs.nxt, Vs.ifS, Vs.bnd, Vs.ret, Vs.bad, Vs.opt, Vs.andE, Vs.orE, Vs.notE, Vs.asB, Vs.args, Vs.vV, Vs.vP, Vs.isD, Vs.isO, Vs.tyD, Vs.clD, Vs.kfB, Vs.cl, Vs.b2, Vs.ch, Vs.andT, Vs.orT, Vs.notT, Vs.dropS, Vs.exS, Vs.outB, K74.ite_ev, K74.itA_tup, K74.itA_lst, K74.itA_sq, K74.kit_ii, K74.kit_ib, K74.kit_bi, K74.kit_bb, K74.kit_ni, K74.kit_si, K74.kit_ti, K74.kit_li, K74.kit_di, K74.kit_tt, K74.kit_it, K74.kit_bt, K74.kit_nt, K74.kit_st, K74.kit_lt, K74.kit_dt, Vs.inn, Vs.lend, Vs.unl, Vs.unl1, Vs.fg, Vs.stE, Vs.tg1, Vs.tg2, Vs.ifE, Vs.yes, Vs.frz, Vs.lcAn, Vs.lcM, Vs.allD, Vs.itsL, Vs.lstB, Vs.lenD, Vs.its, Vs.leD, Vs.ltD, Vs.gtD, Vs.geD, Vs.int2, Vs.fB, Vs.fI, Vs.addD, Vs.isI2, Vs.isT2, Vs.subD, Vs.catT, Vs.catL, Vs.ixD, Vs.ixO, Vs.forA, Vs.forR1, Vs.forR2, Vs.forL, Vs.stp, Vs.stp2, Vs.meV, Vs.mutV, Vs.vL, Vs.gExt, Vs.gApp, Vs.lstF, Vs.tupE, Vs.slV, Vs.sl3, Vs.slD, Vs.tupD, Vs.sumD, Vs.absD, Vs.intD, Vs.lcR1, Vs.lcR2, Vs.lcL, Vs.forZ, Vs.zipD, Vs.repF, Vs.subS, Vs.gSet, Vs.ixV, Vs.eqD, Vs.neD, Vs.isnD, Vs.isbD, Vs.max2D, Vs.asgT, Vs.clI, Vs.Sl.to, Vs.parO, Vs.asI])
  cases hg : fgr rule v with
  | nil =>
    have hsz := filt_nil hg
    have gs : gro rule t.toNat [1 + s] = some (git rule t.toNat [1 + s]) := gro_some _ _ fun j hj => by
      have := hsz (j + 1) (by omega)
      rw [hs] at this
      simp [Vs.runP, Vs.runI, Vs.io0, Vs.retS, Vs.setS, Vs.setO, Vs.putS, Vs.lf, Vs.sq, Vs.nxt, Vs.ifS, Vs.bnd, Vs.ret, Vs.bad, Vs.opt, Vs.andE, Vs.orE, Vs.notE, Vs.asB, Vs.args, Vs.vV, Vs.vP, Vs.isD, Vs.isO, Vs.tyD, Vs.clD, Vs.kfB, Vs.cl, Vs.b2, Vs.ch, Vs.andT, Vs.orT, Vs.notT, Vs.dropS, Vs.exS, Vs.outB, K74.ite_ev, K74.itA_tup, K74.itA_lst, K74.itA_sq, K74.kit_ii, K74.kit_ib, K74.kit_bi, K74.kit_bb, K74.kit_ni, K74.kit_si, K74.kit_ti, K74.kit_li, K74.kit_di, K74.kit_tt, K74.kit_it, K74.kit_bt, K74.kit_nt, K74.kit_st, K74.kit_lt, K74.kit_dt, Vs.inn, Vs.lend, Vs.unl, Vs.unl1, Vs.fg, Vs.stE, Vs.tg1, Vs.tg2, Vs.ifE, Vs.yes, Vs.frz, Vs.lcAn, Vs.lcM, Vs.allD, Vs.itsL, Vs.lstB, Vs.lenD, Vs.its, Vs.leD, Vs.ltD, Vs.gtD, Vs.geD, Vs.int2, Vs.fB, Vs.fI, Vs.addD, Vs.isI2, Vs.isT2, Vs.subD, Vs.catT, Vs.catL, Vs.ixD, Vs.ixO, Vs.forA, Vs.forR1, Vs.forR2, Vs.forL, Vs.stp, Vs.stp2, Vs.meV, Vs.mutV, Vs.vL, Vs.gExt, Vs.gApp, Vs.lstF, Vs.tupE, Vs.slV, Vs.sl3, Vs.slD, Vs.tupD, Vs.sumD, Vs.absD, Vs.intD, Vs.lcR1, Vs.lcR2, Vs.lcL, Vs.forZ, Vs.zipD, Vs.repF, Vs.subS, Vs.gSet, Vs.ixV, Vs.eqD, Vs.neD, Vs.isnD, Vs.isbD, Vs.max2D, Vs.asgT, Vs.clI, Vs.Sl.to, Vs.parO, Vs.asI] at this
      omega
    have g3 := grow_often_eq K hr hv (by simp [Vs.runP, Vs.runI, Vs.io0, Vs.retS, Vs.setS, Vs.setO, Vs.putS, Vs.lf, Vs.sq, Vs.nxt, Vs.ifS, Vs.bnd, Vs.ret, Vs.bad, Vs.opt, Vs.andE, Vs.orE, Vs.notE, Vs.asB, Vs.args, Vs.vV, Vs.vP, Vs.isD, Vs.isO, Vs.tyD, Vs.clD, Vs.kfB, Vs.cl, Vs.b2, Vs.ch, Vs.andT, Vs.orT, Vs.notT, Vs.dropS, Vs.exS, Vs.outB, K74.ite_ev, K74.itA_tup, K74.itA_lst, K74.itA_sq, K74.kit_ii, K74.kit_ib, K74.kit_bi, K74.kit_bb, K74.kit_ni, K74.kit_si, K74.kit_ti, K74.kit_li, K74.kit_di, K74.kit_tt, K74.kit_it, K74.kit_bt, K74.kit_nt, K74.kit_st, K74.kit_lt, K74.kit_dt, Vs.inn, Vs.lend, Vs.unl, Vs.unl1, Vs.fg, Vs.stE, Vs.tg1, Vs.tg2, Vs.ifE, Vs.yes, Vs.frz, Vs.lcAn, Vs.lcM, Vs.allD, Vs.itsL, Vs.lstB, Vs.lenD, Vs.its, Vs.leD, Vs.ltD, Vs.gtD, Vs.geD, Vs.int2, Vs.fB, Vs.fI, Vs.addD, Vs.isI2, Vs.isT2, Vs.subD, Vs.catT, Vs.catL, Vs.ixD, Vs.ixO, Vs.forA, Vs.forR1, Vs.forR2, Vs.forL, Vs.stp, Vs.stp2, Vs.meV, Vs.mutV, Vs.vL, Vs.gExt, Vs.gApp, Vs.lstF, Vs.tupE, Vs.slV, Vs.sl3, Vs.slD, Vs.tupD, Vs.sumD, Vs.absD, Vs.intD, Vs.lcR1, Vs.lcR2, Vs.lcL, Vs.forZ, Vs.zipD, Vs.repF, Vs.subS, Vs.gSet, Vs.ixV, Vs.eqD, Vs.neD, Vs.isnD, Vs.isbD, Vs.max2D, Vs.asgT, Vs.clI, Vs.Sl.to, Vs.parO, Vs.asI]) t0 (by omega)
    rw [gs] at g3
    simp only at g3
    rw [hg] at c6' s5
    have q3 := eqD_int (a := (git rule t.toNat [1 + s]).length) (b := (git rule t.toNat [1 + s]).length) (ev := [.io h2.ds, .sh (RD rule), .sh (.int (1 + s)), .sh (.int t), .sh (.lst (sums rule v 201)), .sh (LD []), .no])
    have w2 : b2 ixD (vV 4) (vV 3) [.io h2.ds, .sh (RD rule), .sh (.int (1 + s)), .sh (.int t), .sh (.lst (sums rule v 201)), .sh (LD []), .no] = .ok (LD (itc rule t.toNat v)) [.io h2.ds, .sh (RD rule), .sh (.int (1 + s)), .sh (.int t), .sh (.lst (sums rule v 201)), .sh (LD []), .no] := ix_sums rfl rfl t0 (by omega)
    have w3 := sum_LD w2
    rw [hs] at w3
    rw [decide_eq_true rfl] at q3
    have c7 := (b2_ok (lenT_ID (cl_val (args_ok (vV_sh (i := 1) rfl) (args_ok (a0 rfl) (args_ok (vV_sh (i := 3) rfl) args_nil))) g3)) w3).trans q3
    exact runI_rt ((sq_nx s1').trans ((sq_nx s2).trans ((sq_nx s3).trans ((sq_nx s4).trans ((sq_nx s5).trans (sq_rt ((ifS_yes c6').trans (retS_ok c7)))))))) rfl
  | cons g r =>
    obtain ⟨hg1, hg2, hg3⟩ := filt_head hg
    rw [hs] at hg2
    have g0' : 1 ≤ g := by
      cases g with
      | zero => simp [Vs.runP, Vs.runI, Vs.io0, Vs.retS, Vs.setS, Vs.setO, Vs.putS, Vs.lf, Vs.sq, Vs.nxt, Vs.ifS, Vs.bnd, Vs.ret, Vs.bad, Vs.opt, Vs.andE, Vs.orE, Vs.notE, Vs.asB, Vs.args, Vs.vV, Vs.vP, Vs.isD, Vs.isO, Vs.tyD, Vs.clD, Vs.kfB, Vs.cl, Vs.b2, Vs.ch, Vs.andT, Vs.orT, Vs.notT, Vs.dropS, Vs.exS, Vs.outB, K74.ite_ev, K74.itA_tup, K74.itA_lst, K74.itA_sq, K74.kit_ii, K74.kit_ib, K74.kit_bi, K74.kit_bb, K74.kit_ni, K74.kit_si, K74.kit_ti, K74.kit_li, K74.kit_di, K74.kit_tt, K74.kit_it, K74.kit_bt, K74.kit_nt, K74.kit_st, K74.kit_lt, K74.kit_dt, Vs.inn, Vs.lend, Vs.unl, Vs.unl1, Vs.fg, Vs.stE, Vs.tg1, Vs.tg2, Vs.ifE, Vs.yes, Vs.frz, Vs.lcAn, Vs.lcM, Vs.allD, Vs.itsL, Vs.lstB, Vs.lenD, Vs.its, Vs.leD, Vs.ltD, Vs.gtD, Vs.geD, Vs.int2, Vs.fB, Vs.fI, Vs.addD, Vs.isI2, Vs.isT2, Vs.subD, Vs.catT, Vs.catL, Vs.ixD, Vs.ixO, Vs.forA, Vs.forR1, Vs.forR2, Vs.forL, Vs.stp, Vs.stp2, Vs.meV, Vs.mutV, Vs.vL, Vs.gExt, Vs.gApp, Vs.lstF, Vs.tupE, Vs.slV, Vs.sl3, Vs.slD, Vs.tupD, Vs.sumD, Vs.absD, Vs.intD, Vs.lcR1, Vs.lcR2, Vs.lcL, Vs.forZ, Vs.zipD, Vs.repF, Vs.subS, Vs.gSet, Vs.ixV, Vs.eqD, Vs.neD, Vs.isnD, Vs.isbD, Vs.max2D, Vs.asgT, Vs.clI, Vs.Sl.to, Vs.parO, Vs.asI, git] at hg2
      | succ g => omega
    have gn : gro rule g [1 + s] = none := gro_none _ _ (g - 1) (by omega) (by
      rw [show g - 1 + 1 = g by omega]
      simp [Vs.runP, Vs.runI, Vs.io0, Vs.retS, Vs.setS, Vs.setO, Vs.putS, Vs.lf, Vs.sq, Vs.nxt, Vs.ifS, Vs.bnd, Vs.ret, Vs.bad, Vs.opt, Vs.andE, Vs.orE, Vs.notE, Vs.asB, Vs.args, Vs.vV, Vs.vP, Vs.isD, Vs.isO, Vs.tyD, Vs.clD, Vs.kfB, Vs.cl, Vs.b2, Vs.ch, Vs.andT, Vs.orT, Vs.notT, Vs.dropS, Vs.exS, Vs.outB, K74.ite_ev, K74.itA_tup, K74.itA_lst, K74.itA_sq, K74.kit_ii, K74.kit_ib, K74.kit_bi, K74.kit_bb, K74.kit_ni, K74.kit_si, K74.kit_ti, K74.kit_li, K74.kit_di, K74.kit_tt, K74.kit_it, K74.kit_bt, K74.kit_nt, K74.kit_st, K74.kit_lt, K74.kit_dt, Vs.inn, Vs.lend, Vs.unl, Vs.unl1, Vs.fg, Vs.stE, Vs.tg1, Vs.tg2, Vs.ifE, Vs.yes, Vs.frz, Vs.lcAn, Vs.lcM, Vs.allD, Vs.itsL, Vs.lstB, Vs.lenD, Vs.its, Vs.leD, Vs.ltD, Vs.gtD, Vs.geD, Vs.int2, Vs.fB, Vs.fI, Vs.addD, Vs.isI2, Vs.isT2, Vs.subD, Vs.catT, Vs.catL, Vs.ixD, Vs.ixO, Vs.forA, Vs.forR1, Vs.forR2, Vs.forL, Vs.stp, Vs.stp2, Vs.meV, Vs.mutV, Vs.vL, Vs.gExt, Vs.gApp, Vs.lstF, Vs.tupE, Vs.slV, Vs.sl3, Vs.slD, Vs.tupD, Vs.sumD, Vs.absD, Vs.intD, Vs.lcR1, Vs.lcR2, Vs.lcL, Vs.forZ, Vs.zipD, Vs.repF, Vs.subS, Vs.gSet, Vs.ixV, Vs.eqD, Vs.neD, Vs.isnD, Vs.isbD, Vs.max2D, Vs.asgT, Vs.clI, Vs.Sl.to, Vs.parO, Vs.asI] at hg2
      omega)
    have gs : gro rule (g - 1) [1 + s] = some (git rule (g - 1) [1 + s]) := gro_some _ _ fun j hj => by
      have := hg3 (j + 1) (by omega)
      rw [hs] at this
      simp [Vs.runP, Vs.runI, Vs.io0, Vs.retS, Vs.setS, Vs.setO, Vs.putS, Vs.lf, Vs.sq, Vs.nxt, Vs.ifS, Vs.bnd, Vs.ret, Vs.bad, Vs.opt, Vs.andE, Vs.orE, Vs.notE, Vs.asB, Vs.args, Vs.vV, Vs.vP, Vs.isD, Vs.isO, Vs.tyD, Vs.clD, Vs.kfB, Vs.cl, Vs.b2, Vs.ch, Vs.andT, Vs.orT, Vs.notT, Vs.dropS, Vs.exS, Vs.outB, K74.ite_ev, K74.itA_tup, K74.itA_lst, K74.itA_sq, K74.kit_ii, K74.kit_ib, K74.kit_bi, K74.kit_bb, K74.kit_ni, K74.kit_si, K74.kit_ti, K74.kit_li, K74.kit_di, K74.kit_tt, K74.kit_it, K74.kit_bt, K74.kit_nt, K74.kit_st, K74.kit_lt, K74.kit_dt, Vs.inn, Vs.lend, Vs.unl, Vs.unl1, Vs.fg, Vs.stE, Vs.tg1, Vs.tg2, Vs.ifE, Vs.yes, Vs.frz, Vs.lcAn, Vs.lcM, Vs.allD, Vs.itsL, Vs.lstB, Vs.lenD, Vs.its, Vs.leD, Vs.ltD, Vs.gtD, Vs.geD, Vs.int2, Vs.fB, Vs.fI, Vs.addD, Vs.isI2, Vs.isT2, Vs.subD, Vs.catT, Vs.catL, Vs.ixD, Vs.ixO, Vs.forA, Vs.forR1, Vs.forR2, Vs.forL, Vs.stp, Vs.stp2, Vs.meV, Vs.mutV, Vs.vL, Vs.gExt, Vs.gApp, Vs.lstF, Vs.tupE, Vs.slV, Vs.sl3, Vs.slD, Vs.tupD, Vs.sumD, Vs.absD, Vs.intD, Vs.lcR1, Vs.lcR2, Vs.lcL, Vs.forZ, Vs.zipD, Vs.repF, Vs.subS, Vs.gSet, Vs.ixV, Vs.eqD, Vs.neD, Vs.isnD, Vs.isbD, Vs.max2D, Vs.asgT, Vs.clI, Vs.Sl.to, Vs.parO, Vs.asI] at this
      omega
    have g3 := grow_often_eq K (t := (g : Int)) hr hv (by simp [Vs.runP, Vs.runI, Vs.io0, Vs.retS, Vs.setS, Vs.setO, Vs.putS, Vs.lf, Vs.sq, Vs.nxt, Vs.ifS, Vs.bnd, Vs.ret, Vs.bad, Vs.opt, Vs.andE, Vs.orE, Vs.notE, Vs.asB, Vs.args, Vs.vV, Vs.vP, Vs.isD, Vs.isO, Vs.tyD, Vs.clD, Vs.kfB, Vs.cl, Vs.b2, Vs.ch, Vs.andT, Vs.orT, Vs.notT, Vs.dropS, Vs.exS, Vs.outB, K74.ite_ev, K74.itA_tup, K74.itA_lst, K74.itA_sq, K74.kit_ii, K74.kit_ib, K74.kit_bi, K74.kit_bb, K74.kit_ni, K74.kit_si, K74.kit_ti, K74.kit_li, K74.kit_di, K74.kit_tt, K74.kit_it, K74.kit_bt, K74.kit_nt, K74.kit_st, K74.kit_lt, K74.kit_dt, Vs.inn, Vs.lend, Vs.unl, Vs.unl1, Vs.fg, Vs.stE, Vs.tg1, Vs.tg2, Vs.ifE, Vs.yes, Vs.frz, Vs.lcAn, Vs.lcM, Vs.allD, Vs.itsL, Vs.lstB, Vs.lenD, Vs.its, Vs.leD, Vs.ltD, Vs.gtD, Vs.geD, Vs.int2, Vs.fB, Vs.fI, Vs.addD, Vs.isI2, Vs.isT2, Vs.subD, Vs.catT, Vs.catL, Vs.ixD, Vs.ixO, Vs.forA, Vs.forR1, Vs.forR2, Vs.forL, Vs.stp, Vs.stp2, Vs.meV, Vs.mutV, Vs.vL, Vs.gExt, Vs.gApp, Vs.lstF, Vs.tupE, Vs.slV, Vs.sl3, Vs.slD, Vs.tupD, Vs.sumD, Vs.absD, Vs.intD, Vs.lcR1, Vs.lcR2, Vs.lcL, Vs.forZ, Vs.zipD, Vs.repF, Vs.subS, Vs.gSet, Vs.ixV, Vs.eqD, Vs.neD, Vs.isnD, Vs.isbD, Vs.max2D, Vs.asgT, Vs.clI, Vs.Sl.to, Vs.parO, Vs.asI]) (by omega) (by omega)
    have g4 := grow_often_eq K (t := (g : Int) - 1) hr hv (by simp [Vs.runP, Vs.runI, Vs.io0, Vs.retS, Vs.setS, Vs.setO, Vs.putS, Vs.lf, Vs.sq, Vs.nxt, Vs.ifS, Vs.bnd, Vs.ret, Vs.bad, Vs.opt, Vs.andE, Vs.orE, Vs.notE, Vs.asB, Vs.args, Vs.vV, Vs.vP, Vs.isD, Vs.isO, Vs.tyD, Vs.clD, Vs.kfB, Vs.cl, Vs.b2, Vs.ch, Vs.andT, Vs.orT, Vs.notT, Vs.dropS, Vs.exS, Vs.outB, K74.ite_ev, K74.itA_tup, K74.itA_lst, K74.itA_sq, K74.kit_ii, K74.kit_ib, K74.kit_bi, K74.kit_bb, K74.kit_ni, K74.kit_si, K74.kit_ti, K74.kit_li, K74.kit_di, K74.kit_tt, K74.kit_it, K74.kit_bt, K74.kit_nt, K74.kit_st, K74.kit_lt, K74.kit_dt, Vs.inn, Vs.lend, Vs.unl, Vs.unl1, Vs.fg, Vs.stE, Vs.tg1, Vs.tg2, Vs.ifE, Vs.yes, Vs.frz, Vs.lcAn, Vs.lcM, Vs.allD, Vs.itsL, Vs.lstB, Vs.lenD, Vs.its, Vs.leD, Vs.ltD, Vs.gtD, Vs.geD, Vs.int2, Vs.fB, Vs.fI, Vs.addD, Vs.isI2, Vs.isT2, Vs.subD, Vs.catT, Vs.catL, Vs.ixD, Vs.ixO, Vs.forA, Vs.forR1, Vs.forR2, Vs.forL, Vs.stp, Vs.stp2, Vs.meV, Vs.mutV, Vs.vL, Vs.gExt, Vs.gApp, Vs.lstF, Vs.tupE, Vs.slV, Vs.sl3, Vs.slD, Vs.tupD, Vs.sumD, Vs.absD, Vs.intD, Vs.lcR1, Vs.lcR2, Vs.lcL, Vs.forZ, Vs.zipD, Vs.repF, Vs.subS, Vs.gSet, Vs.ixV, Vs.eqD, Vs.neD, Vs.isnD, Vs.isbD, Vs.max2D, Vs.asgT, Vs.clI, Vs.Sl.to, Vs.parO, Vs.asI]) (by omega) (by omega)
    rw [show ((g : Int)).toNat = g by omega, gn] at g3
    rw [show ((g : Int) - 1).toNat = g - 1 by omega, gs] at g4
    simp only at g3 g4
    rw [hg] at c6' s5
    rw [decide_eq_false (by simp [Vs.runP, Vs.runI, Vs.io0, Vs.retS, Vs.setS, Vs.setO, Vs.putS, Vs.lf, Vs.sq, Vs.nxt, Vs.ifS, Vs.bnd, Vs.ret, Vs.bad, Vs.opt, Vs.andE, Vs.orE, Vs.notE, Vs.asB, Vs.args, Vs.vV, Vs.vP, Vs.isD, Vs.isO, Vs.tyD, Vs.clD, Vs.kfB, Vs.cl, Vs.b2, Vs.ch, Vs.andT, Vs.orT, Vs.notT, Vs.dropS, Vs.exS, Vs.outB, K74.ite_ev, K74.itA_tup, K74.itA_lst, K74.itA_sq, K74.kit_ii, K74.kit_ib, K74.kit_bi, K74.kit_bb, K74.kit_ni, K74.kit_si, K74.kit_ti, K74.kit_li, K74.kit_di, K74.kit_tt, K74.kit_it, K74.kit_bt, K74.kit_nt, K74.kit_st, K74.kit_lt, K74.kit_dt, Vs.inn, Vs.lend, Vs.unl, Vs.unl1, Vs.fg, Vs.stE, Vs.tg1, Vs.tg2, Vs.ifE, Vs.yes, Vs.frz, Vs.lcAn, Vs.lcM, Vs.allD, Vs.itsL, Vs.lstB, Vs.lenD, Vs.its, Vs.leD, Vs.ltD, Vs.gtD, Vs.geD, Vs.int2, Vs.fB, Vs.fI, Vs.addD, Vs.isI2, Vs.isT2, Vs.subD, Vs.catT, Vs.catL, Vs.ixD, Vs.ixO, Vs.forA, Vs.forR1, Vs.forR2, Vs.forL, Vs.stp, Vs.stp2, Vs.meV, Vs.mutV, Vs.vL, Vs.gExt, Vs.gApp, Vs.lstF, Vs.tupE, Vs.slV, Vs.sl3, Vs.slD, Vs.tupD, Vs.sumD, Vs.absD, Vs.intD, Vs.lcR1, Vs.lcR2, Vs.lcL, Vs.forZ, Vs.zipD, Vs.repF, Vs.subS, Vs.gSet, Vs.ixV, Vs.eqD, Vs.neD, Vs.isnD, Vs.isbD, Vs.max2D, Vs.asgT, Vs.clI, Vs.Sl.to, Vs.parO, Vs.asI])] at c6'
    have c6'' := ifS_no (a := retS (b2 eqD (bnd (cl (r_grow_often K) (args [vV 1, tupE (args [vV 2]), vV 3])) lenD) (bnd (b2 ixD (vV 4) (vV 3)) sumD))) c6'
    generalize hgl : (g :: r).map (fun (k : Nat) => (k : Int)) = gl at c6'' s5
    have hgl' : gl = (g : Int) :: r.map (fun (k : Nat) => (k : Int)) := by rw [← hgl]; rfl
    have w0 : b2 ixD (vV 5) (Vs.ret (.int 0)) [.io h2.ds, .sh (RD rule), .sh (.int (1 + s)), .sh (.int t), .sh (.lst (sums rule v 201)), .sh (LD gl), .no] = .ok (.int g) [.io h2.ds, .sh (RD rule), .sh (.int (1 + s)), .sh (.int t), .sh (.lst (sums rule v 201)), .sh (LD gl), .no] := by
      subst hgl'
      exact ix_LD rfl
    have w1' : b2 subD (b2 ixD (vV 5) (Vs.ret (.int 0))) (Vs.ret (.int 1)) [.io h2.ds, .sh (RD rule), .sh (.int (1 + s)), .sh (.int t), .sh (.lst (sums rule v 201)), .sh (LD gl), .no] = .ok (.int ((g : Int) - 1)) [.io h2.ds, .sh (RD rule), .sh (.int (1 + s)), .sh (.int t), .sh (.lst (sums rule v 201)), .sh (LD gl), .no] := (b2_ok w0 rfl).trans rfl
    have x1 := errM_ok (ev := [.io h2.ds, .sh (RD rule), .sh (.int (1 + s)), .sh (.int t), .sh (.lst (sums rule v 201)), .sh (LD gl), .no]) he (er_many he) (cl_ex (f := r_grow_often K) (fs := args [vV 1, tupE (args [vV 2]), b2 ixD (vV 5) (Vs.ret (.int 0))]) (args_ok (vV_sh rfl) (args_ok (a0 rfl) (args_ok w0 args_nil))) g3)
    have x2 := ifS_no (a := retS (Vs.ret (.bl false))) (asB_ok ((b2_ok x1 rfl).trans (neD_same (by decide +kernel))))
    have w2 : b2 ixD (vV 4) (b2 subD (b2 ixD (vV 5) (Vs.ret (.int 0))) (Vs.ret (.int 1))) [.io h2.ds, .sh (RD rule), .sh (.int (1 + s)), .sh (.int t), .sh (.lst (sums rule v 201)), .sh (LD gl), .no] = .ok (LD (itc rule ((g : Int) - 1).toNat v)) [.io h2.ds, .sh (RD rule), .sh (.int (1 + s)), .sh (.int t), .sh (.lst (sums rule v 201)), .sh (LD gl), .no] := ix_sums rfl w1' (by omega) (by omega)
    have w3 := sum_LD w2
    rw [hs, show ((g : Int) - 1).toNat = g - 1 by omega] at w3
    have q3 := eqD_int (a := (git rule (g - 1) [1 + s]).length) (b := (git rule (g - 1) [1 + s]).length) (ev := [.io h2.ds, .sh (RD rule), .sh (.int (1 + s)), .sh (.int t), .sh (.lst (sums rule v 201)), .sh (LD gl), .no])
    rw [decide_eq_true rfl] at q3
    have c7 := (b2_ok (lenT_ID (cl_val (args_ok (vV_sh (i := 1) rfl) (args_ok (a0 rfl) (args_ok w1' args_nil))) g4)) w3).trans q3
    exact runI_rt ((sq_nx s1').trans ((sq_nx s2).trans ((sq_nx s3).trans ((sq_nx s4).trans ((sq_nx s5).trans ((sq_nx c6'').trans ((sq_nx x2).trans (retS_ok c7)))))))) rfl
end K74
namespace K74
open PySem PySem.Spec PyProof.Rows L2 LamX NdefX HotX Vs






def bentL (ws : List D) (w0 : D) : List D := [.non, .tup [], .lst [w0], .tup (ws ++ [.tup []]), .tup (ws ++ [.tup [.int 1, .int 1, .int 1, .int 1, .int 1]]), .tup (ws ++ [.tup [.int (ws.length + 2)]]), .tup (ws ++ [.tup [.int 0]]),
  .tup (ws ++ [.tup [.bl true]]), .tup (ws ++ [.lst [.int 1]]), .tup (List.replicate 41 (.tup [.int 1])), .tup [.int 1], .str "12", .dic [(.inr "1", .tup [.int 1])], .tup [.tup [.int (-1)]], .tup (ws ++ [.non])]
theorem isRu_app {ws : List D} {w : D} (h : sgD ((ws.length : Int) + 1) 4 w = false ∨ lenD0 w = 0) : isRu (.tup (ws ++ [w])) = false := by
  cases hx : isRu (.tup (ws ++ [w])) with
  | false => rfl
  | true =>
    simp [Vs.runP, Vs.runI, Vs.io0, Vs.retS, Vs.setS, Vs.setO, Vs.putS, Vs.lf, Vs.sq, Vs.nxt, Vs.ifS, Vs.bnd, Vs.ret, Vs.bad, Vs.opt, Vs.andE, Vs.orE, Vs.notE, Vs.asB, Vs.args, Vs.vV, Vs.vP, Vs.isD, Vs.isO, Vs.tyD, Vs.clD, Vs.kfB, Vs.cl, Vs.b2, Vs.ch, Vs.andT, Vs.orT, Vs.notT, Vs.dropS, Vs.exS, Vs.outB, K74.ite_ev, K74.itA_tup, K74.itA_lst, K74.itA_sq, K74.kit_ii, K74.kit_ib, K74.kit_bi, K74.kit_bb, K74.kit_ni, K74.kit_si, K74.kit_ti, K74.kit_li, K74.kit_di, K74.kit_tt, K74.kit_it, K74.kit_bt, K74.kit_nt, K74.kit_st, K74.kit_lt, K74.kit_dt, Vs.inn, Vs.lend, Vs.unl, Vs.unl1, Vs.fg, Vs.stE, Vs.tg1, Vs.tg2, Vs.ifE, Vs.yes, Vs.frz, Vs.lcAn, Vs.lcM, Vs.allD, Vs.itsL, Vs.lstB, Vs.lenD, Vs.its, Vs.leD, Vs.ltD, Vs.gtD, Vs.geD, Vs.int2, Vs.fB, Vs.fI, Vs.addD, Vs.isI2, Vs.isT2, Vs.subD, Vs.catT, Vs.catL, Vs.ixD, Vs.ixO, Vs.forA, Vs.forR1, Vs.forR2, Vs.forL, Vs.stp, Vs.stp2, Vs.meV, Vs.mutV, Vs.vL, Vs.gExt, Vs.gApp, Vs.lstF, Vs.tupE, Vs.slV, Vs.sl3, Vs.slD, Vs.tupD, Vs.sumD, Vs.absD, Vs.intD, Vs.lcR1, Vs.lcR2, Vs.lcL, Vs.forZ, Vs.zipD, Vs.repF, Vs.subS, Vs.gSet, Vs.ixV, Vs.eqD, Vs.neD, Vs.isnD, Vs.isbD, Vs.max2D, Vs.asgT, Vs.clI, Vs.Sl.to, Vs.parO, Vs.asI, isRu] at hx
    obtain ⟨_, _, _, h1, h2⟩ := hx
    rcases h with h | h
    · rw [h] at h1; cases h1
    · omega
theorem bent_bad {rule : List (List Int)} {w0 : List Int} (hr : RuOk rule) (h5 : rule.length ≤ 5) (hw : w0 ∈ rule) : ∀ x ∈ bentL (rule.map ID) (ID w0), Plr x = true ∧ isRu x = false := fun x hx => by
  have hp : ∀ w : D, Pls w = true → Plr (.tup (rule.map ID ++ [w])) = true := fun w hw => by
    have h1 := hr.Plr
    simp [Vs.runP, Vs.runI, Vs.io0, Vs.retS, Vs.setS, Vs.setO, Vs.putS, Vs.lf, Vs.sq, Vs.nxt, Vs.ifS, Vs.bnd, Vs.ret, Vs.bad, Vs.opt, Vs.andE, Vs.orE, Vs.notE, Vs.asB, Vs.args, Vs.vV, Vs.vP, Vs.isD, Vs.isO, Vs.tyD, Vs.clD, Vs.kfB, Vs.cl, Vs.b2, Vs.ch, Vs.andT, Vs.orT, Vs.notT, Vs.dropS, Vs.exS, Vs.outB, K74.ite_ev, K74.itA_tup, K74.itA_lst, K74.itA_sq, K74.kit_ii, K74.kit_ib, K74.kit_bi, K74.kit_bb, K74.kit_ni, K74.kit_si, K74.kit_ti, K74.kit_li, K74.kit_di, K74.kit_tt, K74.kit_it, K74.kit_bt, K74.kit_nt, K74.kit_st, K74.kit_lt, K74.kit_dt, Vs.inn, Vs.lend, Vs.unl, Vs.unl1, Vs.fg, Vs.stE, Vs.tg1, Vs.tg2, Vs.ifE, Vs.yes, Vs.frz, Vs.lcAn, Vs.lcM, Vs.allD, Vs.itsL, Vs.lstB, Vs.lenD, Vs.its, Vs.leD, Vs.ltD, Vs.gtD, Vs.geD, Vs.int2, Vs.fB, Vs.fI, Vs.addD, Vs.isI2, Vs.isT2, Vs.subD, Vs.catT, Vs.catL, Vs.ixD, Vs.ixO, Vs.forA, Vs.forR1, Vs.forR2, Vs.forL, Vs.stp, Vs.stp2, Vs.meV, Vs.mutV, Vs.vL, Vs.gExt, Vs.gApp, Vs.lstF, Vs.tupE, Vs.slV, Vs.sl3, Vs.slD, Vs.tupD, Vs.sumD, Vs.absD, Vs.intD, Vs.lcR1, Vs.lcR2, Vs.lcL, Vs.forZ, Vs.zipD, Vs.repF, Vs.subS, Vs.gSet, Vs.ixV, Vs.eqD, Vs.neD, Vs.isnD, Vs.isbD, Vs.max2D, Vs.asgT, Vs.clI, Vs.Sl.to, Vs.parO, Vs.asI, Plr, RD] at h1 ⊢
    exact ⟨⟨fun a ha => h1.1 a ha, hw⟩, by unfold big; omega⟩
  have b1 : 1 ≤ big := by unfold big; omega
  have b5 : 5 ≤ big := by unfold big; omega
  have b41 : 41 ≤ big := by unfold big; omega
  unfold bentL at hx
  simp only [List.mem_cons, List.mem_nil_iff, or_false] at hx
  rcases hx with rfl | rfl | rfl | rfl | rfl | rfl | rfl | rfl | rfl | rfl | rfl | rfl | rfl | rfl | rfl
  · exact ⟨rfl, rfl⟩
  · exact ⟨by simp [Vs.runP, Vs.runI, Vs.io0, Vs.retS, Vs.setS, Vs.setO, Vs.putS, Vs.lf, Vs.sq, Vs.nxt, Vs.ifS, Vs.bnd, Vs.ret, Vs.bad, Vs.opt, Vs.andE, Vs.orE, Vs.notE, Vs.asB, Vs.args, Vs.vV, Vs.vP, Vs.isD, Vs.isO, Vs.tyD, Vs.clD, Vs.kfB, Vs.cl, Vs.b2, Vs.ch, Vs.andT, Vs.orT, Vs.notT, Vs.dropS, Vs.exS, Vs.outB, K74.ite_ev, K74.itA_tup, K74.itA_lst, K74.itA_sq, K74.kit_ii, K74.kit_ib, K74.kit_bi, K74.kit_bb, K74.kit_ni, K74.kit_si, K74.kit_ti, K74.kit_li, K74.kit_di, K74.kit_tt, K74.kit_it, K74.kit_bt, K74.kit_nt, K74.kit_st, K74.kit_lt, K74.kit_dt, Vs.inn, Vs.lend, Vs.unl, Vs.unl1, Vs.fg, Vs.stE, Vs.tg1, Vs.tg2, Vs.ifE, Vs.yes, Vs.frz, Vs.lcAn, Vs.lcM, Vs.allD, Vs.itsL, Vs.lstB, Vs.lenD, Vs.its, Vs.leD, Vs.ltD, Vs.gtD, Vs.geD, Vs.int2, Vs.fB, Vs.fI, Vs.addD, Vs.isI2, Vs.isT2, Vs.subD, Vs.catT, Vs.catL, Vs.ixD, Vs.ixO, Vs.forA, Vs.forR1, Vs.forR2, Vs.forL, Vs.stp, Vs.stp2, Vs.meV, Vs.mutV, Vs.vL, Vs.gExt, Vs.gApp, Vs.lstF, Vs.tupE, Vs.slV, Vs.sl3, Vs.slD, Vs.tupD, Vs.sumD, Vs.absD, Vs.intD, Vs.lcR1, Vs.lcR2, Vs.lcL, Vs.forZ, Vs.zipD, Vs.repF, Vs.subS, Vs.gSet, Vs.ixV, Vs.eqD, Vs.neD, Vs.isnD, Vs.isbD, Vs.max2D, Vs.asgT, Vs.clI, Vs.Sl.to, Vs.parO, Vs.asI, Plr], rfl⟩
  · exact ⟨rfl, rfl⟩
  · exact ⟨hp _ (by simp [Vs.runP, Vs.runI, Vs.io0, Vs.retS, Vs.setS, Vs.setO, Vs.putS, Vs.lf, Vs.sq, Vs.nxt, Vs.ifS, Vs.bnd, Vs.ret, Vs.bad, Vs.opt, Vs.andE, Vs.orE, Vs.notE, Vs.asB, Vs.args, Vs.vV, Vs.vP, Vs.isD, Vs.isO, Vs.tyD, Vs.clD, Vs.kfB, Vs.cl, Vs.b2, Vs.ch, Vs.andT, Vs.orT, Vs.notT, Vs.dropS, Vs.exS, Vs.outB, K74.ite_ev, K74.itA_tup, K74.itA_lst, K74.itA_sq, K74.kit_ii, K74.kit_ib, K74.kit_bi, K74.kit_bb, K74.kit_ni, K74.kit_si, K74.kit_ti, K74.kit_li, K74.kit_di, K74.kit_tt, K74.kit_it, K74.kit_bt, K74.kit_nt, K74.kit_st, K74.kit_lt, K74.kit_dt, Vs.inn, Vs.lend, Vs.unl, Vs.unl1, Vs.fg, Vs.stE, Vs.tg1, Vs.tg2, Vs.ifE, Vs.yes, Vs.frz, Vs.lcAn, Vs.lcM, Vs.allD, Vs.itsL, Vs.lstB, Vs.lenD, Vs.its, Vs.leD, Vs.ltD, Vs.gtD, Vs.geD, Vs.int2, Vs.fB, Vs.fI, Vs.addD, Vs.isI2, Vs.isT2, Vs.subD, Vs.catT, Vs.catL, Vs.ixD, Vs.ixO, Vs.forA, Vs.forR1, Vs.forR2, Vs.forL, Vs.stp, Vs.stp2, Vs.meV, Vs.mutV, Vs.vL, Vs.gExt, Vs.gApp, Vs.lstF, Vs.tupE, Vs.slV, Vs.sl3, Vs.slD, Vs.tupD, Vs.sumD, Vs.absD, Vs.intD, Vs.lcR1, Vs.lcR2, Vs.lcL, Vs.forZ, Vs.zipD, Vs.repF, Vs.subS, Vs.gSet, Vs.ixV, Vs.eqD, Vs.neD, Vs.isnD, Vs.isbD, Vs.max2D, Vs.asgT, Vs.clI, Vs.Sl.to, Vs.parO, Vs.asI, Pls]), isRu_app (.inr rfl)⟩
  · exact ⟨hp _ (by simp [Vs.runP, Vs.runI, Vs.io0, Vs.retS, Vs.setS, Vs.setO, Vs.putS, Vs.lf, Vs.sq, Vs.nxt, Vs.ifS, Vs.bnd, Vs.ret, Vs.bad, Vs.opt, Vs.andE, Vs.orE, Vs.notE, Vs.asB, Vs.args, Vs.vV, Vs.vP, Vs.isD, Vs.isO, Vs.tyD, Vs.clD, Vs.kfB, Vs.cl, Vs.b2, Vs.ch, Vs.andT, Vs.orT, Vs.notT, Vs.dropS, Vs.exS, Vs.outB, K74.ite_ev, K74.itA_tup, K74.itA_lst, K74.itA_sq, K74.kit_ii, K74.kit_ib, K74.kit_bi, K74.kit_bb, K74.kit_ni, K74.kit_si, K74.kit_ti, K74.kit_li, K74.kit_di, K74.kit_tt, K74.kit_it, K74.kit_bt, K74.kit_nt, K74.kit_st, K74.kit_lt, K74.kit_dt, Vs.inn, Vs.lend, Vs.unl, Vs.unl1, Vs.fg, Vs.stE, Vs.tg1, Vs.tg2, Vs.ifE, Vs.yes, Vs.frz, Vs.lcAn, Vs.lcM, Vs.allD, Vs.itsL, Vs.lstB, Vs.lenD, Vs.its, Vs.leD, Vs.ltD, Vs.gtD, Vs.geD, Vs.int2, Vs.fB, Vs.fI, Vs.addD, Vs.isI2, Vs.isT2, Vs.subD, Vs.catT, Vs.catL, Vs.ixD, Vs.ixO, Vs.forA, Vs.forR1, Vs.forR2, Vs.forL, Vs.stp, Vs.stp2, Vs.meV, Vs.mutV, Vs.vL, Vs.gExt, Vs.gApp, Vs.lstF, Vs.tupE, Vs.slV, Vs.sl3, Vs.slD, Vs.tupD, Vs.sumD, Vs.absD, Vs.intD, Vs.lcR1, Vs.lcR2, Vs.lcL, Vs.forZ, Vs.zipD, Vs.repF, Vs.subS, Vs.gSet, Vs.ixV, Vs.eqD, Vs.neD, Vs.isnD, Vs.isbD, Vs.max2D, Vs.asgT, Vs.clI, Vs.Sl.to, Vs.parO, Vs.asI, Pls, Pl, b5]), isRu_app (.inl (by simp [Vs.runP, Vs.runI, Vs.io0, Vs.retS, Vs.setS, Vs.setO, Vs.putS, Vs.lf, Vs.sq, Vs.nxt, Vs.ifS, Vs.bnd, Vs.ret, Vs.bad, Vs.opt, Vs.andE, Vs.orE, Vs.notE, Vs.asB, Vs.args, Vs.vV, Vs.vP, Vs.isD, Vs.isO, Vs.tyD, Vs.clD, Vs.kfB, Vs.cl, Vs.b2, Vs.ch, Vs.andT, Vs.orT, Vs.notT, Vs.dropS, Vs.exS, Vs.outB, K74.ite_ev, K74.itA_tup, K74.itA_lst, K74.itA_sq, K74.kit_ii, K74.kit_ib, K74.kit_bi, K74.kit_bb, K74.kit_ni, K74.kit_si, K74.kit_ti, K74.kit_li, K74.kit_di, K74.kit_tt, K74.kit_it, K74.kit_bt, K74.kit_nt, K74.kit_st, K74.kit_lt, K74.kit_dt, Vs.inn, Vs.lend, Vs.unl, Vs.unl1, Vs.fg, Vs.stE, Vs.tg1, Vs.tg2, Vs.ifE, Vs.yes, Vs.frz, Vs.lcAn, Vs.lcM, Vs.allD, Vs.itsL, Vs.lstB, Vs.lenD, Vs.its, Vs.leD, Vs.ltD, Vs.gtD, Vs.geD, Vs.int2, Vs.fB, Vs.fI, Vs.addD, Vs.isI2, Vs.isT2, Vs.subD, Vs.catT, Vs.catL, Vs.ixD, Vs.ixO, Vs.forA, Vs.forR1, Vs.forR2, Vs.forL, Vs.stp, Vs.stp2, Vs.meV, Vs.mutV, Vs.vL, Vs.gExt, Vs.gApp, Vs.lstF, Vs.tupE, Vs.slV, Vs.sl3, Vs.slD, Vs.tupD, Vs.sumD, Vs.absD, Vs.intD, Vs.lcR1, Vs.lcR2, Vs.lcL, Vs.forZ, Vs.zipD, Vs.repF, Vs.subS, Vs.gSet, Vs.ixV, Vs.eqD, Vs.neD, Vs.isnD, Vs.isbD, Vs.max2D, Vs.asgT, Vs.clI, Vs.Sl.to, Vs.parO, Vs.asI, sgD]))⟩
  · exact ⟨hp _ (by simp [Vs.runP, Vs.runI, Vs.io0, Vs.retS, Vs.setS, Vs.setO, Vs.putS, Vs.lf, Vs.sq, Vs.nxt, Vs.ifS, Vs.bnd, Vs.ret, Vs.bad, Vs.opt, Vs.andE, Vs.orE, Vs.notE, Vs.asB, Vs.args, Vs.vV, Vs.vP, Vs.isD, Vs.isO, Vs.tyD, Vs.clD, Vs.kfB, Vs.cl, Vs.b2, Vs.ch, Vs.andT, Vs.orT, Vs.notT, Vs.dropS, Vs.exS, Vs.outB, K74.ite_ev, K74.itA_tup, K74.itA_lst, K74.itA_sq, K74.kit_ii, K74.kit_ib, K74.kit_bi, K74.kit_bb, K74.kit_ni, K74.kit_si, K74.kit_ti, K74.kit_li, K74.kit_di, K74.kit_tt, K74.kit_it, K74.kit_bt, K74.kit_nt, K74.kit_st, K74.kit_lt, K74.kit_dt, Vs.inn, Vs.lend, Vs.unl, Vs.unl1, Vs.fg, Vs.stE, Vs.tg1, Vs.tg2, Vs.ifE, Vs.yes, Vs.frz, Vs.lcAn, Vs.lcM, Vs.allD, Vs.itsL, Vs.lstB, Vs.lenD, Vs.its, Vs.leD, Vs.ltD, Vs.gtD, Vs.geD, Vs.int2, Vs.fB, Vs.fI, Vs.addD, Vs.isI2, Vs.isT2, Vs.subD, Vs.catT, Vs.catL, Vs.ixD, Vs.ixO, Vs.forA, Vs.forR1, Vs.forR2, Vs.forL, Vs.stp, Vs.stp2, Vs.meV, Vs.mutV, Vs.vL, Vs.gExt, Vs.gApp, Vs.lstF, Vs.tupE, Vs.slV, Vs.sl3, Vs.slD, Vs.tupD, Vs.sumD, Vs.absD, Vs.intD, Vs.lcR1, Vs.lcR2, Vs.lcL, Vs.forZ, Vs.zipD, Vs.repF, Vs.subS, Vs.gSet, Vs.ixV, Vs.eqD, Vs.neD, Vs.isnD, Vs.isbD, Vs.max2D, Vs.asgT, Vs.clI, Vs.Sl.to, Vs.parO, Vs.asI, Pls, Pl, b1]), isRu_app (.inl (by simp [Vs.runP, Vs.runI, Vs.io0, Vs.retS, Vs.setS, Vs.setO, Vs.putS, Vs.lf, Vs.sq, Vs.nxt, Vs.ifS, Vs.bnd, Vs.ret, Vs.bad, Vs.opt, Vs.andE, Vs.orE, Vs.notE, Vs.asB, Vs.args, Vs.vV, Vs.vP, Vs.isD, Vs.isO, Vs.tyD, Vs.clD, Vs.kfB, Vs.cl, Vs.b2, Vs.ch, Vs.andT, Vs.orT, Vs.notT, Vs.dropS, Vs.exS, Vs.outB, K74.ite_ev, K74.itA_tup, K74.itA_lst, K74.itA_sq, K74.kit_ii, K74.kit_ib, K74.kit_bi, K74.kit_bb, K74.kit_ni, K74.kit_si, K74.kit_ti, K74.kit_li, K74.kit_di, K74.kit_tt, K74.kit_it, K74.kit_bt, K74.kit_nt, K74.kit_st, K74.kit_lt, K74.kit_dt, Vs.inn, Vs.lend, Vs.unl, Vs.unl1, Vs.fg, Vs.stE, Vs.tg1, Vs.tg2, Vs.ifE, Vs.yes, Vs.frz, Vs.lcAn, Vs.lcM, Vs.allD, Vs.itsL, Vs.lstB, Vs.lenD, Vs.its, Vs.leD, Vs.ltD, Vs.gtD, Vs.geD, Vs.int2, Vs.fB, Vs.fI, Vs.addD, Vs.isI2, Vs.isT2, Vs.subD, Vs.catT, Vs.catL, Vs.ixD, Vs.ixO, Vs.forA, Vs.forR1, Vs.forR2, Vs.forL, Vs.stp, Vs.stp2, Vs.meV, Vs.mutV, Vs.vL, Vs.gExt, Vs.gApp, Vs.lstF, Vs.tupE, Vs.slV, Vs.sl3, Vs.slD, Vs.tupD, Vs.sumD, Vs.absD, Vs.intD, Vs.lcR1, Vs.lcR2, Vs.lcL, Vs.forZ, Vs.zipD, Vs.repF, Vs.subS, Vs.gSet, Vs.ixV, Vs.eqD, Vs.neD, Vs.isnD, Vs.isbD, Vs.max2D, Vs.asgT, Vs.clI, Vs.Sl.to, Vs.parO, Vs.asI, sgD, inR]))⟩
  · exact ⟨hp _ (by simp [Vs.runP, Vs.runI, Vs.io0, Vs.retS, Vs.setS, Vs.setO, Vs.putS, Vs.lf, Vs.sq, Vs.nxt, Vs.ifS, Vs.bnd, Vs.ret, Vs.bad, Vs.opt, Vs.andE, Vs.orE, Vs.notE, Vs.asB, Vs.args, Vs.vV, Vs.vP, Vs.isD, Vs.isO, Vs.tyD, Vs.clD, Vs.kfB, Vs.cl, Vs.b2, Vs.ch, Vs.andT, Vs.orT, Vs.notT, Vs.dropS, Vs.exS, Vs.outB, K74.ite_ev, K74.itA_tup, K74.itA_lst, K74.itA_sq, K74.kit_ii, K74.kit_ib, K74.kit_bi, K74.kit_bb, K74.kit_ni, K74.kit_si, K74.kit_ti, K74.kit_li, K74.kit_di, K74.kit_tt, K74.kit_it, K74.kit_bt, K74.kit_nt, K74.kit_st, K74.kit_lt, K74.kit_dt, Vs.inn, Vs.lend, Vs.unl, Vs.unl1, Vs.fg, Vs.stE, Vs.tg1, Vs.tg2, Vs.ifE, Vs.yes, Vs.frz, Vs.lcAn, Vs.lcM, Vs.allD, Vs.itsL, Vs.lstB, Vs.lenD, Vs.its, Vs.leD, Vs.ltD, Vs.gtD, Vs.geD, Vs.int2, Vs.fB, Vs.fI, Vs.addD, Vs.isI2, Vs.isT2, Vs.subD, Vs.catT, Vs.catL, Vs.ixD, Vs.ixO, Vs.forA, Vs.forR1, Vs.forR2, Vs.forL, Vs.stp, Vs.stp2, Vs.meV, Vs.mutV, Vs.vL, Vs.gExt, Vs.gApp, Vs.lstF, Vs.tupE, Vs.slV, Vs.sl3, Vs.slD, Vs.tupD, Vs.sumD, Vs.absD, Vs.intD, Vs.lcR1, Vs.lcR2, Vs.lcL, Vs.forZ, Vs.zipD, Vs.repF, Vs.subS, Vs.gSet, Vs.ixV, Vs.eqD, Vs.neD, Vs.isnD, Vs.isbD, Vs.max2D, Vs.asgT, Vs.clI, Vs.Sl.to, Vs.parO, Vs.asI, Pls, Pl, b1]), isRu_app (.inl (by simp [Vs.runP, Vs.runI, Vs.io0, Vs.retS, Vs.setS, Vs.setO, Vs.putS, Vs.lf, Vs.sq, Vs.nxt, Vs.ifS, Vs.bnd, Vs.ret, Vs.bad, Vs.opt, Vs.andE, Vs.orE, Vs.notE, Vs.asB, Vs.args, Vs.vV, Vs.vP, Vs.isD, Vs.isO, Vs.tyD, Vs.clD, Vs.kfB, Vs.cl, Vs.b2, Vs.ch, Vs.andT, Vs.orT, Vs.notT, Vs.dropS, Vs.exS, Vs.outB, K74.ite_ev, K74.itA_tup, K74.itA_lst, K74.itA_sq, K74.kit_ii, K74.kit_ib, K74.kit_bi, K74.kit_bb, K74.kit_ni, K74.kit_si, K74.kit_ti, K74.kit_li, K74.kit_di, K74.kit_tt, K74.kit_it, K74.kit_bt, K74.kit_nt, K74.kit_st, K74.kit_lt, K74.kit_dt, Vs.inn, Vs.lend, Vs.unl, Vs.unl1, Vs.fg, Vs.stE, Vs.tg1, Vs.tg2, Vs.ifE, Vs.yes, Vs.frz, Vs.lcAn, Vs.lcM, Vs.allD, Vs.itsL, Vs.lstB, Vs.lenD, Vs.its, Vs.leD, Vs.ltD, Vs.gtD, Vs.geD, Vs.int2, Vs.fB, Vs.fI, Vs.addD, Vs.isI2, Vs.isT2, Vs.subD, Vs.catT, Vs.catL, Vs.ixD, Vs.ixO, Vs.forA, Vs.forR1, Vs.forR2, Vs.forL, Vs.stp, Vs.stp2, Vs.meV, Vs.mutV, Vs.vL, Vs.gExt, Vs.gApp, Vs.lstF, Vs.tupE, Vs.slV, Vs.sl3, Vs.slD, Vs.tupD, Vs.sumD, Vs.absD, Vs.intD, Vs.lcR1, Vs.lcR2, Vs.lcL, Vs.forZ, Vs.zipD, Vs.repF, Vs.subS, Vs.gSet, Vs.ixV, Vs.eqD, Vs.neD, Vs.isnD, Vs.isbD, Vs.max2D, Vs.asgT, Vs.clI, Vs.Sl.to, Vs.parO, Vs.asI, sgD, inR]))⟩
  · exact ⟨hp _ (by simp [Vs.runP, Vs.runI, Vs.io0, Vs.retS, Vs.setS, Vs.setO, Vs.putS, Vs.lf, Vs.sq, Vs.nxt, Vs.ifS, Vs.bnd, Vs.ret, Vs.bad, Vs.opt, Vs.andE, Vs.orE, Vs.notE, Vs.asB, Vs.args, Vs.vV, Vs.vP, Vs.isD, Vs.isO, Vs.tyD, Vs.clD, Vs.kfB, Vs.cl, Vs.b2, Vs.ch, Vs.andT, Vs.orT, Vs.notT, Vs.dropS, Vs.exS, Vs.outB, K74.ite_ev, K74.itA_tup, K74.itA_lst, K74.itA_sq, K74.kit_ii, K74.kit_ib, K74.kit_bi, K74.kit_bb, K74.kit_ni, K74.kit_si, K74.kit_ti, K74.kit_li, K74.kit_di, K74.kit_tt, K74.kit_it, K74.kit_bt, K74.kit_nt, K74.kit_st, K74.kit_lt, K74.kit_dt, Vs.inn, Vs.lend, Vs.unl, Vs.unl1, Vs.fg, Vs.stE, Vs.tg1, Vs.tg2, Vs.ifE, Vs.yes, Vs.frz, Vs.lcAn, Vs.lcM, Vs.allD, Vs.itsL, Vs.lstB, Vs.lenD, Vs.its, Vs.leD, Vs.ltD, Vs.gtD, Vs.geD, Vs.int2, Vs.fB, Vs.fI, Vs.addD, Vs.isI2, Vs.isT2, Vs.subD, Vs.catT, Vs.catL, Vs.ixD, Vs.ixO, Vs.forA, Vs.forR1, Vs.forR2, Vs.forL, Vs.stp, Vs.stp2, Vs.meV, Vs.mutV, Vs.vL, Vs.gExt, Vs.gApp, Vs.lstF, Vs.tupE, Vs.slV, Vs.sl3, Vs.slD, Vs.tupD, Vs.sumD, Vs.absD, Vs.intD, Vs.lcR1, Vs.lcR2, Vs.lcL, Vs.forZ, Vs.zipD, Vs.repF, Vs.subS, Vs.gSet, Vs.ixV, Vs.eqD, Vs.neD, Vs.isnD, Vs.isbD, Vs.max2D, Vs.asgT, Vs.clI, Vs.Sl.to, Vs.parO, Vs.asI, Pls, Pl, b1]), isRu_app (.inl (by simp [Vs.runP, Vs.runI, Vs.io0, Vs.retS, Vs.setS, Vs.setO, Vs.putS, Vs.lf, Vs.sq, Vs.nxt, Vs.ifS, Vs.bnd, Vs.ret, Vs.bad, Vs.opt, Vs.andE, Vs.orE, Vs.notE, Vs.asB, Vs.args, Vs.vV, Vs.vP, Vs.isD, Vs.isO, Vs.tyD, Vs.clD, Vs.kfB, Vs.cl, Vs.b2, Vs.ch, Vs.andT, Vs.orT, Vs.notT, Vs.dropS, Vs.exS, Vs.outB, K74.ite_ev, K74.itA_tup, K74.itA_lst, K74.itA_sq, K74.kit_ii, K74.kit_ib, K74.kit_bi, K74.kit_bb, K74.kit_ni, K74.kit_si, K74.kit_ti, K74.kit_li, K74.kit_di, K74.kit_tt, K74.kit_it, K74.kit_bt, K74.kit_nt, K74.kit_st, K74.kit_lt, K74.kit_dt, Vs.inn, Vs.lend, Vs.unl, Vs.unl1, Vs.fg, Vs.stE, Vs.tg1, Vs.tg2, Vs.ifE, Vs.yes, Vs.frz, Vs.lcAn, Vs.lcM, Vs.allD, Vs.itsL, Vs.lstB, Vs.lenD, Vs.its, Vs.leD, Vs.ltD, Vs.gtD, Vs.geD, Vs.int2, Vs.fB, Vs.fI, Vs.addD, Vs.isI2, Vs.isT2, Vs.subD, Vs.catT, Vs.catL, Vs.ixD, Vs.ixO, Vs.forA, Vs.forR1, Vs.forR2, Vs.forL, Vs.stp, Vs.stp2, Vs.meV, Vs.mutV, Vs.vL, Vs.gExt, Vs.gApp, Vs.lstF, Vs.tupE, Vs.slV, Vs.sl3, Vs.slD, Vs.tupD, Vs.sumD, Vs.absD, Vs.intD, Vs.lcR1, Vs.lcR2, Vs.lcL, Vs.forZ, Vs.zipD, Vs.repF, Vs.subS, Vs.gSet, Vs.ixV, Vs.eqD, Vs.neD, Vs.isnD, Vs.isbD, Vs.max2D, Vs.asgT, Vs.clI, Vs.Sl.to, Vs.parO, Vs.asI, sgD, inR]))⟩
  · exact ⟨hp _ (by simp [Vs.runP, Vs.runI, Vs.io0, Vs.retS, Vs.setS, Vs.setO, Vs.putS, Vs.lf, Vs.sq, Vs.nxt, Vs.ifS, Vs.bnd, Vs.ret, Vs.bad, Vs.opt, Vs.andE, Vs.orE, Vs.notE, Vs.asB, Vs.args, Vs.vV, Vs.vP, Vs.isD, Vs.isO, Vs.tyD, Vs.clD, Vs.kfB, Vs.cl, Vs.b2, Vs.ch, Vs.andT, Vs.orT, Vs.notT, Vs.dropS, Vs.exS, Vs.outB, K74.ite_ev, K74.itA_tup, K74.itA_lst, K74.itA_sq, K74.kit_ii, K74.kit_ib, K74.kit_bi, K74.kit_bb, K74.kit_ni, K74.kit_si, K74.kit_ti, K74.kit_li, K74.kit_di, K74.kit_tt, K74.kit_it, K74.kit_bt, K74.kit_nt, K74.kit_st, K74.kit_lt, K74.kit_dt, Vs.inn, Vs.lend, Vs.unl, Vs.unl1, Vs.fg, Vs.stE, Vs.tg1, Vs.tg2, Vs.ifE, Vs.yes, Vs.frz, Vs.lcAn, Vs.lcM, Vs.allD, Vs.itsL, Vs.lstB, Vs.lenD, Vs.its, Vs.leD, Vs.ltD, Vs.gtD, Vs.geD, Vs.int2, Vs.fB, Vs.fI, Vs.addD, Vs.isI2, Vs.isT2, Vs.subD, Vs.catT, Vs.catL, Vs.ixD, Vs.ixO, Vs.forA, Vs.forR1, Vs.forR2, Vs.forL, Vs.stp, Vs.stp2, Vs.meV, Vs.mutV, Vs.vL, Vs.gExt, Vs.gApp, Vs.lstF, Vs.tupE, Vs.slV, Vs.sl3, Vs.slD, Vs.tupD, Vs.sumD, Vs.absD, Vs.intD, Vs.lcR1, Vs.lcR2, Vs.lcL, Vs.forZ, Vs.zipD, Vs.repF, Vs.subS, Vs.gSet, Vs.ixV, Vs.eqD, Vs.neD, Vs.isnD, Vs.isbD, Vs.max2D, Vs.asgT, Vs.clI, Vs.Sl.to, Vs.parO, Vs.asI, Pls, Pl]), isRu_app (.inl (by simp [Vs.runP, Vs.runI, Vs.io0, Vs.retS, Vs.setS, Vs.setO, Vs.putS, Vs.lf, Vs.sq, Vs.nxt, Vs.ifS, Vs.bnd, Vs.ret, Vs.bad, Vs.opt, Vs.andE, Vs.orE, Vs.notE, Vs.asB, Vs.args, Vs.vV, Vs.vP, Vs.isD, Vs.isO, Vs.tyD, Vs.clD, Vs.kfB, Vs.cl, Vs.b2, Vs.ch, Vs.andT, Vs.orT, Vs.notT, Vs.dropS, Vs.exS, Vs.outB, K74.ite_ev, K74.itA_tup, K74.itA_lst, K74.itA_sq, K74.kit_ii, K74.kit_ib, K74.kit_bi, K74.kit_bb, K74.kit_ni, K74.kit_si, K74.kit_ti, K74.kit_li, K74.kit_di, K74.kit_tt, K74.kit_it, K74.kit_bt, K74.kit_nt, K74.kit_st, K74.kit_lt, K74.kit_dt, Vs.inn, Vs.lend, Vs.unl, Vs.unl1, Vs.fg, Vs.stE, Vs.tg1, Vs.tg2, Vs.ifE, Vs.yes, Vs.frz, Vs.lcAn, Vs.lcM, Vs.allD, Vs.itsL, Vs.lstB, Vs.lenD, Vs.its, Vs.leD, Vs.ltD, Vs.gtD, Vs.geD, Vs.int2, Vs.fB, Vs.fI, Vs.addD, Vs.isI2, Vs.isT2, Vs.subD, Vs.catT, Vs.catL, Vs.ixD, Vs.ixO, Vs.forA, Vs.forR1, Vs.forR2, Vs.forL, Vs.stp, Vs.stp2, Vs.meV, Vs.mutV, Vs.vL, Vs.gExt, Vs.gApp, Vs.lstF, Vs.tupE, Vs.slV, Vs.sl3, Vs.slD, Vs.tupD, Vs.sumD, Vs.absD, Vs.intD, Vs.lcR1, Vs.lcR2, Vs.lcL, Vs.forZ, Vs.zipD, Vs.repF, Vs.subS, Vs.gSet, Vs.ixV, Vs.eqD, Vs.neD, Vs.isnD, Vs.isbD, Vs.max2D, Vs.asgT, Vs.clI, Vs.Sl.to, Vs.parO, Vs.asI, sgD]))⟩
  · exact ⟨by simp [Vs.runP, Vs.runI, Vs.io0, Vs.retS, Vs.setS, Vs.setO, Vs.putS, Vs.lf, Vs.sq, Vs.nxt, Vs.ifS, Vs.bnd, Vs.ret, Vs.bad, Vs.opt, Vs.andE, Vs.orE, Vs.notE, Vs.asB, Vs.args, Vs.vV, Vs.vP, Vs.isD, Vs.isO, Vs.tyD, Vs.clD, Vs.kfB, Vs.cl, Vs.b2, Vs.ch, Vs.andT, Vs.orT, Vs.notT, Vs.dropS, Vs.exS, Vs.outB, K74.ite_ev, K74.itA_tup, K74.itA_lst, K74.itA_sq, K74.kit_ii, K74.kit_ib, K74.kit_bi, K74.kit_bb, K74.kit_ni, K74.kit_si, K74.kit_ti, K74.kit_li, K74.kit_di, K74.kit_tt, K74.kit_it, K74.kit_bt, K74.kit_nt, K74.kit_st, K74.kit_lt, K74.kit_dt, Vs.inn, Vs.lend, Vs.unl, Vs.unl1, Vs.fg, Vs.stE, Vs.tg1, Vs.tg2, Vs.ifE, Vs.yes, Vs.frz, Vs.lcAn, Vs.lcM, Vs.allD, Vs.itsL, Vs.lstB, Vs.lenD, Vs.its, Vs.leD, Vs.ltD, Vs.gtD, Vs.geD, Vs.int2, Vs.fB, Vs.fI, Vs.addD, Vs.isI2, Vs.isT2, Vs.subD, Vs.catT, Vs.catL, Vs.ixD, Vs.ixO, Vs.forA, Vs.forR1, Vs.forR2, Vs.forL, Vs.stp, Vs.stp2, Vs.meV, Vs.mutV, Vs.vL, Vs.gExt, Vs.gApp, Vs.lstF, Vs.tupE, Vs.slV, Vs.sl3, Vs.slD, Vs.tupD, Vs.sumD, Vs.absD, Vs.intD, Vs.lcR1, Vs.lcR2, Vs.lcL, Vs.forZ, Vs.zipD, Vs.repF, Vs.subS, Vs.gSet, Vs.ixV, Vs.eqD, Vs.neD, Vs.isnD, Vs.isbD, Vs.max2D, Vs.asgT, Vs.clI, Vs.Sl.to, Vs.parO, Vs.asI, Plr, Pls, Pl, b1, b41], by simp [Vs.runP, Vs.runI, Vs.io0, Vs.retS, Vs.setS, Vs.setO, Vs.putS, Vs.lf, Vs.sq, Vs.nxt, Vs.ifS, Vs.bnd, Vs.ret, Vs.bad, Vs.opt, Vs.andE, Vs.orE, Vs.notE, Vs.asB, Vs.args, Vs.vV, Vs.vP, Vs.isD, Vs.isO, Vs.tyD, Vs.clD, Vs.kfB, Vs.cl, Vs.b2, Vs.ch, Vs.andT, Vs.orT, Vs.notT, Vs.dropS, Vs.exS, Vs.outB, K74.ite_ev, K74.itA_tup, K74.itA_lst, K74.itA_sq, K74.kit_ii, K74.kit_ib, K74.kit_bi, K74.kit_bb, K74.kit_ni, K74.kit_si, K74.kit_ti, K74.kit_li, K74.kit_di, K74.kit_tt, K74.kit_it, K74.kit_bt, K74.kit_nt, K74.kit_st, K74.kit_lt, K74.kit_dt, Vs.inn, Vs.lend, Vs.unl, Vs.unl1, Vs.fg, Vs.stE, Vs.tg1, Vs.tg2, Vs.ifE, Vs.yes, Vs.frz, Vs.lcAn, Vs.lcM, Vs.allD, Vs.itsL, Vs.lstB, Vs.lenD, Vs.its, Vs.leD, Vs.ltD, Vs.gtD, Vs.geD, Vs.int2, Vs.fB, Vs.fI, Vs.addD, Vs.isI2, Vs.isT2, Vs.subD, Vs.catT, Vs.catL, Vs.ixD, Vs.ixO, Vs.forA, Vs.forR1, Vs.forR2, Vs.forL, Vs.stp, Vs.stp2, Vs.meV, Vs.mutV, Vs.vL, Vs.gExt, Vs.gApp, Vs.lstF, Vs.tupE, Vs.slV, Vs.sl3, Vs.slD, Vs.tupD, Vs.sumD, Vs.absD, Vs.intD, Vs.lcR1, Vs.lcR2, Vs.lcL, Vs.forZ, Vs.zipD, Vs.repF, Vs.subS, Vs.gSet, Vs.ixV, Vs.eqD, Vs.neD, Vs.isnD, Vs.isbD, Vs.max2D, Vs.asgT, Vs.clI, Vs.Sl.to, Vs.parO, Vs.asI, isRu]⟩
  · exact ⟨by simp [Vs.runP, Vs.runI, Vs.io0, Vs.retS, Vs.setS, Vs.setO, Vs.putS, Vs.lf, Vs.sq, Vs.nxt, Vs.ifS, Vs.bnd, Vs.ret, Vs.bad, Vs.opt, Vs.andE, Vs.orE, Vs.notE, Vs.asB, Vs.args, Vs.vV, Vs.vP, Vs.isD, Vs.isO, Vs.tyD, Vs.clD, Vs.kfB, Vs.cl, Vs.b2, Vs.ch, Vs.andT, Vs.orT, Vs.notT, Vs.dropS, Vs.exS, Vs.outB, K74.ite_ev, K74.itA_tup, K74.itA_lst, K74.itA_sq, K74.kit_ii, K74.kit_ib, K74.kit_bi, K74.kit_bb, K74.kit_ni, K74.kit_si, K74.kit_ti, K74.kit_li, K74.kit_di, K74.kit_tt, K74.kit_it, K74.kit_bt, K74.kit_nt, K74.kit_st, K74.kit_lt, K74.kit_dt, Vs.inn, Vs.lend, Vs.unl, Vs.unl1, Vs.fg, Vs.stE, Vs.tg1, Vs.tg2, Vs.ifE, Vs.yes, Vs.frz, Vs.lcAn, Vs.lcM, Vs.allD, Vs.itsL, Vs.lstB, Vs.lenD, Vs.its, Vs.leD, Vs.ltD, Vs.gtD, Vs.geD, Vs.int2, Vs.fB, Vs.fI, Vs.addD, Vs.isI2, Vs.isT2, Vs.subD, Vs.catT, Vs.catL, Vs.ixD, Vs.ixO, Vs.forA, Vs.forR1, Vs.forR2, Vs.forL, Vs.stp, Vs.stp2, Vs.meV, Vs.mutV, Vs.vL, Vs.gExt, Vs.gApp, Vs.lstF, Vs.tupE, Vs.slV, Vs.sl3, Vs.slD, Vs.tupD, Vs.sumD, Vs.absD, Vs.intD, Vs.lcR1, Vs.lcR2, Vs.lcL, Vs.forZ, Vs.zipD, Vs.repF, Vs.subS, Vs.gSet, Vs.ixV, Vs.eqD, Vs.neD, Vs.isnD, Vs.isbD, Vs.max2D, Vs.asgT, Vs.clI, Vs.Sl.to, Vs.parO, Vs.asI, Plr, Pls, Pl, b1], by simp [Vs.runP, Vs.runI, Vs.io0, Vs.retS, Vs.setS, Vs.setO, Vs.putS, Vs.lf, Vs.sq, Vs.nxt, Vs.ifS, Vs.bnd, Vs.ret, Vs.bad, Vs.opt, Vs.andE, Vs.orE, Vs.notE, Vs.asB, Vs.args, Vs.vV, Vs.vP, Vs.isD, Vs.isO, Vs.tyD, Vs.clD, Vs.kfB, Vs.cl, Vs.b2, Vs.ch, Vs.andT, Vs.orT, Vs.notT, Vs.dropS, Vs.exS, Vs.outB, K74.ite_ev, K74.itA_tup, K74.itA_lst, K74.itA_sq, K74.kit_ii, K74.kit_ib, K74.kit_bi, K74.kit_bb, K74.kit_ni, K74.kit_si, K74.kit_ti, K74.kit_li, K74.kit_di, K74.kit_tt, K74.kit_it, K74.kit_bt, K74.kit_nt, K74.kit_st, K74.kit_lt, K74.kit_dt, Vs.inn, Vs.lend, Vs.unl, Vs.unl1, Vs.fg, Vs.stE, Vs.tg1, Vs.tg2, Vs.ifE, Vs.yes, Vs.frz, Vs.lcAn, Vs.lcM, Vs.allD, Vs.itsL, Vs.lstB, Vs.lenD, Vs.its, Vs.leD, Vs.ltD, Vs.gtD, Vs.geD, Vs.int2, Vs.fB, Vs.fI, Vs.addD, Vs.isI2, Vs.isT2, Vs.subD, Vs.catT, Vs.catL, Vs.ixD, Vs.ixO, Vs.forA, Vs.forR1, Vs.forR2, Vs.forL, Vs.stp, Vs.stp2, Vs.meV, Vs.mutV, Vs.vL, Vs.gExt, Vs.gApp, Vs.lstF, Vs.tupE, Vs.slV, Vs.sl3, Vs.slD, Vs.tupD, Vs.sumD, Vs.absD, Vs.intD, Vs.lcR1, Vs.lcR2, Vs.lcL, Vs.forZ, Vs.zipD, Vs.repF, Vs.subS, Vs.gSet, Vs.ixV, Vs.eqD, Vs.neD, Vs.isnD, Vs.isbD, Vs.max2D, Vs.asgT, Vs.clI, Vs.Sl.to, Vs.parO, Vs.asI, isRu, sgD]⟩
  · exact ⟨rfl, rfl⟩
  · exact ⟨rfl, rfl⟩
  · exact ⟨by simp [Vs.runP, Vs.runI, Vs.io0, Vs.retS, Vs.setS, Vs.setO, Vs.putS, Vs.lf, Vs.sq, Vs.nxt, Vs.ifS, Vs.bnd, Vs.ret, Vs.bad, Vs.opt, Vs.andE, Vs.orE, Vs.notE, Vs.asB, Vs.args, Vs.vV, Vs.vP, Vs.isD, Vs.isO, Vs.tyD, Vs.clD, Vs.kfB, Vs.cl, Vs.b2, Vs.ch, Vs.andT, Vs.orT, Vs.notT, Vs.dropS, Vs.exS, Vs.outB, K74.ite_ev, K74.itA_tup, K74.itA_lst, K74.itA_sq, K74.kit_ii, K74.kit_ib, K74.kit_bi, K74.kit_bb, K74.kit_ni, K74.kit_si, K74.kit_ti, K74.kit_li, K74.kit_di, K74.kit_tt, K74.kit_it, K74.kit_bt, K74.kit_nt, K74.kit_st, K74.kit_lt, K74.kit_dt, Vs.inn, Vs.lend, Vs.unl, Vs.unl1, Vs.fg, Vs.stE, Vs.tg1, Vs.tg2, Vs.ifE, Vs.yes, Vs.frz, Vs.lcAn, Vs.lcM, Vs.allD, Vs.itsL, Vs.lstB, Vs.lenD, Vs.its, Vs.leD, Vs.ltD, Vs.gtD, Vs.geD, Vs.int2, Vs.fB, Vs.fI, Vs.addD, Vs.isI2, Vs.isT2, Vs.subD, Vs.catT, Vs.catL, Vs.ixD, Vs.ixO, Vs.forA, Vs.forR1, Vs.forR2, Vs.forL, Vs.stp, Vs.stp2, Vs.meV, Vs.mutV, Vs.vL, Vs.gExt, Vs.gApp, Vs.lstF, Vs.tupE, Vs.slV, Vs.sl3, Vs.slD, Vs.tupD, Vs.sumD, Vs.absD, Vs.intD, Vs.lcR1, Vs.lcR2, Vs.lcL, Vs.forZ, Vs.zipD, Vs.repF, Vs.subS, Vs.gSet, Vs.ixV, Vs.eqD, Vs.neD, Vs.isnD, Vs.isbD, Vs.max2D, Vs.asgT, Vs.clI, Vs.Sl.to, Vs.parO, Vs.asI, Plr, Pls, Pl, b1], by simp [Vs.runP, Vs.runI, Vs.io0, Vs.retS, Vs.setS, Vs.setO, Vs.putS, Vs.lf, Vs.sq, Vs.nxt, Vs.ifS, Vs.bnd, Vs.ret, Vs.bad, Vs.opt, Vs.andE, Vs.orE, Vs.notE, Vs.asB, Vs.args, Vs.vV, Vs.vP, Vs.isD, Vs.isO, Vs.tyD, Vs.clD, Vs.kfB, Vs.cl, Vs.b2, Vs.ch, Vs.andT, Vs.orT, Vs.notT, Vs.dropS, Vs.exS, Vs.outB, K74.ite_ev, K74.itA_tup, K74.itA_lst, K74.itA_sq, K74.kit_ii, K74.kit_ib, K74.kit_bi, K74.kit_bb, K74.kit_ni, K74.kit_si, K74.kit_ti, K74.kit_li, K74.kit_di, K74.kit_tt, K74.kit_it, K74.kit_bt, K74.kit_nt, K74.kit_st, K74.kit_lt, K74.kit_dt, Vs.inn, Vs.lend, Vs.unl, Vs.unl1, Vs.fg, Vs.stE, Vs.tg1, Vs.tg2, Vs.ifE, Vs.yes, Vs.frz, Vs.lcAn, Vs.lcM, Vs.allD, Vs.itsL, Vs.lstB, Vs.lenD, Vs.its, Vs.leD, Vs.ltD, Vs.gtD, Vs.geD, Vs.int2, Vs.fB, Vs.fI, Vs.addD, Vs.isI2, Vs.isT2, Vs.subD, Vs.catT, Vs.catL, Vs.ixD, Vs.ixO, Vs.forA, Vs.forR1, Vs.forR2, Vs.forL, Vs.stp, Vs.stp2, Vs.meV, Vs.mutV, Vs.vL, Vs.gExt, Vs.gApp, Vs.lstF, Vs.tupE, Vs.slV, Vs.sl3, Vs.slD, Vs.tupD, Vs.sumD, Vs.absD, Vs.intD, Vs.lcR1, Vs.lcR2, Vs.lcL, Vs.forZ, Vs.zipD, Vs.repF, Vs.subS, Vs.gSet, Vs.ixV, Vs.eqD, Vs.neD, Vs.isnD, Vs.isbD, Vs.max2D, Vs.asgT, Vs.clI, Vs.Sl.to, Vs.parO, Vs.asI, isRu, sgD, inR]⟩
  · exact ⟨hp _ (by simp [Vs.runP, Vs.runI, Vs.io0, Vs.retS, Vs.setS, Vs.setO, Vs.putS, Vs.lf, Vs.sq, Vs.nxt, Vs.ifS, Vs.bnd, Vs.ret, Vs.bad, Vs.opt, Vs.andE, Vs.orE, Vs.notE, Vs.asB, Vs.args, Vs.vV, Vs.vP, Vs.isD, Vs.isO, Vs.tyD, Vs.clD, Vs.kfB, Vs.cl, Vs.b2, Vs.ch, Vs.andT, Vs.orT, Vs.notT, Vs.dropS, Vs.exS, Vs.outB, K74.ite_ev, K74.itA_tup, K74.itA_lst, K74.itA_sq, K74.kit_ii, K74.kit_ib, K74.kit_bi, K74.kit_bb, K74.kit_ni, K74.kit_si, K74.kit_ti, K74.kit_li, K74.kit_di, K74.kit_tt, K74.kit_it, K74.kit_bt, K74.kit_nt, K74.kit_st, K74.kit_lt, K74.kit_dt, Vs.inn, Vs.lend, Vs.unl, Vs.unl1, Vs.fg, Vs.stE, Vs.tg1, Vs.tg2, Vs.ifE, Vs.yes, Vs.frz, Vs.lcAn, Vs.lcM, Vs.allD, Vs.itsL, Vs.lstB, Vs.lenD, Vs.its, Vs.leD, Vs.ltD, Vs.gtD, Vs.geD, Vs.int2, Vs.fB, Vs.fI, Vs.addD, Vs.isI2, Vs.isT2, Vs.subD, Vs.catT, Vs.catL, Vs.ixD, Vs.ixO, Vs.forA, Vs.forR1, Vs.forR2, Vs.forL, Vs.stp, Vs.stp2, Vs.meV, Vs.mutV, Vs.vL, Vs.gExt, Vs.gApp, Vs.lstF, Vs.tupE, Vs.slV, Vs.sl3, Vs.slD, Vs.tupD, Vs.sumD, Vs.absD, Vs.intD, Vs.lcR1, Vs.lcR2, Vs.lcL, Vs.forZ, Vs.zipD, Vs.repF, Vs.subS, Vs.gSet, Vs.ixV, Vs.eqD, Vs.neD, Vs.isnD, Vs.isbD, Vs.max2D, Vs.asgT, Vs.clI, Vs.Sl.to, Vs.parO, Vs.asI, Pls, Pl]), isRu_app (.inl (by simp [Vs.runP, Vs.runI, Vs.io0, Vs.retS, Vs.setS, Vs.setO, Vs.putS, Vs.lf, Vs.sq, Vs.nxt, Vs.ifS, Vs.bnd, Vs.ret, Vs.bad, Vs.opt, Vs.andE, Vs.orE, Vs.notE, Vs.asB, Vs.args, Vs.vV, Vs.vP, Vs.isD, Vs.isO, Vs.tyD, Vs.clD, Vs.kfB, Vs.cl, Vs.b2, Vs.ch, Vs.andT, Vs.orT, Vs.notT, Vs.dropS, Vs.exS, Vs.outB, K74.ite_ev, K74.itA_tup, K74.itA_lst, K74.itA_sq, K74.kit_ii, K74.kit_ib, K74.kit_bi, K74.kit_bb, K74.kit_ni, K74.kit_si, K74.kit_ti, K74.kit_li, K74.kit_di, K74.kit_tt, K74.kit_it, K74.kit_bt, K74.kit_nt, K74.kit_st, K74.kit_lt, K74.kit_dt, Vs.inn, Vs.lend, Vs.unl, Vs.unl1, Vs.fg, Vs.stE, Vs.tg1, Vs.tg2, Vs.ifE, Vs.yes, Vs.frz, Vs.lcAn, Vs.lcM, Vs.allD, Vs.itsL, Vs.lstB, Vs.lenD, Vs.its, Vs.leD, Vs.ltD, Vs.gtD, Vs.geD, Vs.int2, Vs.fB, Vs.fI, Vs.addD, Vs.isI2, Vs.isT2, Vs.subD, Vs.catT, Vs.catL, Vs.ixD, Vs.ixO, Vs.forA, Vs.forR1, Vs.forR2, Vs.forL, Vs.stp, Vs.stp2, Vs.meV, Vs.mutV, Vs.vL, Vs.gExt, Vs.gApp, Vs.lstF, Vs.tupE, Vs.slV, Vs.sl3, Vs.slD, Vs.tupD, Vs.sumD, Vs.absD, Vs.intD, Vs.lcR1, Vs.lcR2, Vs.lcL, Vs.forZ, Vs.zipD, Vs.repF, Vs.subS, Vs.gSet, Vs.ixV, Vs.eqD, Vs.neD, Vs.isnD, Vs.isbD, Vs.max2D, Vs.asgT, Vs.clI, Vs.Sl.to, Vs.parO, Vs.asI, sgD]))⟩
theorem bent_ok (K : PySem.W.Frag) {h : Hnd} {n : Nat} {rule : List (List Int)} (hr : RuOk rule) (h5 : rule.length ≤ 5) (k : h.Ok n) (hn : n < 2 ^ 48) : ∃ (h' : Hnd) (x : D), r__law_bent K h.ds [RD rule] = .ok x h'.ds ∧ Plr x = true ∧ isRu x = false ∧ h'.Ok (n + 1) := by
  have hlo := hr.lo
  obtain ⟨hl0, q⟩ := atI_in (xs := rule.map ID) (s := 1) (by omega) (by simp [Vs.runP, Vs.runI, Vs.io0, Vs.retS, Vs.setS, Vs.setO, Vs.putS, Vs.lf, Vs.sq, Vs.nxt, Vs.ifS, Vs.bnd, Vs.ret, Vs.bad, Vs.opt, Vs.andE, Vs.orE, Vs.notE, Vs.asB, Vs.args, Vs.vV, Vs.vP, Vs.isD, Vs.isO, Vs.tyD, Vs.clD, Vs.kfB, Vs.cl, Vs.b2, Vs.ch, Vs.andT, Vs.orT, Vs.notT, Vs.dropS, Vs.exS, Vs.outB, K74.ite_ev, K74.itA_tup, K74.itA_lst, K74.itA_sq, K74.kit_ii, K74.kit_ib, K74.kit_bi, K74.kit_bb, K74.kit_ni, K74.kit_si, K74.kit_ti, K74.kit_li, K74.kit_di, K74.kit_tt, K74.kit_it, K74.kit_bt, K74.kit_nt, K74.kit_st, K74.kit_lt, K74.kit_dt, Vs.inn, Vs.lend, Vs.unl, Vs.unl1, Vs.fg, Vs.stE, Vs.tg1, Vs.tg2, Vs.ifE, Vs.yes, Vs.frz, Vs.lcAn, Vs.lcM, Vs.allD, Vs.itsL, Vs.lstB, Vs.lenD, Vs.its, Vs.leD, Vs.ltD, Vs.gtD, Vs.geD, Vs.int2, Vs.fB, Vs.fI, Vs.addD, Vs.isI2, Vs.isT2, Vs.subD, Vs.catT, Vs.catL, Vs.ixD, Vs.ixO, Vs.forA, Vs.forR1, Vs.forR2, Vs.forL, Vs.stp, Vs.stp2, Vs.meV, Vs.mutV, Vs.vL, Vs.gExt, Vs.gApp, Vs.lstF, Vs.tupE, Vs.slV, Vs.sl3, Vs.slD, Vs.tupD, Vs.sumD, Vs.absD, Vs.intD, Vs.lcR1, Vs.lcR2, Vs.lcL, Vs.forZ, Vs.zipD, Vs.repF, Vs.subS, Vs.gSet, Vs.ixV, Vs.eqD, Vs.neD, Vs.isnD, Vs.isbD, Vs.max2D, Vs.asgT, Vs.clI, Vs.Sl.to, Vs.parO, Vs.asI]; omega)
  have hw : rule[0] ∈ rule := List.getElem_mem (by omega)
  obtain ⟨h', x, e, xm, k'⟩ := any_ok K (xs := bentL (rule.map ID) (ID rule[0])) k (by simp [Vs.runP, Vs.runI, Vs.io0, Vs.retS, Vs.setS, Vs.setO, Vs.putS, Vs.lf, Vs.sq, Vs.nxt, Vs.ifS, Vs.bnd, Vs.ret, Vs.bad, Vs.opt, Vs.andE, Vs.orE, Vs.notE, Vs.asB, Vs.args, Vs.vV, Vs.vP, Vs.isD, Vs.isO, Vs.tyD, Vs.clD, Vs.kfB, Vs.cl, Vs.b2, Vs.ch, Vs.andT, Vs.orT, Vs.notT, Vs.dropS, Vs.exS, Vs.outB, K74.ite_ev, K74.itA_tup, K74.itA_lst, K74.itA_sq, K74.kit_ii, K74.kit_ib, K74.kit_bi, K74.kit_bb, K74.kit_ni, K74.kit_si, K74.kit_ti, K74.kit_li, K74.kit_di, K74.kit_tt, K74.kit_it, K74.kit_bt, K74.kit_nt, K74.kit_st, K74.kit_lt, K74.kit_dt, Vs.inn, Vs.lend, Vs.unl, Vs.unl1, Vs.fg, Vs.stE, Vs.tg1, Vs.tg2, Vs.ifE, Vs.yes, Vs.frz, Vs.lcAn, Vs.lcM, Vs.allD, Vs.itsL, Vs.lstB, Vs.lenD, Vs.its, Vs.leD, Vs.ltD, Vs.gtD, Vs.geD, Vs.int2, Vs.fB, Vs.fI, Vs.addD, Vs.isI2, Vs.isT2, Vs.subD, Vs.catT, Vs.catL, Vs.ixD, Vs.ixO, Vs.forA, Vs.forR1, Vs.forR2, Vs.forL, Vs.stp, Vs.stp2, Vs.meV, Vs.mutV, Vs.vL, Vs.gExt, Vs.gApp, Vs.lstF, Vs.tupE, Vs.slV, Vs.sl3, Vs.slD, Vs.tupD, Vs.sumD, Vs.absD, Vs.intD, Vs.lcR1, Vs.lcR2, Vs.lcL, Vs.forZ, Vs.zipD, Vs.repF, Vs.subS, Vs.gSet, Vs.ixV, Vs.eqD, Vs.neD, Vs.isnD, Vs.isbD, Vs.max2D, Vs.asgT, Vs.clI, Vs.Sl.to, Vs.parO, Vs.asI, bentL]) (by simp [Vs.runP, Vs.runI, Vs.io0, Vs.retS, Vs.setS, Vs.setO, Vs.putS, Vs.lf, Vs.sq, Vs.nxt, Vs.ifS, Vs.bnd, Vs.ret, Vs.bad, Vs.opt, Vs.andE, Vs.orE, Vs.notE, Vs.asB, Vs.args, Vs.vV, Vs.vP, Vs.isD, Vs.isO, Vs.tyD, Vs.clD, Vs.kfB, Vs.cl, Vs.b2, Vs.ch, Vs.andT, Vs.orT, Vs.notT, Vs.dropS, Vs.exS, Vs.outB, K74.ite_ev, K74.itA_tup, K74.itA_lst, K74.itA_sq, K74.kit_ii, K74.kit_ib, K74.kit_bi, K74.kit_bb, K74.kit_ni, K74.kit_si, K74.kit_ti, K74.kit_li, K74.kit_di, K74.kit_tt, K74.kit_it, K74.kit_bt, K74.kit_nt, K74.kit_st, K74.kit_lt, K74.kit_dt, Vs.inn, Vs.lend, Vs.unl, Vs.unl1, Vs.fg, Vs.stE, Vs.tg1, Vs.tg2, Vs.ifE, Vs.yes, Vs.frz, Vs.lcAn, Vs.lcM, Vs.allD, Vs.itsL, Vs.lstB, Vs.lenD, Vs.its, Vs.leD, Vs.ltD, Vs.gtD, Vs.geD, Vs.int2, Vs.fB, Vs.fI, Vs.addD, Vs.isI2, Vs.isT2, Vs.subD, Vs.catT, Vs.catL, Vs.ixD, Vs.ixO, Vs.forA, Vs.forR1, Vs.forR2, Vs.forL, Vs.stp, Vs.stp2, Vs.meV, Vs.mutV, Vs.vL, Vs.gExt, Vs.gApp, Vs.lstF, Vs.tupE, Vs.slV, Vs.sl3, Vs.slD, Vs.tupD, Vs.sumD, Vs.absD, Vs.intD, Vs.lcR1, Vs.lcR2, Vs.lcL, Vs.forZ, Vs.zipD, Vs.repF, Vs.subS, Vs.gSet, Vs.ixV, Vs.eqD, Vs.neD, Vs.isnD, Vs.isbD, Vs.max2D, Vs.asgT, Vs.clI, Vs.Sl.to, Vs.parO, Vs.asI, bentL]) (by omega)
  obtain ⟨x1, x2⟩ := bent_bad hr h5 hw x xm
  refine ⟨h', x, ?_, x1, x2, k'⟩
  have q' : L2.atI (rule.map ID) 0 = some (ID rule[0]) := by simpa [Vs.runP, Vs.runI, Vs.io0, Vs.retS, Vs.setS, Vs.setO, Vs.putS, Vs.lf, Vs.sq, Vs.nxt, Vs.ifS, Vs.bnd, Vs.ret, Vs.bad, Vs.opt, Vs.andE, Vs.orE, Vs.notE, Vs.asB, Vs.args, Vs.vV, Vs.vP, Vs.isD, Vs.isO, Vs.tyD, Vs.clD, Vs.kfB, Vs.cl, Vs.b2, Vs.ch, Vs.andT, Vs.orT, Vs.notT, Vs.dropS, Vs.exS, Vs.outB, K74.ite_ev, K74.itA_tup, K74.itA_lst, K74.itA_sq, K74.kit_ii, K74.kit_ib, K74.kit_bi, K74.kit_bb, K74.kit_ni, K74.kit_si, K74.kit_ti, K74.kit_li, K74.kit_di, K74.kit_tt, K74.kit_it, K74.kit_bt, K74.kit_nt, K74.kit_st, K74.kit_lt, K74.kit_dt, Vs.inn, Vs.lend, Vs.unl, Vs.unl1, Vs.fg, Vs.stE, Vs.tg1, Vs.tg2, Vs.ifE, Vs.yes, Vs.frz, Vs.lcAn, Vs.lcM, Vs.allD, Vs.itsL, Vs.lstB, Vs.lenD, Vs.its, Vs.leD, Vs.ltD, Vs.gtD, Vs.geD, Vs.int2, Vs.fB, Vs.fI, Vs.addD, Vs.isI2, Vs.isT2, Vs.subD, Vs.catT, Vs.catL, Vs.ixD, Vs.ixO, Vs.forA, Vs.forR1, Vs.forR2, Vs.forL, Vs.stp, Vs.stp2, Vs.meV, Vs.mutV, Vs.vL, Vs.gExt, Vs.gApp, Vs.lstF, Vs.tupE, Vs.slV, Vs.sl3, Vs.slD, Vs.tupD, Vs.sumD, Vs.absD, Vs.intD, Vs.lcR1, Vs.lcR2, Vs.lcL, Vs.forZ, Vs.zipD, Vs.repF, Vs.subS, Vs.gSet, Vs.ixV, Vs.eqD, Vs.neD, Vs.isnD, Vs.isbD, Vs.max2D, Vs.asgT, Vs.clI, Vs.Sl.to, Vs.parO, Vs.asI] using q
  have hl : (rule.map ID).length ≤ 5 := by simpa [Vs.runP, Vs.runI, Vs.io0, Vs.retS, Vs.setS, Vs.setO, Vs.putS, Vs.lf, Vs.sq, Vs.nxt, Vs.ifS, Vs.bnd, Vs.ret, Vs.bad, Vs.opt, Vs.andE, Vs.orE, Vs.notE, Vs.asB, Vs.args, Vs.vV, Vs.vP, Vs.isD, Vs.isO, Vs.tyD, Vs.clD, Vs.kfB, Vs.cl, Vs.b2, Vs.ch, Vs.andT, Vs.orT, Vs.notT, Vs.dropS, Vs.exS, Vs.outB, K74.ite_ev, K74.itA_tup, K74.itA_lst, K74.itA_sq, K74.kit_ii, K74.kit_ib, K74.kit_bi, K74.kit_bb, K74.kit_ni, K74.kit_si, K74.kit_ti, K74.kit_li, K74.kit_di, K74.kit_tt, K74.kit_it, K74.kit_bt, K74.kit_nt, K74.kit_st, K74.kit_lt, K74.kit_dt, Vs.inn, Vs.lend, Vs.unl, Vs.unl1, Vs.fg, Vs.stE, Vs.tg1, Vs.tg2, Vs.ifE, Vs.yes, Vs.frz, Vs.lcAn, Vs.lcM, Vs.allD, Vs.itsL, Vs.lstB, Vs.lenD, Vs.its, Vs.leD, Vs.ltD, Vs.gtD, Vs.geD, Vs.int2, Vs.fB, Vs.fI, Vs.addD, Vs.isI2, Vs.isT2, Vs.subD, Vs.catT, Vs.catL, Vs.ixD, Vs.ixO, Vs.forA, Vs.forR1, Vs.forR2, Vs.forL, Vs.stp, Vs.stp2, Vs.meV, Vs.mutV, Vs.vL, Vs.gExt, Vs.gApp, Vs.lstF, Vs.tupE, Vs.slV, Vs.sl3, Vs.slD, Vs.tupD, Vs.sumD, Vs.absD, Vs.intD, Vs.lcR1, Vs.lcR2, Vs.lcL, Vs.forZ, Vs.zipD, Vs.repF, Vs.subS, Vs.gSet, Vs.ixV, Vs.eqD, Vs.neD, Vs.isnD, Vs.isbD, Vs.max2D, Vs.asgT, Vs.clI, Vs.Sl.to, Vs.parO, Vs.asI] using h5
  unfold RD
  generalize rule.map ID = ws at *
  generalize ID rule[0] = w0 at *
  have b0 : ∀ m : Nat, m ≤ 41 → m ≤ big := fun m hm => by unfold big; omega
  have b6 : ws.length + 1 ≤ big := b0 _ (by omega)
  have b1 := b0 1 (by omega)
  have b7 := b0 7 (by omega)
  have b13 := b0 13 (by omega)
  have b15 := b0 15 (by omega)
  have b2 := b0 2 (by omega)
  have b6n := b0 6 (by omega)
  simp [Vs.runP, Vs.runI, Vs.io0, Vs.retS, Vs.setS, Vs.setO, Vs.putS, Vs.lf, Vs.sq, Vs.nxt, Vs.ifS, Vs.bnd, Vs.ret, Vs.bad, Vs.opt, Vs.andE, Vs.orE, Vs.notE, Vs.asB, Vs.args, Vs.vV, Vs.vP, Vs.isD, Vs.isO, Vs.tyD, Vs.clD, Vs.kfB, Vs.cl, Vs.b2, Vs.ch, Vs.andT, Vs.orT, Vs.notT, Vs.dropS, Vs.exS, Vs.outB, K74.ite_ev, K74.itA_tup, K74.itA_lst, K74.itA_sq, K74.kit_ii, K74.kit_ib, K74.kit_bi, K74.kit_bb, K74.kit_ni, K74.kit_si, K74.kit_ti, K74.kit_li, K74.kit_di, K74.kit_tt, K74.kit_it, K74.kit_bt, K74.kit_nt, K74.kit_st, K74.kit_lt, K74.kit_dt, Vs.inn, Vs.lend, Vs.unl, Vs.unl1, Vs.fg, Vs.stE, Vs.tg1, Vs.tg2, Vs.ifE, Vs.yes, Vs.frz, Vs.lcAn, Vs.lcM, Vs.allD, Vs.itsL, Vs.lstB, Vs.lenD, Vs.its, Vs.leD, Vs.ltD, Vs.gtD, Vs.geD, Vs.int2, Vs.fB, Vs.fI, Vs.addD, Vs.isI2, Vs.isT2, Vs.subD, Vs.catT, Vs.catL, Vs.ixD, Vs.ixO, Vs.forA, Vs.forR1, Vs.forR2, Vs.forL, Vs.stp, Vs.stp2, Vs.meV, Vs.mutV, Vs.vL, Vs.gExt, Vs.gApp, Vs.lstF, Vs.tupE, Vs.slV, Vs.sl3, Vs.slD, Vs.tupD, Vs.sumD, Vs.absD, Vs.intD, Vs.lcR1, Vs.lcR2, Vs.lcL, Vs.forZ, Vs.zipD, Vs.repF, Vs.subS, Vs.gSet, Vs.ixV, Vs.eqD, Vs.neD, Vs.isnD, Vs.isbD, Vs.max2D, Vs.asgT, Vs.clI, Vs.Sl.to, Vs.parO, Vs.asI, bentL] at e
  simp [Vs.runP, Vs.runI, Vs.io0, Vs.retS, Vs.setS, Vs.setO, Vs.putS, Vs.lf, Vs.sq, Vs.nxt, Vs.ifS, Vs.bnd, Vs.ret, Vs.bad, Vs.opt, Vs.andE, Vs.orE, Vs.notE, Vs.asB, Vs.args, Vs.vV, Vs.vP, Vs.isD, Vs.isO, Vs.tyD, Vs.clD, Vs.kfB, Vs.cl, Vs.b2, Vs.ch, Vs.andT, Vs.orT, Vs.notT, Vs.dropS, Vs.exS, Vs.outB, K74.ite_ev, K74.itA_tup, K74.itA_lst, K74.itA_sq, K74.kit_ii, K74.kit_ib, K74.kit_bi, K74.kit_bb, K74.kit_ni, K74.kit_si, K74.kit_ti, K74.kit_li, K74.kit_di, K74.kit_tt, K74.kit_it, K74.kit_bt, K74.kit_nt, K74.kit_st, K74.kit_lt, K74.kit_dt, Vs.inn, Vs.lend, Vs.unl, Vs.unl1, Vs.fg, Vs.stE, Vs.tg1, Vs.tg2, Vs.ifE, Vs.yes, Vs.frz, Vs.lcAn, Vs.lcM, Vs.allD, Vs.itsL, Vs.lstB, Vs.lenD, Vs.its, Vs.leD, Vs.ltD, Vs.gtD, Vs.geD, Vs.int2, Vs.fB, Vs.fI, Vs.addD, Vs.isI2, Vs.isT2, Vs.subD, Vs.catT, Vs.catL, Vs.ixD, Vs.ixO, Vs.forA, Vs.forR1, Vs.forR2, Vs.forL, Vs.stp, Vs.stp2, Vs.meV, Vs.mutV, Vs.vL, Vs.gExt, Vs.gApp, Vs.lstF, Vs.tupE, Vs.slV, Vs.sl3, Vs.slD, Vs.tupD, Vs.sumD, Vs.absD, Vs.intD, Vs.lcR1, Vs.lcR2, Vs.lcL, Vs.forZ, Vs.zipD, Vs.repF, Vs.subS, Vs.gSet, Vs.ixV, Vs.eqD, Vs.neD, Vs.isnD, Vs.isbD, Vs.max2D, Vs.asgT, Vs.clI, Vs.Sl.to, Vs.parO, Vs.asI, r__law_bent, m__law_bent, q', b1, b2, b6, b6n, b7, b13, b15, mulD, isTI, repT, isL2, negD, dic1, e]
end K74
namespace K74
open PySem PySem.Spec PyProof.Rows L2 LamX NdefX HotX Vs






/-! ### refusals -/
theorem runP_sq_ex {k : Nat} {f g : S} {ds : List D} {C : Addr} {fs : List (Str × D)} {ev : Ev} (h : f (ds.map .sh ++ List.replicate k .no) = .ex C fs ev) : runP k (sq f g) ds = .ex C fs [] := runP_ex (sq_ex h)
theorem dropS_ex {f : M D} {ev ev1 : Ev} {C : Addr} {fs : List (Str × D)} (h : f ev = .ex C fs ev1) : dropS f ev = .ex C fs ev1 := lf_ex h
theorem grow_ex (K : PySem.W.Frag) {x y : D} {C : Addr} (c : r_check_signs K [x, y] = .ex C [] []) : r_grow K [x, y] = .ex C [] [] := runP_sq_ex (dropS_ex (cl_ex (a2_ok (i := 0) (j := 1) rfl rfl) c))
theorem often_ex (K : PySem.W.Frag) {x y z : D} {C : Addr} (c : r_check_signs K [x, y] = .ex C [] []) : r_grow_often K [x, y, z] = .ex C [] [] := runP_sq_ex (dropS_ex (cl_ex (a2_ok (i := 0) (j := 1) rfl rfl) c))
theorem often_ex2 (K : PySem.W.Frag) {x y z : D} {C : Addr} (c : r_check_signs K [x, y] = .ok .non []) (c2 : r_check_times K [z] = .ex C [] []) : r_grow_often K [x, y, z] = .ex C [] [] :=
  runP_ex ((sq_nx (dropS_ok (cl_ok (a2_ok (i := 0) (j := 1) rfl rfl) c))).trans (sq_ex (dropS_ex (cl_ex (args_ok (vV_sh (i := 2) rfl) args_nil) c2))))
theorem sg_ex (K : PySem.W.Frag) {x y z : D} {C : Addr} (c : r_check_sign K [x, y] = .ex C [] []) : r_signs_grown K [x, y, z] = .ex C [] [] := runP_sq_ex (dropS_ex (cl_ex (a2_ok (i := 0) (j := 1) rfl rfl) c))
theorem zg_ex (K : PySem.W.Frag) {x y z : D} {C : Addr} (c : r_check_sign K [x, y] = .ex C [] []) : r_size_grown K [x, y, z] = .ex C [] [] := runP_sq_ex (dropS_ex (cl_ex (a2_ok (i := 0) (j := 1) rfl rfl) c))
theorem sg_ex2 (K : PySem.W.Frag) {x y z : D} {C : Addr} (c : r_check_sign K [x, y] = .ok .non []) (c2 : r_check_times K [z] = .ex C [] []) : r_signs_grown K [x, y, z] = .ex C [] [] :=
  runP_ex ((sq_nx (dropS_ok (cl_ok (a2_ok (i := 0) (j := 1) rfl rfl) c))).trans (sq_ex (dropS_ex (cl_ex (args_ok (vV_sh (i := 2) rfl) args_nil) c2))))
theorem zg_ex2 (K : PySem.W.Frag) {x y z : D} {C : Addr} (c : r_check_sign K [x, y] = .ok .non []) (c2 : r_check_times K [z] = .ex C [] []) : r_size_grown K [x, y, z] = .ex C [] [] :=
  runP_ex ((sq_nx (dropS_ok (cl_ok (a2_ok (i := 0) (j := 1) rfl rfl) c))).trans (sq_ex (dropS_ex (cl_ex (args_ok (vV_sh (i := 2) rfl) args_nil) c2))))
def rowL (n : Int) : List D := [.non, .lst [.int 1], .tup [.int 0], .tup [.int (n + 1)], .tup [.bl true], .tup (List.replicate 401 (.int 1)), .int 1, .str "1"]
def sgnL (n : Int) : List D := [.int 0, .int (n + 1), .non, .bl true, .str "1", .tup [.int 1]]
def trnL : List D := [.int (-1), .int 201, .non, .bl true, .str "1"]
theorem row_bad {n : Int} : ∀ x ∈ rowL n, Pls x = true ∧ sgD n 400 x = false := fun x hx => by
  have b1 : 1 ≤ big := by unfold big; omega
  have b41 : 401 ≤ big := by unfold big; omega
  unfold rowL at hx
  simp only [List.mem_cons, List.mem_nil_iff, or_false] at hx
  rcases hx with rfl | rfl | rfl | rfl | rfl | rfl | rfl | rfl
  · exact ⟨rfl, rfl⟩
  · exact ⟨rfl, rfl⟩
  · exact ⟨by simp [Vs.runP, Vs.runI, Vs.io0, Vs.retS, Vs.setS, Vs.setO, Vs.putS, Vs.lf, Vs.sq, Vs.nxt, Vs.ifS, Vs.bnd, Vs.ret, Vs.bad, Vs.opt, Vs.andE, Vs.orE, Vs.notE, Vs.asB, Vs.args, Vs.vV, Vs.vP, Vs.isD, Vs.isO, Vs.tyD, Vs.clD, Vs.kfB, Vs.cl, Vs.b2, Vs.ch, Vs.andT, Vs.orT, Vs.notT, Vs.dropS, Vs.exS, Vs.outB, K74.ite_ev, K74.itA_tup, K74.itA_lst, K74.itA_sq, K74.kit_ii, K74.kit_ib, K74.kit_bi, K74.kit_bb, K74.kit_ni, K74.kit_si, K74.kit_ti, K74.kit_li, K74.kit_di, K74.kit_tt, K74.kit_it, K74.kit_bt, K74.kit_nt, K74.kit_st, K74.kit_lt, K74.kit_dt, Vs.inn, Vs.lend, Vs.unl, Vs.unl1, Vs.fg, Vs.stE, Vs.tg1, Vs.tg2, Vs.ifE, Vs.yes, Vs.frz, Vs.lcAn, Vs.lcM, Vs.allD, Vs.itsL, Vs.lstB, Vs.lenD, Vs.its, Vs.leD, Vs.ltD, Vs.gtD, Vs.geD, Vs.int2, Vs.fB, Vs.fI, Vs.addD, Vs.isI2, Vs.isT2, Vs.subD, Vs.catT, Vs.catL, Vs.ixD, Vs.ixO, Vs.forA, Vs.forR1, Vs.forR2, Vs.forL, Vs.stp, Vs.stp2, Vs.meV, Vs.mutV, Vs.vL, Vs.gExt, Vs.gApp, Vs.lstF, Vs.tupE, Vs.slV, Vs.sl3, Vs.slD, Vs.tupD, Vs.sumD, Vs.absD, Vs.intD, Vs.lcR1, Vs.lcR2, Vs.lcL, Vs.forZ, Vs.zipD, Vs.repF, Vs.subS, Vs.gSet, Vs.ixV, Vs.eqD, Vs.neD, Vs.isnD, Vs.isbD, Vs.max2D, Vs.asgT, Vs.clI, Vs.Sl.to, Vs.parO, Vs.asI, Pls, Pl, b1], by simp [Vs.runP, Vs.runI, Vs.io0, Vs.retS, Vs.setS, Vs.setO, Vs.putS, Vs.lf, Vs.sq, Vs.nxt, Vs.ifS, Vs.bnd, Vs.ret, Vs.bad, Vs.opt, Vs.andE, Vs.orE, Vs.notE, Vs.asB, Vs.args, Vs.vV, Vs.vP, Vs.isD, Vs.isO, Vs.tyD, Vs.clD, Vs.kfB, Vs.cl, Vs.b2, Vs.ch, Vs.andT, Vs.orT, Vs.notT, Vs.dropS, Vs.exS, Vs.outB, K74.ite_ev, K74.itA_tup, K74.itA_lst, K74.itA_sq, K74.kit_ii, K74.kit_ib, K74.kit_bi, K74.kit_bb, K74.kit_ni, K74.kit_si, K74.kit_ti, K74.kit_li, K74.kit_di, K74.kit_tt, K74.kit_it, K74.kit_bt, K74.kit_nt, K74.kit_st, K74.kit_lt, K74.kit_dt, Vs.inn, Vs.lend, Vs.unl, Vs.unl1, Vs.fg, Vs.stE, Vs.tg1, Vs.tg2, Vs.ifE, Vs.yes, Vs.frz, Vs.lcAn, Vs.lcM, Vs.allD, Vs.itsL, Vs.lstB, Vs.lenD, Vs.its, Vs.leD, Vs.ltD, Vs.gtD, Vs.geD, Vs.int2, Vs.fB, Vs.fI, Vs.addD, Vs.isI2, Vs.isT2, Vs.subD, Vs.catT, Vs.catL, Vs.ixD, Vs.ixO, Vs.forA, Vs.forR1, Vs.forR2, Vs.forL, Vs.stp, Vs.stp2, Vs.meV, Vs.mutV, Vs.vL, Vs.gExt, Vs.gApp, Vs.lstF, Vs.tupE, Vs.slV, Vs.sl3, Vs.slD, Vs.tupD, Vs.sumD, Vs.absD, Vs.intD, Vs.lcR1, Vs.lcR2, Vs.lcL, Vs.forZ, Vs.zipD, Vs.repF, Vs.subS, Vs.gSet, Vs.ixV, Vs.eqD, Vs.neD, Vs.isnD, Vs.isbD, Vs.max2D, Vs.asgT, Vs.clI, Vs.Sl.to, Vs.parO, Vs.asI, sgD, inR]⟩
  · exact ⟨by simp [Vs.runP, Vs.runI, Vs.io0, Vs.retS, Vs.setS, Vs.setO, Vs.putS, Vs.lf, Vs.sq, Vs.nxt, Vs.ifS, Vs.bnd, Vs.ret, Vs.bad, Vs.opt, Vs.andE, Vs.orE, Vs.notE, Vs.asB, Vs.args, Vs.vV, Vs.vP, Vs.isD, Vs.isO, Vs.tyD, Vs.clD, Vs.kfB, Vs.cl, Vs.b2, Vs.ch, Vs.andT, Vs.orT, Vs.notT, Vs.dropS, Vs.exS, Vs.outB, K74.ite_ev, K74.itA_tup, K74.itA_lst, K74.itA_sq, K74.kit_ii, K74.kit_ib, K74.kit_bi, K74.kit_bb, K74.kit_ni, K74.kit_si, K74.kit_ti, K74.kit_li, K74.kit_di, K74.kit_tt, K74.kit_it, K74.kit_bt, K74.kit_nt, K74.kit_st, K74.kit_lt, K74.kit_dt, Vs.inn, Vs.lend, Vs.unl, Vs.unl1, Vs.fg, Vs.stE, Vs.tg1, Vs.tg2, Vs.ifE, Vs.yes, Vs.frz, Vs.lcAn, Vs.lcM, Vs.allD, Vs.itsL, Vs.lstB, Vs.lenD, Vs.its, Vs.leD, Vs.ltD, Vs.gtD, Vs.geD, Vs.int2, Vs.fB, Vs.fI, Vs.addD, Vs.isI2, Vs.isT2, Vs.subD, Vs.catT, Vs.catL, Vs.ixD, Vs.ixO, Vs.forA, Vs.forR1, Vs.forR2, Vs.forL, Vs.stp, Vs.stp2, Vs.meV, Vs.mutV, Vs.vL, Vs.gExt, Vs.gApp, Vs.lstF, Vs.tupE, Vs.slV, Vs.sl3, Vs.slD, Vs.tupD, Vs.sumD, Vs.absD, Vs.intD, Vs.lcR1, Vs.lcR2, Vs.lcL, Vs.forZ, Vs.zipD, Vs.repF, Vs.subS, Vs.gSet, Vs.ixV, Vs.eqD, Vs.neD, Vs.isnD, Vs.isbD, Vs.max2D, Vs.asgT, Vs.clI, Vs.Sl.to, Vs.parO, Vs.asI, Pls, Pl, b1], by simp [Vs.runP, Vs.runI, Vs.io0, Vs.retS, Vs.setS, Vs.setO, Vs.putS, Vs.lf, Vs.sq, Vs.nxt, Vs.ifS, Vs.bnd, Vs.ret, Vs.bad, Vs.opt, Vs.andE, Vs.orE, Vs.notE, Vs.asB, Vs.args, Vs.vV, Vs.vP, Vs.isD, Vs.isO, Vs.tyD, Vs.clD, Vs.kfB, Vs.cl, Vs.b2, Vs.ch, Vs.andT, Vs.orT, Vs.notT, Vs.dropS, Vs.exS, Vs.outB, K74.ite_ev, K74.itA_tup, K74.itA_lst, K74.itA_sq, K74.kit_ii, K74.kit_ib, K74.kit_bi, K74.kit_bb, K74.kit_ni, K74.kit_si, K74.kit_ti, K74.kit_li, K74.kit_di, K74.kit_tt, K74.kit_it, K74.kit_bt, K74.kit_nt, K74.kit_st, K74.kit_lt, K74.kit_dt, Vs.inn, Vs.lend, Vs.unl, Vs.unl1, Vs.fg, Vs.stE, Vs.tg1, Vs.tg2, Vs.ifE, Vs.yes, Vs.frz, Vs.lcAn, Vs.lcM, Vs.allD, Vs.itsL, Vs.lstB, Vs.lenD, Vs.its, Vs.leD, Vs.ltD, Vs.gtD, Vs.geD, Vs.int2, Vs.fB, Vs.fI, Vs.addD, Vs.isI2, Vs.isT2, Vs.subD, Vs.catT, Vs.catL, Vs.ixD, Vs.ixO, Vs.forA, Vs.forR1, Vs.forR2, Vs.forL, Vs.stp, Vs.stp2, Vs.meV, Vs.mutV, Vs.vL, Vs.gExt, Vs.gApp, Vs.lstF, Vs.tupE, Vs.slV, Vs.sl3, Vs.slD, Vs.tupD, Vs.sumD, Vs.absD, Vs.intD, Vs.lcR1, Vs.lcR2, Vs.lcL, Vs.forZ, Vs.zipD, Vs.repF, Vs.subS, Vs.gSet, Vs.ixV, Vs.eqD, Vs.neD, Vs.isnD, Vs.isbD, Vs.max2D, Vs.asgT, Vs.clI, Vs.Sl.to, Vs.parO, Vs.asI, sgD, inR]; omega⟩
  · exact ⟨by simp [Vs.runP, Vs.runI, Vs.io0, Vs.retS, Vs.setS, Vs.setO, Vs.putS, Vs.lf, Vs.sq, Vs.nxt, Vs.ifS, Vs.bnd, Vs.ret, Vs.bad, Vs.opt, Vs.andE, Vs.orE, Vs.notE, Vs.asB, Vs.args, Vs.vV, Vs.vP, Vs.isD, Vs.isO, Vs.tyD, Vs.clD, Vs.kfB, Vs.cl, Vs.b2, Vs.ch, Vs.andT, Vs.orT, Vs.notT, Vs.dropS, Vs.exS, Vs.outB, K74.ite_ev, K74.itA_tup, K74.itA_lst, K74.itA_sq, K74.kit_ii, K74.kit_ib, K74.kit_bi, K74.kit_bb, K74.kit_ni, K74.kit_si, K74.kit_ti, K74.kit_li, K74.kit_di, K74.kit_tt, K74.kit_it, K74.kit_bt, K74.kit_nt, K74.kit_st, K74.kit_lt, K74.kit_dt, Vs.inn, Vs.lend, Vs.unl, Vs.unl1, Vs.fg, Vs.stE, Vs.tg1, Vs.tg2, Vs.ifE, Vs.yes, Vs.frz, Vs.lcAn, Vs.lcM, Vs.allD, Vs.itsL, Vs.lstB, Vs.lenD, Vs.its, Vs.leD, Vs.ltD, Vs.gtD, Vs.geD, Vs.int2, Vs.fB, Vs.fI, Vs.addD, Vs.isI2, Vs.isT2, Vs.subD, Vs.catT, Vs.catL, Vs.ixD, Vs.ixO, Vs.forA, Vs.forR1, Vs.forR2, Vs.forL, Vs.stp, Vs.stp2, Vs.meV, Vs.mutV, Vs.vL, Vs.gExt, Vs.gApp, Vs.lstF, Vs.tupE, Vs.slV, Vs.sl3, Vs.slD, Vs.tupD, Vs.sumD, Vs.absD, Vs.intD, Vs.lcR1, Vs.lcR2, Vs.lcL, Vs.forZ, Vs.zipD, Vs.repF, Vs.subS, Vs.gSet, Vs.ixV, Vs.eqD, Vs.neD, Vs.isnD, Vs.isbD, Vs.max2D, Vs.asgT, Vs.clI, Vs.Sl.to, Vs.parO, Vs.asI, Pls, Pl, b1], by simp [Vs.runP, Vs.runI, Vs.io0, Vs.retS, Vs.setS, Vs.setO, Vs.putS, Vs.lf, Vs.sq, Vs.nxt, Vs.ifS, Vs.bnd, Vs.ret, Vs.bad, Vs.opt, Vs.andE, Vs.orE, Vs.notE, Vs.asB, Vs.args, Vs.vV, Vs.vP, Vs.isD, Vs.isO, Vs.tyD, Vs.clD, Vs.kfB, Vs.cl, Vs.b2, Vs.ch, Vs.andT, Vs.orT, Vs.notT, Vs.dropS, Vs.exS, Vs.outB, K74.ite_ev, K74.itA_tup, K74.itA_lst, K74.itA_sq, K74.kit_ii, K74.kit_ib, K74.kit_bi, K74.kit_bb, K74.kit_ni, K74.kit_si, K74.kit_ti, K74.kit_li, K74.kit_di, K74.kit_tt, K74.kit_it, K74.kit_bt, K74.kit_nt, K74.kit_st, K74.kit_lt, K74.kit_dt, Vs.inn, Vs.lend, Vs.unl, Vs.unl1, Vs.fg, Vs.stE, Vs.tg1, Vs.tg2, Vs.ifE, Vs.yes, Vs.frz, Vs.lcAn, Vs.lcM, Vs.allD, Vs.itsL, Vs.lstB, Vs.lenD, Vs.its, Vs.leD, Vs.ltD, Vs.gtD, Vs.geD, Vs.int2, Vs.fB, Vs.fI, Vs.addD, Vs.isI2, Vs.isT2, Vs.subD, Vs.catT, Vs.catL, Vs.ixD, Vs.ixO, Vs.forA, Vs.forR1, Vs.forR2, Vs.forL, Vs.stp, Vs.stp2, Vs.meV, Vs.mutV, Vs.vL, Vs.gExt, Vs.gApp, Vs.lstF, Vs.tupE, Vs.slV, Vs.sl3, Vs.slD, Vs.tupD, Vs.sumD, Vs.absD, Vs.intD, Vs.lcR1, Vs.lcR2, Vs.lcL, Vs.forZ, Vs.zipD, Vs.repF, Vs.subS, Vs.gSet, Vs.ixV, Vs.eqD, Vs.neD, Vs.isnD, Vs.isbD, Vs.max2D, Vs.asgT, Vs.clI, Vs.Sl.to, Vs.parO, Vs.asI, sgD, inR]⟩
  · exact ⟨by simp [Vs.runP, Vs.runI, Vs.io0, Vs.retS, Vs.setS, Vs.setO, Vs.putS, Vs.lf, Vs.sq, Vs.nxt, Vs.ifS, Vs.bnd, Vs.ret, Vs.bad, Vs.opt, Vs.andE, Vs.orE, Vs.notE, Vs.asB, Vs.args, Vs.vV, Vs.vP, Vs.isD, Vs.isO, Vs.tyD, Vs.clD, Vs.kfB, Vs.cl, Vs.b2, Vs.ch, Vs.andT, Vs.orT, Vs.notT, Vs.dropS, Vs.exS, Vs.outB, K74.ite_ev, K74.itA_tup, K74.itA_lst, K74.itA_sq, K74.kit_ii, K74.kit_ib, K74.kit_bi, K74.kit_bb, K74.kit_ni, K74.kit_si, K74.kit_ti, K74.kit_li, K74.kit_di, K74.kit_tt, K74.kit_it, K74.kit_bt, K74.kit_nt, K74.kit_st, K74.kit_lt, K74.kit_dt, Vs.inn, Vs.lend, Vs.unl, Vs.unl1, Vs.fg, Vs.stE, Vs.tg1, Vs.tg2, Vs.ifE, Vs.yes, Vs.frz, Vs.lcAn, Vs.lcM, Vs.allD, Vs.itsL, Vs.lstB, Vs.lenD, Vs.its, Vs.leD, Vs.ltD, Vs.gtD, Vs.geD, Vs.int2, Vs.fB, Vs.fI, Vs.addD, Vs.isI2, Vs.isT2, Vs.subD, Vs.catT, Vs.catL, Vs.ixD, Vs.ixO, Vs.forA, Vs.forR1, Vs.forR2, Vs.forL, Vs.stp, Vs.stp2, Vs.meV, Vs.mutV, Vs.vL, Vs.gExt, Vs.gApp, Vs.lstF, Vs.tupE, Vs.slV, Vs.sl3, Vs.slD, Vs.tupD, Vs.sumD, Vs.absD, Vs.intD, Vs.lcR1, Vs.lcR2, Vs.lcL, Vs.forZ, Vs.zipD, Vs.repF, Vs.subS, Vs.gSet, Vs.ixV, Vs.eqD, Vs.neD, Vs.isnD, Vs.isbD, Vs.max2D, Vs.asgT, Vs.clI, Vs.Sl.to, Vs.parO, Vs.asI, Pls, Pl, b41], by simp [Vs.runP, Vs.runI, Vs.io0, Vs.retS, Vs.setS, Vs.setO, Vs.putS, Vs.lf, Vs.sq, Vs.nxt, Vs.ifS, Vs.bnd, Vs.ret, Vs.bad, Vs.opt, Vs.andE, Vs.orE, Vs.notE, Vs.asB, Vs.args, Vs.vV, Vs.vP, Vs.isD, Vs.isO, Vs.tyD, Vs.clD, Vs.kfB, Vs.cl, Vs.b2, Vs.ch, Vs.andT, Vs.orT, Vs.notT, Vs.dropS, Vs.exS, Vs.outB, K74.ite_ev, K74.itA_tup, K74.itA_lst, K74.itA_sq, K74.kit_ii, K74.kit_ib, K74.kit_bi, K74.kit_bb, K74.kit_ni, K74.kit_si, K74.kit_ti, K74.kit_li, K74.kit_di, K74.kit_tt, K74.kit_it, K74.kit_bt, K74.kit_nt, K74.kit_st, K74.kit_lt, K74.kit_dt, Vs.inn, Vs.lend, Vs.unl, Vs.unl1, Vs.fg, Vs.stE, Vs.tg1, Vs.tg2, Vs.ifE, Vs.yes, Vs.frz, Vs.lcAn, Vs.lcM, Vs.allD, Vs.itsL, Vs.lstB, Vs.lenD, Vs.its, Vs.leD, Vs.ltD, Vs.gtD, Vs.geD, Vs.int2, Vs.fB, Vs.fI, Vs.addD, Vs.isI2, Vs.isT2, Vs.subD, Vs.catT, Vs.catL, Vs.ixD, Vs.ixO, Vs.forA, Vs.forR1, Vs.forR2, Vs.forL, Vs.stp, Vs.stp2, Vs.meV, Vs.mutV, Vs.vL, Vs.gExt, Vs.gApp, Vs.lstF, Vs.tupE, Vs.slV, Vs.sl3, Vs.slD, Vs.tupD, Vs.sumD, Vs.absD, Vs.intD, Vs.lcR1, Vs.lcR2, Vs.lcL, Vs.forZ, Vs.zipD, Vs.repF, Vs.subS, Vs.gSet, Vs.ixV, Vs.eqD, Vs.neD, Vs.isnD, Vs.isbD, Vs.max2D, Vs.asgT, Vs.clI, Vs.Sl.to, Vs.parO, Vs.asI, sgD]⟩
  · exact ⟨rfl, rfl⟩
  · exact ⟨rfl, rfl⟩
theorem sgn_bad {n : Int} : ∀ x ∈ sgnL n, Pl x = true ∧ inR x 1 n = false := fun x hx => by
  unfold sgnL at hx
  simp only [List.mem_cons, List.mem_nil_iff, or_false] at hx
  rcases hx with rfl | rfl | rfl | rfl | rfl | rfl <;> exact ⟨rfl, by simp [Vs.runP, Vs.runI, Vs.io0, Vs.retS, Vs.setS, Vs.setO, Vs.putS, Vs.lf, Vs.sq, Vs.nxt, Vs.ifS, Vs.bnd, Vs.ret, Vs.bad, Vs.opt, Vs.andE, Vs.orE, Vs.notE, Vs.asB, Vs.args, Vs.vV, Vs.vP, Vs.isD, Vs.isO, Vs.tyD, Vs.clD, Vs.kfB, Vs.cl, Vs.b2, Vs.ch, Vs.andT, Vs.orT, Vs.notT, Vs.dropS, Vs.exS, Vs.outB, K74.ite_ev, K74.itA_tup, K74.itA_lst, K74.itA_sq, K74.kit_ii, K74.kit_ib, K74.kit_bi, K74.kit_bb, K74.kit_ni, K74.kit_si, K74.kit_ti, K74.kit_li, K74.kit_di, K74.kit_tt, K74.kit_it, K74.kit_bt, K74.kit_nt, K74.kit_st, K74.kit_lt, K74.kit_dt, Vs.inn, Vs.lend, Vs.unl, Vs.unl1, Vs.fg, Vs.stE, Vs.tg1, Vs.tg2, Vs.ifE, Vs.yes, Vs.frz, Vs.lcAn, Vs.lcM, Vs.allD, Vs.itsL, Vs.lstB, Vs.lenD, Vs.its, Vs.leD, Vs.ltD, Vs.gtD, Vs.geD, Vs.int2, Vs.fB, Vs.fI, Vs.addD, Vs.isI2, Vs.isT2, Vs.subD, Vs.catT, Vs.catL, Vs.ixD, Vs.ixO, Vs.forA, Vs.forR1, Vs.forR2, Vs.forL, Vs.stp, Vs.stp2, Vs.meV, Vs.mutV, Vs.vL, Vs.gExt, Vs.gApp, Vs.lstF, Vs.tupE, Vs.slV, Vs.sl3, Vs.slD, Vs.tupD, Vs.sumD, Vs.absD, Vs.intD, Vs.lcR1, Vs.lcR2, Vs.lcL, Vs.forZ, Vs.zipD, Vs.repF, Vs.subS, Vs.gSet, Vs.ixV, Vs.eqD, Vs.neD, Vs.isnD, Vs.isbD, Vs.max2D, Vs.asgT, Vs.clI, Vs.Sl.to, Vs.parO, Vs.asI, inR] <;> omega⟩
theorem trn_bad : ∀ x ∈ trnL, Pl x = true ∧ inR x 0 200 = false := fun x hx => by
  unfold trnL at hx
  simp only [List.mem_cons, List.mem_nil_iff, or_false] at hx
  rcases hx with rfl | rfl | rfl | rfl | rfl <;> exact ⟨rfl, by simp [Vs.runP, Vs.runI, Vs.io0, Vs.retS, Vs.setS, Vs.setO, Vs.putS, Vs.lf, Vs.sq, Vs.nxt, Vs.ifS, Vs.bnd, Vs.ret, Vs.bad, Vs.opt, Vs.andE, Vs.orE, Vs.notE, Vs.asB, Vs.args, Vs.vV, Vs.vP, Vs.isD, Vs.isO, Vs.tyD, Vs.clD, Vs.kfB, Vs.cl, Vs.b2, Vs.ch, Vs.andT, Vs.orT, Vs.notT, Vs.dropS, Vs.exS, Vs.outB, K74.ite_ev, K74.itA_tup, K74.itA_lst, K74.itA_sq, K74.kit_ii, K74.kit_ib, K74.kit_bi, K74.kit_bb, K74.kit_ni, K74.kit_si, K74.kit_ti, K74.kit_li, K74.kit_di, K74.kit_tt, K74.kit_it, K74.kit_bt, K74.kit_nt, K74.kit_st, K74.kit_lt, K74.kit_dt, Vs.inn, Vs.lend, Vs.unl, Vs.unl1, Vs.fg, Vs.stE, Vs.tg1, Vs.tg2, Vs.ifE, Vs.yes, Vs.frz, Vs.lcAn, Vs.lcM, Vs.allD, Vs.itsL, Vs.lstB, Vs.lenD, Vs.its, Vs.leD, Vs.ltD, Vs.gtD, Vs.geD, Vs.int2, Vs.fB, Vs.fI, Vs.addD, Vs.isI2, Vs.isT2, Vs.subD, Vs.catT, Vs.catL, Vs.ixD, Vs.ixO, Vs.forA, Vs.forR1, Vs.forR2, Vs.forL, Vs.stp, Vs.stp2, Vs.meV, Vs.mutV, Vs.vL, Vs.gExt, Vs.gApp, Vs.lstF, Vs.tupE, Vs.slV, Vs.sl3, Vs.slD, Vs.tupD, Vs.sumD, Vs.absD, Vs.intD, Vs.lcR1, Vs.lcR2, Vs.lcL, Vs.forZ, Vs.zipD, Vs.repF, Vs.subS, Vs.gSet, Vs.ixV, Vs.eqD, Vs.neD, Vs.isnD, Vs.isbD, Vs.max2D, Vs.asgT, Vs.clI, Vs.Sl.to, Vs.parO, Vs.asI, inR]⟩
end K74
namespace K74
open PySem PySem.Spec PyProof.Rows L2 LamX NdefX HotX Vs






theorem row_args {X : M D} {Z : D} {ev : Ev} {n : Int} (h3 : ev[3]? = some (.sh (.int n))) (hX : X ev = .ok Z ev) : args [frz (lstF (args [Vs.ret .non, frz (lstF (args [Vs.ret (.int 1)])), tupE (args [Vs.ret (.int 0)]), tupE (args [b2 addD (vV 3) (Vs.ret (.int 1))]), tupE (args [Vs.ret (.bl true)]), X, Vs.ret (.int 1), Vs.ret (.str "1")]))] ev =
    .ok [.lst [.non, .lst [.int 1], .tup [.int 0], .tup [.int (n + 1)], .tup [.bl true], Z, .int 1, .str "1"]] ev := by
  have b1 : 1 ≤ big := by unfold big; omega
  have b8 : 8 ≤ big := by unfold big; omega
  simp [Vs.runP, Vs.runI, Vs.io0, Vs.retS, Vs.setS, Vs.setO, Vs.putS, Vs.lf, Vs.sq, Vs.nxt, Vs.ifS, Vs.bnd, Vs.ret, Vs.bad, Vs.opt, Vs.andE, Vs.orE, Vs.notE, Vs.asB, Vs.args, Vs.vV, Vs.vP, Vs.isD, Vs.isO, Vs.tyD, Vs.clD, Vs.kfB, Vs.cl, Vs.b2, Vs.ch, Vs.andT, Vs.orT, Vs.notT, Vs.dropS, Vs.exS, Vs.outB, K74.ite_ev, K74.itA_tup, K74.itA_lst, K74.itA_sq, K74.kit_ii, K74.kit_ib, K74.kit_bi, K74.kit_bb, K74.kit_ni, K74.kit_si, K74.kit_ti, K74.kit_li, K74.kit_di, K74.kit_tt, K74.kit_it, K74.kit_bt, K74.kit_nt, K74.kit_st, K74.kit_lt, K74.kit_dt, Vs.inn, Vs.lend, Vs.unl, Vs.unl1, Vs.fg, Vs.stE, Vs.tg1, Vs.tg2, Vs.ifE, Vs.yes, Vs.frz, Vs.lcAn, Vs.lcM, Vs.allD, Vs.itsL, Vs.lstB, Vs.lenD, Vs.its, Vs.leD, Vs.ltD, Vs.gtD, Vs.geD, Vs.int2, Vs.fB, Vs.fI, Vs.addD, Vs.isI2, Vs.isT2, Vs.subD, Vs.catT, Vs.catL, Vs.ixD, Vs.ixO, Vs.forA, Vs.forR1, Vs.forR2, Vs.forL, Vs.stp, Vs.stp2, Vs.meV, Vs.mutV, Vs.vL, Vs.gExt, Vs.gApp, Vs.lstF, Vs.tupE, Vs.slV, Vs.sl3, Vs.slD, Vs.tupD, Vs.sumD, Vs.absD, Vs.intD, Vs.lcR1, Vs.lcR2, Vs.lcL, Vs.forZ, Vs.zipD, Vs.repF, Vs.subS, Vs.gSet, Vs.ixV, Vs.eqD, Vs.neD, Vs.isnD, Vs.isbD, Vs.max2D, Vs.asgT, Vs.clI, Vs.Sl.to, Vs.parO, Vs.asI, h3, hX, b1, b8]
theorem rep_ones {k : Int} {ev : Ev} (h1 : 2 ≤ k) (h2 : k ≤ 1000) : b2 mulD (tupE (args [Vs.ret (.int 1)])) (Vs.ret (.int k)) ev = .ok (.tup (List.replicate k.toNat (.int 1))) ev := by
  have b1 : 1 ≤ big := by unfold big; omega
  have hk : k.toNat ≤ 1000000 := by omega
  have hf : ∀ m : Nat, (List.replicate m [D.int 1]).flatten = List.replicate m (.int 1) := fun m => by
    induction m with
    | zero => rfl
    | succ m ih => rw [List.replicate_succ, List.flatten_cons, ih]; rfl
  simp [Vs.runP, Vs.runI, Vs.io0, Vs.retS, Vs.setS, Vs.setO, Vs.putS, Vs.lf, Vs.sq, Vs.nxt, Vs.ifS, Vs.bnd, Vs.ret, Vs.bad, Vs.opt, Vs.andE, Vs.orE, Vs.notE, Vs.asB, Vs.args, Vs.vV, Vs.vP, Vs.isD, Vs.isO, Vs.tyD, Vs.clD, Vs.kfB, Vs.cl, Vs.b2, Vs.ch, Vs.andT, Vs.orT, Vs.notT, Vs.dropS, Vs.exS, Vs.outB, K74.ite_ev, K74.itA_tup, K74.itA_lst, K74.itA_sq, K74.kit_ii, K74.kit_ib, K74.kit_bi, K74.kit_bb, K74.kit_ni, K74.kit_si, K74.kit_ti, K74.kit_li, K74.kit_di, K74.kit_tt, K74.kit_it, K74.kit_bt, K74.kit_nt, K74.kit_st, K74.kit_lt, K74.kit_dt, Vs.inn, Vs.lend, Vs.unl, Vs.unl1, Vs.fg, Vs.stE, Vs.tg1, Vs.tg2, Vs.ifE, Vs.yes, Vs.frz, Vs.lcAn, Vs.lcM, Vs.allD, Vs.itsL, Vs.lstB, Vs.lenD, Vs.its, Vs.leD, Vs.ltD, Vs.gtD, Vs.geD, Vs.int2, Vs.fB, Vs.fI, Vs.addD, Vs.isI2, Vs.isT2, Vs.subD, Vs.catT, Vs.catL, Vs.ixD, Vs.ixO, Vs.forA, Vs.forR1, Vs.forR2, Vs.forL, Vs.stp, Vs.stp2, Vs.meV, Vs.mutV, Vs.vL, Vs.gExt, Vs.gApp, Vs.lstF, Vs.tupE, Vs.slV, Vs.sl3, Vs.slD, Vs.tupD, Vs.sumD, Vs.absD, Vs.intD, Vs.lcR1, Vs.lcR2, Vs.lcL, Vs.forZ, Vs.zipD, Vs.repF, Vs.subS, Vs.gSet, Vs.ixV, Vs.eqD, Vs.neD, Vs.isnD, Vs.isbD, Vs.max2D, Vs.asgT, Vs.clI, Vs.Sl.to, Vs.parO, Vs.asI, b1, mulD, isTI, repT, h1, hk, hf]
theorem sgn_args {ev : Ev} {n : Int} (h3 : ev[3]? = some (.sh (.int n))) : args [frz (lstF (args [Vs.ret (.int 0), b2 addD (vV 3) (Vs.ret (.int 1)), Vs.ret .non, Vs.ret (.bl true), Vs.ret (.str "1"), tupE (args [Vs.ret (.int 1)])]))] ev = .ok [.lst (sgnL n)] ev := by
  have b1 : 1 ≤ big := by unfold big; omega
  have b6 : 6 ≤ big := by unfold big; omega
  simp [Vs.runP, Vs.runI, Vs.io0, Vs.retS, Vs.setS, Vs.setO, Vs.putS, Vs.lf, Vs.sq, Vs.nxt, Vs.ifS, Vs.bnd, Vs.ret, Vs.bad, Vs.opt, Vs.andE, Vs.orE, Vs.notE, Vs.asB, Vs.args, Vs.vV, Vs.vP, Vs.isD, Vs.isO, Vs.tyD, Vs.clD, Vs.kfB, Vs.cl, Vs.b2, Vs.ch, Vs.andT, Vs.orT, Vs.notT, Vs.dropS, Vs.exS, Vs.outB, K74.ite_ev, K74.itA_tup, K74.itA_lst, K74.itA_sq, K74.kit_ii, K74.kit_ib, K74.kit_bi, K74.kit_bb, K74.kit_ni, K74.kit_si, K74.kit_ti, K74.kit_li, K74.kit_di, K74.kit_tt, K74.kit_it, K74.kit_bt, K74.kit_nt, K74.kit_st, K74.kit_lt, K74.kit_dt, Vs.inn, Vs.lend, Vs.unl, Vs.unl1, Vs.fg, Vs.stE, Vs.tg1, Vs.tg2, Vs.ifE, Vs.yes, Vs.frz, Vs.lcAn, Vs.lcM, Vs.allD, Vs.itsL, Vs.lstB, Vs.lenD, Vs.its, Vs.leD, Vs.ltD, Vs.gtD, Vs.geD, Vs.int2, Vs.fB, Vs.fI, Vs.addD, Vs.isI2, Vs.isT2, Vs.subD, Vs.catT, Vs.catL, Vs.ixD, Vs.ixO, Vs.forA, Vs.forR1, Vs.forR2, Vs.forL, Vs.stp, Vs.stp2, Vs.meV, Vs.mutV, Vs.vL, Vs.gExt, Vs.gApp, Vs.lstF, Vs.tupE, Vs.slV, Vs.sl3, Vs.slD, Vs.tupD, Vs.sumD, Vs.absD, Vs.intD, Vs.lcR1, Vs.lcR2, Vs.lcL, Vs.forZ, Vs.zipD, Vs.repF, Vs.subS, Vs.gSet, Vs.ixV, Vs.eqD, Vs.neD, Vs.isnD, Vs.isbD, Vs.max2D, Vs.asgT, Vs.clI, Vs.Sl.to, Vs.parO, Vs.asI, h3, b1, b6, sgnL]
theorem trn_args {ev : Ev} : args [frz (lstF (args [negD (Vs.ret (.int 1)), Vs.ret (.int 201), Vs.ret .non, Vs.ret (.bl true), Vs.ret (.str "1")]))] ev = .ok [.lst trnL] ev := by
  have b5 : 5 ≤ big := by unfold big; omega
  simp [Vs.runP, Vs.runI, Vs.io0, Vs.retS, Vs.setS, Vs.setO, Vs.putS, Vs.lf, Vs.sq, Vs.nxt, Vs.ifS, Vs.bnd, Vs.ret, Vs.bad, Vs.opt, Vs.andE, Vs.orE, Vs.notE, Vs.asB, Vs.args, Vs.vV, Vs.vP, Vs.isD, Vs.isO, Vs.tyD, Vs.clD, Vs.kfB, Vs.cl, Vs.b2, Vs.ch, Vs.andT, Vs.orT, Vs.notT, Vs.dropS, Vs.exS, Vs.outB, K74.ite_ev, K74.itA_tup, K74.itA_lst, K74.itA_sq, K74.kit_ii, K74.kit_ib, K74.kit_bi, K74.kit_bb, K74.kit_ni, K74.kit_si, K74.kit_ti, K74.kit_li, K74.kit_di, K74.kit_tt, K74.kit_it, K74.kit_bt, K74.kit_nt, K74.kit_st, K74.kit_lt, K74.kit_dt, Vs.inn, Vs.lend, Vs.unl, Vs.unl1, Vs.fg, Vs.stE, Vs.tg1, Vs.tg2, Vs.ifE, Vs.yes, Vs.frz, Vs.lcAn, Vs.lcM, Vs.allD, Vs.itsL, Vs.lstB, Vs.lenD, Vs.its, Vs.leD, Vs.ltD, Vs.gtD, Vs.geD, Vs.int2, Vs.fB, Vs.fI, Vs.addD, Vs.isI2, Vs.isT2, Vs.subD, Vs.catT, Vs.catL, Vs.ixD, Vs.ixO, Vs.forA, Vs.forR1, Vs.forR2, Vs.forL, Vs.stp, Vs.stp2, Vs.meV, Vs.mutV, Vs.vL, Vs.gExt, Vs.gApp, Vs.lstF, Vs.tupE, Vs.slV, Vs.sl3, Vs.slD, Vs.tupD, Vs.sumD, Vs.absD, Vs.intD, Vs.lcR1, Vs.lcR2, Vs.lcL, Vs.forZ, Vs.zipD, Vs.repF, Vs.subS, Vs.gSet, Vs.ixV, Vs.eqD, Vs.neD, Vs.isnD, Vs.isbD, Vs.max2D, Vs.asgT, Vs.clI, Vs.Sl.to, Vs.parO, Vs.asI, b5, trnL, negD]
theorem ask_args (K : PySem.W.Frag) {ev : Ev} : args [frz (lstF (args [Vs.ret (.ref (He.ga K "signs_grown")), Vs.ret (.ref (He.ga K "size_grown"))]))] ev = .ok [.lst [.ref (He.ga K "signs_grown"), .ref (He.ga K "size_grown")]] ev := by
  have b2 : 2 ≤ big := by unfold big; omega
  simp [Vs.runP, Vs.runI, Vs.io0, Vs.retS, Vs.setS, Vs.setO, Vs.putS, Vs.lf, Vs.sq, Vs.nxt, Vs.ifS, Vs.bnd, Vs.ret, Vs.bad, Vs.opt, Vs.andE, Vs.orE, Vs.notE, Vs.asB, Vs.args, Vs.vV, Vs.vP, Vs.isD, Vs.isO, Vs.tyD, Vs.clD, Vs.kfB, Vs.cl, Vs.b2, Vs.ch, Vs.andT, Vs.orT, Vs.notT, Vs.dropS, Vs.exS, Vs.outB, K74.ite_ev, K74.itA_tup, K74.itA_lst, K74.itA_sq, K74.kit_ii, K74.kit_ib, K74.kit_bi, K74.kit_bb, K74.kit_ni, K74.kit_si, K74.kit_ti, K74.kit_li, K74.kit_di, K74.kit_tt, K74.kit_it, K74.kit_bt, K74.kit_nt, K74.kit_st, K74.kit_lt, K74.kit_dt, Vs.inn, Vs.lend, Vs.unl, Vs.unl1, Vs.fg, Vs.stE, Vs.tg1, Vs.tg2, Vs.ifE, Vs.yes, Vs.frz, Vs.lcAn, Vs.lcM, Vs.allD, Vs.itsL, Vs.lstB, Vs.lenD, Vs.its, Vs.leD, Vs.ltD, Vs.gtD, Vs.geD, Vs.int2, Vs.fB, Vs.fI, Vs.addD, Vs.isI2, Vs.isT2, Vs.subD, Vs.catT, Vs.catL, Vs.ixD, Vs.ixO, Vs.forA, Vs.forR1, Vs.forR2, Vs.forL, Vs.stp, Vs.stp2, Vs.meV, Vs.mutV, Vs.vL, Vs.gExt, Vs.gApp, Vs.lstF, Vs.tupE, Vs.slV, Vs.sl3, Vs.slD, Vs.tupD, Vs.sumD, Vs.absD, Vs.intD, Vs.lcR1, Vs.lcR2, Vs.lcL, Vs.forZ, Vs.zipD, Vs.repF, Vs.subS, Vs.gSet, Vs.ixV, Vs.eqD, Vs.neD, Vs.isnD, Vs.isbD, Vs.max2D, Vs.asgT, Vs.clI, Vs.Sl.to, Vs.parO, Vs.asI, b2]
def dueL : List D := [.str "rule", .str "rule", .str "signs", .str "signs", .str "number", .str "rule", .str "sign", .str "number"]
theorem due_frz {ev : Ev} : frz (lstF (args [Vs.ret (.str "rule"), Vs.ret (.str "rule"), Vs.ret (.str "signs"), Vs.ret (.str "signs"), Vs.ret (.str "number"), Vs.ret (.str "rule"), Vs.ret (.str "sign"), Vs.ret (.str "number")])) ev = .ok (.lst dueL) ev := by
  have b8 : 8 ≤ big := by unfold big; omega
  simp [Vs.runP, Vs.runI, Vs.io0, Vs.retS, Vs.setS, Vs.setO, Vs.putS, Vs.lf, Vs.sq, Vs.nxt, Vs.ifS, Vs.bnd, Vs.ret, Vs.bad, Vs.opt, Vs.andE, Vs.orE, Vs.notE, Vs.asB, Vs.args, Vs.vV, Vs.vP, Vs.isD, Vs.isO, Vs.tyD, Vs.clD, Vs.kfB, Vs.cl, Vs.b2, Vs.ch, Vs.andT, Vs.orT, Vs.notT, Vs.dropS, Vs.exS, Vs.outB, K74.ite_ev, K74.itA_tup, K74.itA_lst, K74.itA_sq, K74.kit_ii, K74.kit_ib, K74.kit_bi, K74.kit_bb, K74.kit_ni, K74.kit_si, K74.kit_ti, K74.kit_li, K74.kit_di, K74.kit_tt, K74.kit_it, K74.kit_bt, K74.kit_nt, K74.kit_st, K74.kit_lt, K74.kit_dt, Vs.inn, Vs.lend, Vs.unl, Vs.unl1, Vs.fg, Vs.stE, Vs.tg1, Vs.tg2, Vs.ifE, Vs.yes, Vs.frz, Vs.lcAn, Vs.lcM, Vs.allD, Vs.itsL, Vs.lstB, Vs.lenD, Vs.its, Vs.leD, Vs.ltD, Vs.gtD, Vs.geD, Vs.int2, Vs.fB, Vs.fI, Vs.addD, Vs.isI2, Vs.isT2, Vs.subD, Vs.catT, Vs.catL, Vs.ixD, Vs.ixO, Vs.forA, Vs.forR1, Vs.forR2, Vs.forL, Vs.stp, Vs.stp2, Vs.meV, Vs.mutV, Vs.vL, Vs.gExt, Vs.gApp, Vs.lstF, Vs.tupE, Vs.slV, Vs.sl3, Vs.slD, Vs.tupD, Vs.sumD, Vs.absD, Vs.intD, Vs.lcR1, Vs.lcR2, Vs.lcL, Vs.forZ, Vs.zipD, Vs.repF, Vs.subS, Vs.gSet, Vs.ixV, Vs.eqD, Vs.neD, Vs.isnD, Vs.isbD, Vs.max2D, Vs.asgT, Vs.clI, Vs.Sl.to, Vs.parO, Vs.asI, b8, dueL]
theorem due_eq {ev : Ev} : eqD (.lst dueL) (.lst dueL) ev = .ok (.bl true) ev := by
  have e : eqO (.lst dueL) (.lst dueL) = some true := by decide +kernel
  unfold eqD
  rw [e]
  rfl
/-- what is asked raises -/
def AskEx (K : PySem.W.Frag) (a : Addr) : Prop := ∃ r, fnL K [("signs_grown", r_signs_grown K), ("size_grown", r_size_grown K)] a = some r ∧
  (∀ {x y z : D} {C : Addr}, r_check_sign K [x, y] = .ex C [] [] → r [x, y, z] = .ex C [] []) ∧ (∀ {x y z : D} {C : Addr}, r_check_sign K [x, y] = .ok .non [] → r_check_times K [z] = .ex C [] [] → r [x, y, z] = .ex C [] [])
theorem ask_ex (K : PySem.W.Frag) {x : D} (h : x ∈ [D.ref (He.ga K "signs_grown"), D.ref (He.ga K "size_grown")]) : ∃ a, x = .ref a ∧ AskEx K a := by
  have s1 : AskEx K (He.ga K "signs_grown") := ⟨r_signs_grown K, by unfold fnL; rw [if_pos rfl], fun c => sg_ex K c, fun c c2 => sg_ex2 K c c2⟩
  simp only [List.mem_cons, List.mem_nil_iff, or_false] at h
  rcases h with rfl | rfl
  · exact ⟨_, rfl, s1⟩
  · refine ⟨_, rfl, ?_⟩
    by_cases e : He.ga K "size_grown" = He.ga K "signs_grown"
    · rw [e]; exact s1
    · exact ⟨r_size_grown K, by unfold fnL; rw [if_neg e]; unfold fnL; rw [if_pos rfl], fun c => zg_ex K c, fun c c2 => zg_ex2 K c c2⟩
theorem clV_ex {i : Nat} {fn : Addr → Option (List D → Rc)} {r : List D → Rc} {fs : M (List D)} {ev : Ev} {a C : Addr} {ds : List D} {gs : List (Str × D)} {io : List D} (h0 : ev[i]? = some (.sh (.ref a))) (hr : fn a = some r) (h : fs ev = .ok ds ev) (e : r ds = .ex C gs io) : clV i fn fs ev = .ex C gs ev := by
  unfold clV
  rw [bnd_ok (vP_sh h0)]
  simp only [hr]
  exact cl_ex h e
end K74
namespace K74
open PySem PySem.Spec PyProof.Rows L2 LamX NdefX HotX Vs






theorem any_at (K : PySem.W.Frag) {h h' : Hnd} {fs : M (List D)} {ev1 : Ev} {es : List D} {x : D} {tl : Ev} {f : List D → List D → Rc} (h1 : fs (.io h.ds :: tl) = .ok es (.io h.ds :: tl)) (e : f h.ds es = .ok x h'.ds) : clI 0 f fs (.io h.ds :: tl) = .ok x (.io h'.ds :: tl) := clI_io (i := 0) rfl h1 rfl e
theorem isb_t {f g : M D} {ev : Ev} {b : Bool} (h1 : f ev = .ok (.bl b) ev) (h2 : g ev = .ok (.bl b) ev) : asB (b2 (isbD true) f g) ev = .ok false ev := by
  refine asB_ok ((b2_ok h1 h2).trans ?_)
  simp [Vs.runP, Vs.runI, Vs.io0, Vs.retS, Vs.setS, Vs.setO, Vs.putS, Vs.lf, Vs.sq, Vs.nxt, Vs.ifS, Vs.bnd, Vs.ret, Vs.bad, Vs.opt, Vs.andE, Vs.orE, Vs.notE, Vs.asB, Vs.args, Vs.vV, Vs.vP, Vs.isD, Vs.isO, Vs.tyD, Vs.clD, Vs.kfB, Vs.cl, Vs.b2, Vs.ch, Vs.andT, Vs.orT, Vs.notT, Vs.dropS, Vs.exS, Vs.outB, K74.ite_ev, K74.itA_tup, K74.itA_lst, K74.itA_sq, K74.kit_ii, K74.kit_ib, K74.kit_bi, K74.kit_bb, K74.kit_ni, K74.kit_si, K74.kit_ti, K74.kit_li, K74.kit_di, K74.kit_tt, K74.kit_it, K74.kit_bt, K74.kit_nt, K74.kit_st, K74.kit_lt, K74.kit_dt, Vs.inn, Vs.lend, Vs.unl, Vs.unl1, Vs.fg, Vs.stE, Vs.tg1, Vs.tg2, Vs.ifE, Vs.yes, Vs.frz, Vs.lcAn, Vs.lcM, Vs.allD, Vs.itsL, Vs.lstB, Vs.lenD, Vs.its, Vs.leD, Vs.ltD, Vs.gtD, Vs.geD, Vs.int2, Vs.fB, Vs.fI, Vs.addD, Vs.isI2, Vs.isT2, Vs.subD, Vs.catT, Vs.catL, Vs.ixD, Vs.ixO, Vs.forA, Vs.forR1, Vs.forR2, Vs.forL, Vs.stp, Vs.stp2, Vs.meV, Vs.mutV, Vs.vL, Vs.gExt, Vs.gApp, Vs.lstF, Vs.tupE, Vs.slV, Vs.sl3, Vs.slD, Vs.tupD, Vs.sumD, Vs.absD, Vs.intD, Vs.lcR1, Vs.lcR2, Vs.lcL, Vs.forZ, Vs.zipD, Vs.repF, Vs.subS, Vs.gSet, Vs.ixV, Vs.eqD, Vs.neD, Vs.isnD, Vs.isbD, Vs.max2D, Vs.asgT, Vs.clI, Vs.Sl.to, Vs.parO, Vs.asI]
theorem app_err (K : PySem.W.Frag) {C : Addr} {x : Str} {f : M D} {i : Nat} {ev : Ev} {ws : List D} {gs : List (Str × D)} (h : Ke K) (he : Er K C x) (h0 : ev[i]? = some (.ol ws)) (hl : ws.length < 100) (hf : f (lend ev) = .ex C gs (lend ev)) : dropS (meV i (args [errM K (He.ga K "NumeralError") "let" 4 (ms__law_error K) f]) gApp) ev = .nx (ev.set i (.ol (ws ++ [.str x]))) :=
  dropS_ok (meApp_ok h0 (args_ok (errM_ok h he hf) args_nil) h0 (by unfold big; omega))
theorem set_err (K : PySem.W.Frag) {C : Addr} {x : Str} {f : M D} {i : Nat} {ev : Ev} {gs : List (Str × D)} (h : Ke K) (he : Er K C x) (hf : f (lend ev) = .ex C gs (lend ev)) : setO i (lstF (args [errM K (He.ga K "NumeralError") "let" 4 (ms__law_error K) f])) ev = .nx (ev.set i (.ol [.str x])) := by
  refine setO_ok ?_
  unfold lstF
  rw [bnd_ok (args_ok (errM_ok h he hf) args_nil), if_pos (by unfold big; simp [Vs.runP, Vs.runI, Vs.io0, Vs.retS, Vs.setS, Vs.setO, Vs.putS, Vs.lf, Vs.sq, Vs.nxt, Vs.ifS, Vs.bnd, Vs.ret, Vs.bad, Vs.opt, Vs.andE, Vs.orE, Vs.notE, Vs.asB, Vs.args, Vs.vV, Vs.vP, Vs.isD, Vs.isO, Vs.tyD, Vs.clD, Vs.kfB, Vs.cl, Vs.b2, Vs.ch, Vs.andT, Vs.orT, Vs.notT, Vs.dropS, Vs.exS, Vs.outB, K74.ite_ev, K74.itA_tup, K74.itA_lst, K74.itA_sq, K74.kit_ii, K74.kit_ib, K74.kit_bi, K74.kit_bb, K74.kit_ni, K74.kit_si, K74.kit_ti, K74.kit_li, K74.kit_di, K74.kit_tt, K74.kit_it, K74.kit_bt, K74.kit_nt, K74.kit_st, K74.kit_lt, K74.kit_dt, Vs.inn, Vs.lend, Vs.unl, Vs.unl1, Vs.fg, Vs.stE, Vs.tg1, Vs.tg2, Vs.ifE, Vs.yes, Vs.frz, Vs.lcAn, Vs.lcM, Vs.allD, Vs.itsL, Vs.lstB, Vs.lenD, Vs.its, Vs.leD, Vs.ltD, Vs.gtD, Vs.geD, Vs.int2, Vs.fB, Vs.fI, Vs.addD, Vs.isI2, Vs.isT2, Vs.subD, Vs.catT, Vs.catL, Vs.ixD, Vs.ixO, Vs.forA, Vs.forR1, Vs.forR2, Vs.forL, Vs.stp, Vs.stp2, Vs.meV, Vs.mutV, Vs.vL, Vs.gExt, Vs.gApp, Vs.lstF, Vs.tupE, Vs.slV, Vs.sl3, Vs.slD, Vs.tupD, Vs.sumD, Vs.absD, Vs.intD, Vs.lcR1, Vs.lcR2, Vs.lcL, Vs.forZ, Vs.zipD, Vs.repF, Vs.subS, Vs.gSet, Vs.ixV, Vs.eqD, Vs.neD, Vs.isnD, Vs.isbD, Vs.max2D, Vs.asgT, Vs.clI, Vs.Sl.to, Vs.parO, Vs.asI])]
  rfl
theorem refused_ok (K : PySem.W.Frag) {h : Hnd} {n : Nat} {rule : List (List Int)} (he : Ke K) (hr : RuOk rule) (h5 : rule.length ≤ 5) (k : h.Ok n) (hn : n < 2 ^ 48) : ∃ h' : Hnd, r__law_refused_right K h.ds [RD rule] = .ok (.bl true) h'.ds ∧ h'.Ok (n + 20) := by
  have hlo := hr.lo
  obtain ⟨h1, bad, e1, pb, rb, k1⟩ := bent_ok K hr h5 k hn
  obtain ⟨h2, row, e2, m2, k2⟩ := any_ok K (xs := rowL rule.length) k1 (by simp [Vs.runP, Vs.runI, Vs.io0, Vs.retS, Vs.setS, Vs.setO, Vs.putS, Vs.lf, Vs.sq, Vs.nxt, Vs.ifS, Vs.bnd, Vs.ret, Vs.bad, Vs.opt, Vs.andE, Vs.orE, Vs.notE, Vs.asB, Vs.args, Vs.vV, Vs.vP, Vs.isD, Vs.isO, Vs.tyD, Vs.clD, Vs.kfB, Vs.cl, Vs.b2, Vs.ch, Vs.andT, Vs.orT, Vs.notT, Vs.dropS, Vs.exS, Vs.outB, K74.ite_ev, K74.itA_tup, K74.itA_lst, K74.itA_sq, K74.kit_ii, K74.kit_ib, K74.kit_bi, K74.kit_bb, K74.kit_ni, K74.kit_si, K74.kit_ti, K74.kit_li, K74.kit_di, K74.kit_tt, K74.kit_it, K74.kit_bt, K74.kit_nt, K74.kit_st, K74.kit_lt, K74.kit_dt, Vs.inn, Vs.lend, Vs.unl, Vs.unl1, Vs.fg, Vs.stE, Vs.tg1, Vs.tg2, Vs.ifE, Vs.yes, Vs.frz, Vs.lcAn, Vs.lcM, Vs.allD, Vs.itsL, Vs.lstB, Vs.lenD, Vs.its, Vs.leD, Vs.ltD, Vs.gtD, Vs.geD, Vs.int2, Vs.fB, Vs.fI, Vs.addD, Vs.isI2, Vs.isT2, Vs.subD, Vs.catT, Vs.catL, Vs.ixD, Vs.ixO, Vs.forA, Vs.forR1, Vs.forR2, Vs.forL, Vs.stp, Vs.stp2, Vs.meV, Vs.mutV, Vs.vL, Vs.gExt, Vs.gApp, Vs.lstF, Vs.tupE, Vs.slV, Vs.sl3, Vs.slD, Vs.tupD, Vs.sumD, Vs.absD, Vs.intD, Vs.lcR1, Vs.lcR2, Vs.lcL, Vs.forZ, Vs.zipD, Vs.repF, Vs.subS, Vs.gSet, Vs.ixV, Vs.eqD, Vs.neD, Vs.isnD, Vs.isbD, Vs.max2D, Vs.asgT, Vs.clI, Vs.Sl.to, Vs.parO, Vs.asI, rowL]) (by simp [Vs.runP, Vs.runI, Vs.io0, Vs.retS, Vs.setS, Vs.setO, Vs.putS, Vs.lf, Vs.sq, Vs.nxt, Vs.ifS, Vs.bnd, Vs.ret, Vs.bad, Vs.opt, Vs.andE, Vs.orE, Vs.notE, Vs.asB, Vs.args, Vs.vV, Vs.vP, Vs.isD, Vs.isO, Vs.tyD, Vs.clD, Vs.kfB, Vs.cl, Vs.b2, Vs.ch, Vs.andT, Vs.orT, Vs.notT, Vs.dropS, Vs.exS, Vs.outB, K74.ite_ev, K74.itA_tup, K74.itA_lst, K74.itA_sq, K74.kit_ii, K74.kit_ib, K74.kit_bi, K74.kit_bb, K74.kit_ni, K74.kit_si, K74.kit_ti, K74.kit_li, K74.kit_di, K74.kit_tt, K74.kit_it, K74.kit_bt, K74.kit_nt, K74.kit_st, K74.kit_lt, K74.kit_dt, Vs.inn, Vs.lend, Vs.unl, Vs.unl1, Vs.fg, Vs.stE, Vs.tg1, Vs.tg2, Vs.ifE, Vs.yes, Vs.frz, Vs.lcAn, Vs.lcM, Vs.allD, Vs.itsL, Vs.lstB, Vs.lenD, Vs.its, Vs.leD, Vs.ltD, Vs.gtD, Vs.geD, Vs.int2, Vs.fB, Vs.fI, Vs.addD, Vs.isI2, Vs.isT2, Vs.subD, Vs.catT, Vs.catL, Vs.ixD, Vs.ixO, Vs.forA, Vs.forR1, Vs.forR2, Vs.forL, Vs.stp, Vs.stp2, Vs.meV, Vs.mutV, Vs.vL, Vs.gExt, Vs.gApp, Vs.lstF, Vs.tupE, Vs.slV, Vs.sl3, Vs.slD, Vs.tupD, Vs.sumD, Vs.absD, Vs.intD, Vs.lcR1, Vs.lcR2, Vs.lcL, Vs.forZ, Vs.zipD, Vs.repF, Vs.subS, Vs.gSet, Vs.ixV, Vs.eqD, Vs.neD, Vs.isnD, Vs.isbD, Vs.max2D, Vs.asgT, Vs.clI, Vs.Sl.to, Vs.parO, Vs.asI, rowL]) (by omega)
  obtain ⟨h3, sg, e3, m3, k3⟩ := any_ok K (xs := sgnL rule.length) k2 (by simp [Vs.runP, Vs.runI, Vs.io0, Vs.retS, Vs.setS, Vs.setO, Vs.putS, Vs.lf, Vs.sq, Vs.nxt, Vs.ifS, Vs.bnd, Vs.ret, Vs.bad, Vs.opt, Vs.andE, Vs.orE, Vs.notE, Vs.asB, Vs.args, Vs.vV, Vs.vP, Vs.isD, Vs.isO, Vs.tyD, Vs.clD, Vs.kfB, Vs.cl, Vs.b2, Vs.ch, Vs.andT, Vs.orT, Vs.notT, Vs.dropS, Vs.exS, Vs.outB, K74.ite_ev, K74.itA_tup, K74.itA_lst, K74.itA_sq, K74.kit_ii, K74.kit_ib, K74.kit_bi, K74.kit_bb, K74.kit_ni, K74.kit_si, K74.kit_ti, K74.kit_li, K74.kit_di, K74.kit_tt, K74.kit_it, K74.kit_bt, K74.kit_nt, K74.kit_st, K74.kit_lt, K74.kit_dt, Vs.inn, Vs.lend, Vs.unl, Vs.unl1, Vs.fg, Vs.stE, Vs.tg1, Vs.tg2, Vs.ifE, Vs.yes, Vs.frz, Vs.lcAn, Vs.lcM, Vs.allD, Vs.itsL, Vs.lstB, Vs.lenD, Vs.its, Vs.leD, Vs.ltD, Vs.gtD, Vs.geD, Vs.int2, Vs.fB, Vs.fI, Vs.addD, Vs.isI2, Vs.isT2, Vs.subD, Vs.catT, Vs.catL, Vs.ixD, Vs.ixO, Vs.forA, Vs.forR1, Vs.forR2, Vs.forL, Vs.stp, Vs.stp2, Vs.meV, Vs.mutV, Vs.vL, Vs.gExt, Vs.gApp, Vs.lstF, Vs.tupE, Vs.slV, Vs.sl3, Vs.slD, Vs.tupD, Vs.sumD, Vs.absD, Vs.intD, Vs.lcR1, Vs.lcR2, Vs.lcL, Vs.forZ, Vs.zipD, Vs.repF, Vs.subS, Vs.gSet, Vs.ixV, Vs.eqD, Vs.neD, Vs.isnD, Vs.isbD, Vs.max2D, Vs.asgT, Vs.clI, Vs.Sl.to, Vs.parO, Vs.asI, sgnL]) (by simp [Vs.runP, Vs.runI, Vs.io0, Vs.retS, Vs.setS, Vs.setO, Vs.putS, Vs.lf, Vs.sq, Vs.nxt, Vs.ifS, Vs.bnd, Vs.ret, Vs.bad, Vs.opt, Vs.andE, Vs.orE, Vs.notE, Vs.asB, Vs.args, Vs.vV, Vs.vP, Vs.isD, Vs.isO, Vs.tyD, Vs.clD, Vs.kfB, Vs.cl, Vs.b2, Vs.ch, Vs.andT, Vs.orT, Vs.notT, Vs.dropS, Vs.exS, Vs.outB, K74.ite_ev, K74.itA_tup, K74.itA_lst, K74.itA_sq, K74.kit_ii, K74.kit_ib, K74.kit_bi, K74.kit_bb, K74.kit_ni, K74.kit_si, K74.kit_ti, K74.kit_li, K74.kit_di, K74.kit_tt, K74.kit_it, K74.kit_bt, K74.kit_nt, K74.kit_st, K74.kit_lt, K74.kit_dt, Vs.inn, Vs.lend, Vs.unl, Vs.unl1, Vs.fg, Vs.stE, Vs.tg1, Vs.tg2, Vs.ifE, Vs.yes, Vs.frz, Vs.lcAn, Vs.lcM, Vs.allD, Vs.itsL, Vs.lstB, Vs.lenD, Vs.its, Vs.leD, Vs.ltD, Vs.gtD, Vs.geD, Vs.int2, Vs.fB, Vs.fI, Vs.addD, Vs.isI2, Vs.isT2, Vs.subD, Vs.catT, Vs.catL, Vs.ixD, Vs.ixO, Vs.forA, Vs.forR1, Vs.forR2, Vs.forL, Vs.stp, Vs.stp2, Vs.meV, Vs.mutV, Vs.vL, Vs.gExt, Vs.gApp, Vs.lstF, Vs.tupE, Vs.slV, Vs.sl3, Vs.slD, Vs.tupD, Vs.sumD, Vs.absD, Vs.intD, Vs.lcR1, Vs.lcR2, Vs.lcL, Vs.forZ, Vs.zipD, Vs.repF, Vs.subS, Vs.gSet, Vs.ixV, Vs.eqD, Vs.neD, Vs.isnD, Vs.isbD, Vs.max2D, Vs.asgT, Vs.clI, Vs.Sl.to, Vs.parO, Vs.asI, sgnL]) (by omega)
  obtain ⟨h4, tn, e4, m4, k4⟩ := any_ok K (xs := trnL) k3 (by simp [Vs.runP, Vs.runI, Vs.io0, Vs.retS, Vs.setS, Vs.setO, Vs.putS, Vs.lf, Vs.sq, Vs.nxt, Vs.ifS, Vs.bnd, Vs.ret, Vs.bad, Vs.opt, Vs.andE, Vs.orE, Vs.notE, Vs.asB, Vs.args, Vs.vV, Vs.vP, Vs.isD, Vs.isO, Vs.tyD, Vs.clD, Vs.kfB, Vs.cl, Vs.b2, Vs.ch, Vs.andT, Vs.orT, Vs.notT, Vs.dropS, Vs.exS, Vs.outB, K74.ite_ev, K74.itA_tup, K74.itA_lst, K74.itA_sq, K74.kit_ii, K74.kit_ib, K74.kit_bi, K74.kit_bb, K74.kit_ni, K74.kit_si, K74.kit_ti, K74.kit_li, K74.kit_di, K74.kit_tt, K74.kit_it, K74.kit_bt, K74.kit_nt, K74.kit_st, K74.kit_lt, K74.kit_dt, Vs.inn, Vs.lend, Vs.unl, Vs.unl1, Vs.fg, Vs.stE, Vs.tg1, Vs.tg2, Vs.ifE, Vs.yes, Vs.frz, Vs.lcAn, Vs.lcM, Vs.allD, Vs.itsL, Vs.lstB, Vs.lenD, Vs.its, Vs.leD, Vs.ltD, Vs.gtD, Vs.geD, Vs.int2, Vs.fB, Vs.fI, Vs.addD, Vs.isI2, Vs.isT2, Vs.subD, Vs.catT, Vs.catL, Vs.ixD, Vs.ixO, Vs.forA, Vs.forR1, Vs.forR2, Vs.forL, Vs.stp, Vs.stp2, Vs.meV, Vs.mutV, Vs.vL, Vs.gExt, Vs.gApp, Vs.lstF, Vs.tupE, Vs.slV, Vs.sl3, Vs.slD, Vs.tupD, Vs.sumD, Vs.absD, Vs.intD, Vs.lcR1, Vs.lcR2, Vs.lcL, Vs.forZ, Vs.zipD, Vs.repF, Vs.subS, Vs.gSet, Vs.ixV, Vs.eqD, Vs.neD, Vs.isnD, Vs.isbD, Vs.max2D, Vs.asgT, Vs.clI, Vs.Sl.to, Vs.parO, Vs.asI, trnL]) (by simp [Vs.runP, Vs.runI, Vs.io0, Vs.retS, Vs.setS, Vs.setO, Vs.putS, Vs.lf, Vs.sq, Vs.nxt, Vs.ifS, Vs.bnd, Vs.ret, Vs.bad, Vs.opt, Vs.andE, Vs.orE, Vs.notE, Vs.asB, Vs.args, Vs.vV, Vs.vP, Vs.isD, Vs.isO, Vs.tyD, Vs.clD, Vs.kfB, Vs.cl, Vs.b2, Vs.ch, Vs.andT, Vs.orT, Vs.notT, Vs.dropS, Vs.exS, Vs.outB, K74.ite_ev, K74.itA_tup, K74.itA_lst, K74.itA_sq, K74.kit_ii, K74.kit_ib, K74.kit_bi, K74.kit_bb, K74.kit_ni, K74.kit_si, K74.kit_ti, K74.kit_li, K74.kit_di, K74.kit_tt, K74.kit_it, K74.kit_bt, K74.kit_nt, K74.kit_st, K74.kit_lt, K74.kit_dt, Vs.inn, Vs.lend, Vs.unl, Vs.unl1, Vs.fg, Vs.stE, Vs.tg1, Vs.tg2, Vs.ifE, Vs.yes, Vs.frz, Vs.lcAn, Vs.lcM, Vs.allD, Vs.itsL, Vs.lstB, Vs.lenD, Vs.its, Vs.leD, Vs.ltD, Vs.gtD, Vs.geD, Vs.int2, Vs.fB, Vs.fI, Vs.addD, Vs.isI2, Vs.isT2, Vs.subD, Vs.catT, Vs.catL, Vs.ixD, Vs.ixO, Vs.forA, Vs.forR1, Vs.forR2, Vs.forL, Vs.stp, Vs.stp2, Vs.meV, Vs.mutV, Vs.vL, Vs.gExt, Vs.gApp, Vs.lstF, Vs.tupE, Vs.slV, Vs.sl3, Vs.slD, Vs.tupD, Vs.sumD, Vs.absD, Vs.intD, Vs.lcR1, Vs.lcR2, Vs.lcL, Vs.forZ, Vs.zipD, Vs.repF, Vs.subS, Vs.gSet, Vs.ixV, Vs.eqD, Vs.neD, Vs.isnD, Vs.isbD, Vs.max2D, Vs.asgT, Vs.clI, Vs.Sl.to, Vs.parO, Vs.asI, trnL]) (by omega)
  obtain ⟨h5', ask, e5, m5, k5⟩ := any_ok K (xs := [D.ref (He.ga K "signs_grown"), D.ref (He.ga K "size_grown")]) k4 (by simp [Vs.runP, Vs.runI, Vs.io0, Vs.retS, Vs.setS, Vs.setO, Vs.putS, Vs.lf, Vs.sq, Vs.nxt, Vs.ifS, Vs.bnd, Vs.ret, Vs.bad, Vs.opt, Vs.andE, Vs.orE, Vs.notE, Vs.asB, Vs.args, Vs.vV, Vs.vP, Vs.isD, Vs.isO, Vs.tyD, Vs.clD, Vs.kfB, Vs.cl, Vs.b2, Vs.ch, Vs.andT, Vs.orT, Vs.notT, Vs.dropS, Vs.exS, Vs.outB, K74.ite_ev, K74.itA_tup, K74.itA_lst, K74.itA_sq, K74.kit_ii, K74.kit_ib, K74.kit_bi, K74.kit_bb, K74.kit_ni, K74.kit_si, K74.kit_ti, K74.kit_li, K74.kit_di, K74.kit_tt, K74.kit_it, K74.kit_bt, K74.kit_nt, K74.kit_st, K74.kit_lt, K74.kit_dt, Vs.inn, Vs.lend, Vs.unl, Vs.unl1, Vs.fg, Vs.stE, Vs.tg1, Vs.tg2, Vs.ifE, Vs.yes, Vs.frz, Vs.lcAn, Vs.lcM, Vs.allD, Vs.itsL, Vs.lstB, Vs.lenD, Vs.its, Vs.leD, Vs.ltD, Vs.gtD, Vs.geD, Vs.int2, Vs.fB, Vs.fI, Vs.addD, Vs.isI2, Vs.isT2, Vs.subD, Vs.catT, Vs.catL, Vs.ixD, Vs.ixO, Vs.forA, Vs.forR1, Vs.forR2, Vs.forL, Vs.stp, Vs.stp2, Vs.meV, Vs.mutV, Vs.vL, Vs.gExt, Vs.gApp, Vs.lstF, Vs.tupE, Vs.slV, Vs.sl3, Vs.slD, Vs.tupD, Vs.sumD, Vs.absD, Vs.intD, Vs.lcR1, Vs.lcR2, Vs.lcL, Vs.forZ, Vs.zipD, Vs.repF, Vs.subS, Vs.gSet, Vs.ixV, Vs.eqD, Vs.neD, Vs.isnD, Vs.isbD, Vs.max2D, Vs.asgT, Vs.clI, Vs.Sl.to, Vs.parO, Vs.asI]) (by simp [Vs.runP, Vs.runI, Vs.io0, Vs.retS, Vs.setS, Vs.setO, Vs.putS, Vs.lf, Vs.sq, Vs.nxt, Vs.ifS, Vs.bnd, Vs.ret, Vs.bad, Vs.opt, Vs.andE, Vs.orE, Vs.notE, Vs.asB, Vs.args, Vs.vV, Vs.vP, Vs.isD, Vs.isO, Vs.tyD, Vs.clD, Vs.kfB, Vs.cl, Vs.b2, Vs.ch, Vs.andT, Vs.orT, Vs.notT, Vs.dropS, Vs.exS, Vs.outB, K74.ite_ev, K74.itA_tup, K74.itA_lst, K74.itA_sq, K74.kit_ii, K74.kit_ib, K74.kit_bi, K74.kit_bb, K74.kit_ni, K74.kit_si, K74.kit_ti, K74.kit_li, K74.kit_di, K74.kit_tt, K74.kit_it, K74.kit_bt, K74.kit_nt, K74.kit_st, K74.kit_lt, K74.kit_dt, Vs.inn, Vs.lend, Vs.unl, Vs.unl1, Vs.fg, Vs.stE, Vs.tg1, Vs.tg2, Vs.ifE, Vs.yes, Vs.frz, Vs.lcAn, Vs.lcM, Vs.allD, Vs.itsL, Vs.lstB, Vs.lenD, Vs.its, Vs.leD, Vs.ltD, Vs.gtD, Vs.geD, Vs.int2, Vs.fB, Vs.fI, Vs.addD, Vs.isI2, Vs.isT2, Vs.subD, Vs.catT, Vs.catL, Vs.ixD, Vs.ixO, Vs.forA, Vs.forR1, Vs.forR2, Vs.forL, Vs.stp, Vs.stp2, Vs.meV, Vs.mutV, Vs.vL, Vs.gExt, Vs.gApp, Vs.lstF, Vs.tupE, Vs.slV, Vs.sl3, Vs.slD, Vs.tupD, Vs.sumD, Vs.absD, Vs.intD, Vs.lcR1, Vs.lcR2, Vs.lcL, Vs.forZ, Vs.zipD, Vs.repF, Vs.subS, Vs.gSet, Vs.ixV, Vs.eqD, Vs.neD, Vs.isnD, Vs.isbD, Vs.max2D, Vs.asgT, Vs.clI, Vs.Sl.to, Vs.parO, Vs.asI]) (by omega)
  obtain ⟨a, rfl, r, hfn, ask1, ask2⟩ := ask_ex K m5
  obtain ⟨p2, q2⟩ := row_bad row m2
  obtain ⟨p3, q3⟩ := sgn_bad sg m3
  obtain ⟨p4, q4⟩ := trn_bad tn m4
  refine ⟨h5', ?_, k5.mono (by omega)⟩
  have c_bad := is_rule_eq K pb
  have c_rule := is_rule_eq K hr.Plr
  rw [rb] at c_bad
  rw [hr.isRu] at c_rule
  have d1 := check_signs_eq K pb p2
  rw [rb] at d1
  have d2 := check_signs_eq K hr.Plr p2
  rw [hr.isRu, lenD0_RD, q2] at d2
  have d3 := check_signs_eq K hr.Plr (Pls_ID (ns := [1]) (by unfold big; simp [Vs.runP, Vs.runI, Vs.io0, Vs.retS, Vs.setS, Vs.setO, Vs.putS, Vs.lf, Vs.sq, Vs.nxt, Vs.ifS, Vs.bnd, Vs.ret, Vs.bad, Vs.opt, Vs.andE, Vs.orE, Vs.notE, Vs.asB, Vs.args, Vs.vV, Vs.vP, Vs.isD, Vs.isO, Vs.tyD, Vs.clD, Vs.kfB, Vs.cl, Vs.b2, Vs.ch, Vs.andT, Vs.orT, Vs.notT, Vs.dropS, Vs.exS, Vs.outB, K74.ite_ev, K74.itA_tup, K74.itA_lst, K74.itA_sq, K74.kit_ii, K74.kit_ib, K74.kit_bi, K74.kit_bb, K74.kit_ni, K74.kit_si, K74.kit_ti, K74.kit_li, K74.kit_di, K74.kit_tt, K74.kit_it, K74.kit_bt, K74.kit_nt, K74.kit_st, K74.kit_lt, K74.kit_dt, Vs.inn, Vs.lend, Vs.unl, Vs.unl1, Vs.fg, Vs.stE, Vs.tg1, Vs.tg2, Vs.ifE, Vs.yes, Vs.frz, Vs.lcAn, Vs.lcM, Vs.allD, Vs.itsL, Vs.lstB, Vs.lenD, Vs.its, Vs.leD, Vs.ltD, Vs.gtD, Vs.geD, Vs.int2, Vs.fB, Vs.fI, Vs.addD, Vs.isI2, Vs.isT2, Vs.subD, Vs.catT, Vs.catL, Vs.ixD, Vs.ixO, Vs.forA, Vs.forR1, Vs.forR2, Vs.forL, Vs.stp, Vs.stp2, Vs.meV, Vs.mutV, Vs.vL, Vs.gExt, Vs.gApp, Vs.lstF, Vs.tupE, Vs.slV, Vs.sl3, Vs.slD, Vs.tupD, Vs.sumD, Vs.absD, Vs.intD, Vs.lcR1, Vs.lcR2, Vs.lcL, Vs.forZ, Vs.zipD, Vs.repF, Vs.subS, Vs.gSet, Vs.ixV, Vs.eqD, Vs.neD, Vs.isnD, Vs.isbD, Vs.max2D, Vs.asgT, Vs.clI, Vs.Sl.to, Vs.parO, Vs.asI]))
  rw [hr.isRu, lenD0_RD, sgD_ID (fun s hs => by simp [Vs.runP, Vs.runI, Vs.io0, Vs.retS, Vs.setS, Vs.setO, Vs.putS, Vs.lf, Vs.sq, Vs.nxt, Vs.ifS, Vs.bnd, Vs.ret, Vs.bad, Vs.opt, Vs.andE, Vs.orE, Vs.notE, Vs.asB, Vs.args, Vs.vV, Vs.vP, Vs.isD, Vs.isO, Vs.tyD, Vs.clD, Vs.kfB, Vs.cl, Vs.b2, Vs.ch, Vs.andT, Vs.orT, Vs.notT, Vs.dropS, Vs.exS, Vs.outB, K74.ite_ev, K74.itA_tup, K74.itA_lst, K74.itA_sq, K74.kit_ii, K74.kit_ib, K74.kit_bi, K74.kit_bb, K74.kit_ni, K74.kit_si, K74.kit_ti, K74.kit_li, K74.kit_di, K74.kit_tt, K74.kit_it, K74.kit_bt, K74.kit_nt, K74.kit_st, K74.kit_lt, K74.kit_dt, Vs.inn, Vs.lend, Vs.unl, Vs.unl1, Vs.fg, Vs.stE, Vs.tg1, Vs.tg2, Vs.ifE, Vs.yes, Vs.frz, Vs.lcAn, Vs.lcM, Vs.allD, Vs.itsL, Vs.lstB, Vs.lenD, Vs.its, Vs.leD, Vs.ltD, Vs.gtD, Vs.geD, Vs.int2, Vs.fB, Vs.fI, Vs.addD, Vs.isI2, Vs.isT2, Vs.subD, Vs.catT, Vs.catL, Vs.ixD, Vs.ixO, Vs.forA, Vs.forR1, Vs.forR2, Vs.forL, Vs.stp, Vs.stp2, Vs.meV, Vs.mutV, Vs.vL, Vs.gExt, Vs.gApp, Vs.lstF, Vs.tupE, Vs.slV, Vs.sl3, Vs.slD, Vs.tupD, Vs.sumD, Vs.absD, Vs.intD, Vs.lcR1, Vs.lcR2, Vs.lcL, Vs.forZ, Vs.zipD, Vs.repF, Vs.subS, Vs.gSet, Vs.ixV, Vs.eqD, Vs.neD, Vs.isnD, Vs.isbD, Vs.max2D, Vs.asgT, Vs.clI, Vs.Sl.to, Vs.parO, Vs.asI] at hs; subst hs; omega) (by simp [Vs.runP, Vs.runI, Vs.io0, Vs.retS, Vs.setS, Vs.setO, Vs.putS, Vs.lf, Vs.sq, Vs.nxt, Vs.ifS, Vs.bnd, Vs.ret, Vs.bad, Vs.opt, Vs.andE, Vs.orE, Vs.notE, Vs.asB, Vs.args, Vs.vV, Vs.vP, Vs.isD, Vs.isO, Vs.tyD, Vs.clD, Vs.kfB, Vs.cl, Vs.b2, Vs.ch, Vs.andT, Vs.orT, Vs.notT, Vs.dropS, Vs.exS, Vs.outB, K74.ite_ev, K74.itA_tup, K74.itA_lst, K74.itA_sq, K74.kit_ii, K74.kit_ib, K74.kit_bi, K74.kit_bb, K74.kit_ni, K74.kit_si, K74.kit_ti, K74.kit_li, K74.kit_di, K74.kit_tt, K74.kit_it, K74.kit_bt, K74.kit_nt, K74.kit_st, K74.kit_lt, K74.kit_dt, Vs.inn, Vs.lend, Vs.unl, Vs.unl1, Vs.fg, Vs.stE, Vs.tg1, Vs.tg2, Vs.ifE, Vs.yes, Vs.frz, Vs.lcAn, Vs.lcM, Vs.allD, Vs.itsL, Vs.lstB, Vs.lenD, Vs.its, Vs.leD, Vs.ltD, Vs.gtD, Vs.geD, Vs.int2, Vs.fB, Vs.fI, Vs.addD, Vs.isI2, Vs.isT2, Vs.subD, Vs.catT, Vs.catL, Vs.ixD, Vs.ixO, Vs.forA, Vs.forR1, Vs.forR2, Vs.forL, Vs.stp, Vs.stp2, Vs.meV, Vs.mutV, Vs.vL, Vs.gExt, Vs.gApp, Vs.lstF, Vs.tupE, Vs.slV, Vs.sl3, Vs.slD, Vs.tupD, Vs.sumD, Vs.absD, Vs.intD, Vs.lcR1, Vs.lcR2, Vs.lcL, Vs.forZ, Vs.zipD, Vs.repF, Vs.subS, Vs.gSet, Vs.ixV, Vs.eqD, Vs.neD, Vs.isnD, Vs.isbD, Vs.max2D, Vs.asgT, Vs.clI, Vs.Sl.to, Vs.parO, Vs.asI])] at d3
  have d4 := check_times_eq K p4
  rw [q4] at d4
  have d5 := check_sign_eq K pb p3
  rw [rb] at d5
  have d6 := check_sign_eq K hr.Plr p3
  rw [hr.isRu, lenD0_RD, q3] at d6
  obtain ⟨d7, _⟩ := checks_eq K (s := 1) (t := 0) hr ⟨by omega, by omega⟩ (by omega) (by omega)
  simp only [if_true, if_false, Bool.false_eq_true] at d1 d2 d3 d4 d5 d6
  have x1 := grow_ex K d1
  have x2 := often_ex K (z := tn) d1
  have x3 := grow_ex K d2
  have x4 := often_ex K (z := tn) d2
  have x5 := often_ex2 K d3 d4
  have x6 := ask1 (z := tn) d5
  have x7 := ask1 (z := tn) d6
  have x8 := ask2 d7 d4
  have hL : bnd (vP 1) lenD [.io h1.ds, .sh (RD rule), .no, .no, .no, .no, .no, .no, .no] = .ok (.int rule.length) [.io h1.ds, .sh (RD rule), .no, .no, .no, .no, .no, .no, .no] := len_RD (i := 1) rfl
  generalize RD rule = R at *
  have f1 : clI 0 (r__law_bent K) (args [vV 1]) [.io h.ds, .sh R, .no, .no, .no, .no, .no, .no, .no] = .ok bad [.io h1.ds, .sh R, .no, .no, .no, .no, .no, .no, .no] := clI_io (i := 0) rfl (args_ok (vV_sh (i := 1) rfl) args_nil) rfl e1
  have s1 := asgT_ok (i := 2) (j := 3) (tupE_ok (args_ok f1 (args_ok hL args_nil)) (by simp [Vs.runP, Vs.runI, Vs.io0, Vs.retS, Vs.setS, Vs.setO, Vs.putS, Vs.lf, Vs.sq, Vs.nxt, Vs.ifS, Vs.bnd, Vs.ret, Vs.bad, Vs.opt, Vs.andE, Vs.orE, Vs.notE, Vs.asB, Vs.args, Vs.vV, Vs.vP, Vs.isD, Vs.isO, Vs.tyD, Vs.clD, Vs.kfB, Vs.cl, Vs.b2, Vs.ch, Vs.andT, Vs.orT, Vs.notT, Vs.dropS, Vs.exS, Vs.outB, K74.ite_ev, K74.itA_tup, K74.itA_lst, K74.itA_sq, K74.kit_ii, K74.kit_ib, K74.kit_bi, K74.kit_bb, K74.kit_ni, K74.kit_si, K74.kit_ti, K74.kit_li, K74.kit_di, K74.kit_tt, K74.kit_it, K74.kit_bt, K74.kit_nt, K74.kit_st, K74.kit_lt, K74.kit_dt, Vs.inn, Vs.lend, Vs.unl, Vs.unl1, Vs.fg, Vs.stE, Vs.tg1, Vs.tg2, Vs.ifE, Vs.yes, Vs.frz, Vs.lcAn, Vs.lcM, Vs.allD, Vs.itsL, Vs.lstB, Vs.lenD, Vs.its, Vs.leD, Vs.ltD, Vs.gtD, Vs.geD, Vs.int2, Vs.fB, Vs.fI, Vs.addD, Vs.isI2, Vs.isT2, Vs.subD, Vs.catT, Vs.catL, Vs.ixD, Vs.ixO, Vs.forA, Vs.forR1, Vs.forR2, Vs.forL, Vs.stp, Vs.stp2, Vs.meV, Vs.mutV, Vs.vL, Vs.gExt, Vs.gApp, Vs.lstF, Vs.tupE, Vs.slV, Vs.sl3, Vs.slD, Vs.tupD, Vs.sumD, Vs.absD, Vs.intD, Vs.lcR1, Vs.lcR2, Vs.lcL, Vs.forZ, Vs.zipD, Vs.repF, Vs.subS, Vs.gSet, Vs.ixV, Vs.eqD, Vs.neD, Vs.isnD, Vs.isbD, Vs.max2D, Vs.asgT, Vs.clI, Vs.Sl.to, Vs.parO, Vs.asI]))
  have s2 := setS_ok (i := 4) (clI_io (i := 0) (f := r__law_any K) (ev := [.io h1.ds, .sh R, .sh bad, .sh (.int rule.length), .no, .no, .no, .no, .no]) rfl (row_args rfl (rep_ones (k := 401) (by omega) (by omega))) rfl e2)
  have s3 := setS_ok (i := 5) (clI_io (i := 0) (f := r__law_any K) (ev := [.io h2.ds, .sh R, .sh bad, .sh (.int rule.length), .sh row, .no, .no, .no, .no]) rfl (sgn_args rfl) rfl e3)
  have s4 := setS_ok (i := 6) (clI_io (i := 0) (f := r__law_any K) (ev := [.io h3.ds, .sh R, .sh bad, .sh (.int rule.length), .sh row, .sh sg, .no, .no, .no]) rfl trn_args rfl e4)
  have s5 := ifS_no (a := retS (Vs.ret (.bl false))) ((orT_no (isb_t (cl_val (args_ok (vV_sh (i := 2) (ev := [.io h4.ds, .sh R, .sh bad, .sh (.int rule.length), .sh row, .sh sg, .sh tn, .no, .no]) rfl) args_nil) c_bad) rfl)).trans (isb_t (cl_val (args_ok (vV_sh (i := 1) rfl) args_nil) c_rule) rfl))
  have s6 := setS_ok (i := 7) (clI_io (i := 0) (f := r__law_any K) (ev := [.io h4.ds, .sh R, .sh bad, .sh (.int rule.length), .sh row, .sh sg, .sh tn, .no, .no]) rfl (ask_args K) rfl e5)
  have w1 := set_err K (i := 8) (ev := [.io h5'.ds, .sh R, .sh bad, .sh (.int rule.length), .sh row, .sh sg, .sh tn, .sh (.ref a), .no]) he (er_rule he) (cl_ex (a2_ok (i := 2) (j := 4) rfl rfl) x1)
  have w2 := app_err K (i := 8) (ev := [.io h5'.ds, .sh R, .sh bad, .sh (.int rule.length), .sh row, .sh sg, .sh tn, .sh (.ref a), .ol [.str "rule"]]) he (er_rule he) rfl (by simp [Vs.runP, Vs.runI, Vs.io0, Vs.retS, Vs.setS, Vs.setO, Vs.putS, Vs.lf, Vs.sq, Vs.nxt, Vs.ifS, Vs.bnd, Vs.ret, Vs.bad, Vs.opt, Vs.andE, Vs.orE, Vs.notE, Vs.asB, Vs.args, Vs.vV, Vs.vP, Vs.isD, Vs.isO, Vs.tyD, Vs.clD, Vs.kfB, Vs.cl, Vs.b2, Vs.ch, Vs.andT, Vs.orT, Vs.notT, Vs.dropS, Vs.exS, Vs.outB, K74.ite_ev, K74.itA_tup, K74.itA_lst, K74.itA_sq, K74.kit_ii, K74.kit_ib, K74.kit_bi, K74.kit_bb, K74.kit_ni, K74.kit_si, K74.kit_ti, K74.kit_li, K74.kit_di, K74.kit_tt, K74.kit_it, K74.kit_bt, K74.kit_nt, K74.kit_st, K74.kit_lt, K74.kit_dt, Vs.inn, Vs.lend, Vs.unl, Vs.unl1, Vs.fg, Vs.stE, Vs.tg1, Vs.tg2, Vs.ifE, Vs.yes, Vs.frz, Vs.lcAn, Vs.lcM, Vs.allD, Vs.itsL, Vs.lstB, Vs.lenD, Vs.its, Vs.leD, Vs.ltD, Vs.gtD, Vs.geD, Vs.int2, Vs.fB, Vs.fI, Vs.addD, Vs.isI2, Vs.isT2, Vs.subD, Vs.catT, Vs.catL, Vs.ixD, Vs.ixO, Vs.forA, Vs.forR1, Vs.forR2, Vs.forL, Vs.stp, Vs.stp2, Vs.meV, Vs.mutV, Vs.vL, Vs.gExt, Vs.gApp, Vs.lstF, Vs.tupE, Vs.slV, Vs.sl3, Vs.slD, Vs.tupD, Vs.sumD, Vs.absD, Vs.intD, Vs.lcR1, Vs.lcR2, Vs.lcL, Vs.forZ, Vs.zipD, Vs.repF, Vs.subS, Vs.gSet, Vs.ixV, Vs.eqD, Vs.neD, Vs.isnD, Vs.isbD, Vs.max2D, Vs.asgT, Vs.clI, Vs.Sl.to, Vs.parO, Vs.asI]) (cl_ex (a3_ok (i := 2) (j := 4) (k := 6) rfl rfl rfl) x2)
  have w3 := app_err K (i := 8) (ev := [.io h5'.ds, .sh R, .sh bad, .sh (.int rule.length), .sh row, .sh sg, .sh tn, .sh (.ref a), .ol [.str "rule", .str "rule"]]) he (er_signs he) rfl (by simp [Vs.runP, Vs.runI, Vs.io0, Vs.retS, Vs.setS, Vs.setO, Vs.putS, Vs.lf, Vs.sq, Vs.nxt, Vs.ifS, Vs.bnd, Vs.ret, Vs.bad, Vs.opt, Vs.andE, Vs.orE, Vs.notE, Vs.asB, Vs.args, Vs.vV, Vs.vP, Vs.isD, Vs.isO, Vs.tyD, Vs.clD, Vs.kfB, Vs.cl, Vs.b2, Vs.ch, Vs.andT, Vs.orT, Vs.notT, Vs.dropS, Vs.exS, Vs.outB, K74.ite_ev, K74.itA_tup, K74.itA_lst, K74.itA_sq, K74.kit_ii, K74.kit_ib, K74.kit_bi, K74.kit_bb, K74.kit_ni, K74.kit_si, K74.kit_ti, K74.kit_li, K74.kit_di, K74.kit_tt, K74.kit_it, K74.kit_bt, K74.kit_nt, K74.kit_st, K74.kit_lt, K74.kit_dt, Vs.inn, Vs.lend, Vs.unl, Vs.unl1, Vs.fg, Vs.stE, Vs.tg1, Vs.tg2, Vs.ifE, Vs.yes, Vs.frz, Vs.lcAn, Vs.lcM, Vs.allD, Vs.itsL, Vs.lstB, Vs.lenD, Vs.its, Vs.leD, Vs.ltD, Vs.gtD, Vs.geD, Vs.int2, Vs.fB, Vs.fI, Vs.addD, Vs.isI2, Vs.isT2, Vs.subD, Vs.catT, Vs.catL, Vs.ixD, Vs.ixO, Vs.forA, Vs.forR1, Vs.forR2, Vs.forL, Vs.stp, Vs.stp2, Vs.meV, Vs.mutV, Vs.vL, Vs.gExt, Vs.gApp, Vs.lstF, Vs.tupE, Vs.slV, Vs.sl3, Vs.slD, Vs.tupD, Vs.sumD, Vs.absD, Vs.intD, Vs.lcR1, Vs.lcR2, Vs.lcL, Vs.forZ, Vs.zipD, Vs.repF, Vs.subS, Vs.gSet, Vs.ixV, Vs.eqD, Vs.neD, Vs.isnD, Vs.isbD, Vs.max2D, Vs.asgT, Vs.clI, Vs.Sl.to, Vs.parO, Vs.asI]) (cl_ex (a2_ok (i := 1) (j := 4) rfl rfl) x3)
  have w4 := app_err K (i := 8) (ev := [.io h5'.ds, .sh R, .sh bad, .sh (.int rule.length), .sh row, .sh sg, .sh tn, .sh (.ref a), .ol [.str "rule", .str "rule", .str "signs"]]) he (er_signs he) rfl (by simp [Vs.runP, Vs.runI, Vs.io0, Vs.retS, Vs.setS, Vs.setO, Vs.putS, Vs.lf, Vs.sq, Vs.nxt, Vs.ifS, Vs.bnd, Vs.ret, Vs.bad, Vs.opt, Vs.andE, Vs.orE, Vs.notE, Vs.asB, Vs.args, Vs.vV, Vs.vP, Vs.isD, Vs.isO, Vs.tyD, Vs.clD, Vs.kfB, Vs.cl, Vs.b2, Vs.ch, Vs.andT, Vs.orT, Vs.notT, Vs.dropS, Vs.exS, Vs.outB, K74.ite_ev, K74.itA_tup, K74.itA_lst, K74.itA_sq, K74.kit_ii, K74.kit_ib, K74.kit_bi, K74.kit_bb, K74.kit_ni, K74.kit_si, K74.kit_ti, K74.kit_li, K74.kit_di, K74.kit_tt, K74.kit_it, K74.kit_bt, K74.kit_nt, K74.kit_st, K74.kit_lt, K74.kit_dt, Vs.inn, Vs.lend, Vs.unl, Vs.unl1, Vs.fg, Vs.stE, Vs.tg1, Vs.tg2, Vs.ifE, Vs.yes, Vs.frz, Vs.lcAn, Vs.lcM, Vs.allD, Vs.itsL, Vs.lstB, Vs.lenD, Vs.its, Vs.leD, Vs.ltD, Vs.gtD, Vs.geD, Vs.int2, Vs.fB, Vs.fI, Vs.addD, Vs.isI2, Vs.isT2, Vs.subD, Vs.catT, Vs.catL, Vs.ixD, Vs.ixO, Vs.forA, Vs.forR1, Vs.forR2, Vs.forL, Vs.stp, Vs.stp2, Vs.meV, Vs.mutV, Vs.vL, Vs.gExt, Vs.gApp, Vs.lstF, Vs.tupE, Vs.slV, Vs.sl3, Vs.slD, Vs.tupD, Vs.sumD, Vs.absD, Vs.intD, Vs.lcR1, Vs.lcR2, Vs.lcL, Vs.forZ, Vs.zipD, Vs.repF, Vs.subS, Vs.gSet, Vs.ixV, Vs.eqD, Vs.neD, Vs.isnD, Vs.isbD, Vs.max2D, Vs.asgT, Vs.clI, Vs.Sl.to, Vs.parO, Vs.asI]) (cl_ex (a3_ok (i := 1) (j := 4) (k := 6) rfl rfl rfl) x4)
  have w5 := app_err K (i := 8) (ev := [.io h5'.ds, .sh R, .sh bad, .sh (.int rule.length), .sh row, .sh sg, .sh tn, .sh (.ref a), .ol [.str "rule", .str "rule", .str "signs", .str "signs"]]) he (er_number he) rfl (by simp [Vs.runP, Vs.runI, Vs.io0, Vs.retS, Vs.setS, Vs.setO, Vs.putS, Vs.lf, Vs.sq, Vs.nxt, Vs.ifS, Vs.bnd, Vs.ret, Vs.bad, Vs.opt, Vs.andE, Vs.orE, Vs.notE, Vs.asB, Vs.args, Vs.vV, Vs.vP, Vs.isD, Vs.isO, Vs.tyD, Vs.clD, Vs.kfB, Vs.cl, Vs.b2, Vs.ch, Vs.andT, Vs.orT, Vs.notT, Vs.dropS, Vs.exS, Vs.outB, K74.ite_ev, K74.itA_tup, K74.itA_lst, K74.itA_sq, K74.kit_ii, K74.kit_ib, K74.kit_bi, K74.kit_bb, K74.kit_ni, K74.kit_si, K74.kit_ti, K74.kit_li, K74.kit_di, K74.kit_tt, K74.kit_it, K74.kit_bt, K74.kit_nt, K74.kit_st, K74.kit_lt, K74.kit_dt, Vs.inn, Vs.lend, Vs.unl, Vs.unl1, Vs.fg, Vs.stE, Vs.tg1, Vs.tg2, Vs.ifE, Vs.yes, Vs.frz, Vs.lcAn, Vs.lcM, Vs.allD, Vs.itsL, Vs.lstB, Vs.lenD, Vs.its, Vs.leD, Vs.ltD, Vs.gtD, Vs.geD, Vs.int2, Vs.fB, Vs.fI, Vs.addD, Vs.isI2, Vs.isT2, Vs.subD, Vs.catT, Vs.catL, Vs.ixD, Vs.ixO, Vs.forA, Vs.forR1, Vs.forR2, Vs.forL, Vs.stp, Vs.stp2, Vs.meV, Vs.mutV, Vs.vL, Vs.gExt, Vs.gApp, Vs.lstF, Vs.tupE, Vs.slV, Vs.sl3, Vs.slD, Vs.tupD, Vs.sumD, Vs.absD, Vs.intD, Vs.lcR1, Vs.lcR2, Vs.lcL, Vs.forZ, Vs.zipD, Vs.repF, Vs.subS, Vs.gSet, Vs.ixV, Vs.eqD, Vs.neD, Vs.isnD, Vs.isbD, Vs.max2D, Vs.asgT, Vs.clI, Vs.Sl.to, Vs.parO, Vs.asI]) (cl_ex (args_ok (vV_sh (i := 1) rfl) (args_ok (tupE_ok (ds := [.int 1]) (args_ok (f := Vs.ret (.int 1)) rfl args_nil) (by simp [Vs.runP, Vs.runI, Vs.io0, Vs.retS, Vs.setS, Vs.setO, Vs.putS, Vs.lf, Vs.sq, Vs.nxt, Vs.ifS, Vs.bnd, Vs.ret, Vs.bad, Vs.opt, Vs.andE, Vs.orE, Vs.notE, Vs.asB, Vs.args, Vs.vV, Vs.vP, Vs.isD, Vs.isO, Vs.tyD, Vs.clD, Vs.kfB, Vs.cl, Vs.b2, Vs.ch, Vs.andT, Vs.orT, Vs.notT, Vs.dropS, Vs.exS, Vs.outB, K74.ite_ev, K74.itA_tup, K74.itA_lst, K74.itA_sq, K74.kit_ii, K74.kit_ib, K74.kit_bi, K74.kit_bb, K74.kit_ni, K74.kit_si, K74.kit_ti, K74.kit_li, K74.kit_di, K74.kit_tt, K74.kit_it, K74.kit_bt, K74.kit_nt, K74.kit_st, K74.kit_lt, K74.kit_dt, Vs.inn, Vs.lend, Vs.unl, Vs.unl1, Vs.fg, Vs.stE, Vs.tg1, Vs.tg2, Vs.ifE, Vs.yes, Vs.frz, Vs.lcAn, Vs.lcM, Vs.allD, Vs.itsL, Vs.lstB, Vs.lenD, Vs.its, Vs.leD, Vs.ltD, Vs.gtD, Vs.geD, Vs.int2, Vs.fB, Vs.fI, Vs.addD, Vs.isI2, Vs.isT2, Vs.subD, Vs.catT, Vs.catL, Vs.ixD, Vs.ixO, Vs.forA, Vs.forR1, Vs.forR2, Vs.forL, Vs.stp, Vs.stp2, Vs.meV, Vs.mutV, Vs.vL, Vs.gExt, Vs.gApp, Vs.lstF, Vs.tupE, Vs.slV, Vs.sl3, Vs.slD, Vs.tupD, Vs.sumD, Vs.absD, Vs.intD, Vs.lcR1, Vs.lcR2, Vs.lcL, Vs.forZ, Vs.zipD, Vs.repF, Vs.subS, Vs.gSet, Vs.ixV, Vs.eqD, Vs.neD, Vs.isnD, Vs.isbD, Vs.max2D, Vs.asgT, Vs.clI, Vs.Sl.to, Vs.parO, Vs.asI])) (args_ok (vV_sh (i := 6) rfl) args_nil))) x5)
  have w6 := app_err K (i := 8) (ev := [.io h5'.ds, .sh R, .sh bad, .sh (.int rule.length), .sh row, .sh sg, .sh tn, .sh (.ref a), .ol [.str "rule", .str "rule", .str "signs", .str "signs", .str "number"]]) he (er_rule he) rfl (by simp [Vs.runP, Vs.runI, Vs.io0, Vs.retS, Vs.setS, Vs.setO, Vs.putS, Vs.lf, Vs.sq, Vs.nxt, Vs.ifS, Vs.bnd, Vs.ret, Vs.bad, Vs.opt, Vs.andE, Vs.orE, Vs.notE, Vs.asB, Vs.args, Vs.vV, Vs.vP, Vs.isD, Vs.isO, Vs.tyD, Vs.clD, Vs.kfB, Vs.cl, Vs.b2, Vs.ch, Vs.andT, Vs.orT, Vs.notT, Vs.dropS, Vs.exS, Vs.outB, K74.ite_ev, K74.itA_tup, K74.itA_lst, K74.itA_sq, K74.kit_ii, K74.kit_ib, K74.kit_bi, K74.kit_bb, K74.kit_ni, K74.kit_si, K74.kit_ti, K74.kit_li, K74.kit_di, K74.kit_tt, K74.kit_it, K74.kit_bt, K74.kit_nt, K74.kit_st, K74.kit_lt, K74.kit_dt, Vs.inn, Vs.lend, Vs.unl, Vs.unl1, Vs.fg, Vs.stE, Vs.tg1, Vs.tg2, Vs.ifE, Vs.yes, Vs.frz, Vs.lcAn, Vs.lcM, Vs.allD, Vs.itsL, Vs.lstB, Vs.lenD, Vs.its, Vs.leD, Vs.ltD, Vs.gtD, Vs.geD, Vs.int2, Vs.fB, Vs.fI, Vs.addD, Vs.isI2, Vs.isT2, Vs.subD, Vs.catT, Vs.catL, Vs.ixD, Vs.ixO, Vs.forA, Vs.forR1, Vs.forR2, Vs.forL, Vs.stp, Vs.stp2, Vs.meV, Vs.mutV, Vs.vL, Vs.gExt, Vs.gApp, Vs.lstF, Vs.tupE, Vs.slV, Vs.sl3, Vs.slD, Vs.tupD, Vs.sumD, Vs.absD, Vs.intD, Vs.lcR1, Vs.lcR2, Vs.lcL, Vs.forZ, Vs.zipD, Vs.repF, Vs.subS, Vs.gSet, Vs.ixV, Vs.eqD, Vs.neD, Vs.isnD, Vs.isbD, Vs.max2D, Vs.asgT, Vs.clI, Vs.Sl.to, Vs.parO, Vs.asI]) (clV_ex (i := 7) rfl hfn (a3_ok (i := 2) (j := 5) (k := 6) rfl rfl rfl) x6)
  have w7 := app_err K (i := 8) (ev := [.io h5'.ds, .sh R, .sh bad, .sh (.int rule.length), .sh row, .sh sg, .sh tn, .sh (.ref a), .ol [.str "rule", .str "rule", .str "signs", .str "signs", .str "number", .str "rule"]]) he (er_sign he) rfl (by simp [Vs.runP, Vs.runI, Vs.io0, Vs.retS, Vs.setS, Vs.setO, Vs.putS, Vs.lf, Vs.sq, Vs.nxt, Vs.ifS, Vs.bnd, Vs.ret, Vs.bad, Vs.opt, Vs.andE, Vs.orE, Vs.notE, Vs.asB, Vs.args, Vs.vV, Vs.vP, Vs.isD, Vs.isO, Vs.tyD, Vs.clD, Vs.kfB, Vs.cl, Vs.b2, Vs.ch, Vs.andT, Vs.orT, Vs.notT, Vs.dropS, Vs.exS, Vs.outB, K74.ite_ev, K74.itA_tup, K74.itA_lst, K74.itA_sq, K74.kit_ii, K74.kit_ib, K74.kit_bi, K74.kit_bb, K74.kit_ni, K74.kit_si, K74.kit_ti, K74.kit_li, K74.kit_di, K74.kit_tt, K74.kit_it, K74.kit_bt, K74.kit_nt, K74.kit_st, K74.kit_lt, K74.kit_dt, Vs.inn, Vs.lend, Vs.unl, Vs.unl1, Vs.fg, Vs.stE, Vs.tg1, Vs.tg2, Vs.ifE, Vs.yes, Vs.frz, Vs.lcAn, Vs.lcM, Vs.allD, Vs.itsL, Vs.lstB, Vs.lenD, Vs.its, Vs.leD, Vs.ltD, Vs.gtD, Vs.geD, Vs.int2, Vs.fB, Vs.fI, Vs.addD, Vs.isI2, Vs.isT2, Vs.subD, Vs.catT, Vs.catL, Vs.ixD, Vs.ixO, Vs.forA, Vs.forR1, Vs.forR2, Vs.forL, Vs.stp, Vs.stp2, Vs.meV, Vs.mutV, Vs.vL, Vs.gExt, Vs.gApp, Vs.lstF, Vs.tupE, Vs.slV, Vs.sl3, Vs.slD, Vs.tupD, Vs.sumD, Vs.absD, Vs.intD, Vs.lcR1, Vs.lcR2, Vs.lcL, Vs.forZ, Vs.zipD, Vs.repF, Vs.subS, Vs.gSet, Vs.ixV, Vs.eqD, Vs.neD, Vs.isnD, Vs.isbD, Vs.max2D, Vs.asgT, Vs.clI, Vs.Sl.to, Vs.parO, Vs.asI]) (clV_ex (i := 7) rfl hfn (a3_ok (i := 1) (j := 5) (k := 6) rfl rfl rfl) x7)
  have w8 := app_err K (i := 8) (ev := [.io h5'.ds, .sh R, .sh bad, .sh (.int rule.length), .sh row, .sh sg, .sh tn, .sh (.ref a), .ol [.str "rule", .str "rule", .str "signs", .str "signs", .str "number", .str "rule", .str "sign"]]) he (er_number he) rfl (by simp [Vs.runP, Vs.runI, Vs.io0, Vs.retS, Vs.setS, Vs.setO, Vs.putS, Vs.lf, Vs.sq, Vs.nxt, Vs.ifS, Vs.bnd, Vs.ret, Vs.bad, Vs.opt, Vs.andE, Vs.orE, Vs.notE, Vs.asB, Vs.args, Vs.vV, Vs.vP, Vs.isD, Vs.isO, Vs.tyD, Vs.clD, Vs.kfB, Vs.cl, Vs.b2, Vs.ch, Vs.andT, Vs.orT, Vs.notT, Vs.dropS, Vs.exS, Vs.outB, K74.ite_ev, K74.itA_tup, K74.itA_lst, K74.itA_sq, K74.kit_ii, K74.kit_ib, K74.kit_bi, K74.kit_bb, K74.kit_ni, K74.kit_si, K74.kit_ti, K74.kit_li, K74.kit_di, K74.kit_tt, K74.kit_it, K74.kit_bt, K74.kit_nt, K74.kit_st, K74.kit_lt, K74.kit_dt, Vs.inn, Vs.lend, Vs.unl, Vs.unl1, Vs.fg, Vs.stE, Vs.tg1, Vs.tg2, Vs.ifE, Vs.yes, Vs.frz, Vs.lcAn, Vs.lcM, Vs.allD, Vs.itsL, Vs.lstB, Vs.lenD, Vs.its, Vs.leD, Vs.ltD, Vs.gtD, Vs.geD, Vs.int2, Vs.fB, Vs.fI, Vs.addD, Vs.isI2, Vs.isT2, Vs.subD, Vs.catT, Vs.catL, Vs.ixD, Vs.ixO, Vs.forA, Vs.forR1, Vs.forR2, Vs.forL, Vs.stp, Vs.stp2, Vs.meV, Vs.mutV, Vs.vL, Vs.gExt, Vs.gApp, Vs.lstF, Vs.tupE, Vs.slV, Vs.sl3, Vs.slD, Vs.tupD, Vs.sumD, Vs.absD, Vs.intD, Vs.lcR1, Vs.lcR2, Vs.lcL, Vs.forZ, Vs.zipD, Vs.repF, Vs.subS, Vs.gSet, Vs.ixV, Vs.eqD, Vs.neD, Vs.isnD, Vs.isbD, Vs.max2D, Vs.asgT, Vs.clI, Vs.Sl.to, Vs.parO, Vs.asI]) (clV_ex (i := 7) rfl hfn (args_ok (vV_sh (i := 1) rfl) (args_ok (f := Vs.ret (.int 1)) rfl (args_ok (vV_sh (i := 6) rfl) args_nil))) x8)
  have v9 : vV 8 [.io h5'.ds, .sh R, .sh bad, .sh (.int rule.length), .sh row, .sh sg, .sh tn, .sh (.ref a), .ol dueL] = .ok (.lst dueL) [.io h5'.ds, .sh R, .sh bad, .sh (.int rule.length), .sh row, .sh sg, .sh tn, .sh (.ref a), .sh (.lst dueL)] := rfl
  have w9 := retS_ok ((b2_ok v9 due_frz).trans due_eq)
  exact runI_rt ((sq_nx s1).trans ((sq_nx s2).trans ((sq_nx s3).trans ((sq_nx s4).trans ((sq_nx s5).trans ((sq_nx s6).trans ((sq_nx w1).trans ((sq_nx w2).trans ((sq_nx w3).trans ((sq_nx w4).trans ((sq_nx w5).trans ((sq_nx w6).trans ((sq_nx w7).trans ((sq_nx w8).trans w9)))))))))))))) rfl
end K74
namespace K74
open PySem PySem.Spec PyProof.Rows L2 LamX NdefX HotX Vs






theorem notT_ok {c : M Bool} {ev ev1 : Ev} {b : Bool} (h : c ev = .ok b ev1) : notT c ev = .ok (!b) ev1 := by
  unfold notT
  rw [bnd_ok h]
  rfl
theorem turn_ok (K : PySem.W.Frag) {h : Hnd} {n : Nat} {x d : D} (he : Ke K) (k : h.Ok n) (hn : n < 2 ^ 40) : ∃ (h' : Hnd) (u v : Sl), lp_law_0 K d [.sh x, .ol h.ds, .no, .no] = .nx [.sh x, .ol h'.ds, u, v] ∧ h'.Ok (n + 100) := by
  obtain ⟨h1, rule, st, e1, hr, h5, h3, k1⟩ := rule_ok K k (by omega)
  obtain ⟨h2, e2, k2⟩ := steps_ok K hr k1 (by omega)
  obtain ⟨h3', e3, k3⟩ := far_ok K he hr k2 (by omega)
  obtain ⟨h4, e4, k4⟩ := refused_ok K he hr h5 k3 (by omega)
  refine ⟨h4, .sh d, .sh (RD rule), ?_, k4.mono (by omega)⟩
  generalize RD rule = R at *
  have f1 : clI 1 (r__law_rule K) (args [Vs.ret (.int 5)]) [.sh x, .ol h.ds, .sh d, .no] = .ok (.tup [R, .int st]) [.sh x, .ol h1.ds, .sh d, .no] := clI_ol (i := 1) rfl (args_ok rfl args_nil) rfl e1
  have f2 : b2 ixD (clI 1 (r__law_rule K) (args [Vs.ret (.int 5)])) (Vs.ret (.int 0)) [.sh x, .ol h.ds, .sh d, .no] = .ok R [.sh x, .ol h1.ds, .sh d, .no] := (b2_ok f1 rfl).trans rfl
  have s1 := setS_ok (i := 3) f2
  have g2 := clI_ol (i := 1) (f := r__law_steps_right K) (ev := [.sh x, .ol h1.ds, .sh d, .sh R]) rfl (args_ok (vV_sh (i := 3) rfl) args_nil) rfl e2
  have g3 := clI_ol (i := 1) (f := r__law_far_right K) (ev := [.sh x, .ol h2.ds, .sh d, .sh R]) rfl (args_ok (vV_sh (i := 3) rfl) args_nil) rfl e3
  have g4 := clI_ol (i := 1) (f := r__law_refused_right K) (ev := [.sh x, .ol h3'.ds, .sh d, .sh R]) rfl (args_ok (vV_sh (i := 3) rfl) args_nil) rfl e4
  have s2 := ifS_no (a := retS (Vs.ret (.bl false))) ((orT_no (notT_ok (asB_ok g2))).trans ((orT_no (notT_ok (asB_ok g3))).trans (notT_ok (asB_ok g4))))
  exact (sq_nx s1).trans s2
theorem ruA : RuOk [[1, 2], [1]] := ⟨by simp [Vs.runP, Vs.runI, Vs.io0, Vs.retS, Vs.setS, Vs.setO, Vs.putS, Vs.lf, Vs.sq, Vs.nxt, Vs.ifS, Vs.bnd, Vs.ret, Vs.bad, Vs.opt, Vs.andE, Vs.orE, Vs.notE, Vs.asB, Vs.args, Vs.vV, Vs.vP, Vs.isD, Vs.isO, Vs.tyD, Vs.clD, Vs.kfB, Vs.cl, Vs.b2, Vs.ch, Vs.andT, Vs.orT, Vs.notT, Vs.dropS, Vs.exS, Vs.outB, K74.ite_ev, K74.itA_tup, K74.itA_lst, K74.itA_sq, K74.kit_ii, K74.kit_ib, K74.kit_bi, K74.kit_bb, K74.kit_ni, K74.kit_si, K74.kit_ti, K74.kit_li, K74.kit_di, K74.kit_tt, K74.kit_it, K74.kit_bt, K74.kit_nt, K74.kit_st, K74.kit_lt, K74.kit_dt, Vs.inn, Vs.lend, Vs.unl, Vs.unl1, Vs.fg, Vs.stE, Vs.tg1, Vs.tg2, Vs.ifE, Vs.yes, Vs.frz, Vs.lcAn, Vs.lcM, Vs.allD, Vs.itsL, Vs.lstB, Vs.lenD, Vs.its, Vs.leD, Vs.ltD, Vs.gtD, Vs.geD, Vs.int2, Vs.fB, Vs.fI, Vs.addD, Vs.isI2, Vs.isT2, Vs.subD, Vs.catT, Vs.catL, Vs.ixD, Vs.ixO, Vs.forA, Vs.forR1, Vs.forR2, Vs.forL, Vs.stp, Vs.stp2, Vs.meV, Vs.mutV, Vs.vL, Vs.gExt, Vs.gApp, Vs.lstF, Vs.tupE, Vs.slV, Vs.sl3, Vs.slD, Vs.tupD, Vs.sumD, Vs.absD, Vs.intD, Vs.lcR1, Vs.lcR2, Vs.lcL, Vs.forZ, Vs.zipD, Vs.repF, Vs.subS, Vs.gSet, Vs.ixV, Vs.eqD, Vs.neD, Vs.isnD, Vs.isbD, Vs.max2D, Vs.asgT, Vs.clI, Vs.Sl.to, Vs.parO, Vs.asI], by simp [Vs.runP, Vs.runI, Vs.io0, Vs.retS, Vs.setS, Vs.setO, Vs.putS, Vs.lf, Vs.sq, Vs.nxt, Vs.ifS, Vs.bnd, Vs.ret, Vs.bad, Vs.opt, Vs.andE, Vs.orE, Vs.notE, Vs.asB, Vs.args, Vs.vV, Vs.vP, Vs.isD, Vs.isO, Vs.tyD, Vs.clD, Vs.kfB, Vs.cl, Vs.b2, Vs.ch, Vs.andT, Vs.orT, Vs.notT, Vs.dropS, Vs.exS, Vs.outB, K74.ite_ev, K74.itA_tup, K74.itA_lst, K74.itA_sq, K74.kit_ii, K74.kit_ib, K74.kit_bi, K74.kit_bb, K74.kit_ni, K74.kit_si, K74.kit_ti, K74.kit_li, K74.kit_di, K74.kit_tt, K74.kit_it, K74.kit_bt, K74.kit_nt, K74.kit_st, K74.kit_lt, K74.kit_dt, Vs.inn, Vs.lend, Vs.unl, Vs.unl1, Vs.fg, Vs.stE, Vs.tg1, Vs.tg2, Vs.ifE, Vs.yes, Vs.frz, Vs.lcAn, Vs.lcM, Vs.allD, Vs.itsL, Vs.lstB, Vs.lenD, Vs.its, Vs.leD, Vs.ltD, Vs.gtD, Vs.geD, Vs.int2, Vs.fB, Vs.fI, Vs.addD, Vs.isI2, Vs.isT2, Vs.subD, Vs.catT, Vs.catL, Vs.ixD, Vs.ixO, Vs.forA, Vs.forR1, Vs.forR2, Vs.forL, Vs.stp, Vs.stp2, Vs.meV, Vs.mutV, Vs.vL, Vs.gExt, Vs.gApp, Vs.lstF, Vs.tupE, Vs.slV, Vs.sl3, Vs.slD, Vs.tupD, Vs.sumD, Vs.absD, Vs.intD, Vs.lcR1, Vs.lcR2, Vs.lcL, Vs.forZ, Vs.zipD, Vs.repF, Vs.subS, Vs.gSet, Vs.ixV, Vs.eqD, Vs.neD, Vs.isnD, Vs.isbD, Vs.max2D, Vs.asgT, Vs.clI, Vs.Sl.to, Vs.parO, Vs.asI], by simp [Vs.runP, Vs.runI, Vs.io0, Vs.retS, Vs.setS, Vs.setO, Vs.putS, Vs.lf, Vs.sq, Vs.nxt, Vs.ifS, Vs.bnd, Vs.ret, Vs.bad, Vs.opt, Vs.andE, Vs.orE, Vs.notE, Vs.asB, Vs.args, Vs.vV, Vs.vP, Vs.isD, Vs.isO, Vs.tyD, Vs.clD, Vs.kfB, Vs.cl, Vs.b2, Vs.ch, Vs.andT, Vs.orT, Vs.notT, Vs.dropS, Vs.exS, Vs.outB, K74.ite_ev, K74.itA_tup, K74.itA_lst, K74.itA_sq, K74.kit_ii, K74.kit_ib, K74.kit_bi, K74.kit_bb, K74.kit_ni, K74.kit_si, K74.kit_ti, K74.kit_li, K74.kit_di, K74.kit_tt, K74.kit_it, K74.kit_bt, K74.kit_nt, K74.kit_st, K74.kit_lt, K74.kit_dt, Vs.inn, Vs.lend, Vs.unl, Vs.unl1, Vs.fg, Vs.stE, Vs.tg1, Vs.tg2, Vs.ifE, Vs.yes, Vs.frz, Vs.lcAn, Vs.lcM, Vs.allD, Vs.itsL, Vs.lstB, Vs.lenD, Vs.its, Vs.leD, Vs.ltD, Vs.gtD, Vs.geD, Vs.int2, Vs.fB, Vs.fI, Vs.addD, Vs.isI2, Vs.isT2, Vs.subD, Vs.catT, Vs.catL, Vs.ixD, Vs.ixO, Vs.forA, Vs.forR1, Vs.forR2, Vs.forL, Vs.stp, Vs.stp2, Vs.meV, Vs.mutV, Vs.vL, Vs.gExt, Vs.gApp, Vs.lstF, Vs.tupE, Vs.slV, Vs.sl3, Vs.slD, Vs.tupD, Vs.sumD, Vs.absD, Vs.intD, Vs.lcR1, Vs.lcR2, Vs.lcL, Vs.forZ, Vs.zipD, Vs.repF, Vs.subS, Vs.gSet, Vs.ixV, Vs.eqD, Vs.neD, Vs.isnD, Vs.isbD, Vs.max2D, Vs.asgT, Vs.clI, Vs.Sl.to, Vs.parO, Vs.asI], by simp [Vs.runP, Vs.runI, Vs.io0, Vs.retS, Vs.setS, Vs.setO, Vs.putS, Vs.lf, Vs.sq, Vs.nxt, Vs.ifS, Vs.bnd, Vs.ret, Vs.bad, Vs.opt, Vs.andE, Vs.orE, Vs.notE, Vs.asB, Vs.args, Vs.vV, Vs.vP, Vs.isD, Vs.isO, Vs.tyD, Vs.clD, Vs.kfB, Vs.cl, Vs.b2, Vs.ch, Vs.andT, Vs.orT, Vs.notT, Vs.dropS, Vs.exS, Vs.outB, K74.ite_ev, K74.itA_tup, K74.itA_lst, K74.itA_sq, K74.kit_ii, K74.kit_ib, K74.kit_bi, K74.kit_bb, K74.kit_ni, K74.kit_si, K74.kit_ti, K74.kit_li, K74.kit_di, K74.kit_tt, K74.kit_it, K74.kit_bt, K74.kit_nt, K74.kit_st, K74.kit_lt, K74.kit_dt, Vs.inn, Vs.lend, Vs.unl, Vs.unl1, Vs.fg, Vs.stE, Vs.tg1, Vs.tg2, Vs.ifE, Vs.yes, Vs.frz, Vs.lcAn, Vs.lcM, Vs.allD, Vs.itsL, Vs.lstB, Vs.lenD, Vs.its, Vs.leD, Vs.ltD, Vs.gtD, Vs.geD, Vs.int2, Vs.fB, Vs.fI, Vs.addD, Vs.isI2, Vs.isT2, Vs.subD, Vs.catT, Vs.catL, Vs.ixD, Vs.ixO, Vs.forA, Vs.forR1, Vs.forR2, Vs.forL, Vs.stp, Vs.stp2, Vs.meV, Vs.mutV, Vs.vL, Vs.gExt, Vs.gApp, Vs.lstF, Vs.tupE, Vs.slV, Vs.sl3, Vs.slD, Vs.tupD, Vs.sumD, Vs.absD, Vs.intD, Vs.lcR1, Vs.lcR2, Vs.lcL, Vs.forZ, Vs.zipD, Vs.repF, Vs.subS, Vs.gSet, Vs.ixV, Vs.eqD, Vs.neD, Vs.isnD, Vs.isbD, Vs.max2D, Vs.asgT, Vs.clI, Vs.Sl.to, Vs.parO, Vs.asI], by simp [Vs.runP, Vs.runI, Vs.io0, Vs.retS, Vs.setS, Vs.setO, Vs.putS, Vs.lf, Vs.sq, Vs.nxt, Vs.ifS, Vs.bnd, Vs.ret, Vs.bad, Vs.opt, Vs.andE, Vs.orE, Vs.notE, Vs.asB, Vs.args, Vs.vV, Vs.vP, Vs.isD, Vs.isO, Vs.tyD, Vs.clD, Vs.kfB, Vs.cl, Vs.b2, Vs.ch, Vs.andT, Vs.orT, Vs.notT, Vs.dropS, Vs.exS, Vs.outB, K74.ite_ev, K74.itA_tup, K74.itA_lst, K74.itA_sq, K74.kit_ii, K74.kit_ib, K74.kit_bi, K74.kit_bb, K74.kit_ni, K74.kit_si, K74.kit_ti, K74.kit_li, K74.kit_di, K74.kit_tt, K74.kit_it, K74.kit_bt, K74.kit_nt, K74.kit_st, K74.kit_lt, K74.kit_dt, Vs.inn, Vs.lend, Vs.unl, Vs.unl1, Vs.fg, Vs.stE, Vs.tg1, Vs.tg2, Vs.ifE, Vs.yes, Vs.frz, Vs.lcAn, Vs.lcM, Vs.allD, Vs.itsL, Vs.lstB, Vs.lenD, Vs.its, Vs.leD, Vs.ltD, Vs.gtD, Vs.geD, Vs.int2, Vs.fB, Vs.fI, Vs.addD, Vs.isI2, Vs.isT2, Vs.subD, Vs.catT, Vs.catL, Vs.ixD, Vs.ixO, Vs.forA, Vs.forR1, Vs.forR2, Vs.forL, Vs.stp, Vs.stp2, Vs.meV, Vs.mutV, Vs.vL, Vs.gExt, Vs.gApp, Vs.lstF, Vs.tupE, Vs.slV, Vs.sl3, Vs.slD, Vs.tupD, Vs.sumD, Vs.absD, Vs.intD, Vs.lcR1, Vs.lcR2, Vs.lcL, Vs.forZ, Vs.zipD, Vs.repF, Vs.subS, Vs.gSet, Vs.ixV, Vs.eqD, Vs.neD, Vs.isnD, Vs.isbD, Vs.max2D, Vs.asgT, Vs.clI, Vs.Sl.to, Vs.parO, Vs.asI]⟩
theorem ruB : RuOk [[1]] := ⟨by simp [Vs.runP, Vs.runI, Vs.io0, Vs.retS, Vs.setS, Vs.setO, Vs.putS, Vs.lf, Vs.sq, Vs.nxt, Vs.ifS, Vs.bnd, Vs.ret, Vs.bad, Vs.opt, Vs.andE, Vs.orE, Vs.notE, Vs.asB, Vs.args, Vs.vV, Vs.vP, Vs.isD, Vs.isO, Vs.tyD, Vs.clD, Vs.kfB, Vs.cl, Vs.b2, Vs.ch, Vs.andT, Vs.orT, Vs.notT, Vs.dropS, Vs.exS, Vs.outB, K74.ite_ev, K74.itA_tup, K74.itA_lst, K74.itA_sq, K74.kit_ii, K74.kit_ib, K74.kit_bi, K74.kit_bb, K74.kit_ni, K74.kit_si, K74.kit_ti, K74.kit_li, K74.kit_di, K74.kit_tt, K74.kit_it, K74.kit_bt, K74.kit_nt, K74.kit_st, K74.kit_lt, K74.kit_dt, Vs.inn, Vs.lend, Vs.unl, Vs.unl1, Vs.fg, Vs.stE, Vs.tg1, Vs.tg2, Vs.ifE, Vs.yes, Vs.frz, Vs.lcAn, Vs.lcM, Vs.allD, Vs.itsL, Vs.lstB, Vs.lenD, Vs.its, Vs.leD, Vs.ltD, Vs.gtD, Vs.geD, Vs.int2, Vs.fB, Vs.fI, Vs.addD, Vs.isI2, Vs.isT2, Vs.subD, Vs.catT, Vs.catL, Vs.ixD, Vs.ixO, Vs.forA, Vs.forR1, Vs.forR2, Vs.forL, Vs.stp, Vs.stp2, Vs.meV, Vs.mutV, Vs.vL, Vs.gExt, Vs.gApp, Vs.lstF, Vs.tupE, Vs.slV, Vs.sl3, Vs.slD, Vs.tupD, Vs.sumD, Vs.absD, Vs.intD, Vs.lcR1, Vs.lcR2, Vs.lcL, Vs.forZ, Vs.zipD, Vs.repF, Vs.subS, Vs.gSet, Vs.ixV, Vs.eqD, Vs.neD, Vs.isnD, Vs.isbD, Vs.max2D, Vs.asgT, Vs.clI, Vs.Sl.to, Vs.parO, Vs.asI], by simp [Vs.runP, Vs.runI, Vs.io0, Vs.retS, Vs.setS, Vs.setO, Vs.putS, Vs.lf, Vs.sq, Vs.nxt, Vs.ifS, Vs.bnd, Vs.ret, Vs.bad, Vs.opt, Vs.andE, Vs.orE, Vs.notE, Vs.asB, Vs.args, Vs.vV, Vs.vP, Vs.isD, Vs.isO, Vs.tyD, Vs.clD, Vs.kfB, Vs.cl, Vs.b2, Vs.ch, Vs.andT, Vs.orT, Vs.notT, Vs.dropS, Vs.exS, Vs.outB, K74.ite_ev, K74.itA_tup, K74.itA_lst, K74.itA_sq, K74.kit_ii, K74.kit_ib, K74.kit_bi, K74.kit_bb, K74.kit_ni, K74.kit_si, K74.kit_ti, K74.kit_li, K74.kit_di, K74.kit_tt, K74.kit_it, K74.kit_bt, K74.kit_nt, K74.kit_st, K74.kit_lt, K74.kit_dt, Vs.inn, Vs.lend, Vs.unl, Vs.unl1, Vs.fg, Vs.stE, Vs.tg1, Vs.tg2, Vs.ifE, Vs.yes, Vs.frz, Vs.lcAn, Vs.lcM, Vs.allD, Vs.itsL, Vs.lstB, Vs.lenD, Vs.its, Vs.leD, Vs.ltD, Vs.gtD, Vs.geD, Vs.int2, Vs.fB, Vs.fI, Vs.addD, Vs.isI2, Vs.isT2, Vs.subD, Vs.catT, Vs.catL, Vs.ixD, Vs.ixO, Vs.forA, Vs.forR1, Vs.forR2, Vs.forL, Vs.stp, Vs.stp2, Vs.meV, Vs.mutV, Vs.vL, Vs.gExt, Vs.gApp, Vs.lstF, Vs.tupE, Vs.slV, Vs.sl3, Vs.slD, Vs.tupD, Vs.sumD, Vs.absD, Vs.intD, Vs.lcR1, Vs.lcR2, Vs.lcL, Vs.forZ, Vs.zipD, Vs.repF, Vs.subS, Vs.gSet, Vs.ixV, Vs.eqD, Vs.neD, Vs.isnD, Vs.isbD, Vs.max2D, Vs.asgT, Vs.clI, Vs.Sl.to, Vs.parO, Vs.asI], by simp [Vs.runP, Vs.runI, Vs.io0, Vs.retS, Vs.setS, Vs.setO, Vs.putS, Vs.lf, Vs.sq, Vs.nxt, Vs.ifS, Vs.bnd, Vs.ret, Vs.bad, Vs.opt, Vs.andE, Vs.orE, Vs.notE, Vs.asB, Vs.args, Vs.vV, Vs.vP, Vs.isD, Vs.isO, Vs.tyD, Vs.clD, Vs.kfB, Vs.cl, Vs.b2, Vs.ch, Vs.andT, Vs.orT, Vs.notT, Vs.dropS, Vs.exS, Vs.outB, K74.ite_ev, K74.itA_tup, K74.itA_lst, K74.itA_sq, K74.kit_ii, K74.kit_ib, K74.kit_bi, K74.kit_bb, K74.kit_ni, K74.kit_si, K74.kit_ti, K74.kit_li, K74.kit_di, K74.kit_tt, K74.kit_it, K74.kit_bt, K74.kit_nt, K74.kit_st, K74.kit_lt, K74.kit_dt, Vs.inn, Vs.lend, Vs.unl, Vs.unl1, Vs.fg, Vs.stE, Vs.tg1, Vs.tg2, Vs.ifE, Vs.yes, Vs.frz, Vs.lcAn, Vs.lcM, Vs.allD, Vs.itsL, Vs.lstB, Vs.lenD, Vs.its, Vs.leD, Vs.ltD, Vs.gtD, Vs.geD, Vs.int2, Vs.fB, Vs.fI, Vs.addD, Vs.isI2, Vs.isT2, Vs.subD, Vs.catT, Vs.catL, Vs.ixD, Vs.ixO, Vs.forA, Vs.forR1, Vs.forR2, Vs.forL, Vs.stp, Vs.stp2, Vs.meV, Vs.mutV, Vs.vL, Vs.gExt, Vs.gApp, Vs.lstF, Vs.tupE, Vs.slV, Vs.sl3, Vs.slD, Vs.tupD, Vs.sumD, Vs.absD, Vs.intD, Vs.lcR1, Vs.lcR2, Vs.lcL, Vs.forZ, Vs.zipD, Vs.repF, Vs.subS, Vs.gSet, Vs.ixV, Vs.eqD, Vs.neD, Vs.isnD, Vs.isbD, Vs.max2D, Vs.asgT, Vs.clI, Vs.Sl.to, Vs.parO, Vs.asI], by simp [Vs.runP, Vs.runI, Vs.io0, Vs.retS, Vs.setS, Vs.setO, Vs.putS, Vs.lf, Vs.sq, Vs.nxt, Vs.ifS, Vs.bnd, Vs.ret, Vs.bad, Vs.opt, Vs.andE, Vs.orE, Vs.notE, Vs.asB, Vs.args, Vs.vV, Vs.vP, Vs.isD, Vs.isO, Vs.tyD, Vs.clD, Vs.kfB, Vs.cl, Vs.b2, Vs.ch, Vs.andT, Vs.orT, Vs.notT, Vs.dropS, Vs.exS, Vs.outB, K74.ite_ev, K74.itA_tup, K74.itA_lst, K74.itA_sq, K74.kit_ii, K74.kit_ib, K74.kit_bi, K74.kit_bb, K74.kit_ni, K74.kit_si, K74.kit_ti, K74.kit_li, K74.kit_di, K74.kit_tt, K74.kit_it, K74.kit_bt, K74.kit_nt, K74.kit_st, K74.kit_lt, K74.kit_dt, Vs.inn, Vs.lend, Vs.unl, Vs.unl1, Vs.fg, Vs.stE, Vs.tg1, Vs.tg2, Vs.ifE, Vs.yes, Vs.frz, Vs.lcAn, Vs.lcM, Vs.allD, Vs.itsL, Vs.lstB, Vs.lenD, Vs.its, Vs.leD, Vs.ltD, Vs.gtD, Vs.geD, Vs.int2, Vs.fB, Vs.fI, Vs.addD, Vs.isI2, Vs.isT2, Vs.subD, Vs.catT, Vs.catL, Vs.ixD, Vs.ixO, Vs.forA, Vs.forR1, Vs.forR2, Vs.forL, Vs.stp, Vs.stp2, Vs.meV, Vs.mutV, Vs.vL, Vs.gExt, Vs.gApp, Vs.lstF, Vs.tupE, Vs.slV, Vs.sl3, Vs.slD, Vs.tupD, Vs.sumD, Vs.absD, Vs.intD, Vs.lcR1, Vs.lcR2, Vs.lcL, Vs.forZ, Vs.zipD, Vs.repF, Vs.subS, Vs.gSet, Vs.ixV, Vs.eqD, Vs.neD, Vs.isnD, Vs.isbD, Vs.max2D, Vs.asgT, Vs.clI, Vs.Sl.to, Vs.parO, Vs.asI], by simp [Vs.runP, Vs.runI, Vs.io0, Vs.retS, Vs.setS, Vs.setO, Vs.putS, Vs.lf, Vs.sq, Vs.nxt, Vs.ifS, Vs.bnd, Vs.ret, Vs.bad, Vs.opt, Vs.andE, Vs.orE, Vs.notE, Vs.asB, Vs.args, Vs.vV, Vs.vP, Vs.isD, Vs.isO, Vs.tyD, Vs.clD, Vs.kfB, Vs.cl, Vs.b2, Vs.ch, Vs.andT, Vs.orT, Vs.notT, Vs.dropS, Vs.exS, Vs.outB, K74.ite_ev, K74.itA_tup, K74.itA_lst, K74.itA_sq, K74.kit_ii, K74.kit_ib, K74.kit_bi, K74.kit_bb, K74.kit_ni, K74.kit_si, K74.kit_ti, K74.kit_li, K74.kit_di, K74.kit_tt, K74.kit_it, K74.kit_bt, K74.kit_nt, K74.kit_st, K74.kit_lt, K74.kit_dt, Vs.inn, Vs.lend, Vs.unl, Vs.unl1, Vs.fg, Vs.stE, Vs.tg1, Vs.tg2, Vs.ifE, Vs.yes, Vs.frz, Vs.lcAn, Vs.lcM, Vs.allD, Vs.itsL, Vs.lstB, Vs.lenD, Vs.its, Vs.leD, Vs.ltD, Vs.gtD, Vs.geD, Vs.int2, Vs.fB, Vs.fI, Vs.addD, Vs.isI2, Vs.isT2, Vs.subD, Vs.catT, Vs.catL, Vs.ixD, Vs.ixO, Vs.forA, Vs.forR1, Vs.forR2, Vs.forL, Vs.stp, Vs.stp2, Vs.meV, Vs.mutV, Vs.vL, Vs.gExt, Vs.gApp, Vs.lstF, Vs.tupE, Vs.slV, Vs.sl3, Vs.slD, Vs.tupD, Vs.sumD, Vs.absD, Vs.intD, Vs.lcR1, Vs.lcR2, Vs.lcL, Vs.forZ, Vs.zipD, Vs.repF, Vs.subS, Vs.gSet, Vs.ixV, Vs.eqD, Vs.neD, Vs.isnD, Vs.isbD, Vs.max2D, Vs.asgT, Vs.clI, Vs.Sl.to, Vs.parO, Vs.asI]⟩
theorem rep_t {k : Int} {f : M (List D)} {ds : List D} {ev : Ev} (hf : f ev = .ok ds ev) (h0 : ds ≠ []) (hl : ds.length ≤ 5) (h1 : 2 ≤ k) (h2 : k ≤ 1000) : b2 mulD (tupE f) (Vs.ret (.int k)) ev = .ok (.tup (List.replicate k.toNat ds).flatten) ev := by
  rw [b2_ok (tupE_ok hf (by omega)) (show Vs.ret (D.int k) ev = .ok (.int k) ev from rfl)]
  have hm : ds.length * k.toNat ≤ 5 * 1000 := Nat.mul_le_mul hl (by omega)
  have : ds ≠ [] ∧ 2 ≤ k ∧ ds.length * k.toNat ≤ 1000000 := ⟨h0, h1, by omega⟩
  unfold mulD
  simp only [isI2, isTI, repT, this, if_true]
  rw [if_pos ⟨h0, trivial, trivial⟩]
  rfl
theorem flatM : ∀ (m : Nat) (l : List Int), (List.replicate m (l.map D.int)).flatten = ((List.replicate m l).flatten).map .int
  | 0, _ => rfl
  | m + 1, l => by rw [List.replicate_succ, List.flatten_cons, flatM m l, List.replicate_succ, List.flatten_cons, List.map_append]
theorem flat1 : ∀ m : Nat, (List.replicate m [(1 : Int)]).flatten = List.replicate m 1
  | 0 => rfl
  | m + 1 => by rw [List.replicate_succ, List.flatten_cons, flat1 m]; rfl
theorem grwA : ∀ m : Nat, grw [[1, 2], [1]] (List.replicate m 1) = (List.replicate m [1, 2]).flatten
  | 0 => rfl
  | m + 1 => by
    have ih := grwA m
    unfold grw at ih ⊢
    rw [List.replicate_succ, List.flatMap_cons, ih]
    rfl
theorem groB : ∀ n : Nat, gro [[1]] n [] = some []
  | 0 => rfl
  | n + 1 => by
    unfold gro
    rw [if_neg (by simp [Vs.runP, Vs.runI, Vs.io0, Vs.retS, Vs.setS, Vs.setO, Vs.putS, Vs.lf, Vs.sq, Vs.nxt, Vs.ifS, Vs.bnd, Vs.ret, Vs.bad, Vs.opt, Vs.andE, Vs.orE, Vs.notE, Vs.asB, Vs.args, Vs.vV, Vs.vP, Vs.isD, Vs.isO, Vs.tyD, Vs.clD, Vs.kfB, Vs.cl, Vs.b2, Vs.ch, Vs.andT, Vs.orT, Vs.notT, Vs.dropS, Vs.exS, Vs.outB, K74.ite_ev, K74.itA_tup, K74.itA_lst, K74.itA_sq, K74.kit_ii, K74.kit_ib, K74.kit_bi, K74.kit_bb, K74.kit_ni, K74.kit_si, K74.kit_ti, K74.kit_li, K74.kit_di, K74.kit_tt, K74.kit_it, K74.kit_bt, K74.kit_nt, K74.kit_st, K74.kit_lt, K74.kit_dt, Vs.inn, Vs.lend, Vs.unl, Vs.unl1, Vs.fg, Vs.stE, Vs.tg1, Vs.tg2, Vs.ifE, Vs.yes, Vs.frz, Vs.lcAn, Vs.lcM, Vs.allD, Vs.itsL, Vs.lstB, Vs.lenD, Vs.its, Vs.leD, Vs.ltD, Vs.gtD, Vs.geD, Vs.int2, Vs.fB, Vs.fI, Vs.addD, Vs.isI2, Vs.isT2, Vs.subD, Vs.catT, Vs.catL, Vs.ixD, Vs.ixO, Vs.forA, Vs.forR1, Vs.forR2, Vs.forL, Vs.stp, Vs.stp2, Vs.meV, Vs.mutV, Vs.vL, Vs.gExt, Vs.gApp, Vs.lstF, Vs.tupE, Vs.slV, Vs.sl3, Vs.slD, Vs.tupD, Vs.sumD, Vs.absD, Vs.intD, Vs.lcR1, Vs.lcR2, Vs.lcL, Vs.forZ, Vs.zipD, Vs.repF, Vs.subS, Vs.gSet, Vs.ixV, Vs.eqD, Vs.neD, Vs.isnD, Vs.isbD, Vs.max2D, Vs.asgT, Vs.clI, Vs.Sl.to, Vs.parO, Vs.asI, gsz])]
    exact groB n
theorem last_ok (K : PySem.W.Frag) {ev : Ev} : andE (b2 eqD (cl (r_grow K) (args [tupE (args [tupE (args [Vs.ret (.int 1), Vs.ret (.int 2)]), tupE (args [Vs.ret (.int 1)])]), b2 mulD (tupE (args [Vs.ret (.int 1)])) (Vs.ret (.int 400))])) (b2 mulD (tupE (args [Vs.ret (.int 1), Vs.ret (.int 2)])) (Vs.ret (.int 400)))) (b2 eqD (cl (r_grow_often K) (args [tupE (args [tupE (args [Vs.ret (.int 1)])]), tupE (args []), Vs.ret (.int 200)])) (tupE (args []))) ev = .ok (.bl true) ev := by
  have t1 : tupE (args [Vs.ret (.int 1)]) ev = .ok (ID [1]) ev := tupE_ok (args_ok rfl args_nil) (by simp [Vs.runP, Vs.runI, Vs.io0, Vs.retS, Vs.setS, Vs.setO, Vs.putS, Vs.lf, Vs.sq, Vs.nxt, Vs.ifS, Vs.bnd, Vs.ret, Vs.bad, Vs.opt, Vs.andE, Vs.orE, Vs.notE, Vs.asB, Vs.args, Vs.vV, Vs.vP, Vs.isD, Vs.isO, Vs.tyD, Vs.clD, Vs.kfB, Vs.cl, Vs.b2, Vs.ch, Vs.andT, Vs.orT, Vs.notT, Vs.dropS, Vs.exS, Vs.outB, K74.ite_ev, K74.itA_tup, K74.itA_lst, K74.itA_sq, K74.kit_ii, K74.kit_ib, K74.kit_bi, K74.kit_bb, K74.kit_ni, K74.kit_si, K74.kit_ti, K74.kit_li, K74.kit_di, K74.kit_tt, K74.kit_it, K74.kit_bt, K74.kit_nt, K74.kit_st, K74.kit_lt, K74.kit_dt, Vs.inn, Vs.lend, Vs.unl, Vs.unl1, Vs.fg, Vs.stE, Vs.tg1, Vs.tg2, Vs.ifE, Vs.yes, Vs.frz, Vs.lcAn, Vs.lcM, Vs.allD, Vs.itsL, Vs.lstB, Vs.lenD, Vs.its, Vs.leD, Vs.ltD, Vs.gtD, Vs.geD, Vs.int2, Vs.fB, Vs.fI, Vs.addD, Vs.isI2, Vs.isT2, Vs.subD, Vs.catT, Vs.catL, Vs.ixD, Vs.ixO, Vs.forA, Vs.forR1, Vs.forR2, Vs.forL, Vs.stp, Vs.stp2, Vs.meV, Vs.mutV, Vs.vL, Vs.gExt, Vs.gApp, Vs.lstF, Vs.tupE, Vs.slV, Vs.sl3, Vs.slD, Vs.tupD, Vs.sumD, Vs.absD, Vs.intD, Vs.lcR1, Vs.lcR2, Vs.lcL, Vs.forZ, Vs.zipD, Vs.repF, Vs.subS, Vs.gSet, Vs.ixV, Vs.eqD, Vs.neD, Vs.isnD, Vs.isbD, Vs.max2D, Vs.asgT, Vs.clI, Vs.Sl.to, Vs.parO, Vs.asI])
  have t2 : tupE (args [Vs.ret (.int 1), Vs.ret (.int 2)]) ev = .ok (ID [1, 2]) ev := tupE_ok (args_ok rfl (args_ok rfl args_nil)) (by simp [Vs.runP, Vs.runI, Vs.io0, Vs.retS, Vs.setS, Vs.setO, Vs.putS, Vs.lf, Vs.sq, Vs.nxt, Vs.ifS, Vs.bnd, Vs.ret, Vs.bad, Vs.opt, Vs.andE, Vs.orE, Vs.notE, Vs.asB, Vs.args, Vs.vV, Vs.vP, Vs.isD, Vs.isO, Vs.tyD, Vs.clD, Vs.kfB, Vs.cl, Vs.b2, Vs.ch, Vs.andT, Vs.orT, Vs.notT, Vs.dropS, Vs.exS, Vs.outB, K74.ite_ev, K74.itA_tup, K74.itA_lst, K74.itA_sq, K74.kit_ii, K74.kit_ib, K74.kit_bi, K74.kit_bb, K74.kit_ni, K74.kit_si, K74.kit_ti, K74.kit_li, K74.kit_di, K74.kit_tt, K74.kit_it, K74.kit_bt, K74.kit_nt, K74.kit_st, K74.kit_lt, K74.kit_dt, Vs.inn, Vs.lend, Vs.unl, Vs.unl1, Vs.fg, Vs.stE, Vs.tg1, Vs.tg2, Vs.ifE, Vs.yes, Vs.frz, Vs.lcAn, Vs.lcM, Vs.allD, Vs.itsL, Vs.lstB, Vs.lenD, Vs.its, Vs.leD, Vs.ltD, Vs.gtD, Vs.geD, Vs.int2, Vs.fB, Vs.fI, Vs.addD, Vs.isI2, Vs.isT2, Vs.subD, Vs.catT, Vs.catL, Vs.ixD, Vs.ixO, Vs.forA, Vs.forR1, Vs.forR2, Vs.forL, Vs.stp, Vs.stp2, Vs.meV, Vs.mutV, Vs.vL, Vs.gExt, Vs.gApp, Vs.lstF, Vs.tupE, Vs.slV, Vs.sl3, Vs.slD, Vs.tupD, Vs.sumD, Vs.absD, Vs.intD, Vs.lcR1, Vs.lcR2, Vs.lcL, Vs.forZ, Vs.zipD, Vs.repF, Vs.subS, Vs.gSet, Vs.ixV, Vs.eqD, Vs.neD, Vs.isnD, Vs.isbD, Vs.max2D, Vs.asgT, Vs.clI, Vs.Sl.to, Vs.parO, Vs.asI])
  have t3 : tupE (args [tupE (args [Vs.ret (.int 1), Vs.ret (.int 2)]), tupE (args [Vs.ret (.int 1)])]) ev = .ok (RD [[1, 2], [1]]) ev := tupE_ok (args_ok t2 (args_ok t1 args_nil)) (by simp [Vs.runP, Vs.runI, Vs.io0, Vs.retS, Vs.setS, Vs.setO, Vs.putS, Vs.lf, Vs.sq, Vs.nxt, Vs.ifS, Vs.bnd, Vs.ret, Vs.bad, Vs.opt, Vs.andE, Vs.orE, Vs.notE, Vs.asB, Vs.args, Vs.vV, Vs.vP, Vs.isD, Vs.isO, Vs.tyD, Vs.clD, Vs.kfB, Vs.cl, Vs.b2, Vs.ch, Vs.andT, Vs.orT, Vs.notT, Vs.dropS, Vs.exS, Vs.outB, K74.ite_ev, K74.itA_tup, K74.itA_lst, K74.itA_sq, K74.kit_ii, K74.kit_ib, K74.kit_bi, K74.kit_bb, K74.kit_ni, K74.kit_si, K74.kit_ti, K74.kit_li, K74.kit_di, K74.kit_tt, K74.kit_it, K74.kit_bt, K74.kit_nt, K74.kit_st, K74.kit_lt, K74.kit_dt, Vs.inn, Vs.lend, Vs.unl, Vs.unl1, Vs.fg, Vs.stE, Vs.tg1, Vs.tg2, Vs.ifE, Vs.yes, Vs.frz, Vs.lcAn, Vs.lcM, Vs.allD, Vs.itsL, Vs.lstB, Vs.lenD, Vs.its, Vs.leD, Vs.ltD, Vs.gtD, Vs.geD, Vs.int2, Vs.fB, Vs.fI, Vs.addD, Vs.isI2, Vs.isT2, Vs.subD, Vs.catT, Vs.catL, Vs.ixD, Vs.ixO, Vs.forA, Vs.forR1, Vs.forR2, Vs.forL, Vs.stp, Vs.stp2, Vs.meV, Vs.mutV, Vs.vL, Vs.gExt, Vs.gApp, Vs.lstF, Vs.tupE, Vs.slV, Vs.sl3, Vs.slD, Vs.tupD, Vs.sumD, Vs.absD, Vs.intD, Vs.lcR1, Vs.lcR2, Vs.lcL, Vs.forZ, Vs.zipD, Vs.repF, Vs.subS, Vs.gSet, Vs.ixV, Vs.eqD, Vs.neD, Vs.isnD, Vs.isbD, Vs.max2D, Vs.asgT, Vs.clI, Vs.Sl.to, Vs.parO, Vs.asI])
  have t4 : tupE (args [tupE (args [Vs.ret (.int 1)])]) ev = .ok (RD [[1]]) ev := tupE_ok (args_ok t1 args_nil) (by simp [Vs.runP, Vs.runI, Vs.io0, Vs.retS, Vs.setS, Vs.setO, Vs.putS, Vs.lf, Vs.sq, Vs.nxt, Vs.ifS, Vs.bnd, Vs.ret, Vs.bad, Vs.opt, Vs.andE, Vs.orE, Vs.notE, Vs.asB, Vs.args, Vs.vV, Vs.vP, Vs.isD, Vs.isO, Vs.tyD, Vs.clD, Vs.kfB, Vs.cl, Vs.b2, Vs.ch, Vs.andT, Vs.orT, Vs.notT, Vs.dropS, Vs.exS, Vs.outB, K74.ite_ev, K74.itA_tup, K74.itA_lst, K74.itA_sq, K74.kit_ii, K74.kit_ib, K74.kit_bi, K74.kit_bb, K74.kit_ni, K74.kit_si, K74.kit_ti, K74.kit_li, K74.kit_di, K74.kit_tt, K74.kit_it, K74.kit_bt, K74.kit_nt, K74.kit_st, K74.kit_lt, K74.kit_dt, Vs.inn, Vs.lend, Vs.unl, Vs.unl1, Vs.fg, Vs.stE, Vs.tg1, Vs.tg2, Vs.ifE, Vs.yes, Vs.frz, Vs.lcAn, Vs.lcM, Vs.allD, Vs.itsL, Vs.lstB, Vs.lenD, Vs.its, Vs.leD, Vs.ltD, Vs.gtD, Vs.geD, Vs.int2, Vs.fB, Vs.fI, Vs.addD, Vs.isI2, Vs.isT2, Vs.subD, Vs.catT, Vs.catL, Vs.ixD, Vs.ixO, Vs.forA, Vs.forR1, Vs.forR2, Vs.forL, Vs.stp, Vs.stp2, Vs.meV, Vs.mutV, Vs.vL, Vs.gExt, Vs.gApp, Vs.lstF, Vs.tupE, Vs.slV, Vs.sl3, Vs.slD, Vs.tupD, Vs.sumD, Vs.absD, Vs.intD, Vs.lcR1, Vs.lcR2, Vs.lcL, Vs.forZ, Vs.zipD, Vs.repF, Vs.subS, Vs.gSet, Vs.ixV, Vs.eqD, Vs.neD, Vs.isnD, Vs.isbD, Vs.max2D, Vs.asgT, Vs.clI, Vs.Sl.to, Vs.parO, Vs.asI])
  have t5 : tupE (args []) ev = .ok (ID []) ev := tupE_ok args_nil (by simp [Vs.runP, Vs.runI, Vs.io0, Vs.retS, Vs.setS, Vs.setO, Vs.putS, Vs.lf, Vs.sq, Vs.nxt, Vs.ifS, Vs.bnd, Vs.ret, Vs.bad, Vs.opt, Vs.andE, Vs.orE, Vs.notE, Vs.asB, Vs.args, Vs.vV, Vs.vP, Vs.isD, Vs.isO, Vs.tyD, Vs.clD, Vs.kfB, Vs.cl, Vs.b2, Vs.ch, Vs.andT, Vs.orT, Vs.notT, Vs.dropS, Vs.exS, Vs.outB, K74.ite_ev, K74.itA_tup, K74.itA_lst, K74.itA_sq, K74.kit_ii, K74.kit_ib, K74.kit_bi, K74.kit_bb, K74.kit_ni, K74.kit_si, K74.kit_ti, K74.kit_li, K74.kit_di, K74.kit_tt, K74.kit_it, K74.kit_bt, K74.kit_nt, K74.kit_st, K74.kit_lt, K74.kit_dt, Vs.inn, Vs.lend, Vs.unl, Vs.unl1, Vs.fg, Vs.stE, Vs.tg1, Vs.tg2, Vs.ifE, Vs.yes, Vs.frz, Vs.lcAn, Vs.lcM, Vs.allD, Vs.itsL, Vs.lstB, Vs.lenD, Vs.its, Vs.leD, Vs.ltD, Vs.gtD, Vs.geD, Vs.int2, Vs.fB, Vs.fI, Vs.addD, Vs.isI2, Vs.isT2, Vs.subD, Vs.catT, Vs.catL, Vs.ixD, Vs.ixO, Vs.forA, Vs.forR1, Vs.forR2, Vs.forL, Vs.stp, Vs.stp2, Vs.meV, Vs.mutV, Vs.vL, Vs.gExt, Vs.gApp, Vs.lstF, Vs.tupE, Vs.slV, Vs.sl3, Vs.slD, Vs.tupD, Vs.sumD, Vs.absD, Vs.intD, Vs.lcR1, Vs.lcR2, Vs.lcL, Vs.forZ, Vs.zipD, Vs.repF, Vs.subS, Vs.gSet, Vs.ixV, Vs.eqD, Vs.neD, Vs.isnD, Vs.isbD, Vs.max2D, Vs.asgT, Vs.clI, Vs.Sl.to, Vs.parO, Vs.asI])
  have m1 : b2 mulD (tupE (args [Vs.ret (.int 1)])) (Vs.ret (.int 400)) ev = .ok (ID (List.replicate 400 1)) ev := by
    refine (rep_t (ds := [.int 1]) (k := 400) (args_ok rfl args_nil) (by simp [Vs.runP, Vs.runI, Vs.io0, Vs.retS, Vs.setS, Vs.setO, Vs.putS, Vs.lf, Vs.sq, Vs.nxt, Vs.ifS, Vs.bnd, Vs.ret, Vs.bad, Vs.opt, Vs.andE, Vs.orE, Vs.notE, Vs.asB, Vs.args, Vs.vV, Vs.vP, Vs.isD, Vs.isO, Vs.tyD, Vs.clD, Vs.kfB, Vs.cl, Vs.b2, Vs.ch, Vs.andT, Vs.orT, Vs.notT, Vs.dropS, Vs.exS, Vs.outB, K74.ite_ev, K74.itA_tup, K74.itA_lst, K74.itA_sq, K74.kit_ii, K74.kit_ib, K74.kit_bi, K74.kit_bb, K74.kit_ni, K74.kit_si, K74.kit_ti, K74.kit_li, K74.kit_di, K74.kit_tt, K74.kit_it, K74.kit_bt, K74.kit_nt, K74.kit_st, K74.kit_lt, K74.kit_dt, Vs.inn, Vs.lend, Vs.unl, Vs.unl1, Vs.fg, Vs.stE, Vs.tg1, Vs.tg2, Vs.ifE, Vs.yes, Vs.frz, Vs.lcAn, Vs.lcM, Vs.allD, Vs.itsL, Vs.lstB, Vs.lenD, Vs.its, Vs.leD, Vs.ltD, Vs.gtD, Vs.geD, Vs.int2, Vs.fB, Vs.fI, Vs.addD, Vs.isI2, Vs.isT2, Vs.subD, Vs.catT, Vs.catL, Vs.ixD, Vs.ixO, Vs.forA, Vs.forR1, Vs.forR2, Vs.forL, Vs.stp, Vs.stp2, Vs.meV, Vs.mutV, Vs.vL, Vs.gExt, Vs.gApp, Vs.lstF, Vs.tupE, Vs.slV, Vs.sl3, Vs.slD, Vs.tupD, Vs.sumD, Vs.absD, Vs.intD, Vs.lcR1, Vs.lcR2, Vs.lcL, Vs.forZ, Vs.zipD, Vs.repF, Vs.subS, Vs.gSet, Vs.ixV, Vs.eqD, Vs.neD, Vs.isnD, Vs.isbD, Vs.max2D, Vs.asgT, Vs.clI, Vs.Sl.to, Vs.parO, Vs.asI]) (by simp [Vs.runP, Vs.runI, Vs.io0, Vs.retS, Vs.setS, Vs.setO, Vs.putS, Vs.lf, Vs.sq, Vs.nxt, Vs.ifS, Vs.bnd, Vs.ret, Vs.bad, Vs.opt, Vs.andE, Vs.orE, Vs.notE, Vs.asB, Vs.args, Vs.vV, Vs.vP, Vs.isD, Vs.isO, Vs.tyD, Vs.clD, Vs.kfB, Vs.cl, Vs.b2, Vs.ch, Vs.andT, Vs.orT, Vs.notT, Vs.dropS, Vs.exS, Vs.outB, K74.ite_ev, K74.itA_tup, K74.itA_lst, K74.itA_sq, K74.kit_ii, K74.kit_ib, K74.kit_bi, K74.kit_bb, K74.kit_ni, K74.kit_si, K74.kit_ti, K74.kit_li, K74.kit_di, K74.kit_tt, K74.kit_it, K74.kit_bt, K74.kit_nt, K74.kit_st, K74.kit_lt, K74.kit_dt, Vs.inn, Vs.lend, Vs.unl, Vs.unl1, Vs.fg, Vs.stE, Vs.tg1, Vs.tg2, Vs.ifE, Vs.yes, Vs.frz, Vs.lcAn, Vs.lcM, Vs.allD, Vs.itsL, Vs.lstB, Vs.lenD, Vs.its, Vs.leD, Vs.ltD, Vs.gtD, Vs.geD, Vs.int2, Vs.fB, Vs.fI, Vs.addD, Vs.isI2, Vs.isT2, Vs.subD, Vs.catT, Vs.catL, Vs.ixD, Vs.ixO, Vs.forA, Vs.forR1, Vs.forR2, Vs.forL, Vs.stp, Vs.stp2, Vs.meV, Vs.mutV, Vs.vL, Vs.gExt, Vs.gApp, Vs.lstF, Vs.tupE, Vs.slV, Vs.sl3, Vs.slD, Vs.tupD, Vs.sumD, Vs.absD, Vs.intD, Vs.lcR1, Vs.lcR2, Vs.lcL, Vs.forZ, Vs.zipD, Vs.repF, Vs.subS, Vs.gSet, Vs.ixV, Vs.eqD, Vs.neD, Vs.isnD, Vs.isbD, Vs.max2D, Vs.asgT, Vs.clI, Vs.Sl.to, Vs.parO, Vs.asI]) (by omega) (by omega)).trans ?_
    have := flatM 400 [1]
    rw [flat1] at this
    exact congrArg (fun z => Rs.ok (D.tup z) ev) this
  have m2 : b2 mulD (tupE (args [Vs.ret (.int 1), Vs.ret (.int 2)])) (Vs.ret (.int 400)) ev = .ok (ID (List.replicate 400 [1, 2]).flatten) ev := by
    refine (rep_t (ds := [.int 1, .int 2]) (k := 400) (args_ok rfl (args_ok rfl args_nil)) (by simp [Vs.runP, Vs.runI, Vs.io0, Vs.retS, Vs.setS, Vs.setO, Vs.putS, Vs.lf, Vs.sq, Vs.nxt, Vs.ifS, Vs.bnd, Vs.ret, Vs.bad, Vs.opt, Vs.andE, Vs.orE, Vs.notE, Vs.asB, Vs.args, Vs.vV, Vs.vP, Vs.isD, Vs.isO, Vs.tyD, Vs.clD, Vs.kfB, Vs.cl, Vs.b2, Vs.ch, Vs.andT, Vs.orT, Vs.notT, Vs.dropS, Vs.exS, Vs.outB, K74.ite_ev, K74.itA_tup, K74.itA_lst, K74.itA_sq, K74.kit_ii, K74.kit_ib, K74.kit_bi, K74.kit_bb, K74.kit_ni, K74.kit_si, K74.kit_ti, K74.kit_li, K74.kit_di, K74.kit_tt, K74.kit_it, K74.kit_bt, K74.kit_nt, K74.kit_st, K74.kit_lt, K74.kit_dt, Vs.inn, Vs.lend, Vs.unl, Vs.unl1, Vs.fg, Vs.stE, Vs.tg1, Vs.tg2, Vs.ifE, Vs.yes, Vs.frz, Vs.lcAn, Vs.lcM, Vs.allD, Vs.itsL, Vs.lstB, Vs.lenD, Vs.its, Vs.leD, Vs.ltD, Vs.gtD, Vs.geD, Vs.int2, Vs.fB, Vs.fI, Vs.addD, Vs.isI2, Vs.isT2, Vs.subD, Vs.catT, Vs.catL, Vs.ixD, Vs.ixO, Vs.forA, Vs.forR1, Vs.forR2, Vs.forL, Vs.stp, Vs.stp2, Vs.meV, Vs.mutV, Vs.vL, Vs.gExt, Vs.gApp, Vs.lstF, Vs.tupE, Vs.slV, Vs.sl3, Vs.slD, Vs.tupD, Vs.sumD, Vs.absD, Vs.intD, Vs.lcR1, Vs.lcR2, Vs.lcL, Vs.forZ, Vs.zipD, Vs.repF, Vs.subS, Vs.gSet, Vs.ixV, Vs.eqD, Vs.neD, Vs.isnD, Vs.isbD, Vs.max2D, Vs.asgT, Vs.clI, Vs.Sl.to, Vs.parO, Vs.asI]) (by simp [Vs.runP, Vs.runI, Vs.io0, Vs.retS, Vs.setS, Vs.setO, Vs.putS, Vs.lf, Vs.sq, Vs.nxt, Vs.ifS, Vs.bnd, Vs.ret, Vs.bad, Vs.opt, Vs.andE, Vs.orE, Vs.notE, Vs.asB, Vs.args, Vs.vV, Vs.vP, Vs.isD, Vs.isO, Vs.tyD, Vs.clD, Vs.kfB, Vs.cl, Vs.b2, Vs.ch, Vs.andT, Vs.orT, Vs.notT, Vs.dropS, Vs.exS, Vs.outB, K74.ite_ev, K74.itA_tup, K74.itA_lst, K74.itA_sq, K74.kit_ii, K74.kit_ib, K74.kit_bi, K74.kit_bb, K74.kit_ni, K74.kit_si, K74.kit_ti, K74.kit_li, K74.kit_di, K74.kit_tt, K74.kit_it, K74.kit_bt, K74.kit_nt, K74.kit_st, K74.kit_lt, K74.kit_dt, Vs.inn, Vs.lend, Vs.unl, Vs.unl1, Vs.fg, Vs.stE, Vs.tg1, Vs.tg2, Vs.ifE, Vs.yes, Vs.frz, Vs.lcAn, Vs.lcM, Vs.allD, Vs.itsL, Vs.lstB, Vs.lenD, Vs.its, Vs.leD, Vs.ltD, Vs.gtD, Vs.geD, Vs.int2, Vs.fB, Vs.fI, Vs.addD, Vs.isI2, Vs.isT2, Vs.subD, Vs.catT, Vs.catL, Vs.ixD, Vs.ixO, Vs.forA, Vs.forR1, Vs.forR2, Vs.forL, Vs.stp, Vs.stp2, Vs.meV, Vs.mutV, Vs.vL, Vs.gExt, Vs.gApp, Vs.lstF, Vs.tupE, Vs.slV, Vs.sl3, Vs.slD, Vs.tupD, Vs.sumD, Vs.absD, Vs.intD, Vs.lcR1, Vs.lcR2, Vs.lcL, Vs.forZ, Vs.zipD, Vs.repF, Vs.subS, Vs.gSet, Vs.ixV, Vs.eqD, Vs.neD, Vs.isnD, Vs.isbD, Vs.max2D, Vs.asgT, Vs.clI, Vs.Sl.to, Vs.parO, Vs.asI]) (by omega) (by omega)).trans ?_
    exact congrArg (fun z => Rs.ok (D.tup z) ev) (flatM 400 [1, 2])
  have g1 := grow_eq K (signs := List.replicate 400 1) ruA (fun s hs => by
    rw [List.eq_of_mem_replicate hs]
    simp [Vs.runP, Vs.runI, Vs.io0, Vs.retS, Vs.setS, Vs.setO, Vs.putS, Vs.lf, Vs.sq, Vs.nxt, Vs.ifS, Vs.bnd, Vs.ret, Vs.bad, Vs.opt, Vs.andE, Vs.orE, Vs.notE, Vs.asB, Vs.args, Vs.vV, Vs.vP, Vs.isD, Vs.isO, Vs.tyD, Vs.clD, Vs.kfB, Vs.cl, Vs.b2, Vs.ch, Vs.andT, Vs.orT, Vs.notT, Vs.dropS, Vs.exS, Vs.outB, K74.ite_ev, K74.itA_tup, K74.itA_lst, K74.itA_sq, K74.kit_ii, K74.kit_ib, K74.kit_bi, K74.kit_bb, K74.kit_ni, K74.kit_si, K74.kit_ti, K74.kit_li, K74.kit_di, K74.kit_tt, K74.kit_it, K74.kit_bt, K74.kit_nt, K74.kit_st, K74.kit_lt, K74.kit_dt, Vs.inn, Vs.lend, Vs.unl, Vs.unl1, Vs.fg, Vs.stE, Vs.tg1, Vs.tg2, Vs.ifE, Vs.yes, Vs.frz, Vs.lcAn, Vs.lcM, Vs.allD, Vs.itsL, Vs.lstB, Vs.lenD, Vs.its, Vs.leD, Vs.ltD, Vs.gtD, Vs.geD, Vs.int2, Vs.fB, Vs.fI, Vs.addD, Vs.isI2, Vs.isT2, Vs.subD, Vs.catT, Vs.catL, Vs.ixD, Vs.ixO, Vs.forA, Vs.forR1, Vs.forR2, Vs.forL, Vs.stp, Vs.stp2, Vs.meV, Vs.mutV, Vs.vL, Vs.gExt, Vs.gApp, Vs.lstF, Vs.tupE, Vs.slV, Vs.sl3, Vs.slD, Vs.tupD, Vs.sumD, Vs.absD, Vs.intD, Vs.lcR1, Vs.lcR2, Vs.lcL, Vs.forZ, Vs.zipD, Vs.repF, Vs.subS, Vs.gSet, Vs.ixV, Vs.eqD, Vs.neD, Vs.isnD, Vs.isbD, Vs.max2D, Vs.asgT, Vs.clI, Vs.Sl.to, Vs.parO, Vs.asI]) (by simp [Vs.runP, Vs.runI, Vs.io0, Vs.retS, Vs.setS, Vs.setO, Vs.putS, Vs.lf, Vs.sq, Vs.nxt, Vs.ifS, Vs.bnd, Vs.ret, Vs.bad, Vs.opt, Vs.andE, Vs.orE, Vs.notE, Vs.asB, Vs.args, Vs.vV, Vs.vP, Vs.isD, Vs.isO, Vs.tyD, Vs.clD, Vs.kfB, Vs.cl, Vs.b2, Vs.ch, Vs.andT, Vs.orT, Vs.notT, Vs.dropS, Vs.exS, Vs.outB, K74.ite_ev, K74.itA_tup, K74.itA_lst, K74.itA_sq, K74.kit_ii, K74.kit_ib, K74.kit_bi, K74.kit_bb, K74.kit_ni, K74.kit_si, K74.kit_ti, K74.kit_li, K74.kit_di, K74.kit_tt, K74.kit_it, K74.kit_bt, K74.kit_nt, K74.kit_st, K74.kit_lt, K74.kit_dt, Vs.inn, Vs.lend, Vs.unl, Vs.unl1, Vs.fg, Vs.stE, Vs.tg1, Vs.tg2, Vs.ifE, Vs.yes, Vs.frz, Vs.lcAn, Vs.lcM, Vs.allD, Vs.itsL, Vs.lstB, Vs.lenD, Vs.its, Vs.leD, Vs.ltD, Vs.gtD, Vs.geD, Vs.int2, Vs.fB, Vs.fI, Vs.addD, Vs.isI2, Vs.isT2, Vs.subD, Vs.catT, Vs.catL, Vs.ixD, Vs.ixO, Vs.forA, Vs.forR1, Vs.forR2, Vs.forL, Vs.stp, Vs.stp2, Vs.meV, Vs.mutV, Vs.vL, Vs.gExt, Vs.gApp, Vs.lstF, Vs.tupE, Vs.slV, Vs.sl3, Vs.slD, Vs.tupD, Vs.sumD, Vs.absD, Vs.intD, Vs.lcR1, Vs.lcR2, Vs.lcL, Vs.forZ, Vs.zipD, Vs.repF, Vs.subS, Vs.gSet, Vs.ixV, Vs.eqD, Vs.neD, Vs.isnD, Vs.isbD, Vs.max2D, Vs.asgT, Vs.clI, Vs.Sl.to, Vs.parO, Vs.asI])
  rw [grwA] at g1
  have g2 := grow_often_eq K (signs := []) (t := 200) ruB (fun s hs => by cases hs) (by simp [Vs.runP, Vs.runI, Vs.io0, Vs.retS, Vs.setS, Vs.setO, Vs.putS, Vs.lf, Vs.sq, Vs.nxt, Vs.ifS, Vs.bnd, Vs.ret, Vs.bad, Vs.opt, Vs.andE, Vs.orE, Vs.notE, Vs.asB, Vs.args, Vs.vV, Vs.vP, Vs.isD, Vs.isO, Vs.tyD, Vs.clD, Vs.kfB, Vs.cl, Vs.b2, Vs.ch, Vs.andT, Vs.orT, Vs.notT, Vs.dropS, Vs.exS, Vs.outB, K74.ite_ev, K74.itA_tup, K74.itA_lst, K74.itA_sq, K74.kit_ii, K74.kit_ib, K74.kit_bi, K74.kit_bb, K74.kit_ni, K74.kit_si, K74.kit_ti, K74.kit_li, K74.kit_di, K74.kit_tt, K74.kit_it, K74.kit_bt, K74.kit_nt, K74.kit_st, K74.kit_lt, K74.kit_dt, Vs.inn, Vs.lend, Vs.unl, Vs.unl1, Vs.fg, Vs.stE, Vs.tg1, Vs.tg2, Vs.ifE, Vs.yes, Vs.frz, Vs.lcAn, Vs.lcM, Vs.allD, Vs.itsL, Vs.lstB, Vs.lenD, Vs.its, Vs.leD, Vs.ltD, Vs.gtD, Vs.geD, Vs.int2, Vs.fB, Vs.fI, Vs.addD, Vs.isI2, Vs.isT2, Vs.subD, Vs.catT, Vs.catL, Vs.ixD, Vs.ixO, Vs.forA, Vs.forR1, Vs.forR2, Vs.forL, Vs.stp, Vs.stp2, Vs.meV, Vs.mutV, Vs.vL, Vs.gExt, Vs.gApp, Vs.lstF, Vs.tupE, Vs.slV, Vs.sl3, Vs.slD, Vs.tupD, Vs.sumD, Vs.absD, Vs.intD, Vs.lcR1, Vs.lcR2, Vs.lcL, Vs.forZ, Vs.zipD, Vs.repF, Vs.subS, Vs.gSet, Vs.ixV, Vs.eqD, Vs.neD, Vs.isnD, Vs.isbD, Vs.max2D, Vs.asgT, Vs.clI, Vs.Sl.to, Vs.parO, Vs.asI]) (by omega) (by omega)
  rw [groB] at g2
  simp only at g2
  have q1 := eqD_ID (a := (List.replicate 400 [1, 2]).flatten) (b := (List.replicate 400 [1, 2]).flatten) (ev := ev)
  have q2 := eqD_ID (a := []) (b := []) (ev := ev)
  rw [decide_eq_true rfl] at q1 q2
  rw [andE_yes ((b2_ok (cl_val (args_ok t3 (args_ok m1 args_nil)) g1) m2).trans q1)]
  exact (b2_ok (cl_val (args_ok t4 (args_ok t5 (args_ok (f := Vs.ret (.int 200)) rfl args_nil))) g2) t5).trans q2
theorem law_ok (K : PySem.W.Frag) {ns : List Int} (he : Ke K) (hl : ns.length ≤ 63) : r_law K [.sq (ns.map D.int)] = .ok (.bl true) [] := by
  obtain ⟨h, e, k⟩ := hand_ok K hl
  generalize D.sq (ns.map D.int) = x at *
  have s1 : setO 1 (clF (r__law_hand K) (args [vV 0])) [.sh x, .no, .no, .no] = .nx [.sh x, .ol h.ds, .no, .no] := by
    refine setO_ok (ev1 := [.sh x, .no, .no, .no]) ?_
    unfold clF
    rw [bnd_ok (args_ok (vV_sh (i := 0) rfl) args_nil)]
    simp only [e]
  obtain ⟨ev, e2, h', _, rfl, _⟩ := loop_inv (cl := [2, 3]) (step := lp_law_0 K) (rng 0 4) (fun j ev => ∃ h : Hnd, j ≤ 4 ∧ ev = [.sh x, .ol h.ds, .no, .no] ∧ h.Ok (100 * j)) [.sh x, .ol h.ds, .no, .no] (fun j d ev hj hi => by
    obtain ⟨h, _, rfl, hk⟩ := hi
    have hj2 := (List.getElem?_eq_some_iff.mp hj).1
    rw [rng_length] at hj2
    obtain ⟨h', u, v, e, k'⟩ := turn_ok K (x := x) (d := d) he hk (by omega)
    exact ⟨_, e, h', by omega, rfl, k'.mono (by omega)⟩) ⟨h, by omega, rfl, k⟩
  have s2 := forR1_ok (cl := [2, 3]) (f := Vs.ret (.int 4)) (n := 4) (ev := [.sh x, .ol h.ds, .no, .no]) rfl (by omega) (by omega) e2
  exact runP_rt ((sq_nx s1).trans ((sq_nx s2).trans (retS_ok (last_ok K))))
end K74
namespace K74
open PySem PySem.Spec PyProof.Rows L2 LamX NdefX HotX Vs
theorem ke_of {K : PySem.W.Frag} (h : Kf K) : Ke K where
  exm := h.exm
  nd := h.nd
  kit := fun C hC D hD => by
    obtain ⟨n1, n2, n3, n4, n5, n6, n7, n8, n9, n10⟩ : He.ga K "TooMany" ≠ He.ga K "NoNumber" ∧ He.ga K "TooMany" ≠ He.ga K "NoSign" ∧ He.ga K "TooMany" ≠ He.ga K "NoRule" ∧ He.ga K "TooMany" ≠ He.ga K "NoSigns" ∧
      He.ga K "NoNumber" ≠ He.ga K "NoSign" ∧ He.ga K "NoNumber" ≠ He.ga K "NoRule" ∧ He.ga K "NoNumber" ≠ He.ga K "NoSigns" ∧ He.ga K "NoSign" ≠ He.ga K "NoRule" ∧ He.ga K "NoSign" ≠ He.ga K "NoSigns" ∧ He.ga K "NoRule" ≠ He.ga K "NoSigns" := by
      have n := h.nd
      simp [excs] at n
      obtain ⟨⟨a1, a2, a3, a4⟩, ⟨a5, a6, a7⟩, ⟨a8, a9⟩, a10⟩ := n
      exact ⟨a1, a2, a3, a4, a5, a6, a7, a8, a9, a10⟩
    have key : ∀ b : Bool, (C, Value.ref D, b) ∈ kits K → decide (C = D) = b → W.kitOne K (.ref C) (.ref D) = some (decide (C = D)) := fun b hm hb => by
      rw [hb]
      exact h.kit _ hm
    simp only [excs, List.mem_cons, List.mem_nil_iff, or_false] at hC hD
    rcases hC with rfl | rfl | rfl | rfl | rfl <;> rcases hD with rfl | rfl | rfl | rfl | rfl <;>
      first
        | (refine key true ?_ ?_
           · simp [kits]
           · simp)
        | (refine key false ?_ ?_
           · simp [kits]
           · apply decide_eq_false
             first
               | assumption
               | (apply Ne.symm; assumption))
  val := fun C hC => by
    have key : (C, Value.type "ValueError", true) ∈ kits K → W.kitOne K (.ref C) (.type "ValueError") = some true := fun hm => h.kit _ hm
    refine key ?_
    simp only [excs, List.mem_cons, List.mem_nil_iff, or_false] at hC
    rcases hC with rfl | rfl | rfl | rfl | rfl <;> simp [kits]
end K74
theorem PySem.Challenge.cw_anynumeral_k74_whole_rules_grown_step_by_holds : PySem.Challenge.rw_anynumeral_k74_whole_rules_grown_step_by.Holds := by
  exact K74.holds_of fun K ns hK hl _ => K74.law_ok K (K74.ke_of hK) hl
