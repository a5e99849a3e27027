import PyProof.Rows.All
import HandS.ForMost
import HandS.Flow
import HandS.Walk
import HandS.TupAny
import HandS.TupMul
import HandS.Conv
import HandS.IsInst
import HandS.Deep
import HandS.Defaults
import HandS.Zip
import HandS.Iter
import KE.GoesMore
import KE.GoesEnum
import PyProof.CollectIter
import PyProof.WalksMore
import HandS.WordsDict
import HandS.DictComp
import HandS.More
import HandS.SetFor
import HandS.SortInts
import HandS.Strs
import KE.KDictPairs
import HandS.WrittenGet
import PyProof.InstSpecial
import HandS.Style
import PySem.Challenge.RW_lesserhall_k33_whole_only_the_order_coun
set_option Elab.async false
set_option linter.all false
set_option maxRecDepth 100000
set_option autoImplicit false
set_option maxHeartbeats 4000000
/-! tuples whose objects are known: they have no dict of their own -/
namespace Gd
open PySem PySem.Spec PyProof.Rows L2
def TupO (us : List Value) (n : Nat) : Obj := { cls := .type "tuple", data := .seq us.toArray n }
/-- a known tuple -/
def ZT (K : PySem.W.Frag) (H : Hp) (a : Addr) (xs : List V) : Prop :=
  (∃ o : Obj, H a = some (.frz o (.tup xs)) ∧ o.dict = none) ∨
    ∃ (o : Obj) (its : Array Value) (n : Nat), K.lookup a = some o ∧ o.dict = none ∧ o.cls = .type "tuple" ∧ o.data = .seq its n ∧ its.size ≤ sizeLine ∧ Vals xs its.toList
theorem ZT.sq {K : PySem.W.Frag} {H : Hp} {a : Addr} {xs : List V} (h : ZT K H a xs) : SqT K H a xs := by
  rcases h with ⟨o, h, _⟩ | ⟨o, its, n, h1, _, h2⟩
  · exact .inl (.inr ⟨o, h⟩)
  · exact .inr ⟨o, its, n, h1, h2⟩
/-- a new one -/
def NuT (H : Hp) (xs : List V) (Q : VK) : Prop := ∀ p us n, H p = none → Q (.ref p) (upd H p (.frz (TupO us n) (.tup xs)))
section
variable {X : Cx} {pins : List (Addr × Obj)} {σ : L2.St} {H : Hp} {s : Shared} {xs : List V} {us : List Value}
theorem laidZ {n : Nat} {t : Nat} (I : Inv X pins σ H s) (r : Vals xs us) (hz : xs.length ≤ sizeLine) : Inv X pins σ (upd H s.heap.objs.size (.frz (TupO us n) (.tup xs))) { s with heap := s.heap.push (TupO us n), toks := t } :=
  I.laid (fun b u e => Heap.get?_push_of_some _ e) (Nat.le_refl _) (show ObjOk X.prog X.w _ _ _ (.frz (TupO us n) (.tup xs)) from ⟨Heap.get?_push_size _ rfl, hz, us, r, ⟨_, Heap.get?_push_size _ rfl, rfl, _, rfl⟩⟩)
theorem givesZ {n : Nat} {t : Nat} {Q : VK} (I : Inv X pins σ H s) (r : Vals xs us) (hz : xs.length ≤ sizeLine) (q : NuT H xs Q) : EP X pins σ Q (.ref s.heap.objs.size) { s with heap := s.heap.push (TupO us n), toks := t } :=
  ⟨.ref s.heap.objs.size, _, laidZ I r hz, rfl, q _ us n (I.hok.fresh (Nat.le_refl _))⟩
variable {es : List Expr} {pos : Pos} {t : TA}
def tTupZ (t : TA) : TE := fun σ H Q => t σ H fun xs H1 => xs.length ≤ sizeLine ∧ NuT H1 xs Q
theorem pe_tupZ {x1} (h : PA X es t) : PE X (.Tuple es x1 pos) (tTupZ t) := by
  refine ⟨fun pins s σ H Q I hq => ?_⟩
  refine wpAny_Tuple_spliced (thn (h.run pos pins s σ H _ I hq) fun us s1 ⟨xs, H1, I1, r, z, q⟩ => ⟨by rw [← r.length]; exact z, ?_⟩)
  exact givesZ (n := 0) (t := s1.toks) I1 r z q
/-- t + u -/
def rCatZ (K : PySem.W.Frag) : R2 := fun x y H Q => ∃ a b xs ys, x = .ref a ∧ y = .ref b ∧ SqT K H a xs ∧ SqT K H b ys ∧ xs.length + ys.length ≤ sizeLine ∧
  (xs = [] → Q (.ref b) H) ∧ (xs ≠ [] → ys = [] → Q (.ref a) H) ∧ (xs ≠ [] → ys ≠ [] → NuT H (xs ++ ys) Q)
theorem op_catZ : OpR X (binaryOp .Add) (rCatZ X.K) := by
  intro pins s σ H x y v u Q I rx ry h
  obtain ⟨a, b, xs, ys, rfl, rfl, ha, hb, hz, q0, q1, q2⟩ := h
  cases rx
  cases ry
  obtain ⟨its, r1, p1, _⟩ := I.tuple ha
  obtain ⟨its2, r2, p2, _⟩ := I.tuple hb
  by_cases hx : xs = []
  · subst hx
    cases r1
    exact cat_tup0 p1 p2 ⟨.ref b, H, I, rfl, q0 rfl⟩
  · refine HT.cat_tup p1 p2 (fun z => hx (r1.nil_iff.mp z)) (fun z => ⟨.ref a, H, I, rfl, q1 hx (r2.nil_iff.mp z)⟩) (fun z => ?_) (by rw [← r1.length, ← r2.length]; exact hz)
    exact givesZ (n := 0) (t := s.toks) I (r1.append r2) (by rw [List.length_append]; exact hz) (q2 hx fun w => z (r2.nil_iff.mpr w))
/-- t[lo:hi]: the whole of it is t itself -/
def rSlZ (K : PySem.W.Frag) : V → Option Int → Option Int → Hp → VK → Prop := fun x lo hi H Q => ∃ a xs, x = .ref a ∧ SqT K H a xs ∧
  (HT.sIx xs.length 0 lo = 0 ∧ HT.sIx xs.length xs.length hi = xs.length → Q (.ref a) H) ∧ (¬ (HT.sIx xs.length 0 lo = 0 ∧ HT.sIx xs.length xs.length hi = xs.length) → NuT H (cutV xs lo hi) Q)
theorem sl_tupZ : SlR X (rSlZ X.K) := by
  intro pins s σ H x v vl vu lo hi sl Q I rx hs pl pu h
  obtain ⟨a, xs, rfl, hx, q1, q2⟩ := h
  cases rx
  obtain ⟨its, r, ht, hz⟩ := I.tuple hx
  have hlen : its.toArray.size = xs.length := by rw [List.size_toArray]; exact r.length.symm
  refine ⟨"tuple", _, PyProof.Rows.slot_tuple_getitem.lookup, ht.typeIs, ?_⟩
  by_cases hw : HT.sIx xs.length 0 lo = 0 ∧ HT.sIx xs.length xs.length hi = xs.length
  · exact getItem_tuple_whole ht hs pl pu (by rw [hlen]; exact hw) ⟨.ref a, H, I, rfl, q1 hw⟩
  · refine HT.getItem_tuple_cut ht hs pl pu (by rw [hlen]; exact hw) ?_ (by rw [hlen]; exact hz)
    rw [hlen]
    exact givesZ (n := 0) (t := s.toks) I ((r.drop (HT.sIx xs.length 0 lo)).take (HT.sIx xs.length xs.length hi - HT.sIx xs.length 0 lo)) (Nat.le_trans (cutV_length xs lo hi) hz) (q2 hw)
/-- tuple(x) -/
theorem call_tupleZ : CallR X (.type "tuple") (fun xs H Q => ∃ p ys, xs = [.ref p] ∧ ((SqL X.K H p ys ∧ NuT H ys Q) ∨ (SqT X.K H p ys ∧ Q (.ref p) H))) := by
  intro pins s σ H xs us Q I r h
  obtain ⟨p, ys, rfl, h⟩ := h
  obtain ⟨u, rfl, rx⟩ := vals1 r
  cases rx
  rcases h with ⟨hq, q⟩ | ⟨hq, q⟩
  · obtain ⟨its, r', pl, hz⟩ := I.list hq
    have hlen := r'.length
    refine call_tuple_list pl.isList (fun h' kp => ?_) (by simp only [List.size_toArray] <;> omega)
    have I1 : Inv X pins σ H { s with heap := h' } := I.kept (t' := s.toks) kp
    exact givesZ (n := 0) (t := s.toks) I1 r' hz q
  · obtain ⟨its, r', pl, hz⟩ := I.tuple hq
    exact call_tuple_same pl ⟨.ref p, H, I, rfl, q⟩
/-- t * k -/
def rRepZ (K : PySem.W.Frag) : R2 := fun x y H Q => ∃ l k xs, x = .ref l ∧ y = .int k ∧ SqT K H l xs ∧ xs ≠ [] ∧ 2 ≤ k ∧ k ≤ 1000 ∧ xs.length ≤ 1000 ∧ NuT H (List.replicate k.toNat xs).flatten Q
theorem op_repZ : OpR X (binaryOp .Mult) (rRepZ X.K) := by
  intro pins s σ H x y v u Q I rx ry h
  obtain ⟨l, k, xs, rfl, rfl, hT, hne, h1, h2, hz, q⟩ := h
  cases rx
  obtain ⟨t, rfl⟩ := ry
  obtain ⟨its, r, ⟨⟨cls, dd, data, sl⟩, ho, hc, n, hd⟩, hs⟩ := I.tuple hT
  simp only at hc hd
  subst hc hd
  have hle : its.length = xs.length := r.length.symm
  have hn : its ≠ [] := fun e => hne (by
    rw [e] at hle
    exact List.eq_nil_of_length_eq_zero hle.symm)
  have hi : its.toArray.isEmpty = false := by
    cases its with
    | nil => exact absurd rfl hn
    | cons a b => rfl
  have hsz0 : its.toArray.size = xs.length := by rw [List.size_toArray, hle]
  have hm : ((its.toArray.size : Nat) : Int) * k ≤ 1000000 := by
    rw [hsz0]
    have a1 : ((xs.length : Nat) : Int) * k ≤ 1000 * k := Int.mul_le_mul_of_nonneg_right (by omega) (by omega)
    omega
  have flen : (List.replicate k.toNat its).flatten.length ≤ sizeLine := by
    rw [PyProof.Rows.lm_len_rep_flat, hle, sizeLine_eq]
    have a1 : k.toNat * xs.length ≤ 1000 * 1000 := Nat.mul_le_mul (by omega) hz
    omega
  have c0 : (decide (k < -(2 ^ 63)) || decide (k ≥ 2 ^ 63)) = false := by
    rw [decide_eq_false (by omega), decide_eq_false (by omega)] <;> rfl
  have c1 : (its.toArray.isEmpty || k == 1) = false := by
    rw [hi, Bool.false_or]
    exact beq_eq_false_iff_ne.mpr (by omega)
  have c2 : (decide (k ≤ 0) || its.toArray.isEmpty) = false := by
    rw [hi, Bool.or_false]
    exact decide_eq_false (by omega)
  have c4 : Builtin.Tuple.tupleTooMany (((its.toArray.size : Nat) : Int) * k) = false := by
    unfold Builtin.Tuple.tupleTooMany
    rw [sizeLine_eq]
    exact decide_eq_false (by omega)
  refine wpAny_binaryOp_repeat_ref (T := "tuple") (U := "int") (by decide) ⟨_, ho, rfl⟩ (fun s' => typeIs_int s' k t) noFill_tuple_mul F.fills_int_mul F.slot_int_rmul repeat_tuple F.slot_int_index.lookup
    (call_meets F.slot_int_rmul (typeIs_int s k t) F.entry_int_rmul (F.args_int_rmul_2 _ _) (int_rmul_tuple k t l its.toArray n dd sl)
      ⟨ho, rfl, ⟨_, ho, rfl⟩, call_meets F.slot_tuple_mul ⟨_, ho, rfl⟩ F.entry_tuple_mul (F.args_tuple_mul_2 _ _) (tuple_mulW l its.toArray n dd sl k t c0 c1 c2 (by omega) c4 (by rw [size_rep, List.size_toArray]; exact flen)) ⟨ho, ?_⟩⟩)
  rw [size_rep]
  exact givesZ (n := 0) (t := s.toks) I (r.rep k.toNat) (by rw [PyProof.Rows.lm_len_rep_flat, sizeLine_eq]; have a1 : k.toNat * xs.length ≤ 1000 * 1000 := Nat.mul_le_mul (by omega) hz; omega) q
variable {e : Expr} {te : L2.St → Hp → (Int → Int → Hp → Prop) → Prop}
def tTupRgZ (te : L2.St → Hp → (Int → Int → Hp → Prop) → Prop) : TE := fun σ H Q => te σ H fun a b H1 => RgOk a b ∧ NuT H1 (rgV a b) Q
theorem pe_tupRgZ {p pos : Pos} (hc : X.calm = true) (hg : Gl X "tuple") (hm : X.mg "tuple" = none) (he : PRg X e te) (na : starEach [e] X.env = (false, eval e X.env) :: starEach [] X.env := by rfl) : PE X (.Call (.Name "tuple" p) [e] [] pos) (tTupRgZ te) := by
  refine ⟨fun pins s σ H Q I h => ?_⟩
  refine Call_ (ld_blt I hg hm boot_tuple (PyProof.Rows.callWith_type1 (args_cons (thn (he pins s σ H _ I h) fun x s1 ⟨r, a, b, t, u, v, H1, ex, hr, I1, ok, q⟩ => args_nil ?_) na) na))
  subst ex
  obtain ⟨b1, b2, b3, b4, b5⟩ := ok
  refine call_tuple_range (n := (b - a).toNat) (I1.ok.hd hc) hr (small_one b1 b2 b3 b4) (rangeSize_nat a b) b5 fun h' tk acc hk hi => ?_
  have I2 : Inv X pins σ H1 { s1 with heap := h', toks := tk } := I1.kept hk
  exact givesZ (n := 0) (t := tk) (us := acc.toList) I2 (vals_rg hi) (by rw [rgV_length, sizeLine_eq]; omega) q
end
end Gd
/-! data over the abstract heap: what is read, what may be written -/
namespace Gd
open PySem PySem.Spec PyProof.Rows L2

/-- data -/
inductive D where
  | non | bl (b : Bool) | int (i : Int) | str (x : Str)
  | lst (ds : List D) | tup (ds : List D)
  | dic (ks : List Key) (vs : List D) | dct (ks : List (List Key)) (vs : List D)
  | ins (C : Addr) (ns : List Str) (vs : List D)
  | scr (ds : List D)
  /-- a pair that a walk hands out -/
  | par (ds : List D)

mutual
/-- v stands for d in F -/
inductive Rep (K : PySem.W.Frag) (F : Hp) : V → D → Prop
  | non : Rep K F .non .non
  | bl {b : Bool} : Rep K F (.bl b) (.bl b)
  | int {i : Int} : Rep K F (.int i) (.int i)
  | str {x : Str} : Rep K F (.str x) (.str x)
  | lst {a : Addr} {xs : List V} {ds : List D} : F a = some (.lst xs) → RepL K F xs ds → Rep K F (.ref a) (.lst ds)
  | scr {a : Addr} {xs : List V} {ds : List D} : SqL K F a xs → RepL K F xs ds → Rep K F (.ref a) (.scr ds)
  | tup {a : Addr} {xs : List V} {ds : List D} : ZT K F a xs → RepL K F xs ds → Rep K F (.ref a) (.tup ds)
  | par {a : Addr} {xs : List V} {ds : List D} : SqT K F a xs → RepL K F xs ds → Rep K F (.ref a) (.par ds)
  | dic {a : Addr} {kvs : List (Key × V)} {ks : List Key} {vs : List D} : Rd F a (.dK kvs) → kvs.map (·.1) = ks → RepL K F (kvs.map (·.2)) vs → Rep K F (.ref a) (.dic ks vs)
  | dct {a : Addr} {kvs : List (List Key × V)} {ks : List (List Key)} {vs : List D} : Rd F a (.dT kvs) → kvs.map (·.1) = ks → RepL K F (kvs.map (·.2)) vs → Rep K F (.ref a) (.dct ks vs)
  | ins {a C dx : Addr} {fs : List (Str × V)} {ns : List Str} {vs : List D} : F a = some (.ins C dx fs) → fs.map (·.1) = ns → RepL K F (fs.map (·.2)) vs → Rep K F (.ref a) (.ins C ns vs)
inductive RepL (K : PySem.W.Frag) (F : Hp) : List V → List D → Prop
  | nil : RepL K F [] []
  | cons {v : V} {vs : List V} {d : D} {ds : List D} : Rep K F v d → RepL K F vs ds → RepL K F (v :: vs) (d :: ds)
end

/-! ### what F' still tells of F: all, but that a dict may be locked (for good) -/
def core : HO → HO
  | .frz _ u => u
  | u => u
def IsDic : HO → Prop
  | .dK _ => True
  | .dT _ => True
  | _ => False
theorem core_dic {u : HO} (h : IsDic u) : core u = u := by
  cases u <;> first | rfl | exact h.elim
def Le (F F' : Hp) : Prop := ∀ a u, F a = some u → F' a = some u ∨ (IsDic u ∧ ∃ o, F' a = some (.frz o u))
theorem Le.refl (F : Hp) : Le F F := fun _ _ h => .inl h
theorem Le.trans {F F1 F2 : Hp} (x : Le F F1) (y : Le F1 F2) : Le F F2 := fun a u h => by
  rcases x a u h with h | ⟨hd, o, h⟩
  · exact y a u h
  · rcases y a _ h with h | ⟨hd2, _⟩
    · exact .inr ⟨hd, o, h⟩
    · exact hd2.elim
theorem Le.some {F F' : Hp} (x : Le F F') {a : Addr} (h : F a ≠ none) : F' a ≠ none := by
  cases e : F a with
  | none => exact absurd e h
  | some u =>
    rcases x a u e with h | ⟨_, o, h⟩ <;> rw [h] <;> exact fun z => nomatch z
theorem Le.none {F F' : Hp} (x : Le F F') {a : Addr} (h : F' a = none) : F a = none := Classical.byContradiction fun z => x.some z h
theorem Le.frz {F F' : Hp} (x : Le F F') {a : Addr} {o : Obj} {u : HO} (h : F a = Option.some (.frz o u)) : F' a = Option.some (.frz o u) := (x a _ h).elim id fun z => z.1.elim
theorem Le.dK {F F' : Hp} (x : Le F F') {a : Addr} {kvs : List (Key × V)} (h : Rd F a (.dK kvs)) : Rd F' a (.dK kvs) := by
  rcases h with h | ⟨o, h⟩
  · exact (x a _ h).elim .inl fun z => .inr z.2
  · exact .inr ⟨o, x.frz h⟩
theorem Le.dT {F F' : Hp} (x : Le F F') {a : Addr} {kvs : List (List Key × V)} (h : Rd F a (.dT kvs)) : Rd F' a (.dT kvs) := by
  rcases h with h | ⟨o, h⟩
  · exact (x a _ h).elim .inl fun z => .inr z.2
  · exact .inr ⟨o, x.frz h⟩
theorem Le.same {F F' : Hp} (x : Le F F') {a : Addr} {u : HO} (h : F a = Option.some u) (n : ¬ IsDic (core u)) : F' a = Option.some u := (x a u h).elim id fun z => absurd (by rw [core_dic z.1]; exact z.1) n
theorem Le.sqL {K : PySem.W.Frag} {F F' : Hp} (x : Le F F') {a : Addr} {xs : List V} (h : SqL K F a xs) : SqL K F' a xs := by
  rcases h with (h | ⟨o, h⟩) | h
  · exact .inl (.inl (x.same h fun z => z))
  · exact .inl (.inr ⟨o, x.same h fun z => z⟩)
  · exact .inr h
theorem Le.sqT {K : PySem.W.Frag} {F F' : Hp} (x : Le F F') {a : Addr} {xs : List V} (h : SqT K F a xs) : SqT K F' a xs := by
  rcases h with (h | ⟨o, h⟩) | h
  · exact .inl (.inl (x.same h fun z => z))
  · exact .inl (.inr ⟨o, x.same h fun z => z⟩)
  · exact .inr h
theorem Le.zt {K : PySem.W.Frag} {F F' : Hp} (x : Le F F') {a : Addr} {xs : List V} (h : ZT K F a xs) : ZT K F' a xs := by
  rcases h with ⟨o, h, e⟩ | h
  · exact .inl ⟨o, x.same h fun z => z, e⟩
  · exact .inr h
section
variable {K : PySem.W.Frag} {F F' : Hp}
mutual
theorem Rep.mono (x : Le F F') : ∀ (d : D) {v : V}, Rep K F v d → Rep K F' v d
  | .non, _, h => by
    cases h
    exact .non
  | .bl b, _, h => by
    cases h
    exact .bl
  | .int i, _, h => by
    cases h
    exact .int
  | .str i, _, h => by
    cases h
    exact .str
  | .lst ds, _, h => by
    cases h with
    | lst h1 h2 => exact .lst (x.same h1 fun z => z) (RepL.mono x ds h2)
  | .scr ds, _, h => by
    cases h with
    | scr h1 h2 => exact .scr (x.sqL h1) (RepL.mono x ds h2)
  | .tup ds, _, h => by
    cases h with
    | tup h1 h2 => exact .tup (x.zt h1) (RepL.mono x ds h2)
  | .par ds, _, h => by
    cases h with
    | par h1 h2 => exact .par (x.sqT h1) (RepL.mono x ds h2)
  | .dic ks vs, _, h => by
    cases h with
    | dic h1 h2 h3 => exact .dic (x.dK h1) h2 (RepL.mono x vs h3)
  | .dct ks vs, _, h => by
    cases h with
    | dct h1 h2 h3 => exact .dct (x.dT h1) h2 (RepL.mono x vs h3)
  | .ins C ns vs, _, h => by
    cases h with
    | ins h1 h2 h3 => exact .ins (x.same h1 fun z => z) h2 (RepL.mono x vs h3)
theorem RepL.mono (x : Le F F') : ∀ (ds : List D) {vs : List V}, RepL K F vs ds → RepL K F' vs ds
  | [], _, h => by
    cases h
    exact .nil
  | d :: ds, _, h => by
    cases h with
    | cons h1 h2 => exact .cons (Rep.mono x d h1) (RepL.mono x ds h2)
end
theorem RepL.len : ∀ {vs : List V} {ds : List D}, RepL K F vs ds → vs.length = ds.length
  | _, _, .nil => rfl
  | _, _, .cons _ t => congrArg Nat.succ t.len
theorem RepL.get : ∀ {vs : List V} {ds : List D} {i : Nat} {d : D}, RepL K F vs ds → ds[i]? = some d → ∃ v, vs[i]? = some v ∧ Rep K F v d
  | _, _, _, _, .nil, e => by simp at e
  | _, _, 0, _, .cons r _, e => by simp at e; subst e; exact ⟨_, rfl, r⟩
  | _, _, i + 1, d, .cons _ t, e => by
    obtain ⟨v, h1, h2⟩ := t.get (i := i) (d := d) (by simpa using e)
    exact ⟨v, by simpa using h1, h2⟩
theorem RepL.getV : ∀ {vs : List V} {ds : List D} {i : Nat} {v : V}, RepL K F vs ds → vs[i]? = some v → ∃ d, ds[i]? = some d ∧ Rep K F v d
  | _, _, _, _, .nil, e => by simp at e
  | _, _, 0, _, .cons r _, e => by simp at e; subst e; exact ⟨_, rfl, r⟩
  | _, _, i + 1, v, .cons _ t, e => by
    obtain ⟨d, h1, h2⟩ := t.getV (i := i) (v := v) (by simpa using e)
    exact ⟨d, by simpa using h1, h2⟩
theorem RepL.append : ∀ {vs ws : List V} {ds es : List D}, RepL K F vs ds → RepL K F ws es → RepL K F (vs ++ ws) (ds ++ es)
  | _, _, _, _, .nil, s => s
  | _, _, _, _, .cons r t, s => .cons r (t.append s)
theorem RepL.take : ∀ {vs : List V} {ds : List D} (n : Nat), RepL K F vs ds → RepL K F (vs.take n) (ds.take n)
  | _, _, 0, _ => .nil
  | _, _, _ + 1, .nil => .nil
  | _, _, n + 1, .cons r t => .cons r (t.take n)
theorem RepL.drop : ∀ {vs : List V} {ds : List D} (n : Nat), RepL K F vs ds → RepL K F (vs.drop n) (ds.drop n)
  | _, _, 0, r => r
  | _, _, _ + 1, .nil => .nil
  | _, _, n + 1, .cons _ t => t.drop n
theorem RepL.set {v : V} {d : D} (r : Rep K F v d) : ∀ {vs : List V} {ds : List D} (i : Nat), RepL K F vs ds → RepL K F (vs.set i v) (ds.set i d)
  | _, _, _, .nil => .nil
  | _, _, 0, .cons _ t => .cons r t
  | _, _, i + 1, .cons q t => .cons q (t.set r i)
theorem RepL.one {v : V} {d : D} (r : Rep K F v d) : RepL K F [v] [d] := .cons r .nil
end

/-! ### the state: names, and what may be written -/
/-- what a name holds, what an expression gives: data; the i-th thing that may be written; just v -/
inductive Sl where
  | dat (d : D) | cel (i : Nat) | val (v : V)
def RepS (K : PySem.W.Frag) (F : Hp) (as : List Addr) (v : V) : Sl → Prop
  | .dat d => Rep K F v d
  | .cel i => ∃ a, as[i]? = some a ∧ v = .ref a
  | .val w => v = w
inductive MO where
  | lst (ds : List D) | dic (ks : List Key) (vs : List D) | dct (ks : List (List Key)) (vs : List D)
  | ins (C : Addr) (fs : List (Str × Sl))
def RepSs (K : PySem.W.Frag) (F : Hp) (as : List Addr) : List V → List Sl → Prop
  | [], [] => True
  | v :: vs, r :: rs => RepS K F as v r ∧ RepSs K F as vs rs
  | _, _ => False
def MemO (K : PySem.W.Frag) (F : Hp) (as : List Addr) (H : Hp) (a : Addr) : MO → Prop
  | .lst ds => ∃ xs, H a = some (.lst xs) ∧ RepL K F xs ds
  | .dic ks vs => ∃ kvs, H a = some (.dK kvs) ∧ kvs.map (·.1) = ks ∧ RepL K F (kvs.map (·.2)) vs
  | .dct ks vs => ∃ kvs, H a = some (.dT kvs) ∧ kvs.map (·.1) = ks ∧ RepL K F (kvs.map (·.2)) vs
  | .ins C fs => ∃ dx gs, H a = some (.ins C dx gs) ∧ gs.map (·.1) = fs.map (·.1) ∧ RepSs K F as (gs.map (·.2)) (fs.map (·.2))
structure S where
  Γ : List (Option Sl)
  μ : List (Option MO)
/-- what is hidden from us (M0, as it stands in H0), what stays to be read; what was handed in to be written, the heap at the entry -/
structure Amb where
  M0 : Addr → Prop
  H0 : Hp
  pin : Hp
  as0 : List Addr
  He : Hp
def hid (A : Amb) (as : List Addr) (μ : List (Option MO)) (a : Addr) : Prop := A.M0 a ∨ ∃ (i : Nat) (o : MO), as[i]? = some a ∧ μ[i]? = some (some o)
open Classical in
noncomputable def vw (A : Amb) (as : List Addr) (μ : List (Option MO)) (H : Hp) : Hp := fun a => if hid A as μ a then none else H a
section
variable {A : Amb} {as as' : List Addr} {μ μ' : List (Option MO)} {H H' : Hp} {a p : Addr} {u : HO}
theorem vw_yes (h : hid A as μ a) : vw A as μ H a = none := by
  unfold vw
  rw [if_pos h]
theorem vw_no (h : ¬ hid A as μ a) : vw A as μ H a = H a := by
  unfold vw
  rw [if_neg h]
theorem vw_of (h : vw A as μ H a = some u) : H a = some u ∧ ¬ hid A as μ a := by
  by_cases x : hid A as μ a
  · rw [vw_yes x] at h
    cases h
  · rw [vw_no x] at h
    exact ⟨h, x⟩
theorem vw_le : Le (vw A as μ H) H := fun _ _ h => .inl (vw_of h).1
end
structure Ok (K : PySem.W.Frag) (A : Amb) (as : List Addr) (s : S) (σ : L2.St) (H : Hp) : Prop where
  len : as.length = s.μ.length
  nd : as.Nodup
  dj : ∀ a ∈ as, ¬ A.M0 a
  tr : ∀ a ∈ as, H a ≠ none
  m0 : ∀ a, A.M0 a → A.H0 a ≠ none ∧ H a = A.H0 a
  pin : Le A.pin (vw A as s.μ H)
  env : ∀ (i : Nat) (r : Sl), s.Γ[i]? = some (some r) → ∃ v : V, σ[i]? = some (some v) ∧ RepS K (vw A as s.μ H) as v r
  mem : ∀ (i : Nat) (a : Addr) (o : MO), as[i]? = some a → s.μ[i]? = some (some o) → MemO K (vw A as s.μ H) as H a o
  ln : s.Γ.length = σ.length
  own : ∀ a ∈ as, a ∈ A.as0 ∨ A.He a = none
  he : ∀ a, A.He a ≠ none → H a ≠ none
/-- from (as, μ, H) to (as', μ', H'): nothing that was to be read is lost -/
structure Stp (A : Amb) (as : List Addr) (μ : List (Option MO)) (H : Hp) (as' : List Addr) (μ' : List (Option MO)) (H' : Hp) : Prop where
  pre : as <+: as'
  le : Le (vw A as μ H) (vw A as' μ' H')
theorem Stp.refl {A : Amb} {as : List Addr} {μ : List (Option MO)} {H : Hp} : Stp A as μ H as μ H := ⟨List.prefix_refl _, Le.refl _⟩
theorem Stp.trans {A : Amb} {as as1 as2 : List Addr} {μ μ1 μ2 : List (Option MO)} {H H1 H2 : Hp} (x : Stp A as μ H as1 μ1 H1) (y : Stp A as1 μ1 H1 as2 μ2 H2) : Stp A as μ H as2 μ2 H2 := ⟨x.pre.trans y.pre, x.le.trans y.le⟩
theorem pre_get {as as' : List Addr} {i : Nat} {a : Addr} (h : as <+: as') (e : as[i]? = some a) : as'[i]? = some a := by
  obtain ⟨t, rfl⟩ := h
  rw [List.getElem?_append_left (List.getElem?_eq_some_iff.mp e).1]
  exact e
section
variable {K : PySem.W.Frag} {A : Amb} {as as' : List Addr} {s s' : S} {σ : L2.St} {H H' F F' : Hp} {a p : Addr} {i : Nat} {o o' : MO} {u : HO} {v : V} {r : Sl}
theorem RepS.mono (x : Le F F') (y : as <+: as') (h : RepS K F as v r) : RepS K F' as' v r := by
  cases r with
  | dat d => exact Rep.mono x d h
  | cel i =>
    obtain ⟨a, h1, h2⟩ := h
    exact ⟨a, pre_get y h1, h2⟩
  | val w => exact h
theorem RepSs.mono (x : Le F F') (y : as <+: as') : ∀ {vs : List V} {rs : List Sl}, RepSs K F as vs rs → RepSs K F' as' vs rs
  | [], [], _ => trivial
  | _ :: _, _ :: _, h => ⟨h.1.mono x y, RepSs.mono x y h.2⟩
  | [], _ :: _, h => h.elim
  | _ :: _, [], h => h.elim
theorem RepSs.len : ∀ {vs : List V} {rs : List Sl}, RepSs K F as vs rs → vs.length = rs.length
  | [], [], _ => rfl
  | _ :: _, _ :: _, h => congrArg Nat.succ (RepSs.len h.2)
  | [], _ :: _, h => h.elim
  | _ :: _, [], h => h.elim
theorem MemO.mono (x : Le F F') (y : as <+: as') (e : H' a = H a) (h : MemO K F as H a o) : MemO K F' as' H' a o := by
  cases o with
  | lst ds =>
    obtain ⟨xs, h1, h2⟩ := h
    exact ⟨xs, e.trans h1, RepL.mono x _ h2⟩
  | dic ks vs =>
    obtain ⟨xs, h1, h2, h3⟩ := h
    exact ⟨xs, e.trans h1, h2, RepL.mono x _ h3⟩
  | dct ks vs =>
    obtain ⟨xs, h1, h2, h3⟩ := h
    exact ⟨xs, e.trans h1, h2, RepL.mono x _ h3⟩
  | ins C fs =>
    obtain ⟨dx, gs, h1, h2, h3⟩ := h
    exact ⟨dx, gs, e.trans h1, h2, h3.mono x y⟩
theorem MemO.some (h : MemO K F as H a o) : H a ≠ none := by
  cases o with
  | lst ds => obtain ⟨xs, h1, h2⟩ := h; rw [h1]; exact fun z => nomatch z
  | dic ks vs => obtain ⟨xs, h1, h2, h3⟩ := h; rw [h1]; exact fun z => nomatch z
  | dct ks vs => obtain ⟨xs, h1, h2, h3⟩ := h; rw [h1]; exact fun z => nomatch z
  | ins C fs => obtain ⟨dx, gs, h1, h2, h3⟩ := h; rw [h1]; exact fun z => nomatch z
theorem Ok.unhid (ok : Ok K A as s σ H) (hp : H p = none) : ¬ hid A as s.μ p := fun h => by
  rcases h with h | ⟨i, o, h1, h2⟩
  · have := ok.m0 p h
    rw [hp] at this
    exact this.1 this.2.symm
  · exact (ok.mem i p o h1 h2).some hp
theorem Ok.out (ok : Ok K A as s σ H) (hp : H p = none) : p ∉ as := fun h => ok.tr p h hp
/-- a new object that nobody writes -/
theorem Ok.new (ok : Ok K A as s σ H) (hp : H p = none) (u : HO) : Stp A as s.μ H as s.μ (upd H p u) ∧ Ok K A as s σ (upd H p u) ∧ vw A as s.μ (upd H p u) p = some u := by
  have nh := ok.unhid hp
  have le : Le (vw A as s.μ H) (vw A as s.μ (upd H p u)) := fun b w h => by
    obtain ⟨h1, h2⟩ := vw_of h
    rw [vw_no h2, upd_ne (ne_of_none h1 hp)]
    exact .inl h1
  have nm : ∀ b, H b ≠ none → upd H p u b = H b := fun b hb => upd_ne fun z => hb (z ▸ hp)
  refine ⟨⟨List.prefix_refl _, le⟩, ⟨ok.len, ok.nd, ok.dj, fun b hb => ?_, fun b hb => ⟨(ok.m0 b hb).1, (nm b ?_).trans (ok.m0 b hb).2⟩, ok.pin.trans le, fun i r h => ?_, fun i b o h1 h2 => ?_, ok.ln, ok.own, fun b hb => by rw [nm b (ok.he b hb)]; exact ok.he b hb⟩, ?_⟩
  · rw [nm b (ok.tr b hb)]
    exact ok.tr b hb
  · rw [(ok.m0 b hb).2]
    exact (ok.m0 b hb).1
  · obtain ⟨v, h1, h2⟩ := ok.env i r h
    exact ⟨v, h1, h2.mono le (List.prefix_refl _)⟩
  · exact (ok.mem i b o h1 h2).mono le (List.prefix_refl _) (nm b (ok.mem i b o h1 h2).some)
  · rw [vw_no nh]
    exact upd_same
/-- one that may be written -/
theorem Ok.alloc (ok : Ok K A as s σ H) (hp : H p = none) {u : HO} {o : MO} (hm : ∀ F, Le (vw A as s.μ H) F → MemO K F (as ++ [p]) (upd H p u) p o) :
    Stp A as s.μ H (as ++ [p]) (s.μ ++ [some o]) (upd H p u) ∧ Ok K A (as ++ [p]) { s with μ := s.μ ++ [some o] } σ (upd H p u) ∧ (as ++ [p])[s.μ.length]? = some p := by
  have nh := ok.unhid hp
  have np := ok.out hp
  have nm : ∀ b, H b ≠ none → upd H p u b = H b := fun b hb => upd_ne fun z => hb (z ▸ hp)
  have pre : as <+: as ++ [p] := List.prefix_append _ _
  have hlast : (as ++ [p])[s.μ.length]? = some p := by
    rw [← ok.len, List.getElem?_append_right (Nat.le_refl _), Nat.sub_self]
    rfl
  have hidb : ∀ b, b ≠ p → (hid A (as ++ [p]) (s.μ ++ [some o]) b → hid A as s.μ b) := fun b hb h => by
    rcases h with h | ⟨i, o', h1, h2⟩
    · exact .inl h
    · by_cases hi : i < as.length
      · rw [List.getElem?_append_left hi] at h1
        rw [List.getElem?_append_left (by rw [← ok.len]; exact hi)] at h2
        exact .inr ⟨i, o', h1, h2⟩
      · rw [List.getElem?_append_right (by omega)] at h1
        cases e : i - as.length with
        | zero =>
          rw [e] at h1
          exact absurd (Option.some.inj h1).symm hb
        | succ n =>
          rw [e] at h1
          cases h1
  have le : Le (vw A as s.μ H) (vw A (as ++ [p]) (s.μ ++ [some o]) (upd H p u)) := fun b w h => by
    obtain ⟨h1, h2⟩ := vw_of h
    have hb : b ≠ p := ne_of_none h1 hp
    rw [vw_no fun z => h2 (hidb b hb z), upd_ne hb]
    exact .inl h1
  refine ⟨⟨pre, le⟩, ⟨?_, ?_, fun b hb => ?_, fun b hb => ?_, fun b hb => ⟨(ok.m0 b hb).1, (nm b ?_).trans (ok.m0 b hb).2⟩, ok.pin.trans le, fun i r h => ?_, fun i b o' h1 h2 => ?_, ok.ln, fun b hb => (List.mem_append.mp hb).elim (ok.own b) fun z => .inr (Classical.byContradiction fun e => ok.he b e ((show b = p by simpa using z) ▸ hp)), fun b hb => by rw [nm b (ok.he b hb)]; exact ok.he b hb⟩, hlast⟩
  · show (as ++ [p]).length = (s.μ ++ [some o]).length
    rw [List.length_append, List.length_append, ok.len]
    rfl
  · exact List.nodup_append.mpr ⟨ok.nd, by simp, fun x hx y hy e => by
      have : y = p := by simpa using hy
      exact np (this ▸ e ▸ hx)⟩
  · rcases List.mem_append.mp hb with hb | hb
    · exact ok.dj b hb
    · have : b = p := by simpa using hb
      subst this
      exact fun z => nh (.inl z)
  · rcases List.mem_append.mp hb with hb | hb
    · rw [nm b (ok.tr b hb)]
      exact ok.tr b hb
    · have : b = p := by simpa using hb
      subst this
      rw [upd_same]
      exact fun z => nomatch z
  · rw [(ok.m0 b hb).2]
    exact (ok.m0 b hb).1
  · obtain ⟨v, h1, h2⟩ := ok.env i r h
    exact ⟨v, h1, h2.mono le pre⟩
  · by_cases hi : i < as.length
    · rw [List.getElem?_append_left hi] at h1
      have h2' : s.μ[i]? = some (some o') := by
        rw [← List.getElem?_append_left (l₂ := [some o]) (by rw [← ok.len]; exact hi)]
        exact h2
      exact (ok.mem i b o' h1 h2').mono le pre (nm b (ok.mem i b o' h1 h2').some)
    · rw [List.getElem?_append_right (by omega)] at h1
      cases e : i - as.length with
      | zero =>
        rw [e] at h1
        have hb : p = b := Option.some.inj h1
        subst hb
        have h2' : (s.μ ++ [some o])[i]? = some (some o') := h2
        rw [List.getElem?_append_right (by rw [← ok.len]; omega), show i - s.μ.length = 0 by rw [← ok.len]; exact e] at h2'
        have : o = o' := Option.some.inj (Option.some.inj h2')
        subst this
        exact hm _ le
      | succ n =>
        rw [e] at h1
        cases h1
/-- the i-th is written -/
theorem Ok.write (ok : Ok K A as s σ H) (ha : as[i]? = some a) (hi : s.μ[i]? = some (some o)) {u : HO} (hm : MemO K (vw A as s.μ H) as (upd H a u) a o') :
    Stp A as s.μ H as (s.μ.set i (some o')) (upd H a u) ∧ Ok K A as { s with μ := s.μ.set i (some o') } σ (upd H a u) := by
  have hil : i < s.μ.length := (List.getElem?_eq_some_iff.mp hi).1
  have hh : ∀ b, hid A as (s.μ.set i (some o')) b ↔ hid A as s.μ b := fun b => by
    constructor
    · rintro (h | ⟨j, o2, h1, h2⟩)
      · exact .inl h
      · by_cases hj : i = j
        · subst hj
          exact .inr ⟨i, o, h1, hi⟩
        · rw [List.getElem?_set_ne hj] at h2
          exact .inr ⟨j, o2, h1, h2⟩
    · rintro (h | ⟨j, o2, h1, h2⟩)
      · exact .inl h
      · by_cases hj : i = j
        · subst hj
          exact .inr ⟨i, o', h1, by rw [List.getElem?_set_self hil]⟩
        · exact .inr ⟨j, o2, h1, by rw [List.getElem?_set_ne hj]; exact h2⟩
  have ev : vw A as (s.μ.set i (some o')) (upd H a u) = vw A as s.μ H := by
    funext b
    by_cases hb : hid A as s.μ b
    · rw [vw_yes hb, vw_yes ((hh b).mpr hb)]
    · rw [vw_no hb, vw_no fun z => hb ((hh b).mp z), upd_ne]
      intro e
      subst e
      exact hb (.inr ⟨i, o, ha, hi⟩)
  have nm : ∀ b, b ≠ a → upd H a u b = H b := fun b hb => upd_ne hb
  refine ⟨⟨List.prefix_refl _, by rw [ev]; exact Le.refl _⟩, ⟨?_, ok.nd, ok.dj, fun b hb => ?_, fun b hb => ⟨(ok.m0 b hb).1, (nm b ?_).trans (ok.m0 b hb).2⟩, ?_, fun j r h => ?_, fun j b o2 h1 h2 => ?_, ok.ln, ok.own, fun b hb => by
    by_cases e : b = a
    · subst e
      rw [upd_same]
      exact fun z => nomatch z
    · rw [nm b e]
      exact ok.he b hb⟩⟩
  · show as.length = (s.μ.set i (some o')).length
    rw [List.length_set]
    exact ok.len
  · by_cases e : b = a
    · subst e
      rw [upd_same]
      exact fun z => nomatch z
    · rw [nm b e]
      exact ok.tr b hb
  · rintro rfl
    exact ok.dj b (List.mem_of_getElem? ha) hb
  · show Le A.pin (vw A as (s.μ.set i (some o')) (upd H a u))
    rw [ev]
    exact ok.pin
  · show ∃ v : V, σ[j]? = some (some v) ∧ RepS K (vw A as (s.μ.set i (some o')) (upd H a u)) as v r
    rw [ev]
    exact ok.env j r h
  · show MemO K (vw A as (s.μ.set i (some o')) (upd H a u)) as (upd H a u) b o2
    rw [ev]
    by_cases hj : i = j
    · subst hj
      have e1 : a = b := Option.some.inj (ha.symm.trans h1)
      subst e1
      have h2' : (s.μ.set i (some o'))[i]? = some (some o2) := h2
      rw [List.getElem?_set_self hil] at h2'
      have e2 : o' = o2 := Option.some.inj (Option.some.inj h2')
      subst e2
      exact hm
    · have h2' : (s.μ.set i (some o'))[j]? = some (some o2) := h2
      rw [List.getElem?_set_ne hj] at h2'
      refine (ok.mem j b o2 h1 h2').mono (Le.refl _) (List.prefix_refl _) (nm b fun e => ?_)
      subst e
      have l1 := (List.getElem?_eq_some_iff.mp ha)
      have l2 := (List.getElem?_eq_some_iff.mp h1)
      exact hj ((List.getElem_inj ok.nd).mp (l1.2.trans l2.2.symm))
/-- some of what may be written is written no more: μ' has each as it was, or none -/
def Less (μ μ' : List (Option MO)) : Prop := μ'.length = μ.length ∧ ∀ (i : Nat) (o : MO), μ'[i]? = some (some o) → μ[i]? = some (some o)
theorem Ok.less {μ' : List (Option MO)} (ok : Ok K A as s σ H) (l : Less s.μ μ') : Stp A as s.μ H as μ' H ∧ Ok K A as { s with μ := μ' } σ H := by
  have le : Le (vw A as s.μ H) (vw A as μ' H) := fun b w h => by
    obtain ⟨h1, h2⟩ := vw_of h
    refine .inl ?_
    rw [vw_no, h1]
    rintro (z | ⟨i, o, z1, z2⟩)
    · exact h2 (.inl z)
    · exact h2 (.inr ⟨i, o, z1, l.2 i o z2⟩)
  refine ⟨⟨List.prefix_refl _, le⟩, ⟨ok.len.trans l.1.symm, ok.nd, ok.dj, ok.tr, ok.m0, ok.pin.trans le, fun j r h => ?_, fun j b o2 h1 h2 => ?_, ok.ln, ok.own, ok.he⟩⟩
  · obtain ⟨v, h1, h2⟩ := ok.env j r h
    exact ⟨v, h1, h2.mono le (List.prefix_refl _)⟩
  · exact (ok.mem j b o2 h1 (l.2 j o2 h2)).mono le (List.prefix_refl _) rfl
/-- the i-th is written no more: it's data -/
def MO.d : MO → D
  | .lst ds => .lst ds
  | .dic ks vs => .dic ks vs
  | .dct ks vs => .dct ks vs
  | .ins C fs => .ins C (fs.map (·.1)) (fs.map fun f => match f.2 with | .dat d => d | _ => .non)
def MO.plain : MO → Prop
  | .ins _ fs => ∀ f ∈ fs, ∃ d, f.2 = .dat d
  | _ => True
theorem RepSs.dats {as : List Addr} : ∀ {vs : List V} {rs : List Sl}, RepSs K F as vs rs → (∀ r ∈ rs, ∃ d, r = .dat d) → RepL K F vs (rs.map fun r => match r with | .dat d => d | _ => .non)
  | [], [], _, _ => .nil
  | _ :: _, r :: _, h, hd => by
    obtain ⟨d, rfl⟩ := hd r (List.mem_cons_self ..)
    exact .cons h.1 (RepSs.dats h.2 fun q hq => hd q (List.mem_cons_of_mem _ hq))
  | [], _ :: _, h, _ => h.elim
  | _ :: _, [], h, _ => h.elim
theorem less_set (μ : List (Option MO)) (i : Nat) : Less μ (μ.set i none) := ⟨List.length_set .., fun j o h => by
  by_cases e : i = j
  · subst e
    by_cases hi : i < μ.length
    · rw [List.getElem?_set_self hi] at h
      cases h
    · rw [List.getElem?_eq_none (by rw [List.length_set]; omega)] at h
      cases h
  · rw [List.getElem?_set_ne e] at h
    exact h⟩
theorem Ok.freeze (ok : Ok K A as s σ H) (ha : as[i]? = some a) (hi : s.μ[i]? = some (some o)) (pl : o.plain) : Stp A as s.μ H as (s.μ.set i none) H ∧ Ok K A as { s with μ := s.μ.set i none } σ H ∧ Rep K (vw A as (s.μ.set i none) H) (.ref a) o.d := by
  obtain ⟨st, ok2⟩ := ok.less (less_set s.μ i)
  refine ⟨st, ok2, ?_⟩
  have nh : ¬ hid A as (s.μ.set i none) a := by
    rintro (z | ⟨j, o2, z1, z2⟩)
    · exact ok.dj a (List.mem_of_getElem? ha) z
    · have l1 := (List.getElem?_eq_some_iff.mp ha)
      have l2 := (List.getElem?_eq_some_iff.mp z1)
      have e : i = j := (List.getElem_inj ok.nd).mp (l1.2.trans l2.2.symm)
      subst e
      rw [List.getElem?_set_self (by rw [← ok.len]; exact l1.1)] at z2
      cases z2
  have hm := (ok.mem i a o ha hi).mono st.le st.pre rfl
  cases o with
  | lst ds =>
    obtain ⟨xs, h1, h2⟩ := hm
    exact .lst (by rw [vw_no nh]; exact h1) h2
  | dic ks vs =>
    obtain ⟨xs, h1, h2, h3⟩ := hm
    exact .dic (.inl (by rw [vw_no nh]; exact h1)) h2 h3
  | dct ks vs =>
    obtain ⟨xs, h1, h2, h3⟩ := hm
    exact .dct (.inl (by rw [vw_no nh]; exact h1)) h2 h3
  | ins C fs =>
    obtain ⟨dx, gs, h1, h2, h3⟩ := hm
    refine .ins (by rw [vw_no nh]; exact h1) h2 ?_
    have := h3.dats fun q hq => by
      obtain ⟨f, hf, rfl⟩ := List.mem_map.mp hq
      exact pl f hf
    rw [List.map_map] at this
    exact this
end
end Gd
namespace Gd
open PySem PySem.Spec PyProof.Rows L2

/-! ### readings over the state -/
abbrev WE := S → (Sl → S → Prop) → Prop
abbrev WT := S → (Bool → S → Prop) → Prop
abbrev WA := S → (List Sl → S → Prop) → Prop
/-- what is wanted behind a statement -/
structure Dn where
  nx : S → Prop
  rt : Sl → S → Prop
  bk : S → Prop := fun _ => False
  ct : S → Prop := fun _ => False
abbrev WS := Dn → S → Prop
def up (K : PySem.W.Frag) (w : WE) : TE := fun σ H Q => ∃ A as s R, Ok K A as s σ H ∧ w s R ∧
  ∀ v H' r s' as', Stp A as s.μ H as' s'.μ H' → Ok K A as' s' σ H' → RepS K (vw A as' s'.μ H') as' v r → R r s' → Q v H'
def upT (K : PySem.W.Frag) (w : WT) : TT := fun σ H Q => ∃ A as s R, Ok K A as s σ H ∧ w s R ∧
  ∀ b H' s' as', Stp A as s.μ H as' s'.μ H' → Ok K A as' s' σ H' → R b s' → Q b H'
def upA (K : PySem.W.Frag) (w : WA) : TA := fun σ H Q => ∃ A as s R, Ok K A as s σ H ∧ w s R ∧
  ∀ vs H' rs s' as', Stp A as s.μ H as' s'.μ H' → Ok K A as' s' σ H' → RepSs K (vw A as' s'.μ H') as' vs rs → R rs s' → Q vs H'
def upS (K : PySem.W.Frag) (w : WS) : TS := fun D σ H => ∃ A as s d, Ok K A as s σ H ∧ w d s ∧
  (∀ σ' H' s' as', as <+: as' → Ok K A as' s' σ' H' → d.nx s' → D.nx σ' H') ∧
  (∀ v σ' H' r s' as', as <+: as' → Ok K A as' s' σ' H' → RepS K (vw A as' s'.μ H') as' v r → d.rt r s' → D.rt v H') ∧
  (∀ σ' H' s' as', as <+: as' → Ok K A as' s' σ' H' → d.bk s' → D.bk σ' H') ∧
  (∀ σ' H' s' as', as <+: as' → Ok K A as' s' σ' H' → d.ct s' → D.ct σ' H')
section
variable {X : Cx} {e : Expr} {t t' : TE} {c c' : TT} {a a' : TA} {st : Stmt} {sts : List Stmt} {u u' : TS} {es : List Expr}
theorem pe_imp (h : PE X e t) (i : ∀ σ H Q, t' σ H Q → t σ H Q) : PE X e t' := ⟨fun pins s σ H Q I w => h.run pins s σ H Q I (i σ H Q w)⟩
theorem pt_imp (h : PT X e c) (i : ∀ σ H Q, c' σ H Q → c σ H Q) : PT X e c' := ⟨fun pins s σ H Q I w => h.run pins s σ H Q I (i σ H Q w)⟩
theorem pw_imp (h : PW X e c) (i : ∀ σ H Q, c' σ H Q → c σ H Q) : PW X e c' := ⟨fun wh pins s σ H Q I w => h.run wh pins s σ H Q I (i σ H Q w)⟩
theorem pa_imp (h : PA X es a) (i : ∀ σ H Q, a' σ H Q → a σ H Q) : PA X es a' := ⟨fun p pins s σ H Q I w => h.run p pins s σ H Q I (i σ H Q w)⟩
theorem ps_imp (h : PS X st u) (i : ∀ D σ H, u' D σ H → u D σ H) : PS X st u' := ⟨fun pins s σ H D I w => h.run pins s σ H D I (i D σ H w)⟩
theorem pss_imp (h : PSs X sts u) (i : ∀ D σ H, u' D σ H → u D σ H) : PSs X sts u' := ⟨fun pins s σ H D I w => h.run pins s σ H D I (i D σ H w)⟩
end

/-! ### places in written lists -/
def nth {α : Type} : List (Option α) → Nat → Option α
  | [], _ => none
  | x :: _, 0 => x
  | _ :: t, n + 1 => nth t n
theorem nth_eq {α : Type} : ∀ (l : List (Option α)) (n : Nat) {x : α}, nth l n = some x → l[n]? = some (some x)
  | [], _, _, h => nomatch h
  | y :: _, 0, _, h => by
    rw [show y = some _ from h]
    rfl
  | _ :: t, n + 1, _, h => by
    rw [List.getElem?_cons_succ]
    exact nth_eq t n h
def MO.d? : MO → Option D
  | .lst ds => some (.lst ds)
  | .dic ks vs => some (.dic ks vs)
  | .dct ks vs => some (.dct ks vs)
  | .ins _ _ => none
/-- what can be read of it now -/
def rd (s : S) : Sl → Option D
  | .dat d => some d
  | .cel i => (nth s.μ i).bind MO.d?
  | .val _ => none
/-- v is d at H, its parts in F -/
def Rdc (K : PySem.W.Frag) (F H : Hp) (v : V) : D → Prop
  | .non => v = .non
  | .bl b => v = .bl b
  | .int i => v = .int i
  | .str x => v = .str x
  | .lst ds => ∃ a xs, v = .ref a ∧ H a = some (.lst xs) ∧ RepL K F xs ds
  | .scr ds => ∃ a xs, v = .ref a ∧ SqL K H a xs ∧ RepL K F xs ds
  | .tup ds => Rep K F v (.tup ds) ∧ ∃ a xs, v = .ref a ∧ ZT K H a xs ∧ RepL K F xs ds
  | .par ds => Rep K F v (.par ds) ∧ ∃ a xs, v = .ref a ∧ SqT K H a xs ∧ RepL K F xs ds
  | .dic ks vs => ∃ a kvs, v = .ref a ∧ Rd H a (.dK kvs) ∧ kvs.map (·.1) = ks ∧ RepL K F (kvs.map (·.2)) vs
  | .dct ks vs => ∃ a kvs, v = .ref a ∧ Rd H a (.dT kvs) ∧ kvs.map (·.1) = ks ∧ RepL K F (kvs.map (·.2)) vs
  | .ins C ns vs => ∃ a dx fs, v = .ref a ∧ H a = some (.ins C dx fs) ∧ fs.map (·.1) = ns ∧ RepL K F (fs.map (·.2)) vs
section
variable {K : PySem.W.Frag} {A : Amb} {as as' : List Addr} {s s' : S} {σ : L2.St} {H H' F F' : Hp} {a p : Addr} {i : Nat} {o o' : MO} {v : V} {r : Sl} {d : D}
theorem Rep.rdc (x : Le F H) (h : Rep K F v d) : Rdc K F H v d := by
  cases h with
  | non => exact rfl
  | bl => exact rfl
  | int => exact rfl
  | str => exact rfl
  | lst h1 h2 => exact ⟨_, _, rfl, x.same h1 fun z => z, h2⟩
  | scr h1 h2 => exact ⟨_, _, rfl, x.sqL h1, h2⟩
  | tup h1 h2 => exact ⟨.tup h1 h2, _, _, rfl, x.zt h1, h2⟩
  | par h1 h2 => exact ⟨.par h1 h2, _, _, rfl, x.sqT h1, h2⟩
  | dic h1 h2 h3 => exact ⟨_, _, rfl, x.dK h1, h2, h3⟩
  | dct h1 h2 h3 => exact ⟨_, _, rfl, x.dT h1, h2, h3⟩
  | ins h1 h2 h3 => exact ⟨_, _, _, rfl, x.same h1 fun z => z, h2, h3⟩
theorem Ok.rdc (ok : Ok K A as s σ H) (h : RepS K (vw A as s.μ H) as v r) (e : rd s r = some d) : Rdc K (vw A as s.μ H) H v d := by
  cases r with
  | dat d' =>
    cases e
    exact Rep.rdc vw_le h
  | cel i =>
    obtain ⟨a, h1, rfl⟩ := h
    have e : (nth s.μ i).bind MO.d? = some d := e
    cases q : nth s.μ i with
    | none => rw [q] at e; cases e
    | some o =>
      rw [q] at e
      have hm := ok.mem i a o h1 (nth_eq _ _ q)
      cases o with
      | lst ds => cases e; obtain ⟨xs, h2, h3⟩ := hm; exact ⟨a, xs, rfl, h2, h3⟩
      | dic ks vs => cases e; obtain ⟨xs, h2, h3, h4⟩ := hm; exact ⟨a, xs, rfl, .inl h2, h3, h4⟩
      | dct ks vs => cases e; obtain ⟨xs, h2, h3, h4⟩ := hm; exact ⟨a, xs, rfl, .inl h2, h3, h4⟩
      | ins C fs => cases e
  | val w => cases e
/-- what follows -/
def Kon (K : PySem.W.Frag) (A : Amb) (as : List Addr) (s : S) (σ : L2.St) (H : Hp) (R : Sl → S → Prop) (Q : VK) : Prop :=
  ∀ v H' r s' as', Stp A as s.μ H as' s'.μ H' → Ok K A as' s' σ H' → RepS K (vw A as' s'.μ H') as' v r → R r s' → Q v H'
theorem Kon.here {R : Sl → S → Prop} {Q : VK} (k : Kon K A as s σ H R Q) (ok : Ok K A as s σ H) (h : RepS K (vw A as s.μ H) as v r) (q : R r s) : Q v H := k v H r s as Stp.refl ok h q
/-- a new thing that is data -/
theorem Kon.new {R : Sl → S → Prop} {Q : VK} (k : Kon K A as s σ H R Q) (ok : Ok K A as s σ H) (hp : H p = none) (u : HO) (hd : ∀ F, Le (vw A as s.μ H) F → F p = some u → Rep K F (.ref p) d) (q : R (.dat d) s) : Q (.ref p) (upd H p u) := by
  obtain ⟨st, ok', e⟩ := ok.new hp u
  exact k _ _ (.dat d) s as st ok' (hd _ st.le e) q
/-- a new thing that may be written -/
def nw (o : MO) (s : S) (R : Sl → S → Prop) : Prop := R (.cel s.μ.length) { s with μ := s.μ ++ [some o] }
theorem Kon.alloc {R : Sl → S → Prop} {Q : VK} (k : Kon K A as s σ H R Q) (ok : Ok K A as s σ H) (hp : H p = none) {u : HO} (hm : ∀ F, Le (vw A as s.μ H) F → MemO K F (as ++ [p]) (upd H p u) p o) (q : nw o s R) : Q (.ref p) (upd H p u) := by
  obtain ⟨st, ok', e⟩ := ok.alloc hp hm
  exact k _ _ (.cel s.μ.length) _ _ st ok' ⟨p, e, rfl⟩ q
theorem Kon.lst {R : Sl → S → Prop} {Q : VK} (k : Kon K A as s σ H R Q) (ok : Ok K A as s σ H) (hp : H p = none) {xs : List V} {ds : List D} (h : RepL K (vw A as s.μ H) xs ds) (q : nw (.lst ds) s R) : Q (.ref p) (upd H p (.lst xs)) :=
  k.alloc (o := .lst ds) ok hp (fun _ le => ⟨xs, upd_same, RepL.mono le _ h⟩) q
theorem Kon.tup {R : Sl → S → Prop} {Q : VK} (k : Kon K A as s σ H R Q) (ok : Ok K A as s σ H) (hp : H p = none) {xs : List V} {ds : List D} (h : RepL K (vw A as s.μ H) xs ds) (q : R (.dat (.tup ds)) s) {us : List Value} {n : Nat} : Q (.ref p) (upd H p (.frz (TupO us n) (.tup xs))) :=
  k.new ok hp _ (fun _ le e => .tup (.inl ⟨_, e, rfl⟩) (RepL.mono le _ h)) q
theorem Kon.nuT {R : Sl → S → Prop} {Q : VK} (k : Kon K A as s σ H R Q) (ok : Ok K A as s σ H) {xs : List V} {ds : List D} (h : RepL K (vw A as s.μ H) xs ds) (q : R (.dat (.tup ds)) s) : NuT H xs Q := fun _ _ _ hp => k.tup ok hp h q
end
def sz (n : Nat) : Prop := n ≤ 100000
theorem sz.ok {n : Nat} (h : sz n) : n ≤ sizeLine := Nat.le_trans h (by decide)
theorem sz.lt {n : Nat} (h : sz (n + 1)) : n < sizeLine := Nat.lt_of_lt_of_le (Nat.lt_of_succ_le h) (by decide)
def optK {α : Type} (o : Option α) (k : α → Prop) : Prop := match o with
  | some x => k x
  | none => False
theorem optK_of {α : Type} {o : Option α} {k : α → Prop} (h : optK o k) : ∃ x, o = some x ∧ k x := by
  cases o with
  | none => exact h.elim
  | some x => exact ⟨x, rfl, h⟩

/-! ### names, constants -/
section
variable {X : Cx} {x : Str} {pos : Pos}
def wVar (i : Nat) : WE := fun s R => optK (nth s.Γ i) fun r => R r s
theorem e_var (i : Nat) (hN : X.N[i]? = some x := by rfl) (hv : Vis X.env.scope x := by first | exact Or.inl rfl | exact Or.inr (Or.inl rfl) | exact Or.inr (Or.inr rfl)) (hd : (x == ("__debug__" : Str)) = false := by decide)
    (hcd : (x == ("__classdict__" : Str)) = false := by decide) : PE X (.Name x pos) (up X.K (wVar i)) := pe_imp (pe_var hN hv hd hcd) fun σ H Q ⟨A, as, s, R, ok, w, k⟩ => by
  obtain ⟨r, e, w⟩ := optK_of w
  obtain ⟨v, h1, h2⟩ := ok.env i r (nth_eq _ _ e)
  exact ⟨v, h1, Kon.here k ok h2 w⟩
def wC (d : D) : WE := fun s R => R (.dat d) s
theorem e_int {i j} : PE X (.Constant (.int i) j pos) (up X.K (wC (.int i))) := pe_imp pe_int fun _ _ _ ⟨_, _, _, _, ok, w, k⟩ => Kon.here k ok (r := .dat (.int i)) .int w
theorem e_bl {b j} : PE X (.Constant (.bool b) j pos) (up X.K (wC (.bl b))) := pe_imp pe_bl fun _ _ _ ⟨_, _, _, _, ok, w, k⟩ => Kon.here k ok (r := .dat (.bl b)) .bl w
theorem e_non {j} : PE X (.Constant .none j pos) (up X.K (wC .non)) := pe_imp pe_non fun _ _ _ ⟨_, _, _, _, ok, w, k⟩ => Kon.here k ok (r := .dat .non) .non w
theorem e_str {y j} : PE X (.Constant (.str y) j pos) (up X.K (wC (.str y))) := pe_imp pe_str fun _ _ _ ⟨_, _, _, _, ok, w, k⟩ => Kon.here k ok (r := .dat (.str y)) .str w
/-- a text, a number at a global name -/
theorem e_gstr {y : Str} {t : Tok} (hg : Gl X x) (hm : X.mg x = some (.str y t)) (hd : (x == ("__debug__" : Str)) = false := by decide) : PE X (.Name x pos) (up X.K (wC (.str y))) :=
  pe_imp (pe_glob (v := .str y) hg hm ⟨t, rfl⟩ hd) fun _ _ _ ⟨_, _, _, _, ok, w, k⟩ => Kon.here k ok (r := .dat (.str y)) .str w
theorem e_gint {y : Int} {t : Tok} (hg : Gl X x) (hm : X.mg x = some (.int y t)) (hd : (x == ("__debug__" : Str)) = false := by decide) : PE X (.Name x pos) (up X.K (wC (.int y))) :=
  pe_imp (pe_glob (v := .int y) hg hm ⟨t, rfl⟩ hd) fun _ _ _ ⟨_, _, _, _, ok, w, k⟩ => Kon.here k ok (r := .dat (.int y)) .int w
def wV (v : V) : WE := fun s R => R (.val v) s
theorem e_gref {a : Addr} (hg : Gl X x) (hm : X.mg x = some (.ref a)) (hd : (x == ("__debug__" : Str)) = false := by decide) : PE X (.Name x pos) (up X.K (wV (.ref a))) :=
  pe_imp (pe_glob (v := .ref a) hg hm rfl hd) fun _ _ _ ⟨_, _, _, _, ok, w, k⟩ => Kon.here k ok (r := .val (.ref a)) rfl w
theorem e_bty {n : String} (hg : Gl X x) (hm : X.mg x = none) (hv : bootBuiltins x = some (.type n)) (hn : x ≠ "__name__" := by decide) (hd : (x == ("__debug__" : Str)) = false := by decide) : PE X (.Name x pos) (up X.K (wV (.ty n))) :=
  pe_imp (pe_bltn (v := .ty n) hg hm hv rfl hn hd) fun _ _ _ ⟨_, _, _, _, ok, w, k⟩ => Kon.here k ok (r := .val (.ty n)) rfl w
end

/-! ### operations on two values -/
abbrev F2 := Sl → Sl → S → (Sl → S → Prop) → Prop
def OpS (K : PySem.W.Frag) (f : F2) (r : R2) : Prop := ∀ (A : Amb) (as : List Addr) (s : S) (σ : L2.St) (H : Hp) (x y : V) (p q : Sl) (R : Sl → S → Prop) (Q : VK), Ok K A as s σ H → RepS K (vw A as s.μ H) as x p → RepS K (vw A as s.μ H) as y q →
  f p q s R → Kon K A as s σ H R Q → r x y H Q
def wOp (f : F2) (wa wb : WE) : WE := fun s R => wa s fun p s1 => wb s1 fun q s2 => f p q s2 R
theorem up_op {K : PySem.W.Frag} {f : F2} {r : R2} (hs : OpS K f r) {wa wb : WE} : ∀ σ H Q, up K (wOp f wa wb) σ H Q → tOp r (up K wa) (up K wb) σ H Q := fun σ H Q ⟨A, as, s, R, ok, w, k⟩ =>
  ⟨A, as, s, _, ok, w, fun v1 H1 p s1 as1 st1 ok1 r1 w1 => ⟨A, as1, s1, _, ok1, w1, fun v2 H2 q s2 as2 st2 ok2 r2 w2 =>
    hs A as2 s2 σ H2 v1 v2 p q R Q ok2 (r1.mono st2.le st2.pre) r2 w2 fun v3 H3 t s3 as3 st3 ok3 r3 w3 => k v3 H3 t s3 as3 ((st1.trans st2).trans st3) ok3 r3 w3⟩⟩
section
variable {X : Cx} {a b c : Expr} {wa wb wc : WE} {pos : Pos} {f f' : F2} {r r' : R2}
theorem e_op {op : Operator} (ho : OpR X (binaryOp op) r) (hs : OpS X.K f r) (ha : PE X a (up X.K wa)) (hb : PE X b (up X.K wb)) : PE X (.BinOp a op b pos) (up X.K (wOp f wa wb)) := pe_imp (pe_op ho ha hb) (up_op hs)
theorem e_cmp {op : CmpOp} (ho : OpR X (compareOp op) r) (hs : OpS X.K f r) (ha : PE X a (up X.K wa)) (hb : PE X b (up X.K wb)) (hm : behindInMarks op b = false) : PE X (.Compare a [op] [b] pos) (up X.K (wOp f wa wb)) := pe_imp (pe_cmpR ho ha hb hm) (up_op hs)
/-- a truth, as such -/
def isB (r : Sl) (k : Bool → Prop) : Prop := match r with
  | .dat (.bl b) => k b
  | _ => False
theorem isB_of {K : PySem.W.Frag} {F : Hp} {as : List Addr} {v : V} {r : Sl} {k : Bool → Prop} (h : RepS K F as v r) (w : isB r k) : ∃ b, v = .bl b ∧ k b := by
  cases r with
  | dat d =>
    cases d with
    | bl b => cases h; exact ⟨b, rfl, w⟩
    | _ => exact w.elim
  | cel i => exact w.elim
  | val v => exact w.elim
def wTst (w : WE) : WT := fun s R => w s fun r s1 => isB r fun b => R b s1
theorem up_test {K : PySem.W.Frag} {w : WE} {t : TE} (h : ∀ σ H Q, up K w σ H Q → t σ H Q) : ∀ σ H Q, upT K (wTst w) σ H Q → tTest t σ H Q := fun σ H Q ⟨A, as, s, R, ok, w, k⟩ =>
  h σ H _ ⟨A, as, s, _, ok, w, fun v H1 r s1 as1 st1 ok1 r1 w1 => by
    obtain ⟨b, e, w2⟩ := isB_of r1 w1
    exact ⟨b, e, k b H1 s1 as1 st1 ok1 w2⟩⟩
theorem t_cmp {op : CmpOp} (ho : OpR X (compareOp op) r) (hs : OpS X.K f r) (ha : PE X a (up X.K wa)) (hb : PE X b (up X.K wb)) (hm : behindInMarks op b = false) : PT X (.Compare a [op] [b] pos) (upT X.K (wTst (wOp f wa wb))) :=
  pt_imp (pt_cmpR ho ha hb hm) (up_test (up_op hs))
/-- a op b op' c -/
def wChain (f f' : F2) (wa wb wc : WE) : WE := fun s R => wa s fun p s1 => wb s1 fun q s2 => f p q s2 fun z s3 => isB z fun k => if k = true then wc s3 (fun t s4 => f' q t s4 R) else R (.dat (.bl false)) s3
theorem up_chain {K : PySem.W.Frag} (hs : OpS K f r) (hs' : OpS K f' r') : ∀ σ H Q, up K (wChain f f' wa wb wc) σ H Q → tChain r r' (up K wa) (up K wb) (up K wc) σ H Q := fun σ H Q ⟨A, as, s, R, ok, w, k⟩ =>
  ⟨A, as, s, _, ok, w, fun v1 H1 p s1 as1 st1 ok1 r1 w1 => ⟨A, as1, s1, _, ok1, w1, fun v2 H2 q s2 as2 st2 ok2 r2 w2 =>
    hs A as2 s2 σ H2 v1 v2 p q _ _ ok2 (r1.mono st2.le st2.pre) r2 w2 fun v3 H3 t s3 as3 st3 ok3 r3 w3 => by
      obtain ⟨b, e, w4⟩ := isB_of r3 w3
      refine ⟨b, e, ?_⟩
      cases b with
      | false =>
        rw [if_neg Bool.false_ne_true]
        rw [if_neg Bool.false_ne_true] at w4
        exact k _ H3 (.dat (.bl false)) s3 as3 ((st1.trans st2).trans st3) ok3 .bl w4
      | true =>
        rw [if_pos rfl]
        rw [if_pos rfl] at w4
        exact ⟨A, as3, s3, _, ok3, w4, fun v4 H4 u s4 as4 st4 ok4 r4 w5 => hs' A as4 s4 σ H4 v2 v4 q u R Q ok4 ((r2.mono st3.le st3.pre).mono st4.le st4.pre) r4 w5
          fun v5 H5 t s5 as5 st5 ok5 r5 w6 => k v5 H5 t s5 as5 ((((st1.trans st2).trans st3).trans st4).trans st5) ok5 r5 w6⟩⟩⟩
theorem e_chain {op op' : CmpOp} (ho : OpR X (compareOp op) r) (hs : OpS X.K f r) (ho' : OpR X (compareOp op') r') (hs' : OpS X.K f' r') (ha : PE X a (up X.K wa)) (hb : PE X b (up X.K wb)) (hc : PE X c (up X.K wc))
    (hm : lastMarks [op, op'] [b, c] = false := by with_unfolding_all rfl) : PE X (.Compare a [op, op'] [b, c] pos) (up X.K (wChain f f' wa wb wc)) := pe_imp (pe_chain ho ho' ha hb hc hm) (up_chain hs hs')
theorem t_chain {op op' : CmpOp} (ho : OpR X (compareOp op) r) (hs : OpS X.K f r) (ho' : OpR X (compareOp op') r') (hs' : OpS X.K f' r') (ha : PE X a (up X.K wa)) (hb : PE X b (up X.K wb)) (hc : PE X c (up X.K wc))
    (hm : lastMarks [op, op'] [b, c] = false := by with_unfolding_all rfl) : PT X (.Compare a [op, op'] [b, c] pos) (upT X.K (wTst (wChain f f' wa wb wc))) := pt_imp (pt_chain ho ho' ha hb hc hm) (up_test (up_chain hs hs'))
end

/-- two data -/
def two (s : S) (p q : Sl) (k : D → D → Prop) : Prop := match rd s p, rd s q with
  | some d, some e => k d e
  | _, _ => False
theorem two_of {s : S} {p q : Sl} {k : D → D → Prop} (h : two s p q k) : ∃ d e, rd s p = some d ∧ rd s q = some e ∧ k d e := by
  unfold two at h
  cases e1 : rd s p with
  | none => simp only [e1] at h
  | some d =>
    cases e2 : rd s q with
    | none => simp only [e1, e2] at h
    | some e =>
      simp only [e1, e2] at h
      exact ⟨d, e, rfl, rfl, h⟩
/-- OpS, by data -/
theorem OpS.of {K : PySem.W.Frag} {g : D → D → S → (Sl → S → Prop) → Prop} {r : R2}
    (h : ∀ (A : Amb) (as : List Addr) (s : S) (σ : L2.St) (H : Hp) (x y : V) (d e : D) (R : Sl → S → Prop) (Q : VK), Ok K A as s σ H → Rdc K (vw A as s.μ H) H x d → Rdc K (vw A as s.μ H) H y e → g d e s R → Kon K A as s σ H R Q → r x y H Q) :
    OpS K (fun p q s R => two s p q fun d e => g d e s R) r := fun A as s σ H x y p q R Q ok rx ry w k => by
  obtain ⟨d, e, e1, e2, w⟩ := two_of w
  exact h A as s σ H x y d e R Q ok (ok.rdc rx e1) (ok.rdc ry e2) w k
def addG (d e : D) (s : S) (R : Sl → S → Prop) : Prop := match d, e with
  | .int i, .int j => R (.dat (.int (i + j))) s
  | .str i, .str j => sz (i.length + j.length) ∧ R (.dat (.str (i ++ j))) s
  | .lst xs, .lst ys => sz (xs.length + ys.length) ∧ nw (.lst (xs ++ ys)) s R
  | .tup xs, .tup ys => sz (xs.length + ys.length) ∧ R (.dat (.tup (xs ++ ys))) s
  | _, _ => False
def addF : F2 := fun p q s R => two s p q fun d e => addG d e s R
def rAddAll (K : PySem.W.Frag) : R2 := fun x y H Q => (rI0 fun i j => .int (i + j)) x y H Q ∨ ((∃ i j, x = .str i ∧ y = .str j ∧ i.length + j.length ≤ sizeLine ∧ Q (.str (i ++ j)) H) ∨ (rCat x y H Q ∨ rCatZ K x y H Q))
theorem op_addAll {X : Cx} : OpR X (binaryOp .Add) (rAddAll X.K) := OpR.or op_add (OpR.or op_add_str (OpR.or op_cat op_catZ))
theorem ops_add {K : PySem.W.Frag} : OpS K addF (rAddAll K) := OpS.of fun A as s σ H x y d e R Q ok rx ry w k => by
  cases d <;> cases e <;> first
    | exact w.elim
    | skip
  · cases rx; cases ry
    exact .inl ⟨_, _, rfl, rfl, k.here ok (r := .dat (.int _)) .int w⟩
  · cases rx; cases ry
    exact .inr (.inl ⟨_, _, rfl, rfl, w.1.ok, k.here ok (r := .dat (.str _)) .str w.2⟩)
  · obtain ⟨a, xs, rfl, h1, l1⟩ := rx
    obtain ⟨b, ys, rfl, h2, l2⟩ := ry
    exact .inr (.inr (.inl ⟨a, b, xs, ys, rfl, rfl, h1, h2, by rw [l1.len, l2.len]; exact w.1.ok, fun p hp => k.lst ok hp (l1.append l2) w.2⟩))
  · obtain ⟨rx, a, xs, rfl, h1, l1⟩ := rx
    obtain ⟨ry, b, ys, rfl, h2, l2⟩ := ry
    refine .inr (.inr (.inr ⟨a, b, xs, ys, rfl, rfl, h1.sq, h2.sq, by rw [l1.len, l2.len]; exact w.1.ok, fun e => ?_, fun _ e => ?_, fun _ _ => k.nuT ok (l1.append l2) w.2⟩))
    · subst e
      cases l1
      exact k.here ok (r := .dat (.tup _)) ry w.2
    · subst e
      cases l2
      have q := w.2
      rw [List.append_nil] at q
      exact k.here ok (r := .dat (.tup _)) rx q
/-- int results -/
def iG (C : Int → Int → Prop) (g : Int → Int → Int) (d e : D) (s : S) (R : Sl → S → Prop) : Prop := match d, e with
  | .int i, .int j => C i j ∧ R (.dat (.int (g i j))) s
  | _, _ => False
def iF (C : Int → Int → Prop) (g : Int → Int → Int) : F2 := fun p q s R => two s p q fun d e => iG C g d e s R
theorem ops_i {K : PySem.W.Frag} {C : Int → Int → Prop} {g : Int → Int → Int} : OpS K (iF C g) (rI C fun i j => .int (g i j)) := OpS.of fun A as s σ H x y d e R Q ok rx ry w k => by
  cases d <;> cases e <;> first
    | exact w.elim
    | skip
  cases rx; cases ry
  exact ⟨_, _, rfl, rfl, w.1, k.here ok (r := .dat (.int _)) .int w.2⟩
def subG (d e : D) (s : S) (R : Sl → S → Prop) : Prop := match d, e with
  | .int i, .int j => R (.dat (.int (i - j))) s
  | _, _ => False
def subF : F2 := fun p q s R => two s p q fun d e => subG d e s R
theorem ops_sub {K : PySem.W.Frag} : OpS K subF (rI0 fun i j => .int (i - j)) := OpS.of fun A as s σ H x y d e R Q ok rx ry w k => by
  cases d <;> cases e <;> first
    | exact w.elim
    | skip
  cases rx; cases ry
  exact ⟨_, _, rfl, rfl, k.here ok (r := .dat (.int _)) .int w⟩
/-- copies of a list -/
def reps (k : Int) (ds : List D) : List D := (List.replicate k.toNat ds).flatten
theorem RepL.reps {K : PySem.W.Frag} {F : Hp} {xs : List V} {ds : List D} (h : RepL K F xs ds) : ∀ n : Nat, RepL K F (List.replicate n xs).flatten (List.replicate n ds).flatten
  | 0 => .nil
  | n + 1 => by
    rw [List.replicate_succ, List.replicate_succ, List.flatten_cons, List.flatten_cons]
    exact h.append (h.reps n)
def mulG (d e : D) (s : S) (R : Sl → S → Prop) : Prop := match d, e with
  | .int i, .int j => CMul i j ∧ R (.dat (.int (i * j))) s
  | .lst xs, .int j => (-(2 ^ 63) ≤ j ∧ j < 2 ^ 63 ∧ sz (xs.length * j.toNat)) ∧ nw (.lst (reps j xs)) s R
  | .tup xs, .int j => (xs ≠ [] ∧ 2 ≤ j ∧ j ≤ 1000 ∧ xs.length ≤ 1000) ∧ R (.dat (.tup (reps j xs))) s
  | _, _ => False
def mulF : F2 := fun p q s R => two s p q fun d e => mulG d e s R
def rMulAll (K : PySem.W.Frag) : R2 := fun x y H Q => (rI CMul fun i j => .int (i * j)) x y H Q ∨ (rRep x y H Q ∨ rRepZ K x y H Q)
theorem op_mulAll {X : Cx} : OpR X (binaryOp .Mult) (rMulAll X.K) := OpR.or op_mul (OpR.or op_rep op_repZ)
theorem ops_mul {K : PySem.W.Frag} : OpS K mulF (rMulAll K) := OpS.of fun A as s σ H x y d e R Q ok rx ry w k => by
  cases d <;> cases e <;> first
    | exact w.elim
    | skip
  · cases rx; cases ry
    exact .inl ⟨_, _, rfl, rfl, w.1, k.here ok (r := .dat (.int _)) .int w.2⟩
  · obtain ⟨a, xs, rfl, h1, l1⟩ := rx
    cases ry
    exact .inr (.inl ⟨a, _, xs, rfl, rfl, h1, w.1.1, w.1.2.1, by rw [l1.len]; exact w.1.2.2.ok, fun p hp => k.lst ok hp (l1.reps _) w.2⟩)
  · obtain ⟨rx, a, xs, rfl, h1, l1⟩ := rx
    cases ry
    refine .inr (.inr ⟨a, _, xs, rfl, rfl, h1.sq, fun e => w.1.1 ?_, w.1.2.1, w.1.2.2.1, by rw [l1.len]; exact w.1.2.2.2, k.nuT ok (l1.reps _) w.2⟩)
    subst e
    cases l1
    rfl
/-- one value -/
abbrev F1 := Sl → S → (Sl → S → Prop) → Prop
def UnS (K : PySem.W.Frag) (f : F1) (r : V → Hp → VK → Prop) : Prop := ∀ (A : Amb) (as : List Addr) (s : S) (σ : L2.St) (H : Hp) (x : V) (p : Sl) (R : Sl → S → Prop) (Q : VK), Ok K A as s σ H → RepS K (vw A as s.μ H) as x p →
  f p s R → Kon K A as s σ H R Q → r x H Q
def wUn (f : F1) (wa : WE) : WE := fun s R => wa s fun p s1 => f p s1 R
theorem up_un {K : PySem.W.Frag} {f : F1} {r : V → Hp → VK → Prop} (hs : UnS K f r) {wa : WE} : ∀ σ H Q, up K (wUn f wa) σ H Q → tUn r (up K wa) σ H Q := fun σ H Q ⟨A, as, s, R, ok, w, k⟩ =>
  ⟨A, as, s, _, ok, w, fun v1 H1 p s1 as1 st1 ok1 r1 w1 => hs A as1 s1 σ H1 v1 p R Q ok1 r1 w1 fun v3 H3 t s3 as3 st3 ok3 r3 w3 => k v3 H3 t s3 as3 (st1.trans st3) ok3 r3 w3⟩
def one (s : S) (p : Sl) (k : D → Prop) : Prop := optK (rd s p) k
def negF : F1 := fun p s R => one s p fun d => match d with
  | .int i => R (.dat (.int (-i))) s
  | _ => False
theorem uns_neg {K : PySem.W.Frag} : UnS K negF (rU fun i => .int (-i)) := fun A as s σ H x p R Q ok rx w k => by
  obtain ⟨d, e, w⟩ := optK_of w
  have r := ok.rdc rx e
  cases d <;> first
    | exact w.elim
    | skip
  cases r
  exact ⟨_, rfl, k.here ok (r := .dat (.int _)) .int w⟩

/-! ### comparisons -/
def bG (g : Int → Int → Bool) (d e : D) (s : S) (R : Sl → S → Prop) : Prop := match d, e with
  | .int i, .int j => R (.dat (.bl (g i j))) s
  | _, _ => False
def bF (g : Int → Int → Bool) : F2 := fun p q s R => two s p q fun d e => bG g d e s R
theorem ops_b {K : PySem.W.Frag} {g : Int → Int → Bool} : OpS K (bF g) (rI0 fun i j => .bl (g i j)) := OpS.of fun A as s σ H x y d e R Q ok rx ry w k => by
  cases d <;> cases e <;> first
    | exact w.elim
    | skip
  cases rx; cases ry
  exact ⟨_, _, rfl, rfl, k.here ok (r := .dat (.bl _)) .bl w⟩
/-! data that can be compared whole -/
mutual
def D.pd : D → PyData
  | .non => .none
  | .bl b => .bool b
  | .int i => .int i
  | .str x => .str x
  | .lst ds => .list (pds ds)
  | .tup ds => .tuple (pds ds)
  | .scr ds => .list (pds ds)
  | .par _ => .dict []
  | .dic _ _ => .dict []
  | .dct _ _ => .dict []
  | .ins _ _ _ => .dict []
def pds : List D → List PyData
  | [] => []
  | d :: ds => d.pd :: pds ds
end
section
variable {K : PySem.W.Frag} {F F' H : Hp}
mutual
theorem Rep.dp (x : Le F H) : ∀ (d : D) {v : V}, Rep K F v d → d.pd.canLay0 = true → Dp K H v d.pd
  | .non, _, h, _ => by
    cases h
    exact .non
  | .bl b, _, h, _ => by
    cases h
    exact .bl b
  | .int i, _, h, _ => by
    cases h
    exact .int i
  | .str i, _, h, _ => by
    cases h
    exact .str i
  | .lst ds, _, h, c => by
    cases h with
    | lst h1 h2 => exact .lst (.inl (.inl (x.same h1 fun z => z))) (RepL.dp x ds h2 c)
  | .scr ds, _, h, c => by
    cases h with
    | scr h1 h2 => exact .lst (x.sqL h1) (RepL.dp x ds h2 c)
  | .tup ds, _, h, c => by
    cases h with
    | tup h1 h2 => exact .tup (x.sqT h1.sq) (RepL.dp x ds h2 c)
  | .par ds, _, h, c => by cases c
  | .dic ks vs, _, h, c => by cases c
  | .dct ks vs, _, h, c => by cases c
  | .ins C ns vs, _, h, c => by cases c
theorem RepL.dp (x : Le F H) : ∀ (ds : List D) {vs : List V}, RepL K F vs ds → PyData.canLayAll0 (pds ds) = true → DpAll K H vs (pds ds)
  | [], _, h, _ => by
    cases h
    exact .nil
  | d :: ds, _, h, c => by
    cases h with
    | cons h1 h2 =>
      have c' : (d.pd.canLay0 && PyData.canLayAll0 (pds ds)) = true := c
      rw [Bool.and_eq_true] at c'
      exact .cons (Rep.dp x d h1 c'.1) (RepL.dp x ds h2 c'.2)
end
theorem Rdc.dp (x : Le F H) {d : D} {v : V} (h : Rdc K F H v d) (c : d.pd.canLay0 = true) : Dp K H v d.pd := by
  cases d with
  | non => cases h; exact .non
  | bl b => cases h; exact .bl b
  | int b => cases h; exact .int b
  | str b => cases h; exact .str b
  | lst ds => obtain ⟨a, xs, rfl, h1, h2⟩ := h; exact .lst (.inl (.inl h1)) (RepL.dp x ds h2 c)
  | scr ds => obtain ⟨a, xs, rfl, h1, h2⟩ := h; exact .lst h1 (RepL.dp x ds h2 c)
  | tup ds => obtain ⟨_, a, xs, rfl, h1, h2⟩ := h; exact .tup h1.sq (RepL.dp x ds h2 c)
  | par ds => cases c
  | dic ks vs => cases c
  | dct ks vs => cases c
  | ins C ns vs => cases c
end
/-- plain data, so deep at most -/
def D.fit (d : D) : Prop := SeqAt.shaped d.pd = true
def eqG (neg : Bool) (d e : D) (s : S) (R : Sl → S → Prop) : Prop := match d, e with
  | .int i, .int j => R (.dat (.bl (neg ^^ decide (i = j)))) s
  | .str i, .str j => R (.dat (.bl (neg ^^ decide (i = j)))) s
  | .bl i, .bl j => R (.dat (.bl (neg ^^ decide (i = j)))) s
  | d, e => (d.fit ∧ e.fit) ∧ R (.dat (.bl (neg ^^ PyData.eqv d.pd e.pd))) s
def eqF (neg : Bool) : F2 := fun p q s R => two s p q fun d e => eqG neg d e s R
def rEqAll (K : PySem.W.Frag) : R2 := fun x y H Q => rEq x y H Q ∨ rEqD K x y H Q
def rNeAll (K : PySem.W.Frag) : R2 := fun x y H Q => rNe x y H Q ∨ rNeD K x y H Q
theorem op_eqAll {X : Cx} (hu : X.A.units + 64 < cLine) : OpR X (compareOp .Eq) (rEqAll X.K) := OpR.or op_eq (op_eqD hu)
theorem op_neAll {X : Cx} (hu : X.A.units + 64 < cLine) : OpR X (compareOp .NotEq) (rNeAll X.K) := OpR.or op_ne (op_neD hu)
theorem eq_gen {K : PySem.W.Frag} {neg : Bool} {A : Amb} {as : List Addr} {s : S} {σ : L2.St} {H : Hp} {x y : V} {d e : D} {R : Sl → S → Prop} {Q : VK} (ok : Ok K A as s σ H) (rx : Rdc K (vw A as s.μ H) H x d) (ry : Rdc K (vw A as s.μ H) H y e) (w : eqG neg d e s R) (k : Kon K A as s σ H R Q) :
    (scal x y = true ∧ Q (.bl (neg ^^ decide (x = y))) H) ∨ ∃ d e, Dp K H x d ∧ Dp K H y e ∧ SeqAt.shaped d = true ∧ SeqAt.shaped e = true ∧ Q (.bl (neg ^^ PyData.eqv d e)) H := by
  have gen : ((d.fit ∧ e.fit) ∧ R (.dat (.bl (neg ^^ PyData.eqv d.pd e.pd))) s) → ∃ d e, Dp K H x d ∧ Dp K H y e ∧ SeqAt.shaped d = true ∧ SeqAt.shaped e = true ∧ Q (.bl (neg ^^ PyData.eqv d e)) H := fun ⟨⟨f1, f2⟩, q⟩ =>
    ⟨d.pd, e.pd, rx.dp vw_le (SeqAt.canLay_of_shaped f1), ry.dp vw_le (SeqAt.canLay_of_shaped f2), f1, f2, k.here ok (r := .dat (.bl _)) .bl q⟩
  cases d <;> cases e <;> first
    | exact .inr (gen w)
    | (cases rx; cases ry; refine .inl ⟨rfl, k.here ok (r := .dat (.bl _)) .bl ?_⟩; first | simpa using w | (simp only [V.int.injEq, V.str.injEq, V.bl.injEq]; exact w))
theorem ops_eq {K : PySem.W.Frag} : OpS K (eqF false) (rEqAll K) := OpS.of fun A as s σ H x y d e R Q ok rx ry w k => by
  rcases eq_gen ok rx ry w k with ⟨h1, h2⟩ | ⟨d, e, h1, h2, h3, h4, h5⟩
  · rw [Bool.false_xor] at h2
    exact .inl ⟨h1, h2⟩
  · rw [Bool.false_xor] at h5
    exact .inr ⟨d, e, h1, h2, h3, h4, h5⟩
theorem ops_ne {K : PySem.W.Frag} : OpS K (eqF true) (rNeAll K) := OpS.of fun A as s σ H x y d e R Q ok rx ry w k => by
  rcases eq_gen ok rx ry w k with ⟨h1, h2⟩ | ⟨d, e, h1, h2, h3, h4, h5⟩
  · rw [Bool.true_xor] at h2
    exact .inl ⟨h1, h2⟩
  · rw [Bool.true_xor] at h5
    exact .inr ⟨d, e, h1, h2, h3, h4, h5⟩
/-- is None, is not None -/
def D.isN : D → Bool
  | .non => true
  | _ => false
def isNF (neg : Bool) : F2 := fun p q s R => match q with
  | .dat .non => one s p fun d => R (.dat (.bl (neg ^^ d.isN))) s
  | _ => False
theorem Rdc.isN {K : PySem.W.Frag} {F H : Hp} {v : V} {d : D} (h : Rdc K F H v d) : decide (v = .non) = d.isN := by
  cases d with
  | non => cases h; rfl
  | bl b => cases h; rfl
  | int b => cases h; rfl
  | str b => cases h; rfl
  | lst ds => obtain ⟨a, xs, rfl, _⟩ := h; rfl
  | scr ds => obtain ⟨a, xs, rfl, _⟩ := h; rfl
  | tup ds => obtain ⟨_, a, xs, rfl, _⟩ := h; rfl
  | par ds => obtain ⟨_, a, xs, rfl, _⟩ := h; rfl
  | dic ks vs => obtain ⟨a, xs, rfl, _⟩ := h; rfl
  | dct ks vs => obtain ⟨a, xs, rfl, _⟩ := h; rfl
  | ins C ns vs => obtain ⟨a, xs, fs, rfl, _⟩ := h; rfl
theorem isN_gen {K : PySem.W.Frag} {neg : Bool} {A : Amb} {as : List Addr} {s : S} {σ : L2.St} {H : Hp} {x y : V} {p q : Sl} {R : Sl → S → Prop} {Q : VK} (ok : Ok K A as s σ H) (rx : RepS K (vw A as s.μ H) as x p) (ry : RepS K (vw A as s.μ H) as y q) (w : isNF neg p q s R) (k : Kon K A as s σ H R Q) :
    y = .non ∧ Q (.bl (neg ^^ decide (x = .non))) H := by
  cases q with
  | cel i => exact w.elim
  | val v => exact w.elim
  | dat d =>
    cases d <;> first
      | exact w.elim
      | skip
    cases ry
    obtain ⟨d, e, w⟩ := optK_of w
    have r := ok.rdc rx e
    refine ⟨rfl, ?_⟩
    rw [r.isN]
    exact k.here ok (r := .dat (.bl _)) .bl w
theorem ops_isN {K : PySem.W.Frag} : OpS K (isNF false) (fun x y H Q => y = .non ∧ Q (.bl (decide (x = .non))) H) := fun A as s σ H x y p q R Q ok rx ry w k => by
  have h := isN_gen ok rx ry w k
  rw [Bool.false_xor] at h
  exact h
theorem ops_notN {K : PySem.W.Frag} : OpS K (isNF true) (fun x y H Q => y = .non ∧ Q (.bl (!decide (x = .non))) H) := fun A as s σ H x y p q R Q ok rx ry w k => by
  have h := isN_gen ok rx ry w k
  rw [Bool.true_xor] at h
  exact h
end Gd
namespace Gd
open PySem PySem.Spec PyProof.Rows L2
/-! ### truth, and, or, not, if -/
/-- a value's truth -/
def tru (s : S) (p : Sl) (k : Bool → Prop) : Prop := one s p fun d => match d with
  | .non => k false
  | .bl b => k b
  | .int i => k (i != 0)
  | .str y => sz y.length ∧ k ((y.length : Int) != 0)
  | .lst ds => k (!ds.isEmpty)
  | .scr ds => k (!ds.isEmpty)
  | .tup ds => k (!ds.isEmpty)
  | _ => False
theorem RepL.emp {K : PySem.W.Frag} {F : Hp} {xs : List V} {ds : List D} (h : RepL K F xs ds) : (!xs.isEmpty) = !ds.isEmpty := by
  cases h <;> rfl
theorem tru_of {K : PySem.W.Frag} {A : Amb} {as : List Addr} {s : S} {σ : L2.St} {H : Hp} {x : V} {p : Sl} {k : Bool → Prop} (ok : Ok K A as s σ H) (rx : RepS K (vw A as s.μ H) as x p) (w : tru s p k) : ∃ b, TruV K x H b ∧ k b := by
  obtain ⟨d, e, w⟩ := optK_of w
  have r := ok.rdc rx e
  cases d with
  | non => cases r; exact ⟨_, rfl, w⟩
  | bl b => cases r; exact ⟨_, rfl, w⟩
  | int b => cases r; exact ⟨_, rfl, w⟩
  | str b => cases r; exact ⟨_, ⟨w.1.ok, rfl⟩, w.2⟩
  | lst ds => obtain ⟨a, xs, rfl, h1, h2⟩ := r; exact ⟨_, .inl ⟨xs, .inl (.inl h1), h2.emp.symm⟩, w⟩
  | scr ds => obtain ⟨a, xs, rfl, h1, h2⟩ := r; exact ⟨_, .inl ⟨xs, h1, h2.emp.symm⟩, w⟩
  | tup ds => obtain ⟨_, a, xs, rfl, h1, h2⟩ := r; exact ⟨_, .inr (.inl ⟨xs, h1.sq, h2.emp.symm⟩), w⟩
  | par ds => exact w.elim
  | dic ks vs => exact w.elim
  | dct ks vs => exact w.elim
  | ins C ns vs => exact w.elim
section
variable {X : Cx} {a b c : Expr} {rest : List Expr} {wa wb wc : WE} {wt wu : WT} {pos : Pos}
def wAnd (wa wb : WE) : WE := fun s R => wa s fun p s1 => tru s1 p fun k => if k = true then wb s1 R else R p s1
def wOr (wa wb : WE) : WE := fun s R => wa s fun p s1 => tru s1 p fun k => if k = true then R p s1 else wb s1 R
def wNot (wa : WE) : WE := fun s R => wa s fun p s1 => tru s1 p fun k => R (.dat (.bl (!k))) s1
theorem e_one {op} {w : WE} (h : PE X a (up X.K w)) : PE X (.BoolOp op [a] pos) (up X.K w) := pe_one h
theorem e_and (ha : PE X a (up X.K wa)) (hb : PE X (.BoolOp .And (b :: rest) pos) (up X.K wb)) : PE X (.BoolOp .And (a :: b :: rest) pos) (up X.K (wAnd wa wb)) := pe_imp (pe_andT ha hb) fun σ H Q ⟨A, as, s, R, ok, w, k⟩ =>
  ⟨A, as, s, _, ok, w, fun v1 H1 p s1 as1 st1 ok1 r1 w1 => by
    obtain ⟨t, h1, w2⟩ := tru_of ok1 r1 w1
    refine ⟨t, h1, ?_⟩
    cases t with
    | true =>
      rw [if_pos rfl] at w2 ⊢
      exact ⟨A, as1, s1, R, ok1, w2, fun v3 H3 t s3 as3 st3 ok3 r3 w3 => k v3 H3 t s3 as3 (st1.trans st3) ok3 r3 w3⟩
    | false =>
      rw [if_neg Bool.false_ne_true] at w2 ⊢
      exact k v1 H1 p s1 as1 st1 ok1 r1 w2⟩
theorem e_or (ha : PE X a (up X.K wa)) (hb : PE X (.BoolOp .Or (b :: rest) pos) (up X.K wb)) : PE X (.BoolOp .Or (a :: b :: rest) pos) (up X.K (wOr wa wb)) := pe_imp (pe_orT ha hb) fun σ H Q ⟨A, as, s, R, ok, w, k⟩ =>
  ⟨A, as, s, _, ok, w, fun v1 H1 p s1 as1 st1 ok1 r1 w1 => by
    obtain ⟨t, h1, w2⟩ := tru_of ok1 r1 w1
    refine ⟨t, h1, ?_⟩
    cases t with
    | false =>
      rw [if_neg Bool.false_ne_true] at w2 ⊢
      exact ⟨A, as1, s1, R, ok1, w2, fun v3 H3 t s3 as3 st3 ok3 r3 w3 => k v3 H3 t s3 as3 (st1.trans st3) ok3 r3 w3⟩
    | true =>
      rw [if_pos rfl] at w2 ⊢
      exact k v1 H1 p s1 as1 st1 ok1 r1 w2⟩
theorem e_not (ha : PE X a (up X.K wa)) : PE X (.UnaryOp .Not a pos) (up X.K (wNot wa)) := pe_imp (pe_notT ha) fun σ H Q ⟨A, as, s, R, ok, w, k⟩ =>
  ⟨A, as, s, _, ok, w, fun v1 H1 p s1 as1 st1 ok1 r1 w1 => by
    obtain ⟨t, h1, w2⟩ := tru_of ok1 r1 w1
    exact ⟨t, h1, k _ H1 (.dat (.bl _)) s1 as1 st1 ok1 .bl w2⟩⟩
/-- tests -/
def wTru (wa : WE) : WT := fun s R => wa s fun p s1 => tru s1 p fun k => R k s1
theorem t_tru (ha : PE X a (up X.K wa)) (he : ∀ whole, isTrue a X.env whole = (do let v ← whole; standAt a.pos; holding [v] (truthy v)) := by intro _; rfl) : PT X a (upT X.K (wTru wa)) := pt_imp (pt_truth ha he) fun σ H Q ⟨A, as, s, R, ok, w, k⟩ =>
  ⟨A, as, s, _, ok, w, fun v1 H1 p s1 as1 st1 ok1 r1 w1 => by
    obtain ⟨t, h1, w2⟩ := tru_of ok1 r1 w1
    exact ⟨t, h1, k t H1 s1 as1 st1 ok1 w2⟩⟩
def wAndT (wt wu : WT) : WT := fun s R => wt s fun k s1 => if k = true then wu s1 R else R false s1
def wOrT (wt wu : WT) : WT := fun s R => wt s fun k s1 => if k = true then R true s1 else wu s1 R
def wNotT (wt : WT) : WT := fun s R => wt s fun k s1 => R (!k) s1
theorem t_and1 (h : PT X a (upT X.K wt)) : PW X (.BoolOp .And [a] pos) (upT X.K wt) := pw_and1 h
theorem t_or1 (h : PT X a (upT X.K wt)) : PW X (.BoolOp .Or [a] pos) (upT X.K wt) := pw_or1 h
theorem t_and (ha : PT X a (upT X.K wt)) (hb : PW X (.BoolOp .And (b :: rest) pos) (upT X.K wu)) : PW X (.BoolOp .And (a :: b :: rest) pos) (upT X.K (wAndT wt wu)) := pw_imp (pw_and ha hb) fun σ H Q ⟨A, as, s, R, ok, w, k⟩ =>
  ⟨A, as, s, _, ok, w, fun t H1 s1 as1 st1 ok1 w1 => by
    cases t with
    | true =>
      rw [if_pos rfl] at w1 ⊢
      exact ⟨A, as1, s1, R, ok1, w1, fun t H3 s3 as3 st3 ok3 w3 => k t H3 s3 as3 (st1.trans st3) ok3 w3⟩
    | false =>
      rw [if_neg Bool.false_ne_true] at w1 ⊢
      exact k false H1 s1 as1 st1 ok1 w1⟩
theorem t_or (ha : PT X a (upT X.K wt)) (hb : PW X (.BoolOp .Or (b :: rest) pos) (upT X.K wu)) : PW X (.BoolOp .Or (a :: b :: rest) pos) (upT X.K (wOrT wt wu)) := pw_imp (pw_or ha hb) fun σ H Q ⟨A, as, s, R, ok, w, k⟩ =>
  ⟨A, as, s, _, ok, w, fun t H1 s1 as1 st1 ok1 w1 => by
    cases t with
    | false =>
      rw [if_neg Bool.false_ne_true] at w1 ⊢
      exact ⟨A, as1, s1, R, ok1, w1, fun t H3 s3 as3 st3 ok3 w3 => k t H3 s3 as3 (st1.trans st3) ok3 w3⟩
    | true =>
      rw [if_pos rfl] at w1 ⊢
      exact k true H1 s1 as1 st1 ok1 w1⟩
theorem t_not (ha : PT X a (upT X.K wt)) : PT X (.UnaryOp .Not a pos) (upT X.K (wNotT wt)) := pt_imp (pt_not ha) fun σ H Q ⟨A, as, s, R, ok, w, k⟩ =>
  ⟨A, as, s, _, ok, w, fun t H1 s1 as1 st1 ok1 w1 => k (!t) H1 s1 as1 st1 ok1 w1⟩
def wIf (wt : WT) (wa wb : WE) : WE := fun s R => wt s fun k s1 => if k = true then wa s1 R else wb s1 R
theorem e_if (hc : PT X c (upT X.K wt)) (ha : PE X a (up X.K wa)) (hb : PE X b (up X.K wb)) : PE X (.IfExp c a b pos) (up X.K (wIf wt wa wb)) := pe_imp (pe_ifExp hc ha hb) fun σ H Q ⟨A, as, s, R, ok, w, k⟩ =>
  ⟨A, as, s, _, ok, w, fun t H1 s1 as1 st1 ok1 w1 => by
    cases t with
    | true =>
      rw [if_pos rfl] at w1 ⊢
      exact ⟨A, as1, s1, R, ok1, w1, fun v3 H3 t s3 as3 st3 ok3 r3 w3 => k v3 H3 t s3 as3 (st1.trans st3) ok3 r3 w3⟩
    | false =>
      rw [if_neg Bool.false_ne_true] at w1 ⊢
      exact ⟨A, as1, s1, R, ok1, w1, fun v3 H3 t s3 as3 st3 ok3 r3 w3 => k v3 H3 t s3 as3 (st1.trans st3) ok3 r3 w3⟩⟩
end

/-! ### what was made on the way is given up, but for the value -/
def MO.below (n : Nat) : MO → Prop
  | .ins _ fs => ∀ f ∈ fs, match f.2 with
    | .cel j => j < n
    | _ => True
  | _ => True
def belowAll (n : Nat) : List (Option MO) → Prop
  | [] => True
  | none :: t => belowAll n t
  | some o :: t => o.below n ∧ belowAll n t
theorem belowAll_get {n : Nat} : ∀ {l : List (Option MO)}, belowAll n l → ∀ {i : Nat} {o : MO}, l[i]? = some (some o) → o.below n
  | [], _, i, _, h => by simp at h
  | none :: t, hb, 0, _, h => by simp at h
  | some o :: t, hb, 0, _, h => by
    simp at h
    subst h
    exact hb.1
  | none :: t, hb, i + 1, _, h => belowAll_get (l := t) hb (i := i) (by simpa using h)
  | some o :: t, hb, i + 1, _, h => belowAll_get (l := t) hb.2 (i := i) (by simpa using h)
/-- back to the names and the many that stood in s -/
def back (s s1 : S) : S := ⟨s.Γ, s1.μ.take s.μ.length⟩
section
variable {K : PySem.W.Frag} {A : Amb} {as as1 : List Addr} {s s1 : S} {σ : L2.St} {H H1 : Hp} {v : V} {r : Sl} {d : D}
theorem RepSs.below {F : Hp} {n : Nat} : ∀ {vs : List V} {rs : List Sl}, RepSs K F as vs rs → (∀ r ∈ rs, match r with | .cel j => j < n | _ => True) → RepSs K F (as.take n) vs rs
  | [], [], _, _ => trivial
  | _ :: _, r :: _, h, hb => by
    refine ⟨?_, RepSs.below h.2 fun q hq => hb q (List.mem_cons_of_mem _ hq)⟩
    have h1 := h.1
    have hb1 := hb r (List.mem_cons_self ..)
    cases r with
    | dat d => exact h1
    | val v => exact h1
    | cel j =>
      obtain ⟨a, e, ev⟩ := h1
      exact ⟨a, by rw [List.getElem?_take_of_lt hb1]; exact e, ev⟩
  | [], _ :: _, h, _ => h.elim
  | _ :: _, [], h, _ => h.elim
theorem MemO.below {F : Hp} {n : Nat} {a : Addr} {o : MO} (h : MemO K F as H a o) (hb : o.below n) : MemO K F (as.take n) H a o := by
  cases o with
  | lst ds => exact h
  | dic ks vs => exact h
  | dct ks vs => exact h
  | ins C fs =>
    obtain ⟨dx, gs, h1, h2, h3⟩ := h
    refine ⟨dx, gs, h1, h2, h3.below fun r hr => ?_⟩
    obtain ⟨f, hf, rfl⟩ := List.mem_map.mp hr
    exact hb f hf
theorem take_less (μ : List (Option MO)) (n : Nat) : ∀ (i : Nat) (o : MO), (μ.take n)[i]? = some (some o) → μ[i]? = some (some o) := fun i o h => by
  by_cases hi : i < n
  · rw [List.getElem?_take_of_lt hi] at h
    exact h
  · rw [List.getElem?_eq_none (by rw [List.length_take]; omega)] at h
    cases h
theorem Ok.back (ok : Ok K A as s σ H) (st : Stp A as s.μ H as1 s1.μ H1) (ok1 : Ok K A as1 s1 σ H1) (hb : belowAll s.μ.length (s1.μ.take s.μ.length)) :
    Stp A as s.μ H as (back s s1).μ H1 ∧ Ok K A as (back s s1) σ H1 ∧ Le (vw A as1 s1.μ H1) (vw A as (back s s1).μ H1) := by
  have hn : as1.take s.μ.length = as := by
    obtain ⟨t, rfl⟩ := st.pre
    rw [← ok.len, List.take_left]
  have hle : s.μ.length ≤ s1.μ.length := by
    rw [← ok.len, ← ok1.len]
    exact st.pre.length_le
  have hh : ∀ a, hid A as (s1.μ.take s.μ.length) a → hid A as1 s1.μ a := fun a h => by
    rcases h with h | ⟨i, o, h1, h2⟩
    · exact .inl h
    · exact .inr ⟨i, o, pre_get st.pre h1, take_less _ _ _ _ h2⟩
  have le : Le (vw A as1 s1.μ H1) (vw A as (s1.μ.take s.μ.length) H1) := fun a u h => by
    obtain ⟨h1, h2⟩ := vw_of h
    exact .inl (by rw [vw_no fun z => h2 (hh a z)]; exact h1)
  refine ⟨⟨List.prefix_refl _, st.le.trans le⟩, ⟨?_, ok.nd, ok.dj, fun a ha => ok1.tr a (st.pre.subset ha), ok1.m0, ok1.pin.trans le, fun i r h => ?_, fun i a o h1 h2 => ?_, ok.ln, ok.own, ok1.he⟩, le⟩
  · show as.length = (s1.μ.take s.μ.length).length
    rw [List.length_take, Nat.min_eq_left hle]
    exact ok.len
  · obtain ⟨v, h1, h2⟩ := ok.env i r h
    exact ⟨v, h1, h2.mono (st.le.trans le) (List.prefix_refl _)⟩
  · have hm := ok1.mem i a o (pre_get st.pre h1) (take_less _ _ _ _ h2)
    have hb' := belowAll_get hb h2
    have hm' := (hm.mono le (List.prefix_refl _) rfl).below hb'
    rw [hn] at hm'
    exact hm'
/-- the value, then, as data -/
def frz (s : S) (r : Sl) (s1 : S) (R : Sl → S → Prop) : Prop := belowAll s.μ.length (s1.μ.take s.μ.length) ∧ match r with
  | .dat d => R (.dat d) (back s s1)
  | .val v => R (.val v) (back s s1)
  | .cel i => if i < s.μ.length then R (.cel i) (back s s1) else optK (nth s1.μ i) fun o => o.plain ∧ R (.dat o.d) (back s s1)
def wFrz (w : WE) : WE := fun s R => w s fun r s1 => frz s r s1 R
theorem frz_ok {R : Sl → S → Prop} {Q : VK} (ok : Ok K A as s σ H) (st : Stp A as s.μ H as1 s1.μ H1) (ok1 : Ok K A as1 s1 σ H1) (r1 : RepS K (vw A as1 s1.μ H1) as1 v r) (w : frz s r s1 R) :
    ∃ r', R r' (back s s1) ∧ Stp A as s.μ H as (back s s1).μ H1 ∧ Ok K A as (back s s1) σ H1 ∧ RepS K (vw A as (back s s1).μ H1) as v r' := by
  obtain ⟨hb, w⟩ := w
  obtain ⟨st', ok', le⟩ := ok.back st ok1 hb
  cases r with
  | dat d => exact ⟨_, w, st', ok', Rep.mono le d r1⟩
  | val u => exact ⟨_, w, st', ok', r1⟩
  | cel i =>
    obtain ⟨a, h1, rfl⟩ := r1
    by_cases hi : i < s.μ.length
    · have w : (if i < s.μ.length then R (.cel i) (back s s1) else _) := w
      rw [if_pos hi] at w
      refine ⟨_, w, st', ok', a, ?_, rfl⟩
      have : as1.take s.μ.length = as := by
        obtain ⟨t, rfl⟩ := st.pre
        rw [← ok.len, List.take_left]
      rw [← this, List.getElem?_take_of_lt hi]
      exact h1
    · have w : (if i < s.μ.length then R (.cel i) (back s s1) else optK (nth s1.μ i) fun o => o.plain ∧ R (.dat o.d) (back s s1)) := w
      rw [if_neg hi] at w
      obtain ⟨o, e, pl, w⟩ := optK_of w
      refine ⟨_, w, st', ok', ?_⟩
      obtain ⟨_, _, hd⟩ := ok1.freeze h1 (nth_eq _ _ e) pl
      refine Rep.mono (fun b u hb' => ?_) _ hd
      obtain ⟨z1, z2⟩ := vw_of hb'
      refine .inl ?_
      rw [vw_no, z1]
      rintro (z | ⟨j, o2, z3, z4⟩)
      · exact z2 (.inl z)
      · have hj := pre_get st.pre z3
        have hjl : j < s.μ.length := by
          rw [← ok.len]
          exact (List.getElem?_eq_some_iff.mp z3).1
        refine z2 (.inr ⟨j, o2, hj, ?_⟩)
        rw [List.getElem?_set_ne (by omega)]
        exact take_less _ _ _ _ z4
end
theorem e_frz {X : Cx} {e : Expr} {w : WE} (h : PE X e (up X.K w)) : PE X e (up X.K (wFrz w)) := pe_imp h fun σ H Q ⟨A, as, s, R, ok, w, k⟩ =>
  ⟨A, as, s, _, ok, w, fun v1 H1 r s1 as1 st1 ok1 r1 w1 => by
    obtain ⟨r', w2, st2, ok2, r2⟩ := frz_ok (Q := Q) ok st1 ok1 r1 w1
    exact k v1 H1 r' _ as st2 ok2 r2 w2⟩
def wFrzT (w : WT) : WT := fun s R => w s fun b s1 => belowAll s.μ.length (s1.μ.take s.μ.length) ∧ R b (back s s1)
theorem t_frz {X : Cx} {e : Expr} {w : WT} (h : PT X e (upT X.K w)) : PT X e (upT X.K (wFrzT w)) := pt_imp h fun σ H Q ⟨A, as, s, R, ok, w, k⟩ =>
  ⟨A, as, s, _, ok, w, fun b H1 s1 as1 st1 ok1 w1 => by
    obtain ⟨st2, ok2, _⟩ := ok.back st1 ok1 w1.1
    exact k b H1 _ as st2 ok2 w1.2⟩

/-! ### arguments, displays -/
section
variable {X : Cx} {e : Expr} {es : List Expr} {we : WE} {wr : WA} {pos : Pos}
def waNil : WA := fun s R => R [] s
def waCons (we : WE) (wr : WA) : WA := fun s R => we s fun p s1 => wr s1 fun ps s2 => R (p :: ps) s2
theorem a_nil : PA X [] (upA X.K waNil) := pa_imp pa_nil fun σ H Q ⟨A, as, s, R, ok, w, k⟩ => k [] H [] s as Stp.refl ok trivial w
theorem a_cons (ha : PE X e (up X.K we)) (hr : PA X es (upA X.K wr)) (hs : starEach (e :: es) X.env = (false, eval e X.env) :: starEach es X.env := by rfl) : PA X (e :: es) (upA X.K (waCons we wr)) :=
  pa_imp (pa_cons ha hr hs) fun σ H Q ⟨A, as, s, R, ok, w, k⟩ =>
    ⟨A, as, s, _, ok, w, fun v1 H1 p s1 as1 st1 ok1 r1 w1 => ⟨A, as1, s1, _, ok1, w1, fun vs H2 ps s2 as2 st2 ok2 r2 w2 => k (v1 :: vs) H2 (p :: ps) s2 as2 (st1.trans st2) ok2 ⟨r1.mono st2.le st2.pre, r2⟩ w2⟩⟩
/-- all data -/
def dats : List Sl → (List D → Prop) → Prop
  | [], k => k []
  | .dat d :: rs, k => dats rs fun ds => k (d :: ds)
  | _ :: _, _ => False
theorem dats_of {K : PySem.W.Frag} {F : Hp} {as : List Addr} : ∀ {vs : List V} {rs : List Sl} {k : List D → Prop}, RepSs K F as vs rs → dats rs k → ∃ ds, RepL K F vs ds ∧ k ds
  | [], [], _, _, w => ⟨[], .nil, w⟩
  | _ :: _, .dat d :: rs, _, h, w => by
    obtain ⟨ds, h1, h2⟩ := dats_of h.2 w
    exact ⟨d :: ds, .cons h.1 h1, h2⟩
  | _ :: _, .cel _ :: _, _, _, w => w.elim
  | _ :: _, .val _ :: _, _, _, w => w.elim
  | [], _ :: _, _, h, _ => h.elim
  | _ :: _, [], _, h, _ => h.elim
def wTup (wr : WA) : WE := fun s R => wr s fun ps s1 => dats ps fun ds => sz ds.length ∧ R (.dat (.tup ds)) s1
def wLst (wr : WA) : WE := fun s R => wr s fun ps s1 => dats ps fun ds => sz ds.length ∧ nw (.lst ds) s1 R
theorem e_tup {x1} (h : PA X es (upA X.K wr)) : PE X (.Tuple es x1 pos) (up X.K (wTup wr)) := pe_imp (pe_tupZ h) fun σ H Q ⟨A, as, s, R, ok, w, k⟩ =>
  ⟨A, as, s, _, ok, w, fun vs H1 ps s1 as1 st1 ok1 r1 w1 => by
    obtain ⟨ds, hl, hz, w2⟩ := dats_of r1 w1
    exact ⟨by rw [hl.len]; exact hz.ok, Kon.nuT (fun v3 H3 t s3 as3 st3 ok3 r3 w3 => k v3 H3 t s3 as3 (st1.trans st3) ok3 r3 w3) ok1 hl w2⟩⟩
theorem e_lst (h : PA X es (upA X.K wr)) : PE X (.List es pos) (up X.K (wLst wr)) := pe_imp (pe_lst h) fun σ H Q ⟨A, as, s, R, ok, w, k⟩ =>
  ⟨A, as, s, _, ok, w, fun vs H1 ps s1 as1 st1 ok1 r1 w1 => by
    obtain ⟨ds, hl, hz, w2⟩ := dats_of r1 w1
    exact ⟨by rw [hl.len]; exact hz.ok, fun p hp => Kon.lst (fun v3 H3 t s3 as3 st3 ok3 r3 w3 => k v3 H3 t s3 as3 (st1.trans st3) ok3 r3 w3) ok1 hp hl w2⟩⟩
end

/-! ### places, slices -/
theorem atI_rep {K : PySem.W.Frag} {F : Hp} {xs : List V} {ds : List D} {i : Int} {d : D} (h : RepL K F xs ds) (e : atI ds i = some d) : ∃ v, atI xs i = some v ∧ Rep K F v d := by
  unfold atI at e ⊢
  rw [h.len]
  cases q : ixN ds.length i with
  | none => rw [q] at e; cases e
  | some j =>
    rw [q] at e
    exact h.get e
def ixG (d e : D) (s : S) (R : Sl → S → Prop) : Prop := match d, e with
  | .lst ds, .int i => optK (atI ds i) fun d => R (.dat d) s
  | .scr ds, .int i => optK (atI ds i) fun d => R (.dat d) s
  | .tup ds, .int i => optK (atI ds i) fun d => R (.dat d) s
  | .par ds, .int i => optK (atI ds i) fun d => R (.dat d) s
  | .str x, .int i => sz x.length ∧ optK (atI x.cps.toList i) fun c => R (.dat (.str ⟨#[c]⟩)) s
  | _, _ => False
def ixF : F2 := fun p q s R => two s p q fun d e => ixG d e s R
theorem ops_ix {K : PySem.W.Frag} : OpS K ixF (rIx K) := OpS.of fun A as s σ H x y d e R Q ok rx ry w k => by
  cases d <;> cases e <;> first
    | exact w.elim
    | skip
  · cases rx; cases ry
    obtain ⟨c, e, w2⟩ := optK_of w.2
    exact .inr (.inr ⟨_, _, c, rfl, rfl, w.1.ok, e, k.here ok (r := .dat (.str _)) .str w2⟩)
  · obtain ⟨a, xs, rfl, h1, l1⟩ := rx
    cases ry
    obtain ⟨d, e, w2⟩ := optK_of w
    obtain ⟨v, e2, r⟩ := atI_rep l1 e
    exact .inl ⟨a, xs, _, v, rfl, rfl, .inl (.inl h1), e2, k.here ok (r := .dat d) r w2⟩
  · obtain ⟨_, a, xs, rfl, h1, l1⟩ := rx
    cases ry
    obtain ⟨d, e, w2⟩ := optK_of w
    obtain ⟨v, e2, r⟩ := atI_rep l1 e
    exact .inr (.inl ⟨a, xs, _, v, rfl, rfl, h1.sq, e2, k.here ok (r := .dat d) r w2⟩)
  · obtain ⟨a, xs, rfl, h1, l1⟩ := rx
    cases ry
    obtain ⟨d, e, w2⟩ := optK_of w
    obtain ⟨v, e2, r⟩ := atI_rep l1 e
    exact .inl ⟨a, xs, _, v, rfl, rfl, h1, e2, k.here ok (r := .dat d) r w2⟩
  · obtain ⟨_, a, xs, rfl, h1, l1⟩ := rx
    cases ry
    obtain ⟨d, e, w2⟩ := optK_of w
    obtain ⟨v, e2, r⟩ := atI_rep l1 e
    exact .inr (.inl ⟨a, xs, _, v, rfl, rfl, h1, e2, k.here ok (r := .dat d) r w2⟩)
section
variable {X : Cx} {a b e : Expr} {wa wb we : WE} {lo hi : Option Expr} {pos p2 : Pos}
theorem e_ix (ha : PE X a (up X.K wa)) (hb : PE X b (up X.K wb)) (hs : PlainIx b := by exact fun _ _ => rfl) : PE X (.Subscript a b pos) (up X.K (wOp ixF wa wb)) := pe_imp (pe_ix ix_seq ha hb hs) (up_op ops_ix)
/-- a part of a slice -/
abbrev WO := S → (Option Int → S → Prop) → Prop
def upO (K : PySem.W.Frag) (w : WO) : TO := fun σ H Q => ∃ A as s R, Ok K A as s σ H ∧ w s R ∧
  ∀ o H' s' as', Stp A as s.μ H as' s'.μ H' → Ok K A as' s' σ H' → R o s' → Q o H'
def woN : WO := fun s R => R none s
def woS (we : WE) : WO := fun s R => we s fun p s1 => one s1 p fun d => match d with
  | .int i => R (some i) s1
  | _ => False
theorem o_none : PO X none (upO X.K woN) := ⟨fun pins s σ H Q I ⟨A, as, st, R, ok, w, k⟩ => po_none.run pins s σ H Q I (k none H st as Stp.refl ok w)⟩
theorem o_some (h : PE X e (up X.K we)) : PO X (some e) (upO X.K (woS we)) := ⟨fun pins s σ H Q I ⟨A, as, st, R, ok, w, k⟩ => (po_some h).run pins s σ H Q I
  ⟨A, as, st, _, ok, w, fun v1 H1 p s1 as1 st1 ok1 r1 w1 => by
    obtain ⟨d, e, w2⟩ := optK_of w1
    have r := ok1.rdc r1 e
    cases d with
    | int i => cases r; exact ⟨i, rfl, k (some i) H1 s1 as1 st1 ok1 w2⟩
    | _ => exact w2.elim⟩⟩
def cutD (ds : List D) (lo hi : Option Int) : List D := (ds.drop (HT.sIx ds.length 0 lo)).take (HT.sIx ds.length ds.length hi - HT.sIx ds.length 0 lo)
theorem cut_rep {K : PySem.W.Frag} {F : Hp} {xs : List V} {ds : List D} (h : RepL K F xs ds) (lo hi : Option Int) : RepL K F (cutV xs lo hi) (cutD ds lo hi) := by
  unfold cutV cutD
  rw [h.len]
  exact (h.drop _).take _
def slF (p : Sl) (lo hi : Option Int) (s : S) (R : Sl → S → Prop) : Prop := one s p fun d => match d with
  | .lst ds => nw (.lst (cutD ds lo hi)) s R
  | .scr ds => nw (.lst (cutD ds lo hi)) s R
  | .tup ds => R (.dat (.tup (cutD ds lo hi))) s
  | .str x => sz x.length ∧ R (.dat (.str (cutS x lo hi))) s
  | _ => False
def wSl (we : WE) (wl wh : WO) : WE := fun s R => we s fun p s1 => wl s1 fun l s2 => wh s2 fun u s3 => slF p l u s3 R
def rSlAll (K : PySem.W.Frag) : V → Option Int → Option Int → Hp → VK → Prop := fun x lo hi H Q => rSlL K x lo hi H Q ∨ (rSlZ K x lo hi H Q ∨ rSlS x lo hi H Q)
theorem sl_all : SlR X (rSlAll X.K) := SlR.or sl_list (SlR.or sl_tupZ sl_str)
theorem sl_ok {K : PySem.W.Frag} {A : Amb} {as : List Addr} {s : S} {σ : L2.St} {H : Hp} {x : V} {p : Sl} {lo hi : Option Int} {R : Sl → S → Prop} {Q : VK} (ok : Ok K A as s σ H) (rx : RepS K (vw A as s.μ H) as x p) (w : slF p lo hi s R) (k : Kon K A as s σ H R Q) : rSlAll K x lo hi H Q := by
  obtain ⟨d, e, w⟩ := optK_of w
  have r := ok.rdc rx e
  cases d with
  | lst ds => obtain ⟨a, xs, rfl, h1, h2⟩ := r; exact .inl ⟨a, xs, rfl, .inl (.inl h1), fun p hp => k.lst ok hp (cut_rep h2 lo hi) w⟩
  | scr ds => obtain ⟨a, xs, rfl, h1, h2⟩ := r; exact .inl ⟨a, xs, rfl, h1, fun p hp => k.lst ok hp (cut_rep h2 lo hi) w⟩
  | tup ds =>
    obtain ⟨rt, a, xs, rfl, h1, h2⟩ := r
    refine .inr (.inl ⟨a, xs, rfl, h1.sq, fun hw => ?_, fun _ => k.nuT ok (cut_rep h2 lo hi) w⟩)
    have e : cutD ds lo hi = ds := by
      unfold cutD
      rw [← h2.len, hw.1, hw.2, List.drop_zero, h2.len, Nat.sub_zero, List.take_length]
    have w' : R (.dat (.tup (cutD ds lo hi))) s := w
    rw [e] at w'
    exact k.here ok (r := .dat (.tup ds)) rt w'
  | str y => cases r; exact .inr (.inr ⟨_, rfl, w.1.ok, k.here ok (r := .dat (.str _)) .str w.2⟩)
  | _ => exact w.elim
theorem e_sl {wl wh : WO} (he : PE X e (up X.K we)) (hl : PO X lo (upO X.K wl)) (hu : PO X hi (upO X.K wh)) : PE X (.Subscript e (.Slice lo hi none p2) pos) (up X.K (wSl we wl wh)) := pe_imp (pe_slice sl_all he hl hu) fun σ H Q ⟨A, as, s, R, ok, w, k⟩ =>
  ⟨A, as, s, _, ok, w, fun v1 H1 p s1 as1 st1 ok1 r1 w1 => ⟨A, as1, s1, _, ok1, w1, fun l H2 s2 as2 st2 ok2 w2 => ⟨A, as2, s2, _, ok2, w2, fun u H3 s3 as3 st3 ok3 w3 =>
    sl_ok ok3 ((r1.mono st2.le st2.pre).mono st3.le st3.pre) w3 fun v4 H4 t s4 as4 st4 ok4 r4 w4 => k v4 H4 t s4 as4 (((st1.trans st2).trans st3).trans st4) ok4 r4 w4⟩⟩⟩
end

/-! ### built-ins by their name -/
abbrev FN := List Sl → S → (Sl → S → Prop) → Prop
def CbS (K : PySem.W.Frag) (f : FN) (r : List V → Hp → VK → Prop) : Prop := ∀ (A : Amb) (as : List Addr) (s : S) (σ : L2.St) (H : Hp) (xs : List V) (ps : List Sl) (R : Sl → S → Prop) (Q : VK), Ok K A as s σ H → RepSs K (vw A as s.μ H) as xs ps →
  f ps s R → Kon K A as s σ H R Q → r xs H Q
def wCB (f : FN) (wr : WA) : WE := fun s R => wr s fun ps s1 => f ps s1 R
theorem up_cb {K : PySem.W.Frag} {f : FN} {r : List V → Hp → VK → Prop} (hs : CbS K f r) {wr : WA} : ∀ σ H Q, up K (wCB f wr) σ H Q → tCB r (upA K wr) σ H Q := fun σ H Q ⟨A, as, s, R, ok, w, k⟩ =>
  ⟨A, as, s, _, ok, w, fun vs H1 ps s1 as1 st1 ok1 r1 w1 => hs A as1 s1 σ H1 vs ps R Q ok1 r1 w1 fun v3 H3 t s3 as3 st3 ok3 r3 w3 => k v3 H3 t s3 as3 (st1.trans st3) ok3 r3 w3⟩
section
variable {X : Cx} {x : Str} {e : Expr} {es : List Expr} {p pos : Pos} {r : List V → Hp → VK → Prop} {f : FN} {wr : WA} {id T : String}
theorem e_cb (hc : CallR X (.builtin id) r) (hs : CbS X.K f r) (hg : Gl X x) (hm : X.mg x = none) (hv : bootBuiltins x = some (.builtin id)) (ha : PA X (e :: es) (upA X.K wr)) (hn : x ≠ "__name__" := by decide) (hdb : (x == ("__debug__" : Str)) = false := by decide)
    (he : starEach (e :: es) X.env = (false, eval e X.env) :: starEach es X.env := by rfl) (hpl : (backTo pos (starEach es X.env)).any (·.1) = false := by rfl) : PE X (.Call (.Name x p) (e :: es) [] pos) (up X.K (wCB f wr)) :=
  pe_imp (pe_callB hc hg hm hv ha hn hdb he hpl) (up_cb hs)
theorem e_ct (hc : CallR X (.type T) r) (hs : CbS X.K f r) (hg : Gl X x) (hm : X.mg x = none) (hv : bootBuiltins x = some (.type T)) (ha : PA X (e :: es) (upA X.K wr)) (hn : x ≠ "__name__" := by decide) (hdb : (x == ("__debug__" : Str)) = false := by decide)
    (he : starEach (e :: es) X.env = (false, eval e X.env) :: starEach es X.env := by rfl) (hpl : (backTo pos (starEach es X.env)).any (·.1) = false := by rfl) : PE X (.Call (.Name x p) (e :: es) [] pos) (up X.K (wCB f wr)) :=
  pe_imp (pe_callTy hc hg hm hv ha hn hdb he hpl) (up_cb hs)
end
def arg1 (s : S) (ps : List Sl) (k : D → Prop) : Prop := match ps with
  | [p] => one s p k
  | _ => False
def arg2 (s : S) (ps : List Sl) (k : D → D → Prop) : Prop := match ps with
  | [p, q] => two s p q k
  | _ => False
theorem CbS.of1 {K : PySem.W.Frag} {g : D → S → (Sl → S → Prop) → Prop} {r : List V → Hp → VK → Prop}
    (h : ∀ (A : Amb) (as : List Addr) (s : S) (σ : L2.St) (H : Hp) (x : V) (d : D) (R : Sl → S → Prop) (Q : VK), Ok K A as s σ H → Rdc K (vw A as s.μ H) H x d → g d s R → Kon K A as s σ H R Q → r [x] H Q) :
    CbS K (fun ps s R => arg1 s ps fun d => g d s R) r := fun A as s σ H xs ps R Q ok rx w k => by
  match ps, xs, rx with
  | [p], [x], rx =>
    obtain ⟨d, e, w⟩ := optK_of w
    exact h A as s σ H x d R Q ok (ok.rdc rx.1 e) w k
  | [], _, _ => exact w.elim
  | _ :: _ :: _, _, _ => exact w.elim
theorem CbS.of2 {K : PySem.W.Frag} {g : D → D → S → (Sl → S → Prop) → Prop} {r : List V → Hp → VK → Prop}
    (h : ∀ (A : Amb) (as : List Addr) (s : S) (σ : L2.St) (H : Hp) (x y : V) (d e : D) (R : Sl → S → Prop) (Q : VK), Ok K A as s σ H → Rdc K (vw A as s.μ H) H x d → Rdc K (vw A as s.μ H) H y e → g d e s R → Kon K A as s σ H R Q → r [x, y] H Q) :
    CbS K (fun ps s R => arg2 s ps fun d e => g d e s R) r := fun A as s σ H xs ps R Q ok rx w k => by
  match ps, xs, rx with
  | [p, q], [x, y], rx =>
    obtain ⟨d, e, e1, e2, w⟩ := two_of w
    exact h A as s σ H x y d e R Q ok (ok.rdc rx.1 e1) (ok.rdc rx.2.1 e2) w k
  | [], _, _ => exact w.elim
  | [_], _, _ => exact w.elim
  | _ :: _ :: _ :: _, _, _ => exact w.elim
/-- len -/
def lenG (d : D) (s : S) (R : Sl → S → Prop) : Prop := match d with
  | .lst ds => R (.dat (.int (ds.length : Int))) s
  | .scr ds => R (.dat (.int (ds.length : Int))) s
  | .tup ds => R (.dat (.int (ds.length : Int))) s
  | .str x => sz x.length ∧ R (.dat (.int (x.length : Int))) s
  | _ => False
def lenF : FN := fun ps s R => arg1 s ps fun d => lenG d s R
theorem cbs_len {K : PySem.W.Frag} : CbS K lenF (fun xs H Q => ∃ x n, xs = [x] ∧ LenV K x H n ∧ Q (.int n) H) := CbS.of1 fun A as s σ H x d R Q ok r w k => by
  cases d with
  | lst ds => obtain ⟨a, xs, rfl, h1, h2⟩ := r; exact ⟨_, _, rfl, .inl ⟨xs, .inl (.inl h1), h2.len.symm⟩, k.here ok (r := .dat (.int _)) .int w⟩
  | scr ds => obtain ⟨a, xs, rfl, h1, h2⟩ := r; exact ⟨_, _, rfl, .inl ⟨xs, h1, h2.len.symm⟩, k.here ok (r := .dat (.int _)) .int w⟩
  | tup ds => obtain ⟨_, a, xs, rfl, h1, h2⟩ := r; exact ⟨_, _, rfl, .inr ⟨xs, h1.sq, h2.len.symm⟩, k.here ok (r := .dat (.int _)) .int w⟩
  | str y => cases r; exact ⟨_, _, rfl, ⟨w.1.ok, rfl⟩, k.here ok (r := .dat (.int _)) .int w.2⟩
  | _ => exact w.elim
/-- one int -/
def intG (g : Int → Int) (d : D) (s : S) (R : Sl → S → Prop) : Prop := match d with
  | .int i => R (.dat (.int (g i))) s
  | _ => False
def absF : FN := fun ps s R => arg1 s ps fun d => intG (fun i => if i < 0 then -i else i) d s R
theorem cbs_abs {K : PySem.W.Frag} : CbS K absF (fun xs H Q => ∃ i, xs = [.int i] ∧ Q (.int (if i < 0 then -i else i)) H) := CbS.of1 fun A as s σ H x d R Q ok r w k => by
  cases d with
  | int i => cases r; exact ⟨_, rfl, k.here ok (r := .dat (.int _)) .int w⟩
  | _ => exact w.elim
/-- int(..) of a number, a truth -/
def intC (d : D) (s : S) (R : Sl → S → Prop) : Prop := match d with
  | .int i => R (.dat (.int i)) s
  | .bl b => R (.dat (.int (if b then 1 else 0))) s
  | _ => False
def intF : FN := fun ps s R => arg1 s ps fun d => intC d s R
theorem cbs_int {K : PySem.W.Frag} : CbS K intF (fun xs H Q => (∃ i, xs = [.int i] ∧ Q (.int i) H) ∨ ∃ k, xs = [.bl k] ∧ Q (.int (if k then 1 else 0)) H) := CbS.of1 fun A as s σ H x d R Q ok r w k => by
  cases d with
  | int i => cases r; exact .inl ⟨_, rfl, k.here ok (r := .dat (.int _)) .int w⟩
  | bl i => cases r; exact .inr ⟨_, rfl, k.here ok (r := .dat (.int _)) .int w⟩
  | _ => exact w.elim
def int2G (g : Int → Int → Int) (d e : D) (s : S) (R : Sl → S → Prop) : Prop := match d, e with
  | .int i, .int j => R (.dat (.int (g i j))) s
  | _, _ => False
def maxI (i j : Int) : Int := if j > i then j else i
def minI (i j : Int) : Int := if j < i then j else i
def max2F : FN := fun ps s R => arg2 s ps fun d e => int2G maxI d e s R
def min2F : FN := fun ps s R => arg2 s ps fun d e => int2G minI d e s R
theorem cbs_max2 {K : PySem.W.Frag} : CbS K max2F (fun xs H Q => ∃ i j, xs = [.int i, .int j] ∧ Q (.int (if j > i then j else i)) H) := CbS.of2 fun A as s σ H x y d e R Q ok rx ry w k => by
  cases d <;> cases e <;> first
    | exact w.elim
    | skip
  cases rx; cases ry
  exact ⟨_, _, rfl, k.here ok (r := .dat (.int _)) .int w⟩
theorem cbs_min2 {K : PySem.W.Frag} : CbS K min2F (fun xs H Q => ∃ i j, xs = [.int i, .int j] ∧ Q (.int (if j < i then j else i)) H) := CbS.of2 fun A as s σ H x y d e R Q ok rx ry w k => by
  cases d <;> cases e <;> first
    | exact w.elim
    | skip
  cases rx; cases ry
  exact ⟨_, _, rfl, k.here ok (r := .dat (.int _)) .int w⟩
/-- list(..), tuple(..) of a list, a tuple -/
def listG (d : D) (s : S) (R : Sl → S → Prop) : Prop := match d with
  | .lst ds => nw (.lst ds) s R
  | .scr ds => nw (.lst ds) s R
  | .tup ds => nw (.lst ds) s R
  | _ => False
def listF : FN := fun ps s R => arg1 s ps fun d => listG d s R
theorem cbs_list {K : PySem.W.Frag} : CbS K listF (fun xs H Q => ∃ p ys, xs = [.ref p] ∧ (SqL K H p ys ∨ SqT K H p ys) ∧ ∀ l, H l = none → Q (.ref l) (upd H l (.lst ys))) := CbS.of1 fun A as s σ H x d R Q ok r w k => by
  cases d with
  | lst ds => obtain ⟨a, xs, rfl, h1, h2⟩ := r; exact ⟨_, _, rfl, .inl (.inl (.inl h1)), fun l hl => k.lst ok hl h2 w⟩
  | scr ds => obtain ⟨a, xs, rfl, h1, h2⟩ := r; exact ⟨_, _, rfl, .inl h1, fun l hl => k.lst ok hl h2 w⟩
  | tup ds => obtain ⟨_, a, xs, rfl, h1, h2⟩ := r; exact ⟨_, _, rfl, .inr h1.sq, fun l hl => k.lst ok hl h2 w⟩
  | _ => exact w.elim
def tupG (d : D) (s : S) (R : Sl → S → Prop) : Prop := match d with
  | .lst ds => R (.dat (.tup ds)) s
  | .scr ds => R (.dat (.tup ds)) s
  | .tup ds => R (.dat (.tup ds)) s
  | _ => False
def tupF : FN := fun ps s R => arg1 s ps fun d => tupG d s R
theorem cbs_tup {K : PySem.W.Frag} : CbS K tupF (fun xs H Q => ∃ p ys, xs = [.ref p] ∧ ((SqL K H p ys ∧ NuT H ys Q) ∨ (SqT K H p ys ∧ Q (.ref p) H))) := CbS.of1 fun A as s σ H x d R Q ok r w k => by
  cases d with
  | lst ds => obtain ⟨a, xs, rfl, h1, h2⟩ := r; exact ⟨_, _, rfl, .inl ⟨.inl (.inl h1), k.nuT ok h2 w⟩⟩
  | scr ds => obtain ⟨a, xs, rfl, h1, h2⟩ := r; exact ⟨_, _, rfl, .inl ⟨h1, k.nuT ok h2 w⟩⟩
  | tup ds => obtain ⟨rt, a, xs, rfl, h1, h2⟩ := r; exact ⟨_, _, rfl, .inr ⟨h1.sq, k.here ok (r := .dat (.tup ds)) rt w⟩⟩
  | _ => exact w.elim
/-- lists of numbers, of truths -/
def isInts : List D → (List Int → Prop) → Prop
  | [], k => k []
  | .int i :: ds, k => isInts ds fun is => k (i :: is)
  | _ :: _, _ => False
def dI (is : List Int) : List D := is.map D.int
def dB (bs : List Bool) : List D := bs.map D.bl
theorem RepL.nums {K : PySem.W.Frag} {F : Hp} : ∀ {is : List Int} {xs : List V}, RepL K F xs (dI is) → xs = is.map V.int
  | [], _, .nil => rfl
  | i :: is, _, .cons r t => by
    cases r
    rw [t.nums]
    rfl
theorem RepL.trus {K : PySem.W.Frag} {F : Hp} : ∀ {is : List Bool} {xs : List V}, RepL K F xs (dB is) → xs = is.map V.bl
  | [], _, .nil => rfl
  | i :: is, _, .cons r t => by
    cases r
    rw [t.trus]
    rfl
def intsG (g : List Int → (Int → Prop) → Prop) (d : D) (s : S) (R : Sl → S → Prop) : Prop := match d with
  | .lst ds => ∃ is, ds = dI is ∧ g is fun i => R (.dat (.int i)) s
  | _ => False
def blsG (g : List Bool → Bool) (d : D) (s : S) (R : Sl → S → Prop) : Prop := match d with
  | .lst ds => ∃ bs, ds = dB bs ∧ R (.dat (.bl (g bs))) s
  | _ => False
def sumF : FN := fun ps s R => arg1 s ps fun d => intsG (fun is k => k is.sum) d s R
def maxF : FN := fun ps s R => arg1 s ps fun d => intsG (fun is k => 0 < is.length ∧ ∀ m, m ∈ is → (∀ y, y ∈ is → y ≤ m) → k m) d s R
def minF : FN := fun ps s R => arg1 s ps fun d => intsG (fun is k => 0 < is.length ∧ ∀ m, m ∈ is → (∀ y, y ∈ is → m ≤ y) → k m) d s R
def anyF : FN := fun ps s R => arg1 s ps fun d => blsG (fun bs => bs.any id) d s R
def allF : FN := fun ps s R => arg1 s ps fun d => blsG (fun bs => bs.all id) d s R
section
variable {K : PySem.W.Frag}
theorem cbs_sum : CbS K sumF (rSum K) := CbS.of1 fun A as s σ H x d R Q ok r w k => by
  cases d with
  | lst ds =>
    obtain ⟨is, rfl, w⟩ := w
    obtain ⟨a, xs, rfl, h1, h2⟩ := r
    cases h2.nums
    exact ⟨a, is, rfl, .inl (.inl h1), k.here ok (r := .dat (.int _)) .int w⟩
  | _ => exact w.elim
theorem cbs_max : CbS K maxF (rMax K) := CbS.of1 fun A as s σ H x d R Q ok r w k => by
  cases d with
  | lst ds =>
    obtain ⟨is, rfl, w1, w2⟩ := w
    obtain ⟨a, xs, rfl, h1, h2⟩ := r
    cases h2.nums
    exact ⟨a, is, rfl, .inl (.inl h1), w1, fun m z1 z2 => k.here ok (r := .dat (.int _)) .int (w2 m z1 z2)⟩
  | _ => exact w.elim
theorem cbs_min : CbS K minF (rMin K) := CbS.of1 fun A as s σ H x d R Q ok r w k => by
  cases d with
  | lst ds =>
    obtain ⟨is, rfl, w1, w2⟩ := w
    obtain ⟨a, xs, rfl, h1, h2⟩ := r
    cases h2.nums
    exact ⟨a, is, rfl, .inl (.inl h1), w1, fun m z1 z2 => k.here ok (r := .dat (.int _)) .int (w2 m z1 z2)⟩
  | _ => exact w.elim
theorem cbs_any : CbS K anyF (rAny K) := CbS.of1 fun A as s σ H x d R Q ok r w k => by
  cases d with
  | lst ds =>
    obtain ⟨is, rfl, w⟩ := w
    obtain ⟨a, xs, rfl, h1, h2⟩ := r
    cases h2.trus
    exact ⟨a, is, rfl, .inl (.inl h1), k.here ok (r := .dat (.bl _)) .bl w⟩
  | _ => exact w.elim
theorem cbs_all : CbS K allF (rAll K) := CbS.of1 fun A as s σ H x d R Q ok r w k => by
  cases d with
  | lst ds =>
    obtain ⟨is, rfl, w⟩ := w
    obtain ⟨a, xs, rfl, h1, h2⟩ := r
    cases h2.trus
    exact ⟨a, is, rfl, .inl (.inl h1), k.here ok (r := .dat (.bl _)) .bl w⟩
  | _ => exact w.elim
end
end Gd
namespace Gd
open PySem PySem.Spec PyProof.Rows L2
/-! ### stores -/
def put {α : Type} : List (Option α) → Nat → α → List (Option α)
  | [], _, _ => []
  | _ :: t, 0, x => some x :: t
  | y :: t, i + 1, x => y :: put t i x
theorem put_eq {α : Type} : ∀ (l : List (Option α)) (i : Nat) (x : α), put l i x = l.set i (some x)
  | [], _, _ => rfl
  | _ :: _, 0, _ => rfl
  | y :: t, i + 1, x => congrArg (y :: ·) (put_eq t i x)
abbrev WG := Sl → S → (S → Prop) → Prop
/-- a target, told by the slots that it may change -/
def upG (K : PySem.W.Frag) (js : List Nat) (g : WG) : TG := fun v σ H Q => ∃ A as s r R, Ok K A as s σ H ∧ RepS K (vw A as s.μ H) as v r ∧ g r s R ∧
  ∀ σ' H' s' as', as <+: as' → wipe σ' js = wipe σ js → Ok K A as' s' σ' H' → R s' → Q σ' H'
theorem pg_imp {X : Cx} {e : Expr} {t t' : TG} (h : PG X e t) (i : ∀ v σ H Q, t' v σ H Q → t v σ H Q) : PG X e t' := ⟨fun pins s σ H v u Q I r w => h.run pins s σ H v u Q I r (i v σ H Q w)⟩
section
variable {K : PySem.W.Frag} {A : Amb} {as as' : List Addr} {s s' : S} {σ : L2.St} {H H' : Hp} {v : V} {r : Sl} {d : D}
theorem set_len {i : Nat} {x : Option V} : (σ.set i x).length = σ.length := List.length_set ..
theorem wipe_set {x : Option V} : ∀ {js : List Nat} {i : Nat}, i ∈ js → wipe (σ.set i x) js = wipe σ js
  | j :: js, i, h => by
    unfold wipe
    by_cases e : i = j
    · subst e
      by_cases hi : i ∈ js
      · rw [wipe_set hi]
      · have : wipe (σ.set i x) js = (wipe σ js).set i x := wipe_out hi
        rw [this, List.set_set]
    · rw [wipe_set ((List.mem_cons.mp h).resolve_left e)]
  where wipe_out : ∀ {js : List Nat} {i : Nat}, i ∉ js → wipe (σ.set i x) js = (wipe σ js).set i x
    | [], _, _ => rfl
    | j :: js, i, h => by
      unfold wipe
      rw [wipe_out fun z => h (List.mem_cons_of_mem _ z)]
      exact List.set_comm _ _ (fun e => h (e ▸ List.mem_cons_self ..))
/-- a name holds it -/
theorem Ok.named (ok : Ok K A as s σ H) (h : RepS K (vw A as s.μ H) as v r) (i : Nat) : Ok K A as ⟨put s.Γ i r, s.μ⟩ (σ.set i (some v)) H := by
  refine ⟨ok.len, ok.nd, ok.dj, ok.tr, ok.m0, ok.pin, fun j q hq => ?_, ok.mem, ?_, ok.own, ok.he⟩
  · have hq : (put s.Γ i r)[j]? = some (some q) := hq
    rw [put_eq] at hq
    by_cases e : i = j
    · subst e
      by_cases hi : i < s.Γ.length
      · rw [List.getElem?_set_self hi] at hq
        have e2 : r = q := Option.some.inj (Option.some.inj hq)
        subst e2
        exact ⟨v, by rw [List.getElem?_set_self (by rw [← ok.ln]; exact hi)], h⟩
      · rw [List.getElem?_eq_none (by rw [List.length_set]; omega)] at hq
        cases hq
    · rw [List.getElem?_set_ne e] at hq
      obtain ⟨u, h1, h2⟩ := ok.env j q hq
      exact ⟨u, by rw [List.getElem?_set_ne e]; exact h1, h2⟩
  · show (put s.Γ i r).length = (σ.set i (some v)).length
    rw [put_eq, List.length_set, List.length_set]
    exact ok.ln
end
def wgN (i : Nat) : WG := fun r s R => R ⟨put s.Γ i r, s.μ⟩
theorem g_name {X : Cx} {x : Str} {pos : Pos} (i : Nat) (hN : X.N.Nodup) (hi : X.N[i]? = some x := by rfl) (hx : Loc X.env.scope x := by first | exact Or.inl rfl | exact Or.inr rfl) (hf : X.fn x = true ∨ X.env.scope.names.lookup x = some .local := by first | exact .inl rfl | exact .inr rfl | assumption) :
    PG X (.Name x pos) (upG X.K [i] (wgN i)) := pg_imp (pg_name hN hi hx hf) fun v σ H Q ⟨A, as, s, r, R, ok, hr, w, k⟩ =>
  k _ H ⟨put s.Γ i r, s.μ⟩ as (List.prefix_refl _) (wipe_set (List.mem_singleton.mpr rfl)) (ok.named hr i) w
/-- several names at once, of a tuple -/
def puts : List Nat → List D → List (Option Sl) → (List (Option Sl) → Prop) → Prop
  | [], [], Γ, k => k Γ
  | i :: is, d :: ds, Γ, k => puts is ds (put Γ i (.dat d)) k
  | _, _, _, _ => False
def upGs (K : PySem.W.Frag) (js is : List Nat) : TGs := fun vs σ H Q => ∃ (A : Amb) (as : List Addr) (s : S) (ds : List D) (R : S → Prop), Ok K A as s σ H ∧ RepL K (vw A as s.μ H) vs ds ∧ puts is ds s.Γ (fun Γ => R ⟨Γ, s.μ⟩) ∧ (∀ i ∈ is, i ∈ js) ∧
  ∀ σ' H' s' as', as <+: as' → wipe σ' js = wipe σ js → Ok K A as' s' σ' H' → R s' → Q σ' H'
theorem gs_nil {X : Cx} {js : List Nat} : PGs X [] (upGs X.K js []) := ⟨fun pins s σ H vs us Q I r ⟨A, as, st, ds, R, ok, hr, w, _, k⟩ => pgs_nil.run pins s σ H vs us Q I r (by
  cases ds with
  | nil =>
    cases hr
    exact ⟨rfl, k σ H st as (List.prefix_refl _) rfl ok w⟩
  | cons d ds => exact w.elim)⟩
theorem gs_cons {X : Cx} {x : Str} {pos : Pos} {es : List Expr} {js is : List Nat} (i : Nat) (hN : X.N.Nodup) (hr : PGs X es (upGs X.K js is)) (hi : X.N[i]? = some x := by rfl) (hx : Loc X.env.scope x := by first | exact Or.inl rfl | exact Or.inr rfl)
    (hf : X.fn x = true ∨ X.env.scope.names.lookup x = some .local := by first | exact .inl rfl | exact .inr rfl | assumption) : PGs X (.Name x pos :: es) (upGs X.K js (i :: is)) := by
  refine ⟨fun pins s σ H vs us Q I r ⟨A, as, st, ds, R, ok, hv, w, hj, k⟩ => (pgs_cons (pg_name hN hi hx hf) hr).run pins s σ H vs us Q I r ?_⟩
  cases ds with
  | nil => exact w.elim
  | cons d ds =>
    cases hv with
    | cons h1 h2 =>
      refine ⟨_, _, rfl, ?_⟩
      exact ⟨A, as, ⟨put st.Γ i (.dat d), st.μ⟩, ds, R, ok.named (r := .dat d) h1 i, h2, w, fun j z => hj j (List.mem_cons_of_mem _ z), fun σ' H' s' as' p e ok' q => k σ' H' s' as' p (e.trans (wipe_set (hj i (List.mem_cons_self ..)))) ok' q⟩
def wgT (is : List Nat) : WG := fun r s R => one s r fun d => match d with
  | .tup ds => puts is ds s.Γ fun Γ => R ⟨Γ, s.μ⟩
  | .par ds => puts is ds s.Γ fun Γ => R ⟨Γ, s.μ⟩
  | _ => False
theorem puts_len : ∀ {is : List Nat} {ds : List D} {Γ : List (Option Sl)} {k : List (Option Sl) → Prop}, puts is ds Γ k → ds.length = is.length
  | [], [], _, _, _ => rfl
  | _ :: _, _ :: _, _, _, h => congrArg Nat.succ (puts_len h)
  | [], _ :: _, _, _, h => h.elim
  | _ :: _, [], _, _, h => h.elim
theorem g_tup {X : Cx} {es : List Expr} {k : Nat} {pos : Pos} {is : List Nat} (hc : X.calm = true) (h : PGs X es (upGs X.K is is)) (hn : (assignEach es X.env).length = is.length := by rfl) (hst : (assignEach es X.env).findIdx? (·.1) = none := by rfl) :
    PG X (.Tuple es k pos) (upG X.K is (wgT is)) := pg_imp (pg_tup hc h hn hst) fun v σ H Q ⟨A, as, s, r, R, ok, hr, w, kk⟩ => by
  obtain ⟨d, e, w⟩ := optK_of w
  have rd := ok.rdc hr e
  cases d with
  | tup ds =>
    obtain ⟨_, a, xs, rfl, h1, h2⟩ := rd
    exact ⟨a, xs, rfl, h1.sq, by rw [h2.len]; exact puts_len w, A, as, s, ds, R, ok, h2, w, fun _ z => z, kk⟩
  | par ds =>
    obtain ⟨_, a, xs, rfl, h1, h2⟩ := rd
    exact ⟨a, xs, rfl, h1, by rw [h2.len]; exact puts_len w, A, as, s, ds, R, ok, h2, w, fun _ z => z, kk⟩
  | _ => exact w.elim
/-- o[i] = .. of a list -/
def setG (p q : Sl) (d : D) (s : S) (R : S → Prop) : Prop := match p, q with
  | .cel j, .dat (.int i) => optK (nth s.μ j) fun o => match o with
    | .lst ds => optK (ixN ds.length i) fun n => R { s with μ := put s.μ j (.lst (ds.set n d)) }
    | _ => False
  | _, _ => False
def wgS (wo wi : WE) : WG := fun r s R => match r with
  | .dat d => wo s fun p s1 => wi s1 fun q s2 => setG p q d s2 R
  | _ => False
theorem g_sub {X : Cx} {o i : Expr} {wo wi : WE} {pos : Pos} (ho : PE X o (up X.K wo)) (hi : PE X i (up X.K wi))
    (ha : ∀ v, assign (.Subscript o i pos) X.env v = (do
      let ov ← holding [v] (eval o X.env)
      let iv ← holding [v, ov] (eval i X.env)
      standAt pos
      holding [v, ov, iv] (setItem ov iv v)
      release [v, ov, iv] []) := by intro _; rfl) : PG X (.Subscript o i pos) (upG X.K [] (wgS wo wi)) := pg_imp (pg_sub ho hi set_list ha) fun v σ H Q ⟨A, as, s, r, R, ok, hr, w, k⟩ => by
  cases r with
  | cel j => exact w.elim
  | val u => exact w.elim
  | dat d =>
    refine ⟨A, as, s, _, ok, w, fun v1 H1 p s1 as1 st1 ok1 r1 w1 => ⟨A, as1, s1, _, ok1, w1, fun v2 H2 q s2 as2 st2 ok2 r2 w2 => ?_⟩⟩
    cases p with
    | dat _ => exact w2.elim
    | val _ => exact w2.elim
    | cel j =>
      cases q with
      | cel _ => exact w2.elim
      | val _ => exact w2.elim
      | dat e =>
        cases e with
        | int n =>
          obtain ⟨o, e1, w3⟩ := optK_of w2
          cases o with
          | lst ds =>
            obtain ⟨m, e2, w4⟩ := optK_of w3
            obtain ⟨a, h1, rfl⟩ := r1.mono st2.le st2.pre
            cases r2
            have hj := nth_eq _ _ e1
            obtain ⟨xs, h3, h4⟩ := ok2.mem j a _ h1 hj
            refine ⟨a, xs, n, m, rfl, rfl, h3, by rw [h4.len]; exact e2, ?_⟩
            have hd : Rep X.K (vw A as2 s2.μ H2) v d := Rep.mono (st1.trans st2).le d hr
            obtain ⟨st3, ok3⟩ := ok2.write (o' := .lst (ds.set m d)) h1 hj (u := .lst (xs.set m v)) ⟨_, upd_same, h4.set hd m⟩
            rw [← put_eq] at st3 ok3
            exact k σ _ _ as2 (st1.trans st2).pre rfl ok3 w4
          | _ => exact w3.elim
        | _ => exact w2.elim
end Gd
namespace Gd
open PySem PySem.Spec PyProof.Rows L2
section
variable {X : Cx} {st : Stmt} {sts body : List Stmt} {e c tg it : Expr} {a b : List Stmt} {we : WE} {wt : WT} {w w1 w2 wb : WS} {pos : Pos} {g : WG} {js : List Nat}
/-! ### statements -/
def wNx : WS := fun D s => D.nx s
def wSeq (w1 w2 : WS) : WS := fun D s => w1 { D with nx := fun s1 => w2 D s1 } s
theorem s_nil : PSs X [] (upS X.K wNx) := pss_imp pss_nil fun D σ H ⟨A, as, s, d, ok, w, cn, cr, cb, cc⟩ => cn σ H s as (List.prefix_refl _) ok w
theorem s_one (h : PS X st (upS X.K w)) : PSs X [st] (upS X.K w) := pss_one h
theorem s_cons (h : PS X st (upS X.K w1)) (h2 : PSs X sts (upS X.K w2)) : PSs X (st :: sts) (upS X.K (wSeq w1 w2)) := pss_imp (pss_cons h h2) fun D σ H ⟨A, as, s, d, ok, w, cn, cr, cb, cc⟩ =>
  ⟨A, as, s, { d with nx := fun s1 => w2 d s1 }, ok, w, fun σ1 H1 s1 as1 p1 ok1 w1 => ⟨A, as1, s1, d, ok1, w1, fun σ2 H2 s2 as2 p2 => cn σ2 H2 s2 as2 (p1.trans p2), fun v σ2 H2 r s2 as2 p2 => cr v σ2 H2 r s2 as2 (p1.trans p2),
    fun σ2 H2 s2 as2 p2 => cb σ2 H2 s2 as2 (p1.trans p2), fun σ2 H2 s2 as2 p2 => cc σ2 H2 s2 as2 (p1.trans p2)⟩, cr, cb, cc⟩
theorem s_pass : PS X (.Pass pos) (upS X.K wNx) := ps_imp ps_pass fun D σ H ⟨A, as, s, d, ok, w, cn, cr, cb, cc⟩ => cn σ H s as (List.prefix_refl _) ok w
def wBk : WS := fun D s => D.bk s
def wCt : WS := fun D s => D.ct s
theorem s_break : PS X (.Break pos) (upS X.K wBk) := ps_imp ps_break fun D σ H ⟨A, as, s, d, ok, w, cn, cr, cb, cc⟩ => cb σ H s as (List.prefix_refl _) ok w
theorem s_continue : PS X (.Continue pos) (upS X.K wCt) := ps_imp ps_continue fun D σ H ⟨A, as, s, d, ok, w, cn, cr, cb, cc⟩ => cc σ H s as (List.prefix_refl _) ok w
def wRet (we : WE) : WS := fun D s => we s fun r s1 => D.rt r s1
theorem s_ret (h : PE X e (up X.K we)) : PS X (.Return (some e) pos) (upS X.K (wRet we)) := ps_imp (ps_ret h) fun D σ H ⟨A, as, s, d, ok, w, cn, cr, cb, cc⟩ =>
  ⟨A, as, s, _, ok, w, fun v1 H1 r s1 as1 st1 ok1 r1 w1 => cr v1 σ H1 r s1 as1 st1.pre ok1 r1 w1⟩
def wRetN : WS := fun D s => D.rt (.dat .non) s
theorem s_retN : PS X (.Return none pos) (upS X.K wRetN) := ps_imp ps_retN fun D σ H ⟨A, as, s, d, ok, w, cn, cr, cb, cc⟩ => cr .non σ H (.dat .non) s as (List.prefix_refl _) ok .non w
def wDrop (we : WE) : WS := fun D s => we s fun _ s1 => D.nx s1
theorem s_expr (h : PE X e (up X.K we)) (hs : swapsWith e none pos.line X.env = pure false := by rfl) : PS X (.Expr e pos) (upS X.K (wDrop we)) := ps_imp (ps_expr h hs) fun D σ H ⟨A, as, s, d, ok, w, cn, cr, cb, cc⟩ =>
  ⟨A, as, s, _, ok, w, fun v1 H1 r s1 as1 st1 ok1 r1 w1 => cn σ H1 s1 as1 st1.pre ok1 w1⟩
theorem s_doc {x j pos'} : PS X (.Expr (.Constant (.str x) j pos) pos') (upS X.K wNx) := ps_imp ps_doc fun D σ H ⟨A, as, s, d, ok, w, cn, cr, cb, cc⟩ => cn σ H s as (List.prefix_refl _) ok w
def wIfS (wt : WT) (w1 w2 : WS) : WS := fun D s => wt s fun k s1 => if k = true then w1 D s1 else w2 D s1
theorem s_if (hc : PT X c (upT X.K wt)) (ha : PSs X a (upS X.K w1)) (hb : PSs X b (upS X.K w2)) : PS X (.If c a b pos) (upS X.K (wIfS wt w1 w2)) := ps_imp (ps_if hc ha hb) fun D σ H ⟨A, as, s, d, ok, w, cn, cr, cb, cc⟩ =>
  ⟨A, as, s, _, ok, w, fun k H1 s1 as1 st1 ok1 z => by
    cases k with
    | true =>
      rw [if_pos rfl] at z ⊢
      exact ⟨A, as1, s1, d, ok1, z, fun σ2 H2 s2 as2 p2 => cn σ2 H2 s2 as2 (st1.pre.trans p2), fun v σ2 H2 r s2 as2 p2 => cr v σ2 H2 r s2 as2 (st1.pre.trans p2),
        fun σ2 H2 s2 as2 p2 => cb σ2 H2 s2 as2 (st1.pre.trans p2), fun σ2 H2 s2 as2 p2 => cc σ2 H2 s2 as2 (st1.pre.trans p2)⟩
    | false =>
      rw [if_neg Bool.false_ne_true] at z ⊢
      exact ⟨A, as1, s1, d, ok1, z, fun σ2 H2 s2 as2 p2 => cn σ2 H2 s2 as2 (st1.pre.trans p2), fun v σ2 H2 r s2 as2 p2 => cr v σ2 H2 r s2 as2 (st1.pre.trans p2),
        fun σ2 H2 s2 as2 p2 => cb σ2 H2 s2 as2 (st1.pre.trans p2), fun σ2 H2 s2 as2 p2 => cc σ2 H2 s2 as2 (st1.pre.trans p2)⟩⟩
/-- tg = e -/
def wAsg (we : WE) (g : WG) : WS := fun D s => we s fun r s1 => g r s1 D.nx
theorem up_asg : ∀ D σ H, upS X.K (wAsg we g) D σ H → tAsg (up X.K we) (upG X.K js g) D σ H := fun D σ H ⟨A, as, s, d, ok, w, cn, cr, cb, cc⟩ =>
  ⟨A, as, s, _, ok, w, fun v1 H1 r s1 as1 st1 ok1 r1 w1 => ⟨A, as1, s1, r, d.nx, ok1, r1, w1, fun σ2 H2 s2 as2 p2 _ ok2 w2 => cn σ2 H2 s2 as2 (st1.pre.trans p2) ok2 w2⟩⟩
theorem s_asg (he : PE X e (up X.K we)) (hg : PG X tg (upG X.K js g)) (hs : swapsWithSole [tg] e pos.line X.env = pure false := by rfl) (hw : swappedStores [tg] e X.env = pure none := by rfl)
    (h1 : (assignEach [tg] X.env).map (·.2) = [assign tg X.env] := by rfl) : PS X (.Assign [tg] e pos) (upS X.K (wAsg we g)) := ps_imp (ps_asg he hg hs hw h1) up_asg
/-- x = e -/
theorem s_set {x : Str} {pos' : Pos} (i : Nat) (hN : X.N.Nodup) (he : PE X e (up X.K we)) (hi : X.N[i]? = some x := by rfl) (hx : Loc X.env.scope x := by first | exact Or.inl rfl | exact Or.inr rfl) (hs : swapsWith e (some (.Name x pos')) pos.line X.env = pure false := by rfl)
    (hf : X.fn x = true ∨ X.env.scope.names.lookup x = some .local := by first | exact .inl rfl | exact .inr rfl | assumption) : PS X (.Assign [.Name x pos'] e pos) (upS X.K (wAsg we (wgN i))) :=
  ps_imp (ps_set hN hi hx he hs hf) fun D σ H ⟨A, as, s, d, ok, w, cn, cr, cb, cc⟩ =>
    ⟨A, as, s, _, ok, w, fun v1 H1 r s1 as1 st1 ok1 r1 w1 => cn _ H1 _ as1 st1.pre (ok1.named r1 i) w1⟩
/-- x, y = a, b: two names, no tuple -/
def wPar (i j : Nat) (wa : WA) : WS := fun D s => wa s fun ps s1 => match ps with
  | [p, q] => D.nx ⟨put (put s1.Γ i p) j q, s1.μ⟩
  | _ => False
theorem s_par {i j : Nat} {x y : Str} {a b : Expr} {wa : WA} {px py pt : Pos} {kt k2 pt2} (hc : X.calm = true) (hN : X.N.Nodup) (hi : X.N[i]? = some x) (hj : X.N[j]? = some y) (hij : i ≠ j)
    (hx : X.env.scope.names.lookup x = some .local) (hy : X.env.scope.names.lookup y = some .local) (ha : PA X [a, b] (upA X.K wa))
    (hw : swappedStores [.Tuple [.Name x px, .Name y py] kt pt] (.Tuple [a, b] k2 pt2) X.env = pure (some [x, y]) := by rfl)
    (hs : swapsWithSole [.Tuple [.Name x px, .Name y py] kt pt] (.Tuple [a, b] k2 pt2) pos.line X.env = pure false := by rfl) :
    PS X (.Assign [.Tuple [.Name x px, .Name y py] kt pt] (.Tuple [a, b] k2 pt2) pos) (upS X.K (wPar i j wa)) := ps_imp (ps_par hc hN hi hj hij hx hy ha hw hs) fun D σ H ⟨A, as, s, d, ok, w, cn, cr, cb, cc⟩ =>
  ⟨A, as, s, _, ok, w, fun vs H1 ps s1 as1 st1 ok1 r1 w1 => by
    match ps, vs, r1 with
    | [p, q], [v, u], r1 => exact ⟨v, u, rfl, cn _ H1 _ as1 st1.pre ((ok1.named r1.1 i).named (s := ⟨put s1.Γ i p, s1.μ⟩) r1.2.1 j) w1⟩
    | [], _, _ => exact w1.elim
    | [_], _, _ => exact w1.elim
    | _ :: _ :: _ :: _, _, _ => exact w1.elim⟩
/-- x op= e, of numbers -/
def wAug (f : Int → Int → Int) (i : Nat) (we : WE) : WS := fun D s => optK (nth s.Γ i) fun p => match p with
  | .dat (.int m) => we s fun q s1 => match q with
    | .dat (.int n) => D.nx ⟨put s1.Γ i (.dat (.int (f m n))), s1.μ⟩
    | _ => False
  | _ => False
theorem s_aug {x : Str} {op : Operator} {f : Int → Int → Int} {pos' : Pos} (i : Nat) (hN : X.N.Nodup) (ho : PIp X op (ipI f)) (he : PE X e (up X.K we)) (hi : X.N[i]? = some x := by rfl) (hx : Loc X.env.scope x := by first | exact Or.inl rfl | exact Or.inr rfl)
    (hf : X.fn x = true ∨ X.env.scope.names.lookup x = some .local := by first | exact .inl rfl | exact .inr rfl | assumption) : PS X (.AugAssign (.Name x pos') op e pos) (upS X.K (wAug f i we)) :=
  ps_imp (ps_aug hN hi hx he ho hf) fun D σ H ⟨A, as, s, d, ok, w, cn, cr, cb, cc⟩ => by
    obtain ⟨p, e1, w⟩ := optK_of w
    obtain ⟨v, h1, h2⟩ := ok.env i p (nth_eq _ _ e1)
    cases p with
    | cel _ => exact w.elim
    | val _ => exact w.elim
    | dat d1 =>
      cases d1 with
      | int m =>
        cases h2
        refine ⟨_, h1, A, as, s, _, ok, w, fun v1 H1 q s1 as1 st1 ok1 r1 w1 => ?_⟩
        cases q with
        | cel _ => exact w1.elim
        | val _ => exact w1.elim
        | dat d2 =>
          cases d2 with
          | int n =>
            cases r1
            exact ⟨_, _, rfl, rfl, cn _ H1 _ as1 st1.pre (ok1.named (r := .dat (.int _)) .int i) w1⟩
          | _ => exact w1.elim
      | _ => exact w.elim

/-! ### loops -/
/-- what is walked: the items, told from F on -/
structure Wk (K : PySem.W.Frag) (J : It) (ds : List D) (F : Hp) : Prop where
  go : ∀ i H, i < ds.length → Le F H → J.go i H
  stop : ∀ H, Le F H → J.stop ds.length H
  yld : ∀ i H x H', i < ds.length → Le F H → J.yld i H x H' → ∃ d, ds[i]? = some d ∧ ((H' = H ∧ Rep K F x d) ∨ ∃ T u, H T = none ∧ H' = upd H T u ∧ ∀ F', Le F F' → F' T = some u → Rep K F' x d)
abbrev WI := S → (List D → S → Prop) → Prop
def upI (K : PySem.W.Frag) (w : WI) : TI := fun σ H Rr => ∃ A as s R, Ok K A as s σ H ∧ w s R ∧
  ∀ J ds H' s' as', Stp A as s.μ H as' s'.μ H' → Ok K A as' s' σ H' → Wk K J ds (vw A as' s'.μ H') → R ds s' → Rr J H'
theorem pi_imp {wi wi' : TI} (h : PI X tg it wi) (i : ∀ σ H R, wi' σ H R → wi σ H R) : PI X tg it wi' := ⟨fun pins s σ H R I w => h.run pins s σ H R I (i σ H R w)⟩
def forW (g : WG) (wb : WS) : List D → Dn → S → Prop
  | [], d, s => d.nx s
  | x :: xs, d, s => g (.dat x) s fun s1 => wb { d with nx := fun s2 => forW g wb xs d s2, ct := fun s2 => forW g wb xs d s2, bk := d.nx } s1
def wFor (wi : WI) (g : WG) (wb : WS) : WS := fun d s => wi s fun ds s1 => forW g wb ds d s1
/-- the state as one that also keeps what is to be read now -/
def Amb.pinned (A : Amb) (F : Hp) : Amb := { A with pin := F }
theorem Ok.pinned {K : PySem.W.Frag} {A : Amb} {as : List Addr} {s : S} {σ : L2.St} {H : Hp} (ok : Ok K A as s σ H) : Ok K (A.pinned (vw A as s.μ H)) as s σ H :=
  ⟨ok.len, ok.nd, ok.dj, ok.tr, ok.m0, Le.refl _, ok.env, ok.mem, ok.ln, ok.own, ok.he⟩
theorem Ok.unpin {K : PySem.W.Frag} {A : Amb} {F : Hp} {as : List Addr} {s : S} {σ : L2.St} {H : Hp} (h : Le A.pin F) (ok : Ok K (A.pinned F) as s σ H) : Ok K A as s σ H :=
  ⟨ok.len, ok.nd, ok.dj, ok.tr, ok.m0, h.trans ok.pin, ok.env, ok.mem, ok.ln, ok.own, ok.he⟩
theorem drop_at {ds : List D} {i : Nat} {d : D} (h : ds[i]? = some d) : ds.drop i = d :: ds.drop (i + 1) := by
  obtain ⟨h1, h2⟩ := List.getElem?_eq_some_iff.mp h
  rw [List.drop_eq_getElem_cons h1, h2]
/-- behind an item: the heap may have one thing more -/
theorem Wk.item {K : PySem.W.Frag} {J : It} {ds : List D} {F : Hp} {A : Amb} {as : List Addr} {s : S} {σ : L2.St} {H H' : Hp} {i : Nat} {x : V} (wk : Wk K J ds F) (ok : Ok K A as s σ H) (hF : Le F (vw A as s.μ H)) (hi : i < ds.length) (y : J.yld i H x H') :
    ∃ d, ds[i]? = some d ∧ Ok K A as s σ H' ∧ Stp A as s.μ H as s.μ H' ∧ RepS K (vw A as s.μ H') as x (.dat d) := by
  obtain ⟨d, e, h⟩ := wk.yld i H x H' hi (hF.trans vw_le) y
  rcases h with ⟨rfl, r⟩ | ⟨T, u, hT, rfl, r⟩
  · exact ⟨d, e, ok, Stp.refl, Rep.mono hF d r⟩
  · obtain ⟨st, ok', eT⟩ := ok.new hT u
    exact ⟨d, e, ok', st, r _ (hF.trans st.le) eT⟩
theorem s_for {wi : WI} (hp : PassesOwn (model X.prog X.w) X.A X.env X.xe) (hc : X.calm = true) (hi : PI X tg it (upI X.K wi)) (hg : PG X tg (upG X.K js g)) (hb : PSs X body (upS X.K wb)) (hs : ∀ x, foldedSetIterable it X.env x = pure x := by intro _; rfl) :
    PS X (.For tg it body [] pos) (upS X.K (wFor wi g wb)) := ps_imp (ps_for hp hc hi hg hb hs) fun D σ H ⟨A, as, s, d, ok, w, cn, cr, cb, cc⟩ => by
  refine ⟨A, as, s, _, ok, w, fun J ds H1 s1 as1 st1 ok1 wk w1 => ?_⟩
  have hpin : Le A.pin (vw A as1 s1.μ H1) := ok1.pin
  refine ⟨fun i m σ' H' => m = ds.length - i ∧ i ≤ ds.length ∧ ∃ as' s', as1 <+: as' ∧ Ok X.K (A.pinned (vw A as1 s1.μ H1)) as' s' σ' H' ∧ forW g wb (ds.drop i) d s', ⟨ds.length, by simp, Nat.zero_le _, as1, s1, List.prefix_refl _, ok1.pinned, w1⟩, ?_⟩
  rintro i m σ2 H2 ⟨rfl, hi, as2, s2, p2, ok2, w2⟩
  have hF : Le (vw A as1 s1.μ H1) (vw A as2 s2.μ H2) := ok2.pin
  by_cases hlt : i < ds.length
  · refine .inr ⟨wk.go i H2 hlt (hF.trans vw_le), fun σ' H' => ∃ as' s', as1 <+: as' ∧ Ok X.K (A.pinned (vw A as1 s1.μ H1)) as' s' σ' H' ∧ forW g wb (ds.drop (i + 1)) d s', fun σ' H' h => ⟨ds.length - (i + 1), by omega, rfl, hlt, h⟩, fun x H3 y => ?_⟩
    obtain ⟨x', e, ok3, st3, r3⟩ := wk.item ok2 hF hlt y
    rw [drop_at e] at w2
    refine ⟨_, as2, s2, .dat x', _, ok3, r3, w2, fun σ4 H4 s4 as4 p4 _ ok4 w4 => ⟨_, as4, s4, _, ok4, w4, ?_, ?_, ?_, ?_⟩⟩
    · exact fun σ5 H5 s5 as5 p5 ok5 w5 => ⟨as5, s5, (p2.trans p4).trans p5, ok5, w5⟩
    · exact fun v σ5 H5 r s5 as5 p5 ok5 r5 w5 => cr v σ5 H5 r s5 as5 (((st1.pre.trans p2).trans p4).trans p5) (ok5.unpin hpin) r5 w5
    · exact fun σ5 H5 s5 as5 p5 ok5 w5 => cn σ5 H5 s5 as5 (((st1.pre.trans p2).trans p4).trans p5) (ok5.unpin hpin) w5
    · exact fun σ5 H5 s5 as5 p5 ok5 w5 => ⟨as5, s5, (p2.trans p4).trans p5, ok5, w5⟩
  · have e : i = ds.length := by omega
    subst e
    rw [List.drop_length] at w2
    exact .inl ⟨wk.stop H2 (hF.trans vw_le), cn σ2 H2 s2 as2 (st1.pre.trans p2) (ok2.unpin hpin) w2⟩
def wWhile (wt : WT) (wb : WS) : WS := fun d s => ∃ (W : Nat → S → Prop) (m : Nat), W m s ∧ ∀ m s, W m s → wt s fun b s1 =>
  if b = true then wb { d with nx := fun s2 => ∃ m', m' < m ∧ W m' s2, ct := fun s2 => ∃ m', m' < m ∧ W m' s2, bk := d.nx } s1 else d.nx s1
theorem s_while (hp : PassesOwn (model X.prog X.w) X.A X.env X.xe) (hc : PT X c (upT X.K wt)) (hb : PSs X body (upS X.K wb)) : PS X (.While c body [] pos) (upS X.K (wWhile wt wb)) := ps_imp (ps_while hp hc hb) fun D σ H ⟨A, as, s, d, ok, w, cn, cr, cb, cc⟩ => by
  obtain ⟨W, m0, w0, turn⟩ := w
  refine ⟨fun m σ' H' => ∃ as' s', as <+: as' ∧ Ok X.K A as' s' σ' H' ∧ W m s', ⟨m0, as, s, List.prefix_refl _, ok, w0⟩, ?_⟩
  rintro m σ1 H1 ⟨as1, s1, p1, ok1, w1⟩
  refine ⟨A, as1, s1, _, ok1, turn m s1 w1, fun k H2 s2 as2 st2 ok2 w2 => ?_⟩
  cases k with
  | false =>
    rw [if_neg Bool.false_ne_true] at w2 ⊢
    exact cn σ1 H2 s2 as2 (p1.trans st2.pre) ok2 w2
  | true =>
    rw [if_pos rfl] at w2 ⊢
    refine ⟨fun σ' H' => ∃ m' as' s', m' < m ∧ as <+: as' ∧ Ok X.K A as' s' σ' H' ∧ W m' s', fun σ' H' ⟨m', as', s', h1, h2⟩ => ⟨m', h1, as', s', h2⟩, A, as2, s2, _, ok2, w2, ?_, ?_, ?_, ?_⟩
    · exact fun σ5 H5 s5 as5 p5 ok5 ⟨m', h1, h2⟩ => ⟨m', as5, s5, h1, (p1.trans st2.pre).trans p5, ok5, h2⟩
    · exact fun v σ5 H5 r s5 as5 p5 ok5 r5 w5 => cr v σ5 H5 r s5 as5 ((p1.trans st2.pre).trans p5) ok5 r5 w5
    · exact fun σ5 H5 s5 as5 p5 ok5 w5 => cn σ5 H5 s5 as5 ((p1.trans st2.pre).trans p5) ok5 w5
    · exact fun σ5 H5 s5 as5 p5 ok5 ⟨m', h1, h2⟩ => ⟨m', as5, s5, h1, (p1.trans st2.pre).trans p5, ok5, h2⟩
end

/-! ### comprehensions -/
def wip (Γ : List (Option Sl)) : List Nat → List (Option Sl)
  | [] => Γ
  | v :: vs => (wip Γ vs).set v none
theorem wip_len (Γ : List (Option Sl)) : ∀ vs : List Nat, (wip Γ vs).length = Γ.length
  | [] => rfl
  | v :: vs => by
    unfold wip
    rw [List.length_set, wip_len Γ vs]
theorem wip_get {Γ : List (Option Sl)} {i : Nat} {r : Sl} : ∀ {vs : List Nat}, (wip Γ vs)[i]? = some (some r) → Γ[i]? = some (some r) ∧ i ∉ vs
  | [], h => ⟨h, by simp⟩
  | v :: vs, h => by
    unfold wip at h
    by_cases e : v = i
    · subst e
      by_cases hi : v < (wip Γ vs).length
      · rw [List.getElem?_set_self hi] at h
        cases h
      · rw [List.getElem?_eq_none (by rw [List.length_set]; omega)] at h
        cases h
    · rw [List.getElem?_set_ne e] at h
      obtain ⟨h1, h2⟩ := wip_get h
      exact ⟨h1, fun z => (List.mem_cons.mp z).elim (fun q => e q.symm) h2⟩
theorem wipe_get {σ : L2.St} {i : Nat} : ∀ {vs : List Nat}, i ∉ vs → (wipe σ vs)[i]? = σ[i]?
  | [], _ => rfl
  | v :: vs, h => by
    show ((wipe σ vs).set v none)[i]? = σ[i]?
    rw [List.getElem?_set_ne (show v ≠ i from fun e => h (e ▸ List.mem_cons_self ..))]
    exact wipe_get fun z => h (List.mem_cons_of_mem _ z)
theorem Ok.wiped {K : PySem.W.Frag} {A : Amb} {as : List Addr} {s : S} {σ : L2.St} {H : Hp} (ok : Ok K A as s σ H) (vs : List Nat) : Ok K A as ⟨wip s.Γ vs, s.μ⟩ (wipe σ vs) H := by
  refine ⟨ok.len, ok.nd, ok.dj, ok.tr, ok.m0, ok.pin, fun j q hq => ?_, ok.mem, ?_, ok.own, ok.he⟩
  · obtain ⟨h1, h2⟩ := wip_get hq
    obtain ⟨v, h3, h4⟩ := ok.env j q h1
    exact ⟨v, by rw [wipe_get h2]; exact h3, h4⟩
  · show (wip s.Γ vs).length = (wipe σ vs).length
    rw [wip_len, wipe_length]
    exact ok.ln
theorem wipe_out {σ : L2.St} {x : Option V} : ∀ {js : List Nat} {i : Nat}, i ∉ js → wipe (σ.set i x) js = (wipe σ js).set i x
  | [], _, _ => rfl
  | j :: js, i, h => by
    unfold wipe
    rw [wipe_out fun z => h (List.mem_cons_of_mem _ z)]
    exact List.set_comm _ _ (fun e => h (e ▸ List.mem_cons_self ..))
theorem wipe_again {σ : L2.St} : ∀ (vs ws : List Nat), (∀ v ∈ vs, v ∈ ws) → wipe (wipe σ vs) ws = wipe σ ws
  | [], _, _ => rfl
  | v :: vs, ws, h => by
    show wipe ((wipe σ vs).set v none) ws = wipe σ ws
    rw [wipe_set (h v (List.mem_cons_self ..))]
    exact wipe_again vs ws fun z hz => h z (List.mem_cons_of_mem _ hz)
/-- from the items: what is made of each that passes -/
def lcW (vs : List Nat) (g : WG) (wt : WT) (we : WE) (Γ : List (Option Sl)) : List D → List D → List (Option MO) → (List D → List (Option MO) → Prop) → Prop
  | [], acc, μ, R => R acc μ
  | x :: xs, acc, μ, R => g (.dat x) ⟨wip Γ vs, μ⟩ fun s1 => wt s1 fun b s2 =>
    if b = true then we s2 fun r s3 => match r with
      | .dat d => sz (acc.length + 1) ∧ lcW vs g wt we Γ xs (acc ++ [d]) s3.μ R
      | _ => False
    else lcW vs g wt we Γ xs acc s2.μ R
def wLc (wi : WI) (g : WG) (wt : WT) (we : WE) (vs : List Nat) : WE := fun s R => wi s fun ds s1 => lcW vs g wt we s1.Γ ds [] s1.μ fun acc μ => nw (.lst acc) ⟨s1.Γ, μ⟩ R
/-- the list that is made is hidden meanwhile -/
def Amb.hide (A : Amb) (d : Addr) (H F : Hp) : Amb := { A with M0 := fun a => a = d ∨ A.M0 a, H0 := H, pin := F }
section
variable {K : PySem.W.Frag} {A : Amb} {as as' : List Addr} {s s' : S} {σ : L2.St} {H H' F F' : Hp} {d : Addr} {μ : List (Option MO)}
theorem vw_hide {G : Hp} (hd : H d ≠ none) : vw (A.hide d G F) as μ H = fun a => if a = d then none else vw A as μ H a := by
  funext a
  by_cases e : a = d
  · subst e
    rw [if_pos rfl]
    exact vw_yes (Or.inl (Or.inl rfl))
  · rw [if_neg e]
    by_cases h : hid A as μ a
    · rw [vw_yes h]
      refine vw_yes ?_
      rcases h with h | h
      · exact Or.inl (Or.inr h)
      · exact Or.inr h
    · rw [vw_no h, vw_no]
      rintro ((z | z) | z)
      · exact e z
      · exact h (.inl z)
      · exact h (.inr z)
/-- the new list begins -/
theorem Ok.begin (ok : Ok K A as s σ H) (hd : H d = none) (u : HO) : vw (A.hide d (upd H d u) (vw A as s.μ H)) as s.μ (upd H d u) = vw A as s.μ H ∧ Ok K (A.hide d (upd H d u) (vw A as s.μ H)) as s σ (upd H d u) := by
  have nm : ∀ b, H b ≠ none → upd H d u b = H b := fun b hb => upd_ne fun z => hb (z ▸ hd)
  have ev : vw (A.hide d (upd H d u) (vw A as s.μ H)) as s.μ (upd H d u) = vw A as s.μ H := by
    rw [vw_hide (by rw [upd_same]; exact fun z => nomatch z)]
    funext a
    by_cases e : a = d
    · subst e
      rw [if_pos rfl, vw_no (ok.unhid hd), hd]
    · rw [if_neg e]
      by_cases h : hid A as s.μ a
      · rw [vw_yes h, vw_yes h]
      · rw [vw_no h, vw_no h, upd_ne e]
  refine ⟨ev, ⟨ok.len, ok.nd, fun a ha z => ?_, fun a ha => ?_, fun a ha => ⟨?_, rfl⟩, by rw [ev]; exact Le.refl _, fun i r h => by rw [ev]; exact ok.env i r h, fun i a o h1 h2 => ?_, ok.ln, ok.own, fun a ha => ?_⟩⟩
  · rcases z with z | z
    · exact ok.out hd (z ▸ ha)
    · exact ok.dj a ha z
  · rw [nm a (ok.tr a ha)]
    exact ok.tr a ha
  · rcases ha with z | z
    · subst z
      show upd H a u a ≠ none
      rw [upd_same]
      exact fun z => nomatch z
    · have : H a ≠ none := by
        rw [(ok.m0 a z).2]
        exact (ok.m0 a z).1
      show upd H d u a ≠ none
      rw [nm a this]
      exact this
  · rw [ev]
    exact (ok.mem i a o h1 h2).mono (Le.refl _) (List.prefix_refl _) (nm a (ok.mem i a o h1 h2).some)
  · rw [nm a (ok.he a ha)]
    exact ok.he a ha
/-- .. and is written -/
theorem Ok.more {G : Hp} (ok : Ok K (A.hide d G F) as s σ H) (u : HO) : vw (A.hide d (upd H d u) (vw (A.hide d G F) as s.μ H)) as s.μ (upd H d u) = vw (A.hide d G F) as s.μ H ∧ Ok K (A.hide d (upd H d u) (vw (A.hide d G F) as s.μ H)) as s σ (upd H d u) := by
  have hdn : H d ≠ none := by
    rw [(ok.m0 d (.inl rfl)).2]
    exact (ok.m0 d (.inl rfl)).1
  have nm : ∀ b, b ≠ d → upd H d u b = H b := fun b hb => upd_ne hb
  have ev : vw (A.hide d (upd H d u) (vw (A.hide d G F) as s.μ H)) as s.μ (upd H d u) = vw (A.hide d G F) as s.μ H := by
    rw [vw_hide (by rw [upd_same]; exact fun z => nomatch z), vw_hide hdn]
    funext a
    by_cases e : a = d
    · subst e
      rw [if_pos rfl, if_pos rfl]
    · rw [if_neg e, if_neg e]
      by_cases h : hid A as s.μ a
      · rw [vw_yes h, vw_yes h]
      · rw [vw_no h, vw_no h, nm a e]
  have us : ∀ a, H a ≠ none → upd H d u a ≠ none := fun a ha => by
    by_cases e : a = d
    · subst e
      rw [upd_same]
      exact fun z => nomatch z
    · rw [nm a e]
      exact ha
  refine ⟨ev, ⟨ok.len, ok.nd, ok.dj, fun a ha => us a (ok.tr a ha), fun a ha => ⟨us a ?_, rfl⟩, by rw [ev]; exact Le.refl _, fun i r h => by rw [ev]; exact ok.env i r h, fun i a o h1 h2 => ?_, ok.ln, ok.own, fun a ha => us a (ok.he a ha)⟩⟩
  · rw [(ok.m0 a ha).2]
    exact (ok.m0 a ha).1
  · rw [ev]
    refine (ok.mem i a o h1 h2).mono (Le.refl _) (List.prefix_refl _) (nm a fun e => ?_)
    subst e
    exact ok.dj a (List.mem_of_getElem? h1) (.inl rfl)
/-- .. and is there -/
theorem Ok.adopt {G : Hp} {xs : List V} {ds : List D} (ok : Ok K (A.hide d G F) as s σ H) (hA : ∀ a, A.M0 a → A.H0 a ≠ none ∧ H a = A.H0 a) (hp : Le A.pin F) (hd : H d = some (.lst xs)) (hx : RepL K (vw (A.hide d G F) as s.μ H) xs ds) (hnew : A.He d = none) (hdM : ¬ A.M0 d) :
    vw A (as ++ [d]) (s.μ ++ [some (.lst ds)]) H = vw (A.hide d G F) as s.μ H ∧ Ok K A (as ++ [d]) ⟨s.Γ, s.μ ++ [some (.lst ds)]⟩ σ H ∧ (as ++ [d])[s.μ.length]? = some d := by
  have hdn : H d ≠ none := by
    rw [hd]
    exact fun z => nomatch z
  have np : d ∉ as := fun z => ok.dj d z (.inl rfl)
  have pre : as <+: as ++ [d] := List.prefix_append _ _
  have hlast : (as ++ [d])[s.μ.length]? = some d := by
    rw [← ok.len, List.getElem?_append_right (Nat.le_refl _), Nat.sub_self]
    rfl
  have hh : ∀ a, hid A (as ++ [d]) (s.μ ++ [some (.lst ds)]) a ↔ hid (A.hide d G F) as s.μ a := fun a => by
    constructor
    · rintro (h | ⟨i, o, h1, h2⟩)
      · exact .inl (.inr h)
      · by_cases hi : i < as.length
        · rw [List.getElem?_append_left hi] at h1
          rw [List.getElem?_append_left (by rw [← ok.len]; exact hi)] at h2
          exact .inr ⟨i, o, h1, h2⟩
        · rw [List.getElem?_append_right (by omega)] at h1
          cases e : i - as.length with
          | zero =>
            rw [e] at h1
            exact .inl (.inl (Option.some.inj h1).symm)
          | succ n =>
            rw [e] at h1
            cases h1
    · rintro ((h | h) | ⟨i, o, h1, h2⟩)
      · subst h
        refine .inr ⟨s.μ.length, .lst ds, hlast, ?_⟩
        rw [List.getElem?_append_right (Nat.le_refl _), Nat.sub_self]
        rfl
      · exact .inl h
      · refine .inr ⟨i, o, pre_get pre h1, ?_⟩
        rw [List.getElem?_append_left (List.getElem?_eq_some_iff.mp h2).1]
        exact h2
  have ev : vw A (as ++ [d]) (s.μ ++ [some (.lst ds)]) H = vw (A.hide d G F) as s.μ H := by
    funext a
    by_cases h : hid (A.hide d G F) as s.μ a
    · rw [vw_yes h, vw_yes ((hh a).mpr h)]
    · rw [vw_no h, vw_no fun z => h ((hh a).mp z)]
  refine ⟨ev, ⟨?_, ?_, fun a ha => ?_, fun a ha => ?_, hA, by rw [ev]; exact hp.trans ok.pin, fun i r h => ?_, fun i a o h1 h2 => ?_, ok.ln, fun a ha => ?_, ok.he⟩, hlast⟩
  · show (as ++ [d]).length = (s.μ ++ [some (MO.lst ds)]).length
    rw [List.length_append, List.length_append, ok.len]
    rfl
  · exact List.nodup_append.mpr ⟨ok.nd, by simp, fun x hx y hy e => by
      have : y = d := by simpa using hy
      exact np (this ▸ e ▸ hx)⟩
  · rcases List.mem_append.mp ha with ha | ha
    · exact fun z => ok.dj a ha (.inr z)
    · rw [show a = d by simpa using ha]
      exact hdM
  · rcases List.mem_append.mp ha with ha | ha
    · exact ok.tr a ha
    · rw [show a = d by simpa using ha]
      exact hdn
  · show ∃ v : V, σ[i]? = some (some v) ∧ RepS K (vw A (as ++ [d]) (s.μ ++ [some (.lst ds)]) H) (as ++ [d]) v r
    rw [ev]
    obtain ⟨v, h1, h2⟩ := ok.env i r h
    exact ⟨v, h1, h2.mono (Le.refl _) pre⟩
  · show MemO K (vw A (as ++ [d]) (s.μ ++ [some (.lst ds)]) H) (as ++ [d]) H a o
    rw [ev]
    by_cases hi : i < as.length
    · rw [List.getElem?_append_left hi] at h1
      have h2' : s.μ[i]? = some (some o) := by
        rw [← List.getElem?_append_left (l₂ := [some (.lst ds)]) (by rw [← ok.len]; exact hi)]
        exact h2
      exact (ok.mem i a o h1 h2').mono (Le.refl _) pre rfl
    · rw [List.getElem?_append_right (by omega)] at h1
      cases e : i - as.length with
      | zero =>
        rw [e] at h1
        have h2' : (s.μ ++ [some (.lst ds)])[i]? = some (some o) := h2
        rw [List.getElem?_append_right (by rw [← ok.len]; omega), show i - s.μ.length = 0 by rw [← ok.len]; exact e] at h2'
        have e1 : d = a := Option.some.inj h1
        have e2 : MO.lst ds = o := Option.some.inj (Option.some.inj h2')
        subst e1
        subst e2
        exact ⟨xs, hd, hx⟩
      | succ n =>
        rw [e] at h1
        cases h1
  · rcases List.mem_append.mp ha with ha | ha
    · exact ok.own a ha
    · rw [show a = d by simpa using ha]
      exact .inr hnew
end
end Gd
namespace Gd
open PySem PySem.Spec PyProof.Rows L2
section
variable {K : PySem.W.Frag}
theorem up_lc {wi : WI} {g : WG} {wt : WT} {we : WE} {vs : List Nat} : ∀ σ H Q, up K (wLc wi g wt we vs) σ H Q → tLc (upI K wi) (upG K vs g) (upT K wt) (up K we) vs σ H Q := fun σ H Q ⟨A, as, s, R, ok, w, k⟩ => by
  refine ⟨A, as, s, _, ok, w, fun J ds H1 s1 as1 st1 ok1 wk w1 dl hD => ?_⟩
  have hDM : ¬ A.M0 dl := fun z => (ok1.m0 dl z).1 ((ok1.m0 dl z).2 ▸ hD)
  have hDn : A.He dl = none := Classical.byContradiction fun z => ok1.he dl z hD
  -- the word between two turns
  let W : Nat → Nat → Hp → Prop := fun i m H' => m = ds.length - i ∧ i ≤ ds.length ∧ ∃ (as' : List Addr) (μ' : List (Option MO)) (acc : List D) (xs : List V) (G F : Hp), as1 <+: as' ∧ Le (vw A as1 s1.μ H1) F ∧
    Ok K (A.hide dl G F) as' ⟨s1.Γ, μ'⟩ σ H' ∧ (∀ a, A.M0 a → A.H0 a ≠ none ∧ H' a = A.H0 a) ∧ H' dl = some (.lst xs) ∧ RepL K (vw (A.hide dl G F) as' μ' H') xs acc ∧
    lcW vs g wt we s1.Γ (ds.drop i) acc μ' (fun acc μ => nw (.lst acc) ⟨s1.Γ, μ⟩ R)
  refine ⟨W, ⟨ds.length, by simp, Nat.zero_le _, as1, s1.μ, [], [], _, _, List.prefix_refl _, Le.refl _, (ok1.begin hD (.lst [])).2, fun a ha => ⟨(ok1.m0 a ha).1, ?_⟩, upd_same, .nil, w1⟩, ?_⟩
  · rw [upd_ne (show a ≠ dl from fun e => hDM (e ▸ ha))]
    exact (ok1.m0 a ha).2
  rintro i m H2 ⟨rfl, hi, as2, μ2, acc, xs, G, F, p2, hF, ok2, hM, hDx, hx, w2⟩
  have hFv : Le (vw A as1 s1.μ H1) (vw (A.hide dl G F) as2 μ2 H2) := hF.trans ok2.pin
  by_cases hlt : i < ds.length
  · refine .inr ⟨wk.go i H2 hlt (hFv.trans vw_le), W (i + 1) (ds.length - (i + 1)), fun H' h => ⟨_, by omega, h⟩, fun x H3 y => ?_⟩
    obtain ⟨x', e, ok3, st3, r3⟩ := wk.item ok2 hFv hlt y
    rw [drop_at e] at w2
    -- what is to be read at the turn's start is pinned
    have okp : Ok K (A.hide dl G (vw (A.hide dl G F) as2 μ2 H3)) as2 ⟨s1.Γ, μ2⟩ σ H3 := ok3.pinned
    have ok3w := okp.wiped vs
    have hM3 : ∀ a, A.M0 a → A.H0 a ≠ none ∧ H3 a = A.H0 a := fun a ha => ⟨(hM a ha).1, ((ok3.m0 a (.inr ha)).2.trans (ok2.m0 a (.inr ha)).2.symm).trans (hM a ha).2⟩
    have hD3 : H3 dl = some (.lst xs) := ((ok3.m0 dl (.inl rfl)).2.trans (ok2.m0 dl (.inl rfl)).2.symm).trans hDx
    -- behind a turn
    have fin : ∀ (as4 : List Addr) (s4 : S) (σ4 : L2.St) (H4 : Hp) (acc' : List D) (xs' : List V), as2 <+: as4 → Ok K (A.hide dl G (vw (A.hide dl G F) as2 μ2 H3)) as4 s4 σ4 H4 → RepL K (vw (A.hide dl G F) as4 s4.μ H4) xs' acc' →
        lcW vs g wt we s1.Γ (ds.drop (i + 1)) acc' s4.μ (fun acc μ => nw (.lst acc) ⟨s1.Γ, μ⟩ R) → W (i + 1) (ds.length - (i + 1)) (upd H4 dl (.lst xs')) := fun as4 s4 σ4 H4 acc' xs' p4 ok4 hx4 w4 => by
      have hle : Le (vw (A.hide dl G F) as2 μ2 H3) (vw (A.hide dl G F) as4 s4.μ H4) := ok4.pin
      have ok5 : Ok K (A.hide dl G (vw (A.hide dl G F) as2 μ2 H3)) as4 ⟨s1.Γ, s4.μ⟩ σ H4 := ⟨ok4.len, ok4.nd, ok4.dj, ok4.tr, ok4.m0, ok4.pin, fun j q hq => by
        obtain ⟨v, h1, h2⟩ := okp.env j q hq
        exact ⟨v, h1, h2.mono hle p4⟩, ok4.mem, okp.ln, ok4.own, ok4.he⟩
      obtain ⟨ev, ok6⟩ := ok5.more (.lst xs')
      refine ⟨rfl, hlt, as4, s4.μ, acc', xs', _, _, p2.trans p4, ?_, ok6, fun a ha => ⟨(hM a ha).1, ?_⟩, upd_same, ?_, w4⟩
      · exact (hFv.trans st3.le).trans hle
      · rw [upd_ne (show a ≠ dl from fun e => hDM (e ▸ ha))]
        exact ((ok4.m0 a (.inr ha)).2.trans (ok3.m0 a (.inr ha)).2.symm).trans (hM3 a ha).2
      · rw [ev]
        exact hx4
    refine ⟨_, as2, ⟨wip s1.Γ vs, μ2⟩, .dat x', _, ok3w, r3, w2, fun σ4 H4 s4 as4 p4 ew ok4 w4 => ?_⟩
    refine ⟨ew.trans (wipe_again vs vs fun _ z => z), ?_⟩
    refine ⟨_, as4, s4, _, ok4, w4, fun b H5 s5 as5 st5 ok5 w5 => ?_⟩
    have hle5 : Le (vw (A.hide dl G F) as2 μ2 H3) (vw (A.hide dl G F) as5 s5.μ H5) := ok5.pin
    cases b with
    | false =>
      rw [if_neg Bool.false_ne_true] at w5
      show W (i + 1) (ds.length - (i + 1)) H5
      have hD5 : H5 dl = some (.lst xs) := ((ok5.m0 dl (.inl rfl)).2.trans (ok3.m0 dl (.inl rfl)).2.symm).trans hD3
      have := fin as5 s5 σ4 H5 acc xs (p4.trans st5.pre) ok5 (RepL.mono (st3.le.trans hle5) _ hx) w5
      rw [show upd H5 dl (.lst xs) = H5 by
        funext a
        by_cases e : a = dl
        · subst e
          rw [upd_same, hD5]
        · rw [upd_ne e]] at this
      exact this
    | true =>
      rw [if_pos rfl] at w5
      show up K we σ4 H5 _
      refine ⟨_, as5, s5, _, ok5, w5, fun v6 H6 r s6 as6 st6 ok6 r6 w6 => ?_⟩
      cases r with
      | cel _ => exact w6.elim
      | val _ => exact w6.elim
      | dat d =>
        have hle6 : Le (vw (A.hide dl G F) as2 μ2 H3) (vw (A.hide dl G F) as6 s6.μ H6) := ok6.pin
        have hD6 : H6 dl = some (.lst xs) := ((ok6.m0 dl (.inl rfl)).2.trans (ok3.m0 dl (.inl rfl)).2.symm).trans hD3
        have hxl := hx.len
        refine ⟨xs, hD6, by rw [hxl]; exact w6.1.lt, fin as6 s6 σ4 H6 (acc ++ [d]) (xs ++ [v6]) ((p4.trans st5.pre).trans st6.pre) ok6 ((RepL.mono (st3.le.trans hle6) _ hx).append (.one r6)) w6.2⟩
  · have e : i = ds.length := by omega
    subst e
    rw [List.drop_length] at w2
    refine .inl ⟨wk.stop H2 (hFv.trans vw_le), ?_⟩
    obtain ⟨ev, ok3, hl⟩ := ok2.adopt hM (ok1.pin.trans hF) hDx hx hDn hDM
    have w3 : R (.cel μ2.length) ⟨s1.Γ, μ2 ++ [some (.lst acc)]⟩ := w2
    refine k _ H2 (.cel μ2.length) ⟨s1.Γ, μ2 ++ [some (.lst acc)]⟩ (as2 ++ [dl]) (st1.trans ⟨p2.trans (List.prefix_append _ _), ?_⟩) ok3 ⟨dl, hl, rfl⟩ w3
    show Le _ (vw A (as2 ++ [dl]) (μ2 ++ [some (.lst acc)]) H2)
    rw [ev]
    exact hFv
end
section
variable {X : Cx} {elt tg iter : Expr} {ifs : List Expr} {scope : Scope} {own : List (Str × Nat)} {pos : Pos} {wi : WI} {g : WG} {wt : WT} {we : WE} {vs : List Nat}
def wYes : WT := fun s R => R true s
theorem ts_nil : PTs X [] (upT X.K wYes) := ⟨fun pins s σ H Q I ⟨A, as, st, R, ok, w, k⟩ => pts_nil.run pins s σ H Q I (k true H st as Stp.refl ok w)⟩
theorem ts_one {c : Expr} (h : PT X c (upT X.K wt)) : PTs X [c] (upT X.K wt) := pts_one h
theorem e_lc (hc : X.calm = true) (hN : X.N.Nodup) (hi : PI X tg iter (upI X.K wi)) (ok : BlkOk X.N X.env.scope scope own) (hvs : own.map (·.2) = vs)
    (hg : ∀ (s : Shared) (H : Hp) (C : Addr) (cl : List (Str × Addr)) (fp : List Addr), PG (X.blk s H scope (compEnvC scope cl C X.env) fp) tg (upG X.K vs g)) (ht : ∀ (s : Shared) (H : Hp) (C : Addr) (cl : List (Str × Addr)) (fp : List Addr), PTs (X.blk s H scope (compEnvC scope cl C X.env) fp) ifs (upT X.K wt))
    (he : ∀ (s : Shared) (H : Hp) (C : Addr) (cl : List (Str × Addr)) (fp : List Addr), PE (X.blk s H scope (compEnvC scope cl C X.env) fp) elt (up X.K we)) (hs : ∀ x, foldedSetIterable iter X.env x = pure x := by intro _; rfl) :
    PE X (.ListComp elt [⟨tg, iter, ifs, 0⟩] scope pos) (up X.K (wLc wi g wt we vs)) := by
  subst hvs
  exact pe_imp (pe_lc hc hN hi ok hg ht he hs) up_lc
theorem s_setLc {y : Str} {py : Pos} {spos : Pos} (i : Nat) (hc : X.calm = true) (hN : X.N.Nodup) (hy : X.N[i]? = some y) (hyl : X.env.scope.names.lookup y = some .local)
    (hsw : swapsWith (.ListComp elt [⟨tg, iter, ifs, 0⟩] scope pos) (some (.Name y py)) spos.line X.env = pure true) (hi : PI X tg iter (upI X.K wi)) (ok : BlkOk X.N X.env.scope scope own) (hvs : own.map (·.2) = vs)
    (hg : ∀ (s : Shared) (H : Hp) (C : Addr) (cl : List (Str × Addr)) (fp : List Addr), PG (X.blk s H scope (compEnvC scope cl C X.env) fp) tg (upG X.K vs g)) (ht : ∀ (s : Shared) (H : Hp) (C : Addr) (cl : List (Str × Addr)) (fp : List Addr), PTs (X.blk s H scope (compEnvC scope cl C X.env) fp) ifs (upT X.K wt))
    (he : ∀ (s : Shared) (H : Hp) (C : Addr) (cl : List (Str × Addr)) (fp : List Addr), PE (X.blk s H scope (compEnvC scope cl C X.env) fp) elt (up X.K we)) (hs : ∀ x, foldedSetIterable iter X.env x = pure x := by intro _; rfl) :
    PS X (.Assign [.Name y py] (.ListComp elt [⟨tg, iter, ifs, 0⟩] scope pos) spos) (upS X.K (wAsg (wLc wi g wt we vs) (wgN i))) := by
  subst hvs
  exact ps_imp (ps_setLc hc hN hy hyl hsw hi ok hg ht he hs) fun D σ H ⟨A, as, s, d, ok, w, cn, cr, cb, cc⟩ =>
    up_lc σ H _ ⟨A, as, s, _, ok, w, fun v1 H1 r s1 as1 st1 ok1 r1 w1 => cn _ H1 _ as1 st1.pre (ok1.named r1 i) w1⟩
end

/-! ### defs -/
/-- what a def does, by data: its arguments, what it may write -/
abbrev FS := List Sl → List (Option MO) → (Sl → List (Option MO) → Prop) → Prop
def spD (K : PySem.W.Frag) (n : Nat) (f : FS) : Sp := fun vs H Q _ => ∃ (A : Amb) (as : List Addr) (args : List Sl) (μ : List (Option MO)) (R : Sl → List (Option MO) → Prop), args.length = n ∧ A.as0 = as ∧ A.He = H ∧
  Ok K A as ⟨args.map some, μ⟩ (vs.map some) H ∧ f args μ R ∧ ∀ v H' r μ' as', as <+: as' → Ok K A as' ⟨[], μ'⟩ [] H' → Le (vw A as μ H) (vw A as' μ' H') → RepS K (vw A as' μ' H') as' v r → R r μ' → Q v H'
theorem spD_len {K : PySem.W.Frag} {n : Nat} {f : FS} : ∀ vs H Q E, spD K n f vs H Q E → vs.length = n := fun vs H Q E ⟨A, as, args, μ, R, hn, _, _, ok, _⟩ => by
  have := ok.ln
  rw [List.length_map, List.length_map] at this
  omega
/-- at the end: the value as data, all that was made on the way given up; or (fresh) what was made just now is handed out to be written -/
def out (fresh : Bool) (n : Nat) (R : Sl → List (Option MO) → Prop) (r : Sl) (s1 : S) : Prop := match r with
  | .dat d => belowAll n (s1.μ.take n) ∧ R (.dat d) (s1.μ.take n)
  | .val v => belowAll n (s1.μ.take n) ∧ R (.val v) (s1.μ.take n)
  | .cel i => if i < n then belowAll n (s1.μ.take n) ∧ R (.cel i) (s1.μ.take n) else
    optK (nth s1.μ i) fun o => belowAll n (s1.μ.take n) ∧ o.plain ∧ if fresh = true then R (.cel n) (s1.μ.take n ++ [some o]) else R (.dat o.d) (s1.μ.take n)
def Dn.of (fresh : Bool) (n : Nat) (R : Sl → List (Option MO) → Prop) : Dn := { nx := fun s => out fresh n R (.dat .non) s, rt := fun r s => out fresh n R r s }
section
variable {K : PySem.W.Frag} {A : Amb} {as as1 : List Addr} {s s1 : S} {σ σ1 : L2.St} {H H1 : Hp} {v : V} {r : Sl} {μ : List (Option MO)}
/-- back to the many that were handed in -/
theorem Ok.exit (ok : Ok K A as s σ H) (p : as <+: as1) (ok1 : Ok K A as1 s1 σ1 H1) (hb : belowAll s.μ.length (s1.μ.take s.μ.length)) :
    Ok K A as ⟨[], s1.μ.take s.μ.length⟩ [] H1 ∧ Le (vw A as1 s1.μ H1) (vw A as (s1.μ.take s.μ.length) H1) ∧ as1.take s.μ.length = as := by
  have hn : as1.take s.μ.length = as := by
    obtain ⟨t, rfl⟩ := p
    rw [← ok.len, List.take_left]
  have hle : s.μ.length ≤ s1.μ.length := by
    rw [← ok.len, ← ok1.len]
    exact p.length_le
  have hh : ∀ a, hid A as (s1.μ.take s.μ.length) a → hid A as1 s1.μ a := fun a h => by
    rcases h with h | ⟨i, o, h1, h2⟩
    · exact .inl h
    · exact .inr ⟨i, o, pre_get p h1, take_less _ _ _ _ h2⟩
  have le : Le (vw A as1 s1.μ H1) (vw A as (s1.μ.take s.μ.length) H1) := fun a u h => by
    obtain ⟨h1, h2⟩ := vw_of h
    exact .inl (by rw [vw_no fun z => h2 (hh a z)]; exact h1)
  refine ⟨⟨?_, ok.nd, ok.dj, fun a ha => ok1.tr a (p.subset ha), ok1.m0, ok1.pin.trans le, fun i r h => ?_, fun i a o h1 h2 => ?_, rfl, ok.own, ok1.he⟩, le, hn⟩
  · show as.length = (s1.μ.take s.μ.length).length
    rw [List.length_take, Nat.min_eq_left hle]
    exact ok.len
  · simp at h
  · have hm := ok1.mem i a o (pre_get p h1) (take_less _ _ _ _ h2)
    have hm' := (hm.mono le (List.prefix_refl _) rfl).below (belowAll_get hb h2)
    rw [hn] at hm'
    exact hm'
end
section
variable {P : Program} {w : World} {K : PySem.W.Frag} {mg : Str → Option Value} {base : Heap}
theorem start_ln {N ps : List Str} {vs : List V} (h : vs.length ≤ N.length) : (L2.start N vs).length = N.length := by
  unfold L2.start
  rw [List.length_append, List.length_map, List.length_replicate]
  omega
/-- the state at a def's entry -/
def entry (n : Nat) (args : List Sl) (μ : List (Option MO)) : S := ⟨args.map some ++ List.replicate (n - args.length) none, μ⟩
/-- a def's body, whatever its head -/
theorem fn_body {qual : Str} {st : Stmt} {fa : Addr} {N ps : List Str} {n : Nat} {f : FS} (fresh : Bool) (S : FnScope N ps (defScope st)) (hn : n = ps.length)
    (cdv : Value) (A : Around) (outer : List Env) (s : Shared) (H : Hp) (vs : List V) (Q : VK) (E : XK)
    (hbody : ∃ w' : WS, PSs (cxOf CX0 P w K mg base N qual (defScope st) fa cdv A outer s H E).nox (defBody st) (upS K w') ∧ ∀ args μ R, args.length = n → f args μ R → w' (Dn.of fresh μ.length R) (entry N.length args μ)) (h : spD K n f vs H Q E) :
      ∃ t, PSs (cxOf CX0 P w K mg base N qual (defScope st) fa cdv A outer s H E).nox (defBody st) t ∧ t { nx := fun _ H' => Q .non H', rt := Q } (start N vs) H := by
  obtain ⟨w', hw, hf⟩ := hbody
  refine ⟨_, hw, ?_⟩
  have hlen := spD_len vs H Q E h
  obtain ⟨B, as, args, μ, R, han, has, hHe, ok, hfa, kk⟩ := h
  have hv : vs.length = args.length := by rw [hlen, han]
  have hpin : Ok K (B.pinned (vw B as μ H)) as ⟨args.map some, μ⟩ (vs.map some) H := ok.pinned
  have okE : Ok K (B.pinned (vw B as μ H)) as (entry N.length args μ) (L2.start N vs) H := by
    refine ⟨hpin.len, hpin.nd, hpin.dj, hpin.tr, hpin.m0, hpin.pin, fun i r h => ?_, hpin.mem, ?_, hpin.own, hpin.he⟩
    · have h : (args.map some ++ List.replicate (N.length - args.length) none)[i]? = some (some r) := h
      by_cases hi : i < args.length
      · rw [List.getElem?_append_left (by rw [List.length_map]; exact hi)] at h
        obtain ⟨v, h1, h2⟩ := hpin.env i r h
        refine ⟨v, ?_, h2⟩
        unfold L2.start
        rw [List.getElem?_append_left (by rw [List.length_map, hv]; exact hi)]
        exact h1
      · rw [List.getElem?_append_right (by rw [List.length_map]; omega), List.getElem?_replicate] at h
        split at h <;> cases h
    · show (args.map some ++ List.replicate (N.length - args.length) none).length = (L2.start N vs).length
      unfold L2.start
      rw [List.length_append, List.length_append, List.length_map, List.length_map, List.length_replicate, List.length_replicate, hv]
  have fin : ∀ v σ' H' r s' as', as <+: as' → Ok K (B.pinned (vw B as μ H)) as' s' σ' H' → RepS K (vw (B.pinned (vw B as μ H)) as' s'.μ H') as' v r → out fresh μ.length R r s' → Q v H' := fun v σ' H' r s' as' p ok' hr' ho => by
    have hpn : Le (vw B as μ H) (vw B as' s'.μ H') := ok'.pin
    have fr : belowAll μ.length (s'.μ.take μ.length) → (Ok K B as ⟨[], s'.μ.take μ.length⟩ [] H' ∧ Le (vw B as' s'.μ H') (vw B as (s'.μ.take μ.length) H') ∧ as'.take μ.length = as) := fun hb => by
      obtain ⟨h1, h2, h3⟩ := okE.exit p ok' hb
      exact ⟨h1.unpin ok.pin, h2, h3⟩
    cases r with
    | dat d =>
      obtain ⟨h1, h2, _⟩ := fr ho.1
      exact kk v H' (.dat d) _ as (List.prefix_refl _) h1 (hpn.trans h2) (Rep.mono h2 d hr') ho.2
    | val u =>
      obtain ⟨h1, h2, _⟩ := fr ho.1
      exact kk v H' (.val u) _ as (List.prefix_refl _) h1 (hpn.trans h2) hr' ho.2
    | cel i =>
      have ho : (if i < μ.length then belowAll μ.length (s'.μ.take μ.length) ∧ R (.cel i) (s'.μ.take μ.length) else
        optK (nth s'.μ i) fun o => belowAll μ.length (s'.μ.take μ.length) ∧ o.plain ∧ if fresh = true then R (.cel μ.length) (s'.μ.take μ.length ++ [some o]) else R (.dat o.d) (s'.μ.take μ.length)) := ho
      obtain ⟨a, ha, rfl⟩ := hr'
      by_cases hi : i < μ.length
      · rw [if_pos hi] at ho
        obtain ⟨h1, h2, h3⟩ := fr ho.1
        refine kk _ H' (.cel i) _ as (List.prefix_refl _) h1 (hpn.trans h2) ⟨a, ?_, rfl⟩ ho.2
        rw [← h3, List.getElem?_take_of_lt hi]
        exact ha
      · rw [if_neg hi] at ho
        obtain ⟨o, e, hb, pl, ho⟩ := optK_of ho
        obtain ⟨h1, h2, h3⟩ := fr hb
        have ei := nth_eq _ _ e
        have anin : a ∉ as := fun z => by
          obtain ⟨j, hj, ej⟩ := List.getElem_of_mem z
          have e1 : as'[j]? = some a := pre_get p (by rw [List.getElem?_eq_getElem hj, ej])
          have l1 := (List.getElem?_eq_some_iff.mp ha)
          have l2 := (List.getElem?_eq_some_iff.mp e1)
          have e3 : i = j := (List.getElem_inj ok'.nd).mp (l1.2.trans l2.2.symm)
          have := ok.len
          have h9 : as.length = μ.length := this
          omega
        cases fresh with
        | false =>
          rw [if_neg Bool.false_ne_true] at ho
          refine kk _ H' (.dat o.d) _ as (List.prefix_refl _) h1 (hpn.trans h2) ?_ ho
          obtain ⟨_, _, hd⟩ := ok'.freeze ha ei pl
          refine Rep.mono (fun b u hb' => ?_) _ hd
          obtain ⟨z1, z2⟩ := vw_of hb'
          refine .inl ?_
          rw [vw_no, z1]
          rintro (z | ⟨j, o2, z3, z4⟩)
          · exact z2 (.inl z)
          · have hj := pre_get p z3
            have hjl : j < μ.length := by
              have h9 : as.length = μ.length := ok.len
              rw [← h9]
              exact (List.getElem?_eq_some_iff.mp z3).1
            refine z2 (.inr ⟨j, o2, hj, ?_⟩)
            rw [List.getElem?_set_ne (by omega)]
            exact take_less _ _ _ _ z4
        | true =>
          rw [if_pos rfl] at ho
          -- the i-th goes along
          have hlt : μ.length ≤ s'.μ.length := by
            have h9 : as.length = μ.length := ok.len
            rw [← h9, ← ok'.len]
            exact p.length_le
          have htl : (s'.μ.take μ.length).length = μ.length := by rw [List.length_take, Nat.min_eq_left hlt]
          have hlast : (as ++ [a])[μ.length]? = some a := by
            have h9 : as.length = μ.length := ok.len
            rw [← h9, List.getElem?_append_right (Nat.le_refl _), Nat.sub_self]
            rfl
          have hh : ∀ b, hid B (as ++ [a]) (s'.μ.take μ.length ++ [some o]) b → hid B as' s'.μ b := fun b h => by
            rcases h with h | ⟨j, o', z1, z2⟩
            · exact .inl h
            · by_cases hj : j < as.length
              · rw [List.getElem?_append_left hj] at z1
                rw [List.getElem?_append_left (by rw [htl]; have h9 : as.length = μ.length := ok.len; omega)] at z2
                exact .inr ⟨j, o', pre_get p z1, take_less _ _ _ _ z2⟩
              · have h9 : as.length = μ.length := ok.len
                rw [List.getElem?_append_right (by omega)] at z1
                cases e4 : j - as.length with
                | zero =>
                  rw [e4] at z1
                  rw [List.getElem?_append_right (by rw [htl]; omega), show j - (s'.μ.take μ.length).length = 0 by rw [htl]; omega] at z2
                  have e5 : a = b := Option.some.inj z1
                  have e6 : o = o' := Option.some.inj (Option.some.inj z2)
                  subst e5
                  subst e6
                  exact .inr ⟨i, o, ha, ei⟩
                | succ q =>
                  rw [e4] at z1
                  cases z1
          have le2 : Le (vw B as' s'.μ H') (vw B (as ++ [a]) (s'.μ.take μ.length ++ [some o]) H') := fun b u h => by
            obtain ⟨z1, z2⟩ := vw_of h
            exact .inl (by rw [vw_no fun z => z2 (hh b z)]; exact z1)
          have hm0 : ∀ (F : Hp), Le (vw B as' s'.μ H') F → MemO K F (as ++ [a]) H' a o := fun F hF => by
            have hm := (ok'.mem i a o ha ei).mono hF (List.prefix_refl _) rfl
            cases o with
            | lst ds => exact hm
            | dic ks vs => exact hm
            | dct ks vs => exact hm
            | ins C fs =>
              obtain ⟨dx, gs, q1, q2, q3⟩ := hm
              refine ⟨dx, gs, q1, q2, ?_⟩
              have pl' : ∀ r ∈ fs.map (·.2), ∃ d, r = .dat d := fun r hr => by
                obtain ⟨f, hf, rfl⟩ := List.mem_map.mp hr
                exact pl f hf
              exact (q3.below (n := 0) fun r hr => by
                obtain ⟨d, rfl⟩ := pl' r hr
                exact trivial).mono (Le.refl _) (by rw [List.take_zero]; exact List.nil_prefix)
          refine kk _ H' (.cel μ.length) _ (as ++ [a]) (List.prefix_append _ _) ⟨?_, ?_, fun b hb => ?_, fun b hb => ?_, ok'.m0, ok.pin.trans (hpn.trans le2), fun j q hq => by simp at hq, fun j b o' z1 z2 => ?_, rfl, fun b hb => ?_, ok'.he⟩ (hpn.trans le2) ⟨a, hlast, rfl⟩ ho
          · show (as ++ [a]).length = (s'.μ.take μ.length ++ [some o]).length
            rw [List.length_append, List.length_append, htl]
            have h9 : as.length = μ.length := ok.len
            rw [h9]
            rfl
          · exact List.nodup_append.mpr ⟨ok.nd, by simp, fun x hx y hy e => by
              have : y = a := by simpa using hy
              exact anin (this ▸ e ▸ hx)⟩
          · rcases List.mem_append.mp hb with hb | hb
            · exact ok.dj b hb
            · rw [show b = a by simpa using hb]
              exact ok'.dj a (List.mem_of_getElem? ha)
          · rcases List.mem_append.mp hb with hb | hb
            · exact ok'.tr b (p.subset hb)
            · rw [show b = a by simpa using hb]
              exact ok'.tr a (List.mem_of_getElem? ha)
          · by_cases hj : j < as.length
            · rw [List.getElem?_append_left hj] at z1
              have h9 : as.length = μ.length := ok.len
              have z2' : (s'.μ.take μ.length)[j]? = some (some o') := by
                rw [← List.getElem?_append_left (l₂ := [some o]) (by rw [htl]; omega)]
                exact z2
              have hm := (h1.mem j b o' z1 z2')
              refine ((ok'.mem j b o' (pre_get p z1) (take_less _ _ _ _ z2')).mono le2 (List.prefix_refl _) rfl |>.below (belowAll_get hb z2')).mono (Le.refl _) ?_ rfl
              rw [h3]
              exact List.prefix_append _ _
            · have h9 : as.length = μ.length := ok.len
              rw [List.getElem?_append_right (by omega)] at z1
              cases e4 : j - as.length with
              | zero =>
                rw [e4] at z1
                have z2' : (s'.μ.take μ.length ++ [some o])[j]? = some (some o') := z2
                rw [List.getElem?_append_right (by rw [htl]; omega), show j - (s'.μ.take μ.length).length = 0 by rw [htl]; omega] at z2'
                have e5 : a = b := Option.some.inj z1
                have e6 : o = o' := Option.some.inj (Option.some.inj z2')
                subst e5
                subst e6
                exact hm0 _ le2
              | succ q =>
                rw [e4] at z1
                cases z1
          · rcases List.mem_append.mp hb with hb | hb
            · exact .inl (has ▸ hb)
            · rw [show b = a by simpa using hb]
              exact (ok'.own a (List.mem_of_getElem? ha)).elim (fun z => absurd (has ▸ z) anin) .inr
  exact ⟨_, as, _, _, okE, hf args μ R han hfa, fun σ' H' s' as' p ok' w1 => fin .non σ' H' (.dat .non) s' as' p ok' .non w1, fun v σ' H' r s' as' p ok' hr' w1 => fin v σ' H' r s' as' p ok' hr' w1, fun _ _ _ _ _ _ z => z.elim, fun _ _ _ _ _ _ z => z.elim⟩
/-- THE RULE for a def: its body's reading over data -/
theorem fn_ok {x qual : Str} {st : Stmt} {fa : Addr} {fd : FuncData} {N ps : List Str} {k n : Nat} {f : FS} (fresh : Bool) (F : Fun K x qual st fa fd) (S : FnScope N ps (defScope st)) (hn : n = ps.length)
    (hbody : ∀ (cdv : Value) (A : Around) (outer : List Env) (s : Shared) (H : Hp) (E : XK), Room k (A.deeper (envOfC qual (defScope st) s.heap.objs.size fa cdv)) →
      ∃ w' : WS, PSs (cxOf CX0 P w K mg base N qual (defScope st) fa cdv A outer s H E).nox (defBody st) (upS K w') ∧ ∀ args μ R, args.length = n → f args μ R → w' (Dn.of fresh μ.length R) (entry N.length args μ)) :
    FnOk P w K mg base CX0 (k + 1) fa fd ps (spD K n f) :=
  F.ok S (fun vs H Q E h => (spD_len vs H Q E h).trans hn) fun cdv A outer s H vs Q E hr h => fn_body fresh S hn cdv A outer s H vs Q E (hbody cdv A outer s H E hr) h
/-- the same for a def with defaults -/
theorem fn_okD {x qual : Str} {st : Stmt} {fa : Addr} {fd : FuncData} {N ps : List Str} {k n : Nat} {f : FS} {dvs : List V} {kws : List (Str × V)} (fresh : Bool) (F : FunD K x qual (defArgs st) (defBody st) (defScope st) dvs kws fa fd) (S : FnScope N ps (defScope st)) (hn : n = ps.length)
    (hbody : ∀ (cdv : Value) (A : Around) (outer : List Env) (s : Shared) (H : Hp) (E : XK), Room k (A.deeper (envOfC qual (defScope st) s.heap.objs.size fa cdv)) →
      ∃ w' : WS, PSs (cxOf CX0 P w K mg base N qual (defScope st) fa cdv A outer s H E).nox (defBody st) (upS K w') ∧ ∀ args μ R, args.length = n → f args μ R → w' (Dn.of fresh μ.length R) (entry N.length args μ)) :
    FnOk P w K mg base CX0 (k + 1) fa fd ps (spD K n f) :=
  F.ok S (fun vs H Q E h => (spD_len vs H Q E h).trans hn) fun cdv A outer s H vs Q E hr h => by
    obtain ⟨t, h1, h2⟩ := fn_body fresh S hn cdv A outer s H vs Q E (hbody cdv A outer s H E hr) h
    exact ⟨t, h1.nox, h2⟩
end
end Gd
namespace Gd
open PySem PySem.Spec PyProof.Rows L2
/-! ### calls -/
def noCel : List Sl → Prop
  | [] => True
  | .cel _ :: _ => False
  | _ :: rs => noCel rs
def shf (k : Nat) : Sl → Sl
  | .cel i => .cel (k + i)
  | r => r
def plainAll : List (Option MO) → Prop
  | [] => True
  | none :: t => plainAll t
  | some o :: t => o.plain ∧ plainAll t
theorem plainAll_get : ∀ {l : List (Option MO)}, plainAll l → ∀ {i : Nat} {o : MO}, l[i]? = some (some o) → o.plain
  | [], _, i, _, h => by simp at h
  | none :: t, hb, 0, _, h => by simp at h
  | some o :: t, hb, 0, _, h => by
    simp at h
    subst h
    exact hb.1
  | none :: t, hb, i + 1, _, h => plainAll_get (l := t) hb (i := i) (by simpa using h)
  | some o :: t, hb, i + 1, _, h => plainAll_get (l := t) hb.2 (i := i) (by simpa using h)
theorem MO.plain.below {o : MO} (h : o.plain) (n : Nat) : o.below n := by
  cases o with
  | ins C fs =>
    intro f hf
    obtain ⟨d, e⟩ := h f hf
    rw [e]
    exact trivial
  | _ => exact trivial
section
variable {K : PySem.W.Frag} {F : Hp} {as bs : List Addr}
theorem noCel_rep : ∀ {vs : List V} {rs : List Sl}, noCel rs → RepSs K F as vs rs → RepSs K F bs vs rs
  | [], [], _, _ => trivial
  | _ :: _, .dat _ :: _, h, r => ⟨r.1, noCel_rep (rs := _) h r.2⟩
  | _ :: _, .val _ :: _, h, r => ⟨r.1, noCel_rep (rs := _) h r.2⟩
  | _ :: _, .cel _ :: _, h, _ => h.elim
  | [], _ :: _, _, r => r.elim
  | _ :: _, [], _, r => r.elim
theorem RepSs.get : ∀ {vs : List V} {rs : List Sl}, RepSs K F as vs rs → ∀ (i : Nat) (r : Sl), (rs.map some)[i]? = some (some r) → ∃ v : V, (vs.map some)[i]? = some (some v) ∧ RepS K F as v r
  | [], [], _, i, r, h => by simp at h
  | v :: vs, q :: rs, h, 0, r, e => by
    have e : q = r := by simpa using e
    subst e
    exact ⟨v, rfl, h.1⟩
  | v :: vs, q :: rs, h, i + 1, r, e => by
    obtain ⟨u, h1, h2⟩ := RepSs.get h.2 i r (by simpa using e)
    exact ⟨u, by simpa using h1, h2⟩
  | [], _ :: _, h, _, _, _ => h.elim
  | _ :: _, [], h, _, _, _ => h.elim
theorem MemO.any {H : Hp} {a : Addr} {o : MO} (h : MemO K F as H a o) (p : o.plain) : MemO K F bs H a o :=
  ((h.below (n := 0) (p.below 0)).mono (Le.refl _) (by rw [List.take_zero]; exact List.nil_prefix) rfl)
end
/-- f(..): nothing that may be written goes along; what it makes anew comes behind -/
def callP (n : Nat) (f : FS) (ps : List Sl) (s : S) (R : Sl → S → Prop) : Prop := ps.length = n ∧ noCel ps ∧ f ps [] fun r μ => plainAll μ ∧ R (shf s.μ.length r) ⟨s.Γ, s.μ ++ μ⟩
theorem callP_ok {K : PySem.W.Frag} {A : Amb} {as : List Addr} {s : S} {σ : L2.St} {H : Hp} {vs : List V} {ps : List Sl} {n : Nat} {f : FS} {R : Sl → S → Prop} {Q : VK} {E : XK} (ok : Ok K A as s σ H) (rs : RepSs K (vw A as s.μ H) as vs ps)
    (w : callP n f ps s R) (k : Kon K A as s σ H R Q) : spD K n f vs H Q E := by
  obtain ⟨hn, hc, hf⟩ := w
  let B : Amb := { M0 := hid A as s.μ, H0 := H, pin := vw A as s.μ H, as0 := [], He := H }
  have hs : ∀ a, hid A as s.μ a → H a ≠ none := fun a h => by
    rcases h with h | ⟨i, o, h1, h2⟩
    · rw [(ok.m0 a h).2]
      exact (ok.m0 a h).1
    · exact (ok.mem i a o h1 h2).some
  have ev : vw B [] [] H = vw A as s.μ H := by
    funext a
    by_cases h : hid A as s.μ a
    · rw [vw_yes h]
      exact vw_yes (Or.inl h)
    · rw [vw_no h]
      refine vw_no ?_
      rintro (z | ⟨i, o, z, _⟩)
      · exact h z
      · simp at z
  refine ⟨B, [], ps, [], _, hn, rfl, rfl, ⟨rfl, List.nodup_nil, fun a z => absurd z (by simp), fun a z => absurd z (by simp), fun a z => ⟨hs a z, rfl⟩, by rw [ev]; exact Le.refl _, fun i r h => ?_, fun i a o h => by simp at h, ?_, fun a z => absurd z (by simp), fun a z => z⟩, hf, fun v H' r μ' as' pre ok' le rep hR => ?_⟩
  · rw [ev]
    exact (noCel_rep hc rs).get i r h
  · show (ps.map some).length = (vs.map some).length
    rw [List.length_map, List.length_map]
    exact rs.len.symm
  obtain ⟨hpl, hR⟩ := hR
  rw [ev] at le
  have hlen : as.length = s.μ.length := ok.len
  have gl : ∀ {j : Nat} {a : Addr}, (as ++ as')[j]? = some a → (j < as.length ∧ as[j]? = some a) ∨ (as.length ≤ j ∧ as'[j - as.length]? = some a) := fun {j a} h => by
    by_cases hj : j < as.length
    · rw [List.getElem?_append_left hj] at h
      exact .inl ⟨hj, h⟩
    · rw [List.getElem?_append_right (by omega)] at h
      exact .inr ⟨by omega, h⟩
  have ml : ∀ {j : Nat} {o : MO}, (s.μ ++ μ')[j]? = some (some o) → (j < as.length ∧ s.μ[j]? = some (some o)) ∨ (as.length ≤ j ∧ μ'[j - as.length]? = some (some o)) := fun {j o} h => by
    by_cases hj : j < as.length
    · rw [List.getElem?_append_left (by omega)] at h
      exact .inl ⟨hj, h⟩
    · rw [List.getElem?_append_right (by omega)] at h
      exact .inr ⟨by omega, by rw [hlen]; exact h⟩
  have ev2 : vw A (as ++ as') (s.μ ++ μ') H' = vw B as' μ' H' := by
    have hh : ∀ a, hid A (as ++ as') (s.μ ++ μ') a ↔ hid B as' μ' a := fun a => by
      constructor
      · rintro (z | ⟨j, o, z1, z2⟩)
        · exact Or.inl (Or.inl z)
        · rcases gl z1 with ⟨q1, q2⟩ | ⟨q1, q2⟩
          · rcases ml z2 with ⟨q3, q4⟩ | ⟨q3, q4⟩
            · exact Or.inl (Or.inr ⟨j, o, q2, q4⟩)
            · omega
          · rcases ml z2 with ⟨q3, q4⟩ | ⟨q3, q4⟩
            · omega
            · exact Or.inr ⟨_, o, q2, q4⟩
      · rintro ((z | ⟨j, o, z1, z2⟩) | ⟨j, o, z1, z2⟩)
        · exact Or.inl z
        · have hj := (List.getElem?_eq_some_iff.mp z1).1
          exact Or.inr ⟨j, o, by rw [List.getElem?_append_left hj]; exact z1, by rw [List.getElem?_append_left (by omega)]; exact z2⟩
        · exact Or.inr ⟨as.length + j, o, by rw [List.getElem?_append_right (by omega), Nat.add_sub_cancel_left]; exact z1, by rw [List.getElem?_append_right (by omega), show as.length + j - s.μ.length = j by omega]; exact z2⟩
    funext a
    by_cases h : hid B as' μ' a
    · rw [vw_yes h, vw_yes ((hh a).mpr h)]
    · rw [vw_no h, vw_no fun z => h ((hh a).mp z)]
  have pre2 : as <+: as ++ as' := List.prefix_append _ _
  have le2 : Le (vw A as s.μ H) (vw A (as ++ as') (s.μ ++ μ') H') := by
    rw [ev2]
    exact le
  refine k v H' (shf s.μ.length r) ⟨s.Γ, s.μ ++ μ'⟩ (as ++ as') ⟨pre2, le2⟩ ⟨?_, ?_, fun a ha => ?_, fun a ha => ?_, fun a ha => ?_, ok.pin.trans le2, fun i q h => ?_, fun i a o h1 h2 => ?_, ok.ln, fun a ha => ?_, fun a ha => ok'.he a (ok.he a ha)⟩ ?_ hR
  · show (as ++ as').length = (s.μ ++ μ').length
    rw [List.length_append, List.length_append, hlen]
    have : as'.length = μ'.length := ok'.len
    rw [this]
  · exact List.nodup_append.mpr ⟨ok.nd, ok'.nd, fun x hx y hy e => by
      subst e
      rcases ok'.own x hy with z | z
      · exact absurd z (by simp [B])
      · exact ok.tr x hx z⟩
  · rcases List.mem_append.mp ha with ha | ha
    · exact ok.dj a ha
    · exact fun z => ok'.dj a ha (Or.inl z)
  · rcases List.mem_append.mp ha with ha | ha
    · exact ok'.he a (ok.tr a ha)
    · exact ok'.tr a ha
  · exact ⟨(ok.m0 a ha).1, (ok'.m0 a (Or.inl ha)).2.trans (ok.m0 a ha).2⟩
  · obtain ⟨u, h1, h2⟩ := ok.env i q h
    exact ⟨u, h1, h2.mono le2 pre2⟩
  · rcases gl h1 with ⟨q1, q2⟩ | ⟨q1, q2⟩
    · rcases ml h2 with ⟨q3, q4⟩ | ⟨q3, q4⟩
      · exact (ok.mem i a o q2 q4).mono le2 pre2 (ok'.m0 a (Or.inr ⟨i, o, q2, q4⟩)).2
      · omega
    · rcases ml h2 with ⟨q3, q4⟩ | ⟨q3, q4⟩
      · omega
      · have := (ok'.mem _ a o q2 q4).any (bs := as ++ as') (plainAll_get hpl q4)
        show MemO K (vw A (as ++ as') (s.μ ++ μ') H') (as ++ as') H' a o
        rw [ev2]
        exact this
  · rcases List.mem_append.mp ha with ha | ha
    · exact ok.own a ha
    · rcases ok'.own a ha with z | z
      · exact absurd z (by simp [B])
      · exact .inr (Classical.byContradiction fun e => ok.he a e z)
  · show RepS K (vw A (as ++ as') (s.μ ++ μ') H') (as ++ as') v (shf s.μ.length r)
    rw [ev2]
    cases r with
    | dat d => exact rep
    | val u => exact rep
    | cel i =>
      obtain ⟨a, h1, h2⟩ := rep
      refine ⟨a, ?_, h2⟩
      rw [List.getElem?_append_right (by omega), show s.μ.length + i - as.length = i by omega]
      exact h1
/-- f(..): the i-th that may be written goes along, as its 0-th -/
def toC (i : Nat) : List Sl → (List Sl → Prop) → Prop
  | [], k => k []
  | .cel j :: rs, k => j = i ∧ toC i rs fun qs => k (.cel 0 :: qs)
  | r :: rs, k => toC i rs fun qs => k (r :: qs)
theorem toC_of {K : PySem.W.Frag} {F : Hp} {as : List Addr} {b : Addr} {i : Nat} (hb : as[i]? = some b) : ∀ {vs : List V} {rs : List Sl} {k : List Sl → Prop}, toC i rs k → RepSs K F as vs rs → ∃ qs, k qs ∧ RepSs K F [b] vs qs ∧ qs.length = rs.length
  | [], [], _, h, _ => ⟨[], h, trivial, rfl⟩
  | _ :: _, .dat d :: rs, k, h, r => by
    obtain ⟨qs, h1, h2, h3⟩ := toC_of hb (rs := rs) h r.2
    exact ⟨_, h1, ⟨r.1, h2⟩, congrArg Nat.succ h3⟩
  | _ :: _, .val d :: rs, k, h, r => by
    obtain ⟨qs, h1, h2, h3⟩ := toC_of hb (rs := rs) h r.2
    exact ⟨_, h1, ⟨r.1, h2⟩, congrArg Nat.succ h3⟩
  | _ :: _, .cel j :: rs, k, h, r => by
    obtain ⟨e, h⟩ := h
    subst e
    obtain ⟨qs, h1, h2, h3⟩ := toC_of hb (rs := rs) h r.2
    obtain ⟨a, e1, e2⟩ := r.1
    rw [hb] at e1
    have e3 : b = a := Option.some.inj e1
    subst e3
    exact ⟨_, h1, ⟨⟨b, rfl, e2⟩, h2⟩, congrArg Nat.succ h3⟩
  | [], _ :: _, _, _, r => r.elim
  | _ :: _, [], _, _, r => r.elim
def callB (i n : Nat) (f : FS) (ps : List Sl) (s : S) (R : Sl → S → Prop) : Prop := ps.length = n ∧ optK (nth s.μ i) fun o => o.plain ∧ toC i ps fun qs => f qs [some o] fun r μ => match μ with
  | [some o'] => o'.plain ∧ (match r with
    | .cel _ => False
    | r => R r ⟨s.Γ, put s.μ i o'⟩)
  | _ => False
theorem callB_ok {K : PySem.W.Frag} {A : Amb} {as : List Addr} {s : S} {σ : L2.St} {H : Hp} {vs : List V} {ps : List Sl} {i n : Nat} {f : FS} {R : Sl → S → Prop} {Q : VK} {E : XK} (ok : Ok K A as s σ H) (rs : RepSs K (vw A as s.μ H) as vs ps)
    (w : callB i n f ps s R) (k : Kon K A as s σ H R Q) : spD K n f vs H Q E := by
  obtain ⟨hn, w⟩ := w
  obtain ⟨o, eo, pl, w⟩ := optK_of w
  have ei := nth_eq _ _ eo
  have hlen : as.length = s.μ.length := ok.len
  have hil : i < as.length := by rw [hlen]; exact (List.getElem?_eq_some_iff.mp ei).1
  obtain ⟨b, hb⟩ : ∃ b, as[i]? = some b := ⟨as[i], List.getElem?_eq_getElem hil⟩
  obtain ⟨qs, hf, rq, hq⟩ := toC_of hb w rs
  have hbm : b ∈ as := List.mem_of_getElem? hb
  have uniq : ∀ {j : Nat}, as[j]? = some b → j = i := fun {j} h => by
    have l1 := List.getElem?_eq_some_iff.mp h
    have l2 := List.getElem?_eq_some_iff.mp hb
    exact (List.getElem_inj ok.nd).mp (l1.2.trans l2.2.symm)
  let B : Amb := { M0 := fun a => hid A as s.μ a ∧ a ≠ b, H0 := H, pin := vw A as s.μ H, as0 := [b], He := H }
  have hs : ∀ a, hid A as s.μ a → H a ≠ none := fun a h => by
    rcases h with h | ⟨i, o, h1, h2⟩
    · rw [(ok.m0 a h).2]
      exact (ok.m0 a h).1
    · exact (ok.mem i a o h1 h2).some
  have hbh : hid A as s.μ b := Or.inr ⟨i, o, hb, ei⟩
  have ev : vw B [b] [some o] H = vw A as s.μ H := by
    funext a
    by_cases h : hid A as s.μ a
    · rw [vw_yes h]
      refine vw_yes ?_
      by_cases e : a = b
      · subst e
        exact Or.inr ⟨0, o, rfl, rfl⟩
      · exact Or.inl ⟨h, e⟩
    · rw [vw_no h]
      refine vw_no ?_
      rintro (z | ⟨j, o2, z1, z2⟩)
      · exact h z.1
      · cases j with
        | zero =>
          have e : b = a := by simpa using z1
          exact h (e ▸ hbh)
        | succ j => simp at z1
  refine ⟨B, [b], qs, [some o], _, hq.trans hn, rfl, rfl, ⟨rfl, by simp, fun a z => ?_, fun a z => ?_, fun a z => ⟨hs a z.1, rfl⟩, by rw [ev]; exact Le.refl _, fun j r h => ?_, fun j a o2 h1 h2 => ?_, ?_, fun a z => .inl z, fun a z => z⟩, hf, fun v H' r μ' as' pre ok' le rep hR => ?_⟩
  · have e : a = b := by simpa using z
    exact fun y => y.2 e
  · have e : a = b := by simpa using z
    rw [e]
    exact ok.tr b hbm
  · rw [ev]
    exact rq.get j r h
  · cases j with
    | zero =>
      have e1 : b = a := by simpa using h1
      have e2 : o = o2 := by simpa using h2
      subst e1
      subst e2
      rw [ev]
      exact (ok.mem i b o hb ei).any pl
    | succ j => simp at h1
  · show (qs.map some).length = (vs.map some).length
    rw [List.length_map, List.length_map]
    exact rq.len.symm
  -- behind the call
  match μ', hR, ok', le, rep with
  | [], hR, _, _, _ => exact hR.elim
  | [none], hR, _, _, _ => exact hR.elim
  | none :: _ :: _, hR, _, _, _ => exact hR.elim
  | some _ :: _ :: _, hR, _, _, _ => exact hR.elim
  | [some o'], hR, ok', le, rep =>
    obtain ⟨pl', hR⟩ := hR
    rw [ev] at le
    have has : as' = [b] := by
      have h1 : as'.length = 1 := ok'.len
      obtain ⟨t, rfl⟩ := pre
      cases t with
      | nil => rfl
      | cons x t => simp at h1
    subst has
    have hput : put s.μ i o' = s.μ.set i (some o') := put_eq _ _ _
    have hh : ∀ a, hid A as (put s.μ i o') a ↔ hid B [b] [some o'] a := fun a => by
      rw [hput]
      constructor
      · rintro (z | ⟨j, o2, z1, z2⟩)
        · exact Or.inl ⟨Or.inl z, fun e => ok.dj b hbm (e ▸ z)⟩
        · by_cases e : i = j
          · subst e
            have e1 : b = a := Option.some.inj (hb.symm.trans z1)
            subst e1
            exact Or.inr ⟨0, o', rfl, rfl⟩
          · rw [List.getElem?_set_ne e] at z2
            exact Or.inl ⟨Or.inr ⟨j, o2, z1, z2⟩, fun q => e (uniq (q ▸ z1)).symm⟩
      · rintro (⟨z | ⟨j, o2, z1, z2⟩, ne⟩ | ⟨j, o2, z1, z2⟩)
        · exact Or.inl z
        · refine Or.inr ⟨j, o2, z1, ?_⟩
          rw [List.getElem?_set_ne]
          · exact z2
          · intro e
            subst e
            exact ne (Option.some.inj (z1.symm.trans hb))
        · cases j with
          | zero =>
            have e1 : b = a := by simpa using z1
            subst e1
            exact Or.inr ⟨i, o', hb, List.getElem?_set_self (by omega)⟩
          | succ j => simp at z1
    have ev2 : vw A as (put s.μ i o') H' = vw B [b] [some o'] H' := by
      funext a
      by_cases h : hid B [b] [some o'] a
      · rw [vw_yes h, vw_yes ((hh a).mpr h)]
      · rw [vw_no h, vw_no fun z => h ((hh a).mp z)]
    have le2 : Le (vw A as s.μ H) (vw A as (put s.μ i o') H') := by
      rw [ev2]
      exact le
    have okn : Ok K A as ⟨s.Γ, put s.μ i o'⟩ σ H' := by
      refine ⟨?_, ok.nd, ok.dj, fun a ha => ok'.he a (ok.tr a ha), fun a ha => ?_, ok.pin.trans le2, fun j q h => ?_, fun j a o2 h1 h2 => ?_, ok.ln, ok.own, fun a ha => ok'.he a (ok.he a ha)⟩
      · show as.length = (put s.μ i o').length
        rw [hput, List.length_set]
        exact hlen
      · exact ⟨(ok.m0 a ha).1, (ok'.m0 a ⟨Or.inl ha, fun e => ok.dj b hbm (e ▸ ha)⟩).2.trans (ok.m0 a ha).2⟩
      · obtain ⟨u, h1, h2⟩ := ok.env j q h
        exact ⟨u, h1, h2.mono le2 (List.prefix_refl _)⟩
      · have h2 : (put s.μ i o')[j]? = some (some o2) := h2
        show MemO K (vw A as (put s.μ i o') H') as H' a o2
        rw [hput] at h2
        by_cases e : i = j
        · subst e
          have e1 : b = a := Option.some.inj (hb.symm.trans h1)
          rw [List.getElem?_set_self (by omega)] at h2
          have e2 : o' = o2 := Option.some.inj (Option.some.inj h2)
          subst e1
          subst e2
          rw [ev2]
          exact (ok'.mem 0 b o' rfl rfl).any pl'
        · rw [List.getElem?_set_ne e] at h2
          exact (ok.mem j a o2 h1 h2).mono le2 (List.prefix_refl _) (ok'.m0 a ⟨Or.inr ⟨j, o2, h1, h2⟩, fun q => e (uniq (q ▸ h1)).symm⟩).2
    cases r with
    | cel j => exact hR.elim
    | dat d =>
      refine k v H' (.dat d) _ as ⟨List.prefix_refl _, le2⟩ okn ?_ hR
      show Rep K (vw A as (put s.μ i o') H') v d
      rw [ev2]
      exact rep
    | val u => exact k v H' (.val u) _ as ⟨List.prefix_refl _, le2⟩ okn rep hR
/-- a def of the text that is known by what it does -/
structure FnK (P : Program) (w : World) (K : PySem.W.Frag) (mg : Str → Option Value) (base : Heap) (x : Str) (k n : Nat) (fs : FS) : Prop where
  ex : ∃ (f : Addr) (fd : FuncData) (ps : List Str), FnOk P w K mg base CX0 k f fd ps (spD K n fs) ∧ mg x = some (.ref f) ∧ PySem.W.keepIn K (.ref f) = true ∧ Binds K fd ps []
section
variable {X : Cx} {x : Str} {e : Expr} {es : List Expr} {p pos : Pos} {wa : WA} {k n : Nat} {fs : FS}
def wCallP (n : Nat) (f : FS) (wa : WA) : WE := fun s R => wa s fun ps s1 => callP n f ps s1 R
def wCallB (i n : Nat) (f : FS) (wa : WA) : WE := fun s R => wa s fun ps s1 => callB i n f ps s1 R
theorem e_call (G : FnK X.prog X.w X.K X.mg X.base x k n fs) (hr : Room k X.A) (hg : Gl X x) (ha : PA X (e :: es) (upA X.K wa)) (hdb : (x == ("__debug__" : Str)) = false := by decide) (he : starEach (e :: es) X.env = (false, eval e X.env) :: starEach es X.env := by rfl)
    (hpl : (backTo pos (starEach es X.env)).any (·.1) = false := by rfl) : PE X (.Call (.Name x p) (e :: es) [] pos) (up X.K (wCallP n fs wa)) := by
  obtain ⟨f, fd, ps, F, hm, hk, hb⟩ := G.ex
  exact pe_imp (pe_call F hr hg hm hk hb .nil L2.pass0 ha hdb he hpl) fun σ H Q ⟨A, as, s, R, ok, w, kk⟩ =>
    ⟨A, as, s, _, ok, w, fun vs H1 ps s1 as1 st1 ok1 r1 w1 => by
      show spD X.K n fs (vs ++ []) H1 Q E0
      rw [List.append_nil]
      exact callP_ok ok1 r1 w1 fun v3 H3 t s3 as3 st3 ok3 r3 w3 => kk v3 H3 t s3 as3 (st1.trans st3) ok3 r3 w3⟩
theorem e_callB (i : Nat) (G : FnK X.prog X.w X.K X.mg X.base x k n fs) (hr : Room k X.A) (hg : Gl X x) (ha : PA X (e :: es) (upA X.K wa)) (hdb : (x == ("__debug__" : Str)) = false := by decide) (he : starEach (e :: es) X.env = (false, eval e X.env) :: starEach es X.env := by rfl)
    (hpl : (backTo pos (starEach es X.env)).any (·.1) = false := by rfl) : PE X (.Call (.Name x p) (e :: es) [] pos) (up X.K (wCallB i n fs wa)) := by
  obtain ⟨f, fd, ps, F, hm, hk, hb⟩ := G.ex
  exact pe_imp (pe_call F hr hg hm hk hb .nil L2.pass0 ha hdb he hpl) fun σ H Q ⟨A, as, s, R, ok, w, kk⟩ =>
    ⟨A, as, s, _, ok, w, fun vs H1 ps s1 as1 st1 ok1 r1 w1 => by
      show spD X.K n fs (vs ++ []) H1 Q E0
      rw [List.append_nil]
      exact callB_ok ok1 r1 w1 fun v3 H3 t s3 as3 st3 ok3 r3 w3 => kk v3 H3 t s3 as3 (st1.trans st3) ok3 r3 w3⟩
end
end Gd
namespace Gd
open PySem PySem.Spec PyProof.Rows L2
/-! ### methods of lists -/
abbrev FM := Sl → List Sl → S → (Sl → S → Prop) → Prop
def MtS (K : PySem.W.Frag) (f : FM) (r : V → List V → Hp → VK → Prop) : Prop := ∀ (A : Amb) (as : List Addr) (s : S) (σ : L2.St) (H : Hp) (x : V) (xs : List V) (p : Sl) (ps : List Sl) (R : Sl → S → Prop) (Q : VK), Ok K A as s σ H →
  RepS K (vw A as s.μ H) as x p → RepSs K (vw A as s.μ H) as xs ps → f p ps s R → Kon K A as s σ H R Q → r x xs H Q
def isLst (s : S) (p : Sl) : Prop := match rd s p with
  | some (.lst _) => True
  | _ => False
def wM (f : FM) (wo : WE) (wa : WA) : WE := fun s R => wo s fun p s1 => isLst s1 p ∧ wa s1 fun ps s2 => f p ps s2 R
def wM0 (f : FM) (wo : WE) : WE := fun s R => wo s fun p s1 => isLst s1 p ∧ f p [] s1 R
theorem isLst_of {K : PySem.W.Frag} {A : Amb} {as : List Addr} {s : S} {σ : L2.St} {H : Hp} {x : V} {p : Sl} (ok : Ok K A as s σ H) (rx : RepS K (vw A as s.μ H) as x p) (w : isLst s p) : tyV K "list" x H := by
  unfold isLst at w
  cases e : rd s p with
  | none => simp only [e] at w
  | some d =>
    simp only [e] at w
    have r := ok.rdc rx e
    cases d with
    | lst ds =>
      obtain ⟨a, xs, rfl, h1, _⟩ := r
      exact .inl ⟨rfl, xs, .inl (.inl h1)⟩
    | _ => exact w.elim
section
variable {X : Cx} {o e : Expr} {es : List Expr} {wo : WE} {wa : WA} {name : Str} {apos cpos : Pos} {id : String} {r : V → List V → Hp → VK → Prop} {f : FM}
theorem e_m (slot : Slot "list" name id) (hty : typeOf (.builtin id) = pure (.type "method_descriptor")) (hm : MtR X id r) (hs : MtS X.K f r) (ho : PE X o (up X.K wo)) (ha : PA X (e :: es) (upA X.K wa))
    (hbase : attributeBase o name X.env (eval o X.env) = eval o X.env := by rfl)
    (hfew : ((backTo cpos (starEach (e :: es) X.env)).all (fun x => !x.1) && (backToKw cpos (keywordEach [] X.env)).all (fun x => x.1.isSome)
      && decide ((e :: es).length + ([] : List Keyword).length + (if ([] : List Keyword).isEmpty then 0 else 1) < 30)) = true := by rfl)
    (hline : (apos.endLine == cpos.line) = true := by rfl) (hst : starEach (e :: es) X.env = (false, eval e X.env) :: starEach es X.env := by rfl) (hplain : (backTo cpos (starEach es X.env)).any (·.1) = false := by rfl) :
    PE X (.Call (.Attribute o name apos) (e :: es) [] cpos) (up X.K (wM f wo wa)) := pe_imp (pe_bm PySem.F.plainAttrs_list slot hty hm ho ha hbase hfew hline hst hplain) fun σ H Q ⟨A, as, s, R, ok, w, k⟩ =>
  ⟨A, as, s, _, ok, w, fun v1 H1 p s1 as1 st1 ok1 r1 w1 => ⟨isLst_of ok1 r1 w1.1, A, as1, s1, _, ok1, w1.2, fun vs H2 ps s2 as2 st2 ok2 r2 w2 =>
    hs A as2 s2 σ H2 v1 vs p ps R Q ok2 (r1.mono st2.le st2.pre) r2 w2 fun v3 H3 t s3 as3 st3 ok3 r3 w3 => k v3 H3 t s3 as3 ((st1.trans st2).trans st3) ok3 r3 w3⟩⟩
theorem e_m0 (slot : Slot "list" name id) (hty : typeOf (.builtin id) = pure (.type "method_descriptor")) (hm : MtR X id r) (hs : MtS X.K f r) (ho : PE X o (up X.K wo))
    (hbase : attributeBase o name X.env (eval o X.env) = eval o X.env := by rfl) (hline : (apos.endLine == cpos.line) = true := by rfl) :
    PE X (.Call (.Attribute o name apos) [] [] cpos) (up X.K (wM0 f wo)) := pe_imp (pe_bm0 PySem.F.plainAttrs_list slot hty hm ho hbase hline) fun σ H Q ⟨A, as, s, R, ok, w, k⟩ =>
  ⟨A, as, s, _, ok, w, fun v1 H1 p s1 as1 st1 ok1 r1 w1 => ⟨isLst_of ok1 r1 w1.1, hs A as1 s1 σ H1 v1 [] p [] R Q ok1 r1 trivial w1.2 fun v3 H3 t s3 as3 st3 ok3 r3 w3 => k v3 H3 t s3 as3 (st1.trans st3) ok3 r3 w3⟩⟩
end
/-- the list that may be written -/
def onLst (p : Sl) (s : S) (k : Nat → List D → Prop) : Prop := match p with
  | .cel j => optK (nth s.μ j) fun o => match o with
    | .lst ds => k j ds
    | _ => False
  | _ => False
theorem onLst_of {K : PySem.W.Frag} {A : Amb} {as : List Addr} {s : S} {σ : L2.St} {H : Hp} {x : V} {p : Sl} {k : Nat → List D → Prop} (ok : Ok K A as s σ H) (rx : RepS K (vw A as s.μ H) as x p) (w : onLst p s k) :
    ∃ j a ds xs, x = .ref a ∧ as[j]? = some a ∧ s.μ[j]? = some (some (.lst ds)) ∧ H a = some (.lst xs) ∧ RepL K (vw A as s.μ H) xs ds ∧ k j ds := by
  cases p with
  | dat d => exact w.elim
  | val v => exact w.elim
  | cel j =>
    obtain ⟨o, e, w⟩ := optK_of w
    cases o with
    | lst ds =>
      obtain ⟨a, h1, rfl⟩ := rx
      have hj := nth_eq _ _ e
      obtain ⟨xs, h2, h3⟩ := ok.mem j a _ h1 hj
      exact ⟨j, a, ds, xs, rfl, h1, hj, h2, h3, w⟩
    | _ => exact w.elim
/-- .. written anew -/
theorem Kon.wr {K : PySem.W.Frag} {A : Amb} {as : List Addr} {s : S} {σ : L2.St} {H : Hp} {R : Sl → S → Prop} {Q : VK} {j : Nat} {a : Addr} {o o' : MO} {u : HO} {d : D} {v : V} (k : Kon K A as s σ H R Q) (ok : Ok K A as s σ H) (h1 : as[j]? = some a) (hj : s.μ[j]? = some (some o))
    (hm : MemO K (vw A as s.μ H) as (upd H a u) a o') (hv : Rep K (vw A as s.μ H) v d) (q : R (.dat d) { s with μ := put s.μ j o' }) : Q v (upd H a u) := by
  obtain ⟨st, ok'⟩ := ok.write (o' := o') h1 hj hm
  rw [← put_eq] at st ok'
  exact k v _ (.dat d) _ as st ok' (Rep.mono st.le d hv) q
def appF : FM := fun p ps s R => onLst p s fun j ds => match ps with
  | [.dat d] => sz (ds.length + 1) ∧ R (.dat .non) { s with μ := put s.μ j (.lst (ds ++ [d])) }
  | _ => False
theorem mts_app {K : PySem.W.Frag} : MtS K appF rAppend := fun A as s σ H x xs p ps R Q ok rx rs w k => by
  obtain ⟨j, a, ds, ys, rfl, h1, hj, h2, h3, w⟩ := onLst_of ok rx w
  match ps, xs, rs, w with
  | [.dat d], [v], rs, w => exact ⟨a, ys, v, rfl, rfl, h2, by rw [h3.len]; exact w.1.lt, k.wr ok h1 hj (o' := .lst (ds ++ [d])) ⟨_, upd_same, h3.append (.one rs.1)⟩ .non w.2⟩
  | [.cel _], _, _, w => exact w.elim
  | [.val _], _, _, w => exact w.elim
  | [], _, _, w => exact w.elim
  | q :: _ :: _, _, _, w => cases q <;> exact w.elim
def popF : FM := fun p ps s R => onLst p s fun j ds => optK (ds[ds.length - 1]?) fun d => match ps with
  | [] => R (.dat d) { s with μ := put s.μ j (.lst ds.dropLast) }
  | _ => False
theorem RepL.dropLast {K : PySem.W.Frag} {F : Hp} {xs : List V} {ds : List D} (h : RepL K F xs ds) : RepL K F xs.dropLast ds.dropLast := by
  rw [List.dropLast_eq_take, List.dropLast_eq_take, h.len]
  exact h.take _
theorem mts_pop {K : PySem.W.Frag} : MtS K popF rPop := fun A as s σ H x xs p ps R Q ok rx rs w k => by
  obtain ⟨j, a, ds, ys, rfl, h1, hj, h2, h3, w⟩ := onLst_of ok rx w
  obtain ⟨d, e, w⟩ := optK_of w
  obtain ⟨v, e2, r⟩ := h3.get e
  match ps, xs, rs, w with
  | [], [], rs, w => exact ⟨a, ys, v, rfl, rfl, h2, by rw [h3.len]; exact e2, k.wr ok h1 hj (o' := .lst ds.dropLast) ⟨_, upd_same, h3.dropLast⟩ r w⟩
  | _ :: _, _, _, w => exact w.elim
/-- extend, by a list that stands -/
def extF : FM := fun p ps s R => onLst p s fun j ds => match ps with
  | [q] => (match q with
    | .cel i => i ≠ j
    | _ => True) ∧ one s q fun d => match d with
    | .lst es => sz (ds.length + es.length) ∧ R (.dat .non) { s with μ := put s.μ j (.lst (ds ++ es)) }
    | _ => False
  | _ => False
theorem mts_ext {K : PySem.W.Frag} : MtS K extF rExtend := fun A as s σ H x xs p ps R Q ok rx rs w k => by
  obtain ⟨j, a, ds, ys, rfl, h1, hj, h2, h3, w⟩ := onLst_of ok rx w
  match ps, xs, rs, w with
  | [q], [v], rs, w =>
    obtain ⟨_, w⟩ := w
    obtain ⟨d, e, w⟩ := optK_of w
    have r := ok.rdc rs.1 e
    cases d with
    | lst es =>
      obtain ⟨b, zs, rfl, g1, g2⟩ := r
      exact ⟨a, b, ys, zs, rfl, rfl, h2, g1, by rw [h3.len, g2.len]; exact w.1.ok, k.wr ok h1 hj (o' := .lst (ds ++ es)) ⟨_, upd_same, h3.append g2⟩ .non w.2⟩
    | _ => exact w.elim
  | [], _, _, w => exact w.elim
  | _ :: _ :: _, _, _, w => exact w.elim
/-- the first place of a number among numbers -/
def idxF : FM := fun p ps s R => one s p fun d => match d with
  | .lst ds => match ps with
    | [.dat (.int n)] => ∃ (is : List Int) (j : Nat), ds = dI is ∧ is[j]? = some n ∧ (∀ m, m < j → is[m]? ≠ some n) ∧ R (.dat (.int (j : Int))) s
    | _ => False
  | _ => False
theorem mts_idx {K : PySem.W.Frag} : MtS K idxF (rIndex K) := fun A as s σ H x xs p ps R Q ok rx rs w k => by
  obtain ⟨d, e, w⟩ := optK_of w
  have r := ok.rdc rx e
  cases d with
  | lst ds =>
    obtain ⟨a, ys, rfl, h1, h2⟩ := r
    match ps, xs, rs, w with
    | [.dat (.int n)], [v], rs, w =>
      obtain ⟨is, j, rfl, e1, e2, w⟩ := w
      cases h2.nums
      cases rs.1
      refine ⟨a, is.map V.int, .int n, j, .int n, rfl, rfl, .inl (.inl h1), rfl, ?_, ?_, ?_, ?_, k.here ok (r := .dat (.int _)) .int w⟩
      · rw [List.all_eq_true]
        intro y hy
        obtain ⟨z, _, rfl⟩ := List.mem_map.mp hy
        rfl
      · rw [List.getElem?_map, e1]
        rfl
      · simp [eqV]
      · intro m z' hm hz
        rw [List.getElem?_map] at hz
        cases q : is[m]? with
        | none => rw [q] at hz; cases hz
        | some y =>
          rw [q] at hz
          cases hz
          have : y ≠ n := fun z => e2 m hm (z ▸ q)
          simp [eqV, this]
  | _ => exact w.elim

/-! ### what is walked -/
/-- lo, lo + 1, .. -/
def rg (lo : Int) : Nat → List D
  | 0 => []
  | n + 1 => .int lo :: rg (lo + 1) n
theorem rg_len (lo : Int) : ∀ n, (rg lo n).length = n
  | 0 => rfl
  | n + 1 => congrArg Nat.succ (rg_len (lo + 1) n)
theorem rg_get : ∀ (n : Nat) (lo : Int) (i : Nat), i < n → (rg lo n)[i]? = some (.int (lo + i))
  | n + 1, lo, 0, _ => by
    show some (D.int lo) = some (.int (lo + ((0 : Nat) : Int)))
    rw [show lo + ((0 : Nat) : Int) = lo by omega]
  | n + 1, lo, i + 1, h => by
    show (rg (lo + 1) n)[i]? = _
    rw [rg_get n (lo + 1) i (by omega), show lo + 1 + (i : Int) = lo + ((i + 1 : Nat) : Int) by omega]
section
variable {K : PySem.W.Frag} {F : Hp}
theorem wk_range {lo : Int} {n : Nat} : Wk K (Itr lo n) (rg lo n) F := by
  have w := walk_range (lo := lo) (n := n)
  refine ⟨fun i H hi _ => w.goes i H (by rw [rg_len] at hi; exact hi) trivial, fun H _ => ?_, fun i H x H' hi _ y => ?_⟩
  · rw [rg_len]
    exact w.stops H trivial
  · rw [rg_len] at hi
    obtain ⟨rfl, rfl⟩ := w.yields i H x H' hi trivial y
    exact ⟨_, rg_get n lo i hi, .inl ⟨rfl, .int⟩⟩
theorem wk_list {a : Addr} {xs : List V} {ds : List D} (h : SqL K F a xs) (r : RepL K F xs ds) : Wk K (Itl K a) ds F := by
  have w := walk_list (K := K) (a := a) (xs := xs)
  refine ⟨fun i H hi le => w.goes i H (by rw [r.len]; exact hi) (le.sqL h), fun H le => ?_, fun i H x H' hi le y => ?_⟩
  · rw [← r.len]
    exact w.stops H (le.sqL h)
  · obtain ⟨rfl, e⟩ := w.yields i H x H' (by rw [r.len]; exact hi) (le.sqL h) y
    obtain ⟨d, e2, q⟩ := r.getV e
    exact ⟨d, e2, .inl ⟨rfl, q⟩⟩
theorem wk_tup {a : Addr} {xs : List V} {ds : List D} (h : SqT K F a xs) (r : RepL K F xs ds) : Wk K (Itt K a) ds F := by
  have w := walk_tup (K := K) (a := a) (xs := xs)
  refine ⟨fun i H hi le => w.goes i H (by rw [r.len]; exact hi) (le.sqT h), fun H le => ?_, fun i H x H' hi le y => ?_⟩
  · rw [← r.len]
    exact w.stops H (le.sqT h)
  · obtain ⟨rfl, e⟩ := w.yields i H x H' (by rw [r.len]; exact hi) (le.sqT h) y
    obtain ⟨d, e2, q⟩ := r.getV e
    exact ⟨d, e2, .inl ⟨rfl, q⟩⟩
def signs (x : Str) : List D := x.cps.toList.map fun c => .str ⟨#[c]⟩
theorem wk_str {z : Str} : Wk K (Its z) (signs z) F := by
  have w := walk_str (z := z)
  have hl : (signs z).length = z.cps.size := by
    unfold signs
    rw [List.length_map, Array.length_toList]
  refine ⟨fun i H hi _ => w.goes i H (by rw [← hl]; exact hi) trivial, fun H _ => ?_, fun i H x H' hi _ y => ?_⟩
  · rw [hl]
    exact w.stops H trivial
  · obtain ⟨rfl, c, e, rfl⟩ := w.yields i H x H' (by rw [← hl]; exact hi) trivial y
    refine ⟨.str ⟨#[c]⟩, ?_, .inl ⟨rfl, .str⟩⟩
    unfold signs
    rw [List.getElem?_map, Array.getElem?_toList, e]
    rfl
/-- pairs -/
theorem wk_pair {J : It} {ds es : List D} {G : Hp → Prop} {xs ys : Nat → Option V} {n : Nat} (w : Walk J n G (YPair xs ys)) (hG : ∀ H, Le F H → G H) (hn : n = (ds.zip es).length) (hx : ∀ i v, i < n → xs i = some v → ∃ d, ds[i]? = some d ∧ Rep K F v d) (hy : ∀ i v, i < n → ys i = some v → ∃ d, es[i]? = some d ∧ Rep K F v d) :
    Wk K J ((ds.zip es).map fun q => .par [q.1, q.2]) F := by
  refine ⟨fun i H hi le => w.goes i H (by rw [List.length_map] at hi; omega) (hG H le), fun H le => ?_, fun i H x H' hi le y => ?_⟩
  · rw [List.length_map, ← hn]
    exact w.stops H (hG H le)
  · rw [List.length_map, ← hn] at hi
    obtain ⟨T, v, u, rfl, hT, rfl, h1, h2⟩ := w.yields i H x H' hi (hG H le) y
    obtain ⟨d, e1, r1⟩ := hx i v hi h1
    obtain ⟨e, e2, r2⟩ := hy i u hi h2
    refine ⟨.par [d, e], ?_, .inr ⟨T, _, hT, rfl, fun F' le' eT => .par (.inl (.inl eT)) (.cons (Rep.mono le' d r1) (.cons (Rep.mono le' e r2) .nil))⟩⟩
    rw [List.getElem?_map, (List.getElem?_zip_eq_some (z := (d, e))).mpr ⟨e1, e2⟩]
    rfl
end
/-- numbered from 0 on -/
def enumD (ds : List D) : List D := ((rg 0 ds.length).zip ds).map fun q => .par [q.1, q.2]
def zipD (ds es : List D) : List D := (ds.zip es).map fun q => .par [q.1, q.2]
section
variable {X : Cx} {tg l : Expr} {wl : WE} {wa : WA} {pos p tpos : Pos}
/-- a list, a tuple, a text, a dict that is locked for good -/
def kD : Key → D
  | .inl i => .int i
  | .inr x => .str x
theorem kD_rep {K : PySem.W.Frag} {F : Hp} (k : Key) : Rep K F (kV k) (kD k) := by
  cases k
  · exact .int
  · exact .str
theorem lockS {K : PySem.W.Frag} {A : Amb} {as : List Addr} {s : S} {σ : L2.St} {H : Hp} {d : Addr} {kvs : List (Key × V)} {od : Obj} (ok : Ok K A as s σ H) (hd : vw A as s.μ H d = some (.dK kvs)) :
    Stp A as s.μ H as s.μ (upd H d (.frz od (.dK kvs))) ∧ Ok K A as s σ (upd H d (.frz od (.dK kvs))) ∧ vw A as s.μ (upd H d (.frz od (.dK kvs))) d = some (.frz od (.dK kvs)) := by
  obtain ⟨hH, nh⟩ := vw_of hd
  have nm : ∀ b, b ≠ d → upd H d (.frz od (.dK kvs)) b = H b := fun b hb => upd_ne hb
  have us : ∀ b, H b ≠ none → upd H d (.frz od (.dK kvs)) b ≠ none := fun b hb => by
    by_cases e : b = d
    · subst e
      rw [upd_same]
      exact fun z => nomatch z
    · rw [nm b e]
      exact hb
  have le : Le (vw A as s.μ H) (vw A as s.μ (upd H d (.frz od (.dK kvs)))) := fun b u h => by
    obtain ⟨h1, h2⟩ := vw_of h
    rw [vw_no h2]
    by_cases e : b = d
    · subst e
      rw [hH] at h1
      cases h1
      exact .inr ⟨trivial, od, upd_same⟩
    · rw [nm b e]
      exact .inl h1
  refine ⟨⟨List.prefix_refl _, le⟩, ⟨ok.len, ok.nd, ok.dj, fun b hb => us b (ok.tr b hb), fun b hb => ⟨(ok.m0 b hb).1, ?_⟩, ok.pin.trans le, fun i r h => ?_, fun i b o h1 h2 => ?_, ok.ln, ok.own, fun b hb => us b (ok.he b hb)⟩, ?_⟩
  · rw [nm b fun e => nh (.inl (e ▸ hb))]
    exact (ok.m0 b hb).2
  · obtain ⟨v, h1, h2⟩ := ok.env i r h
    exact ⟨v, h1, h2.mono le (List.prefix_refl _)⟩
  · exact (ok.mem i b o h1 h2).mono le (List.prefix_refl _) (nm b fun e => nh (.inr ⟨i, o, e ▸ h1, h2⟩))
  · rw [vw_no nh]
    exact upd_same
def tLk (te : TE) : TE := fun σ H Q => te σ H fun v H1 => ∃ d kvs, v = .ref d ∧ ((H1 d = some (.dK kvs) ∧ ∀ od, Q v (upd H1 d (.frz od (.dK kvs)))) ∨ ((∃ od, H1 d = some (.frz od (.dK kvs))) ∧ Q v H1))
theorem pe_lk {te : TE} (h : PE X l te) : PE X l (tLk te) := ⟨fun pins s σ H Q I w => thn (h.run pins s σ H _ I w) fun u s1 ⟨v, H1, I1, r1, d, kvs, ev, q⟩ => by
  rcases q with ⟨hd, q⟩ | ⟨_, q⟩
  · obtain ⟨od, I2⟩ := I1.lock hd trivial
    exact ⟨v, _, I2, r1, q od⟩
  · exact ⟨v, H1, I1, r1, q⟩⟩
def iSeq (K : PySem.W.Frag) (tl : TE) : TI := fun σ H R => tl σ H fun x H1 => ((∃ a, x = .ref a ∧ (∃ xs, SqL K H1 a xs) ∧ R (Itl K a) H1) ∨ (∃ a, x = .ref a ∧ (∃ xs, SqT K H1 a xs) ∧ R (Itt K a) H1) ∨ ∃ y, x = .str y ∧ R (Its y) H1) ∨
  ∃ d kvs, x = .ref d ∧ ((H1 d = some (.dK kvs) ∧ ∀ od, R (Itk d od kvs) (upd H1 d (.frz od (.dK kvs)))) ∨ ∃ od, H1 d = some (.frz od (.dK kvs)) ∧ R (Itk d od kvs) H1)
theorem pi_seq {tl : TE} (hl : PE X l tl) : PI X tg l (iSeq X.K tl) := ⟨fun pins s σ H R I h => thn (hl.run pins s σ H _ I h) fun v s1 ⟨x, H1, I1, r1, q0⟩ => by
  have one : ∀ {o : Obj} {b : Addr}, b ∈ [s1.heap.objs.size] → FpOk X pins H1 b := fun hb => by
    rw [List.mem_singleton.mp hb]
    exact I1.fpOk (Nat.le_refl _) (I1.hok.fresh (Nat.le_refl _))
  rcases q0 with q1 | ⟨d, kvs, rfl, q0⟩
  · rcases q1 with ⟨a, rfl, ⟨xs, hq⟩, q⟩ | ⟨a, rfl, ⟨xs, hq⟩, q⟩ | ⟨y, rfl, q⟩
    · cases r1
      obtain ⟨its, rv, pl, hz⟩ := I1.list hq
      exact wpAny_pyIter_list pl.isList ⟨_, [s1.heap.objs.size], _, _, H1, rfl, I1.kept (t' := s1.toks) fun b o e => Heap.get?_push_of_some _ e, turn_list a _, ⟨_, Heap.get?_push_size _ rfl, rfl, rfl⟩, fun b hb => one (o := default) hb, q⟩
    · cases r1
      obtain ⟨its, rv, pl, hz⟩ := I1.tuple hq
      exact wpAny_pyIter_tuple (show s1.heap.IsTuple a its.toArray from pl) ⟨_, [s1.heap.objs.size], _, _, H1, rfl, I1.kept (t' := s1.toks) fun b o e => Heap.get?_push_of_some _ e, turn_tuple a _, ⟨_, Heap.get?_push_size _ rfl, rfl, rfl⟩, fun b hb => one (o := default) hb, q⟩
    · obtain ⟨t, rfl⟩ := r1
      cases ha : y.cps.all (· < 128) with
      | false => exact wpAny_pyIter_wide ha (pi_one (tk := s1.toks) I1 _ (turn_str _ y t "str_iterator" (.inr rfl)) ⟨_, Heap.get?_push_size _ rfl, rfl, rfl⟩ q)
      | true => exact wpAny_pyIter_ascii ha (pi_one (tk := s1.toks) I1 _ (turn_str _ y t "str_ascii_iterator" (.inl rfl)) ⟨_, Heap.get?_push_size _ rfl, rfl, rfl⟩ q)
  · cases r1
    have fin : ∀ (od : Obj) (H2 : Hp), Inv X pins σ H2 s1 → H2 d = some (.frz od (.dK kvs)) → R (Itk d od kvs) H2 → wpAny (model X.prog X.w) X.A (pyIter (.ref d)) (PIE X pins σ tg R) X.xe s1 := fun od H2 I2 hd q => by
      obtain ⟨hs, hgd, hx, es, ep, vs, hdt, hsz, kv, hm⟩ := I2.frzK hd
      refine iter_keys hs hgd hx hdt (pi_one (tk := s1.toks) I2 _ (turn_keys _ hdt) ⟨_, Heap.get?_push_size _ rfl, rfl, ?_⟩ q)
      rw [hsz] <;> rfl
    rcases q0 with ⟨hd, q⟩ | ⟨od, hd, q⟩
    · obtain ⟨od, I2⟩ := I1.lock hd trivial
      exact fin od _ I2 upd_same (q od)
    · exact fin od _ I1 hd q⟩
/-- what stands to be walked: not a thing that may be written -/
def itemsOf (p : Sl) (k : List D → Prop) : Prop := match p with
  | .dat (.lst ds) => k ds
  | .dat (.scr ds) => k ds
  | .dat (.tup ds) => k ds
  | .dat (.str x) => k (signs x)
  | .dat (.dic ks _) => k (ks.map kD)
  | _ => False
theorem wk_keys {K : PySem.W.Frag} {F : Hp} {d : Addr} {od : Obj} {kvs : List (Key × V)} {ks : List Key} (h : F d = some (.frz od (.dK kvs))) (e : kvs.map (·.1) = ks) : Wk K (Itk d od kvs) (ks.map kD) F := by
  subst e
  refine ⟨fun i H hi le => ⟨le.frz h, by simpa using hi⟩, fun H le => ⟨le.frz h, by simp⟩, fun i H x H' hi le y => ?_⟩
  obtain ⟨rfl, k, v, e1, rfl⟩ := y
  exact ⟨kD k, by simp [e1], .inl ⟨rfl, kD_rep k⟩⟩
def wiSeq (wl : WE) : WI := fun s R => wl s fun p s1 => itemsOf p fun ds => R ds s1
theorem i_seq (h : PE X l (up X.K wl)) : PI X tg l (upI X.K (wiSeq wl)) := pi_imp (pi_seq h) fun σ H R ⟨A, as, s, RI, ok, w, k⟩ =>
  ⟨A, as, s, _, ok, w, fun v1 H1 p s1 as1 st1 ok1 r1 w1 => by
    cases p with
    | cel j => exact w1.elim
    | val u => exact w1.elim
    | dat d =>
      cases d with
      | lst ds =>
        cases r1 with
        | lst h1 h2 => exact .inl (.inl ⟨_, rfl, ⟨_, .inl (.inl (vw_of h1).1)⟩, k _ ds H1 s1 as1 st1 ok1 (wk_list (.inl (.inl h1)) h2) w1⟩)
      | scr ds =>
        cases r1 with
        | scr h1 h2 => exact .inl (.inl ⟨_, rfl, ⟨_, vw_le.sqL h1⟩, k _ ds H1 s1 as1 st1 ok1 (wk_list h1 h2) w1⟩)
      | tup ds =>
        cases r1 with
        | tup h1 h2 => exact .inl (.inr (.inl ⟨_, rfl, ⟨_, vw_le.sqT h1.sq⟩, k _ ds H1 s1 as1 st1 ok1 (wk_tup h1.sq h2) w1⟩))
      | str x =>
        cases r1
        exact .inl (.inr (.inr ⟨_, rfl, k _ _ H1 s1 as1 st1 ok1 wk_str w1⟩))
      | dic ks vs =>
        cases r1 with
        | dic h1 h2 h3 =>
          rcases h1 with h1 | ⟨od, h1⟩
          · refine .inr ⟨_, _, rfl, .inl ⟨(vw_of h1).1, fun od => ?_⟩⟩
            obtain ⟨st2, ok2, e2⟩ := lockS (od := od) ok1 h1
            exact k _ _ _ s1 as1 (st1.trans st2) ok2 (wk_keys e2 h2) w1
          · exact .inr ⟨_, _, rfl, .inr ⟨od, (vw_of h1).1, k _ _ H1 s1 as1 st1 ok1 (wk_keys h1 h2) w1⟩⟩
      | _ => exact w1.elim⟩
/-- d.items(), d.values() -/
def itmD (ks : List Key) (vs : List D) : List D := (ks.zip vs).map fun q => .par [kD q.1, q.2]
theorem wk_values {K : PySem.W.Frag} {F : Hp} {d : Addr} {od : Obj} {kvs : List (Key × V)} {vs : List D} (h : F d = some (.frz od (.dK kvs))) (r : RepL K F (kvs.map (·.2)) vs) : Wk K (Itd d od kvs) vs F := by
  have hl := r.len
  rw [List.length_map] at hl
  refine ⟨fun i H hi le => ⟨le.frz h, by omega⟩, fun H le => ⟨le.frz h, by omega⟩, fun i H x H' hi le y => ?_⟩
  obtain ⟨rfl, k, e1⟩ := y
  obtain ⟨z, e2, e3⟩ := r.getV (i := i) (v := x) (by simp [e1])
  exact ⟨z, e2, .inl ⟨rfl, e3⟩⟩
theorem wk_itms {K : PySem.W.Frag} {F : Hp} {d : Addr} {od : Obj} {kvs : List (Key × V)} {ks : List Key} {vs : List D} (h : F d = some (.frz od (.dK kvs))) (e : kvs.map (·.1) = ks) (r : RepL K F (kvs.map (·.2)) vs) : Wk K (Iti d od kvs) (itmD ks vs) F := by
  subst e
  have hl := r.len
  rw [List.length_map] at hl
  have hn : (itmD (kvs.map (·.1)) vs).length = kvs.length := by
    unfold itmD
    rw [List.length_map, List.length_zip, List.length_map]
    omega
  refine ⟨fun i H hi le => ⟨le.frz h, by omega⟩, fun H le => ⟨le.frz h, by omega⟩, fun i H x H' hi le y => ?_⟩
  obtain ⟨T, k, v, e1, rfl, hT, rfl⟩ := y
  obtain ⟨z, e2, e3⟩ := r.getV (i := i) (v := v) (by simp [e1])
  refine ⟨.par [kD k, z], ?_, .inr ⟨T, _, hT, rfl, fun F' le' eT => .par (.inl (.inl eT)) (.cons (kD_rep k) (.cons (Rep.mono le' z e3) .nil))⟩⟩
  unfold itmD
  rw [List.getElem?_map, (List.getElem?_zip_eq_some (z := (k, z))).mpr ⟨by simp [e1], e2⟩]
  rfl
def wiItms (wl : WE) : WI := fun s R => wl s fun p s1 => match p with
  | .dat (.dic ks vs) => R (itmD ks vs) s1
  | _ => False
def wiVals (wl : WE) : WI := fun s R => wl s fun p s1 => match p with
  | .dat (.dic _ vs) => R vs s1
  | _ => False
theorem lk_gen {K : PySem.W.Frag} {A : Amb} {as1 : List Addr} {s1 : S} {σ : L2.St} {H1 : Hp} {v1 : V} {p : Sl} {k : List Key → List D → Prop} {Q : V → Hp → Prop} (ok1 : Ok K A as1 s1 σ H1) (r1 : RepS K (vw A as1 s1.μ H1) as1 v1 p)
    (w1 : match p with | .dat (.dic ks vs) => k ks vs | _ => False)
    (q : ∀ d od kvs ks vs H2, k ks vs → v1 = .ref d → Stp A as1 s1.μ H1 as1 s1.μ H2 → Ok K A as1 s1 σ H2 → vw A as1 s1.μ H2 d = some (.frz od (.dK kvs)) → kvs.map (·.1) = ks → RepL K (vw A as1 s1.μ H2) (kvs.map (·.2)) vs → Q v1 H2) :
    ∃ d kvs, v1 = .ref d ∧ ((H1 d = some (.dK kvs) ∧ ∀ od, Q v1 (upd H1 d (.frz od (.dK kvs)))) ∨ ((∃ od, H1 d = some (.frz od (.dK kvs))) ∧ Q v1 H1)) := by
  cases p with
  | cel j => exact w1.elim
  | val u => exact w1.elim
  | dat d =>
    cases d with
    | dic ks vs =>
      cases r1 with
      | dic h1 h2 h3 =>
        rcases h1 with h1 | ⟨od, h1⟩
        · refine ⟨_, _, rfl, .inl ⟨(vw_of h1).1, fun od => ?_⟩⟩
          obtain ⟨st2, ok2, e2⟩ := lockS (od := od) ok1 h1
          exact q _ od _ ks vs _ w1 rfl st2 ok2 e2 h2 (RepL.mono st2.le _ h3)
        · exact ⟨_, _, rfl, .inr ⟨⟨od, (vw_of h1).1⟩, q _ od _ ks vs _ w1 rfl Stp.refl ok1 h1 h2 h3⟩⟩
    | _ => exact w1.elim
theorem i_items {elts : List Expr} {kk : Nat} {tpos apos cpos : Pos} (h : PE X l (up X.K wl)) (hbase : attributeBase l "items" X.env (eval l X.env) = eval l X.env := by rfl) (hline : (apos.endLine == cpos.line) = true := by rfl) :
    PI X (.Tuple elts kk tpos) (.Call (.Attribute l "items" apos) [] [] cpos) (upI X.K (wiItms wl)) := pi_imp (pi_items (pe_lk h) hbase hline) fun σ H R ⟨A, as, s, RI, ok, w, k⟩ =>
  ⟨A, as, s, _, ok, w, fun v1 H1 p s1 as1 st1 ok1 r1 w1 => lk_gen (Q := fun x H2 => ∃ d o kvs, x = .ref d ∧ H2 d = some (.frz o (.dK kvs)) ∧ R (Iti d o kvs) H2) ok1 r1 (k := fun ks vs => RI (itmD ks vs) s1) (by cases p with | dat d => cases d <;> exact w1 | _ => exact w1) fun d od kvs ks vs H2 w2 e st2 ok2 hd h2 h3 => ⟨d, od, kvs, e, (vw_of hd).1, k _ _ H2 s1 as1 (st1.trans st2) ok2 (wk_itms hd h2 h3) w2⟩⟩
theorem i_values {apos cpos : Pos} (h : PE X l (up X.K wl)) (hbase : attributeBase l "values" X.env (eval l X.env) = eval l X.env := by rfl) (hline : (apos.endLine == cpos.line) = true := by rfl) :
    PI X tg (.Call (.Attribute l "values" apos) [] [] cpos) (upI X.K (wiVals wl)) := pi_imp (pi_values (pe_lk h) hbase hline) fun σ H R ⟨A, as, s, RI, ok, w, k⟩ =>
  ⟨A, as, s, _, ok, w, fun v1 H1 p s1 as1 st1 ok1 r1 w1 => lk_gen (Q := fun x H2 => ∃ d o kvs, x = .ref d ∧ H2 d = some (.frz o (.dK kvs)) ∧ R (Itd d o kvs) H2) ok1 r1 (k := fun ks vs => RI vs s1) (by cases p with | dat d => cases d <;> exact w1 | _ => exact w1) fun d od kvs ks vs H2 w2 e st2 ok2 hd h2 h3 => ⟨d, od, kvs, e, (vw_of hd).1, k _ _ H2 s1 as1 (st1.trans st2) ok2 (wk_values hd h3) w2⟩⟩
/-- range -/
def fits (i : Int) : Prop := -(2 ^ 62) ≤ i ∧ i < 2 ^ 62
def wiR1 (wa : WA) : WI := fun s R => wa s fun ps s1 => match ps with
  | [.dat (.int j)] => fits j ∧ R (rg 0 j.toNat) s1
  | _ => False
def wiR2 (wa : WA) : WI := fun s R => wa s fun ps s1 => match ps with
  | [.dat (.int i), .dat (.int j)] => (fits i ∧ fits j) ∧ R (rg i (j - i).toNat) s1
  | _ => False
theorem i_rng1 {a : Expr} (hg : Gl X "range") (hm : X.mg "range" = none) (ha : PA X [a] (upA X.K wa)) (hs : starEach [a] X.env = [(false, eval a X.env)] := by rfl) : PI X tg (.Call (.Name "range" p) [a] [] pos) (upI X.K (wiR1 wa)) :=
  pi_imp (pi_range1 hg hm ha hs) fun σ H R ⟨A, as, s, RI, ok, w, k⟩ => ⟨A, as, s, _, ok, w, fun vs H1 ps s1 as1 st1 ok1 r1 w1 => by
    match ps, vs, r1, w1 with
    | [.dat (.int j)], [v], r1, w1 =>
      cases r1.1
      exact ⟨j, rfl, w1.1.1, w1.1.2, k _ _ H1 s1 as1 st1 ok1 wk_range w1.2⟩⟩
theorem i_rng2 {a b : Expr} (hg : Gl X "range") (hm : X.mg "range" = none) (ha : PA X [a, b] (upA X.K wa)) (hs : starEach [a, b] X.env = [(false, eval a X.env), (false, eval b X.env)] := by rfl) (hs2 : starEach [b] X.env = [(false, eval b X.env)] := by rfl) :
    PI X tg (.Call (.Name "range" p) [a, b] [] pos) (upI X.K (wiR2 wa)) :=
  pi_imp (pi_range2 hg hm ha hs hs2) fun σ H R ⟨A, as, s, RI, ok, w, k⟩ => ⟨A, as, s, _, ok, w, fun vs H1 ps s1 as1 st1 ok1 r1 w1 => by
    match ps, vs, r1, w1 with
    | [.dat (.int i), .dat (.int j)], [v, u], r1, w1 =>
      cases r1.1
      cases r1.2.1
      exact ⟨i, j, rfl, ⟨w1.1.1.1, w1.1.1.2, w1.1.2.1, w1.1.2.2⟩, k _ _ H1 s1 as1 st1 ok1 wk_range w1.2⟩⟩
/-- enumerate of a list -/
theorem wk_enum {K : PySem.W.Frag} {F : Hp} {a : Addr} {xs : List V} {ds : List D} (h : SqL K F a xs) (r : RepL K F xs ds) : Wk K (Ite K a) (enumD ds) F := by
  refine wk_pair (walk_enum (K := K) (a := a) (xs := xs)) (fun H le => le.sqL h) (by rw [List.length_zip, rg_len, Nat.min_self, r.len]) (fun i v hi e => ?_) fun i v hi e => ?_
  · cases e
    refine ⟨.int (i : Int), ?_, .int⟩
    rw [rg_get _ _ _ (by rw [← r.len]; exact hi), show (0 : Int) + (i : Int) = i by omega]
  · exact r.getV e
def wiEn (wa : WA) : WI := fun s R => wa s fun ps s1 => match ps with
  | [p] => itemsOf p fun ds => R (enumD ds) s1
  | _ => False
end
end Gd
/-! ### enumerate of a tuple, in the model -/
namespace PySem
open Sem (wp)
open AutoSeq1 (wpAny_loadPart')
theorem gd_enum_new (l : Addr) (items : Array Value) (n : Nat) (dct : Option Addr) (sl : Array (Option Value)) : Meets (Builtin.«enumerate.__new__» ⟨[.type "enumerate", .ref l], []⟩)
    (fun _ R s => s.heap.get? l = some { cls := .type "tuple", dict := dct, data := .seq items n, slots := sl } ∧ R (.ok (.ret (.ref (s.heap.push { cls := .type "tuple_iterator", data := .fields #[.ref l, .int 0 0] }).objs.size)))
      { s with heap := (s.heap.push { cls := .type "tuple_iterator", data := .fields #[.ref l, .int 0 0] }).push { cls := .type "enumerate", data := .fields #[.none, .bool false, .ref s.heap.objs.size, rawInt 0, .none, .none] } }) := .of_wp fun prog w A R s h => by
  obtain ⟨hp, g, d, tk, os⟩ := s
  obtain ⟨hl, h⟩ := h
  have hsub := sub_enumerate
  have hT : Heap.IsTuple (Shared.heap ⟨hp, g, d, tk, os⟩) l items := ⟨_, hl, rfl, n, rfl⟩
  wp_walk using wpAny_loadPart' hl
  refine wpAny_stack_any fun st => wpAny_pure ?_
  split
  · rename_i c _ _ _ _ _
    cases (c == Value.type "enumerate") <;> (wp_walk using wpAny_loadPart' hl, wpAny_pyIter_tuple hT; exact ⟨_, rfl, h⟩)
  · wp_walk using wpAny_loadPart' hl, wpAny_pyIter_tuple hT
    exact ⟨_, rfl, h⟩
theorem gd_enum_tup {prog : Program} {w : World} {A : Around} {E : Value → Shared → Prop} {s : Shared} {l : Addr} {items : Array Value} {Q : Value → Shared → Prop} (hL : s.heap.IsTuple l items)
    (h : ∀ h', IsEnum h' (s.heap.objs.size + 1) s.heap.objs.size 0 .none → h'.IsTupleIter s.heap.objs.size l 0 → h'.objs.size = s.heap.objs.size + 2 → (∀ b o, s.heap.get? b = some o → h'.get? b = some o) → Q (.ref (s.heap.objs.size + 1)) { s with heap := h' }) :
    wpAny (model prog w) A (call (.type "enumerate") [.ref l]) Q E s := by
  obtain ⟨⟨c, dct, dt, sl⟩, hl, hc, n, hd⟩ := hL
  obtain rfl : c = .type "tuple" := hc
  obtain rfl : dt = .seq items n := hd
  refine callType_new F.called_enumerate (by decide) (F.typeCall_enumerate_1 _) (F.newCall_enumerate_1 _) (fun obj => F.args_object_init_2 obj _) F.entry_enumerate_new (gd_enum_new l items n dct sl) ⟨hl, ?_⟩
  have hz : (s.heap.push { cls := .type "tuple_iterator", data := .fields #[.ref l, .int 0 0] }).objs.size = s.heap.objs.size + 1 := Heap.size_push ..
  show _ ∧ _
  rw [hz]
  have he : IsEnum ((s.heap.push { cls := .type "tuple_iterator", data := .fields #[.ref l, .int 0 0] }).push { cls := .type "enumerate", data := .fields #[.none, .bool false, .ref s.heap.objs.size, rawInt 0, .none, .none] }) (s.heap.objs.size + 1) s.heap.objs.size 0 .none := by
    have q := Heap.get?_push_size (s.heap.push { cls := .type "tuple_iterator", data := .fields #[.ref l, .int 0 0] }) (o := { cls := .type "enumerate", data := .fields #[.none, .bool false, .ref s.heap.objs.size, rawInt 0, .none, .none] }) rfl
    rw [hz] at q
    exact q
  refine ⟨⟨_, he, rfl⟩, h _ he ⟨_, Heap.get?_push_of_some _ (Heap.get?_push_size _ rfl), rfl, rfl⟩ ?_ fun b o x => Heap.get?_push_of_some _ (Heap.get?_push_of_some _ x)⟩
  rw [Heap.size_push, hz]
end PySem
namespace Gd
open PySem PySem.Spec PyProof.Rows L2
/-- the tuple at a, each item in a new pair with its number -/
def IteT (K : PySem.W.Frag) (a : Addr) : It where
  go i H := ∃ (xs : List V) (x : V), SqT K H a xs ∧ xs[i]? = some x
  yld i H v H' := ∃ T x, v = .ref T ∧ H T = none ∧ H' = upd H T (.tup [.int (i : Nat), x]) ∧ ∀ xs, SqT K H a xs → xs[i]? = some x
  stop i H := ∃ xs : List V, SqT K H a xs ∧ xs.length ≤ i
theorem gd_turn_enumT {P : Program} {w : World} {K : PySem.W.Frag} {elts : List Expr} {kk : Nat} {tpos : Pos} (a e it : Addr) :
    Turn P w K (.Tuple elts kk tpos) (IteT K a) [e, it] e (fun i h => (∃ old, IsEnum h e it ((i : Nat) : Int) old) ∧ h.IsTupleIter it a i ∧ e ≠ it ∧ e ≠ a ∧ a ≠ it) where
  mem := List.mem_cons_self ..
  obj i h st b hb := by
    obtain ⟨⟨old, he⟩, ⟨o, ho, hc, hd⟩, _⟩ := st
    rcases List.mem_cons.mp hb with rfl | hb
    · exact ⟨_, he, fun v q => nomatch q⟩
    · rw [List.mem_singleton.mp hb]
      exact ⟨o, ho, fun v q => by rw [hd] at q; cases q⟩
  keep i h h' st k := by
    obtain ⟨⟨old, he⟩, hi, r⟩ := st
    exact ⟨⟨old, k e (by simp) _ he⟩, hi.at fun o q => k it (by simp) o q, r⟩
  item := by
    intro X hP hw hK hc i pins s σ H E I hf st hg
    subst hP hw hK
    obtain ⟨⟨old, he⟩, hit, hne, hea, hai⟩ := st
    obtain ⟨xs, x, hq, hx⟩ := hg
    obtain ⟨its, rv, p, hz⟩ := I.tuple hq
    obtain ⟨u, hu, ru⟩ := rv.get hx
    have hel : e < s.heap.objs.size := Heap.lt_size he
    have hil : it < s.heap.objs.size := by obtain ⟨_, q, _⟩ := hit; exact Heap.lt_size q
    have hlt : i < its.toArray.size := by rw [List.size_toArray]; exact (List.getElem?_eq_some_iff.mp hu).1
    refine wpAny_pyNext_enum_itemD (Draws.tuple (A := X.A.in1) (I.ok.hd hc) it a hai its.toArray) he ⟨hit, p⟩ hlt hne (by simp [hne, hea]) fun x' h' tk hP ho hst hT hsz hk => ?_
    have eu : x' = u := by
      have hP : its.toArray[i]? = some x' := hP
      rw [List.getElem?_toArray, hu] at hP
      exact (Option.some.inj hP).symm
    subst eu
    refine ⟨_, rfl, wpAny_letOwnedTupleGo_enum (s := { s with heap := h', toks := tk + 1 }) ho fun h'' he' sb => ?_⟩
    have hT2 := (sb.2 _ (Nat.ne_of_gt hel)).trans hT
    have new : ObjOk X.prog X.w (upd H s.heap.objs.size (.tup [.int (i : Nat), x])) h'' s.heap.objs.size (.tup [.int (i : Nat), x]) := ⟨by show 2 ≤ sizeLine; decide, [.int i tk, x'], .cons ⟨_, rfl⟩ (.cons ru .nil), ⟨_, hT2, rfl, _, rfl⟩⟩
    have I1 : Inv X pins σ (upd H s.heap.objs.size (.tup [.int (i : Nat), x])) { s with heap := h'', toks := tk + 1 } :=
      I.turnedNew (t' := tk + 1) (ch := [e, it]) (fun b ob hb q => (sb.2 b fun z => hb (by simp [z])).trans (hk b ob (fun z => hb (by simp [z])) (fun z => hb (by simp [z])) q)) hf (Nat.le_refl _) new
    refine ⟨.ref s.heap.objs.size, _, I1, rfl, ⟨_, x, rfl, I.hok.fresh (Nat.le_refl _), rfl, fun ys hy => ?_⟩, ⟨⟨x', ?_⟩, hst.1.at fun o q => (sb.2 it (Ne.symm hne)).trans q, hne, hea, hai⟩, fun b hb => ?_⟩
    · obtain ⟨its2, rv2, p2, _⟩ := I.tuple hy
      obtain ⟨o1, q1, _, n1, q2⟩ := p
      obtain ⟨o2, q3, _, n2, q4⟩ := p2
      rw [q1] at q3
      cases q3
      rw [q2] at q4
      have e5 : its = its2 := by
        injection q4 with q5
        exact congrArg Array.toList q5
      subst e5
      rw [rv2.inj rv]
      exact hx
    · rw [show ((i + 1 : Nat) : Int) = (i : Int) + 1 by omega]
      exact he'
    · have hb' : b < s.heap.objs.size := by
        rcases List.mem_cons.mp hb with rfl | hb
        · exact hel
        · rw [List.mem_singleton.mp hb]
          exact hil
      rw [upd_ne (Nat.ne_of_lt hb')]
      exact (hf b hb).1
  done := by
    intro X hP hw hK hc i pins s σ H E I hf st hg
    subst hP hw hK
    obtain ⟨⟨old, he⟩, hit, hne, hea, hai⟩ := st
    obtain ⟨xs, hq, hx⟩ := hg
    obtain ⟨its, rv, p, hz⟩ := I.tuple hq
    obtain ⟨f0, f1, f2, f3, f4, f5⟩ := hf it (by simp)
    have hl := rv.length
    -- the end, by the tuple's own iterator
    have hT : s.TypeIs (.ref e) "enumerate" := ⟨_, he, rfl⟩
    unfold pyNext
    refine wpAny_bind (wpAny_attempt (wpAny_callSpecial?_slot (name := Str.ofString "__next__") hT F.slot_enumerate_next (wpAny_call_entry F.slot_enumerate_next hT F.entry_enumerate_next ?_ (F.args_enumerate_next_1 _))))
    show wpAny _ _ (field (.ref e) 2 >>= _) _ _ _
    refine wpAny_bind (wpAny_field he rfl (x := .ref it) rfl ?_)
    refine wpAny_bind (wpAny_nextOf_tuple_end (I.ok.hd hc) hit p (by simp; omega) fun h' x he' hx' => ?_)
    obtain ⟨o, ho, hc'⟩ := hx'
    refine wpAny_bind (wpAny_isInstance (T := "StopIteration") (b := true) ⟨o, ho, hc'⟩ isSubtype_stop ?_)
    exact wpAny_pure ⟨rfl, I.turned (t' := s.toks) (fun b o hb q => he' b o hb q) f0 f1 f3 f4 f5⟩
  self A i s Q E st h := by
    obtain ⟨⟨_, he⟩, _⟩ := st
    exact wpAny_pyIter_enum he h
def iEnumA (K : PySem.W.Frag) (ta : TA) : TI := fun σ H R => ta σ H fun vs H1 => ∃ a xs, vs = [.ref a] ∧ ((SqL K H1 a xs ∧ R (Ite K a) H1) ∨ (SqT K H1 a xs ∧ R (IteT K a) H1))
theorem pi_enumA {X : Cx} {e : Expr} {ta : TA} {p pos tpos : Pos} {elts : List Expr} {kk : Nat} (hg : Gl X "enumerate") (hm : X.mg "enumerate" = none) (ha : PA X [e] ta) (hs : starEach [e] X.env = [(false, eval e X.env)] := by rfl) :
    PI X (.Tuple elts kk tpos) (.Call (.Name "enumerate" p) [e] [] pos) (iEnumA X.K ta) := ⟨fun pins s σ H R I h => by
  refine Call_ (ld_blt I hg hm boot_enumerate (PyProof.Rows.callWith_type1 (thn (ha.run pos pins s σ H _ I h) fun us s1 ⟨vs, H1, I1, r1, q1⟩ => ?_) hs rfl))
  obtain ⟨a, xs, ex, q1⟩ := q1
  subst ex
  have fp : ∀ b ∈ [s1.heap.objs.size + 1, s1.heap.objs.size], FpOk X pins H1 b := fun b hb => by
    have hle : s1.heap.objs.size ≤ b := by
      rcases List.mem_cons.mp hb with rfl | hb
      · exact Nat.le_add_right _ _
      · rw [List.mem_singleton.mp hb]
        exact Nat.le_refl _
    exact I1.fpOk hle (I1.hok.fresh hle)
  cases r1 with
  | cons r rr =>
    cases rr
    cases r
    rcases q1 with ⟨hq, q⟩ | ⟨hq, q⟩
    · obtain ⟨its, rv, pl, hz⟩ := I1.list hq
      exact call_enumerate_list pl.isList fun h' he hit hsz hk => wpAny_pyIter_enum he ⟨_, _, _, _, H1, rfl, I1.kept (t' := s1.toks) hk, turn_enum a (s1.heap.objs.size + 1) s1.heap.objs.size, ⟨⟨.none, he⟩, hit, Nat.succ_ne_self _⟩, fp, q⟩
    · obtain ⟨its, rv, pl, hz⟩ := I1.tuple hq
      have hal : a < s1.heap.objs.size := pl.lt
      exact gd_enum_tup pl fun h' he hit hsz hk => wpAny_pyIter_enum he ⟨_, _, _, _, H1, rfl, I1.kept (t' := s1.toks) hk, gd_turn_enumT a (s1.heap.objs.size + 1) s1.heap.objs.size, ⟨⟨.none, he⟩, hit, Nat.succ_ne_self _, Nat.ne_of_gt (Nat.lt_succ_of_lt hal), Nat.ne_of_lt hal⟩, fp, q⟩⟩
theorem walk_enumT {K : PySem.W.Frag} {a : Addr} {xs : List V} : Walk (IteT K a) xs.length (fun H => SqT K H a xs) (YPair (fun i => some (.int (i : Nat))) (fun i => xs[i]?)) := by
  refine ⟨fun i _ hi q => ⟨xs, xs[i], q, by simp [hi]⟩, fun _ q => ⟨xs, q, Nat.le_refl _⟩, fun i H v H' _ q y => ?_⟩
  obtain ⟨T, x, h1, h2, h3, h4⟩ := y
  exact ⟨T, .int (i : Nat), x, h1, h2, h3, rfl, h4 xs q⟩
theorem wk_enumT {K : PySem.W.Frag} {F : Hp} {a : Addr} {xs : List V} {ds : List D} (h : SqT K F a xs) (r : RepL K F xs ds) : Wk K (IteT K a) (enumD ds) F := by
  refine wk_pair (walk_enumT (K := K) (a := a) (xs := xs)) (fun H le => le.sqT h) (by rw [List.length_zip, rg_len, Nat.min_self, r.len]) (fun i v hi e => ?_) fun i v hi e => ?_
  · cases e
    refine ⟨.int (i : Int), ?_, .int⟩
    rw [rg_get _ _ _ (by rw [← r.len]; exact hi), show (0 : Int) + (i : Int) = i by omega]
  · exact r.getV e
section
variable {X : Cx} {wa : WA} {pos p tpos : Pos} {elts : List Expr} {kk : Nat}
def seqD (p : Sl) (k : List D → Prop) : Prop := match p with
  | .dat (.lst ds) => k ds
  | .dat (.scr ds) => k ds
  | .dat (.tup ds) => k ds
  | _ => False
def wiEnum (wa : WA) : WI := fun s R => wa s fun ps s1 => match ps with
  | [p] => seqD p fun ds => R (enumD ds) s1
  | _ => False
theorem seqD_of {p : Sl} {k : List D → Prop} (h : seqD p k) : ∃ ds, (p = .dat (.lst ds) ∨ p = .dat (.scr ds) ∨ p = .dat (.tup ds)) ∧ k ds := by
  cases p with
  | dat d =>
    cases d with
    | lst ds => exact ⟨ds, .inl rfl, h⟩
    | scr ds => exact ⟨ds, .inr (.inl rfl), h⟩
    | tup ds => exact ⟨ds, .inr (.inr rfl), h⟩
    | _ => exact h.elim
  | _ => exact h.elim
theorem i_enum {e : Expr} (hg : Gl X "enumerate") (hm : X.mg "enumerate" = none) (ha : PA X [e] (upA X.K wa)) (hs : starEach [e] X.env = [(false, eval e X.env)] := by rfl) : PI X (.Tuple elts kk tpos) (.Call (.Name "enumerate" p) [e] [] pos) (upI X.K (wiEnum wa)) :=
  pi_imp (pi_enumA hg hm ha hs) fun σ H R ⟨A, as, s, RI, ok, w, k⟩ => ⟨A, as, s, _, ok, w, fun vs H1 ps s1 as1 st1 ok1 r1 w1 => by
    match ps, vs, r1, w1 with
    | [p], [v], r1, w1 =>
      obtain ⟨ds, e, w2⟩ := seqD_of w1
      rcases e with rfl | rfl | rfl
      · cases r1.1 with
        | lst h1 h2 => exact ⟨_, _, rfl, .inl ⟨.inl (.inl (vw_of h1).1), k _ _ H1 s1 as1 st1 ok1 (wk_enum (.inl (.inl h1)) h2) w2⟩⟩
      · cases r1.1 with
        | scr h1 h2 => exact ⟨_, _, rfl, .inl ⟨vw_le.sqL h1, k _ _ H1 s1 as1 st1 ok1 (wk_enum h1 h2) w2⟩⟩
      · cases r1.1 with
        | tup h1 h2 => exact ⟨_, _, rfl, .inr ⟨vw_le.sqT h1.sq, k _ _ H1 s1 as1 st1 ok1 (wk_enumT h1.sq h2) w2⟩⟩
    | [], _, _, w1 => exact w1.elim
    | _ :: _ :: _, _, _, w1 => exact w1.elim⟩
/-- zip of two lists, of two tuples -/
theorem wk_zip {K : PySem.W.Frag} {F : Hp} {a b : Addr} {xs ys : List V} {ds es : List D} (h : SqL K F a xs) (r : RepL K F xs ds) (h' : SqL K F b ys) (r' : RepL K F ys es) : Wk K (Itz K a b) (zipD ds es) F :=
  wk_pair (walk_zip (K := K) (a := a) (b := b) rfl) (fun H le => ⟨le.sqL h, le.sqL h'⟩) (by rw [List.length_zip, r.len, r'.len]) (fun i v hi e => r.getV e) fun i v hi e => r'.getV e
theorem wk_zipT {K : PySem.W.Frag} {F : Hp} {a b : Addr} {xs ys : List V} {ds es : List D} (h : SqT K F a xs) (r : RepL K F xs ds) (h' : SqT K F b ys) (r' : RepL K F ys es) : Wk K (RZ.ItzT K a b) (zipD ds es) F := by
  refine wk_pair (n := min xs.length ys.length) (G := fun H => SqT K H a xs ∧ SqT K H b ys) (xs := fun i => xs[i]?) (ys := fun i => ys[i]?) ⟨fun i H hi q => ?_, fun H q => ⟨xs, ys, q.1, q.2, by omega⟩, fun i H v H' hi q y => ?_⟩ (fun H le => ⟨le.sqT h, le.sqT h'⟩) (by rw [List.length_zip, r.len, r'.len]) (fun i v hi e => r.getV e) fun i v hi e => r'.getV e
  · exact ⟨xs, ys, xs[i]'(by omega), ys[i]'(by omega), q.1, q.2, by simp [show i < xs.length by omega], by simp [show i < ys.length by omega]⟩
  · obtain ⟨T, x, z, h1, h2, h3, h4, h5⟩ := y
    exact ⟨T, x, z, h1, h2, h3, h4 xs q.1, h5 ys q.2⟩
def zipG (d e : D) (k : List D → Prop) : Prop := match d, e with
  | .lst ds, .lst es => k (zipD ds es)
  | .tup ds, .tup es => k (zipD ds es)
  | _, _ => False
def wiZip (wa : WA) : WI := fun s R => wa s fun ps s1 => match ps with
  | [.dat d, .dat e] => zipG d e fun ds => R ds s1
  | _ => False
theorem i_zip {e e2 : Expr} (hg : Gl X "zip") (hm : X.mg "zip" = none) (ha : PA X [e, e2] (upA X.K wa)) (hs : starEach [e, e2] X.env = (false, eval e X.env) :: starEach [e2] X.env := by rfl) (hpl : (backTo pos (starEach [e2] X.env)).any (·.1) = false := by rfl) :
    PI X (.Tuple elts kk tpos) (.Call (.Name "zip" p) [e, e2] [] pos) (upI X.K (wiZip wa)) :=
  pi_imp (RZ.pi_zipA hg hm ha hs hpl) fun σ H R ⟨A, as, s, RI, ok, w, k⟩ => ⟨A, as, s, _, ok, w, fun vs H1 ps s1 as1 st1 ok1 r1 w1 => by
    match ps, vs, r1, w1 with
    | [.dat d, .dat e], [v, u], r1, w1 =>
      cases d <;> cases e <;> first
        | exact w1.elim
        | skip
      · cases r1.1 with
        | lst h1 h2 =>
          cases r1.2.1 with
          | lst h3 h4 => exact ⟨_, _, _, _, rfl, .inl ⟨.inl (.inl (vw_of h1).1), .inl (.inl (vw_of h3).1), k _ _ H1 s1 as1 st1 ok1 (wk_zip (.inl (.inl h1)) h2 (.inl (.inl h3)) h4) w1⟩⟩
      · cases r1.1 with
        | tup h1 h2 =>
          cases r1.2.1 with
          | tup h3 h4 => exact ⟨_, _, _, _, rfl, .inr ⟨vw_le.sqT h1.sq, vw_le.sqT h3.sq, k _ _ H1 s1 as1 st1 ok1 (wk_zipT h1.sq h2 h3.sq h4) w1⟩⟩⟩
end

/-! ### isinstance against built-in types -/
def tyD : D → String
  | .non => "NoneType"
  | .bl _ => "bool"
  | .int _ => "int"
  | .str _ => "str"
  | .lst _ => "list"
  | .scr _ => "list"
  | .tup _ => "tuple"
  | .dic _ _ => "dict"
  | _ => ""
def isTyS (a T : String) : Bool := a == T || (a == "bool" && T == "int")
def isTy (d : D) (T : String) : Bool := isTyS (tyD d) T
def tyable : D → Prop
  | .dct _ _ => False
  | .ins _ _ _ => False
  | .par _ => False
  | _ => True
theorem Rdc.ty {K : PySem.W.Frag} {F H : Hp} {v : V} {d : D} (r : Rdc K F H v d) (t : tyable d) : TyX K H v (.type (tyD d)) := by
  cases d with
  | non => cases r; exact .base .non
  | bl b => cases r; exact .base (.bl _)
  | int b => cases r; exact .base (.int _)
  | str b => cases r; exact .base (.str _)
  | lst ds => obtain ⟨a, xs, rfl, h1, _⟩ := r; exact .base (.lst h1)
  | scr ds =>
    obtain ⟨a, xs, rfl, h1, _⟩ := r
    rcases h1 with (h | ⟨o, h⟩) | ⟨o, its, n, h, hc, _⟩
    · exact .base (.lst h)
    · exact .base (.frz h)
    · exact .kList h hc
  | tup ds =>
    obtain ⟨_, a, xs, rfl, h1, _⟩ := r
    rcases h1 with ⟨o, h, _⟩ | ⟨o, its, n, h, _, hc, _⟩
    · exact .fTuple h
    · exact .kTuple h hc
  | par ds => exact t.elim
  | dic ks vs =>
    obtain ⟨a, xs, rfl, h1, _⟩ := r
    rcases h1 with h | ⟨o, h⟩
    · exact .base (.dK h)
    · exact .fDict h
  | dct ks vs => exact t.elim
  | ins C ns vs => exact t.elim
def kT (T : String) : Prop := T = "int" ∨ T = "bool" ∨ T = "str" ∨ T = "list" ∨ T = "tuple"
theorem kit_d {K : PySem.W.Frag} {d : D} {T : String} (t : tyable d) (hT : kT T) : PySem.W.kitOne K (.type (tyD d)) (.type T) = some (isTy d T) := by
  rcases hT with rfl | rfl | rfl | rfl | rfl <;> cases d <;> first
    | exact t.elim
    | (refine kit_ty ?_; simp only [tyD, isTy]; decide +kernel)
/-- isinstance(x, T) -/
def wIsi (T : String) (we : WE) : WE := fun s R => we s fun p s1 => one s1 p fun d => tyable d ∧ R (.dat (.bl (isTy d T))) s1
def isAny (d : D) : List String → Bool
  | [] => false
  | T :: Ts => isTy d T || isAny d Ts
def wIsiT (Ts : List String) (we : WE) : WE := fun s R => we s fun p s1 => one s1 p fun d => tyable d ∧ R (.dat (.bl (isAny d Ts))) s1
theorem kit_ds {K : PySem.W.Frag} {d : D} (t : tyable d) : ∀ {Ts : List String}, (∀ T ∈ Ts, kT T) → PySem.W.kitAny K (.type (tyD d)) (Ts.map Value.type) = some (isAny d Ts)
  | [], _ => rfl
  | T :: Ts, h => by
    have h1 := kit_d (K := K) t (h T (List.mem_cons_self ..))
    have h2 := kit_ds (K := K) t (Ts := Ts) fun z hz => h z (List.mem_cons_of_mem _ hz)
    show PySem.W.kitAny K _ (Value.type T :: Ts.map Value.type) = some (isTy d T || isAny d Ts)
    exact kitAny_cons h1 (fun e => by rw [e, Bool.false_or]; exact h2) fun e => by rw [e, Bool.true_or]
section
variable {X : Cx} {a : Expr} {wa : WE} {p pos pt : Pos}
theorem e_isi (T : String) (hT : kT T) (hg : Gl X "isinstance") (hm : X.mg "isinstance" = none) (ha : PE X a (up X.K wa)) (hgT : Gl X (Str.ofString T)) (hmT : X.mg (Str.ofString T) = none) (hv : bootBuiltins (Str.ofString T) = some (.type T)) (hn : Str.ofString T ≠ "__name__" := by decide) (hd : (Str.ofString T == ("__debug__" : Str)) = false := by decide)
    (he : starEach [a, .Name (Str.ofString T) pt] X.env = (false, eval a X.env) :: starEach [.Name (Str.ofString T) pt] X.env := by rfl) (he2 : starEach [.Name (Str.ofString T) pt] X.env = [(false, eval (.Name (Str.ofString T) pt) X.env)] := by rfl)
    (hpl : (backTo pos (starEach [.Name (Str.ofString T) pt] X.env)).any (·.1) = false := by rfl) : PE X (.Call (.Name "isinstance" p) [a, .Name (Str.ofString T) pt] [] pos) (up X.K (wIsi T wa)) :=
  pe_imp (pe_callB call_isi hg hm boot_isinstance (pa_cons ha (pa_cons (pe_bltn (v := .ty T) hgT hmT hv rfl hn hd) pa_nil he2) he) (by decide) (by decide) he hpl) fun σ H Q ⟨A, as, s, R, ok, w, k⟩ =>
    ⟨A, as, s, _, ok, w, fun v1 H1 p s1 as1 st1 ok1 r1 w1 => by
      obtain ⟨d, e, w2⟩ := optK_of w1
      have r := ok1.rdc r1 e
      exact ⟨v1, .ty T, _, _, _, rfl, .ty T, r.ty w2.1, kit_d w2.1 hT, k _ H1 (.dat (.bl _)) s1 as1 st1 ok1 .bl w2.2⟩⟩
end
end Gd
namespace Gd
open PySem PySem.Spec PyProof.Rows L2
/-! ### ghost steps -/
def cut1 (n : Nat) : Option Sl → Option Sl
  | some (.cel j) => if j < n then some (.cel j) else none
  | r => r
def cutC (n : Nat) : List (Option Sl) → List (Option Sl)
  | [] => []
  | r :: rs => cut1 n r :: cutC n rs
theorem cutC_get {n : Nat} : ∀ {Γ : List (Option Sl)} {i : Nat} {r : Sl}, (cutC n Γ)[i]? = some (some r) → Γ[i]? = some (some r) ∧ ∀ j, r = .cel j → j < n
  | [], i, r, h => by simp [cutC] at h
  | q :: Γ, 0, r, h => by
    have h : cut1 n q = some r := by simpa [cutC] using h
    cases q with
    | none => cases h
    | some q =>
      cases q with
      | dat d => cases h; exact ⟨rfl, fun j e => nomatch e⟩
      | val d => cases h; exact ⟨rfl, fun j e => nomatch e⟩
      | cel j =>
        have h : (if j < n then some (Sl.cel j) else none) = some r := h
        by_cases hj : j < n
        · rw [if_pos hj] at h
          cases h
          exact ⟨rfl, fun j' e => by cases e; exact hj⟩
        · rw [if_neg hj] at h
          cases h
  | q :: Γ, i + 1, r, h => by
    obtain ⟨h1, h2⟩ := cutC_get (Γ := Γ) (i := i) (by simpa [cutC] using h)
    exact ⟨by simpa using h1, h2⟩
theorem cutC_len (n : Nat) : ∀ Γ : List (Option Sl), (cutC n Γ).length = Γ.length
  | [] => rfl
  | _ :: Γ => congrArg Nat.succ (cutC_len n Γ)
/-- only the first n that may be written stay so -/
def tr (n : Nat) (s : S) (k : S → Prop) : Prop := belowAll n (s.μ.take n) ∧ k ⟨cutC n s.Γ, s.μ.take n⟩
theorem tr_ok {K : PySem.W.Frag} {A : Amb} {as as1 : List Addr} {s s1 : S} {σ σ1 : L2.St} {H H1 : Hp} (ok : Ok K A as s σ H) (p : as <+: as1) (ok1 : Ok K A as1 s1 σ1 H1) (hb : belowAll s.μ.length (s1.μ.take s.μ.length)) : Ok K A as ⟨cutC s.μ.length s1.Γ, s1.μ.take s.μ.length⟩ σ1 H1 := by
  obtain ⟨h1, le, h3⟩ := ok.exit p ok1 hb
  refine ⟨h1.len, h1.nd, h1.dj, h1.tr, h1.m0, h1.pin, fun i r h => ?_, h1.mem, ?_, h1.own, h1.he⟩
  · obtain ⟨h4, h5⟩ := cutC_get h
    obtain ⟨v, h6, h7⟩ := ok1.env i r h4
    refine ⟨v, h6, ?_⟩
    cases r with
    | dat d => exact Rep.mono le d h7
    | val u => exact h7
    | cel j =>
      obtain ⟨a, e, ev⟩ := h7
      refine ⟨a, ?_, ev⟩
      rw [← h3, List.getElem?_take_of_lt (h5 j rfl)]
      exact e
  · show (cutC s.μ.length s1.Γ).length = σ1.length
    rw [cutC_len]
    exact ok1.ln
def wScope (w : WS) : WS := fun D s => w { nx := fun s1 => tr s.μ.length s1 D.nx, rt := D.rt, bk := fun s1 => tr s.μ.length s1 D.bk, ct := fun s1 => tr s.μ.length s1 D.ct } s
theorem s_scope {X : Cx} {sts : List Stmt} {w : WS} (h : PSs X sts (upS X.K w)) : PSs X sts (upS X.K (wScope w)) := pss_imp h fun D σ H ⟨A, as, s, d, ok, w, cn, cr, cb, cc⟩ =>
  ⟨A, as, s, _, ok, w, fun σ1 H1 s1 as1 p1 ok1 z => cn σ1 H1 _ as (List.prefix_refl _) (tr_ok ok p1 ok1 z.1) z.2, cr, fun σ1 H1 s1 as1 p1 ok1 z => cb σ1 H1 _ as (List.prefix_refl _) (tr_ok ok p1 ok1 z.1) z.2,
    fun σ1 H1 s1 as1 p1 ok1 z => cc σ1 H1 _ as (List.prefix_refl _) (tr_ok ok p1 ok1 z.1) z.2⟩
/-- the name's thing is written no more -/
def frzN (i : Nat) (s : S) (k : S → Prop) : Prop := optK (nth s.Γ i) fun p => match p with
  | .cel j => optK (nth s.μ j) fun o => o.plain ∧ k ⟨put s.Γ i (.dat o.d), s.μ.set j none⟩
  | _ => k s
def wGF (i : Nat) (w : WS) : WS := fun D s => frzN i s fun s1 => w D s1
theorem s_ghost {X : Cx} {sts : List Stmt} {w : WS} (i : Nat) (h : PSs X sts (upS X.K w)) : PSs X sts (upS X.K (wGF i w)) := pss_imp h fun D σ H ⟨A, as, s, d, ok, w, cn, cr, cb, cc⟩ => by
  obtain ⟨p, e, w⟩ := optK_of w
  cases p with
  | dat d1 => exact ⟨A, as, s, d, ok, w, cn, cr, cb, cc⟩
  | val d1 => exact ⟨A, as, s, d, ok, w, cn, cr, cb, cc⟩
  | cel j =>
    obtain ⟨o, e2, pl, w⟩ := optK_of w
    obtain ⟨v, h1, a, h2, rfl⟩ := ok.env i _ (nth_eq _ _ e)
    obtain ⟨st, ok', r⟩ := ok.freeze h2 (nth_eq _ _ e2) pl
    refine ⟨A, as, ⟨put s.Γ i (.dat o.d), s.μ.set j none⟩, d, ?_, w, cn, cr, cb, cc⟩
    have := ok'.named (r := .dat o.d) r i
    rw [show σ.set i (some (.ref a)) = σ by
      refine List.ext_getElem? fun m => ?_
      by_cases hm : i = m
      · subst hm
        rw [List.getElem?_set_self (List.getElem?_eq_some_iff.mp h1).1, h1]
      · rw [List.getElem?_set_ne hm]] at this
    exact this
/-! isinstance(x, (T1, T2)) -/
section
variable {X : Cx} {a : Expr} {wa : WE} {p pos p1 p2 p3 : Pos} {k : Nat}
theorem e_isi2 (T1 T2 : String) (hT1 : kT T1) (hT2 : kT T2) (hg : Gl X "isinstance") (hm : X.mg "isinstance" = none) (ha : PE X a (up X.K wa))
    (hg1 : Gl X (Str.ofString T1)) (hm1 : X.mg (Str.ofString T1) = none) (hv1 : bootBuiltins (Str.ofString T1) = some (.type T1)) (hg2 : Gl X (Str.ofString T2)) (hm2 : X.mg (Str.ofString T2) = none) (hv2 : bootBuiltins (Str.ofString T2) = some (.type T2))
    (hn1 : Str.ofString T1 ≠ "__name__" := by decide) (hd1 : (Str.ofString T1 == ("__debug__" : Str)) = false := by decide) (hn2 : Str.ofString T2 ≠ "__name__" := by decide) (hd2 : (Str.ofString T2 == ("__debug__" : Str)) = false := by decide)
    (he : starEach [a, .Tuple [.Name (Str.ofString T1) p1, .Name (Str.ofString T2) p2] k p3] X.env = (false, eval a X.env) :: starEach [.Tuple [.Name (Str.ofString T1) p1, .Name (Str.ofString T2) p2] k p3] X.env := by rfl)
    (he2 : starEach [.Tuple [.Name (Str.ofString T1) p1, .Name (Str.ofString T2) p2] k p3] X.env = [(false, eval (.Tuple [.Name (Str.ofString T1) p1, .Name (Str.ofString T2) p2] k p3) X.env)] := by rfl)
    (he3 : starEach [.Name (Str.ofString T1) p1, .Name (Str.ofString T2) p2] X.env = (false, eval (.Name (Str.ofString T1) p1) X.env) :: starEach [.Name (Str.ofString T2) p2] X.env := by rfl) (he4 : starEach [.Name (Str.ofString T2) p2] X.env = [(false, eval (.Name (Str.ofString T2) p2) X.env)] := by rfl)
    (hpl : (backTo pos (starEach [.Tuple [.Name (Str.ofString T1) p1, .Name (Str.ofString T2) p2] k p3] X.env)).any (·.1) = false := by rfl) :
    PE X (.Call (.Name "isinstance" p) [a, .Tuple [.Name (Str.ofString T1) p1, .Name (Str.ofString T2) p2] k p3] [] pos) (up X.K (wIsiT [T1, T2] wa)) :=
  pe_imp (pe_callB call_isiT hg hm boot_isinstance (pa_cons ha (pa_cons (pe_tup (pa_cons (pe_bltn (v := .ty T1) hg1 hm1 hv1 rfl hn1 hd1) (pa_cons (pe_bltn (v := .ty T2) hg2 hm2 hv2 rfl hn2 hd2) pa_nil he4) he3)) pa_nil he2) he) (by decide) (by decide) he hpl) fun σ H Q ⟨A, as, s, R, ok, w, k⟩ =>
    ⟨A, as, s, _, ok, w, fun v1 H1 p s1 as1 st1 ok1 r1 w1 => by
      obtain ⟨d, e, w2⟩ := optK_of w1
      refine ⟨by show 2 ≤ sizeLine; decide, fun q hq => ?_⟩
      obtain ⟨st2, ok2, _⟩ := ok1.new hq (.tup [.ty T1, .ty T2])
      have r := ok2.rdc (r1.mono st2.le st2.pre) e
      exact ⟨v1, q, [.ty T1, .ty T2], _, [.type T1, .type T2], _, rfl, upd_same, .cons (.ty T1) (.cons (.ty T2) .nil), r.ty w2.1, kit_ds w2.1 (Ts := [T1, T2]) (fun T hT => by
        rcases List.mem_cons.mp hT with rfl | hT
        · exact hT1
        · rw [List.mem_singleton.mp hT]
          exact hT2), k _ _ (.dat (.bl _)) s1 as1 (st1.trans st2) ok2 .bl w2.2⟩⟩
end
end Gd
namespace Gd
open PySem PySem.Spec PyProof.Rows L2
section
variable {X : Cx} {a : Expr} {wa : WE} {pos : Pos} {f : F1} {r : V → Hp → VK → Prop}
theorem e_un {op : UnaryOp} (ho : UnR X (unaryOp op) r) (hs : UnS X.K f r) (ha : PE X a (up X.K wa)) : PE X (.UnaryOp op a pos) (up X.K (wUn f wa)) := pe_imp (pe_un ho ha) (up_un hs)
end
/-- less, of numbers, of tuples of numbers -/
def ltG (d e : D) (s : S) (R : Sl → S → Prop) : Prop := match d, e with
  | .int i, .int j => R (.dat (.bl (decide (i < j)))) s
  | .tup xs, .tup ys => ∃ is js, xs = dI is ∧ ys = dI js ∧ R (.dat (.bl (HT.lexLt is js))) s
  | _, _ => False
def ltF : F2 := fun p q s R => two s p q fun d e => ltG d e s R
def rLtAll (K : PySem.W.Frag) : R2 := fun x y H Q => (rI0 fun i j => .bl (decide (i < j))) x y H Q ∨ rLtT K x y H Q
theorem op_ltAll {X : Cx} (hu : X.A.units < cLine) : OpR X (compareOp .Lt) (rLtAll X.K) := OpR.or op_lt (op_ltT hu)
theorem ops_lt {K : PySem.W.Frag} : OpS K ltF (rLtAll K) := OpS.of fun A as s σ H x y d e R Q ok rx ry w k => by
  cases d <;> cases e <;> first
    | exact w.elim
    | skip
  · cases rx; cases ry
    exact .inl ⟨_, _, rfl, rfl, k.here ok (r := .dat (.bl _)) .bl w⟩
  · obtain ⟨is, js, rfl, rfl, w⟩ := w
    obtain ⟨_, a, xs, rfl, h1, h2⟩ := rx
    obtain ⟨_, b, ys, rfl, h3, h4⟩ := ry
    cases h2.nums
    cases h4.nums
    exact .inr ⟨a, b, is, js, rfl, rfl, h1.sq, h3.sq, k.here ok (r := .dat (.bl _)) .bl w⟩
/-- x in a list, of plain data; a sign in a text -/
def inG (neg : Bool) (d e : D) (s : S) (R : Sl → S → Prop) : Prop := match e with
  | .lst ds => (d.fit ∧ (D.lst ds).fit) ∧ R (.dat (.bl (neg ^^ (pds ds).any fun z => PyData.eqv z d.pd))) s
  | .tup ds => match d with
    | .int i => ∃ is, ds = dI is ∧ R (.dat (.bl (neg ^^ decide (i ∈ is)))) s
    | _ => False
  | _ => False
def inF (neg : Bool) : F2 := fun p q s R => two s p q fun d e => inG neg d e s R
def rInAll (K : PySem.W.Frag) : R2 := fun x y H Q => rInD K x y H Q ∨ rIn K false x y H Q
def rNotInAll (K : PySem.W.Frag) : R2 := fun x y H Q => rNotInD K x y H Q ∨ rIn K true x y H Q
theorem op_inAll {X : Cx} (hu : X.A.units + 65 < cLine) : OpR X (compareOp .In) (rInAll X.K) := OpR.or (op_inD hu) op_in_seq
theorem op_notInAll {X : Cx} (hu : X.A.units + 65 < cLine) : OpR X (compareOp .NotIn) (rNotInAll X.K) := OpR.or (op_notInD hu) op_notIn_seq
theorem inV_nums (i : Int) (is : List Int) : inV (.int i) (is.map V.int) = decide (i ∈ is) := by
  unfold inV
  induction is with
  | nil => simp
  | cons j is ih =>
    rw [List.map_cons, List.any_cons, ih]
    by_cases e : j = i
    · subst e
      simp [eqV]
    · have e' : ¬ i = j := fun z => e z.symm
      simp [eqV, e, e']
theorem in_gen {K : PySem.W.Frag} {neg : Bool} {A : Amb} {as : List Addr} {s : S} {σ : L2.St} {H : Hp} {x y : V} {d e : D} {R : Sl → S → Prop} {Q : VK} (ok : Ok K A as s σ H) (rx : Rdc K (vw A as s.μ H) H x d) (ry : Rdc K (vw A as s.μ H) H y e) (w : inG neg d e s R) (k : Kon K A as s σ H R Q) :
    (∃ d ds, Dp K H x d ∧ Dp K H y (.list ds) ∧ SeqAt.shaped d = true ∧ SeqAt.shaped (.list ds) = true ∧ Q (.bl (neg ^^ ds.any fun z => PyData.eqv z d)) H) ∨
    ∃ p xs, y = .ref p ∧ (SqL K H p xs ∨ SqT K H p xs) ∧ flatV x = true ∧ xs.all flatV = true ∧ Q (.bl (neg ^^ inV x xs)) H := by
  cases e with
  | lst ds =>
    obtain ⟨⟨f1, f2⟩, w⟩ := w
    exact .inl ⟨d.pd, pds ds, rx.dp vw_le (SeqAt.canLay_of_shaped f1), ry.dp vw_le (SeqAt.canLay_of_shaped f2), f1, f2, k.here ok (r := .dat (.bl _)) .bl w⟩
  | tup ds =>
    cases d with
    | int i =>
      obtain ⟨is, rfl, w⟩ := w
      cases rx
      obtain ⟨_, a, xs, rfl, h1, h2⟩ := ry
      cases h2.nums
      refine .inr ⟨a, _, rfl, .inr h1.sq, rfl, ?_, ?_⟩
      · rw [List.all_eq_true]
        intro y hy
        obtain ⟨z, _, rfl⟩ := List.mem_map.mp hy
        rfl
      · rw [inV_nums]
        exact k.here ok (r := .dat (.bl _)) .bl w
    | _ => exact w.elim
  | _ => exact w.elim
theorem ops_in {K : PySem.W.Frag} : OpS K (inF false) (rInAll K) := OpS.of fun A as s σ H x y d e R Q ok rx ry w k => by
  rcases in_gen ok rx ry w k with ⟨d, ds, h1, h2, h3, h4, h5⟩ | ⟨p, xs, h1, h2, h3, h4, h5⟩
  · rw [Bool.false_xor] at h5
    exact .inl ⟨d, ds, h1, h2, h3, h4, h5⟩
  · rw [Bool.false_xor] at h5
    exact .inr ⟨p, xs, h1, h2, h3, h4, by simpa using h5⟩
theorem ops_notIn {K : PySem.W.Frag} : OpS K (inF true) (rNotInAll K) := OpS.of fun A as s σ H x y d e R Q ok rx ry w k => by
  rcases in_gen ok rx ry w k with ⟨d, ds, h1, h2, h3, h4, h5⟩ | ⟨p, xs, h1, h2, h3, h4, h5⟩
  · rw [Bool.true_xor] at h5
    exact .inl ⟨d, ds, h1, h2, h3, h4, h5⟩
  · rw [Bool.true_xor] at h5
    exact .inr ⟨p, xs, h1, h2, h3, h4, by simpa using h5⟩
/-- the built-in names as they are -/
structure Bts (mg : Str → Option Value) : Prop where
  len : mg "len" = none
  abs : mg "abs" = none
  int : mg "int" = none
  bool : mg "bool" = none
  str : mg "str" = none
  max : mg "max" = none
  min : mg "min" = none
  sum : mg "sum" = none
  all : mg "all" = none
  any : mg "any" = none
  list : mg "list" = none
  tuple : mg "tuple" = none
  dict : mg "dict" = none
  set : mg "set" = none
  sorted : mg "sorted" = none
  range : mg "range" = none
  enumerate : mg "enumerate" = none
  zip : mg "zip" = none
  isinstance : mg "isinstance" = none
  repr : mg "repr" = none
theorem hu64 {A : Around} {k : Nat} (hr : Room k A) : A.units + 64 < cLine := hr.units
theorem hu65 {A : Around} {k : Nat} (hr : Room k A) : A.units + 65 < cLine := by
  have := hr.un
  omega
theorem FnK.mono {P : Program} {w : World} {K : PySem.W.Frag} {mg : Str → Option Value} {base : Heap} {x : Str} {j k n : Nat} {fs : FS} (G : FnK P w K mg base x j n fs) (h : j ≤ k) : FnK P w K mg base x k n fs := by
  obtain ⟨f, fd, ps, F, r⟩ := G.ex
  exact ⟨f, fd, ps, F.mono h, r⟩
/-- whole defs -/
def qn (i : Nat) (p : Program) : Stmt := p.main.body.getD i (.Pass ⟨0, 0, 0, 0⟩)
end Gd
namespace Gd
open PySem PySem.Spec PyProof.Rows L2
/-! ### plain facts about data -/
theorem ixN_nn {n : Nat} {i : Int} (h0 : 0 ≤ i) (h1 : i < n) : ixN n i = some i.toNat := by
  unfold ixN
  rw [if_pos h0, if_pos h1]
theorem ixN_neg {n : Nat} {i : Int} (h0 : i < 0) (h1 : -(n : Int) ≤ i) : ixN n i = some (i + n).toNat := by
  unfold ixN
  rw [if_neg (by omega), if_pos h1]
theorem atI_nn {α : Type} {xs : List α} {i : Int} {x : α} (h0 : 0 ≤ i) (h1 : xs[i.toNat]? = some x) : atI xs i = some x := by
  unfold atI
  have h2 : i.toNat < xs.length := by
    rcases Nat.lt_or_ge i.toNat xs.length with h | h
    · exact h
    · rw [List.getElem?_eq_none h] at h1
      cases h1
  rw [ixN_nn h0 (by omega)]
  exact h1
theorem atI_neg {α : Type} {xs : List α} {i : Int} {x : α} (h0 : i < 0) (hn : -(xs.length : Int) ≤ i) (h1 : xs[(i + xs.length).toNat]? = some x) : atI xs i = some x := by
  unfold atI
  rw [ixN_neg h0 hn]
  exact h1
theorem dI_len (is : List Int) : (dI is).length = is.length := List.length_map ..
theorem dI_get {is : List Int} {k : Nat} {x : Int} (h : is[k]? = some x) : (dI is)[k]? = some (.int x) := by
  unfold dI
  rw [List.getElem?_map, h]
  rfl
theorem atI_dI {is : List Int} {i : Int} (h0 : 0 ≤ i) (h1 : i < is.length) : ∃ x, is[i.toNat]? = some x ∧ atI (dI is) i = some (.int x) := by
  have h2 : i.toNat < is.length := by omega
  exact ⟨is[i.toNat], List.getElem?_eq_getElem h2, atI_nn h0 (dI_get (List.getElem?_eq_getElem h2))⟩
theorem dI_set (is : List Int) (k : Nat) (x : Int) : (dI is).set k (.int x) = dI (is.set k x) := by
  unfold dI
  rw [List.map_set]
theorem dI_app (is js : List Int) : dI is ++ dI js = dI (is ++ js) := by
  unfold dI
  rw [List.map_append]
theorem dI_mem {is : List Int} {d : D} (h : d ∈ dI is) : ∃ x, x ∈ is ∧ d = .int x := by
  unfold dI at h
  obtain ⟨x, h1, h2⟩ := List.mem_map.mp h
  exact ⟨x, h1, h2.symm⟩
def cutL {α : Type} (ds : List α) (lo hi : Option Int) : List α := (ds.drop (HT.sIx ds.length 0 lo)).take (HT.sIx ds.length ds.length hi - HT.sIx ds.length 0 lo)
theorem cutD_dI (is : List Int) (lo hi : Option Int) : cutD (dI is) lo hi = dI (cutL is lo hi) := by
  unfold cutD cutL
  rw [dI_len]
  unfold dI
  rw [List.map_take, List.map_drop]
theorem cutL_hi {α : Type} (is : List α) (k : Nat) : cutL is none (some (k : Int)) = is.take k := by
  unfold cutL
  rw [HT.sIx_none, HT.sIx_nat, List.drop_zero, Nat.sub_zero]
  rcases Nat.le_total k is.length with h | h
  · rw [Nat.min_eq_left h]
  · rw [Nat.min_eq_right h, List.take_of_length_le h, List.take_of_length_le (Nat.le_refl _)]
theorem cutL_lo {α : Type} (is : List α) (k : Nat) : cutL is (some (k : Int)) none = is.drop k := by
  unfold cutL
  rw [HT.sIx_none, HT.sIx_nat]
  rcases Nat.le_total k is.length with h | h
  · rw [Nat.min_eq_left h, List.take_of_length_le (by rw [List.length_drop]; exact Nat.le_refl _)]
  · rw [Nat.min_eq_right h, List.drop_of_length_le h, List.drop_of_length_le (Nat.le_refl _)]
    exact List.take_nil
theorem cutL_len {α : Type} (is : List α) (j k : Nat) : (cutL is (some (j : Int)) (some (k : Int))).length = min k is.length - min j is.length := by
  unfold cutL
  rw [HT.sIx_nat, HT.sIx_nat, List.length_take, List.length_drop]
  omega
theorem enum_mem {ds : List D} {d : D} (h : d ∈ enumD ds) : ∃ (i : Nat) (e : D), ds[i]? = some e ∧ d = .par [.int i, e] := by
  unfold enumD at h
  obtain ⟨⟨a, b⟩, h1, rfl⟩ := List.mem_map.mp h
  obtain ⟨i, hi⟩ := List.getElem?_of_mem h1
  rw [List.getElem?_zip_eq_some] at hi
  have h2 : i < ds.length := by
    rcases Nat.lt_or_ge i ds.length with h | h
    · exact h
    · rw [List.getElem?_eq_none h] at hi
      cases hi.2
  rw [rg_get _ _ _ h2] at hi
  refine ⟨i, b, hi.2, ?_⟩
  have h3 := hi.1
  simp only [Option.some.injEq] at h3
  rw [← h3, Int.zero_add]
theorem rg_mem {n : Nat} {lo : Int} {d : D} (h : d ∈ rg lo n) : ∃ i : Int, lo ≤ i ∧ i < lo + n ∧ d = .int i := by
  obtain ⟨i, hi⟩ := List.getElem?_of_mem h
  have h2 : i < n := by
    rcases Nat.lt_or_ge i n with h | h
    · exact h
    · rw [List.getElem?_eq_none (by rw [rg_len]; exact h)] at hi
      cases hi
  rw [rg_get _ _ _ h2] at hi
  exact ⟨lo + i, by omega, by omega, (Option.some.inj hi).symm⟩
theorem fmod2 (x : Int) {c : Int} (h : 0 < c) : 0 ≤ x.fmod c ∧ x.fmod c < c := ⟨Int.fmod_nonneg_of_pos x h, Int.fmod_lt_of_pos x h⟩
theorem dB_len (bs : List Bool) : (dB bs).length = bs.length := List.length_map ..
theorem dB_true (k : Nat) : dB (List.replicate k true) ++ [.bl true] = dB (List.replicate (k + 1) true) := by
  unfold dB
  rw [List.replicate_succ', List.map_append]
  rfl
theorem all_true (k : Nat) : (List.replicate k true).all id = true := by
  induction k with
  | zero => rfl
  | succ k ih => rw [List.replicate_succ, List.all_cons, ih]; rfl
theorem zip_self {ds : List D} {p : D} (h : p ∈ zipD ds ds) : ∃ a, a ∈ ds ∧ p = .par [a, a] := by
  unfold zipD at h
  obtain ⟨⟨a, b⟩, h1, rfl⟩ := List.mem_map.mp h
  obtain ⟨i, hi⟩ := List.getElem?_of_mem h1
  rw [List.getElem?_zip_eq_some] at hi
  have e : a = b := Option.some.inj (hi.1.symm.trans hi.2)
  exact ⟨a, List.mem_of_getElem? hi.1, by rw [← e]⟩
theorem cmul_bit (a : Int) (k : Bool) : CMul a (if k = true then 1 else 0) := .inr (by cases k <;> decide)
/-- places and numbers -/
def enI (k : Int) : List Int → List D
  | [] => []
  | x :: t => .par [.int k, .int x] :: enI (k + 1) t
theorem enum_dI (is : List Int) : enumD (dI is) = enI 0 is := by
  have h : ∀ (is : List Int) (k : Int), ((rg k (dI is).length).zip (dI is)).map (fun q => D.par [q.1, q.2]) = enI k is := by
    intro is
    induction is with
    | nil => intro k; rfl
    | cons x t ih =>
      intro k
      show D.par [.int k, .int x] :: ((rg (k + 1) (dI t).length).zip (dI t)).map (fun q => D.par [q.1, q.2]) = _
      rw [ih]
      rfl
  exact h is 0
theorem zip_dI {xs ys : List Int} {p : D} (h : p ∈ zipD (dI xs) (dI ys)) : ∃ q : Int × Int, q ∈ xs.zip ys ∧ p = .par [.int q.1, .int q.2] := by
  unfold zipD at h
  obtain ⟨⟨a, b⟩, h1, rfl⟩ := List.mem_map.mp h
  unfold dI at h1
  rw [List.zip_map] at h1
  obtain ⟨q, h2, h3⟩ := List.mem_map.mp h1
  cases h3
  exact ⟨q, h2, rfl⟩
theorem zip_dI_len (xs ys : List Int) : (zipD (dI xs) (dI ys)).length = min xs.length ys.length := by
  unfold zipD
  rw [List.length_map, List.length_zip, dI_len, dI_len]
theorem atI_last {α : Type} (ds : List α) (d : α) (i : Int) (h : i = ds.length) : atI (ds ++ [d]) i = some d := by
  subst h
  refine atI_nn (by omega) ?_
  rw [Int.toNat_natCast, List.getElem?_append_right (Nat.le_refl _), Nat.sub_self]
  rfl
theorem lay_ints : ∀ is : List Int, PyData.canLayAll0 (pds (dI is)) = true
  | [] => rfl
  | x :: t => lay_ints t
theorem dep_ints : ∀ is : List Int, PyData.depthAll (pds (dI is)) ≤ 1
  | [] => Nat.zero_le _
  | x :: t => by
    have h := dep_ints t
    show max (PyData.depth (.int x)) (PyData.depthAll (pds (dI t))) ≤ 1
    have e : PyData.depth (.int x) ≤ 1 := by simp [PyData.depth]
    omega
theorem fit_l (is : List Int) : (D.lst (dI is)).fit := by
  refine Bool.and_eq_true_iff.mpr ⟨lay_ints is, decide_eq_true ?_⟩
  have h := dep_ints is
  show PyData.depth (.list (pds (dI is))) ≤ 64
  simp only [PyData.depth]
  omega
theorem fit_t (is : List Int) : (D.tup (dI is)).fit := by
  refine Bool.and_eq_true_iff.mpr ⟨lay_ints is, decide_eq_true ?_⟩
  have h := dep_ints is
  show PyData.depth (.tuple (pds (dI is))) ≤ 64
  simp only [PyData.depth]
  omega
theorem eqv_dI : ∀ xs ys : List Int, PyData.eqvAll (pds (dI xs)) (pds (dI ys)) = decide (xs = ys)
  | [], [] => rfl
  | [], _ :: _ => by simp [PyData.eqvAll, pds, dI]
  | _ :: _, [] => by simp [PyData.eqvAll, pds, dI]
  | x :: xs, y :: ys => by
    have ih := eqv_dI xs ys
    show (PyData.eqv (.int x) (.int y) && PyData.eqvAll (pds (dI xs)) (pds (dI ys))) = _
    rw [ih]
    by_cases e1 : x = y <;> by_cases e2 : xs = ys <;> simp [PyData.eqv, e1, e2]
def toB : List D → List Bool
  | .bl i :: t => i :: toB t
  | _ :: t => false :: toB t
  | [] => []
/-- a box of draws -/
def Box (n : Nat) (o : MO) : Prop := ∃ x y z : Int, o = .lst [.int x, .int y, .int z] ∧ 0 ≤ x ∧ 17 ≤ y ∧ y ≤ 2 ^ 62 ∧ 0 ≤ z ∧ z ≤ (n : Int)
theorem Box.mono {n m : Nat} {o : MO} (h : Box n o) (l : n ≤ m) : Box m o := by
  obtain ⟨x, y, z, h1, h2, h3, h4, h5, h6⟩ := h
  exact ⟨x, y, z, h1, h2, h3, h4, h5, by omega⟩
/-- where a box with so many draws stands -/
theorem Box.below {n m : Nat} {o : MO} (h : Box n o) : o.below m := by
  obtain ⟨x, y, z, rfl, _⟩ := h
  trivial
theorem Box.plain {n : Nat} {o : MO} (h : Box n o) : o.plain := by
  obtain ⟨x, y, z, rfl, _⟩ := h
  trivial
end Gd
namespace Gd
open PySem PySem.Spec PyProof.Rows L2
/-! ### calls with keywords, calls that leave defaults -/
def upK (K : PySem.W.Frag) (w : WA) : TA := upA K w
section
variable {X : Cx} {e : Expr} {es : List Expr} {kws : List Keyword} {we : WE} {wr wa wk : WA} {nm : Option Str} {kpos : Pos}
theorem pk_imp {a a' : TA} (h : PK X kws a) (i : ∀ σ H Q, a' σ H Q → a σ H Q) : PK X kws a' := ⟨fun p pins s σ H Q I w => h.run p pins s σ H Q I (i σ H Q w)⟩
theorem k_nil : PK X [] (upK X.K waNil) := pk_imp pk_nil fun σ H Q ⟨A, as, s, R, ok, w, k⟩ => k [] H [] s as Stp.refl ok trivial w
theorem k_cons (ha : PE X e (up X.K we)) (hr : PK X kws (upK X.K wr)) : PK X (⟨nm, e, kpos⟩ :: kws) (upK X.K (waCons we wr)) :=
  pk_imp (pk_cons ha hr) fun σ H Q ⟨A, as, s, R, ok, w, k⟩ =>
    ⟨A, as, s, _, ok, w, fun v1 H1 p s1 as1 st1 ok1 r1 w1 => ⟨A, as1, s1, _, ok1, w1, fun vs H2 ps s2 as2 st2 ok2 r2 w2 => k (v1 :: vs) H2 (p :: ps) s2 as2 (st1.trans st2) ok2 ⟨r1.mono st2.le st2.pre, r2⟩ w2⟩⟩
theorem RepSs.app {K : PySem.W.Frag} {F : Hp} {as : List Addr} : ∀ {vs ws : List V} {ps qs : List Sl}, RepSs K F as vs ps → RepSs K F as ws qs → RepSs K F as (vs ++ ws) (ps ++ qs)
  | [], _, [], _, _, h => h
  | _ :: _, _, _ :: _, _, h1, h => ⟨h1.1, RepSs.app h1.2 h⟩
  | [], _, _ :: _, _, h, _ => h.elim
  | _ :: _, _, [], _, h, _ => h.elim
theorem RepSs.monoS {K : PySem.W.Frag} {F F' : Hp} {as as' : List Addr} (le : Le F F') (p : as <+: as') : ∀ {vs : List V} {ps : List Sl}, RepSs K F as vs ps → RepSs K F' as' vs ps
  | [], [], _ => trivial
  | _ :: _, _ :: _, h => ⟨h.1.mono le p, RepSs.monoS le p h.2⟩
  | [], _ :: _, h => h.elim
  | _ :: _, [], h => h.elim
end
/-- what binds values and then keywords' values -/
def kg {α : Type} (a b : List α) : List α := a ++ b
structure FnKw (P : Program) (w : World) (K : PySem.W.Frag) (mg : Str → Option Value) (base : Heap) (x : Str) (k n a : Nat) (ks : List Str) (fs : FS) : Prop where
  ex : ∃ (f : Addr) (fd : FuncData) (ps : List Str), FnOk P w K mg base CX0 k f fd ps (spD K n fs) ∧ mg x = some (.ref f) ∧ PySem.W.keepIn K (.ref f) = true ∧ KBn K fd ps a ks (kg (α := Value)) (kg (α := V))
/-- plain data that a def's head holds -/
def atomV : D → V
  | .bl b => .bl b
  | .int i => .int i
  | .str x => .str x
  | _ => .non
def isAtom : D → Prop
  | .bl _ => True
  | .int _ => True
  | .str _ => True
  | .non => True
  | _ => False
theorem atom_rep {K : PySem.W.Frag} {F : Hp} {as : List Addr} : ∀ {dd : List D}, (∀ d ∈ dd, isAtom d) → RepSs K F as (dd.map atomV) (dd.map .dat)
  | [], _ => trivial
  | d :: dd, h => by
    refine ⟨?_, atom_rep fun x hx => h x (List.mem_cons_of_mem _ hx)⟩
    have h1 := h d (List.mem_cons_self ..)
    cases d with
    | non => exact .non
    | bl b => exact .bl
    | int b => exact .int
    | str b => exact .str
    | _ => exact h1.elim
structure FnDf (P : Program) (w : World) (K : PySem.W.Frag) (mg : Str → Option Value) (base : Heap) (x : Str) (k n : Nat) (dd : List D) (fs : FS) : Prop where
  ex : ∃ (f : Addr) (fd : FuncData) (ps : List Str) (ds : List Value), FnOk P w K mg base CX0 k f fd ps (spD K n fs) ∧ mg x = some (.ref f) ∧ PySem.W.keepIn K (.ref f) = true ∧ Binds K fd ps ds ∧ Vals (dd.map atomV) ds ∧ ∀ d ∈ dd, isAtom d
section
variable {X : Cx} {x : Str} {e : Expr} {es : List Expr} {kws : List Keyword} {p pos : Pos} {wa wk : WA} {k n a : Nat} {ks : List Str} {fs : FS} {dd : List D}
def wCallK (n a b : Nat) (f : FS) (wa wk : WA) : WE := fun s R => wa s fun ps s1 => wk s1 fun qs s2 => (ps.length = a ∧ qs.length = b) ∧ callP n f (ps ++ qs) s2 R
def wCallD (n : Nat) (f : FS) (dd : List D) (wa : WA) : WE := fun s R => wa s fun ps s1 => callP n f (ps ++ dd.map .dat) s1 R
theorem e_callK (G : FnKw X.prog X.w X.K X.mg X.base x k n a ks fs) (hr : Room k X.A) (hg : Gl X x) (ha : PA X (e :: es) (upA X.K wa)) (hkw : PK X kws (upK X.K wk)) (hall : (backToKw pos (keywordEach kws X.env)).all (·.1.isSome) = true := by rfl) (hks : (backToKw pos (keywordEach kws X.env)).filterMap (·.1) = ks := by rfl)
    (hdb : (x == ("__debug__" : Str)) = false := by decide) (he : starEach (e :: es) X.env = (false, eval e X.env) :: starEach es X.env := by rfl)
    (hpl : ((backTo pos (starEach (e :: es) X.env)).any (·.1) || (backToKw pos (keywordEach kws X.env)).any (·.1.isNone)) = false := by rfl) :
    PE X (.Call (.Name x p) (e :: es) kws pos) (up X.K (wCallK n a ks.length fs wa wk)) := by
  obtain ⟨f, fd, ps, F, hm, hk, hb⟩ := G.ex
  exact pe_imp (pe_callN F hr hg hm hk hb L2.pass0 ha hkw hall hks hdb he hpl) fun σ H Q ⟨A, as, s, R, ok, w, kk⟩ =>
    ⟨A, as, s, _, ok, w, fun vs H1 ps s1 as1 st1 ok1 r1 w1 => ⟨A, as1, s1, _, ok1, w1, fun zs H2 qs s2 as2 st2 ok2 r2 w2 =>
      ⟨r1.len.trans w2.1.1, r2.len.trans w2.1.2, callP_ok ok2 ((r1.monoS st2.le st2.pre).app r2) w2.2 fun v3 H3 t s3 as3 st3 ok3 r3 w3 => kk v3 H3 t s3 as3 (st1.trans (st2.trans st3)) ok3 r3 w3⟩⟩⟩
theorem e_callD (G : FnDf X.prog X.w X.K X.mg X.base x k n dd fs) (hr : Room k X.A) (hg : Gl X x) (ha : PA X (e :: es) (upA X.K wa)) (hdb : (x == ("__debug__" : Str)) = false := by decide) (he : starEach (e :: es) X.env = (false, eval e X.env) :: starEach es X.env := by rfl)
    (hpl : (backTo pos (starEach es X.env)).any (·.1) = false := by rfl) : PE X (.Call (.Name x p) (e :: es) [] pos) (up X.K (wCallD n fs dd wa)) := by
  obtain ⟨f, fd, ps, ds, F, hm, hk, hb, hv, hd⟩ := G.ex
  exact pe_imp (pe_call F hr hg hm hk hb hv L2.pass0 ha hdb he hpl) fun σ H Q ⟨A, as, s, R, ok, w, kk⟩ =>
    ⟨A, as, s, _, ok, w, fun vs H1 ps s1 as1 st1 ok1 r1 w1 =>
      callP_ok ok1 (r1.app (atom_rep hd)) w1 fun v3 H3 t s3 as3 st3 ok3 r3 w3 => kk v3 H3 t s3 as3 (st1.trans st3) ok3 r3 w3⟩
theorem FnKw.mono {P : Program} {w : World} {K : PySem.W.Frag} {mg : Str → Option Value} {base : Heap} {j : Nat} (G : FnKw P w K mg base x j n a ks fs) (h : j ≤ k) : FnKw P w K mg base x k n a ks fs := by
  obtain ⟨f, fd, ps, F, r⟩ := G.ex
  exact ⟨f, fd, ps, F.mono h, r⟩
theorem FnDf.mono {P : Program} {w : World} {K : PySem.W.Frag} {mg : Str → Option Value} {base : Heap} {j : Nat} (G : FnDf P w K mg base x j n dd fs) (h : j ≤ k) : FnDf P w K mg base x k n dd fs := by
  obtain ⟨f, fd, ps, ds, F, r⟩ := G.ex
  exact ⟨f, fd, ps, ds, F.mono h, r⟩
/-- every parameter is written, the last ones by keyword -/
theorem kbn_all {K : PySem.W.Frag} {qual : Str} {params : Arguments} {body : List Stmt} {scope : Scope} {kws : List (Str × V)} {f : Addr} {fd : FuncData} {ps : List Str} (F : FunD K x qual params body scope [] kws f fd)
    (h : ∀ (kV doc pm : Value) (an : Option Addr) (cdv ct : Value) (us ws : List Value), us.length = a → ws.length = ks.length → bindArgs (PySem.W.fnOf x qual params body scope .none kV doc pm an cdv ct) ⟨us, ks.zip ws⟩ = pure (ps.zip (us ++ ws))) : KBn K fd ps a ks (kg (α := Value)) (kg (α := V)) := by
  obtain ⟨oc, od, dV, kV, doc, pm, an, cdv, ct, osl, rfl, lk, hcd, hD, hK⟩ := F.ex
  rcases hD with ⟨_, rfl⟩ | ⟨e, _⟩
  · exact ⟨fun s us ws _ l1 l2 => .of_eq (h kV doc pm an cdv ct us ws l1 l2), fun r1 r2 => r1.append r2⟩
  · exact absurd rfl e
end
section
variable {s : S} {R : Sl → S → Prop} {n a b : Nat} {fs : FS} {wa wk : WA} {ps qs : List Sl} {dd : List D}
def ckK (n a b : Nat) (f : FS) (ps qs : List Sl) (s : S) (R : Sl → S → Prop) : Prop := (ps.length = a ∧ qs.length = b) ∧ callP n f (ps ++ qs) s R
def cdK (n : Nat) (f : FS) (dd : List D) (ps : List Sl) (s : S) (R : Sl → S → Prop) : Prop := callP n f (ps ++ dd.map Sl.dat) s R
end
/-- a statement that is not reached -/
def wNo : WS := fun _ _ => False
theorem s_no {X : Cx} {st : Stmt} : PS X st (upS X.K wNo) := ⟨fun _ _ _ _ _ _ ⟨_, _, _, _, _, w, _⟩ => w.elim⟩
/-! ### the law's own def, as it is called -/
def fs_law : FS := fun args μ R => ∃ is : List Int, args = [.dat (.scr (dI is))] ∧ is.length ≤ 63 ∧ μ = [] ∧ R (.dat (.bl true)) []
theorem law_in {K : PySem.W.Frag} {H : Hp} {a : Addr} {ns : List Int} {E : XK} (hS : SqL K H a (ns.map V.int)) (hl : ns.length ≤ 63) : spD K 1 fs_law [.ref a] H (fun v _ => v = .bl true) E := by
  have hL : RepL K (vw { M0 := fun _ => False, H0 := H, pin := H, as0 := [], He := H } [] [] H) (ns.map V.int) (dI ns) := by
    clear hS hl
    induction ns with
    | nil => exact .nil
    | cons x t ih => exact .cons .int ih
  have hv : ∀ a, vw { M0 := fun _ => False, H0 := H, pin := H, as0 := [], He := H } [] [] H a = H a := fun a => by
    unfold vw
    rw [if_neg]
    rintro (h | ⟨i, o, h, _⟩)
    · exact h
    · cases h
  have hve : vw { M0 := fun _ => False, H0 := H, pin := H, as0 := [], He := H } [] [] H = H := funext hv
  refine ⟨{ M0 := fun _ => False, H0 := H, pin := H, as0 := [], He := H }, [], [.dat (.scr (dI ns))], [], fun r _ => r = .dat (.bl true), rfl, rfl, rfl, ?_, ⟨ns, rfl, hl, rfl, rfl⟩, ?_⟩
  · refine ⟨rfl, List.nodup_nil, (fun a h => nomatch h), (fun a h => nomatch h), (fun a h => h.elim), ?_, fun i r h => ?_, (fun i a o h => by cases h), rfl, (fun a h => nomatch h), fun a h => h⟩
    · show Le H (vw { M0 := fun _ => False, H0 := H, pin := H, as0 := [], He := H } [] [] H)
      rw [hve]
      exact Le.refl _
    · cases i with
      | zero =>
        cases h
        refine ⟨.ref a, rfl, ?_⟩
        show Rep K (vw { M0 := fun _ => False, H0 := H, pin := H, as0 := [], He := H } [] [] H) (.ref a) (.scr (dI ns))
        rw [hve] at hL ⊢
        exact .scr hS hL
      | succ i => cases h
  · rintro v H' r μ' as' _ _ _ hr rfl
    cases hr
    rfl
def enK (ps : List Sl) (s : S) (R : List D → S → Prop) : Prop := match ps with
  | [p] => seqD p fun ds => R (enumD ds) s
  | _ => False
def zpK (ps : List Sl) (s : S) (R : List D → S → Prop) : Prop := match ps with
  | [.dat d, .dat e] => zipG d e fun ds => R ds s
  | _ => False
def r1K (ps : List Sl) (s : S) (R : List D → S → Prop) : Prop := match ps with
  | [.dat (.int j)] => fits j ∧ R (rg 0 j.toNat) s
  | _ => False
def r2K (ps : List Sl) (s : S) (R : List D → S → Prop) : Prop := match ps with
  | [.dat (.int i), .dat (.int j)] => (fits i ∧ fits j) ∧ R (rg i (j - i).toNat) s
  | _ => False
end Gd
namespace RZ
open PySem PySem.Spec
section
variable {prog : Program} {w : World} {A : Around} {E : Value → Shared → Prop} {s : Shared}
/-- what is left of a walk behind its first item -/
theorem shiftW {I : Addr} {fp wr : List Addr} {G : Array GenState → Array GenState → Prop} {n : Nat} {P : Nat → Value → Prop} {St : Nat → Shared → Prop} (W : WalksS prog w A I fp wr G (n + 1) P St) :
    WalksS prog w A I fp wr G n (fun i v => P (i + 1) v) (fun i s => St (i + 1) s) where
  sub := W.sub
  grefl := W.grefl
  gtrans := W.gtrans
  frame := fun i s h' tk st htk hk => W.frame (i + 1) s h' tk st htk hk
  item := fun i s Q E hi st hQ => W.item (i + 1) s Q E (by omega) st hQ
  done := fun s Q E st hQ => W.done s Q E st hQ
  self := fun i s Q E st hQ => W.self (i + 1) s Q E st hQ
theorem unpack_star {t : Addr} {items : Array Value} {x : Value} {r : List Value} {Q : List Value → Shared → Prop} (hh : A.handled = none) (ht : s.heap.IsTuple t items) (hi : items.toList = x :: r) (hsz : items.size ≤ sizeLine)
    (hQ : ∀ (h' : Heap) (tk : Nat), (∀ b o, s.heap.get? b = some o → h'.get? b = some o) → Q [x, .ref h'.objs.size] { s with heap := h'.push { cls := .type "list", data := .seq r.toArray }, toks := tk }) :
    wpAny (model prog w) A (unpackItems (.ref t) 2 (some 1)) Q E s := by
  have hlt : t ≠ s.heap.objs.size := by obtain ⟨o, ho, _⟩ := ht; exact Nat.ne_of_lt (Heap.lt_size ho)
  have hs1 : items.size = r.length + 1 := by rw [← Array.length_toList, hi]; rfl
  unfold unpackItems
  refine wpAny_bind ?_
  unfold notIterableAtAll
  refine wpAny_bind (wpAny_specialOf ht.typeIs F.slot_tuple_iter.lookup ?_)
  refine wpAny_pure ?_
  simp only [Bool.false_eq_true, if_false]
  refine wpAny_bind (wpAny_holding (wpAny_pyIter_tuple ht ?_))
  refine wpAny_bind (wpAny_holding (wpAny_draw_tuple hlt 1 0 _ _ ⟨_, Heap.get?_push_size _ rfl, rfl, rfl⟩ (ht.push _) (by omega) fun h₁ hit₁ hs₁ => ?_))
  have hd : List.take 1 (List.drop 0 items.toList) = [x] := by rw [hi]; rfl
  rw [hd]
  rw [if_neg (by simp)]
  have ht₁ : h₁.IsTuple t items := (ht.push _).extBut hs₁.extBut hlt
  have hI : s.heap.objs.size < h₁.objs.size := by
    obtain ⟨o, ho, _⟩ := hit₁
    exact Heap.lt_size ho
  have hw : items.size = (items.size - 1) + 1 := by omega
  have W0 := (Walks.tuple (prog := prog) (w := w) (A := A.in1) hh s.heap.objs.size t hlt items).toS
  rw [hw] at W0
  refine wpAny_bind (wpAny_holding (wpAny_collect_iter (T := "tuple_iterator") (.inr (.inr (.inr rfl))) (shiftW W0) (fun i s st => st.1.typeIs) (s := { s with heap := h₁ }) ⟨hit₁, ht₁⟩ (fun b hb => ?_) (List.mem_cons_self ..) (fun s' acc hm hacc => ?_) (by omega)))
  · show b < h₁.objs.size
    rcases List.mem_cons.mp hb with rfl | hb
    · exact hI
    · rw [List.mem_singleton.mp hb]
      obtain ⟨o, ho, _⟩ := ht₁
      exact Heap.lt_size ho
  · have hr : acc.toList = r := by
      have e1 : acc.size = items.size - 1 := hacc.1
      apply List.ext_getElem?
      intro j
      have e2 : items.toList[j + 1]? = r[j]? := by
        rw [hi]
        rfl
      rw [← e2, Array.getElem?_toList, Array.getElem?_toList]
      cases hj : acc[j]? with
      | some v => exact (hacc.2 j v hj).symm
      | none =>
        rw [Array.getElem?_eq_none_iff] at hj
        exact (Array.getElem?_eq_none_iff.mpr (by omega)).symm
    rw [hr]
    show wpAny _ A (if r.length < 0 then _ else _) Q E s'
    rw [if_neg (by omega)]
    have e3 : List.take (r.length - (2 - 1 - 1)) r = r := List.take_of_length_le (by omega)
    have e4 : List.drop (r.length - (2 - 1 - 1)) r = [] := List.drop_of_length_le (by omega)
    rw [e3, e4]
    refine wpAny_bind (wpAny_newObj_type ?_ (by simp [sizeOk]; omega))
    refine wpAny_pure ?_
    obtain ⟨hp, g, d, tk, os⟩ := s'
    have h1 : g = s.gens := hm.gens
    have h2 : d = s.drawn := hm.drawn
    have h3 : os = s.os := hm.os
    subst h1 h2 h3
    exact hQ hp tk fun b o e => hm.heap b o (fun hb => absurd (Heap.lt_size e) ((List.mem_singleton.mp hb) ▸ Nat.lt_irrefl _)) (hs₁.extBut b o (fun hb => absurd (Heap.lt_size e) (hb ▸ Nat.lt_irrefl _)) (Heap.get?_push_of_some _ e))
end
end RZ
namespace Gd
open PySem PySem.Spec PyProof.Rows L2
/-- a, *b = a tuple -/
def gStar (K : PySem.W.Frag) (t : TGs) : TG := fun v σ H Q => ∃ a x xs, v = .ref a ∧ SqT K H a (x :: xs) ∧ ∀ b, H b = none → t [x, .ref b] σ (upd H b (.lst xs)) Q
theorem pg_star {X : Cx} {pos p : Pos} {e1 e2 : Expr} {k : Nat} {t : TGs} (hc : X.calm = true) (h : PGs X [e1, e2] t)
    (hn : (assignEach [e1, .Starred e2 p] X.env).length = 2 := by rfl) (hst : (assignEach [e1, .Starred e2 p] X.env).findIdx? (·.1) = some 1 := by rfl)
    (hm : (assignEach [e1, .Starred e2 p] X.env).map (·.2) = (assignEach [e1, e2] X.env).map (·.2) := by rfl) : PG X (.Tuple [e1, .Starred e2 p] k pos) (gStar X.K t) := by
  refine ⟨fun pins s σ H v u Q I r hw => ?_⟩
  obtain ⟨a, x, xs, e1, hq, hw⟩ := hw
  subst e1
  cases r
  obtain ⟨its, rv, ht, hz⟩ := I.tuple hq
  rw [arm_assign_Tuple]
  refine wpAny_bind (wpAny_standAt ?_)
  unfold unpack
  rw [hn, hst, hm]
  cases rv with
  | cons r1 rr =>
    rename_i y ys
    refine wpAny_bind (wpAny_holding (RZ.unpack_star (x := y) (r := ys) (I.ok.hd hc) ht (by simp) (by simp only [List.size_toArray, List.length_cons]; rw [← rr.length]; exact hz) fun h' tk hk => ?_))
    have I2 : Inv X pins σ H { s with heap := h', toks := tk } := I.kept hk
    have hf : H h'.objs.size = none := I2.hok.fresh (Nat.le_refl _)
    refine h.run pins _ σ (upd H h'.objs.size (.lst xs)) [x, .ref h'.objs.size] _ Q (I2.laid (t' := tk) (fun c o e => Heap.get?_push_of_some _ e) (Nat.le_refl _) (show ObjOk X.prog X.w _ _ _ (.lst xs) from ⟨?_, ys, 0, rr, Heap.get?_push_size _ rfl⟩)) (.cons r1 (.cons rfl .nil)) (hw _ hf)
    exact Nat.le_trans (Nat.le_succ _) hz
/-- the first by one name, a list of the others by the other -/
def wgStar (i j : Nat) : WG := fun r s R => one s r fun d => match d with
  | .tup (x :: ds) => R ⟨put (put s.Γ i (.dat x)) j (.cel s.μ.length), s.μ ++ [some (.lst ds)]⟩
  | _ => False
theorem g_star {X : Cx} {x y : Str} {k : Nat} {pos p1 p2 p3 : Pos} (i j : Nat) (hc : X.calm = true) (hN : X.N.Nodup) (hi : X.N[i]? = some x := by rfl) (hj : X.N[j]? = some y := by rfl)
    (hx : Loc X.env.scope x := by first | exact Or.inl rfl | exact Or.inr rfl) (hy : Loc X.env.scope y := by first | exact Or.inl rfl | exact Or.inr rfl)
    (hf : X.fn x = true ∨ X.env.scope.names.lookup x = some .local := by first | exact .inl rfl | exact .inr rfl | assumption) (hg : X.fn y = true ∨ X.env.scope.names.lookup y = some .local := by first | exact .inl rfl | exact .inr rfl | assumption) :
    PG X (.Tuple [.Name x p1, .Starred (.Name y p2) p3] k pos) (upG X.K [i, j] (wgStar i j)) := pg_imp (pg_star hc (pgs_cons (pg_name hN hi hx hf) (pgs_cons (pg_name hN hj hy hg) pgs_nil))) fun v σ H Q ⟨A, as, s, r, R, ok, hr, w, kk⟩ => by
  obtain ⟨d, e, w⟩ := optK_of w
  have rd := ok.rdc hr e
  cases d with
  | tup ds =>
    cases ds with
    | nil => exact w.elim
    | cons d ds =>
      obtain ⟨_, a, xs, rfl, h1, h2⟩ := rd
      cases h2 with
      | cons h3 h4 =>
        rename_i z ys
        refine ⟨a, z, ys, rfl, h1.sq, fun b hb => ?_⟩
        obtain ⟨st, ok', el⟩ := ok.alloc (u := .lst ys) (o := .lst ds) hb (fun F le => ⟨ys, upd_same, RepL.mono le _ h4⟩)
        have ok1 := ok'.named (r := .dat d) (v := z) (Rep.mono st.le d h3) i
        have ok2 := ok1.named (r := .cel s.μ.length) (v := .ref b) ⟨b, el, rfl⟩ j
        exact ⟨z, [.ref b], rfl, .ref b, [], rfl, rfl, kk _ _ _ _ (List.prefix_append _ _) ((wipe_set (by simp)).trans (wipe_set (by simp))) ok2 w⟩
  | _ => exact w.elim
end Gd
/-! what a text computes, as functions over the data layer -/
namespace Ge
open PySem PySem.Spec PyProof.Rows L2 Gd
abbrev Ga := List (Option Sl)
abbrev Mu := List (Option MO)
structure Ev (ρ : Type) where
  run : {α : Type} → Ga → Mu → (ρ → Mu → Option α) → Option α
  dir : Ga → Mu → Option (ρ × Mu)
  nat : ∀ {α : Type} (Γ : Ga) (μ : Mu) (k : ρ → Mu → Option α), run Γ μ k = (dir Γ μ).bind fun p => k p.1 p.2
section
variable {ρ σ β : Type}
def Ev.ret (r : ρ) : Ev ρ := ⟨fun _ μ k => k r μ, fun _ μ => some (r, μ), fun _ _ _ => rfl⟩
def Ev.bind (f : Ev ρ) (g : ρ → Ev σ) : Ev σ := ⟨fun Γ μ k => f.run Γ μ fun r μ1 => (g r).run Γ μ1 k, fun Γ μ => (f.dir Γ μ).bind fun p => (g p.1).dir Γ p.2, fun Γ μ k => by
  rw [f.nat, Option.bind_assoc]
  congr 1
  funext p
  exact (g p.1).nat ..⟩
/-- a step that always goes -/
abbrev abind {α γ : Type} (x : Option α) (f : α → Option γ) : Option γ := match x with
  | some a => f a
  | none => none
theorem abind_eq {α γ : Type} (x : Option α) (f : α → Option γ) : abind x f = x.bind f := by cases x <;> rfl
def Ev.primG (a : Bool) (o : Ga → Mu → Option β) : Ev β := ⟨fun Γ μ k => cond a (abind (o Γ μ) fun b => k b μ) ((o Γ μ).bind fun b => k b μ), fun Γ μ => (o Γ μ).bind fun b => some (b, μ), fun Γ μ k => by
  cases a
  · show (o Γ μ).bind _ = _
    rw [Option.bind_assoc]
    rfl
  · show abind (o Γ μ) _ = _
    rw [abind_eq, Option.bind_assoc]
    rfl⟩
abbrev Ev.prim (o : Ga → Mu → Option β) : Ev β := .primG false o
abbrev Ev.adm (o : Ga → Mu → Option β) : Ev β := .primG true o
/-- .. and what may be written is written -/
def Ev.primM (o : Ga → Mu → Option β) (c : Mu → β → Mu) : Ev β := ⟨fun Γ μ k => (o Γ μ).bind fun b => k b (c μ b), fun Γ μ => (o Γ μ).bind fun b => some (b, c μ b), fun Γ μ k => by
  rw [Option.bind_assoc]
  rfl⟩
def Ev.alloc (o : MO) : Ev Sl := ⟨fun _ μ k => k (.cel μ.length) (μ ++ [some o]), fun _ μ => some (.cel μ.length, μ ++ [some o]), fun _ _ _ => rfl⟩
def evCond (b : Bool) (f g : Ev ρ) : Ev ρ := ⟨fun Γ μ k => cond b (f.run Γ μ k) (g.run Γ μ k), fun Γ μ => cond b (f.dir Γ μ) (g.dir Γ μ), fun Γ μ k => by
  cases b
  · exact g.nat ..
  · exact f.nat ..⟩
def wE (f : Ev ρ) : S → (ρ → S → Prop) → Prop := fun s R => ∃ p, f.dir s.Γ s.μ = some p ∧ R p.1 ⟨s.Γ, p.2⟩
theorem bind_of {α β : Type} {x : Option α} {f : α → Option β} {b : β} (h : x.bind f = some b) : ∃ a, x = some a ∧ f a = some b := by
  cases x with
  | none => cases h
  | some a => exact ⟨a, rfl, h⟩
theorem abind_of {α β : Type} {x : Option α} {f : α → Option β} {b : β} (h : abind x f = some b) : ∃ a, x = some a ∧ f a = some b := bind_of ((abind_eq x f).symm.trans h)
theorem wE_bind {f : Ev ρ} {g : ρ → Ev σ} {s : S} {R : σ → S → Prop} (h : wE (f.bind g) s R) : wE f s fun r s1 => wE (g r) s1 R := by
  obtain ⟨p, h1, h2⟩ := h
  obtain ⟨q, h3, h4⟩ := bind_of h1
  exact ⟨q, h3, p, h4, h2⟩
theorem wE_ret {r : ρ} {s : S} {R : ρ → S → Prop} (h : wE (Ev.ret r) s R) : R r s := by
  obtain ⟨p, h1, h2⟩ := h
  cases h1
  exact h2
theorem wE_prim {a : Bool} {o : Ga → Mu → Option β} {s : S} {R : β → S → Prop} (h : wE (Ev.primG a o) s R) : ∃ b, o s.Γ s.μ = some b ∧ R b s := by
  obtain ⟨p, h1, h2⟩ := h
  obtain ⟨b, h3, h4⟩ := bind_of h1
  cases h4
  exact ⟨b, h3, h2⟩
theorem wE_primM {o : Ga → Mu → Option β} {c : Mu → β → Mu} {s : S} {R : β → S → Prop} (h : wE (Ev.primM o c) s R) : ∃ b, o s.Γ s.μ = some b ∧ R b ⟨s.Γ, c s.μ b⟩ := by
  obtain ⟨p, h1, h2⟩ := h
  obtain ⟨b, h3, h4⟩ := bind_of h1
  cases h4
  exact ⟨b, h3, h2⟩
theorem wE_alloc {o : MO} {s : S} {R : Sl → S → Prop} (h : wE (Ev.alloc o) s R) : nw o s R := by
  obtain ⟨p, h1, h2⟩ := h
  cases h1
  exact h2
theorem wE_cond {b : Bool} {f g : Ev ρ} {s : S} {R : ρ → S → Prop} (h : wE (evCond b f g) s R) : if b = true then wE f s R else wE g s R := by
  cases b
  · rw [if_neg Bool.false_ne_true]
    exact h
  · rw [if_pos rfl]
    exact h
theorem wE_mono {f : Ev ρ} {s : S} {R R' : ρ → S → Prop} (h : wE f s R) (i : ∀ r s1, s1.Γ = s.Γ → R r s1 → R' r s1) : wE f s R' := by
  obtain ⟨p, h1, h2⟩ := h
  exact ⟨p, h1, i _ _ rfl h2⟩
/-- nothing is written -/
class Pu (f : Ev ρ) : Prop where
  pu : ∀ Γ μ p, f.dir Γ μ = some p → p.2 = μ
instance (r : ρ) : Pu (Ev.ret r) := ⟨fun _ _ _ h => by cases h; rfl⟩
instance (a : Bool) (o : Ga → Mu → Option β) : Pu (Ev.primG a o) := ⟨fun _ _ _ h => by
  obtain ⟨b, _, h4⟩ := bind_of h
  cases h4
  rfl⟩
instance (f : Ev ρ) (g : ρ → Ev σ) [hf : Pu f] [hg : ∀ r, Pu (g r)] : Pu (f.bind g) := ⟨fun _ _ _ h => by
  obtain ⟨q, h3, h4⟩ := bind_of h
  rw [(hg q.1).pu _ _ _ h4, hf.pu _ _ _ h3]⟩
theorem pu_bind {f : Ev ρ} {g : ρ → Ev σ} (hf : Pu f) (hg : ∀ r, Pu (g r)) : Pu (f.bind g) := inferInstance
theorem pu_prim {a : Bool} {o : Ga → Mu → Option β} : Pu (Ev.primG a o) := inferInstance
theorem pu_ret {r : ρ} : Pu (Ev.ret r) := inferInstance
theorem pu_cond {b : Bool} {f g : Ev ρ} (hf : Pu f) (hg : Pu g) : Pu (evCond b f g) := ⟨fun Γ μ p h => by
  cases b
  · exact hg.pu Γ μ p h
  · exact hf.pu Γ μ p h⟩
instance (b : Bool) (f g : Ev ρ) [hf : Pu f] [hg : Pu g] : Pu (evCond b f g) := ⟨fun Γ μ p h => by
  cases b
  · exact hg.pu Γ μ p h
  · exact hf.pu Γ μ p h⟩
theorem wE_pu {f : Ev ρ} [hf : Pu f] {s : S} {R : ρ → S → Prop} (h : wE f s R) : wE f s fun r s1 => s1 = s ∧ R r s1 := by
  obtain ⟨p, h1, h2⟩ := h
  refine ⟨p, h1, ?_, h2⟩
  have := hf.pu _ _ _ h1
  rw [this]
/-- one way behind several -/
def Ev.join (f : Ev ρ) : Ev ρ := ⟨fun Γ μ k => (f.run Γ μ fun r _ => some r).bind fun r => k r μ, fun Γ μ => (f.run Γ μ fun r _ => some r).bind fun r => some (r, μ), fun Γ μ k => by
  rw [Option.bind_assoc]
  rfl⟩
def datO : Sl → Option D
  | .dat d => some d
  | _ => none
def Ev.joinD (f : Ev Sl) : Ev Sl := ⟨fun Γ μ k => (f.run Γ μ fun r _ => datO r).bind fun d => k (.dat d) μ, fun Γ μ => (f.run Γ μ fun r _ => datO r).bind fun d => some (.dat d, μ), fun Γ μ k => by
  rw [Option.bind_assoc]
  rfl⟩
instance (f : Ev ρ) : Pu f.join := ⟨fun _ _ _ h => by
  obtain ⟨b, _, h4⟩ := bind_of h
  cases h4
  rfl⟩
instance (f : Ev Sl) : Pu f.joinD := ⟨fun _ _ _ h => by
  obtain ⟨b, _, h4⟩ := bind_of h
  cases h4
  rfl⟩
theorem wE_join {f : Ev ρ} [hf : Pu f] {s : S} {R : ρ → S → Prop} (h : wE f.join s R) : wE f s R := by
  obtain ⟨p, h1, h2⟩ := h
  obtain ⟨r, h3, h4⟩ := bind_of h1
  cases h4
  rw [f.nat] at h3
  obtain ⟨q, h5, h6⟩ := bind_of h3
  cases h6
  refine ⟨q, h5, ?_⟩
  rw [hf.pu _ _ _ h5]
  exact h2
theorem wE_joinD {f : Ev Sl} [hf : Pu f] {s : S} {R : Sl → S → Prop} (h : wE f.joinD s R) : wE f s R := by
  obtain ⟨p, h1, h2⟩ := h
  obtain ⟨d, h3, h4⟩ := bind_of h1
  cases h4
  rw [f.nat] at h3
  obtain ⟨q, h5, h6⟩ := bind_of h3
  refine ⟨q, h5, ?_⟩
  rw [hf.pu _ _ _ h5]
  cases e : q.1 with
  | dat d' =>
    rw [e] at h6
    cases h6
    exact h2
  | _ =>
    rw [e] at h6
    cases h6
end

/-! ### from a rule of the layer -/
structure Bel (s : S) : Prop where
  sl : ∀ (i j : Nat), s.Γ[i]? = some (some (.cel j)) → j < s.μ.length
  mo : ∀ (i : Nat) (o : MO), s.μ[i]? = some (some o) → o.below s.μ.length
theorem RepSs.bel {K : PySem.W.Frag} {F : Hp} {as : List Addr} : ∀ {vs : List V} {rs : List Sl}, RepSs K F as vs rs → ∀ r ∈ rs, match r with | .cel j => j < as.length | _ => True
  | [], [], _, r, h => by simp at h
  | v :: vs, q :: rs, h, r, hr => by
    rcases List.mem_cons.mp hr with rfl | hr
    · cases r with
      | cel j =>
        obtain ⟨a, e, _⟩ := h.1
        exact (List.getElem?_eq_some_iff.mp e).1
      | _ => trivial
    · exact RepSs.bel h.2 r hr
  | [], _ :: _, h, _, _ => h.elim
  | _ :: _, [], h, _, _ => h.elim
theorem bel_of {K : PySem.W.Frag} {A : Amb} {as : List Addr} {s : S} {σ : L2.St} {H : Hp} (ok : Ok K A as s σ H) : Bel s := by
  have hl : as.length = s.μ.length := ok.len
  refine ⟨fun i j h => ?_, fun i o h => ?_⟩
  · obtain ⟨v, _, a, e, _⟩ := ok.env i _ h
    rw [← hl]
    exact (List.getElem?_eq_some_iff.mp e).1
  · have hi : i < as.length := by
      rw [hl]
      exact (List.getElem?_eq_some_iff.mp h).1
    have hm := ok.mem i as[i] o (List.getElem?_eq_getElem hi) h
    cases o with
    | ins C fs =>
      obtain ⟨dx, gs, _, _, h3⟩ := hm
      intro f hf
      have := RepSs.bel h3 f.2 (List.mem_map.mpr ⟨f, hf, rfl⟩)
      rw [← hl]
      exact this
    | _ => trivial
theorem bel_all {n : Nat} : ∀ {l : List (Option MO)}, (∀ (i : Nat) (o : MO), l[i]? = some (some o) → o.below n) → belowAll n l
  | [], _ => trivial
  | none :: t, h => bel_all (l := t) fun i o e => h (i + 1) o (by simpa using e)
  | some o :: t, h => ⟨h 0 o rfl, bel_all (l := t) fun i o e => h (i + 1) o (by simpa using e)⟩
theorem Bel.all {s : S} (h : Bel s) : belowAll s.μ.length (s.μ.take s.μ.length) := by
  rw [List.take_length]
  exact bel_all h.mo
section
variable {X : Cx} {e : Expr} {es : List Expr} {oe : Option Expr} {tg : Expr} {kws : List Keyword}
theorem pe_w {w : WE} {f : Ev Sl} (h : PE X e (up X.K w)) (i : ∀ s R, Bel s → wE f s R → w s R) : PE X e (up X.K (wE f)) := pe_imp h fun σ H Q ⟨A, as, s, R, ok, z, k⟩ => ⟨A, as, s, R, ok, i s R (bel_of ok) z, k⟩
theorem pt_w {w : WT} {f : Ev Bool} (h : PT X e (upT X.K w)) (i : ∀ s R, Bel s → wE f s R → w s R) : PT X e (upT X.K (wE f)) := pt_imp h fun σ H Q ⟨A, as, s, R, ok, z, k⟩ => ⟨A, as, s, R, ok, i s R (bel_of ok) z, k⟩
theorem pw_w {w : WT} {f : Ev Bool} (h : PW X e (upT X.K w)) (i : ∀ s R, Bel s → wE f s R → w s R) : PW X e (upT X.K (wE f)) := pw_imp h fun σ H Q ⟨A, as, s, R, ok, z, k⟩ => ⟨A, as, s, R, ok, i s R (bel_of ok) z, k⟩
theorem pa_w {w : WA} {f : Ev (List Sl)} (h : PA X es (upA X.K w)) (i : ∀ s R, Bel s → wE f s R → w s R) : PA X es (upA X.K (wE f)) := pa_imp h fun σ H Q ⟨A, as, s, R, ok, z, k⟩ => ⟨A, as, s, R, ok, i s R (bel_of ok) z, k⟩
theorem pk_w {w : WA} {f : Ev (List Sl)} (h : PK X kws (upK X.K w)) (i : ∀ s R, Bel s → wE f s R → w s R) : PK X kws (upK X.K (wE f)) := pk_imp h fun σ H Q ⟨A, as, s, R, ok, z, k⟩ => ⟨A, as, s, R, ok, i s R (bel_of ok) z, k⟩
theorem pi_w {w : WI} {f : Ev (List D)} (h : PI X tg e (upI X.K w)) (i : ∀ s R, Bel s → wE f s R → w s R) : PI X tg e (upI X.K (wE f)) := pi_imp h fun σ H Q ⟨A, as, s, R, ok, z, k⟩ => ⟨A, as, s, R, ok, i s R (bel_of ok) z, k⟩
theorem po_w {w : WO} {f : Ev (Option Int)} (h : PO X oe (upO X.K w)) (i : ∀ s R, Bel s → wE f s R → w s R) : PO X oe (upO X.K (wE f)) := ⟨fun pins s σ H Q I ⟨A, as, st, R, ok, z, k⟩ => h.run pins s σ H Q I ⟨A, as, st, R, ok, i st R (bel_of ok) z, k⟩⟩
theorem f_join {f : Ev Bool} [Pu f] (h : PT X e (upT X.K (wE f))) : PT X e (upT X.K (wE f.join)) := pt_w h fun _ _ _ z => wE_join z
theorem f_joinD {f : Ev Sl} [Pu f] (h : PE X e (up X.K (wE f))) : PE X e (up X.K (wE f.joinD)) := pe_w h fun _ _ _ z => wE_joinD z
end

/-! ### names, constants -/
section
variable {X : Cx} {x : Str} {pos : Pos}
def fVar (i : Nat) : Ev Sl := .adm fun Γ _ => nth Γ i
instance (i : Nat) : Pu (fVar i) := inferInstanceAs (Pu (Ev.primG true _))
theorem f_var (i : Nat) (hN : X.N[i]? = some x := by rfl) (hv : Vis X.env.scope x := by first | exact Or.inl rfl | exact Or.inr (Or.inl rfl) | exact Or.inr (Or.inr rfl)) (hd : (x == ("__debug__" : Str)) = false := by decide)
    (hcd : (x == ("__classdict__" : Str)) = false := by decide) : PE X (.Name x pos) (up X.K (wE (fVar i))) := pe_w (e_var i hN hv hd hcd) fun s R _ h => by
  obtain ⟨b, h1, h2⟩ := wE_prim h
  show optK (nth s.Γ i) _
  rw [h1]
  exact h2
abbrev fC (d : D) : Ev Sl := .ret (.dat d)
theorem f_int {i j} : PE X (.Constant (.int i) j pos) (up X.K (wE (fC (.int i)))) := pe_w e_int fun _ _ _ h => wE_ret h
theorem f_bl {b j} : PE X (.Constant (.bool b) j pos) (up X.K (wE (fC (.bl b)))) := pe_w e_bl fun _ _ _ h => wE_ret h
theorem f_non {j} : PE X (.Constant .none j pos) (up X.K (wE (fC .non))) := pe_w e_non fun _ _ _ h => wE_ret h
theorem f_str {y j} : PE X (.Constant (.str y) j pos) (up X.K (wE (fC (.str y)))) := pe_w e_str fun _ _ _ h => wE_ret h
theorem f_gstr {y : Str} {t : Tok} (hg : Gl X x) (hm : X.mg x = some (.str y t)) (hd : (x == ("__debug__" : Str)) = false := by decide) : PE X (.Name x pos) (up X.K (wE (fC (.str y)))) := pe_w (e_gstr hg hm hd) fun _ _ _ h => wE_ret h
theorem f_gint {y : Int} {t : Tok} (hg : Gl X x) (hm : X.mg x = some (.int y t)) (hd : (x == ("__debug__" : Str)) = false := by decide) : PE X (.Name x pos) (up X.K (wE (fC (.int y)))) := pe_w (e_gint hg hm hd) fun _ _ _ h => wE_ret h
end
/-- what can be read of it now -/
abbrev fRd (p : Sl) : Ev D := .adm fun Γ μ => rd ⟨Γ, μ⟩ p
abbrev fA {β : Type} (o : Option β) : Ev β := .adm fun _ _ => o
abbrev fO {β : Type} (o : Option β) : Ev β := .prim fun _ _ => o

local macro_rules | `(tactic| walk_at "pu") => `(tactic| repeat' first | with_reducible exact pu_prim | with_reducible exact pu_ret | assumption | with_reducible (refine pu_bind ?_ ?_) | with_reducible (refine pu_cond ?_ ?_) | intro)
/-! ### operations on two values -/
def opS (o : D → D → Option D) : F2 := fun p q s R => two s p q fun d e => ∃ z, o d e = some z ∧ R (.dat z) s
def opB (o : D → D → Option Bool) : F2 := fun p q s R => two s p q fun d e => ∃ z, o d e = some z ∧ R (.dat (.bl z)) s
section
variable {X : Cx} {a b c : Expr} {ea eb ec : Ev Sl} {ta tb : Ev Bool} {pos : Pos} {r r' : R2} {o : D → D → Option D} {u u' : D → D → Option Bool}
def fOp (o : D → D → Option D) (ea eb : Ev Sl) : Ev Sl := ea.bind fun p => eb.bind fun q => (fRd p).bind fun d => (fRd q).bind fun e => (fO (o d e)).bind fun z => .ret (.dat z)
instance [Pu ea] [Pu eb] : Pu (fOp o ea eb) := by unfold fOp; walk_at "pu"
def fCmp (u : D → D → Option Bool) (ea eb : Ev Sl) : Ev Bool := ea.bind fun p => eb.bind fun q => (fRd p).bind fun d => (fRd q).bind fun e => fO (u d e)
instance [Pu ea] [Pu eb] : Pu (fCmp u ea eb) := by unfold fCmp; walk_at "pu"
/-- a truth as a value -/
def fB (t : Ev Bool) : Ev Sl := t.bind fun b => .ret (.dat (.bl b))
instance [Pu ta] : Pu (fB ta) := by unfold fB; walk_at "pu"
theorem two_mk {s : S} {p q : Sl} {d e : D} {k : D → D → Prop} (h1 : rd s p = some d) (h2 : rd s q = some e) (h : k d e) : two s p q k := by
  unfold two
  rw [h1, h2]
  exact h
theorem f_op {op : Operator} (ho : OpR X (binaryOp op) r) (hs : OpS X.K (opS o) r) (ha : PE X a (up X.K (wE ea))) (hb : PE X b (up X.K (wE eb))) : PE X (.BinOp a op b pos) (up X.K (wE (fOp o ea eb))) := pe_w (e_op ho hs ha hb) fun s R _ h => by
  refine wE_mono (wE_bind h) fun p s1 _ h => wE_mono (wE_bind h) fun q s2 _ h => ?_
  obtain ⟨d, h1, h⟩ := wE_prim (wE_bind h)
  obtain ⟨e, h2, h⟩ := wE_prim (wE_bind h)
  obtain ⟨z, h3, h⟩ := wE_prim (wE_bind h)
  exact two_mk h1 h2 ⟨z, h3, wE_ret h⟩
theorem wE_cmp {s : S} {R : Bool → S → Prop} (h : wE (fCmp u ea eb) s R) : wOp (opB u) (wE ea) (wE eb) s fun r s1 => ∃ b, r = .dat (.bl b) ∧ R b s1 := by
  refine wE_mono (wE_bind h) fun p s1 _ h => wE_mono (wE_bind h) fun q s2 _ h => ?_
  obtain ⟨d, h1, h⟩ := wE_prim (wE_bind h)
  obtain ⟨e, h2, h⟩ := wE_prim (wE_bind h)
  obtain ⟨z, h3, h⟩ := wE_prim h
  exact two_mk h1 h2 ⟨z, h3, z, rfl, h⟩
theorem opB_mono {p q : Sl} {s : S} {R R' : Sl → S → Prop} (h : opB u p q s R) (i : ∀ r s1, R r s1 → R' r s1) : opB u p q s R' := by
  obtain ⟨d, e, h1, h2, z, h3, h4⟩ := two_of h
  exact two_mk h1 h2 ⟨z, h3, i _ _ h4⟩
theorem wOp_mono {s : S} {R R' : Sl → S → Prop} (h : wOp (opB u) (wE ea) (wE eb) s R) (i : ∀ r s1, R r s1 → R' r s1) : wOp (opB u) (wE ea) (wE eb) s R' :=
  wE_mono h fun p s1 _ h => wE_mono h fun q s2 _ h => opB_mono h i
theorem f_cmp {op : CmpOp} (ho : OpR X (compareOp op) r) (hs : OpS X.K (opB u) r) (ha : PE X a (up X.K (wE ea))) (hb : PE X b (up X.K (wE eb))) (hm : behindInMarks op b = false) : PE X (.Compare a [op] [b] pos) (up X.K (wE (fB (fCmp u ea eb)))) := pe_w (e_cmp ho hs ha hb hm) fun s R _ h =>
  wOp_mono (wE_cmp (wE_bind h)) fun r s1 ⟨b, e, h⟩ => by
    subst e
    exact wE_ret h
theorem f_tcmp {op : CmpOp} (ho : OpR X (compareOp op) r) (hs : OpS X.K (opB u) r) (ha : PE X a (up X.K (wE ea))) (hb : PE X b (up X.K (wE eb))) (hm : behindInMarks op b = false) : PT X (.Compare a [op] [b] pos) (upT X.K (wE (fCmp u ea eb))) := pt_w (t_cmp ho hs ha hb hm) fun s R _ h =>
  show wOp _ _ _ s _ from wOp_mono (wE_cmp h) fun r s1 ⟨b, e, h⟩ => by
    subst e
    exact h
/-- a op b op' c -/
def fChain (u u' : D → D → Option Bool) (ea eb ec : Ev Sl) : Ev Bool := ea.bind fun p => eb.bind fun q => (fRd p).bind fun d => (fRd q).bind fun e => (fO (u d e)).bind fun b => evCond b (ec.bind fun t => (fRd q).bind fun e => (fRd t).bind fun g => fO (u' e g)) (.ret false)
instance [Pu ea] [Pu eb] [Pu ec] : Pu (fChain u u' ea eb ec) := by unfold fChain; walk_at "pu"
theorem wE_chain {s : S} {R : Bool → S → Prop} (h : wE (fChain u u' ea eb ec) s R) : wChain (opB u) (opB u') (wE ea) (wE eb) (wE ec) s fun r s1 => ∃ b, r = .dat (.bl b) ∧ R b s1 := by
  refine wE_mono (wE_bind h) fun p s1 _ h => wE_mono (wE_bind h) fun q s2 _ h => ?_
  obtain ⟨d, h1, h⟩ := wE_prim (wE_bind h)
  obtain ⟨e, h2, h⟩ := wE_prim (wE_bind h)
  obtain ⟨z, h3, h⟩ := wE_prim (wE_bind h)
  refine two_mk h1 h2 ⟨z, h3, ?_⟩
  have h := wE_cond h
  show if z = true then _ else _
  cases z with
  | false =>
    rw [if_neg Bool.false_ne_true] at h ⊢
    exact ⟨false, rfl, wE_ret h⟩
  | true =>
    rw [if_pos rfl] at h ⊢
    refine wE_mono (wE_bind h) fun t s3 _ h => ?_
    obtain ⟨e, h4, h⟩ := wE_prim (wE_bind h)
    obtain ⟨g, h5, h⟩ := wE_prim (wE_bind h)
    obtain ⟨z, h6, h⟩ := wE_prim h
    exact two_mk h4 h5 ⟨z, h6, z, rfl, h⟩
theorem wChain_mono {s : S} {R R' : Sl → S → Prop} (h : wChain (opB u) (opB u') (wE ea) (wE eb) (wE ec) s R) (i : ∀ r s1, R r s1 → R' r s1) : wChain (opB u) (opB u') (wE ea) (wE eb) (wE ec) s R' :=
  wE_mono h fun p s1 _ h => wE_mono h fun q s2 _ h => by
    obtain ⟨d, e, h1, h2, z, h3, h⟩ := two_of h
    refine two_mk h1 h2 ⟨z, h3, ?_⟩
    show if z = true then _ else _
    have h : if z = true then _ else _ := h
    cases z with
    | false =>
      rw [if_neg Bool.false_ne_true] at h ⊢
      exact i _ _ h
    | true =>
      rw [if_pos rfl] at h ⊢
      exact wE_mono h fun t s3 _ h => opB_mono h i
theorem f_chain {op op' : CmpOp} (ho : OpR X (compareOp op) r) (hs : OpS X.K (opB u) r) (ho' : OpR X (compareOp op') r') (hs' : OpS X.K (opB u') r') (ha : PE X a (up X.K (wE ea))) (hb : PE X b (up X.K (wE eb))) (hc : PE X c (up X.K (wE ec)))
    (hm : lastMarks [op, op'] [b, c] = false := by with_unfolding_all rfl) : PE X (.Compare a [op, op'] [b, c] pos) (up X.K (wE (fB (fChain u u' ea eb ec)))) := pe_w (e_chain ho hs ho' hs' ha hb hc hm) fun s R _ h =>
  wChain_mono (wE_chain (wE_bind h)) fun r s1 ⟨b, e, h⟩ => by
    subst e
    exact wE_ret h
theorem f_tchain {op op' : CmpOp} (ho : OpR X (compareOp op) r) (hs : OpS X.K (opB u) r) (ho' : OpR X (compareOp op') r') (hs' : OpS X.K (opB u') r') (ha : PE X a (up X.K (wE ea))) (hb : PE X b (up X.K (wE eb))) (hc : PE X c (up X.K (wE ec)))
    (hm : lastMarks [op, op'] [b, c] = false := by with_unfolding_all rfl) : PT X (.Compare a [op, op'] [b, c] pos) (upT X.K (wE (fChain u u' ea eb ec))) := pt_w (t_chain ho hs ho' hs' ha hb hc hm) fun s R _ h =>
  wChain_mono (wE_chain h) fun r s1 ⟨b, e, h⟩ => by
    subst e
    exact h
end
end Ge
namespace Ge
open PySem PySem.Spec PyProof.Rows L2 Gd
local macro_rules | `(tactic| walk_at "pu") => `(tactic| repeat' first | with_reducible exact pu_prim | with_reducible exact pu_ret | assumption | with_reducible (refine pu_bind ?_ ?_) | with_reducible (refine pu_cond ?_ ?_) | intro)
/-- so many at most -/
def gd {α : Type} (n : Nat) (x : Option α) : Option α := if n ≤ 100000 then x else none
theorem gd_ok {α : Type} {n : Nat} {x : Option α} (h : n ≤ 100000) : gd n x = x := if_pos h
theorem gd_of {α : Type} {n : Nat} {x : Option α} {a : α} (h : gd n x = some a) : sz n ∧ x = some a := by
  unfold gd at h
  by_cases e : n ≤ 100000
  · rw [if_pos e] at h
    exact ⟨e, h⟩
  · rw [if_neg e] at h
    cases h
section
variable {K : PySem.W.Frag} {A : Amb} {as : List Addr} {s : S} {σ : L2.St} {H : Hp} {p : Addr}
theorem lstD {R : Sl → S → Prop} {Q : VK} (k : Kon K A as s σ H R Q) (ok : Ok K A as s σ H) (hp : H p = none) {xs : List V} {ds : List D} (h : RepL K (vw A as s.μ H) xs ds) (q : R (.dat (.lst ds)) s) : Q (.ref p) (upd H p (.lst xs)) :=
  k.new ok hp _ (fun _ le e => .lst e (RepL.mono le _ h)) q
end
def addD : D → D → Option D
  | .int i, .int j => some (.int (i + j))
  | .str x, .str y => gd (x.length + y.length) (some (.str (x ++ y)))
  | .lst xs, .lst ys => gd (xs.length + ys.length) (some (.lst (xs ++ ys)))
  | .tup xs, .tup ys => gd (xs.length + ys.length) (some (.tup (xs ++ ys)))
  | _, _ => none
theorem ops_addD {K : PySem.W.Frag} : OpS K (opS addD) (rAddAll K) := OpS.of fun A as s σ H x y d e R Q ok rx ry w k => by
  obtain ⟨z, hz, w⟩ := w
  cases d <;> cases e <;> first
    | cases hz
    | skip
  · cases rx; cases ry
    exact .inl ⟨_, _, rfl, rfl, k.here ok (r := .dat (.int _)) .int w⟩
  · cases rx; cases ry
    obtain ⟨h, hz⟩ := gd_of hz
    cases hz
    exact .inr (.inl ⟨_, _, rfl, rfl, h.ok, k.here ok (r := .dat (.str _)) .str w⟩)
  · obtain ⟨a, xs, rfl, h1, l1⟩ := rx
    obtain ⟨b, ys, rfl, h2, l2⟩ := ry
    obtain ⟨h, hz⟩ := gd_of hz
    cases hz
    exact .inr (.inr (.inl ⟨a, b, xs, ys, rfl, rfl, h1, h2, by rw [l1.len, l2.len]; exact h.ok, fun p hp => lstD k ok hp (l1.append l2) w⟩))
  · obtain ⟨rx, a, xs, rfl, h1, l1⟩ := rx
    obtain ⟨ry, b, ys, rfl, h2, l2⟩ := ry
    obtain ⟨h, hz⟩ := gd_of hz
    cases hz
    refine .inr (.inr (.inr ⟨a, b, xs, ys, rfl, rfl, h1.sq, h2.sq, by rw [l1.len, l2.len]; exact h.ok, fun e => ?_, fun _ e => ?_, fun _ _ => k.nuT ok (l1.append l2) w⟩))
    · subst e
      cases l1
      exact k.here ok (r := .dat (.tup _)) ry w
    · subst e
      cases l2
      rw [List.append_nil] at w
      exact k.here ok (r := .dat (.tup _)) rx w
def subD : D → D → Option D
  | .int i, .int j => some (.int (i - j))
  | _, _ => none
theorem ops_subD {K : PySem.W.Frag} : OpS K (opS subD) (rI0 fun i j => .int (i - j)) := OpS.of fun A as s σ H x y d e R Q ok rx ry w k => by
  obtain ⟨z, hz, w⟩ := w
  cases d <;> cases e <;> first
    | cases hz
    | skip
  cases rx; cases ry
  exact ⟨_, _, rfl, rfl, k.here ok (r := .dat (.int _)) .int w⟩
instance (i j : Int) : Decidable (CMul i j) := inferInstanceAs (Decidable (_ ∨ _))
instance (i j : Int) : Decidable (CDivN i j) := inferInstanceAs (Decidable (_ ∧ _))
instance (i j : Int) : Decidable (CPow i j) := inferInstanceAs (Decidable (_ ∧ _))
def iD (C : Int → Int → Prop) [∀ i j, Decidable (C i j)] (g : Int → Int → Int) : D → D → Option D
  | .int i, .int j => if C i j then some (.int (g i j)) else none
  | _, _ => none
theorem iD_of {C : Int → Int → Prop} [∀ i j, Decidable (C i j)] {g : Int → Int → Int} {d e z : D} (h : iD C g d e = some z) : ∃ i j, d = .int i ∧ e = .int j ∧ C i j ∧ z = .int (g i j) := by
  cases d <;> cases e <;> first
    | cases h
    | skip
  rename_i i j
  have h : (if C i j then some (D.int (g i j)) else none) = some z := h
  by_cases c : C i j
  · rw [if_pos c] at h
    cases h
    exact ⟨_, _, rfl, rfl, c, rfl⟩
  · rw [if_neg c] at h
    cases h
theorem iD_ok {C : Int → Int → Prop} [∀ i j, Decidable (C i j)] {g : Int → Int → Int} {i j : Int} (h : C i j) : iD C g (.int i) (.int j) = some (.int (g i j)) := if_pos h
theorem ops_iD {K : PySem.W.Frag} {C : Int → Int → Prop} [∀ i j, Decidable (C i j)] {g : Int → Int → Int} : OpS K (opS (iD C g)) (rI C fun i j => .int (g i j)) := OpS.of fun A as s σ H x y d e R Q ok rx ry w k => by
  obtain ⟨z, hz, w⟩ := w
  obtain ⟨i, j, rfl, rfl, c, rfl⟩ := iD_of hz
  cases rx; cases ry
  exact ⟨_, _, rfl, rfl, c, k.here ok (r := .dat (.int _)) .int w⟩
abbrev fdivD := iD CDivN fun i j => i.fdiv j
abbrev modD := iD (fun _ j => j ≠ 0) fun i j => i.fmod j
abbrev powD := iD CPow fun i j => i ^ j.toNat
def mulD : D → D → Option D
  | .int i, .int j => if CMul i j then some (.int (i * j)) else none
  | .lst xs, .int j => if -(2 ^ 63) ≤ j ∧ j < 2 ^ 63 then gd (xs.length * j.toNat) (some (.lst (reps j xs))) else none
  | .tup xs, .int j => if xs.length ≠ 0 ∧ 2 ≤ j ∧ j ≤ 1000 ∧ xs.length ≤ 1000 then some (.tup (reps j xs)) else none
  | _, _ => none
theorem ite_of {α : Type} {c : Prop} [Decidable c] {x : Option α} {a : α} (h : (if c then x else none) = some a) : c ∧ x = some a := by
  by_cases e : c
  · rw [if_pos e] at h
    exact ⟨e, h⟩
  · rw [if_neg e] at h
    cases h
theorem ops_mulD {K : PySem.W.Frag} : OpS K (opS mulD) (rMulAll K) := OpS.of fun A as s σ H x y d e R Q ok rx ry w k => by
  obtain ⟨z, hz, w⟩ := w
  cases d <;> cases e <;> first
    | cases hz
    | skip
  · obtain ⟨c, hz⟩ := ite_of hz
    cases rx; cases ry; cases hz
    exact .inl ⟨_, _, rfl, rfl, c, k.here ok (r := .dat (.int _)) .int w⟩
  · obtain ⟨c, hz⟩ := ite_of hz
    obtain ⟨h, hz⟩ := gd_of hz
    obtain ⟨a, xs, rfl, h1, l1⟩ := rx
    cases ry; cases hz
    exact .inr (.inl ⟨a, _, xs, rfl, rfl, h1, c.1, c.2, by rw [l1.len]; exact h.ok, fun p hp => lstD k ok hp (l1.reps _) w⟩)
  · obtain ⟨c, hz⟩ := ite_of hz
    obtain ⟨rx, a, xs, rfl, h1, l1⟩ := rx
    cases ry; cases hz
    refine .inr (.inr ⟨a, _, xs, rfl, rfl, h1.sq, fun e => c.1 ?_, c.2.1, c.2.2.1, by rw [l1.len]; exact c.2.2.2, k.nuT ok (l1.reps _) w⟩)
    subst e
    cases l1
    rfl
/-! ### comparisons -/
def bD (g : Int → Int → Bool) : D → D → Option Bool
  | .int i, .int j => some (g i j)
  | _, _ => none
theorem ops_bD {K : PySem.W.Frag} {g : Int → Int → Bool} : OpS K (opB (bD g)) (rI0 fun i j => .bl (g i j)) := OpS.of fun A as s σ H x y d e R Q ok rx ry w k => by
  obtain ⟨z, hz, w⟩ := w
  cases d <;> cases e <;> first
    | cases hz
    | skip
  cases rx; cases ry
  exact ⟨_, _, rfl, rfl, k.here ok (r := .dat (.bl _)) .bl w⟩
abbrev leD := bD fun i j => decide (i ≤ j)
abbrev gtD := bD fun i j => decide (i > j)
abbrev geD := bD fun i j => decide (i ≥ j)
/-- all numbers, all truths -/
def ints? : List D → Option (List Int)
  | [] => some []
  | .int i :: ds => (ints? ds).map (i :: ·)
  | _ :: _ => none
def bls? : List D → Option (List Bool)
  | [] => some []
  | .bl i :: ds => (bls? ds).map (i :: ·)
  | _ :: _ => none
theorem ints_dI : ∀ is : List Int, ints? (dI is) = some is
  | [] => rfl
  | i :: is => by
    show (ints? (dI is)).map _ = _
    rw [ints_dI is]
    rfl
theorem bls_dB : ∀ is : List Bool, bls? (dB is) = some is
  | [] => rfl
  | i :: is => by
    show (bls? (dB is)).map _ = _
    rw [bls_dB is]
    rfl
theorem ints_of : ∀ {ds : List D} {is : List Int}, ints? ds = some is → ds = dI is
  | [], _, h => by cases h; rfl
  | d :: ds, is, h => by
    cases d <;> first
      | cases h
      | skip
    rename_i i
    have h : (ints? ds).map (i :: ·) = some is := h
    cases e : ints? ds with
    | none => rw [e] at h; cases h
    | some js =>
      rw [e] at h
      cases h
      rw [ints_of e]
      rfl
theorem bls_of : ∀ {ds : List D} {is : List Bool}, bls? ds = some is → ds = dB is
  | [], _, h => by cases h; rfl
  | d :: ds, is, h => by
    cases d <;> first
      | cases h
      | skip
    rename_i i
    have h : (bls? ds).map (i :: ·) = some is := h
    cases e : bls? ds with
    | none => rw [e] at h; cases h
    | some js =>
      rw [e] at h
      cases h
      rw [bls_of e]
      rfl
def ltD : D → D → Option Bool
  | .int i, .int j => some (decide (i < j))
  | .tup xs, .tup ys => (ints? xs).bind fun is => (ints? ys).bind fun js => some (HT.lexLt is js)
  | _, _ => none
theorem ops_ltD {K : PySem.W.Frag} : OpS K (opB ltD) (rLtAll K) := OpS.of fun A as s σ H x y d e R Q ok rx ry w k => by
  obtain ⟨z, hz, w⟩ := w
  cases d <;> cases e <;> first
    | cases hz
    | skip
  · cases rx; cases ry
    exact .inl ⟨_, _, rfl, rfl, k.here ok (r := .dat (.bl _)) .bl w⟩
  · obtain ⟨is, h1, hz⟩ := bind_of hz
    obtain ⟨js, h2, hz⟩ := bind_of hz
    cases hz
    cases ints_of h1
    cases ints_of h2
    obtain ⟨_, a, xs, rfl, h1, h2⟩ := rx
    obtain ⟨_, b, ys, rfl, h3, h4⟩ := ry
    cases h2.nums
    cases h4.nums
    exact .inr ⟨a, b, is, js, rfl, rfl, h1.sq, h3.sq, k.here ok (r := .dat (.bl _)) .bl w⟩
instance (d : D) : Decidable d.fit := inferInstanceAs (Decidable (_ = true))
/-- whole data -/
def eqW (neg : Bool) (d e : D) : Option Bool := if d.fit ∧ e.fit then some (neg ^^ PyData.eqv d.pd e.pd) else none
def eqD (neg : Bool) : D → D → Option Bool
  | .int i, .int j => some (neg ^^ decide (i = j))
  | .str i, .str j => some (neg ^^ decide (i = j))
  | .bl i, .bl j => some (neg ^^ decide (i = j))
  | d, e => eqW neg d e
theorem eqG_of {neg : Bool} {d e : D} {z : Bool} {s : S} {R : Sl → S → Prop} (h : eqD neg d e = some z) (w : R (.dat (.bl z)) s) : eqG neg d e s R := by
  have gen : eqW neg d e = some z → (d.fit ∧ e.fit) ∧ R (.dat (.bl (neg ^^ PyData.eqv d.pd e.pd))) s := fun h => by
    obtain ⟨c, h⟩ := ite_of h
    cases h
    exact ⟨c, w⟩
  cases d <;> cases e <;> first
    | exact gen h
    | (cases h; exact w)
theorem ops_eqD {K : PySem.W.Frag} : OpS K (opB (eqD false)) (rEqAll K) := fun A as s σ H x y p q R Q ok rx ry w k => by
  obtain ⟨d, e, h1, h2, z, h3, h4⟩ := two_of w
  exact ops_eq A as s σ H x y p q R Q ok rx ry (two_mk h1 h2 (eqG_of h3 h4)) k
theorem ops_neD {K : PySem.W.Frag} : OpS K (opB (eqD true)) (rNeAll K) := fun A as s σ H x y p q R Q ok rx ry w k => by
  obtain ⟨d, e, h1, h2, z, h3, h4⟩ := two_of w
  exact ops_ne A as s σ H x y p q R Q ok rx ry (two_mk h1 h2 (eqG_of h3 h4)) k
def isND (neg : Bool) : D → D → Option Bool
  | d, .non => some (neg ^^ d.isN)
  | _, _ => none
theorem isN_of {neg : Bool} {p q : Sl} {s : S} {R : Sl → S → Prop} (h : opB (isND neg) p q s R) : isNF neg p q s R := by
  obtain ⟨d, e, h1, h2, z, h3, h4⟩ := two_of h
  cases e <;> first
    | (cases d <;> cases h3; done)
    | skip
  have e3 : z = (neg ^^ d.isN) := by cases d <;> (cases h3; rfl)
  subst e3
  cases q with
  | dat g =>
    cases h2
    show optK (rd s p) _
    rw [h1]
    exact h4
  | val v => cases h2
  | cel i =>
    have h2 : (nth s.μ i).bind MO.d? = some .non := h2
    obtain ⟨o, _, h5⟩ := bind_of h2
    cases o <;> cases h5
theorem ops_isND {K : PySem.W.Frag} : OpS K (opB (isND false)) (fun x y H Q => y = .non ∧ Q (.bl (decide (x = .non))) H) := fun A as s σ H x y p q R Q ok rx ry w k => ops_isN A as s σ H x y p q R Q ok rx ry (isN_of w) k
theorem ops_notND {K : PySem.W.Frag} : OpS K (opB (isND true)) (fun x y H Q => y = .non ∧ Q (.bl (!decide (x = .non))) H) := fun A as s σ H x y p q R Q ok rx ry w k => ops_notN A as s σ H x y p q R Q ok rx ry (isN_of w) k
/-! ### truth, and, or, not, if -/
def truO : D → Option Bool
  | .non => some false
  | .bl b => some b
  | .int i => some (i != 0)
  | .str y => gd y.length (some ((y.length : Int) != 0))
  | .lst ds => some (!ds.isEmpty)
  | .scr ds => some (!ds.isEmpty)
  | .tup ds => some (!ds.isEmpty)
  | _ => none
theorem tru_w {s : S} {p : Sl} {d : D} {b : Bool} {k : Bool → Prop} (h1 : rd s p = some d) (h2 : truO d = some b) (h : k b) : tru s p k := by
  show optK (rd s p) _
  rw [h1]
  cases d <;> first
    | (cases h2; done)
    | (cases h2; exact h)
    | skip
  obtain ⟨c, h2⟩ := gd_of h2
  cases h2
  exact ⟨c, h⟩
section
variable {X : Cx} {a b c e : Expr} {rest es : List Expr} {ea eb ee : Ev Sl} {ta tb : Ev Bool} {er : Ev (List Sl)} {pos : Pos}
def fTruV (p : Sl) : Ev Bool := (fRd p).bind fun d => fO (truO d)
instance (p : Sl) : Pu (fTruV p) := by unfold fTruV; walk_at "pu"
theorem wE_truV {p : Sl} {s : S} {R : Bool → S → Prop} (h : wE (fTruV p) s R) : ∃ d b, rd s p = some d ∧ truO d = some b ∧ R b s := by
  obtain ⟨d, h1, h⟩ := wE_prim (wE_bind h)
  obtain ⟨b, h2, h⟩ := wE_prim h
  exact ⟨d, b, h1, h2, h⟩
def fTru (ea : Ev Sl) : Ev Bool := ea.bind fTruV
instance [Pu ea] : Pu (fTru ea) := by unfold fTru; exact pu_bind inferInstance fun _ => inferInstance
theorem f_tru (ha : PE X a (up X.K (wE ea))) (he : ∀ whole, isTrue a X.env whole = (do let v ← whole; standAt a.pos; holding [v] (truthy v)) := by intro _; rfl) : PT X a (upT X.K (wE (fTru ea))) := pt_w (t_tru ha he) fun s R _ h => wE_mono (wE_bind h) fun p s1 _ h => by
  obtain ⟨d, b, h1, h2, h3⟩ := wE_truV h
  exact tru_w h1 h2 h3
def fAndT (ta tb : Ev Bool) : Ev Bool := ta.bind fun b => evCond b tb (.ret false)
def fOrT (ta tb : Ev Bool) : Ev Bool := ta.bind fun b => evCond b (.ret true) tb
def fNotT (ta : Ev Bool) : Ev Bool := ta.bind fun b => .ret (!b)
instance [Pu ta] [Pu tb] : Pu (fAndT ta tb) := by unfold fAndT; walk_at "pu"
instance [Pu ta] [Pu tb] : Pu (fOrT ta tb) := by unfold fOrT; walk_at "pu"
instance [Pu ta] : Pu (fNotT ta) := by unfold fNotT; walk_at "pu"
theorem f_and1 (h : PT X a (upT X.K (wE ta))) : PW X (.BoolOp .And [a] pos) (upT X.K (wE ta)) := t_and1 h
theorem f_or1 (h : PT X a (upT X.K (wE ta))) : PW X (.BoolOp .Or [a] pos) (upT X.K (wE ta)) := t_or1 h
theorem f_and (ha : PT X a (upT X.K (wE ta))) (hb : PW X (.BoolOp .And (b :: rest) pos) (upT X.K (wE tb))) : PW X (.BoolOp .And (a :: b :: rest) pos) (upT X.K (wE (fAndT ta tb))) := pw_w (t_and ha hb) fun s R _ h => wE_mono (wE_bind h) fun k s1 _ h => by
  have h := wE_cond h
  cases k
  · rw [if_neg Bool.false_ne_true] at h ⊢
    exact wE_ret h
  · rw [if_pos rfl] at h ⊢
    exact h
theorem f_or (ha : PT X a (upT X.K (wE ta))) (hb : PW X (.BoolOp .Or (b :: rest) pos) (upT X.K (wE tb))) : PW X (.BoolOp .Or (a :: b :: rest) pos) (upT X.K (wE (fOrT ta tb))) := pw_w (t_or ha hb) fun s R _ h => wE_mono (wE_bind h) fun k s1 _ h => by
  have h := wE_cond h
  cases k
  · rw [if_neg Bool.false_ne_true] at h ⊢
    exact h
  · rw [if_pos rfl] at h ⊢
    exact wE_ret h
theorem f_not (ha : PT X a (upT X.K (wE ta))) : PT X (.UnaryOp .Not a pos) (upT X.K (wE (fNotT ta))) := pt_w (t_not ha) fun s R _ h => wE_mono (wE_bind h) fun k s1 _ h => wE_ret h
/-- by value -/
def fAndE (ea eb : Ev Sl) : Ev Sl := ea.bind fun p => (fTruV p).bind fun k => evCond k eb (.ret p)
def fOrE (ea eb : Ev Sl) : Ev Sl := ea.bind fun p => (fTruV p).bind fun k => evCond k (.ret p) eb
def fNotE (ea : Ev Sl) : Ev Sl := ea.bind fun p => (fTruV p).bind fun k => .ret (.dat (.bl (!k)))
instance [Pu ea] [Pu eb] : Pu (fAndE ea eb) := by unfold fAndE fTruV; walk_at "pu"
instance [Pu ea] [Pu eb] : Pu (fOrE ea eb) := by unfold fOrE fTruV; walk_at "pu"
instance [Pu ea] : Pu (fNotE ea) := by unfold fNotE fTruV; walk_at "pu"
theorem f_one {op} (h : PE X a (up X.K (wE ea))) : PE X (.BoolOp op [a] pos) (up X.K (wE ea)) := e_one h
theorem f_andE (ha : PE X a (up X.K (wE ea))) (hb : PE X (.BoolOp .And (b :: rest) pos) (up X.K (wE eb))) : PE X (.BoolOp .And (a :: b :: rest) pos) (up X.K (wE (fAndE ea eb))) := pe_w (e_and ha hb) fun s R _ h => wE_mono (wE_bind h) fun p s1 _ h => by
  obtain ⟨d, b, h1, h2, h⟩ := wE_truV (wE_bind h)
  refine tru_w h1 h2 ?_
  have h := wE_cond h
  cases b
  · rw [if_neg Bool.false_ne_true] at h ⊢
    exact wE_ret h
  · rw [if_pos rfl] at h ⊢
    exact h
theorem f_orE (ha : PE X a (up X.K (wE ea))) (hb : PE X (.BoolOp .Or (b :: rest) pos) (up X.K (wE eb))) : PE X (.BoolOp .Or (a :: b :: rest) pos) (up X.K (wE (fOrE ea eb))) := pe_w (e_or ha hb) fun s R _ h => wE_mono (wE_bind h) fun p s1 _ h => by
  obtain ⟨d, b, h1, h2, h⟩ := wE_truV (wE_bind h)
  refine tru_w h1 h2 ?_
  have h := wE_cond h
  cases b
  · rw [if_neg Bool.false_ne_true] at h ⊢
    exact h
  · rw [if_pos rfl] at h ⊢
    exact wE_ret h
theorem f_notE (ha : PE X a (up X.K (wE ea))) : PE X (.UnaryOp .Not a pos) (up X.K (wE (fNotE ea))) := pe_w (e_not ha) fun s R _ h => wE_mono (wE_bind h) fun p s1 _ h => by
  obtain ⟨d, b, h1, h2, h⟩ := wE_truV (wE_bind h)
  exact tru_w h1 h2 (wE_ret h)
def fIf (ta : Ev Bool) (ea eb : Ev Sl) : Ev Sl := ta.bind fun k => evCond k ea eb
instance [Pu ta] [Pu ea] [Pu eb] : Pu (fIf ta ea eb) := by unfold fIf; walk_at "pu"
theorem f_if (hc : PT X c (upT X.K (wE ta))) (ha : PE X a (up X.K (wE ea))) (hb : PE X b (up X.K (wE eb))) : PE X (.IfExp c a b pos) (up X.K (wE (fIf ta ea eb))) := pe_w (e_if hc ha hb) fun s R _ h => wE_mono (wE_bind h) fun k s1 _ h => wE_cond h
def negO : D → Option D
  | .int i => some (.int (-i))
  | _ => none
def fU (o : D → Option D) (ea : Ev Sl) : Ev Sl := ea.bind fun p => (fRd p).bind fun d => (fO (o d)).bind fun z => .ret (.dat z)
instance {o : D → Option D} [Pu ea] : Pu (fU o ea) := by unfold fU; walk_at "pu"
theorem wE_U {o : D → Option D} {s : S} {R : Sl → S → Prop} (h : wE (fU o ea) s R) : wE ea s fun p s1 => ∃ d z, rd s1 p = some d ∧ o d = some z ∧ R (.dat z) s1 := wE_mono (wE_bind h) fun p s1 _ h => by
  obtain ⟨d, h1, h⟩ := wE_prim (wE_bind h)
  obtain ⟨z, h2, h⟩ := wE_prim (wE_bind h)
  exact ⟨d, z, h1, h2, wE_ret h⟩
theorem f_neg (ha : PE X a (up X.K (wE ea))) : PE X (.UnaryOp .USub a pos) (up X.K (wE (fU negO ea))) := pe_w (e_un un_neg uns_neg ha) fun s R _ h => wE_mono (wE_U h) fun p s1 _ ⟨d, z, h1, h2, h⟩ => by
  show optK (rd s1 p) _
  rw [h1]
  cases d <;> first
    | cases h2
    | skip
  exact h

/-! ### arguments, displays -/
def fANil : Ev (List Sl) := .ret []
def fACons (ee : Ev Sl) (er : Ev (List Sl)) : Ev (List Sl) := ee.bind fun p => er.bind fun ps => .ret (p :: ps)
instance : Pu fANil := by unfold fANil; exact pu_ret
instance [Pu ee] [Pu er] : Pu (fACons ee er) := by unfold fACons; walk_at "pu"
theorem f_anil : PA X [] (upA X.K (wE fANil)) := pa_w a_nil fun s R _ h => wE_ret h
theorem f_acons (ha : PE X e (up X.K (wE ee))) (hr : PA X es (upA X.K (wE er))) (hs : starEach (e :: es) X.env = (false, eval e X.env) :: starEach es X.env := by rfl) : PA X (e :: es) (upA X.K (wE (fACons ee er))) :=
  pa_w (a_cons ha hr hs) fun s R _ h => wE_mono (wE_bind h) fun p s1 _ h => wE_mono (wE_bind h) fun ps s2 _ h => wE_ret h
/-- all data -/
def datsO : List Sl → Option (List D)
  | [] => some []
  | .dat d :: rs => (datsO rs).map (d :: ·)
  | _ :: _ => none
theorem dats_w : ∀ {rs : List Sl} {ds : List D} {k : List D → Prop}, datsO rs = some ds → k ds → dats rs k
  | [], _, k, h, w => by cases h; exact w
  | .dat d :: rs, ds, k, h, w => by
    have h : (datsO rs).map (d :: ·) = some ds := h
    cases e : datsO rs with
    | none => rw [e] at h; cases h
    | some es =>
      rw [e] at h
      cases h
      exact dats_w (rs := rs) (k := fun ds => k (d :: ds)) e w
  | .cel _ :: _, _, _, h, _ => by cases h
  | .val _ :: _, _, _, h, _ => by cases h
def wLstD (wr : WA) : WE := fun s R => wr s fun ps s1 => dats ps fun ds => sz ds.length ∧ R (.dat (.lst ds)) s1
theorem e_lstD {wr : WA} (h : PA X es (upA X.K wr)) : PE X (.List es pos) (up X.K (wLstD wr)) := pe_imp (pe_lst h) fun σ H Q ⟨A, as, s, R, ok, w, k⟩ =>
  ⟨A, as, s, _, ok, w, fun vs H1 ps s1 as1 st1 ok1 r1 w1 => by
    obtain ⟨ds, hl, hz, w2⟩ := dats_of r1 w1
    exact ⟨by rw [hl.len]; exact hz.ok, fun p hp => lstD (fun v3 H3 t s3 as3 st3 ok3 r3 w3 => k v3 H3 t s3 as3 (st1.trans st3) ok3 r3 w3) ok1 hp hl w2⟩⟩
def fSeqD (c : List D → D) (er : Ev (List Sl)) : Ev Sl := er.bind fun ps => (fA (datsO ps)).bind fun ds => (fO (gd ds.length (some (c ds)))).bind fun z => .ret (.dat z)
instance {c : List D → D} [Pu er] : Pu (fSeqD c er) := by unfold fSeqD; walk_at "pu"
abbrev fTup := fSeqD .tup
abbrev fLst := fSeqD .lst
theorem f_tup {x1} (h : PA X es (upA X.K (wE er))) : PE X (.Tuple es x1 pos) (up X.K (wE (fTup er))) := pe_w (e_tup h) fun s R _ h => wE_mono (wE_bind h) fun ps s1 _ h => by
  obtain ⟨ds, h1, h⟩ := wE_prim (wE_bind h)
  obtain ⟨z, h2, h⟩ := wE_prim (wE_bind h)
  obtain ⟨c, h2⟩ := gd_of h2
  cases h2
  exact dats_w h1 ⟨c, wE_ret h⟩
theorem f_lst (h : PA X es (upA X.K (wE er))) : PE X (.List es pos) (up X.K (wE (fLst er))) := pe_w (e_lstD h) fun s R _ h => wE_mono (wE_bind h) fun ps s1 _ h => by
  obtain ⟨ds, h1, h⟩ := wE_prim (wE_bind h)
  obtain ⟨z, h2, h⟩ := wE_prim (wE_bind h)
  obtain ⟨c, h2⟩ := gd_of h2
  cases h2
  exact dats_w h1 ⟨c, wE_ret h⟩
/-- a list that will be written -/
def fLstC (er : Ev (List Sl)) : Ev Sl := er.bind fun ps => (fA (datsO ps)).bind fun ds => (fO (gd ds.length (some ds))).bind fun ds => .alloc (.lst ds)
theorem f_lstC (h : PA X es (upA X.K (wE er))) : PE X (.List es pos) (up X.K (wE (fLstC er))) := pe_w (e_lst h) fun s R _ h => wE_mono (wE_bind h) fun ps s1 _ h => by
  obtain ⟨ds, h1, h⟩ := wE_prim (wE_bind h)
  obtain ⟨z, h2, h⟩ := wE_prim (wE_bind h)
  obtain ⟨c, h2⟩ := gd_of h2
  cases h2
  exact dats_w h1 ⟨c, wE_alloc h⟩
end
end Ge
namespace Ge
open PySem PySem.Spec PyProof.Rows L2 Gd
/-! ### dicts as data: keys, values -/
section
variable {κ : Type} [DecidableEq κ]
def dval : List κ → List D → κ → Option D
  | k :: ks, v :: vs, j => if k = j then some v else dval ks vs j
  | _, _, _ => none
def dset : List κ → List D → κ → D → List D
  | k :: ks, v :: vs, j, d => (if k = j then d else v) :: dset ks vs j d
  | _, vs, _, _ => vs
/-- in its place, or at the end -/
def dput (ks : List κ) (vs : List D) (j : κ) (d : D) : List κ × List D := if j ∈ ks then (ks, dset ks vs j d) else (ks ++ [j], vs ++ [d])
variable {K : PySem.W.Frag} {F : Hp}
theorem val_rep : ∀ {kvs : List (κ × V)} {ks : List κ} {vs : List D} (k : κ), kvs.map (·.1) = ks → RepL K F (kvs.map (·.2)) vs → (∀ d, dval ks vs k = some d → ∃ v, valV kvs k = some v ∧ Rep K F v d) ∧ (dval ks vs k = none → valV kvs k = none)
  | [], _, _, k, h1, h2 => by
    subst h1
    cases h2
    exact ⟨(fun d h => by cases h), fun _ => rfl⟩
  | p :: kvs, _, _, k, h1, h2 => by
    subst h1
    cases h2 with
    | cons r t =>
      rename_i d ds
      obtain ⟨h3, h4⟩ := val_rep k rfl t
      by_cases e : p.1 = k
      · refine ⟨fun d' h => ?_, fun h => ?_⟩
        · have h : (if p.1 = k then some d else dval (kvs.map (·.1)) ds k) = some d' := h
          rw [if_pos e] at h
          cases h
          exact ⟨p.2, valV_pos e, r⟩
        · have h : (if p.1 = k then some d else dval (kvs.map (·.1)) ds k) = none := h
          rw [if_pos e] at h
          cases h
      · refine ⟨fun d' h => ?_, fun h => ?_⟩
        · have h : (if p.1 = k then some d else dval (kvs.map (·.1)) ds k) = some d' := h
          rw [if_neg e] at h
          rw [valV_neg e]
          exact h3 d' h
        · have h : (if p.1 = k then some d else dval (kvs.map (·.1)) ds k) = none := h
          rw [if_neg e] at h
          rw [valV_neg e]
          exact h4 h
theorem any_mem {kvs : List (κ × V)} {k : κ} : (kvs.any fun kv => decide (kv.1 = k)) = true ↔ k ∈ kvs.map (·.1) := by
  rw [List.any_eq_true, List.mem_map]
  exact ⟨fun ⟨p, h, e⟩ => ⟨p, h, of_decide_eq_true e⟩, fun ⟨p, h, e⟩ => ⟨p, h, decide_eq_true e⟩⟩
theorem set_rep {v : V} {d : D} (r : Rep K F v d) : ∀ {kvs : List (κ × V)} {vs : List D} (k : κ), RepL K F (kvs.map (·.2)) vs → RepL K F ((kvs.map fun kv => if kv.1 = k then (kv.1, v) else kv).map (·.2)) (dset (kvs.map (·.1)) vs k d)
  | [], _, k, h2 => by
    cases h2
    exact .nil
  | p :: kvs, _, k, h2 => by
    cases h2 with
    | cons r1 t =>
      refine .cons ?_ (set_rep r k t)
      show Rep K F (if p.1 = k then (p.1, v) else p).2 (if p.1 = k then d else _)
      by_cases e : p.1 = k
      · rw [if_pos e, if_pos e]
        exact r
      · rw [if_neg e, if_neg e]
        exact r1
theorem put_rep {v : V} {d : D} (r : Rep K F v d) {kvs : List (κ × V)} {ks : List κ} {vs : List D} (k : κ) (h1 : kvs.map (·.1) = ks) (h2 : RepL K F (kvs.map (·.2)) vs) : (putK kvs k v).map (·.1) = (dput ks vs k d).1 ∧ RepL K F ((putK kvs k v).map (·.2)) (dput ks vs k d).2 := by
  subst h1
  unfold putK dput
  by_cases e : k ∈ kvs.map (·.1)
  · rw [if_pos (any_mem.mpr e), if_pos e]
    refine ⟨?_, set_rep r k h2⟩
    rw [List.map_map]
    refine List.map_congr_left fun p _ => ?_
    show (if p.1 = k then (p.1, v) else p).1 = p.1
    split <;> rfl
  · rw [if_neg fun z => e (any_mem.mp z), if_neg e]
    refine ⟨by rw [List.map_append]; rfl, ?_⟩
    rw [List.map_append]
    exact h2.append (.one r)
end
/-- a key -/
def kO : D → Option Key
  | .int i => some (.inl i)
  | .str x => some (.inr x)
  | _ => none
theorem kO_rep {K : PySem.W.Frag} {F H : Hp} {d : D} {k : Key} {v : V} (h : kO d = some k) (r : Rdc K F H v d) : v = kV k := by
  cases d <;> first
    | (cases h; done)
    | (cases h; cases r; rfl)
/-- a tuple that is a key -/
def kOs : List D → Option (List Key)
  | [] => some []
  | d :: ds => (kO d).bind fun k => (kOs ds).bind fun ks => some (k :: ks)
def kT' : D → Option (List Key)
  | .tup ds => kOs ds
  | _ => none
/-! d[k], k in d, len(d) -/
def rIxDct : R2 := fun x y H Q => ∃ a v, x = .ref a ∧ DGet H a y (some v) ∧ Q v H
def rInDct (neg : Bool) : R2 := fun y x H Q => ∃ a o, x = .ref a ∧ DGet H a y o ∧ Q (.bl (neg ^^ o.isSome)) H
section
variable {X : Cx}
theorem dget_type {pins : List (Addr × Obj)} {σ : L2.St} {H : Hp} {s : Shared} {a : Addr} {y : V} {o : Option V} (I : Inv X pins σ H s) (g : DGet H a y o) : s.TypeIs (.ref a) "dict" := (isD_at I (g.elim (fun ⟨kvs, _, h, _⟩ => .inl ⟨kvs, h⟩) fun ⟨kvs, _, _, h, _⟩ => .inr ⟨kvs, h⟩)).1
theorem ix_dct (hu : X.A.units + 1 < cLine) : IxR X rIxDct := by
  intro value slice pins s σ H x y v u Q I rx ry h hs
  obtain ⟨a, z, rfl, g, q⟩ := h
  obtain rfl : v = Value.ref a := rx
  exact tail_any (dget_type I g) PySem.F.slot_dict_getitem.lookup (d_getItem hu I g ry fun w' s3 I3 rw' => ⟨z, H, I3, rw', q⟩) hs
theorem op_in_dct (hu : X.A.units + 1 < cLine) : OpR X (compareOp .In) (rInDct false) := by
  intro pins s σ H x y v u Q I rx ry h
  obtain ⟨a, o, rfl, g, q⟩ := h
  obtain rfl : u = Value.ref a := ry
  rw [Bool.false_xor] at q
  exact d_in hu I g rx fun s3 I3 => ⟨.bl o.isSome, H, I3, rfl, q⟩
theorem op_notIn_dct (hu : X.A.units + 1 < cLine) : OpR X (compareOp .NotIn) (rInDct true) := by
  intro pins s σ H x y v u Q I rx ry h
  obtain ⟨a, o, rfl, g, q⟩ := h
  obtain rfl : u = Value.ref a := ry
  rw [Bool.true_xor] at q
  exact d_notIn hu I g rx fun s3 I3 => ⟨.bl (!o.isSome), H, I3, rfl, q⟩
def rLenDct : List V → Hp → VK → Prop := fun xs H Q => ∃ a kvs, xs = [V.ref a] ∧ Rd H a (.dK kvs) ∧ Q (.int kvs.length) H
theorem call_lenDct : CallR X (.builtin "len") rLenDct := by
  intro pins s σ H xs us Q I r h
  obtain ⟨a, kvs, rfl, ha, q⟩ := h
  obtain ⟨u, rfl, ru⟩ := vals1 r
  cases ru
  exact d_len I ha fun t s' I' => ⟨.int kvs.length, H, I', ⟨t, rfl⟩, q⟩
end
def strs? : List D → Option (List Str)
  | [] => some []
  | .str x :: ds => (strs? ds).map (x :: ·)
  | _ :: _ => none
theorem strs_of : ∀ {ds : List D} {xs : List Str}, strs? ds = some xs → ds = xs.map D.str
  | [], _, h => by cases h; rfl
  | d :: ds, xs, h => by
    cases d <;> first
      | (cases h; done)
      | skip
    rename_i x
    obtain ⟨ys, h1, h2⟩ := Option.map_eq_some_iff.mp (show (strs? ds).map (x :: ·) = some xs from h)
    subst h2
    rw [strs_of h1]
    rfl
theorem strs_rep {K : PySem.W.Frag} {F : Hp} : ∀ {ss : List Str} {xs : List V}, RepL K F xs (ss.map D.str) → xs = ss.map V.str
  | [], _, .nil => rfl
  | _ :: _, _, .cons r t => by
    cases r
    rw [strs_rep t]
    rfl
theorem inV_strs (x : Str) (ss : List Str) : inV (.str x) (ss.map V.str) = decide (x ∈ ss) := by
  unfold inV
  induction ss with
  | nil => simp
  | cons y ss ih =>
    rw [List.map_cons, List.any_cons, ih]
    by_cases e : y = x
    · subst e
      simp [eqV]
    · have e' : ¬ x = y := fun z => e z.symm
      simp [eqV, e, e']
def inD (neg : Bool) : D → D → Option Bool
  | d, .lst ds => if d.fit ∧ (D.lst ds).fit then some (neg ^^ (pds ds).any fun z => PyData.eqv z d.pd) else none
  | .int i, .tup ds => (ints? ds).bind fun is => some (neg ^^ decide (i ∈ is))
  | .str x, .tup ds => (strs? ds).bind fun is => some (neg ^^ decide (x ∈ is))
  | d, .dic ks vs => (kO d).bind fun k => some (neg ^^ (dval ks vs k).isSome)
  | _, _ => none
theorem inG_of {neg : Bool} {d e : D} {z : Bool} {s : S} {R : Sl → S → Prop} (hd : ¬ ∃ ks vs, e = .dic ks vs) (hs : ¬ ∃ x ds, d = .str x ∧ e = .tup ds) (h : inD neg d e = some z) (w : R (.dat (.bl z)) s) : inG neg d e s R := by
  cases e with
  | dic ks vs => exact absurd ⟨_, _, rfl⟩ hd
  | lst ds =>
    have h : (if d.fit ∧ (D.lst ds).fit then some (neg ^^ (pds ds).any fun z => PyData.eqv z d.pd) else none) = some z := by
      cases d <;> exact h
    obtain ⟨c, h⟩ := ite_of h
    cases h
    exact ⟨c, w⟩
  | tup ds =>
    cases d <;> first
      | cases h
      | exact absurd ⟨_, _, rfl, rfl⟩ hs
      | skip
    obtain ⟨is, h1, h⟩ := bind_of h
    cases h
    exact ⟨is, ints_of h1, w⟩
  | _ => cases d <;> cases h
theorem in_dct {K : PySem.W.Frag} {neg : Bool} {A : Amb} {as : List Addr} {s : S} {σ : L2.St} {H : Hp} {x y : V} {p q : Sl} {d : D} {ks : List Key} {vs : List D} {z : Bool} {R : Sl → S → Prop} {Q : VK} (ok : Ok K A as s σ H) (rx : RepS K (vw A as s.μ H) as x p) (ry : RepS K (vw A as s.μ H) as y q) (h1 : rd s p = some d) (h2 : rd s q = some (.dic ks vs)) (h3 : inD neg d (.dic ks vs) = some z) (h4 : R (.dat (.bl z)) s) (k : Kon K A as s σ H R Q) : rInDct neg x y H Q := by
  have h3 : (kO d).bind (fun k => some (neg ^^ (dval ks vs k).isSome)) = some z := by cases d <;> exact h3
  obtain ⟨j, h5, h6⟩ := bind_of h3
  cases h6
  obtain ⟨a, kvs, rfl, e1, e2, e3⟩ := ok.rdc ry h2
  refine ⟨a, valV kvs j, rfl, .inl ⟨kvs, j, e1, kO_rep h5 (ok.rdc rx h1), rfl⟩, ?_⟩
  have e4 : (valV kvs j).isSome = (dval ks vs j).isSome := by
    obtain ⟨q1, q2⟩ := val_rep (K := K) j e2 e3
    cases e5 : dval ks vs j with
    | none => rw [q2 e5]; rfl
    | some d => obtain ⟨v, q3, _⟩ := q1 d e5; rw [q3]; rfl
  rw [e4]
  exact k.here ok (r := .dat (.bl _)) .bl h4
theorem in_str {K : PySem.W.Frag} {neg : Bool} {A : Amb} {as : List Addr} {s : S} {σ : L2.St} {H : Hp} {x y : V} {p q : Sl} {t : Str} {ds : List D} {z : Bool} {R : Sl → S → Prop} {Q : VK} (ok : Ok K A as s σ H) (rx : RepS K (vw A as s.μ H) as x p) (ry : RepS K (vw A as s.μ H) as y q) (h1 : rd s p = some (.str t)) (h2 : rd s q = some (.tup ds)) (h3 : inD neg (.str t) (.tup ds) = some z) (h4 : R (.dat (.bl z)) s) (k : Kon K A as s σ H R Q) : rIn K neg x y H Q := by
  obtain ⟨ss, h5, h6⟩ := bind_of h3
  cases h6
  cases strs_of h5
  obtain ⟨_, a, xs, rfl, e1, e2⟩ := ok.rdc ry h2
  cases ok.rdc rx h1
  cases strs_rep e2
  refine ⟨a, _, rfl, .inr e1.sq, rfl, ?_, ?_⟩
  · rw [List.all_eq_true]
    intro y hy
    obtain ⟨z, _, rfl⟩ := List.mem_map.mp hy
    rfl
  · rw [inV_strs]
    have := k.here ok (r := .dat (.bl _)) .bl h4
    cases neg
    · simpa using this
    · simpa using this
def rInA (K : PySem.W.Frag) : R2 := fun x y H Q => rInAll K x y H Q ∨ rInDct false x y H Q
def rNotInA (K : PySem.W.Frag) : R2 := fun x y H Q => rNotInAll K x y H Q ∨ rInDct true x y H Q
theorem op_inA {X : Cx} (hu : X.A.units + 65 < cLine) : OpR X (compareOp .In) (rInA X.K) := OpR.or (op_inAll hu) (op_in_dct (by omega))
theorem op_notInA {X : Cx} (hu : X.A.units + 65 < cLine) : OpR X (compareOp .NotIn) (rNotInA X.K) := OpR.or (op_notInAll hu) (op_notIn_dct (by omega))
theorem ops_inD {K : PySem.W.Frag} : OpS K (opB (inD false)) (rInA K) := fun A as s σ H x y p q R Q ok rx ry w k => by
  obtain ⟨d, e, h1, h2, z, h3, h4⟩ := two_of w
  by_cases hd : ∃ ks vs, e = .dic ks vs
  · obtain ⟨ks, vs, rfl⟩ := hd
    exact .inr (in_dct ok rx ry h1 h2 h3 h4 k)
  by_cases hs : ∃ x ds, d = .str x ∧ e = .tup ds
  · obtain ⟨x, ds, rfl, rfl⟩ := hs
    exact .inl (.inr (in_str (neg := false) ok rx ry h1 h2 h3 h4 k))
  · exact .inl (ops_in A as s σ H x y p q R Q ok rx ry (two_mk h1 h2 (inG_of hd hs h3 h4)) k)
theorem ops_notInD {K : PySem.W.Frag} : OpS K (opB (inD true)) (rNotInA K) := fun A as s σ H x y p q R Q ok rx ry w k => by
  obtain ⟨d, e, h1, h2, z, h3, h4⟩ := two_of w
  by_cases hd : ∃ ks vs, e = .dic ks vs
  · obtain ⟨ks, vs, rfl⟩ := hd
    exact .inr (in_dct ok rx ry h1 h2 h3 h4 k)
  by_cases hs : ∃ x ds, d = .str x ∧ e = .tup ds
  · obtain ⟨x, ds, rfl, rfl⟩ := hs
    exact .inl (.inr (in_str (neg := true) ok rx ry h1 h2 h3 h4 k))
  · exact .inl (ops_notIn A as s σ H x y p q R Q ok rx ry (two_mk h1 h2 (inG_of hd hs h3 h4)) k)
end Ge
namespace Ge
open PySem PySem.Spec PyProof.Rows L2 Gd
local macro_rules | `(tactic| walk_at "pu") => `(tactic| repeat' first | with_reducible exact pu_prim | with_reducible exact pu_ret | assumption | with_reducible (refine pu_bind ?_ ?_) | with_reducible (refine pu_cond ?_ ?_) | intro)
/-! ### places, slices -/
def ixD : D → D → Option D
  | .lst ds, .int i => atI ds i
  | .scr ds, .int i => atI ds i
  | .tup ds, .int i => atI ds i
  | .par ds, .int i => atI ds i
  | .str x, .int i => gd x.length ((atI x.cps.toList i).map fun c => .str ⟨#[c]⟩)
  | .dic ks vs, e => (kO e).bind fun k => dval ks vs k
  | _, _ => none
def rIxA (K : PySem.W.Frag) : R2 := fun x y H Q => rIx K x y H Q ∨ rIxDct x y H Q
theorem ops_ixD {K : PySem.W.Frag} : OpS K (opS ixD) (rIxA K) := fun A as s σ H x y p q R Q ok rx ry w k => by
  obtain ⟨d, e, h1, h2, z, h3, h4⟩ := two_of w
  by_cases hd : ∃ ks vs, d = .dic ks vs
  · obtain ⟨ks, vs, rfl⟩ := hd
    have h3 : (kO e).bind (fun k => dval ks vs k) = some z := h3
    obtain ⟨j, h5, h6⟩ := bind_of h3
    obtain ⟨a, kvs, rfl, e1, e2, e3⟩ := ok.rdc rx h1
    obtain ⟨v, h7, h8⟩ := (val_rep j e2 e3).1 z h6
    exact .inr ⟨a, v, rfl, .inl ⟨kvs, j, e1, kO_rep h5 (ok.rdc ry h2), h7.symm⟩, k.here ok (r := .dat z) h8 h4⟩
  refine .inl (ops_ix A as s σ H x y p q R Q ok rx ry (two_mk h1 h2 ?_) k)
  cases d <;> first
    | exact absurd ⟨_, _, rfl⟩ hd
    | skip
  all_goals cases e <;> first
    | (cases h3; done)
    | (show optK _ _; rw [show atI _ _ = _ from h3]; exact h4)
    | skip
  obtain ⟨c, h3⟩ := gd_of h3
  obtain ⟨u, e, hw⟩ := Option.map_eq_some_iff.mp h3
  subst hw
  refine ⟨c, ?_⟩
  show optK _ _
  rw [e]
  exact h4
section
variable {X : Cx} {a b e : Expr} {es : List Expr} {ea eb ee : Ev Sl} {er : Ev (List Sl)} {lo hi : Option Expr} {pos p2 : Pos} {ol oh : Ev (Option Int)}
theorem f_ix (hu : X.A.units + 1 < cLine) (ha : PE X a (up X.K (wE ea))) (hb : PE X b (up X.K (wE eb))) (hs : PlainIx b := by exact fun _ _ => rfl) : PE X (.Subscript a b pos) (up X.K (wE (fOp ixD ea eb))) := pe_w (pe_imp (pe_ix (IxR.or ix_seq (ix_dct hu)) ha hb hs) (up_op ops_ixD)) fun s R _ h => by
  refine wE_mono (wE_bind h) fun p s1 _ h => wE_mono (wE_bind h) fun q s2 _ h => ?_
  obtain ⟨d, h1, h⟩ := wE_prim (wE_bind h)
  obtain ⟨e, h2, h⟩ := wE_prim (wE_bind h)
  obtain ⟨z, h3, h⟩ := wE_prim (wE_bind h)
  exact two_mk h1 h2 ⟨z, h3, wE_ret h⟩
def fON : Ev (Option Int) := .ret none
def intO : D → Option Int
  | .int i => some i
  | _ => none
def fOS (ea : Ev Sl) : Ev (Option Int) := ea.bind fun p => (fRd p).bind fun d => (fO (intO d)).bind fun i => .ret (some i)
instance : Pu fON := by unfold fON; walk_at "pu"
instance [Pu ea] : Pu (fOS ea) := by unfold fOS; walk_at "pu"
theorem f_onone : PO X none (upO X.K (wE fON)) := po_w o_none fun s R _ h => wE_ret h
theorem f_osome (h : PE X e (up X.K (wE ee))) : PO X (some e) (upO X.K (wE (fOS ee))) := po_w (o_some h) fun s R _ h => wE_mono (wE_bind h) fun p s1 _ h => by
  obtain ⟨d, h1, h⟩ := wE_prim (wE_bind h)
  obtain ⟨i, h2, h5⟩ := wE_prim (wE_bind h)
  have h6 := wE_ret h5
  show optK (rd s1 p) _
  rw [h1]
  clear h h5 h1
  cases d <;> first
    | (cases h2; done)
    | (cases h2; exact h6)
def slD (lo hi : Option Int) : D → Option D
  | .lst ds => some (.lst (Gd.cutD ds lo hi))
  | .scr ds => some (.lst (Gd.cutD ds lo hi))
  | .tup ds => some (.tup (Gd.cutD ds lo hi))
  | .str x => gd x.length (some (.str (cutS x lo hi)))
  | _ => none
def wSlD (we : WE) (wl wh : WO) : WE := fun s R => we s fun p s1 => wl s1 fun l s2 => wh s2 fun u s3 => ∃ d z, rd s3 p = some d ∧ slD l u d = some z ∧ R (.dat z) s3
theorem sl_okD {K : PySem.W.Frag} {A : Amb} {as : List Addr} {s : S} {σ : L2.St} {H : Hp} {x : V} {p : Sl} {lo hi : Option Int} {R : Sl → S → Prop} {Q : VK} (ok : Ok K A as s σ H) (rx : RepS K (vw A as s.μ H) as x p) (w : ∃ d z, rd s p = some d ∧ slD lo hi d = some z ∧ R (.dat z) s) (k : Kon K A as s σ H R Q) : rSlAll K x lo hi H Q := by
  obtain ⟨d, z, e, hz, w⟩ := w
  have r := ok.rdc rx e
  cases d with
  | lst ds => cases hz; obtain ⟨a, xs, rfl, h1, h2⟩ := r; exact .inl ⟨a, xs, rfl, .inl (.inl h1), fun p hp => lstD k ok hp (cut_rep h2 lo hi) w⟩
  | scr ds => cases hz; obtain ⟨a, xs, rfl, h1, h2⟩ := r; exact .inl ⟨a, xs, rfl, h1, fun p hp => lstD k ok hp (cut_rep h2 lo hi) w⟩
  | tup ds =>
    cases hz
    obtain ⟨rt, a, xs, rfl, h1, h2⟩ := r
    refine .inr (.inl ⟨a, xs, rfl, h1.sq, fun hw => ?_, fun _ => k.nuT ok (cut_rep h2 lo hi) w⟩)
    have e : Gd.cutD ds lo hi = ds := by
      unfold Gd.cutD
      rw [← h2.len, hw.1, hw.2, List.drop_zero, h2.len, Nat.sub_zero, List.take_length]
    rw [e] at w
    exact k.here ok (r := .dat (.tup ds)) rt w
  | str y =>
    obtain ⟨c, hz⟩ := gd_of hz
    cases hz
    cases r
    exact .inr (.inr ⟨_, rfl, c.ok, k.here ok (r := .dat (.str _)) .str w⟩)
  | _ => cases hz
theorem e_slD {we : WE} {wl wh : WO} (he : PE X e (up X.K we)) (hl : PO X lo (upO X.K wl)) (hu : PO X hi (upO X.K wh)) : PE X (.Subscript e (.Slice lo hi none p2) pos) (up X.K (wSlD we wl wh)) := pe_imp (pe_slice sl_all he hl hu) fun σ H Q ⟨A, as, s, R, ok, w, k⟩ =>
  ⟨A, as, s, _, ok, w, fun v1 H1 p s1 as1 st1 ok1 r1 w1 => ⟨A, as1, s1, _, ok1, w1, fun l H2 s2 as2 st2 ok2 w2 => ⟨A, as2, s2, _, ok2, w2, fun u H3 s3 as3 st3 ok3 w3 =>
    sl_okD ok3 ((r1.mono st2.le st2.pre).mono st3.le st3.pre) w3 fun v4 H4 t s4 as4 st4 ok4 r4 w4 => k v4 H4 t s4 as4 (((st1.trans st2).trans st3).trans st4) ok4 r4 w4⟩⟩⟩
def fSl (ee : Ev Sl) (ol oh : Ev (Option Int)) : Ev Sl := ee.bind fun p => ol.bind fun l => oh.bind fun u => (fRd p).bind fun d => (fO (slD l u d)).bind fun z => .ret (.dat z)
instance [Pu ee] [Pu ol] [Pu oh] : Pu (fSl ee ol oh) := by unfold fSl; walk_at "pu"
theorem f_sl (he : PE X e (up X.K (wE ee))) (hl : PO X lo (upO X.K (wE ol))) (hu : PO X hi (upO X.K (wE oh))) : PE X (.Subscript e (.Slice lo hi none p2) pos) (up X.K (wE (fSl ee ol oh))) := pe_w (e_slD he hl hu) fun s R _ h =>
  wE_mono (wE_bind h) fun p s1 _ h => wE_mono (wE_bind h) fun l s2 _ h => wE_mono (wE_bind h) fun u s3 _ h => by
    obtain ⟨d, h1, h⟩ := wE_prim (wE_bind h)
    obtain ⟨z, h2, h⟩ := wE_prim (wE_bind h)
    exact ⟨d, z, h1, h2, wE_ret h⟩

/-! ### built-ins by their name -/
variable {x : Str} {p : Pos} {r : List V → Hp → VK → Prop} {id T : String} {o : D → Option D} {o2 : D → D → Option D}
def cb1 (o : D → Option D) : FN := fun ps s R => arg1 s ps fun d => ∃ z, o d = some z ∧ R (.dat z) s
def cb2 (o : D → D → Option D) : FN := fun ps s R => arg2 s ps fun d e => ∃ z, o d e = some z ∧ R (.dat z) s
theorem f_cb1 (hc : CallR X (.builtin id) r) (hs : CbS X.K (cb1 o) r) (hg : Gl X x) (hm : X.mg x = none) (hv : bootBuiltins x = some (.builtin id)) (ha : PE X e (up X.K (wE ee))) (hn : x ≠ "__name__" := by decide) (hdb : (x == ("__debug__" : Str)) = false := by decide)
    (he : starEach [e] X.env = (false, eval e X.env) :: starEach [] X.env := by rfl) (hpl : (backTo pos (starEach [] X.env)).any (·.1) = false := by rfl) : PE X (.Call (.Name x p) [e] [] pos) (up X.K (wE (fU o ee))) :=
  pe_w (e_cb hc hs hg hm hv (a_cons ha a_nil he) hn hdb he hpl) fun s R _ h => show wE ee s (fun p s1 => cb1 o [p] s1 R) from wE_mono (wE_U h) fun p s1 _ ⟨d, z, h1, h2, h⟩ => by
    show optK (rd s1 p) _
    rw [h1]
    exact ⟨z, h2, h⟩
theorem f_ct1 (hc : CallR X (.type T) r) (hs : CbS X.K (cb1 o) r) (hg : Gl X x) (hm : X.mg x = none) (hv : bootBuiltins x = some (.type T)) (ha : PE X e (up X.K (wE ee))) (hn : x ≠ "__name__" := by decide) (hdb : (x == ("__debug__" : Str)) = false := by decide)
    (he : starEach [e] X.env = (false, eval e X.env) :: starEach [] X.env := by rfl) (hpl : (backTo pos (starEach [] X.env)).any (·.1) = false := by rfl) : PE X (.Call (.Name x p) [e] [] pos) (up X.K (wE (fU o ee))) :=
  pe_w (e_ct hc hs hg hm hv (a_cons ha a_nil he) hn hdb he hpl) fun s R _ h => show wE ee s (fun p s1 => cb1 o [p] s1 R) from wE_mono (wE_U h) fun p s1 _ ⟨d, z, h1, h2, h⟩ => by
    show optK (rd s1 p) _
    rw [h1]
    exact ⟨z, h2, h⟩
theorem f_cb2 (hc : CallR X (.builtin id) r) (hs : CbS X.K (cb2 o2) r) (hg : Gl X x) (hm : X.mg x = none) (hv : bootBuiltins x = some (.builtin id)) (ha : PE X a (up X.K (wE ea))) (hb : PE X b (up X.K (wE eb))) (hn : x ≠ "__name__" := by decide) (hdb : (x == ("__debug__" : Str)) = false := by decide)
    (he : starEach [a, b] X.env = (false, eval a X.env) :: starEach [b] X.env := by rfl) (he2 : starEach [b] X.env = (false, eval b X.env) :: starEach [] X.env := by rfl) (hpl : (backTo pos (starEach [b] X.env)).any (·.1) = false := by rfl) : PE X (.Call (.Name x p) [a, b] [] pos) (up X.K (wE (fOp o2 ea eb))) :=
  pe_w (e_cb hc hs hg hm hv (a_cons ha (a_cons hb a_nil he2) he) hn hdb he hpl) fun s R _ h => show wE ea s (fun p s1 => wE eb s1 fun q s2 => cb2 o2 [p, q] s2 R) from wE_mono (wE_bind h) fun p s1 _ h => wE_mono (wE_bind h) fun q s2 _ h => by
    obtain ⟨d, h1, h⟩ := wE_prim (wE_bind h)
    obtain ⟨e, h2, h⟩ := wE_prim (wE_bind h)
    obtain ⟨z, h3, h⟩ := wE_prim (wE_bind h)
    exact two_mk h1 h2 ⟨z, h3, wE_ret h⟩
end
section
variable {K : PySem.W.Frag}
theorem cbs_of1 {o : D → Option D} {r : List V → Hp → VK → Prop} (h : ∀ (A : Amb) (as : List Addr) (s : S) (σ : L2.St) (H : Hp) (x : V) (d z : D) (R : Sl → S → Prop) (Q : VK), Ok K A as s σ H → Rdc K (vw A as s.μ H) H x d → o d = some z → R (.dat z) s → Kon K A as s σ H R Q → r [x] H Q) : CbS K (cb1 o) r :=
  CbS.of1 fun A as s σ H x d R Q ok r ⟨z, hz, w⟩ k => h A as s σ H x d z R Q ok r hz w k
def lenD : D → Option D
  | .lst ds => some (.int (ds.length : Int))
  | .scr ds => some (.int (ds.length : Int))
  | .tup ds => some (.int (ds.length : Int))
  | .str x => gd x.length (some (.int (x.length : Int)))
  | .dic ks _ => some (.int (ks.length : Int))
  | _ => none
def rLenA (K : PySem.W.Frag) : List V → Hp → VK → Prop := fun xs H Q => (∃ x n, xs = [x] ∧ LenV K x H n ∧ Q (.int n) H) ∨ rLenDct xs H Q
theorem call_lenA {X : Cx} : CallR X (.builtin "len") (rLenA X.K) := CallR.or call_len call_lenDct
theorem cbs_lenD : CbS K (cb1 lenD) (rLenA K) := cbs_of1 fun A as s σ H x d z R Q ok r hz w k => by
  cases d with
  | lst ds => cases hz; obtain ⟨a, xs, rfl, h1, h2⟩ := r; exact .inl ⟨_, _, rfl, .inl ⟨xs, .inl (.inl h1), h2.len.symm⟩, k.here ok (r := .dat (.int _)) .int w⟩
  | scr ds => cases hz; obtain ⟨a, xs, rfl, h1, h2⟩ := r; exact .inl ⟨_, _, rfl, .inl ⟨xs, h1, h2.len.symm⟩, k.here ok (r := .dat (.int _)) .int w⟩
  | tup ds => cases hz; obtain ⟨_, a, xs, rfl, h1, h2⟩ := r; exact .inl ⟨_, _, rfl, .inr ⟨xs, h1.sq, h2.len.symm⟩, k.here ok (r := .dat (.int _)) .int w⟩
  | str y => obtain ⟨c, hz⟩ := gd_of hz; cases hz; cases r; exact .inl ⟨_, _, rfl, ⟨c.ok, rfl⟩, k.here ok (r := .dat (.int _)) .int w⟩
  | dic ks vs =>
    cases hz
    obtain ⟨a, kvs, rfl, e1, e2, e3⟩ := r
    refine .inr ⟨a, kvs, rfl, e1, ?_⟩
    rw [show kvs.length = ks.length by rw [← e2, List.length_map]]
    exact k.here ok (r := .dat (.int _)) .int w
  | _ => cases hz
def absD : D → Option D
  | .int i => some (.int (if i < 0 then -i else i))
  | _ => none
theorem cbs_absD : CbS K (cb1 absD) (fun xs H Q => ∃ i, xs = [.int i] ∧ Q (.int (if i < 0 then -i else i)) H) := cbs_of1 fun A as s σ H x d z R Q ok r hz w k => by
  cases d with
  | int i => cases hz; cases r; exact ⟨_, rfl, k.here ok (r := .dat (.int _)) .int w⟩
  | _ => cases hz
def intD : D → Option D
  | .int i => some (.int i)
  | .bl b => some (.int (cond b 1 0))
  | _ => none
theorem cbs_intD : CbS K (cb1 intD) (fun xs H Q => (∃ i, xs = [.int i] ∧ Q (.int i) H) ∨ ∃ k, xs = [.bl k] ∧ Q (.int (if k then 1 else 0)) H) := cbs_of1 fun A as s σ H x d z R Q ok r hz w k => by
  cases d with
  | int i => cases hz; cases r; exact .inl ⟨_, rfl, k.here ok (r := .dat (.int _)) .int w⟩
  | bl i => cases hz; cases r; exact .inr ⟨_, rfl, k.here ok (r := .dat (.int _)) .int (by cases i <;> exact w)⟩
  | _ => cases hz
def int2D (g : Int → Int → Int) : D → D → Option D
  | .int i, .int j => some (.int (g i j))
  | _, _ => none
theorem cbs_max2D : CbS K (cb2 (int2D maxI)) (fun xs H Q => ∃ i j, xs = [.int i, .int j] ∧ Q (.int (if j > i then j else i)) H) := CbS.of2 fun A as s σ H x y d e R Q ok rx ry ⟨z, hz, w⟩ k => by
  cases d <;> cases e <;> first
    | cases hz
    | skip
  cases rx; cases ry
  exact ⟨_, _, rfl, k.here ok (r := .dat (.int _)) .int w⟩
theorem cbs_min2D : CbS K (cb2 (int2D minI)) (fun xs H Q => ∃ i j, xs = [.int i, .int j] ∧ Q (.int (if j < i then j else i)) H) := CbS.of2 fun A as s σ H x y d e R Q ok rx ry ⟨z, hz, w⟩ k => by
  cases d <;> cases e <;> first
    | cases hz
    | skip
  cases rx; cases ry
  exact ⟨_, _, rfl, k.here ok (r := .dat (.int _)) .int w⟩
def listD : D → Option D
  | .lst ds => some (.lst ds)
  | .scr ds => some (.lst ds)
  | .tup ds => some (.lst ds)
  | _ => none
theorem cbs_listD : CbS K (cb1 listD) (fun xs H Q => ∃ p ys, xs = [.ref p] ∧ (SqL K H p ys ∨ SqT K H p ys) ∧ ∀ l, H l = none → Q (.ref l) (upd H l (.lst ys))) := cbs_of1 fun A as s σ H x d z R Q ok r hz w k => by
  cases d with
  | lst ds => cases hz; obtain ⟨a, xs, rfl, h1, h2⟩ := r; exact ⟨_, _, rfl, .inl (.inl (.inl h1)), fun l hl => lstD k ok hl h2 w⟩
  | scr ds => cases hz; obtain ⟨a, xs, rfl, h1, h2⟩ := r; exact ⟨_, _, rfl, .inl h1, fun l hl => lstD k ok hl h2 w⟩
  | tup ds => cases hz; obtain ⟨_, a, xs, rfl, h1, h2⟩ := r; exact ⟨_, _, rfl, .inr h1.sq, fun l hl => lstD k ok hl h2 w⟩
  | _ => cases hz
def tupD : D → Option D
  | .lst ds => some (.tup ds)
  | .scr ds => some (.tup ds)
  | .tup ds => some (.tup ds)
  | _ => none
theorem cbs_tupD : CbS K (cb1 tupD) (fun xs H Q => ∃ p ys, xs = [.ref p] ∧ ((SqL K H p ys ∧ NuT H ys Q) ∨ (SqT K H p ys ∧ Q (.ref p) H))) := cbs_of1 fun A as s σ H x d z R Q ok r hz w k => by
  cases d with
  | lst ds => cases hz; obtain ⟨a, xs, rfl, h1, h2⟩ := r; exact ⟨_, _, rfl, .inl ⟨.inl (.inl h1), k.nuT ok h2 w⟩⟩
  | scr ds => cases hz; obtain ⟨a, xs, rfl, h1, h2⟩ := r; exact ⟨_, _, rfl, .inl ⟨h1, k.nuT ok h2 w⟩⟩
  | tup ds => cases hz; obtain ⟨rt, a, xs, rfl, h1, h2⟩ := r; exact ⟨_, _, rfl, .inr ⟨h1.sq, k.here ok (r := .dat (.tup ds)) rt w⟩⟩
  | _ => cases hz
def maxL : Int → List Int → Int
  | m, [] => m
  | m, x :: xs => maxL (if x > m then x else m) xs
def minL : Int → List Int → Int
  | m, [] => m
  | m, x :: xs => minL (if x < m then x else m) xs
theorem maxL_spec : ∀ (xs : List Int) (m : Int), (maxL m xs = m ∨ maxL m xs ∈ xs) ∧ m ≤ maxL m xs ∧ ∀ y ∈ xs, y ≤ maxL m xs
  | [], m => ⟨.inl rfl, Int.le_refl _, fun y h => by cases h⟩
  | x :: xs, m => by
    obtain ⟨h1, h2, h3⟩ := maxL_spec xs (if x > m then x else m)
    show (maxL (if x > m then x else m) xs = m ∨ maxL (if x > m then x else m) xs ∈ x :: xs) ∧ m ≤ maxL (if x > m then x else m) xs ∧ ∀ y ∈ x :: xs, y ≤ maxL (if x > m then x else m) xs
    by_cases c : x > m
    · rw [if_pos c] at h1 h2 h3 ⊢
      refine ⟨.inr (h1.elim (fun e => by rw [e]; exact List.mem_cons_self ..) fun h => List.mem_cons_of_mem _ h), by omega, fun y hy => ?_⟩
      rcases List.mem_cons.mp hy with rfl | hy
      · exact h2
      · exact h3 y hy
    · rw [if_neg c] at h1 h2 h3 ⊢
      refine ⟨h1.imp id fun h => List.mem_cons_of_mem _ h, h2, fun y hy => ?_⟩
      rcases List.mem_cons.mp hy with rfl | hy
      · omega
      · exact h3 y hy
theorem minL_spec : ∀ (xs : List Int) (m : Int), (minL m xs = m ∨ minL m xs ∈ xs) ∧ minL m xs ≤ m ∧ ∀ y ∈ xs, minL m xs ≤ y
  | [], m => ⟨.inl rfl, Int.le_refl _, fun y h => by cases h⟩
  | x :: xs, m => by
    obtain ⟨h1, h2, h3⟩ := minL_spec xs (if x < m then x else m)
    show (minL (if x < m then x else m) xs = m ∨ minL (if x < m then x else m) xs ∈ x :: xs) ∧ minL (if x < m then x else m) xs ≤ m ∧ ∀ y ∈ x :: xs, minL (if x < m then x else m) xs ≤ y
    by_cases c : x < m
    · rw [if_pos c] at h1 h2 h3 ⊢
      refine ⟨.inr (h1.elim (fun e => by rw [e]; exact List.mem_cons_self ..) fun h => List.mem_cons_of_mem _ h), by omega, fun y hy => ?_⟩
      rcases List.mem_cons.mp hy with rfl | hy
      · exact h2
      · exact h3 y hy
    · rw [if_neg c] at h1 h2 h3 ⊢
      refine ⟨h1.imp id fun h => List.mem_cons_of_mem _ h, h2, fun y hy => ?_⟩
      rcases List.mem_cons.mp hy with rfl | hy
      · omega
      · exact h3 y hy
def onInts (g : List Int → Option D) : D → Option D
  | .lst ds => (ints? ds).bind g
  | _ => none
abbrev sumD := onInts fun is => some (.int is.sum)
abbrev maxD := onInts fun is => match is with
  | [] => none
  | x :: xs => some (.int (maxL x xs))
abbrev minD := onInts fun is => match is with
  | [] => none
  | x :: xs => some (.int (minL x xs))
theorem cbs_sumD : CbS K (cb1 sumD) (rSum K) := cbs_of1 fun A as s σ H x d z R Q ok r hz w k => by
  cases d with
  | lst ds =>
    obtain ⟨is, h, h9⟩ := bind_of hz
    clear hz
    cases ints_of h
    cases h9
    obtain ⟨a, xs, rfl, h1, h2⟩ := r
    cases h2.nums
    exact ⟨a, is, rfl, .inl (.inl h1), k.here ok (r := .dat (.int _)) .int w⟩
  | _ => cases hz
theorem cbs_maxD : CbS K (cb1 maxD) (rMax K) := cbs_of1 fun A as s σ H x d z R Q ok r hz w k => by
  cases d with
  | lst ds =>
    obtain ⟨is, h, h9⟩ := bind_of hz
    clear hz
    cases ints_of h
    obtain ⟨a, xs, rfl, h1, h2⟩ := r
    cases h2.nums
    cases is with
    | nil => cases h9
    | cons i is =>
      cases h9
      refine ⟨a, i :: is, rfl, .inl (.inl h1), Nat.succ_pos _, fun m z1 z2 => ?_⟩
      obtain ⟨q1, q2, q3⟩ := maxL_spec is i
      have e : m = maxL i is := by
        have h3 := z2 (maxL i is) (q1.elim (fun e => by rw [e]; exact List.mem_cons_self ..) fun h => List.mem_cons_of_mem _ h)
        rcases List.mem_cons.mp z1 with rfl | h
        · omega
        · have := q3 m h
          omega
      subst e
      exact k.here ok (r := .dat (.int _)) .int w
  | _ => cases hz
theorem cbs_minD : CbS K (cb1 minD) (rMin K) := cbs_of1 fun A as s σ H x d z R Q ok r hz w k => by
  cases d with
  | lst ds =>
    obtain ⟨is, h, h9⟩ := bind_of hz
    clear hz
    cases ints_of h
    obtain ⟨a, xs, rfl, h1, h2⟩ := r
    cases h2.nums
    cases is with
    | nil => cases h9
    | cons i is =>
      cases h9
      refine ⟨a, i :: is, rfl, .inl (.inl h1), Nat.succ_pos _, fun m z1 z2 => ?_⟩
      obtain ⟨q1, q2, q3⟩ := minL_spec is i
      have e : m = minL i is := by
        have h3 := z2 (minL i is) (q1.elim (fun e => by rw [e]; exact List.mem_cons_self ..) fun h => List.mem_cons_of_mem _ h)
        rcases List.mem_cons.mp z1 with rfl | h
        · omega
        · have := q3 m h
          omega
      subst e
      exact k.here ok (r := .dat (.int _)) .int w
  | _ => cases hz
def onBls (g : List Bool → Bool) : D → Option D
  | .lst ds => (bls? ds).bind fun bs => some (.bl (g bs))
  | _ => none
abbrev anyD := onBls fun bs => bs.any id
abbrev allD := onBls fun bs => bs.all id
theorem cbs_anyD : CbS K (cb1 anyD) (rAny K) := cbs_of1 fun A as s σ H x d z R Q ok r hz w k => by
  cases d with
  | lst ds =>
    obtain ⟨is, h, h9⟩ := bind_of hz
    clear hz
    cases bls_of h
    cases h9
    obtain ⟨a, xs, rfl, h1, h2⟩ := r
    cases h2.trus
    exact ⟨a, is, rfl, .inl (.inl h1), k.here ok (r := .dat (.bl _)) .bl w⟩
  | _ => cases hz
theorem cbs_allD : CbS K (cb1 allD) (rAll K) := cbs_of1 fun A as s σ H x d z R Q ok r hz w k => by
  cases d with
  | lst ds =>
    obtain ⟨is, h, h9⟩ := bind_of hz
    clear hz
    cases bls_of h
    cases h9
    obtain ⟨a, xs, rfl, h1, h2⟩ := r
    cases h2.trus
    exact ⟨a, is, rfl, .inl (.inl h1), k.here ok (r := .dat (.bl _)) .bl w⟩
  | _ => cases hz
end

/-! ### what is walked -/
section
variable {X : Cx} {tg l a b e e2 : Expr} {elts : List Expr} {kk : Nat} {el ea eb : Ev Sl} {pos p tpos : Pos}
def itO : Sl → Option (List D)
  | .dat (.lst ds) => some ds
  | .dat (.scr ds) => some ds
  | .dat (.tup ds) => some ds
  | .dat (.str x) => some (signs x)
  | .dat (.dic ks _) => some (ks.map kD)
  | _ => none
def itD : D → Option (List D)
  | .lst ds => some ds
  | .scr ds => some ds
  | .tup ds => some ds
  | .str x => some (signs x)
  | .dic ks _ => some (ks.map kD)
  | _ => none
theorem itO_dat (d : D) : itO (.dat d) = itD d := by cases d <;> rfl
def fiSeq (el : Ev Sl) : Ev (List D) := el.bind fun p => (fA (datO p)).bind fun d => fO (itD d)
instance [Pu el] : Pu (fiSeq el) := by unfold fiSeq; walk_at "pu"
theorem f_seq (h : PE X l (up X.K (wE el))) : PI X tg l (upI X.K (wE (fiSeq el))) := pi_w (i_seq h) fun s R _ h => wE_mono (wE_bind h) fun p s1 _ h => by
  obtain ⟨d, h1, h5⟩ := wE_prim (wE_bind h)
  obtain ⟨ds, h2, h6⟩ := wE_prim h5
  clear h h5
  cases p <;> first
    | (cases h1; done)
    | skip
  cases h1
  cases d <;> first
    | (cases h2; done)
    | (cases h2; exact h6)
instance (i : Int) : Decidable (fits i) := inferInstanceAs (Decidable (_ ∧ _))
def fitsB (i : Int) : Bool := decide (-(2 ^ 62) ≤ i ∧ i < 2 ^ 62)
def rng1 : D → Option (List D)
  | .int j => if fitsB j then some (rg 0 j.toNat) else none
  | _ => none
def rng2 : D → D → Option (List D)
  | .int i, .int j => if fitsB i ∧ fitsB j then some (rg i (j - i).toNat) else none
  | _, _ => none
def fiU (o : D → Option (List D)) (ea : Ev Sl) : Ev (List D) := ea.bind fun p => (fA (datO p)).bind fun d => fO (o d)
def fiB (o : D → D → Option (List D)) (ea eb : Ev Sl) : Ev (List D) := ea.bind fun p => eb.bind fun q => (fA (datO p)).bind fun d => (fA (datO q)).bind fun e => fO (o d e)
instance {o : D → Option (List D)} [Pu ea] : Pu (fiU o ea) := by unfold fiU; walk_at "pu"
instance {o : D → D → Option (List D)} [Pu ea] [Pu eb] : Pu (fiB o ea eb) := by unfold fiB; walk_at "pu"
theorem datO_of {p : Sl} {d : D} (h : datO p = some d) : p = .dat d := by
  cases p <;> first
    | (cases h; done)
    | skip
  cases h
  rfl
theorem f_rng1 (hg : Gl X "range") (hm : X.mg "range" = none) (ha : PE X a (up X.K (wE ea))) (hs : starEach [a] X.env = [(false, eval a X.env)] := by rfl) : PI X tg (.Call (.Name "range" p) [a] [] pos) (upI X.K (wE (fiU rng1 ea))) :=
  pi_w (i_rng1 hg hm (a_cons ha a_nil hs) hs) fun s R _ h => show wE ea s (fun p s1 => r1K [p] s1 R) from wE_mono (wE_bind h) fun p s1 _ h => by
    obtain ⟨d, h1, h5⟩ := wE_prim (wE_bind h)
    obtain ⟨ds, h2, h6⟩ := wE_prim h5
    clear h h5
    cases datO_of h1
    cases d <;> first
      | (cases h2; done)
      | skip
    obtain ⟨c, h3⟩ := ite_of h2
    cases h3
    exact ⟨by simpa [fitsB, fits] using c, h6⟩
theorem f_rng2 (hg : Gl X "range") (hm : X.mg "range" = none) (ha : PE X a (up X.K (wE ea))) (hb : PE X b (up X.K (wE eb))) (hs : starEach [a, b] X.env = [(false, eval a X.env), (false, eval b X.env)] := by rfl) (hs2 : starEach [b] X.env = [(false, eval b X.env)] := by rfl) :
    PI X tg (.Call (.Name "range" p) [a, b] [] pos) (upI X.K (wE (fiB rng2 ea eb))) :=
  pi_w (i_rng2 hg hm (a_cons ha (a_cons hb a_nil hs2) (hs.trans (by rw [hs2]))) hs hs2) fun s R _ h => show wE ea s (fun p s1 => wE eb s1 fun q s2 => r2K [p, q] s2 R) from wE_mono (wE_bind h) fun p s1 _ h => wE_mono (wE_bind h) fun q s2 _ h => by
    obtain ⟨d, h1, h4⟩ := wE_prim (wE_bind h)
    obtain ⟨e, h2, h5⟩ := wE_prim (wE_bind h4)
    obtain ⟨ds, h3, h6⟩ := wE_prim h5
    clear h h4 h5
    cases datO_of h1
    cases datO_of h2
    cases d <;> cases e <;> first
      | (cases h3; done)
      | skip
    obtain ⟨c, h7⟩ := ite_of h3
    cases h7
    exact ⟨⟨by simpa [fitsB, fits] using c.1, by simpa [fitsB, fits] using c.2⟩, h6⟩
/-- list(range(..)) as data -/
def sqD : D → Option (List D)
  | .lst ds => some ds
  | .scr ds => some ds
  | .tup ds => some ds
  | _ => none
def enmD (d : D) : Option (List D) := (sqD d).bind fun ds => some (enumD ds)
def zpD : D → D → Option (List D)
  | .lst ds, .lst es => some (zipD ds es)
  | .tup ds, .tup es => some (zipD ds es)
  | _, _ => none
theorem f_enum (hg : Gl X "enumerate") (hm : X.mg "enumerate" = none) (ha : PE X e (up X.K (wE ea))) (hs : starEach [e] X.env = [(false, eval e X.env)] := by rfl) : PI X (.Tuple elts kk tpos) (.Call (.Name "enumerate" p) [e] [] pos) (upI X.K (wE (fiU enmD ea))) :=
  pi_w (i_enum hg hm (a_cons ha a_nil hs) hs) fun s R _ h => show wE ea s (fun p s1 => enK [p] s1 R) from wE_mono (wE_bind h) fun p s1 _ h => by
    obtain ⟨d, h1, h5⟩ := wE_prim (wE_bind h)
    obtain ⟨ds, h2, h6⟩ := wE_prim h5
    clear h h5
    cases datO_of h1
    obtain ⟨es, h3, h7⟩ := bind_of h2
    cases h7
    cases d <;> first
      | (cases h3; done)
      | (cases h3; exact h6)
theorem f_zip (hg : Gl X "zip") (hm : X.mg "zip" = none) (ha : PE X e (up X.K (wE ea))) (hb : PE X e2 (up X.K (wE eb))) (hs : starEach [e, e2] X.env = (false, eval e X.env) :: starEach [e2] X.env := by rfl) (hs2 : starEach [e2] X.env = (false, eval e2 X.env) :: starEach [] X.env := by rfl) (hpl : (backTo pos (starEach [e2] X.env)).any (·.1) = false := by rfl) :
    PI X (.Tuple elts kk tpos) (.Call (.Name "zip" p) [e, e2] [] pos) (upI X.K (wE (fiB zpD ea eb))) :=
  pi_w (i_zip hg hm (a_cons ha (a_cons hb a_nil hs2) hs) hs hpl) fun s R _ h => show wE ea s (fun p s1 => wE eb s1 fun q s2 => zpK [p, q] s2 R) from wE_mono (wE_bind h) fun p s1 _ h => wE_mono (wE_bind h) fun q s2 _ h => by
    obtain ⟨d, h1, h4⟩ := wE_prim (wE_bind h)
    obtain ⟨e, h2, h5⟩ := wE_prim (wE_bind h4)
    obtain ⟨ds, h3, h6⟩ := wE_prim h5
    clear h h4 h5
    cases datO_of h1
    cases datO_of h2
    cases d <;> cases e <;> first
      | (cases h3; done)
      | (cases h3; exact h6)
end
end Ge
namespace Ge
open PySem PySem.Spec PyProof.Rows L2 Gd
/-! ### places of names, what may be written: as tuples -/
inductive CK where
  | l | x | d | t
  /-- an instance: the class's address, its fields by name -/
  | o (ns : List Str)
def TN : List Str → Type
  | [] => Unit
  | _ :: ns => D × TN ns
def getN : (ns : List Str) → List (Str × Sl) → Option (TN ns)
  | [], [] => some ()
  | n :: ns, (m, .dat d) :: fs => if m = n then (getN ns fs).map fun t => (d, t) else none
  | _, _ => none
def putN : (ns : List Str) → TN ns → List (Str × Sl)
  | [], _ => []
  | n :: ns, t => (n, .dat t.1) :: putN ns t.2
theorem getN_put : ∀ {ns : List Str} {fs : List (Str × Sl)} {t : TN ns}, getN ns fs = some t → putN ns t = fs
  | [], [], t, _ => rfl
  | [], _ :: _, t, h => by cases h
  | n :: ns, [], t, h => by cases h
  | n :: ns, (m, r) :: fs, t, h => by
    cases r with
    | dat d =>
      have h : (if m = n then (getN ns fs).map fun t => (d, t) else none) = some t := h
      by_cases e : m = n
      · rw [if_pos e] at h
        obtain ⟨q, h1, h2⟩ := Option.map_eq_some_iff.mp h
        subst h2 e
        exact congrArg _ (getN_put h1)
      · rw [if_neg e] at h
        cases h
    | _ => cases h
theorem putN_plain : ∀ (ns : List Str) (t : TN ns), ∀ f ∈ putN ns t, ∃ d, f.2 = .dat d
  | [], _, f, h => by cases h
  | n :: ns, t, f, h => by
    rcases List.mem_cons.mp h with rfl | h
    · exact ⟨_, rfl⟩
    · exact putN_plain ns t.2 f h
def TC : List CK → Type
  | [] => Unit
  | .l :: cs => List D × TC cs
  | .x :: cs => TC cs
  | .d :: cs => (List Key × List D) × TC cs
  | .t :: cs => (List (List Key) × List D) × TC cs
  | .o ns :: cs => (Addr × TN ns) × TC cs
def TJ (τ : Type) : List Nat → Type
  | [] => τ
  | _ :: js => D × TJ τ js
/-- so many at least -/
def getC : (cs : List CK) → Mu → Option (TC cs)
  | [], _ => some ()
  | .l :: cs, some (.lst b) :: μ => (getC cs μ).map fun t => (b, t)
  | .x :: cs, _ :: μ => getC cs μ
  | .d :: cs, some (.dic ks vs) :: μ => (getC cs μ).map fun t => ((ks, vs), t)
  | .t :: cs, some (.dct ks vs) :: μ => (getC cs μ).map fun t => ((ks, vs), t)
  | .o ns :: cs, some (.ins C fs) :: μ => (getN ns fs).bind fun q => (getC cs μ).map fun t => ((C, q), t)
  | _, _ => none
/-- just so -/
def getX : (cs : List CK) → Mu → Option (TC cs)
  | [], [] => some ()
  | .l :: cs, some (.lst b) :: μ => (getX cs μ).map fun t => (b, t)
  | .x :: cs, none :: μ => getX cs μ
  | .d :: cs, some (.dic ks vs) :: μ => (getX cs μ).map fun t => ((ks, vs), t)
  | .t :: cs, some (.dct ks vs) :: μ => (getX cs μ).map fun t => ((ks, vs), t)
  | .o ns :: cs, some (.ins C fs) :: μ => (getN ns fs).bind fun q => (getX cs μ).map fun t => ((C, q), t)
  | _, _ => none
/-- as many, some maybe no more -/
def getL : (cs : List CK) → Mu → Option (TC cs)
  | [], [] => some ()
  | .l :: cs, some (.lst b) :: μ => (getL cs μ).map fun t => (b, t)
  | .x :: cs, _ :: μ => getL cs μ
  | .d :: cs, some (.dic ks vs) :: μ => (getL cs μ).map fun t => ((ks, vs), t)
  | .t :: cs, some (.dct ks vs) :: μ => (getL cs μ).map fun t => ((ks, vs), t)
  | .o ns :: cs, some (.ins C fs) :: μ => (getN ns fs).bind fun q => (getL cs μ).map fun t => ((C, q), t)
  | _, _ => none
def putC : (cs : List CK) → TC cs → Mu
  | [], _ => []
  | .l :: cs, t => some (.lst t.1) :: putC cs t.2
  | .x :: cs, t => none :: putC cs t
  | .d :: cs, t => some (.dic t.1.1 t.1.2) :: putC cs t.2
  | .t :: cs, t => some (.dct t.1.1 t.1.2) :: putC cs t.2
  | .o ns :: cs, t => some (.ins t.1.1 (putN ns t.1.2)) :: putC cs t.2
def getJ {τ : Type} : (js : List Nat) → Ga → τ → Option (TJ τ js)
  | [], _, t => some t
  | j :: js, Γ, t => ((nth Γ j).bind datO).bind fun d => (getJ js Γ t).map fun r => (d, r)
def setJ {τ : Type} : (js : List Nat) → TJ τ js → Ga → Ga
  | [], _, Γ => Γ
  | j :: js, t, Γ => setJ js t.2 (put Γ j (.dat t.1))
def resJ {τ : Type} : (js : List Nat) → TJ τ js → τ
  | [], t => t
  | _ :: js, t => resJ js t.2
def repJ {τ : Type} : (js : List Nat) → TJ τ js → τ → TJ τ js
  | [], _, c => c
  | _ :: js, t, c => (t.1, repJ js t.2 c)
abbrev Cd (js : List Nat) (cs : List CK) := TJ (TC cs) js
def getS (js : List Nat) (cs : List CK) (s : S) : Option (Cd js cs) := (getC cs s.μ).bind fun c => getJ js s.Γ c
def getE (js : List Nat) (cs : List CK) (s : S) : Option (Cd js cs) := (getL cs s.μ).bind fun c => getJ js s.Γ c
def putS (js ks : List Nat) (cs : List CK) (Γ : Ga) (t : Cd js cs) : S := ⟨setJ js t (wip Γ ks), putC cs (resJ js t)⟩
theorem putC_len : ∀ (cs : List CK) (t : TC cs), (putC cs t).length = cs.length
  | [], _ => rfl
  | .l :: cs, t => congrArg Nat.succ (putC_len cs t.2)
  | .x :: cs, t => congrArg Nat.succ (putC_len cs t)
  | .d :: cs, t => congrArg Nat.succ (putC_len cs t.2)
  | .t :: cs, t => congrArg Nat.succ (putC_len cs t.2)
  | .o ns :: cs, t => congrArg Nat.succ (putC_len cs t.2)
theorem map_of {α β : Type} {x : Option α} {f : α → β} {b : β} (h : x.map f = some b) : ∃ a, x = some a ∧ f a = b := Option.map_eq_some_iff.mp h
theorem getX_put : ∀ {cs : List CK} {μ : Mu} {t : TC cs}, getX cs μ = some t → putC cs t = μ
  | [], [], t, _ => rfl
  | .l :: cs, some (.lst b) :: μ, t, h => by
    obtain ⟨r, h1, h2⟩ := map_of (show (getX cs μ).map (fun t => (b, t)) = some t from h)
    subst h2
    exact congrArg _ (getX_put h1)
  | .x :: cs, none :: μ, t, h => congrArg _ (getX_put (cs := cs) (t := t) h)
  | .d :: cs, some (.dic ks vs) :: μ, t, h => by
    obtain ⟨r, h1, h2⟩ := map_of (show (getX cs μ).map (fun t => ((ks, vs), t)) = some t from h)
    subst h2
    exact congrArg _ (getX_put h1)
  | .t :: cs, some (.dct ks vs) :: μ, t, h => by
    obtain ⟨r, h1, h2⟩ := map_of (show (getX cs μ).map (fun t => ((ks, vs), t)) = some t from h)
    subst h2
    exact congrArg _ (getX_put h1)
  | .o ns :: cs, some (.ins C fs) :: μ, t, h => by
    obtain ⟨q, h0, h⟩ := Option.bind_eq_some_iff.mp (show ((getN ns fs).bind fun q => (getX cs μ).map fun t => ((C, q), t)) = some t from h)
    obtain ⟨r, h1, h2⟩ := map_of h
    subst h2
    show some (MO.ins C (putN ns q)) :: putC cs r = _
    rw [getN_put h0, getX_put h1]
/-- what is given up -/
structure Weak (s1 s2 : S) : Prop where
  ln : s2.Γ.length = s1.Γ.length
  sl : ∀ (i : Nat) (r : Sl), s2.Γ[i]? = some (some r) → s1.Γ[i]? = some (some r) ∧ ∀ j, r = .cel j → j < s2.μ.length
  le : s2.μ.length ≤ s1.μ.length
  mo : ∀ (i : Nat) (o : MO), s2.μ[i]? = some (some o) → s1.μ[i]? = some (some o) ∧ o.below s2.μ.length
def noIns (o : MO) : Prop := o.plain
theorem noIns.bel {o : MO} (h : noIns o) (n : Nat) : o.below n := by
  cases o with
  | ins C fs =>
    intro f hf
    obtain ⟨d, e⟩ := h f hf
    rw [e]
    trivial
  | _ => trivial
theorem getC_mem : ∀ {cs : List CK} {μ : Mu} {t : TC cs}, getC cs μ = some t → cs.length ≤ μ.length ∧ ∀ (i : Nat) (o : MO), (putC cs t)[i]? = some (some o) → μ[i]? = some (some o) ∧ noIns o
  | [], _, t, _ => ⟨Nat.zero_le _, fun i o h => by simp [putC] at h⟩
  | .l :: cs, some (.lst b) :: μ, t, h => by
    obtain ⟨r, h1, h2⟩ := map_of (show (getC cs μ).map (fun t => (b, t)) = some t from h)
    subst h2
    obtain ⟨h3, h4⟩ := getC_mem h1
    refine ⟨Nat.succ_le_succ h3, fun i o e => ?_⟩
    cases i with
    | zero =>
      have e : some (some (MO.lst b)) = some (some o) := e
      cases e
      exact ⟨rfl, trivial⟩
    | succ i => exact h4 i o e
  | .x :: cs, y :: μ, t, h => by
    obtain ⟨h3, h4⟩ := getC_mem (cs := cs) (μ := μ) (t := t) h
    refine ⟨Nat.succ_le_succ h3, fun i o e => ?_⟩
    cases i with
    | zero =>
      have e : some none = some (some o) := e
      cases e
    | succ i => exact h4 i o e
  | .d :: cs, some (.dic ks vs) :: μ, t, h => by
    obtain ⟨r, h1, h2⟩ := map_of (show (getC cs μ).map (fun t => ((ks, vs), t)) = some t from h)
    subst h2
    obtain ⟨h3, h4⟩ := getC_mem h1
    refine ⟨Nat.succ_le_succ h3, fun i o e => ?_⟩
    cases i with
    | zero =>
      have e : some (some (MO.dic ks vs)) = some (some o) := e
      cases e
      exact ⟨rfl, trivial⟩
    | succ i => exact h4 i o e
  | .t :: cs, some (.dct ks vs) :: μ, t, h => by
    obtain ⟨r, h1, h2⟩ := map_of (show (getC cs μ).map (fun t => ((ks, vs), t)) = some t from h)
    subst h2
    obtain ⟨h3, h4⟩ := getC_mem h1
    refine ⟨Nat.succ_le_succ h3, fun i o e => ?_⟩
    cases i with
    | zero =>
      have e : some (some (MO.dct ks vs)) = some (some o) := e
      cases e
      exact ⟨rfl, trivial⟩
    | succ i => exact h4 i o e
  | .o ns :: cs, some (.ins C fs) :: μ, t, h => by
    obtain ⟨q, h0, h⟩ := Option.bind_eq_some_iff.mp (show ((getN ns fs).bind fun q => (getC cs μ).map fun t => ((C, q), t)) = some t from h)
    obtain ⟨r, h1, h2⟩ := map_of h
    subst h2
    obtain ⟨h3, h4⟩ := getC_mem h1
    refine ⟨Nat.succ_le_succ h3, fun i o e => ?_⟩
    cases i with
    | zero =>
      have e : some (some (MO.ins C (putN ns q))) = some (some o) := e
      cases e
      refine ⟨?_, putN_plain ns q⟩
      rw [getN_put h0]
      rfl
    | succ i => exact h4 i o e
theorem getL_C : ∀ {cs : List CK} {μ : Mu} {t : TC cs}, getL cs μ = some t → getC cs μ = some t ∧ cs.length = μ.length
  | [], [], t, h => ⟨h, rfl⟩
  | .l :: cs, some (.lst b) :: μ, t, h => by
    obtain ⟨r, h1, h2⟩ := map_of (show (getL cs μ).map (fun t => (b, t)) = some t from h)
    obtain ⟨h3, h4⟩ := getL_C h1
    refine ⟨?_, congrArg Nat.succ h4⟩
    show (getC cs μ).map _ = _
    rw [h3, ← h2]
    rfl
  | .x :: cs, y :: μ, t, h => by
    obtain ⟨h3, h4⟩ := getL_C (cs := cs) (μ := μ) (t := t) h
    exact ⟨h3, congrArg Nat.succ h4⟩
  | .d :: cs, some (.dic ks vs) :: μ, t, h => by
    obtain ⟨r, h1, h2⟩ := map_of (show (getL cs μ).map (fun t => ((ks, vs), t)) = some t from h)
    obtain ⟨h3, h4⟩ := getL_C h1
    refine ⟨?_, congrArg Nat.succ h4⟩
    show (getC cs μ).map _ = _
    rw [h3, ← h2]
    rfl
  | .t :: cs, some (.dct ks vs) :: μ, t, h => by
    obtain ⟨r, h1, h2⟩ := map_of (show (getL cs μ).map (fun t => ((ks, vs), t)) = some t from h)
    obtain ⟨h3, h4⟩ := getL_C h1
    refine ⟨?_, congrArg Nat.succ h4⟩
    show (getC cs μ).map _ = _
    rw [h3, ← h2]
    rfl
  | .o ns :: cs, some (.ins C fs) :: μ, t, h => by
    obtain ⟨q, h0, h⟩ := Option.bind_eq_some_iff.mp (show ((getN ns fs).bind fun q => (getL cs μ).map fun t => ((C, q), t)) = some t from h)
    obtain ⟨r, h1, h2⟩ := map_of h
    obtain ⟨h3, h4⟩ := getL_C h1
    refine ⟨?_, congrArg Nat.succ h4⟩
    show ((getN ns fs).bind fun q => (getC cs μ).map fun t => ((C, q), t)) = _
    rw [h0]
    show (getC cs μ).map _ = _
    rw [h3, ← h2]
    rfl
theorem put_len {α : Type} (l : List (Option α)) (i : Nat) (x : α) : (put l i x).length = l.length := by rw [put_eq, List.length_set]
theorem put_ne {α : Type} {l : List (Option α)} {i j : Nat} {x : α} (h : i ≠ j) : (put l i x)[j]? = l[j]? := by rw [put_eq, List.getElem?_set_ne h]
theorem put_get {α : Type} {l : List (Option α)} {i : Nat} {x y : α} (h : (put l i x)[i]? = some (some y)) : y = x := by
  rw [put_eq] at h
  by_cases hi : i < l.length
  · rw [List.getElem?_set_self hi] at h
    exact (Option.some.inj (Option.some.inj h)).symm
  · rw [List.getElem?_eq_none (by rw [List.length_set]; omega)] at h
    cases h
theorem setJ_len {τ : Type} : ∀ (js : List Nat) (t : TJ τ js) (Γ : Ga), (setJ js t Γ).length = Γ.length
  | [], _, _ => rfl
  | j :: js, t, Γ => (setJ_len js t.2 _).trans (put_len _ _ _)
theorem setJ_ne {τ : Type} : ∀ (js : List Nat) (t : TJ τ js) (Γ : Ga) {i : Nat}, i ∉ js → (setJ js t Γ)[i]? = Γ[i]?
  | [], _, _, _, _ => rfl
  | j :: js, t, Γ, i, h => (setJ_ne js t.2 _ fun z => h (List.mem_cons_of_mem _ z)).trans (put_ne fun e => h (e ▸ List.mem_cons_self ..))
theorem setJ_get {τ : Type} : ∀ {js : List Nat} {Γ1 : Ga} {c : τ} {t : TJ τ js}, getJ js Γ1 c = some t → ∀ {Γ : Ga} {i : Nat} {r : Sl}, (setJ js t Γ)[i]? = some (some r) → (i ∉ js ∧ Γ[i]? = some (some r)) ∨ (Γ1[i]? = some (some r) ∧ ∃ d, r = .dat d)
  | [], _, _, _, _, _, _, _, h => .inl ⟨by simp, h⟩
  | j :: js, Γ1, c, t, h, Γ, i, r, hr => by
    obtain ⟨d, h1, h2⟩ := bind_of (show ((nth Γ1 j).bind datO).bind (fun d => (getJ js Γ1 c).map fun r => (d, r)) = some t from h)
    obtain ⟨q, h3, h4⟩ := map_of h2
    obtain ⟨p, h5, h6⟩ := bind_of h1
    subst h4
    rcases setJ_get h3 (Γ := put Γ j (.dat d)) (i := i) (r := r) hr with ⟨h7, h8⟩ | h7
    · by_cases e : j = i
      · subst e
        refine .inr ⟨?_, d, put_get h8⟩
        rw [put_get h8, ← datO_of h6]
        exact nth_eq _ _ h5
      · rw [put_ne e] at h8
        exact .inl ⟨fun z => (List.mem_cons.mp z).elim (fun q => e q.symm) h7, h8⟩
    · exact .inr h7
theorem resJ_get {τ : Type} : ∀ {js : List Nat} {Γ1 : Ga} {c : τ} {t : TJ τ js}, getJ js Γ1 c = some t → resJ js t = c
  | [], _, _, _, h => by cases h; rfl
  | j :: js, Γ1, c, t, h => by
    obtain ⟨d, h1, h2⟩ := bind_of (show ((nth Γ1 j).bind datO).bind (fun d => (getJ js Γ1 c).map fun r => (d, r)) = some t from h)
    obtain ⟨q, h3, h4⟩ := map_of h2
    subst h4
    exact resJ_get (js := js) h3
theorem resJ_rep {τ : Type} : ∀ (js : List Nat) (t : TJ τ js) (c : τ), resJ js (repJ js t c) = c
  | [], _, _ => rfl
  | _ :: js, t, c => resJ_rep js t.2 c
theorem setJ_rep {τ : Type} : ∀ (js : List Nat) (t : TJ τ js) (c : τ) (Γ : Ga), setJ js (repJ js t c) Γ = setJ js t Γ
  | [], _, _, _ => rfl
  | _ :: js, t, c, Γ => setJ_rep js t.2 c _
theorem getS_weak {js ks : List Nat} {cs : List CK} {s1 : S} {Γ : Ga} {t : Cd js cs} (h : getS js cs s1 = some t) (hl : s1.Γ.length = Γ.length) (hf : ∀ i, i ∉ js → i ∉ ks → s1.Γ[i]? = Γ[i]?) (hb : ∀ (i j : Nat), Γ[i]? = some (some (.cel j)) → j < cs.length) : Weak s1 (putS js ks cs Γ t) := by
  obtain ⟨c, h1, h2⟩ := bind_of h
  obtain ⟨h3, h4⟩ := getC_mem h1
  have h5 := resJ_get h2
  have hlen : (putS js ks cs Γ t).μ.length = cs.length := putC_len _ _
  refine ⟨?_, fun i r e => ?_, ?_, fun i o e => ?_⟩
  · show (setJ js t (wip Γ ks)).length = _
    rw [setJ_len, wip_len, hl]
  · rw [hlen]
    rcases setJ_get h2 (Γ := wip Γ ks) (i := i) (r := r) e with ⟨h6, h7⟩ | ⟨h6, d, h7⟩
    · obtain ⟨h8, h9⟩ := wip_get h7
      refine ⟨by rw [hf i h6 h9]; exact h8, fun j e => ?_⟩
      subst e
      exact hb i j h8
    · refine ⟨h6, fun j e => ?_⟩
      subst h7
      cases e
  · rw [hlen]
    exact h3
  · have e : (putC cs (resJ js t))[i]? = some (some o) := e
    rw [h5] at e
    obtain ⟨h6, h7⟩ := h4 i o e
    exact ⟨h6, h7.bel _⟩
section
variable {K : PySem.W.Frag} {A : Amb} {as as1 : List Addr} {s1 s2 : S} {σ : L2.St} {H : Hp}
theorem ok_weak (ok : Ok K A as s1 σ H) (w : Weak s1 s2) : Ok K A (as.take s2.μ.length) s2 σ H := by
  have hl : as.length = s1.μ.length := ok.len
  have sub : ∀ {i : Nat} {a : Addr}, (as.take s2.μ.length)[i]? = some a → as[i]? = some a ∧ i < s2.μ.length := fun {i a} h => by
    by_cases hi : i < s2.μ.length
    · rw [List.getElem?_take_of_lt hi] at h
      exact ⟨h, hi⟩
    · rw [List.getElem?_eq_none (by rw [List.length_take]; omega)] at h
      cases h
  have mem : ∀ {a : Addr}, a ∈ as.take s2.μ.length → a ∈ as := fun h => List.mem_of_mem_take h
  have le : Le (vw A as s1.μ H) (vw A (as.take s2.μ.length) s2.μ H) := fun b u h => by
    obtain ⟨h1, h2⟩ := vw_of h
    refine .inl ?_
    rw [vw_no, h1]
    rintro (z | ⟨i, o, z1, z2⟩)
    · exact h2 (.inl z)
    · exact h2 (.inr ⟨i, o, (sub z1).1, (w.mo i o z2).1⟩)
  refine ⟨by rw [List.length_take, hl]; exact Nat.min_eq_left w.le, (List.take_sublist ..).nodup ok.nd, fun a h => ok.dj a (mem h), fun a h => ok.tr a (mem h), ok.m0, ok.pin.trans le, fun i r h => ?_, fun i a o h1 h2 => ?_, w.ln.trans ok.ln, fun a h => ok.own a (mem h), ok.he⟩
  · obtain ⟨h1, h2⟩ := w.sl i r h
    obtain ⟨v, h3, h4⟩ := ok.env i r h1
    refine ⟨v, h3, ?_⟩
    cases r with
    | dat d => exact Rep.mono le d h4
    | val u => exact h4
    | cel j =>
      obtain ⟨a, e, ev⟩ := h4
      exact ⟨a, by rw [List.getElem?_take_of_lt (h2 j rfl)]; exact e, ev⟩
  · obtain ⟨h3, h4⟩ := w.mo i o h2
    exact ((ok.mem i a o (sub h1).1 h3).mono le (List.prefix_refl _) rfl).below h4
theorem pre_take {n : Nat} (p : as <+: as1) (h : as.length ≤ n) : as <+: as1.take n := by
  obtain ⟨t, rfl⟩ := p
  rw [List.take_append, List.take_of_length_le h]
  exact List.prefix_append _ _
end
/-- behind a statement something is given up -/
def wWk (w : WS) : WS := fun D s => w { nx := fun s1 => ∃ s2, Weak s1 s2 ∧ s.μ.length ≤ s2.μ.length ∧ D.nx s2, rt := D.rt, bk := D.bk, ct := fun s1 => ∃ s2, Weak s1 s2 ∧ s.μ.length ≤ s2.μ.length ∧ D.ct s2 } s
theorem s_wk {X : Cx} {sts : List Stmt} {w : WS} (h : PSs X sts (upS X.K w)) : PSs X sts (upS X.K (wWk w)) := pss_imp h fun D σ H ⟨A, as, s, d, ok, w, cn, cr, cb, cc⟩ =>
  ⟨A, as, s, _, ok, w, fun σ1 H1 s1 as1 p1 ok1 ⟨s2, wk, le, z⟩ => cn σ1 H1 s2 _ (pre_take p1 (by have h9 : as.length = s.μ.length := ok.len; rw [h9]; exact le)) (ok_weak ok1 wk) z, cr, cb,
    fun σ1 H1 s1 as1 p1 ok1 ⟨s2, wk, le, z⟩ => cc σ1 H1 s2 _ (pre_take p1 (by have h9 : as.length = s.μ.length := ok.len; rw [h9]; exact le)) (ok_weak ok1 wk) z⟩
def wPre (w : WS) : WS := fun D s => ∃ s2, Weak s s2 ∧ s2.μ.length = s.μ.length ∧ w D s2
theorem s_pre {X : Cx} {st : Stmt} {w : WS} (h : PS X st (upS X.K w)) : PS X st (upS X.K (wPre w)) := ps_imp h fun D σ H ⟨A, as, s, d, ok, ⟨s2, wk, le, w⟩, cn, cr, cb, cc⟩ => by
  have h9 : as.length = s.μ.length := ok.len
  have ok2 := ok_weak ok wk
  rw [le, ← h9, List.take_length] at ok2
  exact ⟨A, as, s2, d, ok2, w, cn, cr, cb, cc⟩
end Ge
namespace Ge
open PySem PySem.Spec PyProof.Rows L2 Gd
/-! ### targets -/
structure EvG where
  run : {α : Type} → Sl → S → (S → Option α) → Option α
  dir : Sl → S → Option S
  nat : ∀ {α : Type} (r : Sl) (s : S) (k : S → Option α), run r s k = (dir r s).bind k
  mods : List Nat
  fr : ∀ r s s', dir r s = some s' → s'.Γ.length = s.Γ.length ∧ ∀ i, i ∉ mods → s'.Γ[i]? = s.Γ[i]?
def wG (g : EvG) : WG := fun r s R => ∃ s1, g.dir r s = some s1 ∧ R s1
theorem pg_w {X : Cx} {e : Expr} {js : List Nat} {w : WG} {g : EvG} (h : PG X e (upG X.K js w)) (i : ∀ r s R, wG g r s R → w r s R) : PG X e (upG X.K js (wG g)) :=
  pg_imp h fun v σ H Q ⟨A, as, s, r, R, ok, hr, z, k⟩ => ⟨A, as, s, r, R, ok, hr, i r s R z, k⟩
def gN (i : Nat) : EvG := ⟨fun r s k => k ⟨put s.Γ i r, s.μ⟩, fun r s => some ⟨put s.Γ i r, s.μ⟩, fun _ _ _ => rfl, [i], fun r s s' h => by
  cases h
  exact ⟨put_len _ _ _, fun j hj => put_ne fun e => hj (e ▸ List.mem_singleton.mpr rfl)⟩⟩
def unpL : (is : List Nat) → List D → Option (TJ Unit is)
  | [], [] => some ()
  | _ :: is, d :: ds => (unpL is ds).map fun r => (d, r)
  | _, _ => none
def unp (is : List Nat) : D → Option (TJ Unit is)
  | .tup ds => unpL is ds
  | .par ds => unpL is ds
  | _ => none
theorem unpL_puts : ∀ {is : List Nat} {ds : List D} {p : TJ Unit is} {Γ : Ga} {k : Ga → Prop}, unpL is ds = some p → k (setJ is p Γ) → puts is ds Γ k
  | [], [], _, _, _, _, h => h
  | i :: is, d :: ds, p, Γ, k, e, h => by
    obtain ⟨r, h1, h2⟩ := map_of (show (unpL is ds).map (fun r => (d, r)) = some p from e)
    subst h2
    exact unpL_puts (is := is) h1 h
def gT (is : List Nat) : EvG := ⟨fun r s k => abind (rd s r) fun d => (unp is d).bind fun p => k ⟨setJ is p s.Γ, s.μ⟩, fun r s => (rd s r).bind fun d => (unp is d).bind fun p => some ⟨setJ is p s.Γ, s.μ⟩, fun _ _ _ => by
  simp only [abind_eq]
  rw [Option.bind_assoc]
  congr 1
  funext d
  rw [Option.bind_assoc]
  rfl, is, fun r s s' h => by
  obtain ⟨d, _, h⟩ := bind_of h
  obtain ⟨p, _, h⟩ := bind_of h
  cases h
  exact ⟨setJ_len _ _ _, fun i hi => setJ_ne _ _ _ hi⟩⟩
/-- o[i] = .. of a list -/
def celL (p : Sl) (μ : Mu) : Option (List D) := match p with
  | .cel j => match nth μ j with
    | some (.lst ds) => some ds
    | _ => none
  | _ => none
def celI : Sl → Nat
  | .cel j => j
  | _ => 0
theorem celL_of {p : Sl} {μ : Mu} {ds : List D} (h : celL p μ = some ds) : ∃ j, p = .cel j ∧ celI p = j ∧ nth μ j = some (.lst ds) := by
  cases p with
  | cel j =>
    have h : (match nth μ j with | some (.lst ds) => some ds | _ => none) = some ds := h
    cases e : nth μ j with
    | none => rw [e] at h; cases h
    | some o =>
      rw [e] at h
      cases o <;> first
        | (cases h; done)
        | (cases h; exact ⟨j, rfl, rfl, e⟩)
  | _ => cases h
def setO (ds : List D) (e d : D) : Option (List D) := match e with
  | .int i => (ixN ds.length i).map fun n => ds.set n d
  | _ => none
def gS (eo ei : Ev Sl) : EvG := ⟨fun r s k => abind (datO r) fun d => eo.run s.Γ s.μ fun p μ1 => ei.run s.Γ μ1 fun q μ2 => abind (celL p μ2) fun ds => abind (datO q) fun e => (setO ds e d).bind fun es => k ⟨s.Γ, put μ2 (celI p) (.lst es)⟩,
  fun r s => (datO r).bind fun d => (eo.dir s.Γ s.μ).bind fun p => (ei.dir s.Γ p.2).bind fun q => (celL p.1 q.2).bind fun ds => (datO q.1).bind fun e => (setO ds e d).bind fun es => some ⟨s.Γ, put q.2 (celI p.1) (.lst es)⟩, fun r s k => by
  simp only [abind_eq]
  rw [Option.bind_assoc]
  congr 1
  funext d
  rw [eo.nat, Option.bind_assoc]
  congr 1
  funext p
  rw [ei.nat, Option.bind_assoc]
  congr 1
  funext q
  rw [Option.bind_assoc]
  congr 1
  funext ds
  rw [Option.bind_assoc]
  congr 1
  funext e
  rw [Option.bind_assoc]
  rfl, [], fun r s s' h => by
  obtain ⟨d, _, h⟩ := bind_of h
  obtain ⟨p, _, h⟩ := bind_of h
  obtain ⟨q, _, h⟩ := bind_of h
  obtain ⟨_, _, h⟩ := bind_of h
  obtain ⟨_, _, h⟩ := bind_of h
  obtain ⟨_, _, h⟩ := bind_of h
  cases h
  exact ⟨rfl, fun _ _ => rfl⟩⟩
section
variable {X : Cx} {x : Str} {pos : Pos} {es : List Expr} {k : Nat} {is js : List Nat} {o i : Expr} {eo ei : Ev Sl}
theorem fg_name (i : Nat) (hN : X.N.Nodup) (hi : X.N[i]? = some x := by rfl) (hx : Loc X.env.scope x := by first | exact Or.inl rfl | exact Or.inr rfl) (hf : X.fn x = true ∨ X.env.scope.names.lookup x = some .local := by first | exact .inl rfl | exact .inr rfl | assumption) :
    PG X (.Name x pos) (upG X.K [i] (wG (gN i))) := pg_w (g_name i hN hi hx hf) fun r s R ⟨s1, h1, h2⟩ => by
  cases h1
  exact h2
theorem fg_tup (hc : X.calm = true) (h : PGs X es (upGs X.K is is)) (hn : (assignEach es X.env).length = is.length := by rfl) (hst : (assignEach es X.env).findIdx? (·.1) = none := by rfl) : PG X (.Tuple es k pos) (upG X.K is (wG (gT is))) :=
  pg_w (g_tup hc h hn hst) fun r s R ⟨s1, h1, h2⟩ => by
    obtain ⟨d, h3, h4⟩ := bind_of h1
    obtain ⟨p, h5, h6⟩ := bind_of h4
    cases h6
    show optK (rd s r) _
    rw [h3]
    cases d <;> first
      | (cases h5; done)
      | exact unpL_puts h5 h2
theorem fg_sub (ho : PE X o (up X.K (wE eo))) (hi : PE X i (up X.K (wE ei)))
    (ha : ∀ v, assign (.Subscript o i pos) X.env v = (do
      let ov ← holding [v] (eval o X.env)
      let iv ← holding [v, ov] (eval i X.env)
      standAt pos
      holding [v, ov, iv] (setItem ov iv v)
      release [v, ov, iv] []) := by intro _; rfl) : PG X (.Subscript o i pos) (upG X.K [] (wG (gS eo ei))) := pg_w (g_sub ho hi ha) fun r s R ⟨s1, h1, h2⟩ => by
  obtain ⟨d, e1, z1⟩ := bind_of h1
  obtain ⟨p, e2, z2⟩ := bind_of z1
  obtain ⟨q, e3, z3⟩ := bind_of z2
  obtain ⟨ds, e4, z4⟩ := bind_of z3
  obtain ⟨e, e5, z5⟩ := bind_of z4
  obtain ⟨fs, e6, z6⟩ := bind_of z5
  cases z6
  cases datO_of e1
  refine ⟨p, e2, q, e3, ?_⟩
  obtain ⟨j, q1, q2, q3⟩ := celL_of e4
  rw [q1, datO_of e5]
  cases e <;> first
    | (cases e6; done)
    | skip
  rename_i m
  obtain ⟨n, q4, q5⟩ := map_of (show (ixN ds.length m).map (fun n => ds.set n d) = some fs from e6)
  show optK (nth q.2 j) _
  rw [q3]
  show optK (ixN ds.length m) _
  rw [q4]
  subst q5
  rw [q2] at h2
  exact h2
end

/-! ### statements -/
inductive Oc where
  | nx (s : S) | rt (r : Sl) (s : S)
def Oc.el {α : Sort _} (o : Oc) (kn : S → α) (kr : Sl → S → α) : α := match o with
  | .nx s => kn s
  | .rt r s => kr r s
structure EvS where
  run : {α : Type} → S → (S → Option α) → (Sl → S → Option α) → Option α
  dir : S → Option Oc
  nat : ∀ {α : Type} (s : S) (kn : S → Option α) (kr : Sl → S → Option α), run s kn kr = (dir s).bind fun o => o.el kn kr
  mods : List Nat
  fr : ∀ s s', dir s = some (.nx s') → s'.Γ.length = s.Γ.length ∧ ∀ i, i ∉ mods → s'.Γ[i]? = s.Γ[i]?
def wS (f : EvS) : WS := fun D s => ∃ o, f.dir s = some o ∧ o.el D.nx D.rt
theorem wS_mono {f : EvS} {D D' : Dn} {s : S} (h : wS f D s) (hn : ∀ s1, f.dir s = some (.nx s1) → D.nx s1 → D'.nx s1) (hr : ∀ r s1, D.rt r s1 → D'.rt r s1) : wS f D' s := by
  obtain ⟨o, h1, h2⟩ := h
  refine ⟨o, h1, ?_⟩
  cases o with
  | nx s1 => exact hn s1 h1 h2
  | rt r s1 => exact hr r s1 h2
section
variable {X : Cx} {st : Stmt} {sts : List Stmt}
theorem ps_w {w : WS} {f : EvS} (h : PS X st (upS X.K w)) (i : ∀ D s, Bel s → wS f D s → w D s) : PS X st (upS X.K (wS f)) := ps_imp h fun D σ H ⟨A, as, s, d, ok, z, r⟩ => ⟨A, as, s, d, ok, i d s (bel_of ok) z, r⟩
theorem pss_w {w : WS} {f : EvS} (h : PSs X sts (upS X.K w)) (i : ∀ D s, Bel s → wS f D s → w D s) : PSs X sts (upS X.K (wS f)) := pss_imp h fun D σ H ⟨A, as, s, d, ok, z, r⟩ => ⟨A, as, s, d, ok, i d s (bel_of ok) z, r⟩
end
def sNx : EvS := ⟨fun s kn _ => kn s, fun s => some (.nx s), fun _ _ _ => rfl, [], fun s s' h => by
  cases h
  exact ⟨rfl, fun _ _ => rfl⟩⟩
def sSeq (a b : EvS) : EvS := ⟨fun s kn kr => a.run s (fun s1 => b.run s1 kn kr) kr, fun s => (a.dir s).bind fun o => o.el b.dir fun r s1 => some (.rt r s1), fun s kn kr => by
  rw [a.nat, Option.bind_assoc]
  congr 1
  funext o
  cases o with
  | nx s1 => exact b.nat ..
  | rt r s1 => rfl, a.mods ++ b.mods, fun s s' h => by
  obtain ⟨o, h1, h2⟩ := bind_of h
  cases o with
  | nx s1 =>
    obtain ⟨h3, h4⟩ := a.fr _ _ h1
    obtain ⟨h5, h6⟩ := b.fr _ _ h2
    exact ⟨h5.trans h3, fun i hi => (h6 i fun z => hi (List.mem_append_right _ z)).trans (h4 i fun z => hi (List.mem_append_left _ z))⟩
  | rt r s1 => cases h2⟩
def sAsg (e : Ev Sl) (g : EvG) : EvS := ⟨fun s kn _ => e.run s.Γ s.μ fun r μ => g.run r ⟨s.Γ, μ⟩ kn, fun s => (e.dir s.Γ s.μ).bind fun p => (g.dir p.1 ⟨s.Γ, p.2⟩).bind fun s1 => some (.nx s1), fun s kn kr => by
  rw [e.nat, Option.bind_assoc]
  congr 1
  funext p
  rw [g.nat, Option.bind_assoc]
  rfl, g.mods, fun s s' h => by
  obtain ⟨p, _, h2⟩ := bind_of h
  obtain ⟨s1, h3, h4⟩ := bind_of h2
  cases h4
  have := g.fr _ _ _ h3
  exact this⟩
def sRet (e : Ev Sl) : EvS := ⟨fun s _ kr => e.run s.Γ s.μ fun r μ => kr r ⟨s.Γ, μ⟩, fun s => (e.dir s.Γ s.μ).bind fun p => some (.rt p.1 ⟨s.Γ, p.2⟩), fun s kn kr => by
  rw [e.nat, Option.bind_assoc]
  rfl, [], fun s s' h => by
  obtain ⟨p, _, h2⟩ := bind_of h
  cases h2⟩
def sRetN : EvS := ⟨fun s _ kr => kr (.dat .non) s, fun s => some (.rt (.dat .non) s), fun _ _ _ => rfl, [], fun s s' h => by cases h⟩
def sNo : EvS := ⟨fun _ _ _ => none, fun _ => none, fun _ _ _ => rfl, [], fun s s' h => by cases h⟩
def sDrop (e : Ev Sl) : EvS := ⟨fun s kn _ => e.run s.Γ s.μ fun _ μ => kn ⟨s.Γ, μ⟩, fun s => (e.dir s.Γ s.μ).bind fun p => some (.nx ⟨s.Γ, p.2⟩), fun s kn kr => by
  rw [e.nat, Option.bind_assoc]
  rfl, [], fun s s' h => by
  obtain ⟨p, _, h2⟩ := bind_of h
  cases h2
  exact ⟨rfl, fun _ _ => rfl⟩⟩
def sIf (t : Ev Bool) (a b : EvS) : EvS := ⟨fun s kn kr => t.run s.Γ s.μ fun k μ => cond k (a.run ⟨s.Γ, μ⟩ kn kr) (b.run ⟨s.Γ, μ⟩ kn kr), fun s => (t.dir s.Γ s.μ).bind fun p => cond p.1 (a.dir ⟨s.Γ, p.2⟩) (b.dir ⟨s.Γ, p.2⟩), fun s kn kr => by
  rw [t.nat, Option.bind_assoc]
  congr 1
  funext p
  cases p.1
  · exact b.nat ..
  · exact a.nat .., a.mods ++ b.mods, fun s s' h => by
  obtain ⟨p, _, h2⟩ := bind_of h
  cases e : p.1 with
  | false =>
    rw [e] at h2
    obtain ⟨h3, h4⟩ := b.fr _ _ h2
    exact ⟨h3, fun i hi => h4 i fun z => hi (List.mem_append_right _ z)⟩
  | true =>
    rw [e] at h2
    obtain ⟨h3, h4⟩ := a.fr _ _ h2
    exact ⟨h3, fun i hi => h4 i fun z => hi (List.mem_append_left _ z)⟩⟩
/-- x += e, of numbers -/
def sAug (i : Nat) (f : Int → Int → Int) (e : Ev Sl) : EvS := ⟨fun s kn _ => abind (nth s.Γ i) fun p => abind (datO p) fun d => e.run s.Γ s.μ fun q μ => abind (datO q) fun g => (int2D f d g).bind fun z => kn ⟨put s.Γ i (.dat z), μ⟩,
  fun s => (nth s.Γ i).bind fun p => (datO p).bind fun d => (e.dir s.Γ s.μ).bind fun q => (datO q.1).bind fun g => (int2D f d g).bind fun z => some (.nx ⟨put s.Γ i (.dat z), q.2⟩), fun s kn kr => by
  simp only [abind_eq]
  rw [Option.bind_assoc]
  congr 1
  funext p
  rw [Option.bind_assoc]
  congr 1
  funext d
  rw [e.nat, Option.bind_assoc]
  congr 1
  funext q
  rw [Option.bind_assoc]
  congr 1
  funext g
  rw [Option.bind_assoc]
  rfl, [i], fun s s' h => by
  obtain ⟨_, _, h⟩ := bind_of h
  obtain ⟨_, _, h⟩ := bind_of h
  obtain ⟨_, _, h⟩ := bind_of h
  obtain ⟨_, _, h⟩ := bind_of h
  obtain ⟨_, _, h⟩ := bind_of h
  cases h
  exact ⟨put_len _ _ _, fun j hj => put_ne fun e => hj (e ▸ List.mem_singleton.mpr rfl)⟩⟩
/-- x, y = a, b -/
def sPar (i j : Nat) (a b : Ev Sl) : EvS := ⟨fun s kn _ => a.run s.Γ s.μ fun p μ => b.run s.Γ μ fun q μ => kn ⟨put (put s.Γ i p) j q, μ⟩, fun s => (a.dir s.Γ s.μ).bind fun p => (b.dir s.Γ p.2).bind fun q => some (.nx ⟨put (put s.Γ i p.1) j q.1, q.2⟩), fun s kn kr => by
  rw [a.nat, Option.bind_assoc]
  congr 1
  funext p
  rw [b.nat, Option.bind_assoc]
  rfl, [i, j], fun s s' h => by
  obtain ⟨_, _, h⟩ := bind_of h
  obtain ⟨_, _, h⟩ := bind_of h
  cases h
  exact ⟨(put_len _ _ _).trans (put_len _ _ _), fun k hk => (put_ne fun e => hk (by subst e; simp)).trans (put_ne fun e => hk (by subst e; simp))⟩⟩
/-- the name's thing is written no more, ahead of what follows -/
def frzD : MO → Option D
  | .lst ds => some (.lst ds)
  | .dic ks vs => some (.dic ks vs)
  | .dct ks vs => some (.dct ks vs)
  | .ins _ _ => none
def frzS (i : Nat) (s : S) : Option S := match nth s.Γ i with
  | some (.cel j) => ((nth s.μ j).bind frzD).bind fun d => some ⟨put s.Γ i (.dat d), s.μ.set j none⟩
  | some _ => some s
  | none => none
def sFrz (i : Nat) (a : EvS) : EvS := ⟨fun s kn kr => abind (frzS i s) fun s1 => a.run s1 kn kr, fun s => (frzS i s).bind a.dir, fun s kn kr => by
  rw [abind_eq]
  rw [Option.bind_assoc]
  congr 1
  funext s1
  exact a.nat .., i :: a.mods, fun s s' h => by
  obtain ⟨s1, h1, h2⟩ := bind_of h
  obtain ⟨h3, h4⟩ := a.fr _ _ h2
  have h5 : s1.Γ.length = s.Γ.length ∧ ∀ j, j ≠ i → s1.Γ[j]? = s.Γ[j]? := by
    unfold frzS at h1
    split at h1
    · obtain ⟨d, _, h6⟩ := bind_of h1
      cases h6
      exact ⟨put_len _ _ _, fun j hj => put_ne fun e => hj e.symm⟩
    · cases h1
      exact ⟨rfl, fun _ _ => rfl⟩
    · cases h1
  exact ⟨h3.trans h5.1, fun j hj => (h4 j fun z => hj (List.mem_cons_of_mem _ z)).trans (h5.2 j fun e => hj (e ▸ List.mem_cons_self ..))⟩⟩
section
variable {X : Cx} {st : Stmt} {sts a b body : List Stmt} {e c tg it : Expr} {pos : Pos} {ee ea eb : Ev Sl} {t : Ev Bool} {f f1 f2 fb : EvS} {g : EvG} {js : List Nat}
theorem fs_nil : PSs X [] (upS X.K (wS sNx)) := pss_w s_nil fun D s _ ⟨o, h1, h2⟩ => by
  cases h1
  exact h2
theorem fs_one (h : PS X st (upS X.K (wS f))) : PSs X [st] (upS X.K (wS f)) := s_one h
theorem fs_cons (h : PS X st (upS X.K (wS f1))) (h2 : PSs X sts (upS X.K (wS f2))) : PSs X (st :: sts) (upS X.K (wS (sSeq f1 f2))) := pss_w (s_cons h h2) fun D s _ ⟨o, h1, h2⟩ => by
  obtain ⟨q, h3, h4⟩ := bind_of h1
  refine ⟨q, h3, ?_⟩
  cases q with
  | nx s1 => exact ⟨o, h4, h2⟩
  | rt r s1 =>
    cases h4
    exact h2
theorem fs_pass : PS X (.Pass pos) (upS X.K (wS sNx)) := ps_w s_pass fun D s _ ⟨o, h1, h2⟩ => by
  cases h1
  exact h2
theorem fs_no : PS X st (upS X.K (wS sNo)) := ps_w s_no fun D s _ ⟨o, h1, h2⟩ => by cases h1
theorem fs_ret (h : PE X e (up X.K (wE ee))) : PS X (.Return (some e) pos) (upS X.K (wS (sRet ee))) := ps_w (s_ret h) fun D s _ ⟨o, h1, h2⟩ => by
  obtain ⟨p, h3, h4⟩ := bind_of h1
  cases h4
  exact ⟨p, h3, h2⟩
theorem fs_retN : PS X (.Return none pos) (upS X.K (wS sRetN)) := ps_w s_retN fun D s _ ⟨o, h1, h2⟩ => by
  cases h1
  exact h2
theorem fs_expr (h : PE X e (up X.K (wE ee))) (hs : swapsWith e none pos.line X.env = pure false := by rfl) : PS X (.Expr e pos) (upS X.K (wS (sDrop ee))) := ps_w (s_expr h hs) fun D s _ ⟨o, h1, h2⟩ => by
  obtain ⟨p, h3, h4⟩ := bind_of h1
  cases h4
  exact ⟨p, h3, h2⟩
theorem fs_if (hc : PT X c (upT X.K (wE t))) (ha : PSs X a (upS X.K (wS f1))) (hb : PSs X b (upS X.K (wS f2))) : PS X (.If c a b pos) (upS X.K (wS (sIf t f1 f2))) := ps_w (s_if hc ha hb) fun D s _ ⟨o, h1, h2⟩ => by
  obtain ⟨p, h3, h4⟩ := bind_of h1
  refine ⟨p, h3, ?_⟩
  cases e : p.1 with
  | false =>
    rw [e] at h4
    rw [if_neg Bool.false_ne_true]
    exact ⟨o, h4, h2⟩
  | true =>
    rw [e] at h4
    rw [if_pos rfl]
    exact ⟨o, h4, h2⟩
theorem fs_asg (he : PE X e (up X.K (wE ee))) (hg : PG X tg (upG X.K js (wG g))) (hs : swapsWithSole [tg] e pos.line X.env = pure false := by rfl) (hw : swappedStores [tg] e X.env = pure none := by rfl)
    (h1 : (assignEach [tg] X.env).map (·.2) = [assign tg X.env] := by rfl) : PS X (.Assign [tg] e pos) (upS X.K (wS (sAsg ee g))) := ps_w (s_asg he hg hs hw h1) fun D s _ ⟨o, h1, h2⟩ => by
  obtain ⟨p, h3, h4⟩ := bind_of h1
  obtain ⟨s1, h5, h6⟩ := bind_of h4
  cases h6
  exact ⟨p, h3, s1, h5, h2⟩
theorem fs_set {x : Str} {pos' : Pos} (i : Nat) (hN : X.N.Nodup) (he : PE X e (up X.K (wE ee))) (hi : X.N[i]? = some x := by rfl) (hx : Loc X.env.scope x := by first | exact Or.inl rfl | exact Or.inr rfl) (hs : swapsWith e (some (.Name x pos')) pos.line X.env = pure false := by rfl)
    (hf : X.fn x = true ∨ X.env.scope.names.lookup x = some .local := by first | exact .inl rfl | exact .inr rfl | assumption) : PS X (.Assign [.Name x pos'] e pos) (upS X.K (wS (sAsg ee (gN i)))) := ps_w (s_set i hN he hi hx hs hf) fun D s _ ⟨o, h1, h2⟩ => by
  obtain ⟨p, h3, h4⟩ := bind_of h1
  obtain ⟨s1, h5, h6⟩ := bind_of h4
  cases h5
  cases h6
  exact ⟨p, h3, h2⟩
theorem fs_par {i j : Nat} {x y : Str} {a b : Expr} {px py pt : Pos} {kt k2 pt2} (hc : X.calm = true) (hN : X.N.Nodup) (hi : X.N[i]? = some x) (hj : X.N[j]? = some y) (hij : i ≠ j)
    (hx : X.env.scope.names.lookup x = some .local) (hy : X.env.scope.names.lookup y = some .local) (ha : PE X a (up X.K (wE ea))) (hb : PE X b (up X.K (wE eb)))
    (hw : swappedStores [.Tuple [.Name x px, .Name y py] kt pt] (.Tuple [a, b] k2 pt2) X.env = pure (some [x, y]) := by rfl)
    (hs : swapsWithSole [.Tuple [.Name x px, .Name y py] kt pt] (.Tuple [a, b] k2 pt2) pos.line X.env = pure false := by rfl)
    (h1 : starEach [a, b] X.env = (false, eval a X.env) :: starEach [b] X.env := by rfl) (h2 : starEach [b] X.env = (false, eval b X.env) :: starEach [] X.env := by rfl) :
    PS X (.Assign [.Tuple [.Name x px, .Name y py] kt pt] (.Tuple [a, b] k2 pt2) pos) (upS X.K (wS (sPar i j ea eb))) := ps_w (s_par hc hN hi hj hij hx hy (a_cons ha (a_cons hb a_nil h2) h1) hw hs) fun D s _ ⟨o, h1, h2⟩ => by
  obtain ⟨p, h3, h4⟩ := bind_of h1
  obtain ⟨q, h5, h6⟩ := bind_of h4
  cases h6
  exact ⟨p, h3, q, h5, h2⟩
theorem fs_aug {x : Str} {op : Operator} {f : Int → Int → Int} {pos' : Pos} (i : Nat) (hN : X.N.Nodup) (ho : PIp X op (ipI f)) (he : PE X e (up X.K (wE ee))) (hi : X.N[i]? = some x := by rfl) (hx : Loc X.env.scope x := by first | exact Or.inl rfl | exact Or.inr rfl)
    (hf : X.fn x = true ∨ X.env.scope.names.lookup x = some .local := by first | exact .inl rfl | exact .inr rfl | assumption) : PS X (.AugAssign (.Name x pos') op e pos) (upS X.K (wS (sAug i f ee))) := ps_w (s_aug i hN ho he hi hx hf) fun D s _ ⟨o, h1, h2⟩ => by
  obtain ⟨p, e1, z1⟩ := bind_of h1
  obtain ⟨d, e2, z2⟩ := bind_of z1
  obtain ⟨q, e3, z3⟩ := bind_of z2
  obtain ⟨g, e4, z4⟩ := bind_of z3
  obtain ⟨z, e5, z5⟩ := bind_of z4
  cases z5
  show optK (nth s.Γ i) _
  rw [e1]
  rw [datO_of e2]
  cases d <;> cases g <;> first
    | (cases e5; done)
    | skip
  cases e5
  refine ⟨q, e3, ?_⟩
  rw [datO_of e4]
  exact h2
theorem fs_frz (i : Nat) (h : PSs X sts (upS X.K (wS f))) : PSs X sts (upS X.K (wS (sFrz i f))) := pss_w (s_ghost i h) fun D s _ ⟨o, h1, h2⟩ => by
  obtain ⟨s1, h3, h4⟩ := bind_of h1
  show optK (nth s.Γ i) _
  unfold frzS at h3
  split at h3
  · rename_i j e
    rw [e]
    obtain ⟨d, h5, h6⟩ := bind_of h3
    obtain ⟨m, h7, h8⟩ := bind_of h5
    cases h6
    show optK (nth s.μ j) _
    rw [h7]
    cases m <;> first
      | (cases h8; done)
      | (cases h8; exact ⟨trivial, o, h4, h2⟩)
  · rename_i p hp e
    rw [e]
    cases h3
    cases p with
    | cel j => exact absurd rfl (hp j)
    | _ => exact ⟨o, h4, h2⟩
  · cases h3
end
end Ge
namespace Ge
open PySem PySem.Spec PyProof.Rows L2 Gd
/-! ### loops -/
def loopM {τ : Type} (step : τ → D → Option τ) : List D → τ → Option τ
  | [], t => some t
  | d :: ds, t => (step t d).bind fun t1 => loopM step ds t1
def forK {τ α : Type} (step : τ → D → (τ → Option α) → Option α) : List D → τ → (τ → Option α) → Option α
  | [], t, k => k t
  | d :: ds, t, k => step t d fun t1 => forK step ds t1 k
def forD {τ ρ : Type} (step : τ → D → Option (τ ⊕ ρ)) : List D → τ → Option (τ ⊕ ρ)
  | [], t => some (.inl t)
  | d :: ds, t => (step t d).bind fun o => match o with
    | .inl t1 => forD step ds t1
    | .inr r => some (.inr r)
def whileP {τ ρ : Type} (step : τ → Option (τ ⊕ ρ)) (t : τ) : Option ρ := do
  match ← step t with
  | .inl t1 => whileP step t1
  | .inr r => some r
partial_fixpoint
def whileN {τ ρ : Type} (step : τ → Option (τ ⊕ ρ)) : Nat → τ → Option ρ
  | 0, _ => none
  | n + 1, t => (step t).bind fun o => match o with
    | .inl t1 => whileN step n t1
    | .inr r => some r
theorem whileP_N {τ ρ : Type} {step : τ → Option (τ ⊕ ρ)} {t : τ} {r : ρ} (h : whileP step t = some r) : ∃ n, whileN step n t = some r := by
  refine whileP.partial_correctness step (motive := fun t r => ∃ n, whileN step n t = some r) (fun f ih t r h => ?_) t r h
  obtain ⟨o, h1, h2⟩ := bind_of h
  cases o with
  | inl t1 =>
    obtain ⟨n, h3⟩ := ih t1 r h2
    refine ⟨n + 1, ?_⟩
    show (step t).bind _ = _
    rw [h1]
    exact h3
  | inr r1 =>
    cases h2
    refine ⟨1, ?_⟩
    show (step t).bind _ = _
    rw [h1]
    rfl
theorem whileP_one {τ ρ : Type} {step : τ → Option (τ ⊕ ρ)} {t t1 : τ} (h : step t = some (.inl t1)) : whileP step t = whileP step t1 := by
  rw [whileP, h]
  rfl
theorem whileP_end {τ ρ : Type} {step : τ → Option (τ ⊕ ρ)} {t : τ} {r : ρ} (h : step t = some (.inr r)) : whileP step t = some r := by
  rw [whileP, h]
  rfl
theorem wip_ne {Γ : Ga} : ∀ {vs : List Nat} {i : Nat}, i ∉ vs → (wip Γ vs)[i]? = Γ[i]?
  | [], _, _ => rfl
  | v :: vs, i, h => by
    show ((wip Γ vs).set v none)[i]? = Γ[i]?
    rw [List.getElem?_set_ne fun e => h (by subst e; exact List.mem_cons_self ..)]
    exact wip_ne fun z => h (List.mem_cons_of_mem _ z)
/-- a target that writes names alone -/
class GPu (g : EvG) : Prop where
  pu : ∀ r s s', g.dir r s = some s' → s'.μ = s.μ
instance (i : Nat) : GPu (gN i) := ⟨fun r s s' h => by cases h; rfl⟩
instance (is : List Nat) : GPu (gT is) := ⟨fun r s s' h => by
  obtain ⟨d, _, h⟩ := bind_of h
  obtain ⟨p, _, h⟩ := bind_of h
  cases h
  rfl⟩
def within (l js ks : List Nat) : Bool := l.all fun i => js.contains i || ks.contains i
theorem within_of {l js ks : List Nat} (h : within l js ks = true) {i : Nat} (h1 : i ∉ js) (h2 : i ∉ ks) : i ∉ l := fun z => by
  have := List.all_eq_true.mp h i z
  simp [h1, h2] at this
section
variable (g : EvG) (body : EvS) (js ks : List Nat) (cs : List CK)
def stepF (Γ : Ga) (t : Cd js cs) (d : D) : Option (Cd js cs) := g.run (.dat d) (putS js ks cs Γ t) fun s1 => body.run s1 (fun s2 => getS js cs s2) fun _ _ => none
def sFor (it : Ev (List D)) : EvS := ⟨fun s kn _ => abind (getE js cs s) fun t0 => it.run (putS js ks cs s.Γ t0).Γ (putS js ks cs s.Γ t0).μ fun ds μ1 => abind (getX cs μ1) fun c => (loopM (stepF g body js ks cs s.Γ) ds (repJ js t0 c)).bind fun t => kn (putS js ks cs s.Γ t),
  fun s => (getE js cs s).bind fun t0 => (it.dir (putS js ks cs s.Γ t0).Γ (putS js ks cs s.Γ t0).μ).bind fun p => (getX cs p.2).bind fun c => (loopM (stepF g body js ks cs s.Γ) p.1 (repJ js t0 c)).bind fun t => some (.nx (putS js ks cs s.Γ t)), fun s kn kr => by
  simp only [abind_eq]
  rw [Option.bind_assoc]
  congr 1
  funext t0
  rw [it.nat, Option.bind_assoc]
  congr 1
  funext p
  rw [Option.bind_assoc]
  congr 1
  funext c
  rw [Option.bind_assoc]
  rfl, js ++ ks, fun s s' h => by
  obtain ⟨_, _, h⟩ := bind_of h
  obtain ⟨_, _, h⟩ := bind_of h
  obtain ⟨_, _, h⟩ := bind_of h
  obtain ⟨t, _, h⟩ := bind_of h
  cases h
  exact ⟨(setJ_len _ _ _).trans (wip_len _ _), fun i hi => (setJ_ne _ _ _ fun z => hi (List.mem_append_left _ z)).trans (wip_ne fun z => hi (List.mem_append_right _ z))⟩⟩
/-- one that may be left by a return -/
def sForR (it : Ev (List D)) : EvS := ⟨fun s kn kr => abind (getE js cs s) fun t0 => it.run (putS js ks cs s.Γ t0).Γ (putS js ks cs s.Γ t0).μ fun ds μ1 => abind (getX cs μ1) fun c => forK (fun t d k => g.run (.dat d) (putS js ks cs s.Γ t) fun s1 => body.run s1 (fun s2 => abind (getS js cs s2) k) kr) ds (repJ js t0 c) fun t => kn (putS js ks cs s.Γ t),
  fun s => (getE js cs s).bind fun t0 => (it.dir (putS js ks cs s.Γ t0).Γ (putS js ks cs s.Γ t0).μ).bind fun p => (getX cs p.2).bind fun c => (forD (fun t d => (g.dir (.dat d) (putS js ks cs s.Γ t)).bind fun s1 => (body.dir s1).bind fun o => o.el (fun s2 => (getS js cs s2).bind fun t => some (.inl t)) fun r s2 => some (.inr (r, s2))) p.1 (repJ js t0 c)).bind fun o => match o with
    | .inl t => some (.nx (putS js ks cs s.Γ t))
    | .inr q => some (.rt q.1 q.2), fun s kn kr => by
  simp only [abind_eq]
  rw [Option.bind_assoc]
  congr 1
  funext t0
  rw [it.nat, Option.bind_assoc]
  congr 1
  funext p
  rw [Option.bind_assoc]
  congr 1
  funext c
  generalize repJ js t0 c = t1
  generalize p.1 = ds
  induction ds generalizing t1 with
  | nil => rfl
  | cons d ds ih =>
    show g.run _ _ _ = ((Option.bind _ _).bind _ ).bind _
    rw [g.nat]
    simp only [Option.bind_assoc]
    congr 1
    funext s1
    rw [body.nat]
    congr 1
    funext o
    cases o with
    | rt r s2 => rfl
    | nx s2 =>
      show (getS js cs s2).bind _ = ((getS js cs s2).bind _).bind _
      rw [Option.bind_assoc]
      congr 1
      funext t2
      rw [ih t2, Option.bind_assoc]
      rfl, js ++ ks, fun s s' h => by
  obtain ⟨_, _, h⟩ := bind_of h
  obtain ⟨_, _, h⟩ := bind_of h
  obtain ⟨_, _, h⟩ := bind_of h
  obtain ⟨t, _, h⟩ := bind_of h
  cases t with
  | inl t =>
    cases h
    exact ⟨(setJ_len _ _ _).trans (wip_len _ _), fun i hi => (setJ_ne _ _ _ fun z => hi (List.mem_append_left _ z)).trans (wip_ne fun z => hi (List.mem_append_right _ z))⟩
  | inr r => cases h⟩
def stepW (tt : Ev Bool) (Γ : Ga) (t : Cd js cs) : Option (Cd js cs ⊕ Cd js cs) := tt.run (putS js ks cs Γ t).Γ (putS js ks cs Γ t).μ fun b μ1 => cond b (body.run ⟨(putS js ks cs Γ t).Γ, μ1⟩ (fun s2 => (getS js cs s2).bind fun t1 => some (.inl t1)) fun _ _ => none) (some (.inr t))
def sWhile (tt : Ev Bool) : EvS := ⟨fun s kn _ => abind (getE js cs s) fun t0 => (whileP (stepW body js ks cs tt s.Γ) t0).bind fun t => kn (putS js ks cs s.Γ t), fun s => (getE js cs s).bind fun t0 => (whileP (stepW body js ks cs tt s.Γ) t0).bind fun t => some (.nx (putS js ks cs s.Γ t)), fun s kn kr => by
  simp only [abind_eq]
  rw [Option.bind_assoc]
  congr 1
  funext t0
  rw [Option.bind_assoc]
  rfl, js ++ ks, fun s s' h => by
  obtain ⟨_, _, h⟩ := bind_of h
  obtain ⟨t, _, h⟩ := bind_of h
  cases h
  exact ⟨(setJ_len _ _ _).trans (wip_len _ _), fun i hi => (setJ_ne _ _ _ fun z => hi (List.mem_append_left _ z)).trans (wip_ne fun z => hi (List.mem_append_right _ z))⟩⟩
/-- one way behind both -/
def sIfJ (tt : Ev Bool) (a b : EvS) : EvS := ⟨fun s kn _ => cond (Nat.ble s.μ.length cs.length) (tt.run s.Γ s.μ fun k μ => (cond k (a.run ⟨s.Γ, μ⟩ (fun s2 => getS js cs s2) fun _ _ => none) (b.run ⟨s.Γ, μ⟩ (fun s2 => getS js cs s2) fun _ _ => none)).bind fun t => kn (putS js ks cs s.Γ t)) none,
  fun s => cond (Nat.ble s.μ.length cs.length) ((tt.dir s.Γ s.μ).bind fun p => (cond p.1 (a.run ⟨s.Γ, p.2⟩ (fun s2 => getS js cs s2) fun _ _ => none) (b.run ⟨s.Γ, p.2⟩ (fun s2 => getS js cs s2) fun _ _ => none)).bind fun t => some (.nx (putS js ks cs s.Γ t))) none, fun s kn kr => by
  cases Nat.ble s.μ.length cs.length with
  | false => rfl
  | true =>
    show tt.run _ _ _ = (Option.bind _ _).bind _
    rw [tt.nat, Option.bind_assoc]
    congr 1
    funext p
    rw [Option.bind_assoc]
    rfl, js ++ ks, fun s s' h => by
  cases e : Nat.ble s.μ.length cs.length with
  | false => rw [e] at h; cases h
  | true =>
    rw [e] at h
    obtain ⟨_, _, h⟩ := bind_of h
    obtain ⟨t, _, h⟩ := bind_of h
    cases h
    exact ⟨(setJ_len _ _ _).trans (wip_len _ _), fun i hi => (setJ_ne _ _ _ fun z => hi (List.mem_append_left _ z)).trans (wip_ne fun z => hi (List.mem_append_right _ z))⟩⟩
end
section
variable {g : EvG} {body : EvS} {js ks : List Nat} {cs : List CK} {Γ : Ga}
theorem weak_of {s1 s2 s3 : S} {t t1 : Cd js cs} {r : Sl} (hw : within (g.mods ++ body.mods) js ks = true) (hb : ∀ (i j : Nat), Γ[i]? = some (some (.cel j)) → j < cs.length) (h1 : g.dir r (putS js ks cs Γ t) = some s1) (h2 : body.dir s1 = some (.nx s2)) (h3 : getS js cs s2 = some t1) : Weak s2 (putS js ks cs Γ t1) := by
  obtain ⟨f1, f2⟩ := g.fr _ _ _ h1
  obtain ⟨f3, f4⟩ := body.fr _ _ h2
  refine getS_weak h3 ?_ (fun i i1 i2 => ?_) hb
  · rw [f3, f1]
    exact (setJ_len _ _ _).trans (wip_len _ _)
  · have hn := within_of hw i1 i2
    rw [f4 i fun z => hn (List.mem_append_right _ z), f2 i fun z => hn (List.mem_append_left _ z)]
    exact (setJ_ne _ _ _ i1).trans (wip_ne i2)
theorem for_w [hg : GPu g] (hw : within (g.mods ++ body.mods) js ks = true) (hb : ∀ (i j : Nat), Γ[i]? = some (some (.cel j)) → j < cs.length) {D' : Dn} {t' : Cd js cs} (hn : D'.nx (putS js ks cs Γ t')) :
    ∀ (ds : List D) (t : Cd js cs), loopM (stepF g body js ks cs Γ) ds t = some t' → forW (wG g) (wWk (wS body)) ds D' (putS js ks cs Γ t)
  | [], t, h => by
    cases h
    exact hn
  | d :: ds, t, h => by
    obtain ⟨t1, h1, h2⟩ := bind_of h
    have h3 : stepF g body js ks cs Γ t d = some t1 := h1
    unfold stepF at h3
    rw [g.nat] at h3
    obtain ⟨s1, h4, h5⟩ := bind_of h3
    rw [body.nat] at h5
    obtain ⟨o, h6, h7⟩ := bind_of h5
    cases o with
    | rt r s2 => cases h7
    | nx s2 =>
      refine ⟨s1, h4, .nx s2, h6, putS js ks cs Γ t1, weak_of (s3 := s1) hw hb h4 h6 h7, ?_, for_w hw hb hn ds t1 h2⟩
      rw [hg.pu _ _ _ h4]
      show (putC cs _).length ≤ (putC cs _).length
      rw [putC_len, putC_len]
      exact Nat.le_refl _
theorem forR_w [hg : GPu g] (hw : within (g.mods ++ body.mods) js ks = true) (hb : ∀ (i j : Nat), Γ[i]? = some (some (.cel j)) → j < cs.length) {D' : Dn} {o : Cd js cs ⊕ (Sl × S)} (hn : match o with | .inl t => D'.nx (putS js ks cs Γ t) | .inr q => D'.rt q.1 q.2) :
    ∀ (ds : List D) (t : Cd js cs), forD (fun t d => (g.dir (.dat d) (putS js ks cs Γ t)).bind fun s1 => (body.dir s1).bind fun o => o.el (fun s2 => (getS js cs s2).bind fun t => some (.inl t)) fun r s2 => some (.inr (r, s2))) ds t = some o → forW (wG g) (wWk (wS body)) ds D' (putS js ks cs Γ t)
  | [], t, h => by
    cases h
    exact hn
  | d :: ds, t, h => by
    obtain ⟨q, h1, h2⟩ := bind_of h
    obtain ⟨s1, h4, h5⟩ := bind_of h1
    obtain ⟨p, h6, h7⟩ := bind_of h5
    cases p with
    | rt r s2 =>
      cases h7
      cases h2
      exact ⟨s1, h4, .rt r s2, h6, hn⟩
    | nx s2 =>
      obtain ⟨t1, h8, h9⟩ := bind_of h7
      cases h9
      refine ⟨s1, h4, .nx s2, h6, putS js ks cs Γ t1, weak_of (s3 := s1) hw hb h4 h6 h8, ?_, forR_w hw hb hn ds t1 h2⟩
      rw [hg.pu _ _ _ h4]
      show (putC cs _).length ≤ (putC cs _).length
      rw [putC_len, putC_len]
      exact Nat.le_refl _
theorem getE_weak {s : S} {t : Cd js cs} (bl : Bel s) (h : getE js cs s = some t) : Weak s (putS js ks cs s.Γ t) ∧ (putS js ks cs s.Γ t).μ.length = s.μ.length ∧ ∀ (i j : Nat), s.Γ[i]? = some (some (.cel j)) → j < cs.length := by
  obtain ⟨c, h1, h2⟩ := bind_of h
  obtain ⟨h3, h4⟩ := getL_C h1
  have hb : ∀ (i j : Nat), s.Γ[i]? = some (some (.cel j)) → j < cs.length := fun i j e => by
    rw [h4]
    exact bl.sl i j e
  refine ⟨getS_weak (t := t) ?_ rfl (fun _ _ _ => rfl) hb, ?_, hb⟩
  · show (getC cs s.μ).bind _ = _
    rw [h3]
    exact h2
  · show (putC cs _).length = _
    rw [putC_len]
    exact h4
theorem rep_put {t0 : Cd js cs} {c : TC cs} {μ1 : Mu} (h : getX cs μ1 = some c) : (⟨(putS js ks cs Γ t0).Γ, μ1⟩ : S) = putS js ks cs Γ (repJ js t0 c) := by
  show S.mk _ _ = S.mk _ _
  rw [setJ_rep, resJ_rep, getX_put h]
  rfl
end
section
variable {X : Cx} {st : Stmt} {a b bd : List Stmt} {e c tg it : Expr} {pos : Pos} {ei : Ev (List D)} {t : Ev Bool} {f1 f2 fb : EvS} {g : EvG} {gs : List Nat}
theorem fs_for (js ks : List Nat) (cs : List CK) [hg' : GPu g] (hp : PassesOwn (model X.prog X.w) X.A X.env X.xe) (hc : X.calm = true) (hi : PI X tg it (upI X.K (wE ei))) (hg : PG X tg (upG X.K gs (wG g))) (hb : PSs X bd (upS X.K (wS fb))) (hw : within (g.mods ++ fb.mods) js ks = true := by rfl) (hs : ∀ x, foldedSetIterable it X.env x = pure x := by intro _; rfl) :
    PS X (.For tg it bd [] pos) (upS X.K (wS (sFor g fb js ks cs ei))) := ps_w (s_pre (s_for hp hc hi hg (s_wk hb) hs)) fun D s bl ⟨o, h1, h2⟩ => by
  obtain ⟨t0, e1, z1⟩ := bind_of h1
  obtain ⟨p, e2, z2⟩ := bind_of z1
  obtain ⟨c, e3, z3⟩ := bind_of z2
  obtain ⟨t1, e4, z4⟩ := bind_of z3
  cases z4
  obtain ⟨w1, w2, w3⟩ := getE_weak (ks := ks) bl e1
  refine ⟨_, w1, w2, p, e2, ?_⟩
  rw [rep_put e3]
  exact for_w hw w3 h2 _ _ e4
theorem fs_forR (js ks : List Nat) (cs : List CK) [hg' : GPu g] (hp : PassesOwn (model X.prog X.w) X.A X.env X.xe) (hc : X.calm = true) (hi : PI X tg it (upI X.K (wE ei))) (hg : PG X tg (upG X.K gs (wG g))) (hb : PSs X bd (upS X.K (wS fb))) (hw : within (g.mods ++ fb.mods) js ks = true := by rfl) (hs : ∀ x, foldedSetIterable it X.env x = pure x := by intro _; rfl) :
    PS X (.For tg it bd [] pos) (upS X.K (wS (sForR g fb js ks cs ei))) := ps_w (s_pre (s_for hp hc hi hg (s_wk hb) hs)) fun D s bl ⟨o, h1, h2⟩ => by
  obtain ⟨t0, e1, z1⟩ := bind_of h1
  obtain ⟨p, e2, z2⟩ := bind_of z1
  obtain ⟨c, e3, z3⟩ := bind_of z2
  obtain ⟨q, e4, z4⟩ := bind_of z3
  obtain ⟨w1, w2, w3⟩ := getE_weak (ks := ks) bl e1
  refine ⟨_, w1, w2, p, e2, ?_⟩
  rw [rep_put e3]
  refine forR_w (o := q) hw w3 ?_ _ _ e4
  cases q with
  | inl t =>
    cases z4
    exact h2
  | inr t =>
    cases z4
    exact h2
theorem fs_while (js ks : List Nat) (cs : List CK) [ht : Pu t] (hp : PassesOwn (model X.prog X.w) X.A X.env X.xe) (hc : PT X c (upT X.K (wE t))) (hb : PSs X bd (upS X.K (wS fb))) (hw : within fb.mods js ks = true := by rfl) :
    PS X (.While c bd [] pos) (upS X.K (wS (sWhile fb js ks cs t))) := ps_w (s_pre (s_while hp hc (s_wk hb))) fun D s bl ⟨o, h1, h2⟩ => by
  obtain ⟨t0, e1, z1⟩ := bind_of h1
  obtain ⟨t1, e2, z2⟩ := bind_of z1
  cases z2
  obtain ⟨w1, w2, w3⟩ := getE_weak (ks := ks) bl e1
  obtain ⟨n, e3⟩ := whileP_N e2
  refine ⟨_, w1, w2, fun m s' => ∃ t, s' = putS js ks cs s.Γ t ∧ whileN (stepW fb js ks cs _ s.Γ) m t = some t1, n, ⟨t0, rfl, e3⟩, ?_⟩
  rintro m s' ⟨t, rfl, hn⟩
  cases m with
  | zero => cases hn
  | succ m =>
    obtain ⟨q, q1, q2⟩ := bind_of hn
    unfold stepW at q1
    rw [Ev.nat] at q1
    obtain ⟨p, q3, q4⟩ := bind_of q1
    have q5 := ht.pu _ _ _ q3
    refine ⟨p, q3, ?_⟩
    cases hp1 : p.1 with
    | false =>
      rw [hp1] at q4
      cases q4
      cases q2
      rw [if_neg Bool.false_ne_true, q5]
      exact h2
    | true =>
      rw [hp1] at q4
      have q4 : fb.run ⟨(putS js ks cs s.Γ t).Γ, p.2⟩ (fun s2 => (getS js cs s2).bind fun t1 => some (.inl t1)) (fun _ _ => none) = some q := q4
      rw [if_pos rfl]
      rw [fb.nat] at q4
      obtain ⟨o, q6, q7⟩ := bind_of q4
      cases o with
      | rt r s2 => cases q7
      | nx s2 =>
        obtain ⟨t2, q8, q9⟩ := bind_of q7
        cases q9
        obtain ⟨f3, f4⟩ := fb.fr _ _ q6
        refine ⟨.nx s2, q6, putS js ks cs s.Γ t2, getS_weak q8 ?_ (fun i i1 i2 => ?_) w3, ?_, m, Nat.lt_succ_self _, t2, rfl, q2⟩
        · rw [f3]
          exact (setJ_len _ _ _).trans (wip_len _ _)
        · rw [f4 i (within_of hw i1 i2)]
          exact (setJ_ne _ _ _ i1).trans (wip_ne i2)
        · show p.2.length ≤ (putC cs _).length
          rw [q5, putC_len]
          show (putC cs _).length ≤ _
          rw [putC_len]
          exact Nat.le_refl _
theorem s_wk1 {w : WS} (h : PS X st (upS X.K w)) : PS X st (upS X.K (wWk w)) := ps_imp h fun D σ H ⟨A, as, s, d, ok, w, cn, cr, cb, cc⟩ =>
  ⟨A, as, s, _, ok, w, fun σ1 H1 s1 as1 p1 ok1 ⟨s2, wk, le, z⟩ => cn σ1 H1 s2 _ (pre_take p1 (by have h9 : as.length = s.μ.length := ok.len; rw [h9]; exact le)) (ok_weak ok1 wk) z, cr, cb,
    fun σ1 H1 s1 as1 p1 ok1 ⟨s2, wk, le, z⟩ => cc σ1 H1 s2 _ (pre_take p1 (by have h9 : as.length = s.μ.length := ok.len; rw [h9]; exact le)) (ok_weak ok1 wk) z⟩
theorem fs_ifJ (js ks : List Nat) (cs : List CK) (hc : PT X c (upT X.K (wE t))) (ha : PSs X a (upS X.K (wS f1))) (hb : PSs X b (upS X.K (wS f2))) (hw : within (f1.mods ++ f2.mods) js ks = true := by rfl) : PS X (.If c a b pos) (upS X.K (wS (sIfJ js ks cs t f1 f2))) := ps_w (s_wk1 (s_if hc ha hb)) fun D s bl ⟨o, h1, h2⟩ => by
  cases el : Nat.ble s.μ.length cs.length with
  | false =>
    have h1 : cond (Nat.ble s.μ.length cs.length) _ _ = _ := h1
    rw [el] at h1
    cases h1
  | true =>
    have h1 : cond (Nat.ble s.μ.length cs.length) _ _ = _ := h1
    rw [el] at h1
    have le : s.μ.length ≤ cs.length := Nat.le_of_ble_eq_true el
    obtain ⟨p, h3, h4⟩ := bind_of h1
    obtain ⟨t1, h5, h6⟩ := bind_of h4
    cases h6
    have hb : ∀ (i j : Nat), s.Γ[i]? = some (some (.cel j)) → j < cs.length := fun i j e => Nat.lt_of_lt_of_le (bl.sl i j e) le
    have fin : ∀ (f : EvS) (s2 : S), (∀ i, i ∈ f.mods → i ∈ f1.mods ++ f2.mods) → f.dir ⟨s.Γ, p.2⟩ = some (.nx s2) → getS js cs s2 = some t1 → ∃ s3, Weak s2 s3 ∧ s.μ.length ≤ s3.μ.length ∧ D.nx s3 := fun f s2 hf q1 q2 => by
      obtain ⟨f3, f4⟩ := f.fr _ _ q1
      refine ⟨putS js ks cs s.Γ t1, getS_weak q2 f3 (fun i i1 i2 => f4 i fun z => within_of hw i1 i2 (hf i z)) hb, ?_, h2⟩
      show _ ≤ (putC cs _).length
      rw [putC_len]
      exact le
    refine ⟨p, h3, ?_⟩
    cases e : p.1 with
    | false =>
      rw [e] at h5
      rw [if_neg Bool.false_ne_true]
      have h5 : f2.run ⟨s.Γ, p.2⟩ _ _ = _ := h5
      rw [f2.nat] at h5
      obtain ⟨o, q1, q2⟩ := bind_of h5
      cases o with
      | rt r s2 => cases q2
      | nx s2 => exact ⟨.nx s2, q1, fin f2 s2 (fun i z => List.mem_append_right _ z) q1 q2⟩
    | true =>
      rw [e] at h5
      rw [if_pos rfl]
      have h5 : f1.run ⟨s.Γ, p.2⟩ _ _ = _ := h5
      rw [f1.nat] at h5
      obtain ⟨o, q1, q2⟩ := bind_of h5
      cases o with
      | rt r s2 => cases q2
      | nx s2 => exact ⟨.nx s2, q1, fin f1 s2 (fun i z => List.mem_append_left _ z) q1 q2⟩
end
end Ge
namespace Ge
open PySem PySem.Spec PyProof.Rows L2 Gd
local macro_rules | `(tactic| walk_at "pu") => `(tactic| repeat' first | with_reducible exact pu_prim | with_reducible exact pu_ret | assumption | with_reducible (refine pu_bind ?_ ?_) | with_reducible (refine pu_cond ?_ ?_) | intro)
/-! ### comprehensions -/
def ocons {α : Type} : Option α → List α → List α
  | some v, r => v :: r
  | none, r => r
def lcM (step : D → Option (Option D)) : List D → Option (List D)
  | [] => some []
  | d :: ds => (step d).bind fun o => (lcM step ds).bind fun r => some (ocons o r)
def lcG (step : D → Option (Option D)) (ds : List D) : Option (List D) := gd ds.length (lcM step ds)
def lcB {τ : Type} (step : τ → D → Option (τ × Option D)) : List D → τ → Option (τ × List D)
  | [], t => some (t, [])
  | d :: ds, t => (step t d).bind fun o => (lcB step ds o.1).bind fun r => some (r.1, ocons o.2 r.2)
section
variable (g : EvG) (t : Ev Bool) (e : Ev Sl) (vs : List Nat)
def stepP (Γ : Ga) (μ : Mu) (d : D) : Option (Option D) := g.run (.dat d) ⟨wip Γ vs, μ⟩ fun s1 => t.run s1.Γ s1.μ fun b μ2 => cond b (e.run s1.Γ μ2 fun r _ => (datO r).bind fun v => some (some v)) (some none)
/-- nothing is written -/
def fLc (it : Ev (List D)) : Ev (List D) := it.bind fun ds => .prim fun Γ μ => lcG (stepP g t e vs Γ μ) ds
def stepB (cs : List CK) (Γ : Ga) (c : TC cs) (d : D) : Option (TC cs × Option D) := g.run (.dat d) ⟨wip Γ vs, putC cs c⟩ fun s1 => t.run s1.Γ s1.μ fun b μ2 => cond b (e.run s1.Γ μ2 fun r μ3 => (datO r).bind fun v => (getX cs μ3).bind fun c1 => some (c1, some v)) ((getX cs μ2).bind fun c1 => some (c1, none))
def fLcB (cs : List CK) (it : Ev (List D)) : Ev (List D) := (Ev.adm fun _ μ => getX cs μ).bind fun _ => it.bind fun ds => .bind (.primM (fun Γ μ => abind (getX cs μ) fun c => gd ds.length (lcB (stepB g t e vs cs Γ) ds c)) fun _ p => putC cs p.1) fun p => .ret p.2
end
def fDat (f : Ev (List D)) : Ev Sl := f.bind fun ds => .ret (.dat (.lst ds))
def fCel (f : Ev (List D)) : Ev Sl := f.bind fun ds => .alloc (.lst ds)
section
variable {g : EvG} {t : Ev Bool} {e : Ev Sl} {vs : List Nat} {it : Ev (List D)} {f : Ev (List D)}
instance [Pu it] : Pu (fLc g t e vs it) := by unfold fLc; walk_at "pu"
instance [Pu f] : Pu (fDat f) := by unfold fDat; walk_at "pu"
theorem lcM_len {step : D → Option (Option D)} : ∀ {ds r : List D}, lcM step ds = some r → r.length ≤ ds.length
  | [], r, h => by cases h; exact Nat.le_refl _
  | d :: ds, r, h => by
    obtain ⟨o, h1, h2⟩ := bind_of h
    obtain ⟨q, h3, h4⟩ := bind_of h2
    cases h4
    have := lcM_len h3
    cases o
    · exact Nat.le_succ_of_le this
    · exact Nat.succ_le_succ this
theorem lcB_len {τ : Type} {step : τ → D → Option (τ × Option D)} : ∀ {ds : List D} {c : τ} {r : τ × List D}, lcB step ds c = some r → r.2.length ≤ ds.length
  | [], c, r, h => by cases h; exact Nat.le_refl _
  | d :: ds, c, r, h => by
    obtain ⟨o, h1, h2⟩ := bind_of h
    obtain ⟨q, h3, h4⟩ := bind_of h2
    cases h4
    have := lcB_len h3
    cases o.2
    · exact Nat.le_succ_of_le this
    · exact Nat.succ_le_succ this
theorem lcP_w [hg : GPu g] [ht : Pu t] [he : Pu e] {Γ : Ga} {μ : Mu} {R : List D → Mu → Prop} : ∀ (ds acc r : List D), lcM (stepP g t e vs Γ μ) ds = some r → sz (acc.length + ds.length) → R (acc ++ r) μ → lcW vs (wG g) (wE t) (wE e) Γ ds acc μ R
  | [], acc, r, h, _, hR => by
    cases h
    rw [List.append_nil] at hR
    exact hR
  | d :: ds, acc, r, h, hz, hR => by
    obtain ⟨o, h1, h2⟩ := bind_of h
    obtain ⟨q, h3, h4⟩ := bind_of h2
    cases h4
    unfold stepP at h1
    rw [g.nat] at h1
    obtain ⟨s1, h5, h6⟩ := bind_of h1
    rw [t.nat] at h6
    obtain ⟨p, h7, h8⟩ := bind_of h6
    have hm1 : s1.μ = μ := hg.pu _ _ _ h5
    have hm2 := ht.pu _ _ _ h7
    rw [List.length_cons] at hz
    have hz' : acc.length + (ds.length + 1) ≤ 100000 := hz
    refine ⟨s1, h5, p, h7, ?_⟩
    cases eb : p.1 with
    | false =>
      rw [eb] at h8
      cases h8
      rw [if_neg Bool.false_ne_true]
      show lcW vs _ _ _ Γ ds acc p.2 R
      rw [hm2, hm1]
      exact lcP_w ds acc q h3 (show _ ≤ _ by omega) hR
    | true =>
      rw [eb] at h8
      have h8 : e.run s1.Γ p.2 _ = some o := h8
      rw [e.nat] at h8
      obtain ⟨z, h9, h10⟩ := bind_of h8
      obtain ⟨v, h11, h12⟩ := bind_of h10
      cases h12
      have hm3 := he.pu _ _ _ h9
      rw [if_pos rfl]
      refine ⟨z, h9, ?_⟩
      rw [datO_of h11]
      refine ⟨show _ ≤ _ by omega, ?_⟩
      show lcW vs _ _ _ Γ ds (acc ++ [v]) z.2 R
      rw [hm3, hm2, hm1]
      refine lcP_w ds (acc ++ [v]) q h3 (show _ ≤ _ by rw [List.length_append]; show acc.length + 1 + ds.length ≤ _; omega) ?_
      rw [List.append_assoc]
      exact hR
theorem lcB_w {cs : List CK} {Γ : Ga} {R : List D → Mu → Prop} : ∀ (ds acc : List D) (c : TC cs) (r : TC cs × List D), lcB (stepB g t e vs cs Γ) ds c = some r → sz (acc.length + ds.length) → R (acc ++ r.2) (putC cs r.1) → lcW vs (wG g) (wE t) (wE e) Γ ds acc (putC cs c) R
  | [], acc, c, r, h, _, hR => by
    cases h
    rw [List.append_nil] at hR
    exact hR
  | d :: ds, acc, c, r, h, hz, hR => by
    obtain ⟨o, h1, h2⟩ := bind_of h
    obtain ⟨q, h3, h4⟩ := bind_of h2
    cases h4
    unfold stepB at h1
    rw [g.nat] at h1
    obtain ⟨s1, h5, h6⟩ := bind_of h1
    rw [t.nat] at h6
    obtain ⟨p, h7, h8⟩ := bind_of h6
    rw [List.length_cons] at hz
    have hz' : acc.length + (ds.length + 1) ≤ 100000 := hz
    refine ⟨s1, h5, p, h7, ?_⟩
    cases eb : p.1 with
    | false =>
      rw [eb] at h8
      obtain ⟨c1, h9, h10⟩ := bind_of (show (getX cs p.2).bind _ = some o from h8)
      cases h10
      rw [if_neg Bool.false_ne_true]
      show lcW vs _ _ _ Γ ds acc p.2 R
      rw [← getX_put h9]
      exact lcB_w ds acc c1 q h3 (show _ ≤ _ by omega) hR
    | true =>
      rw [eb] at h8
      have h8 : e.run s1.Γ p.2 _ = some o := h8
      rw [e.nat] at h8
      obtain ⟨z, h9, h10⟩ := bind_of h8
      obtain ⟨v, h11, h12⟩ := bind_of h10
      obtain ⟨c1, h13, h14⟩ := bind_of h12
      cases h14
      rw [if_pos rfl]
      refine ⟨z, h9, ?_⟩
      rw [datO_of h11]
      refine ⟨show _ ≤ _ by omega, ?_⟩
      show lcW vs _ _ _ Γ ds (acc ++ [v]) z.2 R
      rw [← getX_put h13]
      refine lcB_w ds (acc ++ [v]) c1 q h3 (show _ ≤ _ by rw [List.length_append]; show acc.length + 1 + ds.length ≤ _; omega) ?_
      rw [List.append_assoc]
      exact hR
theorem frz_new {s : S} {μ : Mu} {ds : List D} {R : Sl → S → Prop} (hl : μ.length = s.μ.length) (hb : belowAll s.μ.length (μ.take s.μ.length)) (h : R (.dat (.lst ds)) ⟨s.Γ, μ⟩) : nw (.lst ds) ⟨s.Γ, μ⟩ fun r s2 => frz s r s2 R := by
  have e1 : (μ ++ [some (MO.lst ds)]).take s.μ.length = μ := by rw [← hl, List.take_left]
  have e2 : μ.take s.μ.length = μ := by rw [← hl, List.take_length]
  show frz s (.cel μ.length) ⟨s.Γ, μ ++ [some (.lst ds)]⟩ R
  refine ⟨?_, ?_⟩
  · show belowAll s.μ.length ((μ ++ [some (MO.lst ds)]).take s.μ.length)
    rw [e1, ← e2]
    exact hb
  · show (if μ.length < s.μ.length then _ else optK (nth (μ ++ [some (MO.lst ds)]) μ.length) _)
    rw [if_neg (by omega)]
    have e3 : nth (μ ++ [some (MO.lst ds)]) μ.length = some (.lst ds) := by
      clear hl hb h e1 e2
      induction μ with
      | nil => rfl
      | cons x μ ih => exact ih
    rw [e3]
    refine ⟨trivial, ?_⟩
    show R (.dat (.lst ds)) ⟨s.Γ, (μ ++ [some (MO.lst ds)]).take s.μ.length⟩
    rw [e1]
    exact h
theorem putC_bel (cs : List CK) (c : TC cs) (n : Nat) : ∀ (i : Nat) (o : MO), (putC cs c)[i]? = some (some o) → o.below n := by
  induction cs with
  | nil => intro i o h; simp [putC] at h
  | cons k cs ih =>
    intro i o h
    cases k <;> cases i <;> first
      | (simp [putC] at h; subst h; trivial)
      | (simp [putC] at h; subst h; exact noIns.bel (show noIns (MO.ins _ (putN _ _)) from putN_plain _ _) n)
      | (simp [putC] at h; done)
      | exact ih _ _ _ h
end
section
variable {X : Cx} {elt tg iter : Expr} {ifs : List Expr} {scope : Scope} {own : List (Str × Nat)} {pos : Pos} {it : Ev (List D)} {g : EvG} {t : Ev Bool} {e : Ev Sl} {vs : List Nat}
variable (cs : List CK) (hc : X.calm = true) (hN : X.N.Nodup) (hi : PI X tg iter (upI X.K (wE it))) (ok : BlkOk X.N X.env.scope scope own) (hvs : own.map (·.2) = vs)
    (hg : ∀ (s : Shared) (H : Hp) (C : Addr) (cl : List (Str × Addr)) (fp : List Addr), PG (X.blk s H scope (compEnvC scope cl C X.env) fp) tg (upG X.K vs (wG g))) (ht : ∀ (s : Shared) (H : Hp) (C : Addr) (cl : List (Str × Addr)) (fp : List Addr), PTs (X.blk s H scope (compEnvC scope cl C X.env) fp) ifs (upT X.K (wE t)))
    (he : ∀ (s : Shared) (H : Hp) (C : Addr) (cl : List (Str × Addr)) (fp : List Addr), PE (X.blk s H scope (compEnvC scope cl C X.env) fp) elt (up X.K (wE e)))
include hc hN hi ok hvs hg ht he
theorem f_lcD [pi : Pu it] [g1 : GPu g] [t1 : Pu t] [e1 : Pu e] (hs : ∀ x, foldedSetIterable iter X.env x = pure x := by intro _; rfl) : PE X (.ListComp elt [⟨tg, iter, ifs, 0⟩] scope pos) (up X.K (wE (fDat (fLc g t e vs it)))) :=
  pe_w (e_frz (e_lc hc hN hi ok hvs hg ht he hs)) fun s R bl h => show wE it s (fun ds s1 => lcW vs (wG g) (wE t) (wE e) s1.Γ ds [] s1.μ fun acc μ => nw (.lst acc) ⟨s1.Γ, μ⟩ fun r s2 => frz s r s2 R) from wE_mono (wE_pu (wE_bind (wE_bind h))) fun ds s1 _ ⟨e2, h'⟩ => by
    clear h
    subst e2
    obtain ⟨r, h1, h2⟩ := wE_prim h'
    obtain ⟨h3, h4⟩ := gd_of h1
    exact lcP_w ds [] r h4 (by rw [List.length_nil, Nat.zero_add]; exact h3) (frz_new rfl bl.all (wE_ret h2))
theorem f_lcC [g1 : GPu g] [t1 : Pu t] [e1 : Pu e] (hs : ∀ x, foldedSetIterable iter X.env x = pure x := by intro _; rfl) : PE X (.ListComp elt [⟨tg, iter, ifs, 0⟩] scope pos) (up X.K (wE (fCel (fLc g t e vs it)))) :=
  pe_w (e_lc hc hN hi ok hvs hg ht he hs) fun s R bl h => wE_mono (wE_bind (wE_bind h)) fun ds s1 _ h => by
    obtain ⟨r, h1, h2⟩ := wE_prim h
    obtain ⟨h3, h4⟩ := gd_of h1
    exact lcP_w ds [] r h4 (by rw [List.length_nil, Nat.zero_add]; exact h3) (wE_alloc h2)
theorem f_lcBD (hs : ∀ x, foldedSetIterable iter X.env x = pure x := by intro _; rfl) : PE X (.ListComp elt [⟨tg, iter, ifs, 0⟩] scope pos) (up X.K (wE (fDat (fLcB g t e vs cs it)))) :=
  pe_w (e_frz (e_lc hc hN hi ok hvs hg ht he hs)) fun s R bl h => show wE it s (fun ds s1 => lcW vs (wG g) (wE t) (wE e) s1.Γ ds [] s1.μ fun acc μ => nw (.lst acc) ⟨s1.Γ, μ⟩ fun r s2 => frz s r s2 R) from by
    obtain ⟨c0, h0, h⟩ := wE_prim (wE_bind (wE_bind h))
    refine wE_mono (wE_bind h) fun ds s1 e1 h => ?_
    obtain ⟨r, h1, h2⟩ := wE_primM (wE_bind h)
    obtain ⟨c, h5, h6⟩ := abind_of h1
    obtain ⟨h3, h4⟩ := gd_of h6
    have h7 := wE_ret (wE_ret h2)
    rw [← getX_put h5]
    refine lcB_w ds [] c r h4 (by rw [List.length_nil, Nat.zero_add]; exact h3) ?_
    rw [e1] at h7 ⊢
    have e2 : (putC cs r.1).length = s.μ.length := by rw [putC_len, ← getX_put h0, putC_len]
    refine frz_new e2 ?_ h7
    rw [← e2, List.take_length]
    exact bel_all (putC_bel cs r.1 _)
theorem f_lcBC (hs : ∀ x, foldedSetIterable iter X.env x = pure x := by intro _; rfl) : PE X (.ListComp elt [⟨tg, iter, ifs, 0⟩] scope pos) (up X.K (wE (fCel (fLcB g t e vs cs it)))) :=
  pe_w (e_lc hc hN hi ok hvs hg ht he hs) fun s R bl h => by
    obtain ⟨c0, h0, h⟩ := wE_prim (wE_bind (wE_bind h))
    refine wE_mono (wE_bind h) fun ds s1 e1 h => ?_
    obtain ⟨r, h1, h2⟩ := wE_primM (wE_bind h)
    obtain ⟨c, h5, h6⟩ := abind_of h1
    obtain ⟨h3, h4⟩ := gd_of h6
    have h7 := wE_alloc (wE_ret h2)
    rw [← getX_put h5]
    exact lcB_w ds [] c r h4 (by rw [List.length_nil, Nat.zero_add]; exact h3) h7
end
/-- behind a statement the name's thing is written no more -/
def wFz (i : Nat) (w : WS) : WS := fun D s => w { D with nx := fun s1 => ∃ j ds s2, nth s1.Γ i = some (.cel j) ∧ nth s1.μ j = some (.lst ds) ∧ Weak ⟨put s1.Γ i (.dat (.lst ds)), s1.μ.set j none⟩ s2 ∧ s.μ.length ≤ s2.μ.length ∧ D.nx s2 } s
theorem s_fz {X : Cx} {st : Stmt} {w : WS} (i : Nat) (h : PS X st (upS X.K w)) : PS X st (upS X.K (wFz i w)) := ps_imp h fun D σ H ⟨A, as, s, d, ok, w, cn, cr, cb, cc⟩ =>
  ⟨A, as, s, _, ok, w, fun σ1 H1 s1 as1 p1 ok1 ⟨j, ds, s2, e1, e2, wk, le, z⟩ => by
    obtain ⟨v, h1, a, h2, rfl⟩ := ok1.env i _ (nth_eq _ _ e1)
    obtain ⟨st, ok', r⟩ := ok1.freeze h2 (nth_eq _ _ e2) trivial
    have ok2 := ok'.named (r := .dat (.lst ds)) r i
    rw [show σ1.set i (some (.ref a)) = σ1 by
      refine List.ext_getElem? fun m => ?_
      by_cases hm : i = m
      · subst hm
        rw [List.getElem?_set_self (List.getElem?_eq_some_iff.mp h1).1, h1]
      · rw [List.getElem?_set_ne hm]] at ok2
    exact cn σ1 H1 s2 _ (pre_take p1 (by have h9 : as.length = s.μ.length := ok.len; rw [h9]; exact le)) (ok_weak ok2 wk) z, cr, cb, cc⟩
theorem nth_put {α : Type} {i : Nat} {x y : α} : ∀ {l : List (Option α)} {i : Nat}, i < l.length → nth (put l i x) i = some x
  | _ :: _, 0, _ => rfl
  | _ :: l, i + 1, h => nth_put (i := i) (y := y) (l := l) (Nat.lt_of_succ_lt_succ h)
theorem nth_app {α : Type} {x : α} : ∀ (l : List (Option α)), nth (l ++ [some x]) l.length = some x
  | [] => rfl
  | _ :: l => nth_app l
/-- a new list at a name, as data -/
theorem fz_new {i : Nat} {s : S} {μ : Mu} {acc : List D} {D' : Dn} (hi : i < s.Γ.length) (hl : μ.length = s.μ.length) (hc : ∀ (i j : Nat), s.Γ[i]? = some (some (.cel j)) → j < s.μ.length) (hm : ∀ (i : Nat) (o : MO), μ[i]? = some (some o) → o.below s.μ.length) (h : D'.nx ⟨put s.Γ i (.dat (.lst acc)), μ⟩) :
    ∃ (j : Nat) (ds : List D) (s2 : S), nth (put s.Γ i (.cel μ.length)) i = some (.cel j) ∧ nth (μ ++ [some (MO.lst acc)]) j = some (MO.lst ds) ∧ Weak ⟨put (put s.Γ i (.cel μ.length)) i (.dat (.lst ds)), (μ ++ [some (MO.lst acc)]).set j none⟩ s2 ∧ s.μ.length ≤ s2.μ.length ∧ D'.nx s2 := by
  refine ⟨μ.length, acc, _, nth_put (y := Sl.cel 0) (i := 0) hi, nth_app μ, ⟨?_, fun k r e => ?_, ?_, fun k o e => ?_⟩, ?_, h⟩
  · show (put s.Γ i _).length = (put (put s.Γ i _) i _).length
    rw [put_len, put_len, put_len]
  · have e : (put s.Γ i (.dat (.lst acc)))[k]? = some (some r) := e
    by_cases hk : i = k
    · subst hk
      have e1 := put_get e
      subst e1
      refine ⟨?_, fun j q => by cases q⟩
      show (put (put s.Γ i _) i _)[i]? = _
      rw [put_eq, put_eq, List.set_set, List.getElem?_set_self hi]
    · rw [put_ne hk] at e
      refine ⟨?_, fun j q => ?_⟩
      · show (put (put s.Γ i _) i _)[k]? = _
        rw [put_ne hk, put_ne hk]
        exact e
      · subst q
        show j < μ.length
        rw [hl]
        exact hc k j e
  · show μ.length ≤ ((μ ++ [some (MO.lst acc)]).set μ.length none).length
    rw [List.length_set, List.length_append]
    omega
  · have e : μ[k]? = some (some o) := e
    have hk : k < μ.length := (List.getElem?_eq_some_iff.mp e).1
    refine ⟨?_, ?_⟩
    · show ((μ ++ [some (MO.lst acc)]).set μ.length none)[k]? = _
      rw [List.getElem?_set_ne (by omega), List.getElem?_append_left hk]
      exact e
    · show o.below μ.length
      rw [hl]
      exact hm k o e
  · rw [← hl]
    exact Nat.le_refl _
/-- a name that there is -/
def gNc (i : Nat) : EvG := ⟨fun r s k => cond (Nat.blt i s.Γ.length) (k ⟨put s.Γ i r, s.μ⟩) none, fun r s => cond (Nat.blt i s.Γ.length) (some ⟨put s.Γ i r, s.μ⟩) none, fun r s k => by
  cases Nat.blt i s.Γ.length <;> rfl, [i], fun r s s' h => by
  cases e : Nat.blt i s.Γ.length with
  | false => rw [e] at h; cases h
  | true =>
    rw [e] at h
    cases h
    exact ⟨put_len _ _ _, fun j hj => put_ne fun e => hj (e ▸ List.mem_singleton.mpr rfl)⟩⟩
theorem gNc_of {i : Nat} {r : Sl} {s s1 : S} (h : (gNc i).dir r s = some s1) : i < s.Γ.length ∧ s1 = ⟨put s.Γ i r, s.μ⟩ := by
  have h : cond (Nat.blt i s.Γ.length) (some (S.mk (put s.Γ i r) s.μ)) none = some s1 := h
  cases e : Nat.blt i s.Γ.length with
  | false => rw [e] at h; cases h
  | true =>
    rw [e] at h
    cases h
    exact ⟨Nat.le_of_ble_eq_true e, rfl⟩
section
variable {X : Cx} {elt tg iter : Expr} {ifs : List Expr} {scope : Scope} {own : List (Str × Nat)} {pos : Pos} {it : Ev (List D)} {g : EvG} {t : Ev Bool} {e : Ev Sl} {vs : List Nat} {y : Str} {py : Pos} {spos : Pos}
variable (cs : List CK) (i : Nat) (hc : X.calm = true) (hN : X.N.Nodup) (hy : X.N[i]? = some y) (hyl : X.env.scope.names.lookup y = some .local) (hsw : swapsWith (.ListComp elt [⟨tg, iter, ifs, 0⟩] scope pos) (some (.Name y py)) spos.line X.env = pure true)
    (hi : PI X tg iter (upI X.K (wE it))) (ok : BlkOk X.N X.env.scope scope own) (hvs : own.map (·.2) = vs)
    (hg : ∀ (s : Shared) (H : Hp) (C : Addr) (cl : List (Str × Addr)) (fp : List Addr), PG (X.blk s H scope (compEnvC scope cl C X.env) fp) tg (upG X.K vs (wG g))) (ht : ∀ (s : Shared) (H : Hp) (C : Addr) (cl : List (Str × Addr)) (fp : List Addr), PTs (X.blk s H scope (compEnvC scope cl C X.env) fp) ifs (upT X.K (wE t)))
    (he : ∀ (s : Shared) (H : Hp) (C : Addr) (cl : List (Str × Addr)) (fp : List Addr), PE (X.blk s H scope (compEnvC scope cl C X.env) fp) elt (up X.K (wE e)))
include hc hN hi ok hvs hg ht he hy hyl hsw
theorem fs_setLcC [g1 : GPu g] [t1 : Pu t] [e1 : Pu e] (hs : ∀ x, foldedSetIterable iter X.env x = pure x := by intro _; rfl) : PS X (.Assign [.Name y py] (.ListComp elt [⟨tg, iter, ifs, 0⟩] scope pos) spos) (upS X.K (wS (sAsg (fCel (fLc g t e vs it)) (gN i)))) :=
  ps_w (s_setLc i hc hN hy hyl hsw hi ok hvs hg ht he hs) fun D s bl ⟨o, q1, q2⟩ => by
    obtain ⟨p, z1, z2⟩ := bind_of q1
    cases z2
    have h : wE (fCel (fLc g t e vs it)) s fun r s1 => D.nx ⟨put s1.Γ i r, s1.μ⟩ := ⟨p, z1, q2⟩
    refine (show wE it s (fun ds s1 => lcW vs (wG g) (wE t) (wE e) s1.Γ ds [] s1.μ fun acc μ => nw (.lst acc) ⟨s1.Γ, μ⟩ fun r s1 => D.nx ⟨put s1.Γ i r, s1.μ⟩) from wE_mono (wE_bind (wE_bind h)) fun ds s1 _ h => ?_)
    obtain ⟨r, h1, h2⟩ := wE_prim h
    obtain ⟨h3, h4⟩ := gd_of h1
    exact lcP_w ds [] r h4 (by rw [List.length_nil, Nat.zero_add]; exact h3) (wE_alloc h2)
theorem fs_setLcBC (hs : ∀ x, foldedSetIterable iter X.env x = pure x := by intro _; rfl) : PS X (.Assign [.Name y py] (.ListComp elt [⟨tg, iter, ifs, 0⟩] scope pos) spos) (upS X.K (wS (sAsg (fCel (fLcB g t e vs cs it)) (gN i)))) :=
  ps_w (s_setLc i hc hN hy hyl hsw hi ok hvs hg ht he hs) fun D s bl ⟨o, q1, q2⟩ => by
    obtain ⟨p, z1, z2⟩ := bind_of q1
    cases z2
    have h : wE (fCel (fLcB g t e vs cs it)) s fun r s1 => D.nx ⟨put s1.Γ i r, s1.μ⟩ := ⟨p, z1, q2⟩
    obtain ⟨c0, h0, h⟩ := wE_prim (wE_bind (wE_bind h))
    refine (show wE it s (fun ds s1 => lcW vs (wG g) (wE t) (wE e) s1.Γ ds [] s1.μ fun acc μ => nw (.lst acc) ⟨s1.Γ, μ⟩ fun r s1 => D.nx ⟨put s1.Γ i r, s1.μ⟩) from wE_mono (wE_bind h) fun ds s1 e1 h => ?_)
    obtain ⟨r, h1, h2⟩ := wE_primM (wE_bind h)
    obtain ⟨c, h5, h6⟩ := abind_of h1
    obtain ⟨h3, h4⟩ := gd_of h6
    have h7 := wE_alloc (wE_ret h2)
    rw [← getX_put h5]
    exact lcB_w ds [] c r h4 (by rw [List.length_nil, Nat.zero_add]; exact h3) h7
theorem fs_setLcD [pi : Pu it] [g1 : GPu g] [t1 : Pu t] [e1 : Pu e] (hs : ∀ x, foldedSetIterable iter X.env x = pure x := by intro _; rfl) : PS X (.Assign [.Name y py] (.ListComp elt [⟨tg, iter, ifs, 0⟩] scope pos) spos) (upS X.K (wS (sAsg (fDat (fLc g t e vs it)) (gNc i)))) :=
  ps_w (s_fz i (s_setLc i hc hN hy hyl hsw hi ok hvs hg ht he hs)) fun D' s bl ⟨o, q1, q2⟩ => by
    obtain ⟨p, z1, z2⟩ := bind_of q1
    obtain ⟨s3, z3, z4⟩ := bind_of z2
    cases z4
    obtain ⟨z5, z6⟩ := gNc_of z3
    have h : wE (fDat (fLc g t e vs it)) s fun r s1 => D'.nx ⟨put s.Γ i r, s1.μ⟩ := ⟨p, z1, by rw [z6] at q2; exact q2⟩
    refine (show wE it s (fun ds s1 => lcW vs (wG g) (wE t) (wE e) s1.Γ ds [] s1.μ fun acc μ => nw (.lst acc) ⟨s1.Γ, μ⟩ fun r s1 => ∃ (j : Nat) (ds : List D) (s2 : S), nth (put s1.Γ i r) i = some (.cel j) ∧ nth s1.μ j = some (MO.lst ds) ∧ Weak ⟨put (put s1.Γ i r) i (.dat (.lst ds)), s1.μ.set j none⟩ s2 ∧ s.μ.length ≤ s2.μ.length ∧ D'.nx s2) from wE_mono (wE_pu (wE_bind (wE_bind h))) fun ds s1 _ ⟨e2, h'⟩ => ?_)
    clear h q1 z1 z2 z3
    subst e2
    obtain ⟨r, h1, h2⟩ := wE_prim h'
    obtain ⟨h3, h4⟩ := gd_of h1
    have h7 := wE_ret h2
    exact lcP_w ds [] r h4 (by rw [List.length_nil, Nat.zero_add]; exact h3) (fz_new (s := s1) z5 rfl bl.sl bl.mo h7)
theorem fs_setLcBD (hs : ∀ x, foldedSetIterable iter X.env x = pure x := by intro _; rfl) : PS X (.Assign [.Name y py] (.ListComp elt [⟨tg, iter, ifs, 0⟩] scope pos) spos) (upS X.K (wS (sAsg (fDat (fLcB g t e vs cs it)) (gNc i)))) :=
  ps_w (s_fz i (s_setLc i hc hN hy hyl hsw hi ok hvs hg ht he hs)) fun D' s bl ⟨o, q1, q2⟩ => by
    obtain ⟨p, z1, z2⟩ := bind_of q1
    obtain ⟨s3, z3, z4⟩ := bind_of z2
    cases z4
    obtain ⟨z5, z6⟩ := gNc_of z3
    have h : wE (fDat (fLcB g t e vs cs it)) s fun r s1 => D'.nx ⟨put s.Γ i r, s1.μ⟩ := ⟨p, z1, by rw [z6] at q2; exact q2⟩
    obtain ⟨c0, h0, h⟩ := wE_prim (wE_bind (wE_bind h))
    refine (show wE it s (fun ds s1 => lcW vs (wG g) (wE t) (wE e) s1.Γ ds [] s1.μ fun acc μ => nw (.lst acc) ⟨s1.Γ, μ⟩ fun r s1 => ∃ (j : Nat) (ds : List D) (s2 : S), nth (put s1.Γ i r) i = some (.cel j) ∧ nth s1.μ j = some (MO.lst ds) ∧ Weak ⟨put (put s1.Γ i r) i (.dat (.lst ds)), s1.μ.set j none⟩ s2 ∧ s.μ.length ≤ s2.μ.length ∧ D'.nx s2) from wE_mono (wE_bind h) fun ds s1 e1 h => ?_)
    obtain ⟨r, h1, h2⟩ := wE_primM (wE_bind h)
    obtain ⟨c, h5, h6⟩ := abind_of h1
    obtain ⟨h3, h4⟩ := gd_of h6
    have h7 := wE_ret (wE_ret h2)
    rw [← getX_put h5]
    refine lcB_w ds [] c r h4 (by rw [List.length_nil, Nat.zero_add]; exact h3) ?_
    have e2 : (putC cs r.1).length = s.μ.length := by rw [putC_len, ← getX_put h0, putC_len]
    have e3 : s1.Γ = s.Γ := e1
    show ∃ (j : Nat) (ds : List D) (s2 : S), nth (put s1.Γ i (.cel (putC cs r.1).length)) i = some (.cel j) ∧ nth (putC cs r.1 ++ [some (MO.lst r.2)]) j = some (MO.lst ds) ∧ Weak ⟨put (put s1.Γ i (.cel (putC cs r.1).length)) i (.dat (.lst ds)), (putC cs r.1 ++ [some (MO.lst r.2)]).set j none⟩ s2 ∧ s.μ.length ≤ s2.μ.length ∧ D'.nx s2
    rw [e3]
    exact fz_new (s := s) z5 e2 bl.sl (putC_bel cs r.1 _) h7
end
end Ge
namespace Ge
open PySem PySem.Spec PyProof.Rows L2 Gd
local macro_rules | `(tactic| walk_at "pu") => `(tactic| repeat' first | with_reducible exact pu_prim | with_reducible exact pu_ret | assumption | with_reducible (refine pu_bind ?_ ?_) | with_reducible (refine pu_cond ?_ ?_) | intro)
/-! ### methods that write a list: the list, the arguments; the answer, the new list -/
def fLm (m : List D → List D → Option (D × List D)) (eo : Ev Sl) (er : Ev (List Sl)) : Ev Sl := eo.bind fun p => (Ev.adm fun _ μ => celL p μ).bind fun _ => er.bind fun ps => (fA (datsO ps)).bind fun as => (Ev.adm fun _ μ => celL p μ).bind fun l =>
  (Ev.primM (fun _ _ => m l as) fun μ r => put μ (celI p) (.lst r.2)).bind fun r => .ret (.dat r.1)
def lmF (m : List D → List D → Option (D × List D)) : FM := fun p ps s R => onLst p s fun j l => ∃ as r, datsO ps = some as ∧ m l as = some r ∧ R (.dat r.1) { s with μ := put s.μ j (.lst r.2) }
theorem celL_on {p : Sl} {s : S} {l : List D} {k : Nat → List D → Prop} (h : celL p s.μ = some l) (w : k (celI p) l) : onLst p s k := by
  obtain ⟨j, h1, h2, h3⟩ := celL_of h
  subst h1
  show optK (nth s.μ j) _
  rw [h3]
  exact w
theorem celL_is {p : Sl} {s : S} {l : List D} (h : celL p s.μ = some l) : isLst s p := by
  obtain ⟨j, h1, h2, h3⟩ := celL_of h
  subst h1
  unfold isLst
  show match (nth s.μ j).bind MO.d? with | some (.lst _) => True | _ => False
  rw [h3]
  trivial
section
variable {X : Cx} {o e : Expr} {es : List Expr} {eo ee : Ev Sl} {er : Ev (List Sl)} {name : Str} {apos cpos : Pos} {id : String} {r : V → List V → Hp → VK → Prop} {m : List D → List D → Option (D × List D)}
theorem f_m (slot : Slot "list" name id) (hty : typeOf (.builtin id) = pure (.type "method_descriptor")) (hm : MtR X id r) (hs : MtS X.K (lmF m) r) (ho : PE X o (up X.K (wE eo))) (ha : PA X (e :: es) (upA X.K (wE er)))
    (hbase : attributeBase o name X.env (eval o X.env) = eval o X.env := by rfl)
    (hfew : ((backTo cpos (starEach (e :: es) X.env)).all (fun x => !x.1) && (backToKw cpos (keywordEach [] X.env)).all (fun x => x.1.isSome)
      && decide ((e :: es).length + ([] : List Keyword).length + (if ([] : List Keyword).isEmpty then 0 else 1) < 30)) = true := by rfl)
    (hline : (apos.endLine == cpos.line) = true := by rfl) (hst : starEach (e :: es) X.env = (false, eval e X.env) :: starEach es X.env := by rfl) (hplain : (backTo cpos (starEach es X.env)).any (·.1) = false := by rfl) :
    PE X (.Call (.Attribute o name apos) (e :: es) [] cpos) (up X.K (wE (fLm m eo er))) := pe_w (e_m slot hty hm hs ho ha hbase hfew hline hst hplain) fun s R _ h => wE_mono (wE_bind h) fun p s1 _ h => by
  obtain ⟨l, h1, h⟩ := wE_prim (wE_bind h)
  refine ⟨celL_is h1, wE_mono (wE_bind h) fun ps s2 _ h => ?_⟩
  obtain ⟨as, h2, h⟩ := wE_prim (wE_bind h)
  obtain ⟨l, h3, h⟩ := wE_prim (wE_bind h)
  obtain ⟨r, h4, h⟩ := wE_primM (wE_bind h)
  exact celL_on h3 ⟨as, r, h2, h4, wE_ret h⟩
theorem f_m0 (slot : Slot "list" name id) (hty : typeOf (.builtin id) = pure (.type "method_descriptor")) (hm : MtR X id r) (hs : MtS X.K (lmF m) r) (ho : PE X o (up X.K (wE eo)))
    (hbase : attributeBase o name X.env (eval o X.env) = eval o X.env := by rfl) (hline : (apos.endLine == cpos.line) = true := by rfl) :
    PE X (.Call (.Attribute o name apos) [] [] cpos) (up X.K (wE (fLm m eo fANil))) := pe_w (e_m0 slot hty hm hs ho hbase hline) fun s R _ h => wE_mono (wE_bind h) fun p s1 _ h => by
  obtain ⟨l, h1, h⟩ := wE_prim (wE_bind h)
  obtain ⟨q, h5, h⟩ := wE_bind h
  cases h5
  obtain ⟨as, h2, h⟩ := wE_prim (wE_bind h)
  obtain ⟨l, h3, h⟩ := wE_prim (wE_bind h)
  obtain ⟨r, h4, h⟩ := wE_primM (wE_bind h)
  exact ⟨celL_is h1, celL_on h3 ⟨as, r, h2, h4, wE_ret h⟩⟩
end
def mApp (l as : List D) : Option (D × List D) := match as with
  | [d] => gd (l.length + 1) (some (.non, l ++ [d]))
  | _ => none
def mPop (l as : List D) : Option (D × List D) := match as with
  | [] => (l[l.length - 1]?).map fun d => (d, l.dropLast)
  | _ => none
def mRev (l as : List D) : Option (D × List D) := match as with
  | [] => some (.non, l.reverse)
  | _ => none
def mIns (l as : List D) : Option (D × List D) := match as with
  | [.int i, d] => if 0 ≤ i ∧ i ≤ 100000 then gd (l.length + 1) (some (.non, l.take i.toNat ++ [d] ++ l.drop i.toNat)) else none
  | _ => none
def mExt (l as : List D) : Option (D × List D) := match as with
  | [.lst es] => gd (l.length + es.length) (some (.non, l ++ es))
  | _ => none
section
variable {K : PySem.W.Frag}
theorem mts_of {m : List D → List D → Option (D × List D)} {r : V → List V → Hp → VK → Prop} (h : ∀ (A : Amb) (as : List Addr) (s : S) (σ : L2.St) (H : Hp) (xs : List V) (es : List D) (a : Addr) (ys : List V) (l : List D) (z : D × List D) (R : Sl → S → Prop) (Q : VK), Ok K A as s σ H →
    RepL K (vw A as s.μ H) xs es → H a = some (.lst ys) → RepL K (vw A as s.μ H) ys l → m l es = some z → (∀ v us, Rep K (vw A as s.μ H) v z.1 → RepL K (vw A as s.μ H) us z.2 → Q v (upd H a (.lst us))) → r (.ref a) xs H Q) : MtS K (lmF m) r := fun A as s σ H x xs p ps R Q ok rx rs w k => by
  obtain ⟨j, a, l, ys, rfl, h1, hj, h2, h3, es, z, h4, h5, h6⟩ := onLst_of ok rx w
  obtain ⟨es', hl, e⟩ := dats_of (k := fun ds => ds = es) rs (dats_w h4 rfl)
  subst e
  exact h A as s σ H xs _ a ys l z R Q ok hl h2 h3 h5 fun v us hv hu => k.wr ok h1 hj (o' := .lst z.2) ⟨_, upd_same, hu⟩ hv h6
theorem mts_appD : MtS K (lmF mApp) rAppend := mts_of fun A as s σ H xs es a ys l z R Q ok rx ha rl hm k => by
  match es, xs, rx, hm with
  | [d], [v], .cons r .nil, hm =>
    obtain ⟨c, hm⟩ := gd_of hm
    cases hm
    exact ⟨a, ys, v, rfl, rfl, ha, by rw [rl.len]; exact c.lt, k _ _ .non (rl.append (.one r))⟩
  | [], _, _, hm => cases hm
  | _ :: _ :: _, _, _, hm => cases hm
theorem mts_popD : MtS K (lmF mPop) rPop := mts_of fun A as s σ H xs es a ys l z R Q ok rx ha rl hm k => by
  match es, xs, rx, hm with
  | [], [], .nil, hm =>
    obtain ⟨d, e, hm⟩ := map_of hm
    subst hm
    obtain ⟨v, e2, r⟩ := rl.get e
    exact ⟨a, ys, v, rfl, rfl, ha, by rw [rl.len]; exact e2, k _ _ r rl.dropLast⟩
  | _ :: _, _, _, hm => cases hm
theorem RepL.rev {F : Hp} : ∀ {ys : List V} {l : List D}, RepL K F ys l → RepL K F ys.reverse l.reverse
  | _, _, .nil => .nil
  | _, _, .cons r t => by
    rw [List.reverse_cons, List.reverse_cons]
    exact (RepL.rev t).append (.one r)
theorem mts_revD : MtS K (lmF mRev) rReverse := mts_of fun A as s σ H xs es a ys l z R Q ok rx ha rl hm k => by
  match es, xs, rx, hm with
  | [], [], .nil, hm =>
    cases hm
    exact ⟨a, ys, rfl, rfl, ha, k _ _ .non (RepL.rev rl)⟩
  | _ :: _, _, _, hm => cases hm
theorem mts_insD : MtS K (lmF mIns) (fun x vs H Q => ∃ (l : Addr) (xs : List V) (i : Int) (y : V), x = .ref l ∧ vs = [.int i, y] ∧ H l = some (.lst xs) ∧ xs.length < sizeLine ∧ 0 ≤ i ∧ i < 2 ^ 63 ∧ Q .non (upd H l (.lst (xs.take i.toNat ++ [y] ++ xs.drop i.toNat)))) := mts_of fun A as s σ H xs es a ys l z R Q ok rx ha rl hm k => by
  match es, xs, rx, hm with
  | [.int i, d], [_, v], .cons .int (.cons r .nil), hm =>
    obtain ⟨c1, hm⟩ := ite_of hm
    obtain ⟨c, hm⟩ := gd_of hm
    cases hm
    exact ⟨a, ys, i, v, rfl, rfl, ha, by rw [rl.len]; exact c.lt, c1.1, by omega, k _ _ .non (((rl.take _).append (.one r)).append (rl.drop _))⟩
  | [], _, _, hm => cases hm
  | [d], _, _, hm => cases d <;> cases hm
  | [.non, _], _, _, hm => cases hm
  | [.bl _, _], _, _, hm => cases hm
  | [.str _, _], _, _, hm => cases hm
  | [.lst _, _], _, _, hm => cases hm
  | [.tup _, _], _, _, hm => cases hm
  | [.par _, _], _, _, hm => cases hm
  | [.dic _ _, _], _, _, hm => cases hm
  | [.dct _ _, _], _, _, hm => cases hm
  | [.ins _ _ _, _], _, _, hm => cases hm
  | [.scr _, _], _, _, hm => cases hm
  | d :: _ :: _ :: _, _, _, hm => cases d <;> cases hm
theorem mts_extD : MtS K (lmF mExt) rExtend := fun A as s σ H x xs p ps R Q ok rx rs w k => by
  obtain ⟨j, a, l, ys, rfl, h1, hj, h2, h3, es, z, h4, h5, h6⟩ := onLst_of ok rx w
  match ps, xs, rs, h4 with
  | [.dat d], [v], rs, h4 =>
    cases h4
    cases d <;> first
      | (cases h5; done)
      | skip
    obtain ⟨c, hm⟩ := gd_of h5
    cases hm
    obtain ⟨b, zs, rfl, g1, g2⟩ := Rep.rdc vw_le rs.1
    exact ⟨a, b, ys, zs, rfl, rfl, h2, g1, by rw [h3.len, g2.len]; exact c.ok, k.wr ok h1 hj (o' := .lst (l ++ _)) ⟨_, upd_same, h3.append g2⟩ .non h6⟩
  | [], _, _, h4 => cases h4; cases h5
  | [.cel _], _, _, h4 => cases h4
  | [.val _], _, _, h4 => cases h4
  | .cel _ :: _ :: _, _, _, h4 => cases h4
  | .val _ :: _ :: _, _, _, h4 => cases h4
  | .dat d :: q :: qs, _, _, h4 =>
    obtain ⟨y, h7, h8⟩ := map_of (show (datsO (q :: qs)).map (d :: ·) = some es from h4)
    subst h8
    cases y with
    | nil =>
      exfalso
      cases q <;> first
        | (cases h7; done)
        | skip
      obtain ⟨_, _, h9⟩ := map_of (show (datsO qs).map _ = _ from h7)
      cases h9
    | cons y1 y2 => cases d <;> cases h5
end

/-! ### defs -/
/-- data to data -/
def fsP (m : List D → Option D) : FS := fun args μ R => ∃ ds v, args = ds.map .dat ∧ μ = [] ∧ m ds = some v ∧ R (.dat v) []
/-- .. to a new list -/
def fsF (m : List D → Option (List D)) : FS := fun args μ R => ∃ ds v, args = ds.map .dat ∧ μ = [] ∧ m ds = some v ∧ R (.cel 0) [some (.lst v)]
/-- a list that is written, and data -/
def fsB (m : List D → List D → Option (D × List D)) : FS := fun args μ R => ∃ b ds p, args = .cel 0 :: ds.map .dat ∧ μ = [some (.lst b)] ∧ m b ds = some p ∧ R (.dat p.1) [some (.lst p.2)]
def retP : Sl → S → Option D := fun r s => match r with
  | .dat d => some d
  | .cel j => (nth s.μ j).bind frzD
  | .val _ => none
def retF : Sl → S → Option (List D) := fun r s => celL r s.μ
def boxL (μ : Mu) : Option (List D) := match μ with
  | some (.lst b) :: _ => some b
  | _ => none
def retB : Sl → S → Option (D × List D) := fun r s => match r with
  | .dat d => (boxL s.μ).bind fun b => some (d, b)
  | .cel (j + 1) => ((nth s.μ (j + 1)).bind frzD).bind fun d => (boxL s.μ).bind fun b => some (d, b)
  | _ => none
theorem frzD_d {o : MO} {d : D} (h : frzD o = some d) : o.plain ∧ o.d = d := by
  cases o <;> first
    | (cases h; done)
    | (cases h; exact ⟨trivial, rfl⟩)
theorem dats_inj : ∀ {ds es : List D}, ds.map Sl.dat = es.map Sl.dat → ds = es
  | [], [], _ => rfl
  | d :: ds, e :: es, h => by
    rw [List.map_cons, List.map_cons] at h
    injection h with h1 h2
    injection h1 with h1
    rw [h1, dats_inj h2]
  | [], _ :: _, h => by cases h
  | _ :: _, [], h => by cases h
theorem out_cel {fr : Bool} {n j : Nat} {R : Sl → List (Option MO) → Prop} {s1 : S} {o : MO} (h0 : ¬ j < n) (h1 : nth s1.μ j = some o) (h : belowAll n (s1.μ.take n) ∧ o.plain ∧ if fr = true then R (.cel n) (s1.μ.take n ++ [some o]) else R (.dat o.d) (s1.μ.take n)) : out fr n R (.cel j) s1 := by
  show (if j < n then belowAll n (s1.μ.take n) ∧ R (.cel j) (s1.μ.take n) else
    optK (nth s1.μ j) fun o => belowAll n (s1.μ.take n) ∧ o.plain ∧ if fr = true then R (.cel n) (s1.μ.take n ++ [some o]) else R (.dat o.d) (s1.μ.take n))
  rw [if_neg h0, h1]
  exact h
theorem okP {m : List D → Option D} {body : EvS} {n N : Nat} (hm : ∀ ds, ds.length = n → m ds = body.run (entry N (ds.map .dat) []) (fun _ => some .non) retP) : ∀ args μ R, args.length = n → fsP m args μ R → wS body (Dn.of false μ.length R) (entry N args μ) := fun args μ R hn ⟨ds, v, h1, h2, h3, h4⟩ => by
  subst h1 h2
  rw [hm ds (by rw [← hn, List.length_map]), body.nat] at h3
  obtain ⟨o, h5, h6⟩ := bind_of h3
  refine ⟨o, h5, ?_⟩
  cases o with
  | nx s1 =>
    cases h6
    exact ⟨trivial, h4⟩
  | rt r s1 =>
    cases r with
    | dat d =>
      cases h6
      exact ⟨trivial, h4⟩
    | val u => cases h6
    | cel j =>
      obtain ⟨o, h7, h8⟩ := bind_of (show (nth s1.μ j).bind frzD = some v from h6)
      obtain ⟨h9, h10⟩ := frzD_d h8
      refine out_cel (Nat.not_lt_zero _) h7 ⟨trivial, h9, ?_⟩
      rw [if_neg Bool.false_ne_true, h10]
      exact h4
theorem okF {m : List D → Option (List D)} {body : EvS} {n N : Nat} (hm : ∀ ds, ds.length = n → m ds = body.run (entry N (ds.map .dat) []) (fun _ => none) retF) : ∀ args μ R, args.length = n → fsF m args μ R → wS body (Dn.of true μ.length R) (entry N args μ) := fun args μ R hn ⟨ds, v, h1, h2, h3, h4⟩ => by
  subst h1 h2
  rw [hm ds (by rw [← hn, List.length_map]), body.nat] at h3
  obtain ⟨o, h5, h6⟩ := bind_of h3
  refine ⟨o, h5, ?_⟩
  cases o with
  | nx s1 => cases h6
  | rt r s1 =>
    obtain ⟨j, h7, h8, h9⟩ := celL_of (show celL r s1.μ = some v from h6)
    subst h7
    refine out_cel (Nat.not_lt_zero _) h9 ⟨trivial, trivial, ?_⟩
    rw [if_pos rfl]
    exact h4
theorem boxL_of {μ : Mu} {b : List D} (h : boxL μ = some b) : μ.take 1 = [some (.lst b)] := by
  match μ, h with
  | some (.lst c) :: _, h => cases h; rfl
  | [], h => cases h
  | none :: _, h => cases h
  | some (.dic _ _) :: _, h => cases h
  | some (.dct _ _) :: _, h => cases h
  | some (.ins _ _) :: _, h => cases h
theorem okB {m : List D → List D → Option (D × List D)} {body : EvS} {n N : Nat} (hm : ∀ b ds, ds.length + 1 = n → m b ds = body.run (entry N (.cel 0 :: ds.map .dat) [some (.lst b)]) (fun s => retB (.dat .non) s) retB) : ∀ args μ R, args.length = n → fsB m args μ R → wS body (Dn.of false μ.length R) (entry N args μ) := fun args μ R hn ⟨b, ds, p, h1, h2, h3, h4⟩ => by
  subst h1 h2
  rw [hm b ds (by rw [← hn, List.length_cons, List.length_map]), body.nat] at h3
  obtain ⟨o, h5, h6⟩ := bind_of h3
  refine ⟨o, h5, ?_⟩
  have fin : ∀ (d : D) (s1 : S), retB (.dat d) s1 = some p → out false 1 R (.dat d) s1 := fun d s1 h => by
    obtain ⟨c, h7, h8⟩ := bind_of h
    cases h8
    show belowAll 1 (s1.μ.take 1) ∧ R (.dat d) (s1.μ.take 1)
    rw [boxL_of h7]
    exact ⟨⟨trivial, trivial⟩, h4⟩
  cases o with
  | nx s1 => exact fin _ s1 h6
  | rt r s1 =>
    cases r with
    | dat d => exact fin d s1 h6
    | val u => cases h6
    | cel j =>
      cases j with
      | zero => cases h6
      | succ j =>
        obtain ⟨d, h7, h8⟩ := bind_of (show ((nth s1.μ (j + 1)).bind frzD).bind _ = some p from h6)
        obtain ⟨o, h9, h10⟩ := bind_of h7
        obtain ⟨c, h11, h12⟩ := bind_of h8
        cases h12
        obtain ⟨h13, h14⟩ := frzD_d h10
        have e1 := boxL_of h11
        refine out_cel (n := 1) (by omega) h9 ⟨?_, h13, ?_⟩
        · rw [e1]
          exact ⟨trivial, trivial⟩
        · rw [if_neg Bool.false_ne_true, h14, e1]
          exact h4
/-- a def known by its function -/
structure GP (P : Program) (w : World) (K : PySem.W.Frag) (mg : Str → Option Value) (base : Heap) (x : Str) (k n : Nat) (m : List D → Option D) : Prop where
  fn : FnK P w K mg base x k n (fsP m)
  ln : ∀ ds v, m ds = some v → ds.length = n
structure GF (P : Program) (w : World) (K : PySem.W.Frag) (mg : Str → Option Value) (base : Heap) (x : Str) (k n : Nat) (m : List D → Option (List D)) : Prop where
  fn : FnK P w K mg base x k n (fsF m)
  ln : ∀ ds v, m ds = some v → ds.length = n
structure GB (P : Program) (w : World) (K : PySem.W.Frag) (mg : Str → Option Value) (base : Heap) (x : Str) (k n : Nat) (m : List D → List D → Option (D × List D)) : Prop where
  fn : FnK P w K mg base x k n (fsB m)
  ln : ∀ b ds v, m b ds = some v → ds.length + 1 = n
def fCallP (m : List D → Option D) (er : Ev (List Sl)) : Ev Sl := er.bind fun ps => (fA (datsO ps)).bind fun ds => (fO (m ds)).bind fun v => .ret (.dat v)
/-- .. its new list to be written, or as data -/
def fCallF (m : List D → Option (List D)) (er : Ev (List Sl)) : Ev Sl := er.bind fun ps => (fA (datsO ps)).bind fun ds => (fO (m ds)).bind fun v => .alloc (.lst v)
def fCallFD (m : List D → Option (List D)) (er : Ev (List Sl)) : Ev Sl := er.bind fun ps => (fA (datsO ps)).bind fun ds => (fO (m ds)).bind fun v => .ret (.dat (.lst v))
def boxO (i : Nat) : List Sl → Option (List D)
  | .cel j :: rs => cond (Nat.beq j i) (datsO rs) none
  | _ => none
def fCallB (i : Nat) (m : List D → List D → Option (D × List D)) (er : Ev (List Sl)) : Ev Sl := er.bind fun ps => (fA (boxO i ps)).bind fun ds => (Ev.adm fun _ μ => celL (.cel i) μ).bind fun b => (Ev.primM (fun _ _ => m b ds) fun μ p => put μ i (.lst p.2)).bind fun p => .ret (.dat p.1)
instance {m : List D → Option D} {er : Ev (List Sl)} [Pu er] : Pu (fCallP m er) := by unfold fCallP; walk_at "pu"
instance {m : List D → Option (List D)} {er : Ev (List Sl)} [Pu er] : Pu (fCallFD m er) := by unfold fCallFD; walk_at "pu"
theorem datsO_of : ∀ {ps : List Sl} {ds : List D}, datsO ps = some ds → ps = ds.map Sl.dat
  | [], _, h => by cases h; rfl
  | .dat d :: ps, _, h => by
    obtain ⟨es, h1, h2⟩ := map_of (show (datsO ps).map (d :: ·) = some _ from h)
    subst h2
    rw [datsO_of h1]
    rfl
  | .cel _ :: _, _, h => by cases h
  | .val _ :: _, _, h => by cases h
theorem noCel_dats : ∀ ds : List D, noCel (ds.map Sl.dat)
  | [] => trivial
  | _ :: ds => noCel_dats ds
theorem toC_dats {i : Nat} : ∀ (ds : List D) {k : List Sl → Prop}, k (ds.map Sl.dat) → toC i (ds.map Sl.dat) k
  | [], _, h => h
  | d :: ds, k, h => toC_dats ds (k := fun qs => k (.dat d :: qs)) h
section
variable {X : Cx} {x : Str} {e : Expr} {es : List Expr} {p pos : Pos} {er : Ev (List Sl)} {k n : Nat} {m : List D → Option D} {mf : List D → Option (List D)} {mb : List D → List D → Option (D × List D)}
theorem f_call (G : GP X.prog X.w X.K X.mg X.base x k n m) (hr : Room k X.A) (hg : Gl X x) (ha : PA X (e :: es) (upA X.K (wE er))) (hdb : (x == ("__debug__" : Str)) = false := by decide) (he : starEach (e :: es) X.env = (false, eval e X.env) :: starEach es X.env := by rfl)
    (hpl : (backTo pos (starEach es X.env)).any (·.1) = false := by rfl) : PE X (.Call (.Name x p) (e :: es) [] pos) (up X.K (wE (fCallP m er))) := pe_w (e_call G.fn hr hg ha hdb he hpl) fun s R _ h => wE_mono (wE_bind h) fun ps s1 _ h => by
  obtain ⟨ds, h1, h⟩ := wE_prim (wE_bind h)
  obtain ⟨v, h2, h⟩ := wE_prim (wE_bind h)
  rw [datsO_of h1]
  refine ⟨by rw [List.length_map]; exact G.ln ds v h2, noCel_dats ds, ds, v, rfl, rfl, h2, trivial, ?_⟩
  have := wE_ret h
  show R (.dat v) ⟨s1.Γ, s1.μ ++ []⟩
  rw [List.append_nil]
  exact this
theorem f_callF (G : GF X.prog X.w X.K X.mg X.base x k n mf) (hr : Room k X.A) (hg : Gl X x) (ha : PA X (e :: es) (upA X.K (wE er))) (hdb : (x == ("__debug__" : Str)) = false := by decide) (he : starEach (e :: es) X.env = (false, eval e X.env) :: starEach es X.env := by rfl)
    (hpl : (backTo pos (starEach es X.env)).any (·.1) = false := by rfl) : PE X (.Call (.Name x p) (e :: es) [] pos) (up X.K (wE (fCallF mf er))) := pe_w (e_call G.fn hr hg ha hdb he hpl) fun s R _ h => wE_mono (wE_bind h) fun ps s1 _ h => by
  obtain ⟨ds, h1, h⟩ := wE_prim (wE_bind h)
  obtain ⟨v, h2, h⟩ := wE_prim (wE_bind h)
  rw [datsO_of h1]
  exact ⟨by rw [List.length_map]; exact G.ln ds v h2, noCel_dats ds, ds, v, rfl, rfl, h2, ⟨trivial, trivial⟩, wE_alloc h⟩
theorem f_callFD [pr : Pu er] (G : GF X.prog X.w X.K X.mg X.base x k n mf) (hr : Room k X.A) (hg : Gl X x) (ha : PA X (e :: es) (upA X.K (wE er))) (hdb : (x == ("__debug__" : Str)) = false := by decide) (he : starEach (e :: es) X.env = (false, eval e X.env) :: starEach es X.env := by rfl)
    (hpl : (backTo pos (starEach es X.env)).any (·.1) = false := by rfl) : PE X (.Call (.Name x p) (e :: es) [] pos) (up X.K (wE (fCallFD mf er))) := pe_w (e_frz (e_call G.fn hr hg ha hdb he hpl)) fun s R bl h =>
  show wE er s (fun ps s1 => callP n (fsF mf) ps s1 fun r s2 => frz s r s2 R) from wE_mono (wE_pu (wE_bind h)) fun ps s1 _ ⟨e1, h'⟩ => by
    clear h
    subst e1
    obtain ⟨ds, h1, h3⟩ := wE_prim (wE_bind h')
    obtain ⟨v, h2, h4⟩ := wE_prim (wE_bind h3)
    rw [datsO_of h1]
    exact ⟨by rw [List.length_map]; exact G.ln ds v h2, noCel_dats ds, ds, v, rfl, rfl, h2, ⟨trivial, trivial⟩, frz_new rfl bl.all (wE_ret h4)⟩
theorem f_callB (i : Nat) (G : GB X.prog X.w X.K X.mg X.base x k n mb) (hr : Room k X.A) (hg : Gl X x) (ha : PA X (e :: es) (upA X.K (wE er))) (hdb : (x == ("__debug__" : Str)) = false := by decide) (he : starEach (e :: es) X.env = (false, eval e X.env) :: starEach es X.env := by rfl)
    (hpl : (backTo pos (starEach es X.env)).any (·.1) = false := by rfl) : PE X (.Call (.Name x p) (e :: es) [] pos) (up X.K (wE (fCallB i mb er))) := pe_w (e_callB i G.fn hr hg ha hdb he hpl) fun s R _ h => wE_mono (wE_bind h) fun ps s1 _ h => by
  obtain ⟨ds, h1, h⟩ := wE_prim (wE_bind h)
  obtain ⟨b, h2, h⟩ := wE_prim (wE_bind h)
  obtain ⟨v, h3, h⟩ := wE_primM (wE_bind h)
  have hR := wE_ret h
  have hps : ps = .cel i :: ds.map Sl.dat := by
    match ps, h1 with
    | .cel j :: rs, h1 =>
      have h1 : cond (Nat.beq j i) (datsO rs) none = some ds := h1
      cases e : Nat.beq j i with
      | false => rw [e] at h1; cases h1
      | true =>
        rw [e] at h1
        rw [datsO_of h1, Nat.eq_of_beq_eq_true e]
    | [], h1 => cases h1
    | .dat _ :: _, h1 => cases h1
    | .val _ :: _, h1 => cases h1
  subst hps
  obtain ⟨j, q1, q2, q3⟩ := celL_of h2
  cases q1
  refine ⟨by rw [List.length_cons, List.length_map]; exact G.ln b ds v h3, ?_⟩
  show optK (nth s1.μ i) _
  rw [q3]
  exact ⟨trivial, rfl, toC_dats ds ⟨b, ds, v, rfl, rfl, h3, trivial, hR⟩⟩
end
end Ge
namespace Ge
open PySem PySem.Spec PyProof.Rows L2 Gd
local macro_rules | `(tactic| walk_at "pu") => `(tactic| repeat' first | with_reducible exact pu_prim | with_reducible exact pu_ret | assumption | with_reducible (refine pu_bind ?_ ?_) | with_reducible (refine pu_cond ?_ ?_) | intro)
/-! ### one way behind several, with what is written -/
def Ev.joinB (cs : List CK) (f : Ev Sl) : Ev Sl := ⟨fun Γ μ k => (f.run Γ μ fun r μ1 => (datO r).bind fun d => (getX cs μ1).bind fun c => some (d, c)).bind fun p => k (.dat p.1) (putC cs p.2), fun Γ μ => (f.run Γ μ fun r μ1 => (datO r).bind fun d => (getX cs μ1).bind fun c => some (d, c)).bind fun p => some (.dat p.1, putC cs p.2), fun Γ μ k => by
  rw [Option.bind_assoc]
  rfl⟩
def Ev.joinT (cs : List CK) (f : Ev Bool) : Ev Bool := ⟨fun Γ μ k => (f.run Γ μ fun r μ1 => (getX cs μ1).bind fun c => some (r, c)).bind fun p => k p.1 (putC cs p.2), fun Γ μ => (f.run Γ μ fun r μ1 => (getX cs μ1).bind fun c => some (r, c)).bind fun p => some (p.1, putC cs p.2), fun Γ μ k => by
  rw [Option.bind_assoc]
  rfl⟩
theorem wE_joinB {cs : List CK} {f : Ev Sl} {s : S} {R : Sl → S → Prop} (h : wE (f.joinB cs) s R) : wE f s R := by
  obtain ⟨p, h1, h2⟩ := h
  obtain ⟨q, h3, h4⟩ := bind_of h1
  cases h4
  rw [f.nat] at h3
  obtain ⟨r, h5, h6⟩ := bind_of h3
  obtain ⟨d, h7, h8⟩ := bind_of h6
  obtain ⟨c, h9, h10⟩ := bind_of h8
  cases h10
  refine ⟨r, h5, ?_⟩
  rw [datO_of h7, ← getX_put h9]
  exact h2
theorem wE_joinT {cs : List CK} {f : Ev Bool} {s : S} {R : Bool → S → Prop} (h : wE (f.joinT cs) s R) : wE f s R := by
  obtain ⟨p, h1, h2⟩ := h
  obtain ⟨q, h3, h4⟩ := bind_of h1
  cases h4
  rw [f.nat] at h3
  obtain ⟨r, h5, h6⟩ := bind_of h3
  obtain ⟨c, h9, h10⟩ := bind_of h6
  cases h10
  refine ⟨r, h5, ?_⟩
  rw [← getX_put h9]
  exact h2
def fYes : Ev Bool := .ret true
instance : Pu fYes := by unfold fYes; exact pu_ret
section
variable {X : Cx} {a b e : Expr} {es : List Expr} {ea eb ee : Ev Sl} {t : Ev Bool} {pos p p1 p2 p3 pt : Pos} {x : Str}
theorem f_joinB (cs : List CK) {f : Ev Sl} (h : PE X e (up X.K (wE f))) : PE X e (up X.K (wE (f.joinB cs))) := pe_w h fun _ _ _ z => wE_joinB z
theorem f_joinT (cs : List CK) {f : Ev Bool} (h : PT X e (upT X.K (wE f))) : PT X e (upT X.K (wE (f.joinT cs))) := pt_w h fun _ _ _ z => wE_joinT z
theorem pts_w {w : WT} {f : Ev Bool} (h : PTs X es (upT X.K w)) (i : ∀ s R, Bel s → wE f s R → w s R) : PTs X es (upT X.K (wE f)) := ⟨fun pins s σ H Q I ⟨A, as, st, R, ok, z, k⟩ => h.run pins s σ H Q I ⟨A, as, st, R, ok, i st R (bel_of ok) z, k⟩⟩
theorem fts_nil : PTs X [] (upT X.K (wE fYes)) := pts_w ts_nil fun _ _ _ h => wE_ret h
theorem fts_one (h : PT X e (upT X.K (wE t))) : PTs X [e] (upT X.K (wE t)) := ts_one h
/-! isinstance -/
instance (d : D) : Decidable (tyable d) := by cases d <;> first | exact .isTrue trivial | exact .isFalse id
def tyO (Ts : List String) (d : D) : Option Bool := if tyable d then some (isAny d Ts) else none
def tyO1 (T : String) (d : D) : Option Bool := if tyable d then some (isTy d T) else none
def fIs (o : D → Option Bool) (ea : Ev Sl) : Ev Bool := ea.bind fun p => (fRd p).bind fun d => fO (o d)
instance {o : D → Option Bool} [Pu ea] : Pu (fIs o ea) := by unfold fIs; walk_at "pu"
theorem f_isi (T : String) (hT : kT T) (hg : Gl X "isinstance") (hm : X.mg "isinstance" = none) (ha : PE X a (up X.K (wE ea))) (hgT : Gl X (Str.ofString T)) (hmT : X.mg (Str.ofString T) = none) (hv : bootBuiltins (Str.ofString T) = some (.type T)) (hn : Str.ofString T ≠ "__name__" := by decide) (hd : (Str.ofString T == ("__debug__" : Str)) = false := by decide)
    (he : starEach [a, .Name (Str.ofString T) pt] X.env = (false, eval a X.env) :: starEach [.Name (Str.ofString T) pt] X.env := by rfl) (he2 : starEach [.Name (Str.ofString T) pt] X.env = [(false, eval (.Name (Str.ofString T) pt) X.env)] := by rfl)
    (hpl : (backTo pos (starEach [.Name (Str.ofString T) pt] X.env)).any (·.1) = false := by rfl) : PE X (.Call (.Name "isinstance" p) [a, .Name (Str.ofString T) pt] [] pos) (up X.K (wE (fB (fIs (tyO1 T) ea)))) := pe_w (e_isi T hT hg hm ha hgT hmT hv hn hd he he2 hpl) fun s R _ h => wE_mono (wE_bind (wE_bind h)) fun q s1 _ h => by
  obtain ⟨d, h1, h⟩ := wE_prim (wE_bind h)
  obtain ⟨z, h2, h⟩ := wE_prim h
  obtain ⟨c, h3⟩ := ite_of h2
  cases h3
  show optK (rd s1 q) _
  rw [h1]
  exact ⟨c, wE_ret h⟩
theorem f_isi2 {k : Nat} (T1 T2 : String) (hT1 : kT T1) (hT2 : kT T2) (hg : Gl X "isinstance") (hm : X.mg "isinstance" = none) (ha : PE X a (up X.K (wE ea)))
    (hg1 : Gl X (Str.ofString T1)) (hm1 : X.mg (Str.ofString T1) = none) (hv1 : bootBuiltins (Str.ofString T1) = some (.type T1)) (hg2 : Gl X (Str.ofString T2)) (hm2 : X.mg (Str.ofString T2) = none) (hv2 : bootBuiltins (Str.ofString T2) = some (.type T2))
    (hn1 : Str.ofString T1 ≠ "__name__" := by decide) (hd1 : (Str.ofString T1 == ("__debug__" : Str)) = false := by decide) (hn2 : Str.ofString T2 ≠ "__name__" := by decide) (hd2 : (Str.ofString T2 == ("__debug__" : Str)) = false := by decide)
    (he : starEach [a, .Tuple [.Name (Str.ofString T1) p1, .Name (Str.ofString T2) p2] k p3] X.env = (false, eval a X.env) :: starEach [.Tuple [.Name (Str.ofString T1) p1, .Name (Str.ofString T2) p2] k p3] X.env := by rfl)
    (he2 : starEach [.Tuple [.Name (Str.ofString T1) p1, .Name (Str.ofString T2) p2] k p3] X.env = [(false, eval (.Tuple [.Name (Str.ofString T1) p1, .Name (Str.ofString T2) p2] k p3) X.env)] := by rfl)
    (he3 : starEach [.Name (Str.ofString T1) p1, .Name (Str.ofString T2) p2] X.env = (false, eval (.Name (Str.ofString T1) p1) X.env) :: starEach [.Name (Str.ofString T2) p2] X.env := by rfl) (he4 : starEach [.Name (Str.ofString T2) p2] X.env = [(false, eval (.Name (Str.ofString T2) p2) X.env)] := by rfl)
    (hpl : (backTo pos (starEach [.Tuple [.Name (Str.ofString T1) p1, .Name (Str.ofString T2) p2] k p3] X.env)).any (·.1) = false := by rfl) :
    PE X (.Call (.Name "isinstance" p) [a, .Tuple [.Name (Str.ofString T1) p1, .Name (Str.ofString T2) p2] k p3] [] pos) (up X.K (wE (fB (fIs (tyO [T1, T2]) ea)))) := pe_w (e_isi2 T1 T2 hT1 hT2 hg hm ha hg1 hm1 hv1 hg2 hm2 hv2 hn1 hd1 hn2 hd2 he he2 he3 he4 hpl) fun s R _ h => wE_mono (wE_bind (wE_bind h)) fun q s1 _ h => by
  obtain ⟨d, h1, h⟩ := wE_prim (wE_bind h)
  obtain ⟨z, h2, h⟩ := wE_prim h
  obtain ⟨c, h3⟩ := ite_of h2
  cases h3
  show optK (rd s1 q) _
  rw [h1]
  exact ⟨c, wE_ret h⟩
/-- a truth that a test asks -/
def isBO : D → Option Bool
  | .bl b => some b
  | _ => none
/-! new lists that will be written -/
def fUC (o : D → Option (List D)) (ea : Ev Sl) : Ev Sl := ea.bind fun p => (fRd p).bind fun d => (fO (o d)).bind fun z => .alloc (.lst z)
def fOpC (o : D → D → Option (List D)) (ea eb : Ev Sl) : Ev Sl := ea.bind fun p => eb.bind fun q => (fRd p).bind fun d => (fRd q).bind fun e => (fO (o d e)).bind fun z => .alloc (.lst z)
theorem f_listC (hg : Gl X "list") (hm : X.mg "list" = none) (ha : PE X e (up X.K (wE ee))) (he : starEach [e] X.env = (false, eval e X.env) :: starEach [] X.env := by rfl) (hpl : (backTo pos (starEach [] X.env)).any (·.1) = false := by rfl) : PE X (.Call (.Name "list" p) [e] [] pos) (up X.K (wE (fUC sqD ee))) :=
  pe_w (e_ct call_list_of cbs_list hg hm boot_list (a_cons ha a_nil he) (by decide) (by decide) he hpl) fun s R _ h => show wE ee s (fun p s1 => listF [p] s1 R) from wE_mono (wE_bind h) fun p s1 _ h => by
    obtain ⟨d, h1, h5⟩ := wE_prim (wE_bind h)
    obtain ⟨z, h2, h6⟩ := wE_prim (wE_bind h5)
    have h7 := wE_alloc h6
    clear h h5 h6
    show optK (rd s1 p) _
    rw [h1]
    cases d <;> first
      | (cases h2; done)
      | (cases h2; exact h7)
def addC : D → D → Option (List D)
  | .lst xs, .lst ys => gd (xs.length + ys.length) (some (xs ++ ys))
  | _, _ => none
def mulC : D → D → Option (List D)
  | .lst xs, .int j => if -(2 ^ 63) ≤ j ∧ j < 2 ^ 63 then gd (xs.length * j.toNat) (some (reps j xs)) else none
  | _, _ => none
theorem f_addC (ha : PE X a (up X.K (wE ea))) (hb : PE X b (up X.K (wE eb))) : PE X (.BinOp a .Add b pos) (up X.K (wE (fOpC addC ea eb))) := pe_w (e_op op_addAll ops_add ha hb) fun s R _ h => wE_mono (wE_bind h) fun p s1 _ h => wE_mono (wE_bind h) fun q s2 _ h => by
  obtain ⟨d, h1, h5⟩ := wE_prim (wE_bind h)
  obtain ⟨e, h2, h6⟩ := wE_prim (wE_bind h5)
  obtain ⟨z, h3, h7⟩ := wE_prim (wE_bind h6)
  have h8 := wE_alloc h7
  clear h h5 h6 h7
  refine two_mk h1 h2 ?_
  cases d <;> cases e <;> first
    | (cases h3; done)
    | skip
  obtain ⟨c, h4⟩ := gd_of h3
  cases h4
  exact ⟨c, h8⟩
theorem f_mulC (ha : PE X a (up X.K (wE ea))) (hb : PE X b (up X.K (wE eb))) : PE X (.BinOp a .Mult b pos) (up X.K (wE (fOpC mulC ea eb))) := pe_w (e_op op_mulAll ops_mul ha hb) fun s R _ h => wE_mono (wE_bind h) fun p s1 _ h => wE_mono (wE_bind h) fun q s2 _ h => by
  obtain ⟨d, h1, h5⟩ := wE_prim (wE_bind h)
  obtain ⟨e, h2, h6⟩ := wE_prim (wE_bind h5)
  obtain ⟨z, h3, h7⟩ := wE_prim (wE_bind h6)
  have h8 := wE_alloc h7
  clear h h5 h6 h7
  refine two_mk h1 h2 ?_
  cases d <;> cases e <;> first
    | (cases h3; done)
    | skip
  obtain ⟨c0, h4⟩ := ite_of h3
  obtain ⟨c, h5⟩ := gd_of h4
  cases h5
  exact ⟨⟨c0.1, c0.2, c⟩, h8⟩
def slC (lo hi : Option Int) : D → Option (List D)
  | .lst ds => some (Gd.cutD ds lo hi)
  | .scr ds => some (Gd.cutD ds lo hi)
  | _ => none
def fSlC (ee : Ev Sl) (ol oh : Ev (Option Int)) : Ev Sl := ee.bind fun p => ol.bind fun l => oh.bind fun u => (fRd p).bind fun d => (fO (slC l u d)).bind fun z => .alloc (.lst z)
theorem f_slC {lo hi : Option Expr} {ol oh : Ev (Option Int)} (he : PE X e (up X.K (wE ee))) (hl : PO X lo (upO X.K (wE ol))) (hu : PO X hi (upO X.K (wE oh))) : PE X (.Subscript e (.Slice lo hi none p2) pos) (up X.K (wE (fSlC ee ol oh))) := pe_w (e_sl he hl hu) fun s R _ h =>
  wE_mono (wE_bind h) fun p s1 _ h => wE_mono (wE_bind h) fun l s2 _ h => wE_mono (wE_bind h) fun u s3 _ h => by
    obtain ⟨d, h1, h5⟩ := wE_prim (wE_bind h)
    obtain ⟨z, h2, h6⟩ := wE_prim (wE_bind h5)
    have h7 := wE_alloc h6
    clear h h5 h6
    show optK (rd s3 p) _
    rw [h1]
    cases d <;> first
      | (cases h2; done)
      | (cases h2; exact h7)
end
theorem GP.mono {P : Program} {w : World} {K : PySem.W.Frag} {mg : Str → Option Value} {base : Heap} {x : Str} {j k n : Nat} {m : List D → Option D} (G : GP P w K mg base x j n m) (h : j ≤ k) : GP P w K mg base x k n m := ⟨G.fn.mono h, G.ln⟩
theorem GF.mono {P : Program} {w : World} {K : PySem.W.Frag} {mg : Str → Option Value} {base : Heap} {x : Str} {j k n : Nat} {m : List D → Option (List D)} (G : GF P w K mg base x j n m) (h : j ≤ k) : GF P w K mg base x k n m := ⟨G.fn.mono h, G.ln⟩
theorem GB.mono {P : Program} {w : World} {K : PySem.W.Frag} {mg : Str → Option Value} {base : Heap} {x : Str} {j k n : Nat} {m : List D → List D → Option (D × List D)} (G : GB P w K mg base x j n m) (h : j ≤ k) : GB P w K mg base x k n m := ⟨G.fn.mono h, G.ln⟩
theorem len0 (ds : List D) (h : ds.length = 0) : ds = [] := List.length_eq_zero_iff.mp h
theorem len1 (ds : List D) (h : ds.length = 1) : ∃ x0 : D, ds = [x0] := match ds, h with
  | [x0], _ => ⟨x0, rfl⟩
theorem len2 (ds : List D) (h : ds.length = 2) : ∃ x0 x1 : D, ds = [x0, x1] := match ds, h with
  | [x0, x1], _ => ⟨x0, x1, rfl⟩
theorem len3 (ds : List D) (h : ds.length = 3) : ∃ x0 x1 x2 : D, ds = [x0, x1, x2] := match ds, h with
  | [x0, x1, x2], _ => ⟨x0, x1, x2, rfl⟩
theorem len4 (ds : List D) (h : ds.length = 4) : ∃ x0 x1 x2 x3 : D, ds = [x0, x1, x2, x3] := match ds, h with
  | [x0, x1, x2, x3], _ => ⟨x0, x1, x2, x3, rfl⟩
theorem len5 (ds : List D) (h : ds.length = 5) : ∃ x0 x1 x2 x3 x4 : D, ds = [x0, x1, x2, x3, x4] := match ds, h with
  | [x0, x1, x2, x3, x4], _ => ⟨x0, x1, x2, x3, x4, rfl⟩
theorem len6 (ds : List D) (h : ds.length = 6) : ∃ x0 x1 x2 x3 x4 x5 : D, ds = [x0, x1, x2, x3, x4, x5] := match ds, h with
  | [x0, x1, x2, x3, x4, x5], _ => ⟨x0, x1, x2, x3, x4, x5, rfl⟩
theorem len7 (ds : List D) (h : ds.length = 7) : ∃ x0 x1 x2 x3 x4 x5 x6 : D, ds = [x0, x1, x2, x3, x4, x5, x6] := match ds, h with
  | [x0, x1, x2, x3, x4, x5, x6], _ => ⟨x0, x1, x2, x3, x4, x5, x6, rfl⟩
theorem len8 (ds : List D) (h : ds.length = 8) : ∃ x0 x1 x2 x3 x4 x5 x6 x7 : D, ds = [x0, x1, x2, x3, x4, x5, x6, x7] := match ds, h with
  | [x0, x1, x2, x3, x4, x5, x6, x7], _ => ⟨x0, x1, x2, x3, x4, x5, x6, x7, rfl⟩
end Ge
namespace Ge
open PySem PySem.Spec PyProof.Rows L2 Gd
/-! ### dicts by comprehension -/
def dcW (vs : List Nat) (g : WG) (wt : WT) (wk wv : WE) (Γ : List (Option Sl)) : List D → List Key × List D → List (Option MO) → (List Key × List D → List (Option MO) → Prop) → Prop
  | [], acc, μ, R => R acc μ
  | x :: xs, acc, μ, R => g (.dat x) ⟨wip Γ vs, μ⟩ fun s1 => wt s1 fun b s2 =>
    if b = true then wk s2 fun r s3 => wv s3 fun q s4 => match r, q with
      | .dat kd, .dat d => ∃ k, kO kd = some k ∧ sz (acc.1.length + 1) ∧ dcW vs g wt wk wv Γ xs (dput acc.1 acc.2 k d) s4.μ R
      | _, _ => False
    else dcW vs g wt wk wv Γ xs acc s2.μ R
def wDc (wi : WI) (g : WG) (wt : WT) (wk wv : WE) (vs : List Nat) : WE := fun s R => wi s fun ds s1 => dcW vs g wt wk wv s1.Γ ds ([], []) s1.μ fun acc μ => nw (.dic acc.1 acc.2) ⟨s1.Γ, μ⟩ R
section
variable {K : PySem.W.Frag} {A : Amb} {as as' : List Addr} {s s' : S} {σ : L2.St} {H H' F F' : Hp} {d : Addr} {μ : List (Option MO)}
/-- .. and is there -/
theorem adoptO {G : Hp} {o : MO} (ok : Ok K (A.hide d G F) as s σ H) (hA : ∀ a, A.M0 a → A.H0 a ≠ none ∧ H a = A.H0 a) (hp : Le A.pin F) (hx : MemO K (vw (A.hide d G F) as s.μ H) as H d o) (hnew : A.He d = none) (hdM : ¬ A.M0 d) :
    vw A (as ++ [d]) (s.μ ++ [some o]) H = vw (A.hide d G F) as s.μ H ∧ Ok K A (as ++ [d]) ⟨s.Γ, s.μ ++ [some o]⟩ σ H ∧ (as ++ [d])[s.μ.length]? = some d := by
  have hdn : H d ≠ none := hx.some
  have np : d ∉ as := fun z => ok.dj d z (.inl rfl)
  have pre : as <+: as ++ [d] := List.prefix_append _ _
  have hlast : (as ++ [d])[s.μ.length]? = some d := by
    rw [← ok.len, List.getElem?_append_right (Nat.le_refl _), Nat.sub_self]
    rfl
  have hh : ∀ a, hid A (as ++ [d]) (s.μ ++ [some o]) a ↔ hid (A.hide d G F) as s.μ a := fun a => by
    constructor
    · rintro (h | ⟨i, o2, h1, h2⟩)
      · exact .inl (.inr h)
      · by_cases hi : i < as.length
        · rw [List.getElem?_append_left hi] at h1
          rw [List.getElem?_append_left (by rw [← ok.len]; exact hi)] at h2
          exact .inr ⟨i, o2, h1, h2⟩
        · rw [List.getElem?_append_right (by omega)] at h1
          cases e : i - as.length with
          | zero =>
            rw [e] at h1
            exact .inl (.inl (Option.some.inj h1).symm)
          | succ n =>
            rw [e] at h1
            cases h1
    · rintro ((h | h) | ⟨i, o2, h1, h2⟩)
      · subst h
        refine .inr ⟨s.μ.length, o, hlast, ?_⟩
        rw [List.getElem?_append_right (Nat.le_refl _), Nat.sub_self]
        rfl
      · exact .inl h
      · refine .inr ⟨i, o2, pre_get pre h1, ?_⟩
        rw [List.getElem?_append_left (List.getElem?_eq_some_iff.mp h2).1]
        exact h2
  have ev : vw A (as ++ [d]) (s.μ ++ [some o]) H = vw (A.hide d G F) as s.μ H := by
    funext a
    by_cases h : hid (A.hide d G F) as s.μ a
    · rw [vw_yes h, vw_yes ((hh a).mpr h)]
    · rw [vw_no h, vw_no fun z => h ((hh a).mp z)]
  refine ⟨ev, ⟨?_, ?_, fun a ha => ?_, fun a ha => ?_, hA, by rw [ev]; exact hp.trans ok.pin, fun i r h => ?_, fun i a o2 h1 h2 => ?_, ok.ln, fun a ha => ?_, ok.he⟩, hlast⟩
  · show (as ++ [d]).length = (s.μ ++ [some o]).length
    rw [List.length_append, List.length_append, ok.len]
    rfl
  · exact List.nodup_append.mpr ⟨ok.nd, by simp, fun x hx y hy e => by
      have : y = d := by simpa using hy
      exact np (this ▸ e ▸ hx)⟩
  · rcases List.mem_append.mp ha with ha | ha
    · exact fun z => ok.dj a ha (.inr z)
    · rw [show a = d by simpa using ha]
      exact hdM
  · rcases List.mem_append.mp ha with ha | ha
    · exact ok.tr a ha
    · rw [show a = d by simpa using ha]
      exact hdn
  · show ∃ v : V, σ[i]? = some (some v) ∧ RepS K (vw A (as ++ [d]) (s.μ ++ [some o]) H) (as ++ [d]) v r
    rw [ev]
    obtain ⟨v, h1, h2⟩ := ok.env i r h
    exact ⟨v, h1, h2.mono (Le.refl _) pre⟩
  · show MemO K (vw A (as ++ [d]) (s.μ ++ [some o]) H) (as ++ [d]) H a o2
    rw [ev]
    by_cases hi : i < as.length
    · rw [List.getElem?_append_left hi] at h1
      have h2' : s.μ[i]? = some (some o2) := by
        rw [← List.getElem?_append_left (l₂ := [some o]) (by rw [← ok.len]; exact hi)]
        exact h2
      exact (ok.mem i a o2 h1 h2').mono (Le.refl _) pre rfl
    · rw [List.getElem?_append_right (by omega)] at h1
      cases e : i - as.length with
      | zero =>
        rw [e] at h1
        have h2' : (s.μ ++ [some o])[i]? = some (some o2) := h2
        rw [List.getElem?_append_right (by rw [← ok.len]; omega), show i - s.μ.length = 0 by rw [← ok.len]; exact e] at h2'
        have e1 : d = a := Option.some.inj h1
        have e2 : o = o2 := Option.some.inj (Option.some.inj h2')
        subst e1
        subst e2
        exact hx.mono (Le.refl _) pre rfl
      | succ n =>
        rw [e] at h1
        cases h1
  · rcases List.mem_append.mp ha with ha | ha
    · exact ok.own a ha
    · rw [show a = d by simpa using ha]
      exact .inr hnew
end
section
variable {K : PySem.W.Frag}
theorem up_dc {wi : WI} {g : WG} {wt : WT} {wy wv : WE} {vs : List Nat} : ∀ σ H Q, up K (wDc wi g wt wy wv vs) σ H Q → tDc (upI K wi) (upG K vs g) (upT K wt) (up K wy) (up K wv) vs σ H Q := fun σ H Q ⟨A, as, s, R, ok, w, k⟩ => by
  refine ⟨A, as, s, _, ok, w, fun J ds H1 s1 as1 st1 ok1 wk w1 dl hD => ?_⟩
  have hDM : ¬ A.M0 dl := fun z => (ok1.m0 dl z).1 ((ok1.m0 dl z).2 ▸ hD)
  have hDn : A.He dl = none := Classical.byContradiction fun z => ok1.he dl z hD
  -- the word between two turns
  let W : Nat → Nat → Hp → Prop := fun i m H' => m = ds.length - i ∧ i ≤ ds.length ∧ ∃ (as' : List Addr) (μ' : List (Option MO)) (acc : List Key × List D) (xs : List (Key × V)) (G F : Hp), as1 <+: as' ∧ Le (vw A as1 s1.μ H1) F ∧
    Ok K (A.hide dl G F) as' ⟨s1.Γ, μ'⟩ σ H' ∧ (∀ a, A.M0 a → A.H0 a ≠ none ∧ H' a = A.H0 a) ∧ H' dl = some (.dK xs) ∧ xs.map (·.1) = acc.1 ∧ RepL K (vw (A.hide dl G F) as' μ' H') (xs.map (·.2)) acc.2 ∧
    dcW vs g wt wy wv s1.Γ (ds.drop i) acc μ' (fun acc μ => nw (.dic acc.1 acc.2) ⟨s1.Γ, μ⟩ R)
  refine ⟨W, ⟨ds.length, by simp, Nat.zero_le _, as1, s1.μ, ([], []), [], _, _, List.prefix_refl _, Le.refl _, (ok1.begin hD (.dK [])).2, fun a ha => ⟨(ok1.m0 a ha).1, ?_⟩, upd_same, rfl, .nil, w1⟩, ?_⟩
  · rw [upd_ne (show a ≠ dl from fun e => hDM (e ▸ ha))]
    exact (ok1.m0 a ha).2
  rintro i m H2 ⟨rfl, hi, as2, μ2, acc, xs, G, F, p2, hF, ok2, hM, hDx, hk, hx, w2⟩
  have hFv : Le (vw A as1 s1.μ H1) (vw (A.hide dl G F) as2 μ2 H2) := hF.trans ok2.pin
  by_cases hlt : i < ds.length
  · refine .inr ⟨wk.go i H2 hlt (hFv.trans vw_le), W (i + 1) (ds.length - (i + 1)), fun H' h => ⟨_, by omega, h⟩, fun x H3 y => ?_⟩
    obtain ⟨x', e, ok3, st3, r3⟩ := wk.item ok2 hFv hlt y
    rw [drop_at e] at w2
    -- what is to be read at the turn's start is pinned
    have okp : Ok K (A.hide dl G (vw (A.hide dl G F) as2 μ2 H3)) as2 ⟨s1.Γ, μ2⟩ σ H3 := ok3.pinned
    have ok3w := okp.wiped vs
    have hM3 : ∀ a, A.M0 a → A.H0 a ≠ none ∧ H3 a = A.H0 a := fun a ha => ⟨(hM a ha).1, ((ok3.m0 a (.inr ha)).2.trans (ok2.m0 a (.inr ha)).2.symm).trans (hM a ha).2⟩
    have hD3 : H3 dl = some (.dK xs) := ((ok3.m0 dl (.inl rfl)).2.trans (ok2.m0 dl (.inl rfl)).2.symm).trans hDx
    -- behind a turn
    have fin : ∀ (as4 : List Addr) (s4 : S) (σ4 : L2.St) (H4 : Hp) (acc' : List Key × List D) (xs' : List (Key × V)), as2 <+: as4 → Ok K (A.hide dl G (vw (A.hide dl G F) as2 μ2 H3)) as4 s4 σ4 H4 → xs'.map (·.1) = acc'.1 → RepL K (vw (A.hide dl G F) as4 s4.μ H4) (xs'.map (·.2)) acc'.2 →
        dcW vs g wt wy wv s1.Γ (ds.drop (i + 1)) acc' s4.μ (fun acc μ => nw (.dic acc.1 acc.2) ⟨s1.Γ, μ⟩ R) → W (i + 1) (ds.length - (i + 1)) (upd H4 dl (.dK xs')) := fun as4 s4 σ4 H4 acc' xs' p4 ok4 hk4 hx4 w4 => by
      have hle : Le (vw (A.hide dl G F) as2 μ2 H3) (vw (A.hide dl G F) as4 s4.μ H4) := ok4.pin
      have ok5 : Ok K (A.hide dl G (vw (A.hide dl G F) as2 μ2 H3)) as4 ⟨s1.Γ, s4.μ⟩ σ H4 := ⟨ok4.len, ok4.nd, ok4.dj, ok4.tr, ok4.m0, ok4.pin, fun j q hq => by
        obtain ⟨v, h1, h2⟩ := okp.env j q hq
        exact ⟨v, h1, h2.mono hle p4⟩, ok4.mem, okp.ln, ok4.own, ok4.he⟩
      obtain ⟨ev, ok6⟩ := ok5.more (.dK xs')
      refine ⟨rfl, hlt, as4, s4.μ, acc', xs', _, _, p2.trans p4, ?_, ok6, fun a ha => ⟨(hM a ha).1, ?_⟩, upd_same, hk4, ?_, w4⟩
      · exact (hFv.trans st3.le).trans hle
      · rw [upd_ne (show a ≠ dl from fun e => hDM (e ▸ ha))]
        exact ((ok4.m0 a (.inr ha)).2.trans (ok3.m0 a (.inr ha)).2.symm).trans (hM3 a ha).2
      · rw [ev]
        exact hx4
    refine ⟨_, as2, ⟨wip s1.Γ vs, μ2⟩, .dat x', _, ok3w, r3, w2, fun σ4 H4 s4 as4 p4 ew ok4 w4 => ?_⟩
    refine ⟨ew.trans (wipe_again vs vs fun _ z => z), ?_⟩
    refine ⟨_, as4, s4, _, ok4, w4, fun b H5 s5 as5 st5 ok5 w5 => ?_⟩
    have hle5 : Le (vw (A.hide dl G F) as2 μ2 H3) (vw (A.hide dl G F) as5 s5.μ H5) := ok5.pin
    cases b with
    | false =>
      rw [if_neg Bool.false_ne_true] at w5
      show W (i + 1) (ds.length - (i + 1)) H5
      have hD5 : H5 dl = some (.dK xs) := ((ok5.m0 dl (.inl rfl)).2.trans (ok3.m0 dl (.inl rfl)).2.symm).trans hD3
      have := fin as5 s5 σ4 H5 acc xs (p4.trans st5.pre) ok5 hk (RepL.mono (st3.le.trans hle5) _ hx) w5
      rw [show upd H5 dl (.dK xs) = H5 by
        funext a
        by_cases e : a = dl
        · subst e
          rw [upd_same, hD5]
        · rw [upd_ne e]] at this
      exact this
    | true =>
      rw [if_pos rfl] at w5
      show up K wy σ4 H5 _
      refine ⟨_, as5, s5, _, ok5, w5, fun v6 H6 r s6 as6 st6 ok6 r6 w6 => ?_⟩
      refine ⟨_, as6, s6, _, ok6, w6, fun v7 H7 q s7 as7 st7 ok7 r7 w7 => ?_⟩
      cases r with
      | cel _ => exact w7.elim
      | val _ => exact w7.elim
      | dat kd =>
        cases q with
        | cel _ => exact w7.elim
        | val _ => exact w7.elim
        | dat d =>
          obtain ⟨k, hk6, hz, w7⟩ := w7
          have hle7 : Le (vw (A.hide dl G F) as2 μ2 H3) (vw (A.hide dl G F) as7 s7.μ H7) := ok7.pin
          have hD7 : H7 dl = some (.dK xs) := ((ok7.m0 dl (.inl rfl)).2.trans (ok3.m0 dl (.inl rfl)).2.symm).trans hD3
          have hxl : xs.length = acc.1.length := by rw [← hk, List.length_map]
          obtain ⟨p1, p2⟩ := put_rep (K := K) (d := d) (v := v7) r7 k hk (RepL.mono (st3.le.trans hle7) _ hx)
          refine ⟨xs, k, kO_rep hk6 (Rep.rdc vw_le r6), hD7, by rw [hxl]; exact hz.lt, fin as7 s7 σ4 H7 (dput acc.1 acc.2 k d) (putK xs k v7) (((p4.trans st5.pre).trans st6.pre).trans st7.pre) ok7 p1 p2 w7⟩
  · have e : i = ds.length := by omega
    subst e
    rw [List.drop_length] at w2
    refine .inl ⟨wk.stop H2 (hFv.trans vw_le), ?_⟩
    obtain ⟨ev, ok3, hl⟩ := adoptO (o := .dic acc.1 acc.2) ok2 hM (ok1.pin.trans hF) ⟨xs, hDx, hk, hx⟩ hDn hDM
    have w3 : R (.cel μ2.length) ⟨s1.Γ, μ2 ++ [some (.dic acc.1 acc.2)]⟩ := w2
    refine k _ H2 (.cel μ2.length) ⟨s1.Γ, μ2 ++ [some (.dic acc.1 acc.2)]⟩ (as2 ++ [dl]) (st1.trans ⟨p2.trans (List.prefix_append _ _), ?_⟩) ok3 ⟨dl, hl, rfl⟩ w3
    show Le _ (vw A (as2 ++ [dl]) (μ2 ++ [some (.dic acc.1 acc.2)]) H2)
    rw [ev]
    exact hFv
end
end Ge
namespace Ge
open PySem PySem.Spec PyProof.Rows L2 Gd
section
variable {P : Program} {w : World} {A : Around} {E : Value → Shared → Prop} {s : Shared}
theorem call_set_listI {l : Addr} {items : Array Value} (ns : List Int) {Q : Value → Shared → Prop} (hh : A.handled = none) (hl : s.heap.IsList l items) (hit : IntsAre items.toList ns) (hb : ns.length + 1 < scanBound)
    (h : ∀ (h' : Heap) (tk c : Nat), SetR w h' s.heap.objs.size (fun j => decide (j ∈ ns)) c → c ≤ ns.length → (∀ b o, s.heap.get? b = some o → h'.get? b = some o) → Q (.ref s.heap.objs.size) { s with heap := h', toks := tk }) :
    wpAny (model P w) A (call (.type "set") [.ref l]) Q E s := by
  have hisz : items.size = ns.length := by
    have q := IntsAre.length hit
    rw [Array.length_toList] at q
    exact q
  obtain ⟨c, tl, hmro⟩ := F.called_set.mro
  have hmade := F.called_set.made
  have hsub := F.called_set.sub
  refine wpAny_call (codeAny_of_tree ?_)
  show wpAny _ _ (callAny (.type "set") _) _ _ _
  refine wpAny_pure ⟨Code.quiet_builtin _ (by decide +kernel), codeAny_builtin F.entry_type_call ?_⟩
  rw [Around.under_plain (weight_type_call_type "set" [.ref l] []) rfl]
  have h1 := F.called_set.notType
  have h2 := F.called_set.canCreate
  have hct := F.typeCall_set_1 (.ref l)
  repeat (any_goals (first | assumption | wp_step))

  refine codeAny_mono (code_set_led1 (.ref l) (E := E) (Q₁ := fun obj s₁ => obj = .ref s.heap.objs.size ∧ s₁ = { s with heap := s.heap.push { cls := .type "set", dict := none, data := .set #[] 0 (.fresh 0 0 (!w.params.followText "set-order")) } }) ⟨rfl, rfl⟩) fun r s₁ hr => ?_
  cases r with
  | error e => exact hr
  | ok fl =>
    cases fl with
    | ret obj =>
      obtain ⟨rfl, rfl⟩ := hr
      have hS : (s.heap.push { cls := .type "set", dict := none, data := .set #[] 0 (.fresh 0 0 (!w.params.followText "set-order")) }).get? s.heap.objs.size = some { cls := .type "set", dict := none, data := .set #[] 0 (.fresh 0 0 (!w.params.followText "set-order")) } := Heap.get?_push_size _ rfl
      have hT : Shared.TypeIs { s with heap := s.heap.push { cls := .type "set", dict := none, data := .set #[] 0 (.fresh 0 0 (!w.params.followText "set-order")) } } (.ref s.heap.objs.size) "set" := ⟨_, hS, rfl⟩
      have hli := F.called_set.init.lookup
      have hbi := F.called_set.init.bind (.ref s.heap.objs.size)
      repeat (any_goals (first | assumption | wp_step))

      refine codeAny_mono (codeAny_call_builtin (R := wants (fun r s₂ => r = .none ∧ ∃ h' tk c, s₂ = { s with heap := h', toks := tk } ∧ SetR w h' s.heap.objs.size (fun j => decide (j ∈ ns)) c ∧ c ≤ ns.length ∧
          (∀ b o, s.heap.get? b = some o → h'.get? b = some o)) E) F.called_set.init.plain F.entry_set_init (check_set_init_1 hT ?_)) fun r₂ s₂ hr₂ => ?_
      · obtain ⟨ol, hol, hcl, nl, hdl⟩ := hl
        obtain ⟨ocls, odict, odata, oslots⟩ := ol
        simp only at hcl hdl
        subst hcl; subst hdl
        have hol' : (s.heap.push { cls := .type "set", dict := none, data := .set #[] 0 (.fresh 0 0 (!w.params.followText "set-order")) }).get? l = some { cls := .type "list", dict := odict, data := .seq items nl, slots := oslots } := Heap.get?_push_of_some _ hol
        have hsls := F.sub_list_set
        have hslf := F.sub_list_frozenset
        have hne : (Value.type "list" == Value.type "dict") = false := by decide
        have hl1 : (s.heap.push { cls := .type "set", dict := none, data := .set #[] 0 (.fresh 0 0 (!w.params.followText "set-order")) }).IsList l items := ⟨_, hol', rfl, nl, rfl⟩
        unfold Builtin.«set.__init__» noKeywords Builtin.Frozenset.updateFrom
        generalize hPI : pyIter = PI
        wp_walk
        subst hPI

        refine wpAny_pyIter_list hl1 ?_
        refine wpAny_bind (wpAny_runValue ?_)
        have hlS : l < s.heap.objs.size := Heap.lt_size hol
        have hh3 : A.in1.in1.in1.handled = none := by simp [hh]
        have hz1 : (s.heap.push { cls := .type "set", dict := none, data := .set #[] 0 (.fresh 0 0 (!w.params.followText "set-order")) }).objs.size = s.heap.objs.size + 1 := Heap.size_push ..
        have hneI : l ≠ (s.heap.push { cls := .type "set", dict := none, data := .set #[] 0 (.fresh 0 0 (!w.params.followText "set-order")) }).objs.size := by
          rw [Heap.size_push]; exact Nat.ne_of_lt (Nat.lt_succ_of_lt hlS)
        have hSf : s.heap.objs.size ∉ [(s.heap.push { cls := .type "set", dict := none, data := .set #[] 0 (.fresh 0 0 (!w.params.followText "set-order")) }).objs.size, l] := by
          rw [Heap.size_push]; simp only [List.mem_cons, List.mem_singleton, List.not_mem_nil, or_false, not_or]
          exact ⟨Nat.ne_of_lt (Nat.lt_succ_self _), Nat.ne_of_gt hlS⟩
        have hval : ∀ (i : Nat) (v : Value), items[i]? = some v → ∃ k t, ns[i]? = some k ∧ v = .int k t := fun i v hv => by
          have hi : i < ns.length := by rw [← hisz]; exact (Array.getElem?_eq_some_iff.mp hv).1
          obtain ⟨t, e⟩ := PyProof.Rows.IntsAre.int_at hit i v (by rw [Array.getElem?_toList]; exact hv)
          refine ⟨ns[i], t, List.getElem?_eq_getElem hi, ?_⟩
          rw [e, List.getD_eq_getElem?_getD, List.getElem?_eq_getElem hi] <;> rfl
        refine set_update_ints ((Walks.list hh3 _ l hneI items).toS) s.heap.objs.size
          hSf ns hisz hb hval (items.size - 0) 0 _ (by omega) (Nat.zero_le _)
          ⟨⟨_, Heap.get?_push_size _ rfl, rfl, rfl⟩, (hl1.push _)⟩ ?hS0 ?hR
        case hS0 =>
          have hget : ((s.heap.push { cls := .type "set", dict := none, data := .set #[] 0 (.fresh 0 0 (!w.params.followText "set-order")) }).push { cls := .type "list_iterator", data := .fields #[.ref l, .int 0 0] }).get? s.heap.objs.size
              = some { cls := .type "set", dict := none, data := .set #[] 0 (.fresh 0 0 (!w.params.followText "set-order")) } := Heap.get?_push_of_some _ hS
          exact ⟨0, Nat.le_refl 0, setR_new_at hget⟩
        case hR =>
          intro s' c' hm hc' hS'
          obtain ⟨h', g2, d', tk', os'⟩ := s'
          have eg : g2 = s.gens := hm.gens
          have ed : d' = s.drawn := hm.drawn
          have eo : os' = s.os := hm.os
          subst eg; subst ed; subst eo
          show wpAny _ _ _ _ _ _
          refine wpAny_pure ?_
          show wpAny _ _ (ret Value.none) _ _ _
          rw [hisz] at hc'
          refine wpAny_pure ⟨rfl, h', tk', c', rfl, hS', hc', fun b o e => ?_⟩
          have hb0 : b < s.heap.objs.size := Heap.lt_size e
          have hb1 : b ≠ s.heap.objs.size := Nat.ne_of_lt hb0
          have hb2 : b ≠ (s.heap.push { cls := .type "set", dict := none, data := .set #[] 0 (.fresh 0 0 (!w.params.followText "set-order")) }).objs.size := by
            rw [Heap.size_push]; exact Nat.ne_of_lt (Nat.lt_succ_of_lt hb0)
          exact hm.heap b o (by simp only [List.mem_cons, List.mem_singleton, List.not_mem_nil, or_false, not_or]; exact ⟨hb1, hb2⟩) (Heap.get?_push_of_some _ (Heap.get?_push_of_some _ e))

      · cases r₂ with
        | error e => exact hr₂
        | ok fl₂ =>
          cases fl₂ with
          | ret r =>
            obtain ⟨rfl, h', tk, c', rfl, hS', hc', hk'⟩ := hr₂
            repeat (any_goals (first | assumption | wp_step))
            exact h _ _ _ hS' hc' hk'
          | _ => exact hr₂.elim
    | _ => exact hr.elim

end
end Ge
namespace Ge
open PySem PySem.Spec PyProof.Rows L2 Gd
/-! ### sorted lists of numbers -/
def insI (x : Int) : List Int → List Int
  | [] => [x]
  | y :: ys => if x ≤ y then x :: y :: ys else y :: insI x ys
def isort (xs : List Int) : List Int := xs.foldr insI []
def insS (x : Int) : List Int → List Int
  | [] => [x]
  | y :: ys => if x < y then x :: y :: ys else if x = y then y :: ys else y :: insS x ys
def ssort (xs : List Int) : List Int := xs.foldr insS []
theorem insI_perm (x : Int) : ∀ ys, (insI x ys).Perm (x :: ys)
  | [] => .refl _
  | y :: ys => by
    unfold insI
    split
    · exact .refl _
    · exact (List.Perm.cons y (insI_perm x ys)).trans (.swap _ _ _)
theorem isort_perm : ∀ xs, (isort xs).Perm xs
  | [] => .refl _
  | x :: xs => (insI_perm x _).trans (.cons x (isort_perm xs))
theorem insI_sorted (x : Int) : ∀ ys : List Int, ys.Pairwise (· ≤ ·) → (insI x ys).Pairwise (· ≤ ·)
  | [], _ => by simp [insI]
  | y :: ys, h => by
    unfold insI
    obtain ⟨h1, h2⟩ := List.pairwise_cons.mp h
    split
    · rename_i c
      refine List.pairwise_cons.mpr ⟨fun z hz => ?_, h⟩
      rcases List.mem_cons.mp hz with rfl | hz
      · exact c
      · exact Int.le_trans c (h1 z hz)
    · rename_i c
      refine List.pairwise_cons.mpr ⟨fun z hz => ?_, insI_sorted x ys h2⟩
      rcases List.mem_cons.mp ((insI_perm x ys).mem_iff.mp hz) with rfl | hz
      · omega
      · exact h1 z hz
theorem isort_sorted : ∀ xs : List Int, (isort xs).Pairwise (· ≤ ·)
  | [] => .nil
  | x :: xs => insI_sorted x _ (isort_sorted xs)
theorem insS_mem (x k : Int) : ∀ ys, k ∈ insS x ys ↔ k = x ∨ k ∈ ys
  | [] => by simp [insS]
  | y :: ys => by
    unfold insS
    split
    · simp
    · split
      · rename_i e
        subst e
        constructor
        · exact .inr
        · rintro (rfl | h)
          · exact List.mem_cons_self ..
          · exact h
      · rw [List.mem_cons, insS_mem x k ys, List.mem_cons]
        constructor
        · rintro (h | h | h)
          · exact .inr (.inl h)
          · exact .inl h
          · exact .inr (.inr h)
        · rintro (h | h | h)
          · exact .inr (.inl h)
          · exact .inl h
          · exact .inr (.inr h)
theorem ssort_mem (k : Int) : ∀ xs, k ∈ ssort xs ↔ k ∈ xs
  | [] => by simp [ssort]
  | x :: xs => by
    show k ∈ insS x (ssort xs) ↔ _
    rw [insS_mem, ssort_mem k xs, List.mem_cons]
theorem insS_sorted (x : Int) : ∀ ys : List Int, ys.Pairwise (· < ·) → (insS x ys).Pairwise (· < ·)
  | [], _ => by simp [insS]
  | y :: ys, h => by
    unfold insS
    obtain ⟨h1, h2⟩ := List.pairwise_cons.mp h
    split
    · rename_i c
      refine List.pairwise_cons.mpr ⟨fun z hz => ?_, h⟩
      rcases List.mem_cons.mp hz with rfl | hz
      · exact c
      · exact Int.lt_trans c (h1 z hz)
    · split
      · exact h
      · rename_i c e
        refine List.pairwise_cons.mpr ⟨fun z hz => ?_, insS_sorted x ys h2⟩
        rcases (insS_mem x z ys).mp hz with rfl | hz
        · omega
        · exact h1 z hz
theorem ssort_sorted : ∀ xs : List Int, (ssort xs).Pairwise (· < ·)
  | [] => .nil
  | x :: xs => insS_sorted x _ (ssort_sorted xs)
theorem sorted_eq : ∀ {xs ys : List Int}, xs.Perm ys → xs.Pairwise (· ≤ ·) → ys.Pairwise (· ≤ ·) → xs = ys
  | [], ys, p, _, _ => by rw [List.nil_perm.mp p]
  | x :: xs, [], p, _, _ => by cases List.perm_nil.mp p
  | x :: xs, y :: ys, p, h, g => by
    obtain ⟨h1, h2⟩ := List.pairwise_cons.mp h
    obtain ⟨g1, g2⟩ := List.pairwise_cons.mp g
    have e : x = y := by
      have a : x ∈ y :: ys := p.mem_iff.mp (List.mem_cons_self ..)
      have b : y ∈ x :: xs := p.mem_iff.mpr (List.mem_cons_self ..)
      rcases List.mem_cons.mp a with a | a
      · exact a
      · rcases List.mem_cons.mp b with b | b
        · exact b.symm
        · have := g1 x a
          have := h1 y b
          omega
    subst e
    rw [sorted_eq (List.Perm.cons_inv p) h2 g2]
theorem lt_nodup {xs : List Int} (h : xs.Pairwise (· < ·)) : xs.Nodup := h.imp fun {a b} c e => by subst e; exact Int.lt_irrefl _ c
theorem ssort_eq {xs ys : List Int} (h : xs.Pairwise (· < ·)) (m : ∀ k, k ∈ xs ↔ k ∈ ys) : xs = ssort ys :=
  sorted_eq ((List.perm_ext_iff_of_nodup (lt_nodup h) (lt_nodup (ssort_sorted ys))).mpr fun k => (m k).trans (ssort_mem k ys).symm) (h.imp fun {a b} c => Int.le_of_lt c) ((ssort_sorted ys).imp fun {a b} c => Int.le_of_lt c)
section
variable {K : PySem.W.Frag}
theorem dI_rep {F : Hp} : ∀ is : List Int, RepL K F (is.map V.int) (dI is)
  | [] => .nil
  | i :: is => .cons .int (dI_rep is)
abbrev sorD := onInts fun is => some (.lst (dI (isort is)))
theorem cbs_sorD : CbS K (cb1 sorD) (rSortedI K) := cbs_of1 fun A as s σ H x d z R Q ok r hz w k => by
  cases d with
  | lst ds =>
    obtain ⟨is, h, h9⟩ := bind_of hz
    clear hz
    cases ints_of h
    cases h9
    obtain ⟨a, xs, rfl, h1, h2⟩ := r
    cases h2.nums
    refine ⟨a, is, rfl, .inl (.inl h1), fun ns' p hp hs hn => ?_⟩
    rw [sorted_eq (hp.trans (isort_perm is).symm) hs (isort_sorted is)]
    exact lstD k ok hn (dI_rep _) w
  | _ => cases hz
end
/-! sorted(set(..)) -/
section
variable {X : Cx} {a : Expr} {ta : TE} {p p2 q pos : Pos} {ea : Ev Sl}
def tSorSet (K : PySem.W.Frag) (ta : TE) : TE := fun σ H Q => ta σ H fun x H1 => ∃ (l : Addr) (ns : List Int), x = .ref l ∧ SqL K H1 l (ns.map V.int) ∧ ns.length < 64 ∧ ∀ p, H1 p = none → Q (.ref p) (upd H1 p (.lst ((ssort ns).map V.int)))
theorem pe_sorSet (hc : X.calm = true) (hg : Gl X "sorted") (hm : X.mg "sorted" = none) (hg2 : Gl X "set") (hm2 : X.mg "set" = none) (ha : PE X a ta)
    (na : starEach [a] X.env = (false, eval a X.env) :: starEach [] X.env := by rfl) (nb : starEach [.Call (.Name "set" p2) [a] [] q] X.env = (false, eval (.Call (.Name "set" p2) [a] [] q) X.env) :: starEach [] X.env := by rfl) : PE X (.Call (.Name "sorted" p) [.Call (.Name "set" p2) [a] [] q] [] pos) (tSorSet X.K ta) := by
  refine ⟨fun pins s σ H Q I h => ?_⟩
  refine Call_ (ld_blt I hg hm boot_sorted ?_)
  refine PyProof.Rows.callWith_builtin1 (PyProof.Rows.args_cons ?_ nb) nb rfl
  refine Call_ (ld_blt I hg2 hm2 PyProof.Rows.boot_set ?_)
  refine PyProof.Rows.callWith_type1 (PyProof.Rows.args_cons (thn (ha.run pins s σ H _ I h) fun v s1 ⟨x, H1, I1, r1, q1⟩ => PyProof.Rows.args_nil ?_) na) na rfl
  obtain ⟨l, ns, rfl, hq, h64, q1⟩ := q1
  cases r1
  obtain ⟨its, rv, pl, hz⟩ := I1.list hq
  refine call_set_listI ns (I1.ok.hd hc) pl.isList (by simpa using rv.ints) (by unfold scanBound; omega) fun h' tk c hS hcl hk => ?_
  refine PyProof.Rows.args_nil ?_
  have I2 : Inv X pins σ H1 { s1 with heap := h', toks := tk } := I1.kept hk
  refine sorted_set hS (I2.ok.hd hc) (by omega) fun s' p out c ks k g o hp hg hi hs hm hl => ?_
  have hn : H1 p = none := I2.hok.fresh hp
  have hsub : ks = ssort ns := ssort_eq hs fun k => (hm k).trans (by simp)
  have hlen : (ks.map V.int).length ≤ sizeLine := by rw [List.length_map, hl, sizeLine_eq]; omega
  have J : Inv X pins σ (upd H1 p (.lst (ks.map V.int))) { { s1 with heap := h', toks := tk } with heap := s'.heap, gens := s'.gens, drawn := s'.drawn, toks := s'.toks } :=
    I2.call (ch := []) (Un.laid k hp hn) (I2.hok.laid k hp ⟨hlen, out.toList, c, vals_of_ints hi, hg⟩) (by rw [g]; exact I2.bare) (fun _ z => nomatch z)
  have e : s' = { { s1 with heap := h', toks := tk } with heap := s'.heap, gens := s'.gens, drawn := s'.drawn, toks := s'.toks } := by
    clear J hm hs hi hg hp k
    cases s'
    cases s1
    cases o
    rfl
  rw [e]
  rw [hsub] at J
  exact ⟨.ref p, _, J, rfl, q1 p hn⟩
abbrev sseD := onInts fun is => if is.length < 64 then some (.lst (dI (ssort is))) else none
theorem f_sorSet (hc : X.calm = true) (hg : Gl X "sorted") (hm : X.mg "sorted" = none) (hg2 : Gl X "set") (hm2 : X.mg "set" = none) (ha : PE X a (up X.K (wE ea)))
    (na : starEach [a] X.env = (false, eval a X.env) :: starEach [] X.env := by rfl) (nb : starEach [.Call (.Name "set" p2) [a] [] q] X.env = (false, eval (.Call (.Name "set" p2) [a] [] q) X.env) :: starEach [] X.env := by rfl) :
    PE X (.Call (.Name "sorted" p) [.Call (.Name "set" p2) [a] [] q] [] pos) (up X.K (wE (fU sseD ea))) := pe_imp (pe_sorSet hc hg hm hg2 hm2 ha na nb) fun σ H Q ⟨A, as, s, R, ok, w, k⟩ => by
  refine ⟨A, as, s, _, ok, wE_U w, fun v1 H1 r s1 as1 st1 ok1 r1 ⟨d, z, h1, h2, h3⟩ => ?_⟩
  have rd1 := ok1.rdc r1 h1
  cases d with
  | lst ds =>
    obtain ⟨is, h, h9⟩ := bind_of h2
    cases ints_of h
    obtain ⟨c, h10⟩ := ite_of h9
    cases h10
    obtain ⟨a, xs, rfl, g1, g2⟩ := rd1
    cases g2.nums
    exact ⟨a, is, rfl, .inl (.inl g1), c, fun p hp => lstD (fun v3 H3 t s3 as3 st3 ok3 r3 w3 => k v3 H3 t s3 as3 (st1.trans st3) ok3 r3 w3) ok1 hp (dI_rep _) h3⟩
  | _ => cases h2
end
end Ge
namespace Ge
open PySem PySem.Spec PyProof.Rows L2 Gd
local macro_rules | `(tactic| walk_at "pu") => `(tactic| repeat' first | with_reducible exact pu_prim | with_reducible exact pu_ret | assumption | with_reducible (refine pu_bind ?_ ?_) | with_reducible (refine pu_cond ?_ ?_) | intro)
/-! ### d.items(), d.values(), walked -/
def itmsD : D → Option (List D)
  | .dic ks vs => some (itmD ks vs)
  | _ => none
def valsD : D → Option (List D)
  | .dic _ vs => some vs
  | _ => none
section
variable {X : Cx} {tg l : Expr} {el : Ev Sl} {elts : List Expr} {kk : Nat} {tpos apos cpos : Pos}
theorem f_items (h : PE X l (up X.K (wE el))) (hbase : attributeBase l "items" X.env (eval l X.env) = eval l X.env := by rfl) (hline : (apos.endLine == cpos.line) = true := by rfl) :
    PI X (.Tuple elts kk tpos) (.Call (.Attribute l "items" apos) [] [] cpos) (upI X.K (wE (fiU itmsD el))) := pi_w (i_items h hbase hline) fun s R _ h => wE_mono (wE_bind h) fun p s1 _ h => by
    obtain ⟨d, h1, h5⟩ := wE_prim (wE_bind h)
    obtain ⟨ds, h2, h6⟩ := wE_prim h5
    clear h h5
    cases datO_of h1
    cases d <;> first
      | (cases h2; done)
      | (cases h2; exact h6)
theorem f_values (h : PE X l (up X.K (wE el))) (hbase : attributeBase l "values" X.env (eval l X.env) = eval l X.env := by rfl) (hline : (apos.endLine == cpos.line) = true := by rfl) :
    PI X tg (.Call (.Attribute l "values" apos) [] [] cpos) (upI X.K (wE (fiU valsD el))) := pi_w (i_values h hbase hline) fun s R _ h => wE_mono (wE_bind h) fun p s1 _ h => by
    obtain ⟨d, h1, h5⟩ := wE_prim (wE_bind h)
    obtain ⟨ds, h2, h6⟩ := wE_prim h5
    clear h h5
    cases datO_of h1
    cases d <;> first
      | (cases h2; done)
      | (cases h2; exact h6)
end
/-! ### dict(pairs) -/
def prs? : List D → Option (List (Key × D))
  | [] => some []
  | .tup [k, v] :: ds => (kO k).bind fun k => (prs? ds).map ((k, v) :: ·)
  | .par [k, v] :: ds => (kO k).bind fun k => (prs? ds).map ((k, v) :: ·)
  | _ => none
def mrg (ks : List Key) (vs : List D) : List (Key × D) → List Key × List D
  | [] => (ks, vs)
  | (k, d) :: r => mrg (dput ks vs k d).1 (dput ks vs k d).2 r
def mrgD (ps : List (Key × D)) : D := .dic (mrg [] [] ps).1 (mrg [] [] ps).2
def dicD : D → Option D
  | .lst ds => (prs? ds).bind fun ps => some (mrgD ps)
  | .tup ds => (prs? ds).bind fun ps => some (mrgD ps)
  | _ => none
section
variable {K : PySem.W.Frag} {F H : Hp}
abbrev PrR (K : PySem.W.Frag) (F : Hp) (kvs : List (Key × V)) (ps : List (Key × D)) : Prop := Paired (fun (p : Key × V) (q : Key × D) => p.1 = q.1 ∧ Rep K F p.2 q.2) kvs ps
theorem mrg_rep : ∀ {more : List (Key × V)} {ps : List (Key × D)} {kvs : List (Key × V)} {ks : List Key} {vs : List D}, PrR K F more ps → kvs.map (·.1) = ks → RepL K F (kvs.map (·.2)) vs →
    (mergeK kvs more).map (·.1) = (mrg ks vs ps).1 ∧ RepL K F ((mergeK kvs more).map (·.2)) (mrg ks vs ps).2
  | _, _, _, _, _, .nil, h1, h2 => ⟨h1, h2⟩
  | _, _, kvs, ks, vs, .cons (a := p) (b := q) h t, h1, h2 => by
    obtain ⟨e, r⟩ := h
    obtain ⟨k, d⟩ := q
    have e : p.1 = k := e
    subst e
    obtain ⟨g1, g2⟩ := put_rep r p.1 h1 h2
    have := mrg_rep (show PrR K F _ _ from t) g1 g2
    exact this
theorem prs_rep : ∀ {ds : List D} {xs : List V} {ps : List (Key × D)}, RepL K F xs ds → prs? ds = some ps → ∃ (as : List Addr) (kvs : List (Key × V)), xs = as.map V.ref ∧ Paired (fun p kv => SqT K F p [kV kv.1, kv.2]) as kvs ∧ PrR K F kvs ps
  | [], _, ps, h, e => by
    cases h
    cases e
    exact ⟨[], [], rfl, .nil, .nil⟩
  | d :: ds, _, ps, h, e => by
    cases h with
    | cons h1 h2 =>
      rename_i v vs
      have key : ∀ (k w : D) (ps' : List (Key × D)) (k' : Key), kO k = some k' → prs? ds = some ps' → ps = (k', w) :: ps' → (∃ a ys, v = .ref a ∧ SqT K F a ys ∧ RepL K F ys [k, w]) → ∃ (as : List Addr) (kvs : List (Key × V)), v :: vs = as.map V.ref ∧ Paired (fun p kv => SqT K F p [kV kv.1, kv.2]) as kvs ∧ PrR K F kvs ps := fun k w ps' k' e1 e2 e3 ⟨a, ys, e4, e5, e6⟩ => by
        obtain ⟨as, kvs, q1, q2, q3⟩ := prs_rep h2 e2
        cases e6 with
        | cons r1 t1 =>
          cases t1 with
          | cons r2 t2 =>
            cases t2
            rename_i x y
            have ex : x = kV k' := by
              cases k <;> first
                | (cases e1; done)
                | (cases e1; cases r1; rfl)
            subst ex e3 e4
            exact ⟨a :: as, (k', y) :: kvs, by rw [List.map_cons, q1], .cons e5 q2, .cons ⟨rfl, r2⟩ q3⟩
      cases d with
      | tup zs =>
        match zs, e, h1 with
        | [k, w], e, h1 =>
          obtain ⟨k', e1, e2⟩ := bind_of e
          obtain ⟨ps', e3, e4⟩ := map_of e2
          cases h1 with
          | tup g1 g2 => exact key k w ps' k' e1 e3 e4.symm ⟨_, _, rfl, g1.sq, g2⟩
        | [], e, _ => cases e
        | [_], e, _ => cases e
        | _ :: _ :: _ :: _, e, _ => cases e
      | par zs =>
        match zs, e, h1 with
        | [k, w], e, h1 =>
          obtain ⟨k', e1, e2⟩ := bind_of e
          obtain ⟨ps', e3, e4⟩ := map_of e2
          cases h1 with
          | par g1 g2 => exact key k w ps' k' e1 e3 e4.symm ⟨_, _, rfl, g1, g2⟩
        | [], e, _ => cases e
        | [_], e, _ => cases e
        | _ :: _ :: _ :: _, e, _ => cases e
      | _ => cases e
end
def rDict (K : PySem.W.Frag) : List V → Hp → VK → Prop := fun xs H Q => ∃ (a : Addr) (ps : List Addr) (kvs : List (Key × V)), xs = [.ref a] ∧ (SqL K H a (ps.map V.ref) ∨ ZT K H a (ps.map V.ref)) ∧ Paired (fun p kv => SqT K H p [kV kv.1, kv.2]) ps kvs ∧
  ∀ p, H p = none → Q (.ref p) (upd H p (.dK (mergeK [] kvs)))
section
variable {X : Cx}
theorem pairs_of2 {pins : List (Addr × Obj)} {σ : L2.St} {H : Hp} {s : Shared} (I : Inv X pins σ H s) : ∀ {ps : List Addr} {kvs : List (Key × V)}, Paired (fun p kv => SqT X.K H p [kV kv.1, kv.2]) ps kvs →
    ∃ (prs : List (Key × Value)) (p0 : List (Value × Value)), KV kvs prs ∧ prs.length = ps.length ∧ p0.length = ps.length ∧ ∀ (j : Nat) (b : Addr), ps[j]? = some b → ∃ k u v, prs[j]? = some (k, v) ∧ p0[j]? = some (u, v) ∧ IsTup s.heap b #[u, v] ∧ keyIs k u = true
  | _, _, .nil => ⟨[], [], .nil, rfl, rfl, fun j q e => by simp at e⟩
  | _, _, .cons (a := p) (b := kv) h t => by
    obtain ⟨prs, p0, r, hl, hl2, hp⟩ := pairs_of2 I t
    obtain ⟨its, rv, ht, _⟩ := I.tuple h
    obtain ⟨u, y, ei, ru, ry⟩ := vals2 rv
    subst ei
    refine ⟨(kv.1, y) :: prs, (u, y) :: p0, .cons ⟨rfl, ry⟩ r, by rw [List.length_cons, List.length_cons, hl], by rw [List.length_cons, List.length_cons, hl2], fun j b e => ?_⟩
    cases j with
    | zero =>
      have e' : p = b := Option.some.inj e
      subst e'
      exact ⟨kv.1, u, y, rfl, rfl, ht, kV_is (P := X.prog) (w := X.w) ru⟩
    | succ j => exact hp j b (by simpa using e)
theorem call_dictZ (hcalm : X.calm = true) : CallR X (.type "dict") (rDict X.K) := by
  intro pins s σ H xs us Q I r q
  obtain ⟨a, ps, kvs, ex, hq, hp, q⟩ := q
  rcases hq with hq | hq
  · exact call_dictP hcalm pins s σ H xs us Q I r ⟨a, ps, kvs, ex, hq, hp, q⟩
  subst ex
  obtain ⟨u, eu, rx⟩ := vals1 r
  subst eu
  cases rx
  have pl : ∃ its : List Value, Vals (ps.map V.ref) its ∧ PlainSeq "tuple" s.heap a its.toArray ∧ ps.length ≤ sizeLine := by
    rcases hq with ⟨o, h, hn⟩ | ⟨o, its, n, h1, h2, h3, h4, h5, h6⟩
    · obtain ⟨ho, z, its, rv, o2, ho2, hc, n, hd⟩ := I.hok a _ h
      rw [ho] at ho2
      cases ho2
      exact ⟨its, rv, ⟨o, n, ho, hc, hn, hd⟩, by rw [List.length_map] at z; exact z⟩
    · refine ⟨its.toList, h6, ⟨o, n, I.kIn a o h1, h3, h2, by simpa using h4⟩, ?_⟩
      have e : (ps.map V.ref).length = its.toList.length := Paired.length h6
      have e2 : its.toList.length = its.size := Array.length_toList
      rw [List.length_map] at e
      omega
  obtain ⟨its, rv, pl, hz⟩ := pl
  have ei := refs_at rv
  subst ei
  obtain ⟨prs, p0, rel, hl, hl2, hpr⟩ := pairs_of2 I hp
  have at_ : ∀ (j : Nat) (b : Addr), ps[j]? = some b → ps.getD j 0 = b := fun j b e => by rw [List.getD_eq_getElem?_getD, e]; rfl
  refine call_dict_pairs (knd := mixKind X.prog X.w) (kvs := prs) (PairArg.tuple (prog := X.prog) (w := X.w) a (ps.map Value.ref).toArray (fun j => ps.getD j 0) p0) (I.ok.hd hcalm) ⟨pl, ⟨by rw [List.size_toArray, List.length_map, hl2], fun j k v e => ?_⟩⟩ ⟨by rw [hl, hl2], fun j k v e => ?_⟩ (by rw [hl2]; exact hz) fun h' tk hd' k => ?_
  · have hj : j < ps.length := by rw [← hl2]; exact (List.getElem?_eq_some_iff.mp e).1
    obtain ⟨k2, u2, v2, e1, e2, e3, e4⟩ := hpr j ps[j] (List.getElem?_eq_getElem hj)
    rw [e] at e2
    cases e2
    dsimp only
    rw [at_ j _ (List.getElem?_eq_getElem hj)]
    obtain ⟨o, ho, hc, n, hd⟩ := e3
    exact ⟨by simp [hj], .inl ⟨o, ho, hc, n, hd⟩⟩
  · have hj : j < ps.length := by rw [← hl2]; exact (List.getElem?_eq_some_iff.mp e).1
    obtain ⟨k2, u2, v2, e1, e2, e3, e4⟩ := hpr j ps[j] (List.getElem?_eq_getElem hj)
    have e : p0[j]? = some (k, v) := e
    rw [e] at e2
    cases e2
    exact ⟨k2, e1, e4⟩
  · have hm : (s.heap.objs.size == sysModules) = false := beq_eq_false_iff_ne.mpr (Nat.ne_of_gt I.big)
    have hlen : (mergeK [] kvs).length ≤ sizeLine := by
      refine Nat.le_trans (length_mergeK kvs []) ?_
      rw [List.length_nil, Nat.zero_add, rel.length, hl]
      exact hz
    exact ⟨.ref s.heap.objs.size, upd H s.heap.objs.size (.dK (mergeK [] kvs)), I.laid (t' := tk) (fun b u e => k b u (fun z => nomatch z) e) (Nat.le_refl _) (show ObjOk X.prog X.w _ _ _ (.dK (mergeK [] kvs)) from ⟨hlen, hm, merged [] prs, KV.merge rel .nil, hd'⟩), rfl, q _ (I.hok.fresh (Nat.le_refl _))⟩
end
section
variable {K : PySem.W.Frag} {A : Amb} {as as' : List Addr} {s s' : S} {σ : L2.St} {H H' : Hp} {p : Addr}
theorem dicN {R : Sl → S → Prop} {Q : VK} (k : Kon K A as s σ H R Q) (ok : Ok K A as s σ H) (hp : H p = none) {kvs : List (Key × V)} {ks : List Key} {vs : List D} (e : kvs.map (·.1) = ks) (h : RepL K (vw A as s.μ H) (kvs.map (·.2)) vs) (q : R (.dat (.dic ks vs)) s) : Q (.ref p) (upd H p (.dK kvs)) :=
  k.new ok hp _ (fun _ le e2 => .dic (.inl e2) e (RepL.mono le _ h)) q
theorem SqT.mono_vw {F : Hp} {a : Addr} {xs : List V} (x : Le F H) (h : SqT K F a xs) : SqT K H a xs := x.sqT h
theorem cbs_dicD : CbS K (cb1 dicD) (rDict K) := cbs_of1 fun A as s σ H x d z R Q ok r hz w k => by
  have fin : ∀ (a : Addr) (xs : List V) (ds : List D) (ps : List (Key × D)), RepL K (vw A as s.μ H) xs ds → prs? ds = some ps → (∀ qs : List Addr, xs = qs.map V.ref → SqL K H a (qs.map V.ref) ∨ ZT K H a (qs.map V.ref)) → R (.dat (mrgD ps)) s → rDict K [.ref a] H Q := fun a xs ds ps h1 h2 h3 w => by
    obtain ⟨qs, kvs, e1, e2, e3⟩ := prs_rep h1 h2
    refine ⟨a, qs, kvs, rfl, h3 qs e1, Paired.mapP e2 fun _ _ z => vw_le.sqT z, fun p hp => ?_⟩
    obtain ⟨g1, g2⟩ := mrg_rep (kvs := []) (ks := []) (vs := []) e3 rfl .nil
    exact dicN k ok hp g1 g2 w
  cases d with
  | lst ds =>
    obtain ⟨ps, h1, h2⟩ := bind_of hz
    cases h2
    obtain ⟨a, xs, rfl, g1, g2⟩ := r
    exact fin a xs ds ps g2 h1 (fun qs e => .inl (e ▸ .inl (.inl g1))) w
  | tup ds =>
    obtain ⟨ps, h1, h2⟩ := bind_of hz
    cases h2
    obtain ⟨_, a, xs, rfl, g1, g2⟩ := r
    exact fin a xs ds ps g2 h1 (fun qs e => .inr (e ▸ g1)) w
  | _ => cases hz
end
end Ge
namespace Ge
open PySem PySem.Spec PyProof.Rows L2 Gd
local macro_rules | `(tactic| walk_at "pu") => `(tactic| repeat' first | with_reducible exact pu_prim | with_reducible exact pu_ret | assumption | with_reducible (refine pu_bind ?_ ?_) | with_reducible (refine pu_cond ?_ ?_) | intro)
/-! ### dict comprehensions -/
def dcM (step : D → Option (Option (Key × D))) : List D → List Key → List D → Option (List Key × List D)
  | [], ks, vs => some (ks, vs)
  | d :: ds, ks, vs => (step d).bind fun o => match o with
    | none => dcM step ds ks vs
    | some p => dcM step ds (dput ks vs p.1 p.2).1 (dput ks vs p.1 p.2).2
def dcG (step : D → Option (Option (Key × D))) (ds : List D) : Option (List Key × List D) := gd ds.length (dcM step ds [] [])
theorem dput_len {ks : List Key} {vs : List D} {k : Key} {d : D} : (dput ks vs k d).1.length ≤ ks.length + 1 := by
  unfold dput
  split
  · exact Nat.le_succ _
  · simp
section
variable (g : EvG) (t : Ev Bool) (e ev : Ev Sl) (vs : List Nat)
def stepK (Γ : Ga) (μ : Mu) (d : D) : Option (Option (Key × D)) := g.run (.dat d) ⟨wip Γ vs, μ⟩ fun s1 => t.run s1.Γ s1.μ fun b μ2 => cond b (e.run s1.Γ μ2 fun r μ3 => ev.run s1.Γ μ3 fun q _ => abind (datO r) fun kd => abind (datO q) fun v => (kO kd).bind fun k => some (some (k, v))) (some none)
def fDc (it : Ev (List D)) : Ev (List Key × List D) := it.bind fun ds => .prim fun Γ μ => dcG (stepK g t e ev vs Γ μ) ds
end
def fDatK (f : Ev (List Key × List D)) : Ev Sl := f.bind fun p => .ret (.dat (.dic p.1 p.2))
def fCelK (f : Ev (List Key × List D)) : Ev Sl := f.bind fun p => .alloc (.dic p.1 p.2)
section
variable {g : EvG} {t : Ev Bool} {e ev : Ev Sl} {vs : List Nat} {it : Ev (List D)} {f : Ev (List Key × List D)}
instance [Pu it] : Pu (fDc g t e ev vs it) := by unfold fDc; walk_at "pu"
instance [Pu f] : Pu (fDatK f) := by unfold fDatK; walk_at "pu"
theorem dcP_w [hg : GPu g] [ht : Pu t] [he : Pu e] [hv : Pu ev] {Γ : Ga} {μ : Mu} {R : List Key × List D → Mu → Prop} : ∀ (ds : List D) (ks : List Key) (ws : List D) (r : List Key × List D), dcM (stepK g t e ev vs Γ μ) ds ks ws = some r → sz (ks.length + ds.length) → R r μ → dcW vs (wG g) (wE t) (wE e) (wE ev) Γ ds (ks, ws) μ R
  | [], ks, ws, r, h, _, hR => by
    cases h
    exact hR
  | d :: ds, ks, ws, r, h, hz, hR => by
    obtain ⟨o, h1, h2⟩ := bind_of h
    unfold stepK at h1
    rw [g.nat] at h1
    obtain ⟨s1, h5, h6⟩ := bind_of h1
    rw [t.nat] at h6
    obtain ⟨p, h7, h8⟩ := bind_of h6
    have hm1 : s1.μ = μ := hg.pu _ _ _ h5
    have hm2 := ht.pu _ _ _ h7
    rw [List.length_cons] at hz
    have hz' : ks.length + (ds.length + 1) ≤ 100000 := hz
    refine ⟨s1, h5, p, h7, ?_⟩
    cases eb : p.1 with
    | false =>
      rw [eb] at h8
      cases h8
      rw [if_neg Bool.false_ne_true]
      show dcW vs _ _ _ _ Γ ds (ks, ws) p.2 R
      rw [hm2, hm1]
      exact dcP_w ds ks ws r h2 (show _ ≤ _ by omega) hR
    | true =>
      rw [eb] at h8
      have h8 : e.run s1.Γ p.2 _ = some o := h8
      rw [e.nat] at h8
      obtain ⟨z, h9, h10⟩ := bind_of h8
      rw [ev.nat] at h10
      obtain ⟨y, h11, h12⟩ := bind_of h10
      obtain ⟨kd, h13, h14⟩ := abind_of h12
      obtain ⟨v, h15, h16⟩ := abind_of h14
      obtain ⟨k, h17, h18⟩ := bind_of h16
      cases h18
      have hm3 := he.pu _ _ _ h9
      have hm4 := hv.pu _ _ _ h11
      rw [if_pos rfl]
      refine ⟨z, h9, y, h11, ?_⟩
      rw [datO_of h13, datO_of h15]
      refine ⟨k, h17, show _ ≤ _ by show ks.length + 1 ≤ 100000; omega, ?_⟩
      show dcW vs _ _ _ _ Γ ds (dput ks ws k v) y.2 R
      rw [hm4, hm3, hm2, hm1]
      have := dput_len (ks := ks) (vs := ws) (k := k) (d := v)
      exact dcP_w ds (dput ks ws k v).1 (dput ks ws k v).2 r h2 (show _ ≤ _ by omega) hR
/-! .. a new thing, as data -/
theorem frz_newO {s : S} {μ : Mu} {o : MO} {R : Sl → S → Prop} (pl : o.plain) (hl : μ.length = s.μ.length) (hb : belowAll s.μ.length (μ.take s.μ.length)) (h : R (.dat o.d) ⟨s.Γ, μ⟩) : nw o ⟨s.Γ, μ⟩ fun r s2 => frz s r s2 R := by
  have e1 : (μ ++ [some o]).take s.μ.length = μ := by rw [← hl, List.take_left]
  have e2 : μ.take s.μ.length = μ := by rw [← hl, List.take_length]
  show frz s (.cel μ.length) ⟨s.Γ, μ ++ [some o]⟩ R
  refine ⟨?_, ?_⟩
  · show belowAll s.μ.length ((μ ++ [some o]).take s.μ.length)
    rw [e1, ← e2]
    exact hb
  · show (if μ.length < s.μ.length then _ else optK (nth (μ ++ [some o]) μ.length) _)
    rw [if_neg (by omega), nth_app]
    refine ⟨pl, ?_⟩
    show R (.dat o.d) ⟨s.Γ, (μ ++ [some o]).take s.μ.length⟩
    rw [e1]
    exact h
def wFzO (i : Nat) (w : WS) : WS := fun D s => w { D with nx := fun s1 => ∃ j o s2, nth s1.Γ i = some (.cel j) ∧ nth s1.μ j = some o ∧ o.plain ∧ Weak ⟨put s1.Γ i (.dat o.d), s1.μ.set j none⟩ s2 ∧ s.μ.length ≤ s2.μ.length ∧ D.nx s2 } s
theorem s_fzO {X : Cx} {st : Stmt} {w : WS} (i : Nat) (h : PS X st (upS X.K w)) : PS X st (upS X.K (wFzO i w)) := ps_imp h fun D σ H ⟨A, as, s, d, ok, w, cn, cr, cb, cc⟩ =>
  ⟨A, as, s, _, ok, w, fun σ1 H1 s1 as1 p1 ok1 ⟨j, o, s2, e1, e2, pl, wk, le, z⟩ => by
    obtain ⟨v, h1, a, h2, rfl⟩ := ok1.env i _ (nth_eq _ _ e1)
    obtain ⟨st, ok', r⟩ := ok1.freeze h2 (nth_eq _ _ e2) pl
    have ok2 := ok'.named (r := .dat o.d) r i
    rw [show σ1.set i (some (.ref a)) = σ1 by
      refine List.ext_getElem? fun m => ?_
      by_cases hm : i = m
      · subst hm
        rw [List.getElem?_set_self (List.getElem?_eq_some_iff.mp h1).1, h1]
      · rw [List.getElem?_set_ne hm]] at ok2
    exact cn σ1 H1 s2 _ (pre_take p1 (by have h9 : as.length = s.μ.length := ok.len; rw [h9]; exact le)) (ok_weak ok2 wk) z, cr, cb, cc⟩
theorem fz_newO {i : Nat} {s : S} {μ : Mu} {o : MO} {D' : Dn} (pl : o.plain) (hi : i < s.Γ.length) (hl : μ.length = s.μ.length) (hc : ∀ (i j : Nat), s.Γ[i]? = some (some (.cel j)) → j < s.μ.length) (hm : ∀ (i : Nat) (o : MO), μ[i]? = some (some o) → o.below s.μ.length) (h : D'.nx ⟨put s.Γ i (.dat o.d), μ⟩) :
    ∃ (j : Nat) (o' : MO) (s2 : S), nth (put s.Γ i (.cel μ.length)) i = some (.cel j) ∧ nth (μ ++ [some o]) j = some o' ∧ o'.plain ∧ Weak ⟨put (put s.Γ i (.cel μ.length)) i (.dat o'.d), (μ ++ [some o]).set j none⟩ s2 ∧ s.μ.length ≤ s2.μ.length ∧ D'.nx s2 := by
  refine ⟨μ.length, o, _, nth_put (y := Sl.cel 0) (i := 0) hi, nth_app μ, pl, ⟨?_, fun k r e => ?_, ?_, fun k o2 e => ?_⟩, ?_, h⟩
  · show (put s.Γ i _).length = (put (put s.Γ i _) i _).length
    rw [put_len, put_len, put_len]
  · have e : (put s.Γ i (.dat o.d))[k]? = some (some r) := e
    by_cases hk : i = k
    · subst hk
      have e1 := put_get e
      subst e1
      refine ⟨?_, fun j q => by cases q⟩
      show (put (put s.Γ i _) i _)[i]? = _
      rw [put_eq, put_eq, List.set_set, List.getElem?_set_self hi]
    · rw [put_ne hk] at e
      refine ⟨?_, fun j q => ?_⟩
      · show (put (put s.Γ i _) i _)[k]? = _
        rw [put_ne hk, put_ne hk]
        exact e
      · subst q
        show j < μ.length
        rw [hl]
        exact hc k j e
  · show μ.length ≤ ((μ ++ [some o]).set μ.length none).length
    rw [List.length_set, List.length_append]
    omega
  · have e : μ[k]? = some (some o2) := e
    have hk : k < μ.length := (List.getElem?_eq_some_iff.mp e).1
    refine ⟨?_, ?_⟩
    · show ((μ ++ [some o]).set μ.length none)[k]? = _
      rw [List.getElem?_set_ne (by omega), List.getElem?_append_left hk]
      exact e
    · show o2.below μ.length
      rw [hl]
      exact hm k o2 e
  · rw [← hl]
    exact Nat.le_refl _
end
section
variable {X : Cx} {kx vx tg iter : Expr} {ifs : List Expr} {scope : Scope} {own : List (Str × Nat)} {pos : Pos} {it : Ev (List D)} {g : EvG} {t : Ev Bool} {e ev : Ev Sl} {vs : List Nat}
theorem ps_setDc {i : Nat} {y : Str} {py : Pos} {spos : Pos} {wi : TI} {g : TG} {tt : TT} {tk tv : TE} (hc : X.calm = true) (hN : X.N.Nodup) (hy : X.N[i]? = some y) (hyl : X.env.scope.names.lookup y = some .local)
    (hsw : swapsWith (.DictComp kx vx [⟨tg, iter, ifs, 0⟩] scope pos) (some (.Name y py)) spos.line X.env = pure true) (hi : PI X tg iter wi) (ok : BlkOk X.N X.env.scope scope own)
    (hg : ∀ (s : Shared) (H : Hp) (C : Addr) (cl : List (Str × Addr)) (fp : List Addr), PG (X.blk s H scope (compEnvC scope cl C X.env) fp) tg g) (ht : ∀ (s : Shared) (H : Hp) (C : Addr) (cl : List (Str × Addr)) (fp : List Addr), PTs (X.blk s H scope (compEnvC scope cl C X.env) fp) ifs tt)
    (hk : ∀ (s : Shared) (H : Hp) (C : Addr) (cl : List (Str × Addr)) (fp : List Addr), PE (X.blk s H scope (compEnvC scope cl C X.env) fp) kx tk)
    (he : ∀ (s : Shared) (H : Hp) (C : Addr) (cl : List (Str × Addr)) (fp : List Addr), PE (X.blk s H scope (compEnvC scope cl C X.env) fp) vx tv) (hs : ∀ x, foldedSetIterable iter X.env x = pure x := by intro _; rfl) :
    PS X (.Assign [.Name y py] (.DictComp kx vx [⟨tg, iter, ifs, 0⟩] scope pos) spos) (tAsg (tDc wi g tt tk tv (own.map (·.2))) (gName i)) := by
  refine ⟨fun pins s σ H D I h => ?_⟩
  rw [exec_Assign_Name_used _ _ _ _ hsw]
  refine wpAny_bind (wpAny_standAt (wpAny_bind ?_))
  show wpAny _ X.A (do let _ ← comprehension (.DictComp kx vx [⟨tg, iter, ifs, 0⟩] scope pos) scope X.env (firstIterPos [⟨tg, iter, ifs, 0⟩] pos) newDict false (eval iter X.env) (some (assign (.Name y py) X.env))) _ _ s
  have h : tDc wi g tt tk tv (own.map (·.2)) σ H (fun x H1 => gName i x σ H1 D.nx) := h
  refine wpAny_bind (thn (dc_core (Qf := fun _ s' => SP X pins D .next s') hc hN I hi ok hg ht hk he hs h fun L C s' m H' I' q hn f => ?_) fun _ s' hq => wpAny_pure (wpAny_pure hq))
  show wpAny _ _ (assign (.Name y py) X.env (.ref L)) _ _ _
  refine wpAny_assign_Name (store_ok2 (v := V.ref L) I' hN hy (.inl hyl) rfl (fun s2 I2 ⟨a, sb, ha⟩ => ?_) (.inr hyl))
  obtain ⟨f0, f1, f2, f3, f4, f5⟩ := f
  have haC : C ≠ a := by
    rcases ha with z | z
    · rw [z]; exact f1
    · exact fun e => f4 y a z e.symm
  refine ⟨m, hn.sameBut sb haC, fun h3 sb3 => ?_⟩
  exact ⟨_, H', I2.turned (t' := s2.toks) (fun b o hb e => (sb3.2 b hb).trans e) f0 f1 f3 f4 f5, q⟩
theorem sw_trueD {gs : List Comprehension} {py : Pos} {y : Str} {l : Nat} {env : Env} (hk : env.scope.kind = .function) (hy : env.scope.names.lookup y = some .local) (hl : (py.line == pos.line) = true)
    (ha : (scope.names.any fun (n, k) => n == y && (k == .local || k == .cell)) = false) : swapsWith (.DictComp kx vx gs scope pos) (some (.Name y py)) l env = pure true := by
  have ky : env.kindOf y = some .local := hy
  have hb : env.blockKind = .function := by unfold Env.blockKind; rw [hk]; rfl
  unfold swapsWith
  simp only [hb, ky, ha, Expr.pos, hl]
  rfl
variable (hc : X.calm = true) (hN : X.N.Nodup) (hi : PI X tg iter (upI X.K (wE it))) (ok : BlkOk X.N X.env.scope scope own) (hvs : own.map (·.2) = vs)
    (hg : ∀ (s : Shared) (H : Hp) (C : Addr) (cl : List (Str × Addr)) (fp : List Addr), PG (X.blk s H scope (compEnvC scope cl C X.env) fp) tg (upG X.K vs (wG g))) (ht : ∀ (s : Shared) (H : Hp) (C : Addr) (cl : List (Str × Addr)) (fp : List Addr), PTs (X.blk s H scope (compEnvC scope cl C X.env) fp) ifs (upT X.K (wE t)))
    (hk : ∀ (s : Shared) (H : Hp) (C : Addr) (cl : List (Str × Addr)) (fp : List Addr), PE (X.blk s H scope (compEnvC scope cl C X.env) fp) kx (up X.K (wE e)))
    (he : ∀ (s : Shared) (H : Hp) (C : Addr) (cl : List (Str × Addr)) (fp : List Addr), PE (X.blk s H scope (compEnvC scope cl C X.env) fp) vx (up X.K (wE ev)))
include hc hN hi ok hvs hg ht hk he
theorem e_dc (hs : ∀ x, foldedSetIterable iter X.env x = pure x := by intro _; rfl) : PE X (.DictComp kx vx [⟨tg, iter, ifs, 0⟩] scope pos) (up X.K (wDc (wE it) (wG g) (wE t) (wE e) (wE ev) vs)) := by
  subst hvs
  exact pe_imp (pe_dc hc hN hi ok hg ht hk he hs) up_dc
theorem f_dcD [pi : Pu it] [g1 : GPu g] [t1 : Pu t] [e1 : Pu e] [e2 : Pu ev] (hs : ∀ x, foldedSetIterable iter X.env x = pure x := by intro _; rfl) : PE X (.DictComp kx vx [⟨tg, iter, ifs, 0⟩] scope pos) (up X.K (wE (fDatK (fDc g t e ev vs it)))) :=
  pe_w (e_frz (e_dc hc hN hi ok hvs hg ht hk he hs)) fun s R bl h => show wE it s (fun ds s1 => dcW vs (wG g) (wE t) (wE e) (wE ev) s1.Γ ds ([], []) s1.μ fun acc μ => nw (.dic acc.1 acc.2) ⟨s1.Γ, μ⟩ fun r s2 => frz s r s2 R) from wE_mono (wE_pu (wE_bind (wE_bind h))) fun ds s1 _ ⟨e2, h'⟩ => by
    clear h
    subst e2
    obtain ⟨r, h1, h2⟩ := wE_prim h'
    obtain ⟨h3, h4⟩ := gd_of h1
    exact dcP_w ds [] [] r h4 (by rw [List.length_nil, Nat.zero_add]; exact h3) (frz_newO (o := .dic r.1 r.2) trivial rfl bl.all (wE_ret h2))
theorem fs_setDcD {y : Str} {py : Pos} {spos : Pos} (i : Nat) (hy : X.N[i]? = some y) (hyl : X.env.scope.names.lookup y = some .local) (hsw : swapsWith (.DictComp kx vx [⟨tg, iter, ifs, 0⟩] scope pos) (some (.Name y py)) spos.line X.env = pure true)
    [pi : Pu it] [g1 : GPu g] [t1 : Pu t] [e1 : Pu e] [e2 : Pu ev] (hs : ∀ x, foldedSetIterable iter X.env x = pure x := by intro _; rfl) : PS X (.Assign [.Name y py] (.DictComp kx vx [⟨tg, iter, ifs, 0⟩] scope pos) spos) (upS X.K (wS (sAsg (fDatK (fDc g t e ev vs it)) (gNc i)))) := by
  have base : PS X (.Assign [.Name y py] (.DictComp kx vx [⟨tg, iter, ifs, 0⟩] scope pos) spos) (upS X.K (wAsg (wDc (wE it) (wG g) (wE t) (wE e) (wE ev) vs) (wgN i))) := by
    subst hvs
    exact ps_imp (ps_setDc hc hN hy hyl hsw hi ok hg ht hk he hs) fun D σ H ⟨A, as, s, d, ok, w, cn, cr, cb, cc⟩ =>
      up_dc σ H _ ⟨A, as, s, _, ok, w, fun v1 H1 r s1 as1 st1 ok1 r1 w1 => cn _ H1 _ as1 st1.pre (ok1.named r1 i) w1⟩
  refine ps_w (s_fzO i base) fun D' s bl ⟨o, q1, q2⟩ => ?_
  obtain ⟨p, z1, z2⟩ := bind_of q1
  obtain ⟨s3, z3, z4⟩ := bind_of z2
  cases z4
  obtain ⟨z5, z6⟩ := gNc_of z3
  have h : wE (fDatK (fDc g t e ev vs it)) s fun r s1 => D'.nx ⟨put s.Γ i r, s1.μ⟩ := ⟨p, z1, by rw [z6] at q2; exact q2⟩
  refine (show wE it s (fun ds s1 => dcW vs (wG g) (wE t) (wE e) (wE ev) s1.Γ ds ([], []) s1.μ fun acc μ => nw (.dic acc.1 acc.2) ⟨s1.Γ, μ⟩ fun r s1 => ∃ (j : Nat) (o : MO) (s2 : S), nth (put s1.Γ i r) i = some (.cel j) ∧ nth s1.μ j = some o ∧ o.plain ∧ Weak ⟨put (put s1.Γ i r) i (.dat o.d), s1.μ.set j none⟩ s2 ∧ s.μ.length ≤ s2.μ.length ∧ D'.nx s2) from wE_mono (wE_pu (wE_bind (wE_bind h))) fun ds s1 _ ⟨e2, h'⟩ => ?_)
  clear h q1 z1 z2 z3
  subst e2
  obtain ⟨r, h1, h2⟩ := wE_prim h'
  obtain ⟨h3, h4⟩ := gd_of h1
  have h7 := wE_ret h2
  exact dcP_w ds [] [] r h4 (by rw [List.length_nil, Nat.zero_add]; exact h3) (fz_newO (s := s1) (o := .dic r.1 r.2) trivial z5 rfl bl.sl bl.mo h7)
end
end Ge
namespace Ge
open PySem PySem.Spec PyProof.Rows L2 Gd
local macro_rules | `(tactic| walk_at "pu") => `(tactic| repeat' first | with_reducible exact pu_prim | with_reducible exact pu_ret | assumption | with_reducible (refine pu_bind ?_ ?_) | with_reducible (refine pu_cond ?_ ?_) | intro)
/-! ### max(d) -/
section
variable {X : Cx}
def rMaxK : List V → Hp → VK → Prop := fun vs H Q => ∃ (a : Addr) (kvs : List (Key × V)) (is : List Int), vs = [V.ref a] ∧ Rd H a (.dK kvs) ∧ kvs.map (·.1) = is.map Sum.inl ∧ is ≠ [] ∧ ∀ m, m ∈ is → (∀ j ∈ is, j ≤ m) → Q (.int m) H
theorem cr_maxK (hc : X.calm = true) : CallR X (.builtin "max") rMaxK := by
  intro pins s σ H vs us Q I r h
  obtain ⟨a, kvs, is, rfl, ha, hv, hne, q⟩ := h
  rw [Vals.ref1 r]
  obtain ⟨_, hsys, vs, rel, dof⟩ := dk_rd I.hok ha
  obtain ⟨ep, dat⟩ := dof.dictAt
  obtain ⟨ob, es, ho, hex, hdat, hko, hpr, hnd⟩ := id dat
  have hlt : a < s.heap.objs.size := Heap.lt_size ho
  have hkeys : vs.map (·.1) = is.map Sum.inl := (KV.keys rel).symm.trans hv
  have hlv : vs.length = is.length := by
    have e1 := congrArg List.length hkeys
    rw [List.length_map, List.length_map] at e1
    exact e1
  have hlen : 0 < vs.length := by
    rw [hlv]
    exact List.length_pos_iff.mpr hne
  have hval : ∀ (i : Nat) (v : Value), (∃ k x, vs[i]? = some (k, x) ∧ (mixKind X.prog X.w).is k v = true) → ∃ t, v = Value.int (is.getD i 0) t := fun i v ⟨k, x, hk, hkey⟩ => by
    have e1 : (vs.map (·.1))[i]? = some k := by rw [List.getElem?_map, hk] <;> rfl
    rw [hkeys, List.getElem?_map] at e1
    obtain ⟨j, hj, e2⟩ := Option.map_eq_some_iff.mp e1
    subst e2
    have hi : Value.isInt j v = true := hkey
    obtain ⟨t, e3⟩ := Value.isInt_shape (k := j) (v := v) hi
    refine ⟨t, ?_⟩
    rw [e3, List.getD_eq_getElem?_getD, hj] <;> rfl
  refine call_max_walk (wpAny_pyIter_dict (knd := mixKind X.prog X.w) hsys dat ?_)
  refine ⟨_, _, _, _, _, _, _, rfl, Walks.dictKeys (knd := mixKind X.prog X.w) (A := X.A.in1) (I.ok.hd hc) s.heap.objs.size a (Nat.ne_of_lt hlt) vs ep,
    ⟨⟨_, Heap.get?_push_size _ rfl, rfl, rfl⟩, dat.keep fun b u e => Heap.get?_push_of_some _ e⟩, fun b hb => ?_, hlen, CmpOf.ints_gt (fun i => is.getD i 0) hval, fun v h' tk hP hk => ?_⟩
  · show b < (s.heap.push _).objs.size
    rw [Heap.size_push]
    rcases List.mem_cons.mp hb with e | hb
    · rw [e]
      exact Nat.lt_succ_self _
    · rw [List.mem_singleton.mp hb]
      exact Nat.lt_succ_of_lt hlt
  · obtain ⟨t, rfl⟩ := hval _ v hP
    obtain ⟨b1, b2⟩ := argBest_gt (fun i => is.getD i 0) (vs.length - 1)
    refine ⟨.int _, H, I.kept (t' := tk) fun b u e => hk b u (fun hmem => ?_) (Heap.get?_push_of_some _ e), ⟨t, rfl⟩, q _ ?_ fun j hj => ?_⟩
    · have e1 : b = s.heap.objs.size := List.mem_singleton.mp hmem
      have e2 := Heap.lt_size e
      rw [e1] at e2
      exact absurd e2 (Nat.lt_irrefl _)
    · have hb : argBest (fun i j => decide (is.getD i 0 > is.getD j 0)) (vs.length - 1) < is.length := by omega
      rw [List.getD_eq_getElem?_getD, List.getElem?_eq_getElem hb]
      exact List.getElem_mem hb
    · obtain ⟨i, hi, e⟩ := List.mem_iff_getElem.mp hj
      have e2 : is.getD i 0 = j := by rw [List.getD_eq_getElem?_getD, List.getElem?_eq_getElem hi, ← e] <;> rfl
      rw [← e2]
      exact b2 i (by omega)
end
def kis? : List Key → Option (List Int)
  | [] => some []
  | .inl i :: ks => (kis? ks).map (i :: ·)
  | _ :: _ => none
theorem kis_of : ∀ {ks : List Key} {is : List Int}, kis? ks = some is → ks = is.map Sum.inl
  | [], _, h => by cases h; rfl
  | .inl i :: ks, is, h => by
    obtain ⟨js, h1, h2⟩ := Option.map_eq_some_iff.mp (show (kis? ks).map (i :: ·) = some is from h)
    subst h2
    rw [kis_of h1]
    rfl
  | .inr _ :: _, _, h => by cases h
def maxA : D → Option D
  | .dic ks _ => (kis? ks).bind fun is => match is with
    | [] => none
    | x :: xs => some (.int (maxL x xs))
  | d => maxD d
section
variable {K : PySem.W.Frag}
theorem cbs_maxA : CbS K (cb1 maxA) (fun xs H Q => rMax K xs H Q ∨ rMaxK xs H Q) := cbs_of1 fun A as s σ H x d z R Q ok r hz w k => by
  by_cases hd : ∃ ks vs, d = .dic ks vs
  · obtain ⟨ks, vs, rfl⟩ := hd
    obtain ⟨is, h, h9⟩ := bind_of (show (kis? ks).bind (fun is => match is with | [] => none | x :: xs => some (D.int (maxL x xs))) = some z from hz)
    cases kis_of h
    obtain ⟨a, kvs, rfl, e1, e2, e3⟩ := r
    cases is with
    | nil => cases h9
    | cons i is =>
      cases h9
      refine .inr ⟨a, kvs, i :: is, rfl, e1, e2, fun z => (nomatch z), fun m z1 z2 => ?_⟩
      obtain ⟨q1, q2, q3⟩ := maxL_spec is i
      have e : m = maxL i is := by
        have h3 := z2 (maxL i is) (q1.elim (fun e => by rw [e]; exact List.mem_cons_self ..) fun h => List.mem_cons_of_mem _ h)
        rcases List.mem_cons.mp z1 with rfl | h
        · omega
        · have := q3 m h
          omega
      subst e
      exact k.here ok (r := .dat (.int _)) .int w
  · cases d with
    | dic ks vs => exact absurd ⟨_, _, rfl⟩ hd
    | lst ds =>
      refine .inl ?_
      obtain ⟨is, h, h9⟩ := bind_of (show (ints? ds).bind _ = some z from hz)
      cases ints_of h
      obtain ⟨a, xs, rfl, h1, h2⟩ := r
      cases h2.nums
      cases is with
      | nil => cases h9
      | cons i is =>
        cases h9
        refine ⟨a, i :: is, rfl, .inl (.inl h1), Nat.succ_pos _, fun m z1 z2 => ?_⟩
        obtain ⟨q1, q2, q3⟩ := maxL_spec is i
        have e : m = maxL i is := by
          have h3 := z2 (maxL i is) (q1.elim (fun e => by rw [e]; exact List.mem_cons_self ..) fun h => List.mem_cons_of_mem _ h)
          rcases List.mem_cons.mp z1 with rfl | h
          · omega
          · have := q3 m h
            omega
        subst e
        exact k.here ok (r := .dat (.int _)) .int w
    | _ => cases hz
end
theorem call_maxA {X : Cx} (hc : X.calm = true) : CallR X (.builtin "max") (fun xs H Q => rMax X.K xs H Q ∨ rMaxK xs H Q) := CallR.or (cr_max hc) (cr_maxK hc)
/-! ### d.get(k), d.get(k, x) -/
def getO : D → D → D → Option D
  | .dic ks vs, k, x => (kO k).bind fun k => some ((dval ks vs k).getD x)
  | _, _, _ => none
def fGet2 (eo ek ex : Ev Sl) : Ev Sl := eo.bind fun p => (fRd p).bind fun d => ek.bind fun q => ex.bind fun r => (fRd q).bind fun k => (fA (datO r)).bind fun x => (fO (getO d k x)).bind fun z => .ret (.dat z)
def fGet1 (eo ek : Ev Sl) : Ev Sl := eo.bind fun p => (fRd p).bind fun d => ek.bind fun q => (fRd q).bind fun k => (fO (getO d k .non)).bind fun z => .ret (.dat z)
section
variable {X : Cx} {o e f : Expr} {apos cpos : Pos} {eo ek ex : Ev Sl}
instance [Pu eo] [Pu ek] [Pu ex] : Pu (fGet2 eo ek ex) := by unfold fGet2; walk_at "pu"
instance [Pu eo] [Pu ek] : Pu (fGet1 eo ek) := by unfold fGet1; walk_at "pu"
theorem get_rep {K : PySem.W.Frag} {F H : Hp} {v : V} {d k x z : D} {y w : V} (r : Rdc K F H v d) (ry : Rdc K F H y k) (rx : Rep K F w x) (h : getO d k x = some z) : ∃ a o, v = .ref a ∧ IsD H a ∧ DGet H a y o ∧ Rep K F (o.getD w) z := by
  cases d with
  | dic ks vs =>
    obtain ⟨j, h5, h6⟩ := bind_of (show (kO k).bind (fun j => some ((dval ks vs j).getD x)) = some z from h)
    cases h6
    obtain ⟨a, kvs, rfl, e1, e2, e3⟩ := r
    refine ⟨a, valV kvs j, rfl, .inl ⟨kvs, e1⟩, .inl ⟨kvs, j, e1, kO_rep h5 ry, rfl⟩, ?_⟩
    obtain ⟨q1, q2⟩ := val_rep (K := K) j e2 e3
    cases e5 : dval ks vs j with
    | none => rw [q2 e5]; exact rx
    | some d => obtain ⟨v, q3, q4⟩ := q1 d e5; rw [q3]; exact q4
  | _ => cases h
theorem f_get2 [p1 : Pu ek] [p2 : Pu ex] (hu : X.A.units + 1 < cLine) (ho : PE X o (up X.K (wE eo))) (he : PE X e (up X.K (wE ek))) (hf : PE X f (up X.K (wE ex))) (m : M2 X o "get" apos e f cpos) :
    PE X (.Call (.Attribute o "get" apos) [e, f] [] cpos) (up X.K (wE (fGet2 eo ek ex))) := pe_imp (pe_dget2 hu ho he hf m) fun σ H Q ⟨A, as, s, R, ok, w, k⟩ => by
  refine ⟨A, as, s, _, ok, wE_bind w, fun v1 H1 p s1 as1 st1 ok1 r1 h => ?_⟩
  obtain ⟨d, h1, h⟩ := wE_prim (wE_bind h)
  have h2 := wE_pu (wE_bind h)
  have isd : ∃ a, v1 = .ref a ∧ IsD H1 a := by
    obtain ⟨q, z1, z2⟩ := h2
    obtain ⟨z3, z4⟩ := z2
    have z5 := wE_pu (wE_bind z4)
    obtain ⟨q2, y1, y2⟩ := z5
    obtain ⟨y3, y4⟩ := y2
    obtain ⟨k', x1, x2⟩ := wE_prim (wE_bind y4)
    obtain ⟨x', x3, x4⟩ := wE_prim (wE_bind x2)
    obtain ⟨z', x5, x6⟩ := wE_prim (wE_bind x4)
    have rd1 := ok1.rdc r1 h1
    cases d with
    | dic ks vs =>
      obtain ⟨a, kvs, e0, e1, e2, e3⟩ := rd1
      exact ⟨a, e0, .inl ⟨kvs, e1⟩⟩
    | _ => cases x5
  obtain ⟨a, rfl, hia⟩ := isd
  refine ⟨a, rfl, hia, A, as1, s1, _, ok1, h2, fun y H2 q s2 as2 st2 ok2 r2 ⟨e2, hh⟩ => ?_⟩
  clear h2 h
  subst e2
  have h3 := wE_pu (wE_bind hh)
  refine ⟨A, as2, s2, _, ok2, h3, fun z H3 r s3 as3 st3 ok3 r3 ⟨e3, hh3⟩ => ?_⟩
  clear h3 hh
  subst e3
  obtain ⟨k', x1, x2⟩ := wE_prim (wE_bind hh3)
  obtain ⟨x', x3, x4⟩ := wE_prim (wE_bind x2)
  obtain ⟨z', x5, x6⟩ := wE_prim (wE_bind x4)
  have r1' := (r1.mono st2.le st2.pre).mono st3.le st3.pre
  cases datO_of x3
  obtain ⟨b, ov, e4, _, g, rr⟩ := get_rep (ok3.rdc r1' h1) (ok3.rdc (r2.mono st3.le st3.pre) x1) r3 x5
  cases e4
  exact ⟨ov, g, k _ H3 (.dat z') s3 as3 ((st1.trans st2).trans st3) ok3 rr (wE_ret x6)⟩
theorem f_get1 [p1 : Pu ek] (hu : X.A.units + 1 < cLine) (ho : PE X o (up X.K (wE eo))) (he : PE X e (up X.K (wE ek))) (m : M1 X o "get" apos e cpos) :
    PE X (.Call (.Attribute o "get" apos) [e] [] cpos) (up X.K (wE (fGet1 eo ek))) := pe_imp (pe_dget1 hu ho he m) fun σ H Q ⟨A, as, s, R, ok, w, k⟩ => by
  refine ⟨A, as, s, _, ok, wE_bind w, fun v1 H1 p s1 as1 st1 ok1 r1 h => ?_⟩
  obtain ⟨d, h1, h⟩ := wE_prim (wE_bind h)
  have h2 := wE_pu (wE_bind h)
  have isd : ∃ a, v1 = .ref a ∧ IsD H1 a := by
    obtain ⟨q, z1, z2⟩ := h2
    obtain ⟨z3, z4⟩ := z2
    obtain ⟨k', x1, x2⟩ := wE_prim (wE_bind z4)
    obtain ⟨z', x5, x6⟩ := wE_prim (wE_bind x2)
    have rd1 := ok1.rdc r1 h1
    cases d with
    | dic ks vs =>
      obtain ⟨a, kvs, e0, e1, e2, e3⟩ := rd1
      exact ⟨a, e0, .inl ⟨kvs, e1⟩⟩
    | _ => cases x5
  obtain ⟨a, rfl, hia⟩ := isd
  refine ⟨a, rfl, hia, A, as1, s1, _, ok1, h2, fun y H2 q s2 as2 st2 ok2 r2 ⟨e2, hh⟩ => ?_⟩
  clear h2 h
  subst e2
  obtain ⟨k', x1, x2⟩ := wE_prim (wE_bind hh)
  obtain ⟨z', x5, x6⟩ := wE_prim (wE_bind x2)
  have r1' := r1.mono st2.le st2.pre
  obtain ⟨b, ov, e4, _, g, rr⟩ := get_rep (ok2.rdc r1' h1) (ok2.rdc r2 x1) (w := .non) .non x5
  cases e4
  exact ⟨ov, g, k _ H2 (.dat z') s2 as2 (st1.trans st2) ok2 rr (wE_ret x6)⟩
/-! ### a new dict that is written; d[k] = v -/
theorem f_dnewC {pos : Pos} : PE X (.Dict [] [] pos) (up X.K (wE (Ev.alloc (.dic [] [])))) := pe_imp pe_dnewK fun σ H Q ⟨A, as, s, R, ok, w, k⟩ => fun p hp =>
  Kon.alloc (o := .dic [] []) (R := R) k ok hp (fun _ le => ⟨[], upd_same, rfl, .nil⟩) (wE_alloc w)
def celK (p : Sl) (μ : Mu) : Option (List Key × List D) := match p with
  | .cel j => match nth μ j with
    | some (.dic ks vs) => some (ks, vs)
    | _ => none
  | _ => none
theorem celK_of {p : Sl} {μ : Mu} {c : List Key × List D} (h : celK p μ = some c) : ∃ j, p = .cel j ∧ celI p = j ∧ nth μ j = some (.dic c.1 c.2) := by
  cases p with
  | cel j =>
    have h : (match nth μ j with | some (.dic ks vs) => some (ks, vs) | _ => none) = some c := h
    cases e : nth μ j with
    | none => rw [e] at h; cases h
    | some o =>
      rw [e] at h
      cases o <;> first
        | (cases h; done)
        | (cases h; exact ⟨j, rfl, rfl, e⟩)
  | _ => cases h
def putO (c : List Key × List D) (k d : D) : Option (List Key × List D) := (kO k).bind fun k => gd (c.1.length + 1) (some (dput c.1 c.2 k d))
def sDPut (ev eo ek : Ev Sl) : EvS := ⟨fun s kn _ => ev.run s.Γ s.μ fun r μ1 => abind (datO r) fun d => eo.run s.Γ μ1 fun p μ2 => ek.run s.Γ μ2 fun q μ3 => abind (celK p μ3) fun c => abind (datO q) fun k => (putO c k d).bind fun c' => kn ⟨s.Γ, put μ3 (celI p) (.dic c'.1 c'.2)⟩,
  fun s => (ev.dir s.Γ s.μ).bind fun r => (datO r.1).bind fun d => (eo.dir s.Γ r.2).bind fun p => (ek.dir s.Γ p.2).bind fun q => (celK p.1 q.2).bind fun c => (datO q.1).bind fun k => (putO c k d).bind fun c' => some (.nx ⟨s.Γ, put q.2 (celI p.1) (.dic c'.1 c'.2)⟩), fun s kn kr => by
  simp only [abind_eq]
  rw [ev.nat, Option.bind_assoc]
  congr 1
  funext r
  rw [Option.bind_assoc]
  congr 1
  funext d
  rw [eo.nat, Option.bind_assoc]
  congr 1
  funext p
  rw [ek.nat, Option.bind_assoc]
  congr 1
  funext q
  rw [Option.bind_assoc]
  congr 1
  funext c
  rw [Option.bind_assoc]
  congr 1
  funext k
  rw [Option.bind_assoc]
  rfl, [], fun s s' h => by
  obtain ⟨_, _, h⟩ := bind_of h
  obtain ⟨_, _, h⟩ := bind_of h
  obtain ⟨_, _, h⟩ := bind_of h
  obtain ⟨_, _, h⟩ := bind_of h
  obtain ⟨_, _, h⟩ := bind_of h
  obtain ⟨_, _, h⟩ := bind_of h
  obtain ⟨_, _, h⟩ := bind_of h
  cases h
  exact ⟨rfl, fun _ _ => rfl⟩⟩
end
end Ge
namespace Ge
open PySem PySem.Spec PyProof.Rows L2 Gd
section
variable {X : Cx} {o i value : Expr} {pos pos' : Pos} {ev eo ek : Ev Sl}
theorem fs_dput (hu : X.A.units + 1 < cLine) (hv : PE X value (up X.K (wE ev))) (ho : PE X o (up X.K (wE eo))) (hi : PE X i (up X.K (wE ek))) (hs : swapsWith value (some (.Subscript o i pos')) pos.line X.env = pure false := by rfl) :
    PS X (.Assign [.Subscript o i pos'] value pos) (upS X.K (wS (sDPut ev eo ek))) := ps_imp (ps_dput hu ho hi hv hs) fun D σ H ⟨A, as, s, d, ok, ⟨oc, q1, q2⟩, cn, cr, cb, cc⟩ => by
  obtain ⟨r, e1, z1⟩ := bind_of q1
  obtain ⟨dv, e2, z2⟩ := bind_of z1
  obtain ⟨p, e3, z3⟩ := bind_of z2
  obtain ⟨q, e4, z4⟩ := bind_of z3
  obtain ⟨c, e5, z5⟩ := bind_of z4
  obtain ⟨k, e6, z6⟩ := bind_of z5
  obtain ⟨c', e7, z7⟩ := bind_of z6
  cases z7
  clear q1 z1 z2 z3 z4 z5 z6
  have w : wE ev s fun r1 s1 => wE eo s1 fun p1 s2 => wE ek s2 fun q1 s3 => r1 = r.1 ∧ p1 = p.1 ∧ q1 = q.1 ∧ s3 = ⟨s.Γ, q.2⟩ := ⟨r, e1, p, e3, q, e4, rfl, rfl, rfl, rfl⟩
  refine ⟨A, as, s, _, ok, w, fun v1 H1 r1 s1 as1 st1 ok1 rr1 w1 => ⟨A, as1, s1, _, ok1, w1, fun x H2 p1 s2 as2 st2 ok2 rp w2 => ⟨A, as2, s2, _, ok2, w2, fun y H3 q1 s3 as3 st3 ok3 rq ⟨g1, g2, g3, g4⟩ => ?_⟩⟩⟩
  subst g1 g2 g3 g4
  obtain ⟨j, hp, hj, hn⟩ := celK_of e5
  obtain ⟨j', h5, h6⟩ := bind_of e7
  obtain ⟨h7, h8⟩ := gd_of h6
  cases h8
  rw [hp] at rp
  obtain ⟨a, ha, rfl⟩ := rp.mono st3.le st3.pre
  have hj2 := nth_eq _ _ hn
  obtain ⟨kvs, g5, g6, g7⟩ := ok3.mem j a _ ha hj2
  rw [datO_of e6] at rq
  rw [datO_of e2] at rr1
  have hd : Rep X.K (vw A as3 q.2 H3) v1 dv := Rep.mono (st2.trans st3).le dv rr1
  obtain ⟨p1, p2⟩ := put_rep hd j' g6 g7
  have hl : kvs.length = c.1.length := by rw [← g6, List.length_map]
  obtain ⟨st4, ok4⟩ := ok3.write (o' := .dic (dput c.1 c.2 j' dv).1 (dput c.1 c.2 j' dv).2) ha hj2 (u := .dK (putK kvs j' v1)) ⟨_, upd_same, p1, p2⟩
  refine ⟨a, _, rfl, .inl ⟨kvs, j', g5, kO_rep h5 (Rep.rdc vw_le rq), by rw [hl]; exact h7.lt, rfl⟩, ?_⟩
  rw [← put_eq] at ok4
  rw [hj] at q2
  exact cn σ _ _ as3 ((st1.trans st2).trans st3).pre ok4 q2
end
/-! ### x, *rest = a tuple; the rest as data -/
def unpS : D → Option (D × List D)
  | .tup (x :: ds) => some (x, ds)
  | _ => none
def gStar (i j : Nat) : EvG := ⟨fun r s k => abind (rd s r) fun d => (unpS d).bind fun p => cond (Nat.blt j s.Γ.length) (k ⟨put (put s.Γ i (.dat p.1)) j (.dat (.lst p.2)), s.μ⟩) none, fun r s => (rd s r).bind fun d => (unpS d).bind fun p => cond (Nat.blt j s.Γ.length) (some ⟨put (put s.Γ i (.dat p.1)) j (.dat (.lst p.2)), s.μ⟩) none, fun r s k => by
  simp only [abind_eq]
  rw [Option.bind_assoc]
  congr 1
  funext d
  rw [Option.bind_assoc]
  congr 1
  funext p
  cases Nat.blt j s.Γ.length <;> rfl, [i, j], fun r s s' h => by
  obtain ⟨_, _, h⟩ := bind_of h
  obtain ⟨_, _, h⟩ := bind_of h
  cases e : Nat.blt j s.Γ.length with
  | false => rw [e] at h; cases h
  | true =>
    rw [e] at h
    cases h
    exact ⟨(put_len _ _ _).trans (put_len _ _ _), fun k hk => (put_ne fun e => hk (by subst e; simp)).trans (put_ne fun e => hk (by subst e; simp))⟩⟩
theorem unpS_of {d : D} {p : D × List D} (h : unpS d = some p) : d = .tup (p.1 :: p.2) := by
  cases d with
  | tup ds =>
    cases ds with
    | nil => cases h
    | cons x ds => cases h; rfl
  | _ => cases h
section
variable {X : Cx} {e : Expr} {pos : Pos} {ee : Ev Sl} {x y : Str} {k : Nat} {p0 p1 p2 p3 : Pos}
theorem fs_star [pu : Pu ee] (i j : Nat) (hc : X.calm = true) (hN : X.N.Nodup) (hij : i ≠ j) (he : PE X e (up X.K (wE ee))) (hi : X.N[i]? = some x := by rfl) (hj : X.N[j]? = some y := by rfl)
    (hx : Loc X.env.scope x := by first | exact Or.inl rfl | exact Or.inr rfl) (hy : Loc X.env.scope y := by first | exact Or.inl rfl | exact Or.inr rfl)
    (hf : X.fn x = true ∨ X.env.scope.names.lookup x = some .local := by first | exact .inl rfl | exact .inr rfl | assumption) (hg : X.fn y = true ∨ X.env.scope.names.lookup y = some .local := by first | exact .inl rfl | exact .inr rfl | assumption)
    (hs : swapsWithSole [.Tuple [.Name x p1, .Starred (.Name y p2) p3] k p0] e pos.line X.env = pure false := by rfl) (hw : swappedStores [.Tuple [.Name x p1, .Starred (.Name y p2) p3] k p0] e X.env = pure none := by rfl)
    (h1 : (assignEach [.Tuple [.Name x p1, .Starred (.Name y p2) p3] k p0] X.env).map (·.2) = [assign (.Tuple [.Name x p1, .Starred (.Name y p2) p3] k p0) X.env] := by rfl) :
    PS X (.Assign [.Tuple [.Name x p1, .Starred (.Name y p2) p3] k p0] e pos) (upS X.K (wS (sAsg ee (gStar i j)))) :=
  ps_w (s_fzO j (s_asg he (g_star i j hc hN hi hj hx hy hf hg) hs hw h1)) fun D s bl ⟨o, q1, q2⟩ => by
    obtain ⟨p, z1, z2⟩ := bind_of q1
    obtain ⟨s3, z3, z4⟩ := bind_of z2
    cases z4
    obtain ⟨d, z5, z6⟩ := bind_of z3
    obtain ⟨u, z7, z8⟩ := bind_of z6
    have hjl : j < s.Γ.length ∧ s3 = ⟨put (put s.Γ i (.dat u.1)) j (.dat (.lst u.2)), p.2⟩ := by
      have z8 : cond (Nat.blt j s.Γ.length) (some (S.mk (put (put s.Γ i (.dat u.1)) j (.dat (.lst u.2))) p.2)) none = some s3 := z8
      cases eb : Nat.blt j s.Γ.length with
      | false => rw [eb] at z8; cases z8
      | true => rw [eb] at z8; cases z8; exact ⟨Nat.le_of_ble_eq_true eb, rfl⟩
    obtain ⟨hjl, rfl⟩ := hjl
    refine ⟨p, z1, ?_⟩
    show optK (rd ⟨s.Γ, p.2⟩ p.1) _
    rw [z5]
    cases unpS_of z7
    have hm : p.2 = s.μ := pu.pu _ _ _ z1
    rw [hm]
    rw [hm] at q2
    have hne : ∀ (l : Ga) (a b : Nat) (z : Gd.D) (c : Nat), (put l a (.dat z))[b]? = some (some (.cel c)) → l[b]? = some (some (.cel c)) := fun l a b z c e => by
      by_cases h : a = b
      · subst h
        have := put_get e
        cases this
      · rw [put_ne h] at e
        exact e
    exact fz_newO (s := ⟨put s.Γ i (.dat u.1), s.μ⟩) (o := .lst u.2) (i := j) trivial (by show j < (put s.Γ i _).length; rw [put_len]; exact hjl) rfl (fun a b e => bl.sl a b (hne _ _ _ _ _ e)) bl.mo q2
end
end Ge
namespace Ge
open PySem PySem.Spec PyProof.Rows L2 Gd
local macro_rules | `(tactic| walk_at "pu") => `(tactic| repeat' first | with_reducible exact pu_prim | with_reducible exact pu_ret | assumption | with_reducible (refine pu_bind ?_ ?_) | with_reducible (refine pu_cond ?_ ?_) | intro)
theorem hu1 {A : Around} {k : Nat} (hr : Room k A) : A.units + 1 < cLine := by
  have := hu64 hr
  omega
/-! ### list(range(..)), tuple(range(..)) -/
theorem rg_dI (a : Int) (n : Nat) : rg a n = dI ((List.range n).map fun i => a + (i : Nat)) := by
  refine List.ext_getElem? fun i => ?_
  by_cases h : i < n
  · rw [rg_get n a i h]
    unfold dI
    simp [h]
  · rw [List.getElem?_eq_none (by rw [rg_len]; omega), List.getElem?_eq_none (by unfold dI; simp; omega)]
theorem rgV_rep {K : PySem.W.Frag} {F : Hp} (a b : Int) : RepL K F (rgV a b) (rg a (b - a).toNat) := by
  have e : rgV a b = ((List.range (b - a).toNat).map fun i => a + (i : Nat)).map V.int := by
    unfold rgV
    rw [List.map_map]
    rfl
  rw [e, rg_dI]
  exact dI_rep _
def okR (a b : Int) : Bool := decide (-(2 ^ 62) ≤ a ∧ a < 2 ^ 62 ∧ -(2 ^ 62) ≤ b ∧ b < 2 ^ 62 ∧ (b - a).toNat ≤ 100000)
theorem okR_of {a b : Int} (h : okR a b = true) : RgOk a b := by
  have h := of_decide_eq_true h
  exact ⟨h.1, h.2.1, h.2.2.1, h.2.2.2.1, by omega⟩
def rngL1 : D → Option (List D)
  | .int j => if okR 0 j then some (rg 0 (j - 0).toNat) else none
  | _ => none
def rngL2 : D → D → Option (List D)
  | .int i, .int j => if okR i j then some (rg i (j - i).toNat) else none
  | _, _ => none
def fRgD (o : D → Option (List D)) (ea : Ev Sl) : Ev Sl := ea.bind fun p => (fRd p).bind fun d => (fO (o d)).bind fun z => .ret (.dat (.lst z))
def fRgT (o : D → Option (List D)) (ea : Ev Sl) : Ev Sl := ea.bind fun p => (fRd p).bind fun d => (fO (o d)).bind fun z => .ret (.dat (.tup z))
def fRg2D (o : D → D → Option (List D)) (ea eb : Ev Sl) : Ev Sl := ea.bind fun p => eb.bind fun q => (fRd p).bind fun d => (fRd q).bind fun e => (fO (o d e)).bind fun z => .ret (.dat (.lst z))
section
variable {X : Cx} {a b : Expr} {ea eb : Ev Sl} {p p2 q pos : Pos}
instance {o : D → Option (List D)} [Pu ea] : Pu (fRgD o ea) := by unfold fRgD; walk_at "pu"
instance {o : D → Option (List D)} [Pu ea] : Pu (fRgT o ea) := by unfold fRgT; walk_at "pu"
instance {o : D → D → Option (List D)} [Pu ea] [Pu eb] : Pu (fRg2D o ea eb) := by unfold fRg2D; walk_at "pu"
theorem rng1_of {d : D} {z : List D} (h : rngL1 d = some z) : ∃ j, d = .int j ∧ RgOk 0 j ∧ z = rg 0 (j - 0).toNat := by
  cases d <;> first
    | (cases h; done)
    | skip
  obtain ⟨c, h1⟩ := ite_of h
  cases h1
  exact ⟨_, rfl, okR_of c, rfl⟩
theorem rng2_of {d e : D} {z : List D} (h : rngL2 d e = some z) : ∃ i j, d = .int i ∧ e = .int j ∧ RgOk i j ∧ z = rg i (j - i).toNat := by
  cases d <;> cases e <;> first
    | (cases h; done)
    | skip
  obtain ⟨c, h1⟩ := ite_of h
  cases h1
  exact ⟨_, _, rfl, rfl, okR_of c, rfl⟩
theorem f_listRg1 (hc : X.calm = true) (hg : Gl X "list") (hm : X.mg "list" = none) (hg2 : Gl X "range") (hm2 : X.mg "range" = none) (ha : PE X a (up X.K (wE ea))) (na : starEach [a] X.env = (false, eval a X.env) :: starEach [] X.env := by rfl)
    (nb : starEach [.Call (.Name "range" p2) [a] [] q] X.env = (false, eval (.Call (.Name "range" p2) [a] [] q) X.env) :: starEach [] X.env := by rfl) : PE X (.Call (.Name "list" p) [.Call (.Name "range" p2) [a] [] q] [] pos) (up X.K (wE (fRgD rngL1 ea))) :=
  pe_imp (pe_listRg hc hg hm (prg_1 hg2 hm2 ha na) nb) fun σ H Q ⟨A, as, s, R, ok, w, k⟩ => ⟨A, as, s, _, ok, wE_bind w, fun v1 H1 r s1 as1 st1 ok1 r1 h => by
    obtain ⟨d, h1, h⟩ := wE_prim (wE_bind h)
    obtain ⟨z, h2, h⟩ := wE_prim (wE_bind h)
    obtain ⟨j, rfl, hr, rfl⟩ := rng1_of h2
    cases ok1.rdc r1 h1
    exact ⟨j, rfl, hr, fun q hq => lstD (fun v3 H3 t s3 as3 st3 ok3 r3 w3 => k v3 H3 t s3 as3 (st1.trans st3) ok3 r3 w3) ok1 hq (rgV_rep 0 j) (wE_ret h)⟩⟩
theorem f_listRgC1 (hc : X.calm = true) (hg : Gl X "list") (hm : X.mg "list" = none) (hg2 : Gl X "range") (hm2 : X.mg "range" = none) (ha : PE X a (up X.K (wE ea))) (na : starEach [a] X.env = (false, eval a X.env) :: starEach [] X.env := by rfl)
    (nb : starEach [.Call (.Name "range" p2) [a] [] q] X.env = (false, eval (.Call (.Name "range" p2) [a] [] q) X.env) :: starEach [] X.env := by rfl) : PE X (.Call (.Name "list" p) [.Call (.Name "range" p2) [a] [] q] [] pos) (up X.K (wE (fUC rngL1 ea))) :=
  pe_imp (pe_listRg hc hg hm (prg_1 hg2 hm2 ha na) nb) fun σ H Q ⟨A, as, s, R, ok, w, k⟩ => ⟨A, as, s, _, ok, wE_bind w, fun v1 H1 r s1 as1 st1 ok1 r1 h => by
    obtain ⟨d, h1, h⟩ := wE_prim (wE_bind h)
    obtain ⟨z, h2, h⟩ := wE_prim (wE_bind h)
    obtain ⟨j, rfl, hr, rfl⟩ := rng1_of h2
    cases ok1.rdc r1 h1
    exact ⟨j, rfl, hr, fun q hq => Kon.lst (R := R) (fun v3 H3 t s3 as3 st3 ok3 r3 w3 => k v3 H3 t s3 as3 (st1.trans st3) ok3 r3 w3) ok1 hq (rgV_rep 0 j) (wE_alloc h)⟩⟩
theorem f_tupRg1 (hc : X.calm = true) (hg : Gl X "tuple") (hm : X.mg "tuple" = none) (hg2 : Gl X "range") (hm2 : X.mg "range" = none) (ha : PE X a (up X.K (wE ea))) (na : starEach [a] X.env = (false, eval a X.env) :: starEach [] X.env := by rfl)
    (nb : starEach [.Call (.Name "range" p2) [a] [] q] X.env = (false, eval (.Call (.Name "range" p2) [a] [] q) X.env) :: starEach [] X.env := by rfl) : PE X (.Call (.Name "tuple" p) [.Call (.Name "range" p2) [a] [] q] [] pos) (up X.K (wE (fRgT rngL1 ea))) :=
  pe_imp (pe_tupRgZ hc hg hm (prg_1 hg2 hm2 ha na) nb) fun σ H Q ⟨A, as, s, R, ok, w, k⟩ => ⟨A, as, s, _, ok, wE_bind w, fun v1 H1 r s1 as1 st1 ok1 r1 h => by
    obtain ⟨d, h1, h⟩ := wE_prim (wE_bind h)
    obtain ⟨z, h2, h⟩ := wE_prim (wE_bind h)
    obtain ⟨j, rfl, hr, rfl⟩ := rng1_of h2
    cases ok1.rdc r1 h1
    exact ⟨j, rfl, hr, Kon.nuT (fun v3 H3 t s3 as3 st3 ok3 r3 w3 => k v3 H3 t s3 as3 (st1.trans st3) ok3 r3 w3) ok1 (rgV_rep 0 j) (wE_ret h)⟩⟩
theorem f_listRg2 (hc : X.calm = true) (hg : Gl X "list") (hm : X.mg "list" = none) (hg2 : Gl X "range") (hm2 : X.mg "range" = none) (ha : PE X a (up X.K (wE ea))) (hb : PE X b (up X.K (wE eb))) (na : starEach [a, b] X.env = (false, eval a X.env) :: starEach [b] X.env := by rfl) (nb2 : starEach [b] X.env = (false, eval b X.env) :: starEach [] X.env := by rfl) (hp : (backTo q (starEach [b] X.env)).any (·.1) = false := by rfl)
    (nb : starEach [.Call (.Name "range" p2) [a, b] [] q] X.env = (false, eval (.Call (.Name "range" p2) [a, b] [] q) X.env) :: starEach [] X.env := by rfl) : PE X (.Call (.Name "list" p) [.Call (.Name "range" p2) [a, b] [] q] [] pos) (up X.K (wE (fRg2D rngL2 ea eb))) :=
  pe_imp (pe_listRg hc hg hm (prg_2 hg2 hm2 ha hb na nb2 hp) nb) fun σ H Q ⟨A, as, s, R, ok, w, k⟩ => ⟨A, as, s, _, ok, wE_bind w, fun v1 H1 r s1 as1 st1 ok1 r1 h => ⟨A, as1, s1, _, ok1, wE_bind h, fun v2 H2 r' s2 as2 st2 ok2 r2 h => by
    obtain ⟨d, h1, h⟩ := wE_prim (wE_bind h)
    obtain ⟨e, h3, h⟩ := wE_prim (wE_bind h)
    obtain ⟨z, h2, h⟩ := wE_prim (wE_bind h)
    obtain ⟨i, j, rfl, rfl, hr, rfl⟩ := rng2_of h2
    cases ok2.rdc (r1.mono st2.le st2.pre) h1
    cases ok2.rdc r2 h3
    exact ⟨i, j, rfl, rfl, hr, fun q hq => lstD (fun v3 H3 t s3 as3 st3 ok3 r3 w3 => k v3 H3 t s3 as3 ((st1.trans st2).trans st3) ok3 r3 w3) ok2 hq (rgV_rep i j) (wE_ret h)⟩⟩⟩
end
end Ge
namespace Ge
open PySem PySem.Spec PyProof.Rows L2 Gd
local macro_rules | `(tactic| walk_at "pu") => `(tactic| repeat' first | with_reducible exact pu_prim | with_reducible exact pu_ret | assumption | with_reducible (refine pu_bind ?_ ?_) | with_reducible (refine pu_cond ?_ ?_) | intro)
/-! ### instances -/
def chkA (cl C : Addr) : Option Unit := if C = cl then some () else none
theorem chkA_of {cl C : Addr} {u : Unit} (h : chkA cl C = some u) : C = cl := by
  unfold chkA at h
  split at h
  · assumption
  · cases h
/-- a field of an instance that is data -/
def fldD (cl : Addr) (f : Str) : D → Option D
  | .ins C ns vs => if C = cl then dval ns vs f else none
  | _ => none
theorem lookup_valV {f : Str} : ∀ {fs : List (Str × V)}, fs.lookup f = valV fs f
  | [] => rfl
  | (g, x) :: r => by
    have ih := lookup_valV (f := f) (fs := r)
    rw [List.lookup_cons]
    by_cases e : g = f
    · subst e
      rw [valV_pos rfl]
      simp
    · rw [valV_neg e, ← ih]
      have : (f == g) = false := beq_eq_false_iff_ne.mpr fun z => e z.symm
      rw [this]
section
variable {X : Cx} {e o value : Expr} {f : Str} {pos pos' : Pos} {ee eo ev : Ev Sl} {cl : Addr}
theorem f_fld (c : Cls X.K cl) (n : NoAttr X.K cl f) (he : PE X e (up X.K (wE ee))) (hb : attributeBase e f X.env (eval e X.env) = eval e X.env := by rfl) : PE X (.Attribute e f pos) (up X.K (wE (fU (fldD cl f) ee))) :=
  pe_imp (pe_fld he hb) fun σ H Q ⟨A, as, s, R, ok, w, k⟩ => ⟨A, as, s, _, ok, wE_U w, fun v1 H1 p s1 as1 st1 ok1 r1 ⟨d, z, h1, h2, h3⟩ => by
    have rd1 := ok1.rdc r1 h1
    cases d with
    | ins C ns vs =>
      obtain ⟨hC, h4⟩ := ite_of h2
      subst hC
      obtain ⟨a, dx, fs, rfl, e1, e2, e3⟩ := rd1
      obtain ⟨v, h5, h6⟩ := (val_rep f e2 e3).1 z h4
      exact ⟨a, C, dx, fs, v, rfl, e1, c, n, by rw [lookup_valV]; exact h5, k v H1 (.dat z) s1 as1 st1 ok1 h6 h3⟩
    | _ => cases h2⟩
/-- .. of one that is written -/
def celN (f : Str) (p : Sl) (μ : Mu) : Option (Addr × D) := match p with
  | .cel j => match nth μ j with
    | some (.ins C fs) => (match List.lookup f fs with | some (.dat d) => some (C, d) | _ => none)
    | _ => none
  | _ => none
theorem celN_of {f : Str} {p : Sl} {μ : Mu} {c : Addr × D} (h : celN f p μ = some c) : ∃ j fs, p = .cel j ∧ nth μ j = some (.ins c.1 fs) ∧ fs.lookup f = some (.dat c.2) := by
  cases p with
  | cel j =>
    have h : (match nth μ j with | some (.ins C fs) => (match List.lookup f fs with | some (.dat d) => some (C, d) | _ => none) | _ => none) = some c := h
    cases e : nth μ j with
    | none => rw [e] at h; cases h
    | some o =>
      rw [e] at h
      cases o with
      | ins C fs =>
        have h : (match List.lookup f fs with | some (.dat d) => some (C, d) | _ => none) = some c := h
        cases e2 : List.lookup f fs with
        | none => rw [e2] at h; cases h
        | some r =>
          rw [e2] at h
          cases r with
          | dat d => cases h; exact ⟨j, fs, rfl, e, e2⟩
          | _ => cases h
      | _ => cases h
  | _ => cases h
def fFldC (cl : Addr) (f : Str) (ee : Ev Sl) : Ev Sl := ee.bind fun p => (Ev.adm fun _ μ => celN f p μ).bind fun c => (fO (chkA cl c.1)).bind fun _ => .ret (.dat c.2)
instance [Pu ee] : Pu (fFldC cl f ee) := by unfold fFldC; walk_at "pu"
theorem lookS {K : PySem.W.Frag} {F : Hp} {as : List Addr} {f : Str} {d : D} : ∀ {gs : List (Str × V)} {fs : List (Str × Sl)}, gs.map (·.1) = fs.map (·.1) → RepSs K F as (gs.map (·.2)) (fs.map (·.2)) → fs.lookup f = some (.dat d) → ∃ v, gs.lookup f = some v ∧ Rep K F v d
  | [], [], _, _, h => by cases h
  | [], _ :: _, h, _, _ => by cases h
  | _ :: _, [], h, _, _ => by cases h
  | (g, v) :: gs, (m, r) :: fs, e, h, l => by
    have e1 : g = m := (List.cons.inj e).1
    subst e1
    rw [List.lookup_cons] at l
    rw [List.lookup_cons]
    cases q : f == g with
    | true =>
      rw [q] at l
      cases l
      exact ⟨v, rfl, h.1⟩
    | false =>
      rw [q] at l
      exact lookS (List.cons.inj e).2 h.2 l
theorem f_fldC (c : Cls X.K cl) (n : NoAttr X.K cl f) (he : PE X e (up X.K (wE ee))) (hb : attributeBase e f X.env (eval e X.env) = eval e X.env := by rfl) : PE X (.Attribute e f pos) (up X.K (wE (fFldC cl f ee))) :=
  pe_imp (pe_fld he hb) fun σ H Q ⟨A, as, s, R, ok, w, k⟩ => ⟨A, as, s, _, ok, wE_bind w, fun v1 H1 p s1 as1 st1 ok1 r1 h => by
    obtain ⟨q, h1, h⟩ := wE_prim (wE_bind h)
    obtain ⟨u, h2, h⟩ := wE_prim (wE_bind h)
    have h3 := wE_ret h
    obtain ⟨j, fs, rfl, h4, h5⟩ := celN_of h1
    obtain ⟨a, ha, rfl⟩ := r1
    obtain ⟨dx, gs, g1, g2, g3⟩ := ok1.mem j a _ ha (nth_eq _ _ h4)
    obtain ⟨v, g4, g5⟩ := lookS g2 g3 h5
    have hC := chkA_of h2
    rw [hC] at g1
    exact ⟨a, cl, dx, gs, v, rfl, g1, c, n, g4, k v H1 (.dat q.2) s1 as1 st1 ok1 g5 h3⟩⟩
/-! self.f = e -/
def putFS (f : Str) (r : Sl) : List (Str × Sl) → List (Str × Sl)
  | [] => [(f, r)]
  | (g, x) :: rs => if g = f then (g, r) :: rs else (g, x) :: putFS f r rs
theorem putFS_rep {K : PySem.W.Frag} {F : Hp} {as : List Addr} {f : Str} {v : V} {r : Sl} (h : RepS K F as v r) : ∀ {gs : List (Str × V)} {fs : List (Str × Sl)}, gs.map (·.1) = fs.map (·.1) → RepSs K F as (gs.map (·.2)) (fs.map (·.2)) →
    (putF f v gs).map (·.1) = (putFS f r fs).map (·.1) ∧ RepSs K F as ((putF f v gs).map (·.2)) ((putFS f r fs).map (·.2))
  | [], [], _, _ => ⟨rfl, h, trivial⟩
  | [], _ :: _, e, _ => by cases e
  | _ :: _, [], e, _ => by cases e
  | (g, x) :: gs, (m, y) :: fs, e, q => by
    have e1 : g = m := (List.cons.inj e).1
    subst e1
    have e2 : gs.map (·.1) = fs.map (·.1) := (List.cons.inj e).2
    unfold putF putFS
    by_cases c : g = f
    · rw [if_pos c, if_pos c]
      exact ⟨e, h, q.2⟩
    · rw [if_neg c, if_neg c]
      obtain ⟨h1, h2⟩ := putFS_rep (f := f) h e2 q.2
      exact ⟨congrArg (g :: ·) h1, q.1, h2⟩
def celA (p : Sl) (μ : Mu) : Option (Addr × List (Str × Sl)) := match p with
  | .cel j => match nth μ j with
    | some (.ins C fs) => some (C, fs)
    | _ => none
  | _ => none
theorem celA_of {p : Sl} {μ : Mu} {c : Addr × List (Str × Sl)} (h : celA p μ = some c) : ∃ j, p = .cel j ∧ celI p = j ∧ nth μ j = some (.ins c.1 c.2) := by
  cases p with
  | cel j =>
    have h : (match nth μ j with | some (.ins C fs) => some (C, fs) | _ => none) = some c := h
    cases e : nth μ j with
    | none => rw [e] at h; cases h
    | some o =>
      rw [e] at h
      cases o <;> first
        | (cases h; done)
        | (cases h; exact ⟨j, rfl, rfl, e⟩)
  | _ => cases h
def sFst (cl : Addr) (f : Str) (ev eo : Ev Sl) : EvS := ⟨fun s kn _ => ev.run s.Γ s.μ fun r μ1 => abind (datO r) fun d => eo.run s.Γ μ1 fun p μ2 => abind (celA p μ2) fun c => (chkA cl c.1).bind fun _ => cond (Nat.blt c.2.length 1000) (kn ⟨s.Γ, put μ2 (celI p) (.ins c.1 (putFS f (.dat d) c.2))⟩) none,
  fun s => (ev.dir s.Γ s.μ).bind fun r => (datO r.1).bind fun d => (eo.dir s.Γ r.2).bind fun p => (celA p.1 p.2).bind fun c => (chkA cl c.1).bind fun _ => cond (Nat.blt c.2.length 1000) (some (.nx ⟨s.Γ, put p.2 (celI p.1) (.ins c.1 (putFS f (.dat d) c.2))⟩)) none, fun s kn kr => by
  simp only [abind_eq]
  rw [ev.nat, Option.bind_assoc]
  congr 1
  funext r
  rw [Option.bind_assoc]
  congr 1
  funext d
  rw [eo.nat, Option.bind_assoc]
  congr 1
  funext p
  rw [Option.bind_assoc]
  congr 1
  funext c
  rw [Option.bind_assoc]
  congr 1
  funext u
  cases Nat.blt c.2.length 1000 <;> rfl, [], fun s s' h => by
  obtain ⟨_, _, h⟩ := bind_of h
  obtain ⟨_, _, h⟩ := bind_of h
  obtain ⟨_, _, h⟩ := bind_of h
  obtain ⟨c, _, h⟩ := bind_of h
  obtain ⟨_, _, h⟩ := bind_of h
  cases e : Nat.blt c.2.length 1000 with
  | false => rw [e] at h; cases h
  | true =>
    rw [e] at h
    cases h
    exact ⟨rfl, fun _ _ => rfl⟩⟩
theorem fs_fst (c : Cls X.K cl) (n : NoAttr X.K cl f) (hv : PE X value (up X.K (wE ev))) (ho : PE X o (up X.K (wE eo))) (hs : swapsWith value (some (.Attribute o f pos')) pos.line X.env = pure false := by rfl) :
    PS X (.Assign [.Attribute o f pos'] value pos) (upS X.K (wS (sFst cl f ev eo))) := ps_imp (ps_fld ho hv hs) fun D σ H ⟨A, as, s, d, ok, ⟨oc, q1, q2⟩, cn, cr, cb, cc⟩ => by
  obtain ⟨r, e1, z1⟩ := bind_of q1
  obtain ⟨dv, e2, z2⟩ := bind_of z1
  obtain ⟨p, e3, z3⟩ := bind_of z2
  obtain ⟨ca, e5, z5⟩ := bind_of z3
  obtain ⟨u, e6, z6⟩ := bind_of z5
  cases eb : Nat.blt ca.2.length 1000 with
  | false => rw [eb] at z6; cases z6
  | true =>
    rw [eb] at z6
    cases z6
    clear q1 z1 z2 z3 z5
    have w : wE ev s fun r1 s1 => wE eo s1 fun p1 s2 => r1 = r.1 ∧ p1 = p.1 ∧ s2 = ⟨s.Γ, p.2⟩ := ⟨r, e1, p, e3, rfl, rfl, rfl⟩
    refine ⟨A, as, s, _, ok, w, fun v1 H1 r1 s1 as1 st1 ok1 rr1 w1 => ⟨A, as1, s1, _, ok1, w1, fun x H2 p1 s2 as2 st2 ok2 rp ⟨g1, g2, g4⟩ => ?_⟩⟩
    subst g1 g2 g4
    obtain ⟨j, hp, hj, hn⟩ := celA_of e5
    rw [hp] at rp
    obtain ⟨a, ha, rfl⟩ := rp
    have hj2 := nth_eq _ _ hn
    obtain ⟨dx, gs, g5, g6, g7⟩ := ok2.mem j a _ ha hj2
    rw [datO_of e2] at rr1
    have hd : RepS X.K (vw A as2 p.2 H2) as2 v1 (.dat dv) := Rep.mono st2.le dv rr1
    obtain ⟨p1, p2⟩ := putFS_rep (f := f) hd g6 g7
    have hC := chkA_of e6
    have hl : gs.length = ca.2.length := by
      have := congrArg List.length g6
      rw [List.length_map, List.length_map] at this
      exact this
    obtain ⟨st4, ok4⟩ := ok2.write (o' := .ins ca.1 (putFS f (.dat dv) ca.2)) ha hj2 (u := .ins ca.1 dx (putF f v1 gs)) ⟨dx, _, upd_same, p1, p2⟩
    rw [hC] at g5 ok4
    refine ⟨a, cl, dx, gs, rfl, g5, c, n, by rw [hl]; exact Nat.le_of_ble_eq_true eb, ?_⟩
    rw [← put_eq] at ok4
    rw [hj, hC] at q2
    exact cn σ _ _ as2 (st1.trans st2).pre ok4 q2
end
/-! ### __init__: what it lays into the fields -/
def boxI (ns : List Str) (μ : Mu) : Option (Addr × TN ns) := match μ with
  | some (.ins C fs) :: _ => (getN ns fs).bind fun t => some (C, t)
  | _ => none
theorem boxI_of {ns : List Str} {μ : Mu} {p : Addr × TN ns} (h : boxI ns μ = some p) : μ.take 1 = [some (.ins p.1 (putN ns p.2))] := by
  unfold boxI at h
  split at h
  · obtain ⟨t, h1, h2⟩ := bind_of h
    cases h2
    rw [getN_put h1]
    rfl
  · cases h
def fsI (ns : List Str) (m : Addr → List D → Option (Addr × TN ns)) : FS := fun args μ R => ∃ C ds p, args = .cel 0 :: ds.map .dat ∧ μ = [some (.ins C [])] ∧ m C ds = some p ∧ R (.dat .non) [some (.ins p.1 (putN ns p.2))]
theorem okI {ns : List Str} {m : Addr → List D → Option (Addr × TN ns)} {body : EvS} {n N : Nat} (hm : ∀ C ds, ds.length + 1 = n → m C ds = body.run (entry N (.cel 0 :: ds.map .dat) [some (.ins C [])]) (fun s => boxI ns s.μ) (fun _ _ => none)) :
    ∀ args μ R, args.length = n → fsI ns m args μ R → wS body (Dn.of false μ.length R) (entry N args μ) := fun args μ R hn ⟨C, ds, p, h1, h2, h3, h4⟩ => by
  subst h1 h2
  rw [hm C ds (by rw [← hn, List.length_cons, List.length_map]), body.nat] at h3
  obtain ⟨o, h5, h6⟩ := bind_of h3
  refine ⟨o, h5, ?_⟩
  cases o with
  | nx s1 =>
    have h6 : boxI ns s1.μ = some p := h6
    show belowAll 1 (s1.μ.take 1) ∧ R (.dat .non) (s1.μ.take 1)
    rw [boxI_of h6]
    exact ⟨⟨noIns.bel (show noIns (MO.ins _ (putN _ _)) from putN_plain _ _) 1, trivial⟩, h4⟩
  | rt r s1 => cases h6
end Ge
namespace Ge
open PySem PySem.Spec PyProof.Rows L2 Gd
local macro_rules | `(tactic| walk_at "pu") => `(tactic| repeat' first | with_reducible exact pu_prim | with_reducible exact pu_ret | assumption | with_reducible (refine pu_bind ?_ ?_) | with_reducible (refine pu_cond ?_ ?_) | intro)
/-! ### methods that read; new instances -/
/-- a method of the class at C -/
structure GM (P : Program) (w : World) (K : PySem.W.Frag) (mg : Str → Option Value) (base : Heap) (C : Addr) (mn : Str) (k n : Nat) (m : List D → Option D) : Prop where
  ex : ∃ (f : Addr) (fd : FuncData) (ps : List Str), FnOk P w K mg base CX0 k f fd ps (spD K n (fsP m)) ∧ Meth K C mn f ∧ Binds K fd ps []
  ln : ∀ ds v, m ds = some v → ds.length = n
/-- __init__ of the class at C -/
structure GI (P : Program) (w : World) (K : PySem.W.Frag) (mg : Str → Option Value) (base : Heap) (C : Addr) (x : Str) (k n : Nat) (ns : List Str) (m : Addr → List D → Option (Addr × TN ns)) : Prop where
  ex : ∃ (f : Addr) (fd : FuncData) (ps : List Str), FnOk P w K mg base CX0 k f fd ps (spD K n (fsI ns m)) ∧ Mk K C f ∧ Binds K fd ps []
  mg : mg x = some (.ref C)
  ln : ∀ c ds v, m c ds = some v → ds.length + 1 = n
theorem fnok_mono {P : Program} {w : World} {K : PySem.W.Frag} {mg : Str → Option Value} {base : Heap} {j k : Nat} {f : Addr} {fd : FuncData} {ps : List Str} {sp : Sp} (h : FnOk P w K mg base CX0 j f fd ps sp) (l : j ≤ k) : FnOk P w K mg base CX0 k f fd ps sp := h.mono l
theorem GM.mono {P : Program} {w : World} {K : PySem.W.Frag} {mg : Str → Option Value} {base : Heap} {C : Addr} {mn : Str} {j k n : Nat} {m : List D → Option D} (G : GM P w K mg base C mn j n m) (h : j ≤ k) : GM P w K mg base C mn k n m :=
  let ⟨f, fd, ps, F, q⟩ := G.ex
  ⟨⟨f, fd, ps, fnok_mono F h, q⟩, G.ln⟩
theorem GI.mono {P : Program} {w : World} {K : PySem.W.Frag} {mg : Str → Option Value} {base : Heap} {C : Addr} {x : Str} {j k n : Nat} {ns : List Str} {m : Addr → List D → Option (Addr × TN ns)} (G : GI P w K mg base C x j n ns m) (h : j ≤ k) : GI P w K mg base C x k n ns m :=
  let ⟨f, fd, ps, F, q⟩ := G.ex
  ⟨⟨f, fd, ps, fnok_mono F h, q⟩, G.mg, G.ln⟩
def insO (cl : Addr) (mn : Str) : D → Option Unit
  | .ins C ns _ => if C = cl ∧ mn ∉ ns then some () else none
  | _ => none
def fMeth (cl : Addr) (mn : Str) (m : List D → Option D) (eo : Ev Sl) (er : Ev (List Sl)) : Ev Sl := eo.bind fun p => (fA (datO p)).bind fun d => (fO (insO cl mn d)).bind fun _ => er.bind fun ps => (fA (datsO ps)).bind fun ds => (fO (m (d :: ds))).bind fun z => .ret (.dat z)
instance {cl : Addr} {mn : Str} {m : List D → Option D} {eo : Ev Sl} {er : Ev (List Sl)} [Pu eo] [Pu er] : Pu (fMeth cl mn m eo er) := by unfold fMeth; walk_at "pu"
section
variable {X : Cx} {o e : Expr} {es : List Expr} {eo : Ev Sl} {er : Ev (List Sl)} {cl : Addr} {mn x : Str} {k n : Nat} {m : List D → Option D} {pos apos p : Pos}
theorem none_of_names {f : Str} : ∀ {fs : List (Str × V)} {ns : List Str}, fs.map (·.1) = ns → f ∉ ns → fs.lookup f = none
  | [], _, _, _ => rfl
  | (g, v) :: fs, ns, e, h => by
    subst e
    have h1 : f ≠ g := fun z => h (z ▸ List.mem_cons_self ..)
    rw [List.lookup_cons, beq_eq_false_iff_ne.mpr h1]
    exact none_of_names rfl fun z => h (List.mem_cons_of_mem _ z)
theorem ins_of {d : D} {u : Unit} (h : insO cl mn d = some u) : ∃ ns vs, d = .ins cl ns vs ∧ mn ∉ ns := by
  cases d with
  | ins C ns vs =>
    obtain ⟨c, _⟩ := ite_of (show (if C = cl ∧ mn ∉ ns then some () else none) = some u from h)
    obtain ⟨rfl, c⟩ := c
    exact ⟨ns, vs, rfl, c⟩
  | _ => cases h
theorem meth_go {A : Amb} {as : List Addr} {s : S} {σ : L2.St} {H : Hp} {v : V} {d : D} {vs : List V} {ps : List Sl} {ds : List D} {z : D} {R : Sl → S → Prop} {Q : VK} (G : ∀ ds v, m ds = some v → ds.length = n) (ok : Ok X.K A as s σ H) (r1 : RepS X.K (vw A as s.μ H) as v (.dat d)) (r2 : RepSs X.K (vw A as s.μ H) as vs ps)
    (h1 : datsO ps = some ds) (h2 : m (d :: ds) = some z) (h3 : R (.dat z) s) (k : Kon X.K A as s σ H R Q) : spD X.K n (fsP m) (v :: vs) H Q E0 := by
  rw [datsO_of h1] at r2
  refine callP_ok (ps := (d :: ds).map .dat) (R := R) ok ⟨r1, r2⟩ ⟨by rw [List.length_map]; exact G _ _ h2, noCel_dats (d :: ds), d :: ds, z, rfl, rfl, h2, trivial, ?_⟩ k
  show R (.dat z) ⟨s.Γ, s.μ ++ []⟩
  rw [List.append_nil]
  exact h3
theorem f_meth {pl : Sem Bool} (c : Cls X.K cl) (G : GM X.prog X.w X.K X.mg X.base cl mn k n m) (hr : Room k X.A) (ho : PE X o (up X.K (wE eo))) (ha : PA X (e :: es) (upA X.K (wE er)))
    (hst : starEach (e :: es) X.env = (false, eval e X.env) :: starEach es X.env := by rfl) (hpl : (backTo pos (starEach es X.env)).any (·.1) = false := by rfl)
    (ht : eval (.Call (.Attribute o mn apos) (e :: es) [] pos) X.env = (do
      let ov ← eval o X.env
      standAt apos.atName
      let (f, first) ← holding [ov] (getMethod ov mn pl)
      callWith pos f first (backTo pos (starEach (e :: es) X.env)) (backToKw pos (keywordEach [] X.env))) := by rfl) :
    PE X (.Call (.Attribute o mn apos) (e :: es) [] pos) (up X.K (wE (fMeth cl mn m eo er))) := by
  obtain ⟨f, fd, ps, F, hm, hb⟩ := G.ex
  refine pe_imp (pe_meth ho c hm F hr hb .nil L2.pass0 ha hst hpl ht) fun σ H Q ⟨A, as, s, R, ok, w, k⟩ => ⟨A, as, s, _, ok, wE_bind w, fun v1 H1 p s1 as1 st1 ok1 r1 h => ?_⟩
  obtain ⟨d, h1, ha⟩ := wE_prim (wE_bind h)
  obtain ⟨u, h2, hbb⟩ := wE_prim (wE_bind ha)
  clear h ha
  obtain ⟨ns, vs, rfl, hn⟩ := ins_of h2
  cases datO_of h1
  obtain ⟨a, dx, fs, rfl, g1, g2, g3⟩ := ok1.rdc r1 (rfl : rd s1 (.dat (.ins cl ns vs)) = some _)
  refine ⟨a, dx, fs, rfl, g1, none_of_names g2 hn, A, as1, s1, _, ok1, wE_bind hbb, fun us H2 qs s2 as2 st2 ok2 r2 h => ?_⟩
  obtain ⟨ds, h5, h⟩ := wE_prim (wE_bind h)
  obtain ⟨z, h6, h⟩ := wE_prim (wE_bind h)
  show spD X.K n (fsP m) (V.ref a :: (us ++ [])) H2 Q E0
  rw [List.append_nil]
  exact meth_go (R := R) G.ln ok2 (r1.mono st2.le st2.pre) r2 h5 h6 (wE_ret h) fun v3 H3 t s3 as3 st3 ok3 r3 w3 => k v3 H3 t s3 as3 ((st1.trans st2).trans st3) ok3 r3 w3
theorem f_meth0 {pl : Sem Bool} (c : Cls X.K cl) (G : GM X.prog X.w X.K X.mg X.base cl mn k n m) (hr : Room k X.A) (ho : PE X o (up X.K (wE eo)))
    (ht : eval (.Call (.Attribute o mn apos) [] [] pos) X.env = (do
      let ov ← eval o X.env
      standAt apos.atName
      let (f, first) ← holding [ov] (getMethod ov mn pl)
      callWith pos f first (backTo pos (starEach [] X.env)) (backToKw pos (keywordEach [] X.env))) := by rfl) :
    PE X (.Call (.Attribute o mn apos) [] [] pos) (up X.K (wE (fMeth cl mn m eo (.ret [])))) := by
  obtain ⟨f, fd, ps, F, hm, hb⟩ := G.ex
  refine pe_imp (pe_meth0 ho c hm F hr hb .nil L2.pass0 ht) fun σ H Q ⟨A, as, s, R, ok, w, k⟩ => ⟨A, as, s, _, ok, wE_bind w, fun v1 H1 p s1 as1 st1 ok1 r1 h => ?_⟩
  obtain ⟨d, h1, ha⟩ := wE_prim (wE_bind h)
  obtain ⟨u, h2, hbb⟩ := wE_prim (wE_bind ha)
  clear h ha
  obtain ⟨ns, vs, rfl, hn⟩ := ins_of h2
  cases datO_of h1
  obtain ⟨a, dx, fs, rfl, g1, g2, g3⟩ := ok1.rdc r1 (rfl : rd s1 (.dat (.ins cl ns vs)) = some _)
  have h4 := wE_ret (wE_bind hbb)
  obtain ⟨ds, h5, h6⟩ := wE_prim (wE_bind h4)
  obtain ⟨z, h7, h8⟩ := wE_prim (wE_bind h6)
  clear h4 h6 hbb
  cases h5
  refine ⟨a, dx, fs, rfl, g1, none_of_names g2 hn, ?_⟩
  show spD X.K n (fsP m) (V.ref a :: []) H1 Q E0
  exact meth_go (R := R) (ps := []) (ds := []) G.ln ok1 r1 trivial rfl h7 (wE_ret h8) fun v3 H3 t s3 as3 st3 ok3 r3 w3 => k v3 H3 t s3 as3 (st1.trans st3) ok3 r3 w3
/-! C(..) -/
variable {ns : List Str} {mi : Addr → List D → Option (Addr × TN ns)}
def tnL : (ns : List Str) → TN ns → List D
  | [], _ => []
  | _ :: ns, t => t.1 :: tnL ns t.2
theorem putN_d : ∀ (ns : List Str) (t : TN ns), (putN ns t).map (·.1) = ns ∧ (putN ns t).map (fun f => match f.2 with | .dat d => d | _ => D.non) = tnL ns t
  | [], _ => ⟨rfl, rfl⟩
  | n :: ns, t => ⟨congrArg (n :: ·) (putN_d ns t.2).1, congrArg (t.1 :: ·) (putN_d ns t.2).2⟩
def fMakeC (cl : Addr) (mi : Addr → List D → Option (Addr × TN ns)) (er : Ev (List Sl)) : Ev Sl := er.bind fun ps => (fA (datsO ps)).bind fun ds => (fO (mi cl ds)).bind fun p => .alloc (.ins p.1 (putN ns p.2))
def fMake (cl : Addr) (mi : Addr → List D → Option (Addr × TN ns)) (er : Ev (List Sl)) : Ev Sl := er.bind fun ps => (fA (datsO ps)).bind fun ds => (fO (mi cl ds)).bind fun p => .ret (.dat (.ins p.1 ns (tnL ns p.2)))
instance {cl : Addr} [Pu er] : Pu (fMake cl mi er) := by unfold fMake; walk_at "pu"
theorem put_last {α : Type} (x y : α) : ∀ l : List (Option α), put (l ++ [some x]) l.length y = l ++ [some y]
  | [] => rfl
  | z :: l => congrArg (z :: ·) (put_last x y l)
theorem f_makeC (G : GI X.prog X.w X.K X.mg X.base cl x k n ns mi) (hr : Room (k + 1) X.A) (hg : Gl X x) (ha : PA X (e :: es) (upA X.K (wE er))) (hdb : (x == ("__debug__" : Str)) = false := by decide) (he : starEach (e :: es) X.env = (false, eval e X.env) :: starEach es X.env := by rfl)
    (hpl : (backTo pos (starEach es X.env)).any (·.1) = false := by rfl) : PE X (.Call (.Name x p) (e :: es) [] pos) (up X.K (wE (fMakeC cl mi er))) := by
  obtain ⟨f, fd, ps, F, M, hb⟩ := G.ex
  refine pe_imp (pe_make M F hr hg G.mg hb .nil L2.pass0 ha hdb he hpl) fun σ H Q ⟨A, as, s, R, ok, w, k⟩ => ⟨A, as, s, _, ok, wE_bind w, fun vs H1 ps s1 as1 st1 ok1 r1 h => ?_⟩
  obtain ⟨ds, h1, h⟩ := wE_prim (wE_bind h)
  obtain ⟨q, h2, h⟩ := wE_prim (wE_bind h)
  have h3 := wE_alloc h
  intro x dx hx hdx hne
  rw [datsO_of h1] at r1
  obtain ⟨st2, ok2, _⟩ := ok1.new hdx (.own x)
  have hx2 : upd H1 dx (.own x) x = none := by
    rw [upd_ne (Ne.symm hne)]
    exact hx
  obtain ⟨st3, ok3, hl⟩ := ok2.alloc (u := .ins cl dx []) (o := .ins cl []) hx2 (fun F le => ⟨dx, [], upd_same, rfl, trivial⟩)
  show spD X.K n (fsI ns mi) (V.ref x :: (vs ++ [])) _ _ E0
  rw [List.append_nil]
  have rs : RepSs X.K (vw A (as1 ++ [x]) (s1.μ ++ [some (MO.ins cl [])]) (upd (upd H1 dx (.own x)) x (.ins cl dx []))) (as1 ++ [x]) (V.ref x :: vs) (Sl.cel s1.μ.length :: ds.map Sl.dat) := ⟨⟨x, hl, rfl⟩, (r1.mono st2.le st2.pre).mono st3.le st3.pre⟩
  refine callB_ok (i := s1.μ.length) (R := fun r s2 => r = .dat .non ∧ s2 = ⟨s1.Γ, s1.μ ++ [some (.ins q.1 (putN ns q.2))]⟩) ok3 rs ⟨by rw [List.length_cons, List.length_map]; exact G.ln _ _ _ h2, ?_⟩ fun v H4 r s4 as4 st4 ok4 rr ⟨e1, e2⟩ => ?_
  · show optK (nth (s1.μ ++ [some (MO.ins cl [])]) s1.μ.length) _
    rw [nth_app]
    refine ⟨fun f hf => (nomatch hf), rfl, toC_dats ds ⟨cl, ds, q, rfl, rfl, h2, putN_plain _ _, rfl, ?_⟩⟩
    show S.mk s1.Γ (put (s1.μ ++ [some (MO.ins cl [])]) s1.μ.length (MO.ins q.1 (putN ns q.2))) = _
    rw [put_last]
  · subst e1 e2
    have hv : v = .non := by
      have rr : Rep X.K _ v .non := rr
      cases rr
      rfl
    refine ⟨hv, k _ H4 (.cel s1.μ.length) _ as4 (((st1.trans st2).trans st3).trans st4) ok4 ⟨x, pre_get st4.pre hl, rfl⟩ h3⟩
theorem wE_mk {ρ τ : Type} {f : Ev ρ} {g : ρ → Ev τ} {s : S} {R : τ → S → Prop} (h : wE f s fun r s1 => wE (g r) s1 R) : wE (f.bind g) s R := by
  obtain ⟨p, h1, q, h2, h3⟩ := h
  refine ⟨q, ?_, h3⟩
  show (f.dir s.Γ s.μ).bind _ = _
  rw [h1]
  exact h2
theorem wE_pmk {ρ τ : Type} {b : Bool} {o : Ga → Mu → Option ρ} {g : ρ → Ev τ} {s : S} {R : τ → S → Prop} {x : ρ} (h : o s.Γ s.μ = some x) (h2 : wE (g x) s R) : wE ((Ev.primG b o).bind g) s R := wE_mk ⟨(x, s.μ), by
  show (o s.Γ s.μ).bind _ = _
  rw [h]
  rfl, h2⟩
theorem f_make [pu : Pu er] (G : GI X.prog X.w X.K X.mg X.base cl x k n ns mi) (hr : Room (k + 1) X.A) (hg : Gl X x) (ha : PA X (e :: es) (upA X.K (wE er))) (hdb : (x == ("__debug__" : Str)) = false := by decide) (he : starEach (e :: es) X.env = (false, eval e X.env) :: starEach es X.env := by rfl)
    (hpl : (backTo pos (starEach es X.env)).any (·.1) = false := by rfl) : PE X (.Call (.Name x p) (e :: es) [] pos) (up X.K (wE (fMake cl mi er))) := pe_w (e_frz (f_makeC G hr hg ha hdb he hpl)) fun s R bl h => by
  refine show wE (fMakeC cl mi er) s (fun r s2 => frz s r s2 R) from wE_mk (wE_mono (wE_pu (wE_bind h)) fun ps s1 _ ⟨e1, h'⟩ => ?_)
  clear h
  subst e1
  obtain ⟨ds, h2, ha⟩ := wE_prim (wE_bind h')
  obtain ⟨q, h3, hb⟩ := wE_prim (wE_bind ha)
  have h4 := wE_ret hb
  have h5 : nw (.ins q.1 (putN ns q.2)) s1 fun r s2 => frz s1 r s2 R := frz_newO (o := .ins q.1 (putN ns q.2)) (s := s1) (μ := s1.μ) (putN_plain _ _) rfl bl.all (by
    show R (.dat (.ins q.1 ((putN ns q.2).map (·.1)) ((putN ns q.2).map fun f => match f.2 with | .dat d => d | _ => .non))) s1
    rw [(putN_d ns q.2).1, (putN_d ns q.2).2]
    exact h4)
  have h6 : wE (Ev.alloc (.ins q.1 (putN ns q.2))) s1 (fun r s2 => frz s1 r s2 R) := ⟨_, rfl, h5⟩
  exact wE_pmk h2 (wE_pmk h3 h6)
end
end Ge
namespace Ge
open PySem PySem.Spec PyProof.Rows L2 Gd
local macro_rules | `(tactic| walk_at "pu") => `(tactic| repeat' first | with_reducible exact pu_prim | with_reducible exact pu_ret | assumption | with_reducible (refine pu_bind ?_ ?_) | with_reducible (refine pu_cond ?_ ?_) | intro)
/-! ### a dict of the module, texts to numbers: d.get(x, y) -/
structure KDg (K : PySem.W.Frag) (w : World) (p : Addr) (tab : List (Str × Int)) : Prop where
  ex : ∃ es n, K.lookup p = some ⟨.type "dict", none, .dict es n, #[]⟩ ∧ PySem.W.KeysLit w.params es.toList ∧ (p == sysModules) = false
  at_ : ∀ x : Str, (∃ i t, tab.lookup x = some i ∧ PySem.W.nsIn K p x = some (some (.int i t))) ∨ (tab.lookup x = none ∧ PySem.W.nsIn K p x = some none)
def tKGet (tab : List (Str × Int)) (ty tx : TE) : TE := fun σ H Q => ty σ H fun y H2 => tx σ H2 fun z H3 => ∃ x, y = .str x ∧ (∀ i, tab.lookup x = some i → Q (.int i) H3) ∧ (tab.lookup x = none → Q z H3)
def kgetO (tab : List (Str × Int)) : D → D → Option D
  | .str x, d => some (match tab.lookup x with | some i => .int i | none => d)
  | _, _ => none
def fKGet (tab : List (Str × Int)) (ek ex : Ev Sl) : Ev Sl := ek.bind fun q => ex.bind fun r => (fRd q).bind fun k => (fA (datO r)).bind fun x => (fO (kgetO tab k x)).bind fun z => .ret (.dat z)
instance {tab : List (Str × Int)} {ek ex : Ev Sl} [Pu ek] [Pu ex] : Pu (fKGet tab ek ex) := by unfold fKGet; walk_at "pu"
section
variable {X : Cx} {e f : Expr} {apos cpos q : Pos} {ek ex : Ev Sl} {x : Str} {p : Addr} {tab : List (Str × Int)} {ty tx : TE}
theorem pe_kget (hg : Gl X x) (hm : X.mg x = some (.ref p)) (kd : KDg X.K X.w p tab) (he : PE X e ty) (hf : PE X f tx) (m : M2 X (.Name x q) "get" apos e f cpos) (hd : (x == ("__debug__" : Str)) = false := by decide) : PE X (.Call (.Attribute (.Name x q) "get" apos) [e, f] [] cpos) (tKGet tab ty tx) := by
  refine ⟨fun pins s σ H Q I h => ?_⟩
  obtain ⟨es, n, hl, hk, hs⟩ := kd.ex
  refine wpAny_Call_method m.base m.few m.line PySem.F.plainAttrs_dict PySem.F.slot_dict_get PySem.F.type_dict_get (thn ((pe_glob (v := .ref p) (pos := q) hg hm rfl hd).run pins s σ H (fun v H1 => v = .ref p ∧ H1 = H) I ⟨rfl, rfl⟩) fun u s1 ⟨v, H1, I1, rx, hv, hH⟩ => ?_)
  subst hv hH
  obtain rfl : u = Value.ref p := rx
  have hm1 := PySem.W.mapOf_K (prog := X.prog) (w := X.w) I1.kIn hl hk
  refine ⟨hm1.typeIs, hm1.noDict, ?_⟩
  rw [m.trees]
  refine Calls.callWith_builtin rfl (Calls.evalArgs_plain (Calls.spliced_cons (thn (he.run pins s1 σ H1 _ I1 h) fun iv s2 ⟨y, H2, I2, ry, q2⟩ =>
    Calls.spliced_cons (thn (hf.run pins s2 σ H2 _ I2 q2) fun fv s3 ⟨z, H3, I3, rz, t, ey, q3, q4⟩ => Calls.spliced_nil ?_))))
  subst ey
  obtain ⟨tk, rfl⟩ := (show ∃ tk, iv = Value.str t tk from ry)
  have hm3 := PySem.W.mapOf_K (prog := X.prog) (w := X.w) I3.kIn hl hk
  rcases kd.at_ t with ⟨i, t', h1, h2⟩ | ⟨h1, h2⟩
  · refine call_meetsIn PySem.F.slot_dict_get hm3.typeIs PySem.F.entry_dict_get (PySem.F.args_dict_get_3 _ _ _) (meets_dict_get_default (strKind X.prog X.w) p (strKind_is X.prog X.w t tk) hs fv) ⟨_, hm3, ?_⟩
    rw [PySem.W.find_K hl h2]
    exact ⟨.int i, H3, I3.tok _, ⟨t', rfl⟩, q3 i h1⟩
  · refine call_meetsIn PySem.F.slot_dict_get hm3.typeIs PySem.F.entry_dict_get (PySem.F.args_dict_get_3 _ _ _) (meets_dict_get_default (strKind X.prog X.w) p (strKind_is X.prog X.w t tk) hs fv) ⟨_, hm3, ?_⟩
    rw [PySem.W.find_K hl h2]
    exact ⟨z, H3, I3.tok _, rz, q4 h1⟩
theorem f_kget (hg : Gl X x) (hm : X.mg x = some (.ref p)) (kd : KDg X.K X.w p tab) (he : PE X e (up X.K (wE ek))) (hf : PE X f (up X.K (wE ex))) (m : M2 X (.Name x q) "get" apos e f cpos) (hd : (x == ("__debug__" : Str)) = false := by decide) : PE X (.Call (.Attribute (.Name x q) "get" apos) [e, f] [] cpos) (up X.K (wE (fKGet tab ek ex))) :=
  pe_imp (pe_kget hg hm kd he hf m hd) fun σ H Q ⟨A, as, s, R, ok, w, k⟩ => ⟨A, as, s, _, ok, wE_bind w, fun y H2 q s2 as2 st2 ok2 r2 h => ⟨A, as2, s2, _, ok2, wE_bind h, fun z H3 r s3 as3 st3 ok3 r3 h => by
    obtain ⟨kk, h1, h⟩ := wE_prim (wE_bind h)
    obtain ⟨x', h2, h⟩ := wE_prim (wE_bind h)
    obtain ⟨zz, h3, h⟩ := wE_prim (wE_bind h)
    have h4 := wE_ret h
    have r2' := ok3.rdc (r2.mono st3.le st3.pre) h1
    rw [datO_of h2] at r3
    cases kk with
    | str t =>
      cases r2'
      have h3 : some (match tab.lookup t with | some i => D.int i | none => x') = some zz := h3
      refine ⟨t, rfl, fun i e => ?_, fun e => ?_⟩
      · rw [e] at h3
        cases h3
        exact k _ H3 (.dat (.int i)) s3 as3 (st2.trans st3) ok3 .int h4
      · rw [e] at h3
        cases h3
        exact k _ H3 (.dat x') s3 as3 (st2.trans st3) ok3 r3 h4
    | _ => cases h3⟩⟩
end
end Ge
namespace Ge
open PySem PySem.Spec PyProof.Rows L2 Gd
/-! ### len of an instance: its own __len__ -/
section
variable {X : Cx} {CX : CXT} {k : Nat} {f C : Addr} {fd : FuncData} {ps : List Str} {sp : Sp} {dvs : List V} {ds : List Value} {E : XK}
theorem run_fn1 {pins : List (Addr × Obj)} {σ : L2.St} {H : Hp} {s : Shared} {Q : VK} {us : List Value} {vs : List V} (F : FnOk X.prog X.w X.K X.mg X.base CX k f fd ps sp) (hr : Room (k + 1) X.A) (hb : Binds X.K fd ps ds) (hd : Vals dvs ds) (hx : Passes CX X E)
    (I : Inv X pins σ H s) (r : Vals vs us) (h : sp (vs ++ dvs) H Q E) : wpAny (model X.prog X.w) X.A.in1 (call (.ref f) us) (EP X pins σ Q) X.xe s := by
  have r2 : Vals (vs ++ dvs) (us ++ ds) := r.append hd
  have hl : (us ++ ds).length = ps.length := by rw [← r2.length]; exact F.len _ _ _ _ h
  refine wpAny_call (codeAny_mono (F.run X.A.in1 X.stack s H ⟨us, []⟩ (us ++ ds) (vs ++ dvs) Q E hr.in1 I.env0.in1 (hb s us I.kIn hl) r2 h) fun r s' hq => ?_)
  cases r with
  | error e => exact hx pins σ H s e s' I hq
  | ok fl =>
    cases fl with
    | ret u => exact I.after hq
    | next => exact False.elim hq
    | brk => exact False.elim hq
    | cont => exact False.elim hq
def rLenI (C : Addr) (sp : Sp) (dvs : List V) (E : XK) : List V → Hp → VK → Prop := fun xs H Q => ∃ a dx fs, xs = [V.ref a] ∧ H a = some (.ins C dx fs) ∧ sp (V.ref a :: dvs) H (fun v H1 => ∃ n : Int, v = .int n ∧ 0 ≤ n ∧ n < 2 ^ 63 ∧ Q (.int n) H1) E
theorem call_lenI (hm : Meth X.K C "__len__" f) (F : FnOk X.prog X.w X.K X.mg X.base CX k f fd ps sp) (hr : Room (k + 1) X.A) (hb : Binds X.K fd ps ds) (hd : Vals dvs ds) (hx : Passes CX X E) : CallR X (.builtin "len") (rLenI C sp dvs E) := by
  intro pins s σ H xs us Q I r h
  obtain ⟨a, dx, fs, rfl, ha, hsp⟩ := h
  obtain ⟨u, rfl, rx⟩ := vals1 r
  cases rx
  obtain ⟨_, _, _, hob, _⟩ := (show ObjOk X.prog X.w H s.heap a (.ins C dx fs) from I.hok a _ ha)
  have hfn : ∃ of, s.heap.get? f = some of ∧ of.cls = .type "function" := by
    have e := beq_iff_eq.mp hm.fn
    unfold PySem.W.typeIn at e
    dsimp only at e
    cases q : X.K.lookup f with
    | none => simp [q] at e
    | some of =>
      simp [q] at e
      exact ⟨of, I.kIn f of q, e⟩
  obtain ⟨of, hfo, hfc⟩ := hfn
  refine Calls.call_function_entry kind_len plain_len entry_len (args_len1 _) ?_
  unfold Builtin.«len»
  refine wpAny_bind (m := oneArg "len" _) (wpAny_pure ?_)
  have lt : PySem.W.Looks (model X.prog X.w) s.heap (typeOf (.ref a)) (.ref C) := (PySem.W.Looks.ld hob).andThen .now
  have run := run_fn1 (us := [.ref a]) (vs := [V.ref a]) F hr hb hd hx I (.cons rfl .nil) hsp
  have hc : wpAny (model X.prog X.w) X.A.in1 (callSpecial? (.ref a) (Str.ofString "__len__")) (fun r s' => ∃ v, r = some v ∧ EP X pins σ (fun v H1 => ∃ n : Int, v = .int n ∧ 0 ≤ n ∧ n < 2 ^ 63 ∧ Q (.int n) H1) v s') X.xe s := by
    unfold callSpecial? specialOf
    refine wpAny_bind (wpAny_bind (lt.here ((PySem.W.looks_findIn I.kIn hm.at_).here ?_)))
    refine wpAny_holding (wpAny_bind (wpAny_bindSpecial_def (s := s) hfo hfc ?_))
    first
      | exact wpAny_bind (wpAny_mono run (fun v s' h' => wpAny_pure ⟨v, rfl, h'⟩) fun _ _ h' => h')
      | exact wpAny_pure (wpAny_bind (wpAny_mono run (fun v s' h' => wpAny_pure ⟨v, rfl, h'⟩) fun _ _ h' => h'))
  refine wpAny_bind (m := callSpecial? (.ref a) (Str.ofString "__len__")) (wpAny_mono hc (fun r s' hr => ?_) fun _ _ y => y)
  obtain ⟨u, rfl, v, H1, I1, rv, n, rfl, h0, h1, hq⟩ := hr
  obtain ⟨t, rfl⟩ := rv
  refine wpAny_bind (wpAny_holding (wpAny_pure ?_))
  refine wpAny_bind (wpAny_letGo ?_)
  show wpAny _ _ (if n < 0 then _ else _) _ _ _
  rw [if_neg (by omega)]
  show wpAny _ _ (if n ≥ 2 ^ 63 then _ else _) _ _ _
  rw [if_neg (by omega)]
  exact wpAny_bind (wpAny_mkInt (wpAny_pure ⟨_, rfl, .int n, H1, I1.tok _, ⟨_, rfl⟩, hq⟩))
end
def natO : D → Option Unit
  | .int n => if 0 ≤ n ∧ n < 2 ^ 63 then some () else none
  | _ => none
theorem natO_of {d : D} {u : Unit} (h : natO d = some u) : ∃ n : Int, d = .int n ∧ 0 ≤ n ∧ n < 2 ^ 63 := by
  cases d <;> first
    | (cases h; done)
    | skip
  obtain ⟨c, _⟩ := ite_of h
  exact ⟨_, rfl, c⟩
def fLenI (cl : Addr) (m : List D → Option D) (eo : Ev Sl) : Ev Sl := eo.bind fun p => (fA (datO p)).bind fun d => (fO (insO cl "" d)).bind fun _ => (fO (m [d])).bind fun z => (fO (natO z)).bind fun _ => .ret (.dat z)
section
variable {X : Cx} {e : Expr} {eo : Ev Sl} {cl : Addr} {k : Nat} {m : List D → Option D} {pos p : Pos}
instance [Pu eo] : Pu (fLenI cl m eo) := by unfold fLenI; exact pu_bind inferInstance fun _ => pu_bind pu_prim fun _ => pu_bind pu_prim fun _ => pu_bind pu_prim fun _ => pu_bind pu_prim fun _ => pu_ret
theorem f_lenI (G : GM X.prog X.w X.K X.mg X.base cl "__len__" k 1 m) (hr : Room (k + 1) X.A) (hg : Gl X "len") (hmm : X.mg "len" = none) (ho : PE X e (up X.K (wE eo)))
    (he : starEach [e] X.env = (false, eval e X.env) :: starEach [] X.env := by rfl) (hpl : (backTo pos (starEach [] X.env)).any (·.1) = false := by rfl) : PE X (.Call (.Name "len" p) [e] [] pos) (up X.K (wE (fLenI cl m eo))) := by
  obtain ⟨f, fd, ps, F, hm, hb⟩ := G.ex
  refine pe_imp (pe_callB (call_lenI hm F hr hb .nil L2.pass0) hg hmm PySem.boot_len (pa_cons ho pa_nil he) (by decide) (by decide) he hpl) fun σ H Q ⟨A, as, s, R, ok, w, k⟩ => ⟨A, as, s, _, ok, wE_bind w, fun v1 H1 p s1 as1 st1 ok1 r1 h => ?_⟩
  obtain ⟨d, h1, ha⟩ := wE_prim (wE_bind h)
  obtain ⟨u, h2, hbb⟩ := wE_prim (wE_bind ha)
  obtain ⟨z, h3, hcc⟩ := wE_prim (wE_bind hbb)
  obtain ⟨u2, h4, hdd⟩ := wE_prim (wE_bind hcc)
  have h5 := wE_ret hdd
  clear h ha hbb hcc hdd
  obtain ⟨ns, vs, rfl, hn⟩ := ins_of h2
  cases datO_of h1
  obtain ⟨n, rfl, n0, n1⟩ := natO_of h4
  obtain ⟨a, dx, fs, rfl, g1, g2, g3⟩ := ok1.rdc r1 (rfl : rd s1 (.dat (.ins cl ns vs)) = some _)
  refine ⟨a, dx, fs, rfl, g1, ?_⟩
  exact meth_go (R := fun r s2 => r = .dat (.int n) ∧ R (.dat (.int n)) s2) (ps := []) (ds := []) G.ln ok1 r1 trivial rfl h3 ⟨rfl, h5⟩ fun v3 H3 t s3 as3 st3 ok3 r3 ⟨e3, w3⟩ => by
    subst e3
    have hv : v3 = .int n := by
      have r3 : Rep X.K _ v3 (.int n) := r3
      cases r3
      rfl
    exact ⟨n, hv, n0, n1, k _ H3 (.dat (.int n)) s3 as3 (st1.trans st3) ok3 .int w3⟩
end
end Ge
namespace Ge
open PySem PySem.Spec PyProof.Rows L2 Gd
local macro_rules | `(tactic| walk_at "pu") => `(tactic| repeat' first | with_reducible exact pu_prim | with_reducible exact pu_ret | assumption | with_reducible (refine pu_bind ?_ ?_) | with_reducible (refine pu_cond ?_ ?_) | intro)
/-! ### calls with keywords, in any order -/
def prm {α : Type} (π : List Nat) (z : α) (us ws : List α) : List α := π.map fun i => (us ++ ws).getD i z
structure GK (P : Program) (w : World) (K : PySem.W.Frag) (mg : Str → Option Value) (base : Heap) (x : Str) (k n a : Nat) (ks : List Str) (π : List Nat) (m : List D → Option D) : Prop where
  ex : ∃ (f : Addr) (fd : FuncData) (ps : List Str), FnOk P w K mg base CX0 k f fd ps (spD K n (fsP m)) ∧ mg x = some (.ref f) ∧ PySem.W.keepIn K (.ref f) = true ∧ KBn K fd ps a ks (prm π Value.none) (prm π V.non)
  ln : ∀ ds v, m ds = some v → ds.length = n
theorem GK.mono {P : Program} {w : World} {K : PySem.W.Frag} {mg : Str → Option Value} {base : Heap} {x : Str} {j k n a : Nat} {ks : List Str} {π : List Nat} {m : List D → Option D} (G : GK P w K mg base x j n a ks π m) (h : j ≤ k) : GK P w K mg base x k n a ks π m :=
  let ⟨f, fd, ps, F, q⟩ := G.ex
  ⟨⟨f, fd, ps, F.mono h, q⟩, G.ln⟩
theorem RepL.of_get {K : PySem.W.Frag} {F : Hp} : ∀ {π : List Nat} {xs : List V} {ds : List D}, RepL K F xs ds → RepL K F (π.map fun i => xs.getD i .non) (π.map fun i => ds.getD i .non)
  | [], _, _, _ => .nil
  | i :: π, xs, ds, h => by
    refine .cons ?_ (RepL.of_get h)
    dsimp only
    rw [List.getD_eq_getElem?_getD, List.getD_eq_getElem?_getD]
    cases e : ds[i]? with
    | none =>
      have hl := h.len
      rw [List.getElem?_eq_none (by rw [hl]; exact List.getElem?_eq_none_iff.mp e)]
      exact .non
    | some d =>
      obtain ⟨v, e1, r⟩ := h.get e
      rw [e1]
      exact r
theorem repS_L {K : PySem.W.Frag} {F : Hp} {as : List Addr} : ∀ {vs : List V} {ds : List D}, RepSs K F as vs (ds.map Sl.dat) → RepL K F vs ds
  | [], [], _ => .nil
  | _ :: _, _ :: _, h => .cons h.1 (repS_L h.2)
  | [], _ :: _, h => h.elim
  | _ :: _, [], h => h.elim
theorem repL_S {K : PySem.W.Frag} {F : Hp} {as : List Addr} : ∀ {vs : List V} {ds : List D}, RepL K F vs ds → RepSs K F as vs (ds.map Sl.dat)
  | _, _, .nil => trivial
  | _, _, .cons r t => ⟨r, repL_S t⟩
section
variable {X : Cx} {CX : CXT} {k n a : Nat} {f : Addr} {fd : FuncData} {ps ks : List Str} {sp : Sp} {E : XK} {x : Str} {p pos kpos : Pos} {e : Expr} {es : List Expr} {kws : List Keyword} {t tk : TA} {g : List Value → List Value → List Value} {gV : List V → List V → List V} {nm : Option Str}
theorem pe_callN0 (F : FnOk X.prog X.w X.K X.mg X.base CX k f fd ps sp) (hr : Room k X.A) (hg : Gl X x) (hm : X.mg x = some (.ref f)) (hk : PySem.W.keepIn X.K (.ref f) = true) (hb : KBn X.K fd ps 0 ks g gV) (hx : Passes CX X E)
    (hkw : PK X kws tk) (hall : (backToKw pos (keywordEach kws X.env)).all (·.1.isSome) = true := by rfl) (hks : (backToKw pos (keywordEach kws X.env)).filterMap (·.1) = ks := by rfl)
    (hdb : (x == ("__debug__" : Str)) = false := by decide) (hpl : ((backTo pos (starEach [] X.env)).any (·.1) || (backToKw pos (keywordEach kws X.env)).any (·.1.isNone)) = false := by rfl) :
    PE X (.Call (.Name x p) [] kws pos) (tCallN 0 ks.length sp gV E tNil tk) := by
  refine ⟨fun pins s σ H Q I h => ?_⟩
  refine wpAny_Call_Name_kw (ld_glob I hg hm ?_ hdb)
  refine PySem.W.callWith_KW0 (h₀ := X.base) I.ok.mod.kin hk hall ?_ hpl
  refine thn (hkw.run pos pins s σ H _ I h) fun ws s2 ⟨zs, H2, I2, rz, l1, l2, q2⟩ => ⟨I2.kIn, ?_⟩
  rw [hks]
  exact run_fnN (us := []) (vs := []) F hr hb hx I2 .nil rz rfl l2 q2
variable {ee : Ev Sl} {er ek : Ev (List Sl)} {m : List D → Option D} {π : List Nat}
def lenO (a : Nat) (ds : List D) : Option Unit := cond (Nat.beq ds.length a) (some ()) none
theorem lenO_of {a : Nat} {ds : List D} {u : Unit} (h : lenO a ds = some u) : ds.length = a := by
  unfold lenO at h
  cases e : Nat.beq ds.length a with
  | false => rw [e] at h; cases h
  | true => exact Nat.eq_of_beq_eq_true e
def fCallK (π : List Nat) (a b : Nat) (m : List D → Option D) (er ek : Ev (List Sl)) : Ev Sl := er.bind fun ps => ek.bind fun qs => (fA (datsO ps)).bind fun ds => (fA (datsO qs)).bind fun es => (fA (lenO a ds)).bind fun _ => (fA (lenO b es)).bind fun _ => (fO (m (prm π .non ds es))).bind fun z => .ret (.dat z)
instance {b : Nat} [Pu er] [Pu ek] : Pu (fCallK π a b m er ek) := by unfold fCallK; walk_at "pu"
theorem fk_nil : PK X [] (upK X.K (wE fANil)) := pk_w k_nil fun s R _ h => wE_ret h
theorem fk_cons (ha : PE X e (up X.K (wE ee))) (hr : PK X kws (upK X.K (wE ek))) : PK X (⟨nm, e, kpos⟩ :: kws) (upK X.K (wE (fACons ee ek))) :=
  pk_w (k_cons ha hr) fun s R _ h => wE_mono (wE_bind h) fun p s1 _ h => wE_mono (wE_bind h) fun ps s2 _ h => wE_ret h
theorem callK_go {A : Amb} {as : List Addr} {s : S} {σ : L2.St} {H : Hp} {vs zs : List V} {qs rs : List Sl} {ds es : List D} {z : D} {R : Sl → S → Prop} {Q : VK} (G : ∀ ds v, m ds = some v → ds.length = n) (ok : Ok X.K A as s σ H) (r1 : RepSs X.K (vw A as s.μ H) as vs qs) (r2 : RepSs X.K (vw A as s.μ H) as zs rs)
    (h1 : datsO qs = some ds) (h2 : datsO rs = some es) (h3 : m (prm π .non ds es) = some z) (h4 : R (.dat z) s) (k : Kon X.K A as s σ H R Q) : spD X.K n (fsP m) (prm π V.non vs zs) H Q E0 := by
  rw [datsO_of h1] at r1
  rw [datsO_of h2] at r2
  have rr : RepL X.K (vw A as s.μ H) (prm π V.non vs zs) (prm π D.non ds es) := RepL.of_get ((repS_L r1).append (repS_L r2))
  refine callP_ok (ps := (prm π D.non ds es).map .dat) (R := R) ok (repL_S rr) ⟨by rw [List.length_map]; exact G _ _ h3, noCel_dats _, _, z, rfl, rfl, h3, trivial, ?_⟩ k
  show R (.dat z) ⟨s.Γ, s.μ ++ []⟩
  rw [List.append_nil]
  exact h4
theorem f_callK0 (G : GK X.prog X.w X.K X.mg X.base x k n 0 ks π m) (hr : Room k X.A) (hg : Gl X x) (hkw : PK X kws (upK X.K (wE ek))) (hall : (backToKw pos (keywordEach kws X.env)).all (·.1.isSome) = true := by rfl) (hks : (backToKw pos (keywordEach kws X.env)).filterMap (·.1) = ks := by rfl)
    (hdb : (x == ("__debug__" : Str)) = false := by decide) (hpl : ((backTo pos (starEach [] X.env)).any (·.1) || (backToKw pos (keywordEach kws X.env)).any (·.1.isNone)) = false := by rfl) :
    PE X (.Call (.Name x p) [] kws pos) (up X.K (wE (fCallK π 0 ks.length m fANil ek))) := by
  obtain ⟨f, fd, ps, F, hm, hk, hb⟩ := G.ex
  refine pe_imp (pe_callN0 F hr hg hm hk hb L2.pass0 hkw hall hks hdb hpl) fun σ H Q ⟨A, as, s, R, ok, w, kk⟩ => ⟨A, as, s, _, ok, wE_bind (wE_ret (wE_bind w)), fun zs H2 qs s2 as2 st2 ok2 r2 h => ?_⟩
  obtain ⟨ds, h1, ha⟩ := wE_prim (wE_bind h)
  obtain ⟨es, h2, hb2⟩ := wE_prim (wE_bind ha)
  obtain ⟨_, h3, hc⟩ := wE_prim (wE_bind hb2)
  obtain ⟨_, h4, hd⟩ := wE_prim (wE_bind hc)
  obtain ⟨z, h5, he⟩ := wE_prim (wE_bind hd)
  refine ⟨rfl, ?_, ?_⟩
  · have e := datsO_of h2
    rw [e] at r2
    have := (repS_L r2).len
    rw [this]
    exact lenO_of h4
  · exact callK_go (R := R) (qs := []) (vs := []) G.ln ok2 trivial r2 h1 h2 h5 (wE_ret he) fun v3 H3 t s3 as3 st3 ok3 r3 w3 => kk v3 H3 t s3 as3 (st2.trans st3) ok3 r3 w3
theorem f_callK (G : GK X.prog X.w X.K X.mg X.base x k n a ks π m) (hr : Room k X.A) (hg : Gl X x) (ha : PA X (e :: es) (upA X.K (wE er))) (hkw : PK X kws (upK X.K (wE ek))) (hall : (backToKw pos (keywordEach kws X.env)).all (·.1.isSome) = true := by rfl) (hks : (backToKw pos (keywordEach kws X.env)).filterMap (·.1) = ks := by rfl)
    (hdb : (x == ("__debug__" : Str)) = false := by decide) (he : starEach (e :: es) X.env = (false, eval e X.env) :: starEach es X.env := by rfl)
    (hpl : ((backTo pos (starEach (e :: es) X.env)).any (·.1) || (backToKw pos (keywordEach kws X.env)).any (·.1.isNone)) = false := by rfl) :
    PE X (.Call (.Name x p) (e :: es) kws pos) (up X.K (wE (fCallK π a ks.length m er ek))) := by
  obtain ⟨f, fd, ps, F, hm, hk, hb⟩ := G.ex
  refine pe_imp (pe_callN F hr hg hm hk hb L2.pass0 ha hkw hall hks hdb he hpl) fun σ H Q ⟨A, as, s, R, ok, w, kk⟩ => ⟨A, as, s, _, ok, wE_bind w, fun vs H1 ps1 s1 as1 st1 ok1 r1 w1 => ⟨A, as1, s1, _, ok1, wE_bind w1, fun zs H2 qs s2 as2 st2 ok2 r2 h => ?_⟩⟩
  obtain ⟨ds, h1, ha⟩ := wE_prim (wE_bind h)
  obtain ⟨es, h2, hb2⟩ := wE_prim (wE_bind ha)
  obtain ⟨_, h3, hc⟩ := wE_prim (wE_bind hb2)
  obtain ⟨_, h4, hd⟩ := wE_prim (wE_bind hc)
  obtain ⟨z, h5, he⟩ := wE_prim (wE_bind hd)
  have r1' : RepSs X.K (vw A as2 s2.μ H2) as2 vs ps1 := r1.mono st2.le st2.pre
  refine ⟨?_, ?_, ?_⟩
  · have q := r1'
    rw [datsO_of h1] at q
    rw [(repS_L q).len]
    exact lenO_of h3
  · have q := r2
    rw [datsO_of h2] at q
    rw [(repS_L q).len]
    exact lenO_of h4
  · exact callK_go (R := R) G.ln ok2 r1' r2 h1 h2 h5 (wE_ret he) fun v3 H3 t s3 as3 st3 ok3 r3 w3 => kk v3 H3 t s3 as3 ((st1.trans st2).trans st3) ok3 r3 w3
/-! x, y, z = a, b, c -/
def sPar3 (i j l : Nat) (a b c : Ev Sl) : EvS := ⟨fun s kn _ => a.run s.Γ s.μ fun p μ => b.run s.Γ μ fun q μ => c.run s.Γ μ fun r μ => kn ⟨put (put (put s.Γ i p) j q) l r, μ⟩, fun s => (a.dir s.Γ s.μ).bind fun p => (b.dir s.Γ p.2).bind fun q => (c.dir s.Γ q.2).bind fun r => some (.nx ⟨put (put (put s.Γ i p.1) j q.1) l r.1, r.2⟩), fun s kn kr => by
  rw [a.nat, Option.bind_assoc]
  congr 1
  funext p
  rw [b.nat, Option.bind_assoc]
  congr 1
  funext q
  rw [c.nat, Option.bind_assoc]
  rfl, [i, j, l], fun s s' h => by
  obtain ⟨_, _, h⟩ := bind_of h
  obtain ⟨_, _, h⟩ := bind_of h
  obtain ⟨_, _, h⟩ := bind_of h
  cases h
  exact ⟨(put_len _ _ _).trans ((put_len _ _ _).trans (put_len _ _ _)), fun k hk => (put_ne fun e => hk (by subst e; simp)).trans ((put_ne fun e => hk (by subst e; simp)).trans (put_ne fun e => hk (by subst e; simp)))⟩⟩
theorem fs_par3 {i j l : Nat} {x y z : Str} {a b c : Expr} {ea eb ec : Ev Sl} {px py pz pt pos : Pos} {kt k2 pt2} (hc : X.calm = true) (hN : X.N.Nodup) (hi : X.N[i]? = some x) (hj : X.N[j]? = some y) (hl : X.N[l]? = some z) (hij : i ≠ j) (hil : i ≠ l) (hjl : j ≠ l)
    (hx : X.env.scope.names.lookup x = some .local) (hy : X.env.scope.names.lookup y = some .local) (hz : X.env.scope.names.lookup z = some .local) (ha : PE X a (up X.K (wE ea))) (hb : PE X b (up X.K (wE eb))) (hcc : PE X c (up X.K (wE ec)))
    (hw : swappedStores [.Tuple [.Name x px, .Name y py, .Name z pz] kt pt] (.Tuple [a, b, c] k2 pt2) X.env = pure (some [x, y, z]) := by rfl)
    (hs : swapsWithSole [.Tuple [.Name x px, .Name y py, .Name z pz] kt pt] (.Tuple [a, b, c] k2 pt2) pos.line X.env = pure false := by rfl)
    (h1 : starEach [a, b, c] X.env = (false, eval a X.env) :: starEach [b, c] X.env := by rfl) (h2 : starEach [b, c] X.env = (false, eval b X.env) :: starEach [c] X.env := by rfl) (h3 : starEach [c] X.env = (false, eval c X.env) :: starEach [] X.env := by rfl) :
    PS X (.Assign [.Tuple [.Name x px, .Name y py, .Name z pz] kt pt] (.Tuple [a, b, c] k2 pt2) pos) (upS X.K (wS (sPar3 i j l ea eb ec))) := ps_imp (ps_par3 hc hN hi hj hl hij hil hjl hx hy hz (f_acons ha (f_acons hb (f_acons hcc f_anil h3) h2) h1) hw hs) fun D σ H ⟨A, as, s, d, ok, ⟨o, q1, q2⟩, cn, cr, cb, cd⟩ => by
  obtain ⟨p, e1, z1⟩ := bind_of q1
  obtain ⟨q, e2, z2⟩ := bind_of z1
  obtain ⟨r, e3, z3⟩ := bind_of z2
  cases z3
  have w : wE (fACons ea (fACons eb (fACons ec fANil))) s fun ps s1 => ps = [p.1, q.1, r.1] ∧ s1 = ⟨s.Γ, r.2⟩ :=
    wE_mk ⟨p, e1, wE_mk ⟨([q.1, r.1], r.2), by
      show (eb.dir s.Γ p.2).bind _ = _
      rw [e2]
      show ((ec.dir s.Γ q.2).bind _).bind _ = _
      rw [e3]
      rfl, ⟨([p.1, q.1, r.1], r.2), rfl, rfl, rfl⟩⟩⟩
  refine ⟨A, as, s, _, ok, w, fun vs H1 ps s1 as1 st1 ok1 r1 ⟨g1, g2⟩ => ?_⟩
  subst g1 g2
  match vs, r1 with
  | [v, u, t], r1 =>
    exact ⟨v, u, t, rfl, cn _ H1 _ as1 st1.pre (((ok1.named r1.1 i).named (s := ⟨put s.Γ i p.1, r.2⟩) r1.2.1 j).named (s := ⟨put (put s.Γ i p.1) j q.1, r.2⟩) r1.2.2.1 l) q2⟩
end
end Ge
namespace Ge
open PySem PySem.Spec PyProof.Rows L2 Gd
/-! ### a list that is still written, lent to a def that answers a plain value -/
def scal : D → Bool
  | .non => true
  | .bl _ => true
  | .int _ => true
  | .str _ => true
  | _ => false
theorem callL_ok {K : PySem.W.Frag} {A : Amb} {as : List Addr} {s : S} {σ : L2.St} {H : Hp} {vs : List V} {ds : List D} {z : D} {n : Nat} {m : List D → Option D} {μ0 : Mu} {R : Sl → S → Prop} {Q : VK} {E : XK} (G : ∀ ds v, m ds = some v → ds.length = n) (ok : Ok K A as s σ H)
    (l : Less s.μ μ0) (hk : ∀ (i : Nat) (o : MO), s.μ[i]? = some (some o) → μ0[i]? = some (some o) ∨ ∃ es, o = .lst es) (rs : RepSs K (vw A as μ0 H) as vs (ds.map Sl.dat)) (h : m ds = some z) (hz : scal z = true) (w : R (.dat z) s) (k : Kon K A as s σ H R Q) : spD K n (fsP m) vs H Q E := by
  obtain ⟨st0, ok0⟩ := ok.less l
  let B : Amb := { M0 := hid A as μ0, H0 := H, pin := vw A as μ0 H, as0 := [], He := H }
  have hs : ∀ a, hid A as μ0 a → H a ≠ none := fun a h => by
    rcases h with h | ⟨i, o, h1, h2⟩
    · rw [(ok.m0 a h).2]
      exact (ok.m0 a h).1
    · exact (ok0.mem i a o h1 h2).some
  have ev : ∀ H1, vw B [] [] H1 = vw A as μ0 H1 := fun H1 => by
    funext a
    by_cases h : hid A as μ0 a
    · rw [vw_yes h]
      exact vw_yes (Or.inl h)
    · rw [vw_no h]
      refine vw_no ?_
      rintro (z | ⟨i, o, z, _⟩)
      · exact h z
      · simp at z
  have hrep := repS_L rs
  refine ⟨B, [], ds.map Sl.dat, [], fun r μ' => r = .dat z ∧ μ' = [], by rw [List.length_map]; exact G _ _ h, rfl, rfl, ⟨rfl, List.nodup_nil, fun a z => absurd z (by simp), fun a z => absurd z (by simp), fun a z => ⟨hs a z, rfl⟩, by rw [ev]; exact Le.refl _, fun i r h => ?_, fun i a o h => by simp at h, ?_, fun a z => absurd z (by simp), fun a z => z⟩, ⟨ds, z, rfl, rfl, h, rfl, rfl⟩, fun v H' r μ' as' pre ok' le rep hR => ?_⟩
  · rw [ev]
    exact (noCel_rep (noCel_dats ds) rs).get i r h
  · show ((ds.map Sl.dat).map some).length = (vs.map some).length
    rw [List.length_map, List.length_map, List.length_map]
    exact hrep.len.symm
  obtain ⟨rfl, rfl⟩ := hR
  have e0 : as' = [] := List.length_eq_zero_iff.mp ok'.len
  subst e0
  rw [ev, ev] at le
  have hsub : ∀ a, hid A as μ0 a → hid A as s.μ a := fun a h => by
    rcases h with h | ⟨i, o, h1, h2⟩
    · exact .inl h
    · exact .inr ⟨i, o, h1, l.2 i o h2⟩
  have le2 : Le (vw A as s.μ H) (vw A as s.μ H') := fun a u hu => by
    obtain ⟨h1, h2⟩ := vw_of hu
    have h3 : ¬ hid A as μ0 a := fun z => h2 (hsub a z)
    have h4 := le a u (by rw [vw_no h3]; exact h1)
    rw [vw_no h3] at h4
    rw [vw_no h2]
    exact h4
  have same : ∀ (i : Nat) (a : Addr) (o : MO), as[i]? = some a → s.μ[i]? = some (some o) → H' a = H a := fun i a o h1 h2 => by
    by_cases hh : hid A as μ0 a
    · exact (ok'.m0 a hh).2
    · rcases hk i o h2 with h3 | ⟨es, rfl⟩
      · exact absurd (Or.inr ⟨i, o, h1, h3⟩) hh
      · obtain ⟨xs, h4, h5⟩ := ok.mem i a _ h1 h2
        have h6 := le.same (show vw A as μ0 H a = some (.lst xs) by rw [vw_no hh]; exact h4) fun z => z
        rw [h4]
        exact (vw_of h6).1
  have hv : Rep K (vw A as s.μ H') v z := by
    have rep : Rep K _ v z := rep
    cases z <;> first
      | (cases hz; done)
      | (cases rep; constructor)
  refine k v H' (.dat z) s as ⟨List.prefix_refl _, le2⟩ ⟨ok.len, ok.nd, ok.dj, fun a ha => ok'.he a (ok.tr a ha), fun a ha => ⟨(ok.m0 a ha).1, ?_⟩, ok.pin.trans le2, fun i r h => ?_, fun i a o h1 h2 => (ok.mem i a o h1 h2).mono le2 (List.prefix_refl _) (same i a o h1 h2), ok.ln, ok.own, fun a ha => ok'.he a (ok.he a ha)⟩ hv w
  · rw [(ok'.m0 a (.inl ha)).2]
    exact (ok.m0 a ha).2
  · obtain ⟨u, h1, h2⟩ := ok.env i r h
    exact ⟨u, h1, h2.mono le2 (List.prefix_refl _)⟩
/-- what stands at each argument now: data, a list that is written -/
def lendO (μ : Mu) : Sl → Option D
  | .dat d => some d
  | .cel j => match nth μ j with
    | some (.lst ds) => some (.lst ds)
    | _ => none
  | .val _ => none
def lendsO (μ : Mu) : List Sl → Option (List D)
  | [] => some []
  | r :: rs => (lendO μ r).bind fun d => (lendsO μ rs).bind fun ds => some (d :: ds)
def scaO (d : D) : Option Unit := cond (scal d) (some ()) none
/-- all lists given up -/
def unl : Mu → Mu
  | [] => []
  | some (.lst _) :: μ => none :: unl μ
  | o :: μ => o :: unl μ
theorem unl_len : ∀ μ : Mu, (unl μ).length = μ.length
  | [] => rfl
  | some (.lst _) :: μ => congrArg Nat.succ (unl_len μ)
  | some (.dic _ _) :: μ => congrArg Nat.succ (unl_len μ)
  | some (.dct _ _) :: μ => congrArg Nat.succ (unl_len μ)
  | some (.ins _ _) :: μ => congrArg Nat.succ (unl_len μ)
  | none :: μ => congrArg Nat.succ (unl_len μ)
theorem unl_at : ∀ (μ : Mu) (i : Nat), (unl μ)[i]? = match μ[i]? with | some (some (.lst _)) => some none | o => o
  | [], i => by simp [unl]
  | some (.lst _) :: μ, 0 => rfl
  | some (.dic _ _) :: μ, 0 => rfl
  | some (.dct _ _) :: μ, 0 => rfl
  | some (.ins _ _) :: μ, 0 => rfl
  | none :: μ, 0 => rfl
  | some (.lst _) :: μ, i + 1 => unl_at μ i
  | some (.dic _ _) :: μ, i + 1 => unl_at μ i
  | some (.dct _ _) :: μ, i + 1 => unl_at μ i
  | some (.ins _ _) :: μ, i + 1 => unl_at μ i
  | none :: μ, i + 1 => unl_at μ i
theorem unl_less (μ : Mu) : Less μ (unl μ) := ⟨unl_len μ, fun i o h => by
  rw [unl_at] at h
  split at h
  · cases h
  · exact h⟩
theorem lend_rep {K : PySem.W.Frag} {A : Amb} {as : List Addr} {s : S} {σ : L2.St} {H : Hp} (ok : Ok K A as s σ H) : ∀ {vs : List V} {ps : List Sl} {ds : List D}, RepSs K (vw A as s.μ H) as vs ps → lendsO s.μ ps = some ds → RepL K (vw A as (unl s.μ) H) vs ds
  | [], [], _, _, h => by cases h; exact .nil
  | [], _ :: _, _, r, _ => r.elim
  | _ :: _, [], _, r, _ => r.elim
  | v :: vs, p :: ps, ds, r, h => by
    obtain ⟨st, ok0⟩ := ok.less (unl_less s.μ)
    obtain ⟨d, h1, h2⟩ := bind_of (show (lendO s.μ p).bind _ = some ds from h)
    obtain ⟨es, h3, h4⟩ := bind_of h2
    cases h4
    refine .cons ?_ (lend_rep ok r.2 h3)
    cases p with
    | dat d' =>
      cases h1
      exact Rep.mono st.le d r.1
    | val u => cases h1
    | cel j =>
      have h1 : (match nth s.μ j with | some (.lst ds) => some (D.lst ds) | _ => none) = some d := h1
      cases e : nth s.μ j with
      | none => rw [e] at h1; cases h1
      | some o =>
        rw [e] at h1
        cases o with
        | lst es =>
          cases h1
          obtain ⟨a, ha, hv⟩ := r.1
          subst hv
          have hj := nth_eq _ _ e
          obtain ⟨xs, g1, g2⟩ := ok.mem j a _ ha hj
          refine .lst ?_ (RepL.mono st.le _ g2)
          rw [vw_no, g1]
          rintro (z | ⟨i, o2, z1, z2⟩)
          · exact ok.dj a (List.mem_of_getElem? ha) z
          · have l1 := (List.getElem?_eq_some_iff.mp ha)
            have l2 := (List.getElem?_eq_some_iff.mp z1)
            have e2 : j = i := (List.getElem_inj ok.nd).mp (l1.2.trans l2.2.symm)
            subst e2
            rw [unl_at, hj] at z2
            cases z2
        | _ => cases h1
def fCallL (m : List D → Option D) (er : Ev (List Sl)) : Ev Sl := er.bind fun ps => (Ev.adm fun _ μ => lendsO μ ps).bind fun ds => (fO (m ds)).bind fun v => (fO (scaO v)).bind fun _ => .ret (.dat v)
instance {m : List D → Option D} {er : Ev (List Sl)} [Pu er] : Pu (fCallL m er) := by unfold fCallL; exact pu_bind inferInstance fun _ => pu_bind pu_prim fun _ => pu_bind pu_prim fun _ => pu_bind pu_prim fun _ => pu_ret
section
variable {X : Cx} {x : Str} {e : Expr} {es : List Expr} {er : Ev (List Sl)} {m : List D → Option D} {k n : Nat} {p pos : Pos}
theorem f_callL (G : GP X.prog X.w X.K X.mg X.base x k n m) (hr : Room k X.A) (hg : Gl X x) (ha : PA X (e :: es) (upA X.K (wE er))) (hdb : (x == ("__debug__" : Str)) = false := by decide) (he : starEach (e :: es) X.env = (false, eval e X.env) :: starEach es X.env := by rfl)
    (hpl : (backTo pos (starEach es X.env)).any (·.1) = false := by rfl) : PE X (.Call (.Name x p) (e :: es) [] pos) (up X.K (wE (fCallL m er))) := by
  obtain ⟨f, fd, ps, F, hm, hk, hb⟩ := G.fn.ex
  refine pe_imp (pe_call F hr hg hm hk hb .nil L2.pass0 ha hdb he hpl) fun σ H Q ⟨A, as, s, R, ok, w, kk⟩ => ⟨A, as, s, _, ok, wE_bind w, fun vs H1 ps s1 as1 st1 ok1 r1 h => ?_⟩
  obtain ⟨ds, h1, ha⟩ := wE_prim (wE_bind h)
  obtain ⟨v, h2, hb2⟩ := wE_prim (wE_bind ha)
  obtain ⟨u, h3, hc⟩ := wE_prim (wE_bind hb2)
  have h4 := wE_ret hc
  show spD X.K n (fsP m) (vs ++ []) H1 Q E0
  rw [List.append_nil]
  have hz : scal v = true := by
    have h3 : cond (scal v) (some ()) none = some u := h3
    cases e : scal v with
    | false => rw [e] at h3; cases h3
    | true => rfl
  refine callL_ok (R := R) G.ln ok1 (unl_less s1.μ) (fun i o ho => ?_) (repL_S (lend_rep ok1 r1 h1)) h2 hz h4 fun v3 H3 t s3 as3 st3 ok3 r3 w3 => kk v3 H3 t s3 as3 (st1.trans st3) ok3 r3 w3
  rw [unl_at, ho]
  cases o with
  | lst es => exact .inr ⟨es, rfl⟩
  | _ => exact .inl rfl
end
end Ge
namespace Ge
open PySem PySem.Spec PyProof.Rows L2 Gd
/-! ### an answer that is data; what was made on the way is forgotten -/
def belO : Mu → Option Unit
  | [] => some ()
  | none :: μ => belO μ
  | some (.ins _ _) :: _ => none
  | some _ :: μ => belO μ
theorem belO_of (n : Nat) : ∀ {μ : Mu} {u : Unit}, belO μ = some u → belowAll n μ
  | [], _, _ => trivial
  | none :: μ, _, h => belO_of n (μ := μ) h
  | some (.lst _) :: μ, _, h => ⟨trivial, belO_of n (μ := μ) h⟩
  | some (.dic _ _) :: μ, _, h => ⟨trivial, belO_of n (μ := μ) h⟩
  | some (.dct _ _) :: μ, _, h => ⟨trivial, belO_of n (μ := μ) h⟩
  | some (.ins _ _) :: μ, _, h => by cases h
def Ev.cut (f : Ev Sl) : Ev Sl := ⟨fun Γ μ k => f.run Γ μ fun r μ1 => abind (datO r) fun d => abind (belO (μ1.take μ.length)) fun _ => k (.dat d) (μ1.take μ.length),
  fun Γ μ => (f.dir Γ μ).bind fun p => (datO p.1).bind fun d => (belO (p.2.take μ.length)).bind fun _ => some (.dat d, p.2.take μ.length), fun Γ μ k => by
  simp only [abind_eq]
  rw [f.nat, Option.bind_assoc]
  congr 1
  funext p
  rw [Option.bind_assoc]
  congr 1
  funext d
  rw [Option.bind_assoc]
  rfl⟩
theorem f_cut {X : Cx} {e : Expr} {f : Ev Sl} (h : PE X e (up X.K (wE f))) : PE X e (up X.K (wE f.cut)) := pe_w (e_frz h) fun s R bl ⟨p, h1, h2⟩ => by
  obtain ⟨q, h3, h4⟩ := bind_of h1
  obtain ⟨d, h5, h6⟩ := bind_of h4
  obtain ⟨u, h7, h8⟩ := bind_of h6
  cases h8
  refine show wE f s (fun r s1 => frz s r s1 R) from ⟨q, h3, ?_⟩
  rw [datO_of h5]
  exact ⟨belO_of _ h7, h2⟩
end Ge
namespace Ge
open PySem PySem.Spec PyProof.Rows L2 Gd
/-! ### a table of the module, from what it holds -/
def entOf (e : DictEntry) : Option (Str × Int) := match e.key, e.val with
  | .str x _, .int i _ => some (x, i)
  | _, _ => none
theorem ent_ref : ∀ {es : List DictEntry} {tab : List (Str × Int)}, es.map entOf = tab.map some → es.any (·.refKey) = false
  | [], _, _ => rfl
  | e :: es, [], h => by cases h
  | e :: es, t :: tab, h => by
    rw [List.map_cons, List.map_cons] at h
    injection h with h1 h2
    rw [List.any_cons, ent_ref h2, Bool.or_false]
    unfold entOf at h1
    unfold DictEntry.refKey
    split at h1
    · rename_i e1 _
      rw [e1]
    · cases h1
theorem ent_at (x : Str) : ∀ {es : List DictEntry} {tab : List (Str × Int)}, es.map entOf = tab.map some →
    (∃ i t e, tab.lookup x = some i ∧ es.find? (·.key.isStr x) = some e ∧ e.val = .int i t) ∨ (tab.lookup x = none ∧ es.find? (·.key.isStr x) = none)
  | [], [], _ => .inr ⟨rfl, rfl⟩
  | [], _ :: _, h => by cases h
  | e :: es, [], h => by cases h
  | e :: es, (y, i) :: tab, h => by
    rw [List.map_cons, List.map_cons] at h
    injection h with h1 h2
    unfold entOf at h1
    split at h1
    · rename_i y' t i' t' a b
      cases h1
      have hk : e.key.isStr x = (y == x) := by
        rw [a]
        rfl
      rw [List.find?_cons, List.lookup_cons, hk]
      by_cases c : y = x
      · subst c
        rw [show (y == y) = true from beq_self_eq_true y]
        exact .inl ⟨i, t', e, rfl, rfl, b⟩
      · rw [show (y == x) = false from beq_false_of_ne c, show (x == y) = false from beq_false_of_ne (Ne.symm c)]
        exact ent_at x h2
    · cases h1
theorem kdg_mk {K : PySem.W.Frag} {w : World} {p : Addr} {es : Array DictEntry} {n : Nat} {tab : List (Str × Int)} (h1 : K.lookup p = some ⟨.type "dict", none, .dict es n, #[]⟩) (h2 : PySem.W.KeysLit w.params es.toList) (h3 : (p == sysModules) = false) (h4 : es.toList.map entOf = tab.map some) : KDg K w p tab := by
  refine ⟨⟨es, n, h1, h2, h3⟩, fun x => ?_⟩
  have hr := ent_ref h4
  unfold PySem.W.nsIn
  rw [h1]
  rcases ent_at x h4 with ⟨i, t, e, a, b, c⟩ | ⟨a, b⟩
  · refine .inl ⟨i, t, a, ?_⟩
    show (match es.toList.find? (·.key.isStr x) with
      | some e => some (some e.val)
      | none => if es.toList.any (·.refKey) then none else some none) = _
    rw [b]
    show some (some e.val) = _
    rw [c]
  · refine .inr ⟨a, ?_⟩
    show (match es.toList.find? (·.key.isStr x) with
      | some e => some (some e.val)
      | none => if es.toList.any (·.refKey) then none else some none) = _
    rw [b]
    show (if es.toList.any (·.refKey) then none else some none) = _
    rw [hr]
    rfl
/-! ### keywords in another order -/
theorem vals_getD {π : List Nat} {vs : List V} {us : List Value} (h : Vals vs us) : Vals (π.map fun i => vs.getD i .non) (π.map fun i => us.getD i .none) := by
  induction π with
  | nil => exact .nil
  | cons i π ih =>
    refine .cons ?_ ih
    clear ih
    induction h generalizing i with
    | nil => exact rfl
    | cons r _ ih2 =>
      cases i with
      | zero => exact r
      | succ i => exact ih2 i
theorem kbn_prm {K : PySem.W.Frag} {x qual : Str} {st : Stmt} {f : Addr} {fd : FuncData} {a : Nat} {ks ps : List Str} {π : List Nat} (F : Fun K x qual st f fd)
    (h : ∀ (kV doc pm : Value) (an : Option Addr) (cdv ct : Value) (us ws : List Value), us.length = a → ws.length = ks.length → bindArgs (PySem.W.fnOf x qual (defArgs st) (defBody st) (defScope st) .none kV doc pm an cdv ct) ⟨us, ks.zip ws⟩ = pure (ps.zip (prm π Value.none us ws))) :
    KBn K fd ps a ks (prm π Value.none) (prm π V.non) := by
  obtain ⟨oc, od, kV, doc, pm, an, cdv, ct, osl, rfl, lk, hcd⟩ := F.ex
  exact ⟨fun s us ws _ l1 l2 => .of_eq (h kV doc pm an cdv ct us ws l1 l2), fun r1 r2 => vals_getD (r1.append r2)⟩
/-! ### the law: True comes out -/
theorem law_sp {K : PySem.W.Frag} {m : List D → Option D} (h : ∀ is : List Int, is.length ≤ 63 → m [.scr (dI is)] = some (.bl true)) : ∀ vs H Q E, spD K 1 fs_law vs H Q E → spD K 1 (fsP m) vs H Q E := by
  rintro vs H Q E ⟨A, as, args, μ, R, h1, h2, h3, h4, ⟨is, rfl, hl, rfl, q⟩, h6⟩
  exact ⟨A, as, _, _, R, h1, h2, h3, h4, ⟨[.scr (dI is)], .bl true, rfl, rfl, h is hl, q⟩, h6⟩
theorem fnok_none {P : Program} {w : World} {K : PySem.W.Frag} {mg : Str → Option Value} {base : Heap} {k n : Nat} {f : Addr} {fd : FuncData} {ps : List Str} {m : List D → Option D} (h : ∀ ds, m ds = none) : FnOk P w K mg base CX0 k f fd ps (spD K n (fsP m)) := by
  refine ⟨fun vs H Q E q => ?_, fun A outer s H args us vs Q E _ _ _ _ q => ?_⟩
  · obtain ⟨_, _, _, _, _, _, _, _, _, ⟨ds, v, _, _, e, _⟩, _⟩ := q
    rw [h ds] at e
    cases e
  · obtain ⟨_, _, _, _, _, _, _, _, _, ⟨ds, v, _, _, e, _⟩, _⟩ := q
    rw [h ds] at e
    cases e
end Ge
namespace Ge
open PySem PySem.Spec PyProof.Rows L2 Gd
/-! ### is, is not of truths -/
def isBD (neg : Bool) : D → D → Option Bool
  | .bl a, .bl b => some (neg ^^ decide (a = b))
  | _, _ => none
theorem ops_isBD {K : PySem.W.Frag} : OpS K (opB (isBD false)) rIsB := OpS.of fun A as s σ H x y d e R Q ok rx ry w k => by
  obtain ⟨z, hz, w⟩ := w
  cases d <;> cases e <;> first
    | cases hz
    | skip
  cases rx; cases ry
  rw [Bool.false_xor] at w
  exact ⟨_, _, rfl, rfl, k.here ok (r := .dat (.bl _)) .bl w⟩
theorem ops_notBD {K : PySem.W.Frag} : OpS K (opB (isBD true)) rNotB := OpS.of fun A as s σ H x y d e R Q ok rx ry w k => by
  obtain ⟨z, hz, w⟩ := w
  cases d <;> cases e <;> first
    | cases hz
    | skip
  cases rx; cases ry
  rw [Bool.true_xor] at w
  exact ⟨_, _, rfl, rfl, k.here ok (r := .dat (.bl _)) .bl w⟩
/-! ### max, min of a tuple of ints -/
section
variable {prog : Program} {w : World} {A : Around} {E : Value → Shared → Prop} {s : Shared} {l : Addr} {its : List Value} {ns : List Int} {Q : Value → Shared → Prop}
theorem tup_below {o : Obj} (hl : l < s.heap.objs.size) : ∀ b ∈ [s.heap.objs.size, l], b < (s.heap.push o).objs.size := fun b hb => by
  rw [Heap.size_push]
  rcases List.mem_cons.mp hb with rfl | hb
  · exact Nat.lt_succ_self _
  · rcases List.mem_cons.mp hb with rfl | hb
    · exact Nat.lt_succ_of_lt hl
    · cases hb
theorem max_rawT (hh : A.handled = none) (hl : s.heap.IsTuple l its.toArray) (hi : IntsAre its ns) (hne : 0 < ns.length)
    (h : ∀ h' tk M t', (∀ b o, s.heap.get? b = some o → h'.get? b = some o) → M ∈ ns → (∀ a, a ∈ ns → a ≤ M) → Q (.int M t') { s with heap := h', toks := tk }) : wpAny (model prog w) A (call (.builtin "max") [.ref l]) Q E s := by
  obtain ⟨xs, e⟩ := hi.allInts.items
  have hn : numsOf (intItems xs).toList = ns := by rw [← e]; exact hi.numsOf
  rw [nums_intItems] at hn
  subst hn
  rw [e] at hl
  have hsz : 0 < xs.size := by simpa using hne
  have hlt : l < s.heap.objs.size := by obtain ⟨_, e, _⟩ := id hl; exact Heap.lt_size e
  refine call_max_walk (wpAny_pyIter_tuple hl ?_)
  refine ⟨_, _, _, _, _, _, _, rfl, Walks.tuple (A := A.in1) hh _ l (Nat.ne_of_lt hlt) (intItems xs), ⟨⟨_, Heap.get?_push_size _ rfl, rfl, rfl⟩, hl.push _⟩, tup_below hlt, by simpa [intItems] using hsz, CmpOf.ints_gt (numAt xs) (fun _ _ => intItems_at), fun v h' tk hP hk => ?_⟩
  have hv : (intItems xs)[argBest (fun i j => decide (numAt xs i > numAt xs j)) (xs.size - 1)]? = some v := by simpa [intItems] using hP
  obtain ⟨t, rfl⟩ := intItems_at hv
  obtain ⟨h1, h2⟩ := argBest_gt (numAt xs) (xs.size - 1)
  refine h h' tk _ t (fun b o e => hk b o (fun hm => ?_) (Heap.get?_push_of_some _ e)) ?_ fun a ha => ?_
  · rw [List.mem_singleton.mp hm] at e
    exact absurd (Heap.lt_size e) (Nat.lt_irrefl _)
  · rw [numAt_eq]; exact PySem.getD_mem (by rw [List.length_map, Array.length_toList]; omega)
  · obtain ⟨j, hj, rfl⟩ := mem_getD ha
    rw [List.length_map, Array.length_toList] at hj
    rw [← numAt_eq]; exact h2 j (by omega)
theorem min_rawT (hh : A.handled = none) (hl : s.heap.IsTuple l its.toArray) (hi : IntsAre its ns) (hne : 0 < ns.length)
    (h : ∀ h' tk M t', (∀ b o, s.heap.get? b = some o → h'.get? b = some o) → M ∈ ns → (∀ a, a ∈ ns → M ≤ a) → Q (.int M t') { s with heap := h', toks := tk }) : wpAny (model prog w) A (call (.builtin "min") [.ref l]) Q E s := by
  obtain ⟨xs, e⟩ := hi.allInts.items
  have hn : numsOf (intItems xs).toList = ns := by rw [← e]; exact hi.numsOf
  rw [nums_intItems] at hn
  subst hn
  rw [e] at hl
  have hsz : 0 < xs.size := by simpa using hne
  have hlt : l < s.heap.objs.size := by obtain ⟨_, e, _⟩ := id hl; exact Heap.lt_size e
  refine call_min_walk (wpAny_pyIter_tuple hl ?_)
  refine ⟨_, _, _, _, _, _, _, rfl, Walks.tuple (A := A.in1) hh _ l (Nat.ne_of_lt hlt) (intItems xs), ⟨⟨_, Heap.get?_push_size _ rfl, rfl, rfl⟩, hl.push _⟩, tup_below hlt, by simpa [intItems] using hsz, CmpOf.ints_lt (numAt xs) (fun _ _ => intItems_at), fun v h' tk hP hk => ?_⟩
  have hv : (intItems xs)[argBest (fun i j => decide (numAt xs i < numAt xs j)) (xs.size - 1)]? = some v := by simpa [intItems] using hP
  obtain ⟨t, rfl⟩ := intItems_at hv
  obtain ⟨h1, h2⟩ := argBest_lt (numAt xs) (xs.size - 1)
  refine h h' tk _ t (fun b o e => hk b o (fun hm => ?_) (Heap.get?_push_of_some _ e)) ?_ fun a ha => ?_
  · rw [List.mem_singleton.mp hm] at e
    exact absurd (Heap.lt_size e) (Nat.lt_irrefl _)
  · rw [numAt_eq]; exact PySem.getD_mem (by rw [List.length_map, Array.length_toList]; omega)
  · obtain ⟨j, hj, rfl⟩ := mem_getD ha
    rw [List.length_map, Array.length_toList] at hj
    rw [← numAt_eq]; exact h2 j (by omega)
end
def rMaxT (K : PySem.W.Frag) : List V → Hp → VK → Prop := fun vs H Q => ∃ (a : Addr) (ns : List Int), vs = [V.ref a] ∧ SqT K H a (ns.map V.int) ∧ 0 < ns.length ∧ ∀ m, m ∈ ns → (∀ y, y ∈ ns → y ≤ m) → Q (.int m) H
def rMinT (K : PySem.W.Frag) : List V → Hp → VK → Prop := fun vs H Q => ∃ (a : Addr) (ns : List Int), vs = [V.ref a] ∧ SqT K H a (ns.map V.int) ∧ 0 < ns.length ∧ ∀ m, m ∈ ns → (∀ y, y ∈ ns → m ≤ y) → Q (.int m) H
section
variable {X : Cx}
theorem cr_maxT (hc : X.calm = true) : CallR X (.builtin "max") (rMaxT X.K) := by
  intro pins s σ H vs us Q I r h
  obtain ⟨a, ns, rfl, hs, hne, q⟩ := h
  obtain ⟨its, rv, hl, _⟩ := I.tuple hs
  rw [Vals.ref1 r]
  exact max_rawT (I.ok.hd hc) hl rv.ints hne fun h' tk m t' hk h1 h2 => ⟨.int _, H, I.kept hk, ⟨_, rfl⟩, q m h1 h2⟩
theorem cr_minT (hc : X.calm = true) : CallR X (.builtin "min") (rMinT X.K) := by
  intro pins s σ H vs us Q I r h
  obtain ⟨a, ns, rfl, hs, hne, q⟩ := h
  obtain ⟨its, rv, hl, _⟩ := I.tuple hs
  rw [Vals.ref1 r]
  exact min_rawT (I.ok.hd hc) hl rv.ints hne fun h' tk m t' hk h1 h2 => ⟨.int _, H, I.kept hk, ⟨_, rfl⟩, q m h1 h2⟩
end
def maxT : D → Option D
  | .tup ds => maxD (.lst ds)
  | _ => none
def minT : D → Option D
  | .tup ds => minD (.lst ds)
  | _ => none
section
variable {K : PySem.W.Frag}
theorem cbs_maxT : CbS K (cb1 maxT) (rMaxT K) := cbs_of1 fun A as s σ H x d z R Q ok r hz w k => by
  cases d with
  | tup ds =>
    obtain ⟨is, h, h9⟩ := bind_of (show (ints? ds).bind _ = some z from hz)
    cases ints_of h
    obtain ⟨_, a, xs, rfl, h1, h2⟩ := r
    cases h2.nums
    cases is with
    | nil => cases h9
    | cons i is =>
      cases h9
      refine ⟨a, i :: is, rfl, h1.sq, Nat.succ_pos _, fun m z1 z2 => ?_⟩
      obtain ⟨q1, q2, q3⟩ := maxL_spec is i
      have e : m = maxL i is := by
        have h3 := z2 (maxL i is) (q1.elim (fun e => by rw [e]; exact List.mem_cons_self ..) fun h => List.mem_cons_of_mem _ h)
        rcases List.mem_cons.mp z1 with rfl | h
        · omega
        · have := q3 m h
          omega
      subst e
      exact k.here ok (r := .dat (.int _)) .int w
  | _ => cases hz
theorem cbs_minT : CbS K (cb1 minT) (rMinT K) := cbs_of1 fun A as s σ H x d z R Q ok r hz w k => by
  cases d with
  | tup ds =>
    obtain ⟨is, h, h9⟩ := bind_of (show (ints? ds).bind _ = some z from hz)
    cases ints_of h
    obtain ⟨_, a, xs, rfl, h1, h2⟩ := r
    cases h2.nums
    cases is with
    | nil => cases h9
    | cons i is =>
      cases h9
      refine ⟨a, i :: is, rfl, h1.sq, Nat.succ_pos _, fun m z1 z2 => ?_⟩
      obtain ⟨q1, q2, q3⟩ := minL_spec is i
      have e : m = minL i is := by
        have h3 := z2 (minL i is) (q1.elim (fun e => by rw [e]; exact List.mem_cons_self ..) fun h => List.mem_cons_of_mem _ h)
        rcases List.mem_cons.mp z1 with rfl | h
        · omega
        · have := q3 m h
          omega
      subst e
      exact k.here ok (r := .dat (.int _)) .int w
  | _ => cases hz
end
/-! ### all lists that are still written, lent to an expression with a plain answer -/
def lendR (μ : Mu) : Option Sl → Option Sl
  | some (.cel j) => match nth μ j with
    | some (.lst ds) => some (.dat (.lst ds))
    | _ => some (.cel j)
  | r => r
def allL : Mu → Bool
  | [] => true
  | none :: μ => allL μ
  | some (.lst _) :: μ => allL μ
  | _ => false
theorem allL_at : ∀ {μ : Mu}, allL μ = true → ∀ (i : Nat) (o : MO), μ[i]? = some (some o) → ∃ es, o = .lst es
  | [], _, i, o, e => by simp at e
  | none :: μ, h, 0, o, e => by cases e
  | some (.lst es) :: μ, h, 0, o, e => by cases e; exact ⟨_, rfl⟩
  | none :: μ, h, i + 1, o, e => allL_at (μ := μ) h i o e
  | some (.lst es) :: μ, h, i + 1, o, e => allL_at (μ := μ) h i o e
  | some (.dic _ _) :: μ, h, _, _, _ => nomatch h
  | some (.dct _ _) :: μ, h, _, _, _ => nomatch h
  | some (.ins _ _) :: μ, h, _, _, _ => nomatch h
def scaD (d : D) : Option D := cond (scal d) (some d) none
def datS : Sl → Option D
  | .dat d => scaD d
  | _ => none
def fLend (ee : Ev Sl) : Ev Sl := ⟨fun Γ μ k => cond (allL μ) ((ee.run (Γ.map (lendR μ)) (unl μ) fun r _ => datS r).bind fun d => k (.dat d) μ) none, fun Γ μ => cond (allL μ) ((ee.run (Γ.map (lendR μ)) (unl μ) fun r _ => datS r).bind fun d => some (.dat d, μ)) none, fun Γ μ k => by
  cases allL μ
  · rfl
  · show (Option.bind _ _) = (Option.bind _ _).bind _
    rw [Option.bind_assoc]
    rfl⟩
instance (ee : Ev Sl) : Pu (fLend ee) := ⟨fun Γ μ p h => by
  have h : cond (allL μ) ((ee.run (Γ.map (lendR μ)) (unl μ) fun r _ => datS r).bind fun d => some (Sl.dat d, μ)) none = some p := h
  cases e : allL μ with
  | false => rw [e] at h; cases h
  | true =>
    rw [e] at h
    obtain ⟨d, _, h2⟩ := bind_of h
    cases h2
    rfl⟩
theorem wE_lend {ee : Ev Sl} [hp : Pu ee] {s : S} {R : Sl → S → Prop} (h : wE (fLend ee) s R) : allL s.μ = true ∧ wE ee ⟨s.Γ.map (lendR s.μ), unl s.μ⟩ fun r s1 => s1.μ = unl s.μ ∧ ∃ d, r = .dat d ∧ scal d = true ∧ R (.dat d) s := by
  obtain ⟨p, h1, h2⟩ := h
  have h : cond (allL s.μ) ((ee.run (s.Γ.map (lendR s.μ)) (unl s.μ) fun r _ => datS r).bind fun d => some (Sl.dat d, s.μ)) none = some p := h1
  cases e : allL s.μ with
  | false => rw [e] at h; cases h
  | true =>
    rw [e] at h
    obtain ⟨d, h3, h4⟩ := bind_of h
    cases h4
    rw [ee.nat] at h3
    obtain ⟨q, h5, h6⟩ := bind_of h3
    refine ⟨rfl, q, h5, hp.pu _ _ _ h5, d, ?_⟩
    cases e2 : q.1 with
    | dat d' =>
      rw [e2] at h6
      have h6 : cond (scal d') (some d') none = some d := h6
      cases e3 : scal d' with
      | false => rw [e3] at h6; cases h6
      | true =>
        rw [e3] at h6
        cases h6
        exact ⟨rfl, e3, h2⟩
    | _ =>
      rw [e2] at h6
      cases h6
theorem lend_slot {K : PySem.W.Frag} {A : Amb} {as : List Addr} {s : S} {σ : L2.St} {H : Hp} (ok : Ok K A as s σ H) {v : V} {r r' : Sl} (h : RepS K (vw A as s.μ H) as v r) (e : lendR s.μ (some r) = some r') : RepS K (vw A as (unl s.μ) H) as v r' := by
  obtain ⟨st, _⟩ := ok.less (unl_less s.μ)
  cases r with
  | dat d =>
    cases e
    exact Rep.mono st.le d h
  | val u =>
    cases e
    exact h
  | cel j =>
    have e1 : (match nth s.μ j with | some (.lst ds) => some (Sl.dat (.lst ds)) | _ => some (.cel j)) = some r' := e
    cases e2 : nth s.μ j with
    | none =>
      rw [e2] at e1
      cases e1
      exact h
    | some o =>
      rw [e2] at e1
      cases o with
      | lst es =>
        cases e1
        obtain ⟨a, ha, hv⟩ := h
        have q := lend_rep (vs := [v]) (ps := [.cel j]) (ds := [.lst es]) ok ⟨⟨a, ha, hv⟩, trivial⟩ (by
          show ((match nth s.μ j with | some (.lst ds) => some (D.lst ds) | _ => none).bind fun d => (some []).bind fun ds => some (d :: ds)) = _
          rw [e2]
          rfl)
        cases q with
        | cons q _ => exact q
      | _ =>
        cases e1
        exact h
section
variable {X : Cx} {e : Expr} {ee : Ev Sl}
theorem f_lend [hp : Pu ee] (h : PE X e (up X.K (wE ee))) : PE X e (up X.K (wE (fLend ee))) := by
  refine pe_imp h fun σ H Q ⟨A, as, s, R, ok, w, k⟩ => ?_
  obtain ⟨hl, w⟩ := wE_lend w
  obtain ⟨st0, ok0⟩ := ok.less (unl_less s.μ)
  refine ⟨A, as, ⟨s.Γ.map (lendR s.μ), unl s.μ⟩, _, ⟨ok0.len, ok0.nd, ok0.dj, ok0.tr, ok0.m0, ok0.pin, fun i r hr => ?_, ok0.mem, by rw [List.length_map]; exact ok0.ln, ok0.own, ok0.he⟩, w, fun v H' r s1 as1 st1 ok1 rep ⟨e1, d, hr, hd, w1⟩ => ?_⟩
  · have hr : (s.Γ.map (lendR s.μ))[i]? = some (some r) := hr
    rw [List.getElem?_map] at hr
    obtain ⟨r0, h1, h2⟩ := Option.map_eq_some_iff.mp hr
    cases r0 with
    | none => cases h2
    | some r0 =>
      obtain ⟨v, h3, h4⟩ := ok.env i r0 h1
      exact ⟨v, h3, lend_slot ok h4 h2⟩
  subst hr
  have el : as1.length = as.length := by
    have a1 := ok1.len
    have a2 := ok.len
    rw [e1, unl_len] at a1
    omega
  have ea : as1 = as := by
    obtain ⟨t, ht⟩ := st1.pre
    have : t = [] := List.length_eq_zero_iff.mp (by have := congrArg List.length ht; rw [List.length_append] at this; omega)
    subst this
    rw [List.append_nil] at ht
    exact ht.symm
  subst ea
  have le : Le (vw A as1 (unl s.μ) H) (vw A as1 (unl s.μ) H') := by
    have := st1.le
    rw [e1] at this
    exact this
  have hsub : ∀ a, hid A as1 (unl s.μ) a → hid A as1 s.μ a := fun a h => by
    rcases h with h | ⟨i, o, h1, h2⟩
    · exact .inl h
    · exact .inr ⟨i, o, h1, (unl_less s.μ).2 i o h2⟩
  have nohid : ∀ a, hid A as1 (unl s.μ) a → A.M0 a := fun a h => by
    rcases h with h | ⟨i, o, h1, h2⟩
    · exact h
    · rw [unl_at] at h2
      split at h2
      · cases h2
      · rename_i hn
        obtain ⟨es, rfl⟩ := allL_at hl i o h2
        exact absurd h2 (hn es)
  have le2 : Le (vw A as1 s.μ H) (vw A as1 s.μ H') := fun a u hu => by
    obtain ⟨h1, h2⟩ := vw_of hu
    have h3 : ¬ hid A as1 (unl s.μ) a := fun z => h2 (hsub a z)
    have h4 := le a u (by rw [vw_no h3]; exact h1)
    rw [vw_no h3] at h4
    rw [vw_no h2]
    exact h4
  have same : ∀ (i : Nat) (a : Addr) (o : MO), as1[i]? = some a → s.μ[i]? = some (some o) → H' a = H a := fun i a o h1 h2 => by
    obtain ⟨es, rfl⟩ := allL_at hl i o h2
    have hh : ¬ hid A as1 (unl s.μ) a := fun z => ok.dj a (List.mem_of_getElem? h1) (nohid a z)
    obtain ⟨xs, h4, h5⟩ := ok.mem i a _ h1 h2
    have h6 := le.same (show vw A as1 (unl s.μ) H a = some (.lst xs) by rw [vw_no hh]; exact h4) fun z => z
    rw [h4]
    exact (vw_of h6).1
  have hv : Rep X.K (vw A as1 s.μ H') v d := by
    have rep : Rep X.K _ v d := rep
    cases d <;> first
      | (cases hd; done)
      | (cases rep; constructor)
  refine k v H' (.dat d) s as1 ⟨List.prefix_refl _, le2⟩ ⟨ok.len, ok.nd, ok.dj, ok1.tr, ok1.m0, ok.pin.trans le2, fun i r h => ?_, fun i a o h1 h2 => (ok.mem i a o h1 h2).mono le2 (List.prefix_refl _) (same i a o h1 h2), ok.ln, ok.own, ok1.he⟩ hv w1
  obtain ⟨u, h1, h2⟩ := ok.env i r h
  exact ⟨u, h1, h2.mono le2 (List.prefix_refl _)⟩
end
/-! ### a walk of a written tuple, item by item -/
def unrF {α : Type} (g : EvG) (body : EvS) : List D → S → (S → Option α) → (Sl → S → Option α) → Option α
  | [], s, kn, _ => kn s
  | d :: ds, s, kn, kr => g.run (.dat d) s fun s1 => body.run s1 (fun s2 => unrF g body ds s2 kn kr) kr
def unrD (g : EvG) (body : EvS) : List D → S → Option Oc
  | [], s => some (.nx s)
  | d :: ds, s => (g.dir (.dat d) s).bind fun s1 => (body.dir s1).bind fun o => o.el (fun s2 => unrD g body ds s2) fun r s2 => some (.rt r s2)
theorem unr_nat {α : Type} (g : EvG) (body : EvS) (kn : S → Option α) (kr : Sl → S → Option α) : ∀ (ds : List D) (s : S), unrF g body ds s kn kr = (unrD g body ds s).bind fun o => o.el kn kr
  | [], _ => rfl
  | d :: ds, s => by
    show g.run _ _ _ = (Option.bind _ _).bind _
    rw [g.nat, Option.bind_assoc]
    congr 1
    funext s1
    rw [body.nat, Option.bind_assoc]
    congr 1
    funext o
    cases o with
    | rt r s2 => rfl
    | nx s2 => exact unr_nat g body kn kr ds s2
theorem unr_fr (g : EvG) (body : EvS) : ∀ (ds : List D) (s s' : S), unrD g body ds s = some (.nx s') → s'.Γ.length = s.Γ.length ∧ ∀ i, i ∉ g.mods ++ body.mods → s'.Γ[i]? = s.Γ[i]?
  | [], s, s', h => by
    cases h
    exact ⟨rfl, fun _ _ => rfl⟩
  | d :: ds, s, s', h => by
    obtain ⟨s1, h1, h2⟩ := bind_of h
    obtain ⟨o, h3, h4⟩ := bind_of h2
    cases o with
    | rt r s2 => cases h4
    | nx s2 =>
      obtain ⟨f1, f2⟩ := g.fr _ _ _ h1
      obtain ⟨f3, f4⟩ := body.fr _ _ h3
      obtain ⟨f5, f6⟩ := unr_fr g body ds s2 s' h4
      exact ⟨f5.trans (f3.trans f1), fun i hi => (f6 i hi).trans ((f4 i fun z => hi (List.mem_append_right _ z)).trans (f2 i fun z => hi (List.mem_append_left _ z)))⟩
def sForU (g : EvG) (body : EvS) (it : Ev (List D)) : EvS := ⟨fun s kn kr => it.run s.Γ s.μ fun ds μ1 => unrF g body ds ⟨s.Γ, μ1⟩ kn kr, fun s => (it.dir s.Γ s.μ).bind fun p => unrD g body p.1 ⟨s.Γ, p.2⟩, fun s kn kr => by
  rw [it.nat, Option.bind_assoc]
  congr 1
  funext p
  exact unr_nat .., g.mods ++ body.mods, fun s s' h => by
  obtain ⟨p, _, h⟩ := bind_of h
  exact unr_fr g body p.1 ⟨s.Γ, p.2⟩ s' h⟩
theorem unr_w {g : EvG} {fb : EvS} {D' : Dn} {o : Oc} (hn : o.el D'.nx D'.rt) : ∀ (ds : List D) (s : S), unrD g fb ds s = some o → forW (wG g) (wS fb) ds D' s
  | [], s, h => by
    cases h
    exact hn
  | d :: ds, s, h => by
    obtain ⟨s1, h1, h2⟩ := bind_of h
    obtain ⟨o1, h3, h4⟩ := bind_of h2
    refine ⟨s1, h1, o1, h3, ?_⟩
    cases o1 with
    | rt r s2 =>
      cases h4
      exact hn
    | nx s2 => exact unr_w hn ds s2 h4
def fiDisp (er : Ev (List Sl)) : Ev (List D) := er.bind fun ps => (fA (datsO ps)).bind fun ds => (fA (gd ds.length (some ds))).bind fun ds => .ret ds
section
variable {X : Cx} {tg it : Expr} {es : List Expr} {bd : List Stmt} {er : Ev (List Sl)} {ei : Ev (List D)} {g : EvG} {gs : List Nat} {fb : EvS} {pos tpos : Pos}
theorem f_disp {x1} (h : PA X es (upA X.K (wE er))) : PI X tg (.Tuple es x1 tpos) (upI X.K (wE (fiDisp er))) := pi_w (f_seq (f_tup h)) fun s R _ h => by
  obtain ⟨p, h1, h2⟩ := h
  obtain ⟨q, h3, h4⟩ := bind_of h1
  obtain ⟨r, h5, h6⟩ := bind_of (show ((datsO q.1).bind fun b => some (b, q.2)).bind _ = some p from h4)
  obtain ⟨ds, h7, h8⟩ := bind_of h5
  cases h8
  obtain ⟨t, h9, h10⟩ := bind_of h6
  obtain ⟨e, h11, h12⟩ := bind_of h9
  cases h12
  cases h10
  obtain ⟨c, h11⟩ := gd_of h11
  cases h11
  refine ⟨(ds, q.2), ?_, h2⟩
  have d1 : (fTup er).dir s.Γ s.μ = some (.dat (.tup ds), q.2) := by
    show (er.dir s.Γ s.μ).bind _ = _
    rw [h3]
    show ((datsO q.1).bind fun b => some (b, q.2)).bind _ = _
    rw [h7]
    show ((gd ds.length (some (D.tup ds))).bind fun b => some (b, q.2)).bind _ = _
    rw [gd_ok c]
    rfl
  show ((fTup er).dir s.Γ s.μ).bind _ = _
  rw [d1]
  rfl
theorem fs_forU (hp : PassesOwn (model X.prog X.w) X.A X.env X.xe) (hc : X.calm = true) (hi : PI X tg it (upI X.K (wE ei))) (hg : PG X tg (upG X.K gs (wG g))) (hb : PSs X bd (upS X.K (wS fb))) (hs : ∀ x, foldedSetIterable it X.env x = pure x := by intro _; rfl) :
    PS X (.For tg it bd [] pos) (upS X.K (wS (sForU g fb ei))) := ps_w (s_for hp hc hi hg hb hs) fun D s bl ⟨o, h1, h2⟩ => by
  obtain ⟨p, e1, e2⟩ := bind_of h1
  exact ⟨p, e1, unr_w h2 p.1 _ e2⟩
end
end Ge
namespace Ge
open PySem PySem.Spec PyProof.Rows L2 Gd
/-! ### repr of nested data, where nothing of its kind is under way -/
def goodR (d : PyData) : Bool := d.canLay0 && (d.showable && (decide (d.depth ≤ 64) && decide (d.shown.length ≤ sizeLine)))
theorem goodR_of {d : PyData} (h : goodR d = true) : d.canLay0 = true ∧ d.showable = true ∧ d.depth ≤ 64 ∧ d.shown.length ≤ sizeLine := by
  unfold goodR at h
  simp only [Bool.and_eq_true, decide_eq_true_eq] at h
  exact h
def reprO (d : D) : Option D := cond (goodR d.pd) (some (.str d.pd.shown)) none
def rRepr (K : PySem.W.Frag) : List V → Hp → VK → Prop := fun xs H Q => ∃ (v : V) (d : PyData), xs = [v] ∧ Dp K H v d ∧ goodR d = true ∧ Q (.str d.shown) H
theorem call_repr {X : Cx} {k : Nat} (hg : X.A.guards = some []) (hr : Room k X.A) : CallR X (.builtin "repr") (rRepr X.K) := by
  intro pins s σ H xs us Q I r h
  obtain ⟨v, d, rfl, hd, hgd, q⟩ := h
  obtain ⟨hc, hs, hdp, hz⟩ := goodR_of hgd
  have big : ∀ a, v = .ref a → wpAny (model X.prog X.w) X.A (call (.builtin "repr") us) (EP X pins σ Q) X.xe s := by
    rintro a rfl
    rw [Vals.ref1 r]
    obtain ⟨as, rd⟩ := Dp.reads I d _ (.ref a) hd rfl
    exact repr_of_reads' rd hs (PyData.noDict_hsm (PyData.hasDict_of_canLay d hc)) hg (by have := hr.un; omega) (fun _ _ e => e) (fun h' u tk hk => ⟨.str _, H, I.kept hk, ⟨_, rfl⟩, q⟩) hz
  cases hd with
  | lst _ _ => exact big _ rfl
  | tup _ _ => exact big _ rfl
  | non =>
    obtain ⟨u, rfl, ru⟩ := vals1 r
    cases ru
    exact PySem.P.repr_of_none ⟨.str _, H, I.tok _, ⟨_, rfl⟩, q⟩
  | bl b =>
    obtain ⟨u, rfl, ru⟩ := vals1 r
    cases ru
    refine PySem.P.repr_of_bool ⟨.str _, H, I.tok _, ⟨_, rfl⟩, ?_⟩
    rw [PyData.shown_bool] at q
    cases b <;> exact q
  | int i =>
    obtain ⟨u, rfl, t, rfl⟩ := vals1 r
    have h1 : i.natAbs.log2 < 1920 := of_decide_eq_true hs
    rw [PyData.shown_int] at q
    exact PySem.P.repr_of_int h1 ⟨.str _, H, I.tok _, ⟨_, rfl⟩, q⟩
  | str y =>
    obtain ⟨u, rfl, t, rfl⟩ := vals1 r
    rw [PyData.shown_str] at q hz
    exact PySem.P.repr_of_str ⟨.str _, H, I.tok _, ⟨_, rfl⟩, q⟩ hz
theorem cond_of {α : Type} {c : Bool} {x : Option α} {a : α} (h : cond c x none = some a) : c = true ∧ x = some a := by
  cases c
  · cases h
  · exact ⟨rfl, h⟩
theorem cbs_reprD {K : PySem.W.Frag} : CbS K (cb1 reprO) (rRepr K) := cbs_of1 fun A as s σ H x d z R Q ok r hz w k => by
  obtain ⟨c, e⟩ := cond_of (show cond (goodR d.pd) (some (.str d.pd.shown)) none = some z from hz)
  cases e
  exact ⟨x, _, rfl, Rdc.dp vw_le r (goodR_of c).1, c, k.here ok (r := .dat (.str _)) .str w⟩
/-! ### a def that is called where no guard stands -/
structure FnG (P : Program) (w : World) (K : PySem.W.Frag) (mg : Str → Option Value) (base : Heap) (k : Nat) (f : Addr) (fd : FuncData) (ps : List Str) (sp : Sp) : Prop where
  ln : ∀ xs H Q E, sp xs H Q E → xs.length = ps.length
  go : ∀ (A : Around) (outer : List Env) (s : Shared) (H : Hp) (ar : Args) (us : List Value) (xs : List V) (Q : VK) (E : XK), A.guards = some [] → Room k A → Env0 P w K mg base A outer s H → BindsTo s fd ar (ps.zip us) → Vals xs us → sp xs H Q E → codeAny (model P w) A (.call (.ref f) ar) (CR CX0 outer P w H s Q E) s
theorem FnG.up {P : Program} {w : World} {K : PySem.W.Frag} {mg : Str → Option Value} {base : Heap} {j k : Nat} {f : Addr} {fd : FuncData} {ps : List Str} {sp : Sp} (F : FnG P w K mg base j f fd ps sp) (h : j ≤ k) : FnG P w K mg base k f fd ps sp :=
  ⟨F.ln, fun A o s H ar us xs Q E g r => F.go A o s H ar us xs Q E g (r.mono h)⟩
theorem FnG.weak {P : Program} {w : World} {K : PySem.W.Frag} {mg : Str → Option Value} {base : Heap} {k : Nat} {f : Addr} {fd : FuncData} {ps : List Str} {sp sp' : Sp} (F : FnG P w K mg base k f fd ps sp) (h : ∀ xs H Q E, sp' xs H Q E → sp xs H Q E) : FnG P w K mg base k f fd ps sp' :=
  ⟨fun xs H Q E q => F.ln xs H Q E (h _ _ _ _ q), fun A o s H ar us xs Q E g r e b v q => F.go A o s H ar us xs Q E g r e b v (h _ _ _ _ q)⟩
section
variable {X : Cx} {x : Str} {e : Expr} {es : List Expr} {p pos : Pos} {k : Nat} {f : Addr} {fd : FuncData} {ps : List Str} {sp : Sp} {E : XK} {t : TA}
theorem pe_callG (F : FnG X.prog X.w X.K X.mg X.base k f fd ps sp) (gd : X.A.guards = some []) (hr : Room k X.A) (hg : Gl X x) (hm : X.mg x = some (.ref f)) (hk : PySem.W.keepIn X.K (.ref f) = true) (hb : Binds X.K fd ps []) (ha : PA X (e :: es) t)
    (hdb : (x == ("__debug__" : Str)) = false := by decide) (he : starEach (e :: es) X.env = (false, eval e X.env) :: starEach es X.env := by rfl) (hpl : (backTo pos (starEach es X.env)).any (·.1) = false := by rfl) : PE X (.Call (.Name x p) (e :: es) [] pos) (tCall sp [] E t) := by
  constructor
  intro pins s σ H Q I w0
  have inner : ∀ (us : List Value) (s1 : Shared) (xs : List V) (H1 : Hp), Inv X pins σ H1 s1 → Vals xs us → sp (xs ++ []) H1 Q E → wpAny (model X.prog X.w) X.A (call (.ref f) us) (EP X pins σ Q) X.xe s1 := by
    intro us s1 xs H1 I1 r q
    rw [List.append_nil] at q
    have bn : BindsTo s1 fd ⟨us, []⟩ (ps.zip us) := by
      have := hb s1 us I1.kIn (by rw [List.append_nil, ← r.length]; exact F.ln _ _ _ _ q)
      rwa [List.append_nil] at this
    refine wpAny_call (codeAny_mono (F.go X.A X.stack s1 H1 _ us xs Q E gd hr I1.env0 bn r q) ?_)
    rintro (z | z) s2 hz
    · exact (show False from hz).elim
    · cases z with
      | ret u => exact I1.after hz
      | _ => exact (show False from hz).elim
  refine wpAny_Call_Name_kw (ld_glob I hg hm (PySem.W.callWith_K (h₀ := X.base) I.ok.mod.kin hk ?_ he hpl) hdb)
  exact thn (ha.run pos pins s σ H _ I w0) fun us s1 ⟨xs, H1, I1, r, q⟩ => ⟨I1.kIn, inner us s1 xs H1 I1 r q⟩
end
/-- its body -/
theorem fn_okG {P : Program} {w : World} {K : PySem.W.Frag} {mg : Str → Option Value} {base : Heap} {x qual : Str} {st : Stmt} {fa : Addr} {fd : FuncData} {N ps : List Str} {k n : Nat} {f : FS} (fresh : Bool) (F : Fun K x qual st fa fd) (S : FnScope N ps (defScope st)) (hn : n = ps.length)
    (hbody : ∀ (cdv : Value) (A : Around) (outer : List Env) (s : Shared) (H : Hp) (E : XK), Room k (A.deeper (envOfC qual (defScope st) s.heap.objs.size fa cdv)) → (A.deeper (envOfC qual (defScope st) s.heap.objs.size fa cdv)).guards = some [] →
      ∃ w' : WS, PSs (cxOf CX0 P w K mg base N qual (defScope st) fa cdv A outer s H E).nox (defBody st) (upS K w') ∧ ∀ args μ R, args.length = n → f args μ R → w' (Dn.of fresh μ.length R) (entry N.length args μ)) :
    FnG P w K mg base (k + 1) fa fd ps (spD K n f) := by
  obtain ⟨oc, od, kV, doc, pm, an, cdv, ct, osl, rfl, lk, hcd⟩ := F.ex
  have ll : ∀ xs H Q E, spD K n f xs H Q E → xs.length = ps.length := fun xs H Q E h => (spD_len xs H Q E h).trans hn
  refine ⟨ll, ?_⟩
  intro A outer s H ar us xs Q E hgd hr e0 hb r hsp
  have keepK : ∀ b o, base.get? b = some o → s.heap.get? b = some o := fun b o e => (e0.bs b o e).1
  have KX : K.In s.heap := e0.mod.kin.keeps keepK
  have names : ∀ y ∈ ps.zip us, (defScope st).names.lookup y.1 = some .local ∨ ((defScope st).names.lookup y.1 = some .cell ∧ ((cellsFrom (s.heap.objs.size + 1) (defScope st).names []).lookup y.1).isSome = true) := by
    rintro ⟨m, v⟩ hy
    exact (S.par m (List.of_mem_zip hy).1).imp id fun c => ⟨c, PySem.W.cellsFrom_some _ _ _ (.inl c)⟩
  refine codeAny_call_function hr.depth (KX _ _ lk) rfl S.co S.gen rfl (PySem.W.codeRec_of KX hcd) (hb _ _ _ _ (wpAny_newFunctionEnv_cells S.kind names ?_))
  rintro env rfl s1 y
  refine ⟨(e0.mod.nolimit.keeps keepK).keeps y.toInCall.keep, codeAny_func ?_⟩
  obtain ⟨t, ht, hq⟩ := fn_body fresh S hn cdv A outer s H xs Q E (hbody cdv A outer s H E (hr.deeper _) hgd) hsp
  have I := inv_start (CX := CX0) (cd := cdv) (f := fa) (E := E) S hr.hd e0 (ll _ _ _ _ hsp) r y
  refine wpAny_mono (ht.nox.run [] s1 (start N xs) H _ I hq) (fun fl s2 z => ?_) fun _ _ z => z
  have fin : ∀ {σ1 : L2.St} {H1 : Hp} {v : V} {u : Value}, Inv (cxOf CX0 P w K mg base N qual (defScope st) fa cdv A outer s H E) [] σ1 H1 s2 → RelV v u → Q v H1 → CE outer P w H s Q u s2 := fun J rv q => ⟨_, _, J.os, J.bare, J.base, J.hok, rv, q⟩
  cases fl with
  | ret u =>
    obtain ⟨v, σ1, H1, J, rv, q⟩ := z
    exact fin J rv q
  | next =>
    obtain ⟨σ1, H1, J, q⟩ := z
    exact fin (v := .non) J rfl q
  | _ =>
    obtain ⟨_, _, _, q⟩ := z
    exact q.elim
structure GBG (P : Program) (w : World) (K : PySem.W.Frag) (mg : Str → Option Value) (base : Heap) (x : Str) (k n : Nat) (m : List D → List D → Option (D × List D)) : Prop where
  ex : ∃ (f : Addr) (fd : FuncData) (ps : List Str), FnG P w K mg base k f fd ps (spD K n (fsB m)) ∧ mg x = some (.ref f) ∧ PySem.W.keepIn K (.ref f) = true ∧ Binds K fd ps []
  ln : ∀ b ds v, m b ds = some v → ds.length + 1 = n
theorem GBG.mono {P : Program} {w : World} {K : PySem.W.Frag} {mg : Str → Option Value} {base : Heap} {x : Str} {j k n : Nat} {m : List D → List D → Option (D × List D)} (G : GBG P w K mg base x j n m) (h : j ≤ k) : GBG P w K mg base x k n m :=
  ⟨G.ex.imp fun f h1 => h1.imp fun fd h2 => h2.imp fun ps h3 => ⟨h3.1.up h, h3.2⟩, G.ln⟩
section
variable {X : Cx} {x : Str} {e : Expr} {es : List Expr} {p pos : Pos} {wa : WA} {k n : Nat} {er : Ev (List Sl)} {mb : List D → List D → Option (D × List D)}
theorem e_callBG (i : Nat) (G : GBG X.prog X.w X.K X.mg X.base x k n mb) (gd : X.A.guards = some []) (hr : Room k X.A) (hg : Gl X x) (ha : PA X (e :: es) (upA X.K wa)) (hdb : (x == ("__debug__" : Str)) = false := by decide) (he : starEach (e :: es) X.env = (false, eval e X.env) :: starEach es X.env := by rfl)
    (hpl : (backTo pos (starEach es X.env)).any (·.1) = false := by rfl) : PE X (.Call (.Name x p) (e :: es) [] pos) (up X.K (wCallB i n (fsB mb) wa)) := by
  obtain ⟨f, fd, ps, F, hm, hk, hb⟩ := G.ex
  exact pe_imp (pe_callG (E := E0) F gd hr hg hm hk hb ha hdb he hpl) fun σ H Q ⟨A, as, s, R, ok, w, kk⟩ =>
    ⟨A, as, s, _, ok, w, fun vs H1 ps s1 as1 st1 ok1 r1 w1 => by
      show spD X.K n _ (vs ++ []) H1 Q E0
      rw [List.append_nil]
      exact callB_ok ok1 r1 w1 fun v3 H3 t s3 as3 st3 ok3 r3 w3 => kk v3 H3 t s3 as3 (st1.trans st3) ok3 r3 w3⟩
theorem f_callBG (i : Nat) (G : GBG X.prog X.w X.K X.mg X.base x k n mb) (gd : X.A.guards = some []) (hr : Room k X.A) (hg : Gl X x) (ha : PA X (e :: es) (upA X.K (wE er))) (hdb : (x == ("__debug__" : Str)) = false := by decide) (he : starEach (e :: es) X.env = (false, eval e X.env) :: starEach es X.env := by rfl)
    (hpl : (backTo pos (starEach es X.env)).any (·.1) = false := by rfl) : PE X (.Call (.Name x p) (e :: es) [] pos) (up X.K (wE (fCallB i mb er))) := pe_w (e_callBG i G gd hr hg ha hdb he hpl) fun s R _ h => wE_mono (wE_bind h) fun ps s1 _ h => by
  obtain ⟨ds, h1, h⟩ := wE_prim (wE_bind h)
  obtain ⟨b, h2, h⟩ := wE_prim (wE_bind h)
  obtain ⟨v, h3, h⟩ := wE_primM (wE_bind h)
  have hR := wE_ret h
  have hps : ps = .cel i :: ds.map Sl.dat := by
    match ps, h1 with
    | .cel j :: rs, h1 =>
      have h1 : cond (Nat.beq j i) (datsO rs) none = some ds := h1
      cases e : Nat.beq j i with
      | false => rw [e] at h1; cases h1
      | true =>
        rw [e] at h1
        rw [datsO_of h1, Nat.eq_of_beq_eq_true e]
    | [], h1 => cases h1
    | .dat _ :: _, h1 => cases h1
    | .val _ :: _, h1 => cases h1
  subst hps
  obtain ⟨j, q1, q2, q3⟩ := celL_of h2
  cases q1
  refine ⟨by rw [List.length_cons, List.length_map]; exact G.ln b ds v h3, ?_⟩
  show optK (nth s1.μ i) _
  rw [q3]
  exact ⟨trivial, rfl, toC_dats ds ⟨b, ds, v, rfl, rfl, h3, trivial, hR⟩⟩
end
/-! ### the law, called where nothing is under way -/
theorem law_callG {P : Program} {w : World} {K : PySem.W.Frag} {mg mb : Str → Option Value} {k : Nat} {fa a : Addr} {fd : FuncData} {x : Str} {sp : Sp} {s₁ : Shared} {vs : List Value} {ns : List Int}
    (KX : K.In s₁.heap) (hns : s₁.heap.Ns mainGlobals mg) (hb : s₁.heap.Ns builtinsNs mb) (hbb : ∀ y : Str, y ≠ "__name__" → mb y = bootBuiltins y) (hlim : s₁.heap.NoLimit) (hg : s₁.gens = #[])
    (ha : s₁.heap.get? a = some { cls := .type "list", data := .seq vs.toArray }) (hi : IntsAre vs ns) (hl : ns.length ≤ sizeLine) (hr : Room k callerA)
    (F : ∀ base : Heap, K.In base → base.Ns mainGlobals mg → FnG P w K mg base k fa fd [x] sp) (hbind : ∀ (s : Shared) (u : Value), BindsTo s fd ⟨[u], []⟩ [(x, u)])
    (hsp : ∀ H : Hp, Only H → SqL K H a (ns.map V.int) → sp [.ref a] H (fun v _ => v = .bl true) E0) :
    codeAny (model P w) callerA (.call (.ref fa) ⟨[.ref a], []⟩) (fun r s' => r = .ok (.ret (.bool true)) ∧ OldK s₁.heap s'.heap ∧ s'.os = s₁.os ∧ AllBare s'.gens) s₁ := by
  have rv : Vals (ns.map V.int) vs := vals_ints hi
  have hz : (ns.map V.int).length ≤ sizeLine := by rw [List.length_map]; exact hl
  obtain ⟨H, hO, hS, hok, hA, hK⟩ : ∃ H : Hp, Only H ∧ SqL K H a (ns.map V.int) ∧ HOk P w H s₁.heap ∧ (∀ b u, H b = some u → b = a) ∧ (∀ u, H a = some u → K.lookup a = none) := by
    cases hk : K.lookup a with
    | some o =>
      have e := (KX a o hk).symm.trans ha
      cases e
      exact ⟨fun _ => none, fun _ => .inl rfl, .inr ⟨_, vs.toArray, _, hk, rfl, rfl, rfl, by rw [List.size_toArray, hi.length]; exact hl, by rw [List.toList_toArray]; exact rv⟩, (fun _ _ z => nomatch z), (fun _ _ z => nomatch z), fun _ z => nomatch z⟩
    | none =>
      let u0 : HO := .frz { cls := .type "list", data := .seq vs.toArray } (.lst (ns.map V.int))
      have at_a : upd (fun _ => none) a u0 a = some u0 := upd_same
      have else_ : ∀ b, b ≠ a → upd (fun _ => none) a u0 b = none := fun b h => upd_ne h
      have only_a : ∀ b u, upd (fun _ => none) a u0 b = some u → b = a := fun b u z => Classical.byContradiction fun h => by
        rw [else_ b h] at z
        cases z
      refine ⟨upd (fun _ => none) a u0, fun b => ?_, .inl (.inr ⟨_, at_a⟩), fun b u z => ?_, only_a, fun _ _ => rfl⟩
      · by_cases h : b = a
        · rw [h]
          exact .inr ⟨_, _, at_a⟩
        · exact .inl (else_ b h)
      · obtain rfl := only_a b u z
        rw [at_a] at z
        cases z
        exact ⟨ha, hz, vs, _, rv, ha⟩
  have notA : ∀ b, b ≠ a → H b = none := fun b h => by
    cases e : H b with
    | none => rfl
    | some u => exact absurd (hA b u e) h
  have plain : ∀ b o es n, s₁.heap.get? b = some o → o.data = .dict es n → H b = none := fun b o es n e d => notA b fun z => by
    subst z
    rw [ha] at e
    cases e
    exact absurd d fun z => nomatch z
  have keepNs : ∀ b m, s₁.heap.Ns b m → (hidT s₁.heap H).Ns b m := fun b m ⟨o, es, n, e, d, r⟩ => ⟨o, es, n, hidT_get e (plain b o es n e d), d, r⟩
  have inK : K.In (hidT s₁.heap H) := fun b o e => hidT_get (KX b o e) (by
    cases z : H b with
    | none => rfl
    | some u =>
      obtain rfl := hA b u z
      rw [hK u z] at e
      cases e)
  have gN := keepNs _ _ hns
  obtain ⟨mc, l1, l2⟩ := hlim
  have env : Env0 P w K mg (hidT s₁.heap H) callerA [] s₁ H := by
    refine ⟨rfl, ⟨inK, gN, ⟨mb, keepNs _ _ hb, hbb⟩, mc, keepNs _ _ l1, l2⟩, fun _ _ e => of_hidT e, by rw [hidT_size]; exact Nat.le_refl _, trivial, ?_, hok, AllBare.of_eq hg⟩
    exact fun b z => absurd z List.not_mem_nil
  refine codeAny_mono ((F _ inK gN).go callerA [] s₁ H _ [.ref a] [.ref a] _ E0 rfl hr env (hbind s₁ (.ref a)) (.cons rfl .nil) (hsp H hO hS)) ?_
  rintro (z | z) s2 q
  · exact (show False from q).elim
  cases z with
  | ret u =>
    obtain ⟨v, H2, q1, q2, q3, q4, q5, q6⟩ := q
    cases (show v = .bl true from q6)
    cases (show u = .bool true from q5)
    refine ⟨rfl, OldK.of_keep fun b o e => ?_, q1, q2⟩
    rcases hO b with n0 | n1
    · exact q3.keep b o e n0 List.not_mem_nil List.not_mem_nil
    · obtain ⟨o1, xs, n0⟩ := n1
      have f1 : s₁.heap.get? b = some o1 := (hok b _ n0).1
      have f2 := (q4 b _ (q3.frzs b o1 _ n0)).1
      rw [e] at f1
      cases f1
      exact f2
  | _ => exact (show False from q).elim
theorem walk_ofG {l : PySem.W.OpenLaw} {n k : Nat} {q : Program} {loose : List Str} {XP : (Str → Option Value) → Heap → Prop} {YP : World → Heap → Prop} {d : DefRec} {K : Params → PySem.W.Frag} {sp : World → Sp} {x : Str}
    (hn : l.most = some n) (hn2 : n ≤ sizeLine) (hdf : d.params.defaults = []) (hr : Room k callerA) (hY : ∀ (w : World) (h : Heap), YP w h → (K w.params).In h)
    (F : ∀ (w : World) (mg : Str → Option Value) (fa : Addr) (h : Heap), (K w.params).In h → h.Ns mainGlobals mg → mg d.name = some (.ref fa) →
      ∃ fd : FuncData, (∀ (s : Shared) (u : Value), BindsTo s fd ⟨[u], []⟩ [(x, u)]) ∧ ∀ base : Heap, (K w.params).In base → base.Ns mainGlobals mg → FnG l.prog w (K w.params) mg base k fa fd [x] (sp w))
    (hsp : ∀ (w : World) (H : Hp) (a : Addr) (ns : List Int), ns.length ≤ n → Only H → SqL (K w.params) H a (ns.map V.int) → sp w [.ref a] H (fun v _ => v = .bl true) E0) : PySem.W.WalkO q loose XP YP l.row.toRowW d [] (fun f vs => PySem.call f vs) :=
  Att.attach_call hn hdf fun w _ s₁ mg _ fa _ _ _ _ a vs ns G Y _ _ _ hmg hobj hints hlen hg => by
    have hK := hY w _ Y
    obtain ⟨fd, hb, hF⟩ := F w mg fa _ hK G.T.g hmg
    exact law_callG hK G.T.g G.T.b G.T.builtins G.T.nolimit hg hobj hints (Nat.le_trans hlen hn2) hr hF hb fun H hO hS => hsp w H a ns hlen hO hS
end Ge
namespace Ge
open PySem PySem.Spec PyProof.Rows L2 Gd
/-! ### sorted lists of pairs of numbers -/
def pD (p : Int × Int) : D := .tup [.int p.1, .int p.2]
def prI? : List D → Option (List (Int × Int))
  | [] => some []
  | .tup [.int i, .int j] :: ds => (prI? ds).map ((i, j) :: ·)
  | _ :: _ => none
theorem prI_of : ∀ {ds : List D} {ps : List (Int × Int)}, prI? ds = some ps → ds = ps.map pD
  | [], ps, h => by
    cases h
    rfl
  | d :: ds, ps, h => by
    unfold prI? at h
    split at h
    · rename_i e
      cases e
    · rename_i i j es e
      cases e
      obtain ⟨qs, h1, rfl⟩ := Option.map_eq_some_iff.mp h
      rw [prI_of h1]
      rfl
    · cases h
theorem prI_mp : ∀ ps : List (Int × Int), prI? (ps.map pD) = some ps
  | [] => rfl
  | p :: ps => by
    show (prI? (ps.map pD)).map _ = _
    rw [prI_mp ps]
    rfl
def insP (x : Int × Int) : List (Int × Int) → List (Int × Int)
  | [] => [x]
  | y :: ys => cond (SrtO.lexB y x) (y :: insP x ys) (x :: y :: ys)
def psort (xs : List (Int × Int)) : List (Int × Int) := xs.foldr insP []
abbrev upP (x y : Int × Int) : Prop := SrtO.lexB y x = false
theorem upP_no {x y : Int × Int} : upP x y ↔ ¬ (y.1 < x.1 ∨ (y.1 = x.1 ∧ y.2 < x.2)) := SrtO.lexB_no
theorem upP_tr {x y z : Int × Int} (h : upP x y) (g : upP y z) : upP x z := by
  have a := upP_no.mp h
  have b := upP_no.mp g
  refine upP_no.mpr ?_
  omega
theorem upP_anti {x y : Int × Int} (h : upP x y) (g : upP y x) : x = y := by
  have a := upP_no.mp h
  have b := upP_no.mp g
  refine Prod.ext ?_ ?_ <;> omega
theorem upP_or {x y : Int × Int} (h : SrtO.lexB y x = true) : upP y x := by
  have a := SrtO.lexB_iff.mp h
  refine upP_no.mpr ?_
  omega
theorem insP_perm (x : Int × Int) : ∀ ys, (insP x ys).Perm (x :: ys)
  | [] => .refl _
  | y :: ys => by
    unfold insP
    cases SrtO.lexB y x with
    | true => exact (List.Perm.cons y (insP_perm x ys)).trans (.swap _ _ _)
    | false => exact .refl _
theorem psort_perm : ∀ xs, (psort xs).Perm xs
  | [] => .refl _
  | x :: xs => (insP_perm x _).trans (.cons x (psort_perm xs))
theorem insP_up (x : Int × Int) : ∀ ys : List (Int × Int), ys.Pairwise upP → (insP x ys).Pairwise upP
  | [], _ => by simp [insP]
  | y :: ys, h => by
    obtain ⟨h1, h2⟩ := List.pairwise_cons.mp h
    unfold insP
    cases e : SrtO.lexB y x with
    | true =>
      refine List.pairwise_cons.mpr ⟨fun z hz => ?_, insP_up x ys h2⟩
      rcases List.mem_cons.mp ((insP_perm x ys).mem_iff.mp hz) with rfl | hz
      · exact upP_or e
      · exact h1 z hz
    | false =>
      refine List.pairwise_cons.mpr ⟨fun z hz => ?_, h⟩
      rcases List.mem_cons.mp hz with rfl | hz
      · exact e
      · exact upP_tr e (h1 z hz)
theorem psort_up : ∀ xs, (psort xs).Pairwise upP
  | [] => .nil
  | x :: xs => insP_up x _ (psort_up xs)
theorem upP_eq : ∀ {xs ys : List (Int × Int)}, xs.Perm ys → xs.Pairwise upP → ys.Pairwise upP → xs = ys
  | [], ys, p, _, _ => by rw [List.nil_perm.mp p]
  | x :: xs, [], p, _, _ => by cases List.perm_nil.mp p
  | x :: xs, y :: ys, p, h, g => by
    obtain ⟨h1, h2⟩ := List.pairwise_cons.mp h
    obtain ⟨g1, g2⟩ := List.pairwise_cons.mp g
    have e : x = y := by
      have a : x ∈ y :: ys := p.mem_iff.mp (List.mem_cons_self ..)
      have b : y ∈ x :: xs := p.mem_iff.mpr (List.mem_cons_self ..)
      rcases List.mem_cons.mp a with a | a
      · exact a
      · rcases List.mem_cons.mp b with b | b
        · exact b.symm
        · exact upP_anti (h1 y b) (g1 x a)
    subst e
    rw [upP_eq p.cons_inv h2 g2]
/-- a new list of the same pairs, sorted -/
def rSorPZ (K : PySem.W.Frag) : List V → Hp → VK → Prop := fun vs H Q => ∃ (a : Addr) (xs : List V) (ps : List (Int × Int)), vs = [V.ref a] ∧ SqL K H a xs ∧ xs.length = ps.length ∧ (∀ z ∈ xs.zip ps, ∃ t, z.1 = V.ref t ∧ SqT K H t [.int z.2.1, .int z.2.2]) ∧
  ∀ (zs : List (V × (Int × Int))) (p : Addr), zs.Perm (xs.zip ps) → (zs.map Prod.snd).Pairwise upP → H p = none → Q (.ref p) (upd H p (.lst (zs.map Prod.fst)))
section
variable {X : Cx}
open Classical in
theorem cr_sorPZ : CallR X (.builtin "sorted") (rSorPZ X.K) := by
  rintro pins s σ H vs us Q I r ⟨a, xs, ps, rfl, hs, hlen, hx, q⟩
  obtain ⟨its, rv, hl, hz⟩ := I.list hs
  rw [Vals.ref1 r]
  have inz : ∀ x ∈ xs, ∃ p, (x, p) ∈ xs.zip ps := fun x hxm => by
    obtain ⟨i, hi, e⟩ := List.mem_iff_getElem.mp hxm
    refine ⟨ps[i], List.mem_iff_getElem.mpr ⟨i, by rw [List.length_zip]; omega, ?_⟩⟩
    rw [List.getElem_zip, e]
  have hr : ∀ x ∈ xs, ∃ t, x = V.ref t := fun x hxm => by
    obtain ⟨p, hp⟩ := inz x hxm
    obtain ⟨t, e, _⟩ := hx _ hp
    exact ⟨t, e⟩
  let kk : V → Int × Int := fun v => if h : ∃ p, (v, p) ∈ xs.zip ps then Classical.choose h else (0, 0)
  have hk : ∀ z ∈ xs.zip ps, kk z.1 = z.2 := fun z hzm => by
    have h : ∃ p, (z.1, p) ∈ xs.zip ps := ⟨z.2, hzm⟩
    have e : kk z.1 = Classical.choose h := dif_pos h
    obtain ⟨t1, e1, s1⟩ := hx _ hzm
    obtain ⟨t2, e2, s2⟩ := hx _ (Classical.choose_spec h)
    have e3 : t1 = t2 := V.ref.inj (e1.symm.trans e2)
    subst e3
    have e4 := I.tuple_inj s1 s2
    rw [e]
    injection e4 with a1 a2
    injection a2 with a2 _
    exact Prod.ext (V.int.inj a1).symm (V.int.inj a2).symm
  obtain ⟨e1, e2⟩ := refs_back rv hr
  refine SrtO.sorted_pairsO (k := fun u => kk (backV u)) hl.isList (by rw [← rv.length]; exact hz) ?_ ?_
  · intro v hv
    obtain ⟨t, rfl⟩ := e2 v hv
    obtain ⟨p, hp⟩ := inz (V.ref t) (by rw [e1]; exact List.mem_map.mpr ⟨_, hv, rfl⟩)
    obtain ⟨t2, e3, ht⟩ := hx _ hp
    cases e3
    have e4 := hk _ hp
    obtain ⟨jts, rj, ht2, _⟩ := I.tuple ht
    obtain ⟨o, ho, hc, n, hd⟩ := ht2
    obtain ⟨u1, u2, rfl, r1, r2⟩ := vals2 rj
    obtain ⟨t1, rfl⟩ := r1
    obtain ⟨t3, rfl⟩ := r2
    have e5 : kk (backV (Value.ref t)) = p := e4
    simp only [e5]
    exact ⟨t, o, t1, t3, n, rfl, ho, hc, hd⟩
  · rintro h' d out h1 h2 kp hd ⟨n, hn⟩
    have h3 : ∀ u ∈ out, ∃ b, u = Value.ref b := fun u hu => e2 u (h2.perm.mem_iff.mp hu)
    have hp : (out.map backV).Perm xs := by
      rw [e1]
      exact h2.perm.map backV
    have hz2 : xs.zip ps = xs.map fun x => (x, kk x) := by
      refine List.ext_getElem (by rw [List.length_zip, List.length_map]; omega) fun i i1 i2 => ?_
      have m := hk _ (List.getElem_mem i1)
      rw [List.getElem_zip] at m ⊢
      rw [List.getElem_map]
      exact Prod.ext rfl m.symm
    have q1 := q ((out.map backV).map fun x => (x, kk x)) d (by rw [hz2]; exact hp.map _) (by
      rw [List.map_map, List.pairwise_map, List.pairwise_map]
      exact h1) (I.hok.fresh hd)
    have e5 : ((out.map backV).map fun x => (x, kk x)).map Prod.fst = out.map backV := by
      rw [List.map_map]
      exact List.map_id' _
    rw [e5] at q1
    exact ⟨.ref d, upd H d (.lst (out.map backV)), I.laid (t' := s.toks) kp hd ⟨by rw [hp.length_eq]; exact hz, out, n, vals_back h3, hn⟩, rfl, q1⟩
end
def sorPD : D → Option D
  | .lst ds => (prI? ds).bind fun ps => some (.lst ((psort ps).map pD))
  | _ => none
section
variable {K : PySem.W.Frag}
theorem rep_zip {F : Hp} : ∀ {xs : List V} {ps : List (Int × Int)}, RepL K F xs (ps.map pD) → xs.length = ps.length ∧ ∀ z ∈ xs.zip ps, Rep K F z.1 (pD z.2)
  | [], [], _ => ⟨rfl, fun z hz => absurd hz (by simp)⟩
  | x :: xs, p :: ps, h => by
    cases h with
    | cons h1 h2 =>
      obtain ⟨l, g⟩ := rep_zip h2
      refine ⟨congrArg Nat.succ l, fun z hz => ?_⟩
      rcases List.mem_cons.mp (show z ∈ (x, p) :: xs.zip ps from hz) with rfl | hz
      · exact h1
      · exact g z hz
theorem rep_unzip {F : Hp} : ∀ {zs : List (V × (Int × Int))}, (∀ z ∈ zs, Rep K F z.1 (pD z.2)) → RepL K F (zs.map Prod.fst) ((zs.map Prod.snd).map pD)
  | [], _ => .nil
  | z :: zs, h => .cons (h z (List.mem_cons_self ..)) (rep_unzip fun y hy => h y (List.mem_cons_of_mem _ hy))
theorem cbs_sorPD : CbS K (cb1 sorPD) (rSorPZ K) := cbs_of1 fun A as s σ H x d z R Q ok r hz w k => by
  cases d with
  | lst ds =>
    obtain ⟨ps, h, h9⟩ := bind_of (show (prI? ds).bind (fun ps => some (D.lst ((psort ps).map pD))) = some z from hz)
    cases prI_of h
    cases h9
    obtain ⟨a, xs, rfl, h1, h2⟩ := r
    obtain ⟨l, g⟩ := rep_zip h2
    refine ⟨a, xs, ps, rfl, .inl (.inl h1), l, fun y hy => ?_, fun zs p hp hs hn => ?_⟩
    · have r0 : Rep K _ y.1 (.tup [.int y.2.1, .int y.2.2]) := g y hy
      generalize y.1 = v at r0
      cases r0 with
      | tup z1 z2 =>
        have e : ∀ {us : List V}, RepL K (vw A as s.μ H) us [.int y.2.1, .int y.2.2] → us = [.int y.2.1, .int y.2.2] := fun h => by
          cases h with
          | cons a1 a2 =>
            cases a2 with
            | cons b1 b2 =>
              cases b2
              cases a1
              cases b1
              rfl
        rw [e z2] at z1
        exact ⟨_, rfl, (vw_le.zt z1).sq⟩
    · have e1 : (xs.zip ps).map Prod.snd = ps := by
        rw [← List.unzip_snd, List.unzip_zip l]
      have e2 : zs.map Prod.snd = psort ps := upP_eq ((hp.map _).trans (by rw [e1]; exact (psort_perm ps).symm)) hs (psort_up ps)
      have e3 := rep_unzip (K := K) (F := vw A as s.μ H) (zs := zs) fun y hy => g y (hp.mem_iff.mp hy)
      rw [e2] at e3
      exact lstD k ok hn e3 w
  | _ => cases hz
end
end Ge
namespace Ge
open PySem PySem.Spec PyProof.Rows L2 Gd
section
variable {X : Cx} {pos : Pos}
/-- x, y, z = a, b, c where a name is held by a cell: by a tuple -/
theorem fs_par3c {i j l : Nat} {x y z : Str} {a b c : Expr} {ea eb ec : Ev Sl} {px py pz pt pos : Pos} {kt k2 pt2} (hc : X.calm = true) (hN : X.N.Nodup) (hi : X.N[i]? = some x) (hj : X.N[j]? = some y) (hl : X.N[l]? = some z)
    (ha : PE X a (up X.K (wE ea))) (hb : PE X b (up X.K (wE eb))) (hcc : PE X c (up X.K (wE ec)))
    (hx : Loc X.env.scope x := by first | exact Or.inl rfl | exact Or.inr rfl) (hy : Loc X.env.scope y := by first | exact Or.inl rfl | exact Or.inr rfl) (hz : Loc X.env.scope z := by first | exact Or.inl rfl | exact Or.inr rfl)
    (fx : X.fn x = true ∨ X.env.scope.names.lookup x = some .local := by first | exact .inl rfl | exact .inr rfl | assumption)
    (fy : X.fn y = true ∨ X.env.scope.names.lookup y = some .local := by first | exact .inl rfl | exact .inr rfl | assumption)
    (fz : X.fn z = true ∨ X.env.scope.names.lookup z = some .local := by first | exact .inl rfl | exact .inr rfl | assumption)
    (hw : swappedStores [.Tuple [.Name x px, .Name y py, .Name z pz] kt pt] (.Tuple [a, b, c] k2 pt2) X.env = pure none := by rfl)
    (hs : swapsWithSole [.Tuple [.Name x px, .Name y py, .Name z pz] kt pt] (.Tuple [a, b, c] k2 pt2) pos.line X.env = pure false := by rfl)
    (h1 : starEach [a, b, c] X.env = (false, eval a X.env) :: starEach [b, c] X.env := by rfl) (h2 : starEach [b, c] X.env = (false, eval b X.env) :: starEach [c] X.env := by rfl) (h3 : starEach [c] X.env = (false, eval c X.env) :: starEach [] X.env := by rfl)
    (k1 : (assignEach [.Tuple [.Name x px, .Name y py, .Name z pz] kt pt] X.env).map (·.2) = [assign (.Tuple [.Name x px, .Name y py, .Name z pz] kt pt) X.env] := by rfl)
    (kn : (assignEach [.Name x px, .Name y py, .Name z pz] X.env).length = 3 := by rfl) (kst : (assignEach [.Name x px, .Name y py, .Name z pz] X.env).findIdx? (·.1) = none := by rfl)
    (s1 : (assignEach [.Name x px, .Name y py, .Name z pz] X.env).map (·.2) = assign (.Name x px) X.env :: (assignEach [.Name y py, .Name z pz] X.env).map (·.2) := by rfl)
    (s2 : (assignEach [.Name y py, .Name z pz] X.env).map (·.2) = assign (.Name y py) X.env :: (assignEach [.Name z pz] X.env).map (·.2) := by rfl)
    (s3 : (assignEach [.Name z pz] X.env).map (·.2) = assign (.Name z pz) X.env :: (assignEach [] X.env).map (·.2) := by rfl) :
    PS X (.Assign [.Tuple [.Name x px, .Name y py, .Name z pz] kt pt] (.Tuple [a, b, c] k2 pt2) pos) (upS X.K (wS (sPar3 i j l ea eb ec))) :=
  ps_imp (ps_asg (pe_tup (f_acons ha (f_acons hb (f_acons hcc f_anil h3) h2) h1)) (pg_tup hc (pgs_cons (pg_name hN hi hx fx) (pgs_cons (pg_name hN hj hy fy) (pgs_cons (pg_name hN hl hz fz) pgs_nil s3) s2) s1) kn kst) hs hw k1) fun D σ H ⟨A, as, s, d, ok, ⟨o, q1, q2⟩, cn, cr, cb, cd⟩ => by
  obtain ⟨p, e1, z1⟩ := bind_of q1
  obtain ⟨q, e2, z2⟩ := bind_of z1
  obtain ⟨r, e3, z3⟩ := bind_of z2
  cases z3
  have w : wE (fACons ea (fACons eb (fACons ec fANil))) s fun ps s1 => ps = [p.1, q.1, r.1] ∧ s1 = ⟨s.Γ, r.2⟩ :=
    wE_mk ⟨p, e1, wE_mk ⟨([q.1, r.1], r.2), by
      show (eb.dir s.Γ p.2).bind _ = _
      rw [e2]
      show ((ec.dir s.Γ q.2).bind _).bind _ = _
      rw [e3]
      rfl, ⟨([p.1, q.1, r.1], r.2), rfl, rfl, rfl⟩⟩⟩
  refine ⟨A, as, s, _, ok, w, fun vs H1 ps s1 as1 st1 ok1 r1 ⟨g1, g2⟩ => ?_⟩
  subst g1 g2
  match vs, r1 with
  | [v, u, t], r1 =>
    refine ⟨by show 3 ≤ sizeLine; decide, fun b hp => ?_⟩
    obtain ⟨st2, ok2, e2⟩ := ok1.new hp (.tup [v, u, t])
    refine ⟨b, [v, u, t], rfl, .inl (.inl (by simp [upd])), rfl, v, _, rfl, u, _, rfl, t, _, rfl, rfl, ?_⟩
    have r2 := RepSs.mono st2.le (List.prefix_refl _) r1
    exact cn _ _ _ as1 st1.pre (((ok2.named r2.1 i).named (s := ⟨put s.Γ i p.1, r.2⟩) r2.2.1 j).named (s := ⟨put (put s.Γ i p.1) j q.1, r.2⟩) r2.2.2.1 l) q2
end
/-! sorted(set(a tuple)) -/
section
variable {X : Cx} {a : Expr} {ta : TE} {p p2 q pos : Pos} {ea : Ev Sl}
def tSorSetT (K : PySem.W.Frag) (ta : TE) : TE := fun σ H Q => ta σ H fun x H1 => ∃ (l : Addr) (ns : List Int), x = .ref l ∧ SqT K H1 l (ns.map V.int) ∧ ns.length < 64 ∧ ∀ p, H1 p = none → Q (.ref p) (upd H1 p (.lst ((ssort ns).map V.int)))
theorem pe_sorSetT (hc : X.calm = true) (hg : Gl X "sorted") (hm : X.mg "sorted" = none) (hg2 : Gl X "set") (hm2 : X.mg "set" = none) (ha : PE X a ta)
    (na : starEach [a] X.env = (false, eval a X.env) :: starEach [] X.env := by rfl) (nb : starEach [.Call (.Name "set" p2) [a] [] q] X.env = (false, eval (.Call (.Name "set" p2) [a] [] q) X.env) :: starEach [] X.env := by rfl) : PE X (.Call (.Name "sorted" p) [.Call (.Name "set" p2) [a] [] q] [] pos) (tSorSetT X.K ta) := by
  refine ⟨fun pins s σ H Q I h => ?_⟩
  refine Call_ (ld_blt I hg hm boot_sorted ?_)
  refine PyProof.Rows.callWith_builtin1 (PyProof.Rows.args_cons ?_ nb) nb rfl
  refine Call_ (ld_blt I hg2 hm2 PyProof.Rows.boot_set ?_)
  refine PyProof.Rows.callWith_type1 (PyProof.Rows.args_cons (thn (ha.run pins s σ H _ I h) fun v s1 ⟨x, H1, I1, r1, q1⟩ => PyProof.Rows.args_nil ?_) na) na rfl
  obtain ⟨l, ns, rfl, hq, h64, q1⟩ := q1
  cases r1
  obtain ⟨its, rv, pl, hz⟩ := I1.tuple hq
  refine call_set_tupI ns (I1.ok.hd hc) pl (by simpa using rv.ints) (by unfold scanBound; omega) fun h' tk c hS hcl hk => ?_
  refine PyProof.Rows.args_nil ?_
  have I2 : Inv X pins σ H1 { s1 with heap := h', toks := tk } := I1.kept hk
  refine sorted_set hS (I2.ok.hd hc) (by omega) fun s' p out c ks k g o hp hg hi hs hm hl => ?_
  have hn : H1 p = none := I2.hok.fresh hp
  have hsub : ks = ssort ns := ssort_eq hs fun k => (hm k).trans (by simp)
  have hlen : (ks.map V.int).length ≤ sizeLine := by rw [List.length_map, hl, sizeLine_eq]; omega
  have J : Inv X pins σ (upd H1 p (.lst (ks.map V.int))) { { s1 with heap := h', toks := tk } with heap := s'.heap, gens := s'.gens, drawn := s'.drawn, toks := s'.toks } :=
    I2.call (ch := []) (Un.laid k hp hn) (I2.hok.laid k hp ⟨hlen, out.toList, c, vals_of_ints hi, hg⟩) (by rw [g]; exact I2.bare) (fun _ z => nomatch z)
  have e : s' = { { s1 with heap := h', toks := tk } with heap := s'.heap, gens := s'.gens, drawn := s'.drawn, toks := s'.toks } := by
    clear J hm hs hi hg hp k
    cases s'
    cases s1
    cases o
    rfl
  rw [e]
  rw [hsub] at J
  exact ⟨.ref p, _, J, rfl, q1 p hn⟩
def sseT : D → Option D
  | .tup ds => (ints? ds).bind fun is => if is.length < 64 then some (.lst (dI (ssort is))) else none
  | _ => none
theorem f_sorSetT (hc : X.calm = true) (hg : Gl X "sorted") (hm : X.mg "sorted" = none) (hg2 : Gl X "set") (hm2 : X.mg "set" = none) (ha : PE X a (up X.K (wE ea)))
    (na : starEach [a] X.env = (false, eval a X.env) :: starEach [] X.env := by rfl) (nb : starEach [.Call (.Name "set" p2) [a] [] q] X.env = (false, eval (.Call (.Name "set" p2) [a] [] q) X.env) :: starEach [] X.env := by rfl) :
    PE X (.Call (.Name "sorted" p) [.Call (.Name "set" p2) [a] [] q] [] pos) (up X.K (wE (fU sseT ea))) := pe_imp (pe_sorSetT hc hg hm hg2 hm2 ha na nb) fun σ H Q ⟨A, as, s, R, ok, w, k⟩ => by
  refine ⟨A, as, s, _, ok, wE_U w, fun v1 H1 r s1 as1 st1 ok1 r1 ⟨d, z, h1, h2, h3⟩ => ?_⟩
  have rd1 := ok1.rdc r1 h1
  cases d with
  | tup ds =>
    obtain ⟨is, h, h9⟩ := bind_of h2
    cases ints_of h
    obtain ⟨c, h10⟩ := ite_of h9
    cases h10
    obtain ⟨_, a, xs, rfl, g1, g2⟩ := rd1
    cases g2.nums
    exact ⟨a, is, rfl, g1.sq, c, fun p hp => lstD (fun v3 H3 t s3 as3 st3 ok3 r3 w3 => k v3 H3 t s3 as3 (st1.trans st3) ok3 r3 w3) ok1 hp (dI_rep _) h3⟩
  | _ => cases h2
end
end Ge
namespace Hm
open PySem PySem.Spec PyProof.Rows L2 Gd Ge
/-! ### numbers and lists of them as data -/
def nd (n : Nat) : D := .int (n : Int)
def nl (ns : List Nat) : List D := ns.map nd
def prd (p : Nat × Nat) : D := .tup [nd p.1, nd p.2]
def pl (ps : List (Nat × Nat)) : List D := ps.map prd
theorem nd_def (n : Nat) : nd n = .int (n : Int) := rfl
theorem nd_inj {a b : Nat} (h : nd a = nd b) : a = b := by
  unfold nd at h
  injection h with h
  omega
theorem lit0 : D.int 0 = nd 0 := rfl
theorem lit1 : D.int 1 = nd 1 := rfl
theorem lit2 : D.int 2 = nd 2 := rfl
theorem lit3 : D.int 3 = nd 3 := rfl
theorem lit4 : D.int 4 = nd 4 := rfl
theorem lit5 : D.int 5 = nd 5 := rfl
theorem lit6 : D.int 6 = nd 6 := rfl
theorem lit7 : D.int 7 = nd 7 := rfl
theorem lit9 : D.int 9 = nd 9 := rfl
theorem lit10 : D.int 10 = nd 10 := rfl
theorem lit12 : D.int 12 = nd 12 := rfl
theorem lit13 : D.int 13 = nd 13 := rfl
theorem lit20 : D.int 20 = nd 20 := rfl
theorem lit99 : D.int 99 = nd 99 := rfl
theorem add_n (a b : Nat) : addD (nd a) (nd b) = some (nd (a + b)) := by
  show some (D.int ((a : Int) + b)) = _
  rw [nd_def, Int.natCast_add]
theorem lt_n (a b : Nat) : ltD (nd a) (nd b) = some (decide (a < b)) := by
  show some (decide ((a : Int) < b)) = _
  simp
theorem le_n (a b : Nat) : leD (nd a) (nd b) = some (decide (a ≤ b)) := by
  show some (decide ((a : Int) ≤ b)) = _
  simp
theorem gt_n (a b : Nat) : gtD (nd a) (nd b) = some (decide (b < a)) := by
  show some (decide ((b : Int) < a)) = _
  simp
theorem ge_n (a b : Nat) : geD (nd a) (nd b) = some (decide (b ≤ a)) := by
  show some (decide ((b : Int) ≤ a)) = _
  simp
theorem eq_n (g : Bool) (a b : Nat) : eqD g (nd a) (nd b) = some (g ^^ decide (a = b)) := by
  show some (g ^^ decide ((a : Int) = b)) = _
  simp
  exact Int.ofNat_inj
theorem sub_n {a b : Nat} (h : b ≤ a) : subD (nd a) (nd b) = some (nd (a - b)) := by
  show some (D.int ((a : Int) - b)) = _
  rw [nd_def, Int.ofNat_sub h]
theorem min_n (a b : Nat) : int2D minI (nd a) (nd b) = some (nd (min a b)) := by
  show some (D.int (if (b : Int) < a then (b : Int) else a)) = _
  rw [nd_def]
  congr 2
  split <;> omega
theorem max_n (a b : Nat) : int2D maxI (nd a) (nd b) = some (nd (max a b)) := by
  show some (D.int (if (b : Int) > a then (b : Int) else a)) = _
  rw [nd_def]
  congr 2
  split <;> omega
theorem nl_len (ns : List Nat) : (nl ns).length = ns.length := List.length_map ..
theorem pl_len (ns : List (Nat × Nat)) : (pl ns).length = ns.length := List.length_map ..
theorem rg_nl : ∀ (n k : Nat), rg (k : Int) n = nl (List.range' k n)
  | 0, _ => rfl
  | n + 1, k => by
    show D.int (k : Int) :: rg ((k : Int) + 1) n = nd k :: nl (List.range' (k + 1) n)
    rw [← rg_nl n (k + 1)]
    rfl
theorem rg0 (n : Nat) : rg 0 n = nl (List.range n) := by
  rw [List.range_eq_range']
  exact rg_nl n 0
theorem rng1_n {n : Nat} (h : n ≤ 100000) : rng1 (nd n) = some (nl (List.range n)) := by
  show (if fitsB (n : Int) = true then some (rg 0 (n : Int).toNat) else none) = _
  rw [if_pos (by unfold fitsB; exact decide_eq_true ⟨by omega, by omega⟩), Int.toNat_natCast, rg0]
theorem rngL1_n {n : Nat} (h : n ≤ 100000) : rngL1 (nd n) = some (nl (List.range n)) := by
  show (if okR 0 (n : Int) = true then some (rg 0 ((n : Int) - 0).toNat) else none) = _
  rw [if_pos (by unfold okR; exact decide_eq_true ⟨by decide, by decide, by omega, by omega, by omega⟩), Int.sub_zero, Int.toNat_natCast, rg0]
theorem at_n {ds : List D} {i : Nat} {d : D} (h : ds[i]? = some d) : atI ds (i : Int) = some d := atI_nn (by omega) (by rw [Int.toNat_natCast]; exact h)
theorem ix_l {ds : List D} {i : Nat} {d : D} (h : ds[i]? = some d) : ixD (.lst ds) (nd i) = some d := at_n h
theorem ix_t {ds : List D} {i : Nat} {d : D} (h : ds[i]? = some d) : ixD (.tup ds) (nd i) = some d := at_n h
theorem at_last {ds : List D} {d : D} : atI (ds ++ [d]) (-1) = some d := by
  refine atI_neg (by decide) (by rw [List.length_append]; show (-((ds.length + 1 : Nat) : Int)) ≤ -1; omega) ?_
  rw [List.length_append, show (-1 + ((ds.length + [d].length : Nat) : Int)).toNat = ds.length by show (-1 + ((ds.length + 1 : Nat) : Int)).toNat = _; omega, List.getElem?_append_right (Nat.le_refl _), Nat.sub_self]
  rfl
/-! ### comprehensions -/
theorem lcM_fm {α : Type} {f : α → D} {g : α → Option D} {step : D → Option (Option D)} : ∀ {xs : List α}, (∀ x ∈ xs, step (f x) = some (g x)) → lcM step (xs.map f) = some (xs.filterMap g)
  | [], _ => rfl
  | x :: xs, h => by
    show (step (f x)).bind _ = _
    rw [h x (List.mem_cons_self ..)]
    show (lcM step (xs.map f)).bind _ = _
    rw [lcM_fm fun y hy => h y (List.mem_cons_of_mem _ hy)]
    show some (ocons (g x) (xs.filterMap g)) = _
    rw [List.filterMap_cons]
    cases g x <;> rfl
theorem lcG_fm {α : Type} {f : α → D} {g : α → Option D} {step : D → Option (Option D)} {xs : List α} (hl : xs.length ≤ 100000) (h : ∀ x ∈ xs, step (f x) = some (g x)) : lcG step (xs.map f) = some (xs.filterMap g) := by
  unfold lcG
  rw [gd_ok (by rw [List.length_map]; exact hl)]
  exact lcM_fm h
theorem fm_some {α β : Type} (k : α → β) : ∀ xs : List α, xs.filterMap (fun x => some (k x)) = xs.map k
  | [] => rfl
  | x :: xs => by rw [List.filterMap_cons]; show k x :: _ = _; rw [fm_some k xs]; rfl
theorem lcG_mp {α : Type} {f : α → D} {g : α → D} {step : D → Option (Option D)} {xs : List α} (hl : xs.length ≤ 100000) (h : ∀ x ∈ xs, step (f x) = some (some (g x))) : lcG step (xs.map f) = some (xs.map g) := by
  rw [lcG_fm (g := fun x => some (g x)) hl h, fm_some]
theorem lcG_mpD {g : D → D} {step : D → Option (Option D)} {xs : List D} (hl : xs.length ≤ 100000) (h : ∀ x ∈ xs, step x = some (some (g x))) : lcG step xs = some (xs.map g) := by
  have := lcG_mp (f := fun x => x) hl h
  rwa [List.map_id''] at this
  exact fun _ => rfl
theorem bls_mp {α : Type} (p : α → Bool) : ∀ xs : List α, bls? (xs.map fun x => D.bl (p x)) = some (xs.map p)
  | [] => rfl
  | x :: xs => by
    show (bls? _).map _ = _
    rw [bls_mp p xs]
    rfl
theorem all_mp {α : Type} (p : α → Bool) (xs : List α) : allD (.lst (xs.map fun x => D.bl (p x))) = some (.bl (xs.all p)) := by
  show (bls? _).bind _ = _
  rw [bls_mp]
  show some (D.bl ((xs.map p).all id)) = _
  rw [List.all_map]
  rfl
theorem ints_nl : ∀ ns : List Nat, ints? (nl ns) = some (ns.map Int.ofNat)
  | [] => rfl
  | n :: ns => by
    show (ints? (nl ns)).map _ = _
    rw [ints_nl ns]
    rfl
theorem sum_cast : ∀ ns : List Nat, (ns.map Int.ofNat).sum = ((ns.sum : Nat) : Int)
  | [] => rfl
  | n :: ns => by
    rw [List.map_cons, List.sum_cons, sum_cast ns, List.sum_cons, Int.natCast_add]
    rfl
theorem sum_n (ns : List Nat) : sumD (.lst (nl ns)) = some (nd ns.sum) := by
  show (ints? _).bind _ = _
  rw [ints_nl]
  show some (D.int (ns.map Int.ofNat).sum) = _
  rw [sum_cast]
  rfl
/-! ### dicts -/
section
variable {κ : Type} [DecidableEq κ]
theorem dval_len {ks : List κ} {vs : List D} (h : ks.length = vs.length) (j : κ) : (dval ks vs j).isSome = decide (j ∈ ks) := by
  induction ks generalizing vs with
  | nil => cases vs <;> rfl
  | cons k ks ih =>
    cases vs with
    | nil => cases h
    | cons v vs =>
      show (if k = j then some v else dval ks vs j).isSome = _
      by_cases e : k = j
      · rw [if_pos e]
        simp [e]
      · rw [if_neg e, ih (Nat.succ.inj h)]
        simp [List.mem_cons, Ne.symm e]
theorem dset_len : ∀ (ks : List κ) (vs : List D) (j : κ) (d : D), (dset ks vs j d).length = vs.length
  | [], vs, _, _ => by cases vs <;> rfl
  | _ :: _, [], _, _ => rfl
  | _ :: ks, _ :: vs, j, d => by
    show (dset ks vs j d).length + 1 = _
    rw [dset_len]
    rfl
theorem dval_dset : ∀ (ks : List κ) (vs : List D) (j : κ) (d : D) (i : κ), ks.length = vs.length → j ∈ ks → dval ks (dset ks vs j d) i = if i = j then some d else dval ks vs i
  | k :: ks, v :: vs, j, d, i, h, m => by
    show (if k = i then some (if k = j then d else v) else dval ks (dset ks vs j d) i) = _
    show _ = if i = j then some d else (if k = i then some v else dval ks vs i)
    by_cases e1 : k = i
    · subst e1
      rw [if_pos rfl, if_pos rfl]
      split <;> rfl
    · rw [if_neg e1, if_neg e1]
      by_cases e2 : j ∈ ks
      · exact dval_dset ks vs j d i (Nat.succ.inj h) e2
      · have e3 : j = k := by
          rcases List.mem_cons.mp m with e | e
          · exact e
          · exact absurd e e2
        rw [if_neg (by rw [e3]; exact Ne.symm e1)]
        exact dval_skip ks vs j d i e2
where
  dval_skip : ∀ (ks : List κ) (vs : List D) (j : κ) (d : D) (i : κ), j ∉ ks → dval ks (dset ks vs j d) i = dval ks vs i
    | [], vs, _, _, _, _ => by cases vs <;> rfl
    | _ :: _, [], _, _, _, _ => rfl
    | k :: ks, v :: vs, j, d, i, h => by
      show (if k = i then some (if k = j then d else v) else dval ks (dset ks vs j d) i) = if k = i then some v else dval ks vs i
      rw [if_neg (show ¬ k = j from fun e => h (by rw [e]; exact List.mem_cons_self ..)), dval_skip ks vs j d i fun m => h (List.mem_cons_of_mem _ m)]
theorem dval_app : ∀ (ks : List κ) (vs : List D) (j : κ) (d : D) (i : κ), ks.length = vs.length → j ∉ ks → dval (ks ++ [j]) (vs ++ [d]) i = if i = j then some d else dval ks vs i
  | [], [], j, d, i, _, _ => by
    show (if j = i then some d else none) = if i = j then some d else none
    by_cases e : i = j
    · rw [if_pos e, if_pos e.symm]
    · rw [if_neg e, if_neg (Ne.symm e)]
  | k :: ks, v :: vs, j, d, i, h, m => by
    show (if k = i then some v else dval (ks ++ [j]) (vs ++ [d]) i) = if i = j then some d else (if k = i then some v else dval ks vs i)
    by_cases e1 : k = i
    · subst e1
      rw [if_pos rfl, if_pos rfl, if_neg fun e => m (by rw [e]; exact List.mem_cons_self ..)]
    · rw [if_neg e1, if_neg e1]
      exact dval_app ks vs j d i (Nat.succ.inj h) fun z => m (List.mem_cons_of_mem _ z)
theorem dput_ok {ks : List κ} {vs : List D} (h : ks.length = vs.length) (j : κ) (d : D) :
    (dput ks vs j d).1.length = (dput ks vs j d).2.length ∧ (ks.Nodup → (dput ks vs j d).1.Nodup) ∧ (∀ i, i ∈ (dput ks vs j d).1 ↔ i ∈ ks ∨ i = j) ∧ ∀ i, dval (dput ks vs j d).1 (dput ks vs j d).2 i = if i = j then some d else dval ks vs i := by
  unfold dput
  by_cases m : j ∈ ks
  · rw [if_pos m]
    refine ⟨by rw [dset_len]; exact h, fun z => z, fun i => ⟨.inl, fun z => z.elim id fun e => e ▸ m⟩, fun i => dval_dset ks vs j d i h m⟩
  · rw [if_neg m]
    refine ⟨by simp [h], fun z => ?_, fun i => by simp, fun i => dval_app ks vs j d i h m⟩
    rw [List.nodup_append]
    refine ⟨z, by simp, fun a ha b hb e => m ?_⟩
    rw [List.mem_singleton] at hb
    rw [← hb, ← e]
    exact ha
end
instance decKey (i : Key) (l : List Key) : Decidable (i ∈ l) := @List.instDecidableMemOfLawfulBEq Key instBEqOfDecidableEq inferInstance i l
theorem mrg_ok : ∀ (ps : List (Key × D)) (ks : List Key) (vs : List D), ks.length = vs.length →
    (mrg ks vs ps).1.length = (mrg ks vs ps).2.length ∧ (ks.Nodup → (mrg ks vs ps).1.Nodup) ∧ (∀ i, i ∈ (mrg ks vs ps).1 ↔ i ∈ ks ∨ i ∈ ps.map Prod.fst) ∧
    ∀ V : Key → D, (∀ p ∈ ps, p.2 = V p.1) → ∀ i, dval (mrg ks vs ps).1 (mrg ks vs ps).2 i = if i ∈ ps.map Prod.fst then some (V i) else dval ks vs i
  | [], ks, vs, h => ⟨h, fun z => z, fun i => by simp [mrg], fun V _ i => by simp [mrg]⟩
  | (k, d) :: ps, ks, vs, h => by
    obtain ⟨h1, h2, h3, h4⟩ := dput_ok h k d
    obtain ⟨g1, g2, g3, g4⟩ := mrg_ok ps (dput ks vs k d).1 (dput ks vs k d).2 h1
    refine ⟨g1, fun z => g2 (h2 z), fun i => ?_, fun V hV i => ?_⟩
    · show i ∈ (mrg (dput ks vs k d).1 (dput ks vs k d).2 ps).1 ↔ _
      rw [g3, h3, List.map_cons, List.mem_cons]
      constructor
      · rintro ((h | h) | h)
        · exact .inl h
        · exact .inr (.inl h)
        · exact .inr (.inr h)
      · rintro (h | h | h)
        · exact .inl (.inl h)
        · exact .inl (.inr h)
        · exact .inr h
    · show dval (mrg (dput ks vs k d).1 (dput ks vs k d).2 ps).1 (mrg (dput ks vs k d).1 (dput ks vs k d).2 ps).2 i = _
      rw [g4 V (fun p hp => hV p (List.mem_cons_of_mem _ hp)), h4, List.map_cons]
      have hk : d = V k := hV (k, d) (List.mem_cons_self ..)
      by_cases e1 : i ∈ ps.map Prod.fst
      · rw [if_pos e1, if_pos (List.mem_cons_of_mem _ e1)]
      · rw [if_neg e1]
        by_cases e2 : i = k
        · rw [if_pos e2, if_pos (by rw [e2]; exact List.mem_cons_self ..), hk, e2]
        · rw [if_neg e2, if_neg fun m => (List.mem_cons.mp m).elim e2 e1]
theorem dcM_mrg {α : Type} {f : α → D} {key : α → Key} {val : α → D} {step : D → Option (Option (Key × D))} : ∀ {xs : List α} {ks : List Key} {vs : List D}, (∀ x ∈ xs, step (f x) = some (some (key x, val x))) →
    dcM step (xs.map f) ks vs = some (mrg ks vs (xs.map fun x => (key x, val x)))
  | [], _, _, _ => rfl
  | x :: xs, ks, vs, h => by
    show (step (f x)).bind _ = _
    rw [h x (List.mem_cons_self ..)]
    exact dcM_mrg fun y hy => h y (List.mem_cons_of_mem _ hy)
theorem dcG_mrg {α : Type} {f : α → D} {key : α → Key} {val : α → D} {step : D → Option (Option (Key × D))} {xs : List α} (hl : xs.length ≤ 100000) (h : ∀ x ∈ xs, step (f x) = some (some (key x, val x))) :
    dcG step (xs.map f) = some (mrg [] [] (xs.map fun x => (key x, val x))) := by
  unfold dcG
  rw [gd_ok (by rw [List.length_map]; exact hl)]
  exact dcM_mrg h
theorem prs_tup {α : Type} (key : α → Nat) (val : α → D) : ∀ xs : List α, prs? (xs.map fun x => D.tup [nd (key x), val x]) = some (xs.map fun x => ((Sum.inl (key x : Int) : Key), val x))
  | [] => rfl
  | x :: xs => by
    show (kO (nd (key x))).bind (fun k => (prs? _).map _) = _
    rw [prs_tup key val xs]
    rfl
/-! ### loops -/
theorem loop_ok {τ : Type} {step : τ → D → Option τ} (I : Nat → τ → Prop) : ∀ {ds : List D} {t : τ} {k : Nat}, I k t → (∀ (i : Nat) (t : τ) (d : D), ds[i]? = some d → I (k + i) t → ∃ t', step t d = some t' ∧ I (k + i + 1) t') → ∃ t', loopM step ds t = some t' ∧ I (k + ds.length) t'
  | [], t, k, h, _ => ⟨t, rfl, h⟩
  | d :: ds, t, k, h, hs => by
    obtain ⟨t1, e, h1⟩ := hs 0 t d rfl h
    obtain ⟨t2, e2, h2⟩ := loop_ok (ds := ds) (t := t1) (k := k + 1) I h1 fun i t d hd hI => by
      have := hs (i + 1) t d hd
      rw [show k + (i + 1) = k + 1 + i by omega] at this
      exact this hI
    refine ⟨t2, ?_, ?_⟩
    · show (step t d).bind _ = _
      rw [e]
      exact e2
    · rw [List.length_cons, show k + (ds.length + 1) = k + 1 + ds.length by omega]
      exact h2
end Hm
namespace Hm
open PySem PySem.Spec PyProof.Rows L2 Gd Ge
/-! ### lists of numbers: the greatest, the least free, how many kinds -/
theorem nodup_sub {l ns : List Nat} (h : l.Nodup) (s : ∀ x ∈ l, x ∈ ns) : l.length ≤ ns.length := by
  induction l generalizing ns with
  | nil => exact Nat.zero_le _
  | cons x l ih =>
    rw [List.nodup_cons] at h
    have hx := s x (List.mem_cons_self ..)
    have := ih (ns := ns.erase x) h.2 fun y hy => (List.mem_erase_of_ne (fun e => h.1 (by rw [← e]; exact hy))).mpr (s y (List.mem_cons_of_mem _ hy))
    rw [List.length_erase_of_mem hx] at this
    have := List.length_pos_of_mem hx
    rw [List.length_cons]
    omega
theorem rise_nodup {l : List Nat} (h : l.Pairwise (· < ·)) : l.Nodup := h.imp fun z => Nat.ne_of_lt z
theorem rise_len {l : List Nat} {n : Nat} (h : l.Pairwise (· < ·)) (b : ∀ x ∈ l, x < n) : l.length ≤ n := by
  have := nodup_sub (ns := List.range n) (rise_nodup h) fun x hx => List.mem_range.mpr (b x hx)
  rwa [List.length_range] at this
def topOf (ns : List Nat) : Nat := (ns.map (· + 1)).foldr max 0
theorem topOf_spec : ∀ ns : List Nat, (∀ y ∈ ns, y < topOf ns) ∧ (topOf ns = 0 ∨ ∃ x ∈ ns, topOf ns = x + 1)
  | [] => ⟨fun _ h => absurd h List.not_mem_nil, Or.inl rfl⟩
  | x :: ns => by
    obtain ⟨h1, h2⟩ := topOf_spec ns
    have e : topOf (x :: ns) = max (x + 1) (topOf ns) := rfl
    rw [e]
    refine ⟨fun y hy => ?_, .inr ?_⟩
    · rcases List.mem_cons.mp hy with rfl | hy
      · omega
      · have := h1 y hy
        omega
    · by_cases c : topOf ns ≤ x + 1
      · exact ⟨x, List.mem_cons_self .., by omega⟩
      · rcases h2 with h2 | ⟨z, hz, h2⟩
        · omega
        · exact ⟨z, List.mem_cons_of_mem _ hz, by omega⟩
theorem topOf_eq {ns : List Nat} {x : Nat} (h : x ∈ ns) (m : ∀ y ∈ ns, y ≤ x) : topOf ns = x + 1 := by
  obtain ⟨h1, h2⟩ := topOf_spec ns
  have := h1 x h
  rcases h2 with h2 | ⟨z, hz, h2⟩
  · omega
  · have := m z hz
    omega
def IsMex (m : Nat) (ns : List Nat) : Prop := m ∉ ns ∧ ∀ k < m, k ∈ ns
theorem IsMex.uniq {a b : Nat} {ns : List Nat} (h : IsMex a ns) (g : IsMex b ns) : a = b := by
  rcases Nat.lt_trichotomy a b with e | e | e
  · exact absurd (g.2 a e) h.1
  · exact e
  · exact absurd (h.2 b e) g.1
theorem IsMex.le {m : Nat} {ns : List Nat} (h : IsMex m ns) : m ≤ ns.length := by
  have := nodup_sub (l := List.range m) (ns := ns) List.nodup_range fun x hx => h.2 x (List.mem_range.mp hx)
  rwa [List.length_range] at this
def mexF (ns : List Nat) : Nat → Nat → Nat
  | 0, k => k
  | f + 1, k => if k ∈ ns then mexF ns f (k + 1) else k
def mex (ns : List Nat) : Nat := mexF ns (ns.length + 1) 0
theorem mexF_spec (ns : List Nat) : ∀ f k, (∀ j < k, j ∈ ns) → ns.length < f + k → IsMex (mexF ns f k) ns
  | 0, k, h, l => by
    have := nodup_sub (l := List.range k) (ns := ns) List.nodup_range fun x hx => h x (List.mem_range.mp hx)
    rw [List.length_range] at this
    omega
  | f + 1, k, h, l => by
    unfold mexF
    split
    · rename_i m
      refine mexF_spec ns f (k + 1) (fun j hj => ?_) (by omega)
      rcases Nat.lt_succ_iff_lt_or_eq.mp hj with e | e
      · exact h j e
      · rw [e]; exact m
    · rename_i m
      exact ⟨m, h⟩
theorem mex_spec (ns : List Nat) : IsMex (mex ns) ns := mexF_spec ns _ 0 (fun _ h => by omega) (by omega)
theorem IsMex.congr {m : Nat} {ns ms : List Nat} (h : ∀ k, k ∈ ns ↔ k ∈ ms) (x : IsMex m ns) : IsMex m ms := ⟨fun z => x.1 ((h m).mpr z), fun k hk => (h k).mp (x.2 k hk)⟩
def kinds (ns : List Nat) : Nat := (ssort (ns.map Int.ofNat)).length
def lows (ns : List Nat) : List Nat := (ssort (ns.map Int.ofNat)).map Int.toNat
theorem lows_cast (ns : List Nat) : (lows ns).map Int.ofNat = ssort (ns.map Int.ofNat) := by
  unfold lows
  rw [List.map_map]
  conv => rhs; rw [← List.map_id (ssort (ns.map Int.ofNat))]
  refine List.map_congr_left fun x hx => ?_
  have := (ssort_mem x _).mp hx
  obtain ⟨n, _, rfl⟩ := List.mem_map.mp this
  rfl
theorem lows_mem {ns : List Nat} (k : Nat) : k ∈ lows ns ↔ k ∈ ns := by
  have e : ((k : Nat) : Int) ∈ ssort (ns.map Int.ofNat) ↔ k ∈ ns := by
    rw [ssort_mem]
    constructor
    · intro h
      obtain ⟨n, hn, e⟩ := List.mem_map.mp h
      rw [← Int.ofNat.inj e]
      exact hn
    · intro h
      exact List.mem_map.mpr ⟨k, h, rfl⟩
  rw [← e, ← lows_cast]
  constructor
  · intro h
    exact List.mem_map.mpr ⟨k, h, rfl⟩
  · intro h
    obtain ⟨n, hn, e⟩ := List.mem_map.mp h
    rw [← Int.ofNat.inj e]
    exact hn
theorem lows_rise (ns : List Nat) : (lows ns).Pairwise (· < ·) := by
  have h := ssort_sorted (ns.map Int.ofNat)
  rw [← lows_cast] at h
  rw [List.pairwise_map] at h
  exact h.imp fun z => Int.ofNat_lt.mp z
theorem lows_len (ns : List Nat) : (lows ns).length = kinds ns := List.length_map ..
theorem kinds_of {ks ns : List Nat} (h : ks.Nodup) (m : ∀ k, k ∈ ks ↔ k ∈ ns) : ks.length = kinds ns := by
  rw [← lows_len]
  have a := nodup_sub (ns := lows ns) h fun x hx => (lows_mem x).mpr ((m x).mp hx)
  have b := nodup_sub (ns := ks) (rise_nodup (lows_rise ns)) fun x hx => (m x).mpr ((lows_mem x).mp hx)
  omega
theorem kinds_le (ns : List Nat) : kinds ns ≤ ns.length := by
  rw [← lows_len]
  exact nodup_sub (rise_nodup (lows_rise ns)) fun x hx => (lows_mem x).mp hx
/-! ### rules, halls, standings -/
inductive Rule where
  | held (c : Nat) | kinds (c : Nat) (ps : List Nat) | next (ps : List Nat) | free (ps : List Nat)
  | sum (c : Nat) (ts : List (Nat × Nat)) | cap (c : Nat) (ts : List (Nat × Nat)) (top : Nat)
def Rule.d : Rule → D
  | .held c => .tup [.str (Str.ofString "held"), nd c]
  | .kinds c ps => .tup [.str (Str.ofString "kinds"), nd c, .tup (nl ps)]
  | .next ps => .tup [.str (Str.ofString "next"), .tup (nl ps)]
  | .free ps => .tup [.str (Str.ofString "free"), .tup (nl ps)]
  | .sum c ts => .tup [.str (Str.ofString "sum"), nd c, .tup (pl ts)]
  | .cap c ts top => .tup [.str (Str.ofString "cap"), nd c, .tup (pl ts), nd top]
def ones (ps : List Nat) : List (Nat × Nat) := ps.map fun p => (p, 1)
def Rule.ties : Rule → List (Nat × Nat)
  | .held _ => []
  | .kinds _ ps => ones ps
  | .next ps => ones ps
  | .free ps => ones ps
  | .sum _ ts => ts
  | .cap _ ts _ => ts
def Rule.seen (r : Rule) : List Nat := r.ties.map Prod.fst
theorem seen_ones (ps : List Nat) : (ones ps).map Prod.fst = ps := by
  unfold ones
  rw [List.map_map]
  exact List.map_id ps
def wt (ts : List (Nat × Nat)) (p : Nat) : Nat := (ts.lookup p).getD 0
def nums (lot : List (Nat × Nat)) : List Nat := lot.map Prod.snd
def total (ts lot : List (Nat × Nat)) : Nat := (lot.map fun p => wt ts p.1).sum
def Rule.tells : Rule → List (Nat × Nat) → Nat
  | .held c, _ => c
  | .kinds c _, lot => c + Hm.kinds (nums lot)
  | .next _, lot => topOf (nums lot)
  | .free _, lot => mex (nums lot)
  | .sum c ts, lot => c + total ts lot
  | .cap c ts top, lot => min (c + total ts lot) top
structure Rule.fine (n : Nat) (r : Rule) : Prop where
  rise : r.seen.Pairwise (· < ·)
  low : ∀ p ∈ r.seen, p < n
  wts : ∀ t ∈ r.ties, 1 ≤ t.2
theorem Rule.fine.len {n : Nat} {r : Rule} (h : r.fine n) : r.ties.length ≤ n := by
  have := rise_len h.rise h.low
  unfold Rule.seen at this
  rwa [List.length_map] at this
def sg (st : List Nat) (p : Nat) : Nat := st.getD p 0
theorem sg_get {st : List Nat} {p : Nat} (h : p < st.length) : st[p]? = some (sg st p) := by
  unfold sg
  rw [List.getD_eq_getElem?_getD, List.getElem?_eq_getElem h]
  rfl
/-- those seen who show less than a number -/
def lotAt (ps : List Nat) (st : List Nat) (m : Nat) : List (Nat × Nat) := ps.filterMap fun o => if sg st o < m then some (o, sg st o) else none
structure HallOk (rs : List Rule) : Prop where
  fine : ∀ r ∈ rs, r.fine rs.length
  few : rs.length ≤ 1000
def rl (rs : List Rule) (p : Nat) : Rule := rs.getD p (.held 0)
theorem rl_get {rs : List Rule} {p : Nat} (h : p < rs.length) : rs[p]? = some (rl rs p) := by
  unfold rl
  rw [List.getD_eq_getElem?_getD, List.getElem?_eq_getElem h]
  rfl
theorem HallOk.rl {rs : List Rule} (h : HallOk rs) {p : Nat} (hp : p < rs.length) : (rl rs p).fine rs.length := h.fine _ (List.mem_of_getElem? (rl_get hp))
def turnOf (rs : List Rule) (st : List Nat) (p : Nat) : Nat := (rl rs p).tells (lotAt (rl rs p).seen st (sg st p))
def turnedBy (rs : List Rule) (st ps : List Nat) : List Nat := (List.range st.length).map fun p => if p ∈ ps then turnOf rs st p else sg st p
def beat (rs : List Rule) (st : List Nat) : List Nat := turnedBy rs st (List.range rs.length)
theorem beat_len (rs : List Rule) (st : List Nat) : (beat rs st).length = st.length := by
  unfold beat turnedBy
  rw [List.length_map, List.length_range]
/-- a lot: persons of a rule, once each -/
structure LotOk (n : Nat) (r : Rule) (lot : List (Nat × Nat)) : Prop where
  sub : ∀ q ∈ lot, q.1 ∈ r.seen
  len : lot.length ≤ n
theorem lotAt_ok {n : Nat} {r : Rule} (h : r.fine n) (st : List Nat) (m : Nat) : LotOk n r (lotAt r.seen st m) := by
  refine ⟨fun q hq => ?_, ?_⟩
  · obtain ⟨o, ho, e⟩ := List.mem_filterMap.mp hq
    split at e
    · cases e
      exact ho
    · cases e
  · have a : (lotAt r.seen st m).length ≤ r.seen.length := List.length_filterMap_le ..
    have b : r.seen.length ≤ n := rise_len h.rise h.low
    omega
/-! ### dicts with numbers as keys -/
def ik (k : Nat) : Key := Sum.inl (k : Int)
theorem inl_inj {a b : Nat} (h : ik a = ik b) : a = b := by
  unfold ik at h
  injection h with h
  omega
/-- a dict whose keys are these numbers -/
theorem numKeys {α : Type} (key : α → Nat) (val : α → D) (xs : List α) : ∃ ks : List Nat, (mrg [] [] (xs.map fun x => (ik (key x), val x))).1 = ks.map ik ∧ ks.Nodup ∧ ∀ k, k ∈ ks ↔ k ∈ xs.map key := by
  obtain ⟨h1, h2, h3, _⟩ := mrg_ok (xs.map fun x => (ik (key x), val x)) [] [] rfl
  refine ⟨(mrg [] [] (xs.map fun x => (ik (key x), val x))).1.map (fun k => match k with | .inl i => i.toNat | .inr _ => 0), ?_, ?_, fun k => ?_⟩
  · rw [List.map_map]
    conv => lhs; rw [← List.map_id (mrg [] [] (xs.map fun x => (ik (key x), val x))).1]
    refine List.map_congr_left fun i hi => ?_
    rcases (h3 i).mp hi with h | h
    · cases h
    · rw [List.map_map] at h
      obtain ⟨x, _, rfl⟩ := List.mem_map.mp h
      rfl
  · rw [List.Nodup, List.pairwise_map]
    refine (h2 (by simp)).imp_of_mem fun {a b} ha hb hab => ?_
    rcases (h3 a).mp ha with h | h
    · cases h
    rcases (h3 b).mp hb with g | g
    · cases g
    rw [List.map_map] at h g
    obtain ⟨x, _, rfl⟩ := List.mem_map.mp h
    obtain ⟨y, _, rfl⟩ := List.mem_map.mp g
    intro e
    refine hab ?_
    have e : (key x : Int).toNat = (key y : Int).toNat := e
    rw [Int.toNat_natCast, Int.toNat_natCast] at e
    show ik (key x) = ik (key y)
    rw [e]
  · constructor
    · intro hk
      obtain ⟨i, hi, e⟩ := List.mem_map.mp hk
      rcases (h3 i).mp hi with h | h
      · cases h
      · rw [List.map_map] at h
        obtain ⟨x, hx, rfl⟩ := List.mem_map.mp h
        have e : (key x : Int).toNat = k := e
        rw [Int.toNat_natCast] at e
        exact List.mem_map.mpr ⟨x, hx, e⟩
    · intro hk
      obtain ⟨x, hx, e⟩ := List.mem_map.mp hk
      refine List.mem_map.mpr ⟨ik (key x), (h3 _).mpr (.inr ?_), ?_⟩
      · rw [List.map_map]
        exact List.mem_map.mpr ⟨x, hx, rfl⟩
      · show (key x : Int).toNat = k
        rw [Int.toNat_natCast, e]
/-- .. and what stands at them -/
theorem numVals {α : Type} (key : α → Nat) (val : α → D) (xs : List α) (V : Nat → D) (hV : ∀ x ∈ xs, val x = V (key x)) (k : Nat) :
    dval (mrg [] [] (xs.map fun x => (ik (key x), val x))).1 (mrg [] [] (xs.map fun x => (ik (key x), val x))).2 (ik k) = if k ∈ xs.map key then some (V k) else none := by
  obtain ⟨_, _, _, h4⟩ := mrg_ok (xs.map fun x => (ik (key x), val x)) [] [] rfl
  have := h4 (fun q => match q with | .inl i => V i.toNat | .inr _ => .non) (fun p hp => by
    obtain ⟨x, hx, rfl⟩ := List.mem_map.mp hp
    show val x = V (key x : Int).toNat
    rw [Int.toNat_natCast]
    exact hV x hx) (ik k)
  rw [this, List.map_map]
  have e : ik k ∈ xs.map (Prod.fst ∘ fun x => (ik (key x), val x)) ↔ k ∈ xs.map key := by
    constructor
    · intro h
      obtain ⟨x, hx, e⟩ := List.mem_map.mp h
      exact List.mem_map.mpr ⟨x, hx, inl_inj e⟩
    · intro h
      obtain ⟨x, hx, e⟩ := List.mem_map.mp h
      exact List.mem_map.mpr ⟨x, hx, by show ik (key x) = _; rw [e]⟩
  by_cases c : k ∈ xs.map key
  · rw [if_pos c, if_pos (e.mpr c)]
    show some (V (k : Int).toNat) = _
    rw [Int.toNat_natCast]
  · rw [if_neg c, if_neg fun z => c (e.mp z)]
    rfl
theorem kis_nl : ∀ ks : List Nat, kis? (ks.map ik) = some (ks.map Int.ofNat)
  | [] => rfl
  | k :: ks => by
    show (kis? _).map _ = _
    rw [kis_nl ks]
    rfl
theorem maxA_n {ks : List Nat} {vs : List D} (h : ks ≠ []) : ∃ m, maxA (.dic (ks.map ik) vs) = some (nd m) ∧ topOf ks = m + 1 := by
  cases ks with
  | nil => exact absurd rfl h
  | cons x ks =>
    have e : maxA (.dic ((x :: ks).map ik) vs) = some (.int (maxL (x : Int) (ks.map Int.ofNat))) := by
      show (kis? _).bind _ = _
      rw [kis_nl]
      rfl
    obtain ⟨a, b, c⟩ := maxL_spec (ks.map Int.ofNat) (x : Int)
    have hm : ∃ m : Nat, maxL (x : Int) (ks.map Int.ofNat) = (m : Int) ∧ m ∈ x :: ks := by
      rcases a with a | a
      · exact ⟨x, a, List.mem_cons_self ..⟩
      · obtain ⟨m, hm, e⟩ := List.mem_map.mp a
        exact ⟨m, e.symm, List.mem_cons_of_mem _ hm⟩
    obtain ⟨m, e1, e2⟩ := hm
    refine ⟨m, by rw [e, e1]; rfl, topOf_eq e2 fun y hy => ?_⟩
    rcases List.mem_cons.mp hy with rfl | hy
    · omega
    · have := c (y : Int) (List.mem_map.mpr ⟨y, hy, rfl⟩)
      omega
theorem top_congr {ns ms : List Nat} (h : ∀ k, k ∈ ns ↔ k ∈ ms) : topOf ns = topOf ms := by
  obtain ⟨a1, a2⟩ := topOf_spec ns
  obtain ⟨b1, b2⟩ := topOf_spec ms
  rcases a2 with a2 | ⟨x, hx, a2⟩ <;> rcases b2 with b2 | ⟨y, hy, b2⟩
  · omega
  · have := a1 y ((h y).mpr hy)
    omega
  · have := b1 x ((h x).mp hx)
    omega
  · have := a1 y ((h y).mpr hy)
    have := b1 x ((h x).mp hx)
    omega
theorem in_dic {ks : List Nat} {vs : List D} (h : ks.length = vs.length) (g : Bool) (k : Nat) : inD g (nd k) (.dic (ks.map ik) vs) = some (g ^^ decide (k ∈ ks)) := by
  show some (g ^^ (dval _ vs (ik k)).isSome) = _
  rw [dval_len (by rw [List.length_map]; exact h)]
  congr 2
  refine decide_eq_decide.mpr ⟨fun m => ?_, fun m => List.mem_map.mpr ⟨k, m, rfl⟩⟩
  obtain ⟨j, hj, e⟩ := List.mem_map.mp m
  rw [← inl_inj e]
  exact hj
/-! ### sorted numbers, `in` a list of numbers -/
theorem nl_dI (ns : List Nat) : nl ns = dI (ns.map Int.ofNat) := by
  unfold nl dI
  rw [List.map_map]
  rfl
theorem sse_n {ns : List Nat} (h : ns.length < 64) : sseD (.lst (nl ns)) = some (.lst (nl (lows ns))) := by
  show (ints? _).bind _ = _
  rw [ints_nl]
  show (if (ns.map Int.ofNat).length < 64 then _ else none) = _
  rw [List.length_map, if_pos h, nl_dI, lows_cast]
theorem eqv_mem (k : Nat) : ∀ ns : List Nat, (pds (nl ns)).any (fun z => PyData.eqv z (nd k).pd) = decide (k ∈ ns)
  | [] => rfl
  | n :: ns => by
    show (PyData.eqv (.int (n : Int)) (.int (k : Int)) || (pds (nl ns)).any fun z => PyData.eqv z (nd k).pd) = _
    rw [eqv_mem k ns]
    have : PyData.eqv (.int (n : Int)) (.int (k : Int)) = decide (k = n) := by
      simp only [PyData.eqv]
      by_cases e : k = n
      · rw [e]
        simp
      · rw [decide_eq_false e]
        exact beq_false_of_ne fun z => e (by omega)
    rw [this]
    simp [List.mem_cons]
theorem in_lst (g : Bool) (k : Nat) (ns : List Nat) : inD g (nd k) (.lst (nl ns)) = some (g ^^ decide (k ∈ ns)) := by
  show (if (nd k).fit ∧ (D.lst (nl ns)).fit then some (g ^^ (pds (nl ns)).any fun z => PyData.eqv z (nd k).pd) else none) = _
  rw [if_pos ⟨by unfold D.fit nd; rfl, by rw [nl_dI]; exact fit_l _⟩, eqv_mem]
theorem ints_ne (ns : List Nat) : eqD true (.lst (nl ns)) (.lst []) = some (!decide (ns = [])) := by
  show eqW true (.lst (nl ns)) (.lst []) = _
  unfold eqW
  rw [if_pos ⟨by rw [nl_dI]; exact fit_l _, by exact fit_l []⟩]
  cases ns <;> rfl
end Hm
namespace Hm
open PySem PySem.Spec PyProof.Rows L2 Gd Ge
/-! ### beats come to a rest -/
theorem fm_congr {α β : Type} {f g : α → Option β} : ∀ {xs : List α}, (∀ x ∈ xs, f x = g x) → xs.filterMap f = xs.filterMap g
  | [], _ => rfl
  | x :: xs, h => by
    rw [List.filterMap_cons, List.filterMap_cons, h x (List.mem_cons_self ..), fm_congr fun y hy => h y (List.mem_cons_of_mem _ hy)]
theorem lotAt_sub (st : List Nat) {m m' : Nat} (h : m ≤ m') : ∀ ps : List Nat, (lotAt ps st m).Sublist (lotAt ps st m')
  | [] => .slnil
  | p :: ps => by
    have ih := lotAt_sub st h ps
    unfold lotAt at ih ⊢
    rw [List.filterMap_cons, List.filterMap_cons]
    by_cases c : sg st p < m
    · rw [if_pos c, if_pos (Nat.lt_of_lt_of_le c h)]
      exact ih.cons₂ _
    · rw [if_neg c]
      by_cases c2 : sg st p < m'
      · rw [if_pos c2]
        exact ih.cons _
      · rw [if_neg c2]
        exact ih
theorem top_mono {a b : List Nat} (h : ∀ x ∈ a, x ∈ b) : topOf a ≤ topOf b := by
  rcases (topOf_spec a).2 with e | ⟨x, hx, e⟩
  · omega
  · have := (topOf_spec b).1 x (h x hx)
    omega
theorem mex_mono {a b : List Nat} (h : ∀ x ∈ a, x ∈ b) : mex a ≤ mex b := by
  rcases Nat.lt_or_ge (mex b) (mex a) with c | c
  · exact absurd (h _ ((mex_spec a).2 _ c)) (mex_spec b).1
  · exact c
theorem kinds_mono {a b : List Nat} (h : ∀ x ∈ a, x ∈ b) : kinds a ≤ kinds b := by
  rw [← lows_len, ← lows_len]
  exact nodup_sub (rise_nodup (lows_rise a)) fun x hx => (lows_mem x).mpr (h x ((lows_mem x).mp hx))
theorem sum_sub {a b : List Nat} (h : a.Sublist b) : a.sum ≤ b.sum := by
  induction h with
  | slnil => exact Nat.le_refl _
  | cons x _ ih => rw [List.sum_cons]; omega
  | cons_cons x _ ih => rw [List.sum_cons, List.sum_cons]; omega
theorem tells_mono (r : Rule) {a b : List (Nat × Nat)} (h : a.Sublist b) : r.tells a ≤ r.tells b := by
  have hn : ∀ x ∈ nums a, x ∈ nums b := fun x hx => (h.map Prod.snd).mem hx
  cases r with
  | held c => exact Nat.le_refl _
  | kinds c ps => exact Nat.add_le_add_left (kinds_mono hn) c
  | next ps => exact top_mono hn
  | free ps => exact mex_mono hn
  | sum c ts => exact Nat.add_le_add_left (sum_sub (h.map _)) c
  | cap c ts top =>
    have := sum_sub (h.map fun p : Nat × Nat => wt ts p.1)
    show min (c + (a.map fun p : Nat × Nat => wt ts p.1).sum) top ≤ min (c + (b.map fun p : Nat × Nat => wt ts p.1).sum) top
    omega
theorem sg_beat {rs : List Rule} {st : List Nat} {p : Nat} (hs : st.length = rs.length) (hp : p < rs.length) : sg (beat rs st) p = turnOf rs st p := by
  unfold sg beat turnedBy
  rw [List.getD_eq_getElem?_getD, List.getElem?_map, List.getElem?_range (by omega)]
  show (if p ∈ List.range rs.length then turnOf rs st p else sg st p) = _
  rw [if_pos (List.mem_range.mpr hp)]
def beats (rs : List Rule) (st : List Nat) : Nat → List Nat
  | 0 => st
  | k + 1 => beat rs (beats rs st k)
theorem beats_len {rs : List Rule} {st : List Nat} {n : Nat} (h : st.length = n) : ∀ k, (beats rs st k).length = n
  | 0 => h
  | k + 1 => (beat_len rs _).trans (beats_len h k)
theorem beats_add (rs : List Rule) (st : List Nat) (j : Nat) : ∀ k, beats rs (beats rs st j) k = beats rs st (j + k)
  | 0 => rfl
  | k + 1 => by
    show beat rs (beats rs (beats rs st j) k) = beat rs (beats rs st (j + k))
    rw [beats_add rs st j k]
theorem wt_le (ts : List (Nat × Nat)) (p : Nat) : wt ts p ≤ (ts.map Prod.snd).sum := by
  induction ts with
  | nil => exact Nat.zero_le _
  | cons t ts ih =>
    unfold wt at ih ⊢
    rw [List.map_cons, List.sum_cons]
    obtain ⟨a, b⟩ := t
    rw [List.lookup_cons]
    cases e : p == a with
    | true => show b ≤ _; omega
    | false => show (ts.lookup p).getD 0 ≤ _; omega
def most (n : Nat) : Rule → Nat
  | .held c => c
  | .kinds c _ => c + n
  | .next _ => 0
  | .free _ => n
  | .sum c ts => c + n * (ts.map Prod.snd).sum
  | .cap c ts _ => c + n * (ts.map Prod.snd).sum
theorem tot_le (ts lot : List (Nat × Nat)) : total ts lot ≤ lot.length * (ts.map Prod.snd).sum := by
  unfold total
  induction lot with
  | nil => exact Nat.zero_le _
  | cons q lot ih =>
    rw [List.map_cons, List.sum_cons, List.length_cons, Nat.succ_mul]
    have := wt_le ts q.1
    omega
theorem tells_most {n m : Nat} {r : Rule} {lot : List (Nat × Nat)} (hl : lot.length ≤ n) (hm : ∀ x ∈ nums lot, x < m) : r.tells lot ≤ max m (most n r) := by
  have hnl : (nums lot).length = lot.length := List.length_map ..
  have tt : ∀ ts : List (Nat × Nat), total ts lot ≤ n * (ts.map Prod.snd).sum := fun ts => Nat.le_trans (tot_le ts lot) (Nat.mul_le_mul_right _ hl)
  cases r with
  | held c => exact Nat.le_max_right ..
  | kinds c ps =>
    have := kinds_le (nums lot)
    show c + kinds (nums lot) ≤ max m (c + n)
    omega
  | next ps =>
    show topOf (nums lot) ≤ max m 0
    rcases (topOf_spec (nums lot)).2 with e | ⟨x, hx, e⟩
    · omega
    · have := hm x hx
      omega
  | free ps =>
    have := (mex_spec (nums lot)).le
    show mex (nums lot) ≤ max m n
    omega
  | sum c ts =>
    have := tt ts
    show c + total ts lot ≤ max m (c + n * (ts.map Prod.snd).sum)
    omega
  | cap c ts top =>
    have := tt ts
    show min (c + total ts lot) top ≤ max m (c + n * (ts.map Prod.snd).sum)
    omega
theorem lotAt_low {ps st : List Nat} {m : Nat} : ∀ x ∈ nums (lotAt ps st m), x < m := fun x hx => by
  obtain ⟨q, hq, rfl⟩ := List.mem_map.mp hx
  obtain ⟨o, _, e⟩ := List.mem_filterMap.mp hq
  split at e
  · cases e
    assumption
  · cases e
theorem bound_ex (f : Nat → Nat) : ∀ n, ∃ B, ∀ p < n, f p ≤ B
  | 0 => ⟨0, fun _ h => by omega⟩
  | n + 1 => by
    obtain ⟨B, hB⟩ := bound_ex f n
    refine ⟨max B (f n), fun p hp => ?_⟩
    rcases Nat.lt_succ_iff_lt_or_eq.mp hp with h | h
    · have := hB p h
      omega
    · rw [h]
      omega
section
variable {rs : List Rule} {st : List Nat} (h : HallOk rs) (hs : st.length = rs.length)
include h hs
theorem val_succ {p : Nat} (hp : p < rs.length) (t : Nat) : sg (beats rs st (t + 1)) p = (rl rs p).tells (lotAt (rl rs p).seen (beats rs st t) (sg (beats rs st t) p)) :=
  sg_beat (beats_len hs t) hp
theorem beats_bound : ∃ B, ∀ t, ∀ p < rs.length, sg (beats rs st t) p ≤ B := by
  obtain ⟨B1, h1⟩ := bound_ex (fun p => sg st p) rs.length
  obtain ⟨B2, h2⟩ := bound_ex (fun p => most rs.length (rl rs p)) rs.length
  refine ⟨max B1 B2, fun t => ?_⟩
  induction t with
  | zero =>
    intro p hp
    have := h1 p hp
    show sg st p ≤ _
    omega
  | succ t ih =>
    intro p hp
    rw [val_succ h hs hp t]
    have a := tells_most (n := rs.length) (m := sg (beats rs st t) p) (r := rl rs p) (lotAt_ok (h.rl hp) (beats rs st t) (sg (beats rs st t) p)).len lotAt_low
    have b := ih p hp
    have c := h2 p hp
    omega
def Still (rs : List Rule) (st : List Nat) (p : Nat) : Prop := ∃ T, ∀ t, T ≤ t → sg (beats rs st t) p = sg (beats rs st T) p
omit h hs in
theorem still_all (n : Nat) : ∃ T, ∀ p < n, Still rs st p → ∀ t, T ≤ t → sg (beats rs st t) p = sg (beats rs st T) p := by
  induction n with
  | zero => exact ⟨0, fun _ h => by omega⟩
  | succ n ih =>
    obtain ⟨T, hT⟩ := ih
    by_cases c : Still rs st n
    · obtain ⟨U, hU⟩ := c
      refine ⟨max T U, fun p hp hst t ht => ?_⟩
      rcases Nat.lt_succ_iff_lt_or_eq.mp hp with e | e
      · rw [hT p e hst t (by omega), hT p e hst (max T U) (by omega)]
      · subst e
        rw [hU t (by omega), hU (max T U) (by omega)]
    · refine ⟨T, fun p hp hst t ht => ?_⟩
      rcases Nat.lt_succ_iff_lt_or_eq.mp hp with e | e
      · exact hT p e hst t ht
      · subst e
        exact absurd hst c
theorem no_low {T s a p t : Nat} (hT : ∀ p < rs.length, Still rs st p → ∀ t, T ≤ t → sg (beats rs st t) p = sg (beats rs st T) p) (hTs : T ≤ s) (ha : ∀ q < rs.length, ¬ Still rs st q → ∀ u, s ≤ u → a ≤ sg (beats rs st u) q)
    (hp : p < rs.length) (hns : ¬ Still rs st p) (ht : s + 1 ≤ t) (e : sg (beats rs st t) p = a) : False := by
  have hf := h.rl hp
  have lot : ∀ u, s ≤ u → lotAt (rl rs p).seen (beats rs st u) a = lotAt (rl rs p).seen (beats rs st s) a := fun u hu => by
    unfold lotAt
    refine fm_congr fun o ho => ?_
    have ho := hf.low o ho
    by_cases c : Still rs st o
    · rw [hT o ho c u (by omega), hT o ho c s (by omega)]
    · have a1 := ha o ho c u hu
      have a2 := ha o ho c s (Nat.le_refl _)
      rw [if_neg (by omega), if_neg (by omega)]
  have le : (rl rs p).tells (lotAt (rl rs p).seen (beats rs st s) a) ≤ a := by
    obtain ⟨t, rfl⟩ : ∃ t', t = t' + 1 := ⟨t - 1, by omega⟩
    have v := val_succ h hs hp t
    rw [e] at v
    have b := ha p hp hns t (by omega)
    have := tells_mono (rl rs p) (lotAt_sub (beats rs st t) b (rl rs p).seen)
    rw [lot t (by omega)] at this
    omega
  refine hns ⟨t, fun u hu => ?_⟩
  have all : ∀ k, sg (beats rs st (t + k)) p = a := fun k => by
    induction k with
    | zero => exact e
    | succ k ih =>
      have v := val_succ h hs hp (t + k)
      rw [ih, lot (t + k) (by omega)] at v
      have b := ha p hp hns (t + k + 1) (by omega)
      show sg (beats rs st (t + k + 1)) p = a
      omega
  rw [show u = t + (u - t) by omega, all, e]
theorem all_still {p : Nat} (hp : p < rs.length) : Still rs st p := by
  apply Classical.byContradiction
  intro hns
  obtain ⟨T, hT⟩ := still_all (rs := rs) (st := st) rs.length
  obtain ⟨B, hB⟩ := beats_bound h hs
  have up : ∀ j, ∀ q < rs.length, ¬ Still rs st q → ∀ u, T + j ≤ u → j ≤ sg (beats rs st u) q := fun j => by
    induction j with
    | zero => exact fun _ _ _ _ _ => Nat.zero_le _
    | succ j ih =>
      intro q hq hn u hu
      have a := ih q hq hn u (by omega)
      rcases Nat.lt_or_ge j (sg (beats rs st u) q) with c | c
      · exact c
      · exact (no_low h hs hT (s := T + j) (a := j) (by omega) ih hq hn (t := u) (by omega) (by omega)).elim
  have a := up (B + 1) p hp hns (T + (B + 1)) (Nat.le_refl _)
  have b := hB (T + (B + 1)) p hp
  omega
omit h in
theorem st_ext {a b : List Nat} (ha : a.length = rs.length) (hb : b.length = rs.length) (e : ∀ p < rs.length, sg a p = sg b p) : a = b := by
  refine List.ext_getElem (by rw [ha, hb]) fun i h1 h2 => ?_
  have := e i (by omega)
  unfold sg at this
  rw [List.getD_eq_getElem?_getD, List.getD_eq_getElem?_getD, List.getElem?_eq_getElem h1, List.getElem?_eq_getElem h2] at this
  exact this
theorem rest_ex : ∃ N, beat rs (beats rs st N) = beats rs st N := by
  obtain ⟨T, hT⟩ := still_all (rs := rs) (st := st) rs.length
  refine ⟨T, st_ext hs (beats_len hs (T + 1)) (beats_len hs T) fun p hp => ?_⟩
  exact hT p hp (all_still h hs hp) (T + 1) (by omega)
/-- the first one -/
theorem rest_least : ∃ N, beat rs (beats rs st N) = beats rs st N ∧ ∀ k < N, beat rs (beats rs st k) ≠ beats rs st k := by
  obtain ⟨N, hN⟩ := rest_ex h hs
  induction N using Nat.strongRecOn with
  | ind N ih =>
    by_cases c : ∃ k, k < N ∧ beat rs (beats rs st k) = beats rs st k
    · obtain ⟨k, hk, e⟩ := c
      exact ih k hk e
    · exact ⟨N, hN, fun k hk e => c ⟨k, hk, e⟩⟩
end
end Hm
namespace K7
open PySem PySem.Spec PyProof.Rows L2 Gd Ge
def topS (i : Nat) : Stmt := PySem.Challenge.pw_lesserhall_k33_whole_only_the_order_coun.main.body.getD i (.Pass ⟨0, 0, 0, 0⟩)
structure Txt_Hall (K : PySem.W.Frag) (C : Addr) : Prop where
  cl : Cls K C
  n_own_rules : NoAttr K C "own_rules"
  n_own_seen : NoAttr K C "own_seen"
def tab_SIZES : List (Str × Int) := [(Str.ofString "held", 2), (Str.ofString "sum", 3), (Str.ofString "cap", 4), (Str.ofString "kinds", 3), (Str.ofString "next", 2), (Str.ofString "free", 2)]
/-! ### _law_dip -/
abbrev st_law_dip : Stmt := topS 34
abbrev N_law_dip : List Str := ["_law_script", "_law_k", "_law_cell"]
theorem sc_law_dip : FnScope N_law_dip ["_law_script", "_law_k"] (defScope st_law_dip) := ⟨rfl, rfl, rfl, by decide +kernel, rfl, by decide +kernel, by decide +kernel⟩
def m_law_dip (a_script : D) (a_k : D) : Option (List D) :=
  ((lenD a_script).bind fun v1 =>
  (ltD a_k v1).bind fun v2 =>
  cond v2 ((ixD a_script a_k).bind fun v3 =>
  some v3) (some (.int 0))).bind fun v4 =>
  (absD v4).bind fun v5 =>
  (absD v4).bind fun v6 =>
  (powD (.int 10) (.int 18)).bind fun v7 =>
  (geD v6 v7).bind fun v8 =>
  (intD (.bl v8)).bind fun v9 =>
  (mulD v5 v9).bind fun v10 =>
  (modD v4 (.int 2305843009213693951)).bind fun v11 =>
  (mulD (.int 39373) a_k).bind fun v12 =>
  (addD v11 v12).bind fun v13 =>
  (addD v13 (.int 17)).bind fun v14 =>
  (gd 3 (some [v10, v14, (.int 0)])).bind fun v15 =>
  some v15
def M_law_dip (ds : List D) : Option (List D) := match ds with
  | [a_script, a_k] => m_law_dip a_script a_k
  | _ => none
theorem ln_law_dip : ∀ ds v, M_law_dip ds = some v → ds.length = 2 := fun ds v h => by
  unfold M_law_dip at h
  split at h
  · rfl
  · cases h
set_option maxHeartbeats 4000000 in
theorem ok_law_dip {P : Program} {w : World} {K : PySem.W.Frag} {mg : Str → Option Value} {base : Heap} {fa : Addr} {fd : FuncData} (F : Fun K "_law_dip" "_law_dip" st_law_dip fa fd) (B : Bts mg) : FnOk P w K mg base CX0 1 fa fd ["_law_script", "_law_k"] (spD K 2 (fsF M_law_dip)) := by
  refine fn_ok true F sc_law_dip rfl fun cdv A outer s H E hr => ⟨_, (fs_cons (fs_set 2 sc_law_dip.nd (f_joinD (f_if (f_tcmp (op_ltAll hr.units0) ops_ltD (f_var 1) (f_cb1 call_lenA cbs_lenD (by rfl) B.len PySem.boot_len (f_var 0)) (nomark _)) (f_ix (hu1 hr) (f_var 0) (f_var 1)) f_int)))
    (fs_one (fs_ret (f_lstC (f_acons (f_op op_mulAll ops_mulD (f_cb1 call_abs cbs_absD (by rfl) B.abs boot_abs (f_var 2)) (f_ct1 call_int1 cbs_intD (by rfl) B.int PyProof.Rows.boot_int (f_cmp op_ge ops_bD (f_cb1 call_abs cbs_absD (by rfl) B.abs boot_abs (f_var 2)) (f_op op_pow ops_iD f_int f_int) (nomark _)))) (f_acons (f_op op_addAll ops_addD (f_op op_addAll ops_addD (f_op op_modN ops_iD (f_var 2) f_int) (f_op op_mulAll ops_mulD f_int (f_var 1))) f_int) (f_acons f_int f_anil))))))), okF (m := M_law_dip) fun ds hl => by
    obtain ⟨x0, x1, rfl⟩ := len2 ds hl
    kernel_rfl⟩
/-! ### _law_folded -/
abbrev st_law_folded : Stmt := topS 36
abbrev N_law_folded : List Str := ["_law_script", "_law_many", "_law_cells", "_law_k", "_law_cell"]
theorem sc_law_folded : FnScope N_law_folded ["_law_script", "_law_many"] (defScope st_law_folded) := ⟨rfl, rfl, rfl, by decide +kernel, rfl, by decide +kernel, by decide +kernel⟩
def m_law_folded_f1 (a_many : D) (t9 : List D × Unit) (d8 : D) : Option (List D × Unit) :=
  (unp [3, 4] d8).bind fun v10 =>
  (modD v10.1 a_many).bind fun v11 =>
  (ixD (.lst t9.1) v11).bind fun v12 =>
  (addD v10.1 (.int 2)).bind fun v13 =>
  (mulD v10.2.1 v13).bind fun v14 =>
  (addD v12 v14).bind fun v15 =>
  (modD v10.1 a_many).bind fun v16 =>
  (setO t9.1 v16 v15).bind fun v17 =>
  some (v17, ())
def m_law_folded (a_script : D) (a_many : D) : Option (D) :=
  (intO a_many).bind fun v1 =>
  (slD none (some v1) a_script).bind fun v2 =>
  (sqD v2).bind fun v3 =>
  (intO a_many).bind fun v4 =>
  (intO (.int 63)).bind fun v5 =>
  (slD (some v4) (some v5) a_script).bind fun v6 =>
  (enmD v6).bind fun v7 =>
  (loopM (m_law_folded_f1 a_many) v7 (v3, ())).bind fun v18 =>
  some (.lst v18.1)
def M_law_folded (ds : List D) : Option (D) := match ds with
  | [a_script, a_many] => m_law_folded a_script a_many
  | _ => none
theorem ln_law_folded : ∀ ds v, M_law_folded ds = some v → ds.length = 2 := fun ds v h => by
  unfold M_law_folded at h
  split at h
  · rfl
  · cases h
set_option maxHeartbeats 4000000 in
theorem ok_law_folded {P : Program} {w : World} {K : PySem.W.Frag} {mg : Str → Option Value} {base : Heap} {fa : Addr} {fd : FuncData} (F : Fun K "_law_folded" "_law_folded" st_law_folded fa fd) (B : Bts mg) : FnOk P w K mg base CX0 1 fa fd ["_law_script", "_law_many"] (spD K 2 (fsP M_law_folded)) := by
  refine fn_ok false F sc_law_folded rfl fun cdv A outer s H E hr => ⟨_, (fs_cons (fs_set 2 sc_law_folded.nd (f_listC (by rfl) B.list (f_sl (f_var 0) f_onone (f_osome (f_var 1)))))
    (fs_cons (fs_for [] [3, 4] [.l] PassesOwn.never rfl (f_enum rfl B.enumerate (f_sl (f_var 0) (f_osome (f_var 1)) (f_osome f_int))) (fg_tup rfl (gs_cons 3 sc_law_folded.nd (gs_cons 4 sc_law_folded.nd gs_nil))) (fs_one (fs_asg (f_op op_addAll ops_addD (f_ix (hu1 hr) (f_var 2) (f_op op_modN ops_iD (f_var 3) (f_var 1))) (f_op op_mulAll ops_mulD (f_var 4) (f_op op_addAll ops_addD (f_var 3) f_int))) (fg_sub (f_var 2) (f_op op_modN ops_iD (f_var 3) (f_var 1))))))
    (fs_frz 2 (fs_one (fs_ret (f_var 2)))))), okP (m := M_law_folded) fun ds hl => by
    obtain ⟨x0, x1, rfl⟩ := len2 ds hl
    kernel_rfl⟩
/-! ### is_whole -/
abbrev st_is_whole : Stmt := topS 9
abbrev N_is_whole : List Str := ["thing"]
theorem sc_is_whole : FnScope N_is_whole ["thing"] (defScope st_is_whole) := ⟨rfl, rfl, rfl, by decide +kernel, rfl, by decide +kernel, by decide +kernel⟩
def m_is_whole (a_thing : D) : Option (D) :=
  ((tyO1 "int" a_thing).bind fun v1 =>
  (truO (.bl v1)).bind fun v2 =>
  cond v2 ((tyO1 "bool" a_thing).bind fun v3 =>
  (truO (.bl v3)).bind fun v4 =>
  (truO (.bl (!v4))).bind fun v5 =>
  cond v5 ((geD a_thing (.int 0)).bind fun v6 =>
  some (.bl v6)) (some (.bl (!v4)))) (some (.bl v1))).bind fun v7 =>
  some v7
def M_is_whole (ds : List D) : Option (D) := match ds with
  | [a_thing] => m_is_whole a_thing
  | _ => none
theorem ln_is_whole : ∀ ds v, M_is_whole ds = some v → ds.length = 1 := fun ds v h => by
  unfold M_is_whole at h
  split at h
  · rfl
  · cases h
set_option maxHeartbeats 4000000 in
theorem ok_is_whole {P : Program} {w : World} {K : PySem.W.Frag} {mg : Str → Option Value} {base : Heap} {fa : Addr} {fd : FuncData} (F : Fun K "is_whole" "is_whole" st_is_whole fa fd) (B : Bts mg) : FnOk P w K mg base CX0 1 fa fd ["thing"] (spD K 1 (fsP M_is_whole)) := by
  refine fn_ok false F sc_is_whole rfl fun cdv A outer s H E hr => ⟨_, (fs_one (fs_ret (f_joinD (f_andE (f_isi "int" (by unfold kT; simp) rfl B.isinstance (f_var 0) rfl B.int boot_int) (f_andE (f_notE (f_isi "bool" (by unfold kT; simp) rfl B.isinstance (f_var 0) rfl B.bool boot_bool)) (f_one (f_cmp op_ge ops_bD (f_var 0) f_int (nomark _)))))))), okP (m := M_is_whole) fun ds hl => by
    obtain ⟨x0, rfl⟩ := len1 ds hl
    kernel_rfl⟩
/-! ### is_person -/
abbrev st_is_person : Stmt := topS 10
abbrev N_is_person : List Str := ["many", "thing"]
theorem sc_is_person : FnScope N_is_person ["many", "thing"] (defScope st_is_person) := ⟨rfl, rfl, rfl, by decide +kernel, rfl, by decide +kernel, by decide +kernel⟩
def m_is_person (a_many : D) (a_thing : D) : Option (D) :=
  ((m_is_whole a_thing).bind fun v1 =>
  (truO v1).bind fun v2 =>
  cond v2 ((ltD a_thing a_many).bind fun v3 =>
  some (.bl v3)) (some v1)).bind fun v4 =>
  some v4
def M_is_person (ds : List D) : Option (D) := match ds with
  | [a_many, a_thing] => m_is_person a_many a_thing
  | _ => none
theorem ln_is_person : ∀ ds v, M_is_person ds = some v → ds.length = 2 := fun ds v h => by
  unfold M_is_person at h
  split at h
  · rfl
  · cases h
set_option maxHeartbeats 4000000 in
theorem ok_is_person {P : Program} {w : World} {K : PySem.W.Frag} {mg : Str → Option Value} {base : Heap} {fa : Addr} {fd : FuncData} (F : Fun K "is_person" "is_person" st_is_person fa fd) (B : Bts mg) (G_is_whole : GP P w K mg base "is_whole" 1 1 M_is_whole) : FnOk P w K mg base CX0 2 fa fd ["many", "thing"] (spD K 2 (fsP M_is_person)) := by
  refine fn_ok false F sc_is_person rfl fun cdv A outer s H E hr => ⟨_, (fs_one (fs_ret (f_joinD (f_andE (f_call (G_is_whole.mono (by first | exact Nat.le_refl _ | decide | omega)) hr (by rfl) (f_acons (f_var 1) f_anil)) (f_one (f_cmp (op_ltAll hr.units0) ops_ltD (f_var 1) (f_var 0) (nomark _))))))), okP (m := M_is_person) fun ds hl => by
    obtain ⟨x0, x1, rfl⟩ := len2 ds hl
    kernel_rfl⟩
/-! ### Hall.look_for -/
abbrev st_Hall_look_for : Stmt := inClass (topS 32) 2
abbrev N_Hall_look_for : List Str := ["self", "person"]
theorem sc_Hall_look_for : FnScope N_Hall_look_for ["self", "person"] (defScope st_Hall_look_for) := ⟨rfl, rfl, rfl, by decide +kernel, rfl, by decide +kernel, by decide +kernel⟩
def m_Hall_look_for (cl_Hall : Addr) (a_self : D) (a_person : D) : Option (D) :=
  (fldD cl_Hall "own_rules" a_self).bind fun v1 =>
  (lenD v1).bind fun v2 =>
  (m_is_person v2 a_person).bind fun v3 =>
  (truO v3).bind fun v4 =>
  cond (!v4) (none) (some .non)
def M_Hall_look_for (cl_Hall : Addr) (ds : List D) : Option (D) := match ds with
  | [a_self, a_person] => m_Hall_look_for cl_Hall a_self a_person
  | _ => none
theorem ln_Hall_look_for (cl_Hall : Addr) : ∀ ds v, M_Hall_look_for cl_Hall ds = some v → ds.length = 2 := fun ds v h => by
  unfold M_Hall_look_for at h
  split at h
  · rfl
  · cases h
set_option maxHeartbeats 4000000 in
theorem ok_Hall_look_for {P : Program} {w : World} {K : PySem.W.Frag} {mg : Str → Option Value} {base : Heap} {fa : Addr} {fd : FuncData} (F : Fun K "look_for" "Hall.look_for" st_Hall_look_for fa fd) (B : Bts mg) {cl_Hall : Addr} (T_Hall : Txt_Hall K cl_Hall) (G_is_person : GP P w K mg base "is_person" 2 2 M_is_person) : FnOk P w K mg base CX0 3 fa fd ["self", "person"] (spD K 2 (fsP (M_Hall_look_for cl_Hall))) := by
  refine fn_ok false F sc_Hall_look_for rfl fun cdv A outer s H E hr => ⟨_, (fs_one (fs_if (f_not (f_tru (f_call (G_is_person.mono (by first | exact Nat.le_refl _ | decide | omega)) hr (by rfl) (f_acons (f_cb1 call_lenA cbs_lenD (by rfl) B.len PySem.boot_len (f_fld T_Hall.cl T_Hall.n_own_rules (f_var 0))) (f_acons (f_var 1) f_anil))))) (fs_one fs_no) fs_nil)), okP (m := (M_Hall_look_for cl_Hall)) fun ds hl => by
    obtain ⟨x0, x1, rfl⟩ := len2 ds hl
    kernel_rfl⟩
/-! ### Hall.sees -/
abbrev st_Hall_sees : Stmt := inClass (topS 32) 4
abbrev N_Hall_sees : List Str := ["self", "person"]
theorem sc_Hall_sees : FnScope N_Hall_sees ["self", "person"] (defScope st_Hall_sees) := ⟨rfl, rfl, rfl, by decide +kernel, rfl, by decide +kernel, by decide +kernel⟩
def m_Hall_sees (cl_Hall : Addr) (a_self : D) (a_person : D) : Option (D) :=
  (insO cl_Hall "look_for" a_self).bind fun v1 =>
  (m_Hall_look_for cl_Hall a_self a_person).bind fun v2 =>
  (fldD cl_Hall "own_seen" a_self).bind fun v3 =>
  (ixD v3 a_person).bind fun v4 =>
  (listD v4).bind fun v5 =>
  some v5
def M_Hall_sees (cl_Hall : Addr) (ds : List D) : Option (D) := match ds with
  | [a_self, a_person] => m_Hall_sees cl_Hall a_self a_person
  | _ => none
theorem ln_Hall_sees (cl_Hall : Addr) : ∀ ds v, M_Hall_sees cl_Hall ds = some v → ds.length = 2 := fun ds v h => by
  unfold M_Hall_sees at h
  split at h
  · rfl
  · cases h
set_option maxHeartbeats 4000000 in
theorem ok_Hall_sees {P : Program} {w : World} {K : PySem.W.Frag} {mg : Str → Option Value} {base : Heap} {fa : Addr} {fd : FuncData} (F : Fun K "sees" "Hall.sees" st_Hall_sees fa fd) (B : Bts mg) {cl_Hall : Addr} (T_Hall : Txt_Hall K cl_Hall) (G_Hall_look_for : GM P w K mg base cl_Hall "look_for" 3 2 (M_Hall_look_for cl_Hall)) : FnOk P w K mg base CX0 4 fa fd ["self", "person"] (spD K 2 (fsP (M_Hall_sees cl_Hall))) := by
  refine fn_ok false F sc_Hall_sees rfl fun cdv A outer s H E hr => ⟨_, (fs_cons (fs_expr (f_meth T_Hall.cl (G_Hall_look_for.mono (by first | exact Nat.le_refl _ | decide | omega)) hr (f_var 0) (f_acons (f_var 1) f_anil)))
    (fs_one (fs_ret (f_ct1 call_list_of cbs_listD (by rfl) B.list boot_list (f_ix (hu1 hr) (f_fld T_Hall.cl T_Hall.n_own_seen (f_var 0)) (f_var 1)))))), okP (m := (M_Hall_sees cl_Hall)) fun ds hl => by
    obtain ⟨x0, x1, rfl⟩ := len2 ds hl
    kernel_rfl⟩
/-! ### lot_of -/
abbrev st_lot_of : Stmt := topS 21
abbrev N_lot_of : List Str := ["hall", "standing", "person", "mine", "other"]
theorem sc_lot_of : FnScope N_lot_of ["hall", "standing", "person"] (defScope st_lot_of) := ⟨rfl, rfl, rfl, by decide +kernel, rfl, by decide +kernel, by decide +kernel⟩
def m_lot_of_c1 (a_standing : D) (v1 : D) (d5 : D) : Option (Option D) :=
  (ixD a_standing d5).bind fun v7 =>
  (ltD v7 v1).bind fun v8 =>
  cond v8 ((ixD a_standing d5).bind fun v9 =>
  (gd 2 (some (.tup [d5, v9]))).bind fun v10 =>
  some (some v10)) (some none)
def m_lot_of (cl_Hall : Addr) (a_hall : D) (a_standing : D) (a_person : D) : Option (D) :=
  (ixD a_standing a_person).bind fun v1 =>
  (insO cl_Hall "sees" a_hall).bind fun v2 =>
  (m_Hall_sees cl_Hall a_hall a_person).bind fun v3 =>
  (itD v3).bind fun v4 =>
  (lcG (m_lot_of_c1 a_standing v1) v4).bind fun v11 =>
  some (.lst v11)
def M_lot_of (cl_Hall : Addr) (ds : List D) : Option (D) := match ds with
  | [a_hall, a_standing, a_person] => m_lot_of cl_Hall a_hall a_standing a_person
  | _ => none
theorem ln_lot_of (cl_Hall : Addr) : ∀ ds v, M_lot_of cl_Hall ds = some v → ds.length = 3 := fun ds v h => by
  unfold M_lot_of at h
  split at h
  · rfl
  · cases h
set_option maxHeartbeats 4000000 in
theorem ok_lot_of {P : Program} {w : World} {K : PySem.W.Frag} {mg : Str → Option Value} {base : Heap} {fa : Addr} {fd : FuncData} (F : Fun K "lot_of" "lot_of" st_lot_of fa fd) (B : Bts mg) {cl_Hall : Addr} (T_Hall : Txt_Hall K cl_Hall) (G_Hall_sees : GM P w K mg base cl_Hall "sees" 4 2 (M_Hall_sees cl_Hall)) : FnOk P w K mg base CX0 5 fa fd ["hall", "standing", "person"] (spD K 3 (fsP (M_lot_of cl_Hall))) := by
  refine fn_ok false F sc_lot_of rfl fun cdv A outer s H E hr => ⟨_, (fs_cons (fs_set 3 sc_lot_of.nd (f_ix (hu1 hr) (f_var 1) (f_var 2)))
    (fs_one (fs_ret (f_lcD (own := [("other", 4)]) rfl sc_lot_of.nd (f_seq (f_meth T_Hall.cl (G_Hall_sees.mono (by first | exact Nat.le_refl _ | decide | omega)) hr (f_var 0) (f_acons (f_var 2) f_anil))) (blkOk_by (N := N_lot_of) (sc := (defScope st_lot_of)) (by decide +kernel)) rfl (fun _ _ _ _ _ => (fg_name 4 sc_lot_of.nd)) (fun _ _ _ _ _ => (fts_one (f_tcmp (op_ltAll hr.units0) ops_ltD (f_ix (hu1 hr) (f_var 1) (f_var 4)) (f_var 3) (nomark _)))) (fun _ _ _ _ _ => (f_tup (f_acons (f_var 4) (f_acons (f_ix (hu1 hr) (f_var 1) (f_var 4)) f_anil)))))))), okP (m := (M_lot_of cl_Hall)) fun ds hl => by
    obtain ⟨x0, x1, x2, rfl⟩ := len3 ds hl
    kernel_rfl⟩
/-! ### least_free -/
abbrev st_least_free : Stmt := topS 18
abbrev N_least_free : List Str := ["numbers", "found"]
theorem sc_least_free : FnScope N_least_free ["numbers"] (defScope st_least_free) := ⟨rfl, rfl, rfl, by decide +kernel, rfl, by decide +kernel, by decide +kernel⟩
def m_least_free_w1 (a_numbers : D) (t1 : D × Unit) : Option ((D × Unit) ⊕ (D × Unit)) :=
  (inD false t1.1 a_numbers).bind fun v2 =>
  cond v2 ((int2D (fun x y => x + y) t1.1 (.int 1)).bind fun v3 =>
  some (.inl (v3, ()))) (some (.inr t1))
def m_least_free (a_numbers : D) : Option (D) :=
  (whileP (m_least_free_w1 a_numbers) ((.int 0), ())).bind fun v4 =>
  some v4.1
def M_least_free (ds : List D) : Option (D) := match ds with
  | [a_numbers] => m_least_free a_numbers
  | _ => none
theorem ln_least_free : ∀ ds v, M_least_free ds = some v → ds.length = 1 := fun ds v h => by
  unfold M_least_free at h
  split at h
  · rfl
  · cases h
set_option maxHeartbeats 4000000 in
theorem ok_least_free {P : Program} {w : World} {K : PySem.W.Frag} {mg : Str → Option Value} {base : Heap} {fa : Addr} {fd : FuncData} (F : Fun K "least_free" "least_free" st_least_free fa fd) (B : Bts mg) : FnOk P w K mg base CX0 1 fa fd ["numbers"] (spD K 1 (fsP M_least_free)) := by
  refine fn_ok false F sc_least_free rfl fun cdv A outer s H E hr => ⟨_, (fs_cons (fs_set 1 sc_least_free.nd f_int)
    (fs_cons (fs_while [1] [] [] PassesOwn.never (f_tcmp (op_inA (hu65 hr)) ops_inD (f_var 1) (f_var 0) (by rfl)) (fs_one (fs_aug 1 sc_least_free.nd ip_add f_int)))
    (fs_one (fs_ret (f_var 1))))), okP (m := M_least_free) fun ds hl => by
    obtain ⟨x0, rfl⟩ := len1 ds hl
    kernel_rfl⟩
/-! ### told_of -/
abbrev st_told_of : Stmt := topS 19
abbrev N_told_of : List Str := ["rule", "lot", "word", "numbers", "weights", "found", "person", "number"]
theorem sc_told_of : FnScope N_told_of ["rule", "lot"] (defScope st_told_of) := ⟨rfl, rfl, rfl, by decide +kernel, rfl, by decide +kernel, by decide +kernel⟩
def m_told_of_c1 (d3 : D) : Option (Option (Key × D)) :=
  (unp [6, 7] d3).bind fun v4 =>
  (kO v4.2.1).bind fun v5 =>
  some (some (v5, (.bl true)))
def m_told_of_c2 (v21 : D) (d24 : D) : Option (Option D) :=
  (unp [6, 7] d24).bind fun v26 =>
  (ixD v21 v26.1).bind fun v27 =>
  some (some v27)
def m_told_of (a_rule : D) (a_lot : D) : Option (D) :=
  (ixD a_rule (.int 0)).bind fun v1 =>
  (itD a_lot).bind fun v2 =>
  (dcG (m_told_of_c1) v2).bind fun v6 =>
  (eqD false v1 (.str (Str.ofString "held"))).bind fun v7 =>
  cond v7 ((ixD a_rule (.int 1)).bind fun v8 =>
  some v8) ((eqD false v1 (.str (Str.ofString "next"))).bind fun v9 =>
  cond v9 ((lenD (.dic v6.1 v6.2)).bind fun v10 =>
  (gtD v10 (.int 0)).bind fun v11 =>
  cond v11 ((maxA (.dic v6.1 v6.2)).bind fun v12 =>
  (addD v12 (.int 1)).bind fun v13 =>
  some v13) (some (.int 0))) ((eqD false v1 (.str (Str.ofString "free"))).bind fun v14 =>
  cond v14 ((m_least_free (.dic v6.1 v6.2)).bind fun v15 =>
  some v15) ((eqD false v1 (.str (Str.ofString "kinds"))).bind fun v16 =>
  cond v16 ((ixD a_rule (.int 1)).bind fun v17 =>
  (lenD (.dic v6.1 v6.2)).bind fun v18 =>
  (addD v17 v18).bind fun v19 =>
  some v19) ((ixD a_rule (.int 2)).bind fun v20 =>
  (dicD v20).bind fun v21 =>
  (ixD a_rule (.int 1)).bind fun v22 =>
  (itD a_lot).bind fun v23 =>
  (lcG (m_told_of_c2 v21) v23).bind fun v28 =>
  (sumD (.lst v28)).bind fun v29 =>
  (addD v22 v29).bind fun v30 =>
  (eqD false v1 (.str (Str.ofString "sum"))).bind fun v31 =>
  cond v31 (some v30) ((ixD a_rule (.int 3)).bind fun v32 =>
  ((int2D minI) v30 v32).bind fun v33 =>
  some v33)))))
def M_told_of (ds : List D) : Option (D) := match ds with
  | [a_rule, a_lot] => m_told_of a_rule a_lot
  | _ => none
theorem ln_told_of : ∀ ds v, M_told_of ds = some v → ds.length = 2 := fun ds v h => by
  unfold M_told_of at h
  split at h
  · rfl
  · cases h
set_option maxHeartbeats 4000000 in
theorem ok_told_of {P : Program} {w : World} {K : PySem.W.Frag} {mg : Str → Option Value} {base : Heap} {fa : Addr} {fd : FuncData} (F : Fun K "told_of" "told_of" st_told_of fa fd) (B : Bts mg) (G_least_free : GP P w K mg base "least_free" 1 1 M_least_free) {t_FREE : Tok} (g_FREE : mg "FREE" = some (.str (Str.ofString "free") t_FREE)) {t_HELD : Tok} (g_HELD : mg "HELD" = some (.str (Str.ofString "held") t_HELD)) {t_KINDS : Tok} (g_KINDS : mg "KINDS" = some (.str (Str.ofString "kinds") t_KINDS)) {t_NEXT : Tok} (g_NEXT : mg "NEXT" = some (.str (Str.ofString "next") t_NEXT)) {t_SUM : Tok} (g_SUM : mg "SUM" = some (.str (Str.ofString "sum") t_SUM)) : FnOk P w K mg base CX0 2 fa fd ["rule", "lot"] (spD K 2 (fsP M_told_of)) := by
  refine fn_ok false F sc_told_of rfl fun cdv A outer s H E hr => ⟨_, (fs_cons (fs_par rfl sc_told_of.nd (i := 2) (j := 3) rfl rfl (by decide) rfl rfl (f_ix (hu1 hr) (f_var 0) f_int) (f_dcD rfl sc_told_of.nd (f_seq (f_var 1)) (own := [("person", 6), ("number", 7)]) (blkOk_by (N := N_told_of) (sc := (defScope st_told_of)) (by decide +kernel)) rfl (fun _ _ _ _ _ => (fg_tup rfl (gs_cons 6 sc_told_of.nd (gs_cons 7 sc_told_of.nd gs_nil)))) (fun _ _ _ _ _ => fts_nil) (fun _ _ _ _ _ => (f_var 7)) (fun _ _ _ _ _ => f_bl)))
    (fs_cons (fs_if (f_tcmp (op_eqAll (hu64 hr)) ops_eqD (f_var 2) (f_gstr rfl g_HELD) (nomark _)) (fs_one (fs_ret (f_ix (hu1 hr) (f_var 0) f_int))) fs_nil)
    (fs_cons (fs_if (f_tcmp (op_eqAll (hu64 hr)) ops_eqD (f_var 2) (f_gstr rfl g_NEXT) (nomark _)) (fs_one (fs_ret (f_if (f_tcmp op_gt ops_bD (f_cb1 call_lenA cbs_lenD (by rfl) B.len PySem.boot_len (f_var 3)) f_int (nomark _)) (f_op op_addAll ops_addD (f_cb1 (call_maxA rfl) cbs_maxA (by rfl) B.max boot_max (f_var 3)) f_int) f_int))) fs_nil)
    (fs_cons (fs_if (f_tcmp (op_eqAll (hu64 hr)) ops_eqD (f_var 2) (f_gstr rfl g_FREE) (nomark _)) (fs_one (fs_ret (f_call (G_least_free.mono (by first | exact Nat.le_refl _ | decide | omega)) hr (by rfl) (f_acons (f_var 3) f_anil)))) fs_nil)
    (fs_cons (fs_if (f_tcmp (op_eqAll (hu64 hr)) ops_eqD (f_var 2) (f_gstr rfl g_KINDS) (nomark _)) (fs_one (fs_ret (f_op op_addAll ops_addD (f_ix (hu1 hr) (f_var 0) f_int) (f_cb1 call_lenA cbs_lenD (by rfl) B.len PySem.boot_len (f_var 3))))) fs_nil)
    (fs_cons (fs_set 4 sc_told_of.nd (f_ct1 (call_dictZ rfl) cbs_dicD (by rfl) B.dict PyProof.Rows.boot_dict (f_ix (hu1 hr) (f_var 0) f_int)))
    (fs_cons (fs_set 5 sc_told_of.nd (f_op op_addAll ops_addD (f_ix (hu1 hr) (f_var 0) f_int) (f_cb1 (cr_sum rfl) cbs_sumD (by rfl) B.sum boot_sum (f_lcD (own := [("person", 6), ("number", 7)]) rfl sc_told_of.nd (f_seq (f_var 1)) (blkOk_by (N := N_told_of) (sc := (defScope st_told_of)) (by decide +kernel)) rfl (fun _ _ _ _ _ => (fg_tup rfl (gs_cons 6 sc_told_of.nd (gs_cons 7 sc_told_of.nd gs_nil)))) (fun _ _ _ _ _ => fts_nil) (fun _ _ _ _ _ => (f_ix (hu1 hr) (f_var 4) (f_var 6)))))))
    (fs_one (fs_ret (f_if (f_tcmp (op_eqAll (hu64 hr)) ops_eqD (f_var 2) (f_gstr rfl g_SUM) (nomark _)) (f_var 5) (f_cb2 (call_min2 rfl) cbs_min2D (by rfl) B.min boot_min (f_var 5) (f_ix (hu1 hr) (f_var 0) f_int)))))))))))), okP (m := M_told_of) fun ds hl => by
    obtain ⟨x0, x1, rfl⟩ := len2 ds hl
    kernel_rfl⟩
/-! ### Hall.rule -/
abbrev st_Hall_rule : Stmt := inClass (topS 32) 3
abbrev N_Hall_rule : List Str := ["self", "person"]
theorem sc_Hall_rule : FnScope N_Hall_rule ["self", "person"] (defScope st_Hall_rule) := ⟨rfl, rfl, rfl, by decide +kernel, rfl, by decide +kernel, by decide +kernel⟩
def m_Hall_rule (cl_Hall : Addr) (a_self : D) (a_person : D) : Option (D) :=
  (insO cl_Hall "look_for" a_self).bind fun v1 =>
  (m_Hall_look_for cl_Hall a_self a_person).bind fun v2 =>
  (fldD cl_Hall "own_rules" a_self).bind fun v3 =>
  (ixD v3 a_person).bind fun v4 =>
  some v4
def M_Hall_rule (cl_Hall : Addr) (ds : List D) : Option (D) := match ds with
  | [a_self, a_person] => m_Hall_rule cl_Hall a_self a_person
  | _ => none
theorem ln_Hall_rule (cl_Hall : Addr) : ∀ ds v, M_Hall_rule cl_Hall ds = some v → ds.length = 2 := fun ds v h => by
  unfold M_Hall_rule at h
  split at h
  · rfl
  · cases h
set_option maxHeartbeats 4000000 in
theorem ok_Hall_rule {P : Program} {w : World} {K : PySem.W.Frag} {mg : Str → Option Value} {base : Heap} {fa : Addr} {fd : FuncData} (F : Fun K "rule" "Hall.rule" st_Hall_rule fa fd) (B : Bts mg) {cl_Hall : Addr} (T_Hall : Txt_Hall K cl_Hall) (G_Hall_look_for : GM P w K mg base cl_Hall "look_for" 3 2 (M_Hall_look_for cl_Hall)) : FnOk P w K mg base CX0 4 fa fd ["self", "person"] (spD K 2 (fsP (M_Hall_rule cl_Hall))) := by
  refine fn_ok false F sc_Hall_rule rfl fun cdv A outer s H E hr => ⟨_, (fs_cons (fs_expr (f_meth T_Hall.cl (G_Hall_look_for.mono (by first | exact Nat.le_refl _ | decide | omega)) hr (f_var 0) (f_acons (f_var 1) f_anil)))
    (fs_one (fs_ret (f_ix (hu1 hr) (f_fld T_Hall.cl T_Hall.n_own_rules (f_var 0)) (f_var 1))))), okP (m := (M_Hall_rule cl_Hall)) fun ds hl => by
    obtain ⟨x0, x1, rfl⟩ := len2 ds hl
    kernel_rfl⟩
/-! ### told_now -/
abbrev st_told_now : Stmt := topS 22
abbrev N_told_now : List Str := ["hall", "standing", "person"]
theorem sc_told_now : FnScope N_told_now ["hall", "standing", "person"] (defScope st_told_now) := ⟨rfl, rfl, rfl, by decide +kernel, rfl, by decide +kernel, by decide +kernel⟩
def m_told_now (cl_Hall : Addr) (a_hall : D) (a_standing : D) (a_person : D) : Option (D) :=
  (insO cl_Hall "rule" a_hall).bind fun v1 =>
  (m_Hall_rule cl_Hall a_hall a_person).bind fun v2 =>
  (m_lot_of cl_Hall a_hall a_standing a_person).bind fun v3 =>
  (m_told_of v2 v3).bind fun v4 =>
  some v4
def M_told_now (cl_Hall : Addr) (ds : List D) : Option (D) := match ds with
  | [a_hall, a_standing, a_person] => m_told_now cl_Hall a_hall a_standing a_person
  | _ => none
theorem ln_told_now (cl_Hall : Addr) : ∀ ds v, M_told_now cl_Hall ds = some v → ds.length = 3 := fun ds v h => by
  unfold M_told_now at h
  split at h
  · rfl
  · cases h
set_option maxHeartbeats 4000000 in
theorem ok_told_now {P : Program} {w : World} {K : PySem.W.Frag} {mg : Str → Option Value} {base : Heap} {fa : Addr} {fd : FuncData} (F : Fun K "told_now" "told_now" st_told_now fa fd) (B : Bts mg) {cl_Hall : Addr} (T_Hall : Txt_Hall K cl_Hall) (G_told_of : GP P w K mg base "told_of" 2 2 M_told_of) (G_Hall_rule : GM P w K mg base cl_Hall "rule" 4 2 (M_Hall_rule cl_Hall)) (G_lot_of : GP P w K mg base "lot_of" 5 3 (M_lot_of cl_Hall)) : FnOk P w K mg base CX0 6 fa fd ["hall", "standing", "person"] (spD K 3 (fsP (M_told_now cl_Hall))) := by
  refine fn_ok false F sc_told_now rfl fun cdv A outer s H E hr => ⟨_, (fs_one (fs_ret (f_call (G_told_of.mono (by first | exact Nat.le_refl _ | decide | omega)) hr (by rfl) (f_acons (f_meth T_Hall.cl (G_Hall_rule.mono (by first | exact Nat.le_refl _ | decide | omega)) hr (f_var 0) (f_acons (f_var 2) f_anil)) (f_acons (f_call (G_lot_of.mono (by first | exact Nat.le_refl _ | decide | omega)) hr (by rfl) (f_acons (f_var 0) (f_acons (f_var 1) (f_acons (f_var 2) f_anil)))) f_anil))))), okP (m := (M_told_now cl_Hall)) fun ds hl => by
    obtain ⟨x0, x1, x2, rfl⟩ := len3 ds hl
    kernel_rfl⟩
/-! ### turned -/
abbrev st_turned : Stmt := topS 23
abbrev N_turned : List Str := ["hall", "standing", "persons", "told", "person", "number"]
theorem sc_turned : FnScope N_turned ["hall", "standing", "persons"] (defScope st_turned) := ⟨rfl, rfl, rfl, by decide +kernel, rfl, by decide +kernel, by decide +kernel⟩
def m_turned_c1 (cl_Hall : Addr) (a_hall : D) (a_standing : D) (d2 : D) : Option (Option (Key × D)) :=
  (m_told_now cl_Hall a_hall a_standing d2).bind fun v3 =>
  (kO d2).bind fun v4 =>
  some (some (v4, v3))
def m_turned_c2 (v5 : List Key × List D) (d7 : D) : Option (Option D) :=
  (unp [4, 5] d7).bind fun v9 =>
  (getO (.dic v5.1 v5.2) v9.1 v9.2.1).bind fun v10 =>
  some (some v10)
def m_turned (cl_Hall : Addr) (a_hall : D) (a_standing : D) (a_persons : D) : Option (D) :=
  (itD a_persons).bind fun v1 =>
  (dcG (m_turned_c1 cl_Hall a_hall a_standing) v1).bind fun v5 =>
  (enmD a_standing).bind fun v6 =>
  (lcG (m_turned_c2 v5) v6).bind fun v11 =>
  (tupD (.lst v11)).bind fun v12 =>
  some v12
def M_turned (cl_Hall : Addr) (ds : List D) : Option (D) := match ds with
  | [a_hall, a_standing, a_persons] => m_turned cl_Hall a_hall a_standing a_persons
  | _ => none
theorem ln_turned (cl_Hall : Addr) : ∀ ds v, M_turned cl_Hall ds = some v → ds.length = 3 := fun ds v h => by
  unfold M_turned at h
  split at h
  · rfl
  · cases h
set_option maxHeartbeats 4000000 in
theorem ok_turned {P : Program} {w : World} {K : PySem.W.Frag} {mg : Str → Option Value} {base : Heap} {fa : Addr} {fd : FuncData} (F : Fun K "turned" "turned" st_turned fa fd) (B : Bts mg) {cl_Hall : Addr} (T_Hall : Txt_Hall K cl_Hall) (G_told_now : GP P w K mg base "told_now" 6 3 (M_told_now cl_Hall)) : FnOk P w K mg base CX0 7 fa fd ["hall", "standing", "persons"] (spD K 3 (fsP (M_turned cl_Hall))) := by
  refine fn_ok false F sc_turned rfl fun cdv A outer s H E hr => ⟨_, (fs_cons (fs_set 3 sc_turned.nd (f_dcD rfl sc_turned.nd (f_seq (f_var 2)) (own := [("person", 4)]) (blkOk_by (N := N_turned) (sc := (defScope st_turned)) (by decide +kernel)) rfl (fun _ _ _ _ _ => (fg_name 4 sc_turned.nd)) (fun _ _ _ _ _ => fts_nil) (fun _ _ _ _ _ => (f_var 4)) (fun _ _ _ _ _ => (f_call (G_told_now.mono (by first | exact Nat.le_refl _ | decide | omega)) hr (by rfl) (f_acons (f_var 0) (f_acons (f_var 1) (f_acons (f_var 4) f_anil)))))))
    (fs_one (fs_ret (f_ct1 call_tupleZ cbs_tupD (by rfl) B.tuple boot_tuple (f_lcD (own := [("person", 4), ("number", 5)]) rfl sc_turned.nd (f_enum rfl B.enumerate (f_var 1)) (blkOk_by (N := N_turned) (sc := (defScope st_turned)) (by decide +kernel)) rfl (fun _ _ _ _ _ => (fg_tup rfl (gs_cons 4 sc_turned.nd (gs_cons 5 sc_turned.nd gs_nil)))) (fun _ _ _ _ _ => fts_nil) (fun _ _ _ _ _ => (f_get2 (hu1 hr) (f_var 3) (f_var 4) (f_var 5) ⟨rfl, rfl, rfl, rfl⟩))))))), okP (m := (M_turned cl_Hall)) fun ds hl => by
    obtain ⟨x0, x1, x2, rfl⟩ := len3 ds hl
    kernel_rfl⟩
/-! ### Hall.__len__ -/
abbrev st_Hall_len__ : Stmt := inClass (topS 32) 7
abbrev N_Hall_len__ : List Str := ["self"]
theorem sc_Hall_len__ : FnScope N_Hall_len__ ["self"] (defScope st_Hall_len__) := ⟨rfl, rfl, rfl, by decide +kernel, rfl, by decide +kernel, by decide +kernel⟩
def m_Hall_len__ (cl_Hall : Addr) (a_self : D) : Option (D) :=
  (fldD cl_Hall "own_rules" a_self).bind fun v1 =>
  (lenD v1).bind fun v2 =>
  some v2
def M_Hall_len__ (cl_Hall : Addr) (ds : List D) : Option (D) := match ds with
  | [a_self] => m_Hall_len__ cl_Hall a_self
  | _ => none
theorem ln_Hall_len__ (cl_Hall : Addr) : ∀ ds v, M_Hall_len__ cl_Hall ds = some v → ds.length = 1 := fun ds v h => by
  unfold M_Hall_len__ at h
  split at h
  · rfl
  · cases h
set_option maxHeartbeats 4000000 in
theorem ok_Hall_len__ {P : Program} {w : World} {K : PySem.W.Frag} {mg : Str → Option Value} {base : Heap} {fa : Addr} {fd : FuncData} (F : Fun K "__len__" "Hall.__len__" st_Hall_len__ fa fd) (B : Bts mg) {cl_Hall : Addr} (T_Hall : Txt_Hall K cl_Hall) : FnOk P w K mg base CX0 1 fa fd ["self"] (spD K 1 (fsP (M_Hall_len__ cl_Hall))) := by
  refine fn_ok false F sc_Hall_len__ rfl fun cdv A outer s H E hr => ⟨_, (fs_one (fs_ret (f_cb1 call_lenA cbs_lenD (by rfl) B.len PySem.boot_len (f_fld T_Hall.cl T_Hall.n_own_rules (f_var 0))))), okP (m := (M_Hall_len__ cl_Hall)) fun ds hl => by
    obtain ⟨x0, rfl⟩ := len1 ds hl
    kernel_rfl⟩
/-! ### beaten -/
abbrev st_beaten : Stmt := topS 25
abbrev N_beaten : List Str := ["hall", "standing"]
theorem sc_beaten : FnScope N_beaten ["hall", "standing"] (defScope st_beaten) := ⟨rfl, rfl, rfl, by decide +kernel, rfl, by decide +kernel, by decide +kernel⟩
def m_beaten (cl_Hall : Addr) (a_hall : D) (a_standing : D) : Option (D) :=
  (insO cl_Hall "" a_hall).bind fun v1 =>
  (m_Hall_len__ cl_Hall a_hall).bind fun v2 =>
  (natO v2).bind fun v3 =>
  (rngL1 v2).bind fun v4 =>
  (m_turned cl_Hall a_hall a_standing (.lst v4)).bind fun v5 =>
  some v5
def M_beaten (cl_Hall : Addr) (ds : List D) : Option (D) := match ds with
  | [a_hall, a_standing] => m_beaten cl_Hall a_hall a_standing
  | _ => none
theorem ln_beaten (cl_Hall : Addr) : ∀ ds v, M_beaten cl_Hall ds = some v → ds.length = 2 := fun ds v h => by
  unfold M_beaten at h
  split at h
  · rfl
  · cases h
set_option maxHeartbeats 4000000 in
theorem ok_beaten {P : Program} {w : World} {K : PySem.W.Frag} {mg : Str → Option Value} {base : Heap} {fa : Addr} {fd : FuncData} (F : Fun K "beaten" "beaten" st_beaten fa fd) (B : Bts mg) {cl_Hall : Addr} (T_Hall : Txt_Hall K cl_Hall) (G_turned : GP P w K mg base "turned" 7 3 (M_turned cl_Hall)) (G_Hall_len__ : GM P w K mg base cl_Hall "__len__" 1 1 (M_Hall_len__ cl_Hall)) : FnOk P w K mg base CX0 8 fa fd ["hall", "standing"] (spD K 2 (fsP (M_beaten cl_Hall))) := by
  refine fn_ok false F sc_beaten rfl fun cdv A outer s H E hr => ⟨_, (fs_one (fs_ret (f_call (G_turned.mono (by first | exact Nat.le_refl _ | decide | omega)) hr (by rfl) (f_acons (f_var 0) (f_acons (f_var 1) (f_acons (f_listRg1 rfl rfl B.list rfl B.range (f_lenI (G_Hall_len__.mono (by first | exact Nat.le_refl _ | decide | omega)) hr rfl B.len (f_var 0))) f_anil)))))), okP (m := (M_beaten cl_Hall)) fun ds hl => by
    obtain ⟨x0, x1, rfl⟩ := len2 ds hl
    kernel_rfl⟩
/-! ### history -/
abbrev st_history : Stmt := topS 26
abbrev N_history : List Str := ["hall", "standing", "many", "found", "beat"]
theorem sc_history : FnScope N_history ["hall", "standing", "many"] (defScope st_history) := ⟨rfl, rfl, rfl, by decide +kernel, rfl, by decide +kernel, by decide +kernel⟩
def m_history_f1 (cl_Hall : Addr) (a_hall : D) (t5 : List D × Unit) (d4 : D) : Option (List D × Unit) :=
  (negO (.int 1)).bind fun v6 =>
  (ixD (.lst t5.1) v6).bind fun v7 =>
  (m_beaten cl_Hall a_hall v7).bind fun v8 =>
  (mApp t5.1 [v8]).bind fun v9 =>
  some (v9.2, ())
def m_history (cl_Hall : Addr) (a_hall : D) (a_standing : D) (a_many : D) : Option (D) :=
  (tupD a_standing).bind fun v1 =>
  (gd 1 (some [v1])).bind fun v2 =>
  (rng1 a_many).bind fun v3 =>
  (loopM (m_history_f1 cl_Hall a_hall) v3 (v2, ())).bind fun v10 =>
  some (.lst v10.1)
def M_history (cl_Hall : Addr) (ds : List D) : Option (D) := match ds with
  | [a_hall, a_standing, a_many] => m_history cl_Hall a_hall a_standing a_many
  | _ => none
theorem ln_history (cl_Hall : Addr) : ∀ ds v, M_history cl_Hall ds = some v → ds.length = 3 := fun ds v h => by
  unfold M_history at h
  split at h
  · rfl
  · cases h
set_option maxHeartbeats 4000000 in
theorem ok_history {P : Program} {w : World} {K : PySem.W.Frag} {mg : Str → Option Value} {base : Heap} {fa : Addr} {fd : FuncData} (F : Fun K "history" "history" st_history fa fd) (B : Bts mg) {cl_Hall : Addr} (T_Hall : Txt_Hall K cl_Hall) (G_beaten : GP P w K mg base "beaten" 8 2 (M_beaten cl_Hall)) : FnOk P w K mg base CX0 9 fa fd ["hall", "standing", "many"] (spD K 3 (fsP (M_history cl_Hall))) := by
  refine fn_ok false F sc_history rfl fun cdv A outer s H E hr => ⟨_, (fs_cons (fs_set 3 sc_history.nd (f_lstC (f_acons (f_ct1 call_tupleZ cbs_tupD (by rfl) B.tuple boot_tuple (f_var 1)) f_anil)))
    (fs_cons (fs_for [] [4] [.l] PassesOwn.never rfl (f_rng1 rfl B.range (f_var 2)) (fg_name 4 sc_history.nd) (fs_one (fs_expr (f_m PySem.F.slot_list_append PySem.F.type_list_append mt_append mts_appD (f_var 3) (f_acons (f_call (G_beaten.mono (by first | exact Nat.le_refl _ | decide | omega)) hr (by rfl) (f_acons (f_var 0) (f_acons (f_ix (hu1 hr) (f_var 3) (f_neg f_int)) f_anil))) f_anil)))))
    (fs_frz 3 (fs_one (fs_ret (f_var 3)))))), okP (m := (M_history cl_Hall)) fun ds hl => by
    obtain ⟨x0, x1, x2, rfl⟩ := len3 ds hl
    kernel_rfl⟩
/-! ### rest_by_beats -/
abbrev st_rest_by_beats : Stmt := topS 27
abbrev N_rest_by_beats : List Str := ["hall", "standing", "here", "beats", "later"]
theorem sc_rest_by_beats : FnScope N_rest_by_beats ["hall", "standing"] (defScope st_rest_by_beats) := ⟨rfl, rfl, rfl, by decide +kernel, rfl, by decide +kernel, by decide +kernel⟩
def m_rest_by_beats_w1 (cl_Hall : Addr) (a_hall : D) (t3 : D × D × D × Unit) : Option ((D × D × D × Unit) ⊕ (D × D × D × Unit)) :=
  (eqD true t3.2.2.1 t3.1).bind fun v4 =>
  cond v4 ((addD t3.2.1 (.int 1)).bind fun v5 =>
  (m_beaten cl_Hall a_hall t3.2.2.1).bind fun v6 =>
  some (.inl (t3.2.2.1, v5, v6, ()))) (some (.inr t3))
def m_rest_by_beats (cl_Hall : Addr) (a_hall : D) (a_standing : D) : Option (D) :=
  (tupD a_standing).bind fun v1 =>
  (m_beaten cl_Hall a_hall v1).bind fun v2 =>
  (whileP (m_rest_by_beats_w1 cl_Hall a_hall) (v1, (.int 0), v2, ())).bind fun v7 =>
  (gd 2 (some (.tup [v7.1, v7.2.1]))).bind fun v8 =>
  some v8
def M_rest_by_beats (cl_Hall : Addr) (ds : List D) : Option (D) := match ds with
  | [a_hall, a_standing] => m_rest_by_beats cl_Hall a_hall a_standing
  | _ => none
theorem ln_rest_by_beats (cl_Hall : Addr) : ∀ ds v, M_rest_by_beats cl_Hall ds = some v → ds.length = 2 := fun ds v h => by
  unfold M_rest_by_beats at h
  split at h
  · rfl
  · cases h
set_option maxHeartbeats 4000000 in
theorem ok_rest_by_beats {P : Program} {w : World} {K : PySem.W.Frag} {mg : Str → Option Value} {base : Heap} {fa : Addr} {fd : FuncData} (F : Fun K "rest_by_beats" "rest_by_beats" st_rest_by_beats fa fd) (B : Bts mg) {cl_Hall : Addr} (T_Hall : Txt_Hall K cl_Hall) (G_beaten : GP P w K mg base "beaten" 8 2 (M_beaten cl_Hall)) : FnOk P w K mg base CX0 9 fa fd ["hall", "standing"] (spD K 2 (fsP (M_rest_by_beats cl_Hall))) := by
  refine fn_ok false F sc_rest_by_beats rfl fun cdv A outer s H E hr => ⟨_, (fs_cons (fs_par rfl sc_rest_by_beats.nd (i := 2) (j := 3) rfl rfl (by decide) rfl rfl (f_ct1 call_tupleZ cbs_tupD (by rfl) B.tuple boot_tuple (f_var 1)) f_int)
    (fs_cons (fs_set 4 sc_rest_by_beats.nd (f_call (G_beaten.mono (by first | exact Nat.le_refl _ | decide | omega)) hr (by rfl) (f_acons (f_var 0) (f_acons (f_var 2) f_anil))))
    (fs_cons (fs_while [2, 3, 4] [] [] PassesOwn.never (f_tcmp (op_neAll (hu64 hr)) ops_neD (f_var 4) (f_var 2) (nomark _)) (fs_cons (fs_par rfl sc_rest_by_beats.nd (i := 2) (j := 3) rfl rfl (by decide) rfl rfl (f_var 4) (f_op op_addAll ops_addD (f_var 3) f_int))
    (fs_one (fs_set 4 sc_rest_by_beats.nd (f_call (G_beaten.mono (by first | exact Nat.le_refl _ | decide | omega)) hr (by rfl) (f_acons (f_var 0) (f_acons (f_var 2) f_anil)))))))
    (fs_one (fs_ret (f_tup (f_acons (f_var 2) (f_acons (f_var 3) f_anil)))))))), okP (m := (M_rest_by_beats cl_Hall)) fun ds hl => by
    obtain ⟨x0, x1, rfl⟩ := len2 ds hl
    kernel_rfl⟩
/-! ### _law_take -/
abbrev st_law_take : Stmt := topS 35
abbrev N_law_take : List Str := ["_law_box", "_law_many", "_law_found", "_law_once", "_law_pair"]
theorem sc_law_take : FnScope N_law_take ["_law_box", "_law_many"] (defScope st_law_take) := ⟨rfl, rfl, rfl, by decide +kernel, rfl, by decide +kernel, by decide +kernel⟩
def m_law_take (a_box : List D) (a_many : D) : Option (D × List D) :=
  (ixD (.lst a_box) (.int 0)).bind fun v1 =>
  (gtD v1 (.int 0)).bind fun v2 =>
  cond v2 ((ixD (.lst a_box) (.int 0)).bind fun v3 =>
  (modD v3 a_many).bind fun v4 =>
  (ixD (.lst a_box) (.int 0)).bind fun v5 =>
  (fdivD v5 a_many).bind fun v6 =>
  (setO a_box (.int 0) v6).bind fun v7 =>
  some (v4, v7)) ((ixD (.lst a_box) (.int 2)).bind fun v8 =>
  (addD v8 (.int 1)).bind fun v9 =>
  (setO a_box (.int 2) v9).bind fun v10 =>
  (ixD (.lst v10) (.int 1)).bind fun v11 =>
  (ixD (.lst v10) (.int 2)).bind fun v12 =>
  (mulD (.int 39373) v12).bind fun v13 =>
  (addD v11 v13).bind fun v14 =>
  (powD v14 (.int 5)).bind fun v15 =>
  (modD v15 (.int 2147483647)).bind fun v16 =>
  (ixD (.lst v10) (.int 2)).bind fun v17 =>
  (addD v16 v17).bind fun v18 =>
  (ixD (.lst v10) (.int 1)).bind fun v19 =>
  (fdivD v19 (.int 1000003)).bind fun v20 =>
  (addD v18 v20).bind fun v21 =>
  (modD v16 (.int 40009)).bind fun v22 =>
  (addD v22 (.int 7)).bind fun v23 =>
  (ixD (.lst v10) (.int 2)).bind fun v24 =>
  (addD v23 v24).bind fun v25 =>
  (mulD v21 v25).bind fun v26 =>
  (modD v26 (.int 2147483629)).bind fun v27 =>
  (mulD v27 (.int 48271)).bind fun v28 =>
  (addD v28 v16).bind fun v29 =>
  (modD v29 (.int 2147483587)).bind fun v30 =>
  (fdivD v30 (.int 64)).bind fun v31 =>
  (modD v31 a_many).bind fun v32 =>
  some (v32, v10))
def M_law_take (a_box : List D) (ds : List D) : Option (D × List D) := match ds with
  | [a_many] => m_law_take a_box a_many
  | _ => none
theorem ln_law_take : ∀ b ds v, M_law_take b ds = some v → ds.length + 1 = 2 := fun b ds v h => by
  unfold M_law_take at h
  split at h
  · rfl
  · cases h
set_option maxHeartbeats 4000000 in
theorem ok_law_take {P : Program} {w : World} {K : PySem.W.Frag} {mg : Str → Option Value} {base : Heap} {fa : Addr} {fd : FuncData} (F : Fun K "_law_take" "_law_take" st_law_take fa fd) (B : Bts mg) : FnOk P w K mg base CX0 1 fa fd ["_law_box", "_law_many"] (spD K 2 (fsB M_law_take)) := by
  refine fn_ok false F sc_law_take rfl fun cdv A outer s H E hr => ⟨_, (fs_cons (fs_if (f_tcmp op_gt ops_bD (f_ix (hu1 hr) (f_var 0) f_int) f_int (nomark _)) (fs_cons (fs_set 2 sc_law_take.nd (f_op op_modN ops_iD (f_ix (hu1 hr) (f_var 0) f_int) (f_var 1)))
    (fs_cons (fs_asg (f_op op_fdivN ops_iD (f_ix (hu1 hr) (f_var 0) f_int) (f_var 1)) (fg_sub (f_var 0) f_int))
    (fs_one (fs_ret (f_var 2))))) fs_nil)
    (fs_cons (fs_asg (f_op op_addAll ops_addD (f_ix (hu1 hr) (f_var 0) f_int) f_int) (fg_sub (f_var 0) f_int))
    (fs_cons (fs_set 3 sc_law_take.nd (f_op op_modN ops_iD (f_op op_pow ops_iD (f_op op_addAll ops_addD (f_ix (hu1 hr) (f_var 0) f_int) (f_op op_mulAll ops_mulD f_int (f_ix (hu1 hr) (f_var 0) f_int))) f_int) f_int))
    (fs_cons (fs_set 4 sc_law_take.nd (f_op op_modN ops_iD (f_op op_mulAll ops_mulD (f_op op_addAll ops_addD (f_op op_addAll ops_addD (f_var 3) (f_ix (hu1 hr) (f_var 0) f_int)) (f_op op_fdivN ops_iD (f_ix (hu1 hr) (f_var 0) f_int) f_int)) (f_op op_addAll ops_addD (f_op op_addAll ops_addD (f_op op_modN ops_iD (f_var 3) f_int) f_int) (f_ix (hu1 hr) (f_var 0) f_int))) f_int))
    (fs_one (fs_ret (f_op op_modN ops_iD (f_op op_fdivN ops_iD (f_op op_modN ops_iD (f_op op_addAll ops_addD (f_op op_mulAll ops_mulD (f_var 4) f_int) (f_var 3)) f_int) f_int) (f_var 1)))))))), okB (m := M_law_take) fun b ds hl => by
    obtain ⟨x1, rfl⟩ := len1 ds (Nat.succ.inj hl)
    kernel_rfl⟩
/-! ### _law_some -/
abbrev st_law_some : Stmt := topS 38
abbrev N_law_some : List Str := ["_law_box", "_law_pool", "_law_odds", "_law_one"]
theorem sc_law_some : FnScope N_law_some ["_law_box", "_law_pool", "_law_odds"] (defScope st_law_some) := ⟨rfl, rfl, rfl, by decide +kernel, rfl, by decide +kernel, by decide +kernel⟩
def m_law_some_c1 (a_odds : D) (t3 : List D × Unit) (d2 : D) : Option ((List D × Unit) × Option D) :=
  (m_law_take t3.1 a_odds).bind fun v4 =>
  (eqD false v4.1 (.int 0)).bind fun v5 =>
  cond v5 (some ((v4.2, ()), some d2)) (some ((v4.2, ()), none))
def m_law_some (a_box : List D) (a_pool : D) (a_odds : D) : Option (D × List D) :=
  (itD a_pool).bind fun v1 =>
  (gd v1.length (lcB (m_law_some_c1 a_odds) v1 (a_box, ()))).bind fun v6 =>
  some ((.lst v6.2), v6.1.1)
def M_law_some (a_box : List D) (ds : List D) : Option (D × List D) := match ds with
  | [a_pool, a_odds] => m_law_some a_box a_pool a_odds
  | _ => none
theorem ln_law_some : ∀ b ds v, M_law_some b ds = some v → ds.length + 1 = 3 := fun b ds v h => by
  unfold M_law_some at h
  split at h
  · rfl
  · cases h
set_option maxHeartbeats 4000000 in
theorem ok_law_some {P : Program} {w : World} {K : PySem.W.Frag} {mg : Str → Option Value} {base : Heap} {fa : Addr} {fd : FuncData} (F : Fun K "_law_some" "_law_some" st_law_some fa fd) (B : Bts mg) (G_law_take : GB P w K mg base "_law_take" 1 2 M_law_take) : FnOk P w K mg base CX0 2 fa fd ["_law_box", "_law_pool", "_law_odds"] (spD K 3 (fsB M_law_some)) := by
  refine fn_ok false F sc_law_some rfl fun cdv A outer s H E hr => ⟨_, (fs_one (fs_ret (f_lcBD (own := [("_law_one", 3)]) [.l] rfl sc_law_some.nd (f_seq (f_var 1)) (blkOk_by (N := N_law_some) (sc := (defScope st_law_some)) (by decide +kernel)) rfl (fun _ _ _ _ _ => (fg_name 3 sc_law_some.nd)) (fun _ _ _ _ _ => (fts_one (f_tcmp (op_eqAll (hu64 hr)) ops_eqD (f_callB 0 (G_law_take.mono (by first | exact Nat.le_refl _ | decide | omega)) hr (by rfl) (f_acons (f_var 0) (f_acons (f_var 2) f_anil))) f_int (nomark _)))) (fun _ _ _ _ _ => (f_var 3))))), okB (m := M_law_some) fun b ds hl => by
    obtain ⟨x1, x2, rfl⟩ := len2 ds (Nat.succ.inj hl)
    kernel_rfl⟩
/-! ### _law_sum_rule -/
abbrev st_law_sum_rule : Stmt := topS 39
abbrev N_law_sum_rule : List Str := ["_law_box", "_law_seen", "_law_far", "_law_own", "_law_ties", "_law_one"]
theorem sc_law_sum_rule : FnScope N_law_sum_rule ["_law_box", "_law_seen", "_law_far"] (defScope st_law_sum_rule) := ⟨rfl, rfl, rfl, by decide +kernel, rfl, by decide +kernel, by decide +kernel⟩
def m_law_sum_rule_c1 (a_far : D) (t7 : List D × Unit) (d6 : D) : Option ((List D × Unit) × Option D) :=
  (m_law_take t7.1 a_far).bind fun v8 =>
  (addD (.int 1) v8.1).bind fun v9 =>
  (gd 4 (some (.lst [(.int 1), (.int 1), (.int 2), v9]))).bind fun v10 =>
  (m_law_take v8.2 (.int 4)).bind fun v11 =>
  (ixD v10 v11.1).bind fun v12 =>
  (gd 2 (some (.tup [d6, v12]))).bind fun v13 =>
  some ((v11.2, ()), some v13)
def m_law_sum_rule (a_box : List D) (a_seen : D) (a_far : D) : Option (D × List D) :=
  (m_law_take a_box (.int 4)).bind fun v1 =>
  (gd 4 (some (.lst [(.int 0), (.int 0), (.int 1), v1.1]))).bind fun v2 =>
  (m_law_take v1.2 (.int 4)).bind fun v3 =>
  (ixD v2 v3.1).bind fun v4 =>
  (itD a_seen).bind fun v5 =>
  (gd v5.length (lcB (m_law_sum_rule_c1 a_far) v5 (v3.2, ()))).bind fun v14 =>
  (tupD (.lst v14.2)).bind fun v15 =>
  (m_law_take v14.1.1 (.int 4)).bind fun v16 =>
  (gtD v16.1 (.int 0)).bind fun v17 =>
  cond v17 ((gd 3 (some (.tup [(.str (Str.ofString "sum")), v4, v15]))).bind fun v18 =>
  some (v18, v16.2)) ((m_law_take v16.2 (.int 6)).bind fun v19 =>
  (gd 4 (some (.tup [(.str (Str.ofString "cap")), v4, v15, v19.1]))).bind fun v20 =>
  some (v20, v19.2))
def M_law_sum_rule (a_box : List D) (ds : List D) : Option (D × List D) := match ds with
  | [a_seen, a_far] => m_law_sum_rule a_box a_seen a_far
  | _ => none
theorem ln_law_sum_rule : ∀ b ds v, M_law_sum_rule b ds = some v → ds.length + 1 = 3 := fun b ds v h => by
  unfold M_law_sum_rule at h
  split at h
  · rfl
  · cases h
set_option maxHeartbeats 4000000 in
theorem ok_law_sum_rule {P : Program} {w : World} {K : PySem.W.Frag} {mg : Str → Option Value} {base : Heap} {fa : Addr} {fd : FuncData} (F : Fun K "_law_sum_rule" "_law_sum_rule" st_law_sum_rule fa fd) (B : Bts mg) (G_law_take : GB P w K mg base "_law_take" 1 2 M_law_take) : FnOk P w K mg base CX0 2 fa fd ["_law_box", "_law_seen", "_law_far"] (spD K 3 (fsB M_law_sum_rule)) := by
  refine fn_ok false F sc_law_sum_rule rfl fun cdv A outer s H E hr => ⟨_, (fs_cons (fs_set 3 sc_law_sum_rule.nd (f_ix (hu1 hr) (f_lst (f_acons f_int (f_acons f_int (f_acons f_int (f_acons (f_callB 0 (G_law_take.mono (by first | exact Nat.le_refl _ | decide | omega)) hr (by rfl) (f_acons (f_var 0) (f_acons f_int f_anil))) f_anil))))) (f_callB 0 (G_law_take.mono (by first | exact Nat.le_refl _ | decide | omega)) hr (by rfl) (f_acons (f_var 0) (f_acons f_int f_anil)))))
    (fs_cons (fs_set 4 sc_law_sum_rule.nd (f_ct1 call_tupleZ cbs_tupD (by rfl) B.tuple boot_tuple (f_lcBD (own := [("_law_one", 5)]) [.l] rfl sc_law_sum_rule.nd (f_seq (f_var 1)) (blkOk_by (N := N_law_sum_rule) (sc := (defScope st_law_sum_rule)) (by decide +kernel)) rfl (fun _ _ _ _ _ => (fg_name 5 sc_law_sum_rule.nd)) (fun _ _ _ _ _ => fts_nil) (fun _ _ _ _ _ => (f_tup (f_acons (f_var 5) (f_acons (f_ix (hu1 hr) (f_lst (f_acons f_int (f_acons f_int (f_acons f_int (f_acons (f_op op_addAll ops_addD f_int (f_callB 0 (G_law_take.mono (by first | exact Nat.le_refl _ | decide | omega)) hr (by rfl) (f_acons (f_var 0) (f_acons (f_var 2) f_anil)))) f_anil))))) (f_callB 0 (G_law_take.mono (by first | exact Nat.le_refl _ | decide | omega)) hr (by rfl) (f_acons (f_var 0) (f_acons f_int f_anil)))) f_anil)))))))
    (fs_one (fs_ret (f_if (f_tcmp op_gt ops_bD (f_callB 0 (G_law_take.mono (by first | exact Nat.le_refl _ | decide | omega)) hr (by rfl) (f_acons (f_var 0) (f_acons f_int f_anil))) f_int (nomark _)) (f_tup (f_acons f_str (f_acons (f_var 3) (f_acons (f_var 4) f_anil)))) (f_tup (f_acons f_str (f_acons (f_var 3) (f_acons (f_var 4) (f_acons (f_callB 0 (G_law_take.mono (by first | exact Nat.le_refl _ | decide | omega)) hr (by rfl) (f_acons (f_var 0) (f_acons f_int f_anil))) f_anil)))))))))), okB (m := M_law_sum_rule) fun b ds hl => by
    obtain ⟨x1, x2, rfl⟩ := len2 ds (Nat.succ.inj hl)
    kernel_rfl⟩
/-! ### _law_rule -/
abbrev st_law_rule : Stmt := topS 40
abbrev N_law_rule : List Str := ["_law_box", "_law_many", "_law_pool", "_law_far", "_law_seen", "_law_way"]
theorem sc_law_rule : FnScope N_law_rule ["_law_box", "_law_many", "_law_pool", "_law_far"] (defScope st_law_rule) := ⟨rfl, rfl, rfl, by decide +kernel, rfl, by decide +kernel, by decide +kernel⟩
def m_law_rule (a_box : List D) (a_many : D) (a_pool : D) (a_far : D) : Option (D × List D) :=
  (m_law_some a_box a_pool (.int 2)).bind fun v1 =>
  (m_law_take v1.2 (.int 10)).bind fun v2 =>
  (eqD false v2.1 (.int 0)).bind fun v3 =>
  cond v3 ((m_law_take v2.2 (.int 7)).bind fun v4 =>
  (gd 2 (some (.tup [(.str (Str.ofString "held")), v4.1]))).bind fun v5 =>
  some (v5, v4.2)) ((eqD false v2.1 (.int 1)).bind fun v6 =>
  cond v6 ((m_law_take v2.2 (.int 3)).bind fun v7 =>
  (tupD v1.1).bind fun v8 =>
  (gd 3 (some (.tup [(.str (Str.ofString "kinds")), v7.1, v8]))).bind fun v9 =>
  some (v9, v7.2)) ((eqD false v2.1 (.int 2)).bind fun v10 =>
  cond v10 ((tupD v1.1).bind fun v11 =>
  (gd 2 (some (.tup [(.str (Str.ofString "next")), v11]))).bind fun v12 =>
  some (v12, v2.2)) ((eqD false v2.1 (.int 3)).bind fun v13 =>
  cond v13 ((tupD v1.1).bind fun v14 =>
  (gd 2 (some (.tup [(.str (Str.ofString "free")), v14]))).bind fun v15 =>
  some (v15, v2.2)) ((m_law_sum_rule v2.2 v1.1 a_far).bind fun v16 =>
  some (v16.1, v16.2)))))
def M_law_rule (a_box : List D) (ds : List D) : Option (D × List D) := match ds with
  | [a_many, a_pool, a_far] => m_law_rule a_box a_many a_pool a_far
  | _ => none
theorem ln_law_rule : ∀ b ds v, M_law_rule b ds = some v → ds.length + 1 = 4 := fun b ds v h => by
  unfold M_law_rule at h
  split at h
  · rfl
  · cases h
set_option maxHeartbeats 4000000 in
theorem ok_law_rule {P : Program} {w : World} {K : PySem.W.Frag} {mg : Str → Option Value} {base : Heap} {fa : Addr} {fd : FuncData} (F : Fun K "_law_rule" "_law_rule" st_law_rule fa fd) (B : Bts mg) (G_law_some : GB P w K mg base "_law_some" 2 3 M_law_some) (G_law_take : GB P w K mg base "_law_take" 1 2 M_law_take) (G_law_sum_rule : GB P w K mg base "_law_sum_rule" 2 3 M_law_sum_rule) : FnOk P w K mg base CX0 3 fa fd ["_law_box", "_law_many", "_law_pool", "_law_far"] (spD K 4 (fsB M_law_rule)) := by
  refine fn_ok false F sc_law_rule rfl fun cdv A outer s H E hr => ⟨_, (fs_cons (fs_par rfl sc_law_rule.nd (i := 4) (j := 5) rfl rfl (by decide) rfl rfl (f_callB 0 (G_law_some.mono (by first | exact Nat.le_refl _ | decide | omega)) hr (by rfl) (f_acons (f_var 0) (f_acons (f_var 2) (f_acons f_int f_anil)))) (f_callB 0 (G_law_take.mono (by first | exact Nat.le_refl _ | decide | omega)) hr (by rfl) (f_acons (f_var 0) (f_acons f_int f_anil))))
    (fs_cons (fs_if (f_tcmp (op_eqAll (hu64 hr)) ops_eqD (f_var 5) f_int (nomark _)) (fs_one (fs_ret (f_tup (f_acons f_str (f_acons (f_callB 0 (G_law_take.mono (by first | exact Nat.le_refl _ | decide | omega)) hr (by rfl) (f_acons (f_var 0) (f_acons f_int f_anil))) f_anil))))) fs_nil)
    (fs_cons (fs_if (f_tcmp (op_eqAll (hu64 hr)) ops_eqD (f_var 5) f_int (nomark _)) (fs_one (fs_ret (f_tup (f_acons f_str (f_acons (f_callB 0 (G_law_take.mono (by first | exact Nat.le_refl _ | decide | omega)) hr (by rfl) (f_acons (f_var 0) (f_acons f_int f_anil))) (f_acons (f_ct1 call_tupleZ cbs_tupD (by rfl) B.tuple boot_tuple (f_var 4)) f_anil)))))) fs_nil)
    (fs_cons (fs_if (f_tcmp (op_eqAll (hu64 hr)) ops_eqD (f_var 5) f_int (nomark _)) (fs_one (fs_ret (f_tup (f_acons f_str (f_acons (f_ct1 call_tupleZ cbs_tupD (by rfl) B.tuple boot_tuple (f_var 4)) f_anil))))) fs_nil)
    (fs_one (fs_ret (f_if (f_tcmp (op_eqAll (hu64 hr)) ops_eqD (f_var 5) f_int (nomark _)) (f_tup (f_acons f_str (f_acons (f_ct1 call_tupleZ cbs_tupD (by rfl) B.tuple boot_tuple (f_var 4)) f_anil))) (f_callB 0 (G_law_sum_rule.mono (by first | exact Nat.le_refl _ | decide | omega)) hr (by rfl) (f_acons (f_var 0) (f_acons (f_var 4) (f_acons (f_var 3) f_anil))))))))))), okB (m := M_law_rule) fun b ds hl => by
    obtain ⟨x1, x2, x3, rfl⟩ := len3 ds (Nat.succ.inj hl)
    kernel_rfl⟩
/-! ### _law_hall -/
abbrev st_law_hall : Stmt := topS 41
abbrev N_law_hall : List Str := ["_law_box", "_law_many", "_law_rules", "_law_one", "_law_seen", "_law_other"]
theorem sc_law_hall : FnScope N_law_hall ["_law_box"] (defScope st_law_hall) := ⟨rfl, rfl, rfl, by decide +kernel, rfl, by decide +kernel, by decide +kernel⟩
def m_law_hall_c1 (d12 : D) : Option (Option D) :=
  (gd 2 (some (.tup [d12, (.int 1)]))).bind fun v14 =>
  some (some v14)
def m_law_hall_f2 (t7 : List D × List D × Unit) (d6 : D) : Option (List D × List D × Unit) :=
  (rngL1 (.int 5)).bind fun v8 =>
  (m_law_some t7.1 (.lst v8) (.int 2)).bind fun v9 =>
  (m_law_take v9.2 (.int 2)).bind fun v10 =>
  (itD v9.1).bind fun v11 =>
  (lcG (m_law_hall_c1) v11).bind fun v15 =>
  (tupD (.lst v15)).bind fun v16 =>
  (gd 3 (some (.tup [(.str (Str.ofString "sum")), v10.1, v16]))).bind fun v17 =>
  (mApp t7.2.1 [v17]).bind fun v18 =>
  some (v10.2, v18.2, ())
def m_law_hall_c3 (v2 : D) (t22 : List D × Unit) (d21 : D) : Option ((List D × Unit) × Option D) :=
  (rngL1 v2).bind fun v23 =>
  (m_law_rule t22.1 v2 (.lst v23) (.int 3)).bind fun v24 =>
  some ((v24.2, ()), some v24.1)
def m_law_hall (a_box : List D) : Option (D × List D) :=
  (m_law_take a_box (.int 5)).bind fun v1 =>
  (addD (.int 1) v1.1).bind fun v2 =>
  (eqD false v2 (.int 5)).bind fun v3 =>
  cond v3 ((gd 0 (some [])).bind fun v4 =>
  (rng1 (.int 5)).bind fun v5 =>
  (loopM (m_law_hall_f2) v5 (v1.2, v4, ())).bind fun v19 =>
  some ((.lst v19.2.1), v19.1)) ((rng1 v2).bind fun v20 =>
  (gd v20.length (lcB (m_law_hall_c3 v2) v20 (v1.2, ()))).bind fun v25 =>
  some ((.lst v25.2), v25.1.1))
def M_law_hall (a_box : List D) (ds : List D) : Option (D × List D) := match ds with
  | [] => m_law_hall a_box
  | _ => none
theorem ln_law_hall : ∀ b ds v, M_law_hall b ds = some v → ds.length + 1 = 1 := fun b ds v h => by
  unfold M_law_hall at h
  split at h
  · rfl
  · cases h
set_option maxHeartbeats 4000000 in
theorem ok_law_hall {P : Program} {w : World} {K : PySem.W.Frag} {mg : Str → Option Value} {base : Heap} {fa : Addr} {fd : FuncData} (F : Fun K "_law_hall" "_law_hall" st_law_hall fa fd) (B : Bts mg) (G_law_take : GB P w K mg base "_law_take" 1 2 M_law_take) (G_law_rule : GB P w K mg base "_law_rule" 3 4 M_law_rule) (G_law_some : GB P w K mg base "_law_some" 2 3 M_law_some) : FnOk P w K mg base CX0 4 fa fd ["_law_box"] (spD K 1 (fsB M_law_hall)) := by
  refine fn_ok false F sc_law_hall rfl fun cdv A outer s H E hr => ⟨_, (fs_cons (fs_set 1 sc_law_hall.nd (f_op op_addAll ops_addD f_int (f_callB 0 (G_law_take.mono (by first | exact Nat.le_refl _ | decide | omega)) hr (by rfl) (f_acons (f_var 0) (f_acons f_int f_anil)))))
    (fs_cons (fs_if (f_tcmp (op_eqAll (hu64 hr)) ops_eqD (f_var 1) f_int (nomark _)) (fs_cons (fs_set 2 sc_law_hall.nd (f_lstC f_anil))
    (fs_cons (fs_for [] [3, 4] [.l, .l] PassesOwn.never rfl (f_rng1 rfl B.range f_int) (fg_name 3 sc_law_hall.nd) (fs_cons (fs_set 4 sc_law_hall.nd (f_callB 0 (G_law_some.mono (by first | exact Nat.le_refl _ | decide | omega)) hr (by rfl) (f_acons (f_var 0) (f_acons (f_listRg1 rfl rfl B.list rfl B.range f_int) (f_acons f_int f_anil)))))
    (fs_one (fs_expr (f_m PySem.F.slot_list_append PySem.F.type_list_append mt_append mts_appD (f_var 2) (f_acons (f_tup (f_acons f_str (f_acons (f_callB 0 (G_law_take.mono (by first | exact Nat.le_refl _ | decide | omega)) hr (by rfl) (f_acons (f_var 0) (f_acons f_int f_anil))) (f_acons (f_ct1 call_tupleZ cbs_tupD (by rfl) B.tuple boot_tuple (f_lcD (own := [("_law_other", 5)]) rfl sc_law_hall.nd (f_seq (f_var 4)) (blkOk_by (N := N_law_hall) (sc := (defScope st_law_hall)) (by decide +kernel)) rfl (fun _ _ _ _ _ => (fg_name 5 sc_law_hall.nd)) (fun _ _ _ _ _ => fts_nil) (fun _ _ _ _ _ => (f_tup (f_acons (f_var 5) (f_acons f_int f_anil)))))) f_anil)))) f_anil))))))
    (fs_frz 2 (fs_one (fs_ret (f_var 2)))))) fs_nil)
    (fs_one (fs_ret (f_lcBD (own := [("_law_one", 3)]) [.l] rfl sc_law_hall.nd (f_rng1 rfl B.range (f_var 1)) (blkOk_by (N := N_law_hall) (sc := (defScope st_law_hall)) (by decide +kernel)) rfl (fun _ _ _ _ _ => (fg_name 3 sc_law_hall.nd)) (fun _ _ _ _ _ => fts_nil) (fun _ _ _ _ _ => (f_callB 0 (G_law_rule.mono (by first | exact Nat.le_refl _ | decide | omega)) hr (by rfl) (f_acons (f_var 0) (f_acons (f_var 1) (f_acons (f_listRg1 rfl rfl B.list rfl B.range (f_var 1)) (f_acons f_int f_anil))))))))))), okB (m := M_law_hall) fun b ds hl => by
    obtain ⟨rfl⟩ := len0 ds (Nat.succ.inj hl)
    kernel_rfl⟩
/-! ### _law_strewn -/
abbrev st_law_strewn : Stmt := topS 37
abbrev N_law_strewn : List Str := ["_law_box", "_law_pool", "_law_found", "_law_one"]
theorem sc_law_strewn : FnScope N_law_strewn ["_law_box", "_law_pool"] (defScope st_law_strewn) := ⟨rfl, rfl, rfl, by decide +kernel, rfl, by decide +kernel, by decide +kernel⟩
def m_law_strewn_f1 (t4 : List D × List D × Unit) (d3 : D) : Option (List D × List D × Unit) :=
  (lenD (.lst t4.2.1)).bind fun v5 =>
  (addD v5 (.int 1)).bind fun v6 =>
  (m_law_take t4.1 v6).bind fun v7 =>
  (mIns t4.2.1 [v7.1, d3]).bind fun v8 =>
  some (v7.2, v8.2, ())
def m_law_strewn (a_box : List D) (a_pool : D) : Option (D × List D) :=
  (gd 0 (some [])).bind fun v1 =>
  (itD a_pool).bind fun v2 =>
  (loopM (m_law_strewn_f1) v2 (a_box, v1, ())).bind fun v9 =>
  some ((.lst v9.2.1), v9.1)
def M_law_strewn (a_box : List D) (ds : List D) : Option (D × List D) := match ds with
  | [a_pool] => m_law_strewn a_box a_pool
  | _ => none
theorem ln_law_strewn : ∀ b ds v, M_law_strewn b ds = some v → ds.length + 1 = 2 := fun b ds v h => by
  unfold M_law_strewn at h
  split at h
  · rfl
  · cases h
set_option maxHeartbeats 4000000 in
theorem ok_law_strewn {P : Program} {w : World} {K : PySem.W.Frag} {mg : Str → Option Value} {base : Heap} {fa : Addr} {fd : FuncData} (F : Fun K "_law_strewn" "_law_strewn" st_law_strewn fa fd) (B : Bts mg) (G_law_take : GB P w K mg base "_law_take" 1 2 M_law_take) : FnOk P w K mg base CX0 2 fa fd ["_law_box", "_law_pool"] (spD K 2 (fsB M_law_strewn)) := by
  refine fn_ok false F sc_law_strewn rfl fun cdv A outer s H E hr => ⟨_, (fs_cons (fs_set 2 sc_law_strewn.nd (f_lstC f_anil))
    (fs_cons (fs_for [] [3] [.l, .l] PassesOwn.never rfl (f_seq (f_var 1)) (fg_name 3 sc_law_strewn.nd) (fs_one (fs_expr (f_m PySem.F.slot_list_insert PySem.F.type_list_insert mt_insert mts_insD (f_var 2) (f_acons (f_callB 0 (G_law_take.mono (by first | exact Nat.le_refl _ | decide | omega)) hr (by rfl) (f_acons (f_var 0) (f_acons (f_op op_addAll ops_addD (f_cb1 call_lenA cbs_lenD (by rfl) B.len PySem.boot_len (f_var 2)) f_int) f_anil))) (f_acons (f_var 3) f_anil))))))
    (fs_frz 2 (fs_one (fs_ret (f_var 2)))))), okB (m := M_law_strewn) fun b ds hl => by
    obtain ⟨x1, rfl⟩ := len1 ds (Nat.succ.inj hl)
    kernel_rfl⟩
/-! ### _law_flat -/
abbrev st_law_flat : Stmt := topS 42
abbrev N_law_flat : List Str := ["_law_box", "_law_most", "_law_many", "_law_order", "_law_rules", "_law_k", "_law_one"]
theorem sc_law_flat : FnScope N_law_flat ["_law_box", "_law_most"] (defScope st_law_flat) := ⟨rfl, rfl, rfl, by decide +kernel, rfl, by decide +kernel, by decide +kernel⟩
def m_law_flat_f1 (v4 : D × List D) (v2 : D) (t9 : List D × List D × Unit) (d8 : D) : Option (List D × List D × Unit) :=
  (unp [5, 6] d8).bind fun v10 =>
  (intO v10.1).bind fun v11 =>
  (slD none (some v11) v4.1).bind fun v12 =>
  (sorD v12).bind fun v13 =>
  (m_law_rule t9.1 v2 v13 (.int 9)).bind fun v14 =>
  (setO t9.2.1 v10.2.1 v14.1).bind fun v15 =>
  some (v14.2, v15, ())
def m_law_flat (a_box : List D) (a_most : D) : Option (D × List D) :=
  (m_law_take a_box a_most).bind fun v1 =>
  (addD (.int 1) v1.1).bind fun v2 =>
  (rngL1 v2).bind fun v3 =>
  (m_law_strewn v1.2 (.lst v3)).bind fun v4 =>
  (gd 1 (some (.lst [.non]))).bind fun v5 =>
  (mulC v5 v2).bind fun v6 =>
  (enmD v4.1).bind fun v7 =>
  (loopM (m_law_flat_f1 v4 v2) v7 (v4.2, v6, ())).bind fun v16 =>
  some ((.lst v16.2.1), v16.1)
def M_law_flat (a_box : List D) (ds : List D) : Option (D × List D) := match ds with
  | [a_most] => m_law_flat a_box a_most
  | _ => none
theorem ln_law_flat : ∀ b ds v, M_law_flat b ds = some v → ds.length + 1 = 2 := fun b ds v h => by
  unfold M_law_flat at h
  split at h
  · rfl
  · cases h
set_option maxHeartbeats 4000000 in
theorem ok_law_flat {P : Program} {w : World} {K : PySem.W.Frag} {mg : Str → Option Value} {base : Heap} {fa : Addr} {fd : FuncData} (F : Fun K "_law_flat" "_law_flat" st_law_flat fa fd) (B : Bts mg) (G_law_take : GB P w K mg base "_law_take" 1 2 M_law_take) (G_law_strewn : GB P w K mg base "_law_strewn" 2 2 M_law_strewn) (G_law_rule : GB P w K mg base "_law_rule" 3 4 M_law_rule) : FnOk P w K mg base CX0 4 fa fd ["_law_box", "_law_most"] (spD K 2 (fsB M_law_flat)) := by
  refine fn_ok false F sc_law_flat rfl fun cdv A outer s H E hr => ⟨_, (fs_cons (fs_set 2 sc_law_flat.nd (f_op op_addAll ops_addD f_int (f_callB 0 (G_law_take.mono (by first | exact Nat.le_refl _ | decide | omega)) hr (by rfl) (f_acons (f_var 0) (f_acons (f_var 1) f_anil)))))
    (fs_cons (fs_par rfl sc_law_flat.nd (i := 3) (j := 4) rfl rfl (by decide) rfl rfl (f_callB 0 (G_law_strewn.mono (by first | exact Nat.le_refl _ | decide | omega)) hr (by rfl) (f_acons (f_var 0) (f_acons (f_listRg1 rfl rfl B.list rfl B.range (f_var 2)) f_anil))) (f_mulC (f_lst (f_acons f_non f_anil)) (f_var 2)))
    (fs_cons (fs_for [] [5, 6] [.l, .l] PassesOwn.never rfl (f_enum rfl B.enumerate (f_var 3)) (fg_tup rfl (gs_cons 5 sc_law_flat.nd (gs_cons 6 sc_law_flat.nd gs_nil))) (fs_one (fs_asg (f_callB 0 (G_law_rule.mono (by first | exact Nat.le_refl _ | decide | omega)) hr (by rfl) (f_acons (f_var 0) (f_acons (f_var 2) (f_acons (f_cb1 cr_sortedI cbs_sorD (by rfl) B.sorted boot_sorted (f_sl (f_var 3) f_onone (f_osome (f_var 5)))) (f_acons f_int f_anil))))) (fg_sub (f_var 4) (f_var 6)))))
    (fs_frz 4 (fs_one (fs_ret (f_var 4))))))), okB (m := M_law_flat) fun b ds hl => by
    obtain ⟨x1, rfl⟩ := len1 ds (Nat.succ.inj hl)
    kernel_rfl⟩
/-! ### _law_shown -/
abbrev st_law_shown : Stmt := topS 43
abbrev N_law_shown : List Str := ["_law_box", "_law_rules", "_law_way", "_law_found", "_law_rule_here"]
theorem sc_law_shown : FnScope N_law_shown ["_law_box", "_law_rules"] (defScope st_law_shown) := ⟨rfl, rfl, rfl, by decide +kernel, rfl, by decide +kernel, by decide +kernel⟩
def m_law_shown_f1 (v1 : D × List D) (t5 : List D × List D × Unit) (d4 : D) : Option (List D × List D × Unit) :=
  (m_law_take t5.1 (.int 4)).bind fun v6 =>
  (m_law_take v6.2 (.int 20)).bind fun v7 =>
  (powD (.int 10) (.int 6)).bind fun v8 =>
  (m_law_take v7.2 v8).bind fun v9 =>
  (m_law_take v9.2 (.int 3)).bind fun v10 =>
  (gd 5 (some (.lst [v6.1, v7.1, (.int 7), v9.1, v10.1]))).bind fun v11 =>
  (ixD v11 v1.1).bind fun v12 =>
  (mApp t5.2.1 [v12]).bind fun v13 =>
  some (v10.2, v13.2, ())
def m_law_shown (a_box : List D) (a_rules : D) : Option (D × List D) :=
  (m_law_take a_box (.int 5)).bind fun v1 =>
  (gd 0 (some [])).bind fun v2 =>
  (itD a_rules).bind fun v3 =>
  (loopM (m_law_shown_f1 v1) v3 (v1.2, v2, ())).bind fun v14 =>
  (tupD (.lst v14.2.1)).bind fun v15 =>
  some (v15, v14.1)
def M_law_shown (a_box : List D) (ds : List D) : Option (D × List D) := match ds with
  | [a_rules] => m_law_shown a_box a_rules
  | _ => none
theorem ln_law_shown : ∀ b ds v, M_law_shown b ds = some v → ds.length + 1 = 2 := fun b ds v h => by
  unfold M_law_shown at h
  split at h
  · rfl
  · cases h
set_option maxHeartbeats 4000000 in
theorem ok_law_shown {P : Program} {w : World} {K : PySem.W.Frag} {mg : Str → Option Value} {base : Heap} {fa : Addr} {fd : FuncData} (F : Fun K "_law_shown" "_law_shown" st_law_shown fa fd) (B : Bts mg) (G_law_take : GB P w K mg base "_law_take" 1 2 M_law_take) : FnOk P w K mg base CX0 2 fa fd ["_law_box", "_law_rules"] (spD K 2 (fsB M_law_shown)) := by
  refine fn_ok false F sc_law_shown rfl fun cdv A outer s H E hr => ⟨_, (fs_cons (fs_par rfl sc_law_shown.nd (i := 2) (j := 3) rfl rfl (by decide) rfl rfl (f_callB 0 (G_law_take.mono (by first | exact Nat.le_refl _ | decide | omega)) hr (by rfl) (f_acons (f_var 0) (f_acons f_int f_anil))) (f_lstC f_anil))
    (fs_cons (fs_for [] [4] [.l, .l] PassesOwn.never rfl (f_seq (f_var 1)) (fg_name 4 sc_law_shown.nd) (fs_one (fs_expr (f_m PySem.F.slot_list_append PySem.F.type_list_append mt_append mts_appD (f_var 3) (f_acons (f_ix (hu1 hr) (f_lst (f_acons (f_callB 0 (G_law_take.mono (by first | exact Nat.le_refl _ | decide | omega)) hr (by rfl) (f_acons (f_var 0) (f_acons f_int f_anil))) (f_acons (f_callB 0 (G_law_take.mono (by first | exact Nat.le_refl _ | decide | omega)) hr (by rfl) (f_acons (f_var 0) (f_acons f_int f_anil))) (f_acons f_int (f_acons (f_callB 0 (G_law_take.mono (by first | exact Nat.le_refl _ | decide | omega)) hr (by rfl) (f_acons (f_var 0) (f_acons (f_op op_pow ops_iD f_int f_int) f_anil))) (f_acons (f_callB 0 (G_law_take.mono (by first | exact Nat.le_refl _ | decide | omega)) hr (by rfl) (f_acons (f_var 0) (f_acons f_int f_anil))) f_anil)))))) (f_var 2)) f_anil)))))
    (fs_frz 3 (fs_one (fs_ret (f_ct1 call_tupleZ cbs_tupD (by rfl) B.tuple boot_tuple (f_var 3))))))), okB (m := M_law_shown) fun b ds hl => by
    obtain ⟨x1, rfl⟩ := len1 ds (Nat.succ.inj hl)
    kernel_rfl⟩
/-! ### _law_sums_only -/
abbrev st_law_sums_only : Stmt := topS 44
abbrev N_law_sums_only : List Str := ["_law_box", "_law_rules", "_law_rule_here"]
theorem sc_law_sums_only : FnScope N_law_sums_only ["_law_box", "_law_rules"] (defScope st_law_sums_only) := ⟨rfl, rfl, rfl, by decide +kernel, rfl, by decide +kernel, by decide +kernel⟩
def m_law_sums_only_c1 (t3 : List D × Unit) (d2 : D) : Option ((List D × Unit) × Option D) :=
  ((ixD d2 (.int 0)).bind fun v4 =>
  (gd 2 (some (.tup [(.str (Str.ofString "next")), (.str (Str.ofString "free"))]))).bind fun v5 =>
  (inD false v4 v5).bind fun v6 =>
  cond v6 ((m_law_take t3.1 (.int 5)).bind fun v7 =>
  (gd 2 (some (.tup [(.str (Str.ofString "held")), v7.1]))).bind fun v8 =>
  some (v8, (v7.2, ()))) (some (d2, (t3.1, ())))).bind fun v9 =>
  some ((v9.2.1, ()), some v9.1)
def m_law_sums_only (a_box : List D) (a_rules : D) : Option (D × List D) :=
  (itD a_rules).bind fun v1 =>
  (gd v1.length (lcB (m_law_sums_only_c1) v1 (a_box, ()))).bind fun v10 =>
  some ((.lst v10.2), v10.1.1)
def M_law_sums_only (a_box : List D) (ds : List D) : Option (D × List D) := match ds with
  | [a_rules] => m_law_sums_only a_box a_rules
  | _ => none
theorem ln_law_sums_only : ∀ b ds v, M_law_sums_only b ds = some v → ds.length + 1 = 2 := fun b ds v h => by
  unfold M_law_sums_only at h
  split at h
  · rfl
  · cases h
set_option maxHeartbeats 4000000 in
theorem ok_law_sums_only {P : Program} {w : World} {K : PySem.W.Frag} {mg : Str → Option Value} {base : Heap} {fa : Addr} {fd : FuncData} (F : Fun K "_law_sums_only" "_law_sums_only" st_law_sums_only fa fd) (B : Bts mg) (G_law_take : GB P w K mg base "_law_take" 1 2 M_law_take) : FnOk P w K mg base CX0 2 fa fd ["_law_box", "_law_rules"] (spD K 2 (fsB M_law_sums_only)) := by
  refine fn_ok false F sc_law_sums_only rfl fun cdv A outer s H E hr => ⟨_, (fs_one (fs_ret (f_lcBD (own := [("_law_rule_here", 2)]) [.l] rfl sc_law_sums_only.nd (f_seq (f_var 1)) (blkOk_by (N := N_law_sums_only) (sc := (defScope st_law_sums_only)) (by decide +kernel)) rfl (fun _ _ _ _ _ => (fg_name 2 sc_law_sums_only.nd)) (fun _ _ _ _ _ => fts_nil) (fun _ _ _ _ _ => (f_joinB [.l] (f_if (f_tcmp (op_inA (hu65 hr)) ops_inD (f_ix (hu1 hr) (f_var 2) f_int) (f_tup (f_acons f_str (f_acons f_str f_anil))) (by rfl)) (f_tup (f_acons f_str (f_acons (f_callB 0 (G_law_take.mono (by first | exact Nat.le_refl _ | decide | omega)) hr (by rfl) (f_acons (f_var 0) (f_acons f_int f_anil))) f_anil))) (f_var 2))))))), okB (m := M_law_sums_only) fun b ds hl => by
    obtain ⟨x1, rfl⟩ := len1 ds (Nat.succ.inj hl)
    kernel_rfl⟩
/-! ### _law_otherwise -/
abbrev st_law_otherwise : Stmt := topS 45
abbrev N_law_otherwise : List Str := ["_law_box", "_law_shown_here", "_law_numbers", "_law_led", "_law_here", "_law_number"]
theorem sc_law_otherwise : FnScope N_law_otherwise ["_law_box", "_law_shown_here"] (defScope st_law_otherwise) := ⟨rfl, rfl, rfl, by decide +kernel, rfl, by decide +kernel, by decide +kernel⟩
def m_law_otherwise_f1 (t5 : D × List D × (List Key × List D) × Unit) (d4 : D) : Option (D × List D × (List Key × List D) × Unit) :=
  (putO t5.2.2.1 d4 t5.1).bind fun v6 =>
  (addD t5.1 (.int 1)).bind fun v7 =>
  (m_law_take t5.2.1 (.int 4)).bind fun v8 =>
  (m_law_take v8.2 (.int 5000)).bind fun v9 =>
  (gd 3 (some (.lst [(.int 0), v8.1, v9.1]))).bind fun v10 =>
  (m_law_take v9.2 (.int 3)).bind fun v11 =>
  (ixD v10 v11.1).bind fun v12 =>
  (addD v7 v12).bind fun v13 =>
  some (v13, v11.2, v6, ())
def m_law_otherwise_c2 (v14 : D × List D × (List Key × List D) × Unit) (d16 : D) : Option (Option D) :=
  (ixD (.dic v14.2.2.1.1 v14.2.2.1.2) d16).bind fun v18 =>
  some (some v18)
def m_law_otherwise (a_box : List D) (a_shown_here : D) : Option (D × List D) :=
  (sseT a_shown_here).bind fun v1 =>
  (m_law_take a_box (.int 4)).bind fun v2 =>
  (itD v1).bind fun v3 =>
  (loopM (m_law_otherwise_f1) v3 (v2.1, v2.2, ([], []), ())).bind fun v14 =>
  (itD a_shown_here).bind fun v15 =>
  (lcG (m_law_otherwise_c2 v14) v15).bind fun v19 =>
  (tupD (.lst v19)).bind fun v20 =>
  some (v20, v14.2.1)
def M_law_otherwise (a_box : List D) (ds : List D) : Option (D × List D) := match ds with
  | [a_shown_here] => m_law_otherwise a_box a_shown_here
  | _ => none
theorem ln_law_otherwise : ∀ b ds v, M_law_otherwise b ds = some v → ds.length + 1 = 2 := fun b ds v h => by
  unfold M_law_otherwise at h
  split at h
  · rfl
  · cases h
set_option maxHeartbeats 4000000 in
theorem ok_law_otherwise {P : Program} {w : World} {K : PySem.W.Frag} {mg : Str → Option Value} {base : Heap} {fa : Addr} {fd : FuncData} (F : Fun K "_law_otherwise" "_law_otherwise" st_law_otherwise fa fd) (B : Bts mg) (G_law_take : GB P w K mg base "_law_take" 1 2 M_law_take) : FnOk P w K mg base CX0 2 fa fd ["_law_box", "_law_shown_here"] (spD K 2 (fsB M_law_otherwise)) := by
  refine fn_ok false F sc_law_otherwise rfl fun cdv A outer s H E hr => ⟨_, (fs_cons (fs_par3c rfl sc_law_otherwise.nd (i := 2) (j := 3) (l := 4) rfl rfl rfl (f_sorSetT rfl rfl B.sorted rfl B.set (f_var 1)) f_dnewC (f_callB 0 (G_law_take.mono (by first | exact Nat.le_refl _ | decide | omega)) hr (by rfl) (f_acons (f_var 0) (f_acons f_int f_anil))))
    (fs_cons (fs_for [4] [5] [.l, .d] PassesOwn.never rfl (f_seq (f_var 2)) (fg_name 5 sc_law_otherwise.nd) (fs_cons (fs_dput (hu1 hr) (f_var 4) (f_var 3) (f_var 5))
    (fs_one (fs_set 4 sc_law_otherwise.nd (f_op op_addAll ops_addD (f_op op_addAll ops_addD (f_var 4) f_int) (f_ix (hu1 hr) (f_lst (f_acons f_int (f_acons (f_callB 0 (G_law_take.mono (by first | exact Nat.le_refl _ | decide | omega)) hr (by rfl) (f_acons (f_var 0) (f_acons f_int f_anil))) (f_acons (f_callB 0 (G_law_take.mono (by first | exact Nat.le_refl _ | decide | omega)) hr (by rfl) (f_acons (f_var 0) (f_acons f_int f_anil))) f_anil)))) (f_callB 0 (G_law_take.mono (by first | exact Nat.le_refl _ | decide | omega)) hr (by rfl) (f_acons (f_var 0) (f_acons f_int f_anil)))))))))
    (fs_frz 3 (fs_one (fs_ret (f_ct1 call_tupleZ cbs_tupD (by rfl) B.tuple boot_tuple (f_lcD (own := [("_law_number", 5)]) rfl sc_law_otherwise.nd (f_seq (f_var 1)) (blkOk_by (N := N_law_otherwise) (sc := (defScope st_law_otherwise)) (by decide +kernel)) rfl (fun _ _ _ _ _ => (fg_name 5 sc_law_otherwise.nd)) (fun _ _ _ _ _ => fts_nil) (fun _ _ _ _ _ => (f_ix (hu1 hr) (f_var 3) (f_var 5)))))))))), okB (m := M_law_otherwise) fun b ds hl => by
    obtain ⟨x1, rfl⟩ := len1 ds (Nat.succ.inj hl)
    kernel_rfl⟩
/-! ### is_rising -/
abbrev st_is_rising : Stmt := topS 11
abbrev N_is_rising : List Str := ["things", "one", "other"]
theorem sc_is_rising : FnScope N_is_rising ["things"] (defScope st_is_rising) := ⟨rfl, rfl, rfl, by decide +kernel, rfl, by decide +kernel, by decide +kernel⟩
def m_is_rising_c1 (d4 : D) : Option (Option D) :=
  (unp [1, 2] d4).bind fun v6 =>
  (ltD v6.1 v6.2.1).bind fun v7 =>
  some (some (.bl v7))
def m_is_rising (a_things : D) : Option (D) :=
  (intO (.int 1)).bind fun v1 =>
  (slD (some v1) none a_things).bind fun v2 =>
  (zpD a_things v2).bind fun v3 =>
  (lcG (m_is_rising_c1) v3).bind fun v8 =>
  (allD (.lst v8)).bind fun v9 =>
  some v9
def M_is_rising (ds : List D) : Option (D) := match ds with
  | [a_things] => m_is_rising a_things
  | _ => none
theorem ln_is_rising : ∀ ds v, M_is_rising ds = some v → ds.length = 1 := fun ds v h => by
  unfold M_is_rising at h
  split at h
  · rfl
  · cases h
set_option maxHeartbeats 4000000 in
theorem ok_is_rising {P : Program} {w : World} {K : PySem.W.Frag} {mg : Str → Option Value} {base : Heap} {fa : Addr} {fd : FuncData} (F : Fun K "is_rising" "is_rising" st_is_rising fa fd) (B : Bts mg) : FnOk P w K mg base CX0 1 fa fd ["things"] (spD K 1 (fsP M_is_rising)) := by
  refine fn_ok false F sc_is_rising rfl fun cdv A outer s H E hr => ⟨_, (fs_one (fs_ret (f_cb1 (cr_all rfl) cbs_allD (by rfl) B.all boot_all (f_lcD (own := [("one", 1), ("other", 2)]) rfl sc_is_rising.nd (f_zip rfl B.zip (f_var 0) (f_sl (f_var 0) (f_osome f_int) f_onone)) (blkOk_by (N := N_is_rising) (sc := (defScope st_is_rising)) (by decide +kernel)) rfl (fun _ _ _ _ _ => (fg_tup rfl (gs_cons 1 sc_is_rising.nd (gs_cons 2 sc_is_rising.nd gs_nil)))) (fun _ _ _ _ _ => fts_nil) (fun _ _ _ _ _ => (f_cmp (op_ltAll hr.units0) ops_ltD (f_var 1) (f_var 2) (nomark _))))))), okP (m := M_is_rising) fun ds hl => by
    obtain ⟨x0, rfl⟩ := len1 ds hl
    kernel_rfl⟩
/-! ### is_tie -/
abbrev st_is_tie : Stmt := topS 12
abbrev N_is_tie : List Str := ["many", "thing"]
theorem sc_is_tie : FnScope N_is_tie ["many", "thing"] (defScope st_is_tie) := ⟨rfl, rfl, rfl, by decide +kernel, rfl, by decide +kernel, by decide +kernel⟩
def m_is_tie (a_many : D) (a_thing : D) : Option (D) :=
  ((tyO1 "tuple" a_thing).bind fun v1 =>
  (truO (.bl v1)).bind fun v2 =>
  cond (!v2) (some true) ((lenD a_thing).bind fun v3 =>
  (eqD true v3 (.int 2)).bind fun v4 =>
  some v4)).bind fun v5 =>
  cond v5 (some (.bl false)) (((ixD a_thing (.int 0)).bind fun v6 =>
  (m_is_person a_many v6).bind fun v7 =>
  (truO v7).bind fun v8 =>
  cond v8 ((ixD a_thing (.int 1)).bind fun v9 =>
  (m_is_whole v9).bind fun v10 =>
  (truO v10).bind fun v11 =>
  cond v11 ((ixD a_thing (.int 1)).bind fun v12 =>
  (gtD v12 (.int 0)).bind fun v13 =>
  some (.bl v13)) (some v10)) (some v7)).bind fun v14 =>
  some v14)
def M_is_tie (ds : List D) : Option (D) := match ds with
  | [a_many, a_thing] => m_is_tie a_many a_thing
  | _ => none
theorem ln_is_tie : ∀ ds v, M_is_tie ds = some v → ds.length = 2 := fun ds v h => by
  unfold M_is_tie at h
  split at h
  · rfl
  · cases h
set_option maxHeartbeats 4000000 in
theorem ok_is_tie {P : Program} {w : World} {K : PySem.W.Frag} {mg : Str → Option Value} {base : Heap} {fa : Addr} {fd : FuncData} (F : Fun K "is_tie" "is_tie" st_is_tie fa fd) (B : Bts mg) (G_is_person : GP P w K mg base "is_person" 2 2 M_is_person) (G_is_whole : GP P w K mg base "is_whole" 1 1 M_is_whole) : FnOk P w K mg base CX0 3 fa fd ["many", "thing"] (spD K 2 (fsP M_is_tie)) := by
  refine fn_ok false F sc_is_tie rfl fun cdv A outer s H E hr => ⟨_, (fs_cons (fs_if (f_join (PW.pt (f_or (f_not (f_tru (f_isi "tuple" (by unfold kT; simp) rfl B.isinstance (f_var 1) rfl B.tuple boot_tuple))) (f_or1 (f_tcmp (op_neAll (hu64 hr)) ops_neD (f_cb1 call_lenA cbs_lenD (by rfl) B.len PySem.boot_len (f_var 1)) f_int (nomark _)))))) (fs_one (fs_ret f_bl)) fs_nil)
    (fs_one (fs_ret (f_joinD (f_andE (f_call (G_is_person.mono (by first | exact Nat.le_refl _ | decide | omega)) hr (by rfl) (f_acons (f_var 0) (f_acons (f_ix (hu1 hr) (f_var 1) f_int) f_anil))) (f_andE (f_call (G_is_whole.mono (by first | exact Nat.le_refl _ | decide | omega)) hr (by rfl) (f_acons (f_ix (hu1 hr) (f_var 1) f_int) f_anil)) (f_one (f_cmp op_gt ops_bD (f_ix (hu1 hr) (f_var 1) f_int) f_int (nomark _))))))))), okP (m := M_is_tie) fun ds hl => by
    obtain ⟨x0, x1, rfl⟩ := len2 ds hl
    kernel_rfl⟩
/-! ### are_ties -/
abbrev st_are_ties : Stmt := topS 13
abbrev N_are_ties : List Str := ["many", "thing", "person", "weight", "tie"]
theorem sc_are_ties : FnScope N_are_ties ["many", "thing"] (defScope st_are_ties) := ⟨rfl, rfl, rfl, by decide +kernel, rfl, by decide +kernel, by decide +kernel⟩
def m_are_ties_c1 (a_many : D) (d4 : D) : Option (Option D) :=
  (m_is_tie a_many d4).bind fun v6 =>
  some (some v6)
def m_are_ties_c2 (d12 : D) : Option (Option D) :=
  (unp [2, 3] d12).bind fun v14 =>
  some (some v14.1)
def m_are_ties (a_many : D) (a_thing : D) : Option (D) :=
  ((tyO1 "tuple" a_thing).bind fun v1 =>
  (truO (.bl v1)).bind fun v2 =>
  cond (!v2) (some true) ((itD a_thing).bind fun v3 =>
  (lcG (m_are_ties_c1 a_many) v3).bind fun v7 =>
  (allD (.lst v7)).bind fun v8 =>
  (truO v8).bind fun v9 =>
  some (!v9))).bind fun v10 =>
  cond v10 (some (.bl false)) ((itD a_thing).bind fun v11 =>
  (lcG (m_are_ties_c2) v11).bind fun v15 =>
  (m_is_rising (.lst v15)).bind fun v16 =>
  some v16)
def M_are_ties (ds : List D) : Option (D) := match ds with
  | [a_many, a_thing] => m_are_ties a_many a_thing
  | _ => none
theorem ln_are_ties : ∀ ds v, M_are_ties ds = some v → ds.length = 2 := fun ds v h => by
  unfold M_are_ties at h
  split at h
  · rfl
  · cases h
set_option maxHeartbeats 4000000 in
theorem ok_are_ties {P : Program} {w : World} {K : PySem.W.Frag} {mg : Str → Option Value} {base : Heap} {fa : Addr} {fd : FuncData} (F : Fun K "are_ties" "are_ties" st_are_ties fa fd) (B : Bts mg) (G_is_rising : GP P w K mg base "is_rising" 1 1 M_is_rising) (G_is_tie : GP P w K mg base "is_tie" 3 2 M_is_tie) : FnOk P w K mg base CX0 4 fa fd ["many", "thing"] (spD K 2 (fsP M_are_ties)) := by
  refine fn_ok false F sc_are_ties rfl fun cdv A outer s H E hr => ⟨_, (fs_cons (fs_if (f_join (PW.pt (f_or (f_not (f_tru (f_isi "tuple" (by unfold kT; simp) rfl B.isinstance (f_var 1) rfl B.tuple boot_tuple))) (f_or1 (f_not (f_tru (f_cb1 (cr_all rfl) cbs_allD (by rfl) B.all boot_all (f_lcD (own := [("tie", 4)]) rfl sc_are_ties.nd (f_seq (f_var 1)) (blkOk_by (N := N_are_ties) (sc := (defScope st_are_ties)) (by decide +kernel)) rfl (fun _ _ _ _ _ => (fg_name 4 sc_are_ties.nd)) (fun _ _ _ _ _ => fts_nil) (fun _ _ _ _ _ => (f_call (G_is_tie.mono (by first | exact Nat.le_refl _ | decide | omega)) hr (by rfl) (f_acons (f_var 0) (f_acons (f_var 4) f_anil)))))))))))) (fs_one (fs_ret f_bl)) fs_nil)
    (fs_one (fs_ret (f_call (G_is_rising.mono (by first | exact Nat.le_refl _ | decide | omega)) hr (by rfl) (f_acons (f_lcD (own := [("person", 2), ("weight", 3)]) rfl sc_are_ties.nd (f_seq (f_var 1)) (blkOk_by (N := N_are_ties) (sc := (defScope st_are_ties)) (by decide +kernel)) rfl (fun _ _ _ _ _ => (fg_tup rfl (gs_cons 2 sc_are_ties.nd (gs_cons 3 sc_are_ties.nd gs_nil)))) (fun _ _ _ _ _ => fts_nil) (fun _ _ _ _ _ => (f_var 2))) f_anil))))), okP (m := M_are_ties) fun ds hl => by
    obtain ⟨x0, x1, rfl⟩ := len2 ds hl
    kernel_rfl⟩
/-! ### are_seen -/
abbrev st_are_seen : Stmt := topS 14
abbrev N_are_seen : List Str := ["many", "thing", "person"]
theorem sc_are_seen : FnScope N_are_seen ["many", "thing"] (defScope st_are_seen) := ⟨rfl, rfl, rfl, by decide +kernel, rfl, by decide +kernel, by decide +kernel⟩
def m_are_seen_c1 (a_many : D) (d4 : D) : Option (Option D) :=
  (m_is_person a_many d4).bind fun v6 =>
  some (some v6)
def m_are_seen (a_many : D) (a_thing : D) : Option (D) :=
  ((tyO1 "tuple" a_thing).bind fun v1 =>
  (truO (.bl v1)).bind fun v2 =>
  cond v2 ((itD a_thing).bind fun v3 =>
  (lcG (m_are_seen_c1 a_many) v3).bind fun v7 =>
  (allD (.lst v7)).bind fun v8 =>
  (truO v8).bind fun v9 =>
  cond v9 ((m_is_rising a_thing).bind fun v10 =>
  some v10) (some v8)) (some (.bl v1))).bind fun v11 =>
  some v11
def M_are_seen (ds : List D) : Option (D) := match ds with
  | [a_many, a_thing] => m_are_seen a_many a_thing
  | _ => none
theorem ln_are_seen : ∀ ds v, M_are_seen ds = some v → ds.length = 2 := fun ds v h => by
  unfold M_are_seen at h
  split at h
  · rfl
  · cases h
set_option maxHeartbeats 4000000 in
theorem ok_are_seen {P : Program} {w : World} {K : PySem.W.Frag} {mg : Str → Option Value} {base : Heap} {fa : Addr} {fd : FuncData} (F : Fun K "are_seen" "are_seen" st_are_seen fa fd) (B : Bts mg) (G_is_rising : GP P w K mg base "is_rising" 1 1 M_is_rising) (G_is_person : GP P w K mg base "is_person" 2 2 M_is_person) : FnOk P w K mg base CX0 3 fa fd ["many", "thing"] (spD K 2 (fsP M_are_seen)) := by
  refine fn_ok false F sc_are_seen rfl fun cdv A outer s H E hr => ⟨_, (fs_one (fs_ret (f_joinD (f_andE (f_isi "tuple" (by unfold kT; simp) rfl B.isinstance (f_var 1) rfl B.tuple boot_tuple) (f_andE (f_cb1 (cr_all rfl) cbs_allD (by rfl) B.all boot_all (f_lcD (own := [("person", 2)]) rfl sc_are_seen.nd (f_seq (f_var 1)) (blkOk_by (N := N_are_seen) (sc := (defScope st_are_seen)) (by decide +kernel)) rfl (fun _ _ _ _ _ => (fg_name 2 sc_are_seen.nd)) (fun _ _ _ _ _ => fts_nil) (fun _ _ _ _ _ => (f_call (G_is_person.mono (by first | exact Nat.le_refl _ | decide | omega)) hr (by rfl) (f_acons (f_var 0) (f_acons (f_var 2) f_anil)))))) (f_one (f_call (G_is_rising.mono (by first | exact Nat.le_refl _ | decide | omega)) hr (by rfl) (f_acons (f_var 1) f_anil)))))))), okP (m := M_are_seen) fun ds hl => by
    obtain ⟨x0, x1, rfl⟩ := len2 ds hl
    kernel_rfl⟩
/-! ### is_rule -/
abbrev st_is_rule : Stmt := topS 15
abbrev N_is_rule : List Str := ["many", "thing", "word", "parts"]
theorem sc_is_rule : FnScope N_is_rule ["many", "thing"] (defScope st_is_rule) := ⟨rfl, rfl, rfl, by decide +kernel, rfl, by decide +kernel, by decide +kernel⟩
def m_is_rule (a_many : D) (a_thing : D) : Option (D) :=
  ((tyO1 "tuple" a_thing).bind fun v1 =>
  (truO (.bl v1)).bind fun v2 =>
  cond (!v2) (some true) ((lenD a_thing).bind fun v3 =>
  (eqD false v3 (.int 0)).bind fun v4 =>
  cond v4 (some true) ((ixD a_thing (.int 0)).bind fun v5 =>
  (tyO1 "str" v5).bind fun v6 =>
  (truO (.bl v6)).bind fun v7 =>
  some (!v7)))).bind fun v8 =>
  cond v8 (some (.bl false)) ((unpS a_thing).bind fun v9 =>
  (kgetO tab_SIZES v9.1 (.int 0)).bind fun v10 =>
  (lenD a_thing).bind fun v11 =>
  (eqD true v10 v11).bind fun v12 =>
  cond v12 (some (.bl false)) ((eqD false v9.1 (.str (Str.ofString "held"))).bind fun v13 =>
  cond v13 ((ixD (.lst v9.2) (.int 0)).bind fun v14 =>
  (m_is_whole v14).bind fun v15 =>
  some v15) ((gd 2 (some (.tup [(.str (Str.ofString "next")), (.str (Str.ofString "free"))]))).bind fun v16 =>
  (inD false v9.1 v16).bind fun v17 =>
  cond v17 ((ixD (.lst v9.2) (.int 0)).bind fun v18 =>
  (m_are_seen a_many v18).bind fun v19 =>
  some v19) ((eqD false v9.1 (.str (Str.ofString "kinds"))).bind fun v20 =>
  cond v20 (((ixD (.lst v9.2) (.int 0)).bind fun v21 =>
  (m_is_whole v21).bind fun v22 =>
  (truO v22).bind fun v23 =>
  cond v23 ((ixD (.lst v9.2) (.int 1)).bind fun v24 =>
  (m_are_seen a_many v24).bind fun v25 =>
  some v25) (some v22)).bind fun v26 =>
  some v26) (((ixD (.lst v9.2) (.int 0)).bind fun v27 =>
  (m_is_whole v27).bind fun v28 =>
  (truO v28).bind fun v29 =>
  cond v29 ((ixD (.lst v9.2) (.int 1)).bind fun v30 =>
  (m_are_ties a_many v30).bind fun v31 =>
  (truO v31).bind fun v32 =>
  cond v32 (((eqD false v9.1 (.str (Str.ofString "sum"))).bind fun v33 =>
  (truO (.bl v33)).bind fun v34 =>
  cond v34 (some (.bl v33)) ((ixD (.lst v9.2) (.int 2)).bind fun v35 =>
  (m_is_whole v35).bind fun v36 =>
  some v36)).bind fun v37 =>
  some v37) (some v31)) (some v28)).bind fun v38 =>
  some v38)))))
def M_is_rule (ds : List D) : Option (D) := match ds with
  | [a_many, a_thing] => m_is_rule a_many a_thing
  | _ => none
theorem ln_is_rule : ∀ ds v, M_is_rule ds = some v → ds.length = 2 := fun ds v h => by
  unfold M_is_rule at h
  split at h
  · rfl
  · cases h
set_option maxHeartbeats 4000000 in
theorem ok_is_rule {P : Program} {w : World} {K : PySem.W.Frag} {mg : Str → Option Value} {base : Heap} {fa : Addr} {fd : FuncData} (F : Fun K "is_rule" "is_rule" st_is_rule fa fd) (B : Bts mg) (G_is_whole : GP P w K mg base "is_whole" 1 1 M_is_whole) (G_are_seen : GP P w K mg base "are_seen" 3 2 M_are_seen) (G_are_ties : GP P w K mg base "are_ties" 4 2 M_are_ties) {t_FREE : Tok} (g_FREE : mg "FREE" = some (.str (Str.ofString "free") t_FREE)) {t_HELD : Tok} (g_HELD : mg "HELD" = some (.str (Str.ofString "held") t_HELD)) {t_KINDS : Tok} (g_KINDS : mg "KINDS" = some (.str (Str.ofString "kinds") t_KINDS)) {t_NEXT : Tok} (g_NEXT : mg "NEXT" = some (.str (Str.ofString "next") t_NEXT)) {t_SUM : Tok} (g_SUM : mg "SUM" = some (.str (Str.ofString "sum") t_SUM)) {p_SIZES : Addr} (g_SIZES : mg "SIZES" = some (.ref p_SIZES)) (k_SIZES : KDg K w p_SIZES tab_SIZES) : FnOk P w K mg base CX0 5 fa fd ["many", "thing"] (spD K 2 (fsP M_is_rule)) := by
  refine fn_ok false F sc_is_rule rfl fun cdv A outer s H E hr => ⟨_, (fs_cons (fs_if (f_join (PW.pt (f_or (f_not (f_tru (f_isi "tuple" (by unfold kT; simp) rfl B.isinstance (f_var 1) rfl B.tuple boot_tuple))) (f_or (f_tcmp (op_eqAll (hu64 hr)) ops_eqD (f_cb1 call_lenA cbs_lenD (by rfl) B.len PySem.boot_len (f_var 1)) f_int (nomark _)) (f_or1 (f_not (f_tru (f_isi "str" (by unfold kT; simp) rfl B.isinstance (f_ix (hu1 hr) (f_var 1) f_int) rfl B.str boot_str)))))))) (fs_one (fs_ret f_bl)) fs_nil)
    (fs_cons (fs_star 2 3 rfl sc_is_rule.nd (by decide) (f_var 1))
    (fs_cons (fs_if (f_tcmp (op_neAll (hu64 hr)) ops_neD (f_kget rfl g_SIZES k_SIZES (f_var 2) f_int ⟨rfl, rfl, rfl, rfl⟩) (f_cb1 call_lenA cbs_lenD (by rfl) B.len PySem.boot_len (f_var 1)) (nomark _)) (fs_one (fs_ret f_bl)) fs_nil)
    (fs_cons (fs_if (f_tcmp (op_eqAll (hu64 hr)) ops_eqD (f_var 2) (f_gstr rfl g_HELD) (nomark _)) (fs_one (fs_ret (f_call (G_is_whole.mono (by first | exact Nat.le_refl _ | decide | omega)) hr (by rfl) (f_acons (f_ix (hu1 hr) (f_var 3) f_int) f_anil)))) fs_nil)
    (fs_cons (fs_if (f_tcmp (op_inA (hu65 hr)) ops_inD (f_var 2) (f_tup (f_acons (f_gstr rfl g_NEXT) (f_acons (f_gstr rfl g_FREE) f_anil))) (by rfl)) (fs_one (fs_ret (f_call (G_are_seen.mono (by first | exact Nat.le_refl _ | decide | omega)) hr (by rfl) (f_acons (f_var 0) (f_acons (f_ix (hu1 hr) (f_var 3) f_int) f_anil))))) fs_nil)
    (fs_cons (fs_if (f_tcmp (op_eqAll (hu64 hr)) ops_eqD (f_var 2) (f_gstr rfl g_KINDS) (nomark _)) (fs_one (fs_ret (f_joinD (f_andE (f_call (G_is_whole.mono (by first | exact Nat.le_refl _ | decide | omega)) hr (by rfl) (f_acons (f_ix (hu1 hr) (f_var 3) f_int) f_anil)) (f_one (f_call (G_are_seen.mono (by first | exact Nat.le_refl _ | decide | omega)) hr (by rfl) (f_acons (f_var 0) (f_acons (f_ix (hu1 hr) (f_var 3) f_int) f_anil)))))))) fs_nil)
    (fs_one (fs_ret (f_joinD (f_andE (f_call (G_is_whole.mono (by first | exact Nat.le_refl _ | decide | omega)) hr (by rfl) (f_acons (f_ix (hu1 hr) (f_var 3) f_int) f_anil)) (f_andE (f_call (G_are_ties.mono (by first | exact Nat.le_refl _ | decide | omega)) hr (by rfl) (f_acons (f_var 0) (f_acons (f_ix (hu1 hr) (f_var 3) f_int) f_anil))) (f_one (f_joinD (f_orE (f_cmp (op_eqAll (hu64 hr)) ops_eqD (f_var 2) (f_gstr rfl g_SUM) (nomark _)) (f_one (f_call (G_is_whole.mono (by first | exact Nat.le_refl _ | decide | omega)) hr (by rfl) (f_acons (f_ix (hu1 hr) (f_var 3) f_int) f_anil))))))))))))))))), okP (m := M_is_rule) fun ds hl => by
    obtain ⟨x0, x1, rfl⟩ := len2 ds hl
    kernel_rfl⟩
/-! ### ties_of -/
abbrev st_ties_of : Stmt := topS 16
abbrev N_ties_of : List Str := ["rule", "person"]
theorem sc_ties_of : FnScope N_ties_of ["rule"] (defScope st_ties_of) := ⟨rfl, rfl, rfl, by decide +kernel, rfl, by decide +kernel, by decide +kernel⟩
def m_ties_of_c1 (d11 : D) : Option (Option D) :=
  (gd 2 (some (.tup [d11, (.int 1)]))).bind fun v13 =>
  some (some v13)
def m_ties_of (a_rule : D) : Option (D) :=
  (ixD a_rule (.int 0)).bind fun v1 =>
  (eqD false v1 (.str (Str.ofString "held"))).bind fun v2 =>
  cond v2 ((gd 0 (some (.tup []))).bind fun v3 =>
  some v3) ((ixD a_rule (.int 0)).bind fun v4 =>
  (gd 2 (some (.tup [(.str (Str.ofString "sum")), (.str (Str.ofString "cap"))]))).bind fun v5 =>
  (inD false v4 v5).bind fun v6 =>
  cond v6 ((ixD a_rule (.int 2)).bind fun v7 =>
  some v7) ((negO (.int 1)).bind fun v8 =>
  (ixD a_rule v8).bind fun v9 =>
  (itD v9).bind fun v10 =>
  (lcG (m_ties_of_c1) v10).bind fun v14 =>
  (tupD (.lst v14)).bind fun v15 =>
  some v15))
def M_ties_of (ds : List D) : Option (D) := match ds with
  | [a_rule] => m_ties_of a_rule
  | _ => none
theorem ln_ties_of : ∀ ds v, M_ties_of ds = some v → ds.length = 1 := fun ds v h => by
  unfold M_ties_of at h
  split at h
  · rfl
  · cases h
set_option maxHeartbeats 4000000 in
theorem ok_ties_of {P : Program} {w : World} {K : PySem.W.Frag} {mg : Str → Option Value} {base : Heap} {fa : Addr} {fd : FuncData} (F : Fun K "ties_of" "ties_of" st_ties_of fa fd) (B : Bts mg) {t_CAP : Tok} (g_CAP : mg "CAP" = some (.str (Str.ofString "cap") t_CAP)) {t_HELD : Tok} (g_HELD : mg "HELD" = some (.str (Str.ofString "held") t_HELD)) {t_SUM : Tok} (g_SUM : mg "SUM" = some (.str (Str.ofString "sum") t_SUM)) : FnOk P w K mg base CX0 1 fa fd ["rule"] (spD K 1 (fsP M_ties_of)) := by
  refine fn_ok false F sc_ties_of rfl fun cdv A outer s H E hr => ⟨_, (fs_cons (fs_if (f_tcmp (op_eqAll (hu64 hr)) ops_eqD (f_ix (hu1 hr) (f_var 0) f_int) (f_gstr rfl g_HELD) (nomark _)) (fs_one (fs_ret (f_tup f_anil))) fs_nil)
    (fs_cons (fs_if (f_tcmp (op_inA (hu65 hr)) ops_inD (f_ix (hu1 hr) (f_var 0) f_int) (f_tup (f_acons (f_gstr rfl g_SUM) (f_acons (f_gstr rfl g_CAP) f_anil))) (by rfl)) (fs_one (fs_ret (f_ix (hu1 hr) (f_var 0) f_int))) fs_nil)
    (fs_one (fs_ret (f_ct1 call_tupleZ cbs_tupD (by rfl) B.tuple boot_tuple (f_lcD (own := [("person", 1)]) rfl sc_ties_of.nd (f_seq (f_ix (hu1 hr) (f_var 0) (f_neg f_int))) (blkOk_by (N := N_ties_of) (sc := (defScope st_ties_of)) (by decide +kernel)) rfl (fun _ _ _ _ _ => (fg_name 1 sc_ties_of.nd)) (fun _ _ _ _ _ => fts_nil) (fun _ _ _ _ _ => (f_tup (f_acons (f_var 1) (f_acons f_int f_anil)))))))))), okP (m := M_ties_of) fun ds hl => by
    obtain ⟨x0, rfl⟩ := len1 ds hl
    kernel_rfl⟩
/-! ### seen_by -/
abbrev st_seen_by : Stmt := topS 17
abbrev N_seen_by : List Str := ["rule", "person", "weight"]
theorem sc_seen_by : FnScope N_seen_by ["rule"] (defScope st_seen_by) := ⟨rfl, rfl, rfl, by decide +kernel, rfl, by decide +kernel, by decide +kernel⟩
def m_seen_by_c1 (d3 : D) : Option (Option D) :=
  (unp [1, 2] d3).bind fun v5 =>
  some (some v5.1)
def m_seen_by (a_rule : D) : Option (D) :=
  (m_ties_of a_rule).bind fun v1 =>
  (itD v1).bind fun v2 =>
  (lcG (m_seen_by_c1) v2).bind fun v6 =>
  some (.lst v6)
def M_seen_by (ds : List D) : Option (D) := match ds with
  | [a_rule] => m_seen_by a_rule
  | _ => none
theorem ln_seen_by : ∀ ds v, M_seen_by ds = some v → ds.length = 1 := fun ds v h => by
  unfold M_seen_by at h
  split at h
  · rfl
  · cases h
set_option maxHeartbeats 4000000 in
theorem ok_seen_by {P : Program} {w : World} {K : PySem.W.Frag} {mg : Str → Option Value} {base : Heap} {fa : Addr} {fd : FuncData} (F : Fun K "seen_by" "seen_by" st_seen_by fa fd) (B : Bts mg) (G_ties_of : GP P w K mg base "ties_of" 1 1 M_ties_of) : FnOk P w K mg base CX0 2 fa fd ["rule"] (spD K 1 (fsP M_seen_by)) := by
  refine fn_ok false F sc_seen_by rfl fun cdv A outer s H E hr => ⟨_, (fs_one (fs_ret (f_lcD (own := [("person", 1), ("weight", 2)]) rfl sc_seen_by.nd (f_seq (f_call (G_ties_of.mono (by first | exact Nat.le_refl _ | decide | omega)) hr (by rfl) (f_acons (f_var 0) f_anil))) (blkOk_by (N := N_seen_by) (sc := (defScope st_seen_by)) (by decide +kernel)) rfl (fun _ _ _ _ _ => (fg_tup rfl (gs_cons 1 sc_seen_by.nd (gs_cons 2 sc_seen_by.nd gs_nil)))) (fun _ _ _ _ _ => fts_nil) (fun _ _ _ _ _ => (f_var 1))))), okP (m := M_seen_by) fun ds hl => by
    obtain ⟨x0, rfl⟩ := len1 ds hl
    kernel_rfl⟩
/-! ### Hall.__init__ -/
abbrev st_Hall_init__ : Stmt := inClass (topS 32) 0
abbrev N_Hall_init__ : List Str := ["self", "rules", "person", "rule"]
theorem sc_Hall_init__ : FnScope N_Hall_init__ ["self", "rules"] (defScope st_Hall_init__) := ⟨rfl, rfl, rfl, by decide +kernel, rfl, by decide +kernel, by decide +kernel⟩
def m_Hall_init___f1 (cl_Hall : Addr) (t6 : (Addr × (D × Unit)) × Unit) (d5 : D) : Option ((Addr × (D × Unit)) × Unit) :=
  (unp [2, 3] d5).bind fun v7 =>
  (chkA cl_Hall t6.1.1).bind fun v8 =>
  (lenD t6.1.2.1).bind fun v9 =>
  (m_is_rule v9 v7.2.1).bind fun v10 =>
  (truO v10).bind fun v11 =>
  cond (!v11) (none) (some ((t6.1.1, (t6.1.2.1, ())), ()))
def m_Hall_init___c2 (d15 : D) : Option (Option D) :=
  (m_seen_by d15).bind fun v17 =>
  some (some v17)
def m_Hall_init__ (cl_Hall : Addr) (C : Addr) (a_rules : D) : Option (Addr × (D × D × Unit)) :=
  (tupD a_rules).bind fun v1 =>
  (chkA cl_Hall C).bind fun v2 =>
  (chkA cl_Hall C).bind fun v3 =>
  (enmD v1).bind fun v4 =>
  (loopM (m_Hall_init___f1 cl_Hall) v4 ((C, (v1, ())), ())).bind fun v12 =>
  (chkA cl_Hall v12.1.1).bind fun v13 =>
  (itD v12.1.2.1).bind fun v14 =>
  (lcG (m_Hall_init___c2) v14).bind fun v18 =>
  (chkA cl_Hall v12.1.1).bind fun v19 =>
  some (v12.1.1, (v12.1.2.1, ((.lst v18), ())))
def M_Hall_init__ (cl_Hall : Addr) (C : Addr) (ds : List D) : Option (Addr × TN ["own_rules", "own_seen"]) := match ds with
  | [a_rules] => m_Hall_init__ cl_Hall C a_rules
  | _ => none
theorem ln_Hall_init__ (cl_Hall : Addr) : ∀ c ds v, M_Hall_init__ cl_Hall c ds = some v → ds.length + 1 = 2 := fun c ds v h => by
  match ds, h with
  | [_], _ => rfl
  | [], h => cases h
  | _ :: _ :: _, h => cases h
set_option maxHeartbeats 4000000 in
theorem ok_Hall_init__ {P : Program} {w : World} {K : PySem.W.Frag} {mg : Str → Option Value} {base : Heap} {fa : Addr} {fd : FuncData} (F : Fun K "__init__" "Hall.__init__" st_Hall_init__ fa fd) (B : Bts mg) {cl_Hall : Addr} (T_Hall : Txt_Hall K cl_Hall) (G_seen_by : GP P w K mg base "seen_by" 2 1 M_seen_by) (G_is_rule : GP P w K mg base "is_rule" 5 2 M_is_rule) : FnOk P w K mg base CX0 6 fa fd ["self", "rules"] (spD K 2 (fsI ["own_rules", "own_seen"] (M_Hall_init__ cl_Hall))) := by
  refine fn_ok false F sc_Hall_init__ rfl fun cdv A outer s H E hr => ⟨_, (fs_cons (fs_fst T_Hall.cl T_Hall.n_own_rules (f_ct1 call_tupleZ cbs_tupD (by rfl) B.tuple boot_tuple (f_var 1)) (f_var 0))
    (fs_cons (fs_for [] [2, 3] [(.o ["own_rules"])] PassesOwn.never rfl (f_enum rfl B.enumerate (f_fldC T_Hall.cl T_Hall.n_own_rules (f_var 0))) (fg_tup rfl (gs_cons 2 sc_Hall_init__.nd (gs_cons 3 sc_Hall_init__.nd gs_nil))) (fs_one (fs_if (f_not (f_tru (f_call (G_is_rule.mono (by first | exact Nat.le_refl _ | decide | omega)) hr (by rfl) (f_acons (f_cb1 call_lenA cbs_lenD (by rfl) B.len PySem.boot_len (f_fldC T_Hall.cl T_Hall.n_own_rules (f_var 0))) (f_acons (f_var 3) f_anil))))) (fs_one fs_no) fs_nil)))
    (fs_one (fs_fst T_Hall.cl T_Hall.n_own_seen (f_lcD (own := [("rule", 3)]) rfl sc_Hall_init__.nd (f_seq (f_fldC T_Hall.cl T_Hall.n_own_rules (f_var 0))) (blkOk_by (N := N_Hall_init__) (sc := (defScope st_Hall_init__)) (by decide +kernel)) rfl (fun _ _ _ _ _ => (fg_name 3 sc_Hall_init__.nd)) (fun _ _ _ _ _ => fts_nil) (fun _ _ _ _ _ => (f_call (G_seen_by.mono (by first | exact Nat.le_refl _ | decide | omega)) hr (by rfl) (f_acons (f_var 3) f_anil)))) (f_var 0))))), okI (ns := ["own_rules", "own_seen"]) (m := (M_Hall_init__ cl_Hall)) fun c ds hl => by
    obtain ⟨x1, rfl⟩ := len1 ds (Nat.succ.inj hl)
    kernel_rfl⟩
end K7
namespace Hm
open PySem PySem.Spec PyProof.Rows L2 Gd Ge
/-! ### only the order counts -/
/-- told by whom, not by what they show -/
def Rule.plain : Rule → Prop
  | .next _ => False
  | .free _ => False
  | _ => True
/-- led over: the same order -/
def Led (f : Nat → Nat) (a : List Nat) : Prop := ∀ x ∈ a, ∀ y ∈ a, x < y → f x < f y
theorem Led.iff {f : Nat → Nat} {a : List Nat} (h : Led f a) {x y : Nat} (hx : x ∈ a) (hy : y ∈ a) : f x < f y ↔ x < y := by
  constructor
  · intro g
    rcases Nat.lt_trichotomy x y with c | c | c
    · exact c
    · subst c; omega
    · have := h y hy x hx c
      omega
  · exact h x hx y hy
theorem Led.inj {f : Nat → Nat} {a : List Nat} (h : Led f a) {x y : Nat} (hx : x ∈ a) (hy : y ∈ a) (e : f x = f y) : x = y := by
  rcases Nat.lt_trichotomy x y with c | c | c
  · have := h x hx y hy c
    omega
  · exact c
  · have := h y hy x hx c
    omega
theorem sg_mem {a : List Nat} {p : Nat} (h : p < a.length) : sg a p ∈ a := List.mem_of_getElem? (sg_get h)
theorem sg_map (f : Nat → Nat) {a : List Nat} {p : Nat} (h : p < a.length) : sg (a.map f) p = f (sg a p) := by
  have e := sg_get (st := a.map f) (p := p) (by rw [List.length_map]; exact h)
  rw [List.getElem?_map, sg_get h] at e
  exact (Option.some.inj e).symm
theorem lot_map {f : Nat → Nat} {a : List Nat} (hf : Led f a) {p : Nat} (hp : p < a.length) : ∀ {ps : List Nat}, (∀ o ∈ ps, o < a.length) → lotAt ps (a.map f) (sg (a.map f) p) = (lotAt ps a (sg a p)).map fun q => (q.1, f q.2)
  | [], _ => rfl
  | o :: ps, h => by
    have ih := lot_map hf hp (ps := ps) fun q hq => h q (List.mem_cons_of_mem _ hq)
    have ho := h o (List.mem_cons_self ..)
    unfold lotAt at ih ⊢
    rw [List.filterMap_cons, List.filterMap_cons]
    by_cases c : sg a o < sg a p
    · rw [if_pos c, if_pos (by rw [sg_map f ho, sg_map f hp]; exact (hf.iff (sg_mem ho) (sg_mem hp)).mpr c)]
      show _ :: _ = _ :: _
      rw [ih, sg_map f ho]
    · rw [if_neg c, if_neg (by rw [sg_map f ho, sg_map f hp]; exact fun z => c ((hf.iff (sg_mem ho) (sg_mem hp)).mp z))]
      exact ih
theorem lot_in {a : List Nat} {m : Nat} {ps : List Nat} (h : ∀ o ∈ ps, o < a.length) : ∀ q ∈ lotAt ps a m, q.2 ∈ a := fun q hq => by
  obtain ⟨o, ho, e⟩ := List.mem_filterMap.mp hq
  split at e
  · cases e
    exact sg_mem (h o ho)
  · cases e
theorem kinds_map {f : Nat → Nat} {ns : List Nat} (h : ∀ x ∈ ns, ∀ y ∈ ns, f x = f y → x = y) : kinds (ns.map f) = kinds ns := by
  rw [← kinds_of (ks := (lows ns).map f) (ns := ns.map f), List.length_map, lows_len]
  · refine List.Pairwise.map f (R := fun x y => x ≠ y ∧ x ∈ ns ∧ y ∈ ns) (fun x y hxy e => hxy.1 (h x hxy.2.1 y hxy.2.2 e)) ?_
    refine List.Pairwise.imp_of_mem (R := fun x y => x < y) (fun {x y} hx hy hxy => ⟨Nat.ne_of_lt hxy, (lows_mem x).mp hx, (lows_mem y).mp hy⟩) (lows_rise ns)
  · intro k
    rw [List.mem_map, List.mem_map]
    constructor
    · rintro ⟨x, hx, e⟩
      exact ⟨x, (lows_mem x).mp hx, e⟩
    · rintro ⟨x, hx, e⟩
      exact ⟨x, (lows_mem x).mpr hx, e⟩
theorem tells_led {f : Nat → Nat} {a : List Nat} (hf : Led f a) {r : Rule} (hr : r.plain) {lot : List (Nat × Nat)} (hl : ∀ q ∈ lot, q.2 ∈ a) : r.tells (lot.map fun q => (q.1, f q.2)) = r.tells lot := by
  cases r with
  | held c => rfl
  | kinds c ps =>
    show c + kinds (((lot.map fun q => (q.1, f q.2)).map Prod.snd)) = c + kinds (lot.map Prod.snd)
    have e : (lot.map fun q : Nat × Nat => (q.1, f q.2)).map Prod.snd = (lot.map Prod.snd).map f := by
      rw [List.map_map, List.map_map]
      rfl
    rw [e, kinds_map]
    intro x hx y hy
    obtain ⟨p, hp, rfl⟩ := List.mem_map.mp hx
    obtain ⟨q, hq, rfl⟩ := List.mem_map.mp hy
    exact hf.inj (hl p hp) (hl q hq)
  | next ps => exact hr.elim
  | free ps => exact hr.elim
  | sum c ts =>
    show c + ((lot.map fun q : Nat × Nat => (q.1, f q.2)).map fun p => wt ts p.1).sum = c + (lot.map fun p => wt ts p.1).sum
    rw [List.map_map]
    rfl
  | cap c ts top =>
    show min (c + ((lot.map fun q : Nat × Nat => (q.1, f q.2)).map fun p => wt ts p.1).sum) top = min (c + (lot.map fun p => wt ts p.1).sum) top
    rw [List.map_map]
    rfl
section
variable {rs : List Rule} {f : Nat → Nat} {a : List Nat} (h : HallOk rs) (hpl : ∀ r ∈ rs, r.plain) (hs : a.length = rs.length) (hf : Led f a)
include h hs hf
theorem lot_led {p : Nat} (hp : p < rs.length) : lotAt (rl rs p).seen (a.map f) (sg (a.map f) p) = (lotAt (rl rs p).seen a (sg a p)).map fun q => (q.1, f q.2) :=
  lot_map hf (by omega) fun o ho => by rw [hs]; exact (h.rl hp).low o ho
include hpl
theorem turn_led {p : Nat} (hp : p < rs.length) : turnOf rs (a.map f) p = turnOf rs a p := by
  unfold turnOf
  rw [lot_led h hs hf hp]
  exact tells_led hf (hpl _ (List.mem_of_getElem? (rl_get hp))) (lot_in fun o ho => by rw [hs]; exact (h.rl hp).low o ho)
theorem beat_led : beat rs (a.map f) = beat rs a := by
  have hs2 : (a.map f).length = rs.length := by rw [List.length_map]; exact hs
  refine st_ext hs (by rw [beat_len]; exact hs2) (by rw [beat_len]; exact hs) fun p hp => ?_
  rw [sg_beat hs2 hp, sg_beat hs hp, turn_led h hpl hs hf hp]
theorem beats_led : ∀ k, beats rs (a.map f) (k + 1) = beats rs a (k + 1)
  | 0 => beat_led h hpl hs hf
  | k + 1 => by
    show beat rs (beats rs (a.map f) (k + 1)) = beat rs (beats rs a (k + 1))
    rw [beats_led k]
end
theorem beats_stay {rs : List Rule} {st : List Nat} {N : Nat} (h : beat rs (beats rs st N) = beats rs st N) : ∀ k, beats rs st (N + k) = beats rs st N
  | 0 => rfl
  | k + 1 => by
    show beat rs (beats rs st (N + k)) = _
    rw [beats_stay h k, h]
/-- alike from one beat on: one end -/
theorem end_same {rs : List Rule} {a b : List Nat} (e : ∀ k, beats rs b (k + 1) = beats rs a (k + 1)) {N M : Nat} (hN : beat rs (beats rs a N) = beats rs a N) (hM : beat rs (beats rs b M) = beats rs b M) : beats rs b M = beats rs a N := by
  rw [← beats_stay hM (N + 1), ← beats_stay hN (M + 1), show M + (N + 1) = (M + N) + 1 by omega, show N + (M + 1) = (M + N) + 1 by omega]
  exact e _
theorem least_le {rs : List Rule} {a b : List Nat} (e : ∀ k, beats rs b (k + 1) = beats rs a (k + 1)) {N M : Nat} (hM : beat rs (beats rs b M) = beats rs b M) (hN : ∀ k < N, beat rs (beats rs a k) ≠ beats rs a k) (h0 : 0 < M) : N ≤ M := by
  rcases Nat.lt_or_ge M N with c | c
  · refine absurd ?_ (hN M c)
    obtain ⟨k, rfl⟩ : ∃ k, M = k + 1 := ⟨M - 1, by omega⟩
    rw [← e k]
    exact hM
  · exact c
end Hm
namespace K7
open PySem PySem.Spec PyProof.Rows L2 Gd Ge Hm
theorem ty_in (n : Nat) : tyO1 "int" (nd n) = some true := id rfl
theorem ty_ib (n : Nat) : tyO1 "bool" (nd n) = some false := id rfl
theorem ty_tt (ds : List D) : tyO1 "tuple" (.tup ds) = some true := id rfl
theorem ty_ss (x : Str) : tyO1 "str" (.str x) = some true := id rfl
theorem tr_b (b : Bool) : truO (.bl b) = some b := id rfl
theorem bs {α β : Type} (a : α) (f : α → Option β) : (some a).bind f = f a := id rfl
theorem ct {α : Type} (a b : α) : cond true a b = a := id rfl
theorem cf {α : Type} (a b : α) : cond false a b = b := id rfl
theorem len_t (ds : List D) : lenD (.tup ds) = some (nd ds.length) := id rfl
theorem len_l (ds : List D) : lenD (.lst ds) = some (nd ds.length) := id rfl
theorem it_t (ds : List D) : itD (.tup ds) = some ds := id rfl
theorem it_l (ds : List D) : itD (.lst ds) = some ds := id rfl
theorem eq_s (g : Bool) (a b : Str) : eqD g (.str a) (.str b) = some (g ^^ decide (a = b)) := id rfl
theorem neg1 : negO (nd 1) = some (.int (-1)) := id rfl
theorem ti_nd (n : Nat) : intO (nd n) = some (n : Int) := id rfl
theorem tup_l (ds : List D) : tupD (.lst ds) = some (.tup ds) := id rfl
theorem tup_t (ds : List D) : tupD (.tup ds) = some (.tup ds) := id rfl
theorem lst_t (ds : List D) : listD (.tup ds) = some (.lst ds) := id rfl
theorem lst_l (ds : List D) : listD (.lst ds) = some (.lst ds) := id rfl
theorem gd2 {α : Type} (x : Option α) : gd 2 x = x := gd_ok (by decide)
theorem gd0 {α : Type} (x : Option α) : gd 0 x = x := gd_ok (by decide)
theorem gd1 {α : Type} (x : Option α) : gd 1 x = x := gd_ok (by decide)
theorem gd3 {α : Type} (x : Option α) : gd 3 x = x := gd_ok (by decide)
theorem gd4 {α : Type} (x : Option α) : gd 4 x = x := gd_ok (by decide)
theorem gd5 {α : Type} (x : Option α) : gd 5 x = x := gd_ok (by decide)
theorem nt : (!true) = false := id rfl
theorem nf : (!false) = true := id rfl
theorem ixt0 (a : D) (ds : List D) : ixD (.tup (a :: ds)) (nd 0) = some a := by
  refine ix_t ?_
  rfl
theorem ixt1 (a b : D) (ds : List D) : ixD (.tup (a :: b :: ds)) (nd 1) = some b := by
  refine ix_t ?_
  rfl
theorem ixt2 (a b c : D) (ds : List D) : ixD (.tup (a :: b :: c :: ds)) (nd 2) = some c := by
  refine ix_t ?_
  rfl
theorem ixt3 (a b c d : D) (ds : List D) : ixD (.tup (a :: b :: c :: d :: ds)) (nd 3) = some d := by
  refine ix_t ?_
  rfl
theorem ixl0 (a : D) (ds : List D) : ixD (.lst (a :: ds)) (nd 0) = some a := by
  refine ix_l ?_
  rfl
theorem ixl1 (a b : D) (ds : List D) : ixD (.lst (a :: b :: ds)) (nd 1) = some b := by
  refine ix_l ?_
  rfl
theorem ixl2 (a b c : D) (ds : List D) : ixD (.lst (a :: b :: c :: ds)) (nd 2) = some c := by
  refine ix_l ?_
  rfl
theorem ixtm2 (a b : D) : ixD (.tup [a, b]) (.int (-1)) = some b := id rfl
theorem ixtm3 (a b c : D) : ixD (.tup [a, b, c]) (.int (-1)) = some c := id rfl
theorem up2 {β : Type} (i j : Nat) (a b : D) (f : TJ Unit [i, j] → Option β) : (unp [i, j] (.tup [a, b])).bind f = f (a, b, ()) := id rfl
theorem up2p {β : Type} (i j : Nat) (a b : D) (f : TJ Unit [i, j] → Option β) : (unp [i, j] (.par [a, b])).bind f = f (a, b, ()) := id rfl
theorem ups (a : D) (ds : List D) : unpS (.tup (a :: ds)) = some (a, ds) := id rfl
theorem w_hk : (Str.ofString "held" = Str.ofString "kinds") = False := eq_false (by decide +kernel)
theorem w_hn : (Str.ofString "held" = Str.ofString "next") = False := eq_false (by decide +kernel)
theorem w_hf : (Str.ofString "held" = Str.ofString "free") = False := eq_false (by decide +kernel)
theorem w_hs : (Str.ofString "held" = Str.ofString "sum") = False := eq_false (by decide +kernel)
theorem w_hc : (Str.ofString "held" = Str.ofString "cap") = False := eq_false (by decide +kernel)
theorem w_kh : (Str.ofString "kinds" = Str.ofString "held") = False := eq_false (by decide +kernel)
theorem w_kn : (Str.ofString "kinds" = Str.ofString "next") = False := eq_false (by decide +kernel)
theorem w_kf : (Str.ofString "kinds" = Str.ofString "free") = False := eq_false (by decide +kernel)
theorem w_ks : (Str.ofString "kinds" = Str.ofString "sum") = False := eq_false (by decide +kernel)
theorem w_kc : (Str.ofString "kinds" = Str.ofString "cap") = False := eq_false (by decide +kernel)
theorem w_nh : (Str.ofString "next" = Str.ofString "held") = False := eq_false (by decide +kernel)
theorem w_nk : (Str.ofString "next" = Str.ofString "kinds") = False := eq_false (by decide +kernel)
theorem w_nf : (Str.ofString "next" = Str.ofString "free") = False := eq_false (by decide +kernel)
theorem w_ns : (Str.ofString "next" = Str.ofString "sum") = False := eq_false (by decide +kernel)
theorem w_nc : (Str.ofString "next" = Str.ofString "cap") = False := eq_false (by decide +kernel)
theorem w_fh : (Str.ofString "free" = Str.ofString "held") = False := eq_false (by decide +kernel)
theorem w_fk : (Str.ofString "free" = Str.ofString "kinds") = False := eq_false (by decide +kernel)
theorem w_fn : (Str.ofString "free" = Str.ofString "next") = False := eq_false (by decide +kernel)
theorem w_fs : (Str.ofString "free" = Str.ofString "sum") = False := eq_false (by decide +kernel)
theorem w_fc : (Str.ofString "free" = Str.ofString "cap") = False := eq_false (by decide +kernel)
theorem w_sh : (Str.ofString "sum" = Str.ofString "held") = False := eq_false (by decide +kernel)
theorem w_sk : (Str.ofString "sum" = Str.ofString "kinds") = False := eq_false (by decide +kernel)
theorem w_sn : (Str.ofString "sum" = Str.ofString "next") = False := eq_false (by decide +kernel)
theorem w_sf : (Str.ofString "sum" = Str.ofString "free") = False := eq_false (by decide +kernel)
theorem w_sc : (Str.ofString "sum" = Str.ofString "cap") = False := eq_false (by decide +kernel)
theorem w_ch : (Str.ofString "cap" = Str.ofString "held") = False := eq_false (by decide +kernel)
theorem w_ck : (Str.ofString "cap" = Str.ofString "kinds") = False := eq_false (by decide +kernel)
theorem w_cn : (Str.ofString "cap" = Str.ofString "next") = False := eq_false (by decide +kernel)
theorem w_cf : (Str.ofString "cap" = Str.ofString "free") = False := eq_false (by decide +kernel)
theorem w_cs : (Str.ofString "cap" = Str.ofString "sum") = False := eq_false (by decide +kernel)
theorem in_s2 (g : Bool) (a b c : Str) : inD g (.str a) (.tup [.str b, .str c]) = some (g ^^ decide (a ∈ [b, c])) := id rfl
theorem all_true {α : Type} (xs : List α) : allD (.lst (xs.map fun _ => D.bl true)) = some (.bl true) := by
  rw [all_mp (fun _ => true)]
  simp
def hallD (C : Addr) (rs : List Rule) : D := .ins C ["own_rules", "own_seen"] [.tup (rs.map Rule.d), .lst (rs.map fun r => .lst (nl r.seen))]
def rsD (rs : List Rule) : D := .lst (rs.map Rule.d)
def stD (st : List Nat) : D := .tup (nl st)
theorem ebind {α β : Type} {x : Option α} {a : α} (h : x = some a) (f : α → Option β) : x.bind f = f a := by rw [h]; rfl
theorem enum_mp {α : Type} (f : α → D) (xs : List α) : enumD (xs.map f) = (xs.zipIdx).map fun q => .par [nd q.2, f q.1] := by
  have h : ∀ (xs : List α) (k : Nat), ((rg (k : Int) (xs.map f).length).zip (xs.map f)).map (fun q => D.par [q.1, q.2]) = (xs.zipIdx k).map fun q => .par [nd q.2, f q.1] := by
    intro xs
    induction xs with
    | nil => intro k; rfl
    | cons x xs ih =>
      intro k
      show D.par [nd k, f x] :: ((rg ((k : Int) + 1) (xs.map f).length).zip (xs.map f)).map (fun q => D.par [q.1, q.2]) = _
      have := ih (k + 1)
      rw [Int.natCast_add] at this
      rw [show ((k : Int) + 1) = (k : Int) + ((1 : Nat) : Int) from rfl, this]
      rfl
  exact h xs 0
theorem loop_st {τ : Type} {step : τ → D → Option τ} {t : τ} : ∀ {ds : List D}, (∀ d ∈ ds, step t d = some t) → loopM step ds t = some t
  | [], _ => rfl
  | d :: ds, h => by
    show (step t d).bind _ = _
    rw [h d (List.mem_cons_self ..)]
    exact loop_st fun e he => h e (List.mem_cons_of_mem _ he)
theorem ix_st {st : List Nat} {p : Nat} (h : p < st.length) : ixD (stD st) (nd p) = some (nd (sg st p)) := by
  refine ix_t ?_
  unfold nl
  rw [List.getElem?_map, sg_get h]
  rfl
theorem enm_st (st : List Nat) : enmD (stD st) = some ((List.range st.length).map fun p => .par [nd p, nd (sg st p)]) := by
  show some (enumD (nl st)) = _
  unfold nl
  rw [enum_mp]
  congr 1
  refine List.ext_getElem? fun i => ?_
  rw [List.getElem?_map, List.getElem?_map, List.getElem?_zipIdx]
  rcases Nat.lt_or_ge i st.length with c | c
  · rw [sg_get c, List.getElem?_range c]
    simp
  · rw [List.getElem?_eq_none c, List.getElem?_eq_none (by rw [List.length_range]; exact c)]
    rfl
theorem get_kd (ks : List Key) (vs : List D) (p : Nat) (x : D) : getO (.dic ks vs) (nd p) x = some ((dval ks vs (ik p)).getD x) := id rfl
theorem nat_ok {n : Nat} (h : n ≤ 100000) : natO (nd n) = some () := by
  have e : (0 : Int) ≤ (n : Int) ∧ (n : Int) < 2 ^ 63 := ⟨by omega, by omega⟩
  unfold natO nd
  simp only [e, and_self, if_true]
theorem len_rs (rs : List Rule) : lenD (rsD rs) = some (nd rs.length) := by
  show lenD (.lst (rs.map Rule.d)) = _
  rw [len_l, List.length_map]
theorem neg1' : negO (.int 1) = some (.int (-1)) := id rfl
theorem tup_st (st : List Nat) : tupD (stD st) = some (stD st) := id rfl
theorem app_ok {ds : List D} {d : D} (h : ds.length < 100000) : mApp ds [d] = some (.non, ds ++ [d]) := gd_ok h
theorem ones_map (ps : List Nat) (f : Nat → D) (hf : ∀ p, f p = prd (p, 1)) : ps.map f = pl (ones ps) := by
  unfold pl ones
  rw [List.map_map]
  exact List.map_congr_left fun p _ => hf p
end K7
namespace K7
open PySem PySem.Spec PyProof.Rows L2 Gd Ge Hm
/-! ### words, kinds of things -/
theorem tb_h (d : D) : kgetO tab_SIZES (.str (Str.ofString "held")) d = some (nd 2) := by
  show some (match tab_SIZES.lookup (Str.ofString "held") with | some i => D.int i | none => d) = _
  rw [show tab_SIZES.lookup (Str.ofString "held") = some 2 by decide +kernel]
  rfl
theorem tb_k (d : D) : kgetO tab_SIZES (.str (Str.ofString "kinds")) d = some (nd 3) := by
  show some (match tab_SIZES.lookup (Str.ofString "kinds") with | some i => D.int i | none => d) = _
  rw [show tab_SIZES.lookup (Str.ofString "kinds") = some 3 by decide +kernel]
  rfl
theorem tb_n (d : D) : kgetO tab_SIZES (.str (Str.ofString "next")) d = some (nd 2) := by
  show some (match tab_SIZES.lookup (Str.ofString "next") with | some i => D.int i | none => d) = _
  rw [show tab_SIZES.lookup (Str.ofString "next") = some 2 by decide +kernel]
  rfl
theorem tb_f (d : D) : kgetO tab_SIZES (.str (Str.ofString "free")) d = some (nd 2) := by
  show some (match tab_SIZES.lookup (Str.ofString "free") with | some i => D.int i | none => d) = _
  rw [show tab_SIZES.lookup (Str.ofString "free") = some 2 by decide +kernel]
  rfl
theorem tb_s (d : D) : kgetO tab_SIZES (.str (Str.ofString "sum")) d = some (nd 3) := by
  show some (match tab_SIZES.lookup (Str.ofString "sum") with | some i => D.int i | none => d) = _
  rw [show tab_SIZES.lookup (Str.ofString "sum") = some 3 by decide +kernel]
  rfl
theorem tb_c (d : D) : kgetO tab_SIZES (.str (Str.ofString "cap")) d = some (nd 4) := by
  show some (match tab_SIZES.lookup (Str.ofString "cap") with | some i => D.int i | none => d) = _
  rw [show tab_SIZES.lookup (Str.ofString "cap") = some 4 by decide +kernel]
  rfl
local macro_rules | `(tactic| walk_at "hs") => `(tactic| simp only [ty_in, ty_ib, ty_tt, ty_ss, tr_b, bs, ct, cf, len_t, len_l, it_t, it_l, eq_s, lit0, lit1, lit2, lit3, lit4, neg1, ti_nd, tup_l, tup_t, lst_t, lst_l, gd0, gd1, gd2, gd3, gd4, gd5, nt, nf, ixt0, ixt1, ixt2, ixt3, ixl0, ixl1, ixl2, ixtm2, ixtm3, up2, up2p, ups, add_n, lt_n, le_n, gt_n, ge_n, eq_n, min_n, max_n, nl_len, pl_len, Bool.false_xor, Bool.true_xor, tb_h, tb_k, tb_n, tb_f, tb_s, tb_c, in_s2, List.length_cons, List.length_nil, Nat.zero_add, Nat.reduceAdd, Nat.reduceEqDiff, w_hk, w_hn, w_hf, w_hs, w_hc, w_kh, w_kn, w_kf, w_ks, w_kc, w_nh, w_nk, w_nf, w_ns, w_nc, w_fh, w_fk, w_fn, w_fs, w_fc, w_sh, w_sk, w_sn, w_sf, w_sc, w_ch, w_ck, w_cn, w_cf, w_cs, decide_true, decide_false, decide_eq_true_eq, if_true, if_false, List.mem_cons, List.not_mem_nil, or_false, false_or, or_true, true_or])
/-! ### rules -/
theorem p_whole (n : Nat) : m_is_whole (nd n) = some (.bl true) := by
  unfold m_is_whole
  walk_at "hs"
  rw [decide_eq_true (Nat.zero_le n)]
theorem p_person {n p : Nat} (h : p < n) : m_is_person (nd n) (nd p) = some (.bl true) := by
  unfold m_is_person
  rw [p_whole]
  walk_at "hs"
  rw [decide_eq_true h]
theorem zip_tail {ns : List Nat} : zipD (nl ns) (nl ns.tail) = (ns.zip ns.tail).map fun q => D.par [nd q.1, nd q.2] := by
  unfold zipD nl
  rw [List.zip_map, List.map_map]
  rfl
theorem rise_zip : ∀ {ns : List Nat}, ns.Pairwise (· < ·) → ∀ q ∈ ns.zip ns.tail, q.1 < q.2
  | [], _, q, h => by cases h
  | [_], _, q, h => by cases h
  | a :: b :: ns, hp, q, h => by
    rw [List.pairwise_cons] at hp
    rcases List.mem_cons.mp h with rfl | h
    · exact hp.1 b (List.mem_cons_self ..)
    · exact rise_zip hp.2 q h
theorem cut_tail (ns : List Nat) : cutD (nl ns) (some 1) none = nl ns.tail := by
  rw [nl_dI, cutD_dI, show (1 : Int) = ((1 : Nat) : Int) from rfl, cutL_lo, nl_dI]
  cases ns <;> rfl
theorem rising_at {ds es : List D} {ns : List Nat} (h : ns.Pairwise (· < ·)) (hl : ns.length ≤ 100000) (h1 : zipD ds es = zipD (nl ns) (nl ns.tail)) : (lcG m_is_rising_c1 (zipD ds es)) = some ((ns.zip ns.tail).map fun _ => D.bl true) := by
  rw [h1, zip_tail]
  refine lcG_mp ?_ fun q hq => ?_
  · rw [List.length_zip]
    omega
  · unfold m_is_rising_c1
    walk_at "hs"
    rw [decide_eq_true (rise_zip h q hq)]
theorem p_rising_t {ns : List Nat} (h : ns.Pairwise (· < ·)) (hl : ns.length ≤ 100000) : m_is_rising (.tup (nl ns)) = some (.bl true) := by
  unfold m_is_rising
  walk_at "hs"
  show (some (D.tup (cutD (nl ns) (some 1) none))).bind _ = _
  rw [cut_tail, bs]
  show (some (zipD (nl ns) (nl ns.tail))).bind _ = _
  rw [bs, rising_at h hl rfl, bs, all_true, bs]
theorem p_rising_l {ns : List Nat} (h : ns.Pairwise (· < ·)) (hl : ns.length ≤ 100000) : m_is_rising (.lst (nl ns)) = some (.bl true) := by
  unfold m_is_rising
  walk_at "hs"
  show (some (D.lst (cutD (nl ns) (some 1) none))).bind _ = _
  rw [cut_tail, bs]
  show (some (zipD (nl ns) (nl ns.tail))).bind _ = _
  rw [bs, rising_at h hl rfl, bs, all_true, bs]
theorem p_tie {n p w : Nat} (h : p < n) (hw : 1 ≤ w) : m_is_tie (nd n) (prd (p, w)) = some (.bl true) := by
  unfold m_is_tie prd
  walk_at "hs"
  rw [p_person h]
  walk_at "hs"
  rw [p_whole]
  walk_at "hs"
  rw [decide_eq_true (show 0 < w from hw)]
theorem p_ties {n : Nat} {ts : List (Nat × Nat)} (h1 : (ts.map Prod.fst).Pairwise (· < ·)) (h2 : ∀ p ∈ ts.map Prod.fst, p < n) (h3 : ∀ t ∈ ts, 1 ≤ t.2) (hl : ts.length ≤ 100000) : m_are_ties (nd n) (.tup (pl ts)) = some (.bl true) := by
  unfold m_are_ties
  walk_at "hs"
  have e1 : lcG (m_are_ties_c1 (nd n)) (pl ts) = some (ts.map fun _ => D.bl true) := by
    refine lcG_mp hl fun t ht => ?_
    unfold m_are_ties_c1
    rw [p_tie (h2 _ (List.mem_map.mpr ⟨t, ht, rfl⟩)) (h3 t ht)]
    rfl
  rw [e1]
  walk_at "hs"
  rw [all_true]
  walk_at "hs"
  have e2 : lcG m_are_ties_c2 (pl ts) = some (nl (ts.map Prod.fst)) := by
    unfold nl
    rw [List.map_map]
    refine lcG_mp hl fun t ht => ?_
    rfl
  rw [e2]
  walk_at "hs"
  rw [p_rising_l h1 (by rw [List.length_map]; exact hl)]
  rfl
theorem p_seen {n : Nat} {ps : List Nat} (h1 : ps.Pairwise (· < ·)) (h2 : ∀ p ∈ ps, p < n) (hl : ps.length ≤ 100000) : m_are_seen (nd n) (.tup (nl ps)) = some (.bl true) := by
  unfold m_are_seen
  walk_at "hs"
  have e1 : lcG (m_are_seen_c1 (nd n)) (nl ps) = some (ps.map fun _ => D.bl true) := by
    refine lcG_mp hl fun t ht => ?_
    unfold m_are_seen_c1
    rw [p_person (h2 _ ht)]
    rfl
  rw [e1]
  walk_at "hs"
  rw [all_true]
  walk_at "hs"
  rw [p_rising_t h1 hl]
  walk_at "hs"
theorem p_rule {n : Nat} {r : Rule} (h : r.fine n) (hn : n ≤ 1000) : m_is_rule (nd n) r.d = some (.bl true) := by
  have hl := h.len
  obtain ⟨h1, h2, h3⟩ := h
  unfold m_is_rule
  cases r with
  | held c =>
    unfold Rule.d
    walk_at "hs"
    rw [p_whole]
    rfl
  | kinds c ps =>
    unfold Rule.seen Rule.ties at h1 h2
    rw [seen_ones] at h1 h2
    unfold Rule.d
    walk_at "hs"
    rw [p_whole]
    walk_at "hs"
    rw [p_seen h1 h2 (by unfold Rule.ties ones at hl; rw [List.length_map] at hl; omega)]
    rfl
  | next ps =>
    unfold Rule.seen Rule.ties at h1 h2
    rw [seen_ones] at h1 h2
    unfold Rule.d
    walk_at "hs"
    rw [p_seen h1 h2 (by unfold Rule.ties ones at hl; rw [List.length_map] at hl; omega)]
    rfl
  | free ps =>
    unfold Rule.seen Rule.ties at h1 h2
    rw [seen_ones] at h1 h2
    unfold Rule.d
    walk_at "hs"
    rw [p_seen h1 h2 (by unfold Rule.ties ones at hl; rw [List.length_map] at hl; omega)]
    rfl
  | sum c ts =>
    unfold Rule.d
    walk_at "hs"
    rw [p_whole]
    walk_at "hs"
    rw [p_ties (ts := ts) h1 h2 h3 (by have : ts.length ≤ n := hl; omega)]
    walk_at "hs"
  | cap c ts top =>
    unfold Rule.d
    walk_at "hs"
    rw [p_whole]
    walk_at "hs"
    rw [p_ties (ts := ts) h1 h2 h3 (by have : ts.length ≤ n := hl; omega)]
    walk_at "hs"
    rw [p_whole]
    walk_at "hs"
end K7
namespace K7
open PySem PySem.Spec PyProof.Rows L2 Gd Ge Hm
local macro_rules | `(tactic| walk_at "hs") => `(tactic| simp only [ty_in, ty_ib, ty_tt, ty_ss, tr_b, bs, ct, cf, len_t, len_l, it_t, it_l, eq_s, lit0, lit1, lit2, lit3, lit4, neg1, ti_nd, tup_l, tup_t, lst_t, lst_l, gd0, gd1, gd2, gd3, gd4, gd5, nt, nf, ixt0, ixt1, ixt2, ixt3, ixl0, ixl1, ixl2, ixtm2, ixtm3, up2, up2p, ups, add_n, lt_n, le_n, gt_n, ge_n, eq_n, min_n, max_n, nl_len, pl_len, Bool.false_xor, Bool.true_xor, in_s2, List.length_cons, List.length_nil, Nat.zero_add, Nat.reduceAdd, Nat.reduceEqDiff, w_hk, w_hn, w_hf, w_hs, w_hc, w_kh, w_kn, w_kf, w_ks, w_kc, w_nh, w_nk, w_nf, w_ns, w_nc, w_fh, w_fk, w_fn, w_fs, w_fc, w_sh, w_sk, w_sn, w_sf, w_sc, w_ch, w_ck, w_cn, w_cf, w_cs, decide_true, decide_false, decide_eq_true_eq, if_true, if_false, List.mem_cons, List.not_mem_nil, or_false, false_or, or_true, true_or])
/-! ### what a rule sees and tells -/
theorem in_ty (g : Bool) (a b c : Str) : inD g (.str a) (.tup [.str b, .str c]) = some (g ^^ decide (a ∈ [b, c])) := rfl
theorem p_ties_of {n : Nat} {r : Rule} (h : r.fine n) (hn : n ≤ 1000) : m_ties_of r.d = some (.tup (pl r.ties)) := by
  have hl := h.len
  have tie : ∀ ps : List Nat, ps.length ≤ n → lcG m_ties_of_c1 (nl ps) = some (pl (ones ps)) := fun ps hp => by
    rw [← ones_map ps (fun p => prd (p, 1)) (fun _ => rfl)]
    refine lcG_mp (by omega) fun p _ => ?_
    rfl
  have ol : ∀ ps : List Nat, (ones ps).length = ps.length := fun ps => List.length_map ..
  unfold m_ties_of
  cases r with
  | held c =>
    unfold Rule.d
    walk_at "hs"
    rfl
  | kinds c ps =>
    have hl : (ones ps).length ≤ n := hl
    rw [ol] at hl
    unfold Rule.d
    walk_at "hs"
    rw [tie ps hl]
    rfl
  | next ps =>
    have hl : (ones ps).length ≤ n := hl
    rw [ol] at hl
    unfold Rule.d
    walk_at "hs"
    rw [tie ps hl]
    rfl
  | free ps =>
    have hl : (ones ps).length ≤ n := hl
    rw [ol] at hl
    unfold Rule.d
    walk_at "hs"
    rw [tie ps hl]
    rfl
  | sum c ts =>
    unfold Rule.d
    walk_at "hs"
    rfl
  | cap c ts top =>
    unfold Rule.d
    walk_at "hs"
    rfl
end K7
namespace K7
open PySem PySem.Spec PyProof.Rows L2 Gd Ge Hm
local macro_rules | `(tactic| walk_at "hs") => `(tactic| simp only [ty_in, ty_ib, ty_tt, ty_ss, tr_b, bs, ct, cf, len_t, len_l, it_t, it_l, eq_s, lit0, lit1, lit2, lit3, lit4, neg1, ti_nd, tup_l, tup_t, lst_t, lst_l, gd0, gd1, gd2, gd3, gd4, gd5, nt, nf, ixt0, ixt1, ixt2, ixt3, ixl0, ixl1, ixl2, ixtm2, ixtm3, up2, up2p, ups, add_n, lt_n, le_n, gt_n, ge_n, eq_n, min_n, max_n, nl_len, pl_len, Bool.false_xor, Bool.true_xor, in_s2, List.length_cons, List.length_nil, Nat.zero_add, Nat.reduceAdd, Nat.reduceEqDiff, w_hk, w_hn, w_hf, w_hs, w_hc, w_kh, w_kn, w_kf, w_ks, w_kc, w_nh, w_nk, w_nf, w_ns, w_nc, w_fh, w_fk, w_fn, w_fs, w_fc, w_sh, w_sk, w_sn, w_sf, w_sc, w_ch, w_ck, w_cn, w_cf, w_cs, decide_true, decide_false, decide_eq_true_eq, if_true, if_false, List.mem_cons, List.not_mem_nil, or_false, false_or, or_true, true_or])
theorem p_seen_by {n : Nat} {r : Rule} (h : r.fine n) (hn : n ≤ 1000) : m_seen_by r.d = some (.lst (nl r.seen)) := by
  have hl := h.len
  unfold m_seen_by
  rw [p_ties_of h hn]
  walk_at "hs"
  have e : lcG m_seen_by_c1 (pl r.ties) = some (nl r.seen) := by
    unfold nl Rule.seen
    rw [List.map_map]
    refine lcG_mp (by omega) fun t _ => ?_
    rfl
  rw [e]
  rfl
end K7
namespace K7
open PySem PySem.Spec PyProof.Rows L2 Gd Ge Hm
local macro_rules | `(tactic| walk_at "hs") => `(tactic| simp only [ty_in, ty_ib, ty_tt, ty_ss, tr_b, bs, ct, cf, len_t, len_l, it_t, it_l, eq_s, lit0, lit1, lit2, lit3, lit4, neg1, ti_nd, tup_l, tup_t, lst_t, lst_l, gd0, gd1, gd2, gd3, gd4, gd5, nt, nf, ixt0, ixt1, ixt2, ixt3, ixl0, ixl1, ixl2, ixtm2, ixtm3, up2, up2p, ups, add_n, lt_n, le_n, gt_n, ge_n, eq_n, min_n, max_n, nl_len, pl_len, Bool.false_xor, Bool.true_xor, in_s2, List.length_cons, List.length_nil, Nat.zero_add, Nat.reduceAdd, Nat.reduceEqDiff, w_hk, w_hn, w_hf, w_hs, w_hc, w_kh, w_kn, w_kf, w_ks, w_kc, w_nh, w_nk, w_nf, w_ns, w_nc, w_fh, w_fk, w_fn, w_fs, w_fc, w_sh, w_sk, w_sn, w_sf, w_sc, w_ch, w_ck, w_cn, w_cf, w_cs, decide_true, decide_false, decide_eq_true_eq, if_true, if_false, List.mem_cons, List.not_mem_nil, or_false, false_or, or_true, true_or])
/-! ### what a rule sees and tells -/
theorem free_go {ks : List Nat} {vs : List D} (h : ks.length = vs.length) {m : Nat} (hm : IsMex m ks) : ∀ (f k : Nat), k + f = m → whileP (m_least_free_w1 (.dic (ks.map ik) vs)) (nd k, ()) = some (nd m, ())
  | 0, k, e => by
    refine whileP_end ?_
    unfold m_least_free_w1
    show (inD false (nd k) _).bind _ = _
    rw [in_dic h, show k = m by omega, decide_eq_false hm.1]
    rfl
  | f + 1, k, e => by
    have := free_go h hm f (k + 1) (by omega)
    rw [← this]
    refine whileP_one ?_
    unfold m_least_free_w1
    show (inD false (nd k) _).bind _ = _
    rw [in_dic h, decide_eq_true (hm.2 k (by omega))]
    rfl
theorem p_free {ks : List Nat} {vs : List D} (h : ks.length = vs.length) : m_least_free (.dic (ks.map ik) vs) = some (nd (mex ks)) := by
  unfold m_least_free
  show (whileP _ (nd 0, ())).bind _ = _
  rw [free_go h (mex_spec ks) (mex ks) 0 (by omega)]
  rfl
/-- weights by persons, as a dict tells them -/
theorem wt_mem : ∀ {ts : List (Nat × Nat)} {t : Nat × Nat}, (ts.map Prod.fst).Pairwise (· < ·) → t ∈ ts → wt ts t.1 = t.2
  | [], _, _, h => by cases h
  | (a, b) :: ts, t, hp, h => by
    rw [List.map_cons, List.pairwise_cons] at hp
    unfold wt
    rw [List.lookup_cons]
    rcases List.mem_cons.mp h with rfl | h
    · simp
    · have : (t.1 == a) = false := beq_false_of_ne fun e => by
        have := hp.1 t.1 (List.mem_map.mpr ⟨t, h, rfl⟩)
        omega
      rw [this]
      exact wt_mem hp.2 h
theorem dic_w {ts : List (Nat × Nat)} (hp : (ts.map Prod.fst).Pairwise (· < ·)) : ∃ ks vs, dicD (.tup (pl ts)) = some (.dic ks vs) ∧ dicD (.lst (pl ts)) = some (.dic ks vs) ∧ ∀ p ∈ ts.map Prod.fst, dval ks vs (ik p) = some (nd (wt ts p)) := by
  have e : prs? (pl ts) = some (ts.map fun t => (ik t.1, nd t.2)) := prs_tup (fun t : Nat × Nat => t.1) (fun t => nd t.2) ts
  refine ⟨(mrg [] [] (ts.map fun t => (ik t.1, nd t.2))).1, (mrg [] [] (ts.map fun t => (ik t.1, nd t.2))).2, ?_, ?_, fun p hpm => ?_⟩
  · show (prs? _).bind _ = _
    rw [e]
    rfl
  · show (prs? _).bind _ = _
    rw [e]
    rfl
  · exact (numVals (fun t : Nat × Nat => t.1) (fun t => nd t.2) ts (fun p => nd (wt ts p)) (fun t ht => by rw [wt_mem hp ht]) p).trans (if_pos hpm)
theorem ix_dic {ks : List Key} {vs : List D} {p : Nat} {d : D} (h : dval ks vs (ik p) = some d) : ixD (.dic ks vs) (nd p) = some d := h
theorem p_told {n : Nat} {r : Rule} (h : r.fine n) (hn : n ≤ 1000) {lot : List (Nat × Nat)} (hlot : LotOk n r lot) : m_told_of r.d (.lst (pl lot)) = some (nd (r.tells lot)) := by
  have hl := h.len
  obtain ⟨hsub, hlen⟩ := hlot
  have e1 : dcG m_told_of_c1 (pl lot) = some (mrg [] [] (lot.map fun q => (ik q.2, .bl true))) := dcG_mrg (by omega) fun q _ => rfl
  obtain ⟨ks, k1, k2, k3⟩ := numKeys (fun q : Nat × Nat => q.2) (fun _ => D.bl true) lot
  have l1 := (mrg_ok (lot.map fun q => (ik q.2, D.bl true)) [] [] rfl).1
  revert e1
  have k1 : (mrg [] [] (lot.map fun q => (ik q.2, D.bl true))).1 = ks.map ik := k1
  generalize mrg [] [] (lot.map fun q => (ik q.2, D.bl true)) = z at k1 l1
  intro e1
  obtain ⟨zk, zv⟩ := z
  have k1 : zk = ks.map ik := k1
  subst k1
  have l1 : (ks.map ik).length = zv.length := l1
  rw [List.length_map] at l1
  have hnum : ∀ k, k ∈ ks ↔ k ∈ nums lot := k3
  have tot : ∀ ts : List (Nat × Nat), (∀ q ∈ lot, q.1 ∈ ts.map Prod.fst) → ∀ kd vd, (∀ p ∈ ts.map Prod.fst, dval kd vd (ik p) = some (nd (wt ts p))) → lcG (m_told_of_c2 (.dic kd vd)) (pl lot) = some (nl (lot.map fun p => wt ts p.1)) := fun ts hts kd vd hd => by
    unfold nl
    rw [List.map_map]
    refine lcG_mp (by omega) fun q hq => ?_
    show ((ixD (.dic kd vd) (nd q.1)).bind _) = _
    rw [ix_dic (hd q.1 (hts q hq))]
    rfl
  unfold m_told_of
  cases r with
  | held c =>
    unfold Rule.d
    walk_at "hs"
    rw [e1]
    walk_at "hs"
    rfl
  | kinds c ps =>
    unfold Rule.d
    walk_at "hs"
    rw [e1]
    walk_at "hs"
    show (lenD (.dic (ks.map ik) zv)).bind _ = _
    show (some (D.int ((ks.map ik).length : Int))).bind _ = _
    rw [List.length_map, kinds_of k2 hnum, ← nd_def]
    walk_at "hs"
    rfl
  | next ps =>
    unfold Rule.d
    walk_at "hs"
    rw [e1]
    walk_at "hs"
    show (some (D.int ((ks.map ik).length : Int))).bind _ = _
    rw [List.length_map, ← nd_def]
    walk_at "hs"
    by_cases c : ks = []
    · subst c
      have : topOf (nums lot) = 0 := by
        rw [← top_congr hnum]
        rfl
      show _ = some (nd (topOf (nums lot)))
      rw [this]
      rfl
    · rw [decide_eq_true (show 0 < ks.length from List.length_pos_iff.mpr c)]
      obtain ⟨m, m1, m2⟩ := maxA_n (vs := zv) c
      walk_at "hs"
      rw [m1]
      walk_at "hs"
      show _ = some (nd (topOf (nums lot)))
      rw [← top_congr hnum, m2]
  | free ps =>
    unfold Rule.d
    walk_at "hs"
    rw [e1]
    walk_at "hs"
    show (m_least_free (.dic (ks.map ik) zv)).bind _ = _
    rw [p_free l1]
    show some (nd (mex ks)) = some (nd (mex (nums lot)))
    rw [IsMex.uniq (IsMex.congr hnum (mex_spec ks)) (mex_spec (nums lot))]
  | sum c ts =>
    obtain ⟨kd, vd, d1, d2, d3⟩ := dic_w (ts := ts) h.rise
    unfold Rule.d
    walk_at "hs"
    rw [e1]
    walk_at "hs"
    rw [d1]
    walk_at "hs"
    rw [tot ts hsub kd vd d3]
    walk_at "hs"
    rw [sum_n]
    walk_at "hs"
    rfl
  | cap c ts top =>
    obtain ⟨kd, vd, d1, d2, d3⟩ := dic_w (ts := ts) h.rise
    unfold Rule.d
    walk_at "hs"
    rw [e1]
    walk_at "hs"
    rw [d1]
    walk_at "hs"
    rw [tot ts hsub kd vd d3]
    walk_at "hs"
    rw [sum_n]
    walk_at "hs"
    rfl
end K7
namespace K7
open PySem PySem.Spec PyProof.Rows L2 Gd Ge Hm
local macro_rules | `(tactic| walk_at "hs") => `(tactic| simp only [ty_in, ty_ib, ty_tt, ty_ss, tr_b, bs, ct, cf, len_t, len_l, it_t, it_l, eq_s, lit0, lit1, lit2, lit3, lit4, neg1, ti_nd, tup_l, tup_t, lst_t, lst_l, gd0, gd1, gd2, gd3, gd4, gd5, nt, nf, ixt0, ixt1, ixt2, ixt3, ixl0, ixl1, ixl2, ixtm2, ixtm3, up2, up2p, ups, add_n, lt_n, le_n, gt_n, ge_n, eq_n, min_n, max_n, nl_len, pl_len, Bool.false_xor, Bool.true_xor, in_s2, List.length_cons, List.length_nil, Nat.zero_add, Nat.reduceAdd, Nat.reduceEqDiff, w_hk, w_hn, w_hf, w_hs, w_hc, w_kh, w_kn, w_kf, w_ks, w_kc, w_nh, w_nk, w_nf, w_ns, w_nc, w_fh, w_fk, w_fn, w_fs, w_fc, w_sh, w_sk, w_sn, w_sf, w_sc, w_ch, w_ck, w_cn, w_cf, w_cs, decide_true, decide_false, decide_eq_true_eq, if_true, if_false, List.mem_cons, List.not_mem_nil, or_false, false_or, or_true, true_or])
/-! ### halls -/
theorem chk_ok (C : Addr) : chkA C C = some () := if_pos rfl
theorem hall_init {C : Addr} {rs : List Rule} (h : HallOk rs) {x : D} (hx : x = rsD rs ∨ x = .tup (rs.map Rule.d)) : m_Hall_init__ C C x = some (C, (.tup (rs.map Rule.d), .lst (rs.map fun r => .lst (nl r.seen)), ())) := by
  have e0 : tupD x = some (.tup (rs.map Rule.d)) := by rcases hx with rfl | rfl <;> rfl
  have e1 : enmD (.tup (rs.map Rule.d)) = some ((rs.zipIdx).map fun q => .par [nd q.2, q.1.d]) := by
    show some (enumD _) = _
    rw [enum_mp]
  have e2 : loopM (m_Hall_init___f1 C) ((rs.zipIdx).map fun q => .par [nd q.2, q.1.d]) ((C, (.tup (rs.map Rule.d), ())), ()) = some ((C, (.tup (rs.map Rule.d), ())), ()) := by
    refine loop_st fun d hd => ?_
    obtain ⟨q, hq, rfl⟩ := List.mem_map.mp hd
    have hr : q.1 ∈ rs := by
      have := List.mem_zipIdx hq
      have h2 := this.2.2
      rw [h2]
      exact List.getElem_mem _
    unfold m_Hall_init___f1
    rw [up2p]
    show (chkA C C).bind _ = _
    rw [ebind (chk_ok C)]
    show (lenD (.tup (rs.map Rule.d))).bind _ = _
    rw [ebind (len_t _), List.length_map]
    show (m_is_rule (nd rs.length) q.1.d).bind _ = _
    rw [ebind (p_rule (h.fine _ hr) h.few)]
    rfl
  have e3 : lcG m_Hall_init___c2 (rs.map Rule.d) = some (rs.map fun r => .lst (nl r.seen)) := by
    refine lcG_mp (by have := h.few; omega) fun r hr => ?_
    unfold m_Hall_init___c2
    rw [p_seen_by (h.fine _ hr) h.few]
    rfl
  unfold m_Hall_init__
  rw [ebind e0, ebind (chk_ok C), ebind (chk_ok C), ebind e1, ebind e2]
  show (chkA C C).bind _ = _
  rw [ebind (chk_ok C)]
  show (itD (.tup (rs.map Rule.d))).bind _ = _
  rw [ebind (it_t _), ebind e3]
  show (chkA C C).bind _ = _
  rw [ebind (chk_ok C)]
theorem fld_rules (C : Addr) (rs : List Rule) : fldD C "own_rules" (hallD C rs) = some (.tup (rs.map Rule.d)) := by
  show (if C = C then dval _ _ _ else none) = _
  rw [if_pos rfl]
  rfl
theorem fld_seen (C : Addr) (rs : List Rule) : fldD C "own_seen" (hallD C rs) = some (.lst (rs.map fun r => .lst (nl r.seen))) := by
  show (if C = C then dval _ _ _ else none) = _
  rw [if_pos rfl]
  rfl
theorem ins_no (C : Addr) (rs : List Rule) : insO C "" (hallD C rs) = some () := if_pos ⟨rfl, by decide +kernel⟩
theorem p_hlen (C : Addr) (rs : List Rule) : m_Hall_len__ C (hallD C rs) = some (nd rs.length) := by
  unfold m_Hall_len__
  rw [ebind (fld_rules C rs), ebind (len_t _), List.length_map]
end K7
namespace K7
open PySem PySem.Spec PyProof.Rows L2 Gd Ge Hm
local macro_rules | `(tactic| walk_at "hs") => `(tactic| simp only [ty_in, ty_ib, ty_tt, ty_ss, tr_b, bs, ct, cf, len_t, len_l, it_t, it_l, eq_s, lit0, lit1, lit2, lit3, lit4, neg1, ti_nd, tup_l, tup_t, lst_t, lst_l, gd0, gd1, gd2, gd3, gd4, gd5, nt, nf, ixt0, ixt1, ixt2, ixt3, ixl0, ixl1, ixl2, ixtm2, ixtm3, up2, up2p, ups, add_n, lt_n, le_n, gt_n, ge_n, eq_n, min_n, max_n, nl_len, pl_len, Bool.false_xor, Bool.true_xor, in_s2, List.length_cons, List.length_nil, Nat.zero_add, Nat.reduceAdd, Nat.reduceEqDiff, w_hk, w_hn, w_hf, w_hs, w_hc, w_kh, w_kn, w_kf, w_ks, w_kc, w_nh, w_nk, w_nf, w_ns, w_nc, w_fh, w_fk, w_fn, w_fs, w_fc, w_sh, w_sk, w_sn, w_sf, w_sc, w_ch, w_ck, w_cn, w_cf, w_cs, decide_true, decide_false, decide_eq_true_eq, if_true, if_false, List.mem_cons, List.not_mem_nil, or_false, false_or, or_true, true_or])
/-! ### halls -/
theorem ins_look (C : Addr) (rs : List Rule) : insO C "look_for" (hallD C rs) = some () := if_pos ⟨rfl, by decide +kernel⟩
theorem ins_sees (C : Addr) (rs : List Rule) : insO C "sees" (hallD C rs) = some () := if_pos ⟨rfl, by decide +kernel⟩
theorem ins_rule (C : Addr) (rs : List Rule) : insO C "rule" (hallD C rs) = some () := if_pos ⟨rfl, by decide +kernel⟩
theorem p_look {C : Addr} {rs : List Rule} {p : Nat} (hp : p < rs.length) : m_Hall_look_for C (hallD C rs) (nd p) = some .non := by
  unfold m_Hall_look_for
  rw [ebind (fld_rules C rs), ebind (len_t _), List.length_map, ebind (p_person hp)]
  rfl
theorem p_hrule {C : Addr} {rs : List Rule} {p : Nat} (hp : p < rs.length) : m_Hall_rule C (hallD C rs) (nd p) = some (rl rs p).d := by
  unfold m_Hall_rule
  rw [ebind (ins_look C rs), ebind (p_look hp), ebind (fld_rules C rs), ebind (ix_t (d := (rl rs p).d) (by rw [List.getElem?_map, rl_get hp]; rfl))]
theorem p_hsees {C : Addr} {rs : List Rule} {p : Nat} (hp : p < rs.length) : m_Hall_sees C (hallD C rs) (nd p) = some (.lst (nl (rl rs p).seen)) := by
  unfold m_Hall_sees
  rw [ebind (ins_look C rs), ebind (p_look hp), ebind (fld_seen C rs), ebind (ix_l (d := .lst (nl (rl rs p).seen)) (by rw [List.getElem?_map, rl_get hp]; rfl)), ebind (lst_l _)]
end K7
namespace K7
open PySem PySem.Spec PyProof.Rows L2 Gd Ge Hm
theorem p_lot {C : Addr} {rs : List Rule} (h : HallOk rs) {st : List Nat} (hs : st.length = rs.length) {p : Nat} (hp : p < rs.length) : m_lot_of C (hallD C rs) (stD st) (nd p) = some (.lst (pl (lotAt (rl rs p).seen st (sg st p)))) := by
  have hf := h.rl hp
  have hl := rise_len hf.rise hf.low
  have hn := h.few
  unfold m_lot_of
  rw [ebind (ix_st (by omega)), ebind (ins_sees C rs), ebind (p_hsees hp), ebind (it_l _)]
  have e : lcG (m_lot_of_c1 (stD st) (nd (sg st p))) (nl (rl rs p).seen) = some ((rl rs p).seen.filterMap fun o => if sg st o < sg st p then some (prd (o, sg st o)) else none) := by
    refine lcG_fm (by omega) fun o ho => ?_
    have hlow := hf.low o ho
    unfold m_lot_of_c1
    rw [ebind (ix_st (by omega)), ebind (lt_n _ _)]
    by_cases c : sg st o < sg st p
    · rw [decide_eq_true c, if_pos c, ct, ebind (ix_st (by omega)), gd2]
      rfl
    · rw [decide_eq_false c, if_neg c, cf]
  rw [ebind e]
  congr 2
  unfold pl lotAt
  rw [List.map_filterMap]
  congr 1
  funext o
  split <;> rfl
theorem p_now {C : Addr} {rs : List Rule} (h : HallOk rs) {st : List Nat} (hs : st.length = rs.length) {p : Nat} (hp : p < rs.length) : m_told_now C (hallD C rs) (stD st) (nd p) = some (nd (turnOf rs st p)) := by
  unfold m_told_now
  rw [ebind (ins_rule C rs), ebind (p_hrule hp), ebind (p_lot h hs hp), ebind (p_told (h.rl hp) h.few (lotAt_ok (h.rl hp) st _))]
  rfl
theorem p_turned {C : Addr} {rs : List Rule} (h : HallOk rs) {st ps : List Nat} (hs : st.length = rs.length) (hp : ∀ p ∈ ps, p < rs.length) (hl : ps.length ≤ 100000) {x : D} (hx : itD x = some (nl ps)) : m_turned C (hallD C rs) (stD st) x = some (stD (turnedBy rs st ps)) := by
  have hn := h.few
  have e1 : dcG (m_turned_c1 C (hallD C rs) (stD st)) (nl ps) = some (mrg [] [] (ps.map fun p => (ik p, nd (turnOf rs st p)))) := by
    refine dcG_mrg hl fun p hpm => ?_
    unfold m_turned_c1
    rw [ebind (p_now h hs (hp p hpm))]
    rfl
  have hv := numVals (fun p : Nat => p) (fun p => nd (turnOf rs st p)) ps (fun p => nd (turnOf rs st p)) (fun _ _ => rfl)
  unfold m_turned
  rw [ebind hx, ebind e1, ebind (enm_st st)]
  have e2 : lcG (m_turned_c2 (mrg [] [] (ps.map fun p => (ik p, nd (turnOf rs st p))))) ((List.range st.length).map fun p => .par [nd p, nd (sg st p)]) = some (nl (turnedBy rs st ps)) := by
    unfold turnedBy nl
    rw [List.map_map]
    refine lcG_mp (by rw [List.length_range]; omega) fun p hpm => ?_
    unfold m_turned_c2
    rw [up2p]
    show (getO _ (nd p) (nd (sg st p))).bind _ = _
    rw [ebind (get_kd _ _ p _), hv p, List.map_id']
    show some (some _) = some (some (nd (if p ∈ ps then turnOf rs st p else sg st p)))
    by_cases c : p ∈ ps
    · rw [if_pos c, if_pos c]
      rfl
    · rw [if_neg c, if_neg c]
      rfl
  rw [ebind e2, ebind (tup_l _)]
  rfl
end K7
namespace K7
open PySem PySem.Spec PyProof.Rows L2 Gd Ge Hm
theorem p_beaten {C : Addr} {rs : List Rule} (h : HallOk rs) {st : List Nat} (hs : st.length = rs.length) : m_beaten C (hallD C rs) (stD st) = some (stD (beat rs st)) := by
  have hn := h.few
  unfold m_beaten
  rw [ebind (ins_no C rs), ebind (p_hlen C rs)]
  rw [ebind (nat_ok (n := rs.length) (by omega)), ebind (rngL1_n (by omega)), ebind (p_turned h hs (fun p hp => List.mem_range.mp hp) (by rw [List.length_range]; omega) (it_l _))]
  rfl
/-! ### histories -/
end K7
namespace K7
open PySem PySem.Spec PyProof.Rows L2 Gd Ge Hm
local macro_rules | `(tactic| walk_at "hs") => `(tactic| simp only [ty_in, ty_ib, ty_tt, ty_ss, tr_b, bs, ct, cf, len_t, len_l, it_t, it_l, eq_s, lit0, lit1, lit2, lit3, lit4, neg1, ti_nd, tup_l, tup_t, lst_t, lst_l, gd0, gd1, gd2, gd3, gd4, gd5, nt, nf, ixt0, ixt1, ixt2, ixt3, ixl0, ixl1, ixl2, ixtm2, ixtm3, up2, up2p, ups, add_n, lt_n, le_n, gt_n, ge_n, eq_n, min_n, max_n, nl_len, pl_len, Bool.false_xor, Bool.true_xor, in_s2, List.length_cons, List.length_nil, Nat.zero_add, Nat.reduceAdd, Nat.reduceEqDiff, w_hk, w_hn, w_hf, w_hs, w_hc, w_kh, w_kn, w_kf, w_ks, w_kc, w_nh, w_nk, w_nf, w_ns, w_nc, w_fh, w_fk, w_fn, w_fs, w_fc, w_sh, w_sk, w_sn, w_sf, w_sc, w_ch, w_ck, w_cn, w_cf, w_cs, decide_true, decide_false, decide_eq_true_eq, if_true, if_false, List.mem_cons, List.not_mem_nil, or_false, false_or, or_true, true_or])

/-! ### histories -/
def hist (rs : List Rule) (st : List Nat) (n : Nat) : List D := (List.range (n + 1)).map fun k => stD (beats rs st k)
theorem hist_succ (rs : List Rule) (st : List Nat) (n : Nat) : hist rs st (n + 1) = hist rs st n ++ [stD (beats rs st (n + 1))] := by
  unfold hist
  rw [List.range_succ, List.map_append]
  rfl
theorem hist_len (rs : List Rule) (st : List Nat) (n : Nat) : (hist rs st n).length = n + 1 := by
  unfold hist
  rw [List.length_map, List.length_range]
theorem hist_last (rs : List Rule) (st : List Nat) : ∀ n, atI (hist rs st n) (-1) = some (stD (beats rs st n))
  | 0 => rfl
  | n + 1 => by
    rw [hist_succ]
    exact at_last
theorem p_hist_loop {C : Addr} {rs : List Rule} (h : HallOk rs) {st : List Nat} (hs : st.length = rs.length) {n : Nat} (hn : n ≤ 1000) :
    loopM (m_history_f1 C (hallD C rs)) (nl (List.range n)) ([stD st], ()) = some (hist rs st n, ()) := by
  obtain ⟨t', e, hI⟩ := loop_ok (step := m_history_f1 C (hallD C rs)) (fun k t => t = (hist rs st k, ()) ∧ k ≤ n) (ds := nl (List.range n)) (t := ([stD st], ())) (k := 0) ⟨rfl, by omega⟩ (fun i t d hd hI => by
    obtain ⟨rfl, hk⟩ := hI
    have hi : i < n := by
      rcases Nat.lt_or_ge i n with c | c
      · exact c
      · rw [List.getElem?_eq_none (by rw [nl_len, List.length_range]; exact c)] at hd
        cases hd
    rw [Nat.zero_add]
    refine ⟨(hist rs st (i + 1), ()), ?_, rfl, by omega⟩
    unfold m_history_f1
    rw [ebind neg1']
    show (atI (hist rs st i) (-1)).bind _ = _
    rw [ebind (hist_last rs st i), ebind (p_beaten h (beats_len hs i)), ebind (app_ok (by rw [hist_len]; omega)), hist_succ]
    rfl)
  rw [e, hI.1]
  rw [nl_len, List.length_range, Nat.zero_add]
end K7
namespace K7
open PySem PySem.Spec PyProof.Rows L2 Gd Ge Hm
local macro_rules | `(tactic| walk_at "hs") => `(tactic| simp only [ty_in, ty_ib, ty_tt, ty_ss, tr_b, bs, ct, cf, len_t, len_l, it_t, it_l, eq_s, lit0, lit1, lit2, lit3, lit4, neg1, ti_nd, tup_l, tup_t, lst_t, lst_l, gd0, gd1, gd2, gd3, gd4, gd5, nt, nf, ixt0, ixt1, ixt2, ixt3, ixl0, ixl1, ixl2, ixtm2, ixtm3, up2, up2p, ups, add_n, lt_n, le_n, gt_n, ge_n, eq_n, min_n, max_n, nl_len, pl_len, Bool.false_xor, Bool.true_xor, in_s2, List.length_cons, List.length_nil, Nat.zero_add, Nat.reduceAdd, Nat.reduceEqDiff, w_hk, w_hn, w_hf, w_hs, w_hc, w_kh, w_kn, w_kf, w_ks, w_kc, w_nh, w_nk, w_nf, w_ns, w_nc, w_fh, w_fk, w_fn, w_fs, w_fc, w_sh, w_sk, w_sn, w_sf, w_sc, w_ch, w_ck, w_cn, w_cf, w_cs, decide_true, decide_false, decide_eq_true_eq, if_true, if_false, List.mem_cons, List.not_mem_nil, or_false, false_or, or_true, true_or])

theorem p_hist {C : Addr} {rs : List Rule} (h : HallOk rs) {st : List Nat} (hs : st.length = rs.length) {n : Nat} (hn : n ≤ 1000) : m_history C (hallD C rs) (stD st) (nd n) = some (.lst (hist rs st n)) := by
  unfold m_history
  rw [ebind (tup_st st), gd1, bs, ebind (rng1_n (by omega)), ebind (p_hist_loop h hs hn)]
end K7
namespace K7
open PySem PySem.Spec PyProof.Rows L2 Gd Ge Hm
local macro_rules | `(tactic| walk_at "hs") => `(tactic| simp only [ty_in, ty_ib, ty_tt, ty_ss, tr_b, bs, ct, cf, len_t, len_l, it_t, it_l, eq_s, lit0, lit1, lit2, lit3, lit4, neg1, ti_nd, tup_l, tup_t, lst_t, lst_l, gd0, gd1, gd2, gd3, gd4, gd5, nt, nf, ixt0, ixt1, ixt2, ixt3, ixl0, ixl1, ixl2, ixtm2, ixtm3, up2, up2p, ups, add_n, lt_n, le_n, gt_n, ge_n, eq_n, min_n, max_n, nl_len, pl_len, Bool.false_xor, Bool.true_xor, in_s2, List.length_cons, List.length_nil, Nat.zero_add, Nat.reduceAdd, Nat.reduceEqDiff, w_hk, w_hn, w_hf, w_hs, w_hc, w_kh, w_kn, w_kf, w_ks, w_kc, w_nh, w_nk, w_nf, w_ns, w_nc, w_fh, w_fk, w_fn, w_fs, w_fc, w_sh, w_sk, w_sn, w_sf, w_sc, w_ch, w_ck, w_cn, w_cf, w_cs, decide_true, decide_false, decide_eq_true_eq, if_true, if_false, List.mem_cons, List.not_mem_nil, or_false, false_or, or_true, true_or])
/-! ### draws -/
def Bx (n : Nat) (b : List D) : Prop := ∃ x y z : Int, b = [.int x, .int y, .int z] ∧ 0 ≤ x ∧ 17 ≤ y ∧ y ≤ 2 ^ 62 ∧ 0 ≤ z ∧ z ≤ (n : Int)
theorem Bx.mono {n m : Nat} {b : List D} (h : Bx n b) (l : n ≤ m) : Bx m b := by
  obtain ⟨x, y, z, h1, h2, h3, h4, h5, h6⟩ := h
  exact ⟨x, y, z, h1, h2, h3, h4, h5, by omega⟩
theorem nd_of {i : Int} (h : 0 ≤ i) : D.int i = nd i.toNat := by
  unfold nd
  rw [Int.toNat_of_nonneg h]
theorem mod_i {i j : Int} (h : j ≠ 0) : modD (.int i) (.int j) = some (.int (i.fmod j)) := iD_ok h
theorem fdiv_i {i j : Int} (h : CDivN i j) : fdivD (.int i) (.int j) = some (.int (i.fdiv j)) := iD_ok h
theorem pow_i {i j : Int} (h : CPow i j) : powD (.int i) (.int j) = some (.int (i ^ j.toNat)) := iD_ok h
theorem mul_i {i j : Int} (h : CMul i j) : mulD (.int i) (.int j) = some (.int (i * j)) := if_pos h
theorem add_i (i j : Int) : addD (.int i) (.int j) = some (.int (i + j)) := id rfl
theorem gt_i (i j : Int) : gtD (.int i) (.int j) = some (decide (i > j)) := id rfl
theorem b0 (x y z : D) : ixD (.lst [x, y, z]) (.int 0) = some x := id rfl
theorem b1 (x y z : D) : ixD (.lst [x, y, z]) (.int 1) = some y := id rfl
theorem b2 (x y z : D) : ixD (.lst [x, y, z]) (.int 2) = some z := id rfl
theorem s0 (x y z d : D) : setO [x, y, z] (.int 0) d = some [d, y, z] := id rfl
theorem s2 (x y z d : D) : setO [x, y, z] (.int 2) d = some [x, y, d] := id rfl
theorem dr_take {n c : Nat} {b : List D} (hb : Bx n b) (hn : n ≤ 1000000000) (h1 : 1 ≤ c) (h2 : c ≤ 100000000) : ∃ j b', m_law_take b (nd c) = some (nd j, b') ∧ j < c ∧ Bx (n + 1) b' := by
  obtain ⟨x, y, z, rfl, hx, hy, hy2, hz, hzn⟩ := hb
  have hc0 : (c : Int) ≠ 0 := by omega
  have hcp : (0 : Int) < c := by omega
  have hcd : ∀ i : Int, CDivN i (c : Int) := fun i => ⟨hc0, by omega⟩
  unfold m_law_take nd
  rw [ebind (b0 _ _ _), ebind (gt_i _ _)]
  by_cases e : x > 0
  · rw [decide_eq_true e, ct, ebind (b0 _ _ _), ebind (mod_i hc0), ebind (b0 _ _ _), ebind (fdiv_i (hcd x)), ebind (s0 _ _ _ _)]
    have := fmod2 x hcp
    refine ⟨(x.fmod c).toNat, _, by rw [nd_of this.1]; rfl, by omega, _, _, _, rfl, Int.fdiv_nonneg hx (by omega), hy, hy2, hz, by omega⟩
  · have hz1 : 0 ≤ z + 1 ∧ z + 1 ≤ 1000000001 := ⟨by omega, by omega⟩
    have p1 : CPow (y + 39373 * (z + 1)) 5 := ⟨by decide, by decide, by omega⟩
    have m1 := fmod2 ((y + 39373 * (z + 1)) ^ (5 : Int).toNat) (show (0 : Int) < 2147483647 by decide)
    have m2 := fmod2 (((y + 39373 * (z + 1)) ^ (5 : Int).toNat).fmod 2147483647) (show (0 : Int) < 40009 by decide)
    have c1 : CMul 39373 (z + 1) := .inl ⟨by decide, by decide⟩
    have c2 : ∀ i : Int, CMul i ((((y + 39373 * (z + 1)) ^ (5 : Int).toNat).fmod 2147483647).fmod 40009 + 7 + (z + 1)) := fun i => .inr ⟨by omega, by omega⟩
    have c3 : ∀ i : Int, CMul i 48271 := fun i => .inr ⟨by decide, by decide⟩
    have d1 : ∀ i : Int, CDivN i 1000003 := fun i => ⟨by decide, by decide⟩
    have d2 : ∀ i : Int, CDivN i 64 := fun i => ⟨by decide, by decide⟩
    rw [decide_eq_false e, cf, ebind (b2 _ _ _), ebind (add_i _ _), ebind (s2 _ _ _ _), ebind (b1 _ _ _), ebind (b2 _ _ _), ebind (mul_i c1), ebind (add_i _ _), ebind (pow_i p1), ebind (mod_i (by decide)),
      ebind (b2 _ _ _), ebind (add_i _ _), ebind (b1 _ _ _), ebind (fdiv_i (d1 _)), ebind (add_i _ _), ebind (mod_i (by decide)), ebind (add_i _ _), ebind (b2 _ _ _), ebind (add_i _ _), ebind (mul_i (c2 _)), ebind (mod_i (by decide)),
      ebind (mul_i (c3 _)), ebind (add_i _ _), ebind (mod_i (by decide)), ebind (fdiv_i (d2 _)), ebind (mod_i hc0)]
    refine ⟨_, _, by rw [nd_of (fmod2 _ hcp).1]; rfl, ?_, _, _, _, rfl, hx, hy, hy2, hz1.1, by omega⟩
    have := fmod2 (((((((((y + 39373 * (z + 1)) ^ (5 : Int).toNat).fmod 2147483647 + (z + 1) + y.fdiv 1000003) * ((((y + 39373 * (z + 1)) ^ (5 : Int).toNat).fmod 2147483647).fmod 40009 + 7 + (z + 1))).fmod 2147483629) * 48271 + ((y + 39373 * (z + 1)) ^ (5 : Int).toNat).fmod 2147483647).fmod 2147483587).fdiv 64)) hcp
    omega
theorem lcB_dr {α : Type} {f : α → D} {step : List D × Unit → D → Option ((List D × Unit) × Option D)} (c : Nat) (Q : α → Option D → Prop) (P : List α → List D → Prop) (h0 : P [] []) (hc : ∀ x xs o os, Q x o → P xs os → P (x :: xs) (ocons o os)) :
    ∀ (xs : List α), (∀ x ∈ xs, ∀ n b, n + c ≤ 1000000 → Bx n b → ∃ o b', step (b, ()) (f x) = some ((b', ()), o) ∧ Q x o ∧ Bx (n + c) b') → ∀ n b, n + xs.length * c ≤ 1000000 → Bx n b →
    ∃ os b', lcB step (xs.map f) (b, ()) = some ((b', ()), os) ∧ P xs os ∧ Bx (n + xs.length * c) b'
  | [], _, n, b, hn, hb => ⟨[], b, rfl, h0, hb.mono (by omega)⟩
  | x :: xs, h, n, b, hn, hb => by
    rw [List.length_cons, Nat.succ_mul] at hn
    obtain ⟨o, b1, e1, q1, k1⟩ := h x (List.mem_cons_self ..) n b (by omega) hb
    obtain ⟨os, b2, e2, q2, k2⟩ := lcB_dr c Q P h0 hc xs (fun y hy => h y (List.mem_cons_of_mem _ hy)) (n + c) b1 (by omega) k1
    refine ⟨ocons o os, b2, ?_, hc _ _ _ _ q1 q2, k2.mono (by rw [List.length_cons, Nat.succ_mul]; omega)⟩
    show (step (b, ()) (f x)).bind _ = _
    rw [ebind e1]
    show (lcB step (xs.map f) (b1, ())).bind _ = _
    rw [ebind e2]
theorem ixl_any {ds : List D} {ks : List Nat} (h : ds = nl ks) {j : Nat} (hj : j < ks.length) : ∃ k ∈ ks, ixD (.lst ds) (nd j) = some (nd k) := by
  subst h
  refine ⟨ks[j], List.getElem_mem hj, ix_l ?_⟩
  unfold nl
  rw [List.getElem?_map, List.getElem?_eq_getElem hj]
  rfl
theorem fine_ones {N : Nat} {ps : List Nat} (hr : ps.Pairwise (· < ·)) (hlow : ∀ p ∈ ps, p < N) {r : Rule} (h : r.ties = ones ps) : r.fine N := by
  refine ⟨?_, ?_, ?_⟩
  · unfold Rule.seen
    rw [h, seen_ones]
    exact hr
  · unfold Rule.seen
    rw [h, seen_ones]
    exact hlow
  · rw [h]
    intro t ht
    obtain ⟨p, _, rfl⟩ := List.mem_map.mp ht
    exact Nat.le_refl _
end K7
namespace K7
open PySem PySem.Spec PyProof.Rows L2 Gd Ge Hm
local macro_rules | `(tactic| walk_at "hs") => `(tactic| simp only [ty_in, ty_ib, ty_tt, ty_ss, tr_b, bs, ct, cf, len_t, len_l, it_t, it_l, eq_s, lit0, lit1, lit2, lit3, lit4, neg1, ti_nd, tup_l, tup_t, lst_t, lst_l, gd0, gd1, gd2, gd3, gd4, gd5, nt, nf, ixt0, ixt1, ixt2, ixt3, ixl0, ixl1, ixl2, ixtm2, ixtm3, up2, up2p, ups, add_n, lt_n, le_n, gt_n, ge_n, eq_n, min_n, max_n, nl_len, pl_len, Bool.false_xor, Bool.true_xor, in_s2, List.length_cons, List.length_nil, Nat.zero_add, Nat.reduceAdd, Nat.reduceEqDiff, w_hk, w_hn, w_hf, w_hs, w_hc, w_kh, w_kn, w_kf, w_ks, w_kc, w_nh, w_nk, w_nf, w_ns, w_nc, w_fh, w_fk, w_fn, w_fs, w_fc, w_sh, w_sk, w_sn, w_sf, w_sc, w_ch, w_ck, w_cn, w_cf, w_cs, decide_true, decide_false, decide_eq_true_eq, if_true, if_false, List.mem_cons, List.not_mem_nil, or_false, false_or, or_true, true_or])
theorem dr_some {n : Nat} {b : List D} {ps : List Nat} {odds : Nat} (h1 : 1 ≤ odds) (h2 : odds ≤ 1000) (hn : n + ps.length ≤ 1000000) (hl : ps.length ≤ 100) (hb : Bx n b) :
    ∃ qs b', m_law_some b (.lst (nl ps)) (nd odds) = some (.lst (nl qs), b') ∧ qs.Sublist ps ∧ Bx (n + ps.length) b' := by
  obtain ⟨os, b', e, ⟨qs, rfl, hs⟩, hb'⟩ := lcB_dr (f := nd) (step := m_law_some_c1 (nd odds)) 1 (fun x o => o = some (nd x) ∨ o = none) (fun xs os => ∃ qs, os = nl qs ∧ qs.Sublist xs) ⟨[], rfl, .slnil⟩ (fun x xs o os hq ⟨qs, e, hs⟩ => by
      subst e
      rcases hq with rfl | rfl
      · exact ⟨x :: qs, rfl, hs.cons₂ x⟩
      · exact ⟨qs, rfl, hs.cons x⟩) ps (fun x _ n b hn hb => by
      obtain ⟨j, b', e, hj, hb'⟩ := dr_take hb (by omega) h1 (by omega)
      unfold m_law_some_c1
      rw [ebind e]
      show ∃ o b'_1, (eqD false (nd j) (nd 0)).bind _ = _ ∧ _
      rw [ebind (eq_n _ _ _)]
      by_cases c : j = 0
      · rw [decide_eq_true c]
        exact ⟨_, _, rfl, .inl rfl, hb'⟩
      · rw [decide_eq_false c]
        exact ⟨_, _, rfl, .inr rfl, hb'⟩) n b (by omega) hb
  refine ⟨qs, b', ?_, hs, hb'.mono (by omega)⟩
  unfold m_law_some
  rw [ebind (it_l _), gd_ok (by rw [nl_len]; omega)]
  unfold nl at e ⊢
  rw [ebind e]
theorem dr_sum {n N far : Nat} {b : List D} {ps : List Nat} (hr : ps.Pairwise (· < ·)) (hlow : ∀ p ∈ ps, p < N) (hf : 1 ≤ far ∧ far ≤ 1000) (hn : n + 300 ≤ 1000000) (hl : ps.length ≤ 100) (hb : Bx n b) :
    ∃ r b', m_law_sum_rule b (.lst (nl ps)) (nd far) = some (Rule.d r, b') ∧ r.fine N ∧ Bx (n + 204) b' := by
  obtain ⟨j1, b1, e1, h1, k1⟩ := dr_take (c := 4) hb (by omega) (by omega) (by omega)
  obtain ⟨j2, b2, e2, h2, k2⟩ := dr_take (c := 4) k1 (by omega) (by omega) (by omega)
  obtain ⟨own, _, e3⟩ := ixl_any (ds := [nd 0, nd 0, nd 1, nd j1]) (ks := [0, 0, 1, j1]) rfl (j := j2) h2
  obtain ⟨os, b3, e4, ⟨ts, rfl, ht1, ht2⟩, k3⟩ := lcB_dr (f := nd) (step := m_law_sum_rule_c1 (nd far)) 2 (fun x o => ∃ w, 1 ≤ w ∧ o = some (prd (x, w))) (fun xs os => ∃ ts : List (Nat × Nat), os = pl ts ∧ ts.map Prod.fst = xs ∧ ∀ t ∈ ts, 1 ≤ t.2)
    ⟨[], rfl, rfl, fun _ h => absurd h List.not_mem_nil⟩ (fun x xs o os ⟨w, hw, e⟩ ⟨ts, e2, h1, h2⟩ => by
      subst e e2
      refine ⟨(x, w) :: ts, rfl, by rw [List.map_cons, h1], fun t ht => ?_⟩
      rcases List.mem_cons.mp ht with rfl | ht
      · exact hw
      · exact h2 t ht) ps (fun x _ n b hn hb => by
      obtain ⟨i1, c1, g1, l1, k1⟩ := dr_take (c := far) hb (by omega) hf.1 (by omega)
      obtain ⟨i2, c2, g2, l2, k2⟩ := dr_take (c := 4) k1 (by omega) (by omega) (by omega)
      obtain ⟨w, hw, g3⟩ := ixl_any (ds := [nd 1, nd 1, nd 2, nd (1 + i1)]) (ks := [1, 1, 2, 1 + i1]) rfl (j := i2) l2
      unfold m_law_sum_rule_c1
      rw [ebind g1]
      show ∃ o b', (addD (nd 1) (nd i1)).bind _ = _ ∧ _
      rw [ebind (add_n _ _), gd4, bs]
      show ∃ o b', (m_law_take c1 (nd 4)).bind _ = _ ∧ _
      rw [ebind g2]
      show ∃ o b', (ixD (.lst [nd 1, nd 1, nd 2, nd (1 + i1)]) (nd i2)).bind _ = _ ∧ _
      rw [ebind g3, gd2]
      refine ⟨_, _, rfl, ⟨w, ?_, rfl⟩, k2⟩
      simp only [List.mem_cons, List.not_mem_nil, or_false] at hw
      omega) (n + 2) b2 (by omega) k2
  obtain ⟨j5, b5, e5, h5, k5⟩ := dr_take (c := 4) k3 (by omega) (by omega) (by omega)
  obtain ⟨j6, b6, e6, h6, k6⟩ := dr_take (c := 6) k5 (by omega) (by omega) (by omega)
  unfold m_law_sum_rule
  show ∃ r b', (m_law_take b (nd 4)).bind _ = _ ∧ _
  rw [ebind e1, gd4, bs]
  show ∃ r b', (m_law_take b1 (nd 4)).bind _ = _ ∧ _
  rw [ebind e2]
  show ∃ r b', (ixD (.lst [nd 0, nd 0, nd 1, nd j1]) (nd j2)).bind _ = _ ∧ _
  rw [ebind e3, ebind (it_l _), gd_ok (by rw [nl_len]; omega)]
  unfold nl at *
  rw [ebind e4, ebind (tup_l _)]
  show ∃ r b', (m_law_take b3 (nd 4)).bind _ = _ ∧ _
  rw [ebind e5]
  show ∃ r b', (gtD (nd j5) (nd 0)).bind _ = _ ∧ _
  rw [ebind (gt_n _ _)]
  by_cases c : 0 < j5
  · rw [decide_eq_true c, ct, gd3]
    exact ⟨.sum own ts, b5, rfl, ⟨by unfold Rule.seen Rule.ties; rw [ht1]; exact hr, by unfold Rule.seen Rule.ties; rw [ht1]; exact hlow, ht2⟩, k5.mono (by omega)⟩
  · rw [decide_eq_false c, cf]
    show ∃ r b', (m_law_take b5 (nd 6)).bind _ = _ ∧ _
    rw [ebind e6, gd4]
    exact ⟨.cap own ts j6, b6, rfl, ⟨by unfold Rule.seen Rule.ties; rw [ht1]; exact hr, by unfold Rule.seen Rule.ties; rw [ht1]; exact hlow, ht2⟩, k6.mono (by omega)⟩
theorem dr_rule {n N far : Nat} {b : List D} {x : D} {ps : List Nat} (hr : ps.Pairwise (· < ·)) (hlow : ∀ p ∈ ps, p < N) (hf : 1 ≤ far ∧ far ≤ 1000) (hn : n + 500 ≤ 1000000) (hl : ps.length ≤ 100) (hb : Bx n b) :
    ∃ r b', m_law_rule b x (.lst (nl ps)) (nd far) = some (Rule.d r, b') ∧ r.fine N ∧ Bx (n + 400) b' := by
  obtain ⟨qs, b1, e1, h1, k1⟩ := dr_some (odds := 2) (by omega) (by omega) (by omega) hl hb
  have hqr : qs.Pairwise (· < ·) := hr.sublist h1
  have hql : ∀ p ∈ qs, p < N := fun p hp => hlow p (h1.mem hp)
  have hqn : qs.length ≤ 100 := Nat.le_trans h1.length_le hl
  obtain ⟨w, b2, e2, h2, k2⟩ := dr_take (c := 10) k1 (by omega) (by omega) (by omega)
  unfold m_law_rule
  show ∃ r b', (m_law_some b (.lst (nl ps)) (nd 2)).bind _ = _ ∧ _
  rw [ebind e1]
  show ∃ r b', (m_law_take b1 (nd 10)).bind _ = _ ∧ _
  rw [ebind e2]
  show ∃ r b', (eqD false (nd w) (nd 0)).bind _ = _ ∧ _
  rw [ebind (eq_n _ _ _)]
  by_cases c0 : w = 0
  · obtain ⟨j, b3, e3, h3, k3⟩ := dr_take (c := 7) k2 (by omega) (by omega) (by omega)
    rw [decide_eq_true c0, Bool.false_xor, ct]
    show ∃ r b', (m_law_take b2 (nd 7)).bind _ = _ ∧ _
    rw [ebind e3, gd2]
    exact ⟨.held j, b3, rfl, ⟨.nil, fun _ h => absurd h List.not_mem_nil, fun _ h => absurd h List.not_mem_nil⟩, k3.mono (by omega)⟩
  rw [decide_eq_false c0, Bool.false_xor, cf]
  show ∃ r b', (eqD false (nd w) (nd 1)).bind _ = _ ∧ _
  rw [ebind (eq_n _ _ _)]
  by_cases c1 : w = 1
  · obtain ⟨j, b3, e3, h3, k3⟩ := dr_take (c := 3) k2 (by omega) (by omega) (by omega)
    rw [decide_eq_true c1, Bool.false_xor, ct]
    show ∃ r b', (m_law_take b2 (nd 3)).bind _ = _ ∧ _
    rw [ebind e3, ebind (tup_l _), gd3]
    exact ⟨.kinds j qs, b3, rfl, fine_ones hqr hql rfl, k3.mono (by omega)⟩
  rw [decide_eq_false c1, Bool.false_xor, cf]
  show ∃ r b', (eqD false (nd w) (nd 2)).bind _ = _ ∧ _
  rw [ebind (eq_n _ _ _)]
  by_cases c2 : w = 2
  · rw [decide_eq_true c2, Bool.false_xor, ct]
    show ∃ r b', (tupD (.lst (nl qs))).bind _ = _ ∧ _
    rw [ebind (tup_l _), gd2]
    exact ⟨.next qs, b2, rfl, fine_ones hqr hql rfl, k2.mono (by omega)⟩
  rw [decide_eq_false c2, Bool.false_xor, cf]
  show ∃ r b', (eqD false (nd w) (nd 3)).bind _ = _ ∧ _
  rw [ebind (eq_n _ _ _)]
  by_cases c3 : w = 3
  · rw [decide_eq_true c3, Bool.false_xor, ct]
    show ∃ r b', (tupD (.lst (nl qs))).bind _ = _ ∧ _
    rw [ebind (tup_l _), gd2]
    exact ⟨.free qs, b2, rfl, fine_ones hqr hql rfl, k2.mono (by omega)⟩
  rw [decide_eq_false c3, Bool.false_xor, cf]
  obtain ⟨r, b3, e3, h3, k3⟩ := dr_sum hqr hql hf (by omega) hqn k2
  show ∃ r b', (m_law_sum_rule b2 (.lst (nl qs)) (nd far)).bind _ = _ ∧ _
  rw [ebind e3]
  exact ⟨r, b3, rfl, h3, k3.mono (by omega)⟩
end K7
namespace K7
open PySem PySem.Spec PyProof.Rows L2 Gd Ge Hm
local macro_rules | `(tactic| walk_at "hs") => `(tactic| simp only [ty_in, ty_ib, ty_tt, ty_ss, tr_b, bs, ct, cf, len_t, len_l, it_t, it_l, eq_s, lit0, lit1, lit2, lit3, lit4, neg1, ti_nd, tup_l, tup_t, lst_t, lst_l, gd0, gd1, gd2, gd3, gd4, gd5, nt, nf, ixt0, ixt1, ixt2, ixt3, ixl0, ixl1, ixl2, ixtm2, ixtm3, up2, up2p, ups, add_n, lt_n, le_n, gt_n, ge_n, eq_n, min_n, max_n, nl_len, pl_len, Bool.false_xor, Bool.true_xor, in_s2, List.length_cons, List.length_nil, Nat.zero_add, Nat.reduceAdd, Nat.reduceEqDiff, w_hk, w_hn, w_hf, w_hs, w_hc, w_kh, w_kn, w_kf, w_ks, w_kc, w_nh, w_nk, w_nf, w_ns, w_nc, w_fh, w_fk, w_fn, w_fs, w_fc, w_sh, w_sk, w_sn, w_sf, w_sc, w_ch, w_ck, w_cn, w_cf, w_cs, decide_true, decide_false, decide_eq_true_eq, if_true, if_false, List.mem_cons, List.not_mem_nil, or_false, false_or, or_true, true_or])
/-! ### halls that are drawn -/
theorem range_rise (n : Nat) : (List.range n).Pairwise (· < ·) := List.pairwise_lt_range
theorem dr_strewn {n : Nat} {b : List D} {ps : List Nat} (hn : n + ps.length ≤ 1000000) (hl : ps.length ≤ 100) (hb : Bx n b) :
    ∃ qs b', m_law_strewn b (.lst (nl ps)) = some (.lst (nl qs), b') ∧ qs.Perm ps ∧ Bx (n + ps.length) b' := by
  obtain ⟨t', e, b', qs, rfl, hp, hb'⟩ := loop_ok (step := m_law_strewn_f1) (fun k t => ∃ b' qs, t = (b', nl qs, ()) ∧ qs.Perm (ps.take k) ∧ Bx (n + k) b') (ds := nl ps) (t := (b, [], ())) (k := 0) ⟨b, [], rfl, by simp, hb⟩ (fun i t d hd ⟨b1, qs, e, hp, h1⟩ => by
    subst e
    rw [Nat.zero_add] at hp h1
    unfold nl at hd
    rw [List.getElem?_map] at hd
    obtain ⟨p, hp2, rfl⟩ := Option.map_eq_some_iff.mp hd
    have hi : i < ps.length := by
      rcases Nat.lt_or_ge i ps.length with c | c
      · exact c
      · rw [List.getElem?_eq_none c] at hp2
        cases hp2
    have hql : qs.length = i := by
      rw [hp.length_eq, List.length_take]
      omega
    obtain ⟨j, b2, e2, hj, h2⟩ := dr_take (c := qs.length + 1) h1 (by omega) (by omega) (by omega)
    refine ⟨(b2, nl (qs.take j ++ p :: qs.drop j), ()), ?_, b2, _, rfl, ?_, h2.mono (by omega)⟩
    · unfold m_law_strewn_f1
      show (lenD (.lst (nl qs))).bind _ = _
      rw [ebind (len_l _), nl_len]
      show (addD (nd qs.length) (nd 1)).bind _ = _
      rw [ebind (add_n _ _)]
      show (m_law_take b1 (nd (qs.length + 1))).bind _ = _
      rw [ebind e2]
      have e3 : mIns (nl qs) [nd j, nd p] = some (.non, nl (qs.take j ++ p :: qs.drop j)) := by
        show (if 0 ≤ (j : Int) ∧ (j : Int) ≤ 100000 then gd ((nl qs).length + 1) (some (D.non, (nl qs).take (j : Int).toNat ++ [nd p] ++ (nl qs).drop (j : Int).toNat)) else none) = _
        rw [if_pos ⟨by omega, by omega⟩, gd_ok (by rw [nl_len]; omega), Int.toNat_natCast]
        unfold nl
        rw [List.map_append, List.map_cons, List.map_take, List.map_drop, List.append_assoc]
        rfl
      show (mIns (nl qs) [nd j, nd p]).bind _ = _
      rw [ebind e3]
    · rw [Nat.zero_add, List.take_succ, hp2]
      refine List.Perm.trans ?_ (List.Perm.append_right [p] hp)
      refine List.Perm.trans List.perm_middle ?_
      rw [List.take_append_drop]
      exact (List.perm_append_singleton p qs).symm)
  refine ⟨qs, b', ?_, ?_, ?_⟩
  · unfold m_law_strewn
    rw [gd0, bs, ebind (it_l _), ebind e]
  · rw [Nat.zero_add, nl_len, List.take_length] at hp
    exact hp
  · rw [Nat.zero_add, nl_len] at hb'
    exact hb'
theorem isort_n {ns : List Nat} (h : ns.Nodup) : ∃ ms : List Nat, sorD (.lst (nl ns)) = some (.lst (nl ms)) ∧ ms.Pairwise (· < ·) ∧ ms.Perm ns := by
  have hp := isort_perm (ns.map Int.ofNat)
  have hs := isort_sorted (ns.map Int.ofNat)
  have hc : ((isort (ns.map Int.ofNat)).map Int.toNat).map Int.ofNat = isort (ns.map Int.ofNat) := by
    rw [List.map_map]
    conv => rhs; rw [← List.map_id (isort (ns.map Int.ofNat))]
    refine List.map_congr_left fun x hx => ?_
    obtain ⟨n, _, rfl⟩ := List.mem_map.mp (hp.mem_iff.mp hx)
    rfl
  have hpp : ((isort (ns.map Int.ofNat)).map Int.toNat).Perm ns := by
    have := hp.map Int.toNat
    rw [List.map_map] at this
    refine this.trans ?_
    rw [show (Int.toNat ∘ Int.ofNat) = id from rfl, List.map_id]
  refine ⟨(isort (ns.map Int.ofNat)).map Int.toNat, ?_, ?_, hpp⟩
  · show (ints? _).bind _ = _
    rw [ints_nl, nl_dI, hc]
    rfl
  · have hn : ((isort (ns.map Int.ofNat)).map Int.toNat).Nodup := hpp.symm.nodup h
    rw [← hc, List.pairwise_map] at hs
    exact (hs.and hn).imp fun {a b} ⟨h1, h2⟩ => by
      have h1 : (a : Int) ≤ (b : Int) := h1
      omega
theorem reps_non {c : Nat} (h : c ≤ 100000) : mulC (.lst [.non]) (nd c) = some (List.replicate c D.non) := by
  have e : -(2 ^ 63) ≤ (c : Int) ∧ (c : Int) < 2 ^ 63 := ⟨by omega, by omega⟩
  have r : reps (c : Int) [D.non] = List.replicate c D.non := by
    unfold reps
    rw [Int.toNat_natCast]
    clear h e
    induction c with
    | zero => rfl
    | succ c ih =>
      rw [List.replicate_succ, List.flatten_cons, ih]
      rfl
  unfold mulC nd
  simp only [e, and_self, if_true]
  rw [gd_ok (by rw [Int.toNat_natCast]; show 1 * c ≤ 100000; omega), r]
theorem cut_hi (ns : List Nat) (k : Nat) : slD none (some (k : Int)) (.lst (nl ns)) = some (.lst (nl (ns.take k))) := by
  show some (D.lst (cutD (nl ns) none (some (k : Int)))) = _
  rw [nl_dI, cutD_dI, cutL_hi, nl_dI, List.map_take]
theorem set_n {ds : List D} {p : Nat} {d : D} (h : p < ds.length) : setO ds (nd p) d = some (ds.set p d) := by
  show (ixN ds.length (p : Int)).map _ = _
  rw [ixN_nn (by omega) (by omega), Int.toNat_natCast]
  rfl
theorem dr_flat {n most : Nat} {b : List D} (h1 : 1 ≤ most) (h2 : most ≤ 12) (hn : n + 10000 ≤ 1000000) (hb : Bx n b) :
    ∃ rs b', m_law_flat b (nd most) = some (rsD rs, b') ∧ HallOk rs ∧ 1 ≤ rs.length ∧ rs.length ≤ 12 ∧ Bx (n + 5000) b' := by
  obtain ⟨m, b1, e1, hm, k1⟩ := dr_take (c := most) hb (by omega) h1 (by omega)
  obtain ⟨qs, b2, e2, hq, k2⟩ := dr_strewn (ps := List.range (1 + m)) (by rw [List.length_range]; omega) (by rw [List.length_range]; omega) k1
  rw [List.length_range] at k2
  have hqn : qs.Nodup := hq.symm.nodup List.nodup_range
  have hql : qs.length = 1 + m := by rw [hq.length_eq, List.length_range]
  have hqm : ∀ p, p ∈ qs ↔ p < 1 + m := fun p => by rw [hq.mem_iff, List.mem_range]
  have e3 := enum_mp nd qs
  obtain ⟨t', e, R, g, b', rfl, hl, hv, hg, hb'⟩ := loop_ok (step := m_law_flat_f1 (.lst (nl qs), b2) (nd (1 + m))) (fun k t => ∃ (R : List D) (g : Nat → Rule) (b' : List D), t = (b', R, ()) ∧ R.length = 1 + m ∧ (∀ p ∈ qs.take k, R[p]? = some (g p).d) ∧ (∀ p, (g p).fine (1 + m)) ∧ Bx (n + 1 + (1 + m) + k * 400) b')
    (ds := enumD (nl qs)) (t := (b2, List.replicate (1 + m) D.non, ())) (k := 0) ⟨_, fun _ => .held 0, b2, rfl, List.length_replicate, fun p hp => absurd hp List.not_mem_nil, fun p => ⟨.nil, fun _ h => absurd h List.not_mem_nil, fun _ h => absurd h List.not_mem_nil⟩, k2.mono (by omega)⟩ (fun i t d hd hI => by
    obtain ⟨R, g, c1, rfl, hl, hv, hg, hc1⟩ := hI
    rw [Nat.zero_add] at hv hc1
    rw [show enumD (nl qs) = _ from e3, List.getElem?_map, List.getElem?_zipIdx, Option.map_map] at hd
    obtain ⟨p, hp, rfl⟩ := Option.map_eq_some_iff.mp hd
    have hi : i < qs.length := by
      rcases Nat.lt_or_ge i qs.length with c | c
      · exact c
      · rw [List.getElem?_eq_none c] at hp
        cases hp
    have hpm : p < 1 + m := (hqm p).mp (List.mem_of_getElem? hp)
    obtain ⟨ms, s1, s2, s3⟩ := isort_n (ns := qs.take i) (hqn.sublist (List.take_sublist i qs))
    have hms : ms.length ≤ 100 := by
      rw [s3.length_eq, List.length_take]
      omega
    obtain ⟨r, c2, r1, r2, r3⟩ := dr_rule (far := 9) (N := 1 + m) (x := nd (1 + m)) s2 (fun q hq2 => (hqm q).mp (List.mem_of_mem_take (s3.mem_iff.mp hq2))) (by omega) (by omega) hms hc1
    refine ⟨(c2, R.set p r.d, ()), ?_, R.set p r.d, fun q => if q = p then r else g q, c2, rfl, by rw [List.length_set]; exact hl, fun q hq2 => ?_, fun q => ?_, r3.mono (by rw [Nat.zero_add, Nat.succ_mul]; omega)⟩
    · unfold m_law_flat_f1
      show (unp [5, 6] (.par [nd (0 + i), nd p])).bind _ = _
      rw [up2p, Nat.zero_add]
      show (intO (nd i)).bind _ = _
      rw [ebind (ti_nd i)]
      show (slD none (some (i : Int)) (.lst (nl qs))).bind _ = _
      rw [ebind (cut_hi qs i), ebind s1]
      show (m_law_rule c1 (nd (1 + m)) (.lst (nl ms)) (nd 9)).bind _ = _
      rw [ebind r1]
      show (setO R (nd p) r.d).bind _ = _
      rw [ebind (set_n (by omega))]
    · rw [List.getElem?_set]
      by_cases c : p = q
      · subst c
        rw [if_pos rfl, if_pos (by omega)]
        show some r.d = some (if p = p then r else g p).d
        rw [if_pos rfl]
      · rw [if_neg c]
        show R[q]? = some (if q = p then r else g q).d
        rw [if_neg (Ne.symm c)]
        rw [Nat.zero_add, List.take_succ, hp] at hq2
        rcases List.mem_append.mp hq2 with h | h
        · exact hv q h
        · exact absurd (List.mem_singleton.mp h).symm c
    · show (if q = p then r else g q).fine (1 + m)
      split
      · exact r2
      · exact hg q)
  have el : (enumD (nl qs)).length = 1 + m := by
    rw [show enumD (nl qs) = _ from e3, List.length_map, List.length_zipIdx, hql]
  rw [Nat.zero_add, el] at hv hb'
  refine ⟨(List.range (1 + m)).map g, b', ?_, ⟨fun r hr => ?_, ?_⟩, ?_, ?_, hb'.mono (by have : (1 + m) * 400 ≤ 12 * 400 := Nat.mul_le_mul_right 400 (by omega); omega)⟩
  · unfold m_law_flat
    rw [ebind e1]
    show (addD (nd 1) (nd m)).bind _ = _
    rw [ebind (add_n _ _), ebind (rngL1_n (by omega))]
    show (m_law_strewn b1 (.lst (nl (List.range (1 + m))))).bind _ = _
    rw [ebind e2, gd1, bs, ebind (reps_non (by omega))]
    show (some (enumD (nl qs))).bind _ = _
    rw [bs, ebind e]
    show some (D.lst R, b') = _
    have : R = ((List.range (1 + m)).map g).map Rule.d := by
      refine List.ext_getElem? fun p => ?_
      rw [List.map_map, List.getElem?_map]
      rcases Nat.lt_or_ge p (1 + m) with c | c
      · rw [List.getElem?_range c]
        exact hv p (by rw [List.take_of_length_le (by omega)]; exact (hqm p).mpr c)
      · rw [List.getElem?_eq_none (by omega), List.getElem?_eq_none (by rw [List.length_range]; exact c)]
        rfl
    rw [this]
    rfl
  · obtain ⟨p, _, rfl⟩ := List.mem_map.mp hr
    rw [List.length_map, List.length_range]
    exact hg p
  · rw [List.length_map, List.length_range]
    omega
  · rw [List.length_map, List.length_range]
    omega
  · rw [List.length_map, List.length_range]
    omega
theorem dr_hall {n : Nat} {b : List D} (hn : n + 10000 ≤ 1000000) (hb : Bx n b) :
    ∃ rs b', m_law_hall b = some (rsD rs, b') ∧ HallOk rs ∧ 1 ≤ rs.length ∧ rs.length ≤ 12 ∧ Bx (n + 5000) b' := by
  obtain ⟨m, b1, e1, hm, k1⟩ := dr_take (c := 5) hb (by omega) (by omega) (by omega)
  unfold m_law_hall
  show ∃ rs b', (m_law_take b (nd 5)).bind _ = _ ∧ _
  rw [ebind e1]
  show ∃ rs b', (addD (nd 1) (nd m)).bind _ = _ ∧ _
  rw [ebind (add_n _ _)]
  show ∃ rs b', (eqD false (nd (1 + m)) (nd 5)).bind _ = _ ∧ _
  rw [ebind (eq_n _ _ _), Bool.false_xor]
  by_cases c5 : 1 + m = 5
  · rw [decide_eq_true c5, ct, gd0, bs]
    obtain ⟨t', e, rs, b', rfl, hl, hf, hb'⟩ := loop_ok (step := m_law_hall_f2) (fun k t => ∃ (rs : List Rule) (b' : List D), t = (b', rs.map Rule.d, ()) ∧ rs.length = k ∧ (∀ r ∈ rs, r.fine 5) ∧ Bx (n + 1 + k * 6) b')
      (ds := nl (List.range 5)) (t := (b1, [], ())) (k := 0) ⟨[], b1, rfl, rfl, fun _ h => absurd h List.not_mem_nil, k1.mono (by omega)⟩ (fun i t d hd hI => by
      obtain ⟨rs, c1, rfl, hl, hf, hc1⟩ := hI
      have hi : i < 5 := by
        rcases Nat.lt_or_ge i 5 with c | c
        · exact c
        · rw [List.getElem?_eq_none (by rw [nl_len, List.length_range]; exact c)] at hd
          cases hd
      rw [Nat.zero_add] at hl hc1
      obtain ⟨qs, c2, q1, q2, q3⟩ := dr_some (ps := List.range 5) (odds := 2) (by omega) (by omega) (by rw [List.length_range]; omega) (by rw [List.length_range]; omega) hc1
      rw [List.length_range] at q3
      obtain ⟨j, c3, j1, j2, j3⟩ := dr_take (c := 2) q3 (by omega) (by omega) (by omega)
      have hqr := (range_rise 5).sublist q2
      have hqn : qs.length ≤ 5 := by have := q2.length_le; rwa [List.length_range] at this
      have e9 : lcG m_law_hall_c1 (nl qs) = some (pl (ones qs)) := by
        rw [← ones_map qs (fun p => prd (p, 1)) (fun _ => rfl)]
        exact lcG_mp (by omega) fun p _ => rfl
      refine ⟨(c3, (rs ++ [Rule.sum j (ones qs)]).map Rule.d, ()), ?_, _, c3, rfl, by rw [List.length_append, hl]; simp, fun r hr => ?_, j3.mono (by omega)⟩
      · unfold m_law_hall_f2
        show (rngL1 (nd 5)).bind _ = _
        rw [ebind (rngL1_n (by omega))]
        show (m_law_some c1 (.lst (nl (List.range 5))) (nd 2)).bind _ = _
        rw [ebind q1]
        show (m_law_take c2 (nd 2)).bind _ = _
        rw [ebind j1]
        show (itD (.lst (nl qs))).bind _ = _
        rw [ebind (it_l _), ebind e9, ebind (tup_l _), gd3, bs]
        show (mApp (rs.map Rule.d) [(Rule.sum j (ones qs)).d]).bind _ = _
        rw [ebind (app_ok (by rw [List.length_map]; omega)), List.map_append]
        rfl
      · rcases List.mem_append.mp hr with h | h
        · exact hf r h
        · rw [List.mem_singleton.mp h]
          exact fine_ones hqr (fun p hp => List.mem_range.mp (q2.mem hp)) rfl)
    rw [nl_len, List.length_range, Nat.zero_add] at hl hb'
    show ∃ rs b', (rng1 (nd 5)).bind _ = _ ∧ _
    rw [ebind (rng1_n (by omega))]
    show ∃ rs b', (loopM m_law_hall_f2 (nl (List.range 5)) (b1, [], ())).bind _ = _ ∧ _
    rw [ebind e]
    exact ⟨rs, b', rfl, ⟨by rw [hl]; exact hf, by omega⟩, by omega, by omega, hb'.mono (by omega)⟩
  · rw [decide_eq_false c5, cf, ebind (rng1_n (by omega))]
    obtain ⟨os, b', e, ⟨rs, rfl, hl, hf⟩, hb'⟩ := lcB_dr (f := nd) (step := m_law_hall_c3 (nd (1 + m))) 500 (fun _ o => ∃ r : Rule, r.fine (1 + m) ∧ o = some r.d) (fun xs os => ∃ rs : List Rule, os = rs.map Rule.d ∧ rs.length = xs.length ∧ ∀ r ∈ rs, r.fine (1 + m))
      ⟨[], rfl, rfl, fun _ h => absurd h List.not_mem_nil⟩ (fun x xs o os ⟨r, hr, e⟩ ⟨rs, e2, h1, h2⟩ => by
        subst e e2
        refine ⟨r :: rs, rfl, by rw [List.length_cons, List.length_cons, h1], fun q hq => ?_⟩
        rcases List.mem_cons.mp hq with rfl | hq
        · exact hr
        · exact h2 q hq) (List.range (1 + m)) (fun x _ n b hn hb => by
        obtain ⟨r, b', r1, r2, r3⟩ := dr_rule (far := 3) (N := 1 + m) (x := nd (1 + m)) (ps := List.range (1 + m)) (n := n) (b := b) (range_rise _) (fun p hp => List.mem_range.mp hp) (by omega) (by omega) (by rw [List.length_range]; omega) hb
        unfold m_law_hall_c3
        rw [ebind (rngL1_n (by omega))]
        show ∃ o b', (m_law_rule b (nd (1 + m)) (.lst (nl (List.range (1 + m)))) (nd 3)).bind _ = _ ∧ _
        rw [ebind r1]
        exact ⟨_, _, rfl, ⟨r, r2, rfl⟩, r3.mono (by omega)⟩) (n + 1) b1 (by rw [List.length_range]; omega) k1
    rw [List.length_range] at hl hb'
    rw [gd_ok (by rw [nl_len, List.length_range]; omega)]
    unfold nl
    rw [ebind e]
    exact ⟨rs, b', rfl, ⟨by rw [hl]; exact hf, by omega⟩, by omega, by omega, hb'.mono (by omega)⟩
end K7
namespace K7
open PySem PySem.Spec PyProof.Rows L2 Gd Ge Hm
local macro_rules | `(tactic| walk_at "hs") => `(tactic| simp only [ty_in, ty_ib, ty_tt, ty_ss, tr_b, bs, ct, cf, len_t, len_l, it_t, it_l, eq_s, lit0, lit1, lit2, lit3, lit4, neg1, ti_nd, tup_l, tup_t, lst_t, lst_l, gd0, gd1, gd2, gd3, gd4, gd5, nt, nf, ixt0, ixt1, ixt2, ixt3, ixl0, ixl1, ixl2, ixtm2, ixtm3, up2, up2p, ups, add_n, lt_n, le_n, gt_n, ge_n, eq_n, min_n, max_n, nl_len, pl_len, Bool.false_xor, Bool.true_xor, in_s2, List.length_cons, List.length_nil, Nat.zero_add, Nat.reduceAdd, Nat.reduceEqDiff, w_hk, w_hn, w_hf, w_hs, w_hc, w_kh, w_kn, w_kf, w_ks, w_kc, w_nh, w_nk, w_nf, w_ns, w_nc, w_fh, w_fk, w_fn, w_fs, w_fc, w_sh, w_sk, w_sn, w_sf, w_sc, w_ch, w_ck, w_cn, w_cf, w_cs, decide_true, decide_false, decide_eq_true_eq, if_true, if_false, List.mem_cons, List.not_mem_nil, or_false, false_or, or_true, true_or])
theorem dr_shownX {n : Nat} {b : List D} {rs : List Rule} {y : D} (hy : itD y = some (rs.map Rule.d)) (hl : rs.length ≤ 12) (hn : n + 1000 ≤ 1000000) (hb : Bx n b) :
    ∃ st b', m_law_shown b y = some (stD st, b') ∧ st.length = rs.length ∧ Bx (n + 100) b' := by
  obtain ⟨w, b1, e1, hw, k1⟩ := dr_take (c := 5) hb (by omega) (by omega) (by omega)
  obtain ⟨t', e, st, b', rfl, hs, hb'⟩ := loop_ok (step := m_law_shown_f1 (nd w, b1)) (fun k t => ∃ (st : List Nat) (b' : List D), t = (b', nl st, ()) ∧ st.length = k ∧ Bx (n + 1 + k * 4) b')
    (ds := rs.map Rule.d) (t := (b1, [], ())) (k := 0) ⟨[], b1, rfl, rfl, k1.mono (by omega)⟩ (fun i t d hd hI => by
    obtain ⟨st, c1, rfl, hs, hc1⟩ := hI
    have hi : i < rs.length := by
      rcases Nat.lt_or_ge i rs.length with c | c
      · exact c
      · rw [List.getElem?_eq_none (by rw [List.length_map]; exact c)] at hd
        cases hd
    rw [Nat.zero_add] at hs hc1
    obtain ⟨j1, c2, f1, _, g1⟩ := dr_take (c := 4) hc1 (by omega) (by omega) (by omega)
    obtain ⟨j2, c3, f2, _, g2⟩ := dr_take (c := 20) g1 (by omega) (by omega) (by omega)
    obtain ⟨j3, c4, f3, _, g3⟩ := dr_take (c := 1000000) g2 (by omega) (by omega) (by omega)
    obtain ⟨j4, c5, f4, _, g4⟩ := dr_take (c := 3) g3 (by omega) (by omega) (by omega)
    obtain ⟨x, _, hx⟩ := ixl_any (ds := [nd j1, nd j2, nd 7, nd j3, nd j4]) (ks := [j1, j2, 7, j3, j4]) rfl (j := w) hw
    refine ⟨(c5, nl (st ++ [x]), ()), ?_, _, _, rfl, by rw [List.length_append, hs]; simp, g4.mono (by omega)⟩
    unfold m_law_shown_f1
    show (m_law_take c1 (nd 4)).bind _ = _
    rw [ebind f1]
    show (m_law_take c2 (nd 20)).bind _ = _
    rw [ebind f2]
    have ep : powD (.int 10) (.int 6) = some (nd 1000000) := by
      rw [pow_i ⟨by decide, by decide, by decide⟩]
      rfl
    rw [ebind ep]
    show (m_law_take c3 (nd 1000000)).bind _ = _
    rw [ebind f3]
    show (m_law_take c4 (nd 3)).bind _ = _
    rw [ebind f4, gd5, bs]
    show (ixD (.lst [nd j1, nd j2, nd 7, nd j3, nd j4]) (nd w)).bind _ = _
    rw [ebind hx]
    show (mApp (nl st) [nd x]).bind _ = _
    rw [ebind (app_ok (by rw [nl_len]; omega))]
    unfold nl
    rw [List.map_append]
    rfl)
  rw [List.length_map, Nat.zero_add] at hs hb'
  refine ⟨st, b', ?_, hs, hb'.mono (by omega)⟩
  unfold m_law_shown
  show (m_law_take b (nd 5)).bind _ = _
  rw [ebind e1, gd0, bs]
  rw [ebind hy]
  show (loopM (m_law_shown_f1 (nd w, b1)) (rs.map Rule.d) (b1, [], ())).bind _ = _
  rw [ebind e, ebind (tup_l _)]
  rfl
theorem dr_shown {n : Nat} {b : List D} {rs : List Rule} (hl : rs.length ≤ 12) (hn : n + 1000 ≤ 1000000) (hb : Bx n b) : ∃ st b', m_law_shown b (rsD rs) = some (stD st, b') ∧ st.length = rs.length ∧ Bx (n + 100) b' := dr_shownX (it_l _) hl hn hb
end K7
namespace K7
open PySem PySem.Spec PyProof.Rows L2 Gd Ge Hm
/-! ### what all laws do -/
theorem l_folded (is : List Int) : ∃ cs : List Int, m_law_folded (.scr (dI is)) (.int 3) = some (.lst (dI cs)) ∧ cs.length ≤ 3 := by
  have e1 : slD none (some ((3 : Nat) : Int)) (.scr (dI is)) = some (.lst (dI (is.take 3))) := by
    show some (D.lst (cutD (dI is) none (some ((3 : Nat) : Int)))) = _
    rw [cutD_dI, cutL_hi]
  have e2 : slD (some ((3 : Nat) : Int)) (some ((63 : Nat) : Int)) (.scr (dI is)) = some (.lst (dI (cutL is (some ((3 : Nat) : Int)) (some ((63 : Nat) : Int))))) := by
    show some (D.lst (cutD (dI is) (some ((3 : Nat) : Int)) (some ((63 : Nat) : Int)))) = _
    rw [cutD_dI]
  have hl := cutL_len is 3 63
  generalize cutL is (some ((3 : Nat) : Int)) (some ((63 : Nat) : Int)) = js at e2 hl
  obtain ⟨t', e, cs, rfl, hc⟩ := loop_ok (step := m_law_folded_f1 (.int 3)) (fun _ t => ∃ cs : List Int, t = (dI cs, ()) ∧ cs.length = (is.take 3).length) (ds := enumD (dI js)) (t := (dI (is.take 3), ())) (k := 0) ⟨_, rfl, rfl⟩ (fun i t d hd hI => by
    obtain ⟨cs, rfl, hc⟩ := hI
    obtain ⟨k, x, hx, rfl⟩ := enum_mem (List.mem_of_getElem? hd)
    have hk : k < js.length := by
      rcases Nat.lt_or_ge k js.length with c | c
      · exact c
      · rw [List.getElem?_eq_none (by rw [dI_len]; exact c)] at hx
        cases hx
    obtain ⟨y, hy, rfl⟩ := dI_mem (List.mem_of_getElem? hx)
    have h3 : cs.length = 3 := by
      rw [hc, List.length_take]
      omega
    have hm := fmod2 (k : Int) (show (0 : Int) < 3 by decide)
    obtain ⟨z, hz, e3⟩ := atI_dI (is := cs) (i := (k : Int).fmod 3) hm.1 (by rw [h3]; exact hm.2)
    refine ⟨(dI (cs.set ((k : Int).fmod 3).toNat (z + y * ((k : Int) + 2))), ()), ?_, _, rfl, by rw [List.length_set]; exact hc⟩
    unfold m_law_folded_f1
    rw [up2p]
    show (modD (.int (k : Int)) (.int 3)).bind _ = _
    rw [ebind (mod_i (show (3 : Int) ≠ 0 by decide))]
    show (atI (dI cs) ((k : Int).fmod 3)).bind _ = _
    rw [ebind e3]
    show (addD (.int (k : Int)) (.int 2)).bind _ = _
    rw [ebind (add_i _ _)]
    show (mulD (.int y) (.int ((k : Int) + 2))).bind _ = _
    rw [ebind (mul_i (.inr ⟨by omega, by omega⟩)), ebind (add_i _ _)]
    show (modD (.int (k : Int)) (.int 3)).bind _ = _
    rw [ebind (mod_i (show (3 : Int) ≠ 0 by decide))]
    have e4 : setO (dI cs) (.int ((k : Int).fmod 3)) (.int (z + y * ((k : Int) + 2))) = some (dI (cs.set ((k : Int).fmod 3).toNat (z + y * ((k : Int) + 2)))) := by
      show (ixN (dI cs).length ((k : Int).fmod 3)).map _ = _
      rw [ixN_nn hm.1 (by rw [dI_len, h3]; exact hm.2), Option.map_some, dI_set]
    show (setO (dI cs) (.int ((k : Int).fmod 3)) (.int (z + y * ((k : Int) + 2)))).bind _ = _
    rw [ebind e4])
  refine ⟨cs, ?_, by rw [hc, List.length_take]; omega⟩
  have i3 : intO (.int 3) = some ((3 : Nat) : Int) := id rfl
  have i63 : intO (.int 63) = some ((63 : Nat) : Int) := id rfl
  have sq : sqD (.lst (dI (is.take 3))) = some (dI (is.take 3)) := id rfl
  have em : enmD (.lst (dI js)) = some (enumD (dI js)) := id rfl
  unfold m_law_folded
  rw [ebind i3, ebind e1, ebind sq, ebind i3, ebind i63, ebind e2, ebind em]
  show (loopM (m_law_folded_f1 (.int 3)) (enumD (dI js)) (dI (is.take 3), ())).bind _ = _
  rw [ebind e]
theorem l_dip {cs : List Int} {k : Nat} (hk : k ≤ 3) (hc : cs.length ≤ 3) : ∃ b, m_law_dip (.lst (dI cs)) (nd k) = some b ∧ Bx 0 b := by
  have e0 : ∃ x : Int, ((lenD (.lst (dI cs))).bind fun v1 => (ltD (nd k) v1).bind fun v2 => cond v2 ((ixD (.lst (dI cs)) (nd k)).bind fun v3 => some v3) (some (.int 0))) = some (.int x) := by
    rw [ebind (len_l _), dI_len, ebind (lt_n _ _)]
    by_cases c : k < cs.length
    · rw [decide_eq_true c, ct]
      refine ⟨cs[k], ?_⟩
      rw [ebind (ix_l (d := .int cs[k]) (dI_get (List.getElem?_eq_getElem c)))]
    · rw [decide_eq_false c]
      exact ⟨0, rfl⟩
  obtain ⟨x, e0⟩ := e0
  have ea : absD (.int x) = some (.int (if x < 0 then -x else x)) := id rfl
  have ha : 0 ≤ (if x < 0 then -x else x) := by split <;> omega
  generalize (if x < 0 then -x else x) = a at ea ha
  have ep : powD (.int 10) (.int 18) = some (.int 1000000000000000000) := by
    rw [pow_i ⟨by decide, by decide, by decide⟩]
    rfl
  have eg : geD (.int a) (.int 1000000000000000000) = some (decide (a ≥ 1000000000000000000)) := id rfl
  have ei : ∀ b : Bool, intD (.bl b) = some (.int (cond b 1 0)) := fun _ => id rfl
  have em : ∀ b : Bool, mulD (.int a) (.int (cond b 1 0)) = some (.int (a * cond b 1 0)) := fun b => mul_i (.inr (by cases b <;> decide))
  have hm := fmod2 x (show (0 : Int) < 2305843009213693951 by decide)
  unfold m_law_dip
  rw [ebind e0, ebind ea, ebind ea, ebind ep, ebind eg, ebind (ei _), ebind (em _), ebind (mod_i (by decide)), show nd k = .int (k : Int) from rfl, ebind (mul_i (.inl ⟨by decide, by decide⟩)), ebind (add_i _ _), ebind (add_i _ _), gd3, bs]
  refine ⟨_, rfl, _, _, 0, rfl, ?_, by omega, by omega, by decide, by decide⟩
  cases decide (a ≥ 1000000000000000000)
  · show 0 ≤ a * 0
    omega
  · show 0 ≤ a * 1
    omega
theorem cut_lo' (ds : List D) (k : Nat) : slD (some (k : Int)) none (.lst ds) = some (.lst (ds.drop k)) := by
  show some (D.lst (cutL ds (some (k : Int)) none)) = _
  rw [cutL_lo]
theorem cut_hi' (ds : List D) (k : Nat) : slD none (some (k : Int)) (.lst ds) = some (.lst (ds.take k)) := by
  show some (D.lst (cutL ds none (some (k : Int)))) = _
  rw [cutL_hi]
theorem lcB_unit {step : Unit → D → Option (Unit × Option D)} : ∀ {ds : List D}, (∀ d ∈ ds, step () d = some ((), some (.bl true))) → lcB step ds () = some ((), ds.map fun _ => D.bl true)
  | [], _ => rfl
  | d :: ds, h => by
    show (step () d).bind _ = _
    rw [ebind (h d (List.mem_cons_self ..))]
    show (lcB step ds ()).bind _ = _
    rw [ebind (lcB_unit fun e he => h e (List.mem_cons_of_mem _ he))]
    rfl
theorem nl_inj {a b : List Nat} (h : a.map Int.ofNat = b.map Int.ofNat) : a = b := by
  have := congrArg (List.map Int.toNat) h
  rw [List.map_map, List.map_map, show (Int.toNat ∘ Int.ofNat) = id from rfl, List.map_id, List.map_id] at this
  exact this
theorem eq_st (g : Bool) (a b : List Nat) : eqD g (stD a) (stD b) = some (g ^^ decide (a = b)) := by
  show eqW g (stD a) (stD b) = _
  unfold eqW stD
  rw [if_pos ⟨by rw [nl_dI]; exact fit_t _, by rw [nl_dI]; exact fit_t _⟩]
  have e : PyData.eqv (D.tup (nl a)).pd (D.tup (nl b)).pd = decide (a = b) := by
    rw [nl_dI, nl_dI]
    show PyData.eqvAll (pds (dI _)) (pds (dI _)) = _
    rw [eqv_dI]
    exact decide_eq_decide.mpr ⟨nl_inj, fun z => by rw [z]⟩
  rw [e]
theorem eq_nl (g : Bool) (a b : List Nat) : eqD g (.lst (nl a)) (.lst (nl b)) = some (g ^^ decide (a = b)) := by
  show eqW g (.lst (nl a)) (.lst (nl b)) = _
  unfold eqW
  rw [if_pos ⟨by rw [nl_dI]; exact fit_l _, by rw [nl_dI]; exact fit_l _⟩]
  have e : PyData.eqv (D.lst (nl a)).pd (D.lst (nl b)).pd = decide (a = b) := by
    rw [nl_dI, nl_dI]
    show PyData.eqvAll (pds (dI _)) (pds (dI _)) = _
    rw [eqv_dI]
    exact decide_eq_decide.mpr ⟨nl_inj, fun z => by rw [z]⟩
  rw [e]
end K7
namespace K7
open PySem PySem.Spec PyProof.Rows L2 Gd Ge Hm
/-! ### where beats lead -/
theorem p_rest {C : Addr} {rs : List Rule} (h : HallOk rs) {st : List Nat} (hs : st.length = rs.length) {N : Nat} (h1 : beat rs (beats rs st N) = beats rs st N) (h2 : ∀ k < N, beat rs (beats rs st k) ≠ beats rs st k) :
    m_rest_by_beats C (hallD C rs) (stD st) = some (.tup [stD (beats rs st N), nd N]) := by
  have go : ∀ j k, k + j = N → whileP (m_rest_by_beats_w1 C (hallD C rs)) (stD (beats rs st k), nd k, stD (beats rs st (k + 1)), ()) = some (stD (beats rs st N), nd N, stD (beats rs st (N + 1)), ()) := fun j => by
    induction j with
    | zero =>
      intro k e
      obtain rfl : k = N := by omega
      refine whileP_end ?_
      unfold m_rest_by_beats_w1
      show (eqD true (stD (beat rs (beats rs st k))) (stD (beats rs st k))).bind _ = _
      rw [ebind (eq_st _ _ _), decide_eq_true h1]
      rfl
    | succ j ih =>
      intro k e
      rw [← ih (k + 1) (by omega)]
      refine whileP_one ?_
      unfold m_rest_by_beats_w1
      show (eqD true (stD (beat rs (beats rs st k))) (stD (beats rs st k))).bind _ = _
      rw [ebind (eq_st _ _ _), decide_eq_false (h2 k (by omega)), Bool.true_xor, nf, ct]
      show (addD (nd k) (nd 1)).bind _ = _
      rw [ebind (add_n _ _)]
      show (m_beaten C (hallD C rs) (stD (beats rs st (k + 1)))).bind _ = _
      rw [ebind (p_beaten h (beats_len hs (k + 1)))]
      rfl
  unfold m_rest_by_beats
  rw [ebind (tup_st st), ebind (p_beaten h hs), ebind (show whileP (m_rest_by_beats_w1 C (hallD C rs)) (stD st, .int 0, stD (beat rs st), ()) = _ from go N 0 (by omega)), gd2]
  rfl
end K7
namespace K7
open PySem PySem.Spec PyProof.Rows L2 Gd Ge Hm
/-- a law's rows: hall or flat -/
theorem drawn_f {n : Nat} {b : List D} (mD : D) (most : Nat) (hm : mD = nd most) (h1 : 1 ≤ most) (h2 : most ≤ 12) (hn : n + 20000 ≤ 1000000) (hb : Bx n b) : ∃ rs b', ((m_law_take b (.int 2)).bind fun v2 =>
  (eqD false v2.1 (.int 0)).bind fun v3 =>
  cond v3 ((m_law_hall v2.2).bind fun v4 =>
  some (v4.1, (v4.2, ()))) ((m_law_flat v2.2 mD).bind fun v5 =>
  some (v5.1, (v5.2, ())))) = some (rsD rs, (b', ())) ∧ HallOk rs ∧ 1 ≤ rs.length ∧ rs.length ≤ 12 ∧ Bx (n + 5001) b' := by
  subst hm
  obtain ⟨j, b1, e1, _, k1⟩ := dr_take (c := 2) hb (by omega) (by omega) (by omega)
  have e1 : m_law_take b (.int 2) = some (nd j, b1) := e1
  rw [ebind e1]
  show ∃ rs b', (eqD false (nd j) (nd 0)).bind _ = _ ∧ _
  rw [ebind (eq_n _ _ _), Bool.false_xor]
  by_cases c : j = 0
  · obtain ⟨rs, b2, e2, h1, h2, h3, k2⟩ := dr_hall (by omega) k1
    rw [decide_eq_true c, ct]
    show ∃ rs b', (m_law_hall b1).bind _ = _ ∧ _
    rw [ebind e2]
    exact ⟨rs, b2, rfl, h1, h2, h3, k2.mono (by omega)⟩
  · obtain ⟨rs, b2, e2, h1, h2, h3, k2⟩ := dr_flat (most := most) h1 h2 (by omega) k1
    rw [decide_eq_false c, cf]
    show ∃ rs b', (m_law_flat b1 (nd most)).bind _ = _ ∧ _
    rw [ebind e2]
    exact ⟨rs, b2, rfl, h1, h2, h3, k2.mono (by omega)⟩
end K7
namespace K7
open PySem PySem.Spec PyProof.Rows L2 Gd Ge
/-! ### _law_right -/
abbrev st_law_right : Stmt := topS 46
abbrev N_law_right : List Str := ["_law_box", "_law_turn", "_law_rules", "_law_room", "_law_shown_here", "_law_every", "_law_end", "_law_again", "_law_other", "_law_one", "_law_mine", "_law_its_own", "_law_told", "_law_some_here", "_law_behind", "_law_its", "_law_who", "_law_number", "_law_stood"]
theorem sc_law_right : FnScope N_law_right ["_law_box"] (defScope st_law_right) := ⟨rfl, rfl, rfl, by decide +kernel, rfl, by decide +kernel, by decide +kernel⟩
def m_law_right_c1 (d26 : D) : Option (Option D) :=
  (unp [16, 17] d26).bind fun v28 =>
  some (some v28.1)
def m_law_right_c2 (d32 : D) : Option (Option D) :=
  (unp [16, 17] d32).bind fun v34 =>
  some (some v34.1)
def m_law_right_c3 (d22 : D) (cl_Hall : Addr) (v13 : D × D × Unit) (d38 : D) : Option (Option D) :=
  (gd 1 (some (.lst [d22]))).bind fun v40 =>
  (m_turned cl_Hall v13.1 d38 v40).bind fun v41 =>
  (ixD v41 d22).bind fun v42 =>
  some (some v42)
def m_law_right_f4 (cl_Hall : Addr) (v13 : D × D × Unit) (v20 : D × List D) (t23 : List D × Unit) (d22 : D) (k : List D × Unit → Option (D × List D)) : Option (D × List D) :=
  (m_lot_of cl_Hall v13.1 v13.2.1 d22).bind fun v24 =>
  (itD v24).bind fun v25 =>
  (lcG (m_law_right_c1) v25).bind fun v29 =>
  (m_lot_of cl_Hall v13.1 v20.1 d22).bind fun v30 =>
  (itD v30).bind fun v31 =>
  (lcG (m_law_right_c2) v31).bind fun v35 =>
  (gd 2 (some (.tup [v13.2.1, v20.1]))).bind fun v36 =>
  (itD v36).bind fun v37 =>
  (lcG (m_law_right_c3 d22 cl_Hall v13) v37).bind fun v43 =>
  ((eqD true (.lst v29) (.lst v35)).bind fun v44 =>
  cond v44 (some true) ((ixD (.lst v43) (.int 0)).bind fun v45 =>
  (ixD (.lst v43) (.int 1)).bind fun v46 =>
  (eqD true v45 v46).bind fun v47 =>
  some v47)).bind fun v48 =>
  cond v48 (some ((.bl false), t23.1)) (k (t23.1, ()))
def m_law_right_c5 (v54 : D × D × Unit) (d56 : D) : Option (Option D) :=
  (ixD v54.1 d56).bind fun v58 =>
  some (some v58)
def m_law_right_c6 (v54 : D × D × Unit) (d61 : D) : Option (Option D) :=
  (ixD v54.2.1 d61).bind fun v63 =>
  some (some v63)
def m_law_right_f7 (v13 : D × D × Unit) (v15 : List D) (cl_Hall : Addr) (v16 : D) (t19 : List D × Unit) (d18 : D) (k : List D × Unit → Option (D × List D)) : Option (D × List D) :=
  (m_law_otherwise t19.1 v13.2.1).bind fun v20 =>
  (itD (.lst v15)).bind fun v21 =>
  forK (m_law_right_f4 cl_Hall v13 v20) v21 (v20.2, ()) fun t49 =>
  (m_law_some t49.1 (.lst v15) (.int 2)).bind fun v50 =>
  (m_turned cl_Hall v13.1 v13.2.1 v50.1).bind fun v51 =>
  (m_turned cl_Hall v13.1 v20.1 v50.1).bind fun v52 =>
  (gd 2 (some (.tup [v51, v52]))).bind fun v53 =>
  (unp [14, 15] v53).bind fun v54 =>
  (itD v50.1).bind fun v55 =>
  (lcG (m_law_right_c5 v54) v55).bind fun v59 =>
  (itD v50.1).bind fun v60 =>
  (lcG (m_law_right_c6 v54) v60).bind fun v64 =>
  (eqD true (.lst v59) (.lst v64)).bind fun v65 =>
  cond v65 (some ((.bl false), v50.2)) (((m_history cl_Hall v13.1 v13.2.1 (.int 4)).bind fun v66 =>
  (intO (.int 1)).bind fun v67 =>
  (slD (some v67) none v66).bind fun v68 =>
  (m_history cl_Hall v13.1 v20.1 (.int 4)).bind fun v69 =>
  (intO (.int 1)).bind fun v70 =>
  (slD (some v70) none v69).bind fun v71 =>
  (eqD true v68 v71).bind fun v72 =>
  cond v72 (some true) ((m_rest_by_beats cl_Hall v13.1 v20.1).bind fun v73 =>
  (ixD v73 (.int 0)).bind fun v74 =>
  (ixD v16 (.int 0)).bind fun v75 =>
  (eqD true v74 v75).bind fun v76 =>
  some v76)).bind fun v77 =>
  cond v77 (some ((.bl false), v50.2)) (((ixD v16 (.int 0)).bind fun v78 =>
  (eqD true v20.1 v78).bind fun v79 =>
  cond v79 ((ixD v16 (.int 0)).bind fun v80 =>
  (eqD true v13.2.1 v80).bind fun v81 =>
  cond v81 ((m_rest_by_beats cl_Hall v13.1 v20.1).bind fun v82 =>
  (eqD true v82 v16).bind fun v83 =>
  some v83) (some false)) (some false)).bind fun v84 =>
  cond v84 (some ((.bl false), v50.2)) (k (v50.2, ()))))
def m_law_right_f8 (cl_Hall : Addr) (t3 : List D × Unit) (d2 : D) (k : List D × Unit → Option (D × List D)) : Option (D × List D) :=
  ((m_law_take t3.1 (.int 2)).bind fun v4 =>
  (eqD false v4.1 (.int 0)).bind fun v5 =>
  cond v5 ((m_law_hall v4.2).bind fun v6 =>
  some (v6.1, (v6.2, ()))) ((m_law_flat v4.2 (.int 9)).bind fun v7 =>
  some (v7.1, (v7.2, ())))).bind fun v8 =>
  (m_law_sums_only v8.2.1 v8.1).bind fun v9 =>
  (m_Hall_init__ cl_Hall cl_Hall v9.1).bind fun v10 =>
  (m_law_shown v9.2 v9.1).bind fun v11 =>
  (gd 2 (some (.tup [(.ins v10.1 ["own_rules", "own_seen"] (tnL ["own_rules", "own_seen"] v10.2)), v11.1]))).bind fun v12 =>
  (unp [3, 4] v12).bind fun v13 =>
  (lenD v9.1).bind fun v14 =>
  (rngL1 v14).bind fun v15 =>
  (m_rest_by_beats cl_Hall v13.1 v13.2.1).bind fun v16 =>
  (rng1 (.int 3)).bind fun v17 =>
  forK (m_law_right_f7 v13 v15 cl_Hall v16) v17 (v11.2, ()) fun t85 =>
  k (t85.1, ())
def m_law_right (cl_Hall : Addr) (a_box : List D) : Option (D × List D) :=
  (rng1 (.int 6)).bind fun v1 =>
  forK (m_law_right_f8 cl_Hall) v1 (a_box, ()) fun t86 =>
  some ((.bl true), t86.1)
def M_law_right (cl_Hall : Addr) (a_box : List D) (ds : List D) : Option (D × List D) := match ds with
  | [] => m_law_right cl_Hall a_box
  | _ => none
theorem ln_law_right (cl_Hall : Addr) : ∀ b ds v, M_law_right cl_Hall b ds = some v → ds.length + 1 = 1 := fun b ds v h => by
  unfold M_law_right at h
  split at h
  · rfl
  · cases h
set_option maxHeartbeats 4000000 in
theorem ok_law_right {P : Program} {w : World} {K : PySem.W.Frag} {mg : Str → Option Value} {base : Heap} {fa : Addr} {fd : FuncData} (F : Fun K "_law_right" "_law_right" st_law_right fa fd) (B : Bts mg) {cl_Hall : Addr} (T_Hall : Txt_Hall K cl_Hall) (G_law_sums_only : GB P w K mg base "_law_sums_only" 2 2 M_law_sums_only) (G_law_hall : GB P w K mg base "_law_hall" 4 1 M_law_hall) (G_law_flat : GB P w K mg base "_law_flat" 4 2 M_law_flat) (G_Hall_init__ : GI P w K mg base cl_Hall "Hall" 6 2 ["own_rules", "own_seen"] (M_Hall_init__ cl_Hall)) (G_law_shown : GB P w K mg base "_law_shown" 2 2 M_law_shown) (G_rest_by_beats : GP P w K mg base "rest_by_beats" 9 2 (M_rest_by_beats cl_Hall)) (G_law_otherwise : GB P w K mg base "_law_otherwise" 2 2 M_law_otherwise) (G_law_some : GB P w K mg base "_law_some" 2 3 M_law_some) (G_law_take : GB P w K mg base "_law_take" 1 2 M_law_take) (G_turned : GP P w K mg base "turned" 7 3 (M_turned cl_Hall)) (G_lot_of : GP P w K mg base "lot_of" 5 3 (M_lot_of cl_Hall)) (G_history : GP P w K mg base "history" 9 3 (M_history cl_Hall)) : FnOk P w K mg base CX0 10 fa fd ["_law_box"] (spD K 1 (fsB (M_law_right cl_Hall))) := by
  refine fn_ok false F sc_law_right rfl fun cdv A outer s H E hr => ⟨_, (fs_cons (fs_forR [] [1, 2, 3, 4, 5, 6, 7, 8, 9, 10, 11, 12, 13, 14, 15] [.l] PassesOwn.never rfl (f_rng1 rfl B.range f_int) (fg_name 1 sc_law_right.nd) (fs_cons (fs_set 2 sc_law_right.nd (f_joinB [.l] (f_if (f_tcmp (op_eqAll (hu64 hr)) ops_eqD (f_callB 0 (G_law_take.mono (by first | exact Nat.le_refl _ | decide | omega)) hr (by rfl) (f_acons (f_var 0) (f_acons f_int f_anil))) f_int (nomark _)) (f_callB 0 (G_law_hall.mono (by first | exact Nat.le_refl _ | decide | omega)) hr (by rfl) (f_acons (f_var 0) f_anil)) (f_callB 0 (G_law_flat.mono (by first | exact Nat.le_refl _ | decide | omega)) hr (by rfl) (f_acons (f_var 0) (f_acons f_int f_anil))))))
    (fs_cons (fs_set 2 sc_law_right.nd (f_callB 0 (G_law_sums_only.mono (by first | exact Nat.le_refl _ | decide | omega)) hr (by rfl) (f_acons (f_var 0) (f_acons (f_var 2) f_anil))))
    (fs_cons (fs_asg (f_tup (f_acons (f_make (G_Hall_init__.mono (by first | exact Nat.le_refl _ | decide | omega)) hr rfl (f_acons (f_var 2) f_anil)) (f_acons (f_callB 0 (G_law_shown.mono (by first | exact Nat.le_refl _ | decide | omega)) hr (by rfl) (f_acons (f_var 0) (f_acons (f_var 2) f_anil))) f_anil))) (fg_tup rfl (gs_cons 3 sc_law_right.nd (gs_cons 4 sc_law_right.nd gs_nil))))
    (fs_cons (fs_par rfl sc_law_right.nd (i := 5) (j := 6) rfl rfl (by decide) rfl rfl (f_listRg1 rfl rfl B.list rfl B.range (f_cb1 call_lenA cbs_lenD (by rfl) B.len PySem.boot_len (f_var 2))) (f_call (G_rest_by_beats.mono (by first | exact Nat.le_refl _ | decide | omega)) hr (by rfl) (f_acons (f_var 3) (f_acons (f_var 4) f_anil))))
    (fs_one (fs_forR [] [7, 8, 9, 10, 11, 12, 13, 14, 15] [.l] PassesOwn.never rfl (f_rng1 rfl B.range f_int) (fg_name 7 sc_law_right.nd) (fs_cons (fs_set 8 sc_law_right.nd (f_callB 0 (G_law_otherwise.mono (by first | exact Nat.le_refl _ | decide | omega)) hr (by rfl) (f_acons (f_var 0) (f_acons (f_var 4) f_anil))))
    (fs_cons (fs_forR [] [9, 10, 11, 12] [.l] PassesOwn.never rfl (f_seq (f_var 5)) (fg_name 9 sc_law_right.nd) (fs_cons (fs_setLcD (own := [("_law_who", 16), ("_law_number", 17)]) 10 rfl sc_law_right.nd rfl rfl (sw_true rfl rfl rfl (by decide +kernel)) (f_seq (f_call (G_lot_of.mono (by first | exact Nat.le_refl _ | decide | omega)) hr (by rfl) (f_acons (f_var 3) (f_acons (f_var 4) (f_acons (f_var 9) f_anil))))) (blkOk_by (N := N_law_right) (sc := (defScope st_law_right)) (by decide +kernel)) rfl (fun _ _ _ _ _ => (fg_tup rfl (gs_cons 16 sc_law_right.nd (gs_cons 17 sc_law_right.nd gs_nil)))) (fun _ _ _ _ _ => fts_nil) (fun _ _ _ _ _ => (f_var 16)))
    (fs_cons (fs_setLcD (own := [("_law_who", 16), ("_law_number", 17)]) 11 rfl sc_law_right.nd rfl rfl (sw_true rfl rfl rfl (by decide +kernel)) (f_seq (f_call (G_lot_of.mono (by first | exact Nat.le_refl _ | decide | omega)) hr (by rfl) (f_acons (f_var 3) (f_acons (f_var 8) (f_acons (f_var 9) f_anil))))) (blkOk_by (N := N_law_right) (sc := (defScope st_law_right)) (by decide +kernel)) rfl (fun _ _ _ _ _ => (fg_tup rfl (gs_cons 16 sc_law_right.nd (gs_cons 17 sc_law_right.nd gs_nil)))) (fun _ _ _ _ _ => fts_nil) (fun _ _ _ _ _ => (f_var 16)))
    (fs_cons (fs_setLcD (own := [("_law_stood", 18)]) 12 rfl sc_law_right.nd rfl rfl (sw_true rfl rfl rfl (by decide +kernel)) (f_seq (f_tup (f_acons (f_var 4) (f_acons (f_var 8) f_anil)))) (blkOk_by (N := N_law_right) (sc := (defScope st_law_right)) (by decide +kernel)) rfl (fun _ _ _ _ _ => (fg_name 18 sc_law_right.nd)) (fun _ _ _ _ _ => fts_nil) (fun _ _ _ _ _ => (f_ix (hu1 hr) (f_call (G_turned.mono (by first | exact Nat.le_refl _ | decide | omega)) hr (by rfl) (f_acons (f_var 3) (f_acons (f_var 18) (f_acons (f_lst (f_acons (f_var 9) f_anil)) f_anil)))) (f_var 9))))
    (fs_one (fs_if (f_join (PW.pt (f_or (f_tcmp (op_neAll (hu64 hr)) ops_neD (f_var 10) (f_var 11) (nomark _)) (f_or1 (f_tcmp (op_neAll (hu64 hr)) ops_neD (f_ix (hu1 hr) (f_var 12) f_int) (f_ix (hu1 hr) (f_var 12) f_int) (nomark _)))))) (fs_one (fs_ret f_bl)) fs_nil))))))
    (fs_cons (fs_set 13 sc_law_right.nd (f_callB 0 (G_law_some.mono (by first | exact Nat.le_refl _ | decide | omega)) hr (by rfl) (f_acons (f_var 0) (f_acons (f_var 5) (f_acons f_int f_anil)))))
    (fs_cons (fs_asg (f_tup (f_acons (f_call (G_turned.mono (by first | exact Nat.le_refl _ | decide | omega)) hr (by rfl) (f_acons (f_var 3) (f_acons (f_var 4) (f_acons (f_var 13) f_anil)))) (f_acons (f_call (G_turned.mono (by first | exact Nat.le_refl _ | decide | omega)) hr (by rfl) (f_acons (f_var 3) (f_acons (f_var 8) (f_acons (f_var 13) f_anil)))) f_anil))) (fg_tup rfl (gs_cons 14 sc_law_right.nd (gs_cons 15 sc_law_right.nd gs_nil))))
    (fs_cons (fs_if (f_tcmp (op_neAll (hu64 hr)) ops_neD (f_lcD (own := [("_law_one", 9)]) rfl sc_law_right.nd (f_seq (f_var 13)) (blkOk_by (N := N_law_right) (sc := (defScope st_law_right)) (by decide +kernel)) rfl (fun _ _ _ _ _ => (fg_name 9 sc_law_right.nd)) (fun _ _ _ _ _ => fts_nil) (fun _ _ _ _ _ => (f_ix (hu1 hr) (f_var 14) (f_var 9)))) (f_lcD (own := [("_law_one", 9)]) rfl sc_law_right.nd (f_seq (f_var 13)) (blkOk_by (N := N_law_right) (sc := (defScope st_law_right)) (by decide +kernel)) rfl (fun _ _ _ _ _ => (fg_name 9 sc_law_right.nd)) (fun _ _ _ _ _ => fts_nil) (fun _ _ _ _ _ => (f_ix (hu1 hr) (f_var 15) (f_var 9)))) (nomark _)) (fs_one (fs_ret f_bl)) fs_nil)
    (fs_cons (fs_if (f_join (PW.pt (f_or (f_tcmp (op_neAll (hu64 hr)) ops_neD (f_sl (f_call (G_history.mono (by first | exact Nat.le_refl _ | decide | omega)) hr (by rfl) (f_acons (f_var 3) (f_acons (f_var 4) (f_acons f_int f_anil)))) (f_osome f_int) f_onone) (f_sl (f_call (G_history.mono (by first | exact Nat.le_refl _ | decide | omega)) hr (by rfl) (f_acons (f_var 3) (f_acons (f_var 8) (f_acons f_int f_anil)))) (f_osome f_int) f_onone) (nomark _)) (f_or1 (f_tcmp (op_neAll (hu64 hr)) ops_neD (f_ix (hu1 hr) (f_call (G_rest_by_beats.mono (by first | exact Nat.le_refl _ | decide | omega)) hr (by rfl) (f_acons (f_var 3) (f_acons (f_var 8) f_anil))) f_int) (f_ix (hu1 hr) (f_var 6) f_int) (nomark _)))))) (fs_one (fs_ret f_bl)) fs_nil)
    (fs_one (fs_if (f_join (PW.pt (f_and (f_tcmp (op_neAll (hu64 hr)) ops_neD (f_var 8) (f_ix (hu1 hr) (f_var 6) f_int) (nomark _)) (f_and (f_tcmp (op_neAll (hu64 hr)) ops_neD (f_var 4) (f_ix (hu1 hr) (f_var 6) f_int) (nomark _)) (f_and1 (f_tcmp (op_neAll (hu64 hr)) ops_neD (f_call (G_rest_by_beats.mono (by first | exact Nat.le_refl _ | decide | omega)) hr (by rfl) (f_acons (f_var 3) (f_acons (f_var 8) f_anil))) (f_var 6) (nomark _))))))) (fs_one (fs_ret f_bl)) fs_nil)))))))))))))))
    (fs_one (fs_ret f_bl))), okB (m := (M_law_right cl_Hall)) fun b ds hl => by
    obtain ⟨rfl⟩ := len0 ds (Nat.succ.inj hl)
    kernel_rfl⟩
/-! ### law -/
abbrev st_law : Stmt := topS 47
abbrev N_law : List Str := ["_law_script", "_law_cells", "_law_k"]
theorem sc_law : FnScope N_law ["_law_script"] (defScope st_law) := ⟨rfl, rfl, rfl, by decide +kernel, rfl, by decide +kernel, by decide +kernel⟩
def m_law_c1 (v1 : D) (cl_Hall : Addr) (t6 : Unit) (d5 : D) : Option ((Unit) × Option D) :=
  (m_law_dip v1 d5).bind fun v7 =>
  (m_law_right cl_Hall v7).bind fun v8 =>
  some ((), some v8.1)
def m_law (cl_Hall : Addr) (a_script : D) : Option (D) :=
  (m_law_folded a_script (.int 3)).bind fun v1 =>
  (lenD v1).bind fun v2 =>
  ((int2D maxI) (.int 1) v2).bind fun v3 =>
  (rng1 v3).bind fun v4 =>
  (gd v4.length (lcB (m_law_c1 v1 cl_Hall) v4 ())).bind fun v9 =>
  (allD (.lst v9.2)).bind fun v10 =>
  some v10
def M_law (cl_Hall : Addr) (ds : List D) : Option (D) := match ds with
  | [a_script] => m_law cl_Hall a_script
  | _ => none
theorem ln_law (cl_Hall : Addr) : ∀ ds v, M_law cl_Hall ds = some v → ds.length = 1 := fun ds v h => by
  unfold M_law at h
  split at h
  · rfl
  · cases h
set_option maxHeartbeats 4000000 in
theorem ok_law {P : Program} {w : World} {K : PySem.W.Frag} {mg : Str → Option Value} {base : Heap} {fa : Addr} {fd : FuncData} (F : Fun K "law" "law" st_law fa fd) (B : Bts mg) {cl_Hall : Addr} (T_Hall : Txt_Hall K cl_Hall) (G_law_folded : GP P w K mg base "_law_folded" 1 2 M_law_folded) (G_law_right : GB P w K mg base "_law_right" 10 1 (M_law_right cl_Hall)) (G_law_dip : GF P w K mg base "_law_dip" 1 2 M_law_dip) : FnOk P w K mg base CX0 11 fa fd ["_law_script"] (spD K 1 (fsP (M_law cl_Hall))) := by
  refine fn_ok false F sc_law rfl fun cdv A outer s H E hr => ⟨_, (fs_cons (fs_set 1 sc_law.nd (f_call (G_law_folded.mono (by first | exact Nat.le_refl _ | decide | omega)) hr (by rfl) (f_acons (f_var 0) (f_acons f_int f_anil))))
    (fs_one (fs_ret (f_cb1 (cr_all rfl) cbs_allD (by rfl) B.all boot_all (f_lcBD (own := [("_law_k", 2)]) [] rfl sc_law.nd (f_rng1 rfl B.range (f_cb2 (call_max2 rfl) cbs_max2D (by rfl) B.max boot_max f_int (f_cb1 call_lenA cbs_lenD (by rfl) B.len PySem.boot_len (f_var 1)))) (blkOk_by (N := N_law) (sc := (defScope st_law)) (by decide +kernel)) rfl (fun _ _ _ _ _ => (fg_name 2 sc_law.nd)) (fun _ _ _ _ _ => fts_nil) (fun _ _ _ _ _ => (f_cut (f_callB 0 (G_law_right.mono (by first | exact Nat.le_refl _ | decide | omega)) hr (by rfl) (f_acons (f_callF (G_law_dip.mono (by first | exact Nat.le_refl _ | decide | omega)) hr (by rfl) (f_acons (f_var 1) (f_acons (f_var 2) f_anil))) f_anil))))))))), okP (m := (M_law cl_Hall)) fun ds hl => by
    obtain ⟨x0, rfl⟩ := len1 ds hl
    kernel_rfl⟩
end K7
namespace K7
open PySem PySem.Spec PyProof.Rows L2 Gd Ge Hm
/-! ### rules that tell by whom, other numbers in the same order -/
theorem in_nf (a : Str) : inD false (.str a) (.tup [.str (Str.ofString "next"), .str (Str.ofString "free")]) = some (decide (a ∈ [Str.ofString "next", Str.ofString "free"])) := by
  rw [in_s2, Bool.false_xor]
theorem d_word (r : Rule) : ∃ x ds, r.d = .tup (.str x :: ds) ∧ (decide (x ∈ [Str.ofString "next", Str.ofString "free"]) = false → r.plain) := by
  cases r with
  | held c => exact ⟨_, _, rfl, fun _ => trivial⟩
  | kinds c ps => exact ⟨_, _, rfl, fun _ => trivial⟩
  | next ps => exact ⟨_, _, rfl, fun z => absurd z (by decide +kernel)⟩
  | free ps => exact ⟨_, _, rfl, fun z => absurd z (by decide +kernel)⟩
  | sum c ts => exact ⟨_, _, rfl, fun _ => trivial⟩
  | cap c ts t => exact ⟨_, _, rfl, fun _ => trivial⟩
theorem l_sums {n : Nat} {b : List D} {rs : List Rule} (h : HallOk rs) (hl : rs.length ≤ 12) (hn : n + 1000 ≤ 1000000) (hb : Bx n b) :
    ∃ rs' b', m_law_sums_only b (rsD rs) = some (rsD rs', b') ∧ HallOk rs' ∧ rs'.length = rs.length ∧ (∀ r ∈ rs', r.plain) ∧ Bx (n + 12) b' := by
  obtain ⟨os, b', e, ⟨rs', rfl, h1, h2⟩, hb'⟩ := lcB_dr (f := Rule.d) (step := m_law_sums_only_c1) 1 (fun x o => ∃ r : Rule, o = some r.d ∧ r.fine rs.length ∧ r.plain) (fun xs os => ∃ rs' : List Rule, os = rs'.map Rule.d ∧ rs'.length = xs.length ∧ ∀ r ∈ rs', r.fine rs.length ∧ r.plain)
    ⟨[], rfl, rfl, fun _ h => absurd h List.not_mem_nil⟩ (fun x xs o os ⟨r, e, h1, h2⟩ ⟨rs', e2, h3, h4⟩ => by
      subst e e2
      refine ⟨r :: rs', rfl, by rw [List.length_cons, List.length_cons, h3], fun q hq => ?_⟩
      rcases List.mem_cons.mp hq with rfl | hq
      · exact ⟨h1, h2⟩
      · exact h4 q hq) rs (fun r hr n b hn hb => by
      obtain ⟨x, ds, e, hp⟩ := d_word r
      unfold m_law_sums_only_c1
      rw [ebind (show ixD r.d (.int 0) = some (.str x) by rw [e]; exact ixt0 _ _), gd2, bs, ebind (in_nf x)]
      by_cases c : x ∈ [Str.ofString "next", Str.ofString "free"]
      · obtain ⟨j, b1, e1, _, k1⟩ := dr_take (c := 5) hb (by omega) (by omega) (by omega)
        have e1 : m_law_take b (.int 5) = some (nd j, b1) := e1
        rw [decide_eq_true c, ct]
        show ∃ o b', ((m_law_take b (.int 5)).bind _).bind _ = _ ∧ _
        rw [ebind e1, gd2]
        exact ⟨_, _, rfl, ⟨.held j, rfl, ⟨.nil, fun _ h => absurd h List.not_mem_nil, fun _ h => absurd h List.not_mem_nil⟩, trivial⟩, k1⟩
      · rw [decide_eq_false c, cf]
        exact ⟨_, _, rfl, ⟨r, rfl, h.fine r hr, hp (decide_eq_false c)⟩, hb.mono (by omega)⟩) n b (by omega) hb
  refine ⟨rs', b', ?_, ⟨fun r hr => ?_, ?_⟩, h1, fun r hr => (h2 r hr).2, hb'.mono (by omega)⟩
  · unfold m_law_sums_only
    rw [show itD (rsD rs) = some (rs.map Rule.d) from it_l _, bs, gd_ok (by rw [List.length_map]; omega), ebind e]
    rfl
  · rw [h1]
    exact (h2 r hr).1
  · rw [h1]
    exact h.few
theorem take_next {α : Type} {xs : List α} {i : Nat} {x : α} (h : xs[i]? = some x) : xs.take (i + 1) = xs.take i ++ [x] := by
  rw [List.take_succ, h]
  rfl
theorem l_other {n : Nat} {b : List D} {st : List Nat} (hl : st.length ≤ 12) (hn : n + 1000 ≤ 1000000) (hb : Bx n b) : ∃ f b', m_law_otherwise b (stD st) = some (stD (st.map f), b') ∧ Led f st ∧ Bx (n + 100) b' := by
  obtain ⟨j, b1, e1, _, k1⟩ := dr_take (c := 4) hb (by omega) (by omega) (by omega)
  have e1 : m_law_take b (.int 4) = some (nd j, b1) := e1
  have hk : (lows st).length ≤ 12 := by rw [lows_len]; exact Nat.le_trans (kinds_le st) hl
  have es : sseT (stD st) = some (.lst (nl (lows st))) := (show _ = sseD (.lst (nl st)) from rfl).trans (sse_n (ns := st) (by omega))
  have hrise := lows_rise st
  obtain ⟨t', e2, g, here, b2, ks, vs, rfl, hlen, hsame, hval, hmono, htop, k2⟩ := loop_ok (step := m_law_otherwise_f1) (fun i t => ∃ (g : Nat → Nat) (here : Nat) (b' : List D) (ks : List Key) (vs : List D), t = (nd here, b', (ks, vs), ()) ∧ ks.length ≤ i ∧ ks.length = vs.length ∧
      (∀ x ∈ (lows st).take i, dval ks vs (ik x) = some (nd (g x))) ∧ (∀ x ∈ (lows st).take i, ∀ y ∈ (lows st).take i, x < y → g x < g y) ∧ (∀ x ∈ (lows st).take i, g x < here) ∧ Bx (n + 1 + i * 3) b')
    (ds := nl (lows st)) (t := (nd j, b1, ([], []), ())) (k := 0) ⟨id, j, b1, [], [], rfl, Nat.le_refl _, rfl, fun x hx => by simp at hx, fun x hx => by simp at hx, fun x hx => by simp at hx, k1.mono (by omega)⟩ (fun i t d hd hI => by
      rw [Nat.zero_add] at hI ⊢
      obtain ⟨g, here, c0, ks, vs, rfl, hlen, hsame, hval, hmono, htop, hc⟩ := hI
      obtain ⟨x, hx, rfl⟩ : ∃ x, (lows st)[i]? = some x ∧ d = nd x := by
        unfold nl at hd
        rw [List.getElem?_map] at hd
        cases q : (lows st)[i]? with
        | none => rw [q] at hd; cases hd
        | some x => rw [q] at hd; exact ⟨x, rfl, (Option.some.inj hd).symm⟩
      have hi : i < (lows st).length := (List.getElem?_eq_some_iff.mp hx).1
      have hbig : ∀ y ∈ (lows st).take i, y < x := fun y hy => by
        have p := hrise
        rw [← List.take_append_drop i (lows st)] at p
        refine (List.pairwise_append.mp p).2.2 y hy x ?_
        rw [List.mem_iff_getElem?]
        exact ⟨0, by rw [List.getElem?_drop]; exact hx⟩
      obtain ⟨i1, c1, g1, l1, q1⟩ := dr_take (c := 4) hc (by omega) (by omega) (by omega)
      obtain ⟨i2, c2, g2, l2, q2⟩ := dr_take (c := 5000) q1 (by omega) (by omega) (by omega)
      obtain ⟨i3, c3, g3, l3, q3⟩ := dr_take (c := 3) q2 (by omega) (by omega) (by omega)
      obtain ⟨w, _, g4⟩ := ixl_any (ds := [nd 0, nd i1, nd i2]) (ks := [0, i1, i2]) rfl (j := i3) l3
      have g1 : m_law_take c0 (.int 4) = some (nd i1, c1) := g1
      have g2 : m_law_take c1 (.int 5000) = some (nd i2, c2) := g2
      have g3 : m_law_take c2 (.int 3) = some (nd i3, c3) := g3
      obtain ⟨r1, r2, r3, r4⟩ := dput_ok hsame (ik x) (nd here)
      refine ⟨(nd (here + 1 + w), c3, dput ks vs (ik x) (nd here), ()), ?_, fun y => if y = x then here else g y, here + 1 + w, c3, (dput ks vs (ik x) (nd here)).1, (dput ks vs (ik x) (nd here)).2, rfl, ?_, r1, ?_, ?_, ?_, q3.mono (by omega)⟩
      · unfold m_law_otherwise_f1
        have ep : putO (ks, vs) (nd x) (nd here) = some (dput ks vs (ik x) (nd here)) := by
          show gd (ks.length + 1) (some (dput ks vs (ik x) (nd here))) = _
          rw [gd_ok (by omega)]
        rw [ebind ep]
        show (addD (nd here) (nd 1)).bind _ = _
        rw [ebind (add_n _ _)]
        show (m_law_take c0 (.int 4)).bind _ = _
        rw [ebind g1]
        show (m_law_take c1 (.int 5000)).bind _ = _
        rw [ebind g2, gd3, bs]
        show (m_law_take c2 (.int 3)).bind _ = _
        rw [ebind g3]
        show (ixD (.lst [nd 0, nd i1, nd i2]) (nd i3)).bind _ = _
        rw [ebind g4, ebind (add_n _ _)]
      · show (dput ks vs (ik x) (nd here)).1.length ≤ i + 1
        unfold dput
        split
        · exact Nat.le_succ_of_le hlen
        · rw [List.length_append]
          exact Nat.succ_le_succ hlen
      · intro y hy
        rw [r4]
        by_cases c : y = x
        · rw [c, if_pos rfl]
          show _ = some (nd (if x = x then here else g x))
          rw [if_pos rfl]
        · rw [if_neg fun z => c (inl_inj z)]
          show _ = some (nd (if y = x then here else g y))
          rw [if_neg c]
          refine hval y ?_
          rw [take_next hx, List.mem_append, List.mem_singleton] at hy
          exact hy.resolve_right c
      · intro y hy z hz hyz
        rw [take_next hx, List.mem_append, List.mem_singleton] at hy hz
        show (if y = x then here else g y) < if z = x then here else g z
        rcases hy with hy | rfl <;> rcases hz with hz | rfl
        · rw [if_neg (Nat.ne_of_lt (hbig y hy)), if_neg (Nat.ne_of_lt (hbig z hz))]
          exact hmono y hy z hz hyz
        · rw [if_neg (Nat.ne_of_lt (hbig y hy)), if_pos rfl]
          exact htop y hy
        · have := hbig z hz
          omega
        · omega
      · intro y hy
        rw [take_next hx, List.mem_append, List.mem_singleton] at hy
        show (if y = x then here else g y) < _
        rcases hy with hy | rfl
        · rw [if_neg (Nat.ne_of_lt (hbig y hy))]
          have := htop y hy
          omega
        · rw [if_pos rfl]
          omega)
  rw [nl_len, Nat.zero_add, List.take_length] at *
  refine ⟨g, b2, ?_, fun x hx y hy h => hmono x ((lows_mem x).mpr hx) y ((lows_mem y).mpr hy) h, k2.mono (by omega)⟩
  unfold m_law_otherwise
  rw [ebind es, ebind e1, ebind (it_l _), ebind e2, ebind (show itD (stD st) = some (nl st) from it_t _)]
  have e3 : lcG (m_law_otherwise_c2 (nd here, b2, (ks, vs), ())) (nl st) = some (nl (st.map g)) := by
    unfold nl
    rw [List.map_map]
    refine lcG_mp (by omega) fun x hx => ?_
    unfold m_law_otherwise_c2
    rw [ebind (show ixD (.dic ks vs) (nd x) = some (nd (g x)) from hval x ((lows_mem x).mpr hx))]
    rfl
  rw [ebind e3, ebind (tup_l _)]
  rfl
/-! ### the law -/
theorem forK_id {α τ : Type} {step : τ → D → (τ → Option α) → Option α} {t : τ} {k : τ → Option α} : ∀ {ds : List D}, (∀ d ∈ ds, ∀ k, step t d k = k t) → forK step ds t k = k t
  | [], _ => rfl
  | d :: ds, h => by
    show step t d (fun t1 => forK step ds t1 k) = _
    rw [h d (List.mem_cons_self ..)]
    exact forK_id fun e he => h e (List.mem_cons_of_mem _ he)
theorem c1_ok {ts : List (Nat × Nat)} (h : ts.length ≤ 100000) : lcG m_law_right_c1 (pl ts) = some (nl (ts.map Prod.fst)) := by
  unfold nl
  rw [List.map_map]
  exact lcG_mp h fun q _ => rfl
theorem c2_ok {ts : List (Nat × Nat)} (h : ts.length ≤ 100000) : lcG m_law_right_c2 (pl ts) = some (nl (ts.map Prod.fst)) := by
  unfold nl
  rw [List.map_map]
  exact lcG_mp h fun q _ => rfl
theorem sg_turned {rs : List Rule} {st ps : List Nat} {p : Nat} (hp : p < st.length) (hm : p ∈ ps) : sg (turnedBy rs st ps) p = turnOf rs st p := by
  unfold sg turnedBy
  rw [List.getD_eq_getElem?_getD, List.getElem?_map, List.getElem?_range hp]
  show (if p ∈ ps then turnOf rs st p else sg st p) = _
  rw [if_pos hm]
theorem turned_len (rs : List Rule) (st ps : List Nat) : (turnedBy rs st ps).length = st.length := by
  unfold turnedBy
  rw [List.length_map, List.length_range]
theorem ix_turned {rs : List Rule} {st ps : List Nat} {p : Nat} (hp : p < st.length) (hm : p ∈ ps) : ixD (stD (turnedBy rs st ps)) (nd p) = some (nd (turnOf rs st p)) := by
  rw [← sg_turned hp hm]
  exact ix_st (by rw [turned_len]; exact hp)
section
variable {C : Addr} {rs : List Rule} {st : List Nat} {f : Nat → Nat} (h : HallOk rs) (hl : rs.length ≤ 12) (hpl : ∀ r ∈ rs, r.plain) (hs : st.length = rs.length) (hf : Led f st)
include h hl hpl hs hf
theorem f4_ok (b b2 : List D) {p : Nat} (hp : p < rs.length) (k : List D × Unit → Option (D × List D)) : m_law_right_f4 C (hallD C rs, stD st, ()) (stD (st.map f), b2) (b, ()) (nd p) k = k (b, ()) := by
  have hs2 : (st.map f).length = rs.length := by rw [List.length_map]; exact hs
  have hll : ∀ s m, (lotAt (rl rs p).seen s m).length ≤ 100000 := fun s m => by
    have := (lotAt_ok (h.rl hp) s m).len
    omega
  unfold m_law_right_f4
  show (m_lot_of C (hallD C rs) (stD st) (nd p)).bind _ = _
  rw [ebind (p_lot h hs hp), ebind (it_l _), ebind (c1_ok (hll _ _))]
  show (m_lot_of C (hallD C rs) (stD (st.map f)) (nd p)).bind _ = _
  rw [ebind (p_lot h hs2 hp), ebind (it_l _), ebind (c2_ok (hll _ _)), gd2, bs, ebind (it_t _)]
  have e3 : lcG (m_law_right_c3 (nd p) C (hallD C rs, stD st, ())) [stD st, stD (st.map f)] = some [nd (turnOf rs st p), nd (turnOf rs (st.map f) p)] := by
    refine lcG_mp (f := stD) (g := fun s => nd (turnOf rs s p)) (xs := [st, st.map f]) (Nat.le_of_ble_eq_true rfl) fun s hm => ?_
    have hsl : s.length = rs.length := by
      simp only [List.mem_cons, List.not_mem_nil, or_false] at hm
      rcases hm with rfl | rfl
      · exact hs
      · exact hs2
    unfold m_law_right_c3
    rw [gd1, bs]
    show (m_turned C (hallD C rs) (stD s) (.lst (nl [p]))).bind _ = _
    rw [ebind (p_turned (ps := [p]) h hsl (fun q hq => by rw [List.mem_singleton.mp hq]; exact hp) (Nat.le_of_ble_eq_true rfl) (it_l _)), ebind (ix_turned (by omega) (List.mem_singleton.mpr rfl))]
  show (lcG (m_law_right_c3 (nd p) C (hallD C rs, stD st, ())) [stD st, stD (st.map f)]).bind _ = _
  rw [ebind e3, lot_led h hs hf hp, List.map_map, show (Prod.fst ∘ fun q : Nat × Nat => (q.1, f q.2)) = Prod.fst from rfl, ebind (eq_nl _ _ _), decide_eq_true rfl, Bool.true_xor, nt, cf]
  rw [ebind (show ixD (.lst [nd (turnOf rs st p), nd (turnOf rs (st.map f) p)]) (.int 0) = some (nd (turnOf rs st p)) from ixl0 _ _), ebind (show ixD (.lst [nd (turnOf rs st p), nd (turnOf rs (st.map f) p)]) (.int 1) = some (nd (turnOf rs (st.map f) p)) from ixl1 _ _ _),
    turn_led h hpl hs hf hp, ebind (eq_n _ _ _), decide_eq_true rfl]
  rfl
end
theorem hist_led {rs : List Rule} {st : List Nat} {f : Nat → Nat} (h : HallOk rs) (hpl : ∀ r ∈ rs, r.plain) (hs : st.length = rs.length) (hf : Led f st) (n : Nat) : (hist rs (st.map f) n).drop 1 = (hist rs st n).drop 1 := by
  unfold hist
  rw [← List.map_drop, ← List.map_drop]
  refine List.map_congr_left fun k hk => ?_
  obtain ⟨j, rfl⟩ : ∃ j, k = j + 1 := by
    cases k with
    | zero =>
      rw [List.mem_iff_getElem?] at hk
      obtain ⟨i, e⟩ := hk
      rw [List.getElem?_drop] at e
      have hi : 1 + i < n + 1 := by
        have := (List.getElem?_eq_some_iff.mp e).1
        rwa [List.length_range] at this
      rw [List.getElem?_range hi] at e
      injection e with e
      omega
    | succ j => exact ⟨j, rfl⟩
  rw [beats_led h hpl hs hf j]
/-- whole data is like itself -/
theorem pds_mp : ∀ ds : List D, pds ds = ds.map D.pd
  | [] => rfl
  | d :: ds => by
    show d.pd :: pds ds = _
    rw [pds_mp ds]
    rfl
structure Fi (k : Nat) (d : D) : Prop where
  lay : d.pd.canLay0 = true
  dep : d.pd.depth ≤ k
theorem fi_all {k : Nat} : ∀ {ds : List D}, (∀ d ∈ ds, Fi k d) → PyData.canLayAll0 (pds ds) = true ∧ PyData.depthAll (pds ds) ≤ k
  | [], _ => ⟨rfl, Nat.zero_le _⟩
  | d :: ds, h => by
    obtain ⟨a, b⟩ := fi_all fun e he => h e (List.mem_cons_of_mem _ he)
    have g := h d (List.mem_cons_self ..)
    refine ⟨Bool.and_eq_true_iff.mpr ⟨g.lay, a⟩, ?_⟩
    show max d.pd.depth (PyData.depthAll (pds ds)) ≤ k
    have := g.dep
    omega
theorem Fi.lst {k : Nat} {ds : List D} (h : ∀ d ∈ ds, Fi k d) : Fi (k + 1) (.lst ds) := by
  obtain ⟨a, b⟩ := fi_all h
  refine ⟨a, ?_⟩
  show PyData.depth (.list (pds ds)) ≤ k + 1
  simp only [PyData.depth]
  omega
theorem Fi.tup {k : Nat} {ds : List D} (h : ∀ d ∈ ds, Fi k d) : Fi (k + 1) (.tup ds) := by
  obtain ⟨a, b⟩ := fi_all h
  refine ⟨a, ?_⟩
  show PyData.depth (.tuple (pds ds)) ≤ k + 1
  simp only [PyData.depth]
  omega
theorem Fi.nd (n : Nat) : Fi 1 (nd n) := ⟨rfl, by show PyData.depth (.int _) ≤ 1; simp [PyData.depth]⟩
theorem Fi.st (st : List Nat) : Fi 2 (stD st) := Fi.tup fun d hd => by
  obtain ⟨n, _, rfl⟩ := List.mem_map.mp hd
  exact Fi.nd n
theorem Fi.up {k j : Nat} {d : D} (h : Fi k d) (l : k ≤ j) : Fi j d := ⟨h.lay, Nat.le_trans h.dep l⟩
theorem Fi.fit {k : Nat} {d : D} (h : Fi k d) (l : k ≤ 64) : d.fit := Bool.and_eq_true_iff.mpr ⟨h.lay, decide_eq_true (Nat.le_trans h.dep l)⟩
theorem eqW_refl {k : Nat} {d : D} (h : Fi k d) (l : k ≤ 64) (g : Bool) : eqW g d d = some (g ^^ true) := by
  unfold eqW
  rw [if_pos ⟨h.fit l, h.fit l⟩, SeqAt.eqv_refl _ h.lay]
theorem ne_hist (rs : List Rule) (st : List Nat) (n : Nat) : eqD true (.lst ((hist rs st n).drop 1)) (.lst ((hist rs st n).drop 1)) = some false :=
  eqW_refl (k := 3) (d := .lst ((hist rs st n).drop 1)) (Fi.lst fun d hd => by
    obtain ⟨k, _, rfl⟩ := List.mem_map.mp (List.mem_of_mem_drop hd)
    exact Fi.st _) (by decide) true
theorem ne_rest (st : List Nat) (n : Nat) : eqD true (.tup [stD st, nd n]) (.tup [stD st, nd n]) = some false :=
  eqW_refl (k := 3) (d := .tup [stD st, nd n]) (Fi.tup fun d hd => by
    rcases List.mem_cons.mp hd with rfl | hd
    · exact Fi.st _
    · rw [List.mem_singleton.mp hd]
      exact (Fi.nd n).up (by decide)) (by decide) true
theorem forK_dr {α : Type} {step : List D × Unit → D → (List D × Unit → Option α) → Option α} {k : List D × Unit → Option α} (c m : Nat) (h : ∀ n b, n + m ≤ 1000000 → Bx n b → ∃ b', Bx (n + c) b' ∧ ∀ d k, step (b, ()) d k = k (b', ())) :
    ∀ (ds : List D) {n : Nat} {b : List D}, n + ds.length * c + m ≤ 1000000 → Bx n b → ∃ b', Bx (n + ds.length * c) b' ∧ forK step ds (b, ()) k = k (b', ())
  | [], n, b, _, hb => ⟨b, hb.mono (by omega), rfl⟩
  | d :: ds, n, b, hn, hb => by
    rw [List.length_cons, Nat.succ_mul] at hn
    obtain ⟨b1, h1, e1⟩ := h n b (by omega) hb
    obtain ⟨b2, h2, e2⟩ := forK_dr c m h ds (n := n + c) (by omega) h1
    refine ⟨b2, h2.mono (by rw [List.length_cons, Nat.succ_mul]; omega), ?_⟩
    show step (b, ()) d (fun t1 => forK step ds t1 k) = _
    rw [e1 d]
    exact e2
theorem f7_ok {C : Addr} {rs : List Rule} {st : List Nat} (h : HallOk rs) (hl : rs.length ≤ 12) (hpl : ∀ r ∈ rs, r.plain) (hs : st.length = rs.length) {N : Nat} (r1 : beat rs (beats rs st N) = beats rs st N) (r2 : ∀ k < N, beat rs (beats rs st k) ≠ beats rs st k)
    (n : Nat) (b : List D) (hn : n + 2000 ≤ 1000000) (hb : Bx n b) : ∃ b', Bx (n + 200) b' ∧ ∀ d k, m_law_right_f7 (hallD C rs, stD st, ()) (nl (List.range rs.length)) C (.tup [stD (beats rs st N), nd N]) (b, ()) d k = k (b', ()) := by
  obtain ⟨f, b1, e1, hf, k1⟩ := l_other (st := st) (by omega) (by omega) hb
  obtain ⟨qs, b2, e2, hq, k2⟩ := dr_some (ps := List.range rs.length) (odds := 2) (by omega) (by omega) (by rw [List.length_range]; omega) (by rw [List.length_range]; omega) k1
  rw [List.length_range] at k2
  have hs2 : (st.map f).length = rs.length := by rw [List.length_map]; exact hs
  have hqm : ∀ p ∈ qs, p < rs.length := fun p hp => List.mem_range.mp (hq.mem hp)
  have hql : qs.length ≤ 12 := by have := hq.length_le; rw [List.length_range] at this; omega
  obtain ⟨M, r3, r4⟩ := rest_least h hs2
  have hee : beats rs (st.map f) M = beats rs st N := end_same (fun k => beats_led h hpl hs hf k) r1 r3
  have e5 : lcG (m_law_right_c5 (stD (turnedBy rs st qs), stD (turnedBy rs (st.map f) qs), ())) (nl qs) = some (nl (qs.map (turnOf rs st))) := by
    unfold nl
    rw [List.map_map]
    refine lcG_mp (by omega) fun q hm => ?_
    have hqq := hqm q hm
    unfold m_law_right_c5
    rw [ebind (ix_turned (by omega) hm)]
    rfl
  have e6 : lcG (m_law_right_c6 (stD (turnedBy rs st qs), stD (turnedBy rs (st.map f) qs), ())) (nl qs) = some (nl (qs.map (turnOf rs (st.map f)))) := by
    unfold nl
    rw [List.map_map]
    refine lcG_mp (by omega) fun q hm => ?_
    have hqq := hqm q hm
    unfold m_law_right_c6
    rw [ebind (ix_turned (by omega) hm)]
    rfl
  have e7 : qs.map (turnOf rs (st.map f)) = qs.map (turnOf rs st) := List.map_congr_left fun q hm => turn_led h hpl hs hf (hqm q hm)
  refine ⟨b2, k2.mono (by omega), fun d k => ?_⟩
  unfold m_law_right_f7
  show (m_law_otherwise b (stD st)).bind _ = _
  rw [ebind e1, ebind (it_l _)]
  show forK (m_law_right_f4 C (hallD C rs, stD st, ()) (stD (st.map f), b1)) (nl (List.range rs.length)) (b1, ()) _ = _
  rw [forK_id fun d hd k => by
    obtain ⟨p, hp, rfl⟩ := List.mem_map.mp hd
    exact f4_ok h hl hpl hs hf b1 b1 (List.mem_range.mp hp) k]
  show (m_law_some b1 (.lst (nl (List.range rs.length))) (nd 2)).bind _ = _
  rw [ebind e2]
  show (m_turned C (hallD C rs) (stD st) (.lst (nl qs))).bind _ = _
  rw [ebind (p_turned h hs hqm (by omega) (it_l _))]
  show (m_turned C (hallD C rs) (stD (st.map f)) (.lst (nl qs))).bind _ = _
  rw [ebind (p_turned h hs2 hqm (by omega) (it_l _)), gd2, bs, up2, ebind (it_l _)]
  show (lcG (m_law_right_c5 (stD (turnedBy rs st qs), stD (turnedBy rs (st.map f) qs), ())) (nl qs)).bind _ = _
  rw [ebind e5, ebind (it_l _)]
  show (lcG (m_law_right_c6 (stD (turnedBy rs st qs), stD (turnedBy rs (st.map f) qs), ())) (nl qs)).bind _ = _
  rw [ebind e6, e7, ebind (eq_nl _ _ _), decide_eq_true rfl, Bool.true_xor, nt, cf]
  show ((m_history C (hallD C rs) (stD st) (nd 4)).bind _).bind _ = _
  rw [ebind (p_hist h hs (by omega)), ebind (show intO (.int 1) = some 1 from rfl), ebind (show slD (some (1 : Int)) none (.lst (hist rs st 4)) = some (.lst ((hist rs st 4).drop 1)) from cut_lo' _ 1)]
  show ((m_history C (hallD C rs) (stD (st.map f)) (nd 4)).bind _).bind _ = _
  rw [ebind (p_hist h hs2 (by omega)), ebind (show intO (.int 1) = some 1 from rfl), ebind (show slD (some (1 : Int)) none (.lst (hist rs (st.map f) 4)) = some (.lst ((hist rs (st.map f) 4).drop 1)) from cut_lo' _ 1), hist_led h hpl hs hf, ebind (ne_hist _ _ _), cf]
  show ((m_rest_by_beats C (hallD C rs) (stD (st.map f))).bind _).bind _ = _
  rw [ebind (p_rest h hs2 r3 r4), hee, ebind (show ixD (.tup [stD (beats rs st N), nd M]) (.int 0) = some (stD (beats rs st N)) from ixt0 _ _), ebind (show ixD (.tup [stD (beats rs st N), nd N]) (.int 0) = some (stD (beats rs st N)) from ixt0 _ _),
    ebind (eq_st _ _ _), decide_eq_true rfl, Bool.true_xor, nt, bs, cf]
  show ((eqD true (stD (st.map f)) (stD (beats rs st N))).bind _).bind _ = _
  rw [ebind (eq_st _ _ _)]
  by_cases c1 : st.map f = beats rs st N
  · rw [decide_eq_true c1]
    rfl
  rw [decide_eq_false c1, Bool.true_xor, nf, ct]
  show ((eqD true (stD st) (stD (beats rs st N))).bind _).bind _ = _
  rw [ebind (eq_st _ _ _)]
  by_cases c2 : st = beats rs st N
  · rw [decide_eq_true c2]
    rfl
  rw [decide_eq_false c2, Bool.true_xor, nf, ct]
  have m0 : 0 < M := by
    rcases Nat.eq_zero_or_pos M with e | e
    · subst e
      exact absurd hee c1
    · exact e
  have n0 : 0 < N := by
    rcases Nat.eq_zero_or_pos N with e | e
    · subst e
      exact absurd rfl c2
    · exact e
  have hMN : M = N := by
    have x1 := least_le (fun k => beats_led h hpl hs hf k) r3 r2 m0
    have x2 := least_le (a := st.map f) (b := st) (fun k => (beats_led h hpl hs hf k).symm) r1 r4 n0
    omega
  subst hMN
  show ((m_rest_by_beats C (hallD C rs) (stD (st.map f))).bind _).bind _ = _
  rw [ebind (p_rest h hs2 r3 r4), hee, ebind (ne_rest _ _)]
  rfl
theorem f8_ok {C : Addr} (n : Nat) (b : List D) (hn : n + 40000 ≤ 1000000) (hb : Bx n b) : ∃ b', Bx (n + 8000) b' ∧ ∀ d k, m_law_right_f8 C (b, ()) d k = k (b', ()) := by
  obtain ⟨rs0, b1, e1, g1, g2, g3, k1⟩ := drawn_f (.int 9) 9 rfl (by omega) (by omega) (by omega) hb
  obtain ⟨rs, b2, e2, h1, hlen, hpl, k2⟩ := l_sums g1 g3 (by omega) k1
  have h3 : rs.length ≤ 12 := by omega
  obtain ⟨st, b3, e3, hs, k3⟩ := dr_shown h3 (by omega) k2
  obtain ⟨N, r1, r2⟩ := rest_least h1 hs
  have hall : ∃ b4, Bx (n + 5001 + 12 + 100 + 600) b4 ∧ ∀ k : List D × Unit → Option (D × List D), forK (m_law_right_f7 (hallD C rs, stD st, ()) (nl (List.range rs.length)) C (.tup [stD (beats rs st N), nd N])) (nl (List.range 3)) (b3, ()) k = k (b4, ()) := by
    obtain ⟨c1, m1, x1⟩ := f7_ok (C := C) h1 h3 hpl hs r1 r2 _ b3 (by omega) k3
    obtain ⟨c2, m2, x2⟩ := f7_ok (C := C) h1 h3 hpl hs r1 r2 _ c1 (by omega) m1
    obtain ⟨c3, m3, x3⟩ := f7_ok (C := C) h1 h3 hpl hs r1 r2 _ c2 (by omega) m2
    refine ⟨c3, m3.mono (by omega), fun k => ?_⟩
    show m_law_right_f7 _ _ _ _ (b3, ()) (nd 0) (fun t1 => m_law_right_f7 _ _ _ _ t1 (nd 1) (fun t2 => m_law_right_f7 _ _ _ _ t2 (nd 2) fun t3 => k t3)) = _
    rw [x1, x2, x3]
  obtain ⟨b4, k4, x4⟩ := hall
  refine ⟨b4, k4.mono (by omega), fun d k => ?_⟩
  unfold m_law_right_f8
  rw [ebind e1]
  show (m_law_sums_only b1 (rsD rs0)).bind _ = _
  rw [ebind e2]
  show (m_Hall_init__ C C (rsD rs)).bind _ = _
  rw [ebind (hall_init h1 (.inl rfl))]
  show (m_law_shown b2 (rsD rs)).bind _ = _
  rw [ebind e3, gd2, bs]
  show (unp [3, 4] (.tup [hallD C rs, stD st])).bind _ = _
  rw [up2]
  show (lenD (rsD rs)).bind _ = _
  rw [ebind (len_rs rs), ebind (rngL1_n (by omega))]
  show (m_rest_by_beats C (hallD C rs) (stD st)).bind _ = _
  rw [ebind (p_rest h1 hs r1 r2)]
  show (rng1 (nd 3)).bind _ = _
  rw [ebind (rng1_n (by omega))]
  exact x4 _
theorem right_ok {C : Addr} {b : List D} (hb : Bx 0 b) : ∃ b', m_law_right C b = some (.bl true, b') := by
  unfold m_law_right
  show ∃ b', (rng1 (nd 6)).bind _ = _
  rw [ebind (rng1_n (by omega))]
  obtain ⟨b1, h1, e1⟩ := forK_dr (k := fun t86 => some ((.bl true), t86.1)) 8000 40000 (f8_ok (C := C)) (nl (List.range 6)) (n := 0) (b := b) (by rw [nl_len, List.length_range]; omega) hb
  exact ⟨b1, e1⟩
theorem law_true (C : Addr) (is : List Int) : m_law C (.scr (dI is)) = some (.bl true) := by
  obtain ⟨cs, e1, hc⟩ := l_folded is
  have e2 : int2D maxI (.int 1) (nd cs.length) = some (nd (max 1 cs.length)) := max_n 1 cs.length
  have e3 : lcB (m_law_c1 (.lst (dI cs)) C) (nl (List.range (max 1 cs.length))) () = some ((), (nl (List.range (max 1 cs.length))).map fun _ => D.bl true) := by
    refine lcB_unit fun d hd => ?_
    obtain ⟨k, hk, rfl⟩ := List.mem_map.mp hd
    have hk := List.mem_range.mp hk
    obtain ⟨b, d1, d2⟩ := l_dip (cs := cs) (k := k) (by omega) hc
    obtain ⟨b', r1⟩ := right_ok (C := C) d2
    unfold m_law_c1
    rw [ebind d1, ebind r1]
  unfold m_law
  rw [ebind e1, ebind (len_l _), dI_len, ebind e2, ebind (rng1_n (by omega)), gd_ok (by rw [nl_len, List.length_range]; omega), ebind e3, ebind (all_true _)]
end K7
namespace K7
open PySem PySem.Spec PyProof.Rows L2 Gd Ge
/-! ### what the top has written; the law's own head -/
theorem all_mk {l : PySem.W.OpenLaw} {w : World} {K : PySem.W.Frag} {h : Heap} {mg : Str → Option Value} {fa cl_Hall f0 f1 f2 f3 f4 f5 f6 f7 f8 f9 f10 f11 f12 f13 f14 f15 f16 f17 f18 f19 f20 f21 f22 f23 f24 f25 f26 f27 f28 f29 f30 f31 f32 f33 f34 f35 : Addr} (X : K.In h) (G : h.Ns mainGlobals mg) (hfa : mg "law" = some (.ref fa))
    (acl_Hall : PySem.W.nsIn K mainGlobals "Hall" = some (some (.ref cl_Hall))) (pgcl_Hall : PySem.W.plainGet K cl_Hall Str.empty = true) (hdcl_Hall : PySem.W.hasDictIn K cl_Hall = true) (pocl_Hall : PySem.W.plainOver K cl_Hall = true) (sacl_Hall : PySem.W.findIn K (.ref cl_Hall) "__setattr__" = some (some (.builtin "object.__setattr__"))) (mkcl_Hall : PySem.W.makesIn K cl_Hall = true) (kccl_Hall : PySem.W.keepIn K (.ref cl_Hall) = true)
    (nacl_Hall_own_rules : PySem.W.findIn K (.ref cl_Hall) "own_rules" = some none)
    (nacl_Hall_own_seen : PySem.W.findIn K (.ref cl_Hall) "own_seen" = some none)
    {od0 an0 : Option Addr} {sl0 : Array (Option Value)} {oc0 kV0 dc0 pm0 cd0 ct0 : Value}
    (a0 : PySem.W.nsIn K mainGlobals "_law_dip" = some (some (.ref f0)))
    (l0 : K.lookup f0 = some ⟨oc0, od0, .func (PySem.W.fnOf "_law_dip" "_law_dip" (defArgs st_law_dip) (defBody st_law_dip) (defScope st_law_dip) .none kV0 dc0 pm0 an0 cd0 ct0), sl0⟩) (c0 : PySem.W.codeIn K cd0 "_law_dip" = true) (k0 : PySem.W.keepIn K (.ref f0) = true)
    {od1 an1 : Option Addr} {sl1 : Array (Option Value)} {oc1 kV1 dc1 pm1 cd1 ct1 : Value}
    (a1 : PySem.W.nsIn K mainGlobals "_law_folded" = some (some (.ref f1)))
    (l1 : K.lookup f1 = some ⟨oc1, od1, .func (PySem.W.fnOf "_law_folded" "_law_folded" (defArgs st_law_folded) (defBody st_law_folded) (defScope st_law_folded) .none kV1 dc1 pm1 an1 cd1 ct1), sl1⟩) (c1 : PySem.W.codeIn K cd1 "_law_folded" = true) (k1 : PySem.W.keepIn K (.ref f1) = true)
    {od2 an2 : Option Addr} {sl2 : Array (Option Value)} {oc2 kV2 dc2 pm2 cd2 ct2 : Value}
    (a2 : PySem.W.nsIn K mainGlobals "is_whole" = some (some (.ref f2)))
    (l2 : K.lookup f2 = some ⟨oc2, od2, .func (PySem.W.fnOf "is_whole" "is_whole" (defArgs st_is_whole) (defBody st_is_whole) (defScope st_is_whole) .none kV2 dc2 pm2 an2 cd2 ct2), sl2⟩) (c2 : PySem.W.codeIn K cd2 "is_whole" = true) (k2 : PySem.W.keepIn K (.ref f2) = true)
    {od3 an3 : Option Addr} {sl3 : Array (Option Value)} {oc3 kV3 dc3 pm3 cd3 ct3 : Value}
    (a3 : PySem.W.nsIn K mainGlobals "is_person" = some (some (.ref f3)))
    (l3 : K.lookup f3 = some ⟨oc3, od3, .func (PySem.W.fnOf "is_person" "is_person" (defArgs st_is_person) (defBody st_is_person) (defScope st_is_person) .none kV3 dc3 pm3 an3 cd3 ct3), sl3⟩) (c3 : PySem.W.codeIn K cd3 "is_person" = true) (k3 : PySem.W.keepIn K (.ref f3) = true)
    {od4 an4 : Option Addr} {sl4 : Array (Option Value)} {oc4 kV4 dc4 pm4 cd4 ct4 : Value}
    (a4 : PySem.W.findIn K (.ref cl_Hall) "look_for" = some (some (.ref f4))) (i4 : PySem.W.isFn K (.ref f4) = true)
    (l4 : K.lookup f4 = some ⟨oc4, od4, .func (PySem.W.fnOf "look_for" "Hall.look_for" (defArgs st_Hall_look_for) (defBody st_Hall_look_for) (defScope st_Hall_look_for) .none kV4 dc4 pm4 an4 cd4 ct4), sl4⟩) (c4 : PySem.W.codeIn K cd4 "Hall.look_for" = true) (k4 : PySem.W.keepIn K (.ref f4) = true)
    {od5 an5 : Option Addr} {sl5 : Array (Option Value)} {oc5 kV5 dc5 pm5 cd5 ct5 : Value}
    (a5 : PySem.W.findIn K (.ref cl_Hall) "sees" = some (some (.ref f5))) (i5 : PySem.W.isFn K (.ref f5) = true)
    (l5 : K.lookup f5 = some ⟨oc5, od5, .func (PySem.W.fnOf "sees" "Hall.sees" (defArgs st_Hall_sees) (defBody st_Hall_sees) (defScope st_Hall_sees) .none kV5 dc5 pm5 an5 cd5 ct5), sl5⟩) (c5 : PySem.W.codeIn K cd5 "Hall.sees" = true) (k5 : PySem.W.keepIn K (.ref f5) = true)
    {od6 an6 : Option Addr} {sl6 : Array (Option Value)} {oc6 kV6 dc6 pm6 cd6 ct6 : Value}
    (a6 : PySem.W.nsIn K mainGlobals "lot_of" = some (some (.ref f6)))
    (l6 : K.lookup f6 = some ⟨oc6, od6, .func (PySem.W.fnOf "lot_of" "lot_of" (defArgs st_lot_of) (defBody st_lot_of) (defScope st_lot_of) .none kV6 dc6 pm6 an6 cd6 ct6), sl6⟩) (c6 : PySem.W.codeIn K cd6 "lot_of" = true) (k6 : PySem.W.keepIn K (.ref f6) = true)
    {od7 an7 : Option Addr} {sl7 : Array (Option Value)} {oc7 kV7 dc7 pm7 cd7 ct7 : Value}
    (a7 : PySem.W.nsIn K mainGlobals "least_free" = some (some (.ref f7)))
    (l7 : K.lookup f7 = some ⟨oc7, od7, .func (PySem.W.fnOf "least_free" "least_free" (defArgs st_least_free) (defBody st_least_free) (defScope st_least_free) .none kV7 dc7 pm7 an7 cd7 ct7), sl7⟩) (c7 : PySem.W.codeIn K cd7 "least_free" = true) (k7 : PySem.W.keepIn K (.ref f7) = true)
    {od8 an8 : Option Addr} {sl8 : Array (Option Value)} {oc8 kV8 dc8 pm8 cd8 ct8 : Value}
    (a8 : PySem.W.nsIn K mainGlobals "told_of" = some (some (.ref f8)))
    (l8 : K.lookup f8 = some ⟨oc8, od8, .func (PySem.W.fnOf "told_of" "told_of" (defArgs st_told_of) (defBody st_told_of) (defScope st_told_of) .none kV8 dc8 pm8 an8 cd8 ct8), sl8⟩) (c8 : PySem.W.codeIn K cd8 "told_of" = true) (k8 : PySem.W.keepIn K (.ref f8) = true)
    {od9 an9 : Option Addr} {sl9 : Array (Option Value)} {oc9 kV9 dc9 pm9 cd9 ct9 : Value}
    (a9 : PySem.W.findIn K (.ref cl_Hall) "rule" = some (some (.ref f9))) (i9 : PySem.W.isFn K (.ref f9) = true)
    (l9 : K.lookup f9 = some ⟨oc9, od9, .func (PySem.W.fnOf "rule" "Hall.rule" (defArgs st_Hall_rule) (defBody st_Hall_rule) (defScope st_Hall_rule) .none kV9 dc9 pm9 an9 cd9 ct9), sl9⟩) (c9 : PySem.W.codeIn K cd9 "Hall.rule" = true) (k9 : PySem.W.keepIn K (.ref f9) = true)
    {od10 an10 : Option Addr} {sl10 : Array (Option Value)} {oc10 kV10 dc10 pm10 cd10 ct10 : Value}
    (a10 : PySem.W.nsIn K mainGlobals "told_now" = some (some (.ref f10)))
    (l10 : K.lookup f10 = some ⟨oc10, od10, .func (PySem.W.fnOf "told_now" "told_now" (defArgs st_told_now) (defBody st_told_now) (defScope st_told_now) .none kV10 dc10 pm10 an10 cd10 ct10), sl10⟩) (c10 : PySem.W.codeIn K cd10 "told_now" = true) (k10 : PySem.W.keepIn K (.ref f10) = true)
    {od11 an11 : Option Addr} {sl11 : Array (Option Value)} {oc11 kV11 dc11 pm11 cd11 ct11 : Value}
    (a11 : PySem.W.nsIn K mainGlobals "turned" = some (some (.ref f11)))
    (l11 : K.lookup f11 = some ⟨oc11, od11, .func (PySem.W.fnOf "turned" "turned" (defArgs st_turned) (defBody st_turned) (defScope st_turned) .none kV11 dc11 pm11 an11 cd11 ct11), sl11⟩) (c11 : PySem.W.codeIn K cd11 "turned" = true) (k11 : PySem.W.keepIn K (.ref f11) = true)
    {od12 an12 : Option Addr} {sl12 : Array (Option Value)} {oc12 kV12 dc12 pm12 cd12 ct12 : Value}
    (a12 : PySem.W.findIn K (.ref cl_Hall) "__len__" = some (some (.ref f12))) (i12 : PySem.W.isFn K (.ref f12) = true)
    (l12 : K.lookup f12 = some ⟨oc12, od12, .func (PySem.W.fnOf "__len__" "Hall.__len__" (defArgs st_Hall_len__) (defBody st_Hall_len__) (defScope st_Hall_len__) .none kV12 dc12 pm12 an12 cd12 ct12), sl12⟩) (c12 : PySem.W.codeIn K cd12 "Hall.__len__" = true) (k12 : PySem.W.keepIn K (.ref f12) = true)
    {od13 an13 : Option Addr} {sl13 : Array (Option Value)} {oc13 kV13 dc13 pm13 cd13 ct13 : Value}
    (a13 : PySem.W.nsIn K mainGlobals "beaten" = some (some (.ref f13)))
    (l13 : K.lookup f13 = some ⟨oc13, od13, .func (PySem.W.fnOf "beaten" "beaten" (defArgs st_beaten) (defBody st_beaten) (defScope st_beaten) .none kV13 dc13 pm13 an13 cd13 ct13), sl13⟩) (c13 : PySem.W.codeIn K cd13 "beaten" = true) (k13 : PySem.W.keepIn K (.ref f13) = true)
    {od14 an14 : Option Addr} {sl14 : Array (Option Value)} {oc14 kV14 dc14 pm14 cd14 ct14 : Value}
    (a14 : PySem.W.nsIn K mainGlobals "history" = some (some (.ref f14)))
    (l14 : K.lookup f14 = some ⟨oc14, od14, .func (PySem.W.fnOf "history" "history" (defArgs st_history) (defBody st_history) (defScope st_history) .none kV14 dc14 pm14 an14 cd14 ct14), sl14⟩) (c14 : PySem.W.codeIn K cd14 "history" = true) (k14 : PySem.W.keepIn K (.ref f14) = true)
    {od15 an15 : Option Addr} {sl15 : Array (Option Value)} {oc15 kV15 dc15 pm15 cd15 ct15 : Value}
    (a15 : PySem.W.nsIn K mainGlobals "rest_by_beats" = some (some (.ref f15)))
    (l15 : K.lookup f15 = some ⟨oc15, od15, .func (PySem.W.fnOf "rest_by_beats" "rest_by_beats" (defArgs st_rest_by_beats) (defBody st_rest_by_beats) (defScope st_rest_by_beats) .none kV15 dc15 pm15 an15 cd15 ct15), sl15⟩) (c15 : PySem.W.codeIn K cd15 "rest_by_beats" = true) (k15 : PySem.W.keepIn K (.ref f15) = true)
    {od16 an16 : Option Addr} {sl16 : Array (Option Value)} {oc16 kV16 dc16 pm16 cd16 ct16 : Value}
    (a16 : PySem.W.nsIn K mainGlobals "_law_take" = some (some (.ref f16)))
    (l16 : K.lookup f16 = some ⟨oc16, od16, .func (PySem.W.fnOf "_law_take" "_law_take" (defArgs st_law_take) (defBody st_law_take) (defScope st_law_take) .none kV16 dc16 pm16 an16 cd16 ct16), sl16⟩) (c16 : PySem.W.codeIn K cd16 "_law_take" = true) (k16 : PySem.W.keepIn K (.ref f16) = true)
    {od17 an17 : Option Addr} {sl17 : Array (Option Value)} {oc17 kV17 dc17 pm17 cd17 ct17 : Value}
    (a17 : PySem.W.nsIn K mainGlobals "_law_some" = some (some (.ref f17)))
    (l17 : K.lookup f17 = some ⟨oc17, od17, .func (PySem.W.fnOf "_law_some" "_law_some" (defArgs st_law_some) (defBody st_law_some) (defScope st_law_some) .none kV17 dc17 pm17 an17 cd17 ct17), sl17⟩) (c17 : PySem.W.codeIn K cd17 "_law_some" = true) (k17 : PySem.W.keepIn K (.ref f17) = true)
    {od18 an18 : Option Addr} {sl18 : Array (Option Value)} {oc18 kV18 dc18 pm18 cd18 ct18 : Value}
    (a18 : PySem.W.nsIn K mainGlobals "_law_sum_rule" = some (some (.ref f18)))
    (l18 : K.lookup f18 = some ⟨oc18, od18, .func (PySem.W.fnOf "_law_sum_rule" "_law_sum_rule" (defArgs st_law_sum_rule) (defBody st_law_sum_rule) (defScope st_law_sum_rule) .none kV18 dc18 pm18 an18 cd18 ct18), sl18⟩) (c18 : PySem.W.codeIn K cd18 "_law_sum_rule" = true) (k18 : PySem.W.keepIn K (.ref f18) = true)
    {od19 an19 : Option Addr} {sl19 : Array (Option Value)} {oc19 kV19 dc19 pm19 cd19 ct19 : Value}
    (a19 : PySem.W.nsIn K mainGlobals "_law_rule" = some (some (.ref f19)))
    (l19 : K.lookup f19 = some ⟨oc19, od19, .func (PySem.W.fnOf "_law_rule" "_law_rule" (defArgs st_law_rule) (defBody st_law_rule) (defScope st_law_rule) .none kV19 dc19 pm19 an19 cd19 ct19), sl19⟩) (c19 : PySem.W.codeIn K cd19 "_law_rule" = true) (k19 : PySem.W.keepIn K (.ref f19) = true)
    {od20 an20 : Option Addr} {sl20 : Array (Option Value)} {oc20 kV20 dc20 pm20 cd20 ct20 : Value}
    (a20 : PySem.W.nsIn K mainGlobals "_law_hall" = some (some (.ref f20)))
    (l20 : K.lookup f20 = some ⟨oc20, od20, .func (PySem.W.fnOf "_law_hall" "_law_hall" (defArgs st_law_hall) (defBody st_law_hall) (defScope st_law_hall) .none kV20 dc20 pm20 an20 cd20 ct20), sl20⟩) (c20 : PySem.W.codeIn K cd20 "_law_hall" = true) (k20 : PySem.W.keepIn K (.ref f20) = true)
    {od21 an21 : Option Addr} {sl21 : Array (Option Value)} {oc21 kV21 dc21 pm21 cd21 ct21 : Value}
    (a21 : PySem.W.nsIn K mainGlobals "_law_strewn" = some (some (.ref f21)))
    (l21 : K.lookup f21 = some ⟨oc21, od21, .func (PySem.W.fnOf "_law_strewn" "_law_strewn" (defArgs st_law_strewn) (defBody st_law_strewn) (defScope st_law_strewn) .none kV21 dc21 pm21 an21 cd21 ct21), sl21⟩) (c21 : PySem.W.codeIn K cd21 "_law_strewn" = true) (k21 : PySem.W.keepIn K (.ref f21) = true)
    {od22 an22 : Option Addr} {sl22 : Array (Option Value)} {oc22 kV22 dc22 pm22 cd22 ct22 : Value}
    (a22 : PySem.W.nsIn K mainGlobals "_law_flat" = some (some (.ref f22)))
    (l22 : K.lookup f22 = some ⟨oc22, od22, .func (PySem.W.fnOf "_law_flat" "_law_flat" (defArgs st_law_flat) (defBody st_law_flat) (defScope st_law_flat) .none kV22 dc22 pm22 an22 cd22 ct22), sl22⟩) (c22 : PySem.W.codeIn K cd22 "_law_flat" = true) (k22 : PySem.W.keepIn K (.ref f22) = true)
    {od23 an23 : Option Addr} {sl23 : Array (Option Value)} {oc23 kV23 dc23 pm23 cd23 ct23 : Value}
    (a23 : PySem.W.nsIn K mainGlobals "_law_shown" = some (some (.ref f23)))
    (l23 : K.lookup f23 = some ⟨oc23, od23, .func (PySem.W.fnOf "_law_shown" "_law_shown" (defArgs st_law_shown) (defBody st_law_shown) (defScope st_law_shown) .none kV23 dc23 pm23 an23 cd23 ct23), sl23⟩) (c23 : PySem.W.codeIn K cd23 "_law_shown" = true) (k23 : PySem.W.keepIn K (.ref f23) = true)
    {od24 an24 : Option Addr} {sl24 : Array (Option Value)} {oc24 kV24 dc24 pm24 cd24 ct24 : Value}
    (a24 : PySem.W.nsIn K mainGlobals "_law_sums_only" = some (some (.ref f24)))
    (l24 : K.lookup f24 = some ⟨oc24, od24, .func (PySem.W.fnOf "_law_sums_only" "_law_sums_only" (defArgs st_law_sums_only) (defBody st_law_sums_only) (defScope st_law_sums_only) .none kV24 dc24 pm24 an24 cd24 ct24), sl24⟩) (c24 : PySem.W.codeIn K cd24 "_law_sums_only" = true) (k24 : PySem.W.keepIn K (.ref f24) = true)
    {od25 an25 : Option Addr} {sl25 : Array (Option Value)} {oc25 kV25 dc25 pm25 cd25 ct25 : Value}
    (a25 : PySem.W.nsIn K mainGlobals "_law_otherwise" = some (some (.ref f25)))
    (l25 : K.lookup f25 = some ⟨oc25, od25, .func (PySem.W.fnOf "_law_otherwise" "_law_otherwise" (defArgs st_law_otherwise) (defBody st_law_otherwise) (defScope st_law_otherwise) .none kV25 dc25 pm25 an25 cd25 ct25), sl25⟩) (c25 : PySem.W.codeIn K cd25 "_law_otherwise" = true) (k25 : PySem.W.keepIn K (.ref f25) = true)
    {od26 an26 : Option Addr} {sl26 : Array (Option Value)} {oc26 kV26 dc26 pm26 cd26 ct26 : Value}
    (a26 : PySem.W.nsIn K mainGlobals "is_rising" = some (some (.ref f26)))
    (l26 : K.lookup f26 = some ⟨oc26, od26, .func (PySem.W.fnOf "is_rising" "is_rising" (defArgs st_is_rising) (defBody st_is_rising) (defScope st_is_rising) .none kV26 dc26 pm26 an26 cd26 ct26), sl26⟩) (c26 : PySem.W.codeIn K cd26 "is_rising" = true) (k26 : PySem.W.keepIn K (.ref f26) = true)
    {od27 an27 : Option Addr} {sl27 : Array (Option Value)} {oc27 kV27 dc27 pm27 cd27 ct27 : Value}
    (a27 : PySem.W.nsIn K mainGlobals "is_tie" = some (some (.ref f27)))
    (l27 : K.lookup f27 = some ⟨oc27, od27, .func (PySem.W.fnOf "is_tie" "is_tie" (defArgs st_is_tie) (defBody st_is_tie) (defScope st_is_tie) .none kV27 dc27 pm27 an27 cd27 ct27), sl27⟩) (c27 : PySem.W.codeIn K cd27 "is_tie" = true) (k27 : PySem.W.keepIn K (.ref f27) = true)
    {od28 an28 : Option Addr} {sl28 : Array (Option Value)} {oc28 kV28 dc28 pm28 cd28 ct28 : Value}
    (a28 : PySem.W.nsIn K mainGlobals "are_ties" = some (some (.ref f28)))
    (l28 : K.lookup f28 = some ⟨oc28, od28, .func (PySem.W.fnOf "are_ties" "are_ties" (defArgs st_are_ties) (defBody st_are_ties) (defScope st_are_ties) .none kV28 dc28 pm28 an28 cd28 ct28), sl28⟩) (c28 : PySem.W.codeIn K cd28 "are_ties" = true) (k28 : PySem.W.keepIn K (.ref f28) = true)
    {od29 an29 : Option Addr} {sl29 : Array (Option Value)} {oc29 kV29 dc29 pm29 cd29 ct29 : Value}
    (a29 : PySem.W.nsIn K mainGlobals "are_seen" = some (some (.ref f29)))
    (l29 : K.lookup f29 = some ⟨oc29, od29, .func (PySem.W.fnOf "are_seen" "are_seen" (defArgs st_are_seen) (defBody st_are_seen) (defScope st_are_seen) .none kV29 dc29 pm29 an29 cd29 ct29), sl29⟩) (c29 : PySem.W.codeIn K cd29 "are_seen" = true) (k29 : PySem.W.keepIn K (.ref f29) = true)
    {od30 an30 : Option Addr} {sl30 : Array (Option Value)} {oc30 kV30 dc30 pm30 cd30 ct30 : Value}
    (a30 : PySem.W.nsIn K mainGlobals "is_rule" = some (some (.ref f30)))
    (l30 : K.lookup f30 = some ⟨oc30, od30, .func (PySem.W.fnOf "is_rule" "is_rule" (defArgs st_is_rule) (defBody st_is_rule) (defScope st_is_rule) .none kV30 dc30 pm30 an30 cd30 ct30), sl30⟩) (c30 : PySem.W.codeIn K cd30 "is_rule" = true) (k30 : PySem.W.keepIn K (.ref f30) = true)
    {od31 an31 : Option Addr} {sl31 : Array (Option Value)} {oc31 kV31 dc31 pm31 cd31 ct31 : Value}
    (a31 : PySem.W.nsIn K mainGlobals "ties_of" = some (some (.ref f31)))
    (l31 : K.lookup f31 = some ⟨oc31, od31, .func (PySem.W.fnOf "ties_of" "ties_of" (defArgs st_ties_of) (defBody st_ties_of) (defScope st_ties_of) .none kV31 dc31 pm31 an31 cd31 ct31), sl31⟩) (c31 : PySem.W.codeIn K cd31 "ties_of" = true) (k31 : PySem.W.keepIn K (.ref f31) = true)
    {od32 an32 : Option Addr} {sl32 : Array (Option Value)} {oc32 kV32 dc32 pm32 cd32 ct32 : Value}
    (a32 : PySem.W.nsIn K mainGlobals "seen_by" = some (some (.ref f32)))
    (l32 : K.lookup f32 = some ⟨oc32, od32, .func (PySem.W.fnOf "seen_by" "seen_by" (defArgs st_seen_by) (defBody st_seen_by) (defScope st_seen_by) .none kV32 dc32 pm32 an32 cd32 ct32), sl32⟩) (c32 : PySem.W.codeIn K cd32 "seen_by" = true) (k32 : PySem.W.keepIn K (.ref f32) = true)
    {od33 an33 : Option Addr} {sl33 : Array (Option Value)} {oc33 kV33 dc33 pm33 cd33 ct33 : Value}
    (a33 : PySem.W.findIn K (.ref cl_Hall) "__init__" = some (some (.ref f33))) (i33 : PySem.W.isFn K (.ref f33) = true)
    (l33 : K.lookup f33 = some ⟨oc33, od33, .func (PySem.W.fnOf "__init__" "Hall.__init__" (defArgs st_Hall_init__) (defBody st_Hall_init__) (defScope st_Hall_init__) .none kV33 dc33 pm33 an33 cd33 ct33), sl33⟩) (c33 : PySem.W.codeIn K cd33 "Hall.__init__" = true) (k33 : PySem.W.keepIn K (.ref f33) = true)
    {od34 an34 : Option Addr} {sl34 : Array (Option Value)} {oc34 kV34 dc34 pm34 cd34 ct34 : Value}
    (a34 : PySem.W.nsIn K mainGlobals "_law_right" = some (some (.ref f34)))
    (l34 : K.lookup f34 = some ⟨oc34, od34, .func (PySem.W.fnOf "_law_right" "_law_right" (defArgs st_law_right) (defBody st_law_right) (defScope st_law_right) .none kV34 dc34 pm34 an34 cd34 ct34), sl34⟩) (c34 : PySem.W.codeIn K cd34 "_law_right" = true) (k34 : PySem.W.keepIn K (.ref f34) = true)
    {od35 an35 : Option Addr} {sl35 : Array (Option Value)} {oc35 kV35 dc35 pm35 cd35 ct35 : Value}
    (a35 : PySem.W.nsIn K mainGlobals "law" = some (some (.ref f35)))
    (l35 : K.lookup f35 = some ⟨oc35, od35, .func (PySem.W.fnOf "law" "law" (defArgs st_law) (defBody st_law) (defScope st_law) .none kV35 dc35 pm35 an35 cd35 ct35), sl35⟩) (c35 : PySem.W.codeIn K cd35 "law" = true) (k35 : PySem.W.keepIn K (.ref f35) = true)
    {t_FREE : Tok}
    (gFREE : PySem.W.nsIn K mainGlobals "FREE" = some (some (.str (Str.ofString "free") t_FREE)))
    {t_HELD : Tok}
    (gHELD : PySem.W.nsIn K mainGlobals "HELD" = some (some (.str (Str.ofString "held") t_HELD)))
    {t_KINDS : Tok}
    (gKINDS : PySem.W.nsIn K mainGlobals "KINDS" = some (some (.str (Str.ofString "kinds") t_KINDS)))
    {t_NEXT : Tok}
    (gNEXT : PySem.W.nsIn K mainGlobals "NEXT" = some (some (.str (Str.ofString "next") t_NEXT)))
    {t_SUM : Tok}
    (gSUM : PySem.W.nsIn K mainGlobals "SUM" = some (some (.str (Str.ofString "sum") t_SUM)))
    {p_SIZES : Addr} {es_SIZES : Array DictEntry} {nn_SIZES : Nat}
    (gSIZES : PySem.W.nsIn K mainGlobals "SIZES" = some (some (.ref p_SIZES))) (dSIZES : K.lookup p_SIZES = some ⟨.type "dict", none, .dict es_SIZES nn_SIZES, #[]⟩) (ySIZES : PySem.W.KeysLit w.params es_SIZES.toList) (wSIZES : (p_SIZES == sysModules) = false) (vSIZES : es_SIZES.toList.map entOf = tab_SIZES.map some)
    {t_CAP : Tok}
    (gCAP : PySem.W.nsIn K mainGlobals "CAP" = some (some (.str (Str.ofString "cap") t_CAP)))
    (z_len : PySem.W.nsIn K mainGlobals "len" = some none)
    (z_abs : PySem.W.nsIn K mainGlobals "abs" = some none)
    (z_int : PySem.W.nsIn K mainGlobals "int" = some none)
    (z_bool : PySem.W.nsIn K mainGlobals "bool" = some none)
    (z_str : PySem.W.nsIn K mainGlobals "str" = some none)
    (z_max : PySem.W.nsIn K mainGlobals "max" = some none)
    (z_min : PySem.W.nsIn K mainGlobals "min" = some none)
    (z_sum : PySem.W.nsIn K mainGlobals "sum" = some none)
    (z_all : PySem.W.nsIn K mainGlobals "all" = some none)
    (z_any : PySem.W.nsIn K mainGlobals "any" = some none)
    (z_list : PySem.W.nsIn K mainGlobals "list" = some none)
    (z_tuple : PySem.W.nsIn K mainGlobals "tuple" = some none)
    (z_dict : PySem.W.nsIn K mainGlobals "dict" = some none)
    (z_set : PySem.W.nsIn K mainGlobals "set" = some none)
    (z_sorted : PySem.W.nsIn K mainGlobals "sorted" = some none)
    (z_range : PySem.W.nsIn K mainGlobals "range" = some none)
    (z_enumerate : PySem.W.nsIn K mainGlobals "enumerate" = some none)
    (z_zip : PySem.W.nsIn K mainGlobals "zip" = some none)
    (z_isinstance : PySem.W.nsIn K mainGlobals "isinstance" = some none)
    (z_repr : PySem.W.nsIn K mainGlobals "repr" = some none) :
    ∃ fd : FuncData, (∀ (s : Shared) (v : Value), BindsTo s fd ⟨[v], []⟩ [("_law_script", v)]) ∧ ∀ base : Heap, K.In base → base.Ns mainGlobals mg → FnOk l.prog w K mg base CX0 11 fa fd ["_law_script"] (spD K 1 fs_law) := by
  have e := hfa.symm.trans (PySem.W.mg_of X G a35)
  cases e
  have B : Bts mg := ⟨PySem.W.mg_none_of X G z_len, PySem.W.mg_none_of X G z_abs, PySem.W.mg_none_of X G z_int, PySem.W.mg_none_of X G z_bool, PySem.W.mg_none_of X G z_str, PySem.W.mg_none_of X G z_max, PySem.W.mg_none_of X G z_min, PySem.W.mg_none_of X G z_sum, PySem.W.mg_none_of X G z_all, PySem.W.mg_none_of X G z_any, PySem.W.mg_none_of X G z_list, PySem.W.mg_none_of X G z_tuple, PySem.W.mg_none_of X G z_dict, PySem.W.mg_none_of X G z_set, PySem.W.mg_none_of X G z_sorted, PySem.W.mg_none_of X G z_range, PySem.W.mg_none_of X G z_enumerate, PySem.W.mg_none_of X G z_zip, PySem.W.mg_none_of X G z_isinstance, PySem.W.mg_none_of X G z_repr⟩
  have T_Hall : Txt_Hall K cl_Hall := ⟨⟨pgcl_Hall, hdcl_Hall, pocl_Hall, sacl_Hall⟩, nacl_Hall_own_rules, nacl_Hall_own_seen⟩
  have g_FREE := PySem.W.mg_of X G gFREE
  have g_HELD := PySem.W.mg_of X G gHELD
  have g_KINDS := PySem.W.mg_of X G gKINDS
  have g_NEXT := PySem.W.mg_of X G gNEXT
  have g_SUM := PySem.W.mg_of X G gSUM
  have g_SIZES := PySem.W.mg_of X G gSIZES
  have k_SIZES : KDg K w p_SIZES tab_SIZES := kdg_mk dSIZES ySIZES wSIZES vSIZES
  have g_CAP := PySem.W.mg_of X G gCAP
  have F0 := fun_mk (st := st_law_dip) l0 c0 k0
  have b0 := F0.binds (ps := ["_law_script", "_law_k"]) fun _ _ _ _ _ _ us hl => match us, hl with | [_, _], _ => rfl
  have F1 := fun_mk (st := st_law_folded) l1 c1 k1
  have b1 := F1.binds (ps := ["_law_script", "_law_many"]) fun _ _ _ _ _ _ us hl => match us, hl with | [_, _], _ => rfl
  have F2 := fun_mk (st := st_is_whole) l2 c2 k2
  have b2 := F2.binds (ps := ["thing"]) fun _ _ _ _ _ _ us hl => match us, hl with | [_], _ => rfl
  have F3 := fun_mk (st := st_is_person) l3 c3 k3
  have b3 := F3.binds (ps := ["many", "thing"]) fun _ _ _ _ _ _ us hl => match us, hl with | [_, _], _ => rfl
  have F4 := fun_mk (st := st_Hall_look_for) l4 c4 k4
  have b4 := F4.binds (ps := ["self", "person"]) fun _ _ _ _ _ _ us hl => match us, hl with | [_, _], _ => rfl
  have F5 := fun_mk (st := st_Hall_sees) l5 c5 k5
  have b5 := F5.binds (ps := ["self", "person"]) fun _ _ _ _ _ _ us hl => match us, hl with | [_, _], _ => rfl
  have F6 := fun_mk (st := st_lot_of) l6 c6 k6
  have b6 := F6.binds (ps := ["hall", "standing", "person"]) fun _ _ _ _ _ _ us hl => match us, hl with | [_, _, _], _ => rfl
  have F7 := fun_mk (st := st_least_free) l7 c7 k7
  have b7 := F7.binds (ps := ["numbers"]) fun _ _ _ _ _ _ us hl => match us, hl with | [_], _ => rfl
  have F8 := fun_mk (st := st_told_of) l8 c8 k8
  have b8 := F8.binds (ps := ["rule", "lot"]) fun _ _ _ _ _ _ us hl => match us, hl with | [_, _], _ => rfl
  have F9 := fun_mk (st := st_Hall_rule) l9 c9 k9
  have b9 := F9.binds (ps := ["self", "person"]) fun _ _ _ _ _ _ us hl => match us, hl with | [_, _], _ => rfl
  have F10 := fun_mk (st := st_told_now) l10 c10 k10
  have b10 := F10.binds (ps := ["hall", "standing", "person"]) fun _ _ _ _ _ _ us hl => match us, hl with | [_, _, _], _ => rfl
  have F11 := fun_mk (st := st_turned) l11 c11 k11
  have b11 := F11.binds (ps := ["hall", "standing", "persons"]) fun _ _ _ _ _ _ us hl => match us, hl with | [_, _, _], _ => rfl
  have F12 := fun_mk (st := st_Hall_len__) l12 c12 k12
  have b12 := F12.binds (ps := ["self"]) fun _ _ _ _ _ _ us hl => match us, hl with | [_], _ => rfl
  have F13 := fun_mk (st := st_beaten) l13 c13 k13
  have b13 := F13.binds (ps := ["hall", "standing"]) fun _ _ _ _ _ _ us hl => match us, hl with | [_, _], _ => rfl
  have F14 := fun_mk (st := st_history) l14 c14 k14
  have b14 := F14.binds (ps := ["hall", "standing", "many"]) fun _ _ _ _ _ _ us hl => match us, hl with | [_, _, _], _ => rfl
  have F15 := fun_mk (st := st_rest_by_beats) l15 c15 k15
  have b15 := F15.binds (ps := ["hall", "standing"]) fun _ _ _ _ _ _ us hl => match us, hl with | [_, _], _ => rfl
  have F16 := fun_mk (st := st_law_take) l16 c16 k16
  have b16 := F16.binds (ps := ["_law_box", "_law_many"]) fun _ _ _ _ _ _ us hl => match us, hl with | [_, _], _ => rfl
  have F17 := fun_mk (st := st_law_some) l17 c17 k17
  have b17 := F17.binds (ps := ["_law_box", "_law_pool", "_law_odds"]) fun _ _ _ _ _ _ us hl => match us, hl with | [_, _, _], _ => rfl
  have F18 := fun_mk (st := st_law_sum_rule) l18 c18 k18
  have b18 := F18.binds (ps := ["_law_box", "_law_seen", "_law_far"]) fun _ _ _ _ _ _ us hl => match us, hl with | [_, _, _], _ => rfl
  have F19 := fun_mk (st := st_law_rule) l19 c19 k19
  have b19 := F19.binds (ps := ["_law_box", "_law_many", "_law_pool", "_law_far"]) fun _ _ _ _ _ _ us hl => match us, hl with | [_, _, _, _], _ => rfl
  have F20 := fun_mk (st := st_law_hall) l20 c20 k20
  have b20 := F20.binds (ps := ["_law_box"]) fun _ _ _ _ _ _ us hl => match us, hl with | [_], _ => rfl
  have F21 := fun_mk (st := st_law_strewn) l21 c21 k21
  have b21 := F21.binds (ps := ["_law_box", "_law_pool"]) fun _ _ _ _ _ _ us hl => match us, hl with | [_, _], _ => rfl
  have F22 := fun_mk (st := st_law_flat) l22 c22 k22
  have b22 := F22.binds (ps := ["_law_box", "_law_most"]) fun _ _ _ _ _ _ us hl => match us, hl with | [_, _], _ => rfl
  have F23 := fun_mk (st := st_law_shown) l23 c23 k23
  have b23 := F23.binds (ps := ["_law_box", "_law_rules"]) fun _ _ _ _ _ _ us hl => match us, hl with | [_, _], _ => rfl
  have F24 := fun_mk (st := st_law_sums_only) l24 c24 k24
  have b24 := F24.binds (ps := ["_law_box", "_law_rules"]) fun _ _ _ _ _ _ us hl => match us, hl with | [_, _], _ => rfl
  have F25 := fun_mk (st := st_law_otherwise) l25 c25 k25
  have b25 := F25.binds (ps := ["_law_box", "_law_shown_here"]) fun _ _ _ _ _ _ us hl => match us, hl with | [_, _], _ => rfl
  have F26 := fun_mk (st := st_is_rising) l26 c26 k26
  have b26 := F26.binds (ps := ["things"]) fun _ _ _ _ _ _ us hl => match us, hl with | [_], _ => rfl
  have F27 := fun_mk (st := st_is_tie) l27 c27 k27
  have b27 := F27.binds (ps := ["many", "thing"]) fun _ _ _ _ _ _ us hl => match us, hl with | [_, _], _ => rfl
  have F28 := fun_mk (st := st_are_ties) l28 c28 k28
  have b28 := F28.binds (ps := ["many", "thing"]) fun _ _ _ _ _ _ us hl => match us, hl with | [_, _], _ => rfl
  have F29 := fun_mk (st := st_are_seen) l29 c29 k29
  have b29 := F29.binds (ps := ["many", "thing"]) fun _ _ _ _ _ _ us hl => match us, hl with | [_, _], _ => rfl
  have F30 := fun_mk (st := st_is_rule) l30 c30 k30
  have b30 := F30.binds (ps := ["many", "thing"]) fun _ _ _ _ _ _ us hl => match us, hl with | [_, _], _ => rfl
  have F31 := fun_mk (st := st_ties_of) l31 c31 k31
  have b31 := F31.binds (ps := ["rule"]) fun _ _ _ _ _ _ us hl => match us, hl with | [_], _ => rfl
  have F32 := fun_mk (st := st_seen_by) l32 c32 k32
  have b32 := F32.binds (ps := ["rule"]) fun _ _ _ _ _ _ us hl => match us, hl with | [_], _ => rfl
  have F33 := fun_mk (st := st_Hall_init__) l33 c33 k33
  have b33 := F33.binds (ps := ["self", "rules"]) fun _ _ _ _ _ _ us hl => match us, hl with | [_, _], _ => rfl
  have F34 := fun_mk (st := st_law_right) l34 c34 k34
  have b34 := F34.binds (ps := ["_law_box"]) fun _ _ _ _ _ _ us hl => match us, hl with | [_], _ => rfl
  have F35 := fun_mk (st := st_law) l35 c35 k35
  have b35 := F35.binds (ps := ["_law_script"]) fun _ _ _ _ _ _ us hl => match us, hl with | [_], _ => rfl
  refine ⟨PySem.W.fnOf "law" "law" (defArgs st_law) (defBody st_law) (defScope st_law) .none kV35 dc35 pm35 an35 cd35 ct35, fun s v => .of_eq rfl, fun base _ _ => ?_⟩
  have O_law_dip := ok_law_dip (P := l.prog) (w := w) (base := base) F0 B 
  have G_law_dip : GF l.prog w K mg base "_law_dip" 1 2 M_law_dip := ⟨⟨⟨f0, _, ["_law_script", "_law_k"], O_law_dip, PySem.W.mg_of X G a0, k0, b0⟩⟩, ln_law_dip⟩
  have O_law_folded := ok_law_folded (P := l.prog) (w := w) (base := base) F1 B 
  have G_law_folded : GP l.prog w K mg base "_law_folded" 1 2 M_law_folded := ⟨⟨⟨f1, _, ["_law_script", "_law_many"], O_law_folded, PySem.W.mg_of X G a1, k1, b1⟩⟩, ln_law_folded⟩
  have O_is_whole := ok_is_whole (P := l.prog) (w := w) (base := base) F2 B 
  have G_is_whole : GP l.prog w K mg base "is_whole" 1 1 M_is_whole := ⟨⟨⟨f2, _, ["thing"], O_is_whole, PySem.W.mg_of X G a2, k2, b2⟩⟩, ln_is_whole⟩
  have O_is_person := ok_is_person (P := l.prog) (w := w) (base := base) F3 B G_is_whole
  have G_is_person : GP l.prog w K mg base "is_person" 2 2 M_is_person := ⟨⟨⟨f3, _, ["many", "thing"], O_is_person, PySem.W.mg_of X G a3, k3, b3⟩⟩, ln_is_person⟩
  have O_Hall_look_for := ok_Hall_look_for (P := l.prog) (w := w) (base := base) F4 B T_Hall G_is_person
  have G_Hall_look_for : GM l.prog w K mg base cl_Hall "look_for" 3 2 (M_Hall_look_for cl_Hall) := ⟨⟨f4, _, ["self", "person"], O_Hall_look_for, ⟨a4, i4, k4⟩, b4⟩, (ln_Hall_look_for cl_Hall)⟩
  have O_Hall_sees := ok_Hall_sees (P := l.prog) (w := w) (base := base) F5 B T_Hall G_Hall_look_for
  have G_Hall_sees : GM l.prog w K mg base cl_Hall "sees" 4 2 (M_Hall_sees cl_Hall) := ⟨⟨f5, _, ["self", "person"], O_Hall_sees, ⟨a5, i5, k5⟩, b5⟩, (ln_Hall_sees cl_Hall)⟩
  have O_lot_of := ok_lot_of (P := l.prog) (w := w) (base := base) F6 B T_Hall G_Hall_sees
  have G_lot_of : GP l.prog w K mg base "lot_of" 5 3 (M_lot_of cl_Hall) := ⟨⟨⟨f6, _, ["hall", "standing", "person"], O_lot_of, PySem.W.mg_of X G a6, k6, b6⟩⟩, (ln_lot_of cl_Hall)⟩
  have O_least_free := ok_least_free (P := l.prog) (w := w) (base := base) F7 B 
  have G_least_free : GP l.prog w K mg base "least_free" 1 1 M_least_free := ⟨⟨⟨f7, _, ["numbers"], O_least_free, PySem.W.mg_of X G a7, k7, b7⟩⟩, ln_least_free⟩
  have O_told_of := ok_told_of (P := l.prog) (w := w) (base := base) F8 B G_least_free g_FREE g_HELD g_KINDS g_NEXT g_SUM
  have G_told_of : GP l.prog w K mg base "told_of" 2 2 M_told_of := ⟨⟨⟨f8, _, ["rule", "lot"], O_told_of, PySem.W.mg_of X G a8, k8, b8⟩⟩, ln_told_of⟩
  have O_Hall_rule := ok_Hall_rule (P := l.prog) (w := w) (base := base) F9 B T_Hall G_Hall_look_for
  have G_Hall_rule : GM l.prog w K mg base cl_Hall "rule" 4 2 (M_Hall_rule cl_Hall) := ⟨⟨f9, _, ["self", "person"], O_Hall_rule, ⟨a9, i9, k9⟩, b9⟩, (ln_Hall_rule cl_Hall)⟩
  have O_told_now := ok_told_now (P := l.prog) (w := w) (base := base) F10 B T_Hall G_told_of G_Hall_rule G_lot_of
  have G_told_now : GP l.prog w K mg base "told_now" 6 3 (M_told_now cl_Hall) := ⟨⟨⟨f10, _, ["hall", "standing", "person"], O_told_now, PySem.W.mg_of X G a10, k10, b10⟩⟩, (ln_told_now cl_Hall)⟩
  have O_turned := ok_turned (P := l.prog) (w := w) (base := base) F11 B T_Hall G_told_now
  have G_turned : GP l.prog w K mg base "turned" 7 3 (M_turned cl_Hall) := ⟨⟨⟨f11, _, ["hall", "standing", "persons"], O_turned, PySem.W.mg_of X G a11, k11, b11⟩⟩, (ln_turned cl_Hall)⟩
  have O_Hall_len__ := ok_Hall_len__ (P := l.prog) (w := w) (base := base) F12 B T_Hall
  have G_Hall_len__ : GM l.prog w K mg base cl_Hall "__len__" 1 1 (M_Hall_len__ cl_Hall) := ⟨⟨f12, _, ["self"], O_Hall_len__, ⟨a12, i12, k12⟩, b12⟩, (ln_Hall_len__ cl_Hall)⟩
  have O_beaten := ok_beaten (P := l.prog) (w := w) (base := base) F13 B T_Hall G_turned G_Hall_len__
  have G_beaten : GP l.prog w K mg base "beaten" 8 2 (M_beaten cl_Hall) := ⟨⟨⟨f13, _, ["hall", "standing"], O_beaten, PySem.W.mg_of X G a13, k13, b13⟩⟩, (ln_beaten cl_Hall)⟩
  have O_history := ok_history (P := l.prog) (w := w) (base := base) F14 B T_Hall G_beaten
  have G_history : GP l.prog w K mg base "history" 9 3 (M_history cl_Hall) := ⟨⟨⟨f14, _, ["hall", "standing", "many"], O_history, PySem.W.mg_of X G a14, k14, b14⟩⟩, (ln_history cl_Hall)⟩
  have O_rest_by_beats := ok_rest_by_beats (P := l.prog) (w := w) (base := base) F15 B T_Hall G_beaten
  have G_rest_by_beats : GP l.prog w K mg base "rest_by_beats" 9 2 (M_rest_by_beats cl_Hall) := ⟨⟨⟨f15, _, ["hall", "standing"], O_rest_by_beats, PySem.W.mg_of X G a15, k15, b15⟩⟩, (ln_rest_by_beats cl_Hall)⟩
  have O_law_take := ok_law_take (P := l.prog) (w := w) (base := base) F16 B 
  have G_law_take : GB l.prog w K mg base "_law_take" 1 2 M_law_take := ⟨⟨⟨f16, _, ["_law_box", "_law_many"], O_law_take, PySem.W.mg_of X G a16, k16, b16⟩⟩, ln_law_take⟩
  have O_law_some := ok_law_some (P := l.prog) (w := w) (base := base) F17 B G_law_take
  have G_law_some : GB l.prog w K mg base "_law_some" 2 3 M_law_some := ⟨⟨⟨f17, _, ["_law_box", "_law_pool", "_law_odds"], O_law_some, PySem.W.mg_of X G a17, k17, b17⟩⟩, ln_law_some⟩
  have O_law_sum_rule := ok_law_sum_rule (P := l.prog) (w := w) (base := base) F18 B G_law_take
  have G_law_sum_rule : GB l.prog w K mg base "_law_sum_rule" 2 3 M_law_sum_rule := ⟨⟨⟨f18, _, ["_law_box", "_law_seen", "_law_far"], O_law_sum_rule, PySem.W.mg_of X G a18, k18, b18⟩⟩, ln_law_sum_rule⟩
  have O_law_rule := ok_law_rule (P := l.prog) (w := w) (base := base) F19 B G_law_some G_law_take G_law_sum_rule
  have G_law_rule : GB l.prog w K mg base "_law_rule" 3 4 M_law_rule := ⟨⟨⟨f19, _, ["_law_box", "_law_many", "_law_pool", "_law_far"], O_law_rule, PySem.W.mg_of X G a19, k19, b19⟩⟩, ln_law_rule⟩
  have O_law_hall := ok_law_hall (P := l.prog) (w := w) (base := base) F20 B G_law_take G_law_rule G_law_some
  have G_law_hall : GB l.prog w K mg base "_law_hall" 4 1 M_law_hall := ⟨⟨⟨f20, _, ["_law_box"], O_law_hall, PySem.W.mg_of X G a20, k20, b20⟩⟩, ln_law_hall⟩
  have O_law_strewn := ok_law_strewn (P := l.prog) (w := w) (base := base) F21 B G_law_take
  have G_law_strewn : GB l.prog w K mg base "_law_strewn" 2 2 M_law_strewn := ⟨⟨⟨f21, _, ["_law_box", "_law_pool"], O_law_strewn, PySem.W.mg_of X G a21, k21, b21⟩⟩, ln_law_strewn⟩
  have O_law_flat := ok_law_flat (P := l.prog) (w := w) (base := base) F22 B G_law_take G_law_strewn G_law_rule
  have G_law_flat : GB l.prog w K mg base "_law_flat" 4 2 M_law_flat := ⟨⟨⟨f22, _, ["_law_box", "_law_most"], O_law_flat, PySem.W.mg_of X G a22, k22, b22⟩⟩, ln_law_flat⟩
  have O_law_shown := ok_law_shown (P := l.prog) (w := w) (base := base) F23 B G_law_take
  have G_law_shown : GB l.prog w K mg base "_law_shown" 2 2 M_law_shown := ⟨⟨⟨f23, _, ["_law_box", "_law_rules"], O_law_shown, PySem.W.mg_of X G a23, k23, b23⟩⟩, ln_law_shown⟩
  have O_law_sums_only := ok_law_sums_only (P := l.prog) (w := w) (base := base) F24 B G_law_take
  have G_law_sums_only : GB l.prog w K mg base "_law_sums_only" 2 2 M_law_sums_only := ⟨⟨⟨f24, _, ["_law_box", "_law_rules"], O_law_sums_only, PySem.W.mg_of X G a24, k24, b24⟩⟩, ln_law_sums_only⟩
  have O_law_otherwise := ok_law_otherwise (P := l.prog) (w := w) (base := base) F25 B G_law_take
  have G_law_otherwise : GB l.prog w K mg base "_law_otherwise" 2 2 M_law_otherwise := ⟨⟨⟨f25, _, ["_law_box", "_law_shown_here"], O_law_otherwise, PySem.W.mg_of X G a25, k25, b25⟩⟩, ln_law_otherwise⟩
  have O_is_rising := ok_is_rising (P := l.prog) (w := w) (base := base) F26 B 
  have G_is_rising : GP l.prog w K mg base "is_rising" 1 1 M_is_rising := ⟨⟨⟨f26, _, ["things"], O_is_rising, PySem.W.mg_of X G a26, k26, b26⟩⟩, ln_is_rising⟩
  have O_is_tie := ok_is_tie (P := l.prog) (w := w) (base := base) F27 B G_is_person G_is_whole
  have G_is_tie : GP l.prog w K mg base "is_tie" 3 2 M_is_tie := ⟨⟨⟨f27, _, ["many", "thing"], O_is_tie, PySem.W.mg_of X G a27, k27, b27⟩⟩, ln_is_tie⟩
  have O_are_ties := ok_are_ties (P := l.prog) (w := w) (base := base) F28 B G_is_rising G_is_tie
  have G_are_ties : GP l.prog w K mg base "are_ties" 4 2 M_are_ties := ⟨⟨⟨f28, _, ["many", "thing"], O_are_ties, PySem.W.mg_of X G a28, k28, b28⟩⟩, ln_are_ties⟩
  have O_are_seen := ok_are_seen (P := l.prog) (w := w) (base := base) F29 B G_is_rising G_is_person
  have G_are_seen : GP l.prog w K mg base "are_seen" 3 2 M_are_seen := ⟨⟨⟨f29, _, ["many", "thing"], O_are_seen, PySem.W.mg_of X G a29, k29, b29⟩⟩, ln_are_seen⟩
  have O_is_rule := ok_is_rule (P := l.prog) (w := w) (base := base) F30 B G_is_whole G_are_seen G_are_ties g_FREE g_HELD g_KINDS g_NEXT g_SUM g_SIZES k_SIZES
  have G_is_rule : GP l.prog w K mg base "is_rule" 5 2 M_is_rule := ⟨⟨⟨f30, _, ["many", "thing"], O_is_rule, PySem.W.mg_of X G a30, k30, b30⟩⟩, ln_is_rule⟩
  have O_ties_of := ok_ties_of (P := l.prog) (w := w) (base := base) F31 B g_CAP g_HELD g_SUM
  have G_ties_of : GP l.prog w K mg base "ties_of" 1 1 M_ties_of := ⟨⟨⟨f31, _, ["rule"], O_ties_of, PySem.W.mg_of X G a31, k31, b31⟩⟩, ln_ties_of⟩
  have O_seen_by := ok_seen_by (P := l.prog) (w := w) (base := base) F32 B G_ties_of
  have G_seen_by : GP l.prog w K mg base "seen_by" 2 1 M_seen_by := ⟨⟨⟨f32, _, ["rule"], O_seen_by, PySem.W.mg_of X G a32, k32, b32⟩⟩, ln_seen_by⟩
  have O_Hall_init__ := ok_Hall_init__ (P := l.prog) (w := w) (base := base) F33 B T_Hall G_seen_by G_is_rule
  have G_Hall_init__ : GI l.prog w K mg base cl_Hall "Hall" 6 2 ["own_rules", "own_seen"] (M_Hall_init__ cl_Hall) := ⟨⟨f33, _, ["self", "rules"], O_Hall_init__, ⟨mkcl_Hall, a33, i33, kccl_Hall⟩, b33⟩, PySem.W.mg_of X G acl_Hall, (ln_Hall_init__ cl_Hall)⟩
  have O_law_right := ok_law_right (P := l.prog) (w := w) (base := base) F34 B T_Hall G_law_sums_only G_law_hall G_law_flat G_Hall_init__ G_law_shown G_rest_by_beats G_law_otherwise G_law_some G_law_take G_turned G_lot_of G_history
  have G_law_right : GB l.prog w K mg base "_law_right" 10 1 (M_law_right cl_Hall) := ⟨⟨⟨f34, _, ["_law_box"], O_law_right, PySem.W.mg_of X G a34, k34, b34⟩⟩, (ln_law_right cl_Hall)⟩
  exact (ok_law F35 B T_Hall G_law_folded G_law_right G_law_dip).imp (law_sp fun is _ => law_true cl_Hall is)
end K7
open PySem PySem.W PyProof.Rows
set_option maxHeartbeats 0 in
theorem PySem.Challenge.cw_lesserhall_k33_whole_only_the_order_coun_holds : PySem.Challenge.rw_lesserhall_k33_whole_only_the_order_coun.Holds := by
  w_on; o_law; k_head; (case hw => w_witness2)
  k_fill
  refine L2.walk_of (l := PySem.Challenge.rw_lesserhall_k33_whole_only_the_order_coun) (n := 63) (k := 11) (x := "_law_script") (CX := fun _ => L2.CX0) (sp := fun w => Gd.spD _ 1 Gd.fs_law) rfl (by decide) rfl ⟨rfl, by decide, by decide⟩ (fun w h Y => PySem.W.kIn_of Y) ?F (fun _ _ a ns hl _ hS => Gd.law_in hS hl) (fun _ _ _ _ _ h => h)
  case F =>
    intro w mg fa h KX G hmg
    refine' K7.all_mk KX G hmg ?acl_Hall ?pgcl_Hall ?hdcl_Hall ?pocl_Hall ?sacl_Hall ?mkcl_Hall ?kccl_Hall ?nacl_Hall_own_rules ?nacl_Hall_own_seen ?a0 ?l0 ?c0 ?k0 ?a1 ?l1 ?c1 ?k1 ?a2 ?l2 ?c2 ?k2 ?a3 ?l3 ?c3 ?k3 ?a4 ?i4 ?l4 ?c4 ?k4 ?a5 ?i5 ?l5 ?c5 ?k5 ?a6 ?l6 ?c6 ?k6 ?a7 ?l7 ?c7 ?k7 ?a8 ?l8 ?c8 ?k8 ?a9 ?i9 ?l9 ?c9 ?k9 ?a10 ?l10 ?c10 ?k10 ?a11 ?l11 ?c11 ?k11 ?a12 ?i12 ?l12 ?c12 ?k12 ?a13 ?l13 ?c13 ?k13 ?a14 ?l14 ?c14 ?k14 ?a15 ?l15 ?c15 ?k15 ?a16 ?l16 ?c16 ?k16 ?a17 ?l17 ?c17 ?k17 ?a18 ?l18 ?c18 ?k18 ?a19 ?l19 ?c19 ?k19 ?a20 ?l20 ?c20 ?k20 ?a21 ?l21 ?c21 ?k21 ?a22 ?l22 ?c22 ?k22 ?a23 ?l23 ?c23 ?k23 ?a24 ?l24 ?c24 ?k24 ?a25 ?l25 ?c25 ?k25 ?a26 ?l26 ?c26 ?k26 ?a27 ?l27 ?c27 ?k27 ?a28 ?l28 ?c28 ?k28 ?a29 ?l29 ?c29 ?k29 ?a30 ?l30 ?c30 ?k30 ?a31 ?l31 ?c31 ?k31 ?a32 ?l32 ?c32 ?k32 ?a33 ?i33 ?l33 ?c33 ?k33 ?a34 ?l34 ?c34 ?k34 ?a35 ?l35 ?c35 ?k35 ?gFREE ?gHELD ?gKINDS ?gNEXT ?gSUM ?gSIZES ?dSIZES ?ySIZES ?wSIZES ?vSIZES ?gCAP ?z_len ?z_abs ?z_int ?z_bool ?z_str ?z_max ?z_min ?z_sum ?z_all ?z_any ?z_list ?z_tuple ?z_dict ?z_set ?z_sorted ?z_range ?z_enumerate ?z_zip ?z_isinstance ?z_repr
    (case acl_Hall => k_is); (case pgcl_Hall => k_is); (case hdcl_Hall => k_is); (case pocl_Hall => k_is); (case sacl_Hall => k_is); (case mkcl_Hall => k_is); (case kccl_Hall => k_is); (case nacl_Hall_own_rules => k_is); (case nacl_Hall_own_seen => k_is); (case a0 => k_is); (case l0 => k_is); (case c0 => k_is); (case k0 => k_is); (case a1 => k_is); (case l1 => k_is); (case c1 => k_is); (case k1 => k_is); (case a2 => k_is); (case l2 => k_is); (case c2 => k_is); (case k2 => k_is); (case a3 => k_is); (case l3 => k_is); (case c3 => k_is); (case k3 => k_is); (case a4 => k_is); (case i4 => k_is); (case l4 => k_is); (case c4 => k_is); (case k4 => k_is); (case a5 => k_is); (case i5 => k_is); (case l5 => k_is); (case c5 => k_is); (case k5 => k_is); (case a6 => k_is); (case l6 => k_is); (case c6 => k_is); (case k6 => k_is); (case a7 => k_is); (case l7 => k_is); (case c7 => k_is); (case k7 => k_is); (case a8 => k_is); (case l8 => k_is); (case c8 => k_is); (case k8 => k_is); (case a9 => k_is); (case i9 => k_is); (case l9 => k_is); (case c9 => k_is); (case k9 => k_is); (case a10 => k_is); (case l10 => k_is); (case c10 => k_is); (case k10 => k_is); (case a11 => k_is); (case l11 => k_is); (case c11 => k_is); (case k11 => k_is); (case a12 => k_is); (case i12 => k_is); (case l12 => k_is); (case c12 => k_is); (case k12 => k_is); (case a13 => k_is); (case l13 => k_is); (case c13 => k_is); (case k13 => k_is); (case a14 => k_is); (case l14 => k_is); (case c14 => k_is); (case k14 => k_is); (case a15 => k_is); (case l15 => k_is); (case c15 => k_is); (case k15 => k_is); (case a16 => k_is); (case l16 => k_is); (case c16 => k_is); (case k16 => k_is); (case a17 => k_is); (case l17 => k_is); (case c17 => k_is); (case k17 => k_is); (case a18 => k_is); (case l18 => k_is); (case c18 => k_is); (case k18 => k_is); (case a19 => k_is); (case l19 => k_is); (case c19 => k_is); (case k19 => k_is); (case a20 => k_is); (case l20 => k_is); (case c20 => k_is); (case k20 => k_is); (case a21 => k_is); (case l21 => k_is); (case c21 => k_is); (case k21 => k_is); (case a22 => k_is); (case l22 => k_is); (case c22 => k_is); (case k22 => k_is); (case a23 => k_is); (case l23 => k_is); (case c23 => k_is); (case k23 => k_is); (case a24 => k_is); (case l24 => k_is); (case c24 => k_is); (case k24 => k_is); (case a25 => k_is); (case l25 => k_is); (case c25 => k_is); (case k25 => k_is); (case a26 => k_is); (case l26 => k_is); (case c26 => k_is); (case k26 => k_is); (case a27 => k_is); (case l27 => k_is); (case c27 => k_is); (case k27 => k_is); (case a28 => k_is); (case l28 => k_is); (case c28 => k_is); (case k28 => k_is); (case a29 => k_is); (case l29 => k_is); (case c29 => k_is); (case k29 => k_is); (case a30 => k_is); (case l30 => k_is); (case c30 => k_is); (case k30 => k_is); (case a31 => k_is); (case l31 => k_is); (case c31 => k_is); (case k31 => k_is); (case a32 => k_is); (case l32 => k_is); (case c32 => k_is); (case k32 => k_is); (case a33 => k_is); (case i33 => k_is); (case l33 => k_is); (case c33 => k_is); (case k33 => k_is); (case a34 => k_is); (case l34 => k_is); (case c34 => k_is); (case k34 => k_is); (case a35 => k_is); (case l35 => k_is); (case c35 => k_is); (case k35 => k_is); (case gFREE => k_is); (case gHELD => k_is); (case gKINDS => k_is); (case gNEXT => k_is); (case gSUM => k_is); (case gSIZES => k_is); (case dSIZES => k_is); (case ySIZES => k_keys); (case wSIZES => rfl); (case vSIZES => rfl); (case gCAP => k_is); (case z_len => k_is); (case z_abs => k_is); (case z_int => k_is); (case z_bool => k_is); (case z_str => k_is); (case z_max => k_is); (case z_min => k_is); (case z_sum => k_is); (case z_all => k_is); (case z_any => k_is); (case z_list => k_is); (case z_tuple => k_is); (case z_dict => k_is); (case z_set => k_is); (case z_sorted => k_is); (case z_range => k_is); (case z_enumerate => k_is); (case z_zip => k_is); (case z_isinstance => k_is); (case z_repr => k_is)
