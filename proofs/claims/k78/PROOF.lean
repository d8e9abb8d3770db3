import PyProof.Rows.All
import Wide.All
import OpenK.AllK
import Wide.FinOn
import HandS.ForMost
import HandS.Walk
import HandS.Zip
import HandS.Strs
import HandS.TupAny
import HandS.TupMul
import HandS.Set
import HandS.SetKeys
import HandS.Deep
import HandS.IsInst
import HandS.Wide
import HandS.More
import KE.GoesMore
import KE.GoesEnum
import HandS.Star
import HandS.Codes
import PyProof.Rows.RuleB_pow
import HandS.Conv
import KE.KParD
import PySem.Challenge.RW_openmarks_k78_queries_underneath_and_tra
set_option Elab.async false
set_option linter.all false
set_option maxRecDepth 100000
set_option maxHeartbeats 4000000
/-! OX0: tuples whose object is known to bear no dict of its own, so that methods of theirs can be called. -/
namespace OX
open PySem L2 PyProof.Rows

def PlT (K : PySem.W.Frag) (F : Hp) (a : Addr) (xs : List V) : Prop :=
  (∃ ob : Obj, F a = some (.frz ob (.tup xs)) ∧ ob.dict = none) ∨
    ∃ (o : Obj) (its : Array Value) (n : Nat), K.lookup a = some o ∧ o.cls = .type "tuple" ∧ o.dict = none ∧ o.data = .seq its n ∧ its.size ≤ sizeLine ∧ Vals xs its.toList
theorem PlT.sqT {K : PySem.W.Frag} {F : Hp} {a : Addr} {xs : List V} (h : PlT K F a xs) : SqT K F a xs := by
  rcases h with ⟨ob, h, _⟩ | ⟨o, its, n, h1, h2, _, h3, h4, h5⟩
  · exact .inl (.inr ⟨ob, h⟩)
  · exact .inr ⟨o, its, n, h1, h2, h3, h4, h5⟩
theorem PlT.of {K : PySem.W.Frag} {F : Hp} {p : Addr} {ob : Obj} {xs : List V} (h : ob.dict = none) : PlT K (upd F p (.frz ob (.tup xs))) p xs := .inl ⟨ob, upd_same, h⟩
/-- what is wanted of a new tuple -/
def NewT (xs : List V) (H : Hp) (Q : VK) : Prop := ∀ (p : Addr) (ob : Obj), H p = none → ob.dict = none → Q (.ref p) (upd H p (.frz ob (.tup xs)))
section
variable {X : Cx}
theorem Inv.newT {pins : List (Addr × Obj)} {σ : L2.St} {H : Hp} {s : Shared} {xs : List V} {its : List Value} {Q : VK} {t : Nat} (I : Inv X pins σ H s) (r : Vals xs its) (z : xs.length ≤ sizeLine) (q : NewT xs H Q) :
    EP X pins σ Q (.ref s.heap.objs.size) { s with heap := s.heap.push { cls := .type "tuple", data := .seq its.toArray }, toks := t } := by
  refine ⟨.ref s.heap.objs.size, _, I.laid (t' := t) (o := .frz { cls := .type "tuple", data := .seq its.toArray } (.tup xs)) (fun b u e => Heap.get?_push_of_some _ e) (Nat.le_refl _) ?_, rfl, q _ _ (I.hok.fresh (Nat.le_refl _)) rfl⟩
  exact ⟨Heap.get?_push_size _ rfl, z, its, r, IsTup.new _ _⟩
/-- (a, b, ..) -/
def tTupP (t : TA) : TE := fun σ H Q => t σ H fun xs H1 => xs.length ≤ sizeLine ∧ NewT xs H1 Q
theorem pe_tupP {es : List Expr} {x1} {pos : Pos} {t : TA} (h : PA X es t) : PE X (.Tuple es x1 pos) (tTupP t) := by
  refine ⟨fun pins s σ H Q I hq => ?_⟩
  refine wpAny_Tuple_spliced (thn (h.run pos pins s σ H _ I hq) fun us s1 ⟨xs, H1, I1, r, z, q⟩ => ⟨by rw [← r.length]; exact z, ?_⟩)
  exact Inv.newT (t := s1.toks) I1 r z q
/-- t[lo:hi] -/
def rSlP (K : PySem.W.Frag) : V → Option Int → Option Int → Hp → VK → Prop := fun x lo hi H Q => ∃ a xs, x = .ref a ∧ SqT K H a xs ∧
  (HT.sIx xs.length 0 lo = 0 ∧ HT.sIx xs.length xs.length hi = xs.length → Q (.ref a) H) ∧ (¬ (HT.sIx xs.length 0 lo = 0 ∧ HT.sIx xs.length xs.length hi = xs.length) → NewT (cutV xs lo hi) H Q)
theorem sl_tupP : SlR X (rSlP X.K) := by
  intro pins s σ H x v vl vu lo hi sl Q I rx hs pl pu h
  obtain ⟨a, xs, rfl, hx, q1, q2⟩ := h
  by_cases hw : HT.sIx xs.length 0 lo = 0 ∧ HT.sIx xs.length xs.length hi = xs.length
  · exact sl_tupA pins s σ H _ v vl vu lo hi sl Q I rx hs pl pu ⟨a, xs, rfl, hx, q1, fun n => absurd hw n⟩
  · cases rx
    obtain ⟨its, r, ht, hz⟩ := I.tuple hx
    have hlen : its.toArray.size = xs.length := by rw [List.size_toArray]; exact r.length.symm
    refine ⟨"tuple", _, PyProof.Rows.slot_tuple_getitem.lookup, ht.typeIs, ?_⟩
    refine HT.getItem_tuple_cut ht hs pl pu (by rw [hlen]; exact hw) ?_ (by rw [hlen]; exact hz)
    rw [hlen]
    exact Inv.newT (t := s.toks) I ((r.drop (HT.sIx xs.length 0 lo)).take (HT.sIx xs.length xs.length hi - HT.sIx xs.length 0 lo)) (Nat.le_trans (cutV_length xs lo hi) hz) (q2 hw)
/-- t + u -/
def rCatP (K : PySem.W.Frag) : R2 := fun x y H Q => ∃ a b xs ys, x = .ref a ∧ y = .ref b ∧ SqT K H a xs ∧ SqT K H b ys ∧ xs.length + ys.length ≤ sizeLine ∧
  (xs = [] → Q (.ref b) H) ∧ (xs ≠ [] → ys = [] → Q (.ref a) H) ∧ (xs ≠ [] → ys ≠ [] → NewT (xs ++ ys) H Q)
theorem op_catP : OpR X (binaryOp .Add) (rCatP X.K) := by
  intro pins s σ H x y v u Q I rx ry h
  obtain ⟨a, b, xs, ys, rfl, rfl, ha, hb, hz, q0, q1, q2⟩ := h
  by_cases hx : xs = []
  · exact op_catA pins s σ H _ _ v u Q I rx ry ⟨a, b, xs, ys, rfl, rfl, ha, hb, hz, q0, q1, fun n => absurd hx n⟩
  · by_cases hy : ys = []
    · exact op_catA pins s σ H _ _ v u Q I rx ry ⟨a, b, xs, ys, rfl, rfl, ha, hb, hz, q0, q1, fun _ n => absurd hy n⟩
    · cases rx
      cases ry
      obtain ⟨its, r1, p1, _⟩ := I.tuple ha
      obtain ⟨its2, r2, p2, _⟩ := I.tuple hb
      refine HT.cat_tup p1 p2 (fun z => hx (r1.nil_iff.mp z)) (fun z => absurd (r2.nil_iff.mp z) hy) (fun z => ?_) (by rw [← r1.length, ← r2.length]; exact hz)
      exact Inv.newT (t := s.toks) I (r1.append r2) (by rw [List.length_append]; exact hz) (q2 hx hy)
/-- tuple(a list), tuple(a tuple) -/
theorem call_tupleP : CallR X (.type "tuple") (fun xs H Q => ∃ p ys, xs = [.ref p] ∧ ((SqL X.K H p ys ∧ NewT ys H Q) ∨ (SqT X.K H p ys ∧ Q (.ref p) H))) := by
  intro pins s σ H xs us Q I r h
  obtain ⟨p, ys, rfl, h⟩ := h
  rcases h with ⟨hq, q⟩ | h
  · obtain ⟨u, rfl, rx⟩ := vals1 r
    cases rx
    obtain ⟨its, r', pl, hz⟩ := I.list hq
    have hlen := r'.length
    refine call_tuple_list pl.isList (fun h' kp => ?_) (by simp only [List.size_toArray] <;> omega)
    have I1 : Inv X pins σ H { s with heap := h' } := I.kept (t' := s.toks) kp
    exact Inv.newT (t := s.toks) I1 r' hz q
  · exact call_tuple_of pins s σ H _ us Q I r ⟨p, ys, rfl, .inr h⟩
/-- t * k -/
def rRepP (K : PySem.W.Frag) : R2 := fun x y H Q => ∃ l k xs, x = .ref l ∧ y = .int k ∧ SqT K H l xs ∧ xs ≠ [] ∧ 2 ≤ k ∧ k ≤ 10000 ∧ xs.length ≤ 1000 ∧ NewT (List.replicate k.toNat xs).flatten H Q
theorem op_repP : OpR X (binaryOp .Mult) (rRepP X.K) := by
  intro pins s σ H x y v u Q I rx ry h
  obtain ⟨l, k, xs, rfl, rfl, hT, hne, h1, h2, hz, q⟩ := h
  cases rx
  obtain ⟨t, rfl⟩ := ry
  obtain ⟨its, r, ⟨⟨cls, dd, data, sl⟩, ho, hc, n, hd⟩, hs⟩ := I.tuple hT
  simp only at hc hd
  subst hc hd
  have hle : its.length = xs.length := r.length.symm
  have hn : its ≠ [] := fun e => hne (by
    rw [e] at hle
    exact List.eq_nil_of_length_eq_zero hle.symm)
  have hi : its.toArray.isEmpty = false := by
    cases its with
    | nil => exact absurd rfl hn
    | cons a b => rfl
  have hm : ((its.toArray.size : Nat) : Int) * k ≤ 10000000 := by
    rw [List.size_toArray, hle]
    have a1 : ((xs.length : Nat) : Int) * k ≤ 1000 * k := Int.mul_le_mul_of_nonneg_right (by omega) (by omega)
    omega
  have a0 : k.toNat * xs.length ≤ 10000 * 1000 := Nat.mul_le_mul (by omega) hz
  have flen : (List.replicate k.toNat its).flatten.length ≤ sizeLine := by
    rw [PyProof.Rows.lm_len_rep_flat, hle, sizeLine_eq]
    omega
  have c0 : (decide (k < -(2 ^ 63)) || decide (k ≥ 2 ^ 63)) = false := by
    rw [decide_eq_false (by omega), decide_eq_false (by omega)] <;> rfl
  have c1 : (its.toArray.isEmpty || k == 1) = false := by
    rw [hi, Bool.false_or]
    exact beq_eq_false_iff_ne.mpr (by omega)
  have c2 : (decide (k ≤ 0) || its.toArray.isEmpty) = false := by
    rw [hi, Bool.or_false]
    exact decide_eq_false (by omega)
  have c4 : Builtin.Tuple.tupleTooMany (((its.toArray.size : Nat) : Int) * k) = false := by
    unfold Builtin.Tuple.tupleTooMany
    rw [sizeLine_eq]
    exact decide_eq_false (by omega)
  refine wpAny_binaryOp_repeat_ref (T := "tuple") (U := "int") (by decide) ⟨_, ho, rfl⟩ (fun s' => typeIs_int s' k t) noFill_tuple_mul F.fills_int_mul F.slot_int_rmul repeat_tuple F.slot_int_index.lookup
    (call_meets F.slot_int_rmul (typeIs_int s k t) F.entry_int_rmul (F.args_int_rmul_2 _ _) (int_rmul_tuple k t l its.toArray n dd sl)
      ⟨ho, rfl, ⟨_, ho, rfl⟩, call_meets F.slot_tuple_mul ⟨_, ho, rfl⟩ F.entry_tuple_mul (F.args_tuple_mul_2 _ _) (tuple_mulW l its.toArray n dd sl k t c0 c1 c2 (by omega) c4 (by rw [size_rep, List.size_toArray]; exact flen)) ⟨ho, ?_⟩⟩)
  rw [size_rep]
  exact Inv.newT (t := s.toks) I (r.rep k.toNat) (by rw [PyProof.Rows.lm_len_rep_flat, sizeLine_eq]; omega) q
/-- t.m(e, ..), t a tuple -/
def tTM (K : PySem.W.Frag) (r : V → List V → Hp → VK → Prop) (to : TE) (t : TA) : TE := fun σ H Q => to σ H fun x H1 => (∃ a xs, x = .ref a ∧ PlT K H1 a xs) ∧ t σ H1 fun xs H2 => r x xs H2 Q
theorem pe_tm {o e : Expr} {es : List Expr} {to : TE} {t : TA} {name : Str} {apos cpos : Pos} {id : String} {r : V → List V → Hp → VK → Prop} (pa : PlainAttrs "tuple") (slot : Slot "tuple" name id) (hty : typeOf (.builtin id) = pure (.type "method_descriptor")) (hm : MtR X id r) (ho : PE X o to) (ha : PA X (e :: es) t)
    (hbase : attributeBase o name X.env (eval o X.env) = eval o X.env := by rfl)
    (hfew : ((backTo cpos (starEach (e :: es) X.env)).all (fun x => !x.1) && (backToKw cpos (keywordEach [] X.env)).all (fun x => x.1.isSome)
      && decide ((e :: es).length + ([] : List Keyword).length + (if ([] : List Keyword).isEmpty then 0 else 1) < 30)) = true := by rfl)
    (hline : (apos.endLine == cpos.line) = true := by rfl) (hs : starEach (e :: es) X.env = (false, eval e X.env) :: starEach es X.env := by rfl) (hplain : (backTo cpos (starEach es X.env)).any (·.1) = false := by rfl) :
    PE X (.Call (.Attribute o name apos) (e :: es) [] cpos) (tTM X.K r to t) := by
  refine ⟨fun pins s σ H Q I h => ?_⟩
  refine wpAny_Call_method_late hbase hfew hline rfl (thn (ho.run pins s σ H _ I h) fun v s1 ⟨x, H1, I1, r1, ⟨a, xs, ea, ty⟩, q1⟩ => ?_)
  subst ea
  cases r1
  have key : ∃ ob, s1.heap.get? a = some ob ∧ ob.cls = .type "tuple" ∧ ob.dict = none := by
    rcases ty with ⟨ob, e1, e2⟩ | ⟨ob, its, n, e1, e2, e3, _⟩
    · obtain ⟨g1, _, _, _, o', g2, g3, _⟩ := I1.hok a _ e1
      rw [g1] at g2
      cases g2
      exact ⟨ob, g1, g3, e2⟩
    · exact ⟨ob, I1.kIn a ob e1, e2, e3⟩
  obtain ⟨ob, k1, k2, k3⟩ := key
  refine ⟨"tuple", id, pa, slot, hty, ⟨ob, k1, k2⟩, fun b eb => by cases eb; exact ⟨ob, k1, k3⟩, ?_⟩
  have hA := ha.run cpos pins s1 σ H1 _ I1 q1
  rw [hs] at hA ⊢
  refine Calls.callWith_builtin (by show (false || (backTo cpos (starEach es X.env)).any (·.1)) = false; rw [hplain]; rfl) (Calls.evalArgs_plain ?_)
  exact thn hA fun us s2 ⟨vs, H2, I2, r2, q2⟩ => hm pins s2 σ H2 (.ref a) vs (.ref a) us Q I2 rfl r2 q2
end
end OX
set_option Elab.async false
set_option linter.all false
set_option maxRecDepth 100000
/-! OX1: data in the abstract heap, symbolic slots, their keeping. -/
namespace OX
open PySem L2

abbrev D := PyData

/-! ### a part of the heap that only grows -/
def isD : HO → Bool
  | .dK _ => true
  | .dT _ => true
  | _ => false
def Le (F H : Hp) : Prop := ∀ a u, F a = some u → H a = some u ∨ (isD u = true ∧ ∃ o, H a = some (.frz o u))
theorem Le.refl (F : Hp) : Le F F := fun _ _ h => .inl h
theorem Le.trans {F G H : Hp} (a : Le F G) (b : Le G H) : Le F H := fun p u h => by
  rcases a p u h with q | ⟨d, o, q⟩
  · exact b p u q
  · rcases b p _ q with r | ⟨d', _⟩
    · exact .inr ⟨d, o, r⟩
    · cases d'
theorem Le.rd {F H : Hp} (l : Le F H) {a : Addr} {u : HO} (h : Rd F a u) : Rd H a u := by
  rcases h with h | ⟨o, h⟩
  · rcases l a u h with q | ⟨_, o, q⟩
    · exact .inl q
    · exact .inr ⟨o, q⟩
  · rcases l a _ h with q | ⟨d, _⟩
    · exact .inr ⟨o, q⟩
    · cases d
theorem Le.sqL {K : PySem.W.Frag} {F H : Hp} (l : Le F H) {a : Addr} {xs : List V} (h : SqL K F a xs) : SqL K H a xs := h.imp l.rd id
theorem Le.sqT {K : PySem.W.Frag} {F H : Hp} (l : Le F H) {a : Addr} {xs : List V} (h : SqT K F a xs) : SqT K H a xs := h.imp l.rd id
theorem Le.plT {K : PySem.W.Frag} {F H : Hp} (l : Le F H) {a : Addr} {xs : List V} (h : PlT K F a xs) : PlT K H a xs := by
  rcases h with ⟨ob, h, d⟩ | h
  · rcases l a _ h with q | ⟨z, _⟩
    · exact .inl ⟨ob, q, d⟩
    · cases z
  · exact .inr h
theorem Le.some {F H : Hp} (l : Le F H) {a : Addr} (h : F a ≠ none) : H a ≠ none := by
  cases e : F a with
  | none => exact absurd e h
  | some u =>
    rcases l a u e with q | ⟨_, o, q⟩ <;> (rw [q]; exact fun z => nomatch z)
theorem Le.none {F H : Hp} (l : Le F H) {a : Addr} (h : H a = none) : F a = none := by
  cases e : F a with
  | none => rfl
  | some u => exact absurd h (l.some (by rw [e]; exact fun z => nomatch z))
theorem Le.new {F H : Hp} (l : Le F H) {p : Addr} {o : HO} (h : H p = Option.none) : Le F (upd H p o) := fun a u e => by
  have q := l a u e
  by_cases z : a = p
  · subst z
    rw [h] at q
    rcases q with q | ⟨_, _, q⟩ <;> cases q
  · rw [upd_ne z]
    exact q
/-- an object outside F changes -/
theorem Le.mut {F H : Hp} (l : Le F H) {p : Addr} {o : HO} (h : F p = Option.none) : Le F (upd H p o) := fun a u e => by
  have z : a ≠ p := fun z => by
    subst z
    rw [h] at e
    cases e
  rw [upd_ne z]
  exact l a u e
/-- a fact is added -/
theorem Le.add {F H : Hp} (l : Le F H) {p : Addr} {o : HO} (h : H p = Option.some o) : Le (upd F p o) H := fun a u e => by
  by_cases z : a = p
  · subst z
    rw [upd_same] at e
    cases e
    exact .inl h
  · rw [upd_ne z] at e
    exact l a u e
theorem le_upd {F : Hp} {p : Addr} {o : HO} (h : F p = none) : Le F (upd F p o) := (Le.refl F).mut h

/-! ### data -/
def kD : Key → D
  | .inl i => .int i
  | .inr x => .str x
mutual
inductive Da (K : PySem.W.Frag) (F : Hp) : V → D → Prop
  | non : Da K F .non .none
  | bl (b : Bool) : Da K F (.bl b) (.bool b)
  | int (i : Int) : Da K F (.int i) (.int i)
  | str (x : Str) : Da K F (.str x) (.str x)
  | lst {a : Addr} {xs : List V} {ds : List D} : SqL K F a xs → DaAll K F xs ds → Da K F (.ref a) (.list ds)
  | tup {a : Addr} {xs : List V} {ds : List D} : PlT K F a xs → DaAll K F xs ds → Da K F (.ref a) (.tuple ds)
  | dct {a : Addr} {kvs : List (Key × V)} {ds : List (D × D)} : Rd F a (.dK kvs) → DaKV K F kvs ds → Da K F (.ref a) (.dict ds)
inductive DaAll (K : PySem.W.Frag) (F : Hp) : List V → List D → Prop
  | nil : DaAll K F [] []
  | cons {v : V} {vs : List V} {d : D} {ds : List D} : Da K F v d → DaAll K F vs ds → DaAll K F (v :: vs) (d :: ds)
inductive DaKV (K : PySem.W.Frag) (F : Hp) : List (Key × V) → List (D × D) → Prop
  | nil : DaKV K F [] []
  | cons {k : Key} {v : V} {r : List (Key × V)} {kd d : D} {ds : List (D × D)} : kd = kD k → Da K F v d → DaKV K F r ds → DaKV K F ((k, v) :: r) ((kd, d) :: ds)
end
section
variable {K : PySem.W.Frag} {F G H : Hp}
mutual
theorem Da.mono (l : Le F G) : ∀ {v : V} {d : D}, Da K F v d → Da K G v d
  | _, _, .non => .non
  | _, _, .bl b => .bl b
  | _, _, .int i => .int i
  | _, _, .str x => .str x
  | _, _, .lst h t => .lst (l.sqL h) (DaAll.mono l t)
  | _, _, .tup h t => .tup (l.plT h) (DaAll.mono l t)
  | _, _, .dct h t => .dct (l.rd h) (DaKV.mono l t)
theorem DaAll.mono (l : Le F G) : ∀ {vs : List V} {ds : List D}, DaAll K F vs ds → DaAll K G vs ds
  | _, _, .nil => .nil
  | _, _, .cons h t => .cons (Da.mono l h) (DaAll.mono l t)
theorem DaKV.mono (l : Le F G) : ∀ {vs : List (Key × V)} {ds : List (D × D)}, DaKV K F vs ds → DaKV K G vs ds
  | _, _, .nil => .nil
  | _, _, .cons e h t => .cons e (Da.mono l h) (DaKV.mono l t)
end
mutual
theorem Da.dp : ∀ {v : V} {d : D}, Da K F v d → d.canLay0 = true → Dp K F v d
  | _, _, .non, _ => .non
  | _, _, .bl b, _ => .bl b
  | _, _, .int i, _ => .int i
  | _, _, .str x, _ => .str x
  | _, _, .lst h t, c => .lst h (DaAll.dp t (by simpa [PyData.canLay0] using c))
  | _, _, .tup h t, c => .tup h.sqT (DaAll.dp t (by simpa [PyData.canLay0] using c))
  | _, _, .dct h t, c => by simp [PyData.canLay0] at c
theorem DaAll.dp : ∀ {vs : List V} {ds : List D}, DaAll K F vs ds → PyData.canLayAll0 ds = true → DpAll K F vs ds
  | _, _, .nil, _ => .nil
  | _, _, .cons h t, c => by
    simp only [PyData.canLayAll0, Bool.and_eq_true] at c
    have c' := c
    exact .cons (Da.dp h c'.1) (DaAll.dp t c'.2)
end
theorem DaAll.length : ∀ {vs : List V} {ds : List D}, DaAll K F vs ds → vs.length = ds.length
  | _, _, .nil => rfl
  | _, _, .cons _ t => congrArg (· + 1) (DaAll.length t)
theorem DaAll.get : ∀ {vs : List V} {ds : List D} {i : Nat} {d : D}, DaAll K F vs ds → ds[i]? = some d → ∃ v, vs[i]? = some v ∧ Da K F v d
  | _, _, _, _, .nil, e => by simp at e
  | _, _, 0, _, .cons (v := v) h _, e => by
    simp at e
    subst e
    exact ⟨v, rfl, h⟩
  | _, _, i + 1, d, .cons _ t, e => by
    obtain ⟨v, h1, h2⟩ := DaAll.get (i := i) (d := d) t (by simpa using e)
    exact ⟨v, by simpa using h1, h2⟩
theorem DaAll.getV : ∀ {vs : List V} {ds : List D} {i : Nat} {v : V}, DaAll K F vs ds → vs[i]? = some v → ∃ d, ds[i]? = some d ∧ Da K F v d
  | _, _, _, _, .nil, e => by simp at e
  | _, _, 0, _, .cons (d := d) h _, e => by
    simp at e
    subst e
    exact ⟨d, rfl, h⟩
  | _, _, i + 1, v, .cons _ t, e => by
    obtain ⟨d, h1, h2⟩ := DaAll.getV (i := i) (v := v) t (by simpa using e)
    exact ⟨d, by simpa using h1, h2⟩
theorem DaAll.append : ∀ {vs ws : List V} {ds es : List D}, DaAll K F vs ds → DaAll K F ws es → DaAll K F (vs ++ ws) (ds ++ es)
  | _, _, _, _, .nil, b => b
  | _, _, _, _, .cons h t, b => .cons h (DaAll.append t b)
theorem DaAll.take : ∀ {vs : List V} {ds : List D} (n : Nat), DaAll K F vs ds → DaAll K F (vs.take n) (ds.take n)
  | _, _, 0, _ => .nil
  | _, _, _ + 1, .nil => .nil
  | _, _, n + 1, .cons h t => .cons h (DaAll.take n t)
theorem DaAll.drop : ∀ {vs : List V} {ds : List D} (n : Nat), DaAll K F vs ds → DaAll K F (vs.drop n) (ds.drop n)
  | _, _, 0, h => h
  | _, _, _ + 1, .nil => .nil
  | _, _, n + 1, .cons _ t => DaAll.drop n t
theorem DaAll.set {v : V} {d : D} (r : Da K F v d) : ∀ {vs : List V} {ds : List D} (n : Nat), DaAll K F vs ds → DaAll K F (vs.set n v) (ds.set n d)
  | _, _, _, .nil => .nil
  | _, _, 0, .cons _ t => .cons r t
  | _, _, n + 1, .cons h t => .cons h (DaAll.set r n t)
theorem DaAll.eraseIdx : ∀ {vs : List V} {ds : List D} (n : Nat), DaAll K F vs ds → DaAll K F (vs.eraseIdx n) (ds.eraseIdx n)
  | _, _, _, .nil => .nil
  | _, _, 0, .cons _ t => t
  | _, _, n + 1, .cons h t => .cons h (DaAll.eraseIdx n t)
theorem DaAll.reverse : ∀ {vs : List V} {ds : List D}, DaAll K F vs ds → DaAll K F vs.reverse ds.reverse
  | _, _, .nil => .nil
  | _, _, .cons h t => by
    rw [List.reverse_cons, List.reverse_cons]
    exact (DaAll.reverse t).append (.cons h .nil)
theorem DaAll.one {v : V} {d : D} (h : Da K F v d) : DaAll K F [v] [d] := .cons h .nil
/-- the value of flat data is told by the data -/
theorem Da.int_eq {v : V} {i : Int} (h : Da K F v (.int i)) : v = .int i := by cases h; rfl
theorem Da.bool_eq {v : V} {b : Bool} (h : Da K F v (.bool b)) : v = .bl b := by cases h; rfl
theorem Da.str_eq {v : V} {x : Str} (h : Da K F v (.str x)) : v = .str x := by cases h; rfl
theorem Da.none_eq {v : V} (h : Da K F v .none) : v = .non := by cases h; rfl
theorem Da.list_ref {v : V} {ds : List D} (h : Da K F v (.list ds)) : ∃ a xs, v = .ref a ∧ SqL K F a xs ∧ DaAll K F xs ds := by
  cases h with
  | lst h t => exact ⟨_, _, rfl, h, t⟩
theorem Da.tup_ref {v : V} {ds : List D} (h : Da K F v (.tuple ds)) : ∃ a xs, v = .ref a ∧ PlT K F a xs ∧ DaAll K F xs ds := by
  cases h with
  | tup h t => exact ⟨_, _, rfl, h, t⟩
theorem Da.dict_ref {v : V} {ds : List (D × D)} (h : Da K F v (.dict ds)) : ∃ a kvs, v = .ref a ∧ Rd F a (.dK kvs) ∧ DaKV K F kvs ds := by
  cases h with
  | dct h t => exact ⟨_, _, rfl, h, t⟩
theorem DaAll.ints : ∀ {vs : List V} {ns : List Int}, DaAll K F vs (ns.map PyData.int) → vs = ns.map V.int
  | _, [], h => by cases h; rfl
  | _, n :: ns, h => by
    cases h with
    | cons a b => rw [a.int_eq, DaAll.ints b]; rfl
theorem DaAll.strs : ∀ {vs : List V} {ns : List Str}, DaAll K F vs (ns.map PyData.str) → vs = ns.map V.str
  | _, [], h => by cases h; rfl
  | _, n :: ns, h => by
    cases h with
    | cons a b => rw [a.str_eq, DaAll.strs b]; rfl
theorem DaAll.bools : ∀ {vs : List V} {ns : List Bool}, DaAll K F vs (ns.map PyData.bool) → vs = ns.map V.bl
  | _, [], h => by cases h; rfl
  | _, n :: ns, h => by
    cases h with
    | cons a b => rw [a.bool_eq, DaAll.bools b]; rfl
theorem DaAll.of_ints (ns : List Int) : DaAll K F (ns.map V.int) (ns.map PyData.int) := by
  induction ns with
  | nil => exact .nil
  | cons n ns ih => exact .cons (.int n) ih
theorem DaAll.of_strs (ns : List Str) : DaAll K F (ns.map V.str) (ns.map PyData.str) := by
  induction ns with
  | nil => exact .nil
  | cons n ns ih => exact .cons (.str n) ih
end

/-! ### slots -/
/-- what a thing of one's own holds: a list, a dict -/
inductive OC where
  | lst (ds : List D)
  | dct (kvs : List (Key × D))
/-- a slot: nothing known | data | a thing of one's own (some n: the n-th borrowed one) -/
inductive Sl where
  | no
  | d (x : D)
  | own (b : Option Nat) (c : OC)
/-- the ground: the heap at the entry, what is known there, what may change, what is borrowed -/
structure Bs where
  F0 : Hp
  H0 : Hp
  bw : Addr → Prop
  bl : List Addr
def KVok (K : PySem.W.Frag) (F : Hp) : List (Key × V) → List (Key × D) → Prop := Paired fun p q => p.1 = q.1 ∧ Da K F p.2 q.2
theorem KVok.mono {K : PySem.W.Frag} {F G : Hp} (l : Le F G) {ws : List (Key × V)} {kvs : List (Key × D)} (h : KVok K F ws kvs) : KVok K G ws kvs := Paired.mapP h fun _ _ r => ⟨r.1, r.2.mono l⟩
def OCok (K : PySem.W.Frag) (F H : Hp) (l : Addr) : OC → Prop
  | .lst ds => ∃ vs, H l = some (.lst vs) ∧ DaAll K F vs ds
  | .dct kvs => ∃ ws, H l = some (.dK ws) ∧ KVok K F ws kvs
theorem OCok.mono {K : PySem.W.Frag} {F G H H' : Hp} {l : Addr} (e : Le F G) (h : H' l = H l) : ∀ {c : OC}, OCok K F H l c → OCok K G H' l c
  | .lst _, ⟨vs, a, b⟩ => ⟨vs, h.trans a, b.mono e⟩
  | .dct _, ⟨vs, a, b⟩ => ⟨vs, h.trans a, b.mono e⟩
theorem OCok.ne {K : PySem.W.Frag} {F H : Hp} {l : Addr} : ∀ {c : OC}, OCok K F H l c → H l ≠ none
  | .lst _, ⟨vs, a, b⟩ => by rw [a]; exact fun z => nomatch z
  | .dct _, ⟨vs, a, b⟩ => by rw [a]; exact fun z => nomatch z
def BorOk (β : Bs) (b : Option Nat) (l : Addr) : Prop := match b with
  | some n => β.bl[n]? = some l
  | none => True
def SlOk (K : PySem.W.Frag) (β : Bs) (F H : Hp) (o : Option (Option V)) : Sl → Prop
  | .no => True
  | .d x => ∃ v, o = some (some v) ∧ Da K F v x
  | .own b c => ∃ l, o = some (some (.ref l)) ∧ F l = none ∧ OCok K F H l c ∧ (β.H0 l = none ∨ β.bw l) ∧ BorOk β b l
def Owned (ρ : List Sl) (σ : L2.St) (l : Addr) : Prop := ∃ (i : Nat) (b : Option Nat) (c : OC), ρ[i]? = some (Sl.own b c) ∧ σ[i]? = some (some (V.ref l))
structure Conc (K : PySem.W.Frag) (β : Bs) (ρ : List Sl) (σ : L2.St) (F H : Hp) : Prop where
  le : Le F H
  base : Le β.F0 F
  new : ∀ a, F a ≠ none → β.F0 a ≠ none ∨ β.H0 a = none ∨ β.bw a
  frame : ∀ a u, β.F0 a = none → β.H0 a = some u → ¬ β.bw a → H a = some u
  len : σ.length = ρ.length
  sl : ∀ (i : Nat) (s : Sl), ρ[i]? = some s → SlOk K β F H σ[i]? s
  sep : ∀ (i j : Nat) (b b' : Option Nat) (c c' : OC) (l : Addr), ρ[i]? = some (Sl.own b c) → ρ[j]? = some (Sl.own b' c') → σ[i]? = some (some (V.ref l)) → σ[j]? = some (some (V.ref l)) → i = j
section
variable {K : PySem.W.Frag} {β : Bs} {ρ : List Sl} {σ : L2.St} {F H : Hp}
theorem Conc.ownF (C : Conc K β ρ σ F H) {l : Addr} (o : Owned ρ σ l) : F l = none ∧ (β.H0 l = none ∨ β.bw l) ∧ H l ≠ none := by
  obtain ⟨i, b, c, h1, h2⟩ := o
  obtain ⟨l', e1, e2, e3, e4, _⟩ := C.sl i _ h1
  rw [h2] at e1
  cases e1
  exact ⟨e2, e4, e3.ne⟩
/-- the ground laid anew where one stands -/
def Bs.here (β : Bs) (ρ : List Sl) (σ : L2.St) (F H : Hp) : Bs := ⟨F, H, Owned ρ σ, β.bl⟩
theorem Conc.here (C : Conc K β ρ σ F H) : Conc K (β.here ρ σ F H) ρ σ F H := by
  refine ⟨C.le, .refl F, fun a h => .inl h, fun a u _ e _ => e, C.len, fun i s h => ?_, C.sep⟩
  have q := C.sl i s h
  cases s with
  | no => trivial
  | d x => exact q
  | own b c =>
    obtain ⟨l, e1, e2, e3, e4, e5⟩ := q
    exact ⟨l, e1, e2, e3, .inr ⟨i, b, c, h, e1⟩, e5⟩
theorem Conc.back {ρ' : List Sl} {σ' : L2.St} {F' H' : Hp} (C : Conc K β ρ σ F H) (C' : Conc K (β.here ρ σ F H) ρ' σ' F' H') : Conc K β ρ' σ' F' H' := by
  have old : ∀ a, H a = none ∨ Owned ρ σ a → F' a ≠ none ∨ True → β.F0 a ≠ none ∨ β.H0 a = none ∨ β.bw a := fun a h _ => by
    rcases h with h | h
    · cases e0 : β.F0 a with
      | some u => exact .inl fun z => nomatch z
      | none =>
        cases e1 : β.H0 a with
        | none => exact .inr (.inl rfl)
        | some u =>
          refine .inr (.inr ?_)
          refine Classical.byContradiction fun n => ?_
          rw [C.frame a u e0 e1 n] at h
          cases h
    · rcases (C.ownF h).2.1 with q | q
      · exact .inr (.inl q)
      · exact .inr (.inr q)
  refine ⟨C'.le, C.base.trans C'.base, fun a h => ?_, fun a u e0 e1 n => ?_, C'.len, fun i s h => ?_, C'.sep⟩
  · rcases C'.new a h with q | q
    · exact C.new a q
    · exact old a q (.inr trivial)
  · have e2 := C.frame a u e0 e1 n
    have e3 : F a = none := by
      cases q : F a with
      | none => rfl
      | some u' =>
        rcases C.new a (by rw [q]; exact fun z => nomatch z) with z | z | z
        · exact absurd e0 z
        · rw [e1] at z; cases z
        · exact absurd z n
    refine C'.frame a u e3 e2 fun z => ?_
    rcases (C.ownF z).2.1 with q | q
    · rw [e1] at q; cases q
    · exact n q
  · have q := C'.sl i s h
    cases s with
    | no => trivial
    | d x => exact q
    | own b c =>
      obtain ⟨l, e1, e2, e3, e4, e5⟩ := q
      refine ⟨l, e1, e2, e3, ?_, e5⟩
      rcases old l e4 (.inr trivial) with z | z
      · have := (C.base.trans C'.base).some z
        exact absurd e2 this
      · exact z
/-- what is neither known nor owned here stays as it stands -/
theorem Conc.stays {ρ' : List Sl} {σ' : L2.St} {F' H' : Hp} {a : Addr} {u : HO} (C' : Conc K (β.here ρ σ F H) ρ' σ' F' H') (h : H a = some u) (f : F a = none) (n : ¬ Owned ρ σ a) : H' a = some u ∧ F' a = none := by
  refine ⟨C'.frame a u f h n, ?_⟩
  cases q : F' a with
  | none => rfl
  | some u' =>
    rcases C'.new a (by rw [q]; exact fun z => nomatch z) with z | z | z
    · exact absurd f z
    · have z : H a = none := z
      rw [h] at z; cases z
    · exact absurd z n
/-- more is known -/
theorem Conc.grow (C : Conc K β ρ σ F H) {F' H' : Hp} (l : Le F F') (l' : Le F' H') (hn : ∀ a, F' a ≠ none → F a ≠ none ∨ (H a = none)) (hk : ∀ a u, F a = none → H a = some u → H' a = some u) : Conc K β ρ σ F' H' := by
  have nb : ∀ a, H a = none → β.F0 a = none ∧ (β.H0 a = none ∨ β.bw a) := fun a e => by
    have f0 : β.F0 a = none := C.base.none (C.le.none e)
    refine ⟨f0, ?_⟩
    cases e1 : β.H0 a with
    | none => exact .inl rfl
    | some u => exact .inr (Classical.byContradiction fun n => by rw [C.frame a u f0 e1 n] at e; cases e)
  refine ⟨l', C.base.trans l, fun a h => ?_, fun a u e0 e1 n => ?_, C.len, fun i s h => ?_, C.sep⟩
  · rcases hn a h with q | q
    · exact C.new a q
    · exact .inr (nb a q).2
  · have e2 := C.frame a u e0 e1 n
    have e3 : F a = none := by
      cases q : F a with
      | none => rfl
      | some u' =>
        rcases C.new a (by rw [q]; exact fun z => nomatch z) with z | z | z
        · exact absurd e0 z
        · rw [e1] at z; cases z
        · exact absurd z n
    exact hk a u e3 e2
  · have q := C.sl i s h
    cases s with
    | no => trivial
    | d x =>
      obtain ⟨v, e, h⟩ := q
      exact ⟨v, e, h.mono l⟩
    | own b c =>
      obtain ⟨p, e1, e2, e3, e4, e5⟩ := q
      have e6 : F' p = none := by
        cases z : F' p with
        | none => rfl
        | some u =>
          rcases hn p (by rw [z]; exact fun z => nomatch z) with y | y
          · exact absurd e2 y
          · exact absurd y e3.ne
      refine ⟨p, e1, e6, ?_, e4, e5⟩
      refine e3.mono l ?_
      cases z : H p with
      | none => exact absurd z e3.ne
      | some u => exact hk p u e2 z
/-- a new object that is known at once -/
theorem Conc.alloc (C : Conc K β ρ σ F H) {p : Addr} {o : HO} (h : H p = none) : Conc K β ρ σ (upd F p o) (upd H p o) := by
  have fp : F p = none := C.le.none h
  refine C.grow (le_upd fp) (fun a u e => ?_) (fun a q => ?_) (fun a u e q => ?_)
  · by_cases z : a = p
    · subst z
      rw [upd_same] at e ⊢
      exact .inl e
    · rw [upd_ne z] at e ⊢
      exact C.le a u e
  · by_cases z : a = p
    · subst z
      exact .inr h
    · rw [upd_ne z] at q
      exact .inl q
  · have z : a ≠ p := fun z => by
      subst z
      rw [h] at q
      cases q
    rw [upd_ne z]
    exact q
/-- a new object of which nothing is said -/
theorem Conc.allocU (C : Conc K β ρ σ F H) {p : Addr} {o : HO} (h : H p = none) : Conc K β ρ σ F (upd H p o) :=
  C.grow (.refl F) (C.le.new h) (fun _ q => .inl q) (fun a u _ q => by
    have z : a ≠ p := fun z => by
      subst z
      rw [h] at q
      cases q
    rw [upd_ne z]
    exact q)
/-- a slot is stored with data -/
theorem Conc.setD (C : Conc K β ρ σ F H) (i : Nat) {v : V} {x : D} (h : Da K F v x) : Conc K β (ρ.set i (.d x)) (σ.set i (some v)) F H := by
  refine ⟨C.le, C.base, C.new, C.frame, by rw [List.length_set, List.length_set, C.len], fun j s e => ?_, fun j k b b' c c' l e1 e2 e3 e4 => ?_⟩
  · by_cases z : i = j
    · subst z
      have hi : i < ρ.length := by
        have := (List.getElem?_eq_some_iff.mp e).1
        rwa [List.length_set] at this
      rw [List.getElem?_set_self hi] at e
      cases e
      exact ⟨v, by rw [List.getElem?_set_self (by rw [C.len]; exact hi)], h⟩
    · rw [List.getElem?_set_ne z] at e ⊢
      exact C.sl j s e
  · have z1 : i ≠ j := fun z => by
      subst z
      have hi : i < ρ.length := by
        have := (List.getElem?_eq_some_iff.mp e1).1
        rwa [List.length_set] at this
      rw [List.getElem?_set_self hi] at e1
      cases e1
    have z2 : i ≠ k := fun z => by
      subst z
      have hi : i < ρ.length := by
        have := (List.getElem?_eq_some_iff.mp e2).1
        rwa [List.length_set] at this
      rw [List.getElem?_set_self hi] at e2
      cases e2
    rw [List.getElem?_set_ne z1] at e1 e3
    rw [List.getElem?_set_ne z2] at e2 e4
    exact C.sep j k b b' c c' l e1 e2 e3 e4
/-- a slot is stored with a thing of one's own -/
theorem Conc.setO (C : Conc K β ρ σ F H) (i : Nat) {l : Addr} {b : Option Nat} {c : OC} (f : F l = none) (ok : OCok K F H l c) (fr : β.H0 l = none ∨ β.bw l) (bo : BorOk β b l) (nw : ¬ Owned ρ σ l) : Conc K β (ρ.set i (.own b c)) (σ.set i (some (.ref l))) F H := by
  have lt : ∀ {j : Nat} {s : Sl}, (ρ.set i (.own b c))[j]? = some s → j < ρ.length := fun e => by
    have := (List.getElem?_eq_some_iff.mp e).1
    rwa [List.length_set] at this
  refine ⟨C.le, C.base, C.new, C.frame, by rw [List.length_set, List.length_set, C.len], fun j s e => ?_, fun j k b1 b2 c1 c2 l' e1 e2 e3 e4 => ?_⟩
  · by_cases z : i = j
    · subst z
      have hi := lt e
      rw [List.getElem?_set_self hi] at e
      cases e
      exact ⟨l, by rw [List.getElem?_set_self (by rw [C.len]; exact hi)], f, ok, fr, bo⟩
    · rw [List.getElem?_set_ne z] at e ⊢
      exact C.sl j s e
  · by_cases z1 : i = j
    · by_cases z2 : i = k
      · exact z1.symm.trans z2
      · exfalso
        subst z1
        rw [List.getElem?_set_self (by rw [C.len]; exact lt e1)] at e3
        rw [List.getElem?_set_ne z2] at e2 e4
        cases e3
        exact nw ⟨k, _, _, e2, e4⟩
    · by_cases z2 : i = k
      · exfalso
        subst z2
        rw [List.getElem?_set_self (by rw [C.len]; exact lt e2)] at e4
        rw [List.getElem?_set_ne z1] at e1 e3
        cases e4
        exact nw ⟨j, _, _, e1, e3⟩
      · rw [List.getElem?_set_ne z1] at e1 e3
        rw [List.getElem?_set_ne z2] at e2 e4
        exact C.sep j k b1 b2 c1 c2 l' e1 e2 e3 e4
/-- a thing of one's own changes -/
theorem Conc.put (C : Conc K β ρ σ F H) {i : Nat} {l : Addr} {b : Option Nat} {c c' : OC} {o : HO} (hi : ρ[i]? = some (Sl.own b c)) (hl : σ[i]? = some (some (V.ref l))) (ok : OCok K F (upd H l o) l c') : Conc K β (ρ.set i (.own b c')) σ F (upd H l o) := by
  obtain ⟨l', e1, e2, e3, e4, e5⟩ := C.sl i _ hi
  rw [hl] at e1
  cases e1
  have hi' : i < ρ.length := (List.getElem?_eq_some_iff.mp hi).1
  refine ⟨C.le.mut e2, C.base, C.new, fun a u f0 h0 n => ?_, by rw [List.length_set, C.len], fun j s e => ?_, fun j k b1 b2 c1 c2 l' q1 q2 q3 q4 => ?_⟩
  · have z : a ≠ l := fun z => by
      subst z
      rcases e4 with y | y
      · rw [h0] at y; cases y
      · exact n y
    rw [upd_ne z]
    exact C.frame a u f0 h0 n
  · by_cases z : i = j
    · subst z
      rw [List.getElem?_set_self hi'] at e
      cases e
      exact ⟨l, hl, e2, ok, e4, e5⟩
    · rw [List.getElem?_set_ne z] at e
      have q := C.sl j s e
      cases s with
      | no => trivial
      | d x => exact q
      | own b1 c1 =>
        obtain ⟨l1, d1, d2, d3, d4, d5⟩ := q
        refine ⟨l1, d1, d2, ?_, d4, d5⟩
        refine d3.mono (.refl F) (upd_ne fun y => z ?_)
        subst y
        exact C.sep i j b b1 c c1 l1 hi e hl d1
  · have key : ∀ {j : Nat} {b1 : Option Nat} {c1 : OC}, (ρ.set i (.own b c'))[j]? = some (Sl.own b1 c1) → ∃ c2, ρ[j]? = some (Sl.own b1 c2) := fun {j b1 c1} e => by
      by_cases z : i = j
      · subst z
        rw [List.getElem?_set_self hi'] at e
        cases e
        exact ⟨c, hi⟩
      · rw [List.getElem?_set_ne z] at e
        exact ⟨c1, e⟩
    obtain ⟨d1, q1⟩ := key q1
    obtain ⟨d2, q2⟩ := key q2
    exact C.sep j k b1 b2 d1 d2 l' q1 q2 q3 q4
def ocHO (vs : List V) : HO := .lst vs
/-- a list of one's own becomes data -/
theorem Conc.freeze (C : Conc K β ρ σ F H) {i : Nat} {ds : List D} (hi : ρ[i]? = some (Sl.own none (.lst ds))) : ∃ l vs F', σ[i]? = some (some (V.ref l)) ∧ Le F F' ∧ F' l = some (.lst vs) ∧ DaAll K F vs ds ∧ Conc K β (ρ.set i (.d (.list ds))) σ F' H := by
  obtain ⟨l, e1, e2, ⟨vs, h, da⟩, e4, e5⟩ := C.sl i _ hi
  have hi' : i < ρ.length := (List.getElem?_eq_some_iff.mp hi).1
  refine ⟨l, vs, upd F l (.lst vs), e1, le_upd e2, upd_same, da, C.le.add h, C.base.trans (le_upd e2), fun a q => ?_, C.frame, by rw [List.length_set, C.len], fun j s e => ?_, fun j k b1 b2 c1 c2 l' q1 q2 q3 q4 => ?_⟩
  · by_cases z : a = l
    · subst z
      exact .inr e4
    · rw [upd_ne z] at q
      exact C.new a q
  · by_cases z : i = j
    · subst z
      rw [List.getElem?_set_self hi'] at e
      cases e
      exact ⟨.ref l, e1, .lst (SqL.of upd_same) (da.mono (le_upd e2))⟩
    · rw [List.getElem?_set_ne z] at e
      have q := C.sl j s e
      cases s with
      | no => trivial
      | d x =>
        obtain ⟨v, q1, q2⟩ := q
        exact ⟨v, q1, q2.mono (le_upd e2)⟩
      | own b1 c1 =>
        obtain ⟨l1, d1, d2, d3, d4, d5⟩ := q
        refine ⟨l1, d1, ?_, d3.mono (le_upd e2) rfl, d4, d5⟩
        rw [upd_ne fun y => z ?_]
        · exact d2
        · subst y
          exact C.sep i j none b1 _ c1 l1 hi e e1 d1
  · have key : ∀ {j : Nat} {b1 : Option Nat} {c1 : OC}, (ρ.set i (.d (.list ds)))[j]? = some (Sl.own b1 c1) → ρ[j]? = some (Sl.own b1 c1) := fun {j b1 c1} e => by
      by_cases z : i = j
      · subst z
        rw [List.getElem?_set_self hi'] at e
        cases e
      · rw [List.getElem?_set_ne z] at e
        exact e
    exact C.sep j k b1 b2 c1 c2 l' (key q1) (key q2) q3 q4
/-- a slot is forgotten -/
theorem Conc.forget (C : Conc K β ρ σ F H) (i : Nat) : Conc K β (ρ.set i .no) σ F H := by
  refine ⟨C.le, C.base, C.new, C.frame, by rw [List.length_set, C.len], fun j s e => ?_, fun j k b1 b2 c1 c2 l' q1 q2 q3 q4 => ?_⟩
  · by_cases z : i = j
    · subst z
      have hi : i < ρ.length := by
        have := (List.getElem?_eq_some_iff.mp e).1
        rwa [List.length_set] at this
      rw [List.getElem?_set_self hi] at e
      cases e
      trivial
    · rw [List.getElem?_set_ne z] at e
      exact C.sl j s e
  · have key : ∀ {j : Nat} {b1 : Option Nat} {c1 : OC}, (ρ.set i .no)[j]? = some (Sl.own b1 c1) → ρ[j]? = some (Sl.own b1 c1) := fun {j b1 c1} e => by
      by_cases z : i = j
      · subst z
        have hi : i < ρ.length := by
          have := (List.getElem?_eq_some_iff.mp e).1
          rwa [List.length_set] at this
        rw [List.getElem?_set_self hi] at e
        cases e
      · rw [List.getElem?_set_ne z] at e
        exact e
    exact C.sep j k b1 b2 c1 c2 l' (key q1) (key q2) q3 q4
end
end OX
set_option Elab.async false
set_option linter.all false
set_option maxRecDepth 100000
/-! OX2: what an expression, a test, a statement does from symbolic slots. -/
namespace OX
open PySem L2

/-! ### the weakest readings -/
section
variable {X : Cx}
def tU (X : Cx) (e : Expr) : TE := fun σ H Q => ∃ t : TE, PE X e t ∧ t σ H Q
theorem peU {e : Expr} : PE X e (tU X e) := ⟨fun pins s σ H Q I ⟨_, h, q⟩ => h.run pins s σ H Q I q⟩
def ttU (X : Cx) (e : Expr) : TT := fun σ H Q => ∃ t : TT, PT X e t ∧ t σ H Q
theorem ptU {e : Expr} : PT X e (ttU X e) := ⟨fun pins s σ H Q I ⟨_, h, q⟩ => h.run pins s σ H Q I q⟩
def twU (X : Cx) (e : Expr) : TT := fun σ H Q => ∃ t : TT, PW X e t ∧ t σ H Q
theorem pwU {e : Expr} : PW X e (twU X e) := ⟨fun wh pins s σ H Q I ⟨_, h, q⟩ => h.run wh pins s σ H Q I q⟩
def taU (X : Cx) (es : List Expr) : TA := fun σ H Q => ∃ t : TA, PA X es t ∧ t σ H Q
theorem paU {es : List Expr} : PA X es (taU X es) := ⟨fun pos pins s σ H Q I ⟨_, h, q⟩ => h.run pos pins s σ H Q I q⟩
def tgU (X : Cx) (tg : Expr) : TG := fun v σ H Q => ∃ t : TG, PG X tg t ∧ t v σ H Q
theorem pgU {tg : Expr} : PG X tg (tgU X tg) := ⟨fun pins s σ H x v Q I r ⟨_, h, q⟩ => h.run pins s σ H x v Q I r q⟩
def tgsU (X : Cx) (tg : List Expr) : TGs := fun v σ H Q => ∃ t : TGs, PGs X tg t ∧ t v σ H Q
theorem pgsU {tg : List Expr} : PGs X tg (tgsU X tg) := ⟨fun pins s σ H x v Q I r ⟨_, h, q⟩ => h.run pins s σ H x v Q I r q⟩
def tiU (X : Cx) (tg iter : Expr) : TI := fun σ H R => ∃ t : TI, PI X tg iter t ∧ t σ H R
theorem piU {tg iter : Expr} : PI X tg iter (tiU X tg iter) := ⟨fun pins s σ H R I ⟨_, h, q⟩ => h.run pins s σ H R I q⟩
def tsU' (X : Cx) (ifs : List Expr) : TT := fun σ H Q => ∃ t : TT, PTs X ifs t ∧ t σ H Q
theorem ptsU {ifs : List Expr} : PTs X ifs (tsU' X ifs) := ⟨fun pins s σ H Q I ⟨_, h, q⟩ => h.run pins s σ H Q I q⟩
structure EndLe (D D' : Ends) : Prop where
  nx : ∀ σ H, D.nx σ H → D'.nx σ H
  rt : ∀ v H, D.rt v H → D'.rt v H
  bk : ∀ σ H, D.bk σ H → D'.bk σ H
  ct : ∀ σ H, D.ct σ H → D'.ct σ H
theorem EndLe.refl (D : Ends) : EndLe D D := ⟨fun _ _ h => h, fun _ _ h => h, fun _ _ h => h, fun _ _ h => h⟩
theorem EndLe.sp {D D' : Ends} (l : EndLe D D') {pins : List (Addr × Obj)} {f : Flow} {s : Shared} (h : SP X pins D f s) : SP X pins D' f s := by
  cases f with
  | next => obtain ⟨σ, H, I, q⟩ := h; exact ⟨σ, H, I, l.nx _ _ q⟩
  | brk => obtain ⟨σ, H, I, q⟩ := h; exact ⟨σ, H, I, l.bk _ _ q⟩
  | cont => obtain ⟨σ, H, I, q⟩ := h; exact ⟨σ, H, I, l.ct _ _ q⟩
  | ret u => obtain ⟨v, σ, H, I, r, q⟩ := h; exact ⟨v, σ, H, I, r, l.rt _ _ q⟩
def tsU (X : Cx) (st : Stmt) : TS := fun D σ H => ∃ (t : TS) (D0 : Ends), PS X st t ∧ EndLe D0 D ∧ t D0 σ H
theorem psU {st : Stmt} : PS X st (tsU X st) := ⟨fun pins s σ H _ I ⟨_, D0, h, l, q⟩ => thn (h.run pins s σ H D0 I q) fun _ _ z => l.sp z⟩
def tssU (X : Cx) (st : List Stmt) : TS := fun D σ H => ∃ (t : TS) (D0 : Ends), PSs X st t ∧ EndLe D0 D ∧ t D0 σ H
theorem pssU {st : List Stmt} : PSs X st (tssU X st) := ⟨fun pins s σ H _ I ⟨_, D0, h, l, q⟩ => thn (h.run pins s σ H D0 I q) fun _ _ z => l.sp z⟩
theorem tsU.of {st : Stmt} {t : TS} {D : Ends} {σ : L2.St} {H : Hp} (h : PS X st t) (q : t D σ H) : tsU X st D σ H := ⟨t, D, h, .refl D, q⟩
theorem tssU.of {st : List Stmt} {t : TS} {D : Ends} {σ : L2.St} {H : Hp} (h : PSs X st t) (q : t D σ H) : tssU X st D σ H := ⟨t, D, h, .refl D, q⟩
theorem tsU.le {st : Stmt} {D D' : Ends} {σ : L2.St} {H : Hp} (l : EndLe D D') (q : tsU X st D σ H) : tsU X st D' σ H := by
  obtain ⟨t, D0, h, l0, q⟩ := q
  exact ⟨t, D0, h, ⟨fun _ _ z => l.nx _ _ (l0.nx _ _ z), fun _ _ z => l.rt _ _ (l0.rt _ _ z), fun _ _ z => l.bk _ _ (l0.bk _ _ z), fun _ _ z => l.ct _ _ (l0.ct _ _ z)⟩, q⟩
theorem tssU.le {st : List Stmt} {D D' : Ends} {σ : L2.St} {H : Hp} (l : EndLe D D') (q : tssU X st D σ H) : tssU X st D' σ H := by
  obtain ⟨t, D0, h, l0, q⟩ := q
  exact ⟨t, D0, h, ⟨fun _ _ z => l.nx _ _ (l0.nx _ _ z), fun _ _ z => l.rt _ _ (l0.rt _ _ z), fun _ _ z => l.bk _ _ (l0.bk _ _ z), fun _ _ z => l.ct _ _ (l0.ct _ _ z)⟩, q⟩
end

/-! ### results -/
inductive Rs where
  | d (x : D)
  | own (i : Nat)
  | new (c : OC)
def Rs.st : Rs → Bool
  | .new _ => false
  | _ => true
def RsOk (K : PySem.W.Frag) (β : Bs) (ρ : List Sl) (σ : L2.St) (F H : Hp) (v : V) : Rs → Prop
  | .d x => Da K F v x
  | .own i => σ[i]? = some (some v)
  | .new c => ∃ l, v = .ref l ∧ F l = none ∧ OCok K F H l c ∧ (β.H0 l = none ∨ β.bw l) ∧ ¬ Owned ρ σ l
theorem RsOk.mono {K : PySem.W.Frag} {β : Bs} {ρ ρ' : List Sl} {σ : L2.St} {F H F' H' : Hp} {v : V} (l : Le F F') : ∀ {r : Rs}, r.st = true → RsOk K β ρ σ F H v r → RsOk K β ρ' σ F' H' v r
  | .d _, _, h => Da.mono l h
  | .own _, _, h => h
inductive RsAll (K : PySem.W.Frag) (β : Bs) (ρ : List Sl) (σ : L2.St) (F H : Hp) : List V → List Rs → Prop
  | nil : RsAll K β ρ σ F H [] []
  | cons {v : V} {vs : List V} {r : Rs} {rs : List Rs} : RsOk K β ρ σ F H v r → RsAll K β ρ σ F H vs rs → RsAll K β ρ σ F H (v :: vs) (r :: rs)

structure EV (X : Cx) (e : Expr) (ρ : List Sl) (r : Rs) (ρ' : List Sl) : Prop where
  run :
    ∀ (β : Bs) (σ : L2.St) (F H : Hp), Conc X.K β ρ σ F H → ∀ Q : VK, (∀ v F' H', Conc X.K β ρ' σ F' H' → Le F F' → RsOk X.K β ρ' σ F' H' v r → Q v H') → tU X e σ H Q
instance {X : Cx} {e : Expr} {ρ : List Sl} {r : Rs} {ρ' : List Sl} : CoeFun (EV X e ρ r ρ') (fun _ => ∀ (β : Bs) (σ : L2.St) (F H : Hp), Conc X.K β ρ σ F H → ∀ Q : VK, (∀ v F' H', Conc X.K β ρ' σ F' H' → Le F F' → RsOk X.K β ρ' σ F' H' v r → Q v H') → tU X e σ H Q) := ⟨fun h => h.run⟩
structure ET (X : Cx) (e : Expr) (ρ : List Sl) (b : Bool) (ρ' : List Sl) : Prop where
  run :
    ∀ (β : Bs) (σ : L2.St) (F H : Hp), Conc X.K β ρ σ F H → ∀ Q : Bool → Hp → Prop, (∀ F' H', Conc X.K β ρ' σ F' H' → Le F F' → Q b H') → ttU X e σ H Q
instance {X : Cx} {e : Expr} {ρ : List Sl} {b : Bool} {ρ' : List Sl} : CoeFun (ET X e ρ b ρ') (fun _ => ∀ (β : Bs) (σ : L2.St) (F H : Hp), Conc X.K β ρ σ F H → ∀ Q : Bool → Hp → Prop, (∀ F' H', Conc X.K β ρ' σ F' H' → Le F F' → Q b H') → ttU X e σ H Q) := ⟨fun h => h.run⟩
structure EW (X : Cx) (e : Expr) (ρ : List Sl) (b : Bool) (ρ' : List Sl) : Prop where
  run :
    ∀ (β : Bs) (σ : L2.St) (F H : Hp), Conc X.K β ρ σ F H → ∀ Q : Bool → Hp → Prop, (∀ F' H', Conc X.K β ρ' σ F' H' → Le F F' → Q b H') → twU X e σ H Q
instance {X : Cx} {e : Expr} {ρ : List Sl} {b : Bool} {ρ' : List Sl} : CoeFun (EW X e ρ b ρ') (fun _ => ∀ (β : Bs) (σ : L2.St) (F H : Hp), Conc X.K β ρ σ F H → ∀ Q : Bool → Hp → Prop, (∀ F' H', Conc X.K β ρ' σ F' H' → Le F F' → Q b H') → twU X e σ H Q) := ⟨fun h => h.run⟩
structure EA (X : Cx) (es : List Expr) (ρ : List Sl) (rs : List Rs) (ρ' : List Sl) : Prop where
  run :
    ∀ (β : Bs) (σ : L2.St) (F H : Hp), Conc X.K β ρ σ F H → ∀ Q : List V → Hp → Prop, (∀ vs F' H', Conc X.K β ρ' σ F' H' → Le F F' → RsAll X.K β ρ' σ F' H' vs rs → Q vs H') → taU X es σ H Q
instance {X : Cx} {es : List Expr} {ρ : List Sl} {rs : List Rs} {ρ' : List Sl} : CoeFun (EA X es ρ rs ρ') (fun _ => ∀ (β : Bs) (σ : L2.St) (F H : Hp), Conc X.K β ρ σ F H → ∀ Q : List V → Hp → Prop, (∀ vs F' H', Conc X.K β ρ' σ F' H' → Le F F' → RsAll X.K β ρ' σ F' H' vs rs → Q vs H') → taU X es σ H Q) := ⟨fun h => h.run⟩
/-- a store kept to these slots -/
def WipeEq (js : List Nat) (σ σ' : L2.St) : Prop := ∀ vs : List Nat, (∀ j ∈ js, j ∈ vs) → wipe σ' vs = wipe σ vs
/-- what comes to a target: data, or a pair that is taken apart at once -/
inductive Im where
  | one (d : D)
  | two (a b : D)
def ImOk (K : PySem.W.Frag) (F H : Hp) (v : V) : Im → Prop
  | .one d => Da K F v d
  | .two a b => ∃ T y z, v = .ref T ∧ SqT K H T [y, z] ∧ Da K F y a ∧ Da K F z b
/-- data stored into a target, whose slots are js -/
structure EG (X : Cx) (tg : Expr) (x : Im) (ρ ρ' : List Sl) (js : List Nat) : Prop where
  run :
    ∀ (β : Bs) (σ : L2.St) (F H : Hp) (v : V), Conc X.K β ρ σ F H → ImOk X.K F H v x → ∀ Q : L2.St → Hp → Prop, (∀ σ' F' H', Conc X.K β ρ' σ' F' H' → Le F F' → WipeEq js σ σ' → Q σ' H') → tgU X tg v σ H Q
instance {X : Cx} {tg : Expr} {x : Im} {ρ ρ' : List Sl} {js : List Nat} : CoeFun (EG X tg x ρ ρ' js) (fun _ => ∀ (β : Bs) (σ : L2.St) (F H : Hp) (v : V), Conc X.K β ρ σ F H → ImOk X.K F H v x → ∀ Q : L2.St → Hp → Prop, (∀ σ' F' H', Conc X.K β ρ' σ' F' H' → Le F F' → WipeEq js σ σ' → Q σ' H') → tgU X tg v σ H Q) := ⟨fun h => h.run⟩
structure EGs (X : Cx) (tg : List Expr) (xs : List D) (ρ ρ' : List Sl) (js : List Nat) : Prop where
  run :
    ∀ (β : Bs) (σ : L2.St) (F H : Hp) (vs : List V), Conc X.K β ρ σ F H → DaAll X.K F vs xs → ∀ Q : L2.St → Hp → Prop, (∀ σ' F' H', Conc X.K β ρ' σ' F' H' → Le F F' → WipeEq js σ σ' → Q σ' H') → tgsU X tg vs σ H Q
instance {X : Cx} {tg : List Expr} {xs : List D} {ρ ρ' : List Sl} {js : List Nat} : CoeFun (EGs X tg xs ρ ρ' js) (fun _ => ∀ (β : Bs) (σ : L2.St) (F H : Hp) (vs : List V), Conc X.K β ρ σ F H → DaAll X.K F vs xs → ∀ Q : L2.St → Hp → Prop, (∀ σ' F' H', Conc X.K β ρ' σ' F' H' → Le F F' → WipeEq js σ σ' → Q σ' H') → tgsU X tg vs σ H Q) := ⟨fun h => h.run⟩

/-! ### expressions -/
section
variable {X : Cx} {ρ ρ1 ρ2 ρ3 : List Sl} {r ra rb rc : Rs} {e a b c : Expr} {es : List Expr} {pos p : Pos} {x : Str} {d : D}
theorem vis_l {sc : Scope} {x : Str} (h : sc.names.lookup x = some .local) : Vis sc x := .inl h
theorem vis_c {sc : Scope} {x : Str} (h : sc.names.lookup x = some .cell) : Vis sc x := .inr (.inl h)
theorem vis_f {sc : Scope} {x : Str} (h : sc.names.lookup x = some .free) : Vis sc x := .inr (.inr h)
theorem ev_name {i : Nat} (hN : X.N[i]? = some x) (hv : Vis X.env.scope x) (hi : ρ[i]? = some (Sl.d d)) (hd : (x == ("__debug__" : Str)) = false := by decide) (hcd : (x == ("__classdict__" : Str)) = false := by decide) : EV X (.Name x pos) ρ (.d d) ρ := .mk fun β σ F H C Q k => by
  obtain ⟨v, e, da⟩ := C.sl i _ hi
  exact ⟨_, pe_var hN hv hd hcd, v, e, k v F H C (.refl F) da⟩
theorem ev_nameO {i : Nat} {bo : Option Nat} {oc : OC} (hN : X.N[i]? = some x) (hv : Vis X.env.scope x) (hi : ρ[i]? = some (Sl.own bo oc)) (hd : (x == ("__debug__" : Str)) = false := by decide) (hcd : (x == ("__classdict__" : Str)) = false := by decide) : EV X (.Name x pos) ρ (.own i) ρ := .mk fun β σ F H C Q k => by
  obtain ⟨l, e, _⟩ := C.sl i _ hi
  exact ⟨_, pe_var hN hv hd hcd, _, e, k _ F H C (.refl F) e⟩
theorem ev_int {i : Int} {j} : EV X (.Constant (.int i) j pos) ρ (.d (.int i)) ρ := .mk fun _ _ F H C _ k => ⟨_, pe_int, k _ F H C (.refl F) (.int i)⟩
theorem ev_bool {i : Bool} {j} : EV X (.Constant (.bool i) j pos) ρ (.d (.bool i)) ρ := .mk fun _ _ F H C _ k => ⟨_, pe_bl, k _ F H C (.refl F) (.bl i)⟩
theorem ev_none {j} : EV X (.Constant .none j pos) ρ (.d .none) ρ := .mk fun _ _ F H C _ k => ⟨_, pe_non, k _ F H C (.refl F) .non⟩
theorem ev_str {i : Str} {j} : EV X (.Constant (.str i) j pos) ρ (.d (.str i)) ρ := .mk fun _ _ F H C _ k => ⟨_, pe_str, k _ F H C (.refl F) (.str i)⟩
/-- a constant of the module -/
theorem ev_glob {v : V} {u : Value} (hg : Gl X x) (hm : X.mg x = some u) (r : RelV v u) (hd : ∀ F, Da X.K F v d) (hdb : (x == ("__debug__" : Str)) = false := by decide) : EV X (.Name x pos) ρ (.d d) ρ := .mk fun _ _ F H C _ k => ⟨_, pe_glob hg hm r hdb, k _ F H C (.refl F) (hd F)⟩
theorem ev_globI {i : Int} {t : Tok} (hg : Gl X x) (hm : X.mg x = some (.int i t)) (hdb : (x == ("__debug__" : Str)) = false := by decide) : EV X (.Name x pos) ρ (.d (.int i)) ρ := ev_glob (v := .int i) hg hm ⟨t, rfl⟩ (fun _ => .int i) hdb
theorem ev_globS {i : Str} {t : Tok} (hg : Gl X x) (hm : X.mg x = some (.str i t)) (hdb : (x == ("__debug__" : Str)) = false := by decide) : EV X (.Name x pos) ρ (.d (.str i)) ρ := ev_glob (v := .str i) hg hm ⟨t, rfl⟩ (fun _ => .str i) hdb
/-- the same at equal data, slots -/
theorem EV.cast {r' : Rs} {ρ2' : List Sl} (h : EV X e ρ r ρ2) (e1 : r = r') (e2 : ρ2 = ρ2') : EV X e ρ r' ρ2' := by
  subst e1 e2
  exact h
/-- a thing of one's own given away: it is data from here on -/
theorem EV.fz {i : Nat} {ds : List D} (h : EV X e ρ (.own i) ρ1) (hi : ρ1[i]? = some (Sl.own none (.lst ds))) : EV X e ρ (.d (.list ds)) (ρ1.set i (.d (.list ds))) := .mk fun β σ F H C Q k => by
  refine h β σ F H C Q fun v F1 H1 C1 l1 o => ?_
  obtain ⟨l, vs, F2, e1, l2, fl, da, C2⟩ := C1.freeze hi
  have o : σ[i]? = some (some v) := o
  rw [o] at e1
  cases e1
  exact k _ F2 H1 C2 (l1.trans l2) (.lst (SqL.of fl) (da.mono l2))
theorem EV.nw {ds : List D} (h : EV X e ρ (.new (.lst ds)) ρ1) : EV X e ρ (.d (.list ds)) ρ1 := .mk fun β σ F H C Q k => by
  refine h β σ F H C Q fun v F1 H1 C1 l1 ⟨l, ev, fl, ⟨vs, hl, da⟩, hb, no⟩ => ?_
  subst ev
  have C2 : Conc X.K β ρ1 σ (upd F1 l (.lst vs)) H1 := by
    refine ⟨C1.le.add hl, C1.base.trans (le_upd fl), fun a q => ?_, C1.frame, C1.len, fun i s hs => ?_, C1.sep⟩
    · by_cases z : a = l
      · subst z
        exact .inr hb
      · rw [upd_ne z] at q
        exact C1.new a q
    · have q := C1.sl i s hs
      cases s with
      | no => trivial
      | d x =>
        obtain ⟨v, e1, e2⟩ := q
        exact ⟨v, e1, e2.mono (le_upd fl)⟩
      | own b c =>
        obtain ⟨p, e1, e2, e3, e4, e5⟩ := q
        have z : p ≠ l := fun z => by
          subst z
          exact no ⟨i, b, c, hs, e1⟩
        exact ⟨p, e1, by rw [upd_ne z]; exact e2, e3.mono (le_upd fl) rfl, e4, e5⟩
  exact k _ _ _ C2 (l1.trans (le_upd fl)) (.lst (SqL.of upd_same) (da.mono (le_upd fl)))

/-- an operation on two values, in symbols -/
def R2ok (K : PySem.W.Frag) (r : R2) (ra rb : Rs) (ρ : List Sl) (rc : Rs) : Prop :=
  ∀ (β : Bs) (σ : L2.St) (F H : Hp) (v w : V), Conc K β ρ σ F H → RsOk K β ρ σ F H v ra → RsOk K β ρ σ F H w rb → ∀ Q : VK, (∀ z F' H', Conc K β ρ σ F' H' → Le F F' → RsOk K β ρ σ F' H' z rc → Q z H') → r v w H Q
theorem ev_bin {op : Operator} {r : R2} (ho : OpR X (binaryOp op) r) (ha : EV X a ρ ra ρ1) (hb : EV X b ρ1 rb ρ2) (hr : R2ok X.K r ra rb ρ2 rc) (hst : ra.st = true := by rfl) : EV X (.BinOp a op b pos) ρ rc ρ2 := .mk fun β σ F H C Q k =>
  ⟨_, pe_op ho peU peU, ha β σ F H C _ fun v F1 H1 C1 l1 r1 => hb β σ F1 H1 C1 _ fun w F2 H2 C2 l2 r2 => hr β σ F2 H2 v w C2 (r1.mono l2 hst) r2 Q fun z F3 H3 C3 l3 r3 => k z F3 H3 C3 ((l1.trans l2).trans l3) r3⟩
theorem ev_cmp {op : CmpOp} {r : R2} (ho : OpR X (compareOp op) r) (ha : EV X a ρ ra ρ1) (hb : EV X b ρ1 rb ρ2) (hr : R2ok X.K r ra rb ρ2 rc) (hm : behindInMarks op b = false := by first | exact nomark _ | rfl) (hst : ra.st = true := by rfl) : EV X (.Compare a [op] [b] pos) ρ rc ρ2 := .mk fun β σ F H C Q k =>
  ⟨_, pe_cmpR ho peU peU hm, ha β σ F H C _ fun v F1 H1 C1 l1 r1 => hb β σ F1 H1 C1 _ fun w F2 H2 C2 l2 r2 => hr β σ F2 H2 v w C2 (r1.mono l2 hst) r2 Q fun z F3 H3 C3 l3 r3 => k z F3 H3 C3 ((l1.trans l2).trans l3) r3⟩
theorem et_cmp {op : CmpOp} {r : R2} {k : Bool} (ho : OpR X (compareOp op) r) (ha : EV X a ρ ra ρ1) (hb : EV X b ρ1 rb ρ2) (hr : R2ok X.K r ra rb ρ2 (.d (.bool k))) (hm : behindInMarks op b = false := by first | exact nomark _ | rfl) (hst : ra.st = true := by rfl) : ET X (.Compare a [op] [b] pos) ρ k ρ2 := .mk fun β σ F H C Q kk =>
  ⟨_, pt_cmpR ho peU peU hm, ha β σ F H C _ fun v F1 H1 C1 l1 r1 => hb β σ F1 H1 C1 _ fun w F2 H2 C2 l2 r2 => hr β σ F2 H2 v w C2 (r1.mono l2 hst) r2 _ fun z F3 H3 C3 l3 r3 => ⟨k, Da.bool_eq r3, kk F3 H3 C3 ((l1.trans l2).trans l3)⟩⟩
/-- a < b < c -/
theorem ev_chain {op op' : CmpOp} {r r' : R2} {k k' : Bool} (ho : OpR X (compareOp op) r) (ho' : OpR X (compareOp op') r') (ha : EV X a ρ ra ρ1) (hb : EV X b ρ1 rb ρ2) (hr : R2ok X.K r ra rb ρ2 (.d (.bool k))) (hc : k = true → EV X c ρ2 rc ρ2) (hr' : k = true → R2ok X.K r' rb rc ρ2 (.d (.bool k')))
    (hm : lastMarks [op, op'] [b, c] = false := by with_unfolding_all rfl) (hst : ra.st = true := by rfl) (hst' : rb.st = true := by rfl) : EV X (.Compare a [op, op'] [b, c] pos) ρ (.d (.bool (k && k'))) ρ2 := .mk fun β σ F H C Q kk =>
  ⟨_, pe_chain ho ho' peU peU peU hm, ha β σ F H C _ fun v F1 H1 C1 l1 r1 => hb β σ F1 H1 C1 _ fun w F2 H2 C2 l2 r2 => hr β σ F2 H2 v w C2 (r1.mono l2 hst) r2 _ fun z F3 H3 C3 l3 r3 => ⟨k, Da.bool_eq r3, by
    cases k with
    | true => exact iteT (hc rfl β σ F3 H3 C3 _ fun y F4 H4 C4 l4 r4 => hr' rfl β σ F4 H4 w y C4 (r2.mono (l3.trans l4) hst') r4 _ fun z F5 H5 C5 l5 r5 => kk z F5 H5 C5 ((((l1.trans l2).trans l3).trans l4).trans l5) r5)
    | false => exact iteF (kk _ F3 H3 C3 ((l1.trans l2).trans l3) (.bl _))⟩⟩
theorem et_chain {op op' : CmpOp} {r r' : R2} {k k' : Bool} (ho : OpR X (compareOp op) r) (ho' : OpR X (compareOp op') r') (ha : EV X a ρ ra ρ1) (hb : EV X b ρ1 rb ρ2) (hr : R2ok X.K r ra rb ρ2 (.d (.bool k))) (hc : k = true → EV X c ρ2 rc ρ2) (hr' : k = true → R2ok X.K r' rb rc ρ2 (.d (.bool k')))
    (hm : lastMarks [op, op'] [b, c] = false := by with_unfolding_all rfl) (hst : ra.st = true := by rfl) (hst' : rb.st = true := by rfl) : ET X (.Compare a [op, op'] [b, c] pos) ρ (k && k') ρ2 := .mk fun β σ F H C Q kk =>
  ⟨_, pt_chain ho ho' peU peU peU hm, ha β σ F H C _ fun v F1 H1 C1 l1 r1 => hb β σ F1 H1 C1 _ fun w F2 H2 C2 l2 r2 => hr β σ F2 H2 v w C2 (r1.mono l2 hst) r2 _ fun z F3 H3 C3 l3 r3 => ⟨k, Da.bool_eq r3, by
    cases k with
    | true => exact iteT (hc rfl β σ F3 H3 C3 _ fun y F4 H4 C4 l4 r4 => hr' rfl β σ F4 H4 w y C4 (r2.mono (l3.trans l4) hst') r4 _ fun z F5 H5 C5 l5 r5 => ⟨k', Da.bool_eq r5, kk F5 H5 C5 ((((l1.trans l2).trans l3).trans l4).trans l5)⟩)
    | false => exact iteF ⟨false, rfl, kk F3 H3 C3 ((l1.trans l2).trans l3)⟩⟩⟩
/-- an expression that gives a bool, as a test -/
theorem et_val {k : Bool} (h : EV X e ρ (.d (.bool k)) ρ1) (he : ∀ whole, isTrue e X.env whole = (do let v ← whole; standAt e.pos; holding [v] (truthy v)) := by intro _; rfl) : ET X e ρ k ρ1 := .mk fun β σ F H C Q kk =>
  ⟨_, pt_val peU he, h β σ F H C _ fun v F1 H1 C1 l1 r1 => ⟨k, Da.bool_eq r1, kk F1 H1 C1 l1⟩⟩
theorem et_not {k : Bool} (h : ET X a ρ k ρ1) : ET X (.UnaryOp .Not a pos) ρ (!k) ρ1 := .mk fun β σ F H C Q kk => ⟨_, pt_not ptU, h β σ F H C _ fun F1 H1 C1 l1 => kk F1 H1 C1 l1⟩
theorem EW.et {k : Bool} (h : EW X e ρ k ρ1) : ET X e ρ k ρ1 := .mk fun β σ F H C Q kk => ⟨_, PW.pt pwU, h β σ F H C Q kk⟩
theorem ew_and1 {k : Bool} (h : ET X a ρ k ρ1) : EW X (.BoolOp .And [a] pos) ρ k ρ1 := .mk fun β σ F H C Q kk => ⟨_, pw_and1 ptU, h β σ F H C Q kk⟩
theorem ew_or1 {k : Bool} (h : ET X a ρ k ρ1) : EW X (.BoolOp .Or [a] pos) ρ k ρ1 := .mk fun β σ F H C Q kk => ⟨_, pw_or1 ptU, h β σ F H C Q kk⟩
theorem ew_and {k k' : Bool} (h : ET X a ρ k ρ1) (h' : k = true → EW X (.BoolOp .And (b :: es) pos) ρ1 k' ρ1) : EW X (.BoolOp .And (a :: b :: es) pos) ρ (k && k') ρ1 := .mk fun β σ F H C Q kk =>
  ⟨_, pw_and ptU pwU, h β σ F H C _ fun F1 H1 C1 l1 => by
    cases k with
    | true => exact iteT (h' rfl β σ F1 H1 C1 _ fun F2 H2 C2 l2 => kk F2 H2 C2 (l1.trans l2))
    | false => exact iteF (kk F1 H1 C1 l1)⟩
theorem ew_or {k k' : Bool} (h : ET X a ρ k ρ1) (h' : k = false → EW X (.BoolOp .Or (b :: es) pos) ρ1 k' ρ1) : EW X (.BoolOp .Or (a :: b :: es) pos) ρ (k || k') ρ1 := .mk fun β σ F H C Q kk =>
  ⟨_, pw_or ptU pwU, h β σ F H C _ fun F1 H1 C1 l1 => by
    cases k with
    | true => exact iteT (kk F1 H1 C1 l1)
    | false => exact iteF (h' rfl β σ F1 H1 C1 _ fun F2 H2 C2 l2 => kk F2 H2 C2 (l1.trans l2))⟩
theorem ev_one {op} (h : EV X a ρ r ρ1) : EV X (.BoolOp op [a] pos) ρ r ρ1 := .mk fun β σ F H C Q k => ⟨_, pe_one peU, h β σ F H C Q k⟩
theorem ev_and {k k' : Bool} (h : EV X a ρ (.d (.bool k)) ρ1) (h' : k = true → EV X (.BoolOp .And (b :: es) pos) ρ1 (.d (.bool k')) ρ1) : EV X (.BoolOp .And (a :: b :: es) pos) ρ (.d (.bool (k && k'))) ρ1 := .mk fun β σ F H C Q kk =>
  ⟨_, pe_and peU peU, h β σ F H C _ fun v F1 H1 C1 l1 r1 => ⟨k, Da.bool_eq r1, by
    cases k with
    | true => exact iteT (h' rfl β σ F1 H1 C1 _ fun v F2 H2 C2 l2 r2 => kk v F2 H2 C2 (l1.trans l2) r2)
    | false => exact iteF (kk _ F1 H1 C1 l1 (.bl _))⟩⟩
theorem ev_or {k k' : Bool} (h : EV X a ρ (.d (.bool k)) ρ1) (h' : k = false → EV X (.BoolOp .Or (b :: es) pos) ρ1 (.d (.bool k')) ρ1) : EV X (.BoolOp .Or (a :: b :: es) pos) ρ (.d (.bool (k || k'))) ρ1 := .mk fun β σ F H C Q kk =>
  ⟨_, pe_or peU peU, h β σ F H C _ fun v F1 H1 C1 l1 r1 => ⟨k, Da.bool_eq r1, by
    cases k with
    | true => exact iteT (kk _ F1 H1 C1 l1 (.bl _))
    | false => exact iteF (h' rfl β σ F1 H1 C1 _ fun v F2 H2 C2 l2 r2 => kk v F2 H2 C2 (l1.trans l2) r2)⟩⟩
theorem ev_not {k : Bool} (h : EV X a ρ (.d (.bool k)) ρ1) : EV X (.UnaryOp .Not a pos) ρ (.d (.bool (!k))) ρ1 := .mk fun β σ F H C Q kk =>
  ⟨_, pe_not peU, h β σ F H C _ fun v F1 H1 C1 l1 r1 => ⟨k, Da.bool_eq r1, kk _ F1 H1 C1 l1 (.bl _)⟩⟩
theorem ev_neg {i : Int} (h : EV X a ρ (.d (.int i)) ρ1) : EV X (.UnaryOp .USub a pos) ρ (.d (.int (-i))) ρ1 := .mk fun β σ F H C Q kk =>
  ⟨_, pe_un un_neg peU, h β σ F H C _ fun v F1 H1 C1 l1 r1 => ⟨i, Da.int_eq r1, kk _ F1 H1 C1 l1 (.int _)⟩⟩
theorem ev_if {k : Bool} (hc : ET X c ρ k ρ1) (h1 : k = true → EV X a ρ1 r ρ2) (h2 : k = false → EV X b ρ1 r ρ2) : EV X (.IfExp c a b pos) ρ r ρ2 := .mk fun β σ F H C Q kk =>
  ⟨_, pe_ifExp ptU peU peU, hc β σ F H C _ fun F1 H1 C1 l1 => by
    cases k with
    | true => exact iteT (h1 rfl β σ F1 H1 C1 _ fun v F2 H2 C2 l2 r2 => kk v F2 H2 C2 (l1.trans l2) r2)
    | false => exact iteF (h2 rfl β σ F1 H1 C1 _ fun v F2 H2 C2 l2 r2 => kk v F2 H2 C2 (l1.trans l2) r2)⟩

/-! ### arguments, displays -/
theorem ea_nil : EA X [] ρ [] ρ := .mk fun β σ F H C Q k => ⟨_, pa_nil, k _ F H C (.refl F) .nil⟩
theorem RsAll.mono {K : PySem.W.Frag} {β : Bs} {ρ ρ' : List Sl} {σ : L2.St} {F H F' H' : Hp} (l : Le F F') : ∀ {vs : List V} {rs : List Rs}, (∀ r ∈ rs, r.st = true) → RsAll K β ρ σ F H vs rs → RsAll K β ρ' σ F' H' vs rs
  | _, _, _, .nil => .nil
  | _, _, hs, .cons h t => .cons (h.mono l (hs _ List.mem_cons_self)) (RsAll.mono l (fun r hr => hs r (List.mem_cons_of_mem _ hr)) t)
theorem ea_cons {rs : List Rs} (h : EV X e ρ r ρ1) (t : EA X es ρ1 rs ρ2) (hst : r.st = true := by rfl) (hs : starEach (e :: es) X.env = (false, eval e X.env) :: starEach es X.env := by rfl) : EA X (e :: es) ρ (r :: rs) ρ2 := .mk fun β σ F H C Q k =>
  ⟨_, pa_cons peU paU hs, h β σ F H C _ fun v F1 H1 C1 l1 r1 => t β σ F1 H1 C1 _ fun vs F2 H2 C2 l2 r2 => k _ F2 H2 C2 (l1.trans l2) (.cons (r1.mono l2 hst) r2)⟩
theorem RsAll.da {K : PySem.W.Frag} {β : Bs} {ρ : List Sl} {σ : L2.St} {F H : Hp} : ∀ {vs : List V} {ds : List D}, RsAll K β ρ σ F H vs (ds.map Rs.d) → DaAll K F vs ds
  | _, [], h => by cases h; exact .nil
  | _, d :: ds, h => by
    cases h with
    | cons a b => exact .cons a (RsAll.da b)
theorem ev_tup {x1} {ds : List D} {rs : List Rs} (h : EA X es ρ rs ρ1) (e : rs = ds.map Rs.d := by rfl) (hl : ds.length ≤ sizeLine := by decide) : EV X (.Tuple es x1 pos) ρ (.d (.tuple ds)) ρ1 := .mk fun β σ F H C Q k => by
  subst e
  refine ⟨_, pe_tupP paU, h β σ F H C _ fun vs F1 H1 C1 l1 r1 => ⟨by rw [(RsAll.da r1).length]; exact hl, fun p ob hp ho => ?_⟩⟩
  have fp := C1.le.none hp
  exact k _ _ _ (C1.alloc hp) (l1.trans (le_upd fp)) (.tup (PlT.of ho) ((RsAll.da r1).mono (le_upd fp)))
theorem ev_lst {ds : List D} {rs : List Rs} (h : EA X es ρ rs ρ1) (e : rs = ds.map Rs.d := by rfl) (hl : ds.length ≤ sizeLine := by decide) : EV X (.List es pos) ρ (.new (.lst ds)) ρ1 := .mk fun β σ F H C Q k => by
  subst e
  refine ⟨_, pe_lst paU, h β σ F H C _ fun vs F1 H1 C1 l1 r1 => ⟨by rw [(RsAll.da r1).length]; exact hl, fun p hp => ?_⟩⟩
  have fp := C1.le.none hp
  refine k _ _ _ (C1.allocU hp) l1 ⟨p, rfl, fp, ⟨vs, upd_same, RsAll.da r1⟩, ?_, fun o => absurd hp (C1.ownF o).2.2⟩
  cases e0 : β.H0 p with
  | none => exact .inl rfl
  | some u =>
    refine .inr (Classical.byContradiction fun n => ?_)
    rw [C1.frame p u (C1.base.none fp) e0 n] at hp
    cases hp
end
end OX
set_option Elab.async false
set_option linter.all false
set_option maxRecDepth 100000
/-! OX3: targets, statements, loops, comprehensions. -/
namespace OX
open PySem L2

/-! ### targets -/
section
variable {X : Cx} {ρ ρ1 ρ2 ρ3 : List Sl} {pos : Pos} {x : Str} {d : D} {tg : Expr} {tgs : List Expr}
theorem wipe_get (σ : L2.St) (i : Nat) : ∀ vs : List Nat, (wipe σ vs)[i]? = if i ∈ vs then (if i < σ.length then some none else none) else σ[i]?
  | [] => by simp [wipe]
  | v :: vs => by
    unfold wipe
    by_cases z : v = i
    · subst z
      by_cases y : v < σ.length
      · rw [List.getElem?_set_self (by rw [wipe_length]; exact y)]
        simp [y]
      · rw [List.getElem?_eq_none (by rw [List.length_set, wipe_length]; omega)]
        simp [y]
    · rw [List.getElem?_set_ne z, wipe_get σ i vs]
      have : (i ∈ v :: vs) ↔ i ∈ vs := by
        simp only [List.mem_cons]
        exact ⟨fun h => h.resolve_left fun e => z e.symm, .inr⟩
      simp only [this]
theorem wipe_set {σ : L2.St} {i : Nat} {x : Option V} {vs : List Nat} (h : i ∈ vs) : wipe (σ.set i x) vs = wipe σ vs := by
  refine List.ext_getElem? fun j => ?_
  rw [wipe_get, wipe_get, List.length_set]
  by_cases z : j ∈ vs
  · simp [z]
  · have : i ≠ j := fun e => z (e ▸ h)
    simp only [if_neg z]
    rw [List.getElem?_set_ne this]
theorem eg_name {i : Nat} (hN : X.N.Nodup) (hi : X.N[i]? = some x) (hx : Loc X.env.scope x) (hf : X.fn x = true ∨ X.env.scope.names.lookup x = some .local := by first | exact .inl rfl | exact .inr rfl | assumption) : EG X (.Name x pos) (.one d) ρ (ρ.set i (.d d)) [i] :=
  .mk fun β σ F H v C h Q k => ⟨_, pg_name hN hi hx hf, k _ F H (C.setD i h) (.refl F) fun vs hv => wipe_set (hv i (by simp))⟩
theorem egs_nil : EGs X [] [] ρ ρ [] := .mk fun β σ F H vs C h Q k => ⟨_, pgs_nil, by cases h; rfl, k _ F H C (.refl F) fun _ _ => rfl⟩
theorem egs_cons {ds : List D} {js ks : List Nat} (h1 : EG X tg (.one d) ρ ρ1 js) (h2 : EGs X tgs ds ρ1 ρ2 ks) (hs : (assignEach (tg :: tgs) X.env).map (·.2) = assign tg X.env :: (assignEach tgs X.env).map (·.2) := by rfl) : EGs X (tg :: tgs) (d :: ds) ρ ρ2 (js ++ ks) := .mk fun β σ F H vs C h Q k => by
  cases h with
  | cons a b => exact ⟨_, pgs_cons pgU pgsU hs, _, _, rfl, h1 β σ F H _ C a _ fun σ1 F1 H1 C1 l1 w1 => h2 β σ1 F1 H1 _ C1 (b.mono l1) _ fun σ2 F2 H2 C2 l2 w2 => k _ _ _ C2 (l1.trans l2) fun vs hv =>
      (w2 vs fun j hj => hv j (List.mem_append_right _ hj)).trans (w1 vs fun j hj => hv j (List.mem_append_left _ hj))⟩
theorem eg_tup {ds : List D} {k n : Nat} {js : List Nat} (hc : X.calm = true) (h : EGs X tgs ds ρ ρ1 js) (hl : ds.length = n := by rfl)
    (hn : (assignEach tgs X.env).length = n := by rfl) (hst : (assignEach tgs X.env).findIdx? (·.1) = none := by rfl) : EG X (.Tuple tgs k pos) (.one (.tuple ds)) ρ ρ1 js := .mk fun β σ F H v C hv Q kk => by
  obtain ⟨a, xs, e, hs, hd⟩ := Da.tup_ref hv
  subst e
  exact ⟨_, pg_tup hc pgsU hn hst, a, xs, rfl, (C.le.plT hs).sqT, hd.length.trans hl, h β σ F H xs C hd Q kk⟩
theorem eg_two {a b : D} {k : Nat} {js : List Nat} (hc : X.calm = true) (h : EGs X tgs [a, b] ρ ρ1 js)
    (hn : (assignEach tgs X.env).length = 2 := by rfl) (hst : (assignEach tgs X.env).findIdx? (·.1) = none := by rfl) : EG X (.Tuple tgs k pos) (.two a b) ρ ρ1 js := .mk fun β σ F H v C hv Q kk => by
  obtain ⟨T, y, z, e, hs, h1, h2⟩ := hv
  subst e
  exact ⟨_, pg_tup hc pgsU hn hst, T, [y, z], rfl, hs, rfl, h β σ F H _ C (.cons h1 (.cons h2 .nil)) Q kk⟩
end

/-! ### statements -/
structure SN where
  nx : List Sl → Prop
  rt : List Sl → D → Prop
  bk : List Sl → Prop := fun _ => False
  ct : List Sl → Prop := fun _ => False
  rn : List Sl → OC → Prop := fun _ _ => False
def SN.ends (K : PySem.W.Frag) (β : Bs) (N : SN) : Ends where
  nx := fun σ H => ∃ ρ F, Conc K β ρ σ F H ∧ N.nx ρ
  rt := fun v H => (∃ ρ σ F x, Conc K β ρ σ F H ∧ Da K F v x ∧ N.rt ρ x) ∨ ∃ ρ σ F c, Conc K β ρ σ F H ∧ RsOk K β ρ σ F H v (.new c) ∧ N.rn ρ c
  bk := fun σ H => ∃ ρ F, Conc K β ρ σ F H ∧ N.bk ρ
  ct := fun σ H => ∃ ρ F, Conc K β ρ σ F H ∧ N.ct ρ
structure SnLe (N N' : SN) : Prop where
  nx : ∀ ρ, N.nx ρ → N'.nx ρ
  rt : ∀ ρ x, N.rt ρ x → N'.rt ρ x
  bk : ∀ ρ, N.bk ρ → N'.bk ρ
  ct : ∀ ρ, N.ct ρ → N'.ct ρ
  rn : ∀ ρ c, N.rn ρ c → N'.rn ρ c := by exact fun _ _ z => z
theorem SnLe.refl (N : SN) : SnLe N N := ⟨fun _ h => h, fun _ _ h => h, fun _ h => h, fun _ h => h, fun _ _ h => h⟩
theorem SnLe.ends {K : PySem.W.Frag} {β : Bs} {N N' : SN} (l : SnLe N N') : EndLe (N.ends K β) (N'.ends K β) :=
  ⟨fun _ _ ⟨ρ, F, C, h⟩ => ⟨ρ, F, C, l.nx ρ h⟩, fun _ _ z => by
    rcases z with ⟨ρ, σ, F, x, C, d, h⟩ | ⟨ρ, σ, F, c, C, d, h⟩
    · exact .inl ⟨ρ, σ, F, x, C, d, l.rt ρ x h⟩
    · exact .inr ⟨ρ, σ, F, c, C, d, l.rn ρ c h⟩, fun _ _ ⟨ρ, F, C, h⟩ => ⟨ρ, F, C, l.bk ρ h⟩, fun _ _ ⟨ρ, F, C, h⟩ => ⟨ρ, F, C, l.ct ρ h⟩⟩
structure ES1 (X : Cx) (st : Stmt) (ρ : List Sl) (N : SN) : Prop where
  run : ∀ (β : Bs) (σ : L2.St) (F H : Hp), Conc X.K β ρ σ F H → tsU X st (N.ends X.K β) σ H
instance {X : Cx} {st : Stmt} {ρ : List Sl} {N : SN} : CoeFun (ES1 X st ρ N) (fun _ => ∀ (β : Bs) (σ : L2.St) (F H : Hp), Conc X.K β ρ σ F H → tsU X st (N.ends X.K β) σ H) := ⟨fun h => h.run⟩
structure ES (X : Cx) (st : List Stmt) (ρ : List Sl) (N : SN) : Prop where
  run : ∀ (β : Bs) (σ : L2.St) (F H : Hp), Conc X.K β ρ σ F H → tssU X st (N.ends X.K β) σ H
instance {X : Cx} {st : List Stmt} {ρ : List Sl} {N : SN} : CoeFun (ES X st ρ N) (fun _ => ∀ (β : Bs) (σ : L2.St) (F H : Hp), Conc X.K β ρ σ F H → tssU X st (N.ends X.K β) σ H) := ⟨fun h => h.run⟩
section
variable {X : Cx} {ρ ρ1 ρ2 ρ3 : List Sl} {r : Rs} {pos : Pos} {x : Str} {d : D} {tg e c iter : Expr} {st : Stmt} {sts body orelse : List Stmt} {N N' : SN}
theorem ES1.le (h : ES1 X st ρ N) (l : SnLe N N') : ES1 X st ρ N' := .mk fun β σ F H C => (h β σ F H C).le l.ends
theorem ES.le (h : ES X sts ρ N) (l : SnLe N N') : ES X sts ρ N' := .mk fun β σ F H C => (h β σ F H C).le l.ends
theorem es_nil (h : N.nx ρ) : ES X [] ρ N := .mk fun β σ F H C => .of pss_nil ⟨ρ, F, C, h⟩
theorem es_cons (h : ES1 X st ρ { N with nx := fun ρ' => ES X sts ρ' N }) : ES X (st :: sts) ρ N := .mk fun β σ F H C =>
  .of (pss_cons psU pssU) ((h β σ F H C).le (show EndLe (SN.ends X.K β { N with nx := fun ρ' => ES X sts ρ' N }) { N.ends X.K β with nx := tssU X sts (N.ends X.K β) } from
    ⟨fun σ' H' ⟨ρ', F', C', q⟩ => q β σ' F' H' C', fun _ _ z => z, fun _ _ z => z, fun _ _ z => z⟩))
theorem es_one (h : ES1 X st ρ N) : ES X [st] ρ N := es_cons (h.le ⟨fun _ q => es_nil q, fun _ _ z => z, fun _ z => z, fun _ z => z, fun _ _ z => z⟩)
theorem es_pass (h : N.nx ρ) : ES1 X (.Pass pos) ρ N := .mk fun β σ F H C => .of ps_pass ⟨ρ, F, C, h⟩
theorem es_break (h : N.bk ρ) : ES1 X (.Break pos) ρ N := .mk fun β σ F H C => .of ps_break ⟨ρ, F, C, h⟩
theorem es_continue (h : N.ct ρ) : ES1 X (.Continue pos) ρ N := .mk fun β σ F H C => .of ps_continue ⟨ρ, F, C, h⟩
theorem es_expr (he : EV X e ρ r ρ1) (h : N.nx ρ1) (hs : swapsWith e none pos.line X.env = pure false := by rfl) : ES1 X (.Expr e pos) ρ N := .mk fun β σ F H C =>
  .of (ps_expr peU hs) (he β σ F H C _ fun v F1 H1 C1 l1 r1 => ⟨ρ1, F1, C1, h⟩)
theorem es_ret (he : EV X e ρ (.d d) ρ1) (h : N.rt ρ1 d) : ES1 X (.Return (some e) pos) ρ N := .mk fun β σ F H C =>
  .of (ps_ret peU) (he β σ F H C _ fun v F1 H1 C1 l1 r1 => .inl ⟨ρ1, σ, F1, d, C1, r1, h⟩)
theorem es_retNew {cc : OC} (he : EV X e ρ (.new cc) ρ1) (h : N.rn ρ1 cc) : ES1 X (.Return (some e) pos) ρ N := .mk fun β σ F H C =>
  .of (ps_ret peU) (he β σ F H C _ fun v F1 H1 C1 l1 r1 => .inr ⟨ρ1, σ, F1, cc, C1, r1, h⟩)
theorem es_retN (h : N.rt ρ .none) : ES1 X (.Return none pos) ρ N := .mk fun β σ F H C => .of ps_retN (.inl ⟨ρ, σ, F, .none, C, .non, h⟩)
theorem es_if {k : Bool} (hc : ET X c ρ k ρ1) (h1 : k = true → ES X body ρ1 N) (h2 : k = false → ES X orelse ρ1 N) : ES1 X (.If c body orelse pos) ρ N := .mk fun β σ F H C =>
  .of (ps_if ptU pssU pssU) (hc β σ F H C _ fun F1 H1 C1 l1 => by
    cases k with
    | true => exact iteT (h1 rfl β σ F1 H1 C1)
    | false => exact iteF (h2 rfl β σ F1 H1 C1))
/-- name = data -/
theorem es_set {i : Nat} {pos' : Pos} (hN : X.N.Nodup) (hi : X.N[i]? = some x) (hx : Loc X.env.scope x) (he : EV X e ρ (.d d) ρ1) (h : N.nx (ρ1.set i (.d d))) (hs : swapsWith e (some (.Name x pos')) pos.line X.env = pure false := by rfl)
    (hf : X.fn x = true ∨ X.env.scope.names.lookup x = some .local := by first | exact .inl rfl | exact .inr rfl | assumption) : ES1 X (.Assign [.Name x pos'] e pos) ρ N := .mk fun β σ F H C =>
  .of (ps_set hN hi hx peU hs hf) (he β σ F H C _ fun v F1 H1 C1 l1 r1 => ⟨_, F1, C1.setD i r1, h⟩)
theorem OCok.fresh_set {K : PySem.W.Frag} {β : Bs} {σ : L2.St} {F H : Hp} {v : V} {cc : OC} (C : Conc K β ρ σ F H) (r1 : RsOk K β ρ σ F H v (.new cc)) (i : Nat) : Conc K β (ρ.set i (.own none cc)) (σ.set i (some v)) F H := by
  obtain ⟨l, ev, fl, ok, hb, no⟩ := r1
  subst ev
  exact C.setO i fl ok hb trivial no
/-- name = a new thing of one's own -/
theorem es_setN {i : Nat} {pos' : Pos} {cc : OC} (hN : X.N.Nodup) (hi : X.N[i]? = some x) (hx : Loc X.env.scope x) (he : EV X e ρ (.new cc) ρ1) (h : N.nx (ρ1.set i (.own none cc))) (hs : swapsWith e (some (.Name x pos')) pos.line X.env = pure false := by rfl)
    (hf : X.fn x = true ∨ X.env.scope.names.lookup x = some .local := by first | exact .inl rfl | exact .inr rfl | assumption) : ES1 X (.Assign [.Name x pos'] e pos) ρ N := .mk fun β σ F H C =>
  .of (ps_set hN hi hx peU hs hf) (he β σ F H C _ fun v F1 H1 C1 l1 r1 => ⟨_, F1, OCok.fresh_set C1 r1 i, h⟩)
theorem es_asg {js : List Nat} (he : EV X e ρ (.d d) ρ1) (hg : EG X tg (.one d) ρ1 ρ2 js) (h : N.nx ρ2) (hs : swapsWithSole [tg] e pos.line X.env = pure false := by rfl) (hw : swappedStores [tg] e X.env = pure none := by rfl)
    (h1 : (assignEach [tg] X.env).map (·.2) = [assign tg X.env] := by rfl) : ES1 X (.Assign [tg] e pos) ρ N := .mk fun β σ F H C =>
  .of (ps_asg peU pgU hs hw h1) (he β σ F H C _ fun v F1 H1 C1 l1 r1 => hg β σ F1 H1 v C1 r1 _ fun σ2 F2 H2 C2 l2 w2 => ⟨_, F2, C2, h⟩)

/-! ### what is walked -/
/-- what the i-th turn gives -/
def Yd (K : PySem.W.Frag) (F : Hp) (ds : List Im) (i : Nat) (H : Hp) (x : V) (H' : Hp) : Prop :=
  (∃ d, ds[i]? = some (Im.one d) ∧ H' = H ∧ Da K F x d) ∨ ∃ T y z dy dz, ds[i]? = some (Im.two dy dz) ∧ x = .ref T ∧ H T = none ∧ H' = upd H T (.tup [y, z]) ∧ Da K F y dy ∧ Da K F z dz
def WalkD (K : PySem.W.Frag) (J : It) (ds : List Im) (F : Hp) : Prop := Walk J ds.length (fun H => Le F H) (Yd K F ds)
structure EI (X : Cx) (tg iter : Expr) (ρ : List Sl) (ds : List Im) (ρ' : List Sl) : Prop where
  run :
    ∀ (β : Bs) (σ : L2.St) (F H : Hp), Conc X.K β ρ σ F H → ∀ R : It → Hp → Prop, (∀ J F' H', Conc X.K β ρ' σ F' H' → Le F F' → WalkD X.K J ds F' → R J H') → tiU X tg iter σ H R
instance {X : Cx} {tg iter : Expr} {ρ : List Sl} {ds : List Im} {ρ' : List Sl} : CoeFun (EI X tg iter ρ ds ρ') (fun _ => ∀ (β : Bs) (σ : L2.St) (F H : Hp), Conc X.K β ρ σ F H → ∀ R : It → Hp → Prop, (∀ J F' H', Conc X.K β ρ' σ F' H' → Le F F' → WalkD X.K J ds F' → R J H') → tiU X tg iter σ H R) := ⟨fun h => h.run⟩
theorem Yd.conc {K : PySem.W.Frag} {β : Bs} {σ : L2.St} {F F1 H H' : Hp} {ds : List Im} {i : Nat} {v : V} (C : Conc K β ρ σ F1 H) (l : Le F F1) (y : Yd K F ds i H v H') : ∃ d, ds[i]? = some d ∧ Conc K β ρ σ F1 H' ∧ ImOk K F1 H' v d := by
  rcases y with ⟨d, hd, e, y⟩ | ⟨T, a, b, da, db, hd, e2, e3, e4, h1, h2⟩
  · subst e
    exact ⟨_, hd, C, y.mono l⟩
  · subst e2 e4
    exact ⟨_, hd, C.allocU e3, T, a, b, rfl, SqT.of upd_same, h1.mono l, h2.mono l⟩
theorem ei_list {ds : List D} (h : EV X e ρ (.d (.list ds)) ρ1) : EI X tg e ρ (ds.map .one) ρ1 := .mk fun β σ F H C R k =>
  ⟨_, pi_list peU, h β σ F H C _ fun v F1 H1 C1 l1 r1 => by
    obtain ⟨a, xs, ev, hs, hd⟩ := Da.list_ref r1
    subst ev
    refine ⟨a, rfl, ⟨xs, C1.le.sqL hs⟩, k _ F1 H1 C1 l1 ?_⟩
    have w := walk_list (K := X.K) (a := a) (xs := xs)
    rw [hd.length, ← List.length_map (f := Im.one)] at w
    refine w.mono (fun H' l => l.sqL hs) fun i H2 x H3 hi l y => ?_
    obtain ⟨d, q1, q2⟩ := hd.getV y.2
    exact .inl ⟨d, by rw [List.getElem?_map, q1]; rfl, y.1, q2⟩⟩
theorem ei_tup {ds : List D} (h : EV X e ρ (.d (.tuple ds)) ρ1) : EI X tg e ρ (ds.map .one) ρ1 := .mk fun β σ F H C R k =>
  ⟨_, pi_tup peU, h β σ F H C _ fun v F1 H1 C1 l1 r1 => by
    obtain ⟨a, xs, ev, hs, hd⟩ := Da.tup_ref r1
    subst ev
    refine ⟨a, rfl, ⟨xs, C1.le.sqT hs.sqT⟩, k _ F1 H1 C1 l1 ?_⟩
    have w := walk_tup (K := X.K) (a := a) (xs := xs)
    rw [hd.length, ← List.length_map (f := Im.one)] at w
    refine w.mono (fun H' l => l.sqT hs.sqT) fun i H2 x H3 hi l y => ?_
    obtain ⟨d, q1, q2⟩ := hd.getV y.2
    exact .inl ⟨d, by rw [List.getElem?_map, q1]; rfl, y.1, q2⟩⟩
def signs (z : Str) : List D := z.cps.toList.map fun c => .str ⟨#[c]⟩
theorem ei_str {z : Str} (h : EV X e ρ (.d (.str z)) ρ1) : EI X tg e ρ ((signs z).map .one) ρ1 := .mk fun β σ F H C R k =>
  ⟨_, pi_str peU, h β σ F H C _ fun v F1 H1 C1 l1 r1 => ⟨z, Da.str_eq r1, k _ F1 H1 C1 l1 (by
    have w := walk_str (z := z)
    have e : z.cps.size = ((signs z).map Im.one).length := by simp [signs]
    rw [e] at w
    refine w.mono (fun _ _ => trivial) fun i H2 x H3 hi l y => ?_
    obtain ⟨y1, c, y2, y3⟩ := y
    subst y3
    exact .inl ⟨.str ⟨#[c]⟩, by simp [signs, y2], y1, .str _⟩)⟩⟩
def upto (lo : Int) (n : Nat) : List Im := (List.range n).map fun i => .one (.int (lo + (i : Nat)))
theorem upto_length (lo : Int) (n : Nat) : (upto lo n).length = n := by simp [upto]
theorem upto_get {lo : Int} {n i : Nat} (h : i < n) : (upto lo n)[i]? = some (Im.one (.int (lo + (i : Nat)))) := by simp [upto, h]
theorem walk_upto {K : PySem.W.Frag} {lo : Int} {n : Nat} {F : Hp} : WalkD K (Itr lo n) (upto lo n) F := by
  have w := walk_range (lo := lo) (n := n)
  unfold WalkD
  rw [upto_length]
  refine w.mono (fun _ _ => trivial) fun i H2 x H3 hi l y => ?_
  obtain ⟨y1, y2⟩ := y
  subst y2
  exact .inl ⟨_, upto_get hi, y1, .int _⟩
theorem ei_range1 {j : Int} {p : Pos} (hg : Gl X "range") (hm : X.mg "range" = none) (h : EA X [e] ρ [.d (.int j)] ρ1) (h1 : -(2 ^ 62) ≤ j) (h2 : j < 2 ^ 62) (hs : starEach [e] X.env = [(false, eval e X.env)] := by rfl) :
    EI X tg (.Call (.Name "range" p) [e] [] pos) ρ (upto 0 j.toNat) ρ1 := .mk fun β σ F H C R k =>
  ⟨_, pi_range1 hg hm paU hs, h β σ F H C _ fun vs F1 H1 C1 l1 r1 => ⟨j, by
    cases r1 with
    | cons a b =>
      cases b
      rw [Da.int_eq a], h1, h2, k _ F1 H1 C1 l1 walk_upto⟩⟩
theorem ei_range2 {i j : Int} {e' : Expr} {p : Pos} (hg : Gl X "range") (hm : X.mg "range" = none) (h : EA X [e, e'] ρ [.d (.int i), .d (.int j)] ρ1) (h0 : -(2 ^ 62) ≤ i ∧ i < 2 ^ 62 ∧ -(2 ^ 62) ≤ j ∧ j < 2 ^ 62) (hs : starEach [e, e'] X.env = [(false, eval e X.env), (false, eval e' X.env)] := by rfl) (hs2 : starEach [e'] X.env = [(false, eval e' X.env)] := by rfl) :
    EI X tg (.Call (.Name "range" p) [e, e'] [] pos) ρ (upto i (j - i).toNat) ρ1 := .mk fun β σ F H C R k =>
  ⟨_, pi_range2 hg hm paU hs hs2, h β σ F H C _ fun vs F1 H1 C1 l1 r1 => ⟨i, j, by
    cases r1 with
    | cons a b =>
      cases b with
      | cons b c =>
        cases c
        rw [Da.int_eq a, Da.int_eq b], h0, k _ F1 H1 C1 l1 walk_upto⟩⟩
/-- pairs of two rows -/
def zipD (xs ys : List D) : List Im := List.zipWith Im.two xs ys
theorem ei_zipT {e' : Expr} {p tpos : Pos} {elts : List Expr} {kk : Nat} {xs ys : List D} (hg : Gl X "zip") (hm : X.mg "zip" = none) (h : EA X [e, e'] ρ [.d (.tuple xs), .d (.tuple ys)] ρ1) (hs : starEach [e, e'] X.env = (false, eval e X.env) :: starEach [e'] X.env := by rfl) (hpl : (backTo pos (starEach [e'] X.env)).any (·.1) = false := by rfl) :
    EI X (.Tuple elts kk tpos) (.Call (.Name "zip" p) [e, e'] [] pos) ρ (zipD xs ys) ρ1 := .mk fun β σ F H C R k =>
  ⟨_, RZ.pi_zipA hg hm paU hs hpl, h β σ F H C _ fun vs F1 H1 C1 l1 r1 => by
    cases r1 with
    | cons a b =>
      cases b with
      | cons b c =>
        cases c
        obtain ⟨p, us, e1, hs, hd⟩ := Da.tup_ref a
        obtain ⟨q, ws, e2, hs', hd'⟩ := Da.tup_ref b
        subst e1 e2
        refine ⟨p, q, us, ws, rfl, .inr ⟨C1.le.sqT hs.sqT, C1.le.sqT hs'.sqT, k _ F1 H1 C1 l1 ?_⟩⟩
        have hn : (zipD xs ys).length = min us.length ws.length := by
          rw [hd.length, hd'.length]
          simp [zipD]
        refine ⟨fun i H hi l => ?_, fun H l => ?_, fun i H v H' hi l y => ?_⟩
        · have h1 : i < us.length := by omega
          have h2 : i < ws.length := by omega
          exact ⟨us, ws, us[i], ws[i], l.sqT hs.sqT, l.sqT hs'.sqT, by simp [h1], by simp [h2]⟩
        · exact ⟨us, ws, l.sqT hs.sqT, l.sqT hs'.sqT, by omega⟩
        · obtain ⟨T, x, z, q1, q2, q3, q4, q5⟩ := y
          obtain ⟨dx, g1, g2⟩ := hd.getV (q4 us (l.sqT hs.sqT))
          obtain ⟨dz, g3, g4⟩ := hd'.getV (q5 ws (l.sqT hs'.sqT))
          exact .inr ⟨T, x, z, dx, dz, by simp [zipD, List.getElem?_zipWith, g1, g3], q1, q2, q3, g2, g4⟩⟩

/-! ### loops -/
theorem es_for {ds : List Im} (hp : PassesOwn (model X.prog X.w) X.A X.env X.xe) (hc : X.calm = true) (hi : EI X tg iter ρ ds ρ1) (I : Nat → List Sl → Prop) (h0 : I 0 ρ1)
    (hs : ∀ i d ρ', ds[i]? = some d → I i ρ' → ∃ ρ2 js, EG X tg d ρ' ρ2 js ∧ ES X body ρ2 { nx := I (i + 1), rt := N.rt, bk := N.nx, ct := I (i + 1) })
    (hd : ∀ ρ', I ds.length ρ' → N.nx ρ') (hf : ∀ x, foldedSetIterable iter X.env x = pure x := by intro _; rfl) : ES1 X (.For tg iter body [] pos) ρ N := .mk fun β σ F H C =>
  .of (ps_for hp hc piU pgU pssU hf) (hi β σ F H C _ fun J F1 H1 C1 l1 w => by
    have Ch := C1.here
    refine for_it w (fun i σ' H' => ∃ ρ' F', Conc X.K (β.here ρ1 σ F1 H1) ρ' σ' F' H' ∧ I i ρ') ⟨ρ1, F1, Ch, h0⟩ (fun i σ' H' _ ⟨ρ', F', C', _⟩ => C'.base.trans C'.le) (fun i v σ' H' H'' hi ⟨ρ', F', C', q⟩ y => ?_) (fun σ' H' ⟨ρ', F', C', q⟩ => ⟨ρ', F', C1.back C', hd ρ' q⟩)
    obtain ⟨d, e1, C2, da⟩ := y.conc C' C'.base
    obtain ⟨ρ2, js, g, b⟩ := hs i d ρ' e1 q
    refine g _ σ' F' H'' v C2 da _ fun σ3 F3 H3 C3 l3 w3 => ?_
    have q3 := b (β.here ρ1 σ F1 H1) σ3 F3 H3 C3
    refine tssU.le (D := SN.ends X.K (β.here ρ1 σ F1 H1) { nx := I (i + 1), rt := N.rt, bk := N.nx, ct := I (i + 1) }) ⟨fun _ _ z => z, fun _ _ z => ?_, fun _ _ z => ?_, fun _ _ z => z⟩ q3
    · rcases z with ⟨ρ4, σ4, F4, x, C4, d4, h4⟩ | ⟨ρ4, σ4, F4, c, C4, d4, h4⟩
      · exact .inl ⟨ρ4, σ4, F4, x, C1.back C4, d4, h4⟩
      · exact h4.elim
    · obtain ⟨ρ4, F4, C4, h4⟩ := z
      exact ⟨ρ4, F4, C1.back C4, h4⟩)
theorem es_while (hp : PassesOwn (model X.prog X.w) X.A X.env X.xe) (W : Nat → List Sl → Prop) (m0 : Nat) (h0 : W m0 ρ)
    (hs : ∀ m ρ', W m ρ' → ∃ k ρ2, ET X c ρ' k ρ2 ∧ (k = true → ES X body ρ2 { nx := fun ρ3 => ∃ m', m' < m ∧ W m' ρ3, rt := N.rt, bk := N.nx, ct := fun ρ3 => ∃ m', m' < m ∧ W m' ρ3, rn := N.rn }) ∧ (k = false → N.nx ρ2)) : ES1 X (.While c body [] pos) ρ N := .mk fun β σ F H C =>
  .of (ps_while hp ptU pssU) ⟨fun m σ' H' => ∃ ρ' F', Conc X.K β ρ' σ' F' H' ∧ W m ρ', ⟨m0, ρ, F, C, h0⟩, fun m σ' H' ⟨ρ', F', C', q⟩ => by
    obtain ⟨k, ρ2, ht, hb, hn⟩ := hs m ρ' q
    refine ht β σ' F' H' C' _ fun F2 H2 C2 l2 => ?_
    cases k with
    | true =>
      refine iteT ⟨fun σ3 H3 => ∃ ρ3 F3, Conc X.K β ρ3 σ3 F3 H3 ∧ ∃ m', m' < m ∧ W m' ρ3, fun σ3 H3 ⟨ρ3, F3, C3, m', hm, w⟩ => ⟨m', hm, ρ3, F3, C3, w⟩, ?_⟩
      exact (hb rfl β σ' F2 H2 C2).le ⟨fun _ _ z => z, fun _ _ z => z, fun _ _ z => z, fun _ _ z => z⟩
    | false => exact iteF ⟨ρ2, F2, C2, hn rfl⟩⟩
end
end OX
set_option Elab.async false
set_option linter.all false
set_option maxRecDepth 100000
/-! OX4: comprehensions. -/
namespace OX
open PySem L2

def wipeR (ρ : List Sl) : List Nat → List Sl
  | [] => ρ
  | v :: vs => (wipeR ρ vs).set v .no
def dataOr : Option Sl → Sl
  | some (.d x) => .d x
  | _ => .no
/-- behind a block: its own slots as they were ahead -/
def restore (ρ1 ρ : List Sl) : List Nat → List Sl
  | [] => ρ
  | v :: vs => (restore ρ1 ρ vs).set v (dataOr ρ1[v]?)
section
variable {K : PySem.W.Frag} {β : Bs} {ρ ρ1 : List Sl} {σ : L2.St} {F F1 H : Hp}
theorem wipeR_length (ρ : List Sl) : ∀ vs : List Nat, (wipeR ρ vs).length = ρ.length
  | [] => rfl
  | v :: vs => by rw [wipeR, List.length_set, wipeR_length ρ vs]
theorem Conc.wipeS {σ' : L2.St} {i : Nat} {o : Option V} (C : Conc K β ρ σ F H) : Conc K β (ρ.set i .no) (σ.set i o) F H := by
  have C1 := C.forget i
  have key : ∀ {j : Nat} {s : Sl}, (ρ.set i .no)[j]? = some s → i ≠ j ∨ s = .no := fun {j s} e => by
    by_cases z : i = j
    · subst z
      have hi : i < ρ.length := by
        have := (List.getElem?_eq_some_iff.mp e).1
        rwa [List.length_set] at this
      rw [List.getElem?_set_self hi] at e
      exact .inr (Option.some.inj e).symm
    · exact .inl z
  refine ⟨C1.le, C1.base, C1.new, C1.frame, by rw [List.length_set]; exact C1.len, fun j s e => ?_, fun j k b b' c c' l e1 e2 e3 e4 => ?_⟩
  · rcases key e with z | z
    · have q := C1.sl j s e
      rw [List.getElem?_set_ne z]
      exact q
    · subst z
      trivial
  · rcases key e1 with z1 | z1
    · rcases key e2 with z2 | z2
      · rw [List.getElem?_set_ne z1] at e3
        rw [List.getElem?_set_ne z2] at e4
        exact C1.sep j k b b' c c' l e1 e2 e3 e4
      · cases z2
    · cases z1
theorem Conc.wipe (C : Conc K β ρ σ F H) : ∀ vs : List Nat, Conc K β (wipeR ρ vs) (L2.wipe σ vs) F H
  | [] => C
  | v :: vs => (C.wipe vs).wipeS (σ' := σ)
theorem restore_length (ρ1 ρ : List Sl) : ∀ vs : List Nat, (restore ρ1 ρ vs).length = ρ.length
  | [] => rfl
  | v :: vs => by rw [restore, List.length_set, restore_length ρ1 ρ vs]
theorem restore_get (i : Nat) : ∀ vs : List Nat, (restore ρ1 ρ vs)[i]? = if i ∈ vs then (if i < ρ.length then some (dataOr ρ1[i]?) else none) else ρ[i]?
  | [] => by simp [restore]
  | v :: vs => by
    unfold restore
    by_cases z : v = i
    · subst z
      by_cases y : v < ρ.length
      · rw [List.getElem?_set_self (by rw [restore_length]; exact y)]
        simp [y]
      · rw [List.getElem?_eq_none (by rw [List.length_set, restore_length]; omega)]
        simp [y]
    · rw [List.getElem?_set_ne z, restore_get i vs]
      have : (i ∈ v :: vs) ↔ i ∈ vs := by
        simp only [List.mem_cons]
        exact ⟨fun h => h.resolve_left fun e => z e.symm, .inr⟩
      simp only [this]
/-- out of a block -/
theorem Conc.out {vs : List Nat} {β1 : Bs} {H1 : Hp} (C1 : Conc K β1 ρ1 σ F1 H1) (C : Conc K β ρ (L2.wipe σ vs) F H) (l : Le F1 F) : Conc K β (restore ρ1 ρ vs) σ F H := by
  have own : ∀ {i : Nat} {b : Option Nat} {c : OC}, (restore ρ1 ρ vs)[i]? = some (Sl.own b c) → i ∉ vs ∧ ρ[i]? = some (Sl.own b c) := fun {i b c} e => by
    rw [restore_get] at e
    by_cases z : i ∈ vs
    · rw [if_pos z] at e
      split at e
      · unfold dataOr at e
        split at e <;> cases e
      · cases e
    · rw [if_neg z] at e
      exact ⟨z, e⟩
  refine ⟨C.le, C.base, C.new, C.frame, by rw [restore_length, ← C.len, wipe_length], fun i s e => ?_, fun i j b b' c c' p e1 e2 e3 e4 => ?_⟩
  · by_cases z : i ∈ vs
    · rw [restore_get, if_pos z] at e
      split at e
      · have e := Option.some.inj e
        subst e
        unfold dataOr
        split
        · rename_i x hx
          obtain ⟨v, q1, q2⟩ := C1.sl i _ hx
          exact ⟨v, q1, q2.mono l⟩
        · trivial
      · cases e
    · rw [restore_get, if_neg z] at e
      have q := C.sl i s e
      rw [wipe_get, if_neg z] at q
      exact q
  · obtain ⟨n1, q1⟩ := own e1
    obtain ⟨n2, q2⟩ := own e2
    exact C.sep i j b b' c c' p q1 q2 (by rw [wipe_get, if_neg n1]; exact e3) (by rw [wipe_get, if_neg n2]; exact e4)
theorem owned_out {vs : List Nat} {p : Addr} (o : Owned (restore ρ1 ρ vs) σ p) : Owned ρ (L2.wipe σ vs) p := by
  obtain ⟨i, b, c, e1, e2⟩ := o
  rw [restore_get] at e1
  by_cases z : i ∈ vs
  · rw [if_pos z] at e1
    split at e1
    · unfold dataOr at e1
      split at e1 <;> cases e1
    · cases e1
  · rw [if_neg z] at e1
    exact ⟨i, b, c, e1, by rw [wipe_get, if_neg z]; exact e2⟩
theorem wipeR_get (i : Nat) : ∀ vs : List Nat, (wipeR ρ vs)[i]? = if i ∈ vs then (if i < ρ.length then some Sl.no else none) else ρ[i]?
  | [] => by simp [wipeR]
  | v :: vs => by
    unfold wipeR
    by_cases z : v = i
    · subst z
      by_cases y : v < ρ.length
      · rw [List.getElem?_set_self (by rw [wipeR_length]; exact y)]
        simp [y]
      · rw [List.getElem?_eq_none (by rw [List.length_set, wipeR_length]; omega)]
        simp [y]
    · rw [List.getElem?_set_ne z, wipeR_get i vs]
      have : (i ∈ v :: vs) ↔ i ∈ vs := by
        simp only [List.mem_cons]
        exact ⟨fun h => h.resolve_left fun e => z e.symm, .inr⟩
      simp only [this]
theorem owned_wipe {vs : List Nat} {σ' : L2.St} {p : Addr} (o : Owned (wipeR ρ vs) (L2.wipe σ' vs) p) : Owned ρ σ' p := by
  obtain ⟨i, b, c, e1, e2⟩ := o
  rw [wipeR_get] at e1
  by_cases z : i ∈ vs
  · rw [if_pos z] at e1
    split at e1 <;> cases e1
  · rw [if_neg z] at e1
    rw [wipe_get, if_neg z] at e2
    exact ⟨i, b, c, e1, e2⟩
/-- an object outside everything changes -/
theorem Conc.mutU {p : Addr} {o : HO} (C : Conc K β ρ σ F H) (fp : F p = none) (hb : β.H0 p = none ∨ β.bw p) (no : ¬ Owned ρ σ p) : Conc K β ρ σ F (upd H p o) := by
  refine ⟨C.le.mut fp, C.base, C.new, fun a u e0 e1 n => ?_, C.len, fun i s e => ?_, C.sep⟩
  · have z : a ≠ p := fun z => by
      subst z
      rcases hb with y | y
      · rw [e1] at y
        cases y
      · exact n y
    rw [upd_ne z]
    exact C.frame a u e0 e1 n
  · have q := C.sl i s e
    cases s with
    | no => trivial
    | d x => exact q
    | own b c =>
      obtain ⟨l, e1, e2, e3, e4, e5⟩ := q
      refine ⟨l, e1, e2, e3.mono (.refl F) (upd_ne fun z => no ?_), e4, e5⟩
      subst z
      exact ⟨i, b, c, e, e1⟩
theorem Conc.room (C : Conc K β ρ σ F H) {p : Addr} (hp : H p = none) : β.H0 p = none ∨ β.bw p := by
  cases e0 : β.H0 p with
  | none => exact .inl rfl
  | some u =>
    refine .inr (Classical.byContradiction fun n => ?_)
    rw [C.frame p u (C.base.none (C.le.none hp)) e0 n] at hp
    cases hp
end

section
variable {X : Cx} {ρ ρ1 ρ2 ρ3 : List Sl} {pos : Pos} {tg iter elt : Expr} {ifs : List Expr} {scope : Scope} {own : List (Str × Nat)}
/-- a block's context -/
abbrev blkX (X : Cx) (scope : Scope) (s : Shared) (H : Hp) (C : Addr) (cl : List (Str × Addr)) (fp : List Addr) : Cx := X.blk s H scope (compEnvC scope cl C X.env) fp
structure ETs (X : Cx) (ifs : List Expr) (ρ : List Sl) (b : Bool) (ρ' : List Sl) : Prop where
  run :
    ∀ (β : Bs) (σ : L2.St) (F H : Hp), Conc X.K β ρ σ F H → ∀ Q : Bool → Hp → Prop, (∀ F' H', Conc X.K β ρ' σ F' H' → Le F F' → Q b H') → tsU' X ifs σ H Q
instance {X : Cx} {ifs : List Expr} {ρ : List Sl} {b : Bool} {ρ' : List Sl} : CoeFun (ETs X ifs ρ b ρ') (fun _ => ∀ (β : Bs) (σ : L2.St) (F H : Hp), Conc X.K β ρ σ F H → ∀ Q : Bool → Hp → Prop, (∀ F' H', Conc X.K β ρ' σ F' H' → Le F F' → Q b H') → tsU' X ifs σ H Q) := ⟨fun h => h.run⟩
theorem ets_nil : ETs X [] ρ true ρ := .mk fun β σ F H C Q k => ⟨_, pts_nil, k F H C (.refl F)⟩
theorem ets_one {c : Expr} {b : Bool} (h : ET X c ρ b ρ1) : ETs X [c] ρ b ρ1 := .mk fun β σ F H C Q k => ⟨_, pts_one ptU, h β σ F H C Q k⟩
def BG (X : Cx) (scope : Scope) (tg : Expr) (d : Im) (ρ ρ' : List Sl) (js : List Nat) : Prop := ∀ s H C cl fp, EG (blkX X scope s H C cl fp) tg d ρ ρ' js
def BT (X : Cx) (scope : Scope) (ifs : List Expr) (ρ : List Sl) (b : Bool) (ρ' : List Sl) : Prop := ∀ s H C cl fp, ETs (blkX X scope s H C cl fp) ifs ρ b ρ'
def BV (X : Cx) (scope : Scope) (e : Expr) (ρ : List Sl) (r : Rs) (ρ' : List Sl) : Prop := ∀ s H C cl fp, EV (blkX X scope s H C cl fp) e ρ r ρ'
def bgU (X : Cx) (scope : Scope) (tg : Expr) : TG := fun v σ H Q => ∀ s H0 C cl fp, tgU (blkX X scope s H0 C cl fp) tg v σ H Q
def btU (X : Cx) (scope : Scope) (ifs : List Expr) : TT := fun σ H Q => ∀ s H0 C cl fp, tsU' (blkX X scope s H0 C cl fp) ifs σ H Q
def bvU (X : Cx) (scope : Scope) (e : Expr) : TE := fun σ H Q => ∀ s H0 C cl fp, tU (blkX X scope s H0 C cl fp) e σ H Q
theorem lc_run {ds : List Im} {out : List D} {ρ' : List Sl} {vs : List Nat} (hi : EI X tg iter ρ ds ρ1) (I : Nat → List Sl → List D → Prop) (h0 : I 0 (wipeR ρ1 vs) [])
    (hs : ∀ i d ρb acc, ds[i]? = some d → I i ρb acc → ∃ ρ2 js, BG X scope tg d ρb ρ2 js ∧ (∀ j ∈ js, j ∈ vs) ∧ ∃ k ρ3, BT X scope ifs ρ2 k ρ3 ∧
      (k = true → ∃ d' ρ4, BV X scope elt ρ3 (.d d') ρ4 ∧ I (i + 1) (wipeR ρ4 vs) (acc ++ [d'])) ∧ (k = false → I (i + 1) (wipeR ρ3 vs) acc))
    (hd : ∀ ρb acc, I ds.length ρb acc → ρ' = restore ρ1 ρb vs ∧ acc = out) (hl : ds.length < sizeLine) :
    ∀ (β : Bs) (σ : L2.St) (F H : Hp), Conc X.K β ρ σ F H → ∀ Q : VK, (∀ v F' H', Conc X.K β ρ' σ F' H' → Le F F' → RsOk X.K β ρ' σ F' H' v (.new (.lst out)) → Q v H') →
      tLc (tiU X tg iter) (bgU X scope tg) (btU X scope ifs) (bvU X scope elt) vs σ H Q := by
  intro β σ F H C Q k
  refine hi β σ F H C _ fun J F1 H1 C1 l1 w => fun Dd hD => ?_
  have fD : F1 Dd = none := C1.le.none hD
  have bD := C1.room hD
  refine lc_it w (fun i H' => ∃ ρb F' xs acc, Conc X.K β ρb (L2.wipe σ vs) F' H' ∧ Le F1 F' ∧ F' Dd = none ∧ ¬ Owned ρb (L2.wipe σ vs) Dd ∧ H' Dd = some (.lst xs) ∧ DaAll X.K F' xs acc ∧ acc.length ≤ i ∧ I i ρb acc) ?_ (fun i H' _ ⟨ρb, F', xs, acc, C', l', _⟩ => l'.trans C'.le) ?_ ?_
  · have CA := C1.allocU (o := .lst []) hD
    exact ⟨wipeR ρ1 vs, F1, [], [], CA.wipe vs, .refl F1, fD, fun o => absurd hD (C1.ownF (owned_wipe o)).2.2, upd_same, .nil, Nat.le_refl _, h0⟩
  · intro i v H' H'' hi' ⟨ρb, F', xs, acc, C', l', f', no', hd', da', hlen, inv⟩ y
    obtain ⟨d, e1, C2, dd⟩ := y.conc C'.here l'
    obtain ⟨ρ2, js, g, hjs, kk, ρ3, t, hT, hF⟩ := hs i d ρb acc e1 inv
    have stay : ∀ {ρ5 : List Sl} {σ5 : L2.St} {F5 H5 : Hp}, Conc X.K (β.here ρb (L2.wipe σ vs) F' H') ρ5 σ5 F5 H5 → H5 Dd = some (.lst xs) ∧ F5 Dd = none ∧ ¬ Owned ρ5 σ5 Dd := fun C5 => by
      obtain ⟨q1, q2⟩ := C5.stays hd' f' no'
      refine ⟨q1, q2, fun o => ?_⟩
      rcases (C5.ownF o).2.1 with z | z
      · have z : H' Dd = none := z
        rw [hd'] at z
        cases z
      · exact no' z
    intro s H0 Ca cl fp
    refine g s H0 Ca cl fp _ (L2.wipe σ vs) F' H'' v C2 dd _ fun σ3 F3 H3 C3 l3 w3 => ?_
    have wq : L2.wipe σ3 vs = L2.wipe σ vs := (w3 vs hjs).trans (by
      refine List.ext_getElem? fun j => ?_
      rw [wipe_get, wipe_get, wipe_length]
      by_cases z : j ∈ vs <;> simp [z])
    refine ⟨wq, fun s H0 Ca cl fp => ?_⟩
    refine t s H0 Ca cl fp _ σ3 F3 H3 C3 _ fun F4 H4 C4 l4 => ?_
    cases kk with
    | true =>
      obtain ⟨d', ρ4, ev, inv'⟩ := hT rfl
      refine iteT fun s H0 Ca cl fp => ?_
      refine ev s H0 Ca cl fp _ σ3 F4 H4 C4 _ fun u F5 H5 C5 l5 r5 => ?_
      obtain ⟨q1, q2, q3⟩ := stay C5
      have C6 := (C'.back C5).mutU (o := .lst (xs ++ [u])) q2 bD q3
      have da5 := da'.mono ((l3.trans l4).trans l5)
      refine ⟨xs, q1, by rw [da5.length]; omega, wipeR ρ4 vs, F5, xs ++ [u], acc ++ [d'], ?_, l'.trans ((l3.trans l4).trans l5), q2, ?_, upd_same, da5.append (DaAll.one r5), by rw [List.length_append, List.length_singleton]; omega, inv'⟩
      · rw [← wq]
        exact C6.wipe vs
      · rw [← wq]
        exact fun o => q3 (owned_wipe o)
    | false =>
      refine iteF ?_
      obtain ⟨q1, q2, q3⟩ := stay C4
      refine ⟨wipeR ρ3 vs, F4, xs, acc, ?_, l'.trans (l3.trans l4), q2, ?_, q1, da'.mono (l3.trans l4), by omega, hF rfl⟩
      · rw [← wq]
        exact (C'.back C4).wipe vs
      · rw [← wq]
        exact fun o => q3 (owned_wipe o)
  · intro H' ⟨ρb, F', xs, acc, C', l', f', no', hd', da', hlen, inv⟩
    obtain ⟨e1, e2⟩ := hd ρb acc inv
    subst e1 e2
    exact k _ F' H' (C1.out C' l') (l1.trans l') ⟨Dd, rfl, f', ⟨xs, hd', da'⟩, bD, fun o => no' (owned_out o)⟩
theorem lc_pg {X : Cx} {scope : Scope} {tg : Expr} (s : Shared) (H : Hp) (C : Addr) (cl : List (Str × Addr)) (fp : List Addr) : PG (blkX X scope s H C cl fp) tg (bgU X scope tg) := ⟨fun pins s' σ H' v u Q I r h => pgU.run pins s' σ H' v u Q I r (h s H C cl fp)⟩
theorem lc_pt {X : Cx} {scope : Scope} {ifs : List Expr} (s : Shared) (H : Hp) (C : Addr) (cl : List (Str × Addr)) (fp : List Addr) : PTs (blkX X scope s H C cl fp) ifs (btU X scope ifs) := ⟨fun pins s' σ H' Q I h => ptsU.run pins s' σ H' Q I (h s H C cl fp)⟩
theorem lc_pe {X : Cx} {scope : Scope} {e : Expr} (s : Shared) (H : Hp) (C : Addr) (cl : List (Str × Addr)) (fp : List Addr) : PE (blkX X scope s H C cl fp) e (bvU X scope e) := ⟨fun pins s' σ H' Q I h => peU.run pins s' σ H' Q I (h s H C cl fp)⟩
/-- a comprehension's symbols: what it makes of ρ -/
def LC (X : Cx) (scope : Scope) (own : List (Str × Nat)) (tg iter elt : Expr) (ifs : List Expr) (ρ : List Sl) (out : List D) (ρ' : List Sl) : Prop :=
  ∀ (β : Bs) (σ : L2.St) (F H : Hp), Conc X.K β ρ σ F H → ∀ Q : VK, (∀ v F' H', Conc X.K β ρ' σ F' H' → Le F F' → RsOk X.K β ρ' σ F' H' v (.new (.lst out)) → Q v H') →
      tLc (tiU X tg iter) (bgU X scope tg) (btU X scope ifs) (bvU X scope elt) (own.map (·.2)) σ H Q
theorem ev_lc {out : List D} {ρ' : List Sl} (hc : X.calm = true) (hN : X.N.Nodup) (ok : BlkOk X.N X.env.scope scope own) (h : LC X scope own tg iter elt ifs ρ out ρ') (hs : ∀ x, foldedSetIterable iter X.env x = pure x := by intro _; rfl) :
    EV X (.ListComp elt [⟨tg, iter, ifs, 0⟩] scope pos) ρ (.new (.lst out)) ρ' := .mk fun β σ F H C Q k => ⟨_, pe_lc hc hN piU ok lc_pg lc_pt lc_pe hs, h β σ F H C Q k⟩
theorem es_setLc {out : List D} {ρ' : List Sl} {i : Nat} {y : Str} {py spos : Pos} {N : SN} (hc : X.calm = true) (hN : X.N.Nodup) (hy : X.N[i]? = some y) (hyl : X.env.scope.names.lookup y = some .local) (hsw : swapsWith (.ListComp elt [⟨tg, iter, ifs, 0⟩] scope pos) (some (.Name y py)) spos.line X.env = pure true)
    (ok : BlkOk X.N X.env.scope scope own) (h : LC X scope own tg iter elt ifs ρ out ρ') (hn : N.nx (ρ'.set i (.own none (.lst out)))) (hs : ∀ x, foldedSetIterable iter X.env x = pure x := by intro _; rfl) : ES1 X (.Assign [.Name y py] (.ListComp elt [⟨tg, iter, ifs, 0⟩] scope pos) spos) ρ N := .mk fun β σ F H C =>
  .of (ps_setLc hc hN hy hyl hsw piU ok lc_pg lc_pt lc_pe hs) (h β σ F H C _ fun v F1 H1 C1 l1 r1 => ⟨_, F1, OCok.fresh_set C1 r1 i, hn⟩)
/-- the pure one: each item makes one -/
theorem lc_map {α : Type} {ds : List Im} (xs : List α) (enc : α → Im) (g : α → D) (hi : EI X tg iter ρ ds ρ1) (eds : ds = xs.map enc)
    (hs : ∀ x ∈ xs, ∃ ρ2 js, BG X scope tg (enc x) (wipeR ρ1 (own.map (·.2))) ρ2 js ∧ (∀ j ∈ js, j ∈ own.map (·.2)) ∧ BV X scope elt ρ2 (.d (g x)) ρ2 ∧ wipeR ρ2 (own.map (·.2)) = wipeR ρ1 (own.map (·.2)))
    (hr : restore ρ1 (wipeR ρ1 (own.map (·.2))) (own.map (·.2)) = ρ1) (hl : xs.length < sizeLine) : LC X scope own tg iter elt [] ρ (xs.map g) ρ1 := by
  refine lc_run hi (fun i ρb acc => ρb = wipeR ρ1 (own.map (·.2)) ∧ acc = (xs.take i).map g) ⟨rfl, by simp⟩ (fun i d ρb acc e ⟨e1, e2⟩ => ?_) (fun ρb acc ⟨e1, e2⟩ => ?_) (by rw [eds, List.length_map]; exact hl)
  · subst e1 e2 eds
    rw [List.getElem?_map] at e
    obtain ⟨x, hx, rfl⟩ := Option.map_eq_some_iff.mp e
    obtain ⟨ρ2, js, h1, h2, h3, h4⟩ := hs x (List.mem_of_getElem? hx)
    refine ⟨ρ2, js, h1, h2, true, ρ2, fun s H C cl fp => ets_nil, fun _ => ⟨g x, ρ2, h3, h4, ?_⟩, fun z => nomatch z⟩
    rw [List.take_add_one, hx, List.map_append]
    rfl
  · subst e1 e2 eds
    exact ⟨hr.symm, by rw [List.length_map, List.take_length]⟩
/-- .. with a test -/
theorem lc_filter {α : Type} {ds : List Im} (xs : List α) (enc : α → Im) (g : α → D) (p : α → Bool) (hi : EI X tg iter ρ ds ρ1) (eds : ds = xs.map enc)
    (hs : ∀ x ∈ xs, ∃ ρ2 js, BG X scope tg (enc x) (wipeR ρ1 (own.map (·.2))) ρ2 js ∧ (∀ j ∈ js, j ∈ own.map (·.2)) ∧ BT X scope ifs ρ2 (p x) ρ2 ∧ (p x = true → BV X scope elt ρ2 (.d (g x)) ρ2) ∧ wipeR ρ2 (own.map (·.2)) = wipeR ρ1 (own.map (·.2)))
    (hr : restore ρ1 (wipeR ρ1 (own.map (·.2))) (own.map (·.2)) = ρ1) (hl : xs.length < sizeLine) : LC X scope own tg iter elt ifs ρ ((xs.filter p).map g) ρ1 := by
  refine lc_run hi (fun i ρb acc => ρb = wipeR ρ1 (own.map (·.2)) ∧ acc = ((xs.take i).filter p).map g) ⟨rfl, by simp⟩ (fun i d ρb acc e ⟨e1, e2⟩ => ?_) (fun ρb acc ⟨e1, e2⟩ => ?_) (by rw [eds, List.length_map]; exact hl)
  · subst e1 e2 eds
    rw [List.getElem?_map] at e
    obtain ⟨x, hx, rfl⟩ := Option.map_eq_some_iff.mp e
    obtain ⟨ρ2, js, h1, h2, h3, h4, h5⟩ := hs x (List.mem_of_getElem? hx)
    refine ⟨ρ2, js, h1, h2, p x, ρ2, h3, fun hp => ⟨g x, ρ2, h4 hp, h5, ?_⟩, fun hp => ⟨h5, ?_⟩⟩
    · rw [List.take_add_one, hx, List.filter_append, List.map_append, Option.toList_some]
      simp [hp]
    · rw [List.take_add_one, hx, List.filter_append, List.map_append, Option.toList_some]
      simp [hp]
  · subst e1 e2 eds
    exact ⟨hr.symm, by rw [List.length_map, List.take_length]⟩
end
end OX
set_option Elab.async false
set_option linter.all false
set_option maxRecDepth 100000
set_option maxHeartbeats 4000000
/-! OXset: len(set(a list of ints or of texts)), whatever is twice in it. -/
namespace OX
open PySem L2 PyProof.Rows

/-- what is met, each once, in the order of the first meeting -/
def kin (acc : List Key) (k : Key) : Bool := acc.any fun x => decide (x = k)
theorem kin_iff {acc : List Key} {k : Key} : kin acc k = true ↔ k ∈ acc := by
  unfold kin
  rw [List.any_eq_true]
  exact ⟨fun ⟨x, h, e⟩ => (of_decide_eq_true e) ▸ h, fun h => ⟨k, h, decide_eq_true rfl⟩⟩
theorem kin_snoc (acc : List Key) (k k' : Key) : kin (acc ++ [k]) k' = (kin acc k' || decide (k' = k)) := by
  unfold kin
  rw [List.any_append]
  congr 1
  simp only [List.any_cons, List.any_nil, Bool.or_false]
  exact decide_eq_decide.mpr ⟨Eq.symm, Eq.symm⟩
def metStep (acc : List Key) (k : Key) : List Key := if kin acc k then acc else acc ++ [k]
theorem setOf_is {prog : Program} {w : World} {K : Type} [DecidableEq K] {knd : KeyKind prog w K} {h : Heap} {a : Addr} {S S' : K → Bool} {n n' : Nat} (hS : h.SetOf knd a S n) (e : ∀ k, S k = S' k) (en : n = n') : h.SetOf knd a S' n' := by
  obtain rfl : S = S' := funext e
  subst en
  exact hS
def met (ks : List Key) : List Key := ks.foldl metStep []
theorem met_snoc (ks : List Key) (k : Key) : met (ks ++ [k]) = metStep (met ks) k := by
  unfold met
  rw [List.foldl_append]
  rfl
theorem metStep_len (acc : List Key) (k : Key) : (metStep acc k).length ≤ acc.length + 1 := by
  unfold metStep
  split
  · omega
  · simp
theorem met_len (ks : List Key) : (met ks).length ≤ ks.length := by
  have h : ∀ (l : List Key) (acc : List Key), (l.foldl metStep acc).length ≤ acc.length + l.length := by
    intro l
    induction l with
    | nil => intro acc; simp
    | cons a r ih =>
      intro acc
      rw [List.foldl_cons, List.length_cons]
      have := ih (metStep acc a)
      have := metStep_len acc a
      omega
  have := h ks []
  simpa [met] using this
section
variable {prog : Program} {w : World} {A : Around} {R : Result → Shared → Prop} {I : Addr} {fp wr : List Addr} {G : Array GenState → Array GenState → Prop} {n : Nat} {P : Nat → Value → Prop} {St : Nat → Shared → Prop}
theorem set_loop (W : WalksS prog w A.in1 I fp wr G n P St) (S : Addr) (hSf : S ∉ fp) (ks : List Key) (hn : ks.length = n) (hb : n + 1 < scanBound)
    (hval : ∀ i v, P i v → ∃ k, ks[i]? = some k ∧ (mixKind prog w).is k v = true ∧ v.scannable = true) :
    ∀ (k i : Nat) (s : Shared), n - i = k → i ≤ n → St i s → s.heap.SetOf (mixKind prog w) S (fun k' => kin (met (ks.take i)) k') (met (ks.take i)).length →
      (∀ s', Moved (S :: wr) G s s' → s'.heap.SetOf (mixKind prog w) S (fun k' => kin (met ks) k') (met ks).length → R (.ok (.ret .none)) s') →
      codeAny (model prog w) A (.builtin "set.update.loop" ⟨[.ref S, .ref I], []⟩) R s := by
  have hSw : S ∉ wr := fun h => hSf (W.sub _ h)
  have hsub : ∀ b ∈ wr, b ∈ S :: wr := fun b hb => List.mem_cons_of_mem _ hb
  intro k
  induction k with
  | zero =>
    intro i s hk hi hst hS hR
    obtain rfl : i = n := by omega
    rw [← hn, List.take_length] at hS
    refine codeAny_builtin PyProof.Rows.F.entry_set_update_loop ?_
    rw [Around.under_plainId PyProof.Rows.F.plain_set_update_loop _]
    show wpAny _ A.in1 (pyNext (.ref I) >>= _) _ _ s
    refine wpAny_bind (W.done s _ _ hst fun s' hm => ?_)
    show wpAny _ A.in1 (ret Value.none) _ _ s'
    obtain ⟨o, es, ep, t, ho, rest⟩ := hS
    exact wpAny_pure (hR s' (hm.mono hsub) ⟨o, es, ep, t, hm.heap S _ hSw ho, rest⟩)
  | succ k ih =>
    intro i s hk hi hst hS hR
    have hlt : i < n := by omega
    refine codeAny_builtin PyProof.Rows.F.entry_set_update_loop ?_
    rw [Around.under_plainId PyProof.Rows.F.plain_set_update_loop _]
    show wpAny _ A.in1 (pyNext (.ref I) >>= _) _ _ s
    refine wpAny_bind (W.item i s _ _ hlt hst fun v s' hP hst' hm => ?_)
    obtain ⟨key, hkey, his, hsc⟩ := hval i v hP
    have hS' : s'.heap.SetOf (mixKind prog w) S (fun k' => kin (met (ks.take i)) k') (met (ks.take i)).length := by
      obtain ⟨o, es, ep, tb, ho, rest⟩ := hS
      exact ⟨o, es, ep, tb, hm.heap S _ hSw ho, rest⟩
    show wpAny _ A.in1 (holding [v] (setAdd S v) >>= _) _ _ s'
    refine wpAny_bind (wpAny_holding ?_)
    unfold setAdd
    refine wpAny_holding ?_
    refine wpAny_bind ((mixKind prog w).pyHash (k := key) his ?_)
    have hroom : (met (ks.take i)).length + 1 < scanBound := by
      have := met_len (ks.take i)
      have : (ks.take i).length ≤ i := by rw [List.length_take]; omega
      omega
    refine wpAny_setAddHashed_of (knd := mixKind prog w) (s := { s' with toks := s'.toks + 1 }) his hsc hS' hroom fun h' hsb hS2 => ?_
    have etk : ks.take (i + 1) = ks.take i ++ [key] := by rw [List.take_add_one, hkey]; rfl
    have hSi : h'.SetOf (mixKind prog w) S (fun k' => kin (met (ks.take (i + 1))) k') (met (ks.take (i + 1))).length := by
      rw [etk, met_snoc]
      unfold metStep
      refine setOf_is hS2 (fun k' => ?_) ?_
      · cases z : kin (met (ks.take i)) key with
        | true =>
          rw [if_pos rfl]
          by_cases y : k' = key
          · subst y
            rw [z]
            rfl
          · rw [decide_eq_false y, Bool.or_false]
        | false =>
          rw [if_neg Bool.false_ne_true, kin_snoc]
      · cases z : kin (met (ks.take i)) key with
        | true => rfl
        | false =>
          simp only [Bool.false_eq_true, if_false]
          rw [List.length_append]
          rfl
    refine wpAny_pure ⟨plainId_quiet PyProof.Rows.F.plain_set_update_loop _, ih (i + 1) _ (by omega) hlt (W.frame _ s' _ _ hst' (Nat.le_succ _) fun b hb o e => ?_) hSi fun s'' hm'' hS'' => ?_⟩
    · rw [hsb.2 b (fun h : b = S => hSf (by rw [← h]; exact hb))]; exact e
    · refine hR s'' (Moved.trans W.gtrans ((hm.mono hsub).then_heap (Nat.le_succ _) fun b o hb e => ?_) hm'') hS''
      rw [hsb.2 b (fun h : b = S => hb (by rw [h]; exact List.mem_cons_self))]; exact e
end
theorem rel_scan {x : Key} {u : Value} (h : keyIs x u = true) : u.scannable = true := by
  rcases keyIs_shape h with ⟨i, t, rfl, rfl⟩ | ⟨i, t, rfl, rfl⟩ <;> rfl
section
variable {prog : Program} {w : World} {A : Around} {E : Value → Shared → Prop} {s : Shared}
set_option maxHeartbeats 3200000 in
theorem set_of_list {l : Addr} {items : Array Value} {ks : List Key} {Q : Value → Shared → Prop}
    (hh : A.handled = none) (hl : s.heap.IsList l items) (hi : Paired (fun k v => keyIs k v = true) ks items.toList) (hb : items.size + 1 < scanBound)
    (h : ∀ (h' : Heap) (tk : Nat), h'.SetOf (mixKind prog w) s.heap.objs.size (fun k' => kin (met ks) k') (met ks).length →
      (∀ b o, b < s.heap.objs.size → s.heap.get? b = some o → h'.get? b = some o) → Q (.ref s.heap.objs.size) { s with heap := h', toks := tk }) :
    wpAny (model prog w) A (call (.type "set") [.ref l]) Q E s := by
  obtain ⟨c, tl, hmro⟩ := PySem.F.called_set.mro
  have hmade := PySem.F.called_set.made
  have hsub := PySem.F.called_set.sub
  refine wpAny_call (codeAny_of_tree ?_)
  show wpAny _ _ (callAny (.type "set") _) _ _ _
  refine wpAny_pure ⟨Code.quiet_builtin _ (by decide +kernel), codeAny_builtin PySem.F.entry_type_call ?_⟩
  rw [Around.under_plain (weight_type_call_type "set" [.ref l] []) rfl]
  have h1 := PySem.F.called_set.notType
  have h2 := PySem.F.called_set.canCreate
  have hct := PySem.F.typeCall_set_1 (.ref l)
  repeat (any_goals (first | assumption | wp_step))
  let N : Addr := s.heap.objs.size
  let o0 : Bool → Obj := fun led => { cls := .type "set", dict := none, data := .set #[] 0 (.fresh 0 0 led) }
  refine codeAny_mono (code_set_new_1 (.ref l) (E := E) (Q₁ := fun obj s₁ => ∃ led : Bool, obj = .ref N ∧ s₁ = { s with heap := s.heap.push (o0 led) }) fun led => ⟨led, rfl, rfl⟩) fun r s₁ hr => ?_
  cases r with
  | error e => exact hr
  | ok fl =>
    cases fl with
    | ret obj =>
      obtain ⟨led, rfl, rfl⟩ := hr
      have hS : (s.heap.push (o0 led)).get? N = some (o0 led) := Heap.get?_push_size _ rfl
      have hT : Shared.TypeIs { s with heap := s.heap.push (o0 led) } (.ref N) "set" := ⟨_, hS, rfl⟩
      have hli := PySem.F.called_set.init.lookup
      have hbi := PySem.F.called_set.init.bind (.ref N)
      repeat (any_goals (first | assumption | wp_step))
      refine codeAny_mono (codeAny_call_builtin (R := wants (fun r s₂ => r = .none ∧ ∃ h' tk, s₂ = { s with heap := h', toks := tk } ∧
          h'.SetOf (mixKind prog w) N (fun k' => kin (met ks) k') (met ks).length ∧
          (∀ b o, b < s.heap.objs.size → s.heap.get? b = some o → h'.get? b = some o)) E) PySem.F.called_set.init.plain PySem.F.entry_set_init (check_set_init_1 hT ?_)) fun r₂ s₂ hr₂ => ?_
      · obtain ⟨⟨ocls, odict, odata, oslots⟩, hol, hcl, nl, hdl⟩ := hl
        simp only at hcl hdl
        subst hcl; subst hdl
        have hol' : (s.heap.push (o0 led)).get? l = some { cls := .type "list", dict := odict, data := .seq items nl, slots := oslots } := Heap.get?_push_of_some _ hol
        have hsls := PySem.F.sub_list_set
        have hslf := PySem.F.sub_list_frozenset
        have hne : (Value.type "list" == Value.type "dict") = false := by decide
        have hl1 : (s.heap.push (o0 led)).IsList l items := ⟨_, hol', rfl, nl, rfl⟩
        unfold Builtin.«set.__init__» noKeywords Builtin.Frozenset.updateFrom
        generalize hPI : pyIter = PI
        wp_walk
        subst hPI
        refine wpAny_pyIter_list hl1 ?_
        refine wpAny_bind (wpAny_runValue ?_)
        have hlS : l < N := Heap.lt_size hol
        have hh3 : A.in1.in1.in1.handled = none := by simp [hh]
        have hneI : l ≠ (s.heap.push (o0 led)).objs.size := by
          rw [Heap.size_push]; exact Nat.ne_of_lt (Nat.lt_succ_of_lt hlS)
        have hSf : N ∉ [(s.heap.push (o0 led)).objs.size, l] := by
          rw [Heap.size_push]; simp only [List.mem_cons, List.mem_singleton, List.not_mem_nil, or_false, not_or]
          exact ⟨Nat.ne_of_lt (Nat.lt_succ_self _), Nat.ne_of_gt hlS⟩
        have hsz : ks.length = items.size := by rw [hi.length, Array.length_toList]
        have hval : ∀ (i : Nat) (v : Value), items[i]? = some v → ∃ k, ks[i]? = some k ∧ (mixKind prog w).is k v = true ∧ v.scannable = true := fun i v hv => by
          have hv' : items.toList[i]? = some v := by rw [Array.getElem?_toList]; exact hv
          have key : ∀ {ks : List Key} {vs : List Value} {i : Nat} {v : Value}, Paired (fun k v => keyIs k v = true) ks vs → vs[i]? = some v → ∃ k, ks[i]? = some k ∧ keyIs k v = true := by
            intro ks vs i v p
            induction p generalizing i with
            | nil => intro e; simp at e
            | cons r t ih =>
              intro e
              cases i with
              | zero => simp at e; subst e; exact ⟨_, rfl, r⟩
              | succ i => obtain ⟨k, q1, q2⟩ := ih (i := i) (by simpa using e); exact ⟨k, by simpa using q1, q2⟩
          obtain ⟨k, q1, q2⟩ := key hi hv'
          exact ⟨k, q1, q2, rel_scan q2⟩
        refine set_loop ((Walks.list hh3 _ l hneI items).toS) N hSf ks hsz hb hval (items.size - 0) 0 _ (by omega) (Nat.zero_le _)
          ⟨⟨_, Heap.get?_push_size _ rfl, rfl, rfl⟩, (hl1.push _)⟩ ?hS0 ?hR
        case hS0 =>
          have hget : ((s.heap.push (o0 led)).push { cls := .type "list_iterator", data := .fields #[.ref l, .int 0 0] }).get? N = some (o0 led) := Heap.get?_push_of_some _ hS
          exact ⟨o0 led, #[], 0, _, hget, ⟨rfl, rfl, rfl⟩, rfl, fun e he => by simp at he, fun k => by simp [kin, met], by decide, by rfl, rfl⟩
        case hR =>
          intro s' hm hS'
          obtain ⟨h', g', d', tk', os'⟩ := s'
          have eg : g' = s.gens := hm.gens
          have ed : d' = s.drawn := hm.drawn
          have eo : os' = s.os := hm.os
          subst eg; subst ed; subst eo
          show wpAny _ _ _ _ _ _
          refine wpAny_pure ?_
          show wpAny _ _ (ret Value.none) _ _ _
          refine wpAny_pure ⟨rfl, h', tk', rfl, hS', fun b o hb e => ?_⟩
          have hb1 : b ≠ N := Nat.ne_of_lt hb
          have hb2 : b ≠ (s.heap.push (o0 led)).objs.size := by
            rw [Heap.size_push]; exact Nat.ne_of_lt (Nat.lt_succ_of_lt hb)
          exact hm.heap b o (by simp only [List.mem_cons, List.mem_singleton, List.not_mem_nil, or_false, not_or]; exact ⟨hb1, hb2⟩) (Heap.get?_push_of_some _ (Heap.get?_push_of_some _ e))
      · cases r₂ with
        | error e => exact hr₂
        | ok fl₂ =>
          cases fl₂ with
          | ret r =>
            obtain ⟨rfl, h', tk, rfl, hS', hk'⟩ := hr₂
            repeat (any_goals (first | assumption | wp_step))
            exact h _ _ hS' hk'
          | _ => exact hr₂.elim
    | _ => exact hr.elim
end
/-- len(set(a list of ints and texts)) -/
def tLenSetM (K : PySem.W.Frag) (ta : TE) : TE := fun σ H Q => ta σ H fun x H1 => ∃ (l : Addr) (ks : List Key), x = .ref l ∧ SqL K H1 l (ks.map kV) ∧ ks.length ≤ 4000 ∧ Q (.int (met ks).length) H1
theorem keys_vals : ∀ {ks : List Key} {us : List Value}, Vals (ks.map kV) us → Paired (fun k v => keyIs k v = true) ks us
  | [], _, .nil => .nil
  | k :: ks, _, .cons r t => by
    refine .cons ?_ (keys_vals t)
    cases k with
    | inl i => obtain ⟨t, rfl⟩ := r; exact keyIs_int i t
    | inr x => obtain ⟨t, rfl⟩ := r; exact keyIs_str x t
theorem pe_lenSetM {X : Cx} {a : Expr} {ta : TE} {p p2 q pos : Pos} (hc : X.calm = true) (hg : Gl X "len") (hm : X.mg "len" = none) (hg2 : Gl X "set") (hm2 : X.mg "set" = none) (ha : PE X a ta)
    (na : starEach [a] X.env = (false, eval a X.env) :: starEach [] X.env := by rfl) : PE X (.Call (.Name "len" p) [.Call (.Name "set" p2) [a] [] q] [] pos) (tLenSetM X.K ta) := by
  refine ⟨fun pins s σ H Q I h => ?_⟩
  refine Call_ (ld_blt I hg hm boot_len ?_)
  refine PyProof.Rows.callWith_builtin1 (PyProof.Rows.args_cons ?_ rfl) rfl rfl
  refine Call_ (ld_blt I hg2 hm2 boot_set ?_)
  refine PyProof.Rows.callWith_type1 (PyProof.Rows.args_cons (thn (ha.run pins s σ H _ I h) fun v s1 ⟨x, H1, I1, r1, q1⟩ => PyProof.Rows.args_nil ?_) na) na rfl
  obtain ⟨l, ks, rfl, hq, h1, q1⟩ := q1
  cases r1
  obtain ⟨its, r, pl, hz⟩ := I1.list hq
  have hlen : its.toArray.size = ks.length := by rw [List.size_toArray, ← r.length, List.length_map]
  refine set_of_list (I1.ok.hd hc) pl.isList (by simpa using keys_vals r) (by rw [hlen]; unfold scanBound; omega) fun h' tk hS hk => ?_
  refine PyProof.Rows.args_nil ?_
  obtain ⟨o, es, ep, t, ho, hex, hd, _, _, _, hf, hn⟩ := hS
  have I2 : Inv X pins σ H1 { s1 with heap := h', toks := tk } := I1.kept fun b o e => hk b o (Heap.lt_size e) e
  have := met_len ks
  exact call_len_set ho hex hd hf (by rw [hn]; omega) ⟨.int (met ks).length, H1, I2.tok _, ⟨_, by rw [hn]⟩, q1⟩
end OX
set_option Elab.async false
set_option linter.all false
set_option maxRecDepth 100000
set_option maxHeartbeats 1000000
/-! OX5: operators, comparisons, subscripts, slices, calls of built-ins, methods. -/
namespace OX
open PySem L2

section
variable {X : Cx} {ρ ρ1 ρ2 ρ3 : List Sl} {r ra rb rc : Rs} {e a b c : Expr} {es : List Expr} {pos p : Pos} {x : Str} {d : D}
structure BinX (X : Cx) (op : Operator) (ra rb : Rs) (ρ : List Sl) (rc : Rs) : Prop where
  ex : ∃ r, OpR X (binaryOp op) r ∧ R2ok X.K r ra rb ρ rc
structure CmpX (X : Cx) (op : CmpOp) (ra rb : Rs) (ρ : List Sl) (rc : Rs) : Prop where
  ex : ∃ r, OpR X (compareOp op) r ∧ R2ok X.K r ra rb ρ rc
structure SubX (X : Cx) (ra rb : Rs) (ρ : List Sl) (rc : Rs) : Prop where
  ex : ∃ r, IxR X r ∧ R2ok X.K r ra rb ρ rc
theorem ev_binX {op : Operator} (ha : EV X a ρ ra ρ1) (hb : EV X b ρ1 rb ρ2) (h : BinX X op ra rb ρ2 rc) (hst : ra.st = true := by rfl) : EV X (.BinOp a op b pos) ρ rc ρ2 := by
  obtain ⟨r, ho, hr⟩ := h
  exact ev_bin ho ha hb hr hst
theorem ev_cmpX {op : CmpOp} (ha : EV X a ρ ra ρ1) (hb : EV X b ρ1 rb ρ2) (h : CmpX X op ra rb ρ2 rc) (hm : behindInMarks op b = false := by first | exact nomark _ | rfl) (hst : ra.st = true := by rfl) : EV X (.Compare a [op] [b] pos) ρ rc ρ2 := by
  obtain ⟨r, ho, hr⟩ := h
  exact ev_cmp ho ha hb hr hm hst
theorem et_cmpX {op : CmpOp} {k : Bool} (ha : EV X a ρ ra ρ1) (hb : EV X b ρ1 rb ρ2) (h : CmpX X op ra rb ρ2 (.d (.bool k))) (hm : behindInMarks op b = false := by first | exact nomark _ | rfl) (hst : ra.st = true := by rfl) : ET X (.Compare a [op] [b] pos) ρ k ρ2 := by
  obtain ⟨r, ho, hr⟩ := h
  exact et_cmp ho ha hb hr hm hst
theorem ev_chainX {op op' : CmpOp} {k k' : Bool} (ha : EV X a ρ ra ρ1) (hb : EV X b ρ1 rb ρ2) (h : CmpX X op ra rb ρ2 (.d (.bool k))) (hc : EV X c ρ2 rc ρ2) (h' : CmpX X op' rb rc ρ2 (.d (.bool k')))
    (hm : lastMarks [op, op'] [b, c] = false := by with_unfolding_all rfl) (hst : ra.st = true := by rfl) (hst' : rb.st = true := by rfl) : EV X (.Compare a [op, op'] [b, c] pos) ρ (.d (.bool (k && k'))) ρ2 := by
  obtain ⟨r, ho, hr⟩ := h
  obtain ⟨r', ho', hr'⟩ := h'
  exact ev_chain ho ho' ha hb hr (fun _ => hc) (fun _ => hr') hm hst hst'
theorem et_chainX {op op' : CmpOp} {k k' : Bool} (ha : EV X a ρ ra ρ1) (hb : EV X b ρ1 rb ρ2) (h : CmpX X op ra rb ρ2 (.d (.bool k))) (hc : EV X c ρ2 rc ρ2) (h' : CmpX X op' rb rc ρ2 (.d (.bool k')))
    (hm : lastMarks [op, op'] [b, c] = false := by with_unfolding_all rfl) (hst : ra.st = true := by rfl) (hst' : rb.st = true := by rfl) : ET X (.Compare a [op, op'] [b, c] pos) ρ (k && k') ρ2 := by
  obtain ⟨r, ho, hr⟩ := h
  obtain ⟨r', ho', hr'⟩ := h'
  exact et_chain ho ho' ha hb hr (fun _ => hc) (fun _ => hr') hm hst hst'
theorem ev_sub (ha : EV X a ρ ra ρ1) (hb : EV X b ρ1 rb ρ2) (h : SubX X ra rb ρ2 rc) (hst : ra.st = true := by rfl) (hs : PlainIx b := by exact fun _ _ => rfl) : EV X (.Subscript a b pos) ρ rc ρ2 := .mk fun β σ F H C Q k => by
  obtain ⟨r, ho, hr⟩ := h
  exact ⟨_, pe_ix ho peU peU hs, ha β σ F H C _ fun v F1 H1 C1 l1 r1 => hb β σ F1 H1 C1 _ fun w F2 H2 C2 l2 r2 => hr β σ F2 H2 v w C2 (r1.mono l2 hst) r2 Q fun z F3 H3 C3 l3 r3 => k z F3 H3 C3 ((l1.trans l2).trans l3) r3⟩

/-! ### ints -/
theorem r2_I {C : Int → Int → Prop} {g : Int → Int → V} {i j : Int} {K : PySem.W.Frag} (hc : C i j) (hd : ∀ F, Da K F (g i j) d) : R2ok K (rI C g) (.d (.int i)) (.d (.int j)) ρ (.d d) := fun β σ F H v w C r1 r2 Q k =>
  ⟨i, j, Da.int_eq r1, Da.int_eq r2, hc, k _ F H C (.refl F) (hd F)⟩
theorem r2_I0 {g : Int → Int → V} {i j : Int} {K : PySem.W.Frag} (hd : ∀ F, Da K F (g i j) d) : R2ok K (rI0 g) (.d (.int i)) (.d (.int j)) ρ (.d d) := fun β σ F H v w C r1 r2 Q k =>
  ⟨i, j, Da.int_eq r1, Da.int_eq r2, k _ F H C (.refl F) (hd F)⟩
theorem bx_addI {i j : Int} : BinX X .Add (.d (.int i)) (.d (.int j)) ρ (.d (.int (i + j))) := ⟨_, op_add, r2_I0 fun _ => .int _⟩
theorem bx_subI {i j : Int} : BinX X .Sub (.d (.int i)) (.d (.int j)) ρ (.d (.int (i - j))) := ⟨_, op_sub, r2_I0 fun _ => .int _⟩
theorem bx_mulI {i j : Int} (h : i.natAbs.log2 + j.natAbs.log2 < 1000000) : BinX X .Mult (.d (.int i)) (.d (.int j)) ρ (.d (.int (i * j))) := ⟨_, op_mulW, r2_I h fun _ => .int _⟩
theorem bx_fdivI {i j : Int} (h : 0 < j ∧ j.natAbs.log2 < 9000) : BinX X .FloorDiv (.d (.int i)) (.d (.int j)) ρ (.d (.int (i / j))) := ⟨_, op_fdivW, r2_I h fun _ => .int _⟩
theorem bx_modI {i j : Int} (h : 0 < j) : BinX X .Mod (.d (.int i)) (.d (.int j)) ρ (.d (.int (i % j))) := ⟨_, op_mod, r2_I h fun _ => .int _⟩
theorem bx_powI {i j : Int} (h : 0 ≤ j ∧ j ≤ 1000000 ∧ i.natAbs < 2 ^ 64) : BinX X .Pow (.d (.int i)) (.d (.int j)) ρ (.d (.int (i ^ j.toNat))) := ⟨_, op_pow, r2_I h fun _ => .int _⟩
theorem cx_ltI {i j : Int} : CmpX X .Lt (.d (.int i)) (.d (.int j)) ρ (.d (.bool (decide (i < j)))) := ⟨_, op_lt, r2_I0 fun _ => .bl _⟩
theorem cx_leI {i j : Int} : CmpX X .LtE (.d (.int i)) (.d (.int j)) ρ (.d (.bool (decide (i ≤ j)))) := ⟨_, op_le, r2_I0 fun _ => .bl _⟩
theorem cx_gtI {i j : Int} : CmpX X .Gt (.d (.int i)) (.d (.int j)) ρ (.d (.bool (decide (j < i)))) := ⟨_, op_gt, r2_I0 fun _ => .bl _⟩
theorem cx_geI {i j : Int} : CmpX X .GtE (.d (.int i)) (.d (.int j)) ρ (.d (.bool (decide (j ≤ i)))) := ⟨_, op_ge, r2_I0 fun _ => .bl _⟩
/-! ### equality of flat things -/
theorem r2_eq {u w' : D} {y z : V} {K : PySem.W.Frag} (hs : scal y z = true) (h1 : ∀ F v, Da K F v u → v = y) (h2 : ∀ F v, Da K F v w' → v = z) : R2ok K rEq (.d u) (.d w') ρ (.d (.bool (decide (y = z)))) := fun β σ F H v w C r1 r2 Q k => by
  obtain rfl := h1 F v r1
  obtain rfl := h2 F w r2
  exact ⟨hs, k _ F H C (.refl F) (.bl _)⟩
theorem r2_ne {u w' : D} {y z : V} {K : PySem.W.Frag} (hs : scal y z = true) (h1 : ∀ F v, Da K F v u → v = y) (h2 : ∀ F v, Da K F v w' → v = z) : R2ok K rNe (.d u) (.d w') ρ (.d (.bool (!decide (y = z)))) := fun β σ F H v w C r1 r2 Q k => by
  obtain rfl := h1 F v r1
  obtain rfl := h2 F w r2
  exact ⟨hs, k _ F H C (.refl F) (.bl _)⟩
theorem R2ok.cast {K : PySem.W.Frag} {rr : R2} {rc' : Rs} (h : R2ok K rr ra rb ρ rc) (e : rc = rc') : R2ok K rr ra rb ρ rc' := e ▸ h
theorem cx_eqI {i j : Int} : CmpX X .Eq (.d (.int i)) (.d (.int j)) ρ (.d (.bool (decide (i = j)))) := ⟨_, op_eq, (r2_eq (y := .int i) (z := .int j) rfl (fun _ _ h => Da.int_eq h) fun _ _ h => Da.int_eq h).cast (by simp)⟩
theorem cx_neI {i j : Int} : CmpX X .NotEq (.d (.int i)) (.d (.int j)) ρ (.d (.bool (!decide (i = j)))) := ⟨_, op_ne, (r2_ne (y := .int i) (z := .int j) rfl (fun _ _ h => Da.int_eq h) fun _ _ h => Da.int_eq h).cast (by simp)⟩
theorem cx_eqS {i j : Str} : CmpX X .Eq (.d (.str i)) (.d (.str j)) ρ (.d (.bool (decide (i = j)))) := ⟨_, op_eq, (r2_eq (y := .str i) (z := .str j) rfl (fun _ _ h => Da.str_eq h) fun _ _ h => Da.str_eq h).cast (by simp)⟩
theorem cx_neS {i j : Str} : CmpX X .NotEq (.d (.str i)) (.d (.str j)) ρ (.d (.bool (!decide (i = j)))) := ⟨_, op_ne, (r2_ne (y := .str i) (z := .str j) rfl (fun _ _ h => Da.str_eq h) fun _ _ h => Da.str_eq h).cast (by simp)⟩
theorem cx_isN {d : D} (h : d ≠ .none) : CmpX X .Is (.d d) (.d .none) ρ (.d (.bool false)) := ⟨_, op_isN, fun β σ F H v w C r1 r2 Q k => by
  obtain rfl := Da.none_eq r2
  have e : decide (v = V.non) = false := decide_eq_false fun z => by
    subst z
    cases r1
    exact h rfl
  refine ⟨rfl, ?_⟩
  rw [e]
  exact k _ F H C (.refl F) (.bl _)⟩
theorem cx_isNN : CmpX X .Is (.d .none) (.d .none) ρ (.d (.bool true)) := ⟨_, op_isN, fun β σ F H v w C r1 r2 Q k => by
  obtain rfl := Da.none_eq r2
  obtain rfl := Da.none_eq r1
  exact ⟨rfl, k _ F H C (.refl F) (.bl _)⟩⟩
/-! ### equality of data -/
theorem r2_eqD {u w' : D} {K : PySem.W.Frag} (h1 : SeqAt.shaped u = true) (h2 : SeqAt.shaped w' = true) : R2ok K (rEqD K) (.d u) (.d w') ρ (.d (.bool (PyData.eqv u w'))) := fun β σ F H v w C r1 r2 Q k =>
  ⟨u, w', Da.dp (Da.mono C.le r1) (SeqAt.canLay_of_shaped h1), Da.dp (Da.mono C.le r2) (SeqAt.canLay_of_shaped h2), h1, h2, k _ F H C (.refl F) (.bl _)⟩
theorem r2_neD {u w' : D} {K : PySem.W.Frag} (h1 : SeqAt.shaped u = true) (h2 : SeqAt.shaped w' = true) : R2ok K (rNeD K) (.d u) (.d w') ρ (.d (.bool (!PyData.eqv u w'))) := fun β σ F H v w C r1 r2 Q k =>
  ⟨u, w', Da.dp (Da.mono C.le r1) (SeqAt.canLay_of_shaped h1), Da.dp (Da.mono C.le r2) (SeqAt.canLay_of_shaped h2), h1, h2, k _ F H C (.refl F) (.bl _)⟩
theorem cx_eqD {u w' : D} (hu : X.A.units + 64 < cLine) (h1 : SeqAt.shaped u = true) (h2 : SeqAt.shaped w' = true) : CmpX X .Eq (.d u) (.d w') ρ (.d (.bool (PyData.eqv u w'))) := ⟨_, op_eqD hu, r2_eqD h1 h2⟩
theorem cx_neD {u w' : D} (hu : X.A.units + 64 < cLine) (h1 : SeqAt.shaped u = true) (h2 : SeqAt.shaped w' = true) : CmpX X .NotEq (.d u) (.d w') ρ (.d (.bool (!PyData.eqv u w'))) := ⟨_, op_neD hu, r2_neD h1 h2⟩
theorem own_list {K : PySem.W.Frag} {β : Bs} {σ : L2.St} {F H : Hp} {v : V} {i : Nat} {bo : Option Nat} {ds : List D} (C : Conc K β ρ σ F H) (hi : ρ[i]? = some (Sl.own bo (.lst ds))) (r : RsOk K β ρ σ F H v (.own i)) : ∃ l vs, v = .ref l ∧ H l = some (.lst vs) ∧ DaAll K F vs ds := by
  obtain ⟨l, e1, e2, ⟨vs, h, da⟩, _⟩ := C.sl i _ hi
  have r : σ[i]? = some (some v) := r
  rw [e1] at r
  cases r
  exact ⟨l, vs, rfl, h, da⟩
/-- a list of one's own against the empty list, by its length -/
theorem shaped_nil : SeqAt.shaped (.list []) = true := by decide +kernel
theorem cx_neO {i : Nat} {bo : Option Nat} {ds : List D} (hu : X.A.units + 64 < cLine) (hi : ρ[i]? = some (Sl.own bo (.lst ds))) (h1 : SeqAt.shaped (.list ds) = true) (h2 : SeqAt.shaped d = true) : CmpX X .NotEq (.own i) (.d d) ρ (.d (.bool (!PyData.eqv (.list ds) d))) := ⟨_, op_neD hu, fun β σ F H v w C r1 r2 Q k => by
  obtain ⟨l, vs, rfl, hl, da⟩ := own_list C hi r1
  exact ⟨_, d, .lst (SqL.of hl) (DaAll.dp (da.mono C.le) (by have := SeqAt.canLay_of_shaped h1; simpa [PyData.canLay0] using this)), Da.dp (Da.mono C.le r2) (SeqAt.canLay_of_shaped h2), h1, h2, k _ F H C (.refl F) (.bl _)⟩⟩
theorem cx_eqO {i : Nat} {bo : Option Nat} {ds : List D} (hu : X.A.units + 64 < cLine) (hi : ρ[i]? = some (Sl.own bo (.lst ds))) (h1 : SeqAt.shaped (.list ds) = true) (h2 : SeqAt.shaped d = true) : CmpX X .Eq (.own i) (.d d) ρ (.d (.bool (PyData.eqv (.list ds) d))) := ⟨_, op_eqD hu, fun β σ F H v w C r1 r2 Q k => by
  obtain ⟨l, vs, rfl, hl, da⟩ := own_list C hi r1
  exact ⟨_, d, .lst (SqL.of hl) (DaAll.dp (da.mono C.le) (by have := SeqAt.canLay_of_shaped h1; simpa [PyData.canLay0] using this)), Da.dp (Da.mono C.le r2) (SeqAt.canLay_of_shaped h2), h1, h2, k _ F H C (.refl F) (.bl _)⟩⟩
/-! ### texts -/
theorem cx_ltS {i j : Str} : CmpX X .Lt (.d (.str i)) (.d (.str j)) ρ (.d (.bool (decide (i.cps.toList < j.cps.toList)))) := ⟨_, op_lt_str, fun β σ F H v w C r1 r2 Q k => ⟨i, j, Da.str_eq r1, Da.str_eq r2, k _ F H C (.refl F) (.bl _)⟩⟩
theorem bx_addS {i j : Str} (h : i.length + j.length ≤ sizeLine) : BinX X .Add (.d (.str i)) (.d (.str j)) ρ (.d (.str (i ++ j))) := ⟨_, op_add_str, fun β σ F H v w C r1 r2 Q k => ⟨i, j, Da.str_eq r1, Da.str_eq r2, h, k _ F H C (.refl F) (.str _)⟩⟩
theorem cx_inSign {c : Nat} {z : Str} : CmpX X .In (.d (.str ⟨#[c]⟩)) (.d (.str z)) ρ (.d (.bool (decide (c ∈ z.cps.toList)))) := ⟨_, op_in_sign, fun β σ F H v w C r1 r2 Q k => ⟨c, z, Da.str_eq r1, Da.str_eq r2, k _ F H C (.refl F) (.bl _)⟩⟩
/-! ### is it in? -/
theorem inV_strs (x : Str) (ss : List Str) : inV (.str x) (ss.map V.str) = decide (x ∈ ss) := by
  unfold inV
  rw [List.any_map, Bool.eq_iff_iff, List.any_eq_true, decide_eq_true_iff]
  constructor
  · rintro ⟨y, h, e⟩
    have e : (y == x) = true := e
    rw [beq_iff_eq] at e
    exact e ▸ h
  · intro h
    exact ⟨x, h, show (x == x) = true from beq_self_eq_true x⟩
theorem inV_ints (x : Int) (ss : List Int) : inV (.int x) (ss.map V.int) = decide (x ∈ ss) := by
  unfold inV
  rw [List.any_map, Bool.eq_iff_iff, List.any_eq_true, decide_eq_true_iff]
  constructor
  · rintro ⟨y, h, e⟩
    have e : (y == x) = true := e
    rw [beq_iff_eq] at e
    exact e ▸ h
  · intro h
    exact ⟨x, h, show (x == x) = true from beq_self_eq_true x⟩
theorem flat_ints (ys : List Int) : (ys.map V.int).all flatV = true := by
  rw [List.all_map]
  exact List.all_eq_true.mpr fun _ _ => rfl
/-- what can be looked into -/
structure SeqR (ρ : List Sl) (r : Rs) (ds : List D) : Prop where
  or : r = .d (.list ds) ∨ r = .d (.tuple ds) ∨ ∃ i bo, r = .own i ∧ ρ[i]? = some (Sl.own bo (.lst ds))
theorem sq_list {ds : List D} : SeqR ρ (.d (.list ds)) ds := ⟨.inl rfl⟩
theorem sq_tup {ds : List D} : SeqR ρ (.d (.tuple ds)) ds := ⟨.inr (.inl rfl)⟩
theorem sq_own {ds : List D} {i : Nat} {bo : Option Nat} (h : ρ[i]? = some (Sl.own bo (.lst ds))) : SeqR ρ (.own i) ds := ⟨.inr (.inr ⟨i, bo, rfl, h⟩)⟩
theorem SeqR.get {K : PySem.W.Frag} {β : Bs} {σ : L2.St} {F H : Hp} {v : V} {ds : List D} (C : Conc K β ρ σ F H) (s : SeqR ρ r ds) (h : RsOk K β ρ σ F H v r) : ∃ a vs, v = .ref a ∧ (SqL K H a vs ∨ SqT K H a vs) ∧ DaAll K F vs ds := by
  rcases s with rfl | rfl | ⟨i, bo, rfl, hi⟩
  · obtain ⟨a, xs, e, h1, h2⟩ := Da.list_ref h
    exact ⟨a, xs, e, .inl (C.le.sqL h1), h2⟩
  · obtain ⟨a, xs, e, h1, h2⟩ := Da.tup_ref h
    exact ⟨a, xs, e, .inr (C.le.plT h1).sqT, h2⟩
  · obtain ⟨l, vs, e, h1, h2⟩ := own_list C hi h
    exact ⟨l, vs, e, .inl (SqL.of h1), h2⟩
theorem cx_inS {x : Str} {ss : List Str} (s : SeqR ρ rb (ss.map PyData.str)) : CmpX X .In (.d (.str x)) rb ρ (.d (.bool (decide (x ∈ ss)))) := ⟨_, op_in_seq, fun β σ F H v w C r1 r2 Q k => by
  obtain ⟨a, vs, rfl, h1, h2⟩ := s.get C r2
  obtain rfl := DaAll.strs h2
  obtain rfl := Da.str_eq r1
  refine ⟨a, _, rfl, h1, rfl, flat_strs ss, ?_⟩
  rw [inV_strs]
  exact k _ F H C (.refl F) (.bl _)⟩
theorem cx_niS {x : Str} {ss : List Str} (s : SeqR ρ rb (ss.map PyData.str)) : CmpX X .NotIn (.d (.str x)) rb ρ (.d (.bool (!decide (x ∈ ss)))) := ⟨_, op_notIn_seq, fun β σ F H v w C r1 r2 Q k => by
  obtain ⟨a, vs, rfl, h1, h2⟩ := s.get C r2
  obtain rfl := DaAll.strs h2
  obtain rfl := Da.str_eq r1
  refine ⟨a, _, rfl, h1, rfl, flat_strs ss, ?_⟩
  rw [inV_strs]
  exact k _ F H C (.refl F) (.bl _)⟩
theorem cx_inI {x : Int} {ss : List Int} (s : SeqR ρ rb (ss.map PyData.int)) : CmpX X .In (.d (.int x)) rb ρ (.d (.bool (decide (x ∈ ss)))) := ⟨_, op_in_seq, fun β σ F H v w C r1 r2 Q k => by
  obtain ⟨a, vs, rfl, h1, h2⟩ := s.get C r2
  obtain rfl := DaAll.ints h2
  obtain rfl := Da.int_eq r1
  refine ⟨a, _, rfl, h1, rfl, flat_ints ss, ?_⟩
  rw [inV_ints]
  exact k _ F H C (.refl F) (.bl _)⟩
theorem cx_niI {x : Int} {ss : List Int} (s : SeqR ρ rb (ss.map PyData.int)) : CmpX X .NotIn (.d (.int x)) rb ρ (.d (.bool (!decide (x ∈ ss)))) := ⟨_, op_notIn_seq, fun β σ F H v w C r1 r2 Q k => by
  obtain ⟨a, vs, rfl, h1, h2⟩ := s.get C r2
  obtain rfl := DaAll.ints h2
  obtain rfl := Da.int_eq r1
  refine ⟨a, _, rfl, h1, rfl, flat_ints ss, ?_⟩
  rw [inV_ints]
  exact k _ F H C (.refl F) (.bl _)⟩

/-! ### items -/
theorem ixN_nat {n : Nat} {i : Nat} (h : i < n) : ixN n (i : Int) = some i := by
  unfold ixN
  rw [if_pos (by omega), if_pos (by omega)]
  simp
theorem DaAll.atI {K : PySem.W.Frag} {F : Hp} {vs : List V} {ds : List D} {i : Int} {d : D} (h : DaAll K F vs ds) (e : L2.atI ds i = some d) : ∃ v, L2.atI vs i = some v ∧ Da K F v d := by
  unfold L2.atI at e ⊢
  rw [h.length]
  cases q : ixN ds.length i with
  | none => rw [q] at e; cases e
  | some j =>
    rw [q] at e
    obtain ⟨v, q1, q2⟩ := h.get (i := j) (d := d) e
    exact ⟨v, q1, q2⟩
theorem sx_at {ds : List D} {i : Int} (s : SeqR ρ ra ds) (e : L2.atI ds i = some d) : SubX X ra (.d (.int i)) ρ (.d d) := ⟨_, ix_seq, fun β σ F H v w C r1 r2 Q k => by
  obtain ⟨a, vs, rfl, h1, h2⟩ := s.get C r1
  obtain rfl := Da.int_eq r2
  obtain ⟨u, q1, q2⟩ := h2.atI e
  rcases h1 with h1 | h1
  · exact .inl ⟨a, vs, i, u, rfl, rfl, h1, q1, k _ F H C (.refl F) q2⟩
  · exact .inr (.inl ⟨a, vs, i, u, rfl, rfl, h1, q1, k _ F H C (.refl F) q2⟩)⟩
theorem atI_natD {ds : List D} {n : Nat} (h : ds[n]? = some d) : L2.atI ds (n : Int) = some d := atI_nat h
theorem atI_lit {ds : List D} (n : Nat) (h : ds[n]? = some d) : L2.atI ds (OfNat.ofNat n) = some d := atI_nat h
/-- a letter of a text -/
theorem sx_str {z : Str} {i : Int} {cc : Nat} (hz : z.length ≤ sizeLine) (e : L2.atI z.cps.toList i = some cc) : SubX X (.d (.str z)) (.d (.int i)) ρ (.d (.str ⟨#[cc]⟩)) := ⟨_, ix_str, fun β σ F H v w C r1 r2 Q k => by
  obtain rfl := Da.str_eq r1
  obtain rfl := Da.int_eq r2
  exact ⟨z, i, cc, rfl, rfl, hz, e, k _ F H C (.refl F) (.str _)⟩⟩

/-! ### tuples and lists put together -/
theorem Conc.newT {K : PySem.W.Frag} {β : Bs} {σ : L2.St} {F H : Hp} {vs : List V} {ds : List D} {Q : VK} (C : Conc K β ρ σ F H) (da : DaAll K F vs ds) (k : ∀ v F' H', Conc K β ρ σ F' H' → Le F F' → Da K F' v (.tuple ds) → Q v H') : NewT vs H Q := fun p ob hp ho => by
  have fp := C.le.none hp
  exact k _ _ _ (C.alloc hp) (le_upd fp) (.tup (PlT.of ho) (da.mono (le_upd fp)))
theorem bx_catT {xs ys : List D} (h : xs.length + ys.length ≤ sizeLine) : BinX X .Add (.d (.tuple xs)) (.d (.tuple ys)) ρ (.d (.tuple (xs ++ ys))) := ⟨_, op_catP, fun β σ F H v w C r1 r2 Q k => by
  obtain ⟨a, vs, rfl, h1, h2⟩ := Da.tup_ref r1
  obtain ⟨b, ws, rfl, h3, h4⟩ := Da.tup_ref r2
  refine ⟨a, b, vs, ws, rfl, rfl, (C.le.plT h1).sqT, (C.le.plT h3).sqT, by rw [h2.length, h4.length]; exact h, fun e => ?_, fun _ e => ?_, fun _ _ => C.newT (h2.append h4) k⟩
  · subst e
    cases h2
    exact k _ F H C (.refl F) r2
  · subst e
    cases h4
    rw [List.append_nil] at k
    exact k _ F H C (.refl F) r1⟩
theorem Conc.newL {K : PySem.W.Frag} {β : Bs} {σ : L2.St} {F H : Hp} {vs : List V} {ds : List D} {p : Addr} (C : Conc K β ρ σ F H) (da : DaAll K F vs ds) (hp : H p = none) : Conc K β ρ σ F (upd H p (.lst vs)) ∧ RsOk K β ρ σ F (upd H p (.lst vs)) (.ref p) (.new (.lst ds)) := by
  have fp := C.le.none hp
  exact ⟨C.allocU hp, p, rfl, fp, ⟨vs, upd_same, da⟩, C.room hp, fun o => absurd hp (C.ownF o).2.2⟩
/-- two lists: each tracked as it is -/
theorem SeqR.lst {K : PySem.W.Frag} {β : Bs} {σ : L2.St} {F H : Hp} {v : V} {ds : List D} (C : Conc K β ρ σ F H) (s : r = .d (.list ds) ∨ ∃ i bo, r = .own i ∧ ρ[i]? = some (Sl.own bo (.lst ds))) (h : RsOk K β ρ σ F H v r) : ∃ a vs, v = .ref a ∧ SqL K H a vs ∧ DaAll K F vs ds := by
  rcases s with rfl | ⟨i, bo, rfl, hi⟩
  · obtain ⟨a, xs, e, h1, h2⟩ := Da.list_ref h
    exact ⟨a, xs, e, C.le.sqL h1, h2⟩
  · obtain ⟨l, vs, e, h1, h2⟩ := own_list C hi h
    exact ⟨l, vs, e, SqL.of h1, h2⟩
end
end OX
set_option Elab.async false
set_option linter.all false
set_option maxRecDepth 100000
set_option maxHeartbeats 1000000
/-! OX6: slices, lists put together, calls of built-ins, methods of lists and tuples. -/
namespace OX
open PySem L2

section
variable {X : Cx} {ρ ρ1 ρ2 ρ3 : List Sl} {r ra rb rc : Rs} {e a b c : Expr} {es : List Expr} {pos p apos cpos : Pos} {x : Str} {d : D}
/-! ### slices -/
def cutD {α : Type} (xs : List α) (lo hi : Option Int) : List α := (xs.drop (HT.sIx xs.length 0 lo)).take (HT.sIx xs.length xs.length hi - HT.sIx xs.length 0 lo)
theorem DaAll.cut {K : PySem.W.Frag} {F : Hp} {vs : List V} {ds : List D} (h : DaAll K F vs ds) (lo hi : Option Int) : DaAll K F (cutV vs lo hi) (cutD ds lo hi) := by
  unfold cutV cutD
  rw [h.length]
  exact (h.drop _).take _
def tpU (X : Cx) (o : Option Expr) : TO := fun σ H Q => ∃ t : TO, PO X o t ∧ t σ H Q
theorem poU {o : Option Expr} : PO X o (tpU X o) := ⟨fun pins s σ H Q I ⟨_, h, q⟩ => h.run pins s σ H Q I q⟩
structure EO (X : Cx) (o : Option Expr) (ρ : List Sl) (k : Option Int) (ρ' : List Sl) : Prop where
  run :
    ∀ (β : Bs) (σ : L2.St) (F H : Hp), Conc X.K β ρ σ F H → ∀ Q : Option Int → Hp → Prop, (∀ F' H', Conc X.K β ρ' σ F' H' → Le F F' → Q k H') → tpU X o σ H Q
instance {X : Cx} {o : Option Expr} {ρ : List Sl} {k : Option Int} {ρ' : List Sl} : CoeFun (EO X o ρ k ρ') (fun _ => ∀ (β : Bs) (σ : L2.St) (F H : Hp), Conc X.K β ρ σ F H → ∀ Q : Option Int → Hp → Prop, (∀ F' H', Conc X.K β ρ' σ F' H' → Le F F' → Q k H') → tpU X o σ H Q) := ⟨fun h => h.run⟩
theorem eo_none : EO X none ρ none ρ := .mk fun β σ F H C Q k => ⟨_, po_none, k F H C (.refl F)⟩
theorem eo_some {i : Int} (h : EV X e ρ (.d (.int i)) ρ1) : EO X (some e) ρ (some i) ρ1 := .mk fun β σ F H C Q k => ⟨_, po_some peU, h β σ F H C _ fun v F1 H1 C1 l1 r1 => ⟨i, Da.int_eq r1, k F1 H1 C1 l1⟩⟩
theorem ev_sliceT {lo hi : Option Expr} {k l : Option Int} {ds : List D} {p2 : Pos} (ha : EV X a ρ (.d (.tuple ds)) ρ1) (h1 : EO X lo ρ1 k ρ2) (h2 : EO X hi ρ2 l ρ3) : EV X (.Subscript a (.Slice lo hi none p2) pos) ρ (.d (.tuple (cutD ds k l))) ρ3 := .mk fun β σ F H C Q kk =>
  ⟨_, pe_slice sl_tupP peU poU poU, ha β σ F H C _ fun v F1 H1 C1 l1 r1 => h1 β σ F1 H1 C1 _ fun F2 H2 C2 l2 => h2 β σ F2 H2 C2 _ fun F3 H3 C3 l3 => by
    obtain ⟨p, vs, rfl, q1, q2⟩ := Da.tup_ref (Da.mono (l2.trans l3) r1)
    refine ⟨p, vs, rfl, (C3.le.plT q1).sqT, fun hw => ?_, fun hw => C3.newT (q2.cut k l) fun v F' H' C' l' d' => kk v F' H' C' (((l1.trans l2).trans l3).trans l') d'⟩
    have e : cutD ds k l = ds := by
      unfold cutD
      rw [q2.length] at hw
      rw [hw.1, hw.2]
      simp
    rw [e] at kk
    exact kk _ F3 H3 C3 ((l1.trans l2).trans l3) (Da.mono (l2.trans l3) r1)⟩
theorem ev_sliceL {lo hi : Option Expr} {k l : Option Int} {ds : List D} {p2 : Pos} (ha : EV X a ρ ra ρ1) (h1 : EO X lo ρ1 k ρ2) (h2 : EO X hi ρ2 l ρ3) (s : ra = .d (.list ds) ∨ ∃ i bo, ra = .own i ∧ ρ3[i]? = some (Sl.own bo (.lst ds))) (hst : ra.st = true := by rfl) : EV X (.Subscript a (.Slice lo hi none p2) pos) ρ (.new (.lst (cutD ds k l))) ρ3 := .mk fun β σ F H C Q kk =>
  ⟨_, pe_slice sl_list peU poU poU, ha β σ F H C _ fun v F1 H1 C1 l1 r1 => h1 β σ F1 H1 C1 _ fun F2 H2 C2 l2 => h2 β σ F2 H2 C2 _ fun F3 H3 C3 l3 => by
    obtain ⟨p, vs, rfl, q1, q2⟩ := SeqR.lst C3 s (r1.mono (l2.trans l3) hst)
    refine ⟨p, vs, rfl, q1, fun p hp => ?_⟩
    obtain ⟨C4, q4⟩ := C3.newL (q2.cut k l) hp
    exact kk _ F3 _ C4 ((l1.trans l2).trans l3) q4⟩
/-! ### list + list, tuple * int -/
def rCatL (K : PySem.W.Frag) : R2 := fun x y H Q => ∃ l b xs zs, x = .ref l ∧ y = .ref b ∧ SqL K H l xs ∧ SqL K H b zs ∧ xs.length + zs.length ≤ sizeLine ∧ ∀ p, H p = none → Q (.ref p) (upd H p (.lst (xs ++ zs)))
theorem op_catL : OpR X (binaryOp .Add) (rCatL X.K) := by
  intro pins s σ H x y v u Q I rx ry h
  obtain ⟨l, b, xs, zs, rfl, rfl, hH, hB, hz, q⟩ := h
  cases rx
  cases ry
  obtain ⟨its, r, ⟨⟨cls, dd, data, sl⟩, n, ho, hc, hd0, hd⟩, h1⟩ := I.list hH
  obtain ⟨its2, r2, ⟨⟨cls2, dd2, data2, sl2⟩, n2, ho2, hc2, hd02, hd2⟩, h2⟩ := I.list hB
  simp only at hc hd hc2 hd2 hd0 hd02
  subst hc hd hc2 hd2
  have e1 := r.length
  have e2 := r2.length
  refine concat_meets ⟨_, ho, rfl⟩ ⟨_, ho2, rfl⟩ noFill_list_add seq_list_add F.slot_list_add F.entry_list_add (F.args_list_add_2 _ _) (PyProof.Rows.list_addW l b its.toArray its2.toArray n n2 dd dd2 sl sl2 (by rw [List.size_toArray, List.size_toArray]; omega)) ⟨ho, ho2, ?_⟩
  have ea : its.toArray ++ its2.toArray = (its ++ its2).toArray := by simp
  rw [ea]
  exact ⟨.ref _, _, I.lnew (t' := s.toks) (r.append r2) (by rw [List.length_append]; omega), rfl, q _ I.fresh⟩
theorem bx_catL {xs ys : List D} (s1 : ra = .d (.list xs) ∨ ∃ i bo, ra = .own i ∧ ρ[i]? = some (Sl.own bo (.lst xs))) (s2 : rb = .d (.list ys) ∨ ∃ i bo, rb = .own i ∧ ρ[i]? = some (Sl.own bo (.lst ys))) (h : xs.length + ys.length ≤ sizeLine) :
    BinX X .Add ra rb ρ (.new (.lst (xs ++ ys))) := ⟨_, op_catL, fun β σ F H v w C r1 r2 Q k => by
  obtain ⟨p, vs, rfl, q1, q2⟩ := SeqR.lst C s1 r1
  obtain ⟨q, ws, rfl, q3, q4⟩ := SeqR.lst C s2 r2
  refine ⟨p, q, vs, ws, rfl, rfl, q1, q3, by rw [q2.length, q4.length]; exact h, fun p hp => ?_⟩
  obtain ⟨C4, q5⟩ := C.newL (q2.append q4) hp
  exact k _ F _ C4 (.refl F) q5⟩
theorem DaAll.rep {K : PySem.W.Frag} {F : Hp} {vs : List V} {ds : List D} (h : DaAll K F vs ds) : ∀ n : Nat, DaAll K F (List.replicate n vs).flatten (List.replicate n ds).flatten
  | 0 => .nil
  | n + 1 => by
    rw [List.replicate_succ, List.replicate_succ, List.flatten_cons, List.flatten_cons]
    exact h.append (h.rep n)
theorem bx_repT {xs : List D} {k : Int} (h0 : xs ≠ []) (h1 : 2 ≤ k) (h2 : k ≤ 10000) (h3 : xs.length ≤ 1000) : BinX X .Mult (.d (.tuple xs)) (.d (.int k)) ρ (.d (.tuple (List.replicate k.toNat xs).flatten)) := ⟨_, op_repP, fun β σ F H v w C r1 r2 Q kk => by
  obtain ⟨p, vs, rfl, q1, q2⟩ := Da.tup_ref r1
  obtain rfl := Da.int_eq r2
  exact ⟨p, k, vs, rfl, rfl, (C.le.plT q1).sqT, fun z => h0 (by subst z; cases q2; rfl), h1, h2, by rw [q2.length]; exact h3, C.newT (q2.rep k.toNat) kk⟩⟩

/-! ### calls of built-ins -/
structure CrX (X : Cx) (f : Value) (rs : List Rs) (ρ : List Sl) (rc : Rs) : Prop where
  ex : ∃ r, CallR X f r ∧ ∀ (β : Bs) (σ : L2.St) (F H : Hp) (vs : List V), Conc X.K β ρ σ F H → RsAll X.K β ρ σ F H vs rs → ∀ Q : VK, (∀ z F' H', Conc X.K β ρ σ F' H' → Le F F' → RsOk X.K β ρ σ F' H' z rc → Q z H') → r vs H Q
theorem ev_blt {id : String} {rs : List Rs} (hg : Gl X x) (hm : X.mg x = none) (hv : bootBuiltins x = some (.builtin id)) (ha : EA X (e :: es) ρ rs ρ1) (h : CrX X (.builtin id) rs ρ1 rc) (hn : x ≠ "__name__" := by decide) (hdb : (x == ("__debug__" : Str)) = false := by decide)
    (he : starEach (e :: es) X.env = (false, eval e X.env) :: starEach es X.env := by rfl) (hpl : (backTo pos (starEach es X.env)).any (·.1) = false := by rfl) : EV X (.Call (.Name x p) (e :: es) [] pos) ρ rc ρ1 := .mk fun β σ F H C Q k => by
  obtain ⟨r, hc, hr⟩ := h
  exact ⟨_, pe_callB hc hg hm hv paU hn hdb he hpl, ha β σ F H C _ fun vs F1 H1 C1 l1 r1 => hr β σ F1 H1 vs C1 r1 Q fun z F2 H2 C2 l2 r2 => k z F2 H2 C2 (l1.trans l2) r2⟩
theorem ev_bty {T : String} {rs : List Rs} (hg : Gl X x) (hm : X.mg x = none) (hv : bootBuiltins x = some (.type T)) (ha : EA X (e :: es) ρ rs ρ1) (h : CrX X (.type T) rs ρ1 rc) (hn : x ≠ "__name__" := by decide) (hdb : (x == ("__debug__" : Str)) = false := by decide)
    (he : starEach (e :: es) X.env = (false, eval e X.env) :: starEach es X.env := by rfl) (hpl : (backTo pos (starEach es X.env)).any (·.1) = false := by rfl) : EV X (.Call (.Name x p) (e :: es) [] pos) ρ rc ρ1 := .mk fun β σ F H C Q k => by
  obtain ⟨r, hc, hr⟩ := h
  exact ⟨_, pe_callTy hc hg hm hv paU hn hdb he hpl, ha β σ F H C _ fun vs F1 H1 C1 l1 r1 => hr β σ F1 H1 vs C1 r1 Q fun z F2 H2 C2 l2 r2 => k z F2 H2 C2 (l1.trans l2) r2⟩
theorem RsAll.one {K : PySem.W.Frag} {β : Bs} {σ : L2.St} {F H : Hp} {vs : List V} (h : RsAll K β ρ σ F H vs [r]) : ∃ v, vs = [v] ∧ RsOk K β ρ σ F H v r := by
  cases h with
  | cons a b => cases b; exact ⟨_, rfl, a⟩
theorem RsAll.two {K : PySem.W.Frag} {β : Bs} {σ : L2.St} {F H : Hp} {vs : List V} (h : RsAll K β ρ σ F H vs [ra, rb]) : ∃ v w, vs = [v, w] ∧ RsOk K β ρ σ F H v ra ∧ RsOk K β ρ σ F H w rb := by
  cases h with
  | cons a b =>
    obtain ⟨w, rfl, q⟩ := RsAll.one b
    exact ⟨_, w, rfl, a, q⟩
theorem DaAll.line {K : PySem.W.Frag} {F : Hp} {vs : List V} {ds : List D} (h : DaAll K F vs ds) : True := trivial
theorem cr_len {ds : List D} (s : SeqR ρ r ds) : CrX X (.builtin "len") [r] ρ (.d (.int ds.length)) := ⟨_, call_len_seq, fun β σ F H vs C r1 Q k => by
  obtain ⟨v, ev, y1⟩ := r1.one
  clear r1
  subst ev
  have r1 := y1
  obtain ⟨a, ws, rfl, h1, h2⟩ := s.get C r1
  refine ⟨a, ws, rfl, h1, ?_⟩
  rw [h2.length]
  exact k _ F H C (.refl F) (.int _)⟩
theorem cr_lenS {z : Str} (h : z.length ≤ sizeLine) : CrX X (.builtin "len") [.d (.str z)] ρ (.d (.int z.length)) := ⟨_, call_len_str, fun β σ F H vs C r1 Q k => by
  obtain ⟨v, ev, y1⟩ := r1.one
  clear r1
  subst ev
  have r1 := y1
  exact ⟨z, by rw [Da.str_eq r1], h, k _ F H C (.refl F) (.int _)⟩⟩
theorem cr_intI {i : Int} : CrX X (.type "int") [.d (.int i)] ρ (.d (.int i)) := ⟨_, call_int1, fun β σ F H vs C r1 Q k => by
  obtain ⟨v, ev, y1⟩ := r1.one
  clear r1
  subst ev
  have r1 := y1
  exact .inl ⟨i, by rw [Da.int_eq r1], k _ F H C (.refl F) (.int _)⟩⟩
theorem cr_intB {i : Bool} : CrX X (.type "int") [.d (.bool i)] ρ (.d (.int (if i then 1 else 0))) := ⟨_, call_int1, fun β σ F H vs C r1 Q k => by
  obtain ⟨v, ev, y1⟩ := r1.one
  clear r1
  subst ev
  have r1 := y1
  exact .inr ⟨i, by rw [Da.bool_eq r1], k _ F H C (.refl F) (.int _)⟩⟩
theorem cr_absI {i : Int} : CrX X (.builtin "abs") [.d (.int i)] ρ (.d (.int (if i < 0 then -i else i))) := ⟨_, call_abs, fun β σ F H vs C r1 Q k => by
  obtain ⟨v, ev, y1⟩ := r1.one
  clear r1
  subst ev
  have r1 := y1
  exact ⟨i, by rw [Da.int_eq r1], k _ F H C (.refl F) (.int _)⟩⟩
theorem cr_max2 {i j : Int} (hc : X.calm = true) : CrX X (.builtin "max") [.d (.int i), .d (.int j)] ρ (.d (.int (if j > i then j else i))) := ⟨_, call_max2 hc, fun β σ F H vs C r1 Q k => by
  obtain ⟨v, w, ev, y1, r2⟩ := r1.two
  clear r1
  subst ev
  have r1 := y1
  exact ⟨i, j, by rw [Da.int_eq r1, Da.int_eq r2], k _ F H C (.refl F) (.int _)⟩⟩
theorem cr_min2 {i j : Int} (hc : X.calm = true) : CrX X (.builtin "min") [.d (.int i), .d (.int j)] ρ (.d (.int (if j < i then j else i))) := ⟨_, call_min2 hc, fun β σ F H vs C r1 Q k => by
  obtain ⟨v, w, ev, y1, r2⟩ := r1.two
  clear r1
  subst ev
  have r1 := y1
  exact ⟨i, j, by rw [Da.int_eq r1, Da.int_eq r2], k _ F H C (.refl F) (.int _)⟩⟩
/-- all(a list of bools), sum(a list of ints) -/
theorem cr_allB {bs : List Bool} (hc : X.calm = true) (s : r = .d (.list (bs.map PyData.bool)) ∨ ∃ i bo, r = .own i ∧ ρ[i]? = some (Sl.own bo (.lst (bs.map PyData.bool)))) : CrX X (.builtin "all") [r] ρ (.d (.bool (bs.all id))) := ⟨_, cr_all hc, fun β σ F H vs C r1 Q k => by
  obtain ⟨v, ev, y1⟩ := r1.one
  clear r1
  subst ev
  have r1 := y1
  obtain ⟨a, ws, rfl, h1, h2⟩ := SeqR.lst C s r1
  obtain rfl := DaAll.bools h2
  exact ⟨a, bs, rfl, h1, k _ F H C (.refl F) (.bl _)⟩⟩
theorem cr_anyB {bs : List Bool} (hc : X.calm = true) (s : r = .d (.list (bs.map PyData.bool)) ∨ ∃ i bo, r = .own i ∧ ρ[i]? = some (Sl.own bo (.lst (bs.map PyData.bool)))) : CrX X (.builtin "any") [r] ρ (.d (.bool (bs.any id))) := ⟨_, cr_any hc, fun β σ F H vs C r1 Q k => by
  obtain ⟨v, ev, y1⟩ := r1.one
  clear r1
  subst ev
  have r1 := y1
  obtain ⟨a, ws, rfl, h1, h2⟩ := SeqR.lst C s r1
  obtain rfl := DaAll.bools h2
  exact ⟨a, bs, rfl, h1, k _ F H C (.refl F) (.bl _)⟩⟩
theorem cr_sumI {ns : List Int} (hc : X.calm = true) (s : r = .d (.list (ns.map PyData.int)) ∨ ∃ i bo, r = .own i ∧ ρ[i]? = some (Sl.own bo (.lst (ns.map PyData.int)))) : CrX X (.builtin "sum") [r] ρ (.d (.int ns.sum)) := ⟨_, cr_sum hc, fun β σ F H vs C r1 Q k => by
  obtain ⟨v, ev, y1⟩ := r1.one
  clear r1
  subst ev
  have r1 := y1
  obtain ⟨a, ws, rfl, h1, h2⟩ := SeqR.lst C s r1
  obtain rfl := DaAll.ints h2
  exact ⟨a, ns, rfl, h1, k _ F H C (.refl F) (.int _)⟩⟩
theorem cr_tupL {ds : List D} (s : r = .d (.list ds) ∨ ∃ i bo, r = .own i ∧ ρ[i]? = some (Sl.own bo (.lst ds))) : CrX X (.type "tuple") [r] ρ (.d (.tuple ds)) := ⟨_, call_tupleP, fun β σ F H vs C r1 Q k => by
  obtain ⟨v, ev, y1⟩ := r1.one
  clear r1
  subst ev
  have r1 := y1
  obtain ⟨a, ws, rfl, h1, h2⟩ := SeqR.lst C s r1
  exact ⟨a, ws, rfl, .inl ⟨h1, C.newT h2 k⟩⟩⟩
theorem cr_tupT {ds : List D} : CrX X (.type "tuple") [.d (.tuple ds)] ρ (.d (.tuple ds)) := ⟨_, call_tupleP, fun β σ F H vs C r1 Q k => by
  obtain ⟨v, ev, y1⟩ := r1.one
  clear r1
  subst ev
  have r1 := y1
  obtain ⟨a, ws, rfl, h1, h2⟩ := Da.tup_ref r1
  exact ⟨a, ws, rfl, .inr ⟨(C.le.plT h1).sqT, k _ F H C (.refl F) r1⟩⟩⟩
theorem cr_lst {ds : List D} (s : SeqR ρ r ds) : CrX X (.type "list") [r] ρ (.new (.lst ds)) := ⟨_, call_list_of, fun β σ F H vs C r1 Q k => by
  obtain ⟨v, ev, y1⟩ := r1.one
  clear r1
  subst ev
  have r1 := y1
  obtain ⟨a, ws, rfl, h1, h2⟩ := s.get C r1
  refine ⟨a, ws, rfl, h1, fun l hl => ?_⟩
  obtain ⟨C4, q5⟩ := C.newL h2 hl
  exact k _ F _ C4 (.refl F) q5⟩
theorem cr_sortS {ss out : List Str} (s : r = .d (.list (ss.map PyData.str)) ∨ ∃ i bo, r = .own i ∧ ρ[i]? = some (Sl.own bo (.lst (ss.map PyData.str)))) (h : ss.length < 64) (hu : ∀ ys : List Str, ys.Perm ss → PyProof.Rows.sortedS ys = true → ys = out) : CrX X (.builtin "sorted") [r] ρ (.new (.lst (out.map PyData.str))) := ⟨_, cr_sortedS, fun β σ F H vs C r1 Q k => by
  obtain ⟨v, ev, y1⟩ := r1.one
  clear r1
  subst ev
  have r1 := y1
  obtain ⟨a, ws, rfl, h1, h2⟩ := SeqR.lst C s r1
  obtain rfl := DaAll.strs h2
  refine ⟨a, ss, rfl, h1, h, fun ys p hp hs hn => ?_⟩
  obtain rfl := hu ys hp hs
  obtain ⟨C4, q5⟩ := C.newL (DaAll.of_strs ys) hn
  exact k _ F _ C4 (.refl F) q5⟩
/-- isinstance -/
def tyName : D → String
  | .none => "NoneType"
  | .bool _ => "bool"
  | .int _ => "int"
  | .str _ => "str"
  | .list _ => "list"
  | .tuple _ => "tuple"
  | .dict _ => "dict"
theorem Da.tyx {K : PySem.W.Frag} {β : Bs} {σ : L2.St} {F H : Hp} {v : V} (C : Conc K β ρ σ F H) : ∀ {d : D}, Da K F v d → TyX K H v (.type (tyName d))
  | _, .non => .base .non
  | _, .bl b => .base (.bl b)
  | _, .int i => .base (.int i)
  | _, .str z => .base (.str z)
  | _, .lst h _ => by
    rcases C.le.sqL h with (h | ⟨o, h⟩) | ⟨o, its, n, h1, h2, _⟩
    · exact .base (.lst h)
    · exact .base (.frz h)
    · exact .kList h1 h2
  | _, .tup h _ => by
    rcases C.le.plT h with ⟨o, h, _⟩ | ⟨o, its, n, h1, h2, _⟩
    · exact .fTuple h
    · exact .kTuple h1 h2
  | _, .dct h _ => by
    rcases C.le.rd h with h | ⟨o, h⟩
    · exact .base (.dK h)
    · exact .fDict h
theorem ev_isi {T : String} {bb : Bool} {q : Pos} {y : Str} (hg : Gl X "isinstance") (hm : X.mg "isinstance" = none) (hg2 : Gl X y) (hm2 : X.mg y = none) (hv : bootBuiltins y = some (.type T)) (ha : EV X a ρ (.d d) ρ1) (hk : kitB (tyName d) T = some bb) (hn : y ≠ "__name__" := by decide) (hdb : (y == ("__debug__" : Str)) = false := by decide)
    (he : starEach [a, .Name y q] X.env = (false, eval a X.env) :: starEach [.Name y q] X.env := by rfl) (he2 : starEach [.Name y q] X.env = (false, eval (.Name y q) X.env) :: starEach [] X.env := by rfl) (hpl : (backTo pos (starEach [.Name y q] X.env)).any (·.1) = false := by rfl) :
    EV X (.Call (.Name "isinstance" p) [a, .Name y q] [] pos) ρ (.d (.bool bb)) ρ1 := .mk fun β σ F H C Q k =>
  ⟨_, pe_callB call_isi hg hm PyProof.Rows.boot_isinstance (pa_cons peU (pa_cons (pe_bltn (v := .ty T) hg2 hm2 hv rfl hn hdb) pa_nil he2) he) (by decide) (by decide) he hpl, ha β σ F H C _ fun v F1 H1 C1 l1 r1 =>
    ⟨v, .ty T, .type (tyName d), .type T, bb, rfl, .ty T, Da.tyx C1 r1, kit_ty hk, k _ F1 H1 C1 l1 (.bl _)⟩⟩

/-! ### methods of lists of one's own -/
theorem own_at {K : PySem.W.Frag} {β : Bs} {σ : L2.St} {F H : Hp} {v : V} {i : Nat} {bo : Option Nat} {ds : List D} (C : Conc K β ρ σ F H) (hi : ρ[i]? = some (Sl.own bo (.lst ds))) (r : σ[i]? = some (some v)) : ∃ l vs, v = .ref l ∧ H l = some (.lst vs) ∧ DaAll K F vs ds ∧ σ[i]? = some (some (V.ref l)) := by
  obtain ⟨l, vs, rfl, h1, h2⟩ := own_list C hi r
  exact ⟨l, vs, rfl, h1, h2, r⟩
theorem ev_append {i : Nat} {bo : Option Nat} {ds : List D} (ho : EV X a ρ (.own i) ρ1) (he : EV X e ρ1 (.d d) ρ2) (hi1 : ∃ bo' ds', ρ1[i]? = some (Sl.own bo' (.lst ds'))) (hi : ρ2[i]? = some (Sl.own bo (.lst ds))) (hl : ds.length < sizeLine)
    (hbase : attributeBase a "append" X.env (eval a X.env) = eval a X.env := by rfl)
    (hfew : ((backTo cpos (starEach [e] X.env)).all (fun x => !x.1) && (backToKw cpos (keywordEach [] X.env)).all (fun x => x.1.isSome)
      && decide ([e].length + ([] : List Keyword).length + (if ([] : List Keyword).isEmpty then 0 else 1) < 30)) = true := by rfl)
    (hline : (apos.endLine == cpos.line) = true := by rfl) (hs : starEach [e] X.env = (false, eval e X.env) :: starEach [] X.env := by rfl) (hplain : (backTo cpos (starEach [] X.env)).any (·.1) = false := by rfl) :
    EV X (.Call (.Attribute a "append" apos) [e] [] cpos) ρ (.d .none) (ρ2.set i (.own bo (.lst (ds ++ [d])))) := .mk fun β σ F H C Q k =>
  ⟨_, pe_bm PySem.F.plainAttrs_list PySem.F.slot_list_append PySem.F.type_list_append mt_append peU (pa_cons peU pa_nil hs) hbase hfew hline hs hplain, ho β σ F H C _ fun v F1 H1 C1 l1 r1 => by
    obtain ⟨bo', ds', h1⟩ := hi1
    obtain ⟨l, vs, rfl, q1, q2, q3⟩ := own_at C1 h1 r1
    refine ⟨.inl ⟨rfl, _, SqL.of q1⟩, he β σ F1 H1 C1 _ fun w F2 H2 C2 l2 r2 => ?_⟩
    obtain ⟨l', vs', e', q4, q5, q6⟩ := own_at C2 hi q3
    cases e'
    refine ⟨l, vs', w, rfl, rfl, q4, by rw [q5.length]; exact hl, ?_⟩
    exact k _ F2 _ (C2.put (c' := .lst (ds ++ [d])) hi q6 ⟨_, upd_same, q5.append (.cons r2 .nil)⟩) (l1.trans l2) .non⟩
theorem ev_extend {i : Nat} {bo : Option Nat} {ds es' : List D} (ho : EV X a ρ (.own i) ρ1) (he : EV X e ρ1 (.new (.lst es')) ρ2) (hi1 : ∃ bo' ds', ρ1[i]? = some (Sl.own bo' (.lst ds'))) (hi : ρ2[i]? = some (Sl.own bo (.lst ds))) (hl : ds.length + es'.length ≤ sizeLine)
    (hbase : attributeBase a "extend" X.env (eval a X.env) = eval a X.env := by rfl)
    (hfew : ((backTo cpos (starEach [e] X.env)).all (fun x => !x.1) && (backToKw cpos (keywordEach [] X.env)).all (fun x => x.1.isSome)
      && decide ([e].length + ([] : List Keyword).length + (if ([] : List Keyword).isEmpty then 0 else 1) < 30)) = true := by rfl)
    (hline : (apos.endLine == cpos.line) = true := by rfl) (hs : starEach [e] X.env = (false, eval e X.env) :: starEach [] X.env := by rfl) (hplain : (backTo cpos (starEach [] X.env)).any (·.1) = false := by rfl) :
    EV X (.Call (.Attribute a "extend" apos) [e] [] cpos) ρ (.d .none) (ρ2.set i (.own bo (.lst (ds ++ es')))) := .mk fun β σ F H C Q k =>
  ⟨_, pe_bm PySem.F.plainAttrs_list PySem.F.slot_list_extend PySem.F.type_list_extend mt_extend peU (pa_cons peU pa_nil hs) hbase hfew hline hs hplain, ho β σ F H C _ fun v F1 H1 C1 l1 r1 => by
    obtain ⟨bo', ds', h1⟩ := hi1
    obtain ⟨l, vs, rfl, q1, q2, q3⟩ := own_at C1 h1 r1
    refine ⟨.inl ⟨rfl, _, SqL.of q1⟩, he β σ F1 H1 C1 _ fun w F2 H2 C2 l2 r2 => ?_⟩
    obtain ⟨m, e2, fm, ⟨ws, hm, da⟩, _, _⟩ := r2
    subst e2
    obtain ⟨l', vs', e', q4, q5, q6⟩ := own_at C2 hi q3
    cases e'
    refine ⟨l, m, vs', ws, rfl, rfl, q4, hm, by rw [q5.length, da.length]; exact hl, ?_⟩
    exact k _ F2 _ (C2.put (c' := .lst (ds ++ es')) hi q6 ⟨_, upd_same, q5.append da⟩) (l1.trans l2) .non⟩
/-- pop(k) -/
theorem ev_popAt {i : Nat} {bo : Option Nat} {ds : List D} {j : Int} {k : Nat} (ho : EV X a ρ (.own i) ρ1) (he : EV X e ρ1 (.d (.int j)) ρ2) (hi1 : ∃ bo' ds', ρ1[i]? = some (Sl.own bo' (.lst ds'))) (hi : ρ2[i]? = some (Sl.own bo (.lst ds))) (hj : j = (k : Int)) (hk : ds[k]? = some d) (hz : k < 2 ^ 62)
    (hbase : attributeBase a "pop" X.env (eval a X.env) = eval a X.env := by rfl)
    (hfew : ((backTo cpos (starEach [e] X.env)).all (fun x => !x.1) && (backToKw cpos (keywordEach [] X.env)).all (fun x => x.1.isSome)
      && decide ([e].length + ([] : List Keyword).length + (if ([] : List Keyword).isEmpty then 0 else 1) < 30)) = true := by rfl)
    (hline : (apos.endLine == cpos.line) = true := by rfl) (hs : starEach [e] X.env = (false, eval e X.env) :: starEach [] X.env := by rfl) (hplain : (backTo cpos (starEach [] X.env)).any (·.1) = false := by rfl) :
    EV X (.Call (.Attribute a "pop" apos) [e] [] cpos) ρ (.d d) (ρ2.set i (.own bo (.lst (ds.eraseIdx k)))) := .mk fun β σ F H C Q kk =>
  ⟨_, pe_bm PySem.F.plainAttrs_list PySem.F.slot_list_pop PySem.F.type_list_pop mt_popAt peU (pa_cons peU pa_nil hs) hbase hfew hline hs hplain, ho β σ F H C _ fun v F1 H1 C1 l1 r1 => by
    obtain ⟨bo', ds', h1⟩ := hi1
    obtain ⟨l, vs, rfl, q1, q2, q3⟩ := own_at C1 h1 r1
    refine ⟨.inl ⟨rfl, _, SqL.of q1⟩, he β σ F1 H1 C1 _ fun w F2 H2 C2 l2 r2 => ?_⟩
    obtain rfl := Da.int_eq r2
    obtain ⟨l', vs', e', q4, q5, q6⟩ := own_at C2 hi q3
    cases e'
    obtain ⟨u, g1, g2⟩ := q5.get hk
    have hlt := (List.getElem?_eq_some_iff.mp g1).1
    refine ⟨l, vs', j, k, u, rfl, rfl, q4, by omega, by omega, ?_, g1, ?_⟩
    · subst hj
      exact (ixN_seq (ixN_nat hlt)).1
    · exact kk _ F2 _ (C2.put (c' := .lst (ds.eraseIdx k)) hi q6 ⟨_, upd_same, q5.eraseIdx k⟩) (l1.trans l2) g2⟩
/-- pop() -/
theorem ev_pop {i : Nat} {bo : Option Nat} {ds : List D} (ho : EV X a ρ (.own i) ρ1) (hi : ρ1[i]? = some (Sl.own bo (.lst ds))) (hk : ds[ds.length - 1]? = some d)
    (hbase : attributeBase a "pop" X.env (eval a X.env) = eval a X.env := by rfl) (hline : (apos.endLine == cpos.line) = true := by rfl) :
    EV X (.Call (.Attribute a "pop" apos) [] [] cpos) ρ (.d d) (ρ1.set i (.own bo (.lst ds.dropLast))) := .mk fun β σ F H C Q kk =>
  ⟨_, pe_bm0 PySem.F.plainAttrs_list PySem.F.slot_list_pop PySem.F.type_list_pop mt_pop peU hbase hline, ho β σ F H C _ fun v F1 H1 C1 l1 r1 => by
    obtain ⟨l, vs, rfl, q1, q2, q3⟩ := own_at C1 hi r1
    obtain ⟨u, g1, g2⟩ := q2.get hk
    refine ⟨.inl ⟨rfl, _, SqL.of q1⟩, l, vs, u, rfl, rfl, q1, by rw [q2.length]; exact g1, ?_⟩
    have ed : DaAll X.K F1 vs.dropLast ds.dropLast := by
      rw [List.dropLast_eq_take, List.dropLast_eq_take, q2.length]
      exact q2.take _
    exact kk _ F1 _ (C1.put (c' := .lst ds.dropLast) hi q3 ⟨_, upd_same, ed⟩) l1 g2⟩
/-- xs[k] = v -/
theorem es_setItem {i k : Nat} {bo : Option Nat} {ds : List D} {j : Int} {N : SN} {o ix v : Expr} {pos' spos : Pos} (hv : EV X v ρ (.d d) ρ1) (ho : EV X o ρ1 (.own i) ρ2) (hix : EV X ix ρ2 (.d (.int j)) ρ3) (hi : ρ3[i]? = some (Sl.own bo (.lst ds))) (hj : j = (k : Int)) (hk : k < ds.length)
    (h : N.nx (ρ3.set i (.own bo (.lst (ds.set k d)))))
    (hs : swapsWithSole [Expr.Subscript o ix pos'] v spos.line X.env = pure false := by rfl) (hw : swappedStores [Expr.Subscript o ix pos'] v X.env = pure none := by rfl) (h1 : (assignEach [Expr.Subscript o ix pos'] X.env).map (·.2) = [assign (Expr.Subscript o ix pos') X.env] := by rfl)
    (ha : ∀ v, assign (.Subscript o ix pos') X.env v = (do
      let ov ← holding [v] (eval o X.env)
      let iv ← holding [v, ov] (eval ix X.env)
      standAt pos'
      holding [v, ov, iv] (setItem ov iv v)
      release [v, ov, iv] []) := by intro _; rfl) : ES1 X (.Assign [.Subscript o ix pos'] v spos) ρ N := .mk fun β σ F H C =>
  .of (ps_asg peU (pg_sub peU peU set_list ha) hs hw h1) (hv β σ F H C _ fun w F1 H1 C1 l1 r1 => ho β σ F1 H1 C1 _ fun u F2 H2 C2 l2 r2 => hix β σ F2 H2 C2 _ fun z F3 H3 C3 l3 r3 => by
    obtain rfl := Da.int_eq r3
    obtain ⟨l, vs, rfl, q1, q2, q3⟩ := own_at C3 hi r2
    subst hj
    refine ⟨l, vs, (k : Int), k, rfl, rfl, q1, ixN_nat (by rw [q2.length]; exact hk), ?_⟩
    exact ⟨_, F3, C3.put (c' := .lst (ds.set k d)) hi q3 ⟨_, upd_same, q2.set (Da.mono (l2.trans l3) r1) k⟩, h⟩)
end
end OX
set_option Elab.async false
set_option linter.all false
set_option maxRecDepth 100000
set_option maxHeartbeats 2000000
/-! OXenum: enumerate over a tuple. -/
namespace OX
open PySem L2 PyProof.Rows
section
variable {prog : Program} {w : World} {A : Around} {E : Value → Shared → Prop} {s : Shared}
theorem enum_newT (l : Addr) (items : Array Value) (n : Nat) (dct : Option Addr) (sl : Array (Option Value)) :
    Meets (Builtin.«enumerate.__new__» ⟨[.type "enumerate", .ref l], []⟩) (fun _ R s => s.heap.get? l = some { cls := .type "tuple", dict := dct, data := .seq items n, slots := sl } ∧
      R (.ok (.ret (.ref (s.heap.push { cls := .type "tuple_iterator", data := .fields #[.ref l, .int 0 0] }).objs.size)))
        { s with heap := (s.heap.push { cls := .type "tuple_iterator", data := .fields #[.ref l, .int 0 0] }).push { cls := .type "enumerate", data := .fields #[.none, .bool false, .ref s.heap.objs.size, rawInt 0, .none, .none] } }) :=
  .of_wp fun prog w A R s h => by
    obtain ⟨hp, g, d, tk, os⟩ := s
    obtain ⟨hl, h⟩ := h
    have hsub := sub_enumerate
    have hL : Heap.IsTuple (Shared.heap ⟨hp, g, d, tk, os⟩) l items := ⟨_, hl, rfl, n, rfl⟩
    wp_walk using AutoSeq1.wpAny_loadPart' hl
    refine wpAny_stack_any fun st => wpAny_pure ?_
    split
    · rename_i c _ _ _ _ _
      cases (c == Value.type "enumerate")
      · wp_walk using AutoSeq1.wpAny_loadPart' hl, wpAny_pyIter_tuple hL
        exact ⟨_, rfl, h⟩
      · wp_walk using AutoSeq1.wpAny_loadPart' hl, wpAny_pyIter_tuple hL
        exact ⟨_, rfl, h⟩
    · wp_walk using AutoSeq1.wpAny_loadPart' hl, wpAny_pyIter_tuple hL
      exact ⟨_, rfl, h⟩
theorem call_enumT {l : Addr} {items : Array Value} {Q : Value → Shared → Prop} (hL : s.heap.IsTuple l items)
    (h : ∀ h', IsEnum h' (s.heap.objs.size + 1) s.heap.objs.size 0 .none → h'.IsTupleIter s.heap.objs.size l 0 → h'.objs.size = s.heap.objs.size + 2 →
      (∀ b o, s.heap.get? b = some o → h'.get? b = some o) → Q (.ref (s.heap.objs.size + 1)) { s with heap := h' }) :
    wpAny (model prog w) A (call (.type "enumerate") [.ref l]) Q E s := by
  obtain ⟨⟨c, dct, dt, sl⟩, hl, hc, n, hd⟩ := hL
  replace hc : c = .type "tuple" := hc
  replace hd : dt = .seq items n := hd
  subst hc hd
  refine callType_new F.called_enumerate (by decide) (F.typeCall_enumerate_1 _) (F.newCall_enumerate_1 _) (fun obj => F.args_object_init_2 obj _) F.entry_enumerate_new (enum_newT l items n dct sl) ⟨hl, ?_⟩
  have hz : (s.heap.push { cls := .type "tuple_iterator", data := .fields #[.ref l, .int 0 0] }).objs.size = s.heap.objs.size + 1 := Heap.size_push ..
  show _ ∧ _
  rw [hz]
  have he : IsEnum ((s.heap.push { cls := .type "tuple_iterator", data := .fields #[.ref l, .int 0 0] }).push
      { cls := .type "enumerate", data := .fields #[.none, .bool false, .ref s.heap.objs.size, rawInt 0, .none, .none] }) (s.heap.objs.size + 1) s.heap.objs.size 0 .none := by
    have := Heap.get?_push_size (s.heap.push { cls := .type "tuple_iterator", data := .fields #[.ref l, .int 0 0] })
      (o := { cls := .type "enumerate", data := .fields #[.none, .bool false, .ref s.heap.objs.size, rawInt 0, .none, .none] }) rfl
    rw [hz] at this; exact this
  refine ⟨⟨_, he, rfl⟩, h _ he ⟨_, Heap.get?_push_of_some _ (Heap.get?_push_size _ rfl), rfl, rfl⟩ (by rw [Heap.size_push, hz]) fun b o x => Heap.get?_push_of_some _ (Heap.get?_push_of_some _ x)⟩
end
def IteT (K : PySem.W.Frag) (a : Addr) : It :=
  ⟨fun i H => ∃ (xs : List V) (x : V), SqT K H a xs ∧ xs[i]? = some x, fun i H v H' => ∃ T x, v = .ref T ∧ H T = none ∧ H' = upd H T (.tup [.int (i : Nat), x]) ∧ ∀ xs, SqT K H a xs → xs[i]? = some x, fun i H => ∃ xs : List V, SqT K H a xs ∧ xs.length ≤ i⟩
theorem tup_inj {X : Cx} {pins : List (Addr × Obj)} {σ : L2.St} {H : Hp} {s : Shared} {a : Addr} {xs ys : List V} (I : Inv X pins σ H s) (h : SqT X.K H a xs) (h' : SqT X.K H a ys) : xs = ys := by
  obtain ⟨its, r, ⟨o, e, _, n, d⟩, _⟩ := I.tuple h
  obtain ⟨its', r', ⟨o', e', _, n', d'⟩, _⟩ := I.tuple h'
  rw [e] at e'; cases e'
  rw [d] at d'
  injection d' with d1 _
  have : its = its' := by simpa using congrArg Array.toList d1
  subst this
  exact r.inj r'
theorem turn_enumT {P : Program} {w : World} {K : PySem.W.Frag} {elts : List Expr} {kk : Nat} {tpos : Pos} (a e it : Addr) :
    Turn P w K (.Tuple elts kk tpos) (IteT K a) [e, it] e (fun i h => (∃ old, IsEnum h e it ((i : Nat) : Int) old) ∧ h.IsTupleIter it a i ∧ e ≠ it ∧ a ≠ it ∧ a ≠ e) where
  mem := by simp
  obj := fun i h st b hb => by
    obtain ⟨⟨old, he⟩, ⟨o, ho, hc, hd⟩, _⟩ := st
    have e' : b = e ∨ b = it := by simpa using hb
    rcases e' with z | z
    · rw [z]; exact ⟨_, he, fun v q => nomatch q⟩
    · rw [z]; exact ⟨o, ho, fun v q => by rw [hd] at q; cases q⟩
  keep := fun i h h' st k => let ⟨⟨old, he⟩, hi, hne⟩ := st; ⟨⟨old, k e (by simp) _ he⟩, hi.at fun o q => k it (by simp) o q, hne⟩
  item := by
    intro X hP hw hK hc i pins s σ H E I hf st hg
    subst hP hw hK
    obtain ⟨⟨old, he⟩, hit, hne, hai, hae⟩ := st
    obtain ⟨xs, x, hq, hx⟩ := hg
    obtain ⟨its, rv, p, hz⟩ := I.tuple hq
    obtain ⟨u, hu, ru⟩ := rv.get hx
    have hel : e < s.heap.objs.size := Heap.lt_size he
    have hil : it < s.heap.objs.size := by obtain ⟨_, q, _⟩ := hit; exact Heap.lt_size q
    have hpT : s.heap.IsTuple a its.toArray := p
    have hlt : i < its.toArray.size := by
      have := (List.getElem?_eq_some_iff.mp hu).1
      simpa using this
    refine wpAny_pyNext_enum_itemC (Draws.tuple (A := X.A.in1) (show X.A.in1.handled = none from I.ok.hd hc) it a hai its.toArray) he ⟨hit, hpT⟩ hlt hne (by simp [hne, Ne.symm hae]) fun y h' tk hy ho hst hT hsz hk => ?_
    have hy : its.toArray[i]? = some y := hy
    obtain rfl : y = u := by
      have : its.toArray[i]? = some u := by simpa using hu
      rw [hy] at this
      exact Option.some.inj this
    refine ⟨_, rfl, wpAny_letOwnedTupleGo_enum (s := { s with heap := h', toks := tk + 1 }) ho fun h'' he' sb => ?_⟩
    have hT2 : h''.get? s.heap.objs.size = some { cls := .type "tuple", data := .seq #[.int i tk, y] } := (sb.2 _ (Nat.ne_of_gt hel)).trans hT
    have new : ObjOk X.prog X.w (upd H s.heap.objs.size (.tup [.int (i : Nat), x])) h'' s.heap.objs.size (.tup [.int (i : Nat), x]) :=
      ⟨by show 2 ≤ sizeLine; decide, [.int i tk, y], .cons ⟨_, rfl⟩ (.cons ru .nil), ⟨_, hT2, rfl, _, rfl⟩⟩
    have I1 : Inv X pins σ (upd H s.heap.objs.size (.tup [.int (i : Nat), x])) { s with heap := h'', toks := tk + 1 } :=
      I.turnedNew (ch := [e, it]) (fun b ob hb q => (sb.2 b (fun z => hb (by simp [z]))).trans (hk b ob (fun z => hb (by simp [z])) (fun z => hb (by simp [z])) q)) hf (Nat.le_refl _) new
    refine ⟨.ref s.heap.objs.size, _, I1, rfl, ⟨_, x, rfl, I.hok.fresh (Nat.le_refl _), rfl, fun ys hy => by rw [tup_inj I hy hq]; exact hx⟩, ⟨⟨y, ?_⟩, hst.1.at fun o q => (sb.2 it (Ne.symm hne)).trans q, hne, hai, hae⟩, fun b hb => ?_⟩
    · have e1 : ((i + 1 : Nat) : Int) = (i : Int) + 1 := by omega
      rw [e1]; exact he'
    · have hb' : b < s.heap.objs.size := by
        have e' : b = e ∨ b = it := by simpa using hb
        rcases e' with z | z
        · rw [z]; exact hel
        · rw [z]; exact hil
      rw [upd_ne (Nat.ne_of_lt hb')]
      exact (hf b hb).1
  done := by
    intro X hP hw hK hc i pins s σ H E I hf st hg
    subst hP hw hK
    obtain ⟨⟨old, he⟩, hit, hne, hai, hae⟩ := st
    obtain ⟨xs, hq, hx⟩ := hg
    obtain ⟨its, rv, p, hz⟩ := I.tuple hq
    obtain ⟨f0, f1, f2, f3, f4, f5⟩ := hf it (by simp)
    have hl := rv.length
    have hpT : s.heap.IsTuple a its.toArray := p
    have D : Draws X.prog X.w X.A.in1 it [it, a] i (fun _ _ => True) (fun j h => j = i ∧ h.IsTupleIter it a i ∧ h.IsTuple a its.toArray) := {
      live := fun _ _ st => let ⟨o, ho, _⟩ := st.2.1; ⟨o, ho⟩
      frame := fun _ _ _ st hk => ⟨st.1, st.2.1.at fun o e => hk it (by simp) o e, st.2.2.at fun o e => hk a (by simp) o e⟩
      item := fun j s Q E hj st _ => absurd st.1 (Nat.ne_of_lt hj)
      done := fun s Q E st hE => wpAny_nextOf_tuple_end (show X.A.in1.handled = none from I.ok.hd hc) st.2.1 st.2.2 (by simp; omega) hE }
    exact wpAny_pyNext_enum_endD D he ⟨rfl, hit, hpT⟩ fun h' eb => ⟨rfl, I.turned (t' := s.toks) (fun b o hb q => eb b o hb q) f0 f1 f3 f4 f5⟩
  self := fun A i s Q E st h => let ⟨⟨_, he⟩, _⟩ := st; wpAny_pyIter_enum he h
def iEnumT (K : PySem.W.Frag) (ta : TA) : TI := fun σ H R => ta σ H fun vs H1 => ∃ a xs, vs = [.ref a] ∧ SqT K H1 a xs ∧ R (IteT K a) H1
theorem pi_enumT {X : Cx} {e : Expr} {ta : TA} {p pos tpos : Pos} {elts : List Expr} {kk : Nat} (hg : Gl X "enumerate") (hm : X.mg "enumerate" = none) (ha : PA X [e] ta) (hs : starEach [e] X.env = [(false, eval e X.env)] := by rfl) :
    PI X (.Tuple elts kk tpos) (.Call (.Name "enumerate" p) [e] [] pos) (iEnumT X.K ta) := by
  refine ⟨fun pins s σ H R I h => ?_⟩
  refine Call_ (ld_blt I hg hm boot_enumerate (PyProof.Rows.callWith_type1 (thn (ha.run pos pins s σ H _ I h) fun us s1 ⟨vs, H1, I1, r1, q1⟩ => ?_) hs rfl))
  obtain ⟨a, xs, ex, hq, q⟩ := q1
  subst ex
  cases r1 with
  | cons r rr =>
    cases rr
    cases r
    obtain ⟨its, rv, p', hz⟩ := I1.tuple hq
    have hp : s1.heap.IsTuple a its.toArray := p'
    have hal : a < s1.heap.objs.size := by obtain ⟨_, q, _⟩ := hp; exact Heap.lt_size q
    refine call_enumT hp fun h' he hit hsz hk => wpAny_pyIter_enum he ?_
    have I2 : Inv X pins σ H1 { s1 with heap := h' } := I1.kept (t' := s1.toks) hk
    refine ⟨s1.heap.objs.size + 1, [s1.heap.objs.size + 1, s1.heap.objs.size], _, _, H1, rfl, I2, turn_enumT a (s1.heap.objs.size + 1) s1.heap.objs.size, ⟨⟨.none, he⟩, hit, Nat.succ_ne_self _, Nat.ne_of_lt hal, Nat.ne_of_lt (Nat.lt_succ_of_lt hal)⟩, fun b hb => ?_, q⟩
    have e' : b = s1.heap.objs.size + 1 ∨ b = s1.heap.objs.size := by simpa using hb
    have hle : s1.heap.objs.size ≤ b := by
      rcases e' with z | z
      · rw [z]; exact Nat.le_add_right _ _
      · rw [z]; exact Nat.le_refl _
    exact I1.fpOk hle (I1.hok.fresh hle)
end OX
set_option Elab.async false
set_option linter.all false
set_option maxRecDepth 100000
set_option maxHeartbeats 1000000
/-! OX7: dicts, index, len(set(..)), enumerate, what a def promises and its call. -/
namespace OX
open PySem L2

/-! ### dicts at the level of data -/
def getK (kvs : List (Key × D)) (k : Key) : Option D := (kvs.find? fun kv => decide (kv.1 = k)).map (·.2)
def setK (kvs : List (Key × D)) (k : Key) (v : D) : List (Key × D) :=
  if (kvs.any fun kv => decide (kv.1 = k)) = true then kvs.map (fun kv => if kv.1 = k then (kv.1, v) else kv) else kvs ++ [(k, v)]
def dictD (kvs : List (Key × D)) : D := .dict (kvs.map fun p => (kD p.1, p.2))
section
variable {K : PySem.W.Frag} {F : Hp}
theorem kD_kV (k : Key) : Da K F (kV k) (kD k) := by
  cases k with
  | inl i => exact .int i
  | inr x => exact .str x
theorem Da.key_eq {v : V} {k : Key} (h : Da K F v (kD k)) : v = kV k := by
  cases k with
  | inl i => exact h.int_eq
  | inr x => exact h.str_eq
theorem KVok.get : ∀ {ws : List (Key × V)} {kvs : List (Key × D)}, KVok K F ws kvs → ∀ k, (∀ d, getK kvs k = some d → ∃ v, valV ws k = some v ∧ Da K F v d) ∧ (getK kvs k = none → valV ws k = none)
  | _, _, .nil, k => ⟨fun d h => by simp [getK] at h, fun _ => rfl⟩
  | _, _, .cons (a := a) (b := b) r t, k => by
    have ih := KVok.get t k
    obtain ⟨e, da⟩ := r
    unfold getK at ih ⊢
    rw [List.find?_cons]
    by_cases z : b.1 = k
    · rw [decide_eq_true z]
      rw [valV_pos (e.trans z)]
      exact ⟨fun d h => ⟨_, rfl, by cases h; exact da⟩, fun h => by cases h⟩
    · rw [decide_eq_false z]
      rw [valV_neg (by rw [e]; exact z)]
      exact ih
theorem KVok.keys : ∀ {ws : List (Key × V)} {kvs : List (Key × D)}, KVok K F ws kvs → ws.map (·.1) = kvs.map (·.1)
  | _, _, .nil => rfl
  | _, _, .cons r t => by rw [List.map_cons, List.map_cons, r.1, KVok.keys t]
theorem KVok.length {ws : List (Key × V)} {kvs : List (Key × D)} (h : KVok K F ws kvs) : ws.length = kvs.length := Paired.length h
theorem KVok.any {ws : List (Key × V)} {kvs : List (Key × D)} (h : KVok K F ws kvs) (k : Key) : (ws.any fun kv => decide (kv.1 = k)) = (kvs.any fun kv => decide (kv.1 = k)) := by
  have e := h.keys
  have a1 : (ws.any fun kv => decide (kv.1 = k)) = ((ws.map (·.1)).any fun x => decide (x = k)) := by rw [List.any_map]; rfl
  have a2 : (kvs.any fun kv => decide (kv.1 = k)) = ((kvs.map (·.1)).any fun x => decide (x = k)) := by rw [List.any_map]; rfl
  rw [a1, a2, e]
theorem KVok.append : ∀ {ws ws' : List (Key × V)} {kvs kvs' : List (Key × D)}, KVok K F ws kvs → KVok K F ws' kvs' → KVok K F (ws ++ ws') (kvs ++ kvs')
  | _, _, _, _, .nil, b => b
  | _, _, _, _, .cons h t, b => .cons h (KVok.append t b)
theorem KVok.map (k : Key) {v : V} {d : D} (da : Da K F v d) : ∀ {ws : List (Key × V)} {kvs : List (Key × D)}, KVok K F ws kvs → KVok K F (ws.map fun kv => if kv.1 = k then (kv.1, v) else kv) (kvs.map fun kv => if kv.1 = k then (kv.1, d) else kv)
  | _, _, .nil => .nil
  | _, _, .cons (a := a) (b := b) r t => by
    rw [List.map_cons, List.map_cons]
    refine .cons ?_ (KVok.map k da t)
    obtain ⟨e, dd⟩ := r
    by_cases z : b.1 = k
    · rw [if_pos z, if_pos (e.trans z)]
      exact ⟨e, da⟩
    · rw [if_neg z, if_neg (by rw [e]; exact z)]
      exact ⟨e, dd⟩
theorem KVok.put {ws : List (Key × V)} {kvs : List (Key × D)} (h : KVok K F ws kvs) (k : Key) {v : V} {d : D} (da : Da K F v d) : KVok K F (putK ws k v) (setK kvs k d) := by
  unfold putK setK
  rw [h.any k]
  split
  · exact KVok.map k da h
  · exact h.append (.cons ⟨rfl, da⟩ .nil)
theorem KVok.daKV : ∀ {ws : List (Key × V)} {kvs : List (Key × D)}, KVok K F ws kvs → DaKV K F ws (kvs.map fun p => (kD p.1, p.2))
  | _, _, .nil => .nil
  | _, _, .cons (a := a) (b := b) r t => by
    obtain ⟨e, da⟩ := r
    rw [List.map_cons]
    have : a = (b.1, a.2) := by rw [← e]
    rw [this]
    exact .cons rfl da (KVok.daKV t)
theorem kD_inj : ∀ {a b : Key}, kD a = kD b → a = b
  | .inl _, .inl _, h => by cases h; rfl
  | .inr _, .inr _, h => by cases h; rfl
  | .inl _, .inr _, h => by cases h
  | .inr _, .inl _, h => by cases h
theorem DaKV.kv : ∀ {ws : List (Key × V)} {kvs : List (Key × D)}, DaKV K F ws (kvs.map fun p => (kD p.1, p.2)) → KVok K F ws kvs
  | _, [], h => by cases h; exact .nil
  | _, q :: kvs, h => by
    rw [List.map_cons] at h
    cases h with
    | cons e a b => exact .cons ⟨(kD_inj e).symm, a⟩ (DaKV.kv b)
end
theorem setK_length (kvs : List (Key × D)) (k : Key) (d : D) : (setK kvs k d).length ≤ kvs.length + 1 := by
  unfold setK
  split
  · rw [List.length_map]; omega
  · rw [List.length_append, List.length_singleton]; omega

section
variable {X : Cx} {ρ ρ1 ρ2 ρ3 : List Sl} {r ra rb rc : Rs} {e f a b c o ix : Expr} {es : List Expr} {pos p apos cpos : Pos} {x : Str} {d : D}
/-- what can be looked up -/
structure DictR (ρ : List Sl) (r : Rs) (kvs : List (Key × D)) : Prop where
  or : r = .d (dictD kvs) ∨ ∃ i bo, r = .own i ∧ ρ[i]? = some (Sl.own bo (.dct kvs))
theorem dr_d {kvs : List (Key × D)} : DictR ρ (.d (dictD kvs)) kvs := ⟨.inl rfl⟩
theorem dr_own {kvs : List (Key × D)} {i : Nat} {bo : Option Nat} (h : ρ[i]? = some (Sl.own bo (.dct kvs))) : DictR ρ (.own i) kvs := ⟨.inr ⟨i, bo, rfl, h⟩⟩
theorem own_dict {K : PySem.W.Frag} {β : Bs} {σ : L2.St} {F H : Hp} {v : V} {i : Nat} {bo : Option Nat} {kvs : List (Key × D)} (C : Conc K β ρ σ F H) (hi : ρ[i]? = some (Sl.own bo (.dct kvs))) (r : σ[i]? = some (some v)) : ∃ l ws, v = .ref l ∧ H l = some (.dK ws) ∧ KVok K F ws kvs ∧ σ[i]? = some (some (V.ref l)) := by
  obtain ⟨l, e1, e2, ⟨vs, h, da⟩, _⟩ := C.sl i _ hi
  rw [e1] at r
  cases r
  exact ⟨l, vs, rfl, h, da, e1⟩
theorem DictR.get {K : PySem.W.Frag} {β : Bs} {σ : L2.St} {F H : Hp} {v : V} {kvs : List (Key × D)} (C : Conc K β ρ σ F H) (s : DictR ρ r kvs) (h : RsOk K β ρ σ F H v r) : ∃ a ws, v = .ref a ∧ Rd H a (.dK ws) ∧ KVok K F ws kvs := by
  rcases s with rfl | ⟨i, bo, rfl, hi⟩
  · obtain ⟨a, ws, e, h1, h2⟩ := Da.dict_ref h
    exact ⟨a, ws, e, C.le.rd h1, h2.kv⟩
  · obtain ⟨l, ws, e, h1, h2, _⟩ := own_dict C hi h
    exact ⟨l, ws, e, .inl h1, h2⟩
theorem ev_dnew : EV X (.Dict [] [] pos) ρ (.new (.dct [])) ρ := .mk fun β σ F H C Q k => ⟨_, pe_dnewK, fun p hp => k _ F _ (C.allocU hp) (.refl F) ⟨p, rfl, C.le.none hp, ⟨[], upd_same, .nil⟩, C.room hp, fun o => absurd hp (C.ownF o).2.2⟩⟩
/-- d[k] -/
theorem ev_dget {kvs : List (Key × D)} {k : Key} (hu : X.A.units + 1 < cLine) (ho : EV X o ρ ra ρ1) (hi : EV X ix ρ1 (.d (kD k)) ρ2) (s : DictR ρ2 ra kvs) (hd : getK kvs k = some d) (hst : ra.st = true := by rfl) (hs : NoSl ix := by exact fun _ _ => rfl) : EV X (.Subscript o ix pos) ρ (.d d) ρ2 := .mk fun β σ F H C Q kk =>
  ⟨_, pe_dget hu peU peU hs, ho β σ F H C _ fun v F1 H1 C1 l1 r1 => hi β σ F1 H1 C1 _ fun w F2 H2 C2 l2 r2 => by
    obtain ⟨a, ws, rfl, g1, g2⟩ := s.get C2 (r1.mono l2 hst)
    obtain rfl := Da.key_eq r2
    obtain ⟨u, q1, q2⟩ := (g2.get k).1 d hd
    exact ⟨a, u, rfl, .inl ⟨ws, k, g1, rfl, q1.symm⟩, kk u F2 H2 C2 (l1.trans l2) q2⟩⟩
/-- k in d, k not in d -/
theorem et_din {kvs : List (Key × D)} {k : Key} (hu : X.A.units + 1 < cLine) (hi : EV X ix ρ (.d (kD k)) ρ1) (ho : EV X o ρ1 ra ρ2) (s : DictR ρ2 ra kvs) (hm : behindInMarks .In o = false := by rfl) : ET X (.Compare ix [.In] [o] pos) ρ (getK kvs k).isSome ρ2 := .mk fun β σ F H C Q kk =>
  ⟨_, pt_cmp (pc_din hu peU peU) hm, hi β σ F H C _ fun v F1 H1 C1 l1 r1 => ho β σ F1 H1 C1 _ fun w F2 H2 C2 l2 r2 => by
    obtain ⟨a, ws, rfl, g1, g2⟩ := s.get C2 r2
    obtain rfl := Da.key_eq r1
    refine ⟨a, _, rfl, .inl ⟨ws, k, g1, rfl, rfl⟩, _, rfl, ?_⟩
    have e : (valV ws k).isSome = (getK kvs k).isSome := by
      cases q : getK kvs k with
      | none => rw [(g2.get k).2 q]; rfl
      | some d =>
        obtain ⟨u, q1, _⟩ := (g2.get k).1 d q
        rw [q1]
        rfl
    rw [e]
    exact kk F2 H2 C2 (l1.trans l2)⟩
theorem et_dnin {kvs : List (Key × D)} {k : Key} (hu : X.A.units + 1 < cLine) (hi : EV X ix ρ (.d (kD k)) ρ1) (ho : EV X o ρ1 ra ρ2) (s : DictR ρ2 ra kvs) (hm : behindInMarks .NotIn o = false := by rfl) : ET X (.Compare ix [.NotIn] [o] pos) ρ (!(getK kvs k).isSome) ρ2 := .mk fun β σ F H C Q kk =>
  ⟨_, pt_cmp (pc_dnotin hu peU peU) hm, hi β σ F H C _ fun v F1 H1 C1 l1 r1 => ho β σ F1 H1 C1 _ fun w F2 H2 C2 l2 r2 => by
    obtain ⟨a, ws, rfl, g1, g2⟩ := s.get C2 r2
    obtain rfl := Da.key_eq r1
    refine ⟨a, _, rfl, .inl ⟨ws, k, g1, rfl, rfl⟩, _, rfl, ?_⟩
    have e : (valV ws k).isSome = (getK kvs k).isSome := by
      cases q : getK kvs k with
      | none => rw [(g2.get k).2 q]; rfl
      | some d =>
        obtain ⟨u, q1, _⟩ := (g2.get k).1 d q
        rw [q1]
        rfl
    rw [e]
    exact kk F2 H2 C2 (l1.trans l2)⟩
/-- d[k] = v -/
theorem es_dput {kvs : List (Key × D)} {k : Key} {i : Nat} {bo : Option Nat} {v : Expr} {pos' spos : Pos} {N : SN} (hu : X.A.units + 1 < cLine) (hv : EV X v ρ (.d d) ρ1) (ho : EV X o ρ1 (.own i) ρ2) (hix : EV X ix ρ2 (.d (kD k)) ρ3) (hi : ρ3[i]? = some (Sl.own bo (.dct kvs))) (hl : kvs.length < sizeLine)
    (h : N.nx (ρ3.set i (.own bo (.dct (setK kvs k d))))) (hs : swapsWith v (some (.Subscript o ix pos')) spos.line X.env = pure false := by rfl) : ES1 X (.Assign [.Subscript o ix pos'] v spos) ρ N := .mk fun β σ F H C =>
  .of (ps_dput hu peU peU peU hs) (hv β σ F H C _ fun w F1 H1 C1 l1 r1 => ho β σ F1 H1 C1 _ fun u F2 H2 C2 l2 r2 => hix β σ F2 H2 C2 _ fun z F3 H3 C3 l3 r3 => by
    obtain rfl := Da.key_eq r3
    obtain ⟨l, ws, rfl, q1, q2, q3⟩ := own_dict C3 hi r2
    exact ⟨l, _, rfl, .inl ⟨ws, k, q1, rfl, by rw [q2.length]; exact hl, rfl⟩, _, F3, C3.put (c' := .dct (setK kvs k d)) hi q3 ⟨_, upd_same, q2.put k (Da.mono (l2.trans l3) r1)⟩, h⟩)
/-- d.setdefault(k, v) -/
theorem ev_setd {kvs : List (Key × D)} {k : Key} {i : Nat} {bo : Option Nat} {z : D} (ho : EV X o ρ (.own i) ρ1) (hx : EV X ix ρ1 (.d (kD k)) ρ2) (hf : EV X f ρ2 (.d d) ρ3) (h1 : ∃ bo' kvs', ρ1[i]? = some (Sl.own bo' (.dct kvs'))) (hi : ρ3[i]? = some (Sl.own bo (.dct kvs))) (hl : kvs.length < sizeLine) (m : M2 X o "setdefault" apos ix f cpos)
    (hz : z = (getK kvs k).getD d) (hr : rc = .d z) : EV X (.Call (.Attribute o "setdefault" apos) [ix, f] [] cpos) ρ rc (ρ3.set i (.own bo (.dct (if (getK kvs k).isSome then kvs else setK kvs k d)))) := .mk fun β σ F H C Q kk => by
  subst hr
  refine ⟨_, pe_dsetd peU peU peU m, ho β σ F H C _ fun v F1 H1 C1 l1 r1 => ?_⟩
  obtain ⟨bo', kvs', h1⟩ := h1
  obtain ⟨l, ws', rfl, q1, q2, q3⟩ := own_dict C1 h1 r1
  refine ⟨l, rfl, .inl ⟨ws', .inl q1⟩, hx β σ F1 H1 C1 _ fun w F2 H2 C2 l2 r2 => hf β σ F2 H2 C2 _ fun u F3 H3 C3 l3 r3 => ?_⟩
  obtain rfl := Da.key_eq r2
  obtain ⟨l', ws, e', q4, q5, q6⟩ := own_dict C3 hi q3
  cases e'
  refine ⟨ws, k, q4, rfl, by rw [q5.length]; exact hl, fun y hy => ?_, fun hy => ?_⟩
  · cases q : getK kvs k with
    | none =>
      rw [(q5.get k).2 q] at hy
      cases hy
    | some dd =>
      rw [q] at hz kk
      obtain ⟨y', g1, g2⟩ := (q5.get k).1 dd q
      rw [hy] at g1
      cases g1
      have e2 : ρ3.set i (.own bo (.dct kvs)) = ρ3 := by
        refine List.ext_getElem? fun j => ?_
        by_cases z : i = j
        · subst z
          rw [List.getElem?_set_self (List.getElem?_eq_some_iff.mp hi).1, hi]
        · rw [List.getElem?_set_ne z]
      refine kk y F3 H3 ?_ ((l1.trans l2).trans l3) (by rw [hz]; exact g2)
      show Conc X.K β (ρ3.set i (.own bo (.dct kvs))) σ F3 H3
      rw [e2]
      exact C3
  · cases q : getK kvs k with
    | some dd =>
      obtain ⟨y', g1, g2⟩ := (q5.get k).1 dd q
      rw [hy] at g1
      cases g1
    | none =>
      rw [q] at hz kk
      exact kk u F3 _ (C3.put (c' := .dct (setK kvs k d)) hi q6 ⟨_, upd_same, q5.put k r3⟩) ((l1.trans l2).trans l3) (by rw [hz]; exact r3)
theorem len_dict : CallR X (.builtin "len") (fun xs H Q => ∃ a kvs, xs = [V.ref a] ∧ Rd H a (.dK kvs) ∧ Q (.int kvs.length) H) := by
  intro pins s σ H xs us Q I r h
  obtain ⟨a, kvs, rfl, ha, q⟩ := h
  obtain ⟨u, rfl, ru⟩ := vals1 r
  cases ru
  exact d_len I ha fun t s' I' => ⟨.int kvs.length, H, I', ⟨t, rfl⟩, q⟩
theorem cr_lenD {kvs : List (Key × D)} (s : DictR ρ r kvs) : CrX X (.builtin "len") [r] ρ (.d (.int kvs.length)) := ⟨_, len_dict, fun β σ F H vs C r1 Q k => by
  obtain ⟨v, ev, y1⟩ := r1.one
  clear r1
  subst ev
  obtain ⟨a, ws, rfl, h1, h2⟩ := s.get C y1
  refine ⟨a, ws, rfl, h1, ?_⟩
  rw [h2.length]
  exact k _ F H C (.refl F) (.int _)⟩
/-- a dict of one's own given away -/
theorem EV.fzD {i : Nat} {kvs : List (Key × D)} (h : EV X e ρ (.own i) ρ1) (hi : ρ1[i]? = some (Sl.own none (.dct kvs))) : EV X e ρ (.d (dictD kvs)) (ρ1.set i (.d (dictD kvs))) := .mk fun β σ F H C Q k => by
  refine h β σ F H C Q fun v F1 H1 C1 l1 o => ?_
  obtain ⟨l, ws, rfl, g1, g2, g3⟩ := own_dict C1 hi o
  obtain ⟨l', e1, e2, _, e4, _⟩ := C1.sl i _ hi
  rw [g3] at e1
  cases e1
  have no : ¬ Owned (ρ1.set i .no) σ l := fun ⟨j, b, c, q1, q2⟩ => by
    by_cases z : i = j
    · subst z
      have hi' : i < ρ1.length := (List.getElem?_eq_some_iff.mp hi).1
      rw [List.getElem?_set_self hi'] at q1
      cases q1
    · rw [List.getElem?_set_ne z] at q1
      exact z (C1.sep i j none b _ c l hi q1 g3 q2)
  have C2 := C1.forget i
  have le2 : Le F1 (upd F1 l (.dK ws)) := le_upd e2
  have C3 : Conc X.K β (ρ1.set i .no) σ (upd F1 l (.dK ws)) H1 := by
    refine ⟨C2.le.add g1, C2.base.trans le2, fun a q => ?_, C2.frame, C2.len, fun j s hs => ?_, C2.sep⟩
    · by_cases z : a = l
      · subst z
        exact .inr e4
      · rw [upd_ne z] at q
        exact C2.new a q
    · have q := C2.sl j s hs
      cases s with
      | no => trivial
      | d x =>
        obtain ⟨v, e1, e2⟩ := q
        exact ⟨v, e1, e2.mono le2⟩
      | own b c =>
        obtain ⟨p, e1, e2, e3, e4, e5⟩ := q
        have z : p ≠ l := fun z => by
          subst z
          exact no ⟨j, b, c, hs, e1⟩
        exact ⟨p, e1, by rw [upd_ne z]; exact e2, e3.mono le2 rfl, e4, e5⟩
  have da : Da X.K (upd F1 l (.dK ws)) (.ref l) (dictD kvs) := .dct (.inl upd_same) (g2.daKV.mono le2)
  have C4 := C3.setD i da
  have e5 : (ρ1.set i .no).set i (.d (dictD kvs)) = ρ1.set i (.d (dictD kvs)) := List.set_set ..
  have e6 : σ.set i (some (V.ref l)) = σ := by
    refine List.ext_getElem? fun j => ?_
    by_cases z : i = j
    · subst z
      rw [List.getElem?_set_self (List.getElem?_eq_some_iff.mp g3).1, g3]
    · rw [List.getElem?_set_ne z]
  rw [e5, e6] at C4
  exact k _ _ H1 C4 (l1.trans le2) da
theorem EV.nwD {kvs : List (Key × D)} (h : EV X e ρ (.new (.dct kvs)) ρ1) : EV X e ρ (.d (dictD kvs)) ρ1 := .mk fun β σ F H C Q k => by
  refine h β σ F H C Q fun v F1 H1 C1 l1 ⟨l, ev, fl, ⟨ws, hl, da⟩, hb, no⟩ => ?_
  subst ev
  have le2 : Le F1 (upd F1 l (.dK ws)) := le_upd fl
  have C2 : Conc X.K β ρ1 σ (upd F1 l (.dK ws)) H1 := by
    refine ⟨C1.le.add hl, C1.base.trans le2, fun a q => ?_, C1.frame, C1.len, fun i s hs => ?_, C1.sep⟩
    · by_cases z : a = l
      · subst z
        exact .inr hb
      · rw [upd_ne z] at q
        exact C1.new a q
    · have q := C1.sl i s hs
      cases s with
      | no => trivial
      | d x =>
        obtain ⟨v, e1, e2⟩ := q
        exact ⟨v, e1, e2.mono le2⟩
      | own b c =>
        obtain ⟨p, e1, e2, e3, e4, e5⟩ := q
        have z : p ≠ l := fun z => by
          subst z
          exact no ⟨i, b, c, hs, e1⟩
        exact ⟨p, e1, by rw [upd_ne z]; exact e2, e3.mono le2 rfl, e4, e5⟩
  exact k _ _ _ C2 (l1.trans le2) (.dct (.inl upd_same) (da.daKV.mono le2))

/-! ### a dict walked: it is locked from then on -/
def tLk (te : TE) : TE := fun σ H Q => te σ H fun v H1 => ∃ a kvs, v = .ref a ∧ ((H1 a = some (.dK kvs) ∧ ∀ od, Q v (upd H1 a (.frz od (.dK kvs)))) ∨ ∃ od, H1 a = some (.frz od (.dK kvs)) ∧ Q v H1)
theorem pe_lk {te : TE} (h : PE X e te) : PE X e (tLk te) := by
  refine ⟨fun pins s σ H Q I hw => thn (h.run pins s σ H _ I hw) fun v s1 ⟨x, H1, I1, r1, a, kvs, ex, q⟩ => ?_⟩
  subst ex
  rcases q with ⟨q1, q2⟩ | ⟨od, q1, q2⟩
  · obtain ⟨od, I2⟩ := Inv.lock I1 q1 True.intro
    exact ⟨_, _, I2, r1, q2 od⟩
  · exact ⟨_, _, I1, r1, q2⟩
theorem Conc.lock {K : PySem.W.Frag} {β : Bs} {σ : L2.St} {F H : Hp} {a : Addr} {ws : List (Key × V)} (C : Conc K β ρ σ F H) (hf : F a = some (.dK ws)) (od : Obj) : Conc K β ρ σ (upd F a (.frz od (.dK ws))) (upd H a (.frz od (.dK ws))) ∧ Le F (upd F a (.frz od (.dK ws))) := by
  have ne : ∀ b, F b = none → b ≠ a := fun b e z => by rw [z, hf] at e; cases e
  have l1 : Le F (upd F a (.frz od (.dK ws))) := fun b u e => by
    by_cases z : b = a
    · subst z
      rw [hf] at e
      cases e
      exact .inr ⟨rfl, od, upd_same⟩
    · rw [upd_ne z]
      exact .inl e
  refine ⟨C.grow l1 (fun b u e => ?_) (fun b q => ?_) fun b u e q => ?_, l1⟩
  · by_cases z : b = a
    · subst z
      rw [upd_same] at e ⊢
      exact .inl e
    · rw [upd_ne z] at e ⊢
      exact C.le b u e
  · by_cases z : b = a
    · exact .inl (by rw [z, hf]; exact fun z => nomatch z)
    · rw [upd_ne z] at q
      exact .inl q
  · rw [upd_ne (ne b e)]
    exact q
theorem keys_walk {K : PySem.W.Frag} {F : Hp} {a : Addr} {od : Obj} {ws : List (Key × V)} {kvs : List (Key × D)} (h : F a = some (.frz od (.dK ws))) (g : KVok K F ws kvs) : WalkD K (Itk a od ws) ((kvs.map fun p => kD p.1).map .one) F := by
  have w := walk_keys (d := a) (o := od) (kvs := ws)
  have e : ws.length = ((kvs.map fun p => kD p.1).map Im.one).length := by rw [List.length_map, List.length_map, g.length]
  rw [e] at w
  refine w.mono (fun H l => ?_) fun i H x H' hi l y => ?_
  · rcases l a _ h with q | ⟨z, _⟩
    · exact q
    · cases z
  · obtain ⟨y1, k, v, y2, y3⟩ := y
    subst y3
    have hk : (kvs.map (·.1))[i]? = some k := by
      rw [← g.keys, List.getElem?_map, y2]
      rfl
    rw [List.getElem?_map] at hk
    obtain ⟨q, q1, q2⟩ := Option.map_eq_some_iff.mp hk
    refine .inl ⟨kD k, ?_, y1, kD_kV k⟩
    rw [List.getElem?_map, List.getElem?_map, q1]
    simp [← q2]
theorem ei_keys {kvs : List (Key × D)} {tg : Expr} (h : EV X e ρ (.d (dictD kvs)) ρ1) : EI X tg e ρ ((kvs.map fun p => kD p.1).map .one) ρ1 := .mk fun β σ F H C R k =>
  ⟨_, pi_keys (pe_lk peU), h β σ F H C _ fun v F1 H1 C1 l1 r1 => by
    obtain ⟨a, ws, rfl, h1, h2⟩ := Da.dict_ref r1
    have g2 := h2.kv
    rcases h1 with h1 | ⟨od, h1⟩
    · rcases C1.le a _ h1 with q | ⟨_, od, q⟩
      · refine ⟨a, ws, rfl, .inl ⟨q, fun od => ?_⟩⟩
        obtain ⟨C2, l2⟩ := C1.lock h1 od
        exact ⟨a, od, rfl, .inl ⟨ws, upd_same, k _ _ _ C2 (l1.trans l2) (keys_walk upd_same (g2.mono l2))⟩⟩
      · refine ⟨a, ws, rfl, .inr ⟨od, q, ?_⟩⟩
        obtain ⟨C2, l2⟩ := C1.lock h1 od
        have e : upd H1 a (.frz od (.dK ws)) = H1 := by
          funext b
          by_cases z : b = a
          · subst z
            rw [upd_same, q]
          · rw [upd_ne z]
        rw [e] at C2
        exact ⟨a, od, rfl, .inl ⟨ws, q, k _ _ _ C2 (l1.trans l2) (keys_walk upd_same (g2.mono l2))⟩⟩
    · have q : H1 a = some (.frz od (.dK ws)) := by
        rcases C1.le a _ h1 with q | ⟨z, _⟩
        · exact q
        · cases z
      exact ⟨a, ws, rfl, .inr ⟨od, q, a, od, rfl, .inl ⟨ws, q, k _ _ _ C1 l1 (keys_walk h1 g2)⟩⟩⟩⟩
end
end OX
set_option Elab.async false
set_option linter.all false
set_option maxRecDepth 100000
set_option maxHeartbeats 1000000
/-! OX8: index, len(set(..)), enumerate, what a def promises and its call. -/
namespace OX
open PySem L2
section
variable {X : Cx} {ρ ρ1 ρ2 ρ3 : List Sl} {r ra rb rc : Rs} {e f a b c o ix tg : Expr} {es : List Expr} {pos p apos cpos : Pos} {x : Str} {d : D}

/-! ### len(set(xs)) -/
theorem Da.keys {K : PySem.W.Frag} {F : Hp} : ∀ {vs : List V} {ks : List Key}, DaAll K F vs (ks.map kD) → vs = ks.map kV
  | _, [], h => by cases h; rfl
  | _, k :: ks, h => by
    rw [List.map_cons] at h
    generalize e : kD k = z at h
    cases h with
    | cons a b =>
      subst e
      rw [Da.key_eq a, Da.keys b]
      rfl
theorem ev_lenSet {ks : List Key} {p2 q : Pos} (hc : X.calm = true) (hg : Gl X "len") (hm : X.mg "len" = none) (hg2 : Gl X "set") (hm2 : X.mg "set" = none) (ha : EV X a ρ ra ρ1) (s : ra = .d (.list (ks.map kD)) ∨ ∃ i bo, ra = .own i ∧ ρ1[i]? = some (Sl.own bo (.lst (ks.map kD)))) (hl : ks.length ≤ 4000)
    (na : starEach [a] X.env = (false, eval a X.env) :: starEach [] X.env := by rfl) : EV X (.Call (.Name "len" p) [.Call (.Name "set" p2) [a] [] q] [] pos) ρ (.d (.int (met ks).length)) ρ1 := .mk fun β σ F H C Q k =>
  ⟨_, pe_lenSetM hc hg hm hg2 hm2 peU na, ha β σ F H C _ fun v F1 H1 C1 l1 r1 => by
    obtain ⟨l, vs, rfl, q1, q2⟩ := SeqR.lst C1 s r1
    obtain rfl := Da.keys q2
    exact ⟨l, ks, rfl, q1, hl, k _ F1 H1 C1 l1 (.int _)⟩⟩

/-! ### index -/
theorem first_idx {α : Type} [DecidableEq α] (xs : List α) (x : α) (h : x ∈ xs) : ∃ j, xs.idxOf? x = some j := by
  cases e : xs.idxOf? x with
  | some j => exact ⟨j, rfl⟩
  | none =>
    rw [List.idxOf?_eq_none_iff] at e
    exact absurd h e
/-- t.index(x), t a tuple of texts -/
theorem ev_tindex {ss : List Str} {z : Str} {j : Nat} (ho : EV X a ρ (.d (.tuple (ss.map PyData.str))) ρ1) (he : EV X e ρ1 (.d (.str z)) ρ2) (hj : ss[j]? = some z) (hno : ∀ m, m < j → ss[m]? ≠ some z)
    (hbase : attributeBase a "index" X.env (eval a X.env) = eval a X.env := by rfl)
    (hfew : ((backTo cpos (starEach [e] X.env)).all (fun x => !x.1) && (backToKw cpos (keywordEach [] X.env)).all (fun x => x.1.isSome)
      && decide ([e].length + ([] : List Keyword).length + (if ([] : List Keyword).isEmpty then 0 else 1) < 30)) = true := by rfl)
    (hline : (apos.endLine == cpos.line) = true := by rfl) (hs : starEach [e] X.env = (false, eval e X.env) :: starEach [] X.env := by rfl) (hplain : (backTo cpos (starEach [] X.env)).any (·.1) = false := by rfl) :
    EV X (.Call (.Attribute a "index" apos) [e] [] cpos) ρ (.d (.int j)) ρ2 := .mk fun β σ F H C Q k =>
  ⟨_, pe_tm PySem.F.plainAttrs_tuple PySem.F.slot_tuple_index PySem.F.type_tuple_index mt_tup_index peU (pa_cons peU pa_nil hs) hbase hfew hline hs hplain, ho β σ F H C _ fun v F1 H1 C1 l1 r1 => by
    obtain ⟨t, vs, rfl, q1, q2⟩ := Da.tup_ref r1
    obtain rfl := DaAll.strs q2
    refine ⟨⟨t, _, rfl, C1.le.plT q1⟩, he β σ F1 H1 C1 _ fun w F2 H2 C2 l2 r2 => ?_⟩
    obtain rfl := Da.str_eq r2
    exact ⟨t, ss, z, j, rfl, rfl, (C2.le.plT (l2.plT q1)).sqT, hj, hno, k _ F2 H2 C2 (l1.trans l2) (.int _)⟩⟩
/-- xs.index(x), xs a list of data, by the model's own == -/
theorem ev_lindex {ds : List D} {j : Nat} {z : D} (hu : X.A.units + 65 < cLine) (ho : EV X a ρ ra ρ1) (he : EV X e ρ1 (.d d) ρ2) (s1 : ra = .d (.list ds) ∨ ∃ i bo, ra = .own i ∧ ρ1[i]? = some (Sl.own bo (.lst ds))) (s2 : ra = .d (.list ds) ∨ ∃ i bo, ra = .own i ∧ ρ2[i]? = some (Sl.own bo (.lst ds)))
    (h1 : SeqAt.shaped (.list ds) = true) (h2 : SeqAt.shaped d = true) (hj : ds[j]? = some z) (hz : PyData.eqv z d = true) (hno : ∀ (m : Nat) (z' : D), m < j → ds[m]? = some z' → PyData.eqv z' d = false) (hst : ra.st = true := by rfl)
    (hbase : attributeBase a "index" X.env (eval a X.env) = eval a X.env := by rfl)
    (hfew : ((backTo cpos (starEach [e] X.env)).all (fun x => !x.1) && (backToKw cpos (keywordEach [] X.env)).all (fun x => x.1.isSome)
      && decide ([e].length + ([] : List Keyword).length + (if ([] : List Keyword).isEmpty then 0 else 1) < 30)) = true := by rfl)
    (hline : (apos.endLine == cpos.line) = true := by rfl) (hs : starEach [e] X.env = (false, eval e X.env) :: starEach [] X.env := by rfl) (hplain : (backTo cpos (starEach [] X.env)).any (·.1) = false := by rfl) :
    EV X (.Call (.Attribute a "index" apos) [e] [] cpos) ρ (.d (.int j)) ρ2 := .mk fun β σ F H C Q k =>
  ⟨_, pe_bm PySem.F.plainAttrs_list PySem.F.slot_list_index PySem.F.type_list_index (mt_indexD hu) peU (pa_cons peU pa_nil hs) hbase hfew hline hs hplain, ho β σ F H C _ fun v F1 H1 C1 l1 r1 => by
    obtain ⟨t, vs, rfl, q1, q2⟩ := SeqR.lst C1 s1 r1
    refine ⟨.inl ⟨rfl, _, q1⟩, he β σ F1 H1 C1 _ fun w F2 H2 C2 l2 r2 => ?_⟩
    obtain ⟨t', vs', e', q3, q4⟩ := SeqR.lst C2 s2 (r1.mono l2 hst)
    cases e'
    have g1 := SeqAt.canLay_of_shaped h1
    exact ⟨t, w, d, ds, j, z, rfl, rfl, .lst q3 (DaAll.dp (q4.mono C2.le) (by simpa [PyData.canLay0] using g1)), Da.dp (Da.mono C2.le r2) (SeqAt.canLay_of_shaped h2), h1, h2, hj, hz, hno, k _ F2 H2 C2 (l1.trans l2) (.int _)⟩⟩

/-! ### enumerate -/
def enumD (ds : List D) : List Im := (List.range ds.length).map fun i => .two (.int (i : Nat)) (ds.getD i .none)
theorem enumD_len (ds : List D) : (enumD ds).length = ds.length := by simp [enumD]
theorem enumD_get {ds : List D} {i : Nat} (h : ds[i]? = some d) : (enumD ds)[i]? = some (Im.two (.int (i : Nat)) d) := by
  have hi := (List.getElem?_eq_some_iff.mp h).1
  have e := (List.getElem?_eq_some_iff.mp h).2
  simp [enumD, hi, e]
theorem ei_enumT {ds : List D} {tpos : Pos} {elts : List Expr} {kk : Nat} (hg : Gl X "enumerate") (hm : X.mg "enumerate" = none) (h : EV X e ρ (.d (.tuple ds)) ρ1) (hs : starEach [e] X.env = [(false, eval e X.env)] := by rfl) :
    EI X (.Tuple elts kk tpos) (.Call (.Name "enumerate" p) [e] [] pos) ρ (enumD ds) ρ1 := .mk fun β σ F H C R k =>
  ⟨_, pi_enumT hg hm (pa_cons peU pa_nil hs) hs, h β σ F H C _ fun v F1 H1 C1 l1 r1 => by
    obtain ⟨a, xs, rfl, h1, h2⟩ := Da.tup_ref r1
    refine ⟨a, xs, rfl, (C1.le.plT h1).sqT, k _ F1 H1 C1 l1 ⟨fun i H hi l => ?_, fun H l => ?_, fun i H v H' hi l y => ?_⟩⟩
    · rw [enumD_len, ← h2.length] at hi
      exact ⟨xs, xs[i], (l.plT h1).sqT, by simp [hi]⟩
    · rw [enumD_len, ← h2.length]
      exact ⟨xs, (l.plT h1).sqT, Nat.le_refl _⟩
    · obtain ⟨T, x, e1, e2, e3, e4⟩ := y
      obtain ⟨d, g1, g2⟩ := h2.getV (e4 xs (l.plT h1).sqT)
      exact .inr ⟨T, .int (i : Nat), x, .int (i : Nat), d, enumD_get g1, e1, e2, e3, .int _, g2⟩⟩
theorem ei_enumL {ds : List D} {tpos : Pos} {elts : List Expr} {kk : Nat} (hg : Gl X "enumerate") (hm : X.mg "enumerate" = none) (h : EV X e ρ (.d (.list ds)) ρ1) (hs : starEach [e] X.env = [(false, eval e X.env)] := by rfl) :
    EI X (.Tuple elts kk tpos) (.Call (.Name "enumerate" p) [e] [] pos) ρ (enumD ds) ρ1 := .mk fun β σ F H C R k =>
  ⟨_, pi_enum hg hm (pa_cons peU pa_nil hs) hs, h β σ F H C _ fun v F1 H1 C1 l1 r1 => by
    obtain ⟨a, xs, rfl, h1, h2⟩ := Da.list_ref r1
    refine ⟨a, xs, rfl, C1.le.sqL h1, k _ F1 H1 C1 l1 ⟨fun i H hi l => ?_, fun H l => ?_, fun i H v H' hi l y => ?_⟩⟩
    · rw [enumD_len, ← h2.length] at hi
      exact ⟨xs, xs[i], l.sqL h1, by simp [hi]⟩
    · rw [enumD_len, ← h2.length]
      exact ⟨xs, l.sqL h1, Nat.le_refl _⟩
    · obtain ⟨T, x, e1, e2, e3, e4⟩ := y
      obtain ⟨d, g1, g2⟩ := h2.getV (e4 xs (l.sqL h1))
      exact .inr ⟨T, .int (i : Nat), x, .int (i : Nat), d, enumD_get g1, e1, e2, e3, .int _, g2⟩⟩
end

/-! ### what a def promises: data in, data out -/
/-- (what is known, the heap) goes on -/
structure On (F H F' H' : Hp) (ex : Addr → Prop) : Prop where
  le : Le F F'
  le' : Le F' H'
  new : ∀ a, F' a ≠ none → F a ≠ none ∨ H a = none
  keep : ∀ a u, F a = none → H a = some u → ¬ ex a → H' a = some u
def spD (K : PySem.W.Frag) (R : List D → D → Prop) : Sp := fun vs H Q _ => ∃ F ds x, Le F H ∧ DaAll K F vs ds ∧ R ds x ∧ ∀ v F' H', On F H F' H' (fun _ => False) → Da K F' v x → Q v H'
/-- the first argument is a list that the def changes -/
def spB (K : PySem.W.Frag) (R : List D → List D → List D → D → Prop) : Sp := fun vs H Q _ => ∃ F a us ws cs ds cs' x, vs = .ref a :: us ∧ Le F H ∧ F a = none ∧ H a = some (.lst ws) ∧ DaAll K F ws cs ∧ DaAll K F us ds ∧ R cs ds cs' x ∧
  ∀ v F' H', On F H F' H' (fun b => b = a) → F' a = none → (∃ ws', H' a = some (.lst ws') ∧ DaAll K F' ws' cs') → Da K F' v x → Q v H'
/-- .. a new list comes back -/
def spN (K : PySem.W.Frag) (R : List D → List D → Prop) : Sp := fun vs H Q _ => ∃ F ds cs, Le F H ∧ DaAll K F vs ds ∧ R ds cs ∧ ∀ l F' H' ws, On F H F' H' (fun _ => False) → H l = none → F' l = none → H' l = some (.lst ws) → DaAll K F' ws cs → Q (.ref l) H'
def dsl (ds : List D) (n : Nat) : List Sl := ds.map .d ++ List.replicate (n - ds.length) .no
theorem start_get {N : List Str} {vs : List V} {i : Nat} {v : V} (h : vs[i]? = some v) : (L2.start N vs)[i]? = some (some v) := by
  have hi := (List.getElem?_eq_some_iff.mp h).1
  unfold L2.start
  rw [List.getElem?_append_left (by simpa using hi), List.getElem?_map, h]
  rfl
theorem start_len {N : List Str} {vs : List V} (h : vs.length ≤ N.length) : (L2.start N vs).length = N.length := by
  unfold L2.start
  rw [List.length_append, List.length_map, List.length_replicate]
  omega
theorem conc_start {K : PySem.W.Frag} {N : List Str} {vs : List V} {ds : List D} {F H : Hp} (l : Le F H) (da : DaAll K F vs ds) (hN : ds.length ≤ N.length) : Conc K ⟨F, H, fun _ => False, []⟩ (dsl ds N.length) (L2.start N vs) F H := by
  have hv : vs.length ≤ N.length := by rw [da.length]; exact hN
  have nown : ∀ {i : Nat} {b : Option Nat} {c : OC}, (dsl ds N.length)[i]? ≠ some (Sl.own b c) := fun {i b c} e => by
    unfold dsl at e
    by_cases z : i < (ds.map Sl.d).length
    · rw [List.getElem?_append_left z, List.getElem?_map] at e
      obtain ⟨d, _, q⟩ := Option.map_eq_some_iff.mp e
      cases q
    · rw [List.getElem?_append_right (by omega), List.getElem?_replicate] at e
      split at e <;> cases e
  refine ⟨l, .refl F, fun a h => .inl h, fun a u _ e _ => e, ?_, fun i s e => ?_, fun i j b b' c c' p e1 => absurd e1 nown⟩
  · rw [start_len hv]
    unfold dsl
    rw [List.length_append, List.length_map, List.length_replicate]
    omega
  · cases s with
    | no => trivial
    | own b c => exact absurd e nown
    | d x =>
      unfold dsl at e
      by_cases z : i < (ds.map Sl.d).length
      · rw [List.getElem?_append_left z, List.getElem?_map] at e
        obtain ⟨d, q1, q2⟩ := Option.map_eq_some_iff.mp e
        cases q2
        obtain ⟨v, g1, g2⟩ := da.get q1
        exact ⟨v, start_get g1, g2⟩
      · rw [List.getElem?_append_right (by omega), List.getElem?_replicate] at e
        split at e <;> cases e
theorem conc_startB {K : PySem.W.Frag} {N : List Str} {a : Addr} {us : List V} {ws : List V} {cs ds : List D} {F H : Hp} (l : Le F H) (fa : F a = none) (ha : H a = some (.lst ws)) (dw : DaAll K F ws cs) (da : DaAll K F us ds) (hN : ds.length + 1 ≤ N.length) :
    Conc K ⟨F, H, fun b => b = a, [a]⟩ (.own (some 0) (.lst cs) :: dsl ds (N.length - 1)) (L2.start N (.ref a :: us)) F H := by
  have hv : us.length = ds.length := da.length
  have own0 : ∀ {i : Nat} {b : Option Nat} {c : OC}, (Sl.own (some 0) (.lst cs) :: dsl ds (N.length - 1))[i]? = some (Sl.own b c) → i = 0 ∧ b = some 0 ∧ c = .lst cs := fun {i b c} e => by
    cases i with
    | zero => simp at e; exact ⟨rfl, e.1.symm, e.2.symm⟩
    | succ i =>
      exfalso
      rw [List.getElem?_cons_succ] at e
      unfold dsl at e
      by_cases z : i < (ds.map Sl.d).length
      · rw [List.getElem?_append_left z, List.getElem?_map] at e
        obtain ⟨d, _, q⟩ := Option.map_eq_some_iff.mp e
        cases q
      · rw [List.getElem?_append_right (by omega), List.getElem?_replicate] at e
        split at e <;> cases e
  refine ⟨l, .refl F, fun a h => .inl h, fun a u _ e _ => e, ?_, fun i s e => ?_, fun i j b b' c c' p e1 e2 _ _ => (own0 e1).1.trans (own0 e2).1.symm⟩
  · rw [start_len (by rw [List.length_cons]; omega)]
    unfold dsl
    rw [List.length_cons, List.length_append, List.length_map, List.length_replicate]
    omega
  · cases s with
    | no => trivial
    | own b c =>
      obtain ⟨rfl, rfl, rfl⟩ := own0 e
      exact ⟨a, start_get rfl, fa, ⟨ws, ha, dw⟩, .inr rfl, rfl⟩
    | d x =>
      cases i with
      | zero => simp at e
      | succ i =>
        rw [List.getElem?_cons_succ] at e
        unfold dsl at e
        by_cases z : i < (ds.map Sl.d).length
        · rw [List.getElem?_append_left z, List.getElem?_map] at e
          obtain ⟨d, q1, q2⟩ := Option.map_eq_some_iff.mp e
          cases q2
          obtain ⟨v, g1, g2⟩ := da.get q1
          exact ⟨v, start_get (by rw [List.getElem?_cons_succ]; exact g1), g2⟩
        · rw [List.getElem?_append_right (by omega), List.getElem?_replicate] at e
          split at e <;> cases e
section
variable {P : Program} {w : World} {K : PySem.W.Frag} {mg : Str → Option Value} {base : Heap}
/-- the context of a def's body that lets nothing out -/
abbrev bodyX (P : Program) (w : World) (K : PySem.W.Frag) (mg : Str → Option Value) (base : Heap) (N : List Str) (qual : Str) (st : Stmt) (f : Addr) (cdv : Value) (A : Around) (outer : List Env) (s : Shared) (H : Hp) (E : XK) : Cx := (cxOf CX0 P w K mg base N qual (defScope st) f cdv A outer s H E).nox
theorem fn_data {x qual : Str} {st : Stmt} {f : Addr} {fd : FuncData} {N ps : List Str} {k : Nat} {R : List D → D → Prop} (F : Fun K x qual st f fd) (S : FnScope N ps (defScope st)) (len : ∀ ds x, R ds x → ds.length = ps.length)
    (hbody : ∀ (cdv : Value) (A : Around) (outer : List Env) (s : Shared) (H : Hp) (E : XK), Room k (A.deeper (PyProof.Rows.envOfC qual (defScope st) s.heap.objs.size f cdv)) → ∀ ds x, R ds x →
      ES (bodyX P w K mg base N qual st f cdv A outer s H E) (defBody st) (dsl ds N.length) { nx := fun _ => x = .none, rt := fun _ d => d = x }) : FnOk P w K mg base CX0 (k + 1) f fd ps (spD K R) := by
  have hpl : ps.length ≤ N.length := by have := congrArg List.length S.pre; rw [List.length_take] at this; omega
  refine F.ok S (fun vs H Q E h => ?_) (fun cdv A outer s H vs Q E hr h => ?_)
  · obtain ⟨F, ds, x, _, da, r, _⟩ := h
    rw [da.length, len ds x r]
  · obtain ⟨F, ds, y, l, da, r, q⟩ := h
    have C := conc_start (N := N) l da (by rw [len ds y r]; exact hpl)
    have fin : ∀ {ρ : List Sl} {σ : L2.St} {F' H' : Hp} {v : V}, Conc K ⟨F, H, fun _ => False, []⟩ ρ σ F' H' → Da K F' v y → Q v H' := fun {ρ σ F' H' v} C' d => by
      refine q v F' H' ⟨C'.base, C'.le, fun a h => ?_, fun a u e1 e2 _ => C'.frame a u e1 e2 fun z => z⟩ d
      rcases C'.new a h with z | z | z
      · exact .inl z
      · exact .inr z
      · exact z.elim
    obtain ⟨t, D0, h1, l1, h2⟩ := (hbody cdv A outer s H E hr ds y r _ _ F H C).le (show EndLe (SN.ends K ⟨F, H, fun _ => False, []⟩ { nx := fun _ => y = .none, rt := fun _ d => d = y }) { nx := fun _ H' => Q .non H', rt := Q } from ⟨fun σ' H' ⟨ρ', F', C', e⟩ => by
      subst e
      exact fin C' .non, fun v H' z => Or.elim z (fun ⟨ρ', σ', F', d, C', d1, e⟩ => by
        subst e
        exact fin C' d1) (fun ⟨_, _, _, _, _, _, z⟩ => False.elim z), fun _ _ ⟨_, _, _, z⟩ => z.elim, fun _ _ ⟨_, _, _, z⟩ => z.elim⟩)
    exact ⟨tssU _ (defBody st), pssU, t, D0, h1, l1, h2⟩
theorem fn_new {x qual : Str} {st : Stmt} {f : Addr} {fd : FuncData} {N ps : List Str} {k : Nat} {R : List D → List D → Prop} (F : Fun K x qual st f fd) (S : FnScope N ps (defScope st)) (len : ∀ ds x, R ds x → ds.length = ps.length)
    (hbody : ∀ (cdv : Value) (A : Around) (outer : List Env) (s : Shared) (H : Hp) (E : XK), Room k (A.deeper (PyProof.Rows.envOfC qual (defScope st) s.heap.objs.size f cdv)) → ∀ ds cs, R ds cs →
      ES (bodyX P w K mg base N qual st f cdv A outer s H E) (defBody st) (dsl ds N.length) { nx := fun _ => False, rt := fun _ _ => False, rn := fun _ c => c = .lst cs }) : FnOk P w K mg base CX0 (k + 1) f fd ps (spN K R) := by
  have hpl : ps.length ≤ N.length := by have := congrArg List.length S.pre; rw [List.length_take] at this; omega
  refine F.ok S (fun vs H Q E h => ?_) (fun cdv A outer s H vs Q E hr h => ?_)
  · obtain ⟨F, ds, x, _, da, r, _⟩ := h
    rw [da.length, len ds x r]
  · obtain ⟨F, ds, cs, l, da, r, q⟩ := h
    have C := conc_start (N := N) l da (by rw [len ds cs r]; exact hpl)
    obtain ⟨t, D0, h1, l1, h2⟩ := (hbody cdv A outer s H E hr ds cs r _ _ F H C).le (show EndLe (SN.ends K ⟨F, H, fun _ => False, []⟩ { nx := fun _ => False, rt := fun _ _ => False, rn := fun _ c => c = .lst cs }) { nx := fun _ H' => Q .non H', rt := Q } from ⟨fun σ' H' ⟨ρ', F', C', e⟩ => e.elim, fun v H' z => Or.elim z (fun ⟨ρ', σ', F', d, C', d1, e⟩ => False.elim e) (fun ⟨ρ', σ', F', c, C', ⟨a, ev, fa, ok, hb, _⟩, e⟩ => by
        have e : c = .lst cs := e
        subst e ev
        obtain ⟨ws, e1, e2⟩ := ok
        refine q a F' H' ws ⟨C'.base, C'.le, fun a h => ?_, fun a u e1 e2 _ => C'.frame a u e1 e2 fun z => z⟩ (hb.elim id fun z => False.elim z) fa e1 e2
        rcases C'.new a h with z | z | z
        · exact .inl z
        · exact .inr z
        · exact False.elim z), fun _ _ ⟨_, _, _, z⟩ => z.elim, fun _ _ ⟨_, _, _, z⟩ => z.elim⟩)
    exact ⟨tssU _ (defBody st), pssU, t, D0, h1, l1, h2⟩
theorem fn_bor {x qual : Str} {st : Stmt} {f : Addr} {fd : FuncData} {N ps : List Str} {k : Nat} {R : List D → List D → List D → D → Prop} (F : Fun K x qual st f fd) (S : FnScope N ps (defScope st)) (len : ∀ cs ds cs' x, R cs ds cs' x → ds.length + 1 = ps.length)
    (hbody : ∀ (cdv : Value) (A : Around) (outer : List Env) (s : Shared) (H : Hp) (E : XK), Room k (A.deeper (PyProof.Rows.envOfC qual (defScope st) s.heap.objs.size f cdv)) → ∀ cs ds cs' x, R cs ds cs' x →
      ES (bodyX P w K mg base N qual st f cdv A outer s H E) (defBody st) (.own (some 0) (.lst cs) :: dsl ds (N.length - 1)) { nx := fun ρ => x = .none ∧ ρ[0]? = some (Sl.own (some 0) (.lst cs')), rt := fun ρ d => d = x ∧ ρ[0]? = some (Sl.own (some 0) (.lst cs')) }) : FnOk P w K mg base CX0 (k + 1) f fd ps (spB K R) := by
  have hpl : ps.length ≤ N.length := by have := congrArg List.length S.pre; rw [List.length_take] at this; omega
  refine F.ok S (fun vs H Q E h => ?_) (fun cdv A outer s H vs Q E hr h => ?_)
  · obtain ⟨F, a, us, ws, cs, ds, cs', x, e, _, _, _, _, da, r, _⟩ := h
    rw [e, List.length_cons, da.length, len cs ds cs' x r]
  · obtain ⟨F, a, us, ws, cs, ds, cs', y, e, l, fa, ha, dw, da, r, q⟩ := h
    subst e
    have C := conc_startB (N := N) l fa ha dw da (by rw [len cs ds cs' y r]; exact hpl)
    have fin : ∀ {ρ : List Sl} {σ : L2.St} {F' H' : Hp} {v : V}, Conc K ⟨F, H, fun b => b = a, [a]⟩ ρ σ F' H' → ρ[0]? = some (Sl.own (some 0) (.lst cs')) → Da K F' v y → Q v H' := fun {ρ σ F' H' v} C' h0 d => by
      obtain ⟨l', e1, e2, ⟨ws', e3, e4⟩, e5, e6⟩ := C'.sl 0 _ h0
      have e6 : [a][0]? = some l' := e6
      obtain rfl : a = l' := by simpa using e6
      refine q v F' H' ⟨C'.base, C'.le, fun b h => ?_, fun b u e1 e2 n => C'.frame b u e1 e2 n⟩ e2 ⟨ws', e3, e4⟩ d
      rcases C'.new b h with z | z | z
      · exact .inl z
      · exact .inr z
      · have z : b = a := z
        subst z
        exact absurd e2 h
    obtain ⟨t, D0, h1, l1, h2⟩ := (hbody cdv A outer s H E hr cs ds cs' y r _ _ F H C).le (show EndLe (SN.ends K ⟨F, H, fun b => b = a, [a]⟩ { nx := fun ρ => y = .none ∧ ρ[0]? = some (Sl.own (some 0) (.lst cs')), rt := fun ρ d => d = y ∧ ρ[0]? = some (Sl.own (some 0) (.lst cs')) }) { nx := fun _ H' => Q .non H', rt := Q } from ⟨fun σ' H' ⟨ρ', F', C', e, h0⟩ => by
      subst e
      exact fin C' h0 .non, fun v H' z => Or.elim z (fun ⟨ρ', σ', F', d, C', d1, e, h0⟩ => by
        subst e
        exact fin C' h0 d1) (fun ⟨_, _, _, _, _, _, z⟩ => False.elim z), fun _ _ ⟨_, _, _, z⟩ => z.elim, fun _ _ ⟨_, _, _, z⟩ => z.elim⟩)
    exact ⟨tssU _ (defBody st), pssU, t, D0, h1, l1, h2⟩
end

/-! ### calls of defs -/
section
variable {X : Cx} {ρ ρ1 ρ2 ρ3 : List Sl} {e : Expr} {es : List Expr} {pos p : Pos} {x : Str} {d : D} {CX : CXT} {k : Nat} {f : Addr} {fd : FuncData} {ps : List Str}
theorem Conc.on {K : PySem.W.Frag} {β : Bs} {σ : L2.St} {F H F' H' : Hp} (C : Conc K β ρ σ F H) (o : On F H F' H' fun _ => False) : Conc K β ρ σ F' H' := C.grow o.le o.le' o.new fun a u e1 e2 => o.keep a u e1 e2 fun z => z
theorem ev_call {R : List D → D → Prop} {ds : List D} {rs : List Rs} (G : FnOk X.prog X.w X.K X.mg X.base CX k f fd ps (spD X.K R)) (hr : Room k X.A) (hm : X.mg x = some (.ref f)) (hk : PySem.W.keepIn X.K (.ref f) = true) (hb : Binds X.K fd ps []) {E : XK} (hx : Passes CX X E) (hg : Gl X x)
    (ha : EA X (e :: es) ρ rs ρ1) (hrs : rs = ds.map Rs.d) (hR : R ds d) (hdb : (x == ("__debug__" : Str)) = false := by decide) (he : starEach (e :: es) X.env = (false, eval e X.env) :: starEach es X.env := by rfl) (hpl : (backTo pos (starEach es X.env)).any (·.1) = false := by rfl) : EV X (.Call (.Name x p) (e :: es) [] pos) ρ (.d d) ρ1 := .mk fun β σ F H C Q kk => by
  subst hrs
  exact ⟨_, pe_call G hr hg hm hk hb .nil hx paU hdb he hpl, ha β σ F H C _ fun vs F1 H1 C1 l1 r1 => ⟨F1, ds, d, C1.le, by rw [List.append_nil]; exact RsAll.da r1, hR, fun v F' H' o dv => kk v F' H' (C1.on o) (l1.trans o.le) dv⟩⟩
theorem ev_callN {R : List D → List D → Prop} {ds cs : List D} {rs : List Rs} (G : FnOk X.prog X.w X.K X.mg X.base CX k f fd ps (spN X.K R)) (hr : Room k X.A) (hm : X.mg x = some (.ref f)) (hk : PySem.W.keepIn X.K (.ref f) = true) (hb : Binds X.K fd ps []) {E : XK} (hx : Passes CX X E) (hg : Gl X x)
    (ha : EA X (e :: es) ρ rs ρ1) (hrs : rs = ds.map Rs.d) (hR : R ds cs) (hdb : (x == ("__debug__" : Str)) = false := by decide) (he : starEach (e :: es) X.env = (false, eval e X.env) :: starEach es X.env := by rfl) (hpl : (backTo pos (starEach es X.env)).any (·.1) = false := by rfl) : EV X (.Call (.Name x p) (e :: es) [] pos) ρ (.new (.lst cs)) ρ1 := .mk fun β σ F H C Q kk => by
  subst hrs
  exact ⟨_, pe_call G hr hg hm hk hb .nil hx paU hdb he hpl, ha β σ F H C _ fun vs F1 H1 C1 l1 r1 => ⟨F1, ds, cs, C1.le, by rw [List.append_nil]; exact RsAll.da r1, hR, fun l F' H' ws o n f h da => kk _ F' H' (C1.on o) (l1.trans o.le) ⟨l, rfl, f, ⟨ws, h, da⟩, C1.room n, fun oo => absurd n (C1.ownF oo).2.2⟩⟩⟩
theorem ev_call0 {R : List D → D → Prop} (G : FnOk X.prog X.w X.K X.mg X.base CX k f fd ps (spD X.K R)) (hr : Room k X.A) (hm : X.mg x = some (.ref f)) (hk : PySem.W.keepIn X.K (.ref f) = true) (hb : Binds X.K fd ps []) {E : XK} (hx : Passes CX X E) (hg : Gl X x)
    (hR : R [] d) (hdb : (x == ("__debug__" : Str)) = false := by decide) : EV X (.Call (.Name x p) [] [] pos) ρ (.d d) ρ := .mk fun β σ F H C Q kk =>
  ⟨_, pe_call0 G hr hg hm hk hb .nil hx hdb, F, [], d, C.le, .nil, hR, fun v F' H' o dv => kk v F' H' (C.on o) o.le dv⟩
theorem ev_callB {R : List D → List D → List D → D → Prop} {cs ds cs' : List D} {rs : List Rs} {i : Nat} {bo : Option Nat} (G : FnOk X.prog X.w X.K X.mg X.base CX k f fd ps (spB X.K R)) (hr : Room k X.A) (hm : X.mg x = some (.ref f)) (hk : PySem.W.keepIn X.K (.ref f) = true) (hb : Binds X.K fd ps []) {E : XK} (hx : Passes CX X E) (hg : Gl X x)
    (ha : EA X (e :: es) ρ rs ρ1) (hrs : rs = .own i :: ds.map Rs.d) (hi : ρ1[i]? = some (Sl.own bo (.lst cs))) (hR : R cs ds cs' d) (hdb : (x == ("__debug__" : Str)) = false := by decide) (he : starEach (e :: es) X.env = (false, eval e X.env) :: starEach es X.env := by rfl) (hpl : (backTo pos (starEach es X.env)).any (·.1) = false := by rfl) : EV X (.Call (.Name x p) (e :: es) [] pos) ρ (.d d) (ρ1.set i (.own bo (.lst cs'))) := .mk fun β σ F H C Q kk => by
  subst hrs
  refine ⟨_, pe_call G hr hg hm hk hb .nil hx paU hdb he hpl, ha β σ F H C _ fun vs F1 H1 C1 l1 r1 => ?_⟩
  cases r1 with
  | cons a b =>
    obtain ⟨l, ws, rfl, q1, q2, q3⟩ := own_at C1 hi a
    obtain ⟨l', e1, e2, _, e4, e5⟩ := C1.sl i _ hi
    rw [q3] at e1
    cases e1
    refine ⟨F1, l, _, ws, cs, ds, cs', d, by rw [List.append_nil], C1.le, e2, q1, q2, RsAll.da b, hR, fun v F' H' o g1 ⟨ws', g2, g3⟩ dv => ?_⟩
    refine kk v F' H' ?_ (l1.trans o.le) dv
    have hi' : i < ρ1.length := (List.getElem?_eq_some_iff.mp hi).1
    -- the heap without the change, then the change
    have C2 : Conc X.K β ρ1 σ F' (upd H' l (.lst ws)) := by
      refine C1.grow o.le (o.le'.mut g1) o.new fun b u f1 f2 => ?_
      by_cases z : b = l
      · rw [z, q1] at f2
        cases f2
        rw [z]
        exact upd_same
      · rw [upd_ne z]
        exact o.keep b u f1 f2 z
    have C3 := C2.put (c' := .lst cs') (o := .lst ws') hi q3 ⟨ws', upd_same, g3⟩
    have e6 : upd (upd H' l (.lst ws)) l (.lst ws') = H' := by
      rw [upd_upd]
      funext b
      by_cases z : b = l
      · subst z
        rw [upd_same, g2]
      · rw [upd_ne z]
    rw [e6] at C3
    exact C3
end
end OX
set_option Elab.async false
set_option linter.all false
set_option maxRecDepth 100000
set_option maxHeartbeats 1000000
/-! OX9: defs by name, statements with what follows. -/
namespace OX
open PySem L2
theorem kit_ii : kitB "int" "int" = some true := by decide +kernel
theorem kit_ib : kitB "int" "bool" = some false := by decide +kernel
theorem kit_is : kitB "int" "str" = some false := by decide +kernel
theorem kit_it : kitB "int" "tuple" = some false := by decide +kernel
theorem kit_il : kitB "int" "list" = some false := by decide +kernel
theorem kit_id : kitB "int" "dict" = some false := by decide +kernel
theorem kit_bi : kitB "bool" "int" = some true := by decide +kernel
theorem kit_bb : kitB "bool" "bool" = some true := by decide +kernel
theorem kit_bs : kitB "bool" "str" = some false := by decide +kernel
theorem kit_bt : kitB "bool" "tuple" = some false := by decide +kernel
theorem kit_bl : kitB "bool" "list" = some false := by decide +kernel
theorem kit_bd : kitB "bool" "dict" = some false := by decide +kernel
theorem kit_si : kitB "str" "int" = some false := by decide +kernel
theorem kit_sb : kitB "str" "bool" = some false := by decide +kernel
theorem kit_ss : kitB "str" "str" = some true := by decide +kernel
theorem kit_st : kitB "str" "tuple" = some false := by decide +kernel
theorem kit_sl : kitB "str" "list" = some false := by decide +kernel
theorem kit_sd : kitB "str" "dict" = some false := by decide +kernel
theorem kit_ti : kitB "tuple" "int" = some false := by decide +kernel
theorem kit_tb : kitB "tuple" "bool" = some false := by decide +kernel
theorem kit_ts : kitB "tuple" "str" = some false := by decide +kernel
theorem kit_tt : kitB "tuple" "tuple" = some true := by decide +kernel
theorem kit_tl : kitB "tuple" "list" = some false := by decide +kernel
theorem kit_td : kitB "tuple" "dict" = some false := by decide +kernel
theorem kit_li : kitB "list" "int" = some false := by decide +kernel
theorem kit_lb : kitB "list" "bool" = some false := by decide +kernel
theorem kit_ls : kitB "list" "str" = some false := by decide +kernel
theorem kit_lt : kitB "list" "tuple" = some false := by decide +kernel
theorem kit_ll : kitB "list" "list" = some true := by decide +kernel
theorem kit_ld : kitB "list" "dict" = some false := by decide +kernel
theorem kit_di : kitB "dict" "int" = some false := by decide +kernel
theorem kit_db : kitB "dict" "bool" = some false := by decide +kernel
theorem kit_ds : kitB "dict" "str" = some false := by decide +kernel
theorem kit_dt : kitB "dict" "tuple" = some false := by decide +kernel
theorem kit_dl : kitB "dict" "list" = some false := by decide +kernel
theorem kit_dd : kitB "dict" "dict" = some true := by decide +kernel
theorem kit_ni : kitB "NoneType" "int" = some false := by decide +kernel
theorem kit_nb : kitB "NoneType" "bool" = some false := by decide +kernel
theorem kit_ns : kitB "NoneType" "str" = some false := by decide +kernel
theorem kit_nt : kitB "NoneType" "tuple" = some false := by decide +kernel
theorem kit_nl : kitB "NoneType" "list" = some false := by decide +kernel
theorem kit_nd : kitB "NoneType" "dict" = some false := by decide +kernel
/-- a def stands at its name -/
structure Has (K : PySem.W.Frag) (mg : Str → Option Value) (x : Str) (st : Stmt) (ps : List Str) (f : Addr) (fd : FuncData) : Prop where
  fn : Fun K x x st f fd
  mg : mg x = some (.ref f)
  bs : Binds K fd ps []
/-- .. and keeps a promise -/
structure Ok (P : Program) (w : World) (K : PySem.W.Frag) (mg : Str → Option Value) (base : Heap) (k : Nat) (x : Str) (ps : List Str) (sp : Sp) : Prop where
  ex : ∃ f fd, mg x = some (.ref f) ∧ PySem.W.keepIn K (.ref f) = true ∧ Binds K fd ps [] ∧ FnOk P w K mg base CX0 k f fd ps sp
section
variable {P : Program} {w : World} {K : PySem.W.Frag} {mg : Str → Option Value} {base : Heap} {x : Str} {st : Stmt} {ps N : List Str} {f : Addr} {fd : FuncData} {k : Nat}
theorem Ok.data {R : List D → D → Prop} (h : Has K mg x st ps f fd) (S : FnScope N ps (defScope st)) (len : ∀ ds x, R ds x → ds.length = ps.length)
    (hbody : ∀ (cdv : Value) (A : Around) (outer : List Env) (s : Shared) (H : Hp) (E : XK), Room k (A.deeper (PyProof.Rows.envOfC x (defScope st) s.heap.objs.size f cdv)) → ∀ ds y, R ds y →
      ES (bodyX P w K mg base N x st f cdv A outer s H E) (defBody st) (dsl ds N.length) { nx := fun _ => y = .none, rt := fun _ d => d = y }) : Ok P w K mg base (k + 1) x ps (spD K R) :=
  ⟨f, fd, h.mg, h.fn.kp, h.bs, fn_data h.fn S len hbody⟩
theorem Ok.new {R : List D → List D → Prop} (h : Has K mg x st ps f fd) (S : FnScope N ps (defScope st)) (len : ∀ ds x, R ds x → ds.length = ps.length)
    (hbody : ∀ (cdv : Value) (A : Around) (outer : List Env) (s : Shared) (H : Hp) (E : XK), Room k (A.deeper (PyProof.Rows.envOfC x (defScope st) s.heap.objs.size f cdv)) → ∀ ds cs, R ds cs →
      ES (bodyX P w K mg base N x st f cdv A outer s H E) (defBody st) (dsl ds N.length) { nx := fun _ => False, rt := fun _ _ => False, rn := fun _ c => c = .lst cs }) : Ok P w K mg base (k + 1) x ps (spN K R) :=
  ⟨f, fd, h.mg, h.fn.kp, h.bs, fn_new h.fn S len hbody⟩
theorem Ok.bor {R : List D → List D → List D → D → Prop} (h : Has K mg x st ps f fd) (S : FnScope N ps (defScope st)) (len : ∀ cs ds cs' x, R cs ds cs' x → ds.length + 1 = ps.length)
    (hbody : ∀ (cdv : Value) (A : Around) (outer : List Env) (s : Shared) (H : Hp) (E : XK), Room k (A.deeper (PyProof.Rows.envOfC x (defScope st) s.heap.objs.size f cdv)) → ∀ cs ds cs' y, R cs ds cs' y →
      ES (bodyX P w K mg base N x st f cdv A outer s H E) (defBody st) (.own (some 0) (.lst cs) :: dsl ds (N.length - 1)) { nx := fun ρ => y = .none ∧ ρ[0]? = some (Sl.own (some 0) (.lst cs')), rt := fun ρ d => d = y ∧ ρ[0]? = some (Sl.own (some 0) (.lst cs')) }) : Ok P w K mg base (k + 1) x ps (spB K R) :=
  ⟨f, fd, h.mg, h.fn.kp, h.bs, fn_bor h.fn S len hbody⟩
end
section
variable {X : Cx} {ρ ρ1 ρ2 ρ3 : List Sl} {e c : Expr} {es : List Expr} {pos p : Pos} {x : Str} {d : D} {k : Nat} {ps : List Str} {r : Rs} {tg iter : Expr} {st : Stmt} {sts body orelse : List Stmt} {N : SN}
theorem ev_def {R : List D → D → Prop} {ds : List D} {rs : List Rs} (G : Ok X.prog X.w X.K X.mg X.base k x ps (spD X.K R)) (hr : Room k X.A) (hg : Gl X x) (ha : EA X (e :: es) ρ rs ρ1) (hrs : rs = ds.map Rs.d) (hR : R ds d)
    (hdb : (x == ("__debug__" : Str)) = false := by decide) (he : starEach (e :: es) X.env = (false, eval e X.env) :: starEach es X.env := by rfl) (hpl : (backTo pos (starEach es X.env)).any (·.1) = false := by rfl) : EV X (.Call (.Name x p) (e :: es) [] pos) ρ (.d d) ρ1 := by
  obtain ⟨f, fd, h1, h2, h3, h4⟩ := G.ex
  exact ev_call h4 hr h1 h2 h3 pass0 hg ha hrs hR hdb he hpl
theorem ev_defN {R : List D → List D → Prop} {ds cs : List D} {rs : List Rs} (G : Ok X.prog X.w X.K X.mg X.base k x ps (spN X.K R)) (hr : Room k X.A) (hg : Gl X x) (ha : EA X (e :: es) ρ rs ρ1) (hrs : rs = ds.map Rs.d) (hR : R ds cs)
    (hdb : (x == ("__debug__" : Str)) = false := by decide) (he : starEach (e :: es) X.env = (false, eval e X.env) :: starEach es X.env := by rfl) (hpl : (backTo pos (starEach es X.env)).any (·.1) = false := by rfl) : EV X (.Call (.Name x p) (e :: es) [] pos) ρ (.new (.lst cs)) ρ1 := by
  obtain ⟨f, fd, h1, h2, h3, h4⟩ := G.ex
  exact ev_callN h4 hr h1 h2 h3 pass0 hg ha hrs hR hdb he hpl
theorem ev_def0 {R : List D → D → Prop} (G : Ok X.prog X.w X.K X.mg X.base k x ps (spD X.K R)) (hr : Room k X.A) (hg : Gl X x) (hR : R [] d) (hdb : (x == ("__debug__" : Str)) = false := by decide) : EV X (.Call (.Name x p) [] [] pos) ρ (.d d) ρ := by
  obtain ⟨f, fd, h1, h2, h3, h4⟩ := G.ex
  exact ev_call0 h4 hr h1 h2 h3 pass0 hg hR hdb
theorem ev_defB {R : List D → List D → List D → D → Prop} {cs ds cs' : List D} {rs : List Rs} {i : Nat} {bo : Option Nat} (G : Ok X.prog X.w X.K X.mg X.base k x ps (spB X.K R)) (hr : Room k X.A) (hg : Gl X x) (ha : EA X (e :: es) ρ rs ρ1) (hrs : rs = .own i :: ds.map Rs.d) (hi : ρ1[i]? = some (Sl.own bo (.lst cs))) (hR : R cs ds cs' d)
    (hdb : (x == ("__debug__" : Str)) = false := by decide) (he : starEach (e :: es) X.env = (false, eval e X.env) :: starEach es X.env := by rfl) (hpl : (backTo pos (starEach es X.env)).any (·.1) = false := by rfl) : EV X (.Call (.Name x p) (e :: es) [] pos) ρ (.d d) (ρ1.set i (.own bo (.lst cs'))) := by
  obtain ⟨f, fd, h1, h2, h3, h4⟩ := G.ex
  exact ev_callB h4 hr h1 h2 h3 pass0 hg ha hrs hi hR hdb he hpl

/-! ### statements with what follows -/
theorem ec_if {k : Bool} (hc : ET X c ρ k ρ1) (h1 : k = true → ES X (body ++ sts) ρ1 N) (h2 : k = false → ES X (orelse ++ sts) ρ1 N) : True := trivial
theorem ec_ifR {k : Bool} (hc : ET X c ρ k ρ1) (h1 : k = true → ES X body ρ1 { N with nx := fun ρ' => ES X sts ρ' N }) (h2 : k = false → ES X orelse ρ1 { N with nx := fun ρ' => ES X sts ρ' N }) : ES X (.If c body orelse pos :: sts) ρ N := es_cons (es_if hc h1 h2)
/-- an if without else: it leaves, or nothing happens -/
theorem ec_when {k : Bool} (hc : ET X c ρ k ρ1) (h1 : k = true → ES X body ρ1 { N with nx := fun ρ' => ES X sts ρ' N }) (h2 : k = false → ES X sts ρ1 N) : ES X (.If c body [] pos :: sts) ρ N := es_cons (es_if hc h1 fun h => es_nil (h2 h))
theorem ec_set {i : Nat} {pos' : Pos} (hN : X.N.Nodup) (hi : X.N[i]? = some x) (hx : Loc X.env.scope x) (he : EV X e ρ (.d d) ρ1) (h : ES X sts (ρ1.set i (.d d)) N) (hs : swapsWith e (some (.Name x pos')) pos.line X.env = pure false := by rfl)
    (hf : X.fn x = true ∨ X.env.scope.names.lookup x = some .local := by first | exact .inl rfl | exact .inr rfl | assumption) : ES X (.Assign [.Name x pos'] e pos :: sts) ρ N := es_cons (es_set hN hi hx he h hs hf)
theorem ec_setN {i : Nat} {pos' : Pos} {cc : OC} (hN : X.N.Nodup) (hi : X.N[i]? = some x) (hx : Loc X.env.scope x) (he : EV X e ρ (.new cc) ρ1) (h : ES X sts (ρ1.set i (.own none cc)) N) (hs : swapsWith e (some (.Name x pos')) pos.line X.env = pure false := by rfl)
    (hf : X.fn x = true ∨ X.env.scope.names.lookup x = some .local := by first | exact .inl rfl | exact .inr rfl | assumption) : ES X (.Assign [.Name x pos'] e pos :: sts) ρ N := es_cons (es_setN hN hi hx he h hs hf)
theorem ec_asg {js : List Nat} (he : EV X e ρ (.d d) ρ1) (hg : EG X tg (.one d) ρ1 ρ2 js) (h : ES X sts ρ2 N) (hs : swapsWithSole [tg] e pos.line X.env = pure false := by rfl) (hw : swappedStores [tg] e X.env = pure none := by rfl)
    (h1 : (assignEach [tg] X.env).map (·.2) = [assign tg X.env] := by rfl) : ES X (.Assign [tg] e pos :: sts) ρ N := es_cons (es_asg he hg h hs hw h1)
theorem ec_expr (he : EV X e ρ r ρ1) (h : ES X sts ρ1 N) (hs : swapsWith e none pos.line X.env = pure false := by rfl) : ES X (.Expr e pos :: sts) ρ N := es_cons (es_expr he h hs)
theorem ec_ret (he : EV X e ρ (.d d) ρ1) (h : N.rt ρ1 d) : ES X (.Return (some e) pos :: sts) ρ N := es_cons (es_ret he h)
theorem ec_setLc {scope : Scope} {own : List (Str × Nat)} {elt : Expr} {ifs : List Expr} {out : List D} {ρ' : List Sl} {i : Nat} {y : Str} {py spos : Pos} (hc : X.calm = true) (hN : X.N.Nodup) (hy : X.N[i]? = some y) (hyl : X.env.scope.names.lookup y = some .local) (hsw : swapsWith (.ListComp elt [⟨tg, iter, ifs, 0⟩] scope pos) (some (.Name y py)) spos.line X.env = pure true)
    (ok : BlkOk X.N X.env.scope scope own) (h : LC X scope own tg iter elt ifs ρ out ρ') (hn : ES X sts (ρ'.set i (.own none (.lst out))) N) (hs : ∀ x, foldedSetIterable iter X.env x = pure x := by intro _; rfl) : ES X (.Assign [.Name y py] (.ListComp elt [⟨tg, iter, ifs, 0⟩] scope pos) spos :: sts) ρ N :=
  es_cons (es_setLc hc hN hy hyl hsw ok h hn hs)
theorem ec_for {ds : List Im} (hp : PassesOwn (model X.prog X.w) X.A X.env X.xe) (hc : X.calm = true) (hi : EI X tg iter ρ ds ρ1) (I : Nat → List Sl → Prop) (h0 : I 0 ρ1)
    (hs : ∀ i d ρ', ds[i]? = some d → I i ρ' → ∃ ρ2 js, EG X tg d ρ' ρ2 js ∧ ES X body ρ2 { nx := I (i + 1), rt := N.rt, bk := fun ρ' => ES X sts ρ' N, ct := I (i + 1) })
    (hd : ∀ ρ', I ds.length ρ' → ES X sts ρ' N) (hf : ∀ x, foldedSetIterable iter X.env x = pure x := by intro _; rfl) : ES X (.For tg iter body [] pos :: sts) ρ N := es_cons (es_for hp hc hi I h0 hs hd hf)
theorem ec_while (hp : PassesOwn (model X.prog X.w) X.A X.env X.xe) (W : Nat → List Sl → Prop) (m0 : Nat) (h0 : W m0 ρ)
    (hs : ∀ m ρ', W m ρ' → ∃ k ρ2, ET X c ρ' k ρ2 ∧ (k = true → ES X body ρ2 { nx := fun ρ3 => ∃ m', m' < m ∧ W m' ρ3, rt := N.rt, bk := fun ρ' => ES X sts ρ' N, ct := fun ρ3 => ∃ m', m' < m ∧ W m' ρ3, rn := N.rn }) ∧ (k = false → ES X sts ρ2 N)) : ES X (.While c body [] pos :: sts) ρ N := es_cons (es_while hp W m0 h0 hs)
theorem ec_retNew {cc : OC} (he : EV X e ρ (.new cc) ρ1) (h : N.rn ρ1 cc) : ES X (.Return (some e) pos :: sts) ρ N := es_cons (es_retNew he h)
/-- what is never reached -/
theorem es_never (h : False) : ES X sts ρ N := h.elim
end
end OX
set_option Elab.async false
set_option linter.all false
set_option maxRecDepth 100000
set_option maxHeartbeats 1000000
/-! OX10: typed rows, codings with decidable equality, freezing of slots, stars. -/
namespace OX
open PySem L2
def nD (n : Nat) : D := .int (n : Int)
theorem DaAll.nats {K : PySem.W.Frag} {F : Hp} : ∀ {vs : List V} {ns : List Nat}, DaAll K F vs (ns.map nD) → vs = ns.map fun n : Nat => V.int (n : Int)
  | _, [], h => by cases h; rfl
  | _, n :: ns, h => by
    cases h with
    | cons a b => rw [Da.int_eq a, DaAll.nats b]; rfl
theorem nD_map (ns : List Nat) : ns.map nD = (ns.map fun n : Nat => (n : Int)).map PyData.int := by
  rw [List.map_map]
  rfl
/-! ### codings -/
structure Enc {α : Type} [DecidableEq α] (f : α → D) (P : α → Prop) : Prop where
  eq : ∀ a b, PyData.eqv (f a) (f b) = decide (a = b)
  lay : ∀ a, P a → (f a).canLay0 = true
def Tru {α : Type} : α → Prop := fun _ => True
theorem enc_nat : Enc nD Tru := ⟨fun a b => by
  simp only [nD, PyData.eqv]
  by_cases h : a = b
  · subst h; simp
  · have : ¬ ((a : Int) = (b : Int)) := by omega
    rw [decide_eq_false h]
    exact beq_eq_false_iff_ne.mpr this, fun a _ => rfl⟩
theorem enc_int : Enc PyData.int Tru := ⟨fun a b => by
  simp only [PyData.eqv]
  by_cases h : a = b
  · subst h; simp
  · rw [decide_eq_false h]
    exact beq_eq_false_iff_ne.mpr h, fun a _ => rfl⟩
def SOk (x : Str) : Prop := PyData.strOk x = true
theorem enc_str : Enc PyData.str SOk := ⟨fun a b => by
  simp only [PyData.eqv]
  by_cases h : a = b
  · subst h; simp
  · rw [decide_eq_false h]
    exact beq_eq_false_iff_ne.mpr h, fun a h => by simpa [PyData.canLay0, SOk] using h⟩
section
variable {α β : Type} [DecidableEq α] [DecidableEq β] {f : α → D} {g : β → D} {P : α → Prop} {Q : β → Prop}
theorem Enc.all (h : Enc f P) : ∀ xs ys : List α, PyData.eqvAll (xs.map f) (ys.map f) = decide (xs = ys)
  | [], [] => by simp [PyData.eqvAll]
  | [], _ :: _ => by simp [PyData.eqvAll]
  | _ :: _, [] => by simp [PyData.eqvAll]
  | x :: xs, y :: ys => by
    simp only [List.map_cons, PyData.eqvAll, h.eq, h.all xs ys]
    by_cases a : x = y <;> by_cases b : xs = ys <;> simp [a, b]
theorem Enc.layAll (h : Enc f P) : ∀ xs : List α, (∀ x ∈ xs, P x) → PyData.canLayAll0 (xs.map f) = true
  | [], _ => rfl
  | x :: xs, k => by simp only [List.map_cons, PyData.canLayAll0, h.lay x (k x List.mem_cons_self), h.layAll xs fun y hy => k y (List.mem_cons_of_mem _ hy), Bool.and_self]
theorem Enc.tup (h : Enc f P) : Enc (fun l : List α => PyData.tuple (l.map f)) fun l => ∀ x ∈ l, P x := ⟨fun a b => by simp only [PyData.eqv]; exact h.all a b, fun a k => by simp only [PyData.canLay0]; exact h.layAll a k⟩
theorem Enc.lst (h : Enc f P) : Enc (fun l : List α => PyData.list (l.map f)) fun l => ∀ x ∈ l, P x := ⟨fun a b => by simp only [PyData.eqv]; exact h.all a b, fun a k => by simp only [PyData.canLay0]; exact h.layAll a k⟩
theorem Enc.pair (h : Enc f P) (k : Enc g Q) : Enc (fun p : α × β => PyData.tuple [f p.1, g p.2]) fun p => P p.1 ∧ Q p.2 := ⟨fun a b => by
  simp only [PyData.eqv, PyData.eqvAll, h.eq, k.eq, Bool.and_true]
  cases a; cases b
  simp [Prod.ext_iff], fun a q => by simp [PyData.canLay0, PyData.canLayAll0, h.lay a.1 q.1, k.lay a.2 q.2]⟩
end
theorem depthAll_le {α : Type} {f : α → D} {n : Nat} : ∀ xs : List α, (∀ x, (f x).depth ≤ n) → PyData.depthAll (xs.map f) ≤ n
  | [], _ => by simp [PyData.depthAll]
  | x :: xs, h => by
    have a := h x
    have b := depthAll_le xs h
    simp only [List.map_cons, PyData.depthAll]
    omega
theorem dp_nat (n : Nat) : (nD n).depth ≤ 1 := by simp [nD, PyData.depth]
theorem dp_str (n : Str) : (PyData.str n).depth ≤ 1 := by simp [PyData.depth]
theorem dp_int (n : Int) : (PyData.int n).depth ≤ 1 := by simp [PyData.depth]
theorem dp_tup {α : Type} {f : α → D} {n : Nat} (h : ∀ x, (f x).depth ≤ n) (l : List α) : (PyData.tuple (l.map f)).depth ≤ n + 1 := by
  have := depthAll_le l h
  simp only [PyData.depth]
  omega
theorem dp_lst {α : Type} {f : α → D} {n : Nat} (h : ∀ x, (f x).depth ≤ n) (l : List α) : (PyData.list (l.map f)).depth ≤ n + 1 := by
  have := depthAll_le l h
  simp only [PyData.depth]
  omega
theorem dp_pair {α β : Type} {f : α → D} {g : β → D} {n : Nat} (h : ∀ x, (f x).depth ≤ n) (k : ∀ x, (g x).depth ≤ n) (p : α × β) : (PyData.tuple [f p.1, g p.2]).depth ≤ n + 1 := by
  have a := h p.1
  have b := k p.2
  simp only [PyData.depth, PyData.depthAll]
  omega
theorem shd {d : D} {n : Nat} (h : d.canLay0 = true) (k : d.depth ≤ n) (hn : n ≤ 64 := by decide) : SeqAt.shaped d = true := by
  unfold SeqAt.shaped
  rw [h, decide_eq_true (Nat.le_trans k hn)]
  rfl
section
variable {X : Cx} {ρ ρ1 ρ2 ρ3 : List Sl} {r ra rb rc : Rs} {e f' a b c o ix tg iter elt : Expr} {es : List Expr} {pos p apos cpos tpos : Pos} {x : Str} {d : D} {sts : List Stmt} {N : SN}
/-! ### places of rows -/
theorem sx_map {α : Type} [Inhabited α] {f : α → D} {xs : List α} {n : Nat} (s : SeqR ρ ra (xs.map f)) (h : n < xs.length) : SubX X ra (.d (nD n)) ρ (.d (f (xs.getD n default))) :=
  sx_at s (atI_natD (by rw [List.getElem?_map, List.getElem?_eq_getElem h, Option.map_some, List.getD_eq_getElem?_getD, List.getElem?_eq_getElem h, Option.getD_some]))
theorem idxOf_first {α : Type} [DecidableEq α] (xs : List α) (x : α) (h : x ∈ xs) : xs[xs.idxOf x]? = some x ∧ ∀ m, m < xs.idxOf x → xs[m]? ≠ some x := by
  constructor
  · have := List.idxOf_lt_length_of_mem h
    rw [List.getElem?_eq_getElem this, List.getElem_idxOf]
  · induction xs with
    | nil => cases h
    | cons y ys ih =>
      intro m hm
      rw [List.idxOf_cons] at hm
      by_cases e : y = x
      · subst e
        simp at hm
      · have hn : (y == x) = false := beq_eq_false_iff_ne.mpr e
        rw [hn] at hm
        simp only [cond_false] at hm
        cases m with
        | zero => simpa using e
        | succ m =>
          have hx : x ∈ ys := by
            rcases List.mem_cons.mp h with q | q
            · exact absurd q.symm e
            · exact q
          simpa using ih hx m (by omega)
theorem ev_tindexS {ss : List Str} {z : Str} (ho : EV X a ρ (.d (.tuple (ss.map PyData.str))) ρ1) (he : EV X e ρ1 (.d (.str z)) ρ2) (h : z ∈ ss)
    (hbase : attributeBase a "index" X.env (eval a X.env) = eval a X.env := by rfl)
    (hfew : ((backTo cpos (starEach [e] X.env)).all (fun x => !x.1) && (backToKw cpos (keywordEach [] X.env)).all (fun x => x.1.isSome)
      && decide ([e].length + ([] : List Keyword).length + (if ([] : List Keyword).isEmpty then 0 else 1) < 30)) = true := by rfl)
    (hline : (apos.endLine == cpos.line) = true := by rfl) (hs : starEach [e] X.env = (false, eval e X.env) :: starEach [] X.env := by rfl) (hplain : (backTo cpos (starEach [] X.env)).any (·.1) = false := by rfl) :
    EV X (.Call (.Attribute a "index" apos) [e] [] cpos) ρ (.d (nD (ss.idxOf z))) ρ2 :=
  ev_tindex ho he (idxOf_first ss z h).1 (idxOf_first ss z h).2 hbase hfew hline hs hplain
theorem ev_lindexM {α : Type} [DecidableEq α] {f : α → D} {n : Nat} {xs : List α} {z : α} {P : α → Prop} (E : Enc f P) (hP : ∀ x ∈ xs, P x) (dp : ∀ x, (f x).depth ≤ n) (hu : X.A.units + 65 < cLine) (ho : EV X a ρ ra ρ1) (he : EV X e ρ1 (.d (f z)) ρ2) (s1 : ra = .d (.list (xs.map f)) ∨ ∃ i bo, ra = .own i ∧ ρ1[i]? = some (Sl.own bo (.lst (xs.map f)))) (s2 : ra = .d (.list (xs.map f)) ∨ ∃ i bo, ra = .own i ∧ ρ2[i]? = some (Sl.own bo (.lst (xs.map f))))
    (h : z ∈ xs) (hn : n + 1 ≤ 64 := by decide) (hst : ra.st = true := by rfl)
    (hbase : attributeBase a "index" X.env (eval a X.env) = eval a X.env := by rfl)
    (hfew : ((backTo cpos (starEach [e] X.env)).all (fun x => !x.1) && (backToKw cpos (keywordEach [] X.env)).all (fun x => x.1.isSome)
      && decide ([e].length + ([] : List Keyword).length + (if ([] : List Keyword).isEmpty then 0 else 1) < 30)) = true := by rfl)
    (hline : (apos.endLine == cpos.line) = true := by rfl) (hs : starEach [e] X.env = (false, eval e X.env) :: starEach [] X.env := by rfl) (hplain : (backTo cpos (starEach [] X.env)).any (·.1) = false := by rfl) :
    EV X (.Call (.Attribute a "index" apos) [e] [] cpos) ρ (.d (nD (xs.idxOf z))) ρ2 :=
  ev_lindex (z := f z) hu ho he s1 s2 (shd (E.lst.lay xs hP) (dp_lst dp xs) hn) (shd (E.lay z (hP z h)) (dp z) (by omega)) (by rw [List.getElem?_map, (idxOf_first xs z h).1]; rfl) (by rw [E.eq]; simp)
    (fun m z' hm e => by
      rw [List.getElem?_map] at e
      obtain ⟨w, q1, q2⟩ := Option.map_eq_some_iff.mp e
      subst q2
      rw [E.eq]
      refine decide_eq_false fun z => ?_
      subst z
      exact (idxOf_first xs w h).2 m hm q1) hst hbase hfew hline hs hplain
/-! ### in, of whole numbers -/
theorem mem_nats (n : Nat) (ns : List Nat) : ((n : Int) ∈ ns.map fun n : Nat => (n : Int)) ↔ n ∈ ns := by
  rw [List.mem_map]
  exact ⟨fun ⟨m, h, e⟩ => by have : m = n := by omega
                             exact this ▸ h, fun h => ⟨n, h, rfl⟩⟩
theorem cx_inN {n : Nat} {ns : List Nat} (s : SeqR ρ rb (ns.map nD)) : CmpX X .In (.d (nD n)) rb ρ (.d (.bool (decide (n ∈ ns)))) := by
  rw [nD_map] at s
  have := cx_inI (X := X) (x := (n : Int)) s
  rwa [decide_eq_decide.mpr (mem_nats n ns)] at this
theorem cx_niN {n : Nat} {ns : List Nat} (s : SeqR ρ rb (ns.map nD)) : CmpX X .NotIn (.d (nD n)) rb ρ (.d (.bool (!decide (n ∈ ns)))) := by
  rw [nD_map] at s
  have := cx_niI (X := X) (x := (n : Int)) s
  rwa [decide_eq_decide.mpr (mem_nats n ns)] at this
/-! ### typed rows walked -/
theorem ei_tupM {α : Type} {f : α → D} {xs : List α} (h : EV X e ρ (.d (.tuple (xs.map f))) ρ1) : EI X tg e ρ (xs.map fun x => .one (f x)) ρ1 := by
  have := ei_tup (tg := tg) h
  rwa [List.map_map] at this
theorem ei_listM {α : Type} {f : α → D} {xs : List α} (h : EV X e ρ (.d (.list (xs.map f))) ρ1) : EI X tg e ρ (xs.map fun x => .one (f x)) ρ1 := by
  have := ei_list (tg := tg) h
  rwa [List.map_map] at this
theorem ei_strM {z : Str} (h : EV X e ρ (.d (.str z)) ρ1) : EI X tg e ρ (z.cps.toList.map fun c => .one (.str ⟨#[c]⟩)) ρ1 := by
  have := ei_str (tg := tg) h
  unfold signs at this
  rwa [List.map_map] at this
theorem ei_rangeM {n : Nat} {p : Pos} (hg : Gl X "range") (hm : X.mg "range" = none) (h : EA X [e] ρ [.d (.int (n : Int))] ρ1) (h2 : n < 2 ^ 62) (hs : starEach [e] X.env = [(false, eval e X.env)] := by rfl) :
    EI X tg (.Call (.Name "range" p) [e] [] pos) ρ ((List.range n).map fun i => .one (nD i)) ρ1 := by
  have := ei_range1 (tg := tg) (pos := pos) (p := p) hg hm h (by omega) (by omega) hs
  unfold upto at this
  simpa [nD] using this
theorem zip_map {α β : Type} (f : α → D) (g : β → D) (xs : List α) (ys : List β) : zipD (xs.map f) (ys.map g) = (xs.zip ys).map fun p => Im.two (f p.1) (g p.2) := by
  unfold zipD
  induction xs generalizing ys with
  | nil => simp
  | cons x xs ih =>
    cases ys with
    | nil => simp
    | cons y ys => simp [ih]
theorem ei_zipM {α β : Type} {f : α → D} {g : β → D} {xs : List α} {ys : List β} {e' : Expr} {p tpos : Pos} {elts : List Expr} {kk : Nat} (hg : Gl X "zip") (hm : X.mg "zip" = none) (h : EA X [e, e'] ρ [.d (.tuple (xs.map f)), .d (.tuple (ys.map g))] ρ1) (hs : starEach [e, e'] X.env = (false, eval e X.env) :: starEach [e'] X.env := by rfl) (hpl : (backTo pos (starEach [e'] X.env)).any (·.1) = false := by rfl) :
    EI X (.Tuple elts kk tpos) (.Call (.Name "zip" p) [e, e'] [] pos) ρ ((xs.zip ys).map fun p => .two (f p.1) (g p.2)) ρ1 := by
  have := ei_zipT (tpos := tpos) (elts := elts) (kk := kk) (pos := pos) (p := p) hg hm h hs hpl
  rwa [zip_map] at this
theorem enum_map {α : Type} (f : α → D) (xs : List α) : enumD (xs.map f) = xs.zipIdx.map fun p => Im.two (nD p.2) (f p.1) := by
  refine List.ext_getElem? fun i => ?_
  unfold enumD
  by_cases h : i < xs.length
  · simp [h, nD]
  · simp [h]
theorem ei_enumTM {α : Type} {f : α → D} {xs : List α} {tpos : Pos} {elts : List Expr} {kk : Nat} (hg : Gl X "enumerate") (hm : X.mg "enumerate" = none) (h : EV X e ρ (.d (.tuple (xs.map f))) ρ1) (hs : starEach [e] X.env = [(false, eval e X.env)] := by rfl) :
    EI X (.Tuple elts kk tpos) (.Call (.Name "enumerate" p) [e] [] pos) ρ (xs.zipIdx.map fun p => .two (nD p.2) (f p.1)) ρ1 := by
  have := ei_enumT (tpos := tpos) (elts := elts) (kk := kk) (pos := pos) (p := p) hg hm h hs
  rwa [enum_map] at this
theorem ei_enumLM {α : Type} {f : α → D} {xs : List α} {tpos : Pos} {elts : List Expr} {kk : Nat} (hg : Gl X "enumerate") (hm : X.mg "enumerate" = none) (h : EV X e ρ (.d (.list (xs.map f))) ρ1) (hs : starEach [e] X.env = [(false, eval e X.env)] := by rfl) :
    EI X (.Tuple elts kk tpos) (.Call (.Name "enumerate" p) [e] [] pos) ρ (xs.zipIdx.map fun p => .two (nD p.2) (f p.1)) ρ1 := by
  have := ei_enumL (tpos := tpos) (elts := elts) (kk := kk) (pos := pos) (p := p) hg hm h hs
  rwa [enum_map] at this
/-! ### typed comprehensions -/
theorem lc_mapM {scope : Scope} {own : List (Str × Nat)} {α : Type} {xs : List α} {enc : α → Im} (g : α → D) (hi : EI X tg iter ρ (xs.map enc) ρ1)
    (hs : ∀ x ∈ xs, ∃ r ρ2 js, BG X scope tg (enc x) (wipeR ρ1 (own.map (·.2))) ρ2 js ∧ (∀ j ∈ js, j ∈ own.map (·.2)) ∧ BV X scope elt ρ2 (.d r) ρ2 ∧ wipeR ρ2 (own.map (·.2)) = wipeR ρ1 (own.map (·.2)) ∧ r = g x)
    (hr : restore ρ1 (wipeR ρ1 (own.map (·.2))) (own.map (·.2)) = ρ1) (hl : xs.length < sizeLine) {out : List D} (he : out = xs.map g) : LC X scope own tg iter elt [] ρ out ρ1 := he ▸ lc_map xs enc g hi rfl (fun x hx => by
  obtain ⟨r, ρ2, js, h1, h2, h3, h4, rfl⟩ := hs x hx
  exact ⟨ρ2, js, h1, h2, h3, h4⟩) hr hl
theorem lc_filterM {scope : Scope} {own : List (Str × Nat)} {ifs : List Expr} {α : Type} {xs : List α} {enc : α → Im} (g : α → D) (p : α → Bool) (hi : EI X tg iter ρ (xs.map enc) ρ1)
    (hs : ∀ x ∈ xs, ∃ ρ2 js, BG X scope tg (enc x) (wipeR ρ1 (own.map (·.2))) ρ2 js ∧ (∀ j ∈ js, j ∈ own.map (·.2)) ∧ BT X scope ifs ρ2 (p x) ρ2 ∧ (p x = true → BV X scope elt ρ2 (.d (g x)) ρ2) ∧ wipeR ρ2 (own.map (·.2)) = wipeR ρ1 (own.map (·.2)))
    (hr : restore ρ1 (wipeR ρ1 (own.map (·.2))) (own.map (·.2)) = ρ1) (hl : xs.length < sizeLine) : LC X scope own tg iter elt ifs ρ ((xs.filter p).map g) ρ1 := lc_filter xs enc g p hi rfl hs hr hl
/-! ### a list of one's own is data from here on -/
theorem es_fz {i : Nat} {ds : List D} (hi : ρ[i]? = some (Sl.own none (.lst ds))) (h : ES X sts (ρ.set i (.d (.list ds))) N) : ES X sts ρ N := .mk fun β σ F H C => by
  obtain ⟨l, vs, F2, e1, l2, fl, da, C2⟩ := C.freeze hi
  exact h β σ F2 H C2
theorem es_forget (i : Nat) (h : ES X sts (ρ.set i .no) N) : ES X sts ρ N := .mk fun β σ F H C => h β σ F H (C.forget i)
/-! ### stars in displays -/
theorem RsAll.append {K : PySem.W.Frag} {β : Bs} {σ : L2.St} {F H : Hp} : ∀ {vs ws : List V} {rs rs' : List Rs}, RsAll K β ρ σ F H vs rs → RsAll K β ρ σ F H ws rs' → RsAll K β ρ σ F H (vs ++ ws) (rs ++ rs')
  | _, _, _, _, .nil, h => h
  | _, _, _, _, .cons a b, h => .cons a (RsAll.append b h)
theorem DaAll.rs {K : PySem.W.Frag} {β : Bs} {σ : L2.St} {F H : Hp} : ∀ {vs : List V} {ds : List D}, DaAll K F vs ds → RsAll K β ρ σ F H vs (ds.map Rs.d)
  | _, _, .nil => .nil
  | _, _, .cons a b => .cons a (DaAll.rs b)
theorem ea_starT {ds : List D} {rs : List Rs} (h : EV X e ρ (.d (.tuple ds)) ρ1) (t : EA X es ρ1 rs ρ2) (hs : starEach (.Starred e p :: es) X.env = (true, eval e X.env) :: starEach es X.env := by rfl) : EA X (.Starred e p :: es) ρ (ds.map Rs.d ++ rs) ρ2 := .mk fun β σ F H C Q k =>
  ⟨_, StX.pa_star peU paU hs, h β σ F H C _ fun v F1 H1 C1 l1 r1 => by
    obtain ⟨a, xs, rfl, q1, q2⟩ := Da.tup_ref r1
    exact ⟨a, xs, rfl, .inl (C1.le.plT q1).sqT, t β σ F1 H1 C1 _ fun vs F2 H2 C2 l2 r2 => k _ F2 H2 C2 (l1.trans l2) (RsAll.append (DaAll.rs (q2.mono l2)) r2)⟩⟩
theorem ea_starL {ds : List D} {rs : List Rs} (h : EV X e ρ (.d (.list ds)) ρ1) (t : EA X es ρ1 rs ρ2) (hs : starEach (.Starred e p :: es) X.env = (true, eval e X.env) :: starEach es X.env := by rfl) : EA X (.Starred e p :: es) ρ (ds.map Rs.d ++ rs) ρ2 := .mk fun β σ F H C Q k =>
  ⟨_, StX.pa_star peU paU hs, h β σ F H C _ fun v F1 H1 C1 l1 r1 => by
    obtain ⟨a, xs, rfl, q1, q2⟩ := Da.list_ref r1
    exact ⟨a, xs, rfl, .inr (C1.le.sqL q1), t β σ F1 H1 C1 _ fun vs F2 H2 C2 l2 r2 => k _ F2 H2 C2 (l1.trans l2) (RsAll.append (DaAll.rs (q2.mono l2)) r2)⟩⟩
end
end OX
set_option Elab.async false
set_option linter.all false
set_option maxRecDepth 100000
set_option maxHeartbeats 1000000
/-! OX11: whole numbers that are natural, built-in names. -/
namespace OX
open PySem L2
section
variable {X : Cx} {ρ ρ1 ρ2 ρ3 : List Sl} {r ra rb rc : Rs} {e a b c o ix tg iter elt : Expr} {es : List Expr} {pos p apos cpos tpos : Pos} {x : Str} {d : D} {sts : List Stmt} {N : SN}
theorem BinX.cast {op : Operator} {rc' : Rs} (h : BinX X op ra rb ρ rc) (e : rc = rc') : BinX X op ra rb ρ rc' := e ▸ h
theorem CmpX.cast {op : CmpOp} {rc' : Rs} (h : CmpX X op ra rb ρ rc) (e : rc = rc') : CmpX X op ra rb ρ rc' := e ▸ h
theorem CrX.cast {f : Value} {rs : List Rs} {rc' : Rs} (h : CrX X f rs ρ rc) (e : rc = rc') : CrX X f rs ρ rc' := e ▸ h
theorem ev_natC {n : Nat} {j} : EV X (.Constant (.int (Int.ofNat n)) j pos) ρ (.d (nD n)) ρ := ev_int
theorem bx_addN {m n : Nat} : BinX X .Add (.d (nD m)) (.d (nD n)) ρ (.d (nD (m + n))) := bx_addI
theorem bx_subN {m n : Nat} (h : n ≤ m) : BinX X .Sub (.d (nD m)) (.d (nD n)) ρ (.d (nD (m - n))) := bx_subI.cast (by unfold nD; congr 2; omega)
theorem bx_mulN {m n : Nat} (h : m.log2 + n.log2 < 1000000) : BinX X .Mult (.d (nD m)) (.d (nD n)) ρ (.d (nD (m * n))) := (bx_mulI (by simpa using h)).cast (by unfold nD; congr 2)
theorem bx_fdivN {m n : Nat} (h : 0 < n ∧ n.log2 < 9000) : BinX X .FloorDiv (.d (nD m)) (.d (nD n)) ρ (.d (nD (m / n))) := (bx_fdivI ⟨by omega, by simpa using h.2⟩).cast (by unfold nD; congr 2)
theorem bx_modN {m n : Nat} (h : 0 < n) : BinX X .Mod (.d (nD m)) (.d (nD n)) ρ (.d (nD (m % n))) := (bx_modI (by omega)).cast (by unfold nD; congr 2)
theorem cx_ltN {m n : Nat} : CmpX X .Lt (.d (nD m)) (.d (nD n)) ρ (.d (.bool (decide (m < n)))) := cx_ltI.cast (by congr 2; exact decide_eq_decide.mpr (by omega))
theorem cx_leN {m n : Nat} : CmpX X .LtE (.d (nD m)) (.d (nD n)) ρ (.d (.bool (decide (m ≤ n)))) := cx_leI.cast (by congr 2; exact decide_eq_decide.mpr (by omega))
theorem cx_gtN {m n : Nat} : CmpX X .Gt (.d (nD m)) (.d (nD n)) ρ (.d (.bool (decide (n < m)))) := cx_gtI.cast (by congr 2; exact decide_eq_decide.mpr (by omega))
theorem cx_geN {m n : Nat} : CmpX X .GtE (.d (nD m)) (.d (nD n)) ρ (.d (.bool (decide (n ≤ m)))) := cx_geI.cast (by congr 2; exact decide_eq_decide.mpr (by omega))
theorem cx_eqN {m n : Nat} : CmpX X .Eq (.d (nD m)) (.d (nD n)) ρ (.d (.bool (decide (m = n)))) := cx_eqI.cast (by congr 2; exact decide_eq_decide.mpr (by omega))
theorem cx_neN {m n : Nat} : CmpX X .NotEq (.d (nD m)) (.d (nD n)) ρ (.d (.bool (!decide (m = n)))) := cx_neI.cast (by congr 3; exact decide_eq_decide.mpr (by omega))
theorem cr_len' {ds : List D} (s : SeqR ρ r ds) : CrX X (.builtin "len") [r] ρ (.d (nD ds.length)) := cr_len s
theorem cr_lenM {α : Type} {f : α → D} {xs : List α} (s : SeqR ρ r (xs.map f)) : CrX X (.builtin "len") [r] ρ (.d (nD xs.length)) := (cr_len s).cast (by unfold nD; rw [List.length_map])
theorem cr_lenS' {z : Str} (h : z.length ≤ sizeLine) : CrX X (.builtin "len") [.d (.str z)] ρ (.d (nD z.length)) := cr_lenS h
theorem cr_lenD' {kvs : List (Key × D)} (s : DictR ρ r kvs) : CrX X (.builtin "len") [r] ρ (.d (nD kvs.length)) := cr_lenD s
theorem cr_intN {n : Nat} : CrX X (.type "int") [.d (nD n)] ρ (.d (nD n)) := cr_intI
theorem cr_intBN {k : Bool} : CrX X (.type "int") [.d (.bool k)] ρ (.d (nD (if k = true then 1 else 0))) := cr_intB.cast (by cases k <;> rfl)
theorem cr_absN {i : Int} : CrX X (.builtin "abs") [.d (.int i)] ρ (.d (nD i.natAbs)) := cr_absI.cast (by
  unfold nD
  congr 2
  split <;> omega)
theorem cr_maxN {m n : Nat} (hc : X.calm = true) : CrX X (.builtin "max") [.d (nD m), .d (nD n)] ρ (.d (nD (max m n))) := (cr_max2 hc).cast (by
  unfold nD
  congr 2
  split <;> omega)
theorem cr_minN {m n : Nat} (hc : X.calm = true) : CrX X (.builtin "min") [.d (nD m), .d (nD n)] ρ (.d (nD (min m n))) := (cr_min2 hc).cast (by
  unfold nD
  congr 2
  split <;> omega)
theorem sum_nats (ns : List Nat) : (ns.map fun n : Nat => (n : Int)).sum = (ns.sum : Nat) := by
  induction ns with
  | nil => rfl
  | cons n ns ih => simp [ih]
theorem cr_sumN {ns : List Nat} (hc : X.calm = true) (s : r = .d (.list (ns.map nD)) ∨ ∃ i bo, r = .own i ∧ ρ[i]? = some (Sl.own bo (.lst (ns.map nD)))) : CrX X (.builtin "sum") [r] ρ (.d (nD ns.sum)) := by
  rw [nD_map] at s
  exact (cr_sumI hc s).cast (by unfold nD; rw [sum_nats])
theorem cr_allM {α : Type} {xs : List α} {g : α → Bool} (hc : X.calm = true) (s : r = .d (.list (xs.map fun x => .bool (g x)))) : CrX X (.builtin "all") [r] ρ (.d (.bool (xs.all g))) := by
  have e : (xs.map fun x => PyData.bool (g x)) = (xs.map g).map PyData.bool := by simp
  rw [e] at s
  exact (cr_allB hc (.inl s)).cast (by simp)
theorem cr_anyM {α : Type} {xs : List α} {g : α → Bool} (hc : X.calm = true) (s : r = .d (.list (xs.map fun x => .bool (g x)))) : CrX X (.builtin "any") [r] ρ (.d (.bool (xs.any g))) := by
  have e : (xs.map fun x => PyData.bool (g x)) = (xs.map g).map PyData.bool := by simp
  rw [e] at s
  exact (cr_anyB hc (.inl s)).cast (by simp)
end
/-- the names of built-in things, none of them the module's -/
def bnames : List Str := ["isinstance", "int", "bool", "str", "tuple", "list", "dict", "len", "all", "any", "zip", "enumerate", "range", "set", "sorted", "sum", "min", "max", "abs", "repr"]
def NoB (mg : Str → Option Value) : Prop := ∀ b ∈ bnames, mg b = none
theorem NoB.at {mg : Str → Option Value} (h : NoB mg) {x : Str} (hx : bnames.contains x = true) : mg x = none := h x (by simpa using hx)
theorem inb_isinstance : bnames.contains "isinstance" = true := by decide +kernel
theorem inb_int : bnames.contains "int" = true := by decide +kernel
theorem inb_bool : bnames.contains "bool" = true := by decide +kernel
theorem inb_str : bnames.contains "str" = true := by decide +kernel
theorem inb_tuple : bnames.contains "tuple" = true := by decide +kernel
theorem inb_list : bnames.contains "list" = true := by decide +kernel
theorem inb_dict : bnames.contains "dict" = true := by decide +kernel
theorem inb_len : bnames.contains "len" = true := by decide +kernel
theorem inb_all : bnames.contains "all" = true := by decide +kernel
theorem inb_any : bnames.contains "any" = true := by decide +kernel
theorem inb_zip : bnames.contains "zip" = true := by decide +kernel
theorem inb_enumerate : bnames.contains "enumerate" = true := by decide +kernel
theorem inb_range : bnames.contains "range" = true := by decide +kernel
theorem inb_set : bnames.contains "set" = true := by decide +kernel
theorem inb_sorted : bnames.contains "sorted" = true := by decide +kernel
theorem inb_sum : bnames.contains "sum" = true := by decide +kernel
theorem inb_min : bnames.contains "min" = true := by decide +kernel
theorem inb_max : bnames.contains "max" = true := by decide +kernel
theorem inb_abs : bnames.contains "abs" = true := by decide +kernel
theorem inb_repr : bnames.contains "repr" = true := by decide +kernel
end OX
set_option Elab.async false
set_option linter.all false
set_option maxRecDepth 100000
set_option maxHeartbeats 1000000
/-! OX12: arguments that are data. -/
namespace OX
open PySem L2
def EAD (X : Cx) (es : List Expr) (ρ : List Sl) (ds : List D) (ρ' : List Sl) : Prop := EA X es ρ (ds.map Rs.d) ρ'
section
variable {X : Cx} {ρ ρ1 ρ2 ρ3 : List Sl} {r ra rb rc : Rs} {e a b c o ix tg iter elt : Expr} {es : List Expr} {pos p apos cpos tpos : Pos} {x : Str} {d : D} {ds ds' : List D} {sts : List Stmt} {N : SN} {k : Nat} {ps : List Str}
theorem ead_nil : EAD X [] ρ [] ρ := ea_nil
theorem ead_cons (h : EV X e ρ (.d d) ρ1) (t : EAD X es ρ1 ds ρ2) (hs : starEach (e :: es) X.env = (false, eval e X.env) :: starEach es X.env := by rfl) : EAD X (e :: es) ρ (d :: ds) ρ2 := ea_cons h t rfl hs
theorem ead_starT (h : EV X e ρ (.d (.tuple ds)) ρ1) (t : EAD X es ρ1 ds' ρ2) (hs : starEach (.Starred e p :: es) X.env = (true, eval e X.env) :: starEach es X.env := by rfl) : EAD X (.Starred e p :: es) ρ (ds ++ ds') ρ2 := by
  have := ea_starT h t hs
  unfold EAD
  rw [List.map_append]
  exact this
theorem ead_starL (h : EV X e ρ (.d (.list ds)) ρ1) (t : EAD X es ρ1 ds' ρ2) (hs : starEach (.Starred e p :: es) X.env = (true, eval e X.env) :: starEach es X.env := by rfl) : EAD X (.Starred e p :: es) ρ (ds ++ ds') ρ2 := by
  have := ea_starL h t hs
  unfold EAD
  rw [List.map_append]
  exact this
theorem ev_tupE {x1} (h : EAD X es ρ ds ρ1) (hl : ds.length ≤ sizeLine) : EV X (.Tuple es x1 pos) ρ (.d (.tuple ds)) ρ1 := ev_tup h rfl hl
theorem ev_lstE (h : EAD X es ρ ds ρ1) (hl : ds.length ≤ sizeLine) : EV X (.List es pos) ρ (.new (.lst ds)) ρ1 := ev_lst h rfl hl
theorem ev_defE {k0 : Nat} {R : List D → D → Prop} (G : Ok X.prog X.w X.K X.mg X.base k x ps (spD X.K R)) (hr : Room k0 X.A) (hk : k ≤ k0) (hg : Gl X x) (ha : EAD X (e :: es) ρ ds ρ1) (hR : R ds d)
    (hdb : (x == ("__debug__" : Str)) = false := by decide) (he : starEach (e :: es) X.env = (false, eval e X.env) :: starEach es X.env := by rfl) (hpl : (backTo pos (starEach es X.env)).any (·.1) = false := by rfl) : EV X (.Call (.Name x p) (e :: es) [] pos) ρ (.d d) ρ1 :=
  ev_def G (hr.mono hk) hg ha rfl hR hdb he hpl
theorem ev_defE0 {k0 : Nat} {R : List D → D → Prop} (G : Ok X.prog X.w X.K X.mg X.base k x ps (spD X.K R)) (hr : Room k0 X.A) (hk : k ≤ k0) (hg : Gl X x) (hR : R [] d) (hdb : (x == ("__debug__" : Str)) = false := by decide) : EV X (.Call (.Name x p) [] [] pos) ρ (.d d) ρ :=
  ev_def0 G (hr.mono hk) hg hR hdb
theorem ev_defBE {k0 : Nat} {R : List D → List D → List D → D → Prop} {cs cs' : List D} {i : Nat} {bo : Option Nat} (G : Ok X.prog X.w X.K X.mg X.base k x ps (spB X.K R)) (hr : Room k0 X.A) (hk : k ≤ k0) (hg : Gl X x) (h1 : EV X e ρ (.own i) ρ1) (ha : EAD X es ρ1 ds ρ2) (hi : ρ2[i]? = some (Sl.own bo (.lst cs))) (hR : R cs ds cs' d)
    (hdb : (x == ("__debug__" : Str)) = false := by decide) (he : starEach (e :: es) X.env = (false, eval e X.env) :: starEach es X.env := by rfl) (hpl : (backTo pos (starEach es X.env)).any (·.1) = false := by rfl) : EV X (.Call (.Name x p) (e :: es) [] pos) ρ (.d d) (ρ2.set i (.own bo (.lst cs'))) :=
  ev_defB G (hr.mono hk) hg (ea_cons h1 ha rfl he) rfl hi hR hdb he hpl
end
theorem kd_ii {i : Int} : kitB (tyName (PyData.int i)) "int" = some true := kit_ii
theorem kd_ib {i : Int} : kitB (tyName (PyData.int i)) "bool" = some false := kit_ib
theorem kd_is {i : Int} : kitB (tyName (PyData.int i)) "str" = some false := kit_is
theorem kd_it {i : Int} : kitB (tyName (PyData.int i)) "tuple" = some false := kit_it
theorem kd_il {i : Int} : kitB (tyName (PyData.int i)) "list" = some false := kit_il
theorem kd_id {i : Int} : kitB (tyName (PyData.int i)) "dict" = some false := kit_id
theorem kd_mi {i : Nat} : kitB (tyName (nD i)) "int" = some true := kit_ii
theorem kd_mb {i : Nat} : kitB (tyName (nD i)) "bool" = some false := kit_ib
theorem kd_ms {i : Nat} : kitB (tyName (nD i)) "str" = some false := kit_is
theorem kd_mt {i : Nat} : kitB (tyName (nD i)) "tuple" = some false := kit_it
theorem kd_ml {i : Nat} : kitB (tyName (nD i)) "list" = some false := kit_il
theorem kd_md {i : Nat} : kitB (tyName (nD i)) "dict" = some false := kit_id
theorem kd_bi {i : Bool} : kitB (tyName (PyData.bool i)) "int" = some true := kit_bi
theorem kd_bb {i : Bool} : kitB (tyName (PyData.bool i)) "bool" = some true := kit_bb
theorem kd_bs {i : Bool} : kitB (tyName (PyData.bool i)) "str" = some false := kit_bs
theorem kd_bt {i : Bool} : kitB (tyName (PyData.bool i)) "tuple" = some false := kit_bt
theorem kd_bl {i : Bool} : kitB (tyName (PyData.bool i)) "list" = some false := kit_bl
theorem kd_bd {i : Bool} : kitB (tyName (PyData.bool i)) "dict" = some false := kit_bd
theorem kd_si {i : Str} : kitB (tyName (PyData.str i)) "int" = some false := kit_si
theorem kd_sb {i : Str} : kitB (tyName (PyData.str i)) "bool" = some false := kit_sb
theorem kd_ss {i : Str} : kitB (tyName (PyData.str i)) "str" = some true := kit_ss
theorem kd_st {i : Str} : kitB (tyName (PyData.str i)) "tuple" = some false := kit_st
theorem kd_sl {i : Str} : kitB (tyName (PyData.str i)) "list" = some false := kit_sl
theorem kd_sd {i : Str} : kitB (tyName (PyData.str i)) "dict" = some false := kit_sd
theorem kd_ti {i : List D} : kitB (tyName (PyData.tuple i)) "int" = some false := kit_ti
theorem kd_tb {i : List D} : kitB (tyName (PyData.tuple i)) "bool" = some false := kit_tb
theorem kd_ts {i : List D} : kitB (tyName (PyData.tuple i)) "str" = some false := kit_ts
theorem kd_tt {i : List D} : kitB (tyName (PyData.tuple i)) "tuple" = some true := kit_tt
theorem kd_tl {i : List D} : kitB (tyName (PyData.tuple i)) "list" = some false := kit_tl
theorem kd_td {i : List D} : kitB (tyName (PyData.tuple i)) "dict" = some false := kit_td
theorem kd_li {i : List D} : kitB (tyName (PyData.list i)) "int" = some false := kit_li
theorem kd_lb {i : List D} : kitB (tyName (PyData.list i)) "bool" = some false := kit_lb
theorem kd_ls {i : List D} : kitB (tyName (PyData.list i)) "str" = some false := kit_ls
theorem kd_lt {i : List D} : kitB (tyName (PyData.list i)) "tuple" = some false := kit_lt
theorem kd_ll {i : List D} : kitB (tyName (PyData.list i)) "list" = some true := kit_ll
theorem kd_ld {i : List D} : kitB (tyName (PyData.list i)) "dict" = some false := kit_ld
theorem kd_di {i : List (D × D)} : kitB (tyName (PyData.dict i)) "int" = some false := kit_di
theorem kd_db {i : List (D × D)} : kitB (tyName (PyData.dict i)) "bool" = some false := kit_db
theorem kd_ds {i : List (D × D)} : kitB (tyName (PyData.dict i)) "str" = some false := kit_ds
theorem kd_dt {i : List (D × D)} : kitB (tyName (PyData.dict i)) "tuple" = some false := kit_dt
theorem kd_dl {i : List (D × D)} : kitB (tyName (PyData.dict i)) "list" = some false := kit_dl
theorem kd_dd {i : List (D × D)} : kitB (tyName (PyData.dict i)) "dict" = some true := kit_dd
theorem kd_ei {i : List (Key × D)} : kitB (tyName (dictD i)) "int" = some false := kit_di
theorem kd_eb {i : List (Key × D)} : kitB (tyName (dictD i)) "bool" = some false := kit_db
theorem kd_es {i : List (Key × D)} : kitB (tyName (dictD i)) "str" = some false := kit_ds
theorem kd_et {i : List (Key × D)} : kitB (tyName (dictD i)) "tuple" = some false := kit_dt
theorem kd_el {i : List (Key × D)} : kitB (tyName (dictD i)) "list" = some false := kit_dl
theorem kd_ed {i : List (Key × D)} : kitB (tyName (dictD i)) "dict" = some true := kit_dd
theorem kd_ni  : kitB (tyName (PyData.none)) "int" = some false := kit_ni
theorem kd_nb  : kitB (tyName (PyData.none)) "bool" = some false := kit_nb
theorem kd_ns  : kitB (tyName (PyData.none)) "str" = some false := kit_ns
theorem kd_nt  : kitB (tyName (PyData.none)) "tuple" = some false := kit_nt
theorem kd_nl  : kitB (tyName (PyData.none)) "list" = some false := kit_nl
theorem kd_nd  : kitB (tyName (PyData.none)) "dict" = some false := kit_nd
/-! ### slots by name -/
structure NmAt (N : List Str) (i : Nat) (x : Str) : Prop where
  at_ : N[i]? = some x
section
variable {X : Cx} {ρ ρ1 ρ2 : List Sl} {e : Expr} {pos pos' : Pos} {x : Str} {d : D} {sts : List Stmt} {N : SN} {Ns : List Str} {i : Nat} {cc : OC} {bo : Option Nat}
theorem ev_nameN (hn : NmAt Ns i x) (hX : X.N = Ns) (hv : Vis X.env.scope x) (hi : ρ[i]? = some (Sl.d d)) (hd : (x == ("__debug__" : Str)) = false := by decide) (hcd : (x == ("__classdict__" : Str)) = false := by decide) : EV X (.Name x pos) ρ (.d d) ρ := by
  subst hX
  exact ev_name hn.at_ hv hi hd hcd
theorem ev_nameON (hn : NmAt Ns i x) (hX : X.N = Ns) (hv : Vis X.env.scope x) (hi : ρ[i]? = some (Sl.own bo cc)) (hd : (x == ("__debug__" : Str)) = false := by decide) (hcd : (x == ("__classdict__" : Str)) = false := by decide) : EV X (.Name x pos) ρ (.own i) ρ := by
  subst hX
  exact ev_nameO hn.at_ hv hi hd hcd
theorem eg_nameN (hn : NmAt Ns i x) (hX : X.N = Ns) (hN : X.N.Nodup) (hx : Loc X.env.scope x) (hf : X.fn x = true ∨ X.env.scope.names.lookup x = some .local) : EG X (.Name x pos) (.one d) ρ (ρ.set i (.d d)) [i] := by
  subst hX
  exact eg_name hN hn.at_ hx hf
theorem ec_setD (hn : NmAt Ns i x) (hX : X.N = Ns) (hN : X.N.Nodup) (hx : Loc X.env.scope x) (he : EV X e ρ (.d d) ρ1) (h : ES X sts (ρ1.set i (.d d)) N) (hf : X.fn x = true ∨ X.env.scope.names.lookup x = some .local) (hs : swapsWith e (some (.Name x pos')) pos.line X.env = pure false) : ES X (.Assign [.Name x pos'] e pos :: sts) ρ N := by
  subst hX
  exact ec_set hN hn.at_ hx he h hs hf
theorem ec_setO (hn : NmAt Ns i x) (hX : X.N = Ns) (hN : X.N.Nodup) (hx : Loc X.env.scope x) (he : EV X e ρ (.new cc) ρ1) (h : ES X sts (ρ1.set i (.own none cc)) N) (hf : X.fn x = true ∨ X.env.scope.names.lookup x = some .local) (hs : swapsWith e (some (.Name x pos')) pos.line X.env = pure false) : ES X (.Assign [.Name x pos'] e pos :: sts) ρ N := by
  subst hX
  exact ec_setN hN hn.at_ hx he h hs hf
theorem ec_setC {scope : Scope} {own : List (Str × Nat)} {elt tg iter : Expr} {ifs : List Expr} {out : List D} {ρ' : List Sl} {spos : Pos} (hn : NmAt Ns i x) (hX : X.N = Ns) (hN : X.N.Nodup) (hc : X.calm = true) (hyl : X.env.scope.names.lookup x = some .local) (hsw : swapsWith (.ListComp elt [⟨tg, iter, ifs, 0⟩] scope pos) (some (.Name x pos')) spos.line X.env = pure true)
    (ok : BlkOk X.N X.env.scope scope own) (h : LC X scope own tg iter elt ifs ρ out ρ') (hs : ∀ x, foldedSetIterable iter X.env x = pure x) (hk : ES X sts (ρ'.set i (.own none (.lst out))) N) : ES X (.Assign [.Name x pos'] (.ListComp elt [⟨tg, iter, ifs, 0⟩] scope pos) spos :: sts) ρ N := by
  subst hX
  exact ec_setLc hc hN hn.at_ hyl hsw ok h hk hs
/-- .. whose list is data at once -/
theorem ec_setCD {scope : Scope} {own : List (Str × Nat)} {elt tg iter : Expr} {ifs : List Expr} {out : List D} {ρ' : List Sl} {spos : Pos} (hn : NmAt Ns i x) (hX : X.N = Ns) (hN : X.N.Nodup) (hc : X.calm = true) (hyl : X.env.scope.names.lookup x = some .local) (hsw : swapsWith (.ListComp elt [⟨tg, iter, ifs, 0⟩] scope pos) (some (.Name x pos')) spos.line X.env = pure true)
    (ok : BlkOk X.N X.env.scope scope own) (h : LC X scope own tg iter elt ifs ρ out ρ') (hs : ∀ x, foldedSetIterable iter X.env x = pure x) (hk : ES X sts (ρ'.set i (.d (.list out))) N) (hi : i < ρ'.length) : ES X (.Assign [.Name x pos'] (.ListComp elt [⟨tg, iter, ifs, 0⟩] scope pos) spos :: sts) ρ N :=
  ec_setC hn hX hN hc hyl hsw ok h hs (es_fz (i := i) (by rw [List.getElem?_set_self hi]) (by rw [List.set_set]; exact hk))
end
/-! ### typed slices; a star at the end -/
theorem cutD_map {α β : Type} (f : α → β) (xs : List α) (lo hi : Option Int) : cutD (xs.map f) lo hi = (cutD xs lo hi).map f := by
  unfold cutD
  rw [List.length_map, List.map_take, List.map_drop]
theorem cutD_drop {α : Type} (xs : List α) (n : Nat) : cutD xs (some (n : Int)) none = xs.drop n := by
  unfold cutD
  rw [HT.sIx_nat, HT.sIx_none]
  by_cases z : n ≤ xs.length
  · rw [Nat.min_eq_left z, List.take_of_length_le]
    rw [List.length_drop]
    omega
  · rw [Nat.min_eq_right (by omega), List.drop_of_length_le (Nat.le_refl _), List.drop_of_length_le (by omega), List.take_nil]
theorem cutD_take {α : Type} (xs : List α) (n : Nat) : cutD xs none (some (n : Int)) = xs.take n := by
  unfold cutD
  rw [HT.sIx_nat, HT.sIx_none, List.drop_zero, Nat.sub_zero]
  by_cases z : n ≤ xs.length
  · rw [Nat.min_eq_left z]
  · rw [Nat.min_eq_right (by omega), List.take_of_length_le (Nat.le_refl _), List.take_of_length_le (by omega)]
section
variable {X : Cx} {ρ ρ1 ρ2 ρ3 : List Sl} {r ra rb rc : Rs} {e a b c : Expr} {es : List Expr} {pos p p2 : Pos} {lo hi : Expr} {ds : List D}
theorem EV.to {r' : Rs} (h : EV X e ρ r ρ1) (eq : r = r') : EV X e ρ r' ρ1 := eq ▸ h
theorem ev_dropT {α : Type} {f : α → D} {xs : List α} {n : Nat} (ha : EV X a ρ (.d (.tuple (xs.map f))) ρ1) (h1 : EV X lo ρ1 (.d (nD n)) ρ2) : EV X (.Subscript a (.Slice (some lo) none none p2) pos) ρ (.d (.tuple ((xs.drop n).map f))) ρ2 :=
  (ev_sliceT ha (eo_some h1) eo_none).to (by rw [cutD_map, cutD_drop])
theorem ev_takeT {α : Type} {f : α → D} {xs : List α} {n : Nat} (ha : EV X a ρ (.d (.tuple (xs.map f))) ρ1) (h1 : EV X hi ρ1 (.d (nD n)) ρ2) : EV X (.Subscript a (.Slice none (some hi) none p2) pos) ρ (.d (.tuple ((xs.take n).map f))) ρ2 :=
  (ev_sliceT ha eo_none (eo_some h1)).to (by rw [cutD_map, cutD_take])
theorem ev_dropL {α : Type} {f : α → D} {xs : List α} {n : Nat} (ha : EV X a ρ ra ρ1) (h1 : EV X lo ρ1 (.d (nD n)) ρ2) (s : ra = .d (.list (xs.map f)) ∨ ∃ i bo, ra = .own i ∧ ρ2[i]? = some (Sl.own bo (.lst (xs.map f)))) (hst : ra.st = true := by rfl) : EV X (.Subscript a (.Slice (some lo) none none p2) pos) ρ (.new (.lst ((xs.drop n).map f))) ρ2 :=
  (ev_sliceL ha (eo_some h1) eo_none s hst).to (by rw [cutD_map, cutD_drop])
theorem ev_takeL {α : Type} {f : α → D} {xs : List α} {n : Nat} (ha : EV X a ρ ra ρ1) (h1 : EV X hi ρ1 (.d (nD n)) ρ2) (s : ra = .d (.list (xs.map f)) ∨ ∃ i bo, ra = .own i ∧ ρ2[i]? = some (Sl.own bo (.lst (xs.map f)))) (hst : ra.st = true := by rfl) : EV X (.Subscript a (.Slice none (some hi) none p2) pos) ρ (.new (.lst ((xs.take n).map f))) ρ2 :=
  (ev_sliceL ha eo_none (eo_some h1) s hst).to (by rw [cutD_map, cutD_take])
theorem ead_star1T (h : EV X e ρ (.d (.tuple ds)) ρ1) (hs : starEach (.Starred e p :: []) X.env = (true, eval e X.env) :: starEach [] X.env := by rfl) : EAD X [.Starred e p] ρ ds ρ1 := by
  have := ead_starT h (ead_nil (ρ := ρ1)) hs
  rwa [List.append_nil] at this
theorem ead_star1L (h : EV X e ρ (.d (.list ds)) ρ1) (hs : starEach (.Starred e p :: []) X.env = (true, eval e X.env) :: starEach [] X.env := by rfl) : EAD X [.Starred e p] ρ ds ρ1 := by
  have := ead_starL h (ead_nil (ρ := ρ1)) hs
  rwa [List.append_nil] at this
end
end OX
set_option Elab.async false
set_option linter.all false
set_option maxRecDepth 100000
set_option maxHeartbeats 1000000
/-! OX13: typed loops, comprehensions that carry a state, two clauses, typed dicts. -/
namespace OX
open PySem L2
theorem Room.units1 {k : Nat} {A : Around} (r : Room k A) : A.units + 65 < cLine := by have := r.un; omega
theorem Room.unitsD {k : Nat} {A : Around} (r : Room k A) : A.units + 1 < cLine := by have := r.un; omega
/-! ### a block's names, checked -/
def blkCheck (N : List Str) (sc scope : Scope) (own : List (Str × Nat)) : Bool :=
  decide (scope.kind = .function) && scope.names.all (fun y => decide (scope.names.lookup y.1 = some y.2)) && own.all (fun p => decide (N[p.2]? = some p.1))
    && scope.names.all (fun y => !decide (y.2 = .free) || decide (sc.names.lookup y.1 = some .cell) || decide (sc.names.lookup y.1 = some .free))
    && scope.names.all (fun y => !(decide (y.2 = .local) || decide (y.2 = .cell)) || decide (y.1 ∈ own.map (·.1)) || decide (y.1 ∉ N))
theorem blkOk_of {N N' : List Str} {sc sc' scope : Scope} {own : List (Str × Nat)} (hN : N = N') (hs : sc = sc') (h : blkCheck N' sc' scope own = true) : BlkOk N sc scope own := by
  subst hN hs
  unfold blkCheck at h
  simp only [Bool.and_eq_true, decide_eq_true_eq, List.all_eq_true, Bool.or_eq_true, Bool.not_eq_true', decide_eq_false_iff_not] at h
  obtain ⟨⟨⟨⟨h1, h2⟩, h3⟩, h4⟩, h5⟩ := h
  refine ⟨h1, h2, h3, fun y hy e => ?_, fun y hy e => ?_⟩
  · rcases h4 y hy with (q | q) | q
    · exact absurd e q
    · exact .inl q
    · exact .inr q
  · rcases h5 y hy with (q | q) | q
    · simp only [Bool.or_eq_false_iff, decide_eq_false_iff_not] at q
      rcases e with e | e
      · exact absurd e q.1
      · exact absurd e q.2
    · exact .inl q
    · exact .inr q
section
variable {X : Cx} {ρ ρ1 ρ2 ρ3 : List Sl} {r ra rb rc : Rs} {e f a b c o ix tg iter elt tg1 iter1 : Expr} {es : List Expr} {ifs ifs1 : List Expr} {pos p apos cpos tpos : Pos} {x : Str} {d : D} {sts body : List Stmt} {N : SN} {scope : Scope} {own : List (Str × Nat)}
def relabS (scope sc : Scope) : Scope := { scope with names := scope.names.map fun (n, k) => if (k == NameKind.free && sc.kind == .function && sc.names.lookup n == some .cell) then (n, NameKind.cell) else (n, k) }
theorem blk_scope {s : Shared} {H : Hp} {C : Addr} {cl : List (Str × Addr)} {fp : List Addr} {sc : Scope} (h : X.env.scope = sc) : (blkX X scope s H C cl fp).env.scope = relabS scope sc := by
  subst h
  rfl
theorem body_scope {P : Program} {w : World} {K : PySem.W.Frag} {mg : Str → Option Value} {base : Heap} {N : List Str} {qual : Str} {st : Stmt} {f : Addr} {cdv : Value} {A : Around} {outer : List Env} {s : Shared} {H : Hp} {E : XK} : (bodyX P w K mg base N qual st f cdv A outer s H E).env.scope = defScope st := rfl
/-! ### loops -/
theorem ec_forM {α : Type} {xs : List α} {enc : α → Im} (hi : EI X tg iter ρ (xs.map enc) ρ1) (hp : PassesOwn (model X.prog X.w) X.A X.env X.xe) (hc : X.calm = true) (I : Nat → List Sl → Prop) (h0 : I 0 ρ1)
    (hs : ∀ i x ρ', xs[i]? = some x → I i ρ' → ∃ ρ2 js, EG X tg (enc x) ρ' ρ2 js ∧ ES X body ρ2 { nx := I (i + 1), rt := N.rt, bk := fun ρ' => ES X sts ρ' N, ct := I (i + 1) })
    (hd : ∀ ρ', I xs.length ρ' → ES X sts ρ' N) (hf : ∀ x, foldedSetIterable iter X.env x = pure x) : ES X (.For tg iter body [] pos :: sts) ρ N :=
  ec_for hp hc hi I h0 (fun i d ρ' e q => by
    rw [List.getElem?_map] at e
    obtain ⟨x, hx, rfl⟩ := Option.map_eq_some_iff.mp e
    exact hs i x ρ' hx q) (fun ρ' q => hd ρ' (by rw [List.length_map] at q; exact q)) hf
/-! ### a dict of one's own is data from here on -/
theorem Conc.freezeD {K : PySem.W.Frag} {β : Bs} {σ : L2.St} {F H : Hp} {i : Nat} {kvs : List (Key × D)} (C : Conc K β ρ σ F H) (hi : ρ[i]? = some (Sl.own none (.dct kvs))) : ∃ F', Le F F' ∧ Conc K β (ρ.set i (.d (dictD kvs))) σ F' H := by
  obtain ⟨l, e1, e2, ⟨ws, h, da⟩, e4, e5⟩ := C.sl i _ hi
  have hi' : i < ρ.length := (List.getElem?_eq_some_iff.mp hi).1
  refine ⟨upd F l (.dK ws), le_upd e2, C.le.add h, C.base.trans (le_upd e2), fun a q => ?_, C.frame, by rw [List.length_set, C.len], fun j s e => ?_, fun j k b1 b2 c1 c2 l' q1 q2 q3 q4 => ?_⟩
  · by_cases z : a = l
    · subst z
      exact .inr e4
    · rw [upd_ne z] at q
      exact C.new a q
  · by_cases z : i = j
    · subst z
      rw [List.getElem?_set_self hi'] at e
      cases e
      exact ⟨.ref l, e1, .dct (.inl upd_same) (da.daKV.mono (le_upd e2))⟩
    · rw [List.getElem?_set_ne z] at e
      have q := C.sl j s e
      cases s with
      | no => trivial
      | d x =>
        obtain ⟨v, g1, g2⟩ := q
        exact ⟨v, g1, g2.mono (le_upd e2)⟩
      | own b c =>
        obtain ⟨p, g1, g2, g3, g4, g5⟩ := q
        have zz : p ≠ l := fun y => by
          subst y
          exact z (C.sep i j _ _ _ _ p hi e e1 g1)
        exact ⟨p, g1, by rw [upd_ne zz]; exact g2, g3.mono (le_upd e2) rfl, g4, g5⟩
  · have z1 : i ≠ j := fun z => by
      subst z
      rw [List.getElem?_set_self hi'] at q1
      cases q1
    have z2 : i ≠ k := fun z => by
      subst z
      rw [List.getElem?_set_self hi'] at q2
      cases q2
    rw [List.getElem?_set_ne z1] at q1
    rw [List.getElem?_set_ne z2] at q2
    exact C.sep j k b1 b2 c1 c2 l' q1 q2 q3 q4
theorem es_fzD {i : Nat} {kvs : List (Key × D)} (hi : ρ[i]? = some (Sl.own none (.dct kvs))) (h : ES X sts (ρ.set i (.d (dictD kvs))) N) : ES X sts ρ N := .mk fun β σ F H C => by
  obtain ⟨F2, l2, C2⟩ := C.freezeD hi
  exact h β σ F2 H C2
/-! ### typed dicts, keys natural numbers -/
def kvM {α : Type} (f : α → D) (l : List (Nat × α)) : List (Key × D) := l.map fun p => (.inl (p.1 : Int), f p.2)
theorem kD_n (n : Nat) : kD (.inl (n : Int)) = nD n := rfl
theorem getK_kvM {α : Type} (f : α → D) (l : List (Nat × α)) (n : Nat) : getK (kvM f l) (.inl (n : Int)) = (l.lookup n).map f := by
  unfold getK kvM
  induction l with
  | nil => rfl
  | cons p l ih =>
    obtain ⟨k, a⟩ := p
    rw [List.map_cons, List.find?_cons, List.lookup_cons]
    by_cases h : k = n
    · subst h
      simp
    · have h1 : (n == k) = false := beq_eq_false_iff_ne.mpr fun z => h z.symm
      have h2 : ¬ ((Sum.inl (k : Int) : Key) = .inl (n : Int)) := fun z => h (by have := Sum.inl.inj z; omega)
      simp only [h1, decide_eq_false h2]
      exact ih
theorem setK_kvM {α : Type} (f : α → D) (l : List (Nat × α)) (n : Nat) (v : α) (h : l.lookup n = none) : setK (kvM f l) (.inl (n : Int)) (f v) = kvM f (l ++ [(n, v)]) := by
  have := getK_kvM f l n
  rw [h] at this
  unfold setK
  have h0 : ((kvM f l).any fun kv => decide (kv.1 = .inl (n : Int))) = false := by
    unfold getK at this
    rw [Option.map_none, Option.map_eq_none_iff, List.find?_eq_none] at this
    rw [List.any_eq_false]
    exact this
  rw [h0]
  simp [kvM]
theorem kvM_length {α : Type} (f : α → D) (l : List (Nat × α)) : (kvM f l).length = l.length := by simp [kvM]
theorem ei_keysM {α : Type} {f : α → D} {l : List (Nat × α)} (h : EV X e ρ (.d (dictD (kvM f l))) ρ1) : EI X tg e ρ ((l.map (·.1)).map fun n => .one (nD n)) ρ1 := by
  have := ei_keys (tg := tg) h
  unfold kvM at this
  rw [List.map_map, List.map_map] at this
  rw [List.map_map]
  exact this
theorem ev_dgetM {α : Type} [Inhabited α] {g : α → D} {l : List (Nat × α)} {n : Nat} {kvs : List (Key × D)} (hu : X.A.units + 1 < cLine) (ho : EV X o ρ ra ρ1) (hi : EV X ix ρ1 (.d (nD n)) ρ2) (s : DictR ρ2 ra kvs) (hk : kvs = kvM g l) (hd : (l.lookup n).isSome = true) (hst : ra.st = true := by rfl) (hs : NoSl ix := by exact fun _ _ => rfl) : EV X (.Subscript o ix pos) ρ (.d (g ((l.lookup n).getD default))) ρ2 :=
  ev_dget (k := .inl (n : Int)) hu ho hi s (by
    rw [hk, getK_kvM]
    cases q : l.lookup n with
    | none => rw [q] at hd; cases hd
    | some v => rfl) hst hs
/-! ### comprehensions that carry a state -/
def mapS {α β S : Type} (f : α → S → β × S) : List α → S → List β × S
  | [], s => ([], s)
  | x :: xs, s => ((f x s).1 :: (mapS f xs (f x s).2).1, (mapS f xs (f x s).2).2)
theorem mapS_append {α β S : Type} (f : α → S → β × S) : ∀ (xs ys : List α) (s : S), mapS f (xs ++ ys) s = ((mapS f xs s).1 ++ (mapS f ys (mapS f xs s).2).1, (mapS f ys (mapS f xs s).2).2)
  | [], ys, s => rfl
  | x :: xs, ys, s => by
    rw [List.cons_append, mapS, mapS_append f xs ys]
    rfl
theorem mapS_succ {α β S : Type} (f : α → S → β × S) {xs : List α} {i : Nat} {x : α} (h : xs[i]? = some x) (s : S) : mapS f (xs.take (i + 1)) s = ((mapS f (xs.take i) s).1 ++ [(f x (mapS f (xs.take i) s).2).1], (f x (mapS f (xs.take i) s).2).2) := by
  rw [List.take_add_one, h, Option.toList_some, mapS_append]
  rfl
theorem mapS_length {α β S : Type} (f : α → S → β × S) : ∀ (xs : List α) (s : S), (mapS f xs s).1.length = xs.length
  | [], _ => rfl
  | x :: xs, s => congrArg (· + 1) (mapS_length f xs (f x s).2)
theorem lc_mapS {α β S : Type} (g : α → S → β × S) (eb : β → D) (ρS : S → List Sl) (s0 : S) {xs : List α} {enc : α → Im} (hi : EI X tg iter ρ (xs.map enc) (ρS s0))
    (hs : ∀ i x s, xs[i]? = some x → s = (mapS g (xs.take i) s0).2 → ∃ ρ2 js ρ4, BG X scope tg (enc x) (wipeR (ρS s) (own.map (·.2))) ρ2 js ∧ (∀ j ∈ js, j ∈ own.map (·.2)) ∧ BV X scope elt ρ2 (.d (eb (g x s).1)) ρ4 ∧ wipeR ρ4 (own.map (·.2)) = wipeR (ρS (g x s).2) (own.map (·.2)))
    (hr : ∀ s, restore (ρS s0) (wipeR (ρS s) (own.map (·.2))) (own.map (·.2)) = ρS s) (hl : xs.length < sizeLine) : LC X scope own tg iter elt [] ρ ((mapS g xs s0).1.map eb) (ρS (mapS g xs s0).2) := by
  refine lc_run hi (fun i ρb acc => ρb = wipeR (ρS (mapS g (xs.take i) s0).2) (own.map (·.2)) ∧ acc = (mapS g (xs.take i) s0).1.map eb) ⟨rfl, by simp [mapS]⟩ (fun i d ρb acc e ⟨e1, e2⟩ => ?_) (fun ρb acc ⟨e1, e2⟩ => ?_) (by rw [List.length_map]; exact hl)
  · subst e1 e2
    rw [List.getElem?_map] at e
    obtain ⟨x, hx, rfl⟩ := Option.map_eq_some_iff.mp e
    obtain ⟨ρ2, js, ρ4, h1, h2, h3, h4⟩ := hs i x _ hx rfl
    refine ⟨ρ2, js, h1, h2, true, ρ2, fun s H C cl fp => ets_nil, fun _ => ⟨_, ρ4, h3, ?_, ?_⟩, fun z => nomatch z⟩
    · rw [mapS_succ g hx]
      exact h4
    · rw [mapS_succ g hx, List.map_append]
      rfl
  · subst e1 e2
    rw [List.length_map, List.take_length]
    exact ⟨(hr _).symm, rfl⟩
/-! ### two clauses -/
def biU (X : Cx) (scope : Scope) (tg iter : Expr) : TI := fun σ H R => ∀ s H0 C cl fp, tiU (blkX X scope s H0 C cl fp) tg iter σ H R
theorem lc_pi {X : Cx} {scope : Scope} {tg iter : Expr} (s : Shared) (H : Hp) (C : Addr) (cl : List (Str × Addr)) (fp : List Addr) : PI (blkX X scope s H C cl fp) tg iter (biU X scope tg iter) := ⟨fun pins s' σ H' R I h => piU.run pins s' σ H' R I (h s H C cl fp)⟩
def BI (X : Cx) (scope : Scope) (tg iter : Expr) (ρ : List Sl) (ds : List Im) (ρ' : List Sl) : Prop := ∀ s H C cl fp, EI (blkX X scope s H C cl fp) tg iter ρ ds ρ'
def LC2 (X : Cx) (scope : Scope) (own : List (Str × Nat)) (vs1 : List Nat) (tg iter tg1 iter1 elt : Expr) (ρ : List Sl) (out : List D) (ρ' : List Sl) : Prop :=
  ∀ (β : Bs) (σ : L2.St) (F H : Hp), Conc X.K β ρ σ F H → ∀ Q : VK, (∀ v F' H', Conc X.K β ρ' σ F' H' → Le F F' → RsOk X.K β ρ' σ F' H' v (.new (.lst out)) → Q v H') →
      tLc2 (tiU X tg iter) (bgU X scope tg) (btU X scope []) (biU X scope tg1 iter1) (bgU X scope tg1) (btU X scope []) (bvU X scope elt) (own.map (·.2)) vs1 σ H Q
theorem wipe_sub {σ : L2.St} {vs ws : List Nat} (h : ∀ j ∈ vs, j ∈ ws) : L2.wipe (L2.wipe σ vs) ws = L2.wipe σ ws := by
  refine List.ext_getElem? fun j => ?_
  rw [wipe_get, wipe_get, wipe_get, wipe_length]
  by_cases z : j ∈ ws
  · simp [z]
  · have zz : ¬ j ∈ vs := fun q => z (h j q)
    simp [z, zz]
theorem wipe_twice (σ : L2.St) (vs : List Nat) : L2.wipe (L2.wipe σ vs) vs = L2.wipe σ vs := wipe_sub fun _ h => h
theorem lc2_map {α γ : Type} {vs1 : List Nat} {xs : List α} {enc : α → Im} (ys : α → List γ) (enc1 : γ → Im) (g : α → γ → D) (hi : EI X tg iter ρ (xs.map enc) ρ1) (hv : ∀ i ∈ vs1, i ∈ own.map (·.2))
    (hs : ∀ x ∈ xs, ∃ ρ2 js, BG X scope tg (enc x) (wipeR ρ1 (own.map (·.2))) ρ2 js ∧ (∀ j ∈ js, j ∈ own.map (·.2)) ∧ BI X scope tg1 iter1 ρ2 ((ys x).map enc1) ρ2 ∧ wipeR ρ2 (own.map (·.2)) = wipeR ρ1 (own.map (·.2)) ∧ wipeR (wipeR ρ2 vs1) (own.map (·.2)) = wipeR ρ1 (own.map (·.2)) ∧
      ∀ y ∈ ys x, ∃ ρ3 js1, BG X scope tg1 (enc1 y) (wipeR ρ2 vs1) ρ3 js1 ∧ (∀ j ∈ js1, j ∈ vs1) ∧ BV X scope elt ρ3 (.d (g x y)) ρ3 ∧ wipeR ρ3 vs1 = wipeR ρ2 vs1)
    (hr : restore ρ1 (wipeR ρ1 (own.map (·.2))) (own.map (·.2)) = ρ1) (hl : (xs.flatMap ys).length < sizeLine) : LC2 X scope own vs1 tg iter tg1 iter1 elt ρ (xs.flatMap fun x => (ys x).map (g x)) ρ1 := by
  intro β σ F H C Q k
  refine hi β σ F H C _ fun J F1 H1 C1 l1 w => fun Dd hD => ?_
  have fD : F1 Dd = none := C1.le.none hD
  have bD := C1.room hD
  have w' : Walk J xs.length (fun H => Le F1 H) (Yd X.K F1 (xs.map enc)) := by rw [← List.length_map (f := enc)]; exact w
  let vs := own.map (·.2)
  let Pv : Nat → Hp → Prop := fun i H' => ∃ F' us, Conc X.K β (wipeR ρ1 vs) (L2.wipe σ vs) F' H' ∧ Le F1 F' ∧ F' Dd = none ∧ ¬ Owned (wipeR ρ1 vs) (L2.wipe σ vs) Dd ∧ H' Dd = some (.lst us) ∧ DaAll X.K F' us ((xs.take i).flatMap fun x => (ys x).map (g x))
  have h0 : Pv 0 (upd H1 Dd (.lst [])) := by
    have CA := C1.allocU (o := .lst []) hD
    exact ⟨F1, [], CA.wipe vs, .refl F1, fD, fun o => absurd hD (C1.ownF (owned_wipe o)).2.2, upd_same, .nil⟩
  refine ⟨fun i m H => m = xs.length - i ∧ i ≤ xs.length ∧ Pv i H, ⟨xs.length, by simp, Nat.zero_le _, h0⟩, ?_⟩
  rintro i m H' ⟨rfl, hi', F', us, C', l', f', no', hd', da'⟩
  have q : Le F1 H' := l'.trans C'.le
  by_cases hlt : i < xs.length
  · refine .inr ⟨w'.goes i H' hlt q, Pv (i + 1), fun H' p' => ⟨xs.length - (i + 1), by omega, rfl, hlt, p'⟩, fun v H'' y => ?_⟩
    have y := w'.yields i H' v H'' hlt q y
    obtain ⟨d, e1, C2, dd⟩ := y.conc C'.here l'
    rw [List.getElem?_map] at e1
    obtain ⟨x, hx, rfl⟩ := Option.map_eq_some_iff.mp e1
    obtain ⟨ρ2, js, gg, hjs, bi, wq2, wq3, hin⟩ := hs x (List.mem_of_getElem? hx)
    have stay : ∀ {ρ5 : List Sl} {σ5 : L2.St} {F5 H5 : Hp}, Conc X.K (β.here (wipeR ρ1 vs) (L2.wipe σ vs) F' H') ρ5 σ5 F5 H5 → H5 Dd = some (.lst us) ∧ F5 Dd = none ∧ ¬ Owned ρ5 σ5 Dd := fun C5 => by
      obtain ⟨q1, q2⟩ := C5.stays hd' f' no'
      refine ⟨q1, q2, fun o => ?_⟩
      rcases (C5.ownF o).2.1 with z | z
      · have z : H' Dd = none := z
        rw [hd'] at z
        cases z
      · exact no' z
    intro s H0 Ca cl fp
    refine gg s H0 Ca cl fp _ (L2.wipe σ vs) F' H'' v C2 dd _ fun σ3 F3 H3 C3 l3 w3 => ?_
    have wq : L2.wipe σ3 vs = L2.wipe σ vs := (w3 vs hjs).trans (wipe_twice σ vs)
    refine ⟨wq, fun s H0 Ca cl fp => ?_⟩
    refine ets_nil (X := blkX X scope s H0 Ca cl fp) _ σ3 F3 H3 C3 _ fun F4 H4 C4 l4 => ?_
    refine iteT fun s H0 Ca cl fp => ?_
    refine bi s H0 Ca cl fp _ σ3 F4 H4 C4 _ fun J1 F5 H5 C5 l5 w5 => ?_
    have w6 : Walk J1 (ys x).length (fun H => Le F5 H) (Yd X.K F5 ((ys x).map enc1)) := by rw [← List.length_map (f := enc1)]; exact w5
    obtain ⟨r1, r2, r3⟩ := stay C5
    have B5 := C'.back C5
    have lF : Le F1 F5 := l'.trans ((l3.trans l4).trans l5)
    let P1 : Nat → Hp → Prop := fun j H => ∃ F6 us6, Conc X.K β (wipeR ρ2 vs1) (L2.wipe σ3 vs1) F6 H ∧ Le F5 F6 ∧ F6 Dd = none ∧ ¬ Owned (wipeR ρ2 vs1) (L2.wipe σ3 vs1) Dd ∧ H Dd = some (.lst us6) ∧ DaAll X.K F6 us6 (((xs.take i).flatMap fun x => (ys x).map (g x)) ++ ((ys x).take j).map (g x))
    have p0 : P1 0 H5 := ⟨F5, us, B5.wipe vs1, .refl F5, r2, fun o => r3 (owned_wipe o), r1, by simpa using da'.mono ((l3.trans l4).trans l5)⟩
    refine ⟨fun j m H => m = (ys x).length - j ∧ j ≤ (ys x).length ∧ P1 j H, ⟨(ys x).length, by simp, Nat.zero_le _, p0⟩, ?_⟩
    rintro j m H6 ⟨rfl, hj, F6, us6, C6, l6, f6, no6, hd6, da6⟩
    have q6 : Le F5 H6 := l6.trans C6.le
    by_cases hjt : j < (ys x).length
    · refine .inr ⟨w6.goes j H6 hjt q6, P1 (j + 1), fun H' p' => ⟨(ys x).length - (j + 1), by omega, rfl, hjt, p'⟩, fun v H'' yy => ?_⟩
      have yy := w6.yields j H6 v H'' hjt q6 yy
      obtain ⟨d, e1, C7, dd⟩ := yy.conc C6.here l6
      rw [List.getElem?_map] at e1
      obtain ⟨y, hy, rfl⟩ := Option.map_eq_some_iff.mp e1
      obtain ⟨ρ3, js1, gg1, hjs1, bv, wq7⟩ := hin y (List.mem_of_getElem? hy)
      have stay6 : ∀ {ρ5 : List Sl} {σ5 : L2.St} {F5 H5 : Hp}, Conc X.K (β.here (wipeR ρ2 vs1) (L2.wipe σ3 vs1) F6 H6) ρ5 σ5 F5 H5 → H5 Dd = some (.lst us6) ∧ F5 Dd = none ∧ ¬ Owned ρ5 σ5 Dd := fun C5 => by
        obtain ⟨q1, q2⟩ := C5.stays hd6 f6 no6
        refine ⟨q1, q2, fun o => ?_⟩
        rcases (C5.ownF o).2.1 with z | z
        · have z : H6 Dd = none := z
          rw [hd6] at z
          cases z
        · exact no6 z
      intro s H0 Ca cl fp
      refine gg1 s H0 Ca cl fp _ (L2.wipe σ3 vs1) F6 H'' v C7 dd _ fun σ8 F8 H8 C8 l8 w8 => ?_
      have wq8 : L2.wipe σ8 vs1 = L2.wipe σ3 vs1 := (w8 vs1 hjs1).trans (wipe_twice σ3 vs1)
      refine ⟨wq8, fun s H0 Ca cl fp => ?_⟩
      refine ets_nil (X := blkX X scope s H0 Ca cl fp) _ σ8 F8 H8 C8 _ fun F9 H9 C9 l9 => ?_
      refine iteT fun s H0 Ca cl fp => ?_
      refine bv s H0 Ca cl fp _ σ8 F9 H9 C9 _ fun u F10 H10 C10 l10 r10 => ?_
      obtain ⟨q1, q2, q3⟩ := stay6 C10
      have CB := (C6.back C10).mutU (o := .lst (us6 ++ [u])) q2 bD q3
      have da10 := da6.mono ((l8.trans l9).trans l10)
      have hlen : us6.length < sizeLine := by
        rw [da10.length, List.length_append, List.length_map, List.length_take, Nat.min_eq_left hj]
        have e2 : ((xs.take (i + 1)).flatMap ys).length ≤ (xs.flatMap ys).length := by
          conv => rhs; rw [← List.take_append_drop (i + 1) xs, List.flatMap_append, List.length_append]
          omega
        rw [List.take_add_one, hx, Option.toList_some, List.flatMap_append, List.length_append] at e2
        simp only [List.flatMap_cons, List.flatMap_nil, List.append_nil] at e2
        have e3 : ((xs.take i).flatMap fun x => (ys x).map (g x)).length = ((xs.take i).flatMap ys).length := by simp [List.length_flatMap]
        omega
      refine ⟨us6, q1, hlen, F10, us6 ++ [u], ?_, l6.trans ((l8.trans l9).trans l10), q2, ?_, upd_same, ?_⟩
      · rw [← wq8, ← wq7]
        exact CB.wipe vs1
      · rw [← wq8, ← wq7]
        exact fun o => q3 (owned_wipe o)
      · have := da10.append (DaAll.one r10)
        rw [List.append_assoc] at this
        rw [List.take_add_one, hy, Option.toList_some, List.map_append]
        exact this
    · have ej : j = (ys x).length := by omega
      subst ej
      refine .inl ⟨w6.stops H6 q6, F6, us6, ?_, lF.trans l6, f6, ?_, hd6, ?_⟩
      · have := C6.wipe vs
        rw [wipe_sub hv, wq, wq3] at this
        exact this
      · intro oo
        refine no6 ?_
        rw [← wq3, ← wq, ← wipe_sub (σ := σ3) hv] at oo
        exact owned_wipe oo
      · rw [List.take_length] at da6
        rw [List.take_add_one, hx, Option.toList_some, List.flatMap_append]
        simpa using da6
  · have e : i = xs.length := by omega
    subst e
    refine .inl ⟨w'.stops H' q, ?_⟩
    rw [List.take_length] at da'
    have CC := C1.out C' l'
    rw [hr] at CC
    exact k _ F' H' CC (l1.trans l') ⟨Dd, rfl, f', ⟨us, hd', da'⟩, bD, fun o => no' (by rw [← hr] at o; exact owned_out o)⟩
theorem ec_setC2 {x : Str} {i : Nat} {Ns : List Str} {pos' : Pos} {vs1 : List Nat} {out : List D} {ρ' : List Sl} {spos : Pos} (hn : NmAt Ns i x) (hX : X.N = Ns) (hN : X.N.Nodup) (hc : X.calm = true) (hyl : X.env.scope.names.lookup x = some .local) (hsw : swapsWith (.ListComp elt [⟨tg, iter, [], 0⟩, ⟨tg1, iter1, [], 0⟩] scope pos) (some (.Name x pos')) spos.line X.env = pure true)
    (ok : BlkOk X.N X.env.scope scope own) (hv : ∀ i ∈ vs1, i ∈ own.map (·.2)) (h : LC2 X scope own vs1 tg iter tg1 iter1 elt ρ out ρ') (hs : ∀ x, foldedSetIterable iter X.env x = pure x) (hs1 : ∀ env x, foldedSetIterable iter1 env x = pure x) (hk : ES X sts (ρ'.set i (.d (.list out))) N) (hi : i < ρ'.length) : ES X (.Assign [.Name x pos'] (.ListComp elt [⟨tg, iter, [], 0⟩, ⟨tg1, iter1, [], 0⟩] scope pos) spos :: sts) ρ N := by
  subst hX
  exact es_cons (N := N) (.mk fun β σ F H C => .of (ps_setLc2 hc hN hn.at_ hyl hsw piU ok hv lc_pg lc_pt lc_pi lc_pg lc_pt lc_pe hs hs1) (h β σ F H C _ fun v F1 H1 C1 l1 r1 => ⟨_, F1, OCok.fresh_set C1 r1 i, es_fz (i := i) (by rw [List.getElem?_set_self hi]) (by rw [List.set_set]; exact hk)⟩))
/-! ### is a row empty? -/
theorem cx_neNil {α : Type} [DecidableEq α] {f : α → D} {P : α → Prop} {n : Nat} {xs : List α} (E : Enc f P) (hP : ∀ x ∈ xs, P x) (dp : ∀ x, (f x).depth ≤ n) (hu : X.A.units + 64 < cLine) (hn : n + 1 ≤ 64 := by decide) : CmpX X .NotEq (.d (.list (xs.map f))) (.d (.list [])) ρ (.d (.bool (!xs.isEmpty))) :=
  (cx_neD hu (shd (E.lst.lay xs hP) (dp_lst dp xs) hn) shaped_nil).cast (by
    have := E.lst.eq xs []
    simp only [List.map_nil] at this
    rw [this]
    cases xs <;> rfl)
theorem cx_neNilO {α : Type} [DecidableEq α] {f : α → D} {P : α → Prop} {n i : Nat} {bo : Option Nat} {xs : List α} (E : Enc f P) (hP : ∀ x ∈ xs, P x) (dp : ∀ x, (f x).depth ≤ n) (hu : X.A.units + 64 < cLine) (hi : ρ[i]? = some (Sl.own bo (.lst (xs.map f)))) (hn : n + 1 ≤ 64 := by decide) : CmpX X .NotEq (.own i) (.d (.list [])) ρ (.d (.bool (!xs.isEmpty))) :=
  (cx_neO hu hi (shd (E.lst.lay xs hP) (dp_lst dp xs) hn) shaped_nil).cast (by
    have := E.lst.eq xs []
    simp only [List.map_nil] at this
    rw [this]
    cases xs <;> rfl)
end
end OX
set_option Elab.async false
set_option linter.all false
set_option maxRecDepth 100000
set_option maxHeartbeats 1000000
/-! OX14: two names stored at once. -/
namespace OX
open PySem L2
def slR : Rs → Sl
  | .d x => .d x
  | .new c => .own none c
  | .own _ => .no
def Rs.fresh : Rs → Bool
  | .own _ => false
  | _ => true
section
variable {K : PySem.W.Frag} {β : Bs} {ρ ρ1 ρ2 : List Sl} {σ : L2.St} {F1 F2 H1 H2 : Hp} {v w : V} {ra rb : Rs} {i j : Nat}
theorem Conc.old (C1 : Conc K β ρ1 σ F1 H1) {l : Addr} (h : H1 l = none ∨ Owned ρ1 σ l) : β.H0 l = none ∨ β.bw l := by
  rcases h with h | h
  · exact C1.room h
  · exact (C1.ownF h).2.1
theorem owned_set {ρ : List Sl} {σ : L2.St} {i : Nat} {s : Sl} {v : V} {l : Addr} (o : Owned (ρ.set i s) (σ.set i (some v)) l) : Owned ρ σ l ∨ ((∃ b c, s = .own b c) ∧ v = .ref l) := by
  obtain ⟨k, b, c, h1, h2⟩ := o
  by_cases z : i = k
  · subst z
    have hi := (List.getElem?_eq_some_iff.mp h1).1
    rw [List.length_set] at hi
    have hi2 := (List.getElem?_eq_some_iff.mp h2).1
    rw [List.length_set] at hi2
    rw [List.getElem?_set_self hi] at h1
    rw [List.getElem?_set_self hi2] at h2
    cases h1
    cases h2
    exact .inr ⟨⟨b, c, rfl⟩, rfl⟩
  · rw [List.getElem?_set_ne z] at h1 h2
    exact .inl ⟨k, b, c, h1, h2⟩
theorem pair_conc (C1 : Conc K β ρ1 σ F1 H1) (r1 : RsOk K β ρ1 σ F1 H1 v ra) (C2' : Conc K (β.here ρ1 σ F1 H1) ρ2 σ F2 H2) (r2 : RsOk K (β.here ρ1 σ F1 H1) ρ2 σ F2 H2 w rb) (l : Le F1 F2) (ha : ra.fresh = true) (hb : rb.fresh = true) :
    Conc K β ((ρ2.set i (slR ra)).set j (slR rb)) ((σ.set i (some v)).set j (some w)) F2 H2 := by
  have C2 := C1.back C2'
  cases ra with
  | own n => cases ha
  | d x =>
    have r1 : Da K F1 v x := r1
    have C3 := C2.setD i (r1.mono l)
    cases rb with
    | own n => cases hb
    | d y => exact C3.setD j r2
    | new c =>
      obtain ⟨l2, rfl, f2, ok2, b2, n2⟩ := r2
      refine C3.setO j f2 ok2 (C1.old b2) trivial fun o => ?_
      rcases owned_set o with z | ⟨⟨b, c, z⟩, _⟩
      · exact n2 z
      · cases z
  | new c1 =>
    obtain ⟨l1, rfl, f1, ok1, b1, n1⟩ := r1
    have hne := ok1.ne
    cases q : H1 l1 with
    | none => exact absurd q hne
    | some u =>
      obtain ⟨s1, s2⟩ := C2'.stays q f1 n1
      have no2 : ¬ Owned ρ2 σ l1 := fun o => by
        rcases (C2'.ownF o).2.1 with z | z
        · exact hne z
        · exact n1 z
      have C3 := C2.setO (b := none) i s2 (ok1.mono l (s1.trans q.symm)) b1 trivial no2
      cases rb with
      | own n => cases hb
      | d y => exact C3.setD j r2
      | new c =>
        obtain ⟨l2, rfl, f2, ok2, b2, n2⟩ := r2
        refine C3.setO j f2 ok2 (C1.old b2) trivial fun o => ?_
        rcases owned_set o with z | ⟨_, z⟩
        · exact n2 z
        · cases z
          rcases b2 with z | z
          · exact hne z
          · exact n1 z
end
section
variable {X : Cx} {ρ ρ1 ρ2 : List Sl} {ra rb : Rs} {a b : Expr} {pos px py pt pt2 : Pos} {x y : Str} {kt k2 : Nat} {N : SN} {i j : Nat} {Ns : List Str} {sts : List Stmt}
theorem es_par (hc : X.calm = true) (hN : X.N.Nodup) (hi : X.N[i]? = some x) (hj : X.N[j]? = some y) (hij : i ≠ j) (hx : X.env.scope.names.lookup x = some .local) (hy : X.env.scope.names.lookup y = some .local) (ha : EV X a ρ ra ρ1) (hb : EV X b ρ1 rb ρ2) (fa : ra.fresh = true) (fb : rb.fresh = true)
    (hw : swappedStores [.Tuple [.Name x px, .Name y py] kt pt] (.Tuple [a, b] k2 pt2) X.env = pure (some [x, y])) (h : N.nx ((ρ2.set i (slR ra)).set j (slR rb)))
    (hs : swapsWithSole [.Tuple [.Name x px, .Name y py] kt pt] (.Tuple [a, b] k2 pt2) pos.line X.env = pure false)
    (hs1 : starEach [a, b] X.env = (false, eval a X.env) :: starEach [b] X.env) (hs2 : starEach [b] X.env = (false, eval b X.env) :: starEach [] X.env) : ES1 X (.Assign [.Tuple [.Name x px, .Name y py] kt pt] (.Tuple [a, b] k2 pt2) pos) ρ N := .mk fun β σ F H C =>
  .of (ps_par hc hN hi hj hij hx hy (pa_cons peU (pa_cons peU pa_nil hs2) hs1) hw hs) (ha β σ F H C _ fun v F1 H1 C1 l1 r1 => hb (β.here ρ1 σ F1 H1) σ F1 H1 C1.here _ fun w F2 H2 C2 l2 r2 => ⟨v, w, rfl, _, F2, pair_conc C1 r1 C2 r2 l2 fa fb, h⟩)
theorem es_pair (hc : X.calm = true) (hN : X.N.Nodup) (hi : X.N[i]? = some x) (hj : X.N[j]? = some y) (hx : Loc X.env.scope x) (hy : Loc X.env.scope y) (fx : X.fn x = true ∨ X.env.scope.names.lookup x = some .local) (fy : X.fn y = true ∨ X.env.scope.names.lookup y = some .local) (ha : EV X a ρ ra ρ1) (hb : EV X b ρ1 rb ρ2) (fa : ra.fresh = true) (fb : rb.fresh = true)
    (hw : swappedStores [.Tuple [.Name x px, .Name y py] kt pt] (.Tuple [a, b] k2 pt2) X.env = pure none) (h : N.nx ((ρ2.set i (slR ra)).set j (slR rb)))
    (hs : swapsWithSole [.Tuple [.Name x px, .Name y py] kt pt] (.Tuple [a, b] k2 pt2) pos.line X.env = pure false)
    (hs1 : starEach [a, b] X.env = (false, eval a X.env) :: starEach [b] X.env) (hs2 : starEach [b] X.env = (false, eval b X.env) :: starEach [] X.env)
    (h1 : (assignEach [.Tuple [.Name x px, .Name y py] kt pt] X.env).map (·.2) = [assign (.Tuple [.Name x px, .Name y py] kt pt) X.env]) (hn : (assignEach [.Name x px, .Name y py] X.env).length = 2) (hst : (assignEach [.Name x px, .Name y py] X.env).findIdx? (·.1) = none)
    (hp1 : (assignEach [.Name x px, .Name y py] X.env).map (·.2) = assign (.Name x px) X.env :: (assignEach [.Name y py] X.env).map (·.2)) (hp2 : (assignEach [.Name y py] X.env).map (·.2) = assign (.Name y py) X.env :: (assignEach [] X.env).map (·.2)) :
    ES1 X (.Assign [.Tuple [.Name x px, .Name y py] kt pt] (.Tuple [a, b] k2 pt2) pos) ρ N := .mk fun β σ F H C =>
  .of (ps_asg (pe_tupP (pa_cons peU (pa_cons peU pa_nil hs2) hs1)) (pg_tup hc (pgs_cons (pg_name hN hi hx fx) (pgs_cons (pg_name hN hj hy fy) pgs_nil hp2) hp1) hn hst) hs hw h1) (ha β σ F H C _ fun v F1 H1 C1 l1 r1 => hb (β.here ρ1 σ F1 H1) σ F1 H1 C1.here _ fun w F2 H2 C2 l2 r2 => ⟨by show 2 ≤ sizeLine; unfold sizeLine; omega, fun p ob hp ho => by
      have CC := pair_conc (i := i) (j := j) C1 r1 C2 r2 l2 fa fb
      have CD := CC.allocU (o := .frz ob (.tup [v, w])) hp
      refine ⟨p, [v, w], rfl, .inl (.inr ⟨ob, upd_same⟩), rfl, v, [w], rfl, w, [], rfl, rfl, _, F2, CD, h⟩⟩)
theorem ec_pair (nx : NmAt Ns i x) (ny : NmAt Ns j y) (hX : X.N = Ns) (hij : i ≠ j) (hc : X.calm = true) (hN : X.N.Nodup) (hl : Loc X.env.scope x ∧ Loc X.env.scope y) (ff : (X.fn x = true ∨ X.env.scope.names.lookup x = some .local) ∧ (X.fn y = true ∨ X.env.scope.names.lookup y = some .local)) (ha : EV X a ρ ra ρ1) (hb : EV X b ρ1 rb ρ2) (fa : ra.fresh = true) (fb : rb.fresh = true)
    (hw : swappedStores [.Tuple [.Name x px, .Name y py] kt pt] (.Tuple [a, b] k2 pt2) X.env = pure none ∨ (swappedStores [.Tuple [.Name x px, .Name y py] kt pt] (.Tuple [a, b] k2 pt2) X.env = pure (some [x, y]) ∧ X.env.scope.names.lookup x = some .local ∧ X.env.scope.names.lookup y = some .local)) (h : ES X sts ((ρ2.set i (slR ra)).set j (slR rb)) N)
    (hs : swapsWithSole [.Tuple [.Name x px, .Name y py] kt pt] (.Tuple [a, b] k2 pt2) pos.line X.env = pure false := by rfl)
    (hs1 : starEach [a, b] X.env = (false, eval a X.env) :: starEach [b] X.env := by rfl) (hs2 : starEach [b] X.env = (false, eval b X.env) :: starEach [] X.env := by rfl)
    (h1 : (assignEach [.Tuple [.Name x px, .Name y py] kt pt] X.env).map (·.2) = [assign (.Tuple [.Name x px, .Name y py] kt pt) X.env] := by rfl) (hn : (assignEach [.Name x px, .Name y py] X.env).length = 2 := by rfl) (hst : (assignEach [.Name x px, .Name y py] X.env).findIdx? (·.1) = none := by rfl)
    (hp1 : (assignEach [.Name x px, .Name y py] X.env).map (·.2) = assign (.Name x px) X.env :: (assignEach [.Name y py] X.env).map (·.2) := by rfl) (hp2 : (assignEach [.Name y py] X.env).map (·.2) = assign (.Name y py) X.env :: (assignEach [] X.env).map (·.2) := by rfl) :
    ES X (.Assign [.Tuple [.Name x px, .Name y py] kt pt] (.Tuple [a, b] k2 pt2) pos :: sts) ρ N := by
  subst hX
  rcases hw with hw | ⟨hw, h3, h4⟩
  · exact es_cons (es_pair hc hN nx.at_ ny.at_ hl.1 hl.2 ff.1 ff.2 ha hb fa fb hw h hs hs1 hs2 h1 hn hst hp1 hp2)
  · exact es_cons (es_par hc hN nx.at_ ny.at_ hij h3 h4 ha hb fa fb hw h hs hs1 hs2)
end
end OX
set_option Elab.async false
set_option linter.all false
set_option maxRecDepth 100000
set_option maxHeartbeats 1000000
/-! OX15: typed dicts: stores, tests, setdefault; keys that are texts. -/
namespace OX
open PySem L2
section
variable {X : Cx} {ρ ρ1 ρ2 ρ3 : List Sl} {ra rb : Rs} {v o ix f : Expr} {pos pos' spos apos cpos : Pos} {N : SN} {sts : List Stmt} {i : Nat} {bo : Option Nat}
theorem ec_dputM {α : Type} {g : α → D} {l : List (Nat × α)} {n : Nat} {a : α} (hu : X.A.units + 1 < cLine) (hv : EV X v ρ (.d (g a)) ρ1) (ho : EV X o ρ1 (.own i) ρ2) (hix : EV X ix ρ2 (.d (nD n)) ρ3) (hi : ρ3[i]? = some (Sl.own bo (.dct (kvM g l)))) (hl : l.length < sizeLine) (hn : l.lookup n = none)
    (h : ES X sts (ρ3.set i (.own bo (.dct (kvM g (l ++ [(n, a)]))))) N) (hs : swapsWith v (some (.Subscript o ix pos')) spos.line X.env = pure false) : ES X (.Assign [.Subscript o ix pos'] v spos :: sts) ρ N :=
  es_cons (es_dput (k := .inl (n : Int)) hu hv ho hix hi (by rw [kvM_length]; exact hl) (by rw [setK_kvM g l n a hn]; exact h) hs)
theorem et_dninM {α : Type} {g : α → D} {l : List (Nat × α)} {n : Nat} (hu : X.A.units + 1 < cLine) (hi : EV X ix ρ (.d (nD n)) ρ1) (ho : EV X o ρ1 ra ρ2) (s : DictR ρ2 ra (kvM g l)) (hm : behindInMarks .NotIn o = false := by rfl) : ET X (.Compare ix [.NotIn] [o] pos) ρ (!(l.lookup n).isSome) ρ2 := by
  have := et_dnin (pos := pos) (k := .inl (n : Int)) hu hi ho s hm
  rwa [getK_kvM, Option.isSome_map] at this
theorem et_dinM {α : Type} {g : α → D} {l : List (Nat × α)} {n : Nat} (hu : X.A.units + 1 < cLine) (hi : EV X ix ρ (.d (nD n)) ρ1) (ho : EV X o ρ1 ra ρ2) (s : DictR ρ2 ra (kvM g l)) (hm : behindInMarks .In o = false := by rfl) : ET X (.Compare ix [.In] [o] pos) ρ (l.lookup n).isSome ρ2 := by
  have := et_din (pos := pos) (k := .inl (n : Int)) hu hi ho s hm
  rwa [getK_kvM, Option.isSome_map] at this
theorem ev_setdM {α : Type} {g : α → D} {l : List (Nat × α)} {n : Nat} {a : α} (ho : EV X o ρ (.own i) ρ1) (hx : EV X ix ρ1 (.d (nD n)) ρ2) (hf : EV X f ρ2 (.d (g a)) ρ3) (h1 : ∃ bo' kvs', ρ1[i]? = some (Sl.own bo' (.dct kvs'))) (hi : ρ3[i]? = some (Sl.own bo (.dct (kvM g l)))) (hl : l.length < sizeLine) (m : M2 X o "setdefault" apos ix f cpos) :
    EV X (.Call (.Attribute o "setdefault" apos) [ix, f] [] cpos) ρ (.d (((l.lookup n).map g).getD (g a))) (ρ3.set i (.own bo (.dct (kvM g (if (l.lookup n).isSome then l else l ++ [(n, a)]))))) := by
  have := ev_setd (k := .inl (n : Int)) (rc := .d (((l.lookup n).map g).getD (g a))) ho hx hf h1 hi (by rw [kvM_length]; exact hl) m rfl (by rw [getK_kvM])
  rw [getK_kvM, Option.isSome_map] at this
  cases q : l.lookup n with
  | some z => rw [q] at this; exact this
  | none =>
    rw [q] at this
    rw [setK_kvM g l n a q] at this
    exact this
theorem ev_lenSetN {a : Expr} {ks : List Key} {p p2 q : Pos} (hg : Gl X "len") (hm : X.mg "len" = none) (hg2 : Gl X "set") (hm2 : X.mg "set" = none) (hc : X.calm = true) (ha : EV X a ρ ra ρ1) (s : ra = .d (.list (ks.map kD)) ∨ ∃ i bo, ra = .own i ∧ ρ1[i]? = some (Sl.own bo (.lst (ks.map kD)))) (hl : ks.length ≤ 4000) (na : starEach [a] X.env = (false, eval a X.env) :: starEach [] X.env := by rfl) :
    EV X (.Call (.Name "len" p) [.Call (.Name "set" p2) [a] [] q] [] pos) ρ (.d (nD (met ks).length)) ρ1 := ev_lenSet hc hg hm hg2 hm2 ha s hl na
theorem ES.slot {ρ' : List Sl} (h : ES X sts ρ' N) (e : ρ = ρ') : ES X sts ρ N := e ▸ h
end
end OX
set_option Elab.async false
set_option linter.all false
set_option maxRecDepth 100000
set_option maxHeartbeats 1000000
/-! OX16: dicts from numbers to numbers; from texts to texts. -/
namespace OX
open PySem L2
section
variable {X : Cx} {ρ ρ1 ρ2 ρ3 : List Sl} {r ra rb : Rs} {v e o ix tg : Expr} {pos pos' spos apos cpos : Pos} {N : SN} {sts : List Stmt} {i : Nat} {bo : Option Nat}
theorem ev_dgetN {l : List (Nat × Nat)} {n : Nat} {kvs : List (Key × D)} (hu : X.A.units + 1 < cLine) (ho : EV X o ρ ra ρ1) (hi : EV X ix ρ1 (.d (nD n)) ρ2) (s : DictR ρ2 ra kvs) (hk : kvs = kvM nD l) (hd : (l.lookup n).isSome = true) (hst : ra.st = true := by rfl) (hs : NoSl ix := by exact fun _ _ => rfl) : EV X (.Subscript o ix pos) ρ (.d (nD ((l.lookup n).getD default))) ρ2 := ev_dgetM hu ho hi s hk hd hst hs
/-! ### keys that are texts -/
def kvS {α : Type} (f : α → D) (l : List (Str × α)) : List (Key × D) := l.map fun p => (.inr p.1, f p.2)
theorem getK_kvS {α : Type} (f : α → D) (l : List (Str × α)) (n : Str) : getK (kvS f l) (.inr n) = (l.lookup n).map f := by
  unfold getK kvS
  induction l with
  | nil => rfl
  | cons p l ih =>
    obtain ⟨k, a⟩ := p
    rw [List.map_cons, List.find?_cons, List.lookup_cons]
    by_cases h : k = n
    · subst h
      simp
    · have h1 : (n == k) = false := beq_eq_false_iff_ne.mpr fun z => h z.symm
      have h2 : ¬ ((Sum.inr k : Key) = .inr n) := fun z => h (Sum.inr.inj z)
      simp only [h1, decide_eq_false h2]
      exact ih
theorem kvS_length {α : Type} (f : α → D) (l : List (Str × α)) : (kvS f l).length = l.length := by simp [kvS]
theorem ei_keysS {α : Type} {f : α → D} {l : List (Str × α)} (h : EV X e ρ (.d (dictD (kvS f l))) ρ1) : EI X tg e ρ ((l.map (·.1)).map fun n => .one (.str n)) ρ1 := by
  have := ei_keys (tg := tg) h
  unfold kvS at this
  rw [List.map_map, List.map_map] at this
  rw [List.map_map]
  exact this
theorem ev_dgetS {l : List (Str × Str)} {n : Str} {kvs : List (Key × D)} (hu : X.A.units + 1 < cLine) (ho : EV X o ρ ra ρ1) (hi : EV X ix ρ1 (.d (.str n)) ρ2) (s : DictR ρ2 ra kvs) (hk : kvs = kvS PyData.str l) (hd : (l.lookup n).isSome = true) (hst : ra.st = true := by rfl) (hs : NoSl ix := by exact fun _ _ => rfl) : EV X (.Subscript o ix pos) ρ (.d (.str ((l.lookup n).getD default))) ρ2 :=
  ev_dget (k := .inr n) hu ho hi s (by
    rw [hk, getK_kvS]
    cases q : l.lookup n with
    | none => rw [q] at hd; cases hd
    | some v => rfl) hst hs
theorem cr_lenDS {α : Type} {f : α → D} {l : List (Str × α)} (s : DictR ρ r (kvS f l)) : CrX X (.builtin "len") [r] ρ (.d (nD l.length)) := (cr_lenD' s).cast (by rw [kvS_length])
/-- sorted(names), a dict with texts as keys -/
theorem cr_sortD {α : Type} {f : α → D} {l : List (Str × α)} {out : List Str} (hc : X.calm = true) (s : DictR ρ r (kvS f l)) (h : l.length < 64) (hu : ∀ ys : List Str, ys.Perm (l.map (·.1)) → PyProof.Rows.sortedS ys = true → ys = out) : CrX X (.builtin "sorted") [r] ρ (.new (.lst (out.map PyData.str))) := ⟨_, call_sortedD hc, fun β σ F H vs C r1 Q k => by
  obtain ⟨v, ev, y1⟩ := r1.one
  clear r1
  subst ev
  obtain ⟨a, ws, rfl, h1, h2⟩ := s.get C y1
  refine ⟨a, ws, l.map (·.1), rfl, h1, ?_, by rw [List.length_map]; exact h, fun ys p hp hs hn => ?_⟩
  · rw [h2.keys]
    unfold kvS
    rw [List.map_map, List.map_map]
    rfl
  · obtain rfl := hu ys hp hs
    obtain ⟨C4, q5⟩ := C.newL (DaAll.of_strs ys) hn
    exact k _ F _ C4 (.refl F) q5⟩
/-! ### is a tuple empty? -/
theorem shaped_nilT : SeqAt.shaped (.tuple []) = true := by decide +kernel
theorem cx_eqNilT {α : Type} [DecidableEq α] {f : α → D} {P : α → Prop} {n : Nat} {xs : List α} (E : Enc f P) (hP : ∀ x ∈ xs, P x) (dp : ∀ x, (f x).depth ≤ n) (hu : X.A.units + 64 < cLine) (hn : n + 1 ≤ 64 := by decide) : CmpX X .Eq (.d (.tuple (xs.map f))) (.d (.tuple [])) ρ (.d (.bool xs.isEmpty)) :=
  (cx_eqD hu (shd (E.tup.lay xs hP) (dp_tup dp xs) hn) shaped_nilT).cast (by
    have := E.tup.eq xs []
    simp only [List.map_nil] at this
    rw [this]
    cases xs <;> rfl)
theorem cx_neNilT {α : Type} [DecidableEq α] {f : α → D} {P : α → Prop} {n : Nat} {xs : List α} (E : Enc f P) (hP : ∀ x ∈ xs, P x) (dp : ∀ x, (f x).depth ≤ n) (hu : X.A.units + 64 < cLine) (hn : n + 1 ≤ 64 := by decide) : CmpX X .NotEq (.d (.tuple (xs.map f))) (.d (.tuple [])) ρ (.d (.bool (!xs.isEmpty))) :=
  (cx_neD hu (shd (E.tup.lay xs hP) (dp_tup dp xs) hn) shaped_nilT).cast (by
    have := E.tup.eq xs []
    simp only [List.map_nil] at this
    rw [this]
    cases xs <;> rfl)
end
end OX
set_option Elab.async false
set_option linter.all false
set_option maxRecDepth 100000
set_option maxHeartbeats 1000000
/-! OX17: powers of larger numbers. -/
namespace OX
open PySem L2
section
variable {X : Cx} {ρ : List Sl}
theorem op_powX : OpR X (binaryOp .Pow) (rI (fun i j => 0 ≤ j ∧ (Builtin.Int.intBits i : Int) * j ≤ 2 ^ 27) fun i j => .int (i ^ j.toNat)) := opI fun _ _ _ _ _ _ _ hc q => PyProof.Rows.pow_int hc.1 hc.2 q
theorem bx_powX {i j : Int} (h : 0 ≤ j ∧ (Builtin.Int.intBits i : Int) * j ≤ 2 ^ 27) : BinX X .Pow (.d (.int i)) (.d (.int j)) ρ (.d (.int (i ^ j.toNat))) := ⟨_, op_powX, r2_I h fun _ => .int _⟩
theorem bx_powN {m n : Nat} (h : (Builtin.Int.intBits (m : Int) : Int) * (n : Int) ≤ 2 ^ 27) : BinX X .Pow (.d (nD m)) (.d (nD n)) ρ (.d (nD (m ^ n))) := (bx_powX ⟨by omega, h⟩).cast (by unfold nD; congr 2)
theorem bits_10_59 : (Builtin.Int.intBits ((10 : Nat) : Int) : Int) * ((59 : Nat) : Int) ≤ 2 ^ 27 := by decide +kernel
theorem bits_10_18 : (Builtin.Int.intBits ((10 : Nat) : Int) : Int) * ((18 : Nat) : Int) ≤ 2 ^ 27 := by decide +kernel
theorem bits_big : (Builtin.Int.intBits ((10 ^ 59 : Nat) : Int) : Int) * ((11 : Nat) : Int) ≤ 2 ^ 27 := by decide +kernel
end
end OX
set_option Elab.async false
set_option linter.all false
/-! M1: plain words. -/
namespace OX
open PySem L2
def LETTERS : Str := "abcdefghijklmnopqrstuvwxyz"
def Lab (s : Str) : Prop := 1 ≤ s.length ∧ s.length ≤ 8 ∧ ∀ c ∈ s.cps.toList, c ∈ LETTERS.cps.toList
abbrev SLt (a b : Str) : Prop := a.cps.toList < b.cps.toList
def Labs (L : List Str) : Prop := 1 ≤ L.length ∧ L.length ≤ 4 ∧ (∀ s ∈ L, Lab s) ∧ L.Pairwise SLt
theorem zip_tail {α : Type} {R : α → α → Prop} : ∀ {L : List α}, L.Pairwise R → ∀ p ∈ L.zip (L.drop 1), R p.1 p.2
  | [], _, p, hp => by simp at hp
  | [a], _, p, hp => by simp at hp
  | a :: b :: L, h, p, hp => by
    simp only [List.drop_succ_cons, List.drop_zero, List.zip_cons_cons, List.mem_cons] at hp
    rcases hp with rfl | hp
    · exact (List.pairwise_cons.mp h).1 b List.mem_cons_self
    · exact zip_tail (List.pairwise_cons.mp h).2 p (by simpa using hp)
abbrev tS (w : List Str) : D := .tuple (w.map PyData.str)
abbrev tN (w : List Nat) : D := .tuple (w.map nD)
abbrev lN (w : List Nat) : D := .list (w.map nD)
abbrev lS (w : List Str) : D := .list (w.map PyData.str)
structure Qu where
  L : List Str
  ro : List Nat
  rw : List (List Nat)
  co : List Str
abbrev Qu.D (q : Qu) : OX.D := .tuple [tS q.L, tN q.ro, .tuple (q.rw.map tN), tS q.co]
def Row (k n : Nat) (r : List Nat) : Prop := r.length = k ∧ ∀ s ∈ r, s < n
structure Qu.Ok (q : Qu) : Prop where
  labs : Labs q.L
  n1 : 1 ≤ q.rw.length
  n2 : q.rw.length ≤ 40
  ro : Row q.L.length q.rw.length q.ro
  rw : ∀ r ∈ q.rw, Row q.L.length q.rw.length r
  cn : q.co.length = q.rw.length
  co : ∀ c ∈ q.co, Lab c
/-! ### runs of a query -/
def Qu.root (q : Qu) (l : Str) : Nat := q.ro.getD (q.L.idxOf l) default
def Qu.step (q : Qu) (s : Nat) (l : Str) : Nat := (q.rw.getD s default).getD (q.L.idxOf l) default
def Qu.run (q : Qu) (s : Nat) (w : List Str) : Nat := w.foldl q.step s
theorem getD_mem {α : Type} [Inhabited α] {xs : List α} {n : Nat} (h : n < xs.length) : xs.getD n default ∈ xs := by
  rw [List.getD_eq_getElem?_getD, List.getElem?_eq_getElem h]
  exact List.getElem_mem h
theorem idx_lt {L : List Str} {l : Str} (h : l ∈ L) : L.idxOf l < L.length := List.idxOf_lt_length_of_mem h
theorem Qu.Ok.row {q : Qu} (ok : q.Ok) {s : Nat} (h : s < q.rw.length) : Row q.L.length q.rw.length (q.rw.getD s default) := ok.rw _ (getD_mem h)
theorem Qu.Ok.root_lt {q : Qu} (ok : q.Ok) {l : Str} (h : l ∈ q.L) : q.root l < q.rw.length := ok.ro.2 _ (getD_mem (by rw [ok.ro.1]; exact idx_lt h))
theorem Qu.Ok.step_lt {q : Qu} (ok : q.Ok) {s : Nat} (hs : s < q.rw.length) {l : Str} (h : l ∈ q.L) : q.step s l < q.rw.length := (ok.row hs).2 _ (getD_mem (by rw [(ok.row hs).1]; exact idx_lt h))
theorem Qu.Ok.run_lt {q : Qu} (ok : q.Ok) : ∀ {w : List Str} {s : Nat}, s < q.rw.length → (∀ l ∈ w, l ∈ q.L) → q.run s w < q.rw.length
  | [], _, hs, _ => hs
  | l :: w, s, hs, h => run_lt ok (w := w) (s := q.step s l) (ok.step_lt hs (h l List.mem_cons_self)) fun a ha => h a (List.mem_cons_of_mem _ ha)
theorem Qu.run_succ (q : Qu) {w : List Str} {i : Nat} {l : Str} (h : w[i]? = some l) (s : Nat) : q.run s (w.take (i + 1)) = q.step (q.run s (w.take i)) l := by
  unfold Qu.run
  rw [List.take_add_one, h, Option.toList_some, List.foldl_append]
  rfl
theorem mem_of_get {α : Type} {xs : List α} {i : Nat} {x : α} (h : xs[i]? = some x) : x ∈ xs := List.mem_of_getElem? h
/-! ### first paths, kinds -/
theorem nodup_len : ∀ (n : Nat) (l : List Nat), l.Nodup → (∀ x ∈ l, x < n) → l.length ≤ n
  | 0, [], _, _ => Nat.le_refl _
  | 0, x :: l, _, h => absurd (h x List.mem_cons_self) (by omega)
  | n + 1, l, hd, h => by
    by_cases z : n ∈ l
    · have h1 := nodup_len n (l.erase n) (hd.erase n) fun x hx => by
        have := (hd.mem_erase_iff).mp hx
        have := h x this.2
        omega
      rw [List.length_erase_of_mem z] at h1
      omega
    · have := nodup_len n l hd fun x hx => by
        have h2 := h x hx
        have h3 : x ≠ n := fun e => z (e ▸ hx)
        omega
      omega
abbrev psD : List Str × Nat → D := fun p => .tuple [tS p.1, nD p.2]
abbrev Fnd := List (Nat × List Str)
abbrev Lev := List (List Str × Nat)
def fpTurn (st : Fnd × Lev) (p : List Str × Nat) : Fnd × Lev := if (st.1.lookup p.2).isSome then st else (st.1 ++ [(p.2, p.1)], st.2 ++ [p])
def Qu.fpNext (q : Qu) (fresh : Lev) : Lev := fresh.flatMap fun p => (q.L.zip (q.rw.getD p.2 default)).map fun ll => (p.1 ++ [ll.1], ll.2)
def Qu.fpInit (q : Qu) : Lev := (q.L.zip q.ro).map fun p => ([p.1], p.2)
def FP (q : Qu) : Nat → Fnd → Lev → Fnd → Prop
  | 0, f, l, o => l = [] ∧ o = f
  | m + 1, f, l, o => l ≠ [] ∧ FP q m (l.foldl fpTurn (f, [])).1 (q.fpNext (l.foldl fpTurn (f, [])).2) o
/-- what stays -/
structure FpOk (q : Qu) (m : Nat) (f : Fnd) (l : Lev) : Prop where
  nd : (f.map (·.1)).Nodup
  lt : ∀ p ∈ f, p.1 < q.rw.length
  lv : ∀ p ∈ l, p.2 < q.rw.length ∧ p.1.length + m ≤ 1001 ∧ ∀ a ∈ p.1, a ∈ q.L
  ln : l.length ≤ 160
theorem lookup_none {α : Type} {l : List (Nat × α)} {n : Nat} (h : l.lookup n = none) : n ∉ l.map (·.1) := by
  induction l with
  | nil => simp
  | cons p l ih =>
    obtain ⟨k, a⟩ := p
    rw [List.lookup_cons] at h
    by_cases e : n = k
    · subst e
      simp at h
    · have : (n == k) = false := beq_eq_false_iff_ne.mpr e
      rw [this] at h
      simp only [List.map_cons, List.mem_cons, not_or]
      exact ⟨e, ih h⟩
theorem lookup_some {α : Type} {l : List (Nat × α)} {n : Nat} (h : n ∈ l.map (·.1)) : (l.lookup n).isSome = true := by
  cases q : l.lookup n with
  | some a => rfl
  | none => exact absurd h (lookup_none q)
theorem fpTurns {q : Qu} {m : Nat} : ∀ (l : Lev) (f : Fnd) (fr : Lev), (∀ p ∈ l, p.2 < q.rw.length ∧ p.1.length + m ≤ 1001 ∧ ∀ a ∈ p.1, a ∈ q.L) → (f.map (·.1)).Nodup → (∀ p ∈ f, p.1 < q.rw.length) → (∀ p ∈ fr, p.2 < q.rw.length ∧ p.1.length + m ≤ 1001 ∧ ∀ a ∈ p.1, a ∈ q.L) → fr.length ≤ f.length →
    let z := l.foldl fpTurn (f, fr)
    (z.1.map (·.1)).Nodup ∧ (∀ p ∈ z.1, p.1 < q.rw.length) ∧ (∀ p ∈ z.2, p.2 < q.rw.length ∧ p.1.length + m ≤ 1001 ∧ ∀ a ∈ p.1, a ∈ q.L) ∧ z.2.length ≤ z.1.length
  | [], f, fr, _, h2, h3, h4, h5 => ⟨h2, h3, h4, h5⟩
  | p :: l, f, fr, h1, h2, h3, h4, h5 => by
    have ih := fun f fr => fpTurns (q := q) (m := m) l f fr fun p' hp => h1 p' (List.mem_cons_of_mem _ hp)
    rw [List.foldl_cons]
    have hp := h1 p List.mem_cons_self
    unfold fpTurn
    cases e : f.lookup p.2 with
    | some a =>
      simp only [e, Option.isSome_some, if_true]
      exact ih f fr h2 h3 h4 h5
    | none =>
      simp only [e, Option.isSome_none, Bool.false_eq_true, if_false]
      refine ih _ _ ?_ ?_ ?_ ?_
      · rw [List.map_append, List.nodup_append]
        refine ⟨h2, by simp, fun a ha b hb => ?_⟩
        simp only [List.map_cons, List.map_nil, List.mem_singleton] at hb
        subst hb
        exact fun z => lookup_none e (z ▸ ha)
      · intro p' hp'
        rcases List.mem_append.mp hp' with z | z
        · exact h3 p' z
        · simp only [List.mem_singleton] at z
          subst z
          exact hp.1
      · intro p' hp'
        rcases List.mem_append.mp hp' with z | z
        · exact h4 p' z
        · simp only [List.mem_singleton] at z
          subst z
          exact hp
      · rw [List.length_append, List.length_append]
        simp only [List.length_singleton]
        omega
theorem FpOk.found_le {q : Qu} {m : Nat} {f : Fnd} {l : Lev} (ok : q.Ok) (h : FpOk q m f l) : f.length ≤ 40 := by
  have := nodup_len q.rw.length (f.map (·.1)) h.nd fun x hx => by
    obtain ⟨p, hp, rfl⟩ := List.mem_map.mp hx
    exact h.lt p hp
  rw [List.length_map] at this
  exact Nat.le_trans this ok.n2
theorem FpOk.next {q : Qu} {m : Nat} {f : Fnd} {l : Lev} (ok : q.Ok) (h : FpOk q (m + 1) f l) : FpOk q m (l.foldl fpTurn (f, [])).1 (q.fpNext (l.foldl fpTurn (f, [])).2) ∧ (l.foldl fpTurn (f, [])).2.length ≤ 40 ∧ (∀ p ∈ (l.foldl fpTurn (f, [])).2, p.2 < q.rw.length ∧ p.1.length ≤ 1000 ∧ ∀ a ∈ p.1, a ∈ q.L) := by
  obtain ⟨h1, h2, h3, h4⟩ := fpTurns (q := q) (m := m + 1) l f [] h.lv h.nd h.lt (by simp) (by simp)
  have h5 : (l.foldl fpTurn (f, [])).1.length ≤ 40 := FpOk.found_le (m := 0) (l := []) ok ⟨h1, h2, by simp, by simp⟩
  refine ⟨⟨h1, h2, fun p hp => ?_, ?_⟩, by omega, fun p hp => ⟨(h3 p hp).1, by have := (h3 p hp).2.1; omega, (h3 p hp).2.2⟩⟩
  · unfold Qu.fpNext at hp
    obtain ⟨p0, hp0, hp⟩ := List.mem_flatMap.mp hp
    obtain ⟨ll, hll, rfl⟩ := List.mem_map.mp hp
    obtain ⟨a1, a2, a3⟩ := h3 p0 hp0
    refine ⟨(ok.row a1).2 _ (List.of_mem_zip hll).2, ?_, fun a ha => ?_⟩
    · rw [List.length_append, List.length_singleton]
      omega
    · rcases List.mem_append.mp ha with z | z
      · exact a3 a z
      · rw [List.mem_singleton] at z
        subst z
        exact (List.of_mem_zip hll).1
  · unfold Qu.fpNext
    rw [List.length_flatMap]
    have hb : ∀ (fr : Lev), (fr.map fun p => ((q.L.zip (q.rw.getD p.2 default)).map fun ll => (p.1 ++ [ll.1], ll.2)).length).sum ≤ 4 * fr.length := by
      intro fr
      induction fr with
      | nil => simp
      | cons p fr ih =>
        rw [List.map_cons, List.sum_cons, List.length_cons, List.length_map, List.length_zip]
        have := ok.labs.2.1
        omega
    have := hb (l.foldl fpTurn (f, [])).2
    omega
theorem fpInit_ok {q : Qu} (ok : q.Ok) {m : Nat} (hm : m ≤ 1000) : FpOk q m [] q.fpInit := by
  refine ⟨by simp, by simp, fun p hp => ?_, ?_⟩
  · obtain ⟨ll, hll, rfl⟩ := List.mem_map.mp hp
    refine ⟨ok.ro.2 _ (List.of_mem_zip hll).2, by simp; omega, fun a ha => ?_⟩
    rw [List.mem_singleton] at ha
    subst ha
    exact (List.of_mem_zip hll).1
  · unfold Qu.fpInit
    rw [List.length_map, List.length_zip]
    have := ok.labs.2.1
    omega
theorem letters_small : ∀ c ∈ LETTERS.cps.toList, c < 0x110000 := by decide +kernel
theorem Lab.sok {s : Str} (h : Lab s) : SOk s := by
  unfold SOk PyData.strOk
  rw [Array.all_eq_true_iff_forall_mem]
  intro c hc
  exact decide_eq_true (letters_small c (h.2.2 c (by simpa using hc)))
/-! ### kinds -/
instance : Inhabited Key := ⟨.inl 0⟩
def keyOk : Key → Prop
  | .inl _ => True
  | .inr s => SOk s
theorem enc_key : Enc kD keyOk := ⟨fun a b => by
  cases a with
  | inl i =>
    cases b with
    | inl j => rw [show PyData.eqv (kD (.inl i)) (kD (.inl j)) = decide (i = j) from enc_int.eq i j]; exact decide_eq_decide.mpr ⟨fun h => by rw [h], fun h => Sum.inl.inj h⟩
    | inr t => rfl
  | inr t =>
    cases b with
    | inl j => rfl
    | inr u => rw [show PyData.eqv (kD (.inr t)) (kD (.inr u)) = decide (t = u) from enc_str.eq t u]; exact decide_eq_decide.mpr ⟨fun h => by rw [h], fun h => Sum.inr.inj h⟩, fun a h => by
  cases a with
  | inl i => rfl
  | inr t => exact enc_str.lay t h⟩
theorem dp_key (k : Key) : (kD k).depth ≤ 1 := by
  cases k with
  | inl i => exact dp_int i
  | inr t => exact dp_str t
abbrev mkD : Key × List Key → D := fun p => .tuple [kD p.1, .list (p.2.map kD)]
def marksK (rows : List (List Nat)) (ks : List Key) : List (Key × List Key) := rows.zipIdx.map fun x => (ks.getD x.2 default, x.1.map fun l => ks.getD l default)
def Kn (n : Nat) : Key := .inl (n : Int)
def stepN (rows : List (List Nat)) (ks : List Key) : List Nat := (marksK rows ks).map fun m => @List.idxOf _ instBEqOfDecidableEq m (marksK rows ks)
def KB (rows : List (List Nat)) : Nat → Nat → List Key → List Key → Prop
  | 0, many, ks, out => many = (met ks).length ∧ out = ks
  | m + 1, many, ks, out => many ≠ (met ks).length ∧ KB rows m (met ks).length ((stepN rows ks).map Kn) out
theorem stepN_len (rows : List (List Nat)) (ks : List Key) : (stepN rows ks).length = rows.length := by simp [stepN, marksK]
end OX
set_option Elab.async false
set_option linter.all false
/-! M2: plain words, on. -/
namespace OX
open PySem L2
/-! ### least queries -/
def ordTurn (kn acc : List Nat) (s : Nat) : List Nat := if kn.getD s default ∈ acc then acc else acc ++ [kn.getD s default]
def orderOf (kn ss : List Nat) : List Nat := ss.foldl (ordTurn kn) []
def Qu.lq (q : Qu) (kn ord : List Nat) : Qu := ⟨q.L, q.ro.map fun s => ord.idxOf (kn.getD s default), ord.map fun k => (q.rw.getD k default).map fun l => ord.idxOf (kn.getD l default), ord.map fun k => q.co.getD k default⟩
def Closed (q : Qu) (kn ord : List Nat) : Prop := kn.length = q.rw.length ∧ (∀ s ∈ q.ro, kn.getD s default ∈ ord) ∧ ∀ k ∈ ord, k < q.rw.length ∧ ∀ l ∈ q.rw.getD k default, kn.getD l default ∈ ord
def Least (q r : Qu) : Prop := ∃ m kn m' o, q.Ok ∧ KB q.rw m 0 (q.co.map .inr) (kn.map Kn) ∧ m' ≤ 1000 ∧ FP q m' [] q.fpInit o ∧ Closed q kn (orderOf kn (o.map (·.1))) ∧ r = q.lq kn (orderOf kn (o.map (·.1)))
theorem FP_ok {q : Qu} (ok : q.Ok) {o : Fnd} : ∀ {m : Nat} {f : Fnd} {l : Lev}, FP q m f l o → FpOk q m f l → (∀ p ∈ o, p.1 < q.rw.length) ∧ o.length ≤ 40
  | 0, f, l, h, k => by
    obtain ⟨_, rfl⟩ := h
    exact ⟨k.lt, k.found_le ok⟩
  | m + 1, f, l, h, k => FP_ok ok h.2 (k.next ok).1
theorem zipIdx_lookup_from : ∀ (acc : List Nat) (k n : Nat), (acc.zipIdx n).lookup k = if k ∈ acc then some (acc.idxOf k + n) else none
  | [], k, n => rfl
  | a :: acc, k, n => by
    rw [List.zipIdx_cons, List.lookup_cons, zipIdx_lookup_from acc k (n + 1), List.idxOf_cons]
    by_cases h : k = a
    · subst h
      simp
    · have h1 : (k == a) = false := beq_eq_false_iff_ne.mpr h
      have h2 : (a == k) = false := beq_eq_false_iff_ne.mpr fun e => h e.symm
      simp only [h1, h2, List.mem_cons, h, false_or, cond_false]
      by_cases h3 : k ∈ acc
      · simp only [h3, if_true]
        congr 1
        omega
      · simp only [h3, if_false]
theorem zipIdx_lookup (acc : List Nat) (k : Nat) : acc.zipIdx.lookup k = if k ∈ acc then some (acc.idxOf k) else none := by
  have := zipIdx_lookup_from acc k 0
  simpa using this
theorem zipIdx_snoc (acc : List Nat) (k : Nat) : (acc ++ [k]).zipIdx = acc.zipIdx ++ [(k, acc.length)] := by
  rw [List.zipIdx_append]
  simp
theorem zipIdx_put (acc : List Nat) (k n : Nat) (hn : n = acc.length) : (if (acc.zipIdx.lookup k).isSome then acc.zipIdx else acc.zipIdx ++ [(k, n)]) = (if k ∈ acc then acc else acc ++ [k]).zipIdx := by
  subst hn
  rw [zipIdx_lookup]
  by_cases h : k ∈ acc
  · simp [h]
  · simp [h, zipIdx_snoc]
theorem zipIdx_get {acc : List Nat} {k : Nat} (h : k ∈ acc) : (acc.zipIdx.lookup k).getD default = acc.idxOf k := by
  rw [zipIdx_lookup, if_pos h]
  rfl
theorem zipIdx_some {acc : List Nat} {k : Nat} (h : k ∈ acc) : (acc.zipIdx.lookup k).isSome = true := by
  rw [zipIdx_lookup, if_pos h]
  rfl
theorem zipIdx_fst (acc : List Nat) : acc.zipIdx.map (·.1) = acc := by
  have := List.zipIdx_map_fst 0 acc
  exact this
theorem order_len (kn : List Nat) : ∀ (ss acc : List Nat), (ss.foldl (ordTurn kn) acc).length ≤ acc.length + ss.length
  | [], acc => by simp
  | s :: ss, acc => by
    rw [List.foldl_cons]
    have := order_len kn ss (ordTurn kn acc s)
    have h : (ordTurn kn acc s).length ≤ acc.length + 1 := by
      unfold ordTurn
      split
      · omega
      · simp
    rw [List.length_cons]
    omega
end OX
set_option Elab.async false
set_option linter.all false
/-! M3: queries underneath, translated. -/
namespace OX
open PySem L2
def Qu.at (q : Qu) : List Str → Qu
  | [] => q
  | l :: w => { q with ro := q.rw.getD (q.run (q.root l) w) default }
def nmOf (nm : List (Str × Str)) (l : Str) : Str := (nm.lookup l).getD default
def Qu.tr (q : Qu) (nm : List (Str × Str)) (Ls : List Str) : Qu := ⟨Ls, Ls.map fun l => q.ro.getD (q.L.idxOf (nmOf nm l)) default, q.rw.map fun r => Ls.map fun l => r.getD (q.L.idxOf (nmOf nm l)) default, q.co⟩
structure NmOk (q : Qu) (nm : List (Str × Str)) (Ls : List Str) : Prop where
  n1 : 1 ≤ nm.length
  n4 : nm.length ≤ 4
  lab : ∀ p ∈ nm, Lab p.1 ∧ p.2 ∈ q.L
  perm : Ls.Perm (nm.map (·.1))
  srt : Ls.Pairwise SLt
theorem lookupS_some {l : List (Str × Str)} {n : Str} (h : n ∈ l.map (·.1)) : ∃ v, l.lookup n = some v ∧ (n, v) ∈ l := by
  induction l with
  | nil => simp at h
  | cons p l ih =>
    obtain ⟨k, a⟩ := p
    rw [List.lookup_cons]
    by_cases e : n = k
    · subst e
      exact ⟨a, by simp, List.mem_cons_self⟩
    · have : (n == k) = false := beq_eq_false_iff_ne.mpr e
      rw [this]
      simp only [List.map_cons, List.mem_cons] at h
      obtain ⟨v, h1, h2⟩ := ih (h.resolve_left e)
      exact ⟨v, h1, List.mem_cons_of_mem _ h2⟩
theorem NmOk.val {q : Qu} {nm : List (Str × Str)} {Ls : List Str} (h : NmOk q nm Ls) {l : Str} (hl : l ∈ Ls) : (nm.lookup l).isSome = true ∧ nmOf nm l ∈ q.L ∧ Lab l := by
  obtain ⟨v, h1, h2⟩ := lookupS_some (h.perm.mem_iff.mp hl)
  unfold nmOf
  rw [h1]
  exact ⟨rfl, (h.lab _ h2).2, (h.lab _ h2).1⟩
/-! sorted texts -/
theorem slt_irrefl (a : Str) : ¬ SLt a a := List.lt_irrefl _
theorem slt_trans {a b c : Str} (h : SLt a b) (k : SLt b c) : SLt a c := List.lt_trans h k
theorem str_ext {a b : Str} (h : a.cps.toList = b.cps.toList) : a = b := by
  cases a; cases b
  simp only at h
  rw [Array.toList_inj.mp h]
theorem slt_tri {a b : Str} (h : ¬ SLt a b) (k : ¬ SLt b a) : a = b := str_ext (List.le_antisymm (List.not_lt.mp k) (List.not_lt.mp h))
theorem rising_le : ∀ (ys : List Str) (x : Str), PyProof.Rows.risingS x ys = true → (x :: ys).Pairwise fun a b => ¬ SLt b a
  | [], x, _ => by simp
  | y :: ys, x, h => by
    simp only [PyProof.Rows.risingS, Bool.and_eq_true, Bool.not_eq_true'] at h
    have h2 := rising_le ys y h.2
    have hxy : ¬ SLt y x := fun z => by
      have e := h.1
      rw [PyProof.Rows.ltCps_eq, decide_eq_false_iff_not] at e
      exact e z
    refine List.pairwise_cons.mpr ⟨fun b hb => ?_, h2⟩
    rcases List.mem_cons.mp hb with rfl | hb
    · exact hxy
    · have h3 := (List.pairwise_cons.mp h2).1 b hb
      intro z
      by_cases e : SLt b y
      · exact h3 e
      · by_cases e2 : SLt y b
        · exact hxy (slt_trans e2 z)
        · have := slt_tri e e2
          subst this
          exact hxy z
theorem sorted_le {ys : List Str} (h : PyProof.Rows.sortedS ys = true) : ys.Pairwise fun a b => ¬ SLt b a := by
  cases ys with
  | nil => simp
  | cons y ys => exact rising_le ys y h
theorem sorted_unique {ys ks Ls : List Str} (h1 : ys.Perm ks) (h2 : PyProof.Rows.sortedS ys = true) (h3 : Ls.Perm ks) (h4 : Ls.Pairwise SLt) : ys = Ls :=
  List.Perm.eq_of_pairwise (le := fun a b => ¬ SLt b a) (fun a b _ _ h k => slt_tri k h) (sorted_le h2) (h4.imp fun h k => slt_irrefl _ (slt_trans h k)) (h1.trans h3.symm)
theorem NmOk.sorted {q : Qu} {nm : List (Str × Str)} {Ls : List Str} (h : NmOk q nm Ls) : ∀ ys : List Str, ys.Perm (nm.map (·.1)) → PyProof.Rows.sortedS ys = true → ys = Ls := fun ys h1 h2 => sorted_unique h1 h2 h.perm h.srt
theorem NmOk.len {q : Qu} {nm : List (Str × Str)} {Ls : List Str} (h : NmOk q nm Ls) : Ls.length = nm.length := by
  have := h.perm.length_eq
  rwa [List.length_map] at this
end OX
set_option Elab.async false
set_option linter.all false
set_option maxHeartbeats 1000000
/-! M4: dice. -/
namespace OX
open PySem L2
structure Die where
  a : Nat
  b : Nat
  c : Nat
abbrev Die.D (d : Die) : List OX.D := [nD d.a, nD d.b, nD d.c]
def Good (k : Nat) (d : Die) : Prop := d.b < 2 ^ 57 ∧ d.c + k ≤ 2 ^ 60
def pull (m : Nat) (d : Die) : Nat × Die :=
  if d.a > 0 then (d.a % m, { d with a := d.a / m }) else
    let c := d.c + 1
    let one := (d.b + 2654435761 * c) % 36028797018963913
    let two := one * one % 18014398509481951 * one
    let two := two + 374761393 * c + d.b % 65521
    (two * two % 1125899906842597 / 512 % m, { d with c := c })
theorem pull_lt {m : Nat} (d : Die) (h : 0 < m) : (pull m d).1 < m := by
  unfold pull
  split
  · exact Nat.mod_lt _ h
  · exact Nat.mod_lt _ h
theorem pull_good {m k : Nat} {d : Die} (h : Good (k + 1) d) : Good k (pull m d).2 := by
  obtain ⟨h1, h2⟩ := h
  unfold pull
  split
  · exact ⟨h1, by show d.c + k ≤ _; omega⟩
  · exact ⟨h1, by show d.c + 1 + k ≤ _; omega⟩
theorem Good.mono {j k : Nat} {d : Die} (h : Good k d) (l : j ≤ k) : Good j d := ⟨h.1, by have := h.2; omega⟩
theorem log2_lt' {n k : Nat} (h : n < 2 ^ k) (hk : 0 < k) : n.log2 < k := by
  by_cases z : n = 0
  · subst z
    simpa using hk
  · exact (Nat.log2_lt z).mpr h
section
variable {X : Cx} {ρ ρ1 ρ2 ρ3 : List Sl} {v o ix : Expr} {pos' spos : Pos} {d : D} {N : SN} {sts : List Stmt} {i k : Nat} {bo : Option Nat} {ds : List D}
theorem ec_setItemN (hv : EV X v ρ (.d d) ρ1) (ho : EV X o ρ1 (.own i) ρ2) (hix : EV X ix ρ2 (.d (nD k)) ρ3) (hi : ρ3[i]? = some (Sl.own bo (.lst ds))) (hk : k < ds.length)
    (h : ES X sts (ρ3.set i (.own bo (.lst (ds.set k d)))) N)
    (hs : swapsWithSole [Expr.Subscript o ix pos'] v spos.line X.env = pure false) (hw : swappedStores [Expr.Subscript o ix pos'] v X.env = pure none) (h1 : (assignEach [Expr.Subscript o ix pos'] X.env).map (·.2) = [assign (Expr.Subscript o ix pos') X.env])
    (ha : ∀ v, assign (.Subscript o ix pos') X.env v = (do
      let ov ← holding [v] (eval o X.env)
      let iv ← holding [v, ov] (eval ix X.env)
      standAt pos'
      holding [v, ov, iv] (setItem ov iv v)
      release [v, ov, iv] [])) : ES X (.Assign [.Subscript o ix pos'] v spos :: sts) ρ N := es_cons (es_setItem hv ho hix hi rfl hk h hs hw h1 ha)
end
end OX
set_option Elab.async false
set_option linter.all false
set_option maxHeartbeats 1000000
/-! M5: the law's draws. -/
namespace OX
open PySem L2
def diceOf (cell : Int) (spot : Nat) : Die :=
  let great := cell.natAbs % (10 ^ 59) ^ 11
  let mixed := great * 6364136223846793005 + 1442695040 * spot + 13 * (if decide (cell < 0) = true then 1 else 0)
  ⟨great + 1 - 10 ^ 18, mixed % 72057594037927931, 0⟩
def cellOf (ns : List Int) (spot : Nat) : Int := if spot < ns.length then ns.getD spot default else ((23 * spot + 8 : Nat) : Int)
theorem dice_good (cell : Int) (spot : Nat) : Good (2 ^ 50) (diceOf cell spot) := ⟨Nat.lt_trans (Nat.mod_lt _ (by decide)) (by decide), by show 0 + _ ≤ _; decide⟩
section
variable {X : Cx} {ρ ρ1 ρ2 : List Sl} {e : Expr} {es : List Expr} {ds cs : List D} {x : Str} {k k0 : Nat} {ps : List Str} {p pos : Pos}
theorem ev_defNE {R : List D → List D → Prop} (G : Ok X.prog X.w X.K X.mg X.base k x ps (spN X.K R)) (hr : Room k0 X.A) (hk : k ≤ k0) (hg : Gl X x) (ha : EAD X (e :: es) ρ ds ρ1) (hR : R ds cs)
    (hdb : (x == ("__debug__" : Str)) = false := by decide) (he : starEach (e :: es) X.env = (false, eval e X.env) :: starEach es X.env := by rfl) (hpl : (backTo pos (starEach es X.env)).any (·.1) = false := by rfl) : EV X (.Call (.Name x p) (e :: es) [] pos) ρ (.new (.lst cs)) ρ1 :=
  ev_defN G (hr.mono hk) hg ha rfl hR hdb he hpl
end
end OX
set_option Elab.async false
set_option linter.all false
set_option maxHeartbeats 1000000
/-! M6: the law's draws, on. -/
namespace OX
open PySem L2
/-- draws keep a die good: each costs n pulls at most -/
def Costs (n : Nat) {α : Type} (f : Die → α × Die) : Prop := ∀ k d, Good (k + n) d → Good k (f d).2
theorem Costs.good {n : Nat} {α : Type} {f : Die → α × Die} (h : Costs n f) {k : Nat} {d : Die} (g : Good (k + n) d) : Good k (f d).2 := h k d g
theorem pull_costs (m : Nat) : Costs 1 (pull m) := fun _ _ g => pull_good g
theorem mapS_costs {α β : Type} {f : α → Die → β × Die} {n : Nat} : ∀ (xs : List α), (∀ x ∈ xs, Costs n (f x)) → Costs (n * xs.length) (mapS f xs)
  | [], _, k, d, g => g
  | x :: xs, h, k, d, g => by
    refine mapS_costs xs (fun y hy => h y (List.mem_cons_of_mem _ hy)) k _ (h x List.mem_cons_self _ d ?_)
    rw [List.length_cons, Nat.mul_succ] at g
    rw [Nat.add_assoc]
    exact g
theorem mapS_all {α β S : Type} {f : α → S → β × S} {P : β → Prop} : ∀ (xs : List α) (s : S), (∀ x ∈ xs, ∀ s, P (f x s).1) → ∀ y ∈ (mapS f xs s).1, P y
  | [], s, _, y, hy => nomatch hy
  | x :: xs, s, h, y, hy => by
    rw [mapS] at hy
    rcases List.mem_cons.mp hy with rfl | hy
    · exact h x List.mem_cons_self s
    · exact mapS_all xs _ (fun z hz => h z (List.mem_cons_of_mem _ hz)) y hy
theorem cons_erase_perm {α : Type} : ∀ (l : List α) (i : Nat) (h : i < l.length), ([l[i]] ++ l.eraseIdx i).Perm l
  | x :: xs, 0, _ => .refl _
  | x :: xs, i + 1, h => by
    have ih := cons_erase_perm xs i (by simpa using h)
    rw [List.eraseIdx_cons_succ]
    exact (List.Perm.swap x _ _).trans (ih.cons x)
def pick (L : List Str) (d : Die) : Str × Die := (L.getD (pull L.length d).1 default, (pull L.length d).2)
theorem pick_costs (L : List Str) : Costs 1 (pick L) := fun _ _ g => pull_good g
theorem pick_mem {L : List Str} (h : 0 < L.length) (d : Die) : (pick L d).1 ∈ L := getD_mem (pull_lt d h)
/-! ### shuffled -/
def shufN {α : Type} [Inhabited α] : Nat → List α → List α → Die → List α × Die
  | 0, _, found, d => (found, d)
  | n + 1, left, found, d => shufN n (left.eraseIdx (pull left.length d).1) (found ++ [left.getD (pull left.length d).1 default]) (pull left.length d).2
def shuffle {α : Type} [Inhabited α] (xs : List α) (d : Die) : List α × Die := shufN xs.length xs [] d
theorem shufN_perm {α : Type} [Inhabited α] : ∀ (n : Nat) (left found : List α) (d : Die), left.length = n → (shufN n left found d).1.Perm (found ++ left)
  | 0, left, found, d, h => by
    rw [List.eq_nil_of_length_eq_zero h, List.append_nil]
    exact .refl _
  | n + 1, left, found, d, h => by
    have hp := pull_lt (m := left.length) d (by omega)
    rw [shufN]
    refine (shufN_perm n _ _ _ (by rw [List.length_eraseIdx_of_lt hp]; omega)).trans ?_
    rw [List.append_assoc]
    refine List.Perm.append_left found ?_
    rw [List.getD_eq_getElem?_getD, List.getElem?_eq_getElem hp]
    exact cons_erase_perm left _ hp
theorem shuffle_perm {α : Type} [Inhabited α] (xs : List α) (d : Die) : (shuffle xs d).1.Perm xs := shufN_perm _ xs [] d rfl
theorem shufN_costs {α : Type} [Inhabited α] : ∀ (n : Nat) (left found : List α), Costs n (shufN n left found)
  | 0, _, _, k, d, g => g
  | n + 1, left, found, k, d, g => by
    rw [shufN]
    exact shufN_costs n _ _ k _ (pull_good (by rw [Nat.add_assoc]; exact g))
theorem shuffle_costs {α : Type} [Inhabited α] (xs : List α) : Costs xs.length (shuffle xs) := shufN_costs _ _ _
/-! ### labels -/
def pools : List (List Str) := [["a", "b", "c", "d"], ["a", "ab", "b", "ba"], ["item", "list", "text", "x"], ["p", "q", "r", "zzzzzzzz"], ["c", "labels", "roots", "word"]]
def sizes7 : List Nat := [1, 2, 2, 2, 3, 3, 4]
/-- sorted texts -/
def insS (x : Str) : List Str → List Str
  | [] => [x]
  | y :: ys => if x.cps.toList < y.cps.toList then x :: y :: ys else y :: insS x ys
def sortS : List Str → List Str
  | [] => []
  | x :: xs => insS x (sortS xs)
theorem insS_perm (x : Str) : ∀ ys, (insS x ys).Perm (x :: ys)
  | [] => .refl _
  | y :: ys => by
    unfold insS
    split
    · exact .refl _
    · exact ((insS_perm x ys).cons y).trans (List.Perm.swap x y ys)
theorem sortS_perm : ∀ xs, (sortS xs).Perm xs
  | [] => .refl _
  | x :: xs => (insS_perm x _).trans ((sortS_perm xs).cons x)
theorem insS_srt (x : Str) : ∀ ys, ys.Pairwise SLt → x ∉ ys → (insS x ys).Pairwise SLt
  | [], _, _ => by simp [insS]
  | y :: ys, h, hx => by
    unfold insS
    rw [List.pairwise_cons] at h
    split
    · rename_i hlt
      refine List.pairwise_cons.mpr ⟨fun b hb => ?_, List.pairwise_cons.mpr h⟩
      rcases List.mem_cons.mp hb with rfl | hb
      · exact hlt
      · exact slt_trans hlt (h.1 b hb)
    · rename_i hlt
      refine List.pairwise_cons.mpr ⟨fun b hb => ?_, insS_srt x ys h.2 fun z => hx (List.mem_cons_of_mem _ z)⟩
      rcases List.mem_cons.mp ((insS_perm x ys).mem_iff.mp hb) with rfl | hb
      · refine Classical.byContradiction fun n => hx ?_
        rw [slt_tri (a := b) (b := y) hlt n]
        exact List.mem_cons_self
      · exact h.1 b hb
theorem sortS_srt : ∀ xs : List Str, xs.Nodup → (sortS xs).Pairwise SLt
  | [], _ => by simp [sortS]
  | x :: xs, h => by
    rw [List.nodup_cons] at h
    exact insS_srt x _ (sortS_srt xs h.2) fun z => h.1 ((sortS_perm xs).mem_iff.mp z)
theorem sortS_unique {xs : List Str} (h : xs.Nodup) : ∀ ys : List Str, ys.Perm xs → PyProof.Rows.sortedS ys = true → ys = sortS xs := fun ys h1 h2 => sorted_unique h1 h2 (sortS_perm xs) (sortS_srt xs h)
theorem sortS_length (xs : List Str) : (sortS xs).length = xs.length := (sortS_perm xs).length_eq
def labelsOf (d : Die) : List Str × Die :=
  let p := pull 5 d
  let s := shuffle (pools.getD p.1 default) p.2
  let k := pull 7 s.2
  (sortS (s.1.take (sizes7.getD k.1 default)), k.2)
def labCheck (s : Str) : Bool := decide (1 ≤ s.length) && decide (s.length ≤ 8) && s.cps.toList.all fun c => decide (c ∈ LETTERS.cps.toList)
theorem labCheck_lab {s : Str} (h : labCheck s = true) : Lab s := by
  unfold labCheck at h
  rw [Bool.and_eq_true, Bool.and_eq_true, List.all_eq_true] at h
  exact ⟨of_decide_eq_true h.1.1, of_decide_eq_true h.1.2, fun c hc => of_decide_eq_true (h.2 c hc)⟩
theorem pools_ok : ∀ p ∈ pools, p.length = 4 ∧ p.Nodup ∧ ∀ s ∈ p, Lab s := by
  have h : (pools.all fun p => decide (p.length = 4) && decide p.Nodup && p.all labCheck) = true := by decide +kernel
  intro p hp
  have := List.all_eq_true.mp h p hp
  rw [Bool.and_eq_true, Bool.and_eq_true] at this
  exact ⟨of_decide_eq_true this.1.1, of_decide_eq_true this.1.2, fun s hs => labCheck_lab (List.all_eq_true.mp this.2 s hs)⟩
theorem sizes7_ok : ∀ n ∈ sizes7, 1 ≤ n ∧ n ≤ 4 := by decide
theorem labelsOf_ok (d : Die) : Labs (labelsOf d).1 := by
  unfold labelsOf
  have h0 := pools_ok _ (getD_mem (xs := pools) (pull_lt (m := 5) d (by decide)))
  simp only
  generalize pull 5 d = p at *
  have h1 := shuffle_perm (pools.getD p.1 default) p.2
  generalize shuffle (pools.getD p.1 default) p.2 = s at *
  have h2 := sizes7_ok _ (getD_mem (xs := sizes7) (pull_lt (m := 7) s.2 (by decide)))
  generalize pull 7 s.2 = k at *
  have hl : s.1.length = 4 := by rw [h1.length_eq]; exact h0.1
  have hn : (s.1.take (sizes7.getD k.1 default)).Nodup := (List.take_sublist _ _).nodup (h1.nodup_iff.mpr h0.2.1)
  refine ⟨?_, ?_, fun x hx => ?_, sortS_srt _ hn⟩
  · rw [sortS_length, List.length_take]
    omega
  · rw [sortS_length, List.length_take]
    omega
  · have := List.mem_of_mem_take ((sortS_perm _).mem_iff.mp hx)
    exact h0.2.2 x (h1.mem_iff.mp this)
theorem labelsOf_costs : Costs 6 labelsOf := fun k d g => by
  unfold labelsOf
  have h0 := pools_ok _ (getD_mem (xs := pools) (pull_lt (m := 5) d (by decide)))
  have g1 : Good (k + 1 + 4) (pull 5 d).2 := pull_good g
  have g2 := shuffle_costs (pools.getD (pull 5 d).1 default) (k + 1) (pull 5 d).2 (by rw [h0.1]; exact g1)
  exact pull_good g2
/-! ### words -/
def wordOf (L : List Str) (least high : Nat) (d : Die) : List Str × Die :=
  mapS (fun _ d => pick L d) (List.range (least + (pull (high - least + 1) d).1)) (pull (high - least + 1) d).2
theorem wordOf_mem {L : List Str} (hL : 0 < L.length) (least high : Nat) (d : Die) : ∀ l ∈ (wordOf L least high d).1, l ∈ L :=
  mapS_all _ _ fun _ _ s => pick_mem hL s
theorem wordOf_len {L : List Str} (least high : Nat) (h : least ≤ high) (d : Die) : least ≤ (wordOf L least high d).1.length ∧ (wordOf L least high d).1.length ≤ high := by
  unfold wordOf
  rw [mapS_length, List.length_range]
  have := pull_lt (m := high - least + 1) d (by omega)
  omega
theorem wordOf_costs {L : List Str} (least high : Nat) (h : least ≤ high) : Costs (high + 1) (wordOf L least high) := fun k d g => by
  unfold wordOf
  have h1 := pull_lt (m := high - least + 1) d (by omega)
  have g1 : Good (k + high) (pull (high - least + 1) d).2 := pull_good g
  refine mapS_costs (n := 1) _ (fun _ _ => pick_costs _) k _ (g1.mono ?_)
  rw [List.length_range]
  omega
/-! ### colours -/
def pools4 : List (List Str) := [["no", "yes"], ["no", "yes", "maybe"], ["red", "redder", "blue"], ["a", "yes"]]
theorem pools4_ok : ∀ p ∈ pools4, 2 ≤ p.length ∧ p.length ≤ 3 ∧ ∀ s ∈ p, Lab s := by
  have h : (pools4.all fun p => decide (2 ≤ p.length) && decide (p.length ≤ 3) && p.all labCheck) = true := by decide +kernel
  intro p hp
  have := List.all_eq_true.mp h p hp
  rw [Bool.and_eq_true, Bool.and_eq_true] at this
  exact ⟨of_decide_eq_true this.1.1, of_decide_eq_true this.1.2, fun s hs => labCheck_lab (List.all_eq_true.mp this.2 s hs)⟩
def namesOf (many : Nat) (d : Die) : List Str × Die :=
  let p := pull 4 d
  let pool := pools4.getD p.1 default
  let m := mapS (fun (_ : Nat) d => pick pool d) (List.range many) p.2
  (m.1.dropLast ++ [pool.getD ((pool.idxOf (m.1.getD 0 default) + 1) % pool.length) default], m.2)
theorem namesOf_ok {many : Nat} (h : 1 ≤ many) (d : Die) : (namesOf many d).1.length = many ∧ ∀ c ∈ (namesOf many d).1, Lab c := by
  unfold namesOf
  have h0 := pools4_ok _ (getD_mem (xs := pools4) (pull_lt (m := 4) d (by decide)))
  simp only
  generalize pull 4 d = p at *
  generalize hpool : pools4.getD p.1 default = pool at *
  have hm : ∀ y ∈ (mapS (fun (_ : Nat) d => pick pool d) (List.range many) p.2).1, y ∈ pool := mapS_all _ _ fun _ _ s => pick_mem (by omega) s
  have hl : (mapS (fun (_ : Nat) d => pick pool d) (List.range many) p.2).1.length = many := by rw [mapS_length, List.length_range]
  generalize mapS (fun (_ : Nat) d => pick pool d) (List.range many) p.2 = m at *
  refine ⟨?_, fun c hc => ?_⟩
  · rw [List.length_append, List.length_dropLast, List.length_singleton]
    omega
  · rcases List.mem_append.mp hc with z | z
    · exact h0.2.2 c (hm c (List.dropLast_subset _ z))
    · rw [List.mem_singleton] at z
      subst z
      exact h0.2.2 _ (getD_mem (Nat.mod_lt _ (by omega)))
theorem namesOf_costs (many : Nat) : Costs (many + 1) (namesOf many) := fun k d g => by
  unfold namesOf
  have g1 : Good (k + many) (pull 4 d).2 := pull_good g
  refine mapS_costs (n := 1) _ (fun _ _ => pick_costs _) k _ (g1.mono ?_)
  rw [List.length_range]
  omega
end OX
set_option Elab.async false
set_option linter.all false
set_option maxHeartbeats 1000000
/-! M7: drawn queries. -/
namespace OX
open PySem L2
theorem eraseIdx_map' {α β : Type} (f : α → β) : ∀ (l : List α) (i : Nat), (l.map f).eraseIdx i = (l.eraseIdx i).map f
  | [], _ => rfl
  | _ :: _, 0 => rfl
  | x :: l, i + 1 => congrArg (f x :: ·) (eraseIdx_map' f l i)
theorem Costs.le {n m : Nat} {α : Type} {f : Die → α × Die} (h : Costs n f) (l : n ≤ m) : Costs m f := fun k d g => h k d (g.mono (by omega))
theorem Costs.bind {n m : Nat} {α β : Type} {f : Die → α × Die} {g : α → Die → β × Die} (h : Costs n f) (h2 : ∀ a, Costs m (g a)) : Costs (n + m) fun d => g (f d).1 (f d).2 := fun k d q => h2 _ k _ (h (k + m) d (q.mono (by omega)))
theorem Costs.map {n : Nat} {α β : Type} {f : Die → α × Die} {g : α → β} (h : Costs n f) : Costs n fun d => (g (f d).1, (f d).2) := fun k d q => h k d q
theorem Costs.pure {α : Type} {a : α} : Costs 0 fun d => (a, d) := fun k d q => q
theorem mapS_cost {α β : Type} {f : α → Die → β × Die} {n m : Nat} (xs : List α) (h : ∀ x ∈ xs, Costs n (f x)) (l : xs.length ≤ m) : Costs (n * m) (mapS f xs) := (mapS_costs xs h).le (Nat.mul_le_mul_left n l)
def pulls {α : Type} (m : Nat) (xs : List α) (d : Die) : List Nat × Die := mapS (fun _ d => pull m d) xs d
theorem pulls_len {α : Type} (m : Nat) (xs : List α) (d : Die) : (pulls m xs d).1.length = xs.length := mapS_length _ _ _
theorem pulls_lt {α : Type} {m : Nat} (h : 0 < m) (xs : List α) (d : Die) : ∀ y ∈ (pulls m xs d).1, y < m := mapS_all _ _ fun _ _ s => pull_lt s h
theorem pulls_row {α : Type} {m : Nat} (h : 0 < m) (xs : List α) (d : Die) : Row xs.length m (pulls m xs d).1 := ⟨pulls_len m xs d, pulls_lt h xs d⟩
theorem pulls_costs {α : Type} (m : Nat) (xs : List α) (h : xs.length ≤ 4) : Costs 4 (pulls m xs) := (mapS_cost (n := 1) xs (fun _ _ => pull_costs m) h).le (by omega)
structure QOk (L : List Str) (n : Nat) (q : Qu) : Prop where
  L : q.L = L
  ok : q.Ok
  n : q.rw.length ≤ n
theorem QOk.mk' {L : List Str} {n : Nat} (hL : Labs L) (hn : n ≤ 40) {ro : List Nat} {rw : List (List Nat)} {co : List Str} (h1 : 1 ≤ rw.length) (h2 : rw.length ≤ n) (h3 : Row L.length rw.length ro) (h4 : ∀ r ∈ rw, Row L.length rw.length r) (h5 : co.length = rw.length ∧ ∀ c ∈ co, Lab c) : QOk L n ⟨L, ro, rw, co⟩ :=
  ⟨rfl, ⟨hL, h1, Nat.le_trans h2 hn, h3, h4, h5.1, h5.2⟩, h2⟩
/-! ### any moves -/
def anyQ (L : List Str) (high : Nat) (d : Die) : Qu × Die :=
  let p := pull high d
  let rows := mapS (fun (_ : Nat) d => pulls (1 + p.1) L d) (List.range (1 + p.1)) p.2
  let ro := pulls (1 + p.1) L rows.2
  let co := namesOf (1 + p.1) ro.2
  (⟨L, ro.1, rows.1, co.1⟩, co.2)
theorem anyQ_ok {L : List Str} {high : Nat} (hL : Labs L) (h1 : 1 ≤ high) (h2 : high ≤ 40) (d : Die) : QOk L high (anyQ L high d).1 := by
  unfold anyQ
  have hp := pull_lt (m := high) d (by omega)
  simp only
  generalize pull high d = p at *
  have hr : ∀ y ∈ (mapS (fun (_ : Nat) d => pulls (1 + p.1) L d) (List.range (1 + p.1)) p.2).1, Row L.length (1 + p.1) y := mapS_all _ _ fun _ _ s => pulls_row (by omega) L s
  have hl : (mapS (fun (_ : Nat) d => pulls (1 + p.1) L d) (List.range (1 + p.1)) p.2).1.length = 1 + p.1 := by rw [mapS_length, List.length_range]
  generalize mapS (fun (_ : Nat) d => pulls (1 + p.1) L d) (List.range (1 + p.1)) p.2 = rows at *
  refine QOk.mk' hL h2 (by omega) (by omega) ?_ ?_ ?_
  · rw [hl]
    exact pulls_row (by omega) L _
  · rw [hl]
    exact hr
  · rw [hl]
    exact namesOf_ok (by omega) _
theorem anyQ_costs {L : List Str} {high : Nat} (hL : L.length ≤ 4) (h1 : 1 ≤ high) (h2 : high ≤ 6) : Costs 100 (anyQ L high) := fun k d g => by
  unfold anyQ
  have hp := pull_lt (m := high) d (by omega)
  have g1 : Good (k + 99) (pull high d).2 := pull_good g
  simp only
  generalize pull high d = p at *
  have g2 : Good (k + 75) (mapS (fun (_ : Nat) d => pulls (1 + p.1) L d) (List.range (1 + p.1)) p.2).2 := mapS_cost (n := 4) (m := 6) _ (fun _ _ => pulls_costs _ L hL) (by rw [List.length_range]; omega) _ _ (g1.mono (by omega))
  generalize mapS (fun (_ : Nat) d => pulls (1 + p.1) L d) (List.range (1 + p.1)) p.2 = rows at *
  have g3 : Good (k + 71) (pulls (1 + p.1) L rows.2).2 := pulls_costs _ L hL _ _ (g2.mono (by omega))
  exact namesOf_costs (1 + p.1) k _ (g3.mono (by omega))
/-! ### states in a row -/
def onOf (L : List Str) (d : Die) : List Bool × Die := mapS (fun _ d => (decide ((pull 3 d).1 = 0), (pull 3 d).2)) L d
def stepRow (L : List Str) (many s : Nat) (d : Die) : List Nat × Die :=
  let on := onOf L d
  let k := pull L.length on.2
  ((on.1.set k.1 true).map fun one => min (many - 1) (s + if one = true then 1 else 0), k.2)
def stepsQ (L : List Str) (high : Nat) (d : Die) : Qu × Die :=
  let p := pull (high - 1) d
  let rows := mapS (stepRow L (2 + p.1)) (List.range (2 + p.1)) p.2
  let co := namesOf (2 + p.1) rows.2
  (⟨L, rows.1.getD 0 default, rows.1, co.1⟩, co.2)
theorem onOf_len (L : List Str) (d : Die) : (onOf L d).1.length = L.length := mapS_length _ _ _
theorem onOf_costs {L : List Str} (hL : L.length ≤ 4) : Costs 4 (onOf L) := (mapS_cost (n := 1) (m := 4) L (fun _ _ => (pull_costs 3).map (g := fun n => decide (n = 0))) hL).le (by omega)
theorem stepRow_row {L : List Str} {many s : Nat} (h : 1 ≤ many) (d : Die) : Row L.length many (stepRow L many s d).1 := by
  unfold stepRow
  refine ⟨by rw [List.length_map, List.length_set, onOf_len], fun x hx => ?_⟩
  obtain ⟨b, _, rfl⟩ := List.mem_map.mp hx
  omega
theorem stepRow_costs {L : List Str} (hL : L.length ≤ 4) (many s : Nat) : Costs 5 (stepRow L many s) := fun k d g => by
  unfold stepRow
  have g2 : Good (k + 1) (onOf L d).2 := onOf_costs hL (k + 1) d (g.mono (by omega))
  exact pull_good g2
theorem stepsQ_ok {L : List Str} {high : Nat} (hL : Labs L) (h1 : 2 ≤ high) (h2 : high ≤ 40) (d : Die) : QOk L high (stepsQ L high d).1 := by
  unfold stepsQ
  have hp := pull_lt (m := high - 1) d (by omega)
  simp only
  generalize pull (high - 1) d = p at *
  have hr : ∀ y ∈ (mapS (stepRow L (2 + p.1)) (List.range (2 + p.1)) p.2).1, Row L.length (2 + p.1) y := mapS_all _ _ fun _ _ s => stepRow_row (by omega) s
  have hl : (mapS (stepRow L (2 + p.1)) (List.range (2 + p.1)) p.2).1.length = 2 + p.1 := by rw [mapS_length, List.length_range]
  generalize mapS (stepRow L (2 + p.1)) (List.range (2 + p.1)) p.2 = rows at *
  refine QOk.mk' hL h2 (by omega) (by omega) ?_ ?_ ?_
  · rw [hl]
    exact hr _ (getD_mem (by omega))
  · rw [hl]
    exact hr
  · rw [hl]
    exact namesOf_ok (by omega) _
theorem stepsQ_costs {L : List Str} {high : Nat} (hL : L.length ≤ 4) (h1 : 2 ≤ high) (h2 : high ≤ 6) : Costs 100 (stepsQ L high) := fun k d g => by
  unfold stepsQ
  have hp := pull_lt (m := high - 1) d (by omega)
  have g1 : Good (k + 99) (pull (high - 1) d).2 := pull_good g
  simp only
  generalize pull (high - 1) d = p at *
  have g2 : Good (k + 64) (mapS (stepRow L (2 + p.1)) (List.range (2 + p.1)) p.2).2 := mapS_cost (n := 5) (m := 7) _ (fun _ _ => stepRow_costs hL _ _) (by rw [List.length_range]; omega) _ _ (g1.mono (by omega))
  exact namesOf_costs (2 + p.1) k _ (g2.mono (by omega))
/-! ### rings -/
def ringRow (L : List Str) (many first size : Nat) (turns : List Nat) (spot : Nat) (d : Die) : List Nat × Die :=
  let row := turns.map fun t => first + (spot + t) % size
  if first + size < many then
    let c := pull 2 d
    if c.1 = 0 then
      let v := pull (many - first - size) c.2
      let k := pull L.length v.2
      (row.set k.1 (first + size + v.1), k.2)
    else (row, c.2)
  else (row, d)
def ring (L : List Str) (sizes : List Nat) (sl : Nat × Nat) (d : Die) : List (List Nat) × Die :=
  let turns := pulls sl.1 L d
  mapS (ringRow L sizes.sum (sizes.take sl.2).sum sl.1 turns.1) (List.range sl.1) turns.2
def sizesOf (n : Nat) (d : Die) : List Nat × Die := mapS (fun (_ : Nat) d => (1 + (pull 2 d).1, (pull 2 d).2)) (List.range n) d
def layersQ (L : List Str) (high : Nat) (d : Die) : Qu × Die :=
  let p := pull (max 1 (high / 2)) d
  let sizes := sizesOf (1 + p.1) p.2
  let rows := mapS (ring L sizes.1) sizes.1.zipIdx sizes.2
  let co := namesOf rows.1.flatten.length rows.2
  (⟨L, rows.1.flatten.getD 0 default, rows.1.flatten, co.1⟩, co.2)
theorem ringRow_row {L : List Str} {many first size spot : Nat} {turns : List Nat} (h : first + size ≤ many) (hs : 0 < size) (ht : turns.length = L.length) (d : Die) : Row L.length many (ringRow L many first size turns spot d).1 := by
  unfold ringRow
  have h0 : Row L.length many (turns.map fun t => first + (spot + t) % size) := by
    refine ⟨by rw [List.length_map, ht], fun x hx => ?_⟩
    obtain ⟨t, _, rfl⟩ := List.mem_map.mp hx
    have := Nat.mod_lt (spot + t) hs
    omega
  generalize (turns.map fun t => first + (spot + t) % size) = row at *
  simp only
  split
  · rename_i hlt
    split
    · refine ⟨by rw [List.length_set]; exact h0.1, fun x hx => ?_⟩
      rcases List.mem_or_eq_of_mem_set hx with z | z
      · exact h0.2 x z
      · subst z
        have := pull_lt (m := many - first - size) (pull 2 d).2 (by omega)
        omega
    · exact h0
  · exact h0
theorem ringRow_costs {L : List Str} {many first size spot : Nat} {turns : List Nat} : Costs 3 (ringRow L many first size turns spot) := fun k d g => by
  unfold ringRow
  simp only
  split
  · split
    · exact pull_good (k := k) (pull_good (k := k + 1) (pull_good (k := k + 2) g))
    · exact (pull_good (k := k + 2) g).mono (by omega)
  · exact g.mono (by omega)
theorem take_sum_le : ∀ (l : List Nat) (i : Nat) (x : Nat), l[i]? = some x → (l.take i).sum + x ≤ l.sum
  | [], i, x, h => by simp at h
  | y :: l, 0, x, h => by
    simp at h
    subst h
    simp
  | y :: l, i + 1, x, h => by
    have := take_sum_le l i x (by simpa using h)
    simp only [List.take_succ_cons, List.sum_cons]
    omega
theorem sizesOf_ok (n : Nat) (d : Die) : (sizesOf n d).1.length = n ∧ ∀ x ∈ (sizesOf n d).1, 1 ≤ x ∧ x ≤ 2 := by
  refine ⟨by unfold sizesOf; rw [mapS_length, List.length_range], mapS_all _ _ fun _ _ s => ?_⟩
  have := pull_lt (m := 2) s (by decide)
  exact ⟨by omega, by show 1 + (pull 2 s).1 ≤ 2; omega⟩
theorem sizesOf_costs {n : Nat} (h : n ≤ 4) : Costs 4 (sizesOf n) := (mapS_cost (n := 1) (m := 4) _ (fun _ _ => (pull_costs 2).map (g := fun n => 1 + n)) (by rw [List.length_range]; exact h)).le (by omega)
theorem sum_bounds : ∀ l : List Nat, (∀ x ∈ l, 1 ≤ x ∧ x ≤ 2) → l.length ≤ l.sum ∧ l.sum ≤ 2 * l.length
  | [], _ => by simp
  | x :: l, h => by
    have h1 := sum_bounds l fun y hy => h y (List.mem_cons_of_mem _ hy)
    have h2 := h x List.mem_cons_self
    rw [List.sum_cons, List.length_cons]
    omega
theorem ring_len {L : List Str} {sizes : List Nat} {sl : Nat × Nat} (d : Die) : (ring L sizes sl d).1.length = sl.1 := by
  unfold ring
  rw [mapS_length, List.length_range]
theorem ring_rows {L : List Str} {sizes : List Nat} {sl : Nat × Nat} (h : sizes[sl.2]? = some sl.1) (h1 : 1 ≤ sl.1) (d : Die) : ∀ r ∈ (ring L sizes sl d).1, Row L.length sizes.sum r :=
  mapS_all _ _ fun _ _ s => ringRow_row (take_sum_le sizes sl.2 sl.1 h) h1 (pulls_len _ _ _) s
theorem mapS_flat_len {L : List Str} {sizes : List Nat} : ∀ (l : List (Nat × Nat)) (d : Die), (mapS (ring L sizes) l d).1.flatten.length = (l.map (·.1)).sum
  | [], d => rfl
  | x :: l, d => by
    rw [mapS, List.flatten_cons, List.length_append, ring_len, mapS_flat_len l, List.map_cons, List.sum_cons]
theorem zipIdx_get_mem {α : Type} {l : List α} {p : α × Nat} (h : p ∈ l.zipIdx) : l[p.2]? = some p.1 := by
  have := List.mem_zipIdx_iff_getElem?.mp h
  exact this
theorem layers_flat {L : List Str} {n : Nat} (hn : 1 ≤ n) (d d' : Die) : let sizes := (sizesOf n d).1; let rows := (mapS (ring L sizes) sizes.zipIdx d').1.flatten
    rows.length = sizes.sum ∧ ∀ r ∈ rows, Row L.length sizes.sum r := by
  have hs := sizesOf_ok n d
  generalize (sizesOf n d).1 = sizes at *
  refine ⟨?_, fun r hr => ?_⟩
  · rw [mapS_flat_len, List.zipIdx_map_fst]
  · obtain ⟨rs, h1, h2⟩ := List.mem_flatten.mp hr
    have := mapS_all (P := fun rs => ∀ r ∈ rs, Row L.length sizes.sum r) (f := ring L sizes) sizes.zipIdx d' (fun x hx s => ring_rows (zipIdx_get_mem hx) (hs.2 _ (List.mem_of_getElem? (zipIdx_get_mem hx))).1 s) rs h1
    exact this r h2
theorem layersQ_ok {L : List Str} {high : Nat} (hL : Labs L) (h1 : 2 ≤ high) (h2 : high ≤ 40) (d : Die) : QOk L high (layersQ L high d).1 := by
  unfold layersQ
  have hp := pull_lt (m := max 1 (high / 2)) d (by omega)
  simp only
  generalize pull (max 1 (high / 2)) d = p at *
  have hs := sizesOf_ok (1 + p.1) p.2
  have hf := layers_flat (L := L) (n := 1 + p.1) (by omega) p.2 (sizesOf (1 + p.1) p.2).2
  simp only at hf
  have hsum := sum_bounds _ hs.2
  rw [hs.1] at hsum
  generalize (mapS (ring L (sizesOf (1 + p.1) p.2).1) (sizesOf (1 + p.1) p.2).1.zipIdx (sizesOf (1 + p.1) p.2).2) = rows at *
  generalize (sizesOf (1 + p.1) p.2).1.sum = S at *
  obtain ⟨f1, f2⟩ := hf
  refine QOk.mk' hL h2 (by omega) (by omega) ?_ ?_ ?_
  · rw [f1]
    exact f2 _ (getD_mem (by omega))
  · rw [f1]
    exact f2
  · exact namesOf_ok (by omega) _
theorem layersQ_costs {L : List Str} {high : Nat} (hL : L.length ≤ 4) (h1 : 2 ≤ high) (h2 : high ≤ 6) : Costs 100 (layersQ L high) := fun k d g => by
  unfold layersQ
  have hp := pull_lt (m := max 1 (high / 2)) d (by omega)
  have g1 : Good (k + 99) (pull (max 1 (high / 2)) d).2 := pull_good g
  simp only
  generalize pull (max 1 (high / 2)) d = p at *
  have hs := sizesOf_ok (1 + p.1) p.2
  have hf := layers_flat (L := L) (n := 1 + p.1) (by omega) p.2 (sizesOf (1 + p.1) p.2).2
  simp only at hf
  have hsum := sum_bounds _ hs.2
  rw [hs.1] at hsum
  have g2 : Good (k + 95) (sizesOf (1 + p.1) p.2).2 := sizesOf_costs (by omega) (k + 95) p.2 (g1.mono (by omega))
  generalize sizesOf (1 + p.1) p.2 = sizes at *
  have hr : ∀ x ∈ sizes.1.zipIdx, Costs 10 (ring L sizes.1 x) := fun x hx k d g => by
    unfold ring
    have hx2 := (hs.2 _ (List.mem_of_getElem? (zipIdx_get_mem hx))).2
    have g3 : Good (k + 6) (pulls x.1 L d).2 := pulls_costs _ L hL _ _ (g.mono (by omega))
    exact mapS_cost (n := 3) (m := 2) _ (fun _ _ => ringRow_costs) (by rw [List.length_range]; omega) _ _ (g3.mono (by omega))
  have g4 : Good (k + 65) (mapS (ring L sizes.1) sizes.1.zipIdx sizes.2).2 := mapS_cost (n := 10) (m := 3) _ hr (by rw [List.length_zipIdx]; omega) _ _ (g2.mono (by omega))
  exact namesOf_costs _ k _ (g4.mono (by omega))
/-! ### depths -/
def depthQ (L : List Str) (high : Nat) (d : Die) : Qu × Die :=
  let p := pull (high - 1) d
  let co := namesOf (2 + p.1) p.2
  (⟨L, L.map fun _ => 0, (List.range (2 + p.1)).map fun s => L.map fun _ => min (2 + p.1 - 1) (s + 1), co.1⟩, co.2)
theorem depthQ_ok {L : List Str} {high : Nat} (hL : Labs L) (h1 : 2 ≤ high) (h2 : high ≤ 40) (d : Die) : QOk L high (depthQ L high d).1 := by
  unfold depthQ
  have hp := pull_lt (m := high - 1) d (by omega)
  simp only
  generalize pull (high - 1) d = p at *
  have hl : ((List.range (2 + p.1)).map fun s => L.map fun _ => min (2 + p.1 - 1) (s + 1)).length = 2 + p.1 := by rw [List.length_map, List.length_range]
  refine QOk.mk' hL h2 (by omega) (by omega) ?_ ?_ ?_
  · rw [hl]
    refine ⟨by rw [List.length_map], fun x hx => ?_⟩
    obtain ⟨_, _, rfl⟩ := List.mem_map.mp hx
    omega
  · rw [hl]
    intro r hr
    obtain ⟨s, _, rfl⟩ := List.mem_map.mp hr
    refine ⟨by rw [List.length_map], fun x hx => ?_⟩
    obtain ⟨_, _, rfl⟩ := List.mem_map.mp hx
    omega
  · rw [hl]
    exact namesOf_ok (by omega) _
theorem depthQ_costs {L : List Str} {high : Nat} (h1 : 2 ≤ high) (h2 : high ≤ 6) : Costs 100 (depthQ L high) := fun k d g => by
  unfold depthQ
  have hp := pull_lt (m := high - 1) d (by omega)
  have g1 : Good (k + 99) (pull (high - 1) d).2 := pull_good g
  exact namesOf_costs _ k _ (g1.mono (by omega))
/-! ### the last labels -/
def lastA (L : List Str) (d : Die) : Qu × Die :=
  let co := namesOf L.length d
  (⟨L, List.range L.length, (List.range L.length).map fun _ => List.range L.length, co.1⟩, co.2)
def lastB (L : List Str) (d : Die) : Qu × Die :=
  let co := namesOf 4 d
  (⟨L, [0, 3], [[0, 1], [2, 3], [0, 1], [2, 3]], co.1⟩, co.2)
def lastQ (L : List Str) (high : Nat) (d : Die) : Qu × Die :=
  if L.length ≠ 2 ∨ high < 4 then lastA L d else if (pull 2 d).1 = 0 then lastA L (pull 2 d).2 else lastB L (pull 2 d).2
theorem lastA_ok {L : List Str} {high : Nat} (hL : Labs L) (h1 : L.length ≤ high) (h2 : high ≤ 40) (d : Die) : QOk L high (lastA L d).1 := by
  unfold lastA
  have hl : ((List.range L.length).map fun _ => List.range L.length).length = L.length := by rw [List.length_map, List.length_range]
  have hr : Row L.length L.length (List.range L.length) := ⟨List.length_range, fun x hx => List.mem_range.mp hx⟩
  have := hL.1
  refine QOk.mk' hL h2 (by omega) (by omega) ?_ ?_ ?_
  · rw [hl]
    exact hr
  · rw [hl]
    intro r hr2
    obtain ⟨s, _, rfl⟩ := List.mem_map.mp hr2
    exact hr
  · rw [hl]
    exact namesOf_ok (by omega) _
theorem lastQ_ok {L : List Str} {high : Nat} (hL : Labs L) (h1 : 4 ≤ high) (h2 : high ≤ 40) (d : Die) : QOk L high (lastQ L high d).1 := by
  unfold lastQ
  have := hL.2.1
  split
  · exact lastA_ok hL (by omega) h2 d
  · rename_i hn
    split
    · exact lastA_ok hL (by omega) h2 _
    · unfold lastB
      have hl : L.length = 2 := Classical.byContradiction fun z => hn (.inl z)
      refine QOk.mk' hL h2 (by simp) (by simpa using h1) ?_ ?_ ?_
      · rw [hl]
        exact ⟨rfl, by decide⟩
      · rw [hl]
        unfold Row
        decide
      · exact namesOf_ok (by omega) _
theorem lastQ_costs {L : List Str} {high : Nat} (hL : L.length ≤ 4) : Costs 100 (lastQ L high) := fun k d g => by
  unfold lastQ
  have g1 : Good (k + 99) (pull 2 d).2 := pull_good g
  split
  · exact namesOf_costs _ k _ (g.mono (by omega))
  · split
    · exact namesOf_costs _ k _ (g1.mono (by omega))
    · exact namesOf_costs _ k _ (g1.mono (by omega))
/-! ### counts -/
def countsQ (L : List Str) (high : Nat) (d : Die) : Qu × Die :=
  let p := pull high d
  let more := pulls (1 + p.1) L p.2
  let co := namesOf (1 + p.1) more.2
  (⟨L, more.1.map fun t => t % (1 + p.1), (List.range (1 + p.1)).map fun s => more.1.map fun t => (s + t) % (1 + p.1), co.1⟩, co.2)
theorem countsQ_ok {L : List Str} {high : Nat} (hL : Labs L) (h1 : 1 ≤ high) (h2 : high ≤ 40) (d : Die) : QOk L high (countsQ L high d).1 := by
  unfold countsQ
  have hp := pull_lt (m := high) d (by omega)
  simp only
  generalize pull high d = p at *
  have hm := pulls_len (1 + p.1) L p.2
  generalize pulls (1 + p.1) L p.2 = more at *
  have hl : ((List.range (1 + p.1)).map fun s => more.1.map fun t => (s + t) % (1 + p.1)).length = 1 + p.1 := by rw [List.length_map, List.length_range]
  refine QOk.mk' hL h2 (by omega) (by omega) ?_ ?_ ?_
  · rw [hl]
    refine ⟨by rw [List.length_map, hm], fun x hx => ?_⟩
    obtain ⟨t, _, rfl⟩ := List.mem_map.mp hx
    exact Nat.mod_lt _ (by omega)
  · rw [hl]
    intro r hr
    obtain ⟨s, _, rfl⟩ := List.mem_map.mp hr
    refine ⟨by rw [List.length_map, hm], fun x hx => ?_⟩
    obtain ⟨t, _, rfl⟩ := List.mem_map.mp hx
    exact Nat.mod_lt _ (by omega)
  · rw [hl]
    exact namesOf_ok (by omega) _
theorem countsQ_costs {L : List Str} {high : Nat} (hL : L.length ≤ 4) (h1 : 1 ≤ high) (h2 : high ≤ 6) : Costs 100 (countsQ L high) := fun k d g => by
  unfold countsQ
  have hp := pull_lt (m := high) d (by omega)
  have g1 : Good (k + 99) (pull high d).2 := pull_good g
  simp only
  generalize pull high d = p at *
  have g2 : Good (k + 95) (pulls (1 + p.1) L p.2).2 := pulls_costs _ L hL _ _ (g1.mono (by omega))
  exact namesOf_costs _ k _ (g2.mono (by omega))
/-! ### two queries beside each other -/
def bothRow (wide : Nat) (a b : List Nat) : List Nat := (a.zip b).map fun p => p.1 * wide + p.2
def bothRows (a b : Qu) : List (List Nat) := a.rw.flatMap fun r => b.rw.map fun o => bothRow b.rw.length r o
def bothQ (a b : Qu) (d : Die) : Qu × Die :=
  let co := namesOf (bothRows a b).length d
  (⟨a.L, bothRow b.rw.length a.ro b.ro, bothRows a b, co.1⟩, co.2)
theorem bothRow_row {k n m : Nat} {a b : List Nat} (ha : Row k n a) (hb : Row k m b) : Row k (n * m) (bothRow m a b) := by
  unfold bothRow
  refine ⟨by rw [List.length_map, List.length_zip, ha.1, hb.1]; omega, fun x hx => ?_⟩
  obtain ⟨p, hp, rfl⟩ := List.mem_map.mp hx
  have h1 := ha.2 _ (List.of_mem_zip hp).1
  have h2 := hb.2 _ (List.of_mem_zip hp).2
  calc p.1 * m + p.2 < p.1 * m + m := by omega
    _ = (p.1 + 1) * m := by rw [Nat.succ_mul]
    _ ≤ n * m := Nat.mul_le_mul_right m h1
theorem bothRows_len (a b : Qu) : (bothRows a b).length = a.rw.length * b.rw.length := by
  unfold bothRows
  rw [List.length_flatMap]
  simp only [List.length_map]
  induction a.rw with
  | nil => simp
  | cons r rs ih => rw [List.map_cons, List.sum_cons, ih, List.length_cons, Nat.succ_mul]; omega
theorem bothQ_ok {a b : Qu} (ha : a.Ok) (hb : b.Ok) (hL : b.L = a.L) (h : a.rw.length * b.rw.length ≤ 40) (d : Die) : QOk a.L (a.rw.length * b.rw.length) (bothQ a b d).1 := by
  unfold bothQ
  have h1 : 1 ≤ a.rw.length * b.rw.length := Nat.mul_le_mul ha.n1 hb.n1
  have hro := hb.ro
  have hrw := hb.rw
  rw [hL] at hro hrw
  refine QOk.mk' ha.labs h (by rw [bothRows_len]; exact h1) (by rw [bothRows_len]; exact Nat.le_refl _) ?_ ?_ ?_
  · rw [bothRows_len]
    exact bothRow_row ha.ro hro
  · rw [bothRows_len]
    intro r hr
    obtain ⟨x, hx, hr⟩ := List.mem_flatMap.mp hr
    obtain ⟨y, hy, rfl⟩ := List.mem_map.mp hr
    exact bothRow_row (ha.rw x hx) (hrw y hy)
  · exact namesOf_ok (by rw [bothRows_len]; exact h1) _
theorem bothQ_costs {a b : Qu} (h : a.rw.length * b.rw.length ≤ 40) : Costs 50 (bothQ a b) := fun k d g => by
  unfold bothQ
  exact namesOf_costs _ k _ (g.mono (by rw [bothRows_len]; omega))
/-! ### other numbers -/
def renum (q : Qu) (order : List Nat) : Qu := ⟨q.L, q.ro.map order.idxOf, order.map fun s => (q.rw.getD s default).map order.idxOf, order.map fun s => q.co.getD s default⟩
def renumQ (q : Qu) (d : Die) : Qu × Die :=
  let order := shuffle (List.range q.rw.length) d
  (renum q order.1, order.2)
theorem renum_ok {q : Qu} (ok : q.Ok) {order : List Nat} (h : order.Perm (List.range q.rw.length)) : QOk q.L q.rw.length (renum q order) := by
  have hl : order.length = q.rw.length := by rw [h.length_eq, List.length_range]
  have hm : ∀ s, s < q.rw.length ↔ s ∈ order := fun s => by rw [h.mem_iff, List.mem_range]
  have hi : ∀ s, s < q.rw.length → order.idxOf s < q.rw.length := fun s hs => by rw [← hl]; exact List.idxOf_lt_length_of_mem ((hm s).mp hs)
  unfold renum
  refine QOk.mk' ok.labs ok.n2 (by rw [List.length_map, hl]; exact ok.n1) (by rw [List.length_map, hl]; exact Nat.le_refl _) ?_ ?_ ?_
  · rw [List.length_map, hl]
    refine ⟨by rw [List.length_map]; exact ok.ro.1, fun x hx => ?_⟩
    obtain ⟨t, ht, rfl⟩ := List.mem_map.mp hx
    exact hi t (ok.ro.2 t ht)
  · rw [List.length_map, hl]
    intro r hr
    obtain ⟨s, hs, rfl⟩ := List.mem_map.mp hr
    have hrow := ok.row ((hm s).mpr hs)
    refine ⟨by rw [List.length_map]; exact hrow.1, fun x hx => ?_⟩
    obtain ⟨t, ht, rfl⟩ := List.mem_map.mp hx
    exact hi t (hrow.2 t ht)
  · rw [List.length_map, List.length_map]
    refine ⟨rfl, fun c hc => ?_⟩
    obtain ⟨s, hs, rfl⟩ := List.mem_map.mp hc
    exact ok.co _ (getD_mem (by rw [ok.cn]; exact (hm s).mpr hs))
theorem renumQ_ok {q : Qu} (ok : q.Ok) (d : Die) : QOk q.L q.rw.length (renumQ q d).1 := renum_ok ok (shuffle_perm _ _)
theorem renumQ_costs {q : Qu} (ok : q.Ok) : Costs 40 (renumQ q) := fun k d g => by
  unfold renumQ
  exact shuffle_costs _ k d (g.mono (by rw [List.length_range]; have := ok.n2; omega))
/-! ### any query -/
def mixQ (L : List Str) (high : Nat) (d : Die) : Qu × Die :=
  let first := stepsQ L 2 d
  let o1 := countsQ L (high / 2) first.2
  let o2 := stepsQ L (high / 2) o1.2
  let k := pull 2 o2.2
  let both := bothQ first.1 ([o1.1, o2.1].getD k.1 o1.1) k.2
  renumQ both.1 both.2
def queryOf (L : List Str) (high : Nat) (d : Die) : Qu × Die :=
  let way := pull 10 d
  if way.1 < 2 then anyQ L high way.2 else
  if way.1 < 4 then stepsQ L high way.2 else
  if way.1 < 6 then layersQ L high way.2 else
  if way.1 = 6 then depthQ L high way.2 else
  if way.1 = 7 then lastQ L high way.2 else
  if way.1 = 8 then countsQ L high way.2 else mixQ L high way.2
theorem getD2 {a b c : Qu} {n : Nat} (h : n < 2) : [a, b].getD n c = a ∨ [a, b].getD n c = b := by
  have : n = 0 ∨ n = 1 := by omega
  rcases this with rfl | rfl
  · exact .inl rfl
  · exact .inr rfl
theorem mix_parts {L : List Str} {high : Nat} (hL : Labs L) (h1 : 4 ≤ high) (h2 : high ≤ 40) (d : Die) :
    let first := stepsQ L 2 d
    let o1 := countsQ L (high / 2) first.2
    let o2 := stepsQ L (high / 2) o1.2
    let k := pull 2 o2.2
    QOk L 2 first.1 ∧ QOk L (high / 2) ([o1.1, o2.1].getD k.1 o1.1) ∧ first.1.rw.length * ([o1.1, o2.1].getD k.1 o1.1).rw.length ≤ high := by
  intro first o1 o2 k
  have q1 : QOk L 2 first.1 := stepsQ_ok hL (by omega) (by omega) d
  have q2 : QOk L (high / 2) ([o1.1, o2.1].getD k.1 o1.1) := by
    rcases getD2 (a := o1.1) (b := o2.1) (c := o1.1) (pull_lt (m := 2) o2.2 (by decide)) with z | z
    · rw [z]
      exact countsQ_ok hL (by omega) (by omega) _
    · rw [z]
      exact stepsQ_ok hL (by omega) (by omega) _
  refine ⟨q1, q2, ?_⟩
  calc first.1.rw.length * ([o1.1, o2.1].getD k.1 o1.1).rw.length ≤ 2 * (high / 2) := Nat.mul_le_mul q1.n q2.n
    _ ≤ high := by omega
theorem queryOf_ok {L : List Str} {high : Nat} (hL : Labs L) (h1 : 4 ≤ high) (h2 : high ≤ 40) (d : Die) : QOk L high (queryOf L high d).1 := by
  unfold queryOf
  simp only
  split
  · exact anyQ_ok hL (by omega) h2 _
  split
  · exact stepsQ_ok hL (by omega) h2 _
  split
  · exact layersQ_ok hL (by omega) h2 _
  split
  · exact depthQ_ok hL (by omega) h2 _
  split
  · exact lastQ_ok hL h1 h2 _
  split
  · exact countsQ_ok hL (by omega) h2 _
  · unfold mixQ
    obtain ⟨q1, q2, q3⟩ := mix_parts hL h1 h2 (pull 10 d).2
    simp only
    generalize stepsQ L 2 (pull 10 d).2 = first at *
    generalize countsQ L (high / 2) first.2 = o1 at *
    generalize stepsQ L (high / 2) o1.2 = o2 at *
    generalize pull 2 o2.2 = k at *
    generalize [o1.1, o2.1].getD k.1 o1.1 = other at *
    have hb := bothQ_ok q1.ok q2.ok (by rw [q1.L, q2.L]) (by omega) k.2
    have hr := renumQ_ok hb.ok (bothQ first.1 other k.2).2
    exact ⟨by rw [hr.L, hb.L, q1.L], hr.ok, by have := hr.n; have := hb.n; omega⟩
theorem queryOf_costs {L : List Str} {high : Nat} (hL : Labs L) (h1 : 4 ≤ high) (h2 : high ≤ 6) : Costs 500 (queryOf L high) := fun k d g => by
  have hl := hL.2.1
  have g1 : Good (k + 499) (pull 10 d).2 := pull_good g
  unfold queryOf
  simp only
  split
  · exact anyQ_costs hl (by omega) h2 k _ (g1.mono (by omega))
  split
  · exact stepsQ_costs hl (by omega) h2 k _ (g1.mono (by omega))
  split
  · exact layersQ_costs hl (by omega) h2 k _ (g1.mono (by omega))
  split
  · exact depthQ_costs (by omega) h2 k _ (g1.mono (by omega))
  split
  · exact lastQ_costs hl k _ (g1.mono (by omega))
  split
  · exact countsQ_costs hl (by omega) h2 k _ (g1.mono (by omega))
  · unfold mixQ
    obtain ⟨q1, q2, q3⟩ := mix_parts hL h1 (by omega) (pull 10 d).2
    have g2 : Good (k + 399) (stepsQ L 2 (pull 10 d).2).2 := stepsQ_costs hl (by omega) (by omega) _ _ (g1.mono (by omega))
    simp only
    generalize stepsQ L 2 (pull 10 d).2 = first at *
    have g3 : Good (k + 299) (countsQ L (high / 2) first.2).2 := countsQ_costs hl (by omega) (by omega) _ _ (g2.mono (by omega))
    generalize countsQ L (high / 2) first.2 = o1 at *
    have g4 : Good (k + 199) (stepsQ L (high / 2) o1.2).2 := stepsQ_costs hl (by omega) (by omega) _ _ (g3.mono (by omega))
    generalize stepsQ L (high / 2) o1.2 = o2 at *
    have g5 : Good (k + 198) (pull 2 o2.2).2 := pull_good g4
    generalize pull 2 o2.2 = kk at *
    generalize [o1.1, o2.1].getD kk.1 o1.1 = other at *
    have hb := bothQ_ok q1.ok q2.ok (by rw [q1.L, q2.L]) (by omega) kk.2
    have g6 : Good (k + 148) (bothQ first.1 other kk.2).2 := bothQ_costs (by omega) _ _ (g5.mono (by omega))
    exact renumQ_costs hb.ok k _ (g6.mono (by omega))
end OX
set_option Elab.async false
set_option linter.all false
set_option maxHeartbeats 1000000
/-! M8: the law's own least query. -/
namespace OX
open PySem L2
def kinds0 (q : Qu) : List Nat := q.co.map fun c => q.co.idxOf c
abbrev pinD : Nat × List Nat → D := fun p => .tuple [nD p.1, tN p.2]
def pinsOf (rows : List (List Nat)) (ks : List Nat) : List (Nat × List Nat) := rows.zipIdx.map fun x => (ks.getD x.2 default, x.1.map fun l => ks.getD l default)
def kstep (rows : List (List Nat)) (ks : List Nat) : List Nat := (pinsOf rows ks).map fun m => @List.idxOf _ instBEqOfDecidableEq m (pinsOf rows ks)
def iterK (rows : List (List Nat)) (ks : List Nat) : Nat → List Nat
  | 0 => ks
  | n + 1 => kstep rows (iterK rows ks n)
def kindsL (q : Qu) : List Nat := iterK q.rw (kinds0 q) q.co.length
theorem pinsOf_len (rows : List (List Nat)) (ks : List Nat) : (pinsOf rows ks).length = rows.length := by simp [pinsOf]
theorem kstep_len (rows : List (List Nat)) (ks : List Nat) : (kstep rows ks).length = rows.length := by simp [kstep, pinsOf]
theorem iterK_len {rows : List (List Nat)} {ks : List Nat} (h : ks.length = rows.length) : ∀ n, (iterK rows ks n).length = rows.length
  | 0 => h
  | n + 1 => kstep_len _ _
theorem kstep_lt (rows : List (List Nat)) (ks : List Nat) : ∀ x ∈ kstep rows ks, x < rows.length := fun x hx => by
  obtain ⟨m, hm, rfl⟩ := List.mem_map.mp hx
  rw [← pinsOf_len rows ks]
  exact @List.idxOf_lt_length_of_mem _ _ instBEqOfDecidableEq inferInstance _ hm
theorem iterK_lt {rows : List (List Nat)} {ks : List Nat} (h : ∀ x ∈ ks, x < rows.length) : ∀ n, ∀ x ∈ iterK rows ks n, x < rows.length
  | 0 => h
  | n + 1 => kstep_lt _ _
theorem kinds0_ok {q : Qu} (ok : q.Ok) : (kinds0 q).length = q.rw.length ∧ ∀ x ∈ kinds0 q, x < q.rw.length := by
  refine ⟨by unfold kinds0; rw [List.length_map, ok.cn], fun x hx => ?_⟩
  obtain ⟨c, hc, rfl⟩ := List.mem_map.mp hx
  rw [← ok.cn]
  exact List.idxOf_lt_length_of_mem hc
theorem kindsL_ok {q : Qu} (ok : q.Ok) : (kindsL q).length = q.rw.length ∧ ∀ x ∈ kindsL q, x < q.rw.length := ⟨iterK_len (kinds0_ok ok).1 _, iterK_lt (kinds0_ok ok).2 _⟩
/-! ### states met one after another -/
def nexts (rows : List (List Nat)) (ks : List Nat) (s : Nat) : List Nat := (rows.getD s default).map fun l => ks.getD l default
def bfsL (rows : List (List Nat)) (ks : List Nat) : Nat → List Nat → List Nat → List Nat
  | 0, _, f => f
  | _ + 1, [], f => f
  | n + 1, s :: w, f => if s ∈ f then bfsL rows ks n w f else bfsL rows ks n (w ++ nexts rows ks s) (f ++ [s])
theorem bfsL_in {rows : List (List Nat)} {ks : List Nat} {n s : Nat} {w f : List Nat} (h : s ∈ f) : bfsL rows ks (n + 1) (s :: w) f = bfsL rows ks n w f := by rw [bfsL, if_pos h]
theorem bfsL_out {rows : List (List Nat)} {ks : List Nat} {n s : Nat} {w f : List Nat} (h : s ∉ f) : bfsL rows ks (n + 1) (s :: w) f = bfsL rows ks n (w ++ nexts rows ks s) (f ++ [s]) := by rw [bfsL, if_neg h]
def orderL (q : Qu) (ks : List Nat) : List Nat := bfsL q.rw ks (4 + 4 * q.rw.length) (q.ro.map fun s => ks.getD s default) []
def leastL (q : Qu) : Qu := q.lq (kindsL q) (orderL q (kindsL q))
structure BfOk (q : Qu) (ks : List Nat) (n : Nat) (w f : List Nat) : Prop where
  fuel : w.length + 4 * (q.rw.length - f.length) ≤ n
  wl : ∀ s ∈ w, s < q.rw.length
  fl : ∀ s ∈ f, s < q.rw.length
  nd : f.Nodup
theorem nexts_ok {q : Qu} (ok : q.Ok) {ks : List Nat} (hl : ks.length = q.rw.length) (hk : ∀ x ∈ ks, x < q.rw.length) {s : Nat} (hs : s < q.rw.length) : (nexts q.rw ks s).length ≤ 4 ∧ ∀ x ∈ nexts q.rw ks s, x < q.rw.length := by
  unfold nexts
  have hr := ok.row hs
  refine ⟨by rw [List.length_map, hr.1]; exact ok.labs.2.1, fun x hx => ?_⟩
  obtain ⟨l, hl2, rfl⟩ := List.mem_map.mp hx
  exact hk _ (getD_mem (by rw [hl]; exact hr.2 l hl2))
theorem BfOk.found_le {q : Qu} {ks : List Nat} {n : Nat} {w f : List Nat} (h : BfOk q ks n w f) : f.length ≤ q.rw.length := nodup_len _ f h.nd h.fl
theorem BfOk.skip {q : Qu} {ks : List Nat} {n s : Nat} {w f : List Nat} (h : BfOk q ks (n + 1) (s :: w) f) : BfOk q ks n w f := ⟨by have := h.fuel; rw [List.length_cons] at this; omega, fun x hx => h.wl x (List.mem_cons_of_mem _ hx), h.fl, h.nd⟩
theorem BfOk.take {q : Qu} (ok : q.Ok) {ks : List Nat} (hl : ks.length = q.rw.length) (hk : ∀ x ∈ ks, x < q.rw.length) {n s : Nat} {w f : List Nat} (h : BfOk q ks (n + 1) (s :: w) f) (hs : s ∉ f) : BfOk q ks n (w ++ nexts q.rw ks s) (f ++ [s]) := by
  have hsl := h.wl s List.mem_cons_self
  have hn := nexts_ok ok hl hk hsl
  have nd : (f ++ [s]).Nodup := by
    rw [List.nodup_append]
    refine ⟨h.nd, by simp, fun a ha b hb => ?_⟩
    rw [List.mem_singleton] at hb
    subst hb
    exact fun e => hs (e ▸ ha)
  have fl : ∀ x ∈ f ++ [s], x < q.rw.length := fun x hx => by
    rcases List.mem_append.mp hx with z | z
    · exact h.fl x z
    · rw [List.mem_singleton] at z
      subst z
      exact hsl
  refine ⟨?_, fun x hx => ?_, fl, nd⟩
  · have h1 := h.fuel
    have h2 := nodup_len _ _ nd fl
    rw [List.length_append, List.length_append, List.length_singleton] at *
    rw [List.length_cons] at h1
    have := hn.1
    omega
  · rcases List.mem_append.mp hx with z | z
    · exact h.wl x (List.mem_cons_of_mem _ z)
    · exact hn.2 x z
/-- what the search ends with -/
theorem bfs_end {q : Qu} (ok : q.Ok) {ks : List Nat} (hl : ks.length = q.rw.length) (hk : ∀ x ∈ ks, x < q.rw.length) : ∀ (n : Nat) (w f : List Nat), BfOk q ks n w f → (∀ k ∈ f, ∀ x ∈ nexts q.rw ks k, x ∈ f ∨ x ∈ w) →
    let out := bfsL q.rw ks n w f
    out.Nodup ∧ (∀ k ∈ out, k < q.rw.length) ∧ (∀ k ∈ f, k ∈ out) ∧ (∀ k ∈ w, k ∈ out) ∧ ∀ k ∈ out, ∀ x ∈ nexts q.rw ks k, x ∈ out
  | 0, w, f, h, hc => by
    have hw : w = [] := by
      have := h.fuel
      exact List.eq_nil_of_length_eq_zero (by omega)
    subst hw
    exact ⟨h.nd, h.fl, fun k hk => hk, fun k hk => absurd hk (List.not_mem_nil), fun k hk x hx => (hc k hk x hx).resolve_right (List.not_mem_nil)⟩
  | n + 1, [], f, h, hc => ⟨h.nd, h.fl, fun k hk => hk, fun k hk => absurd hk (List.not_mem_nil), fun k hk x hx => (hc k hk x hx).resolve_right (List.not_mem_nil)⟩
  | n + 1, s :: w, f, h, hc => by
    unfold bfsL
    by_cases hs : s ∈ f
    · rw [if_pos hs]
      obtain ⟨h1, h2, h3, h4, h5⟩ := bfs_end ok hl hk n w f h.skip fun k hk x hx => by
        rcases hc k hk x hx with z | z
        · exact .inl z
        · rcases List.mem_cons.mp z with rfl | z
          · exact .inl hs
          · exact .inr z
      refine ⟨h1, h2, h3, fun k hk => ?_, h5⟩
      rcases List.mem_cons.mp hk with rfl | hk
      · exact h3 _ hs
      · exact h4 k hk
    · rw [if_neg hs]
      obtain ⟨h1, h2, h3, h4, h5⟩ := bfs_end ok hl hk n (w ++ nexts q.rw ks s) (f ++ [s]) (h.take ok hl hk hs) fun k hk x hx => by
        rcases List.mem_append.mp hk with z | z
        · rcases hc k z x hx with y | y
          · exact .inl (List.mem_append_left _ y)
          · rcases List.mem_cons.mp y with rfl | y
            · exact .inl (List.mem_append_right _ (List.mem_singleton.mpr rfl))
            · exact .inr (List.mem_append_left _ y)
        · rw [List.mem_singleton] at z
          subst z
          exact .inr (List.mem_append_right _ hx)
      refine ⟨h1, h2, fun k hk => h3 k (List.mem_append_left _ hk), fun k hk => ?_, h5⟩
      rcases List.mem_cons.mp hk with rfl | hk
      · exact h3 _ (List.mem_append_right _ (List.mem_singleton.mpr rfl))
      · exact h4 k (List.mem_append_left _ hk)
theorem bf_init {q : Qu} (ok : q.Ok) {ks : List Nat} (hl : ks.length = q.rw.length) (hk : ∀ x ∈ ks, x < q.rw.length) : BfOk q ks (4 + 4 * q.rw.length) (q.ro.map fun s => ks.getD s default) [] := by
  refine ⟨?_, fun x hx => ?_, by simp, by simp⟩
  · rw [List.length_map, ok.ro.1]
    have := ok.labs.2.1
    simp only [List.length_nil]
    omega
  · obtain ⟨s, hs, rfl⟩ := List.mem_map.mp hx
    exact hk _ (getD_mem (by rw [hl]; exact ok.ro.2 s hs))
theorem order_end {q : Qu} (ok : q.Ok) {ks : List Nat} (hl : ks.length = q.rw.length) (hk : ∀ x ∈ ks, x < q.rw.length) : (orderL q ks).Nodup ∧ Closed q ks (orderL q ks) := by
  obtain ⟨h1, h2, h3, h4, h5⟩ := bfs_end ok hl hk _ _ [] (bf_init ok hl hk) (by simp)
  refine ⟨h1, hl, fun s hs => h4 _ (List.mem_map.mpr ⟨s, hs, rfl⟩), fun k hk2 => ⟨h2 k hk2, fun l hl2 => h5 k hk2 _ (List.mem_map.mpr ⟨l, hl2, rfl⟩)⟩⟩
theorem lq_ok {q : Qu} (ok : q.Ok) {ks ord : List Nat} (hc : Closed q ks ord) (nd : ord.Nodup) : QOk q.L q.rw.length (q.lq ks ord) := by
  have hlen : ord.length ≤ q.rw.length := nodup_len _ ord nd fun k hk => (hc.2.2 k hk).1
  have hne : 1 ≤ ord.length := by
    have h1 := ok.labs.1
    have h2 : 0 < q.ro.length := by rw [ok.ro.1]; exact h1
    exact List.length_pos_of_mem (hc.2.1 _ (getD_mem h2))
  unfold Qu.lq
  refine QOk.mk' ok.labs ok.n2 (by rw [List.length_map]; exact hne) (by rw [List.length_map]; exact hlen) ?_ ?_ ?_
  · rw [List.length_map]
    refine ⟨by rw [List.length_map]; exact ok.ro.1, fun x hx => ?_⟩
    obtain ⟨s, hs, rfl⟩ := List.mem_map.mp hx
    exact List.idxOf_lt_length_of_mem (hc.2.1 s hs)
  · rw [List.length_map]
    intro r hr
    obtain ⟨k, hk, rfl⟩ := List.mem_map.mp hr
    refine ⟨by rw [List.length_map]; exact (ok.row (hc.2.2 k hk).1).1, fun x hx => ?_⟩
    obtain ⟨l, hl, rfl⟩ := List.mem_map.mp hx
    exact List.idxOf_lt_length_of_mem ((hc.2.2 k hk).2 l hl)
  · rw [List.length_map, List.length_map]
    refine ⟨rfl, fun c hc2 => ?_⟩
    obtain ⟨k, hk, rfl⟩ := List.mem_map.mp hc2
    exact ok.co _ (getD_mem (by rw [ok.cn]; exact (hc.2.2 k hk).1))
theorem leastL_ok {q : Qu} (ok : q.Ok) : QOk q.L q.rw.length (leastL q) := by
  obtain ⟨h1, h2⟩ := order_end ok (kindsL_ok ok).1 (kindsL_ok ok).2
  exact lq_ok ok h2 h1
end OX
set_option Elab.async false
set_option linter.all false
set_option maxHeartbeats 1000000
/-! OX18: written lists read by place, odds and ends. -/
namespace OX
open PySem L2
section
variable {X : Cx} {ρ ρ1 ρ2 ρ3 : List Sl} {e a b : Expr} {ra : Rs} {ds ds' : List D} {i : Nat} {bo : Option Nat} {pos : Pos} {d : D} {sts : List Stmt} {N : SN}
theorem sq_listE (e : ds = ds') : SeqR ρ (.d (.list ds)) ds' := e ▸ sq_list
theorem sq_tupE (e : ds = ds') : SeqR ρ (.d (.tuple ds)) ds' := e ▸ sq_tup
theorem sq_ownE (h : ρ[i]? = some (Sl.own bo (.lst ds))) (e : ds = ds') : SeqR ρ (.own i) ds' := e ▸ sq_own h
theorem cutD_neg1 {α : Type} (xs : List α) (h : 1 ≤ xs.length) : cutD xs none (some (-1)) = xs.dropLast := by
  unfold cutD
  have h1 : HT.sIx xs.length 0 none = 0 := rfl
  have h2 : HT.sIx xs.length xs.length (some (-1)) = xs.length - 1 := by
    show (if (-1 : Int) < 0 then ((-1 : Int) + (xs.length : Int)).toNat else min (-1 : Int).toNat xs.length) = _
    rw [if_pos (by decide)]
    omega
  rw [h1, h2, List.drop_zero, Nat.sub_zero, List.dropLast_eq_take]
theorem ES.own {ds' : List D} {c : OC} (hi : ρ[i]? = some (Sl.own bo c)) (e : c = .lst ds') (h : ES X sts (ρ.set i (.own bo (.lst ds'))) N) : ES X sts ρ N := by
  subst e
  have : ρ.set i (Sl.own bo (.lst ds')) = ρ := by
    apply List.ext_getElem?
    intro j
    by_cases z : i = j
    · subst z
      rw [hi, List.getElem?_set_self (List.getElem?_eq_some_iff.mp hi).1]
    · rw [List.getElem?_set_ne z]
  rwa [this] at h
end
end OX
set_option Elab.async false
set_option linter.all false
set_option maxHeartbeats 1000000
/-! OX19: comprehensions that carry a state, by a hint. -/
namespace OX
open PySem L2
/-- what a comprehension does: its turn, its items' form, the slots by the state, the state ahead, what holds at each turn -/
def LcHint {α β S : Type} (g : α → S → β × S) (eb : β → D) (ρS : S → List Sl) (s0 : S) (xs : List α) (J : α → S → Prop) : Prop := ∀ i x, xs[i]? = some x → J x (mapS g (xs.take i) s0).2
section
variable {X : Cx} {ρ ρ1 ρ2 ρ3 : List Sl} {tg iter elt : Expr} {scope : Scope} {own : List (Str × Nat)} {d : D}
theorem lc_mapSI {α β S : Type} {g : α → S → β × S} {eb : β → D} {ρS : S → List Sl} {s0 : S} {xs : List α} {J : α → S → Prop} {enc : α → Im} (hint : LcHint g eb ρS s0 xs J) (hi : EI X tg iter ρ (xs.map enc) ρ1) (e1 : ρ1 = ρS s0)
    (hs : ∀ x s, J x s → ∃ r ρ2 js ρ4, BG X scope tg (enc x) (wipeR (ρS s) (own.map (·.2))) ρ2 js ∧ (∀ j ∈ js, j ∈ own.map (·.2)) ∧ BV X scope elt ρ2 (.d r) ρ4 ∧ wipeR ρ4 (own.map (·.2)) = wipeR (ρS (g x s).2) (own.map (·.2)) ∧ r = eb (g x s).1)
    (hr : ∀ s, restore (ρS s0) (wipeR (ρS s) (own.map (·.2))) (own.map (·.2)) = ρS s) (hl : xs.length < sizeLine) {out : List D} {ρ' : List Sl} (he : out = (mapS g xs s0).1.map eb) (he2 : ρ' = ρS (mapS g xs s0).2) : LC X scope own tg iter elt [] ρ out ρ' := by
  subst he he2 e1
  refine lc_mapS g eb ρS s0 hi (fun i x s hx hs' => ?_) hr hl
  obtain ⟨r, ρ2, js, ρ4, h1, h2, h3, h4, rfl⟩ := hs x s (hs' ▸ hint i x hx)
  exact ⟨ρ2, js, ρ4, h1, h2, h3, h4⟩
theorem mapS_take_costs {α β : Type} {f : α → Die → β × Die} {n k : Nat} {xs : List α} {d : Die} (h : ∀ x ∈ xs, Costs n (f x)) (g : Good (k + n * xs.length) d) (i : Nat) (hi : i < xs.length) : Good (k + n) (mapS f (xs.take i) d).2 := by
  have e : ∀ (l : List α), (∀ x ∈ l, Costs n (f x)) → Costs (n * l.length) (mapS f l) := by
    intro l
    induction l with
    | nil => exact fun _ k d g => g
    | cons x l ih =>
      intro h k d g
      refine ih (fun y hy => h y (List.mem_cons_of_mem _ hy)) k _ (h x List.mem_cons_self _ d ?_)
      rw [List.length_cons, Nat.mul_succ] at g
      rw [Nat.add_assoc]
      exact g
  refine e _ (fun x hx => h x (List.mem_of_mem_take hx)) (k + n) d ⟨g.1, ?_⟩
  have h2 := g.2
  have hm : n * (xs.take i).length + n ≤ n * xs.length := by
    rw [List.length_take, Nat.min_eq_left (Nat.le_of_lt hi), ← Nat.mul_succ]
    exact Nat.mul_le_mul_left n hi
  omega
end
end OX
set_option Elab.async false
set_option linter.all false
set_option maxHeartbeats 1000000
/-! OX20: tests that stop early. -/
namespace OX
open PySem L2
/-- hints: what a place of a list of one's own holds -/
def SxOwn (i : Nat) (c : OC) (k d : D) : Prop := ∀ (X : Cx) (ρ : List Sl), ρ[i]? = some (.own none c) → SubX X (.own i) (.d k) ρ (.d d)
section
variable {X : Cx} {ρ ρ1 ρ2 ρ3 : List Sl} {a b c e : Expr} {es : List Expr} {pos : Pos}
theorem ET.to {k k' : Bool} (h : ET X e ρ k ρ1) (q : k = k') : ET X e ρ k' ρ1 := q ▸ h
theorem EW.to {k k' : Bool} (h : EW X e ρ k ρ1) (q : k = k') : EW X e ρ k' ρ1 := q ▸ h
theorem ew_orT {k : Bool} (h : ET X a ρ k ρ1) (q : k = true) : EW X (.BoolOp .Or (a :: b :: es) pos) ρ true ρ1 := by
  subst q
  exact (ew_or h fun z => nomatch z).to (k := true || true) rfl
theorem ew_orF {k k' : Bool} (h : ET X a ρ k ρ1) (q : k = false) (h' : EW X (.BoolOp .Or (b :: es) pos) ρ1 k' ρ2) : EW X (.BoolOp .Or (a :: b :: es) pos) ρ k' ρ2 := .mk fun β σ F H C Q kk => by
  subst q
  exact ⟨_, pw_or ptU pwU, h β σ F H C _ fun F1 H1 C1 l1 => iteF (h' β σ F1 H1 C1 _ fun F2 H2 C2 l2 => kk F2 H2 C2 (l1.trans l2))⟩
theorem ew_andF {k : Bool} (h : ET X a ρ k ρ1) (q : k = false) : EW X (.BoolOp .And (a :: b :: es) pos) ρ false ρ1 := by
  subst q
  exact (ew_and (k' := false) h fun z => nomatch z).to rfl
theorem ew_andT {k k' : Bool} (h : ET X a ρ k ρ1) (q : k = true) (h' : EW X (.BoolOp .And (b :: es) pos) ρ1 k' ρ2) : EW X (.BoolOp .And (a :: b :: es) pos) ρ k' ρ2 := .mk fun β σ F H C Q kk => by
  subst q
  exact ⟨_, pw_and ptU pwU, h β σ F H C _ fun F1 H1 C1 l1 => iteT (h' β σ F1 H1 C1 _ fun F2 H2 C2 l2 => kk F2 H2 C2 (l1.trans l2))⟩
theorem daAll_rg {K : PySem.W.Frag} {F : Hp} (n : Nat) : DaAll K F (rgV 0 (n : Int)) ((List.range n).map nD) := by
  have e : (n : Int) - 0 = (n : Nat) := by omega
  unfold rgV
  rw [e, Int.toNat_natCast]
  have key : ∀ l : List Nat, DaAll K F (l.map fun i : Nat => V.int (0 + (i : Int))) (l.map nD) := by
    intro l
    induction l with
    | nil => exact .nil
    | cons a l ih =>
      refine .cons ?_ ih
      show Da K F (V.int (0 + (a : Int))) (nD a)
      rw [Int.zero_add]
      exact .int _
  exact key _
/-- list(range(n)) -/
theorem ev_lstRange {n : Nat} {p q q2 : Pos} (hc : X.calm = true) (hg : Gl X "list") (hm : X.mg "list" = none) (hg2 : Gl X "range") (hm2 : X.mg "range" = none) (ha : EV X a ρ (.d (nD n)) ρ1) (hn : n ≤ 1000000)
    (na : starEach [a] X.env = (false, eval a X.env) :: starEach [] X.env := by rfl) (na2 : starEach [Expr.Call (.Name "range" q) [a] [] q2] X.env = (false, eval (Expr.Call (.Name "range" q) [a] [] q2) X.env) :: starEach [] X.env := by rfl) :
    EV X (.Call (.Name "list" p) [.Call (.Name "range" q) [a] [] q2] [] pos) ρ (.new (.lst ((List.range n).map nD))) ρ1 := .mk fun β σ F H C Q k =>
  ⟨_, pe_listRg hc hg hm (prg_1 hg2 hm2 peU na) na2, ha β σ F H C _ fun v F1 H1 C1 l1 r1 => by
    refine ⟨(n : Int), Da.int_eq r1, .of_le (Int.le_refl _) (by omega) (by omega) (by omega), fun p hp => ?_⟩
    obtain ⟨C2, r2⟩ := C1.newL (daAll_rg n) hp
    exact k _ F1 _ C2 l1 r2⟩
end
end OX
set_option Elab.async false
set_option linter.all false
set_option maxRecDepth 100000
set_option maxHeartbeats 1000000
/-! OXG: promises of defs that are called while no display is being made; repr. -/
namespace OX
open PySem L2
/-- no display is being made -/
abbrev Quiet (A : Around) : Prop := A.guards = some []
structure FnQ (P : Program) (w : World) (K : PySem.W.Frag) (mg : Str → Option Value) (base : Heap) (k : Nat) (f : Addr) (fd : FuncData) (ps : List Str) (sp : Sp) : Prop where
  len : ∀ vs H Q E, sp vs H Q E → vs.length = ps.length
  go : ∀ (A : Around), Quiet A → Room k A → ∀ (outer : List Env) (s : Shared) (H : Hp), Env0 P w K mg base A outer s H → ∀ (ar : Args) (us : List Value) (vs : List V) (Q : VK) (E : XK), BindsTo s fd ar (ps.zip us) → Vals vs us → sp vs H Q E →
    codeAny (model P w) A (.call (.ref f) ar) (CR CX0 outer P w H s Q E) s
theorem FnOk.quiet {P : Program} {w : World} {K : PySem.W.Frag} {mg : Str → Option Value} {base : Heap} {k : Nat} {f : Addr} {fd : FuncData} {ps : List Str} {sp : Sp} (h : FnOk P w K mg base CX0 k f fd ps sp) : FnQ P w K mg base k f fd ps sp :=
  ⟨h.len, fun A _ hr outer s H e ar us vs Q E hb r hs => h.run A outer s H ar us vs Q E hr e hb r hs⟩
/-- a def by its body, while all is quiet -/
theorem FnQ.of {P : Program} {w : World} {K : PySem.W.Frag} {mg : Str → Option Value} {base : Heap} {x qual : Str} {st : Stmt} {f : Addr} {fd : FuncData} {N ps : List Str} {k : Nat} {sp : Sp} (F : Fun K x qual st f fd) (S : FnScope N ps (defScope st)) (len : ∀ vs H Q E, sp vs H Q E → vs.length = ps.length)
    (bd : ∀ (cdv : Value) (A : Around) (outer : List Env) (s : Shared) (H : Hp) (vs : List V) (Q : VK) (E : XK), Quiet A → Room k (A.deeper (PyProof.Rows.envOfC qual (defScope st) s.heap.objs.size f cdv)) → sp vs H Q E →
      ∃ t, PSs (bodyX P w K mg base N qual st f cdv A outer s H E) (defBody st) t ∧ t { nx := fun _ H' => Q .non H', rt := Q } (L2.start N vs) H) : FnQ P w K mg base (k + 1) f fd ps sp := by
  obtain ⟨oc, od, kV, doc, pm, an, cdv, ct, osl, rfl, look, code⟩ := F.ex
  refine ⟨len, fun A qu room outer s H en ar us vs Q E binds rel hsp => ?_⟩
  have lenV := len vs H Q E hsp
  have inK : K.In s.heap := en.mod.kin.keeps fun b o z => (en.bs b o z).1
  have kinds : ∀ z ∈ ps.zip us, (defScope st).names.lookup z.1 = some .local ∨ ((defScope st).names.lookup z.1 = some .cell ∧ ((cellsFrom (s.heap.objs.size + 1) (defScope st).names []).lookup z.1).isSome = true) := by
    rintro ⟨n, v⟩ hz
    exact (S.par n (List.of_mem_zip hz).1).imp id fun q => ⟨q, PySem.W.cellsFrom_some _ _ _ (Or.inl q)⟩
  apply PySem.codeAny_call_function room.depth (inK _ _ look) rfl S.co S.gen rfl (PySem.W.codeRec_of inK code)
  apply binds
  apply PySem.wpAny_newFunctionEnv_cells S.kind kinds
  intro env eqv s1 inside
  subst eqv
  have lim : s.heap.NoLimit := en.mod.nolimit.keeps fun b o z => (en.bs b o z).1
  refine And.intro (lim.keeps inside.toInCall.keep) (PySem.codeAny_func ?_)
  obtain ⟨t, ht, want⟩ := bd cdv A outer s H vs Q E qu (room.deeper _) hsp
  have start := inv_start (CX := CX0) (E := E) (K := K) (f := f) (cd := cdv) S room.hd en lenV rel inside
  have run := (PSs.nox ht).run [] s1 (L2.start N vs) H _ start want
  refine PySem.wpAny_mono run (fun fl s2 got => ?_) fun _ _ z => z
  show CE outer P w H s Q _ s2
  match fl, got with
  | .ret u, ⟨v, σ2, H2, J, rv, q⟩ => exact ⟨v, H2, J.os, J.bare, J.base, J.hok, rv, q⟩
  | .next, ⟨σ2, H2, J, q⟩ => exact ⟨V.non, H2, J.os, J.bare, J.base, J.hok, rfl, q⟩
  | .brk, ⟨_, _, _, q⟩ => exact q.elim
  | .cont, ⟨_, _, _, q⟩ => exact q.elim
section
variable {X : Cx} {k : Nat} {f : Addr} {fd : FuncData} {ps : List Str} {sp : Sp} {x : Str} {p pos : Pos} {e : Expr} {es : List Expr} {t : TA}
/-- a call of such a def -/
theorem pe_callQ (G : FnQ X.prog X.w X.K X.mg X.base k f fd ps sp) (qu : Quiet X.A) (hr : Room k X.A) (hg : Gl X x) (hm : X.mg x = some (.ref f)) (hk : PySem.W.keepIn X.K (.ref f) = true) (hb : Binds X.K fd ps [])
    (ha : PA X (e :: es) t) (hdb : (x == ("__debug__" : Str)) = false) (he : starEach (e :: es) X.env = (false, eval e X.env) :: starEach es X.env) (hpl : (backTo pos (starEach es X.env)).any (·.1) = false) :
    PE X (.Call (.Name x p) (e :: es) [] pos) (tCall sp [] E0 t) := by
  constructor
  intro pins s σ H Q I want
  apply wpAny_Call_Name_kw
  apply ld_glob I hg hm _ hdb
  apply PySem.W.callWith_K (h₀ := X.base) I.ok.mod.kin hk _ he hpl
  refine thn (ha.run pos pins s σ H _ I want) ?_
  rintro us s1 ⟨vs, H1, I1, rel, q⟩
  refine ⟨I1.kIn, ?_⟩
  have q : sp (vs ++ []) H1 Q E0 := q
  rw [List.append_nil] at q
  have lu : us.length = ps.length := by rw [← rel.length]; exact G.len _ _ _ _ q
  have bn := hb s1 us I1.kIn (by rw [List.append_nil]; exact lu)
  rw [List.append_nil] at bn
  refine PySem.wpAny_call (PySem.codeAny_mono (G.go X.A qu hr X.stack s1 H1 I1.env0 ⟨us, []⟩ us vs Q E0 bn rel q) ?_)
  intro r s2 end_
  match r, end_ with
  | .ok (.ret u), h => exact I1.after h
  | .ok .next, h => exact h.elim
  | .ok .brk, h => exact h.elim
  | .ok .cont, h => exact h.elim
  | .error _, h => exact h.elim
end
end OX
set_option Elab.async false
set_option linter.all false
set_option maxRecDepth 100000
set_option maxHeartbeats 1000000
/-! OXR: repr of data. -/
namespace OX
open PySem L2
/-! ### how long a text may be -/
mutual
def cost : D → Nat
  | .none => 4
  | .bool _ => 5
  | .int i => i.natAbs + 2
  | .str x => 10 * x.length + 2
  | .list xs => costAll xs + 4
  | .tuple xs => costAll xs + 4
  | .dict kvs => costKv kvs + 4
def costAll : List D → Nat
  | [] => 0
  | x :: xs => cost x + 2 + costAll xs
def costKv : List (D × D) → Nat
  | [] => 0
  | (k, v) :: r => cost k + cost v + 4 + costKv r
end
mutual
def textOk : D → Prop
  | .none => True
  | .bool _ => True
  | .int _ => True
  | .str x => SOk x
  | .list xs => textOkAll xs
  | .tuple xs => textOkAll xs
  | .dict kvs => textOkKv kvs
def textOkAll : List D → Prop
  | [] => True
  | x :: xs => textOk x ∧ textOkAll xs
def textOkKv : List (D × D) → Prop
  | [] => True
  | (k, v) :: r => textOk k ∧ textOk v ∧ textOkKv r
end
theorem sok_lt {x : Str} (h : SOk x) : ∀ c ∈ x.cps.toList, c < 16 ^ 8 := fun c hc => by
  unfold SOk PyData.strOk at h
  rw [Array.all_eq_true_iff_forall_mem] at h
  have := of_decide_eq_true (h c (by simpa using hc))
  omega
theorem strLen_app (a b : Str) : (a ++ b).length = a.length + b.length := PySem.strLen_append a b
theorem join_le (ts : List Str) : (Str.join ", " ts).length ≤ piled ts := by
  by_cases h : ts = []
  · subst h
    decide +kernel
  · have := join_length_add ts h
    omega
mutual
theorem shown_le : ∀ d : D, textOk d → d.shown.length ≤ cost d
  | .none, _ => by
    rw [PyData.shown_none]
    decide +kernel
  | .bool true, _ => by
    rw [PyData.shown_bool]
    decide +kernel
  | .bool false, _ => by
    rw [PyData.shown_bool]
    decide +kernel
  | .int i, _ => by
    rw [PyData.shown_int]
    have := PyProof.Rows.len_str_of_int i
    simp only [cost]
    omega
  | .str x, h => by
    rw [PyData.shown_str]
    simp only [cost]
    exact StrLaws.reprText_len x (sok_lt h)
  | .list xs, h => by
    rw [PyData.shown_list]
    have h1 := shownAll_le xs h
    have h2 := join_le (PyData.shownAll xs)
    simp only [cost]
    rw [strLen_app, strLen_app]
    have e1 : (("[" : String) : Str).length = 1 := by decide +kernel
    have e2 : (("]" : String) : Str).length = 1 := by decide +kernel
    omega
  | .tuple xs, h => by
    rw [PyData.shown_tuple]
    have h1 := shownAll_le xs h
    have h2 := join_le (PyData.shownAll xs)
    simp only [cost]
    rw [strLen_app, strLen_app]
    have e1 : (("(" : String) : Str).length = 1 := by decide +kernel
    have e2 : (((if xs.length == 1 then ",)" else ")" : String) : Str)).length ≤ 2 := by split <;> decide +kernel
    omega
  | .dict kvs, h => by
    rw [PyData.shown_dict]
    have h1 := shownKv_le kvs h
    have h2 := join_le (PyData.shownKv kvs)
    simp only [cost]
    rw [strLen_app, strLen_app]
    have e1 : (("{" : String) : Str).length = 1 := by decide +kernel
    have e2 : (("}" : String) : Str).length = 1 := by decide +kernel
    omega
theorem shownAll_le : ∀ xs : List D, textOkAll xs → piled (PyData.shownAll xs) ≤ costAll xs
  | [], _ => by
    rw [PyData.shownAll_nil]
    exact Nat.zero_le _
  | x :: xs, h => by
    have h1 := shown_le x h.1
    have h2 := shownAll_le xs h.2
    rw [PyData.shownAll_cons, piled_cons]
    simp only [costAll]
    omega
theorem shownKv_le : ∀ kvs : List (D × D), textOkKv kvs → piled (PyData.shownKv kvs) ≤ costKv kvs
  | [], _ => by
    rw [PyData.shownKv_nil]
    exact Nat.zero_le _
  | (k, v) :: r, h => by
    have h1 := shown_le k h.1
    have h2 := shown_le v h.2.1
    have h3 := shownKv_le r h.2.2
    rw [PyData.shownKv_cons, piled_cons, strLen_app, strLen_app]
    have e1 : ((": " : String) : Str).length = 2 := by decide +kernel
    simp only [costKv]
    omega
end
theorem costAll_le {α : Type} {f : α → D} {n : Nat} : ∀ xs : List α, (∀ x ∈ xs, cost (f x) ≤ n) → costAll (xs.map f) ≤ (n + 2) * xs.length
  | [], _ => by simp [costAll]
  | x :: xs, h => by
    have h1 := h x List.mem_cons_self
    have h2 := costAll_le xs fun y hy => h y (List.mem_cons_of_mem _ hy)
    rw [List.map_cons, List.length_cons, Nat.mul_succ]
    simp only [costAll]
    omega
theorem textOkAll_map {α : Type} {f : α → D} : ∀ xs : List α, (∀ x ∈ xs, textOk (f x)) → textOkAll (xs.map f)
  | [], _ => trivial
  | x :: xs, h => ⟨h x List.mem_cons_self, textOkAll_map xs fun y hy => h y (List.mem_cons_of_mem _ hy)⟩
theorem showableAll_map {α : Type} {f : α → D} : ∀ xs : List α, (∀ x ∈ xs, (f x).showable = true) → PyData.showableAll (xs.map f) = true
  | [], _ => by simp only [List.map_nil, PyData.showableAll]
  | x :: xs, h => by
    rw [List.map_cons]
    simp only [PyData.showableAll, h x List.mem_cons_self, showableAll_map xs fun y hy => h y (List.mem_cons_of_mem _ hy), Bool.and_self]
/-- what repr needs -/
structure ReprOk (d : D) : Prop where
  lay : d.canLay0 = true
  sh : d.showable = true
  txt : textOk d
  dep : d.depth ≤ 8
  cost : cost d ≤ 1000000
  seq : (∃ xs, d = .list xs) ∨ ∃ xs, d = .tuple xs
section
variable {X : Cx} {ρ : List Sl} {r : Rs}
theorem call_reprQ (qu : Quiet X.A) (hu : X.A.units + 64 < cLine) : CallR X (.builtin "repr") (fun xs H Q => ∃ a d, xs = [V.ref a] ∧ Dp X.K H (.ref a) d ∧ ReprOk d ∧ Q (.str d.shown) H) := by
  intro pins s σ H xs us Q I r h
  obtain ⟨a, d, rfl, hd, ok, q⟩ := h
  obtain ⟨u, rfl, rx⟩ := vals1 r
  obtain ⟨as, rd⟩ := Dp.reads I d _ u hd rx
  obtain rfl : u = Value.ref a := rx
  have hlen : d.shown.length ≤ sizeLine := by
    have h1 := shown_le d ok.txt
    have h2 := ok.cost
    rw [sizeLine_eq]
    omega
  refine repr_of_reads' rd ok.sh (PyData.noDict_hsm (PyData.hasDict_of_canLay d ok.lay)) qu (by have := ok.dep; omega) (fun _ _ e => e) (fun h' u tk hk => ?_) hlen
  exact ⟨.str d.shown, H, I.kept (t' := tk) hk, ⟨u, rfl⟩, q⟩
@[irreducible] def shownT (d : D) : Str := d.shown
theorem cr_repr {d : D} (qu : Quiet X.A) (hu : X.A.units + 64 < cLine) (ok : ReprOk d) : CrX X (.builtin "repr") [.d d] ρ (.d (.str (shownT d))) := ⟨_, call_reprQ qu hu, fun β σ F H vs C r1 Q k => by
  unfold shownT at k
  obtain ⟨v, rfl, h⟩ := r1.one
  have h : Da X.K F v d := h
  have hp := Da.dp (h.mono C.le) ok.lay
  rcases ok.seq with ⟨xs, e⟩ | ⟨xs, e⟩
  · have h3 := h
    rw [e] at h3
    obtain ⟨a, ys, rfl, _⟩ := Da.list_ref h3
    exact ⟨a, d, rfl, hp, ok, k _ F H C (.refl F) (.str _)⟩
  · have h3 := h
    rw [e] at h3
    obtain ⟨a, ys, rfl, _⟩ := Da.tup_ref h3
    exact ⟨a, d, rfl, hp, ok, k _ F H C (.refl F) (.str _)⟩⟩
end
end OX
set_option Elab.async false
set_option linter.all false
set_option maxRecDepth 100000
set_option maxHeartbeats 1000000
/-! OXH: quiet promises of defs by name. -/
namespace OX
open PySem L2
section
variable {P : Program} {w : World} {K : PySem.W.Frag} {mg : Str → Option Value} {base : Heap}
theorem fnq_data {x qual : Str} {st : Stmt} {f : Addr} {fd : FuncData} {N ps : List Str} {k : Nat} {R : List D → D → Prop} (F : Fun K x qual st f fd) (S : FnScope N ps (defScope st)) (len : ∀ ds x, R ds x → ds.length = ps.length)
    (hbody : ∀ (cdv : Value) (A : Around) (outer : List Env) (s : Shared) (H : Hp) (E : XK), Quiet A → Room k (A.deeper (PyProof.Rows.envOfC qual (defScope st) s.heap.objs.size f cdv)) → ∀ ds x, R ds x →
      ES (bodyX P w K mg base N qual st f cdv A outer s H E) (defBody st) (dsl ds N.length) { nx := fun _ => x = .none, rt := fun _ d => d = x }) : FnQ P w K mg base (k + 1) f fd ps (spD K R) := by
  have hpl : ps.length ≤ N.length := by have := congrArg List.length S.pre; rw [List.length_take] at this; omega
  refine FnQ.of F S (fun vs H Q E h => ?_) (fun cdv A outer s H vs Q E hq hr h => ?_)
  · obtain ⟨F, ds, x, _, da, r, _⟩ := h
    rw [da.length, len ds x r]
  · obtain ⟨F, ds, y, l, da, r, q⟩ := h
    have C := conc_start (N := N) l da (by rw [len ds y r]; exact hpl)
    have fin : ∀ {ρ : List Sl} {σ : L2.St} {F' H' : Hp} {v : V}, Conc K ⟨F, H, fun _ => False, []⟩ ρ σ F' H' → Da K F' v y → Q v H' := fun {ρ σ F' H' v} C' d => by
      refine q v F' H' ⟨C'.base, C'.le, fun a h => ?_, fun a u e1 e2 _ => C'.frame a u e1 e2 fun z => z⟩ d
      rcases C'.new a h with z | z | z
      · exact .inl z
      · exact .inr z
      · exact z.elim
    obtain ⟨t, D0, h1, l1, h2⟩ := (hbody cdv A outer s H E hq hr ds y r _ _ F H C).le (show EndLe (SN.ends K ⟨F, H, fun _ => False, []⟩ { nx := fun _ => y = .none, rt := fun _ d => d = y }) { nx := fun _ H' => Q .non H', rt := Q } from ⟨fun σ' H' ⟨ρ', F', C', e⟩ => by
      subst e
      exact fin C' .non, fun v H' z => Or.elim z (fun ⟨ρ', σ', F', d, C', d1, e⟩ => by
        subst e
        exact fin C' d1) (fun ⟨_, _, _, _, _, _, z⟩ => False.elim z), fun _ _ ⟨_, _, _, z⟩ => z.elim, fun _ _ ⟨_, _, _, z⟩ => z.elim⟩)
    exact ⟨tssU _ (defBody st), pssU, t, D0, h1, l1, h2⟩
theorem fnq_bor {x qual : Str} {st : Stmt} {f : Addr} {fd : FuncData} {N ps : List Str} {k : Nat} {R : List D → List D → List D → D → Prop} (F : Fun K x qual st f fd) (S : FnScope N ps (defScope st)) (len : ∀ cs ds cs' x, R cs ds cs' x → ds.length + 1 = ps.length)
    (hbody : ∀ (cdv : Value) (A : Around) (outer : List Env) (s : Shared) (H : Hp) (E : XK), Quiet A → Room k (A.deeper (PyProof.Rows.envOfC qual (defScope st) s.heap.objs.size f cdv)) → ∀ cs ds cs' x, R cs ds cs' x →
      ES (bodyX P w K mg base N qual st f cdv A outer s H E) (defBody st) (.own (some 0) (.lst cs) :: dsl ds (N.length - 1)) { nx := fun ρ => x = .none ∧ ρ[0]? = some (Sl.own (some 0) (.lst cs')), rt := fun ρ d => d = x ∧ ρ[0]? = some (Sl.own (some 0) (.lst cs')) }) : FnQ P w K mg base (k + 1) f fd ps (spB K R) := by
  have hpl : ps.length ≤ N.length := by have := congrArg List.length S.pre; rw [List.length_take] at this; omega
  refine FnQ.of F S (fun vs H Q E h => ?_) (fun cdv A outer s H vs Q E hq hr h => ?_)
  · obtain ⟨F, a, us, ws, cs, ds, cs', x, e, _, _, _, _, da, r, _⟩ := h
    rw [e, List.length_cons, da.length, len cs ds cs' x r]
  · obtain ⟨F, a, us, ws, cs, ds, cs', y, e, l, fa, ha, dw, da, r, q⟩ := h
    subst e
    have C := conc_startB (N := N) l fa ha dw da (by rw [len cs ds cs' y r]; exact hpl)
    have fin : ∀ {ρ : List Sl} {σ : L2.St} {F' H' : Hp} {v : V}, Conc K ⟨F, H, fun b => b = a, [a]⟩ ρ σ F' H' → ρ[0]? = some (Sl.own (some 0) (.lst cs')) → Da K F' v y → Q v H' := fun {ρ σ F' H' v} C' h0 d => by
      obtain ⟨l', e1, e2, ⟨ws', e3, e4⟩, e5, e6⟩ := C'.sl 0 _ h0
      have e6 : [a][0]? = some l' := e6
      obtain rfl : a = l' := by simpa using e6
      refine q v F' H' ⟨C'.base, C'.le, fun b h => ?_, fun b u e1 e2 n => C'.frame b u e1 e2 n⟩ e2 ⟨ws', e3, e4⟩ d
      rcases C'.new b h with z | z | z
      · exact .inl z
      · exact .inr z
      · have z : b = a := z
        subst z
        exact absurd e2 h
    obtain ⟨t, D0, h1, l1, h2⟩ := (hbody cdv A outer s H E hq hr cs ds cs' y r _ _ F H C).le (show EndLe (SN.ends K ⟨F, H, fun b => b = a, [a]⟩ { nx := fun ρ => y = .none ∧ ρ[0]? = some (Sl.own (some 0) (.lst cs')), rt := fun ρ d => d = y ∧ ρ[0]? = some (Sl.own (some 0) (.lst cs')) }) { nx := fun _ H' => Q .non H', rt := Q } from ⟨fun σ' H' ⟨ρ', F', C', e, h0⟩ => by
      subst e
      exact fin C' h0 .non, fun v H' z => Or.elim z (fun ⟨ρ', σ', F', d, C', d1, e, h0⟩ => by
        subst e
        exact fin C' h0 d1) (fun ⟨_, _, _, _, _, _, z⟩ => False.elim z), fun _ _ ⟨_, _, _, z⟩ => z.elim, fun _ _ ⟨_, _, _, z⟩ => z.elim⟩)
    exact ⟨tssU _ (defBody st), pssU, t, D0, h1, l1, h2⟩
end
structure OkQ (P : Program) (w : World) (K : PySem.W.Frag) (mg : Str → Option Value) (base : Heap) (k : Nat) (x : Str) (ps : List Str) (sp : Sp) : Prop where
  ex : ∃ f fd, mg x = some (.ref f) ∧ PySem.W.keepIn K (.ref f) = true ∧ Binds K fd ps [] ∧ FnQ P w K mg base k f fd ps sp
section
variable {P : Program} {w : World} {K : PySem.W.Frag} {mg : Str → Option Value} {base : Heap} {x : Str} {st : Stmt} {ps N : List Str} {f : Addr} {fd : FuncData} {k : Nat}
theorem OkQ.data {R : List D → D → Prop} (h : Has K mg x st ps f fd) (S : FnScope N ps (defScope st)) (len : ∀ ds x, R ds x → ds.length = ps.length)
    (hbody : ∀ (cdv : Value) (A : Around) (outer : List Env) (s : Shared) (H : Hp) (E : XK), Quiet A → Room k (A.deeper (PyProof.Rows.envOfC x (defScope st) s.heap.objs.size f cdv)) → ∀ ds y, R ds y →
      ES (bodyX P w K mg base N x st f cdv A outer s H E) (defBody st) (dsl ds N.length) { nx := fun _ => y = .none, rt := fun _ d => d = y }) : OkQ P w K mg base (k + 1) x ps (spD K R) :=
  ⟨f, fd, h.mg, h.fn.kp, h.bs, fnq_data h.fn S len hbody⟩
theorem OkQ.bor {R : List D → List D → List D → D → Prop} (h : Has K mg x st ps f fd) (S : FnScope N ps (defScope st)) (len : ∀ cs ds cs' x, R cs ds cs' x → ds.length + 1 = ps.length)
    (hbody : ∀ (cdv : Value) (A : Around) (outer : List Env) (s : Shared) (H : Hp) (E : XK), Quiet A → Room k (A.deeper (PyProof.Rows.envOfC x (defScope st) s.heap.objs.size f cdv)) → ∀ cs ds cs' y, R cs ds cs' y →
      ES (bodyX P w K mg base N x st f cdv A outer s H E) (defBody st) (.own (some 0) (.lst cs) :: dsl ds (N.length - 1)) { nx := fun ρ => y = .none ∧ ρ[0]? = some (Sl.own (some 0) (.lst cs')), rt := fun ρ d => d = y ∧ ρ[0]? = some (Sl.own (some 0) (.lst cs')) }) : OkQ P w K mg base (k + 1) x ps (spB K R) :=
  ⟨f, fd, h.mg, h.fn.kp, h.bs, fnq_bor h.fn S len hbody⟩
end
section
variable {X : Cx} {ρ ρ1 ρ2 ρ3 : List Sl} {e : Expr} {es : List Expr} {pos p : Pos} {x : Str} {d : D} {k : Nat} {f : Addr} {fd : FuncData} {ps : List Str}
theorem ev_callBQ {R : List D → List D → List D → D → Prop} {cs ds cs' : List D} {rs : List Rs} {i : Nat} {bo : Option Nat} (G : FnQ X.prog X.w X.K X.mg X.base k f fd ps (spB X.K R)) (qu : Quiet X.A) (hr : Room k X.A) (hm : X.mg x = some (.ref f)) (hk : PySem.W.keepIn X.K (.ref f) = true) (hb : Binds X.K fd ps []) (hg : Gl X x)
    (ha : EA X (e :: es) ρ rs ρ1) (hrs : rs = .own i :: ds.map Rs.d) (hi : ρ1[i]? = some (Sl.own bo (.lst cs))) (hR : R cs ds cs' d) (hdb : (x == ("__debug__" : Str)) = false := by decide) (he : starEach (e :: es) X.env = (false, eval e X.env) :: starEach es X.env := by rfl) (hpl : (backTo pos (starEach es X.env)).any (·.1) = false := by rfl) : EV X (.Call (.Name x p) (e :: es) [] pos) ρ (.d d) (ρ1.set i (.own bo (.lst cs'))) := .mk fun β σ F H C Q kk => by
  subst hrs
  refine ⟨_, pe_callQ G qu hr hg hm hk hb paU hdb he hpl, ha β σ F H C _ fun vs F1 H1 C1 l1 r1 => ?_⟩
  cases r1 with
  | cons a b =>
    obtain ⟨l, ws, rfl, q1, q2, q3⟩ := own_at C1 hi a
    obtain ⟨l', e1, e2, _, e4, e5⟩ := C1.sl i _ hi
    rw [q3] at e1
    cases e1
    refine ⟨F1, l, _, ws, cs, ds, cs', d, by rw [List.append_nil], C1.le, e2, q1, q2, RsAll.da b, hR, fun v F' H' o g1 ⟨ws', g2, g3⟩ dv => ?_⟩
    refine kk v F' H' ?_ (l1.trans o.le) dv
    have hi' : i < ρ1.length := (List.getElem?_eq_some_iff.mp hi).1
    -- the heap without the change, then the change
    have C2 : Conc X.K β ρ1 σ F' (upd H' l (.lst ws)) := by
      refine C1.grow o.le (o.le'.mut g1) o.new fun b u f1 f2 => ?_
      by_cases z : b = l
      · rw [z, q1] at f2
        cases f2
        rw [z]
        exact upd_same
      · rw [upd_ne z]
        exact o.keep b u f1 f2 z
    have C3 := C2.put (c' := .lst cs') (o := .lst ws') hi q3 ⟨ws', upd_same, g3⟩
    have e6 : upd (upd H' l (.lst ws)) l (.lst ws') = H' := by
      rw [upd_upd]
      funext b
      by_cases z : b = l
      · subst z
        rw [upd_same, g2]
      · rw [upd_ne z]
    rw [e6] at C3
    exact C3
theorem ev_defBEQ {k0 : Nat} {R : List D → List D → List D → D → Prop} {cs cs' ds : List D} {i : Nat} {bo : Option Nat} (G : OkQ X.prog X.w X.K X.mg X.base k x ps (spB X.K R)) (qu : Quiet X.A) (hr : Room k0 X.A) (hk : k ≤ k0) (hg : Gl X x) (h1 : EV X e ρ (.own i) ρ1) (ha : EAD X es ρ1 ds ρ2) (hi : ρ2[i]? = some (Sl.own bo (.lst cs))) (hR : R cs ds cs' d)
    (hdb : (x == ("__debug__" : Str)) = false := by decide) (he : starEach (e :: es) X.env = (false, eval e X.env) :: starEach es X.env := by rfl) (hpl : (backTo pos (starEach es X.env)).any (·.1) = false := by rfl) : EV X (.Call (.Name x p) (e :: es) [] pos) ρ (.d d) (ρ2.set i (.own bo (.lst cs'))) := by
  obtain ⟨f, fd, h1', h2, h3, h4⟩ := G.ex
  exact ev_callBQ h4 qu (hr.mono hk) h1' h2 h3 hg (ea_cons h1 ha rfl he) rfl hi hR hdb he hpl
end
end OX
set_option Elab.async false
set_option linter.all false
set_option maxRecDepth 100000
set_option maxHeartbeats 1000000
/-! OXD: dict(a list of pairs), repr of a dict of texts. -/
namespace OX
open PySem L2
abbrev prD : Str × Str → D := fun p => .tuple [.str p.1, .str p.2]
section
variable {K : PySem.W.Frag} {F H : Hp}
theorem pairs_ref : ∀ {xs : List V} {nm : List (Str × Str)}, DaAll K F xs (nm.map prD) → ∃ ps : List Addr, xs = ps.map V.ref ∧ Paired (fun p (kv : Key × V) => SqT K F p [kV kv.1, kv.2]) ps (nm.map fun p => (Sum.inr p.1, V.str p.2))
  | _, [], h => by
    cases h
    exact ⟨[], rfl, .nil⟩
  | _, p :: nm, h => by
    cases h with
    | cons a b =>
      obtain ⟨ps, rfl, h2⟩ := pairs_ref b
      obtain ⟨l, ys, rfl, hp, hd⟩ := Da.tup_ref a
      cases hd with
      | cons c d =>
        cases d with
        | cons e f =>
          cases f
          rw [c.str_eq, e.str_eq] at hp
          exact ⟨l :: ps, rfl, .cons hp.sqT h2⟩
theorem merge_new : ∀ (l acc : List (Key × V)), ((acc ++ l).map (·.1)).Nodup → mergeK acc l = acc ++ l
  | [], acc, _ => by
    rw [List.append_nil]
    rfl
  | (k, v) :: l, acc, h => by
    have hk : (acc.any fun kv => decide (kv.1 = k)) = false := by
      rw [List.any_eq_false]
      intro x hx
      rw [List.map_append, List.nodup_append] at h
      have := h.2.2 x.1 (List.mem_map.mpr ⟨x, hx, rfl⟩) k (List.mem_map.mpr ⟨(k, v), List.mem_cons_self, rfl⟩)
      simpa using this
    have e : putK acc k v = acc ++ [(k, v)] := by
      unfold putK
      rw [if_neg (by rw [hk]; exact fun z => nomatch z)]
    show mergeK (putK acc k v) l = _
    rw [e, merge_new l _ (by rw [List.append_assoc]; exact h), List.append_assoc]
    rfl
theorem kvok_strs (nm : List (Str × Str)) : KVok K F (nm.map fun p => ((Sum.inr p.1 : Key), V.str p.2)) (kvS PyData.str nm) := by
  induction nm with
  | nil => exact .nil
  | cons p nm ih => exact .cons ⟨rfl, .str _⟩ ih
end
section
variable {X : Cx} {ρ : List Sl} {r : Rs}
theorem cr_dictP {nm : List (Str × Str)} (hc : X.calm = true) (s : r = .d (.list (nm.map prD)) ∨ ∃ i bo, r = .own i ∧ ρ[i]? = some (Sl.own bo (.lst (nm.map prD)))) (hn : (nm.map (·.1)).Nodup) : CrX X (.type "dict") [r] ρ (.new (.dct (kvS PyData.str nm))) := ⟨_, call_dictP hc, fun β σ F H vs C r1 Q k => by
  obtain ⟨v, rfl, h⟩ := r1.one
  obtain ⟨a, xs, rfl, hs, hd⟩ := SeqR.lst C s h
  obtain ⟨ps, rfl, hp⟩ := pairs_ref hd
  refine ⟨a, ps, _, rfl, hs, L2.Paired.mapP hp fun _ _ z => C.le.sqT z, fun p hnp => ?_⟩
  have em : mergeK [] (nm.map fun p => ((Sum.inr p.1 : Key), V.str p.2)) = nm.map fun p => (Sum.inr p.1, V.str p.2) := by
    rw [merge_new _ [] ?_]
    · rfl
    · rw [List.nil_append, List.map_map]
      have e : ((·.1) ∘ fun p : Str × Str => ((Sum.inr p.1 : Key), V.str p.2)) = Sum.inr ∘ (·.1) := rfl
      rw [e, ← List.map_map]
      exact hn.map Sum.inr fun a b h z => h (Sum.inr.inj z)
  rw [em]
  exact k _ F _ (C.allocU hnp) (.refl F) ⟨p, rfl, C.le.none hnp, ⟨_, upd_same, kvok_strs nm⟩, C.room hnp, fun o => absurd hnp (C.ownF o).2.2⟩⟩
/-! ### repr of a dict -/
theorem keyIs_inr {a : Str} {v : Value} (h : keyIs (Sum.inr a) v = true) : ∃ u, v = .str a u := by
  rcases keyIs_shape h with ⟨i, u, z, _⟩ | ⟨x, u, z, y⟩
  · cases z
  · cases z
    exact ⟨u, y⟩
theorem depthKv_kvS : ∀ nm : List (Str × Str), PyData.depthKv ((kvS PyData.str nm).map fun p => (kD p.1, p.2)) ≤ 1
  | [] => by
    show PyData.depthKv [] ≤ 1
    simp [PyData.depthKv]
  | p :: nm => by
    have ih := depthKv_kvS nm
    show PyData.depthKv ((PyData.str p.1, PyData.str p.2) :: (kvS PyData.str nm).map fun p => (kD p.1, p.2)) ≤ 1
    simp only [PyData.depthKv, PyData.depth]
    omega
theorem showKv_kvS : ∀ nm : List (Str × Str), PyData.showableKv ((kvS PyData.str nm).map fun p => (kD p.1, p.2)) = true
  | [] => by
    show PyData.showableKv [] = true
    simp [PyData.showableKv]
  | p :: nm => by
    have ih := showKv_kvS nm
    show PyData.showableKv ((PyData.str p.1, PyData.str p.2) :: (kvS PyData.str nm).map fun p => (kD p.1, p.2)) = true
    simp only [PyData.showableKv, PyData.showable, ih, Bool.and_self]
theorem reads_dict {P : Program} {w : World} {h : Heap} {K : PySem.W.Frag} {F : Hp} : ∀ {es : List DictEntry} {vs : List (Key × Value)} {kvs : List (Key × V)} {nm : List (Str × Str)}, Pairs (mixKind P w) es vs → KV kvs vs → KVok K F kvs (kvS PyData.str nm) →
    ReadsAll h (es.map (·.key)) (nm.map fun p => .str p.1) [] ∧ ReadsAll h (es.map (·.val)) (nm.map fun p => .str p.2) []
  | _, _, _, [], hp, hk, ho => by
    cases ho
    cases hk
    cases hp
    exact ⟨.nil, .nil⟩
  | _, _, _, (a, b) :: nm, hp, hk, ho => by
    cases ho with
    | cons o1 o2 =>
      cases hk with
      | cons k1 k2 =>
        cases hp with
        | cons p1 p2 p3 =>
          obtain ⟨r1, r2⟩ := reads_dict (h := h) p3 k2 o2
          obtain ⟨e1, e2⟩ := o1
          obtain ⟨e3, e4⟩ := k1
          have e5 := e2.str_eq
          rw [e5] at e4
          obtain ⟨t, e6⟩ := e4
          rw [e6] at p2
          rw [← e3, e1] at p1
          obtain ⟨u, q1⟩ := keyIs_inr p1
          have c1 := ReadsAll.cons (Reads.str (h := h) a u) r1
          have c2 := ReadsAll.cons (Reads.str (h := h) b t) r2
          rw [List.map_cons, List.map_cons, List.map_cons, List.map_cons, q1, p2]
          exact ⟨c1, c2⟩
theorem call_reprDQ (qu : Quiet X.A) (hu : X.A.units + 64 < cLine) {nm : List (Str × Str)} (hl : (dictD (kvS PyData.str nm)).shown.length ≤ sizeLine) : CallR X (.builtin "repr") (fun xs H Q => ∃ a kvs, xs = [V.ref a] ∧ Rd H a (.dK kvs) ∧ (∃ F, KVok X.K F kvs (kvS PyData.str nm)) ∧ Q (.str (dictD (kvS PyData.str nm)).shown) H) := by
  intro pins s σ H xs us Q I r h
  obtain ⟨a, kvs, rfl, hr, ⟨F, hk⟩, q⟩ := h
  obtain ⟨u, rfl, rx⟩ := vals1 r
  obtain rfl : u = Value.ref a := rx
  obtain ⟨_, hs, vs, rk, o, es, ep, ho, hx, hd, _, hp, _⟩ := hr.ok I.hok
  obtain ⟨q1, q2⟩ := reads_dict (h := s.heap) hp rk hk
  have rd : Reads s.heap (.ref a) (dictD (kvS PyData.str nm)) ([a]) := by
    have := Reads.dict (kvs := (kvS PyData.str nm).map fun p => (kD p.1, p.2)) (as := []) (bs := []) ho hx.1 hd (by
      unfold kvS
      rw [List.map_map, List.map_map]
      exact q1) (by
      unfold kvS
      rw [List.map_map, List.map_map]
      exact q2)
    exact this
  have dep : (dictD (kvS PyData.str nm)).depth ≤ 3 := by
    have := depthKv_kvS nm
    unfold dictD
    simp only [PyData.depth]
    omega
  have sh : (dictD (kvS PyData.str nm)).showable = true := by
    unfold dictD
    simp only [PyData.showable]
    exact showKv_kvS nm
  refine repr_of_reads' rd sh (fun _ z => ?_) qu (by omega) (fun _ _ e => e) (fun h' u tk hk => ?_) hl
  · rw [List.mem_singleton] at z
    rw [z] at hs
    simp at hs
  · exact ⟨.str _, H, I.kept (t' := tk) hk, ⟨u, rfl⟩, q⟩
theorem cr_reprD {nm : List (Str × Str)} (qu : Quiet X.A) (hu : X.A.units + 64 < cLine) (hl : (dictD (kvS PyData.str nm)).shown.length ≤ sizeLine) : CrX X (.builtin "repr") [.d (dictD (kvS PyData.str nm))] ρ (.d (.str (shownT (dictD (kvS PyData.str nm))))) := ⟨_, call_reprDQ (nm := nm) qu hu hl, fun β σ F H vs C r1 Q k => by
  unfold shownT at k
  obtain ⟨v, rfl, h⟩ := r1.one
  have h : Da X.K F v (dictD (kvS PyData.str nm)) := h
  obtain ⟨a, kvs, rfl, hr, hk⟩ := Da.dict_ref h
  exact ⟨a, kvs, rfl, C.le.rd hr, ⟨F, hk.kv⟩, k _ F H C (.refl F) (.str _)⟩⟩
end
end OX
set_option Elab.async false
set_option linter.all false
set_option maxRecDepth 100000
set_option maxHeartbeats 1000000
/-! OXW: a def with ** called with keywords. -/
namespace OX
open PySem L2
section
variable {prog : Program} {w : World} {A : Around} {E : Value → Shared → Prop}
/-- a name is put into a dict that stands at d -/
theorem put_name {s : Shared} {d : Addr} {es : List DictEntry} {n : Nat} {k : Str} {v : Value} {Q : Unit → Shared → Prop} (ho : s.heap.get? d = some (PySem.W.dictOf es n)) (hs : ∀ e ∈ es, e.key.isStr k = false) (hr : ∀ e ∈ es, e.refKey = false)
    (h : ∀ h' : Heap, h'.get? d = some (PySem.W.dictOf (es ++ [⟨PyData.keyHash w.params k, .str k s.toks, v⟩]) (n + 1)) → (∀ b, b ≠ d → h'.get? b = s.heap.get? b) → h'.objs.size = s.heap.objs.size → Q () { s with heap := h', toks := s.toks + 1 }) : wpAny (model prog w) A (nsSet d k v) Q E s := by
  have n1 : es.any (·.key.isStr k) = false := List.any_eq_false.mpr fun e he => by rw [hs e he]; exact fun z => nomatch z
  have n2 : es.any (·.refKey) = false := List.any_eq_false.mpr fun e he => by rw [hr e he]; exact fun z => nomatch z
  have put : Obj.putName k (PyData.keyHash w.params k) (.str k s.toks) v (PySem.W.dictOf es n) = PySem.W.dictOf (es ++ [⟨PyData.keyHash w.params k, .str k s.toks, v⟩]) (n + 1) := by
    have e2 : PySem.W.putN k es n = n + 1 := by
      unfold PySem.W.putN
      rw [n1, if_neg (fun z => nomatch z)]
    rw [PySem.W.putName_dict, PySem.W.putL_new hs, e2]
  have may : aRefKeyMayBeTheName k es.toArray = false := by
    rw [aRefKeyMayBeTheName_at, ← Array.any_toList, ← Array.any_toList]
    show (!es.any _ && es.any _) = false
    rw [n2, Bool.and_false]
  unfold nsSet
  apply wpAny_bind
  apply wpAny_bind
  apply wpAny_askSetting
  apply wpAny_pure
  apply wpAny_bind
  apply wpAny_mkText
  apply wpAny_bind
  refine wpAny_loadPart (M := model prog w) (A := A) (E := E) (s := { s with toks := s.toks + 1 }) ho ?_
  dsimp only [PySem.W.dictOf]
  rw [may, if_neg (fun z => nomatch z : ¬ (false = true))]
  have upd := wpAny_updatePart (M := model prog w) (A := A) (E := E) (part := some (Value.str k 0)) (f := Obj.putName k (PyData.keyHash w.params k) (.str k s.toks) v) (Q := Q) (s := { s with toks := s.toks + 1 }) ho
  refine upd ?_
  refine h _ ?_ (fun b hb => Heap.get?_update_other _ _ (Ne.symm hb)) ?_
  · have := Heap.get?_update_self (f := Obj.putName k (PyData.keyHash w.params k) (.str k s.toks) v) (h := s.heap) ho (by rw [put]; rfl)
    rw [put] at this
    exact this
  · exact Heap.size_update ..
theorem fill {d : Addr} {Q : PUnit → Shared → Prop} : ∀ (ex : List (Str × Value)) (s : Shared) (es : List DictEntry) (n : Nat), s.heap.get? d = some (PySem.W.dictOf es n) → (∀ e ∈ es, ∀ x ∈ ex, e.key.isStr x.1 = false) → (∀ e ∈ es, e.refKey = false) → (ex.map (·.1)).Nodup →
    (∀ h' : Heap, h'.get? d = some (PySem.W.dictOf (es ++ PySem.W.kwEs w.params s.toks ex) (n + ex.length)) → (∀ b, b ≠ d → h'.get? b = s.heap.get? b) → h'.objs.size = s.heap.objs.size → Q ⟨⟩ { s with heap := h', toks := s.toks + ex.length }) →
    wpAny (model prog w) A (forIn ex PUnit.unit fun x _ => (nsSet d x.1 x.2 >>= fun _ => pure (ForInStep.yield PUnit.unit))) Q E s
  | [], s, es, n, ho, _, _, _, h => by
    rw [List.forIn_nil]
    apply wpAny_pure
    refine h s.heap ?_ (fun _ _ => rfl) rfl
    show _ = some (PySem.W.dictOf (es ++ []) n)
    rw [List.append_nil]
    exact ho
  | x :: r, s, es, n, ho, hs, hr, hn, h => by
    rw [List.map_cons, List.nodup_cons] at hn
    rw [List.forIn_cons]
    apply wpAny_bind
    apply wpAny_bind
    refine put_name ho (fun e he => hs e he x List.mem_cons_self) hr fun h1 g1 g2 g3 => ?_
    apply wpAny_pure
    refine fill r { s with heap := h1, toks := s.toks + 1 } _ _ g1 (fun e he y hy => ?_) (fun e he => ?_) hn.2 fun h2 q1 q2 q3 => ?_
    · rcases List.mem_append.mp he with z | z
      · exact hs e z y (List.mem_cons_of_mem _ hy)
      · rw [List.mem_singleton] at z
        subst z
        exact beq_eq_false_iff_ne.mpr fun q => hn.1 (List.mem_map.mpr ⟨y, hy, (show x.1 = y.1 from q).symm⟩)
    · rcases List.mem_append.mp he with z | z
      · exact hr e z
      · rw [List.mem_singleton] at z
        subst z
        rfl
    · have t1 : s.toks + 1 + r.length = s.toks + (x :: r).length := by rw [List.length_cons]; omega
      have t2 : n + 1 + r.length = n + (x :: r).length := by rw [List.length_cons]; omega
      show Q ⟨⟩ { s with heap := h2, toks := s.toks + 1 + r.length }
      rw [t1]
      refine h h2 ?_ (fun b hb => (q2 b hb).trans (g2 b hb)) (q3.trans g3)
      rw [t2, List.append_assoc] at q1
      exact q1
end
/-- keywords whose values are texts -/
def KwR (kw : List (Str × Value)) (nm : List (Str × Str)) : Prop := Paired (fun a b => a.1 = b.1 ∧ ∃ t, a.2 = Value.str b.2 t) kw nm
theorem KwR.keys : ∀ {kw : List (Str × Value)} {nm : List (Str × Str)}, KwR kw nm → kw.map (·.1) = nm.map (·.1)
  | _, _, .nil => rfl
  | _, _, .cons a b => by
    rw [List.map_cons, List.map_cons, a.1, KwR.keys b]
abbrev nmV (nm : List (Str × Str)) : List (Key × V) := nm.map fun p => (Sum.inr p.1, V.str p.2)
theorem KwR.kv : ∀ {kw : List (Str × Value)} {nm : List (Str × Str)}, KwR kw nm → KV (nmV nm) (kw.map fun x => ((Sum.inr x.1 : Key), x.2))
  | _, _, .nil => .nil
  | _, _, .cons a b => .cons ⟨congrArg Sum.inr a.1.symm, a.2⟩ (KwR.kv b)
theorem kw_pairs {P : Program} {w : World} : ∀ (kw : List (Str × Value)) (t : Tok), Pairs (mixKind P w) (PySem.W.kwEs w.params t kw) (kw.map fun x => ((Sum.inr x.1 : Key), x.2))
  | [], _ => .nil
  | x :: r, t => .cons (show Value.isStrOf x.1 (.str x.1 t) = true from by simp [Value.isStrOf, Value.isStr]) rfl (kw_pairs r (t + 1))
theorem kw_keysOf {P : Program} {w : World} (kw : List (Str × Value)) (t : Tok) : KeysOf (mixKind P w) (PySem.W.kwEs w.params t kw).toArray := fun e he => by
  obtain ⟨k, u, hk, hh⟩ := PySem.W.kwEs_key kw t e (List.mem_toArray.mp he)
  refine ⟨Sum.inr k, ?_, hh.trans rfl⟩
  show Value.isStrOf k e.key = true
  rw [hk]
  simp [Value.isStrOf, Value.isStr]
end OX
set_option Elab.async false
set_option linter.all false
set_option maxRecDepth 100000
set_option maxHeartbeats 1000000
/-! OXV: the promise of a def with **, its call. -/
namespace OX
open PySem L2
theorem On.laid {F H F' H' : Hp} {d : Addr} {o : HO} (hd : H d = none) (l : Le F H) (h : On (upd F d o) (upd H d o) F' H' fun _ => False) : On F H F' H' fun _ => False := by
  have fd := l.none hd
  refine ⟨(le_upd fd).trans h.le, h.le', fun a q => ?_, fun a u e1 e2 n => ?_⟩
  · by_cases z : a = d
    · subst z
      exact .inr hd
    · rcases h.new a q with y | y
      · rw [upd_ne z] at y
        exact .inl y
      · rw [upd_ne z] at y
        exact .inr y
  · have z : a ≠ d := fun z => by
      subst z
      rw [hd] at e2
      cases e2
    exact h.keep a u (by rw [upd_ne z]; exact e1) (by rw [upd_ne z]; exact e2) n
structure FnW (P : Program) (w : World) (K : PySem.W.Frag) (mg : Str → Option Value) (base : Heap) (k : Nat) (f : Addr) (keys : List Str) (R : D → List (Str × Str) → D → Prop) : Prop where
  go : ∀ (A : Around), Room k A → ∀ (outer : List Env) (s : Shared) (H : Hp), Env0 P w K mg base A outer s H → ∀ (u : Value) (v : V) (kw : List (Str × Value)) (nm : List (Str × Str)) (F : Hp) (d x : D) (Q : VK) (E : XK), RelV v u → KwR kw nm → nm.map (·.1) = keys → Le F H → Da K F v d → R d nm x → (∀ v' F' H', On F H F' H' (fun _ => False) → Da K F' v' x → Q v' H') →
    codeAny (model P w) A (.call (.ref f) ⟨[u], kw⟩) (CR CX0 outer P w H s Q E) s
theorem FnW.of {P : Program} {w : World} {K : PySem.W.Frag} {mg : Str → Option Value} {base : Heap} {x qual p1 pd : Str} {st : Stmt} {f : Addr} {fd : FuncData} {N keys : List Str} {k : Nat} {R : D → List (Str × Str) → D → Prop} (F : Fun K x qual st f fd) (S : FnScope N [p1, pd] (defScope st)) (hk : keys.Nodup) (hkl : keys.length ≤ 1000)
    (bind : ∀ (kV doc pm : Value) (an : Option Addr) (cdv ct u : Value) (kw : List (Str × Value)), kw.map (·.1) = keys → bindArgs (PySem.W.fnOf x qual (defArgs st) (defBody st) (defScope st) .none kV doc pm an cdv ct) ⟨[u], kw⟩ = (alloc ({ cls := .type "dict", data := .dict #[] } : Obj) >>= fun d => (forIn kw PUnit.unit fun y _ => (nsSet d y.1 y.2 >>= fun _ => pure (ForInStep.yield PUnit.unit))) >>= fun _ => pure [(p1, u), (pd, Value.ref d)]))
    (body : ∀ (cdv : Value) (A : Around) (outer : List Env) (s : Shared) (H : Hp) (E : XK), Room k (A.deeper (PyProof.Rows.envOfC qual (defScope st) s.heap.objs.size f cdv)) → ∀ d nm y, nm.map (·.1) = keys → R d nm y →
      ES (bodyX P w K mg base N qual st f cdv A outer s H E) (defBody st) (dsl [d, dictD (kvS PyData.str nm)] N.length) { nx := fun _ => y = .none, rt := fun _ z => z = y }) : FnW P w K mg base (k + 1) f keys R := by
  obtain ⟨oc, od, kV, doc, pm, an, cdv, ct, osl, rfl, look, code⟩ := F.ex
  refine ⟨fun A room outer s H en u v kw nm F d y Q E rv hkw hkeys hl hd hR hQ => ?_⟩
  have hpl : 2 ≤ N.length := by
    have := congrArg List.length S.pre
    rw [List.length_take] at this
    simp only [List.length_cons, List.length_nil] at this
    omega
  have hkk : kw.map (·.1) = keys := hkw.keys.trans hkeys
  have nlen : nm.length ≤ 1000 := by
    have := congrArg List.length hkeys
    rw [List.length_map] at this
    omega
  refine StX.run_bnd look code S room en (G := fun xs H2 => ∃ dd, H dd = none ∧ xs = [v, V.ref dd] ∧ H2 = upd H dd (.dK (nmV nm))) (fun A' Ex Q' want => ?_) fun s2 H2 xs ⟨dd, hdd, ex, eH⟩ hr' => ?_
  · rw [bind kV doc pm an cdv ct u kw hkk]
    apply wpAny_bind
    apply wpAny_alloc
    apply wpAny_bind
    have hnd : (kw.map (·.1)).Nodup := by rw [hkk]; exact hk
    have h0 : (s.heap.push ({ cls := .type "dict", data := .dict #[] } : Obj)).get? s.heap.objs.size = some (PySem.W.dictOf [] 0) := Heap.get?_push_size _ rfl
    refine fill (w := w) kw { s with heap := s.heap.push ({ cls := .type "dict", data := .dict #[] } : Obj) } [] 0 h0 (fun _ z => nomatch z) (fun _ z => nomatch z) hnd fun h' g1 g2 g3 => ?_
    apply wpAny_pure
    have g3 : h'.objs.size = s.heap.objs.size + 1 := g3.trans (Heap.size_push _ _)
    have kp : ∀ b o, s.heap.get? b = some o → h'.get? b = some o := fun b o e => (g2 b (Nat.ne_of_lt (Heap.lt_size e))).trans (Heap.get?_push_of_some _ e)
    have hn : H s.heap.objs.size = none := en.hok.fresh (Nat.le_refl _)
    have big := StX.env0_big en
    have new : ObjOk P w (upd H s.heap.objs.size (.dK (nmV nm))) h' s.heap.objs.size (.dK (nmV nm)) := by
      refine ⟨?_, beq_eq_false_iff_ne.mpr (Nat.ne_of_gt big), kw.map fun z => (Sum.inr z.1, z.2), hkw.kv, PySem.W.dictOf (PySem.W.kwEs w.params s.toks kw) kw.length, (PySem.W.kwEs w.params s.toks kw).toArray, kw.length, ?_, ⟨rfl, rfl, rfl⟩, rfl, kw_keysOf kw _, kw_pairs kw _, ?_⟩
      · show (nm.map _).length ≤ sizeLine
        rw [List.length_map, sizeLine_eq]
        omega
      · rw [List.nil_append, Nat.zero_add] at g1
        exact g1
      · rw [List.map_map]
        have e : ((·.1) ∘ fun z : Str × Value => ((Sum.inr z.1 : Key), z.2)) = Sum.inr ∘ (·.1) := rfl
        rw [e, ← List.map_map]
        exact hnd.map Sum.inr fun a b h z => h (Sum.inr.inj z)
    have e2 : Env0 P w K mg base A outer { s with heap := h', toks := s.toks + kw.length } (upd H s.heap.objs.size (.dK (nmV nm))) := by
      refine ⟨en.frames, en.mod, fun b o e => ⟨kp b o (en.bs b o e).1, ?_⟩, ?_, Heap.FunFrames.of_keeps (fun b o e _ => ⟨o, kp b o e, rfl⟩) en.funs, fun b hb => ?_, en.hok.laid kp (Nat.le_refl _) new, en.bare⟩
      · rw [upd_ne (Nat.ne_of_lt (Heap.lt_size (en.bs b o e).1))]
        exact (en.bs b o e).2
      · have := en.bsz
        show base.objs.size ≤ h'.objs.size
        omega
      · obtain ⟨_, o, ho, _⟩ := en.funs.mem hb
        rw [upd_ne (Nat.ne_of_lt (Heap.lt_size ho))]
        exact en.frf b hb
    exact want _ _ [v, V.ref s.heap.objs.size] [u, Value.ref s.heap.objs.size] e2 (Un.laid kp (Nat.le_refl _) hn) rfl (fun _ _ z => z) (.cons rv (.cons rfl .nil)) rfl ⟨_, hn, rfl, rfl⟩
  · subst ex eH
    have fdd := hl.none hdd
    have l2 : Le (upd F dd (.dK (nmV nm))) (upd H dd (.dK (nmV nm))) := by
      refine fun a o e => ?_
      by_cases z : a = dd
      · subst z
        rw [upd_same] at e ⊢
        exact .inl e
      · rw [upd_ne z] at e ⊢
        exact hl a o e
    have da : DaAll K (upd F dd (.dK (nmV nm))) [v, V.ref dd] [d, dictD (kvS PyData.str nm)] := .cons (hd.mono (le_upd fdd)) (.cons (.dct (.inl upd_same) (kvok_strs nm).daKV) .nil)
    have C := conc_start (N := N) l2 da hpl
    have fin : ∀ {ρ : List Sl} {σ : L2.St} {F' H' : Hp} {z : V}, Conc K ⟨upd F dd (.dK (nmV nm)), upd H dd (.dK (nmV nm)), fun _ => False, []⟩ ρ σ F' H' → Da K F' z y → Q z H' := fun {ρ σ F' H' z} C' dz => by
      refine hQ z F' H' (On.laid hdd hl ⟨C'.base, C'.le, fun a h => ?_, fun a u e1 e2 _ => C'.frame a u e1 e2 fun z => z⟩) dz
      rcases C'.new a h with z | z | z
      · exact .inl z
      · exact .inr z
      · exact z.elim
    obtain ⟨t, D0, h1, l1, h2⟩ := (body cdv A outer s2 (upd H dd (.dK (nmV nm))) E hr' d nm y hkeys hR _ _ _ _ C).le (show EndLe (SN.ends K ⟨upd F dd (.dK (nmV nm)), upd H dd (.dK (nmV nm)), fun _ => False, []⟩ { nx := fun _ => y = .none, rt := fun _ z => z = y }) { nx := fun _ H' => Q .non H', rt := Q } from ⟨fun σ' H' ⟨ρ', F', C', e⟩ => by
      subst e
      exact fin C' .non, fun z H' q => Or.elim q (fun ⟨ρ', σ', F', dz, C', d1, e⟩ => by
        subst e
        exact fin C' d1) (fun ⟨_, _, _, _, _, _, q⟩ => False.elim q), fun _ _ ⟨_, _, _, q⟩ => q.elim, fun _ _ ⟨_, _, _, q⟩ => q.elim⟩)
    exact ⟨tssU _ (defBody st), PSs.nox pssU, t, D0, h1, l1, h2⟩
/-! ### the call -/
def tWk (K : PySem.W.Frag) (keys : List Str) (R : D → List (Str × Str) → D → Prop) (ta tk : TA) : TE := fun σ H Q => ta σ H fun vs H1 => tk σ H1 fun zs H2 => ∃ (v : V) (F : Hp) (d y : D) (nm : List (Str × Str)), vs = [v] ∧ zs = (nm.map (·.2)).map V.str ∧ nm.map (·.1) = keys ∧ Le F H2 ∧ Da K F v d ∧ R d nm y ∧ ∀ v' F' H', On F H2 F' H' (fun _ => False) → Da K F' v' y → Q v' H'
theorem kwR_zip : ∀ {nm : List (Str × Str)} {ws : List Value}, Vals ((nm.map (·.2)).map V.str) ws → KwR ((nm.map (·.1)).zip ws) nm
  | [], _, h => by
    cases h
    exact .nil
  | p :: nm, _, h => by
    cases h with
    | cons a b => exact .cons ⟨rfl, a⟩ (kwR_zip b)
section
variable {X : Cx} {k : Nat} {f : Addr} {keys : List Str} {R : D → List (Str × Str) → D → Prop} {x : Str} {p pos kpos : Pos} {e : Expr} {kws : List Keyword} {ta tk : TA} {ρ ρ1 ρ2 : List Sl} {d y : D} {ss : List Str} {z : Str} {nmo : Option Str}
theorem pe_callW (G : FnW X.prog X.w X.K X.mg X.base k f keys R) (hr : Room k X.A) (hg : Gl X x) (hm : X.mg x = some (.ref f)) (hk : PySem.W.keepIn X.K (.ref f) = true) (ha : PA X [e] ta) (hkw : PK X kws tk)
    (hall : (backToKw pos (keywordEach kws X.env)).all (·.1.isSome) = true) (hks : (backToKw pos (keywordEach kws X.env)).filterMap (·.1) = keys) (hdb : (x == ("__debug__" : Str)) = false) (he : starEach [e] X.env = (false, eval e X.env) :: starEach [] X.env)
    (hpl : ((backTo pos (starEach [e] X.env)).any (·.1) || (backToKw pos (keywordEach kws X.env)).any (·.1.isNone)) = false) : PE X (.Call (.Name x p) [e] kws pos) (tWk X.K keys R ta tk) := by
  constructor
  intro pins s σ H Q I want
  apply wpAny_Call_Name_kw
  apply ld_glob I hg hm _ hdb
  apply PySem.W.callWith_KW (h₀ := X.base) I.ok.mod.kin hk hall _ hpl he
  refine thn (ha.run pos pins s σ H _ I want) ?_
  rintro us s1 ⟨vs, H1, I1, rel, q⟩
  refine thn (hkw.run pos pins s1 σ H1 _ I1 q) ?_
  rintro ws s2 ⟨zs, H2, I2, rz, v, F, d, y, nm, ev, ez, en, hl, hd, hR, hQ⟩
  subst ev ez
  obtain ⟨u, rfl, ru⟩ := vals1 rel
  refine ⟨I2.kIn, ?_⟩
  rw [hks, ← en]
  refine PySem.wpAny_call (PySem.codeAny_mono (G.go X.A hr X.stack s2 H2 I2.env0 u v _ nm F d y Q E0 ru (kwR_zip rz) en hl hd hR hQ) ?_)
  intro r s3 end_
  match r, end_ with
  | .ok (.ret u), h => exact I2.after h
  | .ok .next, h => exact h.elim
  | .ok .brk, h => exact h.elim
  | .ok .cont, h => exact h.elim
  | .error _, h => exact h.elim
def pkU (X : Cx) (kws : List Keyword) : TA := fun σ H Q => ∃ t : TA, PK X kws t ∧ t σ H Q
theorem pkU_pk : PK X kws (pkU X kws) := ⟨fun pos pins s σ H Q I ⟨_, h, q⟩ => h.run pos pins s σ H Q I q⟩
structure EK (X : Cx) (kws : List Keyword) (ρ : List Sl) (ss : List Str) (ρ' : List Sl) : Prop where
  run : ∀ (β : Bs) (σ : L2.St) (F H : Hp), Conc X.K β ρ σ F H → ∀ Q : List V → Hp → Prop, (∀ F' H', Conc X.K β ρ' σ F' H' → Le F F' → Q (ss.map V.str) H') → pkU X kws σ H Q
theorem ek_nil : EK X [] ρ [] ρ := ⟨fun β σ F H C Q k => ⟨_, pk_nil, k F H C (.refl F)⟩⟩
theorem ek_cons (h : EV X e ρ (.d (.str z)) ρ1) (t : EK X kws ρ1 ss ρ2) : EK X (⟨nmo, e, kpos⟩ :: kws) ρ (z :: ss) ρ2 := ⟨fun β σ F H C Q k =>
  ⟨_, pk_cons peU pkU_pk, h β σ F H C _ fun v F1 H1 C1 l1 r1 => t.run β σ F1 H1 C1 _ fun F2 H2 C2 l2 => by
    have e1 := Da.str_eq r1
    rw [e1]
    exact k F2 H2 C2 (l1.trans l2)⟩⟩
theorem zip_fst : ∀ {ks : List Str} {ss : List Str}, ks.length = ss.length → (ks.zip ss).map (·.1) = ks ∧ (ks.zip ss).map (·.2) = ss
  | [], [], _ => ⟨rfl, rfl⟩
  | [], _ :: _, h => nomatch h
  | _ :: _, [], h => nomatch h
  | a :: ks, b :: ss, h => by
    obtain ⟨h1, h2⟩ := zip_fst (ks := ks) (ss := ss) (by simpa using h)
    exact ⟨congrArg (a :: ·) h1, congrArg (b :: ·) h2⟩
theorem ev_callW (G : FnW X.prog X.w X.K X.mg X.base k f keys R) (hr : Room k X.A) (hg : Gl X x) (hm : X.mg x = some (.ref f)) (hk : PySem.W.keepIn X.K (.ref f) = true) (ha : EV X e ρ (.d d) ρ1) (hkw : EK X kws ρ1 ss ρ2) (hl : keys.length = ss.length) (hR : R d (keys.zip ss) y)
    (hall : (backToKw pos (keywordEach kws X.env)).all (·.1.isSome) = true := by rfl) (hks : (backToKw pos (keywordEach kws X.env)).filterMap (·.1) = keys := by rfl) (hdb : (x == ("__debug__" : Str)) = false := by decide) (he : starEach [e] X.env = (false, eval e X.env) :: starEach [] X.env := by rfl)
    (hpl : ((backTo pos (starEach [e] X.env)).any (·.1) || (backToKw pos (keywordEach kws X.env)).any (·.1.isNone)) = false := by rfl) : EV X (.Call (.Name x p) [e] kws pos) ρ (.d y) ρ2 := .mk fun β σ F H C Q kk => by
  obtain ⟨z1, z2⟩ := zip_fst hl
  refine ⟨_, pe_callW G hr hg hm hk paU pkU_pk hall hks hdb he hpl, (ea_cons (rs := []) (ha) ea_nil rfl he) β σ F H C _ fun vs F1 H1 C1 l1 r1 => hkw.run β σ F1 H1 C1 _ fun F2 H2 C2 l2 => ?_⟩
  obtain ⟨v, rfl, r2⟩ := r1.one
  refine ⟨v, F2, d, y, keys.zip ss, rfl, by rw [z2], z1, C2.le, Da.mono l2 r2, hR, fun v' F' H' o dv => ?_⟩
  exact kk v' F' H' (C2.on o) ((l1.trans l2).trans o.le) dv
end
end OX
set_option Elab.async false
set_option linter.all false
set_option maxRecDepth 100000
set_option maxHeartbeats 1000000
/-! OXE: the end of a law whose promise is a quiet one. -/
namespace OX
open PySem PySem.Spec PyProof.Rows L2
/-- the script alone is tracked, if it is no object of the module -/
def onlyH (K : PySem.W.Frag) (a : Addr) (o : Obj) (xs : List V) : Hp := fun b => match K.lookup a with
  | none => if b = a then some (.frz o (.lst xs)) else none
  | some _ => none
theorem onlyH_some {K : PySem.W.Frag} {a : Addr} {o : Obj} {xs : List V} {b : Addr} {u : HO} (h : onlyH K a o xs b = some u) : b = a ∧ K.lookup a = none ∧ u = .frz o (.lst xs) := by
  unfold onlyH at h
  split at h
  · rename_i q
    split at h
    · rename_i e
      cases h
      exact ⟨e, q, rfl⟩
    · cases h
  · cases h
theorem onlyH_self {K : PySem.W.Frag} {a : Addr} {o : Obj} {xs : List V} (h : K.lookup a = none) : onlyH K a o xs a = some (.frz o (.lst xs)) := by
  unfold onlyH
  rw [h]
  exact if_pos rfl
theorem law_go {P : Program} {w : World} {K : PySem.W.Frag} {mg mb : Str → Option Value} {k : Nat} {fa a : Addr} {fd : FuncData} {x : Str} {R : List D → D → Prop} {s₁ : Shared} {vs : List Value} {ns : List Int}
    (KX : K.In s₁.heap) (hns : s₁.heap.Ns mainGlobals mg) (hb : s₁.heap.Ns builtinsNs mb) (hbb : ∀ x : Str, x ≠ "__name__" → mb x = bootBuiltins x) (hlim : s₁.heap.NoLimit) (hg : s₁.gens = #[])
    (ha : s₁.heap.get? a = some { cls := .type "list", data := .seq vs.toArray }) (hi : IntsAre vs ns) (hl : ns.length ≤ sizeLine) (hr : Room k callerA)
    (F : ∀ base : Heap, K.In base → base.Ns mainGlobals mg → FnQ P w K mg base k fa fd [x] (spD K R)) (bind : ∀ (s : Shared) (u : Value), BindsTo s fd ⟨[u], []⟩ [(x, u)]) (hR : R [.list (ns.map PyData.int)] (.bool true)) :
    codeAny (model P w) callerA (.call (.ref fa) ⟨[.ref a], []⟩) (fun r s' => r = .ok (.ret (.bool true)) ∧ PySem.OldK s₁.heap s'.heap ∧ s'.os = s₁.os ∧ AllBare s'.gens) s₁ := by
  have rel := vals_ints hi
  have lenV := hi.length
  let ob : Obj := { cls := .type "list", data := .seq vs.toArray }
  let H := onlyH K a ob (ns.map V.int)
  have none_of : ∀ {b : Addr}, (b ≠ a ∨ K.lookup a ≠ none) → H b = none := fun {b} h => by
    cases q : H b with
    | none => rfl
    | some u =>
      obtain ⟨e1, e2, _⟩ := onlyH_some q
      exact h.elim (fun z => absurd e1 z) fun z => absurd e2 z
  have notA : ∀ {b : Addr} {o : Obj} {es : Array DictEntry} {ep : Nat}, s₁.heap.get? b = some o → o.data = .dict es ep → H b = none := fun {b o es ep} e1 e2 => by
    refine none_of (.inl fun z => ?_)
    subst z
    rw [ha] at e1
    cases e1
    cases e2
  have nsK : ∀ {b : Addr} {m : Str → Option Value}, s₁.heap.Ns b m → (hidT s₁.heap H).Ns b m := fun {b m} ⟨o, es, ep, e1, e2, e3⟩ => ⟨o, es, ep, hidT_get e1 (notA e1 e2), e2, e3⟩
  have inB : K.In (hidT s₁.heap H) := fun b o e => hidT_get (KX b o e) (by
    by_cases z : b = a
    · subst z
      exact none_of (.inr (by rw [e]; exact fun z => nomatch z))
    · exact none_of (.inl z))
  have hM : Mod K mg (hidT s₁.heap H) := ⟨inB, nsK hns, ⟨mb, nsK hb, hbb⟩, by
    obtain ⟨mc, h1, h2⟩ := hlim
    exact ⟨mc, nsK h1, h2⟩⟩
  have hok : HOk P w H s₁.heap := fun b u e => by
    obtain ⟨e1, _, e3⟩ := onlyH_some e
    subst e1 e3
    exact ⟨ha, by rw [List.length_map]; exact hl, vs, _, rel, ha⟩
  have hS : SqL K H a (ns.map V.int) := by
    cases q : K.lookup a with
    | none => exact .inl (.inr ⟨ob, onlyH_self q⟩)
    | some o =>
      have e := KX a o q
      rw [ha] at e
      cases e
      exact .inr ⟨_, vs.toArray, _, q, rfl, rfl, rfl, by rw [List.size_toArray, lenV]; exact hl, by simpa using rel⟩
  have e0 : Env0 P w K mg (hidT s₁.heap H) callerA [] s₁ H := ⟨rfl, hM, fun b o e => of_hidT e, Nat.le_of_eq (hidT_size _ _), trivial, fun b z => absurd z (List.not_mem_nil), hok, .of_eq hg⟩
  have sp : spD K R [V.ref a] H (fun v _ => v = .bl true) E0 := ⟨H, [.list (ns.map PyData.int)], .bool true, .refl H, .cons (.lst hS (DaAll.of_ints ns)) .nil, hR, fun v F' H' _ d => d.bool_eq⟩
  have go := (F _ inB (nsK hns)).go callerA rfl hr [] s₁ H e0 ⟨[.ref a], []⟩ [.ref a] [V.ref a] _ E0 (bind s₁ (.ref a)) (.cons rfl .nil) sp
  refine codeAny_mono go ?_
  intro r s' end_
  match r, end_ with
  | .ok .next, h => exact h.elim
  | .ok .brk, h => exact h.elim
  | .ok .cont, h => exact h.elim
  | .error _, h => exact h.elim
  | .ok (.ret u), ⟨v, H', os, bare, un, hok', rv, q⟩ =>
    have q : v = .bl true := q
    subst q
    obtain rfl : u = Value.bool true := rv
    refine ⟨rfl, PySem.OldK.of_keep fun b o e => ?_, os, bare⟩
    cases z : H b with
    | none => exact un.keep b o e z (fun y => absurd y (List.not_mem_nil)) (by simp)
    | some t =>
      obtain ⟨e1, e2, e3⟩ := onlyH_some z
      rw [e3] at z
      have z2 := un.frzs b _ _ z
      obtain ⟨g1, _⟩ := hok b _ z
      obtain ⟨g2, _⟩ := hok' b _ z2
      rw [e] at g1
      cases g1
      exact g2
theorem walk_go {l : PySem.W.OpenLaw} {n k : Nat} {q : Program} {loose : List Str} {XP : (Str → Option Value) → Heap → Prop} {YP : World → Heap → Prop} {d : DefRec} {K : Params → PySem.W.Frag} {R : List D → D → Prop} {x : Str}
    (hn : l.most = some n) (hn2 : n ≤ sizeLine) (hdf : d.params.defaults = []) (hr : Room k callerA) (hY : ∀ (w : World) (h : Heap), YP w h → (K w.params).In h)
    (F : ∀ (w : World) (mg : Str → Option Value) (fa : Addr) (h : Heap), (K w.params).In h → h.Ns mainGlobals mg → mg d.name = some (.ref fa) →
      ∃ fd : FuncData, (∀ (s : Shared) (u : Value), BindsTo s fd ⟨[u], []⟩ [(x, u)]) ∧ ∀ base : Heap, (K w.params).In base → base.Ns mainGlobals mg → FnQ l.prog w (K w.params) mg base k fa fd [x] (spD (K w.params) R))
    (hR : ∀ ns : List Int, ns.length ≤ n → R [.list (ns.map PyData.int)] (.bool true)) : PySem.W.WalkO q loose XP YP l.row.toRowW d [] (fun f vs => PySem.call f vs) := by
  refine Att.attach_call hn hdf fun w s₀ s₁ mg mb fa o pm cd doc a vs ns G Y ho hd hcd hmg hobj hints hlen hg => ?_
  have inK := hY w _ Y
  obtain ⟨fd, hb, hF⟩ := F w mg fa _ inK G.T.g hmg
  exact law_go inK G.T.g G.T.b G.T.builtins G.T.nolimit hg hobj hints (Nat.le_trans hlen hn2) hr hF hb (hR ns hlen)
end OX
set_option Elab.async false
set_option linter.all false
set_option maxHeartbeats 1000000
/-! M9: paths. -/
namespace OX
open PySem L2
def longer (L : List Str) (last : List (List Str)) : List (List Str) := last.flatMap fun w => L.map fun l => w ++ [l]
/-- found, last -/
def shortN (L : List Str) : Nat → List (List Str) × List (List Str)
  | 0 => ([], [[]])
  | n + 1 => ((shortN L n).1 ++ longer L (shortN L n).2, longer L (shortN L n).2)
def shortOf (L : List Str) (h : Nat) : List (List Str) := (shortN L h).1
@[irreducible] def wordsOf (L : List Str) (d : Die) : List (List Str) × Die := mapS (fun (_ : Nat) d => wordOf L 4 25 d) (List.range 6) d
def pathsOf (L : List Str) (d : Die) : List (List Str) × Die := (shortOf L 3 ++ (wordsOf L d).1, (wordsOf L d).2)
/-- a path: not empty, of labels, not too long -/
structure PathOk (L : List Str) (w : List Str) : Prop where
  ne : w ≠ []
  mem : ∀ l ∈ w, l ∈ L
  len : w.length ≤ 25
theorem shortN_ok {L : List Str} : ∀ n, n ≤ 25 → (∀ w ∈ (shortN L n).1, PathOk L w) ∧ ∀ w ∈ (shortN L n).2, w.length = n ∧ ∀ l ∈ w, l ∈ L
  | 0, _ => ⟨fun w h => absurd h (List.not_mem_nil), fun w h => by
    have h : w ∈ [[]] := h
    rw [List.mem_singleton] at h
    subst h
    exact ⟨rfl, fun l hl => absurd hl (List.not_mem_nil)⟩⟩
  | n + 1, hn => by
    obtain ⟨h1, h2⟩ := shortN_ok (L := L) n (by omega)
    have key : ∀ w ∈ longer L (shortN L n).2, w.length = n + 1 ∧ ∀ l ∈ w, l ∈ L := fun w hw => by
      obtain ⟨v, hv, hw⟩ := List.mem_flatMap.mp hw
      obtain ⟨l, hl, rfl⟩ := List.mem_map.mp hw
      refine ⟨by rw [List.length_append, (h2 v hv).1]; rfl, fun x hx => ?_⟩
      rcases List.mem_append.mp hx with z | z
      · exact (h2 v hv).2 x z
      · rw [List.mem_singleton] at z
        subst z
        exact hl
    refine ⟨fun w hw => ?_, key⟩
    rcases List.mem_append.mp hw with z | z
    · exact h1 w z
    · obtain ⟨k1, k2⟩ := key w z
      exact ⟨fun e => by subst e; simp at k1, k2, by omega⟩
theorem pathsOf_ok {L : List Str} (hL : 0 < L.length) (d : Die) : ∀ w ∈ (pathsOf L d).1, PathOk L w := fun w hw => by
  rcases List.mem_append.mp hw with z | z
  · exact (shortN_ok 3 (by omega)).1 w z
  · have z : w ∈ (wordsOf L d).1 := z
    unfold wordsOf at z
    exact mapS_all (P := PathOk L) _ _ (fun _ _ s => by
      obtain ⟨h1, h2⟩ := wordOf_len (L := L) 4 25 (by omega) s
      exact ⟨fun e => by rw [e] at h1; simp at h1, wordOf_mem hL 4 25 s, h2⟩) w z
theorem wordsOf_costs (L : List Str) : Costs 156 (wordsOf L) := fun k d g => by
  have hw : ∀ x ∈ List.range 6, Costs 26 (wordOf L 4 25) := fun _ _ => wordOf_costs 4 25 (by omega)
  have h6 : (List.range 6).length ≤ 6 := by rw [List.length_range]; exact Nat.le_refl 6
  have h := mapS_cost (f := fun (_ : Nat) d => wordOf L 4 25 d) (n := 26) (m := 6) (List.range 6) hw h6 k d (g.mono (by omega))
  unfold wordsOf
  exact h
theorem pathsOf_costs (L : List Str) : Costs 156 (pathsOf L) := fun k d g => by
  have h := wordsOf_costs L k d g
  unfold pathsOf
  simp only
  exact h
theorem longer_len (L : List Str) (last : List (List Str)) : (longer L last).length = last.length * L.length := by
  unfold longer
  rw [List.length_flatMap]
  simp only [List.length_map]
  induction last with
  | nil => simp
  | cons r rs ih => rw [List.map_cons, List.sum_cons, ih, List.length_cons, Nat.succ_mul]; omega
theorem shortN_len {L : List Str} (h : L.length ≤ 4) : ∀ n, n ≤ 3 → (shortN L n).2.length ≤ 4 ^ n ∧ (shortN L n).1.length ≤ 4 ^ (n + 1)
  | 0, _ => by simp [shortN]
  | n + 1, hn => by
    obtain ⟨h1, h2⟩ := shortN_len h n (by omega)
    have h3 : (longer L (shortN L n).2).length ≤ 4 ^ (n + 1) := by
      rw [longer_len, Nat.pow_succ]
      exact Nat.mul_le_mul h1 h
    refine ⟨h3, ?_⟩
    show ((shortN L n).1 ++ longer L (shortN L n).2).length ≤ _
    rw [List.length_append, Nat.pow_succ 4 (n + 1)]
    omega
end OX
set_option Elab.async false
set_option linter.all false
set_option maxHeartbeats 1000000
/-! M10: queries as texts; what is asked of the mathematics. -/
namespace OX
open PySem L2
section
variable {X : Cx} {ρ ρ1 ρm : List Sl} {st : Stmt} {sts body orelse : List Stmt} {c : Expr} {pos : Pos} {N : SN}
/-- a statement that ends at known slots -/
theorem ec_mid (ρm : List Sl) (h : ES1 X st ρ { N with nx := fun ρ' => ρ' = ρm }) (k : ES X sts ρm N) : ES X (st :: sts) ρ N :=
  es_cons (h.le ⟨fun _ e => by subst e; exact k, fun _ _ z => z, fun _ z => z, fun _ z => z, fun _ _ z => z⟩)
theorem ec_ifM {k : Bool} (ρm : List Sl) (hc : ET X c ρ k ρ1) (h1 : k = true → ES X body ρ1 { N with nx := fun ρ' => ρ' = ρm }) (h2 : k = false → ES X orelse ρ1 { N with nx := fun ρ' => ρ' = ρm }) (h : ES X sts ρm N) : ES X (.If c body orelse pos :: sts) ρ N := ec_mid ρm (es_if hc h1 h2) h
end
theorem cost_str (x : Str) : cost (.str x) = 10 * x.length + 2 := by simp only [cost]
theorem cost_nat (n : Nat) : cost (nD n) = n + 2 := by
  unfold nD
  simp only [cost]
  omega
theorem cost_tup (xs : List D) : cost (.tuple xs) = costAll xs + 4 := by simp only [cost]
theorem cost_tS {w : List Str} {n m : Nat} (h : ∀ s ∈ w, s.length ≤ n) (hm : w.length ≤ m) : cost (tS w) ≤ (10 * n + 4) * m + 4 := by
  rw [cost_tup]
  have h1 := costAll_le (f := PyData.str) (n := 10 * n + 2) w fun s hs => by
    rw [cost_str]
    have := h s hs
    omega
  have h2 : (10 * n + 2 + 2) * w.length ≤ (10 * n + 4) * m := Nat.mul_le_mul (by omega) hm
  omega
theorem cost_tN {w : List Nat} {n m : Nat} (h : ∀ s ∈ w, s ≤ n) (hm : w.length ≤ m) : cost (tN w) ≤ (n + 4) * m + 4 := by
  rw [cost_tup]
  have h1 := costAll_le (f := nD) (n := n + 2) w fun s hs => by
    rw [cost_nat]
    have := h s hs
    omega
  have h2 : (n + 2 + 2) * w.length ≤ (n + 4) * m := Nat.mul_le_mul (by omega) hm
  omega
theorem textOk_tS {w : List Str} (h : ∀ s ∈ w, SOk s) : textOk (tS w) := by
  unfold tS
  simp only [textOk]
  exact textOkAll_map w fun s hs => by simp only [textOk]; exact h s hs
theorem textOk_tN (w : List Nat) : textOk (tN w) := by
  unfold tN
  simp only [textOk]
  exact textOkAll_map w fun s hs => by unfold nD; simp only [textOk]
theorem log_small {n : Nat} (h : n < 1000) : decide (((n : Int)).natAbs.log2 < 1920) = true := by
  refine decide_eq_true ?_
  rw [Int.natAbs_natCast]
  exact Nat.lt_trans (log2_lt' (show n < 2 ^ 10 by omega) (by decide)) (by decide)
theorem show_tS (w : List Str) : (tS w).showable = true := by
  unfold tS
  simp only [PyData.showable]
  exact showableAll_map w fun s _ => by simp only [PyData.showable]
theorem show_tN {w : List Nat} (h : ∀ s ∈ w, s < 1000) : (tN w).showable = true := by
  unfold tN
  simp only [PyData.showable]
  exact showableAll_map w fun s hs => by
    unfold nD
    simp only [PyData.showable]
    exact log_small (h s hs)
theorem Row.small {k n : Nat} {r : List Nat} (h : Row k n r) (hn : n ≤ 40) : ∀ s ∈ r, s ≤ 40 ∧ s < 1000 := fun s hs => by
  have := h.2 s hs
  omega
theorem lay_tS {w : List Str} (h : ∀ s ∈ w, SOk s) : (tS w).canLay0 = true := enc_str.tup.lay w h
theorem lay_tN (w : List Nat) : (tN w).canLay0 = true := enc_nat.tup.lay w fun _ _ => trivial
theorem dep_tS (w : List Str) : (tS w).depth ≤ 2 := dp_tup dp_str w
theorem dep_tN (w : List Nat) : (tN w).depth ≤ 2 := dp_tup dp_nat w
theorem Qu.Ok.reprOk {q : Qu} (ok : q.Ok) : ReprOk q.D := by
  have hL : ∀ s ∈ q.L, SOk s := fun s hs => (ok.labs.2.2.1 s hs).sok
  have hC : ∀ s ∈ q.co, SOk s := fun s hs => (ok.co s hs).sok
  have hLl : ∀ s ∈ q.L, s.length ≤ 8 := fun s hs => (ok.labs.2.2.1 s hs).2.1
  have hCl : ∀ s ∈ q.co, s.length ≤ 8 := fun s hs => (ok.co s hs).2.1
  have hl4 := ok.labs.2.1
  have hn2 := ok.n2
  have lrw : (PyData.tuple (q.rw.map tN)).canLay0 = true := enc_nat.tup.tup.lay q.rw fun _ _ _ _ => trivial
  refine ⟨?_, ?_, ?_, ?_, ?_, .inr ⟨_, rfl⟩⟩
  · unfold Qu.D
    simp only [PyData.canLay0, PyData.canLayAll0] at *
    have h1 := lay_tS hL
    have h2 := lay_tN q.ro
    have h3 := lay_tS hC
    unfold tS at h1 h3
    unfold tN at h2
    simp only [PyData.canLay0] at h1 h2 h3
    rw [h1, h2, h3, lrw]
    rfl
  · unfold Qu.D
    have h1 := show_tS q.L
    have h2 := show_tN fun s hs => (ok.ro.small hn2 s hs).2
    have h3 := show_tS q.co
    have h4 : PyData.showableAll (q.rw.map tN) = true := showableAll_map q.rw fun r hr => show_tN fun s hs => ((ok.rw r hr).small hn2 s hs).2
    simp only [PyData.showable, PyData.showableAll] at *
    rw [h1, h2, h3, h4]
    rfl
  · unfold Qu.D
    have h1 := textOk_tS hL
    have h2 := textOk_tN q.ro
    have h3 := textOk_tS hC
    have h4 : textOkAll (q.rw.map tN) := textOkAll_map q.rw fun r _ => textOk_tN r
    simp only [textOk, textOkAll] at *
    exact ⟨h1, h2, h4, h3, trivial⟩
  · unfold Qu.D
    have h1 := dep_tS q.L
    have h2 := dep_tN q.ro
    have h3 := dep_tS q.co
    have h4 : (PyData.tuple (q.rw.map tN)).depth ≤ 3 := dp_tup (dp_tup dp_nat) q.rw
    simp only [PyData.depth, PyData.depthAll] at *
    omega
  · unfold Qu.D
    have h1 := cost_tS hLl hl4
    have h2 := cost_tN (n := 40) (m := 4) (fun s hs => (ok.ro.small hn2 s hs).1) (by rw [ok.ro.1]; exact hl4)
    have h3 := cost_tS hCl (show q.co.length ≤ 40 by rw [ok.cn]; exact hn2)
    have h4 : cost (.tuple (q.rw.map tN)) ≤ 300 * 40 + 4 := by
      rw [cost_tup]
      have h5 := costAll_le (f := tN) (n := 180) q.rw fun r hr => by
        have := cost_tN (n := 40) (m := 4) (fun s hs => ((ok.rw r hr).small hn2 s hs).1) (by rw [(ok.rw r hr).1]; exact hl4)
        omega
      have h6 : (180 + 2) * q.rw.length ≤ 300 * 40 := Nat.mul_le_mul (by omega) hn2
      omega
    rw [cost_tup]
    simp only [costAll]
    omega
theorem Qu.Ok.lay {q : Qu} (ok : q.Ok) : q.D.canLay0 = true := ok.reprOk.lay
theorem Qu.Ok.shaped {q : Qu} (ok : q.Ok) : SeqAt.shaped q.D = true := shd ok.lay ok.reprOk.dep
theorem Qu.Ok.eqv {q : Qu} (ok : q.Ok) : PyData.eqv q.D q.D = true := SeqAt.eqv_refl q.D ok.lay
/-! ### what is asked -/
structure MathQ : Prop where
  least : ∀ q : Qu, q.Ok → Least q (leastL q)
  col : ∀ (q : Qu) (l : Str) (w : List Str), q.Ok → l ∈ q.L → (∀ a ∈ w, a ∈ q.L) → (leastL q).co.getD ((leastL q).run ((leastL q).root l) w) default = q.co.getD (q.run (q.root l) w) default
  same : ∀ q r : Qu, q.Ok → r.Ok → q.L = r.L → (∀ (l : Str) (w : List Str), l ∈ q.L → (∀ a ∈ w, a ∈ q.L) → q.co.getD (q.run (q.root l) w) default = r.co.getD (r.run (r.root l) w) default) → leastL q = leastL r
theorem at_ok {q : Qu} (ok : q.Ok) {w : List Str} (h : ∀ a ∈ w, a ∈ q.L) : (q.at w).Ok := by
  cases w with
  | nil => exact ok
  | cons l w =>
    have h1 : q.run (q.root l) w < q.rw.length := ok.run_lt (ok.root_lt (h l List.mem_cons_self)) fun a ha => h a (List.mem_cons_of_mem _ ha)
    exact ⟨ok.labs, ok.n1, ok.n2, ok.row h1, ok.rw, ok.cn, ok.co⟩
theorem at_L (q : Qu) (w : List Str) : (q.at w).L = q.L := by cases w <;> rfl
theorem at_rw (q : Qu) (w : List Str) : (q.at w).rw = q.rw := by cases w <;> rfl
theorem run_cons (q : Qu) (s : Nat) (l : Str) (w : List Str) : q.run s (l :: w) = q.run (q.step s l) w := rfl
theorem run_app (q : Qu) (s : Nat) (v w : List Str) : q.run s (v ++ w) = q.run (q.run s v) w := List.foldl_append
/-- behind a whole path -/
def Qu.beh (q : Qu) : List Str → Nat
  | [] => 0
  | l :: w => q.run (q.root l) w
theorem at_beh (q : Qu) (a : Str) (w : List Str) (l : Str) (v : List Str) : (q.at (a :: w)).run ((q.at (a :: w)).root l) v = q.run (q.root a) (w ++ l :: v) := by
  rw [run_app]
  rfl
theorem at_at {q : Qu} {a : Str} {w : List Str} {b : Str} {v : List Str} : (q.at (a :: w)).at (b :: v) = q.at (a :: (w ++ b :: v)) := by
  show ({ q.at (a :: w) with ro := _ } : Qu) = { q with ro := _ }
  rw [at_beh, at_rw]
  rfl
end OX
set_option Elab.async false
set_option linter.all false
set_option maxHeartbeats 1000000
/-! M11: the die behind the law's questions. -/
namespace OX
open PySem L2
def belowDie (L : List Str) (d : Die) : Die := (wordOf L 0 3 (pathsOf L (wordOf L 0 6 d).2).2).2
def belowN (L : List Str) : Nat → Die → Die
  | 0, d => d
  | n + 1, d => belowDie L (belowN L n d)
theorem belowDie_good {L : List Str} {k : Nat} {d : Die} (g : Good (k + 200) d) : Good k (belowDie L d) := by
  unfold belowDie
  have g1 : Good (k + 193) (wordOf L 0 6 d).2 := wordOf_costs 0 6 (by omega) _ _ (g.mono (by omega))
  have g2 : Good (k + 37) (pathsOf L (wordOf L 0 6 d).2).2 := pathsOf_costs L _ _ (g1.mono (by omega))
  exact wordOf_costs 0 3 (by omega) k _ (g2.mono (by omega))
theorem belowN_good {L : List Str} : ∀ {n k : Nat} {d : Die}, Good (k + 200 * n) d → Good k (belowN L n d)
  | 0, k, d, g => g
  | n + 1, k, d, g => belowDie_good (belowN_good (n := n) (k := k + 200) (g.mono (by omega)))
end OX
set_option Elab.async false
set_option linter.all false
set_option maxHeartbeats 1000000
/-! M12: queries read through dicts. -/
namespace OX
open PySem L2
def six : List Str := ["a", "b", "new", "query", "self", "zz"]
def newOf (d : Die) : List Str × Die := ((shuffle six d).1.take (1 + (pull 4 (shuffle six d).2).1), (pull 4 (shuffle six d).2).2)
def namesT (L : List Str) (l : Str) (d : Die) : (Str × Str) × Die := ((l, (pick L d).1), (pick L d).2)
def namesD (L new : List Str) (d : Die) : List (Str × Str) × Die := mapS (namesT L) new d
def readDie (L : List Str) (d : Die) : Die := (pathsOf (sortS (newOf d).1) (namesD L (newOf d).1 (newOf d).2).2).2
def readN (L : List Str) : Nat → Die → Die
  | 0, d => d
  | n + 1, d => readDie L (readN L n d)
theorem six_ok : six.length = 6 ∧ six.Nodup ∧ ∀ s ∈ six, Lab s := by
  have h : (decide (six.length = 6) && decide six.Nodup && six.all labCheck) = true := by decide +kernel
  rw [Bool.and_eq_true, Bool.and_eq_true] at h
  exact ⟨of_decide_eq_true h.1.1, of_decide_eq_true h.1.2, fun s hs => labCheck_lab (List.all_eq_true.mp h.2 s hs)⟩
structure NewOk (new : List Str) : Prop where
  nd : new.Nodup
  lab : ∀ s ∈ new, Lab s
  n1 : 1 ≤ new.length
  n4 : new.length ≤ 4
theorem newOf_ok (d : Die) : NewOk (newOf d).1 := by
  unfold newOf
  have h1 := shuffle_perm six d
  generalize shuffle six d = s at *
  have h2 := pull_lt (m := 4) s.2 (by decide)
  generalize pull 4 s.2 = k at *
  have hl : s.1.length = 6 := by rw [h1.length_eq]; exact six_ok.1
  refine ⟨(List.take_sublist _ _).nodup (h1.nodup_iff.mpr six_ok.2.1), fun x hx => six_ok.2.2 x (h1.mem_iff.mp (List.mem_of_mem_take hx)), ?_, ?_⟩
  · rw [List.length_take]
    omega
  · rw [List.length_take]
    omega
theorem newOf_costs : Costs 7 newOf := fun k d g => by
  unfold newOf
  have g1 : Good (k + 1) (shuffle six d).2 := shuffle_costs six (k + 1) d (by rw [six_ok.1]; exact g)
  exact pull_good g1
theorem namesD_fst (L new : List Str) (d : Die) : (namesD L new d).1.map (·.1) = new := by
  unfold namesD
  induction new generalizing d with
  | nil => rfl
  | cons a new ih =>
    rw [mapS, List.map_cons, ih]
    rfl
theorem namesD_mem {L : List Str} (h : 0 < L.length) (new : List Str) (d : Die) : ∀ p ∈ (namesD L new d).1, p.2 ∈ L := mapS_all _ _ fun _ _ s => pick_mem h s
theorem namesT_costs (L : List Str) (l : Str) : Costs 1 (namesT L l) := fun _ _ g => pull_good g
theorem namesD_costs (L new : List Str) (h : new.length ≤ 4) : Costs 4 (namesD L new) := (mapS_cost (n := 1) new (fun x _ => namesT_costs L x) h).le (by omega)
theorem readDie_good {L : List Str} {k : Nat} {d : Die} (g : Good (k + 200) d) : Good k (readDie L d) := by
  unfold readDie
  have h := newOf_ok d
  have g1 : Good (k + 193) (newOf d).2 := newOf_costs _ _ (g.mono (by omega))
  have g2 : Good (k + 189) (namesD L (newOf d).1 (newOf d).2).2 := namesD_costs L _ h.n4 _ _ (g1.mono (by omega))
  exact pathsOf_costs _ _ _ (g2.mono (by omega))
theorem readN_good {L : List Str} : ∀ {n k : Nat} {d : Die}, Good (k + 200 * n) d → Good k (readN L n d)
  | 0, k, d, g => g
  | n + 1, k, d, g => readDie_good (readN_good (n := n) (k := k + 200) (g.mono (by omega)))
theorem NewOk.labs {new : List Str} (h : NewOk new) : Labs (sortS new) := ⟨by rw [sortS_length]; exact h.n1, by rw [sortS_length]; exact h.n4, fun x hx => h.lab x ((sortS_perm _).mem_iff.mp hx), sortS_srt _ h.nd⟩
theorem nm_ok {q : Qu} (ok : q.Ok) {new : List Str} (h : NewOk new) {nm : List (Str × Str)} (h1 : nm.map (·.1) = new) (h2 : ∀ p ∈ nm, p.2 ∈ q.L) : NmOk q nm (sortS new) := by
  have hl : nm.length = new.length := by rw [← h1, List.length_map]
  exact ⟨by rw [hl]; exact h.n1, by rw [hl]; exact h.n4, fun p hp => ⟨h.lab _ (by rw [← h1]; exact List.mem_map.mpr ⟨p, hp, rfl⟩), h2 p hp⟩, by rw [h1]; exact sortS_perm _, sortS_srt _ h.nd⟩
/-! ### the query read through a dict -/
theorem tr_ok {q : Qu} (ok : q.Ok) {nm : List (Str × Str)} {Ls : List Str} (h : NmOk q nm Ls) : (q.tr nm Ls).Ok := by
  have hl := h.len
  have hlabs : Labs Ls := ⟨by rw [hl]; exact h.n1, by rw [hl]; exact h.n4, fun l hl2 => (h.val hl2).2.2, h.srt⟩
  have hrow : ∀ r, Row q.L.length q.rw.length r → Row Ls.length q.rw.length (Ls.map fun l => r.getD (q.L.idxOf (nmOf nm l)) default) := fun r hr => by
    refine ⟨by rw [List.length_map], fun s hs => ?_⟩
    obtain ⟨l, hl2, rfl⟩ := List.mem_map.mp hs
    exact hr.2 _ (getD_mem (by rw [hr.1]; exact idx_lt (h.val hl2).2.1))
  unfold Qu.tr
  have hlen : (q.rw.map fun r => Ls.map fun l => r.getD (q.L.idxOf (nmOf nm l)) default).length = q.rw.length := List.length_map _
  refine ⟨hlabs, by rw [hlen]; exact ok.n1, by rw [hlen]; exact ok.n2, by rw [hlen]; exact hrow _ ok.ro, fun r hr => ?_, by rw [hlen]; exact ok.cn, ok.co⟩
  rw [hlen]
  obtain ⟨r0, hr0, rfl⟩ := List.mem_map.mp hr
  exact hrow r0 (ok.rw r0 hr0)
theorem getD_map {α β : Type} [Inhabited α] [Inhabited β] {f : α → β} {xs : List α} {n : Nat} (h : n < xs.length) : (xs.map f).getD n default = f (xs.getD n default) := by
  rw [List.getD_eq_getElem?_getD, List.getD_eq_getElem?_getD, List.getElem?_map, List.getElem?_eq_getElem h]
  rfl
theorem getD_idx {α : Type} [Inhabited α] {Ls : List Str} {f : Str → α} {l : Str} (h : l ∈ Ls) : (Ls.map f).getD (Ls.idxOf l) default = f l := by
  have h1 := idx_lt h
  rw [List.getD_eq_getElem?_getD, List.getElem?_map, List.getElem?_eq_getElem h1, List.getElem_idxOf]
  rfl
theorem tr_root {q : Qu} {nm : List (Str × Str)} {Ls : List Str} {l : Str} (h : l ∈ Ls) : (q.tr nm Ls).root l = q.root (nmOf nm l) := by
  unfold Qu.root Qu.tr
  exact getD_idx (f := fun l => q.ro.getD (q.L.idxOf (nmOf nm l)) default) h
theorem tr_step {q : Qu} {nm : List (Str × Str)} {Ls : List Str} {s : Nat} (hs : s < q.rw.length) {l : Str} (h : l ∈ Ls) : (q.tr nm Ls).step s l = q.step s (nmOf nm l) := by
  unfold Qu.step Qu.tr
  simp only
  rw [getD_map (f := fun r : List Nat => Ls.map fun l => r.getD (q.L.idxOf (nmOf nm l)) default) hs]
  exact getD_idx (f := fun l => (q.rw.getD s default).getD (q.L.idxOf (nmOf nm l)) default) h
theorem tr_run {q : Qu} (ok : q.Ok) {nm : List (Str × Str)} {Ls : List Str} (hn : NmOk q nm Ls) : ∀ (w : List Str) (s : Nat), s < q.rw.length → (∀ l ∈ w, l ∈ Ls) → (q.tr nm Ls).run s w = q.run s (w.map (nmOf nm))
  | [], s, _, _ => rfl
  | l :: w, s, hs, h => by
    have hl := h l List.mem_cons_self
    rw [List.map_cons, run_cons, run_cons, tr_step hs hl]
    exact tr_run ok hn w _ (ok.step_lt hs (hn.val hl).2.1) fun a ha => h a (List.mem_cons_of_mem _ ha)
end OX
set_option Elab.async false
set_option linter.all false
set_option maxHeartbeats 1000000
/-! M13: behaviours, their classes. -/
namespace OX
open PySem L2
theorem slt_nodup' {Ls : List Str} (h : Ls.Pairwise SLt) : Ls.Nodup := h.imp fun {a b} hab e => by
  subst e
  exact slt_irrefl _ hab
theorem getD_lt {α : Type} [Inhabited α] {xs : List α} {j : Nat} (h : j < xs.length) : xs.getD j default = xs[j] := by
  rw [List.getD_eq_getElem?_getD, List.getElem?_eq_getElem h]
  rfl
section
variable {q : Qu}
/-- words of the query's labels -/
def Wd (q : Qu) (w : List Str) : Prop := ∀ a ∈ w, a ∈ q.L
def Qu.beq (q : Qu) (i : Nat) (s t : Nat) : Prop := ∀ w, Wd q w → w.length ≤ i → q.co.getD (q.run s w) default = q.co.getD (q.run t w) default
theorem beq_refl (i s : Nat) : q.beq i s s := fun _ _ _ => rfl
theorem beq_symm {i s t : Nat} (h : q.beq i s t) : q.beq i t s := fun w a b => (h w a b).symm
theorem beq_trans {i s t u : Nat} (h : q.beq i s t) (k : q.beq i t u) : q.beq i s u := fun w a b => (h w a b).trans (k w a b)
theorem beq_mono {i j s t : Nat} (h : q.beq j s t) (l : i ≤ j) : q.beq i s t := fun w a b => h w a (Nat.le_trans b l)
theorem beq_zero {s t : Nat} : q.beq 0 s t ↔ q.co.getD s default = q.co.getD t default := by
  constructor
  · intro h
    exact h [] (fun _ z => absurd z List.not_mem_nil) (Nat.le_refl 0)
  · intro h w _ hw
    rw [List.eq_nil_of_length_eq_zero (Nat.le_zero.mp hw)]
    exact h
theorem beq_succ {i s t : Nat} : q.beq (i + 1) s t ↔ q.beq i s t ∧ ∀ l ∈ q.L, q.beq i (q.step s l) (q.step t l) := by
  constructor
  · intro h
    refine ⟨beq_mono h (Nat.le_succ i), fun l hl w a b => ?_⟩
    have := h (l :: w) (fun x hx => (List.mem_cons.mp hx).elim (fun e => e ▸ hl) (a x)) (by rw [List.length_cons]; omega)
    exact this
  · rintro ⟨h1, h2⟩ w a b
    cases w with
    | nil => exact h1 [] a (by simp)
    | cons l w =>
      exact h2 l (a l List.mem_cons_self) w (fun x hx => a x (List.mem_cons_of_mem _ hx)) (by rw [List.length_cons] at b; omega)
def Qu.bqv (q : Qu) (s t : Nat) : Prop := ∀ i, q.beq i s t
/-- nothing changes any more -/
def Stab (q : Qu) (i : Nat) : Prop := ∀ s t, s < q.rw.length → t < q.rw.length → q.beq i s t → q.beq (i + 1) s t
theorem stab_all (ok : q.Ok) {i : Nat} (h : Stab q i) : ∀ j s t, s < q.rw.length → t < q.rw.length → q.beq i s t → q.beq (i + j) s t
  | 0, s, t, _, _, e => e
  | j + 1, s, t, hs, ht, e => by
    rw [← Nat.add_assoc, beq_succ]
    refine ⟨stab_all ok h j s t hs ht e, fun l hl => ?_⟩
    exact stab_all ok h j _ _ (ok.step_lt hs hl) (ok.step_lt ht hl) ((beq_succ.mp (h s t hs ht e)).2 l hl)
theorem stab_bqv (ok : q.Ok) {i : Nat} (h : Stab q i) {s t : Nat} (hs : s < q.rw.length) (ht : t < q.rw.length) (e : q.beq i s t) : q.bqv s t := fun j => by
  by_cases l : j ≤ i
  · exact beq_mono e l
  · have := stab_all ok h (j - i) s t hs ht e
    rwa [show i + (j - i) = j by omega] at this
theorem bqv_step {s t : Nat} (h : q.bqv s t) {l : Str} (hl : l ∈ q.L) : q.bqv (q.step s l) (q.step t l) := fun i => (beq_succ.mp (h (i + 1))).2 l hl
theorem bqv_run : ∀ {w : List Str} {s t : Nat}, q.bqv s t → Wd q w → q.bqv (q.run s w) (q.run t w)
  | [], _, _, h, _ => h
  | l :: w, s, t, h, a => bqv_run (w := w) (bqv_step h (a l List.mem_cons_self)) fun x hx => a x (List.mem_cons_of_mem _ hx)
theorem bqv_co {s t : Nat} (h : q.bqv s t) : q.co.getD s default = q.co.getD t default := beq_zero.mp (h 0)
/-- what a list of classes tells -/
structure Cls {α : Type} [DecidableEq α] [Inhabited α] (q : Qu) (i : Nat) (ks : List α) : Prop where
  len : ks.length = q.rw.length
  eq : ∀ s t, s < q.rw.length → t < q.rw.length → (ks.getD s default = ks.getD t default ↔ q.beq i s t)
/-- .. by the least state of each -/
structure Rep (q : Qu) (i : Nat) (ks : List Nat) : Prop where
  cls : Cls q i ks
  lt : ∀ s, s < q.rw.length → ks.getD s default ≤ s
  idem : ∀ s, s < q.rw.length → q.beq i (ks.getD s default) s
theorem row_eq (ok : q.Ok) {s : Nat} (hs : s < q.rw.length) : q.rw.getD s default = q.L.map (q.step s) := by
  have hr := ok.row hs
  unfold Qu.step
  refine List.ext_getElem (by rw [List.length_map, hr.1]) fun j h1 h2 => ?_
  rw [List.length_map] at h2
  rw [List.getElem_map, (slt_nodup' ok.labs.2.2.2).idxOf_getElem j h2, getD_lt h1]
/-! ### one step -/
def marksOf {α : Type} [Inhabited α] (rows : List (List Nat)) (ks : List α) : List (α × List α) := rows.zipIdx.map fun x => (ks.getD x.2 default, x.1.map fun l => ks.getD l default)
theorem marksOf_len {α : Type} [Inhabited α] (rows : List (List Nat)) (ks : List α) : (marksOf rows ks).length = rows.length := by simp [marksOf]
theorem marksOf_get {α : Type} [Inhabited α] {rows : List (List Nat)} {ks : List α} {s : Nat} (h : s < rows.length) : (marksOf rows ks)[s]? = some (ks.getD s default, (rows.getD s default).map fun l => ks.getD l default) := by
  unfold marksOf
  rw [List.getElem?_map, List.getElem?_zipIdx, List.getElem?_eq_getElem h, getD_lt h]
  simp
theorem mark_eq (ok : q.Ok) {α : Type} [DecidableEq α] [Inhabited α] {i : Nat} {ks : List α} (c : Cls q i ks) {s t : Nat} (hs : s < q.rw.length) (ht : t < q.rw.length) :
    (ks.getD s default, (q.rw.getD s default).map fun l => ks.getD l default) = (ks.getD t default, (q.rw.getD t default).map fun l => ks.getD l default) ↔ q.beq (i + 1) s t := by
  rw [Prod.mk.injEq, c.eq s t hs ht, beq_succ, row_eq ok hs, row_eq ok ht, List.map_map, List.map_map]
  refine and_congr_right fun _ => ?_
  constructor
  · intro h l hl
    have := List.map_inj_left.mp h l hl
    exact (c.eq _ _ (ok.step_lt hs hl) (ok.step_lt ht hl)).mp this
  · intro h
    exact List.map_congr_left fun l hl => (c.eq _ _ (ok.step_lt hs hl) (ok.step_lt ht hl)).mpr (h l hl)
theorem rep_of {α : Type} [DecidableEq α] {i n : Nat} {ms : List α} {ks : List Nat} (hn : n = q.rw.length) (hl : ms.length = n) (e : ks = ms.map fun m => ms.idxOf m) (h : ∀ s t x y, s < n → t < n → ms[s]? = some x → ms[t]? = some y → (x = y ↔ q.beq i s t)) : Rep q i ks := by
  subst hn e
  have get : ∀ {s : Nat} (hs : s < q.rw.length), ∃ x, ms[s]? = some x ∧ (ms.map fun m => ms.idxOf m).getD s default = ms.idxOf x ∧ ms[ms.idxOf x]? = some x ∧ ms.idxOf x ≤ s := fun {s} hs => by
    have h1 : s < ms.length := by rw [hl]; exact hs
    refine ⟨ms[s], List.getElem?_eq_getElem h1, ?_, ?_⟩
    · rw [getD_lt (by rw [List.length_map]; exact h1), List.getElem_map]
    · obtain ⟨g1, g2⟩ := idxOf_first ms ms[s] (List.getElem_mem h1)
      refine ⟨g1, Nat.le_of_not_lt fun z => g2 s z (List.getElem?_eq_getElem h1)⟩
  refine ⟨⟨by rw [List.length_map, hl], fun s t hs ht => ?_⟩, fun s hs => ?_, fun s hs => ?_⟩
  · obtain ⟨x, x1, x2, x3, x4⟩ := get hs
    obtain ⟨y, y1, y2, y3, y4⟩ := get ht
    rw [x2, y2, ← h s t x y hs ht x1 y1]
    constructor
    · intro e
      rw [e, y3] at x3
      cases x3
      rfl
    · intro e
      rw [e]
  · obtain ⟨x, x1, x2, x3, x4⟩ := get hs
    rw [x2]
    exact x4
  · obtain ⟨x, x1, x2, x3, x4⟩ := get hs
    rw [x2]
    exact (h _ _ x x (Nat.lt_of_le_of_lt x4 hs) hs x3 x1).mp rfl
theorem step_rep (ok : q.Ok) {α : Type} [DecidableEq α] [Inhabited α] {i : Nat} {ks : List α} (c : Cls q i ks) : Rep q (i + 1) ((marksOf q.rw ks).map fun m => @List.idxOf _ instBEqOfDecidableEq m (marksOf q.rw ks)) := by
  refine rep_of rfl (marksOf_len _ _) rfl fun s t x y hs ht hx hy => ?_
  rw [marksOf_get hs] at hx
  rw [marksOf_get ht] at hy
  cases hx
  cases hy
  exact mark_eq ok c hs ht
theorem Cls.kn {i : Nat} {ks : List Nat} (c : Cls q i ks) : Cls q i (ks.map Kn) := by
  refine ⟨by rw [List.length_map]; exact c.len, fun s t hs ht => ?_⟩
  rw [getD_map (f := Kn) (by rw [c.len]; exact hs), getD_map (f := Kn) (by rw [c.len]; exact ht), ← c.eq s t hs ht]
  constructor
  · intro e
    have := Sum.inl.inj e
    omega
  · intro e
    rw [e]
theorem cls_col (ok : q.Ok) : Cls q 0 (q.co.map (Sum.inr : Str → Key)) := by
  refine ⟨by rw [List.length_map]; exact ok.cn, fun s t hs ht => ?_⟩
  rw [getD_map (f := (Sum.inr : Str → Key)) (by rw [ok.cn]; exact hs), getD_map (f := (Sum.inr : Str → Key)) (by rw [ok.cn]; exact ht), beq_zero]
  exact ⟨fun e => Sum.inr.inj e, fun e => by rw [e]⟩
theorem rep_kinds0 (ok : q.Ok) : Rep q 0 (kinds0 q) := by
  refine rep_of (ms := q.co) rfl ok.cn rfl fun s t x y hs ht hx hy => ?_
  rw [beq_zero, List.getD_eq_getElem?_getD, List.getD_eq_getElem?_getD, hx, hy]
  rfl
theorem rep_iter (ok : q.Ok) : ∀ i, Rep q i (iterK q.rw (kinds0 q) i)
  | 0 => rep_kinds0 ok
  | i + 1 => step_rep ok (rep_iter ok i).cls
theorem stepN_rep (ok : q.Ok) {i : Nat} {ks : List Key} (c : Cls q i ks) : Rep q (i + 1) (stepN q.rw ks) := step_rep ok c
/-! ### how many classes -/
noncomputable def first (q : Qu) (i s : Nat) : Bool := @decide (∀ t, t < s → ¬ q.beq i t s) (Classical.propDecidable _)
theorem first_iff {i s : Nat} : first q i s = true ↔ ∀ t, t < s → ¬ q.beq i t s := by
  unfold first
  exact @decide_eq_true_iff _ (Classical.propDecidable _)
noncomputable def cnt (q : Qu) (i : Nat) : Nat := (List.range q.rw.length).countP (first q i)
theorem least_ex {P : Nat → Prop} : ∀ s, P s → ∃ m, m ≤ s ∧ P m ∧ ∀ t, t < m → ¬ P t := by
  intro s
  induction s using Nat.strongRecOn with
  | ind s ih =>
    intro h
    by_cases z : ∃ t, t < s ∧ P t
    · obtain ⟨t, h1, h2⟩ := z
      obtain ⟨m, m1, m2, m3⟩ := ih t h1 h2
      exact ⟨m, by omega, m2, m3⟩
    · exact ⟨s, Nat.le_refl s, h, fun t h1 h2 => z ⟨t, h1, h2⟩⟩
theorem countP_le {α : Type} {p r : α → Bool} : ∀ l : List α, (∀ x ∈ l, p x = true → r x = true) → l.countP p ≤ l.countP r
  | [], _ => by simp
  | x :: l, h => by
    have ih := countP_le l fun y hy => h y (List.mem_cons_of_mem _ hy)
    have hx := h x List.mem_cons_self
    rw [List.countP_cons, List.countP_cons]
    by_cases z : p x = true
    · rw [z, hx z]
      simpa using ih
    · rw [if_neg z]
      omega
theorem countP_lt {α : Type} {p r : α → Bool} : ∀ l : List α, (∀ x ∈ l, p x = true → r x = true) → (∃ x ∈ l, r x = true ∧ p x = false) → l.countP p < l.countP r
  | [], _, h => by
    obtain ⟨x, hx, _⟩ := h
    exact absurd hx List.not_mem_nil
  | x :: l, h, ⟨y, hy, h1, h2⟩ => by
    have hle := countP_le l fun z hz => h z (List.mem_cons_of_mem _ hz)
    rw [List.countP_cons, List.countP_cons]
    rcases List.mem_cons.mp hy with rfl | hy
    · rw [h1, h2]
      simp
      omega
    · have ih := countP_lt l (fun z hz => h z (List.mem_cons_of_mem _ hz)) ⟨y, hy, h1, h2⟩
      have hx := h x List.mem_cons_self
      by_cases z : p x = true
      · rw [z, hx z]
        simpa using ih
      · rw [if_neg z]
        omega
theorem first_mono {i s : Nat} (h : first q i s = true) : first q (i + 1) s = true := first_iff.mpr fun t ht z => first_iff.mp h t ht (beq_mono z (Nat.le_succ i))
theorem cnt_le (i : Nat) : cnt q i ≤ q.rw.length := by
  unfold cnt
  refine Nat.le_trans List.countP_le_length ?_
  rw [List.length_range]
  exact Nat.le_refl _
theorem cnt_lt {i : Nat} (h : ¬ Stab q i) : cnt q i < cnt q (i + 1) := by
  refine countP_lt _ (fun s _ z => first_mono z) ?_
  have : ∃ s t, s < q.rw.length ∧ t < q.rw.length ∧ q.beq i s t ∧ ¬ q.beq (i + 1) s t := Classical.byContradiction fun n => h fun s t hs ht e => Classical.byContradiction fun z => n ⟨s, t, hs, ht, e, z⟩
  obtain ⟨s, t, hs, ht, e, ne⟩ := this
  obtain ⟨m, m1, m2, m3⟩ := least_ex (P := fun x => q.beq i x s) s (beq_refl i s)
  have : ∃ u, u < q.rw.length ∧ q.beq i m u ∧ ¬ q.beq (i + 1) m u := by
    by_cases z : q.beq (i + 1) m s
    · exact ⟨t, ht, beq_trans m2 e, fun y => ne (beq_trans (beq_symm z) y)⟩
    · exact ⟨s, hs, m2, z⟩
  obtain ⟨u, hu, u1, u2⟩ := this
  obtain ⟨v, v1, v2, v3⟩ := least_ex (P := fun x => q.beq (i + 1) x u) u (beq_refl _ u)
  refine ⟨v, List.mem_range.mpr (by omega), first_iff.mpr fun x hx z => v3 x hx (beq_trans z v2), ?_⟩
  have hne : m ≠ v := fun z => u2 (z ▸ v2)
  have hiv : q.beq i m v := beq_trans u1 (beq_symm (beq_mono v2 (Nat.le_succ i)))
  have hle : m ≤ v := Nat.le_of_not_lt fun z => m3 v z (beq_trans (beq_symm hiv) m2)
  cases z : first q i v with
  | false => rfl
  | true => exact absurd hiv (first_iff.mp z m (by omega))
theorem stab_succ (ok : q.Ok) {i : Nat} (h : Stab q i) : Stab q (i + 1) := fun s t hs ht e => by
  have := stab_all ok h 2 s t hs ht (beq_mono e (Nat.le_succ i))
  exact this
theorem stab_mono (ok : q.Ok) {i : Nat} (h : Stab q i) : ∀ j, Stab q (i + j)
  | 0 => h
  | j + 1 => stab_succ ok (stab_mono ok h j)
/-- some step ahead of n is stable -/
theorem stab_n (ok : q.Ok) : Stab q q.rw.length := by
  refine Classical.byContradiction fun n => ?_
  have key : ∀ i, i ≤ q.rw.length → i + 1 ≤ cnt q (i + 1) := by
    intro i
    induction i with
    | zero =>
      intro _
      have : ¬ Stab q 0 := fun z => n (by have := stab_mono ok z q.rw.length; rwa [Nat.zero_add] at this)
      have := cnt_lt this
      omega
    | succ i ih =>
      intro hi
      have h1 := ih (by omega)
      have : ¬ Stab q (i + 1) := fun z => n (by have := stab_mono ok z (q.rw.length - (i + 1)); rwa [show i + 1 + (q.rw.length - (i + 1)) = q.rw.length by omega] at this)
      have := cnt_lt this
      omega
  have h1 := key q.rw.length (Nat.le_refl _)
  have h2 := cnt_le (q := q) (q.rw.length + 1)
  omega
end
end OX
set_option Elab.async false
set_option linter.all false
set_option maxHeartbeats 1000000
/-! M14: the stable classes, by both programs. -/
namespace OX
open PySem L2
section
variable {q : Qu}
structure RepV (q : Qu) (ks : List Nat) : Prop where
  len : ks.length = q.rw.length
  lt : ∀ s, s < q.rw.length → ks.getD s default ≤ s
  idem : ∀ s, s < q.rw.length → q.bqv (ks.getD s default) s
  eq : ∀ s t, s < q.rw.length → t < q.rw.length → (ks.getD s default = ks.getD t default ↔ q.bqv s t)
theorem Rep.v (ok : q.Ok) {i : Nat} {ks : List Nat} (r : Rep q i ks) (h : Stab q i) : RepV q ks := by
  refine ⟨r.cls.len, r.lt, fun s hs => ?_, fun s t hs ht => ?_⟩
  · exact stab_bqv ok h (Nat.lt_of_le_of_lt (r.lt s hs) hs) hs (r.idem s hs)
  · rw [r.cls.eq s t hs ht]
    exact ⟨fun e => stab_bqv ok h hs ht e, fun e => e i⟩
theorem bqv_symm {s t : Nat} (h : q.bqv s t) : q.bqv t s := fun i => beq_symm (h i)
theorem bqv_trans {s t u : Nat} (h : q.bqv s t) (k : q.bqv t u) : q.bqv s u := fun i => beq_trans (h i) (k i)
theorem RepV.unique {ks ks' : List Nat} (r : RepV q ks) (r' : RepV q ks') : ks = ks' := by
  refine List.ext_getElem (r.len.trans r'.len.symm) fun s h1 h2 => ?_
  have hs : s < q.rw.length := by rw [← r.len]; exact h1
  have e1 := getD_lt h1
  have e2 := getD_lt h2
  have a1 := r.idem s hs
  have b1 := r'.idem s hs
  have al := r.lt s hs
  have bl := r'.lt s hs
  have ha : ks.getD s default < q.rw.length := Nat.lt_of_le_of_lt al hs
  have hb : ks'.getD s default < q.rw.length := Nat.lt_of_le_of_lt bl hs
  have c1 : ks.getD (ks'.getD s default) default = ks.getD s default := (r.eq _ _ hb hs).mpr b1
  have c2 : ks'.getD (ks.getD s default) default = ks'.getD s default := (r'.eq _ _ ha hs).mpr a1
  have d1 := r.lt _ hb
  have d2 := r'.lt _ ha
  rw [← e1, ← e2]
  omega
theorem kindsL_rep (ok : q.Ok) : RepV q (kindsL q) := by
  have h := rep_iter ok q.co.length
  have hs := stab_n ok
  rw [← ok.cn] at hs
  exact h.v ok hs
/-! ### counted as the program counts -/
theorem met_snoc' (xs : List Key) (k : Key) : (met (xs ++ [k])).length = (met xs).length + if kin (met xs) k = true then 0 else 1 := by
  rw [met_snoc]
  unfold metStep
  by_cases h : kin (met xs) k = true
  · rw [if_pos h, if_pos h]
    omega
  · rw [if_neg h, if_neg h, List.length_append]
    rfl
theorem mem_met : ∀ (n : Nat) (xs : List Key), xs.length = n → ∀ k, k ∈ met xs ↔ k ∈ xs := by
  intro n
  induction n with
  | zero =>
    intro xs h k
    rw [List.eq_nil_of_length_eq_zero h]
    exact Iff.rfl
  | succ n ih =>
    intro xs h k
    have hne : xs ≠ [] := fun z => by rw [z] at h; simp at h
    have e := List.dropLast_concat_getLast hne
    rw [← e, met_snoc]
    have ih' := ih xs.dropLast (by rw [List.length_dropLast]; omega)
    unfold metStep
    by_cases z : kin (met xs.dropLast) (xs.getLast hne) = true
    · rw [if_pos z, ih', List.mem_append, List.mem_singleton]
      have z2 := (ih' _).mp (kin_iff.mp z)
      exact ⟨fun y => .inl y, fun y => y.elim id fun y => y ▸ z2⟩
    · rw [if_neg z, List.mem_append, List.mem_append, ih']
theorem cnt_take {i : Nat} {ks : List Key} (c : Cls q i ks) : ∀ n, n ≤ q.rw.length → (met (ks.take n)).length = (List.range n).countP (first q i)
  | 0, _ => rfl
  | n + 1, hn => by
    have ih := cnt_take c n (by omega)
    have hlt : n < ks.length := by rw [c.len]; omega
    rw [List.take_add_one, List.getElem?_eq_getElem hlt, Option.toList_some, met_snoc', ih, List.range_succ, List.countP_append]
    congr 1
    have key : kin (met (ks.take n)) ks[n] = true ↔ ¬ (first q i n = true) := by
      rw [kin_iff, mem_met _ _ rfl, first_iff]
      constructor
      · intro h hf
        obtain ⟨t, ht, e⟩ := List.mem_iff_getElem.mp h
        rw [List.length_take] at ht
        rw [List.getElem_take] at e
        have ht2 : t < ks.length := by omega
        refine hf t (by omega) ((c.eq t n (by omega) (by omega)).mp ?_)
        rw [getD_lt ht2, getD_lt hlt]
        exact e
      · intro h
        have : ∃ t, t < n ∧ q.beq i t n := Classical.byContradiction fun z => h fun t ht b => z ⟨t, ht, b⟩
        obtain ⟨t, ht, b⟩ := this
        have e := (c.eq t n (by omega) (by omega)).mpr b
        rw [getD_lt (by omega : t < ks.length), getD_lt hlt] at e
        rw [← e]
        exact List.mem_iff_getElem.mpr ⟨t, by rw [List.length_take]; omega, List.getElem_take ..⟩
    by_cases z : first q i n = true
    · rw [if_neg (fun y => key.mp y z)]
      simp [z]
    · rw [if_pos (key.mpr z)]
      simp [z]
theorem cnt_met {i : Nat} {ks : List Key} (c : Cls q i ks) : (met ks).length = cnt q i := by
  have := cnt_take c q.rw.length (Nat.le_refl _)
  rwa [List.take_of_length_le (by rw [c.len]; exact Nat.le_refl _)] at this
theorem kb_loop (ok : q.Ok) : ∀ (f i : Nat) (ks : List Nat), Rep q (i + 1) ks → q.rw.length + 1 - cnt q i ≤ f → ∃ m kn, KB q.rw m (cnt q i) (ks.map Kn) (kn.map Kn) ∧ RepV q kn := by
  intro f
  induction f with
  | zero =>
    intro i ks r h
    have := cnt_le (q := q) i
    omega
  | succ f ih =>
    intro i ks r h
    have hm := cnt_met r.cls.kn
    by_cases z : Stab q i
    · by_cases y : cnt q i = cnt q (i + 1)
      · exact ⟨0, ks, ⟨by rw [hm, y], rfl⟩, r.v ok (stab_succ ok z)⟩
      · have st := stab_succ ok z
        have le : cnt q i ≤ cnt q (i + 1) := countP_le _ fun s _ w => first_mono w
        obtain ⟨m, kn, h1, h2⟩ := ih (i + 1) _ (stepN_rep ok r.cls.kn) (by omega)
        refine ⟨m + 1, kn, ⟨by rw [hm]; exact y, ?_⟩, h2⟩
        rw [hm]
        exact h1
    · have lt := cnt_lt z
      obtain ⟨m, kn, h1, h2⟩ := ih (i + 1) _ (stepN_rep ok r.cls.kn) (by omega)
      refine ⟨m + 1, kn, ⟨by rw [hm]; omega, ?_⟩, h2⟩
      rw [hm]
      exact h1
theorem kb_all (ok : q.Ok) : ∃ m, KB q.rw m 0 (q.co.map .inr) ((kindsL q).map Kn) := by
  obtain ⟨m, kn, h1, h2⟩ := kb_loop ok _ 0 _ (stepN_rep ok (cls_col ok)) (Nat.le_refl _)
  have e := h2.unique (kindsL_rep ok)
  subst e
  have hm := cnt_met (cls_col ok)
  have h0 : 1 ≤ cnt q 0 := by
    unfold cnt
    rw [Nat.succ_le_iff, List.countP_pos_iff]
    exact ⟨0, List.mem_range.mpr ok.n1, first_iff.mpr fun t ht => absurd ht (Nat.not_lt_zero t)⟩
  refine ⟨m + 1, by rw [hm]; omega, ?_⟩
  rw [hm]
  exact h1
/-! ### colours of the least query -/
theorem RepV.lt' {ks : List Nat} (r : RepV q ks) {s : Nat} (hs : s < q.rw.length) : ks.getD s default < q.rw.length := Nat.lt_of_le_of_lt (r.lt s hs) hs
theorem RepV.step (ok : q.Ok) {ks : List Nat} (r : RepV q ks) {s : Nat} (hs : s < q.rw.length) {l : Str} (hl : l ∈ q.L) : ks.getD (q.step (ks.getD s default) l) default = ks.getD (q.step s l) default :=
  (r.eq _ _ (ok.step_lt (r.lt' hs) hl) (ok.step_lt hs hl)).mpr (bqv_step (r.idem s hs) hl)
theorem RepV.co {ks : List Nat} (r : RepV q ks) {s : Nat} (hs : s < q.rw.length) : q.co.getD (ks.getD s default) default = q.co.getD s default := bqv_co (r.idem s hs)
theorem getD_idxN {α : Type} [Inhabited α] {Ls : List Nat} {f : Nat → α} {l : Nat} (h : l ∈ Ls) : (Ls.map f).getD (Ls.idxOf l) default = f l := by
  have h1 : Ls.idxOf l < Ls.length := List.idxOf_lt_length_of_mem h
  rw [List.getD_eq_getElem?_getD, List.getElem?_map, List.getElem?_eq_getElem h1, List.getElem_idxOf]
  rfl
theorem step_mem (ok : q.Ok) {s : Nat} (hs : s < q.rw.length) {l : Str} (hl : l ∈ q.L) : q.step s l ∈ q.rw.getD s default := getD_mem (by rw [(ok.row hs).1]; exact idx_lt hl)
theorem root_mem (ok : q.Ok) {l : Str} (hl : l ∈ q.L) : q.root l ∈ q.ro := getD_mem (by rw [ok.ro.1]; exact idx_lt hl)
theorem lq_root (ok : q.Ok) {kn ord : List Nat} {l : Str} (hl : l ∈ q.L) : (q.lq kn ord).root l = ord.idxOf (kn.getD (q.root l) default) := by
  unfold Qu.root Qu.lq
  exact getD_map (f := fun s => ord.idxOf (kn.getD s default)) (by rw [ok.ro.1]; exact idx_lt hl)
theorem lq_step (ok : q.Ok) {kn ord : List Nat} {k : Nat} (hk : k ∈ ord) (hk2 : k < q.rw.length) {l : Str} (hl : l ∈ q.L) : (q.lq kn ord).step (ord.idxOf k) l = ord.idxOf (kn.getD (q.step k l) default) := by
  unfold Qu.step Qu.lq
  simp only
  rw [getD_idxN (f := fun k => (q.rw.getD k default).map fun l => ord.idxOf (kn.getD l default)) hk]
  exact getD_map (f := fun l => ord.idxOf (kn.getD l default)) (by rw [(ok.row hk2).1]; exact idx_lt hl)
theorem lq_run (ok : q.Ok) {kn ord : List Nat} (r : RepV q kn) (c : Closed q kn ord) : ∀ (w : List Str) (s : Nat), s < q.rw.length → kn.getD s default ∈ ord → Wd q w → (q.lq kn ord).run (ord.idxOf (kn.getD s default)) w = ord.idxOf (kn.getD (q.run s w) default) ∧ kn.getD (q.run s w) default ∈ ord
  | [], s, _, h, _ => ⟨rfl, h⟩
  | l :: w, s, hs, h, hw => by
    have hl := hw l List.mem_cons_self
    rw [run_cons, run_cons, lq_step ok h (r.lt' hs) hl, r.step ok hs hl]
    refine lq_run ok r c w _ (ok.step_lt hs hl) ?_ fun x hx => hw x (List.mem_cons_of_mem _ hx)
    rw [← r.step ok hs hl]
    exact (c.2.2 _ h).2 _ (step_mem ok (r.lt' hs) hl)
theorem lq_col (ok : q.Ok) {kn ord : List Nat} (r : RepV q kn) (c : Closed q kn ord) {l : Str} {w : List Str} (hl : l ∈ q.L) (hw : Wd q w) : (q.lq kn ord).co.getD ((q.lq kn ord).run ((q.lq kn ord).root l) w) default = q.co.getD (q.run (q.root l) w) default := by
  have hr := ok.root_lt hl
  obtain ⟨h1, h2⟩ := lq_run ok r c w _ hr (c.2.1 _ (root_mem ok hl)) hw
  rw [lq_root ok hl, h1]
  have : (q.lq kn ord).co = ord.map fun k => q.co.getD k default := rfl
  rw [this, getD_idxN (f := fun k => q.co.getD k default) h2]
  exact r.co (ok.run_lt hr hw)
theorem leastL_col (ok : q.Ok) {l : Str} {w : List Str} (hl : l ∈ q.L) (hw : ∀ a ∈ w, a ∈ q.L) : (leastL q).co.getD ((leastL q).run ((leastL q).root l) w) default = q.co.getD (q.run (q.root l) w) default :=
  lq_col ok (kindsL_rep ok) (order_end ok (kindsL_ok ok).1 (kindsL_ok ok).2).2 hl hw
end
end OX
set_option Elab.async false
set_option linter.all false
set_option maxHeartbeats 1000000
/-! M15: the orders in which the programs meet the classes. -/
namespace OX
open PySem L2
/-- states met one after another, as a relation -/
inductive Bfs (rows : List (List Nat)) (ks : List Nat) : List Nat → List Nat → List Nat → Prop
  | nil {f : List Nat} : Bfs rows ks [] f f
  | skip {s : Nat} {w f o : List Nat} : s ∈ f → Bfs rows ks w f o → Bfs rows ks (s :: w) f o
  | take {s : Nat} {w f o : List Nat} : s ∉ f → Bfs rows ks (w ++ nexts rows ks s) (f ++ [s]) o → Bfs rows ks (s :: w) f o
theorem Bfs.det {rows : List (List Nat)} {ks : List Nat} : ∀ {w f o o' : List Nat}, Bfs rows ks w f o → Bfs rows ks w f o' → o = o'
  | _, _, _, _, .nil, .nil => rfl
  | _, _, _, _, .skip _ a, .skip _ b => a.det b
  | _, _, _, _, .skip h _, .take n _ => absurd h n
  | _, _, _, _, .take n _, .skip h _ => absurd h n
  | _, _, _, _, .take _ a, .take _ b => a.det b
section
variable {q : Qu}
theorem bfsL_bfs (ok : q.Ok) {ks : List Nat} (hl : ks.length = q.rw.length) (hk : ∀ x ∈ ks, x < q.rw.length) : ∀ (n : Nat) (w f : List Nat), BfOk q ks n w f → Bfs q.rw ks w f (bfsL q.rw ks n w f)
  | 0, w, f, h => by
    have : w = [] := by
      have := h.fuel
      exact List.eq_nil_of_length_eq_zero (by omega)
    subst this
    exact .nil
  | n + 1, [], f, h => .nil
  | n + 1, s :: w, f, h => by
    by_cases hs : s ∈ f
    · rw [bfsL_in hs]
      exact .skip hs (bfsL_bfs ok hl hk n w f h.skip)
    · rw [bfsL_out hs]
      exact .take hs (bfsL_bfs ok hl hk n _ _ (h.take ok hl hk hs))
/-! ### states, then classes -/
inductive Rel (kn : List Nat) : List Nat → List Nat → List Nat → Prop
  | nil {g : List Nat} : Rel kn g [] []
  | both {g w W : List Nat} {k s : Nat} : kn.getD s default = k → Rel kn (k :: g) w W → Rel kn g (k :: w) (s :: W)
  | one {g w W : List Nat} {s : Nat} : kn.getD s default ∈ g → Rel kn g w W → Rel kn g w (s :: W)
theorem Rel.mono {kn : List Nat} : ∀ {g g' w W : List Nat}, Rel kn g w W → (∀ x ∈ g, x ∈ g') → Rel kn g' w W
  | _, _, _, _, .nil, _ => .nil
  | _, _, _, _, .both e r, h => .both e (r.mono fun x hx => (List.mem_cons.mp hx).elim (fun z => z ▸ List.mem_cons_self) fun z => List.mem_cons_of_mem _ (h x z))
  | _, _, _, _, .one e r, h => .one (h _ e) (r.mono h)
theorem Rel.all_one {kn : List Nat} {g : List Nat} : ∀ {T : List Nat}, (∀ t ∈ T, kn.getD t default ∈ g) → Rel kn g [] T
  | [], _ => .nil
  | t :: T, h => .one (h t List.mem_cons_self) (Rel.all_one fun x hx => h x (List.mem_cons_of_mem _ hx))
theorem Rel.app_one {kn : List Nat} {T : List Nat} : ∀ {g w W : List Nat}, Rel kn g w W → (∀ t ∈ T, kn.getD t default ∈ g ∨ kn.getD t default ∈ w) → Rel kn g w (W ++ T)
  | _, _, _, .nil, h => Rel.all_one fun t ht => (h t ht).elim id fun z => absurd z List.not_mem_nil
  | _, _, _, .both e r, h => .both e (r.app_one fun t ht => (h t ht).elim (fun z => .inl (List.mem_cons_of_mem _ z)) fun z => (List.mem_cons.mp z).elim (fun y => .inl (y ▸ List.mem_cons_self)) .inr)
  | _, _, _, .one e r, h => .one e (r.app_one h)
theorem Rel.all_both {kn : List Nat} : ∀ {g T : List Nat}, Rel kn g (T.map fun t => kn.getD t default) T
  | _, [] => .nil
  | _, t :: T => .both rfl Rel.all_both
theorem Rel.app_both {kn : List Nat} {T : List Nat} : ∀ {g w W : List Nat}, Rel kn g w W → Rel kn g (w ++ T.map fun t => kn.getD t default) (W ++ T)
  | _, _, _, .nil => Rel.all_both
  | _, _, _, .both e r => .both e r.app_both
  | _, _, _, .one e r => .one e r.app_both
theorem nexts_id (ok : q.Ok) {s : Nat} (hs : s < q.rw.length) : nexts q.rw (List.range q.rw.length) s = q.rw.getD s default := by
  unfold nexts
  refine Eq.trans (List.map_congr_left fun l hl => ?_) (List.map_id _)
  have hlt := (ok.row hs).2 l hl
  rw [getD_lt (by rw [List.length_range]; exact hlt), List.getElem_range]
  rfl
theorem order_snoc (kn F : List Nat) (s : Nat) : orderOf kn (F ++ [s]) = if kn.getD s default ∈ orderOf kn F then orderOf kn F else orderOf kn F ++ [kn.getD s default] := by
  unfold orderOf
  rw [List.foldl_append]
  rfl
theorem order_mem (kn : List Nat) (F : List Nat) : ∀ (s : Nat), s ∈ F → kn.getD s default ∈ orderOf kn F := by
  have key : ∀ (l acc : List Nat), (∀ x ∈ acc, x ∈ l.foldl (ordTurn kn) acc) ∧ ∀ s ∈ l, kn.getD s default ∈ l.foldl (ordTurn kn) acc := by
    intro l
    induction l with
    | nil => exact fun acc => ⟨fun x hx => hx, fun s hs => absurd hs List.not_mem_nil⟩
    | cons a l ih =>
      intro acc
      rw [List.foldl_cons]
      obtain ⟨h1, h2⟩ := ih (ordTurn kn acc a)
      have h3 : ∀ x ∈ acc, x ∈ ordTurn kn acc a := fun x hx => by
        unfold ordTurn
        split
        · exact hx
        · exact List.mem_append_left _ hx
      have h4 : kn.getD a default ∈ ordTurn kn acc a := by
        unfold ordTurn
        split
        · assumption
        · exact List.mem_append_right _ (List.mem_singleton.mpr rfl)
      exact ⟨fun x hx => h1 x (h3 x hx), fun s hs => (List.mem_cons.mp hs).elim (fun e => e ▸ h1 _ h4) (h2 s)⟩
  exact (key F []).2
/-- the classes' order is the order of the states' classes -/
theorem bfs_kinds (ok : q.Ok) {kn : List Nat} (r : RepV q kn) : ∀ {W F O : List Nat}, Bfs q.rw (List.range q.rw.length) W F O → (∀ s ∈ W, s < q.rw.length) → ∀ w, Rel kn (orderOf kn F) w W → (∀ k ∈ orderOf kn F, k < q.rw.length ∧ kn.getD k default = k) → (∀ k ∈ orderOf kn F, ∀ x ∈ nexts q.rw kn k, x ∈ orderOf kn F ∨ x ∈ w) → Bfs q.rw kn w (orderOf kn F) (orderOf kn O) := by
  intro W F O h
  induction h with
  | nil =>
    intro _ w hr _ _
    cases hr
    exact .nil
  | @skip s W F O hs h ih =>
    intro hW w hr h1 h2
    have hW' : ∀ s ∈ W, s < q.rw.length := fun x hx => hW x (List.mem_cons_of_mem _ hx)
    have hm := order_mem kn F s hs
    cases hr with
    | @both _ w' _ k _ e hr =>
      subst e
      refine .skip hm (ih hW' _ (hr.mono fun x hx => (List.mem_cons.mp hx).elim (fun z => z ▸ hm) id) h1 fun k hk x hx => ?_)
      exact (h2 k hk x hx).elim .inl fun z => (List.mem_cons.mp z).elim (fun y => .inl (y ▸ hm)) .inr
    | one e hr => exact ih hW' _ hr h1 h2
  | @take s W F O hs h ih =>
    intro hW w hr h1 h2
    have hsl := hW s List.mem_cons_self
    rw [nexts_id ok hsl] at ih h
    have hW' : ∀ x ∈ W ++ q.rw.getD s default, x < q.rw.length := fun x hx => (List.mem_append.mp hx).elim (fun z => hW x (List.mem_cons_of_mem _ z)) fun z => (ok.row hsl).2 x z
    have hks := r.lt' hsl
    have hkk : kn.getD (kn.getD s default) default = kn.getD s default := (r.eq _ _ hks hsl).mpr (r.idem s hsl)
    have hnx : (q.rw.getD s default).map (fun t => kn.getD t default) = nexts q.rw kn (kn.getD s default) := by
      unfold nexts
      rw [row_eq ok hsl, row_eq ok hks, List.map_map, List.map_map]
      exact List.map_congr_left fun l hl => (r.step ok hsl hl).symm
    have hin : ∀ t ∈ q.rw.getD s default, kn.getD t default ∈ nexts q.rw kn (kn.getD s default) := fun t ht => by
      rw [← hnx]
      exact List.mem_map.mpr ⟨t, ht, rfl⟩
    rw [order_snoc] at ih
    cases hr with
    | @both _ w' _ k _ e hr =>
      subst e
      by_cases z : kn.getD s default ∈ orderOf kn F
      · rw [if_pos z] at ih
        have h2' : ∀ k ∈ orderOf kn F, ∀ x ∈ nexts q.rw kn k, x ∈ orderOf kn F ∨ x ∈ w' := fun k hk x hx => (h2 k hk x hx).elim .inl fun y => (List.mem_cons.mp y).elim (fun u => .inl (u ▸ z)) .inr
        exact .skip z (ih hW' _ ((hr.mono fun x hx => (List.mem_cons.mp hx).elim (fun y => y ▸ z) id).app_one fun t ht => h2' _ z _ (hin t ht)) h1 h2')
      · rw [if_neg z] at ih
        refine .take z (ih hW' _ ?_ (fun k hk => ?_) fun k hk x hx => ?_)
        · rw [← hnx]
          exact (hr.mono fun x hx => (List.mem_cons.mp hx).elim (fun y => y ▸ List.mem_append_right _ (List.mem_singleton.mpr rfl)) fun y => List.mem_append_left _ y).app_both
        · rcases List.mem_append.mp hk with y | y
          · exact h1 k y
          · rw [List.mem_singleton] at y
            subst y
            exact ⟨hks, hkk⟩
        · rcases List.mem_append.mp hk with y | y
          · rcases h2 k y x hx with u | u
            · exact .inl (List.mem_append_left _ u)
            · rcases List.mem_cons.mp u with v | v
              · exact .inl (v ▸ List.mem_append_right _ (List.mem_singleton.mpr rfl))
              · exact .inr (List.mem_append_left _ v)
          · rw [List.mem_singleton] at y
            subst y
            exact .inr (List.mem_append_right _ hx)
    | one e hr =>
      rw [if_pos e] at ih
      exact ih hW' _ (hr.app_one fun t ht => h2 _ e _ (hin t ht)) h1 h2
/-! ### the program's levels -/
theorem fp_succ (q : Qu) (ok : q.Ok) : ∀ fr : Lev, (∀ p ∈ fr, p.2 < q.rw.length) → (q.fpNext fr).map (·.2) = fr.flatMap fun p => q.rw.getD p.2 default
  | [], _ => rfl
  | p :: fr, h => by
    have ih := fp_succ q ok fr fun x hx => h x (List.mem_cons_of_mem _ hx)
    unfold Qu.fpNext at ih ⊢
    rw [List.flatMap_cons, List.map_append, ih, List.flatMap_cons, List.map_map]
    congr 1
    have hr := (ok.row (h p List.mem_cons_self)).1
    have : ((·.2) ∘ fun ll : Str × Nat => (p.1 ++ [ll.1], ll.2)) = (·.2) := rfl
    rw [this]
    exact List.map_snd_zip (by rw [hr]; exact Nat.le_refl _)
theorem look_iff {f : Fnd} {s : Nat} : (f.lookup s).isSome = true ↔ s ∈ f.map (·.1) := by
  constructor
  · intro h
    refine Classical.byContradiction fun n => ?_
    have key : ∀ f : Fnd, s ∉ f.map (·.1) → f.lookup s = none := by
      intro f
      induction f with
      | nil => exact fun _ => rfl
      | cons p f ih =>
        intro h
        rw [List.map_cons, List.mem_cons, not_or] at h
        rw [List.lookup_cons, beq_eq_false_iff_ne.mpr h.1]
        exact ih h.2
    rw [key f n] at h
    cases h
  · exact lookup_some
theorem fpTurn_in {f : Fnd} {fr : Lev} {p : List Str × Nat} (z : (f.lookup p.2).isSome = true) : fpTurn (f, fr) p = (f, fr) := by
  unfold fpTurn
  rw [if_pos z]
theorem fpTurn_out {f : Fnd} {fr : Lev} {p : List Str × Nat} (z : ¬ (f.lookup p.2).isSome = true) : fpTurn (f, fr) p = (f ++ [(p.2, p.1)], fr ++ [p]) := by
  unfold fpTurn
  rw [if_neg z]
/-- one level, state by state -/
theorem fp_level (ok : q.Ok) {o : List Nat} : ∀ (l : Lev) (f : Fnd) (fr : Lev), (∀ p ∈ l, p.2 < q.rw.length) →
    Bfs q.rw (List.range q.rw.length) ((l.foldl fpTurn (f, fr)).2.flatMap fun p => q.rw.getD p.2 default) ((l.foldl fpTurn (f, fr)).1.map (·.1)) o →
    Bfs q.rw (List.range q.rw.length) (l.map (·.2) ++ fr.flatMap fun p => q.rw.getD p.2 default) (f.map (·.1)) o
  | [], f, fr, _, h => h
  | p :: l, f, fr, hl, h => by
    have hp := hl p List.mem_cons_self
    rw [List.foldl_cons] at h
    have ih := fp_level ok l (fpTurn (f, fr) p).1 (fpTurn (f, fr) p).2 (fun x hx => hl x (List.mem_cons_of_mem _ hx)) h
    rw [List.map_cons, List.cons_append]
    by_cases z : (f.lookup p.2).isSome = true
    · rw [fpTurn_in z] at ih
      exact .skip (look_iff.mp z) ih
    · rw [fpTurn_out z] at ih
      refine .take (fun y => z (look_iff.mpr y)) ?_
      rw [nexts_id ok hp, List.append_assoc]
      rw [List.map_append, List.flatMap_append] at ih
      simp only [List.map_cons, List.map_nil, List.flatMap_cons, List.flatMap_nil, List.append_nil] at ih
      exact ih
theorem fp_bfs (ok : q.Ok) {o : Fnd} : ∀ {m : Nat} {f : Fnd} {l : Lev}, FP q m f l o → FpOk q m f l → Bfs q.rw (List.range q.rw.length) (l.map (·.2)) (f.map (·.1)) (o.map (·.1))
  | 0, f, l, h, _ => by
    obtain ⟨rfl, rfl⟩ := h
    exact .nil
  | m + 1, f, l, h, k => by
    obtain ⟨k1, _, k3⟩ := k.next ok
    have ih := fp_bfs ok h.2 k1
    rw [fp_succ q ok _ fun p hp => (k3 p hp).1] at ih
    have := fp_level ok l f [] (fun p hp => (k.lv p hp).1) ih
    simp only [List.flatMap_nil, List.append_nil] at this
    exact this
theorem fold_len : ∀ (l : Lev) (f : Fnd) (fr : Lev), (l.foldl fpTurn (f, fr)).1.length + fr.length = f.length + (l.foldl fpTurn (f, fr)).2.length
  | [], f, fr => by simp [Nat.add_comm]
  | p :: l, f, fr => by
    rw [List.foldl_cons]
    have ih := fold_len l (fpTurn (f, fr) p).1 (fpTurn (f, fr) p).2
    by_cases z : (f.lookup p.2).isSome = true
    · rw [fpTurn_in z] at ih ⊢
      exact ih
    · rw [fpTurn_out z] at ih ⊢
      simp only at ih
      rw [List.length_append, List.length_append] at ih
      simp only [List.length_singleton] at ih
      omega
theorem fp_ex (ok : q.Ok) : ∀ (c M : Nat) (f : Fnd) (l : Lev), FpOk q M f l → q.rw.length - f.length ≤ c → c + 2 ≤ M → ∃ m o, m ≤ c + 2 ∧ FP q m f l o := by
  intro c
  induction c with
  | zero =>
    intro M f l k h hM
    by_cases z : l = []
    · exact ⟨0, f, by omega, z, rfl⟩
    · obtain ⟨M', rfl⟩ : ∃ M', M = M' + 1 := ⟨M - 1, by omega⟩
      obtain ⟨k1, _, _⟩ := k.next ok
      have e := fold_len l f []
      have hle : (l.foldl fpTurn (f, [])).1.length ≤ q.rw.length := by
        have := nodup_len q.rw.length _ k1.nd fun x hx => by
          obtain ⟨p, hp, rfl⟩ := List.mem_map.mp hx
          exact k1.lt p hp
        rwa [List.length_map] at this
      have hn : (l.foldl fpTurn (f, [])).2 = [] := List.eq_nil_of_length_eq_zero (by simp only [List.length_nil] at e; omega)
      exact ⟨1, _, by omega, z, by rw [hn]; rfl, rfl⟩
  | succ c ih =>
    intro M f l k h hM
    by_cases z : l = []
    · exact ⟨0, f, by omega, z, rfl⟩
    · obtain ⟨M', rfl⟩ : ∃ M', M = M' + 1 := ⟨M - 1, by omega⟩
      obtain ⟨k1, _, _⟩ := k.next ok
      have e := fold_len l f []
      simp only [List.length_nil] at e
      by_cases y : (l.foldl fpTurn (f, [])).2 = []
      · exact ⟨1, _, by omega, z, by rw [y]; rfl, rfl⟩
      · have : 1 ≤ (l.foldl fpTurn (f, [])).2.length := by
          cases hh : (l.foldl fpTurn (f, [])).2 with
          | nil => exact absurd hh y
          | cons a b => simp
        obtain ⟨m, o, hm, hf⟩ := ih M' _ _ k1 (by omega) (by omega)
        exact ⟨m + 1, o, by omega, z, hf⟩
theorem init_states (ok : q.Ok) : q.fpInit.map (·.2) = q.ro := by
  unfold Qu.fpInit
  rw [List.map_map]
  have : ((·.2) ∘ fun p : Str × Nat => ([p.1], p.2)) = (·.2) := rfl
  rw [this]
  exact List.map_snd_zip (by rw [ok.ro.1]; exact Nat.le_refl _)
theorem least_is (ok : q.Ok) : Least q (leastL q) := by
  have r := kindsL_rep ok
  have hk := kindsL_ok ok
  obtain ⟨m, hm⟩ := kb_all ok
  obtain ⟨m', o, h1, h2⟩ := fp_ex ok q.rw.length 1000 [] q.fpInit (fpInit_ok ok (Nat.le_refl _)) (by simp) (by have := ok.n2; omega)
  have h1' : m' ≤ 1000 := by have := ok.n2; omega
  have hb := fp_bfs ok h2 (fpInit_ok ok h1')
  rw [init_states ok] at hb
  have hc := bfs_kinds ok r hb ok.ro.2 _ (Rel.all_both (kn := kindsL q) (T := q.ro)) (fun k hk => absurd hk List.not_mem_nil) fun k hk => absurd hk List.not_mem_nil
  have hd := bfsL_bfs ok hk.1 hk.2 _ _ _ (bf_init ok hk.1 hk.2)
  have e : orderOf (kindsL q) (o.map (·.1)) = orderL q (kindsL q) := hc.det hd
  refine ⟨m, kindsL q, m', o, ok, hm, h1', h2, ?_, ?_⟩
  · rw [e]
    exact (order_end ok hk.1 hk.2).2
  · rw [e]
    rfl
end
end OX
set_option Elab.async false
set_option linter.all false
set_option maxHeartbeats 1000000
/-! M16: queries with the same colours have the same least query. -/
namespace OX
open PySem L2
theorem pget {α β : Type} {R : α → β → Prop} : ∀ {xs : List α} {ys : List β} {i : Nat} {x : α}, Paired R xs ys → xs[i]? = some x → ∃ y, ys[i]? = some y ∧ R x y
  | _, _, _, _, .nil, h => by simp at h
  | _, _, 0, _, .cons a _, h => by
    simp at h
    subst h
    exact ⟨_, rfl, a⟩
  | _, _, i + 1, x, .cons _ t, h => by
    obtain ⟨y, h1, h2⟩ := pget (i := i) (x := x) t (by simpa using h)
    exact ⟨y, by simpa using h1, h2⟩
theorem pflip {α β : Type} {R : α → β → Prop} : ∀ {xs : List α} {ys : List β}, Paired R xs ys → Paired (fun b a => R a b) ys xs
  | _, _, .nil => .nil
  | _, _, .cons a t => .cons a (pflip t)
theorem papp {α β : Type} {R : α → β → Prop} : ∀ {xs zs : List α} {ys us : List β}, Paired R xs ys → Paired R zs us → Paired R (xs ++ zs) (ys ++ us)
  | _, _, _, _, .nil, b => b
  | _, _, _, _, .cons a t, b => .cons a (papp t b)
theorem pmap {α β γ : Type} {R : β → γ → Prop} {f : α → β} {g : α → γ} : ∀ {xs : List α}, (∀ x ∈ xs, R (f x) (g x)) → Paired R (xs.map f) (xs.map g)
  | [], _ => .nil
  | x :: xs, h => .cons (h x List.mem_cons_self) (pmap fun y hy => h y (List.mem_cons_of_mem _ hy))
theorem pmap_eq {α β γ : Type} {R : α → β → Prop} {f : α → γ} {g : β → γ} : ∀ {xs : List α} {ys : List β}, Paired R xs ys → (∀ x y, x ∈ xs → y ∈ ys → R x y → f x = g y) → xs.map f = ys.map g
  | _, _, .nil, _ => rfl
  | _, _, .cons a t, h => by
    rw [List.map_cons, List.map_cons, h _ _ List.mem_cons_self List.mem_cons_self a, pmap_eq t fun x y hx hy => h x y (List.mem_cons_of_mem _ hx) (List.mem_cons_of_mem _ hy)]
section
variable {q r : Qu}
/-- two states of two queries with the same colours behind all words; both are the least of their classes -/
structure Alike (q r : Qu) (s t : Nat) : Prop where
  hs : s < q.rw.length
  ht : t < r.rw.length
  rs : (kindsL q).getD s default = s
  rt : (kindsL r).getD t default = t
  co : ∀ w, Wd q w → q.co.getD (q.run s w) default = r.co.getD (r.run t w) default
theorem bqv_of (ok : q.Ok) {s t : Nat} (h : ∀ w, Wd q w → q.co.getD (q.run s w) default = q.co.getD (q.run t w) default) : q.bqv s t := fun _ w hw _ => h w hw
theorem Alike.left (ok : q.Ok) (eL : q.L = r.L) {s s' t : Nat} (h : Alike q r s t) (h' : Alike q r s' t) : s = s' := by
  have := (kindsL_rep ok).eq s s' h.hs h'.hs
  rw [h.rs, h'.rs] at this
  exact this.mpr (bqv_of ok fun w hw => (h.co w hw).trans (h'.co w hw).symm)
theorem Alike.right (ok : r.Ok) (eL : q.L = r.L) {s t t' : Nat} (h : Alike q r s t) (h' : Alike q r s t') : t = t' := by
  have := (kindsL_rep ok).eq t t' h.ht h'.ht
  rw [h.rt, h'.rt] at this
  have wd : ∀ w, Wd r w → Wd q w := fun w hw a ha => by rw [eL]; exact hw a ha
  exact this.mpr (bqv_of ok fun w hw => (h.co w (wd w hw)).symm.trans (h'.co w (wd w hw)))
/-- of any two states with the same colours, the least ones are alike -/
theorem alike_of (ok : q.Ok) (ok' : r.Ok) (eL : q.L = r.L) {s t : Nat} (hs : s < q.rw.length) (ht : t < r.rw.length) (h : ∀ w, Wd q w → q.co.getD (q.run s w) default = r.co.getD (r.run t w) default) : Alike q r ((kindsL q).getD s default) ((kindsL r).getD t default) := by
  have rq := kindsL_rep ok
  have rr := kindsL_rep ok'
  have wd : ∀ w, Wd q w → Wd r w := fun w hw a ha => by rw [← eL]; exact hw a ha
  refine ⟨rq.lt' hs, rr.lt' ht, (rq.eq _ _ (rq.lt' hs) hs).mpr (rq.idem s hs), (rr.eq _ _ (rr.lt' ht) ht).mpr (rr.idem t ht), fun w hw => ?_⟩
  rw [bqv_co (bqv_run (rq.idem s hs) hw), bqv_co (bqv_run (rr.idem t ht) (wd w hw))]
  exact h w hw
theorem Alike.step (ok : q.Ok) (ok' : r.Ok) (eL : q.L = r.L) {s t : Nat} (h : Alike q r s t) {l : Str} (hl : l ∈ q.L) : Alike q r ((kindsL q).getD (q.step s l) default) ((kindsL r).getD (r.step t l) default) :=
  alike_of ok ok' eL (ok.step_lt h.hs hl) (ok'.step_lt h.ht (eL ▸ hl)) fun w hw => h.co (l :: w) fun x hx => (List.mem_cons.mp hx).elim (fun e => e ▸ hl) (hw x)
theorem nexts_eq (ok : q.Ok) {s : Nat} (hs : s < q.rw.length) : nexts q.rw (kindsL q) s = q.L.map fun l => (kindsL q).getD (q.step s l) default := by
  unfold nexts
  rw [row_eq ok hs, List.map_map]
  rfl
theorem Alike.nexts (ok : q.Ok) (ok' : r.Ok) (eL : q.L = r.L) {s t : Nat} (h : Alike q r s t) : Paired (Alike q r) (OX.nexts q.rw (kindsL q) s) (OX.nexts r.rw (kindsL r) t) := by
  rw [nexts_eq ok h.hs, nexts_eq ok' h.ht, ← eL]
  exact pmap fun l hl => h.step ok ok' eL hl
theorem pmem (ok : q.Ok) (ok' : r.Ok) (eL : q.L = r.L) {f g : List Nat} (p : Paired (Alike q r) f g) {s t : Nat} (h : Alike q r s t) : s ∈ f ↔ t ∈ g := by
  constructor
  · intro hs
    obtain ⟨i, hi⟩ := List.getElem?_of_mem hs
    obtain ⟨y, h1, h2⟩ := pget p hi
    rw [h.right ok' eL h2]
    exact List.mem_of_getElem? h1
  · intro ht
    obtain ⟨i, hi⟩ := List.getElem?_of_mem ht
    obtain ⟨y, h1, h2⟩ := pget (pflip p) hi
    rw [h.left ok eL h2]
    exact List.mem_of_getElem? h1
theorem lock (ok : q.Ok) (ok' : r.Ok) (eL : q.L = r.L) : ∀ {w f o : List Nat}, Bfs q.rw (kindsL q) w f o → ∀ {w' f' o' : List Nat}, Bfs r.rw (kindsL r) w' f' o' → Paired (Alike q r) w w' → Paired (Alike q r) f f' → Paired (Alike q r) o o' := by
  intro w f o h
  induction h with
  | nil =>
    intro w' f' o' h' pw pf
    cases pw
    cases h'
    exact pf
  | @skip s w f o hs h ih =>
    intro w' f' o' h' pw pf
    cases pw with
    | cons a pw =>
      have := (pmem ok ok' eL pf a).mp hs
      cases h' with
      | skip _ h' => exact ih h' pw pf
      | take n _ => exact absurd this n
  | @take s w f o hs h ih =>
    intro w' f' o' h' pw pf
    cases pw with
    | cons a pw =>
      cases h' with
      | skip n _ => exact absurd ((pmem ok ok' eL pf a).mpr n) hs
      | take _ h' => exact ih h' (papp pw (a.nexts ok ok' eL)) (papp pf (.cons a .nil))
theorem idx_alike (ok : q.Ok) (ok' : r.Ok) (eL : q.L = r.L) : ∀ {f g : List Nat}, Paired (Alike q r) f g → ∀ {s t : Nat}, Alike q r s t → f.idxOf s = g.idxOf t
  | _, _, .nil, _, _, _ => rfl
  | _, _, .cons (a := x) (b := y) a p, s, t, h => by
    have ih := idx_alike ok ok' eL p h
    rw [List.idxOf_cons, List.idxOf_cons, ih]
    by_cases e : x = s
    · subst e
      have := a.right ok' eL h
      subst this
      simp
    · have n : y ≠ t := fun z => e (by subst z; exact a.left ok eL h)
      rw [beq_eq_false_iff_ne.mpr e, beq_eq_false_iff_ne.mpr n]
theorem ro_eq (ok : q.Ok) : q.ro = q.L.map q.root := by
  unfold Qu.root
  refine List.ext_getElem (by rw [List.length_map, ok.ro.1]) fun j h1 h2 => ?_
  rw [List.length_map] at h2
  rw [List.getElem_map, (slt_nodup' ok.labs.2.2.2).idxOf_getElem j h2, getD_lt h1]
theorem least_same (ok : q.Ok) (ok' : r.Ok) (eL : q.L = r.L) (h : ∀ (l : Str) (w : List Str), l ∈ q.L → (∀ a ∈ w, a ∈ q.L) → q.co.getD (q.run (q.root l) w) default = r.co.getD (r.run (r.root l) w) default) : leastL q = leastL r := by
  have hk := kindsL_ok ok
  have hk' := kindsL_ok ok'
  have b1 := bfsL_bfs ok hk.1 hk.2 _ _ _ (bf_init ok hk.1 hk.2)
  have b2 := bfsL_bfs ok' hk'.1 hk'.2 _ _ _ (bf_init ok' hk'.1 hk'.2)
  have hroot : ∀ l ∈ q.L, Alike q r ((kindsL q).getD (q.root l) default) ((kindsL r).getD (r.root l) default) := fun l hl => alike_of ok ok' eL (ok.root_lt hl) (ok'.root_lt (eL ▸ hl)) fun w hw => h l w hl hw
  have p0 : Paired (Alike q r) (q.ro.map fun s => (kindsL q).getD s default) (r.ro.map fun s => (kindsL r).getD s default) := by
    rw [ro_eq ok, ro_eq ok', ← eL, List.map_map, List.map_map]
    exact pmap hroot
  have p : Paired (Alike q r) (orderL q (kindsL q)) (orderL r (kindsL r)) := lock ok ok' eL b1 b2 p0 .nil
  have c1 := (order_end ok hk.1 hk.2).2
  have c2 := (order_end ok' hk'.1 hk'.2).2
  unfold leastL
  generalize orderL q (kindsL q) = o1 at *
  generalize orderL r (kindsL r) = o2 at *
  unfold Qu.lq
  have e1 : (q.ro.map fun s => o1.idxOf ((kindsL q).getD s default)) = r.ro.map fun s => o2.idxOf ((kindsL r).getD s default) := by
    rw [ro_eq ok, ro_eq ok', ← eL, List.map_map, List.map_map]
    exact List.map_congr_left fun l hl => idx_alike ok ok' eL p (hroot l hl)
  have e2 : (o1.map fun k => (q.rw.getD k default).map fun l => o1.idxOf ((kindsL q).getD l default)) = o2.map fun k => (r.rw.getD k default).map fun l => o2.idxOf ((kindsL r).getD l default) := by
    refine pmap_eq p fun s t hs ht a => ?_
    rw [row_eq ok a.hs, row_eq ok' a.ht, ← eL, List.map_map, List.map_map]
    exact List.map_congr_left fun l hl => idx_alike ok ok' eL p (a.step ok ok' eL hl)
  have e3 : (o1.map fun k => q.co.getD k default) = o2.map fun k => r.co.getD k default := pmap_eq p fun s t _ _ a => a.co [] fun _ z => absurd z List.not_mem_nil
  rw [e1, e2, e3, eL]
end
theorem mathQ : MathQ := ⟨fun q ok => least_is ok, fun q l w ok hl hw => leastL_col ok hl hw, fun q r ok ok' eL h => least_same ok ok' eL h⟩
end OX
set_option Elab.async false
set_option linter.all false
set_option maxRecDepth 100000
set_option maxHeartbeats 4000000
namespace OX
open PySem L2
def topS (i : Nat) : Stmt := PySem.Challenge.pw_openmarks_k78_queries_underneath_and_tra.main.body.getD i (.Pass ⟨0, 0, 0, 0⟩)
local macro_rules | `(tactic| walk_at "vis") => `(tactic| first | exact Or.inl (by kernel_rfl!) | exact Or.inr (Or.inl (by kernel_rfl!)) | exact Or.inr (Or.inr (by kernel_rfl!)))
local macro_rules | `(tactic| walk_at "loc") => `(tactic| first | exact Or.inl (by kernel_rfl!) | exact Or.inr (by kernel_rfl!))
local macro_rules | `(tactic| walk_at "gl") => `(tactic| first | kernel_rfl! | rfl)
local macro_rules | `(tactic| walk_at "side") => `(tactic| first | with_reducible assumption | omega | decide | (simp only [List.length_map, List.length_zip, List.length_zipIdx, List.length_range, List.length_append, List.length_replicate, List.length_cons, List.length_nil, sizeLine] at *; omega) | solve_by_elim)
local macro_rules | `(tactic| walk_at "len") => `(tactic| first | assumption | omega | exact Nat.le_of_ble_eq_true rfl | (simp only [List.length_map, List.length_zip, List.length_zipIdx, List.length_range, List.length_append, List.length_replicate, List.length_cons, List.length_nil, sizeLine] at *; omega) | decide | solve_by_elim)
local macro_rules | `(tactic| walk_at "mgn") => `(tactic| (refine' NoB.at ‹NoB _› ?h; (case h => first | with_reducible exact inb_len | with_reducible exact inb_isinstance | with_reducible exact inb_int | with_reducible exact inb_bool | with_reducible exact inb_str | with_reducible exact inb_tuple | with_reducible exact inb_list | with_reducible exact inb_dict | with_reducible exact inb_all | with_reducible exact inb_any | with_reducible exact inb_zip | with_reducible exact inb_enumerate | with_reducible exact inb_range | with_reducible exact inb_set | with_reducible exact inb_sorted | with_reducible exact inb_sum | with_reducible exact inb_min | with_reducible exact inb_max | with_reducible exact inb_abs | with_reducible exact inb_repr)))
local macro_rules | `(tactic| walk_at "boot") => `(tactic| first | with_reducible exact PyProof.Rows.boot_int | with_reducible exact PyProof.Rows.boot_bool | with_reducible exact PyProof.Rows.boot_str | with_reducible exact PyProof.Rows.boot_tuple | with_reducible exact PyProof.Rows.boot_dict | with_reducible exact PyProof.Rows.boot_list)
local macro_rules | `(tactic| walk_at "kit") => `(tactic| first | with_reducible exact kd_ii | with_reducible exact kd_ib | with_reducible exact kd_is | with_reducible exact kd_it | with_reducible exact kd_il | with_reducible exact kd_id | with_reducible exact kd_mi | with_reducible exact kd_mb | with_reducible exact kd_ms | with_reducible exact kd_mt | with_reducible exact kd_ml | with_reducible exact kd_md | with_reducible exact kd_bi | with_reducible exact kd_bb | with_reducible exact kd_bs | with_reducible exact kd_bt | with_reducible exact kd_bl | with_reducible exact kd_bd | with_reducible exact kd_si | with_reducible exact kd_sb | with_reducible exact kd_ss | with_reducible exact kd_st | with_reducible exact kd_sl | with_reducible exact kd_sd | with_reducible exact kd_ti | with_reducible exact kd_tb | with_reducible exact kd_ts | with_reducible exact kd_tt | with_reducible exact kd_tl | with_reducible exact kd_td | with_reducible exact kd_li | with_reducible exact kd_lb | with_reducible exact kd_ls | with_reducible exact kd_lt | with_reducible exact kd_ll | with_reducible exact kd_ld | with_reducible exact kd_di | with_reducible exact kd_db | with_reducible exact kd_ds | with_reducible exact kd_dt | with_reducible exact kd_dl | with_reducible exact kd_dd | with_reducible exact kd_ei | with_reducible exact kd_eb | with_reducible exact kd_es | with_reducible exact kd_et | with_reducible exact kd_el | with_reducible exact kd_ed | with_reducible exact kd_ni | with_reducible exact kd_nb | with_reducible exact kd_ns | with_reducible exact kd_nt | with_reducible exact kd_nl | with_reducible exact kd_nd)
local macro_rules | `(tactic| walk_at "bx") => `(tactic| first
  | exact bx_addN | (refine' bx_subN ?s; (case s => walk_at "side")) | (refine' bx_modN ?s; (case s => walk_at "side")) | (refine' bx_fdivN ?s; (case s => walk_at "side")) | (refine' bx_mulN ?s; (case s => walk_at "side"))
  | exact bx_powN bits_10_59 | exact bx_powN bits_10_18 | exact bx_powN bits_big
  | exact bx_addI | exact bx_subI | (refine' bx_modI ?s; (case s => walk_at "side")) | (refine' bx_fdivI ?s; (case s => walk_at "side")) | (refine' bx_mulI ?s; (case s => walk_at "side")) | (refine' bx_catT ?s; (case s => walk_at "len")) | (refine' bx_addS ?s; (case s => walk_at "side")))
local macro_rules | `(tactic| walk_at "cx") => `(tactic| first
  | exact cx_ltN | exact cx_leN | exact cx_gtN | exact cx_geN | exact cx_eqN | exact cx_neN
  | exact cx_ltI | exact cx_leI | exact cx_gtI | exact cx_geI | exact cx_eqI | exact cx_neI | exact cx_eqS | exact cx_neS | exact cx_ltS | exact cx_inSign | exact cx_isNN | (refine' cx_isN ?n; (case n => (intro z; cases z)))
  | (refine' cx_eqNilT enc_str ?hP dp_str ?hu; (case hP => assumption); (case hu => exact Room.units ‹Room _ _›)) | (refine' cx_neNilT enc_str ?hP dp_str ?hu; (case hP => assumption); (case hu => exact Room.units ‹Room _ _›))
  | exact cx_inN sq_tup | exact cx_inN sq_list | exact cx_inN (sq_own rfl) | exact cx_niN sq_tup | exact cx_niN sq_list | exact cx_niN (sq_own rfl)
  | exact cx_inS sq_tup | exact cx_inS sq_list | exact cx_niS sq_tup | exact cx_niS sq_list | exact cx_inI sq_list | exact cx_niI sq_list | exact cx_niI (sq_own rfl) | exact cx_inI (sq_own rfl) | exact cx_niS (sq_own rfl) | exact cx_inS (sq_own rfl))
local macro_rules | `(tactic| walk_at "ixs") => `(tactic| first | assumption | omega | exact Nat.succ_pos _ | solve_by_elim)
local macro_rules | `(tactic| walk_at "sx") => `(tactic| first
  | exact sx_at sq_tup (by rfl) | exact sx_at sq_list (by rfl) | exact sx_at (sq_own rfl) (by rfl)
  | (refine' sx_map sq_tup ?h; (case h => walk_at "ixs")) | (refine' sx_map sq_list ?h; (case h => walk_at "ixs")) | (refine' sx_map (sq_own rfl) ?h; (case h => walk_at "ixs")))
local macro_rules | `(tactic| walk_at "cr") => `(tactic| first
  | exact cr_lenM sq_tup | exact cr_lenM sq_list | exact cr_lenM (sq_own rfl) | exact cr_len' sq_tup | exact cr_len' sq_list | exact cr_len' (sq_own rfl) | (refine' cr_lenS' ?s; (case s => walk_at "side")) | exact cr_lenDS dr_d | exact cr_lenD' dr_d | exact cr_lenD' (dr_own rfl)
  | (refine' cr_allM ?c ?e; (case e => rfl); (case c => rfl)) | (refine' cr_anyM ?c ?e; (case e => rfl); (case c => rfl)) | (refine' cr_sumN ?c (Or.inl rfl); (case c => rfl)) | (refine' cr_maxN ?c; (case c => rfl)) | (refine' cr_minN ?c; (case c => rfl)) | (refine' cr_max2 ?c; (case c => rfl)) | (refine' cr_min2 ?c; (case c => rfl)) | exact cr_absN)
local macro_rules | `(tactic| walk_at "ct") => `(tactic| first | exact cr_intN | exact cr_intBN | exact cr_intI | exact cr_tupL (Or.inl rfl) | exact cr_tupL (Or.inr ⟨_, _, rfl, rfl⟩) | exact cr_tupT)
local macro_rules | `(tactic| walk_at "rel") => `(tactic| fail)
local macro_rules | `(tactic| walk_at "def") => `(tactic| first
  | (refine' ev_defE ?G ?r ?k ?gl ?a ?R; (case G => assumption); (case r => assumption); (case k => decide); (case gl => walk_at "gl"); (case a => walk_at "ead"); (case R => walk_at "rel"))
  | (refine' ev_defBE ?G ?r ?k ?gl ?b ?a ?i ?R; (case G => assumption); (case r => assumption); (case k => decide); (case gl => walk_at "gl"); (case b => walk_at "ev"); (case a => walk_at "ead"); (case i => rfl); (case R => walk_at "rel"))
  | (refine' ev_defE0 ?G ?r ?k ?gl ?R; (case G => assumption); (case r => assumption); (case k => decide); (case gl => walk_at "gl"); (case R => walk_at "rel")))
local macro_rules | `(tactic| walk_at "glob") => `(tactic| first | (refine' ev_globS ?gl ?m; (case gl => walk_at "gl"); (case m => assumption)) | (refine' ev_globI ?gl ?m; (case gl => walk_at "gl"); (case m => assumption)))
local macro_rules | `(tactic| walk_at "mix") => `(tactic| fail)
local macro_rules | `(tactic| walk_at "own?") => `(tactic| first | exact Or.inl rfl | exact Or.inr ⟨_, _, rfl, rfl⟩)
local macro_rules | `(tactic| walk_at "mth") => `(tactic| first
  | (refine' ev_tindexS ?a ?b ?h; (case a => walk_at "ev"); (case b => walk_at "ev"); (case h => walk_at "ixs"))
  | (refine' ev_lindexM (hst := ?st) enc_nat (fun _ _ => trivial) dp_nat ?hu ?a ?b ?s1 ?s2 ?h; (case hu => exact Room.units1 ‹Room _ _›); (case a => walk_at "ev"); (case st => rfl); (case b => walk_at "ev"); (case s1 => walk_at "own?"); (case s2 => walk_at "own?"); (case h => walk_at "ixs"))
  | (refine' ev_append ?a ?b ?s1 ?s2 ?l; (case a => walk_at "ev"); (case b => walk_at "evd"); (case s1 => exact ⟨_, _, rfl⟩); (case s2 => rfl); (case l => walk_at "len"))
  | (refine' ev_setdM ?a ?b ?c ?s1 ?s2 ?l ?m; (case a => walk_at "ev"); (case b => walk_at "ev"); (case c => walk_at "ev"); (case s1 => exact ⟨_, _, rfl⟩); (case s2 => rfl); (case l => walk_at "len"); (case m => exact ⟨by rfl, by rfl, by rfl, by rfl⟩))
  | walk_at "mix")
local macro_rules | `(tactic| walk_at "lc") => `(tactic| fail)
local macro_rules | `(tactic| walk_at "egs") => `(tactic| first | exact egs_nil | (refine' egs_cons ?a ?b; (case a => walk_at "eg"); (case b => walk_at "egs")))
local macro_rules | `(tactic| walk_at "eg") => `(tactic| first
  | walk_at "tgn"
  | (refine' eg_two rfl ?a; (case a => walk_at "egs"))
  | (refine' eg_tup rfl ?a; (case a => walk_at "egs")))
local macro_rules | `(tactic| walk_at "ea") => `(tactic| first | exact ea_nil | (refine' ea_starT ?e ?t; (case e => walk_at "ev"); (case t => walk_at "ea")) | (refine' ea_starL ?e ?t; (case e => walk_at "ev"); (case t => walk_at "ea")) | (refine' ea_cons (hst := ?st) ?e ?t; (case e => walk_at "evd"); (case st => rfl); (case t => walk_at "ea")))
local macro_rules | `(tactic| walk_at "ead") => `(tactic| first | exact ead_nil | (refine' ead_star1T ?e; (case e => walk_at "ev")) | (refine' ead_star1L ?e; (case e => walk_at "evd")) | (refine' ead_starT ?e ?t; (case e => walk_at "ev"); (case t => walk_at "ead")) | (refine' ead_starL ?e ?t; (case e => walk_at "evd"); (case t => walk_at "ead")) | (refine' ead_cons ?e ?t; (case e => walk_at "evd"); (case t => walk_at "ead")))
local macro_rules | `(tactic| walk_at "evn") => `(tactic| first
  | walk_at "lc"
  | (refine' ev_blt ?gl ?m ?v ?a ?k; (case gl => walk_at "gl"); (case m => walk_at "mgn"); (case v => with_reducible exact PyProof.Rows.boot_sorted); (case a => walk_at "ea"); (case k => first | (refine' cr_sortD rfl dr_d ?h ?u; (case h => walk_at "side"); (case u => assumption)) | (refine' cr_sortS ?s ?h ?u; (case s => walk_at "own?"); (case h => walk_at "side"); (case u => assumption))))
  | (refine' ev_lstE ?h ?l; (case h => walk_at "ead"); (case l => walk_at "len"))
  | (refine' ev_bty ?gl ?m ?v ?a ?k; (case gl => walk_at "gl"); (case m => walk_at "mgn"); (case v => with_reducible exact PyProof.Rows.boot_list); (case a => walk_at "ea"); (case k => first | exact cr_lst sq_list | exact cr_lst sq_tup | exact cr_lst (sq_own rfl)))
  | (refine' ev_dropL (hst := ?st) ?a ?b ?s; (case a => walk_at "ev"); (case b => walk_at "ev"); (case s => first | exact Or.inl rfl | exact Or.inr ⟨_, _, rfl, rfl⟩); (case st => rfl)) | (refine' ev_takeL (hst := ?st) ?a ?b ?s; (case a => walk_at "ev"); (case b => walk_at "ev"); (case s => first | exact Or.inl rfl | exact Or.inr ⟨_, _, rfl, rfl⟩); (case st => rfl))
  | (refine' ev_sliceL (hst := ?st) ?a ?b ?c ?s; (case a => walk_at "ev"); (case b => walk_at "eo"); (case c => walk_at "eo"); (case s => first | exact Or.inl rfl | exact Or.inr ⟨_, _, rfl, rfl⟩); (case st => rfl))
  | (refine' ev_binX (hst := ?st) ?a ?b ?h; (case a => walk_at "evd"); (case b => walk_at "evd"); (case h => (refine' bx_catL ?s1 ?s2 ?l; (case s1 => first | exact Or.inl rfl | exact Or.inr ⟨_, _, rfl, rfl⟩); (case s2 => first | exact Or.inl rfl | exact Or.inr ⟨_, _, rfl, rfl⟩); (case l => walk_at "len"))); (case st => rfl)))
local macro_rules | `(tactic| walk_at "eo") => `(tactic| first | exact eo_none | (refine' eo_some ?a; (case a => walk_at "ev")))
local macro_rules | `(tactic| walk_at "evd") => `(tactic| first | (refine' EV.nw ?a; (case a => walk_at "evn")) | walk_at "ev" | (refine' EV.fz ?a ?i; (case a => walk_at "var"); (case i => rfl)) | (refine' EV.fzD ?a ?i; (case a => walk_at "var"); (case i => rfl)))
local macro_rules | `(tactic| walk_at "ev") => `(tactic| first
  | walk_at "var" | exact ev_natC | exact ev_int | exact ev_str | exact ev_bool | exact ev_none
  | (refine' ev_binX (hst := ?st) ?a ?b ?h; (case a => walk_at "ev"); (case b => walk_at "ev"); (case h => walk_at "bx"); (case st => rfl))
  | (refine' ev_cmpX (hst := ?st) ?a ?b ?h; (case a => walk_at "ev"); (case b => walk_at "evd"); (case h => walk_at "cx"); (case st => rfl))
  | (refine' ev_chainX (hst := ?st) (hst' := ?st2) ?a ?b ?h ?c ?h2; (case a => walk_at "ev"); (case b => walk_at "ev"); (case h => walk_at "cx"); (case c => walk_at "ev"); (case h2 => walk_at "cx"); (case st => rfl); (case st2 => rfl))
  | (refine' ev_tupE ?h ?l; (case h => walk_at "ead"); (case l => walk_at "len"))
  | (refine' ev_dgetN (hst := ?st) ?hu ?a ?b ?s ?e ?k; (case hu => exact Room.unitsD ‹Room _ _›); (case a => walk_at "ev"); (case b => walk_at "ev"); (case s => first | exact dr_d | exact dr_own rfl); (case e => rfl); (case k => walk_at "ixs"); (case st => rfl))
  | (refine' ev_dgetS (hst := ?st) ?hu ?a ?b ?s ?e ?k; (case hu => exact Room.unitsD ‹Room _ _›); (case a => walk_at "ev"); (case b => walk_at "ev"); (case s => first | exact dr_d | exact dr_own rfl); (case e => rfl); (case k => walk_at "ixs"); (case st => rfl))
  | (refine' ev_sub (hst := ?st) ?a ?b ?h; (case a => walk_at "evd"); (case b => walk_at "ev"); (case h => walk_at "sx"); (case st => rfl))
  | (refine' ev_dropT ?a ?b; (case a => walk_at "ev"); (case b => walk_at "ev")) | (refine' ev_takeT ?a ?b; (case a => walk_at "ev"); (case b => walk_at "ev"))
  | (refine' ev_sliceT ?a ?b ?c; (case a => walk_at "ev"); (case b => walk_at "eo"); (case c => walk_at "eo"))
  | (refine' ev_not ?a; (case a => walk_at "ev"))
  | (refine' ev_one ?a; (case a => walk_at "ev"))
  | (refine' ev_and ?a ?b; (case a => walk_at "ev"); (case b => intro _; walk_at "ev"))
  | (refine' ev_or ?a ?b; (case a => walk_at "ev"); (case b => intro _; walk_at "ev"))
  | (refine' ev_neg ?a; (case a => walk_at "ev"))
  | (refine' ev_isi ?gl ?m ?gl2 ?m2 ?v ?a ?k; (case gl => walk_at "gl"); (case gl2 => walk_at "gl"); (case a => walk_at "ev"); (case m => walk_at "mgn"); (case m2 => walk_at "mgn"); (case v => walk_at "boot"); (case k => walk_at "kit"))
  | walk_at "glob"
  | walk_at "def"
  | (refine' ev_lenSetN ?gl ?m ?gl2 ?m2 rfl ?a ?s ?l; (case gl => walk_at "gl"); (case gl2 => walk_at "gl"); (case m => walk_at "mgn"); (case m2 => walk_at "mgn"); (case a => walk_at "ev"); (case s => walk_at "own?"); (case l => walk_at "side"))
  | (refine' ev_blt ?gl ?m ?v ?a ?k; (case gl => walk_at "gl"); (case m => walk_at "mgn"); (case v => walk_at "bootf"); (case a => walk_at "ea"); (case k => walk_at "cr"))
  | (refine' ev_bty ?gl ?m ?v ?a ?k; (case gl => walk_at "gl"); (case m => walk_at "mgn"); (case v => walk_at "boot"); (case a => walk_at "ea"); (case k => walk_at "ct"))
  | walk_at "mth")
local macro_rules | `(tactic| walk_at "bootf") => `(tactic| first | with_reducible exact PySem.boot_len | with_reducible exact PyProof.Rows.boot_all | with_reducible exact PyProof.Rows.boot_any | with_reducible exact PyProof.Rows.boot_sorted | with_reducible exact PyProof.Rows.boot_min | with_reducible exact PyProof.Rows.boot_max | with_reducible exact PyProof.Rows.boot_sum | with_reducible exact PyProof.Rows.boot_abs | with_reducible exact PyProof.Rows.boot_repr)
local macro_rules | `(tactic| walk_at "ew") => `(tactic| first
  | (refine' ew_and1 ?a; (case a => walk_at "et")) | (refine' ew_or1 ?a; (case a => walk_at "et"))
  | (refine' ew_and ?a ?b; (case a => walk_at "et"); (case b => intro _; walk_at "ew"))
  | (refine' ew_or ?a ?b; (case a => walk_at "et"); (case b => intro _; walk_at "ew")))
local macro_rules | `(tactic| walk_at "et") => `(tactic| first
  | (refine' et_not ?a; (case a => walk_at "et"))
  | (refine' EW.et ?a; (case a => walk_at "ew"))
  | (refine' et_cmpX (hst := ?st) ?a ?b ?h; (case a => walk_at "ev"); (case b => walk_at "evd"); (case h => walk_at "cx"); (case st => rfl))
  | (refine' et_chainX (hst := ?st) (hst' := ?st2) ?a ?b ?h ?c ?h2; (case a => walk_at "ev"); (case b => walk_at "ev"); (case h => walk_at "cx"); (case c => walk_at "ev"); (case h2 => walk_at "cx"); (case st => rfl); (case st2 => rfl))
  | (refine' et_dninM ?hu ?a ?b ?s; (case hu => exact Room.unitsD ‹Room _ _›); (case a => walk_at "ev"); (case b => walk_at "ev"); (case s => first | exact dr_d | exact dr_own rfl))
  | (refine' et_dinM ?hu ?a ?b ?s; (case hu => exact Room.unitsD ‹Room _ _›); (case a => walk_at "ev"); (case b => walk_at "ev"); (case s => first | exact dr_d | exact dr_own rfl))
  | (refine' et_val ?a; (case a => walk_at "ev")))
local macro_rules | `(tactic| walk_at "ei") => `(tactic| first
  | (refine' ei_zipM ?gl ?m ?a; (case gl => walk_at "gl"); (case m => walk_at "mgn"); (case a => walk_at "ea"))
  | (refine' ei_enumTM ?gl ?m ?a; (case gl => walk_at "gl"); (case m => walk_at "mgn"); (case a => walk_at "ev"))
  | (refine' ei_enumLM ?gl ?m ?a; (case gl => walk_at "gl"); (case m => walk_at "mgn"); (case a => walk_at "ev"))
  | (refine' ei_rangeM ?gl ?m ?a ?l; (case gl => walk_at "gl"); (case m => walk_at "mgn"); (case a => walk_at "ea"); (case l => walk_at "side"))
  | (refine' ei_keysM ?a; (case a => walk_at "evd"))
  | (refine' ei_keysS ?a; (case a => walk_at "evd"))
  | (refine' ei_tupM ?a; (case a => walk_at "evd")) | (refine' ei_listM ?a; (case a => walk_at "evd")) | (refine' ei_strM ?a; (case a => walk_at "ev")))
local macro_rules | `(tactic| walk_at "lcm") => `(tactic| (refine' lc_mapM _ ?hi ?hs ?hr ?hl ?he; (case hi => walk_at "ei"); (case hr => rfl); (case hs => (intro x hx; refine' ⟨_, _, _, ?bg, ?js, ?bv, ?e, ?er⟩; (case bg => (intro s H C cl fp; walk_at "eg")); (case js => decide); (case bv => (intro s H C cl fp; walk_at "evd")); (case e => rfl); (case er => exact rfl))); (case hl => walk_at "len"); (case he => exact rfl)))
local macro_rules | `(tactic| walk_at "ret") => `(tactic| (refine' ec_ret ?a ?b; (case a => walk_at "evd")))
local macro_rules | `(tactic| walk_at "if") => `(tactic| (refine' ec_when ?c ?h1 ?h2; (case c => walk_at "et")))
local macro_rules | `(tactic| walk_at "ife") => `(tactic| (refine' ec_ifR ?c ?h1 ?h2; (case c => walk_at "et")))
local macro_rules | `(tactic| walk_at "asg") => `(tactic| (refine' ec_asg ?a ?g ?h; (case a => walk_at "evd"); (case g => walk_at "eg")))
local macro_rules | `(tactic| walk_at "expr") => `(tactic| (refine' ec_expr ?a ?h; (case a => walk_at "ev")))
local macro_rules | `(tactic| walk_at "rc") => `(tactic| first | assumption | omega | decide | solve_by_elim)
local macro_rules | `(tactic| walk_at "rel") => `(tactic| first
  | assumption
  | (refine' ⟨_, ?e1, ?e2⟩; (case e1 => rfl); (case e2 => exact rfl))
  | (refine' ⟨_, ?e1, ?e2, ?c⟩; (case e1 => rfl); (case e2 => exact rfl); (case c => walk_at "rc"))
  | (refine' ⟨_, _, ?e1, ?e2⟩; (case e1 => rfl); (case e2 => exact rfl))
  | (refine' ⟨_, _, ?e1, ?e2, ?c⟩; (case e1 => rfl); (case e2 => exact rfl); (case c => walk_at "rc"))
  | (refine' ⟨_, _, _, ?e1, ?e2⟩; (case e1 => rfl); (case e2 => exact rfl))
  | (refine' ⟨_, _, _, ?e1, ?e2, ?c⟩; (case e1 => rfl); (case e2 => exact rfl); (case c => walk_at "rc"))
  | (refine' ⟨_, _, _, _, ?e1, ?e2⟩; (case e1 => rfl); (case e2 => exact rfl))
  | (refine' ⟨_, _, _, _, ?e1, ?e2, ?c⟩; (case e1 => rfl); (case e2 => exact rfl); (case c => walk_at "rc"))
  | (refine' ⟨_, _, _, _, _, ?e1, ?e2⟩; (case e1 => rfl); (case e2 => exact rfl))
  | (refine' ⟨_, _, _, _, _, ?e1, ?e2, ?c⟩; (case e1 => rfl); (case e2 => exact rfl); (case c => walk_at "rc"))
  | (refine' ⟨_, _, _, _, _, _, ?e1, ?e2⟩; (case e1 => rfl); (case e2 => exact rfl))
  | (refine' ⟨_, _, _, _, _, _, ?e1, ?e2, ?c⟩; (case e1 => rfl); (case e2 => exact rfl); (case c => walk_at "rc"))
  | (refine' ⟨_, _, _, _, _, _, _, ?e1, ?e2⟩; (case e1 => rfl); (case e2 => exact rfl))
  | (refine' ⟨_, _, _, _, _, _, _, ?e1, ?e2, ?c⟩; (case e1 => rfl); (case e2 => exact rfl); (case c => walk_at "rc")))
local macro_rules | `(tactic| walk_at "var") => `(tactic| first | (refine' ev_nameN ?n ?e ?v ?i; (case n => walk_at "nms"); (case e => rfl); (case v => walk_at "vis"); (case i => rfl)) | (refine' ev_nameON ?n ?e ?v ?i; (case n => walk_at "nms"); (case e => rfl); (case v => walk_at "vis"); (case i => rfl)))
local macro_rules | `(tactic| walk_at "tgn") => `(tactic| (refine' eg_nameN ?n ?e ?nd ?l ?f; (case n => walk_at "nms"); (case e => rfl); (case nd => walk_at "nd"); (case l => walk_at "loc"); (case f => walk_at "loc")))
local macro_rules | `(tactic| walk_at "set") => `(tactic| (refine' ec_setD ?n ?e ?nd ?l ?he ?h ?f ?sw; (case n => walk_at "nms"); (case e => rfl); (case nd => walk_at "nd"); (case l => walk_at "loc"); (case f => walk_at "loc"); (case sw => rfl); (case he => walk_at "evd")))
local macro_rules | `(tactic| walk_at "setN") => `(tactic| (refine' ec_setO ?n ?e ?nd ?l ?he ?h ?f ?sw; (case n => walk_at "nms"); (case e => rfl); (case nd => walk_at "nd"); (case l => walk_at "loc"); (case f => walk_at "loc"); (case sw => rfl); (case he => walk_at "evn")))
local macro_rules | `(tactic| walk_at "evr") => `(tactic| first | exact ev_dnew | walk_at "evn" | walk_at "evd")
local macro_rules | `(tactic| walk_at "swst") => `(tactic| first | exact Or.inl (by rfl) | exact Or.inr ⟨by rfl, by kernel_rfl!, by kernel_rfl!⟩)
local macro_rules | `(tactic| walk_at "pair") => `(tactic| (refine' ec_pair ?n1 ?n2 ?e ?ij rfl ?nd ?l ?f ?a ?b ?fa ?fb ?hw ?h; (case n1 => walk_at "nms"); (case n2 => walk_at "nms"); (case e => rfl); (case ij => decide); (case nd => walk_at "nd"); (case l => refine' ⟨?l1, ?l2⟩; (case l1 => walk_at "loc"); (case l2 => walk_at "loc")); (case f => refine' ⟨?l1, ?l2⟩; (case l1 => walk_at "loc"); (case l2 => walk_at "loc")); (case hw => walk_at "swst"); (case a => walk_at "evr"); (case b => walk_at "evr"); (case fa => rfl); (case fb => rfl)))
local macro_rules | `(tactic| walk_at "dput") => `(tactic| (refine' ec_dputM ?hu ?a ?b ?c ?i ?l ?k ?h ?sw; (case hu => exact Room.unitsD ‹Room _ _›); (case a => walk_at "evd"); (case b => walk_at "ev"); (case c => walk_at "ev"); (case i => rfl); (case l => walk_at "len"); (case k => walk_at "ixs"); (case sw => rfl)))
local macro_rules | `(tactic| walk_at "setC") => `(tactic| fail)
local macro_rules | `(tactic| walk_at "sets") => `(tactic| first | walk_at "setC" | walk_at "set")
local macro_rules | `(tactic| walk_at "sput") => `(tactic| (refine' ec_setItemN ?a ?b ?c ?i ?k ?h ?s ?w ?e ?g; (case a => walk_at "evd"); (case b => walk_at "ev"); (case c => walk_at "ev"); (case i => rfl); (case k => first | walk_at "ixs" | exact Nat.le_of_ble_eq_true rfl); (case s => rfl); (case w => rfl); (case e => rfl); (case g => intro _; rfl)))
local macro_rules | `(tactic| walk_at "lcm") => `(tactic| (refine' lc_mapSI ‹LcHint _ _ _ _ _ _› ?hi ?e1 ?hs ?hr ?hl ?he ?he2; (case hi => walk_at "ei"); (case e1 => exact rfl); (case hr => (intro s; exact rfl)); (case hs => (intro x s hJ; (try have hJ1 := hJ.1); (try have hJ2 := hJ.2); refine' ⟨_, _, _, _, ?bg, ?js, ?bv, ?er, ?eq⟩; (case bg => (intro s H C cl fp; walk_at "eg")); (case js => decide); (case bv => (intro s H C cl fp; walk_at "evd")); (case er => exact rfl); (case eq => exact rfl))); (case hl => walk_at "len"); (case he => exact rfl); (case he2 => exact rfl)))
local macro_rules | `(tactic| walk_at "rel") => `(tactic| first
  | (refine' ⟨_, _, ?e1, ?e2, ?e3, ?e4, ?c⟩; (case e1 => rfl); (case e2 => exact rfl); (case e3 => exact rfl); (case e4 => exact rfl); (case c => walk_at "rc"))
  | (refine' ⟨_, _, _, ?e1, ?e2, ?e3, ?e4, ?c⟩; (case e1 => rfl); (case e2 => exact rfl); (case e3 => exact rfl); (case e4 => exact rfl); (case c => walk_at "rc"))
  | (refine' ⟨_, _, _, _, ?e1, ?e2, ?e3, ?e4, ?c⟩; (case e1 => rfl); (case e2 => exact rfl); (case e3 => exact rfl); (case e4 => exact rfl); (case c => walk_at "rc")))
local macro_rules | `(tactic| walk_at "sx") => `(tactic| exact (‹∀ (X : Cx) (ρ : List Sl), SubX X _ _ ρ _› _ _))
local macro_rules | `(tactic| walk_at "mth") => `(tactic| first
  | (refine' ev_extend ?a ?b ?s1 ?s2 ?l; (case a => walk_at "ev"); (case b => walk_at "evn"); (case s1 => exact ⟨_, _, rfl⟩); (case s2 => rfl); (case l => walk_at "len"))
  | (refine' ev_lindexM (hst := ?st) enc_str ?hP dp_str ?hu ?a ?b ?s1 ?s2 ?h; (case hu => exact Room.units1 ‹Room _ _›); (case a => walk_at "ev"); (case st => rfl); (case b => walk_at "ev"); (case s1 => walk_at "own?"); (case s2 => walk_at "own?"); (case hP => assumption); (case h => walk_at "ixs"))
  | (refine' ev_popAt ?a ?b ?s1 ?s2 ?j ?k ?z; (case a => walk_at "ev"); (case b => walk_at "ev"); (case s1 => exact ⟨_, _, rfl⟩); (case s2 => rfl); (case j => rfl); (case k => first | assumption | exact rfl); (case z => walk_at "side")))
local macro_rules | `(tactic| walk_at "setsN") => `(tactic| first | walk_at "setCN" | walk_at "setN")
local macro_rules | `(tactic| walk_at "evn") => `(tactic| (refine' ev_lstRange ?c ?g1 ?m1 ?g2 ?m2 ?a ?l; (case c => rfl); (case g1 => walk_at "gl"); (case m1 => walk_at "mgn"); (case g2 => walk_at "gl"); (case m2 => walk_at "mgn"); (case a => walk_at "ev"); (case l => walk_at "side")))
local macro_rules | `(tactic| walk_at "sx") => `(tactic| exact (‹SxOwn _ _ _ _› _ _ rfl))

section
abbrev R_is_integer : List D → D → Prop := fun ds x => ∃ i : Int, ds = [.int i] ∧ x = .bool true
abbrev R_is_between : List D → D → Prop := fun ds x => ∃ (v lo hi : Nat), ds = [nD v, nD lo, nD hi] ∧ x = .bool (decide (lo ≤ v) && decide (v ≤ hi))
abbrev R_is_label : List D → D → Prop := fun ds x => ∃ s : Str, ds = [.str s] ∧ x = .bool true ∧ Lab s
section
variable {P : Program} {w : World} {K : PySem.W.Frag} {mg : Str → Option Value} {base : Heap}
section
theorem sc_is_integer : FnScope ["value"] ["value"] (defScope (topS 11)) := ⟨rfl, rfl, rfl, by decide +kernel, rfl, by decide +kernel, by decide +kernel⟩
local macro_rules | `(tactic| walk_at "nd") => `(tactic| exact sc_is_integer.nd)
local macro_rules | `(tactic| walk_at "blk") => `(tactic| (refine' blkOk_of (N' := ["value"]) ?hN ?hs ?h; (case hN => rfl); (case hs => first | exact body_scope | exact blk_scope body_scope | exact blk_scope (blk_scope body_scope)); (case h => decide +kernel)))
theorem nm_is_integer_0 : NmAt ["value"] 0 "value" := ⟨rfl⟩
local macro_rules | `(tactic| walk_at "nms") => `(tactic| first | with_reducible exact nm_is_integer_0)
theorem ok_is_integer {f fd} (h : Has K mg "is_integer" (topS 11) ["value"] f fd) (hb : NoB mg) : Ok P w K mg base 1 "is_integer" ["value"] (spD K R_is_integer) := by
  refine Ok.data h sc_is_integer (fun ds x ⟨i, e, _⟩ => by rw [e]; rfl) fun cdv A outer s H E hr ds y ⟨i, e1, e2⟩ => ?_
  subst e1 e2
  walk_at "ret"
  rfl
end
section
theorem sc_is_between : FnScope ["value", "low", "high"] ["value", "low", "high"] (defScope (topS 12)) := ⟨rfl, rfl, rfl, by decide +kernel, rfl, by decide +kernel, by decide +kernel⟩
local macro_rules | `(tactic| walk_at "nd") => `(tactic| exact sc_is_between.nd)
local macro_rules | `(tactic| walk_at "blk") => `(tactic| (refine' blkOk_of (N' := ["value", "low", "high"]) ?hN ?hs ?h; (case hN => rfl); (case hs => first | exact body_scope | exact blk_scope body_scope | exact blk_scope (blk_scope body_scope)); (case h => decide +kernel)))
theorem nm_is_between_0 : NmAt ["value", "low", "high"] 0 "value" := ⟨rfl⟩
theorem nm_is_between_1 : NmAt ["value", "low", "high"] 1 "low" := ⟨rfl⟩
theorem nm_is_between_2 : NmAt ["value", "low", "high"] 2 "high" := ⟨rfl⟩
local macro_rules | `(tactic| walk_at "nms") => `(tactic| first | with_reducible exact nm_is_between_0 | with_reducible exact nm_is_between_1 | with_reducible exact nm_is_between_2)
theorem ok_is_between {f fd} (h : Has K mg "is_between" (topS 12) ["value", "low", "high"] f fd) (hb : NoB mg) (hi : Ok P w K mg base 1 "is_integer" ["value"] (spD K R_is_integer)) : Ok P w K mg base 2 "is_between" ["value", "low", "high"] (spD K R_is_between) := by
  refine Ok.data h sc_is_between (fun ds x ⟨i, _, _, e, _⟩ => by rw [e]; rfl) fun cdv A outer s H E hr ds y ⟨v, lo, hi', e1, e2⟩ => ?_
  subst e1 e2
  walk_at "ret"
  simp
end
section
theorem sc_is_label : FnScope ["value", "letter"] ["value"] (defScope (topS 13)) := ⟨rfl, rfl, rfl, by decide +kernel, rfl, by decide +kernel, by decide +kernel⟩
local macro_rules | `(tactic| walk_at "nd") => `(tactic| exact sc_is_label.nd)
local macro_rules | `(tactic| walk_at "blk") => `(tactic| (refine' blkOk_of (N' := ["value", "letter"]) ?hN ?hs ?h; (case hN => rfl); (case hs => first | exact body_scope | exact blk_scope body_scope | exact blk_scope (blk_scope body_scope)); (case h => decide +kernel)))
theorem nm_is_label_0 : NmAt ["value", "letter"] 0 "value" := ⟨rfl⟩
theorem nm_is_label_1 : NmAt ["value", "letter"] 1 "letter" := ⟨rfl⟩
local macro_rules | `(tactic| walk_at "nms") => `(tactic| first | with_reducible exact nm_is_label_0 | with_reducible exact nm_is_label_1)
local macro_rules | `(tactic| walk_at "lc") => `(tactic| first | (refine' ev_lc (own := [("letter", 1)]) rfl (by walk_at "nd") ?ok ?h; (case ok => walk_at "blk"); (case h => walk_at "lcm")))
local macro_rules | `(tactic| walk_at "setC") => `(tactic| first | (refine' ec_setCD (own := [("letter", 1)]) ?n ?e ?nd rfl rfl rfl ?ok ?lc ?s ?h ?hi; (case n => walk_at "nms"); (case e => rfl); (case nd => walk_at "nd"); (case ok => walk_at "blk"); (case s => intro _; rfl); (case lc => walk_at "lcm"); (case hi => exact Nat.le_of_ble_eq_true rfl)))
local macro_rules | `(tactic| walk_at "setCN") => `(tactic| first | (refine' ec_setC (own := [("letter", 1)]) ?n ?e ?nd rfl rfl rfl ?ok ?lc ?s ?h; (case n => walk_at "nms"); (case e => rfl); (case nd => walk_at "nd"); (case ok => walk_at "blk"); (case s => intro _; rfl); (case lc => walk_at "lcm")))
local macro_rules | `(tactic| walk_at "lc") => `(tactic| (refine' ev_lc (own := [("letter", 1)]) rfl (by walk_at "nd") ?ok ?h; (case ok => walk_at "blk"); (case h => walk_at "lcm")))
theorem ok_is_label {f fd} {t1 t2} (h : Has K mg "is_label" (topS 13) ["value"] f fd) (hb : NoB mg) (h1 : mg "MOST_LETTERS" = some (.int 8 t1)) (h2 : mg "LETTERS" = some (.str LETTERS t2)) : Ok P w K mg base 1 "is_label" ["value"] (spD K R_is_label) := by
  refine Ok.data h sc_is_label (fun ds x ⟨i, e, _⟩ => by rw [e]; rfl) fun cdv A outer s H E hr ds y ⟨z, e1, e2, l1, l2, l3⟩ => ?_
  subst e1 e2
  have hz : z.length ≤ sizeLine := by unfold sizeLine; omega
  have hz2 : z.cps.toList.length < sizeLine := by
    have : z.cps.toList.length = z.length := by simp [Str.length]
    unfold sizeLine; omega
  walk_at "if"
  case h1 =>
    intro hk
    simp at hk
    omega
  case h2 =>
    intro _
    walk_at "ret"
    exact congrArg _ (List.all_eq_true.mpr fun c hc => decide_eq_true (l3 c hc))
end
end

end
section
abbrev R_is_labels : List D → D → Prop := fun ds x => ∃ L : List Str, ds = [tS L] ∧ x = .bool true ∧ Labs L
abbrev R_is_word_of : List D → D → Prop := fun ds x => ∃ L w : List Str, ds = [tS L, tS w] ∧ x = .bool true ∧ (∀ l ∈ w, l ∈ L) ∧ w.length < sizeLine
abbrev R_check_word : List D → D → Prop := fun ds x => ∃ L w : List Str, ds = [tS L, tS w] ∧ x = .none ∧ (∀ l ∈ w, l ∈ L) ∧ w.length ≤ 5000
abbrev R_are_states : List D → D → Prop := fun ds x => ∃ (r : List Nat) (k n : Nat), ds = [tN r, nD k, nD n] ∧ x = .bool true ∧ Row k n r ∧ 1 ≤ n ∧ k ≤ 4
abbrev R_is_query : List D → D → Prop := fun ds x => ∃ q : Qu, ds = [q.D] ∧ x = .bool true ∧ q.Ok
abbrev R_check_query : List D → D → Prop := fun ds x => ∃ q : Qu, ds = [q.D] ∧ x = .none ∧ q.Ok
section
variable {P : Program} {w : World} {K : PySem.W.Frag} {mg : Str → Option Value} {base : Heap}
section
theorem sc_is_labels : FnScope ["value", "one", "other", "label"] ["value"] (defScope (topS 14)) := ⟨rfl, rfl, rfl, by decide +kernel, rfl, by decide +kernel, by decide +kernel⟩
local macro_rules | `(tactic| walk_at "nd") => `(tactic| exact sc_is_labels.nd)
local macro_rules | `(tactic| walk_at "blk") => `(tactic| (refine' blkOk_of (N' := ["value", "one", "other", "label"]) ?hN ?hs ?h; (case hN => rfl); (case hs => first | exact body_scope | exact blk_scope body_scope | exact blk_scope (blk_scope body_scope)); (case h => decide +kernel)))
theorem nm_is_labels_0 : NmAt ["value", "one", "other", "label"] 0 "value" := ⟨rfl⟩
theorem nm_is_labels_1 : NmAt ["value", "one", "other", "label"] 1 "one" := ⟨rfl⟩
theorem nm_is_labels_2 : NmAt ["value", "one", "other", "label"] 2 "other" := ⟨rfl⟩
theorem nm_is_labels_3 : NmAt ["value", "one", "other", "label"] 3 "label" := ⟨rfl⟩
local macro_rules | `(tactic| walk_at "nms") => `(tactic| first | with_reducible exact nm_is_labels_0 | with_reducible exact nm_is_labels_1 | with_reducible exact nm_is_labels_2 | with_reducible exact nm_is_labels_3)
local macro_rules | `(tactic| walk_at "lc") => `(tactic| first | (refine' ev_lc (own := [("one", 1), ("other", 2)]) rfl (by walk_at "nd") ?ok ?h; (case ok => walk_at "blk"); (case h => walk_at "lcm")) | (refine' ev_lc (own := [("label", 3)]) rfl (by walk_at "nd") ?ok ?h; (case ok => walk_at "blk"); (case h => walk_at "lcm")))
local macro_rules | `(tactic| walk_at "setC") => `(tactic| first | (refine' ec_setCD (own := [("one", 1), ("other", 2)]) ?n ?e ?nd rfl rfl rfl ?ok ?lc ?s ?h ?hi; (case n => walk_at "nms"); (case e => rfl); (case nd => walk_at "nd"); (case ok => walk_at "blk"); (case s => intro _; rfl); (case lc => walk_at "lcm"); (case hi => exact Nat.le_of_ble_eq_true rfl)) | (refine' ec_setCD (own := [("label", 3)]) ?n ?e ?nd rfl rfl rfl ?ok ?lc ?s ?h ?hi; (case n => walk_at "nms"); (case e => rfl); (case nd => walk_at "nd"); (case ok => walk_at "blk"); (case s => intro _; rfl); (case lc => walk_at "lcm"); (case hi => exact Nat.le_of_ble_eq_true rfl)))
local macro_rules | `(tactic| walk_at "setCN") => `(tactic| first | (refine' ec_setC (own := [("one", 1), ("other", 2)]) ?n ?e ?nd rfl rfl rfl ?ok ?lc ?s ?h; (case n => walk_at "nms"); (case e => rfl); (case nd => walk_at "nd"); (case ok => walk_at "blk"); (case s => intro _; rfl); (case lc => walk_at "lcm")) | (refine' ec_setC (own := [("label", 3)]) ?n ?e ?nd rfl rfl rfl ?ok ?lc ?s ?h; (case n => walk_at "nms"); (case e => rfl); (case nd => walk_at "nd"); (case ok => walk_at "blk"); (case s => intro _; rfl); (case lc => walk_at "lcm")))
theorem ok_is_labels {f fd} {t1} (h : Has K mg "is_labels" (topS 14) ["value"] f fd) (hb : NoB mg) (h1 : mg "MOST_LABELS" = some (.int 4 t1)) (h2 : Ok P w K mg base 1 "is_label" ["value"] (spD K R_is_label)) : Ok P w K mg base 2 "is_labels" ["value"] (spD K R_is_labels) := by
  refine Ok.data h sc_is_labels (fun ds x ⟨i, e, _⟩ => by rw [e]; rfl) fun cdv A outer s H E hr ds y ⟨L, e1, e2, l1, l2, l3, l4⟩ => ?_
  subst e1 e2
  have hz : L.length < sizeLine := by unfold sizeLine; omega
  have hz2 : (L.zip (L.drop 1)).length < sizeLine := by
    rw [List.length_zip]
    unfold sizeLine
    omega
  walk_at "if"
  case h1 =>
    intro hk
    rw [decide_eq_true l1, decide_eq_true l2] at hk
    cases hk
  case h2 =>
    intro _
    walk_at "if"
    case h1 =>
      intro hk
      simp at hk
    case h2 =>
      intro _
      walk_at "ret"
      exact congrArg _ (List.all_eq_true.mpr fun p hp => decide_eq_true (zip_tail l4 p hp))
end
section
theorem sc_is_word_of : FnScope ["labels", "value", "label"] ["labels", "value"] (defScope (topS 15)) := ⟨rfl, rfl, rfl, by decide +kernel, rfl, by decide +kernel, by decide +kernel⟩
local macro_rules | `(tactic| walk_at "nd") => `(tactic| exact sc_is_word_of.nd)
local macro_rules | `(tactic| walk_at "blk") => `(tactic| (refine' blkOk_of (N' := ["labels", "value", "label"]) ?hN ?hs ?h; (case hN => rfl); (case hs => first | exact body_scope | exact blk_scope body_scope | exact blk_scope (blk_scope body_scope)); (case h => decide +kernel)))
theorem nm_is_word_of_0 : NmAt ["labels", "value", "label"] 0 "labels" := ⟨rfl⟩
theorem nm_is_word_of_1 : NmAt ["labels", "value", "label"] 1 "value" := ⟨rfl⟩
theorem nm_is_word_of_2 : NmAt ["labels", "value", "label"] 2 "label" := ⟨rfl⟩
local macro_rules | `(tactic| walk_at "nms") => `(tactic| first | with_reducible exact nm_is_word_of_0 | with_reducible exact nm_is_word_of_1 | with_reducible exact nm_is_word_of_2)
local macro_rules | `(tactic| walk_at "lc") => `(tactic| first | (refine' ev_lc (own := [("label", 2)]) rfl (by walk_at "nd") ?ok ?h; (case ok => walk_at "blk"); (case h => walk_at "lcm")))
local macro_rules | `(tactic| walk_at "setC") => `(tactic| first | (refine' ec_setCD (own := [("label", 2)]) ?n ?e ?nd rfl rfl rfl ?ok ?lc ?s ?h ?hi; (case n => walk_at "nms"); (case e => rfl); (case nd => walk_at "nd"); (case ok => walk_at "blk"); (case s => intro _; rfl); (case lc => walk_at "lcm"); (case hi => exact Nat.le_of_ble_eq_true rfl)))
local macro_rules | `(tactic| walk_at "setCN") => `(tactic| first | (refine' ec_setC (own := [("label", 2)]) ?n ?e ?nd rfl rfl rfl ?ok ?lc ?s ?h; (case n => walk_at "nms"); (case e => rfl); (case nd => walk_at "nd"); (case ok => walk_at "blk"); (case s => intro _; rfl); (case lc => walk_at "lcm")))
theorem ok_is_word_of {f fd} (h : Has K mg "is_word_of" (topS 15) ["labels", "value"] f fd) (hb : NoB mg) : Ok P w K mg base 1 "is_word_of" ["labels", "value"] (spD K R_is_word_of) := by
  refine Ok.data h sc_is_word_of (fun ds x ⟨i, j, e, _⟩ => by rw [e]; rfl) fun cdv A outer s H E hr ds y ⟨L, v, e1, e2, l1, l2⟩ => ?_
  subst e1 e2
  walk_at "ret"
  show PyData.bool (true && v.all _) = _
  rw [Bool.true_and]
  exact congrArg _ (List.all_eq_true.mpr fun p hp => by rw [decide_eq_true (l1 p hp)]; rfl)
end
section
theorem sc_check_word : FnScope ["labels", "word"] ["labels", "word"] (defScope (topS 16)) := ⟨rfl, rfl, rfl, by decide +kernel, rfl, by decide +kernel, by decide +kernel⟩
local macro_rules | `(tactic| walk_at "nd") => `(tactic| exact sc_check_word.nd)
local macro_rules | `(tactic| walk_at "blk") => `(tactic| (refine' blkOk_of (N' := ["labels", "word"]) ?hN ?hs ?h; (case hN => rfl); (case hs => first | exact body_scope | exact blk_scope body_scope | exact blk_scope (blk_scope body_scope)); (case h => decide +kernel)))
theorem nm_check_word_0 : NmAt ["labels", "word"] 0 "labels" := ⟨rfl⟩
theorem nm_check_word_1 : NmAt ["labels", "word"] 1 "word" := ⟨rfl⟩
local macro_rules | `(tactic| walk_at "nms") => `(tactic| first | with_reducible exact nm_check_word_0 | with_reducible exact nm_check_word_1)
theorem ok_check_word {f fd} {t1} (h : Has K mg "check_word" (topS 16) ["labels", "word"] f fd) (hb : NoB mg) (h1 : mg "MAX_WORD" = some (.int 5000 t1)) (h2 : Ok P w K mg base 1 "is_word_of" ["labels", "value"] (spD K R_is_word_of)) : Ok P w K mg base 2 "check_word" ["labels", "word"] (spD K R_check_word) := by
  refine Ok.data h sc_check_word (fun ds x ⟨i, j, e, _⟩ => by rw [e]; rfl) fun cdv A outer s H E hr ds y ⟨L, v, e1, e2, l1, l2⟩ => ?_
  subst e1 e2
  have l3 : v.length < sizeLine := by unfold sizeLine; omega
  have l4 : (∀ l ∈ v, l ∈ L) ∧ v.length < sizeLine := ⟨l1, l3⟩
  walk_at "if"
  case h1 =>
    intro hk
    exfalso
    simp at hk
    omega
  case h2 =>
    intro _
    exact es_nil rfl
end
section
theorem sc_is_colour : FnScope ["value"] ["value"] (defScope (topS 19)) := ⟨rfl, rfl, rfl, by decide +kernel, rfl, by decide +kernel, by decide +kernel⟩
local macro_rules | `(tactic| walk_at "nd") => `(tactic| exact sc_is_colour.nd)
local macro_rules | `(tactic| walk_at "blk") => `(tactic| (refine' blkOk_of (N' := ["value"]) ?hN ?hs ?h; (case hN => rfl); (case hs => first | exact body_scope | exact blk_scope body_scope | exact blk_scope (blk_scope body_scope)); (case h => decide +kernel)))
theorem nm_is_colour_0 : NmAt ["value"] 0 "value" := ⟨rfl⟩
local macro_rules | `(tactic| walk_at "nms") => `(tactic| first | with_reducible exact nm_is_colour_0)
theorem ok_is_colour {f fd} (h : Has K mg "is_colour" (topS 19) ["value"] f fd) (h2 : Ok P w K mg base 1 "is_label" ["value"] (spD K R_is_label)) : Ok P w K mg base 2 "is_colour" ["value"] (spD K R_is_label) := by
  refine Ok.data h sc_is_colour (fun ds x ⟨i, e, _⟩ => by rw [e]; rfl) fun cdv A outer s H E hr ds y ⟨z, e1, e2, l1⟩ => ?_
  subst e1 e2
  walk_at "ret"
  rfl
end
section
theorem sc_are_states : FnScope ["value", "many", "size", "state"] ["value", "many", "size"] (defScope (topS 20)) := ⟨rfl, rfl, rfl, by decide +kernel, rfl, by decide +kernel, by decide +kernel⟩
local macro_rules | `(tactic| walk_at "nd") => `(tactic| exact sc_are_states.nd)
local macro_rules | `(tactic| walk_at "blk") => `(tactic| (refine' blkOk_of (N' := ["value", "many", "size", "state"]) ?hN ?hs ?h; (case hN => rfl); (case hs => first | exact body_scope | exact blk_scope body_scope | exact blk_scope (blk_scope body_scope)); (case h => decide +kernel)))
theorem nm_are_states_0 : NmAt ["value", "many", "size", "state"] 0 "value" := ⟨rfl⟩
theorem nm_are_states_1 : NmAt ["value", "many", "size", "state"] 1 "many" := ⟨rfl⟩
theorem nm_are_states_2 : NmAt ["value", "many", "size", "state"] 2 "size" := ⟨rfl⟩
theorem nm_are_states_3 : NmAt ["value", "many", "size", "state"] 3 "state" := ⟨rfl⟩
local macro_rules | `(tactic| walk_at "nms") => `(tactic| first | with_reducible exact nm_are_states_0 | with_reducible exact nm_are_states_1 | with_reducible exact nm_are_states_2 | with_reducible exact nm_are_states_3)
local macro_rules | `(tactic| walk_at "lc") => `(tactic| first | (refine' ev_lc (own := [("state", 3)]) rfl (by walk_at "nd") ?ok ?h; (case ok => walk_at "blk"); (case h => walk_at "lcm")))
local macro_rules | `(tactic| walk_at "setC") => `(tactic| first | (refine' ec_setCD (own := [("state", 3)]) ?n ?e ?nd rfl rfl rfl ?ok ?lc ?s ?h ?hi; (case n => walk_at "nms"); (case e => rfl); (case nd => walk_at "nd"); (case ok => walk_at "blk"); (case s => intro _; rfl); (case lc => walk_at "lcm"); (case hi => exact Nat.le_of_ble_eq_true rfl)))
local macro_rules | `(tactic| walk_at "setCN") => `(tactic| first | (refine' ec_setC (own := [("state", 3)]) ?n ?e ?nd rfl rfl rfl ?ok ?lc ?s ?h; (case n => walk_at "nms"); (case e => rfl); (case nd => walk_at "nd"); (case ok => walk_at "blk"); (case s => intro _; rfl); (case lc => walk_at "lcm")))
theorem ok_are_states {f fd} (h : Has K mg "are_states" (topS 20) ["value", "many", "size"] f fd) (hb : NoB mg) (h2 : Ok P w K mg base 2 "is_between" ["value", "low", "high"] (spD K R_is_between)) : Ok P w K mg base 3 "are_states" ["value", "many", "size"] (spD K R_are_states) := by
  refine Ok.data h sc_are_states (fun ds x ⟨_, _, _, e, _⟩ => by rw [e]; rfl) fun cdv A outer s H E hr ds y ⟨r, k, n, e1, e2, ⟨l1, l2⟩, l3, l4⟩ => ?_
  subst e1 e2
  have hz : r.length < sizeLine := by unfold sizeLine; omega
  walk_at "if"
  case h1 =>
    intro hk
    rw [decide_eq_true l1] at hk
    cases hk
  case h2 =>
    intro _
    walk_at "ret"
    refine congrArg _ (List.all_eq_true.mpr fun p hp => ?_)
    have := l2 p hp
    rw [decide_eq_true (show 0 ≤ p by omega), decide_eq_true (show p ≤ n - 1 by omega)]
    rfl
end
section
theorem sc_is_query : FnScope ["value", "labels", "roots", "rows", "colours", "row", "colour"] ["value"] (defScope (topS 21)) := ⟨rfl, rfl, rfl, by decide +kernel, rfl, by decide +kernel, by decide +kernel⟩
local macro_rules | `(tactic| walk_at "nd") => `(tactic| exact sc_is_query.nd)
local macro_rules | `(tactic| walk_at "blk") => `(tactic| (refine' blkOk_of (N' := ["value", "labels", "roots", "rows", "colours", "row", "colour"]) ?hN ?hs ?h; (case hN => rfl); (case hs => first | exact body_scope | exact blk_scope body_scope | exact blk_scope (blk_scope body_scope)); (case h => decide +kernel)))
theorem nm_is_query_0 : NmAt ["value", "labels", "roots", "rows", "colours", "row", "colour"] 0 "value" := ⟨rfl⟩
theorem nm_is_query_1 : NmAt ["value", "labels", "roots", "rows", "colours", "row", "colour"] 1 "labels" := ⟨rfl⟩
theorem nm_is_query_2 : NmAt ["value", "labels", "roots", "rows", "colours", "row", "colour"] 2 "roots" := ⟨rfl⟩
theorem nm_is_query_3 : NmAt ["value", "labels", "roots", "rows", "colours", "row", "colour"] 3 "rows" := ⟨rfl⟩
theorem nm_is_query_4 : NmAt ["value", "labels", "roots", "rows", "colours", "row", "colour"] 4 "colours" := ⟨rfl⟩
theorem nm_is_query_5 : NmAt ["value", "labels", "roots", "rows", "colours", "row", "colour"] 5 "row" := ⟨rfl⟩
theorem nm_is_query_6 : NmAt ["value", "labels", "roots", "rows", "colours", "row", "colour"] 6 "colour" := ⟨rfl⟩
local macro_rules | `(tactic| walk_at "nms") => `(tactic| first | with_reducible exact nm_is_query_0 | with_reducible exact nm_is_query_1 | with_reducible exact nm_is_query_2 | with_reducible exact nm_is_query_3 | with_reducible exact nm_is_query_4 | with_reducible exact nm_is_query_5 | with_reducible exact nm_is_query_6)
local macro_rules | `(tactic| walk_at "lc") => `(tactic| first | (refine' ev_lc (own := [("row", 5)]) rfl (by walk_at "nd") ?ok ?h; (case ok => walk_at "blk"); (case h => walk_at "lcm")) | (refine' ev_lc (own := [("colour", 6)]) rfl (by walk_at "nd") ?ok ?h; (case ok => walk_at "blk"); (case h => walk_at "lcm")))
local macro_rules | `(tactic| walk_at "setC") => `(tactic| first | (refine' ec_setCD (own := [("row", 5)]) ?n ?e ?nd rfl rfl rfl ?ok ?lc ?s ?h ?hi; (case n => walk_at "nms"); (case e => rfl); (case nd => walk_at "nd"); (case ok => walk_at "blk"); (case s => intro _; rfl); (case lc => walk_at "lcm"); (case hi => exact Nat.le_of_ble_eq_true rfl)) | (refine' ec_setCD (own := [("colour", 6)]) ?n ?e ?nd rfl rfl rfl ?ok ?lc ?s ?h ?hi; (case n => walk_at "nms"); (case e => rfl); (case nd => walk_at "nd"); (case ok => walk_at "blk"); (case s => intro _; rfl); (case lc => walk_at "lcm"); (case hi => exact Nat.le_of_ble_eq_true rfl)))
local macro_rules | `(tactic| walk_at "setCN") => `(tactic| first | (refine' ec_setC (own := [("row", 5)]) ?n ?e ?nd rfl rfl rfl ?ok ?lc ?s ?h; (case n => walk_at "nms"); (case e => rfl); (case nd => walk_at "nd"); (case ok => walk_at "blk"); (case s => intro _; rfl); (case lc => walk_at "lcm")) | (refine' ec_setC (own := [("colour", 6)]) ?n ?e ?nd rfl rfl rfl ?ok ?lc ?s ?h; (case n => walk_at "nms"); (case e => rfl); (case nd => walk_at "nd"); (case ok => walk_at "blk"); (case s => intro _; rfl); (case lc => walk_at "lcm")))
theorem ok_is_query {f fd} {t1} (h : Has K mg "is_query" (topS 21) ["value"] f fd) (hb : NoB mg) (h1 : mg "MAX_STATES" = some (.int 40 t1)) (h2 : Ok P w K mg base 2 "is_labels" ["value"] (spD K R_is_labels)) (h3 : Ok P w K mg base 2 "is_colour" ["value"] (spD K R_is_label)) (h4 : Ok P w K mg base 3 "are_states" ["value", "many", "size"] (spD K R_are_states)) : Ok P w K mg base 4 "is_query" ["value"] (spD K R_is_query) := by
  refine Ok.data h sc_is_query (fun ds x ⟨_, e, _⟩ => by rw [e]; rfl) fun cdv A outer s H E hr ds y ⟨q, e1, e2, ok⟩ => ?_
  subst e1 e2
  have k1 := ok.labs
  have k2 := ok.n1
  have k3 := ok.n2
  have k4 := ok.co
  have k5 : q.co.length < sizeLine := by
    have := ok.cn
    unfold sizeLine; omega
  walk_at "if"
  case h1 =>
    intro hk
    cases hk
  case h2 =>
   intro _
   walk_at "asg"
   case h =>
    walk_at "if"
    case h1 =>
      intro hk
      rw [decide_eq_true k2, decide_eq_true k3] at hk
      cases hk
    case h2 =>
     intro _
     walk_at "if"
     case h1 =>
      intro hk
      rw [decide_eq_true ok.cn] at hk
      cases hk
     case h2 =>
      intro _
      walk_at "if"
      case h1 =>
       intro hk
       simp at hk
      case h2 =>
       intro _
       have l4 : ∀ r ∈ q.ro :: q.rw, Row q.L.length q.rw.length r ∧ 1 ≤ q.rw.length ∧ q.L.length ≤ 4 := fun r hr => by
         refine ⟨?_, k2, k1.2.1⟩
         rcases List.mem_cons.mp hr with rfl | hr
         · exact ok.ro
         · exact ok.rw r hr
       have l5 : (q.ro :: q.rw).length < sizeLine := by
         rw [List.length_cons]
         unfold sizeLine; omega
       refine' ec_ret ?ra ?rb
       case ra =>
        refine' ev_blt rfl ?m ?v ?aa ?k
        case m => walk_at "mgn"
        case v => walk_at "bootf"
        case aa =>
         refine' ea_cons (hst := ?st) ?e ea_nil
         case e =>
          refine' EV.nw ?nw
          case nw =>
           refine' ev_lc (own := [("row", 5)]) rfl (by walk_at "nd") ?ok ?h
           case ok => walk_at "blk"
           case h =>
            refine' lc_mapM (xs := q.ro :: q.rw) (enc := fun r => .one (tN r)) _ ?hi ?hs ?hr ?hl ?he
            case hi =>
             refine' ei_tupM ?ha
             case ha =>
              refine' ev_tupE ?hh ?ll
              case hh =>
               refine' ead_cons ?e1 ?t1
               case e1 => walk_at "ev"
               case t1 => walk_at "ead"
              case ll => exact Nat.le_of_lt (by rw [List.length_map]; exact l5)
            case hr => rfl
            case hs =>
             intro x hx
             refine' ⟨_, _, _, ?bg, ?js, ?bv, ?eq, ?er⟩
             case bg =>
              intro s H C cl fp
              walk_at "eg"
             case js => decide
             case bv =>
              intro s H C cl fp
              walk_at "ev"
             case eq => rfl
             case er => exact rfl
            case hl => exact l5
            case he => exact rfl
         case st => rfl
        case k => walk_at "cr"
       case rb => simp
end
section
theorem sc_check_query : FnScope ["query"] ["query"] (defScope (topS 22)) := ⟨rfl, rfl, rfl, by decide +kernel, rfl, by decide +kernel, by decide +kernel⟩
local macro_rules | `(tactic| walk_at "nd") => `(tactic| exact sc_check_query.nd)
local macro_rules | `(tactic| walk_at "blk") => `(tactic| (refine' blkOk_of (N' := ["query"]) ?hN ?hs ?h; (case hN => rfl); (case hs => first | exact body_scope | exact blk_scope body_scope | exact blk_scope (blk_scope body_scope)); (case h => decide +kernel)))
theorem nm_check_query_0 : NmAt ["query"] 0 "query" := ⟨rfl⟩
local macro_rules | `(tactic| walk_at "nms") => `(tactic| first | with_reducible exact nm_check_query_0)
theorem ok_check_query {f fd} (h : Has K mg "check_query" (topS 22) ["query"] f fd) (h2 : Ok P w K mg base 4 "is_query" ["value"] (spD K R_is_query)) : Ok P w K mg base 5 "check_query" ["query"] (spD K R_check_query) := by
  refine Ok.data h sc_check_query (fun ds x ⟨i, e, _⟩ => by rw [e]; rfl) fun cdv A outer s H E hr ds y ⟨z, e1, e2, l1⟩ => ?_
  subst e1 e2
  walk_at "if"
  case h1 =>
    intro hk
    cases hk
  case h2 =>
    intro _
    exact es_nil rfl
end
end

end
section
abbrev R_root_state_by : List D → D → Prop := fun ds x => ∃ (q : Qu) (l : Str), ds = [q.D, .str l] ∧ x = nD (q.root l) ∧ q.Ok ∧ l ∈ q.L
abbrev R_behind_by : List D → D → Prop := fun ds x => ∃ (q : Qu) (l : Str) (w : List Str), ds = [q.D, .none, tS (l :: w)] ∧ x = nD (q.run (q.root l) w) ∧ q.Ok ∧ l ∈ q.L ∧ ∀ a ∈ w, a ∈ q.L
abbrev R_first_paths_by : List D → D → Prop := fun ds x => ∃ (q : Qu) (m : Nat) (o : Fnd), ds = [q.D] ∧ x = dictD (kvM tS o) ∧ q.Ok ∧ m ≤ 1000 ∧ FP q m [] q.fpInit o
section
variable {P : Program} {w : World} {K : PySem.W.Frag} {mg : Str → Option Value} {base : Heap}
section
theorem sc_root_state_by : FnScope ["query", "label"] ["query", "label"] (defScope (topS 23)) := ⟨rfl, rfl, rfl, by decide +kernel, rfl, by decide +kernel, by decide +kernel⟩
local macro_rules | `(tactic| walk_at "nd") => `(tactic| exact sc_root_state_by.nd)
local macro_rules | `(tactic| walk_at "blk") => `(tactic| (refine' blkOk_of (N' := ["query", "label"]) ?hN ?hs ?h; (case hN => rfl); (case hs => first | exact body_scope | exact blk_scope body_scope | exact blk_scope (blk_scope body_scope)); (case h => decide +kernel)))
theorem nm_root_state_by_0 : NmAt ["query", "label"] 0 "query" := ⟨rfl⟩
theorem nm_root_state_by_1 : NmAt ["query", "label"] 1 "label" := ⟨rfl⟩
local macro_rules | `(tactic| walk_at "nms") => `(tactic| first | with_reducible exact nm_root_state_by_0 | with_reducible exact nm_root_state_by_1)
theorem ok_root_state_by {f fd} (h : Has K mg "root_state_by" (topS 23) ["query", "label"] f fd) : Ok P w K mg base 1 "root_state_by" ["query", "label"] (spD K R_root_state_by) := by
  refine Ok.data h sc_root_state_by (fun ds x ⟨_, _, e, _⟩ => by rw [e]; rfl) fun cdv A outer s H E hr ds y ⟨q, l, e1, e2, ok, hl⟩ => ?_
  subst e1 e2
  have hx : q.L.idxOf l < q.ro.length := by rw [ok.ro.1]; exact idx_lt hl
  walk_at "ret"
  rfl
end
section
theorem sc_behind_by : FnScope ["query", "state", "word", "label"] ["query", "state", "word"] (defScope (topS 24)) := ⟨rfl, rfl, rfl, by decide +kernel, rfl, by decide +kernel, by decide +kernel⟩
local macro_rules | `(tactic| walk_at "nd") => `(tactic| exact sc_behind_by.nd)
local macro_rules | `(tactic| walk_at "blk") => `(tactic| (refine' blkOk_of (N' := ["query", "state", "word", "label"]) ?hN ?hs ?h; (case hN => rfl); (case hs => first | exact body_scope | exact blk_scope body_scope | exact blk_scope (blk_scope body_scope)); (case h => decide +kernel)))
theorem nm_behind_by_0 : NmAt ["query", "state", "word", "label"] 0 "query" := ⟨rfl⟩
theorem nm_behind_by_1 : NmAt ["query", "state", "word", "label"] 1 "state" := ⟨rfl⟩
theorem nm_behind_by_2 : NmAt ["query", "state", "word", "label"] 2 "word" := ⟨rfl⟩
theorem nm_behind_by_3 : NmAt ["query", "state", "word", "label"] 3 "label" := ⟨rfl⟩
local macro_rules | `(tactic| walk_at "nms") => `(tactic| first | with_reducible exact nm_behind_by_0 | with_reducible exact nm_behind_by_1 | with_reducible exact nm_behind_by_2 | with_reducible exact nm_behind_by_3)
theorem ok_behind_by {f fd} (h : Has K mg "behind_by" (topS 24) ["query", "state", "word"] f fd) (h2 : Ok P w K mg base 1 "root_state_by" ["query", "label"] (spD K R_root_state_by)) : Ok P w K mg base 2 "behind_by" ["query", "state", "word"] (spD K R_behind_by) := by
  refine Ok.data h sc_behind_by (fun ds x ⟨_, _, _, e, _⟩ => by rw [e]; rfl) fun cdv A outer s H E hr ds y ⟨q, l, v, e1, e2, ok, hl, hv⟩ => ?_
  subst e1 e2
  have hc : q.Ok ∧ l ∈ q.L := ⟨ok, hl⟩
  walk_at "if"
  case h2 =>
    intro hk
    cases hk
  case h1 =>
    intro _
    walk_at "pair"
    case h =>
      refine es_nil ?_
      refine' ec_forM ?fi PassesOwn.never rfl (fun i ρ' => ∃ sl, ρ' = [.d q.D, .d (nD (q.run (q.root l) (v.take i))), .d (tS v), sl]) ?f0 ?fs ?fd (fun _ => rfl)
      case fi => walk_at "ei"
      case f0 => exact ⟨.no, rfl⟩
      case fs =>
        rintro i x ρ' hx ⟨sl, rfl⟩
        refine' ⟨_, _, ?feg, ?fes⟩
        case feg => walk_at "eg"
        case fes =>
          have hxm := hv x (mem_of_get hx)
          have b1 : q.run (q.root l) (v.take i) < q.rw.length := ok.run_lt (ok.root_lt hl) fun a ha => hv a (List.mem_of_mem_take ha)
          have b2 : q.L.idxOf x < (q.rw.getD (q.run (q.root l) (v.take i)) default).length := by rw [(ok.row b1).1]; exact idx_lt hxm
          walk_at "set"
          case h =>
            refine es_nil ⟨.d (.str x), ?_⟩
            rw [q.run_succ (show v[i]? = some x from hx)]
            rfl
      case fd =>
        rintro ρ' ⟨sl, rfl⟩
        walk_at "ret"
        exact congrArg (fun z => nD (q.run (q.root l) z)) (List.take_length (l := v))
end
section
theorem sc_first_paths_by : FnScope ["query", "labels", "roots", "rows", "colours", "found", "level", "fresh", "path", "state", "label", "later"] ["query"] (defScope (topS 25)) := ⟨rfl, rfl, rfl, by decide +kernel, rfl, by decide +kernel, by decide +kernel⟩
local macro_rules | `(tactic| walk_at "nd") => `(tactic| exact sc_first_paths_by.nd)
local macro_rules | `(tactic| walk_at "blk") => `(tactic| (refine' blkOk_of (N' := ["query", "labels", "roots", "rows", "colours", "found", "level", "fresh", "path", "state", "label", "later"]) ?hN ?hs ?h; (case hN => rfl); (case hs => first | exact body_scope | exact blk_scope body_scope | exact blk_scope (blk_scope body_scope)); (case h => decide +kernel)))
theorem nm_first_paths_by_0 : NmAt ["query", "labels", "roots", "rows", "colours", "found", "level", "fresh", "path", "state", "label", "later"] 0 "query" := ⟨rfl⟩
theorem nm_first_paths_by_1 : NmAt ["query", "labels", "roots", "rows", "colours", "found", "level", "fresh", "path", "state", "label", "later"] 1 "labels" := ⟨rfl⟩
theorem nm_first_paths_by_2 : NmAt ["query", "labels", "roots", "rows", "colours", "found", "level", "fresh", "path", "state", "label", "later"] 2 "roots" := ⟨rfl⟩
theorem nm_first_paths_by_3 : NmAt ["query", "labels", "roots", "rows", "colours", "found", "level", "fresh", "path", "state", "label", "later"] 3 "rows" := ⟨rfl⟩
theorem nm_first_paths_by_4 : NmAt ["query", "labels", "roots", "rows", "colours", "found", "level", "fresh", "path", "state", "label", "later"] 4 "colours" := ⟨rfl⟩
theorem nm_first_paths_by_5 : NmAt ["query", "labels", "roots", "rows", "colours", "found", "level", "fresh", "path", "state", "label", "later"] 5 "found" := ⟨rfl⟩
theorem nm_first_paths_by_6 : NmAt ["query", "labels", "roots", "rows", "colours", "found", "level", "fresh", "path", "state", "label", "later"] 6 "level" := ⟨rfl⟩
theorem nm_first_paths_by_7 : NmAt ["query", "labels", "roots", "rows", "colours", "found", "level", "fresh", "path", "state", "label", "later"] 7 "fresh" := ⟨rfl⟩
theorem nm_first_paths_by_8 : NmAt ["query", "labels", "roots", "rows", "colours", "found", "level", "fresh", "path", "state", "label", "later"] 8 "path" := ⟨rfl⟩
theorem nm_first_paths_by_9 : NmAt ["query", "labels", "roots", "rows", "colours", "found", "level", "fresh", "path", "state", "label", "later"] 9 "state" := ⟨rfl⟩
theorem nm_first_paths_by_10 : NmAt ["query", "labels", "roots", "rows", "colours", "found", "level", "fresh", "path", "state", "label", "later"] 10 "label" := ⟨rfl⟩
theorem nm_first_paths_by_11 : NmAt ["query", "labels", "roots", "rows", "colours", "found", "level", "fresh", "path", "state", "label", "later"] 11 "later" := ⟨rfl⟩
local macro_rules | `(tactic| walk_at "nms") => `(tactic| first | with_reducible exact nm_first_paths_by_0 | with_reducible exact nm_first_paths_by_1 | with_reducible exact nm_first_paths_by_2 | with_reducible exact nm_first_paths_by_3 | with_reducible exact nm_first_paths_by_4 | with_reducible exact nm_first_paths_by_5 | with_reducible exact nm_first_paths_by_6 | with_reducible exact nm_first_paths_by_7 | with_reducible exact nm_first_paths_by_8 | with_reducible exact nm_first_paths_by_9 | with_reducible exact nm_first_paths_by_10 | with_reducible exact nm_first_paths_by_11)
local macro_rules | `(tactic| walk_at "lc") => `(tactic| first | (refine' ev_lc (own := [("label", 10), ("state", 9)]) rfl (by walk_at "nd") ?ok ?h; (case ok => walk_at "blk"); (case h => walk_at "lcm")) | (refine' ev_lc (own := [("label", 10), ("later", 11), ("path", 8), ("state", 9)]) rfl (by walk_at "nd") ?ok ?h; (case ok => walk_at "blk"); (case h => walk_at "lcm")))
local macro_rules | `(tactic| walk_at "setC") => `(tactic| first | (refine' ec_setCD (own := [("label", 10), ("state", 9)]) ?n ?e ?nd rfl rfl rfl ?ok ?lc ?s ?h ?hi; (case n => walk_at "nms"); (case e => rfl); (case nd => walk_at "nd"); (case ok => walk_at "blk"); (case s => intro _; rfl); (case lc => walk_at "lcm"); (case hi => exact Nat.le_of_ble_eq_true rfl)) | (refine' ec_setCD (own := [("label", 10), ("later", 11), ("path", 8), ("state", 9)]) ?n ?e ?nd rfl rfl rfl ?ok ?lc ?s ?h ?hi; (case n => walk_at "nms"); (case e => rfl); (case nd => walk_at "nd"); (case ok => walk_at "blk"); (case s => intro _; rfl); (case lc => walk_at "lcm"); (case hi => exact Nat.le_of_ble_eq_true rfl)))
local macro_rules | `(tactic| walk_at "setCN") => `(tactic| first | (refine' ec_setC (own := [("label", 10), ("state", 9)]) ?n ?e ?nd rfl rfl rfl ?ok ?lc ?s ?h; (case n => walk_at "nms"); (case e => rfl); (case nd => walk_at "nd"); (case ok => walk_at "blk"); (case s => intro _; rfl); (case lc => walk_at "lcm")) | (refine' ec_setC (own := [("label", 10), ("later", 11), ("path", 8), ("state", 9)]) ?n ?e ?nd rfl rfl rfl ?ok ?lc ?s ?h; (case n => walk_at "nms"); (case e => rfl); (case nd => walk_at "nd"); (case ok => walk_at "blk"); (case s => intro _; rfl); (case lc => walk_at "lcm")))
theorem ok_first_paths_by {f fd} (h : Has K mg "first_paths_by" (topS 25) ["query"] f fd) (hb : NoB mg) : Ok P w K mg base 1 "first_paths_by" ["query"] (spD K R_first_paths_by) := by
  refine Ok.data h sc_first_paths_by (fun ds x ⟨_, _, _, e, _⟩ => by rw [e]; rfl) fun cdv A outer s H E hr ds y ⟨q, m0, out, e1, e2, ok, hm0, hfp⟩ => ?_
  subst e1 e2
  have hz1 : (q.L.zip q.ro).length < sizeLine := by
    rw [List.length_zip]
    have := ok.labs.2.1
    unfold sizeLine
    omega
  walk_at "asg"
  case h =>
   walk_at "pair"
   case h =>
    refine es_fz (i := 6) rfl ?_
    refine' ec_while PassesOwn.never (fun m ρ' => ∃ f l, FP q m f l out ∧ FpOk q m f l ∧ ρ' = [.d q.D, .d (tS q.L), .d (tN q.ro), .d (.tuple (q.rw.map tN)), .d (tS q.co), .own none (.dct (kvM tS f)), .d (.list (l.map psD)), .no, .no, .no, .no, .no]) m0 ?h0 ?hs
    case h0 => exact ⟨[], q.fpInit, hfp, fpInit_ok ok hm0, by
      unfold Qu.fpInit
      rw [List.map_map]
      rfl⟩
    case hs =>
      rintro m ρ' ⟨f, l, hf, hk, rfl⟩
      have hP : ∀ x ∈ l, (∀ a ∈ x.1, SOk a) ∧ Tru x.2 := fun x hx => ⟨fun a ha => (ok.labs.2.2.1 a ((hk.lv x hx).2.2 a ha)).sok, trivial⟩
      refine' ⟨!l.isEmpty, _, ?wt, ?wb, ?wn⟩
      case wt =>
        refine' et_cmpX (hst := ?cst) ?ca ?cb ?ch
        case ca => walk_at "ev"
        case cb => walk_at "evd"
        case ch => exact cx_neNil (enc_str.tup.pair enc_nat) hP (dp_pair (dp_tup dp_str) (fun n => Nat.le_succ_of_le (dp_nat n))) hr.units
        case cst => rfl
      case wn =>
        intro hl
        have hl : l = [] := by
          cases l with
          | nil => rfl
          | cons a b => cases hl
        subst hl
        cases m with
        | succ m => exact absurd rfl hf.1
        | zero =>
          obtain ⟨_, rfl⟩ := hf
          walk_at "ret"
          rfl
      case wb =>
        intro hl
        cases m with
        | zero =>
          obtain ⟨rfl, _⟩ := hf
          cases hl
        | succ m =>
          obtain ⟨hk2, hk3, hk4⟩ := hk.next ok
          walk_at "setN"
          case h =>
            refine' ec_forM ?fi PassesOwn.never rfl (fun i ρ' => ∃ s1 s2, ρ' = [.d q.D, .d (tS q.L), .d (tN q.ro), .d (.tuple (q.rw.map tN)), .d (tS q.co), .own none (.dct (kvM tS ((l.take i).foldl fpTurn (f, [])).1)), .d (.list (l.map psD)), .own none (.lst (((l.take i).foldl fpTurn (f, [])).2.map psD)), s1, s2, .no, .no]) ?f0 ?fs ?fd (fun _ => rfl)
            case fi => walk_at "ei"
            case f0 => exact ⟨.no, .no, rfl⟩
            case fs =>
              rintro i x ρ' hx ⟨s1, s2, rfl⟩
              obtain ⟨g1, g2, g3, g4⟩ := fpTurns (q := q) (m := m + 1) (l.take i) f [] (fun p hp => hk.lv p (List.mem_of_mem_take hp)) hk.nd hk.lt (by simp) (by simp)
              have g5 : ((l.take i).foldl fpTurn (f, [])).1.length ≤ 40 := FpOk.found_le (m := 0) (l := []) ok ⟨g1, g2, by simp, by simp⟩
              have e3 : (l.take (i + 1)).foldl fpTurn (f, []) = fpTurn ((l.take i).foldl fpTurn (f, [])) x := by
                rw [List.take_add_one, show l[i]? = some x from hx, Option.toList_some, List.foldl_append]
                rfl
              rw [e3]
              generalize (l.take i).foldl fpTurn (f, []) = st at *
              obtain ⟨fo, fr⟩ := st
              refine' ⟨_, _, ?feg, ?fes⟩
              case feg => walk_at "eg"
              case fes =>
                have l1 : fo.length < sizeLine := by
                  have : fo.length ≤ 40 := g5
                  unfold sizeLine; omega
                have l2 : fr.length < sizeLine := by
                  have : fr.length ≤ fo.length := g4
                  omega
                have l3 : (fr.map psD).length < sizeLine := by rw [List.length_map]; exact l2
                walk_at "if"
                case h2 =>
                  intro hn
                  refine es_nil ⟨.d (tS x.1), .d (nD x.2), ?_⟩
                  have : (fo.lookup x.2).isSome = true := by simpa using hn
                  show _ = [_, _, _, _, _, _, _, _, _, _, _, _]
                  simp only [fpTurn, this, if_true]
                  rfl
                case h1 =>
                  intro hn
                  have hn : fo.lookup x.2 = none := by
                    cases e : fo.lookup x.2 with
                    | none => rfl
                    | some a => rw [e] at hn; cases hn
                  walk_at "dput"
                  case h =>
                    walk_at "expr"
                    case h =>
                      refine es_nil (es_nil ⟨.d (tS x.1), .d (nD x.2), ?_⟩)
                      simp only [fpTurn, hn, Option.isSome_none, Bool.false_eq_true, if_false, List.map_append]
                      rfl
            case fd =>
              rintro ρ' ⟨s1, s2, rfl⟩
              rw [List.take_length]
              refine es_forget 8 (es_forget 9 (es_fz (i := 7) rfl ?_))
              have hf2 : FP q m (l.foldl fpTurn (f, [])).1 (q.fpNext (l.foldl fpTurn (f, [])).2) out := hf.2
              generalize l.foldl fpTurn (f, []) = st at *
              obtain ⟨fo, fr⟩ := st
              have l5 : fr.length < sizeLine := by
                have : fr.length ≤ 40 := hk3
                unfold sizeLine; omega
              have l6 : (fr.flatMap fun p => q.L.zip (q.rw.getD p.2 default)).length < sizeLine := by
                have := hk2.ln
                unfold Qu.fpNext at this
                simp only [List.length_flatMap, List.length_map] at this ⊢
                unfold sizeLine
                exact Nat.lt_of_le_of_lt this (by decide)
              refine' ec_setC2 (own := [("label", 10), ("later", 11), ("path", 8), ("state", 9)]) (vs1 := [10, 11]) ?cn ?ce ?cnd rfl rfl rfl ?cok ?chv ?ch ?cs ?cs1 ?chk ?chi
              case cn => walk_at "nms"
              case ce => rfl
              case cnd => walk_at "nd"
              case cok => walk_at "blk"
              case chv => decide
              case cs => intro _; rfl
              case cs1 => intro _ _; rfl
              case ch =>
                refine' lc2_map (fun p : List Str × Nat => q.L.zip (q.rw.getD p.2 default)) (fun ll => .two (.str ll.1) (nD ll.2)) (fun p ll => .tuple [.tuple (p.1.map PyData.str ++ [.str ll.1]), nD ll.2]) ?bhi ?bhv ?bhs ?bhr ?bhl
                case bhi => walk_at "ei"
                case bhv => decide
                case bhr => rfl
                case bhl => exact l6
                case bhs =>
                  intro x hx
                  have hx3 := hk4 x hx
                  have hx4 : x.2 < q.rw.length := hx3.1
                  refine' ⟨_, _, ?cbg, ?cjs, ?cbi, ?ce1, ?ce2, ?cin⟩
                  case cbg => intro s H C cl fp; walk_at "eg"
                  case cjs => decide
                  case cbi => intro s H C cl fp; walk_at "ei"
                  case ce1 => rfl
                  case ce2 => rfl
                  case cin =>
                    intro ll hll
                    have hp5 : (x.1.map PyData.str ++ [PyData.str ll.1]).length ≤ sizeLine := by
                      rw [List.length_append, List.length_map]
                      have := hx3.2.1
                      show x.1.length + 1 ≤ _
                      unfold sizeLine
                      omega
                    refine' ⟨_, _, ?dbg, ?djs, ?dbv, ?de⟩
                    case dbg => intro s H C cl fp; walk_at "eg"
                    case djs => decide
                    case dbv => intro s H C cl fp; walk_at "ev"
                    case de => rfl
              case chk =>
                refine es_forget 7 (es_nil ⟨m, Nat.lt_succ_self m, fo, q.fpNext fr, hf2, hk2, ?_⟩)
                have e9 : (q.fpNext fr).map psD = fr.flatMap fun p => (q.L.zip (q.rw.getD p.2 default)).map fun ll => PyData.tuple [.tuple (p.1.map PyData.str ++ [.str ll.1]), nD ll.2] := by
                  unfold Qu.fpNext
                  rw [List.map_flatMap]
                  refine congrArg (fun z => List.flatMap z fr) ?_
                  funext p
                  rw [List.map_map]
                  refine List.map_congr_left fun ll _ => ?_
                  simp [psD]
                rw [e9]
                rfl
              case chi => exact Nat.le_of_ble_eq_true rfl
end
end

end
section
abbrev R_kinds_by : List D → D → Prop := fun ds x => ∃ (q : Qu) (m : Nat) (kn : List Nat), ds = [q.D] ∧ x = lN kn ∧ q.Ok ∧ KB q.rw m 0 (q.co.map .inr) (kn.map Kn)
abbrev R_least_by : List D → D → Prop := fun ds x => ∃ (q r : Qu), ds = [q.D] ∧ x = r.D ∧ Least q r
section
variable {P : Program} {w : World} {K : PySem.W.Frag} {mg : Str → Option Value} {base : Heap}
section
theorem sc_kinds_by : FnScope ["query", "rows", "kinds", "many", "marks", "state", "row", "mark", "later"] ["query"] (defScope (topS 26)) := ⟨rfl, rfl, rfl, by decide +kernel, rfl, by decide +kernel, by decide +kernel⟩
local macro_rules | `(tactic| walk_at "nd") => `(tactic| exact sc_kinds_by.nd)
local macro_rules | `(tactic| walk_at "blk") => `(tactic| (refine' blkOk_of (N' := ["query", "rows", "kinds", "many", "marks", "state", "row", "mark", "later"]) ?hN ?hs ?h; (case hN => rfl); (case hs => first | exact body_scope | exact blk_scope body_scope | exact blk_scope (blk_scope body_scope)); (case h => decide +kernel)))
theorem nm_kinds_by_0 : NmAt ["query", "rows", "kinds", "many", "marks", "state", "row", "mark", "later"] 0 "query" := ⟨rfl⟩
theorem nm_kinds_by_1 : NmAt ["query", "rows", "kinds", "many", "marks", "state", "row", "mark", "later"] 1 "rows" := ⟨rfl⟩
theorem nm_kinds_by_2 : NmAt ["query", "rows", "kinds", "many", "marks", "state", "row", "mark", "later"] 2 "kinds" := ⟨rfl⟩
theorem nm_kinds_by_3 : NmAt ["query", "rows", "kinds", "many", "marks", "state", "row", "mark", "later"] 3 "many" := ⟨rfl⟩
theorem nm_kinds_by_4 : NmAt ["query", "rows", "kinds", "many", "marks", "state", "row", "mark", "later"] 4 "marks" := ⟨rfl⟩
theorem nm_kinds_by_5 : NmAt ["query", "rows", "kinds", "many", "marks", "state", "row", "mark", "later"] 5 "state" := ⟨rfl⟩
theorem nm_kinds_by_6 : NmAt ["query", "rows", "kinds", "many", "marks", "state", "row", "mark", "later"] 6 "row" := ⟨rfl⟩
theorem nm_kinds_by_7 : NmAt ["query", "rows", "kinds", "many", "marks", "state", "row", "mark", "later"] 7 "mark" := ⟨rfl⟩
theorem nm_kinds_by_8 : NmAt ["query", "rows", "kinds", "many", "marks", "state", "row", "mark", "later"] 8 "later" := ⟨rfl⟩
local macro_rules | `(tactic| walk_at "nms") => `(tactic| first | with_reducible exact nm_kinds_by_0 | with_reducible exact nm_kinds_by_1 | with_reducible exact nm_kinds_by_2 | with_reducible exact nm_kinds_by_3 | with_reducible exact nm_kinds_by_4 | with_reducible exact nm_kinds_by_5 | with_reducible exact nm_kinds_by_6 | with_reducible exact nm_kinds_by_7 | with_reducible exact nm_kinds_by_8)
local macro_rules | `(tactic| walk_at "lc") => `(tactic| first | (refine' ev_lc (own := [("row", 6), ("state", 5)]) rfl (by walk_at "nd") ?ok ?h; (case ok => walk_at "blk"); (case h => walk_at "lcm")) | (refine' ev_lc (own := [("mark", 7)]) rfl (by walk_at "nd") ?ok ?h; (case ok => walk_at "blk"); (case h => walk_at "lcm")) | (refine' ev_lc (own := [("later", 8)]) rfl (by walk_at "nd") ?ok ?h; (case ok => walk_at "blk"); (case h => walk_at "lcm")))
local macro_rules | `(tactic| walk_at "setC") => `(tactic| first | (refine' ec_setCD (own := [("row", 6), ("state", 5)]) ?n ?e ?nd rfl rfl rfl ?ok ?lc ?s ?h ?hi; (case n => walk_at "nms"); (case e => rfl); (case nd => walk_at "nd"); (case ok => walk_at "blk"); (case s => intro _; rfl); (case lc => walk_at "lcm"); (case hi => exact Nat.le_of_ble_eq_true rfl)) | (refine' ec_setCD (own := [("mark", 7)]) ?n ?e ?nd rfl rfl rfl ?ok ?lc ?s ?h ?hi; (case n => walk_at "nms"); (case e => rfl); (case nd => walk_at "nd"); (case ok => walk_at "blk"); (case s => intro _; rfl); (case lc => walk_at "lcm"); (case hi => exact Nat.le_of_ble_eq_true rfl)) | (refine' ec_setCD (own := [("later", 8)]) ?n ?e ?nd rfl rfl rfl ?ok ?lc ?s ?h ?hi; (case n => walk_at "nms"); (case e => rfl); (case nd => walk_at "nd"); (case ok => walk_at "blk"); (case s => intro _; rfl); (case lc => walk_at "lcm"); (case hi => exact Nat.le_of_ble_eq_true rfl)))
local macro_rules | `(tactic| walk_at "setCN") => `(tactic| first | (refine' ec_setC (own := [("row", 6), ("state", 5)]) ?n ?e ?nd rfl rfl rfl ?ok ?lc ?s ?h; (case n => walk_at "nms"); (case e => rfl); (case nd => walk_at "nd"); (case ok => walk_at "blk"); (case s => intro _; rfl); (case lc => walk_at "lcm")) | (refine' ec_setC (own := [("mark", 7)]) ?n ?e ?nd rfl rfl rfl ?ok ?lc ?s ?h; (case n => walk_at "nms"); (case e => rfl); (case nd => walk_at "nd"); (case ok => walk_at "blk"); (case s => intro _; rfl); (case lc => walk_at "lcm")) | (refine' ec_setC (own := [("later", 8)]) ?n ?e ?nd rfl rfl rfl ?ok ?lc ?s ?h; (case n => walk_at "nms"); (case e => rfl); (case nd => walk_at "nd"); (case ok => walk_at "blk"); (case s => intro _; rfl); (case lc => walk_at "lcm")))
local macro_rules | `(tactic| walk_at "mix") => `(tactic| (refine' ev_lindexM (hst := ?st) (enc_key.pair enc_key.lst) ?hP (dp_pair (fun k => Nat.le_succ_of_le (dp_key k)) (dp_lst dp_key)) ?hu ?a ?b ?s1 ?s2 ?h; (case hu => exact Room.units1 ‹Room _ _›); (case a => walk_at "ev"); (case st => rfl); (case b => walk_at "ev"); (case s1 => walk_at "own?"); (case s2 => walk_at "own?"); (case h => walk_at "ixs"); (case hP => assumption)))
theorem ok_kinds_by {f fd} (h : Has K mg "kinds_by" (topS 26) ["query"] f fd) (hb : NoB mg) : Ok P w K mg base 1 "kinds_by" ["query"] (spD K R_kinds_by) := by
  refine Ok.data h sc_kinds_by (fun ds x ⟨_, _, _, e, _⟩ => by rw [e]; rfl) fun cdv A outer s H E hr ds y ⟨q, m0, kn, e1, e2, ok, hkb⟩ => ?_
  subst e1 e2
  have hn := ok.n2
  walk_at "asg"
  case h =>
    refine' ec_while PassesOwn.never (fun m ρ' => ∃ many ks, KB q.rw m many ks (kn.map Kn) ∧ ks.length = q.rw.length ∧ (∀ k ∈ ks, keyOk k) ∧ ρ' = [.d q.D, .d (.tuple (q.rw.map tN)), .d (.list (ks.map kD)), .d (nD many), .no, .no, .no, .no, .no]) m0 ?h0 ?hs
    case h0 =>
      refine ⟨0, _, hkb, by rw [List.length_map]; exact ok.cn, fun k hk => ?_, ?_⟩
      · obtain ⟨c, hc, rfl⟩ := List.mem_map.mp hk
        exact (ok.co c hc).sok
      · rw [List.map_map]
        rfl
    case hs =>
      rintro m ρ' ⟨many, ks, hk, hlen, hok, rfl⟩
      have hl4 : ks.length ≤ 4000 := by omega
      refine' ⟨!decide (many = (met ks).length), _, ?wt, ?wb, ?wn⟩
      case wt => walk_at "et"
      case wn =>
        intro hl
        have hl : many = (met ks).length := by simpa using hl
        cases m with
        | succ m => exact absurd hl hk.1
        | zero =>
          obtain ⟨_, rfl⟩ := hk
          walk_at "ret"
          show PyData.list _ = PyData.list _
          rw [List.map_map]
          rfl
      case wb =>
        intro hl
        have hl : many ≠ (met ks).length := by simpa using hl
        cases m with
        | zero => exact absurd hk.1 hl
        | succ m =>
          have h1 : q.rw.zipIdx.length < sizeLine := by rw [List.length_zipIdx]; unfold sizeLine; omega
          have h2 : ∀ x ∈ q.rw.zipIdx, x.2 < ks.length := fun x hx => by
            have := List.snd_lt_of_mem_zipIdx hx
            omega
          have h3 : ∀ x ∈ q.rw.zipIdx, ∀ y ∈ x.1, y < ks.length := fun x hx y hy => by
            have := (ok.rw x.1 (List.fst_mem_of_mem_zipIdx hx)).2 y hy
            omega
          have h4 : ∀ x ∈ q.rw.zipIdx, x.1.length < sizeLine := fun x hx => by
            have := (ok.rw x.1 (List.fst_mem_of_mem_zipIdx hx)).1
            have := ok.labs.2.1
            unfold sizeLine
            omega
          have gd : ∀ n, keyOk (ks.getD n default) := fun n => by
            rw [List.getD_eq_getElem?_getD]
            cases e : ks[n]? with
            | none => trivial
            | some k => exact hok k (List.mem_of_getElem? e)
          have h5 : ∀ x ∈ marksK q.rw ks, keyOk x.1 ∧ ∀ k ∈ x.2, keyOk k := fun x hx => by
            obtain ⟨z, hz, rfl⟩ := List.mem_map.mp hx
            refine ⟨gd _, fun k hk => ?_⟩
            obtain ⟨y, hy, rfl⟩ := List.mem_map.mp hk
            exact gd _
          have h6 : (marksK q.rw ks).length < sizeLine := by
            unfold marksK
            rw [List.length_map]
            exact h1
          walk_at "set"
          case h =>
            walk_at "sets"
            case h =>
              refine ES.slot (ρ' := [.d q.D, .d (.tuple (q.rw.map tN)), .d (.list (ks.map kD)), .d (nD (met ks).length), .d (.list ((marksK q.rw ks).map mkD)), .no, .no, .no, .no]) ?_ ?_
              · walk_at "sets"
                case h =>
                  refine es_forget 4 (es_nil ⟨m, Nat.lt_succ_self m, (met ks).length, (stepN q.rw ks).map Kn, hk.2, by rw [List.length_map, stepN_len], fun k hk => ?_, ?_⟩)
                  · obtain ⟨c, hc, rfl⟩ := List.mem_map.mp hk
                    trivial
                  · unfold stepN
                    rw [List.map_map, List.map_map]
                    rfl
              · unfold marksK
                rw [List.map_map]
                show _ = [_, _, _, _, _, _, _, _, _]
                simp only [Function.comp_def, mkD, List.map_map]
                rfl
end
section
theorem sc_least_by : FnScope ["query", "state", "moves", "firsts", "labels", "roots", "rows", "colours", "kinds", "numbers", "kind", "later"] ["query"] (defScope (topS 27)) := ⟨rfl, rfl, rfl, by decide +kernel, rfl, by decide +kernel, by decide +kernel⟩
local macro_rules | `(tactic| walk_at "nd") => `(tactic| exact sc_least_by.nd)
local macro_rules | `(tactic| walk_at "blk") => `(tactic| (refine' blkOk_of (N' := ["query", "state", "moves", "firsts", "labels", "roots", "rows", "colours", "kinds", "numbers", "kind", "later"]) ?hN ?hs ?h; (case hN => rfl); (case hs => first | exact body_scope | exact blk_scope body_scope | exact blk_scope (blk_scope body_scope)); (case h => decide +kernel)))
theorem nm_least_by_0 : NmAt ["query", "state", "moves", "firsts", "labels", "roots", "rows", "colours", "kinds", "numbers", "kind", "later"] 0 "query" := ⟨rfl⟩
theorem nm_least_by_1 : NmAt ["query", "state", "moves", "firsts", "labels", "roots", "rows", "colours", "kinds", "numbers", "kind", "later"] 1 "state" := ⟨rfl⟩
theorem nm_least_by_2 : NmAt ["query", "state", "moves", "firsts", "labels", "roots", "rows", "colours", "kinds", "numbers", "kind", "later"] 2 "moves" := ⟨rfl⟩
theorem nm_least_by_3 : NmAt ["query", "state", "moves", "firsts", "labels", "roots", "rows", "colours", "kinds", "numbers", "kind", "later"] 3 "firsts" := ⟨rfl⟩
theorem nm_least_by_4 : NmAt ["query", "state", "moves", "firsts", "labels", "roots", "rows", "colours", "kinds", "numbers", "kind", "later"] 4 "labels" := ⟨rfl⟩
theorem nm_least_by_5 : NmAt ["query", "state", "moves", "firsts", "labels", "roots", "rows", "colours", "kinds", "numbers", "kind", "later"] 5 "roots" := ⟨rfl⟩
theorem nm_least_by_6 : NmAt ["query", "state", "moves", "firsts", "labels", "roots", "rows", "colours", "kinds", "numbers", "kind", "later"] 6 "rows" := ⟨rfl⟩
theorem nm_least_by_7 : NmAt ["query", "state", "moves", "firsts", "labels", "roots", "rows", "colours", "kinds", "numbers", "kind", "later"] 7 "colours" := ⟨rfl⟩
theorem nm_least_by_8 : NmAt ["query", "state", "moves", "firsts", "labels", "roots", "rows", "colours", "kinds", "numbers", "kind", "later"] 8 "kinds" := ⟨rfl⟩
theorem nm_least_by_9 : NmAt ["query", "state", "moves", "firsts", "labels", "roots", "rows", "colours", "kinds", "numbers", "kind", "later"] 9 "numbers" := ⟨rfl⟩
theorem nm_least_by_10 : NmAt ["query", "state", "moves", "firsts", "labels", "roots", "rows", "colours", "kinds", "numbers", "kind", "later"] 10 "kind" := ⟨rfl⟩
theorem nm_least_by_11 : NmAt ["query", "state", "moves", "firsts", "labels", "roots", "rows", "colours", "kinds", "numbers", "kind", "later"] 11 "later" := ⟨rfl⟩
local macro_rules | `(tactic| walk_at "nms") => `(tactic| first | with_reducible exact nm_least_by_0 | with_reducible exact nm_least_by_1 | with_reducible exact nm_least_by_2 | with_reducible exact nm_least_by_3 | with_reducible exact nm_least_by_4 | with_reducible exact nm_least_by_5 | with_reducible exact nm_least_by_6 | with_reducible exact nm_least_by_7 | with_reducible exact nm_least_by_8 | with_reducible exact nm_least_by_9 | with_reducible exact nm_least_by_10 | with_reducible exact nm_least_by_11)
local macro_rules | `(tactic| walk_at "lc") => `(tactic| first | (refine' ev_lc (own := [("kind", 10)]) rfl (by walk_at "nd") ?ok ?h; (case ok => walk_at "blk"); (case h => walk_at "lcm")) | (refine' ev_lc (own := [("state", 1)]) rfl (by walk_at "nd") ?ok ?h; (case ok => walk_at "blk"); (case h => walk_at "lcm")) | (refine' ev_lc (own := [("later", 11)]) rfl (by walk_at "nd") ?ok ?h; (case ok => walk_at "blk"); (case h => walk_at "lcm")))
local macro_rules | `(tactic| walk_at "setC") => `(tactic| first | (refine' ec_setCD (own := [("kind", 10)]) ?n ?e ?nd rfl rfl rfl ?ok ?lc ?s ?h ?hi; (case n => walk_at "nms"); (case e => rfl); (case nd => walk_at "nd"); (case ok => walk_at "blk"); (case s => intro _; rfl); (case lc => walk_at "lcm"); (case hi => exact Nat.le_of_ble_eq_true rfl)) | (refine' ec_setCD (own := [("state", 1)]) ?n ?e ?nd rfl rfl rfl ?ok ?lc ?s ?h ?hi; (case n => walk_at "nms"); (case e => rfl); (case nd => walk_at "nd"); (case ok => walk_at "blk"); (case s => intro _; rfl); (case lc => walk_at "lcm"); (case hi => exact Nat.le_of_ble_eq_true rfl)) | (refine' ec_setCD (own := [("later", 11)]) ?n ?e ?nd rfl rfl rfl ?ok ?lc ?s ?h ?hi; (case n => walk_at "nms"); (case e => rfl); (case nd => walk_at "nd"); (case ok => walk_at "blk"); (case s => intro _; rfl); (case lc => walk_at "lcm"); (case hi => exact Nat.le_of_ble_eq_true rfl)))
local macro_rules | `(tactic| walk_at "setCN") => `(tactic| first | (refine' ec_setC (own := [("kind", 10)]) ?n ?e ?nd rfl rfl rfl ?ok ?lc ?s ?h; (case n => walk_at "nms"); (case e => rfl); (case nd => walk_at "nd"); (case ok => walk_at "blk"); (case s => intro _; rfl); (case lc => walk_at "lcm")) | (refine' ec_setC (own := [("state", 1)]) ?n ?e ?nd rfl rfl rfl ?ok ?lc ?s ?h; (case n => walk_at "nms"); (case e => rfl); (case nd => walk_at "nd"); (case ok => walk_at "blk"); (case s => intro _; rfl); (case lc => walk_at "lcm")) | (refine' ec_setC (own := [("later", 11)]) ?n ?e ?nd rfl rfl rfl ?ok ?lc ?s ?h; (case n => walk_at "nms"); (case e => rfl); (case nd => walk_at "nd"); (case ok => walk_at "blk"); (case s => intro _; rfl); (case lc => walk_at "lcm")))
theorem ok_least_by {f fd} (h : Has K mg "least_by" (topS 27) ["query"] f fd) (hb : NoB mg) (h2 : Ok P w K mg base 1 "kinds_by" ["query"] (spD K R_kinds_by)) (h3 : Ok P w K mg base 1 "first_paths_by" ["query"] (spD K R_first_paths_by)) : Ok P w K mg base 2 "least_by" ["query"] (spD K R_least_by) := by
  refine Ok.data h sc_least_by (fun ds x ⟨_, _, e, _⟩ => by rw [e]; rfl) fun cdv A outer s H E hr ds y ⟨q, r, e1, e2, m1, kn, m2, o, ok, hkb, hm2, hfp, hcl, er⟩ => ?_
  subst e1 e2 er
  have hc1 : q.Ok ∧ KB q.rw m1 0 (q.co.map .inr) (kn.map Kn) := ⟨ok, hkb⟩
  have hc2 : q.Ok ∧ m2 ≤ 1000 ∧ FP q m2 [] q.fpInit o := ⟨ok, hm2, hfp⟩
  obtain ⟨ho, hol⟩ := FP_ok ok hfp (fpInit_ok ok hm2)
  obtain ⟨hkl, hcr, hck⟩ := hcl
  have hn := ok.n2
  have hk4 := ok.labs.2.1
  have hA : ∀ s ∈ o.map (·.1), s < kn.length := fun s hs => by
    obtain ⟨p, hp, rfl⟩ := List.mem_map.mp hs
    have := ho p hp
    omega
  have hol2 : (o.map (·.1)).length ≤ 40 := by rw [List.length_map]; exact hol
  have hord : (orderOf kn (o.map (·.1))).length ≤ 40 := by
    have := order_len kn (o.map (·.1)) []
    unfold orderOf
    simp only [List.length_nil] at this
    omega
  walk_at "asg"
  case h =>
   walk_at "pair"
   case h =>
    refine' ec_forM ?fi PassesOwn.never rfl (fun i ρ' => ∃ s1, ρ' = [.d q.D, s1, .no, .no, .d (tS q.L), .d (tN q.ro), .d (.tuple (q.rw.map tN)), .d (tS q.co), .d (lN kn), .own none (.dct (kvM nD (((o.map (·.1)).take i).foldl (ordTurn kn) []).zipIdx)), .no, .no]) ?f0 ?fs ?fd (fun _ => rfl)
    case fi => walk_at "ei"
    case f0 => exact ⟨.no, rfl⟩
    case fs =>
      rintro i x ρ' hx ⟨s1, rfl⟩
      have hxm := hA x (mem_of_get hx)
      have e3 : ((o.map (·.1)).take (i + 1)).foldl (ordTurn kn) [] = ordTurn kn (((o.map (·.1)).take i).foldl (ordTurn kn) []) x := by
        rw [List.take_add_one, show (o.map (·.1))[i]? = some x from hx, Option.toList_some, List.foldl_append]
        rfl
      have e4 : (((o.map (·.1)).take i).foldl (ordTurn kn) []).zipIdx.length < sizeLine := by
        have := order_len kn ((o.map (·.1)).take i) []
        rw [List.length_zipIdx]
        simp only [List.length_nil, List.length_take] at this
        unfold sizeLine
        omega
      rw [e3]
      generalize ((o.map (·.1)).take i).foldl (ordTurn kn) [] = acc at *
      refine' ⟨_, _, ?feg, ?fes⟩
      case feg => walk_at "eg"
      case fes =>
        walk_at "expr"
        case h =>
          refine es_nil ⟨.d (nD x), ?_⟩
          have e5 := zipIdx_put acc (kn.getD x default) (kvM nD acc.zipIdx).length (by rw [kvM_length, List.length_zipIdx])
          unfold ordTurn
          rw [← e5]
          rfl
    case fd =>
      rintro ρ' ⟨s1, rfl⟩
      rw [List.take_length]
      refine es_forget 1 (es_fzD (i := 9) rfl ?_)
      have hord2 := hord
      unfold orderOf at hcr hck hord
      unfold orderOf
      generalize (o.map (·.1)).foldl (ordTurn kn) [] = ord at *
      have hB : ∀ k ∈ ord.zipIdx.map (·.1), k < q.rw.length := fun k hk => (hck k (by rw [zipIdx_fst] at hk; exact hk)).1
      have hC : ∀ k ∈ ord.zipIdx.map (·.1), ∀ l ∈ q.rw.getD k default, l < kn.length := fun k hk l hl => by
        rw [hkl]
        exact (ok.row (hB k hk)).2 l hl
      have hD : ∀ k ∈ ord.zipIdx.map (·.1), ∀ l ∈ q.rw.getD k default, (ord.zipIdx.lookup (kn.getD l default)).isSome = true := fun k hk l hl => zipIdx_some ((hck k (by rw [zipIdx_fst] at hk; exact hk)).2 l hl)
      have hE : ∀ s ∈ q.ro, s < kn.length := fun s hs => by
        rw [hkl]
        exact ok.ro.2 s hs
      have hF : ∀ s ∈ q.ro, (ord.zipIdx.lookup (kn.getD s default)).isSome = true := fun s hs => zipIdx_some (hcr s hs)
      have hG : ∀ k ∈ ord.zipIdx.map (·.1), k < q.co.length := fun k hk => by
        rw [ok.cn]
        exact hB k hk
      have l1 : (ord.zipIdx.map (·.1)).length < sizeLine := by
        rw [zipIdx_fst]
        unfold sizeLine
        omega
      have l2 : ∀ k ∈ ord.zipIdx.map (·.1), (q.rw.getD k default).length < sizeLine := fun k hk => by
        rw [(ok.row (hB k hk)).1]
        unfold sizeLine
        omega
      have l3 : q.ro.length < sizeLine := by
        rw [ok.ro.1]
        unfold sizeLine
        omega
      walk_at "sets"
      case h =>
        walk_at "sets"
        case h =>
          walk_at "ret"
          show PyData.tuple _ = PyData.tuple _
          have e1 : (ord.zipIdx.map (·.1)) = ord := zipIdx_fst ord
          rw [e1]
          unfold Qu.lq
          have e2 : q.ro.map (fun s => nD ((ord.zipIdx.lookup (kn.getD s default)).getD default)) = (q.ro.map fun s => ord.idxOf (kn.getD s default)).map nD := by
            rw [List.map_map]
            exact List.map_congr_left fun s hs => by rw [zipIdx_get (hcr s hs)]; rfl
          have e3 : ord.map (fun k => PyData.tuple ((q.rw.getD k default).map fun l => nD ((ord.zipIdx.lookup (kn.getD l default)).getD default))) = (ord.map fun k => (q.rw.getD k default).map fun l => ord.idxOf (kn.getD l default)).map tN := by
            rw [List.map_map]
            refine List.map_congr_left fun k hk => ?_
            show _ = tN _
            rw [tN, List.map_map]
            refine congrArg PyData.tuple (List.map_congr_left fun l hl => ?_)
            rw [zipIdx_get ((hck k hk).2 l hl)]
            rfl
          have e4 : ord.map (fun k => PyData.str (q.co.getD k default)) = (ord.map fun k => q.co.getD k default).map PyData.str := by
            rw [List.map_map]
            rfl
          rw [e2, e3, e4]
end
end

end
section
abbrev R_underneath : List D → D → Prop := fun ds x => ∃ (q : Qu) (w : List Str) (r : Qu), ds = [q.D, tS w] ∧ x = r.D ∧ q.Ok ∧ (∀ a ∈ w, a ∈ q.L) ∧ w.length ≤ 5000 ∧ Least (q.at w) r
abbrev R_translated_by : List D → D → Prop := fun ds x => ∃ (q : Qu) (nm : List (Str × Str)) (Ls : List Str) (r : Qu), ds = [q.D, dictD (kvS PyData.str nm)] ∧ x = r.D ∧ q.Ok ∧ NmOk q nm Ls ∧ Least (q.tr nm Ls) r
section
variable {P : Program} {w : World} {K : PySem.W.Frag} {mg : Str → Option Value} {base : Heap}
section
theorem sc_underneath : FnScope ["query", "word"] ["query", "word"] (defScope (topS 29)) := ⟨rfl, rfl, rfl, by decide +kernel, rfl, by decide +kernel, by decide +kernel⟩
local macro_rules | `(tactic| walk_at "nd") => `(tactic| exact sc_underneath.nd)
local macro_rules | `(tactic| walk_at "blk") => `(tactic| (refine' blkOk_of (N' := ["query", "word"]) ?hN ?hs ?h; (case hN => rfl); (case hs => first | exact body_scope | exact blk_scope body_scope | exact blk_scope (blk_scope body_scope)); (case h => decide +kernel)))
theorem nm_underneath_0 : NmAt ["query", "word"] 0 "query" := ⟨rfl⟩
theorem nm_underneath_1 : NmAt ["query", "word"] 1 "word" := ⟨rfl⟩
local macro_rules | `(tactic| walk_at "nms") => `(tactic| first | with_reducible exact nm_underneath_0 | with_reducible exact nm_underneath_1)
theorem ok_underneath {f fd} (h : Has K mg "underneath" (topS 29) ["query", "word"] f fd) (hb : NoB mg) (h1 : Ok P w K mg base 5 "check_query" ["query"] (spD K R_check_query)) (h2 : Ok P w K mg base 2 "check_word" ["labels", "word"] (spD K R_check_word)) (h3 : Ok P w K mg base 2 "behind_by" ["query", "state", "word"] (spD K R_behind_by)) (h4 : Ok P w K mg base 2 "least_by" ["query"] (spD K R_least_by)) : Ok P w K mg base 6 "underneath" ["query", "word"] (spD K R_underneath) := by
  refine Ok.data h sc_underneath (fun ds x ⟨_, _, _, e, _⟩ => by rw [e]; rfl) fun cdv A outer s H E hr ds y ⟨q, v, r, e1, e2, ok, hv, hvl, hle⟩ => ?_
  subst e1 e2
  have hc1 : R_check_query [q.D] .none := ⟨q, rfl, rfl, ok⟩
  have hc2 : R_check_word [tS q.L, tS v] .none := ⟨q.L, v, rfl, rfl, hv, hvl⟩
  have hP : ∀ x ∈ v, SOk x := fun x hx => (ok.labs.2.2.1 x (hv x hx)).sok
  walk_at "expr"
  case h =>
    walk_at "expr"
    case h =>
      walk_at "if"
      case h1 =>
        intro hk
        cases v with
        | cons a b => cases hk
        | nil =>
          have hR : R_least_by [q.D] r.D := ⟨q, r, rfl, rfl, hle⟩
          walk_at "ret"
          rfl
      case h2 =>
        intro hk
        cases v with
        | nil => cases hk
        | cons l v =>
          have hl := hv l List.mem_cons_self
          have hv2 : ∀ a ∈ v, a ∈ q.L := fun a ha => hv a (List.mem_cons_of_mem _ ha)
          have hB : R_behind_by [q.D, .none, tS (l :: v)] (nD (q.run (q.root l) v)) := ⟨q, l, v, rfl, rfl, ok, hl, hv2⟩
          have hx : q.run (q.root l) v < q.rw.length := ok.run_lt (ok.root_lt hl) hv2
          have hR : R_least_by [(q.at (l :: v)).D] r.D := ⟨_, r, rfl, rfl, hle⟩
          walk_at "ret"
          rfl
end
section
theorem sc_translated_by : FnScope ["query", "names", "labels", "label", "places", "rows", "row", "place"] ["query", "names"] (defScope (topS 30)) := ⟨rfl, rfl, rfl, by decide +kernel, rfl, by decide +kernel, by decide +kernel⟩
local macro_rules | `(tactic| walk_at "nd") => `(tactic| exact sc_translated_by.nd)
local macro_rules | `(tactic| walk_at "blk") => `(tactic| (refine' blkOk_of (N' := ["query", "names", "labels", "label", "places", "rows", "row", "place"]) ?hN ?hs ?h; (case hN => rfl); (case hs => first | exact body_scope | exact blk_scope body_scope | exact blk_scope (blk_scope body_scope)); (case h => decide +kernel)))
theorem nm_translated_by_0 : NmAt ["query", "names", "labels", "label", "places", "rows", "row", "place"] 0 "query" := ⟨rfl⟩
theorem nm_translated_by_1 : NmAt ["query", "names", "labels", "label", "places", "rows", "row", "place"] 1 "names" := ⟨rfl⟩
theorem nm_translated_by_2 : NmAt ["query", "names", "labels", "label", "places", "rows", "row", "place"] 2 "labels" := ⟨rfl⟩
theorem nm_translated_by_3 : NmAt ["query", "names", "labels", "label", "places", "rows", "row", "place"] 3 "label" := ⟨rfl⟩
theorem nm_translated_by_4 : NmAt ["query", "names", "labels", "label", "places", "rows", "row", "place"] 4 "places" := ⟨rfl⟩
theorem nm_translated_by_5 : NmAt ["query", "names", "labels", "label", "places", "rows", "row", "place"] 5 "rows" := ⟨rfl⟩
theorem nm_translated_by_6 : NmAt ["query", "names", "labels", "label", "places", "rows", "row", "place"] 6 "row" := ⟨rfl⟩
theorem nm_translated_by_7 : NmAt ["query", "names", "labels", "label", "places", "rows", "row", "place"] 7 "place" := ⟨rfl⟩
local macro_rules | `(tactic| walk_at "nms") => `(tactic| first | with_reducible exact nm_translated_by_0 | with_reducible exact nm_translated_by_1 | with_reducible exact nm_translated_by_2 | with_reducible exact nm_translated_by_3 | with_reducible exact nm_translated_by_4 | with_reducible exact nm_translated_by_5 | with_reducible exact nm_translated_by_6 | with_reducible exact nm_translated_by_7)
local macro_rules | `(tactic| walk_at "lc") => `(tactic| first | (refine' ev_lc (own := [("label", 3)]) rfl (by walk_at "nd") ?ok ?h; (case ok => walk_at "blk"); (case h => walk_at "lcm")) | (refine' ev_lc (own := [("row", 6)]) rfl (by walk_at "nd") ?ok ?h; (case ok => walk_at "blk"); (case h => walk_at "lcm")) | (refine' ev_lc (own := [("place", 7)]) rfl (by walk_at "nd") ?ok ?h; (case ok => walk_at "blk"); (case h => walk_at "lcm")))
local macro_rules | `(tactic| walk_at "setC") => `(tactic| first | (refine' ec_setCD (own := [("label", 3)]) ?n ?e ?nd rfl rfl rfl ?ok ?lc ?s ?h ?hi; (case n => walk_at "nms"); (case e => rfl); (case nd => walk_at "nd"); (case ok => walk_at "blk"); (case s => intro _; rfl); (case lc => walk_at "lcm"); (case hi => exact Nat.le_of_ble_eq_true rfl)) | (refine' ec_setCD (own := [("row", 6)]) ?n ?e ?nd rfl rfl rfl ?ok ?lc ?s ?h ?hi; (case n => walk_at "nms"); (case e => rfl); (case nd => walk_at "nd"); (case ok => walk_at "blk"); (case s => intro _; rfl); (case lc => walk_at "lcm"); (case hi => exact Nat.le_of_ble_eq_true rfl)) | (refine' ec_setCD (own := [("place", 7)]) ?n ?e ?nd rfl rfl rfl ?ok ?lc ?s ?h ?hi; (case n => walk_at "nms"); (case e => rfl); (case nd => walk_at "nd"); (case ok => walk_at "blk"); (case s => intro _; rfl); (case lc => walk_at "lcm"); (case hi => exact Nat.le_of_ble_eq_true rfl)))
local macro_rules | `(tactic| walk_at "setCN") => `(tactic| first | (refine' ec_setC (own := [("label", 3)]) ?n ?e ?nd rfl rfl rfl ?ok ?lc ?s ?h; (case n => walk_at "nms"); (case e => rfl); (case nd => walk_at "nd"); (case ok => walk_at "blk"); (case s => intro _; rfl); (case lc => walk_at "lcm")) | (refine' ec_setC (own := [("row", 6)]) ?n ?e ?nd rfl rfl rfl ?ok ?lc ?s ?h; (case n => walk_at "nms"); (case e => rfl); (case nd => walk_at "nd"); (case ok => walk_at "blk"); (case s => intro _; rfl); (case lc => walk_at "lcm")) | (refine' ec_setC (own := [("place", 7)]) ?n ?e ?nd rfl rfl rfl ?ok ?lc ?s ?h; (case n => walk_at "nms"); (case e => rfl); (case nd => walk_at "nd"); (case ok => walk_at "blk"); (case s => intro _; rfl); (case lc => walk_at "lcm")))
theorem ok_translated_by {f fd} (h : Has K mg "translated_by" (topS 30) ["query", "names"] f fd) (hb : NoB mg) (h1 : Ok P w K mg base 5 "check_query" ["query"] (spD K R_check_query)) (h2 : Ok P w K mg base 1 "is_label" ["value"] (spD K R_is_label)) (h4 : Ok P w K mg base 2 "least_by" ["query"] (spD K R_least_by)) : Ok P w K mg base 6 "translated_by" ["query", "names"] (spD K R_translated_by) := by
  refine Ok.data h sc_translated_by (fun ds x ⟨_, _, _, _, e, _⟩ => by rw [e]; rfl) fun cdv A outer s H E hr ds y ⟨q, nm, Ls, r, e1, e2, ok, hn, hle⟩ => ?_
  subst e1 e2
  have hc1 : R_check_query [q.D] .none := ⟨q, rfl, rfl, ok⟩
  have n1 := hn.n1
  have n4 := hn.n4
  have l1 : (nm.map (·.1)).length < sizeLine := by rw [List.length_map]; unfold sizeLine; omega
  have l2 : nm.length < 64 := by omega
  have hU := hn.sorted
  have hlab : ∀ x ∈ nm.map (·.1), Lab x := fun x hx => by
    obtain ⟨p, hp, rfl⟩ := List.mem_map.mp hx
    exact (hn.lab p hp).1
  have hg : ∀ l ∈ Ls, (nm.lookup l).isSome = true := fun l hl => (hn.val hl).1
  have hi : ∀ l ∈ Ls, (nm.lookup l).getD default ∈ q.L := fun l hl => (hn.val hl).2.1
  have l3 : Ls.length < sizeLine := by rw [hn.len]; unfold sizeLine; omega
  have l4 : q.rw.length < sizeLine := by have := ok.n2; unfold sizeLine; omega
  have hro : ∀ l ∈ Ls, q.L.idxOf ((nm.lookup l).getD default) < q.ro.length := fun l hl => by rw [ok.ro.1]; exact idx_lt (hi l hl)
  have hrw : ∀ r ∈ q.rw, ∀ l ∈ Ls, q.L.idxOf ((nm.lookup l).getD default) < r.length := fun r hr l hl => by rw [(ok.rw r hr).1]; exact idx_lt (hi l hl)
  walk_at "expr"
  case h =>
    walk_at "if"
    case h1 =>
      intro hk
      exfalso
      rw [decide_eq_true n1, decide_eq_true n4] at hk
      simp at hk
    case h2 =>
      intro _
      walk_at "sets"
      case h =>
        refine' ec_forM ?fi PassesOwn.never rfl (fun i ρ' => ∃ sl, ρ' = [.d q.D, .d (dictD (kvS PyData.str nm)), .d (tS Ls), sl, .no, .no, .no, .no]) ?f0 ?fs ?fd (fun _ => rfl)
        case fi => walk_at "ei"
        case f0 => exact ⟨.no, rfl⟩
        case fs =>
          rintro i x ρ' hx ⟨sl, rfl⟩
          have hxm : x ∈ Ls := mem_of_get hx
          refine' ⟨_, _, ?feg, ?fes⟩
          case feg => walk_at "eg"
          case fes =>
            walk_at "if"
            case h1 =>
              intro hk
              rw [decide_eq_true (hi x hxm)] at hk
              cases hk
            case h2 =>
              intro _
              exact es_nil ⟨.d (.str x), rfl⟩
        case fd =>
          rintro ρ' ⟨sl, rfl⟩
          refine es_forget 3 ?_
          walk_at "sets"
          case h =>
            walk_at "sets"
            case h =>
              have hR : R_least_by [.tuple [tS Ls, .tuple (Ls.map fun l => nD (q.ro.getD (q.L.idxOf ((nm.lookup l).getD default)) default)), .tuple (q.rw.map fun r => .tuple (Ls.map fun l => nD (r.getD (q.L.idxOf ((nm.lookup l).getD default)) default))), tS q.co]] r.D := by
                refine ⟨_, r, ?_, rfl, hle⟩
                unfold Qu.tr Qu.D tS tN nmOf
                simp only [List.map_map, Function.comp_def]
              walk_at "ret"
              rfl
end
end

end
section
abbrev R_pull : List D → List D → List D → D → Prop := fun cs ds cs' x => ∃ (d : Die) (m : Nat), cs = d.D ∧ ds = [nD m] ∧ cs' = (pull m d).2.D ∧ x = nD (pull m d).1 ∧ 0 < m ∧ m < 2 ^ 200 ∧ Good 1 d
section
variable {P : Program} {w : World} {K : PySem.W.Frag} {mg : Str → Option Value} {base : Heap}
section
theorem sc__law_pull : FnScope ["die", "many", "one", "two", "found"] ["die", "many"] (defScope (topS 34)) := ⟨rfl, rfl, rfl, by decide +kernel, rfl, by decide +kernel, by decide +kernel⟩
local macro_rules | `(tactic| walk_at "nd") => `(tactic| exact sc__law_pull.nd)
local macro_rules | `(tactic| walk_at "blk") => `(tactic| (refine' blkOk_of (N' := ["die", "many", "one", "two", "found"]) ?hN ?hs ?h; (case hN => rfl); (case hs => first | exact body_scope | exact blk_scope body_scope | exact blk_scope (blk_scope body_scope)); (case h => decide +kernel)))
theorem nm__law_pull_0 : NmAt ["die", "many", "one", "two", "found"] 0 "die" := ⟨rfl⟩
theorem nm__law_pull_1 : NmAt ["die", "many", "one", "two", "found"] 1 "many" := ⟨rfl⟩
theorem nm__law_pull_2 : NmAt ["die", "many", "one", "two", "found"] 2 "one" := ⟨rfl⟩
theorem nm__law_pull_3 : NmAt ["die", "many", "one", "two", "found"] 3 "two" := ⟨rfl⟩
theorem nm__law_pull_4 : NmAt ["die", "many", "one", "two", "found"] 4 "found" := ⟨rfl⟩
local macro_rules | `(tactic| walk_at "nms") => `(tactic| first | with_reducible exact nm__law_pull_0 | with_reducible exact nm__law_pull_1 | with_reducible exact nm__law_pull_2 | with_reducible exact nm__law_pull_3 | with_reducible exact nm__law_pull_4)
theorem ok_law_pull {f fd} (h : Has K mg "_law_pull" (topS 34) ["die", "many"] f fd) (hb : NoB mg) : Ok P w K mg base 1 "_law_pull" ["die", "many"] (spB K R_pull) := by
  refine Ok.bor h sc__law_pull (fun cs ds cs' x ⟨_, _, _, e, _⟩ => by rw [e]; rfl) fun cdv A outer s H E hr cs ds cs' y ⟨d, m, e1, e2, e3, e4, hm, hm2, hg⟩ => ?_
  subst e1 e2 e3 e4
  obtain ⟨a, b, c⟩ := d
  have hbl : b < 2 ^ 57 := hg.1
  have hcl : c + 1 ≤ 2 ^ 60 := hg.2
  have hml : m.log2 < 9000 := Nat.lt_trans (log2_lt' hm2 (by decide)) (by decide)
  have hdv : 0 < m ∧ m.log2 < 9000 := ⟨hm, hml⟩
  have hc1 : Nat.log2 2654435761 + (c + 1).log2 < 1000000 := by
    have : (c + 1).log2 < 61 := log2_lt' (by omega) (by decide)
    have : Nat.log2 2654435761 = 31 := by decide +kernel
    omega
  have hc2 : Nat.log2 374761393 + (c + 1).log2 < 1000000 := by
    have : (c + 1).log2 < 61 := log2_lt' (by omega) (by decide)
    have : Nat.log2 374761393 = 28 := by decide +kernel
    omega
  walk_at "if"
  case h1 =>
    intro hk
    have hk : a > 0 := by simpa using hk
    walk_at "set"
    case h =>
      walk_at "sput"
      case h =>
        walk_at "ret"
        have e : pull m ⟨a, b, c⟩ = (a % m, ⟨a / m, b, c⟩) := by
          unfold pull
          rw [if_pos hk]
        rw [e]
        exact ⟨rfl, rfl⟩
  case h2 =>
    intro hk
    have hk : ¬ a > 0 := by simpa using hk
    walk_at "sput"
    case h =>
      have lo : ((b + 2654435761 * (c + 1)) % 36028797018963913).log2 < 60 := log2_lt' (Nat.lt_trans (Nat.mod_lt _ (by decide)) (by decide)) (by decide)
      have lo2 : ((b + 2654435761 * (c + 1)) % 36028797018963913).log2 + ((b + 2654435761 * (c + 1)) % 36028797018963913).log2 < 1000000 := by omega
      walk_at "set"
      case h =>
        generalize hone : (b + 2654435761 * (c + 1)) % 36028797018963913 = one at *
        have lt2 : (one * one % 18014398509481951).log2 + one.log2 < 1000000 := by
          have : (one * one % 18014398509481951).log2 < 60 := log2_lt' (Nat.lt_trans (Nat.mod_lt _ (by decide)) (by decide)) (by decide)
          omega
        have lone : one < 2 ^ 60 := by rw [← hone]; exact Nat.lt_trans (Nat.mod_lt _ (by decide)) (by decide)
        walk_at "set"
        case h =>
          have ltt : one * one % 18014398509481951 * one < 2 ^ 120 := by
            have h1 : one * one % 18014398509481951 < 2 ^ 60 := Nat.lt_trans (Nat.mod_lt _ (by decide)) (by decide)
            calc one * one % 18014398509481951 * one ≤ 2 ^ 60 * one := Nat.mul_le_mul_right _ (Nat.le_of_lt h1)
              _ < 2 ^ 60 * 2 ^ 60 := Nat.mul_lt_mul_of_pos_left lone (by decide)
              _ = 2 ^ 120 := by decide
          generalize htwo : one * one % 18014398509481951 * one = two at *
          walk_at "set"
          case h =>
            have l3 : two + 374761393 * (c + 1) + b % 65521 < 2 ^ 121 := by
              have : b % 65521 < 65521 := Nat.mod_lt _ (by decide)
              omega
            generalize htw : two + 374761393 * (c + 1) + b % 65521 = tw at *
            have l4 : tw.log2 + tw.log2 < 1000000 := by
              have := log2_lt' l3 (by decide)
              omega
            have l5 : (0 : Nat) < 512 ∧ Nat.log2 512 < 9000 := ⟨by decide, by decide +kernel⟩
            walk_at "ret"
            have e : pull m ⟨a, b, c⟩ = (tw * tw % 1125899906842597 / 512 % m, ⟨a, b, c + 1⟩) := by
              unfold pull
              rw [if_neg hk]
              simp only [hone, htwo, htw]
            rw [e]
            exact ⟨rfl, rfl⟩
end
end

end
section
abbrev R_dice : List D → List D → Prop := fun ds cs => ∃ (ns : List Int) (spot : Nat), ds = [.list (ns.map PyData.int), nD spot] ∧ cs = (diceOf (cellOf ns spot) spot).D ∧ spot < 64
section
variable {P : Program} {w : World} {K : PySem.W.Frag} {mg : Str → Option Value} {base : Heap}
section
theorem sc__law_dice : FnScope ["script", "spot", "cell", "great", "mixed"] ["script", "spot"] (defScope (topS 33)) := ⟨rfl, rfl, rfl, by decide +kernel, rfl, by decide +kernel, by decide +kernel⟩
local macro_rules | `(tactic| walk_at "nd") => `(tactic| exact sc__law_dice.nd)
local macro_rules | `(tactic| walk_at "blk") => `(tactic| (refine' blkOk_of (N' := ["script", "spot", "cell", "great", "mixed"]) ?hN ?hs ?h; (case hN => rfl); (case hs => first | exact body_scope | exact blk_scope body_scope | exact blk_scope (blk_scope body_scope)); (case h => decide +kernel)))
theorem nm__law_dice_0 : NmAt ["script", "spot", "cell", "great", "mixed"] 0 "script" := ⟨rfl⟩
theorem nm__law_dice_1 : NmAt ["script", "spot", "cell", "great", "mixed"] 1 "spot" := ⟨rfl⟩
theorem nm__law_dice_2 : NmAt ["script", "spot", "cell", "great", "mixed"] 2 "cell" := ⟨rfl⟩
theorem nm__law_dice_3 : NmAt ["script", "spot", "cell", "great", "mixed"] 3 "great" := ⟨rfl⟩
theorem nm__law_dice_4 : NmAt ["script", "spot", "cell", "great", "mixed"] 4 "mixed" := ⟨rfl⟩
local macro_rules | `(tactic| walk_at "nms") => `(tactic| first | with_reducible exact nm__law_dice_0 | with_reducible exact nm__law_dice_1 | with_reducible exact nm__law_dice_2 | with_reducible exact nm__law_dice_3 | with_reducible exact nm__law_dice_4)
theorem ok_law_dice {f fd} (h : Has K mg "_law_dice" (topS 33) ["script", "spot"] f fd) (hb : NoB mg) : Ok P w K mg base 1 "_law_dice" ["script", "spot"] (spN K R_dice) := by
  refine Ok.new h sc__law_dice (fun ds x ⟨_, _, e, _⟩ => by rw [e]; rfl) fun cdv A outer s H E hr ds cs ⟨ns, spot, e1, e2, hs⟩ => ?_
  subst e1 e2
  have hl23 : Nat.log2 23 + spot.log2 < 1000000 := by
    have : spot.log2 < 6 := log2_lt' (show spot < 2 ^ 6 by omega) (by decide)
    have : Nat.log2 23 = 4 := by decide +kernel
    omega
  refine' ec_setD (d := .int (cellOf ns spot)) ?zn ?ze ?znd ?zl ?zhe ?zhk ?zf ?zsw
  case zn => walk_at "nms"
  case ze => rfl
  case znd => walk_at "nd"
  case zl => walk_at "loc"
  case zf => walk_at "loc"
  case zsw => rfl
  case zhe =>
    refine' ev_if (k := decide (spot < ns.length)) ?c1 ?c2 ?c3
    case c1 => walk_at "et"
    case c2 =>
      intro hk
      have hk : spot < ns.length := of_decide_eq_true hk
      refine' EV.to ?d1 (show Rs.d (.int (ns.getD spot default)) = _ by unfold cellOf; rw [if_pos hk])
      case d1 => walk_at "ev"
    case c3 =>
      intro hk
      have hk : ¬ spot < ns.length := of_decide_eq_false hk
      refine' EV.to ?d2 (show Rs.d (nD (23 * spot + 8)) = _ by unfold cellOf nD; rw [if_neg hk])
      case d2 => walk_at "ev"
  case zhk =>
    generalize cellOf ns spot = cell at *
    have hp : 0 < (10 ^ 59) ^ 11 := Nat.pow_pos (Nat.pow_pos (by decide))
    walk_at "set"
    case h =>
      have hgl : (cell.natAbs % (10 ^ 59) ^ 11).log2 + Nat.log2 6364136223846793005 < 1000000 := by
        have h1 : cell.natAbs % (10 ^ 59) ^ 11 < 2 ^ 2200 := Nat.lt_trans (Nat.mod_lt _ hp) (by decide +kernel)
        have := log2_lt' h1 (by decide)
        have : Nat.log2 6364136223846793005 = 62 := by decide +kernel
        omega
      have hsl : Nat.log2 1442695040 + spot.log2 < 1000000 := by
        have : spot.log2 < 6 := log2_lt' (show spot < 2 ^ 6 by omega) (by decide)
        have : Nat.log2 1442695040 = 30 := by decide +kernel
        omega
      have h13 : Nat.log2 13 + (if decide (cell < 0) = true then 1 else 0 : Nat).log2 < 1000000 := by
        have : (if decide (cell < 0) = true then 1 else 0 : Nat).log2 < 2 := log2_lt' (show _ < 2 ^ 2 by split <;> decide) (by decide)
        have : Nat.log2 13 = 3 := by decide +kernel
        omega
      have e0 : diceOf cell spot = ⟨cell.natAbs % (10 ^ 59) ^ 11 + 1 - 10 ^ 18, (cell.natAbs % (10 ^ 59) ^ 11 * 6364136223846793005 + 1442695040 * spot + 13 * (if decide (cell < 0) = true then 1 else 0)) % 72057594037927931, 0⟩ := rfl
      rw [e0]
      generalize cell.natAbs % (10 ^ 59) ^ 11 = great at *
      walk_at "set"
      case h =>
        generalize great * 6364136223846793005 + 1442695040 * spot + 13 * (if decide (cell < 0) = true then 1 else 0) = mixed at *
        refine' ec_retNew ?za ?zb
        case za => walk_at "evn"
        case zb =>
          refine congrArg OC.lst ?_
          have e1 : (if ((great : Int) - ((10 ^ 18 : Nat) : Int) + ((1 : Nat) : Int)) > 0 then ((great : Int) - ((10 ^ 18 : Nat) : Int) + ((1 : Nat) : Int)) else 0) = ((great + 1 - 10 ^ 18 : Nat) : Int) := by
            split <;> omega
          show [PyData.int _, _, _] = [PyData.int _, _, _]
          rw [← e1]
          rfl
end
end

end
section
local macro_rules | `(tactic| walk_at "mth") => `(tactic| (refine' ev_popAt ?a ?b ?s1 ?s2 ?j ?k ?z; (case a => walk_at "ev"); (case b => walk_at "ev"); (case s1 => exact ⟨_, _, rfl⟩); (case s2 => rfl); (case j => rfl); (case k => first | assumption | exact rfl); (case z => walk_at "side")))
local macro_rules | `(tactic| walk_at "evn") => `(tactic| (refine' ev_bty ?gl ?m ?v ?a ?k; (case gl => walk_at "gl"); (case m => walk_at "mgn"); (case v => with_reducible exact PyProof.Rows.boot_list); (case a => walk_at "ea"); (case k => exact cr_lst (‹∀ ρ, SeqR ρ (Rs.d _) _› _))))
abbrev R_shuffled : List D → List D → List D → D → Prop := fun cs ds cs' x => ∃ (α : Type) (_ : DecidableEq α) (_ : Inhabited α) (f : α → D) (Q : α → Prop) (n : Nat) (xs : List α) (d : Die), Enc f Q ∧ (∀ x, (f x).depth ≤ n) ∧ n + 1 ≤ 64 ∧ (∀ x ∈ xs, Q x) ∧ cs = d.D ∧ (∃ dd, ds = [dd] ∧ ∀ ρ, SeqR ρ (.d dd) (xs.map f)) ∧ cs' = (shuffle xs d).2.D ∧ x = .list ((shuffle xs d).1.map f) ∧ xs.length ≤ 1000 ∧ Good xs.length d
abbrev R_labels : List D → List D → List D → D → Prop := fun cs ds cs' x => ∃ (d : Die), cs = d.D ∧ ds = [] ∧ cs' = (labelsOf d).2.D ∧ x = tS (labelsOf d).1 ∧ Good 6 d
abbrev R_word : List D → List D → List D → D → Prop := fun cs ds cs' x => ∃ (d : Die) (L : List Str) (l h : Nat), cs = d.D ∧ ds = [tS L, nD l, nD h] ∧ cs' = (wordOf L l h d).2.D ∧ x = tS (wordOf L l h d).1 ∧ 0 < L.length ∧ L.length ≤ 1000 ∧ l ≤ h ∧ h ≤ 1000 ∧ Good (h + 1) d
section
variable {P : Program} {w : World} {K : PySem.W.Frag} {mg : Str → Option Value} {base : Heap}
section
theorem sc__law_shuffled : FnScope ["die", "items", "left", "found"] ["die", "items"] (defScope (topS 35)) := ⟨rfl, rfl, rfl, by decide +kernel, rfl, by decide +kernel, by decide +kernel⟩
local macro_rules | `(tactic| walk_at "nd") => `(tactic| exact sc__law_shuffled.nd)
local macro_rules | `(tactic| walk_at "blk") => `(tactic| (refine' blkOk_of (N' := ["die", "items", "left", "found"]) ?hN ?hs ?h; (case hN => rfl); (case hs => first | exact body_scope | exact blk_scope body_scope | exact blk_scope (blk_scope body_scope)); (case h => decide +kernel)))
theorem nm__law_shuffled_0 : NmAt ["die", "items", "left", "found"] 0 "die" := ⟨rfl⟩
theorem nm__law_shuffled_1 : NmAt ["die", "items", "left", "found"] 1 "items" := ⟨rfl⟩
theorem nm__law_shuffled_2 : NmAt ["die", "items", "left", "found"] 2 "left" := ⟨rfl⟩
theorem nm__law_shuffled_3 : NmAt ["die", "items", "left", "found"] 3 "found" := ⟨rfl⟩
local macro_rules | `(tactic| walk_at "nms") => `(tactic| first | with_reducible exact nm__law_shuffled_0 | with_reducible exact nm__law_shuffled_1 | with_reducible exact nm__law_shuffled_2 | with_reducible exact nm__law_shuffled_3)
theorem ok_law_shuffled {f fd} (h : Has K mg "_law_shuffled" (topS 35) ["die", "items"] f fd) (hb : NoB mg) (h1 : Ok P w K mg base 1 "_law_pull" ["die", "many"] (spB K R_pull)) : Ok P w K mg base 2 "_law_shuffled" ["die", "items"] (spB K R_shuffled) := by
  refine Ok.bor h sc__law_shuffled (fun cs ds cs' x h => by obtain ⟨_, _, _, _, _, _, _, _, _, _, _, _, _, ⟨_, e, _⟩, _⟩ := h; rw [e]; rfl) fun cdv A outer s H E hr cs ds cs' y hR => ?_
  obtain ⟨α, _, _, f, Q, n, xs, d, hE, hdp, hn, hQ, e1, ⟨dd, e2, hsq⟩, e3, e4, hl, hg⟩ := hR
  subst e1 e2 e3 e4
  walk_at "pair"
  case h =>
    refine' ec_while PassesOwn.never (fun m ρ' => ∃ left found d', left.length = m ∧ m ≤ 1000 ∧ found.length + m ≤ 1000 ∧ Good m d' ∧ (∀ x ∈ left, Q x) ∧ shufN m left found d' = shuffle xs d ∧ ρ' = [.own (some 0) (.lst d'.D), .d dd, .own none (.lst (left.map f)), .own none (.lst (found.map f))]) xs.length ?h0 ?hs
    case h0 => exact ⟨xs, [], d, rfl, hl, by simpa using hl, hg, hQ, rfl, rfl⟩
    case hs =>
      rintro m ρ' ⟨left, found, d', hm, hm2, hm3, hg', hQ', heq, rfl⟩
      refine' ⟨!left.isEmpty, _, ?wt, ?wb, ?wn⟩
      case wt =>
        refine' et_cmpX (hst := ?cst) ?ca ?cb ?ch
        case ca => walk_at "ev"
        case cb => walk_at "evd"
        case ch => exact cx_neNilO hE hQ' hdp hr.units rfl hn
        case cst => rfl
      case wn =>
        intro hk
        have hk : left = [] := by
          cases left with
          | nil => rfl
          | cons a b => cases hk
        subst hk
        subst hm
        rw [← heq]
        walk_at "ret"
        exact ⟨rfl, rfl⟩
      case wb =>
        intro hk
        cases m with
        | zero =>
          rw [List.eq_nil_of_length_eq_zero hm] at hk
          cases hk
        | succ m =>
          have hp : 0 < left.length ∧ left.length < 2 ^ 200 ∧ Good 1 d' := ⟨by omega, Nat.lt_trans (show left.length < 2 ^ 10 by omega) (by decide), hg'.mono (by omega)⟩
          have hlt := pull_lt d' hp.1
          have hk2 : (left.map f)[(pull left.length d').1]? = some (f (left.getD (pull left.length d').1 default)) := by
            rw [List.getElem?_map, List.getD_eq_getElem?_getD, List.getElem?_eq_getElem hlt]
            rfl
          walk_at "expr"
          case h =>
            refine es_nil ⟨m, Nat.lt_succ_self m, left.eraseIdx (pull left.length d').1, found ++ [left.getD (pull left.length d').1 default], (pull left.length d').2, ?_, by omega, ?_, pull_good hg', fun x hx => hQ' x (List.mem_of_mem_eraseIdx hx), heq, ?_⟩
            · rw [List.length_eraseIdx_of_lt hlt]
              omega
            · rw [List.length_append, List.length_singleton]
              omega
            · rw [List.map_append, eraseIdx_map']
              rfl
end
end

end
section
local macro_rules | `(tactic| walk_at "sx") => `(tactic| exact (‹∀ (X : Cx) (ρ : List Sl), SubX X _ _ ρ _› _ _))
local macro_rules | `(tactic| walk_at "rel") => `(tactic| first
  | (refine' ⟨_, _, ?e1, ?e2, ?e3, ?e4, ?c⟩; (case e1 => rfl); (case e2 => exact rfl); (case e3 => exact rfl); (case e4 => exact rfl); (case c => walk_at "rc"))
  | (refine' ⟨_, _, _, _, ?e1, ?e2, ?e3, ?e4, ?c⟩; (case e1 => rfl); (case e2 => exact rfl); (case e3 => exact rfl); (case e4 => exact rfl); (case c => walk_at "rc")))
abbrev R_names : List D → List D → List D → D → Prop := fun cs ds cs' x => ∃ (d : Die) (m : Nat), cs = d.D ∧ ds = [nD m] ∧ cs' = (namesOf m d).2.D ∧ x = tS (namesOf m d).1 ∧ 1 ≤ m ∧ m ≤ 1000 ∧ Good (m + 1) d
abbrev R_from : List D → D → Prop := fun ds x => ∃ (q : Qu) (s : Nat) (w : List Str), ds = [q.D, nD s, tS w] ∧ x = nD (q.run s w) ∧ q.Ok ∧ s < q.rw.length ∧ ∀ a ∈ w, a ∈ q.L
abbrev R_behind : List D → D → Prop := fun ds x => ∃ (q : Qu) (l : Str) (w : List Str), ds = [q.D, tS (l :: w)] ∧ x = nD (q.run (q.root l) w) ∧ q.Ok ∧ l ∈ q.L ∧ ∀ a ∈ w, a ∈ q.L
def Qu.col (q : Qu) (l : Str) (w : List Str) : Str := q.co.getD (q.run (q.root l) w) default
abbrev R_colour : List D → D → Prop := fun ds x => ∃ (q : Qu) (l : Str) (w : List Str), ds = [q.D, tS (l :: w)] ∧ x = .str (q.col l w) ∧ q.Ok ∧ l ∈ q.L ∧ ∀ a ∈ w, a ∈ q.L
section
variable {P : Program} {w : World} {K : PySem.W.Frag} {mg : Str → Option Value} {base : Heap}
section
theorem sc__law_labels : FnScope ["die", "pools", "pool"] ["die"] (defScope (topS 36)) := ⟨rfl, rfl, rfl, by decide +kernel, rfl, by decide +kernel, by decide +kernel⟩
local macro_rules | `(tactic| walk_at "nd") => `(tactic| exact sc__law_labels.nd)
local macro_rules | `(tactic| walk_at "blk") => `(tactic| (refine' blkOk_of (N' := ["die", "pools", "pool"]) ?hN ?hs ?h; (case hN => rfl); (case hs => first | exact body_scope | exact blk_scope body_scope | exact blk_scope (blk_scope body_scope)); (case h => decide +kernel)))
theorem nm__law_labels_0 : NmAt ["die", "pools", "pool"] 0 "die" := ⟨rfl⟩
theorem nm__law_labels_1 : NmAt ["die", "pools", "pool"] 1 "pools" := ⟨rfl⟩
theorem nm__law_labels_2 : NmAt ["die", "pools", "pool"] 2 "pool" := ⟨rfl⟩
local macro_rules | `(tactic| walk_at "nms") => `(tactic| first | with_reducible exact nm__law_labels_0 | with_reducible exact nm__law_labels_1 | with_reducible exact nm__law_labels_2)
theorem ok_law_labels {f fd} (h : Has K mg "_law_labels" (topS 36) ["die"] f fd) (hb : NoB mg) (h1 : Ok P w K mg base 1 "_law_pull" ["die", "many"] (spB K R_pull)) (h2 : Ok P w K mg base 2 "_law_shuffled" ["die", "items"] (spB K R_shuffled)) : Ok P w K mg base 3 "_law_labels" ["die"] (spB K R_labels) := by
  refine Ok.bor h sc__law_labels (fun cs ds cs' x ⟨_, _, e, _⟩ => by rw [e]; rfl) fun cdv A outer s H E hr cs ds cs' y ⟨d, e1, e2, e3, e4, hg⟩ => ?_
  subst e1 e2 e3 e4
  have h0 := pools_ok _ (getD_mem (xs := pools) (pull_lt (m := 5) d (by decide)))
  have hp1 : 0 < 5 ∧ 5 < 2 ^ 200 ∧ Good 1 d := ⟨by decide, by decide, hg.mono (by omega)⟩
  have g1 : Good 5 (pull 5 d).2 := pull_good hg
  have hlt := pull_lt (m := 5) d (by decide)
  walk_at "setN"
  case h =>
    walk_at "setN"
    case h =>
      refine ES.own (i := 1) (ds' := pools.map tS) rfl rfl ?_
      have hpl : (pull 5 d).1 < pools.length := hlt
      walk_at "set"
      case h =>
        have hsh : R_shuffled (pull 5 d).2.D [tS (pools.getD (pull 5 d).1 default)] (shuffle (pools.getD (pull 5 d).1 default) (pull 5 d).2).2.D (.list ((shuffle (pools.getD (pull 5 d).1 default) (pull 5 d).2).1.map PyData.str)) :=
          ⟨Str, inferInstance, inferInstance, PyData.str, SOk, 1, _, _, enc_str, dp_str, by decide, fun x hx => (h0.2.2 x hx).sok, rfl, ⟨_, rfl, fun _ => sq_tup⟩, rfl, rfl, by omega, g1.mono (by omega)⟩
        have g2 : Good 1 (shuffle (pools.getD (pull 5 d).1 default) (pull 5 d).2).2 := shuffle_costs (pools.getD (pull 5 d).1 default) 1 _ (g1.mono (by omega))
        have hperm := shuffle_perm (pools.getD (pull 5 d).1 default) (pull 5 d).2
        have e0 : labelsOf d = (sortS ((shuffle (pools.getD (pull 5 d).1 default) (pull 5 d).2).1.take (sizes7.getD (pull 7 (shuffle (pools.getD (pull 5 d).1 default) (pull 5 d).2).2).1 default)), (pull 7 (shuffle (pools.getD (pull 5 d).1 default) (pull 5 d).2).2).2) := rfl
        rw [e0]
        generalize shuffle (pools.getD (pull 5 d).1 default) (pull 5 d).2 = s at *
        have hp2 : 0 < 7 ∧ 7 < 2 ^ 200 ∧ Good 1 s.2 := ⟨by decide, by decide, g2⟩
        have hlt7 : (pull 7 s.2).1 < sizes7.length := pull_lt s.2 (by decide)
        have hsrt := sortS_unique (xs := s.1.take (sizes7.getD (pull 7 s.2).1 default)) ((List.take_sublist _ _).nodup (hperm.nodup_iff.mpr h0.2.1))
        have hlen : (s.1.take (sizes7.getD (pull 7 s.2).1 default)).length < 64 := by
          rw [List.length_take, hperm.length_eq]
          omega
        have hsx : ∀ (X : Cx) (ρ : List Sl), SubX X (.d (.list [nD 1, nD 2, nD 2, nD 2, nD 3, nD 3, nD 4])) (.d (nD (pull 7 s.2).1)) ρ (.d (nD (sizes7.getD (pull 7 s.2).1 default))) := fun X ρ => sx_map (f := nD) (xs := sizes7) (sq_listE rfl) hlt7
        walk_at "ret"
        exact ⟨rfl, rfl⟩
end
section
theorem sc__law_word : FnScope ["die", "labels", "least", "high", "found", "turn"] ["die", "labels", "least", "high"] (defScope (topS 37)) := ⟨rfl, rfl, rfl, by decide +kernel, rfl, by decide +kernel, by decide +kernel⟩
local macro_rules | `(tactic| walk_at "nd") => `(tactic| exact sc__law_word.nd)
local macro_rules | `(tactic| walk_at "blk") => `(tactic| (refine' blkOk_of (N' := ["die", "labels", "least", "high", "found", "turn"]) ?hN ?hs ?h; (case hN => rfl); (case hs => first | exact body_scope | exact blk_scope body_scope | exact blk_scope (blk_scope body_scope)); (case h => decide +kernel)))
theorem nm__law_word_0 : NmAt ["die", "labels", "least", "high", "found", "turn"] 0 "die" := ⟨rfl⟩
theorem nm__law_word_1 : NmAt ["die", "labels", "least", "high", "found", "turn"] 1 "labels" := ⟨rfl⟩
theorem nm__law_word_2 : NmAt ["die", "labels", "least", "high", "found", "turn"] 2 "least" := ⟨rfl⟩
theorem nm__law_word_3 : NmAt ["die", "labels", "least", "high", "found", "turn"] 3 "high" := ⟨rfl⟩
theorem nm__law_word_4 : NmAt ["die", "labels", "least", "high", "found", "turn"] 4 "found" := ⟨rfl⟩
theorem nm__law_word_5 : NmAt ["die", "labels", "least", "high", "found", "turn"] 5 "turn" := ⟨rfl⟩
local macro_rules | `(tactic| walk_at "nms") => `(tactic| first | with_reducible exact nm__law_word_0 | with_reducible exact nm__law_word_1 | with_reducible exact nm__law_word_2 | with_reducible exact nm__law_word_3 | with_reducible exact nm__law_word_4 | with_reducible exact nm__law_word_5)
theorem ok_law_word {f fd} (h : Has K mg "_law_word" (topS 37) ["die", "labels", "least", "high"] f fd) (hb : NoB mg) (h1 : Ok P w K mg base 1 "_law_pull" ["die", "many"] (spB K R_pull)) : Ok P w K mg base 2 "_law_word" ["die", "labels", "least", "high"] (spB K R_word) := by
  refine Ok.bor h sc__law_word (fun cs ds cs' x ⟨_, _, _, _, _, e, _⟩ => by rw [e]; rfl) fun cdv A outer s H E hr cs ds cs' y ⟨d, L, lo, hi, e1, e2, e3, e4, hL, hL2, hlh, hh, hg⟩ => ?_
  subst e1 e2 e3 e4
  have hp1 : 0 < hi - lo + 1 ∧ hi - lo + 1 < 2 ^ 200 ∧ Good 1 d := ⟨by omega, Nat.lt_trans (show hi - lo + 1 < 2 ^ 11 by omega) (by decide), hg.mono (by omega)⟩
  have hlt := pull_lt (m := hi - lo + 1) d (by omega)
  have g1 : Good hi (pull (hi - lo + 1) d).2 := pull_good hg
  have e0 : wordOf L lo hi d = mapS (fun _ d => pick L d) (List.range (lo + (pull (hi - lo + 1) d).1)) (pull (hi - lo + 1) d).2 := rfl
  rw [e0]
  walk_at "setN"
  case h =>
    refine' ec_forM ?fi PassesOwn.never rfl (fun i ρ' => ∃ sl, ρ' = [.own (some 0) (.lst (mapS (fun _ d => pick L d) ((List.range (lo + (pull (hi - lo + 1) d).1)).take i) (pull (hi - lo + 1) d).2).2.D), .d (tS L), .d (nD lo), .d (nD hi), .own none (.lst ((mapS (fun _ d => pick L d) ((List.range (lo + (pull (hi - lo + 1) d).1)).take i) (pull (hi - lo + 1) d).2).1.map PyData.str)), sl]) ?f0 ?fs ?fd (fun _ => rfl)
    case fi =>
      have hs1 : lo + (pull (hi - lo + 1) d).1 < 2 ^ 62 := Nat.lt_trans (show lo + (pull (hi - lo + 1) d).1 < 2 ^ 11 by omega) (by decide)
      walk_at "ei"
    case f0 => exact ⟨.no, rfl⟩
    case fs =>
      rintro i x ρ' hx ⟨sl, rfl⟩
      have hi2 : i < lo + (pull (hi - lo + 1) d).1 := by
        have := (List.getElem?_eq_some_iff.mp hx).1
        rwa [List.length_range] at this
      have g2 : Good (hi - i) (mapS (fun _ d => pick L d) ((List.range (lo + (pull (hi - lo + 1) d).1)).take i) (pull (hi - lo + 1) d).2).2 := mapS_costs (n := 1) _ (fun _ _ => pick_costs L) (hi - i) (pull (hi - lo + 1) d).2 (g1.mono (by rw [List.length_take, List.length_range]; omega))
      have hlen : (mapS (fun _ d => pick L d) ((List.range (lo + (pull (hi - lo + 1) d).1)).take i) (pull (hi - lo + 1) d).2).1.length = i := by
        rw [mapS_length, List.length_take, List.length_range]
        omega
      rw [mapS_succ _ hx]
      generalize mapS (fun _ d => pick L d) ((List.range (lo + (pull (hi - lo + 1) d).1)).take i) (pull (hi - lo + 1) d).2 = m at *
      have hp2 : 0 < L.length ∧ L.length < 2 ^ 200 ∧ Good 1 m.2 := ⟨hL, Nat.lt_trans (show L.length < 2 ^ 11 by omega) (by decide), g2.mono (by omega)⟩
      have hpl := pull_lt (m := L.length) m.2 hL
      have hl3 : m.1.length < sizeLine := by rw [hlen]; unfold sizeLine; omega
      refine' ⟨_, _, ?feg, ?fes⟩
      case feg => walk_at "eg"
      case fes =>
        walk_at "expr"
        case h =>
          refine es_nil ⟨.d (nD x), ?_⟩
          rw [List.map_append]
          rfl
    case fd =>
      rintro ρ' ⟨sl, rfl⟩
      rw [List.take_length]
      walk_at "ret"
      exact ⟨rfl, rfl⟩
end
section
theorem sc__law_from : FnScope ["query", "state", "word", "label"] ["query", "state", "word"] (defScope (topS 38)) := ⟨rfl, rfl, rfl, by decide +kernel, rfl, by decide +kernel, by decide +kernel⟩
local macro_rules | `(tactic| walk_at "nd") => `(tactic| exact sc__law_from.nd)
local macro_rules | `(tactic| walk_at "blk") => `(tactic| (refine' blkOk_of (N' := ["query", "state", "word", "label"]) ?hN ?hs ?h; (case hN => rfl); (case hs => first | exact body_scope | exact blk_scope body_scope | exact blk_scope (blk_scope body_scope)); (case h => decide +kernel)))
theorem nm__law_from_0 : NmAt ["query", "state", "word", "label"] 0 "query" := ⟨rfl⟩
theorem nm__law_from_1 : NmAt ["query", "state", "word", "label"] 1 "state" := ⟨rfl⟩
theorem nm__law_from_2 : NmAt ["query", "state", "word", "label"] 2 "word" := ⟨rfl⟩
theorem nm__law_from_3 : NmAt ["query", "state", "word", "label"] 3 "label" := ⟨rfl⟩
local macro_rules | `(tactic| walk_at "nms") => `(tactic| first | with_reducible exact nm__law_from_0 | with_reducible exact nm__law_from_1 | with_reducible exact nm__law_from_2 | with_reducible exact nm__law_from_3)
theorem ok_law_from {f fd} (h : Has K mg "_law_from" (topS 38) ["query", "state", "word"] f fd) : Ok P w K mg base 1 "_law_from" ["query", "state", "word"] (spD K R_from) := by
  refine Ok.data h sc__law_from (fun ds x ⟨_, _, _, e, _⟩ => by rw [e]; rfl) fun cdv A outer s H E hr ds y ⟨q, st, v, e1, e2, ok, hst, hv⟩ => ?_
  subst e1 e2
  refine' ec_forM ?fi PassesOwn.never rfl (fun i ρ' => ∃ sl, ρ' = [.d q.D, .d (nD (q.run st (v.take i))), .d (tS v), sl]) ?f0 ?fs ?fd (fun _ => rfl)
  case fi => walk_at "ei"
  case f0 => exact ⟨.no, rfl⟩
  case fs =>
    rintro i x ρ' hx ⟨sl, rfl⟩
    refine' ⟨_, _, ?feg, ?fes⟩
    case feg => walk_at "eg"
    case fes =>
      have hxm := hv x (mem_of_get hx)
      have b1 : q.run st (v.take i) < q.rw.length := ok.run_lt hst fun a ha => hv a (List.mem_of_mem_take ha)
      have b2 : q.L.idxOf x < (q.rw.getD (q.run st (v.take i)) default).length := by rw [(ok.row b1).1]; exact idx_lt hxm
      walk_at "set"
      case h =>
        refine es_nil ⟨.d (.str x), ?_⟩
        rw [q.run_succ (show v[i]? = some x from hx)]
        rfl
  case fd =>
    rintro ρ' ⟨sl, rfl⟩
    rw [List.take_length]
    walk_at "ret"
    rfl
end
section
theorem sc__law_behind : FnScope ["query", "path"] ["query", "path"] (defScope (topS 39)) := ⟨rfl, rfl, rfl, by decide +kernel, rfl, by decide +kernel, by decide +kernel⟩
local macro_rules | `(tactic| walk_at "nd") => `(tactic| exact sc__law_behind.nd)
local macro_rules | `(tactic| walk_at "blk") => `(tactic| (refine' blkOk_of (N' := ["query", "path"]) ?hN ?hs ?h; (case hN => rfl); (case hs => first | exact body_scope | exact blk_scope body_scope | exact blk_scope (blk_scope body_scope)); (case h => decide +kernel)))
theorem nm__law_behind_0 : NmAt ["query", "path"] 0 "query" := ⟨rfl⟩
theorem nm__law_behind_1 : NmAt ["query", "path"] 1 "path" := ⟨rfl⟩
local macro_rules | `(tactic| walk_at "nms") => `(tactic| first | with_reducible exact nm__law_behind_0 | with_reducible exact nm__law_behind_1)
theorem ok_law_behind {f fd} (h : Has K mg "_law_behind" (topS 39) ["query", "path"] f fd) (h1 : Ok P w K mg base 1 "_law_from" ["query", "state", "word"] (spD K R_from)) : Ok P w K mg base 2 "_law_behind" ["query", "path"] (spD K R_behind) := by
  refine Ok.data h sc__law_behind (fun ds x ⟨_, _, _, e, _⟩ => by rw [e]; rfl) fun cdv A outer s H E hr ds y ⟨q, l, v, e1, e2, ok, hl, hv⟩ => ?_
  subst e1 e2
  have hx : q.L.idxOf l < q.ro.length := by rw [ok.ro.1]; exact idx_lt hl
  have hR : R_from [q.D, nD (q.root l), tS v] (nD (q.run (q.root l) v)) := ⟨q, _, v, rfl, rfl, ok, ok.root_lt hl, hv⟩
  walk_at "ret"
  rfl
end
section
theorem sc__law_colour : FnScope ["query", "path"] ["query", "path"] (defScope (topS 53)) := ⟨rfl, rfl, rfl, by decide +kernel, rfl, by decide +kernel, by decide +kernel⟩
local macro_rules | `(tactic| walk_at "nd") => `(tactic| exact sc__law_colour.nd)
local macro_rules | `(tactic| walk_at "blk") => `(tactic| (refine' blkOk_of (N' := ["query", "path"]) ?hN ?hs ?h; (case hN => rfl); (case hs => first | exact body_scope | exact blk_scope body_scope | exact blk_scope (blk_scope body_scope)); (case h => decide +kernel)))
theorem nm__law_colour_0 : NmAt ["query", "path"] 0 "query" := ⟨rfl⟩
theorem nm__law_colour_1 : NmAt ["query", "path"] 1 "path" := ⟨rfl⟩
local macro_rules | `(tactic| walk_at "nms") => `(tactic| first | with_reducible exact nm__law_colour_0 | with_reducible exact nm__law_colour_1)
theorem ok_law_colour {f fd} (h : Has K mg "_law_colour" (topS 53) ["query", "path"] f fd) (h1 : Ok P w K mg base 2 "_law_behind" ["query", "path"] (spD K R_behind)) : Ok P w K mg base 3 "_law_colour" ["query", "path"] (spD K R_colour) := by
  refine Ok.data h sc__law_colour (fun ds x ⟨_, _, _, e, _⟩ => by rw [e]; rfl) fun cdv A outer s H E hr ds y ⟨q, l, v, e1, e2, ok, hl, hv⟩ => ?_
  subst e1 e2
  have hR : R_behind [q.D, tS (l :: v)] (nD (q.run (q.root l) v)) := ⟨q, l, v, rfl, rfl, ok, hl, hv⟩
  have hx : q.run (q.root l) v < q.co.length := by rw [ok.cn]; exact ok.run_lt (ok.root_lt hl) hv
  walk_at "ret"
  rfl
end
end

end
section
section
variable {P : Program} {w : World} {K : PySem.W.Frag} {mg : Str → Option Value} {base : Heap}
section
theorem sc__law_names : FnScope ["die", "many", "pool", "found", "state"] ["die", "many"] (defScope (topS 42)) := ⟨rfl, rfl, rfl, by decide +kernel, rfl, by decide +kernel, by decide +kernel⟩
local macro_rules | `(tactic| walk_at "nd") => `(tactic| exact sc__law_names.nd)
local macro_rules | `(tactic| walk_at "blk") => `(tactic| (refine' blkOk_of (N' := ["die", "many", "pool", "found", "state"]) ?hN ?hs ?h; (case hN => rfl); (case hs => first | exact body_scope | exact blk_scope body_scope | exact blk_scope (blk_scope body_scope)); (case h => decide +kernel)))
theorem nm__law_names_0 : NmAt ["die", "many", "pool", "found", "state"] 0 "die" := ⟨rfl⟩
theorem nm__law_names_1 : NmAt ["die", "many", "pool", "found", "state"] 1 "many" := ⟨rfl⟩
theorem nm__law_names_2 : NmAt ["die", "many", "pool", "found", "state"] 2 "pool" := ⟨rfl⟩
theorem nm__law_names_3 : NmAt ["die", "many", "pool", "found", "state"] 3 "found" := ⟨rfl⟩
theorem nm__law_names_4 : NmAt ["die", "many", "pool", "found", "state"] 4 "state" := ⟨rfl⟩
local macro_rules | `(tactic| walk_at "nms") => `(tactic| first | with_reducible exact nm__law_names_0 | with_reducible exact nm__law_names_1 | with_reducible exact nm__law_names_2 | with_reducible exact nm__law_names_3 | with_reducible exact nm__law_names_4)
local macro_rules | `(tactic| walk_at "lc") => `(tactic| first | (refine' ev_lc (own := [("state", 4)]) rfl (by walk_at "nd") ?ok ?h; (case ok => walk_at "blk"); (case h => walk_at "lcm")))
local macro_rules | `(tactic| walk_at "setC") => `(tactic| first | (refine' ec_setCD (own := [("state", 4)]) ?n ?e ?nd rfl rfl rfl ?ok ?lc ?s ?h ?hi; (case n => walk_at "nms"); (case e => rfl); (case nd => walk_at "nd"); (case ok => walk_at "blk"); (case s => intro _; rfl); (case lc => walk_at "lcm"); (case hi => exact Nat.le_of_ble_eq_true rfl)))
local macro_rules | `(tactic| walk_at "setCN") => `(tactic| first | (refine' ec_setC (own := [("state", 4)]) ?n ?e ?nd rfl rfl rfl ?ok ?lc ?s ?h; (case n => walk_at "nms"); (case e => rfl); (case nd => walk_at "nd"); (case ok => walk_at "blk"); (case s => intro _; rfl); (case lc => walk_at "lcm")))
theorem ok_law_names {f fd} (h : Has K mg "_law_names" (topS 42) ["die", "many"] f fd) (hb : NoB mg) (h1 : Ok P w K mg base 1 "_law_pull" ["die", "many"] (spB K R_pull)) : Ok P w K mg base 2 "_law_names" ["die", "many"] (spB K R_names) := by
  refine Ok.bor h sc__law_names (fun cs ds cs' x ⟨_, _, _, e, _⟩ => by rw [e]; rfl) fun cdv A outer s H E hr cs ds cs' y ⟨d, m, e1, e2, e3, e4, hm, hm2, hg⟩ => ?_
  subst e1 e2 e3 e4
  have h0 := pools4_ok _ (getD_mem (xs := pools4) (pull_lt (m := 4) d (by decide)))
  have hp1 : 0 < 4 ∧ 4 < 2 ^ 200 ∧ Good 1 d := ⟨by decide, by decide, hg.mono (by omega)⟩
  have g1 : Good m (pull 4 d).2 := pull_good hg
  have hlt := pull_lt (m := 4) d (by decide)
  have hsx : ∀ (X : Cx) (ρ : List Sl), SubX X (.d (.list [lS ["no", "yes"], lS ["no", "yes", "maybe"], lS ["red", "redder", "blue"], lS ["a", "yes"]])) (.d (nD (pull 4 d).1)) ρ (.d (lS (pools4.getD (pull 4 d).1 default))) := fun X ρ => sx_map (f := lS) (xs := pools4) (sq_listE rfl) hlt
  have e0 : namesOf m d = ((mapS (fun (_ : Nat) d' => pick (pools4.getD (pull 4 d).1 default) d') (List.range m) (pull 4 d).2).1.dropLast ++ [(pools4.getD (pull 4 d).1 default).getD (((pools4.getD (pull 4 d).1 default).idxOf ((mapS (fun (_ : Nat) d' => pick (pools4.getD (pull 4 d).1 default) d') (List.range m) (pull 4 d).2).1.getD 0 default) + 1) % (pools4.getD (pull 4 d).1 default).length) default], (mapS (fun (_ : Nat) d' => pick (pools4.getD (pull 4 d).1 default) d') (List.range m) (pull 4 d).2).2) := rfl
  rw [e0]
  walk_at "set"
  case h =>
    clear hsx
    generalize pools4.getD (pull 4 d).1 default = pool at *
    generalize (pull 4 d).2 = d1 at *
    have hs1 : m < 2 ^ 62 := Nat.lt_trans (show m < 2 ^ 11 by omega) (by decide)
    have hl1 : (List.range m).length < sizeLine := by rw [List.length_range]; unfold sizeLine; omega
    have hh : LcHint (fun (_ : Nat) d' => pick pool d') PyData.str (fun d => [Sl.own (some 0) (.lst d.D), .d (nD m), .d (lS pool), .no, .no]) d1 (List.range m) (fun _ s => (0 < pool.length ∧ pool.length < 2 ^ 200 ∧ Good 1 s) ∧ (pull pool.length s).1 < pool.length) := fun i x hx => ⟨⟨by omega, Nat.lt_trans (show pool.length < 2 ^ 4 by omega) (by decide), (mapS_take_costs (n := 1) (k := 0) (fun _ _ => pick_costs pool) (by rw [List.length_range]; exact g1.mono (by omega)) i (List.getElem?_eq_some_iff.mp hx).1).mono (by omega)⟩, pull_lt _ (by omega)⟩
    have hm' : ∀ y ∈ (mapS (fun (_ : Nat) d' => pick pool d') (List.range m) d1).1, y ∈ pool := mapS_all _ _ fun _ _ s => pick_mem (by omega) s
    have hl : (mapS (fun (_ : Nat) d' => pick pool d') (List.range m) d1).1.length = m := by rw [mapS_length, List.length_range]
    walk_at "setC"
    case h =>
      clear hh
      have hP : ∀ x ∈ pool, SOk x := fun x hx => (h0.2.2 x hx).sok
      generalize mapS (fun (_ : Nat) d' => pick pool d') (List.range m) d1 = mm at *
      have h0l : 0 < mm.1.length := by omega
      have h0m : mm.1.getD 0 default ∈ pool := hm' _ (getD_mem h0l)
      have hpl : 0 < pool.length := by omega
      have hml := Nat.mod_lt (pool.idxOf (mm.1.getD 0 default) + 1) hpl
      have hcut : cutD (mm.1.map PyData.str) none (some (-((1 : Nat) : Int))) = mm.1.dropLast.map PyData.str := (cutD_neg1 _ (by rw [List.length_map]; omega)).trans List.map_dropLast.symm
      have hcl : (cutD (mm.1.map PyData.str) none (some (-((1 : Nat) : Int)))).length + 1 ≤ sizeLine := by
        rw [hcut, List.length_map, List.length_dropLast]
        unfold sizeLine
        omega
      walk_at "ret"
      refine ⟨?_, rfl⟩
      rw [hcut]
      show PyData.tuple _ = PyData.tuple _
      rw [List.map_append]
      rfl
end
end

end
section
abbrev R_kinds : List D → D → Prop := fun ds x => ∃ (q : Qu), ds = [q.D] ∧ x = lN (kindsL q) ∧ q.Ok
abbrev R_law_least : List D → D → Prop := fun ds x => ∃ (q : Qu), ds = [q.D] ∧ x = (leastL q).D ∧ q.Ok
theorem pinD_map (a : Nat) (xs : List Nat) (g : Nat → Nat) : pinD (a, xs.map g) = .tuple [nD a, .tuple (xs.map fun x => nD (g x))] := by
  show PyData.tuple [nD a, tN _] = _
  rw [tN, List.map_map]
  rfl
section
variable {P : Program} {w : World} {K : PySem.W.Frag} {mg : Str → Option Value} {base : Heap}
section
theorem sc__law_kinds : FnScope ["query", "kinds", "turn", "pins", "state", "row", "colour", "mark", "later"] ["query"] (defScope (topS 40)) := ⟨rfl, rfl, rfl, by decide +kernel, rfl, by decide +kernel, by decide +kernel⟩
local macro_rules | `(tactic| walk_at "nd") => `(tactic| exact sc__law_kinds.nd)
local macro_rules | `(tactic| walk_at "blk") => `(tactic| (refine' blkOk_of (N' := ["query", "kinds", "turn", "pins", "state", "row", "colour", "mark", "later"]) ?hN ?hs ?h; (case hN => rfl); (case hs => first | exact body_scope | exact blk_scope body_scope | exact blk_scope (blk_scope body_scope)); (case h => decide +kernel)))
theorem nm__law_kinds_0 : NmAt ["query", "kinds", "turn", "pins", "state", "row", "colour", "mark", "later"] 0 "query" := ⟨rfl⟩
theorem nm__law_kinds_1 : NmAt ["query", "kinds", "turn", "pins", "state", "row", "colour", "mark", "later"] 1 "kinds" := ⟨rfl⟩
theorem nm__law_kinds_2 : NmAt ["query", "kinds", "turn", "pins", "state", "row", "colour", "mark", "later"] 2 "turn" := ⟨rfl⟩
theorem nm__law_kinds_3 : NmAt ["query", "kinds", "turn", "pins", "state", "row", "colour", "mark", "later"] 3 "pins" := ⟨rfl⟩
theorem nm__law_kinds_4 : NmAt ["query", "kinds", "turn", "pins", "state", "row", "colour", "mark", "later"] 4 "state" := ⟨rfl⟩
theorem nm__law_kinds_5 : NmAt ["query", "kinds", "turn", "pins", "state", "row", "colour", "mark", "later"] 5 "row" := ⟨rfl⟩
theorem nm__law_kinds_6 : NmAt ["query", "kinds", "turn", "pins", "state", "row", "colour", "mark", "later"] 6 "colour" := ⟨rfl⟩
theorem nm__law_kinds_7 : NmAt ["query", "kinds", "turn", "pins", "state", "row", "colour", "mark", "later"] 7 "mark" := ⟨rfl⟩
theorem nm__law_kinds_8 : NmAt ["query", "kinds", "turn", "pins", "state", "row", "colour", "mark", "later"] 8 "later" := ⟨rfl⟩
local macro_rules | `(tactic| walk_at "nms") => `(tactic| first | with_reducible exact nm__law_kinds_0 | with_reducible exact nm__law_kinds_1 | with_reducible exact nm__law_kinds_2 | with_reducible exact nm__law_kinds_3 | with_reducible exact nm__law_kinds_4 | with_reducible exact nm__law_kinds_5 | with_reducible exact nm__law_kinds_6 | with_reducible exact nm__law_kinds_7 | with_reducible exact nm__law_kinds_8)
local macro_rules | `(tactic| walk_at "lc") => `(tactic| first | (refine' ev_lc (own := [("colour", 6)]) rfl (by walk_at "nd") ?ok ?h; (case ok => walk_at "blk"); (case h => walk_at "lcm")) | (refine' ev_lc (own := [("mark", 7)]) rfl (by walk_at "nd") ?ok ?h; (case ok => walk_at "blk"); (case h => walk_at "lcm")) | (refine' ev_lc (own := [("later", 8)]) rfl (by walk_at "nd") ?ok ?h; (case ok => walk_at "blk"); (case h => walk_at "lcm")))
local macro_rules | `(tactic| walk_at "setC") => `(tactic| first | (refine' ec_setCD (own := [("colour", 6)]) ?n ?e ?nd rfl rfl rfl ?ok ?lc ?s ?h ?hi; (case n => walk_at "nms"); (case e => rfl); (case nd => walk_at "nd"); (case ok => walk_at "blk"); (case s => intro _; rfl); (case lc => walk_at "lcm"); (case hi => exact Nat.le_of_ble_eq_true rfl)) | (refine' ec_setCD (own := [("mark", 7)]) ?n ?e ?nd rfl rfl rfl ?ok ?lc ?s ?h ?hi; (case n => walk_at "nms"); (case e => rfl); (case nd => walk_at "nd"); (case ok => walk_at "blk"); (case s => intro _; rfl); (case lc => walk_at "lcm"); (case hi => exact Nat.le_of_ble_eq_true rfl)) | (refine' ec_setCD (own := [("later", 8)]) ?n ?e ?nd rfl rfl rfl ?ok ?lc ?s ?h ?hi; (case n => walk_at "nms"); (case e => rfl); (case nd => walk_at "nd"); (case ok => walk_at "blk"); (case s => intro _; rfl); (case lc => walk_at "lcm"); (case hi => exact Nat.le_of_ble_eq_true rfl)))
local macro_rules | `(tactic| walk_at "setCN") => `(tactic| first | (refine' ec_setC (own := [("colour", 6)]) ?n ?e ?nd rfl rfl rfl ?ok ?lc ?s ?h; (case n => walk_at "nms"); (case e => rfl); (case nd => walk_at "nd"); (case ok => walk_at "blk"); (case s => intro _; rfl); (case lc => walk_at "lcm")) | (refine' ec_setC (own := [("mark", 7)]) ?n ?e ?nd rfl rfl rfl ?ok ?lc ?s ?h; (case n => walk_at "nms"); (case e => rfl); (case nd => walk_at "nd"); (case ok => walk_at "blk"); (case s => intro _; rfl); (case lc => walk_at "lcm")) | (refine' ec_setC (own := [("later", 8)]) ?n ?e ?nd rfl rfl rfl ?ok ?lc ?s ?h; (case n => walk_at "nms"); (case e => rfl); (case nd => walk_at "nd"); (case ok => walk_at "blk"); (case s => intro _; rfl); (case lc => walk_at "lcm")))
local macro_rules | `(tactic| walk_at "mth") => `(tactic| (refine' ev_lindexM (f := pinD) (n := 3) (hst := ?st) (enc_nat.pair enc_nat.tup) ?hP ?dp ?hu ?a ?b ?s1 ?s2 ?h; (case hu => exact Room.units1 ‹Room _ _›); (case a => walk_at "ev"); (case st => rfl); (case b => walk_at "ev"); (case s1 => walk_at "own?"); (case s2 => walk_at "own?"); (case hP => exact fun _ _ => ⟨trivial, fun _ _ => trivial⟩); (case dp => exact dp_pair (n := 2) (fun n => Nat.le_succ_of_le (dp_nat n)) (dp_tup dp_nat)); (case h => walk_at "ixs")))
theorem ok_law_kinds {f fd} (h : Has K mg "_law_kinds" (topS 40) ["query"] f fd) (hb : NoB mg) : Ok P w K mg base 1 "_law_kinds" ["query"] (spD K R_kinds) := by
  refine Ok.data h sc__law_kinds (fun ds x ⟨_, e, _⟩ => by rw [e]; rfl) fun cdv A outer s H E hr ds y ⟨q, e1, e2, ok⟩ => ?_
  subst e1 e2
  have hmem : ∀ c ∈ q.co, c ∈ q.co := fun c hc => hc
  have hP : ∀ c ∈ q.co, SOk c := fun c hc => (ok.co c hc).sok
  have hz : q.rw.length ≤ 40 := ok.n2
  have hzc : q.co.length ≤ 40 := by rw [ok.cn]; exact hz
  have hl1 : q.co.length < sizeLine := by unfold sizeLine; omega
  have hl2 : q.co.length < 2 ^ 62 := Nat.lt_trans (show q.co.length < 2 ^ 6 by omega) (by decide)
  walk_at "sets"
  case h =>
    have hk0 := kinds0_ok ok
    refine' ec_forM ?fi PassesOwn.never rfl (fun i ρ' => ∃ s1 s2 s3 s4, ρ' = [.d q.D, .d (lN (iterK q.rw (kinds0 q) i)), s1, s2, s3, s4, .no, .no, .no]) ?f0 ?fs ?fd (fun _ => rfl)
    case fi =>
      have hlm : (q.co.map fun x => nD (q.co.idxOf x)).length < 2 ^ 62 := by rw [List.length_map]; exact hl2
      walk_at "ei"
    case f0 => exact ⟨.no, .no, .no, .no, by unfold iterK kinds0 lN; rw [List.map_map]; rfl⟩
    case fs =>
      rintro i x ρ' hx ⟨s1, s2, s3, s4, rfl⟩
      have hkl := iterK_len (rows := q.rw) hk0.1 i
      have hkt := iterK_lt (rows := q.rw) hk0.2 i
      show ∃ ρ2 js, _ ∧ ES _ _ ρ2 _
      have hnext : iterK q.rw (kinds0 q) (i + 1) = kstep q.rw (iterK q.rw (kinds0 q) i) := rfl
      rw [hnext]
      generalize iterK q.rw (kinds0 q) i = ks at *
      refine' ⟨_, _, ?feg, ?fes⟩
      case feg => walk_at "eg"
      case fes =>
        walk_at "setN"
        case h =>
          refine' ec_forM ?gi PassesOwn.never rfl (fun i ρ' => ∃ s3 s4, ρ' = [.d q.D, .d (lN ks), .d (nD x), .own none (.lst (((pinsOf q.rw ks).take i).map pinD)), s3, s4, .no, .no, .no]) ?g0 ?gs ?gd (fun _ => rfl)
          case gi => walk_at "ei"
          case g0 => exact ⟨_, _, rfl⟩
          case gs =>
            rintro j z ρ' hz ⟨s3, s4, rfl⟩
            have hz2 : q.rw[z.2]? = some z.1 := zipIdx_get_mem (mem_of_get hz)
            have hzi : z.2 < ks.length := by
              rw [hkl]
              exact (List.getElem?_eq_some_iff.mp hz2).1
            have hrow := ok.rw z.1 (List.mem_of_getElem? hz2)
            have hrl : ∀ l ∈ z.1, l < ks.length := fun l hl => by
              rw [hkl]
              exact hrow.2 l hl
            have hll : z.1.length < sizeLine := by
              rw [hrow.1]
              have := ok.labs.2.1
              unfold sizeLine
              omega
            have htk : (pinsOf q.rw ks).take (j + 1) = (pinsOf q.rw ks).take j ++ [(ks.getD z.2 default, z.1.map fun l => ks.getD l default)] := by
              have : (pinsOf q.rw ks)[j]? = some (ks.getD z.2 default, z.1.map fun l => ks.getD l default) := by
                unfold pinsOf
                rw [List.getElem?_map, hz]
                rfl
              rw [List.take_add_one, this]
              rfl
            have hpl : ((pinsOf q.rw ks).take j).length < sizeLine := by
              rw [List.length_take, pinsOf_len]
              unfold sizeLine
              omega
            refine' ⟨_, _, ?geg, ?ges⟩
            case geg => walk_at "eg"
            case ges =>
              walk_at "expr"
              case h =>
                refine es_nil ⟨.d (nD z.2), .d (tN z.1), ?_⟩
                rw [htk, List.map_append, List.map_cons, List.map_nil, pinD_map]
                rfl
          case gd =>
            rintro ρ' ⟨s3, s4, rfl⟩
            rw [List.take_of_length_le (by rw [pinsOf_len, List.length_zipIdx]; exact Nat.le_refl _)]
            refine es_fz (i := 3) rfl ?_
            have hmm : ∀ m ∈ pinsOf q.rw ks, m ∈ pinsOf q.rw ks := fun m hm => hm
            have hml : (pinsOf q.rw ks).length < sizeLine := by
              rw [pinsOf_len]
              unfold sizeLine
              omega
            walk_at "sets"
            case h =>
              refine es_nil ⟨.d (nD x), .d (.list ((pinsOf q.rw ks).map pinD)), s3, s4, ?_⟩
              unfold lN kstep
              rw [List.map_map]
              rfl
    case fd =>
      rintro ρ' ⟨s1, s2, s3, s4, rfl⟩
      walk_at "ret"
      rw [List.length_range]
      rfl
end
section
theorem sc__law_least : FnScope ["query", "waiting", "moves", "firsts", "labels", "roots", "rows", "colours", "kinds", "found", "state", "later"] ["query"] (defScope (topS 41)) := ⟨rfl, rfl, rfl, by decide +kernel, rfl, by decide +kernel, by decide +kernel⟩
local macro_rules | `(tactic| walk_at "nd") => `(tactic| exact sc__law_least.nd)
local macro_rules | `(tactic| walk_at "blk") => `(tactic| (refine' blkOk_of (N' := ["query", "waiting", "moves", "firsts", "labels", "roots", "rows", "colours", "kinds", "found", "state", "later"]) ?hN ?hs ?h; (case hN => rfl); (case hs => first | exact body_scope | exact blk_scope body_scope | exact blk_scope (blk_scope body_scope)); (case h => decide +kernel)))
theorem nm__law_least_0 : NmAt ["query", "waiting", "moves", "firsts", "labels", "roots", "rows", "colours", "kinds", "found", "state", "later"] 0 "query" := ⟨rfl⟩
theorem nm__law_least_1 : NmAt ["query", "waiting", "moves", "firsts", "labels", "roots", "rows", "colours", "kinds", "found", "state", "later"] 1 "waiting" := ⟨rfl⟩
theorem nm__law_least_2 : NmAt ["query", "waiting", "moves", "firsts", "labels", "roots", "rows", "colours", "kinds", "found", "state", "later"] 2 "moves" := ⟨rfl⟩
theorem nm__law_least_3 : NmAt ["query", "waiting", "moves", "firsts", "labels", "roots", "rows", "colours", "kinds", "found", "state", "later"] 3 "firsts" := ⟨rfl⟩
theorem nm__law_least_4 : NmAt ["query", "waiting", "moves", "firsts", "labels", "roots", "rows", "colours", "kinds", "found", "state", "later"] 4 "labels" := ⟨rfl⟩
theorem nm__law_least_5 : NmAt ["query", "waiting", "moves", "firsts", "labels", "roots", "rows", "colours", "kinds", "found", "state", "later"] 5 "roots" := ⟨rfl⟩
theorem nm__law_least_6 : NmAt ["query", "waiting", "moves", "firsts", "labels", "roots", "rows", "colours", "kinds", "found", "state", "later"] 6 "rows" := ⟨rfl⟩
theorem nm__law_least_7 : NmAt ["query", "waiting", "moves", "firsts", "labels", "roots", "rows", "colours", "kinds", "found", "state", "later"] 7 "colours" := ⟨rfl⟩
theorem nm__law_least_8 : NmAt ["query", "waiting", "moves", "firsts", "labels", "roots", "rows", "colours", "kinds", "found", "state", "later"] 8 "kinds" := ⟨rfl⟩
theorem nm__law_least_9 : NmAt ["query", "waiting", "moves", "firsts", "labels", "roots", "rows", "colours", "kinds", "found", "state", "later"] 9 "found" := ⟨rfl⟩
theorem nm__law_least_10 : NmAt ["query", "waiting", "moves", "firsts", "labels", "roots", "rows", "colours", "kinds", "found", "state", "later"] 10 "state" := ⟨rfl⟩
theorem nm__law_least_11 : NmAt ["query", "waiting", "moves", "firsts", "labels", "roots", "rows", "colours", "kinds", "found", "state", "later"] 11 "later" := ⟨rfl⟩
local macro_rules | `(tactic| walk_at "nms") => `(tactic| first | with_reducible exact nm__law_least_0 | with_reducible exact nm__law_least_1 | with_reducible exact nm__law_least_2 | with_reducible exact nm__law_least_3 | with_reducible exact nm__law_least_4 | with_reducible exact nm__law_least_5 | with_reducible exact nm__law_least_6 | with_reducible exact nm__law_least_7 | with_reducible exact nm__law_least_8 | with_reducible exact nm__law_least_9 | with_reducible exact nm__law_least_10 | with_reducible exact nm__law_least_11)
local macro_rules | `(tactic| walk_at "lc") => `(tactic| first | (refine' ev_lc (own := [("state", 10)]) rfl (by walk_at "nd") ?ok ?h; (case ok => walk_at "blk"); (case h => walk_at "lcm")) | (refine' ev_lc (own := [("later", 11)]) rfl (by walk_at "nd") ?ok ?h; (case ok => walk_at "blk"); (case h => walk_at "lcm")))
local macro_rules | `(tactic| walk_at "setC") => `(tactic| first | (refine' ec_setCD (own := [("state", 10)]) ?n ?e ?nd rfl rfl rfl ?ok ?lc ?s ?h ?hi; (case n => walk_at "nms"); (case e => rfl); (case nd => walk_at "nd"); (case ok => walk_at "blk"); (case s => intro _; rfl); (case lc => walk_at "lcm"); (case hi => exact Nat.le_of_ble_eq_true rfl)) | (refine' ec_setCD (own := [("later", 11)]) ?n ?e ?nd rfl rfl rfl ?ok ?lc ?s ?h ?hi; (case n => walk_at "nms"); (case e => rfl); (case nd => walk_at "nd"); (case ok => walk_at "blk"); (case s => intro _; rfl); (case lc => walk_at "lcm"); (case hi => exact Nat.le_of_ble_eq_true rfl)))
local macro_rules | `(tactic| walk_at "setCN") => `(tactic| first | (refine' ec_setC (own := [("state", 10)]) ?n ?e ?nd rfl rfl rfl ?ok ?lc ?s ?h; (case n => walk_at "nms"); (case e => rfl); (case nd => walk_at "nd"); (case ok => walk_at "blk"); (case s => intro _; rfl); (case lc => walk_at "lcm")) | (refine' ec_setC (own := [("later", 11)]) ?n ?e ?nd rfl rfl rfl ?ok ?lc ?s ?h; (case n => walk_at "nms"); (case e => rfl); (case nd => walk_at "nd"); (case ok => walk_at "blk"); (case s => intro _; rfl); (case lc => walk_at "lcm")))
theorem ok_law_least {f fd} (h : Has K mg "_law_least" (topS 41) ["query"] f fd) (hb : NoB mg) (h1 : Ok P w K mg base 1 "_law_kinds" ["query"] (spD K R_kinds)) : Ok P w K mg base 2 "_law_least" ["query"] (spD K R_law_least) := by
  refine Ok.data h sc__law_least (fun ds x ⟨_, e, _⟩ => by rw [e]; rfl) fun cdv A outer s H E hr ds y ⟨q, e1, e2, ok⟩ => ?_
  subst e1 e2
  have hrk : R_kinds [q.D] (lN (kindsL q)) := ⟨q, rfl, rfl, ok⟩
  have hk := kindsL_ok ok
  have hn := ok.n2
  have hroz : q.ro.length < sizeLine := by
    rw [ok.ro.1]
    have := ok.labs.2.1
    unfold sizeLine
    omega
  have hok := leastL_ok ok
  have hoe := order_end ok hk.1 hk.2
  show ES _ _ _ { nx := _, rt := fun _ d => d = (q.lq (kindsL q) (orderL q (kindsL q))).D }
  walk_at "asg"
  case h =>
    walk_at "pair"
    case h =>
      have hbi := bf_init ok hk.1 hk.2
      have hord : orderL q (kindsL q) = bfsL q.rw (kindsL q) (4 + 4 * q.rw.length) (q.ro.map fun s => (kindsL q).getD s default) [] := rfl
      generalize kindsL q = ks at *
      generalize orderL q ks = ord at *
      have hE : ∀ s ∈ q.ro, s < ks.length := fun s hs => by
        rw [hk.1]
        exact ok.ro.2 s hs
      walk_at "setsN"
      case h =>
        refine' ec_while PassesOwn.never (fun m ρ' => ∃ wt f s1, m ≤ 164 ∧ BfOk q ks m wt f ∧ bfsL q.rw ks m wt f = ord ∧ ρ' = [.d q.D, .own none (.lst (wt.map nD)), .no, .no, .d (tS q.L), .d (tN q.ro), .d (.tuple (q.rw.map tN)), .d (tS q.co), .d (lN ks), .own none (.lst (f.map nD)), s1, .no]) (4 + 4 * q.rw.length) ?h0 ?hs
        case h0 => exact ⟨_, [], .no, by omega, hbi, hord.symm, by rw [List.map_map]; rfl⟩
        case hs =>
          rintro m ρ' ⟨wt, f, s1, hm, hb1, hb2, rfl⟩
          refine' ⟨!wt.isEmpty, _, ?wt, ?wb, ?wn⟩
          case wt =>
            refine' et_cmpX (hst := ?cst) ?ca ?cb ?ch
            case ca => walk_at "ev"
            case cb => walk_at "evd"
            case ch => exact cx_neNilO enc_nat (fun _ _ => trivial) dp_nat hr.units rfl
            case cst => rfl
          case wn =>
            intro hkk
            have hwt : wt = [] := by
              cases wt with
              | nil => rfl
              | cons a b => cases hkk
            subst hwt
            have hf : f = ord := by
              cases m <;> exact hb2
            subst hf
            refine es_forget 10 ?_
            refine es_forget 1 (es_fz (i := 9) rfl ?_)
            obtain ⟨hnd, hcl⟩ := hoe
            have hcr := hcl.2.1
            have hB : ∀ k ∈ f, k < q.rw.length := fun k hk2 => (hcl.2.2 k hk2).1
            have hC : ∀ k ∈ f, ∀ l ∈ q.rw.getD k default, l < ks.length := fun k hk2 l hl => by
              rw [hk.1]
              exact (ok.row (hB k hk2)).2 l hl
            have hD : ∀ k ∈ f, ∀ l ∈ q.rw.getD k default, ks.getD l default ∈ f := fun k hk2 l hl => (hcl.2.2 k hk2).2 l hl
            have hG : ∀ k ∈ f, k < q.co.length := fun k hk2 => by
              rw [ok.cn]
              exact hB k hk2
            have l1 : f.length < sizeLine := by
              have := hb1.found_le
              unfold sizeLine
              omega
            have l2 : ∀ k ∈ f, (q.rw.getD k default).length < sizeLine := fun k hk2 => by
              rw [(ok.row (hB k hk2)).1]
              have := ok.labs.2.1
              unfold sizeLine
              omega
            walk_at "sets"
            case h =>
              walk_at "sets"
              case h =>
                walk_at "ret"
                show PyData.tuple _ = PyData.tuple _
                unfold Qu.lq tN tS
                simp only [List.map_map, Function.comp_def]
          case wb =>
            intro hkk
            cases wt with
            | nil => cases hkk
            | cons s0 wt =>
              cases m with
              | zero =>
                have := hb1.fuel
                rw [List.length_cons] at this
                omega
              | succ m =>
                have hs0 := hb1.wl s0 List.mem_cons_self
                have hfl := hb1.found_le
                have hfz : f.length < sizeLine := by unfold sizeLine; omega
                walk_at "set"
                case h =>
                  refine ES.own (i := 1) (ds' := wt.map nD) rfl rfl ?_
                  walk_at "if"
                  case h1 =>
                    intro hin
                    have hin : s0 ∉ f := by simpa using hin
                    have hnx := nexts_ok ok hk.1 hk.2 hs0
                    have hwl := hb1.fuel
                    have hll : (q.rw.getD s0 default).length < sizeLine := by
                      rw [(ok.row hs0).1]
                      have := ok.labs.2.1
                      unfold sizeLine
                      omega
                    have hll2 : (q.rw.getD s0 default).length ≤ 4 := by
                      rw [(ok.row hs0).1]
                      exact ok.labs.2.1
                    have hrl : ∀ l ∈ q.rw.getD s0 default, l < ks.length := fun l hl => by
                      rw [hk.1]
                      exact (ok.row hs0).2 l hl
                    have hex : wt.length + (q.rw.getD s0 default).length ≤ sizeLine := by
                      rw [List.length_cons] at hwl
                      unfold sizeLine
                      omega
                    walk_at "expr"
                    case h =>
                      walk_at "expr"
                      case h =>
                        refine es_nil (es_nil ⟨m, Nat.lt_succ_self m, wt ++ nexts q.rw ks s0, f ++ [s0], .d (nD s0), by omega, hb1.take ok hk.1 hk.2 hin, ?_, ?_⟩)
                        · exact (bfsL_out hin).symm.trans hb2
                        · rw [List.map_append, List.map_append]
                          unfold nexts
                          rw [List.map_map]
                          rfl
                  case h2 =>
                    intro hin
                    have hin : s0 ∈ f := by simpa using hin
                    refine es_nil ⟨m, Nat.lt_succ_self m, wt, f, .d (nD s0), by omega, hb1.skip, (bfsL_in hin).symm.trans hb2, rfl⟩
end
end

end
section
abbrev R_drawQ (mk : List Str → Nat → Die → Qu × Die) (lo : Nat) : List D → List D → List D → D → Prop := fun cs ds cs' x => ∃ (d : Die) (L : List Str) (h : Nat), cs = d.D ∧ ds = [tS L, nD h] ∧ cs' = (mk L h d).2.D ∧ x = (mk L h d).1.D ∧ Labs L ∧ lo ≤ h ∧ h ≤ 6 ∧ Good 500 d
theorem tN_map {α : Type} (xs : List α) (g : α → Nat) : tN (xs.map g) = .tuple (xs.map fun x => nD (g x)) := by
  unfold tN
  rw [List.map_map]
  rfl
local macro_rules | `(tactic| walk_at "sx") => `(tactic| exact (‹∀ (X : Cx) (ρ : List Sl), _ → SubX X (.own _) _ ρ _› _ _ rfl))
section
variable {P : Program} {w : World} {K : PySem.W.Frag} {mg : Str → Option Value} {base : Heap}
section
theorem sc__law_any_query : FnScope ["die", "labels", "high", "many", "rows", "state", "label"] ["die", "labels", "high"] (defScope (topS 43)) := ⟨rfl, rfl, rfl, by decide +kernel, rfl, by decide +kernel, by decide +kernel⟩
local macro_rules | `(tactic| walk_at "nd") => `(tactic| exact sc__law_any_query.nd)
local macro_rules | `(tactic| walk_at "blk") => `(tactic| (refine' blkOk_of (N' := ["die", "labels", "high", "many", "rows", "state", "label"]) ?hN ?hs ?h; (case hN => rfl); (case hs => first | exact body_scope | exact blk_scope body_scope | exact blk_scope (blk_scope body_scope)); (case h => decide +kernel)))
theorem nm__law_any_query_0 : NmAt ["die", "labels", "high", "many", "rows", "state", "label"] 0 "die" := ⟨rfl⟩
theorem nm__law_any_query_1 : NmAt ["die", "labels", "high", "many", "rows", "state", "label"] 1 "labels" := ⟨rfl⟩
theorem nm__law_any_query_2 : NmAt ["die", "labels", "high", "many", "rows", "state", "label"] 2 "high" := ⟨rfl⟩
theorem nm__law_any_query_3 : NmAt ["die", "labels", "high", "many", "rows", "state", "label"] 3 "many" := ⟨rfl⟩
theorem nm__law_any_query_4 : NmAt ["die", "labels", "high", "many", "rows", "state", "label"] 4 "rows" := ⟨rfl⟩
theorem nm__law_any_query_5 : NmAt ["die", "labels", "high", "many", "rows", "state", "label"] 5 "state" := ⟨rfl⟩
theorem nm__law_any_query_6 : NmAt ["die", "labels", "high", "many", "rows", "state", "label"] 6 "label" := ⟨rfl⟩
local macro_rules | `(tactic| walk_at "nms") => `(tactic| first | with_reducible exact nm__law_any_query_0 | with_reducible exact nm__law_any_query_1 | with_reducible exact nm__law_any_query_2 | with_reducible exact nm__law_any_query_3 | with_reducible exact nm__law_any_query_4 | with_reducible exact nm__law_any_query_5 | with_reducible exact nm__law_any_query_6)
local macro_rules | `(tactic| walk_at "lc") => `(tactic| first | (refine' ev_lc (own := [("state", 5)]) rfl (by walk_at "nd") ?ok ?h; (case ok => walk_at "blk"); (case h => walk_at "lcm")) | (refine' ev_lc (own := [("label", 6)]) rfl (by walk_at "nd") ?ok ?h; (case ok => walk_at "blk"); (case h => walk_at "lcm")))
local macro_rules | `(tactic| walk_at "setC") => `(tactic| first | (refine' ec_setCD (own := [("state", 5)]) ?n ?e ?nd rfl rfl rfl ?ok ?lc ?s ?h ?hi; (case n => walk_at "nms"); (case e => rfl); (case nd => walk_at "nd"); (case ok => walk_at "blk"); (case s => intro _; rfl); (case lc => walk_at "lcm"); (case hi => exact Nat.le_of_ble_eq_true rfl)) | (refine' ec_setCD (own := [("label", 6)]) ?n ?e ?nd rfl rfl rfl ?ok ?lc ?s ?h ?hi; (case n => walk_at "nms"); (case e => rfl); (case nd => walk_at "nd"); (case ok => walk_at "blk"); (case s => intro _; rfl); (case lc => walk_at "lcm"); (case hi => exact Nat.le_of_ble_eq_true rfl)))
local macro_rules | `(tactic| walk_at "setCN") => `(tactic| first | (refine' ec_setC (own := [("state", 5)]) ?n ?e ?nd rfl rfl rfl ?ok ?lc ?s ?h; (case n => walk_at "nms"); (case e => rfl); (case nd => walk_at "nd"); (case ok => walk_at "blk"); (case s => intro _; rfl); (case lc => walk_at "lcm")) | (refine' ec_setC (own := [("label", 6)]) ?n ?e ?nd rfl rfl rfl ?ok ?lc ?s ?h; (case n => walk_at "nms"); (case e => rfl); (case nd => walk_at "nd"); (case ok => walk_at "blk"); (case s => intro _; rfl); (case lc => walk_at "lcm")))
theorem ok_law_any_query {f fd} (h : Has K mg "_law_any_query" (topS 43) ["die", "labels", "high"] f fd) (hb : NoB mg) (h1 : Ok P w K mg base 1 "_law_pull" ["die", "many"] (spB K R_pull)) (h2 : Ok P w K mg base 2 "_law_names" ["die", "many"] (spB K R_names)) : Ok P w K mg base 3 "_law_any_query" ["die", "labels", "high"] (spB K (R_drawQ anyQ 1)) := by
  refine Ok.bor h sc__law_any_query (fun cs ds cs' x ⟨_, _, _, _, e, _⟩ => by rw [e]; rfl) fun cdv A outer s H E hr cs ds cs' y ⟨d, L, hi, e1, e2, e3, e4, hL, h1i, hh, hg⟩ => ?_
  subst e1 e2 e3 e4
  have hl4 := hL.2.1
  have hll : L.length < sizeLine := by unfold sizeLine; omega
  have hp1 : 0 < hi ∧ hi < 2 ^ 200 ∧ Good 1 d := ⟨by omega, Nat.lt_trans (show hi < 2 ^ 3 by omega) (by decide), hg.mono (by omega)⟩
  have hlt := pull_lt (m := hi) d (by omega)
  have g1 : Good 499 (pull hi d).2 := pull_good hg
  have e0 : anyQ L hi d = ((⟨L, (pulls (1 + (pull hi d).1) L (mapS (fun (_ : Nat) d' => pulls (1 + (pull hi d).1) L d') (List.range (1 + (pull hi d).1)) (pull hi d).2).2).1, (mapS (fun (_ : Nat) d' => pulls (1 + (pull hi d).1) L d') (List.range (1 + (pull hi d).1)) (pull hi d).2).1, (namesOf (1 + (pull hi d).1) (pulls (1 + (pull hi d).1) L (mapS (fun (_ : Nat) d' => pulls (1 + (pull hi d).1) L d') (List.range (1 + (pull hi d).1)) (pull hi d).2).2).2).1⟩ : Qu), (namesOf (1 + (pull hi d).1) (pulls (1 + (pull hi d).1) L (mapS (fun (_ : Nat) d' => pulls (1 + (pull hi d).1) L d') (List.range (1 + (pull hi d).1)) (pull hi d).2).2).2).2) := rfl
  rw [e0]
  have hn : 1 ≤ 1 + (pull hi d).1 ∧ 1 + (pull hi d).1 ≤ 6 := by omega
  walk_at "set"
  case h =>
    generalize 1 + (pull hi d).1 = n at *
    generalize (pull hi d).2 = d1 at *
    have hs1 : n < 2 ^ 62 := Nat.lt_trans (show n < 2 ^ 3 by omega) (by decide)
    have hl1 : (List.range n).length < sizeLine := by rw [List.length_range]; unfold sizeLine; omega
    have hh : LcHint (fun (_ : Nat) d' => pulls n L d') tN (fun d => [Sl.own (some 0) (.lst d.D), .d (tS L), .d (nD hi), .d (nD n), .no, .no, .no]) d1 (List.range n) (fun x s => LcHint (fun (_ : Str) d' => pull n d') nD (fun d => [Sl.own (some 0) (.lst d.D), .d (tS L), .d (nD hi), .d (nD n), .no, .d (nD x), .no]) s L (fun _ s => 0 < n ∧ n < 2 ^ 200 ∧ Good 1 s)) := fun i x hx => by
      have hgi : Good 4 (mapS (fun (_ : Nat) d' => pulls n L d') ((List.range n).take i) d1).2 := (mapS_take_costs (n := 4) (k := 0) (fun _ _ => pulls_costs n L hl4) (by rw [List.length_range]; exact g1.mono (by omega)) i (List.getElem?_eq_some_iff.mp hx).1).mono (by omega)
      exact fun j y hy => ⟨by omega, Nat.lt_trans (show n < 2 ^ 3 by omega) (by decide), (mapS_take_costs (n := 1) (k := 0) (fun _ _ => pull_costs n) (hgi.mono (by omega)) j (List.getElem?_eq_some_iff.mp hy).1).mono (by omega)⟩
    walk_at "setC"
    case h =>
      clear hh
      have g2 : Good 475 (mapS (fun (_ : Nat) d' => pulls n L d') (List.range n) d1).2 := mapS_cost (n := 4) (m := 6) _ (fun _ _ => pulls_costs n L hl4) (by rw [List.length_range]; omega) _ _ (g1.mono (by omega))
      generalize mapS (fun (_ : Nat) d' => pulls n L d') (List.range n) d1 = rows at *
      have hh2 : LcHint (fun (_ : Str) d' => pull n d') nD (fun d => [Sl.own (some 0) (.lst d.D), .d (tS L), .d (nD hi), .d (nD n), .d (.list (rows.1.map tN)), .no, .no]) rows.2 L (fun _ s => 0 < n ∧ n < 2 ^ 200 ∧ Good 1 s) := fun j y hy => ⟨by omega, Nat.lt_trans (show n < 2 ^ 3 by omega) (by decide), (mapS_take_costs (n := 1) (k := 0) (fun _ _ => pull_costs n) (g2.mono (by omega)) j (List.getElem?_eq_some_iff.mp hy).1).mono (by omega)⟩
      have g3 : Good 471 (mapS (fun (_ : Str) d' => pull n d') L rows.2).2 := pulls_costs n L hl4 _ _ (g2.mono (by omega))
      have hnm : 1 ≤ n ∧ n ≤ 1000 ∧ Good (n + 1) (mapS (fun (_ : Str) d' => pull n d') L rows.2).2 := ⟨by omega, by omega, g3.mono (by omega)⟩
      walk_at "ret"
      exact ⟨rfl, rfl⟩
end
section
theorem sc__law_steps_query : FnScope ["die", "labels", "high", "state", "many", "rows", "on", "label", "one"] ["die", "labels", "high"] (defScope (topS 44)) := ⟨rfl, rfl, rfl, by decide +kernel, rfl, by decide +kernel, by decide +kernel⟩
local macro_rules | `(tactic| walk_at "nd") => `(tactic| exact sc__law_steps_query.nd)
local macro_rules | `(tactic| walk_at "blk") => `(tactic| (refine' blkOk_of (N' := ["die", "labels", "high", "state", "many", "rows", "on", "label", "one"]) ?hN ?hs ?h; (case hN => rfl); (case hs => first | exact body_scope | exact blk_scope body_scope | exact blk_scope (blk_scope body_scope)); (case h => decide +kernel)))
theorem nm__law_steps_query_0 : NmAt ["die", "labels", "high", "state", "many", "rows", "on", "label", "one"] 0 "die" := ⟨rfl⟩
theorem nm__law_steps_query_1 : NmAt ["die", "labels", "high", "state", "many", "rows", "on", "label", "one"] 1 "labels" := ⟨rfl⟩
theorem nm__law_steps_query_2 : NmAt ["die", "labels", "high", "state", "many", "rows", "on", "label", "one"] 2 "high" := ⟨rfl⟩
theorem nm__law_steps_query_3 : NmAt ["die", "labels", "high", "state", "many", "rows", "on", "label", "one"] 3 "state" := ⟨rfl⟩
theorem nm__law_steps_query_4 : NmAt ["die", "labels", "high", "state", "many", "rows", "on", "label", "one"] 4 "many" := ⟨rfl⟩
theorem nm__law_steps_query_5 : NmAt ["die", "labels", "high", "state", "many", "rows", "on", "label", "one"] 5 "rows" := ⟨rfl⟩
theorem nm__law_steps_query_6 : NmAt ["die", "labels", "high", "state", "many", "rows", "on", "label", "one"] 6 "on" := ⟨rfl⟩
theorem nm__law_steps_query_7 : NmAt ["die", "labels", "high", "state", "many", "rows", "on", "label", "one"] 7 "label" := ⟨rfl⟩
theorem nm__law_steps_query_8 : NmAt ["die", "labels", "high", "state", "many", "rows", "on", "label", "one"] 8 "one" := ⟨rfl⟩
local macro_rules | `(tactic| walk_at "nms") => `(tactic| first | with_reducible exact nm__law_steps_query_0 | with_reducible exact nm__law_steps_query_1 | with_reducible exact nm__law_steps_query_2 | with_reducible exact nm__law_steps_query_3 | with_reducible exact nm__law_steps_query_4 | with_reducible exact nm__law_steps_query_5 | with_reducible exact nm__law_steps_query_6 | with_reducible exact nm__law_steps_query_7 | with_reducible exact nm__law_steps_query_8)
local macro_rules | `(tactic| walk_at "lc") => `(tactic| first | (refine' ev_lc (own := [("label", 7)]) rfl (by walk_at "nd") ?ok ?h; (case ok => walk_at "blk"); (case h => walk_at "lcm")) | (refine' ev_lc (own := [("one", 8)]) rfl (by walk_at "nd") ?ok ?h; (case ok => walk_at "blk"); (case h => walk_at "lcm")))
local macro_rules | `(tactic| walk_at "setC") => `(tactic| first | (refine' ec_setCD (own := [("label", 7)]) ?n ?e ?nd rfl rfl rfl ?ok ?lc ?s ?h ?hi; (case n => walk_at "nms"); (case e => rfl); (case nd => walk_at "nd"); (case ok => walk_at "blk"); (case s => intro _; rfl); (case lc => walk_at "lcm"); (case hi => exact Nat.le_of_ble_eq_true rfl)) | (refine' ec_setCD (own := [("one", 8)]) ?n ?e ?nd rfl rfl rfl ?ok ?lc ?s ?h ?hi; (case n => walk_at "nms"); (case e => rfl); (case nd => walk_at "nd"); (case ok => walk_at "blk"); (case s => intro _; rfl); (case lc => walk_at "lcm"); (case hi => exact Nat.le_of_ble_eq_true rfl)))
local macro_rules | `(tactic| walk_at "setCN") => `(tactic| first | (refine' ec_setC (own := [("label", 7)]) ?n ?e ?nd rfl rfl rfl ?ok ?lc ?s ?h; (case n => walk_at "nms"); (case e => rfl); (case nd => walk_at "nd"); (case ok => walk_at "blk"); (case s => intro _; rfl); (case lc => walk_at "lcm")) | (refine' ec_setC (own := [("one", 8)]) ?n ?e ?nd rfl rfl rfl ?ok ?lc ?s ?h; (case n => walk_at "nms"); (case e => rfl); (case nd => walk_at "nd"); (case ok => walk_at "blk"); (case s => intro _; rfl); (case lc => walk_at "lcm")))
theorem ok_law_steps_query {f fd} (h : Has K mg "_law_steps_query" (topS 44) ["die", "labels", "high"] f fd) (hb : NoB mg) (h1 : Ok P w K mg base 1 "_law_pull" ["die", "many"] (spB K R_pull)) (h2 : Ok P w K mg base 2 "_law_names" ["die", "many"] (spB K R_names)) : Ok P w K mg base 3 "_law_steps_query" ["die", "labels", "high"] (spB K (R_drawQ stepsQ 2)) := by
  refine Ok.bor h sc__law_steps_query (fun cs ds cs' x ⟨_, _, _, _, e, _⟩ => by rw [e]; rfl) fun cdv A outer s H E hr cs ds cs' y ⟨d, L, hi, e1, e2, e3, e4, hL, h1i, hh, hg⟩ => ?_
  subst e1 e2 e3 e4
  have hl4 := hL.2.1
  have hl1 := hL.1
  have hll : L.length < sizeLine := by unfold sizeLine; omega
  have hp1 : 0 < hi - 1 ∧ hi - 1 < 2 ^ 200 ∧ Good 1 d := ⟨by omega, Nat.lt_trans (show hi - 1 < 2 ^ 3 by omega) (by decide), hg.mono (by omega)⟩
  have hlt := pull_lt (m := hi - 1) d (by omega)
  have g1 : Good 499 (pull (hi - 1) d).2 := pull_good hg
  have e0 : stepsQ L hi d = ((⟨L, (mapS (stepRow L (2 + (pull (hi - 1) d).1)) (List.range (2 + (pull (hi - 1) d).1)) (pull (hi - 1) d).2).1.getD 0 default, (mapS (stepRow L (2 + (pull (hi - 1) d).1)) (List.range (2 + (pull (hi - 1) d).1)) (pull (hi - 1) d).2).1, (namesOf (2 + (pull (hi - 1) d).1) (mapS (stepRow L (2 + (pull (hi - 1) d).1)) (List.range (2 + (pull (hi - 1) d).1)) (pull (hi - 1) d).2).2).1⟩ : Qu), (namesOf (2 + (pull (hi - 1) d).1) (mapS (stepRow L (2 + (pull (hi - 1) d).1)) (List.range (2 + (pull (hi - 1) d).1)) (pull (hi - 1) d).2).2).2) := rfl
  rw [e0]
  have hn : 2 ≤ 2 + (pull (hi - 1) d).1 ∧ 2 + (pull (hi - 1) d).1 ≤ 6 := by omega
  walk_at "pair"
  case h =>
    generalize 2 + (pull (hi - 1) d).1 = n at *
    generalize (pull (hi - 1) d).2 = d1 at *
    have hs1 : n < 2 ^ 62 := Nat.lt_trans (show n < 2 ^ 3 by omega) (by decide)
    refine' ec_forM ?fi PassesOwn.never rfl (fun i ρ' => ∃ s1 s2, ρ' = [.own (some 0) (.lst (mapS (stepRow L n) ((List.range n).take i) d1).2.D), .d (tS L), .d (nD hi), s1, .d (nD n), .own none (.lst ((mapS (stepRow L n) ((List.range n).take i) d1).1.map tN)), s2, .no, .no]) ?f0 ?fs ?fd (fun _ => rfl)
    case fi => walk_at "ei"
    case f0 => exact ⟨.no, .no, rfl⟩
    case fs =>
      rintro i x ρ' hx ⟨s1, s2, rfl⟩
      have hi2 := (List.getElem?_eq_some_iff.mp hx).1
      have g2 : Good 464 (mapS (stepRow L n) ((List.range n).take i) d1).2 := (mapS_take_costs (n := 5) (k := 464) (fun _ _ => stepRow_costs hl4 _ _) (by rw [List.length_range]; exact g1.mono (by omega)) i hi2).mono (by omega)
      have hlen : (mapS (stepRow L n) ((List.range n).take i) d1).1.length < sizeLine := by
        rw [mapS_length, List.length_take, List.length_range]
        unfold sizeLine
        omega
      rw [mapS_succ _ hx]
      generalize mapS (stepRow L n) ((List.range n).take i) d1 = m at *
      refine' ⟨_, _, ?feg, ?fes⟩
      case feg => walk_at "eg"
      case fes =>
        have hh1 : LcHint (fun (_ : Str) d' => (decide ((pull 3 d').1 = 0), (pull 3 d').2)) PyData.bool (fun d => [Sl.own (some 0) (.lst d.D), .d (tS L), .d (nD hi), .d (nD x), .d (nD n), .own none (.lst (m.1.map tN)), s2, .no, .no]) m.2 L (fun _ s => 0 < 3 ∧ 3 < 2 ^ 200 ∧ Good 1 s) := fun j y hy => ⟨by omega, by decide, (mapS_take_costs (n := 1) (k := 0) (fun _ _ => (pull_costs 3).map (g := fun n => decide (n = 0))) (g2.mono (by omega)) j (List.getElem?_eq_some_iff.mp hy).1).mono (by omega)⟩
        walk_at "setsN"
        case h =>
          clear hh1
          have e1 : stepRow L n x m.2 = (((onOf L m.2).1.set (pull L.length (onOf L m.2).2).1 true).map fun one => min (n - 1) (x + if one = true then 1 else 0), (pull L.length (onOf L m.2).2).2) := rfl
          rw [e1]
          have g3 : Good 460 (onOf L m.2).2 := onOf_costs hl4 _ _ (g2.mono (by omega))
          have hol := onOf_len L m.2
          refine ES.slot ?_ (show _ = [Sl.own (some 0) (.lst (onOf L m.2).2.D), .d (tS L), .d (nD hi), .d (nD x), .d (nD n), .own none (.lst (m.1.map tN)), .own none (.lst ((onOf L m.2).1.map PyData.bool)), .no, .no] from rfl)
          generalize onOf L m.2 = on at *
          have hp2 : 0 < L.length ∧ L.length < 2 ^ 200 ∧ Good 1 on.2 := ⟨hl1, Nat.lt_trans (show L.length < 2 ^ 3 by omega) (by decide), g3.mono (by omega)⟩
          have hpl := pull_lt (m := L.length) on.2 hl1
          have hpl2 : (pull L.length on.2).1 < (on.1.map PyData.bool).length := by rw [List.length_map, hol]; exact hpl
          walk_at "sput"
          case h =>
            refine ES.own (i := 6) (ds' := (on.1.set (pull L.length on.2).1 true).map PyData.bool) rfl (congrArg OC.lst List.map_set.symm) ?_
            refine es_fz (i := 6) rfl ?_
            have hol2 : (on.1.set (pull L.length on.2).1 true).length < sizeLine := by
              rw [List.length_set, hol]
              exact hll
            generalize on.1.set (pull L.length on.2).1 true = on2 at *
            walk_at "expr"
            case h =>
              refine es_nil ⟨.d (nD x), .d (.list (on2.map PyData.bool)), ?_⟩
              rw [List.map_append, List.map_cons, List.map_nil, tN_map]
              rfl
    case fd =>
      rintro ρ' ⟨s1, s2, rfl⟩
      have hrl : (List.range n).take (List.range n).length = List.range n := List.take_length
      rw [hrl]
      have g2 : Good 464 (mapS (stepRow L n) (List.range n) d1).2 := mapS_cost (n := 5) (m := 6) _ (fun _ _ => stepRow_costs hl4 _ _) (by rw [List.length_range]; omega) _ _ (g1.mono (by omega))
      have hlen : 0 < (mapS (stepRow L n) (List.range n) d1).1.length := by
        rw [mapS_length, List.length_range]
        omega
      generalize mapS (stepRow L n) (List.range n) d1 = m at *
      have hnm : 1 ≤ n ∧ n ≤ 1000 ∧ Good (n + 1) m.2 := ⟨by omega, by omega, g2.mono (by omega)⟩
      have hsx : ∀ (X : Cx) (ρ : List Sl), ρ[5]? = some (.own none (.lst (m.1.map tN))) → SubX X (.own 5) (.d (nD 0)) ρ (.d (tN (m.1.getD 0 default))) := fun X ρ h => sx_map (f := tN) (xs := m.1) (sq_own h) hlen
      walk_at "ret"
      exact ⟨rfl, rfl⟩
end
section
theorem sc__law_depth_query : FnScope ["die", "labels", "high", "state", "many", "rows", "label"] ["die", "labels", "high"] (defScope (topS 46)) := ⟨rfl, rfl, rfl, by decide +kernel, rfl, by decide +kernel, by decide +kernel⟩
local macro_rules | `(tactic| walk_at "nd") => `(tactic| exact sc__law_depth_query.nd)
local macro_rules | `(tactic| walk_at "blk") => `(tactic| (refine' blkOk_of (N' := ["die", "labels", "high", "state", "many", "rows", "label"]) ?hN ?hs ?h; (case hN => rfl); (case hs => first | exact body_scope | exact blk_scope body_scope | exact blk_scope (blk_scope body_scope)); (case h => decide +kernel)))
theorem nm__law_depth_query_0 : NmAt ["die", "labels", "high", "state", "many", "rows", "label"] 0 "die" := ⟨rfl⟩
theorem nm__law_depth_query_1 : NmAt ["die", "labels", "high", "state", "many", "rows", "label"] 1 "labels" := ⟨rfl⟩
theorem nm__law_depth_query_2 : NmAt ["die", "labels", "high", "state", "many", "rows", "label"] 2 "high" := ⟨rfl⟩
theorem nm__law_depth_query_3 : NmAt ["die", "labels", "high", "state", "many", "rows", "label"] 3 "state" := ⟨rfl⟩
theorem nm__law_depth_query_4 : NmAt ["die", "labels", "high", "state", "many", "rows", "label"] 4 "many" := ⟨rfl⟩
theorem nm__law_depth_query_5 : NmAt ["die", "labels", "high", "state", "many", "rows", "label"] 5 "rows" := ⟨rfl⟩
theorem nm__law_depth_query_6 : NmAt ["die", "labels", "high", "state", "many", "rows", "label"] 6 "label" := ⟨rfl⟩
local macro_rules | `(tactic| walk_at "nms") => `(tactic| first | with_reducible exact nm__law_depth_query_0 | with_reducible exact nm__law_depth_query_1 | with_reducible exact nm__law_depth_query_2 | with_reducible exact nm__law_depth_query_3 | with_reducible exact nm__law_depth_query_4 | with_reducible exact nm__law_depth_query_5 | with_reducible exact nm__law_depth_query_6)
local macro_rules | `(tactic| walk_at "lc") => `(tactic| first | (refine' ev_lc (own := [("label", 6)]) rfl (by walk_at "nd") ?ok ?h; (case ok => walk_at "blk"); (case h => walk_at "lcm")))
local macro_rules | `(tactic| walk_at "setC") => `(tactic| first | (refine' ec_setCD (own := [("label", 6)]) ?n ?e ?nd rfl rfl rfl ?ok ?lc ?s ?h ?hi; (case n => walk_at "nms"); (case e => rfl); (case nd => walk_at "nd"); (case ok => walk_at "blk"); (case s => intro _; rfl); (case lc => walk_at "lcm"); (case hi => exact Nat.le_of_ble_eq_true rfl)))
local macro_rules | `(tactic| walk_at "setCN") => `(tactic| first | (refine' ec_setC (own := [("label", 6)]) ?n ?e ?nd rfl rfl rfl ?ok ?lc ?s ?h; (case n => walk_at "nms"); (case e => rfl); (case nd => walk_at "nd"); (case ok => walk_at "blk"); (case s => intro _; rfl); (case lc => walk_at "lcm")))
theorem ok_law_depth_query {f fd} (h : Has K mg "_law_depth_query" (topS 46) ["die", "labels", "high"] f fd) (hb : NoB mg) (h1 : Ok P w K mg base 1 "_law_pull" ["die", "many"] (spB K R_pull)) (h2 : Ok P w K mg base 2 "_law_names" ["die", "many"] (spB K R_names)) : Ok P w K mg base 3 "_law_depth_query" ["die", "labels", "high"] (spB K (R_drawQ depthQ 2)) := by
  refine Ok.bor h sc__law_depth_query (fun cs ds cs' x ⟨_, _, _, _, e, _⟩ => by rw [e]; rfl) fun cdv A outer s H E hr cs ds cs' y ⟨d, L, hi, e1, e2, e3, e4, hL, h1i, hh, hg⟩ => ?_
  subst e1 e2 e3 e4
  have hl4 := hL.2.1
  have hl1 := hL.1
  have hll : L.length < sizeLine := by unfold sizeLine; omega
  have hp1 : 0 < hi - 1 ∧ hi - 1 < 2 ^ 200 ∧ Good 1 d := ⟨by omega, Nat.lt_trans (show hi - 1 < 2 ^ 3 by omega) (by decide), hg.mono (by omega)⟩
  have hlt := pull_lt (m := hi - 1) d (by omega)
  have g1 : Good 499 (pull (hi - 1) d).2 := pull_good hg
  have e0 : depthQ L hi d = ((⟨L, L.map fun _ => 0, (List.range (2 + (pull (hi - 1) d).1)).map fun s => L.map fun _ => min (2 + (pull (hi - 1) d).1 - 1) (s + 1), (namesOf (2 + (pull (hi - 1) d).1) (pull (hi - 1) d).2).1⟩ : Qu), (namesOf (2 + (pull (hi - 1) d).1) (pull (hi - 1) d).2).2) := rfl
  rw [e0]
  have hn : 2 ≤ 2 + (pull (hi - 1) d).1 ∧ 2 + (pull (hi - 1) d).1 ≤ 6 := by omega
  walk_at "pair"
  case h =>
    generalize 2 + (pull (hi - 1) d).1 = n at *
    generalize (pull (hi - 1) d).2 = d1 at *
    have hs1 : n < 2 ^ 62 := Nat.lt_trans (show n < 2 ^ 3 by omega) (by decide)
    refine' ec_forM ?fi PassesOwn.never rfl (fun i ρ' => ∃ s1, ρ' = [.own (some 0) (.lst d1.D), .d (tS L), .d (nD hi), s1, .d (nD n), .own none (.lst ((((List.range n).take i).map fun s => L.map fun _ => min (n - 1) (s + 1)).map tN)), .no]) ?f0 ?fs ?fd (fun _ => rfl)
    case fi => walk_at "ei"
    case f0 => exact ⟨.no, rfl⟩
    case fs =>
      rintro i x ρ' hx ⟨s1, rfl⟩
      have hi2 := (List.getElem?_eq_some_iff.mp hx).1
      have hlen : (((List.range n).take i).map fun s => L.map fun _ => min (n - 1) (s + 1)).length < sizeLine := by
        rw [List.length_map, List.length_take, List.length_range]
        unfold sizeLine
        omega
      have hlen2 : ((((List.range n).take i).map fun s => L.map fun _ => min (n - 1) (s + 1)).map tN).length < sizeLine := by
        rw [List.length_map]
        exact hlen
      refine' ⟨_, _, ?feg, ?fes⟩
      case feg => walk_at "eg"
      case fes =>
        walk_at "expr"
        case h =>
          refine es_nil ⟨.d (nD x), ?_⟩
          rw [List.take_add_one, hx, Option.toList_some, List.map_append, List.map_append, List.map_cons, List.map_nil, List.map_cons, List.map_nil, tN_map]
          rfl
    case fd =>
      rintro ρ' ⟨s1, rfl⟩
      have hrl : (List.range n).take (List.range n).length = List.range n := List.take_length
      rw [hrl]
      have hnm : 1 ≤ n ∧ n ≤ 1000 ∧ Good (n + 1) d1 := ⟨by omega, by omega, g1.mono (by omega)⟩
      walk_at "ret"
      refine ⟨?_, rfl⟩
      show PyData.tuple [_, PyData.tuple (L.map fun x => nD 0), _, _] = PyData.tuple [_, tN (L.map fun _ => 0), _, _]
      rw [tN_map]
end
section
theorem sc__law_counts_query : FnScope ["die", "labels", "high", "many", "more", "rows", "label", "state", "step"] ["die", "labels", "high"] (defScope (topS 48)) := ⟨rfl, rfl, rfl, by decide +kernel, rfl, by decide +kernel, by decide +kernel⟩
local macro_rules | `(tactic| walk_at "nd") => `(tactic| exact sc__law_counts_query.nd)
local macro_rules | `(tactic| walk_at "blk") => `(tactic| (refine' blkOk_of (N' := ["die", "labels", "high", "many", "more", "rows", "label", "state", "step"]) ?hN ?hs ?h; (case hN => rfl); (case hs => first | exact body_scope | exact blk_scope body_scope | exact blk_scope (blk_scope body_scope)); (case h => decide +kernel)))
theorem nm__law_counts_query_0 : NmAt ["die", "labels", "high", "many", "more", "rows", "label", "state", "step"] 0 "die" := ⟨rfl⟩
theorem nm__law_counts_query_1 : NmAt ["die", "labels", "high", "many", "more", "rows", "label", "state", "step"] 1 "labels" := ⟨rfl⟩
theorem nm__law_counts_query_2 : NmAt ["die", "labels", "high", "many", "more", "rows", "label", "state", "step"] 2 "high" := ⟨rfl⟩
theorem nm__law_counts_query_3 : NmAt ["die", "labels", "high", "many", "more", "rows", "label", "state", "step"] 3 "many" := ⟨rfl⟩
theorem nm__law_counts_query_4 : NmAt ["die", "labels", "high", "many", "more", "rows", "label", "state", "step"] 4 "more" := ⟨rfl⟩
theorem nm__law_counts_query_5 : NmAt ["die", "labels", "high", "many", "more", "rows", "label", "state", "step"] 5 "rows" := ⟨rfl⟩
theorem nm__law_counts_query_6 : NmAt ["die", "labels", "high", "many", "more", "rows", "label", "state", "step"] 6 "label" := ⟨rfl⟩
theorem nm__law_counts_query_7 : NmAt ["die", "labels", "high", "many", "more", "rows", "label", "state", "step"] 7 "state" := ⟨rfl⟩
theorem nm__law_counts_query_8 : NmAt ["die", "labels", "high", "many", "more", "rows", "label", "state", "step"] 8 "step" := ⟨rfl⟩
local macro_rules | `(tactic| walk_at "nms") => `(tactic| first | with_reducible exact nm__law_counts_query_0 | with_reducible exact nm__law_counts_query_1 | with_reducible exact nm__law_counts_query_2 | with_reducible exact nm__law_counts_query_3 | with_reducible exact nm__law_counts_query_4 | with_reducible exact nm__law_counts_query_5 | with_reducible exact nm__law_counts_query_6 | with_reducible exact nm__law_counts_query_7 | with_reducible exact nm__law_counts_query_8)
local macro_rules | `(tactic| walk_at "lc") => `(tactic| first | (refine' ev_lc (own := [("label", 6)]) rfl (by walk_at "nd") ?ok ?h; (case ok => walk_at "blk"); (case h => walk_at "lcm")) | (refine' ev_lc (own := [("state", 7)]) rfl (by walk_at "nd") ?ok ?h; (case ok => walk_at "blk"); (case h => walk_at "lcm")) | (refine' ev_lc (own := [("step", 8)]) rfl (by walk_at "nd") ?ok ?h; (case ok => walk_at "blk"); (case h => walk_at "lcm")))
local macro_rules | `(tactic| walk_at "setC") => `(tactic| first | (refine' ec_setCD (own := [("label", 6)]) ?n ?e ?nd rfl rfl rfl ?ok ?lc ?s ?h ?hi; (case n => walk_at "nms"); (case e => rfl); (case nd => walk_at "nd"); (case ok => walk_at "blk"); (case s => intro _; rfl); (case lc => walk_at "lcm"); (case hi => exact Nat.le_of_ble_eq_true rfl)) | (refine' ec_setCD (own := [("state", 7)]) ?n ?e ?nd rfl rfl rfl ?ok ?lc ?s ?h ?hi; (case n => walk_at "nms"); (case e => rfl); (case nd => walk_at "nd"); (case ok => walk_at "blk"); (case s => intro _; rfl); (case lc => walk_at "lcm"); (case hi => exact Nat.le_of_ble_eq_true rfl)) | (refine' ec_setCD (own := [("step", 8)]) ?n ?e ?nd rfl rfl rfl ?ok ?lc ?s ?h ?hi; (case n => walk_at "nms"); (case e => rfl); (case nd => walk_at "nd"); (case ok => walk_at "blk"); (case s => intro _; rfl); (case lc => walk_at "lcm"); (case hi => exact Nat.le_of_ble_eq_true rfl)))
local macro_rules | `(tactic| walk_at "setCN") => `(tactic| first | (refine' ec_setC (own := [("label", 6)]) ?n ?e ?nd rfl rfl rfl ?ok ?lc ?s ?h; (case n => walk_at "nms"); (case e => rfl); (case nd => walk_at "nd"); (case ok => walk_at "blk"); (case s => intro _; rfl); (case lc => walk_at "lcm")) | (refine' ec_setC (own := [("state", 7)]) ?n ?e ?nd rfl rfl rfl ?ok ?lc ?s ?h; (case n => walk_at "nms"); (case e => rfl); (case nd => walk_at "nd"); (case ok => walk_at "blk"); (case s => intro _; rfl); (case lc => walk_at "lcm")) | (refine' ec_setC (own := [("step", 8)]) ?n ?e ?nd rfl rfl rfl ?ok ?lc ?s ?h; (case n => walk_at "nms"); (case e => rfl); (case nd => walk_at "nd"); (case ok => walk_at "blk"); (case s => intro _; rfl); (case lc => walk_at "lcm")))
theorem ok_law_counts_query {f fd} (h : Has K mg "_law_counts_query" (topS 48) ["die", "labels", "high"] f fd) (hb : NoB mg) (h1 : Ok P w K mg base 1 "_law_pull" ["die", "many"] (spB K R_pull)) (h2 : Ok P w K mg base 2 "_law_names" ["die", "many"] (spB K R_names)) : Ok P w K mg base 3 "_law_counts_query" ["die", "labels", "high"] (spB K (R_drawQ countsQ 1)) := by
  refine Ok.bor h sc__law_counts_query (fun cs ds cs' x ⟨_, _, _, _, e, _⟩ => by rw [e]; rfl) fun cdv A outer s H E hr cs ds cs' y ⟨d, L, hi, e1, e2, e3, e4, hL, h1i, hh, hg⟩ => ?_
  subst e1 e2 e3 e4
  have hl4 := hL.2.1
  have hl1 := hL.1
  have hll : L.length < sizeLine := by unfold sizeLine; omega
  have hp1 : 0 < hi ∧ hi < 2 ^ 200 ∧ Good 1 d := ⟨by omega, Nat.lt_trans (show hi < 2 ^ 3 by omega) (by decide), hg.mono (by omega)⟩
  have hlt := pull_lt (m := hi) d (by omega)
  have g1 : Good 499 (pull hi d).2 := pull_good hg
  have e0 : countsQ L hi d = ((⟨L, (pulls (1 + (pull hi d).1) L (pull hi d).2).1.map fun t => t % (1 + (pull hi d).1), (List.range (1 + (pull hi d).1)).map fun s => (pulls (1 + (pull hi d).1) L (pull hi d).2).1.map fun t => (s + t) % (1 + (pull hi d).1), (namesOf (1 + (pull hi d).1) (pulls (1 + (pull hi d).1) L (pull hi d).2).2).1⟩ : Qu), (namesOf (1 + (pull hi d).1) (pulls (1 + (pull hi d).1) L (pull hi d).2).2).2) := rfl
  rw [e0]
  have hn : 1 ≤ 1 + (pull hi d).1 ∧ 1 + (pull hi d).1 ≤ 6 := by omega
  walk_at "set"
  case h =>
    generalize 1 + (pull hi d).1 = n at *
    generalize (pull hi d).2 = d1 at *
    have hs1 : n < 2 ^ 62 := Nat.lt_trans (show n < 2 ^ 3 by omega) (by decide)
    have hl5 : (List.range n).length < sizeLine := by rw [List.length_range]; unfold sizeLine; omega
    have hh1 : LcHint (fun (_ : Str) d' => pull n d') nD (fun d => [Sl.own (some 0) (.lst d.D), .d (tS L), .d (nD hi), .d (nD n), .no, .no, .no, .no, .no]) d1 L (fun _ s => 0 < n ∧ n < 2 ^ 200 ∧ Good 1 s) := fun j y hy => ⟨by omega, Nat.lt_trans (show n < 2 ^ 3 by omega) (by decide), (mapS_take_costs (n := 1) (k := 0) (fun _ _ => pull_costs n) (g1.mono (by omega)) j (List.getElem?_eq_some_iff.mp hy).1).mono (by omega)⟩
    walk_at "sets"
    case h =>
      clear hh1
      have g2 : Good 495 (pulls n L d1).2 := pulls_costs n L hl4 _ _ (g1.mono (by omega))
      have hml := pulls_len n L d1
      refine ES.slot ?_ (show _ = [Sl.own (some 0) (.lst (pulls n L d1).2.D), .d (tS L), .d (nD hi), .d (nD n), .d (lN (pulls n L d1).1), .no, .no, .no, .no] from rfl)
      generalize pulls n L d1 = more at *
      have hml2 : more.1.length < sizeLine := by rw [hml]; exact hll
      have hnp : 0 < n := by omega
      have hnm : 1 ≤ n ∧ n ≤ 1000 ∧ Good (n + 1) more.2 := ⟨by omega, by omega, g2.mono (by omega)⟩
      walk_at "sets"
      case h =>
        walk_at "ret"
        refine ⟨?_, rfl⟩
        show PyData.tuple _ = PyData.tuple _
        simp only [List.map_map, Function.comp_def, tN_map]
end
end

end
section
abbrev R_both : List D → List D → List D → D → Prop := fun cs ds cs' x => ∃ (d : Die) (a b : Qu), cs = d.D ∧ ds = [a.D, b.D] ∧ cs' = (bothQ a b d).2.D ∧ x = (bothQ a b d).1.D ∧ a.Ok ∧ b.Ok ∧ b.L = a.L ∧ a.rw.length * b.rw.length ≤ 40 ∧ Good 50 d
abbrev R_renum : List D → List D → List D → D → Prop := fun cs ds cs' x => ∃ (d : Die) (q : Qu), cs = d.D ∧ ds = [q.D] ∧ cs' = (renumQ q d).2.D ∧ x = (renumQ q d).1.D ∧ q.Ok ∧ Good 50 d
section
variable {P : Program} {w : World} {K : PySem.W.Frag} {mg : Str → Option Value} {base : Heap}
section
theorem sc__law_last_query : FnScope ["die", "labels", "high", "many", "rows", "state"] ["die", "labels", "high"] (defScope (topS 47)) := ⟨rfl, rfl, rfl, by decide +kernel, rfl, by decide +kernel, by decide +kernel⟩
local macro_rules | `(tactic| walk_at "nd") => `(tactic| exact sc__law_last_query.nd)
local macro_rules | `(tactic| walk_at "blk") => `(tactic| (refine' blkOk_of (N' := ["die", "labels", "high", "many", "rows", "state"]) ?hN ?hs ?h; (case hN => rfl); (case hs => first | exact body_scope | exact blk_scope body_scope | exact blk_scope (blk_scope body_scope)); (case h => decide +kernel)))
theorem nm__law_last_query_0 : NmAt ["die", "labels", "high", "many", "rows", "state"] 0 "die" := ⟨rfl⟩
theorem nm__law_last_query_1 : NmAt ["die", "labels", "high", "many", "rows", "state"] 1 "labels" := ⟨rfl⟩
theorem nm__law_last_query_2 : NmAt ["die", "labels", "high", "many", "rows", "state"] 2 "high" := ⟨rfl⟩
theorem nm__law_last_query_3 : NmAt ["die", "labels", "high", "many", "rows", "state"] 3 "many" := ⟨rfl⟩
theorem nm__law_last_query_4 : NmAt ["die", "labels", "high", "many", "rows", "state"] 4 "rows" := ⟨rfl⟩
theorem nm__law_last_query_5 : NmAt ["die", "labels", "high", "many", "rows", "state"] 5 "state" := ⟨rfl⟩
local macro_rules | `(tactic| walk_at "nms") => `(tactic| first | with_reducible exact nm__law_last_query_0 | with_reducible exact nm__law_last_query_1 | with_reducible exact nm__law_last_query_2 | with_reducible exact nm__law_last_query_3 | with_reducible exact nm__law_last_query_4 | with_reducible exact nm__law_last_query_5)
local macro_rules | `(tactic| walk_at "lc") => `(tactic| first | (refine' ev_lc (own := [("state", 5)]) rfl (by walk_at "nd") ?ok ?h; (case ok => walk_at "blk"); (case h => walk_at "lcm")))
local macro_rules | `(tactic| walk_at "setC") => `(tactic| first | (refine' ec_setCD (own := [("state", 5)]) ?n ?e ?nd rfl rfl rfl ?ok ?lc ?s ?h ?hi; (case n => walk_at "nms"); (case e => rfl); (case nd => walk_at "nd"); (case ok => walk_at "blk"); (case s => intro _; rfl); (case lc => walk_at "lcm"); (case hi => exact Nat.le_of_ble_eq_true rfl)))
local macro_rules | `(tactic| walk_at "setCN") => `(tactic| first | (refine' ec_setC (own := [("state", 5)]) ?n ?e ?nd rfl rfl rfl ?ok ?lc ?s ?h; (case n => walk_at "nms"); (case e => rfl); (case nd => walk_at "nd"); (case ok => walk_at "blk"); (case s => intro _; rfl); (case lc => walk_at "lcm")))
theorem ok_law_last_query {f fd} (h : Has K mg "_law_last_query" (topS 47) ["die", "labels", "high"] f fd) (hb : NoB mg) (h1 : Ok P w K mg base 1 "_law_pull" ["die", "many"] (spB K R_pull)) (h2 : Ok P w K mg base 2 "_law_names" ["die", "many"] (spB K R_names)) : Ok P w K mg base 3 "_law_last_query" ["die", "labels", "high"] (spB K (R_drawQ lastQ 4)) := by
  refine Ok.bor h sc__law_last_query (fun cs ds cs' x ⟨_, _, _, _, e, _⟩ => by rw [e]; rfl) fun cdv A outer s H E hr cs ds cs' y ⟨d, L, hi, e1, e2, e3, e4, hL, h1i, hh, hg⟩ => ?_
  subst e1 e2 e3 e4
  have hl4 := hL.2.1
  have hl1 := hL.1
  have hp1 : 0 < 2 ∧ 2 < 2 ^ 200 ∧ Good 1 d := ⟨by omega, by decide, hg.mono (by omega)⟩
  have g1 : Good 499 (pull 2 d).2 := pull_good hg
  have hs1 : L.length < 2 ^ 62 := Nat.lt_trans (show L.length < 2 ^ 3 by omega) (by decide)
  have hl5 : (List.range L.length).length < sizeLine := by rw [List.length_range]; unfold sizeLine; omega
  walk_at "set"
  case h =>
    obtain ⟨d1, kk, hd⟩ : ∃ (d1 : Die) (kk : Bool), (kk = true ∧ d1 = d ∧ L.length ≠ 2) ∨ (kk = true ∧ d1 = d ∧ L.length = 2 ∧ hi < 4) ∨ (kk = decide ((pull 2 d).1 = 0) ∧ d1 = (pull 2 d).2 ∧ L.length = 2 ∧ ¬ hi < 4) := by
      by_cases h1 : L.length ≠ 2
      · exact ⟨d, true, .inl ⟨rfl, rfl, h1⟩⟩
      · have h1 : L.length = 2 := Classical.byContradiction h1
        by_cases h2 : hi < 4
        · exact ⟨d, true, .inr (.inl ⟨rfl, rfl, h1, h2⟩)⟩
        · exact ⟨_, _, .inr (.inr ⟨rfl, rfl, h1, h2⟩)⟩
    have g2 : Good 499 d1 := by
      rcases hd with ⟨_, z, _⟩ | ⟨_, z, _⟩ | ⟨_, z, _⟩
      · rw [z]; exact hg.mono (by omega)
      · rw [z]; exact hg.mono (by omega)
      · rw [z]; exact g1
    have e0 : lastQ L hi d = if kk = true then lastA L d1 else lastB L d1 := by
      unfold lastQ
      rcases hd with ⟨z1, z2, z3⟩ | ⟨z1, z2, z3, z4⟩ | ⟨z1, z2, z3, z4⟩
      · rw [if_pos (.inl z3), if_pos z1, z2]
      · rw [if_pos (.inr z4), if_pos z1, z2]
      · rw [if_neg (fun z => z.elim (fun z => z z3) z4), z2]
        by_cases z5 : (pull 2 d).1 = 0
        · rw [if_pos z5, if_pos (by rw [z1]; exact decide_eq_true z5)]
        · rw [if_neg z5, if_neg (by rw [z1]; simpa using z5)]
    rw [e0]
    refine' ec_when (k := kk) (ρ1 := [.own (some 0) (.lst d1.D), .d (tS L), .d (nD hi), .d (nD L.length), .no, .no]) ?zc ?z1 ?z2
    case zc =>
      refine' EW.et ?zw
      rcases hd with ⟨z1, z2, z3⟩ | ⟨z1, z2, z3, z4⟩ | ⟨z1, z2, z3, z4⟩
      · subst z1 z2
        refine' ew_orT ?ya ?yb
        case ya => walk_at "et"
        case yb => simpa using z3
      · subst z1 z2
        refine' ew_orF ?xa ?xb (ew_orT ?xc ?xd)
        case xa => walk_at "et"
        case xb => simpa using z3
        case xc => walk_at "et"
        case xd => simpa using z4
      · subst z1 z2
        refine' ew_orF ?wa ?wb (ew_orF ?wc ?wd ?we)
        case wa => walk_at "et"
        case wb => simpa using z3
        case wc => walk_at "et"
        case wd => simpa using z4
        case we => walk_at "ew"
    case z1 =>
      intro hkk
      rw [if_pos hkk]
      have hnm : 1 ≤ L.length ∧ L.length ≤ 1000 ∧ Good (L.length + 1) d1 := ⟨by omega, by omega, g2.mono (by omega)⟩
      walk_at "sets"
      case h =>
        walk_at "ret"
        refine ⟨?_, rfl⟩
        show PyData.tuple _ = PyData.tuple _
        unfold lastA
        simp only [List.map_map, Function.comp_def, tN_map]
    case z2 =>
      intro hkk
      have hkk : ¬ kk = true := by simpa using hkk
      rw [if_neg hkk]
      have hnm : 1 ≤ 4 ∧ 4 ≤ 1000 ∧ Good (4 + 1) d1 := ⟨by omega, by omega, g2.mono (by omega)⟩
      have e1 : lastB L d1 = ((⟨L, [0, 3], [[0, 1], [2, 3], [0, 1], [2, 3]], (namesOf 4 d1).1⟩ : Qu), (namesOf 4 d1).2) := rfl
      rw [e1]
      walk_at "set"
      case h =>
        walk_at "ret"
        clear hnm e1
        generalize namesOf 4 d1 = nm
        exact ⟨rfl, rfl⟩
end
end

end
section
theorem flatten_snoc {α : Type} (l : List (List α)) (x : List α) : (l ++ [x]).flatten = l.flatten ++ x := by
  rw [List.flatten_append, List.flatten_cons, List.flatten_nil, List.append_nil]
section
variable {P : Program} {w : World} {K : PySem.W.Frag} {mg : Str → Option Value} {base : Heap}
section
theorem sc__law_layers_query : FnScope ["die", "labels", "high", "sizes", "rows", "layer", "size", "turns", "spot", "first", "many", "row", "label", "turn"] ["die", "labels", "high"] (defScope (topS 45)) := ⟨rfl, rfl, rfl, by decide +kernel, rfl, by decide +kernel, by decide +kernel⟩
local macro_rules | `(tactic| walk_at "nd") => `(tactic| exact sc__law_layers_query.nd)
local macro_rules | `(tactic| walk_at "blk") => `(tactic| (refine' blkOk_of (N' := ["die", "labels", "high", "sizes", "rows", "layer", "size", "turns", "spot", "first", "many", "row", "label", "turn"]) ?hN ?hs ?h; (case hN => rfl); (case hs => first | exact body_scope | exact blk_scope body_scope | exact blk_scope (blk_scope body_scope)); (case h => decide +kernel)))
theorem nm__law_layers_query_0 : NmAt ["die", "labels", "high", "sizes", "rows", "layer", "size", "turns", "spot", "first", "many", "row", "label", "turn"] 0 "die" := ⟨rfl⟩
theorem nm__law_layers_query_1 : NmAt ["die", "labels", "high", "sizes", "rows", "layer", "size", "turns", "spot", "first", "many", "row", "label", "turn"] 1 "labels" := ⟨rfl⟩
theorem nm__law_layers_query_2 : NmAt ["die", "labels", "high", "sizes", "rows", "layer", "size", "turns", "spot", "first", "many", "row", "label", "turn"] 2 "high" := ⟨rfl⟩
theorem nm__law_layers_query_3 : NmAt ["die", "labels", "high", "sizes", "rows", "layer", "size", "turns", "spot", "first", "many", "row", "label", "turn"] 3 "sizes" := ⟨rfl⟩
theorem nm__law_layers_query_4 : NmAt ["die", "labels", "high", "sizes", "rows", "layer", "size", "turns", "spot", "first", "many", "row", "label", "turn"] 4 "rows" := ⟨rfl⟩
theorem nm__law_layers_query_5 : NmAt ["die", "labels", "high", "sizes", "rows", "layer", "size", "turns", "spot", "first", "many", "row", "label", "turn"] 5 "layer" := ⟨rfl⟩
theorem nm__law_layers_query_6 : NmAt ["die", "labels", "high", "sizes", "rows", "layer", "size", "turns", "spot", "first", "many", "row", "label", "turn"] 6 "size" := ⟨rfl⟩
theorem nm__law_layers_query_7 : NmAt ["die", "labels", "high", "sizes", "rows", "layer", "size", "turns", "spot", "first", "many", "row", "label", "turn"] 7 "turns" := ⟨rfl⟩
theorem nm__law_layers_query_8 : NmAt ["die", "labels", "high", "sizes", "rows", "layer", "size", "turns", "spot", "first", "many", "row", "label", "turn"] 8 "spot" := ⟨rfl⟩
theorem nm__law_layers_query_9 : NmAt ["die", "labels", "high", "sizes", "rows", "layer", "size", "turns", "spot", "first", "many", "row", "label", "turn"] 9 "first" := ⟨rfl⟩
theorem nm__law_layers_query_10 : NmAt ["die", "labels", "high", "sizes", "rows", "layer", "size", "turns", "spot", "first", "many", "row", "label", "turn"] 10 "many" := ⟨rfl⟩
theorem nm__law_layers_query_11 : NmAt ["die", "labels", "high", "sizes", "rows", "layer", "size", "turns", "spot", "first", "many", "row", "label", "turn"] 11 "row" := ⟨rfl⟩
theorem nm__law_layers_query_12 : NmAt ["die", "labels", "high", "sizes", "rows", "layer", "size", "turns", "spot", "first", "many", "row", "label", "turn"] 12 "label" := ⟨rfl⟩
theorem nm__law_layers_query_13 : NmAt ["die", "labels", "high", "sizes", "rows", "layer", "size", "turns", "spot", "first", "many", "row", "label", "turn"] 13 "turn" := ⟨rfl⟩
local macro_rules | `(tactic| walk_at "nms") => `(tactic| first | with_reducible exact nm__law_layers_query_0 | with_reducible exact nm__law_layers_query_1 | with_reducible exact nm__law_layers_query_2 | with_reducible exact nm__law_layers_query_3 | with_reducible exact nm__law_layers_query_4 | with_reducible exact nm__law_layers_query_5 | with_reducible exact nm__law_layers_query_6 | with_reducible exact nm__law_layers_query_7 | with_reducible exact nm__law_layers_query_8 | with_reducible exact nm__law_layers_query_9 | with_reducible exact nm__law_layers_query_10 | with_reducible exact nm__law_layers_query_11 | with_reducible exact nm__law_layers_query_12 | with_reducible exact nm__law_layers_query_13)
local macro_rules | `(tactic| walk_at "lc") => `(tactic| first | (refine' ev_lc (own := [("layer", 5)]) rfl (by walk_at "nd") ?ok ?h; (case ok => walk_at "blk"); (case h => walk_at "lcm")) | (refine' ev_lc (own := [("label", 12)]) rfl (by walk_at "nd") ?ok ?h; (case ok => walk_at "blk"); (case h => walk_at "lcm")) | (refine' ev_lc (own := [("turn", 13)]) rfl (by walk_at "nd") ?ok ?h; (case ok => walk_at "blk"); (case h => walk_at "lcm")))
local macro_rules | `(tactic| walk_at "setC") => `(tactic| first | (refine' ec_setCD (own := [("layer", 5)]) ?n ?e ?nd rfl rfl rfl ?ok ?lc ?s ?h ?hi; (case n => walk_at "nms"); (case e => rfl); (case nd => walk_at "nd"); (case ok => walk_at "blk"); (case s => intro _; rfl); (case lc => walk_at "lcm"); (case hi => exact Nat.le_of_ble_eq_true rfl)) | (refine' ec_setCD (own := [("label", 12)]) ?n ?e ?nd rfl rfl rfl ?ok ?lc ?s ?h ?hi; (case n => walk_at "nms"); (case e => rfl); (case nd => walk_at "nd"); (case ok => walk_at "blk"); (case s => intro _; rfl); (case lc => walk_at "lcm"); (case hi => exact Nat.le_of_ble_eq_true rfl)) | (refine' ec_setCD (own := [("turn", 13)]) ?n ?e ?nd rfl rfl rfl ?ok ?lc ?s ?h ?hi; (case n => walk_at "nms"); (case e => rfl); (case nd => walk_at "nd"); (case ok => walk_at "blk"); (case s => intro _; rfl); (case lc => walk_at "lcm"); (case hi => exact Nat.le_of_ble_eq_true rfl)))
local macro_rules | `(tactic| walk_at "setCN") => `(tactic| first | (refine' ec_setC (own := [("layer", 5)]) ?n ?e ?nd rfl rfl rfl ?ok ?lc ?s ?h; (case n => walk_at "nms"); (case e => rfl); (case nd => walk_at "nd"); (case ok => walk_at "blk"); (case s => intro _; rfl); (case lc => walk_at "lcm")) | (refine' ec_setC (own := [("label", 12)]) ?n ?e ?nd rfl rfl rfl ?ok ?lc ?s ?h; (case n => walk_at "nms"); (case e => rfl); (case nd => walk_at "nd"); (case ok => walk_at "blk"); (case s => intro _; rfl); (case lc => walk_at "lcm")) | (refine' ec_setC (own := [("turn", 13)]) ?n ?e ?nd rfl rfl rfl ?ok ?lc ?s ?h; (case n => walk_at "nms"); (case e => rfl); (case nd => walk_at "nd"); (case ok => walk_at "blk"); (case s => intro _; rfl); (case lc => walk_at "lcm")))
theorem ok_law_layers_query {f fd} (h : Has K mg "_law_layers_query" (topS 45) ["die", "labels", "high"] f fd) (hb : NoB mg) (h1 : Ok P w K mg base 1 "_law_pull" ["die", "many"] (spB K R_pull)) (h2 : Ok P w K mg base 2 "_law_names" ["die", "many"] (spB K R_names)) : Ok P w K mg base 3 "_law_layers_query" ["die", "labels", "high"] (spB K (R_drawQ layersQ 2)) := by
  refine Ok.bor h sc__law_layers_query (fun cs ds cs' x ⟨_, _, _, _, e, _⟩ => by rw [e]; rfl) fun cdv A outer s H E hr cs ds cs' y ⟨d, L, hi, e1, e2, e3, e4, hL, h1i, hh, hg⟩ => ?_
  subst e1 e2 e3 e4
  have hl4 := hL.2.1
  have hl1 := hL.1
  have hll : L.length < sizeLine := by unfold sizeLine; omega
  have hmx : 1 ≤ max 1 (hi / 2) ∧ max 1 (hi / 2) ≤ 3 := by omega
  have hp1 : 0 < max 1 (hi / 2) ∧ max 1 (hi / 2) < 2 ^ 200 ∧ Good 1 d := ⟨by omega, Nat.lt_trans (show max 1 (hi / 2) < 2 ^ 3 by omega) (by decide), hg.mono (by omega)⟩
  have hlt := pull_lt (m := max 1 (hi / 2)) d (by omega)
  have g1 : Good 499 (pull (max 1 (hi / 2)) d).2 := pull_good hg
  have hdv : 0 < 2 ∧ Nat.log2 2 < 9000 := ⟨by decide, by decide +kernel⟩
  have e0 : layersQ L hi d = ((⟨L, (mapS (ring L (sizesOf (1 + (pull (max 1 (hi / 2)) d).1) (pull (max 1 (hi / 2)) d).2).1) (sizesOf (1 + (pull (max 1 (hi / 2)) d).1) (pull (max 1 (hi / 2)) d).2).1.zipIdx (sizesOf (1 + (pull (max 1 (hi / 2)) d).1) (pull (max 1 (hi / 2)) d).2).2).1.flatten.getD 0 default, (mapS (ring L (sizesOf (1 + (pull (max 1 (hi / 2)) d).1) (pull (max 1 (hi / 2)) d).2).1) (sizesOf (1 + (pull (max 1 (hi / 2)) d).1) (pull (max 1 (hi / 2)) d).2).1.zipIdx (sizesOf (1 + (pull (max 1 (hi / 2)) d).1) (pull (max 1 (hi / 2)) d).2).2).1.flatten, (namesOf (mapS (ring L (sizesOf (1 + (pull (max 1 (hi / 2)) d).1) (pull (max 1 (hi / 2)) d).2).1) (sizesOf (1 + (pull (max 1 (hi / 2)) d).1) (pull (max 1 (hi / 2)) d).2).1.zipIdx (sizesOf (1 + (pull (max 1 (hi / 2)) d).1) (pull (max 1 (hi / 2)) d).2).2).1.flatten.length (mapS (ring L (sizesOf (1 + (pull (max 1 (hi / 2)) d).1) (pull (max 1 (hi / 2)) d).2).1) (sizesOf (1 + (pull (max 1 (hi / 2)) d).1) (pull (max 1 (hi / 2)) d).2).1.zipIdx (sizesOf (1 + (pull (max 1 (hi / 2)) d).1) (pull (max 1 (hi / 2)) d).2).2).2).1⟩ : Qu), (namesOf (mapS (ring L (sizesOf (1 + (pull (max 1 (hi / 2)) d).1) (pull (max 1 (hi / 2)) d).2).1) (sizesOf (1 + (pull (max 1 (hi / 2)) d).1) (pull (max 1 (hi / 2)) d).2).1.zipIdx (sizesOf (1 + (pull (max 1 (hi / 2)) d).1) (pull (max 1 (hi / 2)) d).2).2).1.flatten.length (mapS (ring L (sizesOf (1 + (pull (max 1 (hi / 2)) d).1) (pull (max 1 (hi / 2)) d).2).1) (sizesOf (1 + (pull (max 1 (hi / 2)) d).1) (pull (max 1 (hi / 2)) d).2).1.zipIdx (sizesOf (1 + (pull (max 1 (hi / 2)) d).1) (pull (max 1 (hi / 2)) d).2).2).2).2) := rfl
  rw [e0]
  clear e0
  have hs1 : 1 + (pull (max 1 (hi / 2)) d).1 < 2 ^ 62 := Nat.lt_trans (show 1 + (pull (max 1 (hi / 2)) d).1 < 2 ^ 3 by omega) (by decide)
  have hl5 : (List.range (1 + (pull (max 1 (hi / 2)) d).1)).length < sizeLine := by rw [List.length_range]; unfold sizeLine; omega
  have hn : 1 ≤ 1 + (pull (max 1 (hi / 2)) d).1 ∧ 1 + (pull (max 1 (hi / 2)) d).1 ≤ 3 := by omega
  have hsz : Costs 4 (sizesOf (1 + (pull (max 1 (hi / 2)) d).1)) := sizesOf_costs (by omega)
  have hh1 : LcHint (fun (_ : Nat) d' => (1 + (pull 2 d').1, (pull 2 d').2)) nD (fun d => [Sl.own (some 0) (.lst d.D), .d (tS L), .d (nD hi), .no, .no, .no, .no, .no, .no, .no, .no, .no, .no, .no]) (pull (max 1 (hi / 2)) d).2 (List.range (1 + (pull (max 1 (hi / 2)) d).1)) (fun _ s => 0 < 2 ∧ 2 < 2 ^ 200 ∧ Good 1 s) := fun j y hy => ⟨by omega, by decide, (mapS_take_costs (n := 1) (k := 0) (fun _ _ => (pull_costs 2).map (g := fun n => 1 + n)) (by rw [List.length_range]; exact g1.mono (by omega)) j (List.getElem?_eq_some_iff.mp hy).1).mono (by omega)⟩
  walk_at "pair"
  case h =>
    clear hh1
    refine ES.slot ?_ (show _ = [Sl.own (some 0) (.lst (sizesOf (1 + (pull (max 1 (hi / 2)) d).1) (pull (max 1 (hi / 2)) d).2).2.D), .d (tS L), .d (nD hi), .own none (.lst ((sizesOf (1 + (pull (max 1 (hi / 2)) d).1) (pull (max 1 (hi / 2)) d).2).1.map nD)), .own none (.lst []), .no, .no, .no, .no, .no, .no, .no, .no, .no] from rfl)
    refine es_fz (i := 3) rfl ?_
    have hs := sizesOf_ok (1 + (pull (max 1 (hi / 2)) d).1) (pull (max 1 (hi / 2)) d).2
    have hf := layers_flat (L := L) (n := 1 + (pull (max 1 (hi / 2)) d).1) (by omega) (pull (max 1 (hi / 2)) d).2 (sizesOf (1 + (pull (max 1 (hi / 2)) d).1) (pull (max 1 (hi / 2)) d).2).2
    simp only at hf
    have hsum := sum_bounds _ hs.2
    have g2 : Good 495 (sizesOf (1 + (pull (max 1 (hi / 2)) d).1) (pull (max 1 (hi / 2)) d).2).2 := hsz _ _ (g1.mono (by omega))
    generalize sizesOf (1 + (pull (max 1 (hi / 2)) d).1) (pull (max 1 (hi / 2)) d).2 = sz at *
    obtain ⟨sizes, d0⟩ := sz
    simp only at hs hf hsum g2 ⊢
    have hrc : ∀ x ∈ sizes.zipIdx, Costs 10 (ring L sizes x) := fun x hx k d g => by
      unfold ring
      have hx2 := (hs.2 _ (List.mem_of_getElem? (zipIdx_get_mem hx))).2
      have g3 : Good (k + 6) (pulls x.1 L d).2 := pulls_costs _ L hl4 _ _ (g.mono (by omega))
      exact mapS_cost (n := 3) (m := 2) _ (fun _ _ => ringRow_costs) (by rw [List.length_range]; omega) _ _ (g3.mono (by omega))
    have hzl : sizes.zipIdx.length ≤ 3 := by rw [List.length_zipIdx]; omega
    refine' ec_forM ?fi PassesOwn.never rfl (fun i ρ' => ∃ a5 a6 a7 a8 a9 a10 a11, ρ' = [.own (some 0) (.lst (mapS (ring L sizes) (sizes.zipIdx.take i) d0).2.D), .d (tS L), .d (nD hi), .d (lN sizes), .own none (.lst ((mapS (ring L sizes) (sizes.zipIdx.take i) d0).1.flatten.map tN)), a5, a6, a7, a8, a9, a10, a11, .no, .no]) ?f0 ?fs ?fd (fun _ => rfl)
    case fi => walk_at "ei"
    case f0 => exact ⟨_, _, _, _, _, _, _, rfl⟩
    case fs =>
      rintro i ⟨size, layer⟩ ρ' hx ⟨a5, a6, a7, a8, a9, a10, a11, rfl⟩
      have hxm : sizes[layer]? = some size := zipIdx_get_mem (mem_of_get hx)
      have hsz2 := hs.2 size (List.mem_of_getElem? hxm)
      have hts := take_sum_le sizes layer size hxm
      have hi2 := (List.getElem?_eq_some_iff.mp hx).1
      have g3 : Good 475 (mapS (ring L sizes) (sizes.zipIdx.take i) d0).2 := (mapS_take_costs (n := 10) (k := 465) hrc (g2.mono (by omega)) i hi2).mono (by omega)
      have hfl : (mapS (ring L sizes) (sizes.zipIdx.take i) d0).1.flatten.length + size ≤ 6 := by
        rw [mapS_flat_len, List.map_take, List.zipIdx_map_fst]
        have := take_sum_le sizes i size (by
          rw [List.getElem?_zipIdx] at hx
          obtain ⟨a, h1, h2⟩ := Option.map_eq_some_iff.mp hx
          cases h2
          exact h1)
        omega
      rw [mapS_succ _ hx]
      generalize mapS (ring L sizes) (sizes.zipIdx.take i) d0 = m at *
      refine' ⟨_, _, ?feg, ?fes⟩
      case feg => walk_at "eg"
      case fes =>
        walk_at "pair"
        case h =>
          have hh2 : LcHint (fun (_ : Str) d' => pull size d') nD (fun d => [Sl.own (some 0) (.lst d.D), .d (tS L), .d (nD hi), .d (lN sizes), .own none (.lst (m.1.flatten.map tN)), .d (nD layer), .d (nD size), a7, a8, .d (nD (sizes.take layer).sum), .d (nD sizes.sum), a11, .no, .no]) m.2 L (fun _ s => 0 < size ∧ size < 2 ^ 200 ∧ Good 1 s) := fun j y hy => ⟨by omega, Nat.lt_trans (show size < 2 ^ 3 by omega) (by decide), (mapS_take_costs (n := 1) (k := 0) (fun _ _ => pull_costs size) (g3.mono (by omega)) j (List.getElem?_eq_some_iff.mp hy).1).mono (by omega)⟩
          walk_at "sets"
          case h =>
            clear hh2
            have er : ring L sizes (size, layer) m.2 = mapS (ringRow L sizes.sum (sizes.take layer).sum size (pulls size L m.2).1) (List.range size) (pulls size L m.2).2 := rfl
            rw [er]
            have g4 : Good 471 (pulls size L m.2).2 := pulls_costs size L hl4 _ _ (g3.mono (by omega))
            have htl := pulls_len size L m.2
            refine ES.slot ?_ (show _ = [Sl.own (some 0) (.lst (pulls size L m.2).2.D), .d (tS L), .d (nD hi), .d (lN sizes), .own none (.lst (m.1.flatten.map tN)), .d (nD layer), .d (nD size), .d (lN (pulls size L m.2).1), a8, .d (nD (sizes.take layer).sum), .d (nD sizes.sum), a11, .no, .no] from rfl)
            generalize pulls size L m.2 = tu at *
            generalize (sizes.take layer).sum = first at *
            generalize sizes.sum = many at *
            have hs6 : size < 2 ^ 62 := Nat.lt_trans (show size < 2 ^ 3 by omega) (by decide)
            have htl2 : tu.1.length < sizeLine := by rw [htl]; exact hll
            have hsp : 0 < size := by omega
            refine' ec_forM ?ji PassesOwn.never rfl (fun j ρ' => ∃ b8 b11, ρ' = [.own (some 0) (.lst (mapS (ringRow L many first size tu.1) ((List.range size).take j) tu.2).2.D), .d (tS L), .d (nD hi), .d (lN sizes), .own none (.lst ((m.1.flatten ++ (mapS (ringRow L many first size tu.1) ((List.range size).take j) tu.2).1).map tN)), .d (nD layer), .d (nD size), .d (lN tu.1), b8, .d (nD first), .d (nD many), b11, .no, .no]) ?j0 ?js ?jd (fun _ => rfl)
            case ji => walk_at "ei"
            case j0 => exact ⟨a8, a11, by rw [List.take_zero, mapS, List.append_nil]⟩
            case js =>
              rintro j spot ρ' hy ⟨b8, b11, rfl⟩
              have hj2 := (List.getElem?_eq_some_iff.mp hy).1
              have g5 : Good 465 (mapS (ringRow L many first size tu.1) ((List.range size).take j) tu.2).2 := (mapS_take_costs (n := 3) (k := 462) (fun _ _ => ringRow_costs) (by rw [List.length_range]; exact g4.mono (by omega)) j hj2).mono (by omega)
              have hml : (mapS (ringRow L many first size tu.1) ((List.range size).take j) tu.2).1.length ≤ 6 := by
                rw [mapS_length, List.length_take, List.length_range]
                omega
              rw [mapS_succ _ hy, ← List.append_assoc]
              generalize mapS (ringRow L many first size tu.1) ((List.range size).take j) tu.2 = m2 at *
              have hal : (m.1.flatten ++ m2.1).length < sizeLine := by
                rw [List.length_append]
                unfold sizeLine
                omega
              have hal2 : ((m.1.flatten ++ m2.1).map tN).length < sizeLine := by
                rw [List.length_map]
                exact hal
              generalize m.1.flatten ++ m2.1 = acc at *
              refine' ⟨_, _, ?jeg, ?jes⟩
              case jeg => walk_at "eg"
              case jes =>
                walk_at "setsN"
                case h =>
                  have erow : (tu.1.map fun x => nD (first + (spot + x) % size)) = (tu.1.map fun t => first + (spot + t) % size).map nD := by
                    rw [List.map_map]
                    rfl
                  refine ES.own (i := 11) (ds' := (tu.1.map fun t => first + (spot + t) % size).map nD) rfl (congrArg OC.lst erow) ?_
                  have err : ∃ (kk : Bool) (d1 : Die), (kk = false ∧ d1 = m2.2 ∧ ¬ first + size < many) ∨ (kk = decide ((pull 2 m2.2).1 = 0) ∧ d1 = (pull 2 m2.2).2 ∧ first + size < many) := by
                    by_cases hc : first + size < many
                    · exact ⟨_, _, .inr ⟨rfl, rfl, hc⟩⟩
                    · exact ⟨_, _, .inl ⟨rfl, rfl, hc⟩⟩
                  obtain ⟨kk, d1, hd⟩ := err
                  have g6 : Good 464 d1 := by
                    rcases hd with ⟨_, z, _⟩ | ⟨_, z, _⟩
                    · rw [z]; exact g5.mono (by omega)
                    · rw [z]; exact pull_good g5
                  have hkm : kk = true → first + size < many := fun hk => by
                    rcases hd with ⟨z, _, _⟩ | ⟨_, _, z⟩
                    · rw [hk] at z; cases z
                    · exact z
                  have hrow : ringRow L many first size tu.1 spot m2.2 = if kk = true then (((tu.1.map fun t => first + (spot + t) % size).set (pull L.length (pull (many - first - size) d1).2).1 (first + size + (pull (many - first - size) d1).1)), (pull L.length (pull (many - first - size) d1).2).2) else ((tu.1.map fun t => first + (spot + t) % size), d1) := by
                    unfold ringRow
                    rcases hd with ⟨z1, z2, z3⟩ | ⟨z1, z2, z3⟩
                    · simp only [if_neg z3, z1, z2, Bool.false_eq_true, if_false]
                    · simp only [if_pos z3, z1, z2, decide_eq_true_eq]
                  rw [hrow]
                  have hrl : (tu.1.map fun t => first + (spot + t) % size).length = L.length := by rw [List.length_map, htl]
                  generalize (tu.1.map fun t => first + (spot + t) % size) = row at *
                  have hp7 : 0 < 2 ∧ 2 < 2 ^ 200 ∧ Good 1 m2.2 := ⟨by omega, by decide, g5.mono (by omega)⟩
                  refine' ec_when (k := kk) (ρ1 := [.own (some 0) (.lst d1.D), .d (tS L), .d (nD hi), .d (lN sizes), .own none (.lst (acc.map tN)), .d (nD layer), .d (nD size), .d (lN tu.1), .d (nD spot), .d (nD first), .d (nD many), .own none (.lst (row.map nD)), .no, .no]) ?zc ?z1 ?z2
                  case zc =>
                    refine' EW.et ?zw
                    rcases hd with ⟨z1, z2, z3⟩ | ⟨z1, z2, z3⟩
                    · subst z1 z2
                      refine' ew_andF ?ya ?yb
                      case ya => walk_at "et"
                      case yb => simpa using z3
                    · subst z1 z2
                      refine' ew_andT ?xa ?xb ?xc
                      case xa => walk_at "et"
                      case xb => simpa using z3
                      case xc => walk_at "ew"
                  case z1 =>
                    intro hk
                    have hk2 := hkm hk
                    rw [if_pos hk]
                    have hp8 : 0 < many - first - size ∧ many - first - size < 2 ^ 200 ∧ Good 1 d1 := ⟨by omega, Nat.lt_trans (show many - first - size < 2 ^ 3 by omega) (by decide), g6.mono (by omega)⟩
                    have g7 : Good 463 (pull (many - first - size) d1).2 := pull_good g6
                    have hp9 : 0 < L.length ∧ L.length < 2 ^ 200 ∧ Good 1 (pull (many - first - size) d1).2 := ⟨hl1, Nat.lt_trans (show L.length < 2 ^ 3 by omega) (by decide), g7.mono (by omega)⟩
                    have hpl : (pull L.length (pull (many - first - size) d1).2).1 < (row.map nD).length := by
                      rw [List.length_map, hrl]
                      exact pull_lt _ hl1
                    walk_at "sput"
                    case h =>
                      refine es_nil ?_
                      refine ES.own (i := 11) (ds' := (row.set (pull L.length (pull (many - first - size) d1).2).1 (first + size + (pull (many - first - size) d1).1)).map nD) rfl (congrArg OC.lst List.map_set.symm) ?_
                      generalize pull L.length (pull (many - first - size) d1).2 = pk at *
                      generalize row.set pk.1 (first + size + (pull (many - first - size) d1).1) = row2 at *
                      walk_at "expr"
                      case h =>
                        refine es_nil ⟨.d (nD spot), .own none (.lst (row2.map nD)), ?_⟩
                        rw [List.map_append]
                        rfl
                  case z2 =>
                    intro hk
                    rw [if_neg (by rw [hk]; exact fun z => nomatch z)]
                    walk_at "expr"
                    case h =>
                      refine es_nil ⟨.d (nD spot), .own none (.lst (row.map nD)), ?_⟩
                      rw [List.map_append]
                      rfl
            case jd =>
              rintro ρ' ⟨b8, b11, rfl⟩
              have hrl : (List.range size).take (List.range size).length = List.range size := List.take_length
              rw [hrl]
              refine es_nil ⟨.d (nD layer), .d (nD size), .d (lN tu.1), b8, .d (nD first), .d (nD many), b11, ?_⟩
              rw [flatten_snoc]
    case fd =>
      rintro ρ' ⟨a5, a6, a7, a8, a9, a10, a11, rfl⟩
      rw [List.take_length]
      have g4 : Good 465 (mapS (ring L sizes) sizes.zipIdx d0).2 := mapS_cost (n := 10) (m := 3) _ hrc hzl _ _ (g2.mono (by omega))
      obtain ⟨f1, f2⟩ := hf
      generalize mapS (ring L sizes) sizes.zipIdx d0 = m at *
      have hnm : 1 ≤ m.1.flatten.length ∧ m.1.flatten.length ≤ 1000 ∧ Good (m.1.flatten.length + 1) m.2 := ⟨by omega, by omega, g4.mono (by omega)⟩
      have hlp : 0 < m.1.flatten.length := by omega
      generalize m.1.flatten = rows at *
      have hsx : ∀ (X : Cx) (ρ : List Sl), ρ[4]? = some (.own none (.lst (rows.map tN))) → SubX X (.own 4) (.d (nD 0)) ρ (.d (tN (rows.getD 0 default))) := fun X ρ h => sx_map (f := tN) (xs := rows) (sq_own h) hlp
      walk_at "ret"
      exact ⟨rfl, rfl⟩
end
end

end
section
theorem small_log {n : Nat} (h : n < 64) : n.log2 < 6 := log2_lt' (show n < 2 ^ 6 by omega) (by decide)
section
variable {P : Program} {w : World} {K : PySem.W.Frag} {mg : Str → Option Value} {base : Heap}
section
theorem sc__law_both : FnScope ["die", "first", "second", "rows", "row", "firsts", "wide", "labels", "other", "one", "two"] ["die", "first", "second"] (defScope (topS 49)) := ⟨rfl, rfl, rfl, by decide +kernel, rfl, by decide +kernel, by decide +kernel⟩
local macro_rules | `(tactic| walk_at "nd") => `(tactic| exact sc__law_both.nd)
local macro_rules | `(tactic| walk_at "blk") => `(tactic| (refine' blkOk_of (N' := ["die", "first", "second", "rows", "row", "firsts", "wide", "labels", "other", "one", "two"]) ?hN ?hs ?h; (case hN => rfl); (case hs => first | exact body_scope | exact blk_scope body_scope | exact blk_scope (blk_scope body_scope)); (case h => decide +kernel)))
theorem nm__law_both_0 : NmAt ["die", "first", "second", "rows", "row", "firsts", "wide", "labels", "other", "one", "two"] 0 "die" := ⟨rfl⟩
theorem nm__law_both_1 : NmAt ["die", "first", "second", "rows", "row", "firsts", "wide", "labels", "other", "one", "two"] 1 "first" := ⟨rfl⟩
theorem nm__law_both_2 : NmAt ["die", "first", "second", "rows", "row", "firsts", "wide", "labels", "other", "one", "two"] 2 "second" := ⟨rfl⟩
theorem nm__law_both_3 : NmAt ["die", "first", "second", "rows", "row", "firsts", "wide", "labels", "other", "one", "two"] 3 "rows" := ⟨rfl⟩
theorem nm__law_both_4 : NmAt ["die", "first", "second", "rows", "row", "firsts", "wide", "labels", "other", "one", "two"] 4 "row" := ⟨rfl⟩
theorem nm__law_both_5 : NmAt ["die", "first", "second", "rows", "row", "firsts", "wide", "labels", "other", "one", "two"] 5 "firsts" := ⟨rfl⟩
theorem nm__law_both_6 : NmAt ["die", "first", "second", "rows", "row", "firsts", "wide", "labels", "other", "one", "two"] 6 "wide" := ⟨rfl⟩
theorem nm__law_both_7 : NmAt ["die", "first", "second", "rows", "row", "firsts", "wide", "labels", "other", "one", "two"] 7 "labels" := ⟨rfl⟩
theorem nm__law_both_8 : NmAt ["die", "first", "second", "rows", "row", "firsts", "wide", "labels", "other", "one", "two"] 8 "other" := ⟨rfl⟩
theorem nm__law_both_9 : NmAt ["die", "first", "second", "rows", "row", "firsts", "wide", "labels", "other", "one", "two"] 9 "one" := ⟨rfl⟩
theorem nm__law_both_10 : NmAt ["die", "first", "second", "rows", "row", "firsts", "wide", "labels", "other", "one", "two"] 10 "two" := ⟨rfl⟩
local macro_rules | `(tactic| walk_at "nms") => `(tactic| first | with_reducible exact nm__law_both_0 | with_reducible exact nm__law_both_1 | with_reducible exact nm__law_both_2 | with_reducible exact nm__law_both_3 | with_reducible exact nm__law_both_4 | with_reducible exact nm__law_both_5 | with_reducible exact nm__law_both_6 | with_reducible exact nm__law_both_7 | with_reducible exact nm__law_both_8 | with_reducible exact nm__law_both_9 | with_reducible exact nm__law_both_10)
local macro_rules | `(tactic| walk_at "lc") => `(tactic| first | (refine' ev_lc (own := [("one", 9), ("two", 10)]) rfl (by walk_at "nd") ?ok ?h; (case ok => walk_at "blk"); (case h => walk_at "lcm")))
local macro_rules | `(tactic| walk_at "setC") => `(tactic| first | (refine' ec_setCD (own := [("one", 9), ("two", 10)]) ?n ?e ?nd rfl rfl rfl ?ok ?lc ?s ?h ?hi; (case n => walk_at "nms"); (case e => rfl); (case nd => walk_at "nd"); (case ok => walk_at "blk"); (case s => intro _; rfl); (case lc => walk_at "lcm"); (case hi => exact Nat.le_of_ble_eq_true rfl)))
local macro_rules | `(tactic| walk_at "setCN") => `(tactic| first | (refine' ec_setC (own := [("one", 9), ("two", 10)]) ?n ?e ?nd rfl rfl rfl ?ok ?lc ?s ?h; (case n => walk_at "nms"); (case e => rfl); (case nd => walk_at "nd"); (case ok => walk_at "blk"); (case s => intro _; rfl); (case lc => walk_at "lcm")))
theorem ok_law_both {f fd} (h : Has K mg "_law_both" (topS 49) ["die", "first", "second"] f fd) (hb : NoB mg) (h2 : Ok P w K mg base 2 "_law_names" ["die", "many"] (spB K R_names)) : Ok P w K mg base 3 "_law_both" ["die", "first", "second"] (spB K R_both) := by
  refine Ok.bor h sc__law_both (fun cs ds cs' x ⟨_, _, _, _, e, _⟩ => by rw [e]; rfl) fun cdv A outer s H E hr cs ds cs' y ⟨d, a, b, e1, e2, e3, e4, oa, ob, hLL, hab, hg⟩ => ?_
  subst e1 e2 e3 e4
  have ha2 := oa.n2
  have hb2 := ob.n2
  have hb1 := ob.n1
  have ha1 := oa.n1
  have hal4 := oa.labs.2.1
  have hbl4 := ob.labs.2.1
  have hmul : ∀ (r o : List Nat), (∀ x ∈ r, x < a.rw.length) → ∀ p ∈ r.zip o, p.1.log2 + b.rw.length.log2 < 1000000 := fun r o hr p hp => by
    have h1 := small_log (show p.1 < 64 by have := hr _ (List.of_mem_zip hp).1; omega)
    have h2 := small_log (show b.rw.length < 64 by omega)
    omega
  have hzl : ∀ (r o : List Nat), r.length = a.L.length → (r.zip o).length < sizeLine := fun r o hr => by
    rw [List.length_zip, hr]
    unfold sizeLine
    omega
  walk_at "pair"
  case h =>
    walk_at "setsN"
    case h =>
      refine' ec_forM ?fi PassesOwn.never rfl (fun i ρ' => ∃ a4 a8, ρ' = [.own (some 0) (.lst d.D), .d a.D, .d b.D, .own none (.lst (((a.rw.take i).flatMap fun r => b.rw.map fun o => bothRow b.rw.length r o).map tN)), a4, .no, .d (nD b.rw.length), .d (tS a.L), a8, .no, .no]) ?f0 ?fs ?fd (fun _ => rfl)
      case fi => walk_at "ei"
      case f0 => exact ⟨_, _, rfl⟩
      case fs =>
        rintro i r ρ' hx ⟨a4, a8, rfl⟩
        have hrm := oa.rw r (List.mem_of_getElem? hx)
        have hil := (List.getElem?_eq_some_iff.mp hx).1
        have htk : (a.rw.take (i + 1)).flatMap (fun r => b.rw.map fun o => bothRow b.rw.length r o) = ((a.rw.take i).flatMap fun r => b.rw.map fun o => bothRow b.rw.length r o) ++ b.rw.map fun o => bothRow b.rw.length r o := by
          rw [List.take_add_one, hx, Option.toList_some, List.flatMap_append, List.flatMap_cons, List.flatMap_nil, List.append_nil]
        have hacl : ((a.rw.take i).flatMap fun r => b.rw.map fun o => bothRow b.rw.length r o).length ≤ 1600 := by
          rw [List.length_flatMap]
          simp only [List.length_map]
          have : ∀ l : List (List Nat), (l.map fun _ => b.rw.length).sum = l.length * b.rw.length := by
            intro l
            induction l with
            | nil => simp
            | cons r rs ih => rw [List.map_cons, List.sum_cons, ih, List.length_cons, Nat.succ_mul]; omega
          rw [this]
          calc (a.rw.take i).length * b.rw.length ≤ 40 * 40 := Nat.mul_le_mul (by rw [List.length_take]; omega) hb2
            _ = 1600 := by decide
        rw [htk]
        generalize (a.rw.take i).flatMap (fun r => b.rw.map fun o => bothRow b.rw.length r o) = acc at *
        refine' ⟨_, _, ?feg, ?fes⟩
        case feg => walk_at "eg"
        case fes =>
          refine' ec_forM ?ji PassesOwn.never rfl (fun j ρ' => ∃ a8, ρ' = [.own (some 0) (.lst d.D), .d a.D, .d b.D, .own none (.lst ((acc ++ (b.rw.take j).map fun o => bothRow b.rw.length r o).map tN)), .d (tN r), .no, .d (nD b.rw.length), .d (tS a.L), a8, .no, .no]) ?j0 ?js ?jd (fun _ => rfl)
          case ji => walk_at "ei"
          case j0 => exact ⟨a8, by rw [List.take_zero, List.map_nil, List.append_nil]; rfl⟩
          case js =>
            rintro j o ρ' hy ⟨a8, rfl⟩
            have hjl := (List.getElem?_eq_some_iff.mp hy).1
            have htk2 : (b.rw.take (j + 1)).map (fun o => bothRow b.rw.length r o) = (b.rw.take j).map (fun o => bothRow b.rw.length r o) ++ [bothRow b.rw.length r o] := by
              rw [List.take_add_one, hy, Option.toList_some, List.map_append, List.map_cons, List.map_nil]
            have hcl : (acc ++ (b.rw.take j).map fun o => bothRow b.rw.length r o).length < sizeLine := by
              rw [List.length_append, List.length_map, List.length_take]
              unfold sizeLine
              omega
            rw [htk2, ← List.append_assoc]
            generalize acc ++ (b.rw.take j).map (fun o => bothRow b.rw.length r o) = ac2 at *
            have hm2 := hmul r o hrm.2
            have hz2 := hzl r o hrm.1
            have hcl2 : (ac2.map tN).length < sizeLine := by
              rw [List.length_map]
              exact hcl
            refine' ⟨_, _, ?jeg, ?jes⟩
            case jeg => walk_at "eg"
            case jes =>
              walk_at "expr"
              case h =>
                refine es_nil ⟨.d (tN o), ?_⟩
                unfold bothRow
                rw [List.map_append, List.map_cons, List.map_nil, tN_map]
                rfl
          case jd =>
            rintro ρ' ⟨a8, rfl⟩
            rw [List.take_length]
            exact es_nil ⟨.d (tN r), a8, rfl⟩
      case fd =>
        rintro ρ' ⟨a4, a8, rfl⟩
        rw [List.take_length]
        have hm2 := hmul a.ro b.ro oa.ro.2
        have hz2 := hzl a.ro b.ro oa.ro.1
        have hnl := bothRows_len a b
        have hmm : 1 ≤ a.rw.length * b.rw.length := Nat.mul_le_mul ha1 hb1
        have e1 : bothQ a b d = ((⟨a.L, bothRow b.rw.length a.ro b.ro, bothRows a b, (namesOf (bothRows a b).length d).1⟩ : Qu), (namesOf (bothRows a b).length d).2) := rfl
        rw [e1]
        refine ES.own (i := 3) (ds' := (bothRows a b).map tN) rfl rfl ?_
        generalize bothRows a b = rows at *
        walk_at "sets"
        case h =>
          have hnm : 1 ≤ rows.length ∧ rows.length ≤ 1000 ∧ Good (rows.length + 1) d := ⟨by omega, by omega, hg.mono (by omega)⟩
          walk_at "ret"
          clear hnm e1
          generalize namesOf rows.length d = nm
          refine ⟨?_, rfl⟩
          unfold bothRow
          show PyData.tuple [_, PyData.tuple _, _, _] = PyData.tuple [_, tN _, _, _]
          rw [tN_map]
end
section
theorem sc__law_renumbered : FnScope ["die", "query", "order", "moves", "firsts", "labels", "roots", "rows", "colours", "state", "later"] ["die", "query"] (defScope (topS 50)) := ⟨rfl, rfl, rfl, by decide +kernel, rfl, by decide +kernel, by decide +kernel⟩
local macro_rules | `(tactic| walk_at "nd") => `(tactic| exact sc__law_renumbered.nd)
local macro_rules | `(tactic| walk_at "blk") => `(tactic| (refine' blkOk_of (N' := ["die", "query", "order", "moves", "firsts", "labels", "roots", "rows", "colours", "state", "later"]) ?hN ?hs ?h; (case hN => rfl); (case hs => first | exact body_scope | exact blk_scope body_scope | exact blk_scope (blk_scope body_scope)); (case h => decide +kernel)))
theorem nm__law_renumbered_0 : NmAt ["die", "query", "order", "moves", "firsts", "labels", "roots", "rows", "colours", "state", "later"] 0 "die" := ⟨rfl⟩
theorem nm__law_renumbered_1 : NmAt ["die", "query", "order", "moves", "firsts", "labels", "roots", "rows", "colours", "state", "later"] 1 "query" := ⟨rfl⟩
theorem nm__law_renumbered_2 : NmAt ["die", "query", "order", "moves", "firsts", "labels", "roots", "rows", "colours", "state", "later"] 2 "order" := ⟨rfl⟩
theorem nm__law_renumbered_3 : NmAt ["die", "query", "order", "moves", "firsts", "labels", "roots", "rows", "colours", "state", "later"] 3 "moves" := ⟨rfl⟩
theorem nm__law_renumbered_4 : NmAt ["die", "query", "order", "moves", "firsts", "labels", "roots", "rows", "colours", "state", "later"] 4 "firsts" := ⟨rfl⟩
theorem nm__law_renumbered_5 : NmAt ["die", "query", "order", "moves", "firsts", "labels", "roots", "rows", "colours", "state", "later"] 5 "labels" := ⟨rfl⟩
theorem nm__law_renumbered_6 : NmAt ["die", "query", "order", "moves", "firsts", "labels", "roots", "rows", "colours", "state", "later"] 6 "roots" := ⟨rfl⟩
theorem nm__law_renumbered_7 : NmAt ["die", "query", "order", "moves", "firsts", "labels", "roots", "rows", "colours", "state", "later"] 7 "rows" := ⟨rfl⟩
theorem nm__law_renumbered_8 : NmAt ["die", "query", "order", "moves", "firsts", "labels", "roots", "rows", "colours", "state", "later"] 8 "colours" := ⟨rfl⟩
theorem nm__law_renumbered_9 : NmAt ["die", "query", "order", "moves", "firsts", "labels", "roots", "rows", "colours", "state", "later"] 9 "state" := ⟨rfl⟩
theorem nm__law_renumbered_10 : NmAt ["die", "query", "order", "moves", "firsts", "labels", "roots", "rows", "colours", "state", "later"] 10 "later" := ⟨rfl⟩
local macro_rules | `(tactic| walk_at "nms") => `(tactic| first | with_reducible exact nm__law_renumbered_0 | with_reducible exact nm__law_renumbered_1 | with_reducible exact nm__law_renumbered_2 | with_reducible exact nm__law_renumbered_3 | with_reducible exact nm__law_renumbered_4 | with_reducible exact nm__law_renumbered_5 | with_reducible exact nm__law_renumbered_6 | with_reducible exact nm__law_renumbered_7 | with_reducible exact nm__law_renumbered_8 | with_reducible exact nm__law_renumbered_9 | with_reducible exact nm__law_renumbered_10)
local macro_rules | `(tactic| walk_at "lc") => `(tactic| first | (refine' ev_lc (own := [("state", 9)]) rfl (by walk_at "nd") ?ok ?h; (case ok => walk_at "blk"); (case h => walk_at "lcm")) | (refine' ev_lc (own := [("later", 10)]) rfl (by walk_at "nd") ?ok ?h; (case ok => walk_at "blk"); (case h => walk_at "lcm")))
local macro_rules | `(tactic| walk_at "setC") => `(tactic| first | (refine' ec_setCD (own := [("state", 9)]) ?n ?e ?nd rfl rfl rfl ?ok ?lc ?s ?h ?hi; (case n => walk_at "nms"); (case e => rfl); (case nd => walk_at "nd"); (case ok => walk_at "blk"); (case s => intro _; rfl); (case lc => walk_at "lcm"); (case hi => exact Nat.le_of_ble_eq_true rfl)) | (refine' ec_setCD (own := [("later", 10)]) ?n ?e ?nd rfl rfl rfl ?ok ?lc ?s ?h ?hi; (case n => walk_at "nms"); (case e => rfl); (case nd => walk_at "nd"); (case ok => walk_at "blk"); (case s => intro _; rfl); (case lc => walk_at "lcm"); (case hi => exact Nat.le_of_ble_eq_true rfl)))
local macro_rules | `(tactic| walk_at "setCN") => `(tactic| first | (refine' ec_setC (own := [("state", 9)]) ?n ?e ?nd rfl rfl rfl ?ok ?lc ?s ?h; (case n => walk_at "nms"); (case e => rfl); (case nd => walk_at "nd"); (case ok => walk_at "blk"); (case s => intro _; rfl); (case lc => walk_at "lcm")) | (refine' ec_setC (own := [("later", 10)]) ?n ?e ?nd rfl rfl rfl ?ok ?lc ?s ?h; (case n => walk_at "nms"); (case e => rfl); (case nd => walk_at "nd"); (case ok => walk_at "blk"); (case s => intro _; rfl); (case lc => walk_at "lcm")))
theorem ok_law_renumbered {f fd} (h : Has K mg "_law_renumbered" (topS 50) ["die", "query"] f fd) (hb : NoB mg) (h2 : Ok P w K mg base 2 "_law_shuffled" ["die", "items"] (spB K R_shuffled)) : Ok P w K mg base 3 "_law_renumbered" ["die", "query"] (spB K R_renum) := by
  refine Ok.bor h sc__law_renumbered (fun cs ds cs' x ⟨_, _, _, e, _⟩ => by rw [e]; rfl) fun cdv A outer s H E hr cs ds cs' y ⟨d, q, e1, e2, e3, e4, ok, hg⟩ => ?_
  subst e1 e2 e3 e4
  have hn2 := ok.n2
  have hsm : q.rw.length ≤ 1000000 := by omega
  have hsh : R_shuffled d.D [.list ((List.range q.rw.length).map nD)] (shuffle (List.range q.rw.length) d).2.D (.list ((shuffle (List.range q.rw.length) d).1.map nD)) :=
    ⟨Nat, inferInstance, inferInstance, nD, Tru, 1, _, _, enc_nat, dp_nat, by decide, fun _ _ => trivial, rfl, ⟨_, rfl, fun _ => sq_list⟩, rfl, rfl, by rw [List.length_range]; omega, hg.mono (by rw [List.length_range]; omega)⟩
  have hperm := shuffle_perm (List.range q.rw.length) d
  have e0 : renumQ q d = (renum q (shuffle (List.range q.rw.length) d).1, (shuffle (List.range q.rw.length) d).2) := rfl
  rw [e0]
  generalize shuffle (List.range q.rw.length) d = sh at *
  have hl : sh.1.length = q.rw.length := by rw [hperm.length_eq, List.length_range]
  have hm : ∀ s, s < q.rw.length ↔ s ∈ sh.1 := fun s => by rw [hperm.mem_iff, List.mem_range]
  have hB : ∀ k ∈ sh.1, k < q.rw.length := fun k hk => (hm k).mpr hk
  have hD : ∀ k ∈ sh.1, ∀ l ∈ q.rw.getD k default, l ∈ sh.1 := fun k hk l hl2 => (hm l).mp ((ok.row (hB k hk)).2 l hl2)
  have hF : ∀ s ∈ q.ro, s ∈ sh.1 := fun s hs => (hm s).mp (ok.ro.2 s hs)
  have hG : ∀ k ∈ sh.1, k < q.co.length := fun k hk => by rw [ok.cn]; exact hB k hk
  have l1 : sh.1.length < sizeLine := by rw [hl]; unfold sizeLine; omega
  have l2 : ∀ k ∈ sh.1, (q.rw.getD k default).length < sizeLine := fun k hk => by
    rw [(ok.row (hB k hk)).1]
    have := ok.labs.2.1
    unfold sizeLine
    omega
  have l3 : q.ro.length < sizeLine := by
    rw [ok.ro.1]
    have := ok.labs.2.1
    unfold sizeLine
    omega
  walk_at "asg"
  case h =>
    walk_at "sets"
    case h =>
      walk_at "sets"
      case h =>
        walk_at "sets"
        case h =>
          walk_at "ret"
          refine ⟨?_, rfl⟩
          show PyData.tuple _ = PyData.tuple _
          unfold renum tN tS
          simp only [List.map_map, Function.comp_def]
end
end

end
section
abbrev R_query : List D → List D → List D → D → Prop := fun cs ds cs' x => ∃ (d : Die) (L : List Str) (h : Nat), cs = d.D ∧ ds = [tS L, nD h] ∧ cs' = (queryOf L h d).2.D ∧ x = (queryOf L h d).1.D ∧ Labs L ∧ 4 ≤ h ∧ h ≤ 6 ∧ Good 1500 d
abbrev R_short : List D → D → Prop := fun ds x => ∃ (L : List Str) (h : Nat), ds = [tS L, nD h] ∧ x = .list ((shortOf L h).map tS) ∧ Labs L ∧ h ≤ 3
abbrev R_paths : List D → List D → List D → D → Prop := fun cs ds cs' x => ∃ (d : Die) (L : List Str), cs = d.D ∧ ds = [tS L] ∧ cs' = (pathsOf L d).2.D ∧ x = .list ((pathsOf L d).1.map tS) ∧ Labs L ∧ Good 160 d
section
variable {P : Program} {w : World} {K : PySem.W.Frag} {mg : Str → Option Value} {base : Heap}
section
theorem sc__law_query : FnScope ["die", "labels", "high", "way", "first", "others"] ["die", "labels", "high"] (defScope (topS 51)) := ⟨rfl, rfl, rfl, by decide +kernel, rfl, by decide +kernel, by decide +kernel⟩
local macro_rules | `(tactic| walk_at "nd") => `(tactic| exact sc__law_query.nd)
local macro_rules | `(tactic| walk_at "blk") => `(tactic| (refine' blkOk_of (N' := ["die", "labels", "high", "way", "first", "others"]) ?hN ?hs ?h; (case hN => rfl); (case hs => first | exact body_scope | exact blk_scope body_scope | exact blk_scope (blk_scope body_scope)); (case h => decide +kernel)))
theorem nm__law_query_0 : NmAt ["die", "labels", "high", "way", "first", "others"] 0 "die" := ⟨rfl⟩
theorem nm__law_query_1 : NmAt ["die", "labels", "high", "way", "first", "others"] 1 "labels" := ⟨rfl⟩
theorem nm__law_query_2 : NmAt ["die", "labels", "high", "way", "first", "others"] 2 "high" := ⟨rfl⟩
theorem nm__law_query_3 : NmAt ["die", "labels", "high", "way", "first", "others"] 3 "way" := ⟨rfl⟩
theorem nm__law_query_4 : NmAt ["die", "labels", "high", "way", "first", "others"] 4 "first" := ⟨rfl⟩
theorem nm__law_query_5 : NmAt ["die", "labels", "high", "way", "first", "others"] 5 "others" := ⟨rfl⟩
local macro_rules | `(tactic| walk_at "nms") => `(tactic| first | with_reducible exact nm__law_query_0 | with_reducible exact nm__law_query_1 | with_reducible exact nm__law_query_2 | with_reducible exact nm__law_query_3 | with_reducible exact nm__law_query_4 | with_reducible exact nm__law_query_5)
theorem ok_law_query {f fd} (h : Has K mg "_law_query" (topS 51) ["die", "labels", "high"] f fd) (hb : NoB mg) (h1 : Ok P w K mg base 1 "_law_pull" ["die", "many"] (spB K R_pull)) (q1 : Ok P w K mg base 3 "_law_any_query" ["die", "labels", "high"] (spB K (R_drawQ anyQ 1))) (q2 : Ok P w K mg base 3 "_law_steps_query" ["die", "labels", "high"] (spB K (R_drawQ stepsQ 2))) (q3 : Ok P w K mg base 3 "_law_layers_query" ["die", "labels", "high"] (spB K (R_drawQ layersQ 2))) (q4 : Ok P w K mg base 3 "_law_depth_query" ["die", "labels", "high"] (spB K (R_drawQ depthQ 2))) (q5 : Ok P w K mg base 3 "_law_last_query" ["die", "labels", "high"] (spB K (R_drawQ lastQ 4))) (q6 : Ok P w K mg base 3 "_law_counts_query" ["die", "labels", "high"] (spB K (R_drawQ countsQ 1))) (q7 : Ok P w K mg base 3 "_law_both" ["die", "first", "second"] (spB K R_both)) (q8 : Ok P w K mg base 3 "_law_renumbered" ["die", "query"] (spB K R_renum)) : Ok P w K mg base 4 "_law_query" ["die", "labels", "high"] (spB K R_query) := by
  refine Ok.bor h sc__law_query (fun cs ds cs' x ⟨_, _, _, _, e, _⟩ => by rw [e]; rfl) fun cdv A outer s H E hr cs ds cs' y ⟨d, L, hi, e1, e2, e3, e4, hL, h4, h6, hg⟩ => ?_
  subst e1 e2 e3 e4
  have hp1 : 0 < 10 ∧ 10 < 2 ^ 200 ∧ Good 1 d := ⟨by decide, by decide, hg.mono (by omega)⟩
  have g1 : Good 1499 (pull 10 d).2 := pull_good hg
  have hl4 := hL.2.1
  have hdv : 0 < 2 ∧ Nat.log2 2 < 9000 := ⟨by decide, by decide +kernel⟩
  have e0 : queryOf L hi d = if (pull 10 d).1 < 2 then anyQ L hi (pull 10 d).2 else if (pull 10 d).1 < 4 then stepsQ L hi (pull 10 d).2 else if (pull 10 d).1 < 6 then layersQ L hi (pull 10 d).2 else if (pull 10 d).1 = 6 then depthQ L hi (pull 10 d).2 else if (pull 10 d).1 = 7 then lastQ L hi (pull 10 d).2 else if (pull 10 d).1 = 8 then countsQ L hi (pull 10 d).2 else mixQ L hi (pull 10 d).2 := rfl
  rw [e0]
  clear e0
  walk_at "set"
  case h =>
    generalize pull 10 d = way at *
    have hc1 : Labs L ∧ 1 ≤ hi ∧ hi ≤ 6 ∧ Good 500 way.2 := ⟨hL, by omega, h6, g1.mono (by omega)⟩
    have hc2 : Labs L ∧ 2 ≤ hi ∧ hi ≤ 6 ∧ Good 500 way.2 := ⟨hL, by omega, h6, g1.mono (by omega)⟩
    have hc4 : Labs L ∧ 4 ≤ hi ∧ hi ≤ 6 ∧ Good 500 way.2 := ⟨hL, by omega, h6, g1.mono (by omega)⟩
    walk_at "if"
    case h1 =>
      intro hk
      rw [if_pos (of_decide_eq_true hk)]
      walk_at "ret"
      exact ⟨rfl, rfl⟩
    case h2 =>
      intro hk
      rw [if_neg (of_decide_eq_false hk)]
      walk_at "if"
      case h1 =>
        intro hk
        rw [if_pos (of_decide_eq_true hk)]
        walk_at "ret"
        exact ⟨rfl, rfl⟩
      case h2 =>
        intro hk
        rw [if_neg (of_decide_eq_false hk)]
        walk_at "if"
        case h1 =>
          intro hk
          rw [if_pos (of_decide_eq_true hk)]
          walk_at "ret"
          exact ⟨rfl, rfl⟩
        case h2 =>
          intro hk
          rw [if_neg (of_decide_eq_false hk)]
          walk_at "if"
          case h1 =>
            intro hk
            rw [if_pos (of_decide_eq_true hk)]
            walk_at "ret"
            exact ⟨rfl, rfl⟩
          case h2 =>
            intro hk
            rw [if_neg (of_decide_eq_false hk)]
            walk_at "if"
            case h1 =>
              intro hk
              rw [if_pos (of_decide_eq_true hk)]
              walk_at "ret"
              exact ⟨rfl, rfl⟩
            case h2 =>
              intro hk
              rw [if_neg (of_decide_eq_false hk)]
              walk_at "if"
              case h1 =>
                intro hk
                rw [if_pos (of_decide_eq_true hk)]
                walk_at "ret"
                exact ⟨rfl, rfl⟩
              case h2 =>
                intro hk
                rw [if_neg (of_decide_eq_false hk)]
                obtain ⟨p1, p2, p3⟩ := mix_parts hL h4 (by omega) way.2
                have e1 : mixQ L hi way.2 = renumQ (bothQ (stepsQ L 2 way.2).1 ([(countsQ L (hi / 2) (stepsQ L 2 way.2).2).1, (stepsQ L (hi / 2) (countsQ L (hi / 2) (stepsQ L 2 way.2).2).2).1].getD (pull 2 (stepsQ L (hi / 2) (countsQ L (hi / 2) (stepsQ L 2 way.2).2).2).2).1 (countsQ L (hi / 2) (stepsQ L 2 way.2).2).1) (pull 2 (stepsQ L (hi / 2) (countsQ L (hi / 2) (stepsQ L 2 way.2).2).2).2).2).1 (bothQ (stepsQ L 2 way.2).1 ([(countsQ L (hi / 2) (stepsQ L 2 way.2).2).1, (stepsQ L (hi / 2) (countsQ L (hi / 2) (stepsQ L 2 way.2).2).2).1].getD (pull 2 (stepsQ L (hi / 2) (countsQ L (hi / 2) (stepsQ L 2 way.2).2).2).2).1 (countsQ L (hi / 2) (stepsQ L 2 way.2).2).1) (pull 2 (stepsQ L (hi / 2) (countsQ L (hi / 2) (stepsQ L 2 way.2).2).2).2).2).2 := rfl
                rw [e1]
                clear e1
                have hs1 : Labs L ∧ 2 ≤ 2 ∧ 2 ≤ 6 ∧ Good 500 way.2 := ⟨hL, by omega, by omega, g1.mono (by omega)⟩
                have g2 : Good 1399 (stepsQ L 2 way.2).2 := stepsQ_costs hl4 (by omega) (by omega) _ _ (g1.mono (by omega))
                walk_at "set"
                case h =>
                  generalize stepsQ L 2 way.2 = first at *
                  have hs2 : Labs L ∧ 1 ≤ hi / 2 ∧ hi / 2 ≤ 6 ∧ Good 500 first.2 := ⟨hL, by omega, by omega, g2.mono (by omega)⟩
                  have g3 : Good 1299 (countsQ L (hi / 2) first.2).2 := countsQ_costs hl4 (by omega) (by omega) _ _ (g2.mono (by omega))
                  have hs3 : Labs L ∧ 2 ≤ hi / 2 ∧ hi / 2 ≤ 6 ∧ Good 500 (countsQ L (hi / 2) first.2).2 := ⟨hL, by omega, by omega, g3.mono (by omega)⟩
                  have g4 : Good 1199 (stepsQ L (hi / 2) (countsQ L (hi / 2) first.2).2).2 := stepsQ_costs hl4 (by omega) (by omega) _ _ (g3.mono (by omega))
                  walk_at "setN"
                  case h =>
                    clear hs2 hs3
                    generalize countsQ L (hi / 2) first.2 = o1 at *
                    generalize stepsQ L (hi / 2) o1.2 = o2 at *
                    have hp2 : 0 < 2 ∧ 2 < 2 ^ 200 ∧ Good 1 o2.2 := ⟨by decide, by decide, g4.mono (by omega)⟩
                    have hlt := pull_lt (m := 2) o2.2 (by decide)
                    have g5 : Good 1198 (pull 2 o2.2).2 := pull_good g4
                    have hsx : SxOwn 5 (.lst [o1.1.D, o2.1.D]) (nD (pull 2 o2.2).1) ([o1.1, o2.1].getD (pull 2 o2.2).1 o1.1).D := fun X ρ h => by
                      have hx : ([o1.1.D, o2.1.D] : List D)[(pull 2 o2.2).1]? = some ([o1.1, o2.1].getD (pull 2 o2.2).1 o1.1).D := by
                        generalize (pull 2 o2.2).1 = kk at hlt ⊢
                        match kk, hlt with
                        | 0, _ => rfl
                        | 1, _ => rfl
                      exact sx_at (sq_own h) (atI_natD hx)
                    generalize [o1.1, o2.1].getD (pull 2 o2.2).1 o1.1 = other at *
                    have hb1 : first.1.Ok ∧ other.Ok ∧ other.L = first.1.L ∧ first.1.rw.length * other.rw.length ≤ 40 ∧ Good 50 (pull 2 o2.2).2 := ⟨p1.ok, p2.ok, by rw [p1.L, p2.L], by omega, g5.mono (by omega)⟩
                    have hbo := bothQ_ok p1.ok p2.ok (by rw [p1.L, p2.L]) (by omega) (pull 2 o2.2).2
                    have g6 : Good 1148 (bothQ first.1 other (pull 2 o2.2).2).2 := bothQ_costs (by omega) _ _ (g5.mono (by omega))
                    have hb2 : (bothQ first.1 other (pull 2 o2.2).2).1.Ok ∧ Good 50 (bothQ first.1 other (pull 2 o2.2).2).2 := ⟨hbo.ok, g6.mono (by omega)⟩
                    have hR7 : R_both (pull 2 o2.2).2.D [first.1.D, other.D] (bothQ first.1 other (pull 2 o2.2).2).2.D (bothQ first.1 other (pull 2 o2.2).2).1.D := ⟨_, _, _, rfl, rfl, rfl, rfl, hb1⟩
                    have hR8 : R_renum (bothQ first.1 other (pull 2 o2.2).2).2.D [(bothQ first.1 other (pull 2 o2.2).2).1.D] (renumQ (bothQ first.1 other (pull 2 o2.2).2).1 (bothQ first.1 other (pull 2 o2.2).2).2).2.D (renumQ (bothQ first.1 other (pull 2 o2.2).2).1 (bothQ first.1 other (pull 2 o2.2).2).2).1.D := ⟨_, _, rfl, rfl, rfl, rfl, hb2⟩
                    walk_at "ret"
                    exact ⟨rfl, rfl⟩
end
section
theorem sc__law_short : FnScope ["labels", "high", "turn", "found", "last", "longer", "word", "label"] ["labels", "high"] (defScope (topS 52)) := ⟨rfl, rfl, rfl, by decide +kernel, rfl, by decide +kernel, by decide +kernel⟩
local macro_rules | `(tactic| walk_at "nd") => `(tactic| exact sc__law_short.nd)
local macro_rules | `(tactic| walk_at "blk") => `(tactic| (refine' blkOk_of (N' := ["labels", "high", "turn", "found", "last", "longer", "word", "label"]) ?hN ?hs ?h; (case hN => rfl); (case hs => first | exact body_scope | exact blk_scope body_scope | exact blk_scope (blk_scope body_scope)); (case h => decide +kernel)))
theorem nm__law_short_0 : NmAt ["labels", "high", "turn", "found", "last", "longer", "word", "label"] 0 "labels" := ⟨rfl⟩
theorem nm__law_short_1 : NmAt ["labels", "high", "turn", "found", "last", "longer", "word", "label"] 1 "high" := ⟨rfl⟩
theorem nm__law_short_2 : NmAt ["labels", "high", "turn", "found", "last", "longer", "word", "label"] 2 "turn" := ⟨rfl⟩
theorem nm__law_short_3 : NmAt ["labels", "high", "turn", "found", "last", "longer", "word", "label"] 3 "found" := ⟨rfl⟩
theorem nm__law_short_4 : NmAt ["labels", "high", "turn", "found", "last", "longer", "word", "label"] 4 "last" := ⟨rfl⟩
theorem nm__law_short_5 : NmAt ["labels", "high", "turn", "found", "last", "longer", "word", "label"] 5 "longer" := ⟨rfl⟩
theorem nm__law_short_6 : NmAt ["labels", "high", "turn", "found", "last", "longer", "word", "label"] 6 "word" := ⟨rfl⟩
theorem nm__law_short_7 : NmAt ["labels", "high", "turn", "found", "last", "longer", "word", "label"] 7 "label" := ⟨rfl⟩
local macro_rules | `(tactic| walk_at "nms") => `(tactic| first | with_reducible exact nm__law_short_0 | with_reducible exact nm__law_short_1 | with_reducible exact nm__law_short_2 | with_reducible exact nm__law_short_3 | with_reducible exact nm__law_short_4 | with_reducible exact nm__law_short_5 | with_reducible exact nm__law_short_6 | with_reducible exact nm__law_short_7)
local macro_rules | `(tactic| walk_at "lc") => `(tactic| first | (refine' ev_lc (own := [("label", 7)]) rfl (by walk_at "nd") ?ok ?h; (case ok => walk_at "blk"); (case h => walk_at "lcm")))
local macro_rules | `(tactic| walk_at "setC") => `(tactic| first | (refine' ec_setCD (own := [("label", 7)]) ?n ?e ?nd rfl rfl rfl ?ok ?lc ?s ?h ?hi; (case n => walk_at "nms"); (case e => rfl); (case nd => walk_at "nd"); (case ok => walk_at "blk"); (case s => intro _; rfl); (case lc => walk_at "lcm"); (case hi => exact Nat.le_of_ble_eq_true rfl)))
local macro_rules | `(tactic| walk_at "setCN") => `(tactic| first | (refine' ec_setC (own := [("label", 7)]) ?n ?e ?nd rfl rfl rfl ?ok ?lc ?s ?h; (case n => walk_at "nms"); (case e => rfl); (case nd => walk_at "nd"); (case ok => walk_at "blk"); (case s => intro _; rfl); (case lc => walk_at "lcm")))
theorem ok_law_short {f fd} (h : Has K mg "_law_short" (topS 52) ["labels", "high"] f fd) (hb : NoB mg) : Ok P w K mg base 1 "_law_short" ["labels", "high"] (spD K R_short) := by
  refine Ok.data h sc__law_short (fun ds x ⟨_, _, e, _⟩ => by rw [e]; rfl) fun cdv A outer s H E hr ds y ⟨L, hi, e1, e2, hL, h3⟩ => ?_
  subst e1 e2
  have hl4 := hL.2.1
  have hll : L.length < sizeLine := by unfold sizeLine; omega
  have hs1 : hi < 2 ^ 62 := Nat.lt_trans (show hi < 2 ^ 3 by omega) (by decide)
  walk_at "pair"
  case h =>
    refine es_fz (i := 3) rfl (es_fz (i := 4) rfl ?_)
    refine' ec_forM ?fi PassesOwn.never rfl (fun i ρ' => ∃ a2 a5 a6, ρ' = [.d (tS L), .d (nD hi), a2, .d (.list ((shortN L i).1.map tS)), .d (.list ((shortN L i).2.map tS)), a5, a6, .no]) ?f0 ?fs ?fd (fun _ => rfl)
    case fi => walk_at "ei"
    case f0 => exact ⟨_, _, _, rfl⟩
    case fs =>
      rintro i x ρ' hx ⟨a2, a5, a6, rfl⟩
      have hi2 := (List.getElem?_eq_some_iff.mp hx).1
      rw [List.length_range] at hi2
      obtain ⟨n1, n2⟩ := shortN_len hl4 i (by omega)
      obtain ⟨k1, k2⟩ := shortN_ok (L := L) i (by omega)
      have n4 : (4 : Nat) ^ i ≤ 4 ^ 3 := Nat.pow_le_pow_right (by decide) (by omega)
      have n5 : (4 : Nat) ^ (i + 1) ≤ 4 ^ 4 := Nat.pow_le_pow_right (by decide) (by omega)
      have en : shortN L (i + 1) = ((shortN L i).1 ++ longer L (shortN L i).2, longer L (shortN L i).2) := rfl
      rw [en]
      have hlo := longer_len L (shortN L i).2
      generalize shortN L i = fl at *
      obtain ⟨fo, la⟩ := fl
      simp only at *
      refine' ⟨_, _, ?feg, ?fes⟩
      case feg => walk_at "eg"
      case fes =>
        walk_at "setN"
        case h =>
          refine' ec_forM ?ji PassesOwn.never rfl (fun j ρ' => ∃ a6, ρ' = [.d (tS L), .d (nD hi), .d (nD x), .d (.list (fo.map tS)), .d (.list (la.map tS)), .own none (.lst ((longer L (la.take j)).map tS)), a6, .no]) ?j0 ?js ?jd (fun _ => rfl)
          case ji => walk_at "ei"
          case j0 => exact ⟨_, rfl⟩
          case js =>
            rintro j v ρ' hy ⟨a6, rfl⟩
            have hjl := (List.getElem?_eq_some_iff.mp hy).1
            have hv := (k2 v (List.mem_of_getElem? hy)).1
            have hvl : v.length + 1 ≤ sizeLine := by unfold sizeLine; omega
            have htk : longer L (la.take (j + 1)) = longer L (la.take j) ++ L.map fun l => v ++ [l] := by
              unfold longer
              rw [List.take_add_one, hy, Option.toList_some, List.flatMap_append, List.flatMap_cons, List.flatMap_nil, List.append_nil]
            have hlt : (longer L (la.take j)).length ≤ 256 := by
              rw [longer_len, List.length_take]
              calc min j la.length * L.length ≤ 64 * 4 := Nat.mul_le_mul (by omega) hl4
                _ = 256 := by decide
            rw [htk]
            generalize longer L (la.take j) = acc at *
            have hel : acc.length + L.length ≤ sizeLine := by unfold sizeLine; omega
            refine' ⟨_, _, ?jeg, ?jes⟩
            case jeg => walk_at "eg"
            case jes =>
              walk_at "expr"
              case h =>
                refine es_nil ⟨.d (tS v), ?_⟩
                rw [List.map_append, List.map_map]
                unfold tS
                simp only [Function.comp_def, List.map_append, List.map_cons, List.map_nil]
                rfl
          case jd =>
            rintro ρ' ⟨a6, rfl⟩
            rw [List.take_length]
            refine es_fz (i := 5) rfl ?_
            have hcl : fo.length + (longer L la).length ≤ sizeLine := by
              rw [hlo]
              have : la.length * L.length ≤ 64 * 4 := Nat.mul_le_mul (by omega) hl4
              unfold sizeLine
              omega
            walk_at "pair"
            case h =>
              refine es_fz (i := 3) rfl (es_nil ⟨.d (nD x), .d (.list ((longer L la).map tS)), a6, ?_⟩)
              rw [List.map_append]
              rfl
    case fd =>
      rintro ρ' ⟨a2, a5, a6, rfl⟩
      walk_at "ret"
      rw [List.length_range]
      rfl
end
end

end
section
abbrev R_below : List D → List D → List D → D → Prop := fun cs ds cs' x => ∃ (d : Die) (q : Qu), cs = d.D ∧ ds = [q.D] ∧ cs' = (belowN q.L 4 d).D ∧ x = .bool true ∧ q.Ok ∧ Good 1000 d
local macro_rules | `(tactic| walk_at "def") => `(tactic| (refine' ev_defBEQ ?G ?q ?r ?k ?gl ?b ?a ?i ?R; (case G => assumption); (case q => assumption); (case r => assumption); (case k => decide); (case gl => walk_at "gl"); (case b => walk_at "ev"); (case a => walk_at "ead"); (case i => rfl); (case R => walk_at "rel")))
local macro_rules | `(tactic| walk_at "cr") => `(tactic| (refine' cr_repr ?q ?u ?o; (case q => assumption); (case u => exact Room.units ‹Room _ _›); (case o => assumption)))
theorem len_paths : ∀ cs ds cs' x, R_paths cs ds cs' x → ds.length + 1 = [("die" : Str), "labels"].length := by
  intro cs ds cs' x h
  rcases h with ⟨d, L, e1, e2⟩
  rw [e2.1]
  rfl
def Qu.colW (q : Qu) : List Str → Str
  | [] => default
  | l :: w => q.col l w
theorem ne_cons {α : Type} {w : List α} (h : w ≠ []) : ∃ l v, w = l :: v := by
  cases w with
  | nil => exact absurd rfl h
  | cons a b => exact ⟨a, b, rfl⟩
theorem at_colW (q : Qu) (w : List Str) {p : List Str} (h : p ≠ []) : (q.at w).colW p = q.colW (w ++ p) := by
  obtain ⟨l, v, rfl⟩ := ne_cons h
  cases w with
  | nil => rfl
  | cons a w =>
    show (q.at (a :: w)).co.getD ((q.at (a :: w)).run ((q.at (a :: w)).root l) v) default = q.co.getD (q.run (q.root a) (w ++ l :: v)) default
    rw [at_beh]
    rfl
theorem colour_R {q : Qu} (ok : q.Ok) {p : List Str} (h : p ≠ []) (hm : ∀ a ∈ p, a ∈ q.L) : R_colour [q.D, tS p] (.str (q.colW p)) := by
  obtain ⟨l, v, rfl⟩ := ne_cons h
  exact ⟨q, l, v, rfl, rfl, ok, hm l List.mem_cons_self, fun a ha => hm a (List.mem_cons_of_mem _ ha)⟩
theorem least_at (M : MathQ) {q : Qu} (ok : q.Ok) {w v : List Str} (hw : ∀ a ∈ w, a ∈ q.L) (hv : ∀ a ∈ v, a ∈ q.L) : leastL ((leastL (q.at w)).at v) = leastL (q.at (w ++ v)) := by
  have oka := at_ok ok hw
  have oke := (leastL_ok oka).ok
  have eL : (leastL (q.at w)).L = q.L := by rw [(leastL_ok oka).L, at_L]
  have hm2 : ∀ a ∈ w ++ v, a ∈ q.L := fun a ha => (List.mem_append.mp ha).elim (hw a) (hv a)
  refine M.same _ _ (at_ok oke fun a ha => by rw [eL]; exact hv a ha) (at_ok ok hm2) (by rw [at_L, at_L, eL]) fun l u hl hu => ?_
  rw [at_L, eL] at hl hu
  have h1 : ((leastL (q.at w)).at v).colW (l :: u) = (leastL (q.at w)).colW (v ++ l :: u) := at_colW _ v (by simp)
  have h2 : (q.at (w ++ v)).colW (l :: u) = q.colW ((w ++ v) ++ l :: u) := at_colW _ _ (by simp)
  have h3 : (leastL (q.at w)).colW (v ++ l :: u) = (q.at w).colW (v ++ l :: u) := by
    have hne : v ++ l :: u ≠ [] := by simp
    have hmm : ∀ a ∈ v ++ l :: u, a ∈ q.L := fun a ha => (List.mem_append.mp ha).elim (hv a) fun z => (List.mem_cons.mp z).elim (fun e => e ▸ hl) (hu a)
    generalize v ++ l :: u = p at hne hmm
    obtain ⟨b, c, rfl⟩ := ne_cons hne
    exact M.col _ b c oka (by rw [at_L]; exact hmm b List.mem_cons_self) fun a ha => by rw [at_L]; exact hmm a (List.mem_cons_of_mem _ ha)
  have h4 : (q.at w).colW (v ++ l :: u) = q.colW (w ++ (v ++ l :: u)) := at_colW _ w (by simp)
  rw [List.append_assoc] at h2
  exact (h1.trans (h3.trans h4)).trans h2.symm
theorem len_below : ∀ cs ds cs' x, R_below cs ds cs' x → ds.length + 1 = [("die" : Str), "query"].length := by
  intro cs ds cs' x h
  rcases h with ⟨d, q, e1, e2⟩
  rw [e2.1]
  rfl
section
variable {P : Program} {w : World} {K : PySem.W.Frag} {mg : Str → Option Value} {base : Heap}
section
theorem sc__law_some_paths : FnScope ["die", "labels", "turn"] ["die", "labels"] (defScope (topS 54)) := ⟨rfl, rfl, rfl, by decide +kernel, rfl, by decide +kernel, by decide +kernel⟩
local macro_rules | `(tactic| walk_at "nd") => `(tactic| exact sc__law_some_paths.nd)
local macro_rules | `(tactic| walk_at "blk") => `(tactic| (refine' blkOk_of (N' := ["die", "labels", "turn"]) ?hN ?hs ?h; (case hN => rfl); (case hs => first | exact body_scope | exact blk_scope body_scope | exact blk_scope (blk_scope body_scope)); (case h => decide +kernel)))
theorem nm__law_some_paths_0 : NmAt ["die", "labels", "turn"] 0 "die" := ⟨rfl⟩
theorem nm__law_some_paths_1 : NmAt ["die", "labels", "turn"] 1 "labels" := ⟨rfl⟩
theorem nm__law_some_paths_2 : NmAt ["die", "labels", "turn"] 2 "turn" := ⟨rfl⟩
local macro_rules | `(tactic| walk_at "nms") => `(tactic| first | with_reducible exact nm__law_some_paths_0 | with_reducible exact nm__law_some_paths_1 | with_reducible exact nm__law_some_paths_2)
local macro_rules | `(tactic| walk_at "lc") => `(tactic| first | (refine' ev_lc (own := [("turn", 2)]) rfl (by walk_at "nd") ?ok ?h; (case ok => walk_at "blk"); (case h => walk_at "lcm")))
local macro_rules | `(tactic| walk_at "setC") => `(tactic| first | (refine' ec_setCD (own := [("turn", 2)]) ?n ?e ?nd rfl rfl rfl ?ok ?lc ?s ?h ?hi; (case n => walk_at "nms"); (case e => rfl); (case nd => walk_at "nd"); (case ok => walk_at "blk"); (case s => intro _; rfl); (case lc => walk_at "lcm"); (case hi => exact Nat.le_of_ble_eq_true rfl)))
local macro_rules | `(tactic| walk_at "setCN") => `(tactic| first | (refine' ec_setC (own := [("turn", 2)]) ?n ?e ?nd rfl rfl rfl ?ok ?lc ?s ?h; (case n => walk_at "nms"); (case e => rfl); (case nd => walk_at "nd"); (case ok => walk_at "blk"); (case s => intro _; rfl); (case lc => walk_at "lcm")))
theorem ok_law_some_paths {f fd} (h : Has K mg "_law_some_paths" (topS 54) ["die", "labels"] f fd) (hb : NoB mg) (h1 : Ok P w K mg base 1 "_law_short" ["labels", "high"] (spD K R_short)) (h2 : Ok P w K mg base 2 "_law_word" ["die", "labels", "least", "high"] (spB K R_word)) : Ok P w K mg base 3 "_law_some_paths" ["die", "labels"] (spB K R_paths) := by
  refine Ok.bor h sc__law_some_paths len_paths fun cdv A outer s H E hr cs ds cs' y ⟨d, L, e1, e2, e3, e4, hL, hg⟩ => ?_
  subst e1 e2 e3 e4
  have hl4 := hL.2.1
  have hl1 := hL.1
  have hs1 : (6 : Nat) < 2 ^ 62 := by decide
  have hl6 : (List.range 6).length < sizeLine := by rw [List.length_range]; unfold sizeLine; omega
  have hsh : Labs L ∧ 3 ≤ 3 := ⟨hL, Nat.le_refl 3⟩
  have hh : LcHint (fun (_ : Nat) d => wordOf L 4 25 d) tS (fun d => [Sl.own (some 0) (.lst d.D), .d (tS L), .no]) d (List.range 6) (fun _ s => 0 < L.length ∧ L.length ≤ 1000 ∧ 4 ≤ 25 ∧ 25 ≤ 1000 ∧ Good (25 + 1) s) := fun i x hx => ⟨by omega, by omega, by omega, by omega, (mapS_take_costs (n := 26) (k := 0) (fun _ _ => wordOf_costs 4 25 (by omega)) (by rw [List.length_range]; exact hg.mono (by omega)) i (List.getElem?_eq_some_iff.mp hx).1).mono (by omega)⟩
  have hlen : (shortOf L 3).length + (wordsOf L d).1.length ≤ sizeLine := by
    have h1 := (shortN_len hl4 3 (Nat.le_refl 3)).2
    have h2 : (wordsOf L d).1.length = 6 := by
      unfold wordsOf
      rw [mapS_length, List.length_range]
    unfold shortOf
    rw [h2]
    unfold sizeLine
    omega
  have e2 : wordsOf L d = mapS (fun (_ : Nat) d => wordOf L 4 25 d) (List.range 6) d := by unfold wordsOf; rfl
  have hlen2 : ((shortOf L 3).map tS).length + ((mapS (fun (_ : Nat) d => wordOf L 4 25 d) (List.range 6) d).1.map tS).length ≤ sizeLine := by
    rw [List.length_map, List.length_map, ← e2]
    exact hlen
  walk_at "ret"
  have e1 : pathsOf L d = (shortOf L 3 ++ (wordsOf L d).1, (wordsOf L d).2) := rfl
  rw [e1]
  rw [e2]
  generalize mapS (fun (_ : Nat) d => wordOf L 4 25 d) (List.range 6) d = ws
  refine ⟨?_, rfl⟩
  show PyData.list _ = PyData.list _
  rw [List.map_append]
end
section
theorem sc__law_below_right : FnScope ["die", "query", "turn", "labels", "kept", "word", "due", "found", "path", "later"] ["die", "query"] (defScope (topS 55)) := ⟨rfl, rfl, rfl, by decide +kernel, rfl, by decide +kernel, by decide +kernel⟩
local macro_rules | `(tactic| walk_at "nd") => `(tactic| exact sc__law_below_right.nd)
local macro_rules | `(tactic| walk_at "blk") => `(tactic| (refine' blkOk_of (N' := ["die", "query", "turn", "labels", "kept", "word", "due", "found", "path", "later"]) ?hN ?hs ?h; (case hN => rfl); (case hs => first | exact body_scope | exact blk_scope body_scope | exact blk_scope (blk_scope body_scope)); (case h => decide +kernel)))
theorem nm__law_below_right_0 : NmAt ["die", "query", "turn", "labels", "kept", "word", "due", "found", "path", "later"] 0 "die" := ⟨rfl⟩
theorem nm__law_below_right_1 : NmAt ["die", "query", "turn", "labels", "kept", "word", "due", "found", "path", "later"] 1 "query" := ⟨rfl⟩
theorem nm__law_below_right_2 : NmAt ["die", "query", "turn", "labels", "kept", "word", "due", "found", "path", "later"] 2 "turn" := ⟨rfl⟩
theorem nm__law_below_right_3 : NmAt ["die", "query", "turn", "labels", "kept", "word", "due", "found", "path", "later"] 3 "labels" := ⟨rfl⟩
theorem nm__law_below_right_4 : NmAt ["die", "query", "turn", "labels", "kept", "word", "due", "found", "path", "later"] 4 "kept" := ⟨rfl⟩
theorem nm__law_below_right_5 : NmAt ["die", "query", "turn", "labels", "kept", "word", "due", "found", "path", "later"] 5 "word" := ⟨rfl⟩
theorem nm__law_below_right_6 : NmAt ["die", "query", "turn", "labels", "kept", "word", "due", "found", "path", "later"] 6 "due" := ⟨rfl⟩
theorem nm__law_below_right_7 : NmAt ["die", "query", "turn", "labels", "kept", "word", "due", "found", "path", "later"] 7 "found" := ⟨rfl⟩
theorem nm__law_below_right_8 : NmAt ["die", "query", "turn", "labels", "kept", "word", "due", "found", "path", "later"] 8 "path" := ⟨rfl⟩
theorem nm__law_below_right_9 : NmAt ["die", "query", "turn", "labels", "kept", "word", "due", "found", "path", "later"] 9 "later" := ⟨rfl⟩
local macro_rules | `(tactic| walk_at "nms") => `(tactic| first | with_reducible exact nm__law_below_right_0 | with_reducible exact nm__law_below_right_1 | with_reducible exact nm__law_below_right_2 | with_reducible exact nm__law_below_right_3 | with_reducible exact nm__law_below_right_4 | with_reducible exact nm__law_below_right_5 | with_reducible exact nm__law_below_right_6 | with_reducible exact nm__law_below_right_7 | with_reducible exact nm__law_below_right_8 | with_reducible exact nm__law_below_right_9)
theorem ok_law_below_right (M : MathQ) {f fd} (h : Has K mg "_law_below_right" (topS 55) ["die", "query"] f fd) (hb : NoB mg) (h1 : Ok P w K mg base 2 "_law_word" ["die", "labels", "least", "high"] (spB K R_word)) (h2 : Ok P w K mg base 2 "_law_least" ["query"] (spD K R_law_least)) (h3 : Ok P w K mg base 2 "_law_behind" ["query", "path"] (spD K R_behind)) (h4 : Ok P w K mg base 6 "underneath" ["query", "word"] (spD K R_underneath)) (h5 : Ok P w K mg base 3 "_law_some_paths" ["die", "labels"] (spB K R_paths)) (h6 : Ok P w K mg base 3 "_law_colour" ["query", "path"] (spD K R_colour)) : OkQ P w K mg base 7 "_law_below_right" ["die", "query"] (spB K R_below) := by
  refine OkQ.bor h sc__law_below_right len_below fun cdv A outer s H E hq hr cs ds cs' y ⟨d, q, e1, e2, e3, e4, ok, hg⟩ => ?_
  subst e1 e2 e3 e4
  have hrq := ok.reprOk
  have hl4 := ok.labs.2.1
  have hl1 := ok.labs.1
  have hP : ∀ x ∈ q.L, SOk x := fun x hx => (ok.labs.2.2.1 x hx).sok
  have hs1 : (4 : Nat) < 2 ^ 62 := by decide
  walk_at "pair"
  case h =>
    refine' ec_forM ?fi PassesOwn.never rfl (fun i ρ' => ∃ a2 a5 a6 a7 a8 a9, ρ' = [.own (some 0) (.lst (belowN q.L i d).D), .d q.D, a2, .d (tS q.L), .d (.str (shownT q.D)), a5, a6, a7, a8, a9]) ?f0 ?fs ?fd (fun _ => rfl)
    case fi => walk_at "ei"
    case f0 => exact ⟨_, _, _, _, _, _, rfl⟩
    case fs =>
      rintro i x ρ' hx ⟨a2, a5, a6, a7, a8, a9, rfl⟩
      have hi2 := (List.getElem?_eq_some_iff.mp hx).1
      rw [List.length_range] at hi2
      have hi2 : i < 4 := hi2
      have g0 : Good 200 (belowN q.L i d) := belowN_good (n := i) (k := 200) (hg.mono (by omega))
      have en : belowN q.L (i + 1) d = belowDie q.L (belowN q.L i d) := rfl
      rw [en]
      clear en
      generalize belowN q.L i d = d0 at *
      refine' ⟨_, _, ?feg, ?fes⟩
      case feg => walk_at "eg"
      case fes =>
        have hw1 : 0 < q.L.length ∧ q.L.length ≤ 1000 ∧ 0 ≤ 6 ∧ 6 ≤ 1000 ∧ Good (6 + 1) d0 := ⟨by omega, by omega, by omega, by omega, g0.mono (by omega)⟩
        have eb : belowDie q.L d0 = (wordOf q.L 0 3 (pathsOf q.L (wordOf q.L 0 6 d0).2).2).2 := rfl
        rw [eb]
        have hwm := wordOf_mem hl1 0 6 d0
        have hwl := (wordOf_len (L := q.L) 0 6 (by omega) d0).2
        have g1 : Good 193 (wordOf q.L 0 6 d0).2 := wordOf_costs 0 6 (by omega) _ _ (g0.mono (by omega))
        walk_at "set"
        case h =>
          clear hw1 eb
          generalize wordOf q.L 0 6 d0 = wo at *
          have hR1 : R_law_least [q.D] (leastL q).D := ⟨q, rfl, rfl, ok⟩
          walk_at "set"
          case h =>
            have hPw : ∀ x ∈ wo.1, SOk x := fun x hx => hP x (hwm x hx)
            refine' ec_ifM (k := !wo.1.isEmpty) [.own (some 0) (.lst wo.2.D), .d q.D, .d (nD x), .d (tS q.L), .d (.str (shownT q.D)), .d (tS wo.1), .d (leastL (q.at wo.1)).D, a7, a8, a9] ?zc ?z1 ?z2 ?z3
            case zc => walk_at "et"
            case z2 =>
              intro hk
              have e0 : wo.1 = [] := by
                cases e : wo.1 with
                | nil => rfl
                | cons a b =>
                  rw [e] at hk
                  cases hk
              refine es_nil ?_
              show _ = _
              rw [e0]
              rfl
            case z1 =>
              intro hk
              obtain ⟨ww, dw⟩ := wo
              cases ww with
              | nil => cases hk
              | cons a ww =>
                have ha := hwm a List.mem_cons_self
                have haw : ∀ b ∈ ww, b ∈ q.L := fun b hb => hwm b (List.mem_cons_of_mem _ hb)
                have hR2 : R_behind [q.D, tS (a :: ww)] (nD (q.run (q.root a) ww)) := ⟨q, a, ww, rfl, rfl, ok, ha, haw⟩
                have hx2 : q.run (q.root a) ww < q.rw.length := ok.run_lt (ok.root_lt ha) haw
                have hR3 : R_law_least [(q.at (a :: ww)).D] (leastL (q.at (a :: ww))).D := ⟨_, rfl, rfl, at_ok ok hwm⟩
                walk_at "set"
                case h => exact es_nil rfl
            case z3 =>
              have oka := at_ok ok hwm
              have oke := (leastL_ok oka).ok
              have eL : (leastL (q.at wo.1)).L = q.L := by rw [(leastL_ok oka).L, at_L]
              have hcol := fun l w h1 h2 => M.col (q.at wo.1) l w oka h1 h2
              have hR4 : R_underneath [q.D, tS wo.1] (leastL (q.at wo.1)).D := ⟨q, wo.1, _, rfl, rfl, ok, hwm, by omega, M.least _ oka⟩
              walk_at "set"
              case h =>
                have hre := oke.reprOk
                walk_at "if"
                case h1 =>
                  intro hk
                  simp at hk
                case h2 =>
                  intro _
                  have hpo := pathsOf_ok hl1 wo.2
                  have g2 : Good 37 (pathsOf q.L wo.2).2 := pathsOf_costs q.L _ _ (g1.mono (by omega))
                  have hpa : Labs q.L ∧ Good 160 wo.2 := ⟨ok.labs, g1.mono (by omega)⟩
                  have hfl : ∀ w ∈ (pathsOf q.L wo.2).1, (leastL (q.at wo.1)).colW w = q.colW (wo.1 ++ w) := fun w hw => by
                    have hwp := hpo w hw
                    rw [← at_colW q wo.1 hwp.ne]
                    obtain ⟨l, v, rfl⟩ := ne_cons hwp.ne
                    exact hcol l v (by rw [at_L]; exact hwp.mem l List.mem_cons_self) fun a ha => by rw [at_L]; exact hwp.mem a (List.mem_cons_of_mem _ ha)
                  refine' ec_forM ?ji PassesOwn.never rfl (fun i ρ' => ∃ b8 b9, ρ' = [.own (some 0) (.lst (pathsOf q.L wo.2).2.D), .d q.D, .d (nD x), .d (tS q.L), .d (.str (shownT q.D)), .d (tS wo.1), .d (leastL (q.at wo.1)).D, .d (leastL (q.at wo.1)).D, b8, b9]) ?j0 ?js ?jd (fun _ => rfl)
                  case ji => walk_at "ei"
                  case j0 => exact ⟨_, _, rfl⟩
                  case js =>
                    rintro j w ρ' hy ⟨b8, b9, rfl⟩
                    have hwm2 := List.mem_of_getElem? hy
                    have hwp := hpo w hwm2
                    have hfw := hfl w hwm2
                    have hR5 : R_colour [(leastL (q.at wo.1)).D, tS w] (.str ((leastL (q.at wo.1)).colW w)) := colour_R oke hwp.ne fun a ha => by rw [eL]; exact hwp.mem a ha
                    have hR6 : R_colour [q.D, .tuple (wo.1.map PyData.str ++ w.map PyData.str)] (.str ((leastL (q.at wo.1)).colW w)) := by
                      rw [← List.map_append, hfw]
                      exact colour_R ok (fun e => hwp.ne (List.append_eq_nil_iff.mp e).2) fun a ha => (List.mem_append.mp ha).elim (hwm a) (hwp.mem a)
                    have hcl : (wo.1.map PyData.str).length + (w.map PyData.str).length ≤ sizeLine := by
                      rw [List.length_map, List.length_map]
                      have := hwp.len
                      unfold sizeLine
                      omega
                    refine' ⟨_, _, ?jeg, ?jes⟩
                    case jeg => walk_at "eg"
                    case jes =>
                      walk_at "if"
                      case h1 =>
                        intro hk
                        simp at hk
                      case h2 =>
                        intro _
                        exact es_nil ⟨.d (tS w), b9, rfl⟩
                  case jd =>
                    rintro ρ' ⟨b8, b9, rfl⟩
                    clear hpo hfl
                    generalize pathsOf q.L wo.2 = po at *
                    have hw3 : 0 < q.L.length ∧ q.L.length ≤ 1000 ∧ 0 ≤ 3 ∧ 3 ≤ 1000 ∧ Good (3 + 1) po.2 := ⟨by omega, by omega, by omega, by omega, g2.mono (by omega)⟩
                    have hlm := wordOf_mem hl1 0 3 po.2
                    have hll := (wordOf_len (L := q.L) 0 3 (by omega) po.2).2
                    walk_at "set"
                    case h =>
                      clear hw3
                      generalize wordOf q.L 0 3 po.2 = la at *
                      have hm2 : ∀ a ∈ wo.1 ++ la.1, a ∈ q.L := fun a ha => (List.mem_append.mp ha).elim (hwm a) (hlm a)
                      have hm3 : ∀ a ∈ la.1, a ∈ (leastL (q.at wo.1)).L := fun a ha => by rw [eL]; exact hlm a ha
                      have hsame : leastL ((leastL (q.at wo.1)).at la.1) = leastL (q.at (wo.1 ++ la.1)) := least_at M ok hwm hlm
                      have ok5 := at_ok ok hm2
                      have ok6 := (leastL_ok ok5).ok
                      have hR7 : R_underneath [(leastL (q.at wo.1)).D, tS la.1] (leastL (q.at (wo.1 ++ la.1))).D := ⟨_, la.1, _, rfl, rfl, oke, hm3, by omega, hsame ▸ M.least _ (at_ok oke hm3)⟩
                      have hR8 : R_underneath [q.D, .tuple (wo.1.map PyData.str ++ la.1.map PyData.str)] (leastL (q.at (wo.1 ++ la.1))).D := by
                        rw [← List.map_append]
                        exact ⟨q, _, _, rfl, rfl, ok, hm2, by rw [List.length_append]; omega, M.least _ ok5⟩
                      have hcl : (wo.1.map PyData.str).length + (la.1.map PyData.str).length ≤ sizeLine := by
                        rw [List.length_map, List.length_map]
                        unfold sizeLine
                        omega
                      have hsh := ok6.shaped
                      have hev := ok6.eqv
                      generalize leastL (q.at (wo.1 ++ la.1)) = r at *
                      refine' ec_when (k := !PyData.eqv r.D r.D) ?xc ?x1 ?x2
                      case xc =>
                        refine' et_cmpX (hst := ?xst) ?xa ?xb ?xh
                        case xa => walk_at "ev"
                        case xb => walk_at "evd"
                        case xh => exact cx_neD hr.units hsh hsh
                        case xst => rfl
                      case x1 =>
                        intro hk
                        rw [hev] at hk
                        cases hk
                      case x2 =>
                        intro _
                        exact es_nil ⟨.d (nD x), .d (tS wo.1), .d (leastL (q.at wo.1)).D, .d (leastL (q.at wo.1)).D, b8, .d (tS la.1), rfl⟩
    case fd =>
      rintro ρ' ⟨a2, a5, a6, a7, a8, a9, rfl⟩
      rw [List.length_range]
      walk_at "ret"
      exact ⟨rfl, rfl⟩
end
end

end
section
abbrev R_read : List D → List D → List D → D → Prop := fun cs ds cs' x => ∃ (d : Die) (q : Qu), cs = d.D ∧ ds = [q.D] ∧ cs' = (readN q.L 4 d).D ∧ x = .bool true ∧ q.Ok ∧ Good 1000 d
abbrev R_translated : D → List (Str × Str) → D → Prop := fun d nm x => ∃ (q : Qu) (Ls : List Str) (r : Qu), d = q.D ∧ x = r.D ∧ q.Ok ∧ NmOk q nm Ls ∧ Least (q.tr nm Ls) r
structure OkW (P : Program) (w : World) (K : PySem.W.Frag) (mg : Str → Option Value) (base : Heap) (k : Nat) (x : Str) (kss : List (List Str)) (R : D → List (Str × Str) → D → Prop) : Prop where
  ex : ∃ f, mg x = some (.ref f) ∧ PySem.W.keepIn K (.ref f) = true ∧ ∀ ks ∈ kss, FnW P w K mg base k f ks R
theorem len_read : ∀ cs ds cs' x, R_read cs ds cs' x → ds.length + 1 = [("die" : Str), "query"].length := by
  intro cs ds cs' x h
  rcases h with ⟨d, q, e1, e2⟩
  rw [e2.1]
  rfl
theorem tr_colW {q : Qu} (ok : q.Ok) {nm : List (Str × Str)} {Ls : List Str} (hn : NmOk q nm Ls) {p : List Str} (h : p ≠ []) (hm : ∀ a ∈ p, a ∈ Ls) : (q.tr nm Ls).colW p = q.colW (p.map (nmOf nm)) := by
  obtain ⟨l, v, rfl⟩ := ne_cons h
  have hl := hm l List.mem_cons_self
  show (q.tr nm Ls).co.getD ((q.tr nm Ls).run ((q.tr nm Ls).root l) v) default = q.co.getD (q.run (q.root (nmOf nm l)) (v.map (nmOf nm))) default
  rw [tr_root hl, tr_run ok hn v _ (ok.root_lt (hn.val hl).2.1) fun a ha => hm a (List.mem_cons_of_mem _ ha)]
  rfl
theorem map_getD_idx {α : Type} [Inhabited α] : ∀ {Ls : List Str} {xs : List α}, Ls.Nodup → xs.length = Ls.length → Ls.map (fun l => xs.getD (Ls.idxOf l) default) = xs := fun {Ls xs} hn hl => by
  apply List.ext_getElem
  · rw [List.length_map, hl]
  · intro i h1 h2
    rw [List.getElem_map]
    have hi : i < Ls.length := by rw [← hl]; exact h2
    rw [hn.idxOf_getElem i hi, List.getD_eq_getElem?_getD, List.getElem?_eq_getElem h2]
    rfl
theorem atI_last {α : Type} (xs : List α) (h : 1 ≤ xs.length) : L2.atI xs (-((1 : Nat) : Int)) = xs[xs.length - 1]? := by
  have e : L2.ixN xs.length (-((1 : Nat) : Int)) = some (xs.length - 1) := by
    unfold L2.ixN
    rw [if_neg (by omega), if_pos (by omega)]
    congr 1
    omega
  unfold L2.atI
  rw [e]
  rfl
def backOf (Ls : List Str) : List (Str × Str) := Ls.map fun l => (l, l)
theorem lookup_back : ∀ {Ls : List Str} {l : Str}, l ∈ Ls → (backOf Ls).lookup l = some l
  | a :: Ls, l, h => by
    show List.lookup l ((a, a) :: backOf Ls) = _
    rw [List.lookup_cons]
    by_cases e : l = a
    · subst e
      simp
    · have h1 : (l == a) = false := beq_eq_false_iff_ne.mpr e
      rw [h1]
      exact lookup_back ((List.mem_cons.mp h).resolve_left e)
theorem back_fst (Ls : List Str) : (backOf Ls).map (·.1) = Ls := by
  unfold backOf
  rw [List.map_map]
  exact List.map_id Ls
theorem slt_nodup {Ls : List Str} (h : Ls.Pairwise SLt) : Ls.Nodup := h.imp fun {a b} hab e => by
  subst e
  exact slt_irrefl _ hab
theorem back_ok {r : Qu} (ok : r.Ok) : NmOk r (backOf r.L) r.L := by
  have hl : (backOf r.L).length = r.L.length := List.length_map _
  exact ⟨by rw [hl]; exact ok.labs.1, by rw [hl]; exact ok.labs.2.1, fun p hp => by
    obtain ⟨l, hl, rfl⟩ := List.mem_map.mp hp
    exact ⟨ok.labs.2.2.1 l hl, hl⟩, by rw [back_fst], ok.labs.2.2.2⟩
theorem tr_back {r : Qu} (ok : r.Ok) : r.tr (backOf r.L) r.L = r := by
  have hn : r.L.Nodup := slt_nodup ok.labs.2.2.2
  have key : ∀ xs : List Nat, xs.length = r.L.length → (r.L.map fun l => xs.getD (r.L.idxOf (nmOf (backOf r.L) l)) default) = xs := fun xs hx => by
    refine Eq.trans (List.map_congr_left fun l hl => ?_) (map_getD_idx hn hx)
    unfold nmOf
    rw [lookup_back hl]
    rfl
  unfold Qu.tr
  rw [key _ ok.ro.1]
  have e : (r.rw.map fun x => r.L.map fun l => x.getD (r.L.idxOf (nmOf (backOf r.L) l)) default) = r.rw := by
    refine Eq.trans (List.map_congr_left fun x hx => key x (ok.rw x hx).1) (List.map_id _)
  rw [e]
theorem least_least (M : MathQ) {q : Qu} (ok : q.Ok) : leastL (leastL q) = leastL q := M.same _ _ (leastL_ok ok).ok ok (leastL_ok ok).L fun l w hl hw => M.col q l w ok (by rw [← (leastL_ok ok).L]; exact hl) fun a ha => by rw [← (leastL_ok ok).L]; exact hw a ha
theorem names_text {nm : List (Str × Str)} (h4 : nm.length ≤ 4) (hl : ∀ p ∈ nm, Lab p.1 ∧ Lab p.2) : (dictD (kvS PyData.str nm)).shown.length ≤ sizeLine := by
  have key : ∀ nm : List (Str × Str), (∀ p ∈ nm, Lab p.1 ∧ Lab p.2) → textOkKv ((kvS PyData.str nm).map fun p => (kD p.1, p.2)) ∧ costKv ((kvS PyData.str nm).map fun p => (kD p.1, p.2)) ≤ 200 * nm.length := by
    intro nm
    induction nm with
    | nil => exact fun _ => ⟨trivial, Nat.le_refl 0⟩
    | cons p nm ih =>
      intro h
      obtain ⟨h1, h2⟩ := ih fun x hx => h x (List.mem_cons_of_mem _ hx)
      obtain ⟨h3, h4⟩ := h p List.mem_cons_self
      refine ⟨⟨h3.sok, h4.sok, h1⟩, ?_⟩
      show costKv ((PyData.str p.1, PyData.str p.2) :: (kvS PyData.str nm).map fun p => (kD p.1, p.2)) ≤ _
      simp only [costKv, cost_str, List.length_cons]
      have := h3.2.1
      have := h4.2.1
      omega
  obtain ⟨h1, h2⟩ := key nm hl
  have h3 := shown_le (dictD (kvS PyData.str nm)) (by unfold dictD; simp only [textOk]; exact h1)
  have h4' : cost (dictD (kvS PyData.str nm)) = costKv ((kvS PyData.str nm).map fun p => (kD p.1, p.2)) + 4 := by
    unfold dictD
    simp only [cost]
  rw [sizeLine_eq]
  omega
theorem xy_nodup (one other : Str) : (([(("x" : Str), one), ("y", other)] : List (Str × Str)).map (·.1)).Nodup := by
  show ([("x" : Str), "y"]).Nodup
  decide +kernel
theorem xy_ok {q : Qu} (ok : q.Ok) {one other : Str} (h2 : other ∈ q.L) (h1 : one ∈ q.L) {nm : List (Str × Str)} (h : nm = [(("y" : Str), other), ("x", one)] ∨ nm = [(("x" : Str), one), ("y", other)]) : NmOk q nm ["x", "y"] := by
  have lx : Lab "x" := labCheck_lab (by decide +kernel)
  have ly : Lab "y" := labCheck_lab (by decide +kernel)
  have hs : ([("x" : Str), "y"]).Pairwise SLt := by decide +kernel
  rcases h with rfl | rfl
  · refine ⟨by simp, by simp, fun p hp => ?_, List.Perm.swap _ _ _, hs⟩
    rcases List.mem_cons.mp hp with rfl | hp
    · exact ⟨ly, h2⟩
    · rw [List.mem_singleton] at hp
      subst hp
      exact ⟨lx, h1⟩
  · refine ⟨by simp, by simp, fun p hp => ?_, .refl _, hs⟩
    rcases List.mem_cons.mp hp with rfl | hp
    · exact ⟨lx, h1⟩
    · rw [List.mem_singleton] at hp
      subst hp
      exact ⟨ly, h2⟩
theorem xy_tr (q : Qu) (one other : Str) : q.tr [(("y" : Str), other), ("x", one)] ["x", "y"] = q.tr [(("x" : Str), one), ("y", other)] ["x", "y"] := by
  have n1 : (("x" : Str) == "y") = false := by decide +kernel
  have n2 : (("y" : Str) == "x") = false := by decide +kernel
  have n3 : (("x" : Str) == "x") = true := by decide +kernel
  have n4 : (("y" : Str) == "y") = true := by decide +kernel
  have e1 : nmOf [(("y" : Str), other), ("x", one)] "x" = one := by
    unfold nmOf
    simp only [List.lookup, n1, n3, Option.getD_some]
  have e2 : nmOf [(("x" : Str), one), ("y", other)] "x" = one := by
    unfold nmOf
    simp only [List.lookup, n3, Option.getD_some]
  have e3 : nmOf [(("y" : Str), other), ("x", one)] "y" = other := by
    unfold nmOf
    simp only [List.lookup, n4, Option.getD_some]
  have e4 : nmOf [(("x" : Str), one), ("y", other)] "y" = other := by
    unfold nmOf
    simp only [List.lookup, n2, n4, Option.getD_some]
  unfold Qu.tr
  simp only [List.map_cons, List.map_nil, e1, e2, e3, e4]
local macro_rules | `(tactic| walk_at "cr") => `(tactic| (refine' cr_repr ?q ?u ?o; (case q => assumption); (case u => exact Room.units ‹Room _ _›); (case o => assumption)))
local macro_rules | `(tactic| walk_at "cr") => `(tactic| (refine' cr_reprD ?q ?u ?o; (case q => assumption); (case u => exact Room.units ‹Room _ _›); (case o => assumption)))
local macro_rules | `(tactic| walk_at "evdict") => `(tactic| (refine' EV.nwD ?z; (case z => (refine' ev_bty ?gl ?m ?v ?a ?k; (case gl => walk_at "gl"); (case m => walk_at "mgn"); (case v => with_reducible exact PyProof.Rows.boot_dict); (case a => walk_at "ea"); (case k => (refine' cr_dictP ?c ?s ?n; (case c => rfl); (case s => walk_at "own?"); (case n => assumption)))))))
section
variable {P : Program} {w : World} {K : PySem.W.Frag} {mg : Str → Option Value} {base : Heap}
section
theorem sc__law_read_right : FnScope ["die", "query", "turn", "labels", "kept", "new", "names", "spots", "rows", "roots", "found", "path", "back", "one", "other", "told", "order", "label", "row", "spot"] ["die", "query"] (defScope (topS 56)) := ⟨rfl, rfl, rfl, by decide +kernel, rfl, by decide +kernel, by decide +kernel⟩
local macro_rules | `(tactic| walk_at "nd") => `(tactic| exact sc__law_read_right.nd)
local macro_rules | `(tactic| walk_at "blk") => `(tactic| (refine' blkOk_of (N' := ["die", "query", "turn", "labels", "kept", "new", "names", "spots", "rows", "roots", "found", "path", "back", "one", "other", "told", "order", "label", "row", "spot"]) ?hN ?hs ?h; (case hN => rfl); (case hs => first | exact body_scope | exact blk_scope body_scope | exact blk_scope (blk_scope body_scope)); (case h => decide +kernel)))
theorem nm__law_read_right_0 : NmAt ["die", "query", "turn", "labels", "kept", "new", "names", "spots", "rows", "roots", "found", "path", "back", "one", "other", "told", "order", "label", "row", "spot"] 0 "die" := ⟨rfl⟩
theorem nm__law_read_right_1 : NmAt ["die", "query", "turn", "labels", "kept", "new", "names", "spots", "rows", "roots", "found", "path", "back", "one", "other", "told", "order", "label", "row", "spot"] 1 "query" := ⟨rfl⟩
theorem nm__law_read_right_2 : NmAt ["die", "query", "turn", "labels", "kept", "new", "names", "spots", "rows", "roots", "found", "path", "back", "one", "other", "told", "order", "label", "row", "spot"] 2 "turn" := ⟨rfl⟩
theorem nm__law_read_right_3 : NmAt ["die", "query", "turn", "labels", "kept", "new", "names", "spots", "rows", "roots", "found", "path", "back", "one", "other", "told", "order", "label", "row", "spot"] 3 "labels" := ⟨rfl⟩
theorem nm__law_read_right_4 : NmAt ["die", "query", "turn", "labels", "kept", "new", "names", "spots", "rows", "roots", "found", "path", "back", "one", "other", "told", "order", "label", "row", "spot"] 4 "kept" := ⟨rfl⟩
theorem nm__law_read_right_5 : NmAt ["die", "query", "turn", "labels", "kept", "new", "names", "spots", "rows", "roots", "found", "path", "back", "one", "other", "told", "order", "label", "row", "spot"] 5 "new" := ⟨rfl⟩
theorem nm__law_read_right_6 : NmAt ["die", "query", "turn", "labels", "kept", "new", "names", "spots", "rows", "roots", "found", "path", "back", "one", "other", "told", "order", "label", "row", "spot"] 6 "names" := ⟨rfl⟩
theorem nm__law_read_right_7 : NmAt ["die", "query", "turn", "labels", "kept", "new", "names", "spots", "rows", "roots", "found", "path", "back", "one", "other", "told", "order", "label", "row", "spot"] 7 "spots" := ⟨rfl⟩
theorem nm__law_read_right_8 : NmAt ["die", "query", "turn", "labels", "kept", "new", "names", "spots", "rows", "roots", "found", "path", "back", "one", "other", "told", "order", "label", "row", "spot"] 8 "rows" := ⟨rfl⟩
theorem nm__law_read_right_9 : NmAt ["die", "query", "turn", "labels", "kept", "new", "names", "spots", "rows", "roots", "found", "path", "back", "one", "other", "told", "order", "label", "row", "spot"] 9 "roots" := ⟨rfl⟩
theorem nm__law_read_right_10 : NmAt ["die", "query", "turn", "labels", "kept", "new", "names", "spots", "rows", "roots", "found", "path", "back", "one", "other", "told", "order", "label", "row", "spot"] 10 "found" := ⟨rfl⟩
theorem nm__law_read_right_11 : NmAt ["die", "query", "turn", "labels", "kept", "new", "names", "spots", "rows", "roots", "found", "path", "back", "one", "other", "told", "order", "label", "row", "spot"] 11 "path" := ⟨rfl⟩
theorem nm__law_read_right_12 : NmAt ["die", "query", "turn", "labels", "kept", "new", "names", "spots", "rows", "roots", "found", "path", "back", "one", "other", "told", "order", "label", "row", "spot"] 12 "back" := ⟨rfl⟩
theorem nm__law_read_right_13 : NmAt ["die", "query", "turn", "labels", "kept", "new", "names", "spots", "rows", "roots", "found", "path", "back", "one", "other", "told", "order", "label", "row", "spot"] 13 "one" := ⟨rfl⟩
theorem nm__law_read_right_14 : NmAt ["die", "query", "turn", "labels", "kept", "new", "names", "spots", "rows", "roots", "found", "path", "back", "one", "other", "told", "order", "label", "row", "spot"] 14 "other" := ⟨rfl⟩
theorem nm__law_read_right_15 : NmAt ["die", "query", "turn", "labels", "kept", "new", "names", "spots", "rows", "roots", "found", "path", "back", "one", "other", "told", "order", "label", "row", "spot"] 15 "told" := ⟨rfl⟩
theorem nm__law_read_right_16 : NmAt ["die", "query", "turn", "labels", "kept", "new", "names", "spots", "rows", "roots", "found", "path", "back", "one", "other", "told", "order", "label", "row", "spot"] 16 "order" := ⟨rfl⟩
theorem nm__law_read_right_17 : NmAt ["die", "query", "turn", "labels", "kept", "new", "names", "spots", "rows", "roots", "found", "path", "back", "one", "other", "told", "order", "label", "row", "spot"] 17 "label" := ⟨rfl⟩
theorem nm__law_read_right_18 : NmAt ["die", "query", "turn", "labels", "kept", "new", "names", "spots", "rows", "roots", "found", "path", "back", "one", "other", "told", "order", "label", "row", "spot"] 18 "row" := ⟨rfl⟩
theorem nm__law_read_right_19 : NmAt ["die", "query", "turn", "labels", "kept", "new", "names", "spots", "rows", "roots", "found", "path", "back", "one", "other", "told", "order", "label", "row", "spot"] 19 "spot" := ⟨rfl⟩
local macro_rules | `(tactic| walk_at "nms") => `(tactic| first | with_reducible exact nm__law_read_right_0 | with_reducible exact nm__law_read_right_1 | with_reducible exact nm__law_read_right_2 | with_reducible exact nm__law_read_right_3 | with_reducible exact nm__law_read_right_4 | with_reducible exact nm__law_read_right_5 | with_reducible exact nm__law_read_right_6 | with_reducible exact nm__law_read_right_7 | with_reducible exact nm__law_read_right_8 | with_reducible exact nm__law_read_right_9 | with_reducible exact nm__law_read_right_10 | with_reducible exact nm__law_read_right_11 | with_reducible exact nm__law_read_right_12 | with_reducible exact nm__law_read_right_13 | with_reducible exact nm__law_read_right_14 | with_reducible exact nm__law_read_right_15 | with_reducible exact nm__law_read_right_16 | with_reducible exact nm__law_read_right_17 | with_reducible exact nm__law_read_right_18 | with_reducible exact nm__law_read_right_19)
local macro_rules | `(tactic| walk_at "lc") => `(tactic| first | (refine' ev_lc (own := [("label", 17)]) rfl (by walk_at "nd") ?ok ?h; (case ok => walk_at "blk"); (case h => walk_at "lcm")) | (refine' ev_lc (own := [("row", 18)]) rfl (by walk_at "nd") ?ok ?h; (case ok => walk_at "blk"); (case h => walk_at "lcm")) | (refine' ev_lc (own := [("spot", 19)]) rfl (by walk_at "nd") ?ok ?h; (case ok => walk_at "blk"); (case h => walk_at "lcm")))
local macro_rules | `(tactic| walk_at "setC") => `(tactic| first | (refine' ec_setCD (own := [("label", 17)]) ?n ?e ?nd rfl rfl rfl ?ok ?lc ?s ?h ?hi; (case n => walk_at "nms"); (case e => rfl); (case nd => walk_at "nd"); (case ok => walk_at "blk"); (case s => intro _; rfl); (case lc => walk_at "lcm"); (case hi => exact Nat.le_of_ble_eq_true rfl)) | (refine' ec_setCD (own := [("row", 18)]) ?n ?e ?nd rfl rfl rfl ?ok ?lc ?s ?h ?hi; (case n => walk_at "nms"); (case e => rfl); (case nd => walk_at "nd"); (case ok => walk_at "blk"); (case s => intro _; rfl); (case lc => walk_at "lcm"); (case hi => exact Nat.le_of_ble_eq_true rfl)) | (refine' ec_setCD (own := [("spot", 19)]) ?n ?e ?nd rfl rfl rfl ?ok ?lc ?s ?h ?hi; (case n => walk_at "nms"); (case e => rfl); (case nd => walk_at "nd"); (case ok => walk_at "blk"); (case s => intro _; rfl); (case lc => walk_at "lcm"); (case hi => exact Nat.le_of_ble_eq_true rfl)))
local macro_rules | `(tactic| walk_at "setCN") => `(tactic| first | (refine' ec_setC (own := [("label", 17)]) ?n ?e ?nd rfl rfl rfl ?ok ?lc ?s ?h; (case n => walk_at "nms"); (case e => rfl); (case nd => walk_at "nd"); (case ok => walk_at "blk"); (case s => intro _; rfl); (case lc => walk_at "lcm")) | (refine' ec_setC (own := [("row", 18)]) ?n ?e ?nd rfl rfl rfl ?ok ?lc ?s ?h; (case n => walk_at "nms"); (case e => rfl); (case nd => walk_at "nd"); (case ok => walk_at "blk"); (case s => intro _; rfl); (case lc => walk_at "lcm")) | (refine' ec_setC (own := [("spot", 19)]) ?n ?e ?nd rfl rfl rfl ?ok ?lc ?s ?h; (case n => walk_at "nms"); (case e => rfl); (case nd => walk_at "nd"); (case ok => walk_at "blk"); (case s => intro _; rfl); (case lc => walk_at "lcm")))
theorem ok_law_read_right (M : MathQ) {f fd} (h : Has K mg "_law_read_right" (topS 56) ["die", "query"] f fd) (hb : NoB mg) (h0 : Ok P w K mg base 1 "_law_pull" ["die", "many"] (spB K R_pull)) (h1 : Ok P w K mg base 2 "_law_shuffled" ["die", "items"] (spB K R_shuffled)) (h2 : Ok P w K mg base 2 "_law_least" ["query"] (spD K R_law_least)) (h4 : Ok P w K mg base 6 "translated_by" ["query", "names"] (spD K R_translated_by)) (h5 : Ok P w K mg base 3 "_law_some_paths" ["die", "labels"] (spB K R_paths)) (h6 : Ok P w K mg base 3 "_law_colour" ["query", "path"] (spD K R_colour)) (h7 : OkW P w K mg base 7 "translated" [["y", "x"], ["only"]] R_translated) : OkQ P w K mg base 8 "_law_read_right" ["die", "query"] (spB K R_read) := by
  refine OkQ.bor h sc__law_read_right len_read fun cdv A outer s H E hq hr cs ds cs' y ⟨d, q, e1, e2, e3, e4, ok, hg⟩ => ?_
  subst e1 e2 e3 e4
  have hrq := ok.reprOk
  have hl4 := ok.labs.2.1
  have hl1 := ok.labs.1
  have hn2 := ok.n2
  have hP : ∀ x ∈ q.L, SOk x := fun x hx => (ok.labs.2.2.1 x hx).sok
  have hs1 : (4 : Nat) < 2 ^ 62 := by decide
  have hlL : q.L.length < 2 ^ 200 := Nat.lt_trans (show q.L.length < 2 ^ 3 by omega) (by decide)
  walk_at "pair"
  case h =>
    refine' ec_forM ?fi PassesOwn.never rfl (fun i ρ' => ∃ a2 a5 a6 a7 a8 a9 a10 a11 a12 a15 a16, ρ' = [.own (some 0) (.lst (readN q.L i d).D), .d q.D, a2, .d (tS q.L), .d (.str (shownT q.D)), a5, a6, a7, a8, a9, a10, a11, a12, .no, .no, a15, a16, .no, .no, .no]) ?f0 ?fs ?fd (fun _ => rfl)
    case fi => walk_at "ei"
    case f0 => exact ⟨_, _, _, _, _, _, _, _, _, _, _, rfl⟩
    case fs =>
      rintro i x ρ' hx ⟨a2, a5, a6, a7, a8, a9, a10, a11, a12, a15, a16, rfl⟩
      have hi2 := (List.getElem?_eq_some_iff.mp hx).1
      rw [List.length_range] at hi2
      have hi2 : i < 4 := hi2
      have g0 : Good 200 (readN q.L i d) := readN_good (n := i) (k := 200) (hg.mono (by omega))
      have en : readN q.L (i + 1) d = readDie q.L (readN q.L i d) := rfl
      rw [en]
      clear en
      generalize readN q.L i d = d0 at *
      refine' ⟨_, _, ?feg, ?fes⟩
      case feg => walk_at "eg"
      case fes =>
        have eb : readDie q.L d0 = (pathsOf (sortS (newOf d0).1) (namesD q.L (newOf d0).1 (newOf d0).2).2).2 := rfl
        rw [eb]
        clear eb
        have hno := newOf_ok d0
        have g1 : Good 193 (newOf d0).2 := newOf_costs _ _ (g0.mono (by omega))
        have enw : newOf d0 = ((shuffle six d0).1.take (1 + (pull 4 (shuffle six d0).2).1), (pull 4 (shuffle six d0).2).2) := rfl
        have g2 : Good 1 (shuffle six d0).2 := shuffle_costs six 1 d0 (g0.mono (by rw [six_ok.1]; omega))
        have hsh : R_shuffled d0.D [.list [.str "a", .str "b", .str "new", .str "query", .str "self", .str "zz"]] (shuffle six d0).2.D (.list ((shuffle six d0).1.map PyData.str)) :=
          ⟨Str, inferInstance, inferInstance, PyData.str, SOk, 1, six, d0, enc_str, dp_str, by decide, fun x hx => (six_ok.2.2 x hx).sok, rfl, ⟨_, rfl, fun _ => sq_listE rfl⟩, rfl, rfl, by rw [six_ok.1]; omega, g0.mono (by rw [six_ok.1]; omega)⟩
        have hp2 : 0 < 4 ∧ 4 < 2 ^ 200 ∧ Good 1 (shuffle six d0).2 := ⟨by decide, by decide, g2⟩
        walk_at "set"
        case h =>
          refine ES.slot ?_ (show _ = [Sl.own (some 0) (.lst (newOf d0).2.D), .d q.D, .d (nD x), .d (tS q.L), .d (.str (shownT q.D)), .d (lS (newOf d0).1), a6, a7, a8, a9, a10, a11, a12, .no, .no, a15, a16, .no, .no, .no] from rfl)
          clear hsh hp2 enw g2
          generalize newOf d0 = nw at *
          obtain ⟨new, d1⟩ := nw
          simp only at hno g1 ⊢
          have hn4 := hno.n4
          have hnl : new.length < sizeLine := by unfold sizeLine; omega
          have hh : LcHint (namesT q.L) prD (fun d => [Sl.own (some 0) (.lst d.D), .d q.D, .d (nD x), .d (tS q.L), .d (.str (shownT q.D)), .d (lS new), a6, a7, a8, a9, a10, a11, a12, .no, .no, a15, a16, .no, .no, .no]) d1 new (fun _ s => (0 < q.L.length ∧ q.L.length < 2 ^ 200 ∧ Good 1 s) ∧ (pull q.L.length s).1 < q.L.length) := fun j y hy => ⟨⟨by omega, hlL, (mapS_take_costs (n := 1) (k := 0) (fun z _ => namesT_costs q.L z) (g1.mono (by omega)) j (List.getElem?_eq_some_iff.mp hy).1).mono (by omega)⟩, pull_lt _ (by omega)⟩
          have hnd : ((mapS (namesT q.L) new d1).1.map (·.1)).Nodup := by
            have := namesD_fst q.L new d1
            unfold namesD at this
            rw [this]
            exact hno.nd
          refine' ec_setD (d := dictD (kvS PyData.str (mapS (namesT q.L) new d1).1)) ?zn ?ze ?znd ?zl ?zhe ?zhk ?zf ?zsw
          case zn => walk_at "nms"
          case ze => rfl
          case znd => walk_at "nd"
          case zl => walk_at "loc"
          case zf => walk_at "loc"
          case zsw => rfl
          case zhe => walk_at "evdict"
          case zhk =>
            clear hh
            have hfst := namesD_fst q.L new d1
            have hmem := namesD_mem hl1 new d1
            have g3 : Good 189 (namesD q.L new d1).2 := namesD_costs q.L new hn4 _ _ (g1.mono (by omega))
            refine ES.slot ?_ (show _ = [Sl.own (some 0) (.lst (namesD q.L new d1).2.D), .d q.D, .d (nD x), .d (tS q.L), .d (.str (shownT q.D)), .d (lS new), .d (dictD (kvS PyData.str (namesD q.L new d1).1)), a7, a8, a9, a10, a11, a12, .no, .no, a15, a16, .no, .no, .no] from rfl)
            have eqn : (mapS (namesT q.L) new d1) = namesD q.L new d1 := rfl
            rw [eqn] at hnd
            clear eqn
            generalize namesD q.L new d1 = nmd at *
            obtain ⟨nm, d2⟩ := nmd
            simp only at hfst hmem g3 hnd ⊢
            have hnm := nm_ok ok hno hfst hmem
            have hlabs := hno.labs
            have hsrt := sortS_unique hno.nd
            have hnt := names_text hnm.n4 fun p hp => ⟨(hnm.lab p hp).1, ok.labs.2.2.1 _ (hnm.lab p hp).2⟩
            have hn64 : new.length < 64 := by omega
            generalize sortS new = order at *
            walk_at "pair"
            case h =>
              refine es_fz (i := 16) rfl ?_
              have hol : order.length ≤ 4 := hlabs.2.1
              have hol2 : order.length < sizeLine := by unfold sizeLine; omega
              have hisS : ∀ l ∈ order, (nm.lookup l).isSome = true := fun l hl => (hnm.val hl).1
              have hiL : ∀ l ∈ order, (nm.lookup l).getD default ∈ q.L := fun l hl => (hnm.val hl).2.1
              have hro : ∀ l ∈ order, q.L.idxOf ((nm.lookup l).getD default) < q.ro.length := fun l hl => by rw [ok.ro.1]; exact idx_lt (hiL l hl)
              have hrw : ∀ r ∈ q.rw, ∀ l ∈ order, q.L.idxOf ((nm.lookup l).getD default) < r.length := fun r hr l hl => by rw [(ok.rw r hr).1]; exact idx_lt (hiL l hl)
              have hrl : q.rw.length < sizeLine := by unfold sizeLine; omega
              walk_at "sets"
              case h =>
                walk_at "sets"
                case h =>
                  walk_at "sets"
                  case h =>
                    have okt := tr_ok ok hnm
                    have okr := (leastL_ok okt).ok
                    have eL : (leastL (q.tr nm order)).L = order := (leastL_ok okt).L
                    have eD : (.tuple [tS order, .tuple (order.map fun l => nD (q.ro.getD (q.L.idxOf ((nm.lookup l).getD default)) default)), .tuple (q.rw.map fun r => .tuple (order.map fun l => nD (r.getD (q.L.idxOf ((nm.lookup l).getD default)) default))), tS q.co] : D) = (q.tr nm order).D := by
                      unfold Qu.tr Qu.D tS tN nmOf
                      simp only [List.map_map, Function.comp_def]
                    have hRt : R_translated_by [q.D, dictD (kvS PyData.str nm)] (leastL (q.tr nm order)).D := ⟨q, nm, order, _, rfl, rfl, ok, hnm, M.least _ okt⟩
                    have hRl : R_law_least [.tuple [tS order, .tuple (order.map fun l => nD (q.ro.getD (q.L.idxOf ((nm.lookup l).getD default)) default)), .tuple (q.rw.map fun r => .tuple (order.map fun l => nD (r.getD (q.L.idxOf ((nm.lookup l).getD default)) default))), tS q.co]] (leastL (q.tr nm order)).D := ⟨q.tr nm order, by rw [eD], rfl, okt⟩
                    walk_at "set"
                    case h =>
                      have hre := okr.reprOk
                      walk_at "if"
                      case h1 =>
                        intro hk
                        simp at hk
                      case h2 =>
                        intro _
                        have hpo := pathsOf_ok (L := order) hlabs.1 d2
                        have hpa : Labs order ∧ Good 160 d2 := ⟨hlabs, g3.mono (by omega)⟩
                        have hfl : ∀ w ∈ (pathsOf order d2).1, (leastL (q.tr nm order)).colW w = q.colW (w.map (nmOf nm)) := fun w hw => by
                          have hwp := hpo w hw
                          rw [← tr_colW ok hnm hwp.ne hwp.mem]
                          obtain ⟨l, v, rfl⟩ := ne_cons hwp.ne
                          exact M.col _ l v okt (hwp.mem l List.mem_cons_self) fun a ha => hwp.mem a (List.mem_cons_of_mem _ ha)
                        refine' ec_forM ?ji PassesOwn.never rfl (fun i ρ' => ∃ b11 b12, ρ' = [.own (some 0) (.lst (pathsOf order d2).2.D), .d q.D, .d (nD x), .d (tS q.L), .d (.str (shownT q.D)), .d (lS new), .d (dictD (kvS PyData.str nm)), .d (.list (order.map fun l => nD (q.L.idxOf ((nm.lookup l).getD default)))), .d (.list (q.rw.map fun r => .tuple (order.map fun l => nD (r.getD (q.L.idxOf ((nm.lookup l).getD default)) default)))), .d (.tuple (order.map fun l => nD (q.ro.getD (q.L.idxOf ((nm.lookup l).getD default)) default))), .d (leastL (q.tr nm order)).D, b11, b12, .no, .no, .d (.str (shownT (dictD (kvS PyData.str nm)))), .d (lS order), .no, .no, .no]) ?j0 ?js ?jd (fun _ => rfl)
                        case ji => walk_at "ei"
                        case j0 => exact ⟨_, _, rfl⟩
                        case js =>
                          rintro j w ρ' hy ⟨b11, b12, rfl⟩
                          have hwm2 := List.mem_of_getElem? hy
                          have hwp := hpo w hwm2
                          have hfw := hfl w hwm2
                          have hwS : ∀ l ∈ w, (nm.lookup l).isSome = true := fun l hl => hisS l (hwp.mem l hl)
                          have hwl : w.length < sizeLine := by
                            have := hwp.len
                            unfold sizeLine
                            omega
                          have hR5 : R_colour [(leastL (q.tr nm order)).D, tS w] (.str ((leastL (q.tr nm order)).colW w)) := colour_R okr hwp.ne fun a ha => by rw [eL]; exact hwp.mem a ha
                          have hR6 : R_colour [q.D, .tuple (w.map fun l => .str ((nm.lookup l).getD default))] (.str ((leastL (q.tr nm order)).colW w)) := by
                            have e : (w.map fun l => PyData.str ((nm.lookup l).getD default)) = (w.map (nmOf nm)).map PyData.str := by
                              rw [List.map_map]
                              rfl
                            rw [e, hfw]
                            exact colour_R ok (fun z => hwp.ne (List.map_eq_nil_iff.mp z)) fun a ha => by
                              obtain ⟨l, hl, rfl⟩ := List.mem_map.mp ha
                              exact hiL l (hwp.mem l hl)
                          refine' ⟨_, _, ?jeg, ?jes⟩
                          case jeg => walk_at "eg"
                          case jes =>
                            walk_at "if"
                            case h1 =>
                              intro hk
                              simp at hk
                            case h2 =>
                              intro _
                              exact es_nil ⟨.d (tS w), b12, rfl⟩
                        case jd =>
                          rintro ρ' ⟨b11, b12, rfl⟩
                          clear hpo hfl
                          generalize pathsOf order d2 = po at *
                          have hbn : ((backOf order).map (·.1)).Nodup := by rw [back_fst]; exact slt_nodup hlabs.2.2.2
                          have hbe : (order.map fun l => (PyData.tuple [.str l, .str l] : D)) = (backOf order).map prD := by
                            unfold backOf
                            rw [List.map_map]
                            rfl
                          refine' ec_setD (d := dictD (kvS PyData.str (backOf order))) ?yn ?ye ?ynd ?yl ?yhe ?yhk ?yf ?ysw
                          case yn => walk_at "nms"
                          case ye => rfl
                          case ynd => walk_at "nd"
                          case yl => walk_at "loc"
                          case yf => walk_at "loc"
                          case ysw => rfl
                          case yhe =>
                            refine' EV.nwD ?wz
                            case wz =>
                              refine' ev_bty ?wgl ?wm ?wv ?wa ?wk
                              case wgl => walk_at "gl"
                              case wm => walk_at "mgn"
                              case wv => with_reducible exact PyProof.Rows.boot_dict
                              case wa => walk_at "ea"
                              case wk => exact cr_dictP rfl (.inl (by rw [← hbe])) hbn
                          case yhk =>
                            have hbo : NmOk (leastL (q.tr nm order)) (backOf order) order := by
                              have := back_ok okr
                              rw [eL] at this
                              exact this
                            have htb : (leastL (q.tr nm order)).tr (backOf order) order = leastL (q.tr nm order) := by
                              have := tr_back okr
                              rw [eL] at this
                              exact this
                            have hRb : R_translated_by [(leastL (q.tr nm order)).D, dictD (kvS PyData.str (backOf order))] (leastL (q.tr nm order)).D := by
                              refine ⟨_, backOf order, order, _, rfl, rfl, okr, hbo, ?_⟩
                              rw [htb]
                              have := M.least _ okr
                              rw [least_least M okt] at this
                              exact this
                            have hsh := okr.shaped
                            have hev := okr.eqv
                            refine' ec_when (k := (!PyData.eqv (leastL (q.tr nm order)).D (leastL (q.tr nm order)).D || (!decide (shownT (dictD (kvS PyData.str nm)) = shownT (dictD (kvS PyData.str nm))) || !decide (shownT q.D = shownT q.D)))) ?xc ?x1 ?x2
                            case xc =>
                              refine' EW.et ?xw
                              case xw =>
                                refine' ew_or ?orA ?orB
                                case orA =>
                                  refine' et_cmpX (hst := ?xst) ?xa ?xb ?xh
                                  case xa => walk_at "ev"
                                  case xb => walk_at "evd"
                                  case xh => exact cx_neD hr.units hsh hsh
                                  case xst => rfl
                                case orB =>
                                  intro _
                                  walk_at "ew"
                            case x1 =>
                              intro hk
                              rw [hev] at hk
                              simp at hk
                            case x2 =>
                              intro _
                              exact es_nil ⟨_, _, _, _, _, _, _, _, _, _, _, rfl⟩
    case fd =>
      rintro ρ' ⟨a2, a5, a6, a7, a8, a9, a10, a11, a12, a15, a16, rfl⟩
      rw [List.length_range]
      have hx0 : 0 < q.L.length := hl1
      have hxl : q.L.length - 1 < q.L.length := by omega
      have ho1 := getD_mem (xs := q.L) hx0
      have ho2 := getD_mem (xs := q.L) hxl
      have hsx : ∀ (X : Cx) (ρ : List Sl), SubX X (.d (tS q.L)) (.d (.int (-((1 : Nat) : Int)))) ρ (.d (.str (q.L.getD (q.L.length - 1) default))) := fun X ρ => by
        refine sx_at sq_tup ?_
        have e1 : L2.atI (q.L.map PyData.str) (-((1 : Nat) : Int)) = (q.L.map PyData.str)[q.L.length - 1]? := atI_last _ (by rw [List.length_map]; exact hl1) |>.trans (by rw [List.length_map])
        rw [e1, List.getElem?_map, List.getElem?_eq_getElem hxl, List.getD_eq_getElem?_getD, List.getElem?_eq_getElem hxl]
        rfl
      walk_at "pair"
      case h =>
        refine ES.slot ?_ (show _ = [Sl.own (some 0) (.lst (readN q.L 4 d).D), .d q.D, a2, .d (tS q.L), .d (.str (shownT q.D)), a5, a6, a7, a8, a9, a10, a11, a12, .d (.str (q.L.getD 0 default)), .d (.str (q.L.getD (q.L.length - 1) default)), a15, a16, .no, .no, .no] from rfl)
        generalize q.L.getD (q.L.length - 1) default = other at *
        generalize q.L.getD 0 default = one at *
        have hn1 : NmOk q [(("y" : Str), other), ("x", one)] ["x", "y"] := xy_ok ok ho2 ho1 (.inl rfl)
        have hn2 : NmOk q [(("x" : Str), one), ("y", other)] ["x", "y"] := xy_ok ok ho2 ho1 (.inr rfl)
        have htr : q.tr [(("y" : Str), other), ("x", one)] ["x", "y"] = q.tr [(("x" : Str), one), ("y", other)] ["x", "y"] := xy_tr q one other
        have okt := tr_ok ok hn2
        have okr := (leastL_ok okt).ok
        have hRa : R_translated q.D ([("y" : Str), "x"].zip [other, one]) (leastL (q.tr [(("x" : Str), one), ("y", other)] ["x", "y"])).D := ⟨q, ["x", "y"], _, rfl, rfl, ok, hn1, by
          have := M.least _ okt
          rw [← htr] at this ⊢
          exact this⟩
        have hRb : R_translated_by [q.D, dictD (kvS PyData.str [(("x" : Str), one), ("y", other)])] (leastL (q.tr [(("x" : Str), one), ("y", other)] ["x", "y"])).D := ⟨q, _, ["x", "y"], _, rfl, rfl, ok, hn2, M.least _ okt⟩
        have hsh := okr.shaped
        have hev := okr.eqv
        generalize leastL (q.tr [(("x" : Str), one), ("y", other)] ["x", "y"]) = r at *
        have hnd : (([(("x" : Str), one), ("y", other)] : List (Str × Str)).map (·.1)).Nodup := xy_nodup one other
        refine' ec_ret (d := .bool (PyData.eqv r.D r.D)) ?va ?vb
        case va =>
          refine' ev_cmpX (hst := ?vst) ?vc ?vd ?ve
          case vc =>
            obtain ⟨g, hm, hkp, hW⟩ := h7.ex
            refine' ev_callW (ss := [other, one]) (hW ["y", "x"] List.mem_cons_self) ?ur ?ug hm hkp ?ua ?uk rfl hRa
            case ur => exact hr.mono (by decide)
            case ug => walk_at "gl"
            case ua => walk_at "ev"
            case uk =>
              refine' ek_cons ?ta (ek_cons ?tb ek_nil)
              case ta => walk_at "ev"
              case tb => walk_at "ev"
          case vd =>
            refine' ev_defE ?sG ?sr ?sk ?sgl ?sa ?sR
            case sG => exact h4
            case sr => assumption
            case sk => decide
            case sgl => walk_at "gl"
            case sa =>
              refine' ead_cons ?ra (ead_cons ?rb ead_nil)
              case ra => walk_at "ev"
              case rb =>
                refine' EV.nwD ?qz
                case qz =>
                  refine' ev_bty ?pgl ?pm ?pv ?pa ?pk
                  case pgl => walk_at "gl"
                  case pm => walk_at "mgn"
                  case pv => with_reducible exact PyProof.Rows.boot_dict
                  case pa => walk_at "ea"
                  case pk => exact cr_dictP rfl (.inl rfl) hnd
            case sR => exact hRb
          case ve => exact cx_eqD hr.units hsh hsh
          case vst => rfl
        case vb => exact ⟨by rw [hev], rfl⟩
end
end

end
section
abbrev R_written : List D → D → Prop := fun ds x => ds = [] ∧ x = .bool true
abbrev R_law : List D → D → Prop := fun ds x => ∃ ns : List Int, ds = [.list (ns.map PyData.int)] ∧ x = .bool true ∧ ns.length ≤ 63
def child : Qu := ⟨["a", "b"], [0, 0], [[1, 1], [2, 2], [2, 2]], ["no", "yes", "no"]⟩
theorem ab_lab : Lab "a" ∧ Lab "b" ∧ Lab "no" ∧ Lab "yes" ∧ Lab "only" := ⟨labCheck_lab (by decide +kernel), labCheck_lab (by decide +kernel), labCheck_lab (by decide +kernel), labCheck_lab (by decide +kernel), labCheck_lab (by decide +kernel)⟩
theorem child_ok : child.Ok := by
  obtain ⟨la, lb, ln, ly, _⟩ := ab_lab
  refine ⟨⟨by decide, by decide, fun s hs => ?_, by decide +kernel⟩, by decide, by decide, ⟨by decide, by decide⟩, fun r hr => ?_, by decide, fun c hc => ?_⟩
  · simp only [child, List.mem_cons, List.not_mem_nil, or_false] at hs
    rcases hs with rfl | rfl
    · exact la
    · exact lb
  · simp only [child, List.mem_cons, List.not_mem_nil, or_false] at hr
    rcases hr with rfl | rfl | rfl
    · exact ⟨by decide, by decide⟩
    · exact ⟨by decide, by decide⟩
    · exact ⟨by decide, by decide⟩
  · simp only [child, List.mem_cons, List.not_mem_nil, or_false] at hc
    rcases hc with rfl | rfl | rfl
    · exact ln
    · exact ly
    · exact ln
theorem child_b : leastL (child.at ["b"]) = ⟨["a", "b"], [0, 0], [[1, 1], [1, 1]], ["yes", "no"]⟩ := by kernel_rfl!
theorem child_aa : leastL (child.at ["a", "a"]) = ⟨["a", "b"], [0, 0], [[0, 0]], ["no"]⟩ := by kernel_rfl!
theorem child_only : leastL (child.tr [(("only" : Str), "b")] ["only"]) = ⟨["only"], [0], [[1], [2], [2]], ["no", "yes", "no"]⟩ := by kernel_rfl!
theorem only_ok : NmOk child [(("only" : Str), "b")] ["only"] := by
  refine ⟨by simp, by simp, fun p hp => ?_, .refl _, by simp⟩
  rw [List.mem_singleton] at hp
  subst hp
  exact ⟨ab_lab.2.2.2.2, by simp [child]⟩
def longW : List Str := (List.replicate 2500 [("a" : Str), "b"]).flatten
theorem mem_longW : ∀ (n : Nat) (x : Str), x ∈ (List.replicate n [("a" : Str), "b"]).flatten → x ∈ child.L := fun n x hx => by
  obtain ⟨l, hl, hx⟩ := List.mem_flatten.mp hx
  rw [List.eq_of_mem_replicate hl] at hx
  exact hx
theorem child_stay : ∀ w : List Str, (∀ a ∈ w, a ∈ child.L) → child.run 2 w = 2
  | [], _ => rfl
  | a :: w, h => by
    have h1 : child.step 2 a = 2 := by
      have ha : a ∈ child.L := h a List.mem_cons_self
      simp only [child, List.mem_cons, List.not_mem_nil, or_false] at ha
      rcases ha with rfl | rfl
      · decide +kernel
      · decide +kernel
    rw [run_cons, h1]
    exact child_stay w fun x hx => h x (List.mem_cons_of_mem _ hx)
theorem child_long : child.at longW = child.at ["a", "a"] := by
  have e : longW = ("a" : Str) :: "b" :: "a" :: "b" :: (List.replicate 2498 [("a" : Str), "b"]).flatten := by
    unfold longW
    rw [show (2500 : Nat) = 2498 + 1 + 1 from rfl, List.replicate_succ, List.flatten_cons, List.replicate_succ, List.flatten_cons]
    rfl
  rw [e]
  show ({ child with ro := child.rw.getD (child.run (child.root "a") (("b" : Str) :: "a" :: "b" :: (List.replicate 2498 [("a" : Str), "b"]).flatten)) default } : Qu) = _
  have h1 : child.run (child.root "a") (("b" : Str) :: "a" :: "b" :: (List.replicate 2498 [("a" : Str), "b"]).flatten) = 2 := by
    rw [run_cons, run_cons]
    have : child.step (child.step (child.root "a") "b") "a" = 2 := by decide +kernel
    rw [this]
    refine child_stay _ fun a ha => ?_
    rcases List.mem_cons.mp ha with rfl | ha
    · decide +kernel
    · exact mem_longW 2498 a ha
  have h2 : child.run (child.root "a") ["a"] = 1 := by decide +kernel
  rw [h1]
  show _ = ({ child with ro := child.rw.getD (child.run (child.root "a") ["a"]) default } : Qu)
  rw [h2]
  rfl
theorem longW_len : longW.length = 5000 := by
  unfold longW
  rw [List.length_flatten, List.map_replicate, List.sum_replicate_nat]
  rfl
theorem longW_D : (PyData.tuple (List.replicate 2500 [PyData.str "a", PyData.str "b"]).flatten : D) = tS longW := by
  unfold longW tS
  rw [List.map_flatten, List.map_replicate]
  rfl
section
variable {P : Program} {w : World} {K : PySem.W.Frag} {mg : Str → Option Value} {base : Heap}
section
theorem sc_translated : FnScope ["query", "names"] ["query", "names"] (defScope (topS 31)) := ⟨rfl, rfl, rfl, by decide +kernel, rfl, by decide +kernel, by decide +kernel⟩
local macro_rules | `(tactic| walk_at "nd") => `(tactic| exact sc_translated.nd)
local macro_rules | `(tactic| walk_at "blk") => `(tactic| (refine' blkOk_of (N' := ["query", "names"]) ?hN ?hs ?h; (case hN => rfl); (case hs => first | exact body_scope | exact blk_scope body_scope | exact blk_scope (blk_scope body_scope)); (case h => decide +kernel)))
theorem nm_translated_0 : NmAt ["query", "names"] 0 "query" := ⟨rfl⟩
theorem nm_translated_1 : NmAt ["query", "names"] 1 "names" := ⟨rfl⟩
local macro_rules | `(tactic| walk_at "nms") => `(tactic| first | with_reducible exact nm_translated_0 | with_reducible exact nm_translated_1)
theorem ok_translated {f fd} (F : Fun K "translated" "translated" (topS 31) f fd) (hm : mg "translated" = some (.ref f)) (h4 : Ok P w K mg base 6 "translated_by" ["query", "names"] (spD K R_translated_by)) : OkW P w K mg base 7 "translated" [["y", "x"], ["only"]] R_translated := by
  have bd : ∀ (cdv : Value) (A : Around) (outer : List Env) (s : Shared) (H : Hp) (E : XK), Room 6 (A.deeper (PyProof.Rows.envOfC "translated" (defScope (topS 31)) s.heap.objs.size f cdv)) → ∀ (d : D) (nm : List (Str × Str)) (y : D), R_translated d nm y →
      ES (bodyX P w K mg base ["query", "names"] "translated" (topS 31) f cdv A outer s H E) (defBody (topS 31)) (dsl [d, dictD (kvS PyData.str nm)] 2) { nx := fun _ => y = .none, rt := fun _ z => z = y } := by
    rintro cdv A outer s H E hr d nm y ⟨q, Ls, r, e1, e2, ok, hn, hle⟩
    subst e1 e2
    have hR : R_translated_by [q.D, dictD (kvS PyData.str nm)] r.D := ⟨q, nm, Ls, r, rfl, rfl, ok, hn, hle⟩
    walk_at "ret"
    rfl
  refine ⟨f, hm, F.kp, fun ks hks => ?_⟩
  rcases List.mem_cons.mp hks with rfl | hks
  · refine FnW.of F sc_translated (by decide +kernel) (by decide) (fun kV doc pm an cdv ct u kw hk => ?_) fun cdv A outer s H E hr d nm y _ hR => bd cdv A outer s H E hr d nm y hR
    match kw, hk with
    | [(a, v1), (b, v2)], hk =>
      have h1 : a = "y" := (List.cons.inj hk).1
      have h2 : b = "x" := (List.cons.inj (List.cons.inj hk).2).1
      subst h1 h2
      rfl
  · rw [List.mem_singleton] at hks
    subst hks
    refine FnW.of F sc_translated (by decide +kernel) (by decide) (fun kV doc pm an cdv ct u kw hk => ?_) fun cdv A outer s H E hr d nm y _ hR => bd cdv A outer s H E hr d nm y hR
    match kw, hk with
    | [(a, v1)], hk =>
      have h1 : a = "only" := (List.cons.inj hk).1
      subst h1
      rfl
end
section
theorem sc__law_written_right : FnScope ["child", "found"] [] (defScope (topS 57)) := ⟨rfl, rfl, rfl, by decide +kernel, rfl, by decide +kernel, by decide +kernel⟩
local macro_rules | `(tactic| walk_at "nd") => `(tactic| exact sc__law_written_right.nd)
local macro_rules | `(tactic| walk_at "blk") => `(tactic| (refine' blkOk_of (N' := ["child", "found"]) ?hN ?hs ?h; (case hN => rfl); (case hs => first | exact body_scope | exact blk_scope body_scope | exact blk_scope (blk_scope body_scope)); (case h => decide +kernel)))
theorem nm__law_written_right_0 : NmAt ["child", "found"] 0 "child" := ⟨rfl⟩
theorem nm__law_written_right_1 : NmAt ["child", "found"] 1 "found" := ⟨rfl⟩
local macro_rules | `(tactic| walk_at "nms") => `(tactic| first | with_reducible exact nm__law_written_right_0 | with_reducible exact nm__law_written_right_1)
theorem ok_law_written_right (M : MathQ) {f fd} (h : Has K mg "_law_written_right" (topS 57) [] f fd) (hb : NoB mg) (h4 : Ok P w K mg base 6 "underneath" ["query", "word"] (spD K R_underneath)) (h7 : OkW P w K mg base 7 "translated" [["y", "x"], ["only"]] R_translated) : Ok P w K mg base 8 "_law_written_right" [] (spD K R_written) := by
  refine Ok.data h sc__law_written_right (fun ds x e => by rw [e.1]; rfl) fun cdv A outer s H E hr ds y ⟨e1, e2⟩ => ?_
  subst e1 e2
  have q1 : Qu := ⟨["a", "b"], [0, 0], [[1, 1], [1, 1]], ["yes", "no"]⟩
  have hR1 : R_underneath [child.D, .tuple [.str "b"]] (⟨["a", "b"], [0, 0], [[1, 1], [1, 1]], ["yes", "no"]⟩ : Qu).D := ⟨child, ["b"], _, rfl, rfl, child_ok, by decide, by decide, child_b ▸ M.least _ (at_ok child_ok (by decide))⟩
  have hR2 : R_underneath [child.D, .tuple [.str "a", .str "a"]] (⟨["a", "b"], [0, 0], [[0, 0]], ["no"]⟩ : Qu).D := ⟨child, ["a", "a"], _, rfl, rfl, child_ok, by decide, by decide, child_aa ▸ M.least _ (at_ok child_ok (by decide))⟩
  have hR3 : R_underneath [child.D, .tuple (List.replicate 2500 [PyData.str "a", PyData.str "b"]).flatten] (⟨["a", "b"], [0, 0], [[0, 0]], ["no"]⟩ : Qu).D := by
    rw [longW_D]
    refine ⟨child, longW, _, rfl, rfl, child_ok, mem_longW 2500, Nat.le_of_eq longW_len, ?_⟩
    rw [child_long]
    exact child_aa ▸ M.least _ (at_ok child_ok (by decide))
  have hR4 : R_translated child.D ([("only" : Str)].zip ["b"]) (⟨["only"], [0], [[1], [2], [2]], ["no", "yes", "no"]⟩ : Qu).D := ⟨child, ["only"], _, rfl, rfl, child_ok, only_ok, child_only ▸ M.least _ (tr_ok child_ok only_ok)⟩
  walk_at "set"
  case h =>
    refine ES.slot ?_ (show _ = [Sl.d child.D, .no] from rfl)
    walk_at "setN"
    case h =>
      refine es_fz (i := 1) rfl ?_
      refine' ec_when (k := false) ?xc ?x1 ?x2
      case xc =>
        refine' et_cmpX (hst := ?xst) ?xa ?xb ?xh
        case xa => walk_at "ev"
        case xb => walk_at "evd"
        case xh => exact (cx_neD hr.units (by decide +kernel) (by decide +kernel)).cast (congrArg (fun b => Rs.d (PyData.bool (!b))) (show PyData.eqv _ _ = true by decide +kernel))
        case xst => rfl
      case x1 => exact fun z => nomatch z
      case x2 =>
        intro _
        refine' ec_when (k := false) ?yc ?y1 ?y2
        case yc =>
          refine' et_cmpX (hst := ?yst) ?ya ?yb ?yh
          case ya =>
            refine' ev_defE ?sG ?sr ?sk ?sgl ?sa ?sR
            case sG => exact h4
            case sr => assumption
            case sk => decide
            case sgl => walk_at "gl"
            case sa =>
              refine' ead_cons ?ra (ead_cons ?rb ead_nil)
              case ra => walk_at "ev"
              case rb =>
                refine' ev_binX (hst := ?qst) ?qa ?qb ?qh
                case qa => walk_at "ev"
                case qb => walk_at "ev"
                case qh => exact bx_repT (by simp) (by decide) (by decide) (by decide)
                case qst => rfl
            case sR => exact hR3
          case yb => walk_at "evd"
          case yh => exact (cx_neD hr.units (by decide +kernel) (by decide +kernel)).cast (congrArg (fun b => Rs.d (PyData.bool (!b))) (show PyData.eqv _ _ = true by decide +kernel))
          case yst => rfl
        case y1 => exact fun z => nomatch z
        case y2 =>
          intro _
          refine' ec_ret (d := .bool true) ?va ?vb
          case vb => rfl
          case va =>
            refine' ev_cmpX (hst := ?vst) ?vc ?vd ?ve
            case vc =>
              obtain ⟨g, hm, hkp, hW⟩ := h7.ex
              refine' ev_callW (ss := ["b"]) (hW ["only"] (List.mem_cons_of_mem _ List.mem_cons_self)) ?ur ?ug hm hkp ?ua ?uk rfl hR4
              case ur => exact hr.mono (by decide)
              case ug => walk_at "gl"
              case ua => walk_at "ev"
              case uk =>
                refine' ek_cons ?ta ek_nil
                case ta => walk_at "ev"
            case vd => walk_at "evd"
            case ve => exact (cx_eqD hr.units (by decide +kernel) (by decide +kernel)).cast (congrArg (fun b => Rs.d (PyData.bool b)) (show PyData.eqv _ _ = true by decide +kernel))
            case vst => rfl
end
end

end
section
local macro_rules | `(tactic| walk_at "evn") => `(tactic| (refine' ev_defNE ?G ?r ?k ?gl ?a ?R; (case G => assumption); (case r => assumption); (case k => decide); (case gl => walk_at "gl"); (case a => walk_at "ead"); (case R => assumption)))
local macro_rules | `(tactic| walk_at "def") => `(tactic| (refine' ev_defBEQ ?G ?q ?r ?k ?gl ?b ?a ?i ?R; (case G => assumption); (case q => assumption); (case r => assumption); (case k => decide); (case gl => walk_at "gl"); (case b => walk_at "ev"); (case a => walk_at "ead"); (case i => rfl); (case R => walk_at "rel")))
theorem len_law : ∀ ds x, R_law ds x → ds.length = [("script" : Str)].length := by
  intro ds x h
  rcases h with ⟨ns, e1, e2⟩
  rw [e1]
  rfl
section
variable {P : Program} {w : World} {K : PySem.W.Frag} {mg : Str → Option Value} {base : Heap}
section
theorem sc_law : FnScope ["script", "case", "die", "labels", "query"] ["script"] (defScope (topS 58)) := ⟨rfl, rfl, rfl, by decide +kernel, rfl, by decide +kernel, by decide +kernel⟩
local macro_rules | `(tactic| walk_at "nd") => `(tactic| exact sc_law.nd)
local macro_rules | `(tactic| walk_at "blk") => `(tactic| (refine' blkOk_of (N' := ["script", "case", "die", "labels", "query"]) ?hN ?hs ?h; (case hN => rfl); (case hs => first | exact body_scope | exact blk_scope body_scope | exact blk_scope (blk_scope body_scope)); (case h => decide +kernel)))
theorem nm_law_0 : NmAt ["script", "case", "die", "labels", "query"] 0 "script" := ⟨rfl⟩
theorem nm_law_1 : NmAt ["script", "case", "die", "labels", "query"] 1 "case" := ⟨rfl⟩
theorem nm_law_2 : NmAt ["script", "case", "die", "labels", "query"] 2 "die" := ⟨rfl⟩
theorem nm_law_3 : NmAt ["script", "case", "die", "labels", "query"] 3 "labels" := ⟨rfl⟩
theorem nm_law_4 : NmAt ["script", "case", "die", "labels", "query"] 4 "query" := ⟨rfl⟩
local macro_rules | `(tactic| walk_at "nms") => `(tactic| first | with_reducible exact nm_law_0 | with_reducible exact nm_law_1 | with_reducible exact nm_law_2 | with_reducible exact nm_law_3 | with_reducible exact nm_law_4)
theorem ok_law {f fd} (h : Has K mg "law" (topS 58) ["script"] f fd) (hb : NoB mg) (h1 : Ok P w K mg base 1 "_law_dice" ["script", "spot"] (spN K R_dice)) (h2 : Ok P w K mg base 3 "_law_labels" ["die"] (spB K R_labels)) (h3 : Ok P w K mg base 4 "_law_query" ["die", "labels", "high"] (spB K R_query)) (h4 : OkQ P w K mg base 7 "_law_below_right" ["die", "query"] (spB K R_below)) (h5 : OkQ P w K mg base 8 "_law_read_right" ["die", "query"] (spB K R_read)) (h6 : Ok P w K mg base 8 "_law_written_right" [] (spD K R_written)) : FnQ P w K mg base 9 f fd ["script"] (spD K R_law) := by
  refine fnq_data h.fn sc_law len_law fun cdv A outer s H E hq hr ds y ⟨ns, e1, e2, hn⟩ => ?_
  subst e1 e2
  have hs1 : max 1 (min 6 ns.length) < 2 ^ 62 := Nat.lt_trans (show max 1 (min 6 ns.length) < 2 ^ 3 by omega) (by decide)
  refine' ec_forM ?fi PassesOwn.never rfl (fun i ρ' => ∃ a1 a2 a3 a4, ρ' = [.d (.list (ns.map PyData.int)), a1, a2, a3, a4]) ?f0 ?fs ?fd (fun _ => rfl)
  case fi => walk_at "ei"
  case f0 => exact ⟨_, _, _, _, rfl⟩
  case fs =>
    rintro i x ρ' hx ⟨a1, a2, a3, a4, rfl⟩
    have hx2 : x < max 1 (min 6 ns.length) := List.mem_range.mp (List.mem_of_getElem? hx)
    refine' ⟨_, _, ?feg, ?fes⟩
    case feg => walk_at "eg"
    case fes =>
      have hR1 : R_dice [.list (ns.map PyData.int), nD x] (diceOf (cellOf ns x) x).D := ⟨ns, x, rfl, rfl, by omega⟩
      walk_at "setN"
      case h =>
        have g0 : Good 10000 (diceOf (cellOf ns x) x) := (dice_good _ _).mono (by decide)
        generalize diceOf (cellOf ns x) x = d0 at *
        have hR2 : R_labels d0.D [] (labelsOf d0).2.D (tS (labelsOf d0).1) := ⟨d0, rfl, rfl, rfl, rfl, g0.mono (by omega)⟩
        have hlabs := labelsOf_ok d0
        have g1 : Good 9990 (labelsOf d0).2 := labelsOf_costs _ _ (g0.mono (by omega))
        walk_at "set"
        case h =>
          clear hR1 hR2
          generalize labelsOf d0 = la at *
          have hR3 : R_query la.2.D [tS la.1, nD 6] (queryOf la.1 6 la.2).2.D (queryOf la.1 6 la.2).1.D := ⟨la.2, la.1, 6, rfl, rfl, rfl, rfl, hlabs, by decide, by decide, g1.mono (by omega)⟩
          have hq1 := queryOf_ok hlabs (high := 6) (by decide) (by decide) la.2
          have g2 : Good 9490 (queryOf la.1 6 la.2).2 := queryOf_costs hlabs (by decide) (by decide) _ _ (g1.mono (by omega))
          walk_at "set"
          case h =>
            clear hR3
            generalize queryOf la.1 6 la.2 = qu at *
            have hok := hq1.ok
            have hR4 : R_below qu.2.D [qu.1.D] (belowN qu.1.L 4 qu.2).D (.bool true) := ⟨qu.2, qu.1, rfl, rfl, rfl, rfl, hok, g2.mono (by omega)⟩
            have g3 : Good 1000 (belowN qu.1.L 4 qu.2) := belowN_good (n := 4) (k := 1000) (g2.mono (by omega))
            have hR5 : R_read (belowN qu.1.L 4 qu.2).D [qu.1.D] (readN qu.1.L 4 (belowN qu.1.L 4 qu.2)).D (.bool true) := ⟨_, qu.1, rfl, rfl, rfl, rfl, hok, g3⟩
            refine' ec_when (k := false) ?zc ?z1 ?z2
            case zc =>
              refine' EW.et ?zw
              case zw =>
                refine' ew_orF (k := false) ?ya rfl ?yb
                case ya =>
                  refine' et_not (k := true) ?ta
                  case ta =>
                    refine' et_val ?tb
                    case tb => walk_at "ev"
                case yb =>
                  refine' ew_or1 ?ua
                  case ua =>
                    refine' et_not (k := true) ?ub
                    case ub =>
                      refine' et_val ?uc
                      case uc => walk_at "ev"
            case z1 => exact fun z => nomatch z
            case z2 =>
              intro _
              exact es_nil ⟨_, _, _, _, rfl⟩
  case fd =>
    rintro ρ' ⟨a1, a2, a3, a4, rfl⟩
    have hR6 : R_written [] (.bool true) := ⟨rfl, rfl⟩
    walk_at "ret"
    rfl
end
end

end
section
/-- a def as it stands behind the top -/
structure DefIn (K : PySem.W.Frag) (x : Str) (st : Stmt) (f : Addr) : Prop where
  ex : ∃ (oc : Value) (od : Option Addr) (kV dc pm : Value) (an : Option Addr) (cd ct : Value) (sl : Array (Option Value)), PySem.W.nsIn K mainGlobals x = some (some (.ref f)) ∧ K.lookup f = some ⟨oc, od, .func (PySem.W.fnOf x x (defArgs st) (defBody st) (defScope st) .none kV dc pm an cd ct), sl⟩ ∧ PySem.W.codeIn K cd x = true ∧ PySem.W.keepIn K (.ref f) = true
section
variable {K : PySem.W.Frag} {x : Str} {st : Stmt} {f : Addr} {ps : List Str} {h : Heap} {mg : Str → Option Value}
theorem DefIn.of {oc : Value} {od : Option Addr} {kV dc pm : Value} {an : Option Addr} {cd ct : Value} {sl : Array (Option Value)} (a : PySem.W.nsIn K mainGlobals x = some (some (.ref f))) (l : K.lookup f = some ⟨oc, od, .func (PySem.W.fnOf x x (defArgs st) (defBody st) (defScope st) .none kV dc pm an cd ct), sl⟩) (c : PySem.W.codeIn K cd x = true) (k : PySem.W.keepIn K (.ref f) = true) : DefIn K x st f := ⟨_, _, _, _, _, _, _, _, _, a, l, c, k⟩
theorem DefIn.fn (d : DefIn K x st f) : ∃ fd, Fun K x x st f fd := by
  obtain ⟨_, _, _, _, _, _, _, _, _, _, l, c, k⟩ := d.ex
  exact ⟨_, fun_mk (st := st) l c k⟩
theorem DefIn.at_ (d : DefIn K x st f) (X : K.In h) (G : h.Ns mainGlobals mg) : mg x = some (.ref f) := by
  obtain ⟨_, _, _, _, _, _, _, _, _, a, _, _, _⟩ := d.ex
  exact PySem.W.mg_of X G a
theorem DefIn.has (d : DefIn K x st f) (X : K.In h) (G : h.Ns mainGlobals mg) (b : ∀ (kV doc pm : Value) (an : Option Addr) (cdv ct : Value) (us : List Value), us.length = ps.length → bindArgs (PySem.W.fnOf x x (defArgs st) (defBody st) (defScope st) .none kV doc pm an cdv ct) ⟨us, []⟩ = pure (ps.zip us)) : ∃ fd, Has K mg x st ps f fd ∧ ∀ (s : Shared) (us : List Value), us.length = ps.length → BindsTo s fd ⟨us, []⟩ (ps.zip us) := by
  obtain ⟨oc, od, kV, dc, pm, an, cd, ct, sl, _, l, c, k⟩ := d.ex
  exact ⟨_, ⟨fun_mk (st := st) l c k, d.at_ X G, (fun_mk (st := st) l c k).binds b⟩, fun s us hl => .of_eq (b _ _ _ _ _ _ us hl)⟩
end
theorem all_mk {P : Program} {w : World} {K : PySem.W.Frag} {h : Heap} {mg : Str → Option Value} {fa a_is_integer a_is_between a_is_label a_is_labels a_is_word_of a_check_word a_is_colour a_are_states a_is_query a_check_query a_root_state_by a_behind_by a_first_paths_by a_kinds_by a_least_by a_underneath a_translated_by a_translated a__law_dice a__law_pull a__law_shuffled a__law_labels a__law_word a__law_from a__law_behind a__law_kinds a__law_least a__law_names a__law_any_query a__law_steps_query a__law_layers_query a__law_depth_query a__law_last_query a__law_counts_query a__law_both a__law_renumbered a__law_query a__law_short a__law_colour a__law_some_paths a__law_below_right a__law_read_right a__law_written_right a_law : Addr} (X : K.In h) (G : h.Ns mainGlobals mg) (hfa : mg "law" = some (.ref fa))
    (d_is_integer : DefIn K "is_integer" (topS 11) a_is_integer) (d_is_between : DefIn K "is_between" (topS 12) a_is_between) (d_is_label : DefIn K "is_label" (topS 13) a_is_label) (d_is_labels : DefIn K "is_labels" (topS 14) a_is_labels) (d_is_word_of : DefIn K "is_word_of" (topS 15) a_is_word_of) (d_check_word : DefIn K "check_word" (topS 16) a_check_word) (d_is_colour : DefIn K "is_colour" (topS 19) a_is_colour) (d_are_states : DefIn K "are_states" (topS 20) a_are_states) (d_is_query : DefIn K "is_query" (topS 21) a_is_query) (d_check_query : DefIn K "check_query" (topS 22) a_check_query) (d_root_state_by : DefIn K "root_state_by" (topS 23) a_root_state_by) (d_behind_by : DefIn K "behind_by" (topS 24) a_behind_by) (d_first_paths_by : DefIn K "first_paths_by" (topS 25) a_first_paths_by) (d_kinds_by : DefIn K "kinds_by" (topS 26) a_kinds_by) (d_least_by : DefIn K "least_by" (topS 27) a_least_by) (d_underneath : DefIn K "underneath" (topS 29) a_underneath) (d_translated_by : DefIn K "translated_by" (topS 30) a_translated_by) (d_translated : DefIn K "translated" (topS 31) a_translated) (d__law_dice : DefIn K "_law_dice" (topS 33) a__law_dice) (d__law_pull : DefIn K "_law_pull" (topS 34) a__law_pull) (d__law_shuffled : DefIn K "_law_shuffled" (topS 35) a__law_shuffled) (d__law_labels : DefIn K "_law_labels" (topS 36) a__law_labels) (d__law_word : DefIn K "_law_word" (topS 37) a__law_word) (d__law_from : DefIn K "_law_from" (topS 38) a__law_from) (d__law_behind : DefIn K "_law_behind" (topS 39) a__law_behind) (d__law_kinds : DefIn K "_law_kinds" (topS 40) a__law_kinds) (d__law_least : DefIn K "_law_least" (topS 41) a__law_least) (d__law_names : DefIn K "_law_names" (topS 42) a__law_names) (d__law_any_query : DefIn K "_law_any_query" (topS 43) a__law_any_query) (d__law_steps_query : DefIn K "_law_steps_query" (topS 44) a__law_steps_query) (d__law_layers_query : DefIn K "_law_layers_query" (topS 45) a__law_layers_query) (d__law_depth_query : DefIn K "_law_depth_query" (topS 46) a__law_depth_query) (d__law_last_query : DefIn K "_law_last_query" (topS 47) a__law_last_query) (d__law_counts_query : DefIn K "_law_counts_query" (topS 48) a__law_counts_query) (d__law_both : DefIn K "_law_both" (topS 49) a__law_both) (d__law_renumbered : DefIn K "_law_renumbered" (topS 50) a__law_renumbered) (d__law_query : DefIn K "_law_query" (topS 51) a__law_query) (d__law_short : DefIn K "_law_short" (topS 52) a__law_short) (d__law_colour : DefIn K "_law_colour" (topS 53) a__law_colour) (d__law_some_paths : DefIn K "_law_some_paths" (topS 54) a__law_some_paths) (d__law_below_right : DefIn K "_law_below_right" (topS 55) a__law_below_right) (d__law_read_right : DefIn K "_law_read_right" (topS 56) a__law_read_right) (d__law_written_right : DefIn K "_law_written_right" (topS 57) a__law_written_right) (d_law : DefIn K "law" (topS 58) a_law)
    {t_MOST_LETTERS : Tok} (c_MOST_LETTERS : PySem.W.nsIn K mainGlobals "MOST_LETTERS" = some (some (.int 8 t_MOST_LETTERS))) {t_LETTERS : Tok} (c_LETTERS : PySem.W.nsIn K mainGlobals "LETTERS" = some (some (.str LETTERS t_LETTERS))) {t_MOST_LABELS : Tok} (c_MOST_LABELS : PySem.W.nsIn K mainGlobals "MOST_LABELS" = some (some (.int 4 t_MOST_LABELS))) {t_MAX_WORD : Tok} (c_MAX_WORD : PySem.W.nsIn K mainGlobals "MAX_WORD" = some (some (.int 5000 t_MAX_WORD))) {t_MAX_STATES : Tok} (c_MAX_STATES : PySem.W.nsIn K mainGlobals "MAX_STATES" = some (some (.int 40 t_MAX_STATES)))
    (n_isinstance : PySem.W.nsIn K mainGlobals "isinstance" = some none) (n_int : PySem.W.nsIn K mainGlobals "int" = some none) (n_bool : PySem.W.nsIn K mainGlobals "bool" = some none) (n_str : PySem.W.nsIn K mainGlobals "str" = some none) (n_tuple : PySem.W.nsIn K mainGlobals "tuple" = some none) (n_list : PySem.W.nsIn K mainGlobals "list" = some none) (n_dict : PySem.W.nsIn K mainGlobals "dict" = some none) (n_len : PySem.W.nsIn K mainGlobals "len" = some none) (n_all : PySem.W.nsIn K mainGlobals "all" = some none) (n_any : PySem.W.nsIn K mainGlobals "any" = some none) (n_zip : PySem.W.nsIn K mainGlobals "zip" = some none) (n_enumerate : PySem.W.nsIn K mainGlobals "enumerate" = some none) (n_range : PySem.W.nsIn K mainGlobals "range" = some none) (n_set : PySem.W.nsIn K mainGlobals "set" = some none) (n_sorted : PySem.W.nsIn K mainGlobals "sorted" = some none) (n_sum : PySem.W.nsIn K mainGlobals "sum" = some none) (n_min : PySem.W.nsIn K mainGlobals "min" = some none) (n_max : PySem.W.nsIn K mainGlobals "max" = some none) (n_abs : PySem.W.nsIn K mainGlobals "abs" = some none) (n_repr : PySem.W.nsIn K mainGlobals "repr" = some none) :
    ∃ fd : FuncData, (∀ (s : Shared) (u : Value), BindsTo s fd ⟨[u], []⟩ [("script", u)]) ∧ ∀ base : Heap, K.In base → base.Ns mainGlobals mg → FnQ P w K mg base 9 fa fd ["script"] (spD K R_law) := by
  have hb : NoB mg := by
    intro b hb2
    simp only [bnames, List.mem_cons, List.not_mem_nil, or_false] at hb2
    rcases hb2 with rfl | rfl | rfl | rfl | rfl | rfl | rfl | rfl | rfl | rfl | rfl | rfl | rfl | rfl | rfl | rfl | rfl | rfl | rfl | rfl
    · exact PySem.W.mg_none_of X G n_isinstance
    · exact PySem.W.mg_none_of X G n_int
    · exact PySem.W.mg_none_of X G n_bool
    · exact PySem.W.mg_none_of X G n_str
    · exact PySem.W.mg_none_of X G n_tuple
    · exact PySem.W.mg_none_of X G n_list
    · exact PySem.W.mg_none_of X G n_dict
    · exact PySem.W.mg_none_of X G n_len
    · exact PySem.W.mg_none_of X G n_all
    · exact PySem.W.mg_none_of X G n_any
    · exact PySem.W.mg_none_of X G n_zip
    · exact PySem.W.mg_none_of X G n_enumerate
    · exact PySem.W.mg_none_of X G n_range
    · exact PySem.W.mg_none_of X G n_set
    · exact PySem.W.mg_none_of X G n_sorted
    · exact PySem.W.mg_none_of X G n_sum
    · exact PySem.W.mg_none_of X G n_min
    · exact PySem.W.mg_none_of X G n_max
    · exact PySem.W.mg_none_of X G n_abs
    · exact PySem.W.mg_none_of X G n_repr
  have g_MOST_LETTERS := PySem.W.mg_of X G c_MOST_LETTERS
  have g_LETTERS := PySem.W.mg_of X G c_LETTERS
  have g_MOST_LABELS := PySem.W.mg_of X G c_MOST_LABELS
  have g_MAX_WORD := PySem.W.mg_of X G c_MAX_WORD
  have g_MAX_STATES := PySem.W.mg_of X G c_MAX_STATES
  obtain ⟨fd_is_integer, h_is_integer, b_is_integer⟩ := d_is_integer.has (ps := ["value"]) X G fun _ _ _ _ _ _ us hl => match us, hl with | [_], _ => rfl
  obtain ⟨fd_is_between, h_is_between, b_is_between⟩ := d_is_between.has (ps := ["value", "low", "high"]) X G fun _ _ _ _ _ _ us hl => match us, hl with | [_, _, _], _ => rfl
  obtain ⟨fd_is_label, h_is_label, b_is_label⟩ := d_is_label.has (ps := ["value"]) X G fun _ _ _ _ _ _ us hl => match us, hl with | [_], _ => rfl
  obtain ⟨fd_is_labels, h_is_labels, b_is_labels⟩ := d_is_labels.has (ps := ["value"]) X G fun _ _ _ _ _ _ us hl => match us, hl with | [_], _ => rfl
  obtain ⟨fd_is_word_of, h_is_word_of, b_is_word_of⟩ := d_is_word_of.has (ps := ["labels", "value"]) X G fun _ _ _ _ _ _ us hl => match us, hl with | [_, _], _ => rfl
  obtain ⟨fd_check_word, h_check_word, b_check_word⟩ := d_check_word.has (ps := ["labels", "word"]) X G fun _ _ _ _ _ _ us hl => match us, hl with | [_, _], _ => rfl
  obtain ⟨fd_is_colour, h_is_colour, b_is_colour⟩ := d_is_colour.has (ps := ["value"]) X G fun _ _ _ _ _ _ us hl => match us, hl with | [_], _ => rfl
  obtain ⟨fd_are_states, h_are_states, b_are_states⟩ := d_are_states.has (ps := ["value", "many", "size"]) X G fun _ _ _ _ _ _ us hl => match us, hl with | [_, _, _], _ => rfl
  obtain ⟨fd_is_query, h_is_query, b_is_query⟩ := d_is_query.has (ps := ["value"]) X G fun _ _ _ _ _ _ us hl => match us, hl with | [_], _ => rfl
  obtain ⟨fd_check_query, h_check_query, b_check_query⟩ := d_check_query.has (ps := ["query"]) X G fun _ _ _ _ _ _ us hl => match us, hl with | [_], _ => rfl
  obtain ⟨fd_root_state_by, h_root_state_by, b_root_state_by⟩ := d_root_state_by.has (ps := ["query", "label"]) X G fun _ _ _ _ _ _ us hl => match us, hl with | [_, _], _ => rfl
  obtain ⟨fd_behind_by, h_behind_by, b_behind_by⟩ := d_behind_by.has (ps := ["query", "state", "word"]) X G fun _ _ _ _ _ _ us hl => match us, hl with | [_, _, _], _ => rfl
  obtain ⟨fd_first_paths_by, h_first_paths_by, b_first_paths_by⟩ := d_first_paths_by.has (ps := ["query"]) X G fun _ _ _ _ _ _ us hl => match us, hl with | [_], _ => rfl
  obtain ⟨fd_kinds_by, h_kinds_by, b_kinds_by⟩ := d_kinds_by.has (ps := ["query"]) X G fun _ _ _ _ _ _ us hl => match us, hl with | [_], _ => rfl
  obtain ⟨fd_least_by, h_least_by, b_least_by⟩ := d_least_by.has (ps := ["query"]) X G fun _ _ _ _ _ _ us hl => match us, hl with | [_], _ => rfl
  obtain ⟨fd_underneath, h_underneath, b_underneath⟩ := d_underneath.has (ps := ["query", "word"]) X G fun _ _ _ _ _ _ us hl => match us, hl with | [_, _], _ => rfl
  obtain ⟨fd_translated_by, h_translated_by, b_translated_by⟩ := d_translated_by.has (ps := ["query", "names"]) X G fun _ _ _ _ _ _ us hl => match us, hl with | [_, _], _ => rfl
  obtain ⟨fd_translated, F_translated⟩ := d_translated.fn
  have m_translated := d_translated.at_ X G
  obtain ⟨fd__law_dice, h__law_dice, b__law_dice⟩ := d__law_dice.has (ps := ["script", "spot"]) X G fun _ _ _ _ _ _ us hl => match us, hl with | [_, _], _ => rfl
  obtain ⟨fd__law_pull, h__law_pull, b__law_pull⟩ := d__law_pull.has (ps := ["die", "many"]) X G fun _ _ _ _ _ _ us hl => match us, hl with | [_, _], _ => rfl
  obtain ⟨fd__law_shuffled, h__law_shuffled, b__law_shuffled⟩ := d__law_shuffled.has (ps := ["die", "items"]) X G fun _ _ _ _ _ _ us hl => match us, hl with | [_, _], _ => rfl
  obtain ⟨fd__law_labels, h__law_labels, b__law_labels⟩ := d__law_labels.has (ps := ["die"]) X G fun _ _ _ _ _ _ us hl => match us, hl with | [_], _ => rfl
  obtain ⟨fd__law_word, h__law_word, b__law_word⟩ := d__law_word.has (ps := ["die", "labels", "least", "high"]) X G fun _ _ _ _ _ _ us hl => match us, hl with | [_, _, _, _], _ => rfl
  obtain ⟨fd__law_from, h__law_from, b__law_from⟩ := d__law_from.has (ps := ["query", "state", "word"]) X G fun _ _ _ _ _ _ us hl => match us, hl with | [_, _, _], _ => rfl
  obtain ⟨fd__law_behind, h__law_behind, b__law_behind⟩ := d__law_behind.has (ps := ["query", "path"]) X G fun _ _ _ _ _ _ us hl => match us, hl with | [_, _], _ => rfl
  obtain ⟨fd__law_kinds, h__law_kinds, b__law_kinds⟩ := d__law_kinds.has (ps := ["query"]) X G fun _ _ _ _ _ _ us hl => match us, hl with | [_], _ => rfl
  obtain ⟨fd__law_least, h__law_least, b__law_least⟩ := d__law_least.has (ps := ["query"]) X G fun _ _ _ _ _ _ us hl => match us, hl with | [_], _ => rfl
  obtain ⟨fd__law_names, h__law_names, b__law_names⟩ := d__law_names.has (ps := ["die", "many"]) X G fun _ _ _ _ _ _ us hl => match us, hl with | [_, _], _ => rfl
  obtain ⟨fd__law_any_query, h__law_any_query, b__law_any_query⟩ := d__law_any_query.has (ps := ["die", "labels", "high"]) X G fun _ _ _ _ _ _ us hl => match us, hl with | [_, _, _], _ => rfl
  obtain ⟨fd__law_steps_query, h__law_steps_query, b__law_steps_query⟩ := d__law_steps_query.has (ps := ["die", "labels", "high"]) X G fun _ _ _ _ _ _ us hl => match us, hl with | [_, _, _], _ => rfl
  obtain ⟨fd__law_layers_query, h__law_layers_query, b__law_layers_query⟩ := d__law_layers_query.has (ps := ["die", "labels", "high"]) X G fun _ _ _ _ _ _ us hl => match us, hl with | [_, _, _], _ => rfl
  obtain ⟨fd__law_depth_query, h__law_depth_query, b__law_depth_query⟩ := d__law_depth_query.has (ps := ["die", "labels", "high"]) X G fun _ _ _ _ _ _ us hl => match us, hl with | [_, _, _], _ => rfl
  obtain ⟨fd__law_last_query, h__law_last_query, b__law_last_query⟩ := d__law_last_query.has (ps := ["die", "labels", "high"]) X G fun _ _ _ _ _ _ us hl => match us, hl with | [_, _, _], _ => rfl
  obtain ⟨fd__law_counts_query, h__law_counts_query, b__law_counts_query⟩ := d__law_counts_query.has (ps := ["die", "labels", "high"]) X G fun _ _ _ _ _ _ us hl => match us, hl with | [_, _, _], _ => rfl
  obtain ⟨fd__law_both, h__law_both, b__law_both⟩ := d__law_both.has (ps := ["die", "first", "second"]) X G fun _ _ _ _ _ _ us hl => match us, hl with | [_, _, _], _ => rfl
  obtain ⟨fd__law_renumbered, h__law_renumbered, b__law_renumbered⟩ := d__law_renumbered.has (ps := ["die", "query"]) X G fun _ _ _ _ _ _ us hl => match us, hl with | [_, _], _ => rfl
  obtain ⟨fd__law_query, h__law_query, b__law_query⟩ := d__law_query.has (ps := ["die", "labels", "high"]) X G fun _ _ _ _ _ _ us hl => match us, hl with | [_, _, _], _ => rfl
  obtain ⟨fd__law_short, h__law_short, b__law_short⟩ := d__law_short.has (ps := ["labels", "high"]) X G fun _ _ _ _ _ _ us hl => match us, hl with | [_, _], _ => rfl
  obtain ⟨fd__law_colour, h__law_colour, b__law_colour⟩ := d__law_colour.has (ps := ["query", "path"]) X G fun _ _ _ _ _ _ us hl => match us, hl with | [_, _], _ => rfl
  obtain ⟨fd__law_some_paths, h__law_some_paths, b__law_some_paths⟩ := d__law_some_paths.has (ps := ["die", "labels"]) X G fun _ _ _ _ _ _ us hl => match us, hl with | [_, _], _ => rfl
  obtain ⟨fd__law_below_right, h__law_below_right, b__law_below_right⟩ := d__law_below_right.has (ps := ["die", "query"]) X G fun _ _ _ _ _ _ us hl => match us, hl with | [_, _], _ => rfl
  obtain ⟨fd__law_read_right, h__law_read_right, b__law_read_right⟩ := d__law_read_right.has (ps := ["die", "query"]) X G fun _ _ _ _ _ _ us hl => match us, hl with | [_, _], _ => rfl
  obtain ⟨fd__law_written_right, h__law_written_right, b__law_written_right⟩ := d__law_written_right.has (ps := []) X G fun _ _ _ _ _ _ us hl => match us, hl with | [], _ => rfl
  obtain ⟨fd_law, h_law, b_law⟩ := d_law.has (ps := ["script"]) X G fun _ _ _ _ _ _ us hl => match us, hl with | [_], _ => rfl
  have M := mathQ
  have ef : a_law = fa := by
    have e := h_law.mg
    rw [hfa] at e
    cases e
    rfl
  subst ef
  refine ⟨fd_law, fun s u => b_law s [u] rfl, fun base _ _ => ?_⟩
  have o_is_integer : Ok P w K mg base 1 "is_integer" ["value"] (spD K R_is_integer) := by
    apply ok_is_integer h_is_integer <;> assumption
  have o_is_between : Ok P w K mg base 2 "is_between" ["value", "low", "high"] (spD K R_is_between) := by
    apply ok_is_between h_is_between <;> assumption
  have o_is_label : Ok P w K mg base 1 "is_label" ["value"] (spD K R_is_label) := by
    apply ok_is_label h_is_label <;> assumption
  have o_is_labels : Ok P w K mg base 2 "is_labels" ["value"] (spD K R_is_labels) := by
    apply ok_is_labels h_is_labels <;> assumption
  have o_is_word_of : Ok P w K mg base 1 "is_word_of" ["labels", "value"] (spD K R_is_word_of) := by
    apply ok_is_word_of h_is_word_of <;> assumption
  have o_check_word : Ok P w K mg base 2 "check_word" ["labels", "word"] (spD K R_check_word) := by
    apply ok_check_word h_check_word <;> assumption
  have o_is_colour : Ok P w K mg base 2 "is_colour" ["value"] (spD K R_is_label) := by
    apply ok_is_colour h_is_colour <;> assumption
  have o_are_states : Ok P w K mg base 3 "are_states" ["value", "many", "size"] (spD K R_are_states) := by
    apply ok_are_states h_are_states <;> assumption
  have o_is_query : Ok P w K mg base 4 "is_query" ["value"] (spD K R_is_query) := by
    apply ok_is_query h_is_query <;> assumption
  have o_check_query : Ok P w K mg base 5 "check_query" ["query"] (spD K R_check_query) := by
    apply ok_check_query h_check_query <;> assumption
  have o_root_state_by : Ok P w K mg base 1 "root_state_by" ["query", "label"] (spD K R_root_state_by) := by
    apply ok_root_state_by h_root_state_by <;> assumption
  have o_behind_by : Ok P w K mg base 2 "behind_by" ["query", "state", "word"] (spD K R_behind_by) := by
    apply ok_behind_by h_behind_by <;> assumption
  have o_first_paths_by : Ok P w K mg base 1 "first_paths_by" ["query"] (spD K R_first_paths_by) := by
    apply ok_first_paths_by h_first_paths_by <;> assumption
  have o_kinds_by : Ok P w K mg base 1 "kinds_by" ["query"] (spD K R_kinds_by) := by
    apply ok_kinds_by h_kinds_by <;> assumption
  have o_least_by : Ok P w K mg base 2 "least_by" ["query"] (spD K R_least_by) := by
    apply ok_least_by h_least_by <;> assumption
  have o_underneath : Ok P w K mg base 6 "underneath" ["query", "word"] (spD K R_underneath) := by
    apply ok_underneath h_underneath <;> assumption
  have o_translated_by : Ok P w K mg base 6 "translated_by" ["query", "names"] (spD K R_translated_by) := by
    apply ok_translated_by h_translated_by <;> assumption
  have o_translated : OkW P w K mg base 7 "translated" [["y", "x"], ["only"]] R_translated := by
    apply ok_translated F_translated m_translated <;> assumption
  have o__law_dice : Ok P w K mg base 1 "_law_dice" ["script", "spot"] (spN K R_dice) := by
    apply ok_law_dice h__law_dice <;> assumption
  have o__law_pull : Ok P w K mg base 1 "_law_pull" ["die", "many"] (spB K R_pull) := by
    apply ok_law_pull h__law_pull <;> assumption
  have o__law_shuffled : Ok P w K mg base 2 "_law_shuffled" ["die", "items"] (spB K R_shuffled) := by
    apply ok_law_shuffled h__law_shuffled <;> assumption
  have o__law_labels : Ok P w K mg base 3 "_law_labels" ["die"] (spB K R_labels) := by
    apply ok_law_labels h__law_labels <;> assumption
  have o__law_word : Ok P w K mg base 2 "_law_word" ["die", "labels", "least", "high"] (spB K R_word) := by
    apply ok_law_word h__law_word <;> assumption
  have o__law_from : Ok P w K mg base 1 "_law_from" ["query", "state", "word"] (spD K R_from) := by
    apply ok_law_from h__law_from <;> assumption
  have o__law_behind : Ok P w K mg base 2 "_law_behind" ["query", "path"] (spD K R_behind) := by
    apply ok_law_behind h__law_behind <;> assumption
  have o__law_kinds : Ok P w K mg base 1 "_law_kinds" ["query"] (spD K R_kinds) := by
    apply ok_law_kinds h__law_kinds <;> assumption
  have o__law_least : Ok P w K mg base 2 "_law_least" ["query"] (spD K R_law_least) := by
    apply ok_law_least h__law_least <;> assumption
  have o__law_names : Ok P w K mg base 2 "_law_names" ["die", "many"] (spB K R_names) := by
    apply ok_law_names h__law_names <;> assumption
  have o__law_any_query : Ok P w K mg base 3 "_law_any_query" ["die", "labels", "high"] (spB K (R_drawQ anyQ 1)) := by
    apply ok_law_any_query h__law_any_query <;> assumption
  have o__law_steps_query : Ok P w K mg base 3 "_law_steps_query" ["die", "labels", "high"] (spB K (R_drawQ stepsQ 2)) := by
    apply ok_law_steps_query h__law_steps_query <;> assumption
  have o__law_layers_query : Ok P w K mg base 3 "_law_layers_query" ["die", "labels", "high"] (spB K (R_drawQ layersQ 2)) := by
    apply ok_law_layers_query h__law_layers_query <;> assumption
  have o__law_depth_query : Ok P w K mg base 3 "_law_depth_query" ["die", "labels", "high"] (spB K (R_drawQ depthQ 2)) := by
    apply ok_law_depth_query h__law_depth_query <;> assumption
  have o__law_last_query : Ok P w K mg base 3 "_law_last_query" ["die", "labels", "high"] (spB K (R_drawQ lastQ 4)) := by
    apply ok_law_last_query h__law_last_query <;> assumption
  have o__law_counts_query : Ok P w K mg base 3 "_law_counts_query" ["die", "labels", "high"] (spB K (R_drawQ countsQ 1)) := by
    apply ok_law_counts_query h__law_counts_query <;> assumption
  have o__law_both : Ok P w K mg base 3 "_law_both" ["die", "first", "second"] (spB K R_both) := by
    apply ok_law_both h__law_both <;> assumption
  have o__law_renumbered : Ok P w K mg base 3 "_law_renumbered" ["die", "query"] (spB K R_renum) := by
    apply ok_law_renumbered h__law_renumbered <;> assumption
  have o__law_query : Ok P w K mg base 4 "_law_query" ["die", "labels", "high"] (spB K R_query) := by
    apply ok_law_query h__law_query <;> assumption
  have o__law_short : Ok P w K mg base 1 "_law_short" ["labels", "high"] (spD K R_short) := by
    apply ok_law_short h__law_short <;> assumption
  have o__law_colour : Ok P w K mg base 3 "_law_colour" ["query", "path"] (spD K R_colour) := by
    apply ok_law_colour h__law_colour <;> assumption
  have o__law_some_paths : Ok P w K mg base 3 "_law_some_paths" ["die", "labels"] (spB K R_paths) := by
    apply ok_law_some_paths h__law_some_paths <;> assumption
  have o__law_below_right : OkQ P w K mg base 7 "_law_below_right" ["die", "query"] (spB K R_below) := by
    apply ok_law_below_right M h__law_below_right <;> assumption
  have o__law_read_right : OkQ P w K mg base 8 "_law_read_right" ["die", "query"] (spB K R_read) := by
    apply ok_law_read_right M h__law_read_right <;> assumption
  have o__law_written_right : Ok P w K mg base 8 "_law_written_right" [] (spD K R_written) := by
    apply ok_law_written_right M h__law_written_right <;> assumption
  apply ok_law h_law <;> assumption

end
end OX
open PySem PySem.W PyProof.Rows in
set_option maxRecDepth 100000 in
set_option maxHeartbeats 0 in
theorem PySem.Challenge.cw_openmarks_k78_queries_underneath_and_tra_holds : PySem.Challenge.rw_openmarks_k78_queries_underneath_and_tra.Holds := by
  w_on; o_law; k_head; (case hw => w_witness2)
  k_fill
  refine OX.walk_go (R := OX.R_law) (l := PySem.Challenge.rw_openmarks_k78_queries_underneath_and_tra) (n := 63) (k := 9) (x := "script") rfl (by decide) rfl ⟨rfl, by decide, by decide⟩ (fun w h Y => PySem.W.kIn_of Y) ?F ?R
  case R => exact fun ns h => ⟨ns, rfl, rfl, h⟩
  case F =>
    intro w mg fa h KX G hmg
    refine' OX.all_mk KX G hmg ?d_is_integer ?d_is_between ?d_is_label ?d_is_labels ?d_is_word_of ?d_check_word ?d_is_colour ?d_are_states ?d_is_query ?d_check_query ?d_root_state_by ?d_behind_by ?d_first_paths_by ?d_kinds_by ?d_least_by ?d_underneath ?d_translated_by ?d_translated ?d__law_dice ?d__law_pull ?d__law_shuffled ?d__law_labels ?d__law_word ?d__law_from ?d__law_behind ?d__law_kinds ?d__law_least ?d__law_names ?d__law_any_query ?d__law_steps_query ?d__law_layers_query ?d__law_depth_query ?d__law_last_query ?d__law_counts_query ?d__law_both ?d__law_renumbered ?d__law_query ?d__law_short ?d__law_colour ?d__law_some_paths ?d__law_below_right ?d__law_read_right ?d__law_written_right ?d_law ?c_MOST_LETTERS ?c_LETTERS ?c_MOST_LABELS ?c_MAX_WORD ?c_MAX_STATES ?n_isinstance ?n_int ?n_bool ?n_str ?n_tuple ?n_list ?n_dict ?n_len ?n_all ?n_any ?n_zip ?n_enumerate ?n_range ?n_set ?n_sorted ?n_sum ?n_min ?n_max ?n_abs ?n_repr
    (case d_is_integer => (refine' OX.DefIn.of ?za_is_integer ?zl_is_integer ?zc_is_integer ?zk_is_integer; (case za_is_integer => k_is); (case zl_is_integer => k_is); (case zc_is_integer => k_is); (case zk_is_integer => k_is)))
    (case d_is_between => (refine' OX.DefIn.of ?za_is_between ?zl_is_between ?zc_is_between ?zk_is_between; (case za_is_between => k_is); (case zl_is_between => k_is); (case zc_is_between => k_is); (case zk_is_between => k_is)))
    (case d_is_label => (refine' OX.DefIn.of ?za_is_label ?zl_is_label ?zc_is_label ?zk_is_label; (case za_is_label => k_is); (case zl_is_label => k_is); (case zc_is_label => k_is); (case zk_is_label => k_is)))
    (case d_is_labels => (refine' OX.DefIn.of ?za_is_labels ?zl_is_labels ?zc_is_labels ?zk_is_labels; (case za_is_labels => k_is); (case zl_is_labels => k_is); (case zc_is_labels => k_is); (case zk_is_labels => k_is)))
    (case d_is_word_of => (refine' OX.DefIn.of ?za_is_word_of ?zl_is_word_of ?zc_is_word_of ?zk_is_word_of; (case za_is_word_of => k_is); (case zl_is_word_of => k_is); (case zc_is_word_of => k_is); (case zk_is_word_of => k_is)))
    (case d_check_word => (refine' OX.DefIn.of ?za_check_word ?zl_check_word ?zc_check_word ?zk_check_word; (case za_check_word => k_is); (case zl_check_word => k_is); (case zc_check_word => k_is); (case zk_check_word => k_is)))
    (case d_is_colour => (refine' OX.DefIn.of ?za_is_colour ?zl_is_colour ?zc_is_colour ?zk_is_colour; (case za_is_colour => k_is); (case zl_is_colour => k_is); (case zc_is_colour => k_is); (case zk_is_colour => k_is)))
    (case d_are_states => (refine' OX.DefIn.of ?za_are_states ?zl_are_states ?zc_are_states ?zk_are_states; (case za_are_states => k_is); (case zl_are_states => k_is); (case zc_are_states => k_is); (case zk_are_states => k_is)))
    (case d_is_query => (refine' OX.DefIn.of ?za_is_query ?zl_is_query ?zc_is_query ?zk_is_query; (case za_is_query => k_is); (case zl_is_query => k_is); (case zc_is_query => k_is); (case zk_is_query => k_is)))
    (case d_check_query => (refine' OX.DefIn.of ?za_check_query ?zl_check_query ?zc_check_query ?zk_check_query; (case za_check_query => k_is); (case zl_check_query => k_is); (case zc_check_query => k_is); (case zk_check_query => k_is)))
    (case d_root_state_by => (refine' OX.DefIn.of ?za_root_state_by ?zl_root_state_by ?zc_root_state_by ?zk_root_state_by; (case za_root_state_by => k_is); (case zl_root_state_by => k_is); (case zc_root_state_by => k_is); (case zk_root_state_by => k_is)))
    (case d_behind_by => (refine' OX.DefIn.of ?za_behind_by ?zl_behind_by ?zc_behind_by ?zk_behind_by; (case za_behind_by => k_is); (case zl_behind_by => k_is); (case zc_behind_by => k_is); (case zk_behind_by => k_is)))
    (case d_first_paths_by => (refine' OX.DefIn.of ?za_first_paths_by ?zl_first_paths_by ?zc_first_paths_by ?zk_first_paths_by; (case za_first_paths_by => k_is); (case zl_first_paths_by => k_is); (case zc_first_paths_by => k_is); (case zk_first_paths_by => k_is)))
    (case d_kinds_by => (refine' OX.DefIn.of ?za_kinds_by ?zl_kinds_by ?zc_kinds_by ?zk_kinds_by; (case za_kinds_by => k_is); (case zl_kinds_by => k_is); (case zc_kinds_by => k_is); (case zk_kinds_by => k_is)))
    (case d_least_by => (refine' OX.DefIn.of ?za_least_by ?zl_least_by ?zc_least_by ?zk_least_by; (case za_least_by => k_is); (case zl_least_by => k_is); (case zc_least_by => k_is); (case zk_least_by => k_is)))
    (case d_underneath => (refine' OX.DefIn.of ?za_underneath ?zl_underneath ?zc_underneath ?zk_underneath; (case za_underneath => k_is); (case zl_underneath => k_is); (case zc_underneath => k_is); (case zk_underneath => k_is)))
    (case d_translated_by => (refine' OX.DefIn.of ?za_translated_by ?zl_translated_by ?zc_translated_by ?zk_translated_by; (case za_translated_by => k_is); (case zl_translated_by => k_is); (case zc_translated_by => k_is); (case zk_translated_by => k_is)))
    (case d_translated => (refine' OX.DefIn.of ?za_translated ?zl_translated ?zc_translated ?zk_translated; (case za_translated => k_is); (case zl_translated => k_is); (case zc_translated => k_is); (case zk_translated => k_is)))
    (case d__law_dice => (refine' OX.DefIn.of ?za__law_dice ?zl__law_dice ?zc__law_dice ?zk__law_dice; (case za__law_dice => k_is); (case zl__law_dice => k_is); (case zc__law_dice => k_is); (case zk__law_dice => k_is)))
    (case d__law_pull => (refine' OX.DefIn.of ?za__law_pull ?zl__law_pull ?zc__law_pull ?zk__law_pull; (case za__law_pull => k_is); (case zl__law_pull => k_is); (case zc__law_pull => k_is); (case zk__law_pull => k_is)))
    (case d__law_shuffled => (refine' OX.DefIn.of ?za__law_shuffled ?zl__law_shuffled ?zc__law_shuffled ?zk__law_shuffled; (case za__law_shuffled => k_is); (case zl__law_shuffled => k_is); (case zc__law_shuffled => k_is); (case zk__law_shuffled => k_is)))
    (case d__law_labels => (refine' OX.DefIn.of ?za__law_labels ?zl__law_labels ?zc__law_labels ?zk__law_labels; (case za__law_labels => k_is); (case zl__law_labels => k_is); (case zc__law_labels => k_is); (case zk__law_labels => k_is)))
    (case d__law_word => (refine' OX.DefIn.of ?za__law_word ?zl__law_word ?zc__law_word ?zk__law_word; (case za__law_word => k_is); (case zl__law_word => k_is); (case zc__law_word => k_is); (case zk__law_word => k_is)))
    (case d__law_from => (refine' OX.DefIn.of ?za__law_from ?zl__law_from ?zc__law_from ?zk__law_from; (case za__law_from => k_is); (case zl__law_from => k_is); (case zc__law_from => k_is); (case zk__law_from => k_is)))
    (case d__law_behind => (refine' OX.DefIn.of ?za__law_behind ?zl__law_behind ?zc__law_behind ?zk__law_behind; (case za__law_behind => k_is); (case zl__law_behind => k_is); (case zc__law_behind => k_is); (case zk__law_behind => k_is)))
    (case d__law_kinds => (refine' OX.DefIn.of ?za__law_kinds ?zl__law_kinds ?zc__law_kinds ?zk__law_kinds; (case za__law_kinds => k_is); (case zl__law_kinds => k_is); (case zc__law_kinds => k_is); (case zk__law_kinds => k_is)))
    (case d__law_least => (refine' OX.DefIn.of ?za__law_least ?zl__law_least ?zc__law_least ?zk__law_least; (case za__law_least => k_is); (case zl__law_least => k_is); (case zc__law_least => k_is); (case zk__law_least => k_is)))
    (case d__law_names => (refine' OX.DefIn.of ?za__law_names ?zl__law_names ?zc__law_names ?zk__law_names; (case za__law_names => k_is); (case zl__law_names => k_is); (case zc__law_names => k_is); (case zk__law_names => k_is)))
    (case d__law_any_query => (refine' OX.DefIn.of ?za__law_any_query ?zl__law_any_query ?zc__law_any_query ?zk__law_any_query; (case za__law_any_query => k_is); (case zl__law_any_query => k_is); (case zc__law_any_query => k_is); (case zk__law_any_query => k_is)))
    (case d__law_steps_query => (refine' OX.DefIn.of ?za__law_steps_query ?zl__law_steps_query ?zc__law_steps_query ?zk__law_steps_query; (case za__law_steps_query => k_is); (case zl__law_steps_query => k_is); (case zc__law_steps_query => k_is); (case zk__law_steps_query => k_is)))
    (case d__law_layers_query => (refine' OX.DefIn.of ?za__law_layers_query ?zl__law_layers_query ?zc__law_layers_query ?zk__law_layers_query; (case za__law_layers_query => k_is); (case zl__law_layers_query => k_is); (case zc__law_layers_query => k_is); (case zk__law_layers_query => k_is)))
    (case d__law_depth_query => (refine' OX.DefIn.of ?za__law_depth_query ?zl__law_depth_query ?zc__law_depth_query ?zk__law_depth_query; (case za__law_depth_query => k_is); (case zl__law_depth_query => k_is); (case zc__law_depth_query => k_is); (case zk__law_depth_query => k_is)))
    (case d__law_last_query => (refine' OX.DefIn.of ?za__law_last_query ?zl__law_last_query ?zc__law_last_query ?zk__law_last_query; (case za__law_last_query => k_is); (case zl__law_last_query => k_is); (case zc__law_last_query => k_is); (case zk__law_last_query => k_is)))
    (case d__law_counts_query => (refine' OX.DefIn.of ?za__law_counts_query ?zl__law_counts_query ?zc__law_counts_query ?zk__law_counts_query; (case za__law_counts_query => k_is); (case zl__law_counts_query => k_is); (case zc__law_counts_query => k_is); (case zk__law_counts_query => k_is)))
    (case d__law_both => (refine' OX.DefIn.of ?za__law_both ?zl__law_both ?zc__law_both ?zk__law_both; (case za__law_both => k_is); (case zl__law_both => k_is); (case zc__law_both => k_is); (case zk__law_both => k_is)))
    (case d__law_renumbered => (refine' OX.DefIn.of ?za__law_renumbered ?zl__law_renumbered ?zc__law_renumbered ?zk__law_renumbered; (case za__law_renumbered => k_is); (case zl__law_renumbered => k_is); (case zc__law_renumbered => k_is); (case zk__law_renumbered => k_is)))
    (case d__law_query => (refine' OX.DefIn.of ?za__law_query ?zl__law_query ?zc__law_query ?zk__law_query; (case za__law_query => k_is); (case zl__law_query => k_is); (case zc__law_query => k_is); (case zk__law_query => k_is)))
    (case d__law_short => (refine' OX.DefIn.of ?za__law_short ?zl__law_short ?zc__law_short ?zk__law_short; (case za__law_short => k_is); (case zl__law_short => k_is); (case zc__law_short => k_is); (case zk__law_short => k_is)))
    (case d__law_colour => (refine' OX.DefIn.of ?za__law_colour ?zl__law_colour ?zc__law_colour ?zk__law_colour; (case za__law_colour => k_is); (case zl__law_colour => k_is); (case zc__law_colour => k_is); (case zk__law_colour => k_is)))
    (case d__law_some_paths => (refine' OX.DefIn.of ?za__law_some_paths ?zl__law_some_paths ?zc__law_some_paths ?zk__law_some_paths; (case za__law_some_paths => k_is); (case zl__law_some_paths => k_is); (case zc__law_some_paths => k_is); (case zk__law_some_paths => k_is)))
    (case d__law_below_right => (refine' OX.DefIn.of ?za__law_below_right ?zl__law_below_right ?zc__law_below_right ?zk__law_below_right; (case za__law_below_right => k_is); (case zl__law_below_right => k_is); (case zc__law_below_right => k_is); (case zk__law_below_right => k_is)))
    (case d__law_read_right => (refine' OX.DefIn.of ?za__law_read_right ?zl__law_read_right ?zc__law_read_right ?zk__law_read_right; (case za__law_read_right => k_is); (case zl__law_read_right => k_is); (case zc__law_read_right => k_is); (case zk__law_read_right => k_is)))
    (case d__law_written_right => (refine' OX.DefIn.of ?za__law_written_right ?zl__law_written_right ?zc__law_written_right ?zk__law_written_right; (case za__law_written_right => k_is); (case zl__law_written_right => k_is); (case zc__law_written_right => k_is); (case zk__law_written_right => k_is)))
    (case d_law => (refine' OX.DefIn.of ?za_law ?zl_law ?zc_law ?zk_law; (case za_law => k_is); (case zl_law => k_is); (case zc_law => k_is); (case zk_law => k_is)))
    (case c_MOST_LETTERS => k_is)
    (case c_LETTERS => k_is)
    (case c_MOST_LABELS => k_is)
    (case c_MAX_WORD => k_is)
    (case c_MAX_STATES => k_is)
    (case n_isinstance => k_is)
    (case n_int => k_is)
    (case n_bool => k_is)
    (case n_str => k_is)
    (case n_tuple => k_is)
    (case n_list => k_is)
    (case n_dict => k_is)
    (case n_len => k_is)
    (case n_all => k_is)
    (case n_any => k_is)
    (case n_zip => k_is)
    (case n_enumerate => k_is)
    (case n_range => k_is)
    (case n_set => k_is)
    (case n_sorted => k_is)
    (case n_sum => k_is)
    (case n_min => k_is)
    (case n_max => k_is)
    (case n_abs => k_is)
    (case n_repr => k_is)

