import PyProof.Rows.All
import Wide.All
import OpenK.AllK
import Wide.FinOn
import HandS.ForMost
import HandS.TupAny
import HandS.ForExc
import HandS.CallSlots
import HandS.Deep
import HandS.Wide
import HandS.Lambda
import HandS.SortInts
import HandS.Conv
import HandS.More
import HandS.Zip
import HandS.WordsDict
import KE.KSortedM
import HandS.Style
import HandS.SetFor
import HandS.Remove
import HandS.IsInst
import PyProof.P3Eq
import HandS.ExcIs
import HandS.ExcOwn
import HandS.EndTab
import HandS.Strs
import HandS.ExcField
import HandS.ExcInit
import KE.KExcIs
import KE.KDictPairs
import PySem.Challenge.RW_movesatonce_k07_whole_none_are_fewer
set_option Elab.async false
set_option linter.all false
set_option maxRecDepth 100000
/-! L2n: tuples of which it is known that they have no dict of their own -/
namespace L2
open PySem PySem.Spec PyProof.Rows
section
variable {X : Cx} {es : List Expr} {t : TA} {pos : Pos}
def tTupN (t : TA) : TE := fun σ H Q => t σ H fun xs H1 => xs.length ≤ sizeLine ∧ ∀ p o, H1 p = none → o.cls = .type "tuple" → o.dict = none → Q (.ref p) (upd H1 p (.frz o (.tup xs)))
theorem pe_tupN {x1} (h : PA X es t) : PE X (.Tuple es x1 pos) (tTupN t) := by
  refine ⟨fun pins s σ H Q I hq => ?_⟩
  refine wpAny_Tuple_spliced (thn (h.run pos pins s σ H _ I hq) fun us s1 ⟨xs, H1, I1, r, z, q⟩ => ⟨by rw [← r.length]; exact z, ?_⟩)
  have hf : H1 s1.heap.objs.size = none := I1.hok.fresh (Nat.le_refl _)
  refine ⟨.ref s1.heap.objs.size, _, I1.laid (t' := s1.toks) (o := .frz { cls := .type "tuple", data := .seq us.toArray } (.tup xs)) (fun b u e => Heap.get?_push_of_some _ e) (Nat.le_refl _) ?_, rfl, q _ _ hf rfl rfl⟩
  exact ⟨Heap.get?_push_size _ rfl, z, us, r, ⟨_, Heap.get?_push_size _ rfl, rfl, _, rfl⟩⟩
def rTupleN (K : PySem.W.Frag) : List V → Hp → VK → Prop := fun xs H Q => ∃ p ys, xs = [.ref p] ∧ ((SqL K H p ys ∧ ∀ l o, H l = none → o.cls = .type "tuple" → o.dict = none → Q (.ref l) (upd H l (.frz o (.tup ys)))) ∨ (SqT K H p ys ∧ Q (.ref p) H))
theorem call_tupleN : CallR X (.type "tuple") (rTupleN X.K) := by
  intro pins s σ H xs us Q I r h
  obtain ⟨p, ys, rfl, h⟩ := h
  obtain ⟨u, rfl, rx⟩ := vals1 r
  cases rx
  rcases h with ⟨hq, q⟩ | ⟨hq, q⟩
  · obtain ⟨its, r', pl, hz⟩ := I.list hq
    have hlen := r'.length
    refine call_tuple_list pl.isList (fun h' kp => ?_) (by simp only [List.size_toArray] <;> omega)
    have I1 : Inv X pins σ H { s with heap := h' } := I.kept (t' := s.toks) kp
    have I2 : Inv X pins σ (upd H h'.objs.size (.frz { cls := .type "tuple", data := .seq its.toArray } (.tup ys))) { s with heap := h'.push { cls := .type "tuple", data := .seq its.toArray } } :=
      I1.laid (t' := s.toks) (fun b o e => Heap.get?_push_of_some _ e) (Nat.le_refl _) ⟨Heap.get?_push_size _ rfl, hz, its, r', IsTup.new _ _⟩
    exact ⟨.ref h'.objs.size, _, I2, rfl, q _ _ (I1.hok.fresh (Nat.le_refl _)) rfl rfl⟩
  · obtain ⟨its, r', pl, hz⟩ := I.tuple hq
    exact call_tuple_same pl ⟨.ref p, H, I, rfl, q⟩
def rCatN (K : PySem.W.Frag) : R2 := fun x y H Q => ∃ a b xs ys, x = .ref a ∧ y = .ref b ∧ SqT K H a xs ∧ SqT K H b ys ∧ xs.length + ys.length ≤ sizeLine ∧
  (xs = [] → Q (.ref b) H) ∧ (xs ≠ [] → ys = [] → Q (.ref a) H) ∧ (xs ≠ [] → ys ≠ [] → ∀ p o, H p = none → o.cls = .type "tuple" → o.dict = none → Q (.ref p) (upd H p (.frz o (.tup (xs ++ ys)))))
theorem op_catN : OpR X (binaryOp .Add) (rCatN X.K) := by
  intro pins s σ H x y v u Q I rx ry h
  obtain ⟨a, b, xs, ys, rfl, rfl, ha, hb, hz, q0, q1, q2⟩ := h
  cases rx
  cases ry
  by_cases hx : xs = []
  · subst hx
    obtain ⟨its, r1, p1, _⟩ := I.tuple ha
    obtain ⟨its2, r2, p2, _⟩ := I.tuple hb
    cases r1
    exact cat_tup0 p1 p2 ⟨.ref b, H, I, rfl, q0 rfl⟩
  · obtain ⟨its, r1, p1, _⟩ := I.tuple ha
    obtain ⟨its2, r2, p2, _⟩ := I.tuple hb
    refine HT.cat_tup p1 p2 (fun z => hx (r1.nil_iff.mp z)) (fun z => ⟨.ref a, H, I, rfl, q1 hx (r2.nil_iff.mp z)⟩) (fun z => ?_) (by rw [← r1.length, ← r2.length]; exact hz)
    refine ⟨.ref s.heap.objs.size, _, I.laid (t' := s.toks) (o := .frz { cls := .type "tuple", data := .seq (its ++ its2).toArray } (.tup (xs ++ ys))) (fun b ob q => Heap.get?_push_of_some _ q) (Nat.le_refl _) ?_, rfl, q2 hx (fun w => z (r2.nil_iff.mpr w)) _ _ (I.hok.fresh (Nat.le_refl _)) rfl rfl⟩
    exact ⟨Heap.get?_push_size _ rfl, by rw [List.length_append]; exact hz, _, r1.append r2, IsTup.new _ _⟩
def rSlN (K : PySem.W.Frag) : V → Option Int → Option Int → Hp → VK → Prop := fun x lo hi H Q => ∃ a xs, x = .ref a ∧ SqT K H a xs ∧
  (HT.sIx xs.length 0 lo = 0 ∧ HT.sIx xs.length xs.length hi = xs.length → Q (.ref a) H) ∧ (¬ (HT.sIx xs.length 0 lo = 0 ∧ HT.sIx xs.length xs.length hi = xs.length) → ∀ p o, H p = none → o.cls = .type "tuple" → o.dict = none → Q (.ref p) (upd H p (.frz o (.tup (cutV xs lo hi)))))
theorem sl_tupN : SlR X (rSlN X.K) := by
  intro pins s σ H x v vl vu lo hi sl Q I rx hs pl pu h
  obtain ⟨a, xs, rfl, hx, q1, q2⟩ := h
  cases rx
  obtain ⟨its, r, ht, hz⟩ := I.tuple hx
  have hlen : its.toArray.size = xs.length := by rw [List.size_toArray]; exact r.length.symm
  by_cases hw : HT.sIx xs.length 0 lo = 0 ∧ HT.sIx xs.length xs.length hi = xs.length
  · refine ⟨"tuple", _, PyProof.Rows.slot_tuple_getitem.lookup, ht.typeIs, ?_⟩
    exact getItem_tuple_whole ht hs pl pu (by rw [hlen]; exact hw) ⟨.ref a, H, I, rfl, q1 hw⟩
  · refine ⟨"tuple", _, PyProof.Rows.slot_tuple_getitem.lookup, ht.typeIs, ?_⟩
    refine HT.getItem_tuple_cut ht hs pl pu (by rw [hlen]; exact hw) ?_ (by rw [hlen]; exact hz)
    rw [hlen]
    refine ⟨.ref s.heap.objs.size, _, I.laid (t' := s.toks) (o := .frz { cls := .type "tuple", data := .seq ((its.toArray.toList.drop (HT.sIx xs.length 0 lo)).take (HT.sIx xs.length xs.length hi - HT.sIx xs.length 0 lo)).toArray } (.tup (cutV xs lo hi))) (fun b ob q => Heap.get?_push_of_some _ q) (Nat.le_refl _) ?_, rfl, q2 hw _ _ (I.hok.fresh (Nat.le_refl _)) rfl rfl⟩
    exact ⟨Heap.get?_push_size _ rfl, Nat.le_trans (cutV_length xs lo hi) hz, _, (r.drop (HT.sIx xs.length 0 lo)).take (HT.sIx xs.length xs.length hi - HT.sIx xs.length 0 lo), IsTup.new _ _⟩
/-! enumerate(list) -/
def IteN (K : PySem.W.Frag) (a : Addr) : It :=
  ⟨fun i H => ∃ (xs : List V) (x : V), SqL K H a xs ∧ xs[i]? = some x, fun i H v H' => ∃ T o x, v = .ref T ∧ H T = none ∧ o.cls = .type "tuple" ∧ o.dict = none ∧ H' = upd H T (.frz o (.tup [.int (i : Nat), x])) ∧ ∀ xs, SqL K H a xs → xs[i]? = some x, fun i H => ∃ xs : List V, SqL K H a xs ∧ xs.length ≤ i⟩
theorem turn_enumN {P : Program} {w : World} {K : PySem.W.Frag} {elts : List Expr} {kk : Nat} {tpos : Pos} (a e it : Addr) :
    Turn P w K (.Tuple elts kk tpos) (IteN K a) [e, it] e (fun i h => (∃ old, IsEnum h e it ((i : Nat) : Int) old) ∧ h.IsListIter it a i ∧ e ≠ it) where
  mem := by simp
  obj := fun i h st b hb => by
    obtain ⟨⟨old, he⟩, ⟨o, ho, hc, hd⟩, _⟩ := st
    have e' : b = e ∨ b = it := by simpa using hb
    rcases e' with z | z
    · rw [z]; exact ⟨_, he, fun v q => nomatch q⟩
    · rw [z]; exact ⟨o, ho, fun v q => by rw [hd] at q; cases q⟩
  keep := fun i h h' st k => let ⟨⟨old, he⟩, hi, hne⟩ := st; ⟨⟨old, k e (by simp) _ he⟩, hi.at fun o q => k it (by simp) o q, hne⟩
  item := by
    intro X hP hw hK hc i pins s σ H E I hf st hg
    subst hP hw hK
    obtain ⟨⟨old, he⟩, hit, hne⟩ := st
    obtain ⟨xs, x, hq, hx⟩ := hg
    obtain ⟨its, rv, p, hz⟩ := I.list hq
    obtain ⟨u, hu, ru⟩ := rv.get hx
    have hel : e < s.heap.objs.size := Heap.lt_size he
    have hil : it < s.heap.objs.size := by obtain ⟨_, q, _⟩ := hit; exact Heap.lt_size q
    refine wpAny_pyNext_enum_item he hit p.isList (x := u) (by simpa using hu) hne fun h' ho hit' hT hsz hk => ?_
    refine ⟨_, rfl, wpAny_letOwnedTupleGo_enum (s := { s with heap := h', toks := s.toks + 1 }) ho fun h'' he' sb => ?_⟩
    have hT2 : h''.get? s.heap.objs.size = some { cls := .type "tuple", data := .seq #[.int i s.toks, u] } := (sb.2 _ (Nat.ne_of_gt hel)).trans hT
    have new : ObjOk X.prog X.w (upd H s.heap.objs.size (.frz { cls := .type "tuple", data := .seq #[.int i s.toks, u] } (.tup [.int (i : Nat), x]))) h'' s.heap.objs.size (.frz { cls := .type "tuple", data := .seq #[.int i s.toks, u] } (.tup [.int (i : Nat), x])) :=
      ⟨hT2, by show 2 ≤ sizeLine; decide, [.int i s.toks, u], .cons ⟨_, rfl⟩ (.cons ru .nil), ⟨_, hT2, rfl, _, rfl⟩⟩
    have I1 : Inv X pins σ (upd H s.heap.objs.size (.frz { cls := .type "tuple", data := .seq #[.int i s.toks, u] } (.tup [.int (i : Nat), x]))) { s with heap := h'', toks := s.toks + 1 } :=
      I.turnedNew (ch := [e, it]) (fun b ob hb q => (sb.2 b (fun z => hb (by simp [z]))).trans (hk b ob (fun z => hb (by simp [z])) (fun z => hb (by simp [z])) q)) hf (Nat.le_refl _) new
    refine ⟨.ref s.heap.objs.size, _, I1, rfl, ⟨_, _, x, rfl, I.hok.fresh (Nat.le_refl _), rfl, rfl, rfl, fun ys hy => by rw [I.list_inj hy hq]; exact hx⟩, ⟨⟨u, ?_⟩, hit'.at fun o q => (sb.2 it (Ne.symm hne)).trans q, hne⟩, fun b hb => ?_⟩
    · have e1 : ((i + 1 : Nat) : Int) = (i : Int) + 1 := by omega
      rw [e1]; exact he'
    · have hb' : b < s.heap.objs.size := by
        have e' : b = e ∨ b = it := by simpa using hb
        rcases e' with z | z
        · rw [z]; exact hel
        · rw [z]; exact hil
      rw [upd_ne (Nat.ne_of_lt hb')]
      exact (hf b hb).1
  done := by
    intro X hP hw hK hc i pins s σ H E I hf st hg
    subst hP hw hK
    obtain ⟨⟨old, he⟩, hit, hne⟩ := st
    obtain ⟨xs, hq, hx⟩ := hg
    obtain ⟨its, rv, p, hz⟩ := I.list hq
    obtain ⟨f0, f1, f2, f3, f4, f5⟩ := hf it (by simp)
    have hl := rv.length
    exact wpAny_pyNext_enum_end (I.ok.hd hc) he hit p.isList (by simp; omega) fun h' eb => ⟨rfl, I.turned (t' := s.toks) (fun b o hb q => eb b o hb q) f0 f1 f3 f4 f5⟩
  self := fun A i s Q E st h => let ⟨⟨_, he⟩, _⟩ := st; wpAny_pyIter_enum he h
def iEnumN (K : PySem.W.Frag) (ta : TA) : TI := fun σ H R => ta σ H fun vs H1 => ∃ a xs, vs = [.ref a] ∧ SqL K H1 a xs ∧ R (IteN K a) H1
theorem pi_enumN {e : Expr} {ta : TA} {p tpos : Pos} {elts : List Expr} {kk : Nat} (hg : Gl X "enumerate") (hm : X.mg "enumerate" = none) (ha : PA X [e] ta) (hs : starEach [e] X.env = [(false, eval e X.env)] := by rfl) :
    PI X (.Tuple elts kk tpos) (.Call (.Name "enumerate" p) [e] [] pos) (iEnumN X.K ta) := by
  refine ⟨fun pins s σ H R I h => ?_⟩
  refine Call_ (ld_blt I hg hm boot_enumerate (PyProof.Rows.callWith_type1 (thn (ha.run pos pins s σ H _ I h) fun us s1 ⟨vs, H1, I1, r1, q1⟩ => ?_) hs rfl))
  obtain ⟨a, xs, ex, hq, q⟩ := q1
  subst ex
  cases r1 with
  | cons r rr =>
    cases rr
    cases r
    obtain ⟨its, rv, p', hz⟩ := I1.list hq
    refine call_enumerate_list p'.isList fun h' he hit hsz hk => wpAny_pyIter_enum he ?_
    have I2 : Inv X pins σ H1 { s1 with heap := h' } := I1.kept (t' := s1.toks) hk
    refine ⟨s1.heap.objs.size + 1, [s1.heap.objs.size + 1, s1.heap.objs.size], _, _, H1, rfl, I2, turn_enumN a (s1.heap.objs.size + 1) s1.heap.objs.size, ⟨⟨.none, he⟩, hit, Nat.succ_ne_self _⟩, fun b hb => ?_, q⟩
    have e' : b = s1.heap.objs.size + 1 ∨ b = s1.heap.objs.size := by simpa using hb
    have hle : s1.heap.objs.size ≤ b := by
      rcases e' with z | z
      · rw [z]; exact Nat.le_add_right _ _
      · rw [z]; exact Nat.le_refl _
    exact I1.fpOk hle (I1.hok.fresh hle)
/-! methods of such a tuple -/
def tyT (K : PySem.W.Frag) (x : V) (H : Hp) : Prop := ∃ p, x = .ref p ∧ ((∃ o vs, H p = some (.frz o (.tup vs)) ∧ o.cls = .type "tuple" ∧ o.dict = none) ∨ ∃ o, K.lookup p = some o ∧ o.cls = .type "tuple" ∧ o.dict = none)
theorem tyT_is {pins : List (Addr × Obj)} {σ : St} {H : Hp} {s : Shared} {x : V} {v : Value} (I : Inv X pins σ H s) (r : RelV x v) (ty : tyT X.K x H) :
    s.TypeIs v "tuple" ∧ ∀ a, v = .ref a → ∃ ob, s.heap.get? a = some ob ∧ ob.dict = none := by
  obtain ⟨p, rfl, ty⟩ := ty
  cases r
  rcases ty with ⟨o, vs, h, hc, hd⟩ | ⟨o, h, hc, hd⟩
  · have e := (I.hok p _ h).1
    refine ⟨⟨o, e, hc⟩, fun a z => ?_⟩
    cases z
    exact ⟨o, e, hd⟩
  · refine ⟨⟨o, I.kIn p o h, hc⟩, fun a z => ?_⟩
    cases z
    exact ⟨o, I.kIn _ o h, hd⟩
def tBT (K : PySem.W.Frag) (r : V → List V → Hp → VK → Prop) (to : TE) (t : TA) : TE := fun σ H Q => to σ H fun x H1 => tyT K x H1 ∧ t σ H1 fun xs H2 => r x xs H2 Q
theorem pe_bmT {o e : Expr} {to : TE} {name : Str} {apos cpos : Pos} {id : String} {r : V → List V → Hp → VK → Prop} (pa : PlainAttrs "tuple") (slot : Slot "tuple" name id) (hty : typeOf (.builtin id) = pure (.type "method_descriptor")) (hm : MtR X id r) (ho : PE X o to) (ha : PA X (e :: es) t)
    (hbase : attributeBase o name X.env (eval o X.env) = eval o X.env := by rfl)
    (hfew : ((backTo cpos (starEach (e :: es) X.env)).all (fun x => !x.1) && (backToKw cpos (keywordEach [] X.env)).all (fun x => x.1.isSome)
      && decide ((e :: es).length + ([] : List Keyword).length + (if ([] : List Keyword).isEmpty then 0 else 1) < 30)) = true := by rfl)
    (hline : (apos.endLine == cpos.line) = true := by rfl) (hs : starEach (e :: es) X.env = (false, eval e X.env) :: starEach es X.env := by rfl) (hplain : (backTo cpos (starEach es X.env)).any (·.1) = false := by rfl) :
    PE X (.Call (.Attribute o name apos) (e :: es) [] cpos) (tBT X.K r to t) := by
  refine ⟨fun pins s σ H Q I h => ?_⟩
  refine wpAny_Call_method_late hbase hfew hline rfl (thn (ho.run pins s σ H _ I h) fun v s1 ⟨x, H1, I1, r1, ty, q1⟩ => ?_)
  obtain ⟨h1, h2⟩ := tyT_is I1 r1 ty
  refine ⟨"tuple", id, pa, slot, hty, h1, h2, ?_⟩
  have hA := ha.run cpos pins s1 σ H1 _ I1 q1
  rw [hs] at hA ⊢
  refine Calls.callWith_builtin (by show (false || (backTo cpos (starEach es X.env)).any (·.1)) = false; rw [hplain] <;> rfl) (Calls.evalArgs_plain ?_)
  exact thn hA fun us s2 ⟨vs, H2, I2, r2, q2⟩ => hm pins s2 σ H2 x vs v us Q I2 r1 r2 q2
end
end L2
/-! L3: plain data over the hand layer -/
namespace L3
open PySem PySem.Spec PyProof.Rows L2

/-! ### data -/
inductive D where
  | non | bl (b : Bool) | int (i : Int) | str (x : Str)
  | tup (xs : List D) | lst (xs : List D)
  | dic (kvs : List (Int × D))
  | ref (a : Addr)

/-- a tuple, and it has no dict of its own -/
def TupN (K : PySem.W.Frag) (G : Hp) (a : Addr) (vs : List V) : Prop := (∃ o, G a = some (.frz o (.tup vs)) ∧ o.cls = .type "tuple" ∧ o.dict = none) ∨
  ∃ (o : Obj) (its : Array Value) (n : Nat), K.lookup a = some o ∧ o.cls = .type "tuple" ∧ o.dict = none ∧ o.data = .seq its n ∧ its.size ≤ sizeLine ∧ Vals vs its.toList
theorem TupN.sq {K : PySem.W.Frag} {G : Hp} {a : Addr} {vs : List V} : TupN K G a vs → SqT K G a vs
  | .inl ⟨o, h, _, _⟩ => .inl (.inr ⟨o, h⟩)
  | .inr ⟨o, its, n, h1, h2, _, h3, h4, h5⟩ => .inr ⟨o, its, n, h1, h2, h3, h4, h5⟩
theorem TupN.mono {K : PySem.W.Frag} {G G' : Hp} {a : Addr} {vs : List V} (e : ∀ a o, G a = some o → G' a = some o) : TupN K G a vs → TupN K G' a vs
  | .inl ⟨o, h, q⟩ => .inl ⟨o, e _ _ h, q⟩
  | .inr h => .inr h
theorem TupN.ty {K : PySem.W.Frag} {G : Hp} {a : Addr} {vs : List V} : TupN K G a vs → tyT K (.ref a) G
  | .inl ⟨o, h, c, d⟩ => ⟨a, rfl, .inl ⟨o, vs, h, c, d⟩⟩
  | .inr ⟨o, its, n, h1, h2, h3, _⟩ => ⟨a, rfl, .inr ⟨o, h1, h2, h3⟩⟩
mutual
inductive Rp (K : PySem.W.Frag) (G : Hp) : D → V → Prop
  | non : Rp K G .non .non
  | bl (b : Bool) : Rp K G (.bl b) (.bl b)
  | int (i : Int) : Rp K G (.int i) (.int i)
  | str (x : Str) : Rp K G (.str x) (.str x)
  | ref (a : Addr) : Rp K G (.ref a) (.ref a)
  | tup {a : Addr} {vs : List V} {ds : List D} : TupN K G a vs → Rps K G ds vs → Rp K G (.tup ds) (.ref a)
  | lst {a : Addr} {vs : List V} {ds : List D} : G a = some (.lst vs) → Rps K G ds vs → Rp K G (.lst ds) (.ref a)
  | dic {a : Addr} {o : Obj} {kvs : List (Int × D)} {kws : List (Key × V)} : G a = some (.frz o (.dK kws)) → RpK K G kvs kws → Rp K G (.dic kvs) (.ref a)
inductive Rps (K : PySem.W.Frag) (G : Hp) : List D → List V → Prop
  | nil : Rps K G [] []
  | cons {d : D} {v : V} {ds : List D} {vs : List V} : Rp K G d v → Rps K G ds vs → Rps K G (d :: ds) (v :: vs)
inductive RpK (K : PySem.W.Frag) (G : Hp) : List (Int × D) → List (Key × V) → Prop
  | nil : RpK K G [] []
  | cons {k : Int} {d : D} {v : V} {r : List (Int × D)} {r' : List (Key × V)} : Rp K G d v → RpK K G r r' → RpK K G ((k, d) :: r) ((Sum.inl k, v) :: r')
end
section
variable {K : PySem.W.Frag} {G G' : Hp}
theorem seqT (e : Same G G') {a : Addr} {xs : List V} (h : SqT K G a xs) : SqT K G' a xs := by
  rcases h with (h | ⟨o, h⟩) | h
  · exact .inl (.inl (e _ _ h))
  · exact .inl (.inr ⟨o, e _ _ h⟩)
  · exact .inr h
mutual
theorem Rp.mono (e : Same G G') : ∀ {d : D} {v : V}, Rp K G d v → Rp K G' d v
  | _, _, .non => .non
  | _, _, .bl b => .bl b
  | _, _, .int i => .int i
  | _, _, .str x => .str x
  | _, _, .ref a => .ref a
  | _, _, .tup h r => .tup (h.mono e) (Rps.mono e r)
  | _, _, .lst h r => .lst (e _ _ h) (Rps.mono e r)
  | _, _, .dic h r => .dic (e _ _ h) (RpK.mono e r)
theorem Rps.mono (e : Same G G') : ∀ {d : List D} {v : List V}, Rps K G d v → Rps K G' d v
  | _, _, .nil => .nil
  | _, _, .cons h r => .cons (Rp.mono e h) (Rps.mono e r)
theorem RpK.mono (e : Same G G') : ∀ {d : List (Int × D)} {v : List (Key × V)}, RpK K G d v → RpK K G' d v
  | _, _, .nil => .nil
  | _, _, .cons h r => .cons (Rp.mono e h) (RpK.mono e r)
end
theorem Rps.length : ∀ {ds : List D} {vs : List V}, Rps K G ds vs → ds.length = vs.length
  | _, _, .nil => rfl
  | _, _, .cons _ r => by rw [List.length_cons, List.length_cons, Rps.length r]
theorem Rps.get : ∀ {ds : List D} {vs : List V} {i : Nat} {d : D}, Rps K G ds vs → ds[i]? = some d → ∃ v, vs[i]? = some v ∧ Rp K G d v
  | _, _, _, _, .nil, e => by simp at e
  | _, _, 0, _, .cons h _, e => by simp at e; subst e; exact ⟨_, rfl, h⟩
  | _, _, i + 1, _, .cons _ r, e => by
    obtain ⟨v, h1, h2⟩ := Rps.get (i := i) r (by simpa using e)
    exact ⟨v, by simpa using h1, h2⟩
theorem Rps.append : ∀ {ds es : List D} {vs ws : List V}, Rps K G ds vs → Rps K G es ws → Rps K G (ds ++ es) (vs ++ ws)
  | _, _, _, _, .nil, s => s
  | _, _, _, _, .cons h r, s => .cons h (Rps.append r s)
theorem Rps.set {d : D} {v : V} (h : Rp K G d v) : ∀ {ds : List D} {vs : List V} (i : Nat), Rps K G ds vs → Rps K G (ds.set i d) (vs.set i v)
  | _, _, _, .nil => .nil
  | _, _, 0, .cons _ r => .cons h r
  | _, _, i + 1, .cons q r => .cons q (Rps.set h i r)
theorem Rps.take : ∀ {ds : List D} {vs : List V} (n : Nat), Rps K G ds vs → Rps K G (ds.take n) (vs.take n)
  | _, _, 0, _ => .nil
  | _, _, _ + 1, .nil => .nil
  | _, _, n + 1, .cons h r => .cons h (Rps.take n r)
theorem Rps.drop : ∀ {ds : List D} {vs : List V} (n : Nat), Rps K G ds vs → Rps K G (ds.drop n) (vs.drop n)
  | _, _, 0, r => r
  | _, _, _ + 1, .nil => .nil
  | _, _, n + 1, .cons _ r => Rps.drop n r
theorem Rps.eraseIdx : ∀ {ds : List D} {vs : List V} (n : Nat), Rps K G ds vs → Rps K G (ds.eraseIdx n) (vs.eraseIdx n)
  | _, _, _, .nil => .nil
  | _, _, 0, .cons _ r => r
  | _, _, n + 1, .cons h r => .cons h (Rps.eraseIdx n r)
theorem Rps.reverse {ds : List D} {vs : List V} (r : Rps K G ds vs) : Rps K G ds.reverse vs.reverse := by
  induction ds generalizing vs with
  | nil => cases r; exact .nil
  | cons d ds ih =>
    cases r with
    | cons h r =>
      rw [List.reverse_cons, List.reverse_cons]
      exact (ih r).append (.cons h .nil)
theorem Rps.ints : ∀ {ns : List Int} {vs : List V}, Rps K G (ns.map D.int) vs → vs = ns.map V.int
  | [], _, .nil => rfl
  | n :: r, _, .cons h t => by
    cases h
    rw [List.map_cons, Rps.ints t]
theorem Rps.ofInts : ∀ (ns : List Int), Rps K G (ns.map D.int) (ns.map V.int)
  | [] => .nil
  | n :: r => .cons (.int n) (Rps.ofInts r)
theorem Rps.none_of {ds : List D} {vs : List V} {i : Nat} (r : Rps K G ds vs) (h : ds[i]? = none) : vs[i]? = none := by
  have := r.length
  rw [List.getElem?_eq_none_iff] at h ⊢
  omega
end

/-! ### the context: the state's cell, things that stay, the tables of code objects -/
structure C3 where
  K : PySem.W.Frag
  st : Option (Addr × Addr × List Int) := none
  fix : List (Addr × HO) := []
  tabs : List (Addr × Str) := []
def C3.sp (C : C3) (a : Addr) : Bool := decide (C.st.map (·.1) = some a) || (C.fix.any fun p => decide (p.1 = a)) || C.tabs.any fun p => decide (p.1 = a)
/-- the script, as a list that stays -/
def ScrOk (C : C3) (sa : Addr) (ns : List Int) : Prop := (∃ o : Obj, (sa, HO.frz o (.lst (ns.map V.int))) ∈ C.fix) ∨
  ∃ (o : Obj) (its : Array Value) (n : Nat), C.K.lookup sa = some o ∧ o.cls = .type "list" ∧ o.dict = none ∧ o.data = .seq its n ∧ its.size ≤ sizeLine ∧ Vals (ns.map V.int) its.toList
/-- the state of the draws: the script, cells begun, a mixed number, a rest -/
def StOk (H : Hp) (a sa : Addr) : Prop := ∃ (i m r : Int), H a = some (.lst [.ref sa, .int i, .int m, .int r]) ∧ 0 ≤ i ∧ 0 ≤ m ∧ m < 2147483647 ∧ 0 ≤ r
structure Iv (C : C3) (H : Hp) : Prop where
  st : ∀ a sa ns, C.st = some (a, sa, ns) → StOk H a sa ∧ ScrOk C sa ns ∧ (C.fix.any fun p => decide (p.1 = a)) = false
  fx : ∀ p ∈ C.fix, H p.1 = some p.2
  tb : LamX.Tabs C.tabs H

/-- all but the tables of code objects: a lambda's making writes at these -/
def notTbl : HO → Bool
  | .tbl _ => false
  | _ => true
def nT (H : Hp) : Hp := fun a => match H a with
  | some o => if notTbl o = true then some o else none
  | none => none
theorem nT_of {H : Hp} {a : Addr} {o : HO} (h : H a = some o) (n : notTbl o = true := by rfl) : nT H a = some o := by
  unfold nT
  rw [h]
  exact if_pos n
theorem nT_to {H : Hp} {a : Addr} {o : HO} (h : nT H a = some o) : H a = some o ∧ notTbl o = true := by
  unfold nT at h
  cases q : H a with
  | none => rw [q] at h; cases h
  | some u =>
    rw [q] at h
    by_cases n : notTbl u = true
    · have h : (if notTbl u = true then some u else none) = some o := h
      rw [if_pos n] at h
      cases h
      exact ⟨rfl, n⟩
    · have h : (if notTbl u = true then some u else none) = some o := h
      rw [if_neg n] at h
      cases h
theorem nT_none {H : Hp} {a : Addr} (h : H a = none) : nT H a = none := by
  unfold nT
  rw [h]
theorem nT_ne {H : Hp} {a p : Addr} {o : HO} (h : a ≠ p) : nT (upd H p o) a = nT H a := by
  unfold nT
  rw [upd_ne h]
theorem nT_same {H H' : Hp} (e : Same H H') : Same (nT H) (nT H') := fun a o h => nT_of (e _ _ (nT_to h).1) (nT_to h).2
structure Ok3 (C : C3) (H G : Hp) : Prop where
  iv : Iv C H
  sub : ∀ a o, G a = some o → C.sp a = false ∧ H a = some o
  nt : ∀ a o, G a = some o → notTbl o = true
structure Stp (C : C3) (H G H' G' : Hp) : Prop where
  nx : ∀ a o, C.sp a = false → nT H a = some o → nT H' a = some o
  ge : Same G G'
  fr : ∀ a o, G a = none → G' a = some o → nT H a = none
theorem Stp.nh {C : C3} {H G H' G' : Hp} (s : Stp C H G H' G') (a : Addr) (o : HO) (sp : C.sp a = false) (h : H a = some o) (n : notTbl o = true := by rfl) : H' a = some o := (nT_to (s.nx a o sp (nT_of h n))).1
theorem Ok3.sn {C : C3} {H G : Hp} (ok : Ok3 C H G) {a : Addr} {o : HO} (h : G a = some o) : nT H a = some o := nT_of (ok.sub a o h).2 (ok.nt a o h)
section
variable {C : C3} {H G H' G' H2 G2 : Hp}
theorem Stp.refl : Stp C H G H G := ⟨fun _ _ _ h => h, Same.refl _, fun a o h h' => by rw [h] at h'; cases h'⟩
theorem Stp.trans (a : Stp C H G H' G') (ok : Ok3 C H2 G2) (b : Stp C H' G' H2 G2) : Stp C H G H2 G2 := by
  refine ⟨fun p o s h => b.nx p o s (a.nx p o s h), a.ge.trans b.ge, fun p o h h' => ?_⟩
  cases q : G' p with
  | some u => exact a.fr p u h q
  | none =>
    have h1 := b.fr p o q h'
    cases r : nT H p with
    | none => rfl
    | some u =>
      rw [a.nx p u (ok.sub p o h').1 r] at h1
      cases h1
end
/-- special cells are tracked -/
theorem Iv.there {C : C3} {H : Hp} (iv : Iv C H) {a : Addr} (h : C.sp a = true) : ∃ o, H a = some o := by
  unfold C3.sp at h
  rw [Bool.or_eq_true, Bool.or_eq_true] at h
  rcases h with (h | h) | h
  · have h := of_decide_eq_true h
    cases e : C.st with
    | none => rw [e] at h; cases h
    | some t =>
      obtain ⟨x, sa, ns⟩ := t
      rw [e] at h
      have h : x = a := Option.some.inj h
      subst h
      obtain ⟨⟨_, _, _, q, _⟩, _⟩ := iv.st x sa ns e
      exact ⟨_, q⟩
  · obtain ⟨p, hp, e⟩ := List.any_eq_true.mp h
    have e := of_decide_eq_true e
    exact ⟨_, by rw [← e]; exact iv.fx p hp⟩
  · obtain ⟨p, hp, e⟩ := List.any_eq_true.mp h
    obtain ⟨ps, q, _⟩ := iv.tb p hp
    have e := of_decide_eq_true e
    exact ⟨_, by rw [← e]; exact q⟩
theorem Iv.new {C : C3} {H : Hp} (iv : Iv C H) {p : Addr} (h : H p = none) : C.sp p = false := by
  cases q : C.sp p with
  | false => rfl
  | true =>
    obtain ⟨o, e⟩ := iv.there q
    rw [h] at e
    cases e
/-- what the special cells hold -/
theorem Iv.on {C : C3} {H H' : Hp} (iv : Iv C H) (e : ∀ a, C.sp a = true → H' a = H a) (k : ∀ c s, H c = some (LamX.CodeO c s) → H' c = some (LamX.CodeO c s)) : Iv C H' := by
  refine ⟨fun a sa ns h => ?_, fun p hp => ?_, fun p hp => ?_⟩
  · obtain ⟨⟨i, m, r, h1, h2⟩, h3⟩ := iv.st a sa ns h
    refine ⟨⟨i, m, r, (e a ?_).trans h1, h2⟩, h3⟩
    unfold C3.sp
    rw [h]
    simp
  · refine (e p.1 ?_).trans (iv.fx p hp)
    unfold C3.sp
    rw [Bool.or_eq_true, Bool.or_eq_true]
    exact .inl (.inr (List.any_eq_true.mpr ⟨p, hp, decide_eq_true rfl⟩))
  · obtain ⟨ps, q, q2, q3⟩ := iv.tb p hp
    have hs : C.sp p.1 = true := by
      unfold C3.sp
      rw [Bool.or_eq_true]
      exact .inr (List.any_eq_true.mpr ⟨p, hp, decide_eq_true rfl⟩)
    refine ⟨ps, (e p.1 hs).trans q, q2, fun pos cv hc => ?_⟩
    obtain ⟨c, e1, e2⟩ := q3 pos cv hc
    exact ⟨c, e1, k _ _ e2⟩
theorem Iv.upd {C : C3} {H : Hp} {p : Addr} {o : HO} (iv : Iv C H) (s : C.sp p = false) (nk : ∀ q, H p ≠ some (LamX.CodeO p q)) : Iv C (upd H p o) := iv.on (fun a h => upd_ne fun z => by
  rw [z, s] at h
  cases h) fun c q h => by
    rw [upd_ne fun z => nk q (by rw [← z]; exact h)]
    exact h
theorem Iv.same {C : C3} {H H' : Hp} (e : Same H H') (iv : Iv C H) : Iv C H' := iv.on (fun a h => by
  obtain ⟨o, q⟩ := iv.there h
  rw [q, e a o q]) fun c q h => e c _ h
def notExt : HO → Bool
  | .ext _ => false
  | _ => true
theorem upd_code {H : Hp} {p : Addr} {o : HO} (h : H p = some o) (n : notExt o = true) : ∀ q, H p ≠ some (LamX.CodeO p q) := fun q e => by
  rw [h] at e
  rw [Option.some.inj e] at n
  exact absurd n Bool.false_ne_true
theorem same_new {H : Hp} {p : Addr} {o : HO} (h : H p = none) : Same H (upd H p o) := fun b x e => by
  rw [upd_ne (ne_of_none e h)]
  exact e
/-- a new object, not yet among the frozen ones -/
theorem Ok3.new {C : C3} {H G : Hp} (ok : Ok3 C H G) {p : Addr} {o : HO} (h : H p = none) : Ok3 C (upd H p o) G ∧ Stp C H G (upd H p o) G ∧ G p = none := by
  refine ⟨⟨ok.iv.same (same_new h), fun a u e => ?_, ok.nt⟩, ⟨fun a u _ e => nT_same (same_new h) a u e, Same.refl _, fun a u e e' => by rw [e] at e'; cases e'⟩, ?_⟩
  · obtain ⟨h1, h2⟩ := ok.sub a u e
    exact ⟨h1, same_new h a u h2⟩
  · cases q : G p with
    | none => rfl
    | some u =>
      rw [(ok.sub p u q).2] at h
      cases h
/-- .. frozen -/
theorem Ok3.frz {C : C3} {H G : Hp} (ok : Ok3 C H G) {p : Addr} {o : HO} (g : G p = none) (h : H p = some o) (s : C.sp p = false) (n : notTbl o = true := by rfl) : Ok3 C H (upd G p o) := by
  refine ⟨ok.iv, fun a u e => ?_, fun a u e => ?_⟩
  · by_cases q : a = p
    · subst q
      rw [upd_same] at e
      cases e
      exact ⟨s, h⟩
    · rw [upd_ne q] at e
      exact ok.sub a u e
  · by_cases q : a = p
    · subst q
      rw [upd_same] at e
      cases e
      exact n
    · rw [upd_ne q] at e
      exact ok.nt a u e
theorem Ok3.lay {C : C3} {H G : Hp} (ok : Ok3 C H G) {p : Addr} {o : HO} (h : H p = none) (n : notTbl o = true := by rfl) : Ok3 C (upd H p o) (upd G p o) ∧ Stp C H G (upd H p o) (upd G p o) := by
  obtain ⟨o1, s1, g⟩ := ok.new (o := o) h
  refine ⟨o1.frz g upd_same (ok.iv.new h) n, ⟨s1.nx, same_new g, fun a u e e' => ?_⟩⟩
  by_cases q : a = p
  · rw [q]; exact nT_none h
  · rw [upd_ne q, e] at e'
    cases e'

/-! ### exceptions -/
structure Exn where
  cls : Str
  num : Option Int := none
def fieldOf (c : Str) : Str := if c = "BadMove" then "number" else "place"
def XRep (mg : Str → Option Value) (x : Exn) (cls : Value) (d : Option Addr) (H G : Hp) : Prop :=
  ∃ A : Addr, mg x.cls = some (.ref A) ∧ cls = .ref A ∧ match x.num with
    | none => d = none
    | some n => ∃ a, d = some a ∧ H a = some (.xd [(fieldOf x.cls, .int n)]) ∧ G a = none
theorem XRep.mono {mg : Str → Option Value} {x : Exn} {cls : Value} {d : Option Addr} {H G G' : Hp} (r : XRep mg x cls d H G') (e : Same G G') : XRep mg x cls d H G := by
  obtain ⟨A, h1, h2, h3⟩ := r
  refine ⟨A, h1, h2, ?_⟩
  cases q : x.num with
  | none => rw [q] at h3; exact h3
  | some n =>
    rw [q] at h3
    obtain ⟨a, e1, e2, e3⟩ := h3
    refine ⟨a, e1, e2, ?_⟩
    cases z : G a with
    | none => rfl
    | some o =>
      rw [e _ _ z] at e3
      cases e3

/-! ### expressions -/
abbrev EnvE := List (Option D)
abbrev MEt := EnvE → (D → Prop) → (Exn → Prop) → Prop
structure VR (K : PySem.W.Frag) (G : Hp) (env : EnvE) (σ : L2.St) : Prop where
  len : env.length ≤ σ.length
  get : ∀ (i : Nat) (d : D), env[i]? = some (some d) → ∃ v, σ[i]? = some (some v) ∧ Rp K G d v
theorem VR.mono {K : PySem.W.Frag} {G G' : Hp} {env : EnvE} {σ : L2.St} (e : Same G G') (h : VR K G env σ) : VR K G' env σ := ⟨h.len, fun i d q =>
  let ⟨v, h1, h2⟩ := h.get i d q
  ⟨v, h1, h2.mono e⟩⟩
/-- what is wanted behind: of a value, of an exception -/
abbrev PostV (C : C3) (H G : Hp) (Kd : D → Prop) (Q : VK) : Prop := ∀ d v H' G', Stp C H G H' G' → Ok3 C H' G' → Rp C.K G' d v → Kd d → Q v H'
abbrev PostX (C : C3) (mg : Str → Option Value) (H G : Hp) (KX : Exn → Prop) (E : XK) : Prop := ∀ x cls d H', KX x → Stp C H G H' G → Ok3 C H' G → XRep mg x cls d H' G → E cls d H'
def lift (C : C3) (mg : Str → Option Value) (E : XK) (m : MEt) : TE := fun σ H Q => ∃ env G Kd KX, Ok3 C H G ∧ VR C.K G env σ ∧ m env Kd KX ∧ PostV C H G Kd Q ∧ PostX C mg H G KX E
abbrev ME (X : Cx) (C : C3) (E : XK) (e : Expr) (m : MEt) : Prop := PE X e (lift C X.mg E m)
/-- what is at a new object's address -/
inductive ObjD (K : PySem.W.Frag) (G : Hp) : D → HO → Prop
  | lst {ds : List D} {vs : List V} : Rps K G ds vs → ObjD K G (.lst ds) (.lst vs)
abbrev PostF (C : C3) (H G : Hp) (Kd : D → Prop) (Q : VK) : Prop := ∀ d p o H' G', Stp C H G H' G' → Ok3 C H' G' → nT H p = none → G' p = none → H' p = some o → C.sp p = false → ObjD C.K G' d o → Kd d → Q (.ref p) H'
def liftF (C : C3) (mg : Str → Option Value) (E : XK) (m : MEt) : TE := fun σ H Q => ∃ env G Kd KX, Ok3 C H G ∧ VR C.K G env σ ∧ m env Kd KX ∧ PostF C H G Kd Q ∧ PostX C mg H G KX E
abbrev MF (X : Cx) (C : C3) (E : XK) (e : Expr) (m : MEt) : Prop := PE X e (liftF C X.mg E m)

theorem PE.imp {X : Cx} {e : Expr} {t t' : TE} (h : PE X e t) (q : ∀ σ H Q, t' σ H Q → t σ H Q) : PE X e t' := ⟨fun pins s σ H Q I w => h.run pins s σ H Q I (q σ H Q w)⟩
theorem PT.imp {X : Cx} {e : Expr} {t t' : TT} (h : PT X e t) (q : ∀ σ H Q, t' σ H Q → t σ H Q) : PT X e t' := ⟨fun pins s σ H Q I w => h.run pins s σ H Q I (q σ H Q w)⟩

section
variable {C : C3} {mg : Str → Option Value} {E : XK} {H G H' G' : Hp} {Kd : D → Prop} {KX : Exn → Prop} {Q : VK}
theorem PostX.on (h : PostX C mg H G KX E) (ok : Ok3 C H G) (s : Stp C H G H' G') : PostX C mg H' G' KX E := fun x cls d H2 k s2 ok2 r => by
  refine h x cls d H2 k ⟨fun a o z e => s2.nx a o z (s.nx a o z e), Same.refl _, fun a o e e' => by rw [e] at e'; cases e'⟩ ⟨ok2.iv, fun a o e => ok2.sub a o (s.ge a o e), fun a o e => ok2.nt a o (s.ge a o e)⟩ (r.mono s.ge)
theorem PostV.on (h : PostV C H G Kd Q) (s : Stp C H G H' G') : PostV C H' G' Kd Q := fun d v H2 G2 s2 ok2 r k => h d v H2 G2 (s.trans ok2 s2) ok2 r k
/-- fresh, then frozen -/
theorem ObjD.frz {K : PySem.W.Frag} {G : Hp} {d : D} {o : HO} {p : Addr} (h : ObjD K G d o) (g : G p = none) : Rp K (upd G p o) d (.ref p) := by
  cases h with
  | lst r => exact .lst upd_same (r.mono (same_new g))
theorem PostV.fresh (h : PostV C H G Kd Q) : PostF C H G Kd Q := fun d p o H' G' s ok hp gp ho sp r k =>
  h d _ H' (upd G' p o) ⟨s.nx, s.ge.trans (same_new gp), fun a u e e' => by
    by_cases q : a = p
    · rw [q]; exact hp
    · rw [upd_ne q] at e'
      exact s.fr a u e e'⟩ (ok.frz gp ho sp (by cases r; rfl)) (r.frz gp) k
end
theorem MF.me {X : Cx} {C : C3} {E : XK} {e : Expr} {m : MEt} (h : MF X C E e m) : ME X C E e m := PE.imp h fun σ H Q ⟨env, G, Kd, KX, ok, vr, hm, pv, px⟩ => ⟨env, G, Kd, KX, ok, vr, hm, pv.fresh, px⟩

/-! names, constants -/
def mVar (i : Nat) : MEt := fun env Kd _ => match env[i]? with
  | some (some d) => Kd d
  | _ => False
def mC (d : D) : MEt := fun _ Kd _ => Kd d
section
variable {X : Cx} {C : C3} {E : XK}
theorem me_var (i : Nat) {x : Str} {pos : Pos} (hN : X.N[i]? = some x := by rfl) (hv : Vis X.env.scope x := by first | exact Or.inl rfl | exact Or.inr (Or.inl rfl) | exact Or.inr (Or.inr rfl)) (hd : (x == ("__debug__" : Str)) = false := by decide)
    (hcd : (x == ("__classdict__" : Str)) = false := by decide) : ME X C E (.Name x pos) (mVar i) := PE.imp (pe_var hN hv hd hcd) fun σ H Q ⟨env, G, Kd, KX, ok, vr, hm, pv, px⟩ => by
  unfold mVar at hm
  split at hm
  · rename_i d e
    obtain ⟨v, h1, h2⟩ := vr.get i d e
    exact ⟨v, h1, pv d v H G Stp.refl ok h2 hm⟩
  · exact hm.elim
theorem me_c {e : Expr} {d : D} {v : V} (h : PE X e (tC v)) (r : ∀ G, Rp C.K G d v) : ME X C E e (mC d) := PE.imp h fun σ H Q ⟨env, G, Kd, KX, ok, vr, hm, pv, px⟩ => pv d v H G Stp.refl ok (r G) hm
theorem me_int {i j pos} : ME X C E (.Constant (.int i) j pos) (mC (.int i)) := me_c pe_int fun _ => .int i
theorem me_bl {b j pos} : ME X C E (.Constant (.bool b) j pos) (mC (.bl b)) := me_c pe_bl fun _ => .bl b
theorem me_non {j pos} : ME X C E (.Constant .none j pos) (mC .non) := me_c pe_non fun _ => .non
theorem me_str {x j pos} : ME X C E (.Constant (.str x) j pos) (mC (.str x)) := me_c pe_str fun _ => .str x
end

/-! two operands -/
/-- a rule by values serves data -/
def OpD (C : C3) (r : R2) (f : D → D → (D → Prop) → Prop) : Prop := ∀ (x y : V) (d e : D) (H G : Hp) (Kd : D → Prop) (Q : VK), Ok3 C H G → Rp C.K G d x → Rp C.K G e y → f d e Kd → PostV C H G Kd Q → r x y H Q
def OpF (C : C3) (r : R2) (f : D → D → (D → Prop) → Prop) : Prop := ∀ (x y : V) (d e : D) (H G : Hp) (Kd : D → Prop) (Q : VK), Ok3 C H G → Rp C.K G d x → Rp C.K G e y → f d e Kd → PostF C H G Kd Q → r x y H Q
def m2 (f : D → D → (D → Prop) → Prop) (ma mb : MEt) : MEt := fun env Kd KX => ma env (fun d => mb env (fun e => f d e Kd) KX) KX
section
variable {X : Cx} {C : C3} {E : XK} {a b : Expr} {ma mb : MEt} {f : D → D → (D → Prop) → Prop} {r : R2} {pos : Pos} {mg : Str → Option Value}
theorem lift2 (ho : OpD C r f) {σ : L2.St} {H : Hp} {Q : VK} (h : lift C mg E (m2 f ma mb) σ H Q) : tOp r (lift C mg E ma) (lift C mg E mb) σ H Q := by
  obtain ⟨env, G, Kd, KX, ok, vr, hm, pv, px⟩ := h
  exact ⟨env, G, _, KX, ok, vr, hm, fun d x H1 G1 s1 ok1 r1 k1 => ⟨env, G1, _, KX, ok1, vr.mono s1.ge, k1, fun e y H2 G2 s2 ok2 r2 k2 =>
    ho x y d e H2 G2 Kd Q ok2 (r1.mono s2.ge) r2 k2 ((pv.on s1).on s2), px.on ok s1⟩, px⟩
theorem lift2F (ho : OpF C r f) {σ : L2.St} {H : Hp} {Q : VK} (h : liftF C mg E (m2 f ma mb) σ H Q) : tOp r (lift C mg E ma) (lift C mg E mb) σ H Q := by
  obtain ⟨env, G, Kd, KX, ok, vr, hm, pv, px⟩ := h
  refine ⟨env, G, _, KX, ok, vr, hm, fun d x H1 G1 s1 ok1 r1 k1 => ⟨env, G1, _, KX, ok1, vr.mono s1.ge, k1, fun e y H2 G2 s2 ok2 r2 k2 =>
    ho x y d e H2 G2 Kd Q ok2 (r1.mono s2.ge) r2 k2 (fun z p o H3 G3 s3 ok3 hp gp hh sp ob k => ?_), px.on ok s1⟩, px⟩
  refine pv z p o H3 G3 (s1.trans ok3 (s2.trans ok3 s3)) ok3 ?_ gp hh sp ob k
  cases q : nT H p with
  | none => rfl
  | some u =>
    rw [s2.nx p u sp (s1.nx p u sp q)] at hp
    cases hp
theorem me_op {op : Operator} (ho : OpR X (binaryOp op) r) (hd : OpD C r f) (ha : ME X C E a ma) (hb : ME X C E b mb) : ME X C E (.BinOp a op b pos) (m2 f ma mb) := PE.imp (pe_op ho ha hb) fun _ _ _ h => lift2 hd h
theorem mf_op {op : Operator} (ho : OpR X (binaryOp op) r) (hd : OpF C r f) (ha : ME X C E a ma) (hb : ME X C E b mb) : MF X C E (.BinOp a op b pos) (m2 f ma mb) := PE.imp (pe_op ho ha hb) fun _ _ _ h => lift2F hd h
theorem me_cmp {op : CmpOp} (ho : OpR X (compareOp op) r) (hd : OpD C r f) (ha : ME X C E a ma) (hb : ME X C E b mb) (hm : behindInMarks op b = false) : ME X C E (.Compare a [op] [b] pos) (m2 f ma mb) := PE.imp (pe_cmpR ho ha hb hm) fun _ _ _ h => lift2 hd h
end
theorem OpF.opD {C : C3} {r : R2} {f : D → D → (D → Prop) → Prop} (h : OpF C r f) : OpD C r f := fun x y d e H G Kd Q ok r1 r2 k pv => h x y d e H G Kd Q ok r1 r2 k pv.fresh

end L3
/-! L3b: operators, comparisons, tests -/
namespace L3
open PySem PySem.Spec PyProof.Rows L2

/-! ### data, plain -/
mutual
def D.py : D → PyData
  | .non => .none
  | .bl b => .bool b
  | .int i => .int i
  | .str x => .str x
  | .tup xs => .tuple (D.pys xs)
  | .lst xs => .list (D.pys xs)
  | .dic _ => .dict []
  | .ref _ => .dict []
def D.pys : List D → List PyData
  | [] => []
  | d :: r => d.py :: D.pys r
end
theorem pys_map : ∀ l : List D, D.pys l = l.map D.py
  | [] => rfl
  | d :: r => by rw [D.pys, List.map_cons, pys_map r]
def fv : D → V
  | .bl b => .bl b
  | .int i => .int i
  | .str x => .str x
  | _ => .non
def flatD : D → Bool
  | .non => true
  | .bl _ => true
  | .int _ => true
  | .str _ => true
  | _ => false
theorem Rp.flat {K : PySem.W.Frag} {G : Hp} {d : D} {v : V} (r : Rp K G d v) (f : flatD d = true) : v = fv d ∧ flatV v = true := by
  cases r <;> first | exact ⟨rfl, rfl⟩ | exact absurd f Bool.false_ne_true
theorem Rps.flat {K : PySem.W.Frag} {G : Hp} : ∀ {ds : List D} {vs : List V}, Rps K G ds vs → ds.all flatD = true → vs = ds.map fv ∧ vs.all flatV = true
  | _, _, .nil, _ => ⟨rfl, rfl⟩
  | _, _, .cons h r, f => by
    rw [List.all_cons, Bool.and_eq_true] at f
    obtain ⟨e1, f1⟩ := h.flat f.1
    obtain ⟨e2, f2⟩ := Rps.flat r f.2
    exact ⟨by rw [List.map_cons, ← e1, ← e2], by rw [List.all_cons, f1, f2]; rfl⟩
/-! without dicts and references -/
mutual
def D.pl : D → Bool
  | .non => true
  | .bl _ => true
  | .int _ => true
  | .str _ => true
  | .tup xs => D.pls xs
  | .lst xs => D.pls xs
  | .dic _ => false
  | .ref _ => false
def D.pls : List D → Bool
  | [] => true
  | d :: r => d.pl && D.pls r
end
mutual
theorem Rp.dp {K : PySem.W.Frag} {G H : Hp} (e : ∀ a o, G a = some o → H a = some o) : ∀ {d : D} {v : V}, Rp K G d v → d.pl = true → Dp K H v d.py
  | _, _, .non, _ => .non
  | _, _, .bl b, _ => .bl b
  | _, _, .int i, _ => .int i
  | _, _, .str x, _ => .str x
  | _, _, .tup (ds := ds) h r, p => .tup (seqT e h.sq) (Rps.dp e r (show D.pls ds = true from p))
  | _, _, .lst (ds := ds) h r, p => .lst (.inl (.inl (e _ _ h))) (Rps.dp e r (show D.pls ds = true from p))
  | _, _, .ref a, p => absurd (show false = true from p) Bool.false_ne_true
  | _, _, .dic _ _, p => absurd (show false = true from p) Bool.false_ne_true
theorem Rps.dp {K : PySem.W.Frag} {G H : Hp} (e : ∀ a o, G a = some o → H a = some o) : ∀ {ds : List D} {vs : List V}, Rps K G ds vs → D.pls ds = true → DpAll K H vs (D.pys ds)
  | _, _, .nil, _ => .nil
  | d :: ds, _, .cons h r, p => 
    have p : (d.pl && D.pls ds) = true := p
    .cons (Rp.dp e h (Bool.and_eq_true_iff.mp p).1) (Rps.dp e r (Bool.and_eq_true_iff.mp p).2)
end
def valD (kvs : List (Int × D)) (k : Int) : Option D := (kvs.find? fun p => decide (p.1 = k)).map (·.2)
theorem RpK.val {K : PySem.W.Frag} {G : Hp} (k : Int) : ∀ {kvs : List (Int × D)} {kws : List (Key × V)}, RpK K G kvs kws →
    (valD kvs k = none ∧ valV kws (Sum.inl k) = none) ∨ ∃ d v, valD kvs k = some d ∧ valV kws (Sum.inl k) = some v ∧ Rp K G d v
  | _, _, .nil => .inl ⟨rfl, rfl⟩
  | _, _, .cons (k := j) (d := d) (v := v) (r := r) (r' := r') h t => by
    by_cases e : j = k
    · refine .inr ⟨d, v, ?_, ?_, h⟩
      · unfold valD
        rw [List.find?_cons, decide_eq_true (by exact e)]
        rfl
      · exact valV_pos (by rw [e])
    · have e1 : valD ((j, d) :: r) k = valD r k := by
        unfold valD
        rw [List.find?_cons, decide_eq_false (by exact e)]
      have e2 : valV ((Sum.inl j, v) :: r') (Sum.inl k : Key) = valV r' (Sum.inl k) := valV_neg (fun z => e (Sum.inl.inj z))
      rw [e1, e2]
      exact RpK.val k t

/-! ### what the operators do -/
def addD (d e : D) (K : D → Prop) : Prop := match d, e with
  | .int i, .int j => K (.int (i + j))
  | .str x, .str y => x.length + y.length ≤ sizeLine ∧ K (.str (x ++ y))
  | .lst xs, .lst ys => xs.length + ys.length ≤ sizeLine ∧ K (.lst (xs ++ ys))
  | .tup xs, .tup ys => xs.length + ys.length ≤ sizeLine ∧ K (.tup (xs ++ ys))
  | _, _ => False
def subD (d e : D) (K : D → Prop) : Prop := match d, e with
  | .int i, .int j => K (.int (i - j))
  | _, _ => False
def mulD (d e : D) (K : D → Prop) : Prop := match d, e with
  | .int i, .int j => CMul i j ∧ K (.int (i * j))
  | .lst xs, .int j => 0 ≤ j ∧ j < 2 ^ 63 ∧ xs.length * j.toNat ≤ sizeLine ∧ K (.lst (List.replicate j.toNat xs).flatten)
  | _, _ => False
def modD (d e : D) (K : D → Prop) : Prop := match d, e with
  | .int i, .int j => 0 < j ∧ K (.int (i % j))
  | _, _ => False
def fdivD (d e : D) (K : D → Prop) : Prop := match d, e with
  | .int i, .int j => CDivW i j ∧ K (.int (i / j))
  | _, _ => False
def powD (d e : D) (K : D → Prop) : Prop := match d, e with
  | .int i, .int j => CPow i j ∧ K (.int (i ^ j.toNat))
  | _, _ => False
def ordD (p : Int → Int → Bool) (d e : D) (K : D → Prop) : Prop := match d, e with
  | .int i, .int j => K (.bl (p i j))
  | _, _ => False
def eqG (neg : Bool) (d e : D) (K : D → Prop) : Prop := d.pl = true ∧ e.pl = true ∧ SeqAt.shaped d.py = true ∧ SeqAt.shaped e.py = true ∧ K (.bl (if neg then !PyData.eqv d.py e.py else PyData.eqv d.py e.py))
def eqD (neg : Bool) (d e : D) (K : D → Prop) : Prop := match d, e with
  | .int i, .int j => K (.bl (if neg then !decide (i = j) else decide (i = j)))
  | .str i, .str j => K (.bl (if neg then !decide (i = j) else decide (i = j)))
  | .bl i, .bl j => K (.bl (if neg then !decide (i = j) else decide (i = j)))
  | .lst [], .lst ys => K (.bl (if neg then !ys.isEmpty else ys.isEmpty))
  | .lst xs, .lst [] => K (.bl (if neg then !xs.isEmpty else xs.isEmpty))
  | .lst xs, .lst ys => eqG neg (.lst xs) (.lst ys) K
  | d, e => eqG neg d e K
def inD (neg : Bool) (d e : D) (K : D → Prop) : Prop := match e with
  | .lst ds => flatD d = true ∧ ds.all flatD = true ∧ K (.bl (if neg then !inV (fv d) (ds.map fv) else inV (fv d) (ds.map fv)))
  | .tup ds => flatD d = true ∧ ds.all flatD = true ∧ K (.bl (if neg then !inV (fv d) (ds.map fv) else inV (fv d) (ds.map fv)))
  | .dic kvs => match d with
    | .int k => K (.bl (if neg then !(valD kvs k).isSome else (valD kvs k).isSome))
    | _ => False
  | _ => False
def isND (neg : Bool) (d e : D) (K : D → Prop) : Prop := e.pl = true ∧ match e with
  | .non => (match d with
    | .non => K (.bl (!neg))
    | _ => K (.bl neg))
  | _ => False

section
variable {X : Cx} {C : C3} (hK : X.K = C.K)
theorem od_add : OpD C (fun x y H Q => (∃ i j, x = .int i ∧ y = .int j ∧ Q (.int (i + j)) H) ∨ (∃ i j, x = .str i ∧ y = .str j ∧ i.length + j.length ≤ sizeLine ∧ Q (.str (i ++ j)) H) ∨ rCat x y H Q ∨ rCatN C.K x y H Q) addD := by
  intro x y d e H G Kd Q ok r1 r2 h pv
  unfold addD at h
  split at h
  · cases r1; cases r2
    exact .inl ⟨_, _, rfl, rfl, pv _ _ H G Stp.refl ok (.int _) h⟩
  · cases r1; cases r2
    exact .inr (.inl ⟨_, _, rfl, rfl, h.1, pv _ _ H G Stp.refl ok (.str _) h.2⟩)
  · cases r1 with
    | lst ha ra =>
      cases r2 with
      | lst hb rb =>
        refine .inr (.inr (.inl ⟨_, _, _, _, rfl, rfl, (ok.sub _ _ ha).2, (ok.sub _ _ hb).2, by rw [← ra.length, ← rb.length]; exact h.1, fun p hp => ?_⟩))
        obtain ⟨o1, s1⟩ := ok.lay (o := .lst _) hp
        exact pv _ _ _ _ s1 o1 (.lst upd_same ((ra.append rb).mono s1.ge)) h.2
  · cases r1 with
    | tup ha ra =>
      cases r2 with
      | tup hb rb =>
        refine .inr (.inr (.inr ⟨_, _, _, _, rfl, rfl, seqT (fun a o e => (ok.sub a o e).2) ha.sq, seqT (fun a o e => (ok.sub a o e).2) hb.sq, by rw [← ra.length, ← rb.length]; exact h.1, fun z => ?_, fun _ z => ?_, fun _ _ p ob hp c1 c2 => ?_⟩))
        · subst z
          cases ra
          exact pv _ _ H G Stp.refl ok (.tup hb rb) h.2
        · subst z
          cases rb
          rw [List.append_nil] at h
          exact pv _ _ H G Stp.refl ok (.tup ha ra) h.2
        · obtain ⟨o1, s1⟩ := ok.lay (o := .frz ob (.tup _)) hp
          exact pv _ _ _ _ s1 o1 (.tup (.inl ⟨ob, upd_same, c1, c2⟩) ((ra.append rb).mono s1.ge)) h.2
  · exact h.elim
theorem or_add (hK : X.K = C.K) : OpR X (binaryOp .Add) (fun x y H Q => (∃ i j, x = .int i ∧ y = .int j ∧ Q (.int (i + j)) H) ∨ (∃ i j, x = .str i ∧ y = .str j ∧ i.length + j.length ≤ sizeLine ∧ Q (.str (i ++ j)) H) ∨ rCat x y H Q ∨ rCatN C.K x y H Q) :=
  op_add.or (op_add_str.or (op_cat.or (by rw [← hK]; exact op_catN)))
theorem of_cat : OpF C rCat (fun d e K => match d, e with | .lst xs, .lst ys => xs.length + ys.length ≤ sizeLine ∧ K (.lst (xs ++ ys)) | _, _ => False) := by
  intro x y d e H G Kd Q ok r1 r2 h pv
  split at h
  · cases r1 with
    | lst ha ra =>
      cases r2 with
      | lst hb rb =>
        refine ⟨_, _, _, _, rfl, rfl, (ok.sub _ _ ha).2, (ok.sub _ _ hb).2, by rw [← ra.length, ← rb.length]; exact h.1, fun p hp => ?_⟩
        obtain ⟨o1, s1, g⟩ := ok.new (o := .lst _) hp
        exact pv _ p _ _ G s1 o1 (nT_none hp) g upd_same (ok.iv.new hp) (.lst (ra.append rb)) h.2
  · exact h.elim
def catD (d e : D) (K : D → Prop) : Prop := match d, e with | .lst xs, .lst ys => xs.length + ys.length ≤ sizeLine ∧ K (.lst (xs ++ ys)) | _, _ => False
theorem od_sub : OpD C (rI0 fun i j => .int (i - j)) subD := by
  intro x y d e H G Kd Q ok r1 r2 h pv
  unfold subD at h
  split at h
  · cases r1; cases r2
    exact ⟨_, _, rfl, rfl, pv _ _ H G Stp.refl ok (.int _) h⟩
  · exact h.elim
theorem od_mod : OpD C (rI (fun _ j => 0 < j) fun i j => .int (i % j)) modD := by
  intro x y d e H G Kd Q ok r1 r2 h pv
  unfold modD at h
  split at h
  · cases r1; cases r2
    exact ⟨_, _, rfl, rfl, h.1, pv _ _ H G Stp.refl ok (.int _) h.2⟩
  · exact h.elim
theorem od_fdiv : OpD C (rI CDivW fun i j => .int (i / j)) fdivD := by
  intro x y d e H G Kd Q ok r1 r2 h pv
  unfold fdivD at h
  split at h
  · cases r1; cases r2
    exact ⟨_, _, rfl, rfl, h.1, pv _ _ H G Stp.refl ok (.int _) h.2⟩
  · exact h.elim
theorem od_pow : OpD C (rI CPow fun i j => .int (i ^ j.toNat)) powD := by
  intro x y d e H G Kd Q ok r1 r2 h pv
  unfold powD at h
  split at h
  · cases r1; cases r2
    exact ⟨_, _, rfl, rfl, h.1, pv _ _ H G Stp.refl ok (.int _) h.2⟩
  · exact h.elim
theorem od_ord (p : Int → Int → Bool) : OpD C (rI0 fun i j => .bl (p i j)) (ordD p) := by
  intro x y d e H G Kd Q ok r1 r2 h pv
  unfold ordD at h
  split at h
  · cases r1; cases r2
    exact ⟨_, _, rfl, rfl, pv _ _ H G Stp.refl ok (.bl _) h⟩
  · exact h.elim
theorem Rps.rep {K : PySem.W.Frag} {G : Hp} {ds : List D} {vs : List V} (r : Rps K G ds vs) : ∀ n : Nat, Rps K G (List.replicate n ds).flatten (List.replicate n vs).flatten
  | 0 => .nil
  | n + 1 => by
    rw [List.replicate_succ, List.replicate_succ, List.flatten_cons, List.flatten_cons]
    exact r.append (Rps.rep r n)
theorem od_mul : OpD C (fun x y H Q => rI CMul (fun i j => .int (i * j)) x y H Q ∨ rRep x y H Q) mulD := by
  intro x y d e H G Kd Q ok r1 r2 h pv
  unfold mulD at h
  split at h
  · cases r1; cases r2
    exact .inl ⟨_, _, rfl, rfl, h.1, pv _ _ H G Stp.refl ok (.int _) h.2⟩
  · cases r1 with
    | lst ha ra =>
      cases r2
      obtain ⟨h0, h1, h2, h3⟩ := h
      refine .inr ⟨_, _, _, rfl, rfl, (ok.sub _ _ ha).2, by omega, h1, by rw [← ra.length]; exact h2, fun p hp => ?_⟩
      obtain ⟨o1, s1⟩ := ok.lay (o := .lst _) hp
      exact pv _ _ _ _ s1 o1 (.lst upd_same ((ra.rep _).mono s1.ge)) h3
  · exact h.elim
theorem eqv_nil1 : ∀ ys : List D, PyData.eqv (D.lst []).py (D.lst ys).py = ys.isEmpty
  | [] => rfl
  | _ :: _ => rfl
theorem eqv_nil2 : ∀ ys : List D, PyData.eqv (D.lst ys).py (D.lst []).py = ys.isEmpty
  | [] => rfl
  | _ :: _ => rfl
end
end L3
/-! L3c: ==, in, tests, and, or, not, if -/
namespace L3
open PySem PySem.Spec PyProof.Rows L2
section
variable {X : Cx} {C : C3}
def rEqA (K : PySem.W.Frag) (neg : Bool) : R2 := fun x y H Q => if neg then rNe x y H Q ∨ rNeD K x y H Q else rEq x y H Q ∨ rEqD K x y H Q
theorem or_eqA (hK : X.K = C.K) (hu : X.A.units + 64 < cLine) : OpR X (compareOp .Eq) (rEqA C.K false) := by
  rw [← hK]
  exact op_eq.or (op_eqD hu)
theorem or_neA (hK : X.K = C.K) (hu : X.A.units + 64 < cLine) : OpR X (compareOp .NotEq) (rEqA C.K true) := by
  rw [← hK]
  exact op_ne.or (op_neD hu)
theorem dec_i {i j : Int} : decide (V.int i = V.int j) = decide (i = j) := by
  by_cases e : i = j
  · subst e; simp
  · rw [decide_eq_false e, decide_eq_false (fun z => e (V.int.inj z))]
theorem dec_b {i j : Bool} : decide (V.bl i = V.bl j) = decide (i = j) := by
  by_cases e : i = j
  · subst e; simp
  · rw [decide_eq_false e, decide_eq_false (fun z => e (V.bl.inj z))]
theorem dec_s {i j : Str} : decide (V.str i = V.str j) = decide (i = j) := by
  by_cases e : i = j
  · subst e; simp
  · rw [decide_eq_false e, decide_eq_false (fun z => e (V.str.inj z))]
theorem eqG_ok {neg : Bool} {x y : V} {d e : D} {H G : Hp} {Kd : D → Prop} {Q : VK} (ok : Ok3 C H G) (r1 : Rp C.K G d x) (r2 : Rp C.K G e y) (h : eqG neg d e Kd) (pv : PostV C H G Kd Q) : rEqA C.K neg x y H Q := by
  obtain ⟨p1, p2, s1, s2, k⟩ := h
  have sm : ∀ a o, G a = some o → H a = some o := fun a o q => (ok.sub a o q).2
  cases neg
  · exact .inr ⟨_, _, r1.dp sm p1, r2.dp sm p2, s1, s2, pv _ _ H G Stp.refl ok (.bl _) k⟩
  · exact .inr ⟨_, _, r1.dp sm p1, r2.dp sm p2, s1, s2, pv _ _ H G Stp.refl ok (.bl _) k⟩
def rNilL (K : PySem.W.Frag) (neg : Bool) : R2 := fun x y H Q => False
theorem od_eq (neg : Bool) : OpD C (rEqA C.K neg) (eqG neg) := fun x y d e H G Kd Q ok r1 r2 h pv => eqG_ok ok r1 r2 h pv
@[irreducible] def eqE (neg : Bool) (d e : D) (K : D → Prop) : Prop := match d, e with
  | .int i, .int j => K (.bl (if neg then !decide (i = j) else decide (i = j)))
  | .str i, .str j => K (.bl (if neg then !decide (i = j) else decide (i = j)))
  | .bl i, .bl j => K (.bl (if neg then !decide (i = j) else decide (i = j)))
  | d, e => eqG neg d e K
theorem od_eqE (neg : Bool) : OpD C (rEqA C.K neg) (eqE neg) := by
  intro x y d e H G Kd Q ok r1 r2 h pv
  unfold eqE at h
  split at h
  · cases r1; cases r2
    cases neg
    · exact .inl ⟨rfl, pv _ _ H G Stp.refl ok (.bl _) (by rw [dec_i]; exact h)⟩
    · exact .inl ⟨rfl, pv _ _ H G Stp.refl ok (.bl _) (by rw [dec_i]; exact h)⟩
  · cases r1; cases r2
    cases neg
    · exact .inl ⟨rfl, pv _ _ H G Stp.refl ok (.bl _) (by rw [dec_s]; exact h)⟩
    · exact .inl ⟨rfl, pv _ _ H G Stp.refl ok (.bl _) (by rw [dec_s]; exact h)⟩
  · cases r1; cases r2
    cases neg
    · exact .inl ⟨rfl, pv _ _ H G Stp.refl ok (.bl _) (by rw [dec_b]; exact h)⟩
    · exact .inl ⟨rfl, pv _ _ H G Stp.refl ok (.bl _) (by rw [dec_b]; exact h)⟩
  · exact eqG_ok ok r1 r2 h pv
/-- in, not in -/
def rInA (K : PySem.W.Frag) (neg : Bool) : R2 := rIn K neg
theorem od_in (neg : Bool) : OpD C (rIn C.K neg) (fun d e K => match e with
  | .lst ds => flatD d = true ∧ ds.all flatD = true ∧ K (.bl (if neg then !inV (fv d) (ds.map fv) else inV (fv d) (ds.map fv)))
  | .tup ds => flatD d = true ∧ ds.all flatD = true ∧ K (.bl (if neg then !inV (fv d) (ds.map fv) else inV (fv d) (ds.map fv)))
  | _ => False) := by
  intro x y d e H G Kd Q ok r1 r2 h pv
  split at h
  · obtain ⟨f1, f2, k⟩ := h
    obtain ⟨rfl, g1⟩ := r1.flat f1
    cases r2 with
    | lst ha ra =>
      obtain ⟨rfl, g2⟩ := ra.flat f2
      exact ⟨_, _, rfl, .inl (.inl (.inl (ok.sub _ _ ha).2)), g1, g2, pv _ _ H G Stp.refl ok (.bl _) k⟩
  · obtain ⟨f1, f2, k⟩ := h
    obtain ⟨rfl, g1⟩ := r1.flat f1
    cases r2 with
    | tup ha ra =>
      obtain ⟨rfl, g2⟩ := ra.flat f2
      exact ⟨_, _, rfl, .inr (seqT (fun a o e => (ok.sub a o e).2) ha.sq), g1, g2, pv _ _ H G Stp.refl ok (.bl _) k⟩
  · exact h.elim
@[irreducible] def inS (neg : Bool) (d e : D) (K : D → Prop) : Prop := match e with
  | .lst ds => flatD d = true ∧ ds.all flatD = true ∧ K (.bl (if neg then !inV (fv d) (ds.map fv) else inV (fv d) (ds.map fv)))
  | .tup ds => flatD d = true ∧ ds.all flatD = true ∧ K (.bl (if neg then !inV (fv d) (ds.map fv) else inV (fv d) (ds.map fv)))
  | _ => False
theorem od_inS (neg : Bool) : OpD C (rIn C.K neg) (inS neg) := fun x y d e H G Kd Q ok r1 r2 h pv => od_in neg x y d e H G Kd Q ok r1 r2 (by
  unfold inS at h
  exact h) pv
/-- tuples in a list -/
def inDp (neg : Bool) (d e : D) (K : D → Prop) : Prop := match e with
  | .lst ds => d.pl = true ∧ D.pls ds = true ∧ SeqAt.shaped d.py = true ∧ SeqAt.shaped (D.lst ds).py = true ∧ K (.bl (if neg then !(D.pys ds).any (fun z => PyData.eqv z d.py) else (D.pys ds).any fun z => PyData.eqv z d.py))
  | _ => False
theorem od_inDp (neg : Bool) : OpD C (if neg then rNotInD C.K else rInD C.K) (inDp neg) := by
  intro x y d e H G Kd Q ok r1 r2 h pv
  unfold inDp at h
  split at h
  · obtain ⟨f1, f2, s1, s2, k⟩ := h
    have sm : ∀ a o, G a = some o → H a = some o := fun a o q => (ok.sub a o q).2
    cases neg
    · exact ⟨_, _, r1.dp sm f1, r2.dp sm f2, s1, s2, pv _ _ H G Stp.refl ok (.bl _) k⟩
    · exact ⟨_, _, r1.dp sm f1, r2.dp sm f2, s1, s2, pv _ _ H G Stp.refl ok (.bl _) k⟩
  · exact h.elim
/-- is None, is not None -/
theorem od_isN (neg : Bool) : OpD C (fun x y H Q => y = .non ∧ Q (.bl (if neg then !decide (x = .non) else decide (x = .non))) H) (isND neg) := by
  intro x y d e H G Kd Q ok r1 r2 h pv
  obtain ⟨_, h⟩ := h
  split at h
  · cases r2
    refine ⟨rfl, ?_⟩
    split at h
    · cases r1
      cases neg <;> exact pv _ _ H G Stp.refl ok (.bl _) h
    · rename_i hn
      have e : decide (x = V.non) = false := decide_eq_false fun z => by
        subst z
        cases r1
        exact hn rfl
      rw [e]
      cases neg <;> exact pv _ _ H G Stp.refl ok (.bl _) h
  · exact h.elim
end

section
variable {X : Cx} {C : C3} {E : XK} {a b c : Expr} {ma mb mc : MEt} {f f' : D → D → (D → Prop) → Prop} {r r' : R2} {pos : Pos} {mg : Str → Option Value}
theorem me_eq (hK : X.K = C.K) (hu : X.A.units + 64 < cLine) (ha : ME X C E a ma) (hb : ME X C E b mb) : ME X C E (.Compare a [.Eq] [b] pos) (m2 (eqE false) ma mb) := me_cmp (or_eqA hK hu) (od_eqE false) ha hb (nomark b)
theorem me_ne (hK : X.K = C.K) (hu : X.A.units + 64 < cLine) (ha : ME X C E a ma) (hb : ME X C E b mb) : ME X C E (.Compare a [.NotEq] [b] pos) (m2 (eqE true) ma mb) := me_cmp (or_neA hK hu) (od_eqE true) ha hb (nomark b)
abbrev pLt : Int → Int → Bool := fun i j => decide (i < j)
abbrev pLe : Int → Int → Bool := fun i j => decide (i ≤ j)
abbrev pGt : Int → Int → Bool := fun i j => decide (j < i)
abbrev pGe : Int → Int → Bool := fun i j => decide (j ≤ i)
theorem me_lt (ha : ME X C E a ma) (hb : ME X C E b mb) : ME X C E (.Compare a [.Lt] [b] pos) (m2 (ordD pLt) ma mb) := me_cmp op_lt (od_ord pLt) ha hb (nomark b)
theorem me_le (ha : ME X C E a ma) (hb : ME X C E b mb) : ME X C E (.Compare a [.LtE] [b] pos) (m2 (ordD pLe) ma mb) := me_cmp op_le (od_ord pLe) ha hb (nomark b)
theorem me_gt (ha : ME X C E a ma) (hb : ME X C E b mb) : ME X C E (.Compare a [.Gt] [b] pos) (m2 (ordD pGt) ma mb) := me_cmp op_gt (od_ord pGt) ha hb (nomark b)
theorem me_ge (ha : ME X C E a ma) (hb : ME X C E b mb) : ME X C E (.Compare a [.GtE] [b] pos) (m2 (ordD pGe) ma mb) := me_cmp op_ge (od_ord pGe) ha hb (nomark b)
theorem me_isN (ha : ME X C E a ma) (hb : ME X C E b mb) : ME X C E (.Compare a [.Is] [b] pos) (m2 (isND false) ma mb) := me_cmp op_isN (od_isN false) ha hb (nomark b)
theorem me_isNN (ha : ME X C E a ma) (hb : ME X C E b mb) : ME X C E (.Compare a [.IsNot] [b] pos) (m2 (isND true) ma mb) := me_cmp op_notN (od_isN true) ha hb (nomark b)
theorem me_inS (hK : X.K = C.K) (ha : ME X C E a ma) (hb : ME X C E b mb) (hm : behindInMarks .In b = false := by rfl) : ME X C E (.Compare a [.In] [b] pos) (m2 (inS false) ma mb) := me_cmp (by rw [← hK]; exact op_in_seq) (od_inS false) ha hb hm
theorem me_niS (hK : X.K = C.K) (ha : ME X C E a ma) (hb : ME X C E b mb) (hm : behindInMarks .NotIn b = false := by rfl) : ME X C E (.Compare a [.NotIn] [b] pos) (m2 (inS true) ma mb) := me_cmp (by rw [← hK]; exact op_notIn_seq) (od_inS true) ha hb hm
theorem me_inDp (hK : X.K = C.K) (hu : X.A.units + 65 < cLine) (ha : ME X C E a ma) (hb : ME X C E b mb) (hm : behindInMarks .In b = false := by rfl) : ME X C E (.Compare a [.In] [b] pos) (m2 (inDp false) ma mb) := me_cmp (r := rInD C.K) (by rw [← hK]; exact op_inD hu) (od_inDp false) ha hb hm
theorem me_niDp (hK : X.K = C.K) (hu : X.A.units + 65 < cLine) (ha : ME X C E a ma) (hb : ME X C E b mb) (hm : behindInMarks .NotIn b = false := by rfl) : ME X C E (.Compare a [.NotIn] [b] pos) (m2 (inDp true) ma mb) := me_cmp (r := rNotInD C.K) (by rw [← hK]; exact op_notInD hu) (od_inDp true) ha hb hm
/-- k in d, for a dict -/
def inK (neg : Bool) (d e : D) (K : D → Prop) : Prop := match d, e with
  | .int k, .dic kvs => K (.bl (if neg then !(valD kvs k).isSome else (valD kvs k).isSome))
  | _, _ => False
theorem rp_dget {G H : Hp} {K : PySem.W.Frag} {kvs : List (Int × D)} {y : V} (k : Int) (r : Rp K G (.dic kvs) y) (sm : ∀ a o, G a = some o → H a = some o) :
    ∃ p, y = .ref p ∧ IsD H p ∧ ((valD kvs k = none ∧ DGet H p (.int k) none) ∨ ∃ d v, valD kvs k = some d ∧ DGet H p (.int k) (some v) ∧ Rp K G d v) := by
  cases r with
  | dic ha ra =>
    have hr : Rd H _ (.dK _) := .inr ⟨_, sm _ _ ha⟩
    refine ⟨_, rfl, .inl ⟨_, hr⟩, ?_⟩
    rcases ra.val k with ⟨e1, e2⟩ | ⟨d, v, e1, e2, e3⟩
    · exact .inl ⟨e1, .inl ⟨_, Sum.inl k, hr, rfl, e2.symm⟩⟩
    · exact .inr ⟨d, v, e1, .inl ⟨_, Sum.inl k, hr, rfl, e2.symm⟩, e3⟩
theorem lift_din (neg : Bool) {σ : L2.St} {H : Hp} {Q : VK} (h : lift C mg E (m2 (inK neg) ma mb) σ H Q) :
    (lift C mg E ma) σ H fun y H1 => (lift C mg E mb) σ H1 fun x H2 => ∃ a o, x = .ref a ∧ DGet H2 a y o ∧ Q (.bl (if neg then !o.isSome else o.isSome)) H2 := by
  obtain ⟨env, G, Kd, KX, ok, vr, hm, pv, px⟩ := h
  refine ⟨env, G, _, KX, ok, vr, hm, fun d x H1 G1 s1 ok1 r1 k1 => ⟨env, G1, _, KX, ok1, vr.mono s1.ge, k1, fun e y H2 G2 s2 ok2 r2 k2 => ?_, px.on ok s1⟩, px⟩
  have k2 : inK neg d e Kd := k2
  unfold inK at k2
  split at k2
  · cases r1
    rename_i k kvs _
    obtain ⟨p, e1, _, h⟩ := rp_dget (H := H2) k r2 (fun a o q => (ok2.sub a o q).2)
    subst e1
    rcases h with ⟨e1, e2⟩ | ⟨d, v, e1, e2, _⟩
    · rw [e1] at k2
      exact ⟨p, none, rfl, e2, pv _ _ _ _ (s1.trans ok2 s2) ok2 (.bl _) k2⟩
    · rw [e1] at k2
      exact ⟨p, some v, rfl, e2, pv _ _ _ _ (s1.trans ok2 s2) ok2 (.bl _) k2⟩
  · exact k2.elim
theorem me_inK (hu : X.A.units + 1 < cLine) (ha : ME X C E a ma) (hb : ME X C E b mb) (hm : behindInMarks .In b = false := by rfl) : ME X C E (.Compare a [.In] [b] pos) (m2 (inK false) ma mb) := PE.imp (pe_cmp (pc_din hu ha hb) hm) fun _ _ _ h => lift_din false h
theorem me_niK (hu : X.A.units + 1 < cLine) (ha : ME X C E a ma) (hb : ME X C E b mb) (hm : behindInMarks .NotIn b = false := by rfl) : ME X C E (.Compare a [.NotIn] [b] pos) (m2 (inK true) ma mb) := PE.imp (pe_cmp (pc_dnotin hu ha hb) hm) fun _ _ _ h => lift_din true h
/-- one sign in a text -/
def inT (neg : Bool) (d e : D) (K : D → Prop) : Prop := match d, e with
  | .str x, .str y => K (.bl (if neg then !(!(Builtin.Str.occurrences y x 0 y.length 1).isEmpty) else !(Builtin.Str.occurrences y x 0 y.length 1).isEmpty))
  | _, _ => False
theorem od_inT (neg : Bool) : OpD C (fun x y H Q => ∃ i j, x = .str i ∧ y = .str j ∧ Q (.bl (if neg then !(!(Builtin.Str.occurrences j i 0 j.length 1).isEmpty) else !(Builtin.Str.occurrences j i 0 j.length 1).isEmpty)) H) (inT neg) := by
  intro x y d e H G Kd Q ok r1 r2 h pv
  unfold inT at h
  split at h
  · cases r1; cases r2
    exact ⟨_, _, rfl, rfl, pv _ _ H G Stp.refl ok (.bl _) h⟩
  · exact h.elim
theorem me_inT (ha : ME X C E a ma) (hb : ME X C E b mb) (hm : behindInMarks .In b = false := by rfl) : ME X C E (.Compare a [.In] [b] pos) (m2 (inT false) ma mb) := me_cmp op_in_str (od_inT false) ha hb hm
theorem me_niT (ha : ME X C E a ma) (hb : ME X C E b mb) (hm : behindInMarks .NotIn b = false := by rfl) : ME X C E (.Compare a [.NotIn] [b] pos) (m2 (inT true) ma mb) := me_cmp op_notIn_str (od_inT true) ha hb hm

/-! ### tests -/
abbrev MTt := EnvE → (Bool → Prop) → (Exn → Prop) → Prop
def liftT (C : C3) (mg : Str → Option Value) (E : XK) (m : MTt) : TT := fun σ H Q => ∃ env G Kb KX, Ok3 C H G ∧ VR C.K G env σ ∧ m env Kb KX ∧ (∀ b H' G', Stp C H G H' G' → Ok3 C H' G' → Kb b → Q b H') ∧ PostX C mg H G KX E
abbrev MT (X : Cx) (C : C3) (E : XK) (e : Expr) (m : MTt) : Prop := PT X e (liftT C X.mg E m)
def isB (d : D) (K : Bool → Prop) : Prop := match d with
  | .bl b => K b
  | _ => False
def mB (m : MEt) : MTt := fun env Kb KX => m env (fun d => isB d Kb) KX
theorem liftB {m : MEt} {σ : L2.St} {H : Hp} {Q : Bool → Hp → Prop} (h : liftT C mg E (mB m) σ H Q) : lift C mg E m σ H fun x H' => ∃ k, x = .bl k ∧ Q k H' := by
  obtain ⟨env, G, Kb, KX, ok, vr, hm, pv, px⟩ := h
  refine ⟨env, G, _, KX, ok, vr, hm, fun d v H' G' s1 ok1 r1 k1 => ?_, px⟩
  have k1 : isB d Kb := k1
  cases r1 <;> first | exact k1.elim | exact ⟨_, rfl, pv _ _ _ s1 ok1 k1⟩
theorem mt_cmp {op : CmpOp} (ho : OpR X (compareOp op) r) (hd : OpD C r f) (ha : ME X C E a ma) (hb : ME X C E b mb) (hm : behindInMarks op b = false) : MT X C E (.Compare a [op] [b] pos) (mB (m2 f ma mb)) :=
  PT.imp (pt_cmpR ho ha hb hm) fun _ _ _ h => lift2 hd (liftB h)
theorem mt_eq (hK : X.K = C.K) (hu : X.A.units + 64 < cLine) (ha : ME X C E a ma) (hb : ME X C E b mb) : MT X C E (.Compare a [.Eq] [b] pos) (mB (m2 (eqE false) ma mb)) := mt_cmp (or_eqA hK hu) (od_eqE false) ha hb (nomark b)
theorem mt_ne (hK : X.K = C.K) (hu : X.A.units + 64 < cLine) (ha : ME X C E a ma) (hb : ME X C E b mb) : MT X C E (.Compare a [.NotEq] [b] pos) (mB (m2 (eqE true) ma mb)) := mt_cmp (or_neA hK hu) (od_eqE true) ha hb (nomark b)
theorem mt_lt (ha : ME X C E a ma) (hb : ME X C E b mb) : MT X C E (.Compare a [.Lt] [b] pos) (mB (m2 (ordD pLt) ma mb)) := mt_cmp op_lt (od_ord pLt) ha hb (nomark b)
theorem mt_le (ha : ME X C E a ma) (hb : ME X C E b mb) : MT X C E (.Compare a [.LtE] [b] pos) (mB (m2 (ordD pLe) ma mb)) := mt_cmp op_le (od_ord pLe) ha hb (nomark b)
theorem mt_gt (ha : ME X C E a ma) (hb : ME X C E b mb) : MT X C E (.Compare a [.Gt] [b] pos) (mB (m2 (ordD pGt) ma mb)) := mt_cmp op_gt (od_ord pGt) ha hb (nomark b)
theorem mt_ge (ha : ME X C E a ma) (hb : ME X C E b mb) : MT X C E (.Compare a [.GtE] [b] pos) (mB (m2 (ordD pGe) ma mb)) := mt_cmp op_ge (od_ord pGe) ha hb (nomark b)
theorem mt_isN (ha : ME X C E a ma) (hb : ME X C E b mb) : MT X C E (.Compare a [.Is] [b] pos) (mB (m2 (isND false) ma mb)) := mt_cmp op_isN (od_isN false) ha hb (nomark b)
theorem mt_isNN (ha : ME X C E a ma) (hb : ME X C E b mb) : MT X C E (.Compare a [.IsNot] [b] pos) (mB (m2 (isND true) ma mb)) := mt_cmp op_notN (od_isN true) ha hb (nomark b)
theorem mt_inS (hK : X.K = C.K) (ha : ME X C E a ma) (hb : ME X C E b mb) (hm : behindInMarks .In b = false := by rfl) : MT X C E (.Compare a [.In] [b] pos) (mB (m2 (inS false) ma mb)) := mt_cmp (by rw [← hK]; exact op_in_seq) (od_inS false) ha hb hm
theorem mt_niS (hK : X.K = C.K) (ha : ME X C E a ma) (hb : ME X C E b mb) (hm : behindInMarks .NotIn b = false := by rfl) : MT X C E (.Compare a [.NotIn] [b] pos) (mB (m2 (inS true) ma mb)) := mt_cmp (by rw [← hK]; exact op_notIn_seq) (od_inS true) ha hb hm
theorem mt_inDp (hK : X.K = C.K) (hu : X.A.units + 65 < cLine) (ha : ME X C E a ma) (hb : ME X C E b mb) (hm : behindInMarks .In b = false := by rfl) : MT X C E (.Compare a [.In] [b] pos) (mB (m2 (inDp false) ma mb)) := mt_cmp (r := rInD C.K) (by rw [← hK]; exact op_inD hu) (od_inDp false) ha hb hm
theorem mt_niDp (hK : X.K = C.K) (hu : X.A.units + 65 < cLine) (ha : ME X C E a ma) (hb : ME X C E b mb) (hm : behindInMarks .NotIn b = false := by rfl) : MT X C E (.Compare a [.NotIn] [b] pos) (mB (m2 (inDp true) ma mb)) := mt_cmp (r := rNotInD C.K) (by rw [← hK]; exact op_notInD hu) (od_inDp true) ha hb hm
theorem mt_inK (hu : X.A.units + 1 < cLine) (ha : ME X C E a ma) (hb : ME X C E b mb) (hm : behindInMarks .In b = false := by rfl) : MT X C E (.Compare a [.In] [b] pos) (mB (m2 (inK false) ma mb)) := PT.imp (pt_cmp (pc_din hu ha hb) hm) fun _ _ _ h => lift_din false (liftB h)
theorem mt_niK (hu : X.A.units + 1 < cLine) (ha : ME X C E a ma) (hb : ME X C E b mb) (hm : behindInMarks .NotIn b = false := by rfl) : MT X C E (.Compare a [.NotIn] [b] pos) (mB (m2 (inK true) ma mb)) := PT.imp (pt_cmp (pc_dnotin hu ha hb) hm) fun _ _ _ h => lift_din true (liftB h)
theorem mt_inT (ha : ME X C E a ma) (hb : ME X C E b mb) (hm : behindInMarks .In b = false := by rfl) : MT X C E (.Compare a [.In] [b] pos) (mB (m2 (inT false) ma mb)) := mt_cmp op_in_str (od_inT false) ha hb hm
theorem mt_niT (ha : ME X C E a ma) (hb : ME X C E b mb) (hm : behindInMarks .NotIn b = false := by rfl) : MT X C E (.Compare a [.NotIn] [b] pos) (mB (m2 (inT true) ma mb)) := mt_cmp op_notIn_str (od_inT true) ha hb hm
/-- an expression that is a bool -/
theorem mt_val (ha : ME X C E a ma) (he : ∀ whole, isTrue a X.env whole = (do let v ← whole; standAt a.pos; holding [v] (truthy v)) := by intro _; rfl) : MT X C E a (mB ma) := PT.imp (pt_val ha he) fun _ _ _ h => liftB h
/-- chains -/
def m3 (f f' : D → D → (D → Prop) → Prop) (ma mb mc : MEt) : MEt := fun env Kd KX => ma env (fun d => mb env (fun e => f d e fun z => isB z fun k => if k = true then mc env (fun g => f' e g Kd) KX else Kd (.bl false)) KX) KX
theorem lift3 (ho : OpD C r f) (ho' : OpD C r' f') {σ : L2.St} {H : Hp} {Q : VK} (h : lift C mg E (m3 f f' ma mb mc) σ H Q) : tChain r r' (lift C mg E ma) (lift C mg E mb) (lift C mg E mc) σ H Q := by
  obtain ⟨env, G, Kd, KX, ok, vr, hm, pv, px⟩ := h
  refine ⟨env, G, _, KX, ok, vr, hm, fun d x H1 G1 s1 ok1 r1 k1 => ⟨env, G1, _, KX, ok1, vr.mono s1.ge, k1, fun e y H2 G2 s2 ok2 r2 k2 =>
    ho x y d e H2 G2 _ _ ok2 (r1.mono s2.ge) r2 k2 fun z v H3 G3 s3 ok3 r3 k3 => ?_, px.on ok s1⟩, px⟩
  have k3 : isB z _ := k3
  have s02 := s1.trans ok2 s2
  have s03 := s02.trans ok3 s3
  obtain ⟨k, rfl, rfl⟩ : ∃ k, z = .bl k ∧ v = .bl k := by cases r3 <;> first | exact k3.elim | exact ⟨_, rfl, rfl⟩
  refine ⟨k, rfl, ?_⟩
  cases k with
  | true => exact ⟨env, G3, _, KX, ok3, vr.mono s03.ge, k3, fun g w H4 G4 s4 ok4 r4 k4 => ho' y w e g H4 G4 Kd Q ok4 (r2.mono (s3.ge.trans s4.ge)) r4 k4 ((pv.on s03).on s4), px.on ok s03⟩
  | false => exact pv _ _ _ _ s03 ok3 (.bl false) k3
theorem me_chain {op op' : CmpOp} (ho : OpR X (compareOp op) r) (ho' : OpR X (compareOp op') r') (hd : OpD C r f) (hd' : OpD C r' f') (ha : ME X C E a ma) (hb : ME X C E b mb) (hc : ME X C E c mc) (hm : lastMarks [op, op'] [b, c] = false := by with_unfolding_all rfl) : ME X C E (.Compare a [op, op'] [b, c] pos) (m3 f f' ma mb mc) :=
  PE.imp (pe_chain ho ho' ha hb hc hm) fun _ _ _ h => lift3 hd hd' h
theorem mt_chain {op op' : CmpOp} (ho : OpR X (compareOp op) r) (ho' : OpR X (compareOp op') r') (hd : OpD C r f) (hd' : OpD C r' f') (ha : ME X C E a ma) (hb : ME X C E b mb) (hc : ME X C E c mc) (hm : lastMarks [op, op'] [b, c] = false := by with_unfolding_all rfl) : MT X C E (.Compare a [op, op'] [b, c] pos) (mB (m3 f f' ma mb mc)) :=
  PT.imp (pt_chain ho ho' ha hb hc hm) fun _ _ _ h => lift3 hd hd' (liftB h)
theorem me_leLt (ha : ME X C E a ma) (hb : ME X C E b mb) (hc : ME X C E c mc) (hm : lastMarks [.LtE, .Lt] [b, c] = false := by with_unfolding_all rfl) : ME X C E (.Compare a [.LtE, .Lt] [b, c] pos) (m3 (ordD pLe) (ordD pLt) ma mb mc) := me_chain op_le op_lt (od_ord pLe) (od_ord pLt) ha hb hc hm
theorem mt_leLt (ha : ME X C E a ma) (hb : ME X C E b mb) (hc : ME X C E c mc) (hm : lastMarks [.LtE, .Lt] [b, c] = false := by with_unfolding_all rfl) : MT X C E (.Compare a [.LtE, .Lt] [b, c] pos) (mB (m3 (ordD pLe) (ordD pLt) ma mb mc)) := mt_chain op_le op_lt (od_ord pLe) (od_ord pLt) ha hb hc hm
theorem me_leLe (ha : ME X C E a ma) (hb : ME X C E b mb) (hc : ME X C E c mc) (hm : lastMarks [.LtE, .LtE] [b, c] = false := by with_unfolding_all rfl) : ME X C E (.Compare a [.LtE, .LtE] [b, c] pos) (m3 (ordD pLe) (ordD pLe) ma mb mc) := me_chain op_le op_le (od_ord pLe) (od_ord pLe) ha hb hc hm
theorem mt_leLe (ha : ME X C E a ma) (hb : ME X C E b mb) (hc : ME X C E c mc) (hm : lastMarks [.LtE, .LtE] [b, c] = false := by with_unfolding_all rfl) : MT X C E (.Compare a [.LtE, .LtE] [b, c] pos) (mB (m3 (ordD pLe) (ordD pLe) ma mb mc)) := mt_chain op_le op_le (od_ord pLe) (od_ord pLe) ha hb hc hm

/-! ### and, or, not, a if t else b -/
def mAnd (t u : MTt) : MTt := fun env Kb KX => t env (fun k => if k = true then u env Kb KX else Kb false) KX
def mOr (t u : MTt) : MTt := fun env Kb KX => t env (fun k => if k = true then Kb true else u env Kb KX) KX
def mNot (t : MTt) : MTt := fun env Kb KX => t env (fun k => Kb (!k)) KX
abbrev MW (X : Cx) (C : C3) (E : XK) (e : Expr) (m : MTt) : Prop := PW X e (liftT C X.mg E m)
theorem PW.imp {X : Cx} {e : Expr} {t t' : TT} (h : PW X e t) (q : ∀ σ H Q, t' σ H Q → t σ H Q) : PW X e t' := ⟨fun wh pins s σ H Q I w => h.run wh pins s σ H Q I (q σ H Q w)⟩
variable {rest : List Expr} {ta tb : MTt}
theorem mw_and1 (ha : MT X C E a ta) : MW X C E (.BoolOp .And [a] pos) ta := pw_and1 ha
theorem mw_or1 (ha : MT X C E a ta) : MW X C E (.BoolOp .Or [a] pos) ta := pw_or1 ha
theorem mw_and (ha : MT X C E a ta) (hb : MW X C E (.BoolOp .And (b :: rest) pos) tb) : MW X C E (.BoolOp .And (a :: b :: rest) pos) (mAnd ta tb) := PW.imp (pw_and ha hb) fun σ H Q ⟨env, G, Kb, KX, ok, vr, hm, pv, px⟩ =>
  ⟨env, G, _, KX, ok, vr, hm, fun k H1 G1 s1 ok1 k1 => by
    cases k with
    | true => exact ⟨env, G1, Kb, KX, ok1, vr.mono s1.ge, k1, fun b H2 G2 s2 ok2 k2 => pv b H2 G2 (s1.trans ok2 s2) ok2 k2, px.on ok s1⟩
    | false => exact pv _ _ _ s1 ok1 k1, px⟩
theorem mw_or (ha : MT X C E a ta) (hb : MW X C E (.BoolOp .Or (b :: rest) pos) tb) : MW X C E (.BoolOp .Or (a :: b :: rest) pos) (mOr ta tb) := PW.imp (pw_or ha hb) fun σ H Q ⟨env, G, Kb, KX, ok, vr, hm, pv, px⟩ =>
  ⟨env, G, _, KX, ok, vr, hm, fun k H1 G1 s1 ok1 k1 => by
    cases k with
    | false => exact ⟨env, G1, Kb, KX, ok1, vr.mono s1.ge, k1, fun b H2 G2 s2 ok2 k2 => pv b H2 G2 (s1.trans ok2 s2) ok2 k2, px.on ok s1⟩
    | true => exact pv _ _ _ s1 ok1 k1, px⟩
theorem mt_not (ha : MT X C E a ta) : MT X C E (.UnaryOp .Not a pos) (mNot ta) := PT.imp (pt_not ha) fun σ H Q ⟨env, G, Kb, KX, ok, vr, hm, pv, px⟩ => ⟨env, G, _, KX, ok, vr, hm, fun k H1 G1 s1 ok1 k1 => pv _ _ _ s1 ok1 k1, px⟩
theorem mt_w {e : Expr} {t : MTt} (h : MW X C E e t) : MT X C E e t := h.pt
/-- as values -/
def mAndV (a b : MEt) : MEt := fun env Kd KX => a env (fun d => isB d fun k => if k = true then b env Kd KX else Kd (.bl false)) KX
def mOrV (a b : MEt) : MEt := fun env Kd KX => a env (fun d => isB d fun k => if k = true then Kd (.bl true) else b env Kd KX) KX
def mNotV (a : MEt) : MEt := fun env Kd KX => a env (fun d => isB d fun k => Kd (.bl (!k))) KX
theorem me_one {op} {e : Expr} {m : MEt} (h : ME X C E e m) : ME X C E (.BoolOp op [e] pos) m := pe_one h
theorem me_and (ha : ME X C E a ma) (hb : ME X C E (.BoolOp .And (b :: rest) pos) mb) : ME X C E (.BoolOp .And (a :: b :: rest) pos) (mAndV ma mb) := PE.imp (pe_and ha hb) fun σ H Q ⟨env, G, Kd, KX, ok, vr, hm, pv, px⟩ =>
  ⟨env, G, _, KX, ok, vr, hm, fun d v H1 G1 s1 ok1 r1 k1 => by
    have k1 : isB d _ := k1
    obtain ⟨k, rfl, rfl⟩ : ∃ k, d = .bl k ∧ v = .bl k := by cases r1 <;> first | exact k1.elim | exact ⟨_, rfl, rfl⟩
    refine ⟨k, rfl, ?_⟩
    cases k with
    | true => exact ⟨env, G1, Kd, KX, ok1, vr.mono s1.ge, k1, pv.on s1, px.on ok s1⟩
    | false => exact pv _ _ _ _ s1 ok1 (.bl false) k1, px⟩
theorem me_or (ha : ME X C E a ma) (hb : ME X C E (.BoolOp .Or (b :: rest) pos) mb) : ME X C E (.BoolOp .Or (a :: b :: rest) pos) (mOrV ma mb) := PE.imp (pe_or ha hb) fun σ H Q ⟨env, G, Kd, KX, ok, vr, hm, pv, px⟩ =>
  ⟨env, G, _, KX, ok, vr, hm, fun d v H1 G1 s1 ok1 r1 k1 => by
    have k1 : isB d _ := k1
    obtain ⟨k, rfl, rfl⟩ : ∃ k, d = .bl k ∧ v = .bl k := by cases r1 <;> first | exact k1.elim | exact ⟨_, rfl, rfl⟩
    refine ⟨k, rfl, ?_⟩
    cases k with
    | false => exact ⟨env, G1, Kd, KX, ok1, vr.mono s1.ge, k1, pv.on s1, px.on ok s1⟩
    | true => exact pv _ _ _ _ s1 ok1 (.bl true) k1, px⟩
theorem me_not (ha : ME X C E a ma) : ME X C E (.UnaryOp .Not a pos) (mNotV ma) := PE.imp (pe_not ha) fun σ H Q ⟨env, G, Kd, KX, ok, vr, hm, pv, px⟩ =>
  ⟨env, G, _, KX, ok, vr, hm, fun d v H1 G1 s1 ok1 r1 k1 => by
    have k1 : isB d _ := k1
    cases r1 <;> first | exact k1.elim | skip
    exact ⟨_, rfl, pv _ _ _ _ s1 ok1 (.bl _) k1⟩, px⟩
def mNeg (a : MEt) : MEt := fun env Kd KX => a env (fun d => match d with | .int i => Kd (.int (-i)) | _ => False) KX
theorem me_neg (ha : ME X C E a ma) : ME X C E (.UnaryOp .USub a pos) (mNeg ma) := PE.imp (pe_un un_neg ha) fun σ H Q ⟨env, G, Kd, KX, ok, vr, hm, pv, px⟩ =>
  ⟨env, G, _, KX, ok, vr, hm, fun d v H1 G1 s1 ok1 r1 k1 => by
    cases r1 <;> first | exact k1.elim | skip
    exact ⟨_, rfl, pv _ _ _ _ s1 ok1 (.int _) k1⟩, px⟩
def mIf (t : MTt) (a b : MEt) : MEt := fun env Kd KX => t env (fun k => if k = true then a env Kd KX else b env Kd KX) KX
theorem me_if (hc : MT X C E c ta) (ha : ME X C E a ma) (hb : ME X C E b mb) : ME X C E (.IfExp c a b pos) (mIf ta ma mb) := PE.imp (pe_ifExp hc ha hb) fun σ H Q ⟨env, G, Kd, KX, ok, vr, hm, pv, px⟩ =>
  ⟨env, G, _, KX, ok, vr, hm, fun k H1 G1 s1 ok1 k1 => by
    cases k with
    | true => exact ⟨env, G1, Kd, KX, ok1, vr.mono s1.ge, k1, pv.on s1, px.on ok s1⟩
    | false => exact ⟨env, G1, Kd, KX, ok1, vr.mono s1.ge, k1, pv.on s1, px.on ok s1⟩, px⟩
end
end L3
/-! L3d: arguments, calls of built-ins, subscripts, slices, displays -/
namespace L3
open PySem PySem.Spec PyProof.Rows L2

/-! ### new rules below -/
section
variable {X : Cx}
theorem ints_at : ∀ {us : List Value} {ks : List Int}, us.length = ks.length → (∀ (j : Nat) (v : Value), us[j]? = some v → ∃ (x : Int) (t : Tok), ks[j]? = some x ∧ v = Value.int x t) → IntsAre us ks
  | [], [], _, _ => .nil
  | u :: us, k :: ks, hl, h => by
    obtain ⟨x, t, e1, e2⟩ := h 0 u rfl
    have e1' : k = x := Option.some.inj e1
    subst e1'
    subst e2
    refine .cons _ _ (ints_at (by simpa using hl) fun j v e => ?_)
    obtain ⟨x, t, a, b⟩ := h (j + 1) v (by simpa using e)
    exact ⟨x, t, by simpa using a, b⟩
  | [], _ :: _, hl, _ => by simp at hl
  | _ :: _, [], hl, _ => by simp at hl
/-- sorted(d) of a dict whose keys are whole numbers -/
theorem call_sortedDI (hcalm : X.calm = true) : CallR X (.builtin "sorted") (fun xs H Q => ∃ (a : Addr) (kvs : List (Key × V)) (ks : List Int), xs = [.ref a] ∧ Rd H a (.dK kvs) ∧ kvs.map (·.1) = ks.map Sum.inl ∧
    ∀ (ys : List Int) (p : Addr), ys.Perm ks → ys.Pairwise (· ≤ ·) → H p = none → Q (.ref p) (upd H p (.lst (ys.map V.int)))) := by
  intro pins s σ H xs us Q I r q
  obtain ⟨a, kvs, ks, ex, hd, hks, q⟩ := q
  subst ex
  obtain ⟨u, eu, rx⟩ := vals1 r
  subst eu
  cases rx
  obtain ⟨z, lo, vs, rel, dd⟩ := dk_rd I.hok hd
  obtain ⟨ep, hat⟩ := dd.dictAt
  have hkeys : vs.map (·.1) = ks.map Sum.inl := rel.keys.symm.trans hks
  have hl : vs.length = ks.length := by
    have e := congrArg List.length hkeys
    rw [List.length_map, List.length_map] at e
    exact e
  have h16 : vs.length ≤ sizeLine := by rw [← rel.length]; exact z
  refine Calls.call_function_entry PyProof.Rows.kind_sorted PyProof.Rows.plain_sorted PyProof.Rows.entry_sorted (PyProof.Rows.args_sorted1 _) ?_
  unfold Builtin.«sorted»
  refine wpAny_bind (m := checkCount "sorted" 1 1 _) (wpAny_pure ?_)
  refine wpAny_bind (PySem.W.kdu_collect (A := X.A.in1) (PySem.W.kdl_dict (knd := mixKind X.prog X.w) (kvs := vs) (ep := ep) lo) (I.ok.hd hcalm) hat h16 fun h' tk acc hk hacc => ?_)
  have hal : acc.toList.length = ks.length := by rw [Array.length_toList, hacc.1, hl]
  have hS : IntsAre acc.toList ks := ints_at hal fun j v e => by
    obtain ⟨k, x, e1, e2⟩ := hacc.2 j v (by rw [← Array.getElem?_toList]; exact e)
    have e3 : (vs.map (·.1))[j]? = some k := by rw [List.getElem?_map, e1]; all_goals rfl
    rw [hkeys, List.getElem?_map] at e3
    cases e4 : ks[j]? with
    | none => rw [e4] at e3; cases e3
    | some y =>
      rw [e4] at e3
      have e5 : Sum.inl y = k := Option.some.inj e3
      subst e5
      obtain ⟨t, ev⟩ := Value.isInt_shape (k := y) (v := v) e2
      exact ⟨y, t, rfl, ev⟩
  have I1 : Inv X pins σ H { s with heap := h', toks := tk } := I.kept hk
  refine wpAny_bind (wpAny_newList ?_ (by rw [hal, ← hl]; exact h16))
  have hoL : (h'.push (seqObj "list" acc.toList.toArray 0)).get? h'.objs.size = some (seqObj "list" acc.toList.toArray 0) := Heap.get?_push_size _ rfl
  show wpAny _ _ _ _ _ { s with heap := h'.push (seqObj "list" acc.toList.toArray 0), toks := tk }
  refine wpAny_bind (wpAny_holding (wpAny_call_entry PyProof.Rows.slot_list_sort ⟨_, hoL, rfl⟩ PyProof.Rows.entry_list_sort
    (SrtO.list_sort_ord SrtO.swo_int (s := { s with heap := h'.push (seqObj "list" acc.toList.toArray 0), toks := tk }) hoL (by rw [hal, ← hl]; exact h16) (fun h2 => SrtO.ints_sortable hS h2) fun out h1 h2 => ⟨_, rfl, ?_⟩)
    (PyProof.Rows.args_list_sort _)))
  obtain ⟨k1, k2, k3⟩ := SrtO.ints_out hS h1 h2
  obtain ⟨e', he'⟩ := PyProof.Rows.sortedHeap_at (vs := acc.toList) (out := out.toArray) hoL
  have hlen : ((out.map SrtO.iv).map V.int).length ≤ sizeLine := by
    rw [List.length_map, k2.length_eq, ← hl]
    exact h16
  refine wpAny_pure ⟨_, rfl, .ref h'.objs.size, upd H h'.objs.size (.lst ((out.map SrtO.iv).map V.int)), I1.laid (t' := tk) (fun b u e => ?_) (Nat.le_refl _)
    (show ObjOk X.prog X.w _ _ _ (.lst ((out.map SrtO.iv).map V.int)) from ⟨hlen, out, e', vals_of_ints k1, he'⟩), rfl, q _ _ k2 k3 (I1.hok.fresh (Nat.le_refl _))⟩
  have hb : b < h'.objs.size := Heap.lt_size e
  rw [PyProof.Rows.sortedHeap_old (Nat.ne_of_lt hb) (by rw [size_push']; exact Nat.lt_succ_of_lt hb)]
  exact Heap.get?_push_of_some _ e
/-- how many unlike ones -/
def dlen (ns : List Int) : Nat := (PyProof.Rows.firstMet (fun i => ns.getD i 0) ns.length).length
theorem dlen_nodup {ns : List Int} (h : ns.Nodup) : dlen ns = ns.length := by
  unfold dlen
  rw [RZ.firstMet_nodup h _ (Nat.le_refl _), List.take_length]
def tLenSet (K : PySem.W.Frag) (ta : TE) : TE := fun σ H Q => ta σ H fun x H1 => ∃ (l : Addr) (ns : List Int), x = .ref l ∧ SqL K H1 l (ns.map V.int) ∧ ns.length ≤ 4000 ∧ Q (.int (dlen ns : Nat)) H1
theorem pe_lenSetG {a : Expr} {ta : TE} {p p2 q pos : Pos} (hg : Gl X "len") (hm : X.mg "len" = none) (hg2 : Gl X "set") (hm2 : X.mg "set" = none) (ha : PE X a ta) (hc : X.calm = true := by rfl)
    (na : starEach [a] X.env = (false, eval a X.env) :: starEach [] X.env := by rfl) : PE X (.Call (.Name "len" p) [.Call (.Name "set" p2) [a] [] q] [] pos) (tLenSet X.K ta) := by
  refine ⟨fun pins s σ H Q I h => ?_⟩
  refine Call_ (ld_blt I hg hm boot_len ?_)
  refine PyProof.Rows.callWith_builtin1 (PyProof.Rows.args_cons ?_ rfl) rfl rfl
  refine Call_ (ld_blt I hg2 hm2 boot_set ?_)
  refine PyProof.Rows.callWith_type1 (PyProof.Rows.args_cons (thn (ha.run pins s σ H _ I h) fun v s1 ⟨x, H1, I1, r1, q1⟩ => PyProof.Rows.args_nil ?_) na) na rfl
  obtain ⟨l, ns, rfl, hq, hl, q1⟩ := q1
  cases r1
  obtain ⟨its, r, pl, hz⟩ := I1.list hq
  have hlen : its.toArray.size = ns.length := by rw [List.size_toArray, ← r.length, List.length_map]
  refine call_set_list (I1.ok.hd hc) pl.isList (by simpa using RZ.intsAre_vals r) (by rw [hlen]; unfold scanBound; omega) fun h' tk hS hk => ?_
  refine PyProof.Rows.args_nil ?_
  rw [hlen] at hS
  obtain ⟨o, es, ep, t, ho, hex, hd, _, _, _, hf, hn⟩ := hS
  have I2 : Inv X pins σ H1 { s1 with heap := h', toks := tk } := I1.kept fun b o e => hk b o (Heap.lt_size e) e
  have hb := PyProof.Rows.firstMet_length_le (fun i => ns.getD i 0) ns.length
  exact call_len_set ho hex hd hf (by rw [hn] <;> omega) ⟨.int (dlen ns : Nat), H1, I2.tok _, ⟨_, by rw [hn]; rfl⟩, q1⟩
end

/-! ### arguments -/
abbrev MAt := EnvE → (List D → Prop) → (Exn → Prop) → Prop
abbrev PostA (C : C3) (n : Nat) (H G : Hp) (Kl : List D → Prop) (Q : List V → Hp → Prop) : Prop := ∀ ds vs H' G', Stp C H G H' G' → Ok3 C H' G' → Rps C.K G' ds vs → ds.length = n → Kl ds → Q vs H'
def liftA (C : C3) (mg : Str → Option Value) (E : XK) (n : Nat) (m : MAt) : TA := fun σ H Q => ∃ env G Kl KX, Ok3 C H G ∧ VR C.K G env σ ∧ m env Kl KX ∧ PostA C n H G Kl Q ∧ PostX C mg H G KX E
abbrev MA (X : Cx) (C : C3) (E : XK) (es : List Expr) (m : MAt) : Prop := PA X es (liftA C X.mg E es.length m)
def aNil : MAt := fun _ Kl _ => Kl []
def aCons (m : MEt) (r : MAt) : MAt := fun env Kl KX => m env (fun d => r env (fun ds => Kl (d :: ds)) KX) KX
theorem PA.imp {X : Cx} {es : List Expr} {t t' : TA} (h : PA X es t) (q : ∀ σ H Q, t' σ H Q → t σ H Q) : PA X es t' := ⟨fun pos pins s σ H Q I w => h.run pos pins s σ H Q I (q σ H Q w)⟩
section
variable {X : Cx} {C : C3} {E : XK} {e a b : Expr} {es : List Expr} {m ma mb : MEt} {r : MAt} {pos p : Pos} {mg : Str → Option Value}
theorem ma_nil : MA X C E [] aNil := PA.imp pa_nil fun σ H Q ⟨env, G, Kl, KX, ok, vr, hm, pv, px⟩ => pv [] [] H G Stp.refl ok .nil rfl hm
theorem ma_cons (h : ME X C E e m) (hr : MA X C E es r) (hs : starEach (e :: es) X.env = (false, eval e X.env) :: starEach es X.env := by rfl) : MA X C E (e :: es) (aCons m r) := PA.imp (pa_cons h hr hs) fun σ H Q ⟨env, G, Kl, KX, ok, vr, hm, pv, px⟩ =>
  ⟨env, G, _, KX, ok, vr, hm, fun d v H1 G1 s1 ok1 r1 k1 => ⟨env, G1, _, KX, ok1, vr.mono s1.ge, k1, fun ds vs H2 G2 s2 ok2 r2 n2 k2 => pv _ _ _ _ (s1.trans ok2 s2) ok2 (.cons (r1.mono s2.ge) r2) (by rw [List.length_cons, n2]; rfl) k2, px.on ok s1⟩, px⟩
/-- a call by values -/
def CD (C : C3) (r : List V → Hp → VK → Prop) (f : List D → (D → Prop) → Prop) : Prop := ∀ (vs : List V) (ds : List D) (H G : Hp) (Kd : D → Prop) (Q : VK), Ok3 C H G → Rps C.K G ds vs → f ds Kd → PostV C H G Kd Q → r vs H Q
def CF (C : C3) (r : List V → Hp → VK → Prop) (f : List D → (D → Prop) → Prop) : Prop := ∀ (vs : List V) (ds : List D) (H G : Hp) (Kd : D → Prop) (Q : VK), Ok3 C H G → Rps C.K G ds vs → f ds Kd → PostF C H G Kd Q → r vs H Q
theorem CF.cd {C : C3} {r : List V → Hp → VK → Prop} {f : List D → (D → Prop) → Prop} (h : CF C r f) : CD C r f := fun vs ds H G Kd Q ok rr k pv => h vs ds H G Kd Q ok rr k pv.fresh
def mCall (f : List D → (D → Prop) → Prop) (r : MAt) : MEt := fun env Kd KX => r env (fun ds => f ds Kd) KX
theorem PostF.on {H G H' G' : Hp} {Kd : D → Prop} {Q : VK} (h : PostF C H G Kd Q) (s : Stp C H G H' G') : PostF C H' G' Kd Q := fun d q o H2 G2 s2 ok2 hp gp hh sp ob k => h d q o H2 G2 (s.trans ok2 s2) ok2 (by
  cases z : nT H q with
  | none => rfl
  | some u =>
    rw [s.nx q u sp z] at hp
    cases hp) gp hh sp ob k
theorem liftC {n : Nat} {rv : List V → Hp → VK → Prop} {f : List D → (D → Prop) → Prop} (hf : CD C rv f) {σ : L2.St} {H : Hp} {Q : VK} (h : lift C mg E (mCall f r) σ H Q) : tCB rv (liftA C mg E n r) σ H Q := by
  obtain ⟨env, G, Kd, KX, ok, vr, hm, pv, px⟩ := h
  exact ⟨env, G, _, KX, ok, vr, hm, fun ds vs H1 G1 s1 ok1 r1 _ k1 => hf vs ds H1 G1 Kd Q ok1 r1 k1 (pv.on s1), px⟩
theorem liftCF {n : Nat} {rv : List V → Hp → VK → Prop} {f : List D → (D → Prop) → Prop} (hf : CF C rv f) {σ : L2.St} {H : Hp} {Q : VK} (h : liftF C mg E (mCall f r) σ H Q) : tCB rv (liftA C mg E n r) σ H Q := by
  obtain ⟨env, G, Kd, KX, ok, vr, hm, pv, px⟩ := h
  exact ⟨env, G, _, KX, ok, vr, hm, fun ds vs H1 G1 s1 ok1 r1 _ k1 => hf vs ds H1 G1 Kd Q ok1 r1 k1 (pv.on s1), px⟩
theorem me_callB {x : Str} {id : String} {rv : List V → Hp → VK → Prop} {f : List D → (D → Prop) → Prop} (hc : CallR X (.builtin id) rv) (hf : CD C rv f) (hg : Gl X x) (hm : X.mg x = none) (hv : bootBuiltins x = some (.builtin id)) (ha : MA X C E (e :: es) r) (hn : x ≠ "__name__" := by decide) (hdb : (x == ("__debug__" : Str)) = false := by decide)
    (he : starEach (e :: es) X.env = (false, eval e X.env) :: starEach es X.env := by rfl) (hpl : (backTo pos (starEach es X.env)).any (·.1) = false := by rfl) : ME X C E (.Call (.Name x p) (e :: es) [] pos) (mCall f r) := PE.imp (pe_callB hc hg hm hv ha hn hdb he hpl) fun _ _ _ h => liftC hf h
theorem mf_callB {x : Str} {id : String} {rv : List V → Hp → VK → Prop} {f : List D → (D → Prop) → Prop} (hc : CallR X (.builtin id) rv) (hf : CF C rv f) (hg : Gl X x) (hm : X.mg x = none) (hv : bootBuiltins x = some (.builtin id)) (ha : MA X C E (e :: es) r) (hn : x ≠ "__name__" := by decide) (hdb : (x == ("__debug__" : Str)) = false := by decide)
    (he : starEach (e :: es) X.env = (false, eval e X.env) :: starEach es X.env := by rfl) (hpl : (backTo pos (starEach es X.env)).any (·.1) = false := by rfl) : MF X C E (.Call (.Name x p) (e :: es) [] pos) (mCall f r) := PE.imp (pe_callB hc hg hm hv ha hn hdb he hpl) fun _ _ _ h => liftCF hf h
theorem me_callTy {x : Str} {T : String} {rv : List V → Hp → VK → Prop} {f : List D → (D → Prop) → Prop} (hc : CallR X (.type T) rv) (hf : CD C rv f) (hg : Gl X x) (hm : X.mg x = none) (hv : bootBuiltins x = some (.type T)) (ha : MA X C E (e :: es) r) (hn : x ≠ "__name__" := by decide) (hdb : (x == ("__debug__" : Str)) = false := by decide)
    (he : starEach (e :: es) X.env = (false, eval e X.env) :: starEach es X.env := by rfl) (hpl : (backTo pos (starEach es X.env)).any (·.1) = false := by rfl) : ME X C E (.Call (.Name x p) (e :: es) [] pos) (mCall f r) := PE.imp (pe_callTy hc hg hm hv ha hn hdb he hpl) fun _ _ _ h => liftC hf h
theorem mf_callTy {x : Str} {T : String} {rv : List V → Hp → VK → Prop} {f : List D → (D → Prop) → Prop} (hc : CallR X (.type T) rv) (hf : CF C rv f) (hg : Gl X x) (hm : X.mg x = none) (hv : bootBuiltins x = some (.type T)) (ha : MA X C E (e :: es) r) (hn : x ≠ "__name__" := by decide) (hdb : (x == ("__debug__" : Str)) = false := by decide)
    (he : starEach (e :: es) X.env = (false, eval e X.env) :: starEach es X.env := by rfl) (hpl : (backTo pos (starEach es X.env)).any (·.1) = false := by rfl) : MF X C E (.Call (.Name x p) (e :: es) [] pos) (mCall f r) := PE.imp (pe_callTy hc hg hm hv ha hn hdb he hpl) fun _ _ _ h => liftCF hf h
end

/-! ### the built-ins -/
section
variable {X : Cx} {C : C3}
def intsOf : List D → Option (List Int)
  | [] => some []
  | .int i :: r => (intsOf r).map (i :: ·)
  | _ :: _ => none
theorem intsOf_map : ∀ ns : List Int, intsOf (ns.map D.int) = some ns
  | [] => rfl
  | n :: r => by rw [List.map_cons, intsOf, intsOf_map r]; rfl
theorem intsOf_eq : ∀ {ds : List D} {ns : List Int}, intsOf ds = some ns → ds = ns.map D.int
  | [], ns, h => by
    have h : some [] = some ns := h
    cases h
    rfl
  | .int i :: r, ns, h => by
    have h : (intsOf r).map (i :: ·) = some ns := h
    cases q : intsOf r with
    | none => rw [q] at h; cases h
    | some ms =>
      rw [q] at h
      have h : some (i :: ms) = some ns := h
      cases h
      rw [List.map_cons, intsOf_eq q]
  | .non :: _, _, h => by cases h
  | .bl _ :: _, _, h => by cases h
  | .str _ :: _, _, h => by cases h
  | .tup _ :: _, _, h => by cases h
  | .lst _ :: _, _, h => by cases h
  | .dic _ :: _, _, h => by cases h
  | .ref _ :: _, _, h => by cases h
def sortI (ns : List Int) : List Int := ns.mergeSort fun a b => decide (a ≤ b)
theorem sortI_perm (ns : List Int) : (sortI ns).Perm ns := List.mergeSort_perm ns _
theorem sortI_le (ns : List Int) : (sortI ns).Pairwise (· ≤ ·) := by
  have h := List.pairwise_mergeSort (le := fun a b : Int => decide (a ≤ b)) (fun a b c h1 h2 => by
    have h1 := of_decide_eq_true h1
    have h2 := of_decide_eq_true h2
    exact decide_eq_true (by omega)) (fun a b => by
    by_cases h : a ≤ b
    · rw [decide_eq_true h]; rfl
    · rw [decide_eq_true (show b ≤ a by omega), Bool.or_true]) ns
  exact h.imp fun h => of_decide_eq_true h
theorem sortI_same {ns ys : List Int} (p : ys.Perm ns) (s : ys.Pairwise (· ≤ ·)) : ys = sortI ns := PySem.W.ksm_same (p.trans (sortI_perm ns).symm) s (sortI_le ns)
theorem RpK.keys {K : PySem.W.Frag} {G : Hp} : ∀ {kvs : List (Int × D)} {kws : List (Key × V)}, RpK K G kvs kws → kws.map (·.1) = (kvs.map (·.1)).map Sum.inl
  | _, _, .nil => rfl
  | _, _, .cons _ r => by simp only [List.map_cons]; rw [RpK.keys r]
theorem RpK.length {K : PySem.W.Frag} {G : Hp} : ∀ {kvs : List (Int × D)} {kws : List (Key × V)}, RpK K G kvs kws → kvs.length = kws.length
  | _, _, .nil => rfl
  | _, _, .cons _ r => by rw [List.length_cons, List.length_cons, RpK.length r]

def lenD (ds : List D) (K : D → Prop) : Prop := match ds with
  | [.lst xs] => K (.int xs.length)
  | [.tup xs] => K (.int xs.length)
  | [.str x] => x.length ≤ sizeLine ∧ K (.int x.length)
  | [.dic kvs] => K (.int kvs.length)
  | _ => False
theorem call_lenF : CallR X (.builtin "len") (fun xs H Q => ∃ a kvs, xs = [V.ref a] ∧ Rd H a (.dK kvs) ∧ Q (.int kvs.length) H) := by
  intro pins s σ H xs us Q I r h
  obtain ⟨a, kvs, rfl, ha, q⟩ := h
  obtain ⟨u, rfl, ru⟩ := vals1 r
  cases ru
  exact d_len I ha fun t s' I' => ⟨.int kvs.length, H, I', ⟨t, rfl⟩, q⟩
theorem cd_len : CD C (fun xs H Q => (∃ x n, xs = [x] ∧ LenV C.K x H n ∧ Q (.int n) H) ∨ ∃ a kvs, xs = [V.ref a] ∧ Rd H a (.dK kvs) ∧ Q (.int kvs.length) H) lenD := by
  intro vs ds H G Kd Q ok rr h pv
  have sm : ∀ a o, G a = some o → H a = some o := fun a o q => (ok.sub a o q).2
  unfold lenD at h
  split at h
  · cases rr with
    | cons r1 r2 =>
      cases r2
      cases r1 with
      | lst ha ra => exact .inl ⟨_, _, rfl, .inl ⟨_, .inl (.inl (sm _ _ ha)), rfl⟩, by rw [← ra.length]; exact pv _ _ H G Stp.refl ok (.int _) h⟩
  · cases rr with
    | cons r1 r2 =>
      cases r2
      cases r1 with
      | tup ha ra => exact .inl ⟨_, _, rfl, .inr ⟨_, seqT sm ha.sq, rfl⟩, by rw [← ra.length]; exact pv _ _ H G Stp.refl ok (.int _) h⟩
  · cases rr with
    | cons r1 r2 =>
      cases r2
      cases r1
      exact .inl ⟨_, _, rfl, ⟨h.1, rfl⟩, pv _ _ H G Stp.refl ok (.int _) h.2⟩
  · cases rr with
    | cons r1 r2 =>
      cases r2
      cases r1 with
      | dic ha ra => exact .inr ⟨_, _, rfl, .inr ⟨_, sm _ _ ha⟩, by rw [← ra.length]; exact pv _ _ H G Stp.refl ok (.int _) h⟩
  · exact h.elim
@[irreducible] def sortedD (ds : List D) (K : D → Prop) : Prop := match ds with
  | [.lst xs] => (match intsOf xs with
    | some ns => K (.lst ((sortI ns).map D.int))
    | none => False)
  | [.dic kvs] => K (.lst ((sortI (kvs.map (·.1))).map D.int))
  | _ => False
theorem cf_sorted : CF C (fun xs H Q => rSortedI C.K xs H Q ∨ ∃ (a : Addr) (kvs : List (Key × V)) (ks : List Int), xs = [.ref a] ∧ Rd H a (.dK kvs) ∧ kvs.map (·.1) = ks.map Sum.inl ∧
    ∀ (ys : List Int) (p : Addr), ys.Perm ks → ys.Pairwise (· ≤ ·) → H p = none → Q (.ref p) (upd H p (.lst (ys.map V.int)))) sortedD := by
  intro vs ds H G Kd Q ok rr h pv
  have sm : ∀ a o, G a = some o → H a = some o := fun a o q => (ok.sub a o q).2
  have fin : ∀ (ns : List Int), Kd (.lst ((sortI ns).map D.int)) → ∀ (ys : List Int) (p : Addr), ys.Perm ns → ys.Pairwise (· ≤ ·) → H p = none → Q (.ref p) (upd H p (.lst (ys.map V.int))) := fun ns k ys p hp hs hn => by
    rw [sortI_same hp hs]
    obtain ⟨o1, s1, g⟩ := ok.new (o := .lst ((sortI ns).map V.int)) hn
    exact pv _ p _ _ G s1 o1 (nT_none hn) g upd_same (ok.iv.new hn) (.lst (Rps.ofInts _)) k
  unfold sortedD at h
  split at h
  · split at h
    · rename_i ns e
      rw [intsOf_eq e] at rr
      cases rr with
      | cons r1 r2 =>
        cases r2
        cases r1 with
        | lst ha ra =>
          rw [ra.ints] at ha
          exact .inl ⟨_, ns, rfl, .inl (.inl (sm _ _ ha)), fun ys p hp hs hn => fin ns h ys p hp hs hn⟩
    · exact h.elim
  · cases rr with
    | cons r1 r2 =>
      cases r2
      cases r1 with
      | dic ha ra => exact .inr ⟨_, _, _, rfl, .inr ⟨_, sm _ _ ha⟩, ra.keys, fun ys p hp hs hn => fin _ h ys p hp hs hn⟩
  · exact h.elim
/-- list(..) -/
def listD (ds : List D) (K : D → Prop) : Prop := match ds with
  | [.lst xs] => K (.lst xs)
  | [.tup xs] => K (.lst xs)
  | _ => False
theorem cf_list : CF C (fun xs H Q => ∃ p ys, xs = [.ref p] ∧ (SqL C.K H p ys ∨ SqT C.K H p ys) ∧ ∀ l, H l = none → Q (.ref l) (upd H l (.lst ys))) listD := by
  intro vs ds H G Kd Q ok rr h pv
  have sm : ∀ a o, G a = some o → H a = some o := fun a o q => (ok.sub a o q).2
  unfold listD at h
  split at h
  · cases rr with
    | cons r1 r2 =>
      cases r2
      cases r1 with
      | lst ha ra => exact ⟨_, _, rfl, .inl (.inl (.inl (sm _ _ ha))), fun l hn => by
          obtain ⟨o1, s1, g⟩ := ok.new (o := .lst _) hn
          exact pv _ l _ _ G s1 o1 (nT_none hn) g upd_same (ok.iv.new hn) (.lst ra) h⟩
  · cases rr with
    | cons r1 r2 =>
      cases r2
      cases r1 with
      | tup ha ra => exact ⟨_, _, rfl, .inr (seqT sm ha.sq), fun l hn => by
          obtain ⟨o1, s1, g⟩ := ok.new (o := .lst _) hn
          exact pv _ l _ _ G s1 o1 (nT_none hn) g upd_same (ok.iv.new hn) (.lst ra) h⟩
  · exact h.elim
/-- tuple(list) -/
def tupleD (ds : List D) (K : D → Prop) : Prop := match ds with
  | [.lst xs] => K (.tup xs)
  | [.tup xs] => K (.tup xs)
  | _ => False
theorem cd_tuple : CD C (rTupleN C.K) tupleD := by
  intro vs ds H G Kd Q ok rr h pv
  have sm : ∀ a o, G a = some o → H a = some o := fun a o q => (ok.sub a o q).2
  unfold tupleD at h
  split at h
  · cases rr with
    | cons r1 r2 =>
      cases r2
      cases r1 with
      | lst ha ra => exact ⟨_, _, rfl, .inl ⟨.inl (.inl (sm _ _ ha)), fun l ob hn c1 c2 => by
          obtain ⟨o1, s1⟩ := ok.lay (o := .frz ob (.tup _)) hn
          exact pv _ _ _ _ s1 o1 (.tup (.inl ⟨ob, upd_same, c1, c2⟩) (ra.mono s1.ge)) h⟩⟩
  · cases rr with
    | cons r1 r2 =>
      cases r2
      cases r1 with
      | tup ha ra => exact ⟨_, _, rfl, .inr ⟨seqT sm ha.sq, pv _ _ H G Stp.refl ok (.tup ha ra) h⟩⟩
  · exact h.elim
/-- min, max of two; of a list of whole numbers -/
@[irreducible] def mm2 (p : Int → Int → Int) (ds : List D) (K : D → Prop) : Prop := match ds with
  | [.int i, .int j] => K (.int (p i j))
  | _ => False
theorem mm2_go {p : Int → Int → Int} {i j v : Int} {K : D → Prop} (h : p i j = v) (k : K (.int v)) : mm2 p [.int i, .int j] K := by
  unfold mm2
  show K (.int (p i j))
  rw [h]
  exact k
theorem cd_mm2 (p : Int → Int → Int) : CD C (fun xs H Q => ∃ i j, xs = [.int i, .int j] ∧ Q (.int (p i j)) H) (mm2 p) := by
  intro vs ds H G Kd Q ok rr h pv
  unfold mm2 at h
  split at h
  · cases rr with
    | cons r1 r2 =>
      cases r2 with
      | cons r2 r3 =>
        cases r3
        cases r1
        cases r2
        exact ⟨_, _, rfl, pv _ _ H G Stp.refl ok (.int _) h⟩
  · exact h.elim
def minI : Int → List Int → Int
  | a, [] => a
  | a, b :: r => minI (if b < a then b else a) r
theorem minI_mem : ∀ (r : List Int) (a : Int), minI a r ∈ a :: r
  | [], a => by simp [minI]
  | b :: r, a => by
    unfold minI
    have h := minI_mem r (if b < a then b else a)
    rcases List.mem_cons.mp h with e | e
    · rw [e]
      split
      · simp
      · simp
    · exact List.mem_cons_of_mem _ (List.mem_cons_of_mem _ e)
theorem minI_le : ∀ (r : List Int) (a : Int), minI a r ≤ a ∧ ∀ y ∈ r, minI a r ≤ y
  | [], a => by simp [minI]
  | b :: r, a => by
    have q := minI_le r (if b < a then b else a)
    unfold minI
    by_cases c : b < a
    · rw [if_pos c] at q ⊢
      obtain ⟨h1, h2⟩ := q
      refine ⟨by omega, fun y hy => ?_⟩
      rcases List.mem_cons.mp hy with e | e
      · subst e
        exact h1
      · exact h2 y e
    · rw [if_neg c] at q ⊢
      obtain ⟨h1, h2⟩ := q
      refine ⟨h1, fun y hy => ?_⟩
      rcases List.mem_cons.mp hy with e | e
      · subst e
        omega
      · exact h2 y e
@[irreducible] def minL (ds : List D) (K : D → Prop) : Prop := match ds with
  | [.lst xs] => (match intsOf xs with
    | some (n :: ns) => K (.int (minI n ns))
    | _ => False)
  | _ => False
theorem cd_minL : CD C (rMin C.K) minL := by
  intro vs ds H G Kd Q ok rr h pv
  have sm : ∀ a o, G a = some o → H a = some o := fun a o q => (ok.sub a o q).2
  unfold minL at h
  split at h
  · split at h
    · rename_i n ns e
      rw [intsOf_eq e] at rr
      cases rr with
      | cons r1 r2 =>
        cases r2
        cases r1 with
        | lst ha ra =>
          rw [ra.ints] at ha
          refine ⟨_, n :: ns, rfl, .inl (.inl (sm _ _ ha)), by simp, fun m hm hle => ?_⟩
          have e1 := minI_mem ns n
          obtain ⟨e2, e3⟩ := minI_le ns n
          have e4 := hle _ e1
          have e5 : minI n ns ≤ m := by
            rcases List.mem_cons.mp hm with z | z
            · rw [z]; exact e2
            · exact e3 m z
          have e6 : m = minI n ns := by omega
          rw [e6]
          exact pv _ _ H G Stp.refl ok (.int _) h
    · exact h.elim
  · exact h.elim
/-- int(..), str(..) -/
def intD (ds : List D) (K : D → Prop) : Prop := match ds with
  | [.int i] => K (.int i)
  | [.bl b] => K (.int (if b then 1 else 0))
  | [.str x] => x.length ≤ 640 ∧ (match PySem.intText? x with | some n => K (.int n) | none => False)
  | _ => False
theorem cd_int : CD C (fun xs H Q => ((∃ i, xs = [.int i] ∧ Q (.int i) H) ∨ ∃ k, xs = [.bl k] ∧ Q (.int (if k then 1 else 0)) H) ∨ ∃ a n, xs = [V.str a] ∧ PySem.intText? a = some n ∧ a.length ≤ 640 ∧ Q (.int n) H) intD := by
  intro vs ds H G Kd Q ok rr h pv
  unfold intD at h
  split at h
  · cases rr with
    | cons r1 r2 =>
      cases r2
      cases r1
      exact .inl (.inl ⟨_, rfl, pv _ _ H G Stp.refl ok (.int _) h⟩)
  · cases rr with
    | cons r1 r2 =>
      cases r2
      cases r1
      exact .inl (.inr ⟨_, rfl, pv _ _ H G Stp.refl ok (.int _) h⟩)
  · cases rr with
    | cons r1 r2 =>
      cases r2
      cases r1
      obtain ⟨h1, h2⟩ := h
      split at h2
      · rename_i n e
        exact .inr ⟨_, n, rfl, e, h1, pv _ _ H G Stp.refl ok (.int _) h2⟩
      · exact h2.elim
  · exact h.elim
def strD (ds : List D) (K : D → Prop) : Prop := match ds with
  | [.int i] => i.natAbs.log2 < 1920 ∧ K (.str (toString i))
  | _ => False
theorem cd_str : CD C (fun xs H Q => ∃ i, xs = [.int i] ∧ i.natAbs.log2 < 1920 ∧ Q (.str (toString i)) H) strD := by
  intro vs ds H G Kd Q ok rr h pv
  unfold strD at h
  split at h
  · cases rr with
    | cons r1 r2 =>
      cases r2
      cases r1
      exact ⟨_, rfl, h.1, pv _ _ H G Stp.refl ok (.str _) h.2⟩
  · exact h.elim
/-- dict(a list of pairs) -/
def putD (kvs : List (Int × D)) (k : Int) (d : D) : List (Int × D) := if kvs.any (fun p => decide (p.1 = k)) then kvs.map (fun p => if p.1 = k then (p.1, d) else p) else kvs ++ [(k, d)]
def mergeD (kvs more : List (Int × D)) : List (Int × D) := more.foldl (fun acc p => putD acc p.1 p.2) kvs
def pairsOf : List D → Option (List (Int × D))
  | [] => some []
  | .tup [.int k, d] :: r => (pairsOf r).map ((k, d) :: ·)
  | _ :: _ => none
end
end L3
/-! L3e: dicts made, subscripts, slices, displays, get, index -/
namespace L3
open PySem PySem.Spec PyProof.Rows L2
section
variable {X : Cx} {C : C3} {E : XK} {e a b c : Expr} {es : List Expr} {m ma mb mc : MEt} {r : MAt} {pos p : Pos} {mg : Str → Option Value}
/-! ### a new dict, frozen -/
theorem pe_frz {t : TE} (h : PE X e t) : PE X e (fun σ H Q => t σ H fun v H' => ∃ (p : Addr) (u : HO), v = .ref p ∧ H' p = some u ∧ Mut (some u) ∧ ∀ od, Q v (upd H' p (.frz od u))) := by
  refine ⟨fun pins s σ H Q I hw => ?_⟩
  refine thn (h.run pins s σ H _ I hw) fun v s1 ⟨x, H1, I1, rx, p, u, ex, hp, mu, q⟩ => ?_
  obtain ⟨od, I2⟩ := I1.lock hp mu
  exact ⟨x, _, I2, rx, q od⟩
theorem RpK.put {K : PySem.W.Frag} {G : Hp} {k : Int} {d : D} {v : V} (h : Rp K G d v) {kvs : List (Int × D)} {kws : List (Key × V)} (r : RpK K G kvs kws) : RpK K G (putD kvs k d) (putK kws (Sum.inl k) v) := by
  have e1 : (kvs.any fun p => decide (p.1 = k)) = kws.any fun p => decide (p.1 = Sum.inl k) := by
    have q : ∀ {xs : List (Int × D)} {ys : List (Key × V)}, RpK K G xs ys → (xs.any fun p => decide (p.1 = k)) = ys.any fun p => decide (p.1 = Sum.inl k) := by
      intro xs
      induction xs with
      | nil => intro ys q; cases q; rfl
      | cons x xs ih =>
        intro ys q
        cases q with
        | cons q1 q2 =>
          rename_i j d v r'
          rw [List.any_cons, List.any_cons, ih q2]
          by_cases e : j = k
          · subst e; simp
          · rw [decide_eq_false (by exact e), decide_eq_false (fun z => e (Sum.inl.inj z))]
    exact q r
  have e2 : RpK K G (kvs.map fun p => if p.1 = k then (p.1, d) else p) (kws.map fun p => if p.1 = Sum.inl k then (p.1, v) else p) := by
    have q : ∀ {xs : List (Int × D)} {ys : List (Key × V)}, RpK K G xs ys → RpK K G (xs.map fun p => if p.1 = k then (p.1, d) else p) (ys.map fun p => if p.1 = Sum.inl k then (p.1, v) else p) := by
      intro xs
      induction xs with
      | nil => intro ys q; cases q; exact .nil
      | cons x xs ih =>
        intro ys q
        cases q with
        | cons q1 q2 =>
          rename_i j d2 v2 r'
          rw [List.map_cons, List.map_cons]
          by_cases e : j = k
          · subst e
            rw [if_pos rfl, if_pos rfl]
            exact .cons h (ih q2)
          · rw [if_neg (by exact e), if_neg (fun z => e (Sum.inl.inj z))]
            exact .cons q1 (ih q2)
    exact q r
  have app : ∀ {xs : List (Int × D)} {ys : List (Key × V)}, RpK K G xs ys → RpK K G (xs ++ [(k, d)]) (ys ++ [(Sum.inl k, v)]) := by
    intro xs
    induction xs with
    | nil => intro ys q; cases q; exact .cons h .nil
    | cons x xs ih => intro ys q; cases q with | cons q1 q2 => exact .cons q1 (ih q2)
  unfold putD putK
  rw [e1]
  split
  · exact e2
  · exact app r
theorem RpK.merge {K : PySem.W.Frag} {G : Hp} : ∀ {more : List (Int × D)} {more' : List (Key × V)} {kvs : List (Int × D)} {kws : List (Key × V)}, RpK K G more more' → RpK K G kvs kws → RpK K G (mergeD kvs more) (mergeK kws more') := by
  intro more
  induction more with
  | nil => intro more' kvs kws q r; cases q; exact r
  | cons x xs ih =>
    intro more' kvs kws q r
    cases q with
    | cons q1 q2 =>
      rename_i k d v r'
      have z := ih q2 (r.put (k := k) q1)
      exact z
theorem pairsOf_eq {K : PySem.W.Frag} {G : Hp} : ∀ {ds : List D} {kvs : List (Int × D)} {vs : List V}, pairsOf ds = some kvs → Rps K G ds vs → ∃ (ps : List Addr) (kws : List (Key × V)), vs = ps.map V.ref ∧ Paired (fun p kv => SqT K G p [kV kv.1, kv.2]) ps kws ∧ RpK K G kvs kws
  | [], _, _, h, .nil => by
    have h : some [] = some _ := h
    cases h
    exact ⟨[], [], rfl, .nil, .nil⟩
  | d :: ds, kvs, _, h, .cons h1 h2 => by
    unfold pairsOf at h
    split at h
    · rename_i h'; cases h'
    · rename_i k d' r e
      cases e
      cases q : pairsOf ds with
      | none => rw [q] at h; cases h
      | some ms =>
        rw [q] at h
        have h : some ((k, d') :: ms) = some kvs := h
        cases h
        obtain ⟨ps, kws, e1, e2, e3⟩ := pairsOf_eq q h2
        cases h1 with
        | tup ha ra =>
          cases ra with
          | cons r1 r2 =>
            cases r2 with
            | cons r3 r4 =>
              cases r4
              cases r1
              exact ⟨_ :: ps, (Sum.inl k, _) :: kws, by rw [List.map_cons, e1], .cons ha.sq e2, .cons r3 e3⟩
    · cases h
@[irreducible] def dictD (ds : List D) (K : D → Prop) : Prop := match ds with
  | [.lst xs] => (match pairsOf xs with
    | some kvs => K (.dic (mergeD [] kvs))
    | none => False)
  | _ => False
theorem Paired.imp' {α β : Type} {F F' : α → β → Prop} (h : ∀ a b, F a b → F' a b) : ∀ {l : List α} {l' : List β}, Paired F l l' → Paired F' l l'
  | _, _, .nil => .nil
  | _, _, .cons a r => .cons (h _ _ a) (Paired.imp' h r)
theorem lift_frz {C : C3} {H G : Hp} {Kd : D → Prop} {Q : VK} {p : Addr} {kvs : List (Int × D)} {kws : List (Key × V)} (ok : Ok3 C H G) (pv : PostV C H G Kd Q) (hp : H p = none) (r : RpK C.K G kvs kws) (k : Kd (.dic kvs)) :
    ∃ (p' : Addr) (u : HO), V.ref p = .ref p' ∧ (upd H p (.dK kws)) p' = some u ∧ Mut (some u) ∧ ∀ od, Q (.ref p) (upd (upd H p (.dK kws)) p' (.frz od u)) := by
  refine ⟨p, _, rfl, upd_same, trivial, fun od => ?_⟩
  rw [upd_upd]
  obtain ⟨o1, s1⟩ := ok.lay (o := .frz od (.dK kws)) hp
  exact pv _ _ _ _ s1 o1 (.dic upd_same (r.mono s1.ge)) k
theorem me_dict (hc : X.calm = true) (hK : X.K = C.K) (hg : Gl X "dict") (hm : X.mg "dict" = none) (ha : MA X C E (e :: es) r)
    (he : starEach (e :: es) X.env = (false, eval e X.env) :: starEach es X.env := by rfl) (hpl : (backTo pos (starEach es X.env)).any (·.1) = false := by rfl) : ME X C E (.Call (.Name "dict" p) (e :: es) [] pos) (mCall dictD r) :=
  PE.imp (pe_frz (pe_callTy (call_dictP hc) hg hm (by decide +kernel) ha (by decide) (by decide) he hpl)) fun σ H Q ⟨env, G, Kd, KX, ok, vr, hm, pv, px⟩ => by
    refine ⟨env, G, _, KX, ok, vr, hm, fun ds vs H1 G1 s1 ok1 r1 _ k1 => ?_, px⟩
    have k1 : dictD ds Kd := k1
    unfold dictD at k1
    split at k1
    · split at k1
      · rename_i kvs q
        cases r1 with
        | cons r1 r2 =>
          cases r2
          cases r1 with
          | lst hl rl =>
            have sm : ∀ a o, G1 a = some o → H1 a = some o := fun a o q => (ok1.sub a o q).2
            obtain ⟨ps, kws, e1, e2, e3⟩ := pairsOf_eq q rl
            subst e1
            exact ⟨_, ps, kws, rfl, .inl (.inl (by rw [hK] at *; exact sm _ _ hl)), Paired.imp' (fun a b z => by rw [hK]; exact seqT sm z) e2, fun q hq => lift_frz ok1 (pv.on s1) hq (RpK.merge e3 .nil) k1⟩
      · exact k1.elim
    · exact k1.elim

/-! ### displays -/
def mTup (r : MAt) : MEt := fun env Kd KX => r env (fun ds => ds.length ≤ sizeLine ∧ Kd (.tup ds)) KX
def mLst (r : MAt) : MEt := fun env Kd KX => r env (fun ds => ds.length ≤ sizeLine ∧ Kd (.lst ds)) KX
theorem me_tup {x1} (h : MA X C E es r) : ME X C E (.Tuple es x1 pos) (mTup r) := PE.imp (pe_tupN h) fun σ H Q ⟨env, G, Kd, KX, ok, vr, hm, pv, px⟩ =>
  ⟨env, G, _, KX, ok, vr, hm, fun ds vs H1 G1 s1 ok1 r1 _ k1 => ⟨by rw [← r1.length]; exact k1.1, fun q ob hq c1 c2 => by
    obtain ⟨o2, s2⟩ := ok1.lay (o := .frz ob (.tup vs)) hq
    exact pv _ _ _ _ (s1.trans o2 s2) o2 (.tup (.inl ⟨ob, upd_same, c1, c2⟩) (r1.mono s2.ge)) k1.2⟩, px⟩
theorem mf_lst (h : MA X C E es r) : MF X C E (.List es pos) (mLst r) := PE.imp (pe_lst h) fun σ H Q ⟨env, G, Kd, KX, ok, vr, hm, pv, px⟩ =>
  ⟨env, G, _, KX, ok, vr, hm, fun ds vs H1 G1 s1 ok1 r1 _ k1 => ⟨by rw [← r1.length]; exact k1.1, fun q hq => by
    obtain ⟨o2, s2, g⟩ := ok1.new (o := .lst vs) hq
    exact pv.on s1 _ q _ _ G1 s2 o2 (nT_none hq) g upd_same (ok1.iv.new hq) (.lst r1) k1.2⟩, px⟩

/-! ### subscripts -/
@[irreducible] def ixD (d e : D) (K : D → Prop) : Prop := match d, e with
  | .lst xs, .int i => (match atI xs i with | some d => K d | none => False)
  | .tup xs, .int i => (match atI xs i with | some d => K d | none => False)
  | .str z, .int i => z.length ≤ sizeLine ∧ (match atI z.cps.toList i with | some c => K (.str ⟨#[c]⟩) | none => False)
  | _, _ => False
theorem Rps.atI {K : PySem.W.Frag} {G : Hp} {ds : List D} {vs : List V} {i : Int} {d : D} (r : Rps K G ds vs) (h : L2.atI ds i = some d) : ∃ v, L2.atI vs i = some v ∧ Rp K G d v := by
  unfold L2.atI at h ⊢
  rw [← r.length]
  cases q : ixN ds.length i with
  | none => rw [q] at h; cases h
  | some j =>
    rw [q] at h
    exact r.get h
theorem od_ix (hK : X.K = C.K) : OpD C (rIx X.K) ixD := by
  intro x y d e H G Kd Q ok r1 r2 h pv
  have sm : ∀ a o, G a = some o → H a = some o := fun a o q => (ok.sub a o q).2
  unfold ixD at h
  split at h
  · split at h
    · rename_i d q
      cases r1 with
      | lst ha ra =>
        cases r2
        obtain ⟨v, e1, e2⟩ := ra.atI q
        exact .inl ⟨_, _, _, v, rfl, rfl, .inl (.inl (sm _ _ ha)), e1, pv _ _ H G Stp.refl ok e2 h⟩
    · exact h.elim
  · split at h
    · rename_i d q
      cases r1 with
      | tup ha ra =>
        cases r2
        obtain ⟨v, e1, e2⟩ := ra.atI q
        exact .inr (.inl ⟨_, _, _, v, rfl, rfl, by rw [hK]; exact seqT sm ha.sq, e1, pv _ _ H G Stp.refl ok e2 h⟩)
    · exact h.elim
  · obtain ⟨hz, h⟩ := h
    split at h
    · rename_i c q
      cases r1
      cases r2
      exact .inr (.inr ⟨_, _, c, rfl, rfl, hz, q, pv _ _ H G Stp.refl ok (.str _) h⟩)
    · exact h.elim
  · exact h.elim
theorem me_ix (hK : X.K = C.K) (ha : ME X C E a ma) (hb : ME X C E b mb) (hs : PlainIx b := by exact (fun _ _ => rfl)) : ME X C E (.Subscript a b pos) (m2 ixD ma mb) := PE.imp (pe_ix ix_seq ha hb hs) fun _ _ _ h => lift2 (od_ix hK) h
/-- d[k] -/
@[irreducible] def getK (d e : D) (K : D → Prop) : Prop := match d, e with
  | .dic kvs, .int k => (match valD kvs k with | some d => K d | none => False)
  | _, _ => False
theorem getK_inv {d e : D} {K : D → Prop} (h : getK d e K) : ∃ kvs k d', d = .dic kvs ∧ e = .int k ∧ valD kvs k = some d' ∧ K d' := by
  unfold getK at h
  cases d <;> first | exact h.elim | skip
  cases e <;> first | exact h.elim | skip
  rename_i kvs k
  dsimp only at h
  cases q : valD kvs k with
  | none => rw [q] at h; exact h.elim
  | some d' => rw [q] at h; exact ⟨kvs, k, d', rfl, rfl, q, h⟩
theorem me_getK (hu : X.A.units + 1 < cLine) (ha : ME X C E a ma) (hb : ME X C E b mb) (hs : NoSl b := by exact (fun _ _ => rfl)) : ME X C E (.Subscript a b pos) (m2 getK ma mb) := PE.imp (pe_dget hu ha hb hs) fun σ H Q ⟨env, G, Kd, KX, ok, vr, hm, pv, px⟩ => by
  refine ⟨env, G, _, KX, ok, vr, hm, fun d x H1 G1 s1 ok1 r1 k1 => ⟨env, G1, _, KX, ok1, vr.mono s1.ge, k1, fun e y H2 G2 s2 ok2 r2 k2 => ?_, px.on ok s1⟩, px⟩
  obtain ⟨kvs, k, d', rfl, rfl, q, k2⟩ := getK_inv k2
  cases r2
  obtain ⟨p, e1, _, h⟩ := rp_dget (H := H2) k (r1.mono s2.ge) (fun a o q => (ok2.sub a o q).2)
  subst e1
  rcases h with ⟨e1, _⟩ | ⟨d2, v, e1, e2, e3⟩
  · rw [e1] at q; cases q
  · rw [e1] at q
    cases q
    exact ⟨p, v, rfl, e2, pv _ _ _ _ (s1.trans ok2 s2) ok2 e3 k2⟩
/-- d.get(k), d.get(k, x) -/
@[irreducible] def get1 (d e : D) (K : D → Prop) : Prop := match d, e with
  | .dic kvs, .int k => K ((valD kvs k).getD .non)
  | _, _ => False
def mGet2 (ma mb mc : MEt) : MEt := fun env Kd KX => ma env (fun d => mb env (fun e => mc env (fun f => match d, e with
  | .dic kvs, .int k => Kd ((valD kvs k).getD f)
  | _, _ => False) KX) KX) KX
theorem me_get1 (hu : X.A.units + 1 < cLine) {apos cpos : Pos} (ha : ME X C E a ma) (hb : ME X C E b mb) (mm : M1 X a "get" apos b cpos := by exact ⟨rfl, rfl, rfl, rfl⟩) : ME X C E (.Call (.Attribute a "get" apos) [b] [] cpos) (fun env Kd KX => ma env (fun d => (∃ kvs, d = .dic kvs) ∧ mb env (fun e => get1 d e Kd) KX) KX) :=
  PE.imp (pe_dget1 hu ha hb mm) fun σ H Q ⟨env, G, Kd, KX, ok, vr, hm, pv, px⟩ => by
  refine ⟨env, G, _, KX, ok, vr, hm, fun d x H1 G1 s1 ok1 r1 k1 => ?_, px⟩
  obtain ⟨⟨kvs, ed⟩, k1⟩ := k1
  subst ed
  have r0 := r1
  cases r1 with
  | dic hd rd =>
    refine ⟨_, rfl, .inl ⟨_, .inr ⟨_, (ok1.sub _ _ hd).2⟩⟩, env, G1, _, KX, ok1, vr.mono s1.ge, k1, fun e y H2 G2 s2 ok2 r2 k2 => ?_, px.on ok s1⟩
    obtain ⟨k, rfl, k3⟩ : ∃ k, e = .int k ∧ Kd ((valD kvs k).getD .non) := by
      unfold get1 at k2
      cases e <;> first | exact (show False from k2).elim | exact ⟨_, rfl, k2⟩
    cases r2
    obtain ⟨p, e1, _, h⟩ := rp_dget (H := H2) k (r0.mono s2.ge) (fun a o q => (ok2.sub a o q).2)
    cases e1
    rcases h with ⟨e1, e2⟩ | ⟨d2, v, e1, e2, e3⟩
    · have k3 : Kd ((valD kvs k).getD .non) := k3
      rw [e1] at k3
      exact ⟨none, e2, pv _ _ _ _ (s1.trans ok2 s2) ok2 .non k3⟩
    · have k3 : Kd ((valD kvs k).getD .non) := k3
      rw [e1] at k3
      exact ⟨some v, e2, pv _ _ _ _ (s1.trans ok2 s2) ok2 e3 k3⟩
def mGet1 (ma mb : MEt) : MEt := fun env Kd KX => ma env (fun d => (∃ kvs, d = .dic kvs) ∧ mb env (fun e => get1 d e Kd) KX) KX
def mGetD (ma mb mc : MEt) : MEt := fun env Kd KX => ma env (fun d => (∃ kvs, d = .dic kvs) ∧ mb env (fun e => mc env (fun f => match d, e with
  | .dic kvs, .int k => Kd ((valD kvs k).getD f)
  | _, _ => False) KX) KX) KX
theorem me_getD (hu : X.A.units + 1 < cLine) {apos cpos : Pos} (ha : ME X C E a ma) (hb : ME X C E b mb) (hc : ME X C E c mc) (mm : M2 X a "get" apos b c cpos := by exact ⟨rfl, rfl, rfl, rfl⟩) : ME X C E (.Call (.Attribute a "get" apos) [b, c] [] cpos) (mGetD ma mb mc) :=
  PE.imp (pe_dget2 hu ha hb hc mm) fun σ H Q ⟨env, G, Kd, KX, ok, vr, hm, pv, px⟩ => by
  refine ⟨env, G, _, KX, ok, vr, hm, fun d x H1 G1 s1 ok1 r1 k1 => ?_, px⟩
  obtain ⟨⟨kvs, ed⟩, k1⟩ := k1
  subst ed
  have r0 := r1
  cases r1 with
  | dic hd rd =>
    refine ⟨_, rfl, .inl ⟨_, .inr ⟨_, (ok1.sub _ _ hd).2⟩⟩, env, G1, _, KX, ok1, vr.mono s1.ge, k1, fun e y H2 G2 s2 ok2 r2 k2 =>
      ⟨env, G2, _, KX, ok2, vr.mono (s1.ge.trans s2.ge), k2, fun f z H3 G3 s3 ok3 r3 k3 => ?_, px.on ok (s1.trans ok2 s2)⟩, px.on ok s1⟩
    obtain ⟨k, rfl, k3⟩ : ∃ k, e = .int k ∧ Kd ((valD kvs k).getD f) := by
      cases e <;> first | exact (show False from k3).elim | exact ⟨_, rfl, k3⟩
    cases r2
    have s13 := s1.trans ok3 (s2.trans ok3 s3)
    obtain ⟨p, e1, _, h⟩ := rp_dget (H := H3) k (r0.mono (s2.ge.trans s3.ge)) (fun a o q => (ok3.sub a o q).2)
    cases e1
    rcases h with ⟨e1, e2⟩ | ⟨d2, v, e1, e2, e3⟩
    · have k3 : Kd ((valD kvs k).getD f) := k3
      rw [e1] at k3
      exact ⟨none, e2, pv _ _ _ _ s13 ok3 r3 k3⟩
    · have k3 : Kd ((valD kvs k).getD f) := k3
      rw [e1] at k3
      exact ⟨some v, e2, pv _ _ _ _ s13 ok3 e3 k3⟩

/-! ### slices -/
abbrev MOt := EnvE → (Option Int → Prop) → (Exn → Prop) → Prop
def liftO (C : C3) (mg : Str → Option Value) (E : XK) (m : MOt) : TO := fun σ H Q => ∃ env G Ko KX, Ok3 C H G ∧ VR C.K G env σ ∧ m env Ko KX ∧ (∀ o H' G', Stp C H G H' G' → Ok3 C H' G' → Ko o → Q o H') ∧ PostX C mg H G KX E
abbrev MO (X : Cx) (C : C3) (E : XK) (e : Option Expr) (m : MOt) : Prop := PO X e (liftO C X.mg E m)
theorem PO.imp {X : Cx} {e : Option Expr} {t t' : TO} (h : PO X e t) (q : ∀ σ H Q, t' σ H Q → t σ H Q) : PO X e t' := ⟨fun pins s σ H Q I w => h.run pins s σ H Q I (q σ H Q w)⟩
def oNone : MOt := fun _ Ko _ => Ko none
def oSome (m : MEt) : MOt := fun env Ko KX => m env (fun d => match d with | .int i => Ko (some i) | _ => False) KX
theorem mo_none : MO X C E none oNone := PO.imp po_none fun σ H Q ⟨env, G, Ko, KX, ok, vr, hm, pv, px⟩ => pv none H G Stp.refl ok hm
theorem mo_some (h : ME X C E e m) : MO X C E (some e) (oSome m) := PO.imp (po_some h) fun σ H Q ⟨env, G, Ko, KX, ok, vr, hm, pv, px⟩ =>
  ⟨env, G, _, KX, ok, vr, hm, fun d v H1 G1 s1 ok1 r1 k1 => by
    cases r1 <;> first | exact k1.elim | exact ⟨_, rfl, pv _ _ _ s1 ok1 k1⟩, px⟩
def cutD {α : Type} (xs : List α) (lo hi : Option Int) : List α := (xs.drop (HT.sIx xs.length 0 lo)).take (HT.sIx xs.length xs.length hi - HT.sIx xs.length 0 lo)
theorem Rps.cut {K : PySem.W.Frag} {G : Hp} {ds : List D} {vs : List V} (r : Rps K G ds vs) (lo hi : Option Int) : Rps K G (cutD ds lo hi) (cutV vs lo hi) := by
  unfold cutD cutV
  rw [← r.length]
  exact (r.drop _).take _
def slD (d : D) (lo hi : Option Int) (K : D → Prop) : Prop := match d with
  | .lst xs => K (.lst (cutD xs lo hi))
  | .tup xs => K (.tup (cutD xs lo hi))
  | _ => False
def slL (d : D) (lo hi : Option Int) (K : D → Prop) : Prop := match d with
  | .lst xs => K (.lst (cutD xs lo hi))
  | _ => False
def mSl (f : D → Option Int → Option Int → (D → Prop) → Prop) (ma : MEt) (ml mh : MOt) : MEt := fun env Kd KX => ma env (fun d => ml env (fun lo => mh env (fun hi => f d lo hi Kd) KX) KX) KX
theorem me_sl (hK : X.K = C.K) {lo hi : Option Expr} {p2 : Pos} {ml mh : MOt} (ha : ME X C E a ma) (hl : MO X C E lo ml) (hh : MO X C E hi mh) : ME X C E (.Subscript a (.Slice lo hi none p2) pos) (mSl slD ma ml mh) :=
  PE.imp (pe_slice (sl_list.or sl_tupN) ha hl hh) fun σ H Q ⟨env, G, Kd, KX, ok, vr, hm, pv, px⟩ => by
  refine ⟨env, G, _, KX, ok, vr, hm, fun d x H1 G1 s1 ok1 r1 k1 => ⟨env, G1, _, KX, ok1, vr.mono s1.ge, k1, fun lo H2 G2 s2 ok2 k2 => ⟨env, G2, _, KX, ok2, vr.mono (s1.ge.trans s2.ge), k2, fun hi H3 G3 s3 ok3 k3 => ?_, px.on ok (s1.trans ok2 s2)⟩, px.on ok s1⟩, px⟩
  have sm : ∀ a o, G3 a = some o → H3 a = some o := fun a o q => (ok3.sub a o q).2
  have s13 := s1.trans ok3 (s2.trans ok3 s3)
  have k3 : slD d lo hi Kd := k3
  unfold slD at k3
  split at k3
  · cases r1.mono (s2.ge.trans s3.ge) with
    | lst hd rd =>
      refine .inl ⟨_, _, rfl, .inl (.inl (sm _ _ hd)), fun q hq => ?_⟩
      obtain ⟨o4, s4⟩ := ok3.lay (o := .lst _) hq
      exact pv _ _ _ _ (s13.trans o4 s4) o4 (.lst upd_same ((rd.cut lo hi).mono s4.ge)) k3
  · cases r1.mono (s2.ge.trans s3.ge) with
    | tup hd rd =>
      have rc := rd.cut lo hi
      rename_i xs a vs
      refine .inr ⟨_, vs, rfl, by rw [hK]; exact seqT sm hd.sq, fun w => ?_, fun _ q ob hq c1 c2 => ?_⟩
      · have e : cutV vs lo hi = vs := by
          unfold cutV
          rw [w.1, w.2, List.drop_zero, Nat.sub_zero, List.take_length]
        rw [e] at rc
        exact pv _ _ _ _ s13 ok3 (.tup hd rc) k3
      · obtain ⟨o4, s4⟩ := ok3.lay (o := .frz ob (.tup _)) hq
        exact pv _ _ _ _ (s13.trans o4 s4) o4 (.tup (.inl ⟨ob, upd_same, c1, c2⟩) (rc.mono s4.ge)) k3
  · exact k3.elim
theorem mf_sl {lo hi : Option Expr} {p2 : Pos} {ml mh : MOt} (ha : ME X C E a ma) (hl : MO X C E lo ml) (hh : MO X C E hi mh) : MF X C E (.Subscript a (.Slice lo hi none p2) pos) (mSl slL ma ml mh) :=
  PE.imp (pe_slice sl_list ha hl hh) fun σ H Q ⟨env, G, Kd, KX, ok, vr, hm, pv, px⟩ => by
  refine ⟨env, G, _, KX, ok, vr, hm, fun d x H1 G1 s1 ok1 r1 k1 => ⟨env, G1, _, KX, ok1, vr.mono s1.ge, k1, fun lo H2 G2 s2 ok2 k2 => ⟨env, G2, _, KX, ok2, vr.mono (s1.ge.trans s2.ge), k2, fun hi H3 G3 s3 ok3 k3 => ?_, px.on ok (s1.trans ok2 s2)⟩, px.on ok s1⟩, px⟩
  have sm : ∀ a o, G3 a = some o → H3 a = some o := fun a o q => (ok3.sub a o q).2
  have s13 := s1.trans ok3 (s2.trans ok3 s3)
  have k3 : slL d lo hi Kd := k3
  unfold slL at k3
  split at k3
  · cases r1.mono (s2.ge.trans s3.ge) with
    | lst hd rd =>
      refine ⟨_, _, rfl, .inl (.inl (sm _ _ hd)), fun q hq => ?_⟩
      obtain ⟨o4, s4, g⟩ := ok3.new (o := .lst _) hq
      exact pv.on s13 _ q _ _ G3 s4 o4 (nT_none hq) g upd_same (ok3.iv.new hq) (.lst (rd.cut lo hi)) k3
  · exact k3.elim
end
end L3
/-! L3f: what is walked; targets; comprehensions -/
namespace L3
open PySem PySem.Spec PyProof.Rows L2

/-! ### what is walked -/
structure Iter3 (C : C3) (J : It) (G0 : Hp) (ds : List D) : Prop where
  stop : ∀ (i : Nat) (H G : Hp), ds.length ≤ i → Same G0 G → Ok3 C H G → J.stop i H
  go : ∀ (i : Nat) (d : D) (H G : Hp), ds[i]? = some d → Same G0 G → Ok3 C H G → J.go i H ∧ ∀ x H', J.yld i H x H' → ∃ G', Stp C H G H' G' ∧ Ok3 C H' G' ∧ Rp C.K G' d x
abbrev MIt := EnvE → (List D → Prop) → (Exn → Prop) → Prop
def liftI (C : C3) (mg : Str → Option Value) (E : XK) (m : MIt) : TI := fun σ H R => ∃ env G Kl KX, Ok3 C H G ∧ VR C.K G env σ ∧ m env Kl KX ∧ (∀ ds J H' G', Stp C H G H' G' → Ok3 C H' G' → Iter3 C J G' ds → Kl ds → R J H') ∧ PostX C mg H G KX E
abbrev MI (X : Cx) (C : C3) (E : XK) (tg iter : Expr) (m : MIt) : Prop := PI X tg iter (liftI C X.mg E m)
theorem PI.imp {X : Cx} {tg e : Expr} {t t' : TI} (h : PI X tg e t) (q : ∀ σ H Q, t' σ H Q → t σ H Q) : PI X tg e t' := ⟨fun pins s σ H Q I w => h.run pins s σ H Q I (q σ H Q w)⟩
section
variable {X : Cx} {C : C3} {E : XK} {e a b tg : Expr} {m ma mb : MEt} {r : MAt} {pos p : Pos} {mg : Str → Option Value}
/-- a list, a tuple, a locked dict, a text -/
def iAny (K : PySem.W.Frag) (td : TE) : TI := fun σ H R => td σ H fun x H1 => (∃ a, x = .ref a ∧ (∃ xs, SqL K H1 a xs) ∧ R (Itl K a) H1) ∨ (∃ a, x = .ref a ∧ (∃ xs, SqT K H1 a xs) ∧ R (Itt K a) H1) ∨
  (∃ d o kvs, x = .ref d ∧ H1 d = some (.frz o (.dK kvs)) ∧ R (Itk d o kvs) H1) ∨ ∃ z, x = .str z ∧ R (Its z) H1
theorem pi_any {td : TE} (he : PE X e td) : PI X tg e (iAny X.K td) := by
  refine ⟨fun pins s σ H R I h => ?_⟩
  refine thn (he.run pins s σ H _ I h) fun v s1 ⟨x, H1, I1, r1, q1⟩ => ?_
  rcases q1 with ⟨a, e, ⟨xs, hq⟩, q⟩ | ⟨a, e, ⟨xs, hq⟩, q⟩ | ⟨d, o, kvs, e, hd, q⟩ | ⟨z, e, q⟩
  · subst e
    cases r1
    obtain ⟨its, rv, p, hz⟩ := I1.list hq
    refine wpAny_pyIter_list p.isList ?_
    refine ⟨s1.heap.objs.size, [s1.heap.objs.size], _, _, H1, rfl, I1.kept (t' := s1.toks) fun b o e => Heap.get?_push_of_some _ e, turn_list a _, ⟨_, Heap.get?_push_size _ rfl, rfl, rfl⟩, fun b hb => ?_, q⟩
    have e : b = s1.heap.objs.size := by simpa using hb
    subst e
    exact I1.fpOk (Nat.le_refl _) (I1.hok.fresh (Nat.le_refl _))
  · subst e
    cases r1
    obtain ⟨its, rv, p, hz⟩ := I1.tuple hq
    refine wpAny_pyIter_tuple (show s1.heap.IsTuple a its.toArray from p) ?_
    refine ⟨s1.heap.objs.size, [s1.heap.objs.size], _, _, H1, rfl, I1.kept (t' := s1.toks) fun b o e => Heap.get?_push_of_some _ e, turn_tuple a _, ⟨_, Heap.get?_push_size _ rfl, rfl, rfl⟩, fun b hb => ?_, q⟩
    have e : b = s1.heap.objs.size := by simpa using hb
    subst e
    exact I1.fpOk (Nat.le_refl _) (I1.hok.fresh (Nat.le_refl _))
  · subst e
    obtain rfl : v = Value.ref d := r1
    obtain ⟨hs, hgd, hx, es, ep, vs, hdt, hsz, kv, hm⟩ := I1.frzK hd
    refine iter_keys hs hgd hx hdt (pi_one (tk := s1.toks) I1 _ (turn_keys _ hdt) ⟨_, Heap.get?_push_size _ rfl, rfl, ?_⟩ q)
    rw [hsz] <;> rfl
  · subst e
    obtain ⟨t, rfl⟩ := r1
    cases ha : z.cps.all (· < 128)
    · exact wpAny_pyIter_wide ha (pi_one (tk := s1.toks) I1 _ (turn_str _ z t "str_iterator" (.inr rfl)) ⟨_, Heap.get?_push_size _ rfl, rfl, rfl⟩ q)
    · exact wpAny_pyIter_ascii ha (pi_one (tk := s1.toks) I1 _ (turn_str _ z t "str_ascii_iterator" (.inl rfl)) ⟨_, Heap.get?_push_size _ rfl, rfl, rfl⟩ q)
def iterD (d : D) (K : List D → Prop) : Prop := match d with
  | .lst xs => K xs
  | .tup xs => K xs
  | .dic kvs => K (kvs.map fun p => .int p.1)
  | .str z => K (z.cps.toList.map fun c => .str ⟨#[c]⟩)
  | _ => False
theorem iter3_list {K : PySem.W.Frag} {a : Addr} {G0 : Hp} {vs : List V} {ds : List D} (hK : K = C.K) (h : G0 a = some (.lst vs)) (r : Rps C.K G0 ds vs) : Iter3 C (Itl K a) G0 ds := by
  subst hK
  refine ⟨fun i H G hi e ok => ⟨vs, .inl (.inl (ok.sub _ _ (e _ _ h)).2), by rw [← r.length]; exact hi⟩, fun i d H G hi e ok => ?_⟩
  have hs : SqL C.K H a vs := .inl (.inl (ok.sub _ _ (e _ _ h)).2)
  obtain ⟨v, h1, h2⟩ := r.get hi
  refine ⟨⟨vs, v, hs, h1⟩, fun x H' y => ?_⟩
  obtain ⟨rfl, y⟩ := y
  have q := y vs hs
  rw [h1] at q
  cases q
  exact ⟨G, Stp.refl, ok, h2.mono e⟩
theorem iter3_tup {K : PySem.W.Frag} {a : Addr} {G0 : Hp} {vs : List V} {ds : List D} (hK : K = C.K) (h : SqT C.K G0 a vs) (r : Rps C.K G0 ds vs) : Iter3 C (Itt K a) G0 ds := by
  subst hK
  refine ⟨fun i H G hi e ok => ⟨vs, seqT (fun a o q => (ok.sub a o (e _ _ q)).2) h, by rw [← r.length]; exact hi⟩, fun i d H G hi e ok => ?_⟩
  have hs : SqT C.K H a vs := seqT (fun a o q => (ok.sub a o (e _ _ q)).2) h
  obtain ⟨v, h1, h2⟩ := r.get hi
  refine ⟨⟨vs, v, hs, h1⟩, fun x H' y => ?_⟩
  obtain ⟨rfl, y⟩ := y
  have q := y vs hs
  rw [h1] at q
  cases q
  exact ⟨G, Stp.refl, ok, h2.mono e⟩
theorem RpK.get {K : PySem.W.Frag} {G : Hp} : ∀ {kvs : List (Int × D)} {kws : List (Key × V)} {i : Nat} {k : Int} {d : D}, RpK K G kvs kws → kvs[i]? = some (k, d) → ∃ v, kws[i]? = some (Sum.inl k, v) ∧ Rp K G d v := by
  intro kvs
  induction kvs with
  | nil => intro kws i k d r h; simp at h
  | cons x xs ih =>
    intro kws i k d r h
    cases r with
    | cons r1 r2 =>
      cases i with
      | zero => simp at h; obtain ⟨rfl, rfl⟩ := h; exact ⟨_, rfl, r1⟩
      | succ i =>
        obtain ⟨v, h1, h2⟩ := ih r2 (by simpa using h)
        exact ⟨v, by simpa using h1, h2⟩
theorem iter3_dic {a : Addr} {o : Obj} {G0 : Hp} {kvs : List (Int × D)} {kws : List (Key × V)} (h : G0 a = some (.frz o (.dK kws))) (r : RpK C.K G0 kvs kws) : Iter3 C (Itk a o kws) G0 (kvs.map fun p => .int p.1) := by
  refine ⟨fun i H G hi e ok => ⟨(ok.sub _ _ (e _ _ h)).2, by rw [← r.length]; simpa using hi⟩, fun i d H G hi e ok => ?_⟩
  rw [List.getElem?_map] at hi
  cases q : kvs[i]? with
  | none => rw [q] at hi; cases hi
  | some p =>
    rw [q] at hi
    have hi : D.int p.1 = d := Option.some.inj hi
    subst hi
    obtain ⟨k, d⟩ := p
    obtain ⟨v, h1, h2⟩ := r.get q
    refine ⟨⟨(ok.sub _ _ (e _ _ h)).2, (List.getElem?_eq_some_iff.mp h1).1⟩, fun x H' y => ?_⟩
    obtain ⟨rfl, k', v', y1, y2⟩ := y
    rw [h1] at y1
    cases y1
    subst y2
    exact ⟨G, Stp.refl, ok, .int k⟩
theorem iter3_str {z : Str} {G0 : Hp} : Iter3 C (Its z) G0 (z.cps.toList.map fun c => .str ⟨#[c]⟩) := by
  refine ⟨fun i H G hi e ok => by show z.cps.size ≤ i; simpa using hi, fun i d H G hi e ok => ?_⟩
  rw [List.getElem?_map] at hi
  cases q : z.cps.toList[i]? with
  | none => rw [q] at hi; cases hi
  | some c =>
    rw [q] at hi
    have hi : D.str ⟨#[c]⟩ = d := Option.some.inj hi
    subst hi
    have q' : z.cps[i]? = some c := by simpa using q
    refine ⟨by have := (Array.getElem?_eq_some_iff.mp q').1; exact this, fun x H' y => ?_⟩
    obtain ⟨rfl, c', y1, y2⟩ := y
    rw [q'] at y1
    cases y1
    subst y2
    exact ⟨G, Stp.refl, ok, .str _⟩
theorem iter3_range {lo : Int} {n : Nat} {G0 : Hp} : Iter3 C (Itr lo n) G0 ((List.range n).map fun i => .int (lo + (i : Nat))) := by
  refine ⟨fun i H G hi e ok => by show n ≤ i; simpa using hi, fun i d H G hi e ok => ?_⟩
  rw [List.getElem?_map] at hi
  cases q : (List.range n)[i]? with
  | none => rw [q] at hi; cases hi
  | some j =>
    rw [q] at hi
    have hi : D.int (lo + (j : Nat)) = d := Option.some.inj hi
    subst hi
    obtain ⟨h1, h2⟩ := List.getElem?_eq_some_iff.mp q
    rw [List.getElem_range] at h2
    subst h2
    rw [List.length_range] at h1
    refine ⟨h1, fun x H' y => ?_⟩
    obtain ⟨rfl, y⟩ := y
    subst y
    exact ⟨G, Stp.refl, ok, .int _⟩
def mIter (m : MEt) : MIt := fun env Kl KX => m env (fun d => iterD d Kl) KX
theorem mi_any (hK : X.K = C.K) (h : ME X C E e m) : MI X C E tg e (mIter m) := PI.imp (pi_any h) fun σ H R ⟨env, G, Kl, KX, ok, vr, hm, pv, px⟩ => by
  refine ⟨env, G, _, KX, ok, vr, hm, fun d v H1 G1 s1 ok1 r1 k1 => ?_, px⟩
  have k1 : iterD d Kl := k1
  unfold iterD at k1
  split at k1
  · cases r1 with
    | lst ha ra => exact .inl ⟨_, rfl, ⟨_, .inl (.inl (ok1.sub _ _ ha).2)⟩, pv _ _ _ _ s1 ok1 (iter3_list hK ha ra) k1⟩
  · cases r1 with
    | tup ha ra => exact .inr (.inl ⟨_, rfl, ⟨_, by rw [hK]; exact seqT (fun a o q => (ok1.sub a o q).2) ha.sq⟩, pv _ _ _ _ s1 ok1 (iter3_tup hK ha.sq ra) k1⟩)
  · cases r1 with
    | dic ha ra => exact .inr (.inr (.inl ⟨_, _, _, rfl, (ok1.sub _ _ ha).2, pv _ _ _ _ s1 ok1 (iter3_dic ha ra) k1⟩))
  · cases r1
    exact .inr (.inr (.inr ⟨_, rfl, pv _ _ _ _ s1 ok1 iter3_str k1⟩))
  · exact k1.elim
def rgD (ds : List D) (K : List D → Prop) : Prop := match ds with
  | [.int j] => -(2 ^ 62) ≤ j ∧ j < 2 ^ 62 ∧ K ((List.range j.toNat).map fun i => .int (i : Nat))
  | _ => False
def mRange (r : MAt) : MIt := fun env Kl KX => r env (fun ds => rgD ds Kl) KX
theorem mi_range (hg : Gl X "range") (hm : X.mg "range" = none) (ha : MA X C E [a] r) (hs : starEach [a] X.env = [(false, eval a X.env)] := by rfl) : MI X C E tg (.Call (.Name "range" p) [a] [] pos) (mRange r) := PI.imp (pi_range1 hg hm ha hs) fun σ H R ⟨env, G, Kl, KX, ok, vr, hm, pv, px⟩ => by
  refine ⟨env, G, _, KX, ok, vr, hm, fun ds vs H1 G1 s1 ok1 r1 _ k1 => ?_, px⟩
  have k1 : rgD ds Kl := k1
  unfold rgD at k1
  split at k1
  · cases r1 with
    | cons r1 r2 =>
      cases r2
      cases r1
      rename_i j _ _
      refine ⟨j, rfl, k1.1, k1.2.1, pv _ _ _ _ s1 ok1 ?_ k1.2.2⟩
      have q := iter3_range (C := C) (lo := 0) (n := j.toNat) (G0 := G1)
      simp only [Int.zero_add] at q
      exact q
  · exact k1.elim
theorem iter3_enum {K : PySem.W.Frag} {a : Addr} {G0 : Hp} {vs : List V} {ds : List D} (hK : K = C.K) (h : G0 a = some (.lst vs)) (r : Rps C.K G0 ds vs) : Iter3 C (IteN K a) G0 (ds.zipIdx.map fun p => .tup [.int (p.2 : Nat), p.1]) := by
  subst hK
  refine ⟨fun i H G hi e ok => ⟨vs, .inl (.inl (ok.sub _ _ (e _ _ h)).2), by rw [← r.length]; simpa using hi⟩, fun i d H G hi e ok => ?_⟩
  have hs : SqL C.K H a vs := .inl (.inl (ok.sub _ _ (e _ _ h)).2)
  rw [List.getElem?_map, List.getElem?_zipIdx] at hi
  cases q : ds[i]? with
  | none => rw [q] at hi; cases hi
  | some d0 =>
    rw [q] at hi
    have hi : D.tup [.int ((0 + i : Nat) : Int), d0] = d := Option.some.inj hi
    subst hi
    obtain ⟨v, h1, h2⟩ := r.get q
    refine ⟨⟨vs, v, hs, h1⟩, fun x H' y => ?_⟩
    obtain ⟨T, ob, v', e1, hT, c1, c2, e2, y⟩ := y
    have q' := y vs hs
    rw [h1] at q'
    cases q'
    subst e1 e2
    obtain ⟨o1, s1⟩ := ok.lay (o := .frz ob (.tup [.int (i : Nat), v])) hT
    refine ⟨_, s1, o1, .tup (.inl ⟨ob, upd_same, c1, c2⟩) (.cons ?_ (.cons (h2.mono (e.trans s1.ge)) .nil))⟩
    rw [Nat.zero_add]
    exact .int _
def mEnum (m : MEt) : MIt := fun env Kl KX => m env (fun d => match d with
  | .lst ds => Kl (ds.zipIdx.map fun p => .tup [.int (p.2 : Nat), p.1])
  | _ => False) KX
theorem mi_enum {elts : List Expr} {kk : Nat} {tpos : Pos} (hK : X.K = C.K) (hg : Gl X "enumerate") (hm : X.mg "enumerate" = none) (ha : ME X C E a m) (hs : starEach [a] X.env = [(false, eval a X.env)] := by rfl) (hs2 : starEach (a :: []) X.env = (false, eval a X.env) :: starEach [] X.env := by rfl) : MI X C E (.Tuple elts kk tpos) (.Call (.Name "enumerate" p) [a] [] pos) (mEnum m) :=
  PI.imp (pi_enumN hg hm (pa_cons ha pa_nil hs2) hs) fun σ H R ⟨env, G, Kl, KX, ok, vr, hm, pv, px⟩ => by
  refine ⟨env, G, _, KX, ok, vr, hm, fun d v H1 G1 s1 ok1 r1 k1 => ?_, px⟩
  cases r1 <;> first | exact (show False from k1).elim | skip
  rename_i ha' ra'
  exact ⟨_, _, rfl, .inl (.inl (ok1.sub _ _ ha').2), pv _ _ _ _ s1 ok1 (iter3_enum hK ha' ra') k1⟩
end

/-! ### targets: a name, or names in a row -/
inductive Tgt where
  | nm (i : Nat)
  | tp (is : List Nat)
def gNames : List Nat → TGs
  | [] => gNil
  | i :: r => gCons (gName i) (gNames r)
def gOf (K : PySem.W.Frag) : Tgt → TG
  | .nm i => gName i
  | .tp is => gTup K is.length (gNames is)
def bindT (t : Tgt) (d : D) : Option (List (Nat × D)) := match t with
  | .nm i => some [(i, d)]
  | .tp is => match d with
    | .tup ds => if ds.length = is.length then some (is.zip ds) else none
    | _ => none
def setE (env : EnvE) : List (Nat × D) → EnvE
  | [] => env
  | p :: r => setE (env.set p.1 (some p.2)) r
def setV (σ : L2.St) : List (Nat × V) → L2.St
  | [] => σ
  | p :: r => setV (σ.set p.1 (some p.2)) r
def Tgt.slots : Tgt → List Nat
  | .nm i => [i]
  | .tp is => is
section
variable {X : Cx} {C : C3}
theorem gNames_ok {Q : L2.St → Hp → Prop} {H : Hp} : ∀ (is : List Nat) (vs : List V) (σ : L2.St), vs.length = is.length → Q (setV σ (is.zip vs)) H → gNames is vs σ H Q
  | [], [], _, _, h => ⟨rfl, h⟩
  | i :: is, v :: vs, σ, hl, h => ⟨v, vs, rfl, gNames_ok is vs _ (by simpa using hl) h⟩
  | [], _ :: _, _, hl, _ => by simp at hl
  | _ :: _, [], _, hl, _ => by simp at hl
/-- paired lists of slots -/
theorem gOf_ok {K : PySem.W.Frag} {G H : Hp} {t : Tgt} {d : D} {v : V} {l : List (Nat × D)} {σ : L2.St} {Q : L2.St → Hp → Prop} (sm : ∀ a o, G a = some o → H a = some o) (r : Rp K G d v) (h : bindT t d = some l)
    (q : ∀ ws : List (Nat × V), Paired (fun (p : Nat × D) (w : Nat × V) => p.1 = w.1 ∧ Rp K G p.2 w.2) l ws → (∀ w ∈ ws, w.1 ∈ t.slots) → Q (setV σ ws) H) : gOf K t v σ H Q := by
  cases t with
  | nm i =>
    have h : some [(i, d)] = some l := h
    cases h
    exact q [(i, v)] (.cons ⟨rfl, r⟩ .nil) (by simp [Tgt.slots])
  | tp is =>
    unfold bindT at h
    dsimp only at h
    split at h
    · rename_i ds
      split at h
      · rename_i hl
        cases h
        cases r with
        | tup ha ra =>
          rename_i a vs
          refine ⟨a, vs, rfl, seqT sm ha.sq, by rw [← ra.length]; exact hl, gNames_ok is vs σ (by rw [← ra.length]; exact hl) (q _ ?_ ?_)⟩
          · have pz : ∀ {ks : List Nat} {ds : List D} {vs : List V}, Rps K G ds vs → Paired (fun (p : Nat × D) (w : Nat × V) => p.1 = w.1 ∧ Rp K G p.2 w.2) (ks.zip ds) (ks.zip vs) := by
              intro ks
              induction ks with
              | nil => intro ds vs _; exact .nil
              | cons k ks ih =>
                intro ds vs z
                cases z with
                | nil => exact .nil
                | cons z1 z2 => exact .cons ⟨rfl, z1⟩ (ih z2)
            exact pz ra
          · intro w hw
            exact (List.of_mem_zip hw).1
      · cases h
    · cases h
theorem VR.set {K : PySem.W.Frag} {G : Hp} {env : EnvE} {σ : L2.St} (h : VR K G env σ) {i : Nat} {d : D} {v : V} (r : Rp K G d v) : VR K G (env.set i (some d)) (σ.set i (some v)) := ⟨by simpa using h.len, fun j e q => by
  by_cases c : i = j
  · subst c
    by_cases hi : i < env.length
    · rw [List.getElem?_set_self hi] at q
      cases q
      exact ⟨v, by rw [List.getElem?_set_self (Nat.lt_of_lt_of_le hi h.len)], r⟩
    · rw [List.getElem?_eq_none (by simpa using hi)] at q
      cases q
  · rw [List.getElem?_set_ne c] at q
    obtain ⟨w, h1, h2⟩ := h.get j e q
    exact ⟨w, by rw [List.getElem?_set_ne c]; exact h1, h2⟩⟩
theorem VR.setAll {K : PySem.W.Frag} {G : Hp} : ∀ {l : List (Nat × D)} {ws : List (Nat × V)} {env : EnvE} {σ : L2.St}, Paired (fun (p : Nat × D) (w : Nat × V) => p.1 = w.1 ∧ Rp K G p.2 w.2) l ws → VR K G env σ → VR K G (setE env l) (setV σ ws) := by
  intro l
  induction l with
  | nil => intro ws env σ q h; cases q; exact h
  | cons p l ih =>
    intro ws env σ q h
    cases q with
    | cons q1 q2 =>
      rename_i w ws'
      obtain ⟨e, r⟩ := q1
      have z := ih q2 (h.set (i := p.1) r)
      show VR K G (setE (env.set p.1 (some p.2)) l) (setV (σ.set w.1 (some w.2)) ws')
      rw [← e]
      exact z
theorem wipe_set {σ : L2.St} {i : Nat} {x : Option V} : ∀ {vs : List Nat}, i ∈ vs → wipe (σ.set i x) vs = wipe σ vs
  | v :: vs, h => by
    show (wipe (σ.set i x) vs).set v none = (wipe σ vs).set v none
    by_cases c : i ∈ vs
    · rw [wipe_set c]
    · have e : i = v := by
        rcases List.mem_cons.mp h with z | z
        · exact z
        · exact absurd z c
      subst e
      have q : ∀ (us : List Nat), i ∉ us → wipe (σ.set i x) us = (wipe σ us).set i x := by
        intro us
        induction us with
        | nil => intro _; rfl
        | cons u us ih =>
          intro hu
          show (wipe (σ.set i x) us).set u none = ((wipe σ us).set u none).set i x
          rw [ih (fun z => hu (List.mem_cons_of_mem _ z)), List.set_comm _ _ (fun z => hu (by rw [z]; exact List.mem_cons_self))]
      rw [q vs c, List.set_set]
theorem wipe_setV : ∀ {ws : List (Nat × V)} {σ : L2.St} {vs : List Nat}, (∀ w ∈ ws, w.1 ∈ vs) → wipe (setV σ ws) vs = wipe σ vs
  | [], _, _, _ => rfl
  | w :: ws, σ, vs, h => by
    show wipe (setV (σ.set w.1 (some w.2)) ws) vs = wipe σ vs
    rw [wipe_setV fun u hu => h u (List.mem_cons_of_mem _ hu), wipe_set (h w List.mem_cons_self)]
def wipeE (env : EnvE) : List Nat → EnvE
  | [] => env
  | v :: vs => (wipeE env vs).set v none
theorem wipeE_len (env : EnvE) : ∀ vs : List Nat, (wipeE env vs).length = env.length
  | [] => rfl
  | v :: vs => by show ((wipeE env vs).set v none).length = _; rw [List.length_set, wipeE_len env vs]
theorem wipeE_some {env : EnvE} {i : Nat} {x : D} : ∀ {vs : List Nat}, (wipeE env vs)[i]? = some (some x) → env[i]? = some (some x) ∧ i ∉ vs
  | [], h => ⟨h, by simp⟩
  | v :: vs, h => by
    unfold wipeE at h
    by_cases hi : v = i
    · subst hi
      by_cases hv : v < (wipeE env vs).length
      · rw [List.getElem?_set_self hv] at h; cases h
      · rw [List.getElem?_eq_none (by simpa using hv)] at h; cases h
    · rw [List.getElem?_set_ne hi] at h
      obtain ⟨h1, h2⟩ := wipeE_some h
      exact ⟨h1, by simp only [List.mem_cons, not_or]; exact ⟨fun e => hi e.symm, h2⟩⟩
theorem VR.wipe {K : PySem.W.Frag} {G : Hp} {env : EnvE} {σ : L2.St} (h : VR K G env σ) (vs : List Nat) : VR K G (wipeE env vs) (L2.wipe σ vs) := ⟨by rw [wipeE_len, wipe_length]; exact h.len, fun i d q => by
  obtain ⟨q1, q2⟩ := wipeE_some q
  obtain ⟨v, h1, h2⟩ := h.get i d q1
  exact ⟨v, by rw [wipe_out q2]; exact h1, h2⟩⟩
end

/-! ### comprehensions -/
section
variable {X : Cx} {C : C3} {E : XK}
def lcD (t : Tgt) (tt : MTt) (te : MEt) (env : EnvE) : List D → (List D → Prop) → Prop
  | [], K => K []
  | d :: ds, K => ∃ l, bindT t d = some l ∧ tt (setE env l) (fun b => if b = true then te (setE env l) (fun y => lcD t tt te env ds fun r => K (y :: r)) (fun _ => False) else lcD t tt te env ds K) (fun _ => False)
def mLc (t : Tgt) (vs : List Nat) (mi : MIt) (tt : MTt) (te : MEt) : MEt := fun env Kd KX => mi env (fun ds => ds.length ≤ 100000 ∧ lcD t tt te (wipeE env vs) ds fun r => Kd (.lst r)) KX
/-- the tests of a comprehension -/
abbrev MTs (X : Cx) (C : C3) (E : XK) (ifs : List Expr) (m : MTt) : Prop := PTs X ifs (liftT C X.mg E m)
def tYesM : MTt := fun _ Kb _ => Kb true
theorem PTs.imp {X : Cx} {ifs : List Expr} {t t' : TT} (h : PTs X ifs t) (q : ∀ σ H Q, t' σ H Q → t σ H Q) : PTs X ifs t' := ⟨fun pins s σ H Q I w => h.run pins s σ H Q I (q σ H Q w)⟩
theorem mts_nil : MTs X C E [] tYesM := PTs.imp pts_nil fun σ H Q ⟨env, G, Kb, KX, ok, vr, hm, pv, px⟩ => pv true H G Stp.refl ok hm
theorem mts_one {c : Expr} {m : MTt} (h : MT X C E c m) : MTs X C E [c] m := pts_one h
/-- the reading of a comprehension -/
theorem lc_lift {K : PySem.W.Frag} {mg : Str → Option Value} {t : Tgt} {vs : List Nat} {mi : MIt} {tt : MTt} {te : MEt} (hK : K = C.K) (hts : ∀ i ∈ t.slots, i ∈ vs) {σ : L2.St} {H : Hp} {Q : VK}
    (h : ∃ env G Kd KX, Ok3 C H G ∧ VR C.K G env σ ∧ mLc t vs mi tt te env Kd KX ∧ PostF C H G Kd Q ∧ PostX C mg H G KX E) :
    tLc (liftI C mg E mi) (gOf K t) (liftT C mg E0 tt) (lift C mg E0 te) vs σ H Q := by
  subst hK
  obtain ⟨env, G, Kd, KX, ok, vr, hm, pv, px⟩ := h
  refine ⟨env, G, _, KX, ok, vr, hm, fun ds J H1 G1 s1 ok1 it k1 D0 nD => ?_, px⟩
  obtain ⟨hz, k1⟩ := k1
  have spD := ok1.iv.new nD
  refine ⟨fun i m H => m = ds.length - i ∧ i ≤ ds.length ∧ ∃ (G2 : Hp) (acc : List V) (accD : List D), Ok3 C H G2 ∧ Stp C H1 G1 H G2 ∧ H D0 = some (.lst acc) ∧ G2 D0 = none ∧ Rps C.K G2 accD acc ∧ acc.length ≤ i ∧
      lcD t tt te (wipeE env vs) (ds.drop i) fun r => Kd (.lst (accD ++ r)), ⟨ds.length, by simp, Nat.zero_le _, ?_⟩, ?_⟩
  · obtain ⟨o2, s2, g⟩ := ok1.new (o := .lst []) nD
    exact ⟨G1, [], [], o2, s2, upd_same, g, .nil, Nat.zero_le _, by simpa using k1⟩
  · rintro i m H2 ⟨rfl, hi, G2, acc, accD, ok2, s2, hD, gD, ra, hacc, k2⟩
    by_cases hlt : i < ds.length
    · have hd : ds[i]? = some ds[i] := List.getElem?_eq_getElem hlt
      obtain ⟨hgo, hy⟩ := it.go i ds[i] H2 G2 hd s2.ge ok2
      have edrop : ds.drop i = ds[i] :: ds.drop (i + 1) := List.drop_eq_getElem_cons hlt
      rw [edrop] at k2
      obtain ⟨l, hb, k2⟩ := k2
      refine .inr ⟨hgo, fun H' => i + 1 ≤ ds.length ∧ ∃ (G2 : Hp) (acc : List V) (accD : List D), Ok3 C H' G2 ∧ Stp C H1 G1 H' G2 ∧ H' D0 = some (.lst acc) ∧ G2 D0 = none ∧ Rps C.K G2 accD acc ∧ acc.length ≤ i + 1 ∧
        lcD t tt te (wipeE env vs) (ds.drop (i + 1)) fun r => Kd (.lst (accD ++ r)), fun H' hn => ⟨ds.length - (i + 1), by omega, rfl, hn⟩, fun x H3 yy => ?_⟩
      obtain ⟨G3, s3, ok3, r3⟩ := hy x H3 yy
      have hD3 : H3 D0 = some (.lst acc) := s3.nh D0 _ spD hD
      have gD3 : G3 D0 = none := by
        cases q : G3 D0 with
        | none => rfl
        | some o =>
          have z := s3.fr D0 o gD q
          rw [nT_of hD] at z
          cases z
      have vr3 : VR C.K G3 (wipeE env vs) (L2.wipe σ vs) := (vr.wipe vs).mono (s1.ge.trans (s2.ge.trans s3.ge))
      refine gOf_ok (fun a o q => (ok3.sub a o q).2) r3 hb fun ws pw hw => ⟨wipe_setV (fun w hw' => hts _ (hw w hw')) |>.trans ?_, ?_⟩
      · have wi : ∀ us : List Nat, (∀ u ∈ us, u ∈ vs) → L2.wipe (L2.wipe σ vs) us = L2.wipe σ vs := by
          intro us
          induction us with
          | nil => intro _; rfl
          | cons u us ih =>
            intro hu
            show (L2.wipe (L2.wipe σ vs) us).set u none = _
            rw [ih fun x hx => hu x (List.mem_cons_of_mem _ hx)]
            have hu0 : u ∈ vs := hu u List.mem_cons_self
            apply List.ext_getElem?
            intro j
            by_cases c : u = j
            · subst c
              by_cases hj : u < (L2.wipe σ vs).length
              · rw [List.getElem?_set_self hj]
                have q : (L2.wipe σ vs)[u]? = some ((L2.wipe σ vs)[u]) := List.getElem?_eq_getElem hj
                cases q2 : (L2.wipe σ vs)[u] with
                | none => rw [q, q2]
                | some w =>
                  rw [q2] at q
                  exact absurd hu0 (wipe_some q).2
              · rw [List.getElem?_eq_none (by simpa using hj), List.getElem?_eq_none (by simpa using hj)]
            · rw [List.getElem?_set_ne c]
        rw [wi vs fun _ h => h]
      · have vr4 : VR C.K G3 (setE (wipeE env vs) l) (setV (L2.wipe σ vs) ws) := VR.setAll pw vr3
        refine ⟨_, G3, _, _, ok3, vr4, k2, fun b H4 G4 s4 ok4 k4 => ?_, fun _ _ _ _ z => z.elim⟩
        have hD4 : H4 D0 = some (.lst acc) := s4.nh D0 _ spD hD3
        have gD4 : G4 D0 = none := by
          cases q : G4 D0 with
          | none => rfl
          | some o =>
            have z := s4.fr D0 o gD3 q
            rw [nT_of hD3] at z
            cases z
        have s14 := s2.trans ok4 (s3.trans ok4 s4)
        cases b with
        | false =>
          refine iteF ?_
          exact ⟨hlt, G4, acc, accD, ok4, s14, hD4, gD4, ra.mono (s3.ge.trans s4.ge), Nat.le_succ_of_le hacc, k4⟩
        | true =>
          refine iteT ?_
          refine ⟨_, G4, _, _, ok4, vr4.mono s4.ge, k4, fun y yv H5 G5 s5 ok5 r5 k5 => ?_, fun _ _ _ _ z => z.elim⟩
          have hD5 : H5 D0 = some (.lst acc) := s5.nh D0 _ spD hD4
          have gD5 : G5 D0 = none := by
            cases q : G5 D0 with
            | none => rfl
            | some o =>
              have z := s5.fr D0 o gD4 q
              rw [nT_of hD4] at z
              cases z
          have s15 := s14.trans ok5 s5
          refine ⟨acc, hD5, Nat.lt_of_lt_of_le (show acc.length < 100001 by omega) (by rw [sizeLine_eq]; decide), hlt, G5, acc ++ [yv], accD ++ [y], ?_, ?_, upd_same, gD5, (ra.mono (s3.ge.trans (s4.ge.trans s5.ge))).append (.cons r5 .nil), by rw [List.length_append, List.length_singleton]; omega, ?_⟩
          · refine ⟨ok5.iv.upd spD (upd_code hD5 rfl), fun a o q => ?_, ok5.nt⟩
            obtain ⟨z1, z2⟩ := ok5.sub a o q
            refine ⟨z1, ?_⟩
            rw [upd_ne (fun z => by rw [z, gD5] at q; cases q)]
            exact z2
          · refine ⟨fun a o sp e => ?_, s15.ge, s15.fr⟩
            rw [nT_ne (ne_of_none (nT_to e).1 nD)]
            exact s15.nx a o sp e
          · simp only [List.append_assoc, List.singleton_append]
            exact k5
    · have e : i = ds.length := by omega
      subst e
      rw [List.drop_length] at k2
      have k2 : Kd (.lst (accD ++ [])) := k2
      rw [List.append_nil] at k2
      refine .inl ⟨it.stop _ H2 G2 (Nat.le_refl _) s2.ge ok2, pv.on s1 (.lst accD) D0 _ H2 G2 s2 ok2 (nT_none nD) gD hD spD (.lst ra) k2⟩
end
end L3
/-! L3g: statements -/
namespace L3
open PySem PySem.Spec PyProof.Rows L2

theorem mf_lc {X : Cx} {C : C3} {E : XK} {elt tg iter : Expr} {ifs : List Expr} {scope : Scope} {own : List (Str × Nat)} {pos : Pos} {t : Tgt} {mi : MIt} {tt : MTt} {te : MEt} (hK : X.K = C.K) (hc : X.calm = true) (hN : X.N.Nodup) (hi : MI X C E tg iter mi) (ok : BlkOk X.N X.env.scope scope own)
    (hts : ∀ i ∈ t.slots, i ∈ own.map (·.2))
    (hg : ∀ (s : Shared) (H : Hp) (A : Addr) (cl : List (Str × Addr)) (fp : List Addr), PG (X.blk s H scope (compEnvC scope cl A X.env) fp) tg (gOf X.K t)) (ht : ∀ (s : Shared) (H : Hp) (A : Addr) (cl : List (Str × Addr)) (fp : List Addr), MTs (X.blk s H scope (compEnvC scope cl A X.env) fp) C E0 ifs tt)
    (he : ∀ (s : Shared) (H : Hp) (A : Addr) (cl : List (Str × Addr)) (fp : List Addr), ME (X.blk s H scope (compEnvC scope cl A X.env) fp) C E0 elt te) (hs : ∀ x, foldedSetIterable iter X.env x = pure x := by intro _; rfl) :
    MF X C E (.ListComp elt [⟨tg, iter, ifs, 0⟩] scope pos) (mLc t (own.map (·.2)) mi tt te) := PE.imp (pe_lc hc hN hi ok hg ht he hs) fun σ H Q h => lc_lift hK hts h

/-! ### the state of a def -/
inductive Slot where
  | sh (d : D)
  | own (p : Addr) (d : D)
abbrev EnvS := List (Option Slot)
def viewS : Option Slot → Option D
  | some (.sh d) => some d
  | _ => none
def lendS : Option Slot → Option D
  | some (.sh d) => some d
  | some (.own _ (.lst ds)) => some (.lst ds)
  | _ => none
def viewE (env : EnvS) : EnvE := env.map viewS
def lendE (env : EnvS) : EnvE := env.map lendS
/-! a dict whose keys are tuples of numbers: its entries, and where the keys stand -/
abbrev TK := List (List Int × Addr × Value)
def entT (x : List Int × Addr × Value) : DictEntry := ⟨reduceHash (Builtin.Tuple.tupleHashOf (x.1.map hashInt)), .ref x.2.1, x.2.2⟩
def dtPhi (a : Addr) (xs : TK) (h : Heap) : Prop := ∃ (o : Obj) (es : Array DictEntry) (ep : Nat), h.get? a = some o ∧ o.ExactDict ∧ o.data = .dict es ep ∧ es.toList = xs.map entT
def dtO (a : Addr) (xs : TK) : HO := .ext (dtPhi a xs)
theorem heap_of (o : Obj) (hf : o.isFreed = false) : ∀ n : Nat, ∃ h : Heap, h.objs.size = n ∧ (∀ b ob, h.get? b = some ob → ob = o) ∧ ∀ b, b < n → h.get? b = some o
  | 0 => ⟨{}, rfl, fun b ob e => absurd (Heap.lt_size e) (Nat.not_lt_zero _), fun b e => absurd e (Nat.not_lt_zero _)⟩
  | n + 1 => by
    obtain ⟨h, h1, h2, h3⟩ := heap_of o hf n
    refine ⟨h.push o, by rw [Heap.objs_push, Array.size_push, h1], fun b ob e => ?_, fun b e => ?_⟩
    · rcases Heap.get?_push_cases e with ⟨_, e⟩ | e
      · exact e
      · exact h2 b ob e
    · by_cases c : b = n
      · rw [c, ← h1]
        exact Heap.get?_push_size _ hf
      · exact Heap.get?_push_of_some _ (h3 b (by omega))
theorem dtO_ne {a p : Addr} {xs : TK} {q : Str} : dtO a xs ≠ LamX.CodeO p q := fun e => by
  unfold dtO LamX.CodeO at e
  have e := HO.ext.inj e
  obtain ⟨h, _, h2, h3⟩ := heap_of { cls := .type "dict", data := .dict (xs.map entT).toArray 0 } rfl (a + 1)
  have d : dtPhi a xs h := ⟨_, _, _, h3 a (Nat.lt_succ_self a), ⟨rfl, rfl, rfl⟩, rfl, by simp⟩
  rw [e] at d
  obtain ⟨oc, vs, t, d1, d2, _⟩ := d
  rw [h2 _ _ d1] at d2
  cases d2
abbrev tupI (ks : List Int) : D := .tup (ks.map D.int)
/-- such a dict as data: where it stands, its keys -/
abbrev metD (a : Addr) (ks : List (List Int)) : D := .tup [.ref a, .lst (ks.map tupI)]
inductive ObjO (K : PySem.W.Frag) (G : Hp) : D → HO → Prop
  | lst {ds : List D} {vs : List V} : Rps K G ds vs → ObjO K G (.lst ds) (.lst vs)
  | dic {kvs : List (Int × D)} {kws : List (Key × V)} : RpK K G kvs kws → ObjO K G (.dic kvs) (.dK kws)
  | dt {a : Addr} {ks : List (List Int)} {xs : TK} : ks = xs.map (·.1) → (a == sysModules) = false → xs.length ≤ sizeLine → (xs.map (·.1)).Nodup → (∀ x ∈ xs, Rp K G (tupI x.1) (.ref x.2.1)) → ObjO K G (metD a ks) (dtO a xs)
theorem ObjO.nt {K : PySem.W.Frag} {G : Hp} {d : D} {o : HO} (h : ObjO K G d o) : notTbl o = true := by cases h <;> rfl
theorem ObjO.mono {K : PySem.W.Frag} {G G' : Hp} {d : D} {o : HO} (e : Same G G') (h : ObjO K G d o) : ObjO K G' d o := by
  cases h with
  | lst r => exact .lst (r.mono e)
  | dic r => exact .dic (r.mono e)
  | dt e1 e2 e3 e4 e5 => exact .dt e1 e2 e3 e4 fun x hx => (e5 x hx).mono e
theorem ObjO.nk {K : PySem.W.Frag} {G H : Hp} {d : D} {o : HO} {p : Addr} (h : ObjO K G d o) (e : H p = some o) : ∀ q, H p ≠ some (LamX.CodeO p q) := by
  cases h with
  | lst r => exact upd_code e rfl
  | dic r => exact upd_code e rfl
  | dt _ _ _ _ _ => exact fun q z => dtO_ne (Option.some.inj (e.symm.trans z))
theorem ObjD.obj {K : PySem.W.Frag} {G : Hp} {d : D} {o : HO} (h : ObjD K G d o) : ObjO K G d o := by
  cases h with
  | lst r => exact .lst r
structure ER0 (C : C3) (B G0 H G : Hp) : Prop where
  ok : Ok3 C H G
  g0 : Same G0 G
  fr : ∀ a o, G0 a = none → G a = some o → B a = none
  keep : ∀ a o, C.sp a = false → B a = some o → nT H a = some o
structure ER (C : C3) (B G0 H G : Hp) (env : EnvS) (σ : L2.St) : Prop where
  z : ER0 C B G0 H G
  len : env.length ≤ σ.length
  sh : ∀ (i : Nat) (d : D), env[i]? = some (some (.sh d)) → ∃ v, σ[i]? = some (some v) ∧ Rp C.K G d v
  own : ∀ (i : Nat) (p : Addr) (d : D), env[i]? = some (some (.own p d)) → σ[i]? = some (some (.ref p)) ∧ C.sp p = false ∧ B p = none ∧ G p = none ∧ ∃ o, H p = some o ∧ ObjO C.K G d o
  dis : ∀ (i j : Nat) (p : Addr) (d e : D), env[i]? = some (some (.own p d)) → env[j]? = some (some (.own p e)) → i = j
section
variable {C : C3} {B G0 H G H' G' : Hp} {env : EnvS} {σ : L2.St}
theorem ER0.step (z : ER0 C B G0 H G) (s : Stp C H G H' G') (ok : Ok3 C H' G') : ER0 C B G0 H' G' := by
  refine ⟨ok, z.g0.trans s.ge, fun a o h h' => ?_, fun a o sp h => s.nx a o sp (z.keep a o sp h)⟩
  cases q : G a with
  | some u => exact z.fr a u h q
  | none =>
    have h1 := s.fr a o q h'
    cases r : B a with
    | none => rfl
    | some u =>
      rw [z.keep a u (ok.sub a o h').1 r] at h1
      cases h1
theorem ER.step (z : ER C B G0 H G env σ) (s : Stp C H G H' G') (ok : Ok3 C H' G') : ER C B G0 H' G' env σ := by
  refine ⟨z.z.step s ok, z.len, fun i d h => ?_, fun i p d h => ?_, z.dis⟩
  · obtain ⟨v, h1, h2⟩ := z.sh i d h
    exact ⟨v, h1, h2.mono s.ge⟩
  · obtain ⟨h1, h2, h3, h4, o, h5, h6⟩ := z.own i p d h
    refine ⟨h1, h2, h3, ?_, o, s.nh p o h2 h5 h6.nt, h6.mono s.ge⟩
    cases q : G' p with
    | none => rfl
    | some u =>
      have := s.fr p u h4 q
      rw [nT_of h5 h6.nt] at this
      cases this
theorem viewE_get {i : Nat} {d : D} (h : (viewE env)[i]? = some (some d)) : env[i]? = some (some (.sh d)) := by
  unfold viewE at h
  rw [List.getElem?_map] at h
  cases q : env[i]? with
  | none => rw [q] at h; cases h
  | some o =>
    rw [q] at h
    have h : viewS o = some d := Option.some.inj h
    cases o with
    | none => cases h
    | some s =>
      cases s with
      | sh e =>
        have h : some e = some d := h
        cases h
        rfl
      | own p e => cases h
theorem ER.vr (z : ER C B G0 H G env σ) : VR C.K G (viewE env) σ := ⟨by unfold viewE; rw [List.length_map]; exact z.len, fun i d h => z.sh i d (viewE_get h)⟩
theorem ER.set_sh (z : ER C B G0 H G env σ) {i : Nat} {d : D} {v : V} (r : Rp C.K G d v) : ER C B G0 H G (env.set i (some (.sh d))) (σ.set i (some v)) := by
  refine ⟨z.z, by simpa using z.len, fun j e h => ?_, fun j p e h => ?_, fun j k p e f h h' => ?_⟩
  · by_cases c : i = j
    · subst c
      by_cases hi : i < env.length
      · rw [List.getElem?_set_self hi] at h
        cases h
        exact ⟨v, by rw [List.getElem?_set_self (Nat.lt_of_lt_of_le hi z.len)], r⟩
      · rw [List.getElem?_eq_none (by simpa using hi)] at h
        cases h
    · rw [List.getElem?_set_ne c] at h
      obtain ⟨w, h1, h2⟩ := z.sh j e h
      exact ⟨w, by rw [List.getElem?_set_ne c]; exact h1, h2⟩
  · by_cases c : i = j
    · subst c
      by_cases hi : i < env.length
      · rw [List.getElem?_set_self hi] at h
        cases h
      · rw [List.getElem?_eq_none (by simpa using hi)] at h
        cases h
    · rw [List.getElem?_set_ne c] at h
      obtain ⟨h1, h2⟩ := z.own j p e h
      exact ⟨by rw [List.getElem?_set_ne c]; exact h1, h2⟩
  · have un : ∀ {j : Nat} {e : D}, (env.set i (some (.sh d)))[j]? = some (some (.own p e)) → env[j]? = some (some (.own p e)) := fun {j e} h => by
      by_cases c : i = j
      · subst c
        by_cases hi : i < env.length
        · rw [List.getElem?_set_self hi] at h; cases h
        · rw [List.getElem?_eq_none (by simpa using hi)] at h; cases h
      · rwa [List.getElem?_set_ne c] at h
    exact z.dis j k p e f (un h) (un h')
theorem ER.set_own (z : ER C B G0 H G env σ) {i : Nat} {p : Addr} {d : D} {o : HO} (sp : C.sp p = false) (hb : B p = none) (hg : G p = none) (ho : H p = some o) (r : ObjO C.K G d o) (nw : ∀ (j : Nat) (e : D), j ≠ i → env[j]? ≠ some (some (.own p e))) : ER C B G0 H G (env.set i (some (.own p d))) (σ.set i (some (.ref p))) := by
  have un : ∀ {j : Nat} {x : Slot}, (env.set i (some (.own p d)))[j]? = some (some x) → (i = j ∧ i < env.length ∧ x = .own p d) ∨ (i ≠ j ∧ env[j]? = some (some x)) := fun {j x} h => by
    by_cases c : i = j
    · subst c
      by_cases hi : i < env.length
      · rw [List.getElem?_set_self hi] at h
        cases h
        exact .inl ⟨rfl, hi, rfl⟩
      · rw [List.getElem?_eq_none (by simpa using hi)] at h; cases h
    · rw [List.getElem?_set_ne c] at h
      exact .inr ⟨c, h⟩
  refine ⟨z.z, by simpa using z.len, fun j e h => ?_, fun j q e h => ?_, fun j k q e f h h' => ?_⟩
  · rcases un h with ⟨_, _, x⟩ | ⟨c, x⟩
    · cases x
    · obtain ⟨w, h1, h2⟩ := z.sh j e x
      exact ⟨w, by rw [List.getElem?_set_ne c]; exact h1, h2⟩
  · rcases un h with ⟨c, hi, x⟩ | ⟨c, x⟩
    · cases x
      subst c
      exact ⟨by rw [List.getElem?_set_self (Nat.lt_of_lt_of_le hi z.len)], sp, hb, hg, o, ho, r⟩
    · obtain ⟨h1, h2⟩ := z.own j q e x
      exact ⟨by rw [List.getElem?_set_ne c]; exact h1, h2⟩
  · rcases un h with ⟨c, _, x⟩ | ⟨c, x⟩
    · cases x
      rcases un h' with ⟨c', _, x'⟩ | ⟨c', x'⟩
      · exact c.symm.trans c'
      · exact absurd x' (nw k f (Ne.symm c'))
    · rcases un h' with ⟨c', _, x'⟩ | ⟨c', x'⟩
      · cases x'
        exact absurd x (nw j e (Ne.symm c))
      · exact z.dis j k q e f x x'
/-- what stands at an own address is changed -/
theorem ER.write (z : ER C B G0 H G env σ) {i : Nat} {p : Addr} {d d' : D} {o' : HO} (h : env[i]? = some (some (.own p d))) (r : ObjO C.K G d' o') : ER C B G0 (upd H p o') G (env.set i (some (.own p d'))) σ := by
  obtain ⟨h1, h2, h3, h4, o, h5, h6⟩ := z.own i p d h
  have ok' : Ok3 C (upd H p o') G := ⟨z.z.ok.iv.upd h2 (h6.nk h5), fun a u q => by
    obtain ⟨x, y⟩ := z.z.ok.sub a u q
    refine ⟨x, ?_⟩
    rw [upd_ne (fun w => by rw [w, h4] at q; cases q)]
    exact y, z.z.ok.nt⟩
  have hi : i < env.length := (List.getElem?_eq_some_iff.mp h).1
  refine ⟨⟨ok', z.z.g0, z.z.fr, fun a u sp q => ?_⟩, by simpa using z.len, fun j e q => ?_, fun j q e w => ?_, fun j k q e f w w' => ?_⟩
  · rw [nT_ne (ne_of_none q h3)]
    exact z.z.keep a u sp q
  · by_cases c : i = j
    · subst c
      rw [List.getElem?_set_self hi] at q
      cases q
    · rw [List.getElem?_set_ne c] at q
      exact z.sh j e q
  · by_cases c : i = j
    · subst c
      rw [List.getElem?_set_self hi] at w
      cases w
      exact ⟨h1, h2, h3, h4, o', upd_same, r⟩
    · rw [List.getElem?_set_ne c] at w
      obtain ⟨w1, w2, w3, w4, u, w5, w6⟩ := z.own j q e w
      refine ⟨w1, w2, w3, w4, u, ?_, w6⟩
      rw [upd_ne (fun t => c (by rw [t] at w; exact z.dis i j p d e h w))]
      exact w5
  · have un : ∀ {j : Nat} {e : D}, (env.set i (some (.own p d')))[j]? = some (some (.own q e)) → ∃ e', env[j]? = some (some (.own q e')) := fun {j e} w => by
      by_cases c : i = j
      · subst c
        rw [List.getElem?_set_self hi] at w
        cases w
        exact ⟨d, h⟩
      · rw [List.getElem?_set_ne c] at w
        exact ⟨e, w⟩
    obtain ⟨e1, w1⟩ := un w
    obtain ⟨e2, w2⟩ := un w'
    exact z.dis j k q _ _ w1 w2
/-- own lists lent: read, then back -/
def ownA : EnvS → List Addr
  | [] => []
  | some (.own p (.lst _)) :: r => p :: ownA r
  | _ :: r => ownA r
theorem ownA_mem : ∀ {env : EnvS} {p : Addr}, p ∈ ownA env → ∃ (i : Nat) (ds : List D), env[i]? = some (some (Slot.own p (.lst ds)))
  | [], p, h => by simp [ownA] at h
  | x :: r, p, h => by
    unfold ownA at h
    split at h
    · rename_i h0; cases h0
    · rename_i q ds r' e
      cases e
      rcases List.mem_cons.mp h with z | z
      · subst z
        exact ⟨0, ds, rfl⟩
      · obtain ⟨i, es, q⟩ := ownA_mem z
        exact ⟨i + 1, es, by simpa using q⟩
    · rename_i x' r' _ e
      cases e
      obtain ⟨i, es, q⟩ := ownA_mem h
      exact ⟨i + 1, es, by simpa using q⟩
theorem mem_ownA : ∀ {env : EnvS} {i : Nat} {p : Addr} {ds : List D}, env[i]? = some (some (.own p (.lst ds))) → p ∈ ownA env
  | [], i, p, ds, h => by simp at h
  | x :: r, 0, p, ds, h => by
    have h : some x = some (some (.own p (.lst ds))) := h
    cases h
    simp [ownA]
  | x :: r, i + 1, p, ds, h => by
    have q := mem_ownA (env := r) (i := i) (p := p) (ds := ds) (by simpa using h)
    unfold ownA
    split
    · rename_i h0; cases h0
    · rename_i e; cases e; exact List.mem_cons_of_mem _ q
    · rename_i e; cases e; exact q
def gLend (G H : Hp) (env : EnvS) : Hp := fun a => match G a with
  | some o => some o
  | none => if a ∈ ownA env then H a else none
theorem lendE_get {i : Nat} {d : D} (h : (lendE env)[i]? = some (some d)) : env[i]? = some (some (.sh d)) ∨ ∃ (p : Addr) (ds : List D), d = .lst ds ∧ env[i]? = some (some (Slot.own p (.lst ds))) := by
  unfold lendE at h
  rw [List.getElem?_map] at h
  cases q : env[i]? with
  | none => rw [q] at h; cases h
  | some o =>
    rw [q] at h
    have h : lendS o = some d := Option.some.inj h
    unfold lendS at h
    split at h
    · cases h; exact .inl rfl
    · cases h; exact .inr ⟨_, _, rfl, rfl⟩
    · cases h
theorem gLend_of {a : Addr} {o : HO} (h : gLend G H env a = some o) : G a = some o ∨ (a ∈ ownA env ∧ H a = some o) := by
  unfold gLend at h
  split at h
  · rename_i e; cases h; exact .inl e
  · split at h
    · rename_i c; exact .inr ⟨c, h⟩
    · cases h
theorem gLend_ge : Same G (gLend G H env) := fun a o h => by
  unfold gLend
  rw [h]
theorem ER.lend (z : ER C B G0 H G env σ) : Ok3 C H (gLend G H env) ∧ VR C.K (gLend G H env) (lendE env) σ := by
  refine ⟨⟨z.z.ok.iv, fun a o h => ?_, fun a o h => ?_⟩, by unfold lendE; rw [List.length_map]; exact z.len, fun i d h => ?_⟩
  · rcases gLend_of h with h | ⟨hm, h⟩
    · exact z.z.ok.sub a o h
    · obtain ⟨i, ds, q⟩ := ownA_mem hm
      exact ⟨(z.own i a _ q).2.1, h⟩
  · rcases gLend_of h with h | ⟨hm, h⟩
    · exact z.z.ok.nt a o h
    · obtain ⟨i, ds, q⟩ := ownA_mem hm
      obtain ⟨_, _, _, _, u, h5, h6⟩ := z.own i a _ q
      rw [h5] at h
      cases h
      exact h6.nt
  · rcases lendE_get h with h | ⟨p, ds, rfl, h'⟩
    · obtain ⟨v, h1, h2⟩ := z.sh i d h
      exact ⟨v, h1, h2.mono gLend_ge⟩
    · have h : env[i]? = some (some (Slot.own p (.lst ds))) := h'
      obtain ⟨h1, h2, h3, h4, o, h5, h6⟩ := z.own i p _ h
      refine ⟨_, h1, ?_⟩
      cases h6 with
      | lst r =>
        refine .lst ?_ (r.mono gLend_ge)
        unfold gLend
        rw [h4]
        dsimp only
        rw [if_pos (mem_ownA h)]
        exact h5
/-- behind what was lent: G again -/
theorem ER.back (z : ER C B G0 H G env σ) (s : Stp C H (gLend G H env) H' G') (ok : Ok3 C H' G') : ER C B G0 H' G env σ :=
  z.step ⟨s.nx, Same.refl _, fun a o h h' => by rw [h] at h'; cases h'⟩ ⟨ok.iv, fun a o h => ok.sub a o (s.ge a o (gLend_ge a o h)), fun a o h => ok.nt a o (s.ge a o (gLend_ge a o h))⟩
/-- or all is frozen -/
theorem ER.back0 (z : ER C B G0 H G env σ) (s : Stp C H (gLend G H env) H' G') (ok : Ok3 C H' G') : ER0 C B G0 H' G' := by
  have z1 : ER0 C B G0 H (gLend G H env) := ⟨z.lend.1, z.z.g0.trans gLend_ge, fun a o h h' => by
    rcases gLend_of h' with q | ⟨hm, q⟩
    · exact z.z.fr a o h q
    · obtain ⟨i, ds, q⟩ := ownA_mem hm
      exact (z.own i a _ q).2.2.1, z.z.keep⟩
  exact z1.step s ok
def frzE (env : EnvS) : EnvS := (lendE env).map fun o => o.map Slot.sh
theorem ER.frozen (z : ER C B G0 H G env σ) (s : Stp C H (gLend G H env) H' G') (ok : Ok3 C H' G') : ER C B G0 H' G' (frzE env) σ := by
  have vr := z.lend.2
  have nos : ∀ (i : Nat) (p : Addr) (d : D), (frzE env)[i]? ≠ some (some (.own p d)) := fun i p d h => by
    unfold frzE at h
    rw [List.getElem?_map] at h
    cases q : (lendE env)[i]? with
    | none => rw [q] at h; cases h
    | some o =>
      rw [q] at h
      cases o <;> cases h
  refine ⟨z.back0 s ok, by unfold frzE; rw [List.length_map]; exact vr.len, fun i d h => ?_, fun i p d h => absurd h (nos i p d), fun i j p d e h _ => absurd h (nos i p d)⟩
  unfold frzE at h
  rw [List.getElem?_map] at h
  cases q : (lendE env)[i]? with
  | none => rw [q] at h; cases h
  | some o =>
    rw [q] at h
    cases o with
    | none => cases h
    | some e =>
      have h : some (some (Slot.sh e)) = some (some (Slot.sh d)) := h
      cases h
      obtain ⟨v, h1, h2⟩ := vr.get i _ q
      exact ⟨v, h1, h2.mono s.ge⟩
end

/-! ### statements -/
structure KS where
  nx : EnvS → Prop
  rt : D → Prop
  bk : EnvS → Prop := fun _ => False
  ct : EnvS → Prop := fun _ => False
  ex : Exn → Prop := fun _ => False
abbrev MSt := EnvS → KS → Prop
def RetOk (C : C3) (fr : Bool) (B H G : Hp) (d : D) (v : V) : Prop := match fr with
  | false => Rp C.K G d v
  | true => ∃ p o, v = .ref p ∧ B p = none ∧ G p = none ∧ H p = some o ∧ C.sp p = false ∧ ObjD C.K G d o
structure Fin (C : C3) (mg : Str → Option Value) (E : XK) (fr : Bool) (B G0 : Hp) (Ks : KS) (En : Ends) : Prop where
  nx : ∀ env σ H G, ER C B G0 H G env σ → Ks.nx env → En.nx σ H
  bk : ∀ env σ H G, ER C B G0 H G env σ → Ks.bk env → En.bk σ H
  ct : ∀ env σ H G, ER C B G0 H G env σ → Ks.ct env → En.ct σ H
  rt : ∀ d v H G, ER0 C B G0 H G → RetOk C fr B H G d v → Ks.rt d → En.rt v H
  ex : ∀ x cls d H, Ks.ex x → (∀ a o, C.sp a = false → B a = some o → nT H a = some o) → (∀ a o, G0 a = some o → H a = some o) → Iv C H → XRep mg x cls d H G0 → E cls d H
def liftS (C : C3) (mg : Str → Option Value) (E : XK) (fr : Bool) (B G0 : Hp) (m : MSt) : TS := fun En σ H => ∃ env G Ks, ER C B G0 H G env σ ∧ m env Ks ∧ Fin C mg E fr B G0 Ks En
abbrev MS (X : Cx) (C : C3) (E : XK) (fr : Bool) (B : Hp) (st : Stmt) (m : MSt) : Prop := ∀ G0, PS X st (liftS C X.mg E fr B G0 m)
abbrev MSs (X : Cx) (C : C3) (E : XK) (fr : Bool) (B : Hp) (st : List Stmt) (m : MSt) : Prop := ∀ G0, PSs X st (liftS C X.mg E fr B G0 m)
theorem PS.imp {X : Cx} {st : Stmt} {t t' : TS} (h : PS X st t) (q : ∀ En σ H, t' En σ H → t En σ H) : PS X st t' := ⟨fun pins s σ H En I w => h.run pins s σ H En I (q En σ H w)⟩
theorem PSs.imp {X : Cx} {st : List Stmt} {t t' : TS} (h : PSs X st t) (q : ∀ En σ H, t' En σ H → t En σ H) : PSs X st t' := ⟨fun pins s σ H En I w => h.run pins s σ H En I (q En σ H w)⟩
theorem Fin.px {C : C3} {mg : Str → Option Value} {E : XK} {fr : Bool} {B G0 H G G1 : Hp} {Ks : KS} {En : Ends} (f : Fin C mg E fr B G0 Ks En) (z : ER0 C B G0 H G) (e : Same G G1) : PostX C mg H G1 Ks.ex E := fun x cls d H' k s ok r =>
  f.ex x cls d H' k (fun a o sp h => s.nx a o sp (z.keep a o sp h)) (fun a o h => (ok.sub a o (e _ _ (z.g0 a o h))).2) ok.iv (r.mono (z.g0.trans e))
section
variable {X : Cx} {C : C3} {E : XK} {fr : Bool} {B G0 : Hp} {st : Stmt} {rest : List Stmt} {e : Expr} {m : MEt} {ms ms' : MSt} {pos : Pos}
def mNext : MSt := fun env Ks => Ks.nx env
def mSeq (a b : MSt) : MSt := fun env Ks => a env { Ks with nx := fun env' => b env' Ks }
theorem mss_nil : MSs X C E fr B [] mNext := fun G0 => PSs.imp pss_nil fun En σ H ⟨env, G, Ks, er, hm, f⟩ => f.nx env σ H G er hm
theorem mss_cons (h1 : MS X C E fr B st ms) (h2 : MSs X C E fr B rest ms') : MSs X C E fr B (st :: rest) (mSeq ms ms') := fun G0 => PSs.imp (pss_cons (h1 G0) (h2 G0)) fun En σ H ⟨env, G, Ks, er, hm, f⟩ =>
  ⟨env, G, _, er, hm, ⟨fun env' σ' H' G' er' k => ⟨env', G', Ks, er', k, f⟩, f.bk, f.ct, f.rt, f.ex⟩⟩
theorem mss_one (h1 : MS X C E fr B st ms) : MSs X C E fr B [st] ms := fun G0 => pss_one (h1 G0)
theorem ms_pass : MS X C E fr B (.Pass pos) mNext := fun G0 => PS.imp ps_pass fun En σ H ⟨env, G, Ks, er, hm, f⟩ => f.nx env σ H G er hm
def mNever : MSt := fun _ _ => False
theorem ms_never : MS X C E fr B st mNever := fun G0 => PS.imp ps_never fun En σ H ⟨env, G, Ks, er, hm, f⟩ => hm
/-- x = e -/
def mSet (i : Nat) (m : MEt) : MSt := fun env Ks => m (viewE env) (fun d => Ks.nx (env.set i (some (.sh d)))) Ks.ex
theorem set_lift {i : Nat} {mg : Str → Option Value} {En : Ends} {σ : L2.St} {H : Hp} (h : liftS C mg E fr B G0 (mSet i m) En σ H) : tAsg (lift C mg E m) (gName i) En σ H := by
  obtain ⟨env, G, Ks, er, hm, f⟩ := h
  exact ⟨viewE env, G, _, Ks.ex, er.z.ok, er.vr, hm, fun d v H1 G1 s1 ok1 r1 k1 => f.nx _ _ H1 G1 ((er.step s1 ok1).set_sh r1) k1, f.px er.z (Same.refl _)⟩
theorem ms_set {i : Nat} {x : Str} {pos' : Pos} (hN : X.N.Nodup) (hi : X.N[i]? = some x) (hx : Loc X.env.scope x) (he : ME X C E e m) (hs : swapsWith e (some (.Name x pos')) pos.line X.env = pure false := by rfl) (hf : X.fn x = true ∨ X.env.scope.names.lookup x = some .local := by first | exact .inl rfl | exact .inr rfl | assumption) :
    MS X C E fr B (.Assign [.Name x pos'] e pos) (mSet i m) := fun G0 => PS.imp (ps_set hN hi hx he hs hf) fun En σ H h => set_lift h
/-- .. of a new list: the name's own -/
def mSetF (i : Nat) (m : MEt) : MSt := fun env Ks => m (viewE env) (fun d => ∀ p, Ks.nx (env.set i (some (.own p d)))) Ks.ex
theorem ER.fresh_own {H G H1 G1 : Hp} {env : EnvS} {σ : L2.St} (er : ER C B G0 H G env σ) (s1 : Stp C H G H1 G1) (ok1 : Ok3 C H1 G1) {i : Nat} {p : Addr} {o : HO} {d : D} (hp : nT H p = none) (gp : G1 p = none) (ho : H1 p = some o) (sp : C.sp p = false) (ob : ObjO C.K G1 d o) : ER C B G0 H1 G1 (env.set i (some (.own p d))) (σ.set i (some (.ref p))) := by
  refine (er.step s1 ok1).set_own sp ?_ gp ho ob fun j e c q => ?_
  · cases q : B p with
    | none => rfl
    | some u =>
      rw [er.z.keep p u sp q] at hp
      cases hp
  · obtain ⟨_, _, _, _, u, h5, h6⟩ := er.own j p e q
    rw [nT_of h5 h6.nt] at hp
    cases hp
theorem setF_lift {i : Nat} {mg : Str → Option Value} {En : Ends} {σ : L2.St} {H : Hp} (h : liftS C mg E fr B G0 (mSetF i m) En σ H) : tAsg (liftF C mg E m) (gName i) En σ H := by
  obtain ⟨env, G, Ks, er, hm, f⟩ := h
  exact ⟨viewE env, G, _, Ks.ex, er.z.ok, er.vr, hm, fun d p o H1 G1 s1 ok1 hp gp ho sp ob k1 => f.nx _ _ H1 G1 (er.fresh_own s1 ok1 hp gp ho sp ob.obj) (k1 p), f.px er.z (Same.refl _)⟩
theorem ms_setF {i : Nat} {x : Str} {pos' : Pos} (hN : X.N.Nodup) (hi : X.N[i]? = some x) (hx : Loc X.env.scope x) (he : MF X C E e m) (hs : swapsWith e (some (.Name x pos')) pos.line X.env = pure false := by rfl) (hf : X.fn x = true ∨ X.env.scope.names.lookup x = some .local := by first | exact .inl rfl | exact .inr rfl | assumption) :
    MS X C E fr B (.Assign [.Name x pos'] e pos) (mSetF i m) := fun G0 => PS.imp (ps_set hN hi hx he hs hf) fun En σ H h => setF_lift h
/-- own lists lent, the value flat -/
def mSetL (i : Nat) (m : MEt) : MSt := fun env Ks => m (lendE env) (fun d => flatD d = true ∧ Ks.nx (env.set i (some (.sh d)))) Ks.ex
theorem Rp.anyG {K : PySem.W.Frag} {G G' : Hp} {d : D} {v : V} (r : Rp K G d v) (f : flatD d = true) : Rp K G' d v := by
  cases r <;> first | exact absurd f Bool.false_ne_true | constructor
theorem ms_setL {i : Nat} {x : Str} {pos' : Pos} (hN : X.N.Nodup) (hi : X.N[i]? = some x) (hx : Loc X.env.scope x) (he : ME X C E e m) (hs : swapsWith e (some (.Name x pos')) pos.line X.env = pure false := by rfl) (hf : X.fn x = true ∨ X.env.scope.names.lookup x = some .local := by first | exact .inl rfl | exact .inr rfl | assumption) :
    MS X C E fr B (.Assign [.Name x pos'] e pos) (mSetL i m) := fun G0 => PS.imp (ps_set hN hi hx he hs hf) fun En σ H ⟨env, G, Ks, er, hm, f⟩ =>
  ⟨lendE env, _, _, Ks.ex, er.lend.1, er.lend.2, hm, fun d v H1 G1 s1 ok1 r1 k1 => f.nx _ _ H1 G ((er.back s1 ok1).set_sh (r1.anyG k1.1)) k1.2, f.px er.z gLend_ge⟩
/-- own lists frozen -/
def mSetC (i : Nat) (m : MEt) : MSt := fun env Ks => m (lendE env) (fun d => Ks.nx ((frzE env).set i (some (.sh d)))) Ks.ex
theorem ms_setC {i : Nat} {x : Str} {pos' : Pos} (hN : X.N.Nodup) (hi : X.N[i]? = some x) (hx : Loc X.env.scope x) (he : ME X C E e m) (hs : swapsWith e (some (.Name x pos')) pos.line X.env = pure false := by rfl) (hf : X.fn x = true ∨ X.env.scope.names.lookup x = some .local := by first | exact .inl rfl | exact .inr rfl | assumption) :
    MS X C E fr B (.Assign [.Name x pos'] e pos) (mSetC i m) := fun G0 => PS.imp (ps_set hN hi hx he hs hf) fun En σ H ⟨env, G, Ks, er, hm, f⟩ =>
  ⟨lendE env, _, _, Ks.ex, er.lend.1, er.lend.2, hm, fun d v H1 G1 s1 ok1 r1 k1 => f.nx _ _ H1 G1 ((er.frozen s1 ok1).set_sh r1) k1, f.px er.z gLend_ge⟩
/-- x = [.. for ..] on one line -/
theorem ms_setLc {i : Nat} {y : Str} {py : Pos} {elt tg iter : Expr} {ifs : List Expr} {scope : Scope} {own : List (Str × Nat)} {pos spos : Pos} {t : Tgt} {mi : MIt} {tt : MTt} {te : MEt} (hK : X.K = C.K) (hc : X.calm = true) (hN : X.N.Nodup) (hy : X.N[i]? = some y) (hyl : X.env.scope.names.lookup y = some .local)
    (hsw : swapsWith (.ListComp elt [⟨tg, iter, ifs, 0⟩] scope pos) (some (.Name y py)) spos.line X.env = pure true) (hi : MI X C E tg iter mi) (ok : BlkOk X.N X.env.scope scope own) (hts : ∀ i ∈ t.slots, i ∈ own.map (·.2))
    (hg : ∀ (s : Shared) (H : Hp) (A : Addr) (cl : List (Str × Addr)) (fp : List Addr), PG (X.blk s H scope (compEnvC scope cl A X.env) fp) tg (gOf X.K t)) (ht : ∀ (s : Shared) (H : Hp) (A : Addr) (cl : List (Str × Addr)) (fp : List Addr), MTs (X.blk s H scope (compEnvC scope cl A X.env) fp) C E0 ifs tt)
    (he : ∀ (s : Shared) (H : Hp) (A : Addr) (cl : List (Str × Addr)) (fp : List Addr), ME (X.blk s H scope (compEnvC scope cl A X.env) fp) C E0 elt te) (hs : ∀ x, foldedSetIterable iter X.env x = pure x := by intro _; rfl) :
    MS X C E fr B (.Assign [.Name y py] (.ListComp elt [⟨tg, iter, ifs, 0⟩] scope pos) spos) (mSetF i (mLc t (own.map (·.2)) mi tt te)) := fun G0 =>
  PS.imp (ps_setLc hc hN hy hyl hsw hi ok hg ht he hs) fun En σ H h => by
    have q := setF_lift h
    exact lc_lift hK hts q
end
end L3
/-! L3h: further statements, calls of own defs, a def's promise -/
namespace L3
open PySem PySem.Spec PyProof.Rows L2
section
variable {X : Cx} {C : C3} {E : XK} {fr : Bool} {B : Hp} {st : Stmt} {a b : List Stmt} {e c o i : Expr} {es : List Expr} {m mi mv : MEt} {ms ms' : MSt} {tt : MTt} {pos p pos' apos : Pos}
theorem ER0.bfree {G0 H G : Hp} (z : ER0 C B G0 H G) {q : Addr} (sp : C.sp q = false) (hp : nT H q = none) : B q = none := by
  cases r : B q with
  | none => rfl
  | some u =>
    rw [z.keep q u sp r] at hp
    cases hp
/-! return -/
def mRet (m : MEt) : MSt := fun env Ks => m (lendE env) Ks.rt Ks.ex
theorem ms_ret (he : ME X C E e m) : MS X C E false B (.Return (some e) pos) (mRet m) := fun G0 => PS.imp (ps_ret he) fun En σ H ⟨env, G, Ks, er, hm, f⟩ =>
  ⟨lendE env, _, _, Ks.ex, er.lend.1, er.lend.2, hm, fun d v H1 G1 s1 ok1 r1 k1 => f.rt d v H1 G1 (er.back0 s1 ok1) r1 k1, f.px er.z gLend_ge⟩
theorem ms_retF (he : MF X C E e m) : MS X C E true B (.Return (some e) pos) (mRet m) := fun G0 => PS.imp (ps_ret he) fun En σ H ⟨env, G, Ks, er, hm, f⟩ =>
  ⟨lendE env, _, _, Ks.ex, er.lend.1, er.lend.2, hm, fun d q o H1 G1 s1 ok1 hp gp ho sp ob k1 => f.rt d _ H1 G1 (er.back0 s1 ok1) ⟨q, o, rfl, er.z.bfree sp hp, gp, ho, sp, ob⟩ k1, f.px er.z gLend_ge⟩
def ownL (env : EnvS) (j : Nat) (K : Addr → List D → Prop) : Prop := match env[j]? with
  | some (some (.own p (.lst ds))) => K p ds
  | _ => False
theorem ownL_inv {env : EnvS} {j : Nat} {K : Addr → List D → Prop} (h : ownL env j K) : ∃ (p : Addr) (ds : List D), env[j]? = some (some (Slot.own p (.lst ds))) ∧ K p ds := by
  unfold ownL at h
  split at h
  · rename_i p ds q
    exact ⟨p, ds, q, h⟩
  · exact h.elim
def ownK (env : EnvS) (j : Nat) (K : Addr → List (Int × D) → Prop) : Prop := match env[j]? with
  | some (some (.own p (.dic ds))) => K p ds
  | _ => False
theorem ownK_inv {env : EnvS} {j : Nat} {K : Addr → List (Int × D) → Prop} (h : ownK env j K) : ∃ (p : Addr) (ds : List (Int × D)), env[j]? = some (some (Slot.own p (.dic ds))) ∧ K p ds := by
  unfold ownK at h
  split at h
  · rename_i p ds q
    exact ⟨p, ds, q, h⟩
  · exact h.elim
/-- return x, x the name of a list of its own -/
def mRetO (j : Nat) : MSt := fun env Ks => ownL env j fun _ ds => Ks.rt (.lst ds)
theorem ms_retO (j : Nat) {x : Str} (hN : X.N[j]? = some x := by rfl) (hv : Vis X.env.scope x := by first | exact Or.inl rfl | exact Or.inr (Or.inl rfl) | exact Or.inr (Or.inr rfl)) (hd : (x == ("__debug__" : Str)) = false := by decide) (hcd : (x == ("__classdict__" : Str)) = false := by decide) :
    MS X C E true B (.Return (some (.Name x p)) pos) (mRetO j) := fun G0 => PS.imp (ps_ret (pe_var hN hv hd hcd)) fun En σ H ⟨env, G, Ks, er, hm, f⟩ => by
  obtain ⟨q, ds, h, k⟩ := ownL_inv hm
  obtain ⟨h1, h2, h3, h4, o, h5, h6⟩ := er.own j q _ h
  refine ⟨_, h1, f.rt _ _ H G er.z ⟨q, o, rfl, h3, h4, h5, h2, ?_⟩ k⟩
  cases h6 with
  | lst r => exact .lst r
/-! if, while, for -/
def mIfS (t : MTt) (a b : MSt) : MSt := fun env Ks => t (lendE env) (fun k => if k = true then a env Ks else b env Ks) Ks.ex
theorem ms_if (hc : MT X C E c tt) (ha : MSs X C E fr B a ms) (hb : MSs X C E fr B b ms') : MS X C E fr B (.If c a b pos) (mIfS tt ms ms') := fun G0 => PS.imp (ps_if hc (ha G0) (hb G0)) fun En σ H ⟨env, G, Ks, er, hm, f⟩ =>
  ⟨lendE env, _, _, Ks.ex, er.lend.1, er.lend.2, hm, fun k H1 G1 s1 ok1 k1 => by
    cases k with
    | true => exact ⟨env, G, Ks, er.back s1 ok1, k1, f⟩
    | false => exact ⟨env, G, Ks, er.back s1 ok1, k1, f⟩, f.px er.z gLend_ge⟩
def whileD (t : MTt) (b : MSt) (Ks : KS) : Nat → EnvS → Prop
  | 0, _ => False
  | n + 1, env => t (lendE env) (fun k => if k = true then b env { Ks with nx := whileD t b Ks n, ct := whileD t b Ks n, bk := Ks.nx } else Ks.nx env) Ks.ex
def mWhile (t : MTt) (b : MSt) : MSt := fun env Ks => ∃ n, whileD t b Ks n env
theorem ms_while (hp : PassesOwn (model X.prog X.w) X.A X.env X.xe) (hc : MT X C E c tt) (hb : MSs X C E fr B a ms) : MS X C E fr B (.While c a [] pos) (mWhile tt ms) := fun G0 => PS.imp (ps_while hp hc (hb G0)) fun En σ H ⟨env, G, Ks, er, hm, f⟩ => by
  obtain ⟨n, hm⟩ := hm
  refine ⟨fun n σ H => ∃ env G, ER C B G0 H G env σ ∧ whileD tt ms Ks n env, ⟨n, env, G, er, hm⟩, ?_⟩
  rintro n σ H ⟨env, G, er, hm⟩
  cases n with
  | zero => exact hm.elim
  | succ n =>
    refine ⟨lendE env, _, _, Ks.ex, er.lend.1, er.lend.2, hm, fun k H1 G1 s1 ok1 k1 => ?_, f.px er.z gLend_ge⟩
    cases k with
    | true =>
      refine iteT ⟨fun σ' H' => ∃ env G, ER C B G0 H' G env σ' ∧ whileD tt ms Ks n env, fun σ' H' h => ⟨n, Nat.lt_succ_self n, h⟩, env, G, _, er.back s1 ok1, k1, ?_⟩
      exact ⟨fun env σ H G er k => ⟨env, G, er, k⟩, fun env σ H G er k => f.nx env σ H G er k, fun env σ H G er k => ⟨env, G, er, k⟩, f.rt, f.ex⟩
    | false => exact iteF (f.nx env σ H1 G (er.back s1 ok1) k1)
def setS (env : EnvS) : List (Nat × D) → EnvS
  | [] => env
  | p :: r => setS (env.set p.1 (some (.sh p.2))) r
theorem ER.setAll {G0 H G : Hp} : ∀ {l : List (Nat × D)} {ws : List (Nat × V)} {env : EnvS} {σ : L2.St}, Paired (fun (p : Nat × D) (w : Nat × V) => p.1 = w.1 ∧ Rp C.K G p.2 w.2) l ws → ER C B G0 H G env σ → ER C B G0 H G (setS env l) (setV σ ws) := by
  intro l
  induction l with
  | nil => intro ws env σ q h; cases q; exact h
  | cons p l ih =>
    intro ws env σ q h
    cases q with
    | cons q1 q2 =>
      rename_i w ws'
      obtain ⟨e, r⟩ := q1
      have z := ih q2 (h.set_sh (i := p.1) r)
      show ER C B G0 H G (setS (env.set p.1 (some (.sh p.2))) l) (setV (σ.set w.1 (some w.2)) ws')
      rw [← e]
      exact z
def forD (t : Tgt) (b : MSt) (Ks : KS) : List D → EnvS → Prop
  | [], env => Ks.nx env
  | d :: ds, env => ∃ l, bindT t d = some l ∧ b (setS env l) { Ks with nx := forD t b Ks ds, ct := forD t b Ks ds, bk := Ks.nx }
def mFor (t : Tgt) (mi : MIt) (b : MSt) : MSt := fun env Ks => mi (viewE env) (fun ds => forD t b Ks ds env) Ks.ex
theorem ER.down {G0 Gi H Hi G : Hp} {env : EnvS} {σ : L2.St} (z : ER0 C B G0 Hi Gi) (er : ER C B Gi H G env σ) : ER C B G0 H G env σ :=
  ⟨⟨er.z.ok, z.g0.trans er.z.g0, fun a o h h' => by
    cases q : Gi a with
    | some u => exact z.fr a u h q
    | none => exact er.z.fr a o q h', er.z.keep⟩, er.len, er.sh, er.own, er.dis⟩
theorem ER0.down {G0 Gi H Hi G : Hp} (z : ER0 C B G0 Hi Gi) (er : ER0 C B Gi H G) : ER0 C B G0 H G :=
  ⟨er.ok, z.g0.trans er.g0, fun a o h h' => by
    cases q : Gi a with
    | some u => exact z.fr a u h q
    | none => exact er.fr a o q h', er.keep⟩
theorem Fin.up {mg : Str → Option Value} {G0 Gi Hi : Hp} {Ks : KS} {En : Ends} (z : ER0 C B G0 Hi Gi) (f : Fin C mg E fr B G0 Ks En) : Fin C mg E fr B Gi Ks En :=
  ⟨fun env σ H G er k => f.nx env σ H G (er.down z) k, fun env σ H G er k => f.bk env σ H G (er.down z) k, fun env σ H G er k => f.ct env σ H G (er.down z) k,
    fun d v H G er r k => f.rt d v H G (z.down er) r k, fun x cls d H k h1 h2 iv r => f.ex x cls d H k h1 (fun a o q => h2 a o (z.g0 a o q)) iv (r.mono z.g0)⟩
theorem ms_for {tg iter : Expr} {t : Tgt} {mi : MIt} (hp : PassesOwn (model X.prog X.w) X.A X.env X.xe) (hc : X.calm = true) (hK : X.K = C.K) (hi : MI X C E tg iter mi) (hg : PG X tg (gOf X.K t)) (hb : MSs X C E fr B a ms)
    (hs : ∀ x, foldedSetIterable iter X.env x = pure x := by intro _; rfl) : MS X C E fr B (.For tg iter a [] pos) (mFor t mi ms) := fun G0 => by
  -- the body's wishes are told of the frozen heap at the loop's start: any will do
  refine ⟨fun pins s σ H En I h => ?_⟩
  obtain ⟨env, G, Ks, er, hm, f⟩ := h
  have hall : ∀ Gi, PS X (.For tg iter a [] pos) (tFor (liftI C X.mg E mi) (gOf X.K t) (liftS C X.mg E fr B Gi ms)) := fun Gi => ps_for hp hc hi hg (hb Gi) hs
  refine PS.run (t := fun En σ H => (liftI C X.mg E mi) σ H fun J H1 => ∃ Gi : Hp, ∃ W : Nat → Nat → L2.St → Hp → Prop, (∃ m, W 0 m σ H1) ∧ ∀ i m σ H, W i m σ H →
    (J.stop i H ∧ En.nx σ H) ∨ (J.go i H ∧ ∃ N : L2.St → Hp → Prop, (∀ σ' H', N σ' H' → ∃ m', m' < m ∧ W (i + 1) m' σ' H') ∧ ∀ x H', J.yld i H x H' → gOf X.K t x σ H' fun σ2 H2 => liftS C X.mg E fr B Gi ms { En with nx := N, ct := N, bk := En.nx } σ2 H2)) ?_ pins s σ H En I ?_
  · -- the loop with the frozen heap chosen behind the iterator's making
    have hb' : PSs X a (fun En σ H => ∃ Gi, liftS C X.mg E fr B Gi ms En σ H) := ⟨fun pins s σ H En I ⟨Gi, h⟩ => (hb Gi).run pins s σ H En I h⟩
    refine PS.imp (ps_for hp hc hi hg hb' hs) fun En σ H h => ?_
    obtain ⟨env, G, Kl, KX, ok, vr, hm, k, px⟩ := h
    refine ⟨env, G, Kl, KX, ok, vr, hm, fun ds J H' G' s1 ok1 it kl => ?_, px⟩
    obtain ⟨Gi, W, w0, turn⟩ := k ds J H' G' s1 ok1 it kl
    refine ⟨W, w0, fun i m σ H w => ?_⟩
    rcases turn i m σ H w with q | ⟨go, N, hN, y⟩
    · exact .inl q
    · refine .inr ⟨go, N, hN, fun x H' yy => ?_⟩
      have gmono : ∀ {t : Tgt} {v : V} {σ : L2.St} {H : Hp} {Q Q' : L2.St → Hp → Prop}, (∀ σ' H', Q σ' H' → Q' σ' H') → gOf X.K t v σ H Q → gOf X.K t v σ H Q' := by
        intro t v σ H Q Q' hq
        cases t with
        | nm i => exact fun h => hq _ _ h
        | tp is =>
          have gn : ∀ (is : List Nat) (vs : List V) (σ : L2.St), gNames is vs σ H Q → gNames is vs σ H Q' := by
            intro is
            induction is with
            | nil => exact fun vs σ h => ⟨h.1, hq _ _ h.2⟩
            | cons i is ih => exact fun vs σ ⟨v, r, e, h⟩ => ⟨v, r, e, ih r _ h⟩
          exact fun ⟨a, xs, e1, e2, e3, h⟩ => ⟨a, xs, e1, e2, e3, gn is xs σ h⟩
      exact gmono (fun σ' H' h => ⟨Gi, h⟩) (y x H' yy)
  · refine ⟨viewE env, G, _, Ks.ex, er.z.ok, er.vr, hm, fun ds J H1 G1 s1 ok1 it k1 => ?_, f.px er.z (Same.refl _)⟩
    have z1 := er.z.step s1 ok1
    have er1 : ER C B G1 H1 G1 env σ := ⟨⟨ok1, Same.refl _, fun a o h h' => absurd (h.symm.trans h') (fun z => nomatch z), z1.keep⟩, (er.step s1 ok1).len, (er.step s1 ok1).sh, (er.step s1 ok1).own, (er.step s1 ok1).dis⟩
    have f1 := f.up z1
    refine ⟨G1, fun i m σ H => m = ds.length - i ∧ i ≤ ds.length ∧ ∃ env G, ER C B G1 H G env σ ∧ forD t ms Ks (ds.drop i) env, ⟨ds.length, by simp, Nat.zero_le _, env, G1, er1, by simpa using k1⟩, ?_⟩
    rintro i m σ2 H2 ⟨rfl, hi, env2, G2, er2, k2⟩
    by_cases hlt : i < ds.length
    · have hd : ds[i]? = some ds[i] := List.getElem?_eq_getElem hlt
      obtain ⟨hgo, hy⟩ := it.go i ds[i] H2 G2 hd er2.z.g0 er2.z.ok
      rw [List.drop_eq_getElem_cons hlt] at k2
      obtain ⟨l, hb2, k2⟩ := k2
      refine .inr ⟨hgo, fun σ' H' => i + 1 ≤ ds.length ∧ ∃ env G, ER C B G1 H' G env σ' ∧ forD t ms Ks (ds.drop (i + 1)) env, fun σ' H' hn => ⟨ds.length - (i + 1), by omega, rfl, hn⟩, fun x H3 yy => ?_⟩
      obtain ⟨G3, s3, ok3, r3⟩ := hy x H3 yy
      have er3 := er2.step s3 ok3
      refine gOf_ok (fun a o q => (ok3.sub a o q).2) (by rw [hK]; exact r3) hb2 fun ws pw _ => ⟨_, G3, _, ER.setAll (by rw [← hK]; exact pw) er3, k2, ?_⟩
      exact ⟨fun env σ H G er k => ⟨hlt, env, G, er, k⟩, fun env σ H G er k => f1.nx env σ H G er k, fun env σ H G er k => ⟨hlt, env, G, er, k⟩, f1.rt, f1.ex⟩
    · have e : i = ds.length := by omega
      subst e
      rw [List.drop_length] at k2
      exact .inl ⟨it.stop _ H2 G2 (Nat.le_refl _) er2.z.g0 er2.z.ok, f1.nx env2 σ2 H2 G2 er2 k2⟩
/-! an expression whose value is dropped -/
def mExpr (m : MEt) : MSt := fun env Ks => m (lendE env) (fun _ => Ks.nx env) Ks.ex
theorem ms_expr (he : ME X C E e m) (hs : swapsWith e none pos.line X.env = pure false := by rfl) : MS X C E fr B (.Expr e pos) (mExpr m) := fun G0 => PS.imp (ps_expr he hs) fun En σ H ⟨env, G, Ks, er, hm, f⟩ =>
  ⟨lendE env, _, _, Ks.ex, er.lend.1, er.lend.2, hm, fun d v H1 G1 s1 ok1 r1 k1 => f.nx env σ H1 G (er.back s1 ok1) k1, f.px er.z gLend_ge⟩
theorem ms_doc {x j} : MS X C E fr B (.Expr (.Constant (.str x) j pos) pos') mNext := fun G0 => PS.imp ps_doc fun En σ H ⟨env, G, Ks, er, hm, f⟩ => f.nx env σ H G er hm
/-! names in a row = a tuple -/
def mSetT (t : Tgt) (m : MEt) : MSt := fun env Ks => m (viewE env) (fun d => ∃ l, bindT t d = some l ∧ Ks.nx (setS env l)) Ks.ex
theorem ms_setT {tg : Expr} {t : Tgt} (hK : X.K = C.K) (he : ME X C E e m) (hg : PG X tg (gOf X.K t)) (hs : swapsWithSole [tg] e pos.line X.env = pure false := by rfl) (hw : swappedStores [tg] e X.env = pure none := by rfl)
    (h1 : (assignEach [tg] X.env).map (·.2) = [assign tg X.env] := by rfl) : MS X C E fr B (.Assign [tg] e pos) (mSetT t m) := fun G0 => PS.imp (ps_asg he hg hs hw h1) fun En σ H ⟨env, G, Ks, er, hm, f⟩ =>
  ⟨viewE env, G, _, Ks.ex, er.z.ok, er.vr, hm, fun d v H1 G1 s1 ok1 r1 k1 => by
    obtain ⟨l, hb, k1⟩ := k1
    exact gOf_ok (fun a o q => (ok1.sub a o q).2) (by rw [hK]; exact r1) hb fun ws pw _ => f.nx _ _ H1 G1 (ER.setAll (by rw [← hK]; exact pw) (er.step s1 ok1)) k1, f.px er.z (Same.refl _)⟩
/-! x[i] = v, of a list of its own -/
def mSetIx (j : Nat) (mi mv : MEt) : MSt := fun env Ks => ownL env j fun p ds => mv (lendE env) (fun dv => flatD dv = true ∧ mi (lendE env) (fun di => match di with
  | .int k => (match ixN ds.length k with
    | some n => Ks.nx (env.set j (some (.own p (.lst (ds.set n dv)))))
    | none => False)
  | _ => False) Ks.ex) Ks.ex
theorem ms_setIx (j : Nat) {x : Str} {value : Expr} {xp sp : Pos} (hN : X.N[j]? = some x := by rfl) (hv : Vis X.env.scope x := by first | exact Or.inl rfl | exact Or.inr (Or.inl rfl) | exact Or.inr (Or.inr rfl)) (hd : (x == ("__debug__" : Str)) = false := by decide) (hcd : (x == ("__classdict__" : Str)) = false := by decide)
    (hi : ME X C E i mi) (he : ME X C E value mv)
    (ha : ∀ v, assign (.Subscript (.Name x xp) i sp) X.env v = (do
      let ov ← holding [v] (eval (.Name x xp) X.env)
      let iv ← holding [v, ov] (eval i X.env)
      standAt sp
      holding [v, ov, iv] (setItem ov iv v)
      release [v, ov, iv] []) := by intro _; rfl)
    (hs : swapsWithSole [.Subscript (.Name x xp) i sp] value pos.line X.env = pure false := by rfl) (hw : swappedStores [.Subscript (.Name x xp) i sp] value X.env = pure none := by rfl)
    (h1 : (assignEach [.Subscript (.Name x xp) i sp] X.env).map (·.2) = [assign (.Subscript (.Name x xp) i sp) X.env] := by rfl) :
    MS X C E fr B (.Assign [.Subscript (.Name x xp) i sp] value pos) (mSetIx j mi mv) := fun G0 => PS.imp (ps_asg he (pg_sub (pe_var hN hv hd hcd) hi set_list ha) hs hw h1) fun En σ H ⟨env, G, Ks, er, hm, f⟩ => by
  obtain ⟨q, ds, hq, hm⟩ := ownL_inv hm
  refine ⟨lendE env, _, _, Ks.ex, er.lend.1, er.lend.2, hm, fun dv v H1 G1 s1 ok1 r1 k1 => ?_, f.px er.z gLend_ge⟩
  obtain ⟨fl, k1⟩ := k1
  have er1 := er.back s1 ok1
  refine ⟨.ref q, (er1.own j q _ hq).1, lendE env, _, _, Ks.ex, er1.lend.1, er1.lend.2, k1, fun di iv H2 G2 s2 ok2 r2 k2 => ?_, f.px er1.z gLend_ge⟩
  have er2 := er1.back s2 ok2
  obtain ⟨_, _, _, _, ob2, h5, h6⟩ := er2.own j q _ hq
  obtain ⟨k, rfl, rfl⟩ : ∃ k, di = .int k ∧ iv = .int k := by cases r2 <;> first | exact k2.elim | exact ⟨_, rfl, rfl⟩
  dsimp only at k2
  cases h6 with
  | lst rl =>
    cases qn : ixN ds.length k with
    | none => rw [qn] at k2; exact k2.elim
    | some n =>
      rw [qn] at k2
      exact ⟨q, _, k, n, rfl, rfl, h5, by rw [← rl.length]; exact qn, f.nx _ _ _ G (er2.write hq (.lst (Rps.set (r1.anyG fl) n rl))) k2⟩
/-! d[k] = v, of a dict of its own -/
def mSetK (j : Nat) (mi mv : MEt) : MSt := fun env Ks => ownK env j fun p kvs => mv (lendE env) (fun dv => flatD dv = true ∧ mi (lendE env) (fun di => match di with
  | .int k => kvs.length < sizeLine ∧ Ks.nx (env.set j (some (.own p (.dic (putD kvs k dv)))))
  | _ => False) Ks.ex) Ks.ex
theorem ms_setK (j : Nat) {x : Str} {value : Expr} {xp sp : Pos} (hu : X.A.units + 1 < cLine) (hN : X.N[j]? = some x := by rfl) (hv : Vis X.env.scope x := by first | exact Or.inl rfl | exact Or.inr (Or.inl rfl) | exact Or.inr (Or.inr rfl)) (hd : (x == ("__debug__" : Str)) = false := by decide) (hcd : (x == ("__classdict__" : Str)) = false := by decide)
    (hi : ME X C E i mi) (he : ME X C E value mv) (hs : swapsWith value (some (.Subscript (.Name x xp) i sp)) pos.line X.env = pure false := by rfl) :
    MS X C E fr B (.Assign [.Subscript (.Name x xp) i sp] value pos) (mSetK j mi mv) := fun G0 => PS.imp (ps_dput hu (pe_var hN hv hd hcd) hi he hs) fun En σ H ⟨env, G, Ks, er, hm, f⟩ => by
  obtain ⟨q, kvs, hq, hm⟩ := ownK_inv hm
  refine ⟨lendE env, _, _, Ks.ex, er.lend.1, er.lend.2, hm, fun dv v H1 G1 s1 ok1 r1 k1 => ?_, f.px er.z gLend_ge⟩
  obtain ⟨fl, k1⟩ := k1
  have er1 := er.back s1 ok1
  refine ⟨.ref q, (er1.own j q _ hq).1, lendE env, _, _, Ks.ex, er1.lend.1, er1.lend.2, k1, fun di iv H2 G2 s2 ok2 r2 k2 => ?_, f.px er1.z gLend_ge⟩
  have er2 := er1.back s2 ok2
  obtain ⟨_, _, _, _, ob2, h5, h6⟩ := er2.own j q _ hq
  obtain ⟨k, rfl, rfl⟩ : ∃ k, di = .int k ∧ iv = .int k := by cases r2 <;> first | exact k2.elim | exact ⟨_, rfl, rfl⟩
  dsimp only at k2
  cases h6 with
  | dic rl => exact ⟨q, _, rfl, DPut.k (k := Sum.inl k) h5 (by rw [← rl.length]; exact k2.1), f.nx _ _ _ G (er2.write hq (.dic (RpK.put (r1.anyG fl) rl))) k2.2⟩
/-! x.append(e), extend, remove, clear, of a list of its own -/
def mAppend (j : Nat) (m : MEt) : MSt := fun env Ks => ownL env j fun p ds => m (viewE env) (fun d => ds.length < sizeLine ∧ Ks.nx (env.set j (some (.own p (.lst (ds ++ [d])))))) Ks.ex
theorem ms_append (j : Nat) {x : Str} {xp cp : Pos} (hN : X.N[j]? = some x := by rfl) (hv : Vis X.env.scope x := by first | exact Or.inl rfl | exact Or.inr (Or.inl rfl) | exact Or.inr (Or.inr rfl)) (hd : (x == ("__debug__" : Str)) = false := by decide) (hcd : (x == ("__classdict__" : Str)) = false := by decide)
    (h : PS X (.Expr (.Call (.Attribute (.Name x xp) "append" apos) [e] [] cp) pos) (tDrop (tBM X.K "list" rAppend (tVar j) (tCons (lift C X.mg E m) tNil)))) : MS X C E fr B (.Expr (.Call (.Attribute (.Name x xp) "append" apos) [e] [] cp) pos) (mAppend j m) := fun G0 => PS.imp h fun En σ H ⟨env, G, Ks, er, hm, f⟩ => by
  obtain ⟨q, ds, hq, hm⟩ := ownL_inv hm
  obtain ⟨h1, h2, h3, h4, ob, h5, h6⟩ := er.own j q _ hq
  cases h6 with
  | lst rl =>
    refine ⟨.ref q, h1, .inl ⟨rfl, _, .inl (.inl h5)⟩, viewE env, G, _, Ks.ex, er.z.ok, er.vr, hm, fun d v H1 G1 s1 ok1 r1 k1 => ?_, f.px er.z (Same.refl _)⟩
    have er1 := er.step s1 ok1
    refine ⟨q, _, v, rfl, rfl, s1.nh q _ h2 h5, by rw [← rl.length]; exact k1.1, f.nx _ _ _ G1 (er1.write hq (.lst ((rl.mono s1.ge).append (.cons r1 .nil)))) k1.2⟩
def mExtend (j : Nat) (m : MEt) : MSt := fun env Ks => ownL env j fun p ds => m (viewE env) (fun d => match d with
  | .lst es => ds.length + es.length ≤ sizeLine ∧ Ks.nx (env.set j (some (.own p (.lst (ds ++ es)))))
  | _ => False) Ks.ex
theorem ms_extend (j : Nat) {x : Str} {xp cp : Pos} (hN : X.N[j]? = some x := by rfl) (h : PS X (.Expr (.Call (.Attribute (.Name x xp) "extend" apos) [e] [] cp) pos) (tDrop (tBM X.K "list" rExtend (tVar j) (tCons (lift C X.mg E m) tNil)))) : MS X C E fr B (.Expr (.Call (.Attribute (.Name x xp) "extend" apos) [e] [] cp) pos) (mExtend j m) := fun G0 => PS.imp h fun En σ H ⟨env, G, Ks, er, hm, f⟩ => by
  obtain ⟨q, ds, hq, hm⟩ := ownL_inv hm
  obtain ⟨h1, h2, h3, h4, ob, h5, h6⟩ := er.own j q _ hq
  cases h6 with
  | lst rl =>
    refine ⟨.ref q, h1, .inl ⟨rfl, _, .inl (.inl h5)⟩, viewE env, G, _, Ks.ex, er.z.ok, er.vr, hm, fun d v H1 G1 s1 ok1 r1 k1 => ?_, f.px er.z (Same.refl _)⟩
    have er1 := er.step s1 ok1
    cases r1 <;> first | exact (show False from k1).elim | skip
    rename_i ha ra
    exact ⟨q, _, _, _, rfl, rfl, s1.nh q _ h2 h5, (ok1.sub _ _ ha).2, by rw [← rl.length, ← ra.length]; exact k1.1, f.nx _ _ _ G1 (er1.write hq (.lst ((rl.mono s1.ge).append ra))) k1.2⟩
def mRemove (j : Nat) (m : MEt) : MSt := fun env Ks => ownL env j fun p ds => m (lendE env) (fun d => match d with
  | .int k => (match intsOf ds with
    | some ns => k ∈ ns ∧ Ks.nx (env.set j (some (.own p (.lst ((ns.erase k).map D.int)))))
    | none => False)
  | _ => False) Ks.ex
theorem ms_remove (j : Nat) {x : Str} {xp cp : Pos} (hN : X.N[j]? = some x := by rfl) (h : PS X (.Expr (.Call (.Attribute (.Name x xp) "remove" apos) [e] [] cp) pos) (tDrop (tBM X.K "list" rRemI (tVar j) (tCons (lift C X.mg E m) tNil)))) : MS X C E fr B (.Expr (.Call (.Attribute (.Name x xp) "remove" apos) [e] [] cp) pos) (mRemove j m) := fun G0 => PS.imp h fun En σ H ⟨env, G, Ks, er, hm, f⟩ => by
  obtain ⟨q, ds, hq, hm⟩ := ownL_inv hm
  obtain ⟨h1, h2, h3, h4, ob, h5, h6⟩ := er.own j q _ hq
  cases h6 with
  | lst rl =>
    refine ⟨.ref q, h1, .inl ⟨rfl, _, .inl (.inl h5)⟩, lendE env, _, _, Ks.ex, er.lend.1, er.lend.2, hm, fun d v H1 G1 s1 ok1 r1 k1 => ?_, f.px er.z gLend_ge⟩
    have er1 := er.back s1 ok1
    obtain ⟨k, rfl, rfl⟩ : ∃ k, d = .int k ∧ v = .int k := by cases r1 <;> first | exact (show False from k1).elim | exact ⟨_, rfl, rfl⟩
    dsimp only at k1
    cases qi : intsOf ds with
    | none => rw [qi] at k1; exact k1.elim
    | some ns =>
      rw [qi] at k1
      obtain ⟨km, k1⟩ := k1
      have e1 := intsOf_eq qi
      subst e1
      have e2 := rl.ints
      subst e2
      obtain ⟨jj, j1, j2, j3, j4⟩ := first_at km
      refine ⟨q, ns, k, jj, rfl, rfl, s1.nh q _ h2 h5, j2, j3, ?_⟩
      rw [j4]
      exact f.nx _ _ _ G (er1.write hq (.lst (Rps.ofInts _))) k1
def mClear (j : Nat) : MSt := fun env Ks => ownL env j fun p _ => Ks.nx (env.set j (some (.own p (.lst []))))
theorem ms_clear (j : Nat) {x : Str} {xp cp : Pos} (hN : X.N[j]? = some x := by rfl) (h : PS X (.Expr (.Call (.Attribute (.Name x xp) "clear" apos) [] [] cp) pos) (tDrop (tBM0 X.K "list" rClear (tVar j)))) : MS X C E fr B (.Expr (.Call (.Attribute (.Name x xp) "clear" apos) [] [] cp) pos) (mClear j) := fun G0 => PS.imp h fun En σ H ⟨env, G, Ks, er, hm, f⟩ => by
  obtain ⟨q, ds, hq, hm⟩ := ownL_inv hm
  obtain ⟨h1, h2, h3, h4, ob, h5, h6⟩ := er.own j q _ hq
  cases h6 with
  | lst rl => exact ⟨.ref q, h1, .inl ⟨rfl, _, .inl (.inl h5)⟩, q, _, rfl, rfl, h5, f.nx _ _ _ G (er.write hq (.lst .nil)) hm⟩
/-! raise -/
def mRaise (x : Str) : MSt := fun _ Ks => Ks.ex ⟨x, none⟩
theorem ms_raise {x : Str} {e : Expr} {A : Addr} (hc : X.calm = true) (tk : Takes X (fun cls d _ H => E cls d H)) (he : PMk X e (fun _ H Q => Q (.ref A) none H)) (g : X.mg x = some (.ref A)) : MS X C E fr B (.Raise (some e) none pos) (mRaise x) := fun G0 => PS.imp (ps_raise hc tk he) fun En σ H ⟨env, G, Ks, er, hm, f⟩ =>
  f.ex ⟨x, none⟩ (.ref A) none H hm er.z.keep (fun a o q => (er.z.ok.sub a o (er.z.g0 a o q)).2) er.z.ok.iv ⟨A, g, rfl, rfl⟩
end

/-! ### a def's promise -/
abbrev Spec := Option Addr → List D → (D → Prop) → (Exn → Prop) → Prop
def PostR (fr : Bool) (C : C3) (H G : Hp) (Kd : D → Prop) (Q : VK) : Prop := match fr with
  | false => PostV C H G Kd Q
  | true => PostF C H G Kd Q
def LSp (K : PySem.W.Frag) (mg : Str → Option Value) (fr : Bool) (n : Nat) (spec : Spec) : Sp := fun vs H Q E => ∃ (st : Option (Addr × Addr × List Int)) (fix : List (Addr × HO)) (tabs : List (Addr × Str)) (ds : List D) (G : Hp) (Kd : D → Prop) (KX : Exn → Prop),
  Ok3 ⟨K, st, fix, tabs⟩ H G ∧ Rps K G ds vs ∧ ds.length = n ∧ spec (st.map (·.1)) ds Kd KX ∧ PostR fr ⟨K, st, fix, tabs⟩ H G Kd Q ∧ PostX ⟨K, st, fix, tabs⟩ mg H G KX E
def startS (N : Nat) (ds : List D) : EnvS := ds.map (fun d => some (.sh d)) ++ List.replicate (N - ds.length) none
theorem fn_l3 {P : Program} {w : World} {K : PySem.W.Frag} {mg : Str → Option Value} {base : Heap} {x qual : Str} {st : Stmt} {f : Addr} {fd : FuncData} {N ps : List Str} {k n : Nat} {fr : Bool} {spec : Spec} (F : Fun K x qual st f fd) (S : FnScope N ps (defScope st)) (hn : ps.length = n) (m : Option Addr → MSt)
    (der : ∀ (s0 : Option (Addr × Addr × List Int)) (fix : List (Addr × HO)) (tabs : List (Addr × Str)) (B : Hp) (cdv : Value) (A : Around) (outer : List Env) (s : Shared) (H : Hp) (E : XK), Room k (A.deeper (envOfC qual (defScope st) s.heap.objs.size f cdv)) →
      MSs (cxOf (L2.CX P w) P w K mg base N qual (defScope st) f cdv A outer s H E) ⟨K, s0, fix, tabs⟩ E fr B (defBody st) (m (s0.map (·.1))))
    (pure : ∀ (sa : Option Addr) (ds : List D) (Kd : D → Prop) (KX : Exn → Prop), ds.length = n → spec sa ds Kd KX → m sa (startS N.length ds) { nx := fun _ => fr = false ∧ Kd .non, rt := Kd, ex := KX }) :
    FnOk P w K mg base (L2.CX P w) (k + 1) f fd ps (LSp K mg fr n spec) := by
  refine F.okX S (fun vs H Q E h => ?_) (fun cdv A outer s H vs Q E hr h => ?_)
  · obtain ⟨st, fix, tabs, ds, G, Kd, KX, ok, r, hl, _⟩ := h
    rw [← r.length, hl, hn]
  · obtain ⟨s0, fix, tabs, ds, G, Kd, KX, ok, r, hl, hs, pv, px⟩ := h
    refine ⟨_, der s0 fix tabs (nT H) cdv A outer s H E hr G, startS N.length ds, G, _, ?_, pure _ ds Kd KX hl hs, ?_⟩
    · have elen : ds.length = vs.length := r.length
      refine ⟨⟨ok, Same.refl _, fun a o h h' => absurd (h.symm.trans h') (fun z => nomatch z), fun _ _ _ h => h⟩, ?_, fun i d h => ?_, fun i p d h => ?_, fun i j p d e h _ => ?_⟩
      · unfold startS L2.start
        simp [elen]
      · unfold startS at h
        rw [List.getElem?_append] at h
        by_cases c : i < ds.length
        · rw [if_pos (by simpa using c), List.getElem?_map] at h
          cases q : ds[i]? with
          | none => rw [q] at h; cases h
          | some e =>
            rw [q] at h
            have h : some (some (Slot.sh e)) = some (some (Slot.sh d)) := h
            cases h
            obtain ⟨v, h1, h2⟩ := r.get q
            refine ⟨v, ?_, h2⟩
            unfold L2.start
            rw [List.getElem?_append, if_pos (by simpa [← elen] using c), List.getElem?_map, h1]
            rfl
        · rw [if_neg (by simpa using c), List.getElem?_replicate] at h
          split at h <;> cases h
      · exact absurd h (by
          unfold startS
          rw [List.getElem?_append]
          split
          · rw [List.getElem?_map]
            cases ds[i]? <;> intro z <;> cases z
          · rw [List.getElem?_replicate]
            split <;> intro z <;> cases z)
      · exact absurd h (by
          unfold startS
          rw [List.getElem?_append]
          split
          · rw [List.getElem?_map]
            cases ds[i]? <;> intro z <;> cases z
          · rw [List.getElem?_replicate]
            split <;> intro z <;> cases z)
    · refine ⟨fun env σ H' G' er k => ?_, fun _ _ _ _ _ k => k.elim, fun _ _ _ _ _ k => k.elim, fun d v H' G' z rr k => ?_, fun x cls d H' k h1 h2 iv r => ?_⟩
      · obtain ⟨e, k⟩ := k
        subst e
        exact pv .non .non H' G' ⟨er.z.keep, er.z.g0, er.z.fr⟩ er.z.ok .non k
      · cases fr with
        | false => exact pv d v H' G' ⟨z.keep, z.g0, z.fr⟩ z.ok rr k
        | true =>
          obtain ⟨p, o, e, hb, hg, ho, sp, ob⟩ := rr
          subst e
          exact pv d p o H' G' ⟨z.keep, z.g0, z.fr⟩ z.ok hb hg ho sp ob k
      · exact px x cls d H' k ⟨h1, Same.refl _, fun a o h h' => absurd (h.symm.trans h') (fun z => nomatch z)⟩ ⟨iv, fun a o q => ⟨(ok.sub a o q).1, h2 a o q⟩, ok.nt⟩ r

/-! ### a call of a def -/
/-- a def that stands at the name x, with its promise -/
structure Df (P : Program) (w : World) (K : PySem.W.Frag) (mg : Str → Option Value) (base : Heap) (x : Str) (k : Nat) (fr : Bool) (n : Nat) (spec : Spec) : Prop where
  ex : ∃ (f : Addr) (fd : FuncData) (ps : List Str), FnOk P w K mg base (L2.CX P w) k f fd ps (LSp K mg fr n spec) ∧ mg x = some (.ref f) ∧ PySem.W.keepIn K (.ref f) = true ∧ L2.Binds K fd ps []
def mCallU (sa : Option Addr) (spec : Spec) (r : MAt) : MEt := fun env Kd KX => r env (fun ds => spec sa ds Kd KX) KX
section
variable {X : Cx} {E : XK} {e : Expr} {es : List Expr} {r : MAt} {pos p : Pos} {s0 : Option (Addr × Addr × List Int)} {fix : List (Addr × HO)} {tabs : List (Addr × Str)} {K : PySem.W.Frag}
theorem call_post {fr : Bool} {n : Nat} {spec : Spec} {f : Addr} {fd : FuncData} {ps : List Str} {k : Nat} {H G : Hp} {ds : List D} {vs : List V} {Kd : D → Prop} {KX : Exn → Prop} {Q : VK} (F : FnOk X.prog X.w X.K X.mg X.base (L2.CX X.prog X.w) k f fd ps (LSp X.K X.mg fr n spec)) (ok : Ok3 ⟨X.K, s0, fix, tabs⟩ H G) (rr : Rps X.K G ds vs)
    (hs : spec (s0.map (·.1)) ds Kd KX) (hl : ds.length = n) (pv : PostR fr ⟨X.K, s0, fix, tabs⟩ H G Kd Q) (px : PostX ⟨X.K, s0, fix, tabs⟩ X.mg H G KX E) : LSp X.K X.mg fr n spec (vs ++ []) H Q E := by
  rw [List.append_nil]
  exact ⟨s0, fix, tabs, ds, G, Kd, KX, ok, rr, hl, hs, pv, px⟩
theorem me_call {x : Str} {k n : Nat} {spec : Spec} (F : Df X.prog X.w X.K X.mg X.base x k false n spec) (hr : Room k X.A) (hg : Gl X x) (hx : Passes (L2.CX X.prog X.w) X E) (hn : (e :: es).length = n) (ha : MA X ⟨X.K, s0, fix, tabs⟩ E (e :: es) r)
    (hdb : (x == ("__debug__" : Str)) = false := by decide) (he : starEach (e :: es) X.env = (false, eval e X.env) :: starEach es X.env := by rfl) (hpl : (backTo pos (starEach es X.env)).any (·.1) = false := by rfl) :
    ME X ⟨X.K, s0, fix, tabs⟩ E (.Call (.Name x p) (e :: es) [] pos) (mCallU (s0.map (·.1)) spec r) := by
  obtain ⟨f, fd, ps, F, hm, hk, hb⟩ := F.ex
  refine PE.imp (pe_call F hr hg hm hk hb .nil hx ha hdb he hpl) fun σ H Q ⟨env, G, Kd, KX, ok, vr, hm, pv, px⟩ => ?_
  exact ⟨env, G, _, KX, ok, vr, hm, fun ds vs H1 G1 s1 ok1 r1 n1 k1 => call_post (fr := false) F ok1 r1 k1 (n1.trans hn) (pv.on s1) (px.on ok s1), px⟩
theorem mf_call {x : Str} {k n : Nat} {spec : Spec} (F : Df X.prog X.w X.K X.mg X.base x k true n spec) (hr : Room k X.A) (hg : Gl X x) (hx : Passes (L2.CX X.prog X.w) X E) (hn : (e :: es).length = n) (ha : MA X ⟨X.K, s0, fix, tabs⟩ E (e :: es) r)
    (hdb : (x == ("__debug__" : Str)) = false := by decide) (he : starEach (e :: es) X.env = (false, eval e X.env) :: starEach es X.env := by rfl) (hpl : (backTo pos (starEach es X.env)).any (·.1) = false := by rfl) :
    MF X ⟨X.K, s0, fix, tabs⟩ E (.Call (.Name x p) (e :: es) [] pos) (mCallU (s0.map (·.1)) spec r) := by
  obtain ⟨f, fd, ps, F, hm, hk, hb⟩ := F.ex
  refine PE.imp (pe_call F hr hg hm hk hb .nil hx ha hdb he hpl) fun σ H Q ⟨env, G, Kd, KX, ok, vr, hm, pv, px⟩ => ?_
  exact ⟨env, G, _, KX, ok, vr, hm, fun ds vs H1 G1 s1 ok1 r1 n1 k1 => call_post (fr := true) F ok1 r1 k1 (n1.trans hn) (pv.on s1) (px.on ok s1), px⟩
end
end L3
/-! L3i: the built-ins by name; what the top leaves free -/
namespace L3
open PySem PySem.Spec PyProof.Rows L2
/-- names of built-ins that the module does not bind -/
structure Free (mg : Str → Option Value) : Prop where
  len : mg "len" = none
  set : mg "set" = none
  dict : mg "dict" = none
  range : mg "range" = none
  sorted : mg "sorted" = none
  list : mg "list" = none
  tuple : mg "tuple" = none
  min : mg "min" = none
  max : mg "max" = none
  int : mg "int" = none
  str : mg "str" = none
  isinstance : mg "isinstance" = none
  bool : mg "bool" = none
  zip : mg "zip" = none
  enumerate : mg "enumerate" = none
section
variable {X : Cx} {C : C3} {E : XK} {e a b : Expr} {es : List Expr} {r : MAt} {m : MEt} {pos p p2 q : Pos} {mg : Str → Option Value}
theorem me_len (F : Free X.mg) (hK : X.K = C.K) (hg : Gl X "len") (ha : MA X C E [e] r) (he : starEach (e :: []) X.env = (false, eval e X.env) :: starEach [] X.env := by rfl) (hpl : (backTo pos (starEach [] X.env)).any (·.1) = false := by rfl) : ME X C E (.Call (.Name "len" p) [e] [] pos) (mCall lenD r) :=
  me_callB (by rw [← hK]; exact call_len.or call_lenF) cd_len hg F.len PySem.boot_len ha (by decide) (by decide) he hpl
theorem mf_sorted (F : Free X.mg) (hK : X.K = C.K) (hc : X.calm = true) (hg : Gl X "sorted") (ha : MA X C E [e] r) (he : starEach (e :: []) X.env = (false, eval e X.env) :: starEach [] X.env := by rfl) (hpl : (backTo pos (starEach [] X.env)).any (·.1) = false := by rfl) : MF X C E (.Call (.Name "sorted" p) [e] [] pos) (mCall sortedD r) :=
  mf_callB (by rw [← hK]; exact cr_sortedI.or (call_sortedDI hc)) cf_sorted hg F.sorted (by decide +kernel) ha (by decide) (by decide) he hpl
theorem mf_list (F : Free X.mg) (hK : X.K = C.K) (hg : Gl X "list") (ha : MA X C E [e] r) (he : starEach (e :: []) X.env = (false, eval e X.env) :: starEach [] X.env := by rfl) (hpl : (backTo pos (starEach [] X.env)).any (·.1) = false := by rfl) : MF X C E (.Call (.Name "list" p) [e] [] pos) (mCall listD r) :=
  mf_callTy (by rw [← hK]; exact call_list_of) cf_list hg F.list (by decide +kernel) ha (by decide) (by decide) he hpl
theorem me_tuple (F : Free X.mg) (hK : X.K = C.K) (hg : Gl X "tuple") (ha : MA X C E [e] r) (he : starEach (e :: []) X.env = (false, eval e X.env) :: starEach [] X.env := by rfl) (hpl : (backTo pos (starEach [] X.env)).any (·.1) = false := by rfl) : ME X C E (.Call (.Name "tuple" p) [e] [] pos) (mCall tupleD r) :=
  me_callTy (by rw [← hK]; exact call_tupleN) cd_tuple hg F.tuple (by decide +kernel) ha (by decide) (by decide) he hpl
theorem me_max2 (F : Free X.mg) (hc : X.calm = true) (hg : Gl X "max") (ha : MA X C E [a, b] r) (he : starEach (a :: [b]) X.env = (false, eval a X.env) :: starEach [b] X.env := by rfl) (hpl : (backTo pos (starEach [b] X.env)).any (·.1) = false := by rfl) : ME X C E (.Call (.Name "max" p) [a, b] [] pos) (mCall (mm2 fun i j => if j > i then j else i) r) :=
  me_callB (call_max2 hc) (cd_mm2 _) hg F.max (by decide +kernel) ha (by decide) (by decide) he hpl
theorem me_min2 (F : Free X.mg) (hc : X.calm = true) (hg : Gl X "min") (ha : MA X C E [a, b] r) (he : starEach (a :: [b]) X.env = (false, eval a X.env) :: starEach [b] X.env := by rfl) (hpl : (backTo pos (starEach [b] X.env)).any (·.1) = false := by rfl) : ME X C E (.Call (.Name "min" p) [a, b] [] pos) (mCall (mm2 fun i j => if j < i then j else i) r) :=
  me_callB (call_min2 hc) (cd_mm2 _) hg F.min (by decide +kernel) ha (by decide) (by decide) he hpl
theorem me_minL (F : Free X.mg) (hK : X.K = C.K) (hc : X.calm = true) (hg : Gl X "min") (ha : MA X C E [e] r) (he : starEach (e :: []) X.env = (false, eval e X.env) :: starEach [] X.env := by rfl) (hpl : (backTo pos (starEach [] X.env)).any (·.1) = false := by rfl) : ME X C E (.Call (.Name "min" p) [e] [] pos) (mCall minL r) :=
  me_callB (by rw [← hK]; exact cr_min hc) cd_minL hg F.min (by decide +kernel) ha (by decide) (by decide) he hpl
theorem me_intB (F : Free X.mg) (hg : Gl X "int") (ha : MA X C E [e] r) (he : starEach (e :: []) X.env = (false, eval e X.env) :: starEach [] X.env := by rfl) (hpl : (backTo pos (starEach [] X.env)).any (·.1) = false := by rfl) : ME X C E (.Call (.Name "int" p) [e] [] pos) (mCall intD r) :=
  me_callTy (call_int1.or (fun pins s σ H xs us Q I rr ⟨a, n, e1, e2, e3, q⟩ => call_int_str pins s σ H xs us Q I rr ⟨a, n, e1, e2, e3, q⟩)) cd_int hg F.int (by decide +kernel) ha (by decide) (by decide) he hpl
theorem me_strI (F : Free X.mg) (hg : Gl X "str") (ha : MA X C E [e] r) (he : starEach (e :: []) X.env = (false, eval e X.env) :: starEach [] X.env := by rfl) (hpl : (backTo pos (starEach [] X.env)).any (·.1) = false := by rfl) : ME X C E (.Call (.Name "str" p) [e] [] pos) (mCall strD r) :=
  me_callTy call_str_int cd_str hg F.str (by decide +kernel) ha (by decide) (by decide) he hpl
theorem me_dictP (F : Free X.mg) (hK : X.K = C.K) (hc : X.calm = true) (hg : Gl X "dict") (ha : MA X C E [e] r) (he : starEach (e :: []) X.env = (false, eval e X.env) :: starEach [] X.env := by rfl) (hpl : (backTo pos (starEach [] X.env)).any (·.1) = false := by rfl) : ME X C E (.Call (.Name "dict" p) [e] [] pos) (mCall dictD r) :=
  me_dict hc hK hg F.dict ha he hpl
/-- len(set(xs)), a list of whole numbers -/
def mLenSet (m : MEt) : MEt := fun env Kd KX => m env (fun d => match d with
  | .lst xs => (match intsOf xs with
    | some ns => ns.length ≤ 4000 ∧ Kd (.int (dlen ns : Nat))
    | none => False)
  | _ => False) KX
theorem me_lenSet (F : Free X.mg) (hK : X.K = C.K) (hc : X.calm = true) (hg : Gl X "len") (hg2 : Gl X "set") (ha : ME X C E a m) (na : starEach [a] X.env = (false, eval a X.env) :: starEach [] X.env := by rfl) :
    ME X C E (.Call (.Name "len" p) [.Call (.Name "set" p2) [a] [] q] [] pos) (mLenSet m) := PE.imp (pe_lenSetG hg F.len hg2 F.set ha hc na) fun σ H Q ⟨env, G, Kd, KX, ok, vr, hm, pv, px⟩ => by
  refine ⟨env, G, _, KX, ok, vr, hm, fun d v H1 G1 s1 ok1 r1 k1 => ?_, px⟩
  cases r1 <;> first | exact (show False from k1).elim | skip
  rename_i h1 r1
  dsimp only at k1
  rename_i l vs ds
  cases qi : intsOf ds with
  | none => rw [qi] at k1; exact k1.elim
  | some ns =>
    rw [qi] at k1
    have e1 := intsOf_eq qi
    subst e1
    have e2 := r1.ints
    subst e2
    exact ⟨_, ns, rfl, .inl (.inl (ok1.sub _ _ h1).2), k1.1, pv _ _ H1 G1 s1 ok1 (.int _) k1.2⟩
/-- list(range(n)) -/
theorem mf_listRange (F : Free X.mg) (hc : X.calm = true) (hg : Gl X "list") (hg2 : Gl X "range") (ha : ME X C E a m) (na : starEach [.Call (.Name "range" p2) [a] [] q] X.env = (false, eval (.Call (.Name "range" p2) [a] [] q) X.env) :: starEach [] X.env := by rfl) (na2 : starEach [a] X.env = (false, eval a X.env) :: starEach [] X.env := by rfl) :
    MF X C E (.Call (.Name "list" p) [.Call (.Name "range" p2) [a] [] q] [] pos) (fun env Kd KX => m env (fun d => match d with | .int j => 0 ≤ j ∧ j ≤ 16777216 ∧ Kd (.lst ((List.range j.toNat).map fun i => .int (i : Nat))) | _ => False) KX) := PE.imp (pe_listRg hc hg F.list (prg_1 hg2 F.range ha na2) na) fun σ H Q ⟨env, G, Kd, KX, ok, vr, hm, pv, px⟩ => by
  refine ⟨env, G, _, KX, ok, vr, hm, fun d v H1 G1 s1 ok1 r1 k1 => ?_, px⟩
  obtain ⟨j, rfl, rfl⟩ : ∃ j, d = .int j ∧ v = .int j := by cases r1 <;> first | exact (show False from k1).elim | exact ⟨_, rfl, rfl⟩
  obtain ⟨h0, h1, k1⟩ := k1
  refine ⟨j, rfl, RgOk.of_le (by decide) h1 (by decide) h0, fun l hl => ?_⟩
  obtain ⟨o2, s2, g⟩ := ok1.new (o := .lst (rgV 0 j)) hl
  refine pv.on s1 _ l _ _ G1 s2 o2 (nT_none hl) g upd_same (ok1.iv.new hl) (.lst ?_) k1
  have e : rgV 0 j = ((List.range j.toNat).map fun i : Nat => ((i : Nat) : Int)).map V.int := by
    unfold rgV
    rw [List.map_map, Int.sub_zero]
    apply List.map_congr_left
    intro i _
    show V.int (0 + (i : Int)) = V.int (i : Int)
    rw [Int.zero_add]
  rw [e]
  have e2 : ((List.range j.toNat).map fun i => D.int (i : Nat)) = ((List.range j.toNat).map fun i : Nat => ((i : Nat) : Int)).map D.int := by rw [List.map_map]; rfl
  rw [e2]
  exact Rps.ofInts _
end
def mListRange (m : MEt) : MEt := fun env Kd KX => m env (fun d => match d with | .int j => 0 ≤ j ∧ j ≤ 16777216 ∧ Kd (.lst ((List.range j.toNat).map fun i => .int (i : Nat))) | _ => False) KX
section
variable {X : Cx} {C : C3} {E : XK} {e a b : Expr} {m : MEt} {mb mg' : MEt} {pos p p2 q : Pos}
theorem mf_cat (ha : ME X C E a m) (hb : ME X C E b mb) : MF X C E (.BinOp a .Add b pos) (m2 catD m mb) := mf_op op_cat of_cat ha hb
theorem me_add (hK : X.K = C.K) (ha : ME X C E a m) (hb : ME X C E b mb) : ME X C E (.BinOp a .Add b pos) (m2 addD m mb) := me_op (or_add hK) od_add ha hb
theorem me_sub (ha : ME X C E a m) (hb : ME X C E b mb) : ME X C E (.BinOp a .Sub b pos) (m2 subD m mb) := me_op op_sub od_sub ha hb
theorem me_mul (ha : ME X C E a m) (hb : ME X C E b mb) : ME X C E (.BinOp a .Mult b pos) (m2 mulD m mb) := me_op (op_mul.or op_rep) od_mul ha hb
theorem me_mod (ha : ME X C E a m) (hb : ME X C E b mb) : ME X C E (.BinOp a .Mod b pos) (m2 modD m mb) := me_op op_mod od_mod ha hb
theorem me_fdiv (ha : ME X C E a m) (hb : ME X C E b mb) : ME X C E (.BinOp a .FloorDiv b pos) (m2 fdivD m mb) := me_op op_fdivW od_fdiv ha hb
theorem me_pow (ha : ME X C E a m) (hb : ME X C E b mb) : ME X C E (.BinOp a .Pow b pos) (m2 powD m mb) := me_op op_pow od_pow ha hb
theorem pg_nm {i : Nat} {x : Str} (hN : X.N.Nodup) (hi : X.N[i]? = some x) (hx : Loc X.env.scope x) (hf : X.fn x = true ∨ X.env.scope.names.lookup x = some .local := by first | exact .inl rfl | exact .inr rfl | assumption) : PG X (.Name x pos) (gOf X.K (.nm i)) := pg_name hN hi hx hf
theorem pg_tp {es : List Expr} {k : Nat} {is : List Nat} (hc : X.calm = true) (h : PGs X es (gNames is))
    (hn : (assignEach es X.env).length = is.length := by rfl) (hst : (assignEach es X.env).findIdx? (·.1) = none := by rfl) : PG X (.Tuple es k pos) (gOf X.K (.tp is)) := pg_tup hc h hn hst
theorem pgs_nm {es : List Expr} {i : Nat} {is : List Nat} {x : Str} (hN : X.N.Nodup) (hi : X.N[i]? = some x) (hx : Loc X.env.scope x) (h2 : PGs X es (gNames is))
    (hf : X.fn x = true ∨ X.env.scope.names.lookup x = some .local := by first | exact .inl rfl | exact .inr rfl | assumption)
    (hs : (assignEach (.Name x p :: es) X.env).map (·.2) = assign (.Name x p) X.env :: (assignEach es X.env).map (·.2) := by rfl) : PGs X (.Name x p :: es) (gNames (i :: is)) := pgs_cons (pg_name hN hi hx hf) h2 hs
theorem pgs_no : PGs X [] (gNames []) := pgs_nil
end
end L3
/-! L3j: slices backwards, isinstance, pops, dicts of one's own -/
namespace L3
open PySem PySem.Spec PyProof.Rows L2
/-! ### xs[lo:hi:-1] of a list -/
def pickM {α : Type} (xs : List α) (lo hi : Option Int) : List α := (sliceRange (sliceBounds lo hi (some (-1)) xs.length).1 (sliceBounds lo hi (some (-1)) xs.length).2.1 (-1)).filterMap (xs[·]?)
theorem pick_len {α : Type} (xs : List α) : ∀ l : List Nat, (l.filterMap (xs[·]?)).length ≤ l.length := fun l => List.length_filterMap_le _ _
theorem Vals.pick {xs : List V} {us : List Value} (r : Vals xs us) : ∀ l : List Nat, Vals (l.filterMap (xs[·]?)) (l.filterMap (us[·]?))
  | [] => .nil
  | i :: l => by
    rw [List.filterMap_cons, List.filterMap_cons]
    cases q : xs[i]? with
    | none =>
      rw [r.none_of q]
      exact Vals.pick r l
    | some x =>
      obtain ⟨u, h1, h2⟩ := r.get q
      rw [h1]
      exact .cons h2 (Vals.pick r l)
theorem Rps.pick {K : PySem.W.Frag} {G : Hp} {ds : List D} {vs : List V} (r : Rps K G ds vs) : ∀ l : List Nat, Rps K G (l.filterMap (ds[·]?)) (l.filterMap (vs[·]?))
  | [] => .nil
  | i :: l => by
    rw [List.filterMap_cons, List.filterMap_cons]
    cases q : ds[i]? with
    | none =>
      rw [r.none_of q]
      exact Rps.pick r l
    | some d =>
      obtain ⟨v, h1, h2⟩ := r.get q
      rw [h1]
      exact .cons h2 (Rps.pick r l)
def tSlM (K : PySem.W.Frag) (te : TE) (tl th : TO) : TE := fun σ H Q => te σ H fun x H1 => tl σ H1 fun lo H2 => th σ H2 fun hi H3 => ∃ a xs, x = .ref a ∧ SqL K H3 a xs ∧ (pickM xs lo hi).length ≤ sizeLine ∧ ∀ p, H3 p = none → Q (.ref p) (upd H3 p (.lst (pickM xs lo hi)))
theorem sliceBounds_step (lo hi : Option Int) (n : Nat) : (sliceBounds lo hi (some (-1)) n).2.2 = -1 := rfl
theorem pe_slM {X : Cx} {e : Expr} {te : TE} {lo hi : Option Expr} {tl th : TO} {k : Nat} {p1 p2 p3 pos : Pos} (he : PE X e te) (hl : PO X lo tl) (hu : PO X hi th) :
    PE X (.Subscript e (.Slice lo hi (some (.UnaryOp .USub (.Constant (.int 1) k p1) p2)) p3) pos) (tSlM X.K te tl th) := by
  refine ⟨fun pins s σ H Q I h => ?_⟩
  refine Subscript_ (thn (he.run pins s σ H _ I h) fun v s1 ⟨x, H1, I1, r1, q1⟩ => ?_)
  have hst : PO X (some (.UnaryOp .USub (.Constant (.int 1) k p1) p2)) (tPart (tUn (rU fun i => .int (-i)) (tC (.int 1)))) := po_some (pe_un un_neg pe_int)
  refine wpAny_Slice (thn (hl.run pins s1 σ H1 _ I1 q1) fun vl s2 ⟨lo', H2, I2, pl, q2⟩ => ?_)
  refine thn (hu.run pins s2 σ H2 _ I2 q2) fun vu s3 ⟨hi', H3, I3, pu, q3⟩ => ?_
  refine thn (hst.run pins s3 σ H3 (fun o H4 => o = some (-1) ∧ H4 = H3) I3 ⟨1, rfl, -1, rfl, rfl, rfl⟩) fun vs s4 ⟨o, H4, I4, ps, eo, e4⟩ => ?_
  subst eo e4
  obtain ⟨a, xs, ex, hx, hz2, q⟩ := q3
  subst ex
  cases r1
  have I5 : Inv X pins σ H4 { s4 with heap := s4.heap.push { cls := .type "slice", data := .fields #[vl, vu, vs] } } := I4.kept (t' := s4.toks) fun b ob q => Heap.get?_push_of_some _ q
  obtain ⟨its, r, ht, hz⟩ := I5.list hx
  have hlen := r.length
  show wpAny (model X.prog X.w) X.A (subscriptTail e (.Slice lo hi (some (.UnaryOp .USub (.Constant (.int 1) k p1) p2)) p3) (.ref a) (.ref s4.heap.objs.size)) (EP X pins σ Q) X.xe { s4 with heap := s4.heap.push { cls := .type "slice", data := .fields #[vl, vu, vs] } }
  refine tail_any (ops := [.ref a, .ref s4.heap.objs.size]) ht.isList.typeIs (PySem.slot_list_getitem.lookup) ?_ (by with_unfolding_all rfl)
  refine wpAny_getItem_list_slice ht.isList (Heap.IsSliceOf.new _ vl vu vs) pl pu ps (by decide) ?_ (by rw [List.size_toArray]; omega)
  have e : slicePick its.toArray lo' hi' (some (-1)) = ((sliceRange (sliceBounds lo' hi' (some (-1)) xs.length).1 (sliceBounds lo' hi' (some (-1)) xs.length).2.1 (-1)).filterMap (its[·]?)).toArray := by
    unfold slicePick
    rw [List.size_toArray, ← hlen]
    simp only [List.getElem?_toArray]
    rfl
  rw [e]
  have rp := Vals.pick r (sliceRange (sliceBounds lo' hi' (some (-1)) xs.length).1 (sliceBounds lo' hi' (some (-1)) xs.length).2.1 (-1))
  refine ⟨.ref _, _, I5.laid (t' := s4.toks) (o := .lst (pickM xs lo' hi')) (fun b ob q => Heap.get?_push_of_some _ q) (Nat.le_refl _) ?_, rfl, q _ (I5.hok.fresh (Nat.le_refl _))⟩
  exact ⟨hz2, _, 0, rp, Heap.get?_push_size _ rfl⟩
section
variable {X : Cx} {C : C3} {E : XK} {e a b : Expr} {es : List Expr} {r : MAt} {m ma : MEt} {pos p p2 q : Pos} {mg : Str → Option Value}
def mSlM (ma : MEt) (ml mh : MOt) : MEt := fun env Kd KX => ma env (fun d => ml env (fun lo => mh env (fun hi => match d with
  | .lst xs => (pickM xs lo hi).length ≤ sizeLine ∧ Kd (.lst (pickM xs lo hi))
  | _ => False) KX) KX) KX
theorem mf_slM {lo hi : Option Expr} {k : Nat} {p1 p2 p3 : Pos} {ml mh : MOt} (hK : X.K = C.K) (ha : ME X C E a ma) (hl : MO X C E lo ml) (hh : MO X C E hi mh) : MF X C E (.Subscript a (.Slice lo hi (some (.UnaryOp .USub (.Constant (.int 1) k p1) p2)) p3) pos) (mSlM ma ml mh) :=
  PE.imp (pe_slM ha hl hh) fun σ H Q ⟨env, G, Kd, KX, ok, vr, hm, pv, px⟩ => by
  refine ⟨env, G, _, KX, ok, vr, hm, fun d x H1 G1 s1 ok1 r1 k1 => ⟨env, G1, _, KX, ok1, vr.mono s1.ge, k1, fun lo H2 G2 s2 ok2 k2 => ⟨env, G2, _, KX, ok2, vr.mono (s1.ge.trans s2.ge), k2, fun hi H3 G3 s3 ok3 k3 => ?_, px.on ok (s1.trans ok2 s2)⟩, px.on ok s1⟩, px⟩
  have s13 := s1.trans ok3 (s2.trans ok3 s3)
  obtain ⟨ds, rfl⟩ : ∃ ds, d = .lst ds := by cases d <;> first | exact (show False from k3).elim | exact ⟨_, rfl⟩
  cases r1 with | lst hd rd =>
  rename_i a vs
  have hd := s3.ge _ _ (s2.ge _ _ hd)
  have rd := (rd.mono s2.ge).mono s3.ge
  obtain ⟨kz, k3⟩ := k3
  have rp := Rps.pick rd (sliceRange (sliceBounds lo hi (some (-1)) ds.length).1 (sliceBounds lo hi (some (-1)) ds.length).2.1 (-1))
  have e : pickM vs lo hi = (sliceRange (sliceBounds lo hi (some (-1)) ds.length).1 (sliceBounds lo hi (some (-1)) ds.length).2.1 (-1)).filterMap (vs[·]?) := by
    unfold pickM
    rw [rd.length]
  rw [← e] at rp
  refine ⟨_, vs, rfl, .inl (.inl (ok3.sub _ _ hd).2), by rw [← rp.length]; exact kz, fun q hq => ?_⟩
  obtain ⟨o4, s4, g⟩ := ok3.new (o := .lst (pickM vs lo hi)) hq
  exact pv.on s13 _ q _ _ G3 s4 o4 (nT_none hq) g upd_same (ok3.iv.new hq) (.lst rp) k3
theorem pickM_from {α : Type} (xs : List α) (k : Nat) : pickM xs none (some (k : Int)) = (xs.drop (k + 1)).reverse := by
  unfold pickM
  have e1 : sliceBounds none (some (k : Int)) (some (-1)) xs.length = ((xs.length : Int) - 1, max (-1) (min (k : Int) ((xs.length : Int) - 1)), -1) := by
    have h : ¬ ((-1 : Int) > 0) := by decide
    have h2 : ¬ ((k : Int) < 0) := by omega
    simp only [sliceBounds, Option.getD_some, h, if_false, h2]
  rw [e1]
  dsimp only
  have e2 : sliceRange ((xs.length : Int) - 1) (max (-1) (min (k : Int) ((xs.length : Int) - 1))) (-1) = (List.range (xs.length - (k + 1))).map fun j => xs.length - 1 - j := by
    unfold sliceRange
    have h1 : ¬ ((-1 : Int) > 0) := by decide
    simp only [h1, if_false]
    by_cases h : k + 1 < xs.length
    · have c : (xs.length : Int) - 1 > max (-1) (min (k : Int) ((xs.length : Int) - 1)) := by omega
      have e : ((xs.length : Int) - 1 - max (-1) (min (k : Int) ((xs.length : Int) - 1)) - -1 - 1) / (- -1) = ((xs.length - (k + 1) : Nat) : Int) := by
        rw [show (- -1 : Int) = 1 by decide, Int.ediv_one]
        omega
      rw [if_pos c, e, Int.toNat_natCast]
      apply List.map_congr_left
      intro j hj
      have := List.mem_range.mp hj
      omega
    · have e0 : xs.length - (k + 1) = 0 := by omega
      rw [e0]
      by_cases c : (xs.length : Int) - 1 > max (-1) (min (k : Int) ((xs.length : Int) - 1))
      · omega
      · rw [if_neg c]
        rfl
  rw [e2]
  apply List.ext_getElem?
  intro i
  have hall : ∀ j ∈ List.range (xs.length - (k + 1)), xs[xs.length - 1 - j]? = ((xs.drop (k + 1)).reverse)[j]? := by
    intro j hj
    have hj := List.mem_range.mp hj
    rw [List.getElem?_reverse (by rw [List.length_drop]; omega), List.getElem?_drop, List.length_drop]
    congr 1
    omega
  have key : ∀ (l : List Nat) (ys : List α), (∀ j ∈ l, xs[xs.length - 1 - j]? = ys[j]?) → (l.map fun j => xs.length - 1 - j).filterMap (xs[·]?) = l.filterMap (ys[·]?) := by
    intro l ys
    induction l with
    | nil => intro _; rfl
    | cons j l ih =>
      intro h
      rw [List.map_cons, List.filterMap_cons, List.filterMap_cons, h j List.mem_cons_self, ih fun j hj => h j (List.mem_cons_of_mem _ hj)]
  rw [key _ _ hall]
  have rg : ∀ (ys : List α), (List.range ys.length).filterMap (ys[·]?) = ys := by
    intro ys
    have h := PySem.W.krv_all ys.toArray
    simpa using h
  have hl : xs.length - (k + 1) = ((xs.drop (k + 1)).reverse).length := by rw [List.length_reverse, List.length_drop]
  rw [hl, rg]
theorem pickM_all {α : Type} (xs : List α) : pickM xs none none = xs.reverse := by
  have h := PySem.W.krv_bounds xs.length
  unfold pickM
  rw [h]
  dsimp only
  rw [PySem.W.krv_sliceRange, PySem.W.krv_range, List.filterMap_reverse]
  congr 1
  have h := PySem.W.krv_all xs.toArray
  simpa using h

/-! ### isinstance -/
def tyN : D → Option String
  | .non => some "NoneType"
  | .bl _ => some "bool"
  | .int _ => some "int"
  | .str _ => some "str"
  | .lst _ => some "list"
  | .tup _ => some "tuple"
  | .dic _ => some "dict"
  | .ref _ => none
def isTy (T : String) (d : D) : Option Bool := (tyN d).bind fun t => kitB t T
theorem ty_rp {H G : Hp} {d : D} {v : V} {t : String} (ok : Ok3 C H G) (r : Rp C.K G d v) (h : tyN d = some t) : TyX C.K H v (.type t) := by
  cases r with
  | non => cases h; exact .base .non
  | bl b => cases h; exact .base (.bl b)
  | int i => cases h; exact .base (.int i)
  | str x => cases h; exact .base (.str x)
  | ref a => cases h
  | lst ha _ => cases h; exact .base (.lst (ok.sub _ _ ha).2)
  | tup ha _ =>
    cases h
    rcases ha with ⟨o, ha, _⟩ | ⟨o, its, n, h1, h2, _⟩
    · exact .fTuple (ok.sub _ _ ha).2
    · exact .kTuple h1 h2
  | dic ha _ => cases h; exact .fDict (ok.sub _ _ ha).2
@[irreducible] def isiD (T : String) (d : D) (Kd : D → Prop) : Prop := match isTy T d with
  | some b => Kd (.bl b)
  | none => False
theorem isiD_go {T : String} {d : D} {Kd : D → Prop} {b : Bool} (h : isTy T d = some b) (k : Kd (.bl b)) : isiD T d Kd := by
  unfold isiD
  rw [h]
  exact k
def mIsI (T : String) (m : MEt) : MEt := fun env Kd KX => m env (fun d => isiD T d Kd) KX
theorem me_isi {T : String} {x : Str} {tp : Pos} (F : Free X.mg) (hK : X.K = C.K) (hg : Gl X "isinstance") (ha : ME X C E a ma) (hx : Gl X x) (hm : X.mg x = none) (hb : bootBuiltins x = some (.type T)) (hn : x ≠ "__name__" := by decide) (hdb : (x == ("__debug__" : Str)) = false := by decide)
    (h1 : starEach [a, .Name x tp] X.env = (false, eval a X.env) :: starEach [.Name x tp] X.env := by rfl) (h2 : starEach [.Name x tp] X.env = (false, eval (.Name x tp) X.env) :: starEach [] X.env := by rfl) (hpl : (backTo pos (starEach [.Name x tp] X.env)).any (·.1) = false := by rfl) :
    ME X C E (.Call (.Name "isinstance" p) [a, .Name x tp] [] pos) (mIsI T ma) :=
  PE.imp (pe_callB call_isi hg F.isinstance PyProof.Rows.boot_isinstance (pa_cons ha (pa_cons (pe_bltn (v := .ty T) hx hm hb rfl hn hdb) pa_nil h2) h1) (by decide) (by decide) h1 hpl) fun σ H Q ⟨env, G, Kd, KX, ok, vr, hm, pv, px⟩ => by
  refine ⟨env, G, _, KX, ok, vr, hm, fun d v H1 G1 s1 ok1 r1 k1 => ?_, px⟩
  unfold isiD at k1
  dsimp only at k1
  split at k1
  · rename_i b q
    unfold isTy at q
    cases q2 : tyN d with
    | none => rw [q2] at q; cases q
    | some t =>
      rw [q2] at q
      exact ⟨v, .ty T, .type t, .type T, b, rfl, .ty T, by rw [hK]; exact ty_rp ok1 r1 q2, kit_ty q, pv _ _ H1 G1 s1 ok1 (.bl b) k1⟩
  · exact k1.elim
/-- isinstance(x, (S, T)) -/
@[irreducible] def isi2D (S T : String) (d : D) (Kd : D → Prop) : Prop := match isTy S d, isTy T d with
  | some b, some c => Kd (.bl (b || c))
  | _, _ => False
theorem isi2D_go {S T : String} {d : D} {Kd : D → Prop} {b c : Bool} (h : isTy S d = some b) (h2 : isTy T d = some c) (k : Kd (.bl (b || c))) : isi2D S T d Kd := by
  unfold isi2D
  rw [h, h2]
  exact k
def mIsI2 (S T : String) (m : MEt) : MEt := fun env Kd KX => m env (fun d => isi2D S T d Kd) KX
theorem me_isi2 {S T : String} {x y : Str} {tp tq ttp : Pos} {k : Nat} (F : Free X.mg) (hK : X.K = C.K) (hg : Gl X "isinstance") (ha : ME X C E a ma) (hx : Gl X x) (hm : X.mg x = none) (hb : bootBuiltins x = some (.type S)) (hy : Gl X y) (hm2 : X.mg y = none) (hb2 : bootBuiltins y = some (.type T)) (hn : x ≠ "__name__" := by decide) (hn2 : y ≠ "__name__" := by decide) (hdb : (x == ("__debug__" : Str)) = false := by decide) (hdb2 : (y == ("__debug__" : Str)) = false := by decide)
    (h1 : starEach [a, .Tuple [.Name x tp, .Name y tq] k ttp] X.env = (false, eval a X.env) :: starEach [.Tuple [.Name x tp, .Name y tq] k ttp] X.env := by rfl) (h2 : starEach [.Tuple [.Name x tp, .Name y tq] k ttp] X.env = (false, eval (.Tuple [.Name x tp, .Name y tq] k ttp) X.env) :: starEach [] X.env := by rfl) (hpl : (backTo pos (starEach [.Tuple [.Name x tp, .Name y tq] k ttp] X.env)).any (·.1) = false := by rfl)
    (h3 : starEach [.Name x tp, .Name y tq] X.env = (false, eval (.Name x tp) X.env) :: starEach [.Name y tq] X.env := by rfl) (h4 : starEach [.Name y tq] X.env = (false, eval (.Name y tq) X.env) :: starEach [] X.env := by rfl) :
    ME X C E (.Call (.Name "isinstance" p) [a, .Tuple [.Name x tp, .Name y tq] k ttp] [] pos) (mIsI2 S T ma) :=
  PE.imp (pe_callB call_isiT hg F.isinstance PyProof.Rows.boot_isinstance (pa_cons ha (pa_cons (pe_tup (pa_cons (pe_bltn (v := .ty S) hx hm hb rfl hn hdb) (pa_cons (pe_bltn (v := .ty T) hy hm2 hb2 rfl hn2 hdb2) pa_nil h4) h3)) pa_nil h2) h1) (by decide) (by decide) h1 hpl) fun σ H Q ⟨env, G, Kd, KX, ok, vr, hm, pv, px⟩ => by
  refine ⟨env, G, _, KX, ok, vr, hm, fun d v H1 G1 s1 ok1 r1 k1 => ?_, px⟩
  refine ⟨by show 2 ≤ sizeLine; decide, fun tq hq => ?_⟩
  unfold isi2D at k1
  dsimp only at k1
  split at k1
  · rename_i b c q q'
    obtain ⟨o2, s2⟩ := ok1.lay (o := .tup [.ty S, .ty T]) hq
    unfold isTy at q q'
    cases q2 : tyN d with
    | none => rw [q2] at q; cases q
    | some t =>
      rw [q2] at q q'
      have sS := s1.trans o2 s2
      refine ⟨v, tq, [.ty S, .ty T], .type t, [.type S, .type T], b || c, rfl, upd_same, .cons (.ty S) (.cons (.ty T) .nil), by rw [hK]; exact ty_rp o2 (r1.mono s2.ge) q2, ?_, pv _ _ _ _ sS o2 (.bl _) k1⟩
      refine kitAny_cons (kit_ty q) (fun e => ?_) (fun e => by rw [e]; rfl)
      rw [e, Bool.false_or]
      refine kitAny_cons (kit_ty q') (fun e2 => ?_) (fun e2 => e2)
      rw [e2]
      exact kitAny_nil
  · exact k1.elim
end

/-! ### statements -/
section
variable {X : Cx} {C : C3} {E : XK} {fr : Bool} {B : Hp} {st : Stmt} {e c o : Expr} {m : MEt} {ms : MSt} {pos p pos' apos : Pos}
/-- x = {} -/
def mSetD (i : Nat) : MSt := fun env Ks => ∀ p, Ks.nx (env.set i (some (.own p (.dic []))))
theorem ms_setD {i : Nat} {x : Str} {dpos : Pos} (hN : X.N.Nodup) (hi : X.N[i]? = some x) (hx : Loc X.env.scope x) (hs : swapsWith (.Dict [] [] dpos) (some (.Name x pos')) pos.line X.env = pure false := by rfl) (hf : X.fn x = true ∨ X.env.scope.names.lookup x = some .local := by first | exact .inl rfl | exact .inr rfl | assumption) :
    MS X C E fr B (.Assign [.Name x pos'] (.Dict [] [] dpos) pos) (mSetD i) := fun G0 => PS.imp (ps_set hN hi hx pe_dnewK hs hf) fun En σ H ⟨env, G, Ks, er, hm, f⟩ => fun q hq => by
  obtain ⟨o1, s1, g⟩ := er.z.ok.new (o := .dK []) hq
  exact f.nx _ _ _ G (er.fresh_own s1 o1 (nT_none hq) g upd_same (er.z.ok.iv.new hq) (.dic .nil)) (hm q)
/-- the dict is frozen ahead of the statement -/
def mFrzD (j : Nat) (ms : MSt) : MSt := fun env Ks => ownK env j fun _ kvs => ms (env.set j (some (.sh (.dic kvs)))) Ks
theorem ms_frzD (j : Nat) (h : MS X C E fr B st ms) : MS X C E fr B st (mFrzD j ms) := fun G0 => by
  refine ⟨fun pins s σ H En I hw => ?_⟩
  obtain ⟨env, G, Ks, er, hm, f⟩ := hw
  obtain ⟨q, kvs, hq, hm⟩ := ownK_inv hm
  obtain ⟨h1, h2, h3, h4, ob, h5, h6⟩ := er.own j q _ hq
  cases h6 with
  | dic rl =>
    rename_i kws
    obtain ⟨od, I1⟩ := I.lock h5 (by trivial)
    refine (h G0).run pins s σ _ En I1 ⟨_, upd G q (.frz od (.dK kws)), Ks, ?_, hm, f⟩
    have sg : Same G (upd G q (.frz od (.dK kws))) := same_new h4
    have er' := er.write hq (o' := .dK kws) (.dic rl)
    have ok1 : Ok3 C (upd H q (.frz od (.dK kws))) (upd G q (.frz od (.dK kws))) := ⟨er.z.ok.iv.upd h2 (upd_code h5 rfl), fun a o z => by
      by_cases c : a = q
      · subst c
        rw [upd_same] at z
        cases z
        exact ⟨h2, upd_same⟩
      · rw [upd_ne c] at z
        rw [upd_ne c]
        exact er.z.ok.sub a o z, fun a o z => by
      by_cases c : a = q
      · subst c
        rw [upd_same] at z
        cases z
        rfl
      · rw [upd_ne c] at z
        exact er.z.ok.nt a o z⟩
    have hj : j < env.length := (List.getElem?_eq_some_iff.mp hq).1
    have un : ∀ {i : Nat} {x : Slot}, (env.set j (some (.sh (.dic kvs))))[i]? = some (some x) → (i = j ∧ x = .sh (.dic kvs)) ∨ (i ≠ j ∧ env[i]? = some (some x)) := fun {i x} z => by
      by_cases c : j = i
      · subst c
        rw [List.getElem?_set_self hj] at z
        cases z
        exact .inl ⟨rfl, rfl⟩
      · rw [List.getElem?_set_ne c] at z
        exact .inr ⟨fun e => c e.symm, z⟩
    refine ⟨⟨ok1, er.z.g0.trans sg, fun a o z z' => ?_, fun a o sp z => ?_⟩, by simpa using er.len, fun i d z => ?_, fun i p d z => ?_, fun i k p d e z z' => ?_⟩
    · by_cases c : a = q
      · rw [c]; exact h3
      · rw [upd_ne c] at z'
        exact er.z.fr a o z z'
    · rw [nT_ne (ne_of_none z h3)]
      exact er.z.keep a o sp z
    · rcases un z with ⟨e1, e2⟩ | ⟨c, z⟩
      · cases e2
        subst e1
        exact ⟨_, h1, .dic upd_same (rl.mono sg)⟩
      · obtain ⟨v, v1, v2⟩ := er.sh i d z
        exact ⟨v, v1, v2.mono sg⟩
    · rcases un z with ⟨e1, e2⟩ | ⟨c, z⟩
      · cases e2
      · obtain ⟨v1, v2, v3, v4, ob2, v5, v6⟩ := er.own i p d z
        have npq : p ≠ q := fun e => c (er.dis i j q d (.dic kvs) (by rw [← e]; exact z) hq)
        exact ⟨v1, v2, v3, by rw [upd_ne npq]; exact v4, ob2, by rw [upd_ne npq]; exact v5, v6.mono sg⟩
    · rcases un z with ⟨e1, e2⟩ | ⟨c, z⟩
      · cases e2
      · rcases un z' with ⟨e1, e2⟩ | ⟨c', z'⟩
        · cases e2
        · exact er.dis i k p d e z z'
/-- x = [.. for ..], x not its own -/
theorem ms_setLcS {i : Nat} {y : Str} {py : Pos} {elt tg iter : Expr} {ifs : List Expr} {scope : Scope} {own : List (Str × Nat)} {pos spos : Pos} {t : Tgt} {mi : MIt} {tt : MTt} {te : MEt} (hK : X.K = C.K) (hc : X.calm = true) (hN : X.N.Nodup) (hy : X.N[i]? = some y) (hyl : X.env.scope.names.lookup y = some .local)
    (hsw : swapsWith (.ListComp elt [⟨tg, iter, ifs, 0⟩] scope pos) (some (.Name y py)) spos.line X.env = pure true) (hi : MI X C E tg iter mi) (ok : BlkOk X.N X.env.scope scope own) (hts : ∀ i ∈ t.slots, i ∈ own.map (·.2))
    (hg : ∀ (s : Shared) (H : Hp) (A : Addr) (cl : List (Str × Addr)) (fp : List Addr), PG (X.blk s H scope (compEnvC scope cl A X.env) fp) tg (gOf X.K t)) (ht : ∀ (s : Shared) (H : Hp) (A : Addr) (cl : List (Str × Addr)) (fp : List Addr), MTs (X.blk s H scope (compEnvC scope cl A X.env) fp) C E0 ifs tt)
    (he : ∀ (s : Shared) (H : Hp) (A : Addr) (cl : List (Str × Addr)) (fp : List Addr), ME (X.blk s H scope (compEnvC scope cl A X.env) fp) C E0 elt te) (hs : ∀ x, foldedSetIterable iter X.env x = pure x := by intro _; rfl) :
    MS X C E fr B (.Assign [.Name y py] (.ListComp elt [⟨tg, iter, ifs, 0⟩] scope pos) spos) (mSet i (mLc t (own.map (·.2)) mi tt te)) := fun G0 =>
  PS.imp (ps_setLc hc hN hy hyl hsw hi ok hg ht he hs) fun En σ H h => by
    obtain ⟨env, G, Kd, KX, ok, vr, hm, pv, px⟩ := set_lift h
    exact lc_lift hK hts ⟨env, G, Kd, KX, ok, vr, hm, pv.fresh, px⟩
/-- a, b = x, y -/
def mPar (i j : Nat) (r : MAt) : MSt := fun env Ks => r (viewE env) (fun ds => match ds with
  | [d, e] => Ks.nx ((env.set i (some (.sh d))).set j (some (.sh e)))
  | _ => False) Ks.ex
theorem ms_par {i j : Nat} {x y : Str} {a b : Expr} {r : MAt} {px py pt : Pos} {kt k2 pt2} (hc : X.calm = true) (hN : X.N.Nodup) (hi : X.N[i]? = some x) (hj : X.N[j]? = some y) (hij : i ≠ j)
    (hx : X.env.scope.names.lookup x = some .local) (hy : X.env.scope.names.lookup y = some .local) (ha : MA X C E [a, b] r)
    (hw : swappedStores [.Tuple [.Name x px, .Name y py] kt pt] (.Tuple [a, b] k2 pt2) X.env = pure (some [x, y]))
    (hs : swapsWithSole [.Tuple [.Name x px, .Name y py] kt pt] (.Tuple [a, b] k2 pt2) pos.line X.env = pure false := by rfl) :
    MS X C E fr B (.Assign [.Tuple [.Name x px, .Name y py] kt pt] (.Tuple [a, b] k2 pt2) pos) (mPar i j r) := fun G0 => PS.imp (ps_par hc hN hi hj hij hx hy ha hw hs) fun En σ H ⟨env, G, Ks, er, hm, f⟩ =>
  ⟨viewE env, G, _, Ks.ex, er.z.ok, er.vr, hm, fun ds vs H1 G1 s1 ok1 r1 _ k1 => by
    cases r1 with
    | nil => exact k1.elim
    | cons a1 r1 =>
      cases r1 with
      | nil => exact k1.elim
      | cons a2 r1 =>
        cases r1 with
        | nil => exact ⟨_, _, rfl, f.nx _ _ H1 G1 (((er.step s1 ok1).set_sh a1).set_sh a2) k1⟩
        | cons _ _ => exact k1.elim, f.px er.z (Same.refl _)⟩
/-- x.append(y.pop(e)), both lists their names' own -/
def mAppPop (j l : Nat) (m : MEt) : MSt := fun env Ks => ownL env j fun p ds => ownL env l fun q es => m (lendE env) (fun d => match d with
  | .int i => 0 ≤ i ∧ ds.length < sizeLine ∧ es.length < 2 ^ 62 ∧ (match es[i.toNat]? with
    | some y => Ks.nx ((env.set l (some (.own q (.lst (es.eraseIdx i.toNat))))).set j (some (.own p (.lst (ds ++ [y])))))
    | none => False)
  | _ => False) Ks.ex
theorem ms_appPop (j l : Nat) (hjl : j ≠ l) {x y : Str} {xp yp cp cq : Pos} {apos2 : Pos} (hN : X.N[j]? = some x := by rfl) (hN2 : X.N[l]? = some y := by rfl)
    (h : PS X (.Expr (.Call (.Attribute (.Name x xp) "append" apos) [.Call (.Attribute (.Name y yp) "pop" apos2) [e] [] cq] [] cp) pos) (tDrop (tBM X.K "list" rAppend (tVar j) (tCons (tBM X.K "list" rPopAt (tVar l) (tCons (lift C X.mg E m) tNil)) tNil)))) :
    MS X C E fr B (.Expr (.Call (.Attribute (.Name x xp) "append" apos) [.Call (.Attribute (.Name y yp) "pop" apos2) [e] [] cq] [] cp) pos) (mAppPop j l m) := fun G0 => PS.imp h fun En σ H ⟨env, G, Ks, er, hm, f⟩ => by
  obtain ⟨p, ds, hp, hm⟩ := ownL_inv hm
  obtain ⟨q, es, hq, hm⟩ := ownL_inv hm
  obtain ⟨a1, a2, a3, a4, ob, a5, a6⟩ := er.own j p _ hp
  obtain ⟨b1, b2, b3, b4, ob2, b5, b6⟩ := er.own l q _ hq
  cases a6 with
  | lst ra =>
    cases b6 with
    | lst rb =>
      refine ⟨.ref p, a1, .inl ⟨rfl, _, .inl (.inl a5)⟩, .ref q, b1, .inl ⟨rfl, _, .inl (.inl b5)⟩, lendE env, _, _, Ks.ex, er.lend.1, er.lend.2, hm, fun d v H1 G1 s1 ok1 r1 k1 => ?_, f.px er.z gLend_ge⟩
      have er1 := er.back s1 ok1
      obtain ⟨i, rfl, rfl⟩ : ∃ i, d = .int i ∧ v = .int i := by cases r1 <;> first | exact (show False from k1).elim | exact ⟨_, rfl, rfl⟩
      obtain ⟨k0, kz, kz2, k1⟩ := k1
      split at k1
      · rename_i y' hy'
        obtain ⟨w, w1, w2⟩ := rb.get hy'
        have hlt : i.toNat < es.length := (List.getElem?_eq_some_iff.mp hy').1
        have npq : p ≠ q := fun e => hjl (er.dis j l p _ _ hp (by rw [e]; exact hq))
        have er2 := er1.write hq (o' := .lst (_ : List V)) (.lst (rb.eraseIdx i.toNat))
        have hp2 : (env.set l (some (.own q (.lst (es.eraseIdx i.toNat)))))[j]? = some (some (Slot.own p (.lst ds))) := by rw [List.getElem?_set_ne (Ne.symm hjl)]; exact hp
        have er3 := er2.write hp2 (o' := .lst (_ : List V)) (.lst (ra.append (.cons w2 .nil)))
        refine ⟨q, _, i, i.toNat, w, rfl, rfl, s1.nh q _ b2 b5, by omega, by omega, ?_, w1, p, _, w, rfl, rfl, ?_, by rw [← ra.length]; exact kz, f.nx _ _ _ G er3 k1⟩
        · rw [← rb.length]
          unfold seqIndex?
          have hh : ¬ i < 0 := by omega
          simp only [hh, if_false]
          rw [if_pos (by rw [Bool.and_eq_true, decide_eq_true_eq, decide_eq_true_eq]; omega)]
        · rw [upd_ne npq]
          exact s1.nh p _ a2 a5
      · exact k1.elim
end
end L3
/-! L3k: the draws -/
namespace L3
open PySem PySem.Spec PyProof.Rows L2
/-- a draw below n -/
@[irreducible] def sp__law_drawn : Spec := fun sa ds Kd _ => ∃ (a : Addr) (n : Int), sa = some a ∧ ds = [.ref a, .int n] ∧ 0 < n ∧ n.natAbs < 2 ^ 9000 ∧ ∀ k, 0 ≤ k → k < n → Kd (.int k)
theorem scr_sq {C : C3} {H : Hp} {sa : Addr} {ns : List Int} (iv : Iv C H) (s : ScrOk C sa ns) : SqL C.K H sa (ns.map V.int) := by
  rcases s with ⟨o, h⟩ | ⟨o, its, n, h1, h2, h3, h4, h5, h6⟩
  · exact .inl (.inr ⟨o, iv.fx _ h⟩)
  · exact .inr ⟨o, its, n, h1, h2, h3, h4, h5, h6⟩
/-- the state's cell written anew -/
theorem st_step {K : PySem.W.Frag} {a sa : Addr} {ns : List Int} {fix : List (Addr × HO)} {tabs : List (Addr × Str)} {H G : Hp} {i m r : Int} (ok : Ok3 ⟨K, some (a, sa, ns), fix, tabs⟩ H G) (hi : 0 ≤ i) (hm : 0 ≤ m) (hm2 : m < 2147483647) (hr : 0 ≤ r) :
    Ok3 ⟨K, some (a, sa, ns), fix, tabs⟩ (upd H a (.lst [.ref sa, .int i, .int m, .int r])) G ∧ Stp ⟨K, some (a, sa, ns), fix, tabs⟩ H G (upd H a (.lst [.ref sa, .int i, .int m, .int r])) G := by
  obtain ⟨⟨i', m', r', hst, _⟩, hs, hf⟩ := ok.iv.st a sa ns rfl
  have spa : (C3.mk K (some (a, sa, ns)) fix tabs).sp a = true := by
    unfold C3.sp
    simp
  refine ⟨⟨⟨fun a' sa' ns' e => ?_, fun p hp => ?_, fun p hp => ?_⟩, fun b o h => ?_, ok.nt⟩, fun b o h1 h2 => ?_, Same.refl _, fun b o h h' => absurd (h.symm.trans h') (fun z => nomatch z)⟩
  · cases e
    exact ⟨⟨i, m, r, upd_same, hi, hm, hm2, hr⟩, hs, hf⟩
  · have np : p.1 ≠ a := fun e => by
      have := List.any_eq_false.mp hf p hp
      simp [e] at this
    show upd H a _ p.1 = _
    rw [upd_ne np]
    exact ok.iv.fx p hp
  · obtain ⟨ps, h, h2, h3⟩ := ok.iv.tb p hp
    have np : p.1 ≠ a := fun e => by
      rw [e, hst] at h
      cases h
    refine ⟨ps, by rw [upd_ne np]; exact h, h2, fun pos cv hc => ?_⟩
    obtain ⟨c, e1, e2⟩ := h3 pos cv hc
    refine ⟨c, e1, ?_⟩
    rw [upd_ne fun z => upd_code hst rfl _ (by rw [← z]; exact e2)]
    exact e2
  · obtain ⟨h1, h2⟩ := ok.sub b o h
    refine ⟨h1, ?_⟩
    have nb : b ≠ a := fun e => by rw [e, spa] at h1; cases h1
    rw [upd_ne nb]
    exact h2
  · have nb : b ≠ a := fun e => by rw [e, spa] at h1; cases h1
    rw [nT_ne nb]
    exact h2
/-- what _law_drawn does -/
def tDrawn (K : PySem.W.Frag) : TS :=
  let ix (j : Int) : TE := tOp (rIxL K) (tVar 0) (tC (.int j))
  let gt : R2 := rI0 fun i j => .bl (decide (j < i))
  let ge : R2 := rI0 fun i j => .bl (decide (j ≤ i))
  let le : R2 := rI0 fun i j => .bl (decide (i ≤ j))
  let ad : R2 := rI0 fun i j => .int (i + j)
  let sb : R2 := rI0 fun i j => .int (i - j)
  let mu : R2 := rI CMul fun i j => .int (i * j)
  let md : R2 := rI (fun _ j => 0 < j) fun i j => .int (i % j)
  let dv : R2 := rI CDivW fun i j => .int (i / j)
  let pw : R2 := rI CPow fun i j => .int (i ^ j.toNat)
  let st (j : Int) (e : TE) : TS := tAsg e (gSub (tVar 0) (tC (.int j)) rSetL)
  tSeq (tIfS (tTest (tOp gt (ix 3) (tC (.int 0)))) (tSeq (tAsg (tOp md (ix 3) (tVar 1)) (gName 2)) (tSeq (st 3 (tOp dv (ix 3) (tVar 1))) (tRet (tVar 2)))) tNext)
  (tSeq (st 1 (tOp ad (ix 1) (tC (.int 1))))
  (tSeq (tIfS (tTest (tOp le (ix 1) (tCB (fun xs H Q => ∃ p ys, xs = [.ref p] ∧ (SqL K H p ys ∨ SqT K H p ys) ∧ Q (.int ys.length) H) (tCons (ix 0) tNil))))
      (tSeq (tAsg (tOp (rIxL K) (ix 0) (tOp sb (ix 1) (tC (.int 1)))) (gName 3)) (tSeq (st 3 (tIf (tTest (tOp ge (tVar 3) (tOp pw (tC (.int 10)) (tC (.int 18))))) (tOp dv (tVar 3) (tVar 1)) (tC (.int 0)))) (tRet (tOp md (tVar 3) (tVar 1))))) tNext)
  (tSeq (st 2 (tOp md (tOp ad (tOp mu (ix 2) (tC (.int 48271))) (tC (.int 11))) (tC (.int 2147483647))))
    (tRet (tOp md (tOp dv (ix 2) (tC (.int 7))) (tVar 1))))))
theorem drawn_ok {K : PySem.W.Frag} {a sa : Addr} {ns : List Int} {fix : List (Addr × HO)} {tabs : List (Addr × Str)} {H G : Hp} {n : Int} {Q : VK} {En : Ends} (ok : Ok3 ⟨K, some (a, sa, ns), fix, tabs⟩ H G) (h0 : 0 < n) (h1 : n.natAbs < 2 ^ 9000)
    (q : ∀ k H', 0 ≤ k → k < n → Ok3 ⟨K, some (a, sa, ns), fix, tabs⟩ H' G → Stp ⟨K, some (a, sa, ns), fix, tabs⟩ H G H' G → En.rt (.int k) H') : tDrawn K En [some (.ref a), some (.int n), none, none] H := by
  obtain ⟨⟨i, m, r, hst, hi, hm, hm2, hr⟩, hs, hf⟩ := ok.iv.st a sa ns rfl
  have sL : ∀ {H' : Hp} {xs : List V}, H' a = some (.lst xs) → SqL K H' a xs := fun h => .inl (.inl h)
  have cd : CDivW r n := wide_div h0 h1 (by decide) (by decide)
  have rn0 : 0 ≤ r / n := Int.ediv_nonneg hr (by omega)
  refine ⟨.ref a, rfl, a, _, 3, .int r, rfl, rfl, sL hst, rfl, r, 0, rfl, rfl, _, rfl, ?_⟩
  refine ite2 (fun c => ?_) (fun c => ?_)
  · refine ⟨.ref a, rfl, a, _, 3, .int r, rfl, rfl, sL hst, rfl, .int n, rfl, r, n, rfl, rfl, h0, ?_⟩
    refine ⟨.ref a, rfl, a, _, 3, .int r, rfl, rfl, sL hst, rfl, .int n, rfl, r, n, rfl, rfl, cd, ?_⟩
    refine ⟨.ref a, rfl, a, _, 3, 3, rfl, rfl, hst, rfl, ?_⟩
    obtain ⟨o1, s1⟩ := st_step ok hi hm hm2 rn0
    exact ⟨_, rfl, q _ _ (Int.emod_nonneg _ (by omega)) (Int.emod_lt_of_pos _ h0) o1 s1⟩
  · refine ⟨.ref a, rfl, a, _, 1, .int i, rfl, rfl, sL hst, rfl, i, 1, rfl, rfl, ?_⟩
    refine ⟨.ref a, rfl, a, _, 1, 1, rfl, rfl, hst, rfl, ?_⟩
    obtain ⟨o1, s1⟩ := st_step ok (show 0 ≤ i + 1 by omega) hm hm2 hr
    have hst1 : (upd H a (.lst [.ref sa, .int (i + 1), .int m, .int r])) a = some (.lst [.ref sa, .int (i + 1), .int m, .int r]) := upd_same
    have scr := scr_sq o1.iv hs
    refine ⟨.ref a, rfl, a, _, 1, .int (i + 1), rfl, rfl, sL hst1, rfl, .ref a, rfl, a, _, 0, .ref sa, rfl, rfl, sL hst1, rfl, sa, _, rfl, .inl scr, i + 1, _, rfl, rfl, _, rfl, ?_⟩
    refine ite2 (fun c2 => ?_) (fun c2 => ?_)
    · have c2 := of_decide_eq_true c2
      rw [List.length_map] at c2
      have hlt : i.toNat < ns.length := by omega
      have hat : atI (ns.map V.int) (i + 1 - 1) = some (.int (ns[i.toNat])) := by
        rw [show i + 1 - 1 = ((i.toNat : Nat) : Int) by omega]
        exact atI_nat (by rw [List.getElem?_map, List.getElem?_eq_getElem hlt]; rfl)
      generalize ns[i.toNat] = z at hat
      refine ⟨.ref a, rfl, a, _, 0, .ref sa, rfl, rfl, sL hst1, rfl, .ref a, rfl, a, _, 1, .int (i + 1), rfl, rfl, sL hst1, rfl, i + 1, 1, rfl, rfl, sa, _, i + 1 - 1, .int z, rfl, rfl, scr, hat, ?_⟩
      refine ⟨.int z, rfl, 10, 18, rfl, rfl, by unfold CPow; decide, z, _, rfl, rfl, _, rfl, ?_⟩
      refine ite2 (fun c3 => ?_) (fun c3 => ?_)
      · have c3 : (10 : Int) ^ (18 : Int).toNat ≤ z := of_decide_eq_true c3
        have c4 : (0 : Int) ≤ z := Int.le_trans (by decide) c3
        refine ⟨.int z, rfl, .int n, rfl, z, n, rfl, rfl, wide_div h0 h1 (by decide) (by decide), ?_⟩
        refine ⟨.ref a, rfl, a, _, 3, 3, rfl, rfl, hst1, rfl, ?_⟩
        obtain ⟨o2, s2⟩ := st_step o1 (show 0 ≤ i + 1 by omega) hm hm2 (Int.ediv_nonneg c4 (by omega) : 0 ≤ z / n)
        exact ⟨.int z, rfl, .int n, rfl, z, n, rfl, rfl, h0, q _ _ (Int.emod_nonneg _ (by omega)) (Int.emod_lt_of_pos _ h0) o2 (s1.trans o2 s2)⟩
      · refine ⟨.ref a, rfl, a, _, 3, 3, rfl, rfl, hst1, rfl, ?_⟩
        obtain ⟨o2, s2⟩ := st_step o1 (show 0 ≤ i + 1 by omega) hm hm2 (Int.le_refl 0)
        exact ⟨.int z, rfl, .int n, rfl, z, n, rfl, rfl, h0, q _ _ (Int.emod_nonneg _ (by omega)) (Int.emod_lt_of_pos _ h0) o2 (s1.trans o2 s2)⟩
    · refine ⟨.ref a, rfl, a, _, 2, .int m, rfl, rfl, sL hst1, rfl, m, 48271, rfl, rfl, .inl ⟨by omega, by omega⟩, _, 11, rfl, rfl, _, 2147483647, rfl, rfl, (show (0 : Int) < 2147483647 by decide), ?_⟩
      refine ⟨.ref a, rfl, a, _, 2, 2, rfl, rfl, hst1, rfl, ?_⟩
      have b0 : 0 ≤ (m * 48271 + 11) % 2147483647 := Int.emod_nonneg _ (by decide)
      have b1 : (m * 48271 + 11) % 2147483647 < 2147483647 := Int.emod_lt_of_pos _ (by decide)
      obtain ⟨o2, s2⟩ := st_step o1 (show 0 ≤ i + 1 by omega) b0 b1 hr
      have e2 : upd (upd H a (.lst [.ref sa, .int (i + 1), .int m, .int r])) a (.lst ([V.ref sa, .int (i + 1), .int m, .int r].set 2 (.int ((m * 48271 + 11) % 2147483647)))) = upd (upd H a (.lst [.ref sa, .int (i + 1), .int m, .int r])) a (.lst [.ref sa, .int (i + 1), .int ((m * 48271 + 11) % 2147483647), .int r]) := rfl
      have hst2 : (upd (upd H a (.lst [.ref sa, .int (i + 1), .int m, .int r])) a (.lst ([V.ref sa, .int (i + 1), .int m, .int r].set 2 (.int ((m * 48271 + 11) % 2147483647))))) a = some (.lst [.ref sa, .int (i + 1), .int ((m * 48271 + 11) % 2147483647), .int r]) := upd_same
      refine ⟨.ref a, rfl, a, _, 2, .int _, rfl, rfl, sL hst2, rfl, _, 7, rfl, rfl, wide_div (by decide) (show (7 : Int).natAbs < 2 ^ 3 by decide) (by decide) (by decide), .int n, rfl, _, n, rfl, rfl, h0, ?_⟩
      exact q _ _ (Int.emod_nonneg _ (by omega)) (Int.emod_lt_of_pos _ h0) o2 (s1.trans o2 s2)

/-- the mixing of the script -/
def spStart (K : PySem.W.Frag) : Sp := fun vs H Q _ => ∃ (a : Addr) (ns : List Int), vs = [.ref a] ∧ SqL K H a (ns.map V.int) ∧ ∀ (p : Addr) (m : Int), H p = none → 0 ≤ m → m < 2147483647 → Q (.ref p) (upd H p (.lst [.ref a, .int 0, .int m, .int 0]))
def tStart (K : PySem.W.Frag) : TS := tSeq (tAsg (tC (.int 1)) (gName 1))
  (tSeq (tFor (iList K (tVar 0)) (gName 2) (tAsg (tOp (rI (fun _ j => 0 < j) fun i j => .int (i % j)) (tOp (rI0 fun i j => .int (i + j)) (tOp (rI0 fun i j => .int (i + j)) (tOp (rI CMul fun i j => .int (i * j)) (tVar 1) (tC (.int 48271))) (tVar 2)) (tC (.int 7))) (tC (.int 2147483647))) (gName 1)))
  (tRet (tLst (tCons (tVar 0) (tCons (tC (.int 0)) (tCons (tVar 1) (tCons (tC (.int 0)) tNil)))))))
theorem start_ok {K : PySem.W.Frag} {a : Addr} {ns : List Int} {H : Hp} {Q : VK} {En : Ends} (hS : SqL K H a (ns.map V.int)) (hq : ∀ (p : Addr) (m : Int), H p = none → 0 ≤ m → m < 2147483647 → En.rt (.ref p) (upd H p (.lst [.ref a, .int 0, .int m, .int 0]))) : tStart K En [some (.ref a), none, none] H := by
  refine ⟨.ref a, rfl, a, rfl, ⟨_, hS⟩, for_list (K := K) (a := a) (xs := ns.map V.int) (fun i σ H' => ∃ (m : Int) (v : Option V), σ = [some (.ref a), some (.int m), v] ∧ H' = H ∧ 0 ≤ m ∧ m < 2147483647) ⟨1, none, rfl, rfl, by decide, by decide⟩ (fun i σ H' _ ⟨_, _, _, e, _⟩ => by rw [e]; exact hS) ?_ ?_⟩
  · rintro i y σ H' hi ⟨m, v, rfl, rfl, h0, h1⟩
    obtain ⟨u, rfl⟩ : ∃ u, y = V.int u := by
      rw [List.getElem?_map] at hi
      cases e : ns[i]? with
      | none =>
        rw [e] at hi
        cases hi
      | some u =>
        rw [e] at hi
        exact ⟨u, (Option.some.inj hi).symm⟩
    exact ⟨.int m, rfl, m, 48271, rfl, rfl, .inl ⟨by omega, by omega⟩, .int u, rfl, _, u, rfl, rfl, _, 7, rfl, rfl, _, 2147483647, rfl, rfl, (show (0 : Int) < 2147483647 by decide), _, some (.int u), rfl, rfl, Int.emod_nonneg _ (by decide), Int.emod_lt_of_pos _ (by decide)⟩
  · rintro σ H' ⟨m, v, rfl, rfl, h0, h1⟩
    exact ⟨_, rfl, _, rfl, by show 4 ≤ sizeLine; decide, fun p hp => hq p m hp h0 h1⟩
theorem pe_either {X : Cx} {e : Expr} {t u : TE} (h : PE X e t) (g : PE X e u) : PE X e (fun σ H Q => t σ H Q ∨ u σ H Q) :=
  ⟨fun pins s σ H Q I w => w.elim (h.run pins s σ H Q I) (g.run pins s σ H Q I)⟩
theorem pss_any {X : Cx} {st : List Stmt} {ι : Type} {t : ι → TS} (h : ∀ i, PSs X st (t i)) : PSs X st (fun En σ H => ∃ i, t i En σ H) :=
  ⟨fun pins s σ H En I ⟨i, w⟩ => (h i).run pins s σ H En I w⟩
/-- the law's first statement: the state is made -/
def tOpen (K : PySem.W.Frag) (E : XK) : TS := tAsg (tCall (spStart K) [] E (tCons (fun σ H Q => tVar 0 σ H Q ∨ tVar 0 σ H fun v H' => ∃ (p : Addr) (u : HO), v = .ref p ∧ H' p = some u ∧ Mut (some u) ∧ ∀ od, Q v (upd H' p (.frz od u))) tNil)) (gName 1)
def spLaw (K : PySem.W.Frag) : Sp := fun vs H Q _ => ∃ (a : Addr) (ns : List Int), vs = [.ref a] ∧ SqL K H a (ns.map V.int) ∧ ∀ v H', v = .bl true → Q v H'
/-- the law's body from its first statement and the plain rest -/
theorem law_l3 {P : Program} {w : World} {K : PySem.W.Frag} {mg : Str → Option Value} {base : Heap} {st first : Stmt} {rest : List Stmt} {f : Addr} {fd : FuncData} {N : List Str} {k : Nat} (F : Fun K "law" "law" st f fd) (S : FnScope N ["_law_script"] (defScope st)) (m : Option Addr → MSt) (hb : defBody st = first :: rest) (hN : 2 ≤ N.length)
    (der : ∀ (cdv : Value) (A : Around) (outer : List Env) (s : Shared) (H : Hp) (E : XK), Room k (A.deeper (envOfC "law" (defScope st) s.heap.objs.size f cdv)) →
      PS (cxOf (L2.CX P w) P w K mg base N "law" (defScope st) f cdv A outer s H E) first (tOpen K E) ∧ ∀ (s0 : Option (Addr × Addr × List Int)) (fix : List (Addr × HO)) (tabs : List (Addr × Str)) (B : Hp),
      MSs (cxOf (L2.CX P w) P w K mg base N "law" (defScope st) f cdv A outer s H E) ⟨K, s0, fix, tabs⟩ E false B rest (m (s0.map (·.1))))
    (pure : ∀ (p a : Addr), m (some p) (some (.sh (.ref a)) :: some (.sh (.ref p)) :: List.replicate (N.length - 2) none) { nx := fun _ => False, rt := fun d => d = .bl true }) :
    FnOk P w K mg base (L2.CX P w) (k + 1) f fd ["_law_script"] (spLaw K) := by
  refine F.okX S (fun vs H Q E h => ?_) (fun cdv A outer s H vs Q E hr h => ?_)
  · obtain ⟨a, ns, rfl, _⟩ := h
    rfl
  · obtain ⟨a, ns, rfl, hS, hq⟩ := h
    obtain ⟨d1, d2⟩ := der cdv A outer s H E hr
    rw [hb]
    refine ⟨_, pss_cons d1 (pss_any (ι := (Option (Addr × Addr × List Int)) × List (Addr × HO)) fun i => d2 i.1 i.2 [] (fun _ => none) (fun _ => none)), ?_⟩
    have eS : (L2.start N [V.ref a] : L2.St) = some (.ref a) :: none :: List.replicate (N.length - 2) none := by
      unfold L2.start
      show some (V.ref a) :: List.replicate (N.length - 1) none = _
      rw [show N.length - 1 = (N.length - 2) + 1 by omega, List.replicate_succ]
    rw [eS]
    -- the rest, once the script stays
    have go : ∀ (H0 : Hp) (fix : List (Addr × HO)), (∀ p ∈ fix, H0 p.1 = some p.2) → ScrOk ⟨K, none, fix, []⟩ a ns → SqL K H0 a (ns.map V.int) → spStart K ([V.ref a] ++ []) H0 (fun v H1 => gName 1 v (some (.ref a) :: none :: List.replicate (N.length - 2) none) H1 fun σ H2 => ∃ i : (Option (Addr × Addr × List Int)) × List (Addr × HO), liftS ⟨K, i.1, i.2, []⟩ mg E false (fun _ => none) (fun _ => none) (m (i.1.map (·.1))) { nx := fun _ H => Q .non H, rt := Q } σ H2) E := by
      intro H0 fix hfix hscr hS0
      refine ⟨a, ns, rfl, hS0, fun p mm hp h0 h1 => ?_⟩
      refine ⟨(some (p, a, ns), fix), some (.sh (.ref a)) :: some (.sh (.ref p)) :: List.replicate (N.length - 2) none, fun _ => none, _, ?_, pure p a, ?_⟩
      · refine ⟨⟨⟨⟨fun a' sa' ns' e => ?_, fun q hq' => ?_, fun q hq' => (nomatch hq')⟩, fun _ _ h => (nomatch h), fun _ _ h => (nomatch h)⟩, fun _ _ h => (nomatch h), fun _ _ _ h => (nomatch h), fun _ _ _ h => (nomatch h)⟩, ?_, fun i d h => ?_, fun i q d h => ?_, fun i j q d e h _ => ?_⟩
        · cases e
          refine ⟨⟨0, mm, 0, upd_same, by decide, h0, h1, by decide⟩, hscr, ?_⟩
          rw [List.any_eq_false]
          intro q hq' e
          have e := of_decide_eq_true e
          have := hfix q hq'
          rw [e, hp] at this
          cases this
        · have nq : q.1 ≠ p := fun e => by
            have := hfix q hq'
            rw [e, hp] at this
            cases this
          show upd H0 p _ q.1 = _
          rw [upd_ne nq]
          exact hfix q hq'
        · simp
        · match i, h with
          | 0, h => cases h; exact ⟨_, rfl, .ref a⟩
          | 1, h => cases h; exact ⟨_, rfl, .ref p⟩
          | i + 2, h =>
            have h : (List.replicate (N.length - 2) (none : Option Slot))[i]? = some (some (.sh d)) := h
            rw [List.getElem?_replicate] at h
            split at h <;> cases h
        · match i, h with
          | 0, h => cases h
          | 1, h => cases h
          | i + 2, h =>
            have h : (List.replicate (N.length - 2) (none : Option Slot))[i]? = some (some (.own q d)) := h
            rw [List.getElem?_replicate] at h
            split at h <;> cases h
        · match i, h with
          | 0, h => cases h
          | 1, h => cases h
          | i + 2, h =>
            have h : (List.replicate (N.length - 2) (none : Option Slot))[i]? = some (some (.own q d)) := h
            rw [List.getElem?_replicate] at h
            split at h <;> cases h
      · refine ⟨fun _ _ _ _ _ k => k.elim, fun _ _ _ _ _ k => k.elim, fun _ _ _ _ _ k => k.elim, fun d v H' G' z rr k => ?_, fun x cls d H' k => k.elim⟩
        have rr : Rp K G' d v := rr
        rw [k] at rr
        cases rr
        exact hq _ _ rfl
    rcases hS with (h | ⟨o, h⟩) | ⟨o, its, n, h1, h2, h3, h4, h5, h6⟩
    · refine .inr ⟨.ref a, rfl, a, _, rfl, h, trivial, fun od => ?_⟩
      exact go (upd H a (.frz od (.lst (ns.map V.int)))) [(a, .frz od (.lst (ns.map V.int)))] (fun p hp => by
        rw [List.mem_singleton] at hp
        subst hp
        exact upd_same) (.inl ⟨od, List.mem_singleton.mpr rfl⟩) (.inl (.inr ⟨od, upd_same⟩))
    · refine .inl ⟨.ref a, rfl, ?_⟩
      exact go H [(a, .frz o (.lst (ns.map V.int)))] (fun p hp => by
        rw [List.mem_singleton] at hp
        subst hp
        exact h) (.inl ⟨o, List.mem_singleton.mpr rfl⟩) (.inl (.inr ⟨o, h⟩))
    · refine .inl ⟨.ref a, rfl, ?_⟩
      exact go H [] (fun p hp => by cases hp) (.inr ⟨o, its, n, h1, h2, h3, h4, h5, h6⟩) (.inr ⟨o, its, n, h1, h2, h3, h4, h5, h6⟩)
end L3
/-! L3l: plain tools: equality of data, loops, comprehensions -/
namespace L3
open PySem PySem.Spec PyProof.Rows L2
/-- a whole number that the top has bound -/
theorem me_globI {X : Cx} {C : C3} {E : XK} {x : Str} {i : Int} {pos : Pos} (h : ∃ t, X.mg x = some (.int i t)) (hg : Gl X x) (hd : (x == ("__debug__" : Str)) = false := by decide) : ME X C E (.Name x pos) (mC (.int i)) := by
  obtain ⟨t, h⟩ := h
  exact me_c (v := .int i) (pe_glob hg h ⟨t, rfl⟩ hd) fun _ => .int i
/-! ### data that can be told apart -/
inductive Dk : Nat → D → Prop
  | non (n) : Dk n .non
  | bl (n b) : Dk n (.bl b)
  | int (n i) : Dk n (.int i)
  | str (n x) : PyData.strOk x = true → Dk n (.str x)
  | lst (n ds) : (∀ d ∈ ds, Dk n d) → Dk (n + 1) (.lst ds)
  | tup (n ds) : (∀ d ∈ ds, Dk n d) → Dk (n + 1) (.tup ds)
theorem pls_all : ∀ {ds : List D}, (∀ d ∈ ds, d.pl = true) → D.pls ds = true
  | [], _ => rfl
  | d :: r, h => by
    show (d.pl && D.pls r) = true
    rw [h d List.mem_cons_self, pls_all fun e he => h e (List.mem_cons_of_mem _ he)]
    rfl
theorem lays_all : ∀ {ds : List PyData}, (∀ d ∈ ds, d.canLay0 = true) → PyData.canLayAll0 ds = true
  | [], _ => by simp [PyData.canLayAll0]
  | d :: r, h => by
    rw [PyData.canLayAll0, h d List.mem_cons_self, lays_all fun e he => h e (List.mem_cons_of_mem _ he)]
    rfl
theorem depth_all {n : Nat} : ∀ {ds : List PyData}, (∀ d ∈ ds, d.depth ≤ n) → PyData.depthAll ds ≤ n
  | [], _ => by simp [PyData.depthAll]
  | d :: r, h => by
    rw [PyData.depthAll]
    exact Nat.max_le.mpr ⟨h d List.mem_cons_self, depth_all fun e he => h e (List.mem_cons_of_mem _ he)⟩
theorem Dk.all {n : Nat} {d : D} (h : Dk n d) : d.pl = true ∧ d.py.canLay0 = true ∧ d.py.depth ≤ n := by
  induction h with
  | non n => exact ⟨rfl, by simp [D.py, PyData.canLay0], by simp [D.py, PyData.depth]⟩
  | bl n b => exact ⟨rfl, by simp [D.py, PyData.canLay0], by simp [D.py, PyData.depth]⟩
  | int n i => exact ⟨rfl, by simp [D.py, PyData.canLay0], by simp [D.py, PyData.depth]⟩
  | str n x h => exact ⟨rfl, by simpa [D.py, PyData.canLay0] using h, by simp [D.py, PyData.depth]⟩
  | lst n ds h ih =>
    refine ⟨pls_all fun d hd => (ih d hd).1, ?_, ?_⟩
    · rw [D.py, PyData.canLay0, pys_map]
      exact lays_all fun e he => by
        obtain ⟨d, hd, rfl⟩ := List.mem_map.mp he
        exact (ih d hd).2.1
    · rw [D.py, PyData.depth, pys_map]
      exact Nat.succ_le_succ (depth_all fun e he => by
        obtain ⟨d, hd, rfl⟩ := List.mem_map.mp he
        exact (ih d hd).2.2)
  | tup n ds h ih =>
    refine ⟨pls_all fun d hd => (ih d hd).1, ?_, ?_⟩
    · rw [D.py, PyData.canLay0, pys_map]
      exact lays_all fun e he => by
        obtain ⟨d, hd, rfl⟩ := List.mem_map.mp he
        exact (ih d hd).2.1
    · rw [D.py, PyData.depth, pys_map]
      exact Nat.succ_le_succ (depth_all fun e he => by
        obtain ⟨d, hd, rfl⟩ := List.mem_map.mp he
        exact (ih d hd).2.2)
theorem Dk.pl {n : Nat} {d : D} (h : Dk n d) : d.pl = true := h.all.1
theorem Dk.shaped {n : Nat} {d : D} (h : Dk n d) (hn : n ≤ 64) : SeqAt.shaped d.py = true := by
  unfold SeqAt.shaped
  rw [h.all.2.1, decide_eq_true (Nat.le_trans h.all.2.2 hn)]
  rfl
theorem Dk.refl {n : Nat} {d : D} (h : Dk n d) : PyData.eqv d.py d.py = true := SeqAt.eqv_refl _ h.all.2.1
theorem Dk.mono {n m : Nat} {d : D} (h : Dk n d) (hn : n ≤ m) : Dk m d := by
  induction h generalizing m with
  | non n => exact .non _
  | bl n b => exact .bl _ b
  | int n i => exact .int _ i
  | str n x h => exact .str _ x h
  | lst n ds h ih =>
    cases m with
    | zero => omega
    | succ m => exact .lst _ _ fun d hd => ih d hd (by omega)
  | tup n ds h ih =>
    cases m with
    | zero => omega
    | succ m => exact .tup _ _ fun d hd => ih d hd (by omega)
/-- equality, however the two are told: eqE from eqG -/
theorem eqE_of {neg : Bool} {n : Nat} {d e : D} {K : D → Prop} {b : Bool} (hd : Dk n d) (he : Dk n e) (hn : n ≤ 64) (h : PyData.eqv d.py e.py = b) (k : K (.bl (if neg then !b else b))) : eqE neg d e K := by
  have g : eqG neg d e K := ⟨hd.pl, he.pl, hd.shaped hn, he.shaped hn, by rw [h]; exact k⟩
  have dx : ∀ x y : Bool, (x == y) = decide (x = y) := fun x y => by cases x <;> cases y <;> rfl
  unfold eqE
  cases d <;> cases e <;> first
    | exact g
    | (show K _
       simp only [D.py, PyData.eqv] at h
       first
         | (rename_i i j
            have e2 : decide (i = j) = b := by rw [← h]; first | exact (dx _ _).symm | (by_cases c : i = j <;> simp [c])
            rw [e2]
            exact k))
theorem eqE_refl {neg : Bool} {n : Nat} {d : D} {K : D → Prop} (hd : Dk n d) (hn : n ≤ 64) (k : K (.bl (!neg))) : eqE neg d d K := eqE_of hd hd hn hd.refl (by cases neg <;> exact k)
theorem eqE_nil {neg : Bool} {n : Nat} {xs : List D} {K : D → Prop} (hd : Dk n (.lst xs)) (hn : n ≤ 64) (k : K (.bl (if neg then !xs.isEmpty else xs.isEmpty))) : eqE neg (.lst xs) (.lst []) K := by
  cases n with
  | zero => cases hd
  | succ n => exact eqE_of hd (.lst _ _ (by simp)) hn (by cases xs <;> simp [D.py, D.pys, PyData.eqv, PyData.eqvAll]) k
theorem beqI (i j : Int) : (i == j) = decide (i = j) := by by_cases c : i = j <;> simp [c]
def optD : Option Int → D
  | none => .non
  | some i => .int i
theorem eqE_opt {neg : Bool} {o p : Option Int} {K : D → Prop} (k : K (.bl (if neg then !decide (o = p) else decide (o = p)))) : eqE neg (optD o) (optD p) K := by
  have dk : ∀ o, Dk 0 (optD o) := fun o => by cases o <;> constructor
  refine eqE_of (dk o) (dk p) (by decide) ?_ k
  cases o <;> cases p <;> simp [optD, D.py, PyData.eqv, beqI]
theorem eqE_int {neg : Bool} {i j : Int} {K : D → Prop} (k : K (.bl (if neg then !decide (i = j) else decide (i = j)))) : eqE neg (.int i) (.int j) K := by unfold eqE; exact k
theorem eqE_str {neg : Bool} {i j : Str} {K : D → Prop} (k : K (.bl (if neg then !decide (i = j) else decide (i = j)))) : eqE neg (.str i) (.str j) K := by
  unfold eqE
  exact k
theorem flat_ints (ns : List Int) : (ns.map D.int).all flatD = true := by
  induction ns with
  | nil => rfl
  | cons n r ih => rw [List.map_cons, List.all_cons, ih]; rfl
theorem inV_ints (i : Int) : ∀ ns : List Int, inV (.int i) (ns.map V.int) = decide (i ∈ ns)
  | [] => by simp [inV]
  | n :: r => by
    have ih := inV_ints i r
    unfold inV at ih ⊢
    simp only [List.map_cons, List.any_cons] at ih ⊢
    rw [ih]
    have e : eqV (.int n) (.int i) = (n == i) := rfl
    rw [e]
    by_cases c : i = n
    · subst c; simp
    · have c2 : n ≠ i := fun e => c e.symm
      simp [c, c2]
theorem fv_ints (ns : List Int) : (ns.map D.int).map fv = ns.map V.int := by rw [List.map_map]; rfl
theorem inS_lst {neg : Bool} {i : Int} {ns : List Int} {K : D → Prop} (k : K (.bl (if neg then !decide (i ∈ ns) else decide (i ∈ ns)))) : inS neg (.int i) (.lst (ns.map D.int)) K := by
  unfold inS
  exact ⟨rfl, flat_ints ns, by rw [fv_ints]; show K (.bl (if neg then !inV (.int i) _ else inV (.int i) _)); rw [inV_ints]; exact k⟩
theorem inS_tup {neg : Bool} {i : Int} {ns : List Int} {K : D → Prop} (k : K (.bl (if neg then !decide (i ∈ ns) else decide (i ∈ ns)))) : inS neg (.int i) (.tup (ns.map D.int)) K := by
  unfold inS
  exact ⟨rfl, flat_ints ns, by rw [fv_ints]; show K (.bl (if neg then !inV (.int i) _ else inV (.int i) _)); rw [inV_ints]; exact k⟩
theorem ixD_lst {xs : List D} {i : Int} {d : D} {K : D → Prop} (h : atI xs i = some d) (k : K d) : ixD (.lst xs) (.int i) K := by
  unfold ixD
  dsimp only
  rw [h]
  exact k
theorem ixD_tup {xs : List D} {i : Int} {d : D} {K : D → Prop} (h : atI xs i = some d) (k : K d) : ixD (.tup xs) (.int i) K := by
  unfold ixD
  dsimp only
  rw [h]
  exact k
theorem intsOf_ints : ∀ ns : List Int, intsOf (ns.map D.int) = some ns
  | [] => rfl
  | n :: ns => by
    show (intsOf (ns.map D.int)).map _ = _
    rw [intsOf_ints ns]
    rfl
theorem sortedD_ints {ns : List Int} {K : D → Prop} (k : K (.lst ((sortI ns).map D.int))) : sortedD [.lst (ns.map D.int)] K := by
  unfold sortedD
  dsimp only
  rw [intsOf_ints]
  exact k
theorem sortedD_dic {kvs : List (Int × D)} {K : D → Prop} (k : K (.lst ((sortI (kvs.map (·.1))).map D.int))) : sortedD [.dic kvs] K := by
  unfold sortedD
  exact k
theorem minL_ints {n : Int} {ns : List Int} {K : D → Prop} (k : K (.int (minI n ns))) : minL [.lst ((n :: ns).map D.int)] K := by
  unfold minL
  dsimp only
  rw [intsOf_ints]
  exact k
theorem get1_of {kvs : List (Int × D)} {i : Int} {K : D → Prop} (k : K ((valD kvs i).getD .non)) : get1 (.dic kvs) (.int i) K := by
  unfold get1
  exact k
theorem getK_of {kvs : List (Int × D)} {i : Int} {d : D} {K : D → Prop} (h : valD kvs i = some d) (k : K d) : getK (.dic kvs) (.int i) K := by
  unfold getK
  dsimp only
  rw [h]
  exact k
/-! ### loops -/
theorem forD_at {t : Tgt} {b : MSt} {Ks : KS} {ds : List D} {env : EnvS} (I : Nat → EnvS → Prop) (h0 : I 0 env)
    (hs : ∀ i d env (nx : EnvS → Prop), ds[i]? = some d → I i env → (∀ e, I (i + 1) e → nx e) → ∃ l, bindT t d = some l ∧ b (setS env l) { Ks with nx := nx, ct := nx, bk := Ks.nx })
    (hd : ∀ env, I ds.length env → Ks.nx env) : forD t b Ks ds env := by
  have go : ∀ (es : List D) (i : Nat) (env : EnvS), ds = ds.take i ++ es → i + es.length = ds.length → I i env → forD t b Ks es env := by
    intro es
    induction es with
    | nil => intro i env e hl hI; exact hd env (by rw [show ds.length = i by simpa using hl.symm]; exact hI)
    | cons d es ih =>
      intro i env e hl hI
      have hi : i < ds.length := by rw [← hl, List.length_cons]; omega
      have hget : ds[i]? = some d := by
        rw [e, List.getElem?_append_right (by rw [List.length_take]; omega), List.length_take, Nat.min_eq_left (Nat.le_of_lt hi)]
        simp
      obtain ⟨l, h1, h2⟩ := hs i d env (forD t b Ks es) hget hI fun e2 h2 => ih (i + 1) e2 (by
        rw [List.take_add_one, hget, List.append_assoc]
        exact e) (by rw [← hl, List.length_cons]; omega) h2
      exact ⟨l, h1, h2⟩
  exact go ds 0 env (by simp) (by simp) h0
theorem forD_all {t : Tgt} {b : MSt} {Ks : KS} {ds : List D} {env : EnvS} (I : EnvS → Prop) (h0 : I env)
    (hs : ∀ d ∈ ds, ∀ env (nx : EnvS → Prop), I env → (∀ e, I e → nx e) → ∃ l, bindT t d = some l ∧ b (setS env l) { Ks with nx := nx, ct := nx, bk := Ks.nx })
    (hd : ∀ env, I env → Ks.nx env) : forD t b Ks ds env :=
  forD_at (fun _ => I) h0 (fun i d env nx hi hI hn => hs d (List.mem_of_getElem? hi) env nx hI hn) hd
/-! ### comprehensions -/
def lcS (t : Tgt) (tt : MTt) (te : MEt) (env : EnvE) (d : D) (K : Option D → Prop) : Prop := ∃ l, bindT t d = some l ∧ tt (setE env l) (fun b => if b = true then te (setE env l) (fun y => K (some y)) (fun _ => False) else K none) (fun _ => False)
theorem lcD_step {t : Tgt} {tt : MTt} {te : MEt} {env : EnvE} {d : D} {ds : List D} {K : List D → Prop} (h : lcS t tt te env d fun o => match o with
    | some y => lcD t tt te env ds fun r => K (y :: r)
    | none => lcD t tt te env ds K) : lcD t tt te env (d :: ds) K := h
theorem lcD_fm {t : Tgt} {tt : MTt} {te : MEt} {env : EnvE} (g : D → Option D) : ∀ {ds : List D} {K : List D → Prop}, (∀ d ∈ ds, ∀ K : Option D → Prop, K (g d) → lcS t tt te env d K) → K (ds.filterMap g) → lcD t tt te env ds K
  | [], K, _, k => k
  | d :: ds, K, h, k => by
    refine lcD_step (h d List.mem_cons_self _ ?_)
    rw [List.filterMap_cons] at k
    cases q : g d with
    | none =>
      rw [q] at k
      exact lcD_fm g (fun e he => h e (List.mem_cons_of_mem _ he)) k
    | some y =>
      rw [q] at k
      exact lcD_fm g (K := fun r => K (y :: r)) (fun e he => h e (List.mem_cons_of_mem _ he)) k
theorem lcD_any {t : Tgt} {tt : MTt} {te : MEt} {env : EnvE} (P : D → Prop) : ∀ {ds : List D} {K : List D → Prop}, (∀ d ∈ ds, ∀ K : Option D → Prop, (∀ y, P y → K (some y)) → lcS t tt te env d K) → (∀ r, r.length = ds.length → (∀ y ∈ r, P y) → K r) → lcD t tt te env ds K
  | [], K, _, k => k [] rfl (by simp)
  | d :: ds, K, h, k => by
    refine lcD_step (h d List.mem_cons_self _ fun y hy => ?_)
    exact lcD_any P (K := fun r => K (y :: r)) (fun e he => h e (List.mem_cons_of_mem _ he)) fun r hr hp => k (y :: r) (by rw [List.length_cons, List.length_cons, hr]) fun z hz => by
      rcases List.mem_cons.mp hz with e | e
      · rw [e]; exact hy
      · exact hp z e
theorem fm_map {α β : Type} (f : α → D) (g : D → Option D) (h : α → Option β) (f' : β → D) (l : List α) (e : ∀ a ∈ l, g (f a) = (h a).map f') : (l.map f).filterMap g = (l.filterMap h).map f' := by
  induction l with
  | nil => rfl
  | cons a l ih =>
    rw [List.map_cons, List.filterMap_cons, List.filterMap_cons, e a List.mem_cons_self, ih fun b hb => e b (List.mem_cons_of_mem _ hb)]
    cases h a <;> rfl
theorem sz_ok {n : Nat} (h : n ≤ 16777216) : n ≤ sizeLine := by rw [sizeLine_eq]; exact h
theorem sz_lt {n : Nat} (h : n < 16777216) : n < sizeLine := by rw [sizeLine_eq]; exact h
/-! ### counting -/
theorem nodup_len {l : List Int} {b : Nat} (hn : l.Nodup) (hb : ∀ x ∈ l, 0 ≤ x ∧ x < (b : Int)) : l.length ≤ b := by
  induction b generalizing l with
  | zero =>
    cases l with
    | nil => simp
    | cons x r => have := hb x List.mem_cons_self; omega
  | succ b ih =>
    have h1 : (l.erase (b : Int)).length ≤ b := ih (hn.erase _) fun x hx => by
      have h2 := (List.Nodup.mem_erase_iff hn).mp hx
      have h3 := hb x h2.2
      have h4 : x ≠ (b : Int) := h2.1
      omega
    have h5 : l.length ≤ (l.erase (b : Int)).length + 1 := by
      rw [List.length_erase]
      split <;> omega
    omega
theorem nodup_lenI {l : List Int} {b : Int} (h0 : 0 ≤ b) (hn : l.Nodup) (hb : ∀ x ∈ l, 0 ≤ x ∧ x < b) : (l.length : Int) ≤ b := by
  have := nodup_len (b := b.toNat) hn fun x hx => by
    have := hb x hx
    omega
  omega
end L3
/-! L3m: chains of three -/
namespace L3
open PySem PySem.Spec PyProof.Rows L2
def tChain3 (r r' r2 : R2) (ta tb tc td : TE) : TE := fun σ H Q => ta σ H fun x H1 => tb σ H1 fun y H2 => r x y H2 fun z H3 => ∃ k, z = .bl k ∧
  (if k = true then tc σ H3 fun w H4 => r' y w H4 fun z' H5 => ∃ k', z' = .bl k' ∧ (if k' = true then td σ H5 fun u H6 => r2 w u H6 Q else Q (.bl false) H5) else Q (.bl false) H3)
section
variable {X : Cx} {a b c d : Expr} {ta tb tc td : TE} {r r' r2 : R2} {pos : Pos} {C : C3} {E : XK} {ma mb mc md : MEt} {f f' f2 : D → D → (D → Prop) → Prop} {mg : Str → Option Value}
theorem pt_chain3 {op op' op2 : CmpOp} (ho : OpR X (compareOp op) r) (ho' : OpR X (compareOp op') r') (ho2 : OpR X (compareOp op2) r2) (ha : PE X a ta) (hb : PE X b tb) (hc : PE X c tc) (hd : PE X d td)
    (hm : lastMarks [op, op', op2] [b, c, d] = false := by with_unfolding_all rfl) : PT X (.Compare a [op, op', op2] [b, c, d] pos) (tTest (tChain3 r r' r2 ta tb tc td)) := by
  refine ⟨fun pins s σ H Q I h => ?_⟩
  refine isTrue_chain (thn (ha.run pins s σ H _ I h) fun v s1 ⟨x, H1, I1, r1, q1⟩ => test_link (thn (hb.run pins s1 σ H1 _ I1 q1) fun u s2 ⟨y, H2, I2, rr2, q2⟩ =>
    thn (ho pins s2 σ H2 x y v u _ I2 r1 rr2 q2) fun d s3 ⟨z, H3, I3, r3, k, e, q3⟩ => ?_)) hm
  subst e
  cases r3
  refine wpAny_truthy_bool ?_
  cases k with
  | false =>
    obtain ⟨k', e', q'⟩ := q3
    cases e'
    exact ite_ff ⟨H3, I3, q'⟩
  | true =>
    refine ite_tt (test_link (thn (hc.run pins s3 σ H3 _ I3 q3) fun w' s4 ⟨z', H4, I4, r4, q4⟩ => thn (ho' pins s4 σ H4 y z' u w' _ I4 rr2 r4 q4) fun d' s5 ⟨z2, H5, I5, r5, k2, e2, q5⟩ => ?_))
    subst e2
    cases r5
    refine wpAny_truthy_bool ?_
    cases k2 with
    | false =>
      obtain ⟨k', e', q'⟩ := q5
      cases e'
      exact ite_ff ⟨H5, I5, q'⟩
    | true =>
      refine ite_tt (test_last (thn (hd.run pins s5 σ H5 _ I5 q5) fun w2 s6 ⟨z3, H6, I6, r6, q6⟩ => thn (ho2 pins s6 σ H6 z' z3 w' w2 _ I6 r4 r6 q6) fun d2 s7 ⟨z4, H7, I7, r7, k3, e3, q7⟩ => ?_))
      subst e3
      cases r7
      exact wpAny_truthy_bool ⟨H7, I7, q7⟩
def m4 (f f' f2 : D → D → (D → Prop) → Prop) (ma mb mc md : MEt) : MEt := fun env Kd KX => ma env (fun d => mb env (fun e => f d e fun z => isB z fun k => if k = true then mc env (fun g => f' e g fun z' => isB z' fun k' => if k' = true then md env (fun h => f2 g h Kd) KX else Kd (.bl false)) KX else Kd (.bl false)) KX) KX
theorem lift4 (ho : OpD C r f) (ho' : OpD C r' f') (ho2 : OpD C r2 f2) {σ : L2.St} {H : Hp} {Q : VK} (h : lift C mg E (m4 f f' f2 ma mb mc md) σ H Q) : tChain3 r r' r2 (lift C mg E ma) (lift C mg E mb) (lift C mg E mc) (lift C mg E md) σ H Q := by
  obtain ⟨env, G, Kd, KX, ok, vr, hm, pv, px⟩ := h
  refine ⟨env, G, _, KX, ok, vr, hm, fun d x H1 G1 s1 ok1 r1 k1 => ⟨env, G1, _, KX, ok1, vr.mono s1.ge, k1, fun e y H2 G2 s2 ok2 r2 k2 =>
    ho x y d e H2 G2 _ _ ok2 (r1.mono s2.ge) r2 k2 fun z v H3 G3 s3 ok3 r3 k3 => ?_, px.on ok s1⟩, px⟩
  have k3 : isB z _ := k3
  have s02 := s1.trans ok2 s2
  have s03 := s02.trans ok3 s3
  obtain ⟨k, rfl, rfl⟩ : ∃ k, z = .bl k ∧ v = .bl k := by cases r3 <;> first | exact k3.elim | exact ⟨_, rfl, rfl⟩
  refine ⟨k, rfl, ?_⟩
  cases k with
  | false => exact pv _ _ _ _ s03 ok3 (.bl false) k3
  | true =>
    refine ⟨env, G3, _, KX, ok3, vr.mono s03.ge, k3, fun g w H4 G4 s4 ok4 r4 k4 => ho' y w e g H4 G4 _ _ ok4 (r2.mono (s3.ge.trans s4.ge)) r4 k4 fun z' v' H5 G5 s5 ok5 r5 k5 => ?_, px.on ok s03⟩
    have k5 : isB z' _ := k5
    have s05 := (s03.trans ok4 s4).trans ok5 s5
    obtain ⟨k', rfl, rfl⟩ : ∃ k, z' = .bl k ∧ v' = .bl k := by cases r5 <;> first | exact k5.elim | exact ⟨_, rfl, rfl⟩
    refine ⟨k', rfl, ?_⟩
    cases k' with
    | false => exact pv _ _ _ _ s05 ok5 (.bl false) k5
    | true => exact ⟨env, G5, _, KX, ok5, vr.mono s05.ge, k5, fun h u H6 G6 s6 ok6 r6 k6 => ho2 w u g h H6 G6 Kd Q ok6 (r4.mono (s5.ge.trans s6.ge)) r6 k6 (pv.on (s05.trans ok6 s6)), px.on ok s05⟩
theorem mt_leLeLt (ha : ME X C E a ma) (hb : ME X C E b mb) (hc : ME X C E c mc) (hd : ME X C E d md) (hm : lastMarks [.LtE, .LtE, .Lt] [b, c, d] = false := by with_unfolding_all rfl) : MT X C E (.Compare a [.LtE, .LtE, .Lt] [b, c, d] pos) (mB (m4 (ordD pLe) (ordD pLe) (ordD pLt) ma mb mc md)) :=
  PT.imp (pt_chain3 op_le op_le op_lt ha hb hc hd hm) fun _ _ _ h => lift4 (od_ord pLe) (od_ord pLe) (od_ord pLt) (liftB h)
end
/-! ### a loop over a list of its own that the body leaves -/
def forOD (j : Nat) (t : Tgt) (b : MSt) (Ks : KS) (w : Slot) : List D → EnvS → Prop
  | [], env => env[j]? = some (some w) ∧ Ks.nx env
  | d :: ds, env => env[j]? = some (some w) ∧ ∃ l, bindT t d = some l ∧ b (setS env l) { Ks with nx := forOD j t b Ks w ds, ct := forOD j t b Ks w ds, bk := Ks.nx }
def mForO (j : Nat) (t : Tgt) (b : MSt) : MSt := fun env Ks => ownL env j fun p ds => forOD j t b Ks (.own p (.lst ds)) ds env
theorem ms_forO {X : Cx} {C : C3} {E : XK} {fr : Bool} {B : Hp} {tg iter : Expr} {a : List Stmt} {pos : Pos} {ms : MSt} {t : Tgt} (j : Nat) (hp : PassesOwn (model X.prog X.w) X.A X.env X.xe) (hc : X.calm = true) (hK : X.K = C.K) (hi : PI X tg iter (iList X.K (tVar j))) (hg : PG X tg (gOf X.K t)) (hb : MSs X C E fr B a ms)
    (hs : ∀ x, foldedSetIterable iter X.env x = pure x := by intro _; rfl) : MS X C E fr B (.For tg iter a [] pos) (mForO j t ms) := fun G0 => by
  have hb' : PSs X a (fun En σ H => ∃ Gi, liftS C X.mg E fr B Gi ms En σ H) := ⟨fun pins s σ H En I ⟨Gi, h⟩ => (hb Gi).run pins s σ H En I h⟩
  refine PS.imp (ps_for hp hc hi hg hb' hs) fun En σ H ⟨env, G, Ks, er, hm, f⟩ => ?_
  obtain ⟨p, ds, hq, hm⟩ := ownL_inv hm
  obtain ⟨h1, h2, h3, h4, ob, h5, h6⟩ := er.own j p _ hq
  cases h6 with
  | lst rl =>
    refine ⟨.ref p, h1, p, rfl, ⟨_, .inl (.inl h5)⟩, ?_⟩
    have er1 : ER C B G H G env σ := ⟨⟨er.z.ok, Same.refl _, fun a o h h' => absurd (h.symm.trans h') (fun z => nomatch z), er.z.keep⟩, er.len, er.sh, er.own, er.dis⟩
    have f1 := f.up er.z
    refine ⟨fun i m σ H => m = ds.length - i ∧ i ≤ ds.length ∧ ∃ env G2, ER C B G H G2 env σ ∧ forOD j t ms Ks (.own p (.lst ds)) (ds.drop i) env, ⟨ds.length, by simp, Nat.zero_le _, env, G, er1, by simpa using hm⟩, ?_⟩
    rintro i m σ2 H2 ⟨rfl, hi2, env2, G2, er2, k2⟩
    by_cases hlt : i < ds.length
    · have hd : ds[i]? = some ds[i] := List.getElem?_eq_getElem hlt
      rw [List.drop_eq_getElem_cons hlt] at k2
      obtain ⟨hat, l, hb2, k2⟩ := k2
      obtain ⟨_, _, _, _, ob2, h5', h6'⟩ := er2.own j p _ hat
      cases h6' with
      | lst rl2 =>
        obtain ⟨v, hv, rv⟩ := rl2.get hd
        refine .inr ⟨⟨_, v, .inl (.inl h5'), hv⟩, fun σ' H' => i + 1 ≤ ds.length ∧ ∃ env G2, ER C B G H' G2 env σ' ∧ forOD j t ms Ks (.own p (.lst ds)) (ds.drop (i + 1)) env, fun σ' H' hn => ⟨ds.length - (i + 1), by omega, rfl, hn⟩, fun x H3 yy => ?_⟩
        obtain ⟨rfl, hx⟩ := yy
        have ex := hx _ (.inl (.inl h5'))
        rw [hv] at ex
        cases ex
        refine gOf_ok (fun a o q => (er2.z.ok.sub a o q).2) (by rw [hK]; exact rv) hb2 fun ws pw _ => ⟨G, _, G2, _, ER.setAll (by rw [← hK]; exact pw) er2, k2, ?_⟩
        exact ⟨fun env σ H G er k => ⟨hlt, env, G, er, k⟩, fun env σ H G er k => f1.nx env σ H G er k, fun env σ H G er k => ⟨hlt, env, G, er, k⟩, f1.rt, f1.ex⟩
    · have e : i = ds.length := by omega
      subst e
      rw [List.drop_length] at k2
      obtain ⟨hat, k2⟩ := k2
      obtain ⟨_, _, _, _, ob2, h5', h6'⟩ := er2.own j p _ hat
      cases h6' with
      | lst rl2 => exact .inl ⟨⟨_, .inl (.inl h5'), by rw [← rl2.length]; exact Nat.le_refl _⟩, f1.nx env2 σ2 H2 G2 er2 k2⟩
theorem forOD_at {j : Nat} {t : Tgt} {b : MSt} {Ks : KS} {w : Slot} {ds : List D} {env : EnvS} (I : Nat → EnvS → Prop) (h0 : I 0 env)
    (hw : ∀ i env, I i env → env[j]? = some (some w))
    (hs : ∀ i d env (nx : EnvS → Prop), ds[i]? = some d → I i env → (∀ e, I (i + 1) e → nx e) → ∃ l, bindT t d = some l ∧ b (setS env l) { Ks with nx := nx, ct := nx, bk := Ks.nx })
    (hd : ∀ env, I ds.length env → Ks.nx env) : forOD j t b Ks w ds env := by
  have go : ∀ (es : List D) (i : Nat) (env : EnvS), ds = ds.take i ++ es → i + es.length = ds.length → I i env → forOD j t b Ks w es env := by
    intro es
    induction es with
    | nil => intro i env e hl hI; exact ⟨hw i env hI, hd env (by rw [show ds.length = i by simpa using hl.symm]; exact hI)⟩
    | cons d es ih =>
      intro i env e hl hI
      have hi : i < ds.length := by rw [← hl, List.length_cons]; omega
      have hget : ds[i]? = some d := by
        rw [e, List.getElem?_append_right (by rw [List.length_take]; omega), List.length_take, Nat.min_eq_left (Nat.le_of_lt hi)]
        simp
      obtain ⟨l, h1, h2⟩ := hs i d env (forOD j t b Ks w es) hget hI fun e2 h2 => ih (i + 1) e2 (by
        rw [List.take_add_one, hget, List.append_assoc]
        exact e) (by rw [← hl, List.length_cons]; omega) h2
      exact ⟨hw i env hI, l, h1, h2⟩
  exact go ds 0 env (by simp) (by simp) h0
/-! ### the lists of its own are frozen ahead of the statement -/
def mFrzA (ms : MSt) : MSt := fun env Ks => ms (frzE env) Ks
theorem ms_frzA {X : Cx} {C : C3} {E : XK} {fr : Bool} {B : Hp} {st : Stmt} {ms : MSt} (h : MS X C E fr B st ms) : MS X C E fr B st (mFrzA ms) := fun G0 => PS.imp (h G0) fun En σ H ⟨env, G, Ks, er, hm, f⟩ =>
  ⟨frzE env, _, Ks, er.frozen Stp.refl er.lend.1, hm, f⟩
end L3
/-! L3n: count, index, isinstance of a caught error; a def that is handed a lambda -/
namespace L3
open PySem PySem.Spec PyProof.Rows L2
section
variable {X : Cx} {C : C3} {E : XK} {o e : Expr} {mo ma : MEt} {apos cpos : Pos}
def rCountF (K : PySem.W.Frag) : V → List V → Hp → VK → Prop := fun x xs H Q => ∃ (p : Addr) (ys : List V) (y : V), x = .ref p ∧ xs = [y] ∧ SqL K H p ys ∧ flatV y = true ∧ ys.all flatV = true ∧ Q (.int ((ys.countP fun z => eqV z y : Nat) : Int)) H
theorem countP_eqU {y : V} : ∀ {ys : List V} {us : List Value}, Vals ys us → ys.all flatV = true → us.countP (eqU y) = ys.countP fun z => eqV z y
  | _, _, .nil, _ => rfl
  | z :: ys, u :: us, .cons r t, f => by
    rw [List.all_cons, Bool.and_eq_true] at f
    rw [List.countP_cons, List.countP_cons, countP_eqU t f.2, eqU_of r f.1]
theorem mt_countF : MtR X "list.count" (rCountF X.K) := by
  intro pins s σ H x xs v us Q I rx rxs h
  obtain ⟨p, ys, y, rfl, rfl, hs, fy, fys, q⟩ := h
  cases rx
  obtain ⟨u, rfl, ru⟩ := rxs.one
  obtain ⟨its, rv, ⟨⟨cls, dd, data, sl⟩, n, ho, hc, hdn, hd⟩, hlen⟩ := I.list hs
  simp only at hc hd
  subst hc hd
  refine call_meets PySem.F.slot_list_count ⟨_, ho, rfl⟩ PySem.F.entry_list_count (PySem.F.args_list_count_2 _ _)
    (SeqAt.list_countAt p its.toArray n dd sl u (eqU y)) ⟨ho, fun u' hu' => mem_eqAt ru fy rv fys u' (by simpa using hu'), ?_⟩
  have ec : its.toArray.toList.countP (eqU y) = ys.countP fun z => eqV z y := countP_eqU rv fys
  refine ⟨.int ((ys.countP fun z => eqV z y : Nat) : Int), H, I.tok _, ⟨s.toks, ?_⟩, q⟩
  show Value.int ((its.toArray.toList.countP (eqU y) : Nat) : Int) s.toks = Value.int ((ys.countP fun z => eqV z y : Nat) : Int) s.toks
  rw [ec]
/-- xs.count(y), xs.index(y) -/
def mCountM (mo ma : MEt) : MEt := fun env Kd KX => mo env (fun d => (∃ ds, d = .lst ds) ∧ ma env (fun y => match d with
  | .lst ds => flatD y = true ∧ ds.all flatD = true ∧ Kd (.int (((ds.map fv).countP fun z => eqV z (fv y) : Nat) : Int))
  | _ => False) KX) KX
theorem me_count (hK : X.K = C.K) (h : PE X (.Call (.Attribute o "count" apos) [e] [] cpos) (tBM X.K "list" (rCountF X.K) (lift C X.mg E mo) (tCons (lift C X.mg E ma) tNil))) : ME X C E (.Call (.Attribute o "count" apos) [e] [] cpos) (mCountM mo ma) := PE.imp h fun σ H Q ⟨env, G, Kd, KX, ok, vr, hm, pv, px⟩ => by
  refine ⟨env, G, _, KX, ok, vr, hm, fun d x H1 G1 s1 ok1 r1 k1 => ?_, px⟩
  obtain ⟨⟨ds, rfl⟩, k1⟩ := k1
  cases r1 with
  | lst ha ra =>
    refine .inl ⟨rfl, _, .inl (.inl (ok1.sub _ _ ha).2)⟩ |> fun z => ⟨z, env, G1, _, KX, ok1, vr.mono s1.ge, k1, fun y v H2 G2 s2 ok2 r2 k2 => ?_, px.on ok s1⟩
    obtain ⟨f1, f2, k2⟩ := k2
    obtain ⟨e1, e2⟩ := r2.flat f1
    obtain ⟨e3, e4⟩ := (ra.mono s2.ge).flat f2
    refine ⟨_, _, v, rfl, rfl, .inl (.inl (ok2.sub _ _ (s2.ge _ _ ha)).2), e2, e4, ?_⟩
    rw [e1, e3]
    exact pv _ _ H2 G2 (s1.trans ok2 s2) ok2 (.int _) k2
def mIndexM (mo ma : MEt) : MEt := fun env Kd KX => mo env (fun d => (∃ ds, d = .lst ds) ∧ ma env (fun y => match d with
  | .lst ds => flatD y = true ∧ ds.all flatD = true ∧ ∃ (j : Nat) (z : D), ds[j]? = some z ∧ eqV (fv z) (fv y) = true ∧ (∀ (m : Nat) (z' : D), m < j → ds[m]? = some z' → eqV (fv z') (fv y) = false) ∧ Kd (.int (j : Nat))
  | _ => False) KX) KX
theorem me_index (hK : X.K = C.K) (h : PE X (.Call (.Attribute o "index" apos) [e] [] cpos) (tBM X.K "list" (rIndex X.K) (lift C X.mg E mo) (tCons (lift C X.mg E ma) tNil))) : ME X C E (.Call (.Attribute o "index" apos) [e] [] cpos) (mIndexM mo ma) := PE.imp h fun σ H Q ⟨env, G, Kd, KX, ok, vr, hm, pv, px⟩ => by
  refine ⟨env, G, _, KX, ok, vr, hm, fun d x H1 G1 s1 ok1 r1 k1 => ?_, px⟩
  obtain ⟨⟨ds, rfl⟩, k1⟩ := k1
  cases r1 with
  | lst ha ra =>
    refine .inl ⟨rfl, _, .inl (.inl (ok1.sub _ _ ha).2)⟩ |> fun z => ⟨z, env, G1, _, KX, ok1, vr.mono s1.ge, k1, fun y v H2 G2 s2 ok2 r2 k2 => ?_, px.on ok s1⟩
    obtain ⟨f1, f2, j, z, hz, hj, hno, k2⟩ := k2
    obtain ⟨e1, e2⟩ := r2.flat f1
    obtain ⟨e3, e4⟩ := (ra.mono s2.ge).flat f2
    refine ⟨_, _, v, j, fv z, rfl, rfl, .inl (.inl (ok2.sub _ _ (s2.ge _ _ ha)).2), e2, e4, ?_, by rw [e1]; exact hj, fun m z' hm hz' => ?_, pv _ _ H2 G2 (s1.trans ok2 s2) ok2 (.int _) k2⟩
    · rw [e3, List.getElem?_map, hz]
      rfl
    · rw [e3, List.getElem?_map] at hz'
      cases q : ds[m]? with
      | none => rw [q] at hz'; cases hz'
      | some w =>
        rw [q] at hz'
        cases hz'
        rw [e1]
        exact hno m w hm q
/-- isinstance(e, c) of the error that the suite holds, without a dict -/
def mIsE (i : Nat) (a : Addr) (b : Bool) : MEt := fun env Kd KX => mVar i env (fun d => d = .ref a ∧ Kd (.bl b)) KX
theorem me_isE {a D A : Addr} {oe : Obj} {pn : List (Addr × Obj)} {b : Bool} {e c : Str} {p pe pc pos : Pos} (i : Nat) (F : Free X.mg) (hK : X.K = C.K) (Xc : ExcC X.K D) (hz : Zc (.ref D) none oe) (hf : ∃ vs, oe.data = .fields vs) (hg : Gl (X.suite a ((a, oe) :: pn)) "isinstance") (he : ME (X.suite a ((a, oe) :: pn)) C E (.Name e pe) (mVar i))
    (hc : Gl (X.suite a ((a, oe) :: pn)) c) (hm : X.mg c = some (.ref A)) (hk : PySem.W.kitOne X.K (.ref D) (.ref A) = some b) (hd : (c == ("__debug__" : Str)) = false := by decide)
    (h1 : starEach [.Name e pe, .Name c pc] (X.suite a ((a, oe) :: pn)).env = (false, eval (.Name e pe) (X.suite a ((a, oe) :: pn)).env) :: starEach [.Name c pc] (X.suite a ((a, oe) :: pn)).env := by rfl)
    (h2 : starEach [.Name c pc] (X.suite a ((a, oe) :: pn)).env = (false, eval (.Name c pc) (X.suite a ((a, oe) :: pn)).env) :: starEach [] (X.suite a ((a, oe) :: pn)).env := by rfl) (hpl : (backTo pos (starEach [.Name c pc] (X.suite a ((a, oe) :: pn)).env)).any (·.1) = false := by rfl) :
    ME (X.suite a ((a, oe) :: pn)) C E (.Call (.Name "isinstance" p) [.Name e pe, .Name c pc] [] pos) (mIsE i a b) :=
  PE.imp (pe_callB (call_isE Xc hz hf) hg F.isinstance PyProof.Rows.boot_isinstance (pa_cons he (pa_cons (pe_glob (v := .ref A) hc hm rfl hd) pa_nil h2) h1) (by decide) (by decide) h1 hpl) fun σ H Q ⟨env, G, Kd, KX, ok, vr, hm', pv, px⟩ => by
  refine ⟨env, G, _, KX, ok, vr, hm', fun d v H1 G1 s1 ok1 r1 k1 => ?_, px⟩
  obtain ⟨rfl, k1⟩ := k1
  cases r1
  exact ⟨.ref A, .ref A, b, rfl, fun u r => r, hk, pv _ _ H1 G1 s1 ok1 (.bl b) k1⟩
theorem me_isET {a D : Addr} {oe : Obj} {pn : List (Addr × Obj)} {b : Bool} {e c : Str} {T : String} {p pe pc pos : Pos} (i : Nat) (F : Free X.mg) (hK : X.K = C.K) (Xc : ExcC X.K D) (hz : Zc (.ref D) none oe) (hf : ∃ vs, oe.data = .fields vs) (hg : Gl (X.suite a ((a, oe) :: pn)) "isinstance") (he : ME (X.suite a ((a, oe) :: pn)) C E (.Name e pe) (mVar i))
    (hc : Gl (X.suite a ((a, oe) :: pn)) c) (hm : X.mg c = none) (hb : bootBuiltins c = some (.type T)) (hk : PySem.W.kitOne X.K (.ref D) (.type T) = some b) (hn : c ≠ "__name__" := by decide) (hd : (c == ("__debug__" : Str)) = false := by decide)
    (h1 : starEach [.Name e pe, .Name c pc] (X.suite a ((a, oe) :: pn)).env = (false, eval (.Name e pe) (X.suite a ((a, oe) :: pn)).env) :: starEach [.Name c pc] (X.suite a ((a, oe) :: pn)).env := by rfl)
    (h2 : starEach [.Name c pc] (X.suite a ((a, oe) :: pn)).env = (false, eval (.Name c pc) (X.suite a ((a, oe) :: pn)).env) :: starEach [] (X.suite a ((a, oe) :: pn)).env := by rfl) (hpl : (backTo pos (starEach [.Name c pc] (X.suite a ((a, oe) :: pn)).env)).any (·.1) = false := by rfl) :
    ME (X.suite a ((a, oe) :: pn)) C E (.Call (.Name "isinstance" p) [.Name e pe, .Name c pc] [] pos) (mIsE i a b) :=
  PE.imp (pe_callB (call_isE Xc hz hf) hg F.isinstance PyProof.Rows.boot_isinstance (pa_cons he (pa_cons (pe_bltn (v := .ty T) hc hm hb rfl hn hd) pa_nil h2) h1) (by decide) (by decide) h1 hpl) fun σ H Q ⟨env, G, Kd, KX, ok, vr, hm', pv, px⟩ => by
  refine ⟨env, G, _, KX, ok, vr, hm', fun d v H1 G1 s1 ok1 r1 k1 => ?_, px⟩
  obtain ⟨rfl, k1⟩ := k1
  cases r1
  exact ⟨.ty T, .type T, b, rfl, fun u r => r, hk, pv _ _ H1 G1 s1 ok1 (.bl b) k1⟩
/-- never come to -/
def mNo : MEt := fun _ _ _ => False
theorem me_no : ME X C E e mNo := ⟨fun pins s σ H Q I ⟨_, _, _, _, _, _, h, _⟩ => h.elim⟩
end
/-! ### _law_kind -/
/-- what a class must say, so that _law_kind tells its word w -/
structure Kinds (K : PySem.W.Frag) (mg : Str → Option Value) (D : Addr) (w : Str) : Prop where
  ex : ExcC K D
  mv : ∃ A, mg "MoveError" = some (.ref A) ∧ PySem.W.exmOne K (.ref D) (.ref A) = some true
  kd : ∀ c ∈ (["BadLead", "BadSpare", "BadMove", "NoWay", "BadWord", "BadHouse", "BadCall", "BadText"] : List Str), ∃ A, mg c = some (.ref A) ∧ PySem.W.kitOne K (.ref D) (.ref A) = some (decide (c = w))
  ve : PySem.W.kitOne K (.ref D) (.type "ValueError") = some true
abbrev N__law_kind : List Str := ["_law_work", "e", "_law_kinds", "_law_words", "_law_word"]
def m__law_kind (a : Addr) (b_BadLead b_BadSpare b_BadMove b_NoWay b_BadWord b_BadHouse b_BadCall b_BadText : Bool) : MSt :=
  (mSeq (mSet 2 (mLst (aCons (mIsE 1 a b_BadLead) (aCons (mIsE 1 a b_BadSpare) (aCons (mIsE 1 a b_BadMove) (aCons (mIsE 1 a b_NoWay) aNil))))))
  (mSeq (mSetF 2 (m2 catD (mVar 2) (mLst (aCons (mIsE 1 a b_BadWord) (aCons (mIsE 1 a b_BadHouse) (aCons (mIsE 1 a b_BadCall) aNil))))))
  (mSeq (mAppend 2 (mIsE 1 a b_BadText))
  (mSeq (mSet 3 (mLst (aCons (mC (.str "BadLead")) (aCons (mC (.str "BadSpare")) (aCons (mC (.str "BadMove")) (aCons (mC (.str "NoWay")) (aCons (mC (.str "BadWord")) (aCons (mC (.str "BadHouse")) (aCons (mC (.str "BadCall")) (aCons (mC (.str "BadText")) aNil))))))))))
  (mSeq (mIfS (mOr (mB (m2 (eqE true) (mCountM (mVar 2) (mC (.bl true))) (mC (.int 1)))) (mNot (mB (mIsE 1 a true)))) (mRet (mC (.str "other"))) mNext)
  (mSeq (mSetL 4 (m2 ixD (mVar 3) (mIndexM (mVar 2) (mC (.bl true)))))
  (mSeq (mIfS (mB (m2 (eqE false) (mVar 4) (mC (.str "BadMove")))) (mRet (mTup (aCons (mVar 4) (aCons mNo aNil)))) mNext)
  (mRet (mIf (mB (m2 (eqE false) (mVar 4) (mC (.str "BadText")))) (mTup (aCons (mVar 4) (aCons mNo aNil))) (mVar 4))))))))))
def oneHot (w c : Str) : Bool := decide (c = w)
theorem pu_kind_BadLead (a : Addr) (Ks : KS) (k : Ks.rt (.str "BadLead")) : m__law_kind a true false false false false false false false [none, some (.sh (.ref a)), none, none, none] Ks := by
  refine ⟨rfl, rfl, rfl, rfl, by decide, rfl, rfl, rfl, by decide, by decide, fun q => ⟨rfl, by decide, ⟨by decide, ?_⟩⟩⟩
  refine ⟨⟨_, rfl⟩, rfl, rfl, eqE_int ?_⟩
  refine ⟨rfl, ⟨_, rfl⟩, rfl, rfl, 0, .bl true, rfl, rfl, fun m z' hm hz => ?_, ixD_lst (d := .str "BadLead") rfl ⟨rfl, eqE_str ?_⟩⟩
  · omega
  · exact eqE_str k
theorem pu_kind_BadSpare (a : Addr) (Ks : KS) (k : Ks.rt (.str "BadSpare")) : m__law_kind a false true false false false false false false [none, some (.sh (.ref a)), none, none, none] Ks := by
  refine ⟨rfl, rfl, rfl, rfl, by decide, rfl, rfl, rfl, by decide, by decide, fun q => ⟨rfl, by decide, ⟨by decide, ?_⟩⟩⟩
  refine ⟨⟨_, rfl⟩, rfl, rfl, eqE_int ?_⟩
  refine ⟨rfl, ⟨_, rfl⟩, rfl, rfl, 1, .bl true, rfl, rfl, fun m z' hm hz => ?_, ixD_lst (d := .str "BadSpare") rfl ⟨rfl, eqE_str ?_⟩⟩
  · match m, hm, hz with | 0, _, rfl => rfl
  · exact eqE_str k
theorem pu_kind_NoWay (a : Addr) (Ks : KS) (k : Ks.rt (.str "NoWay")) : m__law_kind a false false false true false false false false [none, some (.sh (.ref a)), none, none, none] Ks := by
  refine ⟨rfl, rfl, rfl, rfl, by decide, rfl, rfl, rfl, by decide, by decide, fun q => ⟨rfl, by decide, ⟨by decide, ?_⟩⟩⟩
  refine ⟨⟨_, rfl⟩, rfl, rfl, eqE_int ?_⟩
  refine ⟨rfl, ⟨_, rfl⟩, rfl, rfl, 3, .bl true, rfl, rfl, fun m z' hm hz => ?_, ixD_lst (d := .str "NoWay") rfl ⟨rfl, eqE_str ?_⟩⟩
  · match m, hm, hz with | 0, _, rfl => rfl | 1, _, rfl => rfl | 2, _, rfl => rfl
  · exact eqE_str k
theorem pu_kind_BadWord (a : Addr) (Ks : KS) (k : Ks.rt (.str "BadWord")) : m__law_kind a false false false false true false false false [none, some (.sh (.ref a)), none, none, none] Ks := by
  refine ⟨rfl, rfl, rfl, rfl, by decide, rfl, rfl, rfl, by decide, by decide, fun q => ⟨rfl, by decide, ⟨by decide, ?_⟩⟩⟩
  refine ⟨⟨_, rfl⟩, rfl, rfl, eqE_int ?_⟩
  refine ⟨rfl, ⟨_, rfl⟩, rfl, rfl, 4, .bl true, rfl, rfl, fun m z' hm hz => ?_, ixD_lst (d := .str "BadWord") rfl ⟨rfl, eqE_str ?_⟩⟩
  · match m, hm, hz with | 0, _, rfl => rfl | 1, _, rfl => rfl | 2, _, rfl => rfl | 3, _, rfl => rfl
  · exact eqE_str k
theorem pu_kind_BadHouse (a : Addr) (Ks : KS) (k : Ks.rt (.str "BadHouse")) : m__law_kind a false false false false false true false false [none, some (.sh (.ref a)), none, none, none] Ks := by
  refine ⟨rfl, rfl, rfl, rfl, by decide, rfl, rfl, rfl, by decide, by decide, fun q => ⟨rfl, by decide, ⟨by decide, ?_⟩⟩⟩
  refine ⟨⟨_, rfl⟩, rfl, rfl, eqE_int ?_⟩
  refine ⟨rfl, ⟨_, rfl⟩, rfl, rfl, 5, .bl true, rfl, rfl, fun m z' hm hz => ?_, ixD_lst (d := .str "BadHouse") rfl ⟨rfl, eqE_str ?_⟩⟩
  · match m, hm, hz with | 0, _, rfl => rfl | 1, _, rfl => rfl | 2, _, rfl => rfl | 3, _, rfl => rfl | 4, _, rfl => rfl
  · exact eqE_str k
theorem pu_kind_BadCall (a : Addr) (Ks : KS) (k : Ks.rt (.str "BadCall")) : m__law_kind a false false false false false false true false [none, some (.sh (.ref a)), none, none, none] Ks := by
  refine ⟨rfl, rfl, rfl, rfl, by decide, rfl, rfl, rfl, by decide, by decide, fun q => ⟨rfl, by decide, ⟨by decide, ?_⟩⟩⟩
  refine ⟨⟨_, rfl⟩, rfl, rfl, eqE_int ?_⟩
  refine ⟨rfl, ⟨_, rfl⟩, rfl, rfl, 6, .bl true, rfl, rfl, fun m z' hm hz => ?_, ixD_lst (d := .str "BadCall") rfl ⟨rfl, eqE_str ?_⟩⟩
  · match m, hm, hz with | 0, _, rfl => rfl | 1, _, rfl => rfl | 2, _, rfl => rfl | 3, _, rfl => rfl | 4, _, rfl => rfl | 5, _, rfl => rfl
  · exact eqE_str k
/-- what _law_kind makes of the lambda's reading -/
def TTk (C : C3) (mg : Str → Option Value) (ws : List Str) : (XK → Hp → VK → Prop) → Hp → VK → Prop := fun tl H Q =>
  tl (fun cls d H' => ∃ (w : Str) (G : Hp) (D : Addr), Ok3 C H' G ∧ w ∈ ws ∧ cls = .ref D ∧ d = none ∧ Kinds C.K mg D w ∧ PostV C H' G (fun y => y = .str w) Q) H Q
def mKind (ws : List Str) (m : MEt) : MEt := fun env Kd KX => m env Kd fun x => x.num = none ∧ x.cls ∈ ws ∧ Kd (.str x.cls)
theorem lam_ok {C : C3} {H H1 G : Hp} (ok : Ok3 C H G) (hf : ∀ p ∈ C.fix, notTbl p.2 = true) (e : LamX.ExtN H H1) (tb : LamX.Tabs C.tabs H1) : Ok3 C H1 G ∧ Stp C H G H1 G := by
  have ne : ∀ {o : HO}, notTbl o = true → ∀ ps, o ≠ .tbl ps := fun {o} n ps q => by rw [q] at n; exact absurd n Bool.false_ne_true
  refine ⟨⟨⟨fun a sa ns h => ?_, fun p hp => e _ _ (ok.iv.fx p hp) (ne (hf p hp)), tb⟩, fun a o h => ⟨(ok.sub a o h).1, e _ _ (ok.sub a o h).2 (ne (ok.nt a o h))⟩, ok.nt⟩, fun a o _ h => nT_of (e _ _ (nT_to h).1 (ne (nT_to h).2)) (nT_to h).2, Same.refl _, fun a o h h' => absurd (h.symm.trans h') (fun z => nomatch z)⟩
  obtain ⟨⟨i, m, r, h1, h2⟩, h3⟩ := ok.iv.st a sa ns h
  exact ⟨⟨i, m, r, e _ _ h1 (ne rfl), h2⟩, h3⟩
open LamX in
/-- _law_kind(lambda: body) -/
theorem me_kind {X : Cx} {C : C3} {E : XK} {ws : List Str} {m : MEt} {x a : Str} {g c P : Addr} {k : Nat} {pg : Arguments} {bg : List Stmt} {sg : Scope} {dV kV doc pm cdv ct oc : Value} {an od : Option Addr} {osl : Array (Option Value)} {Ng : List Str}
    {params : Arguments} {body : Expr} {scope : Scope} {p lpos pos : Pos} (hK : X.K = C.K) (hfx : ∀ p ∈ C.fix, notTbl p.2 = true) (kt : ∀ w ∈ ws, ∃ D, X.mg w = some (.ref D) ∧ Kinds X.K X.mg D w) (hg : Gl X x) (hm : X.mg x = some (.ref g)) (hk : PySem.W.keepIn X.K (.ref g) = true)
    (lk : X.K.lookup g = some ⟨oc, od, .func (PySem.W.fnOf x x pg bg sg dV kV doc pm an cdv ct), osl⟩) (hcg : PySem.W.codeIn X.K cdv x = true) (hb : L2.Binds X.K (PySem.W.fnOf x x pg bg sg dV kV doc pm an cdv ct) [a] []) (Sg : FnScope Ng [a] sg) (hNg : Ng[0]? = some a) (hva : Vis sg a)
    (hG : GivesTo X Ng x sg g cdv bg a (X.env.qual ++ "<lambda>") (TTk C X.mg ws))
    (TB : TabB X.base X.mg c P) (hcode : X.env.code = .ref c) (hmT : (P, X.env.qual ++ "<lambda>") ∈ C.tabs) (hu : ∀ p ∈ C.tabs, p.1 = P → p.2 = X.env.qual ++ "<lambda>") (hr : Room (k + 2) X.A) (L : LamS X.env.scope scope) (hdef : defaultsOf params X.env = ([], []))
    (hbind : ∀ (q : Str) (cl : List (Str × Addr)) (pm cv ctv : Value), bindArgs (PySem.W.kla_fn "<lambda>" q params body scope cl pm cv ctv) ⟨[], []⟩ = pure [])
    (hbody : ∀ (A : Around) (outer : List Env) (s : Shared) (H : Hp) (E : XK) (f c' : Addr), Room k (A.deeper (lamEnv X scope s.heap.objs.size f c')) → ME (lamCx X A outer s H E scope f c') C E body m)
    (hdb : (x == ("__debug__" : Str)) = false := by decide) (hd : (a == ("__debug__" : Str)) = false := by decide) (hcd : (a == ("__classdict__" : Str)) = false := by decide) :
    ME X C E (.Call (.Name x p) [.Lambda params body scope lpos] [] pos) (mKind ws m) :=
  PE.imp (pe_lamcall (T := C.tabs) (TT := TTk C X.mg ws) (t := fun E => lift C X.mg E m) hg hm hk lk hcg hb Sg hNg hva hG TB hcode hmT hu hr L hdef hbind hbody hdb hd hcd) fun σ H Q ⟨env, G, Kd, KX, ok, vr, hm, pv, px⟩ => by
  refine ⟨ok.iv.tb, fun H1 eN tb => ?_⟩
  obtain ⟨ok1, s1⟩ := lam_ok ok hfx eN tb
  refine ⟨env, G, Kd, _, ok1, vr, hm, pv.on s1, fun x cls d H2 kx s2 ok2 r => ?_⟩
  obtain ⟨hn, hw, kx⟩ := kx
  obtain ⟨A, h1, h2, h3⟩ := r
  rw [hn] at h3
  obtain ⟨D, g1, g2⟩ := kt _ hw
  rw [h1] at g1
  cases g1
  exact ⟨x.cls, G, A, ok2, hw, h2, h3, by rw [← hK]; exact g2, fun y v H3 G3 s3 ok3 r3 e => pv y v H3 G3 ((s1.trans ok2 s2).trans ok3 s3) ok3 r3 (by rw [e]; exact kx)⟩
/-! ### raising -/
structure XOk (K : PySem.W.Frag) (mg : Str → Option Value) (x : Str) : Prop where
  ex : ∃ C : Addr, mg x = some (.ref C) ∧ PySem.W.excIn K C [.type "ValueError", .type "Exception", .type "BaseException", .type "object"] "ValueError.__new__" = true ∧ PySem.W.keepIn K (.ref C) = true ∧ PySem.W.subIn K (.ref C) (.type "BaseException") = some true ∧ PySem.W.typeIn K (.ref C) = some (.type "type")
theorem ms_raiseX {X : Cx} {C : C3} {E : XK} {fr : Bool} {B : Hp} {x m : Str} {j : Nat} {p p2 pos pos2 : Pos} (o : XOk X.K X.mg x) (hc : X.calm = true) (tk : Takes X (fun cls d _ H => E cls d H)) (hg : Gl X x) (hdb : (x == ("__debug__" : Str)) = false := by decide) : MS X C E fr B (.Raise (some (.Call (.Name x p) [.Constant (.str m) j p2] [] pos)) none pos2) (mRaise x) := by
  obtain ⟨A, h1, h2, h3, h4, h5⟩ := o.ex
  exact ms_raise hc tk (pmk_own PySem.F.excBase_ValueError h2 h1 h3 (raises_own h4 h5) hg hdb) h1
end L3
/-! L3o: the frame of a law that makes lambdas; a fresh list or a word -/
namespace L3
open PySem PySem.Spec PyProof.Rows L2
abbrev lamQ : Str := (("law" : Str) ++ ".<locals>.") ++ "<lambda>"
def spLawT (K : PySem.W.Frag) (T : Addr) : Sp := fun vs H Q _ => ∃ (a : Addr) (ns : List Int), vs = [.ref a] ∧ SqL K H a (ns.map V.int) ∧ H T = some (.tbl #[]) ∧ ∀ v H', v = .bl true → Q v H'
/-- .. of a law that makes lambdas: its code object's table stands at T -/
theorem law_l3T {P : Program} {w : World} {K : PySem.W.Frag} {mg : Str → Option Value} {base : Heap} {st first : Stmt} {rest : List Stmt} {f T : Addr} {od an : Option Addr} {osl : Array (Option Value)} {oc kV doc pm cdv ct : Value} {N : List Str} {k : Nat} (lk : K.lookup f = some ⟨oc, od, .func (PySem.W.fnOf "law" "law" (defArgs st) (defBody st) (defScope st) .none kV doc pm an cdv ct), osl⟩) (hcd : PySem.W.codeIn K cdv "law" = true) (S : FnScope N ["_law_script"] (defScope st)) (m : Option Addr → MSt) (hb : defBody st = first :: rest) (hN : 2 ≤ N.length)
    (der : ∀ (A : Around) (outer : List Env) (s : Shared) (H : Hp) (E : XK), Room k (A.deeper (envOfC "law" (defScope st) s.heap.objs.size f cdv)) →
      PS (cxOf (L2.CX P w) P w K mg base N "law" (defScope st) f cdv A outer s H E) first (tOpen K E) ∧ ∀ (s0 : Option (Addr × Addr × List Int)) (fix : List (Addr × HO)) (_ : ∀ p ∈ fix, notTbl p.2 = true) (B : Hp),
      MSs (cxOf (L2.CX P w) P w K mg base N "law" (defScope st) f cdv A outer s H E) ⟨K, s0, fix, [(T, lamQ)]⟩ E false B rest (m (s0.map (·.1))))
    (pure : ∀ (p a : Addr), m (some p) (some (.sh (.ref a)) :: some (.sh (.ref p)) :: List.replicate (N.length - 2) none) { nx := fun _ => False, rt := fun d => d = .bl true }) :
    FnOk P w K mg base (L2.CX P w) (k + 1) f (PySem.W.fnOf "law" "law" (defArgs st) (defBody st) (defScope st) .none kV doc pm an cdv ct) ["_law_script"] (spLawT K T) := by
  refine fn_of lk hcd S (fun vs H Q E h => ?_) (fun A outer s H vs Q E hr h => ?_)
  · obtain ⟨a, ns, rfl, _⟩ := h
    rfl
  · obtain ⟨a, ns, rfl, hS, hT, hq⟩ := h
    obtain ⟨d1, d2⟩ := der A outer s H E hr
    rw [hb]
    refine ⟨_, pss_cons d1 (pss_any (ι := (Option (Addr × Addr × List Int)) × {l : List (Addr × HO) // ∀ p ∈ l, notTbl p.2 = true}) fun i => d2 i.1 i.2.1 i.2.2 (fun _ => none) (fun _ => none)), ?_⟩
    have eS : (L2.start N [V.ref a] : L2.St) = some (.ref a) :: none :: List.replicate (N.length - 2) none := by
      unfold L2.start
      show some (V.ref a) :: List.replicate (N.length - 1) none = _
      rw [show N.length - 1 = (N.length - 2) + 1 by omega, List.replicate_succ]
    rw [eS]
    -- the rest, once the script stays
    have go : ∀ (H0 : Hp) (fix : List (Addr × HO)), (∀ p ∈ fix, H0 p.1 = some p.2) → (∀ p ∈ fix, notTbl p.2 = true) → H0 T = some (.tbl #[]) → ScrOk ⟨K, none, fix, []⟩ a ns → SqL K H0 a (ns.map V.int) → spStart K ([V.ref a] ++ []) H0 (fun v H1 => gName 1 v (some (.ref a) :: none :: List.replicate (N.length - 2) none) H1 fun σ H2 => ∃ i : (Option (Addr × Addr × List Int)) × {l : List (Addr × HO) // ∀ p ∈ l, notTbl p.2 = true}, liftS ⟨K, i.1, i.2.1, [(T, lamQ)]⟩ mg E false (fun _ => none) (fun _ => none) (m (i.1.map (·.1))) { nx := fun _ H => Q .non H, rt := Q } σ H2) E := by
      intro H0 fix hfix hfn hT0 hscr hS0
      refine ⟨a, ns, rfl, hS0, fun p mm hp h0 h1 => ?_⟩
      refine ⟨(some (p, a, ns), ⟨fix, hfn⟩), some (.sh (.ref a)) :: some (.sh (.ref p)) :: List.replicate (N.length - 2) none, fun _ => none, _, ?_, pure p a, ?_⟩
      · refine ⟨⟨⟨⟨fun a' sa' ns' e => ?_, fun q hq' => ?_, fun q hq' => ?_⟩, fun _ _ h => (nomatch h), fun _ _ h => (nomatch h)⟩, fun _ _ h => (nomatch h), fun _ _ _ h => (nomatch h), fun _ _ _ h => (nomatch h)⟩, ?_, fun i d h => ?_, fun i q d h => ?_, fun i j q d e h _ => ?_⟩
        · cases e
          refine ⟨⟨0, mm, 0, upd_same, by decide, h0, h1, by decide⟩, hscr, ?_⟩
          rw [List.any_eq_false]
          intro q hq' e
          have e := of_decide_eq_true e
          have := hfix q hq'
          rw [e, hp] at this
          cases this
        · have nq : q.1 ≠ p := fun e => by
            have := hfix q hq'
            rw [e, hp] at this
            cases this
          show upd H0 p _ q.1 = _
          rw [upd_ne nq]
          exact hfix q hq'
        · have hq' : q ∈ [(T, lamQ)] := hq'
          rw [List.mem_singleton] at hq'
          subst hq'
          refine LamX.TabS.nil ?_
          rw [upd_ne (ne_of_none hT0 hp)]
          exact hT0
        · simp
        · match i, h with
          | 0, h => cases h; exact ⟨_, rfl, .ref a⟩
          | 1, h => cases h; exact ⟨_, rfl, .ref p⟩
          | i + 2, h =>
            have h : (List.replicate (N.length - 2) (none : Option Slot))[i]? = some (some (.sh d)) := h
            rw [List.getElem?_replicate] at h
            split at h <;> cases h
        · match i, h with
          | 0, h => cases h
          | 1, h => cases h
          | i + 2, h =>
            have h : (List.replicate (N.length - 2) (none : Option Slot))[i]? = some (some (.own q d)) := h
            rw [List.getElem?_replicate] at h
            split at h <;> cases h
        · match i, h with
          | 0, h => cases h
          | 1, h => cases h
          | i + 2, h =>
            have h : (List.replicate (N.length - 2) (none : Option Slot))[i]? = some (some (.own q d)) := h
            rw [List.getElem?_replicate] at h
            split at h <;> cases h
      · refine ⟨fun _ _ _ _ _ k => k.elim, fun _ _ _ _ _ k => k.elim, fun _ _ _ _ _ k => k.elim, fun d v H' G' z rr k => ?_, fun x cls d H' k => k.elim⟩
        have rr : Rp K G' d v := rr
        rw [k] at rr
        cases rr
        exact hq _ _ rfl
    rcases hS with (h | ⟨o, h⟩) | ⟨o, its, n, h1, h2, h3, h4, h5, h6⟩
    · refine .inr ⟨.ref a, rfl, a, _, rfl, h, trivial, fun od => ?_⟩
      exact go (upd H a (.frz od (.lst (ns.map V.int)))) [(a, .frz od (.lst (ns.map V.int)))] (fun p hp => by
        rw [List.mem_singleton] at hp
        subst hp
        exact upd_same) (fun p hp => by
        rw [List.mem_singleton] at hp
        subst hp
        rfl) (by rw [upd_ne (fun e => by rw [e, h] at hT; cases hT)]; exact hT) (.inl ⟨od, List.mem_singleton.mpr rfl⟩) (.inl (.inr ⟨od, upd_same⟩))
    · refine .inl ⟨.ref a, rfl, ?_⟩
      exact go H [(a, .frz o (.lst (ns.map V.int)))] (fun p hp => by
        rw [List.mem_singleton] at hp
        subst hp
        exact h) (fun p hp => by
        rw [List.mem_singleton] at hp
        subst hp
        rfl) hT (.inl ⟨o, List.mem_singleton.mpr rfl⟩) (.inl (.inr ⟨o, h⟩))
    · refine .inl ⟨.ref a, rfl, ?_⟩
      exact go H [] (fun p hp => by cases hp) (fun p hp => by cases hp) hT (.inr ⟨o, its, n, h1, h2, h3, h4, h5, h6⟩) (.inr ⟨o, its, n, h1, h2, h3, h4, h5, h6⟩)

/-! ### a new list, or a value -/
abbrev MK2 := EnvE → (D → Prop) → (D → Prop) → (Exn → Prop) → Prop
def liftK (C : C3) (mg : Str → Option Value) (E : XK) (m : MK2) : TE := fun σ H Q => ∃ env G Kf Kd KX, Ok3 C H G ∧ VR C.K G env σ ∧ m env Kf Kd KX ∧ PostF C H G Kf Q ∧ PostV C H G Kd Q ∧ PostX C mg H G KX E
abbrev MK (X : Cx) (C : C3) (E : XK) (e : Expr) (m : MK2) : Prop := PE X e (liftK C X.mg E m)
def mKindF (ws : List Str) (m : MEt) : MK2 := fun env Kf Kd KX => m env Kf fun x => x.num = none ∧ x.cls ∈ ws ∧ Kd (.str x.cls)
open LamX in
theorem mk_kind {X : Cx} {C : C3} {E : XK} {ws : List Str} {m : MEt} {x a : Str} {g c P : Addr} {k : Nat} {pg : Arguments} {bg : List Stmt} {sg : Scope} {dV kV doc pm cdv ct oc : Value} {an od : Option Addr} {osl : Array (Option Value)} {Ng : List Str}
    {params : Arguments} {body : Expr} {scope : Scope} {p lpos pos : Pos} (hK : X.K = C.K) (hfx : ∀ p ∈ C.fix, notTbl p.2 = true) (kt : ∀ w ∈ ws, ∃ D, X.mg w = some (.ref D) ∧ Kinds X.K X.mg D w) (hg : Gl X x) (hm : X.mg x = some (.ref g)) (hk : PySem.W.keepIn X.K (.ref g) = true)
    (lk : X.K.lookup g = some ⟨oc, od, .func (PySem.W.fnOf x x pg bg sg dV kV doc pm an cdv ct), osl⟩) (hcg : PySem.W.codeIn X.K cdv x = true) (hb : L2.Binds X.K (PySem.W.fnOf x x pg bg sg dV kV doc pm an cdv ct) [a] []) (Sg : FnScope Ng [a] sg) (hNg : Ng[0]? = some a) (hva : Vis sg a)
    (hG : GivesTo X Ng x sg g cdv bg a (X.env.qual ++ "<lambda>") (TTk C X.mg ws))
    (TB : TabB X.base X.mg c P) (hcode : X.env.code = .ref c) (hmT : (P, X.env.qual ++ "<lambda>") ∈ C.tabs) (hu : ∀ p ∈ C.tabs, p.1 = P → p.2 = X.env.qual ++ "<lambda>") (hr : Room (k + 2) X.A) (L : LamS X.env.scope scope) (hdef : defaultsOf params X.env = ([], []))
    (hbind : ∀ (q : Str) (cl : List (Str × Addr)) (pm cv ctv : Value), bindArgs (PySem.W.kla_fn "<lambda>" q params body scope cl pm cv ctv) ⟨[], []⟩ = pure [])
    (hbody : ∀ (A : Around) (outer : List Env) (s : Shared) (H : Hp) (E : XK) (f c' : Addr), Room k (A.deeper (lamEnv X scope s.heap.objs.size f c')) → MF (lamCx X A outer s H E scope f c') C E body m)
    (hdb : (x == ("__debug__" : Str)) = false := by decide) (hd : (a == ("__debug__" : Str)) = false := by decide) (hcd : (a == ("__classdict__" : Str)) = false := by decide) :
    MK X C E (.Call (.Name x p) [.Lambda params body scope lpos] [] pos) (mKindF ws m) :=
  PE.imp (pe_lamcall (T := C.tabs) (TT := TTk C X.mg ws) (t := fun E => liftF C X.mg E m) hg hm hk lk hcg hb Sg hNg hva hG TB hcode hmT hu hr L hdef hbind hbody hdb hd hcd) fun σ H Q ⟨env, G, Kf, Kd, KX, ok, vr, hm, pf, pv, px⟩ => by
  refine ⟨ok.iv.tb, fun H1 eN tb => ?_⟩
  obtain ⟨ok1, s1⟩ := lam_ok ok hfx eN tb
  refine ⟨env, G, Kf, _, ok1, vr, hm, pf.on s1, fun x cls d H2 kx s2 ok2 r => ?_⟩
  obtain ⟨hn, hw, kx⟩ := kx
  obtain ⟨A, h1, h2, h3⟩ := r
  rw [hn] at h3
  obtain ⟨D, g1, g2⟩ := kt _ hw
  rw [h1] at g1
  cases g1
  exact ⟨x.cls, G, A, ok2, hw, h2, h3, by rw [← hK]; exact g2, fun y v H3 G3 s3 ok3 r3 e => pv y v H3 G3 ((s1.trans ok2 s2).trans ok3 s3) ok3 r3 (by rw [e]; exact kx)⟩
def mSetK2 (i : Nat) (m : MK2) : MSt := fun env Ks => m (viewE env) (fun d => ∀ p, Ks.nx (env.set i (some (.own p d)))) (fun d => Ks.nx (env.set i (some (.sh d)))) Ks.ex
theorem ms_setK2 {X : Cx} {C : C3} {E : XK} {fr : Bool} {B : Hp} {e : Expr} {m : MK2} {pos pos' : Pos} {i : Nat} {x : Str} (hN : X.N.Nodup) (hi : X.N[i]? = some x) (hx : Loc X.env.scope x) (he : MK X C E e m) (hs : swapsWith e (some (.Name x pos')) pos.line X.env = pure false := by rfl) (hf : X.fn x = true ∨ X.env.scope.names.lookup x = some .local := by first | exact .inl rfl | exact .inr rfl | assumption) :
    MS X C E fr B (.Assign [.Name x pos'] e pos) (mSetK2 i m) := fun G0 => PS.imp (ps_set hN hi hx he hs hf) fun En σ H ⟨env, G, Ks, er, hm, f⟩ =>
  ⟨viewE env, G, _, _, Ks.ex, er.z.ok, er.vr, hm, fun d p o H1 G1 s1 ok1 hp gp ho sp ob k1 => f.nx _ _ H1 G1 (er.fresh_own s1 ok1 hp gp ho sp ob.obj) (k1 p), fun d v H1 G1 s1 ok1 r1 k1 => f.nx _ _ H1 G1 ((er.step s1 ok1).set_sh r1) k1, f.px er.z (Same.refl _)⟩
/-! ### the end -/
theorem walk_tab {l : PySem.W.OpenLaw} {n k : Nat} {q : Program} {loose : List Str} {XP : (Str → Option Value) → Heap → Prop} {YP : World → Heap → Prop} {d : DefRec} {K : Params → PySem.W.Frag} {CX : World → CXT} {x : Str}
    (hn : l.most = some n) (hn2 : n ≤ sizeLine) (hdf : d.params.defaults = []) (hr : Room k callerA) (hY : ∀ (w : World) (h : Heap), YP w h → (K w.params).In h) (hd : (PyProof.Rows.recsOf q).find? (fun e => e.name == d.name) = some d)
    (F : ∀ (w : World) (mg : Str → Option Value) (fa : Addr) (h : Heap), (K w.params).In h → h.Ns mainGlobals mg → mg d.name = some (.ref fa) →
      ∃ (c T : Addr) (fd : FuncData), PySem.W.tabIn (K w.params) d.name = some (c, T) ∧ (K w.params).lookup T = none ∧ (∀ (s : Shared) (u : Value), BindsTo s fd ⟨[u], []⟩ [(x, u)]) ∧
        ∀ base : Heap, (K w.params).In base → base.Ns mainGlobals mg → LamX.TabB base mg c T → FnOk l.prog w (K w.params) mg base (CX w) k fa fd [x] (spLawT (K w.params) T))
    (hCX : ∀ (w : World) (H : Hp) (s : Shared) (e : Value) (s' : Shared), CX w [] H s (fun _ _ _ => False) e s' → False) :
    PySem.W.WalkO q loose XP YP l.row.toRowW d [] (fun f vs => PySem.call f vs) := by
  refine Att.attach_callB hn hdf fun w s₀ s₁ mg mb fa o pm cd doc a vs ns G Y ho hod hcd hmg hobj hints hlen hbits hg => ?_
  have KX := hY w _ Y
  obtain ⟨c, T, fd, ht, hnT, hb, hF⟩ := F w mg fa _ KX G.T.g hmg
  obtain ⟨hC, hT⟩ := PySem.W.tab_of G.T KX hd ht
  refine LamX.law_callTs (cs := [(c, T)]) KX G.T.g G.T.b G.T.builtins G.T.nolimit hg (fun p hp => ?_) (fun p hp => ?_) (fun p hp => ?_) G.T.bmain hobj hints (Nat.le_trans hlen hn2) hr (fun base h1 h2 h3 => hF base h1 h2 (h3 (c, T) (List.mem_singleton.mpr rfl))) hb (fun H hH hS => ⟨a, ns, rfl, hS, hH (c, T) (List.mem_singleton.mpr rfl), fun _ _ e => e⟩) fun H e s' => hCX w H s₁ e s'
  · rw [List.mem_singleton.mp hp]; exact hT
  · rw [List.mem_singleton.mp hp]; exact hnT
  · rw [List.mem_singleton.mp hp]; exact hC
end L3
/-! L3p: t.index(y) of a tuple, list of a dict -/
namespace L3
open PySem PySem.Spec PyProof.Rows L2
section
variable {X : Cx} {C : C3} {E : XK} {o e : Expr} {mo ma : MEt} {apos cpos pos p : Pos} {r : MAt}
def rIndexTF (K : PySem.W.Frag) : V → List V → Hp → VK → Prop := fun x xs H Q => ∃ (t : Addr) (ys : List V) (y : V) (j : Nat) (z : V), x = .ref t ∧ xs = [y] ∧ SqT K H t ys ∧ flatV y = true ∧ ys.all flatV = true ∧ ys[j]? = some z ∧ eqV z y = true ∧ (∀ (m : Nat) (z' : V), m < j → ys[m]? = some z' → eqV z' y = false) ∧ Q (.int (j : Nat)) H
theorem mt_indexTF : MtR X "tuple.index" (rIndexTF X.K) := by
  intro pins s σ H x xs v us Q I rx rxs h
  obtain ⟨a, ys, y, j, z, rfl, rfl, hs, fy, fys, hz, hzj, hno, q⟩ := h
  cases rx
  obtain ⟨u, rfl, ru⟩ := rxs.one
  obtain ⟨its, rv, pl, hlen⟩ := I.tuple hs
  obtain ⟨⟨cls, dd, data, sl⟩, ho, hc, n, hd⟩ := pl
  simp only at hc hd
  subst hc hd
  obtain ⟨u2, hu2, ru2⟩ := rv.get hz
  obtain ⟨hjl, hje⟩ := List.getElem?_eq_some_iff.mp hu2
  have hvl := rv.length
  have hj : j < its.toArray.size := by simpa using hjl
  refine call_meets PySem.F.slot_tuple_index ⟨_, ho, rfl⟩ PySem.F.entry_tuple_index (PySem.F.args_tuple_index_2 _ _) (TI.tuple_indexAt a its.toArray n dd sl u (eqU y) j hj ?_ ?_)
    ⟨ho, fun w hw => mem_eqAt ru fy rv fys w (by simpa using hw), ⟨.int (j : Nat), H, I.tok _, ⟨_, rfl⟩, q⟩⟩
  · have e1 : its.toArray[j] = u2 := by simpa using hje
    rw [e1, eqU_of ru2 (flat_at fys hz)]
    exact hzj
  · intro m hm hmj
    have hml : m < its.length := by simpa using hm
    have hmy : m < ys.length := by omega
    have hy' : ys[m]? = some ys[m] := List.getElem?_eq_getElem hmy
    obtain ⟨u3, hu3, ru3⟩ := rv.get hy'
    have e1 : its.toArray[m] = u3 := by simpa using (List.getElem?_eq_some_iff.mp hu3).2
    rw [e1, eqU_of ru3 (flat_at fys hy')]
    exact hno m _ hmj hy'
def mIndexT (mo ma : MEt) : MEt := fun env Kd KX => mo env (fun d => (∃ ds, d = .tup ds) ∧ ma env (fun y => match d with
  | .tup ds => flatD y = true ∧ ds.all flatD = true ∧ ∃ (j : Nat) (z : D), ds[j]? = some z ∧ eqV (fv z) (fv y) = true ∧ (∀ (m : Nat) (z' : D), m < j → ds[m]? = some z' → eqV (fv z') (fv y) = false) ∧ Kd (.int (j : Nat))
  | _ => False) KX) KX
theorem me_indexT (hK : X.K = C.K) (h : PE X (.Call (.Attribute o "index" apos) [e] [] cpos) (tBT X.K (rIndexTF X.K) (lift C X.mg E mo) (tCons (lift C X.mg E ma) tNil))) : ME X C E (.Call (.Attribute o "index" apos) [e] [] cpos) (mIndexT mo ma) :=
  PE.imp h fun σ H Q ⟨env, G, Kd, KX, ok, vr, hm, pv, px⟩ => by
  refine ⟨env, G, _, KX, ok, vr, hm, fun d v H1 G1 s1 ok1 r1 k1 => ?_, px⟩
  obtain ⟨⟨ds, rfl⟩, k1⟩ := k1
  cases r1 with
  | tup ha ra =>
    rw [hK]
    refine ⟨?_, env, G1, _, KX, ok1, vr.mono s1.ge, k1, fun y w H2 G2 s2 ok2 r2 k2 => ?_, px.on ok s1⟩
    · obtain ⟨q, e, h⟩ := ha.ty
      refine ⟨q, e, ?_⟩
      rcases h with ⟨ob, vs, h, c⟩ | h
      · exact .inl ⟨ob, vs, (ok1.sub _ _ h).2, c⟩
      · exact .inr h
    · obtain ⟨f1, f2, j, z, hz, he, hno, k⟩ := k2
      obtain ⟨rfl, g1⟩ := r2.flat f1
      obtain ⟨rfl, g2⟩ := ra.flat f2
      refine ⟨_, _, _, j, fv z, rfl, rfl, seqT (fun a o q => (ok2.sub a o (s2.ge a o q)).2) ha.sq, g1, g2, by rw [List.getElem?_map, hz]; rfl, he, fun m z' hm hz' => ?_, pv _ _ _ _ (s1.trans ok2 s2) ok2 (.int _) k⟩
      rw [List.getElem?_map] at hz'
      cases q : ds[m]? with
      | none => rw [q] at hz'; cases hz'
      | some z'' =>
        rw [q] at hz'
        cases hz'
        exact hno m z'' hm q
/-- list(d), d a dict: its keys -/
@[irreducible] def listKD (ds : List D) (K : D → Prop) : Prop := match ds with
  | [.dic kvs] => K (.lst (kvs.map fun p => .int p.1))
  | _ => False
theorem listKD_of {kvs : List (Int × D)} {K : D → Prop} (k : K (.lst (kvs.map fun p => .int p.1))) : listKD [.dic kvs] K := by
  unfold listKD
  exact k
theorem Rps.keysD {K : PySem.W.Frag} {G : Hp} : ∀ {kvs : List (Int × D)} {kws : List (Key × V)}, RpK K G kvs kws → Rps K G (kvs.map fun p => D.int p.1) (kws.map fun kv => kV kv.1)
  | _, _, .nil => .nil
  | _, _, .cons _ r => .cons (.int _) (Rps.keysD r)
theorem cf_listK : CF C (fun xs H Q => ∃ (a : Addr) (kvs : List (Key × V)), xs = [.ref a] ∧ Rd H a (.dK kvs) ∧ ∀ p, H p = none → Q (.ref p) (upd H p (.lst (kvs.map fun kv => kV kv.1)))) listKD := by
  intro vs ds H G Kd Q ok rr h pv
  unfold listKD at h
  split at h
  · cases rr with
    | cons r1 r2 =>
      cases r2
      cases r1 with
      | dic ha ra =>
        refine ⟨_, _, rfl, .inr ⟨_, (ok.sub _ _ ha).2⟩, fun q hq => ?_⟩
        obtain ⟨o1, s1, g⟩ := ok.new (o := .lst _) hq
        exact pv _ q _ _ G s1 o1 (nT_none hq) g upd_same (ok.iv.new hq) (.lst (Rps.keysD ra)) h
  · exact h.elim
theorem mf_listK (F : Free X.mg) (hK : X.K = C.K) (hc : X.calm = true) (hg : Gl X "list") (ha : MA X C E [e] r) (he : starEach (e :: []) X.env = (false, eval e X.env) :: starEach [] X.env := by rfl) (hpl : (backTo pos (starEach [] X.env)).any (·.1) = false := by rfl) : MF X C E (.Call (.Name "list" p) [e] [] pos) (mCall listKD r) :=
  mf_callTy (call_listD hc) cf_listK hg F.list (by decide +kernel) ha (by decide) (by decide) he hpl
end
/-! ### the words of errors without a field -/
def plainW : List Str := ["BadLead", "BadSpare", "NoWay", "BadWord", "BadHouse", "BadCall"]
theorem kind_any (a : Addr) (w : Str) (hw : w ∈ plainW) (Ks : KS) (k : Ks.rt (.str w)) : m__law_kind a (decide (("BadLead" : Str) = w)) (decide (("BadSpare" : Str) = w)) (decide (("BadMove" : Str) = w)) (decide (("NoWay" : Str) = w)) (decide (("BadWord" : Str) = w)) (decide (("BadHouse" : Str) = w)) (decide (("BadCall" : Str) = w)) (decide (("BadText" : Str) = w)) [none, some (.sh (.ref a)), none, none, none] Ks := by
  simp only [plainW, List.mem_cons, List.mem_nil_iff, or_false] at hw
  rcases hw with rfl | rfl | rfl | rfl | rfl | rfl
  · rw [show decide (("BadLead" : Str) = "BadLead") = true by decide +kernel, show decide (("BadSpare" : Str) = "BadLead") = false by decide +kernel, show decide (("BadMove" : Str) = "BadLead") = false by decide +kernel, show decide (("NoWay" : Str) = "BadLead") = false by decide +kernel, show decide (("BadWord" : Str) = "BadLead") = false by decide +kernel, show decide (("BadHouse" : Str) = "BadLead") = false by decide +kernel, show decide (("BadCall" : Str) = "BadLead") = false by decide +kernel, show decide (("BadText" : Str) = "BadLead") = false by decide +kernel]
    exact pu_kind_BadLead a Ks k
  · rw [show decide (("BadLead" : Str) = "BadSpare") = false by decide +kernel, show decide (("BadSpare" : Str) = "BadSpare") = true by decide +kernel, show decide (("BadMove" : Str) = "BadSpare") = false by decide +kernel, show decide (("NoWay" : Str) = "BadSpare") = false by decide +kernel, show decide (("BadWord" : Str) = "BadSpare") = false by decide +kernel, show decide (("BadHouse" : Str) = "BadSpare") = false by decide +kernel, show decide (("BadCall" : Str) = "BadSpare") = false by decide +kernel, show decide (("BadText" : Str) = "BadSpare") = false by decide +kernel]
    exact pu_kind_BadSpare a Ks k
  · rw [show decide (("BadLead" : Str) = "NoWay") = false by decide +kernel, show decide (("BadSpare" : Str) = "NoWay") = false by decide +kernel, show decide (("BadMove" : Str) = "NoWay") = false by decide +kernel, show decide (("NoWay" : Str) = "NoWay") = true by decide +kernel, show decide (("BadWord" : Str) = "NoWay") = false by decide +kernel, show decide (("BadHouse" : Str) = "NoWay") = false by decide +kernel, show decide (("BadCall" : Str) = "NoWay") = false by decide +kernel, show decide (("BadText" : Str) = "NoWay") = false by decide +kernel]
    exact pu_kind_NoWay a Ks k
  · rw [show decide (("BadLead" : Str) = "BadWord") = false by decide +kernel, show decide (("BadSpare" : Str) = "BadWord") = false by decide +kernel, show decide (("BadMove" : Str) = "BadWord") = false by decide +kernel, show decide (("NoWay" : Str) = "BadWord") = false by decide +kernel, show decide (("BadWord" : Str) = "BadWord") = true by decide +kernel, show decide (("BadHouse" : Str) = "BadWord") = false by decide +kernel, show decide (("BadCall" : Str) = "BadWord") = false by decide +kernel, show decide (("BadText" : Str) = "BadWord") = false by decide +kernel]
    exact pu_kind_BadWord a Ks k
  · rw [show decide (("BadLead" : Str) = "BadHouse") = false by decide +kernel, show decide (("BadSpare" : Str) = "BadHouse") = false by decide +kernel, show decide (("BadMove" : Str) = "BadHouse") = false by decide +kernel, show decide (("NoWay" : Str) = "BadHouse") = false by decide +kernel, show decide (("BadWord" : Str) = "BadHouse") = false by decide +kernel, show decide (("BadHouse" : Str) = "BadHouse") = true by decide +kernel, show decide (("BadCall" : Str) = "BadHouse") = false by decide +kernel, show decide (("BadText" : Str) = "BadHouse") = false by decide +kernel]
    exact pu_kind_BadHouse a Ks k
  · rw [show decide (("BadLead" : Str) = "BadCall") = false by decide +kernel, show decide (("BadSpare" : Str) = "BadCall") = false by decide +kernel, show decide (("BadMove" : Str) = "BadCall") = false by decide +kernel, show decide (("NoWay" : Str) = "BadCall") = false by decide +kernel, show decide (("BadWord" : Str) = "BadCall") = false by decide +kernel, show decide (("BadHouse" : Str) = "BadCall") = false by decide +kernel, show decide (("BadCall" : Str) = "BadCall") = true by decide +kernel, show decide (("BadText" : Str) = "BadCall") = false by decide +kernel]
    exact pu_kind_BadCall a Ks k
end L3
/-! L3q: errors with a field of their own -/
namespace L3
open PySem PySem.Spec PyProof.Rows L2
section
variable {X : Cx} {C : C3} {E : XK} {fr : Bool} {B : Hp}
/-- isinstance(e, c), e the held error, its dict at dd -/
def rIsED (K : PySem.W.Frag) (D a dd : Addr) : List V → Hp → VK → Prop := fun xs H Q => ∃ (c : V) (cv : Value) (b : Bool) (fs : List (Str × V)), xs = [.ref a, c] ∧ (∀ u, RelV c u → u = cv) ∧ PySem.W.kitOne K (.ref D) cv = some b ∧ H dd = some (.xd fs) ∧ Q (.bl b) H
theorem call_isED {a D dd : Addr} {oe : Obj} {pn : List (Addr × Obj)} (Z : ExcC X.K D) (hz : Zc (.ref D) (some dd) oe) (hf : ∃ vs, oe.data = .fields vs) : CallR (X.suite a ((a, oe) :: pn)) (.builtin "isinstance") (rIsED X.K D a dd) := by
  intro pins s σ H vs us Q I rr hw
  obtain ⟨c, cv, b, fs, rfl, hcv, hk, hd, q⟩ := hw
  cases rr with
  | cons r1 rr =>
    cases rr with
    | cons r2 rr =>
      cases rr
      cases r1
      have e2 := hcv _ r2
      subst e2
      obtain ⟨at1, _⟩ := I.pin (a, oe) (List.mem_append_left _ List.mem_cons_self)
      obtain ⟨ws, hws⟩ := hf
      have hox : ObjOk X.prog X.w H s.heap dd (.xd fs) := I.hok dd _ hd
      obtain ⟨mA, hns, _⟩ := hox
      obtain ⟨od, ho, _⟩ := lookIn_ns hns
      have J : PySem.W.InstAt s.heap a oe D (some od) := ⟨at1, hz.1, by unfold PySem.W.notCls; rw [hws] <;> rfl, by rw [hz.2]; exact ho⟩
      have hcl : (PySem.W.clsIn X.K D).isSome = true := by
        obtain ⟨cd, hc, _⟩ := PySem.W.any_some Z.hd
        rw [hc]
        rfl
      exact PySem.W.kia_one (PySem.W.kitx_exc hcl Z.hg Z.hk Z.hs Z.ha Z.hn Z.ht Z.hm) I.kIn J hk (fun z => nomatch z) fun tk => ⟨.bl b, H, I.kept (t' := tk) fun _ _ z => z, rfl, q⟩
theorem me_isED {a D A dd : Addr} {fs : List (Str × V)} {oe : Obj} {pn : List (Addr × Obj)} {b : Bool} {e c : Str} {p pe pc pos : Pos} (i : Nat) (F : Free X.mg) (hK : X.K = C.K) (Xc : ExcC X.K D) (hz : Zc (.ref D) (some dd) oe) (hf : ∃ vs, oe.data = .fields vs) (hx : (dd, HO.xd fs) ∈ C.fix) (hg : Gl (X.suite a ((a, oe) :: pn)) "isinstance") (he : ME (X.suite a ((a, oe) :: pn)) C E (.Name e pe) (mVar i))
    (hc : Gl (X.suite a ((a, oe) :: pn)) c) (hm : X.mg c = some (.ref A)) (hk : PySem.W.kitOne X.K (.ref D) (.ref A) = some b) (hd : (c == ("__debug__" : Str)) = false := by decide)
    (h1 : starEach [.Name e pe, .Name c pc] (X.suite a ((a, oe) :: pn)).env = (false, eval (.Name e pe) (X.suite a ((a, oe) :: pn)).env) :: starEach [.Name c pc] (X.suite a ((a, oe) :: pn)).env := by rfl)
    (h2 : starEach [.Name c pc] (X.suite a ((a, oe) :: pn)).env = (false, eval (.Name c pc) (X.suite a ((a, oe) :: pn)).env) :: starEach [] (X.suite a ((a, oe) :: pn)).env := by rfl) (hpl : (backTo pos (starEach [.Name c pc] (X.suite a ((a, oe) :: pn)).env)).any (·.1) = false := by rfl) :
    ME (X.suite a ((a, oe) :: pn)) C E (.Call (.Name "isinstance" p) [.Name e pe, .Name c pc] [] pos) (mIsE i a b) :=
  PE.imp (pe_callB (call_isED Xc hz hf) hg F.isinstance PyProof.Rows.boot_isinstance (pa_cons he (pa_cons (pe_glob (v := .ref A) hc hm rfl hd) pa_nil h2) h1) (by decide) (by decide) h1 hpl) fun σ H Q ⟨env, G, Kd, KX, ok, vr, hm', pv, px⟩ => by
  refine ⟨env, G, _, KX, ok, vr, hm', fun d v H1 G1 s1 ok1 r1 k1 => ?_, px⟩
  obtain ⟨rfl, k1⟩ := k1
  cases r1
  exact ⟨.ref A, .ref A, b, fs, rfl, fun u r => r, hk, ok1.iv.fx _ hx, pv _ _ H1 G1 s1 ok1 (.bl b) k1⟩
theorem me_isEDT {a D dd : Addr} {fs : List (Str × V)} {oe : Obj} {pn : List (Addr × Obj)} {b : Bool} {e c : Str} {T : String} {p pe pc pos : Pos} (i : Nat) (F : Free X.mg) (hK : X.K = C.K) (Xc : ExcC X.K D) (hz : Zc (.ref D) (some dd) oe) (hf : ∃ vs, oe.data = .fields vs) (hx : (dd, HO.xd fs) ∈ C.fix) (hg : Gl (X.suite a ((a, oe) :: pn)) "isinstance") (he : ME (X.suite a ((a, oe) :: pn)) C E (.Name e pe) (mVar i))
    (hc : Gl (X.suite a ((a, oe) :: pn)) c) (hm : X.mg c = none) (hb : bootBuiltins c = some (.type T)) (hk : PySem.W.kitOne X.K (.ref D) (.type T) = some b) (hn : c ≠ "__name__" := by decide) (hd : (c == ("__debug__" : Str)) = false := by decide)
    (h1 : starEach [.Name e pe, .Name c pc] (X.suite a ((a, oe) :: pn)).env = (false, eval (.Name e pe) (X.suite a ((a, oe) :: pn)).env) :: starEach [.Name c pc] (X.suite a ((a, oe) :: pn)).env := by rfl)
    (h2 : starEach [.Name c pc] (X.suite a ((a, oe) :: pn)).env = (false, eval (.Name c pc) (X.suite a ((a, oe) :: pn)).env) :: starEach [] (X.suite a ((a, oe) :: pn)).env := by rfl) (hpl : (backTo pos (starEach [.Name c pc] (X.suite a ((a, oe) :: pn)).env)).any (·.1) = false := by rfl) :
    ME (X.suite a ((a, oe) :: pn)) C E (.Call (.Name "isinstance" p) [.Name e pe, .Name c pc] [] pos) (mIsE i a b) :=
  PE.imp (pe_callB (call_isED Xc hz hf) hg F.isinstance PyProof.Rows.boot_isinstance (pa_cons he (pa_cons (pe_bltn (v := .ty T) hc hm hb rfl hn hd) pa_nil h2) h1) (by decide) (by decide) h1 hpl) fun σ H Q ⟨env, G, Kd, KX, ok, vr, hm', pv, px⟩ => by
  refine ⟨env, G, _, KX, ok, vr, hm', fun d v H1 G1 s1 ok1 r1 k1 => ?_, px⟩
  obtain ⟨rfl, k1⟩ := k1
  cases r1
  exact ⟨.ty T, .type T, b, fs, rfl, fun u r => r, hk, ok1.iv.fx _ hx, pv _ _ H1 G1 s1 ok1 (.bl b) k1⟩
/-- e.number of the held error -/
def mFldE (i : Nat) (a : Addr) (n : Int) : MEt := fun env Kd KX => mVar i env (fun d => d = .ref a ∧ Kd (.int n)) KX
theorem me_fldE {a D dd : Addr} {f : Str} {n : Int} {oe : Obj} {pn : List (Addr × Obj)} {e : Str} {pe pos : Pos} (i : Nat) (T : XfC X.K D) (hno : PySem.W.findIn X.K (.ref D) f = some none) (hz : Zc (.ref D) (some dd) oe) (hf : ∃ vs, oe.data = .fields vs) (hx : (dd, HO.xd [(f, V.int n)]) ∈ C.fix) (he : ME (X.suite a ((a, oe) :: pn)) C E (.Name e pe) (mVar i))
    (hb : attributeBase (.Name e pe) f X.env (eval (.Name e pe) X.env) = eval (.Name e pe) X.env := by rfl) : ME (X.suite a ((a, oe) :: pn)) C E (.Attribute (.Name e pe) f pos) (mFldE i a n) :=
  PE.imp (pe_xf T hno hz hf he hb) fun σ H Q ⟨env, G, Kd, KX, ok, vr, hm', pv, px⟩ => by
  refine ⟨env, G, _, KX, ok, vr, hm', fun d v H1 G1 s1 ok1 r1 k1 => ?_, px⟩
  obtain ⟨rfl, k1⟩ := k1
  cases r1
  exact ⟨rfl, rfl, dd, _, .int n, rfl, ok1.iv.fx _ hx, by simp [List.lookup], pv _ _ H1 G1 s1 ok1 (.int n) k1⟩
end
/-! ### an own __init__ -/
/-- what an own class over ValueError says of the __init__ that it inherits -/
structure BaseI (K : PySem.W.Frag) (M : Addr) : Prop where
  g : PySem.W.specialIn K (.ref M) "__getattribute__" = some (some (.builtin "type.__getattribute__"))
  t : PySem.W.typeIn K (.ref M) = some (.type "type")
  r : PySem.W.readsIn K M (.type "type") = true
  f : PySem.W.findCls K (.ref M) (.type "type") "__init__" = some (.val (.builtin "ValueError.__init__"))
section
variable {X : Cx} {C : C3} {E : XK} {fr : Bool} {B : Hp} {e : Expr} {es : List Expr} {ta : TA} {p1 p2 pos : Pos} {x : Str} {M : Addr}
/-- M.__init__(self, ..), M a class of the program that inherits ValueError's -/
theorem pe_baseI {pl : Sem Bool} (hg : Gl X x) (gM : X.mg x = some (.ref M)) (T : BaseI X.K M) (ha : PA X (e :: es) ta) (hdb : (x == ("__debug__" : Str)) = false := by decide)
    (ev : eval (.Call (.Attribute (.Name x p1) "__init__" p2) (e :: es) [] pos) X.env = (do
      let b ← eval (.Name x p1) X.env
      standAt p2.atName
      let (g, fs) ← holding [b] (getMethod b "__init__" pl)
      callWith pos g fs (backTo pos (starEach (e :: es) X.env)) (backToKw pos (keywordEach [] X.env))) := by rfl)
    (s1 : starEach (e :: es) X.env = (false, eval e X.env) :: starEach es X.env := by rfl) (s2 : (backTo pos (starEach es X.env)).any (·.1) = false := by rfl) :
    PE X (.Call (.Attribute (.Name x p1) "__init__" p2) (e :: es) [] pos) (tVeI X.K ta) := by
  refine ⟨fun pins s σ H Q I w => ?_⟩
  obtain ⟨m, fz⟩ := I.fr
  refine PySem.W.methodCall_KW (ld_glob I hg gM (PySem.W.method_of_cls fz I.ok.mod.kin T.g (PySem.W.cls_val fz I.ok.mod.kin T.t T.r T.f rfl ?_)) hdb) ev
  show wpAny _ _ (callWith pos (Value.builtin "ValueError.__init__") [] (backTo pos (starEach (e :: es) X.env)) []) _ _ _
  refine PyProof.Rows.callWith_method1 (thn (ha.run pos pins _ σ H _ (I.tok _) w) fun us s' z => ?_) s1 s2
  obtain ⟨vs, H1, I1, rs, a, D, ws, rfl, hl, TD, ea, q⟩ := z
  cases rs with
  | cons ra rw' =>
    cases ra
    refine oinit_ok TD I1 ea ?_ fun s'' J => ⟨.non, H1, J, rfl, q⟩
    rw [← Paired.length rw', sizeLine_eq]
    omega
/-- what __init__(self, n): M.__init__(self, ..); self.f = n keeps -/
def spIni (K : PySem.W.Frag) (D : Addr) (f : Str) : Sp := fun vs H Q _ => ∃ (a : Addr) (v : V), vs = [.ref a, v] ∧ OexC K D ∧ PySem.W.findIn K (.ref D) f = some none ∧ H a = some (exo a D none) ∧
  ∀ dx, H dx = none → dx ≠ a → Q .non (upd (upd H dx (exd dx [(f, v)])) a (exo a D (some dx)))
/-- a class with such an __init__ -/
structure XNk (P : Program) (w : World) (K : PySem.W.Frag) (mg : Str → Option Value) (base : Heap) (x : Str) (k : Nat) : Prop where
  ex : ∃ (D fI : Addr) (fd : FuncData) (ps : List Str), mg x = some (.ref D) ∧ OexC K D ∧ PySem.W.findIn K (.ref D) (fieldOf x) = some none ∧ PySem.W.findIn K (.ref D) "__init__" = some (some (.ref fI)) ∧ PySem.W.typeIn K (.ref fI) = some (.type "function") ∧
    FnOk P w K mg base (L2.CX P w) k fI fd ps (spIni K D (fieldOf x)) ∧ L2.Binds K fd ps []
def mRaiseN (x : Str) (m : MEt) : MSt := fun env Ks => m (viewE env) (fun d => match d with
  | .int n => Ks.ex ⟨x, some n⟩
  | _ => False) Ks.ex
theorem ms_raiseN {k : Nat} {m : MEt} {p pos2 : Pos} (o : XNk X.prog X.w X.K X.mg X.base x k) (hc : X.calm = true) (tk : Takes X (fun cls d _ H => E cls d H)) (hr : Room (k + 1) X.A) (hx : Passes (L2.CX X.prog X.w) X E0) (hg : Gl X x) (he : ME X C E e m) (hdb : (x == ("__debug__" : Str)) = false := by decide)
    (s1 : starEach (e :: []) X.env = (false, eval e X.env) :: starEach [] X.env := by rfl) (s2 : (backTo pos (starEach [] X.env)).any (·.1) = false := by rfl) : MS X C E fr B (.Raise (some (.Call (.Name x p) [e] [] pos)) none pos2) (mRaiseN x m) := fun G0 => by
  obtain ⟨D, fI, fd, ps, gx, T, hno, iC, tI, FF, hb⟩ := o.ex
  refine PS.imp (ps_raise hc tk (pmk_oex T iC tI FF hr hb .nil hx hg gx (pa_cons he pa_nil s1) hdb s1 s2)) fun En σ H ⟨env, G, Ks, er, hm, f⟩ => ?_
  refine ⟨viewE env, G, _, Ks.ex, er.z.ok, er.vr, hm, fun d v H1 G1 st1 ok1 r1 k1 => ?_, f.px er.z (Same.refl _)⟩
  obtain ⟨n, rfl⟩ : ∃ n, d = .int n := by cases d <;> first | exact (show False from k1).elim | exact ⟨_, rfl⟩
  cases r1
  refine ⟨by simp, fun a na => ⟨a, .int n, rfl, T, hno, upd_same, fun dx nd ne => ⟨rfl, dx, [(fieldOf x, .int n)], upd_same, ?_, ?_, ?_⟩⟩⟩
  · rw [upd_ne ne, upd_same]
  · rw [upd_ne ne] at nd
    exact nd
  · have nd1 : H1 dx = none := by rw [upd_ne ne] at nd; exact nd
    have at_ : ∀ b, b ≠ a → b ≠ dx → upd (L2.del (upd (upd (upd H1 a (exo a D none)) dx (exd dx [(fieldOf x, .int n)])) a (exo a D (some dx))) a) dx (.xd [(fieldOf x, .int n)]) b = H1 b := fun b h1 h2 => by
      rw [upd_ne h2, L2.del_ne h1, upd_ne h1, upd_ne h2, upd_ne h1]
    have sm : Same H1 (upd (L2.del (upd (upd (upd H1 a (exo a D none)) dx (exd dx [(fieldOf x, .int n)])) a (exo a D (some dx))) a) dx (.xd [(fieldOf x, .int n)])) := fun b u h => by
      rw [at_ b (ne_of_none h na) (ne_of_none h nd1)]
      exact h
    have er1 := er.step st1 ok1
    refine f.ex ⟨x, some n⟩ (.ref D) (some dx) _ k1 (fun b u sp h => nT_same sm b u (er1.z.keep b u sp h)) (fun b u h => sm b u (ok1.sub b u (er1.z.g0 b u h)).2) (ok1.iv.same sm) ⟨D, gx, rfl, dx, rfl, upd_same, ?_⟩
    cases q : G0 dx with
    | none => rfl
    | some u =>
      have := (ok1.sub dx u (er1.z.g0 dx u q)).2
      rw [nd1] at this
      cases this
end
end L3
/-! L3r: _law_kind of errors with a field, too -/
namespace L3
open PySem PySem.Spec PyProof.Rows L2
def m__law_kindM (a : Addr) (n : Int) (b_BadLead b_BadSpare b_BadMove b_NoWay b_BadWord b_BadHouse b_BadCall b_BadText : Bool) : MSt :=
  (mSeq (mSet 2 (mLst (aCons (mIsE 1 a b_BadLead) (aCons (mIsE 1 a b_BadSpare) (aCons (mIsE 1 a b_BadMove) (aCons (mIsE 1 a b_NoWay) aNil))))))
  (mSeq (mSetF 2 (m2 catD (mVar 2) (mLst (aCons (mIsE 1 a b_BadWord) (aCons (mIsE 1 a b_BadHouse) (aCons (mIsE 1 a b_BadCall) aNil))))))
  (mSeq (mAppend 2 (mIsE 1 a b_BadText))
  (mSeq (mSet 3 (mLst (aCons (mC (.str "BadLead")) (aCons (mC (.str "BadSpare")) (aCons (mC (.str "BadMove")) (aCons (mC (.str "NoWay")) (aCons (mC (.str "BadWord")) (aCons (mC (.str "BadHouse")) (aCons (mC (.str "BadCall")) (aCons (mC (.str "BadText")) aNil))))))))))
  (mSeq (mIfS (mOr (mB (m2 (eqE true) (mCountM (mVar 2) (mC (.bl true))) (mC (.int 1)))) (mNot (mB (mIsE 1 a true)))) (mRet (mC (.str "other"))) mNext)
  (mSeq (mSetL 4 (m2 ixD (mVar 3) (mIndexM (mVar 2) (mC (.bl true)))))
  (mSeq (mIfS (mB (m2 (eqE false) (mVar 4) (mC (.str "BadMove")))) (mRet (mTup (aCons (mVar 4) (aCons (mFldE 1 a n) aNil)))) mNext)
  (mRet (mIf (mB (m2 (eqE false) (mVar 4) (mC (.str "BadText")))) (mTup (aCons (mVar 4) (aCons mNo aNil))) (mVar 4))))))))))
def m__law_kindT (a : Addr) (n : Int) (b_BadLead b_BadSpare b_BadMove b_NoWay b_BadWord b_BadHouse b_BadCall b_BadText : Bool) : MSt :=
  (mSeq (mSet 2 (mLst (aCons (mIsE 1 a b_BadLead) (aCons (mIsE 1 a b_BadSpare) (aCons (mIsE 1 a b_BadMove) (aCons (mIsE 1 a b_NoWay) aNil))))))
  (mSeq (mSetF 2 (m2 catD (mVar 2) (mLst (aCons (mIsE 1 a b_BadWord) (aCons (mIsE 1 a b_BadHouse) (aCons (mIsE 1 a b_BadCall) aNil))))))
  (mSeq (mAppend 2 (mIsE 1 a b_BadText))
  (mSeq (mSet 3 (mLst (aCons (mC (.str "BadLead")) (aCons (mC (.str "BadSpare")) (aCons (mC (.str "BadMove")) (aCons (mC (.str "NoWay")) (aCons (mC (.str "BadWord")) (aCons (mC (.str "BadHouse")) (aCons (mC (.str "BadCall")) (aCons (mC (.str "BadText")) aNil))))))))))
  (mSeq (mIfS (mOr (mB (m2 (eqE true) (mCountM (mVar 2) (mC (.bl true))) (mC (.int 1)))) (mNot (mB (mIsE 1 a true)))) (mRet (mC (.str "other"))) mNext)
  (mSeq (mSetL 4 (m2 ixD (mVar 3) (mIndexM (mVar 2) (mC (.bl true)))))
  (mSeq (mIfS (mB (m2 (eqE false) (mVar 4) (mC (.str "BadMove")))) (mRet (mTup (aCons (mVar 4) (aCons mNo aNil)))) mNext)
  (mRet (mIf (mB (m2 (eqE false) (mVar 4) (mC (.str "BadText")))) (mTup (aCons (mVar 4) (aCons (mFldE 1 a n) aNil))) (mVar 4))))))))))
theorem pu_kind_BadMove (a : Addr) (n : Int) (Ks : KS) (k : Ks.rt (.tup [.str "BadMove", .int n])) : m__law_kindM a n false false true false false false false false [none, some (.sh (.ref a)), none, none, none] Ks := by
  refine ⟨rfl, rfl, rfl, rfl, by decide, rfl, rfl, rfl, by decide, by decide, fun q => ⟨rfl, by decide, ⟨by decide, ?_⟩⟩⟩
  refine ⟨⟨_, rfl⟩, rfl, rfl, eqE_int ?_⟩
  refine ⟨rfl, ⟨_, rfl⟩, rfl, rfl, 2, .bl true, rfl, rfl, fun m z' hm hz => ?_, ixD_lst (d := .str "BadMove") rfl ⟨rfl, eqE_str ?_⟩⟩
  · match m, hm, hz with | 0, _, rfl => rfl | 1, _, rfl => rfl
  · exact ⟨rfl, (by show 2 ≤ sizeLine; decide), k⟩
theorem kind_BadMove (a : Addr) (n : Int) (Ks : KS) (k : Ks.rt (.tup [.str "BadMove", .int n])) : m__law_kindM a n (decide (("BadLead" : Str) = "BadMove")) (decide (("BadSpare" : Str) = "BadMove")) (decide (("BadMove" : Str) = "BadMove")) (decide (("NoWay" : Str) = "BadMove")) (decide (("BadWord" : Str) = "BadMove")) (decide (("BadHouse" : Str) = "BadMove")) (decide (("BadCall" : Str) = "BadMove")) (decide (("BadText" : Str) = "BadMove")) [none, some (.sh (.ref a)), none, none, none] Ks := by
  rw [show decide (("BadLead" : Str) = "BadMove") = false by decide +kernel, show decide (("BadSpare" : Str) = "BadMove") = false by decide +kernel, show decide (("BadMove" : Str) = "BadMove") = true by decide +kernel, show decide (("NoWay" : Str) = "BadMove") = false by decide +kernel, show decide (("BadWord" : Str) = "BadMove") = false by decide +kernel, show decide (("BadHouse" : Str) = "BadMove") = false by decide +kernel, show decide (("BadCall" : Str) = "BadMove") = false by decide +kernel, show decide (("BadText" : Str) = "BadMove") = false by decide +kernel]
  exact pu_kind_BadMove a n Ks k
theorem pu_kind_BadText (a : Addr) (n : Int) (Ks : KS) (k : Ks.rt (.tup [.str "BadText", .int n])) : m__law_kindT a n false false false false false false false true [none, some (.sh (.ref a)), none, none, none] Ks := by
  refine ⟨rfl, rfl, rfl, rfl, by decide, rfl, rfl, rfl, by decide, by decide, fun q => ⟨rfl, by decide, ⟨by decide, ?_⟩⟩⟩
  refine ⟨⟨_, rfl⟩, rfl, rfl, eqE_int ?_⟩
  refine ⟨rfl, ⟨_, rfl⟩, rfl, rfl, 7, .bl true, rfl, rfl, fun m z' hm hz => ?_, ixD_lst (d := .str "BadText") rfl ⟨rfl, eqE_str ?_⟩⟩
  · match m, hm, hz with | 0, _, rfl => rfl | 1, _, rfl => rfl | 2, _, rfl => rfl | 3, _, rfl => rfl | 4, _, rfl => rfl | 5, _, rfl => rfl | 6, _, rfl => rfl
  · exact eqE_str ⟨rfl, (by show 2 ≤ sizeLine; decide), k⟩
theorem kind_BadText (a : Addr) (n : Int) (Ks : KS) (k : Ks.rt (.tup [.str "BadText", .int n])) : m__law_kindT a n (decide (("BadLead" : Str) = "BadText")) (decide (("BadSpare" : Str) = "BadText")) (decide (("BadMove" : Str) = "BadText")) (decide (("NoWay" : Str) = "BadText")) (decide (("BadWord" : Str) = "BadText")) (decide (("BadHouse" : Str) = "BadText")) (decide (("BadCall" : Str) = "BadText")) (decide (("BadText" : Str) = "BadText")) [none, some (.sh (.ref a)), none, none, none] Ks := by
  rw [show decide (("BadLead" : Str) = "BadText") = false by decide +kernel, show decide (("BadSpare" : Str) = "BadText") = false by decide +kernel, show decide (("BadMove" : Str) = "BadText") = false by decide +kernel, show decide (("NoWay" : Str) = "BadText") = false by decide +kernel, show decide (("BadWord" : Str) = "BadText") = false by decide +kernel, show decide (("BadHouse" : Str) = "BadText") = false by decide +kernel, show decide (("BadCall" : Str) = "BadText") = false by decide +kernel, show decide (("BadText" : Str) = "BadText") = true by decide +kernel]
  exact pu_kind_BadText a n Ks k
/-- what it makes of the lambda's reading: ws without a field, wn with one -/
def TTn (C : C3) (mg : Str → Option Value) (ws wn : List Str) : (XK → Hp → VK → Prop) → Hp → VK → Prop := fun tl H Q =>
  tl (fun cls d H' => (∃ (w : Str) (G : Hp) (D : Addr), Ok3 C H' G ∧ w ∈ ws ∧ cls = .ref D ∧ d = none ∧ Kinds C.K mg D w ∧ PostV C H' G (fun y => y = .str w) Q) ∨
    ∃ (w : Str) (n : Int) (G : Hp) (D dd : Addr), Ok3 C H' G ∧ w ∈ wn ∧ cls = .ref D ∧ d = some dd ∧ H' dd = some (.xd [(fieldOf w, .int n)]) ∧ G dd = none ∧ Kinds C.K mg D w ∧ XfC C.K D ∧ PySem.W.findIn C.K (.ref D) (fieldOf w) = some none ∧ PostV C H' G (fun y => y = .tup [.str w, .int n]) Q) H Q
def kindX (ws wn : List Str) (Kd : D → Prop) (x : Exn) : Prop := match x.num with
  | none => x.cls ∈ ws ∧ Kd (.str x.cls)
  | some n => x.cls ∈ wn ∧ Kd (.tup [.str x.cls, .int n])
def mKindN (ws wn : List Str) (m : MEt) : MEt := fun env Kd KX => m env Kd (kindX ws wn Kd)
open LamX in
/-- _law_kind(lambda: body) -/
theorem me_kindN {X : Cx} {C : C3} {E : XK} {ws wn : List Str} {m : MEt} {x a : Str} {g c P : Addr} {k : Nat} {pg : Arguments} {bg : List Stmt} {sg : Scope} {dV kV doc pm cdv ct oc : Value} {an od : Option Addr} {osl : Array (Option Value)} {Ng : List Str}
    {params : Arguments} {body : Expr} {scope : Scope} {p lpos pos : Pos} (hK : X.K = C.K) (hfx : ∀ p ∈ C.fix, notTbl p.2 = true) (kt : ∀ w ∈ ws, ∃ D, X.mg w = some (.ref D) ∧ Kinds X.K X.mg D w) (ktn : ∀ w ∈ wn, ∃ D, X.mg w = some (.ref D) ∧ Kinds X.K X.mg D w ∧ XfC X.K D ∧ PySem.W.findIn X.K (.ref D) (fieldOf w) = some none) (hg : Gl X x) (hm : X.mg x = some (.ref g)) (hk : PySem.W.keepIn X.K (.ref g) = true)
    (lk : X.K.lookup g = some ⟨oc, od, .func (PySem.W.fnOf x x pg bg sg dV kV doc pm an cdv ct), osl⟩) (hcg : PySem.W.codeIn X.K cdv x = true) (hb : L2.Binds X.K (PySem.W.fnOf x x pg bg sg dV kV doc pm an cdv ct) [a] []) (Sg : FnScope Ng [a] sg) (hNg : Ng[0]? = some a) (hva : Vis sg a)
    (hG : GivesTo X Ng x sg g cdv bg a (X.env.qual ++ "<lambda>") (TTn C X.mg ws wn))
    (TB : TabB X.base X.mg c P) (hcode : X.env.code = .ref c) (hmT : (P, X.env.qual ++ "<lambda>") ∈ C.tabs) (hu : ∀ p ∈ C.tabs, p.1 = P → p.2 = X.env.qual ++ "<lambda>") (hr : Room (k + 2) X.A) (L : LamS X.env.scope scope) (hdef : defaultsOf params X.env = ([], []))
    (hbind : ∀ (q : Str) (cl : List (Str × Addr)) (pm cv ctv : Value), bindArgs (PySem.W.kla_fn "<lambda>" q params body scope cl pm cv ctv) ⟨[], []⟩ = pure [])
    (hbody : ∀ (A : Around) (outer : List Env) (s : Shared) (H : Hp) (E : XK) (f c' : Addr), Room k (A.deeper (lamEnv X scope s.heap.objs.size f c')) → ME (lamCx X A outer s H E scope f c') C E body m)
    (hdb : (x == ("__debug__" : Str)) = false := by decide) (hd : (a == ("__debug__" : Str)) = false := by decide) (hcd : (a == ("__classdict__" : Str)) = false := by decide) :
    ME X C E (.Call (.Name x p) [.Lambda params body scope lpos] [] pos) (mKindN ws wn m) :=
  PE.imp (pe_lamcall (T := C.tabs) (TT := TTn C X.mg ws wn) (t := fun E => lift C X.mg E m) hg hm hk lk hcg hb Sg hNg hva hG TB hcode hmT hu hr L hdef hbind hbody hdb hd hcd) fun σ H Q ⟨env, G, Kd, KX, ok, vr, hm, pv, px⟩ => by
  refine ⟨ok.iv.tb, fun H1 eN tb => ?_⟩
  obtain ⟨ok1, s1⟩ := lam_ok ok hfx eN tb
  refine ⟨env, G, Kd, _, ok1, vr, hm, pv.on s1, fun x cls d H2 kx s2 ok2 r => ?_⟩
  obtain ⟨A, h1, h2, h3⟩ := r
  have kx : kindX ws wn Kd x := kx
  unfold kindX at kx
  cases q : x.num with
  | none =>
    rw [q] at h3 kx
    obtain ⟨hw, kx⟩ := kx
    obtain ⟨D, g1, g2⟩ := kt _ hw
    rw [h1] at g1
    cases g1
    exact .inl ⟨x.cls, G, A, ok2, hw, h2, h3, by rw [← hK]; exact g2, fun y v H3 G3 s3 ok3 r3 e => pv y v H3 G3 ((s1.trans ok2 s2).trans ok3 s3) ok3 r3 (by rw [e]; exact kx)⟩
  | some n =>
    rw [q] at h3 kx
    obtain ⟨hw, kx⟩ := kx
    obtain ⟨D, g1, g2, g3, g4⟩ := ktn _ hw
    rw [h1] at g1
    cases g1
    obtain ⟨dd, e1, e2, e3⟩ := h3
    exact .inr ⟨x.cls, n, G, A, dd, ok2, hw, h2, e1, e2, e3, by rw [← hK]; exact g2, by rw [← hK]; exact g3, by rw [← hK]; exact g4, fun y v H3 G3 s3 ok3 r3 e => pv y v H3 G3 ((s1.trans ok2 s2).trans ok3 s3) ok3 r3 (by rw [e]; exact kx)⟩
/-- the error's dict among what stays -/
theorem fix_ok {C : C3} {H G : Hp} (ok : Ok3 C H G) {dd : Addr} {fs : List (Str × V)} (hd : H dd = some (.xd fs)) (g : G dd = none) : Ok3 { C with fix := (dd, .xd fs) :: C.fix } H G := by
  have sp : ∀ a, a ≠ dd → C.sp a = false → C3.sp { C with fix := (dd, .xd fs) :: C.fix } a = false := fun a h1 h2 => by
    unfold C3.sp at h2 ⊢
    rw [Bool.or_eq_false_iff, Bool.or_eq_false_iff] at h2 ⊢
    refine ⟨⟨h2.1.1, ?_⟩, h2.2⟩
    rw [List.any_cons, h2.1.2, Bool.or_false]
    exact decide_eq_false fun e => h1 e.symm
  refine ⟨⟨fun a sa ns e => ?_, fun p hp => ?_, ok.iv.tb⟩, fun a o h => ⟨sp a (fun e => by rw [e, g] at h; cases h) (ok.sub a o h).1, (ok.sub a o h).2⟩, ok.nt⟩
  · obtain ⟨h1, h2, h3⟩ := ok.iv.st a sa ns e
    refine ⟨h1, ?_, ?_⟩
    · rcases h2 with ⟨o, h⟩ | h
      · exact .inl ⟨o, List.mem_cons_of_mem _ h⟩
      · exact .inr h
    · rw [List.any_cons, h3, Bool.or_false]
      obtain ⟨i, m, r, hl, _⟩ := h1
      exact decide_eq_false fun e => by
        have e : dd = a := e
        rw [e, hl] at hd
        cases hd
  · rcases List.mem_cons.mp hp with e | e
    · rw [e]; exact hd
    · exact ok.iv.fx p e
/-- .. and back -/
theorem unfix_ok {C : C3} {H G : Hp} {dd : Addr} {fs : List (Str × V)} (ok : Ok3 { C with fix := (dd, .xd fs) :: C.fix } H G) : Ok3 C H G := by
  have sp : ∀ a, C3.sp { C with fix := (dd, .xd fs) :: C.fix } a = false → C.sp a = false := fun a h => by
    unfold C3.sp at h ⊢
    rw [Bool.or_eq_false_iff, Bool.or_eq_false_iff] at h ⊢
    have h2 := h.1.2
    rw [List.any_cons, Bool.or_eq_false_iff] at h2
    exact ⟨⟨h.1.1, h2.2⟩, h.2⟩
  refine ⟨⟨fun a sa ns e => ?_, fun q hq => ok.iv.fx q (List.mem_cons_of_mem _ hq), ok.iv.tb⟩, fun a o h => ⟨sp a (ok.sub a o h).1, (ok.sub a o h).2⟩, ok.nt⟩
  obtain ⟨h1, h2, h3⟩ := ok.iv.st a sa ns e
  rw [List.any_cons, Bool.or_eq_false_iff] at h3
  refine ⟨h1, ?_, h3.2⟩
  rcases h2 with ⟨o, h⟩ | h
  · rcases List.mem_cons.mp h with e2 | e2
    · cases e2
    · exact .inl ⟨o, e2⟩
  · exact .inr h
theorem fix_nx {C : C3} {H H2 G2 : Hp} {dd : Addr} {fs : List (Str × V)} (ok : Ok3 { C with fix := (dd, .xd fs) :: C.fix } H2 G2) (k : ∀ a o, C3.sp { C with fix := (dd, .xd fs) :: C.fix } a = false → nT H a = some o → nT H2 a = some o) (hd : H dd = some (.xd fs)) : ∀ a o, C.sp a = false → nT H a = some o → nT H2 a = some o := fun a o h1 h2 => by
  by_cases c : a = dd
  · rw [c, nT_of hd] at h2
    cases h2
    rw [c]
    exact nT_of (ok.iv.fx (dd, .xd fs) List.mem_cons_self)
  · refine k a o ?_ h2
    unfold C3.sp at h1 ⊢
    rw [Bool.or_eq_false_iff, Bool.or_eq_false_iff] at h1 ⊢
    refine ⟨⟨h1.1.1, ?_⟩, h1.2⟩
    rw [List.any_cons, h1.1.2, Bool.or_false]
    exact decide_eq_false fun e => c e.symm
end L3
/-! L3s: a def that changes the list that it is handed first -/
namespace L3
open PySem PySem.Spec PyProof.Rows L2
abbrev OSpec := List D → List D → (List D → Prop) → Prop
def OSp (K : PySem.W.Frag) (n : Nat) (spec : OSpec) : Sp := fun vs H Q _ => ∃ (st : Option (Addr × Addr × List Int)) (fix : List (Addr × HO)) (tabs : List (Addr × Str)) (p : Addr) (vr : List V) (xs : List D) (ys : List V) (ds : List D) (G : Hp) (Kl : List D → Prop),
  vs = .ref p :: vr ∧ Ok3 ⟨K, st, fix, tabs⟩ H G ∧ C3.sp ⟨K, st, fix, tabs⟩ p = false ∧ G p = none ∧ H p = some (.lst ys) ∧ Rps K G xs ys ∧ Rps K G ds vr ∧ ds.length = n ∧ spec xs ds Kl ∧
  ∀ xs' ys' H' G', (∀ a o, C3.sp ⟨K, st, fix, tabs⟩ a = false → a ≠ p → nT H a = some o → nT H' a = some o) → Same G G' → (∀ a o, G a = none → G' a = some o → nT H a = none) → Ok3 ⟨K, st, fix, tabs⟩ H' G' → H' p = some (.lst ys') → G' p = none → Rps K G' xs' ys' → Kl xs' → Q .non H'
def startO (N : Nat) (p : Addr) (xs ds : List D) : EnvS := some (.own p (.lst xs)) :: startS (N - 1) ds
def offP (H : Hp) (p : Addr) : Hp := fun a => if a = p then none else H a
theorem offP_of {H : Hp} {p a : Addr} {o : HO} (h : offP H p a = some o) : a ≠ p ∧ H a = some o := by
  unfold offP at h
  by_cases c : a = p
  · rw [if_pos c] at h; cases h
  · rw [if_neg c] at h; exact ⟨c, h⟩
theorem startS_sh {N : Nat} {ds : List D} {i : Nat} {s : Slot} (h : (startS N ds)[i]? = some (some s)) : ∃ d, s = .sh d ∧ ds[i]? = some d := by
  unfold startS at h
  rw [List.getElem?_append] at h
  split at h
  · rw [List.getElem?_map] at h
    cases q : ds[i]? with
    | none => rw [q] at h; cases h
    | some d =>
      rw [q] at h
      have h : some (some (Slot.sh d)) = some (some s) := h
      cases h
      exact ⟨d, rfl, rfl⟩
  · rw [List.getElem?_replicate] at h
    split at h <;> cases h
theorem fn_l3o {P : Program} {w : World} {K : PySem.W.Frag} {mg : Str → Option Value} {base : Heap} {x qual : Str} {st : Stmt} {f : Addr} {fd : FuncData} {N ps : List Str} {k n : Nat} {spec : OSpec} (F : Fun K x qual st f fd) (S : FnScope N ps (defScope st)) (hn : ps.length = n + 1) (hN : n + 1 ≤ N.length) (m : MSt)
    (der : ∀ (s0 : Option (Addr × Addr × List Int)) (fix : List (Addr × HO)) (tabs : List (Addr × Str)) (B : Hp) (cdv : Value) (A : Around) (outer : List Env) (s : Shared) (H : Hp) (E : XK), Room k (A.deeper (envOfC qual (defScope st) s.heap.objs.size f cdv)) →
      MSs (cxOf (L2.CX P w) P w K mg base N qual (defScope st) f cdv A outer s H E) ⟨K, s0, fix, tabs⟩ E false B (defBody st) m)
    (pure : ∀ (p : Addr) (xs ds : List D) (Kl : List D → Prop), ds.length = n → spec xs ds Kl → m (startO N.length p xs ds) { nx := fun env => ∃ xs', env[0]? = some (some (.own p (.lst xs'))) ∧ Kl xs', rt := fun _ => False }) :
    FnOk P w K mg base (L2.CX P w) (k + 1) f fd ps (OSp K n spec) := by
  refine F.okX S (fun vs H Q E h => ?_) (fun cdv A outer s H vs Q E hr h => ?_)
  · obtain ⟨st, fix, tabs, p, vr, xs, ys, ds, G, Kl, rfl, ok, sp, g, hp, r1, r, hl, _⟩ := h
    rw [List.length_cons, ← r.length, hl, hn]
  · obtain ⟨s0, fix, tabs, p, vr, xs, ys, ds, G, Kl, rfl, ok, sp, g, hp, r1, r, hl, hs, pv⟩ := h
    have elen : ds.length = vr.length := r.length
    refine ⟨_, der s0 fix tabs (offP (nT H) p) cdv A outer s H E hr G, startO N.length p xs ds, G, _, ?_, pure p xs ds Kl hl hs, ?_⟩
    · refine ⟨⟨ok, Same.refl _, fun a o h h' => absurd (h.symm.trans h') (fun z => nomatch z), fun a o _ h => (offP_of h).2⟩, ?_, fun i d h => ?_, fun i q d h => ?_, fun i j q d e h h' => ?_⟩
      · unfold startO startS L2.start
        simp [elen]
        omega
      · match i, h with
        | 0, h => cases h
        | i + 1, h =>
          obtain ⟨d', e, q⟩ := startS_sh (show (startS (N.length - 1) ds)[i]? = some (some (.sh d)) from h)
          cases e
          obtain ⟨v, h1, h2⟩ := r.get q
          refine ⟨v, ?_, h2⟩
          have hi : i < vr.length := (List.getElem?_eq_some_iff.mp h1).1
          unfold L2.start
          rw [List.getElem?_append, if_pos (by simpa using hi), List.getElem?_map, List.getElem?_cons_succ, h1]
          rfl
      · match i, h with
        | 0, h =>
          cases h
          exact ⟨rfl, sp, by unfold offP; exact if_pos rfl, g, _, hp, .lst r1⟩
        | i + 1, h =>
          obtain ⟨d', e, _⟩ := startS_sh (show (startS (N.length - 1) ds)[i]? = some (some (.own q d)) from h)
          cases e
      · match i, j, h, h' with
        | 0, 0, _, _ => rfl
        | i + 1, _, h, _ =>
          obtain ⟨d', e, _⟩ := startS_sh (show (startS (N.length - 1) ds)[i]? = some (some (.own q d)) from h)
          cases e
        | _, j + 1, _, h' =>
          obtain ⟨d', e, _⟩ := startS_sh (show (startS (N.length - 1) ds)[j]? = some (some (.own q e)) from h')
          cases e
    · refine ⟨fun env σ H' G' er k => ?_, fun _ _ _ _ _ k => k.elim, fun _ _ _ _ _ k => k.elim, fun _ _ _ _ _ _ k => k.elim, fun x cls d H' k h1 h2 iv r => k.elim⟩
      obtain ⟨xs', h0, kl⟩ := k
      obtain ⟨_, _, _, g', o, ho, ob⟩ := er.own 0 p _ h0
      cases ob with
      | lst r' =>
        refine pv xs' _ H' G' (fun a o sp' ne h => er.z.keep a o sp' ?_) er.z.g0 (fun a o h h' => ?_) er.z.ok ho g' r' kl
        · unfold offP
          rw [if_neg ne]
          exact h
        · have := er.z.fr a o h h'
          unfold offP at this
          by_cases c : a = p
          · rw [c, g'] at h'; cases h'
          · rw [if_neg c] at this; exact this
structure DfO (P : Program) (w : World) (K : PySem.W.Frag) (mg : Str → Option Value) (base : Heap) (x : Str) (k : Nat) (n : Nat) (spec : OSpec) : Prop where
  ex : ∃ (f : Addr) (fd : FuncData) (ps : List Str), FnOk P w K mg base (L2.CX P w) k f fd ps (OSp K n spec) ∧ mg x = some (.ref f) ∧ PySem.W.keepIn K (.ref f) = true ∧ L2.Binds K fd ps []
/-- x(y, ..) as a statement; y the name of an own list -/
def mCallO (i : Nat) (spec : OSpec) (r : MAt) : MSt := fun env Ks => ownL env i fun p xs => r (viewE env) (fun ds => spec xs ds (fun xs' => Ks.nx (env.set i (some (.own p (.lst xs')))))) Ks.ex
theorem upd_back {H : Hp} {p : Addr} {o u : HO} (h : H p = some o) : upd (upd H p u) p o = H := funext fun a => by
  by_cases c : a = p
  · rw [c, upd_same, h]
  · rw [upd_ne c, upd_ne c]
section
variable {X : Cx} {E : XK} {fr : Bool} {B : Hp} {es : List Expr} {r : MAt} {pos p yp spos : Pos} {s0 : Option (Addr × Addr × List Int)} {fix : List (Addr × HO)} {tabs : List (Addr × Str)} {K : PySem.W.Frag}
theorem ms_callO {x y : Str} {i k n : Nat} {spec : OSpec} (F : DfO X.prog X.w X.K X.mg X.base x k n spec) (hr : Room k X.A) (hg : Gl X x) (hx : Passes (L2.CX X.prog X.w) X E) (hn : es.length = n) (ha : MA X ⟨X.K, s0, fix, tabs⟩ E es r)
    (hN : X.N[i]? = some y := by rfl) (hv : Vis X.env.scope y := by first | exact Or.inl rfl | exact Or.inr (Or.inl rfl) | exact Or.inr (Or.inr rfl)) (hd : (y == ("__debug__" : Str)) = false := by decide) (hcd : (y == ("__classdict__" : Str)) = false := by decide)
    (hdb : (x == ("__debug__" : Str)) = false := by decide) (he : starEach (.Name y yp :: es) X.env = (false, eval (.Name y yp) X.env) :: starEach es X.env := by rfl) (hpl : (backTo pos (starEach es X.env)).any (·.1) = false := by rfl) (hs : swapsWith (.Call (.Name x p) (.Name y yp :: es) [] pos) none spos.line X.env = pure false := by rfl) :
    MS X ⟨X.K, s0, fix, tabs⟩ E fr B (.Expr (.Call (.Name x p) (.Name y yp :: es) [] pos) spos) (mCallO i spec r) := fun G0 => by
  obtain ⟨f, fd, ps, F, hm, hk, hb⟩ := F.ex
  refine PS.imp (ps_expr (pe_call F hr hg hm hk hb .nil hx (pa_cons (pe_var hN hv hd hcd) ha he) hdb he hpl) hs) fun En σ H ⟨env, G, Ks, er, hm, f⟩ => ?_
  obtain ⟨q, xs, h0, hm⟩ := ownL_inv hm
  obtain ⟨h1, h2, h3, h4, o, h5, h6⟩ := er.own i q _ h0
  cases h6 with
  | lst rx =>
    rename_i ys
    refine ⟨.ref q, h1, viewE env, G, _, Ks.ex, er.z.ok, er.vr, hm, fun ds vs H1 G1 s1 ok1 r1 n1 k1 => ?_, f.px er.z (Same.refl _)⟩
    have er1 := er.step s1 ok1
    obtain ⟨_, _, _, g1, o1, w1, w2⟩ := er1.own i q _ h0
    cases w2 with
    | lst rx1 =>
      rename_i ys1
      show OSp X.K n spec ((V.ref q :: vs) ++ []) H1 _ E
      rw [List.append_nil]
      refine ⟨s0, fix, tabs, q, vs, xs, ys1, ds, G1, _, rfl, ok1, h2, g1, w1, rx1, r1, n1.trans hn, k1, fun xs' ys' H' G' nx ge fr' ok' hp' gp' r' kl => ?_⟩
      have hne : ∀ a o, G' a = some o → a ≠ q := fun a o h e => by rw [e, gp'] at h; cases h
      have ok2 : Ok3 ⟨X.K, s0, fix, tabs⟩ (upd H' q (.lst ys1)) G' := ⟨ok'.iv.upd h2 (upd_code hp' rfl), fun a o h => ⟨(ok'.sub a o h).1, by rw [upd_ne (hne a o h)]; exact (ok'.sub a o h).2⟩, ok'.nt⟩
      have st2 : Stp ⟨X.K, s0, fix, tabs⟩ H1 G1 (upd H' q (.lst ys1)) G' := ⟨fun a o sp h => by
        by_cases c : a = q
        · subst c
          rw [nT_of w1 rfl] at h
          cases h
          exact nT_of upd_same rfl
        · rw [nT_ne c]
          exact nx a o sp c h, ge, fr'⟩
      have er2 := (er1.step st2 ok2).write h0 (ObjO.lst r')
      rw [upd_back hp'] at er2
      exact f.nx _ _ H' G' er2 kl
end
end L3
/-! L3t: a tuple of words that the top has bound -/
namespace L3
open PySem PySem.Spec PyProof.Rows L2
structure GlobT (K : PySem.W.Frag) (mg : Str → Option Value) (x : Str) (ws : List Str) : Prop where
  ex : ∃ a o its n, mg x = some (.ref a) ∧ K.lookup a = some o ∧ o.cls = .type "tuple" ∧ o.dict = none ∧ o.data = .seq its n ∧ its.size ≤ sizeLine ∧ Vals (ws.map V.str) its.toList
theorem Rps.strs {K : PySem.W.Frag} {G : Hp} : ∀ ws : List Str, Rps K G (ws.map D.str) (ws.map V.str)
  | [] => .nil
  | w :: r => .cons (.str w) (Rps.strs r)
theorem me_globT {X : Cx} {C : C3} {E : XK} {x : Str} {ws : List Str} {pos : Pos} (hK : X.K = C.K) (h : GlobT X.K X.mg x ws) (hg : Gl X x) (hd : (x == ("__debug__" : Str)) = false := by decide) : ME X C E (.Name x pos) (mC (.tup (ws.map D.str))) := by
  obtain ⟨a, o, its, n, h1, h2, h3, h7, h4, h5, h6⟩ := h.ex
  exact me_c (v := .ref a) (pe_glob hg h1 rfl hd) fun G => .tup (.inr ⟨o, its, n, by rw [← hK]; exact h2, h3, h7, h4, h5, h6⟩) (Rps.strs ws)
theorem mem_tab {T : Addr} {tabs : List (Addr × Str)} {q s : Str} (h : tabs = [(T, s)]) (e : q = s) : (T, q) ∈ tabs := by
  subst h
  subst e
  exact List.mem_cons_self
theorem un_tab {T : Addr} {tabs : List (Addr × Str)} {q s : Str} (h : tabs = [(T, s)]) (e : q = s) : ∀ p ∈ tabs, p.1 = T → p.2 = q := by
  subst h
  subst e
  intro p hp _
  rw [List.mem_singleton.mp hp]
theorem lam_q {x : Str} (h : x = ("law" : Str) ++ ".<locals>.") : x ++ "<lambda>" = lamQ := by rw [h]
end L3
/-! L3u: what the top says, from what is looked up in it -/
namespace L3
open PySem PySem.Spec PyProof.Rows L2
theorem kit_ref {K : PySem.W.Frag} {D C : Addr} {b : Bool} (h1 : PySem.W.isClsIn K C = true) (h2 : PySem.W.typeIn K (.ref C) = some (.type "type")) (h3 : PySem.W.subIn K (.ref D) (.ref C) = some b) (h4 : PySem.W.subIn K (.ref D) (.ref D) = some true) : PySem.W.kitOne K (.ref D) (.ref C) = some b := by
  unfold PySem.W.kitOne
  by_cases e : D = C
  · subst e
    rw [h3] at h4
    rw [if_pos (beq_self_eq_true _), h4]
  · rw [if_neg (by rw [beq_iff_eq]; intro z; exact e (by cases z; rfl))]
    show (if ((PySem.W.clsIn K C).isSome && PySem.W.typeIn K (.ref C) == some (.type "type")) = true then PySem.W.subIn K (.ref D) (.ref C) else none) = some b
    have h1 : (PySem.W.clsIn K C).isSome = true := h1
    rw [if_pos (by rw [h1, h2]; rfl), h3]
theorem kit_T {K : PySem.W.Frag} {D : Addr} {T : String} {b : Bool} (h : PySem.W.kitMeta T = true) (h3 : PySem.W.subIn K (.ref D) (.type T) = some b) : PySem.W.kitOne K (.ref D) (.type T) = some b := by
  unfold PySem.W.kitOne
  rw [if_neg (by rw [beq_iff_eq]; intro z; cases z)]
  show (if PySem.W.kitMeta T = true then PySem.W.subIn K (.ref D) (.type T) else none) = some b
  rw [if_pos h, h3]
theorem exm_ref {K : PySem.W.Frag} {D C : Addr} {b : Bool} (h1 : PySem.W.isClsIn K C = true) (h2 : PySem.W.typeIn K (.ref C) = some (.type "type")) (h3 : PySem.W.subIn K (.ref D) (.ref C) = some b) (h5 : PySem.W.subIn K (.ref C) (.type "BaseException") = some true) : PySem.W.exmOne K (.ref D) (.ref C) = some b := by
  unfold PySem.W.exmOne
  rw [if_pos (by rw [h5]; rfl)]
  show (if ((PySem.W.clsIn K C).isSome && PySem.W.typeIn K (.ref C) == some (.type "type")) = true then PySem.W.subIn K (.ref D) (.ref C) else none) = some b
  have h1 : (PySem.W.clsIn K C).isSome = true := h1
  rw [if_pos (by rw [h1, h2]; rfl), h3]
theorem tab_mk {K : PySem.W.Frag} {x : Str} {f c T : Addr} {oc oc2 : Value} {od od2 : Option Addr} {fd : FuncData} {sl sl2 : Array (Option Value)} {vs : Array Value} (a : PySem.W.nsIn K mainGlobals x = some (some (.ref f))) (l : K.lookup f = some ⟨oc, od, .func fd, sl⟩) (hc : fd.code = .ref c) (k : K.lookup c = some ⟨oc2, od2, .fields vs, sl2⟩) (v : vs[11]? = some (.ref T)) : PySem.W.tabIn K x = some (c, T) := by
  unfold PySem.W.tabIn
  rw [a]
  simp only [l, hc, k, v]
end L3
set_option pp.maxSteps 600
/-! L3v: fresh lists told in a tuple, changed in a loop -/
namespace L3
open PySem PySem.Spec PyProof.Rows L2
structure Told (C : C3) (H G : Hp) (q : Addr) (ps : List Addr) (dss : List (List D)) : Prop where
  nd : (q :: ps).Nodup
  tq : ∃ o, H q = some (.frz o (.tup (ps.map V.ref))) ∧ o.cls = .type "tuple" ∧ o.dict = none
  fr : ∀ p ∈ q :: ps, C.sp p = false ∧ G p = none
  len : ps.length = dss.length
  it : ∀ (i : Nat) (p : Addr) (ds : List D), ps[i]? = some p → dss[i]? = some ds → ∃ vs, H p = some (.lst vs) ∧ Rps C.K G ds vs
theorem Told.of {C : C3} {H G : Hp} {q p : Addr} {ps : List Addr} {dss : List (List D)} (t : Told C H G q ps dss) (h : p ∈ q :: ps) : ∃ o, H p = some o ∧ notTbl o = true := by
  rcases List.mem_cons.mp h with rfl | h
  · obtain ⟨o, e, _⟩ := t.tq
    exact ⟨_, e, rfl⟩
  · obtain ⟨i, hi, rfl⟩ := List.getElem_of_mem h
    obtain ⟨vs, e, _⟩ := t.it i ps[i] (dss[i]'(by rw [← t.len]; exact hi)) (List.getElem?_eq_getElem hi) (List.getElem?_eq_getElem _)
    exact ⟨_, e, rfl⟩
theorem Told.step {C : C3} {H G H' : Hp} {q : Addr} {ps : List Addr} {dss : List (List D)} (t : Told C H G q ps dss) (nx : ∀ a o, C.sp a = false → nT H a = some o → nT H' a = some o) : Told C H' G q ps dss := by
  refine ⟨t.nd, ?_, t.fr, t.len, fun i p ds h1 h2 => ?_⟩
  · obtain ⟨o, e, c⟩ := t.tq
    exact ⟨o, (nT_to (nx q _ (t.fr q List.mem_cons_self).1 (nT_of e))).1, c⟩
  · obtain ⟨vs, e, r⟩ := t.it i p ds h1 h2
    exact ⟨vs, (nT_to (nx p _ (t.fr p (List.mem_cons_of_mem _ (List.mem_of_getElem? h1))).1 (nT_of e))).1, r⟩
/-- all of it frozen -/
theorem add_lists {C : C3} {H : Hp} : ∀ (l : List (Addr × List D)) (G : Hp), Ok3 C H G → (l.map (·.1)).Nodup → (∀ x ∈ l, G x.1 = none ∧ C.sp x.1 = false ∧ ∃ vs, H x.1 = some (.lst vs) ∧ Rps C.K G x.2 vs) →
    ∃ G2, Same G G2 ∧ Ok3 C H G2 ∧ (∀ x ∈ l, Rp C.K G2 (.lst x.2) (.ref x.1)) ∧ ∀ a, a ∉ l.map (·.1) → G2 a = G a
  | [], G, ok, _, _ => ⟨G, Same.refl _, ok, (fun x h => nomatch h), fun _ _ => rfl⟩
  | x :: l, G, ok, nd, h => by
    rw [List.map_cons, List.nodup_cons] at nd
    obtain ⟨g, sp, vs, e, r⟩ := h x List.mem_cons_self
    have ok1 : Ok3 C H (upd G x.1 (.lst vs)) := ok.frz g e sp
    have s1 : Same G (upd G x.1 (.lst vs)) := same_new g
    obtain ⟨G2, s2, ok2, r2, k2⟩ := add_lists l _ ok1 nd.2 fun y hy => by
      obtain ⟨g', sp', vs', e', r'⟩ := h y (List.mem_cons_of_mem _ hy)
      have ne : y.1 ≠ x.1 := fun z => nd.1 (List.mem_map.mpr ⟨y, hy, z⟩)
      exact ⟨by rw [upd_ne ne]; exact g', sp', vs', e', r'.mono s1⟩
    refine ⟨G2, s1.trans s2, ok2, fun y hy => ?_, fun a ha => ?_⟩
    · rcases List.mem_cons.mp hy with rfl | hy
      · exact .lst (s2 _ _ upd_same) (r.mono (s1.trans s2))
      · exact r2 y hy
    · rw [List.map_cons, List.mem_cons, not_or] at ha
      rw [k2 a ha.2, upd_ne ha.1]
theorem Told.all {C : C3} {H G GL : Hp} {q : Addr} {ps : List Addr} {dss : List (List D)} (t : Told C H G q ps dss) (e : Same G GL) (ok : Ok3 C H GL) (gl : ∀ p ∈ q :: ps, GL p = none) : ∃ G2, Same GL G2 ∧ Ok3 C H G2 ∧ Rp C.K G2 (.tup (dss.map D.lst)) (.ref q) := by
  have hz : (ps.zip dss).map (·.1) = ps := by
    rw [List.map_fst_zip]
    rw [t.len]
    exact Nat.le_refl _
  have nd := t.nd
  rw [List.nodup_cons] at nd
  obtain ⟨G2, s2, ok2, r2, k2⟩ := add_lists (ps.zip dss) GL ok (by rw [hz]; exact nd.2) fun x hx => by
    obtain ⟨i, hi, rfl⟩ := List.getElem_of_mem hx
    rw [List.length_zip] at hi
    have h1 : i < ps.length := by omega
    have h2 : i < dss.length := by omega
    rw [List.getElem_zip]
    obtain ⟨vs, q1, q2⟩ := t.it i ps[i] dss[i] (List.getElem?_eq_getElem h1) (List.getElem?_eq_getElem h2)
    have hm := List.mem_cons_of_mem q (List.getElem_mem h1)
    exact ⟨gl _ hm, (t.fr _ hm).1, vs, q1, q2.mono e⟩
  obtain ⟨o, eq, c1, c2⟩ := t.tq
  have gq : G2 q = none := by rw [k2 q (by rw [hz]; exact nd.1)]; exact gl q List.mem_cons_self
  have ok3 : Ok3 C H (upd G2 q (.frz o (.tup (ps.map V.ref)))) := ok2.frz gq eq (t.fr q List.mem_cons_self).1
  refine ⟨_, s2.trans (same_new gq), ok3, .tup (.inl ⟨o, upd_same, c1, c2⟩) ?_⟩
  have go : ∀ (l : List (Addr × List D)), (∀ x ∈ l, Rp C.K G2 (.lst x.2) (.ref x.1)) → Rps C.K (upd G2 q (.frz o (.tup (ps.map V.ref)))) ((l.map (·.2)).map D.lst) ((l.map (·.1)).map V.ref) := by
    intro l
    induction l with
    | nil => exact fun _ => .nil
    | cons x l ih => exact fun h => .cons ((h x List.mem_cons_self).mono (same_new gq)) (ih fun y hy => h y (List.mem_cons_of_mem _ hy))
  have := go (ps.zip dss) r2
  rw [hz, List.map_snd_zip (by rw [t.len]; exact Nat.le_refl _)] at this
  exact this
/-! ### expressions that tell such a tuple -/
abbrev PostT (C : C3) (H G : Hp) (K3 : List (List D) → Prop) (Q : VK) : Prop := ∀ dss q ps H' G', Stp C H G H' G' → Ok3 C H' G' → (∀ p ∈ q :: ps, nT H p = none) → Told C H' G' q ps dss → K3 dss → Q (.ref q) H'
abbrev M3t := EnvE → (List (List D) → Prop) → (Exn → Prop) → Prop
def liftT3 (C : C3) (mg : Str → Option Value) (E : XK) (m : M3t) : TE := fun σ H Q => ∃ env G K3 KX, Ok3 C H G ∧ VR C.K G env σ ∧ m env K3 KX ∧ PostT C H G K3 Q ∧ PostX C mg H G KX E
abbrev MT3 (X : Cx) (C : C3) (E : XK) (e : Expr) (m : M3t) : Prop := PE X e (liftT3 C X.mg E m)
theorem PostT.on {C : C3} {H G H' G' : Hp} {K3 : List (List D) → Prop} {Q : VK} (h : PostT C H G K3 Q) (s : Stp C H G H' G') : PostT C H' G' K3 Q := fun dss q ps H2 G2 s2 ok2 nh t k => h dss q ps H2 G2 (s.trans ok2 s2) ok2 (fun p hp => by
  cases e : nT H p with
  | none => rfl
  | some u =>
    have := s.nx p u (t.fr p hp).1 e
    rw [nh p hp] at this
    cases this) t k
/-! ### a def that tells one -/
abbrev Spec3 := Option Addr → List D → (List (List D) → Prop) → (Exn → Prop) → Prop
def TSp (K : PySem.W.Frag) (mg : Str → Option Value) (n : Nat) (spec : Spec3) : Sp := fun vs H Q E => ∃ (st : Option (Addr × Addr × List Int)) (fix : List (Addr × HO)) (tabs : List (Addr × Str)) (ds : List D) (G : Hp) (K3 : List (List D) → Prop) (KX : Exn → Prop),
  Ok3 ⟨K, st, fix, tabs⟩ H G ∧ Rps K G ds vs ∧ ds.length = n ∧ spec (st.map (·.1)) ds K3 KX ∧ PostT ⟨K, st, fix, tabs⟩ H G K3 Q ∧ PostX ⟨K, st, fix, tabs⟩ mg H G KX E
structure DfT (P : Program) (w : World) (K : PySem.W.Frag) (mg : Str → Option Value) (base : Heap) (x : Str) (k : Nat) (n : Nat) (spec : Spec3) : Prop where
  ex : ∃ (f : Addr) (fd : FuncData) (ps : List Str), FnOk P w K mg base (L2.CX P w) k f fd ps (TSp K mg n spec) ∧ mg x = some (.ref f) ∧ PySem.W.keepIn K (.ref f) = true ∧ L2.Binds K fd ps []
def mCall3 (sa : Option Addr) (spec : Spec3) (r : MAt) : M3t := fun env K3 KX => r env (fun ds => spec sa ds K3 KX) KX
section
variable {X : Cx} {E : XK} {e : Expr} {es : List Expr} {r : MAt} {pos p : Pos} {s0 : Option (Addr × Addr × List Int)} {fix : List (Addr × HO)} {tabs : List (Addr × Str)}
theorem mt_call3 {x : Str} {k n : Nat} {spec : Spec3} (F : DfT X.prog X.w X.K X.mg X.base x k n spec) (hr : Room k X.A) (hg : Gl X x) (hx : Passes (L2.CX X.prog X.w) X E) (hn : (e :: es).length = n) (ha : MA X ⟨X.K, s0, fix, tabs⟩ E (e :: es) r)
    (hdb : (x == ("__debug__" : Str)) = false := by decide) (he : starEach (e :: es) X.env = (false, eval e X.env) :: starEach es X.env := by rfl) (hpl : (backTo pos (starEach es X.env)).any (·.1) = false := by rfl) :
    MT3 X ⟨X.K, s0, fix, tabs⟩ E (.Call (.Name x p) (e :: es) [] pos) (mCall3 (s0.map (·.1)) spec r) := by
  obtain ⟨f, fd, ps, F, hm, hk, hb⟩ := F.ex
  refine PE.imp (pe_call F hr hg hm hk hb .nil hx ha hdb he hpl) fun σ H Q ⟨env, G, K3, KX, ok, vr, hm, pv, px⟩ => ?_
  refine ⟨env, G, _, KX, ok, vr, hm, fun ds vs H1 G1 s1 ok1 r1 n1 k1 => ?_, px⟩
  show TSp X.K X.mg n spec (vs ++ []) H1 Q E
  rw [List.append_nil]
  exact ⟨s0, fix, tabs, ds, G1, K3, KX, ok1, r1, n1.trans hn, k1, pv.on s1, px.on ok s1⟩
end
section
variable {X : Cx} {C : C3} {E : XK} {a b c : Expr} {m1 m2 m3 : MEt} {pos : Pos}
/-- (a, b, c) of three new lists -/
def mTup3 (m1 m2 m3 : MEt) : M3t := fun env K3 KX => m1 env (fun d1 => m2 env (fun d2 => m3 env (fun d3 => ∃ x y z, d1 = .lst x ∧ d2 = .lst y ∧ d3 = .lst z ∧ K3 [x, y, z]) KX) KX) KX
theorem nT_back {C : C3} {H G H' G' : Hp} (s : Stp C H G H' G') {p : Addr} (sp : C.sp p = false) (h : nT H' p = none) : nT H p = none := by
  cases e : nT H p with
  | none => rfl
  | some u =>
    rw [s.nx p u sp e] at h
    cases h
theorem mt_tup3 {x1} (h1 : MF X C E a m1) (h2 : MF X C E b m2) (h3 : MF X C E c m3)
    (e1 : starEach (a :: [b, c]) X.env = (false, eval a X.env) :: starEach [b, c] X.env := by rfl) (e2 : starEach (b :: [c]) X.env = (false, eval b X.env) :: starEach [c] X.env := by rfl) (e3 : starEach (c :: []) X.env = (false, eval c X.env) :: starEach [] X.env := by rfl) :
    MT3 X C E (.Tuple [a, b, c] x1 pos) (mTup3 m1 m2 m3) :=
  PE.imp (pe_tupN (pa_cons h1 (pa_cons h2 (pa_cons h3 pa_nil e3) e2) e1)) fun σ H Q ⟨env, G, K3, KX, ok, vr, hm, pt, px⟩ => by
  refine ⟨env, G, _, KX, ok, vr, hm, fun d1 p1 o1 H1 G1 s1 ok1 n1 g1 w1 sp1 r1 k1 => ?_, px⟩
  refine ⟨env, G1, _, KX, ok1, vr.mono s1.ge, k1, fun d2 p2 o2 H2 G2 s2 ok2 n2 g2 w2 sp2 r2 k2 => ?_, px.on ok s1⟩
  refine ⟨env, G2, _, KX, ok2, vr.mono (s1.ge.trans s2.ge), k2, fun d3 p3 o3 H3 G3 s3 ok3 n3 g3 w3 sp3 r3 k3 => ?_, (px.on ok s1).on ok1 s2⟩
  refine ⟨by show 3 ≤ sizeLine; decide, fun q ob hq c1 c2 => ?_⟩
  obtain ⟨x, y, z, rfl, rfl, rfl, k⟩ := k3
  cases r1 with | lst r1 => ?_
  cases r2 with | lst r2 => ?_
  cases r3 with | lst r3 => ?_
  obtain ⟨ok4, s4, gq⟩ := ok3.new (o := .frz ob (.tup [V.ref p1, .ref p2, .ref p3])) hq
  have s13 : Stp C H G H3 G3 := (s1.trans ok2 s2).trans ok3 s3
  have w1' := s3.nh p1 _ sp1 (s2.nh p1 _ sp1 w1)
  have w2' := s3.nh p2 _ sp2 w2
  have q1 : q ≠ p1 := fun z => by rw [z, w1'] at hq; cases hq
  have q2 : q ≠ p2 := fun z => by rw [z, w2'] at hq; cases hq
  have q3 : q ≠ p3 := fun z => by rw [z, w3] at hq; cases hq
  have p12 : p1 ≠ p2 := fun z => by
    have := nT_of w1
    rw [z, n2] at this
    cases this
  have p13 : p1 ≠ p3 := fun z => by
    have := nT_of (s2.nh p1 _ sp1 w1)
    rw [z, n3] at this
    cases this
  have p23 : p2 ≠ p3 := fun z => by
    have := nT_of w2
    rw [z, n3] at this
    cases this
  have gp : ∀ {p : Addr} {o : HO}, H3 p = some o → notTbl o = true → C.sp p = false → G1 p = none → (nT H1 p).isSome → G3 p = none := fun {p o} h n sp g1 hs => by
    have g2' : G2 p = none := by
      cases e : G2 p with
      | none => rfl
      | some u =>
        have := s2.fr p u g1 e
        rw [this] at hs
        cases hs
    cases e : G3 p with
    | none => rfl
    | some u =>
      have h2 := s3.fr p u g2' e
      cases e2 : nT H1 p with
      | none => rw [e2] at hs; cases hs
      | some v =>
        rw [s2.nx p v sp e2] at h2
        cases h2
  have g1' : G3 p1 = none := gp w1' rfl sp1 g1 (by rw [nT_of w1]; rfl)
  have g2' : G3 p2 = none := by
    cases e : G3 p2 with
    | none => rfl
    | some u =>
      have := s3.fr p2 u g2 e
      rw [nT_of w2] at this
      cases this
  have gq' : G3 q = none := gq
  refine pt [x, y, z] q [p1, p2, p3] _ G3 (s13.trans ok4 s4) ok4 (fun p hp => ?_) ⟨?_, ⟨ob, upd_same, c1, c2⟩, fun p hp => ?_, rfl, fun i p ds h1 h2 => ?_⟩ k
  · simp only [List.mem_cons, List.mem_nil_iff, or_false] at hp
    rcases hp with rfl | rfl | rfl | rfl
    · exact nT_back s13 (ok3.iv.new hq) (nT_none hq)
    · exact n1
    · exact nT_back s1 sp2 n2
    · exact nT_back (s1.trans ok2 s2) sp3 n3
  · simp [q1, q2, q3, p12, p13, p23]
  · simp only [List.mem_cons, List.mem_nil_iff, or_false] at hp
    rcases hp with rfl | rfl | rfl | rfl
    · exact ⟨ok3.iv.new hq, gq'⟩
    · exact ⟨sp1, g1'⟩
    · exact ⟨sp2, g2'⟩
    · exact ⟨sp3, g3⟩
  · match i, h1, h2 with
    | 0, h1, h2 =>
      cases h1; cases h2
      exact ⟨_, by rw [upd_ne (Ne.symm q1)]; exact w1', r1.mono (s2.ge.trans s3.ge)⟩
    | 1, h1, h2 =>
      cases h1; cases h2
      exact ⟨_, by rw [upd_ne (Ne.symm q2)]; exact w2', r2.mono s3.ge⟩
    | 2, h1, h2 =>
      cases h1; cases h2
      exact ⟨_, by rw [upd_ne (Ne.symm q3)]; exact w3, r3⟩
end
/-- s1; s2; return e -/
theorem fn_l3t {P : Program} {w : World} {K : PySem.W.Frag} {mg : Str → Option Value} {base : Heap} {x qual : Str} {st s1 s2 : Stmt} {e : Expr} {pos : Pos} {f : Addr} {fd : FuncData} {N ps : List Str} {k n : Nat} {spec : Spec3} (F : Fun K x qual st f fd) (S : FnScope N ps (defScope st)) (hn : ps.length = n) (hb : defBody st = [s1, s2, .Return (some e) pos]) (m1 m2 : Option Addr → MSt) (m3 : Option Addr → M3t)
    (der : ∀ (s0 : Option (Addr × Addr × List Int)) (fix : List (Addr × HO)) (tabs : List (Addr × Str)) (B : Hp) (cdv : Value) (A : Around) (outer : List Env) (s : Shared) (H : Hp) (E : XK), Room k (A.deeper (envOfC qual (defScope st) s.heap.objs.size f cdv)) →
      MS (cxOf (L2.CX P w) P w K mg base N qual (defScope st) f cdv A outer s H E) ⟨K, s0, fix, tabs⟩ E false B s1 (m1 (s0.map (·.1))) ∧ MS (cxOf (L2.CX P w) P w K mg base N qual (defScope st) f cdv A outer s H E) ⟨K, s0, fix, tabs⟩ E false B s2 (m2 (s0.map (·.1))) ∧ MT3 (cxOf (L2.CX P w) P w K mg base N qual (defScope st) f cdv A outer s H E) ⟨K, s0, fix, tabs⟩ E e (m3 (s0.map (·.1))))
    (pure : ∀ (sa : Option Addr) (ds : List D) (K3 : List (List D) → Prop) (KX : Exn → Prop), ds.length = n → spec sa ds K3 KX → m1 sa (startS N.length ds) { nx := fun env1 => m2 sa env1 { nx := fun env2 => m3 sa (viewE env2) K3 KX, rt := fun _ => False, ex := KX }, rt := fun _ => False, ex := KX }) :
    FnOk P w K mg base (L2.CX P w) (k + 1) f fd ps (TSp K mg n spec) := by
  refine F.okX S (fun vs H Q E h => ?_) (fun cdv A outer s H vs Q E hr h => ?_)
  · obtain ⟨st, fix, tabs, ds, G, Kd, KX, ok, r, hl, _⟩ := h
    rw [← r.length, hl, hn]
  · obtain ⟨s0, fix, tabs, ds, G, K3, KX, ok, r, hl, hs, pt, px⟩ := h
    obtain ⟨d1, d2, d3⟩ := der s0 fix tabs (nT H) cdv A outer s H E hr
    rw [hb]
    have noO : ∀ (i : Nat) (p : Addr) (d : D), (startS N.length ds)[i]? ≠ some (some (Slot.own p d)) := fun i p d => by
      unfold startS
      rw [List.getElem?_append]
      split
      · rw [List.getElem?_map]
        cases ds[i]? <;> intro z <;> cases z
      · rw [List.getElem?_replicate]
        split <;> intro z <;> cases z
    refine ⟨_, pss_cons (d1 G) (pss_cons (d2 G) (pss_one (ps_ret d3))), startS N.length ds, G, _, ?_, pure _ ds K3 KX hl hs, ?_⟩
    · have elen : ds.length = vs.length := r.length
      refine ⟨⟨ok, Same.refl _, fun a o h h' => absurd (h.symm.trans h') (fun z => nomatch z), fun _ _ _ h => h⟩, ?_, fun i d h => ?_, fun i p d h => absurd h (noO i p d), fun i j p d e h _ => absurd h (noO i p d)⟩
      · unfold startS L2.start
        simp [elen]
      · unfold startS at h
        rw [List.getElem?_append] at h
        by_cases c : i < ds.length
        · rw [if_pos (by simpa using c), List.getElem?_map] at h
          cases q : ds[i]? with
          | none => rw [q] at h; cases h
          | some e =>
            rw [q] at h
            have h : some (some (Slot.sh e)) = some (some (Slot.sh d)) := h
            cases h
            obtain ⟨v, h1, h2⟩ := r.get q
            refine ⟨v, ?_, h2⟩
            unfold L2.start
            rw [List.getElem?_append, if_pos (by simpa [← elen] using c), List.getElem?_map, h1]
            rfl
        · rw [if_neg (by simpa using c), List.getElem?_replicate] at h
          split at h <;> cases h
    · have stp : ∀ {H1 G1 : Hp}, ER0 ⟨K, s0, fix, tabs⟩ (nT H) G H1 G1 → Stp ⟨K, s0, fix, tabs⟩ H G H1 G1 := fun {H1 G1} z => ⟨z.keep, z.g0, z.fr⟩
      have fx : ∀ x cls d H1, KX x → (∀ a o, C3.sp ⟨K, s0, fix, tabs⟩ a = false → nT H a = some o → nT H1 a = some o) → (∀ a o, G a = some o → H1 a = some o) → Iv ⟨K, s0, fix, tabs⟩ H1 → XRep mg x cls d H1 G → E cls d H1 := fun x cls d H1 k h1 h2 iv r => by
        refine px x cls d H1 k ⟨h1, Same.refl _, fun a o h h' => by rw [h] at h'; cases h'⟩ ⟨iv, fun a o h => ⟨(ok.sub a o h).1, h2 a o h⟩, ok.nt⟩ r
      refine ⟨fun env1 σ1 H1 G1 er1 k1 => ?_, fun _ _ _ _ _ k => k.elim, fun _ _ _ _ _ k => k.elim, fun _ _ _ _ _ _ k => k.elim, fx⟩
      refine ⟨env1, G1, _, er1, k1, ⟨fun env2 σ2 H2 G2 er2 k2 => ?_, fun _ _ _ _ _ k => k.elim, fun _ _ _ _ _ k => k.elim, fun _ _ _ _ _ _ k => k.elim, fx⟩⟩
      exact ⟨viewE env2, G2, K3, KX, er2.z.ok, er2.vr, k2, pt.on (stp er2.z), px.on ok (stp er2.z)⟩
/-! ### the block: x = e; if t: return; for y in x: body -/
theorem ER.none {C : C3} {B G0 H G : Hp} {env : EnvS} {σ : L2.St} (z : ER C B G0 H G env σ) (i : Nat) (x : Option V) : ER C B G0 H G (env.set i Option.none) (σ.set i x) := by
  have un : ∀ {j : Nat} {s : Slot}, (env.set i Option.none)[j]? = some (some s) → i ≠ j ∧ env[j]? = some (some s) := fun {j s} h => by
    by_cases c : i = j
    · subst c
      by_cases hi : i < env.length
      · rw [List.getElem?_set_self hi] at h; cases h
      · rw [List.getElem?_eq_none (by simpa using hi)] at h; cases h
    · rw [List.getElem?_set_ne c] at h
      exact ⟨c, h⟩
  refine ⟨z.z, by simpa using z.len, fun j e h => ?_, fun j p e h => ?_, fun j k p e f h h' => ?_⟩
  · obtain ⟨c, h⟩ := un h
    obtain ⟨w, h1, h2⟩ := z.sh j e h
    exact ⟨w, by rw [List.getElem?_set_ne c]; exact h1, h2⟩
  · obtain ⟨c, h⟩ := un h
    obtain ⟨h1, h2⟩ := z.own j p e h
    exact ⟨by rw [List.getElem?_set_ne c]; exact h1, h2⟩
  · exact z.dis j k p e f (un h).2 (un h').2
theorem ER.drop {C : C3} {B G0 H G : Hp} {env : EnvS} {σ : L2.St} (z : ER C B G0 H G env σ) (i : Nat) : ER C B G0 H G (env.set i Option.none) σ := by
  have un : ∀ {j : Nat} {s : Slot}, (env.set i Option.none)[j]? = some (some s) → env[j]? = some (some s) := fun {j s} h => by
    by_cases c : i = j
    · subst c
      by_cases hi : i < env.length
      · rw [List.getElem?_set_self hi] at h; cases h
      · rw [List.getElem?_eq_none (by simpa using hi)] at h; cases h
    · rwa [List.getElem?_set_ne c] at h
  exact ⟨z.z, by simpa using z.len, fun j e h => z.sh j e (un h), fun j p e h => z.own j p e (un h), fun j k p e f h h' => z.dis j k p e f (un h) (un h')⟩
/-- what must stay, and the addresses in S as they are in H1 -/
def BT (B H1 : Hp) (S : List Addr) : Hp := fun a => match B a with
  | some o => some o
  | none => if a ∈ S then H1 a else none
theorem BT.of {B H1 : Hp} {S : List Addr} {a : Addr} {o : HO} (h : BT B H1 S a = some o) : B a = some o ∨ (a ∈ S ∧ H1 a = some o) := by
  unfold BT at h
  split at h
  · rename_i u e
    cases h
    exact .inl e
  · split at h
    · rename_i c
      exact .inr ⟨c, h⟩
    · cases h
theorem BT.none {B H1 : Hp} {S : List Addr} {a : Addr} : BT B H1 S a = Option.none ↔ B a = Option.none ∧ (a ∈ S → H1 a = Option.none) := by
  unfold BT
  cases e : B a with
  | some u => simp
  | none =>
    by_cases c : a ∈ S
    · simp [c]
    · simp [c]
theorem BT.sub {B H1 : Hp} {S S' : List Addr} (h : ∀ a ∈ S', a ∈ S) : ∀ a o, BT B H1 S' a = some o → BT B H1 S a = some o := fun a o e => by
  unfold BT at e ⊢
  cases q : B a with
  | some u =>
    rw [q] at e
    exact e
  | none =>
    rw [q] at e
    dsimp only at e ⊢
    by_cases m : a ∈ S'
    · rw [if_pos m] at e
      rw [if_pos (h a m)]
      exact e
    · rw [if_neg m] at e
      cases e
theorem ER0.less {C : C3} {B B' G0 H G : Hp} (z : ER0 C B G0 H G) (h : ∀ a o, B' a = some o → B a = some o) : ER0 C B' G0 H G := ⟨z.ok, z.g0, (fun a o g e => by
  cases q : B' a with
  | none => rfl
  | some u =>
    have := z.fr a o g e
    rw [h a u q] at this
    cases this), fun a o s e => z.keep a o s (h a o e)⟩
theorem less_none {B B' : Hp} (h : ∀ a o, B' a = some o → B a = some o) {p : Addr} (e : B p = none) : B' p = none := by
  cases q : B' p with
  | none => rfl
  | some u =>
    rw [h p u q] at e
    cases e
theorem ER.less {C : C3} {B B' G0 H G : Hp} {env : EnvS} {σ : L2.St} (z : ER C B G0 H G env σ) (h : ∀ a o, B' a = some o → B a = some o) : ER C B' G0 H G env σ := ⟨z.z.less h, z.len, z.sh, fun i p d e => by
  obtain ⟨h1, h2, h3, h4⟩ := z.own i p d e
  exact ⟨h1, h2, less_none h h3, h4⟩, z.dis⟩
theorem Fin.less {C : C3} {mg : Str → Option Value} {E : XK} {fr : Bool} {B B' G0 : Hp} {Ks : KS} {En : Ends} (f : Fin C mg E fr B G0 Ks En) (h : ∀ a o, B a = some o → B' a = some o) : Fin C mg E fr B' G0 Ks En :=
  ⟨fun env σ H G er k => f.nx env σ H G (er.less h) k, fun env σ H G er k => f.bk env σ H G (er.less h) k, fun env σ H G er k => f.ct env σ H G (er.less h) k, fun d v H G er r k => f.rt d v H G (er.less h) (by
    cases fr with
    | false => exact r
    | true =>
      obtain ⟨p, o, e, hb, r⟩ := r
      exact ⟨p, o, e, less_none h hb, r⟩) k, fun x cls d H k h1 h2 iv r => f.ex x cls d H k (fun a o s e => h1 a o s (h a o e)) h2 iv r⟩
def forT (j : Nat) (b : MSt) (Ks : KS) : List (List D) → EnvS → Prop
  | [], env => Ks.nx env
  | ds :: r, env => ∀ p, b (env.set j (some (.own p (.lst ds)))) { Ks with nx := fun e => forT j b Ks r (e.set j none), ct := fun e => forT j b Ks r (e.set j none), bk := fun _ => False }
/-- ahead of such a loop -/
def liftForT (C : C3) (mg : Str → Option Value) (E : XK) (fr : Bool) (B G0 : Hp) (i j : Nat) (b : MSt) : TS := fun En σ H => ∃ (env : EnvS) (G : Hp) (Ks : KS) (q : Addr) (ps : List Addr) (dss : List (List D)), ER C B G0 H G env σ ∧ σ[i]? = some (some (.ref q)) ∧ Told C H G q ps dss ∧
  (∀ p ∈ q :: ps, B p = none ∧ ∀ (k : Nat) (d : D), env[k]? ≠ some (some (.own p d))) ∧ forT j b Ks dss env ∧ Fin C mg E fr B G0 Ks En
theorem ps_forT {X : Cx} {C : C3} {E : XK} {fr : Bool} {B G0 : Hp} {tg : Expr} {x : Str} {a : List Stmt} {pos xp : Pos} {i j : Nat} {b : MSt} (hp : PassesOwn (model X.prog X.w) X.A X.env X.xe) (hc : X.calm = true) (hK : X.K = C.K) (hi : PE X (.Name x xp) (tVar i)) (hg : PG X tg (gName j)) (hb : ∀ B', MSs X C E fr B' a b)
    (hs : ∀ v, foldedSetIterable (.Name x xp) X.env v = pure v := by intro _; rfl) : PS X (.For tg (.Name x xp) a [] pos) (liftForT C X.mg E fr B G0 i j b) := by
  have hb' : PSs X a (fun En σ H => ∃ B' Gi, liftS C X.mg E fr B' Gi b En σ H) := ⟨fun pins s σ H En I ⟨B', Gi, h⟩ => (hb B' Gi).run pins s σ H En I h⟩
  refine PS.imp (ps_for hp hc (pi_any hi) hg hb' hs) fun En σ H ⟨env, G, Ks, q, ps, dss, er, hq, t, hn, k, f⟩ => ?_
  have hxs : ∀ {H' : Hp}, H' q = H q → SqT X.K H' q (ps.map V.ref) := fun {H'} e => by
    obtain ⟨o, z, _⟩ := t.tq
    exact .inl (.inr ⟨o, e.trans z⟩)
  refine ⟨.ref q, hq, .inr (.inl ⟨q, rfl, ⟨_, hxs rfl⟩, ?_⟩)⟩
  let S (n : Nat) : List Addr := q :: ps.drop n
  let BS (n : Nat) : Hp := BT B H (S n)
  have hqS : ∀ {n : Nat} {H' G' : Hp}, ER0 C (BS n) G H' G' → H' q = H q := fun {n H' G'} z => by
    obtain ⟨o, e, _⟩ := t.tq
    have : BS n q = some (.frz o (.tup (ps.map V.ref))) := by
      show BT B H (S n) q = _
      unfold BT
      rw [(hn q List.mem_cons_self).1]
      dsimp only
      rw [if_pos List.mem_cons_self, e]
    rw [e]
    exact (nT_to (z.keep q _ (t.fr q List.mem_cons_self).1 this)).1
  have start : ER C (BS 0) G H G env σ := by
    refine ⟨⟨er.z.ok, Same.refl _, fun a o h h' => absurd (h.symm.trans h') (fun z => nomatch z), fun a o sp h => ?_⟩, er.len, er.sh, fun k p d h => ?_, er.dis⟩
    · rcases BT.of h with h | ⟨hm, h⟩
      · exact er.z.keep a o sp h
      · refine nT_of h ?_
        obtain ⟨u, e, n⟩ := t.of (by simpa [S] using hm)
        rw [h] at e
        cases e
        exact n
    · obtain ⟨h1, h2, h3, h4⟩ := er.own k p d h
      refine ⟨h1, h2, BT.none.mpr ⟨h3, fun hm => ?_⟩, h4⟩
      exact absurd h ((hn p (by simpa [S] using hm)).2 k d)
  have f1 : ∀ n, Fin C X.mg E fr (BS n) G Ks En := fun n => (f.up er.z).less fun a o h => by
    show BT B H (S n) a = some o
    unfold BT
    rw [h]
  refine ⟨fun n m σ H' => m = dss.length - n ∧ n ≤ dss.length ∧ ∃ env' G', ER C (BS n) G H' G' env' σ ∧ forT j b Ks (dss.drop n) env', ⟨dss.length, by simp, Nat.zero_le _, env, G, start, by simpa using k⟩, ?_⟩
  rintro n m σ2 H2 ⟨rfl, hn2, env2, G2, er2, k2⟩
  have hq2 := hqS er2.z
  by_cases hlt : n < dss.length
  · rw [List.drop_eq_getElem_cons hlt] at k2
    have hp1 : n < ps.length := by rw [t.len]; exact hlt
    obtain ⟨vs, e1, e2⟩ := t.it n ps[n] dss[n] (List.getElem?_eq_getElem hp1) (List.getElem?_eq_getElem hlt)
    have hmem : ps[n] ∈ q :: ps := List.mem_cons_of_mem _ (List.getElem_mem hp1)
    have hBn : BS n ps[n] = some (.lst vs) := by
      show BT B H (S n) ps[n] = _
      unfold BT
      rw [(hn _ hmem).1]
      dsimp only
      rw [if_pos (List.mem_cons_of_mem _ (by rw [List.drop_eq_getElem_cons hp1]; exact List.mem_cons_self)), e1]
    refine .inr ⟨⟨_, .ref ps[n], hxs hq2, by rw [List.getElem?_map, List.getElem?_eq_getElem hp1]; rfl⟩, fun σ' H' => n + 1 ≤ dss.length ∧ ∃ env' G', ER C (BS (n + 1)) G H' G' env' σ' ∧ forT j b Ks (dss.drop (n + 1)) env', fun σ' H' h => ⟨dss.length - (n + 1), by omega, rfl, h⟩, fun y H3 yy => ?_⟩
    obtain ⟨e3, hx⟩ := yy
    have e3 := e3.symm
    subst e3
    have ex := hx _ (hxs hq2)
    rw [List.getElem?_map, List.getElem?_eq_getElem hp1] at ex
    have ex : V.ref ps[n] = y := Option.some.inj ex
    subst ex
    have hsub : ∀ a ∈ S (n + 1), a ∈ S n := fun a ha => by
      rcases List.mem_cons.mp ha with rfl | ha
      · exact List.mem_cons_self
      · refine List.mem_cons_of_mem _ ?_
        rw [List.drop_eq_getElem_cons hp1]
        exact List.mem_cons_of_mem _ ha
    have er3 : ER C (BS (n + 1)) G H2 G2 env2 σ2 := er2.less (BT.sub hsub)
    have hout : ps[n] ∉ S (n + 1) := fun hm => by
      have nd := t.nd
      rcases List.mem_cons.mp hm with z | hm
      · rw [List.nodup_cons] at nd
        exact nd.1 (by rw [← z]; exact List.getElem_mem hp1)
      · rw [List.nodup_cons] at nd
        have := nd.2
        rw [← List.take_append_drop n ps, List.drop_eq_getElem_cons hp1, List.nodup_append] at this
        exact (List.nodup_cons.mp this.2.1).1 hm
    have hB1 : BS (n + 1) ps[n] = none := BT.none.mpr ⟨(hn _ hmem).1, fun hm => absurd hm hout⟩
    have gn : G2 ps[n] = none := by
      cases e : G2 ps[n] with
      | none => rfl
      | some u =>
        have := er2.z.fr ps[n] u (t.fr _ hmem).2 e
        rw [hBn] at this
        cases this
    have hH : H2 ps[n] = some (.lst vs) := (nT_to (er2.z.keep _ _ (t.fr _ hmem).1 hBn)).1
    have er4 := er3.set_own (i := j) (t.fr _ hmem).1 hB1 gn hH (.lst (e2.mono er2.z.g0)) fun k d ne h => by
      have := (er2.own k _ d h).2.2.1
      rw [hBn] at this
      cases this
    refine ⟨BS (n + 1), G, _, G2, _, er4, k2 ps[n], ⟨fun env3 σ3 H4 G4 er5 k5 => ⟨hlt, _, _, er5.drop j, k5⟩, fun _ _ _ _ _ k => k.elim, fun env3 σ3 H4 G4 er5 k5 => ⟨hlt, _, _, er5.drop j, k5⟩, (f1 _).rt, (f1 _).ex⟩⟩
  · have e : n = dss.length := by omega
    subst e
    rw [List.drop_length] at k2
    exact .inl ⟨⟨_, hxs hq2, by rw [List.length_map, t.len]; exact Nat.le_refl _⟩, (f1 _).nx env2 σ2 H2 G2 er2 k2⟩
def mTold3 (i j : Nat) (m3 : M3t) (tt : MTt) (ma mb : MSt) : MSt := fun env Ks => m3 (viewE env) (fun dss => tt ((lendE (env.set i none)).set i (some (.tup (dss.map D.lst)))) (fun k => if k = true then ma (env.set i none) { Ks with nx := fun _ => False } else forT j mb Ks dss (env.set i none)) Ks.ex) Ks.ex
theorem mss_told3 {X : Cx} {C : C3} {E : XK} {fr : Bool} {B : Hp} {e c tg : Expr} {x : Str} {a body : List Stmt} {p1 p2 p3 p4 p5 : Pos} {i j : Nat} {m3 : M3t} {tt : MTt} {ma mb : MSt} (hK : X.K = C.K) (he : MT3 X C E e m3) (hN : X.N.Nodup) (hi : X.N[i]? = some x) (hx : Loc X.env.scope x) (hil : i < X.N.length) (hc : MT X C E c tt) (ha : MSs X C E fr B a ma)
    (hp : PassesOwn (model X.prog X.w) X.A X.env X.xe) (hcm : X.calm = true) (hv : PE X (.Name x p5) (tVar i)) (hg : PG X tg (gName j)) (hb : ∀ B', MSs X C E fr B' body mb)
    (hs : swapsWith e (some (.Name x p1)) p2.line X.env = pure false := by rfl) (hf : X.fn x = true ∨ X.env.scope.names.lookup x = some .local := by first | exact .inl rfl | exact .inr rfl | assumption) (hs2 : ∀ v, foldedSetIterable (.Name x p5) X.env v = pure v := by intro _; rfl) :
    MSs X C E fr B [.Assign [.Name x p1] e p2, .If c a [] p3, .For tg (.Name x p5) body [] p4] (mTold3 i j m3 tt ma mb) := fun G0 => by
  refine ⟨fun pins s σ H En I h => ?_⟩
  have hlen : σ.length = X.N.length := I.len
  revert h I
  refine fun I h => PSs.run (t := fun En σ H => σ.length = X.N.length ∧ liftS C X.mg E fr B G0 (mTold3 i j m3 tt ma mb) En σ H) ?_ pins s σ H En I ⟨hlen, h⟩
  refine PSs.imp (pss_cons (ps_set hN hi hx he hs hf) (pss_cons (ps_if hc (ha G0) pss_nil) (pss_one (ps_forT (B := B) (G0 := G0) (i := i) hp hcm hK hv hg hb hs2)))) fun En σ H ⟨hl, env, G, Ks, er, hm, f⟩ => ?_
  refine ⟨viewE env, G, _, Ks.ex, er.z.ok, er.vr, hm, fun dss q ps H1 G1 s1 ok1 nh t k1 => ?_, f.px er.z (Same.refl _)⟩
  have er1 := (er.step s1 ok1).none i (some (.ref q))
  have hfree : ∀ p ∈ q :: ps, B p = none ∧ ∀ (k : Nat) (d : D), (env.set i none)[k]? ≠ some (some (.own p d)) := fun p hp => by
    have sp := (t.fr p hp).1
    refine ⟨?_, fun k d hk => ?_⟩
    · cases e : B p with
      | none => rfl
      | some u =>
        have := er.z.keep p u sp e
        rw [nh p hp] at this
        cases this
    · have hk' : env[k]? = some (some (.own p d)) := by
        by_cases c : i = k
        · subst c
          by_cases hi : i < env.length
          · rw [List.getElem?_set_self hi] at hk; cases hk
          · rw [List.getElem?_eq_none (by simpa using hi)] at hk; cases hk
        · rwa [List.getElem?_set_ne c] at hk
      obtain ⟨_, _, _, _, o, e, ob⟩ := er.own k p d hk'
      have := nT_of e ob.nt
      rw [nh p hp] at this
      cases this
  have hown : ∀ p ∈ q :: ps, p ∉ ownA (env.set i none) := fun p hp hm => by
    obtain ⟨k, ds, e⟩ := ownA_mem hm
    exact (hfree p hp).2 k _ e
  have gl : ∀ p ∈ q :: ps, gLend G1 H1 (env.set i none) p = none := fun p hp => by
    unfold gLend
    rw [(t.fr p hp).2]
    dsimp only
    rw [if_neg (hown p hp)]
  obtain ⟨G2, s2, ok2, r2⟩ := t.all gLend_ge er1.lend.1 gl
  have hq : (σ.set i (some (V.ref q)))[i]? = some (some (V.ref q)) := List.getElem?_set_self (by rw [hl]; exact hil)
  have hel : i < env.length ∨ ¬ i < env.length := Nat.lt_or_ge i env.length |>.imp id (fun h => by omega)
  refine ⟨(lendE (env.set i none)).set i (some (.tup (dss.map D.lst))), G2, _, Ks.ex, ok2, ?_, k1, fun b H2 G3 s3 ok3 kb => ?_, ?_⟩
  · have vr := er1.lend.2
    refine ⟨by rw [List.length_set]; exact vr.len, fun k d hk => ?_⟩
    by_cases c : i = k
    · subst c
      by_cases hi : i < (lendE (env.set i none)).length
      · rw [List.getElem?_set_self hi] at hk
        cases hk
        exact ⟨_, hq, r2⟩
      · rw [List.getElem?_eq_none (by simpa using hi)] at hk
        cases hk
    · rw [List.getElem?_set_ne c] at hk
      obtain ⟨v, h1, h2⟩ := vr.get k d hk
      exact ⟨v, h1, h2.mono s2⟩
  · have er2 : ER C B G0 H2 G1 (env.set i none) (σ.set i (some (.ref q))) := er1.step ⟨s3.nx, Same.refl _, fun a o h h' => by rw [h] at h'; cases h'⟩ ⟨ok3.iv, fun a o h => ok3.sub a o (s3.ge a o (s2 a o (gLend_ge a o h))), fun a o h => ok3.nt a o (s3.ge a o (s2 a o (gLend_ge a o h)))⟩
    cases b with
    | true => exact ⟨_, G1, _, er2, kb, ⟨fun _ _ _ _ _ k => k.elim, f.bk, f.ct, f.rt, f.ex⟩⟩
    | false => exact ⟨_, G1, Ks, q, ps, dss, er2, hq, t.step s3.nx, hfree, kb, f⟩
  · exact f.px er1.z (gLend_ge.trans s2)
end L3
set_option pp.maxSteps 600
/-! L3w: a new list made of lists of its own -/
namespace L3
open PySem PySem.Spec PyProof.Rows L2
theorem u65 {k : Nat} {A : Around} (r : Room k A) : A.units + 65 < cLine := by
  have := r.un
  omega
section
variable {X : Cx} {C : C3} {E : XK} {fr : Bool} {B : Hp} {e : Expr} {m : MEt} {pos pos' : Pos} {i : Nat} {x : Str}
theorem frzE_no {env : EnvS} {i : Nat} {p : Addr} {d : D} : (frzE env)[i]? ≠ some (some (.own p d)) := fun h => by
  unfold frzE at h
  rw [List.getElem?_map] at h
  cases q : (lendE env)[i]? with
  | none => rw [q] at h; cases h
  | some o =>
    rw [q] at h
    cases o <;> cases h
/-- the lists of its own are frozen, the new one is the name's -/
def mSetFC (i : Nat) (m : MEt) : MSt := fun env Ks => m (lendE env) (fun d => ∀ p, Ks.nx ((frzE env).set i (some (.own p d)))) Ks.ex
theorem ms_setFC (hN : X.N.Nodup) (hi : X.N[i]? = some x) (hx : Loc X.env.scope x) (he : MF X C E e m) (hs : swapsWith e (some (.Name x pos')) pos.line X.env = pure false := by rfl) (hf : X.fn x = true ∨ X.env.scope.names.lookup x = some .local := by first | exact .inl rfl | exact .inr rfl | assumption) :
    MS X C E fr B (.Assign [.Name x pos'] e pos) (mSetFC i m) := fun G0 => PS.imp (ps_set hN hi hx he hs hf) fun En σ H ⟨env, G, Ks, er, hm, f⟩ =>
  ⟨lendE env, _, _, Ks.ex, er.lend.1, er.lend.2, hm, fun d p o H1 G1 s1 ok1 hp gp ho sp ob k1 => f.nx _ _ H1 G1 ((er.frozen s1 ok1).set_own sp (er.z.bfree sp hp) gp ho ob.obj fun j e _ => frzE_no) (k1 p), f.px er.z gLend_ge⟩
/-- lists of its own are lent; the value is a new list of flat things -/
def mSetLF (i : Nat) (m : MEt) : MSt := fun env Ks => m (lendE env) (fun d => (∃ ds, d = .lst ds ∧ ds.all flatD = true) ∧ Ks.nx (env.set i (some (.sh d)))) Ks.ex
theorem Rps.anyG {K : PySem.W.Frag} {G G' : Hp} : ∀ {ds : List D} {vs : List V}, Rps K G ds vs → ds.all flatD = true → Rps K G' ds vs
  | _, _, .nil, _ => .nil
  | _, _, .cons h r, f => by
    rw [List.all_cons, Bool.and_eq_true] at f
    exact .cons (h.anyG f.1) (Rps.anyG r f.2)
theorem ms_setLF (hN : X.N.Nodup) (hi : X.N[i]? = some x) (hx : Loc X.env.scope x) (he : MF X C E e m) (hs : swapsWith e (some (.Name x pos')) pos.line X.env = pure false := by rfl) (hf : X.fn x = true ∨ X.env.scope.names.lookup x = some .local := by first | exact .inl rfl | exact .inr rfl | assumption) :
    MS X C E fr B (.Assign [.Name x pos'] e pos) (mSetLF i m) := fun G0 => PS.imp (ps_set hN hi hx he hs hf) fun En σ H ⟨env, G, Ks, er, hm, f⟩ =>
  ⟨lendE env, _, _, Ks.ex, er.lend.1, er.lend.2, hm, fun d p o H1 G1 s1 ok1 hp gp ho sp ob k1 => by
    obtain ⟨⟨ds, rfl, fl⟩, k1⟩ := k1
    cases ob with
    | lst r =>
      rename_i vs
      have er1 := er.back s1 ok1
      have gn : G p = none := by
        cases q : G p with
        | none => rfl
        | some u =>
          have := er.z.ok.sn q
          rw [hp] at this
          cases this
      have s2 : Stp C H G H1 (upd G p (.lst vs)) := ⟨s1.nx, same_new gn, fun a u h h' => by
        by_cases c : a = p
        · rw [c]; exact hp
        · rw [upd_ne c, h] at h'; cases h'⟩
      have ok2 : Ok3 C H1 (upd G p (.lst vs)) := er1.z.ok.frz gn ho sp
      exact f.nx _ _ H1 _ ((er.step s2 ok2).set_sh (.lst upd_same (r.anyG fl))) k1, f.px er.z gLend_ge⟩
end
end L3
/-! L7: a dict whose keys are tuples of numbers, a name's own; one own list frozen -/
namespace L3
open PySem PySem.Spec PyProof.Rows L2
/-! ### keys -/
section
variable {X : Cx} {pins : List (Addr × Obj)} {σ : L2.St} {H : Hp} {s : Shared}
theorem ints_are {P : Program} {w : World} : ∀ {ks : List Int} {us : List Value}, Vals (ks.map V.int) us → ItemsAre (intKind P w) ks us
  | [], us, r => by
    rw [List.map_nil] at r
    cases r
    exact .nil
  | k :: ks, us, r => by
    rw [List.map_cons] at r
    cases r with
    | cons h t =>
      obtain ⟨u, rfl⟩ := h
      exact .cons (by show (k == k) = true; exact beq_self_eq_true k) (ints_are t)
theorem key_dt {b : Addr} {ks : List Int} (I : Inv X pins σ H s) (h : SqT X.K H b (ks.map V.int)) : (tupleKind (intKind X.prog X.w)).is s.heap ks b := by
  obtain ⟨its, rv, ht, _⟩ := I.tuple h
  obtain ⟨o, h1, h2, n, h3⟩ := ht
  exact ⟨o, its.toArray, n, h1, h2, h3, by simpa using ints_are rv⟩
structure DtOk (K : PySem.W.Frag) (H : Hp) (a : Addr) (xs : TK) : Prop where
  at_ : H a = some (dtO a xs)
  ns : (a == sysModules) = false
  sz : xs.length ≤ sizeLine
  nd : (xs.map (·.1)).Nodup
  ks : ∀ x ∈ xs, SqT K H x.2.1 (x.1.map V.int)
theorem DtOk.dict {a : Addr} {xs : TK} (D : DtOk X.K H a xs) (I : Inv X pins σ H s) : s.heap.DictOfH (tupleKind (intKind X.prog X.w)) a xs := by
  obtain ⟨⟨o, es, ep, h1, h2, h3, h4⟩, _, _⟩ := (show ObjOk X.prog X.w H s.heap a (.ext (dtPhi a xs)) from I.hok a _ D.at_)
  exact ⟨o, es, ep, h1, h2, h3, h4, fun x hx => key_dt I (D.ks x hx), D.nd⟩
theorem dtO_ok {P : Program} {w : World} {h : Heap} {a : Addr} {xs : TK} (d : h.DictOfH (tupleKind (intKind P w)) a xs) : ObjOk P w H h a (dtO a xs) := by
  obtain ⟨o, es, ep, h1, h2, h3, h4, _, _⟩ := d
  refine ⟨⟨o, es, ep, h1, h2, h3, h4⟩, ⟨o, h1⟩, ?_⟩
  rintro ha hb ⟨o, es, ep, h1, h2, h3, h4⟩ k
  exact ⟨o, es, ep, k o h1, h2, h3, h4⟩
theorem atKey_some (xs : TK) (ks : List Int) : (atKey xs ks).isSome = decide (ks ∈ xs.map (·.1)) := by
  induction xs with
  | nil => rfl
  | cons x xs ih =>
    unfold atKey at *
    rw [List.find?_cons, List.map_cons]
    by_cases c : x.1 = ks
    · rw [decide_eq_true c]
      simp [c]
    · rw [decide_eq_false c]
      simp only
      rw [ih]
      exact decide_eq_decide.mpr (by rw [List.mem_cons]; exact ⟨.inr, fun h => h.resolve_left fun e => c e.symm⟩)
/-! ### k not in d -/
def rNotInT (K : PySem.W.Frag) : R2 := fun x y H Q => ∃ (a b : Addr) (xs : TK) (ks : List Int), x = .ref b ∧ y = .ref a ∧ DtOk K H a xs ∧ SqT K H b (ks.map V.int) ∧ Q (.bl (!decide (ks ∈ xs.map (·.1)))) H
theorem op_notInT (hu : X.A.units + 1 < cLine) : OpR X (compareOp .NotIn) (rNotInT X.K) := by
  intro pins s σ H x y v u Q I rx ry h
  obtain ⟨a, b, xs, ks, rfl, rfl, D, hb, q⟩ := h
  cases rx
  cases ry
  refine wpAny_notIn_heap (tupleKind_room_in1 hu) (key_dt I hb) D.ns (D.dict I) ?_
  rw [atKey_some]
  exact ⟨.bl (!decide (ks ∈ xs.map fun x : List Int × Addr × Value => x.1)), H, I.tok _, rfl, q⟩
/-! ### d[k] = v, k new -/
def rSetT (K : PySem.W.Frag) : TSet := fun o i v H Q => ∃ (a b : Addr) (xs : TK) (ks : List Int), o = .ref a ∧ i = .ref b ∧ DtOk K H a xs ∧ SqT K H b (ks.map V.int) ∧ ks ∉ xs.map (·.1) ∧ xs.length < sizeLine ∧ ∀ u, Q (upd H a (dtO a (xs ++ [(ks, b, u)])))
theorem set_dtT (hu : X.A.units + 1 < cLine) : PSet X (rSetT X.K) := by
  intro pins s σ H o i v ov iv u Q I ro ri rv h
  obtain ⟨a, b, xs, ks, rfl, rfl, D, hb, hn, hl, q⟩ := h
  cases ro
  cases ri
  have e : atKey xs ks = none := by
    have := atKey_some xs ks
    rw [decide_eq_false hn] at this
    cases z : atKey xs ks with
    | none => rfl
    | some p => rw [z] at this; cases this
  refine wpAny_setItem_heap (hsz := D.sz) (tupleKind_room_in1 hu) (key_dt I hb) (D.dict I) fun h' dd hs => ?_
  rw [storedH_new e] at dd
  obtain ⟨ob, es, ep, h1, h2⟩ := dd
  refine ⟨_, d_write I (by rw [D.at_]; exact True.intro) hs ⟨ob, h1⟩ (dtO_ok (P := X.prog) (w := X.w) ⟨ob, es, ep, h1, h2⟩), q u⟩
/-! ### dict([(k, v)]) -/
def rDictT (K : PySem.W.Frag) : List V → Hp → VK → Prop := fun xs H Q => ∃ (a q b : Addr) (ks : List Int) (v : V), xs = [.ref a] ∧ SqL K H a [.ref q] ∧ SqT K H q [.ref b, v] ∧ SqT K H b (ks.map V.int) ∧ ∀ p u, H p = none → (p == sysModules) = false → Q (.ref p) (upd H p (dtO p [(ks, b, u)]))
theorem call_dictT (hc : X.calm = true) (hu : X.A.units + 2 < cLine) : CallR X (.type "dict") (rDictT X.K) := by
  intro pins s σ H xs us Q I r q
  obtain ⟨a, q0, b, ks, v, rfl, ha, hq, hb, k⟩ := q
  obtain ⟨u, rfl, rx⟩ := vals1 r
  cases rx
  obtain ⟨its, rv, pl, hz⟩ := I.list ha
  obtain ⟨u1, rfl, r1⟩ := vals1 rv
  cases r1
  obtain ⟨its2, rv2, ht, _⟩ := I.tuple hq
  obtain ⟨w1, w2, rfl, r2, r3⟩ := vals2 rv2
  cases r2
  have hkey := key_dt I hb
  have hlt : b < s.heap.objs.size := by
    obtain ⟨o, _, _, h1, _⟩ := hkey
    exact Heap.lt_size h1
  refine call_dict_pairsH (knd := tupleKind (intKind X.prog X.w)) (ps := [(ks, b, w2)]) (PairArg.list a #[.ref q0] (fun _ => q0) [(.ref b, w2)]) (I.ok.hd hc) (by show X.A.units + 2 < cLine; exact hu) ⟨?_, ?_⟩ ⟨rfl, ?_⟩ ?_ (by show 1 ≤ sizeLine; decide) fun h' tk dd hk => ?_
  · obtain ⟨o, n, ho, hc, hd, hdat⟩ := pl
    exact ⟨o, n, ho, hc, hd, hdat⟩
  · refine ⟨rfl, fun j k v e => ?_⟩
    cases j with
    | zero =>
      cases e
      exact ⟨rfl, .inl ht⟩
    | succ j => cases e
  · intro i key v e
    cases i with
    | zero =>
      cases e
      exact ⟨_, _, rfl, rfl⟩
    | succ i => cases e
  · intro h' hk x hx
    rw [List.mem_singleton.mp hx]
    obtain ⟨o, items, n, h1, h2⟩ := hkey
    exact ⟨o, items, n, hk b o (Nat.ne_of_lt hlt) (fun z => nomatch z) h1, h2⟩
  · have hm : (s.heap.objs.size == sysModules) = false := beq_eq_false_iff_ne.mpr (Nat.ne_of_gt I.big)
    refine ⟨.ref s.heap.objs.size, _, I.laid (t' := tk) (fun c o e => hk c o (fun z => nomatch z) e) (Nat.le_refl _) (dtO_ok (P := X.prog) (w := X.w) dd), rfl, k _ w2 (I.hok.fresh (Nat.le_refl _)) hm⟩
end
/-! ### statements -/
section
variable {X : Cx} {C : C3} {E : XK} {fr : Bool} {B : Hp} {a b : List Stmt} {ms ms' : MSt} {pos : Pos}
theorem ER.dt {G0 H G : Hp} {env : EnvS} {σ : L2.St} (er : ER C B G0 H G env σ) {j : Nat} {p : Addr} {ns : List (List Int)} (h : env[j]? = some (some (.own p (metD p ns)))) : ∃ xs : TK, ns = xs.map (·.1) ∧ σ[j]? = some (some (.ref p)) ∧ DtOk C.K H p xs ∧ ∀ x ∈ xs, Rp C.K G (tupI x.1) (.ref x.2.1) := by
  obtain ⟨h1, h2, h3, h4, o, h5, h6⟩ := er.own j p _ h
  generalize hd : metD p ns = d at h6
  cases h6 with
  | lst r => cases hd
  | dic r => cases hd
  | dt e1 e2 e3 e4 e5 =>
    rename_i a' ks xs
    simp only [metD, D.tup.injEq, List.cons.injEq, D.ref.injEq, D.lst.injEq, and_true] at hd
    obtain ⟨ha, hk⟩ := hd
    subst ha
    have hk : ns = ks := by
      have inj : ∀ {x y : List (List Int)}, x.map tupI = y.map tupI → x = y := fun {x y} e => by
        have := congrArg (List.map fun d : D => match d with | .tup l => l.map (fun d : D => match d with | .int i => i | _ => 0) | _ => []) e
        rw [List.map_map, List.map_map] at this
        have f : ((fun d : D => match d with | .tup l => l.map (fun d : D => match d with | .int i => i | _ => 0) | _ => ([] : List Int)) ∘ tupI) = id := by
          funext k
          show (k.map D.int).map _ = k
          rw [List.map_map]
          exact List.map_id k
        rw [f, List.map_id, List.map_id] at this
        exact this
      exact inj hk
    subst hk
    refine ⟨xs, e1, h1, ⟨h5, e2, e3, e4, fun x hx => ?_⟩, e5⟩
    cases e5 x hx with
    | tup ht rr => rw [rr.ints] at ht; exact seqT (fun a o e => (er.z.ok.sub a o e).2) ht.sq
theorem tup_sq {G0 H G : Hp} {env : EnvS} {σ : L2.St} (er : ER C B G0 H G env σ) {i : Nat} {ks : List Int} (h : env[i]? = some (some (.sh (tupI ks)))) : ∃ q : Addr, σ[i]? = some (some (.ref q)) ∧ SqT C.K H q (ks.map V.int) ∧ Rp C.K G (tupI ks) (.ref q) := by
  obtain ⟨v, h1, h2⟩ := er.sh i _ h
  cases h2 with
  | tup ht rr =>
    refine ⟨_, h1, ?_, .tup ht rr⟩
    have e := rr.ints
    subst e
    exact seqT (fun a o e => (er.z.ok.sub a o e).2) ht.sq
/-- if x not in d -/
def mIfNT (i j : Nat) (a b : MSt) : MSt := fun env Ks => ∃ (p : Addr) (ns : List (List Int)) (ks : List Int), env[j]? = some (some (.own p (metD p ns))) ∧ env[i]? = some (some (.sh (tupI ks))) ∧ (ks ∉ ns → a env Ks) ∧ (ks ∈ ns → b env Ks)
theorem ms_ifNT (i j : Nat) {x y : Str} {px py cp : Pos} (hu : X.A.units + 1 < cLine) (hK : X.K = C.K) (hi : X.N[i]? = some x := by rfl) (hj : X.N[j]? = some y := by rfl) (vi : Vis X.env.scope x := by first | exact Or.inl rfl | exact Or.inr (Or.inl rfl) | exact Or.inr (Or.inr rfl)) (vj : Vis X.env.scope y := by first | exact Or.inl rfl | exact Or.inr (Or.inl rfl) | exact Or.inr (Or.inr rfl))
    (hx : (x == ("__debug__" : Str)) = false := by decide) (hcx : (x == ("__classdict__" : Str)) = false := by decide) (hy : (y == ("__debug__" : Str)) = false := by decide) (hcy : (y == ("__classdict__" : Str)) = false := by decide) (hm : behindInMarks .NotIn (.Name y py) = false := by rfl)
    (ha : MSs X C E fr B a ms) (hb : MSs X C E fr B b ms') : MS X C E fr B (.If (.Compare (.Name x px) [.NotIn] [.Name y py] cp) a b pos) (mIfNT i j ms ms') := fun G0 =>
  PS.imp (ps_if (pt_cmpR (op_notInT hu) (pe_var hi vi hx hcx) (pe_var hj vj hy hcy) hm) (ha G0) (hb G0)) fun En σ H ⟨env, G, Ks, er, ⟨p, ns, ks, hd, ht, h1, h2⟩, f⟩ => by
    obtain ⟨xs, e1, e2, D, _⟩ := er.dt hd
    obtain ⟨q, e3, e4, _⟩ := tup_sq er ht
    refine ⟨.ref q, e3, .ref p, e2, p, q, xs, ks, rfl, rfl, by rw [hK]; exact D, by rw [hK]; exact e4, _, rfl, ?_⟩
    subst e1
    by_cases c : ks ∈ xs.map (·.1)
    · rw [decide_eq_true c]
      exact ⟨env, G, Ks, er, h2 c, f⟩
    · rw [decide_eq_false c]
      exact ⟨env, G, Ks, er, h1 c, f⟩
/-- d[x] = True, x new -/
def mSetKT (i j : Nat) : MSt := fun env Ks => ∃ (p : Addr) (ns : List (List Int)) (ks : List Int), env[j]? = some (some (.own p (metD p ns))) ∧ env[i]? = some (some (.sh (tupI ks))) ∧ ks ∉ ns ∧ ns.length < sizeLine ∧ Ks.nx (env.set j (some (.own p (metD p (ns ++ [ks])))))
theorem ms_setKT (i j : Nat) {x y : Str} {px py sp cp : Pos} {k : Nat} {bb : Bool} (hu : X.A.units + 1 < cLine) (hK : X.K = C.K) (hi : X.N[i]? = some x := by rfl) (hj : X.N[j]? = some y := by rfl) (vi : Vis X.env.scope x := by first | exact Or.inl rfl | exact Or.inr (Or.inl rfl) | exact Or.inr (Or.inr rfl)) (vj : Vis X.env.scope y := by first | exact Or.inl rfl | exact Or.inr (Or.inl rfl) | exact Or.inr (Or.inr rfl))
    (hx : (x == ("__debug__" : Str)) = false := by decide) (hcx : (x == ("__classdict__" : Str)) = false := by decide) (hy : (y == ("__debug__" : Str)) = false := by decide) (hcy : (y == ("__classdict__" : Str)) = false := by decide)
    (ha : ∀ v, assign (.Subscript (.Name y py) (.Name x px) sp) X.env v = (do
      let ov ← holding [v] (eval (.Name y py) X.env)
      let iv ← holding [v, ov] (eval (.Name x px) X.env)
      standAt sp
      holding [v, ov, iv] (setItem ov iv v)
      release [v, ov, iv] []) := by intro _; rfl)
    (hs : swapsWithSole [.Subscript (.Name y py) (.Name x px) sp] (.Constant (.bool bb) k cp) pos.line X.env = pure false := by rfl) (hw : swappedStores [.Subscript (.Name y py) (.Name x px) sp] (.Constant (.bool bb) k cp) X.env = pure none := by rfl)
    (h1 : (assignEach [.Subscript (.Name y py) (.Name x px) sp] X.env).map (·.2) = [assign (.Subscript (.Name y py) (.Name x px) sp) X.env] := by rfl) :
    MS X C E fr B (.Assign [.Subscript (.Name y py) (.Name x px) sp] (.Constant (.bool bb) k cp) pos) (mSetKT i j) := fun G0 =>
  PS.imp (ps_asg pe_bl (pg_sub (pe_var hj vj hy hcy) (pe_var hi vi hx hcx) (set_dtT hu) ha) hs hw h1) fun En σ H ⟨env, G, Ks, er, ⟨p, ns, ks, hd, ht, hn, hl, hk⟩, f⟩ => by
    obtain ⟨xs, e1, e2, D, e5⟩ := er.dt hd
    obtain ⟨q, e3, e4, e6⟩ := tup_sq er ht
    subst e1
    have hl : xs.length < sizeLine := by rw [← List.length_map (f := fun x : List Int × Addr × Value => x.1)]; exact hl
    refine ⟨.ref p, e2, .ref q, e3, p, q, xs, ks, rfl, rfl, by rw [hK]; exact D, by rw [hK]; exact e4, hn, hl, fun u => ?_⟩
    refine f.nx _ _ _ G (er.write hd (.dt (xs := xs ++ [(ks, q, u)]) (by rw [List.map_append]; rfl) D.ns (by rw [List.length_append, List.length_singleton]; exact hl) ?_ fun z hz => ?_)) hk
    · rw [List.map_append, List.nodup_append]
      refine ⟨D.nd, by simp, fun u1 h1 u2 h2 e => ?_⟩
      rw [List.map_singleton, List.mem_singleton] at h2
      rw [e, h2] at h1
      exact hn h1
    · rcases List.mem_append.mp hz with hz | hz
      · exact e5 z hz
      · rw [List.mem_singleton.mp hz]
        exact e6
/-- x = dict([(k, v)]) -/
def mSetDT (i : Nat) (r : MAt) : MSt := fun env Ks => r (viewE env) (fun ds => ∃ (ks : List Int) (v : D), ds = [.lst [.tup [tupI ks, v]]] ∧ ∀ p, Ks.nx (env.set i (some (.own p (metD p [ks]))))) Ks.ex
theorem ms_setDT {i : Nat} {x : Str} {e : Expr} {es : List Expr} {r : MAt} {p px cp : Pos} (hc : X.calm = true) (hu : X.A.units + 2 < cLine) (hK : X.K = C.K) (hg : Gl X "dict") (hm : X.mg "dict" = none) (hN : X.N.Nodup) (hi : X.N[i]? = some x) (hx : Loc X.env.scope x) (ha : MA X C E (e :: es) r)
    (he : starEach (e :: es) X.env = (false, eval e X.env) :: starEach es X.env := by rfl) (hpl : (backTo cp (starEach es X.env)).any (·.1) = false := by rfl)
    (hs : swapsWith (.Call (.Name "dict" p) (e :: es) [] cp) (some (.Name x px)) pos.line X.env = pure false := by rfl) (hf : X.fn x = true ∨ X.env.scope.names.lookup x = some .local := by first | exact .inl rfl | exact .inr rfl | assumption) :
    MS X C E fr B (.Assign [.Name x px] (.Call (.Name "dict" p) (e :: es) [] cp) pos) (mSetDT i r) := fun G0 =>
  PS.imp (ps_set hN hi hx (pe_callTy (call_dictT hc hu) hg hm (by decide +kernel) ha (by decide) (by decide) he hpl) hs hf) fun En σ H ⟨env, G, Ks, er, hm, f⟩ => by
    refine ⟨viewE env, G, _, Ks.ex, er.z.ok, er.vr, hm, fun ds vs H1 G1 s1 ok1 r1 _ k1 => ?_, f.px er.z (Same.refl _)⟩
    obtain ⟨ks, v, rfl, k1⟩ := k1
    have sm : ∀ a o, G1 a = some o → H1 a = some o := fun a o q => (ok1.sub a o q).2
    cases r1 with
    | cons r1 r2 =>
      cases r2
      cases r1 with
      | lst hl rl =>
        cases rl with
        | cons rt r0 =>
          cases r0
          cases rt with
          | tup ht rr =>
            cases rr with
            | cons rk rv =>
              cases rv with
              | cons rv r9 =>
                cases r9
                cases rk with
                | tup hk rks =>
                  have e := rks.ints
                  subst e
                  refine ⟨_, _, _, ks, _, rfl, .inl (.inl (sm _ _ hl)), by rw [hK]; exact seqT sm ht.sq, by rw [hK]; exact seqT sm hk.sq, fun q u hq hsy => ?_⟩
                  obtain ⟨o1, s2, g⟩ := ok1.new (o := dtO q [(ks, _, u)]) hq
                  have er1 := er.fresh_own (s1.trans o1 s2) o1 (d := metD q [ks]) (i := i) (p := q) (o := dtO q [(ks, _, u)]) ?_ g upd_same (ok1.iv.new hq) (.dt rfl hsy (by show 1 ≤ sizeLine; decide) (by simp) fun z hz => ?_)
                  · exact f.nx _ _ _ G1 er1 (k1 q)
                  · cases z : nT H q with
                    | none => rfl
                    | some u => 
                      have := s1.nx q u (ok1.iv.new hq) z
                      rw [nT_none hq] at this
                      cases this
                  · rw [List.mem_singleton.mp hz]
                    exact .tup hk rks
/-- one own list frozen ahead of the statement -/
def mFrzL (j : Nat) (ms : MSt) : MSt := fun env Ks => ownL env j fun _ ds => ms (env.set j (some (.sh (.lst ds)))) Ks
theorem ms_frzL {st : Stmt} {ms : MSt} (j : Nat) (h : MS X C E fr B st ms) : MS X C E fr B st (mFrzL j ms) := fun G0 => PS.imp (h G0) fun En σ H ⟨env, G, Ks, er, hm, f⟩ => by
  obtain ⟨q, ds, hq, hm⟩ := ownL_inv hm
  obtain ⟨h1, h2, h3, h4, ob, h5, h6⟩ := er.own j q _ hq
  cases h6 with
  | lst rl =>
    rename_i vs
    refine ⟨_, upd G q (.lst vs), Ks, ?_, hm, f⟩
    have sg : Same G (upd G q (.lst vs)) := same_new h4
    have hj : j < env.length := (List.getElem?_eq_some_iff.mp hq).1
    have un : ∀ {i : Nat} {x : Slot}, (env.set j (some (.sh (.lst ds))))[i]? = some (some x) → (i = j ∧ x = .sh (.lst ds)) ∨ (i ≠ j ∧ env[i]? = some (some x)) := fun {i x} z => by
      by_cases c : j = i
      · subst c
        rw [List.getElem?_set_self hj] at z
        cases z
        exact .inl ⟨rfl, rfl⟩
      · rw [List.getElem?_set_ne c] at z
        exact .inr ⟨fun e => c e.symm, z⟩
    refine ⟨⟨er.z.ok.frz h4 h5 h2 rfl, er.z.g0.trans sg, fun a o z z' => ?_, er.z.keep⟩, by simpa using er.len, fun i d z => ?_, fun i p d z => ?_, fun i k p d e z z' => ?_⟩
    · by_cases c : a = q
      · rw [c]; exact h3
      · rw [upd_ne c] at z'
        exact er.z.fr a o z z'
    · rcases un z with ⟨e1, e2⟩ | ⟨c, z⟩
      · cases e2
        subst e1
        exact ⟨_, h1, .lst upd_same (rl.mono sg)⟩
      · obtain ⟨v, v1, v2⟩ := er.sh i d z
        exact ⟨v, v1, v2.mono sg⟩
    · rcases un z with ⟨e1, e2⟩ | ⟨c, z⟩
      · cases e2
      · obtain ⟨v1, v2, v3, v4, ob2, v5, v6⟩ := er.own i p d z
        have npq : p ≠ q := fun e => c (er.dis i j q d (.lst ds) (by rw [← e]; exact z) hq)
        exact ⟨v1, v2, v3, by rw [upd_ne npq]; exact v4, ob2, v5, v6.mono sg⟩
    · rcases un z with ⟨e1, e2⟩ | ⟨c, z⟩
      · cases e2
      · rcases un z' with ⟨e1, e2⟩ | ⟨c', z'⟩
        · cases e2
        · exact er.dis i k p d e z z'
end
end L3
set_option pp.maxSteps 400
/-! Q0: plain tools: comprehensions over numbers, lengths, sets -/
namespace L3
open PySem PySem.Spec PyProof.Rows L2
theorem get_set_self {env : EnvE} {i : Nat} {d : D} (hi : (env[i]?).isSome = true) : (env.set i (some d))[i]? = some (some d) := by
  rw [List.getElem?_set_self (by
    cases h : env[i]? with
    | none => rw [h] at hi; cases hi
    | some x => exact (List.getElem?_eq_some_iff.mp h).1)]
theorem lcD_filter {i : Nat} {tt : MTt} {env : EnvE} (g : Int → Bool) (hi : (env[i]?).isSome = true) : ∀ {ns : List Int} {ds : List D} {K : List D → Prop}, ds = ns.map D.int → (∀ x ∈ ns, ∀ Kb : Bool → Prop, Kb (g x) → tt (env.set i (some (.int x))) Kb (fun _ => False)) → K ((ns.filter g).map D.int) → lcD (.nm i) tt (mVar i) env ds K
  | [], _, K, rfl, _, k => k
  | x :: ns, _, K, rfl, h, k => by
    refine ⟨_, rfl, ?_⟩
    refine h x List.mem_cons_self _ ?_
    by_cases c : g x = true
    · rw [List.filter_cons_of_pos c] at k
      rw [if_pos c]
      show mVar i (env.set i (some (.int x))) _ _
      unfold mVar
      rw [get_set_self hi]
      exact lcD_filter g hi (K := fun r => K (.int x :: r)) rfl (fun y hy => h y (List.mem_cons_of_mem _ hy)) k
    · rw [List.filter_cons_of_neg c] at k
      rw [if_neg c]
      exact lcD_filter g hi (K := K) rfl (fun y hy => h y (List.mem_cons_of_mem _ hy)) k
theorem lcD_fmm {t : Tgt} {tt : MTt} {te : MEt} {env : EnvE} {α : Type} (f : α → D) (o : α → Option D) : ∀ {l : List α} {ds : List D} {K : List D → Prop}, ds = l.map f → (∀ a ∈ l, ∀ K : Option D → Prop, K (o a) → lcS t tt te env (f a) K) → K (l.filterMap o) → lcD t tt te env ds K
  | [], _, K, rfl, _, k => k
  | x :: l, _, K, rfl, h, k => by
    refine lcD_step (h x List.mem_cons_self _ ?_)
    rw [List.filterMap_cons] at k
    cases q : o x with
    | none =>
      rw [q] at k
      exact lcD_fmm f o rfl (fun b hb => h b (List.mem_cons_of_mem _ hb)) k
    | some y =>
      rw [q] at k
      exact lcD_fmm f o (K := fun r => K (y :: r)) rfl (fun b hb => h b (List.mem_cons_of_mem _ hb)) k
theorem lcD_map {t : Tgt} {te : MEt} {env : EnvE} {α : Type} (f : α → D) (o : α → D) {l : List α} {ds : List D} {K : List D → Prop} (e : ds = l.map f) (h : ∀ a ∈ l, ∃ bs, bindT t (f a) = some bs ∧ ∀ Kd : D → Prop, Kd (o a) → te (setE env bs) Kd (fun _ => False)) (k : K (l.map o)) : lcD t tYesM te env ds K := by
  refine lcD_fmm f (fun a => some (o a)) e (fun a ha K hK => ?_) (by rw [List.filterMap_eq_map']; exact k)
  obtain ⟨bs, hb, h⟩ := h a ha
  exact ⟨bs, hb, h _ hK⟩
/-- 0 .. n - 1 -/
def rgI (n : Nat) : List Int := (List.range n).map fun i : Nat => (i : Int)
theorem rg_eq (n : Nat) : ((List.range n).map fun i : Nat => D.int (i : Int)) = (rgI n).map D.int := by
  unfold rgI
  rw [List.map_map]
  rfl
theorem rgI_mem {n : Nat} {x : Int} : x ∈ rgI n ↔ 0 ≤ x ∧ x < n := by
  unfold rgI
  rw [List.mem_map]
  constructor
  · rintro ⟨i, hi, rfl⟩
    have := List.mem_range.mp hi
    omega
  · rintro ⟨h0, h1⟩
    exact ⟨x.toNat, List.mem_range.mpr (by omega), by omega⟩
theorem rgI_len (n : Nat) : (rgI n).length = n := by unfold rgI; rw [List.length_map, List.length_range]
theorem rgI_nodup (n : Nat) : (rgI n).Nodup := by
  unfold rgI List.Nodup
  rw [List.pairwise_map]
  exact List.nodup_range.imp fun h e => h (by omega)
theorem rgI_lt (n : Nat) : (rgI n).Pairwise (· < ·) := by
  unfold rgI
  rw [List.pairwise_map]
  exact List.pairwise_lt_range.imp fun h => by omega
theorem mRange_go {m : MEt} {j : Int} {n : Nat} {env : EnvE} {Kl : List D → Prop} {KX : Exn → Prop} (h : (n : Int) = j) (hn : n ≤ 1000000) (k : Kl ((rgI n).map D.int)) : rgD [.int j] Kl := by
  subst h
  refine ⟨by omega, by omega, ?_⟩
  rw [show ((n : Int)).toNat = n by omega, rg_eq]
  exact k
/-- len(set(xs)) == len(xs) -/
theorem fm_inj (val : Nat → Int) : ∀ n, (PyProof.Rows.firstMet val n).length = n → ((List.range n).map val).Nodup
  | 0, _ => List.nodup_nil
  | n + 1, h => by
    rw [PyProof.Rows.firstMet_succ] at h
    have hle := PyProof.Rows.firstMet_length_le val n
    have ha := PyProof.Rows.firstMet_any val n (val n)
    unfold PyProof.Rows.step_dedup at h
    split at h
    · omega
    · rename_i c
      rw [List.length_append] at h
      have h2 : (PyProof.Rows.firstMet val n).length = n := by simp at h; exact h
      rw [List.range_succ, List.map_append, List.nodup_append]
      refine ⟨fm_inj val n h2, by simp, fun x hx y hy e => ?_⟩
      rw [List.map_singleton, List.mem_singleton] at hy
      subst hy
      subst e
      rw [ha] at c
      exact c (List.any_eq_true.mpr ⟨_, hx, beq_self_eq_true _⟩)
theorem getD_range (ns : List Int) : (List.range ns.length).map (fun i => ns.getD i 0) = ns := by
  apply List.ext_getElem
  · rw [List.length_map, List.length_range]
  · intro i h1 h2
    rw [List.getElem_map, List.getElem_range, List.getD_eq_getElem?_getD, List.getElem?_eq_getElem h2]
    rfl
theorem dlen_eq {ns : List Int} (h : dlen ns = ns.length) : ns.Nodup := by
  have := fm_inj (fun i => ns.getD i 0) ns.length h
  rwa [getD_range] at this
theorem dlen_dec (ns : List Int) : decide (((dlen ns : Nat) : Int) = ((ns.length : Nat) : Int)) = decide ns.Nodup := by
  by_cases c : ns.Nodup
  · rw [dlen_nodup c, decide_eq_true rfl, decide_eq_true c]
  · rw [decide_eq_false c, decide_eq_false]
    intro e
    exact c (dlen_eq (by omega))
theorem lenSet_go {ns : List Int} {K : D → Prop} (h : ns.length ≤ 4000) (k : K (.int (dlen ns : Nat))) : (match intsOf (ns.map D.int) with | some ns => ns.length ≤ 4000 ∧ K (.int (dlen ns : Nat)) | none => False) := by
  rw [intsOf_ints]
  exact ⟨h, k⟩
end L3
/-! P1: the helpers of all laws: what they compute (plain) -/
namespace L3
open PySem PySem.Spec PyProof.Rows L2
theorem z1 : 1 ≤ sizeLine := by decide
theorem z2 : 2 ≤ sizeLine := by decide
theorem z3 : 3 ≤ sizeLine := by decide
theorem z4 : 4 ≤ sizeLine := by decide
theorem n9 {n : Int} (h0 : 0 < n) (h : n < 1606938044258990275541962092341162602522202993782792835301376) : n.natAbs < 2 ^ 9000 := by
  have h1 : n.natAbs < 2 ^ 200 := by
    rw [show (2 : Nat) ^ 200 = 1606938044258990275541962092341162602522202993782792835301376 by decide]
    omega
  exact Nat.lt_of_lt_of_le h1 (Nat.pow_le_pow_right (by decide) (by decide))
theorem dr {a : Addr} {n : Int} {Kd : D → Prop} {KX : Exn → Prop} (h0 : 0 < n) (h : n < 1606938044258990275541962092341162602522202993782792835301376) (k : ∀ i, 0 ≤ i → i < n → Kd (.int i)) : sp__law_drawn (some a) [.ref a, .int n] Kd KX := by
  unfold sp__law_drawn
  exact ⟨a, n, rfl, rfl, h0, n9 h0 h, k⟩
/-! ### _law_boxes -/
def sp__law_boxes : Spec := fun sa ds Kd _ => ∃ a, sa = some a ∧ ds = [.ref a] ∧ ∀ b : Int, 1 ≤ b → b ≤ 10 → Kd (.int b)
abbrev N__law_boxes : List Str := ["_law_state"]
abbrev ps__law_boxes : List Str := ["_law_state"]
def m__law_boxes (sa : Option Addr) : MSt :=
  (mRet (m2 ixD (mLst (aCons (m2 addD (mC (.int 1)) (mCallU sa sp__law_drawn (aCons (mVar 0) (aCons (mC (.int 4)) aNil)))) (aCons (m2 addD (mC (.int 2)) (mCallU sa sp__law_drawn (aCons (mVar 0) (aCons (mC (.int 5)) aNil)))) (aCons (m2 addD (mC (.int 1)) (mCallU sa sp__law_drawn (aCons (mVar 0) (aCons (mC (.int 10)) aNil)))) aNil)))) (mCallU sa sp__law_drawn (aCons (mVar 0) (aCons (mC (.int 3)) aNil)))))
theorem pu__law_boxes (sa : Option Addr) (ds : List D) (Kd : D → Prop) (KX : Exn → Prop) (hl : ds.length = 1) (h : sp__law_boxes sa ds Kd KX) : m__law_boxes sa (startS N__law_boxes.length ds) { nx := fun _ => false = false ∧ Kd .non, rt := Kd, ex := KX } := by
  obtain ⟨a, rfl, rfl, k⟩ := h
  refine dr (by decide) (by decide) fun x x0 x1 => dr (by decide) (by decide) fun y y0 y1 => dr (by decide) (by decide) fun z z0 z1 => ⟨z3, dr (by decide) (by decide) fun i i0 i1 => ?_⟩
  have hi : i = 0 ∨ i = 1 ∨ i = 2 := by omega
  rcases hi with rfl | rfl | rfl
  · exact ixD_lst rfl (k _ (by omega) (by omega))
  · exact ixD_lst rfl (k _ (by omega) (by omega))
  · exact ixD_lst rfl (k _ (by omega) (by omega))
/-! ### _law_order -/
def sp__law_order : Spec := fun sa ds Kd _ => ∃ a xs, sa = some a ∧ ds = [.ref a, .lst xs] ∧ (∀ d ∈ xs, Dk 5 d) ∧ xs.length ≤ 1000 ∧ ∀ ys : List D, ys.Perm xs → Kd (.lst ys)
abbrev N__law_order : List Str := ["_law_state", "_law_some", "_law_left", "_law_found"]
abbrev ps__law_order : List Str := ["_law_state", "_law_some"]
def m__law_order (sa : Option Addr) : MSt :=
  (mSeq (mSetF 2 (mCall listD (aCons (mVar 1) aNil)))
  (mSeq (mSetF 3 (mLst aNil))
  (mSeq (mWhile (mB (m2 (eqE true) (mVar 2) (mLst aNil))) (mAppPop 3 2 (mCallU sa sp__law_drawn (aCons (mVar 0) (aCons (mCall lenD (aCons (mVar 2) aNil)) aNil)))))
  (mRet (mVar 3)))))
theorem erase_perm {α : Type} : ∀ (l : List α) (i : Nat) (y : α), l[i]? = some y → (y :: l.eraseIdx i).Perm l
  | [], _, _, h => by simp at h
  | x :: l, 0, y, h => by cases h; exact List.Perm.refl _
  | x :: l, i + 1, y, h => (List.Perm.swap x y _).trans ((erase_perm l i y h).cons x)
theorem pu__law_order (sa : Option Addr) (ds : List D) (Kd : D → Prop) (KX : Exn → Prop) (hl : ds.length = 2) (h : sp__law_order sa ds Kd KX) : m__law_order sa (startS N__law_order.length ds) { nx := fun _ => false = false ∧ Kd .non, rt := Kd, ex := KX } := by
  obtain ⟨a, xs, rfl, rfl, hd, hx, k⟩ := h
  refine fun p => ⟨Nat.zero_le _, fun q => ⟨xs.length + 1, ?_⟩⟩
  have go : ∀ (m : Nat) (left found : List D), left.length = m → (found ++ left).Perm xs → whileD (mB (m2 (eqE true) (mVar 2) (mLst aNil))) (mAppPop 3 2 (mCallU (some a) sp__law_drawn (aCons (mVar 0) (aCons (mCall lenD (aCons (mVar 2) aNil)) aNil))))
      { nx := fun env' => mRet (mVar 3) env' { nx := fun _ => false = false ∧ Kd .non, rt := Kd, ex := KX }, rt := Kd, ex := KX } (m + 1) [some (.sh (.ref a)), some (.sh (.lst xs)), some (.own p (.lst left)), some (.own q (.lst found))] := by
    intro m
    induction m with
    | zero =>
      intro left found hm hp
      have e := List.eq_nil_of_length_eq_zero hm
      subst e
      refine ⟨Nat.zero_le _, eqE_nil (n := 1) (.lst _ _ (by simp)) (by decide) ?_⟩
      exact k _ (by rw [List.append_nil] at hp; exact hp)
    | succ m ih =>
      intro left found hm hp
      have hsub : ∀ d ∈ left, Dk 5 d := fun d hd' => hd d (hp.mem_iff.mp (List.mem_append_right _ hd'))
      have hlen : found.length + left.length = xs.length := by rw [← hp.length_eq, List.length_append]
      refine ⟨Nat.zero_le _, eqE_nil (n := 6) (.lst _ _ hsub) (by decide) ?_⟩
      have ne : left.isEmpty = false := by cases left with | nil => simp at hm | cons _ _ => rfl
      rw [ne]
      refine dr (by omega) (by omega) fun i i0 i1 => ⟨i0, sz_lt (by omega), by omega, ?_⟩
      have hi : i.toNat < left.length := by omega
      rw [List.getElem?_eq_getElem hi]
      have hy := erase_perm left i.toNat left[i.toNat] (List.getElem?_eq_getElem hi)
      refine ih (left.eraseIdx i.toNat) (found ++ [left[i.toNat]]) (by rw [List.length_eraseIdx_of_lt hi]; omega) ?_
      rw [List.append_assoc]
      exact (List.Perm.append_left found hy).trans hp
  exact go xs.length xs [] rfl (List.Perm.refl _)
/-! ### leads -/
structure Lead (b : Int) (l : List (Int × Int)) : Prop where
  nd : (l.map (·.1)).Nodup
  bd : ∀ p ∈ l, 0 ≤ p.1 ∧ p.1 < b ∧ 0 ≤ p.2 ∧ p.2 < b
abbrev pD (p : Int × Int) : D := .tup [.int p.1, .int p.2]
abbrev leadD (l : List (Int × Int)) : D := .lst (l.map pD)
def kvD (l : List (Int × Int)) : List (Int × D) := l.map fun p => (p.1, D.int p.2)
def look (l : List (Int × Int)) (k : Int) : Option Int := (l.find? fun p => decide (p.1 = k)).map (·.2)
theorem Lead.len {b : Int} {l : List (Int × Int)} (h : Lead b l) (hb : 0 ≤ b) : (l.length : Int) ≤ b := by
  have := nodup_lenI hb h.nd fun x hx => by
    obtain ⟨p, hp, rfl⟩ := List.mem_map.mp hx
    have := h.bd p hp
    exact ⟨this.1, this.2.1⟩
  rwa [List.length_map] at this
theorem valD_kv (k : Int) : ∀ l : List (Int × Int), valD (kvD l) k = (look l k).map D.int
  | [] => rfl
  | p :: l => by
    have ih := valD_kv k l
    unfold valD look kvD at *
    rw [List.map_cons, List.find?_cons, List.find?_cons]
    by_cases c : p.1 = k
    · simp [c]
    · simp only [c, decide_false]
      exact ih
theorem look_mem {l : List (Int × Int)} {k v : Int} (h : look l k = some v) : (k, v) ∈ l := by
  unfold look at h
  cases q : l.find? fun p => decide (p.1 = k) with
  | none => rw [q] at h; cases h
  | some p =>
    rw [q] at h
    cases h
    have h1 := List.mem_of_find?_eq_some q
    have h2 := of_decide_eq_true (List.find?_some (p := fun p : Int × Int => decide (p.1 = k)) q)
    rw [← h2]
    exact h1
theorem look_some {l : List (Int × Int)} {k : Int} (h : k ∈ l.map (·.1)) : ∃ v, look l k = some v := by
  unfold look
  cases q : l.find? fun p => decide (p.1 = k) with
  | none =>
    obtain ⟨p, hp, rfl⟩ := List.mem_map.mp h
    have := List.find?_eq_none.mp q p hp
    simp at this
  | some p => exact ⟨_, rfl⟩
theorem look_of {l : List (Int × Int)} (hn : (l.map (·.1)).Nodup) {k v : Int} (h : (k, v) ∈ l) : look l k = some v := by
  induction l with
  | nil => cases h
  | cons p l ih =>
    rw [List.map_cons, List.nodup_cons] at hn
    unfold look
    rw [List.find?_cons]
    rcases List.mem_cons.mp h with e | e
    · subst e
      simp
    · have ne : ¬ p.1 = k := fun e2 => hn.1 (List.mem_map.mpr ⟨(k, v), e, e2.symm⟩)
      rw [decide_eq_false ne]
      exact ih hn.2 e
theorem look_none {l : List (Int × Int)} {k : Int} (h : look l k = none) : k ∉ l.map (·.1) := fun hm => by
  obtain ⟨v, hv⟩ := look_some hm
  rw [hv] at h
  cases h
theorem keys_kv (l : List (Int × Int)) : (kvD l).map (·.1) = l.map (·.1) := by
  unfold kvD
  rw [List.map_map]
  rfl
def put (l : List (Int × Int)) (k v : Int) : List (Int × Int) := if l.any (fun p => decide (p.1 = k)) then l.map (fun p => if p.1 = k then (p.1, v) else p) else l ++ [(k, v)]
theorem putD_kv (l : List (Int × Int)) (k v : Int) : putD (kvD l) k (.int v) = kvD (put l k v) := by
  unfold putD put kvD
  rw [List.any_map]
  have e : ((fun p : Int × D => decide (p.1 = k)) ∘ fun p : Int × Int => (p.1, D.int p.2)) = fun p : Int × Int => decide (p.1 = k) := rfl
  rw [e]
  split
  · rw [List.map_map, List.map_map]
    apply List.map_congr_left
    intro p _
    show (if p.1 = k then (p.1, D.int v) else (p.1, D.int p.2)) = _
    show _ = ((if p.1 = k then (p.1, v) else p).1, D.int (if p.1 = k then (p.1, v) else p).2)
    by_cases c : p.1 = k
    · rw [if_pos c, if_pos c]
    · rw [if_neg c, if_neg c]
  · rw [List.map_append]
    rfl
theorem put_keys (l : List (Int × Int)) (k v : Int) : (put l k v).map (·.1) = if l.any (fun p => decide (p.1 = k)) then l.map (·.1) else l.map (·.1) ++ [k] := by
  unfold put
  split
  · rw [List.map_map]
    apply List.map_congr_left
    intro p _
    show (if p.1 = k then (p.1, v) else p).1 = p.1
    split <;> rfl
  · rw [List.map_append]
    rfl
theorem Lead.put {b : Int} {l : List (Int × Int)} (h : Lead b l) {k v : Int} (hk : 0 ≤ k) (hk2 : k < b) (hv : 0 ≤ v) (hv2 : v < b) : Lead b (put l k v) := by
  refine ⟨?_, fun p hp => ?_⟩
  · rw [put_keys]
    split
    · exact h.nd
    · rename_i c
      rw [List.nodup_append]
      refine ⟨h.nd, by simp, fun x hx y hy e => ?_⟩
      rw [List.mem_singleton] at hy
      obtain ⟨p, hp, rfl⟩ := List.mem_map.mp hx
      exact c (List.any_eq_true.mpr ⟨p, hp, decide_eq_true (e.trans hy)⟩)
  · unfold L3.put at hp
    split at hp
    · obtain ⟨q, hq, rfl⟩ := List.mem_map.mp hp
      have := h.bd q hq
      split
      · exact ⟨this.1, this.2.1, hv, hv2⟩
      · exact this
    · rcases List.mem_append.mp hp with e | e
      · exact h.bd p e
      · rw [List.mem_singleton] at e
        subst e
        exact ⟨hk, hk2, hv, hv2⟩
theorem Lead.nil (b : Int) : Lead b [] := ⟨List.nodup_nil, by simp⟩
theorem perm_ints {ys : List D} {ns : List Int} (h : ys.Perm (ns.map D.int)) : ∃ ms : List Int, ys = ms.map D.int ∧ ms.Perm ns := by
  let f : D → Int := fun d => match d with | .int i => i | _ => 0
  refine ⟨ys.map f, ?_, ?_⟩
  · rw [List.map_map]
    have : ∀ y ∈ ys, (D.int ∘ f) y = y := fun y hy => by
      obtain ⟨i, _, rfl⟩ := List.mem_map.mp (h.mem_iff.mp hy)
      rfl
    rw [List.map_congr_left this]
    simp
  · have := h.map f
    rw [List.map_map] at this
    have e : (f ∘ D.int) = id := rfl
    rw [e, List.map_id] at this
    exact this
theorem cutD_map {α β : Type} (f : α → β) (xs : List α) (lo hi : Option Int) : cutD (xs.map f) lo hi = (cutD xs lo hi).map f := by
  unfold cutD
  rw [List.length_map, List.map_take, List.map_drop]
theorem cutD_mem {α : Type} {xs : List α} {lo hi : Option Int} {x : α} (h : x ∈ cutD xs lo hi) : x ∈ xs := List.mem_of_mem_drop (List.mem_of_mem_take h)
theorem cutD_len {α : Type} {xs : List α} {lo hi : Option Int} : (cutD xs lo hi).length ≤ xs.length := by
  unfold cutD
  rw [List.length_take, List.length_drop]
  omega
theorem Dk_ints (ns : List Int) (n : Nat) : ∀ d ∈ ns.map D.int, Dk n d := fun d hd => by
  obtain ⟨i, _, rfl⟩ := List.mem_map.mp hd
  exact .int _ i
theorem atI_prev {rs : List Int} {i : Nat} (hi : i < rs.length) : ∃ v, atI (rs.map D.int) ((i : Int) - 1) = some (.int v) ∧ v ∈ rs := by
  cases i with
  | zero =>
    have hne : rs ≠ [] := fun e => by rw [e] at hi; cases hi
    refine ⟨rs.getLast hne, ?_, List.getLast_mem hne⟩
    have e : rs.map D.int = rs.dropLast.map D.int ++ [D.int (rs.getLast hne)] := by
      rw [← List.map_singleton, ← List.map_append, List.dropLast_concat_getLast]
    rw [e]
    exact atI_last _ _
  | succ i =>
    have h : i < rs.length := by omega
    refine ⟨rs[i], ?_, List.getElem_mem h⟩
    rw [show ((i + 1 : Nat) : Int) - 1 = (i : Nat) by omega]
    exact atI_nat (by rw [List.getElem?_map, List.getElem?_eq_getElem h]; rfl)
def sp__law_lead : Spec := fun sa ds Kd _ => ∃ a b, sa = some a ∧ ds = [.ref a, .int b] ∧ 1 ≤ b ∧ b ≤ 10 ∧ ∀ l, Lead b l → Kd (leadD l)
abbrev N__law_lead : List Str := ["_law_state", "_law_boxes_here", "_law_known_here", "_law_often", "_law_box", "_law_around", "_law_cut", "_law_ring", "_law_k", "_law_goal"]
abbrev ps__law_lead : List Str := ["_law_state", "_law_boxes_here"]
def m__law_lead (sa : Option Addr) : MSt :=
  (mSeq (mSetD 2)
  (mSeq (mSet 3 (m2 addD (mC (.int 1)) (mCallU sa sp__law_drawn (aCons (mVar 0) (aCons (mC (.int 3)) aNil)))))
  (mSeq (mFor (.nm 4) (mRange (aCons (mVar 1) aNil)) (mIfS (mB (m2 (eqE false) (mCallU sa sp__law_drawn (aCons (mVar 0) (aCons (mVar 3) aNil))) (mC (.int 0)))) (mSetK 2 (mVar 4) (mCallU sa sp__law_drawn (aCons (mVar 0) (aCons (mVar 1) aNil)))) mNext))
  (mSeq (mIfS (mB (m2 (eqE false) (mCallU sa sp__law_drawn (aCons (mVar 0) (aCons (mC (.int 2)) aNil))) (mC (.int 1)))) (mSeq (mSet 5 (mCallU sa sp__law_order (aCons (mVar 0) (aCons (mListRange (mVar 1)) aNil))))
    (mSeq (mSet 5 (mSl slD (mVar 5) oNone (oSome (mCallU sa sp__law_drawn (aCons (mVar 0) (aCons (m2 addD (mVar 1) (mC (.int 1))) aNil))))))
    (mSeq (mIfS (mB (m2 (eqE false) (mCallU sa sp__law_drawn (aCons (mVar 0) (aCons (mC (.int 2)) aNil))) (mC (.int 1)))) (mSetD 2) mNext)
    (mSeq (mSet 6 (mCallU sa sp__law_drawn (aCons (mVar 0) (aCons (m2 addD (mCall lenD (aCons (mVar 5) aNil)) (mC (.int 1))) aNil))))
    (mFor (.nm 7) (mIter (mLst (aCons (mSl slD (mVar 5) oNone (oSome (mVar 6))) (aCons (mSl slD (mVar 5) (oSome (mVar 6)) oNone) aNil)))) (mFor (.nm 8) (mRange (aCons (mCall lenD (aCons (mVar 7) aNil)) aNil)) (mSetK 2 (m2 ixD (mVar 7) (mVar 8)) (m2 ixD (mVar 7) (m2 subD (mVar 8) (mC (.int 1))))))))))) mNext)
  (mFrzD 2 (mRet (mLc (.nm 9) [9] (mIter (mCallU sa sp__law_order (aCons (mVar 0) (aCons (mCall sortedD (aCons (mVar 2) aNil)) aNil)))) tYesM (mTup (aCons (mVar 9) (aCons (m2 getK (mVar 2) (mVar 9)) aNil))))))))))
theorem pu__law_lead (sa : Option Addr) (ds : List D) (Kd : D → Prop) (KX : Exn → Prop) (hl : ds.length = 2) (h : sp__law_lead sa ds Kd KX) : m__law_lead sa (startS N__law_lead.length ds) { nx := fun _ => false = false ∧ Kd .non, rt := Kd, ex := KX } := by
  obtain ⟨a, b, rfl, rfl, b1, b2, k⟩ := h
  -- what holds throughout
  let I : EnvS → Prop := fun env => ∃ p l o e4 e5 e6 e7 e8 e9, env = [some (.sh (.ref a)), some (.sh (.int b)), some (.own p (.dic (kvD l))), some (.sh (.int o)), e4, e5, e6, e7, e8, e9] ∧ Lead b l ∧ 1 ≤ o ∧ o ≤ 3
  refine fun p => dr (by decide) (by decide) fun o o0 o1 => ?_
  refine ⟨by omega, by omega, forD_all I ⟨p, [], 1 + o, _, _, _, _, _, _, rfl, .nil b, by omega, by omega⟩ ?_ ?_⟩
  · rintro d hd env nx ⟨p, l, o, e4, e5, e6, e7, e8, e9, rfl, hL, o0, o1⟩ hn
    obtain ⟨i, hi, rfl⟩ := List.mem_map.mp hd
    have hi := List.mem_range.mp hi
    refine ⟨_, rfl, dr (by omega) (by omega) fun x x0 x1 => ?_⟩
    refine eqE_int (ite2 (fun _ => ?_) (fun _ => ?_))
    · refine dr (by omega) (by omega) fun v v0 v1 => ⟨rfl, ?_, ?_⟩
      · have := hL.len (by omega)
        exact sz_lt (by unfold kvD; rw [List.length_map]; omega)
      · exact hn _ ⟨p, put l i v, o, _, _, _, _, _, _, by rw [putD_kv]; rfl, hL.put (by omega) (by omega) v0 v1, o0, o1⟩
    · exact hn _ ⟨p, l, o, _, _, _, _, _, _, rfl, hL, o0, o1⟩
  · intro env hI
    -- the last statement, from I
    have fin : ∀ env, I env → mFrzD 2 (mRet (mLc (.nm 9) [9] (mIter (mCallU (some a) sp__law_order (aCons (mVar 0) (aCons (mCall sortedD (aCons (mVar 2) aNil)) aNil)))) tYesM (mTup (aCons (mVar 9) (aCons (m2 getK (mVar 2) (mVar 9)) aNil))))) env { nx := fun _ => false = false ∧ Kd .non, rt := Kd, ex := KX } := by
      rintro env ⟨p, l, o, e4, e5, e6, e7, e8, e9, rfl, hL, o0, o1⟩
      have hlen := hL.len (by omega)
      refine sortedD_dic ?_
      refine ⟨a, _, rfl, rfl, Dk_ints _ 5, ?_, fun ys hy => ?_⟩
      · rw [List.length_map, (sortI_perm _).length_eq, List.length_map]
        unfold kvD
        rw [List.length_map]
        omega
      · obtain ⟨ms, rfl, hm⟩ := perm_ints hy
        have hm := hm.trans (sortI_perm _)
        rw [keys_kv] at hm
        refine ⟨by rw [List.length_map, hm.length_eq, List.length_map]; omega, ?_⟩
        refine lcD_fm (fun d => match d with | .int g => some (pD (g, (look l g).getD 0)) | _ => none) (fun d hd K hK => ?_) ?_
        · obtain ⟨g, hg, rfl⟩ := List.mem_map.mp hd
          obtain ⟨v, hv⟩ := look_some (hm.mem_iff.mp hg)
          refine ⟨_, rfl, ?_⟩
          refine getK_of (d := .int v) (by rw [valD_kv, hv]; rfl) ⟨z2, ?_⟩
          have hK : K (some (pD (g, (look l g).getD 0))) := hK
          rw [hv] at hK
          exact hK
        · rw [fm_map D.int _ (fun g => some (g, (look l g).getD 0)) pD ms (fun g _ => rfl)]
          have e : (ms.filterMap fun g => some (g, (look l g).getD 0)) = ms.map fun g => (g, (look l g).getD 0) := by rw [List.filterMap_eq_map']
          rw [e]
          refine k _ ⟨?_, fun q hq => ?_⟩
          · rw [List.map_map]
            have e : ((fun p : Int × Int => p.1) ∘ fun g => (g, (look l g).getD 0)) = id := rfl
            rw [e, List.map_id]
            exact hm.nodup_iff.mpr hL.nd
          · obtain ⟨g, hg, rfl⟩ := List.mem_map.mp hq
            obtain ⟨v, hv⟩ := look_some (hm.mem_iff.mp hg)
            have := hL.bd _ (look_mem hv)
            rw [hv]
            exact this
    obtain ⟨p, l, o, e4, e5, e6, e7, e8, e9, rfl, hL, o0, o1⟩ := hI
    refine dr (by decide) (by decide) fun x x0 x1 => ?_
    refine eqE_int (ite2 (fun _ => ?_) (fun _ => ?_))
    · refine ⟨by omega, by omega, a, _, rfl, rfl, fun d hd => ?_, by rw [List.length_map, List.length_range]; omega, fun ys hy => ?_⟩
      · obtain ⟨i, _, rfl⟩ := List.mem_map.mp hd
        exact .int _ _
      · have e : (List.range b.toNat).map (fun i => D.int (i : Nat)) = ((List.range b.toNat).map fun i : Nat => (i : Int)).map D.int := by rw [List.map_map]; rfl
        rw [e] at hy
        obtain ⟨ms, rfl, hm⟩ := perm_ints hy
        have hb : ∀ x ∈ ms, 0 ≤ x ∧ x < b := fun x hx => by
          obtain ⟨i, hi, rfl⟩ := List.mem_map.mp (hm.mem_iff.mp hx)
          have hi := List.mem_range.mp hi
          omega
        have hml : ms.length ≤ 10 := by rw [hm.length_eq, List.length_map, List.length_range]; omega
        refine dr (by omega) (by omega) fun c c0 c1 => ?_
        have rest : ∀ (p : Addr) (l : List (Int × Int)), Lead b l → mSeq (mSet 6 (mCallU (some a) sp__law_drawn (aCons (mVar 0) (aCons (m2 addD (mCall lenD (aCons (mVar 5) aNil)) (mC (.int 1))) aNil))))
            (mFor (.nm 7) (mIter (mLst (aCons (mSl slD (mVar 5) oNone (oSome (mVar 6))) (aCons (mSl slD (mVar 5) (oSome (mVar 6)) oNone) aNil)))) (mFor (.nm 8) (mRange (aCons (mCall lenD (aCons (mVar 7) aNil)) aNil)) (mSetK 2 (m2 ixD (mVar 7) (mVar 8)) (m2 ixD (mVar 7) (m2 subD (mVar 8) (mC (.int 1))))))) [some (.sh (.ref a)), some (.sh (.int b)), some (.own p (.dic (kvD l))), some (.sh (.int o)), e4, some (.sh (.lst (cutD (ms.map D.int) none (some c)))), e6, e7, e8, e9]
            { nx := fun env' => mFrzD 2 (mRet (mLc (.nm 9) [9] (mIter (mCallU (some a) sp__law_order (aCons (mVar 0) (aCons (mCall sortedD (aCons (mVar 2) aNil)) aNil)))) tYesM (mTup (aCons (mVar 9) (aCons (m2 getK (mVar 2) (mVar 9)) aNil))))) env' { nx := fun _ => false = false ∧ Kd .non, rt := Kd, ex := KX }, rt := Kd, ex := KX } := by
          intro p l hL
          have hcl : (cutD (ms.map D.int) none (some c)).length ≤ 10 := Nat.le_trans cutD_len (by rw [List.length_map]; exact hml)
          refine dr (by omega) (by omega) fun z z0 z1 => ⟨z2, ?_⟩
          refine forD_all I ⟨p, l, o, _, _, _, _, _, _, rfl, hL, o0, o1⟩ ?_ fun env hI => fin env hI
          rintro d hd env nx ⟨p, l, o, e4, e5, e6, e7, e8, e9, rfl, hL, o0, o1⟩ hn
          obtain ⟨rs, rfl, hrs, hrl⟩ : ∃ rs : List Int, d = .lst (rs.map D.int) ∧ (∀ x ∈ rs, 0 ≤ x ∧ x < b) ∧ rs.length ≤ 10 := by
            have hd : d = .lst (cutD (cutD (ms.map D.int) none (some c)) none (some z)) ∨ d = .lst (cutD (cutD (ms.map D.int) none (some c)) (some z) none) := by simpa using hd
            rcases hd with rfl | rfl
            · exact ⟨cutD (cutD ms none (some c)) none (some z), by rw [cutD_map, cutD_map], fun x hx => hb x (cutD_mem (cutD_mem hx)), Nat.le_trans cutD_len (Nat.le_trans cutD_len hml)⟩
            · exact ⟨cutD (cutD ms none (some c)) (some z) none, by rw [cutD_map, cutD_map], fun x hx => hb x (cutD_mem (cutD_mem hx)), Nat.le_trans cutD_len (Nat.le_trans cutD_len hml)⟩
          refine ⟨_, rfl, ?_⟩
          by_cases hr : rs.length ≤ 10
          · refine ⟨by rw [List.length_map]; omega, by rw [List.length_map]; omega, forD_all (fun env => ∃ p l e8 e9, env = [some (.sh (.ref a)), some (.sh (.int b)), some (.own p (.dic (kvD l))), some (.sh (.int o)), e4, e5, e6, some (.sh (.lst (rs.map D.int))), e8, e9] ∧ Lead b l) ⟨p, l, _, _, rfl, hL⟩ ?_ ?_⟩
            · rintro d hd env nx2 ⟨p, l, e8, e9, rfl, hL⟩ hn2
              obtain ⟨i, hi, rfl⟩ := List.mem_map.mp hd
              have hi := List.mem_range.mp hi
              rw [List.length_map] at hi
              have hi : i < rs.length := by omega
              obtain ⟨v, hv, hvm⟩ : ∃ v, atI (rs.map D.int) ((i : Int) - 1) = some (.int v) ∧ v ∈ rs := atI_prev hi
              refine ⟨_, rfl, ?_⟩
              refine ixD_lst hv ?_
              refine ⟨rfl, ?_⟩
              refine ixD_lst (atI_nat (show (rs.map D.int)[i]? = some (.int rs[i]) by rw [List.getElem?_map, List.getElem?_eq_getElem hi]; rfl)) ?_
              refine ⟨?_, ?_⟩
              · have := hL.len (by omega)
                exact sz_lt (by unfold kvD; rw [List.length_map]; omega)
              · have h1 := hrs _ (List.getElem_mem hi)
                have h2 := hrs _ hvm
                exact hn2 _ ⟨p, put l rs[i] v, _, _, by rw [putD_kv]; rfl, hL.put h1.1 h1.2 h2.1 h2.2⟩
            · rintro env ⟨p, l, e8, e9, rfl, hL⟩
              exact hn _ ⟨p, l, o, _, _, _, _, _, _, rfl, hL, o0, o1⟩
          · exact absurd hrl hr
        refine dr (by decide) (by decide) fun y y0 y1 => ?_
        refine eqE_int (ite2 (fun _ => fun p => rest p [] (.nil b)) (fun _ => rest p l hL))
    · exact fin _ ⟨p, l, o, _, _, _, _, _, _, rfl, hL, o0, o1⟩
end L3
/-! P1b: comparing, asking for leads -/
namespace L3
open PySem PySem.Spec PyProof.Rows L2
theorem ifn {c : Prop} [Decidable c] {A B : Prop} (h : ¬c) (k : B) : if c then A else B := by rw [if_neg h]; exact k
theorem ifp {c : Prop} [Decidable c] {A B : Prop} (h : c) (k : A) : if c then A else B := by rw [if_pos h]; exact k
/-! ### _law_same: of one and the same -/
inductive Ds : Nat → D → Prop
  | non (n) : Ds n .non
  | bl (n b) : Ds n (.bl b)
  | int (n i) : Ds n (.int i)
  | str (n x) : PyData.strOk x = true → Ds n (.str x)
  | lst (n ds) : ds.length ≤ 100000 → (∀ d ∈ ds, Ds n d) → Ds (n + 1) (.lst ds)
  | tup (n ds) : ds.length ≤ 100000 → (∀ d ∈ ds, Ds n d) → Ds (n + 1) (.tup ds)
theorem Ds.dk {n : Nat} {d : D} (h : Ds n d) : Dk n d := by
  induction h with
  | non n => exact .non _
  | bl n b => exact .bl _ b
  | int n i => exact .int _ i
  | str n x h => exact .str _ x h
  | lst n ds _ h ih => exact .lst _ _ ih
  | tup n ds _ h ih => exact .tup _ _ ih
def sp__law_same (m : Nat) : Spec := fun _ ds Kd _ => m ≤ 20 ∧ ∃ d j, j + 1 = m ∧ ds = [d, d] ∧ Ds j d ∧ Kd (.bl true)
abbrev N__law_same : List Str := ["_law_found", "_law_due", "_law_k"]
abbrev ps__law_same : List Str := ["_law_found", "_law_due"]
def m__law_same (m : Nat) (sa : Option Addr) : MSt :=
  (mSeq (mIfS (mB (mIsI2 "tuple" "list" (mVar 1))) (mSeq (mIfS (mOr (mNot (mB (mIsI2 "tuple" "list" (mVar 0)))) (mB (m2 (eqE true) (mIsI "list" (mVar 0)) (mIsI "list" (mVar 1))))) (mRet (mC (.bl false))) mNext)
    (mSeq (mIfS (mB (m2 (eqE true) (mCall lenD (aCons (mVar 0) aNil)) (mCall lenD (aCons (mVar 1) aNil)))) (mRet (mC (.bl false))) mNext)
    (mRet (m2 (eqE false) (mLc (.nm 2) [2] (mRange (aCons (mCall lenD (aCons (mVar 1) aNil)) aNil)) (mNot (mB (mCallU sa (sp__law_same m) (aCons (m2 ixD (mVar 0) (mVar 2)) (aCons (m2 ixD (mVar 1) (mVar 2)) aNil))))) (mVar 2)) (mLst aNil))))) mNext)
  (mSeq (mIfS (mB (m2 (isND false) (mVar 1) (mC .non))) (mRet (m2 (isND false) (mVar 0) (mC .non))) mNext)
  (mSeq (mIfS (mB (mIsI "str" (mVar 1))) (mRet (mAndV (mIsI "str" (mVar 0)) (m2 (eqE false) (mVar 0) (mVar 1)))) mNext)
  (mSeq (mIfS (mOr (mB (mIsI "bool" (mVar 1))) (mB (mIsI "bool" (mVar 0)))) (mRet (mAndV (mIsI "bool" (mVar 1)) (mAndV (mIsI "bool" (mVar 0)) (m2 (eqE false) (mVar 0) (mVar 1))))) mNext)
  (mRet (mAndV (mIsI "int" (mVar 0)) (m2 (eqE false) (mVar 0) (mVar 1))))))))
theorem ty_lst_t (xs : List D) : isTy "tuple" (.lst xs) = some false := by rfl
theorem ty_lst_l (xs : List D) : isTy "list" (.lst xs) = some true := by rfl
theorem ty_tup_t (xs : List D) : isTy "tuple" (.tup xs) = some true := by rfl
theorem ty_tup_l (xs : List D) : isTy "list" (.tup xs) = some false := by rfl
theorem same_seq (m : Nat) (sa : Option Addr) (d : D) (xs : List D) (Kd : D → Prop) (KX : Exn → Prop) (ix : ∀ (i : Int) (e : D) (K : D → Prop), atI xs i = some e → K e → ixD d (.int i) K) (hn : xs.length ≤ 100000) (hm : m ≤ 20) (h : ∀ e ∈ xs, ∃ j, j + 1 = m ∧ Ds j e) (k : Kd (.bl true)) :
    lcD (.nm 2) (mNot (mB (mCallU sa (sp__law_same m) (aCons (m2 ixD (mVar 0) (mVar 2)) (aCons (m2 ixD (mVar 1) (mVar 2)) aNil))))) (mVar 2) [some d, some d, none] ((List.range xs.length).map fun i => D.int (i : Nat)) (fun r => ([] : List D).length ≤ sizeLine ∧ eqE false (.lst r) (.lst []) Kd) := by
  refine lcD_fm (fun _ => none) (fun e he K hK => ?_) ?_
  · obtain ⟨i, hi, rfl⟩ := List.mem_map.mp he
    have hi := List.mem_range.mp hi
    refine ⟨_, rfl, ?_⟩
    have hat : atI xs (i : Int) = some xs[i] := atI_nat (List.getElem?_eq_getElem hi)
    refine ix _ _ _ hat ?_
    refine ix _ _ _ hat ?_
    obtain ⟨j, hj, hd⟩ := h _ (List.getElem_mem hi)
    exact ⟨hm, _, j, hj, rfl, hd, hK⟩
  · have e : (((List.range xs.length).map fun i : Nat => D.int (i : Int)).filterMap fun _ => (none : Option D)) = [] := by
      induction ((List.range xs.length).map fun i : Nat => D.int (i : Int)) with
      | nil => rfl
      | cons a l ih => rw [List.filterMap_cons]; exact ih
    rw [e]
    exact ⟨Nat.zero_le _, eqE_nil (n := 1) (.lst _ _ (by simp)) (by decide) k⟩
theorem pu__law_same (m : Nat) (sa : Option Addr) (ds : List D) (Kd : D → Prop) (KX : Exn → Prop) (hl : ds.length = 2) (h : sp__law_same (m + 1) sa ds Kd KX) : m__law_same m sa (startS N__law_same.length ds) { nx := fun _ => false = false ∧ Kd .non, rt := Kd, ex := KX } := by
  obtain ⟨hm, d, j, hj, rfl, hd, k⟩ := h
  have ej : j = m := by omega
  subst ej
  cases hd with
  | non _ =>
    refine isi2D_go (b := false) (c := false) rfl rfl ?_
    exact ⟨rfl, ⟨rfl, k⟩⟩
  | bl _ b =>
    refine isi2D_go (b := false) (c := false) rfl rfl ?_
    refine ⟨rfl, isiD_go (b := false) rfl ?_⟩
    refine isiD_go (b := true) rfl ?_
    refine isiD_go (b := true) rfl ?_
    refine isiD_go (b := true) rfl ?_
    refine eqE_refl (n := 0) (.bl _ _) (by decide) k
  | int _ i =>
    refine isi2D_go (b := false) (c := false) rfl rfl ?_
    refine ⟨rfl, isiD_go (b := false) rfl ?_⟩
    refine isiD_go (b := false) rfl ?_
    refine isiD_go (b := false) rfl ?_
    refine isiD_go (b := true) rfl ?_
    refine eqE_refl (n := 0) (.int _ _) (by decide) k
  | str _ x hx =>
    refine isi2D_go (b := false) (c := false) rfl rfl ?_
    refine ⟨rfl, isiD_go (b := true) rfl ?_⟩
    refine isiD_go (b := true) rfl ?_
    refine eqE_refl (n := 0) (.str _ _ hx) (by decide) k
  | lst n xs hn hx =>
    refine isi2D_go (ty_lst_t _) (ty_lst_l _) ?_
    refine isi2D_go (ty_lst_t _) (ty_lst_l _) ?_
    refine isiD_go (ty_lst_l _) (isiD_go (ty_lst_l _) ?_)
    refine eqE_refl (n := 0) (.bl _ _) (by decide) ?_
    refine eqE_refl (n := 0) (.int _ _) (by decide) ?_
    refine ⟨by omega, by omega, by rw [List.length_map, List.length_range]; omega, ?_⟩
    exact same_seq _ sa (.lst xs) xs Kd KX (fun _ _ _ => ixD_lst) hn (by omega) (fun e he => ⟨n, rfl, hx e he⟩) k
  | tup n xs hn hx =>
    refine isi2D_go (ty_tup_t _) (ty_tup_l _) ?_
    refine isi2D_go (ty_tup_t _) (ty_tup_l _) ?_
    refine isiD_go (ty_tup_l _) (isiD_go (ty_tup_l _) ?_)
    refine eqE_refl (n := 0) (.bl _ _) (by decide) ?_
    refine eqE_refl (n := 0) (.int _ _) (by decide) ?_
    refine ⟨by omega, by omega, by rw [List.length_map, List.length_range]; omega, ?_⟩
    exact same_seq _ sa (.tup xs) xs Kd KX (fun _ _ _ => ixD_tup) hn (by omega) (fun e he => ⟨n, rfl, hx e he⟩) k
/-! ### _law_known, real_pairs -/
def kn (l : List (Int × Int)) : List (Int × Int) := l.filter fun p => !decide (p.1 = p.2)
theorem pairsOf_pD : ∀ l : List (Int × Int), pairsOf (l.map pD) = some (kvD l)
  | [] => rfl
  | p :: l => by
    show (pairsOf (l.map pD)).map _ = _
    rw [pairsOf_pD l]
    rfl
theorem merge_kv (l more : List (Int × Int)) (h : ((l ++ more).map (·.1)).Nodup) : mergeD (kvD l) (kvD more) = kvD (l ++ more) := by
  induction more generalizing l with
  | nil => rw [List.append_nil]; rfl
  | cons p more ih =>
    show mergeD (putD (kvD l) p.1 (.int p.2)) (kvD more) = _
    have e : put l p.1 p.2 = l ++ [p] := by
      unfold put
      rw [if_neg]
      intro c
      obtain ⟨q, hq, e⟩ := List.any_eq_true.mp c
      have e := of_decide_eq_true e
      rw [List.map_append, List.nodup_append] at h
      exact h.2.2 q.1 (List.mem_map.mpr ⟨q, hq, rfl⟩) p.1 (by simp) e
    rw [putD_kv, e, ih (l ++ [p]) (by rw [List.append_assoc]; exact h), List.append_assoc]
    rfl
theorem dict_lead {l : List (Int × Int)} {K : D → Prop} (h : (l.map (·.1)).Nodup) (k : K (.dic (kvD l))) : dictD [leadD l] K := by
  unfold dictD
  show (match pairsOf (l.map pD) with | some kvs => K (.dic (mergeD [] kvs)) | none => False)
  rw [pairsOf_pD]
  have e := merge_kv [] l h
  rw [List.nil_append] at e
  show K (.dic (mergeD (kvD []) (kvD l)))
  rw [e]
  exact k
theorem Lead.kn {b : Int} {l : List (Int × Int)} (h : Lead b l) : Lead b (kn l) := ⟨(List.filter_sublist.map _).nodup h.nd, fun p hp => h.bd p (List.mem_filter.mp hp).1⟩
theorem fm_kn (l : List (Int × Int)) : (l.filterMap fun p => if p.1 = p.2 then none else some p) = kn l := by
  induction l with
  | nil => rfl
  | cons p l ih =>
    unfold kn at ih ⊢
    rw [List.filterMap_cons, List.filter_cons]
    by_cases c : p.1 = p.2
    · simp only [c, if_true, decide_true, Bool.not_true, Bool.false_eq_true, if_false]
      exact ih
    · simp only [c, if_false, decide_false, Bool.not_false, if_true]
      rw [ih]
def sp__law_known : Spec := fun _ ds Kd _ => ∃ b l, ds = [leadD l] ∧ Lead b l ∧ 0 ≤ b ∧ b ≤ 10 ∧ Kd (.dic (kvD (kn l)))
abbrev N__law_known : List Str := ["_law_lead_here", "_law_pair"]
abbrev ps__law_known : List Str := ["_law_lead_here"]
def m__law_known (sa : Option Addr) : MSt :=
  (mRet (mCall dictD (aCons (mLc (.nm 1) [1] (mIter (mVar 0)) (mB (m2 (eqE true) (m2 ixD (mVar 1) (mC (.int 0))) (m2 ixD (mVar 1) (mC (.int 1))))) (mVar 1)) aNil)))
theorem pu__law_known (sa : Option Addr) (ds : List D) (Kd : D → Prop) (KX : Exn → Prop) (hl : ds.length = 1) (h : sp__law_known sa ds Kd KX) : m__law_known sa (startS N__law_known.length ds) { nx := fun _ => false = false ∧ Kd .non, rt := Kd, ex := KX } := by
  obtain ⟨b, l, rfl, hL, b0, b1, k⟩ := h
  have hlen := hL.len b0
  refine ⟨by rw [List.length_map]; omega, lcD_fm (fun d => match d with | .tup [.int g, .int s] => if g = s then none else some (pD (g, s)) | _ => none) (fun d hd K hK => ?_) ?_⟩
  · obtain ⟨p, hp, rfl⟩ := List.mem_map.mp hd
    refine ⟨_, rfl, ixD_tup (d := .int p.1) rfl (ixD_tup (d := .int p.2) rfl (eqE_int ?_))⟩
    have hK : K (if p.1 = p.2 then none else some (pD (p.1, p.2))) := hK
    by_cases c : p.1 = p.2
    · rw [if_pos c] at hK
      rw [decide_eq_true c]
      exact hK
    · rw [if_neg c] at hK
      rw [decide_eq_false c]
      exact hK
  · rw [fm_map pD _ (fun p => if p.1 = p.2 then none else some p) pD l (fun p _ => by show (if p.1 = p.2 then none else some (pD (p.1, p.2))) = _; split <;> rfl), fm_kn]
    exact dict_lead hL.kn.nd k
def sp_real_pairs : Spec := fun _ ds Kd _ => ∃ b l, ds = [leadD l] ∧ Lead b l ∧ 0 ≤ b ∧ b ≤ 10 ∧ Kd (.dic (kvD (kn l)))
abbrev N_real_pairs : List Str := ["lead", "goal", "source"]
abbrev ps_real_pairs : List Str := ["lead"]
def m_real_pairs (sa : Option Addr) : MSt :=
  (mRet (mCall dictD (aCons (mLc (.tp [1, 2]) [1, 2] (mIter (mVar 0)) (mB (m2 (eqE true) (mVar 1) (mVar 2))) (mTup (aCons (mVar 1) (aCons (mVar 2) aNil)))) aNil)))
theorem pu_real_pairs (sa : Option Addr) (ds : List D) (Kd : D → Prop) (KX : Exn → Prop) (hl : ds.length = 1) (h : sp_real_pairs sa ds Kd KX) : m_real_pairs sa (startS N_real_pairs.length ds) { nx := fun _ => false = false ∧ Kd .non, rt := Kd, ex := KX } := by
  obtain ⟨b, l, rfl, hL, b0, b1, k⟩ := h
  have hlen := hL.len b0
  refine ⟨by rw [List.length_map]; omega, lcD_fm (fun d => match d with | .tup [.int g, .int s] => if g = s then none else some (pD (g, s)) | _ => none) (fun d hd K hK => ?_) ?_⟩
  · obtain ⟨p, hp, rfl⟩ := List.mem_map.mp hd
    refine ⟨_, rfl, eqE_int ?_⟩
    have hK : K (if p.1 = p.2 then none else some (pD (p.1, p.2))) := hK
    by_cases c : p.1 = p.2
    · rw [if_pos c] at hK
      rw [decide_eq_true c]
      exact hK
    · rw [if_neg c] at hK
      rw [decide_eq_false c]
      exact ⟨z2, hK⟩
  · rw [fm_map pD _ (fun p => if p.1 = p.2 then none else some p) pD l (fun p _ => by show (if p.1 = p.2 then none else some (pD (p.1, p.2))) = _; split <;> rfl), fm_kn]
    exact dict_lead hL.kn.nd k
/-! ### is_box, need_boxes, need_lead -/
def sp_is_box : Spec := fun _ ds Kd _ => ∃ b x : Int, ds = [.int b, .int x] ∧ Kd (.bl (decide (0 ≤ x) && decide (x < b)))
abbrev N_is_box : List Str := ["boxes", "box"]
abbrev ps_is_box : List Str := ["boxes", "box"]
def m_is_box (sa : Option Addr) : MSt :=
  (mRet (m3 (ordD pLe) (ordD pLt) (mC (.int 0)) (mVar 1) (mVar 0)))
theorem pu_is_box (sa : Option Addr) (ds : List D) (Kd : D → Prop) (KX : Exn → Prop) (hl : ds.length = 2) (h : sp_is_box sa ds Kd KX) : m_is_box sa (startS N_is_box.length ds) { nx := fun _ => false = false ∧ Kd .non, rt := Kd, ex := KX } := by
  obtain ⟨b, x, rfl, k⟩ := h
  refine ite2 (fun c => ?_) (fun c => ?_)
  · rw [show decide (0 ≤ x) = true from c, Bool.true_and] at k
    exact k
  · rw [show decide (0 ≤ x) = false from Bool.eq_false_iff.mpr c, Bool.false_and] at k
    exact k
def sp_need_boxes : Spec := fun _ ds Kd _ => ∃ b : Int, ds = [.int b] ∧ 1 ≤ b ∧ b ≤ 10 ∧ Kd .non
abbrev N_need_boxes : List Str := ["boxes"]
abbrev ps_need_boxes : List Str := ["boxes"]
def m_need_boxes (sa : Option Addr) : MSt :=
  (mIfS (mNot (mB (m3 (ordD pLe) (ordD pLe) (mC (.int 1)) (mVar 0) (mC (.int 10))))) mNever mNext)
theorem pu_need_boxes (sa : Option Addr) (ds : List D) (Kd : D → Prop) (KX : Exn → Prop) (hl : ds.length = 1) (h : sp_need_boxes sa ds Kd KX) : m_need_boxes sa (startS N_need_boxes.length ds) { nx := fun _ => false = false ∧ Kd .non, rt := Kd, ex := KX } := by
  obtain ⟨b, rfl, b0, b1, k⟩ := h
  refine ite2 (fun _ => ?_) (fun c => absurd (decide_eq_true b0) c)
  refine ifn (by rw [show pLe b 10 = true from decide_eq_true b1]; decide) ?_
  exact ⟨rfl, k⟩
def sp_need_lead : Spec := fun _ ds Kd _ => ∃ b l, ds = [.int b, leadD l] ∧ Lead b l ∧ 1 ≤ b ∧ b ≤ 10 ∧ Kd .non
abbrev N_need_lead : List Str := ["boxes", "lead", "goals", "goal", "source", "pair"]
abbrev ps_need_lead : List Str := ["boxes", "lead"]
def m_need_lead (sa : Option Addr) : MSt :=
  (mSeq (mExpr (mCallU sa sp_need_boxes (aCons (mVar 0) aNil)))
  (mSeq (mSet 2 (mLc (.tp [3, 4]) [3, 4] (mIter (mVar 1)) tYesM (mVar 3)))
  (mSeq (mIfS (mB (m2 (eqE true) (mLenSet (mVar 2)) (mCall lenD (aCons (mVar 2) aNil)))) mNever mNext)
  (mIfS (mB (m2 (eqE true) (mLc (.nm 5) [5] (mIter (mVar 1)) (mOr (mNot (mB (mCallU sa sp_is_box (aCons (mVar 0) (aCons (m2 ixD (mVar 5) (mC (.int 0))) aNil))))) (mNot (mB (mCallU sa sp_is_box (aCons (mVar 0) (aCons (m2 ixD (mVar 5) (mC (.int 1))) aNil)))))) (mVar 5)) (mLst aNil))) mNever mNext))))
theorem fm_none {α β : Type} (l : List α) (g : α → Option β) (h : ∀ a ∈ l, g a = none) : l.filterMap g = [] := by
  induction l with
  | nil => rfl
  | cons a l ih => rw [List.filterMap_cons, h a List.mem_cons_self]; exact ih fun b hb => h b (List.mem_cons_of_mem _ hb)
theorem pu_need_lead (sa : Option Addr) (ds : List D) (Kd : D → Prop) (KX : Exn → Prop) (hl : ds.length = 2) (h : sp_need_lead sa ds Kd KX) : m_need_lead sa (startS N_need_lead.length ds) { nx := fun _ => false = false ∧ Kd .non, rt := Kd, ex := KX } := by
  obtain ⟨b, l, rfl, hL, b0, b1, k⟩ := h
  have hlen := hL.len (by omega)
  refine ⟨b, rfl, b0, b1, by rw [List.length_map]; omega, lcD_fm (fun d => match d with | .tup [.int g, .int s] => some (.int g) | _ => none) (fun d hd K hK => ?_) ?_⟩
  · obtain ⟨p, hp, rfl⟩ := List.mem_map.mp hd
    exact ⟨_, rfl, hK⟩
  · rw [fm_map pD _ (fun p => some p.1) D.int l (fun p _ => rfl), List.filterMap_eq_map']
    show (match intsOf ((l.map (·.1)).map D.int) with | some ns => _ | none => False)
    rw [intsOf_ints]
    refine ⟨by rw [List.length_map]; omega, ?_⟩
    rw [dlen_nodup hL.nd]
    refine eqE_int (i := ((l.map (·.1)).length : Nat)) (j := (((l.map (·.1)).map D.int).length : Nat)) ?_
    rw [List.length_map (f := D.int), decide_eq_true rfl]
    refine ⟨by rw [List.length_map]; omega, lcD_fm (fun d => none) (fun d hd K hK => ?_) ?_⟩
    · obtain ⟨p, hp, rfl⟩ := List.mem_map.mp hd
      have hb := hL.bd p hp
      refine ⟨_, rfl, ixD_tup (d := .int p.1) rfl ⟨b, p.1, rfl, ?_⟩⟩
      rw [decide_eq_true hb.1, decide_eq_true hb.2.1]
      refine ixD_tup (d := .int p.2) rfl ⟨b, p.2, rfl, ?_⟩
      rw [decide_eq_true hb.2.2.1, decide_eq_true hb.2.2.2]
      exact hK
    · rw [fm_none _ _ (fun _ _ => rfl)]
      exact ⟨Nat.zero_le _, eqE_nil (n := 1) (.lst _ _ (by simp)) (by decide) ⟨rfl, k⟩⟩
end L3
/-! M2: rings of a map, in plain Lean -/
namespace L3
open PySem PySem.Spec PyProof.Rows L2
open Classical
/-- a known: goals once each, all below 10, none its own source -/
structure Kn (l : List (Int × Int)) : Prop where
  L : Lead 10 l
  nf : ∀ p ∈ l, p.1 ≠ p.2
theorem Kn.of {b : Int} {l : List (Int × Int)} (h : Lead b l) (hb : b ≤ 10) : Kn (kn l) := ⟨⟨h.kn.nd, fun p hp => by have := h.kn.bd p hp; omega⟩, fun p hp => by
  have := (List.mem_filter.mp hp).2
  simpa using this⟩
theorem Kn.look {l : List (Int × Int)} (h : Kn l) {x y : Int} (e : look l x = some y) : 0 ≤ x ∧ x < 10 ∧ 0 ≤ y ∧ y < 10 ∧ x ≠ y := by
  have hm := look_mem e
  have := h.L.bd _ hm
  exact ⟨this.1, this.2.1, this.2.2.1, this.2.2.2, h.nf _ hm⟩
/-- from x by t to h -/
def Wo (l : List (Int × Int)) : Int → List Int → Option Int → Prop
  | x, [], h => look l x = h
  | x, z :: r, h => look l x = some z ∧ Wo l z r h
theorem Wo.snoc {l : List (Int × Int)} {z : Int} : ∀ {t : List Int} {x : Int}, Wo l x t (some z) → Wo l x (t ++ [z]) (look l z)
  | [], x, h => ⟨h, rfl⟩
  | y :: t, x, h => ⟨h.1, Wo.snoc h.2⟩
theorem Wo.mem {l : List (Int × Int)} (K : Kn l) : ∀ {t : List Int} {x : Int} {h : Option Int}, Wo l x t h → (∀ y ∈ t, 0 ≤ y ∧ y < 10) ∧ ∀ y, h = some y → 0 ≤ y ∧ y < 10
  | [], x, h, w => ⟨by simp, fun y e => by
    rw [← w] at e
    have := K.look e
    exact ⟨this.2.2.1, this.2.2.2.1⟩⟩
  | z :: t, x, h, w => by
    have ih := Wo.mem K w.2
    have := K.look w.1
    exact ⟨fun y hy => by
      rcases List.mem_cons.mp hy with e | e
      · rw [e]; exact ⟨this.2.2.1, this.2.2.2.1⟩
      · exact ih.1 y e, ih.2⟩
theorem Wo.cmp {l : List (Int × Int)} {b : Int} {h : Option Int} : ∀ {t : List Int} {x : Int} {q : List Int}, Wo l x t h → Wo l x q (some b) → b ∉ t → (t = q ∧ h = some b) ∨ ∃ z r, q = t ++ z :: r ∧ h = some z
  | [], x, [], w, w', _ => .inl ⟨rfl, by
    have w : look l x = h := w
    rw [← w]
    exact w'⟩
  | [], x, z :: r, w, w', _ => .inr ⟨z, r, rfl, by
    have w : look l x = h := w
    rw [← w]
    exact w'.1⟩
  | y :: t, x, [], w, w', hb => by
    have w' : look l x = some b := w'
    have e := w.1
    rw [w'] at e
    cases e
    exact absurd List.mem_cons_self hb
  | y :: t, x, z :: r, w, w', hb => by
    have e := w.1
    rw [w'.1] at e
    cases e
    rcases Wo.cmp w.2 w'.2 (fun hm => hb (List.mem_cons_of_mem _ hm)) with ⟨e1, e2⟩ | ⟨z', r', e1, e2⟩
    · exact .inl ⟨by rw [e1], e2⟩
    · exact .inr ⟨z', r', by rw [e1]; rfl, e2⟩
/-- b leads by q to itself, all of q above b -/
structure Cyc (l : List (Int × Int)) (b : Int) (q : List Int) : Prop where
  ne : q ≠ []
  gt : ∀ x ∈ q, b < x
  nd : q.Nodup
  w : Wo l b q (some b)
theorem Cyc.notin {l : List (Int × Int)} {b : Int} {q : List Int} (c : Cyc l b q) : b ∉ q := fun h => by
  have := c.gt b h
  omega
theorem Cyc.uniq {l : List (Int × Int)} {b : Int} {q q' : List Int} (c : Cyc l b q) (c' : Cyc l b q') : q = q' := by
  rcases Wo.cmp c.w c'.w c.notin with ⟨e, _⟩ | ⟨z, r, e, e2⟩
  · exact e
  · cases e2
    have := c'.notin
    rw [e] at this
    exact absurd (List.mem_append_right _ List.mem_cons_self) this
noncomputable def ringOf (l : List (Int × Int)) (b : Int) : Option (List Int) := if h : ∃ q, Cyc l b q then some (b :: (choose h).reverse) else none
theorem ringOf_some {l : List (Int × Int)} {b : Int} {q : List Int} (c : Cyc l b q) : ringOf l b = some (b :: q.reverse) := by
  unfold ringOf
  have h : ∃ q, Cyc l b q := ⟨q, c⟩
  rw [dif_pos h, (choose_spec h).uniq c]
theorem ringOf_none {l : List (Int × Int)} {b : Int} (c : ¬∃ q, Cyc l b q) : ringOf l b = none := by
  unfold ringOf
  rw [dif_neg c]
theorem ringOf_len {l : List (Int × Int)} (K : Kn l) {b : Int} {r : List Int} (h : ringOf l b = some r) : r.length ≤ 11 ∧ ∀ x ∈ r, x = b ∨ (0 ≤ x ∧ x < 10) := by
  by_cases c : ∃ q, Cyc l b q
  · obtain ⟨q, c⟩ := c
    rw [ringOf_some c] at h
    cases h
    have hm := (Wo.mem K c.w).1
    have := nodup_len (b := 10) c.nd hm
    refine ⟨by rw [List.length_cons, List.length_reverse]; omega, fun x hx => ?_⟩
    rcases List.mem_cons.mp hx with e | e
    · exact .inl e
    · exact .inr (hm x (List.mem_reverse.mp e))
  · rw [ringOf_none c] at h
    cases h
/-- what the loop of ring_from has found: the answer -/
theorem ring_answer {l : List (Int × Int)} (K : Kn l) {b : Int} {t : List Int} {h : Option Int} (w : Wo l b t h) (nd : (b :: t).Nodup) (st : ∀ y, h = some y → y ∈ b :: t) :
    ringOf l b = if h = some b ∧ minI b t = b then some (b :: t.reverse) else none := by
  rw [List.nodup_cons] at nd
  by_cases c : h = some b ∧ minI b t = b
  · rw [if_pos c]
    refine ringOf_some ⟨fun e => ?_, fun x hx => ?_, nd.2, by rw [← c.1]; exact w⟩
    · subst e
      have w : look l b = h := w
      rw [c.1] at w
      exact (K.look w).2.2.2.2 rfl
    · have h1 := (minI_le t b).2 x hx
      rw [c.2] at h1
      have h2 : x ≠ b := fun e => nd.1 (by rw [← e]; exact hx)
      omega
  · rw [if_neg c]
    refine ringOf_none fun ⟨q, cy⟩ => ?_
    rcases Wo.cmp w cy.w nd.1 with ⟨e1, e2⟩ | ⟨z, r, e1, e2⟩
    · subst e1
      refine c ⟨e2, ?_⟩
      have h1 := minI_mem t b
      have h2 := (minI_le t b).1
      rcases List.mem_cons.mp h1 with e | e
      · exact e
      · have := cy.gt _ e
        omega
    · have hz := st z e2
      have hq : z ∈ q := by rw [e1]; exact List.mem_append_right _ List.mem_cons_self
      have hb : z ≠ b := fun e => cy.notin (by rw [← e]; exact hq)
      rcases List.mem_cons.mp hz with e | e
      · exact hb e
      · have := cy.nd
        rw [e1, List.nodup_append] at this
        exact this.2.2 z e z List.mem_cons_self rfl
/-! ### from the other end -/
/-- u = last :: .. :: b, each the source's goal: look u[i] = u[i+1] -/
def Ch (l : List (Int × Int)) : List Int → Prop
  | [] => False
  | [_] => True
  | x :: y :: r => look l x = some y ∧ Ch l (y :: r)
structure Pth (l : List (Int × Int)) (b : Int) (u : List Int) : Prop where
  ex : ∃ v, u = v ++ [b] ∧ ∀ x ∈ v, b < x
  nd : u.Nodup
  ch : Ch l u
theorem Wo.ch {l : List (Int × Int)} {b : Int} : ∀ {q : List Int} {x : Int}, Wo l x q (some b) → Ch l (x :: q ++ [b])
  | [], x, w => ⟨w, trivial⟩
  | z :: r, x, w => ⟨w.1, Wo.ch w.2⟩
theorem Ch.wo {l : List (Int × Int)} {b : Int} : ∀ {q : List Int} {x : Int}, Ch l (x :: q ++ [b]) → Wo l x q (some b)
  | [], x, w => w.1
  | z :: r, x, w => ⟨w.1, Ch.wo w.2⟩
theorem Ch.suf {l : List (Int × Int)} {x y : Int} {r : List Int} : ∀ {v : List Int}, Ch l (v ++ x :: y :: r) → look l x = some y
  | [], h => h.1
  | [a], h => Ch.suf (v := []) h.2
  | a :: c :: v, h => Ch.suf (v := c :: v) h.2
def cq (l : List (Int × Int)) (b : Int) (u : List Int) : Prop := ∃ q, Cyc l b q ∧ ∃ v, q ++ [b] = v ++ u
theorem cq_ring {l : List (Int × Int)} {b : Int} {u : List Int} (h : cq l b u) : ∃ r, ringOf l b = some r := by
  obtain ⟨q, c, _⟩ := h
  exact ⟨_, ringOf_some c⟩
theorem cq_drop {l : List (Int × Int)} {b g : Int} {u : List Int} (h : cq l b (g :: u)) : cq l b u := by
  obtain ⟨q, c, v, e⟩ := h
  exact ⟨q, c, v ++ [g], by rw [e, List.append_assoc]; rfl⟩
/-- the path closes -/
theorem cq_shut {l : List (Int × Int)} {b x : Int} {r : List Int} (p : Pth l b (x :: r)) (hr : r ≠ []) (hl : look l b = some x) : ∃ q, Cyc l b q ∧ q ++ [b] = x :: r := by
  obtain ⟨v, e, hv⟩ := p.ex
  cases v with
  | nil =>
    cases e
    exact absurd rfl hr
  | cons y v =>
    cases e
    refine ⟨x :: v, ⟨by simp, hv, ?_, hl, ?_⟩, rfl⟩
    · have := p.nd
      have this : ((x :: v) ++ [b]).Nodup := this
      rw [List.nodup_append] at this
      exact this.1
    · exact Ch.wo p.ch
theorem shut_cq {l : List (Int × Int)} {b x : Int} {r q : List Int} (c : Cyc l b q) (e : q ++ [b] = x :: r) : r ≠ [] ∧ look l b = some x := by
  cases q with
  | nil => exact absurd rfl c.ne
  | cons y q =>
    cases e
    exact ⟨by simp, c.w.1⟩
/-- the next one back -/
theorem cq_next {l : List (Int × Int)} {b x g : Int} {r q v : List Int} (c : Cyc l b q) (e : q ++ [b] = v ++ g :: x :: r) : look l g = some x ∧ b < g ∧ g ∉ x :: r ∧ g ∈ l.map (·.1) := by
  have hch : Ch l (b :: q ++ [b]) := Wo.ch c.w
  have e2 : b :: q ++ [b] = (b :: v) ++ g :: x :: r := by rw [List.cons_append, e]; rfl
  rw [e2] at hch
  have h1 := Ch.suf hch
  -- g in q
  obtain ⟨s, hs⟩ : ∃ s, x :: r = s ++ [b] := by
    have : (x :: r).getLast? = some b := by
      have h := congrArg List.getLast? e
      rw [List.getLast?_append, List.getLast?_append] at h
      simpa using h.symm
    exact ⟨(x :: r).dropLast, by
      have h2 := List.dropLast_concat_getLast (List.cons_ne_nil x r)
      rw [List.getLast?_eq_getLast (List.cons_ne_nil x r)] at this
      rw [Option.some.inj this] at h2
      exact h2.symm⟩
  have eq : q = v ++ g :: s := by
    rw [hs] at e
    have : q ++ [b] = (v ++ g :: s) ++ [b] := by rw [e, List.append_assoc]; rfl
    exact List.append_cancel_right this
  have hg : g ∈ q := by rw [eq]; exact List.mem_append_right _ List.mem_cons_self
  refine ⟨h1, c.gt g hg, fun hm => ?_, List.mem_map.mpr ⟨_, look_mem h1, rfl⟩⟩
  rw [hs] at hm
  have hgb := c.gt g hg
  rcases List.mem_append.mp hm with h | h
  · have nd := c.nd
    rw [eq, List.nodup_append] at nd
    exact (List.nodup_cons.mp nd.2.1).1 h
  · rw [List.mem_singleton] at h
    omega
theorem cq_same {l : List (Int × Int)} {b g g' : Int} {u : List Int} (h : cq l b (g :: u)) (h' : cq l b (g' :: u)) : g = g' := by
  obtain ⟨q, c, v, e⟩ := h
  obtain ⟨q', c', v', e'⟩ := h'
  have := c.uniq c'
  subst this
  have e2 : (v ++ [g]) ++ u = (v' ++ [g']) ++ u := by
    rw [List.append_assoc, List.append_assoc]
    exact e.symm.trans e'
  have e3 := List.append_cancel_right e2
  have := congrArg List.getLast? e3
  simpa using this
theorem cq_not_both {l : List (Int × Int)} {b g : Int} {u q : List Int} (c : Cyc l b q) (e : q ++ [b] = u) (h : cq l b (g :: u)) : False := by
  obtain ⟨q', c', v, e'⟩ := h
  have := c.uniq c'
  subst this
  rw [e] at e'
  have := congrArg List.length e'
  rw [List.length_append, List.length_cons] at this
  omega
/-- the rings that go on from u -/
noncomputable def res (l : List (Int × Int)) (b : Int) (u : List Int) : List (List Int) := if cq l b u then (ringOf l b).toList else []
theorem res_of {l : List (Int × Int)} {b : Int} {q u : List Int} (c : Cyc l b q) (v : List Int) (e : q ++ [b] = v ++ u) : res l b u = [b :: q.reverse] := by
  unfold res
  rw [if_pos ⟨q, c, v, e⟩, ringOf_some c]
  rfl
theorem res_len {l : List (Int × Int)} {b : Int} {u : List Int} : (res l b u).length ≤ 1 := by
  unfold res
  split
  · cases ringOf l b <;> simp
  · simp
def okg (l : List (Int × Int)) (b x : Int) (u : List Int) (g : Int) : Prop := look l g = some x ∧ b < g ∧ g ∉ u
noncomputable def part2 (l : List (Int × Int)) (b x : Int) (r : List Int) (g : Int) : List (List Int) := if okg l b x (x :: r) g then res l b (g :: x :: r) else []
theorem flat_none {α β : Type} {ks : List α} {f : α → List β} (h : ∀ k ∈ ks, f k = []) : ks.flatMap f = [] := by
  induction ks with
  | nil => rfl
  | cons k ks ih => rw [List.flatMap_cons, h k List.mem_cons_self, ih fun j hj => h j (List.mem_cons_of_mem _ hj)]; rfl
theorem flat_one {α β : Type} [DecidableEq α] {ks : List α} {f : α → List β} {k0 : α} (nd : ks.Nodup) (h0 : k0 ∈ ks) (h : ∀ k ∈ ks, k ≠ k0 → f k = []) : ks.flatMap f = f k0 := by
  induction ks with
  | nil => cases h0
  | cons k ks ih =>
    rw [List.nodup_cons] at nd
    rw [List.flatMap_cons]
    rcases List.mem_cons.mp h0 with e | e
    · subst e
      rw [flat_none fun j hj => h j (List.mem_cons_of_mem _ hj) fun e => nd.1 (by rw [← e]; exact hj), List.append_nil]
    · rw [h k List.mem_cons_self (fun e2 => nd.1 (by rw [e2]; exact e)), ih nd.2 e fun j hj => h j (List.mem_cons_of_mem _ hj)]
      rfl
/-- one turn of _law_grown -/
theorem grown_step {l : List (Int × Int)} (K : Kn l) {b x : Int} {r : List Int} (p : Pth l b (x :: r)) {ks : List Int} (kp : ks.Perm (l.map (·.1))) :
    (if r ≠ [] ∧ look l b = some x then [(x :: r).reverse] else []) ++ ks.flatMap (part2 l b x r) = res l b (x :: r) := by
  have knd : ks.Nodup := kp.nodup_iff.mpr K.L.nd
  by_cases c1 : r ≠ [] ∧ look l b = some x
  · obtain ⟨q, c, e⟩ := cq_shut p c1.1 c1.2
    rw [if_pos c1, flat_none, List.append_nil, res_of c [] (by rw [e]; rfl), ← e, List.reverse_append]
    · rfl
    · intro g _
      unfold part2
      split
      · unfold res
        rw [if_neg fun h => cq_not_both c e h]
      · rfl
  · rw [if_neg c1, List.nil_append]
    by_cases c2 : cq l b (x :: r)
    · obtain ⟨q, c, v, e⟩ := c2
      rcases List.eq_nil_or_concat v with hv | ⟨v', g, hv⟩
      · subst hv
        exact absurd (shut_cq c e) c1
      · rw [hv, List.concat_eq_append, List.append_assoc] at e
        have e : q ++ [b] = v' ++ g :: x :: r := e
        obtain ⟨h1, h2, h3, h4⟩ := cq_next c e
        have hcg : cq l b (g :: x :: r) := ⟨q, c, v', e⟩
        rw [flat_one (k0 := g) knd (kp.mem_iff.mpr h4), res_of c (v' ++ [g]) (by rw [e, List.append_assoc]; rfl)]
        · unfold part2
          rw [if_pos ⟨h1, h2, h3⟩, res_of c v' e]
        · intro k _ hk
          unfold part2
          split
          · unfold res
            rw [if_neg fun h => hk (cq_same h hcg)]
          · rfl
    · have : res l b (x :: r) = [] := by unfold res; rw [if_neg c2]
      rw [this, flat_none]
      intro g _
      unfold part2
      split
      · unfold res
        rw [if_neg fun h => c2 (cq_drop h)]
      · rfl
theorem Pth.cons {l : List (Int × Int)} {b x g : Int} {r : List Int} (p : Pth l b (x :: r)) (h : okg l b x (x :: r) g) : Pth l b (g :: x :: r) := by
  obtain ⟨v, e, hv⟩ := p.ex
  refine ⟨⟨g :: v, by rw [e]; rfl, fun y hy => ?_⟩, List.nodup_cons.mpr ⟨h.2.2, p.nd⟩, h.1, p.ch⟩
  rcases List.mem_cons.mp hy with e | e
  · rw [e]; exact h.2.1
  · exact hv y e
theorem Pth.one (l : List (Int × Int)) (b : Int) : Pth l b [b] := ⟨⟨[], rfl, by simp⟩, by simp, trivial⟩
theorem Pth.len {l : List (Int × Int)} (K : Kn l) {b : Int} (hb : 0 ≤ b ∧ b < 10) {u : List Int} (p : Pth l b u) : u.length ≤ 10 := by
  refine nodup_len (b := 10) p.nd ?_
  have h : ∀ {u : List Int}, Ch l u → (∀ y, u.getLast? = some y → 0 ≤ y ∧ y < 10) → ∀ x ∈ u, 0 ≤ x ∧ x < 10 := by
    intro u
    induction u with
    | nil => intro _ _ x hx; cases hx
    | cons a u ih =>
      intro hc hl x hx
      cases u with
      | nil =>
        rw [List.mem_singleton] at hx
        rw [hx]
        exact hl a rfl
      | cons y r =>
        rcases List.mem_cons.mp hx with e | e
        · have := K.look hc.1
          rw [e]
          exact ⟨this.1, this.2.1⟩
        · exact ih hc.2 (fun z hz => hl z (by rw [List.getLast?_cons_cons]; exact hz)) x e
  obtain ⟨v, e, _⟩ := p.ex
  exact h p.ch fun y hy => by
    rw [e, List.getLast?_append] at hy
    have hy : b = y := by simpa using hy
    rw [← hy]
    exact hb
theorem res_one {l : List (Int × Int)} {b : Int} : res l b [b] = (ringOf l b).toList := by
  by_cases c : ∃ q, Cyc l b q
  · obtain ⟨q, c⟩ := c
    rw [res_of c q rfl, ringOf_some c]
    rfl
  · unfold res
    rw [ringOf_none c]
    split <;> rfl
noncomputable def ringsL (l : List (Int × Int)) : List (List Int) := (sortI (l.map (·.1))).filterMap (ringOf l)
abbrev tupD (r : List Int) : D := .tup (r.map D.int)
/-- none leads out of the ring -/
def shutL (l : List (Int × Int)) (r : List Int) : Bool := (l.map (·.1)).all fun g => !(decide (((look l g).getD 0) ∈ r) && !decide (g ∈ r))
end L3
/-! M6: moves, trees and rings, in plain Lean -/
namespace L3
open PySem PySem.Spec PyProof.Rows L2
open Classical
inductive Mv where
  | cp (a b : Int)
  | sw (a b : Int)
def stp (F : Int → Int) : Mv → Int → Int
  | .cp a b => fun x => if x = a then F b else F x
  | .sw a b => fun x => if x = a then F b else if x = b then F a else F x
def run (ms : List Mv) (F : Int → Int) : Int → Int := ms.foldl stp F
theorem run_app (ms ns : List Mv) (F : Int → Int) : run (ms ++ ns) F = run ns (run ms F) := List.foldl_append
def src (l : List (Int × Int)) (x : Int) : Int := (look l x).getD x
/-! ### walks -/
theorem Wo.app {l : List (Int × Int)} {y : Int} {h : Option Int} {t : List Int} : ∀ {s : List Int} {x : Int}, Wo l x s (some y) → Wo l y t h → Wo l x (s ++ y :: t) h
  | [], x, w, w' => ⟨w, w'⟩
  | z :: s, x, w, w' => ⟨w.1, Wo.app w.2 w'⟩
theorem Wo.cut {l : List (Int × Int)} {y : Int} {h : Option Int} {t : List Int} : ∀ {s : List Int} {x : Int}, Wo l x (s ++ y :: t) h → Wo l x s (some y) ∧ Wo l y t h
  | [], x, w => w
  | z :: s, x, w => ⟨⟨w.1, (Wo.cut w.2).1⟩, (Wo.cut w.2).2⟩
theorem Ch.wo2 {l : List (Int × Int)} {o : Int} {c : List Int} : ∀ {a : List Int} {x : Int}, Ch l (x :: (a ++ o :: c)) → Wo l x a (some o)
  | [], x, h => h.1
  | y :: a, x, h => ⟨h.1, Ch.wo2 h.2⟩
/-- a round walk has a least box: a ring -/
theorem round_cyc {l : List (Int × Int)} {o : Int} {a : List Int} (ha : a ≠ []) (nd : (o :: a).Nodup) (w : Wo l o a (some o)) : ∃ b q, Cyc l b q ∧ b ∈ o :: a := by
  rw [List.nodup_cons] at nd
  have hm := minI_mem a o
  have hle := minI_le a o
  rcases List.mem_cons.mp hm with e | e
  · refine ⟨o, a, ⟨ha, fun x hx => ?_, nd.2, w⟩, List.mem_cons_self⟩
    have h1 := hle.2 x hx
    have h2 : x ≠ o := fun e => nd.1 (by rw [← e]; exact hx)
    omega
  · obtain ⟨a1, a2, ea⟩ := List.append_of_mem e
    generalize minI o a = b at *
    subst ea
    have hc := w.cut
    have nd2 := nd.2
    rw [List.nodup_append, List.nodup_cons] at nd2
    have hob : o ≠ b := fun e => nd.1 (by rw [e]; exact List.mem_append_right _ List.mem_cons_self)
    refine ⟨b, a2 ++ o :: a1, ⟨by simp, fun x hx => ?_, ?_, hc.2.app hc.1⟩, List.mem_cons_of_mem _ (List.mem_append_right _ List.mem_cons_self)⟩
    · rcases List.mem_append.mp hx with h | h
      · have h1 := hle.2 x (List.mem_append_right _ (List.mem_cons_of_mem _ h))
        have h2 : x ≠ b := fun e => nd2.2.1.1 (by rw [← e]; exact h)
        omega
      · rcases List.mem_cons.mp h with h | h
        · subst h
          have := hle.1
          omega
        · have h1 := hle.2 x (List.mem_append_left _ h)
          have h2 : x ≠ b := fun e => nd2.2.2 x h b List.mem_cons_self e
          omega
    · rw [List.nodup_append, List.nodup_cons]
      refine ⟨nd2.2.1.2, ⟨fun h => nd.1 (List.mem_append_left _ h), nd2.1⟩, fun x hx y hy e => ?_⟩
      subst e
      rcases List.mem_cons.mp hy with h | h
      · subst h
        exact nd.1 (List.mem_append_right _ (List.mem_cons_of_mem _ hx))
      · exact nd2.2.2 x h x (List.mem_cons_of_mem _ hx) rfl
/-- where no box of left is on a ring, one is no source of another -/
theorem leaf_ex {l : List (Int × Int)} (K : Kn l) {left : List Int} (ne : left ≠ []) (hk : ∀ x ∈ left, x ∈ l.map (·.1)) (nr : ∀ b q, Cyc l b q → b ∉ left) : ∃ g ∈ left, ∀ o ∈ left, look l o ≠ some g := by
  refine byContradiction fun hno => ?_
  have pre : ∀ g ∈ left, ∃ o ∈ left, look l o = some g := fun g hg => byContradiction fun h => hno ⟨g, hg, fun o ho e => h ⟨o, ho, e⟩⟩
  have go : ∀ n : Nat, ∃ u : List Int, u.length = n + 1 ∧ Ch l u ∧ u.Nodup ∧ ∀ x ∈ u, x ∈ left := by
    intro n
    induction n with
    | zero =>
      cases left with
      | nil => exact absurd rfl ne
      | cons x r => exact ⟨[x], rfl, trivial, by simp, fun y hy => by rw [List.mem_singleton.mp hy]; exact List.mem_cons_self⟩
    | succ n ih =>
      obtain ⟨u, h1, h2, h3, h4⟩ := ih
      cases u with
      | nil => simp at h1
      | cons x r =>
        obtain ⟨o, ho, e⟩ := pre x (h4 x List.mem_cons_self)
        by_cases hm : o ∈ x :: r
        · exfalso
          have hne : x ≠ o := fun e2 => (K.look e).2.2.2.2 e2.symm
          have hr : o ∈ r := by
            rcases List.mem_cons.mp hm with h | h
            · exact absurd h.symm hne
            · exact h
          obtain ⟨a, c, er⟩ := List.append_of_mem hr
          subst er
          have w := Ch.wo2 h2
          have nd : (o :: x :: a).Nodup := by
            rw [List.nodup_cons] at h3
            rw [List.nodup_append, List.nodup_cons] at h3
            rw [List.nodup_cons, List.nodup_cons]
            refine ⟨fun h => ?_, fun h => h3.1 (List.mem_append_left _ h), h3.2.1⟩
            rcases List.mem_cons.mp h with h | h
            · exact hne h.symm
            · exact h3.2.2.2 o h o List.mem_cons_self rfl
          obtain ⟨b, q, cy, hb⟩ := round_cyc (by simp) nd (⟨e, w⟩ : Wo l o (x :: a) (some o))
          refine nr b q cy ?_
          rcases List.mem_cons.mp hb with h | h
          · rw [h]; exact ho
          · rcases List.mem_cons.mp h with h | h
            · rw [h]; exact h4 x List.mem_cons_self
            · exact h4 b (List.mem_cons_of_mem _ (List.mem_append_left _ h))
        · refine ⟨o :: x :: r, by rw [List.length_cons, h1], ⟨e, h2⟩, List.nodup_cons.mpr ⟨hm, h3⟩, fun y hy => ?_⟩
          rcases List.mem_cons.mp hy with h | h
          · rw [h]; exact ho
          · exact h4 y h
  obtain ⟨u, h1, _, h3, h4⟩ := go 10
  have := nodup_len (b := 10) h3 fun x hx => by
    obtain ⟨p, hp, e⟩ := List.mem_map.mp (hk x (h4 x hx))
    have := K.L.bd p hp
    rw [← e]
    exact ⟨this.1, this.2.1⟩
  omega
/-! ### rings apart -/
theorem Cyc.closed {l : List (Int × Int)} {b : Int} {q : List Int} (c : Cyc l b q) : ∀ {y z : Int}, y ∈ b :: q → look l y = some z → z ∈ b :: q := by
  intro y z hy e
  rcases List.mem_cons.mp hy with h | h
  · subst h
    have w := c.w
    cases q with
    | nil => exact absurd rfl c.ne
    | cons x r =>
      have := w.1
      rw [e] at this
      cases this
      exact List.mem_cons_of_mem _ List.mem_cons_self
  · obtain ⟨q1, q2, eq⟩ := List.append_of_mem h
    have w := c.w
    rw [eq] at w
    have w2 := w.cut.2
    rw [eq]
    cases q2 with
    | nil =>
      have w2 : look l y = some b := w2
      rw [e] at w2
      cases w2
      exact List.mem_cons_self
    | cons x r =>
      have := w2.1
      rw [e] at this
      cases this
      exact List.mem_cons_of_mem _ (List.mem_append_right _ (List.mem_cons_of_mem _ List.mem_cons_self))
theorem Cyc.walk {l : List (Int × Int)} {b : Int} {q : List Int} (c : Cyc l b q) : ∀ {t : List Int} {x y : Int}, x ∈ b :: q → Wo l x t (some y) → y ∈ b :: q
  | [], x, y, hx, w => c.closed hx w
  | z :: t, x, y, hx, w => Cyc.walk c (c.closed hx w.1) w.2
theorem Cyc.reach {l : List (Int × Int)} {b x : Int} {q : List Int} (c : Cyc l b q) (hx : x ∈ b :: q) : x = b ∨ ∃ t, Wo l x t (some b) := by
  rcases List.mem_cons.mp hx with h | h
  · exact .inl h
  · obtain ⟨q1, q2, eq⟩ := List.append_of_mem h
    have w := c.w
    rw [eq] at w
    exact .inr ⟨q2, w.cut.2⟩
theorem Cyc.least {l : List (Int × Int)} {b x : Int} {q : List Int} (c : Cyc l b q) (hx : x ∈ b :: q) : b ≤ x := by
  rcases List.mem_cons.mp hx with h | h
  · omega
  · have := c.gt x h
    omega
theorem Cyc.apart {l : List (Int × Int)} {b b' x : Int} {q q' : List Int} (c : Cyc l b q) (c' : Cyc l b' q') (h : x ∈ b :: q) (h' : x ∈ b' :: q') : b = b' := by
  have h1 : b ∈ b' :: q' := by
    rcases c.reach h with e | ⟨t, w⟩
    · rw [← e]; exact h'
    · exact c'.walk h' w
  have h2 : b' ∈ b :: q := by
    rcases c'.reach h' with e | ⟨t, w⟩
    · rw [← e]; exact h
    · exact c.walk h w
  have := c'.least h1
  have := c.least h2
  omega
/-- a ring of l -/
def Rg (l : List (Int × Int)) (r : List Int) : Prop := ∃ b q, Cyc l b q ∧ r = b :: q.reverse
theorem Rg.mem {l : List (Int × Int)} {b x : Int} {q : List Int} : x ∈ b :: q.reverse ↔ x ∈ b :: q := by simp
theorem Rg.closed {l : List (Int × Int)} {r : List Int} (h : Rg l r) {y z : Int} (hy : y ∈ r) (e : look l y = some z) : z ∈ r := by
  obtain ⟨b, q, c, rfl⟩ := h
  exact (Rg.mem (l := l)).mpr (c.closed ((Rg.mem (l := l)).mp hy) e)
theorem Rg.keys {l : List (Int × Int)} {r : List Int} (h : Rg l r) {y : Int} (hy : y ∈ r) : ∃ z, look l y = some z ∧ z ∈ r := by
  obtain ⟨b, q, c, rfl⟩ := h
  have hy2 := (Rg.mem (l := l)).mp hy
  have : ∃ z, look l y = some z := by
    rcases List.mem_cons.mp hy2 with h | h
    · have w := c.w
      cases q with
      | nil => exact absurd rfl c.ne
      | cons x r => rw [h]; exact ⟨x, w.1⟩
    · obtain ⟨q1, q2, eq⟩ := List.append_of_mem h
      have w := c.w
      rw [eq] at w
      have w2 := w.cut.2
      cases q2 with
      | nil => exact ⟨b, w2⟩
      | cons x r => exact ⟨x, w2.1⟩
  obtain ⟨z, hz⟩ := this
  exact ⟨z, hz, (Rg.mem (l := l)).mpr (c.closed hy2 hz)⟩
theorem Rg.nodup {l : List (Int × Int)} {r : List Int} (h : Rg l r) : r.Nodup := by
  obtain ⟨b, q, c, rfl⟩ := h
  rw [List.nodup_cons, List.mem_reverse, (List.reverse_perm q).nodup_iff]
  exact ⟨c.notin, c.nd⟩
theorem ringsL_rg {l : List (Int × Int)} {r : List Int} (h : r ∈ ringsL l) : Rg l r := by
  obtain ⟨g, _, hg⟩ := List.mem_filterMap.mp h
  by_cases c : ∃ q, Cyc l g q
  · obtain ⟨q, c⟩ := c
    rw [ringOf_some c] at hg
    cases hg
    exact ⟨g, q, c, rfl⟩
  · rw [ringOf_none c] at hg
    cases hg
theorem ringsL_of {l : List (Int × Int)} {b : Int} {q : List Int} (c : Cyc l b q) : b :: q.reverse ∈ ringsL l := by
  refine List.mem_filterMap.mpr ⟨b, ?_, ringOf_some c⟩
  rw [(sortI_perm _).mem_iff]
  obtain ⟨z, hz, _⟩ := Rg.keys ⟨b, q, c, rfl⟩ (List.mem_cons_self (a := b) (l := q.reverse))
  exact List.mem_map.mpr ⟨_, look_mem hz, rfl⟩
/-- unlike rings share no box -/
theorem rings_apart {l : List (Int × Int)} (K : Kn l) : (ringsL l).Pairwise fun r r' => ∀ x ∈ r, x ∉ r' := by
  have nd : (sortI (l.map (·.1))).Nodup := (sortI_perm _).nodup_iff.mpr K.L.nd
  unfold ringsL
  rw [List.pairwise_filterMap]
  refine nd.imp fun {a b} hab r hr r' hr' x hx hx' => hab ?_
  by_cases c : ∃ q, Cyc l a q
  · obtain ⟨q, c⟩ := c
    by_cases c' : ∃ q, Cyc l b q
    · obtain ⟨q', c'⟩ := c'
      rw [ringOf_some c] at hr
      rw [ringOf_some c'] at hr'
      cases hr
      cases hr'
      exact c.apart c' ((Rg.mem (l := l)).mp hx) ((Rg.mem (l := l)).mp hx')
    · rw [ringOf_none c'] at hr'
      cases hr'
  · rw [ringOf_none c] at hr
    cases hr
noncomputable def aroundL (l : List (Int × Int)) : List Int := (ringsL l).flatten
theorem around_nodup {l : List (Int × Int)} (K : Kn l) : (aroundL l).Nodup := by
  have go : ∀ rs : List (List Int), (∀ r ∈ rs, r.Nodup) → rs.Pairwise (fun r r' => ∀ x ∈ r, x ∉ r') → rs.flatten.Nodup := by
    intro rs
    induction rs with
    | nil => intro _ _; simp
    | cons r rs ih =>
      intro h p
      rw [List.pairwise_cons] at p
      rw [List.flatten_cons, List.nodup_append]
      refine ⟨h r List.mem_cons_self, ih (fun r' hr' => h r' (List.mem_cons_of_mem _ hr')) p.2, fun x hx y hy e => ?_⟩
      obtain ⟨r', hr', hy2⟩ := List.mem_flatten.mp hy
      exact p.1 r' hr' x hx (by rw [e]; exact hy2)
  exact go _ (fun r hr => (ringsL_rg hr).nodup) (rings_apart K)
/-! ### one ring's swaps -/
def Bc (l : List (Int × Int)) : Int → List Int → Prop
  | _, [] => True
  | c, y :: t => look l y = some c ∧ Bc l y t
theorem Wo.bc {l : List (Int × Int)} : ∀ {q : List Int} {x b : Int}, Wo l x q (some b) → Bc l b (q.reverse ++ [x])
  | [], x, b, w => ⟨w, trivial⟩
  | z :: q, x, b, w => by
    have ih := Wo.bc w.2
    rw [List.reverse_cons]
    have key : ∀ {t : List Int} {c y u : Int}, Bc l c (t ++ [y]) → look l u = some y → Bc l c ((t ++ [y]) ++ [u]) := by
      intro t
      induction t with
      | nil => intro c y u h e; exact ⟨h.1, e, trivial⟩
      | cons a t ih => intro c y u h e; exact ⟨h.1, ih h.2 e⟩
    exact key ih w.1
theorem run_ring {l : List (Int × Int)} {b : Int} : ∀ (t : List Int) (c : Int) (F F0 : Int → Int), F b = F0 c → (∀ x ∈ t, F x = F0 x) → Bc l c t → b ∉ t → t.Nodup → ∀ x, run (t.map (Mv.sw b)) F x = if x = b then F0 ((c :: t).getLast (List.cons_ne_nil _ _)) else if x ∈ t then F0 (src l x) else F x
  | [], c, F, F0, h1, h2, h3, h4, h5, x => by
    show F x = _
    by_cases e : x = b
    · rw [if_pos e, e]; exact h1
    · rw [if_neg e, if_neg (by simp)]
  | y :: t, c, F, F0, h1, h2, h3, h4, h5, x => by
    have hby : b ≠ y := fun e => h4 (by rw [e]; exact List.mem_cons_self)
    rw [List.nodup_cons] at h5
    have ih := run_ring t y (stp F (.sw b y)) F0 (by show (if b = b then F y else _) = _; rw [if_pos rfl]; exact h2 y List.mem_cons_self) (fun z hz => by
      have hzb : z ≠ b := fun e => h4 (by rw [← e]; exact List.mem_cons_of_mem _ hz)
      have hzy : z ≠ y := fun e => h5.1 (by rw [← e]; exact hz)
      show (if z = b then F y else if z = y then F b else F z) = _
      rw [if_neg hzb, if_neg hzy]
      exact h2 z (List.mem_cons_of_mem _ hz)) h3.2 (fun h => h4 (List.mem_cons_of_mem _ h)) h5.2 x
    show run (t.map (Mv.sw b)) (stp F (.sw b y)) x = _
    rw [ih]
    by_cases e : x = b
    · rw [if_pos e, if_pos e, List.getLast_cons (List.cons_ne_nil _ _)]
    · rw [if_neg e, if_neg e]
      by_cases ht : x ∈ t
      · rw [if_pos ht, if_pos (List.mem_cons_of_mem _ ht)]
      · rw [if_neg ht]
        show (if x = b then F y else if x = y then F b else F x) = _
        rw [if_neg e]
        by_cases ey : x = y
        · rw [if_pos ey, if_pos (by rw [ey]; exact List.mem_cons_self), h1, ey]
          unfold src
          rw [h3.1]
          rfl
        · rw [if_neg ey, if_neg fun h => by
            rcases List.mem_cons.mp h with h | h
            · exact ey h
            · exact ht h]
def ringSw : List Int → List Mv
  | [] => []
  | b :: t => t.map (Mv.sw b)
theorem run_rg {l : List (Int × Int)} {r : List Int} (h : Rg l r) (F : Int → Int) (x : Int) : run (ringSw r) F x = if x ∈ r then F (src l x) else F x := by
  have hn := h.nodup
  obtain ⟨b, q, c, rfl⟩ := h
  rw [List.nodup_cons] at hn
  have w := c.w
  cases q with
  | nil => exact absurd rfl c.ne
  | cons z q =>
    have hbc : Bc l b ((z :: q).reverse) := by
      have := Wo.bc w.2
      rw [List.reverse_cons]
      exact this
    show run ((z :: q).reverse.map (Mv.sw b)) F x = _
    rw [run_ring (l := l) _ b F F rfl (fun _ _ => rfl) hbc hn.1 hn.2]
    by_cases e : x = b
    · rw [if_pos e, if_pos (by rw [e]; exact List.mem_cons_self), e]
      unfold src
      rw [w.1]
      have : (b :: (z :: q).reverse).getLast (List.cons_ne_nil _ _) = z := by
        have h : (b :: (z :: q).reverse).getLast? = some z := by
          rw [List.reverse_cons, ← List.cons_append, List.getLast?_append]
          rfl
        rw [List.getLast?_eq_getLast (List.cons_ne_nil _ _)] at h
        exact Option.some.inj h
      rw [this]
      rfl
    · rw [if_neg e]
      by_cases ht : x ∈ (z :: q).reverse
      · rw [if_pos ht, if_pos (List.mem_cons_of_mem _ ht)]
      · rw [if_neg ht, if_neg fun h => by
          rcases List.mem_cons.mp h with h | h
          · exact e h
          · exact ht h]
theorem run_rings {l : List (Int × Int)} : ∀ (rs : List (List Int)), (∀ r ∈ rs, Rg l r) → rs.Pairwise (fun r r' => ∀ x ∈ r, x ∉ r') → ∀ (F : Int → Int) (x : Int), run (rs.flatMap ringSw) F x = if x ∈ rs.flatten then F (src l x) else F x
  | [], _, _, F, x => by rw [if_neg (by simp)]; rfl
  | r :: rs, h, p, F, x => by
    rw [List.pairwise_cons] at p
    rw [List.flatMap_cons, run_app, run_rings rs (fun r' hr' => h r' (List.mem_cons_of_mem _ hr')) p.2, List.flatten_cons]
    have hr := h r List.mem_cons_self
    by_cases hx : x ∈ rs.flatten
    · rw [if_pos hx, if_pos (List.mem_append_right _ hx), run_rg hr]
      obtain ⟨r', hr', hxr⟩ := List.mem_flatten.mp hx
      obtain ⟨z, hz, hzr⟩ := (h r' (List.mem_cons_of_mem _ hr')).keys hxr
      have es : src l x = z := by unfold src; rw [hz]; rfl
      rw [es, if_neg fun h2 => p.1 r' hr' z h2 hzr]
    · rw [if_neg hx, run_rg hr]
      by_cases h2 : x ∈ r
      · rw [if_pos h2, if_pos (List.mem_append_left _ h2)]
      · rw [if_neg h2, if_neg fun h3 => by
          rcases List.mem_append.mp h3 with h4 | h4
          · exact h2 h4
          · exact hx h4]
/-! ### the trees -/
noncomputable def treeL (l : List (Int × Int)) : List Int := (sortI (l.map (·.1))).filter fun g => !decide (g ∈ aroundL l)
theorem treeL_mem {l : List (Int × Int)} {g : Int} : g ∈ treeL l ↔ g ∈ l.map (·.1) ∧ g ∉ aroundL l := by
  unfold treeL
  rw [List.mem_filter, (sortI_perm _).mem_iff]
  simp
theorem treeL_nodup {l : List (Int × Int)} (K : Kn l) : (treeL l).Nodup := (List.filter_sublist).nodup ((sortI_perm _).nodup_iff.mpr K.L.nd)
structure TrInv (l : List (Int × Int)) (left : List Int) (ms : List Mv) : Prop where
  sub : ∀ x ∈ left, x ∈ treeL l
  nd : left.Nodup
  no : ∀ r ∈ treeL l, r ∉ left → ∀ o ∈ left, look l o ≠ some r
  ru : ∀ F x, run ms F x = if x ∈ treeL l ∧ x ∉ left then F (src l x) else F x
  len : ms.length + left.length = (treeL l).length
  ok : ∀ m ∈ ms, ∃ g s, m = Mv.cp g s ∧ look l g = some s
theorem TrInv.start {l : List (Int × Int)} (K : Kn l) : TrInv l (treeL l) [] :=
  ⟨fun x h => h, treeL_nodup K, fun r h h' => absurd h h', fun F x => by rw [if_neg fun h => h.2 h.1]; rfl, by simp, by simp⟩
theorem TrInv.leaf {l : List (Int × Int)} (K : Kn l) {left : List Int} {ms : List Mv} (I : TrInv l left ms) (ne : left ≠ []) : ∃ g ∈ left, ∀ o ∈ left, look l o ≠ some g :=
  leaf_ex K ne (fun x hx => (treeL_mem.mp (I.sub x hx)).1) fun b q c h => (treeL_mem.mp (I.sub b h)).2 (List.mem_flatten.mpr ⟨_, ringsL_of c, List.mem_cons_self⟩)
theorem TrInv.step {l : List (Int × Int)} {left : List Int} {ms : List Mv} (I : TrInv l left ms) {g s : Int} (hg : g ∈ left) (leaf : ∀ o ∈ left, look l o ≠ some g) (hs : look l g = some s) : TrInv l (left.erase g) (ms ++ [.cp g s]) := by
  have hme : ∀ x, x ∈ left.erase g ↔ x ≠ g ∧ x ∈ left := fun x => List.Nodup.mem_erase_iff I.nd
  refine ⟨fun x hx => I.sub x ((hme x).mp hx).2, I.nd.erase _, fun r hr hn o ho => ?_, fun F x => ?_, ?_, fun m hm => ?_⟩
  · have ho2 := ((hme o).mp ho).2
    by_cases e : r = g
    · rw [e]; exact leaf o ho2
    · exact I.no r hr (fun h => hn ((hme r).mpr ⟨e, h⟩)) o ho2
  · rw [run_app]
    show (if x = g then run ms F s else run ms F x) = _
    by_cases e : x = g
    · rw [if_pos e, I.ru, if_neg fun h => I.no s h.1 h.2 g hg hs, if_pos ⟨by rw [e]; exact I.sub g hg, fun h => ((hme x).mp h).1 e⟩, e]
      unfold src
      rw [hs]
      rfl
    · rw [if_neg e, I.ru]
      by_cases h : x ∈ treeL l ∧ x ∉ left
      · rw [if_pos h, if_pos ⟨h.1, fun h2 => h.2 ((hme x).mp h2).2⟩]
      · rw [if_neg h, if_neg fun h2 => h ⟨h2.1, fun h3 => h2.2 ((hme x).mpr ⟨e, h3⟩)⟩]
  · rw [List.length_append, List.length_singleton, List.length_erase_of_mem hg]
    have := I.len
    have : 0 < left.length := List.length_pos_of_mem hg
    omega
  · rcases List.mem_append.mp hm with h | h
    · exact I.ok m h
    · rw [List.mem_singleton.mp h]
      exact ⟨g, s, rfl, hs⟩
/-! ### all of it -/
noncomputable def swapsL (l : List (Int × Int)) : List Mv := (ringsL l).flatMap ringSw
theorem all_run {l : List (Int × Int)} (K : Kn l) {ms : List Mv} (I : TrInv l [] ms) (F : Int → Int) (x : Int) : run (ms ++ swapsL l) F x = F (src l x) := by
  unfold swapsL
  rw [run_app, run_rings _ (fun r hr => ringsL_rg hr) (rings_apart K)]
  have ru : ∀ y, run ms F y = if y ∈ treeL l then F (src l y) else F y := fun y => by
    rw [I.ru]
    by_cases h : y ∈ treeL l
    · rw [if_pos h, if_pos ⟨h, by simp⟩]
    · rw [if_neg h, if_neg fun h2 => h h2.1]
  by_cases h : x ∈ (ringsL l).flatten
  · rw [if_pos h, ru]
    obtain ⟨r, hr, hx⟩ := List.mem_flatten.mp h
    obtain ⟨z, hz, hzr⟩ := (ringsL_rg hr).keys hx
    have es : src l x = z := by unfold src; rw [hz]; rfl
    rw [es, if_neg fun h2 => (treeL_mem.mp h2).2 (List.mem_flatten.mpr ⟨r, hr, hzr⟩)]
  · rw [if_neg h, ru]
    by_cases ht : x ∈ treeL l
    · rw [if_pos ht]
    · rw [if_neg ht]
      have : x ∉ l.map (·.1) := fun h2 => ht (treeL_mem.mpr ⟨h2, h⟩)
      unfold src
      cases e : look l x with
      | none => rfl
      | some v => exact absurd (List.mem_map.mpr ⟨_, look_mem e, rfl⟩) this
theorem ringSw_len {l : List (Int × Int)} {r : List Int} (h : Rg l r) : (ringSw r).length + 1 = r.length := by
  obtain ⟨b, q, c, rfl⟩ := h
  show (q.reverse.map (Mv.sw b)).length + 1 = _
  rw [List.length_map, List.length_cons]
theorem swaps_len {l : List (Int × Int)} : ∀ rs : List (List Int), (∀ r ∈ rs, Rg l r) → (rs.flatMap ringSw).length + rs.length = rs.flatten.length
  | [], _ => rfl
  | r :: rs, h => by
    have := swaps_len rs fun r' hr' => h r' (List.mem_cons_of_mem _ hr')
    have := ringSw_len (h r List.mem_cons_self)
    rw [List.flatMap_cons, List.length_append, List.flatten_cons, List.length_append, List.length_cons]
    omega
theorem around_keys {l : List (Int × Int)} {x : Int} (h : x ∈ aroundL l) : x ∈ l.map (·.1) := by
  obtain ⟨r, hr, hx⟩ := List.mem_flatten.mp h
  obtain ⟨z, hz, _⟩ := (ringsL_rg hr).keys hx
  exact List.mem_map.mpr ⟨_, look_mem hz, rfl⟩
theorem tree_len {l : List (Int × Int)} (K : Kn l) : (treeL l).length + (aroundL l).length = l.length := by
  have nd : (sortI (l.map (·.1))).Nodup := (sortI_perm _).nodup_iff.mpr K.L.nd
  have h1 : ((sortI (l.map (·.1))).filter fun g => decide (g ∈ aroundL l)).Perm (aroundL l) := by
    refine (List.perm_ext_iff_of_nodup ((List.filter_sublist).nodup nd) (around_nodup K)).mpr fun x => ?_
    rw [List.mem_filter, (sortI_perm _).mem_iff]
    constructor
    · rintro ⟨_, h⟩; exact of_decide_eq_true h
    · intro h; exact ⟨around_keys h, decide_eq_true h⟩
  rw [← h1.length_eq]
  unfold treeL
  have h2 : ∀ xs : List Int, (xs.filter fun g => !decide (g ∈ aroundL l)).length + (xs.filter fun g => decide (g ∈ aroundL l)).length = xs.length := fun xs => by
    induction xs with
    | nil => rfl
    | cons x xs ih =>
      rw [List.filter_cons, List.filter_cons]
      by_cases h : x ∈ aroundL l <;> simp only [h, decide_true, decide_false, Bool.not_true, Bool.not_false, if_true, if_false, List.length_cons, Bool.false_eq_true] <;> omega
  rw [h2, (sortI_perm _).length_eq, List.length_map]
theorem all_len {l : List (Int × Int)} (K : Kn l) {ms : List Mv} (I : TrInv l [] ms) : (ms ++ swapsL l).length + (ringsL l).length = l.length := by
  have h1 := swaps_len (ringsL l) fun r hr => ringsL_rg hr
  have h2 := tree_len K
  have h3 := I.len
  rw [List.length_append]
  unfold swapsL
  unfold aroundL at h2
  rw [List.length_nil] at h3
  omega
/-- copies and swaps that do a lead -/
structure SwOk (b : Int) (l : List (Int × Int)) (ms : List Mv) : Prop where
  ru : ∀ F x, run ms F x = F (src l x)
  len : ms.length + (ringsL l).length = l.length
  ok : ∀ m ∈ ms, ∃ x y, (m = Mv.cp x y ∨ m = Mv.sw x y) ∧ x ≠ y ∧ 0 ≤ x ∧ x < b ∧ 0 ≤ y ∧ y < b
theorem SwOk.of {b : Int} {l : List (Int × Int)} (K : Kn l) (L : Lead b l) {ms : List Mv} (I : TrInv l [] ms) : SwOk b l (ms ++ swapsL l) := by
  refine ⟨all_run K I, all_len K I, fun m hm => ?_⟩
  rcases List.mem_append.mp hm with h | h
  · obtain ⟨g, s, rfl, hs⟩ := I.ok m h
    have h1 := L.bd _ (look_mem hs)
    exact ⟨g, s, .inl rfl, (K.look hs).2.2.2.2, h1⟩
  · obtain ⟨r, hr, hm⟩ := List.mem_flatMap.mp h
    have hR := ringsL_rg hr
    have hn := hR.nodup
    obtain ⟨b', q, c, e⟩ := id hR
    subst e
    obtain ⟨y, hy, rfl⟩ := List.mem_map.mp hm
    rw [List.nodup_cons] at hn
    have hb : ∀ z ∈ b' :: q.reverse, 0 ≤ z ∧ z < b := fun z hz => by
      obtain ⟨u, hu, _⟩ := hR.keys hz
      have := L.bd _ (look_mem hu)
      exact ⟨this.1, this.2.1⟩
    have h1 := hb b' List.mem_cons_self
    have h2 := hb y (List.mem_cons_of_mem _ hy)
    exact ⟨b', y, .inr rfl, fun e => hn.1 (by rw [e]; exact hy), h1.1, h1.2, h2.1, h2.2⟩
end L3
/-! M6b: there and back -/
namespace L3
open PySem PySem.Spec PyProof.Rows L2
theorem src_kn {b : Int} {l : List (Int × Int)} (L : Lead b l) (x : Int) : src (kn l) x = src l x := by
  unfold src
  cases e : look l x with
  | none =>
    cases e2 : look (kn l) x with
    | none => rfl
    | some v =>
      have := look_mem e2
      have h := look_of L.nd (List.mem_filter.mp this).1
      rw [e] at h
      cases h
  | some v =>
    have hm := look_mem e
    by_cases c : x = v
    · cases e2 : look (kn l) x with
      | none => exact c
      | some u =>
        have h1 := look_of L.nd (List.mem_filter.mp (look_mem e2)).1
        rw [e] at h1
        cases h1
        rfl
    · rw [look_of L.kn.nd (List.mem_filter.mpr ⟨hm, by simpa using c⟩)]
theorem Wo.map_src {l : List (Int × Int)} {b : Int} : ∀ {q : List Int} {x : Int}, Wo l x q (some b) → (x :: q).map (src l) = q ++ [b]
  | [], x, w => by
    have w : look l x = some b := w
    show [src l x] = [b]
    unfold src
    rw [w]
    rfl
  | z :: q, x, w => by
    rw [List.map_cons, Wo.map_src w.2]
    unfold src
    rw [w.1]
    rfl
theorem Rg.src_perm {l : List (Int × Int)} {r : List Int} (h : Rg l r) : (r.map (src l)).Perm r := by
  obtain ⟨b, q, c, rfl⟩ := h
  have h1 : ((b :: q.reverse).map (src l)).Perm ((b :: q).map (src l)) := ((List.reverse_perm q).cons b).map _
  rw [c.w.map_src] at h1
  refine h1.trans ?_
  have h2 : (q ++ [b]).Perm (b :: q) := List.perm_append_comm
  exact h2.trans ((List.reverse_perm q).symm.cons b)
theorem around_src {l : List (Int × Int)} : ((aroundL l).map (src l)).Perm (aroundL l) := by
  have go : ∀ rs : List (List Int), (∀ r ∈ rs, Rg l r) → (rs.flatten.map (src l)).Perm rs.flatten := by
    intro rs
    induction rs with
    | nil => intro _; exact List.Perm.refl _
    | cons r rs ih =>
      intro h
      rw [List.flatten_cons, List.map_append]
      exact (h r List.mem_cons_self).src_perm.append (ih fun r' hr' => h r' (List.mem_cons_of_mem _ hr'))
  exact go _ fun r hr => ringsL_rg hr
noncomputable def arL (l : List (Int × Int)) : List (Int × Int) := (aroundL l).map fun x => (x, src l x)
noncomputable def backL (l : List (Int × Int)) : List (Int × Int) := (aroundL l).map fun x => (src l x, x)
theorem around_bd {b : Int} {l : List (Int × Int)} (L : Lead b l) {x : Int} (h : x ∈ aroundL l) : 0 ≤ x ∧ x < b := by
  obtain ⟨p, hp, rfl⟩ := List.mem_map.mp (around_keys h)
  have := L.bd p hp
  exact ⟨this.1, this.2.1⟩
theorem src_around {l : List (Int × Int)} {x : Int} (h : x ∈ aroundL l) : src l x ∈ aroundL l := around_src.mem_iff.mp (List.mem_map.mpr ⟨x, h, rfl⟩)
theorem arL_lead {b : Int} {l : List (Int × Int)} (K : Kn l) (L : Lead b l) : Lead b (arL l) := by
  refine ⟨?_, fun p hp => ?_⟩
  · unfold arL
    rw [List.map_map]
    have e : ((fun p : Int × Int => p.1) ∘ fun x => (x, src l x)) = id := rfl
    rw [e, List.map_id]
    exact around_nodup K
  · obtain ⟨x, hx, rfl⟩ := List.mem_map.mp hp
    have h1 := around_bd L hx
    have h2 := around_bd L (src_around hx)
    exact ⟨h1.1, h1.2, h2.1, h2.2⟩
theorem backL_lead {b : Int} {l : List (Int × Int)} (K : Kn l) (L : Lead b l) : Lead b (backL l) := by
  refine ⟨?_, fun p hp => ?_⟩
  · unfold backL
    rw [List.map_map]
    have e : ((fun p : Int × Int => p.1) ∘ fun x => (src l x, x)) = src l := rfl
    rw [e]
    exact around_src.nodup_iff.mpr (around_nodup K)
  · obtain ⟨x, hx, rfl⟩ := List.mem_map.mp hp
    have h1 := around_bd L hx
    have h2 := around_bd L (src_around hx)
    exact ⟨h2.1, h2.2, h1.1, h1.2⟩
theorem look_no {l : List (Int × Int)} {x : Int} (h : x ∉ l.map (·.1)) : look l x = none := by
  cases e : look l x with
  | none => rfl
  | some v => exact absurd (List.mem_map.mpr ⟨_, look_mem e, rfl⟩) h
theorem there_back {b : Int} {l : List (Int × Int)} (K : Kn l) (L : Lead b l) (x : Int) : src (kn (arL l)) (src (kn (backL l)) x) = x := by
  have LA := arL_lead K L
  have LB := backL_lead K L
  rw [src_kn LA, src_kn LB]
  by_cases h : x ∈ aroundL l
  · obtain ⟨y, hy, e⟩ := List.mem_map.mp (around_src.mem_iff.mpr h)
    have h1 : src (backL l) x = y := by
      unfold src
      rw [look_of LB.nd (List.mem_map.mpr ⟨y, hy, by rw [e]⟩ : (x, y) ∈ backL l)]
      rfl
    rw [h1]
    have h2 : src (arL l) y = src l y := by
      rw [show src (arL l) y = (look (arL l) y).getD y from rfl, look_of LA.nd (List.mem_map.mpr ⟨y, hy, rfl⟩ : (y, src l y) ∈ arL l)]
      rfl
    rw [h2, e]
  · have h1 : src (backL l) x = x := by
      unfold src
      rw [look_no]
      · rfl
      · intro hm
        obtain ⟨p, hp, e⟩ := List.mem_map.mp hm
        obtain ⟨y, hy, rfl⟩ := List.mem_map.mp hp
        have e : src l y = x := e
        exact h (by rw [← e]; exact src_around hy)
    rw [h1]
    unfold src
    rw [look_no]
    · rfl
    · intro hm
      obtain ⟨p, hp, e⟩ := List.mem_map.mp hm
      obtain ⟨y, hy, rfl⟩ := List.mem_map.mp hp
      have e : y = x := e
      exact h (by rw [← e]; exact hy)
theorem Bc.get {l : List (Int × Int)} : ∀ {t : List Int} {c : Int} {i : Nat} {y : Int}, Bc l c t → t[i]? = some y → look l y = (c :: t)[i]?
  | [], _, i, y, _, h => by simp at h
  | z :: t, c, 0, y, b, h => by
    cases h
    exact b.1
  | z :: t, c, i + 1, y, b, h => by
    have := Bc.get b.2 (i := i) h
    rw [this]
    rfl
/-- the one ahead of a ring's place is its source -/
theorem Rg.prev {l : List (Int × Int)} {r : List Int} (h : Rg l r) {k : Nat} {x : Int} (hx : r[k]? = some x) : atI (r.map D.int) ((k : Int) - 1) = some (.int (src l x)) := by
  obtain ⟨b, q, c, rfl⟩ := h
  have w := c.w
  cases q with
  | nil => exact absurd rfl c.ne
  | cons z q =>
    cases k with
    | zero =>
      cases hx
      have e : (x :: (z :: q).reverse).map D.int = ((x :: q.reverse).map D.int) ++ [D.int z] := by simp
      rw [e]
      have := atI_last ((x :: q.reverse).map D.int) (D.int z)
      unfold src
      rw [w.1]
      exact this
    | succ k =>
      have hx : ((z :: q).reverse)[k]? = some x := hx
      have hbc : Bc l b ((z :: q).reverse) := by
        have := Wo.bc w.2
        rw [List.reverse_cons]
        exact this
      have h1 := hbc.get hx
      have h2 : (b :: (z :: q).reverse)[k]? = some (src l x) := by
        have hk : k < (b :: (z :: q).reverse).length := by
          have := (List.getElem?_eq_some_iff.mp hx).1
          rw [List.length_cons]
          omega
        rw [List.getElem?_eq_getElem hk] at h1 ⊢
        unfold src
        rw [h1]
        rfl
      rw [show ((k + 1 : Nat) : Int) - 1 = (k : Nat) by omega]
      exact atI_nat (by rw [List.getElem?_map, h2]; rfl)
end L3
/-! P2: the rings: what the code computes -/
namespace L3
open PySem PySem.Spec PyProof.Rows L2
theorem neT {p : Prop} [Decidable p] (h : (if true = true then !decide p else decide p) = true) : ¬p := by simpa using h
theorem neF {p : Prop} [Decidable p] (h : ¬(if true = true then !decide p else decide p) = true) : p := by simpa using h
theorem eqT {p : Prop} [Decidable p] (h : (if false = true then !decide p else decide p) = true) : p := by simpa using h
theorem eqF {p : Prop} [Decidable p] (h : ¬(if false = true then !decide p else decide p) = true) : ¬p := by simpa using h
/-! ### ring_from -/
def ringD : Option (List Int) → D
  | none => .non
  | some r => tupD r
def sp_ring_from : Spec := fun _ ds Kd _ => ∃ l b, ds = [.dic (kvD l), .int b] ∧ Kn l ∧ 0 ≤ b ∧ b < 10 ∧ Kd (ringD (ringOf l b))
abbrev N_ring_from : List Str := ["known", "box", "found", "here"]
abbrev ps_ring_from : List Str := ["known", "box"]
def m_ring_from (sa : Option Addr) : MSt :=
  (mSeq (mSetF 2 (mLst (aCons (mVar 1) aNil)))
  (mSeq (mSet 3 (mGet1 (mVar 0) (mVar 1)))
  (mSeq (mWhile (mAnd (mB (m2 (isND true) (mVar 3) (mC .non))) (mB (m2 (inS true) (mVar 3) (mVar 2)))) (mSeq (mAppend 2 (mVar 3))
    (mSet 3 (mGet1 (mVar 0) (mVar 3)))))
  (mSeq (mIfS (mOr (mB (m2 (eqE true) (mVar 3) (mVar 1))) (mB (m2 (eqE true) (mCall minL (aCons (mVar 2) aNil)) (mVar 1)))) (mRet (mC .non)) mNext)
  (mRet (mCall tupleD (aCons (m2 addD (mLst (aCons (mVar 1) aNil)) (mSlM (mVar 2) oNone (oSome (mC (.int 0))))) aNil)))))))
theorem getD_opt (o : Option Int) : (o.map D.int).getD .non = optD o := by cases o <;> rfl
theorem pu_ring_from (sa : Option Addr) (ds : List D) (Kd : D → Prop) (KX : Exn → Prop) (hl : ds.length = 2) (h : sp_ring_from sa ds Kd KX) : m_ring_from sa (startS N_ring_from.length ds) { nx := fun _ => false = false ∧ Kd .non, rt := Kd, ex := KX } := by
  obtain ⟨l, b, rfl, K, b0, b1, k⟩ := h
  refine ⟨z1, fun p => ⟨⟨_, rfl⟩, ?_⟩⟩
  refine get1_of ?_
  rw [valD_kv, getD_opt]
  -- after the loop
  have fin : ∀ (t : List Int) (h : Option Int), Wo l b t h → (b :: t).Nodup → (∀ y, h = some y → y ∈ b :: t) →
      mSeq (mIfS (mOr (mB (m2 (eqE true) (mVar 3) (mVar 1))) (mB (m2 (eqE true) (mCall minL (aCons (mVar 2) aNil)) (mVar 1)))) (mRet (mC .non)) mNext)
        (mRet (mCall tupleD (aCons (m2 addD (mLst (aCons (mVar 1) aNil)) (mSlM (mVar 2) oNone (oSome (mC (.int 0))))) aNil))) [some (.sh (.dic (kvD l))), some (.sh (.int b)), some (.own p (.lst ((b :: t).map D.int))), some (.sh (optD h))] { nx := fun _ => false = false ∧ Kd .non, rt := Kd, ex := KX } := by
    intro t h w nd st
    have ans := ring_answer K w nd st
    have hlen : (b :: t).length ≤ 10 := nodup_len (b := 10) nd fun y hy => by
      rcases List.mem_cons.mp hy with e | e
      · rw [e]; exact ⟨b0, b1⟩
      · exact (Wo.mem K w).1 y e
    have no : ¬(h = some b ∧ minI b t = b) → Kd .non := fun c => by
      rw [ans, if_neg c] at k
      exact k
    refine eqE_opt (o := h) (p := some b) ?_
    refine ite2 (fun c => ?_) (fun c => ?_)
    · refine no fun c2 => ?_
      rw [c2.1] at c
      simp at c
    · have c : h = some b := by simpa using c
      refine minL_ints (n := b) (ns := t) ?_
      refine eqE_int (i := minI b t) (j := b) ?_
      refine ite2 (fun c2 => ?_) (fun c2 => ?_)
      · refine no fun c3 => ?_
        rw [c3.2] at c2
        simp at c2
      · have c2 : minI b t = b := by simpa using c2
        rw [ans, if_pos ⟨c, c2⟩] at k
        refine ⟨z1, ?_⟩
        have e : pickM ((b :: t).map D.int) none (some 0) = t.reverse.map D.int := by
          have := pickM_from ((b :: t).map D.int) 0
          rw [show ((0 : Nat) : Int) = 0 from rfl] at this
          rw [this, List.map_cons, List.drop_succ_cons, List.drop_zero, List.map_reverse]
        show _ ∧ _
        rw [e]
        refine ⟨sz_ok (by rw [List.length_map, List.length_reverse]; rw [List.length_cons] at hlen; omega), ?_⟩
        refine ⟨sz_ok ?_, ?_⟩
        · rw [List.length_map, List.length_reverse, List.length_cons, List.length_nil]
          rw [List.length_cons] at hlen
          omega
        · exact k
  have go : ∀ (n : Nat) (t : List Int) (h : Option Int), t.length + n = 10 → Wo l b t h → (b :: t).Nodup → whileD (mAnd (mB (m2 (isND true) (mVar 3) (mC .non))) (mB (m2 (inS true) (mVar 3) (mVar 2)))) (mSeq (mAppend 2 (mVar 3))
      (mSet 3 (mGet1 (mVar 0) (mVar 3)))) { nx := fun env' => (mSeq (mIfS (mOr (mB (m2 (eqE true) (mVar 3) (mVar 1))) (mB (m2 (eqE true) (mCall minL (aCons (mVar 2) aNil)) (mVar 1)))) (mRet (mC .non)) mNext)
        (mRet (mCall tupleD (aCons (m2 addD (mLst (aCons (mVar 1) aNil)) (mSlM (mVar 2) oNone (oSome (mC (.int 0))))) aNil))) env' { nx := fun _ => false = false ∧ Kd .non, rt := Kd, ex := KX }), rt := Kd, ex := KX } (n + 1) [some (.sh (.dic (kvD l))), some (.sh (.int b)), some (.own p (.lst ((b :: t).map D.int))), some (.sh (optD h))] := by
    intro n
    induction n with
    | zero =>
      intro t h hn w nd
      have hlen : (b :: t).length ≤ 10 := nodup_len (b := 10) nd fun y hy => by
        rcases List.mem_cons.mp hy with e | e
        · rw [e]; exact ⟨b0, b1⟩
        · exact (Wo.mem K w).1 y e
      rw [List.length_cons] at hlen
      omega
    | succ n ih =>
      intro t h hn w nd
      have hlen : (b :: t).length ≤ 10 := nodup_len (b := 10) nd fun y hy => by
        rcases List.mem_cons.mp hy with e | e
        · rw [e]; exact ⟨b0, b1⟩
        · exact (Wo.mem K w).1 y e
      cases h with
      | none => exact ⟨rfl, fin t none w nd (fun y e => by cases e)⟩
      | some y =>
        refine ⟨rfl, ?_⟩
        refine inS_lst (i := y) (ns := b :: t) ?_
        refine ite2 (fun c => ?_) (fun c => ?_)
        · have c : y ∉ b :: t := neT c
          refine ⟨sz_lt (by rw [List.length_map]; omega), ⟨_, rfl⟩, ?_⟩
          refine get1_of (i := y) ?_
          rw [valD_kv, getD_opt]
          have e : ((b :: t).map D.int ++ [D.int y]) = (b :: (t ++ [y])).map D.int := by simp
          show whileD _ _ _ _ [some (.sh (.dic (kvD l))), some (.sh (.int b)), some (.own p (.lst ((b :: t).map D.int ++ [D.int y]))), some (.sh (optD (look l y)))]
          rw [e]
          refine ih (t ++ [y]) (look l y) (by rw [List.length_append, List.length_singleton]; omega) w.snoc ?_
          rw [← List.cons_append, List.nodup_append]
          exact ⟨nd, by simp, fun x hx z hz e => c (by
            rw [List.mem_singleton] at hz
            rw [← hz, ← e]
            exact hx)⟩
        · have c : y ∈ b :: t := neF c
          exact fin t (some y) w nd fun z e => by cases e; exact c
  exact ⟨11, go 10 [] (look l b) rfl rfl (by simp)⟩
/-! ### rings_of -/
def sp_rings_of : Spec := fun _ ds Kd _ => ∃ l, ds = [.dic (kvD l)] ∧ Kn l ∧ Kd (.lst ((ringsL l).map tupD))
abbrev N_rings_of : List Str := ["known", "found", "box", "ring"]
abbrev ps_rings_of : List Str := ["known"]
def m_rings_of (sa : Option Addr) : MSt :=
  (mSeq (mSet 1 (mLc (.nm 2) [2] (mIter (mCall sortedD (aCons (mVar 0) aNil))) tYesM (mCallU sa sp_ring_from (aCons (mVar 0) (aCons (mVar 2) aNil)))))
  (mRet (mLc (.nm 3) [3] (mIter (mVar 1)) (mB (m2 (isND true) (mVar 3) (mC .non))) (mVar 3))))
theorem Kn.keys {l : List (Int × Int)} (K : Kn l) : (sortI (l.map (·.1))).length ≤ 10 ∧ ∀ x ∈ sortI (l.map (·.1)), x ∈ l.map (·.1) ∧ 0 ≤ x ∧ x < 10 := by
  have h1 := K.L.len (by decide)
  refine ⟨by rw [(sortI_perm _).length_eq, List.length_map]; omega, fun x hx => ?_⟩
  have hx := (sortI_perm _).mem_iff.mp hx
  obtain ⟨p, hp, rfl⟩ := List.mem_map.mp hx
  have := K.L.bd p hp
  exact ⟨hx, this.1, this.2.1⟩
theorem pu_rings_of (sa : Option Addr) (ds : List D) (Kd : D → Prop) (KX : Exn → Prop) (hl : ds.length = 1) (h : sp_rings_of sa ds Kd KX) : m_rings_of sa (startS N_rings_of.length ds) { nx := fun _ => true = false ∧ Kd .non, rt := Kd, ex := KX } := by
  obtain ⟨l, rfl, K, k⟩ := h
  have hk := K.keys
  refine sortedD_dic ?_
  rw [keys_kv]
  refine ⟨by rw [List.length_map]; omega, lcD_fm (fun d => match d with | .int g => some (ringD (ringOf l g)) | _ => none) (fun d hd Kx hK => ?_) ?_⟩
  · obtain ⟨g, hg, rfl⟩ := List.mem_map.mp hd
    have := hk.2 g hg
    exact ⟨_, rfl, l, g, rfl, K, this.2.1, this.2.2, hK⟩
  · rw [fm_map D.int _ (fun g => some (ringOf l g)) ringD _ (fun g _ => rfl), List.filterMap_eq_map']
    refine ⟨by rw [List.length_map, List.length_map]; omega, lcD_fm (fun d => match d with | .non => none | d => some d) (fun d hd Kx hK => ?_) ?_⟩
    · obtain ⟨o, ho, rfl⟩ := List.mem_map.mp hd
      cases o with
      | none => exact ⟨_, rfl, rfl, hK⟩
      | some r => exact ⟨_, rfl, rfl, hK⟩
    · rw [fm_map ringD _ id tupD _ (fun o _ => by cases o <;> rfl), List.filterMap_map]
      exact k
/-! ### outward, shut_of -/
def outL (l : List (Int × Int)) (r : List Int) : List (Int × Int) := (sortI (l.map (·.1))).filterMap fun g => if g ∉ r ∧ (look l g).getD 0 ∈ r then some (g, (look l g).getD 0) else none
def sp_outward : Spec := fun _ ds Kd _ => ∃ l r, ds = [.dic (kvD l), tupD r] ∧ Kn l ∧ Kd (leadD (outL l r))
abbrev N_outward : List Str := ["known", "ring", "goal"]
abbrev ps_outward : List Str := ["known", "ring"]
def m_outward (sa : Option Addr) : MSt :=
  (mRet (mLc (.nm 2) [2] (mIter (mCall sortedD (aCons (mVar 0) aNil))) (mAnd (mB (m2 (inS true) (mVar 2) (mVar 1))) (mB (m2 (inS false) (m2 getK (mVar 0) (mVar 2)) (mVar 1)))) (mTup (aCons (mVar 2) (aCons (m2 getK (mVar 0) (mVar 2)) aNil)))))
theorem getK_at {l : List (Int × Int)} {g : Int} {K : D → Prop} (h : g ∈ l.map (·.1)) (k : K (.int ((look l g).getD 0))) : getK (.dic (kvD l)) (.int g) K := by
  obtain ⟨v, hv⟩ := look_some h
  rw [hv] at k
  exact getK_of (d := .int v) (by rw [valD_kv, hv]; rfl) k
theorem pu_outward (sa : Option Addr) (ds : List D) (Kd : D → Prop) (KX : Exn → Prop) (hl : ds.length = 2) (h : sp_outward sa ds Kd KX) : m_outward sa (startS N_outward.length ds) { nx := fun _ => false = false ∧ Kd .non, rt := Kd, ex := KX } := by
  obtain ⟨l, r, rfl, K, k⟩ := h
  have hk := K.keys
  refine sortedD_dic ?_
  rw [keys_kv]
  refine ⟨by rw [List.length_map]; omega, lcD_fm (fun d => match d with | .int g => if g ∉ r ∧ (look l g).getD 0 ∈ r then some (pD (g, (look l g).getD 0)) else none | _ => none) (fun d hd Kx hK => ?_) ?_⟩
  · obtain ⟨g, hg, rfl⟩ := List.mem_map.mp hd
    have hg := (hk.2 g hg).1
    have hK : Kx (if g ∉ r ∧ (look l g).getD 0 ∈ r then some (pD (g, (look l g).getD 0)) else none) := hK
    refine ⟨_, rfl, ?_⟩
    refine inS_tup (i := g) (ns := r) ?_
    refine ite2 (fun c => ?_) (fun c => ?_)
    · have c : g ∉ r := by simpa using c
      refine getK_at hg ?_
      refine inS_tup (i := (look l g).getD 0) (ns := r) ?_
      refine ite2 (fun c2 => ?_) (fun c2 => ?_)
      · have c2 : (look l g).getD 0 ∈ r := by simpa using c2
        rw [if_pos ⟨c, c2⟩] at hK
        refine getK_at hg ⟨z2, hK⟩
      · have c2 : ¬ (look l g).getD 0 ∈ r := by simpa using c2
        rw [if_neg fun h => c2 h.2] at hK
        exact hK
    · have c : g ∈ r := by simpa using c
      rw [if_neg fun h => h.1 c] at hK
      exact hK
  · rw [fm_map D.int _ (fun g => if g ∉ r ∧ (look l g).getD 0 ∈ r then some (g, (look l g).getD 0) else none) pD _ (fun g _ => by show (if _ then _ else _) = _; split <;> rfl)]
    exact k
def sp_shut_of : Spec := fun _ ds Kd _ => ∃ l, ds = [.dic (kvD l)] ∧ Kn l ∧ Kd (.lst (((ringsL l).filter (shutL l)).map tupD))
abbrev N_shut_of : List Str := ["known", "ring"]
abbrev ps_shut_of : List Str := ["known"]
def m_shut_of (sa : Option Addr) : MSt :=
  (mRet (mLc (.nm 1) [1] (mIter (mCallU sa sp_rings_of (aCons (mVar 0) aNil))) (mB (m2 (eqE false) (mCallU sa sp_outward (aCons (mVar 0) (aCons (mVar 1) aNil))) (mLst aNil))) (mVar 1)))
theorem fm_empty {α β : Type} (l : List α) (g : α → Option β) : (l.filterMap g).isEmpty = l.all fun a => (g a).isNone := by
  induction l with
  | nil => rfl
  | cons a l ih =>
    rw [List.filterMap_cons, List.all_cons]
    cases q : g a with
    | none => simpa [q] using ih
    | some b => simp [q]
theorem out_empty (l : List (Int × Int)) (r : List Int) : (outL l r).isEmpty = shutL l r := by
  unfold outL shutL
  rw [fm_empty, (sortI_perm _).all_eq]
  congr 1
  funext g
  by_cases h1 : g ∈ r <;> by_cases h2 : (look l g).getD 0 ∈ r <;> simp [h1, h2]
theorem ringsL_len {l : List (Int × Int)} (K : Kn l) : (ringsL l).length ≤ 10 := Nat.le_trans (List.length_filterMap_le _ _) K.keys.1
theorem fm_filter {α : Type} (l : List α) (p : α → Bool) : (l.filterMap fun a => if p a then some a else none) = l.filter p := by
  induction l with
  | nil => rfl
  | cons a l ih =>
    rw [List.filterMap_cons, List.filter_cons]
    by_cases c : p a = true
    · rw [if_pos c, if_pos c, ih]
    · rw [if_neg c, if_neg c, ih]
theorem leadD_nil {neg : Bool} {l : List (Int × Int)} {K : D → Prop} (k : K (.bl (if neg then !l.isEmpty else l.isEmpty))) : eqE neg (leadD l) (.lst []) K := by
  refine eqE_nil (n := 2) (.lst _ _ fun d hd => ?_) (by decide) ?_
  · obtain ⟨p, _, rfl⟩ := List.mem_map.mp hd
    exact .tup _ _ fun d hd => by
      rcases List.mem_cons.mp hd with e | e
      · rw [e]; exact .int _ _
      · rw [List.mem_singleton.mp e]; exact .int _ _
  · cases l <;> exact k
theorem pu_shut_of (sa : Option Addr) (ds : List D) (Kd : D → Prop) (KX : Exn → Prop) (hl : ds.length = 1) (h : sp_shut_of sa ds Kd KX) : m_shut_of sa (startS N_shut_of.length ds) { nx := fun _ => true = false ∧ Kd .non, rt := Kd, ex := KX } := by
  obtain ⟨l, rfl, K, k⟩ := h
  have hr := ringsL_len K
  refine ⟨l, rfl, K, by rw [List.length_map]; omega, lcD_fm (fun d => match d with | .tup r => (match intsOf r with | some ns => if shutL l ns then some (tupD ns) else none | none => none) | _ => none) (fun d hd Kx hK => ?_) ?_⟩
  · obtain ⟨r, _, rfl⟩ := List.mem_map.mp hd
    have hK : Kx (match intsOf (r.map D.int) with | some ns => if shutL l ns then some (tupD ns) else none | none => none) := hK
    rw [intsOf_ints] at hK
    refine ⟨_, rfl, l, r, rfl, K, Nat.zero_le _, leadD_nil ?_⟩
    rw [out_empty]
    refine ite2 (fun c => ?_) (fun c => ?_)
    · have c : shutL l r = true := c
      have hK : Kx (if shutL l r then some (tupD r) else none) := hK
      rw [if_pos c] at hK
      exact hK
    · have c : ¬ shutL l r = true := c
      have hK : Kx (if shutL l r then some (tupD r) else none) := hK
      rw [if_neg c] at hK
      exact hK
  · rw [fm_map tupD _ (fun r => if shutL l r then some r else none) tupD _ (fun r _ => by
      show (match intsOf (r.map D.int) with | some ns => if shutL l ns then some (tupD ns) else none | none => none) = _
      rw [intsOf_ints]
      show (if shutL l r then some (tupD r) else none) = _
      split <;> rfl), fm_filter]
    exact k
/-! ### rings, shut_rings -/
def sp_rings : Spec := fun _ ds Kd _ => ∃ b l, ds = [.int b, leadD l] ∧ Lead b l ∧ 1 ≤ b ∧ b ≤ 10 ∧ Kd (.lst ((ringsL (kn l)).map tupD))
abbrev N_rings : List Str := ["boxes", "lead"]
abbrev ps_rings : List Str := ["boxes", "lead"]
def m_rings (sa : Option Addr) : MSt :=
  (mSeq (mExpr (mCallU sa sp_need_lead (aCons (mVar 0) (aCons (mVar 1) aNil))))
  (mRet (mCallU sa sp_rings_of (aCons (mCallU sa sp_real_pairs (aCons (mVar 1) aNil)) aNil))))
theorem pu_rings (sa : Option Addr) (ds : List D) (Kd : D → Prop) (KX : Exn → Prop) (hl : ds.length = 2) (h : sp_rings sa ds Kd KX) : m_rings sa (startS N_rings.length ds) { nx := fun _ => true = false ∧ Kd .non, rt := Kd, ex := KX } := by
  obtain ⟨b, l, rfl, L, b0, b1, k⟩ := h
  exact ⟨b, l, rfl, L, b0, b1, b, l, rfl, L, by omega, b1, kn l, rfl, .of L b1, k⟩
def sp_shut_rings : Spec := fun _ ds Kd _ => ∃ b l, ds = [.int b, leadD l] ∧ Lead b l ∧ 1 ≤ b ∧ b ≤ 10 ∧ Kd (.lst (((ringsL (kn l)).filter (shutL (kn l))).map tupD))
abbrev N_shut_rings : List Str := ["boxes", "lead"]
abbrev ps_shut_rings : List Str := ["boxes", "lead"]
def m_shut_rings (sa : Option Addr) : MSt :=
  (mSeq (mExpr (mCallU sa sp_need_lead (aCons (mVar 0) (aCons (mVar 1) aNil))))
  (mRet (mCallU sa sp_shut_of (aCons (mCallU sa sp_real_pairs (aCons (mVar 1) aNil)) aNil))))
theorem pu_shut_rings (sa : Option Addr) (ds : List D) (Kd : D → Prop) (KX : Exn → Prop) (hl : ds.length = 2) (h : sp_shut_rings sa ds Kd KX) : m_shut_rings sa (startS N_shut_rings.length ds) { nx := fun _ => true = false ∧ Kd .non, rt := Kd, ex := KX } := by
  obtain ⟨b, l, rfl, L, b0, b1, k⟩ := h
  exact ⟨b, l, rfl, L, b0, b1, b, l, rfl, L, by omega, b1, kn l, rfl, .of L b1, k⟩
/-! ### _law_is_shut -/
def sp__law_is_shut : Spec := fun _ ds Kd _ => ∃ l r, ds = [.dic (kvD l), tupD r] ∧ Kn l ∧ Kd (.bl (shutL l r))
abbrev N__law_is_shut : List Str := ["_law_known_here", "_law_ring", "_law_goal"]
abbrev ps__law_is_shut : List Str := ["_law_known_here", "_law_ring"]
def m__law_is_shut (sa : Option Addr) : MSt :=
  (mRet (m2 (eqE false) (mLc (.nm 2) [2] (mIter (mVar 0)) (mAnd (mB (m2 (inS false) (m2 getK (mVar 0) (mVar 2)) (mVar 1))) (mB (m2 (inS true) (mVar 2) (mVar 1)))) (mVar 2)) (mLst aNil)))
theorem pu__law_is_shut (sa : Option Addr) (ds : List D) (Kd : D → Prop) (KX : Exn → Prop) (hl : ds.length = 2) (h : sp__law_is_shut sa ds Kd KX) : m__law_is_shut sa (startS N__law_is_shut.length ds) { nx := fun _ => false = false ∧ Kd .non, rt := Kd, ex := KX } := by
  obtain ⟨l, r, rfl, K, k⟩ := h
  have hlen := K.L.len (by decide)
  refine ⟨by unfold kvD; rw [List.length_map, List.length_map]; omega, ?_⟩
  have e : (kvD l).map (fun p => D.int p.1) = (l.map (·.1)).map D.int := by
    unfold kvD
    rw [List.map_map, List.map_map]
    rfl
  show lcD _ _ _ _ ((kvD l).map fun p => D.int p.1) _
  rw [e]
  refine lcD_fm (fun d => match d with | .int g => if ((look l g).getD 0) ∈ r ∧ g ∉ r then some (.int g) else none | _ => none) (fun d hd Kx hK => ?_) ?_
  · obtain ⟨g, hg, rfl⟩ := List.mem_map.mp hd
    have hK : Kx (if ((look l g).getD 0) ∈ r ∧ g ∉ r then some (.int g) else none) := hK
    refine ⟨_, rfl, getK_at hg ?_⟩
    refine inS_tup (i := (look l g).getD 0) (ns := r) ?_
    refine ite2 (fun c2 => ?_) (fun c2 => ?_)
    · have c2 : (look l g).getD 0 ∈ r := by simpa using c2
      refine inS_tup (i := g) (ns := r) ?_
      refine ite2 (fun c => ?_) (fun c => ?_)
      · have c : g ∉ r := by simpa using c
        rw [if_pos ⟨c2, c⟩] at hK
        exact hK
      · have c : g ∈ r := by simpa using c
        rw [if_neg fun h => h.2 c] at hK
        exact hK
    · have c2 : ¬ (look l g).getD 0 ∈ r := by simpa using c2
      rw [if_neg fun h => c2 h.1] at hK
      exact hK
  · rw [fm_map D.int _ (fun g => if ((look l g).getD 0) ∈ r ∧ g ∉ r then some g else none) D.int _ (fun g _ => by show (if _ then _ else _) = _; split <;> rfl)]
    refine ⟨Nat.zero_le _, eqE_nil (n := 1) (.lst _ _ (Dk_ints _ _)) (by decide) ?_⟩
    have e : (((l.map (·.1)).filterMap fun g => if ((look l g).getD 0) ∈ r ∧ g ∉ r then some g else none).map D.int).isEmpty = shutL l r := by
      unfold shutL
      rw [show ∀ xs : List Int, (xs.map D.int).isEmpty = xs.isEmpty from fun xs => by cases xs <;> rfl, fm_empty]
      congr 1
      funext g
      by_cases h1 : g ∈ r <;> by_cases h2 : (look l g).getD 0 ∈ r <;> simp [h1, h2]
    rw [e]
    exact k
/-! ### _law_grown, _law_rings -/
def sp__law_grown (m : Nat) : Spec := fun _ ds Kd _ => ∃ l b u, ds = [.dic (kvD l), tupD u.reverse] ∧ Kn l ∧ 0 ≤ b ∧ b < 10 ∧ Pth l b u ∧ 11 ≤ u.length + m ∧ m ≤ 11 ∧ Kd (.lst ((res l b u).map tupD))
abbrev N__law_grown : List Str := ["_law_known_here", "_law_some", "_law_last", "_law_found", "_law_goal"]
abbrev ps__law_grown : List Str := ["_law_known_here", "_law_some"]
def m__law_grown (m : Nat) (sa : Option Addr) : MSt :=
  (mSeq (mSet 2 (m2 ixD (mVar 1) (mNeg (mC (.int 1)))))
  (mSeq (mSetF 3 (mLst aNil))
  (mSeq (mIfS (mAnd (mB (m2 (ordD pGt) (mCall lenD (aCons (mVar 1) aNil)) (mC (.int 1)))) (mB (m2 (eqE false) (mGet1 (mVar 0) (m2 ixD (mVar 1) (mC (.int 0)))) (mVar 2)))) (mAppend 3 (mVar 1)) mNext)
  (mSeq (mFor (.nm 4) (mIter (mCall sortedD (aCons (mVar 0) aNil))) (mIfS (mAnd (mB (m2 (eqE false) (m2 getK (mVar 0) (mVar 4)) (mVar 2))) (mAnd (mB (m2 (ordD pGt) (mVar 4) (m2 ixD (mVar 1) (mC (.int 0))))) (mB (m2 (inS true) (mVar 4) (mVar 1))))) (mExtend 3 (mCallU sa (sp__law_grown m) (aCons (mVar 0) (aCons (m2 addD (mVar 1) (mTup (aCons (mVar 4) aNil))) aNil)))) mNext))
  (mRetO 3)))))
theorem atI_end {α : Type} (xs : List α) (x : α) : atI (xs ++ [x]) (-1) = some x := atI_last xs x
theorem pu__law_grown (m : Nat) (sa : Option Addr) (ds : List D) (Kd : D → Prop) (KX : Exn → Prop) (hl : ds.length = 2) (h : sp__law_grown (m + 1) sa ds Kd KX) : m__law_grown m sa (startS N__law_grown.length ds) { nx := fun _ => true = false ∧ Kd .non, rt := Kd, ex := KX } := by
  obtain ⟨l, b, u, rfl, K, b0, b1, p, hm, hm2, k⟩ := h
  have hk := K.keys
  have hul := p.len K ⟨b0, b1⟩
  cases u with
  | nil => exact absurd p.ch (fun h => h)
  | cons x r =>
    have e1 : (x :: r).reverse.map D.int = r.reverse.map D.int ++ [D.int x] := by simp
    obtain ⟨v, ev, hv⟩ := p.ex
    have e2 : (x :: r).reverse = b :: v.reverse := by rw [ev]; simp
    have at0 : ∀ (K : D → Prop), K (.int b) → ixD (tupD (x :: r).reverse) (.int 0) K := fun K hK => by
      refine ixD_tup (d := .int b) ?_ hK
      rw [e2]
      exact atI_nat (j := 0) rfl
    refine ixD_tup (d := .int x) (by rw [e1]; exact atI_end _ _) ?_
    refine ⟨Nat.zero_le _, fun q => ?_⟩
    -- the loop over the goals, then the end
    have loop : ∀ p1 : List (List Int), p1.length ≤ 1 → p1 ++ (sortI (l.map (·.1))).flatMap (part2 l b x r) = res l b (x :: r) →
        mSeq (mFor (.nm 4) (mIter (mCall sortedD (aCons (mVar 0) aNil))) (mIfS (mAnd (mB (m2 (eqE false) (m2 getK (mVar 0) (mVar 4)) (mVar 2))) (mAnd (mB (m2 (ordD pGt) (mVar 4) (m2 ixD (mVar 1) (mC (.int 0))))) (mB (m2 (inS true) (mVar 4) (mVar 1))))) (mExtend 3 (mCallU sa (sp__law_grown m) (aCons (mVar 0) (aCons (m2 addD (mVar 1) (mTup (aCons (mVar 4) aNil))) aNil)))) mNext))
          (mRetO 3) [some (.sh (.dic (kvD l))), some (.sh (tupD (x :: r).reverse)), some (.sh (.int x)), some (.own q (.lst (p1.map tupD))), none] { nx := fun _ => true = false ∧ Kd .non, rt := Kd, ex := KX } := by
      intro p1 hp1 hres
      refine sortedD_dic ?_
      rw [keys_kv]
      refine forD_at (fun i env => ∃ e4, env = [some (.sh (.dic (kvD l))), some (.sh (tupD (x :: r).reverse)), some (.sh (.int x)), some (.own q (.lst ((p1 ++ ((sortI (l.map (·.1))).take i).flatMap (part2 l b x r)).map tupD))), e4]) ⟨none, by rw [List.take_zero, List.flatMap_nil, List.append_nil]⟩ ?_ ?_
      · rintro i d env nx hi ⟨e4, rfl⟩ hn
        rw [List.getElem?_map] at hi
        cases hg : (sortI (l.map (·.1)))[i]? with
        | none => rw [hg] at hi; cases hi
        | some g =>
          rw [hg] at hi
          cases hi
          have hgm := hk.2 g (List.mem_of_getElem? hg)
          have hnext : ((sortI (l.map (·.1))).take (i + 1)).flatMap (part2 l b x r) = ((sortI (l.map (·.1))).take i).flatMap (part2 l b x r) ++ part2 l b x r g := by
            rw [List.take_add_one, hg, List.flatMap_append]
            simp
          have skip : part2 l b x r g = [] → nx [some (.sh (.dic (kvD l))), some (.sh (tupD (x :: r).reverse)), some (.sh (.int x)), some (.own q (.lst ((p1 ++ ((sortI (l.map (·.1))).take i).flatMap (part2 l b x r)).map tupD))), some (.sh (.int g))] := fun e => hn _ ⟨_, by rw [hnext, e, List.append_nil]⟩
          have p2no : ¬ okg l b x (x :: r) g → part2 l b x r g = [] := fun h => by unfold part2; rw [if_neg h]
          obtain ⟨y, hy⟩ := look_some hgm.1
          refine ⟨_, rfl, getK_at hgm.1 ?_⟩
          rw [hy]
          refine eqE_int (i := y) (j := x) ?_
          refine ite2 (fun c => ?_) (fun c => ?_)
          · have c : y = x := by simpa using c
            refine at0 _ ?_
            refine ite2 (fun c2 => ?_) (fun c2 => ?_)
            · have c2 : b < g := of_decide_eq_true c2
              refine inS_tup (i := g) (ns := (x :: r).reverse) ?_
              refine ite2 (fun c3 => ?_) (fun c3 => ?_)
              · have c3 : g ∉ x :: r := fun h => neT c3 (List.mem_reverse.mpr h)
                have hok : okg l b x (x :: r) g := ⟨by rw [hy, c], c2, c3⟩
                have e3 : (x :: r).reverse.map D.int ++ [D.int g] = (g :: x :: r).reverse.map D.int := by simp
                refine ⟨z1, sz_ok ?_, ?_⟩
                · rw [List.length_map, List.length_reverse]
                  show (x :: r).length + 1 ≤ _
                  omega
                · refine ⟨l, b, g :: x :: r, (by
                    show [D.dic (kvD l), D.tup ((x :: r).reverse.map D.int ++ [D.int g])] = _
                    rw [e3]), K, b0, b1, p.cons hok, by rw [List.length_cons]; omega, by omega, ?_, ?_⟩
                  · have h1 := res_len (l := l) (b := b) (u := g :: x :: r)
                    have h2 : (((sortI (l.map (·.1))).take i).flatMap (part2 l b x r)).length ≤ 10 := by
                      have : ∀ ks : List Int, (ks.flatMap (part2 l b x r)).length ≤ ks.length := fun ks => by
                        induction ks with
                        | nil => simp
                        | cons k ks ih =>
                          rw [List.flatMap_cons, List.length_append, List.length_cons]
                          have : (part2 l b x r k).length ≤ 1 := by
                            unfold part2
                            split
                            · exact res_len
                            · simp
                          omega
                      exact Nat.le_trans (this _) (Nat.le_trans (List.length_take_le' _ _) hk.1)
                    exact sz_ok (by rw [List.length_map, List.length_map, List.length_append]; omega)
                  · have e5 : part2 l b x r g = res l b (g :: x :: r) := by unfold part2; rw [if_pos hok]
                    refine hn _ ⟨some (.sh (.int g)), ?_⟩
                    rw [hnext, e5, ← List.append_assoc, List.map_append (l₁ := p1 ++ _)]
                    rfl
              · have c3 : g ∈ x :: r := List.mem_reverse.mp (neF c3)
                exact skip (p2no fun h => h.2.2 c3)
            · have c2 : ¬ b < g := fun h => c2 (decide_eq_true h)
              exact skip (p2no fun h => c2 h.2.1)
          · have c : ¬ y = x := by simpa using c
            refine skip (p2no fun h => c ?_)
            have := h.1
            rw [hy] at this
            exact Option.some.inj this
      · rintro env ⟨e4, rfl⟩
        rw [List.length_map, List.take_length, hres]
        exact k
    show (if pGt (((x :: r).reverse.map D.int).length : Int) 1 = true then _ else _)
    have step := grown_step K p (sortI_perm (l.map (·.1)))
    by_cases c : r = []
    · rw [if_neg (by rw [c]; exact fun h => absurd (of_decide_eq_true h) (by show ¬ (1 : Int) < ((1 : Nat) : Int); decide))]
      have hn : ¬ (r ≠ [] ∧ look l b = some x) := fun h => h.1 c
      rw [if_neg hn] at step
      exact loop [] (by simp) step
    · have hlen : 1 < (((x :: r).reverse.map D.int).length : Int) := by
        rw [List.length_map, List.length_reverse, List.length_cons]
        have := List.length_pos_iff.mpr c
        omega
      rw [if_pos (decide_eq_true hlen)]
      refine ⟨⟨_, rfl⟩, at0 _ ?_⟩
      refine get1_of (i := b) ?_
      rw [valD_kv, getD_opt]
      refine eqE_opt (o := look l b) (p := some x) ?_
      refine ite2 (fun c2 => ?_) (fun c2 => ?_)
      · have c2 : look l b = some x := by simpa using c2
        rw [if_pos ⟨c, c2⟩] at step
        exact ⟨sz_lt (by decide), loop [(x :: r).reverse] (by simp) step⟩
      · have c2 : ¬ look l b = some x := by simpa using c2
        rw [if_neg fun h => c2 h.2] at step
        exact loop [] (by simp) step
def sp__law_rings : Spec := fun _ ds Kd _ => ∃ l, ds = [.dic (kvD l)] ∧ Kn l ∧ Kd (.lst ((ringsL l).map tupD))
abbrev N__law_rings : List Str := ["_law_known_here", "_law_found", "_law_box", "_law_ring"]
abbrev ps__law_rings : List Str := ["_law_known_here"]
def m__law_rings (sa : Option Addr) : MSt :=
  (mSeq (mSetF 1 (mLst aNil))
  (mSeq (mFor (.nm 2) (mIter (mCall sortedD (aCons (mVar 0) aNil))) (mFor (.nm 3) (mIter (mCallU sa (sp__law_grown 11) (aCons (mVar 0) (aCons (mTup (aCons (mVar 2) aNil)) aNil)))) (mAppend 1 (mVar 3))))
  (mRetO 1)))
theorem pu__law_rings (sa : Option Addr) (ds : List D) (Kd : D → Prop) (KX : Exn → Prop) (hl : ds.length = 1) (h : sp__law_rings sa ds Kd KX) : m__law_rings sa (startS N__law_rings.length ds) { nx := fun _ => true = false ∧ Kd .non, rt := Kd, ex := KX } := by
  obtain ⟨l, rfl, K, k⟩ := h
  have hk := K.keys
  refine ⟨Nat.zero_le _, fun q => ?_⟩
  refine sortedD_dic ?_
  rw [keys_kv]
  refine forD_at (fun i env => ∃ e2 e3, env = [some (.sh (.dic (kvD l))), some (.own q (.lst ((((sortI (l.map (·.1))).take i).filterMap (ringOf l)).map tupD))), e2, e3]) ⟨none, none, by rw [List.take_zero]; rfl⟩ ?_ ?_
  · rintro i d env nx hi ⟨e2, e3, rfl⟩ hn
    rw [List.getElem?_map] at hi
    cases hg : (sortI (l.map (·.1)))[i]? with
    | none => rw [hg] at hi; cases hi
    | some g =>
      rw [hg] at hi
      cases hi
      have hgm := hk.2 g (List.mem_of_getElem? hg)
      have hnext : ((sortI (l.map (·.1))).take (i + 1)).filterMap (ringOf l) = ((sortI (l.map (·.1))).take i).filterMap (ringOf l) ++ (ringOf l g).toList := by
        rw [List.take_add_one, hg, List.filterMap_append]
        show _ ++ List.filterMap (ringOf l) [g] = _
        rw [List.filterMap_cons]
        cases ringOf l g <;> rfl
      have hlen : (((sortI (l.map (·.1))).take i).filterMap (ringOf l)).length ≤ 10 := Nat.le_trans (List.length_filterMap_le _ _) (Nat.le_trans (List.length_take_le' _ _) hk.1)
      refine ⟨_, rfl, z1, l, g, [g], rfl, K, hgm.2.1, hgm.2.2, .one l g, by simp, by omega, ?_⟩
      rw [res_one]
      cases hr : ringOf l g with
      | none => exact hn _ ⟨_, _, by rw [hnext, hr, Option.toList_none, List.append_nil]; rfl⟩
      | some r =>
        refine ⟨_, rfl, sz_lt (by rw [List.length_map]; omega), hn _ ⟨some (.sh (.int g)), some (.sh (tupD r)), ?_⟩⟩
        rw [hnext, hr, List.map_append]
        rfl
  · rintro env ⟨e2, e3, rfl⟩
    rw [List.length_map, List.take_length]
    exact k
end L3
/-! P3: single moves: what the code computes -/
namespace L3
open PySem PySem.Spec PyProof.Rows L2
theorem cp_ne : ¬ (("swap" : Str) = "copy") := by decide +kernel
def mvD : Mv → D
  | .cp a b => .tup [.str "copy", .int a, .int b]
  | .sw a b => .tup [.str "swap", .int a, .int b]
theorem Dk_moves (ms : List Mv) (h : ms.length ≤ 1000) : Dk 2 (.lst (ms.map mvD)) := .lst _ _ fun d hd => by
  obtain ⟨m, _, rfl⟩ := List.mem_map.mp hd
  cases m with
  | cp a b =>
    refine .tup _ _ fun d hd => ?_
    simp only [List.mem_cons, List.mem_nil_iff, or_false] at hd
    rcases hd with rfl | rfl | rfl
    · exact .str _ _ (by decide +kernel)
    · exact .int _ _
    · exact .int _ _
  | sw a b =>
    refine .tup _ _ fun d hd => ?_
    simp only [List.mem_cons, List.mem_nil_iff, or_false] at hd
    rcases hd with rfl | rfl | rfl
    · exact .str _ _ (by decide +kernel)
    · exact .int _ _
    · exact .int _ _
def wl (n : Nat) (F : Int → Int) : List D := (List.range n).map fun i => .int (F (i : Nat))
theorem wl_len (n : Nat) (F : Int → Int) : (wl n F).length = n := by unfold wl; rw [List.length_map, List.length_range]
theorem wl_get {n i : Nat} (F : Int → Int) (h : i < n) : (wl n F)[i]? = some (.int (F i)) := by
  unfold wl
  rw [List.getElem?_map, List.getElem?_range h]
  rfl
theorem wl_at {n : Nat} {a : Int} (F : Int → Int) (h0 : 0 ≤ a) (h : a < n) : atI (wl n F) a = some (.int (F a)) := by
  have e : a = ((a.toNat : Nat) : Int) := by omega
  rw [e]
  exact atI_nat (wl_get F (by omega))
theorem wl_ix {n : Nat} {a : Int} (F : Int → Int) (h0 : 0 ≤ a) (h : a < n) : ixN (wl n F).length a = some a.toNat := by
  rw [wl_len]
  unfold ixN
  rw [if_pos h0, if_pos h]
theorem wl_set {n : Nat} {a v : Int} (F : Int → Int) (h0 : 0 ≤ a) (h : a < n) : (wl n F).set a.toNat (.int v) = wl n (fun x => if x = a then v else F x) := by
  apply List.ext_getElem?
  intro i
  rw [List.getElem?_set, wl_len]
  by_cases hi : i < n
  · rw [wl_get _ hi, wl_get _ hi]
    by_cases c : a.toNat = i
    · rw [if_pos c, if_pos (by omega), if_pos (by omega)]
    · rw [if_neg c, if_neg (by omega)]
  · have h1 : (wl n F)[i]? = none := List.getElem?_eq_none (by rw [wl_len]; omega)
    have h2 : (wl n (fun x => if x = a then v else F x))[i]? = none := List.getElem?_eq_none (by rw [wl_len]; omega)
    rw [h1, h2]
    split
    · split
      · omega
      · rfl
    · rfl
theorem wl_ext {n : Nat} {F G : Int → Int} (h : ∀ x, 0 ≤ x → x < n → F x = G x) : wl n F = wl n G := by
  unfold wl
  apply List.map_congr_left
  intro i hi
  have := List.mem_range.mp hi
  rw [h i (by omega) (by omega)]
theorem wl_of {r : List D} (h : ∀ y ∈ r, ∃ v, y = D.int v) : ∃ F, r = wl r.length F := by
  refine ⟨fun x => match r[x.toNat]? with | some (.int v) => v | _ => 0, ?_⟩
  apply List.ext_getElem?
  intro i
  by_cases hi : i < r.length
  · rw [wl_get _ hi, List.getElem?_eq_getElem hi]
    obtain ⟨v, hv⟩ := h _ (List.getElem_mem hi)
    rw [hv]
    rw [show ((i : Nat) : Int).toNat = i by omega, List.getElem?_eq_getElem hi, hv]
  · rw [List.getElem?_eq_none (by omega), List.getElem?_eq_none (by rw [wl_len]; omega)]
theorem wl_dk (n m : Nat) (F : Int → Int) : Dk (m + 1) (.lst (wl n F)) := .lst _ _ fun d hd => by
  obtain ⟨i, _, rfl⟩ := List.mem_map.mp hd
  exact .int _ _
/-! ### _law_worths -/
def sp__law_worths : Spec := fun sa ds Kd _ => ∃ a b, sa = some a ∧ ds = [.ref a, .int b] ∧ 0 ≤ b ∧ b ≤ 1000 ∧ ∀ F, Kd (.lst (wl b.toNat F))
abbrev N__law_worths : List Str := ["_law_state", "_law_boxes_here", "_law_far", "_law_box"]
abbrev ps__law_worths : List Str := ["_law_state", "_law_boxes_here"]
def m__law_worths (sa : Option Addr) : MSt :=
  (mSeq (mSet 2 (m2 ixD (mLst (aCons (mC (.int 5)) (aCons (mC (.int 100)) (aCons (m2 powD (mC (.int 10)) (mC (.int 29))) aNil)))) (mCallU sa sp__law_drawn (aCons (mVar 0) (aCons (mC (.int 3)) aNil)))))
  (mRet (mLc (.nm 3) [3] (mRange (aCons (mVar 1) aNil)) tYesM (m2 subD (mCallU sa sp__law_drawn (aCons (mVar 0) (aCons (mVar 2) aNil))) (m2 mulD (mCallU sa sp__law_drawn (aCons (mVar 0) (aCons (mC (.int 2)) aNil))) (mVar 2))))))
theorem pu__law_worths (sa : Option Addr) (ds : List D) (Kd : D → Prop) (KX : Exn → Prop) (hl : ds.length = 2) (h : sp__law_worths sa ds Kd KX) : m__law_worths sa (startS N__law_worths.length ds) { nx := fun _ => false = false ∧ Kd .non, rt := Kd, ex := KX } := by
  obtain ⟨a, b, rfl, rfl, b0, b1, k⟩ := h
  refine ⟨⟨by decide, by decide, by decide⟩, z3, dr (by decide) (by decide) fun i i0 i1 => ?_⟩
  have rest : ∀ far : Int, 0 < far → far ≤ 10 ^ 29 → mRet (mLc (.nm 3) [3] (mRange (aCons (mVar 1) aNil)) tYesM (m2 subD (mCallU (some a) sp__law_drawn (aCons (mVar 0) (aCons (mVar 2) aNil))) (m2 mulD (mCallU (some a) sp__law_drawn (aCons (mVar 0) (aCons (mC (.int 2)) aNil))) (mVar 2)))) [some (.sh (.ref a)), some (.sh (.int b)), some (.sh (.int far)), none] { nx := fun _ => false = false ∧ Kd .non, rt := Kd, ex := KX } := by
    intro far f0 f1
    refine ⟨by omega, by omega, by rw [List.length_map, List.length_range]; omega, lcD_any (fun y => ∃ v, y = D.int v) (fun d hd K hK => ?_) fun r hr hp => ?_⟩
    · obtain ⟨j, _, rfl⟩ := List.mem_map.mp hd
      refine ⟨_, rfl, dr f0 (Int.lt_of_le_of_lt f1 (by decide)) fun x x0 x1 => dr (by decide) (by decide) fun y y0 y1 => ⟨.inl ⟨by omega, by omega⟩, hK _ ⟨_, rfl⟩⟩⟩
    · obtain ⟨F, hF⟩ := wl_of hp
      rw [List.length_map, List.length_range] at hr
      show Kd (.lst r)
      rw [hF, hr]
      exact k F
  have hi : i = 0 ∨ i = 1 ∨ i = 2 := by omega
  rcases hi with rfl | rfl | rfl
  · exact ixD_lst rfl (rest 5 (by decide) (by decide))
  · exact ixD_lst rfl (rest 100 (by decide) (by decide))
  · exact ixD_lst rfl (rest (10 ^ 29) (by decide) (by decide))
/-! ### _law_moved -/
def Mv.inb (n : Int) : Mv → Prop
  | .cp a b => 0 ≤ a ∧ a < n ∧ 0 ≤ b ∧ b < n
  | .sw a b => 0 ≤ a ∧ a < n ∧ 0 ≤ b ∧ b < n
def sp__law_moved : Spec := fun _ ds Kd _ => ∃ n F ms, ds = [.lst (wl n F), .lst (ms.map mvD)] ∧ (∀ m ∈ ms, Mv.inb n m) ∧ Kd (.lst (wl n (run ms F)))
abbrev N__law_moved : List Str := ["_law_worths_here", "_law_moves", "_law_found", "_law_word", "_law_one", "_law_other", "_law_had"]
abbrev ps__law_moved : List Str := ["_law_worths_here", "_law_moves"]
def m__law_moved (sa : Option Addr) : MSt :=
  (mSeq (mSetF 2 (mCall listD (aCons (mVar 0) aNil)))
  (mSeq (mFor (.tp [3, 4, 5]) (mIter (mVar 1)) (mIfS (mB (m2 (eqE false) (mVar 3) (mC (.str "copy")))) (mSetIx 2 (mVar 4) (m2 ixD (mVar 2) (mVar 5))) (mSeq (mSetL 6 (m2 ixD (mVar 2) (mVar 4)))
      (mSeq (mSetIx 2 (mVar 4) (m2 ixD (mVar 2) (mVar 5)))
      (mSetIx 2 (mVar 5) (mVar 6))))))
  (mRetO 2)))
theorem pu__law_moved (sa : Option Addr) (ds : List D) (Kd : D → Prop) (KX : Exn → Prop) (hl : ds.length = 2) (h : sp__law_moved sa ds Kd KX) : m__law_moved sa (startS N__law_moved.length ds) { nx := fun _ => true = false ∧ Kd .non, rt := Kd, ex := KX } := by
  obtain ⟨n, F, ms, rfl, hb, k⟩ := h
  refine fun q => ?_
  refine forD_at (fun i env => ∃ e3 e4 e5 e6, env = [some (.sh (.lst (wl n F))), some (.sh (.lst (ms.map mvD))), some (.own q (.lst (wl n (run (ms.take i) F)))), e3, e4, e5, e6]) ⟨_, _, _, _, rfl⟩ ?_ ?_
  · rintro i d env nx hi ⟨e3, e4, e5, e6, rfl⟩ hn
    rw [List.getElem?_map] at hi
    cases hm : ms[i]? with
    | none => rw [hm] at hi; cases hi
    | some m =>
      rw [hm] at hi
      cases hi
      have hin := hb m (List.mem_of_getElem? hm)
      have hnext : run (ms.take (i + 1)) F = stp (run (ms.take i) F) m := by
        rw [List.take_add_one, hm, run_app]
        rfl
      generalize run (ms.take i) F = G at *
      cases m with
      | cp a b =>
        obtain ⟨a0, a1, b0, b1⟩ := hin
        refine ⟨_, rfl, eqE_str ?_⟩
        refine ixD_lst (wl_at G b0 b1) ⟨rfl, ?_⟩
        show match ixN (wl n G).length a with | some j => _ | none => False
        rw [wl_ix G a0 a1]
        refine hn _ ⟨some (.sh (.str "copy")), some (.sh (.int a)), some (.sh (.int b)), e6, ?_⟩
        rw [hnext]
        have e : wl n (stp G (.cp a b)) = (wl n G).set a.toNat (.int (G b)) := (wl_set G a0 a1).symm
        rw [e]
        rfl
      | sw a b =>
        obtain ⟨a0, a1, b0, b1⟩ := hin
        refine ⟨_, rfl, eqE_str ?_⟩
        refine ixD_lst (wl_at G a0 a1) ⟨rfl, ?_⟩
        refine ixD_lst (wl_at G b0 b1) ⟨rfl, ?_⟩
        show match ixN (wl n G).length a with | some j => _ | none => False
        rw [wl_ix G a0 a1]
        refine ⟨rfl, ?_⟩
        show match ixN ((wl n G).set a.toNat (.int (G b))).length b with | some j => _ | none => False
        rw [wl_set G a0 a1, wl_ix _ b0 b1]
        refine hn _ ⟨some (.sh (.str "swap")), some (.sh (.int a)), some (.sh (.int b)), some (.sh (.int (G a))), ?_⟩
        rw [hnext]
        have e : wl n (stp G (.sw a b)) = (wl n fun x => if x = a then G b else G x).set b.toNat (.int (G a)) := by
          rw [wl_set _ b0 b1]
          refine wl_ext fun x _ _ => ?_
          show (if x = a then G b else if x = b then G a else G x) = if x = b then G a else if x = a then G b else G x
          by_cases h1 : x = a <;> by_cases h2 : x = b
          · rw [if_pos h1, if_pos h2, ← h1, ← h2]
          · rw [if_pos h1, if_neg h2, if_pos h1]
          · rw [if_neg h1, if_pos h2, if_pos h2]
          · rw [if_neg h1, if_neg h2, if_neg h2, if_neg h1]
        rw [e, ← wl_set G a0 a1]
        rfl
  · rintro env ⟨e3, e4, e5, e6, rfl⟩
    rw [List.length_map, List.take_length]
    exact k
/-! ### moves that can be -/
def Mv.good (n : Int) : Mv → Prop
  | .cp a b => 0 ≤ a ∧ a < n ∧ 0 ≤ b ∧ b < n ∧ a ≠ b
  | .sw a b => 0 ≤ a ∧ a < n ∧ 0 ≤ b ∧ b < n ∧ a ≠ b
theorem Mv.good.inb {n : Int} : ∀ {m : Mv}, Mv.good n m → Mv.inb n m
  | .cp _ _, h => ⟨h.1, h.2.1, h.2.2.1, h.2.2.2.1⟩
  | .sw _ _, h => ⟨h.1, h.2.1, h.2.2.1, h.2.2.2.1⟩
inductive IsMv (n : Int) : D → Bool → Prop
  | len (xs : List D) : xs.length ≠ 3 → IsMv n (.tup xs) false
  | mk (w : Str) (i j : Int) : IsMv n (.tup [.str w, .int i, .int j]) ((decide (w = "copy") || decide (w = "swap")) && (!decide (i = j) && ((decide (0 ≤ i) && decide (i < n)) && (decide (0 ≤ j) && decide (j < n)))))
theorem Mv.good.is {n : Int} {m : Mv} (h : Mv.good n m) : IsMv n (mvD m) true := by
  cases m with
  | cp a b =>
    obtain ⟨a0, a1, b0, b1, ne⟩ := h
    have q := IsMv.mk (n := n) "copy" a b
    rw [decide_eq_true rfl, decide_eq_false ne, decide_eq_true a0, decide_eq_true a1, decide_eq_true b0, decide_eq_true b1] at q
    exact q
  | sw a b =>
    obtain ⟨a0, a1, b0, b1, ne⟩ := h
    have q := IsMv.mk (n := n) "swap" a b
    rw [show decide (("swap" : Str) = "swap") = true by decide +kernel, decide_eq_false ne, decide_eq_true a0, decide_eq_true a1, decide_eq_true b0, decide_eq_true b1, Bool.or_true] at q
    exact q
/-! ### is_move -/
theorem inS_w2 {neg : Bool} {w a b : Str} {K : D → Prop} (k : K (.bl (if neg then !(decide (w = a) || decide (w = b)) else (decide (w = a) || decide (w = b))))) : inS neg (.str w) (.tup (([a, b] : List Str).map D.str)) K := by
  unfold inS
  refine ⟨rfl, rfl, ?_⟩
  have e : inV (fv (.str w)) ((([a, b] : List Str).map D.str).map fv) = (decide (w = a) || decide (w = b)) := by
    have q : ∀ x : Str, (x == w) = decide (w = x) := fun x => by
      by_cases h : w = x
      · subst h
        rw [decide_eq_true rfl]
        exact beq_self_eq_true w
      · rw [decide_eq_false h]
        exact beq_eq_false_iff_ne.mpr (Ne.symm h)
    show (a == w || (b == w || false)) = _
    rw [Bool.or_false, q a, q b]
  rw [e]
  exact k
def sp_is_move : Spec := fun _ ds Kd _ => ∃ n d b, ds = [.int n, d] ∧ IsMv n d b ∧ Kd (.bl b)
abbrev N_is_move : List Str := ["boxes", "move"]
abbrev ps_is_move : List Str := ["boxes", "move"]
def m_is_move (sa : Option Addr) : MSt :=
  (mSeq (mIfS (mOr (mB (m2 (eqE true) (mCall lenD (aCons (mVar 1) aNil)) (mC (.int 3)))) (mOr (mB (m2 (inS true) (m2 ixD (mVar 1) (mC (.int 0))) (mC (.tup ((["copy", "swap"] : List Str).map D.str))))) (mB (m2 (eqE false) (m2 ixD (mVar 1) (mC (.int 1))) (m2 ixD (mVar 1) (mC (.int 2))))))) (mRet (mC (.bl false))) mNext)
  (mRet (mAndV (mCallU sa sp_is_box (aCons (mVar 0) (aCons (m2 ixD (mVar 1) (mC (.int 1))) aNil))) (mCallU sa sp_is_box (aCons (mVar 0) (aCons (m2 ixD (mVar 1) (mC (.int 2))) aNil))))))
theorem pu_is_move (sa : Option Addr) (ds : List D) (Kd : D → Prop) (KX : Exn → Prop) (hl : ds.length = 2) (h : sp_is_move sa ds Kd KX) : m_is_move sa (startS N_is_move.length ds) { nx := fun _ => false = false ∧ Kd .non, rt := Kd, ex := KX } := by
  obtain ⟨n, d, b, rfl, hi, k⟩ := h
  cases hi with
  | len xs h3 =>
    refine eqE_int ?_
    have e : decide ((xs.length : Int) = 3) = false := decide_eq_false (by omega)
    rw [e]
    exact k
  | mk w i j =>
    refine eqE_int ?_
    refine ixD_tup rfl (inS_w2 ?_)
    generalize (decide (w = "copy") || decide (w = "swap")) = c at k ⊢
    cases c with
    | false => exact k
    | true =>
      refine ixD_tup rfl (ixD_tup rfl (eqE_int ?_))
      generalize decide (i = j) = e at k ⊢
      cases e with
      | true => exact k
      | false =>
        refine ixD_tup rfl ⟨n, i, rfl, ?_⟩
        generalize (decide (0 ≤ i) && decide (i < n)) = f at k ⊢
        cases f with
        | false => exact k
        | true => exact ixD_tup rfl ⟨n, j, rfl, k⟩
/-! ### do_move -/
def sp_do_move : OSpec := fun xs ds Kl => ∃ (n : Nat) (F : Int → Int) (m : Mv), xs = wl n F ∧ ds = [mvD m] ∧ Mv.inb n m ∧ Kl (wl n (stp F m))
abbrev N_do_move : List Str := ["worths", "move", "word", "one", "other", "had"]
abbrev ps_do_move : List Str := ["worths", "move"]
def m_do_move (sa : Option Addr) : MSt :=
  (mSeq (mSetT (.tp [2, 3, 4]) (mVar 1))
  (mSeq (mSetL 5 (m2 ixD (mVar 0) (mVar 3)))
  (mSeq (mSetIx 0 (mVar 3) (m2 ixD (mVar 0) (mVar 4)))
  (mIfS (mB (m2 (eqE false) (mVar 2) (mC (.str "swap")))) (mSetIx 0 (mVar 4) (mVar 5)) mNext))))
theorem pu_do_move (p : Addr) (xs ds : List D) (Kl : List D → Prop) (hl : ds.length = 1) (h : sp_do_move xs ds Kl) : m_do_move none (startO N_do_move.length p xs ds) { nx := fun env => ∃ xs', env[0]? = some (some (.own p (.lst xs'))) ∧ Kl xs', rt := fun _ => False } := by
  obtain ⟨n, G, m, rfl, rfl, hin, k⟩ := h
  cases m with
  | cp a b =>
    obtain ⟨a0, a1, b0, b1⟩ := hin
    refine ⟨_, rfl, ?_⟩
    refine ixD_lst (wl_at G a0 a1) ⟨rfl, ?_⟩
    refine ixD_lst (wl_at G b0 b1) ⟨rfl, ?_⟩
    show match ixN (wl n G).length a with | some j => _ | none => False
    rw [wl_ix G a0 a1]
    refine eqE_str ⟨_, rfl, ?_⟩
    show Kl ((wl n G).set a.toNat (.int (G b)))
    rw [wl_set G a0 a1]
    exact k
  | sw a b =>
    obtain ⟨a0, a1, b0, b1⟩ := hin
    refine ⟨_, rfl, ?_⟩
    refine ixD_lst (wl_at G a0 a1) ⟨rfl, ?_⟩
    refine ixD_lst (wl_at G b0 b1) ⟨rfl, ?_⟩
    show match ixN (wl n G).length a with | some j => _ | none => False
    rw [wl_ix G a0 a1]
    refine eqE_str ⟨rfl, ?_⟩
    show match ixN ((wl n G).set a.toNat (.int (G b))).length b with | some j => _ | none => False
    rw [wl_set G a0 a1, wl_ix _ b0 b1]
    refine ⟨_, rfl, ?_⟩
    rw [← wl_set G a0 a1]
    rw [wl_set G a0 a1, wl_set _ b0 b1]
    have e : wl n (stp G (.sw a b)) = wl n fun x => if x = b then G a else if x = a then G b else G x := wl_ext fun x _ _ => by
      show (if x = a then G b else if x = b then G a else G x) = if x = b then G a else if x = a then G b else G x
      by_cases h1 : x = a <;> by_cases h2 : x = b
      · rw [if_pos h1, if_pos h2, ← h1, ← h2]
      · rw [if_pos h1, if_neg h2, if_pos h1]
      · rw [if_neg h1, if_pos h2, if_pos h2]
      · rw [if_neg h1, if_neg h2, if_neg h2, if_neg h1]
    rw [← e]
    exact k
/-! ### done -/
def sp_done : Spec := fun _ ds Kd KX => (∃ (n : Nat) (F : Int → Int) (ms : List Mv), ds = [.lst (wl n F), .lst (ms.map mvD)] ∧ n ≤ 1000 ∧ (∀ m ∈ ms, Mv.good n m) ∧ Kd (.lst (wl n (run ms F)))) ∨
  ∃ (n : Nat) (F : Int → Int) (ms : List Mv) (bad : D) (rest : List D), ds = [.lst (wl n F), .lst (ms.map mvD ++ bad :: rest)] ∧ n ≤ 1000 ∧ (∀ m ∈ ms, Mv.good n m) ∧ IsMv n bad false ∧ KX ⟨"BadMove", some (ms.length : Nat)⟩
abbrev N_done : List Str := ["worths", "moves", "found", "number", "move"]
abbrev ps_done : List Str := ["worths", "moves"]
def m_done (sa : Option Addr) : MSt :=
  (mSeq (mSetF 2 (mCall listD (aCons (mVar 0) aNil)))
  (mSeq (mFor (.tp [3, 4]) (mEnum (mVar 1)) (mSeq (mIfS (mNot (mB (mCallU sa sp_is_move (aCons (mCall lenD (aCons (mVar 2) aNil)) (aCons (mVar 4) aNil))))) (mRaiseN "BadMove" (mVar 3)) mNext)
    (mCallO 2 sp_do_move (aCons (mVar 4) aNil))))
  (mRetO 2)))
theorem pu_done (sa : Option Addr) (ds : List D) (Kd : D → Prop) (KX : Exn → Prop) (hl : ds.length = 2) (h : sp_done sa ds Kd KX) : m_done sa (startS N_done.length ds) { nx := fun _ => true = false ∧ Kd .non, rt := Kd, ex := KX } := by
  have main : ∀ (n : Nat) (F : Int → Int) (ms : List Mv) (tl : List D), n ≤ 1000 → (∀ m ∈ ms, Mv.good n m) → (tl = [] → Kd (.lst (wl n (run ms F)))) → (∀ bad rest, tl = bad :: rest → IsMv n bad false ∧ KX ⟨"BadMove", some (ms.length : Nat)⟩) →
      m_done sa (startS N_done.length [.lst (wl n F), .lst (ms.map mvD ++ tl)]) { nx := fun _ => true = false ∧ Kd .non, rt := Kd, ex := KX } := by
    intro n F ms tl hn hg h1 h2
    refine fun q => ?_
    refine forD_at (fun i env => i ≤ ms.length ∧ ∃ e3 e4, env = [some (.sh (.lst (wl n F))), some (.sh (.lst (ms.map mvD ++ tl))), some (.own q (.lst (wl n (run (ms.take i) F)))), e3, e4]) ⟨Nat.zero_le _, _, _, rfl⟩ ?_ ?_
    · rintro i d env nx hi ⟨hle, e3, e4, rfl⟩ hnx
      rw [List.getElem?_map, List.getElem?_zipIdx] at hi
      by_cases c : i < ms.length
      · rw [List.getElem?_append_left (by rw [List.length_map]; exact c), List.getElem?_map, List.getElem?_eq_getElem c] at hi
        have hm := hg _ (List.getElem_mem c)
        have hs : run (ms.take (i + 1)) F = stp (run (ms.take i) F) ms[i] := by
          rw [List.take_add_one, List.getElem?_eq_getElem c, run_app]
          rfl
        generalize ms[i] = m at *
        cases hi
        refine ⟨_, rfl, ((wl n (run (ms.take i) F)).length : Nat), mvD m, true, rfl, by rw [wl_len]; exact hm.is, ?_⟩
        refine ⟨n, _, m, rfl, rfl, hm.inb, hnx _ ⟨c, some (.sh (.int ((0 + i : Nat) : Int))), some (.sh (mvD m)), ?_⟩⟩
        rw [hs]
        rfl
      · have e : i = ms.length := Nat.le_antisymm hle (Nat.le_of_not_lt c)
        cases tl with
        | nil =>
          rw [List.append_nil, List.getElem?_map, List.getElem?_eq_none (Nat.le_of_not_lt c)] at hi
          cases hi
        | cons bad rest =>
          obtain ⟨hb, hx⟩ := h2 bad rest rfl
          rw [List.getElem?_append_right (by rw [List.length_map]; omega), List.length_map, e, Nat.sub_self] at hi
          cases hi
          refine ⟨_, rfl, ((wl n (run (ms.take i) F)).length : Nat), bad, false, rfl, by rw [wl_len]; exact hb, ?_⟩
          show KX ⟨"BadMove", some ((0 + ms.length : Nat) : Int)⟩
          rw [Nat.zero_add]
          exact hx
    · rintro env ⟨hle, e3, e4, rfl⟩
      rw [List.length_map, List.length_zipIdx, List.length_append, List.length_map] at hle
      have e : tl = [] := List.eq_nil_of_length_eq_zero (by omega)
      subst e
      rw [List.length_map, List.length_zipIdx, List.append_nil, List.length_map, List.take_length]
      exact h1 rfl
  rcases h with ⟨n, F, ms, rfl, hn, hg, k⟩ | ⟨n, F, ms, bad, rest, rfl, hn, hg, hb, k⟩
  · have := main n F ms [] hn hg (fun _ => k) (fun _ _ e => nomatch e)
    rw [List.append_nil] at this
    exact this
  · exact main n F ms (bad :: rest) hn hg (fun e => nomatch e) (fun b r e => by cases e; exact ⟨hb, k⟩)
/-! ### moved -/
def sp_moved : Spec := fun sa ds Kd KX => ∃ (n : Nat) (F : Int → Int) (x : D), ds = [.lst (wl n F), x] ∧ 1 ≤ n ∧ n ≤ 10 ∧ sp_done sa [.lst (wl n F), x] Kd KX
abbrev N_moved : List Str := ["worths", "moves"]
abbrev ps_moved : List Str := ["worths", "moves"]
def m_moved (sa : Option Addr) : MSt :=
  (mSeq (mExpr (mCallU sa sp_need_boxes (aCons (mCall lenD (aCons (mVar 0) aNil)) aNil)))
  (mRet (mCallU sa sp_done (aCons (mVar 0) (aCons (mVar 1) aNil)))))
theorem pu_moved (sa : Option Addr) (ds : List D) (Kd : D → Prop) (KX : Exn → Prop) (hl : ds.length = 2) (h : sp_moved sa ds Kd KX) : m_moved sa (startS N_moved.length ds) { nx := fun _ => true = false ∧ Kd .non, rt := Kd, ex := KX } := by
  obtain ⟨n, F, x, rfl, h1, h2, k⟩ := h
  exact ⟨((wl n F).length : Nat), rfl, by rw [wl_len]; omega, by rw [wl_len]; omega, k⟩
end L3
set_option pp.maxSteps 400
/-! P6n: leads done at once; trees, swaps -/
namespace L3
open PySem PySem.Spec PyProof.Rows L2
def sp__law_at_once : Spec := fun _ ds Kd _ => ∃ n F l, ds = [.lst (wl n F), leadD l] ∧ n ≤ 1000 ∧ Lead n l ∧ Kd (.lst (wl n fun x => F (src l x)))
abbrev N__law_at_once : List Str := ["_law_worths_here", "_law_lead_here", "_law_known_here", "_law_box"]
abbrev ps__law_at_once : List Str := ["_law_worths_here", "_law_lead_here"]
def m__law_at_once (sa : Option Addr) : MSt :=
  (mSeq (mSet 2 (mCall dictD (aCons (mVar 1) aNil)))
  (mRet (mLc (.nm 3) [3] (mRange (aCons (mCall lenD (aCons (mVar 0) aNil)) aNil)) tYesM (m2 ixD (mVar 0) (mGetD (mVar 2) (mVar 3) (mVar 3))))))
theorem src_bd {b : Int} {l : List (Int × Int)} (L : Lead b l) {x : Int} (h0 : 0 ≤ x) (h : x < b) : 0 ≤ src l x ∧ src l x < b := by
  unfold src
  cases e : look l x with
  | none => exact ⟨h0, h⟩
  | some v =>
    have := L.bd _ (look_mem e)
    exact ⟨this.2.2.1, this.2.2.2⟩
theorem get_src (l : List (Int × Int)) (x : Int) : (valD (kvD l) x).getD (.int x) = .int (src l x) := by
  rw [valD_kv]
  unfold src
  cases look l x <;> rfl
theorem pu__law_at_once (sa : Option Addr) (ds : List D) (Kd : D → Prop) (KX : Exn → Prop) (hl : ds.length = 2) (h : sp__law_at_once sa ds Kd KX) : m__law_at_once sa (startS N__law_at_once.length ds) { nx := fun _ => false = false ∧ Kd .non, rt := Kd, ex := KX } := by
  obtain ⟨n, F, l, rfl, hn, L, k⟩ := h
  refine dict_lead L.nd ?_
  refine ⟨by rw [wl_len]; omega, by rw [wl_len]; omega, by rw [List.length_map, List.length_range, wl_len]; omega, ?_⟩
  rw [wl_len]
  refine lcD_fm (fun d => match d with | .int x => some (.int (F (src l x))) | _ => none) (fun d hd K hK => ?_) ?_
  · obtain ⟨i, hi, rfl⟩ := List.mem_map.mp hd
    have hi := List.mem_range.mp hi
    have hs := src_bd L (x := (i : Nat)) (by omega) (by omega)
    refine ⟨_, rfl, ⟨_, rfl⟩, ?_⟩
    show ixD (.lst (wl n F)) ((valD (kvD l) (i : Nat)).getD (.int (i : Nat))) _
    rw [get_src]
    exact ixD_lst (wl_at F hs.1 hs.2) hK
  · have e : ((List.range ((n : Int)).toNat).map fun i : Nat => D.int (i : Int)).filterMap (fun d => match d with | .int x => some (.int (F (src l x))) | _ => none) = wl n fun x => F (src l x) := by
      rw [List.filterMap_map]
      unfold wl
      rw [show ((n : Int)).toNat = n by omega, ← List.filterMap_eq_map']
      rfl
    rw [e]
    exact k
/-! ### around_of, tree_copies, by_swaps -/
def sp_around_of : Spec := fun _ ds Kd _ => ∃ rs : List (List Int), ds = [.lst (rs.map tupD)] ∧ rs.flatten.length ≤ 1000 ∧ Kd (.lst (rs.flatten.map .int))
abbrev N_around_of : List Str := ["some", "found", "ring"]
abbrev ps_around_of : List Str := ["some"]
def m_around_of (sa : Option Addr) : MSt :=
  (mSeq (mSetF 1 (mLst aNil))
  (mSeq (mFor (.nm 2) (mIter (mVar 0)) (mExtend 1 (mCall listD (aCons (mVar 2) aNil))))
  (mRetO 1)))
theorem pu_around_of (sa : Option Addr) (ds : List D) (Kd : D → Prop) (KX : Exn → Prop) (hl : ds.length = 1) (h : sp_around_of sa ds Kd KX) : m_around_of sa (startS N_around_of.length ds) { nx := fun _ => true = false ∧ Kd .non, rt := Kd, ex := KX } := by
  obtain ⟨rs, rfl, hlen, k⟩ := h
  refine ⟨Nat.zero_le _, fun q => ?_⟩
  refine forD_at (fun i env => ∃ e2, env = [some (.sh (.lst (rs.map tupD))), some (.own q (.lst ((rs.take i).flatten.map D.int))), e2]) ⟨_, rfl⟩ ?_ ?_
  · rintro i d env nx hi ⟨e2, rfl⟩ hn
    rw [List.getElem?_map] at hi
    cases hm : rs[i]? with
    | none => rw [hm] at hi; cases hi
    | some r =>
      rw [hm] at hi
      cases hi
      have hnext : (rs.take (i + 1)).flatten = (rs.take i).flatten ++ r := by
        rw [List.take_add_one, hm, List.flatten_append]
        simp
      have hle : (rs.take (i + 1)).flatten.length ≤ rs.flatten.length := by
        have h : rs = rs.take (i + 1) ++ rs.drop (i + 1) := (List.take_append_drop _ _).symm
        have h2 := congrArg (fun z : List (List Int) => z.flatten.length) h
        simp only [List.flatten_append, List.length_append] at h2
        omega
      rw [hnext, List.length_append] at hle
      refine ⟨_, rfl, sz_ok (by rw [List.length_map, List.length_map]; omega), hn _ ⟨some (.sh (tupD r)), ?_⟩⟩
      rw [hnext, List.map_append]
      rfl
  · rintro env ⟨e2, rfl⟩
    rw [List.length_map, List.take_length]
    exact k
def sp_tree_copies : Spec := fun _ ds Kd _ => ∃ l, ds = [.dic (kvD l), .lst ((aroundL l).map .int)] ∧ Kn l ∧ ∀ ms, TrInv l [] ms → Kd (.lst (ms.map mvD))
abbrev N_tree_copies : List Str := ["known", "around", "left", "goal", "found", "one", "other"]
abbrev ps_tree_copies : List Str := ["known", "around"]
def m_tree_copies (sa : Option Addr) : MSt :=
  (mSeq (mSetF 2 (mLc (.nm 3) [3] (mIter (mCall sortedD (aCons (mVar 0) aNil))) (mB (m2 (inS true) (mVar 3) (mVar 1))) (mVar 3)))
  (mSeq (mSetF 4 (mLst aNil))
  (mSeq (mWhile (mB (m2 (eqE true) (mVar 2) (mLst aNil))) (mSeq (mSetL 3 (m2 ixD (mLc (.nm 5) [5] (mIter (mVar 2)) (mB (m2 (eqE false) (mLc (.nm 6) [6] (mIter (mVar 2)) (mB (m2 (eqE false) (m2 getK (mVar 0) (mVar 6)) (mVar 5))) (mVar 6)) (mLst aNil))) (mVar 5)) (mC (.int 0))))
    (mSeq (mAppend 4 (mTup (aCons (mC (.str "copy")) (aCons (mVar 3) (aCons (m2 getK (mVar 0) (mVar 3)) aNil)))))
    (mRemove 2 (mVar 3)))))
  (mRetO 4))))
theorem pu_tree_copies (sa : Option Addr) (ds : List D) (Kd : D → Prop) (KX : Exn → Prop) (hl : ds.length = 2) (h : sp_tree_copies sa ds Kd KX) : m_tree_copies sa (startS N_tree_copies.length ds) { nx := fun _ => true = false ∧ Kd .non, rt := Kd, ex := KX } := by
  obtain ⟨l, rfl, K, k⟩ := h
  have hk := K.keys
  refine sortedD_dic ?_
  rw [keys_kv]
  refine ⟨by rw [List.length_map]; omega, lcD_fm (fun d => match d with | .int g => if (!decide (g ∈ aroundL l)) then some (.int g) else none | _ => none) (fun d hd Kx hK => ?_) ?_⟩
  · obtain ⟨g, hg, rfl⟩ := List.mem_map.mp hd
    have hK : Kx (if (!decide (g ∈ aroundL l)) then some (.int g) else none) := hK
    refine ⟨_, rfl, inS_lst (i := g) (ns := aroundL l) (ite2 (fun c => ?_) (fun c => ?_))⟩
    · have c : (!decide (g ∈ aroundL l)) = true := c
      rw [if_pos c] at hK
      exact hK
    · have c : ¬(!decide (g ∈ aroundL l)) = true := c
      rw [if_neg c] at hK
      exact hK
  · rw [fm_map D.int _ (fun g => if (!decide (g ∈ aroundL l)) then some g else none) D.int _ (fun g _ => by show (if _ then _ else _) = _; split <;> rfl), fm_filter]
    refine fun q => ⟨Nat.zero_le _, fun q2 => ⟨(treeL l).length + 1, ?_⟩⟩
    have go : ∀ (n : Nat) (left : List Int) (ms : List Mv) (e3 e5 e6 : Option Slot), left.length = n → TrInv l left ms →
        whileD (mB (m2 (eqE true) (mVar 2) (mLst aNil))) (mSeq (mSetL 3 (m2 ixD (mLc (.nm 5) [5] (mIter (mVar 2)) (mB (m2 (eqE false) (mLc (.nm 6) [6] (mIter (mVar 2)) (mB (m2 (eqE false) (m2 getK (mVar 0) (mVar 6)) (mVar 5))) (mVar 6)) (mLst aNil))) (mVar 5)) (mC (.int 0))))
          (mSeq (mAppend 4 (mTup (aCons (mC (.str "copy")) (aCons (mVar 3) (aCons (m2 getK (mVar 0) (mVar 3)) aNil)))))
          (mRemove 2 (mVar 3)))) { nx := fun env' => mRetO 4 env' { nx := fun _ => true = false ∧ Kd .non, rt := Kd, ex := KX }, rt := Kd, ex := KX } (n + 1)
          [some (.sh (.dic (kvD l))), some (.sh (.lst ((aroundL l).map D.int))), some (.own q (.lst (left.map D.int))), e3, some (.own q2 (.lst (ms.map mvD))), e5, e6] := by
      intro n
      induction n with
      | zero =>
        intro left ms e3 e5 e6 hn I
        have e := List.eq_nil_of_length_eq_zero hn
        subst e
        exact ⟨Nat.zero_le _, eqE_nil (n := 1) (.lst _ _ (by simp)) (by decide) (k ms I)⟩
      | succ n ih =>
        intro left ms e3 e5 e6 hn I
        have hne : left ≠ [] := fun e => by rw [e] at hn; simp at hn
        refine ⟨Nat.zero_le _, eqE_nil (n := 1) (.lst _ _ (Dk_ints _ _)) (by decide) ?_⟩
        have em : (left.map D.int).isEmpty = false := by cases left with | nil => exact absurd rfl hne | cons _ _ => rfl
        rw [em]
        have hlt : left.length ≤ 10 := by
          have h1 : ∀ x ∈ left, 0 ≤ x ∧ x < 10 := fun x hx => by
            have := (treeL_mem.mp (I.sub x hx)).1
            obtain ⟨p, hp, e⟩ := List.mem_map.mp this
            have := K.L.bd p hp
            rw [← e]
            exact ⟨this.1, this.2.1⟩
          exact nodup_len (b := 10) I.nd h1
        have hkey : ∀ x ∈ left, x ∈ l.map (·.1) := fun x hx => (treeL_mem.mp (I.sub x hx)).1
        let leaf : Int → Bool := fun g => left.all fun o => !decide (look l o = some g)
        refine ⟨by rw [List.length_map]; omega, lcD_fm (fun d => match d with | .int g => if leaf g then some (.int g) else none | _ => none) (fun d hd Kx hK => ?_) ?_⟩
        · obtain ⟨g, hg, rfl⟩ := List.mem_map.mp hd
          have hK : Kx (if leaf g then some (.int g) else none) := hK
          refine ⟨_, rfl, by rw [List.length_map]; omega, lcD_fm (fun d => match d with | .int o => if decide (look l o = some g) then some (.int o) else none | _ => none) (fun d hd Ky hKy => ?_) ?_⟩
          · obtain ⟨o, ho, rfl⟩ := List.mem_map.mp hd
            have hKy : Ky (if decide (look l o = some g) then some (.int o) else none) := hKy
            obtain ⟨v, hv⟩ := look_some (hkey o ho)
            refine ⟨_, rfl, getK_at (hkey o ho) ?_⟩
            rw [hv]
            rw [hv] at hKy
            refine eqE_int (i := v) (j := g) (ite2 (fun c => ?_) (fun c => ?_))
            · have c : v = g := eqT c
              rw [if_pos (by rw [c]; exact decide_eq_true rfl)] at hKy
              exact hKy
            · have c : ¬ v = g := eqF c
              rw [if_neg (by intro h; exact c (Option.some.inj (of_decide_eq_true h)))] at hKy
              exact hKy
          · rw [fm_map D.int _ (fun o => if decide (look l o = some g) then some o else none) D.int _ (fun o _ => by show (if _ then _ else _) = _; split <;> rfl)]
            refine ⟨Nat.zero_le _, eqE_nil (n := 1) (.lst _ _ (Dk_ints _ _)) (by decide) ?_⟩
            have e : ((left.filterMap fun o => if decide (look l o = some g) then some o else none).map D.int).isEmpty = leaf g := by
              rw [show ∀ xs : List Int, (xs.map D.int).isEmpty = xs.isEmpty from fun xs => by cases xs <;> rfl, fm_empty]
              show _ = left.all _
              congr 1
              funext o
              by_cases h : look l o = some g <;> simp [h]
            rw [e]
            refine ite2 (fun c => ?_) (fun c => ?_)
            · have c : leaf g = true := c
              rw [if_pos c] at hK
              exact hK
            · have c : ¬ leaf g = true := c
              rw [if_neg c] at hK
              exact hK
        · rw [fm_map D.int _ (fun g => if leaf g then some g else none) D.int _ (fun g _ => by show (if _ then _ else _) = _; split <;> rfl), fm_filter]
          obtain ⟨g0, hg0, hl0⟩ := I.leaf K hne
          have hf : g0 ∈ left.filter leaf := List.mem_filter.mpr ⟨hg0, List.all_eq_true.mpr fun o ho => by simpa using hl0 o ho⟩
          cases hc : left.filter leaf with
          | nil => rw [hc] at hf; cases hf
          | cons g rest =>
            have hg : g ∈ left.filter leaf := by rw [hc]; exact List.mem_cons_self
            have hgl := (List.mem_filter.mp hg).1
            have hleaf : ∀ o ∈ left, look l o ≠ some g := fun o ho => by
              have := List.all_eq_true.mp (List.mem_filter.mp hg).2 o ho
              simpa using this
            obtain ⟨s, hs⟩ := look_some (hkey g hgl)
            have hms : ms.length ≤ 10 := by
              have := I.len
              have h2 : (treeL l).length ≤ 10 := Nat.le_trans (List.length_filter_le _ _) hk.1
              omega
            refine ixD_lst (d := .int g) (atI_nat (j := 0) rfl) ⟨rfl, ?_⟩
            refine getK_at (hkey g hgl) ⟨z3, sz_lt (by rw [List.length_map]; omega), ?_⟩
            rw [hs]
            show match intsOf (left.map D.int) with | some ns => _ | none => False
            rw [intsOf_ints]
            refine ⟨hgl, ?_⟩
            have := ih (left.erase g) (ms ++ [.cp g s]) (some (.sh (.int g))) e5 e6 (by rw [List.length_erase_of_mem hgl]; omega) (I.step hgl hleaf hs)
            rw [List.map_append] at this
            exact this
    exact go _ (treeL l) [] none none none rfl (TrInv.start K)
def sp_by_swaps : Spec := fun _ ds Kd _ => ∃ b l, ds = [.int b, leadD l] ∧ Lead b l ∧ 1 ≤ b ∧ b ≤ 10 ∧ ∀ ms, SwOk b (kn l) ms → Kd (.lst (ms.map mvD))
abbrev N_by_swaps : List Str := ["boxes", "lead", "known", "every", "found", "ring", "box"]
abbrev ps_by_swaps : List Str := ["boxes", "lead"]
def m_by_swaps (sa : Option Addr) : MSt :=
  (mSeq (mExpr (mCallU sa sp_need_lead (aCons (mVar 0) (aCons (mVar 1) aNil))))
  (mSeq (mSet 2 (mCallU sa sp_real_pairs (aCons (mVar 1) aNil)))
  (mSeq (mSet 3 (mCallU sa sp_rings_of (aCons (mVar 2) aNil)))
  (mSeq (mSetF 4 (mCallU sa sp_tree_copies (aCons (mVar 2) (aCons (mCallU sa sp_around_of (aCons (mVar 3) aNil)) aNil))))
  (mSeq (mFor (.nm 5) (mIter (mVar 3)) (mExtend 4 (mLc (.nm 6) [6] (mIter (mSl slD (mVar 5) (oSome (mC (.int 1))) oNone)) tYesM (mTup (aCons (mC (.str "swap")) (aCons (m2 ixD (mVar 5) (mC (.int 0))) (aCons (mVar 6) aNil)))))))
  (mRetO 4))))))
theorem cutD_1 {α : Type} (xs : List α) : cutD xs (some 1) none = xs.drop 1 := by
  unfold cutD
  rw [show HT.sIx xs.length 0 (some 1) = min 1 xs.length from HT.sIx_nat xs.length 0 1, HT.sIx_none]
  cases xs with
  | nil => rfl
  | cons x r =>
    rw [show min 1 (x :: r).length = 1 by
      rw [List.length_cons]
      omega]
    show (List.take ((x :: r).length - 1) r) = r
    rw [List.length_cons, Nat.add_sub_cancel]
    exact List.take_length
theorem around_len {l : List (Int × Int)} (K : Kn l) : (aroundL l).length ≤ 10 := by
  have h1 := tree_len K
  have h2 := K.L.len (by decide)
  omega
theorem flat_take_len {α β : Type} (f : α → List β) (rs : List α) (i : Nat) : ((rs.take i).flatMap f).length ≤ (rs.flatMap f).length := by
  have h : rs = rs.take i ++ rs.drop i := (List.take_append_drop _ _).symm
  have h2 := congrArg (fun z : List α => (z.flatMap f).length) h
  simp only [List.flatMap_append, List.length_append] at h2
  omega
theorem pu_by_swaps (sa : Option Addr) (ds : List D) (Kd : D → Prop) (KX : Exn → Prop) (hl : ds.length = 2) (h : sp_by_swaps sa ds Kd KX) : m_by_swaps sa (startS N_by_swaps.length ds) { nx := fun _ => true = false ∧ Kd .non, rt := Kd, ex := KX } := by
  obtain ⟨b, l, rfl, L, b0, b1, k⟩ := h
  have K := Kn.of L b1
  refine ⟨b, l, rfl, L, b0, b1, b, l, rfl, L, by omega, b1, kn l, rfl, K, ringsL (kn l), rfl, ?_, kn l, rfl, K, fun ms I q => ?_⟩
  · exact Nat.le_trans (around_len K) (by decide)
  · have hall := all_len K I
    have hkl := K.L.len (by decide)
    refine forD_at (fun i env => ∃ e5 e6, env = [some (.sh (.int b)), some (.sh (leadD l)), some (.sh (.dic (kvD (kn l)))), some (.sh (.lst ((ringsL (kn l)).map tupD))), some (.own q (.lst ((ms ++ ((ringsL (kn l)).take i).flatMap ringSw).map mvD))), e5, e6]) ⟨none, none, by rw [List.take_zero, List.flatMap_nil, List.append_nil]; rfl⟩ ?_ ?_
    · rintro i d env nx hi ⟨e5, e6, rfl⟩ hn
      rw [List.getElem?_map] at hi
      cases hm : (ringsL (kn l))[i]? with
      | none => rw [hm] at hi; cases hi
      | some r =>
        rw [hm] at hi
        cases hi
        have hrm := List.mem_of_getElem? hm
        have hnext : ((ringsL (kn l)).take (i + 1)).flatMap ringSw = ((ringsL (kn l)).take i).flatMap ringSw ++ ringSw r := by
          rw [List.take_add_one, hm, List.flatMap_append]
          simp
        have hle := flat_take_len ringSw (ringsL (kn l)) (i + 1)
        rw [hnext, List.length_append] at hle
        rw [List.length_append] at hall
        unfold swapsL at hall
        obtain ⟨b', q', c, rfl⟩ := ringsL_rg hrm
        have hsw : (ringSw (b' :: q'.reverse)).length = q'.reverse.length := by
          show (q'.reverse.map (Mv.sw b')).length = _
          rw [List.length_map]
        have hcut : cutD ((b' :: q'.reverse).map D.int) (some 1) none = q'.reverse.map D.int := by
          rw [cutD_1]
          rfl
        refine ⟨_, rfl, ?_⟩
        show (cutD ((b' :: q'.reverse).map D.int) (some 1) none).length ≤ 100000 ∧ _
        show _ ∧ lcD _ _ _ _ (cutD ((b' :: q'.reverse).map D.int) (some 1) none) _
        rw [hcut]
        refine ⟨by rw [List.length_map]; omega, lcD_fm (fun d => match d with | .int x => some (mvD (.sw b' x)) | _ => none) (fun d hd Kx hK => ?_) ?_⟩
        · obtain ⟨x, hx, rfl⟩ := List.mem_map.mp hd
          exact ⟨_, rfl, ixD_tup (d := .int b') (atI_nat (j := 0) rfl) ⟨z3, hK⟩⟩
        · rw [fm_map D.int _ (fun x => some (Mv.sw b' x)) mvD _ (fun x _ => rfl), List.filterMap_eq_map']
          refine ⟨sz_ok ?_, hn _ ⟨some (.sh (tupD (b' :: q'.reverse))), e6, ?_⟩⟩
          · rw [List.length_map, List.length_map, List.length_map, List.length_append]
            omega
          · rw [hnext, ← List.append_assoc, List.map_append (l₁ := ms ++ _)]
            rfl
    · rintro env ⟨e5, e6, rfl⟩
      rw [List.length_map, List.take_length]
      exact k _ (SwOk.of K L.kn I)
end L3
set_option pp.maxSteps 400
/-! P4: spares; leads at once; whether moves do a lead -/
namespace L3
open PySem PySem.Spec PyProof.Rows L2
theorem z0 : 0 ≤ sizeLine := by decide
theorem inS_lstE {neg : Bool} {i : Int} {ns : List Int} {xs : List D} {K : D → Prop} (e : xs = ns.map D.int) (k : K (.bl (if neg then !decide (i ∈ ns) else decide (i ∈ ns)))) : inS neg (.int i) (.lst xs) K := by
  subst e
  exact inS_lst k
theorem lcD_sub {i : Nat} {tt : MTt} {env : EnvE} (hi : (env[i]?).isSome = true) : ∀ {ns : List Int} {ds : List D} {K : List D → Prop}, ds = ns.map D.int → (∀ x ∈ ns, ∀ Kb : Bool → Prop, Kb true → Kb false → tt (env.set i (some (.int x))) Kb (fun _ => False)) → (∀ r : List Int, r.Sublist ns → K (r.map D.int)) → lcD (.nm i) tt (mVar i) env ds K
  | [], _, K, rfl, _, k => k [] (List.Sublist.refl _)
  | x :: ns, _, K, rfl, h, k => by
    refine ⟨_, rfl, ?_⟩
    refine h x List.mem_cons_self _ ?_ ?_
    · rw [if_pos rfl]
      show mVar i (env.set i (some (.int x))) _ _
      unfold mVar
      rw [get_set_self hi]
      exact lcD_sub hi (K := fun r => K (.int x :: r)) rfl (fun y hy => h y (List.mem_cons_of_mem _ hy)) fun r hr => k (x :: r) (hr.cons_cons _)
    · rw [if_neg (by decide)]
      exact lcD_sub hi (K := K) rfl (fun y hy => h y (List.mem_cons_of_mem _ hy)) fun r hr => k r (hr.cons _)
theorem mB_lenSet {neg : Bool} {i : Nat} {env : EnvE} {ns : List Int} {Kb : Bool → Prop} {KX : Exn → Prop} (he : env[i]? = some (some (.lst (ns.map D.int)))) (h : ns.length ≤ 4000) (k : Kb (if neg then !decide ns.Nodup else decide ns.Nodup)) : mB (m2 (eqE neg) (mLenSet (mVar i)) (mCall lenD (aCons (mVar i) aNil))) env Kb KX := by
  have hv : ∀ (K : D → Prop), K (.lst (ns.map D.int)) → mVar i env K KX := fun K k => by
    unfold mVar
    rw [he]
    exact k
  refine hv _ ?_
  show (match intsOf (ns.map D.int) with
      | some ns' => ns'.length ≤ 4000 ∧ mCall lenD (aCons (mVar i) aNil) env (fun e => eqE neg (.int (dlen ns' : Nat)) e fun d => isB d Kb) KX
      | none => False)
  rw [intsOf_ints]
  refine ⟨h, ?_⟩
  refine hv _ ?_
  refine eqE_int (i := ((dlen ns : Nat) : Int)) (j := (((ns.map D.int).length : Nat) : Int)) ?_
  rw [List.length_map, dlen_dec]
  exact k
theorem fil_empty (p : Int → Bool) : ∀ ns : List Int, ((ns.filter fun x => !p x).map D.int).isEmpty = ns.all p
  | [] => rfl
  | x :: ns => by
    rw [List.all_cons, List.filter_cons]
    cases h : p x with
    | true =>
      rw [if_neg (by decide), Bool.true_and]
      exact fil_empty p ns
    | false => rfl
/-! ### boxes that may be spares -/
def freeB (l : List (Int × Int)) (x : Int) : Bool := !decide (x ∈ (kn l).map (·.1)) && !decide (x ∈ (kn l).map (·.2))
def freeL (b : Int) (l : List (Int × Int)) : List Int := (rgI b.toNat).filter (freeB l)
theorem freeL_mem {b : Int} {l : List (Int × Int)} {x : Int} : x ∈ freeL b l ↔ 0 ≤ x ∧ x < b ∧ freeB l x = true := by
  unfold freeL
  rw [List.mem_filter, rgI_mem]
  constructor
  · rintro ⟨⟨h0, h1⟩, h⟩
    exact ⟨h0, by omega, h⟩
  · rintro ⟨h0, h1, h⟩
    exact ⟨⟨h0, by omega⟩, h⟩
theorem valD_some (l : List (Int × Int)) (x : Int) : (valD (kvD l) x).isSome = decide (x ∈ l.map (·.1)) := by
  rw [valD_kv]
  by_cases c : x ∈ l.map (·.1)
  · obtain ⟨v, hv⟩ := look_some c
    rw [hv, decide_eq_true c]
    rfl
  · rw [decide_eq_false c]
    cases q : look l x with
    | none => rfl
    | some v => exact absurd (List.mem_map.mpr ⟨_, look_mem q, rfl⟩) c
theorem keysD_eq (l : List (Int × Int)) : (kvD l).map (fun p => D.int p.1) = l.map fun p => D.int p.1 := by
  unfold kvD
  rw [List.map_map]
  rfl
theorem getK_mem {l : List (Int × Int)} (hn : (l.map (·.1)).Nodup) {p : Int × Int} (hp : p ∈ l) {K : D → Prop} (k : K (.int p.2)) : getK (.dic (kvD l)) (.int p.1) K :=
  getK_of (d := .int p.2) (by rw [valD_kv, look_of hn (show (p.1, p.2) ∈ l from hp)]; rfl) k
def sp__law_free : Spec := fun _ ds Kd _ => ∃ b l, ds = [.int b, leadD l] ∧ Lead b l ∧ 1 ≤ b ∧ b ≤ 10 ∧ Kd (.lst ((freeL b l).map D.int))
abbrev N__law_free : List Str := ["_law_boxes_here", "_law_lead_here", "_law_known_here", "_law_box", "_law_goal"]
abbrev ps__law_free : List Str := ["_law_boxes_here", "_law_lead_here"]
def m__law_free (sa : Option Addr) : MSt :=
  (mSeq (mSet 2 (mCallU sa sp__law_known (aCons (mVar 1) aNil)))
  (mRet (mLc (.nm 3) [3] (mRange (aCons (mVar 0) aNil)) (mAnd (mB (m2 (inK true) (mVar 3) (mVar 2))) (mB (m2 (inS true) (mVar 3) (mLc (.nm 4) [4] (mIter (mVar 2)) tYesM (m2 getK (mVar 2) (mVar 4)))))) (mVar 3))))
theorem pu__law_free (sa : Option Addr) (ds : List D) (Kd : D → Prop) (KX : Exn → Prop) (hl : ds.length = 2) (h : sp__law_free sa ds Kd KX) : m__law_free sa (startS N__law_free.length ds) { nx := fun _ => false = false ∧ Kd .non, rt := Kd, ex := KX } := by
  obtain ⟨b, l, rfl, hL, b0, b1, k⟩ := h
  have hlen := hL.kn.len (by omega)
  refine ⟨b, l, rfl, hL, by omega, b1, ?_⟩
  refine ⟨by omega, by omega, by rw [List.length_map, List.length_range]; omega, lcD_filter (freeB l) rfl (rg_eq _) (fun x hx Kb hk => ?_) k⟩
  refine ite2 (fun c => ?_) (fun c => ?_)
  · have c : (!(valD (kvD (kn l)) x).isSome) = true := c
    rw [valD_some] at c
    have c : x ∉ (kn l).map (·.1) := by simpa using c
    refine ⟨by rw [List.length_map]; unfold kvD; rw [List.length_map]; omega, lcD_map (l := kn l) (fun p => .int p.1) (fun p => .int p.2) (keysD_eq _) (fun p hp => ⟨[(4, .int p.1)], rfl, fun Kd hK => getK_mem hL.kn.nd hp hK⟩) ?_⟩
    refine inS_lstE (ns := (kn l).map (·.2)) (by rw [List.map_map]; rfl) ?_
    have e : freeB l x = (!decide (x ∈ (kn l).map (·.2))) := by
      unfold freeB
      rw [decide_eq_false c]
      rfl
    rw [e] at hk
    exact hk
  · have c : ¬(!(valD (kvD (kn l)) x).isSome) = true := c
    rw [valD_some] at c
    have c : x ∈ (kn l).map (·.1) := by simpa using c
    have e : freeB l x = false := by
      unfold freeB
      rw [decide_eq_true c]
      rfl
    rw [e] at hk
    exact hk
def sp__law_spares : Spec := fun sa ds Kd _ => ∃ a b l, sa = some a ∧ ds = [.ref a, .int b, leadD l] ∧ Lead b l ∧ 1 ≤ b ∧ b ≤ 10 ∧ ∀ sp : List Int, sp.Nodup → (∀ x ∈ sp, x ∈ freeL b l) → Kd (.lst (sp.map D.int))
abbrev N__law_spares : List Str := ["_law_state", "_law_boxes_here", "_law_lead_here", "_law_box"]
abbrev ps__law_spares : List Str := ["_law_state", "_law_boxes_here", "_law_lead_here"]
def m__law_spares (sa : Option Addr) : MSt :=
  (mSeq (mIfS (mB (m2 (eqE false) (mCallU sa sp__law_drawn (aCons (mVar 0) (aCons (mC (.int 2)) aNil))) (mC (.int 0)))) (mRet (mLst aNil)) mNext)
  (mRet (mLc (.nm 3) [3] (mIter (mCallU sa sp__law_order (aCons (mVar 0) (aCons (mCallU sa sp__law_free (aCons (mVar 1) (aCons (mVar 2) aNil))) aNil)))) (mB (m2 (eqE false) (mCallU sa sp__law_drawn (aCons (mVar 0) (aCons (mC (.int 2)) aNil))) (mC (.int 1)))) (mVar 3))))
theorem pu__law_spares (sa : Option Addr) (ds : List D) (Kd : D → Prop) (KX : Exn → Prop) (hl : ds.length = 3) (h : sp__law_spares sa ds Kd KX) : m__law_spares sa (startS N__law_spares.length ds) { nx := fun _ => false = false ∧ Kd .non, rt := Kd, ex := KX } := by
  obtain ⟨a, b, l, rfl, rfl, L, b0, b1, k⟩ := h
  refine dr (by decide) (by decide) fun x x0 x1 => eqE_int (ite2 (fun _ => ?_) (fun _ => ?_))
  · exact ⟨z0, k [] List.nodup_nil (fun x h => nomatch h)⟩
  · have hf : (freeL b l).length ≤ 10 := by
      unfold freeL
      have := List.length_filter_le (freeB l) (rgI b.toNat)
      rw [rgI_len] at this
      omega
    refine ⟨b, l, rfl, L, b0, b1, a, _, rfl, rfl, Dk_ints _ 5, by rw [List.length_map]; omega, fun ys hy => ?_⟩
    obtain ⟨ms, rfl, hm⟩ := perm_ints hy
    have hnd : (freeL b l).Nodup := List.filter_sublist.nodup (rgI_nodup _)
    refine ⟨by rw [List.length_map, hm.length_eq]; omega, lcD_sub rfl rfl (fun x hx Kb k1 k2 => dr (by decide) (by decide) fun y y0 y1 => eqE_int ?_) fun r hr => k r (hr.nodup (hm.nodup_iff.mpr hnd)) fun x hx => hm.mem_iff.mp (hr.subset hx)⟩
    show Kb (decide (y = 1))
    cases decide (y = 1) with
    | true => exact k1
    | false => exact k2
/-! ### need_spares -/
def okSp (b : Int) (l : List (Int × Int)) (sp : List Int) : Bool := (sp.all fun x => (decide (0 ≤ x) && decide (x < b)) && freeB l x) && decide sp.Nodup
def sp_need_spares : Spec := fun _ ds Kd KX => ∃ (b : Int) (l : List (Int × Int)) (sp : List Int), ds = [.int b, leadD l, .lst (sp.map D.int)] ∧ Lead b l ∧ 1 ≤ b ∧ b ≤ 10 ∧ sp.length ≤ 1000 ∧ (okSp b l sp = true → Kd .non) ∧ (okSp b l sp = false → KX ⟨"BadSpare", none⟩)
abbrev N_need_spares : List Str := ["boxes", "lead", "spares", "known", "busy", "goal", "bad", "box"]
abbrev ps_need_spares : List Str := ["boxes", "lead", "spares"]
def m_need_spares (sa : Option Addr) : MSt :=
  (mSeq (mSet 3 (mCallU sa sp_real_pairs (aCons (mVar 1) aNil)))
  (mSeq (mSet 4 (m2 addD (mCall listKD (aCons (mVar 3) aNil)) (mLc (.nm 5) [5] (mIter (mVar 3)) tYesM (m2 getK (mVar 3) (mVar 5)))))
  (mSeq (mSet 6 (mLc (.nm 7) [7] (mIter (mVar 2)) (mOr (mNot (mB (mCallU sa sp_is_box (aCons (mVar 0) (aCons (mVar 7) aNil))))) (mB (m2 (inS false) (mVar 7) (mVar 4)))) (mVar 7)))
  (mIfS (mOr (mB (m2 (eqE true) (mVar 6) (mLst aNil))) (mB (m2 (eqE true) (mLenSet (mVar 2)) (mCall lenD (aCons (mVar 2) aNil))))) (mRaise "BadSpare") mNext))))
theorem pu_need_spares (sa : Option Addr) (ds : List D) (Kd : D → Prop) (KX : Exn → Prop) (hl : ds.length = 3) (h : sp_need_spares sa ds Kd KX) : m_need_spares sa (startS N_need_spares.length ds) { nx := fun _ => false = false ∧ Kd .non, rt := Kd, ex := KX } := by
  obtain ⟨b, l, sp, rfl, L, b0, b1, hs, k1, k2⟩ := h
  have hlen := L.kn.len (by omega)
  refine ⟨b, l, rfl, L, by omega, b1, ?_⟩
  refine listKD_of ?_
  refine ⟨by rw [List.length_map]; unfold kvD; rw [List.length_map]; omega, lcD_map (l := kn l) (fun p => .int p.1) (fun p => .int p.2) (keysD_eq _) (fun p hp => ⟨[(5, .int p.1)], rfl, fun Kd hK => getK_mem L.kn.nd hp hK⟩) ?_⟩
  refine ⟨sz_ok (by rw [List.length_map, List.length_map]; unfold kvD; rw [List.length_map]; omega), ?_⟩
  let g : Int → Bool := fun x => (decide (0 ≤ x) && decide (x < b)) && freeB l x
  refine ⟨by rw [List.length_map]; omega, lcD_filter (fun x => !g x) rfl rfl (fun x hx Kb hk => ?_) ?_⟩
  · have hk : Kb (!((decide (0 ≤ x) && decide (x < b)) && freeB l x)) := hk
    refine ⟨b, x, rfl, ?_⟩
    refine ite2 (fun c => ?_) (fun c => ?_)
    · have c : (!(decide (0 ≤ x) && decide (x < b))) = true := c
      rw [Bool.not_and (decide (0 ≤ x) && decide (x < b)), c] at hk
      exact hk
    · have c : ¬(!(decide (0 ≤ x) && decide (x < b))) = true := c
      have c : (decide (0 ≤ x) && decide (x < b)) = true := by
        cases q : (decide (0 ≤ x) && decide (x < b)) with
        | true => rfl
        | false => rw [q] at c; exact absurd rfl c
      rw [c, Bool.true_and] at hk
      refine inS_lstE (ns := (kn l).map (·.1) ++ (kn l).map (·.2)) (by rw [keysD_eq, List.map_append, List.map_map, List.map_map]; rfl) ?_
      have e : (!freeB l x) = decide (x ∈ (kn l).map (·.1) ++ (kn l).map (·.2)) := by
        unfold freeB
        rw [Bool.not_and, Bool.not_not, Bool.not_not, ← Bool.decide_or]
        exact decide_eq_decide.mpr List.mem_append.symm
      rw [e] at hk
      exact hk
  · refine ⟨z0, eqE_nil (n := 6) (.lst _ _ (Dk_ints _ 5)) (by decide) (ite2 (fun c => ?_) (fun c => ?_))⟩
    · have c : (!((sp.filter fun x => !g x).map D.int).isEmpty) = true := c
      rw [fil_empty] at c
      refine k2 ?_
      unfold okSp
      have c : sp.all g = false := by
        cases q : sp.all g with
        | false => rfl
        | true => rw [q] at c; exact nomatch c
      rw [show (sp.all fun x => (decide (0 ≤ x) && decide (x < b)) && freeB l x) = false from c]
      rfl
    · have c : ¬(!((sp.filter fun x => !g x).map D.int).isEmpty) = true := c
      rw [fil_empty] at c
      have c : sp.all g = true := by
        cases q : sp.all g with
        | true => rfl
        | false => rw [q] at c; exact absurd rfl c
      have e : okSp b l sp = decide sp.Nodup := by
        unfold okSp
        rw [show (sp.all fun x => (decide (0 ≤ x) && decide (x < b)) && freeB l x) = true from c]
        rfl
      refine mB_lenSet (ns := sp) rfl (by omega) ?_
      refine ite2 (fun c2 => ?_) (fun c2 => ?_)
      · refine k2 ?_
        rw [e]
        cases q : decide sp.Nodup with
        | false => rfl
        | true => exact absurd (show (!decide sp.Nodup) = true from c2) (by rw [q]; decide)
      · refine ⟨rfl, k1 ?_⟩
        rw [e]
        cases q : decide sp.Nodup with
        | true => rfl
        | false => exact absurd (show (!decide sp.Nodup) = true by rw [q]; rfl) c2
/-! ### at_once -/
theorem src_take {l : List (Int × Int)} (hn : (l.map (·.1)).Nodup) {i : Nat} {g s : Int} (h : l[i]? = some (g, s)) (x : Int) : src (l.take (i + 1)) x = if x = g then s else src (l.take i) x := by
  have hi : i < l.length := (List.getElem?_eq_some_iff.mp h).1
  have e : l.take (i + 1) = l.take i ++ [(g, s)] := by rw [List.take_add_one, h]; rfl
  unfold src
  rw [e]
  have ha : look (l.take i ++ [(g, s)]) x = (look (l.take i) x).or (look [(g, s)] x) := by
    unfold look
    rw [List.find?_append]
    cases (l.take i).find? fun p => decide (p.1 = x) <;> rfl
  rw [ha]
  by_cases c : x = g
  · rw [if_pos c]
    subst c
    have hno : look (l.take i) x = none := by
      cases q : look (l.take i) x with
      | none => rfl
      | some v =>
        have hm := look_mem q
        have hd : ((l.take i ++ [(x, s)]).map (·.1)).Nodup := by
          rw [← e]
          exact ((List.take_sublist _ _).map _).nodup hn
        rw [List.map_append, List.nodup_append] at hd
        exact absurd rfl (hd.2.2 x (List.mem_map.mpr ⟨_, hm, rfl⟩) x (by simp))
    rw [hno]
    show ((look [(x, s)] x)).getD x = s
    unfold look
    simp
  · rw [if_neg c]
    have hno : look [(g, s)] x = none := by
      unfold look
      rw [List.find?_cons, decide_eq_false (fun z => c z.symm)]
      rfl
    rw [hno, Option.or_none]
def sp_at_once : Spec := fun _ ds Kd _ => ∃ (n : Nat) (F : Int → Int) (l : List (Int × Int)), ds = [.lst (wl n F), leadD l] ∧ 1 ≤ n ∧ n ≤ 10 ∧ Lead n l ∧ Kd (.lst (wl n fun x => F (src l x)))
abbrev N_at_once : List Str := ["worths", "lead", "found", "goal", "source"]
abbrev ps_at_once : List Str := ["worths", "lead"]
def m_at_once (sa : Option Addr) : MSt :=
  (mSeq (mExpr (mCallU sa sp_need_lead (aCons (mCall lenD (aCons (mVar 0) aNil)) (aCons (mVar 1) aNil))))
  (mSeq (mSetF 2 (mCall listD (aCons (mVar 0) aNil)))
  (mSeq (mFor (.tp [3, 4]) (mIter (mVar 1)) (mSetIx 2 (mVar 3) (m2 ixD (mVar 0) (mVar 4))))
  (mRetO 2))))
theorem pu_at_once (sa : Option Addr) (ds : List D) (Kd : D → Prop) (KX : Exn → Prop) (hl : ds.length = 2) (h : sp_at_once sa ds Kd KX) : m_at_once sa (startS N_at_once.length ds) { nx := fun _ => true = false ∧ Kd .non, rt := Kd, ex := KX } := by
  obtain ⟨n, F, l, rfl, h1, h2, L, k⟩ := h
  refine ⟨((wl n F).length : Nat), l, rfl, by rw [wl_len]; exact L, by rw [wl_len]; omega, by rw [wl_len]; omega, fun q => ?_⟩
  refine forD_at (fun i env => ∃ e3 e4, env = [some (.sh (.lst (wl n F))), some (.sh (leadD l)), some (.own q (.lst (wl n fun x => F (src (l.take i) x)))), e3, e4]) ⟨_, _, rfl⟩ ?_ ?_
  · rintro i d env nx hi ⟨e3, e4, rfl⟩ hn
    rw [List.getElem?_map] at hi
    cases hm : l[i]? with
    | none => rw [hm] at hi; cases hi
    | some p =>
      rw [hm] at hi
      cases hi
      obtain ⟨g, s⟩ := p
      obtain ⟨g0, g1, s0, s1⟩ := L.bd _ (List.mem_of_getElem? hm)
      refine ⟨_, rfl, ixD_lst (wl_at F s0 s1) ⟨rfl, ?_⟩⟩
      show match ixN (wl n fun x => F (src (l.take i) x)).length g with | some j => _ | none => False
      rw [wl_ix _ g0 g1]
      refine hn _ ⟨some (.sh (.int g)), some (.sh (.int s)), ?_⟩
      have e : wl n (fun x => F (src (l.take (i + 1)) x)) = (wl n fun x => F (src (l.take i) x)).set g.toNat (.int (F s)) := by
        rw [wl_set _ g0 g1]
        refine wl_ext fun x _ _ => ?_
        show F (src (l.take (i + 1)) x) = if x = g then F s else F (src (l.take i) x)
        rw [src_take L.nd hm]
        split <;> rfl
      rw [e]
      rfl
  · rintro env ⟨e3, e4, rfl⟩
    rw [List.length_map, List.take_length]
    exact k
/-! ### does -/
def doB (n : Nat) (l : List (Int × Int)) (sp : List Int) (ms : List Mv) : Bool := (rgI n).all fun x => decide (x ∈ sp) || decide (run ms id x = src l x)
def sp_does : Spec := fun _ ds Kd KX => ∃ (n : Nat) (l : List (Int × Int)) (sp : List Int) (ms : List Mv) (tl : List D), ds = [.int n, leadD l, .lst (sp.map D.int), .lst (ms.map mvD ++ tl)] ∧ 1 ≤ n ∧ n ≤ 10 ∧ Lead n l ∧ sp.length ≤ 1000 ∧ (∀ m ∈ ms, Mv.good n m) ∧
  (okSp n l sp = false → KX ⟨"BadSpare", none⟩) ∧ (okSp n l sp = true → (tl = [] → Kd (.bl (doB n l sp ms))) ∧ ∀ bad rest, tl = bad :: rest → IsMv n bad false ∧ KX ⟨"BadMove", some (ms.length : Nat)⟩)
abbrev N_does : List Str := ["boxes", "lead", "spares", "moves", "due", "found", "box"]
abbrev ps_does : List Str := ["boxes", "lead", "spares", "moves"]
def m_does (sa : Option Addr) : MSt :=
  (mSeq (mExpr (mCallU sa sp_need_lead (aCons (mVar 0) (aCons (mVar 1) aNil))))
  (mSeq (mExpr (mCallU sa sp_need_spares (aCons (mVar 0) (aCons (mVar 1) (aCons (mVar 2) aNil)))))
  (mSeq (mSet 4 (mCallU sa sp_at_once (aCons (mListRange (mVar 0)) (aCons (mVar 1) aNil))))
  (mSeq (mSet 5 (mCallU sa sp_done (aCons (mListRange (mVar 0)) (aCons (mVar 3) aNil))))
  (mRet (m2 (eqE false) (mLc (.nm 6) [6] (mRange (aCons (mVar 0) aNil)) (mAnd (mB (m2 (inS true) (mVar 6) (mVar 2))) (mB (m2 (eqE true) (m2 ixD (mVar 5) (mVar 6)) (m2 ixD (mVar 4) (mVar 6))))) (mVar 6)) (mLst aNil)))))))
theorem pu_does (sa : Option Addr) (ds : List D) (Kd : D → Prop) (KX : Exn → Prop) (hl : ds.length = 4) (h : sp_does sa ds Kd KX) : m_does sa (startS N_does.length ds) { nx := fun _ => false = false ∧ Kd .non, rt := Kd, ex := KX } := by
  obtain ⟨n, l, sp, ms, tl, rfl, h1, h2, L, hs, hg, kf, kt⟩ := h
  refine ⟨(n : Int), l, rfl, L, by omega, by omega, (n : Int), l, sp, rfl, L, by omega, by omega, hs, fun hok => ?_, kf⟩
  obtain ⟨k1, k2⟩ := kt hok
  refine ⟨by omega, by omega, n, id, l, rfl, h1, h2, L, by omega, by omega, ?_⟩
  cases tl with
  | cons bad rest =>
    obtain ⟨hb, hx⟩ := k2 bad rest rfl
    exact .inr ⟨n, id, ms, bad, rest, rfl, by omega, hg, hb, hx⟩
  | nil =>
    refine .inl ⟨n, id, ms, by rw [List.append_nil]; rfl, by omega, hg, ?_⟩
    let g : Int → Bool := fun x => decide (x ∈ sp) || decide (run ms id x = src l x)
    refine ⟨by omega, by omega, by rw [List.length_map, List.length_range]; omega, lcD_filter (fun x => !g x) rfl (rg_eq _) (fun x hx Kb hk => ?_) ⟨z0, eqE_nil (n := 6) (.lst _ _ (Dk_ints _ 5)) (by decide) ?_⟩⟩
    · have hk : Kb (!(decide (x ∈ sp) || decide (run ms id x = src l x))) := hk
      have hx := rgI_mem.mp hx
      refine inS_lst (ite2 (fun c => ?_) (fun c => ?_))
      · have c : (!decide (x ∈ sp)) = true := c
        rw [Bool.not_or, c, Bool.true_and] at hk
        refine ixD_lst (wl_at _ hx.1 (by omega)) (ixD_lst (wl_at _ hx.1 (by omega)) (eqE_int ?_))
        exact hk
      · have c : ¬(!decide (x ∈ sp)) = true := c
        have c : (!decide (x ∈ sp)) = false := by
          cases q : (!decide (x ∈ sp)) with
          | false => rfl
          | true => exact absurd q c
        rw [Bool.not_or, c, Bool.false_and] at hk
        exact hk
    · show Kd (.bl ((((rgI ((n : Int)).toNat).filter fun x => !g x).map D.int).isEmpty))
      rw [fil_empty, show ((n : Int)).toNat = n by omega]
      exact k1 rfl
/-! ### moves changed -/
theorem cutD_to {α : Type} (xs : List α) (k : Nat) : cutD xs none (some (k : Int)) = xs.take k := by
  unfold cutD
  rw [HT.sIx_none, HT.sIx_nat, List.drop_zero, Nat.sub_zero]
  by_cases h : k ≤ xs.length
  · rw [Nat.min_eq_left h]
  · rw [Nat.min_eq_right (by omega), List.take_length, List.take_of_length_le (by omega)]
theorem cutD_from {α : Type} (xs : List α) (k : Nat) : cutD xs (some (k : Int)) none = xs.drop k := by
  unfold cutD
  rw [HT.sIx_none, HT.sIx_nat, List.take_of_length_le (by rw [List.length_drop]; exact Nat.le_refl _)]
  by_cases h : k ≤ xs.length
  · rw [Nat.min_eq_left h]
  · rw [Nat.min_eq_right (by omega), List.drop_length, List.drop_of_length_le (by omega)]
def sp__law_changed : Spec := fun sa ds Kd _ => ∃ (a : Addr) (b : Int) (ms : List Mv), sa = some a ∧ ds = [.ref a, .int b, .lst (ms.map mvD)] ∧ 1 ≤ b ∧ b ≤ 10 ∧ ms.length ≤ 100 ∧ (∀ m ∈ ms, Mv.good b m) ∧ ∀ ms' : List Mv, ms'.length ≤ ms.length + 1 → (∀ m ∈ ms', Mv.good b m) → Kd (.lst (ms'.map mvD))
abbrev N__law_changed : List Str := ["_law_state", "_law_boxes_here", "_law_moves", "_law_at", "_law_way", "_law_one", "_law_other"]
abbrev ps__law_changed : List Str := ["_law_state", "_law_boxes_here", "_law_moves"]
def m__law_changed (sa : Option Addr) : MSt :=
  (mSeq (mSet 3 (mCallU sa sp__law_drawn (aCons (mVar 0) (aCons (m2 addD (mCall lenD (aCons (mVar 2) aNil)) (mC (.int 1))) aNil))))
  (mSeq (mSet 4 (mCallU sa sp__law_drawn (aCons (mVar 0) (aCons (mC (.int 3)) aNil))))
  (mSeq (mIfS (mOr (mB (m2 (eqE false) (mVar 4) (mC (.int 0)))) (mB (m2 (eqE false) (mVar 1) (mC (.int 1))))) (mRet (m2 addD (mSl slD (mVar 2) oNone (oSome (mVar 3))) (mSl slD (mVar 2) (oSome (m2 addD (mVar 3) (mC (.int 1)))) oNone))) mNext)
  (mSeq (mIfS (mB (m2 (eqE false) (mVar 4) (mC (.int 1)))) (mSeq (mSet 5 (mCallU sa sp__law_drawn (aCons (mVar 0) (aCons (mVar 1) aNil))))
    (mSeq (mSet 6 (m2 modD (m2 addD (m2 addD (mVar 5) (mC (.int 1))) (mCallU sa sp__law_drawn (aCons (mVar 0) (aCons (m2 subD (mVar 1) (mC (.int 1))) aNil)))) (mVar 1)))
    (mRet (m2 addD (m2 addD (mSl slD (mVar 2) oNone (oSome (mVar 3))) (mLst (aCons (mTup (aCons (m2 ixD (mLst (aCons (mC (.str "copy")) (aCons (mC (.str "swap")) aNil))) (mCallU sa sp__law_drawn (aCons (mVar 0) (aCons (mC (.int 2)) aNil)))) (aCons (mVar 5) (aCons (mVar 6) aNil)))) aNil))) (mSl slD (mVar 2) (oSome (mVar 3)) oNone))))) mNext)
  (mRet (m2 addD (mSl slD (mVar 2) (oSome (mVar 3)) oNone) (mSl slD (mVar 2) oNone (oSome (mVar 3)))))))))
theorem pu__law_changed (sa : Option Addr) (ds : List D) (Kd : D → Prop) (KX : Exn → Prop) (hl : ds.length = 3) (h : sp__law_changed sa ds Kd KX) : m__law_changed sa (startS N__law_changed.length ds) { nx := fun _ => false = false ∧ Kd .non, rt := Kd, ex := KX } := by
  obtain ⟨a, b, ms, rfl, rfl, b0, b1, hm, hg, k⟩ := h
  have hml : (ms.map mvD).length ≤ 100 := by rw [List.length_map]; exact hm
  refine dr (by omega) (by omega) fun at' a0 a1 => ?_
  obtain ⟨j, rfl⟩ : ∃ j : Nat, at' = (j : Int) := ⟨at'.toNat, by omega⟩
  have c1 := cutD_to (ms.map mvD) j
  have c2 := cutD_from (ms.map mvD) j
  have c3 := cutD_from (ms.map mvD) (j + 1)
  have t1 : ((ms.map mvD).take j).length ≤ 100 := by rw [List.length_take]; omega
  have t2 : ((ms.map mvD).drop j).length ≤ 100 := by rw [List.length_drop]; omega
  have t3 : ((ms.map mvD).drop (j + 1)).length ≤ 100 := by rw [List.length_drop]; omega
  have g1 : ∀ m ∈ ms.take j, Mv.good b m := fun m h => hg m (List.mem_of_mem_take h)
  have g2 : ∀ i, ∀ m ∈ ms.drop i, Mv.good b m := fun i m h => hg m (List.mem_of_mem_drop h)
  refine dr (by decide) (by decide) fun way w0 w1 => ?_
  have out : ∀ {Kd' : D → Prop}, (∀ ms' : List Mv, ms'.length ≤ ms.length + 1 → (∀ m ∈ ms', Mv.good b m) → Kd' (.lst (ms'.map mvD))) → Kd' (.lst (cutD (ms.map mvD) none (some (j : Int)) ++ cutD (ms.map mvD) (some ((j : Int) + 1)) none)) := fun {Kd'} k => by
    rw [show ((j : Int) + 1) = ((j + 1 : Nat) : Int) by omega, c1, c3, ← List.map_take, ← List.map_drop, ← List.map_append]
    refine k _ (by rw [List.length_append, List.length_take, List.length_drop]; omega) fun m h => ?_
    rcases List.mem_append.mp h with h | h
    · exact g1 m h
    · exact g2 _ m h
  have first : (cutD (ms.map mvD) none (some (j : Int))).length + (cutD (ms.map mvD) (some ((j : Int) + 1)) none).length ≤ sizeLine := sz_ok (by rw [show ((j : Int) + 1) = ((j + 1 : Nat) : Int) by omega, c1, c3]; omega)
  refine eqE_int (ite2 (fun _ => ⟨first, out k⟩) (fun _ => eqE_int (ite2 (fun _ => ⟨first, out k⟩) (fun c => ?_))))
  have hb : ¬ b = 1 := fun e => c (decide_eq_true e)
  refine eqE_int (ite2 (fun _ => ?_) (fun _ => ?_))
  · refine dr (by omega) (by omega) fun x x0 x1 => dr (by omega) (by omega) fun y y0 y1 => ⟨by omega, ?_⟩
    have e0 := Int.emod_nonneg (x + 1 + y) (b := b) (by omega)
    have e1 := Int.emod_lt_of_pos (x + 1 + y) (b := b) (by omega)
    have ne : x ≠ (x + 1 + y) % b := by
      intro e
      by_cases c : x + 1 + y < b
      · rw [Int.emod_eq_of_lt (by omega) c] at e
        omega
      · have : (x + 1 + y) % b = x + 1 + y - b := by
          rw [← Int.sub_emod_right, Int.emod_eq_of_lt (by omega) (by omega)]
        omega
    generalize (x + 1 + y) % b = z at *
    refine ⟨z2, dr (by decide) (by decide) fun i i0 i1 => ?_⟩
    have mk : ∀ m : Mv, Mv.good b m → (cutD (ms.map mvD) none (some (j : Int))).length + [mvD m].length ≤ sizeLine ∧ (cutD (ms.map mvD) none (some (j : Int)) ++ [mvD m]).length + (cutD (ms.map mvD) (some (j : Int)) none).length ≤ sizeLine ∧ Kd (.lst ((cutD (ms.map mvD) none (some (j : Int)) ++ [mvD m]) ++ cutD (ms.map mvD) (some (j : Int)) none)) := fun m hm => by
      rw [c1, c2]
      refine ⟨sz_ok (by rw [List.length_singleton]; omega), sz_ok (by rw [List.length_append, List.length_singleton]; omega), ?_⟩
      have e : ((ms.map mvD).take j ++ [mvD m]) ++ (ms.map mvD).drop j = (ms.take j ++ m :: ms.drop j).map mvD := by
        rw [List.map_append, List.map_cons, List.map_take, List.map_drop, List.append_assoc]
        rfl
      rw [e]
      refine k _ (by rw [List.length_append, List.length_cons, List.length_take, List.length_drop]; omega) fun m' h => ?_
      rcases List.mem_append.mp h with h | h
      · exact g1 m' h
      · rcases List.mem_cons.mp h with rfl | h
        · exact hm
        · exact g2 _ m' h
    have hi : i = 0 ∨ i = 1 := by omega
    rcases hi with rfl | rfl
    · exact ixD_lst rfl ⟨z3, z1, mk (.cp x z) ⟨x0, x1, e0, e1, ne⟩⟩
    · exact ixD_lst rfl ⟨z3, z1, mk (.sw x z) ⟨x0, x1, e0, e1, ne⟩⟩
  · have out2 : (cutD (ms.map mvD) (some (j : Int)) none).length + (cutD (ms.map mvD) none (some (j : Int))).length ≤ sizeLine ∧ Kd (.lst (cutD (ms.map mvD) (some (j : Int)) none ++ cutD (ms.map mvD) none (some (j : Int)))) := by
      rw [c1, c2]
      refine ⟨sz_ok (by omega), ?_⟩
      rw [← List.map_take, ← List.map_drop, ← List.map_append]
      refine k _ (by rw [List.length_append, List.length_take, List.length_drop]; omega) fun m h => ?_
      rcases List.mem_append.mp h with h | h
      · exact g2 _ m h
      · exact g1 m h
    exact out2
theorem run_nat (ms : List Mv) : ∀ (F G : Int → Int) (x : Int), run ms (fun y => F (G y)) x = F (run ms G x) := by
  induction ms with
  | nil => intro F G x; rfl
  | cons m ms ih =>
    intro F G x
    show run ms (stp (fun y => F (G y)) m) x = F (run ms (stp G m) x)
    have e : stp (fun y => F (G y)) m = fun y => F (stp G m y) := by
      funext y
      cases m with
      | cp a b =>
        show (if y = a then F (G b) else F (G y)) = F (if y = a then G b else G y)
        split <;> rfl
      | sw a b =>
        show (if y = a then F (G b) else if y = b then F (G a) else F (G y)) = F (if y = a then G b else if y = b then G a else G y)
        split
        · rfl
        · split <;> rfl
    rw [e, ih]
end L3
set_option pp.maxSteps 600
/-! M5: copies alone, in plain Lean -/
namespace L3
open PySem PySem.Spec PyProof.Rows L2
/-! ### a chain of copies -/
def chainCp : List Int → Int → List Mv
  | [], _ => []
  | [x], w => [.cp x w]
  | x :: y :: r, w => .cp x y :: chainCp (y :: r) w
theorem src_some {l : List (Int × Int)} {x z : Int} (h : look l x = some z) : src l x = z := by
  unfold src
  rw [h]
  rfl
theorem run_chain {l : List (Int × Int)} {v w : Int} : ∀ (t : List Int) (x : Int) (F F0 : Int → Int), Wo l x t (some v) → (∀ y ∈ x :: t, F y = F0 y) → F w = F0 v → w ∉ x :: t → (x :: t).Nodup → ∀ y, run (chainCp (x :: t) w) F y = if y ∈ x :: t then F0 (src l y) else F y
  | [], x, F, F0, hw, h1, h2, h3, h4, y => by
    show (if y = x then F w else F y) = _
    have hw : look l x = some v := hw
    by_cases c : y = x
    · rw [if_pos c, if_pos (by rw [c]; exact List.mem_cons_self), h2, c, src_some hw]
    · rw [if_neg c, if_neg (by simpa using c)]
  | z :: r, x, F, F0, hw, h1, h2, h3, h4, y => by
    obtain ⟨hx, hw⟩ := hw
    rw [List.nodup_cons] at h4
    show run (chainCp (z :: r) w) (stp F (.cp x z)) y = _
    have nx : ∀ y, y ≠ x → stp F (.cp x z) y = F y := fun y c => if_neg c
    rw [run_chain r z (stp F (.cp x z)) F0 hw (fun y hy => by rw [nx y (fun e => h4.1 (by rw [← e]; exact hy))]; exact h1 y (List.mem_cons_of_mem _ hy)) (by rw [nx w (fun e => h3 (by rw [e]; exact List.mem_cons_self))]; exact h2) (fun hm => h3 (List.mem_cons_of_mem _ hm)) h4.2 y]
    by_cases c : y ∈ z :: r
    · rw [if_pos c, if_pos (List.mem_cons_of_mem _ c)]
    · rw [if_neg c]
      by_cases e : y = x
      · subst e
        rw [if_pos List.mem_cons_self]
        show (if y = y then F z else F y) = _
        rw [if_pos rfl, h1 z (by simp), src_some hx]
      · rw [nx y e, if_neg (by rw [List.mem_cons, not_or]; exact ⟨e, c⟩)]
theorem chain_range (w : Int) : ∀ (n : Nat) (f : Nat → Int), chainCp ((List.range (n + 1)).map f) w = ((List.range n).map fun i => Mv.cp (f i) (f (i + 1))) ++ [.cp (f n) w]
  | 0, f => rfl
  | n + 1, f => by
    have ih := chain_range w n (f ∘ Nat.succ)
    rw [List.range_succ_eq_map, List.map_cons, List.map_map]
    have e : (List.range (n + 1)).map (f ∘ Nat.succ) = f 1 :: (List.range n).map (f ∘ Nat.succ ∘ Nat.succ) := by
      rw [List.range_succ_eq_map, List.map_cons, List.map_map]
      rfl
    rw [e] at ih ⊢
    show Mv.cp (f 0) (f 1) :: chainCp (f 1 :: (List.range n).map (f ∘ Nat.succ ∘ Nat.succ)) w = _
    rw [ih, List.range_succ_eq_map (n := n), List.map_cons, List.map_map, List.cons_append]
    rfl
/-! ### the places of a ring, round and round -/
def rAt (r : List Int) (k : Int) : Int := r.getD ((k % (r.length : Int)).toNat) 0
theorem rAt_lt {r : List Int} (h : 0 < r.length) (k : Int) : (k % (r.length : Int)).toNat < r.length := by
  have h0 := Int.emod_nonneg k (b := (r.length : Int)) (by omega)
  have h1 := Int.emod_lt_of_pos k (b := (r.length : Int)) (by omega)
  omega
theorem rAt_get {r : List Int} (h : 0 < r.length) (k : Int) : r[(k % (r.length : Int)).toNat]? = some (rAt r k) := by
  unfold rAt
  rw [List.getD_eq_getElem?_getD, List.getElem?_eq_getElem (rAt_lt h k)]
  rfl
theorem rAt_mem {r : List Int} (h : 0 < r.length) (k : Int) : rAt r k ∈ r := List.mem_of_getElem? (rAt_get h k)
theorem rAt_of {r : List Int} {j : Nat} {x : Int} (h : r[j]? = some x) : rAt r (j : Int) = x := by
  have hj := (List.getElem?_eq_some_iff.mp h).1
  unfold rAt
  rw [Int.emod_eq_of_lt (by omega) (by omega), show ((j : Nat) : Int).toNat = j by omega, List.getD_eq_getElem?_getD, h]
  rfl
theorem rAt_mod {r : List Int} {i j : Int} (h : i % (r.length : Int) = j % (r.length : Int)) : rAt r i = rAt r j := by
  unfold rAt
  rw [h]
theorem emod_sub_one {k m : Int} (hm : 0 < m) : (k - 1) % m = if k % m = 0 then m - 1 else k % m - 1 := by
  have h0 := Int.emod_nonneg k (b := m) (by omega)
  have h1 := Int.emod_lt_of_pos k (b := m) hm
  have e := Int.mul_ediv_add_emod k m
  split
  · rename_i c
    have : k - 1 = (m - 1) + m * (k / m - 1) := by
      rw [Int.mul_sub, Int.mul_one]
      omega
    rw [this, Int.add_mul_emod_self_left, Int.emod_eq_of_lt (by omega) (by omega)]
  · rename_i c
    have : k - 1 = (k % m - 1) + m * (k / m) := by omega
    rw [this, Int.add_mul_emod_self_left, Int.emod_eq_of_lt (by omega) (by omega)]
theorem Rg.pos {l : List (Int × Int)} {r : List Int} (h : Rg l r) : 0 < r.length := by
  obtain ⟨b, q, _, rfl⟩ := h
  simp
theorem Rg.src_in {l : List (Int × Int)} {r : List Int} (h : Rg l r) {y : Int} (hy : y ∈ r) : look l y = some (src l y) ∧ src l y ∈ r := by
  obtain ⟨z, e, hz⟩ := h.keys hy
  rw [src_some e]
  exact ⟨e, hz⟩
theorem rAt_prev {l : List (Int × Int)} {r : List Int} (h : Rg l r) (k : Int) : look l (rAt r k) = some (rAt r (k - 1)) := by
  have hp := h.pos
  have hx := rAt_get hp k
  have e := h.prev hx
  have hs := (h.src_in (rAt_mem hp k)).1
  rw [hs]
  congr 1
  have h0 := Int.emod_nonneg k (b := (r.length : Int)) (by omega)
  have h1 := Int.emod_lt_of_pos k (b := (r.length : Int)) (by omega)
  have hm := emod_sub_one (k := k) (m := (r.length : Int)) (by omega)
  have hg := rAt_get hp (k - 1)
  rw [hm] at hg
  by_cases c : k % (r.length : Int) = 0
  · rw [if_pos c] at hg
    rw [c] at e
    have hne : r ≠ [] := fun z => by rw [z] at hp; cases hp
    have e2 : r.map D.int = r.dropLast.map D.int ++ [D.int (r.getLast hne)] := by
      rw [← List.map_singleton, ← List.map_append, List.dropLast_concat_getLast]
    rw [e2] at e
    have e3 : atI (r.dropLast.map D.int ++ [D.int (r.getLast hne)]) ((((0 : Int).toNat : Nat) : Int) - 1) = some (.int (r.getLast hne)) := atI_last _ _
    rw [e3] at e
    have e4 : r.getLast hne = src l (rAt r k) := by
      have := Option.some.inj e
      injection this
    rw [← e4]
    rw [show (((r.length : Int) - 1)).toNat = r.length - 1 by omega, ← List.getLast?_eq_getElem?, List.getLast?_eq_some_getLast hne] at hg
    exact Option.some.inj hg
  · rw [if_neg c] at hg
    obtain ⟨j, hj⟩ : ∃ j : Nat, k % (r.length : Int) = ((j + 1 : Nat) : Int) := ⟨(k % (r.length : Int)).toNat - 1, by omega⟩
    rw [hj] at e hg
    rw [show ((((j + 1 : Nat) : Int)).toNat : Int) - 1 = (j : Nat) by omega] at e
    rw [show (((j + 1 : Nat) : Int) - 1).toNat = j by omega] at hg
    have e5 : atI (r.map D.int) (j : Int) = some (.int (rAt r (k - 1))) := atI_nat (by rw [List.getElem?_map, hg]; rfl)
    rw [e5] at e
    have := Option.some.inj e
    injection this with this
    exact this.symm
theorem mod_ne {m p i j : Int} (hi : 0 ≤ i) (hi2 : i < m) (hj : 0 ≤ j) (hj2 : j < m) (ne : i ≠ j) : (p - i) % m ≠ (p - j) % m := fun e => by
  have h := Int.emod_eq_emod_iff_emod_sub_eq_zero.mp e
  have d : m ∣ (j - i) := by
    have := Int.dvd_of_emod_eq_zero h
    rwa [show p - i - (p - j) = j - i by omega] at this
  rcases Int.lt_or_gt_of_ne ne with c | c
  · have := Int.le_of_dvd (by omega) d
    omega
  · have d2 : m ∣ (i - j) := by
      have := Int.dvd_neg.mpr d
      rwa [show -(j - i) = i - j by omega] at this
    have := Int.le_of_dvd (by omega) d2
    omega
def rotL (r : List Int) (p : Int) (n : Nat) : List Int := (List.range n).map fun i : Nat => rAt r (p - i)
theorem rot_cons (r : List Int) (p : Int) (n : Nat) : rotL r p (n + 1) = rAt r p :: (List.range n).map fun i : Nat => rAt r (p - 1 - i) := by
  unfold rotL
  rw [List.range_succ_eq_map, List.map_cons, List.map_map]
  congr 1
  · rw [show p - ((0 : Nat) : Int) = p by omega]
  · apply List.map_congr_left
    intro i _
    show rAt r (p - ((i + 1 : Nat) : Int)) = _
    rw [show p - ((i + 1 : Nat) : Int) = p - 1 - i by omega]
theorem rot_wo {l : List (Int × Int)} {r : List Int} (h : Rg l r) (p : Int) : ∀ n : Nat, Wo l (rAt r p) ((List.range n).map fun i : Nat => rAt r (p - 1 - i)) (some (rAt r (p - 1 - n)))
  | 0 => by
    show look l (rAt r p) = some (rAt r (p - 1 - ((0 : Nat) : Int)))
    rw [show p - 1 - ((0 : Nat) : Int) = p - 1 by omega]
    exact rAt_prev h p
  | n + 1 => by
    have ih := rot_wo h p n
    rw [List.range_succ, List.map_append, List.map_singleton]
    have := Wo.snoc ih
    rw [rAt_prev h] at this
    rw [show p - 1 - ((n + 1 : Nat) : Int) = p - 1 - n - 1 by omega]
    exact this
theorem nodup_get {α : Type} {r : List α} (h : r.Nodup) {i j : Nat} (hi : i < r.length) (hj : j < r.length) (e : r[i] = r[j]) : i = j := by
  rcases Nat.lt_trichotomy i j with c | c | c
  · exact absurd e (List.pairwise_iff_getElem.mp h i j hi hj c)
  · exact c
  · exact absurd e.symm (List.pairwise_iff_getElem.mp h j i hj hi c)
theorem pw_apart {rs : List (List Int)} (h : rs.Pairwise fun r r' => ∀ x ∈ r, x ∉ r') {r r' : List Int} (hr : r ∈ rs) (hr' : r' ∈ rs) (ne : r ≠ r') : ∀ x ∈ r, x ∉ r' := by
  obtain ⟨i, hi, rfl⟩ := List.getElem_of_mem hr
  obtain ⟨j, hj, rfl⟩ := List.getElem_of_mem hr'
  rcases Nat.lt_trichotomy i j with c | c | c
  · exact List.pairwise_iff_getElem.mp h i j hi hj c
  · subst c
    exact absurd rfl ne
  · intro x hx hx'
    exact List.pairwise_iff_getElem.mp h j i hj hi c x hx' hx
theorem rot_nodup {l : List (Int × Int)} {r : List Int} (h : Rg l r) (p : Int) : (rotL r p r.length).Nodup := by
  unfold rotL List.Nodup
  rw [List.pairwise_map]
  have hr := List.nodup_range (n := r.length)
  refine List.Pairwise.imp_of_mem (fun {i j} hi hj ne e => ?_) hr
  have hi := List.mem_range.mp hi
  have hj := List.mem_range.mp hj
  have g1 := rAt_get h.pos (p - i)
  have g2 := rAt_get h.pos (p - j)
  rw [e] at g1
  have hlt1 := rAt_lt h.pos (p - i)
  have hlt2 := rAt_lt h.pos (p - j)
  rw [List.getElem?_eq_getElem hlt1] at g1
  rw [List.getElem?_eq_getElem hlt2] at g2
  have he : r[((p - (i : Int)) % (r.length : Int)).toNat] = r[((p - (j : Int)) % (r.length : Int)).toNat] := Option.some.inj (g1.trans g2.symm)
  have hx := nodup_get h.nodup hlt1 hlt2 he
  have hne := mod_ne (m := (r.length : Int)) (p := p) (i := i) (j := j) (by omega) (by omega) (by omega) (by omega) (by omega)
  have a0 := Int.emod_nonneg (p - i) (b := (r.length : Int)) (by omega)
  have b0 := Int.emod_nonneg (p - j) (b := (r.length : Int)) (by omega)
  omega
theorem rot_mem {l : List (Int × Int)} {r : List Int} (h : Rg l r) (p : Int) {x : Int} : x ∈ rotL r p r.length ↔ x ∈ r := by
  unfold rotL
  rw [List.mem_map]
  constructor
  · rintro ⟨i, _, rfl⟩
    exact rAt_mem h.pos _
  · intro hx
    obtain ⟨j, hj, rfl⟩ := List.getElem_of_mem hx
    have hm : (0 : Int) < r.length := by omega
    have h0 := Int.emod_nonneg (p - j) (b := (r.length : Int)) (by omega)
    have h1 := Int.emod_lt_of_pos (p - j) (b := (r.length : Int)) hm
    have e := Int.mul_ediv_add_emod (p - j) (r.length : Int)
    refine ⟨((p - j) % (r.length : Int)).toNat, List.mem_range.mpr (by omega), ?_⟩
    rw [show ((((p - (j : Int)) % (r.length : Int)).toNat : Nat) : Int) = (p - j) % (r.length : Int) by omega]
    have e2 : p - (p - j) % (r.length : Int) = j + (r.length : Int) * ((p - j) / (r.length : Int)) := by omega
    rw [rAt_mod (j := (j : Int)) (by rw [e2, Int.add_mul_emod_self_left])]
    exact rAt_of (List.getElem?_eq_getElem hj)
/-- copies along a ring, the box at p first, the last from w -/
def turnedL (r : List Int) (p w : Int) : List Mv := ((List.range (r.length - 1)).map fun s : Nat => Mv.cp (rAt r (p - s)) (rAt r (p - s - 1))) ++ [.cp (rAt r (p + 1)) w]
theorem turned_chain {r : List Int} (h : 0 < r.length) (p w : Int) : turnedL r p w = chainCp (rotL r p r.length) w := by
  obtain ⟨n, hn⟩ : ∃ n, r.length = n + 1 := ⟨r.length - 1, by omega⟩
  have e := chain_range w n fun i : Nat => rAt r (p - i)
  unfold rotL turnedL
  rw [hn, e, Nat.add_sub_cancel]
  congr 1
  · apply List.map_congr_left
    intro i _
    rw [show p - ((i + 1 : Nat) : Int) = p - i - 1 by omega]
  · congr 1
    congr 1
    refine rAt_mod ?_
    rw [hn]
    rw [show p + 1 = (p - n) + (((n + 1 : Nat) : Int)) * 1 by omega, Int.add_mul_emod_self_left]
theorem turned_len {r : List Int} (h : 0 < r.length) (p w : Int) : (turnedL r p w).length = r.length := by
  unfold turnedL
  rw [List.length_append, List.length_map, List.length_range, List.length_singleton]
  omega
theorem run_turned {l : List (Int × Int)} {r : List Int} (h : Rg l r) {p w : Int} (hw : w ∉ r) (F : Int → Int) (hF : F w = F (rAt r p)) (x : Int) : run (turnedL r p w) F x = if x ∈ r then F (src l x) else F x := by
  obtain ⟨n, hn⟩ : ∃ n, r.length = n + 1 := ⟨r.length - 1, by have := h.pos; omega⟩
  rw [turned_chain h.pos]
  have hm := fun y => rot_mem h p (x := y)
  have hd := rot_nodup h p
  rw [hn, rot_cons] at hm hd
  rw [hn, rot_cons]
  have wo := rot_wo h p n
  have e : rAt r (p - 1 - n) = rAt r p := rAt_mod (by
    rw [hn, show p - 1 - (n : Int) = p + (((n + 1 : Nat) : Int)) * (-1) by omega, Int.add_mul_emod_self_left])
  rw [e] at wo
  rw [run_chain _ _ F F wo (fun _ _ => rfl) hF (fun c => hw ((hm w).mp c)) hd x]
  by_cases c : x ∈ r
  · rw [if_pos c, if_pos ((hm x).mpr c)]
  · rw [if_neg c, if_neg fun z => c ((hm x).mp z)]
/-! ### shut rings, over a box t -/
def shutCp (t : Int) (r : List Int) : List Mv := .cp t (rAt r 0) :: turnedL r 0 t
theorem run_shut {l : List (Int × Int)} {t : Int} : ∀ (rs : List (List Int)), (∀ r ∈ rs, Rg l r) → rs.Pairwise (fun r r' => ∀ x ∈ r, x ∉ r') → (∀ r ∈ rs, t ∉ r) → ∀ (F : Int → Int) (x : Int), x ≠ t → run (rs.flatMap (shutCp t)) F x = if x ∈ rs.flatten then F (src l x) else F x
  | [], _, _, _, F, x, _ => by rw [if_neg (by simp)]; rfl
  | r :: rs, h, p, ht, F, x, hx => by
    rw [List.pairwise_cons] at p
    have hR := h r List.mem_cons_self
    have tr := ht r List.mem_cons_self
    rw [List.flatMap_cons, run_app, run_shut rs (fun r' hr' => h r' (List.mem_cons_of_mem _ hr')) p.2 (fun r' hr' => ht r' (List.mem_cons_of_mem _ hr')) _ x hx, List.flatten_cons]
    have nt : ∀ y, y ≠ t → stp F (.cp t (rAt r 0)) y = F y := fun y c => if_neg c
    have tt : stp F (.cp t (rAt r 0)) t = F (rAt r 0) := if_pos rfl
    have ne0 : ∀ y ∈ r, y ≠ t := fun y hy e => tr (by rw [← e]; exact hy)
    have first : ∀ y, y ≠ t → run (shutCp t r) F y = if y ∈ r then F (src l y) else F y := fun y hy => by
      show run (turnedL r 0 t) (stp F (.cp t (rAt r 0))) y = _
      rw [run_turned hR tr _ (by rw [tt, nt _ (ne0 _ (rAt_mem hR.pos 0))]) y]
      by_cases c : y ∈ r
      · rw [if_pos c, if_pos c, nt _ (ne0 _ (hR.src_in c).2)]
      · rw [if_neg c, if_neg c, nt _ hy]
    by_cases c : x ∈ rs.flatten
    · obtain ⟨r', hr', hxr⟩ := List.mem_flatten.mp c
      have hs := ((h r' (List.mem_cons_of_mem _ hr')).src_in hxr).2
      have hs1 : src l x ≠ t := fun e => ht r' (List.mem_cons_of_mem _ hr') (by rw [← e]; exact hs)
      have hs2 : src l x ∉ r := fun z => p.1 r' hr' _ z hs
      rw [if_pos c, if_pos (List.mem_append_right _ c), first _ hs1, if_neg hs2]
    · rw [if_neg c, first x hx]
      by_cases d : x ∈ r
      · rw [if_pos d, if_pos (List.mem_append_left _ d)]
      · rw [if_neg d, if_neg (by rw [List.mem_append, not_or]; exact ⟨d, c⟩)]
/-! ### the other rings -/
theorem run_open {l : List (Int × Int)} {p w : List Int → Int} : ∀ (rs : List (List Int)), (∀ r ∈ rs, Rg l r) → rs.Pairwise (fun r r' => ∀ x ∈ r, x ∉ r') → (∀ r ∈ rs, ∀ r' ∈ rs, w r ∉ r') → ∀ (F : Int → Int), (∀ r ∈ rs, F (w r) = F (rAt r (p r))) → ∀ x : Int, run (rs.flatMap fun r => turnedL r (p r) (w r)) F x = if x ∈ rs.flatten then F (src l x) else F x
  | [], _, _, _, F, _, x => by rw [if_neg (by simp)]; rfl
  | r :: rs, h, pw, hw, F, hF, x => by
    rw [List.pairwise_cons] at pw
    have hR := h r List.mem_cons_self
    have wr := hw r List.mem_cons_self r List.mem_cons_self
    have first := run_turned hR wr F (hF r List.mem_cons_self)
    rw [List.flatMap_cons, run_app, run_open rs (fun r' hr' => h r' (List.mem_cons_of_mem _ hr')) pw.2 (fun r' hr' r2 hr2 => hw r' (List.mem_cons_of_mem _ hr') r2 (List.mem_cons_of_mem _ hr2)) _ (fun r' hr' => by
      have a : w r' ∉ r := hw r' (List.mem_cons_of_mem _ hr') r List.mem_cons_self
      have b : rAt r' (p r') ∉ r := fun z => pw.1 r' hr' _ z (rAt_mem (h r' (List.mem_cons_of_mem _ hr')).pos _)
      rw [first, first, if_neg a, if_neg b]
      exact hF r' (List.mem_cons_of_mem _ hr')) x, List.flatten_cons]
    by_cases c : x ∈ rs.flatten
    · obtain ⟨r', hr', hxr⟩ := List.mem_flatten.mp c
      have hs := ((h r' (List.mem_cons_of_mem _ hr')).src_in hxr).2
      have hs2 : src l x ∉ r := fun z => pw.1 r' hr' _ z hs
      rw [if_pos c, if_pos (List.mem_append_right _ c), first, if_neg hs2]
    · rw [if_neg c, first x]
      by_cases d : x ∈ r
      · rw [if_pos d, if_pos (List.mem_append_left _ d)]
      · rw [if_neg d, if_neg (by rw [List.mem_append, not_or]; exact ⟨d, c⟩)]
/-! ### all of it -/
theorem fil_flat (p : List Int → Bool) : ∀ rs : List (List Int), (rs.filter p).flatten.length + (rs.filter fun r => !p r).flatten.length = rs.flatten.length
  | [] => rfl
  | r :: rs => by
    have ih := fil_flat p rs
    rw [List.filter_cons, List.filter_cons]
    cases p r with
    | true =>
      simp only [Bool.not_true, Bool.false_eq_true, if_false, if_true, List.flatten_cons, List.length_append]
      omega
    | false =>
      simp only [Bool.not_false, Bool.false_eq_true, if_false, if_true, List.flatten_cons, List.length_append]
      omega
theorem fil_mem (p : List Int → Bool) {rs : List (List Int)} {x : Int} : x ∈ rs.flatten ↔ x ∈ (rs.filter p).flatten ∨ x ∈ (rs.filter fun r => !p r).flatten := by
  simp only [List.mem_flatten, List.mem_filter]
  constructor
  · rintro ⟨r, hr, hx⟩
    cases q : p r with
    | true => exact .inl ⟨r, ⟨hr, q⟩, hx⟩
    | false => exact .inr ⟨r, ⟨hr, by rw [q]; rfl⟩, hx⟩
  · rintro (⟨r, ⟨hr, _⟩, hx⟩ | ⟨r, ⟨hr, _⟩, hx⟩)
    · exact ⟨r, hr, hx⟩
    · exact ⟨r, hr, hx⟩
noncomputable def shutR (l : List (Int × Int)) : List (List Int) := (ringsL l).filter (shutL l)
noncomputable def openR (l : List (Int × Int)) : List (List Int) := (ringsL l).filter fun r => !shutL l r
/-- copies: of the shut rings over t, the trees', of the other rings from a goal outside -/
noncomputable def copiesL (l : List (Int × Int)) (t : Int) (ms : List Mv) (p w : List Int → Int) : List Mv := (shutR l).flatMap (shutCp t) ++ ms ++ (openR l).flatMap fun r => turnedL r (p r) (w r)
/-- a goal outside that is led from r's box at p -/
def OutOk (l : List (Int × Int)) (p w : List Int → Int) : Prop := ∀ r ∈ openR l, w r ∉ r ∧ look l (w r) = some (rAt r (p r))
structure TmpOk (l : List (Int × Int)) (t : Int) : Prop where
  nr : ∀ r ∈ ringsL l, t ∉ r
  ns : ∀ x, look l x ≠ some t
theorem OutOk.tree {l : List (Int × Int)} (K : Kn l) {p w : List Int → Int} (h : OutOk l p w) {r : List Int} (hr : r ∈ openR l) : w r ∈ treeL l ∧ ∀ r' ∈ ringsL l, w r ∉ r' := by
  obtain ⟨h1, h2⟩ := h r hr
  have hm := (List.mem_filter.mp hr).1
  have hR := ringsL_rg hm
  have no : ∀ r' ∈ ringsL l, w r ∉ r' := fun r' hr' hw => by
    have hs := (ringsL_rg hr').closed hw h2
    have hin := rAt_mem hR.pos (p r)
    by_cases e : r = r'
    · subst e
      exact h1 hw
    · exact pw_apart (rings_apart K) hm hr' e _ hin hs
  refine ⟨treeL_mem.mpr ⟨List.mem_map.mpr ⟨_, look_mem h2, rfl⟩, fun ha => ?_⟩, no⟩
  obtain ⟨r', hr', hw⟩ := List.mem_flatten.mp ha
  exact no r' hr' hw
theorem copies_run {l : List (Int × Int)} (K : Kn l) {t : Int} {ms : List Mv} {p w : List Int → Int} (I : TrInv l [] ms) (hO : OutOk l p w) (hT : shutR l = [] ∨ TmpOk l t) (F : Int → Int) (x : Int) (hx : shutR l = [] ∨ x ≠ t ∨ x ∈ treeL l) : run (copiesL l t ms p w) F x = F (src l x) := by
  have ap := rings_apart K
  have tr := I.ru
  unfold copiesL
  rw [run_app, run_app]
  -- behind the shut rings
  have hG : ∀ y, (shutR l = [] ∨ y ≠ t) → run ((shutR l).flatMap (shutCp t)) F y = if y ∈ (shutR l).flatten then F (src l y) else F y := fun y hy => by
    rcases hT with e | hT
    · rw [e, if_neg (by simp)]
      rfl
    · rcases hy with e | hy
      · rw [e, if_neg (by simp)]
        rfl
      · exact run_shut _ (fun r hr => ringsL_rg (List.mem_filter.mp hr).1) (ap.filter _) (fun r hr => hT.nr r (List.mem_filter.mp hr).1) F y hy
  generalize run ((shutR l).flatMap (shutCp t)) F = G at hG
  have inR : ∀ {y : Int}, y ∈ (shutR l).flatten → y ∈ aroundL l := fun {y} h => (fil_mem (shutL l)).mpr (.inl h)
  have inO : ∀ {y : Int}, y ∈ (openR l).flatten → y ∈ aroundL l := fun {y} h => (fil_mem (shutL l)).mpr (.inr h)
  have apart : ∀ {y : Int}, y ∈ (shutR l).flatten → y ∉ (openR l).flatten := fun {y} h h' => by
    obtain ⟨r, hr, hy⟩ := List.mem_flatten.mp h
    obtain ⟨r', hr', hy'⟩ := List.mem_flatten.mp h'
    obtain ⟨m1, s1⟩ := List.mem_filter.mp hr
    obtain ⟨m2, s2⟩ := List.mem_filter.mp hr'
    have e : r ≠ r' := fun e => by
      rw [← e, s1] at s2
      cases s2
    exact pw_apart ap m1 m2 e y hy hy'
  -- a tree's source
  have hS : ∀ y, y ∈ treeL l → G (src l y) = F (src l y) := fun y hy => by
    obtain ⟨hk, hn⟩ := treeL_mem.mp hy
    obtain ⟨v, hv⟩ := look_some hk
    have e := src_some hv
    have nt : shutR l = [] ∨ src l y ≠ t := by
      rcases hT with e2 | hT
      · exact .inl e2
      · exact .inr fun z => hT.ns y (by rw [hv, ← e, z])
    rw [hG _ nt, if_neg]
    intro hm
    obtain ⟨r, hr, hyr⟩ := List.mem_flatten.mp hm
    obtain ⟨m1, s1⟩ := List.mem_filter.mp hr
    have q := List.all_eq_true.mp (show ((l.map (·.1)).all fun g => !(decide (((look l g).getD 0) ∈ r) && !decide (g ∈ r))) = true from s1) y hk
    have hyn : y ∉ r := fun z => hn (List.mem_flatten.mpr ⟨r, m1, z⟩)
    rw [hv] at q
    rw [e] at hyr
    have : decide ((some v).getD 0 ∈ r) = true := decide_eq_true hyr
    rw [this, decide_eq_false hyn] at q
    cases q
  have hTr : ∀ y, run ms G y = if y ∈ treeL l then F (src l y) else G y := fun y => by
    rw [tr G y]
    by_cases c : y ∈ treeL l
    · rw [if_pos ⟨c, by simp⟩, if_pos c]
      exact hS y c
    · rw [if_neg fun h => c h.1, if_neg c]
  generalize run ms G = T at hTr
  have arT : ∀ y ∈ aroundL l, y ∉ treeL l := fun y h h' => (treeL_mem.mp h').2 h
  -- the open rings' boxes
  have hOp : ∀ y ∈ (openR l).flatten, T y = F y := fun y hy => by
    have ha := inO hy
    have ns : y ∉ (shutR l).flatten := fun z => apart z hy
    have nt : shutR l = [] ∨ y ≠ t := by
      rcases hT with e | hT
      · exact .inl e
      · refine .inr fun z => ?_
        obtain ⟨r, hr, hyr⟩ := List.mem_flatten.mp ha
        exact hT.nr r hr (by rw [← z]; exact hyr)
    rw [hTr y, if_neg (arT y ha), hG y nt, if_neg ns]
  rw [run_open (l := l) (openR l) (fun r hr => ringsL_rg (List.mem_filter.mp hr).1) (ap.filter _) (fun r hr r' hr' => (hO.tree K hr).2 r' (List.mem_filter.mp hr').1) T (fun r hr => by
    have h1 := (hO.tree K hr).1
    have h2 := (hO r hr).2
    have hin := rAt_mem (ringsL_rg (List.mem_filter.mp hr).1).pos (p r)
    rw [hTr (w r), if_pos h1, src_some h2, hOp _ (List.mem_flatten.mpr ⟨r, hr, hin⟩)]) x]
  by_cases c : x ∈ (openR l).flatten
  · rw [if_pos c]
    obtain ⟨r, hr, hxr⟩ := List.mem_flatten.mp c
    exact hOp _ (List.mem_flatten.mpr ⟨r, hr, ((ringsL_rg (List.mem_filter.mp hr).1).src_in hxr).2⟩)
  · rw [if_neg c, hTr x]
    by_cases d : x ∈ treeL l
    · rw [if_pos d]
    · rw [if_neg d]
      have nt : shutR l = [] ∨ x ≠ t := by
        rcases hx with h | h | h
        · exact .inl h
        · exact .inr h
        · exact absurd h d
      rw [hG x nt]
      by_cases s : x ∈ (shutR l).flatten
      · rw [if_pos s]
      · rw [if_neg s]
        have na : x ∉ aroundL l := fun z => by
          rcases (fil_mem (shutL l)).mp z with z | z
          · exact s z
          · exact c z
        have nk : x ∉ l.map (·.1) := fun z => d (treeL_mem.mpr ⟨z, na⟩)
        unfold src
        rw [look_no nk]
        rfl
theorem flat_len (f : List Int → List Mv) (k : Nat) : ∀ rs : List (List Int), (∀ r ∈ rs, (f r).length = r.length + k) → (rs.flatMap f).length = rs.flatten.length + k * rs.length
  | [], _ => by simp
  | r :: rs, h => by
    have ih := flat_len f k rs fun r' hr' => h r' (List.mem_cons_of_mem _ hr')
    rw [List.flatMap_cons, List.length_append, h r List.mem_cons_self, ih, List.flatten_cons, List.length_append, List.length_cons, Nat.mul_succ]
    omega
theorem copies_len {l : List (Int × Int)} (K : Kn l) {t : Int} {ms : List Mv} {p w : List Int → Int} (I : TrInv l [] ms) : (copiesL l t ms p w).length = l.length + (shutR l).length := by
  have h1 := flat_len (shutCp t) 1 (shutR l) fun r hr => by
    show (turnedL r 0 t).length + 1 = _
    rw [turned_len (ringsL_rg (List.mem_filter.mp hr).1).pos]
  have h2 := flat_len (fun r => turnedL r (p r) (w r)) 0 (openR l) fun r hr => turned_len (ringsL_rg (List.mem_filter.mp hr).1).pos _ _
  have h3 := fil_flat (shutL l) (ringsL l)
  have h4 := tree_len K
  have h5 := I.len
  have h6 : (aroundL l).length = (ringsL l).flatten.length := rfl
  have h7 : ((ringsL l).filter (shutL l)).flatten.length = (shutR l).flatten.length := rfl
  have h8 : ((ringsL l).filter fun r => !shutL l r).flatten.length = (openR l).flatten.length := rfl
  unfold copiesL
  rw [List.length_append, List.length_append, h1, h2]
  simp only [List.length_nil, Nat.add_zero] at h5
  omega
theorem turned_ok {l : List (Int × Int)} {r : List Int} (h : Rg l r) {b : Int} (hb : ∀ x ∈ r, 0 ≤ x ∧ x < b) {p w : Int} (hw : w ∉ r) (h0 : 0 ≤ w) (h1 : w < b) (K : Kn l) : ∀ m ∈ turnedL r p w, ∃ x y, m = Mv.cp x y ∧ x ≠ y ∧ 0 ≤ x ∧ x < b ∧ 0 ≤ y ∧ y < b := fun m hm => by
  unfold turnedL at hm
  rcases List.mem_append.mp hm with hm | hm
  · obtain ⟨s, _, rfl⟩ := List.mem_map.mp hm
    have m1 := rAt_mem h.pos (p - s)
    have m2 := rAt_mem h.pos (p - s - 1)
    have e := rAt_prev h (p - s)
    exact ⟨_, _, rfl, (K.look e).2.2.2.2, (hb _ m1).1, (hb _ m1).2, (hb _ m2).1, (hb _ m2).2⟩
  · rw [List.mem_singleton] at hm
    subst hm
    have m1 := rAt_mem h.pos (p + 1)
    exact ⟨_, _, rfl, fun e => hw (by rw [← e]; exact m1), (hb _ m1).1, (hb _ m1).2, h0, h1⟩
theorem copies_ok {b : Int} {l : List (Int × Int)} (K : Kn l) (L : Lead b l) {t : Int} {ms : List Mv} {p w : List Int → Int} (I : TrInv l [] ms) (hO : OutOk l p w) (hT : shutR l = [] ∨ (TmpOk l t ∧ 0 ≤ t ∧ t < b)) : ∀ m ∈ copiesL l t ms p w, ∃ x y, m = Mv.cp x y ∧ x ≠ y ∧ 0 ≤ x ∧ x < b ∧ 0 ≤ y ∧ y < b := fun m hm => by
  have hbd : ∀ r ∈ ringsL l, ∀ x ∈ r, 0 ≤ x ∧ x < b := fun r hr x hx => around_bd L (List.mem_flatten.mpr ⟨r, hr, hx⟩)
  unfold copiesL at hm
  rcases List.mem_append.mp hm with hm | hm
  · rcases List.mem_append.mp hm with hm | hm
    · obtain ⟨r, hr, hm⟩ := List.mem_flatMap.mp hm
      rcases hT with e | ⟨hT, t0, t1⟩
      · rw [e] at hr
        cases hr
      · have hm1 := (List.mem_filter.mp hr).1
        have hR := ringsL_rg hm1
        rcases List.mem_cons.mp hm with rfl | hm
        · have m1 := rAt_mem hR.pos 0
          exact ⟨_, _, rfl, fun e => hT.nr r hm1 (by rw [e]; exact m1), t0, t1, hbd r hm1 _ m1⟩
        · exact turned_ok hR (hbd r hm1) (hT.nr r hm1) t0 t1 K m hm
    · obtain ⟨g, s, rfl, h⟩ := I.ok m hm
      have := L.bd _ (look_mem h)
      exact ⟨g, s, rfl, (K.look h).2.2.2.2, this.1, this.2.1, this.2.2.1, this.2.2.2⟩
  · obtain ⟨r, hr, hm⟩ := List.mem_flatMap.mp hm
    have hm1 := (List.mem_filter.mp hr).1
    obtain ⟨h1, h2⟩ := hO r hr
    have := L.bd _ (look_mem h2)
    exact turned_ok (ringsL_rg hm1) (hbd r hm1) h1 this.1 this.2.1 K m hm
end L3
set_option pp.maxSteps 400
/-! P5: copies alone: what the code computes -/
namespace L3
open PySem PySem.Spec PyProof.Rows L2
theorem eqE_nilV {neg : Bool} {xs : List D} {v : Bool} {K : D → Prop} (hd : Dk 6 (.lst xs)) (e : xs.isEmpty = v) (k : K (.bl (if neg then !v else v))) : eqE neg (.lst xs) (.lst []) K := eqE_nil (n := 6) hd (by decide) (by rw [e]; exact k)
theorem Dk_intsL (ns : List Int) (n : Nat) : Dk (n + 1) (.lst (ns.map D.int)) := .lst _ _ (Dk_ints _ n)
/-! ### equality of tuples of numbers -/
theorem eqvAll_ints : ∀ a b : List Int, PyData.eqvAll (D.pys (a.map D.int)) (D.pys (b.map D.int)) = decide (a = b)
  | [], [] => by simp [D.pys, PyData.eqvAll]
  | [], b :: bs => by simp [D.pys, PyData.eqvAll]
  | a :: as, [] => by simp [D.pys, PyData.eqvAll]
  | a :: as, b :: bs => by
    have ih := eqvAll_ints as bs
    simp only [List.map_cons, D.pys, D.py, PyData.eqvAll, PyData.eqv]
    rw [ih, beqI, ← Bool.decide_and]
    exact decide_eq_decide.mpr (by rw [List.cons.injEq])
theorem eqv_tup (a b : List Int) : PyData.eqv (tupD a).py (tupD b).py = decide (a = b) := by
  have := eqvAll_ints a b
  simp only [D.py, PyData.eqv]
  exact this
theorem Dk_tup (r : List Int) (n : Nat) : Dk (n + 1) (tupD r) := .tup _ _ (Dk_ints _ n)
theorem any_tup (r : List Int) : ∀ rs : List (List Int), (D.pys (rs.map tupD)).any (fun z => PyData.eqv z (tupD r).py) = decide (r ∈ rs)
  | [] => by simp [D.pys]
  | a :: rs => by
    have ih := any_tup r rs
    show (PyData.eqv (tupD a).py (tupD r).py || (D.pys (rs.map tupD)).any (fun z => PyData.eqv z (tupD r).py)) = _
    rw [ih, eqv_tup, ← Bool.decide_or]
    exact decide_eq_decide.mpr (by rw [List.mem_cons]; exact or_congr_left eq_comm)
theorem inDp_tup {neg : Bool} {r : List Int} {rs : List (List Int)} {K : D → Prop} (k : K (.bl (if neg then !decide (r ∈ rs) else decide (r ∈ rs)))) : inDp neg (tupD r) (.lst (rs.map tupD)) K := by
  have hd : Dk 3 (.lst (rs.map tupD)) := .lst _ _ fun d hd => by
    obtain ⟨a, _, rfl⟩ := List.mem_map.mp hd
    exact Dk_tup a 1
  refine ⟨(Dk_tup r 0).pl, hd.pl, (Dk_tup r 0).shaped (by decide), hd.shaped (by decide), ?_⟩
  rw [any_tup]
  exact k
/-! ### temp_of -/
def freeT (l : List (Int × Int)) (sp : List Int) : List Int := sortI sp ++ (sortI ((kvD l).map (·.1))).filter fun g => !decide (g ∈ l.map (·.2))
def tmpO (l : List (Int × Int)) (sp : List Int) : Option Int := (freeT l sp).head?
def sp_temp_of : Spec := fun _ ds Kd _ => ∃ l sp, ds = [.dic (kvD l), .lst (sp.map D.int)] ∧ Kn l ∧ sp.length ≤ 1000 ∧ Kd (optD (tmpO l sp))
abbrev N_temp_of : List Str := ["known", "spares", "sources", "goal", "free"]
abbrev ps_temp_of : List Str := ["known", "spares"]
def m_temp_of (sa : Option Addr) : MSt :=
  (mSeq (mSet 2 (mLc (.nm 3) [3] (mIter (mVar 0)) tYesM (m2 getK (mVar 0) (mVar 3))))
  (mSeq (mSet 4 (m2 addD (mCall sortedD (aCons (mVar 1) aNil)) (mLc (.nm 3) [3] (mIter (mCall sortedD (aCons (mVar 0) aNil))) (mB (m2 (inS true) (mVar 3) (mVar 2))) (mVar 3))))
  (mRet (mIf (mB (m2 (eqE true) (mVar 4) (mLst aNil))) (m2 ixD (mVar 4) (mC (.int 0))) (mC .non)))))
theorem pu_temp_of (sa : Option Addr) (ds : List D) (Kd : D → Prop) (KX : Exn → Prop) (hl : ds.length = 2) (h : sp_temp_of sa ds Kd KX) : m_temp_of sa (startS N_temp_of.length ds) { nx := fun _ => false = false ∧ Kd .non, rt := Kd, ex := KX } := by
  obtain ⟨l, sp, rfl, K, hs, k⟩ := h
  have hlen := K.L.len (by decide)
  have hkv : (kvD l).length = l.length := by unfold kvD; rw [List.length_map]
  refine ⟨by rw [List.length_map, hkv]; omega, lcD_map (l := l) (fun p => .int p.1) (fun p => .int p.2) (keysD_eq l) (fun p hp => ⟨[(3, .int p.1)], rfl, fun Kd hK => getK_mem K.L.nd hp hK⟩) ?_⟩
  refine sortedD_ints ?_
  refine sortedD_dic ?_
  have hsl : (sortI ((kvD l).map (·.1))).length ≤ 10 := by rw [(sortI_perm _).length_eq, List.length_map, hkv]; omega
  refine ⟨by rw [List.length_map]; omega, lcD_filter (fun g => !decide (g ∈ l.map fun p : Int × Int => p.2)) rfl rfl (fun x hx Kb hk => inS_lstE (ns := l.map fun p : Int × Int => p.2) (by rw [List.map_map]; rfl) hk) ?_⟩
  have hfl := List.length_filter_le (fun g => !decide (g ∈ l.map (·.2))) (sortI ((kvD l).map (·.1)))
  have hsp : (sortI sp).length ≤ 1000 := by rw [(sortI_perm _).length_eq]; exact hs
  refine ⟨sz_ok (by rw [List.length_map, List.length_map]; omega), ?_⟩
  have eL : (sortI sp).map D.int ++ ((sortI ((kvD l).map (·.1))).filter fun g => !decide (g ∈ l.map (·.2))).map D.int = (freeT l sp).map D.int := by
    unfold freeT
    rw [List.map_append]
  have dk : Dk 6 (.lst ((sortI sp).map D.int ++ ((sortI ((kvD l).map (·.1))).filter fun g => !decide (g ∈ l.map (·.2))).map D.int)) := by
    rw [eL]
    exact Dk_intsL _ 5
  unfold tmpO at k
  refine ⟨z0, eqE_nilV (v := (freeT l sp).isEmpty) dk (by rw [eL]; cases freeT l sp <;> rfl) (ite2 (fun c => ?_) (fun c => ?_))⟩
  · have c : (!(freeT l sp).isEmpty) = true := c
    cases hf : freeT l sp with
    | nil => rw [hf] at c; cases c
    | cons t r =>
      rw [hf] at k
      exact ixD_lst (d := .int t) (by rw [eL, hf]; exact atI_nat (j := 0) rfl) k
  · have c : ¬(!(freeT l sp).isEmpty) = true := c
    cases hf : freeT l sp with
    | nil => rw [hf] at k; exact k
    | cons t r => rw [hf] at c; exact absurd rfl c
/-! ### turned -/
theorem atI_rAt {r : List Int} (h : 0 < r.length) (k : Int) : atI (r.map D.int) (k % ((r.map D.int).length : Int)) = some (.int (rAt r k)) := by
  rw [List.length_map]
  have h0 := Int.emod_nonneg k (b := (r.length : Int)) (by omega)
  have e : k % (r.length : Int) = (((k % (r.length : Int)).toNat : Nat) : Int) := by omega
  have g := rAt_get h k
  rw [e]
  exact atI_nat (by rw [List.getElem?_map, g]; rfl)
def sp_turned : Spec := fun _ ds Kd _ => ∃ (r : List Int) (p w : Int), ds = [tupD r, .int p, .int w] ∧ 0 < r.length ∧ r.length ≤ 100 ∧ Kd (.lst ((turnedL r p w).map mvD))
abbrev N_turned : List Str := ["ring", "place", "whence", "many", "found", "step"]
abbrev ps_turned : List Str := ["ring", "place", "whence"]
def m_turned (sa : Option Addr) : MSt :=
  (mSeq (mSet 3 (mCall lenD (aCons (mVar 0) aNil)))
  (mSeq (mSetF 4 (mLst aNil))
  (mSeq (mFor (.nm 5) (mRange (aCons (m2 subD (mVar 3) (mC (.int 1))) aNil)) (mAppend 4 (mTup (aCons (mC (.str "copy")) (aCons (m2 ixD (mVar 0) (m2 modD (m2 subD (mVar 1) (mVar 5)) (mVar 3))) (aCons (m2 ixD (mVar 0) (m2 modD (m2 subD (m2 subD (mVar 1) (mVar 5)) (mC (.int 1))) (mVar 3))) aNil))))))
  (mRet (m2 catD (mVar 4) (mLst (aCons (mTup (aCons (mC (.str "copy")) (aCons (m2 ixD (mVar 0) (m2 modD (m2 addD (mVar 1) (mC (.int 1))) (mVar 3))) (aCons (mVar 2) aNil)))) aNil)))))))
theorem pu_turned (sa : Option Addr) (ds : List D) (Kd : D → Prop) (KX : Exn → Prop) (hl : ds.length = 3) (h : sp_turned sa ds Kd KX) : m_turned sa (startS N_turned.length ds) { nx := fun _ => true = false ∧ Kd .non, rt := Kd, ex := KX } := by
  obtain ⟨r, p, w, rfl, h0, h1, k⟩ := h
  have hr : (r.map D.int).length = r.length := List.length_map _
  have hm : 0 < (((r.map D.int).length : Nat) : Int) := by omega
  refine ⟨z0, fun q => ?_⟩
  refine ⟨by omega, by omega, forD_at (fun i env => i ≤ r.length - 1 ∧ ∃ e5, env = [some (.sh (tupD r)), some (.sh (.int p)), some (.sh (.int w)), some (.sh (.int (((r.map D.int).length : Nat) : Int))), some (.own q (.lst (((List.range i).map fun s : Nat => Mv.cp (rAt r (p - s)) (rAt r (p - s - 1))).map mvD))), e5]) ⟨Nat.zero_le _, _, rfl⟩ ?_ ?_⟩
  · rintro i d env nx hi ⟨hle, e5, rfl⟩ hn
    have hil := (List.getElem?_eq_some_iff.mp hi).1
    rw [List.length_map, List.length_range] at hil
    rw [List.getElem?_map, List.getElem?_range hil] at hi
    cases hi
    have hil : i < r.length - 1 := by omega
    refine ⟨_, rfl, ⟨hm, ixD_tup (atI_rAt h0 _) ⟨hm, ixD_tup (atI_rAt h0 _) ⟨z3, sz_lt (by rw [List.length_map, List.length_map, List.length_range]; omega), hn _ ⟨hil, some (.sh (.int i)), ?_⟩⟩⟩⟩⟩
    rw [List.range_succ, List.map_append, List.map_append]
    rfl
  · rintro env ⟨hle, e5, rfl⟩
    have el : ((List.range ((((r.map D.int).length : Nat) : Int) - 1).toNat).map fun i : Nat => D.int (i : Int)).length = r.length - 1 := by
      rw [List.length_map, List.length_range]
      omega
    rw [el]
    refine ⟨hm, ixD_tup (atI_rAt h0 _) ⟨z3, z1, ?_, ?_⟩⟩
    · exact sz_ok (by rw [List.length_map, List.length_map, List.length_range, List.length_singleton]; omega)
    · unfold turnedL at k
      rw [List.map_append] at k
      exact k
/-! ### by_copies -/
structure CpOk (b : Int) (l : List (Int × Int)) (sp : List Int) (ms : List Mv) : Prop where
  ru : ∀ F x, x ∉ sp → run ms F x = F (src l x)
  len : ms.length = l.length + (shutR l).length
  ok : ∀ m ∈ ms, ∃ x y, m = Mv.cp x y ∧ x ≠ y ∧ 0 ≤ x ∧ x < b ∧ 0 ≤ y ∧ y < b
def outG (l : List (Int × Int)) (r : List Int) : Int := ((outL l r).headD (0, 0)).1
def outP (l : List (Int × Int)) (r : List Int) : Int := ((r.idxOf ((outL l r).headD (0, 0)).2 : Nat) : Int)
theorem out_head {l : List (Int × Int)} {r : List Int} (h : shutL l r = false) : ∃ g s, (outL l r).head? = some (g, s) ∧ g ∉ r ∧ look l g = some s ∧ s ∈ r := by
  have e := out_empty l r
  rw [h] at e
  cases q : outL l r with
  | nil => rw [q] at e; cases e
  | cons p t =>
    obtain ⟨g, s⟩ := p
    have hm : (g, s) ∈ outL l r := by rw [q]; exact List.mem_cons_self
    unfold outL at hm
    obtain ⟨g', hg', e2⟩ := List.mem_filterMap.mp hm
    split at e2
    · rename_i c
      cases e2
      have hk : g ∈ l.map (·.1) := (sortI_perm _).mem_iff.mp hg'
      obtain ⟨v, hv⟩ := look_some hk
      rw [hv] at c ⊢
      exact ⟨g, v, rfl, c.1, hv, c.2⟩
    · cases e2
theorem rAt_idx {r : List Int} {s : Int} (h : s ∈ r) : rAt r ((r.idxOf s : Nat) : Int) = s := rAt_of (by
  have hi := List.idxOf_lt_length_of_mem h
  rw [List.getElem?_eq_getElem hi, List.getElem_idxOf hi])
theorem out_ok (l : List (Int × Int)) : OutOk l (outP l) (outG l) := fun r hr => by
  obtain ⟨_, hs⟩ := List.mem_filter.mp hr
  have hs : shutL l r = false := by simpa using hs
  obtain ⟨g, s, e, h1, h2, h3⟩ := out_head hs
  have e2 : (outL l r).headD (0, 0) = (g, s) := by
    rw [List.headD_eq_head?_getD, e]
    rfl
  unfold outG outP
  rw [e2]
  exact ⟨h1, by rw [rAt_idx h3]; exact h2⟩
theorem ring_src {l : List (Int × Int)} {r : List Int} (h : Rg l r) {y : Int} (hy : y ∈ r) : ∃ x, look l x = some y := by
  obtain ⟨i, hi, rfl⟩ := List.getElem_of_mem hy
  have := rAt_prev h ((i : Int) + 1)
  rw [show (i : Int) + 1 - 1 = i by omega, rAt_of (List.getElem?_eq_getElem hi)] at this
  exact ⟨_, this⟩
theorem vals_src {l : List (Int × Int)} {x y : Int} (h : look l x = some y) : y ∈ l.map (·.2) := List.mem_map.mpr ⟨_, look_mem h, rfl⟩
theorem tmp_ok {b : Int} {l : List (Int × Int)} {sp : List Int} {t : Int} (L : Lead b l) (hok : okSp b l sp = true) (ht : tmpO (kn l) sp = some t) : TmpOk (kn l) t ∧ 0 ≤ t ∧ t < b ∧ (t ∈ sp ∨ t ∈ (kn l).map (·.1)) := by
  have hm : t ∈ freeT (kn l) sp := List.mem_of_head? ht
  have hv : t ∉ (kn l).map (·.2) ∧ 0 ≤ t ∧ t < b ∧ (t ∈ sp ∨ t ∈ (kn l).map (·.1)) := by
    rcases List.mem_append.mp hm with h | h
    · have h := (sortI_perm _).mem_iff.mp h
      unfold okSp at hok
      rw [Bool.and_eq_true] at hok
      have q := List.all_eq_true.mp hok.1 t h
      rw [Bool.and_eq_true, Bool.and_eq_true] at q
      have q2 := q.2
      unfold freeB at q2
      rw [Bool.and_eq_true] at q2
      exact ⟨by simpa using q2.2, of_decide_eq_true q.1.1, of_decide_eq_true q.1.2, .inl h⟩
    · obtain ⟨h1, h2⟩ := List.mem_filter.mp h
      have h1 := (sortI_perm _).mem_iff.mp h1
      rw [keys_kv] at h1
      obtain ⟨p, hp, rfl⟩ := List.mem_map.mp h1
      have := L.kn.bd p hp
      exact ⟨by simpa using h2, this.1, this.2.1, .inr (List.mem_map.mpr ⟨p, hp, rfl⟩)⟩
  refine ⟨⟨fun r hr hin => ?_, fun x e => hv.1 (vals_src e)⟩, hv.2⟩
  obtain ⟨x, e⟩ := ring_src (ringsL_rg hr) hin
  exact hv.1 (vals_src e)
theorem cp_ok {b : Int} {l : List (Int × Int)} {sp : List Int} {ms : List Mv} {t : Int} (L : Lead b l) (hb : b ≤ 10) (hok : okSp b l sp = true) (I : TrInv (kn l) [] ms) (ht : shutR (kn l) = [] ∨ tmpO (kn l) sp = some t) : CpOk b (kn l) sp (copiesL (kn l) t ms (outP (kn l)) (outG (kn l))) := by
  have K := Kn.of L hb
  have hT : shutR (kn l) = [] ∨ (TmpOk (kn l) t ∧ 0 ≤ t ∧ t < b) := ht.imp id fun h => ⟨(tmp_ok L hok h).1, (tmp_ok L hok h).2.1, (tmp_ok L hok h).2.2.1⟩
  refine ⟨fun F x hx => copies_run K I (out_ok _) (hT.imp id (·.1)) F x ?_, copies_len K I, copies_ok K L.kn I (out_ok _) hT⟩
  rcases ht with e | h
  · exact .inl e
  · refine .inr ?_
    obtain ⟨h1, _, _, h2⟩ := tmp_ok L hok h
    by_cases c : x = t
    · subst c
      refine .inr (treeL_mem.mpr ⟨h2.resolve_left hx, fun ha => ?_⟩)
      obtain ⟨r, hr, hin⟩ := List.mem_flatten.mp ha
      exact h1.nr r hr hin
    · exact .inl c
def sp_by_copies : Spec := fun _ ds Kd KX => ∃ (b : Int) (l : List (Int × Int)) (sp : List Int), ds = [.int b, leadD l, .lst (sp.map D.int)] ∧ Lead b l ∧ 1 ≤ b ∧ b ≤ 10 ∧ sp.length ≤ 1000 ∧ (okSp b l sp = false → KX ⟨"BadSpare", none⟩) ∧
  (okSp b l sp = true → (shutR (kn l) ≠ [] ∧ tmpO (kn l) sp = none → KX ⟨"NoWay", none⟩) ∧ (¬(shutR (kn l) ≠ [] ∧ tmpO (kn l) sp = none) → ∀ ms, CpOk b (kn l) sp ms → Kd (.lst (ms.map mvD))))
abbrev N_by_copies : List Str := ["boxes", "lead", "spares", "known", "shut", "temp", "found", "ring", "every", "goal", "source"]
abbrev ps_by_copies : List Str := ["boxes", "lead", "spares"]
def m_by_copies (sa : Option Addr) : MSt :=
  (mSeq (mExpr (mCallU sa sp_need_lead (aCons (mVar 0) (aCons (mVar 1) aNil))))
  (mSeq (mExpr (mCallU sa sp_need_spares (aCons (mVar 0) (aCons (mVar 1) (aCons (mVar 2) aNil)))))
  (mSeq (mSet 3 (mCallU sa sp_real_pairs (aCons (mVar 1) aNil)))
  (mSeq (mSet 4 (mCallU sa sp_shut_of (aCons (mVar 3) aNil)))
  (mSeq (mSet 5 (mCallU sa sp_temp_of (aCons (mVar 3) (aCons (mVar 2) aNil))))
  (mSeq (mIfS (mAnd (mB (m2 (eqE true) (mVar 4) (mLst aNil))) (mB (m2 (isND false) (mVar 5) (mC .non)))) (mRaise "NoWay") mNext)
  (mSeq (mSetF 6 (mLst aNil))
  (mSeq (mFor (.nm 7) (mIter (mVar 4)) (mSetFC 6 (m2 catD (m2 addD (mVar 6) (mLst (aCons (mTup (aCons (mC (.str "copy")) (aCons (mVar 5) (aCons (m2 ixD (mVar 7) (mC (.int 0))) aNil)))) aNil))) (mCallU sa sp_turned (aCons (mVar 7) (aCons (mC (.int 0)) (aCons (mVar 5) aNil)))))))
  (mSeq (mSet 8 (mCallU sa sp_rings_of (aCons (mVar 3) aNil)))
  (mSeq (mSetFC 6 (m2 catD (mVar 6) (mCallU sa sp_tree_copies (aCons (mVar 3) (aCons (mCallU sa sp_around_of (aCons (mVar 8) aNil)) aNil)))))
  (mSeq (mFor (.nm 7) (mIter (mVar 8)) (mIfS (mB (m2 (inDp true) (mVar 7) (mVar 4))) (mSeq (mSetT (.tp [9, 10]) (m2 ixD (mCallU sa sp_outward (aCons (mVar 3) (aCons (mVar 7) aNil))) (mC (.int 0))))
      (mSetFC 6 (m2 catD (mVar 6) (mCallU sa sp_turned (aCons (mVar 7) (aCons (mIndexT (mVar 7) (mVar 10)) (aCons (mVar 9) aNil))))))) mNext))
  (mRetO 6))))))))))))
theorem eqE_tups {neg : Bool} {rs : List (List Int)} {K : D → Prop} (k : K (.bl (if neg then !rs.isEmpty else rs.isEmpty))) : eqE neg (.lst (rs.map tupD)) (.lst []) K :=
  eqE_nilV (v := rs.isEmpty) (.lst _ _ fun d hd => by
    obtain ⟨a, _, rfl⟩ := List.mem_map.mp hd
    exact Dk_tup a 4) (by cases rs <;> rfl) k
theorem pre_len {α β : Type} (f : α → List β) {xs ys : List α} (h : xs <+: ys) : (xs.flatMap f).length ≤ (ys.flatMap f).length := by
  obtain ⟨t, rfl⟩ := h
  rw [List.flatMap_append, List.length_append]
  exact Nat.le_add_right _ _
theorem pu_by_copies (sa : Option Addr) (ds : List D) (Kd : D → Prop) (KX : Exn → Prop) (hl : ds.length = 3) (h : sp_by_copies sa ds Kd KX) : m_by_copies sa (startS N_by_copies.length ds) { nx := fun _ => true = false ∧ Kd .non, rt := Kd, ex := KX } := by
  obtain ⟨b, l, sp, rfl, L, b0, b1, hs, kf, kt⟩ := h
  have K := Kn.of L b1
  have hkl := L.kn.len (by omega)
  have hr1 := ringsL_len K
  refine ⟨b, l, rfl, L, b0, b1, b, l, sp, rfl, L, b0, b1, hs, fun hok => ?_, kf⟩
  obtain ⟨kno, kyes⟩ := kt hok
  refine ⟨b, l, rfl, L, by omega, b1, kn l, rfl, K, kn l, sp, rfl, K, hs, ?_⟩
  have hsh : (shutR (kn l)).length ≤ 10 := Nat.le_trans (List.length_filter_le _ _) hr1
  have hring : ∀ r ∈ ringsL (kn l), 0 < r.length ∧ r.length ≤ 100 := fun r hr => ⟨(ringsL_rg hr).pos, by
    obtain ⟨x, _, e⟩ := List.mem_filterMap.mp hr
    exact Nat.le_trans (ringOf_len K e).1 (by decide)⟩
  -- the rest, behind the question of a way
  have rest : ¬(shutR (kn l) ≠ [] ∧ tmpO (kn l) sp = none) → mSeq (mSetF 6 (mLst aNil)) (mSeq (mFor (.nm 7) (mIter (mVar 4)) (mSetFC 6 (m2 catD (m2 addD (mVar 6) (mLst (aCons (mTup (aCons (mC (.str "copy")) (aCons (mVar 5) (aCons (m2 ixD (mVar 7) (mC (.int 0))) aNil)))) aNil))) (mCallU sa sp_turned (aCons (mVar 7) (aCons (mC (.int 0)) (aCons (mVar 5) aNil)))))))
      (mSeq (mSet 8 (mCallU sa sp_rings_of (aCons (mVar 3) aNil)))
      (mSeq (mSetFC 6 (m2 catD (mVar 6) (mCallU sa sp_tree_copies (aCons (mVar 3) (aCons (mCallU sa sp_around_of (aCons (mVar 8) aNil)) aNil)))))
      (mSeq (mFor (.nm 7) (mIter (mVar 8)) (mIfS (mB (m2 (inDp true) (mVar 7) (mVar 4))) (mSeq (mSetT (.tp [9, 10]) (m2 ixD (mCallU sa sp_outward (aCons (mVar 3) (aCons (mVar 7) aNil))) (mC (.int 0))))
          (mSetFC 6 (m2 catD (mVar 6) (mCallU sa sp_turned (aCons (mVar 7) (aCons (mIndexT (mVar 7) (mVar 10)) (aCons (mVar 9) aNil))))))) mNext))
      (mRetO 6)))))
      [some (.sh (.int b)), some (.sh (leadD l)), some (.sh (.lst (sp.map D.int))), some (.sh (.dic (kvD (kn l)))), some (.sh (.lst ((shutR (kn l)).map tupD))), some (.sh (optD (tmpO (kn l) sp))), none, none, none, none, none] { nx := fun _ => true = false ∧ Kd .non, rt := Kd, ex := KX } := by
    intro hway
    have ht : shutR (kn l) = [] ∨ tmpO (kn l) sp = some ((tmpO (kn l) sp).getD 0) := by
      by_cases c : shutR (kn l) = []
      · exact .inl c
      · cases q : tmpO (kn l) sp with
        | none => exact absurd ⟨c, q⟩ hway
        | some t => exact .inr rfl
    generalize ht0 : (tmpO (kn l) sp).getD 0 = t at ht
    have final := fun (ms : List Mv) (I : TrInv (kn l) [] ms) => cp_ok L b1 hok I ht
    have lenA : ∀ ms : List Mv, TrInv (kn l) [] ms → (copiesL (kn l) t ms (outP (kn l)) (outG (kn l))).length ≤ 20 := fun ms I => by
      have := (final ms I).len
      omega
    have lenS : ((shutR (kn l)).flatMap (shutCp t)).length ≤ 20 := by
      have h1 := flat_len (shutCp t) 1 (shutR (kn l)) fun r hr => by
        show (turnedL r 0 t).length + 1 = _
        rw [turned_len (ringsL_rg (List.mem_filter.mp hr).1).pos]
      have h3 := fil_flat (shutL (kn l)) (ringsL (kn l))
      have h4 := tree_len K
      have h6 : (aroundL (kn l)).length = (ringsL (kn l)).flatten.length := rfl
      have h7 : ((ringsL (kn l)).filter (shutL (kn l))).flatten.length = (shutR (kn l)).flatten.length := rfl
      omega
    refine ⟨z0, fun q => ?_⟩
    refine forD_at (fun i env => ∃ q e7, env = [some (.sh (.int b)), some (.sh (leadD l)), some (.sh (.lst (sp.map D.int))), some (.sh (.dic (kvD (kn l)))), some (.sh (.lst ((shutR (kn l)).map tupD))), some (.sh (optD (tmpO (kn l) sp))), some (.own q (.lst ((((shutR (kn l)).take i).flatMap (shutCp t)).map mvD))), e7, none, none, none]) ⟨_, _, rfl⟩ ?_ ?_
    · rintro i d env nx hi ⟨q, e7, rfl⟩ hn
      rw [List.getElem?_map] at hi
      cases hm : (shutR (kn l))[i]? with
      | none => rw [hm] at hi; cases hi
      | some r =>
        rw [hm] at hi
        cases hi
        have hrm := List.mem_of_getElem? hm
        obtain ⟨r0, r1⟩ := hring r (List.mem_filter.mp hrm).1
        have ht2 : tmpO (kn l) sp = some t := by
          rcases ht with e | e
          · rw [e] at hrm; cases hrm
          · exact e
        have hnext : ((shutR (kn l)).take (i + 1)).flatMap (shutCp t) = ((shutR (kn l)).take i).flatMap (shutCp t) ++ shutCp t r := by
          rw [List.take_add_one, hm, List.flatMap_append]
          simp
        have hle := flat_take_len (shutCp t) (shutR (kn l)) (i + 1)
        rw [hnext, List.length_append] at hle
        have hsl : (shutCp t r).length = (turnedL r 0 t).length + 1 := rfl
        rw [ht2]
        refine ⟨_, rfl, ?_⟩
        have a0 : atI (r.map D.int) 0 = some (.int (rAt r 0)) := by
          have := atI_rAt r0 0
          rwa [Int.zero_emod] at this
        refine ixD_tup a0 ⟨z3, z1, ?_⟩
        refine ⟨sz_ok (by rw [List.length_map, List.length_singleton]; omega), r, 0, t, rfl, r0, r1, ?_⟩
        refine ⟨sz_ok (by rw [List.length_append, List.length_map, List.length_map, List.length_singleton]; omega), fun q2 => hn _ ⟨q2, some (.sh (tupD r)), ?_⟩⟩
        rw [hnext, List.map_append, ht2, List.append_assoc]
        rfl
    · rintro env ⟨q, e7, rfl⟩
      rw [List.length_map, List.take_length]
      refine ⟨kn l, rfl, K, ?_⟩
      refine ⟨ringsL (kn l), rfl, Nat.le_trans (around_len K) (by decide), kn l, rfl, K, fun ms I => ?_⟩
      have hlen := lenA ms I
      have hcl : copiesL (kn l) t ms (outP (kn l)) (outG (kn l)) = ((shutR (kn l)).flatMap (shutCp t) ++ ms) ++ (openR (kn l)).flatMap fun r => turnedL r (outP (kn l) r) (outG (kn l) r) := rfl
      rw [hcl, List.length_append, List.length_append] at hlen
      refine ⟨sz_ok (by rw [List.length_map, List.length_map]; omega), fun q2 => ?_⟩
      rw [← List.map_append]
      let tf : List Int → List Mv := fun r => turnedL r (outP (kn l) r) (outG (kn l) r)
      let op : List Int → Bool := fun r => !shutL (kn l) r
      refine forD_at (fun i env => ∃ q e7 e9 e10, env = [some (.sh (.int b)), some (.sh (leadD l)), some (.sh (.lst (sp.map D.int))), some (.sh (.dic (kvD (kn l)))), some (.sh (.lst ((shutR (kn l)).map tupD))), some (.sh (optD (tmpO (kn l) sp))), some (.own q (.lst ((((shutR (kn l)).flatMap (shutCp t) ++ ms) ++ (((ringsL (kn l)).take i).filter op).flatMap tf).map mvD))), e7, some (.sh (.lst ((ringsL (kn l)).map tupD))), e9, e10]) ⟨q2, _, _, _, by rw [List.take_zero, List.filter_nil, List.flatMap_nil, List.append_nil]; rfl⟩ ?_ ?_
      · rintro i d env nx hi ⟨q, e7, e9, e10, rfl⟩ hn
        rw [List.getElem?_map] at hi
        cases hm : (ringsL (kn l))[i]? with
        | none => rw [hm] at hi; cases hi
        | some r =>
          rw [hm] at hi
          cases hi
          have hrm := List.mem_of_getElem? hm
          obtain ⟨r0, r1⟩ := hring r hrm
          have hin : r ∈ shutR (kn l) ↔ shutL (kn l) r = true := by
            unfold shutR
            rw [List.mem_filter]
            exact ⟨fun h => h.2, fun h => ⟨hrm, h⟩⟩
          have hnext : ((ringsL (kn l)).take (i + 1)).filter op = ((ringsL (kn l)).take i).filter op ++ if op r = true then [r] else [] := by
            rw [List.take_add_one, hm, List.filter_append]
            congr 1
            show List.filter op [r] = _
            rw [List.filter_cons]
            rfl
          have hpl : ((((ringsL (kn l)).take (i + 1)).filter op).flatMap tf).length ≤ ((openR (kn l)).flatMap tf).length := pre_len tf ((List.take_prefix _ _).filter _)
          have hd : Dk 3 (.lst ((shutR (kn l)).map tupD)) := .lst _ _ fun d hd => by
            obtain ⟨a, _, rfl⟩ := List.mem_map.mp hd
            exact Dk_tup a 1
          refine ⟨_, rfl, (Dk_tup r 0).pl, hd.pl, (Dk_tup r 0).shaped (by decide), hd.shaped (by decide), ite2 (fun c => ?_) (fun c => ?_)⟩
          · have c : (!(D.pys ((shutR (kn l)).map tupD)).any (fun z => PyData.eqv z (tupD r).py)) = true := c
            rw [any_tup] at c
            have c : r ∉ shutR (kn l) := by simpa using c
            have hs : shutL (kn l) r = false := by
              cases q : shutL (kn l) r with
              | false => rfl
              | true => exact absurd (hin.mpr q) c
            have hop : op r = true := by show (!shutL (kn l) r) = true; rw [hs]; rfl
            rw [hnext, if_pos hop, List.flatMap_append, List.length_append] at hpl
            have htf : ([r].flatMap tf) = tf r := by simp
            rw [htf] at hpl
            obtain ⟨g, s, e, h1, h2, h3⟩ := out_head hs
            have e2 : (outL (kn l) r).headD (0, 0) = (g, s) := by
              rw [List.headD_eq_head?_getD, e]
              rfl
            obtain ⟨tl, e3⟩ : ∃ tl, outL (kn l) r = (g, s) :: tl := by
              cases q : outL (kn l) r with
              | nil => rw [q] at e; cases e
              | cons p tl => rw [q] at e; cases e; exact ⟨tl, rfl⟩
            have hG : outG (kn l) r = g := by unfold outG; rw [e2]
            have hP : outP (kn l) r = ((r.idxOf s : Nat) : Int) := by unfold outP; rw [e2]
            refine ⟨kn l, r, rfl, K, ixD_lst (d := pD (g, s)) (by rw [e3]; exact atI_nat (j := 0) rfl) ⟨_, rfl, ?_⟩⟩
            have hi := List.idxOf_lt_length_of_mem h3
            have eqi : ∀ a c : Int, eqV (fv (.int a)) (fv (.int c)) = decide (a = c) := fun a c => by
              show (a == c) = _
              exact beqI a c
            refine ⟨⟨_, rfl⟩, rfl, flat_ints r, r.idxOf s, .int s, by rw [List.getElem?_map, List.getElem?_eq_getElem hi, List.getElem_idxOf hi]; rfl, by rw [eqi, decide_eq_true rfl], fun m z hmi hz => ?_, ?_⟩
            · rw [List.getElem?_map] at hz
              cases q : r[m]? with
              | none => rw [q] at hz; cases hz
              | some y =>
                rw [q] at hz
                cases hz
                rw [eqi]
                refine decide_eq_false fun z => ?_
                subst z
                obtain ⟨hml, hme⟩ := List.getElem?_eq_some_iff.mp q
                have := List.not_of_lt_findIdx (p := fun a => a == y) (xs := r) (i := m) (by exact hmi)
                rw [hme] at this
                simp at this
            · refine ⟨r, ((r.idxOf s : Nat) : Int), g, rfl, r0, r1, ?_⟩
              have e4 : turnedL r ((r.idxOf s : Nat) : Int) g = tf r := by
                show _ = turnedL r (outP (kn l) r) (outG (kn l) r)
                rw [hG, hP]
              rw [e4]
              refine ⟨sz_ok ?_, fun q3 => hn _ ⟨q3, some (.sh (tupD r)), some (.sh (.int g)), some (.sh (.int s)), ?_⟩⟩
              · rw [List.length_map, List.length_map, List.length_append, List.length_append]
                have : ((openR (kn l)).flatMap tf).length = ((openR (kn l)).flatMap fun r => turnedL r (outP (kn l) r) (outG (kn l) r)).length := rfl
                omega
              · rw [hnext, if_pos hop, List.flatMap_append, htf, ← List.append_assoc, List.map_append (l₂ := tf r)]
                rfl
          · have c : ¬ (!(D.pys ((shutR (kn l)).map tupD)).any (fun z => PyData.eqv z (tupD r).py)) = true := c
            rw [any_tup] at c
            have c : r ∈ shutR (kn l) := by
              by_cases q : r ∈ shutR (kn l)
              · exact q
              · exact absurd (show (!decide (r ∈ shutR (kn l))) = true by rw [decide_eq_false q]; rfl) c
            have hop : ¬ op r = true := by
              show ¬ (!shutL (kn l) r) = true
              rw [hin.mp c]
              decide
            refine hn _ ⟨q, some (.sh (tupD r)), e9, e10, ?_⟩
            rw [hnext, if_neg hop, List.append_nil]
            rfl
      · rintro env ⟨q, e7, e9, e10, rfl⟩
        rw [List.length_map, List.take_length]
        exact kyes hway _ (final ms I)
  refine ⟨z0, eqE_tups (ite2 (fun c => ?_) (fun c => ?_))⟩
  · have c : (!(shutR (kn l)).isEmpty) = true := c
    have c1 : shutR (kn l) ≠ [] := fun e => by rw [e] at c; cases c
    cases ht : tmpO (kn l) sp with
    | none => exact ⟨rfl, kno ⟨c1, ht⟩⟩
    | some t =>
      have := rest fun h => by rw [ht] at h; cases h.2
      rw [ht] at this
      exact ⟨rfl, this⟩
  · have c : ¬(!(shutR (kn l)).isEmpty) = true := c
    refine rest fun h => ?_
    cases q : shutR (kn l) with
    | nil => exact h.1 q
    | cons r rs => rw [q] at c; exact absurd rfl c
end L3
/-! K00: small ones for the laws -/
namespace L3
open PySem PySem.Spec PyProof.Rows L2
theorem no__law_same : ∀ sa ds Kd KX, sp__law_same 0 sa ds Kd KX → False := fun sa ds Kd KX ⟨_, d, j, hj, _⟩ => by omega
theorem no__law_grown : ∀ sa ds Kd KX, sp__law_grown 0 sa ds Kd KX → False := fun sa ds Kd KX ⟨l, b, u, _, K, b0, b1, p, hm, _⟩ => by
  have := p.len K ⟨b0, b1⟩
  omega
theorem Ds_rings {rs : List (List Int)} (h1 : rs.length ≤ 1000) (h2 : ∀ r ∈ rs, r.length ≤ 1000) : Ds 3 (.lst (rs.map tupD)) := .lst 2 _ (by rw [List.length_map]; omega) fun d hd => by
  obtain ⟨r, hr, rfl⟩ := List.mem_map.mp hd
  refine .tup 1 _ (by rw [List.length_map]; exact Nat.le_trans (h2 r hr) (by decide)) fun e he => ?_
  obtain ⟨i, _, rfl⟩ := List.mem_map.mp he
  exact .int _ i
theorem Dk_lead (l : List (Int × Int)) : Dk 2 (leadD l) := .lst _ _ fun d hd => by
  obtain ⟨p, _, rfl⟩ := List.mem_map.mp hd
  exact .tup _ _ fun d hd => by
    rcases List.mem_cons.mp hd with e | e
    · rw [e]; exact .int _ _
    · rw [List.mem_singleton.mp e]; exact .int _ _
end L3
set_option pp.maxSteps 400
/-! P8: papers -/
namespace L3
open PySem PySem.Spec PyProof.Rows L2
noncomputable def paperL (l : List (Int × Int)) : List (List D) := [(sortI ((kvD (kn l)).map (·.1))).map D.int, ((ringsL (kn l)).filter (shutL (kn l))).map tupD, (ringsL (kn l)).map tupD]
def sp_paper : Spec := fun _ ds Kd _ => ∃ b l, ds = [.int b, leadD l] ∧ Lead b l ∧ 1 ≤ b ∧ b ≤ 10 ∧ Kd (.tup ((paperL l).map D.lst))
abbrev N_paper : List Str := ["boxes", "lead", "known"]
abbrev ps_paper : List Str := ["boxes", "lead"]
def m_paper (sa : Option Addr) : MSt :=
  (mSeq (mExpr (mCallU sa sp_need_lead (aCons (mVar 0) (aCons (mVar 1) aNil))))
  (mSeq (mSet 2 (mCallU sa sp_real_pairs (aCons (mVar 1) aNil)))
  (mRet (mTup (aCons (mCall sortedD (aCons (mVar 2) aNil)) (aCons (mCallU sa sp_shut_of (aCons (mVar 2) aNil)) (aCons (mCallU sa sp_rings_of (aCons (mVar 2) aNil)) aNil)))))))
theorem pu_paper (sa : Option Addr) (ds : List D) (Kd : D → Prop) (KX : Exn → Prop) (hl : ds.length = 2) (h : sp_paper sa ds Kd KX) : m_paper sa (startS N_paper.length ds) { nx := fun _ => false = false ∧ Kd .non, rt := Kd, ex := KX } := by
  obtain ⟨b, l, rfl, L, b0, b1, k⟩ := h
  have K := Kn.of L b1
  refine ⟨b, l, rfl, L, b0, b1, b, l, rfl, L, by omega, b1, sortedD_dic ?_⟩
  exact ⟨kn l, rfl, K, kn l, rfl, K, z3, k⟩
def sp3_paper : Spec3 := fun _ ds K3 _ => ∃ b l, ds = [.int b, leadD l] ∧ Lead b l ∧ 1 ≤ b ∧ b ≤ 10 ∧ K3 (paperL l)
def m1T_paper (sa : Option Addr) : MSt := (mExpr (mCallU sa sp_need_lead (aCons (mVar 0) (aCons (mVar 1) aNil))))
def m2T_paper (sa : Option Addr) : MSt := (mSet 2 (mCallU sa sp_real_pairs (aCons (mVar 1) aNil)))
def m3T_paper (sa : Option Addr) : M3t := (mTup3 (mCall sortedD (aCons (mVar 2) aNil)) (mCallU sa sp_shut_of (aCons (mVar 2) aNil)) (mCallU sa sp_rings_of (aCons (mVar 2) aNil)))
theorem pu3_paper (sa : Option Addr) (ds : List D) (K3 : List (List D) → Prop) (KX : Exn → Prop) (hl : ds.length = 2) (h : sp3_paper sa ds K3 KX) : m1T_paper sa (startS N_paper.length ds) { nx := fun env1 => m2T_paper sa env1 { nx := fun env2 => m3T_paper sa (viewE env2) K3 KX, rt := fun _ => False, ex := KX }, rt := fun _ => False, ex := KX } := by
  obtain ⟨b, l, rfl, L, b0, b1, k⟩ := h
  have K := Kn.of L b1
  refine ⟨b, l, rfl, L, b0, b1, b, l, rfl, L, by omega, b1, sortedD_dic ?_⟩
  exact ⟨kn l, rfl, K, kn l, rfl, K, _, _, _, rfl, rfl, rfl, k⟩
noncomputable def leastC (l : List (Int × Int)) : Int := ((kn l).length : Nat) + (((ringsL (kn l)).filter (shutL (kn l))).length : Nat)
noncomputable def leastS (l : List (Int × Int)) : Int := ((kn l).length : Nat) - ((ringsL (kn l)).length : Nat)
def sp_least : Spec := fun _ ds Kd KX => ∃ (b : Int) (l : List (Int × Int)) (w : Str), ds = [.int b, leadD l, .str w] ∧ Lead b l ∧ 1 ≤ b ∧ b ≤ 10 ∧ (w = "copies" → Kd (.int (leastC l))) ∧ (w = "swaps" → Kd (.int (leastS l))) ∧ (w ≠ "copies" → w ≠ "swaps" → KX ⟨"BadWord", none⟩)
abbrev N_least : List Str := ["boxes", "lead", "word", "goals", "shut", "every"]
abbrev ps_least : List Str := ["boxes", "lead", "word"]
def m_least (sa : Option Addr) : MSt :=
  (mSeq (mSetT (.tp [3, 4, 5]) (mCallU sa sp_paper (aCons (mVar 0) (aCons (mVar 1) aNil))))
  (mSeq (mIfS (mB (m2 (eqE false) (mVar 2) (mC (.str "copies")))) (mRet (m2 addD (mCall lenD (aCons (mVar 3) aNil)) (mCall lenD (aCons (mVar 4) aNil)))) mNext)
  (mSeq (mIfS (mB (m2 (eqE true) (mVar 2) (mC (.str "swaps")))) (mRaise "BadWord") mNext)
  (mRet (m2 subD (mCall lenD (aCons (mVar 3) aNil)) (mCall lenD (aCons (mVar 5) aNil)))))))
theorem goals_len (l : List (Int × Int)) : ((sortI ((kvD (kn l)).map (·.1))).map D.int).length = (kn l).length := by
  rw [List.length_map, (sortI_perm _).length_eq, List.length_map]
  unfold kvD
  rw [List.length_map]
theorem cs_ne : ¬ (("swaps" : Str) = "copies") := by decide +kernel
theorem pu_least (sa : Option Addr) (ds : List D) (Kd : D → Prop) (KX : Exn → Prop) (hl : ds.length = 3) (h : sp_least sa ds Kd KX) : m_least sa (startS N_least.length ds) { nx := fun _ => false = false ∧ Kd .non, rt := Kd, ex := KX } := by
  obtain ⟨b, l, w, rfl, L, b0, b1, k1, k2, k3⟩ := h
  have e1 : leastC l = ((((sortI ((kvD (kn l)).map (·.1))).map D.int).length : Nat) : Int) + (((((ringsL (kn l)).filter (shutL (kn l))).map tupD).length : Nat) : Int) := by
    rw [goals_len, List.length_map]
    rfl
  have e2 : leastS l = ((((sortI ((kvD (kn l)).map (·.1))).map D.int).length : Nat) : Int) - (((((ringsL (kn l))).map tupD).length : Nat) : Int) := by
    rw [goals_len, List.length_map]
    rfl
  rw [e1] at k1
  rw [e2] at k2
  refine ⟨b, l, rfl, L, b0, b1, _, rfl, eqE_str (ite2 (fun c => ?_) (fun c => ?_))⟩
  · exact k1 (of_decide_eq_true c)
  · have c : ¬ w = "copies" := fun e => c (decide_eq_true e)
    refine eqE_str (ite2 (fun c2 => ?_) (fun c2 => ?_))
    · exact k3 c (neT c2)
    · refine k2 ?_
      by_cases e : w = "swaps"
      · exact e
      · exact absurd (show (if true = true then !decide (w = "swaps") else decide (w = "swaps")) = true by rw [decide_eq_false e]; rfl) c2
end L3
/-! F7: arrangements of up to four boxes, gone through -/
namespace L3
open PySem PySem.Spec PyProof.Rows L2
def arrs (n : Nat) : Nat → List (List Nat)
  | 0 => [[]]
  | k + 1 => (arrs n k).flatMap fun r => (List.range n).map fun i => i :: r
theorem mem_arrs {n : Nat} : ∀ {k : Nat} {w : List Nat}, w ∈ arrs n k ↔ w.length = k ∧ ∀ x ∈ w, x < n
  | 0, w => by
    unfold arrs
    rw [List.mem_singleton]
    constructor
    · rintro rfl
      exact ⟨rfl, fun x h => nomatch h⟩
    · rintro ⟨h, _⟩
      exact List.eq_nil_of_length_eq_zero h
  | k + 1, w => by
    unfold arrs
    rw [List.mem_flatMap]
    constructor
    · rintro ⟨r, hr, h⟩
      obtain ⟨i, hi, rfl⟩ := List.mem_map.mp h
      obtain ⟨h1, h2⟩ := mem_arrs.mp hr
      refine ⟨by rw [List.length_cons, h1], fun x hx => ?_⟩
      rcases List.mem_cons.mp hx with rfl | hx
      · exact List.mem_range.mp hi
      · exact h2 x hx
    · rintro ⟨h1, h2⟩
      cases w with
      | nil => cases h1
      | cons i r => exact ⟨r, mem_arrs.mpr ⟨by simpa using h1, fun x hx => h2 x (List.mem_cons_of_mem _ hx)⟩, List.mem_map.mpr ⟨i, List.mem_range.mpr (h2 i List.mem_cons_self), rfl⟩⟩
def at0 (w : List Nat) (i : Nat) : Nat := w.getD i 0
def wkA (w : List Nat) (b : Nat) : Nat → Nat → Option (List Nat)
  | 0, _ => none
  | f + 1, x => if x == b then some [] else if at0 w x == x then none else match wkA w b f (at0 w x) with
    | some r => some (x :: r)
    | none => none
def memA (x : Nat) (l : List Nat) : Bool := l.any fun y => y == x
def nodA : List Nat → Bool
  | [] => true
  | x :: r => !memA x r && nodA r
def rgA (w : List Nat) (b : Nat) : Option (List Nat) := if at0 w b == b then none else match wkA w b (w.length) (at0 w b) with
  | some q => if q.all (fun x => Nat.blt b x) && nodA q then some (b :: q.reverse) else none
  | none => none
def ixA (w : List Nat) : List Nat := List.range w.length
def goalsA (w : List Nat) : List Nat := (ixA w).filter fun i => !(at0 w i == i)
def ringsA (w : List Nat) : List (List Nat) := (ixA w).filterMap (rgA w)
def shutA (w : List Nat) (r : List Nat) : Bool := (goalsA w).all fun g => !(memA (at0 w g) r && !memA g r)
def endsA (w : List Nat) : List Nat := (goalsA w).filter fun g => !((goalsA w).any fun h => at0 w h == g)
def cntC (w : List Nat) : Nat := (goalsA w).length + ((ringsA w).filter (shutA w)).length
def cntS (w : List Nat) : Nat := (goalsA w).length - (ringsA w).length
def noWayA (w : List Nat) (S : List Nat) : Bool := !((ringsA w).filter (shutA w)).isEmpty && (S.isEmpty && (endsA w).isEmpty)
/-- how many moves an arrangement costs; none: it is not to be had -/
def costA (sw : Bool) (w : List Nat) : Option Nat := if sw then some (cntS w) else if noWayA w [] then none else some (cntC w)
def nextA (sw : Bool) (w : List Nat) : List (List Nat) := (ixA w).flatMap fun i => (ixA w).flatMap fun j =>
  (if i == j then [] else [w.set i (at0 w j)]) ++ (if sw && Nat.blt i j then [(w.set i (at0 w j)).set j (at0 w i)] else [])
def leO (c : Option Nat) (d : Nat) : Bool := match c with
  | some c => Nat.ble c d
  | none => false
def isO (c : Option Nat) (d : Nat) : Bool := match c with
  | some c => c == d
  | none => false
theorem leO_inv {c : Option Nat} {d : Nat} (h : leO c d = true) : ∃ e, c = some e ∧ e ≤ d := by
  cases c with
  | none => cases h
  | some e => exact ⟨e, rfl, Nat.le_of_ble_eq_true h⟩
theorem isO_inv {c : Option Nat} {d : Nat} (h : isO c d = true) : c = some d := by
  cases c with
  | none => cases h
  | some e => exact congrArg some (eq_of_beq h)
def eqA : List Nat → List Nat → Bool
  | [], [] => true
  | a :: r, b :: s => a == b && eqA r s
  | _, _ => false
theorem eqA_eq : ∀ {a b : List Nat}, eqA a b = true → a = b
  | [], [], _ => rfl
  | a :: r, b :: s, h => by
    have h : (a == b && eqA r s) = true := h
    rw [Bool.and_eq_true] at h
    rw [eq_of_beq h.1, eqA_eq h.2]
  | [], _ :: _, h => by cases h
  | _ :: _, [], h => by cases h
def small : List Nat := [1, 2, 3, 4]
/-- a move costs one at most -/
def chkB (sw : Bool) (w : List Nat) : Bool := match costA sw w with
  | none => true
  | some c => Nat.ble c 8 && (nextA sw w).all fun o => leO (costA sw o) (c + 1)
/-- one move ahead it was cheaper -/
def predA (sw : Bool) (w : List Nat) : List (List Nat) := (ixA w).flatMap fun i => (ixA w).flatMap fun j =>
  (if i == j then [] else if at0 w i == at0 w j then (ixA w).map fun v => w.set i v else []) ++ (if sw && Nat.blt i j then [(w.set i (at0 w j)).set j (at0 w i)] else [])
def inA (n : Nat) (p : List Nat) : Bool := p.length == n && p.all fun x => Nat.blt x n
theorem inA_mem {n : Nat} {p : List Nat} (h : inA n p = true) : p ∈ arrs n n := by
  unfold inA at h
  rw [Bool.and_eq_true] at h
  exact mem_arrs.mpr ⟨eq_of_beq h.1, fun x hx => by
    have := List.all_eq_true.mp h.2 x hx
    exact Nat.le_of_ble_eq_true this⟩
def chkC (sw : Bool) (n : Nat) (w : List Nat) : Bool := match costA sw w with
  | some (c + 1) => (predA sw w).any fun p => isO (costA sw p) c && ((nextA sw p).any (eqA w) && inA n p)
  | some 0 => eqA w (List.range n)
  | none => true
def chk0 (n : Nat) : Bool := isO (costA true (List.range n)) 0 && isO (costA false (List.range n)) 0 && Nat.ble (arrs n n).length 256
/-! spares -/
def subsA : List Nat → List (List Nat)
  | [] => [[]]
  | a :: r => (subsA r).flatMap fun s => [s, a :: s]
def fillA (w : List Nat) (S : List Nat) : List Nat := (ixA w).map fun i => if memA i S then i else at0 w i
def freeA (w : List Nat) (S : List Nat) : Bool := (ixA w).all fun i => memA i S || !memA (at0 w i) S
/-- boxes of S aside, w is another one: it costs no less -/
def chkD (S : List Nat) (w : List Nat) : Bool := if freeA w S then (match costA false w with
  | none => true
  | some c => !noWayA (fillA w S) S && Nat.ble (cntC (fillA w S)) c) else true
def varyA (w : List Nat) : List Nat → List (List Nat)
  | [] => [w]
  | s :: S => (varyA w S).flatMap fun u => (ixA w).map fun v => u.set s v
def selfA (w : List Nat) (S : List Nat) : Bool := S.all fun s => at0 w s == s
def chkE (S : List Nat) (w : List Nat) : Bool := if selfA w S && freeA w S && !noWayA w S then (varyA w S).any fun u => isO (costA false u) (cntC w) else true
set_option maxHeartbeats 0
theorem ok0 : (small.all chk0) = true := by decide +kernel
theorem okB : (small.all fun n => (arrs n n).all fun w => chkB true w && chkB false w) = true := by decide +kernel
theorem okC : (small.all fun n => (arrs n n).all fun w => chkC true n w && chkC false n w) = true := by decide +kernel
theorem okD : (small.all fun n => (subsA (List.range n)).all fun S => (arrs n n).all (chkD S)) = true := by decide +kernel
theorem okE : (small.all fun n => (subsA (List.range n)).all fun S => (arrs n n).all (chkE S)) = true := by decide +kernel
end L3
set_option pp.maxSteps 400
/-! P7: going on from all arrangements, move by move -/
namespace L3
open PySem PySem.Spec PyProof.Rows L2
/-! ### what was gone through -/
theorem small_of {n : Nat} (h0 : 1 ≤ n) (h1 : n ≤ 4) : n ∈ small := by
  unfold small
  have : n = 1 ∨ n = 2 ∨ n = 3 ∨ n = 4 := by omega
  rcases this with rfl | rfl | rfl | rfl <;> simp
theorem chkB_of {n : Nat} (hn : n ∈ small) {w : List Nat} (hw : w ∈ arrs n n) (sw : Bool) : chkB sw w = true := by
  have h := List.all_eq_true.mp (List.all_eq_true.mp okB n hn) w hw
  rw [Bool.and_eq_true] at h
  cases sw
  · exact h.2
  · exact h.1
theorem costB {n : Nat} (hn : n ∈ small) {w o : List Nat} (hw : w ∈ arrs n n) {sw : Bool} {c : Nat} (h : costA sw w = some c) (ho : o ∈ nextA sw w) : ∃ d, costA sw o = some d ∧ d ≤ c + 1 := by
  have q := chkB_of hn hw sw
  unfold chkB at q
  rw [h] at q
  have q : (Nat.ble c 8 && (nextA sw w).all fun o => leO (costA sw o) (c + 1)) = true := q
  rw [Bool.and_eq_true] at q
  exact leO_inv (List.all_eq_true.mp q.2 o ho)
theorem cost8 {n : Nat} (hn : n ∈ small) {w : List Nat} (hw : w ∈ arrs n n) {sw : Bool} {c : Nat} (h : costA sw w = some c) : c ≤ 8 := by
  have q := chkB_of hn hw sw
  unfold chkB at q
  rw [h] at q
  have q : (Nat.ble c 8 && (nextA sw w).all fun o => leO (costA sw o) (c + 1)) = true := q
  rw [Bool.and_eq_true] at q
  exact Nat.le_of_ble_eq_true q.1
theorem costC {n : Nat} (hn : n ∈ small) {w : List Nat} (hw : w ∈ arrs n n) {sw : Bool} {c : Nat} (h : costA sw w = some (c + 1)) : ∃ p ∈ arrs n n, costA sw p = some c ∧ w ∈ nextA sw p := by
  have q : chkC sw n w = true := by
    have z := List.all_eq_true.mp (List.all_eq_true.mp okC n hn) w hw
    rw [Bool.and_eq_true] at z
    cases sw
    · exact z.2
    · exact z.1
  unfold chkC at q
  rw [h] at q
  obtain ⟨p, hp, q⟩ := List.any_eq_true.mp q
  rw [Bool.and_eq_true, Bool.and_eq_true] at q
  obtain ⟨o, ho, e⟩ := List.any_eq_true.mp q.2.1
  rw [← eqA_eq e] at ho
  exact ⟨p, inA_mem q.2.2, isO_inv q.1, ho⟩
theorem cost0_id {n : Nat} (hn : n ∈ small) {w : List Nat} (hw : w ∈ arrs n n) {sw : Bool} (h : costA sw w = some 0) : w = List.range n := by
  have q : chkC sw n w = true := by
    have z := List.all_eq_true.mp (List.all_eq_true.mp okC n hn) w hw
    rw [Bool.and_eq_true] at z
    cases sw
    · exact z.2
    · exact z.1
  unfold chkC at q
  rw [h] at q
  exact eqA_eq q
theorem cost_id {n : Nat} (hn : n ∈ small) (sw : Bool) : costA sw (List.range n) = some 0 := by
  have h := List.all_eq_true.mp ok0 n hn
  unfold chk0 at h
  rw [Bool.and_eq_true, Bool.and_eq_true] at h
  cases sw
  · exact isO_inv h.1.2
  · exact isO_inv h.1.1
theorem sub_len {α : Type} [DecidableEq α] : ∀ {l m : List α}, l.Nodup → (∀ x ∈ l, x ∈ m) → l.length ≤ m.length
  | [], m, _, _ => Nat.zero_le _
  | x :: l, m, h, hs => by
    rw [List.nodup_cons] at h
    have hx := hs x List.mem_cons_self
    have := sub_len (m := m.erase x) h.2 fun y hy => (List.mem_erase_of_ne fun e => h.1 (by rw [← e]; exact hy)).mpr (hs y (List.mem_cons_of_mem _ hy))
    rw [List.length_erase_of_mem hx] at this
    have := List.length_pos_of_mem hx
    rw [List.length_cons]
    omega
theorem len256 {n : Nat} (hn : n ∈ small) {l : List (List Nat)} (h : l.Nodup) (hs : ∀ x ∈ l, x ∈ arrs n n) : l.length ≤ 256 := by
  have q := List.all_eq_true.mp ok0 n hn
  unfold chk0 at q
  rw [Bool.and_eq_true] at q
  exact Nat.le_trans (sub_len h hs) (Nat.le_of_ble_eq_true q.2)
theorem lev_down {n : Nat} (hn : n ∈ small) {sw : Bool} {d : Nat} (he : ∀ w ∈ arrs n n, costA sw w ≠ some d) : ∀ (k : Nat) (w : List Nat), w ∈ arrs n n → costA sw w ≠ some (d + k)
  | 0, w, hw => he w hw
  | k + 1, w, hw => fun e => by
    obtain ⟨p, hp, e2, _⟩ := costC hn hw (show costA sw w = some ((d + k) + 1) from e)
    exact lev_down hn he k p hp e2
theorem mem_next {sw : Bool} {w o : List Nat} : o ∈ nextA sw w ↔ ∃ i, i < w.length ∧ ∃ j, j < w.length ∧ ((i ≠ j ∧ o = w.set i (at0 w j)) ∨ ((sw && Nat.blt i j) = true ∧ o = (w.set i (at0 w j)).set j (at0 w i))) := by
  unfold nextA ixA
  rw [List.mem_flatMap]
  refine exists_congr fun i => ?_
  rw [List.mem_range, List.mem_flatMap]
  refine and_congr_right fun _ => exists_congr fun j => ?_
  rw [List.mem_range, List.mem_append]
  refine and_congr_right fun _ => or_congr ?_ ?_
  · by_cases c : i = j
    · subst c
      simp
    · have e : (i == j) = false := beq_eq_false_iff_ne.mpr c
      rw [e]
      simp [c]
  · split
    · rename_i h
      simp [h]
    · rename_i h
      simp [h]
theorem at0_lt {n : Nat} {w : List Nat} (hw : w ∈ arrs n n) {i : Nat} (hi : i < n) : at0 w i < n := by
  obtain ⟨h1, h2⟩ := mem_arrs.mp hw
  unfold at0
  rw [List.getD_eq_getElem?_getD, List.getElem?_eq_getElem (by omega)]
  exact h2 _ (List.getElem_mem _)
theorem set_arrs {n : Nat} {w : List Nat} (hw : w ∈ arrs n n) {v : Nat} (hv : v < n) (i : Nat) : w.set i v ∈ arrs n n := by
  obtain ⟨h1, h2⟩ := mem_arrs.mp hw
  refine mem_arrs.mpr ⟨by rw [List.length_set, h1], fun x hx => ?_⟩
  rcases List.mem_or_eq_of_mem_set hx with h | h
  · exact h2 x h
  · rw [h]; exact hv
theorem next_arrs {n : Nat} {w o : List Nat} (hw : w ∈ arrs n n) {sw : Bool} (ho : o ∈ nextA sw w) : o ∈ arrs n n := by
  have hl := (mem_arrs.mp hw).1
  obtain ⟨i, hi, j, hj, h⟩ := mem_next.mp ho
  rw [hl] at hi hj
  rcases h with ⟨_, rfl⟩ | ⟨_, rfl⟩
  · exact set_arrs hw (at0_lt hw hj) i
  · exact set_arrs (set_arrs hw (at0_lt hw hj) i) (at0_lt hw hi) j
/-! ### arrangements as the program has them -/
abbrev iw (w : List Nat) : List Int := w.map fun i : Nat => (i : Int)
abbrev natD (w : List Nat) : D := tupD (iw w)
theorem iw_inj {a b : List Nat} (h : iw a = iw b) : a = b := by
  have := congrArg (List.map Int.toNat) h
  rw [List.map_map, List.map_map] at this
  have e : (Int.toNat ∘ fun i : Nat => (i : Int)) = id := by
    funext i
    exact Int.toNat_natCast i
  rw [e, List.map_id, List.map_id] at this
  exact this
theorem iw_at {w : List Nat} {i : Nat} (h : i < w.length) : atI ((iw w).map D.int) (i : Int) = some (.int (at0 w i : Nat)) := by
  refine atI_nat ?_
  rw [List.getElem?_map, List.getElem?_map, List.getElem?_eq_getElem h]
  unfold at0
  rw [List.getD_eq_getElem?_getD, List.getElem?_eq_getElem h]
  rfl
theorem iw_mem {w : List Nat} {ms : List (List Nat)} : iw w ∈ ms.map iw ↔ w ∈ ms := by
  rw [List.mem_map]
  constructor
  · rintro ⟨u, h, e⟩
    rw [← iw_inj e]
    exact h
  · intro h
    exact ⟨w, h, rfl⟩
theorem rg_go {j : Int} {n : Nat} {Kl : List D → Prop} (h : (n : Int) = j) (hn : n ≤ 1000000) (k : Kl ((List.range n).map fun i : Nat => D.int (i : Nat))) : rgD [.int j] Kl := by
  subst h
  exact ⟨by omega, by omega, k⟩
theorem range_get {n i : Nat} {d : D} (h : ((List.range n).map fun i : Nat => D.int (i : Nat))[i]? = some d) : i < n ∧ d = .int (i : Nat) := by
  rw [List.getElem?_map] at h
  by_cases c : i < n
  · rw [List.getElem?_range c] at h
    cases h
    exact ⟨c, rfl⟩
  · rw [List.getElem?_eq_none (by rw [List.length_range]; omega)] at h
    cases h
/-! ### _law_next -/
def cellA (sw : Bool) (w : List Nat) (i j : Nat) : List (List Nat) := (if i == j then [] else [w.set i (at0 w j)]) ++ (if sw && Nat.blt i j then [(w.set i (at0 w j)).set j (at0 w i)] else [])
theorem cell_len (sw : Bool) (w : List Nat) (i j : Nat) : (cellA sw w i j).length ≤ 2 := by
  unfold cellA
  rw [List.length_append]
  split <;> split <;> simp
theorem flat_le {α : Type} (f : Nat → List α) (k : Nat) (h : ∀ i, (f i).length ≤ k) : ∀ n : Nat, ((List.range n).flatMap f).length ≤ k * n
  | 0 => Nat.zero_le _
  | n + 1 => by
    have := flat_le f k h n
    rw [List.range_succ, List.flatMap_append, List.length_append, List.flatMap_singleton]
    have := h n
    rw [Nat.mul_succ]
    omega
theorem flat_succ {α : Type} (f : Nat → List α) (n : Nat) : (List.range (n + 1)).flatMap f = (List.range n).flatMap f ++ f n := by
  rw [List.range_succ, List.flatMap_append, List.flatMap_singleton]
theorem set_cut {w : List Nat} {i : Nat} (hi : i < w.length) (v : Nat) : w.take i ++ [v] ++ w.drop (i + 1) = w.set i v := by
  rw [List.append_assoc]
  exact (List.set_eq_take_append_cons_drop ..).symm ▸ by simp [hi]
theorem ixN_nat {n i : Nat} (h : i < n) : ixN n (i : Int) = some i := by
  unfold ixN
  simp [h]
def sp__law_next : Spec := fun _ ds Kd _ => ∃ (w : List Nat) (sw : Bool), ds = [natD w, .bl sw] ∧ w.length ≤ 4 ∧ Kd (.lst ((nextA sw w).map natD))
abbrev N__law_next : List Str := ["_law_worths_here", "_law_swaps", "_law_found", "_law_one", "_law_other", "_law_left"]
abbrev ps__law_next : List Str := ["_law_worths_here", "_law_swaps"]
def m__law_next (sa : Option Addr) : MSt :=
  (mSeq (mSetF 2 (mLst aNil))
  (mSeq (mFor (.nm 3) (mRange (aCons (mCall lenD (aCons (mVar 0) aNil)) aNil)) (mFor (.nm 4) (mRange (aCons (mCall lenD (aCons (mVar 0) aNil)) aNil)) (mSeq (mIfS (mB (m2 (eqE true) (mVar 3) (mVar 4))) (mAppend 2 (m2 addD (m2 addD (mSl slD (mVar 0) oNone (oSome (mVar 3))) (mTup (aCons (m2 ixD (mVar 0) (mVar 4)) aNil))) (mSl slD (mVar 0) (oSome (m2 addD (mVar 3) (mC (.int 1)))) oNone))) mNext)
      (mIfS (mAnd (mB (mVar 1)) (mB (m2 (ordD pLt) (mVar 3) (mVar 4)))) (mSeq (mSetF 5 (mCall listD (aCons (mVar 0) aNil)))
        (mSeq (mSetIx 5 (mVar 3) (m2 ixD (mVar 0) (mVar 4)))
        (mSeq (mSetIx 5 (mVar 4) (m2 ixD (mVar 0) (mVar 3)))
        (mFrzL 5 (mAppend 2 (mCall tupleD (aCons (mVar 5) aNil))))))) mNext))))
  (mRet (mVar 2))))
theorem next_swap {w : List Nat} {sw : Bool} {i j : Nat} (hi : i < w.length) (hj : j < w.length) (hw : w.length ≤ 4) {q : Addr} {l : List (List Nat)} {e5 : Option Slot} {Ks : KS} {ls : List D} (hls : ls = l.map natD) (hl : l.length ≤ 100)
    (k : ∀ e5', Ks.nx [some (.sh (natD w)), some (.sh (.bl sw)), some (.own q (.lst ((l ++ (if sw && Nat.blt i j then [(w.set i (at0 w j)).set j (at0 w i)] else [])).map natD))), some (.sh (.int (i : Nat))), some (.sh (.int (j : Nat))), e5']) :
    mIfS (mAnd (mB (mVar 1)) (mB (m2 (ordD pLt) (mVar 3) (mVar 4)))) (mSeq (mSetF 5 (mCall listD (aCons (mVar 0) aNil)))
        (mSeq (mSetIx 5 (mVar 3) (m2 ixD (mVar 0) (mVar 4)))
        (mSeq (mSetIx 5 (mVar 4) (m2 ixD (mVar 0) (mVar 3)))
        (mFrzL 5 (mAppend 2 (mCall tupleD (aCons (mVar 5) aNil))))))) mNext [some (.sh (natD w)), some (.sh (.bl sw)), some (.own q (.lst ls)), some (.sh (.int (i : Nat))), some (.sh (.int (j : Nat))), e5] Ks := by
  subst hls
  have no : (sw && Nat.blt i j) = false → Ks.nx [some (.sh (natD w)), some (.sh (.bl sw)), some (.own q (.lst (l.map natD))), some (.sh (.int (i : Nat))), some (.sh (.int (j : Nat))), e5] := fun h => by
    have := k e5
    rw [h, if_neg Bool.false_ne_true, List.append_nil] at this
    exact this
  refine ite2 (fun c => ite2 (fun c2 => ?_) (fun c2 => ?_)) (fun c => ?_)
  · have c : sw = true := c
    have c2 : ((i : Nat) : Int) < ((j : Nat) : Int) := of_decide_eq_true c2
    have hb : (sw && Nat.blt i j) = true := by
      rw [c, Bool.true_and]
      exact Nat.ble_eq_true_of_le (by omega)
    rw [hb, if_pos rfl] at k
    refine fun q5 => ixD_tup (iw_at hj) ⟨rfl, ?_⟩
    show match ixN ((iw w).map D.int).length ((i : Nat) : Int) with | some j => _ | none => False
    rw [ixN_nat (by rw [List.length_map, List.length_map]; exact hi)]
    refine ixD_tup (iw_at hi) ⟨rfl, ?_⟩
    show match ixN (((iw w).map D.int).set i (.int ((at0 w j : Nat) : Int))).length ((j : Nat) : Int) with | some j => _ | none => False
    rw [ixN_nat (by rw [List.length_set, List.length_map, List.length_map]; exact hj)]
    refine ⟨sz_lt (by rw [List.length_map]; omega), ?_⟩
    have e : (l.map natD ++ [D.tup ((((iw w).map D.int).set i (.int ((at0 w j : Nat) : Int))).set j (.int ((at0 w i : Nat) : Int)))]) = (l ++ [(w.set i (at0 w j)).set j (at0 w i)]).map natD := by
      rw [List.map_append, List.map_singleton]
      unfold natD tupD iw
      rw [List.map_set, List.map_set, List.map_set, List.map_set]
    rw [← e] at k
    exact k _
  · refine no ?_
    have c2 : ¬ (((i : Nat) : Int) < ((j : Nat) : Int)) := fun h => c2 (decide_eq_true h)
    cases sw
    · rfl
    · rw [Bool.true_and]
      cases z : Nat.blt i j with
      | false => rfl
      | true => exact absurd (Nat.le_of_ble_eq_true z) (by omega)
  · refine no ?_
    have c : ¬ sw = true := c
    rw [Bool.eq_false_iff.mpr c]
    rfl
theorem pu__law_next (sa : Option Addr) (ds : List D) (Kd : D → Prop) (KX : Exn → Prop) (hl : ds.length = 2) (h : sp__law_next sa ds Kd KX) : m__law_next sa (startS N__law_next.length ds) { nx := fun _ => false = false ∧ Kd .non, rt := Kd, ex := KX } := by
  obtain ⟨w, sw, rfl, hw, k⟩ := h
  have hwl : ((w.length : Nat) : Int) = (((iw w).map D.int).length : Nat) := by rw [List.length_map, List.length_map]
  have htn : ((((iw w).map D.int).length : Nat) : Int).toNat = w.length := by omega
  refine ⟨z0, fun q => ⟨by omega, by omega, forD_at (fun i env => ∃ e3 e4 e5, env = [some (.sh (natD w)), some (.sh (.bl sw)), some (.own q (.lst (((List.range i).flatMap fun i => (ixA w).flatMap (cellA sw w i)).map natD))), e3, e4, e5]) ⟨_, _, _, rfl⟩ ?_ ?_⟩⟩
  · rintro i d env nx hi ⟨e3, e4, e5, rfl⟩ hn
    obtain ⟨hi, rfl⟩ := range_get hi
    have hi : i < w.length := by omega
    refine ⟨_, rfl, by omega, by omega, ?_⟩
    generalize hp : ((List.range i).flatMap fun i => (ixA w).flatMap (cellA sw w i)) = pre
    have hpl : pre.length ≤ 64 := by
      rw [← hp]
      have := flat_le (fun i => (ixA w).flatMap (cellA sw w i)) (2 * w.length) (fun i => flat_le (cellA sw w i) 2 (cell_len sw w i) w.length) i
      have : 2 * w.length * i ≤ 8 * 4 := Nat.mul_le_mul (by omega) (by omega)
      omega
    refine forD_at (fun j env => ∃ e4 e5, env = [some (.sh (natD w)), some (.sh (.bl sw)), some (.own q (.lst ((pre ++ (List.range j).flatMap (cellA sw w i)).map natD))), some (.sh (.int (i : Nat))), e4, e5]) ⟨e4, e5, by rw [List.range_zero, List.flatMap_nil, List.append_nil]; rfl⟩ ?_ ?_
    · rintro j d env nx2 hj ⟨e4, e5, rfl⟩ hn2
      obtain ⟨hj, rfl⟩ := range_get hj
      have hj : j < w.length := by omega
      refine ⟨_, rfl, ?_⟩
      generalize hp2 : pre ++ (List.range j).flatMap (cellA sw w i) = pre2
      have hpl2 : pre2.length ≤ 80 := by
        rw [← hp2, List.length_append]
        have := flat_le (cellA sw w i) 2 (cell_len sw w i) j
        omega
      have e2 : pre ++ (List.range (j + 1)).flatMap (cellA sw w i) = (pre2 ++ (if i == j then [] else [w.set i (at0 w j)])) ++ (if sw && Nat.blt i j then [(w.set i (at0 w j)).set j (at0 w i)] else []) := by
        rw [flat_succ, ← List.append_assoc, hp2]
        unfold cellA
        rw [List.append_assoc]
      refine eqE_int (ite2 (fun c => ?_) (fun c => ?_))
      · have c : i ≠ j := fun e => neT c (by rw [e])
        have hb : (i == j) = false := beq_eq_false_iff_ne.mpr c
        rw [hb, if_neg Bool.false_ne_true] at e2
        refine ixD_tup (iw_at hj) ⟨z1, sz_ok ?_, sz_ok ?_, sz_lt ?_, ?_⟩
        · have := cutD_len (xs := (iw w).map D.int) (lo := none) (hi := some ((i : Nat) : Int))
          rw [List.length_singleton]
          omega
        · have h1 := cutD_len (xs := (iw w).map D.int) (lo := none) (hi := some ((i : Nat) : Int))
          have h2 := cutD_len (xs := (iw w).map D.int) (lo := some (((i : Nat) : Int) + 1)) (hi := none)
          rw [List.length_append, List.length_singleton]
          omega
        · rw [List.length_map]
          omega
        have e3 : pre2.map natD ++ [D.tup (cutD ((iw w).map D.int) none (some ((i : Nat) : Int)) ++ [.int ((at0 w j : Nat) : Int)] ++ cutD ((iw w).map D.int) (some (((i : Nat) : Int) + 1)) none)] = (pre2 ++ [w.set i (at0 w j)]).map natD := by
          rw [List.map_append, List.map_singleton]
          refine congrArg (fun z => pre2.map natD ++ [D.tup z]) ?_
          have e4 : (((i : Nat) : Int) + 1) = ((i + 1 : Nat) : Int) := by omega
          rw [e4, cutD_to, cutD_from, ← set_cut hi]
          unfold iw
          simp only [List.map_append, List.map_take, List.map_drop]
          rfl
        exact next_swap hi hj hw (l := pre2 ++ [w.set i (at0 w j)]) e3 (by rw [List.length_append, List.length_singleton]; omega) fun e5' => hn2 _ ⟨_, _, by rw [e2]⟩
      · have c : i = j := by
          have c : ¬ ((if true = true then !decide (((i : Nat) : Int) = ((j : Nat) : Int)) else decide (((i : Nat) : Int) = ((j : Nat) : Int))) = true) := c
          by_cases z : i = j
          · exact z
          · exact absurd (by rw [decide_eq_false (by omega)]; rfl) c
        have hb : (i == j) = true := beq_iff_eq.mpr c
        rw [hb, if_pos rfl, List.append_nil] at e2
        exact next_swap hi hj hw (l := pre2) rfl (by omega) fun e5' => hn2 _ ⟨_, _, by rw [e2]⟩
    · rintro env ⟨e4, e5, rfl⟩
      refine hn _ ⟨some (.sh (.int (i : Nat))), e4, e5, ?_⟩
      rw [List.length_map, List.length_range, htn, flat_succ, hp]
      rfl
  · rintro env ⟨e3, e4, e5, rfl⟩
    rw [List.length_map, List.length_range, htn]
    exact k
end L3
set_option pp.maxSteps 400
/-! P7b: the fewest moves, by going on level by level -/
namespace L3
open PySem PySem.Spec PyProof.Rows L2
/-- boxes of sp aside, w holds what the lead wants -/
def matB (l : List (Int × Int)) (sp : List Int) (n : Nat) (w : List Nat) : Bool := ((rgI n).filter fun x => !decide (x ∈ sp) && !decide (((at0 w x.toNat : Nat) : Int) = src (kn l) x)).isEmpty
abbrev fwT : MTt := mB (m2 (eqE true) (mVar 7) (mLst aNil))
abbrev fwF : MSt := mFor (.nm 9) (mIter (mVar 7)) (mIfS (mB (m2 (eqE false) (mLc (.nm 6) [6] (mRange (aCons (mVar 0) aNil)) (mAnd (mB (m2 (inS true) (mVar 6) (mVar 2))) (mB (m2 (eqE true) (m2 ixD (mVar 9) (mVar 6)) (m2 ixD (mVar 5) (mVar 6))))) (mVar 6)) (mLst aNil))) (mRet (mVar 10)) mNext)
abbrev fwG (sa : Option Addr) : MSt := mFor (.nm 9) (mIter (mVar 7)) (mFor (.nm 12) (mIter (mCallU sa sp__law_next (aCons (mVar 9) (aCons (mVar 3) aNil)))) (mIfNT 12 8 (mSeq (mSetKT 12 8)
          (mAppend 11 (mVar 12))) mNext))
abbrev fwB (sa : Option Addr) : MSt := mSeq fwF
    (mSeq (mSetF 11 (mLst aNil))
    (mSeq (fwG sa)
    (mSeq (mFrzL 11 (mSet 7 (mVar 11)))
    (mSet 10 (m2 addD (mVar 10) (mC (.int 1)))))))
theorem Dk_natL (hs : List (List Nat)) : Dk 6 (.lst (hs.map natD)) := .lst _ _ fun d hd => by
  obtain ⟨a, _, rfl⟩ := List.mem_map.mp hd
  exact Dk_tup _ 4
theorem eqE_nat {neg : Bool} {hs : List (List Nat)} {K : D → Prop} (k : K (.bl (if neg then !hs.isEmpty else hs.isEmpty))) : eqE neg (.lst (hs.map natD)) (.lst []) K :=
  eqE_nilV (v := hs.isEmpty) (Dk_natL hs) (by cases hs <;> rfl) k
abbrev dueD (l : List (Int × Int)) (n : Nat) : D := .lst ((rgI n).map fun x => D.int (src (kn l) x))
theorem due_at {l : List (Int × Int)} {n : Nat} {x : Int} (h0 : 0 ≤ x) (h1 : x < n) : atI ((rgI n).map fun x => D.int (src (kn l) x)) x = some (.int (src (kn l) x)) := by
  obtain ⟨i, rfl⟩ : ∃ i : Nat, x = (i : Int) := ⟨x.toNat, by omega⟩
  refine atI_nat ?_
  unfold rgI
  rw [List.map_map, List.getElem?_map, List.getElem?_range (by omega)]
  rfl
theorem small_le {n : Nat} (h : n ∈ small) : 1 ≤ n ∧ n ≤ 4 := by
  unfold small at h
  simp only [List.mem_cons, List.mem_nil_iff, or_false] at h
  omega
theorem take_snoc {α : Type} {l : List α} {i : Nat} {x : α} (h : l[i]? = some x) : l.take (i + 1) = l.take i ++ [x] := by
  rw [List.take_add_one, h]
  rfl
/-- one level is asked -/
theorem fw_ask {n : Nat} {l : List (Int × Int)} {sp : List Int} {d : Nat} {hs : List (List Nat)} {Ks : KS} {e1 e3 e4 e8 e11 e12 : Option Slot} (hn : n ∈ small) (hh : ∀ w ∈ hs, w ∈ arrs n n)
    (k1 : ∀ w ∈ hs, matB l sp n w = true → Ks.rt (.int (d : Nat)))
    (k2 : (∀ w ∈ hs, matB l sp n w = false) → ∀ e6 e9, Ks.nx [some (.sh (.int (n : Nat))), e1, some (.sh (.lst (sp.map D.int))), e3, e4, some (.sh (dueD l n)), e6, some (.sh (.lst (hs.map natD))), e8, e9, some (.sh (.int (d : Nat))), e11, e12])
    {e6 e9 : Option Slot} : fwF [some (.sh (.int (n : Nat))), e1, some (.sh (.lst (sp.map D.int))), e3, e4, some (.sh (dueD l n)), e6, some (.sh (.lst (hs.map natD))), e8, e9, some (.sh (.int (d : Nat))), e11, e12] Ks := by
  have n4 := small_le hn
  refine forD_at (fun i env => (∀ w ∈ hs.take i, matB l sp n w = false) ∧ ∃ e6 e9, env = [some (.sh (.int (n : Nat))), e1, some (.sh (.lst (sp.map D.int))), e3, e4, some (.sh (dueD l n)), e6, some (.sh (.lst (hs.map natD))), e8, e9, some (.sh (.int (d : Nat))), e11, e12]) ⟨(fun w h => by simp at h), _, _, rfl⟩ ?_ ?_
  · rintro i x env nx hi ⟨hb, e6, e9, rfl⟩ hnx
    rw [List.getElem?_map] at hi
    cases hw : hs[i]? with
    | none => rw [hw] at hi; cases hi
    | some w =>
      rw [hw] at hi
      cases hi
      have hm : w ∈ hs := List.mem_of_getElem? hw
      have hl := (mem_arrs.mp (hh w hm)).1
      refine ⟨_, rfl, ?_⟩
      refine ⟨by omega, by omega, by rw [List.length_map, List.length_range]; show n ≤ 100000; omega, lcD_filter (ns := rgI n) (fun x => !decide (x ∈ sp) && !decide (((at0 w x.toNat : Nat) : Int) = src (kn l) x)) rfl (rg_eq n) (fun x hx Kb hk => ?_) ?_⟩
      · have hx := rgI_mem.mp hx
        refine inS_lst (ite2 (fun c => ?_) (fun c => ?_))
        · have c : (!decide (x ∈ sp)) = true := c
          rw [c, Bool.true_and] at hk
          refine ixD_tup (d := .int ((at0 w x.toNat : Nat) : Int)) ?_ (ixD_lst (due_at hx.1 hx.2) (eqE_int hk))
          have := iw_at (w := w) (i := x.toNat) (by omega)
          rw [show ((x.toNat : Nat) : Int) = x by omega] at this
          exact this
        · have c : (!decide (x ∈ sp)) = false := by
            have c : ¬ (!decide (x ∈ sp)) = true := c
            simpa using c
          rw [c] at hk
          exact hk
      · refine ⟨z0, eqE_nilV (v := matB l sp n w) (Dk_intsL _ 5) (by unfold matB; cases (rgI n).filter fun x => !decide (x ∈ sp) && !decide (((at0 w x.toNat : Nat) : Int) = src (kn l) x) <;> rfl) (ite2 (fun c => ?_) (fun c => ?_))⟩
        · exact k1 w hm c
        · refine hnx _ ⟨fun u hu => ?_, _, _, rfl⟩
          rw [take_snoc hw] at hu
          rcases List.mem_append.mp hu with hu | hu
          · exact hb u hu
          · rw [List.mem_singleton.mp hu]
            have c : ¬ matB l sp n w = true := c
            simpa using c
  · rintro env ⟨hb, e6, e9, rfl⟩
    rw [List.length_map, List.take_length] at hb
    exact k2 hb _ _
/-- the next level -/
theorem fw_next {sa : Option Addr} {n : Nat} {sw : Bool} {hs ms : List (List Nat)} {p q : Addr} {Ks : KS} {e0 e1 e2 e4 e5 e6 e10 : Option Slot} (hn : n ∈ small) (hh : ∀ w ∈ hs, w ∈ arrs n n) (hm : ∀ w ∈ ms, w ∈ arrs n n) (nd : ms.Nodup)
    (k : ∀ new : List (List Nat), (ms ++ new).Nodup → (∀ o ∈ new, o ∈ arrs n n ∧ ∃ w ∈ hs, o ∈ nextA sw w) → (∀ w ∈ hs, ∀ o ∈ nextA sw w, o ∈ ms ++ new) → ∀ e9 e12, Ks.nx [e0, e1, e2, some (.sh (.bl sw)), e4, e5, e6, some (.sh (.lst (hs.map natD))), some (.own p (metD p ((ms ++ new).map iw))), e9, e10, some (.own q (.lst (new.map natD))), e12])
    {e9 e12 : Option Slot} : fwG sa [e0, e1, e2, some (.sh (.bl sw)), e4, e5, e6, some (.sh (.lst (hs.map natD))), some (.own p (metD p (ms.map iw))), e9, e10, some (.own q (.lst [])), e12] Ks := by
  have n4 := small_le hn
  refine forD_at (fun i env => ∃ (new : List (List Nat)) (e9 e12 : Option Slot), env = [e0, e1, e2, some (.sh (.bl sw)), e4, e5, e6, some (.sh (.lst (hs.map natD))), some (.own p (metD p ((ms ++ new).map iw))), e9, e10, some (.own q (.lst (new.map natD))), e12] ∧ (ms ++ new).Nodup ∧ (∀ o ∈ new, o ∈ arrs n n ∧ ∃ w ∈ hs, o ∈ nextA sw w) ∧ ∀ w ∈ hs.take i, ∀ o ∈ nextA sw w, o ∈ ms ++ new)
    ⟨[], e9, e12, by rw [List.append_nil]; rfl, by rw [List.append_nil]; exact nd, (fun o h => by simp at h), (fun w h => by simp at h)⟩ ?_ ?_
  · rintro i x env nx hi ⟨new, e9, e12, rfl, h1, h2, h3⟩ hnx
    rw [List.getElem?_map] at hi
    cases hw : hs[i]? with
    | none => rw [hw] at hi; cases hi
    | some w =>
      rw [hw] at hi
      cases hi
      have hwm : w ∈ hs := List.mem_of_getElem? hw
      have hl := (mem_arrs.mp (hh w hwm)).1
      refine ⟨_, rfl, w, sw, rfl, by omega, ?_⟩
      refine forD_at (fun j env => ∃ (new : List (List Nat)) (e12 : Option Slot), env = [e0, e1, e2, some (.sh (.bl sw)), e4, e5, e6, some (.sh (.lst (hs.map natD))), some (.own p (metD p ((ms ++ new).map iw))), some (.sh (natD w)), e10, some (.own q (.lst (new.map natD))), e12] ∧ (ms ++ new).Nodup ∧ (∀ o ∈ new, o ∈ arrs n n ∧ ∃ w ∈ hs, o ∈ nextA sw w) ∧ (∀ w ∈ hs.take i, ∀ o ∈ nextA sw w, o ∈ ms ++ new) ∧ ∀ o ∈ (nextA sw w).take j, o ∈ ms ++ new)
        ⟨new, e12, rfl, h1, h2, h3, (fun o h => by simp at h)⟩ ?_ ?_
      · rintro j x env nx2 hj ⟨new, e12, rfl, h1, h2, h3, h4⟩ hn2
        rw [List.getElem?_map] at hj
        cases ho : (nextA sw w)[j]? with
        | none => rw [ho] at hj; cases hj
        | some o =>
          rw [ho] at hj
          cases hj
          have hom : o ∈ nextA sw w := List.mem_of_getElem? ho
          have hoa := next_arrs (hh w hwm) hom
          have hl2 : (ms ++ new).length ≤ 256 := len256 hn h1 fun x hx => by
            rcases List.mem_append.mp hx with hx | hx
            · exact hm x hx
            · exact (h2 x hx).1
          refine ⟨_, rfl, p, (ms ++ new).map iw, iw o, rfl, rfl, fun hno => ?_, fun hyes => ?_⟩
          · have hno : o ∉ ms ++ new := fun h => hno (iw_mem.mpr h)
            refine ⟨p, (ms ++ new).map iw, iw o, rfl, rfl, fun h => hno (iw_mem.mp h), sz_lt (by rw [List.length_map]; omega), ?_⟩
            have hl3 : new.length ≤ 256 := by rw [List.length_append] at hl2; omega
            refine ⟨sz_lt (by rw [List.length_map]; omega), ?_⟩
            have ea : (ms ++ new) ++ [o] = ms ++ (new ++ [o]) := List.append_assoc _ _ _
            refine hn2 _ ⟨new ++ [o], some (.sh (natD o)), ?_, ?_, ?_, ?_, ?_⟩
            · rw [← ea, List.map_append (l₁ := ms ++ new), List.map_append (l₁ := new)]
              rfl
            · rw [← ea, List.nodup_append]
              refine ⟨h1, by simp, fun x hx y hy e => ?_⟩
              rw [List.mem_singleton.mp hy] at e
              rw [e] at hx
              exact hno hx
            · intro x hx
              rcases List.mem_append.mp hx with hx | hx
              · exact h2 x hx
              · rw [List.mem_singleton.mp hx]
                exact ⟨hoa, w, hwm, hom⟩
            · intro u hu x hx
              rw [← ea]
              exact List.mem_append_left _ (h3 u hu x hx)
            · intro x hx
              rw [← ea]
              rw [take_snoc ho] at hx
              rcases List.mem_append.mp hx with hx | hx
              · exact List.mem_append_left _ (h4 x hx)
              · exact List.mem_append_right _ hx
          · have hyes := iw_mem.mp hyes
            refine hn2 _ ⟨new, some (.sh (natD o)), rfl, h1, h2, h3, fun x hx => ?_⟩
            rw [take_snoc ho] at hx
            rcases List.mem_append.mp hx with hx | hx
            · exact h4 x hx
            · rw [List.mem_singleton.mp hx]
              exact hyes
      · rintro env ⟨new, e12, rfl, h1, h2, h3, h4⟩
        rw [List.length_map, List.take_length] at h4
        refine hnx _ ⟨new, _, _, rfl, h1, h2, fun u hu => ?_⟩
        rw [take_snoc hw] at hu
        rcases List.mem_append.mp hu with hu | hu
        · exact h3 u hu
        · rw [List.mem_singleton.mp hu]
          exact h4
  · rintro env ⟨new, e9, e12, rfl, h1, h2, h3⟩
    rw [List.length_map, List.take_length] at h3
    exact k new h1 h2 h3 _ _
end L3
set_option pp.maxSteps 400
/-! P7c: the fewest moves -/
namespace L3
open PySem PySem.Spec PyProof.Rows L2
structure Lev (n : Nat) (sw : Bool) (d : Nat) (hs ms : List (List Nat)) : Prop where
  nd : hs.Nodup
  hm : ∀ w, w ∈ hs ↔ w ∈ arrs n n ∧ costA sw w = some d
  nd2 : ms.Nodup
  mm : ∀ w, w ∈ ms ↔ w ∈ arrs n n ∧ ∃ c, c ≤ d ∧ costA sw w = some c
theorem Lev.next {n : Nat} {sw : Bool} {d : Nat} {hs ms new : List (List Nat)} (hn : n ∈ small) (L : Lev n sw d hs ms) (h1 : (ms ++ new).Nodup) (h2 : ∀ o ∈ new, o ∈ arrs n n ∧ ∃ w ∈ hs, o ∈ nextA sw w) (h3 : ∀ w ∈ hs, ∀ o ∈ nextA sw w, o ∈ ms ++ new) : Lev n sw (d + 1) new (ms ++ new) := by
  rw [List.nodup_append] at h1
  have a : ∀ w, w ∈ new → w ∈ arrs n n ∧ costA sw w = some (d + 1) := fun o ho => by
    obtain ⟨ha, w, hw, ho2⟩ := h2 o ho
    obtain ⟨hwa, hc⟩ := (L.hm w).mp hw
    obtain ⟨e, he, hle⟩ := costB hn hwa hc ho2
    refine ⟨ha, ?_⟩
    by_cases c : e ≤ d
    · exact absurd rfl (h1.2.2 o ((L.mm o).mpr ⟨ha, e, c, he⟩) o ho)
    · rw [he, show e = d + 1 by omega]
  have b : ∀ w, w ∈ arrs n n → costA sw w = some (d + 1) → w ∈ new := fun o ha hc => by
    obtain ⟨p, hp, hpc, hpo⟩ := costC hn ha hc
    rcases List.mem_append.mp (h3 p ((L.hm p).mpr ⟨hp, hpc⟩) o hpo) with h | h
    · obtain ⟨_, e, he, hc2⟩ := (L.mm o).mp h
      rw [hc] at hc2
      cases hc2
      omega
    · exact h
  refine ⟨h1.2.1, fun w => ⟨a w, fun h => b w h.1 h.2⟩, List.nodup_append.mpr h1, fun w => ⟨fun h => ?_, fun h => ?_⟩⟩
  · rcases List.mem_append.mp h with h | h
    · obtain ⟨h1, e, he, h2⟩ := (L.mm w).mp h
      exact ⟨h1, e, by omega, h2⟩
    · obtain ⟨h1, h2⟩ := a w h
      exact ⟨h1, d + 1, Nat.le_refl _, h2⟩
  · obtain ⟨ha, e, he, hc⟩ := h
    by_cases c : e = d + 1
    · rw [c] at hc
      exact List.mem_append_right _ (b w ha hc)
    · exact List.mem_append_left _ ((L.mm w).mpr ⟨ha, e, by omega, hc⟩)
theorem mSeq_go {a b : MSt} {env : EnvS} {Ks : KS} (h : a env { Ks with nx := fun e => b e Ks }) : mSeq a b env Ks := h
theorem fw_loop {sa : Option Addr} {n : Nat} {l : List (Int × Int)} {sp : List Int} {sw : Bool} {Ks : KS} {e1 e4 : Option Slot} (hn : n ∈ small)
    (k1 : ∀ d w, w ∈ arrs n n → costA sw w = some d → matB l sp n w = true → (∀ u c, u ∈ arrs n n → costA sw u = some c → c < d → matB l sp n u = false) → Ks.rt (.int (d : Nat)))
    (k2 : (∀ u c, u ∈ arrs n n → costA sw u = some c → matB l sp n u = false) → ∀ env, Ks.nx env) :
    ∀ (m d : Nat) (hs ms : List (List Nat)) (p : Addr) (e6 e9 e11 e12 : Option Slot), d + m = 9 → Lev n sw d hs ms → (∀ u c, u ∈ arrs n n → costA sw u = some c → c < d → matB l sp n u = false) →
      whileD fwT (fwB sa) Ks (m + 1) [some (.sh (.int (n : Nat))), e1, some (.sh (.lst (sp.map D.int))), some (.sh (.bl sw)), e4, some (.sh (dueD l n)), e6, some (.sh (.lst (hs.map natD))), some (.own p (metD p (ms.map iw))), e9, some (.sh (.int (d : Nat))), e11, e12] := by
  intro m
  induction m with
  | zero =>
    intro d hs ms p e6 e9 e11 e12 hd L hb
    have he : hs = [] := by
      cases hs with
      | nil => rfl
      | cons w r =>
        obtain ⟨h1, h2⟩ := (L.hm w).mp List.mem_cons_self
        have := cost8 hn h1 h2
        omega
    subst he
    refine ⟨z0, eqE_nat (hs := []) ?_⟩
    exact k2 (fun u c hu hc => hb u c hu hc (by have := cost8 hn hu hc; omega)) _
  | succ m ih =>
    intro d hs ms p e6 e9 e11 e12 hd L hb
    refine ⟨z0, eqE_nat (ite2 (fun c => ?_) (fun c => ?_))⟩
    · refine mSeq_go (fw_ask hn ?_ ?_ ?_)
      · exact fun w hw => ((L.hm w).mp hw).1
      · exact fun w hw hmat => k1 d w ((L.hm w).mp hw).1 ((L.hm w).mp hw).2 hmat hb
      intro hno e6 e9
      refine ⟨z0, fun q => ?_⟩
      refine mSeq_go (fw_next hn ?_ ?_ ?_ ?_)
      · exact fun w hw => ((L.hm w).mp hw).1
      · exact fun w hw => ((L.mm w).mp hw).1
      · exact L.nd2
      intro new h1 h2 h3 e9 e12
      refine ih (d + 1) new (ms ++ new) p _ _ _ _ (by omega) (L.next hn h1 h2 h3) fun u c hu hc hlt => ?_
      by_cases z : c = d
      · rw [z] at hc
        exact hno u ((L.hm u).mpr ⟨hu, hc⟩)
      · exact hb u c hu hc (by omega)
    · have c : ¬ (!hs.isEmpty) = true := c
      have he : hs = [] := by
        cases hs with
        | nil => rfl
        | cons w r => exact absurd rfl c
      subst he
      refine k2 (fun u c hu hc => ?_) _
      by_cases z : c < d
      · exact hb u c hu hc z
      · refine absurd ?_ (lev_down hn (d := d) (fun w hw e => nomatch (L.hm w).mpr ⟨hw, e⟩) (c - d) u hu)
        rw [hc, show d + (c - d) = c by omega]
def sp__law_fewest : Spec := fun _ ds Kd _ => ∃ (n : Nat) (l : List (Int × Int)) (sp : List Int) (sw : Bool), ds = [.int (n : Nat), leadD l, .lst (sp.map D.int), .bl sw] ∧ Lead (n : Nat) l ∧ n ∈ small ∧
  (∀ d w, w ∈ arrs n n → costA sw w = some d → matB l sp n w = true → (∀ u c, u ∈ arrs n n → costA sw u = some c → c < d → matB l sp n u = false) → Kd (.int (d : Nat))) ∧
  ((∀ u c, u ∈ arrs n n → costA sw u = some c → matB l sp n u = false) → Kd .non)
abbrev N__law_fewest : List Str := ["_law_boxes_here", "_law_lead_here", "_law_spares_here", "_law_swaps", "_law_known_here", "_law_due", "_law_box", "_law_here", "_law_met", "_law_worths_here", "_law_many", "_law_later", "_law_other"]
abbrev ps__law_fewest : List Str := ["_law_boxes_here", "_law_lead_here", "_law_spares_here", "_law_swaps"]
def m__law_fewest (sa : Option Addr) : MSt :=
  (mSeq (mSet 4 (mCallU sa sp__law_known (aCons (mVar 1) aNil)))
  (mSeq (mSet 5 (mLc (.nm 6) [6] (mRange (aCons (mVar 0) aNil)) tYesM (mGetD (mVar 4) (mVar 6) (mVar 6))))
  (mSeq (mSet 7 (mLst (aCons (mCall tupleD (aCons (mListRange (mVar 0)) aNil)) aNil)))
  (mSeq (mSetDT 8 (aCons (mLc (.nm 9) [9] (mIter (mVar 7)) tYesM (mTup (aCons (mVar 9) (aCons (mC (.bl true)) aNil)))) aNil))
  (mSeq (mSet 10 (mC (.int 0)))
  (mSeq (mWhile (mB (m2 (eqE true) (mVar 7) (mLst aNil))) (mSeq (mFor (.nm 9) (mIter (mVar 7)) (mIfS (mB (m2 (eqE false) (mLc (.nm 6) [6] (mRange (aCons (mVar 0) aNil)) (mAnd (mB (m2 (inS true) (mVar 6) (mVar 2))) (mB (m2 (eqE true) (m2 ixD (mVar 9) (mVar 6)) (m2 ixD (mVar 5) (mVar 6))))) (mVar 6)) (mLst aNil))) (mRet (mVar 10)) mNext))
    (mSeq (mSetF 11 (mLst aNil))
    (mSeq (mFor (.nm 9) (mIter (mVar 7)) (mFor (.nm 12) (mIter (mCallU sa sp__law_next (aCons (mVar 9) (aCons (mVar 3) aNil)))) (mIfNT 12 8 (mSeq (mSetKT 12 8)
          (mAppend 11 (mVar 12))) mNext)))
    (mSeq (mFrzL 11 (mSet 7 (mVar 11)))
    (mSet 10 (m2 addD (mVar 10) (mC (.int 1)))))))))
  (mRet (mC .non))))))))
theorem range_arrs (n : Nat) : List.range n ∈ arrs n n := mem_arrs.mpr ⟨List.length_range, fun x hx => List.mem_range.mp hx⟩
theorem Lev.start {n : Nat} (hn : n ∈ small) (sw : Bool) : Lev n sw 0 [List.range n] [List.range n] := by
  have z : ∀ w, w ∈ [List.range n] ↔ w ∈ arrs n n ∧ costA sw w = some 0 := fun w => by
    rw [List.mem_singleton]
    constructor
    · rintro rfl
      exact ⟨range_arrs n, cost_id hn sw⟩
    · rintro ⟨h1, h2⟩
      exact cost0_id hn h1 h2
  refine ⟨by simp, z, by simp, fun w => (z w).trans ⟨fun h => ⟨h.1, 0, Nat.le_refl _, h.2⟩, ?_⟩⟩
  rintro ⟨h, c, hc, h2⟩
  rw [show c = 0 by omega] at h2
  exact ⟨h, h2⟩
theorem range_nat (n : Nat) : D.tup ((List.range n).map fun i : Nat => D.int (i : Nat)) = natD (List.range n) := by
  unfold natD tupD iw
  rw [List.map_map]
  rfl
theorem st_fw {n : Nat} {rest : MSt} {e0 e1 e2 e3 e4 e5 e6 e10 e11 e12 : Option Slot} {Ks : KS} (h : ∀ p, rest [e0, e1, e2, e3, e4, e5, e6, some (.sh (.lst ([List.range n].map natD))), some (.own p (metD p ([List.range n].map iw))), none, e10, e11, e12] Ks) :
    mSeq (mSetDT 8 (aCons (mLc (.nm 9) [9] (mIter (mVar 7)) tYesM (mTup (aCons (mVar 9) (aCons (mC (.bl true)) aNil)))) aNil)) rest [e0, e1, e2, e3, e4, e5, e6, some (.sh (.lst [D.tup ((List.range n).map fun i : Nat => D.int (i : Nat))])), none, none, e10, e11, e12] Ks := by
  rw [range_nat]
  exact ⟨by show 1 ≤ 100000; omega, ⟨_, rfl, z2, iw (List.range n), .bl true, rfl, fun p => h p⟩⟩
theorem pu__law_fewest (sa : Option Addr) (ds : List D) (Kd : D → Prop) (KX : Exn → Prop) (hl : ds.length = 4) (h : sp__law_fewest sa ds Kd KX) : m__law_fewest sa (startS N__law_fewest.length ds) { nx := fun _ => false = false ∧ Kd .non, rt := Kd, ex := KX } := by
  obtain ⟨n, l, sp, sw, rfl, L, hn, k1, k2⟩ := h
  have n4 := small_le hn
  refine ⟨((n : Nat) : Int), l, rfl, L, by omega, by omega, ?_⟩
  refine ⟨by omega, by omega, by rw [List.length_map, List.length_range]; show n ≤ 100000; omega, lcD_map (l := rgI n) D.int (fun x => .int (src (kn l) x)) (rg_eq n) (fun x hx => ⟨[(6, .int x)], rfl, fun Kd hK => ⟨⟨_, rfl⟩, ?_⟩⟩) ?_⟩
  · have e : (valD (kvD (kn l)) x).getD (.int x) = .int (src (kn l) x) := by
      rw [valD_kv]
      unfold src
      cases look (kn l) x <;> rfl
    show Kd ((valD (kvD (kn l)) x).getD (.int x))
    rw [e]
    exact hK
  · refine ⟨by omega, by omega, z1, ?_⟩
    refine st_fw (n := n) fun p => ?_
    refine ⟨10, ?_⟩
    exact fw_loop (l := l) (sp := sp) hn k1 (fun h env => k2 h) 9 0 [List.range n] [List.range n] p _ _ _ _ rfl (Lev.start hn sw) fun u c hu hc hlt => absurd hlt (Nat.not_lt_zero _)
end L3
set_option pp.maxSteps 400
/-! P7d: a lead and its arrangement -/
namespace L3
open PySem PySem.Spec PyProof.Rows L2
structure W0 (l : List (Int × Int)) (n : Nat) (w : List Nat) : Prop where
  K : Kn l
  hw : w ∈ arrs n n
  lk : ∀ i, i < n → look l (i : Nat) = if at0 w i = i then none else some ((at0 w i : Nat) : Int)
  kb : ∀ x v, look l x = some v → 0 ≤ x ∧ x < n
theorem memA_iff {x : Nat} {l : List Nat} : memA x l = true ↔ x ∈ l := by
  unfold memA
  rw [List.any_eq_true]
  constructor
  · rintro ⟨y, h, e⟩
    rw [← eq_of_beq e]
    exact h
  · intro h
    exact ⟨x, h, beq_self_eq_true x⟩
theorem nodA_iff : ∀ {l : List Nat}, nodA l = true ↔ l.Nodup
  | [] => by simp [nodA]
  | x :: r => by
    rw [nodA, Bool.and_eq_true, List.nodup_cons, nodA_iff, Bool.not_eq_true', Bool.eq_false_iff, ne_eq, memA_iff]
theorem mem_cast {x : Nat} {l : List Nat} : ((x : Nat) : Int) ∈ iw l ↔ x ∈ l := by
  rw [List.mem_map]
  constructor
  · rintro ⟨y, h, e⟩
    have : y = x := by omega
    rw [← this]
    exact h
  · intro h
    exact ⟨x, h, rfl⟩
theorem iw_nodup {l : List Nat} : (iw l).Nodup ↔ l.Nodup := by
  unfold iw List.Nodup
  rw [List.pairwise_map]
  constructor
  · exact fun h => h.imp fun h e => h (by rw [e])
  · exact fun h => h.imp fun h e => h (by omega)
section
variable {l : List (Int × Int)} {n : Nat} {w : List Nat}
theorem W0.len (W : W0 l n w) : w.length = n := (mem_arrs.mp W.hw).1
theorem W0.ne (W : W0 l n w) {i : Nat} (hi : i < n) {z : Int} (h : look l (i : Nat) = some z) : at0 w i ≠ i ∧ z = ((at0 w i : Nat) : Int) := by
  rw [W.lk i hi] at h
  by_cases c : at0 w i = i
  · rw [if_pos c] at h; cases h
  · rw [if_neg c] at h
    exact ⟨c, (Option.some.inj h).symm⟩
theorem wk_of (W : W0 l n w) {b : Nat} (hb : b < n) : ∀ (q : List Int) (y f : Nat), Wo l (y : Nat) q (some (b : Nat)) → ((b : Nat) : Int) ∉ q → y < n → q.length < f → wkA w b f (at0 w y) = some (q.map Int.toNat)
  | [], y, 0, _, _, _, hf => absurd hf (Nat.not_lt_zero _)
  | [], y, f + 1, h, _, hy, _ => by
    have h : look l (y : Nat) = some ((b : Nat) : Int) := h
    have e := (W.ne hy h).2
    have e : at0 w y = b := by omega
    unfold wkA
    rw [e, beq_self_eq_true, if_pos rfl]
    rfl
  | z :: r, y, 0, _, _, _, hf => absurd hf (Nat.not_lt_zero _)
  | z :: r, y, f + 1, h, hn, hy, hf => by
    obtain ⟨h1, h2⟩ := h
    have e := (W.ne hy h1).2
    have hz := at0_lt W.hw hy
    have hzb : at0 w y ≠ b := fun c => hn (by rw [e, c]; exact List.mem_cons_self)
    rw [e] at h2
    have hne : at0 w (at0 w y) ≠ at0 w y := by
      cases r with
      | nil => exact (W.ne hz (show look l ((at0 w y : Nat) : Int) = some _ from h2)).1
      | cons u r => exact (W.ne hz h2.1).1
    have ih := wk_of W hb r (at0 w y) f h2 (fun c => hn (List.mem_cons_of_mem _ c)) hz (by rw [List.length_cons] at hf; omega)
    unfold wkA
    rw [if_neg (by rw [beq_iff_eq]; exact hzb), if_neg (by rw [beq_iff_eq]; exact hne), ih, e]
    rfl
theorem wk_wo (W : W0 l n w) {b : Nat} : ∀ (f y : Nat) (q : List Nat), wkA w b f (at0 w y) = some q → y < n → at0 w y ≠ y → Wo l (y : Nat) (iw q) (some (b : Nat))
  | 0, y, q, h, _, _ => by cases h
  | f + 1, y, q, h, hy, hne => by
    unfold wkA at h
    have hl := W.lk y hy
    rw [if_neg hne] at hl
    by_cases c : at0 w y = b
    · rw [if_pos (by rw [beq_iff_eq]; exact c)] at h
      cases h
      show look l (y : Nat) = some ((b : Nat) : Int)
      rw [hl, c]
    · rw [if_neg (by rw [beq_iff_eq]; exact c)] at h
      by_cases c2 : at0 w (at0 w y) = at0 w y
      · rw [if_pos (by rw [beq_iff_eq]; exact c2)] at h
        cases h
      · rw [if_neg (by rw [beq_iff_eq]; exact c2)] at h
        cases z : wkA w b f (at0 w (at0 w y)) with
        | none => rw [z] at h; cases h
        | some r =>
          rw [z] at h
          cases h
          exact ⟨hl, wk_wo W f (at0 w y) r z (at0_lt W.hw hy) c2⟩
theorem rg_ring (W : W0 l n w) {b : Nat} (hb : b < n) (hne : at0 w b ≠ b) : (rgA w b).map iw = ringOf l ((b : Nat) : Int) := by
  unfold rgA
  rw [if_neg (by rw [beq_iff_eq]; exact hne)]
  by_cases c : ∃ q, Cyc l ((b : Nat) : Int) q
  · obtain ⟨q, c⟩ := c
    rw [ringOf_some c]
    have hm : ∀ x ∈ q, 0 ≤ x ∧ x < (n : Int) := fun x hx => by
      -- each of q has a source
      obtain ⟨z, hz, _⟩ := Rg.keys (r := ((b : Nat) : Int) :: q.reverse) ⟨_, q, c, rfl⟩ (y := x) (by simp [hx])
      exact W.kb x z hz
    have hlen : q.length < n := by
      have := nodup_len (b := n) (l := ((b : Nat) : Int) :: q) (List.nodup_cons.mpr ⟨c.notin, c.nd⟩) fun x hx => by
        rcases List.mem_cons.mp hx with rfl | hx
        · omega
        · exact hm x hx
      rw [List.length_cons] at this
      omega
    rw [W.len, wk_of W hb q b n c.w c.notin hb hlen]
    have back : (q.map Int.toNat).map (fun i : Nat => (i : Int)) = q := by
      rw [List.map_map]
      have : ∀ x ∈ q, ((fun i : Nat => (i : Int)) ∘ Int.toNat) x = x := fun x hx => by
        have := hm x hx
        show ((x.toNat : Nat) : Int) = x
        omega
      rw [List.map_congr_left this]
      simp
    have h1 : (q.map Int.toNat).all (fun x => Nat.blt b x) = true := List.all_eq_true.mpr fun x hx => by
      obtain ⟨y, hy, rfl⟩ := List.mem_map.mp hx
      have := c.gt y hy
      exact Nat.ble_eq_true_of_le (by omega)
    have h2 : nodA (q.map Int.toNat) = true := nodA_iff.mpr (iw_nodup.mp (by show ((q.map Int.toNat).map fun i : Nat => (i : Int)).Nodup; rw [back]; exact c.nd))
    show ((if ((q.map Int.toNat).all (fun x => Nat.blt b x) && nodA (q.map Int.toNat)) = true then some (b :: (q.map Int.toNat).reverse) else none).map iw) = _
    rw [h1, h2]
    show some (iw (b :: (q.map Int.toNat).reverse)) = _
    unfold iw
    rw [List.map_cons, List.map_reverse, back]
  · rw [ringOf_none c]
    cases z : wkA w b w.length (at0 w b) with
    | none => rfl
    | some q =>
      show ((if (q.all (fun x => Nat.blt b x) && nodA q) = true then some (b :: q.reverse) else none).map iw) = _
      by_cases h : (q.all (fun x => Nat.blt b x) && nodA q) = true
      · rw [Bool.and_eq_true] at h
        refine absurd ⟨iw q, ?_, fun x hx => ?_, iw_nodup.mpr (nodA_iff.mp h.2), wk_wo W _ b q z hb hne⟩ c
        · intro e
          have hq : q = [] := by simpa using e
          have := wk_wo W _ b q z hb hne
          rw [hq] at this
          have := (W.ne hb (show look l ((b : Nat) : Int) = some _ from this)).2
          omega
        · obtain ⟨y, hy, rfl⟩ := List.mem_map.mp hx
          have := Nat.le_of_ble_eq_true (List.all_eq_true.mp h.1 y hy)
          omega
      · rw [if_neg h]
        rfl
theorem goals_mem (W : W0 l n w) {i : Nat} : i ∈ goalsA w ↔ i < n ∧ at0 w i ≠ i := by
  unfold goalsA ixA
  rw [List.mem_filter, List.mem_range, W.len, Bool.not_eq_true', beq_eq_false_iff_ne]
theorem goals_keys (W : W0 l n w) : (iw (goalsA w)).Perm (l.map fun p : Int × Int => p.1) := by
  have nd : (goalsA w).Nodup := List.filter_sublist.nodup List.nodup_range
  refine (List.perm_ext_iff_of_nodup (iw_nodup.mpr nd) W.K.L.nd).mpr fun x => ?_
  constructor
  · intro h
    obtain ⟨i, hi, rfl⟩ := List.mem_map.mp h
    obtain ⟨h1, h2⟩ := (goals_mem W).mp hi
    have := W.lk i h1
    rw [if_neg h2] at this
    exact List.mem_map.mpr ⟨_, look_mem this, rfl⟩
  · intro h
    obtain ⟨v, hv⟩ := look_some h
    have hx := W.kb x v hv
    obtain ⟨i, rfl⟩ : ∃ i : Nat, x = (i : Int) := ⟨x.toNat, by omega⟩
    have hi : i < n := by omega
    exact mem_cast.mpr ((goals_mem W).mpr ⟨hi, (W.ne hi hv).1⟩)
theorem goals_len2 (W : W0 l n w) : (goalsA w).length = l.length := by
  have := (goals_keys W).length_eq
  rw [List.length_map, List.length_map] at this
  exact this
theorem goals_sorted (W : W0 l n w) : iw (goalsA w) = sortI (l.map fun p : Int × Int => p.1) := by
  refine sortI_same (goals_keys W) ?_
  have : (goalsA w).Pairwise (· ≤ ·) := (List.pairwise_lt_range.imp fun h => Nat.le_of_lt h).sublist List.filter_sublist
  unfold iw
  rw [List.pairwise_map]
  exact this.imp fun h => by omega
theorem rings_map (W : W0 l n w) : ∀ L : List Nat, (∀ b ∈ L, b < n) → (L.filterMap (rgA w)).map iw = (iw (L.filter fun i => !(at0 w i == i))).filterMap (ringOf l)
  | [], _ => rfl
  | b :: L, h => by
    have ih := rings_map W L fun x hx => h x (List.mem_cons_of_mem _ hx)
    have hb := h b List.mem_cons_self
    rw [List.filterMap_cons, List.filter_cons]
    by_cases c : at0 w b = b
    · have e1 : rgA w b = none := by
        unfold rgA
        rw [if_pos (by rw [beq_iff_eq]; exact c)]
      have e2 : (!(at0 w b == b)) = false := by rw [beq_iff_eq.mpr c]; rfl
      rw [e1, e2]
      exact ih
    · have e1 := rg_ring W hb c
      have e2 : (!(at0 w b == b)) = true := by rw [beq_eq_false_iff_ne.mpr c]; rfl
      rw [e2, if_pos rfl]
      unfold iw at ih e1 ⊢
      rw [List.map_cons, List.filterMap_cons, ← e1]
      cases rgA w b with
      | none => exact ih
      | some r => exact congrArg ((r.map fun i : Nat => (i : Int)) :: ·) ih
theorem rings_eq (W : W0 l n w) : (ringsA w).map iw = ringsL l := by
  unfold ringsA ringsL
  rw [rings_map W (ixA w) fun b hb => by
    unfold ixA at hb
    rw [List.mem_range, W.len] at hb
    exact hb]
  show (iw (goalsA w)).filterMap (ringOf l) = _
  rw [goals_sorted W]
theorem all_perm {α : Type} {a b : List α} (h : a.Perm b) (p : α → Bool) : a.all p = b.all p := by
  rw [Bool.eq_iff_iff, List.all_eq_true, List.all_eq_true]
  exact ⟨fun q x hx => q x (h.mem_iff.mpr hx), fun q x hx => q x (h.mem_iff.mp hx)⟩
theorem shut_eq (W : W0 l n w) (r : List Nat) : shutA w r = shutL l (iw r) := by
  unfold shutA shutL
  rw [← all_perm (goals_keys W)]
  unfold iw
  rw [List.all_map]
  have : ∀ L : List Nat, (∀ g ∈ L, g ∈ goalsA w) → (L.all fun g => !(memA (at0 w g) r && !memA g r)) = L.all ((fun g : Int => !(decide ((look l g).getD 0 ∈ r.map fun i : Nat => (i : Int)) && !decide (g ∈ r.map fun i : Nat => (i : Int)))) ∘ fun i : Nat => (i : Int)) := by
    intro L
    induction L with
    | nil => exact fun _ => rfl
    | cons g L ih =>
      intro h
      rw [List.all_cons, List.all_cons, ih fun x hx => h x (List.mem_cons_of_mem _ hx)]
      obtain ⟨h1, h2⟩ := (goals_mem W).mp (h g List.mem_cons_self)
      have e := W.lk g h1
      rw [if_neg h2] at e
      show ((!(memA (at0 w g) r && !memA g r)) && _) = ((!(decide ((look l ((g : Nat) : Int)).getD 0 ∈ r.map fun i : Nat => (i : Int)) && !decide (((g : Nat) : Int) ∈ r.map fun i : Nat => (i : Int)))) && _)
      rw [e]
      have m : ∀ x : Nat, memA x r = decide (((x : Nat) : Int) ∈ r.map fun i : Nat => (i : Int)) := fun x => by
        rw [Bool.eq_iff_iff, memA_iff, decide_eq_true_iff]
        exact mem_cast.symm
      rw [m, m]
      rfl
  exact this _ fun g h => h
theorem shutR_eq (W : W0 l n w) : ((ringsA w).filter (shutA w)).map iw = shutR l := by
  unfold shutR
  rw [← rings_eq W, List.filter_map]
  congr 1
  exact List.filter_congr fun r _ => shut_eq W r
theorem isEmpty_perm {α : Type} {a b : List α} (h : a.Perm b) : a.isEmpty = b.isEmpty := by
  cases a with
  | nil => rw [List.nil_perm.mp h]
  | cons x a =>
    cases b with
    | nil => exact absurd h.length_eq (by simp)
    | cons y b => rfl
theorem ends_eq (W : W0 l n w) : (endsA w).isEmpty = ((l.map fun p : Int × Int => p.1).filter fun g => !decide (g ∈ l.map fun p : Int × Int => p.2)).isEmpty := by
  rw [← isEmpty_perm ((goals_keys W).filter _)]
  unfold iw endsA
  rw [List.filter_map, List.isEmpty_map]
  congr 1
  refine List.filter_congr fun g hg => ?_
  obtain ⟨h1, h2⟩ := (goals_mem W).mp hg
  show (!_) = !decide (((g : Nat) : Int) ∈ l.map fun p : Int × Int => p.2)
  congr 1
  rw [Bool.eq_iff_iff, decide_eq_true_iff, List.any_eq_true]
  constructor
  · rintro ⟨h, hh, e⟩
    obtain ⟨a1, a2⟩ := (goals_mem W).mp hh
    have := W.lk h a1
    rw [if_neg a2, eq_of_beq e] at this
    exact List.mem_map.mpr ⟨_, look_mem this, rfl⟩
  · intro h
    obtain ⟨⟨a, b⟩, hp, e⟩ := List.mem_map.mp h
    have hl := look_of W.K.L.nd hp
    have ha := W.kb a b hl
    obtain ⟨i, rfl⟩ : ∃ i : Nat, a = (i : Int) := ⟨a.toNat, by omega⟩
    have hi : i < n := by omega
    obtain ⟨q1, q2⟩ := W.ne hi hl
    refine ⟨i, (goals_mem W).mpr ⟨hi, q1⟩, beq_iff_eq.mpr ?_⟩
    have e : b = ((g : Nat) : Int) := e
    omega
end
end L3
set_option pp.maxSteps 400
/-! P7e: what going on level by level answers -/
namespace L3
open PySem PySem.Spec PyProof.Rows L2
def endsL (l : List (Int × Int)) : List Int := ((kn l).map fun p : Int × Int => p.1).filter fun g => !decide (g ∈ (kn l).map fun p : Int × Int => p.2)
noncomputable def noWay (l : List (Int × Int)) (sp : List Int) : Bool := !(shutR (kn l)).isEmpty && (sp.isEmpty && (endsL l).isEmpty)
theorem noWay_iff {l : List (Int × Int)} {sp : List Int} : noWay l sp = true ↔ shutR (kn l) ≠ [] ∧ tmpO (kn l) sp = none := by
  have e1 : tmpO (kn l) sp = none ↔ (sp.isEmpty && (endsL l).isEmpty) = true := by
    unfold tmpO freeT endsL
    rw [List.head?_eq_none_iff, List.append_eq_nil_iff, Bool.and_eq_true, keys_kv]
    have p1 := isEmpty_perm (sortI_perm sp)
    have p2 := isEmpty_perm ((sortI_perm ((kn l).map fun p : Int × Int => p.1)).filter fun g => !decide (g ∈ (kn l).map fun p : Int × Int => p.2))
    rw [← List.isEmpty_iff, ← List.isEmpty_iff, p1, p2]
  unfold noWay
  rw [Bool.and_eq_true, e1]
  refine and_congr_left fun _ => ?_
  cases shutR (kn l) with
  | nil => simp
  | cons r rs => simp
def arrW (l : List (Int × Int)) (n : Nat) : List Nat := (List.range n).map fun i => (src (kn l) (i : Nat)).toNat
theorem arrW_at {l : List (Int × Int)} {n i : Nat} (hi : i < n) : at0 (arrW l n) i = (src (kn l) (i : Nat)).toNat := by
  unfold at0 arrW
  rw [List.getD_eq_getElem?_getD, List.getElem?_map, List.getElem?_range hi]
  rfl
section
variable {l : List (Int × Int)} {n : Nat}
theorem srcW_bd (L : Lead (n : Nat) l) {i : Nat} (hi : i < n) : 0 ≤ src (kn l) (i : Nat) ∧ src (kn l) (i : Nat) < n := by
  unfold src
  cases h : look (kn l) (i : Nat) with
  | none =>
    show (0 : Int) ≤ ((i : Nat) : Int) ∧ ((i : Nat) : Int) < n
    omega
  | some y =>
    have := L.kn.bd _ (look_mem h)
    exact ⟨this.2.2.1, this.2.2.2⟩
theorem W0.of (L : Lead (n : Nat) l) (hn : n ∈ small) : W0 (kn l) n (arrW l n) := by
  have n4 := small_le hn
  refine ⟨Kn.of L (by omega), mem_arrs.mpr ⟨by unfold arrW; rw [List.length_map, List.length_range], fun x hx => ?_⟩, fun i hi => ?_, fun x v h => ?_⟩
  · obtain ⟨i, hi, rfl⟩ := List.mem_map.mp hx
    have := srcW_bd L (List.mem_range.mp hi)
    omega
  · rw [arrW_at hi]
    have hb := srcW_bd L hi
    have K := Kn.of L (b := ((n : Nat) : Int)) (by omega)
    unfold src at hb ⊢
    cases h : look (kn l) (i : Nat) with
    | none =>
      rw [if_pos (by show (((i : Nat) : Int)).toNat = i; omega)]
    | some y =>
      rw [h] at hb
      have hb : 0 ≤ y ∧ y < (n : Int) := hb
      have ne := (K.look h).2.2.2.2
      show some y = if y.toNat = i then none else some ((y.toNat : Nat) : Int)
      rw [if_neg (by omega), show ((y.toNat : Nat) : Int) = y by omega]
  · have := L.kn.bd _ (look_mem h)
    exact ⟨this.1, this.2.1⟩
theorem mat_iff (L : Lead (n : Nat) l) {sp : List Int} {u : List Nat} : matB l sp n u = true ↔ ∀ i, i < n → ((i : Nat) : Int) ∉ sp → at0 u i = at0 (arrW l n) i := by
  unfold matB
  rw [List.isEmpty_iff, List.filter_eq_nil_iff]
  constructor
  · intro h i hi hs
    have := h ((i : Nat) : Int) (rgI_mem.mpr ⟨by omega, by omega⟩)
    rw [decide_eq_false hs, Bool.not_false, Bool.true_and, Bool.not_eq_true', Bool.not_eq_false, decide_eq_true_iff] at this
    rw [arrW_at hi, ← this]
    simp
  · intro h x hx
    have hx := rgI_mem.mp hx
    obtain ⟨i, rfl⟩ : ∃ i : Nat, x = (i : Int) := ⟨x.toNat, by omega⟩
    have hi : i < n := by omega
    by_cases c : ((i : Nat) : Int) ∈ sp
    · rw [decide_eq_true c]
      simp
    · have e := h i hi c
      rw [arrW_at hi] at e
      have hb := srcW_bd L hi
      have : ((at0 u (((i : Nat) : Int)).toNat : Nat) : Int) = src (kn l) (i : Nat) := by
        rw [Int.toNat_natCast, e]
        omega
      rw [decide_eq_true this]
      simp
theorem arrs_ext {u v : List Nat} (hu : u ∈ arrs n n) (hv : v ∈ arrs n n) (h : ∀ i, i < n → at0 u i = at0 v i) : u = v := by
  have h1 := (mem_arrs.mp hu).1
  have h2 := (mem_arrs.mp hv).1
  apply List.ext_getElem (by omega)
  intro i a b
  have := h i (by omega)
  unfold at0 at this
  rw [List.getD_eq_getElem?_getD, List.getD_eq_getElem?_getD, List.getElem?_eq_getElem a, List.getElem?_eq_getElem b] at this
  exact this
theorem mat_nil (L : Lead (n : Nat) l) (hn : n ∈ small) {u : List Nat} (hu : u ∈ arrs n n) : matB l [] n u = true ↔ u = arrW l n := by
  rw [mat_iff L]
  constructor
  · exact fun h => arrs_ext hu (W0.of L hn).hw fun i hi => h i hi (by simp)
  · rintro rfl i _ _
    rfl
theorem cntS_eq (L : Lead (n : Nat) l) (hn : n ∈ small) : cntS (arrW l n) = (kn l).length - (ringsL (kn l)).length := by
  have W := W0.of L hn
  unfold cntS
  rw [goals_len2 W, ← rings_eq W, List.length_map]
theorem cntC_eq (L : Lead (n : Nat) l) (hn : n ∈ small) : cntC (arrW l n) = (kn l).length + (shutR (kn l)).length := by
  have W := W0.of L hn
  unfold cntC
  rw [goals_len2 W, ← shutR_eq W, List.length_map]
/-! spares -/
def spS (n : Nat) (sp : List Int) : List Nat := (List.range n).filter fun i => decide (((i : Nat) : Int) ∈ sp)
theorem spS_mem {sp : List Int} {i : Nat} : i ∈ spS n sp ↔ i < n ∧ ((i : Nat) : Int) ∈ sp := by
  unfold spS
  rw [List.mem_filter, List.mem_range, decide_eq_true_iff]
theorem subs_mem (p : Nat → Bool) : ∀ L : List Nat, L.filter p ∈ subsA L
  | [] => by simp [subsA]
  | a :: r => by
    unfold subsA
    rw [List.mem_flatMap]
    refine ⟨r.filter p, subs_mem p r, ?_⟩
    rw [List.filter_cons]
    split <;> simp
theorem noWay_eq (L : Lead (n : Nat) l) (hn : n ∈ small) {sp : List Int} (hsp : ∀ x ∈ sp, x ∈ freeL (n : Nat) l) : noWayA (arrW l n) (spS n sp) = noWay l sp := by
  have W := W0.of L hn
  unfold noWayA noWay endsL
  rw [ends_eq W, ← shutR_eq W, List.isEmpty_map]
  congr 2
  rw [Bool.eq_iff_iff, List.isEmpty_iff, List.isEmpty_iff]
  constructor
  · intro h
    cases sp with
    | nil => rfl
    | cons x r =>
      obtain ⟨h0, h1, _⟩ := freeL_mem.mp (hsp x List.mem_cons_self)
      have : x.toNat ∈ spS n (x :: r) := spS_mem.mpr ⟨by omega, by rw [show ((x.toNat : Nat) : Int) = x by omega]; exact List.mem_cons_self⟩
      rw [h] at this
      cases this
  · rintro rfl
    unfold spS
    rw [List.filter_eq_nil_iff]
    intro i _
    simp
theorem free_w (L : Lead (n : Nat) l) (hn : n ∈ small) {sp : List Int} (hsp : ∀ x ∈ sp, x ∈ freeL (n : Nat) l) {i : Nat} (hi : i < n) : (((i : Nat) : Int) ∈ sp → at0 (arrW l n) i = i) ∧ (((i : Nat) : Int) ∉ sp → ((at0 (arrW l n) i : Nat) : Int) ∉ sp) := by
  have hb := srcW_bd L hi
  rw [arrW_at hi]
  constructor
  · intro h
    obtain ⟨_, _, hf⟩ := freeL_mem.mp (hsp _ h)
    unfold freeB at hf
    rw [Bool.and_eq_true, Bool.not_eq_true', decide_eq_false_iff_not] at hf
    unfold src
    rw [look_no hf.1]
    show (((i : Nat) : Int)).toNat = i
    omega
  · intro h hm
    rw [show (((src (kn l) (i : Nat)).toNat : Nat) : Int) = src (kn l) (i : Nat) by omega] at hm
    obtain ⟨_, _, hf⟩ := freeL_mem.mp (hsp _ hm)
    unfold freeB at hf
    rw [Bool.and_eq_true, Bool.not_eq_true', Bool.not_eq_true', decide_eq_false_iff_not, decide_eq_false_iff_not] at hf
    unfold src at hm hf
    cases q : look (kn l) (i : Nat) with
    | none =>
      rw [q] at hm
      exact h hm
    | some y =>
      rw [q] at hf
      exact hf.2 (List.mem_map.mpr ⟨_, look_mem q, rfl⟩)
theorem few_low (L : Lead (n : Nat) l) (hn : n ∈ small) {sp : List Int} (hsp : ∀ x ∈ sp, x ∈ freeL (n : Nat) l) {u : List Nat} (hu : u ∈ arrs n n) {c : Nat} (hc : costA false u = some c) (hm : matB l sp n u = true) : noWay l sp = false ∧ cntC (arrW l n) ≤ c := by
  have W := W0.of L hn
  have hl := (mem_arrs.mp hu).1
  have hmat := (mat_iff L).mp hm
  have q : chkD (spS n sp) u = true := List.all_eq_true.mp (List.all_eq_true.mp (List.all_eq_true.mp okD n hn) (spS n sp) (subs_mem _ _)) u hu
  unfold chkD at q
  have hf : freeA u (spS n sp) = true := by
    unfold freeA ixA
    refine List.all_eq_true.mpr fun i hi => ?_
    have hi : i < n := by rw [← hl]; exact List.mem_range.mp hi
    by_cases c : ((i : Nat) : Int) ∈ sp
    · rw [memA_iff.mpr (spS_mem.mpr ⟨hi, c⟩)]
      rfl
    · have e := hmat i hi c
      have hno := (free_w L hn hsp hi).2 c
      have : memA (at0 u i) (spS n sp) = false := by
        rw [Bool.eq_false_iff, ne_eq, memA_iff, e]
        exact fun h => hno (spS_mem.mp h).2
      rw [this]
      simp
  have hfill : fillA u (spS n sp) = arrW l n := by
    have hlen : (fillA u (spS n sp)).length = n := by unfold fillA ixA; rw [List.length_map, List.length_range, hl]
    have hat : ∀ i, i < n → at0 (fillA u (spS n sp)) i = at0 (arrW l n) i := fun i hi => by
      have e : at0 (fillA u (spS n sp)) i = if memA i (spS n sp) = true then i else at0 u i := by
        unfold fillA ixA
        show (((List.range u.length).map fun i => if memA i (spS n sp) = true then i else at0 u i).getD i 0) = _
        rw [List.getD_eq_getElem?_getD, List.getElem?_map, List.getElem?_range (by omega)]
        rfl
      rw [e]
      by_cases c : ((i : Nat) : Int) ∈ sp
      · rw [if_pos (memA_iff.mpr (spS_mem.mpr ⟨hi, c⟩)), (free_w L hn hsp hi).1 c]
      · rw [if_neg fun h => c (spS_mem.mp (memA_iff.mp h)).2]
        exact hmat i hi c
    refine arrs_ext (mem_arrs.mpr ⟨hlen, fun x hx => ?_⟩) W.hw hat
    obtain ⟨i, hi, rfl⟩ := List.mem_iff_getElem.mp hx
    have := hat i (by omega)
    unfold at0 at this
    rw [List.getD_eq_getElem?_getD, List.getElem?_eq_getElem hi] at this
    have h2 := at0_lt W.hw (i := i) (by omega)
    unfold at0 at h2
    rw [← this] at h2
    exact h2
  rw [if_pos hf, hc, hfill, noWay_eq L hn hsp] at q
  have q : (!noWay l sp && Nat.ble (cntC (arrW l n)) c) = true := q
  rw [Bool.and_eq_true, Bool.not_eq_true'] at q
  exact ⟨q.1, Nat.le_of_ble_eq_true q.2⟩
theorem vary_mem : ∀ {S : List Nat} {w u : List Nat}, w ∈ arrs n n → u ∈ varyA w S → u ∈ arrs n n ∧ ∀ i, i ∉ S → at0 u i = at0 w i
  | [], w, u, hw, h => by
    unfold varyA at h
    rw [List.mem_singleton] at h
    subst h
    exact ⟨hw, fun _ _ => rfl⟩
  | s :: S, w, u, hw, h => by
    unfold varyA at h
    rw [List.mem_flatMap] at h
    obtain ⟨v, hv, h⟩ := h
    obtain ⟨h1, h2⟩ := vary_mem hw hv
    obtain ⟨x, hx, rfl⟩ := List.mem_map.mp h
    have hx : x < n := by
      unfold ixA at hx
      rw [List.mem_range, (mem_arrs.mp hw).1] at hx
      exact hx
    refine ⟨set_arrs h1 hx s, fun i hi => ?_⟩
    rw [← h2 i fun hm => hi (List.mem_cons_of_mem _ hm)]
    unfold at0
    rw [List.getD_eq_getElem?_getD, List.getD_eq_getElem?_getD, List.getElem?_set_ne fun e => hi (by rw [← e]; exact List.mem_cons_self)]
theorem few_is (L : Lead (n : Nat) l) (hn : n ∈ small) {sp : List Int} (hsp : ∀ x ∈ sp, x ∈ freeL (n : Nat) l) (hw : noWay l sp = false) : ∃ u ∈ arrs n n, costA false u = some (cntC (arrW l n)) ∧ matB l sp n u = true := by
  have W := W0.of L hn
  have q : chkE (spS n sp) (arrW l n) = true := List.all_eq_true.mp (List.all_eq_true.mp (List.all_eq_true.mp okE n hn) (spS n sp) (subs_mem _ _)) _ W.hw
  unfold chkE at q
  have h1 : selfA (arrW l n) (spS n sp) = true := by
    unfold selfA
    refine List.all_eq_true.mpr fun i hi => ?_
    obtain ⟨a, b⟩ := spS_mem.mp hi
    exact beq_iff_eq.mpr ((free_w L hn hsp a).1 b)
  have h2 : freeA (arrW l n) (spS n sp) = true := by
    unfold freeA ixA
    refine List.all_eq_true.mpr fun i hi => ?_
    have hi : i < n := by rw [← W.len]; exact List.mem_range.mp hi
    by_cases c : ((i : Nat) : Int) ∈ sp
    · rw [memA_iff.mpr (spS_mem.mpr ⟨hi, c⟩)]
      rfl
    · have hno := (free_w L hn hsp hi).2 c
      have : memA (at0 (arrW l n) i) (spS n sp) = false := by
        rw [Bool.eq_false_iff, ne_eq, memA_iff]
        exact fun h => hno (spS_mem.mp h).2
      rw [this]
      simp
  rw [h1, h2, noWay_eq L hn hsp, hw, if_pos (by decide)] at q
  obtain ⟨u, hu, hc⟩ := List.any_eq_true.mp q
  obtain ⟨a, b⟩ := vary_mem W.hw hu
  exact ⟨u, a, isO_inv hc, (mat_iff L).mpr fun i hi hs => b i fun h => hs (spS_mem.mp h).2⟩
end
end L3
set_option pp.maxSteps 400
/-! K07: the plain law -/
namespace L3
open PySem PySem.Spec PyProof.Rows L2
abbrev N_law : List Str := ["_law_script", "_law_state", "_law_turn", "_law_boxes_here", "_law_lead_here", "_law_spares_here", "_law_due", "_law_found"]
abbrev ps_law : List Str := ["_law_script"]
def m_law_k07 (sa : Option Addr) : MSt :=
  (mSeq (mFor (.nm 2) (mRange (aCons (mC (.int 3)) aNil)) (mSeq (mSet 3 (m2 addD (mC (.int 1)) (mCallU sa sp__law_drawn (aCons (mVar 1) (aCons (mC (.int 4)) aNil)))))
    (mSeq (mSet 4 (mCallU sa sp__law_lead (aCons (mVar 1) (aCons (mVar 3) aNil))))
    (mSeq (mSet 5 (mCallU sa sp__law_spares (aCons (mVar 1) (aCons (mVar 3) (aCons (mVar 4) aNil)))))
    (mSeq (mSet 6 (mCallU sa sp__law_fewest (aCons (mVar 3) (aCons (mVar 4) (aCons (mVar 5) (aCons (mC (.bl false)) aNil))))))
    (mSeq (mSet 7 (mKindN (["NoWay"] : List Str) ([] : List Str) (mCallU sa sp_by_copies (aCons (mVar 3) (aCons (mVar 4) (aCons (mVar 5) aNil))))))
    (mSeq (mIfS (mAnd (mB (m2 (isND false) (mVar 6) (mC .non))) (mB (m2 (eqE true) (mVar 7) (mC (.str "NoWay"))))) (mRet (mC (.bl false))) mNext)
    (mSeq (mIfS (mAnd (mB (m2 (isND true) (mVar 6) (mC .non))) (mOr (mB (m2 (eqE true) (mCall lenD (aCons (mVar 7) aNil)) (mVar 6))) (mB (m2 (eqE true) (mCallU sa sp_least (aCons (mVar 3) (aCons (mVar 4) (aCons (mC (.str "copies")) aNil)))) (mVar 6))))) (mRet (mC (.bl false))) mNext)
    (mSeq (mSet 6 (mCallU sa sp__law_fewest (aCons (mVar 3) (aCons (mVar 4) (aCons (mLst aNil) (aCons (mC (.bl true)) aNil))))))
    (mIfS (mOr (mB (m2 (eqE true) (mCall lenD (aCons (mCallU sa sp_by_swaps (aCons (mVar 3) (aCons (mVar 4) aNil))) aNil)) (mVar 6))) (mB (m2 (eqE true) (mCallU sa sp_least (aCons (mVar 3) (aCons (mVar 4) (aCons (mC (.str "swaps")) aNil)))) (mVar 6)))) (mRet (mC (.bl false))) mNext))))))))))
  (mRet (mC (.bl true))))
abbrev q1_k07 (sa : Option Addr) : MSt := (mSet 6 (mCallU sa sp__law_fewest (aCons (mVar 3) (aCons (mVar 4) (aCons (mLst aNil) (aCons (mC (.bl true)) aNil))))))
abbrev q2_k07 (sa : Option Addr) : MSt := (mIfS (mOr (mB (m2 (eqE true) (mCall lenD (aCons (mCallU sa sp_by_swaps (aCons (mVar 3) (aCons (mVar 4) aNil))) aNil)) (mVar 6))) (mB (m2 (eqE true) (mCallU sa sp_least (aCons (mVar 3) (aCons (mVar 4) (aCons (mC (.str "swaps")) aNil)))) (mVar 6)))) (mRet (mC (.bl false))) mNext)
abbrev p1_k07 (sa : Option Addr) : MSt := (mIfS (mAnd (mB (m2 (isND false) (mVar 6) (mC .non))) (mB (m2 (eqE true) (mVar 7) (mC (.str "NoWay"))))) (mRet (mC (.bl false))) mNext)
abbrev p2_k07 (sa : Option Addr) : MSt := (mIfS (mAnd (mB (m2 (isND true) (mVar 6) (mC .non))) (mOr (mB (m2 (eqE true) (mCall lenD (aCons (mVar 7) aNil)) (mVar 6))) (mB (m2 (eqE true) (mCallU sa sp_least (aCons (mVar 3) (aCons (mVar 4) (aCons (mC (.str "copies")) aNil)))) (mVar 6))))) (mRet (mC (.bl false))) mNext)
abbrev turn_k07 (sa : Option Addr) : MSt := (mSeq (mSet 4 (mCallU sa sp__law_lead (aCons (mVar 1) (aCons (mVar 3) aNil))))
    (mSeq (mSet 5 (mCallU sa sp__law_spares (aCons (mVar 1) (aCons (mVar 3) (aCons (mVar 4) aNil)))))
    (mSeq (mSet 6 (mCallU sa sp__law_fewest (aCons (mVar 3) (aCons (mVar 4) (aCons (mVar 5) (aCons (mC (.bl false)) aNil))))))
    (mSeq (mSet 7 (mKindN (["NoWay"] : List Str) ([] : List Str) (mCallU sa sp_by_copies (aCons (mVar 3) (aCons (mVar 4) (aCons (mVar 5) aNil))))))
    (mSeq (p1_k07 sa)
    (mSeq (p2_k07 sa)
    (mSeq (q1_k07 sa) (q2_k07 sa))))))))
theorem no_ne {i j : Int} (h : i = j) (c : (if true = true then !decide (i = j) else decide (i = j)) = true) : False := neT c h
theorem swaps_k07 {a p : Addr} {n : Nat} {l : List (Int × Int)} {Ks : KS} {e2 e5 e7 : Option Slot} (hn : n ∈ small) (L : Lead (n : Nat) l) (k : ∀ e6, Ks.nx [some (.sh (.ref a)), some (.sh (.ref p)), e2, some (.sh (.int (n : Nat))), some (.sh (leadD l)), e5, e6, e7]) {e6 : Option Slot} :
    mSeq (q1_k07 (some p)) (q2_k07 (some p)) [some (.sh (.ref a)), some (.sh (.ref p)), e2, some (.sh (.int (n : Nat))), some (.sh (leadD l)), e5, e6, e7] Ks := by
  have n4 := small_le hn
  have W := W0.of L hn
  have K := Kn.of L (b := ((n : Nat) : Int)) (by omega)
  have hc0 : costA true (arrW l n) = some (cntS (arrW l n)) := rfl
  refine ⟨z0, n, l, [], true, rfl, L, hn, fun d w hw hc hm hlow => ?_, fun hno => ?_⟩
  · have e := (mat_nil L hn hw).mp hm
    subst e
    rw [hc0] at hc
    have hd : cntS (arrW l n) = d := Option.some.inj hc
    rw [cntS_eq L hn] at hd
    refine ⟨((n : Nat) : Int), l, rfl, L, by omega, by omega, fun ms S => ?_⟩
    have hlen := S.len
    refine eqE_int (i := ((ms.map mvD).length : Nat)) (j := ((d : Nat) : Int)) (ite2 (fun c => ?_) (fun _ => ?_))
    · refine (no_ne ?_ c).elim
      rw [List.length_map]
      omega
    · refine ⟨((n : Nat) : Int), l, "swaps", rfl, L, by omega, by omega, fun h => absurd h.symm (by decide +kernel), fun _ => ?_, fun _ h => absurd rfl h⟩
      refine eqE_int (i := leastS l) (j := ((d : Nat) : Int)) (ite2 (fun c => ?_) (fun _ => k _))
      refine (no_ne ?_ c).elim
      unfold leastS
      omega
  · have := hno (arrW l n) _ W.hw hc0
    rw [(mat_nil L hn W.hw).mpr rfl] at this
    cases this
theorem turn_ok {a p : Addr} {n : Nat} {b : Int} {Ks : KS} {e2 e4 e5 e6 e7 : Option Slot} (hb : 1 + b = ((n : Nat) : Int)) (hn : n ∈ small) (k : ∀ e2 e3 e4 e5 e6 e7, Ks.nx [some (.sh (.ref a)), some (.sh (.ref p)), e2, e3, e4, e5, e6, e7]) :
    turn_k07 (some p) [some (.sh (.ref a)), some (.sh (.ref p)), e2, some (.sh (.int (1 + b))), e4, e5, e6, e7] Ks := by
  rw [hb]
  have n4 := small_le hn
  refine ⟨p, ((n : Nat) : Int), rfl, rfl, by omega, by omega, fun l L => ⟨p, ((n : Nat) : Int), l, rfl, rfl, L, by omega, by omega, fun sp hnd hsp => ?_⟩⟩
  have hspl : sp.length ≤ 10 := by
    have := nodup_lenI (b := ((n : Nat) : Int)) (by omega) hnd fun x hx => by
      have := freeL_mem.mp (hsp x hx)
      exact ⟨this.1, this.2.1⟩
    omega
  have hok : okSp ((n : Nat) : Int) l sp = true := by
    unfold okSp
    rw [decide_eq_true hnd, Bool.and_true]
    refine List.all_eq_true.mpr fun x hx => ?_
    obtain ⟨h0, h1, h2⟩ := freeL_mem.mp (hsp x hx)
    rw [decide_eq_true h0, decide_eq_true h1, h2]
    rfl
  refine ⟨n, l, sp, false, rfl, L, hn, fun d w hw hc hm hlow => ?_, fun hno => ?_⟩
  · obtain ⟨hway, hle⟩ := few_low L hn hsp hw hc hm
    obtain ⟨u, hu, hcu, hmu⟩ := few_is L hn hsp hway
    have hd : d = cntC (arrW l n) := by
      by_cases z : cntC (arrW l n) < d
      · have := hlow u _ hu hcu z
        rw [hmu] at this
        cases this
      · omega
    rw [cntC_eq L hn] at hd
    refine ⟨((n : Nat) : Int), l, sp, rfl, L, by omega, by omega, by omega, (fun h => by rw [hok] at h; cases h), fun _ => ⟨fun h => ?_, fun _ ms S => ?_⟩⟩
    · rw [noWay_iff.mpr h] at hway
      cases hway
    · have hlen := S.len
      refine ⟨rfl, rfl, ?_⟩
      refine eqE_int (i := ((ms.map mvD).length : Nat)) (j := ((d : Nat) : Int)) (ite2 (fun c => ?_) (fun _ => ?_))
      · refine (no_ne ?_ c).elim
        rw [List.length_map]
        omega
      · refine ⟨((n : Nat) : Int), l, "copies", rfl, L, by omega, by omega, fun _ => ?_, fun h => absurd h (by decide +kernel), fun h _ => absurd rfl h⟩
        refine eqE_int (i := leastC l) (j := ((d : Nat) : Int)) (ite2 (fun c => ?_) (fun _ => ?_))
        · refine (no_ne ?_ c).elim
          unfold leastC
          unfold shutR at hd
          omega
        · exact swaps_k07 hn L fun e6 => k _ _ _ _ _ _
  · have hway : noWay l sp = true := by
      cases z : noWay l sp with
      | true => rfl
      | false =>
        obtain ⟨u, hu, hcu, hmu⟩ := few_is L hn hsp z
        have := hno u _ hu hcu
        rw [hmu] at this
        cases this
    refine ⟨((n : Nat) : Int), l, sp, rfl, L, by omega, by omega, by omega, (fun h => by rw [hok] at h; cases h), fun _ => ⟨fun _ => ?_, fun h => absurd (noWay_iff.mp hway) h⟩⟩
    refine ⟨List.mem_cons_self, ?_⟩
    refine ⟨rfl, eqE_refl (n := 0) (.str _ _ (by decide +kernel)) (by decide) ⟨rfl, ?_⟩⟩
    exact swaps_k07 hn L fun e6 => k _ _ _ _ _ _
set_option maxHeartbeats 4000000 in
theorem pu_law_k07 (p a : Addr) : m_law_k07 (some p) (some (.sh (.ref a)) :: some (.sh (.ref p)) :: List.replicate (N_law.length - 2) none) { nx := fun _ => False, rt := fun d => d = .bl true } := by
  refine ⟨by omega, by omega, forD_all (fun env => ∃ e2 e3 e4 e5 e6 e7, env = [some (.sh (.ref a)), some (.sh (.ref p)), e2, e3, e4, e5, e6, e7]) ⟨_, _, _, _, _, _, rfl⟩ ?_ ?_⟩
  · rintro d hd env nx ⟨e2, e3, e4, e5, e6, e7, rfl⟩ hn
    refine ⟨_, rfl, dr (by decide) (by decide) fun b b0 b1 => ?_⟩
    have hb : 1 + b = (((1 + b).toNat : Nat) : Int) := by omega
    exact turn_ok hb (small_of (by omega) (by omega)) fun _ _ _ _ _ _ => hn _ ⟨_, _, _, _, _, _, rfl⟩
  · rintro env ⟨e2, e3, e4, e5, e6, e7, rfl⟩
    exact rfl
end L3
namespace L3
open PySem PySem.Spec PyProof.Rows L2
def topS (i : Nat) : Stmt := PySem.Challenge.pw_movesatonce_k07_whole_none_are_fewer.main.body.getD i (.Pass ⟨0, 0, 0, 0⟩)
/-! ### _law_kind -/
abbrev s__law_kind : Stmt := topS 34
abbrev ps__law_kind : List Str := ["_law_work"]
theorem sc__law_kind : FnScope N__law_kind ps__law_kind (defScope s__law_kind) := ⟨rfl, rfl, rfl, by decide +kernel, rfl, by decide +kernel, by decide +kernel⟩
/-- the clause of a Try with one -/
def suiteOf (st : Stmt) : List Stmt := match st with
  | .Try _ [.ExceptHandler _ _ b _] _ _ _ => b
  | _ => []
def tryOf (st : Stmt) : List Stmt := match st with
  | .Try b _ _ _ _ => b
  | _ => []
theorem der_kind {P : Program} {w0 : World} {K : PySem.W.Frag} {mg : Str → Option Value} {base : Heap} (F : Free mg) (zVE : mg "ValueError" = none) {w : Str} {D : Addr} (KK : Kinds K mg D w) {g : Addr} {cdg : Value} {a : Addr} {oe : Obj} {pn : List (Addr × Obj)} (hz : Zc (.ref D) none oe) (hf : ∃ vs, oe.data = .fields vs)
    (C : C3) (hC : C.K = K) (B : Hp) (A : Around) (outer : List Env) (s : Shared) (H : Hp) (hun : (A.deeper (envOfC "_law_kind" (defScope s__law_kind) s.heap.objs.size g cdg)).units + 64 < cLine) :
    MSs ((cxOf C8.CX0 P w0 K mg base N__law_kind "_law_kind" (defScope s__law_kind) g cdg A outer s H C8.E0).nox.suite a ((a, oe) :: pn)) C E0 false B (suiteOf ((defBody s__law_kind).head!)) (m__law_kind a (decide (("BadLead" : Str) = w)) (decide (("BadSpare" : Str) = w)) (decide (("BadMove" : Str) = w)) (decide (("NoWay" : Str) = w)) (decide (("BadWord" : Str) = w)) (decide (("BadHouse" : Str) = w)) (decide (("BadCall" : Str) = w)) (decide (("BadText" : Str) = w))) := by
  subst hC
  obtain ⟨A_BadLead, g_BadLead, k_BadLead⟩ := KK.kd "BadLead" (by simp)
  obtain ⟨A_BadSpare, g_BadSpare, k_BadSpare⟩ := KK.kd "BadSpare" (by simp)
  obtain ⟨A_BadMove, g_BadMove, k_BadMove⟩ := KK.kd "BadMove" (by simp)
  obtain ⟨A_NoWay, g_NoWay, k_NoWay⟩ := KK.kd "NoWay" (by simp)
  obtain ⟨A_BadWord, g_BadWord, k_BadWord⟩ := KK.kd "BadWord" (by simp)
  obtain ⟨A_BadHouse, g_BadHouse, k_BadHouse⟩ := KK.kd "BadHouse" (by simp)
  obtain ⟨A_BadCall, g_BadCall, k_BadCall⟩ := KK.kd "BadCall" (by simp)
  obtain ⟨A_BadText, g_BadText, k_BadText⟩ := KK.kd "BadText" (by simp)
  exact
  (mss_cons (ms_set sc__law_kind.nd (i := 2) rfl (by first | exact Or.inl rfl | exact Or.inr rfl) (MF.me (mf_lst (ma_cons (me_isE 1 F rfl KK.ex hz hf rfl (me_var 1) rfl g_BadLead k_BadLead) (ma_cons (me_isE 1 F rfl KK.ex hz hf rfl (me_var 1) rfl g_BadSpare k_BadSpare) (ma_cons (me_isE 1 F rfl KK.ex hz hf rfl (me_var 1) rfl g_BadMove k_BadMove) (ma_cons (me_isE 1 F rfl KK.ex hz hf rfl (me_var 1) rfl g_NoWay k_NoWay) ma_nil)))))))
  (mss_cons (ms_setF sc__law_kind.nd (i := 2) rfl (by first | exact Or.inl rfl | exact Or.inr rfl) (mf_cat (me_var 2) (MF.me (mf_lst (ma_cons (me_isE 1 F rfl KK.ex hz hf rfl (me_var 1) rfl g_BadWord k_BadWord) (ma_cons (me_isE 1 F rfl KK.ex hz hf rfl (me_var 1) rfl g_BadHouse k_BadHouse) (ma_cons (me_isE 1 F rfl KK.ex hz hf rfl (me_var 1) rfl g_BadCall k_BadCall) ma_nil)))))))
  (mss_cons (ms_append 2 (h := ps_expr (pe_bm PySem.F.plainAttrs_list PySem.F.slot_list_append PySem.F.type_list_append mt_append (pv 2) (pa_cons (me_isE 1 F rfl KK.ex hz hf rfl (me_var 1) rfl g_BadText k_BadText) pa_nil))))
  (mss_cons (ms_set sc__law_kind.nd (i := 3) rfl (by first | exact Or.inl rfl | exact Or.inr rfl) (MF.me (mf_lst (ma_cons me_str (ma_cons me_str (ma_cons me_str (ma_cons me_str (ma_cons me_str (ma_cons me_str (ma_cons me_str (ma_cons me_str ma_nil)))))))))))
  (mss_cons (ms_if (mt_w (mw_or (mt_ne rfl hun (me_count rfl (pe_bm PySem.F.plainAttrs_list PySem.F.slot_list_count PySem.F.type_list_count mt_countF (me_var 2) (pa_cons me_bl pa_nil))) me_int) (mw_or1 (mt_not (mt_val (me_isET (T := "ValueError") 1 F rfl KK.ex hz hf rfl (me_var 1) rfl zVE (by decide +kernel) KK.ve)))))) (mss_one (ms_ret me_str)) mss_nil)
  (mss_cons (ms_setL sc__law_kind.nd (i := 4) rfl (by first | exact Or.inl rfl | exact Or.inr rfl) (me_ix rfl (me_var 3) (me_index rfl (pe_bm PySem.F.plainAttrs_list PySem.F.slot_list_index PySem.F.type_list_index mt_index (me_var 2) (pa_cons me_bl pa_nil)))))
  (mss_cons (ms_if (mt_eq rfl hun (me_var 4) me_str) (mss_one (ms_ret (me_tup (ma_cons (me_var 4) (ma_cons me_no ma_nil))))) mss_nil)
  (mss_one (ms_ret (me_if (mt_eq rfl hun (me_var 4) me_str) (me_tup (ma_cons (me_var 4) (ma_cons me_no ma_nil))) (me_var 4)))))))))))
theorem der_kindM {P : Program} {w0 : World} {K : PySem.W.Frag} {mg : Str → Option Value} {base : Heap} (F : Free mg) (zVE : mg "ValueError" = none) {D : Addr} (KK : Kinds K mg D "BadMove") {dd : Addr} {n : Int} (XF : XfC K D) (hno : PySem.W.findIn K (.ref D) (fieldOf "BadMove") = some none) {g : Addr} {cdg : Value} {a : Addr} {oe : Obj} {pn : List (Addr × Obj)} (hz : Zc (.ref D) (some dd) oe) (hf : ∃ vs, oe.data = .fields vs)
    (C : C3) (hC : C.K = K) (hx : (dd, HO.xd [(fieldOf "BadMove", V.int n)]) ∈ C.fix) (B : Hp) (A : Around) (outer : List Env) (s : Shared) (H : Hp) (hun : (A.deeper (envOfC "_law_kind" (defScope s__law_kind) s.heap.objs.size g cdg)).units + 64 < cLine) :
    MSs ((cxOf C8.CX0 P w0 K mg base N__law_kind "_law_kind" (defScope s__law_kind) g cdg A outer s H C8.E0).nox.suite a ((a, oe) :: pn)) C E0 false B (suiteOf ((defBody s__law_kind).head!)) (m__law_kindM a n (decide (("BadLead" : Str) = "BadMove")) (decide (("BadSpare" : Str) = "BadMove")) (decide (("BadMove" : Str) = "BadMove")) (decide (("NoWay" : Str) = "BadMove")) (decide (("BadWord" : Str) = "BadMove")) (decide (("BadHouse" : Str) = "BadMove")) (decide (("BadCall" : Str) = "BadMove")) (decide (("BadText" : Str) = "BadMove"))) := by
  subst hC
  rw [show fieldOf "BadMove" = "number" by decide +kernel] at hno hx
  obtain ⟨A_BadLead, g_BadLead, k_BadLead⟩ := KK.kd "BadLead" (by simp)
  obtain ⟨A_BadSpare, g_BadSpare, k_BadSpare⟩ := KK.kd "BadSpare" (by simp)
  obtain ⟨A_BadMove, g_BadMove, k_BadMove⟩ := KK.kd "BadMove" (by simp)
  obtain ⟨A_NoWay, g_NoWay, k_NoWay⟩ := KK.kd "NoWay" (by simp)
  obtain ⟨A_BadWord, g_BadWord, k_BadWord⟩ := KK.kd "BadWord" (by simp)
  obtain ⟨A_BadHouse, g_BadHouse, k_BadHouse⟩ := KK.kd "BadHouse" (by simp)
  obtain ⟨A_BadCall, g_BadCall, k_BadCall⟩ := KK.kd "BadCall" (by simp)
  obtain ⟨A_BadText, g_BadText, k_BadText⟩ := KK.kd "BadText" (by simp)
  exact
  (mss_cons (ms_set sc__law_kind.nd (i := 2) rfl (by first | exact Or.inl rfl | exact Or.inr rfl) (MF.me (mf_lst (ma_cons (me_isED 1 F rfl KK.ex hz hf hx rfl (me_var 1) rfl g_BadLead k_BadLead) (ma_cons (me_isED 1 F rfl KK.ex hz hf hx rfl (me_var 1) rfl g_BadSpare k_BadSpare) (ma_cons (me_isED 1 F rfl KK.ex hz hf hx rfl (me_var 1) rfl g_BadMove k_BadMove) (ma_cons (me_isED 1 F rfl KK.ex hz hf hx rfl (me_var 1) rfl g_NoWay k_NoWay) ma_nil)))))))
  (mss_cons (ms_setF sc__law_kind.nd (i := 2) rfl (by first | exact Or.inl rfl | exact Or.inr rfl) (mf_cat (me_var 2) (MF.me (mf_lst (ma_cons (me_isED 1 F rfl KK.ex hz hf hx rfl (me_var 1) rfl g_BadWord k_BadWord) (ma_cons (me_isED 1 F rfl KK.ex hz hf hx rfl (me_var 1) rfl g_BadHouse k_BadHouse) (ma_cons (me_isED 1 F rfl KK.ex hz hf hx rfl (me_var 1) rfl g_BadCall k_BadCall) ma_nil)))))))
  (mss_cons (ms_append 2 (h := ps_expr (pe_bm PySem.F.plainAttrs_list PySem.F.slot_list_append PySem.F.type_list_append mt_append (pv 2) (pa_cons (me_isED 1 F rfl KK.ex hz hf hx rfl (me_var 1) rfl g_BadText k_BadText) pa_nil))))
  (mss_cons (ms_set sc__law_kind.nd (i := 3) rfl (by first | exact Or.inl rfl | exact Or.inr rfl) (MF.me (mf_lst (ma_cons me_str (ma_cons me_str (ma_cons me_str (ma_cons me_str (ma_cons me_str (ma_cons me_str (ma_cons me_str (ma_cons me_str ma_nil)))))))))))
  (mss_cons (ms_if (mt_w (mw_or (mt_ne rfl hun (me_count rfl (pe_bm PySem.F.plainAttrs_list PySem.F.slot_list_count PySem.F.type_list_count mt_countF (me_var 2) (pa_cons me_bl pa_nil))) me_int) (mw_or1 (mt_not (mt_val (me_isEDT (T := "ValueError") 1 F rfl KK.ex hz hf hx rfl (me_var 1) rfl zVE (by decide +kernel) KK.ve)))))) (mss_one (ms_ret me_str)) mss_nil)
  (mss_cons (ms_setL sc__law_kind.nd (i := 4) rfl (by first | exact Or.inl rfl | exact Or.inr rfl) (me_ix rfl (me_var 3) (me_index rfl (pe_bm PySem.F.plainAttrs_list PySem.F.slot_list_index PySem.F.type_list_index mt_index (me_var 2) (pa_cons me_bl pa_nil)))))
  (mss_cons (ms_if (mt_eq rfl hun (me_var 4) me_str) (mss_one (ms_ret (me_tup (ma_cons (me_var 4) (ma_cons (me_fldE 1 XF hno hz hf hx (me_var 1)) ma_nil))))) mss_nil)
  (mss_one (ms_ret (me_if (mt_eq rfl hun (me_var 4) me_str) (me_tup (ma_cons (me_var 4) (ma_cons me_no ma_nil))) (me_var 4)))))))))))
theorem der_kindT {P : Program} {w0 : World} {K : PySem.W.Frag} {mg : Str → Option Value} {base : Heap} (F : Free mg) (zVE : mg "ValueError" = none) {D : Addr} (KK : Kinds K mg D "BadText") {dd : Addr} {n : Int} (XF : XfC K D) (hno : PySem.W.findIn K (.ref D) (fieldOf "BadText") = some none) {g : Addr} {cdg : Value} {a : Addr} {oe : Obj} {pn : List (Addr × Obj)} (hz : Zc (.ref D) (some dd) oe) (hf : ∃ vs, oe.data = .fields vs)
    (C : C3) (hC : C.K = K) (hx : (dd, HO.xd [(fieldOf "BadText", V.int n)]) ∈ C.fix) (B : Hp) (A : Around) (outer : List Env) (s : Shared) (H : Hp) (hun : (A.deeper (envOfC "_law_kind" (defScope s__law_kind) s.heap.objs.size g cdg)).units + 64 < cLine) :
    MSs ((cxOf C8.CX0 P w0 K mg base N__law_kind "_law_kind" (defScope s__law_kind) g cdg A outer s H C8.E0).nox.suite a ((a, oe) :: pn)) C E0 false B (suiteOf ((defBody s__law_kind).head!)) (m__law_kindT a n (decide (("BadLead" : Str) = "BadText")) (decide (("BadSpare" : Str) = "BadText")) (decide (("BadMove" : Str) = "BadText")) (decide (("NoWay" : Str) = "BadText")) (decide (("BadWord" : Str) = "BadText")) (decide (("BadHouse" : Str) = "BadText")) (decide (("BadCall" : Str) = "BadText")) (decide (("BadText" : Str) = "BadText"))) := by
  subst hC
  rw [show fieldOf "BadText" = "place" by decide +kernel] at hno hx
  obtain ⟨A_BadLead, g_BadLead, k_BadLead⟩ := KK.kd "BadLead" (by simp)
  obtain ⟨A_BadSpare, g_BadSpare, k_BadSpare⟩ := KK.kd "BadSpare" (by simp)
  obtain ⟨A_BadMove, g_BadMove, k_BadMove⟩ := KK.kd "BadMove" (by simp)
  obtain ⟨A_NoWay, g_NoWay, k_NoWay⟩ := KK.kd "NoWay" (by simp)
  obtain ⟨A_BadWord, g_BadWord, k_BadWord⟩ := KK.kd "BadWord" (by simp)
  obtain ⟨A_BadHouse, g_BadHouse, k_BadHouse⟩ := KK.kd "BadHouse" (by simp)
  obtain ⟨A_BadCall, g_BadCall, k_BadCall⟩ := KK.kd "BadCall" (by simp)
  obtain ⟨A_BadText, g_BadText, k_BadText⟩ := KK.kd "BadText" (by simp)
  exact
  (mss_cons (ms_set sc__law_kind.nd (i := 2) rfl (by first | exact Or.inl rfl | exact Or.inr rfl) (MF.me (mf_lst (ma_cons (me_isED 1 F rfl KK.ex hz hf hx rfl (me_var 1) rfl g_BadLead k_BadLead) (ma_cons (me_isED 1 F rfl KK.ex hz hf hx rfl (me_var 1) rfl g_BadSpare k_BadSpare) (ma_cons (me_isED 1 F rfl KK.ex hz hf hx rfl (me_var 1) rfl g_BadMove k_BadMove) (ma_cons (me_isED 1 F rfl KK.ex hz hf hx rfl (me_var 1) rfl g_NoWay k_NoWay) ma_nil)))))))
  (mss_cons (ms_setF sc__law_kind.nd (i := 2) rfl (by first | exact Or.inl rfl | exact Or.inr rfl) (mf_cat (me_var 2) (MF.me (mf_lst (ma_cons (me_isED 1 F rfl KK.ex hz hf hx rfl (me_var 1) rfl g_BadWord k_BadWord) (ma_cons (me_isED 1 F rfl KK.ex hz hf hx rfl (me_var 1) rfl g_BadHouse k_BadHouse) (ma_cons (me_isED 1 F rfl KK.ex hz hf hx rfl (me_var 1) rfl g_BadCall k_BadCall) ma_nil)))))))
  (mss_cons (ms_append 2 (h := ps_expr (pe_bm PySem.F.plainAttrs_list PySem.F.slot_list_append PySem.F.type_list_append mt_append (pv 2) (pa_cons (me_isED 1 F rfl KK.ex hz hf hx rfl (me_var 1) rfl g_BadText k_BadText) pa_nil))))
  (mss_cons (ms_set sc__law_kind.nd (i := 3) rfl (by first | exact Or.inl rfl | exact Or.inr rfl) (MF.me (mf_lst (ma_cons me_str (ma_cons me_str (ma_cons me_str (ma_cons me_str (ma_cons me_str (ma_cons me_str (ma_cons me_str (ma_cons me_str ma_nil)))))))))))
  (mss_cons (ms_if (mt_w (mw_or (mt_ne rfl hun (me_count rfl (pe_bm PySem.F.plainAttrs_list PySem.F.slot_list_count PySem.F.type_list_count mt_countF (me_var 2) (pa_cons me_bl pa_nil))) me_int) (mw_or1 (mt_not (mt_val (me_isEDT (T := "ValueError") 1 F rfl KK.ex hz hf hx rfl (me_var 1) rfl zVE (by decide +kernel) KK.ve)))))) (mss_one (ms_ret me_str)) mss_nil)
  (mss_cons (ms_setL sc__law_kind.nd (i := 4) rfl (by first | exact Or.inl rfl | exact Or.inr rfl) (me_ix rfl (me_var 3) (me_index rfl (pe_bm PySem.F.plainAttrs_list PySem.F.slot_list_index PySem.F.type_list_index mt_index (me_var 2) (pa_cons me_bl pa_nil)))))
  (mss_cons (ms_if (mt_eq rfl hun (me_var 4) me_str) (mss_one (ms_ret (me_tup (ma_cons (me_var 4) (ma_cons me_no ma_nil))))) mss_nil)
  (mss_one (ms_ret (me_if (mt_eq rfl hun (me_var 4) me_str) (me_tup (ma_cons (me_var 4) (ma_cons (me_fldE 1 XF hno hz hf hx (me_var 1)) ma_nil))) (me_var 4)))))))))))
theorem gives_kind {X : Cx} {C : C3} {ws : List Str} (hK : X.K = C.K) (F : Free X.mg) (zVE : X.mg "ValueError" = none) (gM : ∃ A, X.mg "MoveError" = some (.ref A)) {g : Addr} {cdg : Value} {q : Str} (hun : ∀ s : Shared, (X.A.deeper (envOfC "_law_kind" (defScope s__law_kind) s.heap.objs.size g cdg)).units + 64 < cLine) (hw : ∀ w ∈ ws, w ∈ plainW) :
    LamX.GivesTo X N__law_kind "_law_kind" (defScope s__law_kind) g cdg (defBody s__law_kind) "_law_work" q (TTk C X.mg ws) := by
  obtain ⟨M, gM⟩ := gM
  intro f c' s H Q tl act hc h
  refine ⟨_, pss_one (ps_try_as (X := (cxOf C8.CX0 X.prog X.w X.K X.mg X.base N__law_kind "_law_kind" (defScope s__law_kind) g cdg X.A X.stack s H C8.E0).nox) (i := 1) (c := .ref M) (Wout := fun _ _ _ _ => False)
      (ts := fun a cls d En σ H => ∃ (w : Str) (D : Addr) (G0 B : Hp), cls = .ref D ∧ d = none ∧ Kinds X.K X.mg D w ∧ liftS C X.mg E0 false B G0 (m__law_kind a (decide (("BadLead" : Str) = w)) (decide (("BadSpare" : Str) = w)) (decide (("BadMove" : Str) = w)) (decide (("NoWay" : Str) = w)) (decide (("BadWord" : Str) = w)) (decide (("BadHouse" : Str) = w)) (decide (("BadCall" : Str) = w)) (decide (("BadText" : Str) = w))) En σ H)
      (tb := fun W D σ H => ∃ Ech : XK, (∀ cls d σ' H', σ'.length = 5 → Ech cls d H' → W cls d σ' H') ∧ σ[0]? = some (some (.ref f)) ∧ H c' = some (LamX.CodeO c' q) ∧ tl Ech H D.rt)
      rfl rfl sc__law_kind.nd rfl rfl ⟨rfl, by decide, .inl gM⟩ takes0 (fun W pn xe tk _ => ?_) (fun a oe cls d pn hz hf => ?_)), ?_⟩
  · refine ⟨fun pins s' σ H' D I h' => ?_⟩
    obtain ⟨Ech, hW, h1, h2, h3⟩ := h'
    have tk2 : Takes ((cxOf C8.CX0 X.prog X.w X.K X.mg X.base N__law_kind "_law_kind" (defScope s__law_kind) g cdg X.A X.stack s H C8.E0).nox.tr pn xe) (fun cls d σ H => σ.length = 5 → W cls d σ H) := fun u s2 ⟨a, B, sI, pins2, σ2, H2, cls, d, e, J, nb, up, sky, na, os, ag, ww⟩ =>
      tk u s2 ⟨a, B, sI, pins2, σ2, H2, cls, d, e, J, nb, up, sky, na, os, ag, ww J.len⟩
    have hq : PSs ((cxOf C8.CX0 X.prog X.w X.K X.mg X.base N__law_kind "_law_kind" (defScope s__law_kind) g cdg X.A X.stack s H C8.E0).nox.tr pn xe) (tryOf ((defBody s__law_kind).head!)) _ := pss_one (ps_ret (act (fun cls d σ H => σ.length = 5 → W cls d σ H) pn xe Ech _ _ tk2 (fun cls d σ' H' k l => hW cls d σ' H' l k)))
    exact hq.run pins s' σ H' D I ⟨h1, h2, h3⟩
  · refine ⟨fun pins s' σ H' D I h' => ?_⟩
    obtain ⟨w, D2, G0, B, rfl, rfl, KK, h'⟩ := h'
    exact ((der_kind F zVE KK hz hf C hK.symm B X.A X.stack s H (hun s)) G0).run pins s' σ H' D I h'
  · refine ⟨_, fun cls d σ' H' hl hx => ?_, rfl, hc, h⟩
    obtain ⟨w, G, D, ok, hwm, e1, e2, KK, pv⟩ := hx
    rw [← hK] at KK
    obtain ⟨M2, g2, hm⟩ := KK.mv
    rw [gM] at g2
    cases g2
    refine ⟨true, by rw [e1]; exact hm, fun _ a na => ⟨w, D, G, nT H', e1, e2, KK, [none, some (.sh (.ref a)), none, none, none], G, _, ⟨⟨ok, Same.refl _, fun b o z z' => absurd (z.symm.trans z') (fun y => nomatch y), fun b o _ z => z⟩, by rw [List.length_set, hl]; exact Nat.le_refl _, fun i y z => ?_, fun i p y z => ?_, fun i j p y y' z _ => ?_⟩, kind_any a w (hw w hwm) { nx := fun _ => False, rt := fun y => y = .str w } rfl, ?_⟩, fun z => nomatch z⟩
    · match i, z with
      | 1, z =>
        cases z
        exact ⟨_, by rw [List.getElem?_set_self (by rw [hl]; decide)], .ref a⟩
      | i + 5, z => simp at z
    · match i, z with
      | i + 5, z => simp at z
    · match i, z with
      | i + 5, z => simp at z
    · exact ⟨fun _ _ _ _ _ k => k.elim, fun _ _ _ _ _ k => k.elim, fun _ _ _ _ _ k => k.elim, fun y v H2 G2 z rr k => pv y v H2 G2 ⟨z.keep, z.g0, z.fr⟩ z.ok rr k, fun _ _ _ _ k => k.elim⟩
theorem gives_kindN {X : Cx} {C : C3} {ws wn : List Str} (hK : X.K = C.K) (F : Free X.mg) (zVE : X.mg "ValueError" = none) (gM : ∃ A, X.mg "MoveError" = some (.ref A)) {g : Addr} {cdg : Value} {q : Str} (hun : ∀ s : Shared, (X.A.deeper (envOfC "_law_kind" (defScope s__law_kind) s.heap.objs.size g cdg)).units + 64 < cLine) (hw : ∀ w ∈ ws, w ∈ plainW) (hwn : ∀ w ∈ wn, w = "BadMove" ∨ w = "BadText") :
    LamX.GivesTo X N__law_kind "_law_kind" (defScope s__law_kind) g cdg (defBody s__law_kind) "_law_work" q (TTn C X.mg ws wn) := by
  obtain ⟨M, gM⟩ := gM
  intro f c' s H Q tl act hc h
  refine ⟨_, pss_one (ps_try_as (X := (cxOf C8.CX0 X.prog X.w X.K X.mg X.base N__law_kind "_law_kind" (defScope s__law_kind) g cdg X.A X.stack s H C8.E0).nox) (i := 1) (c := .ref M) (Wout := fun _ _ _ _ => False)
      (ts := fun a cls d En σ H => (∃ (w : Str) (D : Addr) (G0 B : Hp), cls = .ref D ∧ d = none ∧ Kinds X.K X.mg D w ∧ liftS C X.mg E0 false B G0 (m__law_kind a (decide (("BadLead" : Str) = w)) (decide (("BadSpare" : Str) = w)) (decide (("BadMove" : Str) = w)) (decide (("NoWay" : Str) = w)) (decide (("BadWord" : Str) = w)) (decide (("BadHouse" : Str) = w)) (decide (("BadCall" : Str) = w)) (decide (("BadText" : Str) = w))) En σ H) ∨
        ∃ (D dd : Addr) (n : Int) (G0 B : Hp), cls = .ref D ∧ d = some dd ∧ ((Kinds X.K X.mg D "BadMove" ∧ XfC X.K D ∧ PySem.W.findIn X.K (.ref D) (fieldOf "BadMove") = some none ∧ liftS { C with fix := (dd, .xd [(fieldOf "BadMove", V.int n)]) :: C.fix } X.mg E0 false B G0 (m__law_kindM a n (decide (("BadLead" : Str) = "BadMove")) (decide (("BadSpare" : Str) = "BadMove")) (decide (("BadMove" : Str) = "BadMove")) (decide (("NoWay" : Str) = "BadMove")) (decide (("BadWord" : Str) = "BadMove")) (decide (("BadHouse" : Str) = "BadMove")) (decide (("BadCall" : Str) = "BadMove")) (decide (("BadText" : Str) = "BadMove"))) En σ H) ∨
          (Kinds X.K X.mg D "BadText" ∧ XfC X.K D ∧ PySem.W.findIn X.K (.ref D) (fieldOf "BadText") = some none ∧ liftS { C with fix := (dd, .xd [(fieldOf "BadText", V.int n)]) :: C.fix } X.mg E0 false B G0 (m__law_kindT a n (decide (("BadLead" : Str) = "BadText")) (decide (("BadSpare" : Str) = "BadText")) (decide (("BadMove" : Str) = "BadText")) (decide (("NoWay" : Str) = "BadText")) (decide (("BadWord" : Str) = "BadText")) (decide (("BadHouse" : Str) = "BadText")) (decide (("BadCall" : Str) = "BadText")) (decide (("BadText" : Str) = "BadText"))) En σ H)))
      (tb := fun W D σ H => ∃ Ech : XK, (∀ cls d σ' H', σ'.length = 5 → Ech cls d H' → W cls d σ' H') ∧ σ[0]? = some (some (.ref f)) ∧ H c' = some (LamX.CodeO c' q) ∧ tl Ech H D.rt)
      rfl rfl sc__law_kind.nd rfl rfl ⟨rfl, by decide, .inl gM⟩ takes0 (fun W pn xe tk _ => ?_) (fun a oe cls d pn hz hf => ?_)), ?_⟩
  · refine ⟨fun pins s' σ H' D I h' => ?_⟩
    obtain ⟨Ech, hW, h1, h2, h3⟩ := h'
    have tk2 : Takes ((cxOf C8.CX0 X.prog X.w X.K X.mg X.base N__law_kind "_law_kind" (defScope s__law_kind) g cdg X.A X.stack s H C8.E0).nox.tr pn xe) (fun cls d σ H => σ.length = 5 → W cls d σ H) := fun u s2 ⟨a, B, sI, pins2, σ2, H2, cls, d, e, J, nb, up, sky, na, os, ag, ww⟩ =>
      tk u s2 ⟨a, B, sI, pins2, σ2, H2, cls, d, e, J, nb, up, sky, na, os, ag, ww J.len⟩
    have hq : PSs ((cxOf C8.CX0 X.prog X.w X.K X.mg X.base N__law_kind "_law_kind" (defScope s__law_kind) g cdg X.A X.stack s H C8.E0).nox.tr pn xe) (tryOf ((defBody s__law_kind).head!)) _ := pss_one (ps_ret (act (fun cls d σ H => σ.length = 5 → W cls d σ H) pn xe Ech _ _ tk2 (fun cls d σ' H' k l => hW cls d σ' H' l k)))
    exact hq.run pins s' σ H' D I ⟨h1, h2, h3⟩
  · refine ⟨fun pins s' σ H' D I h' => ?_⟩
    rcases h' with ⟨w, D2, G0, B, rfl, rfl, KK, h'⟩ | ⟨D2, dd, n, G0, B, rfl, rfl, ⟨KK, XF, hno, h'⟩ | ⟨KK, XF, hno, h'⟩⟩
    · exact ((der_kind F zVE KK hz hf C hK.symm B X.A X.stack s H (hun s)) G0).run pins s' σ H' D I h'
    · exact ((der_kindM F zVE KK XF hno hz hf { C with fix := (dd, .xd [(fieldOf "BadMove", V.int n)]) :: C.fix } hK.symm List.mem_cons_self B X.A X.stack s H (hun s)) G0).run pins s' σ H' D I h'
    · exact ((der_kindT F zVE KK XF hno hz hf { C with fix := (dd, .xd [(fieldOf "BadText", V.int n)]) :: C.fix } hK.symm List.mem_cons_self B X.A X.stack s H (hun s)) G0).run pins s' σ H' D I h'
  · refine ⟨_, fun cls d σ' H' hl hx => ?_, rfl, hc, h⟩
    rcases hx with ⟨w, G, D, ok, hwm, e1, e2, KK, pv⟩ | ⟨w, n, G, D, dd, ok, hwm, e1, e2, ed, eg, KK, XF, hno, pv⟩
    · rw [← hK] at KK
      obtain ⟨M2, g2, hm⟩ := KK.mv
      rw [gM] at g2
      cases g2
      refine ⟨true, by rw [e1]; exact hm, fun _ a na => .inl ⟨w, D, G, nT H', e1, e2, KK, [none, some (.sh (.ref a)), none, none, none], G, _, ⟨⟨ok, Same.refl _, fun b o z z' => absurd (z.symm.trans z') (fun y => nomatch y), fun b o _ z => z⟩, by rw [List.length_set, hl]; exact Nat.le_refl _, fun i y z => ?_, fun i p y z => ?_, fun i j p y y' z _ => ?_⟩, kind_any a w (hw w hwm) { nx := fun _ => False, rt := fun y => y = .str w } rfl, ?_⟩, fun z => nomatch z⟩
      · match i, z with
        | 1, z =>
          cases z
          exact ⟨_, by rw [List.getElem?_set_self (by rw [hl]; decide)], .ref a⟩
        | i + 5, z => simp at z
      · match i, z with
        | i + 5, z => simp at z
      · match i, z with
        | i + 5, z => simp at z
      · exact ⟨fun _ _ _ _ _ k => k.elim, fun _ _ _ _ _ k => k.elim, fun _ _ _ _ _ k => k.elim, fun y v H2 G2 z rr k => pv y v H2 G2 ⟨z.keep, z.g0, z.fr⟩ z.ok rr k, fun _ _ _ _ k => k.elim⟩
    rw [← hK] at KK XF hno
    obtain ⟨M2, g2, hm⟩ := KK.mv
    rw [gM] at g2
    cases g2
    rcases hwn w hwm with rfl | rfl
    · refine ⟨true, by rw [e1]; exact hm, fun _ a na => .inr ⟨D, dd, n, G, nT H', e1, e2, .inl ⟨KK, XF, hno, [none, some (.sh (.ref a)), none, none, none], G, _, ⟨⟨fix_ok ok ed eg, Same.refl _, fun b o z z' => absurd (z.symm.trans z') (fun y => nomatch y), fun b o _ z => z⟩, by rw [List.length_set, hl]; exact Nat.le_refl _, fun i y z => ?_, fun i p y z => ?_, fun i j p y y' z _ => ?_⟩, kind_BadMove a n { nx := fun _ => False, rt := fun y => y = .tup [.str "BadMove", .int n] } rfl, ?_⟩⟩, fun z => nomatch z⟩
      · match i, z with
        | 1, z =>
          cases z
          exact ⟨_, by rw [List.getElem?_set_self (by rw [hl]; decide)], .ref a⟩
        | i + 5, z => simp at z
      · match i, z with
        | i + 5, z => simp at z
      · match i, z with
        | i + 5, z => simp at z
      · exact ⟨fun _ _ _ _ _ k => k.elim, fun _ _ _ _ _ k => k.elim, fun _ _ _ _ _ k => k.elim, fun y v H2 G2 z rr k => pv y v H2 G2 ⟨fix_nx z.ok z.keep ed, z.g0, z.fr⟩ (unfix_ok z.ok) rr k, fun _ _ _ _ k => k.elim⟩
    · refine ⟨true, by rw [e1]; exact hm, fun _ a na => .inr ⟨D, dd, n, G, nT H', e1, e2, .inr ⟨KK, XF, hno, [none, some (.sh (.ref a)), none, none, none], G, _, ⟨⟨fix_ok ok ed eg, Same.refl _, fun b o z z' => absurd (z.symm.trans z') (fun y => nomatch y), fun b o _ z => z⟩, by rw [List.length_set, hl]; exact Nat.le_refl _, fun i y z => ?_, fun i p y z => ?_, fun i j p y y' z _ => ?_⟩, kind_BadText a n { nx := fun _ => False, rt := fun y => y = .tup [.str "BadText", .int n] } rfl, ?_⟩⟩, fun z => nomatch z⟩
      · match i, z with
        | 1, z =>
          cases z
          exact ⟨_, by rw [List.getElem?_set_self (by rw [hl]; decide)], .ref a⟩
        | i + 5, z => simp at z
      · match i, z with
        | i + 5, z => simp at z
      · match i, z with
        | i + 5, z => simp at z
      · exact ⟨fun _ _ _ _ _ k => k.elim, fun _ _ _ _ _ k => k.elim, fun _ _ _ _ _ k => k.elim, fun y v H2 G2 z rr k => pv y v H2 G2 ⟨fix_nx z.ok z.keep ed, z.g0, z.fr⟩ (unfix_ok z.ok) rr k, fun _ _ _ _ k => k.elim⟩
theorem fn_no {P : Program} {w : World} {K : PySem.W.Frag} {mg : Str → Option Value} {base : Heap} {x qual : Str} {st : Stmt} {f : Addr} {fd : FuncData} {N ps : List Str} {k n : Nat} {fr : Bool} {spec : Spec} (F : Fun K x qual st f fd) (S : FnScope N ps (defScope st)) (no : ∀ sa ds Kd KX, spec sa ds Kd KX → False) :
    FnOk P w K mg base (L2.CX P w) (k + 1) f fd ps (LSp K mg fr n spec) := by
  refine F.okX S (fun vs H Q E h => ?_) (fun cdv A outer s H vs Q E hr h => ?_)
  · obtain ⟨st, fix, tabs, ds, G, Kd, KX, ok, r, hl, h, _⟩ := h
    exact (no _ _ _ _ h).elim
  · obtain ⟨st, fix, tabs, ds, G, Kd, KX, ok, r, hl, h, _⟩ := h
    exact (no _ _ _ _ h).elim
abbrev s__law_start : Stmt := topS 32
abbrev N__law_start : List Str := ["_law_script", "_law_mixed", "_law_cell"]
theorem sc__law_start : FnScope N__law_start ["_law_script"] (defScope s__law_start) := ⟨rfl, rfl, rfl, by decide +kernel, rfl, by decide +kernel, by decide +kernel⟩
theorem fn__law_start {P : Program} {w : World} {K : PySem.W.Frag} {mg : Str → Option Value} {base : Heap} {f : Addr} {fd : FuncData} {k : Nat} (G : Fun K "_law_start" "_law_start" s__law_start f fd) : FnOk P w K mg base (L2.CX P w) (k + 1) f fd ["_law_script"] (spStart K) := by
  refine G.okX sc__law_start (fun vs H Q E h => ?_) (fun cdv A outer s H vs Q E hr h => ?_)
  · obtain ⟨a, ns, rfl, _⟩ := h
    rfl
  · obtain ⟨a, ns, rfl, hS, q⟩ := h
    refine ⟨_, pss_cons (ps_set (i := 1) sc__law_start.nd rfl (.inl rfl) pe_int) (pss_cons (ps_for (passes_of rfl) rfl (pi_list (pv 0)) (pg_name (i := 2) sc__law_start.nd rfl (.inl rfl))
      (pss_one (ps_set (i := 1) sc__law_start.nd rfl (.inl rfl) (pe_op op_mod (pe_op op_add (pe_op op_add (pe_op op_mul (pv 1) pe_int) (pv 2)) pe_int) pe_int))))
      (pss_one (ps_ret (pe_lst (pa_cons (pv 0) (pa_cons pe_int (pa_cons (pv 1) (pa_cons pe_int pa_nil)))))))), ?_⟩
    exact start_ok (Q := Q) hS q
abbrev s__law_drawn : Stmt := topS 33
abbrev N__law_drawn : List Str := ["_law_state", "_law_many", "_law_found", "_law_cell"]
theorem sc__law_drawn : FnScope N__law_drawn ["_law_state", "_law_many"] (defScope s__law_drawn) := ⟨rfl, rfl, rfl, by decide +kernel, rfl, by decide +kernel, by decide +kernel⟩
theorem fn__law_drawn {P : Program} {w : World} {K : PySem.W.Frag} {mg : Str → Option Value} {base : Heap} {f : Addr} {fd : FuncData} {k : Nat} (F : Free mg) (G : Fun K "_law_drawn" "_law_drawn" s__law_drawn f fd) : FnOk P w K mg base (L2.CX P w) (k + 1) f fd ["_law_state", "_law_many"] (LSp K mg false 2 sp__law_drawn) := by
  refine G.okX sc__law_drawn (fun vs H Q E h => ?_) (fun cdv A outer s H vs Q E hr h => ?_)
  · obtain ⟨st, fix, tabs, ds, G, Kd, KX, ok, r, hl, _⟩ := h
    rw [← r.length, hl]
    rfl
  · obtain ⟨st, fix, tabs, ds, G, Kd, KX, ok, r, hl, hs, pv', px⟩ := h
    unfold sp__law_drawn at hs
    obtain ⟨a, n, e1, e2, h0, h1, q⟩ := hs
    subst e2
    cases r with
    | cons r1 r2 =>
      cases r2 with
      | cons r2 r3 =>
        cases r3
        cases r1
        cases r2
        obtain ⟨⟨a', sa, ns⟩, rfl, rfl⟩ : ∃ p, st = some p ∧ p.1 = a := by
          cases st with
          | none => cases e1
          | some p => exact ⟨p, rfl, Option.some.inj e1⟩
        refine ⟨_, pss_cons (ps_if (pt_cmpR op_gt (pe_ix ix_list (pv 0) pe_int (fun _ _ => rfl)) pe_int (nomark _)) (pss_cons (ps_set (i := 2) sc__law_drawn.nd rfl (.inl rfl) (pe_op op_mod (pe_ix ix_list (pv 0) pe_int (fun _ _ => rfl)) (pv 1))) (pss_cons (ps_asg (pe_op op_fdivW (pe_ix ix_list (pv 0) pe_int (fun _ _ => rfl)) (pv 1)) (pg_sub (pv 0) pe_int set_list (by intro _; rfl))) (pss_one (ps_ret (pv 2))))) pss_nil)
          (pss_cons (ps_asg (pe_op op_add (pe_ix ix_list (pv 0) pe_int (fun _ _ => rfl)) pe_int) (pg_sub (pv 0) pe_int set_list (by intro _; rfl)))
          (pss_cons (ps_if (pt_cmpR op_le (pe_ix ix_list (pv 0) pe_int (fun _ _ => rfl)) (pe_callB call_len_seq (by rfl) F.len PySem.boot_len (pa_cons (pe_ix ix_list (pv 0) pe_int (fun _ _ => rfl)) pa_nil)) (nomark _))
            (pss_cons (ps_set (i := 3) sc__law_drawn.nd rfl (.inl rfl) (pe_ix ix_list (pe_ix ix_list (pv 0) pe_int (fun _ _ => rfl)) (pe_op op_sub (pe_ix ix_list (pv 0) pe_int (fun _ _ => rfl)) pe_int) (fun _ _ => rfl))) (pss_cons (ps_asg (pe_ifExp (pt_cmpR op_ge (pv 3) (pe_op op_pow pe_int pe_int) (nomark _)) (pe_op op_fdivW (pv 3) (pv 1)) pe_int) (pg_sub (pv 0) pe_int set_list (by intro _; rfl))) (pss_one (ps_ret (pe_op op_mod (pv 3) (pv 1)))))) pss_nil)
          (pss_cons (ps_asg (pe_op op_mod (pe_op op_add (pe_op op_mul (pe_ix ix_list (pv 0) pe_int (fun _ _ => rfl)) pe_int) pe_int) pe_int) (pg_sub (pv 0) pe_int set_list (by intro _; rfl)))
          (pss_one (ps_ret (pe_op op_mod (pe_op op_fdivW (pe_ix ix_list (pv 0) pe_int (fun _ _ => rfl)) pe_int) (pv 1))))))), ?_⟩
        exact drawn_ok (Q := Q) ok h0 h1 fun k H' k0 k1 o s => pv' _ _ _ _ s o (.int k) (q k k0 k1)
/-! ### _law_order -/
abbrev s__law_order : Stmt := topS 35
theorem sc__law_order : FnScope N__law_order ps__law_order (defScope s__law_order) := ⟨rfl, rfl, rfl, by decide +kernel, rfl, by decide +kernel, by decide +kernel⟩
theorem der__law_order {P : Program} {w : World} {K : PySem.W.Frag} {mg : Str → Option Value} {base : Heap} (F : Free mg) (d__law_drawn : Df P w K mg base "_law_drawn" 1 false 2 sp__law_drawn) {f : Addr} (s0 : Option (Addr × Addr × List Int)) (fix : List (Addr × HO)) (tabs : List (Addr × Str)) (B : Hp) (cdv : Value) (A : Around) (outer : List Env) (s : Shared) (H : Hp) (E : XK)
    (hr : Room 1 (A.deeper (envOfC "_law_order" (defScope s__law_order) s.heap.objs.size f cdv))) :
    MSs (cxOf (L2.CX P w) P w K mg base N__law_order "_law_order" (defScope s__law_order) f cdv A outer s H E) ⟨K, s0, fix, tabs⟩ E false B (defBody s__law_order) (m__law_order (s0.map (·.1))) := by
  have hpx : Passes (L2.CX P w) (cxOf (L2.CX P w) P w K mg base N__law_order "_law_order" (defScope s__law_order) f cdv A outer s H E) E := passes_call (takes_of rfl rfl rfl rfl) (fun _ _ _ _ h => h)
  exact
  (mss_cons (ms_setF sc__law_order.nd (i := 2) rfl (by first | exact Or.inl rfl | exact Or.inr rfl) (mf_list F rfl rfl (ma_cons (me_var 1) ma_nil)))
  (mss_cons (ms_setF sc__law_order.nd (i := 3) rfl (by first | exact Or.inl rfl | exact Or.inr rfl) (mf_lst ma_nil))
  (mss_cons (ms_while (passes_of rfl) (mt_ne rfl hr.units (me_var 2) (MF.me (mf_lst ma_nil))) (mss_one (ms_appPop 3 2 (by decide) (h := ps_expr (pe_bm PySem.F.plainAttrs_list PySem.F.slot_list_append PySem.F.type_list_append mt_append (pv 3) (pa_cons (pe_bm PySem.F.plainAttrs_list PySem.F.slot_list_pop PySem.F.type_list_pop mt_popAt (pv 2) (pa_cons (me_call d__law_drawn (hr.mono (by first | decide | omega)) rfl hpx rfl (ma_cons (me_var 0) (ma_cons (me_len F rfl rfl (ma_cons (me_var 2) ma_nil)) ma_nil))) pa_nil)) pa_nil))))))
  (mss_one (ms_ret (me_var 3))))))
theorem fn__law_order {P : Program} {w : World} {K : PySem.W.Frag} {mg : Str → Option Value} {base : Heap} (F : Free mg) (d__law_drawn : Df P w K mg base "_law_drawn" 1 false 2 sp__law_drawn) {f : Addr} {fd : FuncData} (G : Fun K "_law_order" "_law_order" s__law_order f fd) : FnOk P w K mg base (L2.CX P w) 2 f fd ps__law_order (LSp K mg false 2 sp__law_order) :=
  fn_l3 (k := 1) G sc__law_order rfl m__law_order (fun s0 fix tabs B cdv A outer s H E hr => der__law_order F d__law_drawn s0 fix tabs B cdv A outer s H E hr) pu__law_order
/-! ### _law_lead -/
abbrev s__law_lead : Stmt := topS 36
theorem sc__law_lead : FnScope N__law_lead ps__law_lead (defScope s__law_lead) := ⟨rfl, rfl, rfl, by decide +kernel, rfl, by decide +kernel, by decide +kernel⟩
theorem der__law_lead {P : Program} {w : World} {K : PySem.W.Frag} {mg : Str → Option Value} {base : Heap} (F : Free mg) (d__law_drawn : Df P w K mg base "_law_drawn" 1 false 2 sp__law_drawn) (d__law_order : Df P w K mg base "_law_order" 2 false 2 sp__law_order) {f : Addr} (s0 : Option (Addr × Addr × List Int)) (fix : List (Addr × HO)) (tabs : List (Addr × Str)) (B : Hp) (cdv : Value) (A : Around) (outer : List Env) (s : Shared) (H : Hp) (E : XK)
    (hr : Room 2 (A.deeper (envOfC "_law_lead" (defScope s__law_lead) s.heap.objs.size f cdv))) :
    MSs (cxOf (L2.CX P w) P w K mg base N__law_lead "_law_lead" (defScope s__law_lead) f cdv A outer s H E) ⟨K, s0, fix, tabs⟩ E false B (defBody s__law_lead) (m__law_lead (s0.map (·.1))) := by
  have hpx : Passes (L2.CX P w) (cxOf (L2.CX P w) P w K mg base N__law_lead "_law_lead" (defScope s__law_lead) f cdv A outer s H E) E := passes_call (takes_of rfl rfl rfl rfl) (fun _ _ _ _ h => h)
  exact
  (mss_cons (ms_setD sc__law_lead.nd (i := 2) rfl (by first | exact Or.inl rfl | exact Or.inr rfl))
  (mss_cons (ms_set sc__law_lead.nd (i := 3) rfl (by first | exact Or.inl rfl | exact Or.inr rfl) (me_add rfl me_int (me_call d__law_drawn (hr.mono (by first | decide | omega)) rfl hpx rfl (ma_cons (me_var 0) (ma_cons me_int ma_nil)))))
  (mss_cons (ms_for (t := .nm 4) (passes_of rfl) rfl rfl (mi_range rfl F.range (ma_cons (me_var 1) ma_nil)) (pg_nm sc__law_lead.nd (i := 4) rfl (by first | exact Or.inl rfl | exact Or.inr rfl)) (mss_one (ms_if (mt_eq rfl hr.units (me_call d__law_drawn (hr.mono (by first | decide | omega)) rfl hpx rfl (ma_cons (me_var 0) (ma_cons (me_var 3) ma_nil))) me_int) (mss_one (ms_setK 2 (hu_of hr) (hi := (me_var 4)) (he := (me_call d__law_drawn (hr.mono (by first | decide | omega)) rfl hpx rfl (ma_cons (me_var 0) (ma_cons (me_var 1) ma_nil)))))) mss_nil)))
  (mss_cons (ms_if (mt_eq rfl hr.units (me_call d__law_drawn (hr.mono (by first | decide | omega)) rfl hpx rfl (ma_cons (me_var 0) (ma_cons me_int ma_nil))) me_int) (mss_cons (ms_set sc__law_lead.nd (i := 5) rfl (by first | exact Or.inl rfl | exact Or.inr rfl) (me_call d__law_order (hr.mono (by first | decide | omega)) rfl hpx rfl (ma_cons (me_var 0) (ma_cons (MF.me (mf_listRange F rfl rfl rfl (me_var 1))) ma_nil))))
    (mss_cons (ms_set sc__law_lead.nd (i := 5) rfl (by first | exact Or.inl rfl | exact Or.inr rfl) (me_sl rfl (me_var 5) mo_none (mo_some (me_call d__law_drawn (hr.mono (by first | decide | omega)) rfl hpx rfl (ma_cons (me_var 0) (ma_cons (me_add rfl (me_var 1) me_int) ma_nil))))))
    (mss_cons (ms_if (mt_eq rfl hr.units (me_call d__law_drawn (hr.mono (by first | decide | omega)) rfl hpx rfl (ma_cons (me_var 0) (ma_cons me_int ma_nil))) me_int) (mss_one (ms_setD sc__law_lead.nd (i := 2) rfl (by first | exact Or.inl rfl | exact Or.inr rfl))) mss_nil)
    (mss_cons (ms_set sc__law_lead.nd (i := 6) rfl (by first | exact Or.inl rfl | exact Or.inr rfl) (me_call d__law_drawn (hr.mono (by first | decide | omega)) rfl hpx rfl (ma_cons (me_var 0) (ma_cons (me_add rfl (me_len F rfl rfl (ma_cons (me_var 5) ma_nil)) me_int) ma_nil))))
    (mss_one (ms_for (t := .nm 7) (passes_of rfl) rfl rfl (mi_any rfl (MF.me (mf_lst (ma_cons (me_sl rfl (me_var 5) mo_none (mo_some (me_var 6))) (ma_cons (me_sl rfl (me_var 5) (mo_some (me_var 6)) mo_none) ma_nil))))) (pg_nm sc__law_lead.nd (i := 7) rfl (by first | exact Or.inl rfl | exact Or.inr rfl)) (mss_one (ms_for (t := .nm 8) (passes_of rfl) rfl rfl (mi_range rfl F.range (ma_cons (me_len F rfl rfl (ma_cons (me_var 7) ma_nil)) ma_nil)) (pg_nm sc__law_lead.nd (i := 8) rfl (by first | exact Or.inl rfl | exact Or.inr rfl)) (mss_one (ms_setK 2 (hu_of hr) (hi := (me_ix rfl (me_var 7) (me_var 8))) (he := (me_ix rfl (me_var 7) (me_sub (me_var 8) me_int))))))))))))) mss_nil)
  (mss_one (ms_frzD 2 (ms_ret (MF.me (mf_lc (own := [("_law_goal", 9)]) (t := (.nm 9)) rfl rfl sc__law_lead.nd (mi_any rfl (me_call d__law_order (hr.mono (by first | decide | omega)) rfl hpx rfl (ma_cons (me_var 0) (ma_cons (MF.me (mf_sorted F rfl rfl rfl (ma_cons (me_var 2) ma_nil))) ma_nil)))) (blkOk_by (N := N__law_lead) (sc := defScope s__law_lead) (by decide +kernel)) (by decide) (fun _ _ _ _ _ => (pg_nm sc__law_lead.nd (i := 9) rfl (by first | exact Or.inl rfl | exact Or.inr rfl))) (fun _ _ _ _ _ => mts_nil) (fun _ _ _ _ _ => (me_tup (ma_cons (me_var 9) (ma_cons (me_getK (hu_of hr) (me_var 2) (me_var 9)) ma_nil)))))))))))))
theorem fn__law_lead {P : Program} {w : World} {K : PySem.W.Frag} {mg : Str → Option Value} {base : Heap} (F : Free mg) (d__law_drawn : Df P w K mg base "_law_drawn" 1 false 2 sp__law_drawn) (d__law_order : Df P w K mg base "_law_order" 2 false 2 sp__law_order) {f : Addr} {fd : FuncData} (G : Fun K "_law_lead" "_law_lead" s__law_lead f fd) : FnOk P w K mg base (L2.CX P w) 3 f fd ps__law_lead (LSp K mg false 2 sp__law_lead) :=
  fn_l3 (k := 2) G sc__law_lead rfl m__law_lead (fun s0 fix tabs B cdv A outer s H E hr => der__law_lead F d__law_drawn d__law_order s0 fix tabs B cdv A outer s H E hr) pu__law_lead
/-! ### _law_known -/
abbrev s__law_known : Stmt := topS 40
theorem sc__law_known : FnScope N__law_known ps__law_known (defScope s__law_known) := ⟨rfl, rfl, rfl, by decide +kernel, rfl, by decide +kernel, by decide +kernel⟩
theorem der__law_known {P : Program} {w : World} {K : PySem.W.Frag} {mg : Str → Option Value} {base : Heap} (F : Free mg) {f : Addr} (s0 : Option (Addr × Addr × List Int)) (fix : List (Addr × HO)) (tabs : List (Addr × Str)) (B : Hp) (cdv : Value) (A : Around) (outer : List Env) (s : Shared) (H : Hp) (E : XK)
    (hr : Room 0 (A.deeper (envOfC "_law_known" (defScope s__law_known) s.heap.objs.size f cdv))) :
    MSs (cxOf (L2.CX P w) P w K mg base N__law_known "_law_known" (defScope s__law_known) f cdv A outer s H E) ⟨K, s0, fix, tabs⟩ E false B (defBody s__law_known) (m__law_known (s0.map (·.1))) := by
  have hpx : Passes (L2.CX P w) (cxOf (L2.CX P w) P w K mg base N__law_known "_law_known" (defScope s__law_known) f cdv A outer s H E) E := passes_call (takes_of rfl rfl rfl rfl) (fun _ _ _ _ h => h)
  exact
  (mss_one (ms_ret (me_dictP F rfl rfl rfl (ma_cons (MF.me (mf_lc (own := [("_law_pair", 1)]) (t := (.nm 1)) rfl rfl sc__law_known.nd (mi_any rfl (me_var 0)) (blkOk_by (N := N__law_known) (sc := defScope s__law_known) (by decide +kernel)) (by decide) (fun _ _ _ _ _ => (pg_nm sc__law_known.nd (i := 1) rfl (by first | exact Or.inl rfl | exact Or.inr rfl))) (fun _ _ _ _ _ => (mts_one (mt_ne rfl hr.units (me_ix rfl (me_var 1) me_int) (me_ix rfl (me_var 1) me_int)))) (fun _ _ _ _ _ => (me_var 1)))) ma_nil))))
theorem fn__law_known {P : Program} {w : World} {K : PySem.W.Frag} {mg : Str → Option Value} {base : Heap} (F : Free mg) {f : Addr} {fd : FuncData} (G : Fun K "_law_known" "_law_known" s__law_known f fd) : FnOk P w K mg base (L2.CX P w) 1 f fd ps__law_known (LSp K mg false 1 sp__law_known) :=
  fn_l3 (k := 0) G sc__law_known rfl m__law_known (fun s0 fix tabs B cdv A outer s H E hr => der__law_known F s0 fix tabs B cdv A outer s H E hr) pu__law_known
/-! ### _law_free -/
abbrev s__law_free : Stmt := topS 44
theorem sc__law_free : FnScope N__law_free ps__law_free (defScope s__law_free) := ⟨rfl, rfl, rfl, by decide +kernel, rfl, by decide +kernel, by decide +kernel⟩
theorem der__law_free {P : Program} {w : World} {K : PySem.W.Frag} {mg : Str → Option Value} {base : Heap} (F : Free mg) (d__law_known : Df P w K mg base "_law_known" 1 false 1 sp__law_known) {f : Addr} (s0 : Option (Addr × Addr × List Int)) (fix : List (Addr × HO)) (tabs : List (Addr × Str)) (B : Hp) (cdv : Value) (A : Around) (outer : List Env) (s : Shared) (H : Hp) (E : XK)
    (hr : Room 1 (A.deeper (envOfC "_law_free" (defScope s__law_free) s.heap.objs.size f cdv))) :
    MSs (cxOf (L2.CX P w) P w K mg base N__law_free "_law_free" (defScope s__law_free) f cdv A outer s H E) ⟨K, s0, fix, tabs⟩ E false B (defBody s__law_free) (m__law_free (s0.map (·.1))) := by
  have hpx : Passes (L2.CX P w) (cxOf (L2.CX P w) P w K mg base N__law_free "_law_free" (defScope s__law_free) f cdv A outer s H E) E := passes_call (takes_of rfl rfl rfl rfl) (fun _ _ _ _ h => h)
  exact
  (mss_cons (ms_set sc__law_free.nd (i := 2) rfl (by first | exact Or.inl rfl | exact Or.inr rfl) (me_call d__law_known (hr.mono (by first | decide | omega)) rfl hpx rfl (ma_cons (me_var 1) ma_nil)))
  (mss_one (ms_ret (MF.me (mf_lc (own := [("_law_box", 3)]) (t := (.nm 3)) rfl rfl sc__law_free.nd (mi_range rfl F.range (ma_cons (me_var 0) ma_nil)) (blkOk_by (N := N__law_free) (sc := defScope s__law_free) (by decide +kernel)) (by decide) (fun _ _ _ _ _ => (pg_nm sc__law_free.nd (i := 3) rfl (by first | exact Or.inl rfl | exact Or.inr rfl))) (fun _ _ _ _ _ => (mts_one (mt_w (mw_and (mt_niK (hu_of hr) (me_var 3) (me_var 2)) (mw_and1 (mt_niS rfl (me_var 3) (MF.me (mf_lc (own := [("_law_goal", 4)]) (t := (.nm 4)) rfl rfl sc__law_free.nd (mi_any rfl (me_var 2)) (blkOk_by rfl) (by decide) (fun _ _ _ _ _ => (pg_nm sc__law_free.nd (i := 4) rfl (by first | exact Or.inl rfl | exact Or.inr rfl))) (fun _ _ _ _ _ => mts_nil) (fun _ _ _ _ _ => (me_getK (hu_of hr) (me_var 2) (me_var 4))))))))))) (fun _ _ _ _ _ => (me_var 3)))))))
theorem fn__law_free {P : Program} {w : World} {K : PySem.W.Frag} {mg : Str → Option Value} {base : Heap} (F : Free mg) (d__law_known : Df P w K mg base "_law_known" 1 false 1 sp__law_known) {f : Addr} {fd : FuncData} (G : Fun K "_law_free" "_law_free" s__law_free f fd) : FnOk P w K mg base (L2.CX P w) 2 f fd ps__law_free (LSp K mg false 2 sp__law_free) :=
  fn_l3 (k := 1) G sc__law_free rfl m__law_free (fun s0 fix tabs B cdv A outer s H E hr => der__law_free F d__law_known s0 fix tabs B cdv A outer s H E hr) pu__law_free
/-! ### _law_spares -/
abbrev s__law_spares : Stmt := topS 45
theorem sc__law_spares : FnScope N__law_spares ps__law_spares (defScope s__law_spares) := ⟨rfl, rfl, rfl, by decide +kernel, rfl, by decide +kernel, by decide +kernel⟩
theorem der__law_spares {P : Program} {w : World} {K : PySem.W.Frag} {mg : Str → Option Value} {base : Heap} (F : Free mg) (d__law_drawn : Df P w K mg base "_law_drawn" 1 false 2 sp__law_drawn) (d__law_free : Df P w K mg base "_law_free" 2 false 2 sp__law_free) (d__law_order : Df P w K mg base "_law_order" 2 false 2 sp__law_order) {f : Addr} (s0 : Option (Addr × Addr × List Int)) (fix : List (Addr × HO)) (tabs : List (Addr × Str)) (B : Hp) (cdv : Value) (A : Around) (outer : List Env) (s : Shared) (H : Hp) (E : XK)
    (hr : Room 2 (A.deeper (envOfC "_law_spares" (defScope s__law_spares) s.heap.objs.size f cdv))) :
    MSs (cxOf (L2.CX P w) P w K mg base N__law_spares "_law_spares" (defScope s__law_spares) f cdv A outer s H E) ⟨K, s0, fix, tabs⟩ E false B (defBody s__law_spares) (m__law_spares (s0.map (·.1))) := by
  have hpx : Passes (L2.CX P w) (cxOf (L2.CX P w) P w K mg base N__law_spares "_law_spares" (defScope s__law_spares) f cdv A outer s H E) E := passes_call (takes_of rfl rfl rfl rfl) (fun _ _ _ _ h => h)
  exact
  (mss_cons (ms_if (mt_eq rfl hr.units (me_call d__law_drawn (hr.mono (by first | decide | omega)) rfl hpx rfl (ma_cons (me_var 0) (ma_cons me_int ma_nil))) me_int) (mss_one (ms_ret (MF.me (mf_lst ma_nil)))) mss_nil)
  (mss_one (ms_ret (MF.me (mf_lc (own := [("_law_box", 3)]) (t := (.nm 3)) rfl rfl sc__law_spares.nd (mi_any rfl (me_call d__law_order (hr.mono (by first | decide | omega)) rfl hpx rfl (ma_cons (me_var 0) (ma_cons (me_call d__law_free (hr.mono (by first | decide | omega)) rfl hpx rfl (ma_cons (me_var 1) (ma_cons (me_var 2) ma_nil))) ma_nil)))) (blkOk_by (N := N__law_spares) (sc := defScope s__law_spares) (by decide +kernel)) (by decide) (fun _ _ _ _ _ => (pg_nm sc__law_spares.nd (i := 3) rfl (by first | exact Or.inl rfl | exact Or.inr rfl))) (fun _ _ _ _ _ => (mts_one (mt_eq rfl hr.units (me_call d__law_drawn (hr.mono (by first | decide | omega)) rfl passL rfl (ma_cons (me_var 0) (ma_cons me_int ma_nil))) me_int))) (fun _ _ _ _ _ => (me_var 3)))))))
theorem fn__law_spares {P : Program} {w : World} {K : PySem.W.Frag} {mg : Str → Option Value} {base : Heap} (F : Free mg) (d__law_drawn : Df P w K mg base "_law_drawn" 1 false 2 sp__law_drawn) (d__law_free : Df P w K mg base "_law_free" 2 false 2 sp__law_free) (d__law_order : Df P w K mg base "_law_order" 2 false 2 sp__law_order) {f : Addr} {fd : FuncData} (G : Fun K "_law_spares" "_law_spares" s__law_spares f fd) : FnOk P w K mg base (L2.CX P w) 3 f fd ps__law_spares (LSp K mg false 3 sp__law_spares) :=
  fn_l3 (k := 2) G sc__law_spares rfl m__law_spares (fun s0 fix tabs B cdv A outer s H E hr => der__law_spares F d__law_drawn d__law_free d__law_order s0 fix tabs B cdv A outer s H E hr) pu__law_spares
/-! ### _law_next -/
abbrev s__law_next : Stmt := topS 46
theorem sc__law_next : FnScope N__law_next ps__law_next (defScope s__law_next) := ⟨rfl, rfl, rfl, by decide +kernel, rfl, by decide +kernel, by decide +kernel⟩
theorem der__law_next {P : Program} {w : World} {K : PySem.W.Frag} {mg : Str → Option Value} {base : Heap} (F : Free mg) {f : Addr} (s0 : Option (Addr × Addr × List Int)) (fix : List (Addr × HO)) (tabs : List (Addr × Str)) (B : Hp) (cdv : Value) (A : Around) (outer : List Env) (s : Shared) (H : Hp) (E : XK)
    (hr : Room 0 (A.deeper (envOfC "_law_next" (defScope s__law_next) s.heap.objs.size f cdv))) :
    MSs (cxOf (L2.CX P w) P w K mg base N__law_next "_law_next" (defScope s__law_next) f cdv A outer s H E) ⟨K, s0, fix, tabs⟩ E false B (defBody s__law_next) (m__law_next (s0.map (·.1))) := by
  have hpx : Passes (L2.CX P w) (cxOf (L2.CX P w) P w K mg base N__law_next "_law_next" (defScope s__law_next) f cdv A outer s H E) E := passes_call (takes_of rfl rfl rfl rfl) (fun _ _ _ _ h => h)
  exact
  (mss_cons (ms_setF sc__law_next.nd (i := 2) rfl (by first | exact Or.inl rfl | exact Or.inr rfl) (mf_lst ma_nil))
  (mss_cons (ms_for (t := .nm 3) (passes_of rfl) rfl rfl (mi_range rfl F.range (ma_cons (me_len F rfl rfl (ma_cons (me_var 0) ma_nil)) ma_nil)) (pg_nm sc__law_next.nd (i := 3) rfl (by first | exact Or.inl rfl | exact Or.inr rfl)) (mss_one (ms_for (t := .nm 4) (passes_of rfl) rfl rfl (mi_range rfl F.range (ma_cons (me_len F rfl rfl (ma_cons (me_var 0) ma_nil)) ma_nil)) (pg_nm sc__law_next.nd (i := 4) rfl (by first | exact Or.inl rfl | exact Or.inr rfl)) (mss_cons (ms_if (mt_ne rfl hr.units (me_var 3) (me_var 4)) (mss_one (ms_append 2 (h := ps_expr (pe_bm PySem.F.plainAttrs_list PySem.F.slot_list_append PySem.F.type_list_append mt_append (pv 2) (pa_cons (me_add rfl (me_add rfl (me_sl rfl (me_var 0) mo_none (mo_some (me_var 3))) (me_tup (ma_cons (me_ix rfl (me_var 0) (me_var 4)) ma_nil))) (me_sl rfl (me_var 0) (mo_some (me_add rfl (me_var 3) me_int)) mo_none)) pa_nil))))) mss_nil)
      (mss_one (ms_if (mt_w (mw_and (mt_val (me_var 1)) (mw_and1 (mt_lt (me_var 3) (me_var 4))))) (mss_cons (ms_setF sc__law_next.nd (i := 5) rfl (by first | exact Or.inl rfl | exact Or.inr rfl) (mf_list F rfl rfl (ma_cons (me_var 0) ma_nil)))
        (mss_cons (ms_setIx 5 (hi := (me_var 3)) (he := (me_ix rfl (me_var 0) (me_var 4))))
        (mss_cons (ms_setIx 5 (hi := (me_var 4)) (he := (me_ix rfl (me_var 0) (me_var 3))))
        (mss_one (ms_frzL 5 (ms_append 2 (h := ps_expr (pe_bm PySem.F.plainAttrs_list PySem.F.slot_list_append PySem.F.type_list_append mt_append (pv 2) (pa_cons (me_tuple F rfl rfl (ma_cons (me_var 5) ma_nil)) pa_nil))))))))) mss_nil))))))
  (mss_one (ms_ret (me_var 2)))))
theorem fn__law_next {P : Program} {w : World} {K : PySem.W.Frag} {mg : Str → Option Value} {base : Heap} (F : Free mg) {f : Addr} {fd : FuncData} (G : Fun K "_law_next" "_law_next" s__law_next f fd) : FnOk P w K mg base (L2.CX P w) 1 f fd ps__law_next (LSp K mg false 2 sp__law_next) :=
  fn_l3 (k := 0) G sc__law_next rfl m__law_next (fun s0 fix tabs B cdv A outer s H E hr => der__law_next F s0 fix tabs B cdv A outer s H E hr) pu__law_next
/-! ### _law_fewest -/
abbrev s__law_fewest : Stmt := topS 47
theorem sc__law_fewest : FnScope N__law_fewest ps__law_fewest (defScope s__law_fewest) := ⟨rfl, rfl, rfl, by decide +kernel, rfl, by decide +kernel, by decide +kernel⟩
theorem der__law_fewest {P : Program} {w : World} {K : PySem.W.Frag} {mg : Str → Option Value} {base : Heap} (F : Free mg) (d__law_known : Df P w K mg base "_law_known" 1 false 1 sp__law_known) (d__law_next : Df P w K mg base "_law_next" 1 false 2 sp__law_next) {f : Addr} (s0 : Option (Addr × Addr × List Int)) (fix : List (Addr × HO)) (tabs : List (Addr × Str)) (B : Hp) (cdv : Value) (A : Around) (outer : List Env) (s : Shared) (H : Hp) (E : XK)
    (hr : Room 1 (A.deeper (envOfC "_law_fewest" (defScope s__law_fewest) s.heap.objs.size f cdv))) :
    MSs (cxOf (L2.CX P w) P w K mg base N__law_fewest "_law_fewest" (defScope s__law_fewest) f cdv A outer s H E) ⟨K, s0, fix, tabs⟩ E false B (defBody s__law_fewest) (m__law_fewest (s0.map (·.1))) := by
  have hpx : Passes (L2.CX P w) (cxOf (L2.CX P w) P w K mg base N__law_fewest "_law_fewest" (defScope s__law_fewest) f cdv A outer s H E) E := passes_call (takes_of rfl rfl rfl rfl) (fun _ _ _ _ h => h)
  exact
  (mss_cons (ms_set sc__law_fewest.nd (i := 4) rfl (by first | exact Or.inl rfl | exact Or.inr rfl) (me_call d__law_known (hr.mono (by first | decide | omega)) rfl hpx rfl (ma_cons (me_var 1) ma_nil)))
  (mss_cons (ms_set sc__law_fewest.nd (i := 5) rfl (by first | exact Or.inl rfl | exact Or.inr rfl) (MF.me (mf_lc (own := [("_law_box", 6)]) (t := (.nm 6)) rfl rfl sc__law_fewest.nd (mi_range rfl F.range (ma_cons (me_var 0) ma_nil)) (blkOk_by (N := N__law_fewest) (sc := defScope s__law_fewest) (by decide +kernel)) (by decide) (fun _ _ _ _ _ => (pg_nm sc__law_fewest.nd (i := 6) rfl (by first | exact Or.inl rfl | exact Or.inr rfl))) (fun _ _ _ _ _ => mts_nil) (fun _ _ _ _ _ => (me_getD (hu_of hr) (me_var 4) (me_var 6) (me_var 6))))))
  (mss_cons (ms_set sc__law_fewest.nd (i := 7) rfl (by first | exact Or.inl rfl | exact Or.inr rfl) (MF.me (mf_lst (ma_cons (me_tuple F rfl rfl (ma_cons (MF.me (mf_listRange F rfl rfl rfl (me_var 0))) ma_nil)) ma_nil))))
  (mss_cons (ms_setDT (i := 8) rfl (Nat.lt_of_le_of_lt (Nat.add_le_add_left (by decide) _) hr.units) rfl rfl F.dict sc__law_fewest.nd rfl (by first | exact Or.inl rfl | exact Or.inr rfl) (ma_cons (MF.me (mf_lc (own := [("_law_worths_here", 9)]) (t := (.nm 9)) rfl rfl sc__law_fewest.nd (mi_any rfl (me_var 7)) (blkOk_by (N := N__law_fewest) (sc := defScope s__law_fewest) (by decide +kernel)) (by decide) (fun _ _ _ _ _ => (pg_nm sc__law_fewest.nd (i := 9) rfl (by first | exact Or.inl rfl | exact Or.inr rfl))) (fun _ _ _ _ _ => mts_nil) (fun _ _ _ _ _ => (me_tup (ma_cons (me_var 9) (ma_cons me_bl ma_nil)))))) ma_nil))
  (mss_cons (ms_set sc__law_fewest.nd (i := 10) rfl (by first | exact Or.inl rfl | exact Or.inr rfl) me_int)
  (mss_cons (ms_while (passes_of rfl) (mt_ne rfl hr.units (me_var 7) (MF.me (mf_lst ma_nil))) (mss_cons (ms_for (t := .nm 9) (passes_of rfl) rfl rfl (mi_any rfl (me_var 7)) (pg_nm sc__law_fewest.nd (i := 9) rfl (by first | exact Or.inl rfl | exact Or.inr rfl)) (mss_one (ms_if (mt_eq rfl hr.units (MF.me (mf_lc (own := [("_law_box", 6)]) (t := (.nm 6)) rfl rfl sc__law_fewest.nd (mi_range rfl F.range (ma_cons (me_var 0) ma_nil)) (blkOk_by (N := N__law_fewest) (sc := defScope s__law_fewest) (by decide +kernel)) (by decide) (fun _ _ _ _ _ => (pg_nm sc__law_fewest.nd (i := 6) rfl (by first | exact Or.inl rfl | exact Or.inr rfl))) (fun _ _ _ _ _ => (mts_one (mt_w (mw_and (mt_niS rfl (me_var 6) (me_var 2)) (mw_and1 (mt_ne rfl hr.units (me_ix rfl (me_var 9) (me_var 6)) (me_ix rfl (me_var 5) (me_var 6)))))))) (fun _ _ _ _ _ => (me_var 6)))) (MF.me (mf_lst ma_nil))) (mss_one (ms_ret (me_var 10))) mss_nil)))
    (mss_cons (ms_setF sc__law_fewest.nd (i := 11) rfl (by first | exact Or.inl rfl | exact Or.inr rfl) (mf_lst ma_nil))
    (mss_cons (ms_for (t := .nm 9) (passes_of rfl) rfl rfl (mi_any rfl (me_var 7)) (pg_nm sc__law_fewest.nd (i := 9) rfl (by first | exact Or.inl rfl | exact Or.inr rfl)) (mss_one (ms_for (t := .nm 12) (passes_of rfl) rfl rfl (mi_any rfl (me_call d__law_next (hr.mono (by first | decide | omega)) rfl hpx rfl (ma_cons (me_var 9) (ma_cons (me_var 3) ma_nil)))) (pg_nm sc__law_fewest.nd (i := 12) rfl (by first | exact Or.inl rfl | exact Or.inr rfl)) (mss_one (ms_ifNT 12 8 (hu_of hr) rfl (ha := (mss_cons (ms_setKT 12 8 (hu_of hr) rfl)
          (mss_one (ms_append 11 (h := ps_expr (pe_bm PySem.F.plainAttrs_list PySem.F.slot_list_append PySem.F.type_list_append mt_append (pv 11) (pa_cons (me_var 12) pa_nil))))))) (hb := mss_nil))))))
    (mss_cons (ms_frzL 11 (ms_set sc__law_fewest.nd (i := 7) rfl (by first | exact Or.inl rfl | exact Or.inr rfl) (me_var 11)))
    (mss_one (ms_set sc__law_fewest.nd (i := 10) rfl (by first | exact Or.inl rfl | exact Or.inr rfl) (me_add rfl (me_var 10) me_int))))))))
  (mss_one (ms_ret me_non))))))))
theorem fn__law_fewest {P : Program} {w : World} {K : PySem.W.Frag} {mg : Str → Option Value} {base : Heap} (F : Free mg) (d__law_known : Df P w K mg base "_law_known" 1 false 1 sp__law_known) (d__law_next : Df P w K mg base "_law_next" 1 false 2 sp__law_next) {f : Addr} {fd : FuncData} (G : Fun K "_law_fewest" "_law_fewest" s__law_fewest f fd) : FnOk P w K mg base (L2.CX P w) 2 f fd ps__law_fewest (LSp K mg false 4 sp__law_fewest) :=
  fn_l3 (k := 1) G sc__law_fewest rfl m__law_fewest (fun s0 fix tabs B cdv A outer s H E hr => der__law_fewest F d__law_known d__law_next s0 fix tabs B cdv A outer s H E hr) pu__law_fewest
/-! ### need_boxes -/
abbrev s_need_boxes : Stmt := topS 13
theorem sc_need_boxes : FnScope N_need_boxes ps_need_boxes (defScope s_need_boxes) := ⟨rfl, rfl, rfl, by decide +kernel, rfl, by decide +kernel, by decide +kernel⟩
theorem der_need_boxes {P : Program} {w : World} {K : PySem.W.Frag} {mg : Str → Option Value} {base : Heap} (F : Free mg) (g_MOST_BOXES : ∃ t, mg "MOST_BOXES" = some (.int 10 t)) {f : Addr} (s0 : Option (Addr × Addr × List Int)) (fix : List (Addr × HO)) (tabs : List (Addr × Str)) (B : Hp) (cdv : Value) (A : Around) (outer : List Env) (s : Shared) (H : Hp) (E : XK)
    (hr : Room 0 (A.deeper (envOfC "need_boxes" (defScope s_need_boxes) s.heap.objs.size f cdv))) :
    MSs (cxOf (L2.CX P w) P w K mg base N_need_boxes "need_boxes" (defScope s_need_boxes) f cdv A outer s H E) ⟨K, s0, fix, tabs⟩ E false B (defBody s_need_boxes) (m_need_boxes (s0.map (·.1))) := by
  have hpx : Passes (L2.CX P w) (cxOf (L2.CX P w) P w K mg base N_need_boxes "need_boxes" (defScope s_need_boxes) f cdv A outer s H E) E := passes_call (takes_of rfl rfl rfl rfl) (fun _ _ _ _ h => h)
  exact
  (mss_one (ms_if (mt_not (mt_leLe me_int (me_var 0) (me_globI g_MOST_BOXES rfl))) (mss_one ms_never) mss_nil))
theorem fn_need_boxes {P : Program} {w : World} {K : PySem.W.Frag} {mg : Str → Option Value} {base : Heap} (F : Free mg) (g_MOST_BOXES : ∃ t, mg "MOST_BOXES" = some (.int 10 t)) {f : Addr} {fd : FuncData} (G : Fun K "need_boxes" "need_boxes" s_need_boxes f fd) : FnOk P w K mg base (L2.CX P w) 1 f fd ps_need_boxes (LSp K mg false 1 sp_need_boxes) :=
  fn_l3 (k := 0) G sc_need_boxes rfl m_need_boxes (fun s0 fix tabs B cdv A outer s H E hr => der_need_boxes F g_MOST_BOXES s0 fix tabs B cdv A outer s H E hr) pu_need_boxes
/-! ### is_box -/
abbrev s_is_box : Stmt := topS 12
theorem sc_is_box : FnScope N_is_box ps_is_box (defScope s_is_box) := ⟨rfl, rfl, rfl, by decide +kernel, rfl, by decide +kernel, by decide +kernel⟩
theorem der_is_box {P : Program} {w : World} {K : PySem.W.Frag} {mg : Str → Option Value} {base : Heap} (F : Free mg) {f : Addr} (s0 : Option (Addr × Addr × List Int)) (fix : List (Addr × HO)) (tabs : List (Addr × Str)) (B : Hp) (cdv : Value) (A : Around) (outer : List Env) (s : Shared) (H : Hp) (E : XK)
    (hr : Room 0 (A.deeper (envOfC "is_box" (defScope s_is_box) s.heap.objs.size f cdv))) :
    MSs (cxOf (L2.CX P w) P w K mg base N_is_box "is_box" (defScope s_is_box) f cdv A outer s H E) ⟨K, s0, fix, tabs⟩ E false B (defBody s_is_box) (m_is_box (s0.map (·.1))) := by
  have hpx : Passes (L2.CX P w) (cxOf (L2.CX P w) P w K mg base N_is_box "is_box" (defScope s_is_box) f cdv A outer s H E) E := passes_call (takes_of rfl rfl rfl rfl) (fun _ _ _ _ h => h)
  exact
  (mss_one (ms_ret (me_leLt me_int (me_var 1) (me_var 0))))
theorem fn_is_box {P : Program} {w : World} {K : PySem.W.Frag} {mg : Str → Option Value} {base : Heap} (F : Free mg) {f : Addr} {fd : FuncData} (G : Fun K "is_box" "is_box" s_is_box f fd) : FnOk P w K mg base (L2.CX P w) 1 f fd ps_is_box (LSp K mg false 2 sp_is_box) :=
  fn_l3 (k := 0) G sc_is_box rfl m_is_box (fun s0 fix tabs B cdv A outer s H E hr => der_is_box F s0 fix tabs B cdv A outer s H E hr) pu_is_box
/-! ### need_lead -/
abbrev s_need_lead : Stmt := topS 14
theorem sc_need_lead : FnScope N_need_lead ps_need_lead (defScope s_need_lead) := ⟨rfl, rfl, rfl, by decide +kernel, rfl, by decide +kernel, by decide +kernel⟩
theorem der_need_lead {P : Program} {w : World} {K : PySem.W.Frag} {mg : Str → Option Value} {base : Heap} (F : Free mg) (d_is_box : Df P w K mg base "is_box" 1 false 2 sp_is_box) (d_need_boxes : Df P w K mg base "need_boxes" 1 false 1 sp_need_boxes) {f : Addr} (s0 : Option (Addr × Addr × List Int)) (fix : List (Addr × HO)) (tabs : List (Addr × Str)) (B : Hp) (cdv : Value) (A : Around) (outer : List Env) (s : Shared) (H : Hp) (E : XK)
    (hr : Room 1 (A.deeper (envOfC "need_lead" (defScope s_need_lead) s.heap.objs.size f cdv))) :
    MSs (cxOf (L2.CX P w) P w K mg base N_need_lead "need_lead" (defScope s_need_lead) f cdv A outer s H E) ⟨K, s0, fix, tabs⟩ E false B (defBody s_need_lead) (m_need_lead (s0.map (·.1))) := by
  have hpx : Passes (L2.CX P w) (cxOf (L2.CX P w) P w K mg base N_need_lead "need_lead" (defScope s_need_lead) f cdv A outer s H E) E := passes_call (takes_of rfl rfl rfl rfl) (fun _ _ _ _ h => h)
  exact
  (mss_cons (ms_expr (me_call d_need_boxes (hr.mono (by first | decide | omega)) rfl hpx rfl (ma_cons (me_var 0) ma_nil)))
  (mss_cons (ms_setLcS (i := 2) (own := [("goal", 3), ("source", 4)]) (t := (.tp [3, 4])) rfl rfl sc_need_lead.nd rfl rfl (sw_true rfl rfl rfl (by decide +kernel)) (mi_any rfl (me_var 1)) (blkOk_by (N := N_need_lead) (sc := defScope s_need_lead) (by decide +kernel)) (by decide) (fun _ _ _ _ _ => (pg_tp rfl (pgs_nm sc_need_lead.nd (i := 3) rfl (by first | exact Or.inl rfl | exact Or.inr rfl) (pgs_nm sc_need_lead.nd (i := 4) rfl (by first | exact Or.inl rfl | exact Or.inr rfl) pgs_no)))) (fun _ _ _ _ _ => mts_nil) (fun _ _ _ _ _ => (me_var 3)))
  (mss_cons (ms_if (mt_ne rfl hr.units (me_lenSet F rfl rfl rfl rfl (me_var 2)) (me_len F rfl rfl (ma_cons (me_var 2) ma_nil))) (mss_one ms_never) mss_nil)
  (mss_one (ms_if (mt_ne rfl hr.units (MF.me (mf_lc (own := [("pair", 5)]) (t := (.nm 5)) rfl rfl sc_need_lead.nd (mi_any rfl (me_var 1)) (blkOk_by (N := N_need_lead) (sc := defScope s_need_lead) (by decide +kernel)) (by decide) (fun _ _ _ _ _ => (pg_nm sc_need_lead.nd (i := 5) rfl (by first | exact Or.inl rfl | exact Or.inr rfl))) (fun _ _ _ _ _ => (mts_one (mt_w (mw_or (mt_not (mt_val (me_call d_is_box (hr.mono (by first | decide | omega)) rfl passL rfl (ma_cons (me_var 0) (ma_cons (me_ix rfl (me_var 5) me_int) ma_nil))))) (mw_or1 (mt_not (mt_val (me_call d_is_box (hr.mono (by first | decide | omega)) rfl passL rfl (ma_cons (me_var 0) (ma_cons (me_ix rfl (me_var 5) me_int) ma_nil)))))))))) (fun _ _ _ _ _ => (me_var 5)))) (MF.me (mf_lst ma_nil))) (mss_one ms_never) mss_nil)))))
theorem fn_need_lead {P : Program} {w : World} {K : PySem.W.Frag} {mg : Str → Option Value} {base : Heap} (F : Free mg) (d_is_box : Df P w K mg base "is_box" 1 false 2 sp_is_box) (d_need_boxes : Df P w K mg base "need_boxes" 1 false 1 sp_need_boxes) {f : Addr} {fd : FuncData} (G : Fun K "need_lead" "need_lead" s_need_lead f fd) : FnOk P w K mg base (L2.CX P w) 2 f fd ps_need_lead (LSp K mg false 2 sp_need_lead) :=
  fn_l3 (k := 1) G sc_need_lead rfl m_need_lead (fun s0 fix tabs B cdv A outer s H E hr => der_need_lead F d_is_box d_need_boxes s0 fix tabs B cdv A outer s H E hr) pu_need_lead
/-! ### real_pairs -/
abbrev s_real_pairs : Stmt := topS 15
theorem sc_real_pairs : FnScope N_real_pairs ps_real_pairs (defScope s_real_pairs) := ⟨rfl, rfl, rfl, by decide +kernel, rfl, by decide +kernel, by decide +kernel⟩
theorem der_real_pairs {P : Program} {w : World} {K : PySem.W.Frag} {mg : Str → Option Value} {base : Heap} (F : Free mg) {f : Addr} (s0 : Option (Addr × Addr × List Int)) (fix : List (Addr × HO)) (tabs : List (Addr × Str)) (B : Hp) (cdv : Value) (A : Around) (outer : List Env) (s : Shared) (H : Hp) (E : XK)
    (hr : Room 0 (A.deeper (envOfC "real_pairs" (defScope s_real_pairs) s.heap.objs.size f cdv))) :
    MSs (cxOf (L2.CX P w) P w K mg base N_real_pairs "real_pairs" (defScope s_real_pairs) f cdv A outer s H E) ⟨K, s0, fix, tabs⟩ E false B (defBody s_real_pairs) (m_real_pairs (s0.map (·.1))) := by
  have hpx : Passes (L2.CX P w) (cxOf (L2.CX P w) P w K mg base N_real_pairs "real_pairs" (defScope s_real_pairs) f cdv A outer s H E) E := passes_call (takes_of rfl rfl rfl rfl) (fun _ _ _ _ h => h)
  exact
  (mss_one (ms_ret (me_dictP F rfl rfl rfl (ma_cons (MF.me (mf_lc (own := [("goal", 1), ("source", 2)]) (t := (.tp [1, 2])) rfl rfl sc_real_pairs.nd (mi_any rfl (me_var 0)) (blkOk_by (N := N_real_pairs) (sc := defScope s_real_pairs) (by decide +kernel)) (by decide) (fun _ _ _ _ _ => (pg_tp rfl (pgs_nm sc_real_pairs.nd (i := 1) rfl (by first | exact Or.inl rfl | exact Or.inr rfl) (pgs_nm sc_real_pairs.nd (i := 2) rfl (by first | exact Or.inl rfl | exact Or.inr rfl) pgs_no)))) (fun _ _ _ _ _ => (mts_one (mt_ne rfl hr.units (me_var 1) (me_var 2)))) (fun _ _ _ _ _ => (me_tup (ma_cons (me_var 1) (ma_cons (me_var 2) ma_nil)))))) ma_nil))))
theorem fn_real_pairs {P : Program} {w : World} {K : PySem.W.Frag} {mg : Str → Option Value} {base : Heap} (F : Free mg) {f : Addr} {fd : FuncData} (G : Fun K "real_pairs" "real_pairs" s_real_pairs f fd) : FnOk P w K mg base (L2.CX P w) 1 f fd ps_real_pairs (LSp K mg false 1 sp_real_pairs) :=
  fn_l3 (k := 0) G sc_real_pairs rfl m_real_pairs (fun s0 fix tabs B cdv A outer s H E hr => der_real_pairs F s0 fix tabs B cdv A outer s H E hr) pu_real_pairs
/-! ### need_spares -/
abbrev s_need_spares : Stmt := topS 21
theorem sc_need_spares : FnScope N_need_spares ps_need_spares (defScope s_need_spares) := ⟨rfl, rfl, rfl, by decide +kernel, rfl, by decide +kernel, by decide +kernel⟩
theorem der_need_spares {P : Program} {w : World} {K : PySem.W.Frag} {mg : Str → Option Value} {base : Heap} (F : Free mg) (d_is_box : Df P w K mg base "is_box" 1 false 2 sp_is_box) (d_real_pairs : Df P w K mg base "real_pairs" 1 false 1 sp_real_pairs) (x_BadSpare : XOk K mg "BadSpare") {f : Addr} (s0 : Option (Addr × Addr × List Int)) (fix : List (Addr × HO)) (tabs : List (Addr × Str)) (B : Hp) (cdv : Value) (A : Around) (outer : List Env) (s : Shared) (H : Hp) (E : XK)
    (hr : Room 1 (A.deeper (envOfC "need_spares" (defScope s_need_spares) s.heap.objs.size f cdv))) :
    MSs (cxOf (L2.CX P w) P w K mg base N_need_spares "need_spares" (defScope s_need_spares) f cdv A outer s H E) ⟨K, s0, fix, tabs⟩ E false B (defBody s_need_spares) (m_need_spares (s0.map (·.1))) := by
  have hpx : Passes (L2.CX P w) (cxOf (L2.CX P w) P w K mg base N_need_spares "need_spares" (defScope s_need_spares) f cdv A outer s H E) E := passes_call (takes_of rfl rfl rfl rfl) (fun _ _ _ _ h => h)
  exact
  (mss_cons (ms_set sc_need_spares.nd (i := 3) rfl (by first | exact Or.inl rfl | exact Or.inr rfl) (me_call d_real_pairs (hr.mono (by first | decide | omega)) rfl hpx rfl (ma_cons (me_var 1) ma_nil)))
  (mss_cons (ms_set sc_need_spares.nd (i := 4) rfl (by first | exact Or.inl rfl | exact Or.inr rfl) (me_add rfl (MF.me (mf_listK F rfl rfl rfl (ma_cons (me_var 3) ma_nil))) (MF.me (mf_lc (own := [("goal", 5)]) (t := (.nm 5)) rfl rfl sc_need_spares.nd (mi_any rfl (me_var 3)) (blkOk_by (N := N_need_spares) (sc := defScope s_need_spares) (by decide +kernel)) (by decide) (fun _ _ _ _ _ => (pg_nm sc_need_spares.nd (i := 5) rfl (by first | exact Or.inl rfl | exact Or.inr rfl))) (fun _ _ _ _ _ => mts_nil) (fun _ _ _ _ _ => (me_getK (hu_of hr) (me_var 3) (me_var 5)))))))
  (mss_cons (ms_setLcS (i := 6) (own := [("box", 7)]) (t := (.nm 7)) rfl rfl sc_need_spares.nd rfl rfl (sw_true rfl rfl rfl (by decide +kernel)) (mi_any rfl (me_var 2)) (blkOk_by (N := N_need_spares) (sc := defScope s_need_spares) (by decide +kernel)) (by decide) (fun _ _ _ _ _ => (pg_nm sc_need_spares.nd (i := 7) rfl (by first | exact Or.inl rfl | exact Or.inr rfl))) (fun _ _ _ _ _ => (mts_one (mt_w (mw_or (mt_not (mt_val (me_call d_is_box (hr.mono (by first | decide | omega)) rfl passL rfl (ma_cons (me_var 0) (ma_cons (me_var 7) ma_nil))))) (mw_or1 (mt_inS rfl (me_var 7) (me_var 4))))))) (fun _ _ _ _ _ => (me_var 7)))
  (mss_one (ms_if (mt_w (mw_or (mt_ne rfl hr.units (me_var 6) (MF.me (mf_lst ma_nil))) (mw_or1 (mt_ne rfl hr.units (me_lenSet F rfl rfl rfl rfl (me_var 2)) (me_len F rfl rfl (ma_cons (me_var 2) ma_nil)))))) (mss_one (ms_raiseX x_BadSpare rfl (takes_of rfl rfl rfl rfl) rfl)) mss_nil)))))
theorem fn_need_spares {P : Program} {w : World} {K : PySem.W.Frag} {mg : Str → Option Value} {base : Heap} (F : Free mg) (d_is_box : Df P w K mg base "is_box" 1 false 2 sp_is_box) (d_real_pairs : Df P w K mg base "real_pairs" 1 false 1 sp_real_pairs) (x_BadSpare : XOk K mg "BadSpare") {f : Addr} {fd : FuncData} (G : Fun K "need_spares" "need_spares" s_need_spares f fd) : FnOk P w K mg base (L2.CX P w) 2 f fd ps_need_spares (LSp K mg false 3 sp_need_spares) :=
  fn_l3 (k := 1) G sc_need_spares rfl m_need_spares (fun s0 fix tabs B cdv A outer s H E hr => der_need_spares F d_is_box d_real_pairs x_BadSpare s0 fix tabs B cdv A outer s H E hr) pu_need_spares
/-! ### ring_from -/
abbrev s_ring_from : Stmt := topS 16
theorem sc_ring_from : FnScope N_ring_from ps_ring_from (defScope s_ring_from) := ⟨rfl, rfl, rfl, by decide +kernel, rfl, by decide +kernel, by decide +kernel⟩
theorem der_ring_from {P : Program} {w : World} {K : PySem.W.Frag} {mg : Str → Option Value} {base : Heap} (F : Free mg) {f : Addr} (s0 : Option (Addr × Addr × List Int)) (fix : List (Addr × HO)) (tabs : List (Addr × Str)) (B : Hp) (cdv : Value) (A : Around) (outer : List Env) (s : Shared) (H : Hp) (E : XK)
    (hr : Room 0 (A.deeper (envOfC "ring_from" (defScope s_ring_from) s.heap.objs.size f cdv))) :
    MSs (cxOf (L2.CX P w) P w K mg base N_ring_from "ring_from" (defScope s_ring_from) f cdv A outer s H E) ⟨K, s0, fix, tabs⟩ E false B (defBody s_ring_from) (m_ring_from (s0.map (·.1))) := by
  have hpx : Passes (L2.CX P w) (cxOf (L2.CX P w) P w K mg base N_ring_from "ring_from" (defScope s_ring_from) f cdv A outer s H E) E := passes_call (takes_of rfl rfl rfl rfl) (fun _ _ _ _ h => h)
  exact
  (mss_cons (ms_setF sc_ring_from.nd (i := 2) rfl (by first | exact Or.inl rfl | exact Or.inr rfl) (mf_lst (ma_cons (me_var 1) ma_nil)))
  (mss_cons (ms_set sc_ring_from.nd (i := 3) rfl (by first | exact Or.inl rfl | exact Or.inr rfl) (me_get1 (hu_of hr) (me_var 0) (me_var 1)))
  (mss_cons (ms_while (passes_of rfl) (mt_w (mw_and (mt_isNN (me_var 3) me_non) (mw_and1 (mt_niS rfl (me_var 3) (me_var 2))))) (mss_cons (ms_append 2 (h := ps_expr (pe_bm PySem.F.plainAttrs_list PySem.F.slot_list_append PySem.F.type_list_append mt_append (pv 2) (pa_cons (me_var 3) pa_nil))))
    (mss_one (ms_set sc_ring_from.nd (i := 3) rfl (by first | exact Or.inl rfl | exact Or.inr rfl) (me_get1 (hu_of hr) (me_var 0) (me_var 3))))))
  (mss_cons (ms_if (mt_w (mw_or (mt_ne rfl hr.units (me_var 3) (me_var 1)) (mw_or1 (mt_ne rfl hr.units (me_minL F rfl rfl rfl (ma_cons (me_var 2) ma_nil)) (me_var 1))))) (mss_one (ms_ret me_non)) mss_nil)
  (mss_one (ms_ret (me_tuple F rfl rfl (ma_cons (me_add rfl (MF.me (mf_lst (ma_cons (me_var 1) ma_nil))) (MF.me (mf_slM rfl (me_var 2) mo_none (mo_some me_int)))) ma_nil))))))))
theorem fn_ring_from {P : Program} {w : World} {K : PySem.W.Frag} {mg : Str → Option Value} {base : Heap} (F : Free mg) {f : Addr} {fd : FuncData} (G : Fun K "ring_from" "ring_from" s_ring_from f fd) : FnOk P w K mg base (L2.CX P w) 1 f fd ps_ring_from (LSp K mg false 2 sp_ring_from) :=
  fn_l3 (k := 0) G sc_ring_from rfl m_ring_from (fun s0 fix tabs B cdv A outer s H E hr => der_ring_from F s0 fix tabs B cdv A outer s H E hr) pu_ring_from
/-! ### rings_of -/
abbrev s_rings_of : Stmt := topS 17
theorem sc_rings_of : FnScope N_rings_of ps_rings_of (defScope s_rings_of) := ⟨rfl, rfl, rfl, by decide +kernel, rfl, by decide +kernel, by decide +kernel⟩
theorem der_rings_of {P : Program} {w : World} {K : PySem.W.Frag} {mg : Str → Option Value} {base : Heap} (F : Free mg) (d_ring_from : Df P w K mg base "ring_from" 1 false 2 sp_ring_from) {f : Addr} (s0 : Option (Addr × Addr × List Int)) (fix : List (Addr × HO)) (tabs : List (Addr × Str)) (B : Hp) (cdv : Value) (A : Around) (outer : List Env) (s : Shared) (H : Hp) (E : XK)
    (hr : Room 1 (A.deeper (envOfC "rings_of" (defScope s_rings_of) s.heap.objs.size f cdv))) :
    MSs (cxOf (L2.CX P w) P w K mg base N_rings_of "rings_of" (defScope s_rings_of) f cdv A outer s H E) ⟨K, s0, fix, tabs⟩ E true B (defBody s_rings_of) (m_rings_of (s0.map (·.1))) := by
  have hpx : Passes (L2.CX P w) (cxOf (L2.CX P w) P w K mg base N_rings_of "rings_of" (defScope s_rings_of) f cdv A outer s H E) E := passes_call (takes_of rfl rfl rfl rfl) (fun _ _ _ _ h => h)
  exact
  (mss_cons (ms_setLcS (i := 1) (own := [("box", 2)]) (t := (.nm 2)) rfl rfl sc_rings_of.nd rfl rfl (sw_true rfl rfl rfl (by decide +kernel)) (mi_any rfl (MF.me (mf_sorted F rfl rfl rfl (ma_cons (me_var 0) ma_nil)))) (blkOk_by (N := N_rings_of) (sc := defScope s_rings_of) (by decide +kernel)) (by decide) (fun _ _ _ _ _ => (pg_nm sc_rings_of.nd (i := 2) rfl (by first | exact Or.inl rfl | exact Or.inr rfl))) (fun _ _ _ _ _ => mts_nil) (fun _ _ _ _ _ => (me_call d_ring_from (hr.mono (by first | decide | omega)) rfl passL rfl (ma_cons (me_var 0) (ma_cons (me_var 2) ma_nil)))))
  (mss_one (ms_retF (mf_lc (own := [("ring", 3)]) (t := (.nm 3)) rfl rfl sc_rings_of.nd (mi_any rfl (me_var 1)) (blkOk_by (N := N_rings_of) (sc := defScope s_rings_of) (by decide +kernel)) (by decide) (fun _ _ _ _ _ => (pg_nm sc_rings_of.nd (i := 3) rfl (by first | exact Or.inl rfl | exact Or.inr rfl))) (fun _ _ _ _ _ => (mts_one (mt_isNN (me_var 3) me_non))) (fun _ _ _ _ _ => (me_var 3))))))
theorem fn_rings_of {P : Program} {w : World} {K : PySem.W.Frag} {mg : Str → Option Value} {base : Heap} (F : Free mg) (d_ring_from : Df P w K mg base "ring_from" 1 false 2 sp_ring_from) {f : Addr} {fd : FuncData} (G : Fun K "rings_of" "rings_of" s_rings_of f fd) : FnOk P w K mg base (L2.CX P w) 2 f fd ps_rings_of (LSp K mg true 1 sp_rings_of) :=
  fn_l3 (k := 1) G sc_rings_of rfl m_rings_of (fun s0 fix tabs B cdv A outer s H E hr => der_rings_of F d_ring_from s0 fix tabs B cdv A outer s H E hr) pu_rings_of
/-! ### outward -/
abbrev s_outward : Stmt := topS 18
theorem sc_outward : FnScope N_outward ps_outward (defScope s_outward) := ⟨rfl, rfl, rfl, by decide +kernel, rfl, by decide +kernel, by decide +kernel⟩
theorem der_outward {P : Program} {w : World} {K : PySem.W.Frag} {mg : Str → Option Value} {base : Heap} (F : Free mg) {f : Addr} (s0 : Option (Addr × Addr × List Int)) (fix : List (Addr × HO)) (tabs : List (Addr × Str)) (B : Hp) (cdv : Value) (A : Around) (outer : List Env) (s : Shared) (H : Hp) (E : XK)
    (hr : Room 0 (A.deeper (envOfC "outward" (defScope s_outward) s.heap.objs.size f cdv))) :
    MSs (cxOf (L2.CX P w) P w K mg base N_outward "outward" (defScope s_outward) f cdv A outer s H E) ⟨K, s0, fix, tabs⟩ E false B (defBody s_outward) (m_outward (s0.map (·.1))) := by
  have hpx : Passes (L2.CX P w) (cxOf (L2.CX P w) P w K mg base N_outward "outward" (defScope s_outward) f cdv A outer s H E) E := passes_call (takes_of rfl rfl rfl rfl) (fun _ _ _ _ h => h)
  exact
  (mss_one (ms_ret (MF.me (mf_lc (own := [("goal", 2)]) (t := (.nm 2)) rfl rfl sc_outward.nd (mi_any rfl (MF.me (mf_sorted F rfl rfl rfl (ma_cons (me_var 0) ma_nil)))) (blkOk_by (N := N_outward) (sc := defScope s_outward) (by decide +kernel)) (by decide) (fun _ _ _ _ _ => (pg_nm sc_outward.nd (i := 2) rfl (by first | exact Or.inl rfl | exact Or.inr rfl))) (fun _ _ _ _ _ => (mts_one (mt_w (mw_and (mt_niS rfl (me_var 2) (me_var 1)) (mw_and1 (mt_inS rfl (me_getK (hu_of hr) (me_var 0) (me_var 2)) (me_var 1))))))) (fun _ _ _ _ _ => (me_tup (ma_cons (me_var 2) (ma_cons (me_getK (hu_of hr) (me_var 0) (me_var 2)) ma_nil))))))))
theorem fn_outward {P : Program} {w : World} {K : PySem.W.Frag} {mg : Str → Option Value} {base : Heap} (F : Free mg) {f : Addr} {fd : FuncData} (G : Fun K "outward" "outward" s_outward f fd) : FnOk P w K mg base (L2.CX P w) 1 f fd ps_outward (LSp K mg false 2 sp_outward) :=
  fn_l3 (k := 0) G sc_outward rfl m_outward (fun s0 fix tabs B cdv A outer s H E hr => der_outward F s0 fix tabs B cdv A outer s H E hr) pu_outward
/-! ### shut_of -/
abbrev s_shut_of : Stmt := topS 19
theorem sc_shut_of : FnScope N_shut_of ps_shut_of (defScope s_shut_of) := ⟨rfl, rfl, rfl, by decide +kernel, rfl, by decide +kernel, by decide +kernel⟩
theorem der_shut_of {P : Program} {w : World} {K : PySem.W.Frag} {mg : Str → Option Value} {base : Heap} (F : Free mg) (d_outward : Df P w K mg base "outward" 1 false 2 sp_outward) (d_rings_of : Df P w K mg base "rings_of" 2 true 1 sp_rings_of) {f : Addr} (s0 : Option (Addr × Addr × List Int)) (fix : List (Addr × HO)) (tabs : List (Addr × Str)) (B : Hp) (cdv : Value) (A : Around) (outer : List Env) (s : Shared) (H : Hp) (E : XK)
    (hr : Room 2 (A.deeper (envOfC "shut_of" (defScope s_shut_of) s.heap.objs.size f cdv))) :
    MSs (cxOf (L2.CX P w) P w K mg base N_shut_of "shut_of" (defScope s_shut_of) f cdv A outer s H E) ⟨K, s0, fix, tabs⟩ E true B (defBody s_shut_of) (m_shut_of (s0.map (·.1))) := by
  have hpx : Passes (L2.CX P w) (cxOf (L2.CX P w) P w K mg base N_shut_of "shut_of" (defScope s_shut_of) f cdv A outer s H E) E := passes_call (takes_of rfl rfl rfl rfl) (fun _ _ _ _ h => h)
  exact
  (mss_one (ms_retF (mf_lc (own := [("ring", 1)]) (t := (.nm 1)) rfl rfl sc_shut_of.nd (mi_any rfl (MF.me (mf_call d_rings_of (hr.mono (by first | decide | omega)) rfl hpx rfl (ma_cons (me_var 0) ma_nil)))) (blkOk_by (N := N_shut_of) (sc := defScope s_shut_of) (by decide +kernel)) (by decide) (fun _ _ _ _ _ => (pg_nm sc_shut_of.nd (i := 1) rfl (by first | exact Or.inl rfl | exact Or.inr rfl))) (fun _ _ _ _ _ => (mts_one (mt_eq rfl hr.units (me_call d_outward (hr.mono (by first | decide | omega)) rfl passL rfl (ma_cons (me_var 0) (ma_cons (me_var 1) ma_nil))) (MF.me (mf_lst ma_nil))))) (fun _ _ _ _ _ => (me_var 1)))))
theorem fn_shut_of {P : Program} {w : World} {K : PySem.W.Frag} {mg : Str → Option Value} {base : Heap} (F : Free mg) (d_outward : Df P w K mg base "outward" 1 false 2 sp_outward) (d_rings_of : Df P w K mg base "rings_of" 2 true 1 sp_rings_of) {f : Addr} {fd : FuncData} (G : Fun K "shut_of" "shut_of" s_shut_of f fd) : FnOk P w K mg base (L2.CX P w) 3 f fd ps_shut_of (LSp K mg true 1 sp_shut_of) :=
  fn_l3 (k := 2) G sc_shut_of rfl m_shut_of (fun s0 fix tabs B cdv A outer s H E hr => der_shut_of F d_outward d_rings_of s0 fix tabs B cdv A outer s H E hr) pu_shut_of
/-! ### temp_of -/
abbrev s_temp_of : Stmt := topS 26
theorem sc_temp_of : FnScope N_temp_of ps_temp_of (defScope s_temp_of) := ⟨rfl, rfl, rfl, by decide +kernel, rfl, by decide +kernel, by decide +kernel⟩
theorem der_temp_of {P : Program} {w : World} {K : PySem.W.Frag} {mg : Str → Option Value} {base : Heap} (F : Free mg) {f : Addr} (s0 : Option (Addr × Addr × List Int)) (fix : List (Addr × HO)) (tabs : List (Addr × Str)) (B : Hp) (cdv : Value) (A : Around) (outer : List Env) (s : Shared) (H : Hp) (E : XK)
    (hr : Room 0 (A.deeper (envOfC "temp_of" (defScope s_temp_of) s.heap.objs.size f cdv))) :
    MSs (cxOf (L2.CX P w) P w K mg base N_temp_of "temp_of" (defScope s_temp_of) f cdv A outer s H E) ⟨K, s0, fix, tabs⟩ E false B (defBody s_temp_of) (m_temp_of (s0.map (·.1))) := by
  have hpx : Passes (L2.CX P w) (cxOf (L2.CX P w) P w K mg base N_temp_of "temp_of" (defScope s_temp_of) f cdv A outer s H E) E := passes_call (takes_of rfl rfl rfl rfl) (fun _ _ _ _ h => h)
  exact
  (mss_cons (ms_set sc_temp_of.nd (i := 2) rfl (by first | exact Or.inl rfl | exact Or.inr rfl) (MF.me (mf_lc (own := [("goal", 3)]) (t := (.nm 3)) rfl rfl sc_temp_of.nd (mi_any rfl (me_var 0)) (blkOk_by (N := N_temp_of) (sc := defScope s_temp_of) (by decide +kernel)) (by decide) (fun _ _ _ _ _ => (pg_nm sc_temp_of.nd (i := 3) rfl (by first | exact Or.inl rfl | exact Or.inr rfl))) (fun _ _ _ _ _ => mts_nil) (fun _ _ _ _ _ => (me_getK (hu_of hr) (me_var 0) (me_var 3))))))
  (mss_cons (ms_set sc_temp_of.nd (i := 4) rfl (by first | exact Or.inl rfl | exact Or.inr rfl) (me_add rfl (MF.me (mf_sorted F rfl rfl rfl (ma_cons (me_var 1) ma_nil))) (MF.me (mf_lc (own := [("goal", 3)]) (t := (.nm 3)) rfl rfl sc_temp_of.nd (mi_any rfl (MF.me (mf_sorted F rfl rfl rfl (ma_cons (me_var 0) ma_nil)))) (blkOk_by (N := N_temp_of) (sc := defScope s_temp_of) (by decide +kernel)) (by decide) (fun _ _ _ _ _ => (pg_nm sc_temp_of.nd (i := 3) rfl (by first | exact Or.inl rfl | exact Or.inr rfl))) (fun _ _ _ _ _ => (mts_one (mt_niS rfl (me_var 3) (me_var 2)))) (fun _ _ _ _ _ => (me_var 3))))))
  (mss_one (ms_ret (me_if (mt_ne rfl hr.units (me_var 4) (MF.me (mf_lst ma_nil))) (me_ix rfl (me_var 4) me_int) me_non)))))
theorem fn_temp_of {P : Program} {w : World} {K : PySem.W.Frag} {mg : Str → Option Value} {base : Heap} (F : Free mg) {f : Addr} {fd : FuncData} (G : Fun K "temp_of" "temp_of" s_temp_of f fd) : FnOk P w K mg base (L2.CX P w) 1 f fd ps_temp_of (LSp K mg false 2 sp_temp_of) :=
  fn_l3 (k := 0) G sc_temp_of rfl m_temp_of (fun s0 fix tabs B cdv A outer s H E hr => der_temp_of F s0 fix tabs B cdv A outer s H E hr) pu_temp_of
/-! ### tree_copies -/
abbrev s_tree_copies : Stmt := topS 23
theorem sc_tree_copies : FnScope N_tree_copies ps_tree_copies (defScope s_tree_copies) := ⟨rfl, rfl, rfl, by decide +kernel, rfl, by decide +kernel, by decide +kernel⟩
theorem der_tree_copies {P : Program} {w : World} {K : PySem.W.Frag} {mg : Str → Option Value} {base : Heap} (F : Free mg) {f : Addr} (s0 : Option (Addr × Addr × List Int)) (fix : List (Addr × HO)) (tabs : List (Addr × Str)) (B : Hp) (cdv : Value) (A : Around) (outer : List Env) (s : Shared) (H : Hp) (E : XK)
    (hr : Room 0 (A.deeper (envOfC "tree_copies" (defScope s_tree_copies) s.heap.objs.size f cdv))) :
    MSs (cxOf (L2.CX P w) P w K mg base N_tree_copies "tree_copies" (defScope s_tree_copies) f cdv A outer s H E) ⟨K, s0, fix, tabs⟩ E true B (defBody s_tree_copies) (m_tree_copies (s0.map (·.1))) := by
  have hpx : Passes (L2.CX P w) (cxOf (L2.CX P w) P w K mg base N_tree_copies "tree_copies" (defScope s_tree_copies) f cdv A outer s H E) E := passes_call (takes_of rfl rfl rfl rfl) (fun _ _ _ _ h => h)
  exact
  (mss_cons (ms_setF sc_tree_copies.nd (i := 2) rfl (by first | exact Or.inl rfl | exact Or.inr rfl) (mf_lc (own := [("goal", 3)]) (t := (.nm 3)) rfl rfl sc_tree_copies.nd (mi_any rfl (MF.me (mf_sorted F rfl rfl rfl (ma_cons (me_var 0) ma_nil)))) (blkOk_by (N := N_tree_copies) (sc := defScope s_tree_copies) (by decide +kernel)) (by decide) (fun _ _ _ _ _ => (pg_nm sc_tree_copies.nd (i := 3) rfl (by first | exact Or.inl rfl | exact Or.inr rfl))) (fun _ _ _ _ _ => (mts_one (mt_niS rfl (me_var 3) (me_var 1)))) (fun _ _ _ _ _ => (me_var 3))))
  (mss_cons (ms_setF sc_tree_copies.nd (i := 4) rfl (by first | exact Or.inl rfl | exact Or.inr rfl) (mf_lst ma_nil))
  (mss_cons (ms_while (passes_of rfl) (mt_ne rfl hr.units (me_var 2) (MF.me (mf_lst ma_nil))) (mss_cons (ms_setL sc_tree_copies.nd (i := 3) rfl (by first | exact Or.inl rfl | exact Or.inr rfl) (me_ix rfl (MF.me (mf_lc (own := [("one", 5)]) (t := (.nm 5)) rfl rfl sc_tree_copies.nd (mi_any rfl (me_var 2)) (blkOk_by (N := N_tree_copies) (sc := defScope s_tree_copies) (by decide +kernel)) (by decide) (fun _ _ _ _ _ => (pg_nm sc_tree_copies.nd (i := 5) rfl (by first | exact Or.inl rfl | exact Or.inr rfl))) (fun _ _ _ _ _ => (mts_one (mt_eq rfl hr.units (MF.me (mf_lc (own := [("other", 6)]) (t := (.nm 6)) rfl rfl sc_tree_copies.nd (mi_any rfl (me_var 2)) (blkOk_by rfl) (by decide) (fun _ _ _ _ _ => (pg_nm sc_tree_copies.nd (i := 6) rfl (by first | exact Or.inl rfl | exact Or.inr rfl))) (fun _ _ _ _ _ => (mts_one (mt_eq rfl hr.units (me_getK (hu_of hr) (me_var 0) (me_var 6)) (me_var 5)))) (fun _ _ _ _ _ => (me_var 6)))) (MF.me (mf_lst ma_nil))))) (fun _ _ _ _ _ => (me_var 5)))) me_int))
    (mss_cons (ms_append 4 (h := ps_expr (pe_bm PySem.F.plainAttrs_list PySem.F.slot_list_append PySem.F.type_list_append mt_append (pv 4) (pa_cons (me_tup (ma_cons me_str (ma_cons (me_var 3) (ma_cons (me_getK (hu_of hr) (me_var 0) (me_var 3)) ma_nil)))) pa_nil))))
    (mss_one (ms_remove 2 rfl (h := ps_expr (pe_bm PySem.F.plainAttrs_list PySem.F.slot_list_remove PySem.F.type_list_remove mt_remove (pv 2) (pa_cons (me_var 3) pa_nil))))))))
  (mss_one (ms_retO 4)))))
theorem fn_tree_copies {P : Program} {w : World} {K : PySem.W.Frag} {mg : Str → Option Value} {base : Heap} (F : Free mg) {f : Addr} {fd : FuncData} (G : Fun K "tree_copies" "tree_copies" s_tree_copies f fd) : FnOk P w K mg base (L2.CX P w) 1 f fd ps_tree_copies (LSp K mg true 2 sp_tree_copies) :=
  fn_l3 (k := 0) G sc_tree_copies rfl m_tree_copies (fun s0 fix tabs B cdv A outer s H E hr => der_tree_copies F s0 fix tabs B cdv A outer s H E hr) pu_tree_copies
/-! ### turned -/
abbrev s_turned : Stmt := topS 24
theorem sc_turned : FnScope N_turned ps_turned (defScope s_turned) := ⟨rfl, rfl, rfl, by decide +kernel, rfl, by decide +kernel, by decide +kernel⟩
theorem der_turned {P : Program} {w : World} {K : PySem.W.Frag} {mg : Str → Option Value} {base : Heap} (F : Free mg) {f : Addr} (s0 : Option (Addr × Addr × List Int)) (fix : List (Addr × HO)) (tabs : List (Addr × Str)) (B : Hp) (cdv : Value) (A : Around) (outer : List Env) (s : Shared) (H : Hp) (E : XK)
    (hr : Room 0 (A.deeper (envOfC "turned" (defScope s_turned) s.heap.objs.size f cdv))) :
    MSs (cxOf (L2.CX P w) P w K mg base N_turned "turned" (defScope s_turned) f cdv A outer s H E) ⟨K, s0, fix, tabs⟩ E true B (defBody s_turned) (m_turned (s0.map (·.1))) := by
  have hpx : Passes (L2.CX P w) (cxOf (L2.CX P w) P w K mg base N_turned "turned" (defScope s_turned) f cdv A outer s H E) E := passes_call (takes_of rfl rfl rfl rfl) (fun _ _ _ _ h => h)
  exact
  (mss_cons (ms_set sc_turned.nd (i := 3) rfl (by first | exact Or.inl rfl | exact Or.inr rfl) (me_len F rfl rfl (ma_cons (me_var 0) ma_nil)))
  (mss_cons (ms_setF sc_turned.nd (i := 4) rfl (by first | exact Or.inl rfl | exact Or.inr rfl) (mf_lst ma_nil))
  (mss_cons (ms_for (t := .nm 5) (passes_of rfl) rfl rfl (mi_range rfl F.range (ma_cons (me_sub (me_var 3) me_int) ma_nil)) (pg_nm sc_turned.nd (i := 5) rfl (by first | exact Or.inl rfl | exact Or.inr rfl)) (mss_one (ms_append 4 (h := ps_expr (pe_bm PySem.F.plainAttrs_list PySem.F.slot_list_append PySem.F.type_list_append mt_append (pv 4) (pa_cons (me_tup (ma_cons me_str (ma_cons (me_ix rfl (me_var 0) (me_mod (me_sub (me_var 1) (me_var 5)) (me_var 3))) (ma_cons (me_ix rfl (me_var 0) (me_mod (me_sub (me_sub (me_var 1) (me_var 5)) me_int) (me_var 3))) ma_nil)))) pa_nil))))))
  (mss_one (ms_retF (mf_cat (me_var 4) (MF.me (mf_lst (ma_cons (me_tup (ma_cons me_str (ma_cons (me_ix rfl (me_var 0) (me_mod (me_add rfl (me_var 1) me_int) (me_var 3))) (ma_cons (me_var 2) ma_nil)))) ma_nil)))))))))
theorem fn_turned {P : Program} {w : World} {K : PySem.W.Frag} {mg : Str → Option Value} {base : Heap} (F : Free mg) {f : Addr} {fd : FuncData} (G : Fun K "turned" "turned" s_turned f fd) : FnOk P w K mg base (L2.CX P w) 1 f fd ps_turned (LSp K mg true 3 sp_turned) :=
  fn_l3 (k := 0) G sc_turned rfl m_turned (fun s0 fix tabs B cdv A outer s H E hr => der_turned F s0 fix tabs B cdv A outer s H E hr) pu_turned
/-! ### around_of -/
abbrev s_around_of : Stmt := topS 25
theorem sc_around_of : FnScope N_around_of ps_around_of (defScope s_around_of) := ⟨rfl, rfl, rfl, by decide +kernel, rfl, by decide +kernel, by decide +kernel⟩
theorem der_around_of {P : Program} {w : World} {K : PySem.W.Frag} {mg : Str → Option Value} {base : Heap} (F : Free mg) {f : Addr} (s0 : Option (Addr × Addr × List Int)) (fix : List (Addr × HO)) (tabs : List (Addr × Str)) (B : Hp) (cdv : Value) (A : Around) (outer : List Env) (s : Shared) (H : Hp) (E : XK)
    (hr : Room 0 (A.deeper (envOfC "around_of" (defScope s_around_of) s.heap.objs.size f cdv))) :
    MSs (cxOf (L2.CX P w) P w K mg base N_around_of "around_of" (defScope s_around_of) f cdv A outer s H E) ⟨K, s0, fix, tabs⟩ E true B (defBody s_around_of) (m_around_of (s0.map (·.1))) := by
  have hpx : Passes (L2.CX P w) (cxOf (L2.CX P w) P w K mg base N_around_of "around_of" (defScope s_around_of) f cdv A outer s H E) E := passes_call (takes_of rfl rfl rfl rfl) (fun _ _ _ _ h => h)
  exact
  (mss_cons (ms_setF sc_around_of.nd (i := 1) rfl (by first | exact Or.inl rfl | exact Or.inr rfl) (mf_lst ma_nil))
  (mss_cons (ms_for (t := .nm 2) (passes_of rfl) rfl rfl (mi_any rfl (me_var 0)) (pg_nm sc_around_of.nd (i := 2) rfl (by first | exact Or.inl rfl | exact Or.inr rfl)) (mss_one (ms_extend 1 rfl (h := ps_expr (pe_bm PySem.F.plainAttrs_list PySem.F.slot_list_extend PySem.F.type_list_extend mt_extend (pv 1) (pa_cons (MF.me (mf_list F rfl rfl (ma_cons (me_var 2) ma_nil))) pa_nil))))))
  (mss_one (ms_retO 1))))
theorem fn_around_of {P : Program} {w : World} {K : PySem.W.Frag} {mg : Str → Option Value} {base : Heap} (F : Free mg) {f : Addr} {fd : FuncData} (G : Fun K "around_of" "around_of" s_around_of f fd) : FnOk P w K mg base (L2.CX P w) 1 f fd ps_around_of (LSp K mg true 1 sp_around_of) :=
  fn_l3 (k := 0) G sc_around_of rfl m_around_of (fun s0 fix tabs B cdv A outer s H E hr => der_around_of F s0 fix tabs B cdv A outer s H E hr) pu_around_of
/-! ### by_copies -/
abbrev s_by_copies : Stmt := topS 27
theorem sc_by_copies : FnScope N_by_copies ps_by_copies (defScope s_by_copies) := ⟨rfl, rfl, rfl, by decide +kernel, rfl, by decide +kernel, by decide +kernel⟩
theorem der_by_copies {P : Program} {w : World} {K : PySem.W.Frag} {mg : Str → Option Value} {base : Heap} (F : Free mg) (d_around_of : Df P w K mg base "around_of" 1 true 1 sp_around_of) (d_need_lead : Df P w K mg base "need_lead" 2 false 2 sp_need_lead) (d_need_spares : Df P w K mg base "need_spares" 2 false 3 sp_need_spares) (d_outward : Df P w K mg base "outward" 1 false 2 sp_outward) (d_real_pairs : Df P w K mg base "real_pairs" 1 false 1 sp_real_pairs) (d_rings_of : Df P w K mg base "rings_of" 2 true 1 sp_rings_of) (d_shut_of : Df P w K mg base "shut_of" 3 true 1 sp_shut_of) (d_temp_of : Df P w K mg base "temp_of" 1 false 2 sp_temp_of) (d_tree_copies : Df P w K mg base "tree_copies" 1 true 2 sp_tree_copies) (d_turned : Df P w K mg base "turned" 1 true 3 sp_turned) (x_NoWay : XOk K mg "NoWay") {f : Addr} (s0 : Option (Addr × Addr × List Int)) (fix : List (Addr × HO)) (tabs : List (Addr × Str)) (B : Hp) (cdv : Value) (A : Around) (outer : List Env) (s : Shared) (H : Hp) (E : XK)
    (hr : Room 3 (A.deeper (envOfC "by_copies" (defScope s_by_copies) s.heap.objs.size f cdv))) :
    MSs (cxOf (L2.CX P w) P w K mg base N_by_copies "by_copies" (defScope s_by_copies) f cdv A outer s H E) ⟨K, s0, fix, tabs⟩ E true B (defBody s_by_copies) (m_by_copies (s0.map (·.1))) := by
  have hpx : Passes (L2.CX P w) (cxOf (L2.CX P w) P w K mg base N_by_copies "by_copies" (defScope s_by_copies) f cdv A outer s H E) E := passes_call (takes_of rfl rfl rfl rfl) (fun _ _ _ _ h => h)
  exact
  (mss_cons (ms_expr (me_call d_need_lead (hr.mono (by first | decide | omega)) rfl hpx rfl (ma_cons (me_var 0) (ma_cons (me_var 1) ma_nil))))
  (mss_cons (ms_expr (me_call d_need_spares (hr.mono (by first | decide | omega)) rfl hpx rfl (ma_cons (me_var 0) (ma_cons (me_var 1) (ma_cons (me_var 2) ma_nil)))))
  (mss_cons (ms_set sc_by_copies.nd (i := 3) rfl (by first | exact Or.inl rfl | exact Or.inr rfl) (me_call d_real_pairs (hr.mono (by first | decide | omega)) rfl hpx rfl (ma_cons (me_var 1) ma_nil)))
  (mss_cons (ms_set sc_by_copies.nd (i := 4) rfl (by first | exact Or.inl rfl | exact Or.inr rfl) (MF.me (mf_call d_shut_of (hr.mono (by first | decide | omega)) rfl hpx rfl (ma_cons (me_var 3) ma_nil))))
  (mss_cons (ms_set sc_by_copies.nd (i := 5) rfl (by first | exact Or.inl rfl | exact Or.inr rfl) (me_call d_temp_of (hr.mono (by first | decide | omega)) rfl hpx rfl (ma_cons (me_var 3) (ma_cons (me_var 2) ma_nil))))
  (mss_cons (ms_if (mt_w (mw_and (mt_ne rfl hr.units (me_var 4) (MF.me (mf_lst ma_nil))) (mw_and1 (mt_isN (me_var 5) me_non)))) (mss_one (ms_raiseX x_NoWay rfl (takes_of rfl rfl rfl rfl) rfl)) mss_nil)
  (mss_cons (ms_setF sc_by_copies.nd (i := 6) rfl (by first | exact Or.inl rfl | exact Or.inr rfl) (mf_lst ma_nil))
  (mss_cons (ms_for (t := .nm 7) (passes_of rfl) rfl rfl (mi_any rfl (me_var 4)) (pg_nm sc_by_copies.nd (i := 7) rfl (by first | exact Or.inl rfl | exact Or.inr rfl)) (mss_one (ms_setFC sc_by_copies.nd (i := 6) rfl (by first | exact Or.inl rfl | exact Or.inr rfl) (mf_cat (me_add rfl (me_var 6) (MF.me (mf_lst (ma_cons (me_tup (ma_cons me_str (ma_cons (me_var 5) (ma_cons (me_ix rfl (me_var 7) me_int) ma_nil)))) ma_nil)))) (MF.me (mf_call d_turned (hr.mono (by first | decide | omega)) rfl hpx rfl (ma_cons (me_var 7) (ma_cons me_int (ma_cons (me_var 5) ma_nil)))))))))
  (mss_cons (ms_set sc_by_copies.nd (i := 8) rfl (by first | exact Or.inl rfl | exact Or.inr rfl) (MF.me (mf_call d_rings_of (hr.mono (by first | decide | omega)) rfl hpx rfl (ma_cons (me_var 3) ma_nil))))
  (mss_cons (ms_setFC sc_by_copies.nd (i := 6) rfl (by first | exact Or.inl rfl | exact Or.inr rfl) (mf_cat (me_var 6) (MF.me (mf_call d_tree_copies (hr.mono (by first | decide | omega)) rfl hpx rfl (ma_cons (me_var 3) (ma_cons (MF.me (mf_call d_around_of (hr.mono (by first | decide | omega)) rfl hpx rfl (ma_cons (me_var 8) ma_nil))) ma_nil))))))
  (mss_cons (ms_for (t := .nm 7) (passes_of rfl) rfl rfl (mi_any rfl (me_var 8)) (pg_nm sc_by_copies.nd (i := 7) rfl (by first | exact Or.inl rfl | exact Or.inr rfl)) (mss_one (ms_if (mt_niDp rfl (u65 hr) (me_var 7) (me_var 4)) (mss_cons (ms_setT (t := .tp [9, 10]) rfl (me_ix rfl (me_call d_outward (hr.mono (by first | decide | omega)) rfl hpx rfl (ma_cons (me_var 3) (ma_cons (me_var 7) ma_nil))) me_int) (pg_tp rfl (pgs_nm sc_by_copies.nd (i := 9) rfl (by first | exact Or.inl rfl | exact Or.inr rfl) (pgs_nm sc_by_copies.nd (i := 10) rfl (by first | exact Or.inl rfl | exact Or.inr rfl) pgs_no))))
      (mss_one (ms_setFC sc_by_copies.nd (i := 6) rfl (by first | exact Or.inl rfl | exact Or.inr rfl) (mf_cat (me_var 6) (MF.me (mf_call d_turned (hr.mono (by first | decide | omega)) rfl hpx rfl (ma_cons (me_var 7) (ma_cons (me_indexT rfl (pe_bmT PySem.F.plainAttrs_tuple PySem.F.slot_tuple_index PySem.F.type_tuple_index mt_indexTF (me_var 7) (pa_cons (me_var 10) pa_nil))) (ma_cons (me_var 9) ma_nil))))))))) mss_nil)))
  (mss_one (ms_retO 6)))))))))))))
theorem fn_by_copies {P : Program} {w : World} {K : PySem.W.Frag} {mg : Str → Option Value} {base : Heap} (F : Free mg) (d_around_of : Df P w K mg base "around_of" 1 true 1 sp_around_of) (d_need_lead : Df P w K mg base "need_lead" 2 false 2 sp_need_lead) (d_need_spares : Df P w K mg base "need_spares" 2 false 3 sp_need_spares) (d_outward : Df P w K mg base "outward" 1 false 2 sp_outward) (d_real_pairs : Df P w K mg base "real_pairs" 1 false 1 sp_real_pairs) (d_rings_of : Df P w K mg base "rings_of" 2 true 1 sp_rings_of) (d_shut_of : Df P w K mg base "shut_of" 3 true 1 sp_shut_of) (d_temp_of : Df P w K mg base "temp_of" 1 false 2 sp_temp_of) (d_tree_copies : Df P w K mg base "tree_copies" 1 true 2 sp_tree_copies) (d_turned : Df P w K mg base "turned" 1 true 3 sp_turned) (x_NoWay : XOk K mg "NoWay") {f : Addr} {fd : FuncData} (G : Fun K "by_copies" "by_copies" s_by_copies f fd) : FnOk P w K mg base (L2.CX P w) 4 f fd ps_by_copies (LSp K mg true 3 sp_by_copies) :=
  fn_l3 (k := 3) G sc_by_copies rfl m_by_copies (fun s0 fix tabs B cdv A outer s H E hr => der_by_copies F d_around_of d_need_lead d_need_spares d_outward d_real_pairs d_rings_of d_shut_of d_temp_of d_tree_copies d_turned x_NoWay s0 fix tabs B cdv A outer s H E hr) pu_by_copies
/-! ### paper -/
abbrev s_paper : Stmt := topS 29
theorem sc_paper : FnScope N_paper ps_paper (defScope s_paper) := ⟨rfl, rfl, rfl, by decide +kernel, rfl, by decide +kernel, by decide +kernel⟩
theorem der_paper {P : Program} {w : World} {K : PySem.W.Frag} {mg : Str → Option Value} {base : Heap} (F : Free mg) (d_need_lead : Df P w K mg base "need_lead" 2 false 2 sp_need_lead) (d_real_pairs : Df P w K mg base "real_pairs" 1 false 1 sp_real_pairs) (d_rings_of : Df P w K mg base "rings_of" 2 true 1 sp_rings_of) (d_shut_of : Df P w K mg base "shut_of" 3 true 1 sp_shut_of) {f : Addr} (s0 : Option (Addr × Addr × List Int)) (fix : List (Addr × HO)) (tabs : List (Addr × Str)) (B : Hp) (cdv : Value) (A : Around) (outer : List Env) (s : Shared) (H : Hp) (E : XK)
    (hr : Room 3 (A.deeper (envOfC "paper" (defScope s_paper) s.heap.objs.size f cdv))) :
    MSs (cxOf (L2.CX P w) P w K mg base N_paper "paper" (defScope s_paper) f cdv A outer s H E) ⟨K, s0, fix, tabs⟩ E false B (defBody s_paper) (m_paper (s0.map (·.1))) := by
  have hpx : Passes (L2.CX P w) (cxOf (L2.CX P w) P w K mg base N_paper "paper" (defScope s_paper) f cdv A outer s H E) E := passes_call (takes_of rfl rfl rfl rfl) (fun _ _ _ _ h => h)
  exact
  (mss_cons (ms_expr (me_call d_need_lead (hr.mono (by first | decide | omega)) rfl hpx rfl (ma_cons (me_var 0) (ma_cons (me_var 1) ma_nil))))
  (mss_cons (ms_set sc_paper.nd (i := 2) rfl (by first | exact Or.inl rfl | exact Or.inr rfl) (me_call d_real_pairs (hr.mono (by first | decide | omega)) rfl hpx rfl (ma_cons (me_var 1) ma_nil)))
  (mss_one (ms_ret (me_tup (ma_cons (MF.me (mf_sorted F rfl rfl rfl (ma_cons (me_var 2) ma_nil))) (ma_cons (MF.me (mf_call d_shut_of (hr.mono (by first | decide | omega)) rfl hpx rfl (ma_cons (me_var 2) ma_nil))) (ma_cons (MF.me (mf_call d_rings_of (hr.mono (by first | decide | omega)) rfl hpx rfl (ma_cons (me_var 2) ma_nil))) ma_nil))))))))
theorem fn_paper {P : Program} {w : World} {K : PySem.W.Frag} {mg : Str → Option Value} {base : Heap} (F : Free mg) (d_need_lead : Df P w K mg base "need_lead" 2 false 2 sp_need_lead) (d_real_pairs : Df P w K mg base "real_pairs" 1 false 1 sp_real_pairs) (d_rings_of : Df P w K mg base "rings_of" 2 true 1 sp_rings_of) (d_shut_of : Df P w K mg base "shut_of" 3 true 1 sp_shut_of) {f : Addr} {fd : FuncData} (G : Fun K "paper" "paper" s_paper f fd) : FnOk P w K mg base (L2.CX P w) 4 f fd ps_paper (LSp K mg false 2 sp_paper) :=
  fn_l3 (k := 3) G sc_paper rfl m_paper (fun s0 fix tabs B cdv A outer s H E hr => der_paper F d_need_lead d_real_pairs d_rings_of d_shut_of s0 fix tabs B cdv A outer s H E hr) pu_paper
/-! ### least -/
abbrev s_least : Stmt := topS 30
theorem sc_least : FnScope N_least ps_least (defScope s_least) := ⟨rfl, rfl, rfl, by decide +kernel, rfl, by decide +kernel, by decide +kernel⟩
theorem der_least {P : Program} {w : World} {K : PySem.W.Frag} {mg : Str → Option Value} {base : Heap} (F : Free mg) (d_paper : Df P w K mg base "paper" 4 false 2 sp_paper) (x_BadWord : XOk K mg "BadWord") {f : Addr} (s0 : Option (Addr × Addr × List Int)) (fix : List (Addr × HO)) (tabs : List (Addr × Str)) (B : Hp) (cdv : Value) (A : Around) (outer : List Env) (s : Shared) (H : Hp) (E : XK)
    (hr : Room 4 (A.deeper (envOfC "least" (defScope s_least) s.heap.objs.size f cdv))) :
    MSs (cxOf (L2.CX P w) P w K mg base N_least "least" (defScope s_least) f cdv A outer s H E) ⟨K, s0, fix, tabs⟩ E false B (defBody s_least) (m_least (s0.map (·.1))) := by
  have hpx : Passes (L2.CX P w) (cxOf (L2.CX P w) P w K mg base N_least "least" (defScope s_least) f cdv A outer s H E) E := passes_call (takes_of rfl rfl rfl rfl) (fun _ _ _ _ h => h)
  exact
  (mss_cons (ms_setT (t := .tp [3, 4, 5]) rfl (me_call d_paper (hr.mono (by first | decide | omega)) rfl hpx rfl (ma_cons (me_var 0) (ma_cons (me_var 1) ma_nil))) (pg_tp rfl (pgs_nm sc_least.nd (i := 3) rfl (by first | exact Or.inl rfl | exact Or.inr rfl) (pgs_nm sc_least.nd (i := 4) rfl (by first | exact Or.inl rfl | exact Or.inr rfl) (pgs_nm sc_least.nd (i := 5) rfl (by first | exact Or.inl rfl | exact Or.inr rfl) pgs_no)))))
  (mss_cons (ms_if (mt_eq rfl hr.units (me_var 2) me_str) (mss_one (ms_ret (me_add rfl (me_len F rfl rfl (ma_cons (me_var 3) ma_nil)) (me_len F rfl rfl (ma_cons (me_var 4) ma_nil))))) mss_nil)
  (mss_cons (ms_if (mt_ne rfl hr.units (me_var 2) me_str) (mss_one (ms_raiseX x_BadWord rfl (takes_of rfl rfl rfl rfl) rfl)) mss_nil)
  (mss_one (ms_ret (me_sub (me_len F rfl rfl (ma_cons (me_var 3) ma_nil)) (me_len F rfl rfl (ma_cons (me_var 5) ma_nil))))))))
theorem fn_least {P : Program} {w : World} {K : PySem.W.Frag} {mg : Str → Option Value} {base : Heap} (F : Free mg) (d_paper : Df P w K mg base "paper" 4 false 2 sp_paper) (x_BadWord : XOk K mg "BadWord") {f : Addr} {fd : FuncData} (G : Fun K "least" "least" s_least f fd) : FnOk P w K mg base (L2.CX P w) 5 f fd ps_least (LSp K mg false 3 sp_least) :=
  fn_l3 (k := 4) G sc_least rfl m_least (fun s0 fix tabs B cdv A outer s H E hr => der_least F d_paper x_BadWord s0 fix tabs B cdv A outer s H E hr) pu_least
/-! ### by_swaps -/
abbrev s_by_swaps : Stmt := topS 28
theorem sc_by_swaps : FnScope N_by_swaps ps_by_swaps (defScope s_by_swaps) := ⟨rfl, rfl, rfl, by decide +kernel, rfl, by decide +kernel, by decide +kernel⟩
theorem der_by_swaps {P : Program} {w : World} {K : PySem.W.Frag} {mg : Str → Option Value} {base : Heap} (F : Free mg) (d_around_of : Df P w K mg base "around_of" 1 true 1 sp_around_of) (d_need_lead : Df P w K mg base "need_lead" 2 false 2 sp_need_lead) (d_real_pairs : Df P w K mg base "real_pairs" 1 false 1 sp_real_pairs) (d_rings_of : Df P w K mg base "rings_of" 2 true 1 sp_rings_of) (d_tree_copies : Df P w K mg base "tree_copies" 1 true 2 sp_tree_copies) {f : Addr} (s0 : Option (Addr × Addr × List Int)) (fix : List (Addr × HO)) (tabs : List (Addr × Str)) (B : Hp) (cdv : Value) (A : Around) (outer : List Env) (s : Shared) (H : Hp) (E : XK)
    (hr : Room 2 (A.deeper (envOfC "by_swaps" (defScope s_by_swaps) s.heap.objs.size f cdv))) :
    MSs (cxOf (L2.CX P w) P w K mg base N_by_swaps "by_swaps" (defScope s_by_swaps) f cdv A outer s H E) ⟨K, s0, fix, tabs⟩ E true B (defBody s_by_swaps) (m_by_swaps (s0.map (·.1))) := by
  have hpx : Passes (L2.CX P w) (cxOf (L2.CX P w) P w K mg base N_by_swaps "by_swaps" (defScope s_by_swaps) f cdv A outer s H E) E := passes_call (takes_of rfl rfl rfl rfl) (fun _ _ _ _ h => h)
  exact
  (mss_cons (ms_expr (me_call d_need_lead (hr.mono (by first | decide | omega)) rfl hpx rfl (ma_cons (me_var 0) (ma_cons (me_var 1) ma_nil))))
  (mss_cons (ms_set sc_by_swaps.nd (i := 2) rfl (by first | exact Or.inl rfl | exact Or.inr rfl) (me_call d_real_pairs (hr.mono (by first | decide | omega)) rfl hpx rfl (ma_cons (me_var 1) ma_nil)))
  (mss_cons (ms_set sc_by_swaps.nd (i := 3) rfl (by first | exact Or.inl rfl | exact Or.inr rfl) (MF.me (mf_call d_rings_of (hr.mono (by first | decide | omega)) rfl hpx rfl (ma_cons (me_var 2) ma_nil))))
  (mss_cons (ms_setF sc_by_swaps.nd (i := 4) rfl (by first | exact Or.inl rfl | exact Or.inr rfl) (mf_call d_tree_copies (hr.mono (by first | decide | omega)) rfl hpx rfl (ma_cons (me_var 2) (ma_cons (MF.me (mf_call d_around_of (hr.mono (by first | decide | omega)) rfl hpx rfl (ma_cons (me_var 3) ma_nil))) ma_nil))))
  (mss_cons (ms_for (t := .nm 5) (passes_of rfl) rfl rfl (mi_any rfl (me_var 3)) (pg_nm sc_by_swaps.nd (i := 5) rfl (by first | exact Or.inl rfl | exact Or.inr rfl)) (mss_one (ms_extend 4 rfl (h := ps_expr (pe_bm PySem.F.plainAttrs_list PySem.F.slot_list_extend PySem.F.type_list_extend mt_extend (pv 4) (pa_cons (MF.me (mf_lc (own := [("box", 6)]) (t := (.nm 6)) rfl rfl sc_by_swaps.nd (mi_any rfl (me_sl rfl (me_var 5) (mo_some me_int) mo_none)) (blkOk_by (N := N_by_swaps) (sc := defScope s_by_swaps) (by decide +kernel)) (by decide) (fun _ _ _ _ _ => (pg_nm sc_by_swaps.nd (i := 6) rfl (by first | exact Or.inl rfl | exact Or.inr rfl))) (fun _ _ _ _ _ => mts_nil) (fun _ _ _ _ _ => (me_tup (ma_cons me_str (ma_cons (me_ix rfl (me_var 5) me_int) (ma_cons (me_var 6) ma_nil))))))) pa_nil))))))
  (mss_one (ms_retO 4)))))))
theorem fn_by_swaps {P : Program} {w : World} {K : PySem.W.Frag} {mg : Str → Option Value} {base : Heap} (F : Free mg) (d_around_of : Df P w K mg base "around_of" 1 true 1 sp_around_of) (d_need_lead : Df P w K mg base "need_lead" 2 false 2 sp_need_lead) (d_real_pairs : Df P w K mg base "real_pairs" 1 false 1 sp_real_pairs) (d_rings_of : Df P w K mg base "rings_of" 2 true 1 sp_rings_of) (d_tree_copies : Df P w K mg base "tree_copies" 1 true 2 sp_tree_copies) {f : Addr} {fd : FuncData} (G : Fun K "by_swaps" "by_swaps" s_by_swaps f fd) : FnOk P w K mg base (L2.CX P w) 3 f fd ps_by_swaps (LSp K mg true 2 sp_by_swaps) :=
  fn_l3 (k := 2) G sc_by_swaps rfl m_by_swaps (fun s0 fix tabs B cdv A outer s H E hr => der_by_swaps F d_around_of d_need_lead d_real_pairs d_rings_of d_tree_copies s0 fix tabs B cdv A outer s H E hr) pu_by_swaps
/-! ### law -/
abbrev s_law : Stmt := topS 48
theorem sc_law : FnScope N_law ps_law (defScope s_law) := ⟨rfl, rfl, rfl, by decide +kernel, rfl, by decide +kernel, by decide +kernel⟩
set_option maxHeartbeats 2000000 in
theorem der_law {P : Program} {w : World} {K : PySem.W.Frag} {mg : Str → Option Value} {base : Heap} (F : Free mg) (d__law_drawn : Df P w K mg base "_law_drawn" 1 false 2 sp__law_drawn) (d__law_fewest : Df P w K mg base "_law_fewest" 2 false 4 sp__law_fewest) (d__law_lead : Df P w K mg base "_law_lead" 3 false 2 sp__law_lead) (d__law_spares : Df P w K mg base "_law_spares" 3 false 3 sp__law_spares) (d_by_copies : Df P w K mg base "by_copies" 4 true 3 sp_by_copies) (d_by_swaps : Df P w K mg base "by_swaps" 3 true 2 sp_by_swaps) (d_least : Df P w K mg base "least" 5 false 3 sp_least) (zVE : mg "ValueError" = none) (gM : ∃ A, mg "MoveError" = some (.ref A)) {gk : Addr} {odk ank : Option Addr} {slk : Array (Option Value)} {ock kVk dck pmk cdk ctk : Value} (gK : mg "_law_kind" = some (.ref gk)) (kK : PySem.W.keepIn K (.ref gk) = true) (lK : K.lookup gk = some ⟨ock, odk, .func (PySem.W.fnOf "_law_kind" "_law_kind" (defArgs s__law_kind) (defBody s__law_kind) (defScope s__law_kind) .none kVk dck pmk ank cdk ctk), slk⟩) (cK : PySem.W.codeIn K cdk "_law_kind" = true) (bK : L2.Binds K (PySem.W.fnOf "_law_kind" "_law_kind" (defArgs s__law_kind) (defBody s__law_kind) (defScope s__law_kind) .none kVk dck pmk ank cdk ctk) ["_law_work"] [])
    (kt : ∀ w ∈ (["NoWay"] : List Str), ∃ D, mg w = some (.ref D) ∧ Kinds K mg D w) (ktn : ∀ w ∈ ([] : List Str), ∃ D, mg w = some (.ref D) ∧ Kinds K mg D w ∧ XfC K D ∧ PySem.W.findIn K (.ref D) (fieldOf w) = some none) {c T : Addr} (TB : LamX.TabB base mg c T) {f : Addr} (A : Around) (outer : List Env) (s : Shared) (H : Hp) (E : XK) (hr : Room 6 (A.deeper (envOfC "law" (defScope s_law) s.heap.objs.size f (.ref c)))) (s0 : Option (Addr × Addr × List Int)) (fix : List (Addr × HO)) (hfx : ∀ p ∈ fix, notTbl p.2 = true) (B : Hp) :
    MSs (cxOf (L2.CX P w) P w K mg base N_law "law" (defScope s_law) f (.ref c) A outer s H E) ⟨K, s0, fix, [(T, lamQ)]⟩ E false B (defBody s_law).tail (m_law_k07 (s0.map (·.1))) := by
  have hpx : Passes (L2.CX P w) (cxOf (L2.CX P w) P w K mg base N_law "law" (defScope s_law) f (.ref c) A outer s H E) E := passes_call (takes_of rfl rfl rfl rfl) (fun _ _ _ _ h => h)
  exact
  (mss_cons (ms_for (t := .nm 2) (passes_of rfl) rfl rfl (mi_range rfl F.range (ma_cons me_int ma_nil)) (pg_nm sc_law.nd (i := 2) rfl (by first | exact Or.inl rfl | exact Or.inr rfl)) (mss_cons (ms_set sc_law.nd (i := 3) rfl (by first | exact Or.inl rfl | exact Or.inr rfl) (me_add rfl me_int (me_call d__law_drawn (hr.mono (by first | decide | omega)) rfl hpx rfl (ma_cons (me_var 1) (ma_cons me_int ma_nil)))))
    (mss_cons (ms_set sc_law.nd (i := 4) rfl (by first | exact Or.inl rfl | exact Or.inr rfl) (me_call d__law_lead (hr.mono (by first | decide | omega)) rfl hpx rfl (ma_cons (me_var 1) (ma_cons (me_var 3) ma_nil))))
    (mss_cons (ms_set sc_law.nd (i := 5) rfl (by first | exact Or.inl rfl | exact Or.inr rfl) (me_call d__law_spares (hr.mono (by first | decide | omega)) rfl hpx rfl (ma_cons (me_var 1) (ma_cons (me_var 3) (ma_cons (me_var 4) ma_nil)))))
    (mss_cons (ms_set sc_law.nd (i := 6) rfl (by first | exact Or.inl rfl | exact Or.inr rfl) (me_call d__law_fewest (hr.mono (by first | decide | omega)) rfl hpx rfl (ma_cons (me_var 3) (ma_cons (me_var 4) (ma_cons (me_var 5) (ma_cons me_bl ma_nil))))))
    (mss_cons (ms_set sc_law.nd (i := 7) rfl (by first | exact Or.inl rfl | exact Or.inr rfl) (me_kindN (k := 4) (ws := (["NoWay"] : List Str)) (wn := ([] : List Str)) rfl hfx kt ktn rfl gK kK lK cK bK sc__law_kind rfl (Or.inl rfl) (gives_kindN rfl F zVE gM (fun _ => ((hr.mono (j := 1) (by decide)).deeper _).units) (by decide +kernel) (by decide +kernel)) TB rfl (mem_tab rfl (lam_q (by rfl))) (un_tab rfl (lam_q (by rfl))) (hr.mono (by decide)) (LamX.lamS_by (sc := defScope s_law) (by decide +kernel)) rfl (fun _ _ _ _ _ => rfl) (fun _ _ _ _ _ _ _ hr => (MF.me (mf_call d_by_copies (hr.mono (by first | decide | omega)) rfl (passes_call (takes_of rfl rfl rfl rfl) (fun _ _ _ _ h => h)) rfl (ma_cons (me_var 3) (ma_cons (me_var 4) (ma_cons (me_var 5) ma_nil))))))))
    (mss_cons (ms_if (mt_w (mw_and (mt_isN (me_var 6) me_non) (mw_and1 (mt_ne rfl hr.units (me_var 7) me_str)))) (mss_one (ms_ret me_bl)) mss_nil)
    (mss_cons (ms_if (mt_w (mw_and (mt_isNN (me_var 6) me_non) (mw_and1 (mt_w (mw_or (mt_ne rfl hr.units (me_len F rfl rfl (ma_cons (me_var 7) ma_nil)) (me_var 6)) (mw_or1 (mt_ne rfl hr.units (me_call d_least (hr.mono (by first | decide | omega)) rfl hpx rfl (ma_cons (me_var 3) (ma_cons (me_var 4) (ma_cons me_str ma_nil)))) (me_var 6)))))))) (mss_one (ms_ret me_bl)) mss_nil)
    (mss_cons (ms_set sc_law.nd (i := 6) rfl (by first | exact Or.inl rfl | exact Or.inr rfl) (me_call d__law_fewest (hr.mono (by first | decide | omega)) rfl hpx rfl (ma_cons (me_var 3) (ma_cons (me_var 4) (ma_cons (MF.me (mf_lst ma_nil)) (ma_cons me_bl ma_nil))))))
    (mss_one (ms_if (mt_w (mw_or (mt_ne rfl hr.units (me_len F rfl rfl (ma_cons (MF.me (mf_call d_by_swaps (hr.mono (by first | decide | omega)) rfl hpx rfl (ma_cons (me_var 3) (ma_cons (me_var 4) ma_nil)))) ma_nil)) (me_var 6)) (mw_or1 (mt_ne rfl hr.units (me_call d_least (hr.mono (by first | decide | omega)) rfl hpx rfl (ma_cons (me_var 3) (ma_cons (me_var 4) (ma_cons me_str ma_nil)))) (me_var 6))))) (mss_one (ms_ret me_bl)) mss_nil)))))))))))
  (mss_one (ms_ret me_bl)))
theorem fn_law {P : Program} {w : World} {K : PySem.W.Frag} {mg : Str → Option Value} {base : Heap} (F : Free mg) (d__law_drawn : Df P w K mg base "_law_drawn" 1 false 2 sp__law_drawn) (d__law_fewest : Df P w K mg base "_law_fewest" 2 false 4 sp__law_fewest) (d__law_lead : Df P w K mg base "_law_lead" 3 false 2 sp__law_lead) (d__law_spares : Df P w K mg base "_law_spares" 3 false 3 sp__law_spares) (d_by_copies : Df P w K mg base "by_copies" 4 true 3 sp_by_copies) (d_by_swaps : Df P w K mg base "by_swaps" 3 true 2 sp_by_swaps) (d_least : Df P w K mg base "least" 5 false 3 sp_least) (zVE : mg "ValueError" = none) (gM : ∃ A, mg "MoveError" = some (.ref A)) {gk : Addr} {odk ank : Option Addr} {slk : Array (Option Value)} {ock kVk dck pmk cdk ctk : Value} (gK : mg "_law_kind" = some (.ref gk)) (kK : PySem.W.keepIn K (.ref gk) = true) (lK : K.lookup gk = some ⟨ock, odk, .func (PySem.W.fnOf "_law_kind" "_law_kind" (defArgs s__law_kind) (defBody s__law_kind) (defScope s__law_kind) .none kVk dck pmk ank cdk ctk), slk⟩) (cK : PySem.W.codeIn K cdk "_law_kind" = true) (bK : L2.Binds K (PySem.W.fnOf "_law_kind" "_law_kind" (defArgs s__law_kind) (defBody s__law_kind) (defScope s__law_kind) .none kVk dck pmk ank cdk ctk) ["_law_work"] [])
    (kt : ∀ w ∈ (["NoWay"] : List Str), ∃ D, mg w = some (.ref D) ∧ Kinds K mg D w) (ktn : ∀ w ∈ ([] : List Str), ∃ D, mg w = some (.ref D) ∧ Kinds K mg D w ∧ XfC K D ∧ PySem.W.findIn K (.ref D) (fieldOf w) = some none) {c T : Addr} (TB : LamX.TabB base mg c T) {fS : Addr} {fdS : FuncData} (GS : Fun K "_law_start" "_law_start" s__law_start fS fdS) (bS : L2.Binds K fdS ["_law_script"] []) (gS : mg "_law_start" = some (.ref fS)) {f : Addr} {od an : Option Addr} {osl : Array (Option Value)} {oc kV doc pm ct : Value} (lk : K.lookup f = some ⟨oc, od, .func (PySem.W.fnOf "law" "law" (defArgs s_law) (defBody s_law) (defScope s_law) .none kV doc pm an (.ref c) ct), osl⟩) (hcd : PySem.W.codeIn K (.ref c) "law" = true) :
    FnOk P w K mg base (L2.CX P w) 7 f (PySem.W.fnOf "law" "law" (defArgs s_law) (defBody s_law) (defScope s_law) .none kV doc pm an (.ref c) ct) ps_law (spLawT K T) := by
  refine law_l3T (k := 6) (N := N_law) (T := T) lk hcd sc_law (fun sa => m_law_k07 sa) (first := (defBody s_law).head!) (rest := (defBody s_law).tail) rfl (by decide) (fun A outer s H E hr => ⟨?_, fun s0 fix hfx B => der_law F d__law_drawn d__law_fewest d__law_lead d__law_spares d_by_copies d_by_swaps d_least zVE gM gK kK lK cK bK kt ktn TB A outer s H E hr s0 fix hfx B⟩) pu_law_k07
  exact ps_set (i := 1) sc_law.nd rfl (by first | exact Or.inl rfl | exact Or.inr rfl) (pe_call (fn__law_start (k := 0) GS) (hr.mono (by decide)) rfl gS GS.kp bS .nil (passes_call (takes_of rfl rfl rfl rfl) (fun _ _ _ _ h => h)) (pa_cons (pe_either (pv 0) (pe_frz (pv 0))) pa_nil))
end L3
set_option pp.maxSteps 400
namespace L3
open PySem PySem.Spec PyProof.Rows L2
set_option maxHeartbeats 8000000 in
theorem all_mk {l : PySem.W.OpenLaw} {w : World} {K : PySem.W.Frag} {h : Heap} {mg : Str → Option Value} {fa f0 f1 f2 f3 f4 f5 f6 f7 f8 f9 f10 f11 f12 f13 f14 f15 f16 f17 f18 f19 f20 f21 f22 f23 f24 f25 f26 f27 cT TT A_BadLead A_BadSpare A_BadMove A_NoWay A_BadWord A_BadHouse A_BadCall A_BadText A_MoveError : Addr} (X : K.In h) (G : h.Ns mainGlobals mg) (hfa : mg "law" = some (.ref fa))
    {od0 an0 od1 an1 od2 an2 od3 an3 od4 an4 od5 an5 od6 an6 od7 an7 od8 an8 od9 an9 od10 an10 od11 an11 od12 an12 od13 an13 od14 an14 od15 an15 od16 an16 od17 an17 od18 an18 od19 an19 od20 an20 od21 an21 od22 an22 od23 an23 od24 an24 od25 an25 od26 an26 od27 an27 odt : Option Addr} {sl0 sl1 sl2 sl3 sl4 sl5 sl6 sl7 sl8 sl9 sl10 sl11 sl12 sl13 sl14 sl15 sl16 sl17 sl18 sl19 sl20 sl21 sl22 sl23 sl24 sl25 sl26 sl27 slt : Array (Option Value)} {oc0 kV0 dc0 pm0 ct0 cd0 oc1 kV1 dc1 pm1 ct1 cd1 oc2 kV2 dc2 pm2 ct2 cd2 oc3 kV3 dc3 pm3 ct3 cd3 oc4 kV4 dc4 pm4 ct4 cd4 oc5 kV5 dc5 pm5 ct5 cd5 oc6 kV6 dc6 pm6 ct6 cd6 oc7 kV7 dc7 pm7 ct7 cd7 oc8 kV8 dc8 pm8 ct8 cd8 oc9 kV9 dc9 pm9 ct9 cd9 oc10 kV10 dc10 pm10 ct10 cd10 oc11 kV11 dc11 pm11 ct11 cd11 oc12 kV12 dc12 pm12 ct12 cd12 oc13 kV13 dc13 pm13 ct13 cd13 oc14 kV14 dc14 pm14 ct14 cd14 oc15 kV15 dc15 pm15 ct15 cd15 oc16 kV16 dc16 pm16 ct16 cd16 oc17 kV17 dc17 pm17 ct17 cd17 oc18 kV18 dc18 pm18 ct18 cd18 oc19 kV19 dc19 pm19 ct19 cd19 oc20 kV20 dc20 pm20 ct20 cd20 oc21 kV21 dc21 pm21 ct21 cd21 oc22 kV22 dc22 pm22 ct22 cd22 oc23 kV23 dc23 pm23 ct23 cd23 oc24 kV24 dc24 pm24 ct24 cd24 oc25 kV25 dc25 pm25 ct25 cd25 oc26 kV26 dc26 pm26 ct26 cd26 oc27 kV27 dc27 pm27 ct27 oct : Value} {t0 : Tok} {vst : Array Value}
    (a0 : PySem.W.nsIn K mainGlobals "_law_start" = some (some (.ref f0)))
    (l0 : K.lookup f0 = some ⟨oc0, od0, .func (PySem.W.fnOf "_law_start" "_law_start" (defArgs s__law_start) (defBody s__law_start) (defScope s__law_start) .none kV0 dc0 pm0 an0 cd0 ct0), sl0⟩)
    (c0 : PySem.W.codeIn K cd0 "_law_start" = true)
    (k0 : PySem.W.keepIn K (.ref f0) = true)
    (a1 : PySem.W.nsIn K mainGlobals "_law_drawn" = some (some (.ref f1)))
    (l1 : K.lookup f1 = some ⟨oc1, od1, .func (PySem.W.fnOf "_law_drawn" "_law_drawn" (defArgs s__law_drawn) (defBody s__law_drawn) (defScope s__law_drawn) .none kV1 dc1 pm1 an1 cd1 ct1), sl1⟩)
    (c1 : PySem.W.codeIn K cd1 "_law_drawn" = true)
    (k1 : PySem.W.keepIn K (.ref f1) = true)
    (a2 : PySem.W.nsIn K mainGlobals "_law_order" = some (some (.ref f2)))
    (l2 : K.lookup f2 = some ⟨oc2, od2, .func (PySem.W.fnOf "_law_order" "_law_order" (defArgs s__law_order) (defBody s__law_order) (defScope s__law_order) .none kV2 dc2 pm2 an2 cd2 ct2), sl2⟩)
    (c2 : PySem.W.codeIn K cd2 "_law_order" = true)
    (k2 : PySem.W.keepIn K (.ref f2) = true)
    (a3 : PySem.W.nsIn K mainGlobals "_law_lead" = some (some (.ref f3)))
    (l3 : K.lookup f3 = some ⟨oc3, od3, .func (PySem.W.fnOf "_law_lead" "_law_lead" (defArgs s__law_lead) (defBody s__law_lead) (defScope s__law_lead) .none kV3 dc3 pm3 an3 cd3 ct3), sl3⟩)
    (c3 : PySem.W.codeIn K cd3 "_law_lead" = true)
    (k3 : PySem.W.keepIn K (.ref f3) = true)
    (a4 : PySem.W.nsIn K mainGlobals "_law_known" = some (some (.ref f4)))
    (l4 : K.lookup f4 = some ⟨oc4, od4, .func (PySem.W.fnOf "_law_known" "_law_known" (defArgs s__law_known) (defBody s__law_known) (defScope s__law_known) .none kV4 dc4 pm4 an4 cd4 ct4), sl4⟩)
    (c4 : PySem.W.codeIn K cd4 "_law_known" = true)
    (k4 : PySem.W.keepIn K (.ref f4) = true)
    (a5 : PySem.W.nsIn K mainGlobals "_law_free" = some (some (.ref f5)))
    (l5 : K.lookup f5 = some ⟨oc5, od5, .func (PySem.W.fnOf "_law_free" "_law_free" (defArgs s__law_free) (defBody s__law_free) (defScope s__law_free) .none kV5 dc5 pm5 an5 cd5 ct5), sl5⟩)
    (c5 : PySem.W.codeIn K cd5 "_law_free" = true)
    (k5 : PySem.W.keepIn K (.ref f5) = true)
    (a6 : PySem.W.nsIn K mainGlobals "_law_spares" = some (some (.ref f6)))
    (l6 : K.lookup f6 = some ⟨oc6, od6, .func (PySem.W.fnOf "_law_spares" "_law_spares" (defArgs s__law_spares) (defBody s__law_spares) (defScope s__law_spares) .none kV6 dc6 pm6 an6 cd6 ct6), sl6⟩)
    (c6 : PySem.W.codeIn K cd6 "_law_spares" = true)
    (k6 : PySem.W.keepIn K (.ref f6) = true)
    (a7 : PySem.W.nsIn K mainGlobals "_law_next" = some (some (.ref f7)))
    (l7 : K.lookup f7 = some ⟨oc7, od7, .func (PySem.W.fnOf "_law_next" "_law_next" (defArgs s__law_next) (defBody s__law_next) (defScope s__law_next) .none kV7 dc7 pm7 an7 cd7 ct7), sl7⟩)
    (c7 : PySem.W.codeIn K cd7 "_law_next" = true)
    (k7 : PySem.W.keepIn K (.ref f7) = true)
    (a8 : PySem.W.nsIn K mainGlobals "_law_fewest" = some (some (.ref f8)))
    (l8 : K.lookup f8 = some ⟨oc8, od8, .func (PySem.W.fnOf "_law_fewest" "_law_fewest" (defArgs s__law_fewest) (defBody s__law_fewest) (defScope s__law_fewest) .none kV8 dc8 pm8 an8 cd8 ct8), sl8⟩)
    (c8 : PySem.W.codeIn K cd8 "_law_fewest" = true)
    (k8 : PySem.W.keepIn K (.ref f8) = true)
    (a9 : PySem.W.nsIn K mainGlobals "_law_kind" = some (some (.ref f9)))
    (l9 : K.lookup f9 = some ⟨oc9, od9, .func (PySem.W.fnOf "_law_kind" "_law_kind" (defArgs s__law_kind) (defBody s__law_kind) (defScope s__law_kind) .none kV9 dc9 pm9 an9 cd9 ct9), sl9⟩)
    (c9 : PySem.W.codeIn K cd9 "_law_kind" = true)
    (k9 : PySem.W.keepIn K (.ref f9) = true)
    (a10 : PySem.W.nsIn K mainGlobals "need_boxes" = some (some (.ref f10)))
    (l10 : K.lookup f10 = some ⟨oc10, od10, .func (PySem.W.fnOf "need_boxes" "need_boxes" (defArgs s_need_boxes) (defBody s_need_boxes) (defScope s_need_boxes) .none kV10 dc10 pm10 an10 cd10 ct10), sl10⟩)
    (c10 : PySem.W.codeIn K cd10 "need_boxes" = true)
    (k10 : PySem.W.keepIn K (.ref f10) = true)
    (a11 : PySem.W.nsIn K mainGlobals "is_box" = some (some (.ref f11)))
    (l11 : K.lookup f11 = some ⟨oc11, od11, .func (PySem.W.fnOf "is_box" "is_box" (defArgs s_is_box) (defBody s_is_box) (defScope s_is_box) .none kV11 dc11 pm11 an11 cd11 ct11), sl11⟩)
    (c11 : PySem.W.codeIn K cd11 "is_box" = true)
    (k11 : PySem.W.keepIn K (.ref f11) = true)
    (a12 : PySem.W.nsIn K mainGlobals "need_lead" = some (some (.ref f12)))
    (l12 : K.lookup f12 = some ⟨oc12, od12, .func (PySem.W.fnOf "need_lead" "need_lead" (defArgs s_need_lead) (defBody s_need_lead) (defScope s_need_lead) .none kV12 dc12 pm12 an12 cd12 ct12), sl12⟩)
    (c12 : PySem.W.codeIn K cd12 "need_lead" = true)
    (k12 : PySem.W.keepIn K (.ref f12) = true)
    (a13 : PySem.W.nsIn K mainGlobals "real_pairs" = some (some (.ref f13)))
    (l13 : K.lookup f13 = some ⟨oc13, od13, .func (PySem.W.fnOf "real_pairs" "real_pairs" (defArgs s_real_pairs) (defBody s_real_pairs) (defScope s_real_pairs) .none kV13 dc13 pm13 an13 cd13 ct13), sl13⟩)
    (c13 : PySem.W.codeIn K cd13 "real_pairs" = true)
    (k13 : PySem.W.keepIn K (.ref f13) = true)
    (a14 : PySem.W.nsIn K mainGlobals "need_spares" = some (some (.ref f14)))
    (l14 : K.lookup f14 = some ⟨oc14, od14, .func (PySem.W.fnOf "need_spares" "need_spares" (defArgs s_need_spares) (defBody s_need_spares) (defScope s_need_spares) .none kV14 dc14 pm14 an14 cd14 ct14), sl14⟩)
    (c14 : PySem.W.codeIn K cd14 "need_spares" = true)
    (k14 : PySem.W.keepIn K (.ref f14) = true)
    (a15 : PySem.W.nsIn K mainGlobals "ring_from" = some (some (.ref f15)))
    (l15 : K.lookup f15 = some ⟨oc15, od15, .func (PySem.W.fnOf "ring_from" "ring_from" (defArgs s_ring_from) (defBody s_ring_from) (defScope s_ring_from) .none kV15 dc15 pm15 an15 cd15 ct15), sl15⟩)
    (c15 : PySem.W.codeIn K cd15 "ring_from" = true)
    (k15 : PySem.W.keepIn K (.ref f15) = true)
    (a16 : PySem.W.nsIn K mainGlobals "rings_of" = some (some (.ref f16)))
    (l16 : K.lookup f16 = some ⟨oc16, od16, .func (PySem.W.fnOf "rings_of" "rings_of" (defArgs s_rings_of) (defBody s_rings_of) (defScope s_rings_of) .none kV16 dc16 pm16 an16 cd16 ct16), sl16⟩)
    (c16 : PySem.W.codeIn K cd16 "rings_of" = true)
    (k16 : PySem.W.keepIn K (.ref f16) = true)
    (a17 : PySem.W.nsIn K mainGlobals "outward" = some (some (.ref f17)))
    (l17 : K.lookup f17 = some ⟨oc17, od17, .func (PySem.W.fnOf "outward" "outward" (defArgs s_outward) (defBody s_outward) (defScope s_outward) .none kV17 dc17 pm17 an17 cd17 ct17), sl17⟩)
    (c17 : PySem.W.codeIn K cd17 "outward" = true)
    (k17 : PySem.W.keepIn K (.ref f17) = true)
    (a18 : PySem.W.nsIn K mainGlobals "shut_of" = some (some (.ref f18)))
    (l18 : K.lookup f18 = some ⟨oc18, od18, .func (PySem.W.fnOf "shut_of" "shut_of" (defArgs s_shut_of) (defBody s_shut_of) (defScope s_shut_of) .none kV18 dc18 pm18 an18 cd18 ct18), sl18⟩)
    (c18 : PySem.W.codeIn K cd18 "shut_of" = true)
    (k18 : PySem.W.keepIn K (.ref f18) = true)
    (a19 : PySem.W.nsIn K mainGlobals "temp_of" = some (some (.ref f19)))
    (l19 : K.lookup f19 = some ⟨oc19, od19, .func (PySem.W.fnOf "temp_of" "temp_of" (defArgs s_temp_of) (defBody s_temp_of) (defScope s_temp_of) .none kV19 dc19 pm19 an19 cd19 ct19), sl19⟩)
    (c19 : PySem.W.codeIn K cd19 "temp_of" = true)
    (k19 : PySem.W.keepIn K (.ref f19) = true)
    (a20 : PySem.W.nsIn K mainGlobals "tree_copies" = some (some (.ref f20)))
    (l20 : K.lookup f20 = some ⟨oc20, od20, .func (PySem.W.fnOf "tree_copies" "tree_copies" (defArgs s_tree_copies) (defBody s_tree_copies) (defScope s_tree_copies) .none kV20 dc20 pm20 an20 cd20 ct20), sl20⟩)
    (c20 : PySem.W.codeIn K cd20 "tree_copies" = true)
    (k20 : PySem.W.keepIn K (.ref f20) = true)
    (a21 : PySem.W.nsIn K mainGlobals "turned" = some (some (.ref f21)))
    (l21 : K.lookup f21 = some ⟨oc21, od21, .func (PySem.W.fnOf "turned" "turned" (defArgs s_turned) (defBody s_turned) (defScope s_turned) .none kV21 dc21 pm21 an21 cd21 ct21), sl21⟩)
    (c21 : PySem.W.codeIn K cd21 "turned" = true)
    (k21 : PySem.W.keepIn K (.ref f21) = true)
    (a22 : PySem.W.nsIn K mainGlobals "around_of" = some (some (.ref f22)))
    (l22 : K.lookup f22 = some ⟨oc22, od22, .func (PySem.W.fnOf "around_of" "around_of" (defArgs s_around_of) (defBody s_around_of) (defScope s_around_of) .none kV22 dc22 pm22 an22 cd22 ct22), sl22⟩)
    (c22 : PySem.W.codeIn K cd22 "around_of" = true)
    (k22 : PySem.W.keepIn K (.ref f22) = true)
    (a23 : PySem.W.nsIn K mainGlobals "by_copies" = some (some (.ref f23)))
    (l23 : K.lookup f23 = some ⟨oc23, od23, .func (PySem.W.fnOf "by_copies" "by_copies" (defArgs s_by_copies) (defBody s_by_copies) (defScope s_by_copies) .none kV23 dc23 pm23 an23 cd23 ct23), sl23⟩)
    (c23 : PySem.W.codeIn K cd23 "by_copies" = true)
    (k23 : PySem.W.keepIn K (.ref f23) = true)
    (a24 : PySem.W.nsIn K mainGlobals "paper" = some (some (.ref f24)))
    (l24 : K.lookup f24 = some ⟨oc24, od24, .func (PySem.W.fnOf "paper" "paper" (defArgs s_paper) (defBody s_paper) (defScope s_paper) .none kV24 dc24 pm24 an24 cd24 ct24), sl24⟩)
    (c24 : PySem.W.codeIn K cd24 "paper" = true)
    (k24 : PySem.W.keepIn K (.ref f24) = true)
    (a25 : PySem.W.nsIn K mainGlobals "least" = some (some (.ref f25)))
    (l25 : K.lookup f25 = some ⟨oc25, od25, .func (PySem.W.fnOf "least" "least" (defArgs s_least) (defBody s_least) (defScope s_least) .none kV25 dc25 pm25 an25 cd25 ct25), sl25⟩)
    (c25 : PySem.W.codeIn K cd25 "least" = true)
    (k25 : PySem.W.keepIn K (.ref f25) = true)
    (a26 : PySem.W.nsIn K mainGlobals "by_swaps" = some (some (.ref f26)))
    (l26 : K.lookup f26 = some ⟨oc26, od26, .func (PySem.W.fnOf "by_swaps" "by_swaps" (defArgs s_by_swaps) (defBody s_by_swaps) (defScope s_by_swaps) .none kV26 dc26 pm26 an26 cd26 ct26), sl26⟩)
    (c26 : PySem.W.codeIn K cd26 "by_swaps" = true)
    (k26 : PySem.W.keepIn K (.ref f26) = true)
    (a27 : PySem.W.nsIn K mainGlobals "law" = some (some (.ref f27)))
    (l27 : K.lookup f27 = some ⟨oc27, od27, .func (PySem.W.fnOf "law" "law" (defArgs s_law) (defBody s_law) (defScope s_law) .none kV27 dc27 pm27 an27 (.ref cT) ct27), sl27⟩)
    (c27 : PySem.W.codeIn K (.ref cT) "law" = true)
    (k27 : PySem.W.keepIn K (.ref f27) = true)
    (z0 : PySem.W.nsIn K mainGlobals "len" = some none)
    (z1 : PySem.W.nsIn K mainGlobals "set" = some none)
    (z2 : PySem.W.nsIn K mainGlobals "dict" = some none)
    (z3 : PySem.W.nsIn K mainGlobals "range" = some none)
    (z4 : PySem.W.nsIn K mainGlobals "sorted" = some none)
    (z5 : PySem.W.nsIn K mainGlobals "list" = some none)
    (z6 : PySem.W.nsIn K mainGlobals "tuple" = some none)
    (z7 : PySem.W.nsIn K mainGlobals "min" = some none)
    (z8 : PySem.W.nsIn K mainGlobals "max" = some none)
    (z9 : PySem.W.nsIn K mainGlobals "int" = some none)
    (z10 : PySem.W.nsIn K mainGlobals "str" = some none)
    (z11 : PySem.W.nsIn K mainGlobals "isinstance" = some none)
    (z12 : PySem.W.nsIn K mainGlobals "bool" = some none)
    (z13 : PySem.W.nsIn K mainGlobals "zip" = some none)
    (z14 : PySem.W.nsIn K mainGlobals "enumerate" = some none)
    (z15 : PySem.W.nsIn K mainGlobals "ValueError" = some none)
    (v0 : PySem.W.nsIn K mainGlobals "MOST_BOXES" = some (some (.int 10 t0)))
    (tb0 : K.lookup cT = some ⟨oct, odt, .fields vst, slt⟩)
    (tb1 : vst[11]? = some (.ref TT))
    (nT : K.lookup TT = none)
    (e_BadLead : PySem.W.nsIn K mainGlobals "BadLead" = some (some (.ref A_BadLead)))
    (ic_BadLead : PySem.W.isClsIn K A_BadLead = true)
    (it_BadLead : PySem.W.typeIn K (.ref A_BadLead) = some (.type "type"))
    (e_BadSpare : PySem.W.nsIn K mainGlobals "BadSpare" = some (some (.ref A_BadSpare)))
    (ic_BadSpare : PySem.W.isClsIn K A_BadSpare = true)
    (it_BadSpare : PySem.W.typeIn K (.ref A_BadSpare) = some (.type "type"))
    (e_BadMove : PySem.W.nsIn K mainGlobals "BadMove" = some (some (.ref A_BadMove)))
    (ic_BadMove : PySem.W.isClsIn K A_BadMove = true)
    (it_BadMove : PySem.W.typeIn K (.ref A_BadMove) = some (.type "type"))
    (e_NoWay : PySem.W.nsIn K mainGlobals "NoWay" = some (some (.ref A_NoWay)))
    (ic_NoWay : PySem.W.isClsIn K A_NoWay = true)
    (it_NoWay : PySem.W.typeIn K (.ref A_NoWay) = some (.type "type"))
    (e_BadWord : PySem.W.nsIn K mainGlobals "BadWord" = some (some (.ref A_BadWord)))
    (ic_BadWord : PySem.W.isClsIn K A_BadWord = true)
    (it_BadWord : PySem.W.typeIn K (.ref A_BadWord) = some (.type "type"))
    (e_BadHouse : PySem.W.nsIn K mainGlobals "BadHouse" = some (some (.ref A_BadHouse)))
    (ic_BadHouse : PySem.W.isClsIn K A_BadHouse = true)
    (it_BadHouse : PySem.W.typeIn K (.ref A_BadHouse) = some (.type "type"))
    (e_BadCall : PySem.W.nsIn K mainGlobals "BadCall" = some (some (.ref A_BadCall)))
    (ic_BadCall : PySem.W.isClsIn K A_BadCall = true)
    (it_BadCall : PySem.W.typeIn K (.ref A_BadCall) = some (.type "type"))
    (e_BadText : PySem.W.nsIn K mainGlobals "BadText" = some (some (.ref A_BadText)))
    (ic_BadText : PySem.W.isClsIn K A_BadText = true)
    (it_BadText : PySem.W.typeIn K (.ref A_BadText) = some (.type "type"))
    (e_MoveError : PySem.W.nsIn K mainGlobals "MoveError" = some (some (.ref A_MoveError)))
    (ic_MoveError : PySem.W.isClsIn K A_MoveError = true)
    (it_MoveError : PySem.W.typeIn K (.ref A_MoveError) = some (.type "type"))
    (x3_MoveError : PySem.W.subIn K (.ref A_MoveError) (.type "BaseException") = some true)
    (y1 : PySem.W.specialIn K (.builtin "object.__class__") "__get__" = some (some (.builtin "getset_descriptor.__get__")))
    (y2 : PySem.W.takesIn K (.builtin "object.__class__") = some true)
    (x1_NoWay : PySem.W.findIn K (.ref A_NoWay) "__getattribute__" = some (some (.builtin "BaseException.__getattribute__")))
    (x2_NoWay : PySem.W.findIn K (.ref A_NoWay) "__getattr__" = some none)
    (x3_NoWay : PySem.W.subIn K (.ref A_NoWay) (.type "BaseException") = some true)
    (x4_NoWay : PySem.W.hasDictIn K A_NoWay = true)
    (x5_NoWay : PySem.W.findIn K (.ref A_NoWay) "__class__" = some (some (.builtin "object.__class__")))
    (x6_NoWay : PySem.W.mroIn K A_NoWay (.type "object") = some true)
    (x7_NoWay : PySem.W.subIn K (.ref A_NoWay) (.ref A_MoveError) = some true)
    (x8_NoWay : PySem.W.subIn K (.ref A_NoWay) (.type "ValueError") = some true)
    (q_NoWay_BadLead : PySem.W.subIn K (.ref A_NoWay) (.ref A_BadLead) = some false)
    (q_NoWay_BadSpare : PySem.W.subIn K (.ref A_NoWay) (.ref A_BadSpare) = some false)
    (q_NoWay_BadMove : PySem.W.subIn K (.ref A_NoWay) (.ref A_BadMove) = some false)
    (q_NoWay_NoWay : PySem.W.subIn K (.ref A_NoWay) (.ref A_NoWay) = some true)
    (q_NoWay_BadWord : PySem.W.subIn K (.ref A_NoWay) (.ref A_BadWord) = some false)
    (q_NoWay_BadHouse : PySem.W.subIn K (.ref A_NoWay) (.ref A_BadHouse) = some false)
    (q_NoWay_BadCall : PySem.W.subIn K (.ref A_NoWay) (.ref A_BadCall) = some false)
    (q_NoWay_BadText : PySem.W.subIn K (.ref A_NoWay) (.ref A_BadText) = some false)
    (w1_BadSpare : PySem.W.excIn K A_BadSpare [.type "ValueError", .type "Exception", .type "BaseException", .type "object"] "ValueError.__new__" = true)
    (w2_BadSpare : PySem.W.keepIn K (.ref A_BadSpare) = true)
    (w3_BadSpare : PySem.W.subIn K (.ref A_BadSpare) (.type "BaseException") = some true)
    (w4_BadSpare : PySem.W.typeIn K (.ref A_BadSpare) = some (.type "type"))
    (w1_BadWord : PySem.W.excIn K A_BadWord [.type "ValueError", .type "Exception", .type "BaseException", .type "object"] "ValueError.__new__" = true)
    (w2_BadWord : PySem.W.keepIn K (.ref A_BadWord) = true)
    (w3_BadWord : PySem.W.subIn K (.ref A_BadWord) (.type "BaseException") = some true)
    (w4_BadWord : PySem.W.typeIn K (.ref A_BadWord) = some (.type "type"))
    (w1_NoWay : PySem.W.excIn K A_NoWay [.type "ValueError", .type "Exception", .type "BaseException", .type "object"] "ValueError.__new__" = true)
    (w2_NoWay : PySem.W.keepIn K (.ref A_NoWay) = true)
    (w3_NoWay : PySem.W.subIn K (.ref A_NoWay) (.type "BaseException") = some true)
    (w4_NoWay : PySem.W.typeIn K (.ref A_NoWay) = some (.type "type")) :
    ∃ (c T : Addr) (fd : FuncData), PySem.W.tabIn K "law" = some (c, T) ∧ K.lookup T = none ∧ (∀ (s : Shared) (v : Value), BindsTo s fd ⟨[v], []⟩ [("_law_script", v)]) ∧ ∀ base : Heap, K.In base → base.Ns mainGlobals mg → LamX.TabB base mg c T → FnOk l.prog w K mg base (L2.CX l.prog w) 7 fa fd ["_law_script"] (spLawT K T) := by
  have e := hfa.symm.trans (PySem.W.mg_of X G a27)
  cases e
  have F : Free mg := ⟨PySem.W.mg_none_of X G z0, PySem.W.mg_none_of X G z1, PySem.W.mg_none_of X G z2, PySem.W.mg_none_of X G z3, PySem.W.mg_none_of X G z4, PySem.W.mg_none_of X G z5, PySem.W.mg_none_of X G z6, PySem.W.mg_none_of X G z7, PySem.W.mg_none_of X G z8, PySem.W.mg_none_of X G z9, PySem.W.mg_none_of X G z10, PySem.W.mg_none_of X G z11, PySem.W.mg_none_of X G z12, PySem.W.mg_none_of X G z13, PySem.W.mg_none_of X G z14⟩
  have F0 := fun_mk (st := s__law_start) l0 c0 k0
  have F1 := fun_mk (st := s__law_drawn) l1 c1 k1
  have F2 := fun_mk (st := s__law_order) l2 c2 k2
  have F3 := fun_mk (st := s__law_lead) l3 c3 k3
  have F4 := fun_mk (st := s__law_known) l4 c4 k4
  have F5 := fun_mk (st := s__law_free) l5 c5 k5
  have F6 := fun_mk (st := s__law_spares) l6 c6 k6
  have F7 := fun_mk (st := s__law_next) l7 c7 k7
  have F8 := fun_mk (st := s__law_fewest) l8 c8 k8
  have F9 := fun_mk (st := s__law_kind) l9 c9 k9
  have F10 := fun_mk (st := s_need_boxes) l10 c10 k10
  have F11 := fun_mk (st := s_is_box) l11 c11 k11
  have F12 := fun_mk (st := s_need_lead) l12 c12 k12
  have F13 := fun_mk (st := s_real_pairs) l13 c13 k13
  have F14 := fun_mk (st := s_need_spares) l14 c14 k14
  have F15 := fun_mk (st := s_ring_from) l15 c15 k15
  have F16 := fun_mk (st := s_rings_of) l16 c16 k16
  have F17 := fun_mk (st := s_outward) l17 c17 k17
  have F18 := fun_mk (st := s_shut_of) l18 c18 k18
  have F19 := fun_mk (st := s_temp_of) l19 c19 k19
  have F20 := fun_mk (st := s_tree_copies) l20 c20 k20
  have F21 := fun_mk (st := s_turned) l21 c21 k21
  have F22 := fun_mk (st := s_around_of) l22 c22 k22
  have F23 := fun_mk (st := s_by_copies) l23 c23 k23
  have F24 := fun_mk (st := s_paper) l24 c24 k24
  have F25 := fun_mk (st := s_least) l25 c25 k25
  have F26 := fun_mk (st := s_by_swaps) l26 c26 k26
  have b0 := F0.binds (ps := ["_law_script"]) fun _ _ _ _ _ _ us hl => match us, hl with | [_], _ => rfl
  have b1 := F1.binds (ps := ["_law_state", "_law_many"]) fun _ _ _ _ _ _ us hl => match us, hl with | [_, _], _ => rfl
  have b2 := F2.binds (ps := ["_law_state", "_law_some"]) fun _ _ _ _ _ _ us hl => match us, hl with | [_, _], _ => rfl
  have b3 := F3.binds (ps := ["_law_state", "_law_boxes_here"]) fun _ _ _ _ _ _ us hl => match us, hl with | [_, _], _ => rfl
  have b4 := F4.binds (ps := ["_law_lead_here"]) fun _ _ _ _ _ _ us hl => match us, hl with | [_], _ => rfl
  have b5 := F5.binds (ps := ["_law_boxes_here", "_law_lead_here"]) fun _ _ _ _ _ _ us hl => match us, hl with | [_, _], _ => rfl
  have b6 := F6.binds (ps := ["_law_state", "_law_boxes_here", "_law_lead_here"]) fun _ _ _ _ _ _ us hl => match us, hl with | [_, _, _], _ => rfl
  have b7 := F7.binds (ps := ["_law_worths_here", "_law_swaps"]) fun _ _ _ _ _ _ us hl => match us, hl with | [_, _], _ => rfl
  have b8 := F8.binds (ps := ["_law_boxes_here", "_law_lead_here", "_law_spares_here", "_law_swaps"]) fun _ _ _ _ _ _ us hl => match us, hl with | [_, _, _, _], _ => rfl
  have b9 := F9.binds (ps := ["_law_work"]) fun _ _ _ _ _ _ us hl => match us, hl with | [_], _ => rfl
  have b10 := F10.binds (ps := ["boxes"]) fun _ _ _ _ _ _ us hl => match us, hl with | [_], _ => rfl
  have b11 := F11.binds (ps := ["boxes", "box"]) fun _ _ _ _ _ _ us hl => match us, hl with | [_, _], _ => rfl
  have b12 := F12.binds (ps := ["boxes", "lead"]) fun _ _ _ _ _ _ us hl => match us, hl with | [_, _], _ => rfl
  have b13 := F13.binds (ps := ["lead"]) fun _ _ _ _ _ _ us hl => match us, hl with | [_], _ => rfl
  have b14 := F14.binds (ps := ["boxes", "lead", "spares"]) fun _ _ _ _ _ _ us hl => match us, hl with | [_, _, _], _ => rfl
  have b15 := F15.binds (ps := ["known", "box"]) fun _ _ _ _ _ _ us hl => match us, hl with | [_, _], _ => rfl
  have b16 := F16.binds (ps := ["known"]) fun _ _ _ _ _ _ us hl => match us, hl with | [_], _ => rfl
  have b17 := F17.binds (ps := ["known", "ring"]) fun _ _ _ _ _ _ us hl => match us, hl with | [_, _], _ => rfl
  have b18 := F18.binds (ps := ["known"]) fun _ _ _ _ _ _ us hl => match us, hl with | [_], _ => rfl
  have b19 := F19.binds (ps := ["known", "spares"]) fun _ _ _ _ _ _ us hl => match us, hl with | [_, _], _ => rfl
  have b20 := F20.binds (ps := ["known", "around"]) fun _ _ _ _ _ _ us hl => match us, hl with | [_, _], _ => rfl
  have b21 := F21.binds (ps := ["ring", "place", "whence"]) fun _ _ _ _ _ _ us hl => match us, hl with | [_, _, _], _ => rfl
  have b22 := F22.binds (ps := ["some"]) fun _ _ _ _ _ _ us hl => match us, hl with | [_], _ => rfl
  have b23 := F23.binds (ps := ["boxes", "lead", "spares"]) fun _ _ _ _ _ _ us hl => match us, hl with | [_, _, _], _ => rfl
  have b24 := F24.binds (ps := ["boxes", "lead"]) fun _ _ _ _ _ _ us hl => match us, hl with | [_, _], _ => rfl
  have b25 := F25.binds (ps := ["boxes", "lead", "word"]) fun _ _ _ _ _ _ us hl => match us, hl with | [_, _, _], _ => rfl
  have b26 := F26.binds (ps := ["boxes", "lead"]) fun _ _ _ _ _ _ us hl => match us, hl with | [_, _], _ => rfl
  have g_MOST_BOXES : ∃ t, mg "MOST_BOXES" = some (.int 10 t) := ⟨_, PySem.W.mg_of X G v0⟩
  have tb : PySem.W.tabIn K "law" = some (cT, TT) := tab_mk a27 l27 rfl tb0 tb1
  have E_NoWay : ExcC K A_NoWay := ⟨x1_NoWay, x2_NoWay, x3_NoWay, x4_NoWay, x5_NoWay, y1, y2, x6_NoWay⟩
  have K_NoWay : Kinds K mg A_NoWay "NoWay" := by
    refine ⟨E_NoWay, ⟨_, PySem.W.mg_of X G e_MoveError, exm_ref ic_MoveError it_MoveError x7_NoWay x3_MoveError⟩, fun c hc => ?_, kit_T (by decide +kernel) x8_NoWay⟩
    simp only [List.mem_cons, List.mem_nil_iff, or_false] at hc
    rcases hc with rfl | rfl | rfl | rfl | rfl | rfl | rfl | rfl
    · exact ⟨_, PySem.W.mg_of X G e_BadLead, by rw [show decide (("BadLead" : Str) = "NoWay") = false by decide +kernel]; exact kit_ref ic_BadLead it_BadLead q_NoWay_BadLead q_NoWay_NoWay⟩
    · exact ⟨_, PySem.W.mg_of X G e_BadSpare, by rw [show decide (("BadSpare" : Str) = "NoWay") = false by decide +kernel]; exact kit_ref ic_BadSpare it_BadSpare q_NoWay_BadSpare q_NoWay_NoWay⟩
    · exact ⟨_, PySem.W.mg_of X G e_BadMove, by rw [show decide (("BadMove" : Str) = "NoWay") = false by decide +kernel]; exact kit_ref ic_BadMove it_BadMove q_NoWay_BadMove q_NoWay_NoWay⟩
    · exact ⟨_, PySem.W.mg_of X G e_NoWay, by rw [show decide (("NoWay" : Str) = "NoWay") = true by decide +kernel]; exact kit_ref ic_NoWay it_NoWay q_NoWay_NoWay q_NoWay_NoWay⟩
    · exact ⟨_, PySem.W.mg_of X G e_BadWord, by rw [show decide (("BadWord" : Str) = "NoWay") = false by decide +kernel]; exact kit_ref ic_BadWord it_BadWord q_NoWay_BadWord q_NoWay_NoWay⟩
    · exact ⟨_, PySem.W.mg_of X G e_BadHouse, by rw [show decide (("BadHouse" : Str) = "NoWay") = false by decide +kernel]; exact kit_ref ic_BadHouse it_BadHouse q_NoWay_BadHouse q_NoWay_NoWay⟩
    · exact ⟨_, PySem.W.mg_of X G e_BadCall, by rw [show decide (("BadCall" : Str) = "NoWay") = false by decide +kernel]; exact kit_ref ic_BadCall it_BadCall q_NoWay_BadCall q_NoWay_NoWay⟩
    · exact ⟨_, PySem.W.mg_of X G e_BadText, by rw [show decide (("BadText" : Str) = "NoWay") = false by decide +kernel]; exact kit_ref ic_BadText it_BadText q_NoWay_BadText q_NoWay_NoWay⟩
  have kt : ∀ w ∈ (["NoWay"] : List Str), ∃ D, mg w = some (.ref D) ∧ Kinds K mg D w := by
    intro w hw
    simp only [List.mem_cons, List.mem_nil_iff, or_false] at hw
    rcases hw with rfl
    · exact ⟨_, PySem.W.mg_of X G e_NoWay, K_NoWay⟩
  have ktn : ∀ w ∈ ([] : List Str), ∃ D, mg w = some (.ref D) ∧ Kinds K mg D w ∧ XfC K D ∧ PySem.W.findIn K (.ref D) (fieldOf w) = some none := by
    intro w hw
    exact nomatch hw
  have x_BadSpare : XOk K mg "BadSpare" := ⟨⟨_, PySem.W.mg_of X G e_BadSpare, w1_BadSpare, w2_BadSpare, w3_BadSpare, w4_BadSpare⟩⟩
  have x_BadWord : XOk K mg "BadWord" := ⟨⟨_, PySem.W.mg_of X G e_BadWord, w1_BadWord, w2_BadWord, w3_BadWord, w4_BadWord⟩⟩
  have x_NoWay : XOk K mg "NoWay" := ⟨⟨_, PySem.W.mg_of X G e_NoWay, w1_NoWay, w2_NoWay, w3_NoWay, w4_NoWay⟩⟩
  refine ⟨cT, TT, PySem.W.fnOf "law" "law" (defArgs s_law) (defBody s_law) (defScope s_law) .none kV27 dc27 pm27 an27 (.ref cT) ct27, tb, nT, fun s v => .of_eq rfl, fun base _ _ TB => ?_⟩
  have d__law_drawn : Df l.prog w K mg base "_law_drawn" 1 false 2 sp__law_drawn := ⟨⟨f1, _, ["_law_state", "_law_many"], fn__law_drawn (k := 0) F F1, PySem.W.mg_of X G a1, F1.kp, b1⟩⟩
  have d__law_order : Df l.prog w K mg base "_law_order" 2 false 2 sp__law_order := ⟨⟨f2, _, ps__law_order, fn__law_order F d__law_drawn F2, PySem.W.mg_of X G a2, F2.kp, b2⟩⟩
  have d__law_lead : Df l.prog w K mg base "_law_lead" 3 false 2 sp__law_lead := ⟨⟨f3, _, ps__law_lead, fn__law_lead F d__law_drawn d__law_order F3, PySem.W.mg_of X G a3, F3.kp, b3⟩⟩
  have d__law_known : Df l.prog w K mg base "_law_known" 1 false 1 sp__law_known := ⟨⟨f4, _, ps__law_known, fn__law_known F F4, PySem.W.mg_of X G a4, F4.kp, b4⟩⟩
  have d__law_free : Df l.prog w K mg base "_law_free" 2 false 2 sp__law_free := ⟨⟨f5, _, ps__law_free, fn__law_free F d__law_known F5, PySem.W.mg_of X G a5, F5.kp, b5⟩⟩
  have d__law_spares : Df l.prog w K mg base "_law_spares" 3 false 3 sp__law_spares := ⟨⟨f6, _, ps__law_spares, fn__law_spares F d__law_drawn d__law_free d__law_order F6, PySem.W.mg_of X G a6, F6.kp, b6⟩⟩
  have d__law_next : Df l.prog w K mg base "_law_next" 1 false 2 sp__law_next := ⟨⟨f7, _, ps__law_next, fn__law_next F F7, PySem.W.mg_of X G a7, F7.kp, b7⟩⟩
  have d__law_fewest : Df l.prog w K mg base "_law_fewest" 2 false 4 sp__law_fewest := ⟨⟨f8, _, ps__law_fewest, fn__law_fewest F d__law_known d__law_next F8, PySem.W.mg_of X G a8, F8.kp, b8⟩⟩
  have d_need_boxes : Df l.prog w K mg base "need_boxes" 1 false 1 sp_need_boxes := ⟨⟨f10, _, ps_need_boxes, fn_need_boxes F g_MOST_BOXES F10, PySem.W.mg_of X G a10, F10.kp, b10⟩⟩
  have d_is_box : Df l.prog w K mg base "is_box" 1 false 2 sp_is_box := ⟨⟨f11, _, ps_is_box, fn_is_box F F11, PySem.W.mg_of X G a11, F11.kp, b11⟩⟩
  have d_need_lead : Df l.prog w K mg base "need_lead" 2 false 2 sp_need_lead := ⟨⟨f12, _, ps_need_lead, fn_need_lead F d_is_box d_need_boxes F12, PySem.W.mg_of X G a12, F12.kp, b12⟩⟩
  have d_real_pairs : Df l.prog w K mg base "real_pairs" 1 false 1 sp_real_pairs := ⟨⟨f13, _, ps_real_pairs, fn_real_pairs F F13, PySem.W.mg_of X G a13, F13.kp, b13⟩⟩
  have d_need_spares : Df l.prog w K mg base "need_spares" 2 false 3 sp_need_spares := ⟨⟨f14, _, ps_need_spares, fn_need_spares F d_is_box d_real_pairs x_BadSpare F14, PySem.W.mg_of X G a14, F14.kp, b14⟩⟩
  have d_ring_from : Df l.prog w K mg base "ring_from" 1 false 2 sp_ring_from := ⟨⟨f15, _, ps_ring_from, fn_ring_from F F15, PySem.W.mg_of X G a15, F15.kp, b15⟩⟩
  have d_rings_of : Df l.prog w K mg base "rings_of" 2 true 1 sp_rings_of := ⟨⟨f16, _, ps_rings_of, fn_rings_of F d_ring_from F16, PySem.W.mg_of X G a16, F16.kp, b16⟩⟩
  have d_outward : Df l.prog w K mg base "outward" 1 false 2 sp_outward := ⟨⟨f17, _, ps_outward, fn_outward F F17, PySem.W.mg_of X G a17, F17.kp, b17⟩⟩
  have d_shut_of : Df l.prog w K mg base "shut_of" 3 true 1 sp_shut_of := ⟨⟨f18, _, ps_shut_of, fn_shut_of F d_outward d_rings_of F18, PySem.W.mg_of X G a18, F18.kp, b18⟩⟩
  have d_temp_of : Df l.prog w K mg base "temp_of" 1 false 2 sp_temp_of := ⟨⟨f19, _, ps_temp_of, fn_temp_of F F19, PySem.W.mg_of X G a19, F19.kp, b19⟩⟩
  have d_tree_copies : Df l.prog w K mg base "tree_copies" 1 true 2 sp_tree_copies := ⟨⟨f20, _, ps_tree_copies, fn_tree_copies F F20, PySem.W.mg_of X G a20, F20.kp, b20⟩⟩
  have d_turned : Df l.prog w K mg base "turned" 1 true 3 sp_turned := ⟨⟨f21, _, ps_turned, fn_turned F F21, PySem.W.mg_of X G a21, F21.kp, b21⟩⟩
  have d_around_of : Df l.prog w K mg base "around_of" 1 true 1 sp_around_of := ⟨⟨f22, _, ps_around_of, fn_around_of F F22, PySem.W.mg_of X G a22, F22.kp, b22⟩⟩
  have d_by_copies : Df l.prog w K mg base "by_copies" 4 true 3 sp_by_copies := ⟨⟨f23, _, ps_by_copies, fn_by_copies F d_around_of d_need_lead d_need_spares d_outward d_real_pairs d_rings_of d_shut_of d_temp_of d_tree_copies d_turned x_NoWay F23, PySem.W.mg_of X G a23, F23.kp, b23⟩⟩
  have d_paper : Df l.prog w K mg base "paper" 4 false 2 sp_paper := ⟨⟨f24, _, ps_paper, fn_paper F d_need_lead d_real_pairs d_rings_of d_shut_of F24, PySem.W.mg_of X G a24, F24.kp, b24⟩⟩
  have d_least : Df l.prog w K mg base "least" 5 false 3 sp_least := ⟨⟨f25, _, ps_least, fn_least F d_paper x_BadWord F25, PySem.W.mg_of X G a25, F25.kp, b25⟩⟩
  have d_by_swaps : Df l.prog w K mg base "by_swaps" 3 true 2 sp_by_swaps := ⟨⟨f26, _, ps_by_swaps, fn_by_swaps F d_around_of d_need_lead d_real_pairs d_rings_of d_tree_copies F26, PySem.W.mg_of X G a26, F26.kp, b26⟩⟩
  exact fn_law F d__law_drawn d__law_fewest d__law_lead d__law_spares d_by_copies d_by_swaps d_least (PySem.W.mg_none_of X G z15) ⟨_, PySem.W.mg_of X G e_MoveError⟩ (PySem.W.mg_of X G a9) k9 l9 c9 b9 kt ktn TB F0 b0 (PySem.W.mg_of X G a0) l27 c27
end L3

open PySem PySem.W PyProof.Rows in
set_option maxRecDepth 100000 in
set_option maxHeartbeats 0 in
theorem PySem.Challenge.cw_movesatonce_k07_whole_none_are_fewer_holds : PySem.Challenge.rw_movesatonce_k07_whole_none_are_fewer.Holds := by
  w_on; o_law; k_head; (case hw => w_witness2)
  k_fill
  refine L3.walk_tab (l := PySem.Challenge.rw_movesatonce_k07_whole_none_are_fewer) (n := 63) (k := 7) (x := "_law_script") (CX := fun w => L2.CX PySem.Challenge.rw_movesatonce_k07_whole_none_are_fewer.prog w) rfl (by decide) rfl ⟨rfl, by decide, by decide⟩ (fun w h Y => by first | exact PySem.W.km_in_of Y | exact PySem.W.kIn_of Y) rfl ?F (fun _ _ _ _ _ ⟨_, _, _, _, _, _, _, _, _, _, _, _, h⟩ => h)
  case F =>
    intro w mg fa h KX G hmg
    refine' L3.all_mk KX G hmg ?a0 ?l0 ?c0 ?k0 ?a1 ?l1 ?c1 ?k1 ?a2 ?l2 ?c2 ?k2 ?a3 ?l3 ?c3 ?k3 ?a4 ?l4 ?c4 ?k4 ?a5 ?l5 ?c5 ?k5 ?a6 ?l6 ?c6 ?k6 ?a7 ?l7 ?c7 ?k7 ?a8 ?l8 ?c8 ?k8 ?a9 ?l9 ?c9 ?k9 ?a10 ?l10 ?c10 ?k10 ?a11 ?l11 ?c11 ?k11 ?a12 ?l12 ?c12 ?k12 ?a13 ?l13 ?c13 ?k13 ?a14 ?l14 ?c14 ?k14 ?a15 ?l15 ?c15 ?k15 ?a16 ?l16 ?c16 ?k16 ?a17 ?l17 ?c17 ?k17 ?a18 ?l18 ?c18 ?k18 ?a19 ?l19 ?c19 ?k19 ?a20 ?l20 ?c20 ?k20 ?a21 ?l21 ?c21 ?k21 ?a22 ?l22 ?c22 ?k22 ?a23 ?l23 ?c23 ?k23 ?a24 ?l24 ?c24 ?k24 ?a25 ?l25 ?c25 ?k25 ?a26 ?l26 ?c26 ?k26 ?a27 ?l27 ?c27 ?k27 ?z0 ?z1 ?z2 ?z3 ?z4 ?z5 ?z6 ?z7 ?z8 ?z9 ?z10 ?z11 ?z12 ?z13 ?z14 ?z15 ?v0 ?tb0 ?tb1 ?nT ?e_BadLead ?ic_BadLead ?it_BadLead ?e_BadSpare ?ic_BadSpare ?it_BadSpare ?e_BadMove ?ic_BadMove ?it_BadMove ?e_NoWay ?ic_NoWay ?it_NoWay ?e_BadWord ?ic_BadWord ?it_BadWord ?e_BadHouse ?ic_BadHouse ?it_BadHouse ?e_BadCall ?ic_BadCall ?it_BadCall ?e_BadText ?ic_BadText ?it_BadText ?e_MoveError ?ic_MoveError ?it_MoveError ?x3_MoveError ?y1 ?y2 ?x1_NoWay ?x2_NoWay ?x3_NoWay ?x4_NoWay ?x5_NoWay ?x6_NoWay ?x7_NoWay ?x8_NoWay ?q_NoWay_BadLead ?q_NoWay_BadSpare ?q_NoWay_BadMove ?q_NoWay_NoWay ?q_NoWay_BadWord ?q_NoWay_BadHouse ?q_NoWay_BadCall ?q_NoWay_BadText ?w1_BadSpare ?w2_BadSpare ?w3_BadSpare ?w4_BadSpare ?w1_BadWord ?w2_BadWord ?w3_BadWord ?w4_BadWord ?w1_NoWay ?w2_NoWay ?w3_NoWay ?w4_NoWay
    (case a0 => k_is)
    (case l0 => k_is)
    (case c0 => k_is)
    (case k0 => k_is)
    (case a1 => k_is)
    (case l1 => k_is)
    (case c1 => k_is)
    (case k1 => k_is)
    (case a2 => k_is)
    (case l2 => k_is)
    (case c2 => k_is)
    (case k2 => k_is)
    (case a3 => k_is)
    (case l3 => k_is)
    (case c3 => k_is)
    (case k3 => k_is)
    (case a4 => k_is)
    (case l4 => k_is)
    (case c4 => k_is)
    (case k4 => k_is)
    (case a5 => k_is)
    (case l5 => k_is)
    (case c5 => k_is)
    (case k5 => k_is)
    (case a6 => k_is)
    (case l6 => k_is)
    (case c6 => k_is)
    (case k6 => k_is)
    (case a7 => k_is)
    (case l7 => k_is)
    (case c7 => k_is)
    (case k7 => k_is)
    (case a8 => k_is)
    (case l8 => k_is)
    (case c8 => k_is)
    (case k8 => k_is)
    (case a9 => k_is)
    (case l9 => k_is)
    (case c9 => k_is)
    (case k9 => k_is)
    (case a10 => k_is)
    (case l10 => k_is)
    (case c10 => k_is)
    (case k10 => k_is)
    (case a11 => k_is)
    (case l11 => k_is)
    (case c11 => k_is)
    (case k11 => k_is)
    (case a12 => k_is)
    (case l12 => k_is)
    (case c12 => k_is)
    (case k12 => k_is)
    (case a13 => k_is)
    (case l13 => k_is)
    (case c13 => k_is)
    (case k13 => k_is)
    (case a14 => k_is)
    (case l14 => k_is)
    (case c14 => k_is)
    (case k14 => k_is)
    (case a15 => k_is)
    (case l15 => k_is)
    (case c15 => k_is)
    (case k15 => k_is)
    (case a16 => k_is)
    (case l16 => k_is)
    (case c16 => k_is)
    (case k16 => k_is)
    (case a17 => k_is)
    (case l17 => k_is)
    (case c17 => k_is)
    (case k17 => k_is)
    (case a18 => k_is)
    (case l18 => k_is)
    (case c18 => k_is)
    (case k18 => k_is)
    (case a19 => k_is)
    (case l19 => k_is)
    (case c19 => k_is)
    (case k19 => k_is)
    (case a20 => k_is)
    (case l20 => k_is)
    (case c20 => k_is)
    (case k20 => k_is)
    (case a21 => k_is)
    (case l21 => k_is)
    (case c21 => k_is)
    (case k21 => k_is)
    (case a22 => k_is)
    (case l22 => k_is)
    (case c22 => k_is)
    (case k22 => k_is)
    (case a23 => k_is)
    (case l23 => k_is)
    (case c23 => k_is)
    (case k23 => k_is)
    (case a24 => k_is)
    (case l24 => k_is)
    (case c24 => k_is)
    (case k24 => k_is)
    (case a25 => k_is)
    (case l25 => k_is)
    (case c25 => k_is)
    (case k25 => k_is)
    (case a26 => k_is)
    (case l26 => k_is)
    (case c26 => k_is)
    (case k26 => k_is)
    (case a27 => k_is)
    (case l27 => k_is)
    (case c27 => k_is)
    (case k27 => k_is)
    (case z0 => k_is)
    (case z1 => k_is)
    (case z2 => k_is)
    (case z3 => k_is)
    (case z4 => k_is)
    (case z5 => k_is)
    (case z6 => k_is)
    (case z7 => k_is)
    (case z8 => k_is)
    (case z9 => k_is)
    (case z10 => k_is)
    (case z11 => k_is)
    (case z12 => k_is)
    (case z13 => k_is)
    (case z14 => k_is)
    (case z15 => k_is)
    (case v0 => k_is)
    (case tb0 => k_is)
    (case tb1 => first | rfl | kernel_rfl)
    (case nT => first | kernel_rfl | rfl)
    (case e_BadLead => k_is)
    (case ic_BadLead => k_is)
    (case it_BadLead => k_is)
    (case e_BadSpare => k_is)
    (case ic_BadSpare => k_is)
    (case it_BadSpare => k_is)
    (case e_BadMove => k_is)
    (case ic_BadMove => k_is)
    (case it_BadMove => k_is)
    (case e_NoWay => k_is)
    (case ic_NoWay => k_is)
    (case it_NoWay => k_is)
    (case e_BadWord => k_is)
    (case ic_BadWord => k_is)
    (case it_BadWord => k_is)
    (case e_BadHouse => k_is)
    (case ic_BadHouse => k_is)
    (case it_BadHouse => k_is)
    (case e_BadCall => k_is)
    (case ic_BadCall => k_is)
    (case it_BadCall => k_is)
    (case e_BadText => k_is)
    (case ic_BadText => k_is)
    (case it_BadText => k_is)
    (case e_MoveError => k_is)
    (case ic_MoveError => k_is)
    (case it_MoveError => k_is)
    (case x3_MoveError => k_is)
    (case y1 => k_is)
    (case y2 => k_is)
    (case x1_NoWay => k_is)
    (case x2_NoWay => k_is)
    (case x3_NoWay => k_is)
    (case x4_NoWay => k_is)
    (case x5_NoWay => k_is)
    (case x6_NoWay => k_is)
    (case x7_NoWay => k_is)
    (case x8_NoWay => k_is)
    (case q_NoWay_BadLead => k_is)
    (case q_NoWay_BadSpare => k_is)
    (case q_NoWay_BadMove => k_is)
    (case q_NoWay_NoWay => k_is)
    (case q_NoWay_BadWord => k_is)
    (case q_NoWay_BadHouse => k_is)
    (case q_NoWay_BadCall => k_is)
    (case q_NoWay_BadText => k_is)
    (case w1_BadSpare => k_exc)
    (case w2_BadSpare => k_is)
    (case w3_BadSpare => k_is)
    (case w4_BadSpare => k_is)
    (case w1_BadWord => k_exc)
    (case w2_BadWord => k_is)
    (case w3_BadWord => k_is)
    (case w4_BadWord => k_is)
    (case w1_NoWay => k_exc)
    (case w2_NoWay => k_is)
    (case w3_NoWay => k_is)
    (case w4_NoWay => k_is)
