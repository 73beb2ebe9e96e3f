import PyProof.Rows.All
import Wide.All
import OpenK.AllK
import Wide.FinOn
import HandS.ForMost
import HandS.TupAny
import HandS.ForExc
import HandS.CallSlots
import HandS.Deep
import HandS.Wide
import HandS.Lambda
import HandS.SortInts
import HandS.Conv
import HandS.More
import HandS.Zip
import HandS.WordsDict
import KE.KSortedM
import HandS.Style
import HandS.SetFor
import HandS.Remove
import HandS.IsInst
import PyProof.P3Eq
import HandS.ExcIs
import HandS.ExcOwn
import HandS.EndTab
import HandS.Strs
import HandS.ExcField
import HandS.ExcInit
import KE.KExcIs
import KE.GoesMore
import KE.KDictZip
import KE.KItemsList
import HandS.ListItems
import PySem.Challenge.RW_movesatonce_k10_steps_done
set_option Elab.async false
set_option linter.all false
set_option maxRecDepth 100000
/-! L2n: tuples of which it is known that they have no dict of their own -/
namespace L2
open PySem PySem.Spec PyProof.Rows
section
variable {X : Cx} {es : List Expr} {t : TA} {pos : Pos}
def tTupN (t : TA) : TE := fun σ H Q => t σ H fun xs H1 => xs.length ≤ sizeLine ∧ ∀ p o, H1 p = none → o.cls = .type "tuple" → o.dict = none → Q (.ref p) (upd H1 p (.frz o (.tup xs)))
theorem pe_tupN {x1} (h : PA X es t) : PE X (.Tuple es x1 pos) (tTupN t) := by
  refine ⟨fun pins s σ H Q I hq => ?_⟩
  refine wpAny_Tuple_spliced (thn (h.run pos pins s σ H _ I hq) fun us s1 ⟨xs, H1, I1, r, z, q⟩ => ⟨by rw [← r.length]; exact z, ?_⟩)
  have hf : H1 s1.heap.objs.size = none := I1.hok.fresh (Nat.le_refl _)
  refine ⟨.ref s1.heap.objs.size, _, I1.laid (t' := s1.toks) (o := .frz { cls := .type "tuple", data := .seq us.toArray } (.tup xs)) (fun b u e => Heap.get?_push_of_some _ e) (Nat.le_refl _) ?_, rfl, q _ _ hf rfl rfl⟩
  exact ⟨Heap.get?_push_size _ rfl, z, us, r, ⟨_, Heap.get?_push_size _ rfl, rfl, _, rfl⟩⟩
def rTupleN (K : PySem.W.Frag) : List V → Hp → VK → Prop := fun xs H Q => ∃ p ys, xs = [.ref p] ∧ ((SqL K H p ys ∧ ∀ l o, H l = none → o.cls = .type "tuple" → o.dict = none → Q (.ref l) (upd H l (.frz o (.tup ys)))) ∨ (SqT K H p ys ∧ Q (.ref p) H))
theorem call_tupleN : CallR X (.type "tuple") (rTupleN X.K) := by
  intro pins s σ H xs us Q I r h
  obtain ⟨p, ys, rfl, h⟩ := h
  obtain ⟨u, rfl, rx⟩ := vals1 r
  cases rx
  rcases h with ⟨hq, q⟩ | ⟨hq, q⟩
  · obtain ⟨its, r', pl, hz⟩ := I.list hq
    have hlen := r'.length
    refine call_tuple_list pl.isList (fun h' kp => ?_) (by simp only [List.size_toArray] <;> omega)
    have I1 : Inv X pins σ H { s with heap := h' } := I.kept (t' := s.toks) kp
    have I2 : Inv X pins σ (upd H h'.objs.size (.frz { cls := .type "tuple", data := .seq its.toArray } (.tup ys))) { s with heap := h'.push { cls := .type "tuple", data := .seq its.toArray } } :=
      I1.laid (t' := s.toks) (fun b o e => Heap.get?_push_of_some _ e) (Nat.le_refl _) ⟨Heap.get?_push_size _ rfl, hz, its, r', IsTup.new _ _⟩
    exact ⟨.ref h'.objs.size, _, I2, rfl, q _ _ (I1.hok.fresh (Nat.le_refl _)) rfl rfl⟩
  · obtain ⟨its, r', pl, hz⟩ := I.tuple hq
    exact call_tuple_same pl ⟨.ref p, H, I, rfl, q⟩
def rCatN (K : PySem.W.Frag) : R2 := fun x y H Q => ∃ a b xs ys, x = .ref a ∧ y = .ref b ∧ SqT K H a xs ∧ SqT K H b ys ∧ xs.length + ys.length ≤ sizeLine ∧
  (xs = [] → Q (.ref b) H) ∧ (xs ≠ [] → ys = [] → Q (.ref a) H) ∧ (xs ≠ [] → ys ≠ [] → ∀ p o, H p = none → o.cls = .type "tuple" → o.dict = none → Q (.ref p) (upd H p (.frz o (.tup (xs ++ ys)))))
theorem op_catN : OpR X (binaryOp .Add) (rCatN X.K) := by
  intro pins s σ H x y v u Q I rx ry h
  obtain ⟨a, b, xs, ys, rfl, rfl, ha, hb, hz, q0, q1, q2⟩ := h
  cases rx
  cases ry
  by_cases hx : xs = []
  · subst hx
    obtain ⟨its, r1, p1, _⟩ := I.tuple ha
    obtain ⟨its2, r2, p2, _⟩ := I.tuple hb
    cases r1
    exact cat_tup0 p1 p2 ⟨.ref b, H, I, rfl, q0 rfl⟩
  · obtain ⟨its, r1, p1, _⟩ := I.tuple ha
    obtain ⟨its2, r2, p2, _⟩ := I.tuple hb
    refine HT.cat_tup p1 p2 (fun z => hx (r1.nil_iff.mp z)) (fun z => ⟨.ref a, H, I, rfl, q1 hx (r2.nil_iff.mp z)⟩) (fun z => ?_) (by rw [← r1.length, ← r2.length]; exact hz)
    refine ⟨.ref s.heap.objs.size, _, I.laid (t' := s.toks) (o := .frz { cls := .type "tuple", data := .seq (its ++ its2).toArray } (.tup (xs ++ ys))) (fun b ob q => Heap.get?_push_of_some _ q) (Nat.le_refl _) ?_, rfl, q2 hx (fun w => z (r2.nil_iff.mpr w)) _ _ (I.hok.fresh (Nat.le_refl _)) rfl rfl⟩
    exact ⟨Heap.get?_push_size _ rfl, by rw [List.length_append]; exact hz, _, r1.append r2, IsTup.new _ _⟩
def rSlN (K : PySem.W.Frag) : V → Option Int → Option Int → Hp → VK → Prop := fun x lo hi H Q => ∃ a xs, x = .ref a ∧ SqT K H a xs ∧
  (HT.sIx xs.length 0 lo = 0 ∧ HT.sIx xs.length xs.length hi = xs.length → Q (.ref a) H) ∧ (¬ (HT.sIx xs.length 0 lo = 0 ∧ HT.sIx xs.length xs.length hi = xs.length) → ∀ p o, H p = none → o.cls = .type "tuple" → o.dict = none → Q (.ref p) (upd H p (.frz o (.tup (cutV xs lo hi)))))
theorem sl_tupN : SlR X (rSlN X.K) := by
  intro pins s σ H x v vl vu lo hi sl Q I rx hs pl pu h
  obtain ⟨a, xs, rfl, hx, q1, q2⟩ := h
  cases rx
  obtain ⟨its, r, ht, hz⟩ := I.tuple hx
  have hlen : its.toArray.size = xs.length := by rw [List.size_toArray]; exact r.length.symm
  by_cases hw : HT.sIx xs.length 0 lo = 0 ∧ HT.sIx xs.length xs.length hi = xs.length
  · refine ⟨"tuple", _, PyProof.Rows.slot_tuple_getitem.lookup, ht.typeIs, ?_⟩
    exact getItem_tuple_whole ht hs pl pu (by rw [hlen]; exact hw) ⟨.ref a, H, I, rfl, q1 hw⟩
  · refine ⟨"tuple", _, PyProof.Rows.slot_tuple_getitem.lookup, ht.typeIs, ?_⟩
    refine HT.getItem_tuple_cut ht hs pl pu (by rw [hlen]; exact hw) ?_ (by rw [hlen]; exact hz)
    rw [hlen]
    refine ⟨.ref s.heap.objs.size, _, I.laid (t' := s.toks) (o := .frz { cls := .type "tuple", data := .seq ((its.toArray.toList.drop (HT.sIx xs.length 0 lo)).take (HT.sIx xs.length xs.length hi - HT.sIx xs.length 0 lo)).toArray } (.tup (cutV xs lo hi))) (fun b ob q => Heap.get?_push_of_some _ q) (Nat.le_refl _) ?_, rfl, q2 hw _ _ (I.hok.fresh (Nat.le_refl _)) rfl rfl⟩
    exact ⟨Heap.get?_push_size _ rfl, Nat.le_trans (cutV_length xs lo hi) hz, _, (r.drop (HT.sIx xs.length 0 lo)).take (HT.sIx xs.length xs.length hi - HT.sIx xs.length 0 lo), IsTup.new _ _⟩
/-! enumerate(list) -/
def IteN (K : PySem.W.Frag) (a : Addr) : It :=
  ⟨fun i H => ∃ (xs : List V) (x : V), SqL K H a xs ∧ xs[i]? = some x, fun i H v H' => ∃ T o x, v = .ref T ∧ H T = none ∧ o.cls = .type "tuple" ∧ o.dict = none ∧ H' = upd H T (.frz o (.tup [.int (i : Nat), x])) ∧ ∀ xs, SqL K H a xs → xs[i]? = some x, fun i H => ∃ xs : List V, SqL K H a xs ∧ xs.length ≤ i⟩
theorem turn_enumN {P : Program} {w : World} {K : PySem.W.Frag} {elts : List Expr} {kk : Nat} {tpos : Pos} (a e it : Addr) :
    Turn P w K (.Tuple elts kk tpos) (IteN K a) [e, it] e (fun i h => (∃ old, IsEnum h e it ((i : Nat) : Int) old) ∧ h.IsListIter it a i ∧ e ≠ it) where
  mem := by simp
  obj := fun i h st b hb => by
    obtain ⟨⟨old, he⟩, ⟨o, ho, hc, hd⟩, _⟩ := st
    have e' : b = e ∨ b = it := by simpa using hb
    rcases e' with z | z
    · rw [z]; exact ⟨_, he, fun v q => nomatch q⟩
    · rw [z]; exact ⟨o, ho, fun v q => by rw [hd] at q; cases q⟩
  keep := fun i h h' st k => let ⟨⟨old, he⟩, hi, hne⟩ := st; ⟨⟨old, k e (by simp) _ he⟩, hi.at fun o q => k it (by simp) o q, hne⟩
  item := by
    intro X hP hw hK hc i pins s σ H E I hf st hg
    subst hP hw hK
    obtain ⟨⟨old, he⟩, hit, hne⟩ := st
    obtain ⟨xs, x, hq, hx⟩ := hg
    obtain ⟨its, rv, p, hz⟩ := I.list hq
    obtain ⟨u, hu, ru⟩ := rv.get hx
    have hel : e < s.heap.objs.size := Heap.lt_size he
    have hil : it < s.heap.objs.size := by obtain ⟨_, q, _⟩ := hit; exact Heap.lt_size q
    refine wpAny_pyNext_enum_item he hit p.isList (x := u) (by simpa using hu) hne fun h' ho hit' hT hsz hk => ?_
    refine ⟨_, rfl, wpAny_letOwnedTupleGo_enum (s := { s with heap := h', toks := s.toks + 1 }) ho fun h'' he' sb => ?_⟩
    have hT2 : h''.get? s.heap.objs.size = some { cls := .type "tuple", data := .seq #[.int i s.toks, u] } := (sb.2 _ (Nat.ne_of_gt hel)).trans hT
    have new : ObjOk X.prog X.w (upd H s.heap.objs.size (.frz { cls := .type "tuple", data := .seq #[.int i s.toks, u] } (.tup [.int (i : Nat), x]))) h'' s.heap.objs.size (.frz { cls := .type "tuple", data := .seq #[.int i s.toks, u] } (.tup [.int (i : Nat), x])) :=
      ⟨hT2, by show 2 ≤ sizeLine; decide, [.int i s.toks, u], .cons ⟨_, rfl⟩ (.cons ru .nil), ⟨_, hT2, rfl, _, rfl⟩⟩
    have I1 : Inv X pins σ (upd H s.heap.objs.size (.frz { cls := .type "tuple", data := .seq #[.int i s.toks, u] } (.tup [.int (i : Nat), x]))) { s with heap := h'', toks := s.toks + 1 } :=
      I.turnedNew (ch := [e, it]) (fun b ob hb q => (sb.2 b (fun z => hb (by simp [z]))).trans (hk b ob (fun z => hb (by simp [z])) (fun z => hb (by simp [z])) q)) hf (Nat.le_refl _) new
    refine ⟨.ref s.heap.objs.size, _, I1, rfl, ⟨_, _, x, rfl, I.hok.fresh (Nat.le_refl _), rfl, rfl, rfl, fun ys hy => by rw [I.list_inj hy hq]; exact hx⟩, ⟨⟨u, ?_⟩, hit'.at fun o q => (sb.2 it (Ne.symm hne)).trans q, hne⟩, fun b hb => ?_⟩
    · have e1 : ((i + 1 : Nat) : Int) = (i : Int) + 1 := by omega
      rw [e1]; exact he'
    · have hb' : b < s.heap.objs.size := by
        have e' : b = e ∨ b = it := by simpa using hb
        rcases e' with z | z
        · rw [z]; exact hel
        · rw [z]; exact hil
      rw [upd_ne (Nat.ne_of_lt hb')]
      exact (hf b hb).1
  done := by
    intro X hP hw hK hc i pins s σ H E I hf st hg
    subst hP hw hK
    obtain ⟨⟨old, he⟩, hit, hne⟩ := st
    obtain ⟨xs, hq, hx⟩ := hg
    obtain ⟨its, rv, p, hz⟩ := I.list hq
    obtain ⟨f0, f1, f2, f3, f4, f5⟩ := hf it (by simp)
    have hl := rv.length
    exact wpAny_pyNext_enum_end (I.ok.hd hc) he hit p.isList (by simp; omega) fun h' eb => ⟨rfl, I.turned (t' := s.toks) (fun b o hb q => eb b o hb q) f0 f1 f3 f4 f5⟩
  self := fun A i s Q E st h => let ⟨⟨_, he⟩, _⟩ := st; wpAny_pyIter_enum he h
def iEnumN (K : PySem.W.Frag) (ta : TA) : TI := fun σ H R => ta σ H fun vs H1 => ∃ a xs, vs = [.ref a] ∧ SqL K H1 a xs ∧ R (IteN K a) H1
theorem pi_enumN {e : Expr} {ta : TA} {p tpos : Pos} {elts : List Expr} {kk : Nat} (hg : Gl X "enumerate") (hm : X.mg "enumerate" = none) (ha : PA X [e] ta) (hs : starEach [e] X.env = [(false, eval e X.env)] := by rfl) :
    PI X (.Tuple elts kk tpos) (.Call (.Name "enumerate" p) [e] [] pos) (iEnumN X.K ta) := by
  refine ⟨fun pins s σ H R I h => ?_⟩
  refine Call_ (ld_blt I hg hm boot_enumerate (PyProof.Rows.callWith_type1 (thn (ha.run pos pins s σ H _ I h) fun us s1 ⟨vs, H1, I1, r1, q1⟩ => ?_) hs rfl))
  obtain ⟨a, xs, ex, hq, q⟩ := q1
  subst ex
  cases r1 with
  | cons r rr =>
    cases rr
    cases r
    obtain ⟨its, rv, p', hz⟩ := I1.list hq
    refine call_enumerate_list p'.isList fun h' he hit hsz hk => wpAny_pyIter_enum he ?_
    have I2 : Inv X pins σ H1 { s1 with heap := h' } := I1.kept (t' := s1.toks) hk
    refine ⟨s1.heap.objs.size + 1, [s1.heap.objs.size + 1, s1.heap.objs.size], _, _, H1, rfl, I2, turn_enumN a (s1.heap.objs.size + 1) s1.heap.objs.size, ⟨⟨.none, he⟩, hit, Nat.succ_ne_self _⟩, fun b hb => ?_, q⟩
    have e' : b = s1.heap.objs.size + 1 ∨ b = s1.heap.objs.size := by simpa using hb
    have hle : s1.heap.objs.size ≤ b := by
      rcases e' with z | z
      · rw [z]; exact Nat.le_add_right _ _
      · rw [z]; exact Nat.le_refl _
    exact I1.fpOk hle (I1.hok.fresh hle)
/-! methods of such a tuple -/
def tyT (K : PySem.W.Frag) (x : V) (H : Hp) : Prop := ∃ p, x = .ref p ∧ ((∃ o vs, H p = some (.frz o (.tup vs)) ∧ o.cls = .type "tuple" ∧ o.dict = none) ∨ ∃ o, K.lookup p = some o ∧ o.cls = .type "tuple" ∧ o.dict = none)
theorem tyT_is {pins : List (Addr × Obj)} {σ : St} {H : Hp} {s : Shared} {x : V} {v : Value} (I : Inv X pins σ H s) (r : RelV x v) (ty : tyT X.K x H) :
    s.TypeIs v "tuple" ∧ ∀ a, v = .ref a → ∃ ob, s.heap.get? a = some ob ∧ ob.dict = none := by
  obtain ⟨p, rfl, ty⟩ := ty
  cases r
  rcases ty with ⟨o, vs, h, hc, hd⟩ | ⟨o, h, hc, hd⟩
  · have e := (I.hok p _ h).1
    refine ⟨⟨o, e, hc⟩, fun a z => ?_⟩
    cases z
    exact ⟨o, e, hd⟩
  · refine ⟨⟨o, I.kIn p o h, hc⟩, fun a z => ?_⟩
    cases z
    exact ⟨o, I.kIn _ o h, hd⟩
def tBT (K : PySem.W.Frag) (r : V → List V → Hp → VK → Prop) (to : TE) (t : TA) : TE := fun σ H Q => to σ H fun x H1 => tyT K x H1 ∧ t σ H1 fun xs H2 => r x xs H2 Q
theorem pe_bmT {o e : Expr} {to : TE} {name : Str} {apos cpos : Pos} {id : String} {r : V → List V → Hp → VK → Prop} (pa : PlainAttrs "tuple") (slot : Slot "tuple" name id) (hty : typeOf (.builtin id) = pure (.type "method_descriptor")) (hm : MtR X id r) (ho : PE X o to) (ha : PA X (e :: es) t)
    (hbase : attributeBase o name X.env (eval o X.env) = eval o X.env := by rfl)
    (hfew : ((backTo cpos (starEach (e :: es) X.env)).all (fun x => !x.1) && (backToKw cpos (keywordEach [] X.env)).all (fun x => x.1.isSome)
      && decide ((e :: es).length + ([] : List Keyword).length + (if ([] : List Keyword).isEmpty then 0 else 1) < 30)) = true := by rfl)
    (hline : (apos.endLine == cpos.line) = true := by rfl) (hs : starEach (e :: es) X.env = (false, eval e X.env) :: starEach es X.env := by rfl) (hplain : (backTo cpos (starEach es X.env)).any (·.1) = false := by rfl) :
    PE X (.Call (.Attribute o name apos) (e :: es) [] cpos) (tBT X.K r to t) := by
  refine ⟨fun pins s σ H Q I h => ?_⟩
  refine wpAny_Call_method_late hbase hfew hline rfl (thn (ho.run pins s σ H _ I h) fun v s1 ⟨x, H1, I1, r1, ty, q1⟩ => ?_)
  obtain ⟨h1, h2⟩ := tyT_is I1 r1 ty
  refine ⟨"tuple", id, pa, slot, hty, h1, h2, ?_⟩
  have hA := ha.run cpos pins s1 σ H1 _ I1 q1
  rw [hs] at hA ⊢
  refine Calls.callWith_builtin (by show (false || (backTo cpos (starEach es X.env)).any (·.1)) = false; rw [hplain] <;> rfl) (Calls.evalArgs_plain ?_)
  exact thn hA fun us s2 ⟨vs, H2, I2, r2, q2⟩ => hm pins s2 σ H2 x vs v us Q I2 r1 r2 q2
end
end L2
/-! L3: plain data over the hand layer -/
namespace L3
open PySem PySem.Spec PyProof.Rows L2

/-! ### data -/
inductive D where
  | non | bl (b : Bool) | int (i : Int) | str (x : Str)
  | tup (xs : List D) | lst (xs : List D)
  | dic (kvs : List (Int × D))
  | ref (a : Addr)

/-- a tuple, and it has no dict of its own -/
def TupN (K : PySem.W.Frag) (G : Hp) (a : Addr) (vs : List V) : Prop := (∃ o, G a = some (.frz o (.tup vs)) ∧ o.cls = .type "tuple" ∧ o.dict = none) ∨
  ∃ (o : Obj) (its : Array Value) (n : Nat), K.lookup a = some o ∧ o.cls = .type "tuple" ∧ o.dict = none ∧ o.data = .seq its n ∧ its.size ≤ sizeLine ∧ Vals vs its.toList
theorem TupN.sq {K : PySem.W.Frag} {G : Hp} {a : Addr} {vs : List V} : TupN K G a vs → SqT K G a vs
  | .inl ⟨o, h, _, _⟩ => .inl (.inr ⟨o, h⟩)
  | .inr ⟨o, its, n, h1, h2, _, h3, h4, h5⟩ => .inr ⟨o, its, n, h1, h2, h3, h4, h5⟩
theorem TupN.mono {K : PySem.W.Frag} {G G' : Hp} {a : Addr} {vs : List V} (e : ∀ a o, G a = some o → G' a = some o) : TupN K G a vs → TupN K G' a vs
  | .inl ⟨o, h, q⟩ => .inl ⟨o, e _ _ h, q⟩
  | .inr h => .inr h
theorem TupN.ty {K : PySem.W.Frag} {G : Hp} {a : Addr} {vs : List V} : TupN K G a vs → tyT K (.ref a) G
  | .inl ⟨o, h, c, d⟩ => ⟨a, rfl, .inl ⟨o, vs, h, c, d⟩⟩
  | .inr ⟨o, its, n, h1, h2, h3, _⟩ => ⟨a, rfl, .inr ⟨o, h1, h2, h3⟩⟩
mutual
inductive Rp (K : PySem.W.Frag) (G : Hp) : D → V → Prop
  | non : Rp K G .non .non
  | bl (b : Bool) : Rp K G (.bl b) (.bl b)
  | int (i : Int) : Rp K G (.int i) (.int i)
  | str (x : Str) : Rp K G (.str x) (.str x)
  | ref (a : Addr) : Rp K G (.ref a) (.ref a)
  | tup {a : Addr} {vs : List V} {ds : List D} : TupN K G a vs → Rps K G ds vs → Rp K G (.tup ds) (.ref a)
  | lst {a : Addr} {vs : List V} {ds : List D} : G a = some (.lst vs) → Rps K G ds vs → Rp K G (.lst ds) (.ref a)
  | dic {a : Addr} {o : Obj} {kvs : List (Int × D)} {kws : List (Key × V)} : G a = some (.frz o (.dK kws)) → RpK K G kvs kws → Rp K G (.dic kvs) (.ref a)
inductive Rps (K : PySem.W.Frag) (G : Hp) : List D → List V → Prop
  | nil : Rps K G [] []
  | cons {d : D} {v : V} {ds : List D} {vs : List V} : Rp K G d v → Rps K G ds vs → Rps K G (d :: ds) (v :: vs)
inductive RpK (K : PySem.W.Frag) (G : Hp) : List (Int × D) → List (Key × V) → Prop
  | nil : RpK K G [] []
  | cons {k : Int} {d : D} {v : V} {r : List (Int × D)} {r' : List (Key × V)} : Rp K G d v → RpK K G r r' → RpK K G ((k, d) :: r) ((Sum.inl k, v) :: r')
end
section
variable {K : PySem.W.Frag} {G G' : Hp}
theorem seqT (e : Same G G') {a : Addr} {xs : List V} (h : SqT K G a xs) : SqT K G' a xs := by
  rcases h with (h | ⟨o, h⟩) | h
  · exact .inl (.inl (e _ _ h))
  · exact .inl (.inr ⟨o, e _ _ h⟩)
  · exact .inr h
mutual
theorem Rp.mono (e : Same G G') : ∀ {d : D} {v : V}, Rp K G d v → Rp K G' d v
  | _, _, .non => .non
  | _, _, .bl b => .bl b
  | _, _, .int i => .int i
  | _, _, .str x => .str x
  | _, _, .ref a => .ref a
  | _, _, .tup h r => .tup (h.mono e) (Rps.mono e r)
  | _, _, .lst h r => .lst (e _ _ h) (Rps.mono e r)
  | _, _, .dic h r => .dic (e _ _ h) (RpK.mono e r)
theorem Rps.mono (e : Same G G') : ∀ {d : List D} {v : List V}, Rps K G d v → Rps K G' d v
  | _, _, .nil => .nil
  | _, _, .cons h r => .cons (Rp.mono e h) (Rps.mono e r)
theorem RpK.mono (e : Same G G') : ∀ {d : List (Int × D)} {v : List (Key × V)}, RpK K G d v → RpK K G' d v
  | _, _, .nil => .nil
  | _, _, .cons h r => .cons (Rp.mono e h) (RpK.mono e r)
end
theorem Rps.length : ∀ {ds : List D} {vs : List V}, Rps K G ds vs → ds.length = vs.length
  | _, _, .nil => rfl
  | _, _, .cons _ r => by rw [List.length_cons, List.length_cons, Rps.length r]
theorem Rps.get : ∀ {ds : List D} {vs : List V} {i : Nat} {d : D}, Rps K G ds vs → ds[i]? = some d → ∃ v, vs[i]? = some v ∧ Rp K G d v
  | _, _, _, _, .nil, e => by simp at e
  | _, _, 0, _, .cons h _, e => by simp at e; subst e; exact ⟨_, rfl, h⟩
  | _, _, i + 1, _, .cons _ r, e => by
    obtain ⟨v, h1, h2⟩ := Rps.get (i := i) r (by simpa using e)
    exact ⟨v, by simpa using h1, h2⟩
theorem Rps.append : ∀ {ds es : List D} {vs ws : List V}, Rps K G ds vs → Rps K G es ws → Rps K G (ds ++ es) (vs ++ ws)
  | _, _, _, _, .nil, s => s
  | _, _, _, _, .cons h r, s => .cons h (Rps.append r s)
theorem Rps.set {d : D} {v : V} (h : Rp K G d v) : ∀ {ds : List D} {vs : List V} (i : Nat), Rps K G ds vs → Rps K G (ds.set i d) (vs.set i v)
  | _, _, _, .nil => .nil
  | _, _, 0, .cons _ r => .cons h r
  | _, _, i + 1, .cons q r => .cons q (Rps.set h i r)
theorem Rps.take : ∀ {ds : List D} {vs : List V} (n : Nat), Rps K G ds vs → Rps K G (ds.take n) (vs.take n)
  | _, _, 0, _ => .nil
  | _, _, _ + 1, .nil => .nil
  | _, _, n + 1, .cons h r => .cons h (Rps.take n r)
theorem Rps.drop : ∀ {ds : List D} {vs : List V} (n : Nat), Rps K G ds vs → Rps K G (ds.drop n) (vs.drop n)
  | _, _, 0, r => r
  | _, _, _ + 1, .nil => .nil
  | _, _, n + 1, .cons _ r => Rps.drop n r
theorem Rps.eraseIdx : ∀ {ds : List D} {vs : List V} (n : Nat), Rps K G ds vs → Rps K G (ds.eraseIdx n) (vs.eraseIdx n)
  | _, _, _, .nil => .nil
  | _, _, 0, .cons _ r => r
  | _, _, n + 1, .cons h r => .cons h (Rps.eraseIdx n r)
theorem Rps.reverse {ds : List D} {vs : List V} (r : Rps K G ds vs) : Rps K G ds.reverse vs.reverse := by
  induction ds generalizing vs with
  | nil => cases r; exact .nil
  | cons d ds ih =>
    cases r with
    | cons h r =>
      rw [List.reverse_cons, List.reverse_cons]
      exact (ih r).append (.cons h .nil)
theorem Rps.ints : ∀ {ns : List Int} {vs : List V}, Rps K G (ns.map D.int) vs → vs = ns.map V.int
  | [], _, .nil => rfl
  | n :: r, _, .cons h t => by
    cases h
    rw [List.map_cons, Rps.ints t]
theorem Rps.ofInts : ∀ (ns : List Int), Rps K G (ns.map D.int) (ns.map V.int)
  | [] => .nil
  | n :: r => .cons (.int n) (Rps.ofInts r)
theorem Rps.none_of {ds : List D} {vs : List V} {i : Nat} (r : Rps K G ds vs) (h : ds[i]? = none) : vs[i]? = none := by
  have := r.length
  rw [List.getElem?_eq_none_iff] at h ⊢
  omega
end

/-! ### the context: the state's cell, things that stay, the tables of code objects -/
structure C3 where
  K : PySem.W.Frag
  st : Option (Addr × Addr × List Int) := none
  fix : List (Addr × HO) := []
  tabs : List (Addr × Str) := []
def C3.sp (C : C3) (a : Addr) : Bool := decide (C.st.map (·.1) = some a) || (C.fix.any fun p => decide (p.1 = a)) || C.tabs.any fun p => decide (p.1 = a)
/-- the script, as a list that stays -/
def ScrOk (C : C3) (sa : Addr) (ns : List Int) : Prop := (∃ o : Obj, (sa, HO.frz o (.lst (ns.map V.int))) ∈ C.fix) ∨
  ∃ (o : Obj) (its : Array Value) (n : Nat), C.K.lookup sa = some o ∧ o.cls = .type "list" ∧ o.dict = none ∧ o.data = .seq its n ∧ its.size ≤ sizeLine ∧ Vals (ns.map V.int) its.toList
/-- the state of the draws: the script, cells begun, a mixed number, a rest -/
def StOk (H : Hp) (a sa : Addr) : Prop := ∃ (i m r : Int), H a = some (.lst [.ref sa, .int i, .int m, .int r]) ∧ 0 ≤ i ∧ 0 ≤ m ∧ m < 2147483647 ∧ 0 ≤ r
structure Iv (C : C3) (H : Hp) : Prop where
  st : ∀ a sa ns, C.st = some (a, sa, ns) → StOk H a sa ∧ ScrOk C sa ns ∧ (C.fix.any fun p => decide (p.1 = a)) = false
  fx : ∀ p ∈ C.fix, H p.1 = some p.2
  tb : LamX.Tabs C.tabs H

/-- all but the tables of code objects: a lambda's making writes at these -/
def notTbl : HO → Bool
  | .tbl _ => false
  | _ => true
def nT (H : Hp) : Hp := fun a => match H a with
  | some o => if notTbl o = true then some o else none
  | none => none
theorem nT_of {H : Hp} {a : Addr} {o : HO} (h : H a = some o) (n : notTbl o = true := by rfl) : nT H a = some o := by
  unfold nT
  rw [h]
  exact if_pos n
theorem nT_to {H : Hp} {a : Addr} {o : HO} (h : nT H a = some o) : H a = some o ∧ notTbl o = true := by
  unfold nT at h
  cases q : H a with
  | none => rw [q] at h; cases h
  | some u =>
    rw [q] at h
    by_cases n : notTbl u = true
    · have h : (if notTbl u = true then some u else none) = some o := h
      rw [if_pos n] at h
      cases h
      exact ⟨rfl, n⟩
    · have h : (if notTbl u = true then some u else none) = some o := h
      rw [if_neg n] at h
      cases h
theorem nT_none {H : Hp} {a : Addr} (h : H a = none) : nT H a = none := by
  unfold nT
  rw [h]
theorem nT_ne {H : Hp} {a p : Addr} {o : HO} (h : a ≠ p) : nT (upd H p o) a = nT H a := by
  unfold nT
  rw [upd_ne h]
theorem nT_same {H H' : Hp} (e : Same H H') : Same (nT H) (nT H') := fun a o h => nT_of (e _ _ (nT_to h).1) (nT_to h).2
structure Ok3 (C : C3) (H G : Hp) : Prop where
  iv : Iv C H
  sub : ∀ a o, G a = some o → C.sp a = false ∧ H a = some o
  nt : ∀ a o, G a = some o → notTbl o = true
structure Stp (C : C3) (H G H' G' : Hp) : Prop where
  nx : ∀ a o, C.sp a = false → nT H a = some o → nT H' a = some o
  ge : Same G G'
  fr : ∀ a o, G a = none → G' a = some o → nT H a = none
theorem Stp.nh {C : C3} {H G H' G' : Hp} (s : Stp C H G H' G') (a : Addr) (o : HO) (sp : C.sp a = false) (h : H a = some o) (n : notTbl o = true := by rfl) : H' a = some o := (nT_to (s.nx a o sp (nT_of h n))).1
theorem Ok3.sn {C : C3} {H G : Hp} (ok : Ok3 C H G) {a : Addr} {o : HO} (h : G a = some o) : nT H a = some o := nT_of (ok.sub a o h).2 (ok.nt a o h)
section
variable {C : C3} {H G H' G' H2 G2 : Hp}
theorem Stp.refl : Stp C H G H G := ⟨fun _ _ _ h => h, Same.refl _, fun a o h h' => by rw [h] at h'; cases h'⟩
theorem Stp.trans (a : Stp C H G H' G') (ok : Ok3 C H2 G2) (b : Stp C H' G' H2 G2) : Stp C H G H2 G2 := by
  refine ⟨fun p o s h => b.nx p o s (a.nx p o s h), a.ge.trans b.ge, fun p o h h' => ?_⟩
  cases q : G' p with
  | some u => exact a.fr p u h q
  | none =>
    have h1 := b.fr p o q h'
    cases r : nT H p with
    | none => rfl
    | some u =>
      rw [a.nx p u (ok.sub p o h').1 r] at h1
      cases h1
end
/-- special cells are tracked -/
theorem Iv.there {C : C3} {H : Hp} (iv : Iv C H) {a : Addr} (h : C.sp a = true) : ∃ o, H a = some o := by
  unfold C3.sp at h
  rw [Bool.or_eq_true, Bool.or_eq_true] at h
  rcases h with (h | h) | h
  · have h := of_decide_eq_true h
    cases e : C.st with
    | none => rw [e] at h; cases h
    | some t =>
      obtain ⟨x, sa, ns⟩ := t
      rw [e] at h
      have h : x = a := Option.some.inj h
      subst h
      obtain ⟨⟨_, _, _, q, _⟩, _⟩ := iv.st x sa ns e
      exact ⟨_, q⟩
  · obtain ⟨p, hp, e⟩ := List.any_eq_true.mp h
    have e := of_decide_eq_true e
    exact ⟨_, by rw [← e]; exact iv.fx p hp⟩
  · obtain ⟨p, hp, e⟩ := List.any_eq_true.mp h
    obtain ⟨ps, q, _⟩ := iv.tb p hp
    have e := of_decide_eq_true e
    exact ⟨_, by rw [← e]; exact q⟩
theorem Iv.new {C : C3} {H : Hp} (iv : Iv C H) {p : Addr} (h : H p = none) : C.sp p = false := by
  cases q : C.sp p with
  | false => rfl
  | true =>
    obtain ⟨o, e⟩ := iv.there q
    rw [h] at e
    cases e
/-- what the special cells hold -/
theorem Iv.on {C : C3} {H H' : Hp} (iv : Iv C H) (e : ∀ a, C.sp a = true → H' a = H a) (k : ∀ c s, H c = some (LamX.CodeO c s) → H' c = some (LamX.CodeO c s)) : Iv C H' := by
  refine ⟨fun a sa ns h => ?_, fun p hp => ?_, fun p hp => ?_⟩
  · obtain ⟨⟨i, m, r, h1, h2⟩, h3⟩ := iv.st a sa ns h
    refine ⟨⟨i, m, r, (e a ?_).trans h1, h2⟩, h3⟩
    unfold C3.sp
    rw [h]
    simp
  · refine (e p.1 ?_).trans (iv.fx p hp)
    unfold C3.sp
    rw [Bool.or_eq_true, Bool.or_eq_true]
    exact .inl (.inr (List.any_eq_true.mpr ⟨p, hp, decide_eq_true rfl⟩))
  · obtain ⟨ps, q, q2, q3⟩ := iv.tb p hp
    have hs : C.sp p.1 = true := by
      unfold C3.sp
      rw [Bool.or_eq_true]
      exact .inr (List.any_eq_true.mpr ⟨p, hp, decide_eq_true rfl⟩)
    refine ⟨ps, (e p.1 hs).trans q, q2, fun pos cv hc => ?_⟩
    obtain ⟨c, e1, e2⟩ := q3 pos cv hc
    exact ⟨c, e1, k _ _ e2⟩
theorem Iv.upd {C : C3} {H : Hp} {p : Addr} {o : HO} (iv : Iv C H) (s : C.sp p = false) (nk : ∀ q, H p ≠ some (LamX.CodeO p q)) : Iv C (upd H p o) := iv.on (fun a h => upd_ne fun z => by
  rw [z, s] at h
  cases h) fun c q h => by
    rw [upd_ne fun z => nk q (by rw [← z]; exact h)]
    exact h
theorem Iv.same {C : C3} {H H' : Hp} (e : Same H H') (iv : Iv C H) : Iv C H' := iv.on (fun a h => by
  obtain ⟨o, q⟩ := iv.there h
  rw [q, e a o q]) fun c q h => e c _ h
def notExt : HO → Bool
  | .ext _ => false
  | _ => true
theorem upd_code {H : Hp} {p : Addr} {o : HO} (h : H p = some o) (n : notExt o = true) : ∀ q, H p ≠ some (LamX.CodeO p q) := fun q e => by
  rw [h] at e
  rw [Option.some.inj e] at n
  exact absurd n Bool.false_ne_true
theorem same_new {H : Hp} {p : Addr} {o : HO} (h : H p = none) : Same H (upd H p o) := fun b x e => by
  rw [upd_ne (ne_of_none e h)]
  exact e
/-- a new object, not yet among the frozen ones -/
theorem Ok3.new {C : C3} {H G : Hp} (ok : Ok3 C H G) {p : Addr} {o : HO} (h : H p = none) : Ok3 C (upd H p o) G ∧ Stp C H G (upd H p o) G ∧ G p = none := by
  refine ⟨⟨ok.iv.same (same_new h), fun a u e => ?_, ok.nt⟩, ⟨fun a u _ e => nT_same (same_new h) a u e, Same.refl _, fun a u e e' => by rw [e] at e'; cases e'⟩, ?_⟩
  · obtain ⟨h1, h2⟩ := ok.sub a u e
    exact ⟨h1, same_new h a u h2⟩
  · cases q : G p with
    | none => rfl
    | some u =>
      rw [(ok.sub p u q).2] at h
      cases h
/-- .. frozen -/
theorem Ok3.frz {C : C3} {H G : Hp} (ok : Ok3 C H G) {p : Addr} {o : HO} (g : G p = none) (h : H p = some o) (s : C.sp p = false) (n : notTbl o = true := by rfl) : Ok3 C H (upd G p o) := by
  refine ⟨ok.iv, fun a u e => ?_, fun a u e => ?_⟩
  · by_cases q : a = p
    · subst q
      rw [upd_same] at e
      cases e
      exact ⟨s, h⟩
    · rw [upd_ne q] at e
      exact ok.sub a u e
  · by_cases q : a = p
    · subst q
      rw [upd_same] at e
      cases e
      exact n
    · rw [upd_ne q] at e
      exact ok.nt a u e
theorem Ok3.lay {C : C3} {H G : Hp} (ok : Ok3 C H G) {p : Addr} {o : HO} (h : H p = none) (n : notTbl o = true := by rfl) : Ok3 C (upd H p o) (upd G p o) ∧ Stp C H G (upd H p o) (upd G p o) := by
  obtain ⟨o1, s1, g⟩ := ok.new (o := o) h
  refine ⟨o1.frz g upd_same (ok.iv.new h) n, ⟨s1.nx, same_new g, fun a u e e' => ?_⟩⟩
  by_cases q : a = p
  · rw [q]; exact nT_none h
  · rw [upd_ne q, e] at e'
    cases e'

/-! ### exceptions -/
structure Exn where
  cls : Str
  num : Option Int := none
def fieldOf (c : Str) : Str := if c = "BadMove" then "number" else "place"
def XRep (mg : Str → Option Value) (x : Exn) (cls : Value) (d : Option Addr) (H G : Hp) : Prop :=
  ∃ A : Addr, mg x.cls = some (.ref A) ∧ cls = .ref A ∧ match x.num with
    | none => d = none
    | some n => ∃ a, d = some a ∧ H a = some (.xd [(fieldOf x.cls, .int n)]) ∧ G a = none
theorem XRep.mono {mg : Str → Option Value} {x : Exn} {cls : Value} {d : Option Addr} {H G G' : Hp} (r : XRep mg x cls d H G') (e : Same G G') : XRep mg x cls d H G := by
  obtain ⟨A, h1, h2, h3⟩ := r
  refine ⟨A, h1, h2, ?_⟩
  cases q : x.num with
  | none => rw [q] at h3; exact h3
  | some n =>
    rw [q] at h3
    obtain ⟨a, e1, e2, e3⟩ := h3
    refine ⟨a, e1, e2, ?_⟩
    cases z : G a with
    | none => rfl
    | some o =>
      rw [e _ _ z] at e3
      cases e3

/-! ### expressions -/
abbrev EnvE := List (Option D)
abbrev MEt := EnvE → (D → Prop) → (Exn → Prop) → Prop
structure VR (K : PySem.W.Frag) (G : Hp) (env : EnvE) (σ : L2.St) : Prop where
  len : env.length ≤ σ.length
  get : ∀ (i : Nat) (d : D), env[i]? = some (some d) → ∃ v, σ[i]? = some (some v) ∧ Rp K G d v
theorem VR.mono {K : PySem.W.Frag} {G G' : Hp} {env : EnvE} {σ : L2.St} (e : Same G G') (h : VR K G env σ) : VR K G' env σ := ⟨h.len, fun i d q =>
  let ⟨v, h1, h2⟩ := h.get i d q
  ⟨v, h1, h2.mono e⟩⟩
/-- what is wanted behind: of a value, of an exception -/
abbrev PostV (C : C3) (H G : Hp) (Kd : D → Prop) (Q : VK) : Prop := ∀ d v H' G', Stp C H G H' G' → Ok3 C H' G' → Rp C.K G' d v → Kd d → Q v H'
abbrev PostX (C : C3) (mg : Str → Option Value) (H G : Hp) (KX : Exn → Prop) (E : XK) : Prop := ∀ x cls d H', KX x → Stp C H G H' G → Ok3 C H' G → XRep mg x cls d H' G → E cls d H'
def lift (C : C3) (mg : Str → Option Value) (E : XK) (m : MEt) : TE := fun σ H Q => ∃ env G Kd KX, Ok3 C H G ∧ VR C.K G env σ ∧ m env Kd KX ∧ PostV C H G Kd Q ∧ PostX C mg H G KX E
abbrev ME (X : Cx) (C : C3) (E : XK) (e : Expr) (m : MEt) : Prop := PE X e (lift C X.mg E m)
/-- what is at a new object's address -/
inductive ObjD (K : PySem.W.Frag) (G : Hp) : D → HO → Prop
  | lst {ds : List D} {vs : List V} : Rps K G ds vs → ObjD K G (.lst ds) (.lst vs)
abbrev PostF (C : C3) (H G : Hp) (Kd : D → Prop) (Q : VK) : Prop := ∀ d p o H' G', Stp C H G H' G' → Ok3 C H' G' → nT H p = none → G' p = none → H' p = some o → C.sp p = false → ObjD C.K G' d o → Kd d → Q (.ref p) H'
def liftF (C : C3) (mg : Str → Option Value) (E : XK) (m : MEt) : TE := fun σ H Q => ∃ env G Kd KX, Ok3 C H G ∧ VR C.K G env σ ∧ m env Kd KX ∧ PostF C H G Kd Q ∧ PostX C mg H G KX E
abbrev MF (X : Cx) (C : C3) (E : XK) (e : Expr) (m : MEt) : Prop := PE X e (liftF C X.mg E m)

theorem PE.imp {X : Cx} {e : Expr} {t t' : TE} (h : PE X e t) (q : ∀ σ H Q, t' σ H Q → t σ H Q) : PE X e t' := ⟨fun pins s σ H Q I w => h.run pins s σ H Q I (q σ H Q w)⟩
theorem PT.imp {X : Cx} {e : Expr} {t t' : TT} (h : PT X e t) (q : ∀ σ H Q, t' σ H Q → t σ H Q) : PT X e t' := ⟨fun pins s σ H Q I w => h.run pins s σ H Q I (q σ H Q w)⟩

section
variable {C : C3} {mg : Str → Option Value} {E : XK} {H G H' G' : Hp} {Kd : D → Prop} {KX : Exn → Prop} {Q : VK}
theorem PostX.on (h : PostX C mg H G KX E) (ok : Ok3 C H G) (s : Stp C H G H' G') : PostX C mg H' G' KX E := fun x cls d H2 k s2 ok2 r => by
  refine h x cls d H2 k ⟨fun a o z e => s2.nx a o z (s.nx a o z e), Same.refl _, fun a o e e' => by rw [e] at e'; cases e'⟩ ⟨ok2.iv, fun a o e => ok2.sub a o (s.ge a o e), fun a o e => ok2.nt a o (s.ge a o e)⟩ (r.mono s.ge)
theorem PostV.on (h : PostV C H G Kd Q) (s : Stp C H G H' G') : PostV C H' G' Kd Q := fun d v H2 G2 s2 ok2 r k => h d v H2 G2 (s.trans ok2 s2) ok2 r k
/-- fresh, then frozen -/
theorem ObjD.frz {K : PySem.W.Frag} {G : Hp} {d : D} {o : HO} {p : Addr} (h : ObjD K G d o) (g : G p = none) : Rp K (upd G p o) d (.ref p) := by
  cases h with
  | lst r => exact .lst upd_same (r.mono (same_new g))
theorem PostV.fresh (h : PostV C H G Kd Q) : PostF C H G Kd Q := fun d p o H' G' s ok hp gp ho sp r k =>
  h d _ H' (upd G' p o) ⟨s.nx, s.ge.trans (same_new gp), fun a u e e' => by
    by_cases q : a = p
    · rw [q]; exact hp
    · rw [upd_ne q] at e'
      exact s.fr a u e e'⟩ (ok.frz gp ho sp (by cases r; rfl)) (r.frz gp) k
end
theorem MF.me {X : Cx} {C : C3} {E : XK} {e : Expr} {m : MEt} (h : MF X C E e m) : ME X C E e m := PE.imp h fun σ H Q ⟨env, G, Kd, KX, ok, vr, hm, pv, px⟩ => ⟨env, G, Kd, KX, ok, vr, hm, pv.fresh, px⟩

/-! names, constants -/
def mVar (i : Nat) : MEt := fun env Kd _ => match env[i]? with
  | some (some d) => Kd d
  | _ => False
def mC (d : D) : MEt := fun _ Kd _ => Kd d
section
variable {X : Cx} {C : C3} {E : XK}
theorem me_var (i : Nat) {x : Str} {pos : Pos} (hN : X.N[i]? = some x := by rfl) (hv : Vis X.env.scope x := by first | exact Or.inl rfl | exact Or.inr (Or.inl rfl) | exact Or.inr (Or.inr rfl)) (hd : (x == ("__debug__" : Str)) = false := by decide)
    (hcd : (x == ("__classdict__" : Str)) = false := by decide) : ME X C E (.Name x pos) (mVar i) := PE.imp (pe_var hN hv hd hcd) fun σ H Q ⟨env, G, Kd, KX, ok, vr, hm, pv, px⟩ => by
  unfold mVar at hm
  split at hm
  · rename_i d e
    obtain ⟨v, h1, h2⟩ := vr.get i d e
    exact ⟨v, h1, pv d v H G Stp.refl ok h2 hm⟩
  · exact hm.elim
theorem me_c {e : Expr} {d : D} {v : V} (h : PE X e (tC v)) (r : ∀ G, Rp C.K G d v) : ME X C E e (mC d) := PE.imp h fun σ H Q ⟨env, G, Kd, KX, ok, vr, hm, pv, px⟩ => pv d v H G Stp.refl ok (r G) hm
theorem me_int {i j pos} : ME X C E (.Constant (.int i) j pos) (mC (.int i)) := me_c pe_int fun _ => .int i
theorem me_bl {b j pos} : ME X C E (.Constant (.bool b) j pos) (mC (.bl b)) := me_c pe_bl fun _ => .bl b
theorem me_non {j pos} : ME X C E (.Constant .none j pos) (mC .non) := me_c pe_non fun _ => .non
theorem me_str {x j pos} : ME X C E (.Constant (.str x) j pos) (mC (.str x)) := me_c pe_str fun _ => .str x
end

/-! two operands -/
/-- a rule by values serves data -/
def OpD (C : C3) (r : R2) (f : D → D → (D → Prop) → Prop) : Prop := ∀ (x y : V) (d e : D) (H G : Hp) (Kd : D → Prop) (Q : VK), Ok3 C H G → Rp C.K G d x → Rp C.K G e y → f d e Kd → PostV C H G Kd Q → r x y H Q
def OpF (C : C3) (r : R2) (f : D → D → (D → Prop) → Prop) : Prop := ∀ (x y : V) (d e : D) (H G : Hp) (Kd : D → Prop) (Q : VK), Ok3 C H G → Rp C.K G d x → Rp C.K G e y → f d e Kd → PostF C H G Kd Q → r x y H Q
def m2 (f : D → D → (D → Prop) → Prop) (ma mb : MEt) : MEt := fun env Kd KX => ma env (fun d => mb env (fun e => f d e Kd) KX) KX
section
variable {X : Cx} {C : C3} {E : XK} {a b : Expr} {ma mb : MEt} {f : D → D → (D → Prop) → Prop} {r : R2} {pos : Pos} {mg : Str → Option Value}
theorem lift2 (ho : OpD C r f) {σ : L2.St} {H : Hp} {Q : VK} (h : lift C mg E (m2 f ma mb) σ H Q) : tOp r (lift C mg E ma) (lift C mg E mb) σ H Q := by
  obtain ⟨env, G, Kd, KX, ok, vr, hm, pv, px⟩ := h
  exact ⟨env, G, _, KX, ok, vr, hm, fun d x H1 G1 s1 ok1 r1 k1 => ⟨env, G1, _, KX, ok1, vr.mono s1.ge, k1, fun e y H2 G2 s2 ok2 r2 k2 =>
    ho x y d e H2 G2 Kd Q ok2 (r1.mono s2.ge) r2 k2 ((pv.on s1).on s2), px.on ok s1⟩, px⟩
theorem lift2F (ho : OpF C r f) {σ : L2.St} {H : Hp} {Q : VK} (h : liftF C mg E (m2 f ma mb) σ H Q) : tOp r (lift C mg E ma) (lift C mg E mb) σ H Q := by
  obtain ⟨env, G, Kd, KX, ok, vr, hm, pv, px⟩ := h
  refine ⟨env, G, _, KX, ok, vr, hm, fun d x H1 G1 s1 ok1 r1 k1 => ⟨env, G1, _, KX, ok1, vr.mono s1.ge, k1, fun e y H2 G2 s2 ok2 r2 k2 =>
    ho x y d e H2 G2 Kd Q ok2 (r1.mono s2.ge) r2 k2 (fun z p o H3 G3 s3 ok3 hp gp hh sp ob k => ?_), px.on ok s1⟩, px⟩
  refine pv z p o H3 G3 (s1.trans ok3 (s2.trans ok3 s3)) ok3 ?_ gp hh sp ob k
  cases q : nT H p with
  | none => rfl
  | some u =>
    rw [s2.nx p u sp (s1.nx p u sp q)] at hp
    cases hp
theorem me_op {op : Operator} (ho : OpR X (binaryOp op) r) (hd : OpD C r f) (ha : ME X C E a ma) (hb : ME X C E b mb) : ME X C E (.BinOp a op b pos) (m2 f ma mb) := PE.imp (pe_op ho ha hb) fun _ _ _ h => lift2 hd h
theorem mf_op {op : Operator} (ho : OpR X (binaryOp op) r) (hd : OpF C r f) (ha : ME X C E a ma) (hb : ME X C E b mb) : MF X C E (.BinOp a op b pos) (m2 f ma mb) := PE.imp (pe_op ho ha hb) fun _ _ _ h => lift2F hd h
theorem me_cmp {op : CmpOp} (ho : OpR X (compareOp op) r) (hd : OpD C r f) (ha : ME X C E a ma) (hb : ME X C E b mb) (hm : behindInMarks op b = false) : ME X C E (.Compare a [op] [b] pos) (m2 f ma mb) := PE.imp (pe_cmpR ho ha hb hm) fun _ _ _ h => lift2 hd h
end
theorem OpF.opD {C : C3} {r : R2} {f : D → D → (D → Prop) → Prop} (h : OpF C r f) : OpD C r f := fun x y d e H G Kd Q ok r1 r2 k pv => h x y d e H G Kd Q ok r1 r2 k pv.fresh

end L3
/-! L3b: operators, comparisons, tests -/
namespace L3
open PySem PySem.Spec PyProof.Rows L2

/-! ### data, plain -/
mutual
def D.py : D → PyData
  | .non => .none
  | .bl b => .bool b
  | .int i => .int i
  | .str x => .str x
  | .tup xs => .tuple (D.pys xs)
  | .lst xs => .list (D.pys xs)
  | .dic _ => .dict []
  | .ref _ => .dict []
def D.pys : List D → List PyData
  | [] => []
  | d :: r => d.py :: D.pys r
end
theorem pys_map : ∀ l : List D, D.pys l = l.map D.py
  | [] => rfl
  | d :: r => by rw [D.pys, List.map_cons, pys_map r]
def fv : D → V
  | .bl b => .bl b
  | .int i => .int i
  | .str x => .str x
  | _ => .non
def flatD : D → Bool
  | .non => true
  | .bl _ => true
  | .int _ => true
  | .str _ => true
  | _ => false
theorem Rp.flat {K : PySem.W.Frag} {G : Hp} {d : D} {v : V} (r : Rp K G d v) (f : flatD d = true) : v = fv d ∧ flatV v = true := by
  cases r <;> first | exact ⟨rfl, rfl⟩ | exact absurd f Bool.false_ne_true
theorem Rps.flat {K : PySem.W.Frag} {G : Hp} : ∀ {ds : List D} {vs : List V}, Rps K G ds vs → ds.all flatD = true → vs = ds.map fv ∧ vs.all flatV = true
  | _, _, .nil, _ => ⟨rfl, rfl⟩
  | _, _, .cons h r, f => by
    rw [List.all_cons, Bool.and_eq_true] at f
    obtain ⟨e1, f1⟩ := h.flat f.1
    obtain ⟨e2, f2⟩ := Rps.flat r f.2
    exact ⟨by rw [List.map_cons, ← e1, ← e2], by rw [List.all_cons, f1, f2]; rfl⟩
/-! without dicts and references -/
mutual
def D.pl : D → Bool
  | .non => true
  | .bl _ => true
  | .int _ => true
  | .str _ => true
  | .tup xs => D.pls xs
  | .lst xs => D.pls xs
  | .dic _ => false
  | .ref _ => false
def D.pls : List D → Bool
  | [] => true
  | d :: r => d.pl && D.pls r
end
mutual
theorem Rp.dp {K : PySem.W.Frag} {G H : Hp} (e : ∀ a o, G a = some o → H a = some o) : ∀ {d : D} {v : V}, Rp K G d v → d.pl = true → Dp K H v d.py
  | _, _, .non, _ => .non
  | _, _, .bl b, _ => .bl b
  | _, _, .int i, _ => .int i
  | _, _, .str x, _ => .str x
  | _, _, .tup (ds := ds) h r, p => .tup (seqT e h.sq) (Rps.dp e r (show D.pls ds = true from p))
  | _, _, .lst (ds := ds) h r, p => .lst (.inl (.inl (e _ _ h))) (Rps.dp e r (show D.pls ds = true from p))
  | _, _, .ref a, p => absurd (show false = true from p) Bool.false_ne_true
  | _, _, .dic _ _, p => absurd (show false = true from p) Bool.false_ne_true
theorem Rps.dp {K : PySem.W.Frag} {G H : Hp} (e : ∀ a o, G a = some o → H a = some o) : ∀ {ds : List D} {vs : List V}, Rps K G ds vs → D.pls ds = true → DpAll K H vs (D.pys ds)
  | _, _, .nil, _ => .nil
  | d :: ds, _, .cons h r, p => 
    have p : (d.pl && D.pls ds) = true := p
    .cons (Rp.dp e h (Bool.and_eq_true_iff.mp p).1) (Rps.dp e r (Bool.and_eq_true_iff.mp p).2)
end
def valD (kvs : List (Int × D)) (k : Int) : Option D := (kvs.find? fun p => decide (p.1 = k)).map (·.2)
theorem RpK.val {K : PySem.W.Frag} {G : Hp} (k : Int) : ∀ {kvs : List (Int × D)} {kws : List (Key × V)}, RpK K G kvs kws →
    (valD kvs k = none ∧ valV kws (Sum.inl k) = none) ∨ ∃ d v, valD kvs k = some d ∧ valV kws (Sum.inl k) = some v ∧ Rp K G d v
  | _, _, .nil => .inl ⟨rfl, rfl⟩
  | _, _, .cons (k := j) (d := d) (v := v) (r := r) (r' := r') h t => by
    by_cases e : j = k
    · refine .inr ⟨d, v, ?_, ?_, h⟩
      · unfold valD
        rw [List.find?_cons, decide_eq_true (by exact e)]
        rfl
      · exact valV_pos (by rw [e])
    · have e1 : valD ((j, d) :: r) k = valD r k := by
        unfold valD
        rw [List.find?_cons, decide_eq_false (by exact e)]
      have e2 : valV ((Sum.inl j, v) :: r') (Sum.inl k : Key) = valV r' (Sum.inl k) := valV_neg (fun z => e (Sum.inl.inj z))
      rw [e1, e2]
      exact RpK.val k t

/-! ### what the operators do -/
def addD (d e : D) (K : D → Prop) : Prop := match d, e with
  | .int i, .int j => K (.int (i + j))
  | .str x, .str y => x.length + y.length ≤ sizeLine ∧ K (.str (x ++ y))
  | .lst xs, .lst ys => xs.length + ys.length ≤ sizeLine ∧ K (.lst (xs ++ ys))
  | .tup xs, .tup ys => xs.length + ys.length ≤ sizeLine ∧ K (.tup (xs ++ ys))
  | _, _ => False
def subD (d e : D) (K : D → Prop) : Prop := match d, e with
  | .int i, .int j => K (.int (i - j))
  | _, _ => False
def mulD (d e : D) (K : D → Prop) : Prop := match d, e with
  | .int i, .int j => CMul i j ∧ K (.int (i * j))
  | .lst xs, .int j => 0 ≤ j ∧ j < 2 ^ 63 ∧ xs.length * j.toNat ≤ sizeLine ∧ K (.lst (List.replicate j.toNat xs).flatten)
  | _, _ => False
def modD (d e : D) (K : D → Prop) : Prop := match d, e with
  | .int i, .int j => 0 < j ∧ K (.int (i % j))
  | _, _ => False
def fdivD (d e : D) (K : D → Prop) : Prop := match d, e with
  | .int i, .int j => CDivW i j ∧ K (.int (i / j))
  | _, _ => False
def powD (d e : D) (K : D → Prop) : Prop := match d, e with
  | .int i, .int j => CPow i j ∧ K (.int (i ^ j.toNat))
  | _, _ => False
def ordD (p : Int → Int → Bool) (d e : D) (K : D → Prop) : Prop := match d, e with
  | .int i, .int j => K (.bl (p i j))
  | _, _ => False
def eqG (neg : Bool) (d e : D) (K : D → Prop) : Prop := d.pl = true ∧ e.pl = true ∧ SeqAt.shaped d.py = true ∧ SeqAt.shaped e.py = true ∧ K (.bl (if neg then !PyData.eqv d.py e.py else PyData.eqv d.py e.py))
def eqD (neg : Bool) (d e : D) (K : D → Prop) : Prop := match d, e with
  | .int i, .int j => K (.bl (if neg then !decide (i = j) else decide (i = j)))
  | .str i, .str j => K (.bl (if neg then !decide (i = j) else decide (i = j)))
  | .bl i, .bl j => K (.bl (if neg then !decide (i = j) else decide (i = j)))
  | .lst [], .lst ys => K (.bl (if neg then !ys.isEmpty else ys.isEmpty))
  | .lst xs, .lst [] => K (.bl (if neg then !xs.isEmpty else xs.isEmpty))
  | .lst xs, .lst ys => eqG neg (.lst xs) (.lst ys) K
  | d, e => eqG neg d e K
def inD (neg : Bool) (d e : D) (K : D → Prop) : Prop := match e with
  | .lst ds => flatD d = true ∧ ds.all flatD = true ∧ K (.bl (if neg then !inV (fv d) (ds.map fv) else inV (fv d) (ds.map fv)))
  | .tup ds => flatD d = true ∧ ds.all flatD = true ∧ K (.bl (if neg then !inV (fv d) (ds.map fv) else inV (fv d) (ds.map fv)))
  | .dic kvs => match d with
    | .int k => K (.bl (if neg then !(valD kvs k).isSome else (valD kvs k).isSome))
    | _ => False
  | _ => False
def isND (neg : Bool) (d e : D) (K : D → Prop) : Prop := e.pl = true ∧ match e with
  | .non => (match d with
    | .non => K (.bl (!neg))
    | _ => K (.bl neg))
  | _ => False

section
variable {X : Cx} {C : C3} (hK : X.K = C.K)
theorem od_add : OpD C (fun x y H Q => (∃ i j, x = .int i ∧ y = .int j ∧ Q (.int (i + j)) H) ∨ (∃ i j, x = .str i ∧ y = .str j ∧ i.length + j.length ≤ sizeLine ∧ Q (.str (i ++ j)) H) ∨ rCat x y H Q ∨ rCatN C.K x y H Q) addD := by
  intro x y d e H G Kd Q ok r1 r2 h pv
  unfold addD at h
  split at h
  · cases r1; cases r2
    exact .inl ⟨_, _, rfl, rfl, pv _ _ H G Stp.refl ok (.int _) h⟩
  · cases r1; cases r2
    exact .inr (.inl ⟨_, _, rfl, rfl, h.1, pv _ _ H G Stp.refl ok (.str _) h.2⟩)
  · cases r1 with
    | lst ha ra =>
      cases r2 with
      | lst hb rb =>
        refine .inr (.inr (.inl ⟨_, _, _, _, rfl, rfl, (ok.sub _ _ ha).2, (ok.sub _ _ hb).2, by rw [← ra.length, ← rb.length]; exact h.1, fun p hp => ?_⟩))
        obtain ⟨o1, s1⟩ := ok.lay (o := .lst _) hp
        exact pv _ _ _ _ s1 o1 (.lst upd_same ((ra.append rb).mono s1.ge)) h.2
  · cases r1 with
    | tup ha ra =>
      cases r2 with
      | tup hb rb =>
        refine .inr (.inr (.inr ⟨_, _, _, _, rfl, rfl, seqT (fun a o e => (ok.sub a o e).2) ha.sq, seqT (fun a o e => (ok.sub a o e).2) hb.sq, by rw [← ra.length, ← rb.length]; exact h.1, fun z => ?_, fun _ z => ?_, fun _ _ p ob hp c1 c2 => ?_⟩))
        · subst z
          cases ra
          exact pv _ _ H G Stp.refl ok (.tup hb rb) h.2
        · subst z
          cases rb
          rw [List.append_nil] at h
          exact pv _ _ H G Stp.refl ok (.tup ha ra) h.2
        · obtain ⟨o1, s1⟩ := ok.lay (o := .frz ob (.tup _)) hp
          exact pv _ _ _ _ s1 o1 (.tup (.inl ⟨ob, upd_same, c1, c2⟩) ((ra.append rb).mono s1.ge)) h.2
  · exact h.elim
theorem or_add (hK : X.K = C.K) : OpR X (binaryOp .Add) (fun x y H Q => (∃ i j, x = .int i ∧ y = .int j ∧ Q (.int (i + j)) H) ∨ (∃ i j, x = .str i ∧ y = .str j ∧ i.length + j.length ≤ sizeLine ∧ Q (.str (i ++ j)) H) ∨ rCat x y H Q ∨ rCatN C.K x y H Q) :=
  op_add.or (op_add_str.or (op_cat.or (by rw [← hK]; exact op_catN)))
theorem of_cat : OpF C rCat (fun d e K => match d, e with | .lst xs, .lst ys => xs.length + ys.length ≤ sizeLine ∧ K (.lst (xs ++ ys)) | _, _ => False) := by
  intro x y d e H G Kd Q ok r1 r2 h pv
  split at h
  · cases r1 with
    | lst ha ra =>
      cases r2 with
      | lst hb rb =>
        refine ⟨_, _, _, _, rfl, rfl, (ok.sub _ _ ha).2, (ok.sub _ _ hb).2, by rw [← ra.length, ← rb.length]; exact h.1, fun p hp => ?_⟩
        obtain ⟨o1, s1, g⟩ := ok.new (o := .lst _) hp
        exact pv _ p _ _ G s1 o1 (nT_none hp) g upd_same (ok.iv.new hp) (.lst (ra.append rb)) h.2
  · exact h.elim
def catD (d e : D) (K : D → Prop) : Prop := match d, e with | .lst xs, .lst ys => xs.length + ys.length ≤ sizeLine ∧ K (.lst (xs ++ ys)) | _, _ => False
theorem od_sub : OpD C (rI0 fun i j => .int (i - j)) subD := by
  intro x y d e H G Kd Q ok r1 r2 h pv
  unfold subD at h
  split at h
  · cases r1; cases r2
    exact ⟨_, _, rfl, rfl, pv _ _ H G Stp.refl ok (.int _) h⟩
  · exact h.elim
theorem od_mod : OpD C (rI (fun _ j => 0 < j) fun i j => .int (i % j)) modD := by
  intro x y d e H G Kd Q ok r1 r2 h pv
  unfold modD at h
  split at h
  · cases r1; cases r2
    exact ⟨_, _, rfl, rfl, h.1, pv _ _ H G Stp.refl ok (.int _) h.2⟩
  · exact h.elim
theorem od_fdiv : OpD C (rI CDivW fun i j => .int (i / j)) fdivD := by
  intro x y d e H G Kd Q ok r1 r2 h pv
  unfold fdivD at h
  split at h
  · cases r1; cases r2
    exact ⟨_, _, rfl, rfl, h.1, pv _ _ H G Stp.refl ok (.int _) h.2⟩
  · exact h.elim
theorem od_pow : OpD C (rI CPow fun i j => .int (i ^ j.toNat)) powD := by
  intro x y d e H G Kd Q ok r1 r2 h pv
  unfold powD at h
  split at h
  · cases r1; cases r2
    exact ⟨_, _, rfl, rfl, h.1, pv _ _ H G Stp.refl ok (.int _) h.2⟩
  · exact h.elim
theorem od_ord (p : Int → Int → Bool) : OpD C (rI0 fun i j => .bl (p i j)) (ordD p) := by
  intro x y d e H G Kd Q ok r1 r2 h pv
  unfold ordD at h
  split at h
  · cases r1; cases r2
    exact ⟨_, _, rfl, rfl, pv _ _ H G Stp.refl ok (.bl _) h⟩
  · exact h.elim
theorem Rps.rep {K : PySem.W.Frag} {G : Hp} {ds : List D} {vs : List V} (r : Rps K G ds vs) : ∀ n : Nat, Rps K G (List.replicate n ds).flatten (List.replicate n vs).flatten
  | 0 => .nil
  | n + 1 => by
    rw [List.replicate_succ, List.replicate_succ, List.flatten_cons, List.flatten_cons]
    exact r.append (Rps.rep r n)
theorem od_mul : OpD C (fun x y H Q => rI CMul (fun i j => .int (i * j)) x y H Q ∨ rRep x y H Q) mulD := by
  intro x y d e H G Kd Q ok r1 r2 h pv
  unfold mulD at h
  split at h
  · cases r1; cases r2
    exact .inl ⟨_, _, rfl, rfl, h.1, pv _ _ H G Stp.refl ok (.int _) h.2⟩
  · cases r1 with
    | lst ha ra =>
      cases r2
      obtain ⟨h0, h1, h2, h3⟩ := h
      refine .inr ⟨_, _, _, rfl, rfl, (ok.sub _ _ ha).2, by omega, h1, by rw [← ra.length]; exact h2, fun p hp => ?_⟩
      obtain ⟨o1, s1⟩ := ok.lay (o := .lst _) hp
      exact pv _ _ _ _ s1 o1 (.lst upd_same ((ra.rep _).mono s1.ge)) h3
  · exact h.elim
theorem eqv_nil1 : ∀ ys : List D, PyData.eqv (D.lst []).py (D.lst ys).py = ys.isEmpty
  | [] => rfl
  | _ :: _ => rfl
theorem eqv_nil2 : ∀ ys : List D, PyData.eqv (D.lst ys).py (D.lst []).py = ys.isEmpty
  | [] => rfl
  | _ :: _ => rfl
end
end L3
/-! L3c: ==, in, tests, and, or, not, if -/
namespace L3
open PySem PySem.Spec PyProof.Rows L2
section
variable {X : Cx} {C : C3}
def rEqA (K : PySem.W.Frag) (neg : Bool) : R2 := fun x y H Q => if neg then rNe x y H Q ∨ rNeD K x y H Q else rEq x y H Q ∨ rEqD K x y H Q
theorem or_eqA (hK : X.K = C.K) (hu : X.A.units + 64 < cLine) : OpR X (compareOp .Eq) (rEqA C.K false) := by
  rw [← hK]
  exact op_eq.or (op_eqD hu)
theorem or_neA (hK : X.K = C.K) (hu : X.A.units + 64 < cLine) : OpR X (compareOp .NotEq) (rEqA C.K true) := by
  rw [← hK]
  exact op_ne.or (op_neD hu)
theorem dec_i {i j : Int} : decide (V.int i = V.int j) = decide (i = j) := by
  by_cases e : i = j
  · subst e; simp
  · rw [decide_eq_false e, decide_eq_false (fun z => e (V.int.inj z))]
theorem dec_b {i j : Bool} : decide (V.bl i = V.bl j) = decide (i = j) := by
  by_cases e : i = j
  · subst e; simp
  · rw [decide_eq_false e, decide_eq_false (fun z => e (V.bl.inj z))]
theorem dec_s {i j : Str} : decide (V.str i = V.str j) = decide (i = j) := by
  by_cases e : i = j
  · subst e; simp
  · rw [decide_eq_false e, decide_eq_false (fun z => e (V.str.inj z))]
theorem eqG_ok {neg : Bool} {x y : V} {d e : D} {H G : Hp} {Kd : D → Prop} {Q : VK} (ok : Ok3 C H G) (r1 : Rp C.K G d x) (r2 : Rp C.K G e y) (h : eqG neg d e Kd) (pv : PostV C H G Kd Q) : rEqA C.K neg x y H Q := by
  obtain ⟨p1, p2, s1, s2, k⟩ := h
  have sm : ∀ a o, G a = some o → H a = some o := fun a o q => (ok.sub a o q).2
  cases neg
  · exact .inr ⟨_, _, r1.dp sm p1, r2.dp sm p2, s1, s2, pv _ _ H G Stp.refl ok (.bl _) k⟩
  · exact .inr ⟨_, _, r1.dp sm p1, r2.dp sm p2, s1, s2, pv _ _ H G Stp.refl ok (.bl _) k⟩
def rNilL (K : PySem.W.Frag) (neg : Bool) : R2 := fun x y H Q => False
theorem od_eq (neg : Bool) : OpD C (rEqA C.K neg) (eqG neg) := fun x y d e H G Kd Q ok r1 r2 h pv => eqG_ok ok r1 r2 h pv
@[irreducible] def eqE (neg : Bool) (d e : D) (K : D → Prop) : Prop := match d, e with
  | .int i, .int j => K (.bl (if neg then !decide (i = j) else decide (i = j)))
  | .str i, .str j => K (.bl (if neg then !decide (i = j) else decide (i = j)))
  | .bl i, .bl j => K (.bl (if neg then !decide (i = j) else decide (i = j)))
  | d, e => eqG neg d e K
theorem od_eqE (neg : Bool) : OpD C (rEqA C.K neg) (eqE neg) := by
  intro x y d e H G Kd Q ok r1 r2 h pv
  unfold eqE at h
  split at h
  · cases r1; cases r2
    cases neg
    · exact .inl ⟨rfl, pv _ _ H G Stp.refl ok (.bl _) (by rw [dec_i]; exact h)⟩
    · exact .inl ⟨rfl, pv _ _ H G Stp.refl ok (.bl _) (by rw [dec_i]; exact h)⟩
  · cases r1; cases r2
    cases neg
    · exact .inl ⟨rfl, pv _ _ H G Stp.refl ok (.bl _) (by rw [dec_s]; exact h)⟩
    · exact .inl ⟨rfl, pv _ _ H G Stp.refl ok (.bl _) (by rw [dec_s]; exact h)⟩
  · cases r1; cases r2
    cases neg
    · exact .inl ⟨rfl, pv _ _ H G Stp.refl ok (.bl _) (by rw [dec_b]; exact h)⟩
    · exact .inl ⟨rfl, pv _ _ H G Stp.refl ok (.bl _) (by rw [dec_b]; exact h)⟩
  · exact eqG_ok ok r1 r2 h pv
/-- in, not in -/
def rInA (K : PySem.W.Frag) (neg : Bool) : R2 := rIn K neg
theorem od_in (neg : Bool) : OpD C (rIn C.K neg) (fun d e K => match e with
  | .lst ds => flatD d = true ∧ ds.all flatD = true ∧ K (.bl (if neg then !inV (fv d) (ds.map fv) else inV (fv d) (ds.map fv)))
  | .tup ds => flatD d = true ∧ ds.all flatD = true ∧ K (.bl (if neg then !inV (fv d) (ds.map fv) else inV (fv d) (ds.map fv)))
  | _ => False) := by
  intro x y d e H G Kd Q ok r1 r2 h pv
  split at h
  · obtain ⟨f1, f2, k⟩ := h
    obtain ⟨rfl, g1⟩ := r1.flat f1
    cases r2 with
    | lst ha ra =>
      obtain ⟨rfl, g2⟩ := ra.flat f2
      exact ⟨_, _, rfl, .inl (.inl (.inl (ok.sub _ _ ha).2)), g1, g2, pv _ _ H G Stp.refl ok (.bl _) k⟩
  · obtain ⟨f1, f2, k⟩ := h
    obtain ⟨rfl, g1⟩ := r1.flat f1
    cases r2 with
    | tup ha ra =>
      obtain ⟨rfl, g2⟩ := ra.flat f2
      exact ⟨_, _, rfl, .inr (seqT (fun a o e => (ok.sub a o e).2) ha.sq), g1, g2, pv _ _ H G Stp.refl ok (.bl _) k⟩
  · exact h.elim
@[irreducible] def inS (neg : Bool) (d e : D) (K : D → Prop) : Prop := match e with
  | .lst ds => flatD d = true ∧ ds.all flatD = true ∧ K (.bl (if neg then !inV (fv d) (ds.map fv) else inV (fv d) (ds.map fv)))
  | .tup ds => flatD d = true ∧ ds.all flatD = true ∧ K (.bl (if neg then !inV (fv d) (ds.map fv) else inV (fv d) (ds.map fv)))
  | _ => False
theorem od_inS (neg : Bool) : OpD C (rIn C.K neg) (inS neg) := fun x y d e H G Kd Q ok r1 r2 h pv => od_in neg x y d e H G Kd Q ok r1 r2 (by
  unfold inS at h
  exact h) pv
/-- tuples in a list -/
def inDp (neg : Bool) (d e : D) (K : D → Prop) : Prop := match e with
  | .lst ds => d.pl = true ∧ D.pls ds = true ∧ SeqAt.shaped d.py = true ∧ SeqAt.shaped (D.lst ds).py = true ∧ K (.bl (if neg then !(D.pys ds).any (fun z => PyData.eqv z d.py) else (D.pys ds).any fun z => PyData.eqv z d.py))
  | _ => False
theorem od_inDp (neg : Bool) : OpD C (if neg then rNotInD C.K else rInD C.K) (inDp neg) := by
  intro x y d e H G Kd Q ok r1 r2 h pv
  unfold inDp at h
  split at h
  · obtain ⟨f1, f2, s1, s2, k⟩ := h
    have sm : ∀ a o, G a = some o → H a = some o := fun a o q => (ok.sub a o q).2
    cases neg
    · exact ⟨_, _, r1.dp sm f1, r2.dp sm f2, s1, s2, pv _ _ H G Stp.refl ok (.bl _) k⟩
    · exact ⟨_, _, r1.dp sm f1, r2.dp sm f2, s1, s2, pv _ _ H G Stp.refl ok (.bl _) k⟩
  · exact h.elim
/-- is None, is not None -/
theorem od_isN (neg : Bool) : OpD C (fun x y H Q => y = .non ∧ Q (.bl (if neg then !decide (x = .non) else decide (x = .non))) H) (isND neg) := by
  intro x y d e H G Kd Q ok r1 r2 h pv
  obtain ⟨_, h⟩ := h
  split at h
  · cases r2
    refine ⟨rfl, ?_⟩
    split at h
    · cases r1
      cases neg <;> exact pv _ _ H G Stp.refl ok (.bl _) h
    · rename_i hn
      have e : decide (x = V.non) = false := decide_eq_false fun z => by
        subst z
        cases r1
        exact hn rfl
      rw [e]
      cases neg <;> exact pv _ _ H G Stp.refl ok (.bl _) h
  · exact h.elim
end

section
variable {X : Cx} {C : C3} {E : XK} {a b c : Expr} {ma mb mc : MEt} {f f' : D → D → (D → Prop) → Prop} {r r' : R2} {pos : Pos} {mg : Str → Option Value}
theorem me_eq (hK : X.K = C.K) (hu : X.A.units + 64 < cLine) (ha : ME X C E a ma) (hb : ME X C E b mb) : ME X C E (.Compare a [.Eq] [b] pos) (m2 (eqE false) ma mb) := me_cmp (or_eqA hK hu) (od_eqE false) ha hb (nomark b)
theorem me_ne (hK : X.K = C.K) (hu : X.A.units + 64 < cLine) (ha : ME X C E a ma) (hb : ME X C E b mb) : ME X C E (.Compare a [.NotEq] [b] pos) (m2 (eqE true) ma mb) := me_cmp (or_neA hK hu) (od_eqE true) ha hb (nomark b)
abbrev pLt : Int → Int → Bool := fun i j => decide (i < j)
abbrev pLe : Int → Int → Bool := fun i j => decide (i ≤ j)
abbrev pGt : Int → Int → Bool := fun i j => decide (j < i)
abbrev pGe : Int → Int → Bool := fun i j => decide (j ≤ i)
theorem me_lt (ha : ME X C E a ma) (hb : ME X C E b mb) : ME X C E (.Compare a [.Lt] [b] pos) (m2 (ordD pLt) ma mb) := me_cmp op_lt (od_ord pLt) ha hb (nomark b)
theorem me_le (ha : ME X C E a ma) (hb : ME X C E b mb) : ME X C E (.Compare a [.LtE] [b] pos) (m2 (ordD pLe) ma mb) := me_cmp op_le (od_ord pLe) ha hb (nomark b)
theorem me_gt (ha : ME X C E a ma) (hb : ME X C E b mb) : ME X C E (.Compare a [.Gt] [b] pos) (m2 (ordD pGt) ma mb) := me_cmp op_gt (od_ord pGt) ha hb (nomark b)
theorem me_ge (ha : ME X C E a ma) (hb : ME X C E b mb) : ME X C E (.Compare a [.GtE] [b] pos) (m2 (ordD pGe) ma mb) := me_cmp op_ge (od_ord pGe) ha hb (nomark b)
theorem me_isN (ha : ME X C E a ma) (hb : ME X C E b mb) : ME X C E (.Compare a [.Is] [b] pos) (m2 (isND false) ma mb) := me_cmp op_isN (od_isN false) ha hb (nomark b)
theorem me_isNN (ha : ME X C E a ma) (hb : ME X C E b mb) : ME X C E (.Compare a [.IsNot] [b] pos) (m2 (isND true) ma mb) := me_cmp op_notN (od_isN true) ha hb (nomark b)
theorem me_inS (hK : X.K = C.K) (ha : ME X C E a ma) (hb : ME X C E b mb) (hm : behindInMarks .In b = false := by rfl) : ME X C E (.Compare a [.In] [b] pos) (m2 (inS false) ma mb) := me_cmp (by rw [← hK]; exact op_in_seq) (od_inS false) ha hb hm
theorem me_niS (hK : X.K = C.K) (ha : ME X C E a ma) (hb : ME X C E b mb) (hm : behindInMarks .NotIn b = false := by rfl) : ME X C E (.Compare a [.NotIn] [b] pos) (m2 (inS true) ma mb) := me_cmp (by rw [← hK]; exact op_notIn_seq) (od_inS true) ha hb hm
theorem me_inDp (hK : X.K = C.K) (hu : X.A.units + 65 < cLine) (ha : ME X C E a ma) (hb : ME X C E b mb) (hm : behindInMarks .In b = false := by rfl) : ME X C E (.Compare a [.In] [b] pos) (m2 (inDp false) ma mb) := me_cmp (r := rInD C.K) (by rw [← hK]; exact op_inD hu) (od_inDp false) ha hb hm
theorem me_niDp (hK : X.K = C.K) (hu : X.A.units + 65 < cLine) (ha : ME X C E a ma) (hb : ME X C E b mb) (hm : behindInMarks .NotIn b = false := by rfl) : ME X C E (.Compare a [.NotIn] [b] pos) (m2 (inDp true) ma mb) := me_cmp (r := rNotInD C.K) (by rw [← hK]; exact op_notInD hu) (od_inDp true) ha hb hm
/-- k in d, for a dict -/
def inK (neg : Bool) (d e : D) (K : D → Prop) : Prop := match d, e with
  | .int k, .dic kvs => K (.bl (if neg then !(valD kvs k).isSome else (valD kvs k).isSome))
  | _, _ => False
theorem rp_dget {G H : Hp} {K : PySem.W.Frag} {kvs : List (Int × D)} {y : V} (k : Int) (r : Rp K G (.dic kvs) y) (sm : ∀ a o, G a = some o → H a = some o) :
    ∃ p, y = .ref p ∧ IsD H p ∧ ((valD kvs k = none ∧ DGet H p (.int k) none) ∨ ∃ d v, valD kvs k = some d ∧ DGet H p (.int k) (some v) ∧ Rp K G d v) := by
  cases r with
  | dic ha ra =>
    have hr : Rd H _ (.dK _) := .inr ⟨_, sm _ _ ha⟩
    refine ⟨_, rfl, .inl ⟨_, hr⟩, ?_⟩
    rcases ra.val k with ⟨e1, e2⟩ | ⟨d, v, e1, e2, e3⟩
    · exact .inl ⟨e1, .inl ⟨_, Sum.inl k, hr, rfl, e2.symm⟩⟩
    · exact .inr ⟨d, v, e1, .inl ⟨_, Sum.inl k, hr, rfl, e2.symm⟩, e3⟩
theorem lift_din (neg : Bool) {σ : L2.St} {H : Hp} {Q : VK} (h : lift C mg E (m2 (inK neg) ma mb) σ H Q) :
    (lift C mg E ma) σ H fun y H1 => (lift C mg E mb) σ H1 fun x H2 => ∃ a o, x = .ref a ∧ DGet H2 a y o ∧ Q (.bl (if neg then !o.isSome else o.isSome)) H2 := by
  obtain ⟨env, G, Kd, KX, ok, vr, hm, pv, px⟩ := h
  refine ⟨env, G, _, KX, ok, vr, hm, fun d x H1 G1 s1 ok1 r1 k1 => ⟨env, G1, _, KX, ok1, vr.mono s1.ge, k1, fun e y H2 G2 s2 ok2 r2 k2 => ?_, px.on ok s1⟩, px⟩
  have k2 : inK neg d e Kd := k2
  unfold inK at k2
  split at k2
  · cases r1
    rename_i k kvs _
    obtain ⟨p, e1, _, h⟩ := rp_dget (H := H2) k r2 (fun a o q => (ok2.sub a o q).2)
    subst e1
    rcases h with ⟨e1, e2⟩ | ⟨d, v, e1, e2, _⟩
    · rw [e1] at k2
      exact ⟨p, none, rfl, e2, pv _ _ _ _ (s1.trans ok2 s2) ok2 (.bl _) k2⟩
    · rw [e1] at k2
      exact ⟨p, some v, rfl, e2, pv _ _ _ _ (s1.trans ok2 s2) ok2 (.bl _) k2⟩
  · exact k2.elim
theorem me_inK (hu : X.A.units + 1 < cLine) (ha : ME X C E a ma) (hb : ME X C E b mb) (hm : behindInMarks .In b = false := by rfl) : ME X C E (.Compare a [.In] [b] pos) (m2 (inK false) ma mb) := PE.imp (pe_cmp (pc_din hu ha hb) hm) fun _ _ _ h => lift_din false h
theorem me_niK (hu : X.A.units + 1 < cLine) (ha : ME X C E a ma) (hb : ME X C E b mb) (hm : behindInMarks .NotIn b = false := by rfl) : ME X C E (.Compare a [.NotIn] [b] pos) (m2 (inK true) ma mb) := PE.imp (pe_cmp (pc_dnotin hu ha hb) hm) fun _ _ _ h => lift_din true h
/-- one sign in a text -/
def inT (neg : Bool) (d e : D) (K : D → Prop) : Prop := match d, e with
  | .str x, .str y => K (.bl (if neg then !(!(Builtin.Str.occurrences y x 0 y.length 1).isEmpty) else !(Builtin.Str.occurrences y x 0 y.length 1).isEmpty))
  | _, _ => False
theorem od_inT (neg : Bool) : OpD C (fun x y H Q => ∃ i j, x = .str i ∧ y = .str j ∧ Q (.bl (if neg then !(!(Builtin.Str.occurrences j i 0 j.length 1).isEmpty) else !(Builtin.Str.occurrences j i 0 j.length 1).isEmpty)) H) (inT neg) := by
  intro x y d e H G Kd Q ok r1 r2 h pv
  unfold inT at h
  split at h
  · cases r1; cases r2
    exact ⟨_, _, rfl, rfl, pv _ _ H G Stp.refl ok (.bl _) h⟩
  · exact h.elim
theorem me_inT (ha : ME X C E a ma) (hb : ME X C E b mb) (hm : behindInMarks .In b = false := by rfl) : ME X C E (.Compare a [.In] [b] pos) (m2 (inT false) ma mb) := me_cmp op_in_str (od_inT false) ha hb hm
theorem me_niT (ha : ME X C E a ma) (hb : ME X C E b mb) (hm : behindInMarks .NotIn b = false := by rfl) : ME X C E (.Compare a [.NotIn] [b] pos) (m2 (inT true) ma mb) := me_cmp op_notIn_str (od_inT true) ha hb hm

/-! ### tests -/
abbrev MTt := EnvE → (Bool → Prop) → (Exn → Prop) → Prop
def liftT (C : C3) (mg : Str → Option Value) (E : XK) (m : MTt) : TT := fun σ H Q => ∃ env G Kb KX, Ok3 C H G ∧ VR C.K G env σ ∧ m env Kb KX ∧ (∀ b H' G', Stp C H G H' G' → Ok3 C H' G' → Kb b → Q b H') ∧ PostX C mg H G KX E
abbrev MT (X : Cx) (C : C3) (E : XK) (e : Expr) (m : MTt) : Prop := PT X e (liftT C X.mg E m)
def isB (d : D) (K : Bool → Prop) : Prop := match d with
  | .bl b => K b
  | _ => False
def mB (m : MEt) : MTt := fun env Kb KX => m env (fun d => isB d Kb) KX
theorem liftB {m : MEt} {σ : L2.St} {H : Hp} {Q : Bool → Hp → Prop} (h : liftT C mg E (mB m) σ H Q) : lift C mg E m σ H fun x H' => ∃ k, x = .bl k ∧ Q k H' := by
  obtain ⟨env, G, Kb, KX, ok, vr, hm, pv, px⟩ := h
  refine ⟨env, G, _, KX, ok, vr, hm, fun d v H' G' s1 ok1 r1 k1 => ?_, px⟩
  have k1 : isB d Kb := k1
  cases r1 <;> first | exact k1.elim | exact ⟨_, rfl, pv _ _ _ s1 ok1 k1⟩
theorem mt_cmp {op : CmpOp} (ho : OpR X (compareOp op) r) (hd : OpD C r f) (ha : ME X C E a ma) (hb : ME X C E b mb) (hm : behindInMarks op b = false) : MT X C E (.Compare a [op] [b] pos) (mB (m2 f ma mb)) :=
  PT.imp (pt_cmpR ho ha hb hm) fun _ _ _ h => lift2 hd (liftB h)
theorem mt_eq (hK : X.K = C.K) (hu : X.A.units + 64 < cLine) (ha : ME X C E a ma) (hb : ME X C E b mb) : MT X C E (.Compare a [.Eq] [b] pos) (mB (m2 (eqE false) ma mb)) := mt_cmp (or_eqA hK hu) (od_eqE false) ha hb (nomark b)
theorem mt_ne (hK : X.K = C.K) (hu : X.A.units + 64 < cLine) (ha : ME X C E a ma) (hb : ME X C E b mb) : MT X C E (.Compare a [.NotEq] [b] pos) (mB (m2 (eqE true) ma mb)) := mt_cmp (or_neA hK hu) (od_eqE true) ha hb (nomark b)
theorem mt_lt (ha : ME X C E a ma) (hb : ME X C E b mb) : MT X C E (.Compare a [.Lt] [b] pos) (mB (m2 (ordD pLt) ma mb)) := mt_cmp op_lt (od_ord pLt) ha hb (nomark b)
theorem mt_le (ha : ME X C E a ma) (hb : ME X C E b mb) : MT X C E (.Compare a [.LtE] [b] pos) (mB (m2 (ordD pLe) ma mb)) := mt_cmp op_le (od_ord pLe) ha hb (nomark b)
theorem mt_gt (ha : ME X C E a ma) (hb : ME X C E b mb) : MT X C E (.Compare a [.Gt] [b] pos) (mB (m2 (ordD pGt) ma mb)) := mt_cmp op_gt (od_ord pGt) ha hb (nomark b)
theorem mt_ge (ha : ME X C E a ma) (hb : ME X C E b mb) : MT X C E (.Compare a [.GtE] [b] pos) (mB (m2 (ordD pGe) ma mb)) := mt_cmp op_ge (od_ord pGe) ha hb (nomark b)
theorem mt_isN (ha : ME X C E a ma) (hb : ME X C E b mb) : MT X C E (.Compare a [.Is] [b] pos) (mB (m2 (isND false) ma mb)) := mt_cmp op_isN (od_isN false) ha hb (nomark b)
theorem mt_isNN (ha : ME X C E a ma) (hb : ME X C E b mb) : MT X C E (.Compare a [.IsNot] [b] pos) (mB (m2 (isND true) ma mb)) := mt_cmp op_notN (od_isN true) ha hb (nomark b)
theorem mt_inS (hK : X.K = C.K) (ha : ME X C E a ma) (hb : ME X C E b mb) (hm : behindInMarks .In b = false := by rfl) : MT X C E (.Compare a [.In] [b] pos) (mB (m2 (inS false) ma mb)) := mt_cmp (by rw [← hK]; exact op_in_seq) (od_inS false) ha hb hm
theorem mt_niS (hK : X.K = C.K) (ha : ME X C E a ma) (hb : ME X C E b mb) (hm : behindInMarks .NotIn b = false := by rfl) : MT X C E (.Compare a [.NotIn] [b] pos) (mB (m2 (inS true) ma mb)) := mt_cmp (by rw [← hK]; exact op_notIn_seq) (od_inS true) ha hb hm
theorem mt_inDp (hK : X.K = C.K) (hu : X.A.units + 65 < cLine) (ha : ME X C E a ma) (hb : ME X C E b mb) (hm : behindInMarks .In b = false := by rfl) : MT X C E (.Compare a [.In] [b] pos) (mB (m2 (inDp false) ma mb)) := mt_cmp (r := rInD C.K) (by rw [← hK]; exact op_inD hu) (od_inDp false) ha hb hm
theorem mt_niDp (hK : X.K = C.K) (hu : X.A.units + 65 < cLine) (ha : ME X C E a ma) (hb : ME X C E b mb) (hm : behindInMarks .NotIn b = false := by rfl) : MT X C E (.Compare a [.NotIn] [b] pos) (mB (m2 (inDp true) ma mb)) := mt_cmp (r := rNotInD C.K) (by rw [← hK]; exact op_notInD hu) (od_inDp true) ha hb hm
theorem mt_inK (hu : X.A.units + 1 < cLine) (ha : ME X C E a ma) (hb : ME X C E b mb) (hm : behindInMarks .In b = false := by rfl) : MT X C E (.Compare a [.In] [b] pos) (mB (m2 (inK false) ma mb)) := PT.imp (pt_cmp (pc_din hu ha hb) hm) fun _ _ _ h => lift_din false (liftB h)
theorem mt_niK (hu : X.A.units + 1 < cLine) (ha : ME X C E a ma) (hb : ME X C E b mb) (hm : behindInMarks .NotIn b = false := by rfl) : MT X C E (.Compare a [.NotIn] [b] pos) (mB (m2 (inK true) ma mb)) := PT.imp (pt_cmp (pc_dnotin hu ha hb) hm) fun _ _ _ h => lift_din true (liftB h)
theorem mt_inT (ha : ME X C E a ma) (hb : ME X C E b mb) (hm : behindInMarks .In b = false := by rfl) : MT X C E (.Compare a [.In] [b] pos) (mB (m2 (inT false) ma mb)) := mt_cmp op_in_str (od_inT false) ha hb hm
theorem mt_niT (ha : ME X C E a ma) (hb : ME X C E b mb) (hm : behindInMarks .NotIn b = false := by rfl) : MT X C E (.Compare a [.NotIn] [b] pos) (mB (m2 (inT true) ma mb)) := mt_cmp op_notIn_str (od_inT true) ha hb hm
/-- an expression that is a bool -/
theorem mt_val (ha : ME X C E a ma) (he : ∀ whole, isTrue a X.env whole = (do let v ← whole; standAt a.pos; holding [v] (truthy v)) := by intro _; rfl) : MT X C E a (mB ma) := PT.imp (pt_val ha he) fun _ _ _ h => liftB h
/-- chains -/
def m3 (f f' : D → D → (D → Prop) → Prop) (ma mb mc : MEt) : MEt := fun env Kd KX => ma env (fun d => mb env (fun e => f d e fun z => isB z fun k => if k = true then mc env (fun g => f' e g Kd) KX else Kd (.bl false)) KX) KX
theorem lift3 (ho : OpD C r f) (ho' : OpD C r' f') {σ : L2.St} {H : Hp} {Q : VK} (h : lift C mg E (m3 f f' ma mb mc) σ H Q) : tChain r r' (lift C mg E ma) (lift C mg E mb) (lift C mg E mc) σ H Q := by
  obtain ⟨env, G, Kd, KX, ok, vr, hm, pv, px⟩ := h
  refine ⟨env, G, _, KX, ok, vr, hm, fun d x H1 G1 s1 ok1 r1 k1 => ⟨env, G1, _, KX, ok1, vr.mono s1.ge, k1, fun e y H2 G2 s2 ok2 r2 k2 =>
    ho x y d e H2 G2 _ _ ok2 (r1.mono s2.ge) r2 k2 fun z v H3 G3 s3 ok3 r3 k3 => ?_, px.on ok s1⟩, px⟩
  have k3 : isB z _ := k3
  have s02 := s1.trans ok2 s2
  have s03 := s02.trans ok3 s3
  obtain ⟨k, rfl, rfl⟩ : ∃ k, z = .bl k ∧ v = .bl k := by cases r3 <;> first | exact k3.elim | exact ⟨_, rfl, rfl⟩
  refine ⟨k, rfl, ?_⟩
  cases k with
  | true => exact ⟨env, G3, _, KX, ok3, vr.mono s03.ge, k3, fun g w H4 G4 s4 ok4 r4 k4 => ho' y w e g H4 G4 Kd Q ok4 (r2.mono (s3.ge.trans s4.ge)) r4 k4 ((pv.on s03).on s4), px.on ok s03⟩
  | false => exact pv _ _ _ _ s03 ok3 (.bl false) k3
theorem me_chain {op op' : CmpOp} (ho : OpR X (compareOp op) r) (ho' : OpR X (compareOp op') r') (hd : OpD C r f) (hd' : OpD C r' f') (ha : ME X C E a ma) (hb : ME X C E b mb) (hc : ME X C E c mc) (hm : lastMarks [op, op'] [b, c] = false := by with_unfolding_all rfl) : ME X C E (.Compare a [op, op'] [b, c] pos) (m3 f f' ma mb mc) :=
  PE.imp (pe_chain ho ho' ha hb hc hm) fun _ _ _ h => lift3 hd hd' h
theorem mt_chain {op op' : CmpOp} (ho : OpR X (compareOp op) r) (ho' : OpR X (compareOp op') r') (hd : OpD C r f) (hd' : OpD C r' f') (ha : ME X C E a ma) (hb : ME X C E b mb) (hc : ME X C E c mc) (hm : lastMarks [op, op'] [b, c] = false := by with_unfolding_all rfl) : MT X C E (.Compare a [op, op'] [b, c] pos) (mB (m3 f f' ma mb mc)) :=
  PT.imp (pt_chain ho ho' ha hb hc hm) fun _ _ _ h => lift3 hd hd' (liftB h)
theorem me_leLt (ha : ME X C E a ma) (hb : ME X C E b mb) (hc : ME X C E c mc) (hm : lastMarks [.LtE, .Lt] [b, c] = false := by with_unfolding_all rfl) : ME X C E (.Compare a [.LtE, .Lt] [b, c] pos) (m3 (ordD pLe) (ordD pLt) ma mb mc) := me_chain op_le op_lt (od_ord pLe) (od_ord pLt) ha hb hc hm
theorem mt_leLt (ha : ME X C E a ma) (hb : ME X C E b mb) (hc : ME X C E c mc) (hm : lastMarks [.LtE, .Lt] [b, c] = false := by with_unfolding_all rfl) : MT X C E (.Compare a [.LtE, .Lt] [b, c] pos) (mB (m3 (ordD pLe) (ordD pLt) ma mb mc)) := mt_chain op_le op_lt (od_ord pLe) (od_ord pLt) ha hb hc hm
theorem me_leLe (ha : ME X C E a ma) (hb : ME X C E b mb) (hc : ME X C E c mc) (hm : lastMarks [.LtE, .LtE] [b, c] = false := by with_unfolding_all rfl) : ME X C E (.Compare a [.LtE, .LtE] [b, c] pos) (m3 (ordD pLe) (ordD pLe) ma mb mc) := me_chain op_le op_le (od_ord pLe) (od_ord pLe) ha hb hc hm
theorem mt_leLe (ha : ME X C E a ma) (hb : ME X C E b mb) (hc : ME X C E c mc) (hm : lastMarks [.LtE, .LtE] [b, c] = false := by with_unfolding_all rfl) : MT X C E (.Compare a [.LtE, .LtE] [b, c] pos) (mB (m3 (ordD pLe) (ordD pLe) ma mb mc)) := mt_chain op_le op_le (od_ord pLe) (od_ord pLe) ha hb hc hm

/-! ### and, or, not, a if t else b -/
def mAnd (t u : MTt) : MTt := fun env Kb KX => t env (fun k => if k = true then u env Kb KX else Kb false) KX
def mOr (t u : MTt) : MTt := fun env Kb KX => t env (fun k => if k = true then Kb true else u env Kb KX) KX
def mNot (t : MTt) : MTt := fun env Kb KX => t env (fun k => Kb (!k)) KX
abbrev MW (X : Cx) (C : C3) (E : XK) (e : Expr) (m : MTt) : Prop := PW X e (liftT C X.mg E m)
theorem PW.imp {X : Cx} {e : Expr} {t t' : TT} (h : PW X e t) (q : ∀ σ H Q, t' σ H Q → t σ H Q) : PW X e t' := ⟨fun wh pins s σ H Q I w => h.run wh pins s σ H Q I (q σ H Q w)⟩
variable {rest : List Expr} {ta tb : MTt}
theorem mw_and1 (ha : MT X C E a ta) : MW X C E (.BoolOp .And [a] pos) ta := pw_and1 ha
theorem mw_or1 (ha : MT X C E a ta) : MW X C E (.BoolOp .Or [a] pos) ta := pw_or1 ha
theorem mw_and (ha : MT X C E a ta) (hb : MW X C E (.BoolOp .And (b :: rest) pos) tb) : MW X C E (.BoolOp .And (a :: b :: rest) pos) (mAnd ta tb) := PW.imp (pw_and ha hb) fun σ H Q ⟨env, G, Kb, KX, ok, vr, hm, pv, px⟩ =>
  ⟨env, G, _, KX, ok, vr, hm, fun k H1 G1 s1 ok1 k1 => by
    cases k with
    | true => exact ⟨env, G1, Kb, KX, ok1, vr.mono s1.ge, k1, fun b H2 G2 s2 ok2 k2 => pv b H2 G2 (s1.trans ok2 s2) ok2 k2, px.on ok s1⟩
    | false => exact pv _ _ _ s1 ok1 k1, px⟩
theorem mw_or (ha : MT X C E a ta) (hb : MW X C E (.BoolOp .Or (b :: rest) pos) tb) : MW X C E (.BoolOp .Or (a :: b :: rest) pos) (mOr ta tb) := PW.imp (pw_or ha hb) fun σ H Q ⟨env, G, Kb, KX, ok, vr, hm, pv, px⟩ =>
  ⟨env, G, _, KX, ok, vr, hm, fun k H1 G1 s1 ok1 k1 => by
    cases k with
    | false => exact ⟨env, G1, Kb, KX, ok1, vr.mono s1.ge, k1, fun b H2 G2 s2 ok2 k2 => pv b H2 G2 (s1.trans ok2 s2) ok2 k2, px.on ok s1⟩
    | true => exact pv _ _ _ s1 ok1 k1, px⟩
theorem mt_not (ha : MT X C E a ta) : MT X C E (.UnaryOp .Not a pos) (mNot ta) := PT.imp (pt_not ha) fun σ H Q ⟨env, G, Kb, KX, ok, vr, hm, pv, px⟩ => ⟨env, G, _, KX, ok, vr, hm, fun k H1 G1 s1 ok1 k1 => pv _ _ _ s1 ok1 k1, px⟩
theorem mt_w {e : Expr} {t : MTt} (h : MW X C E e t) : MT X C E e t := h.pt
/-- as values -/
def mAndV (a b : MEt) : MEt := fun env Kd KX => a env (fun d => isB d fun k => if k = true then b env Kd KX else Kd (.bl false)) KX
def mOrV (a b : MEt) : MEt := fun env Kd KX => a env (fun d => isB d fun k => if k = true then Kd (.bl true) else b env Kd KX) KX
def mNotV (a : MEt) : MEt := fun env Kd KX => a env (fun d => isB d fun k => Kd (.bl (!k))) KX
theorem me_one {op} {e : Expr} {m : MEt} (h : ME X C E e m) : ME X C E (.BoolOp op [e] pos) m := pe_one h
theorem me_and (ha : ME X C E a ma) (hb : ME X C E (.BoolOp .And (b :: rest) pos) mb) : ME X C E (.BoolOp .And (a :: b :: rest) pos) (mAndV ma mb) := PE.imp (pe_and ha hb) fun σ H Q ⟨env, G, Kd, KX, ok, vr, hm, pv, px⟩ =>
  ⟨env, G, _, KX, ok, vr, hm, fun d v H1 G1 s1 ok1 r1 k1 => by
    have k1 : isB d _ := k1
    obtain ⟨k, rfl, rfl⟩ : ∃ k, d = .bl k ∧ v = .bl k := by cases r1 <;> first | exact k1.elim | exact ⟨_, rfl, rfl⟩
    refine ⟨k, rfl, ?_⟩
    cases k with
    | true => exact ⟨env, G1, Kd, KX, ok1, vr.mono s1.ge, k1, pv.on s1, px.on ok s1⟩
    | false => exact pv _ _ _ _ s1 ok1 (.bl false) k1, px⟩
theorem me_or (ha : ME X C E a ma) (hb : ME X C E (.BoolOp .Or (b :: rest) pos) mb) : ME X C E (.BoolOp .Or (a :: b :: rest) pos) (mOrV ma mb) := PE.imp (pe_or ha hb) fun σ H Q ⟨env, G, Kd, KX, ok, vr, hm, pv, px⟩ =>
  ⟨env, G, _, KX, ok, vr, hm, fun d v H1 G1 s1 ok1 r1 k1 => by
    have k1 : isB d _ := k1
    obtain ⟨k, rfl, rfl⟩ : ∃ k, d = .bl k ∧ v = .bl k := by cases r1 <;> first | exact k1.elim | exact ⟨_, rfl, rfl⟩
    refine ⟨k, rfl, ?_⟩
    cases k with
    | false => exact ⟨env, G1, Kd, KX, ok1, vr.mono s1.ge, k1, pv.on s1, px.on ok s1⟩
    | true => exact pv _ _ _ _ s1 ok1 (.bl true) k1, px⟩
theorem me_not (ha : ME X C E a ma) : ME X C E (.UnaryOp .Not a pos) (mNotV ma) := PE.imp (pe_not ha) fun σ H Q ⟨env, G, Kd, KX, ok, vr, hm, pv, px⟩ =>
  ⟨env, G, _, KX, ok, vr, hm, fun d v H1 G1 s1 ok1 r1 k1 => by
    have k1 : isB d _ := k1
    cases r1 <;> first | exact k1.elim | skip
    exact ⟨_, rfl, pv _ _ _ _ s1 ok1 (.bl _) k1⟩, px⟩
def mNeg (a : MEt) : MEt := fun env Kd KX => a env (fun d => match d with | .int i => Kd (.int (-i)) | _ => False) KX
theorem me_neg (ha : ME X C E a ma) : ME X C E (.UnaryOp .USub a pos) (mNeg ma) := PE.imp (pe_un un_neg ha) fun σ H Q ⟨env, G, Kd, KX, ok, vr, hm, pv, px⟩ =>
  ⟨env, G, _, KX, ok, vr, hm, fun d v H1 G1 s1 ok1 r1 k1 => by
    cases r1 <;> first | exact k1.elim | skip
    exact ⟨_, rfl, pv _ _ _ _ s1 ok1 (.int _) k1⟩, px⟩
def mIf (t : MTt) (a b : MEt) : MEt := fun env Kd KX => t env (fun k => if k = true then a env Kd KX else b env Kd KX) KX
theorem me_if (hc : MT X C E c ta) (ha : ME X C E a ma) (hb : ME X C E b mb) : ME X C E (.IfExp c a b pos) (mIf ta ma mb) := PE.imp (pe_ifExp hc ha hb) fun σ H Q ⟨env, G, Kd, KX, ok, vr, hm, pv, px⟩ =>
  ⟨env, G, _, KX, ok, vr, hm, fun k H1 G1 s1 ok1 k1 => by
    cases k with
    | true => exact ⟨env, G1, Kd, KX, ok1, vr.mono s1.ge, k1, pv.on s1, px.on ok s1⟩
    | false => exact ⟨env, G1, Kd, KX, ok1, vr.mono s1.ge, k1, pv.on s1, px.on ok s1⟩, px⟩
end
end L3
/-! L3d: arguments, calls of built-ins, subscripts, slices, displays -/
namespace L3
open PySem PySem.Spec PyProof.Rows L2

/-! ### new rules below -/
section
variable {X : Cx}
theorem ints_at : ∀ {us : List Value} {ks : List Int}, us.length = ks.length → (∀ (j : Nat) (v : Value), us[j]? = some v → ∃ (x : Int) (t : Tok), ks[j]? = some x ∧ v = Value.int x t) → IntsAre us ks
  | [], [], _, _ => .nil
  | u :: us, k :: ks, hl, h => by
    obtain ⟨x, t, e1, e2⟩ := h 0 u rfl
    have e1' : k = x := Option.some.inj e1
    subst e1'
    subst e2
    refine .cons _ _ (ints_at (by simpa using hl) fun j v e => ?_)
    obtain ⟨x, t, a, b⟩ := h (j + 1) v (by simpa using e)
    exact ⟨x, t, by simpa using a, b⟩
  | [], _ :: _, hl, _ => by simp at hl
  | _ :: _, [], hl, _ => by simp at hl
/-- sorted(d) of a dict whose keys are whole numbers -/
theorem call_sortedDI (hcalm : X.calm = true) : CallR X (.builtin "sorted") (fun xs H Q => ∃ (a : Addr) (kvs : List (Key × V)) (ks : List Int), xs = [.ref a] ∧ Rd H a (.dK kvs) ∧ kvs.map (·.1) = ks.map Sum.inl ∧
    ∀ (ys : List Int) (p : Addr), ys.Perm ks → ys.Pairwise (· ≤ ·) → H p = none → Q (.ref p) (upd H p (.lst (ys.map V.int)))) := by
  intro pins s σ H xs us Q I r q
  obtain ⟨a, kvs, ks, ex, hd, hks, q⟩ := q
  subst ex
  obtain ⟨u, eu, rx⟩ := vals1 r
  subst eu
  cases rx
  obtain ⟨z, lo, vs, rel, dd⟩ := dk_rd I.hok hd
  obtain ⟨ep, hat⟩ := dd.dictAt
  have hkeys : vs.map (·.1) = ks.map Sum.inl := rel.keys.symm.trans hks
  have hl : vs.length = ks.length := by
    have e := congrArg List.length hkeys
    rw [List.length_map, List.length_map] at e
    exact e
  have h16 : vs.length ≤ sizeLine := by rw [← rel.length]; exact z
  refine Calls.call_function_entry PyProof.Rows.kind_sorted PyProof.Rows.plain_sorted PyProof.Rows.entry_sorted (PyProof.Rows.args_sorted1 _) ?_
  unfold Builtin.«sorted»
  refine wpAny_bind (m := checkCount "sorted" 1 1 _) (wpAny_pure ?_)
  refine wpAny_bind (PySem.W.kdu_collect (A := X.A.in1) (PySem.W.kdl_dict (knd := mixKind X.prog X.w) (kvs := vs) (ep := ep) lo) (I.ok.hd hcalm) hat h16 fun h' tk acc hk hacc => ?_)
  have hal : acc.toList.length = ks.length := by rw [Array.length_toList, hacc.1, hl]
  have hS : IntsAre acc.toList ks := ints_at hal fun j v e => by
    obtain ⟨k, x, e1, e2⟩ := hacc.2 j v (by rw [← Array.getElem?_toList]; exact e)
    have e3 : (vs.map (·.1))[j]? = some k := by rw [List.getElem?_map, e1]; all_goals rfl
    rw [hkeys, List.getElem?_map] at e3
    cases e4 : ks[j]? with
    | none => rw [e4] at e3; cases e3
    | some y =>
      rw [e4] at e3
      have e5 : Sum.inl y = k := Option.some.inj e3
      subst e5
      obtain ⟨t, ev⟩ := Value.isInt_shape (k := y) (v := v) e2
      exact ⟨y, t, rfl, ev⟩
  have I1 : Inv X pins σ H { s with heap := h', toks := tk } := I.kept hk
  refine wpAny_bind (wpAny_newList ?_ (by rw [hal, ← hl]; exact h16))
  have hoL : (h'.push (seqObj "list" acc.toList.toArray 0)).get? h'.objs.size = some (seqObj "list" acc.toList.toArray 0) := Heap.get?_push_size _ rfl
  show wpAny _ _ _ _ _ { s with heap := h'.push (seqObj "list" acc.toList.toArray 0), toks := tk }
  refine wpAny_bind (wpAny_holding (wpAny_call_entry PyProof.Rows.slot_list_sort ⟨_, hoL, rfl⟩ PyProof.Rows.entry_list_sort
    (SrtO.list_sort_ord SrtO.swo_int (s := { s with heap := h'.push (seqObj "list" acc.toList.toArray 0), toks := tk }) hoL (by rw [hal, ← hl]; exact h16) (fun h2 => SrtO.ints_sortable hS h2) fun out h1 h2 => ⟨_, rfl, ?_⟩)
    (PyProof.Rows.args_list_sort _)))
  obtain ⟨k1, k2, k3⟩ := SrtO.ints_out hS h1 h2
  obtain ⟨e', he'⟩ := PyProof.Rows.sortedHeap_at (vs := acc.toList) (out := out.toArray) hoL
  have hlen : ((out.map SrtO.iv).map V.int).length ≤ sizeLine := by
    rw [List.length_map, k2.length_eq, ← hl]
    exact h16
  refine wpAny_pure ⟨_, rfl, .ref h'.objs.size, upd H h'.objs.size (.lst ((out.map SrtO.iv).map V.int)), I1.laid (t' := tk) (fun b u e => ?_) (Nat.le_refl _)
    (show ObjOk X.prog X.w _ _ _ (.lst ((out.map SrtO.iv).map V.int)) from ⟨hlen, out, e', vals_of_ints k1, he'⟩), rfl, q _ _ k2 k3 (I1.hok.fresh (Nat.le_refl _))⟩
  have hb : b < h'.objs.size := Heap.lt_size e
  rw [PyProof.Rows.sortedHeap_old (Nat.ne_of_lt hb) (by rw [size_push']; exact Nat.lt_succ_of_lt hb)]
  exact Heap.get?_push_of_some _ e
/-- how many unlike ones -/
def dlen (ns : List Int) : Nat := (PyProof.Rows.firstMet (fun i => ns.getD i 0) ns.length).length
theorem dlen_nodup {ns : List Int} (h : ns.Nodup) : dlen ns = ns.length := by
  unfold dlen
  rw [RZ.firstMet_nodup h _ (Nat.le_refl _), List.take_length]
def tLenSet (K : PySem.W.Frag) (ta : TE) : TE := fun σ H Q => ta σ H fun x H1 => ∃ (l : Addr) (ns : List Int), x = .ref l ∧ SqL K H1 l (ns.map V.int) ∧ ns.length ≤ 4000 ∧ Q (.int (dlen ns : Nat)) H1
theorem pe_lenSetG {a : Expr} {ta : TE} {p p2 q pos : Pos} (hg : Gl X "len") (hm : X.mg "len" = none) (hg2 : Gl X "set") (hm2 : X.mg "set" = none) (ha : PE X a ta) (hc : X.calm = true := by rfl)
    (na : starEach [a] X.env = (false, eval a X.env) :: starEach [] X.env := by rfl) : PE X (.Call (.Name "len" p) [.Call (.Name "set" p2) [a] [] q] [] pos) (tLenSet X.K ta) := by
  refine ⟨fun pins s σ H Q I h => ?_⟩
  refine Call_ (ld_blt I hg hm boot_len ?_)
  refine PyProof.Rows.callWith_builtin1 (PyProof.Rows.args_cons ?_ rfl) rfl rfl
  refine Call_ (ld_blt I hg2 hm2 boot_set ?_)
  refine PyProof.Rows.callWith_type1 (PyProof.Rows.args_cons (thn (ha.run pins s σ H _ I h) fun v s1 ⟨x, H1, I1, r1, q1⟩ => PyProof.Rows.args_nil ?_) na) na rfl
  obtain ⟨l, ns, rfl, hq, hl, q1⟩ := q1
  cases r1
  obtain ⟨its, r, pl, hz⟩ := I1.list hq
  have hlen : its.toArray.size = ns.length := by rw [List.size_toArray, ← r.length, List.length_map]
  refine call_set_list (I1.ok.hd hc) pl.isList (by simpa using RZ.intsAre_vals r) (by rw [hlen]; unfold scanBound; omega) fun h' tk hS hk => ?_
  refine PyProof.Rows.args_nil ?_
  rw [hlen] at hS
  obtain ⟨o, es, ep, t, ho, hex, hd, _, _, _, hf, hn⟩ := hS
  have I2 : Inv X pins σ H1 { s1 with heap := h', toks := tk } := I1.kept fun b o e => hk b o (Heap.lt_size e) e
  have hb := PyProof.Rows.firstMet_length_le (fun i => ns.getD i 0) ns.length
  exact call_len_set ho hex hd hf (by rw [hn] <;> omega) ⟨.int (dlen ns : Nat), H1, I2.tok _, ⟨_, by rw [hn]; rfl⟩, q1⟩
end

/-! ### arguments -/
abbrev MAt := EnvE → (List D → Prop) → (Exn → Prop) → Prop
abbrev PostA (C : C3) (n : Nat) (H G : Hp) (Kl : List D → Prop) (Q : List V → Hp → Prop) : Prop := ∀ ds vs H' G', Stp C H G H' G' → Ok3 C H' G' → Rps C.K G' ds vs → ds.length = n → Kl ds → Q vs H'
def liftA (C : C3) (mg : Str → Option Value) (E : XK) (n : Nat) (m : MAt) : TA := fun σ H Q => ∃ env G Kl KX, Ok3 C H G ∧ VR C.K G env σ ∧ m env Kl KX ∧ PostA C n H G Kl Q ∧ PostX C mg H G KX E
abbrev MA (X : Cx) (C : C3) (E : XK) (es : List Expr) (m : MAt) : Prop := PA X es (liftA C X.mg E es.length m)
def aNil : MAt := fun _ Kl _ => Kl []
def aCons (m : MEt) (r : MAt) : MAt := fun env Kl KX => m env (fun d => r env (fun ds => Kl (d :: ds)) KX) KX
theorem PA.imp {X : Cx} {es : List Expr} {t t' : TA} (h : PA X es t) (q : ∀ σ H Q, t' σ H Q → t σ H Q) : PA X es t' := ⟨fun pos pins s σ H Q I w => h.run pos pins s σ H Q I (q σ H Q w)⟩
section
variable {X : Cx} {C : C3} {E : XK} {e a b : Expr} {es : List Expr} {m ma mb : MEt} {r : MAt} {pos p : Pos} {mg : Str → Option Value}
theorem ma_nil : MA X C E [] aNil := PA.imp pa_nil fun σ H Q ⟨env, G, Kl, KX, ok, vr, hm, pv, px⟩ => pv [] [] H G Stp.refl ok .nil rfl hm
theorem ma_cons (h : ME X C E e m) (hr : MA X C E es r) (hs : starEach (e :: es) X.env = (false, eval e X.env) :: starEach es X.env := by rfl) : MA X C E (e :: es) (aCons m r) := PA.imp (pa_cons h hr hs) fun σ H Q ⟨env, G, Kl, KX, ok, vr, hm, pv, px⟩ =>
  ⟨env, G, _, KX, ok, vr, hm, fun d v H1 G1 s1 ok1 r1 k1 => ⟨env, G1, _, KX, ok1, vr.mono s1.ge, k1, fun ds vs H2 G2 s2 ok2 r2 n2 k2 => pv _ _ _ _ (s1.trans ok2 s2) ok2 (.cons (r1.mono s2.ge) r2) (by rw [List.length_cons, n2]; rfl) k2, px.on ok s1⟩, px⟩
/-- a call by values -/
def CD (C : C3) (r : List V → Hp → VK → Prop) (f : List D → (D → Prop) → Prop) : Prop := ∀ (vs : List V) (ds : List D) (H G : Hp) (Kd : D → Prop) (Q : VK), Ok3 C H G → Rps C.K G ds vs → f ds Kd → PostV C H G Kd Q → r vs H Q
def CF (C : C3) (r : List V → Hp → VK → Prop) (f : List D → (D → Prop) → Prop) : Prop := ∀ (vs : List V) (ds : List D) (H G : Hp) (Kd : D → Prop) (Q : VK), Ok3 C H G → Rps C.K G ds vs → f ds Kd → PostF C H G Kd Q → r vs H Q
theorem CF.cd {C : C3} {r : List V → Hp → VK → Prop} {f : List D → (D → Prop) → Prop} (h : CF C r f) : CD C r f := fun vs ds H G Kd Q ok rr k pv => h vs ds H G Kd Q ok rr k pv.fresh
def mCall (f : List D → (D → Prop) → Prop) (r : MAt) : MEt := fun env Kd KX => r env (fun ds => f ds Kd) KX
theorem PostF.on {H G H' G' : Hp} {Kd : D → Prop} {Q : VK} (h : PostF C H G Kd Q) (s : Stp C H G H' G') : PostF C H' G' Kd Q := fun d q o H2 G2 s2 ok2 hp gp hh sp ob k => h d q o H2 G2 (s.trans ok2 s2) ok2 (by
  cases z : nT H q with
  | none => rfl
  | some u =>
    rw [s.nx q u sp z] at hp
    cases hp) gp hh sp ob k
theorem liftC {n : Nat} {rv : List V → Hp → VK → Prop} {f : List D → (D → Prop) → Prop} (hf : CD C rv f) {σ : L2.St} {H : Hp} {Q : VK} (h : lift C mg E (mCall f r) σ H Q) : tCB rv (liftA C mg E n r) σ H Q := by
  obtain ⟨env, G, Kd, KX, ok, vr, hm, pv, px⟩ := h
  exact ⟨env, G, _, KX, ok, vr, hm, fun ds vs H1 G1 s1 ok1 r1 _ k1 => hf vs ds H1 G1 Kd Q ok1 r1 k1 (pv.on s1), px⟩
theorem liftCF {n : Nat} {rv : List V → Hp → VK → Prop} {f : List D → (D → Prop) → Prop} (hf : CF C rv f) {σ : L2.St} {H : Hp} {Q : VK} (h : liftF C mg E (mCall f r) σ H Q) : tCB rv (liftA C mg E n r) σ H Q := by
  obtain ⟨env, G, Kd, KX, ok, vr, hm, pv, px⟩ := h
  exact ⟨env, G, _, KX, ok, vr, hm, fun ds vs H1 G1 s1 ok1 r1 _ k1 => hf vs ds H1 G1 Kd Q ok1 r1 k1 (pv.on s1), px⟩
theorem me_callB {x : Str} {id : String} {rv : List V → Hp → VK → Prop} {f : List D → (D → Prop) → Prop} (hc : CallR X (.builtin id) rv) (hf : CD C rv f) (hg : Gl X x) (hm : X.mg x = none) (hv : bootBuiltins x = some (.builtin id)) (ha : MA X C E (e :: es) r) (hn : x ≠ "__name__" := by decide) (hdb : (x == ("__debug__" : Str)) = false := by decide)
    (he : starEach (e :: es) X.env = (false, eval e X.env) :: starEach es X.env := by rfl) (hpl : (backTo pos (starEach es X.env)).any (·.1) = false := by rfl) : ME X C E (.Call (.Name x p) (e :: es) [] pos) (mCall f r) := PE.imp (pe_callB hc hg hm hv ha hn hdb he hpl) fun _ _ _ h => liftC hf h
theorem mf_callB {x : Str} {id : String} {rv : List V → Hp → VK → Prop} {f : List D → (D → Prop) → Prop} (hc : CallR X (.builtin id) rv) (hf : CF C rv f) (hg : Gl X x) (hm : X.mg x = none) (hv : bootBuiltins x = some (.builtin id)) (ha : MA X C E (e :: es) r) (hn : x ≠ "__name__" := by decide) (hdb : (x == ("__debug__" : Str)) = false := by decide)
    (he : starEach (e :: es) X.env = (false, eval e X.env) :: starEach es X.env := by rfl) (hpl : (backTo pos (starEach es X.env)).any (·.1) = false := by rfl) : MF X C E (.Call (.Name x p) (e :: es) [] pos) (mCall f r) := PE.imp (pe_callB hc hg hm hv ha hn hdb he hpl) fun _ _ _ h => liftCF hf h
theorem me_callTy {x : Str} {T : String} {rv : List V → Hp → VK → Prop} {f : List D → (D → Prop) → Prop} (hc : CallR X (.type T) rv) (hf : CD C rv f) (hg : Gl X x) (hm : X.mg x = none) (hv : bootBuiltins x = some (.type T)) (ha : MA X C E (e :: es) r) (hn : x ≠ "__name__" := by decide) (hdb : (x == ("__debug__" : Str)) = false := by decide)
    (he : starEach (e :: es) X.env = (false, eval e X.env) :: starEach es X.env := by rfl) (hpl : (backTo pos (starEach es X.env)).any (·.1) = false := by rfl) : ME X C E (.Call (.Name x p) (e :: es) [] pos) (mCall f r) := PE.imp (pe_callTy hc hg hm hv ha hn hdb he hpl) fun _ _ _ h => liftC hf h
theorem mf_callTy {x : Str} {T : String} {rv : List V → Hp → VK → Prop} {f : List D → (D → Prop) → Prop} (hc : CallR X (.type T) rv) (hf : CF C rv f) (hg : Gl X x) (hm : X.mg x = none) (hv : bootBuiltins x = some (.type T)) (ha : MA X C E (e :: es) r) (hn : x ≠ "__name__" := by decide) (hdb : (x == ("__debug__" : Str)) = false := by decide)
    (he : starEach (e :: es) X.env = (false, eval e X.env) :: starEach es X.env := by rfl) (hpl : (backTo pos (starEach es X.env)).any (·.1) = false := by rfl) : MF X C E (.Call (.Name x p) (e :: es) [] pos) (mCall f r) := PE.imp (pe_callTy hc hg hm hv ha hn hdb he hpl) fun _ _ _ h => liftCF hf h
end

/-! ### the built-ins -/
section
variable {X : Cx} {C : C3}
def intsOf : List D → Option (List Int)
  | [] => some []
  | .int i :: r => (intsOf r).map (i :: ·)
  | _ :: _ => none
theorem intsOf_map : ∀ ns : List Int, intsOf (ns.map D.int) = some ns
  | [] => rfl
  | n :: r => by rw [List.map_cons, intsOf, intsOf_map r]; rfl
theorem intsOf_eq : ∀ {ds : List D} {ns : List Int}, intsOf ds = some ns → ds = ns.map D.int
  | [], ns, h => by
    have h : some [] = some ns := h
    cases h
    rfl
  | .int i :: r, ns, h => by
    have h : (intsOf r).map (i :: ·) = some ns := h
    cases q : intsOf r with
    | none => rw [q] at h; cases h
    | some ms =>
      rw [q] at h
      have h : some (i :: ms) = some ns := h
      cases h
      rw [List.map_cons, intsOf_eq q]
  | .non :: _, _, h => by cases h
  | .bl _ :: _, _, h => by cases h
  | .str _ :: _, _, h => by cases h
  | .tup _ :: _, _, h => by cases h
  | .lst _ :: _, _, h => by cases h
  | .dic _ :: _, _, h => by cases h
  | .ref _ :: _, _, h => by cases h
def sortI (ns : List Int) : List Int := ns.mergeSort fun a b => decide (a ≤ b)
theorem sortI_perm (ns : List Int) : (sortI ns).Perm ns := List.mergeSort_perm ns _
theorem sortI_le (ns : List Int) : (sortI ns).Pairwise (· ≤ ·) := by
  have h := List.pairwise_mergeSort (le := fun a b : Int => decide (a ≤ b)) (fun a b c h1 h2 => by
    have h1 := of_decide_eq_true h1
    have h2 := of_decide_eq_true h2
    exact decide_eq_true (by omega)) (fun a b => by
    by_cases h : a ≤ b
    · rw [decide_eq_true h]; rfl
    · rw [decide_eq_true (show b ≤ a by omega), Bool.or_true]) ns
  exact h.imp fun h => of_decide_eq_true h
theorem sortI_same {ns ys : List Int} (p : ys.Perm ns) (s : ys.Pairwise (· ≤ ·)) : ys = sortI ns := PySem.W.ksm_same (p.trans (sortI_perm ns).symm) s (sortI_le ns)
theorem RpK.keys {K : PySem.W.Frag} {G : Hp} : ∀ {kvs : List (Int × D)} {kws : List (Key × V)}, RpK K G kvs kws → kws.map (·.1) = (kvs.map (·.1)).map Sum.inl
  | _, _, .nil => rfl
  | _, _, .cons _ r => by simp only [List.map_cons]; rw [RpK.keys r]
theorem RpK.length {K : PySem.W.Frag} {G : Hp} : ∀ {kvs : List (Int × D)} {kws : List (Key × V)}, RpK K G kvs kws → kvs.length = kws.length
  | _, _, .nil => rfl
  | _, _, .cons _ r => by rw [List.length_cons, List.length_cons, RpK.length r]

def lenD (ds : List D) (K : D → Prop) : Prop := match ds with
  | [.lst xs] => K (.int xs.length)
  | [.tup xs] => K (.int xs.length)
  | [.str x] => x.length ≤ sizeLine ∧ K (.int x.length)
  | [.dic kvs] => K (.int kvs.length)
  | _ => False
theorem call_lenF : CallR X (.builtin "len") (fun xs H Q => ∃ a kvs, xs = [V.ref a] ∧ Rd H a (.dK kvs) ∧ Q (.int kvs.length) H) := by
  intro pins s σ H xs us Q I r h
  obtain ⟨a, kvs, rfl, ha, q⟩ := h
  obtain ⟨u, rfl, ru⟩ := vals1 r
  cases ru
  exact d_len I ha fun t s' I' => ⟨.int kvs.length, H, I', ⟨t, rfl⟩, q⟩
theorem cd_len : CD C (fun xs H Q => (∃ x n, xs = [x] ∧ LenV C.K x H n ∧ Q (.int n) H) ∨ ∃ a kvs, xs = [V.ref a] ∧ Rd H a (.dK kvs) ∧ Q (.int kvs.length) H) lenD := by
  intro vs ds H G Kd Q ok rr h pv
  have sm : ∀ a o, G a = some o → H a = some o := fun a o q => (ok.sub a o q).2
  unfold lenD at h
  split at h
  · cases rr with
    | cons r1 r2 =>
      cases r2
      cases r1 with
      | lst ha ra => exact .inl ⟨_, _, rfl, .inl ⟨_, .inl (.inl (sm _ _ ha)), rfl⟩, by rw [← ra.length]; exact pv _ _ H G Stp.refl ok (.int _) h⟩
  · cases rr with
    | cons r1 r2 =>
      cases r2
      cases r1 with
      | tup ha ra => exact .inl ⟨_, _, rfl, .inr ⟨_, seqT sm ha.sq, rfl⟩, by rw [← ra.length]; exact pv _ _ H G Stp.refl ok (.int _) h⟩
  · cases rr with
    | cons r1 r2 =>
      cases r2
      cases r1
      exact .inl ⟨_, _, rfl, ⟨h.1, rfl⟩, pv _ _ H G Stp.refl ok (.int _) h.2⟩
  · cases rr with
    | cons r1 r2 =>
      cases r2
      cases r1 with
      | dic ha ra => exact .inr ⟨_, _, rfl, .inr ⟨_, sm _ _ ha⟩, by rw [← ra.length]; exact pv _ _ H G Stp.refl ok (.int _) h⟩
  · exact h.elim
@[irreducible] def sortedD (ds : List D) (K : D → Prop) : Prop := match ds with
  | [.lst xs] => (match intsOf xs with
    | some ns => K (.lst ((sortI ns).map D.int))
    | none => False)
  | [.dic kvs] => K (.lst ((sortI (kvs.map (·.1))).map D.int))
  | _ => False
theorem cf_sorted : CF C (fun xs H Q => rSortedI C.K xs H Q ∨ ∃ (a : Addr) (kvs : List (Key × V)) (ks : List Int), xs = [.ref a] ∧ Rd H a (.dK kvs) ∧ kvs.map (·.1) = ks.map Sum.inl ∧
    ∀ (ys : List Int) (p : Addr), ys.Perm ks → ys.Pairwise (· ≤ ·) → H p = none → Q (.ref p) (upd H p (.lst (ys.map V.int)))) sortedD := by
  intro vs ds H G Kd Q ok rr h pv
  have sm : ∀ a o, G a = some o → H a = some o := fun a o q => (ok.sub a o q).2
  have fin : ∀ (ns : List Int), Kd (.lst ((sortI ns).map D.int)) → ∀ (ys : List Int) (p : Addr), ys.Perm ns → ys.Pairwise (· ≤ ·) → H p = none → Q (.ref p) (upd H p (.lst (ys.map V.int))) := fun ns k ys p hp hs hn => by
    rw [sortI_same hp hs]
    obtain ⟨o1, s1, g⟩ := ok.new (o := .lst ((sortI ns).map V.int)) hn
    exact pv _ p _ _ G s1 o1 (nT_none hn) g upd_same (ok.iv.new hn) (.lst (Rps.ofInts _)) k
  unfold sortedD at h
  split at h
  · split at h
    · rename_i ns e
      rw [intsOf_eq e] at rr
      cases rr with
      | cons r1 r2 =>
        cases r2
        cases r1 with
        | lst ha ra =>
          rw [ra.ints] at ha
          exact .inl ⟨_, ns, rfl, .inl (.inl (sm _ _ ha)), fun ys p hp hs hn => fin ns h ys p hp hs hn⟩
    · exact h.elim
  · cases rr with
    | cons r1 r2 =>
      cases r2
      cases r1 with
      | dic ha ra => exact .inr ⟨_, _, _, rfl, .inr ⟨_, sm _ _ ha⟩, ra.keys, fun ys p hp hs hn => fin _ h ys p hp hs hn⟩
  · exact h.elim
/-- list(..) -/
def listD (ds : List D) (K : D → Prop) : Prop := match ds with
  | [.lst xs] => K (.lst xs)
  | [.tup xs] => K (.lst xs)
  | _ => False
theorem cf_list : CF C (fun xs H Q => ∃ p ys, xs = [.ref p] ∧ (SqL C.K H p ys ∨ SqT C.K H p ys) ∧ ∀ l, H l = none → Q (.ref l) (upd H l (.lst ys))) listD := by
  intro vs ds H G Kd Q ok rr h pv
  have sm : ∀ a o, G a = some o → H a = some o := fun a o q => (ok.sub a o q).2
  unfold listD at h
  split at h
  · cases rr with
    | cons r1 r2 =>
      cases r2
      cases r1 with
      | lst ha ra => exact ⟨_, _, rfl, .inl (.inl (.inl (sm _ _ ha))), fun l hn => by
          obtain ⟨o1, s1, g⟩ := ok.new (o := .lst _) hn
          exact pv _ l _ _ G s1 o1 (nT_none hn) g upd_same (ok.iv.new hn) (.lst ra) h⟩
  · cases rr with
    | cons r1 r2 =>
      cases r2
      cases r1 with
      | tup ha ra => exact ⟨_, _, rfl, .inr (seqT sm ha.sq), fun l hn => by
          obtain ⟨o1, s1, g⟩ := ok.new (o := .lst _) hn
          exact pv _ l _ _ G s1 o1 (nT_none hn) g upd_same (ok.iv.new hn) (.lst ra) h⟩
  · exact h.elim
/-- tuple(list) -/
def tupleD (ds : List D) (K : D → Prop) : Prop := match ds with
  | [.lst xs] => K (.tup xs)
  | [.tup xs] => K (.tup xs)
  | _ => False
theorem cd_tuple : CD C (rTupleN C.K) tupleD := by
  intro vs ds H G Kd Q ok rr h pv
  have sm : ∀ a o, G a = some o → H a = some o := fun a o q => (ok.sub a o q).2
  unfold tupleD at h
  split at h
  · cases rr with
    | cons r1 r2 =>
      cases r2
      cases r1 with
      | lst ha ra => exact ⟨_, _, rfl, .inl ⟨.inl (.inl (sm _ _ ha)), fun l ob hn c1 c2 => by
          obtain ⟨o1, s1⟩ := ok.lay (o := .frz ob (.tup _)) hn
          exact pv _ _ _ _ s1 o1 (.tup (.inl ⟨ob, upd_same, c1, c2⟩) (ra.mono s1.ge)) h⟩⟩
  · cases rr with
    | cons r1 r2 =>
      cases r2
      cases r1 with
      | tup ha ra => exact ⟨_, _, rfl, .inr ⟨seqT sm ha.sq, pv _ _ H G Stp.refl ok (.tup ha ra) h⟩⟩
  · exact h.elim
/-- min, max of two; of a list of whole numbers -/
@[irreducible] def mm2 (p : Int → Int → Int) (ds : List D) (K : D → Prop) : Prop := match ds with
  | [.int i, .int j] => K (.int (p i j))
  | _ => False
theorem mm2_go {p : Int → Int → Int} {i j v : Int} {K : D → Prop} (h : p i j = v) (k : K (.int v)) : mm2 p [.int i, .int j] K := by
  unfold mm2
  show K (.int (p i j))
  rw [h]
  exact k
theorem cd_mm2 (p : Int → Int → Int) : CD C (fun xs H Q => ∃ i j, xs = [.int i, .int j] ∧ Q (.int (p i j)) H) (mm2 p) := by
  intro vs ds H G Kd Q ok rr h pv
  unfold mm2 at h
  split at h
  · cases rr with
    | cons r1 r2 =>
      cases r2 with
      | cons r2 r3 =>
        cases r3
        cases r1
        cases r2
        exact ⟨_, _, rfl, pv _ _ H G Stp.refl ok (.int _) h⟩
  · exact h.elim
def minI : Int → List Int → Int
  | a, [] => a
  | a, b :: r => minI (if b < a then b else a) r
theorem minI_mem : ∀ (r : List Int) (a : Int), minI a r ∈ a :: r
  | [], a => by simp [minI]
  | b :: r, a => by
    unfold minI
    have h := minI_mem r (if b < a then b else a)
    rcases List.mem_cons.mp h with e | e
    · rw [e]
      split
      · simp
      · simp
    · exact List.mem_cons_of_mem _ (List.mem_cons_of_mem _ e)
theorem minI_le : ∀ (r : List Int) (a : Int), minI a r ≤ a ∧ ∀ y ∈ r, minI a r ≤ y
  | [], a => by simp [minI]
  | b :: r, a => by
    have q := minI_le r (if b < a then b else a)
    unfold minI
    by_cases c : b < a
    · rw [if_pos c] at q ⊢
      obtain ⟨h1, h2⟩ := q
      refine ⟨by omega, fun y hy => ?_⟩
      rcases List.mem_cons.mp hy with e | e
      · subst e
        exact h1
      · exact h2 y e
    · rw [if_neg c] at q ⊢
      obtain ⟨h1, h2⟩ := q
      refine ⟨h1, fun y hy => ?_⟩
      rcases List.mem_cons.mp hy with e | e
      · subst e
        omega
      · exact h2 y e
@[irreducible] def minL (ds : List D) (K : D → Prop) : Prop := match ds with
  | [.lst xs] => (match intsOf xs with
    | some (n :: ns) => K (.int (minI n ns))
    | _ => False)
  | _ => False
theorem cd_minL : CD C (rMin C.K) minL := by
  intro vs ds H G Kd Q ok rr h pv
  have sm : ∀ a o, G a = some o → H a = some o := fun a o q => (ok.sub a o q).2
  unfold minL at h
  split at h
  · split at h
    · rename_i n ns e
      rw [intsOf_eq e] at rr
      cases rr with
      | cons r1 r2 =>
        cases r2
        cases r1 with
        | lst ha ra =>
          rw [ra.ints] at ha
          refine ⟨_, n :: ns, rfl, .inl (.inl (sm _ _ ha)), by simp, fun m hm hle => ?_⟩
          have e1 := minI_mem ns n
          obtain ⟨e2, e3⟩ := minI_le ns n
          have e4 := hle _ e1
          have e5 : minI n ns ≤ m := by
            rcases List.mem_cons.mp hm with z | z
            · rw [z]; exact e2
            · exact e3 m z
          have e6 : m = minI n ns := by omega
          rw [e6]
          exact pv _ _ H G Stp.refl ok (.int _) h
    · exact h.elim
  · exact h.elim
/-- int(..), str(..) -/
def intD (ds : List D) (K : D → Prop) : Prop := match ds with
  | [.int i] => K (.int i)
  | [.bl b] => K (.int (if b then 1 else 0))
  | [.str x] => x.length ≤ 640 ∧ (match PySem.intText? x with | some n => K (.int n) | none => False)
  | _ => False
theorem cd_int : CD C (fun xs H Q => ((∃ i, xs = [.int i] ∧ Q (.int i) H) ∨ ∃ k, xs = [.bl k] ∧ Q (.int (if k then 1 else 0)) H) ∨ ∃ a n, xs = [V.str a] ∧ PySem.intText? a = some n ∧ a.length ≤ 640 ∧ Q (.int n) H) intD := by
  intro vs ds H G Kd Q ok rr h pv
  unfold intD at h
  split at h
  · cases rr with
    | cons r1 r2 =>
      cases r2
      cases r1
      exact .inl (.inl ⟨_, rfl, pv _ _ H G Stp.refl ok (.int _) h⟩)
  · cases rr with
    | cons r1 r2 =>
      cases r2
      cases r1
      exact .inl (.inr ⟨_, rfl, pv _ _ H G Stp.refl ok (.int _) h⟩)
  · cases rr with
    | cons r1 r2 =>
      cases r2
      cases r1
      obtain ⟨h1, h2⟩ := h
      split at h2
      · rename_i n e
        exact .inr ⟨_, n, rfl, e, h1, pv _ _ H G Stp.refl ok (.int _) h2⟩
      · exact h2.elim
  · exact h.elim
def strD (ds : List D) (K : D → Prop) : Prop := match ds with
  | [.int i] => i.natAbs.log2 < 1920 ∧ K (.str (toString i))
  | _ => False
theorem cd_str : CD C (fun xs H Q => ∃ i, xs = [.int i] ∧ i.natAbs.log2 < 1920 ∧ Q (.str (toString i)) H) strD := by
  intro vs ds H G Kd Q ok rr h pv
  unfold strD at h
  split at h
  · cases rr with
    | cons r1 r2 =>
      cases r2
      cases r1
      exact ⟨_, rfl, h.1, pv _ _ H G Stp.refl ok (.str _) h.2⟩
  · exact h.elim
/-- dict(a list of pairs) -/
def putD (kvs : List (Int × D)) (k : Int) (d : D) : List (Int × D) := if kvs.any (fun p => decide (p.1 = k)) then kvs.map (fun p => if p.1 = k then (p.1, d) else p) else kvs ++ [(k, d)]
def mergeD (kvs more : List (Int × D)) : List (Int × D) := more.foldl (fun acc p => putD acc p.1 p.2) kvs
def pairsOf : List D → Option (List (Int × D))
  | [] => some []
  | .tup [.int k, d] :: r => (pairsOf r).map ((k, d) :: ·)
  | _ :: _ => none
end
end L3
/-! L3e: dicts made, subscripts, slices, displays, get, index -/
namespace L3
open PySem PySem.Spec PyProof.Rows L2
section
variable {X : Cx} {C : C3} {E : XK} {e a b c : Expr} {es : List Expr} {m ma mb mc : MEt} {r : MAt} {pos p : Pos} {mg : Str → Option Value}
/-! ### a new dict, frozen -/
theorem pe_frz {t : TE} (h : PE X e t) : PE X e (fun σ H Q => t σ H fun v H' => ∃ (p : Addr) (u : HO), v = .ref p ∧ H' p = some u ∧ Mut (some u) ∧ ∀ od, Q v (upd H' p (.frz od u))) := by
  refine ⟨fun pins s σ H Q I hw => ?_⟩
  refine thn (h.run pins s σ H _ I hw) fun v s1 ⟨x, H1, I1, rx, p, u, ex, hp, mu, q⟩ => ?_
  obtain ⟨od, I2⟩ := I1.lock hp mu
  exact ⟨x, _, I2, rx, q od⟩
theorem RpK.put {K : PySem.W.Frag} {G : Hp} {k : Int} {d : D} {v : V} (h : Rp K G d v) {kvs : List (Int × D)} {kws : List (Key × V)} (r : RpK K G kvs kws) : RpK K G (putD kvs k d) (putK kws (Sum.inl k) v) := by
  have e1 : (kvs.any fun p => decide (p.1 = k)) = kws.any fun p => decide (p.1 = Sum.inl k) := by
    have q : ∀ {xs : List (Int × D)} {ys : List (Key × V)}, RpK K G xs ys → (xs.any fun p => decide (p.1 = k)) = ys.any fun p => decide (p.1 = Sum.inl k) := by
      intro xs
      induction xs with
      | nil => intro ys q; cases q; rfl
      | cons x xs ih =>
        intro ys q
        cases q with
        | cons q1 q2 =>
          rename_i j d v r'
          rw [List.any_cons, List.any_cons, ih q2]
          by_cases e : j = k
          · subst e; simp
          · rw [decide_eq_false (by exact e), decide_eq_false (fun z => e (Sum.inl.inj z))]
    exact q r
  have e2 : RpK K G (kvs.map fun p => if p.1 = k then (p.1, d) else p) (kws.map fun p => if p.1 = Sum.inl k then (p.1, v) else p) := by
    have q : ∀ {xs : List (Int × D)} {ys : List (Key × V)}, RpK K G xs ys → RpK K G (xs.map fun p => if p.1 = k then (p.1, d) else p) (ys.map fun p => if p.1 = Sum.inl k then (p.1, v) else p) := by
      intro xs
      induction xs with
      | nil => intro ys q; cases q; exact .nil
      | cons x xs ih =>
        intro ys q
        cases q with
        | cons q1 q2 =>
          rename_i j d2 v2 r'
          rw [List.map_cons, List.map_cons]
          by_cases e : j = k
          · subst e
            rw [if_pos rfl, if_pos rfl]
            exact .cons h (ih q2)
          · rw [if_neg (by exact e), if_neg (fun z => e (Sum.inl.inj z))]
            exact .cons q1 (ih q2)
    exact q r
  have app : ∀ {xs : List (Int × D)} {ys : List (Key × V)}, RpK K G xs ys → RpK K G (xs ++ [(k, d)]) (ys ++ [(Sum.inl k, v)]) := by
    intro xs
    induction xs with
    | nil => intro ys q; cases q; exact .cons h .nil
    | cons x xs ih => intro ys q; cases q with | cons q1 q2 => exact .cons q1 (ih q2)
  unfold putD putK
  rw [e1]
  split
  · exact e2
  · exact app r
theorem RpK.merge {K : PySem.W.Frag} {G : Hp} : ∀ {more : List (Int × D)} {more' : List (Key × V)} {kvs : List (Int × D)} {kws : List (Key × V)}, RpK K G more more' → RpK K G kvs kws → RpK K G (mergeD kvs more) (mergeK kws more') := by
  intro more
  induction more with
  | nil => intro more' kvs kws q r; cases q; exact r
  | cons x xs ih =>
    intro more' kvs kws q r
    cases q with
    | cons q1 q2 =>
      rename_i k d v r'
      have z := ih q2 (r.put (k := k) q1)
      exact z
theorem pairsOf_eq {K : PySem.W.Frag} {G : Hp} : ∀ {ds : List D} {kvs : List (Int × D)} {vs : List V}, pairsOf ds = some kvs → Rps K G ds vs → ∃ (ps : List Addr) (kws : List (Key × V)), vs = ps.map V.ref ∧ Paired (fun p kv => SqT K G p [kV kv.1, kv.2]) ps kws ∧ RpK K G kvs kws
  | [], _, _, h, .nil => by
    have h : some [] = some _ := h
    cases h
    exact ⟨[], [], rfl, .nil, .nil⟩
  | d :: ds, kvs, _, h, .cons h1 h2 => by
    unfold pairsOf at h
    split at h
    · rename_i h'; cases h'
    · rename_i k d' r e
      cases e
      cases q : pairsOf ds with
      | none => rw [q] at h; cases h
      | some ms =>
        rw [q] at h
        have h : some ((k, d') :: ms) = some kvs := h
        cases h
        obtain ⟨ps, kws, e1, e2, e3⟩ := pairsOf_eq q h2
        cases h1 with
        | tup ha ra =>
          cases ra with
          | cons r1 r2 =>
            cases r2 with
            | cons r3 r4 =>
              cases r4
              cases r1
              exact ⟨_ :: ps, (Sum.inl k, _) :: kws, by rw [List.map_cons, e1], .cons ha.sq e2, .cons r3 e3⟩
    · cases h
@[irreducible] def dictD (ds : List D) (K : D → Prop) : Prop := match ds with
  | [.lst xs] => (match pairsOf xs with
    | some kvs => K (.dic (mergeD [] kvs))
    | none => False)
  | _ => False
theorem Paired.imp' {α β : Type} {F F' : α → β → Prop} (h : ∀ a b, F a b → F' a b) : ∀ {l : List α} {l' : List β}, Paired F l l' → Paired F' l l'
  | _, _, .nil => .nil
  | _, _, .cons a r => .cons (h _ _ a) (Paired.imp' h r)
theorem lift_frz {C : C3} {H G : Hp} {Kd : D → Prop} {Q : VK} {p : Addr} {kvs : List (Int × D)} {kws : List (Key × V)} (ok : Ok3 C H G) (pv : PostV C H G Kd Q) (hp : H p = none) (r : RpK C.K G kvs kws) (k : Kd (.dic kvs)) :
    ∃ (p' : Addr) (u : HO), V.ref p = .ref p' ∧ (upd H p (.dK kws)) p' = some u ∧ Mut (some u) ∧ ∀ od, Q (.ref p) (upd (upd H p (.dK kws)) p' (.frz od u)) := by
  refine ⟨p, _, rfl, upd_same, trivial, fun od => ?_⟩
  rw [upd_upd]
  obtain ⟨o1, s1⟩ := ok.lay (o := .frz od (.dK kws)) hp
  exact pv _ _ _ _ s1 o1 (.dic upd_same (r.mono s1.ge)) k
theorem me_dict (hc : X.calm = true) (hK : X.K = C.K) (hg : Gl X "dict") (hm : X.mg "dict" = none) (ha : MA X C E (e :: es) r)
    (he : starEach (e :: es) X.env = (false, eval e X.env) :: starEach es X.env := by rfl) (hpl : (backTo pos (starEach es X.env)).any (·.1) = false := by rfl) : ME X C E (.Call (.Name "dict" p) (e :: es) [] pos) (mCall dictD r) :=
  PE.imp (pe_frz (pe_callTy (call_dictP hc) hg hm (by decide +kernel) ha (by decide) (by decide) he hpl)) fun σ H Q ⟨env, G, Kd, KX, ok, vr, hm, pv, px⟩ => by
    refine ⟨env, G, _, KX, ok, vr, hm, fun ds vs H1 G1 s1 ok1 r1 _ k1 => ?_, px⟩
    have k1 : dictD ds Kd := k1
    unfold dictD at k1
    split at k1
    · split at k1
      · rename_i kvs q
        cases r1 with
        | cons r1 r2 =>
          cases r2
          cases r1 with
          | lst hl rl =>
            have sm : ∀ a o, G1 a = some o → H1 a = some o := fun a o q => (ok1.sub a o q).2
            obtain ⟨ps, kws, e1, e2, e3⟩ := pairsOf_eq q rl
            subst e1
            exact ⟨_, ps, kws, rfl, .inl (.inl (by rw [hK] at *; exact sm _ _ hl)), Paired.imp' (fun a b z => by rw [hK]; exact seqT sm z) e2, fun q hq => lift_frz ok1 (pv.on s1) hq (RpK.merge e3 .nil) k1⟩
      · exact k1.elim
    · exact k1.elim

/-! ### displays -/
def mTup (r : MAt) : MEt := fun env Kd KX => r env (fun ds => ds.length ≤ sizeLine ∧ Kd (.tup ds)) KX
def mLst (r : MAt) : MEt := fun env Kd KX => r env (fun ds => ds.length ≤ sizeLine ∧ Kd (.lst ds)) KX
theorem me_tup {x1} (h : MA X C E es r) : ME X C E (.Tuple es x1 pos) (mTup r) := PE.imp (pe_tupN h) fun σ H Q ⟨env, G, Kd, KX, ok, vr, hm, pv, px⟩ =>
  ⟨env, G, _, KX, ok, vr, hm, fun ds vs H1 G1 s1 ok1 r1 _ k1 => ⟨by rw [← r1.length]; exact k1.1, fun q ob hq c1 c2 => by
    obtain ⟨o2, s2⟩ := ok1.lay (o := .frz ob (.tup vs)) hq
    exact pv _ _ _ _ (s1.trans o2 s2) o2 (.tup (.inl ⟨ob, upd_same, c1, c2⟩) (r1.mono s2.ge)) k1.2⟩, px⟩
theorem mf_lst (h : MA X C E es r) : MF X C E (.List es pos) (mLst r) := PE.imp (pe_lst h) fun σ H Q ⟨env, G, Kd, KX, ok, vr, hm, pv, px⟩ =>
  ⟨env, G, _, KX, ok, vr, hm, fun ds vs H1 G1 s1 ok1 r1 _ k1 => ⟨by rw [← r1.length]; exact k1.1, fun q hq => by
    obtain ⟨o2, s2, g⟩ := ok1.new (o := .lst vs) hq
    exact pv.on s1 _ q _ _ G1 s2 o2 (nT_none hq) g upd_same (ok1.iv.new hq) (.lst r1) k1.2⟩, px⟩

/-! ### subscripts -/
@[irreducible] def ixD (d e : D) (K : D → Prop) : Prop := match d, e with
  | .lst xs, .int i => (match atI xs i with | some d => K d | none => False)
  | .tup xs, .int i => (match atI xs i with | some d => K d | none => False)
  | .str z, .int i => z.length ≤ sizeLine ∧ (match atI z.cps.toList i with | some c => K (.str ⟨#[c]⟩) | none => False)
  | _, _ => False
theorem Rps.atI {K : PySem.W.Frag} {G : Hp} {ds : List D} {vs : List V} {i : Int} {d : D} (r : Rps K G ds vs) (h : L2.atI ds i = some d) : ∃ v, L2.atI vs i = some v ∧ Rp K G d v := by
  unfold L2.atI at h ⊢
  rw [← r.length]
  cases q : ixN ds.length i with
  | none => rw [q] at h; cases h
  | some j =>
    rw [q] at h
    exact r.get h
theorem od_ix (hK : X.K = C.K) : OpD C (rIx X.K) ixD := by
  intro x y d e H G Kd Q ok r1 r2 h pv
  have sm : ∀ a o, G a = some o → H a = some o := fun a o q => (ok.sub a o q).2
  unfold ixD at h
  split at h
  · split at h
    · rename_i d q
      cases r1 with
      | lst ha ra =>
        cases r2
        obtain ⟨v, e1, e2⟩ := ra.atI q
        exact .inl ⟨_, _, _, v, rfl, rfl, .inl (.inl (sm _ _ ha)), e1, pv _ _ H G Stp.refl ok e2 h⟩
    · exact h.elim
  · split at h
    · rename_i d q
      cases r1 with
      | tup ha ra =>
        cases r2
        obtain ⟨v, e1, e2⟩ := ra.atI q
        exact .inr (.inl ⟨_, _, _, v, rfl, rfl, by rw [hK]; exact seqT sm ha.sq, e1, pv _ _ H G Stp.refl ok e2 h⟩)
    · exact h.elim
  · obtain ⟨hz, h⟩ := h
    split at h
    · rename_i c q
      cases r1
      cases r2
      exact .inr (.inr ⟨_, _, c, rfl, rfl, hz, q, pv _ _ H G Stp.refl ok (.str _) h⟩)
    · exact h.elim
  · exact h.elim
theorem me_ix (hK : X.K = C.K) (ha : ME X C E a ma) (hb : ME X C E b mb) (hs : PlainIx b := by exact (fun _ _ => rfl)) : ME X C E (.Subscript a b pos) (m2 ixD ma mb) := PE.imp (pe_ix ix_seq ha hb hs) fun _ _ _ h => lift2 (od_ix hK) h
/-- d[k] -/
@[irreducible] def getK (d e : D) (K : D → Prop) : Prop := match d, e with
  | .dic kvs, .int k => (match valD kvs k with | some d => K d | none => False)
  | _, _ => False
theorem getK_inv {d e : D} {K : D → Prop} (h : getK d e K) : ∃ kvs k d', d = .dic kvs ∧ e = .int k ∧ valD kvs k = some d' ∧ K d' := by
  unfold getK at h
  cases d <;> first | exact h.elim | skip
  cases e <;> first | exact h.elim | skip
  rename_i kvs k
  dsimp only at h
  cases q : valD kvs k with
  | none => rw [q] at h; exact h.elim
  | some d' => rw [q] at h; exact ⟨kvs, k, d', rfl, rfl, q, h⟩
theorem me_getK (hu : X.A.units + 1 < cLine) (ha : ME X C E a ma) (hb : ME X C E b mb) (hs : NoSl b := by exact (fun _ _ => rfl)) : ME X C E (.Subscript a b pos) (m2 getK ma mb) := PE.imp (pe_dget hu ha hb hs) fun σ H Q ⟨env, G, Kd, KX, ok, vr, hm, pv, px⟩ => by
  refine ⟨env, G, _, KX, ok, vr, hm, fun d x H1 G1 s1 ok1 r1 k1 => ⟨env, G1, _, KX, ok1, vr.mono s1.ge, k1, fun e y H2 G2 s2 ok2 r2 k2 => ?_, px.on ok s1⟩, px⟩
  obtain ⟨kvs, k, d', rfl, rfl, q, k2⟩ := getK_inv k2
  cases r2
  obtain ⟨p, e1, _, h⟩ := rp_dget (H := H2) k (r1.mono s2.ge) (fun a o q => (ok2.sub a o q).2)
  subst e1
  rcases h with ⟨e1, _⟩ | ⟨d2, v, e1, e2, e3⟩
  · rw [e1] at q; cases q
  · rw [e1] at q
    cases q
    exact ⟨p, v, rfl, e2, pv _ _ _ _ (s1.trans ok2 s2) ok2 e3 k2⟩
/-- d.get(k), d.get(k, x) -/
@[irreducible] def get1 (d e : D) (K : D → Prop) : Prop := match d, e with
  | .dic kvs, .int k => K ((valD kvs k).getD .non)
  | _, _ => False
def mGet2 (ma mb mc : MEt) : MEt := fun env Kd KX => ma env (fun d => mb env (fun e => mc env (fun f => match d, e with
  | .dic kvs, .int k => Kd ((valD kvs k).getD f)
  | _, _ => False) KX) KX) KX
theorem me_get1 (hu : X.A.units + 1 < cLine) {apos cpos : Pos} (ha : ME X C E a ma) (hb : ME X C E b mb) (mm : M1 X a "get" apos b cpos := by exact ⟨rfl, rfl, rfl, rfl⟩) : ME X C E (.Call (.Attribute a "get" apos) [b] [] cpos) (fun env Kd KX => ma env (fun d => (∃ kvs, d = .dic kvs) ∧ mb env (fun e => get1 d e Kd) KX) KX) :=
  PE.imp (pe_dget1 hu ha hb mm) fun σ H Q ⟨env, G, Kd, KX, ok, vr, hm, pv, px⟩ => by
  refine ⟨env, G, _, KX, ok, vr, hm, fun d x H1 G1 s1 ok1 r1 k1 => ?_, px⟩
  obtain ⟨⟨kvs, ed⟩, k1⟩ := k1
  subst ed
  have r0 := r1
  cases r1 with
  | dic hd rd =>
    refine ⟨_, rfl, .inl ⟨_, .inr ⟨_, (ok1.sub _ _ hd).2⟩⟩, env, G1, _, KX, ok1, vr.mono s1.ge, k1, fun e y H2 G2 s2 ok2 r2 k2 => ?_, px.on ok s1⟩
    obtain ⟨k, rfl, k3⟩ : ∃ k, e = .int k ∧ Kd ((valD kvs k).getD .non) := by
      unfold get1 at k2
      cases e <;> first | exact (show False from k2).elim | exact ⟨_, rfl, k2⟩
    cases r2
    obtain ⟨p, e1, _, h⟩ := rp_dget (H := H2) k (r0.mono s2.ge) (fun a o q => (ok2.sub a o q).2)
    cases e1
    rcases h with ⟨e1, e2⟩ | ⟨d2, v, e1, e2, e3⟩
    · have k3 : Kd ((valD kvs k).getD .non) := k3
      rw [e1] at k3
      exact ⟨none, e2, pv _ _ _ _ (s1.trans ok2 s2) ok2 .non k3⟩
    · have k3 : Kd ((valD kvs k).getD .non) := k3
      rw [e1] at k3
      exact ⟨some v, e2, pv _ _ _ _ (s1.trans ok2 s2) ok2 e3 k3⟩
def mGet1 (ma mb : MEt) : MEt := fun env Kd KX => ma env (fun d => (∃ kvs, d = .dic kvs) ∧ mb env (fun e => get1 d e Kd) KX) KX
def mGetD (ma mb mc : MEt) : MEt := fun env Kd KX => ma env (fun d => (∃ kvs, d = .dic kvs) ∧ mb env (fun e => mc env (fun f => match d, e with
  | .dic kvs, .int k => Kd ((valD kvs k).getD f)
  | _, _ => False) KX) KX) KX
theorem me_getD (hu : X.A.units + 1 < cLine) {apos cpos : Pos} (ha : ME X C E a ma) (hb : ME X C E b mb) (hc : ME X C E c mc) (mm : M2 X a "get" apos b c cpos := by exact ⟨rfl, rfl, rfl, rfl⟩) : ME X C E (.Call (.Attribute a "get" apos) [b, c] [] cpos) (mGetD ma mb mc) :=
  PE.imp (pe_dget2 hu ha hb hc mm) fun σ H Q ⟨env, G, Kd, KX, ok, vr, hm, pv, px⟩ => by
  refine ⟨env, G, _, KX, ok, vr, hm, fun d x H1 G1 s1 ok1 r1 k1 => ?_, px⟩
  obtain ⟨⟨kvs, ed⟩, k1⟩ := k1
  subst ed
  have r0 := r1
  cases r1 with
  | dic hd rd =>
    refine ⟨_, rfl, .inl ⟨_, .inr ⟨_, (ok1.sub _ _ hd).2⟩⟩, env, G1, _, KX, ok1, vr.mono s1.ge, k1, fun e y H2 G2 s2 ok2 r2 k2 =>
      ⟨env, G2, _, KX, ok2, vr.mono (s1.ge.trans s2.ge), k2, fun f z H3 G3 s3 ok3 r3 k3 => ?_, px.on ok (s1.trans ok2 s2)⟩, px.on ok s1⟩
    obtain ⟨k, rfl, k3⟩ : ∃ k, e = .int k ∧ Kd ((valD kvs k).getD f) := by
      cases e <;> first | exact (show False from k3).elim | exact ⟨_, rfl, k3⟩
    cases r2
    have s13 := s1.trans ok3 (s2.trans ok3 s3)
    obtain ⟨p, e1, _, h⟩ := rp_dget (H := H3) k (r0.mono (s2.ge.trans s3.ge)) (fun a o q => (ok3.sub a o q).2)
    cases e1
    rcases h with ⟨e1, e2⟩ | ⟨d2, v, e1, e2, e3⟩
    · have k3 : Kd ((valD kvs k).getD f) := k3
      rw [e1] at k3
      exact ⟨none, e2, pv _ _ _ _ s13 ok3 r3 k3⟩
    · have k3 : Kd ((valD kvs k).getD f) := k3
      rw [e1] at k3
      exact ⟨some v, e2, pv _ _ _ _ s13 ok3 e3 k3⟩

/-! ### slices -/
abbrev MOt := EnvE → (Option Int → Prop) → (Exn → Prop) → Prop
def liftO (C : C3) (mg : Str → Option Value) (E : XK) (m : MOt) : TO := fun σ H Q => ∃ env G Ko KX, Ok3 C H G ∧ VR C.K G env σ ∧ m env Ko KX ∧ (∀ o H' G', Stp C H G H' G' → Ok3 C H' G' → Ko o → Q o H') ∧ PostX C mg H G KX E
abbrev MO (X : Cx) (C : C3) (E : XK) (e : Option Expr) (m : MOt) : Prop := PO X e (liftO C X.mg E m)
theorem PO.imp {X : Cx} {e : Option Expr} {t t' : TO} (h : PO X e t) (q : ∀ σ H Q, t' σ H Q → t σ H Q) : PO X e t' := ⟨fun pins s σ H Q I w => h.run pins s σ H Q I (q σ H Q w)⟩
def oNone : MOt := fun _ Ko _ => Ko none
def oSome (m : MEt) : MOt := fun env Ko KX => m env (fun d => match d with | .int i => Ko (some i) | _ => False) KX
theorem mo_none : MO X C E none oNone := PO.imp po_none fun σ H Q ⟨env, G, Ko, KX, ok, vr, hm, pv, px⟩ => pv none H G Stp.refl ok hm
theorem mo_some (h : ME X C E e m) : MO X C E (some e) (oSome m) := PO.imp (po_some h) fun σ H Q ⟨env, G, Ko, KX, ok, vr, hm, pv, px⟩ =>
  ⟨env, G, _, KX, ok, vr, hm, fun d v H1 G1 s1 ok1 r1 k1 => by
    cases r1 <;> first | exact k1.elim | exact ⟨_, rfl, pv _ _ _ s1 ok1 k1⟩, px⟩
def cutD {α : Type} (xs : List α) (lo hi : Option Int) : List α := (xs.drop (HT.sIx xs.length 0 lo)).take (HT.sIx xs.length xs.length hi - HT.sIx xs.length 0 lo)
theorem Rps.cut {K : PySem.W.Frag} {G : Hp} {ds : List D} {vs : List V} (r : Rps K G ds vs) (lo hi : Option Int) : Rps K G (cutD ds lo hi) (cutV vs lo hi) := by
  unfold cutD cutV
  rw [← r.length]
  exact (r.drop _).take _
def slD (d : D) (lo hi : Option Int) (K : D → Prop) : Prop := match d with
  | .lst xs => K (.lst (cutD xs lo hi))
  | .tup xs => K (.tup (cutD xs lo hi))
  | _ => False
def slL (d : D) (lo hi : Option Int) (K : D → Prop) : Prop := match d with
  | .lst xs => K (.lst (cutD xs lo hi))
  | _ => False
def mSl (f : D → Option Int → Option Int → (D → Prop) → Prop) (ma : MEt) (ml mh : MOt) : MEt := fun env Kd KX => ma env (fun d => ml env (fun lo => mh env (fun hi => f d lo hi Kd) KX) KX) KX
theorem me_sl (hK : X.K = C.K) {lo hi : Option Expr} {p2 : Pos} {ml mh : MOt} (ha : ME X C E a ma) (hl : MO X C E lo ml) (hh : MO X C E hi mh) : ME X C E (.Subscript a (.Slice lo hi none p2) pos) (mSl slD ma ml mh) :=
  PE.imp (pe_slice (sl_list.or sl_tupN) ha hl hh) fun σ H Q ⟨env, G, Kd, KX, ok, vr, hm, pv, px⟩ => by
  refine ⟨env, G, _, KX, ok, vr, hm, fun d x H1 G1 s1 ok1 r1 k1 => ⟨env, G1, _, KX, ok1, vr.mono s1.ge, k1, fun lo H2 G2 s2 ok2 k2 => ⟨env, G2, _, KX, ok2, vr.mono (s1.ge.trans s2.ge), k2, fun hi H3 G3 s3 ok3 k3 => ?_, px.on ok (s1.trans ok2 s2)⟩, px.on ok s1⟩, px⟩
  have sm : ∀ a o, G3 a = some o → H3 a = some o := fun a o q => (ok3.sub a o q).2
  have s13 := s1.trans ok3 (s2.trans ok3 s3)
  have k3 : slD d lo hi Kd := k3
  unfold slD at k3
  split at k3
  · cases r1.mono (s2.ge.trans s3.ge) with
    | lst hd rd =>
      refine .inl ⟨_, _, rfl, .inl (.inl (sm _ _ hd)), fun q hq => ?_⟩
      obtain ⟨o4, s4⟩ := ok3.lay (o := .lst _) hq
      exact pv _ _ _ _ (s13.trans o4 s4) o4 (.lst upd_same ((rd.cut lo hi).mono s4.ge)) k3
  · cases r1.mono (s2.ge.trans s3.ge) with
    | tup hd rd =>
      have rc := rd.cut lo hi
      rename_i xs a vs
      refine .inr ⟨_, vs, rfl, by rw [hK]; exact seqT sm hd.sq, fun w => ?_, fun _ q ob hq c1 c2 => ?_⟩
      · have e : cutV vs lo hi = vs := by
          unfold cutV
          rw [w.1, w.2, List.drop_zero, Nat.sub_zero, List.take_length]
        rw [e] at rc
        exact pv _ _ _ _ s13 ok3 (.tup hd rc) k3
      · obtain ⟨o4, s4⟩ := ok3.lay (o := .frz ob (.tup _)) hq
        exact pv _ _ _ _ (s13.trans o4 s4) o4 (.tup (.inl ⟨ob, upd_same, c1, c2⟩) (rc.mono s4.ge)) k3
  · exact k3.elim
theorem mf_sl {lo hi : Option Expr} {p2 : Pos} {ml mh : MOt} (ha : ME X C E a ma) (hl : MO X C E lo ml) (hh : MO X C E hi mh) : MF X C E (.Subscript a (.Slice lo hi none p2) pos) (mSl slL ma ml mh) :=
  PE.imp (pe_slice sl_list ha hl hh) fun σ H Q ⟨env, G, Kd, KX, ok, vr, hm, pv, px⟩ => by
  refine ⟨env, G, _, KX, ok, vr, hm, fun d x H1 G1 s1 ok1 r1 k1 => ⟨env, G1, _, KX, ok1, vr.mono s1.ge, k1, fun lo H2 G2 s2 ok2 k2 => ⟨env, G2, _, KX, ok2, vr.mono (s1.ge.trans s2.ge), k2, fun hi H3 G3 s3 ok3 k3 => ?_, px.on ok (s1.trans ok2 s2)⟩, px.on ok s1⟩, px⟩
  have sm : ∀ a o, G3 a = some o → H3 a = some o := fun a o q => (ok3.sub a o q).2
  have s13 := s1.trans ok3 (s2.trans ok3 s3)
  have k3 : slL d lo hi Kd := k3
  unfold slL at k3
  split at k3
  · cases r1.mono (s2.ge.trans s3.ge) with
    | lst hd rd =>
      refine ⟨_, _, rfl, .inl (.inl (sm _ _ hd)), fun q hq => ?_⟩
      obtain ⟨o4, s4, g⟩ := ok3.new (o := .lst _) hq
      exact pv.on s13 _ q _ _ G3 s4 o4 (nT_none hq) g upd_same (ok3.iv.new hq) (.lst (rd.cut lo hi)) k3
  · exact k3.elim
end
end L3
/-! L3f: what is walked; targets; comprehensions -/
namespace L3
open PySem PySem.Spec PyProof.Rows L2

/-! ### what is walked -/
structure Iter3 (C : C3) (J : It) (G0 : Hp) (ds : List D) : Prop where
  stop : ∀ (i : Nat) (H G : Hp), ds.length ≤ i → Same G0 G → Ok3 C H G → J.stop i H
  go : ∀ (i : Nat) (d : D) (H G : Hp), ds[i]? = some d → Same G0 G → Ok3 C H G → J.go i H ∧ ∀ x H', J.yld i H x H' → ∃ G', Stp C H G H' G' ∧ Ok3 C H' G' ∧ Rp C.K G' d x
abbrev MIt := EnvE → (List D → Prop) → (Exn → Prop) → Prop
def liftI (C : C3) (mg : Str → Option Value) (E : XK) (m : MIt) : TI := fun σ H R => ∃ env G Kl KX, Ok3 C H G ∧ VR C.K G env σ ∧ m env Kl KX ∧ (∀ ds J H' G', Stp C H G H' G' → Ok3 C H' G' → Iter3 C J G' ds → Kl ds → R J H') ∧ PostX C mg H G KX E
abbrev MI (X : Cx) (C : C3) (E : XK) (tg iter : Expr) (m : MIt) : Prop := PI X tg iter (liftI C X.mg E m)
theorem PI.imp {X : Cx} {tg e : Expr} {t t' : TI} (h : PI X tg e t) (q : ∀ σ H Q, t' σ H Q → t σ H Q) : PI X tg e t' := ⟨fun pins s σ H Q I w => h.run pins s σ H Q I (q σ H Q w)⟩
section
variable {X : Cx} {C : C3} {E : XK} {e a b tg : Expr} {m ma mb : MEt} {r : MAt} {pos p : Pos} {mg : Str → Option Value}
/-- a list, a tuple, a locked dict, a text -/
def iAny (K : PySem.W.Frag) (td : TE) : TI := fun σ H R => td σ H fun x H1 => (∃ a, x = .ref a ∧ (∃ xs, SqL K H1 a xs) ∧ R (Itl K a) H1) ∨ (∃ a, x = .ref a ∧ (∃ xs, SqT K H1 a xs) ∧ R (Itt K a) H1) ∨
  (∃ d o kvs, x = .ref d ∧ H1 d = some (.frz o (.dK kvs)) ∧ R (Itk d o kvs) H1) ∨ ∃ z, x = .str z ∧ R (Its z) H1
theorem pi_any {td : TE} (he : PE X e td) : PI X tg e (iAny X.K td) := by
  refine ⟨fun pins s σ H R I h => ?_⟩
  refine thn (he.run pins s σ H _ I h) fun v s1 ⟨x, H1, I1, r1, q1⟩ => ?_
  rcases q1 with ⟨a, e, ⟨xs, hq⟩, q⟩ | ⟨a, e, ⟨xs, hq⟩, q⟩ | ⟨d, o, kvs, e, hd, q⟩ | ⟨z, e, q⟩
  · subst e
    cases r1
    obtain ⟨its, rv, p, hz⟩ := I1.list hq
    refine wpAny_pyIter_list p.isList ?_
    refine ⟨s1.heap.objs.size, [s1.heap.objs.size], _, _, H1, rfl, I1.kept (t' := s1.toks) fun b o e => Heap.get?_push_of_some _ e, turn_list a _, ⟨_, Heap.get?_push_size _ rfl, rfl, rfl⟩, fun b hb => ?_, q⟩
    have e : b = s1.heap.objs.size := by simpa using hb
    subst e
    exact I1.fpOk (Nat.le_refl _) (I1.hok.fresh (Nat.le_refl _))
  · subst e
    cases r1
    obtain ⟨its, rv, p, hz⟩ := I1.tuple hq
    refine wpAny_pyIter_tuple (show s1.heap.IsTuple a its.toArray from p) ?_
    refine ⟨s1.heap.objs.size, [s1.heap.objs.size], _, _, H1, rfl, I1.kept (t' := s1.toks) fun b o e => Heap.get?_push_of_some _ e, turn_tuple a _, ⟨_, Heap.get?_push_size _ rfl, rfl, rfl⟩, fun b hb => ?_, q⟩
    have e : b = s1.heap.objs.size := by simpa using hb
    subst e
    exact I1.fpOk (Nat.le_refl _) (I1.hok.fresh (Nat.le_refl _))
  · subst e
    obtain rfl : v = Value.ref d := r1
    obtain ⟨hs, hgd, hx, es, ep, vs, hdt, hsz, kv, hm⟩ := I1.frzK hd
    refine iter_keys hs hgd hx hdt (pi_one (tk := s1.toks) I1 _ (turn_keys _ hdt) ⟨_, Heap.get?_push_size _ rfl, rfl, ?_⟩ q)
    rw [hsz] <;> rfl
  · subst e
    obtain ⟨t, rfl⟩ := r1
    cases ha : z.cps.all (· < 128)
    · exact wpAny_pyIter_wide ha (pi_one (tk := s1.toks) I1 _ (turn_str _ z t "str_iterator" (.inr rfl)) ⟨_, Heap.get?_push_size _ rfl, rfl, rfl⟩ q)
    · exact wpAny_pyIter_ascii ha (pi_one (tk := s1.toks) I1 _ (turn_str _ z t "str_ascii_iterator" (.inl rfl)) ⟨_, Heap.get?_push_size _ rfl, rfl, rfl⟩ q)
def iterD (d : D) (K : List D → Prop) : Prop := match d with
  | .lst xs => K xs
  | .tup xs => K xs
  | .dic kvs => K (kvs.map fun p => .int p.1)
  | .str z => K (z.cps.toList.map fun c => .str ⟨#[c]⟩)
  | _ => False
theorem iter3_list {K : PySem.W.Frag} {a : Addr} {G0 : Hp} {vs : List V} {ds : List D} (hK : K = C.K) (h : G0 a = some (.lst vs)) (r : Rps C.K G0 ds vs) : Iter3 C (Itl K a) G0 ds := by
  subst hK
  refine ⟨fun i H G hi e ok => ⟨vs, .inl (.inl (ok.sub _ _ (e _ _ h)).2), by rw [← r.length]; exact hi⟩, fun i d H G hi e ok => ?_⟩
  have hs : SqL C.K H a vs := .inl (.inl (ok.sub _ _ (e _ _ h)).2)
  obtain ⟨v, h1, h2⟩ := r.get hi
  refine ⟨⟨vs, v, hs, h1⟩, fun x H' y => ?_⟩
  obtain ⟨rfl, y⟩ := y
  have q := y vs hs
  rw [h1] at q
  cases q
  exact ⟨G, Stp.refl, ok, h2.mono e⟩
theorem iter3_tup {K : PySem.W.Frag} {a : Addr} {G0 : Hp} {vs : List V} {ds : List D} (hK : K = C.K) (h : SqT C.K G0 a vs) (r : Rps C.K G0 ds vs) : Iter3 C (Itt K a) G0 ds := by
  subst hK
  refine ⟨fun i H G hi e ok => ⟨vs, seqT (fun a o q => (ok.sub a o (e _ _ q)).2) h, by rw [← r.length]; exact hi⟩, fun i d H G hi e ok => ?_⟩
  have hs : SqT C.K H a vs := seqT (fun a o q => (ok.sub a o (e _ _ q)).2) h
  obtain ⟨v, h1, h2⟩ := r.get hi
  refine ⟨⟨vs, v, hs, h1⟩, fun x H' y => ?_⟩
  obtain ⟨rfl, y⟩ := y
  have q := y vs hs
  rw [h1] at q
  cases q
  exact ⟨G, Stp.refl, ok, h2.mono e⟩
theorem RpK.get {K : PySem.W.Frag} {G : Hp} : ∀ {kvs : List (Int × D)} {kws : List (Key × V)} {i : Nat} {k : Int} {d : D}, RpK K G kvs kws → kvs[i]? = some (k, d) → ∃ v, kws[i]? = some (Sum.inl k, v) ∧ Rp K G d v := by
  intro kvs
  induction kvs with
  | nil => intro kws i k d r h; simp at h
  | cons x xs ih =>
    intro kws i k d r h
    cases r with
    | cons r1 r2 =>
      cases i with
      | zero => simp at h; obtain ⟨rfl, rfl⟩ := h; exact ⟨_, rfl, r1⟩
      | succ i =>
        obtain ⟨v, h1, h2⟩ := ih r2 (by simpa using h)
        exact ⟨v, by simpa using h1, h2⟩
theorem iter3_dic {a : Addr} {o : Obj} {G0 : Hp} {kvs : List (Int × D)} {kws : List (Key × V)} (h : G0 a = some (.frz o (.dK kws))) (r : RpK C.K G0 kvs kws) : Iter3 C (Itk a o kws) G0 (kvs.map fun p => .int p.1) := by
  refine ⟨fun i H G hi e ok => ⟨(ok.sub _ _ (e _ _ h)).2, by rw [← r.length]; simpa using hi⟩, fun i d H G hi e ok => ?_⟩
  rw [List.getElem?_map] at hi
  cases q : kvs[i]? with
  | none => rw [q] at hi; cases hi
  | some p =>
    rw [q] at hi
    have hi : D.int p.1 = d := Option.some.inj hi
    subst hi
    obtain ⟨k, d⟩ := p
    obtain ⟨v, h1, h2⟩ := r.get q
    refine ⟨⟨(ok.sub _ _ (e _ _ h)).2, (List.getElem?_eq_some_iff.mp h1).1⟩, fun x H' y => ?_⟩
    obtain ⟨rfl, k', v', y1, y2⟩ := y
    rw [h1] at y1
    cases y1
    subst y2
    exact ⟨G, Stp.refl, ok, .int k⟩
theorem iter3_str {z : Str} {G0 : Hp} : Iter3 C (Its z) G0 (z.cps.toList.map fun c => .str ⟨#[c]⟩) := by
  refine ⟨fun i H G hi e ok => by show z.cps.size ≤ i; simpa using hi, fun i d H G hi e ok => ?_⟩
  rw [List.getElem?_map] at hi
  cases q : z.cps.toList[i]? with
  | none => rw [q] at hi; cases hi
  | some c =>
    rw [q] at hi
    have hi : D.str ⟨#[c]⟩ = d := Option.some.inj hi
    subst hi
    have q' : z.cps[i]? = some c := by simpa using q
    refine ⟨by have := (Array.getElem?_eq_some_iff.mp q').1; exact this, fun x H' y => ?_⟩
    obtain ⟨rfl, c', y1, y2⟩ := y
    rw [q'] at y1
    cases y1
    subst y2
    exact ⟨G, Stp.refl, ok, .str _⟩
theorem iter3_range {lo : Int} {n : Nat} {G0 : Hp} : Iter3 C (Itr lo n) G0 ((List.range n).map fun i => .int (lo + (i : Nat))) := by
  refine ⟨fun i H G hi e ok => by show n ≤ i; simpa using hi, fun i d H G hi e ok => ?_⟩
  rw [List.getElem?_map] at hi
  cases q : (List.range n)[i]? with
  | none => rw [q] at hi; cases hi
  | some j =>
    rw [q] at hi
    have hi : D.int (lo + (j : Nat)) = d := Option.some.inj hi
    subst hi
    obtain ⟨h1, h2⟩ := List.getElem?_eq_some_iff.mp q
    rw [List.getElem_range] at h2
    subst h2
    rw [List.length_range] at h1
    refine ⟨h1, fun x H' y => ?_⟩
    obtain ⟨rfl, y⟩ := y
    subst y
    exact ⟨G, Stp.refl, ok, .int _⟩
def mIter (m : MEt) : MIt := fun env Kl KX => m env (fun d => iterD d Kl) KX
theorem mi_any (hK : X.K = C.K) (h : ME X C E e m) : MI X C E tg e (mIter m) := PI.imp (pi_any h) fun σ H R ⟨env, G, Kl, KX, ok, vr, hm, pv, px⟩ => by
  refine ⟨env, G, _, KX, ok, vr, hm, fun d v H1 G1 s1 ok1 r1 k1 => ?_, px⟩
  have k1 : iterD d Kl := k1
  unfold iterD at k1
  split at k1
  · cases r1 with
    | lst ha ra => exact .inl ⟨_, rfl, ⟨_, .inl (.inl (ok1.sub _ _ ha).2)⟩, pv _ _ _ _ s1 ok1 (iter3_list hK ha ra) k1⟩
  · cases r1 with
    | tup ha ra => exact .inr (.inl ⟨_, rfl, ⟨_, by rw [hK]; exact seqT (fun a o q => (ok1.sub a o q).2) ha.sq⟩, pv _ _ _ _ s1 ok1 (iter3_tup hK ha.sq ra) k1⟩)
  · cases r1 with
    | dic ha ra => exact .inr (.inr (.inl ⟨_, _, _, rfl, (ok1.sub _ _ ha).2, pv _ _ _ _ s1 ok1 (iter3_dic ha ra) k1⟩))
  · cases r1
    exact .inr (.inr (.inr ⟨_, rfl, pv _ _ _ _ s1 ok1 iter3_str k1⟩))
  · exact k1.elim
def rgD (ds : List D) (K : List D → Prop) : Prop := match ds with
  | [.int j] => -(2 ^ 62) ≤ j ∧ j < 2 ^ 62 ∧ K ((List.range j.toNat).map fun i => .int (i : Nat))
  | _ => False
def mRange (r : MAt) : MIt := fun env Kl KX => r env (fun ds => rgD ds Kl) KX
theorem mi_range (hg : Gl X "range") (hm : X.mg "range" = none) (ha : MA X C E [a] r) (hs : starEach [a] X.env = [(false, eval a X.env)] := by rfl) : MI X C E tg (.Call (.Name "range" p) [a] [] pos) (mRange r) := PI.imp (pi_range1 hg hm ha hs) fun σ H R ⟨env, G, Kl, KX, ok, vr, hm, pv, px⟩ => by
  refine ⟨env, G, _, KX, ok, vr, hm, fun ds vs H1 G1 s1 ok1 r1 _ k1 => ?_, px⟩
  have k1 : rgD ds Kl := k1
  unfold rgD at k1
  split at k1
  · cases r1 with
    | cons r1 r2 =>
      cases r2
      cases r1
      rename_i j _ _
      refine ⟨j, rfl, k1.1, k1.2.1, pv _ _ _ _ s1 ok1 ?_ k1.2.2⟩
      have q := iter3_range (C := C) (lo := 0) (n := j.toNat) (G0 := G1)
      simp only [Int.zero_add] at q
      exact q
  · exact k1.elim
theorem iter3_enum {K : PySem.W.Frag} {a : Addr} {G0 : Hp} {vs : List V} {ds : List D} (hK : K = C.K) (h : G0 a = some (.lst vs)) (r : Rps C.K G0 ds vs) : Iter3 C (IteN K a) G0 (ds.zipIdx.map fun p => .tup [.int (p.2 : Nat), p.1]) := by
  subst hK
  refine ⟨fun i H G hi e ok => ⟨vs, .inl (.inl (ok.sub _ _ (e _ _ h)).2), by rw [← r.length]; simpa using hi⟩, fun i d H G hi e ok => ?_⟩
  have hs : SqL C.K H a vs := .inl (.inl (ok.sub _ _ (e _ _ h)).2)
  rw [List.getElem?_map, List.getElem?_zipIdx] at hi
  cases q : ds[i]? with
  | none => rw [q] at hi; cases hi
  | some d0 =>
    rw [q] at hi
    have hi : D.tup [.int ((0 + i : Nat) : Int), d0] = d := Option.some.inj hi
    subst hi
    obtain ⟨v, h1, h2⟩ := r.get q
    refine ⟨⟨vs, v, hs, h1⟩, fun x H' y => ?_⟩
    obtain ⟨T, ob, v', e1, hT, c1, c2, e2, y⟩ := y
    have q' := y vs hs
    rw [h1] at q'
    cases q'
    subst e1 e2
    obtain ⟨o1, s1⟩ := ok.lay (o := .frz ob (.tup [.int (i : Nat), v])) hT
    refine ⟨_, s1, o1, .tup (.inl ⟨ob, upd_same, c1, c2⟩) (.cons ?_ (.cons (h2.mono (e.trans s1.ge)) .nil))⟩
    rw [Nat.zero_add]
    exact .int _
def mEnum (m : MEt) : MIt := fun env Kl KX => m env (fun d => match d with
  | .lst ds => Kl (ds.zipIdx.map fun p => .tup [.int (p.2 : Nat), p.1])
  | _ => False) KX
theorem mi_enum {elts : List Expr} {kk : Nat} {tpos : Pos} (hK : X.K = C.K) (hg : Gl X "enumerate") (hm : X.mg "enumerate" = none) (ha : ME X C E a m) (hs : starEach [a] X.env = [(false, eval a X.env)] := by rfl) (hs2 : starEach (a :: []) X.env = (false, eval a X.env) :: starEach [] X.env := by rfl) : MI X C E (.Tuple elts kk tpos) (.Call (.Name "enumerate" p) [a] [] pos) (mEnum m) :=
  PI.imp (pi_enumN hg hm (pa_cons ha pa_nil hs2) hs) fun σ H R ⟨env, G, Kl, KX, ok, vr, hm, pv, px⟩ => by
  refine ⟨env, G, _, KX, ok, vr, hm, fun d v H1 G1 s1 ok1 r1 k1 => ?_, px⟩
  cases r1 <;> first | exact (show False from k1).elim | skip
  rename_i ha' ra'
  exact ⟨_, _, rfl, .inl (.inl (ok1.sub _ _ ha').2), pv _ _ _ _ s1 ok1 (iter3_enum hK ha' ra') k1⟩
end

/-! ### targets: a name, or names in a row -/
inductive Tgt where
  | nm (i : Nat)
  | tp (is : List Nat)
def gNames : List Nat → TGs
  | [] => gNil
  | i :: r => gCons (gName i) (gNames r)
def gOf (K : PySem.W.Frag) : Tgt → TG
  | .nm i => gName i
  | .tp is => gTup K is.length (gNames is)
def bindT (t : Tgt) (d : D) : Option (List (Nat × D)) := match t with
  | .nm i => some [(i, d)]
  | .tp is => match d with
    | .tup ds => if ds.length = is.length then some (is.zip ds) else none
    | _ => none
def setE (env : EnvE) : List (Nat × D) → EnvE
  | [] => env
  | p :: r => setE (env.set p.1 (some p.2)) r
def setV (σ : L2.St) : List (Nat × V) → L2.St
  | [] => σ
  | p :: r => setV (σ.set p.1 (some p.2)) r
def Tgt.slots : Tgt → List Nat
  | .nm i => [i]
  | .tp is => is
section
variable {X : Cx} {C : C3}
theorem gNames_ok {Q : L2.St → Hp → Prop} {H : Hp} : ∀ (is : List Nat) (vs : List V) (σ : L2.St), vs.length = is.length → Q (setV σ (is.zip vs)) H → gNames is vs σ H Q
  | [], [], _, _, h => ⟨rfl, h⟩
  | i :: is, v :: vs, σ, hl, h => ⟨v, vs, rfl, gNames_ok is vs _ (by simpa using hl) h⟩
  | [], _ :: _, _, hl, _ => by simp at hl
  | _ :: _, [], _, hl, _ => by simp at hl
/-- paired lists of slots -/
theorem gOf_ok {K : PySem.W.Frag} {G H : Hp} {t : Tgt} {d : D} {v : V} {l : List (Nat × D)} {σ : L2.St} {Q : L2.St → Hp → Prop} (sm : ∀ a o, G a = some o → H a = some o) (r : Rp K G d v) (h : bindT t d = some l)
    (q : ∀ ws : List (Nat × V), Paired (fun (p : Nat × D) (w : Nat × V) => p.1 = w.1 ∧ Rp K G p.2 w.2) l ws → (∀ w ∈ ws, w.1 ∈ t.slots) → Q (setV σ ws) H) : gOf K t v σ H Q := by
  cases t with
  | nm i =>
    have h : some [(i, d)] = some l := h
    cases h
    exact q [(i, v)] (.cons ⟨rfl, r⟩ .nil) (by simp [Tgt.slots])
  | tp is =>
    unfold bindT at h
    dsimp only at h
    split at h
    · rename_i ds
      split at h
      · rename_i hl
        cases h
        cases r with
        | tup ha ra =>
          rename_i a vs
          refine ⟨a, vs, rfl, seqT sm ha.sq, by rw [← ra.length]; exact hl, gNames_ok is vs σ (by rw [← ra.length]; exact hl) (q _ ?_ ?_)⟩
          · have pz : ∀ {ks : List Nat} {ds : List D} {vs : List V}, Rps K G ds vs → Paired (fun (p : Nat × D) (w : Nat × V) => p.1 = w.1 ∧ Rp K G p.2 w.2) (ks.zip ds) (ks.zip vs) := by
              intro ks
              induction ks with
              | nil => intro ds vs _; exact .nil
              | cons k ks ih =>
                intro ds vs z
                cases z with
                | nil => exact .nil
                | cons z1 z2 => exact .cons ⟨rfl, z1⟩ (ih z2)
            exact pz ra
          · intro w hw
            exact (List.of_mem_zip hw).1
      · cases h
    · cases h
theorem VR.set {K : PySem.W.Frag} {G : Hp} {env : EnvE} {σ : L2.St} (h : VR K G env σ) {i : Nat} {d : D} {v : V} (r : Rp K G d v) : VR K G (env.set i (some d)) (σ.set i (some v)) := ⟨by simpa using h.len, fun j e q => by
  by_cases c : i = j
  · subst c
    by_cases hi : i < env.length
    · rw [List.getElem?_set_self hi] at q
      cases q
      exact ⟨v, by rw [List.getElem?_set_self (Nat.lt_of_lt_of_le hi h.len)], r⟩
    · rw [List.getElem?_eq_none (by simpa using hi)] at q
      cases q
  · rw [List.getElem?_set_ne c] at q
    obtain ⟨w, h1, h2⟩ := h.get j e q
    exact ⟨w, by rw [List.getElem?_set_ne c]; exact h1, h2⟩⟩
theorem VR.setAll {K : PySem.W.Frag} {G : Hp} : ∀ {l : List (Nat × D)} {ws : List (Nat × V)} {env : EnvE} {σ : L2.St}, Paired (fun (p : Nat × D) (w : Nat × V) => p.1 = w.1 ∧ Rp K G p.2 w.2) l ws → VR K G env σ → VR K G (setE env l) (setV σ ws) := by
  intro l
  induction l with
  | nil => intro ws env σ q h; cases q; exact h
  | cons p l ih =>
    intro ws env σ q h
    cases q with
    | cons q1 q2 =>
      rename_i w ws'
      obtain ⟨e, r⟩ := q1
      have z := ih q2 (h.set (i := p.1) r)
      show VR K G (setE (env.set p.1 (some p.2)) l) (setV (σ.set w.1 (some w.2)) ws')
      rw [← e]
      exact z
theorem wipe_set {σ : L2.St} {i : Nat} {x : Option V} : ∀ {vs : List Nat}, i ∈ vs → wipe (σ.set i x) vs = wipe σ vs
  | v :: vs, h => by
    show (wipe (σ.set i x) vs).set v none = (wipe σ vs).set v none
    by_cases c : i ∈ vs
    · rw [wipe_set c]
    · have e : i = v := by
        rcases List.mem_cons.mp h with z | z
        · exact z
        · exact absurd z c
      subst e
      have q : ∀ (us : List Nat), i ∉ us → wipe (σ.set i x) us = (wipe σ us).set i x := by
        intro us
        induction us with
        | nil => intro _; rfl
        | cons u us ih =>
          intro hu
          show (wipe (σ.set i x) us).set u none = ((wipe σ us).set u none).set i x
          rw [ih (fun z => hu (List.mem_cons_of_mem _ z)), List.set_comm _ _ (fun z => hu (by rw [z]; exact List.mem_cons_self))]
      rw [q vs c, List.set_set]
theorem wipe_setV : ∀ {ws : List (Nat × V)} {σ : L2.St} {vs : List Nat}, (∀ w ∈ ws, w.1 ∈ vs) → wipe (setV σ ws) vs = wipe σ vs
  | [], _, _, _ => rfl
  | w :: ws, σ, vs, h => by
    show wipe (setV (σ.set w.1 (some w.2)) ws) vs = wipe σ vs
    rw [wipe_setV fun u hu => h u (List.mem_cons_of_mem _ hu), wipe_set (h w List.mem_cons_self)]
def wipeE (env : EnvE) : List Nat → EnvE
  | [] => env
  | v :: vs => (wipeE env vs).set v none
theorem wipeE_len (env : EnvE) : ∀ vs : List Nat, (wipeE env vs).length = env.length
  | [] => rfl
  | v :: vs => by show ((wipeE env vs).set v none).length = _; rw [List.length_set, wipeE_len env vs]
theorem wipeE_some {env : EnvE} {i : Nat} {x : D} : ∀ {vs : List Nat}, (wipeE env vs)[i]? = some (some x) → env[i]? = some (some x) ∧ i ∉ vs
  | [], h => ⟨h, by simp⟩
  | v :: vs, h => by
    unfold wipeE at h
    by_cases hi : v = i
    · subst hi
      by_cases hv : v < (wipeE env vs).length
      · rw [List.getElem?_set_self hv] at h; cases h
      · rw [List.getElem?_eq_none (by simpa using hv)] at h; cases h
    · rw [List.getElem?_set_ne hi] at h
      obtain ⟨h1, h2⟩ := wipeE_some h
      exact ⟨h1, by simp only [List.mem_cons, not_or]; exact ⟨fun e => hi e.symm, h2⟩⟩
theorem VR.wipe {K : PySem.W.Frag} {G : Hp} {env : EnvE} {σ : L2.St} (h : VR K G env σ) (vs : List Nat) : VR K G (wipeE env vs) (L2.wipe σ vs) := ⟨by rw [wipeE_len, wipe_length]; exact h.len, fun i d q => by
  obtain ⟨q1, q2⟩ := wipeE_some q
  obtain ⟨v, h1, h2⟩ := h.get i d q1
  exact ⟨v, by rw [wipe_out q2]; exact h1, h2⟩⟩
end

/-! ### comprehensions -/
section
variable {X : Cx} {C : C3} {E : XK}
def lcD (t : Tgt) (tt : MTt) (te : MEt) (env : EnvE) : List D → (List D → Prop) → Prop
  | [], K => K []
  | d :: ds, K => ∃ l, bindT t d = some l ∧ tt (setE env l) (fun b => if b = true then te (setE env l) (fun y => lcD t tt te env ds fun r => K (y :: r)) (fun _ => False) else lcD t tt te env ds K) (fun _ => False)
def mLc (t : Tgt) (vs : List Nat) (mi : MIt) (tt : MTt) (te : MEt) : MEt := fun env Kd KX => mi env (fun ds => ds.length ≤ 100000 ∧ lcD t tt te (wipeE env vs) ds fun r => Kd (.lst r)) KX
/-- the tests of a comprehension -/
abbrev MTs (X : Cx) (C : C3) (E : XK) (ifs : List Expr) (m : MTt) : Prop := PTs X ifs (liftT C X.mg E m)
def tYesM : MTt := fun _ Kb _ => Kb true
theorem PTs.imp {X : Cx} {ifs : List Expr} {t t' : TT} (h : PTs X ifs t) (q : ∀ σ H Q, t' σ H Q → t σ H Q) : PTs X ifs t' := ⟨fun pins s σ H Q I w => h.run pins s σ H Q I (q σ H Q w)⟩
theorem mts_nil : MTs X C E [] tYesM := PTs.imp pts_nil fun σ H Q ⟨env, G, Kb, KX, ok, vr, hm, pv, px⟩ => pv true H G Stp.refl ok hm
theorem mts_one {c : Expr} {m : MTt} (h : MT X C E c m) : MTs X C E [c] m := pts_one h
/-- the reading of a comprehension -/
theorem lc_lift {K : PySem.W.Frag} {mg : Str → Option Value} {t : Tgt} {vs : List Nat} {mi : MIt} {tt : MTt} {te : MEt} (hK : K = C.K) (hts : ∀ i ∈ t.slots, i ∈ vs) {σ : L2.St} {H : Hp} {Q : VK}
    (h : ∃ env G Kd KX, Ok3 C H G ∧ VR C.K G env σ ∧ mLc t vs mi tt te env Kd KX ∧ PostF C H G Kd Q ∧ PostX C mg H G KX E) :
    tLc (liftI C mg E mi) (gOf K t) (liftT C mg E0 tt) (lift C mg E0 te) vs σ H Q := by
  subst hK
  obtain ⟨env, G, Kd, KX, ok, vr, hm, pv, px⟩ := h
  refine ⟨env, G, _, KX, ok, vr, hm, fun ds J H1 G1 s1 ok1 it k1 D0 nD => ?_, px⟩
  obtain ⟨hz, k1⟩ := k1
  have spD := ok1.iv.new nD
  refine ⟨fun i m H => m = ds.length - i ∧ i ≤ ds.length ∧ ∃ (G2 : Hp) (acc : List V) (accD : List D), Ok3 C H G2 ∧ Stp C H1 G1 H G2 ∧ H D0 = some (.lst acc) ∧ G2 D0 = none ∧ Rps C.K G2 accD acc ∧ acc.length ≤ i ∧
      lcD t tt te (wipeE env vs) (ds.drop i) fun r => Kd (.lst (accD ++ r)), ⟨ds.length, by simp, Nat.zero_le _, ?_⟩, ?_⟩
  · obtain ⟨o2, s2, g⟩ := ok1.new (o := .lst []) nD
    exact ⟨G1, [], [], o2, s2, upd_same, g, .nil, Nat.zero_le _, by simpa using k1⟩
  · rintro i m H2 ⟨rfl, hi, G2, acc, accD, ok2, s2, hD, gD, ra, hacc, k2⟩
    by_cases hlt : i < ds.length
    · have hd : ds[i]? = some ds[i] := List.getElem?_eq_getElem hlt
      obtain ⟨hgo, hy⟩ := it.go i ds[i] H2 G2 hd s2.ge ok2
      have edrop : ds.drop i = ds[i] :: ds.drop (i + 1) := List.drop_eq_getElem_cons hlt
      rw [edrop] at k2
      obtain ⟨l, hb, k2⟩ := k2
      refine .inr ⟨hgo, fun H' => i + 1 ≤ ds.length ∧ ∃ (G2 : Hp) (acc : List V) (accD : List D), Ok3 C H' G2 ∧ Stp C H1 G1 H' G2 ∧ H' D0 = some (.lst acc) ∧ G2 D0 = none ∧ Rps C.K G2 accD acc ∧ acc.length ≤ i + 1 ∧
        lcD t tt te (wipeE env vs) (ds.drop (i + 1)) fun r => Kd (.lst (accD ++ r)), fun H' hn => ⟨ds.length - (i + 1), by omega, rfl, hn⟩, fun x H3 yy => ?_⟩
      obtain ⟨G3, s3, ok3, r3⟩ := hy x H3 yy
      have hD3 : H3 D0 = some (.lst acc) := s3.nh D0 _ spD hD
      have gD3 : G3 D0 = none := by
        cases q : G3 D0 with
        | none => rfl
        | some o =>
          have z := s3.fr D0 o gD q
          rw [nT_of hD] at z
          cases z
      have vr3 : VR C.K G3 (wipeE env vs) (L2.wipe σ vs) := (vr.wipe vs).mono (s1.ge.trans (s2.ge.trans s3.ge))
      refine gOf_ok (fun a o q => (ok3.sub a o q).2) r3 hb fun ws pw hw => ⟨wipe_setV (fun w hw' => hts _ (hw w hw')) |>.trans ?_, ?_⟩
      · have wi : ∀ us : List Nat, (∀ u ∈ us, u ∈ vs) → L2.wipe (L2.wipe σ vs) us = L2.wipe σ vs := by
          intro us
          induction us with
          | nil => intro _; rfl
          | cons u us ih =>
            intro hu
            show (L2.wipe (L2.wipe σ vs) us).set u none = _
            rw [ih fun x hx => hu x (List.mem_cons_of_mem _ hx)]
            have hu0 : u ∈ vs := hu u List.mem_cons_self
            apply List.ext_getElem?
            intro j
            by_cases c : u = j
            · subst c
              by_cases hj : u < (L2.wipe σ vs).length
              · rw [List.getElem?_set_self hj]
                have q : (L2.wipe σ vs)[u]? = some ((L2.wipe σ vs)[u]) := List.getElem?_eq_getElem hj
                cases q2 : (L2.wipe σ vs)[u] with
                | none => rw [q, q2]
                | some w =>
                  rw [q2] at q
                  exact absurd hu0 (wipe_some q).2
              · rw [List.getElem?_eq_none (by simpa using hj), List.getElem?_eq_none (by simpa using hj)]
            · rw [List.getElem?_set_ne c]
        rw [wi vs fun _ h => h]
      · have vr4 : VR C.K G3 (setE (wipeE env vs) l) (setV (L2.wipe σ vs) ws) := VR.setAll pw vr3
        refine ⟨_, G3, _, _, ok3, vr4, k2, fun b H4 G4 s4 ok4 k4 => ?_, fun _ _ _ _ z => z.elim⟩
        have hD4 : H4 D0 = some (.lst acc) := s4.nh D0 _ spD hD3
        have gD4 : G4 D0 = none := by
          cases q : G4 D0 with
          | none => rfl
          | some o =>
            have z := s4.fr D0 o gD3 q
            rw [nT_of hD3] at z
            cases z
        have s14 := s2.trans ok4 (s3.trans ok4 s4)
        cases b with
        | false =>
          refine iteF ?_
          exact ⟨hlt, G4, acc, accD, ok4, s14, hD4, gD4, ra.mono (s3.ge.trans s4.ge), Nat.le_succ_of_le hacc, k4⟩
        | true =>
          refine iteT ?_
          refine ⟨_, G4, _, _, ok4, vr4.mono s4.ge, k4, fun y yv H5 G5 s5 ok5 r5 k5 => ?_, fun _ _ _ _ z => z.elim⟩
          have hD5 : H5 D0 = some (.lst acc) := s5.nh D0 _ spD hD4
          have gD5 : G5 D0 = none := by
            cases q : G5 D0 with
            | none => rfl
            | some o =>
              have z := s5.fr D0 o gD4 q
              rw [nT_of hD4] at z
              cases z
          have s15 := s14.trans ok5 s5
          refine ⟨acc, hD5, Nat.lt_of_lt_of_le (show acc.length < 100001 by omega) (by rw [sizeLine_eq]; decide), hlt, G5, acc ++ [yv], accD ++ [y], ?_, ?_, upd_same, gD5, (ra.mono (s3.ge.trans (s4.ge.trans s5.ge))).append (.cons r5 .nil), by rw [List.length_append, List.length_singleton]; omega, ?_⟩
          · refine ⟨ok5.iv.upd spD (upd_code hD5 rfl), fun a o q => ?_, ok5.nt⟩
            obtain ⟨z1, z2⟩ := ok5.sub a o q
            refine ⟨z1, ?_⟩
            rw [upd_ne (fun z => by rw [z, gD5] at q; cases q)]
            exact z2
          · refine ⟨fun a o sp e => ?_, s15.ge, s15.fr⟩
            rw [nT_ne (ne_of_none (nT_to e).1 nD)]
            exact s15.nx a o sp e
          · simp only [List.append_assoc, List.singleton_append]
            exact k5
    · have e : i = ds.length := by omega
      subst e
      rw [List.drop_length] at k2
      have k2 : Kd (.lst (accD ++ [])) := k2
      rw [List.append_nil] at k2
      refine .inl ⟨it.stop _ H2 G2 (Nat.le_refl _) s2.ge ok2, pv.on s1 (.lst accD) D0 _ H2 G2 s2 ok2 (nT_none nD) gD hD spD (.lst ra) k2⟩
end
end L3
/-! L3g: statements -/
namespace L3
open PySem PySem.Spec PyProof.Rows L2

theorem mf_lc {X : Cx} {C : C3} {E : XK} {elt tg iter : Expr} {ifs : List Expr} {scope : Scope} {own : List (Str × Nat)} {pos : Pos} {t : Tgt} {mi : MIt} {tt : MTt} {te : MEt} (hK : X.K = C.K) (hc : X.calm = true) (hN : X.N.Nodup) (hi : MI X C E tg iter mi) (ok : BlkOk X.N X.env.scope scope own)
    (hts : ∀ i ∈ t.slots, i ∈ own.map (·.2))
    (hg : ∀ (s : Shared) (H : Hp) (A : Addr) (cl : List (Str × Addr)) (fp : List Addr), PG (X.blk s H scope (compEnvC scope cl A X.env) fp) tg (gOf X.K t)) (ht : ∀ (s : Shared) (H : Hp) (A : Addr) (cl : List (Str × Addr)) (fp : List Addr), MTs (X.blk s H scope (compEnvC scope cl A X.env) fp) C E0 ifs tt)
    (he : ∀ (s : Shared) (H : Hp) (A : Addr) (cl : List (Str × Addr)) (fp : List Addr), ME (X.blk s H scope (compEnvC scope cl A X.env) fp) C E0 elt te) (hs : ∀ x, foldedSetIterable iter X.env x = pure x := by intro _; rfl) :
    MF X C E (.ListComp elt [⟨tg, iter, ifs, 0⟩] scope pos) (mLc t (own.map (·.2)) mi tt te) := PE.imp (pe_lc hc hN hi ok hg ht he hs) fun σ H Q h => lc_lift hK hts h

/-! ### the state of a def -/
inductive Slot where
  | sh (d : D)
  | own (p : Addr) (d : D)
abbrev EnvS := List (Option Slot)
def viewS : Option Slot → Option D
  | some (.sh d) => some d
  | _ => none
def lendS : Option Slot → Option D
  | some (.sh d) => some d
  | some (.own _ (.lst ds)) => some (.lst ds)
  | _ => none
def viewE (env : EnvS) : EnvE := env.map viewS
def lendE (env : EnvS) : EnvE := env.map lendS
inductive ObjO (K : PySem.W.Frag) (G : Hp) : D → HO → Prop
  | lst {ds : List D} {vs : List V} : Rps K G ds vs → ObjO K G (.lst ds) (.lst vs)
  | dic {kvs : List (Int × D)} {kws : List (Key × V)} : RpK K G kvs kws → ObjO K G (.dic kvs) (.dK kws)
theorem ObjO.nt {K : PySem.W.Frag} {G : Hp} {d : D} {o : HO} (h : ObjO K G d o) : notTbl o = true := by cases h <;> rfl
theorem ObjO.mono {K : PySem.W.Frag} {G G' : Hp} {d : D} {o : HO} (e : Same G G') (h : ObjO K G d o) : ObjO K G' d o := by
  cases h with
  | lst r => exact .lst (r.mono e)
  | dic r => exact .dic (r.mono e)
theorem ObjD.obj {K : PySem.W.Frag} {G : Hp} {d : D} {o : HO} (h : ObjD K G d o) : ObjO K G d o := by
  cases h with
  | lst r => exact .lst r
structure ER0 (C : C3) (B G0 H G : Hp) : Prop where
  ok : Ok3 C H G
  g0 : Same G0 G
  fr : ∀ a o, G0 a = none → G a = some o → B a = none
  keep : ∀ a o, C.sp a = false → B a = some o → nT H a = some o
structure ER (C : C3) (B G0 H G : Hp) (env : EnvS) (σ : L2.St) : Prop where
  z : ER0 C B G0 H G
  len : env.length ≤ σ.length
  sh : ∀ (i : Nat) (d : D), env[i]? = some (some (.sh d)) → ∃ v, σ[i]? = some (some v) ∧ Rp C.K G d v
  own : ∀ (i : Nat) (p : Addr) (d : D), env[i]? = some (some (.own p d)) → σ[i]? = some (some (.ref p)) ∧ C.sp p = false ∧ B p = none ∧ G p = none ∧ ∃ o, H p = some o ∧ ObjO C.K G d o
  dis : ∀ (i j : Nat) (p : Addr) (d e : D), env[i]? = some (some (.own p d)) → env[j]? = some (some (.own p e)) → i = j
section
variable {C : C3} {B G0 H G H' G' : Hp} {env : EnvS} {σ : L2.St}
theorem ER0.step (z : ER0 C B G0 H G) (s : Stp C H G H' G') (ok : Ok3 C H' G') : ER0 C B G0 H' G' := by
  refine ⟨ok, z.g0.trans s.ge, fun a o h h' => ?_, fun a o sp h => s.nx a o sp (z.keep a o sp h)⟩
  cases q : G a with
  | some u => exact z.fr a u h q
  | none =>
    have h1 := s.fr a o q h'
    cases r : B a with
    | none => rfl
    | some u =>
      rw [z.keep a u (ok.sub a o h').1 r] at h1
      cases h1
theorem ER.step (z : ER C B G0 H G env σ) (s : Stp C H G H' G') (ok : Ok3 C H' G') : ER C B G0 H' G' env σ := by
  refine ⟨z.z.step s ok, z.len, fun i d h => ?_, fun i p d h => ?_, z.dis⟩
  · obtain ⟨v, h1, h2⟩ := z.sh i d h
    exact ⟨v, h1, h2.mono s.ge⟩
  · obtain ⟨h1, h2, h3, h4, o, h5, h6⟩ := z.own i p d h
    refine ⟨h1, h2, h3, ?_, o, s.nh p o h2 h5 h6.nt, h6.mono s.ge⟩
    cases q : G' p with
    | none => rfl
    | some u =>
      have := s.fr p u h4 q
      rw [nT_of h5 h6.nt] at this
      cases this
theorem viewE_get {i : Nat} {d : D} (h : (viewE env)[i]? = some (some d)) : env[i]? = some (some (.sh d)) := by
  unfold viewE at h
  rw [List.getElem?_map] at h
  cases q : env[i]? with
  | none => rw [q] at h; cases h
  | some o =>
    rw [q] at h
    have h : viewS o = some d := Option.some.inj h
    cases o with
    | none => cases h
    | some s =>
      cases s with
      | sh e =>
        have h : some e = some d := h
        cases h
        rfl
      | own p e => cases h
theorem ER.vr (z : ER C B G0 H G env σ) : VR C.K G (viewE env) σ := ⟨by unfold viewE; rw [List.length_map]; exact z.len, fun i d h => z.sh i d (viewE_get h)⟩
theorem ER.set_sh (z : ER C B G0 H G env σ) {i : Nat} {d : D} {v : V} (r : Rp C.K G d v) : ER C B G0 H G (env.set i (some (.sh d))) (σ.set i (some v)) := by
  refine ⟨z.z, by simpa using z.len, fun j e h => ?_, fun j p e h => ?_, fun j k p e f h h' => ?_⟩
  · by_cases c : i = j
    · subst c
      by_cases hi : i < env.length
      · rw [List.getElem?_set_self hi] at h
        cases h
        exact ⟨v, by rw [List.getElem?_set_self (Nat.lt_of_lt_of_le hi z.len)], r⟩
      · rw [List.getElem?_eq_none (by simpa using hi)] at h
        cases h
    · rw [List.getElem?_set_ne c] at h
      obtain ⟨w, h1, h2⟩ := z.sh j e h
      exact ⟨w, by rw [List.getElem?_set_ne c]; exact h1, h2⟩
  · by_cases c : i = j
    · subst c
      by_cases hi : i < env.length
      · rw [List.getElem?_set_self hi] at h
        cases h
      · rw [List.getElem?_eq_none (by simpa using hi)] at h
        cases h
    · rw [List.getElem?_set_ne c] at h
      obtain ⟨h1, h2⟩ := z.own j p e h
      exact ⟨by rw [List.getElem?_set_ne c]; exact h1, h2⟩
  · have un : ∀ {j : Nat} {e : D}, (env.set i (some (.sh d)))[j]? = some (some (.own p e)) → env[j]? = some (some (.own p e)) := fun {j e} h => by
      by_cases c : i = j
      · subst c
        by_cases hi : i < env.length
        · rw [List.getElem?_set_self hi] at h; cases h
        · rw [List.getElem?_eq_none (by simpa using hi)] at h; cases h
      · rwa [List.getElem?_set_ne c] at h
    exact z.dis j k p e f (un h) (un h')
theorem ER.set_own (z : ER C B G0 H G env σ) {i : Nat} {p : Addr} {d : D} {o : HO} (sp : C.sp p = false) (hb : B p = none) (hg : G p = none) (ho : H p = some o) (r : ObjO C.K G d o) (nw : ∀ (j : Nat) (e : D), j ≠ i → env[j]? ≠ some (some (.own p e))) : ER C B G0 H G (env.set i (some (.own p d))) (σ.set i (some (.ref p))) := by
  have un : ∀ {j : Nat} {x : Slot}, (env.set i (some (.own p d)))[j]? = some (some x) → (i = j ∧ i < env.length ∧ x = .own p d) ∨ (i ≠ j ∧ env[j]? = some (some x)) := fun {j x} h => by
    by_cases c : i = j
    · subst c
      by_cases hi : i < env.length
      · rw [List.getElem?_set_self hi] at h
        cases h
        exact .inl ⟨rfl, hi, rfl⟩
      · rw [List.getElem?_eq_none (by simpa using hi)] at h; cases h
    · rw [List.getElem?_set_ne c] at h
      exact .inr ⟨c, h⟩
  refine ⟨z.z, by simpa using z.len, fun j e h => ?_, fun j q e h => ?_, fun j k q e f h h' => ?_⟩
  · rcases un h with ⟨_, _, x⟩ | ⟨c, x⟩
    · cases x
    · obtain ⟨w, h1, h2⟩ := z.sh j e x
      exact ⟨w, by rw [List.getElem?_set_ne c]; exact h1, h2⟩
  · rcases un h with ⟨c, hi, x⟩ | ⟨c, x⟩
    · cases x
      subst c
      exact ⟨by rw [List.getElem?_set_self (Nat.lt_of_lt_of_le hi z.len)], sp, hb, hg, o, ho, r⟩
    · obtain ⟨h1, h2⟩ := z.own j q e x
      exact ⟨by rw [List.getElem?_set_ne c]; exact h1, h2⟩
  · rcases un h with ⟨c, _, x⟩ | ⟨c, x⟩
    · cases x
      rcases un h' with ⟨c', _, x'⟩ | ⟨c', x'⟩
      · exact c.symm.trans c'
      · exact absurd x' (nw k f (Ne.symm c'))
    · rcases un h' with ⟨c', _, x'⟩ | ⟨c', x'⟩
      · cases x'
        exact absurd x (nw j e (Ne.symm c))
      · exact z.dis j k q e f x x'
/-- what stands at an own address is changed -/
theorem ER.write (z : ER C B G0 H G env σ) {i : Nat} {p : Addr} {d d' : D} {o' : HO} (h : env[i]? = some (some (.own p d))) (r : ObjO C.K G d' o') : ER C B G0 (upd H p o') G (env.set i (some (.own p d'))) σ := by
  obtain ⟨h1, h2, h3, h4, o, h5, h6⟩ := z.own i p d h
  have ok' : Ok3 C (upd H p o') G := ⟨z.z.ok.iv.upd h2 (upd_code h5 (by cases h6 <;> rfl)), fun a u q => by
    obtain ⟨x, y⟩ := z.z.ok.sub a u q
    refine ⟨x, ?_⟩
    rw [upd_ne (fun w => by rw [w, h4] at q; cases q)]
    exact y, z.z.ok.nt⟩
  have hi : i < env.length := (List.getElem?_eq_some_iff.mp h).1
  refine ⟨⟨ok', z.z.g0, z.z.fr, fun a u sp q => ?_⟩, by simpa using z.len, fun j e q => ?_, fun j q e w => ?_, fun j k q e f w w' => ?_⟩
  · rw [nT_ne (ne_of_none q h3)]
    exact z.z.keep a u sp q
  · by_cases c : i = j
    · subst c
      rw [List.getElem?_set_self hi] at q
      cases q
    · rw [List.getElem?_set_ne c] at q
      exact z.sh j e q
  · by_cases c : i = j
    · subst c
      rw [List.getElem?_set_self hi] at w
      cases w
      exact ⟨h1, h2, h3, h4, o', upd_same, r⟩
    · rw [List.getElem?_set_ne c] at w
      obtain ⟨w1, w2, w3, w4, u, w5, w6⟩ := z.own j q e w
      refine ⟨w1, w2, w3, w4, u, ?_, w6⟩
      rw [upd_ne (fun t => c (by rw [t] at w; exact z.dis i j p d e h w))]
      exact w5
  · have un : ∀ {j : Nat} {e : D}, (env.set i (some (.own p d')))[j]? = some (some (.own q e)) → ∃ e', env[j]? = some (some (.own q e')) := fun {j e} w => by
      by_cases c : i = j
      · subst c
        rw [List.getElem?_set_self hi] at w
        cases w
        exact ⟨d, h⟩
      · rw [List.getElem?_set_ne c] at w
        exact ⟨e, w⟩
    obtain ⟨e1, w1⟩ := un w
    obtain ⟨e2, w2⟩ := un w'
    exact z.dis j k q _ _ w1 w2
/-- own lists lent: read, then back -/
def ownA : EnvS → List Addr
  | [] => []
  | some (.own p (.lst _)) :: r => p :: ownA r
  | _ :: r => ownA r
theorem ownA_mem : ∀ {env : EnvS} {p : Addr}, p ∈ ownA env → ∃ (i : Nat) (ds : List D), env[i]? = some (some (Slot.own p (.lst ds)))
  | [], p, h => by simp [ownA] at h
  | x :: r, p, h => by
    unfold ownA at h
    split at h
    · rename_i h0; cases h0
    · rename_i q ds r' e
      cases e
      rcases List.mem_cons.mp h with z | z
      · subst z
        exact ⟨0, ds, rfl⟩
      · obtain ⟨i, es, q⟩ := ownA_mem z
        exact ⟨i + 1, es, by simpa using q⟩
    · rename_i x' r' _ e
      cases e
      obtain ⟨i, es, q⟩ := ownA_mem h
      exact ⟨i + 1, es, by simpa using q⟩
theorem mem_ownA : ∀ {env : EnvS} {i : Nat} {p : Addr} {ds : List D}, env[i]? = some (some (.own p (.lst ds))) → p ∈ ownA env
  | [], i, p, ds, h => by simp at h
  | x :: r, 0, p, ds, h => by
    have h : some x = some (some (.own p (.lst ds))) := h
    cases h
    simp [ownA]
  | x :: r, i + 1, p, ds, h => by
    have q := mem_ownA (env := r) (i := i) (p := p) (ds := ds) (by simpa using h)
    unfold ownA
    split
    · rename_i h0; cases h0
    · rename_i e; cases e; exact List.mem_cons_of_mem _ q
    · rename_i e; cases e; exact q
def gLend (G H : Hp) (env : EnvS) : Hp := fun a => match G a with
  | some o => some o
  | none => if a ∈ ownA env then H a else none
theorem lendE_get {i : Nat} {d : D} (h : (lendE env)[i]? = some (some d)) : env[i]? = some (some (.sh d)) ∨ ∃ (p : Addr) (ds : List D), d = .lst ds ∧ env[i]? = some (some (Slot.own p (.lst ds))) := by
  unfold lendE at h
  rw [List.getElem?_map] at h
  cases q : env[i]? with
  | none => rw [q] at h; cases h
  | some o =>
    rw [q] at h
    have h : lendS o = some d := Option.some.inj h
    unfold lendS at h
    split at h
    · cases h; exact .inl rfl
    · cases h; exact .inr ⟨_, _, rfl, rfl⟩
    · cases h
theorem gLend_of {a : Addr} {o : HO} (h : gLend G H env a = some o) : G a = some o ∨ (a ∈ ownA env ∧ H a = some o) := by
  unfold gLend at h
  split at h
  · rename_i e; cases h; exact .inl e
  · split at h
    · rename_i c; exact .inr ⟨c, h⟩
    · cases h
theorem gLend_ge : Same G (gLend G H env) := fun a o h => by
  unfold gLend
  rw [h]
theorem ER.lend (z : ER C B G0 H G env σ) : Ok3 C H (gLend G H env) ∧ VR C.K (gLend G H env) (lendE env) σ := by
  refine ⟨⟨z.z.ok.iv, fun a o h => ?_, fun a o h => ?_⟩, by unfold lendE; rw [List.length_map]; exact z.len, fun i d h => ?_⟩
  · rcases gLend_of h with h | ⟨hm, h⟩
    · exact z.z.ok.sub a o h
    · obtain ⟨i, ds, q⟩ := ownA_mem hm
      exact ⟨(z.own i a _ q).2.1, h⟩
  · rcases gLend_of h with h | ⟨hm, h⟩
    · exact z.z.ok.nt a o h
    · obtain ⟨i, ds, q⟩ := ownA_mem hm
      obtain ⟨_, _, _, _, u, h5, h6⟩ := z.own i a _ q
      rw [h5] at h
      cases h
      exact h6.nt
  · rcases lendE_get h with h | ⟨p, ds, rfl, h'⟩
    · obtain ⟨v, h1, h2⟩ := z.sh i d h
      exact ⟨v, h1, h2.mono gLend_ge⟩
    · have h : env[i]? = some (some (Slot.own p (.lst ds))) := h'
      obtain ⟨h1, h2, h3, h4, o, h5, h6⟩ := z.own i p _ h
      refine ⟨_, h1, ?_⟩
      cases h6 with
      | lst r =>
        refine .lst ?_ (r.mono gLend_ge)
        unfold gLend
        rw [h4]
        dsimp only
        rw [if_pos (mem_ownA h)]
        exact h5
/-- behind what was lent: G again -/
theorem ER.back (z : ER C B G0 H G env σ) (s : Stp C H (gLend G H env) H' G') (ok : Ok3 C H' G') : ER C B G0 H' G env σ :=
  z.step ⟨s.nx, Same.refl _, fun a o h h' => by rw [h] at h'; cases h'⟩ ⟨ok.iv, fun a o h => ok.sub a o (s.ge a o (gLend_ge a o h)), fun a o h => ok.nt a o (s.ge a o (gLend_ge a o h))⟩
/-- or all is frozen -/
theorem ER.back0 (z : ER C B G0 H G env σ) (s : Stp C H (gLend G H env) H' G') (ok : Ok3 C H' G') : ER0 C B G0 H' G' := by
  have z1 : ER0 C B G0 H (gLend G H env) := ⟨z.lend.1, z.z.g0.trans gLend_ge, fun a o h h' => by
    rcases gLend_of h' with q | ⟨hm, q⟩
    · exact z.z.fr a o h q
    · obtain ⟨i, ds, q⟩ := ownA_mem hm
      exact (z.own i a _ q).2.2.1, z.z.keep⟩
  exact z1.step s ok
def frzE (env : EnvS) : EnvS := (lendE env).map fun o => o.map Slot.sh
theorem ER.frozen (z : ER C B G0 H G env σ) (s : Stp C H (gLend G H env) H' G') (ok : Ok3 C H' G') : ER C B G0 H' G' (frzE env) σ := by
  have vr := z.lend.2
  have nos : ∀ (i : Nat) (p : Addr) (d : D), (frzE env)[i]? ≠ some (some (.own p d)) := fun i p d h => by
    unfold frzE at h
    rw [List.getElem?_map] at h
    cases q : (lendE env)[i]? with
    | none => rw [q] at h; cases h
    | some o =>
      rw [q] at h
      cases o <;> cases h
  refine ⟨z.back0 s ok, by unfold frzE; rw [List.length_map]; exact vr.len, fun i d h => ?_, fun i p d h => absurd h (nos i p d), fun i j p d e h _ => absurd h (nos i p d)⟩
  unfold frzE at h
  rw [List.getElem?_map] at h
  cases q : (lendE env)[i]? with
  | none => rw [q] at h; cases h
  | some o =>
    rw [q] at h
    cases o with
    | none => cases h
    | some e =>
      have h : some (some (Slot.sh e)) = some (some (Slot.sh d)) := h
      cases h
      obtain ⟨v, h1, h2⟩ := vr.get i _ q
      exact ⟨v, h1, h2.mono s.ge⟩
end

/-! ### statements -/
structure KS where
  nx : EnvS → Prop
  rt : D → Prop
  bk : EnvS → Prop := fun _ => False
  ct : EnvS → Prop := fun _ => False
  ex : Exn → Prop := fun _ => False
abbrev MSt := EnvS → KS → Prop
def RetOk (C : C3) (fr : Bool) (B H G : Hp) (d : D) (v : V) : Prop := match fr with
  | false => Rp C.K G d v
  | true => ∃ p o, v = .ref p ∧ B p = none ∧ G p = none ∧ H p = some o ∧ C.sp p = false ∧ ObjD C.K G d o
structure Fin (C : C3) (mg : Str → Option Value) (E : XK) (fr : Bool) (B G0 : Hp) (Ks : KS) (En : Ends) : Prop where
  nx : ∀ env σ H G, ER C B G0 H G env σ → Ks.nx env → En.nx σ H
  bk : ∀ env σ H G, ER C B G0 H G env σ → Ks.bk env → En.bk σ H
  ct : ∀ env σ H G, ER C B G0 H G env σ → Ks.ct env → En.ct σ H
  rt : ∀ d v H G, ER0 C B G0 H G → RetOk C fr B H G d v → Ks.rt d → En.rt v H
  ex : ∀ x cls d H, Ks.ex x → (∀ a o, C.sp a = false → B a = some o → nT H a = some o) → (∀ a o, G0 a = some o → H a = some o) → Iv C H → XRep mg x cls d H G0 → E cls d H
def liftS (C : C3) (mg : Str → Option Value) (E : XK) (fr : Bool) (B G0 : Hp) (m : MSt) : TS := fun En σ H => ∃ env G Ks, ER C B G0 H G env σ ∧ m env Ks ∧ Fin C mg E fr B G0 Ks En
abbrev MS (X : Cx) (C : C3) (E : XK) (fr : Bool) (B : Hp) (st : Stmt) (m : MSt) : Prop := ∀ G0, PS X st (liftS C X.mg E fr B G0 m)
abbrev MSs (X : Cx) (C : C3) (E : XK) (fr : Bool) (B : Hp) (st : List Stmt) (m : MSt) : Prop := ∀ G0, PSs X st (liftS C X.mg E fr B G0 m)
theorem PS.imp {X : Cx} {st : Stmt} {t t' : TS} (h : PS X st t) (q : ∀ En σ H, t' En σ H → t En σ H) : PS X st t' := ⟨fun pins s σ H En I w => h.run pins s σ H En I (q En σ H w)⟩
theorem PSs.imp {X : Cx} {st : List Stmt} {t t' : TS} (h : PSs X st t) (q : ∀ En σ H, t' En σ H → t En σ H) : PSs X st t' := ⟨fun pins s σ H En I w => h.run pins s σ H En I (q En σ H w)⟩
theorem Fin.px {C : C3} {mg : Str → Option Value} {E : XK} {fr : Bool} {B G0 H G G1 : Hp} {Ks : KS} {En : Ends} (f : Fin C mg E fr B G0 Ks En) (z : ER0 C B G0 H G) (e : Same G G1) : PostX C mg H G1 Ks.ex E := fun x cls d H' k s ok r =>
  f.ex x cls d H' k (fun a o sp h => s.nx a o sp (z.keep a o sp h)) (fun a o h => (ok.sub a o (e _ _ (z.g0 a o h))).2) ok.iv (r.mono (z.g0.trans e))
section
variable {X : Cx} {C : C3} {E : XK} {fr : Bool} {B G0 : Hp} {st : Stmt} {rest : List Stmt} {e : Expr} {m : MEt} {ms ms' : MSt} {pos : Pos}
def mNext : MSt := fun env Ks => Ks.nx env
def mSeq (a b : MSt) : MSt := fun env Ks => a env { Ks with nx := fun env' => b env' Ks }
theorem mss_nil : MSs X C E fr B [] mNext := fun G0 => PSs.imp pss_nil fun En σ H ⟨env, G, Ks, er, hm, f⟩ => f.nx env σ H G er hm
theorem mss_cons (h1 : MS X C E fr B st ms) (h2 : MSs X C E fr B rest ms') : MSs X C E fr B (st :: rest) (mSeq ms ms') := fun G0 => PSs.imp (pss_cons (h1 G0) (h2 G0)) fun En σ H ⟨env, G, Ks, er, hm, f⟩ =>
  ⟨env, G, _, er, hm, ⟨fun env' σ' H' G' er' k => ⟨env', G', Ks, er', k, f⟩, f.bk, f.ct, f.rt, f.ex⟩⟩
theorem mss_one (h1 : MS X C E fr B st ms) : MSs X C E fr B [st] ms := fun G0 => pss_one (h1 G0)
theorem ms_pass : MS X C E fr B (.Pass pos) mNext := fun G0 => PS.imp ps_pass fun En σ H ⟨env, G, Ks, er, hm, f⟩ => f.nx env σ H G er hm
def mNever : MSt := fun _ _ => False
theorem ms_never : MS X C E fr B st mNever := fun G0 => PS.imp ps_never fun En σ H ⟨env, G, Ks, er, hm, f⟩ => hm
/-- x = e -/
def mSet (i : Nat) (m : MEt) : MSt := fun env Ks => m (viewE env) (fun d => Ks.nx (env.set i (some (.sh d)))) Ks.ex
theorem set_lift {i : Nat} {mg : Str → Option Value} {En : Ends} {σ : L2.St} {H : Hp} (h : liftS C mg E fr B G0 (mSet i m) En σ H) : tAsg (lift C mg E m) (gName i) En σ H := by
  obtain ⟨env, G, Ks, er, hm, f⟩ := h
  exact ⟨viewE env, G, _, Ks.ex, er.z.ok, er.vr, hm, fun d v H1 G1 s1 ok1 r1 k1 => f.nx _ _ H1 G1 ((er.step s1 ok1).set_sh r1) k1, f.px er.z (Same.refl _)⟩
theorem ms_set {i : Nat} {x : Str} {pos' : Pos} (hN : X.N.Nodup) (hi : X.N[i]? = some x) (hx : Loc X.env.scope x) (he : ME X C E e m) (hs : swapsWith e (some (.Name x pos')) pos.line X.env = pure false := by rfl) (hf : X.fn x = true ∨ X.env.scope.names.lookup x = some .local := by first | exact .inl rfl | exact .inr rfl | assumption) :
    MS X C E fr B (.Assign [.Name x pos'] e pos) (mSet i m) := fun G0 => PS.imp (ps_set hN hi hx he hs hf) fun En σ H h => set_lift h
/-- .. of a new list: the name's own -/
def mSetF (i : Nat) (m : MEt) : MSt := fun env Ks => m (viewE env) (fun d => ∀ p, Ks.nx (env.set i (some (.own p d)))) Ks.ex
theorem ER.fresh_own {H G H1 G1 : Hp} {env : EnvS} {σ : L2.St} (er : ER C B G0 H G env σ) (s1 : Stp C H G H1 G1) (ok1 : Ok3 C H1 G1) {i : Nat} {p : Addr} {o : HO} {d : D} (hp : nT H p = none) (gp : G1 p = none) (ho : H1 p = some o) (sp : C.sp p = false) (ob : ObjO C.K G1 d o) : ER C B G0 H1 G1 (env.set i (some (.own p d))) (σ.set i (some (.ref p))) := by
  refine (er.step s1 ok1).set_own sp ?_ gp ho ob fun j e c q => ?_
  · cases q : B p with
    | none => rfl
    | some u =>
      rw [er.z.keep p u sp q] at hp
      cases hp
  · obtain ⟨_, _, _, _, u, h5, h6⟩ := er.own j p e q
    rw [nT_of h5 h6.nt] at hp
    cases hp
theorem setF_lift {i : Nat} {mg : Str → Option Value} {En : Ends} {σ : L2.St} {H : Hp} (h : liftS C mg E fr B G0 (mSetF i m) En σ H) : tAsg (liftF C mg E m) (gName i) En σ H := by
  obtain ⟨env, G, Ks, er, hm, f⟩ := h
  exact ⟨viewE env, G, _, Ks.ex, er.z.ok, er.vr, hm, fun d p o H1 G1 s1 ok1 hp gp ho sp ob k1 => f.nx _ _ H1 G1 (er.fresh_own s1 ok1 hp gp ho sp ob.obj) (k1 p), f.px er.z (Same.refl _)⟩
theorem ms_setF {i : Nat} {x : Str} {pos' : Pos} (hN : X.N.Nodup) (hi : X.N[i]? = some x) (hx : Loc X.env.scope x) (he : MF X C E e m) (hs : swapsWith e (some (.Name x pos')) pos.line X.env = pure false := by rfl) (hf : X.fn x = true ∨ X.env.scope.names.lookup x = some .local := by first | exact .inl rfl | exact .inr rfl | assumption) :
    MS X C E fr B (.Assign [.Name x pos'] e pos) (mSetF i m) := fun G0 => PS.imp (ps_set hN hi hx he hs hf) fun En σ H h => setF_lift h
/-- own lists lent, the value flat -/
def mSetL (i : Nat) (m : MEt) : MSt := fun env Ks => m (lendE env) (fun d => flatD d = true ∧ Ks.nx (env.set i (some (.sh d)))) Ks.ex
theorem Rp.anyG {K : PySem.W.Frag} {G G' : Hp} {d : D} {v : V} (r : Rp K G d v) (f : flatD d = true) : Rp K G' d v := by
  cases r <;> first | exact absurd f Bool.false_ne_true | constructor
theorem ms_setL {i : Nat} {x : Str} {pos' : Pos} (hN : X.N.Nodup) (hi : X.N[i]? = some x) (hx : Loc X.env.scope x) (he : ME X C E e m) (hs : swapsWith e (some (.Name x pos')) pos.line X.env = pure false := by rfl) (hf : X.fn x = true ∨ X.env.scope.names.lookup x = some .local := by first | exact .inl rfl | exact .inr rfl | assumption) :
    MS X C E fr B (.Assign [.Name x pos'] e pos) (mSetL i m) := fun G0 => PS.imp (ps_set hN hi hx he hs hf) fun En σ H ⟨env, G, Ks, er, hm, f⟩ =>
  ⟨lendE env, _, _, Ks.ex, er.lend.1, er.lend.2, hm, fun d v H1 G1 s1 ok1 r1 k1 => f.nx _ _ H1 G ((er.back s1 ok1).set_sh (r1.anyG k1.1)) k1.2, f.px er.z gLend_ge⟩
/-- own lists frozen -/
def mSetC (i : Nat) (m : MEt) : MSt := fun env Ks => m (lendE env) (fun d => Ks.nx ((frzE env).set i (some (.sh d)))) Ks.ex
theorem ms_setC {i : Nat} {x : Str} {pos' : Pos} (hN : X.N.Nodup) (hi : X.N[i]? = some x) (hx : Loc X.env.scope x) (he : ME X C E e m) (hs : swapsWith e (some (.Name x pos')) pos.line X.env = pure false := by rfl) (hf : X.fn x = true ∨ X.env.scope.names.lookup x = some .local := by first | exact .inl rfl | exact .inr rfl | assumption) :
    MS X C E fr B (.Assign [.Name x pos'] e pos) (mSetC i m) := fun G0 => PS.imp (ps_set hN hi hx he hs hf) fun En σ H ⟨env, G, Ks, er, hm, f⟩ =>
  ⟨lendE env, _, _, Ks.ex, er.lend.1, er.lend.2, hm, fun d v H1 G1 s1 ok1 r1 k1 => f.nx _ _ H1 G1 ((er.frozen s1 ok1).set_sh r1) k1, f.px er.z gLend_ge⟩
/-- x = [.. for ..] on one line -/
theorem ms_setLc {i : Nat} {y : Str} {py : Pos} {elt tg iter : Expr} {ifs : List Expr} {scope : Scope} {own : List (Str × Nat)} {pos spos : Pos} {t : Tgt} {mi : MIt} {tt : MTt} {te : MEt} (hK : X.K = C.K) (hc : X.calm = true) (hN : X.N.Nodup) (hy : X.N[i]? = some y) (hyl : X.env.scope.names.lookup y = some .local)
    (hsw : swapsWith (.ListComp elt [⟨tg, iter, ifs, 0⟩] scope pos) (some (.Name y py)) spos.line X.env = pure true) (hi : MI X C E tg iter mi) (ok : BlkOk X.N X.env.scope scope own) (hts : ∀ i ∈ t.slots, i ∈ own.map (·.2))
    (hg : ∀ (s : Shared) (H : Hp) (A : Addr) (cl : List (Str × Addr)) (fp : List Addr), PG (X.blk s H scope (compEnvC scope cl A X.env) fp) tg (gOf X.K t)) (ht : ∀ (s : Shared) (H : Hp) (A : Addr) (cl : List (Str × Addr)) (fp : List Addr), MTs (X.blk s H scope (compEnvC scope cl A X.env) fp) C E0 ifs tt)
    (he : ∀ (s : Shared) (H : Hp) (A : Addr) (cl : List (Str × Addr)) (fp : List Addr), ME (X.blk s H scope (compEnvC scope cl A X.env) fp) C E0 elt te) (hs : ∀ x, foldedSetIterable iter X.env x = pure x := by intro _; rfl) :
    MS X C E fr B (.Assign [.Name y py] (.ListComp elt [⟨tg, iter, ifs, 0⟩] scope pos) spos) (mSetF i (mLc t (own.map (·.2)) mi tt te)) := fun G0 =>
  PS.imp (ps_setLc hc hN hy hyl hsw hi ok hg ht he hs) fun En σ H h => by
    have q := setF_lift h
    exact lc_lift hK hts q
end
end L3
/-! L3h: further statements, calls of own defs, a def's promise -/
namespace L3
open PySem PySem.Spec PyProof.Rows L2
section
variable {X : Cx} {C : C3} {E : XK} {fr : Bool} {B : Hp} {st : Stmt} {a b : List Stmt} {e c o i : Expr} {es : List Expr} {m mi mv : MEt} {ms ms' : MSt} {tt : MTt} {pos p pos' apos : Pos}
theorem ER0.bfree {G0 H G : Hp} (z : ER0 C B G0 H G) {q : Addr} (sp : C.sp q = false) (hp : nT H q = none) : B q = none := by
  cases r : B q with
  | none => rfl
  | some u =>
    rw [z.keep q u sp r] at hp
    cases hp
/-! return -/
def mRet (m : MEt) : MSt := fun env Ks => m (lendE env) Ks.rt Ks.ex
theorem ms_ret (he : ME X C E e m) : MS X C E false B (.Return (some e) pos) (mRet m) := fun G0 => PS.imp (ps_ret he) fun En σ H ⟨env, G, Ks, er, hm, f⟩ =>
  ⟨lendE env, _, _, Ks.ex, er.lend.1, er.lend.2, hm, fun d v H1 G1 s1 ok1 r1 k1 => f.rt d v H1 G1 (er.back0 s1 ok1) r1 k1, f.px er.z gLend_ge⟩
theorem ms_retF (he : MF X C E e m) : MS X C E true B (.Return (some e) pos) (mRet m) := fun G0 => PS.imp (ps_ret he) fun En σ H ⟨env, G, Ks, er, hm, f⟩ =>
  ⟨lendE env, _, _, Ks.ex, er.lend.1, er.lend.2, hm, fun d q o H1 G1 s1 ok1 hp gp ho sp ob k1 => f.rt d _ H1 G1 (er.back0 s1 ok1) ⟨q, o, rfl, er.z.bfree sp hp, gp, ho, sp, ob⟩ k1, f.px er.z gLend_ge⟩
def ownL (env : EnvS) (j : Nat) (K : Addr → List D → Prop) : Prop := match env[j]? with
  | some (some (.own p (.lst ds))) => K p ds
  | _ => False
theorem ownL_inv {env : EnvS} {j : Nat} {K : Addr → List D → Prop} (h : ownL env j K) : ∃ (p : Addr) (ds : List D), env[j]? = some (some (Slot.own p (.lst ds))) ∧ K p ds := by
  unfold ownL at h
  split at h
  · rename_i p ds q
    exact ⟨p, ds, q, h⟩
  · exact h.elim
def ownK (env : EnvS) (j : Nat) (K : Addr → List (Int × D) → Prop) : Prop := match env[j]? with
  | some (some (.own p (.dic ds))) => K p ds
  | _ => False
theorem ownK_inv {env : EnvS} {j : Nat} {K : Addr → List (Int × D) → Prop} (h : ownK env j K) : ∃ (p : Addr) (ds : List (Int × D)), env[j]? = some (some (Slot.own p (.dic ds))) ∧ K p ds := by
  unfold ownK at h
  split at h
  · rename_i p ds q
    exact ⟨p, ds, q, h⟩
  · exact h.elim
/-- return x, x the name of a list of its own -/
def mRetO (j : Nat) : MSt := fun env Ks => ownL env j fun _ ds => Ks.rt (.lst ds)
theorem ms_retO (j : Nat) {x : Str} (hN : X.N[j]? = some x := by rfl) (hv : Vis X.env.scope x := by first | exact Or.inl rfl | exact Or.inr (Or.inl rfl) | exact Or.inr (Or.inr rfl)) (hd : (x == ("__debug__" : Str)) = false := by decide) (hcd : (x == ("__classdict__" : Str)) = false := by decide) :
    MS X C E true B (.Return (some (.Name x p)) pos) (mRetO j) := fun G0 => PS.imp (ps_ret (pe_var hN hv hd hcd)) fun En σ H ⟨env, G, Ks, er, hm, f⟩ => by
  obtain ⟨q, ds, h, k⟩ := ownL_inv hm
  obtain ⟨h1, h2, h3, h4, o, h5, h6⟩ := er.own j q _ h
  refine ⟨_, h1, f.rt _ _ H G er.z ⟨q, o, rfl, h3, h4, h5, h2, ?_⟩ k⟩
  cases h6 with
  | lst r => exact .lst r
/-! if, while, for -/
def mIfS (t : MTt) (a b : MSt) : MSt := fun env Ks => t (lendE env) (fun k => if k = true then a env Ks else b env Ks) Ks.ex
theorem ms_if (hc : MT X C E c tt) (ha : MSs X C E fr B a ms) (hb : MSs X C E fr B b ms') : MS X C E fr B (.If c a b pos) (mIfS tt ms ms') := fun G0 => PS.imp (ps_if hc (ha G0) (hb G0)) fun En σ H ⟨env, G, Ks, er, hm, f⟩ =>
  ⟨lendE env, _, _, Ks.ex, er.lend.1, er.lend.2, hm, fun k H1 G1 s1 ok1 k1 => by
    cases k with
    | true => exact ⟨env, G, Ks, er.back s1 ok1, k1, f⟩
    | false => exact ⟨env, G, Ks, er.back s1 ok1, k1, f⟩, f.px er.z gLend_ge⟩
def whileD (t : MTt) (b : MSt) (Ks : KS) : Nat → EnvS → Prop
  | 0, _ => False
  | n + 1, env => t (lendE env) (fun k => if k = true then b env { Ks with nx := whileD t b Ks n, ct := whileD t b Ks n, bk := Ks.nx } else Ks.nx env) Ks.ex
def mWhile (t : MTt) (b : MSt) : MSt := fun env Ks => ∃ n, whileD t b Ks n env
theorem ms_while (hp : PassesOwn (model X.prog X.w) X.A X.env X.xe) (hc : MT X C E c tt) (hb : MSs X C E fr B a ms) : MS X C E fr B (.While c a [] pos) (mWhile tt ms) := fun G0 => PS.imp (ps_while hp hc (hb G0)) fun En σ H ⟨env, G, Ks, er, hm, f⟩ => by
  obtain ⟨n, hm⟩ := hm
  refine ⟨fun n σ H => ∃ env G, ER C B G0 H G env σ ∧ whileD tt ms Ks n env, ⟨n, env, G, er, hm⟩, ?_⟩
  rintro n σ H ⟨env, G, er, hm⟩
  cases n with
  | zero => exact hm.elim
  | succ n =>
    refine ⟨lendE env, _, _, Ks.ex, er.lend.1, er.lend.2, hm, fun k H1 G1 s1 ok1 k1 => ?_, f.px er.z gLend_ge⟩
    cases k with
    | true =>
      refine iteT ⟨fun σ' H' => ∃ env G, ER C B G0 H' G env σ' ∧ whileD tt ms Ks n env, fun σ' H' h => ⟨n, Nat.lt_succ_self n, h⟩, env, G, _, er.back s1 ok1, k1, ?_⟩
      exact ⟨fun env σ H G er k => ⟨env, G, er, k⟩, fun env σ H G er k => f.nx env σ H G er k, fun env σ H G er k => ⟨env, G, er, k⟩, f.rt, f.ex⟩
    | false => exact iteF (f.nx env σ H1 G (er.back s1 ok1) k1)
def setS (env : EnvS) : List (Nat × D) → EnvS
  | [] => env
  | p :: r => setS (env.set p.1 (some (.sh p.2))) r
theorem ER.setAll {G0 H G : Hp} : ∀ {l : List (Nat × D)} {ws : List (Nat × V)} {env : EnvS} {σ : L2.St}, Paired (fun (p : Nat × D) (w : Nat × V) => p.1 = w.1 ∧ Rp C.K G p.2 w.2) l ws → ER C B G0 H G env σ → ER C B G0 H G (setS env l) (setV σ ws) := by
  intro l
  induction l with
  | nil => intro ws env σ q h; cases q; exact h
  | cons p l ih =>
    intro ws env σ q h
    cases q with
    | cons q1 q2 =>
      rename_i w ws'
      obtain ⟨e, r⟩ := q1
      have z := ih q2 (h.set_sh (i := p.1) r)
      show ER C B G0 H G (setS (env.set p.1 (some (.sh p.2))) l) (setV (σ.set w.1 (some w.2)) ws')
      rw [← e]
      exact z
def forD (t : Tgt) (b : MSt) (Ks : KS) : List D → EnvS → Prop
  | [], env => Ks.nx env
  | d :: ds, env => ∃ l, bindT t d = some l ∧ b (setS env l) { Ks with nx := forD t b Ks ds, ct := forD t b Ks ds, bk := Ks.nx }
def mFor (t : Tgt) (mi : MIt) (b : MSt) : MSt := fun env Ks => mi (viewE env) (fun ds => forD t b Ks ds env) Ks.ex
theorem ER.down {G0 Gi H Hi G : Hp} {env : EnvS} {σ : L2.St} (z : ER0 C B G0 Hi Gi) (er : ER C B Gi H G env σ) : ER C B G0 H G env σ :=
  ⟨⟨er.z.ok, z.g0.trans er.z.g0, fun a o h h' => by
    cases q : Gi a with
    | some u => exact z.fr a u h q
    | none => exact er.z.fr a o q h', er.z.keep⟩, er.len, er.sh, er.own, er.dis⟩
theorem ER0.down {G0 Gi H Hi G : Hp} (z : ER0 C B G0 Hi Gi) (er : ER0 C B Gi H G) : ER0 C B G0 H G :=
  ⟨er.ok, z.g0.trans er.g0, fun a o h h' => by
    cases q : Gi a with
    | some u => exact z.fr a u h q
    | none => exact er.fr a o q h', er.keep⟩
theorem Fin.up {mg : Str → Option Value} {G0 Gi Hi : Hp} {Ks : KS} {En : Ends} (z : ER0 C B G0 Hi Gi) (f : Fin C mg E fr B G0 Ks En) : Fin C mg E fr B Gi Ks En :=
  ⟨fun env σ H G er k => f.nx env σ H G (er.down z) k, fun env σ H G er k => f.bk env σ H G (er.down z) k, fun env σ H G er k => f.ct env σ H G (er.down z) k,
    fun d v H G er r k => f.rt d v H G (z.down er) r k, fun x cls d H k h1 h2 iv r => f.ex x cls d H k h1 (fun a o q => h2 a o (z.g0 a o q)) iv (r.mono z.g0)⟩
theorem ms_for {tg iter : Expr} {t : Tgt} {mi : MIt} (hp : PassesOwn (model X.prog X.w) X.A X.env X.xe) (hc : X.calm = true) (hK : X.K = C.K) (hi : MI X C E tg iter mi) (hg : PG X tg (gOf X.K t)) (hb : MSs X C E fr B a ms)
    (hs : ∀ x, foldedSetIterable iter X.env x = pure x := by intro _; rfl) : MS X C E fr B (.For tg iter a [] pos) (mFor t mi ms) := fun G0 => by
  -- the body's wishes are told of the frozen heap at the loop's start: any will do
  refine ⟨fun pins s σ H En I h => ?_⟩
  obtain ⟨env, G, Ks, er, hm, f⟩ := h
  have hall : ∀ Gi, PS X (.For tg iter a [] pos) (tFor (liftI C X.mg E mi) (gOf X.K t) (liftS C X.mg E fr B Gi ms)) := fun Gi => ps_for hp hc hi hg (hb Gi) hs
  refine PS.run (t := fun En σ H => (liftI C X.mg E mi) σ H fun J H1 => ∃ Gi : Hp, ∃ W : Nat → Nat → L2.St → Hp → Prop, (∃ m, W 0 m σ H1) ∧ ∀ i m σ H, W i m σ H →
    (J.stop i H ∧ En.nx σ H) ∨ (J.go i H ∧ ∃ N : L2.St → Hp → Prop, (∀ σ' H', N σ' H' → ∃ m', m' < m ∧ W (i + 1) m' σ' H') ∧ ∀ x H', J.yld i H x H' → gOf X.K t x σ H' fun σ2 H2 => liftS C X.mg E fr B Gi ms { En with nx := N, ct := N, bk := En.nx } σ2 H2)) ?_ pins s σ H En I ?_
  · -- the loop with the frozen heap chosen behind the iterator's making
    have hb' : PSs X a (fun En σ H => ∃ Gi, liftS C X.mg E fr B Gi ms En σ H) := ⟨fun pins s σ H En I ⟨Gi, h⟩ => (hb Gi).run pins s σ H En I h⟩
    refine PS.imp (ps_for hp hc hi hg hb' hs) fun En σ H h => ?_
    obtain ⟨env, G, Kl, KX, ok, vr, hm, k, px⟩ := h
    refine ⟨env, G, Kl, KX, ok, vr, hm, fun ds J H' G' s1 ok1 it kl => ?_, px⟩
    obtain ⟨Gi, W, w0, turn⟩ := k ds J H' G' s1 ok1 it kl
    refine ⟨W, w0, fun i m σ H w => ?_⟩
    rcases turn i m σ H w with q | ⟨go, N, hN, y⟩
    · exact .inl q
    · refine .inr ⟨go, N, hN, fun x H' yy => ?_⟩
      have gmono : ∀ {t : Tgt} {v : V} {σ : L2.St} {H : Hp} {Q Q' : L2.St → Hp → Prop}, (∀ σ' H', Q σ' H' → Q' σ' H') → gOf X.K t v σ H Q → gOf X.K t v σ H Q' := by
        intro t v σ H Q Q' hq
        cases t with
        | nm i => exact fun h => hq _ _ h
        | tp is =>
          have gn : ∀ (is : List Nat) (vs : List V) (σ : L2.St), gNames is vs σ H Q → gNames is vs σ H Q' := by
            intro is
            induction is with
            | nil => exact fun vs σ h => ⟨h.1, hq _ _ h.2⟩
            | cons i is ih => exact fun vs σ ⟨v, r, e, h⟩ => ⟨v, r, e, ih r _ h⟩
          exact fun ⟨a, xs, e1, e2, e3, h⟩ => ⟨a, xs, e1, e2, e3, gn is xs σ h⟩
      exact gmono (fun σ' H' h => ⟨Gi, h⟩) (y x H' yy)
  · refine ⟨viewE env, G, _, Ks.ex, er.z.ok, er.vr, hm, fun ds J H1 G1 s1 ok1 it k1 => ?_, f.px er.z (Same.refl _)⟩
    have z1 := er.z.step s1 ok1
    have er1 : ER C B G1 H1 G1 env σ := ⟨⟨ok1, Same.refl _, fun a o h h' => absurd (h.symm.trans h') (fun z => nomatch z), z1.keep⟩, (er.step s1 ok1).len, (er.step s1 ok1).sh, (er.step s1 ok1).own, (er.step s1 ok1).dis⟩
    have f1 := f.up z1
    refine ⟨G1, fun i m σ H => m = ds.length - i ∧ i ≤ ds.length ∧ ∃ env G, ER C B G1 H G env σ ∧ forD t ms Ks (ds.drop i) env, ⟨ds.length, by simp, Nat.zero_le _, env, G1, er1, by simpa using k1⟩, ?_⟩
    rintro i m σ2 H2 ⟨rfl, hi, env2, G2, er2, k2⟩
    by_cases hlt : i < ds.length
    · have hd : ds[i]? = some ds[i] := List.getElem?_eq_getElem hlt
      obtain ⟨hgo, hy⟩ := it.go i ds[i] H2 G2 hd er2.z.g0 er2.z.ok
      rw [List.drop_eq_getElem_cons hlt] at k2
      obtain ⟨l, hb2, k2⟩ := k2
      refine .inr ⟨hgo, fun σ' H' => i + 1 ≤ ds.length ∧ ∃ env G, ER C B G1 H' G env σ' ∧ forD t ms Ks (ds.drop (i + 1)) env, fun σ' H' hn => ⟨ds.length - (i + 1), by omega, rfl, hn⟩, fun x H3 yy => ?_⟩
      obtain ⟨G3, s3, ok3, r3⟩ := hy x H3 yy
      have er3 := er2.step s3 ok3
      refine gOf_ok (fun a o q => (ok3.sub a o q).2) (by rw [hK]; exact r3) hb2 fun ws pw _ => ⟨_, G3, _, ER.setAll (by rw [← hK]; exact pw) er3, k2, ?_⟩
      exact ⟨fun env σ H G er k => ⟨hlt, env, G, er, k⟩, fun env σ H G er k => f1.nx env σ H G er k, fun env σ H G er k => ⟨hlt, env, G, er, k⟩, f1.rt, f1.ex⟩
    · have e : i = ds.length := by omega
      subst e
      rw [List.drop_length] at k2
      exact .inl ⟨it.stop _ H2 G2 (Nat.le_refl _) er2.z.g0 er2.z.ok, f1.nx env2 σ2 H2 G2 er2 k2⟩
/-! an expression whose value is dropped -/
def mExpr (m : MEt) : MSt := fun env Ks => m (lendE env) (fun _ => Ks.nx env) Ks.ex
theorem ms_expr (he : ME X C E e m) (hs : swapsWith e none pos.line X.env = pure false := by rfl) : MS X C E fr B (.Expr e pos) (mExpr m) := fun G0 => PS.imp (ps_expr he hs) fun En σ H ⟨env, G, Ks, er, hm, f⟩ =>
  ⟨lendE env, _, _, Ks.ex, er.lend.1, er.lend.2, hm, fun d v H1 G1 s1 ok1 r1 k1 => f.nx env σ H1 G (er.back s1 ok1) k1, f.px er.z gLend_ge⟩
theorem ms_doc {x j} : MS X C E fr B (.Expr (.Constant (.str x) j pos) pos') mNext := fun G0 => PS.imp ps_doc fun En σ H ⟨env, G, Ks, er, hm, f⟩ => f.nx env σ H G er hm
/-! names in a row = a tuple -/
def mSetT (t : Tgt) (m : MEt) : MSt := fun env Ks => m (viewE env) (fun d => ∃ l, bindT t d = some l ∧ Ks.nx (setS env l)) Ks.ex
theorem ms_setT {tg : Expr} {t : Tgt} (hK : X.K = C.K) (he : ME X C E e m) (hg : PG X tg (gOf X.K t)) (hs : swapsWithSole [tg] e pos.line X.env = pure false := by rfl) (hw : swappedStores [tg] e X.env = pure none := by rfl)
    (h1 : (assignEach [tg] X.env).map (·.2) = [assign tg X.env] := by rfl) : MS X C E fr B (.Assign [tg] e pos) (mSetT t m) := fun G0 => PS.imp (ps_asg he hg hs hw h1) fun En σ H ⟨env, G, Ks, er, hm, f⟩ =>
  ⟨viewE env, G, _, Ks.ex, er.z.ok, er.vr, hm, fun d v H1 G1 s1 ok1 r1 k1 => by
    obtain ⟨l, hb, k1⟩ := k1
    exact gOf_ok (fun a o q => (ok1.sub a o q).2) (by rw [hK]; exact r1) hb fun ws pw _ => f.nx _ _ H1 G1 (ER.setAll (by rw [← hK]; exact pw) (er.step s1 ok1)) k1, f.px er.z (Same.refl _)⟩
/-! x[i] = v, of a list of its own -/
def mSetIx (j : Nat) (mi mv : MEt) : MSt := fun env Ks => ownL env j fun p ds => mv (lendE env) (fun dv => flatD dv = true ∧ mi (lendE env) (fun di => match di with
  | .int k => (match ixN ds.length k with
    | some n => Ks.nx (env.set j (some (.own p (.lst (ds.set n dv)))))
    | none => False)
  | _ => False) Ks.ex) Ks.ex
theorem ms_setIx (j : Nat) {x : Str} {value : Expr} {xp sp : Pos} (hN : X.N[j]? = some x := by rfl) (hv : Vis X.env.scope x := by first | exact Or.inl rfl | exact Or.inr (Or.inl rfl) | exact Or.inr (Or.inr rfl)) (hd : (x == ("__debug__" : Str)) = false := by decide) (hcd : (x == ("__classdict__" : Str)) = false := by decide)
    (hi : ME X C E i mi) (he : ME X C E value mv)
    (ha : ∀ v, assign (.Subscript (.Name x xp) i sp) X.env v = (do
      let ov ← holding [v] (eval (.Name x xp) X.env)
      let iv ← holding [v, ov] (eval i X.env)
      standAt sp
      holding [v, ov, iv] (setItem ov iv v)
      release [v, ov, iv] []) := by intro _; rfl)
    (hs : swapsWithSole [.Subscript (.Name x xp) i sp] value pos.line X.env = pure false := by rfl) (hw : swappedStores [.Subscript (.Name x xp) i sp] value X.env = pure none := by rfl)
    (h1 : (assignEach [.Subscript (.Name x xp) i sp] X.env).map (·.2) = [assign (.Subscript (.Name x xp) i sp) X.env] := by rfl) :
    MS X C E fr B (.Assign [.Subscript (.Name x xp) i sp] value pos) (mSetIx j mi mv) := fun G0 => PS.imp (ps_asg he (pg_sub (pe_var hN hv hd hcd) hi set_list ha) hs hw h1) fun En σ H ⟨env, G, Ks, er, hm, f⟩ => by
  obtain ⟨q, ds, hq, hm⟩ := ownL_inv hm
  refine ⟨lendE env, _, _, Ks.ex, er.lend.1, er.lend.2, hm, fun dv v H1 G1 s1 ok1 r1 k1 => ?_, f.px er.z gLend_ge⟩
  obtain ⟨fl, k1⟩ := k1
  have er1 := er.back s1 ok1
  refine ⟨.ref q, (er1.own j q _ hq).1, lendE env, _, _, Ks.ex, er1.lend.1, er1.lend.2, k1, fun di iv H2 G2 s2 ok2 r2 k2 => ?_, f.px er1.z gLend_ge⟩
  have er2 := er1.back s2 ok2
  obtain ⟨_, _, _, _, ob2, h5, h6⟩ := er2.own j q _ hq
  obtain ⟨k, rfl, rfl⟩ : ∃ k, di = .int k ∧ iv = .int k := by cases r2 <;> first | exact k2.elim | exact ⟨_, rfl, rfl⟩
  dsimp only at k2
  cases h6 with
  | lst rl =>
    cases qn : ixN ds.length k with
    | none => rw [qn] at k2; exact k2.elim
    | some n =>
      rw [qn] at k2
      exact ⟨q, _, k, n, rfl, rfl, h5, by rw [← rl.length]; exact qn, f.nx _ _ _ G (er2.write hq (.lst (Rps.set (r1.anyG fl) n rl))) k2⟩
/-! d[k] = v, of a dict of its own -/
def mSetK (j : Nat) (mi mv : MEt) : MSt := fun env Ks => ownK env j fun p kvs => mv (lendE env) (fun dv => flatD dv = true ∧ mi (lendE env) (fun di => match di with
  | .int k => kvs.length < sizeLine ∧ Ks.nx (env.set j (some (.own p (.dic (putD kvs k dv)))))
  | _ => False) Ks.ex) Ks.ex
theorem ms_setK (j : Nat) {x : Str} {value : Expr} {xp sp : Pos} (hu : X.A.units + 1 < cLine) (hN : X.N[j]? = some x := by rfl) (hv : Vis X.env.scope x := by first | exact Or.inl rfl | exact Or.inr (Or.inl rfl) | exact Or.inr (Or.inr rfl)) (hd : (x == ("__debug__" : Str)) = false := by decide) (hcd : (x == ("__classdict__" : Str)) = false := by decide)
    (hi : ME X C E i mi) (he : ME X C E value mv) (hs : swapsWith value (some (.Subscript (.Name x xp) i sp)) pos.line X.env = pure false := by rfl) :
    MS X C E fr B (.Assign [.Subscript (.Name x xp) i sp] value pos) (mSetK j mi mv) := fun G0 => PS.imp (ps_dput hu (pe_var hN hv hd hcd) hi he hs) fun En σ H ⟨env, G, Ks, er, hm, f⟩ => by
  obtain ⟨q, kvs, hq, hm⟩ := ownK_inv hm
  refine ⟨lendE env, _, _, Ks.ex, er.lend.1, er.lend.2, hm, fun dv v H1 G1 s1 ok1 r1 k1 => ?_, f.px er.z gLend_ge⟩
  obtain ⟨fl, k1⟩ := k1
  have er1 := er.back s1 ok1
  refine ⟨.ref q, (er1.own j q _ hq).1, lendE env, _, _, Ks.ex, er1.lend.1, er1.lend.2, k1, fun di iv H2 G2 s2 ok2 r2 k2 => ?_, f.px er1.z gLend_ge⟩
  have er2 := er1.back s2 ok2
  obtain ⟨_, _, _, _, ob2, h5, h6⟩ := er2.own j q _ hq
  obtain ⟨k, rfl, rfl⟩ : ∃ k, di = .int k ∧ iv = .int k := by cases r2 <;> first | exact k2.elim | exact ⟨_, rfl, rfl⟩
  dsimp only at k2
  cases h6 with
  | dic rl => exact ⟨q, _, rfl, DPut.k (k := Sum.inl k) h5 (by rw [← rl.length]; exact k2.1), f.nx _ _ _ G (er2.write hq (.dic (RpK.put (r1.anyG fl) rl))) k2.2⟩
/-! x.append(e), extend, remove, clear, of a list of its own -/
def mAppend (j : Nat) (m : MEt) : MSt := fun env Ks => ownL env j fun p ds => m (viewE env) (fun d => ds.length < sizeLine ∧ Ks.nx (env.set j (some (.own p (.lst (ds ++ [d])))))) Ks.ex
theorem ms_append (j : Nat) {x : Str} {xp cp : Pos} (hN : X.N[j]? = some x := by rfl) (hv : Vis X.env.scope x := by first | exact Or.inl rfl | exact Or.inr (Or.inl rfl) | exact Or.inr (Or.inr rfl)) (hd : (x == ("__debug__" : Str)) = false := by decide) (hcd : (x == ("__classdict__" : Str)) = false := by decide)
    (h : PS X (.Expr (.Call (.Attribute (.Name x xp) "append" apos) [e] [] cp) pos) (tDrop (tBM X.K "list" rAppend (tVar j) (tCons (lift C X.mg E m) tNil)))) : MS X C E fr B (.Expr (.Call (.Attribute (.Name x xp) "append" apos) [e] [] cp) pos) (mAppend j m) := fun G0 => PS.imp h fun En σ H ⟨env, G, Ks, er, hm, f⟩ => by
  obtain ⟨q, ds, hq, hm⟩ := ownL_inv hm
  obtain ⟨h1, h2, h3, h4, ob, h5, h6⟩ := er.own j q _ hq
  cases h6 with
  | lst rl =>
    refine ⟨.ref q, h1, .inl ⟨rfl, _, .inl (.inl h5)⟩, viewE env, G, _, Ks.ex, er.z.ok, er.vr, hm, fun d v H1 G1 s1 ok1 r1 k1 => ?_, f.px er.z (Same.refl _)⟩
    have er1 := er.step s1 ok1
    refine ⟨q, _, v, rfl, rfl, s1.nh q _ h2 h5, by rw [← rl.length]; exact k1.1, f.nx _ _ _ G1 (er1.write hq (.lst ((rl.mono s1.ge).append (.cons r1 .nil)))) k1.2⟩
def mExtend (j : Nat) (m : MEt) : MSt := fun env Ks => ownL env j fun p ds => m (viewE env) (fun d => match d with
  | .lst es => ds.length + es.length ≤ sizeLine ∧ Ks.nx (env.set j (some (.own p (.lst (ds ++ es)))))
  | _ => False) Ks.ex
theorem ms_extend (j : Nat) {x : Str} {xp cp : Pos} (hN : X.N[j]? = some x := by rfl) (h : PS X (.Expr (.Call (.Attribute (.Name x xp) "extend" apos) [e] [] cp) pos) (tDrop (tBM X.K "list" rExtend (tVar j) (tCons (lift C X.mg E m) tNil)))) : MS X C E fr B (.Expr (.Call (.Attribute (.Name x xp) "extend" apos) [e] [] cp) pos) (mExtend j m) := fun G0 => PS.imp h fun En σ H ⟨env, G, Ks, er, hm, f⟩ => by
  obtain ⟨q, ds, hq, hm⟩ := ownL_inv hm
  obtain ⟨h1, h2, h3, h4, ob, h5, h6⟩ := er.own j q _ hq
  cases h6 with
  | lst rl =>
    refine ⟨.ref q, h1, .inl ⟨rfl, _, .inl (.inl h5)⟩, viewE env, G, _, Ks.ex, er.z.ok, er.vr, hm, fun d v H1 G1 s1 ok1 r1 k1 => ?_, f.px er.z (Same.refl _)⟩
    have er1 := er.step s1 ok1
    cases r1 <;> first | exact (show False from k1).elim | skip
    rename_i ha ra
    exact ⟨q, _, _, _, rfl, rfl, s1.nh q _ h2 h5, (ok1.sub _ _ ha).2, by rw [← rl.length, ← ra.length]; exact k1.1, f.nx _ _ _ G1 (er1.write hq (.lst ((rl.mono s1.ge).append ra))) k1.2⟩
def mRemove (j : Nat) (m : MEt) : MSt := fun env Ks => ownL env j fun p ds => m (lendE env) (fun d => match d with
  | .int k => (match intsOf ds with
    | some ns => k ∈ ns ∧ Ks.nx (env.set j (some (.own p (.lst ((ns.erase k).map D.int)))))
    | none => False)
  | _ => False) Ks.ex
theorem ms_remove (j : Nat) {x : Str} {xp cp : Pos} (hN : X.N[j]? = some x := by rfl) (h : PS X (.Expr (.Call (.Attribute (.Name x xp) "remove" apos) [e] [] cp) pos) (tDrop (tBM X.K "list" rRemI (tVar j) (tCons (lift C X.mg E m) tNil)))) : MS X C E fr B (.Expr (.Call (.Attribute (.Name x xp) "remove" apos) [e] [] cp) pos) (mRemove j m) := fun G0 => PS.imp h fun En σ H ⟨env, G, Ks, er, hm, f⟩ => by
  obtain ⟨q, ds, hq, hm⟩ := ownL_inv hm
  obtain ⟨h1, h2, h3, h4, ob, h5, h6⟩ := er.own j q _ hq
  cases h6 with
  | lst rl =>
    refine ⟨.ref q, h1, .inl ⟨rfl, _, .inl (.inl h5)⟩, lendE env, _, _, Ks.ex, er.lend.1, er.lend.2, hm, fun d v H1 G1 s1 ok1 r1 k1 => ?_, f.px er.z gLend_ge⟩
    have er1 := er.back s1 ok1
    obtain ⟨k, rfl, rfl⟩ : ∃ k, d = .int k ∧ v = .int k := by cases r1 <;> first | exact (show False from k1).elim | exact ⟨_, rfl, rfl⟩
    dsimp only at k1
    cases qi : intsOf ds with
    | none => rw [qi] at k1; exact k1.elim
    | some ns =>
      rw [qi] at k1
      obtain ⟨km, k1⟩ := k1
      have e1 := intsOf_eq qi
      subst e1
      have e2 := rl.ints
      subst e2
      obtain ⟨jj, j1, j2, j3, j4⟩ := first_at km
      refine ⟨q, ns, k, jj, rfl, rfl, s1.nh q _ h2 h5, j2, j3, ?_⟩
      rw [j4]
      exact f.nx _ _ _ G (er1.write hq (.lst (Rps.ofInts _))) k1
def mClear (j : Nat) : MSt := fun env Ks => ownL env j fun p _ => Ks.nx (env.set j (some (.own p (.lst []))))
theorem ms_clear (j : Nat) {x : Str} {xp cp : Pos} (hN : X.N[j]? = some x := by rfl) (h : PS X (.Expr (.Call (.Attribute (.Name x xp) "clear" apos) [] [] cp) pos) (tDrop (tBM0 X.K "list" rClear (tVar j)))) : MS X C E fr B (.Expr (.Call (.Attribute (.Name x xp) "clear" apos) [] [] cp) pos) (mClear j) := fun G0 => PS.imp h fun En σ H ⟨env, G, Ks, er, hm, f⟩ => by
  obtain ⟨q, ds, hq, hm⟩ := ownL_inv hm
  obtain ⟨h1, h2, h3, h4, ob, h5, h6⟩ := er.own j q _ hq
  cases h6 with
  | lst rl => exact ⟨.ref q, h1, .inl ⟨rfl, _, .inl (.inl h5)⟩, q, _, rfl, rfl, h5, f.nx _ _ _ G (er.write hq (.lst .nil)) hm⟩
/-! raise -/
def mRaise (x : Str) : MSt := fun _ Ks => Ks.ex ⟨x, none⟩
theorem ms_raise {x : Str} {e : Expr} {A : Addr} (hc : X.calm = true) (tk : Takes X (fun cls d _ H => E cls d H)) (he : PMk X e (fun _ H Q => Q (.ref A) none H)) (g : X.mg x = some (.ref A)) : MS X C E fr B (.Raise (some e) none pos) (mRaise x) := fun G0 => PS.imp (ps_raise hc tk he) fun En σ H ⟨env, G, Ks, er, hm, f⟩ =>
  f.ex ⟨x, none⟩ (.ref A) none H hm er.z.keep (fun a o q => (er.z.ok.sub a o (er.z.g0 a o q)).2) er.z.ok.iv ⟨A, g, rfl, rfl⟩
end

/-! ### a def's promise -/
abbrev Spec := Option Addr → List D → (D → Prop) → (Exn → Prop) → Prop
def PostR (fr : Bool) (C : C3) (H G : Hp) (Kd : D → Prop) (Q : VK) : Prop := match fr with
  | false => PostV C H G Kd Q
  | true => PostF C H G Kd Q
def LSp (K : PySem.W.Frag) (mg : Str → Option Value) (fr : Bool) (n : Nat) (spec : Spec) : Sp := fun vs H Q E => ∃ (st : Option (Addr × Addr × List Int)) (fix : List (Addr × HO)) (tabs : List (Addr × Str)) (ds : List D) (G : Hp) (Kd : D → Prop) (KX : Exn → Prop),
  Ok3 ⟨K, st, fix, tabs⟩ H G ∧ Rps K G ds vs ∧ ds.length = n ∧ spec (st.map (·.1)) ds Kd KX ∧ PostR fr ⟨K, st, fix, tabs⟩ H G Kd Q ∧ PostX ⟨K, st, fix, tabs⟩ mg H G KX E
def startS (N : Nat) (ds : List D) : EnvS := ds.map (fun d => some (.sh d)) ++ List.replicate (N - ds.length) none
theorem fn_l3 {P : Program} {w : World} {K : PySem.W.Frag} {mg : Str → Option Value} {base : Heap} {x qual : Str} {st : Stmt} {f : Addr} {fd : FuncData} {N ps : List Str} {k n : Nat} {fr : Bool} {spec : Spec} (F : Fun K x qual st f fd) (S : FnScope N ps (defScope st)) (hn : ps.length = n) (m : Option Addr → MSt)
    (der : ∀ (s0 : Option (Addr × Addr × List Int)) (fix : List (Addr × HO)) (tabs : List (Addr × Str)) (B : Hp) (cdv : Value) (A : Around) (outer : List Env) (s : Shared) (H : Hp) (E : XK), Room k (A.deeper (envOfC qual (defScope st) s.heap.objs.size f cdv)) →
      MSs (cxOf (L2.CX P w) P w K mg base N qual (defScope st) f cdv A outer s H E) ⟨K, s0, fix, tabs⟩ E fr B (defBody st) (m (s0.map (·.1))))
    (pure : ∀ (sa : Option Addr) (ds : List D) (Kd : D → Prop) (KX : Exn → Prop), ds.length = n → spec sa ds Kd KX → m sa (startS N.length ds) { nx := fun _ => fr = false ∧ Kd .non, rt := Kd, ex := KX }) :
    FnOk P w K mg base (L2.CX P w) (k + 1) f fd ps (LSp K mg fr n spec) := by
  refine F.okX S (fun vs H Q E h => ?_) (fun cdv A outer s H vs Q E hr h => ?_)
  · obtain ⟨st, fix, tabs, ds, G, Kd, KX, ok, r, hl, _⟩ := h
    rw [← r.length, hl, hn]
  · obtain ⟨s0, fix, tabs, ds, G, Kd, KX, ok, r, hl, hs, pv, px⟩ := h
    refine ⟨_, der s0 fix tabs (nT H) cdv A outer s H E hr G, startS N.length ds, G, _, ?_, pure _ ds Kd KX hl hs, ?_⟩
    · have elen : ds.length = vs.length := r.length
      refine ⟨⟨ok, Same.refl _, fun a o h h' => absurd (h.symm.trans h') (fun z => nomatch z), fun _ _ _ h => h⟩, ?_, fun i d h => ?_, fun i p d h => ?_, fun i j p d e h _ => ?_⟩
      · unfold startS L2.start
        simp [elen]
      · unfold startS at h
        rw [List.getElem?_append] at h
        by_cases c : i < ds.length
        · rw [if_pos (by simpa using c), List.getElem?_map] at h
          cases q : ds[i]? with
          | none => rw [q] at h; cases h
          | some e =>
            rw [q] at h
            have h : some (some (Slot.sh e)) = some (some (Slot.sh d)) := h
            cases h
            obtain ⟨v, h1, h2⟩ := r.get q
            refine ⟨v, ?_, h2⟩
            unfold L2.start
            rw [List.getElem?_append, if_pos (by simpa [← elen] using c), List.getElem?_map, h1]
            rfl
        · rw [if_neg (by simpa using c), List.getElem?_replicate] at h
          split at h <;> cases h
      · exact absurd h (by
          unfold startS
          rw [List.getElem?_append]
          split
          · rw [List.getElem?_map]
            cases ds[i]? <;> intro z <;> cases z
          · rw [List.getElem?_replicate]
            split <;> intro z <;> cases z)
      · exact absurd h (by
          unfold startS
          rw [List.getElem?_append]
          split
          · rw [List.getElem?_map]
            cases ds[i]? <;> intro z <;> cases z
          · rw [List.getElem?_replicate]
            split <;> intro z <;> cases z)
    · refine ⟨fun env σ H' G' er k => ?_, fun _ _ _ _ _ k => k.elim, fun _ _ _ _ _ k => k.elim, fun d v H' G' z rr k => ?_, fun x cls d H' k h1 h2 iv r => ?_⟩
      · obtain ⟨e, k⟩ := k
        subst e
        exact pv .non .non H' G' ⟨er.z.keep, er.z.g0, er.z.fr⟩ er.z.ok .non k
      · cases fr with
        | false => exact pv d v H' G' ⟨z.keep, z.g0, z.fr⟩ z.ok rr k
        | true =>
          obtain ⟨p, o, e, hb, hg, ho, sp, ob⟩ := rr
          subst e
          exact pv d p o H' G' ⟨z.keep, z.g0, z.fr⟩ z.ok hb hg ho sp ob k
      · exact px x cls d H' k ⟨h1, Same.refl _, fun a o h h' => absurd (h.symm.trans h') (fun z => nomatch z)⟩ ⟨iv, fun a o q => ⟨(ok.sub a o q).1, h2 a o q⟩, ok.nt⟩ r

/-! ### a call of a def -/
/-- a def that stands at the name x, with its promise -/
structure Df (P : Program) (w : World) (K : PySem.W.Frag) (mg : Str → Option Value) (base : Heap) (x : Str) (k : Nat) (fr : Bool) (n : Nat) (spec : Spec) : Prop where
  ex : ∃ (f : Addr) (fd : FuncData) (ps : List Str), FnOk P w K mg base (L2.CX P w) k f fd ps (LSp K mg fr n spec) ∧ mg x = some (.ref f) ∧ PySem.W.keepIn K (.ref f) = true ∧ L2.Binds K fd ps []
def mCallU (sa : Option Addr) (spec : Spec) (r : MAt) : MEt := fun env Kd KX => r env (fun ds => spec sa ds Kd KX) KX
section
variable {X : Cx} {E : XK} {e : Expr} {es : List Expr} {r : MAt} {pos p : Pos} {s0 : Option (Addr × Addr × List Int)} {fix : List (Addr × HO)} {tabs : List (Addr × Str)} {K : PySem.W.Frag}
theorem call_post {fr : Bool} {n : Nat} {spec : Spec} {f : Addr} {fd : FuncData} {ps : List Str} {k : Nat} {H G : Hp} {ds : List D} {vs : List V} {Kd : D → Prop} {KX : Exn → Prop} {Q : VK} (F : FnOk X.prog X.w X.K X.mg X.base (L2.CX X.prog X.w) k f fd ps (LSp X.K X.mg fr n spec)) (ok : Ok3 ⟨X.K, s0, fix, tabs⟩ H G) (rr : Rps X.K G ds vs)
    (hs : spec (s0.map (·.1)) ds Kd KX) (hl : ds.length = n) (pv : PostR fr ⟨X.K, s0, fix, tabs⟩ H G Kd Q) (px : PostX ⟨X.K, s0, fix, tabs⟩ X.mg H G KX E) : LSp X.K X.mg fr n spec (vs ++ []) H Q E := by
  rw [List.append_nil]
  exact ⟨s0, fix, tabs, ds, G, Kd, KX, ok, rr, hl, hs, pv, px⟩
theorem me_call {x : Str} {k n : Nat} {spec : Spec} (F : Df X.prog X.w X.K X.mg X.base x k false n spec) (hr : Room k X.A) (hg : Gl X x) (hx : Passes (L2.CX X.prog X.w) X E) (hn : (e :: es).length = n) (ha : MA X ⟨X.K, s0, fix, tabs⟩ E (e :: es) r)
    (hdb : (x == ("__debug__" : Str)) = false := by decide) (he : starEach (e :: es) X.env = (false, eval e X.env) :: starEach es X.env := by rfl) (hpl : (backTo pos (starEach es X.env)).any (·.1) = false := by rfl) :
    ME X ⟨X.K, s0, fix, tabs⟩ E (.Call (.Name x p) (e :: es) [] pos) (mCallU (s0.map (·.1)) spec r) := by
  obtain ⟨f, fd, ps, F, hm, hk, hb⟩ := F.ex
  refine PE.imp (pe_call F hr hg hm hk hb .nil hx ha hdb he hpl) fun σ H Q ⟨env, G, Kd, KX, ok, vr, hm, pv, px⟩ => ?_
  exact ⟨env, G, _, KX, ok, vr, hm, fun ds vs H1 G1 s1 ok1 r1 n1 k1 => call_post (fr := false) F ok1 r1 k1 (n1.trans hn) (pv.on s1) (px.on ok s1), px⟩
theorem mf_call {x : Str} {k n : Nat} {spec : Spec} (F : Df X.prog X.w X.K X.mg X.base x k true n spec) (hr : Room k X.A) (hg : Gl X x) (hx : Passes (L2.CX X.prog X.w) X E) (hn : (e :: es).length = n) (ha : MA X ⟨X.K, s0, fix, tabs⟩ E (e :: es) r)
    (hdb : (x == ("__debug__" : Str)) = false := by decide) (he : starEach (e :: es) X.env = (false, eval e X.env) :: starEach es X.env := by rfl) (hpl : (backTo pos (starEach es X.env)).any (·.1) = false := by rfl) :
    MF X ⟨X.K, s0, fix, tabs⟩ E (.Call (.Name x p) (e :: es) [] pos) (mCallU (s0.map (·.1)) spec r) := by
  obtain ⟨f, fd, ps, F, hm, hk, hb⟩ := F.ex
  refine PE.imp (pe_call F hr hg hm hk hb .nil hx ha hdb he hpl) fun σ H Q ⟨env, G, Kd, KX, ok, vr, hm, pv, px⟩ => ?_
  exact ⟨env, G, _, KX, ok, vr, hm, fun ds vs H1 G1 s1 ok1 r1 n1 k1 => call_post (fr := true) F ok1 r1 k1 (n1.trans hn) (pv.on s1) (px.on ok s1), px⟩
end
end L3
/-! L3i: the built-ins by name; what the top leaves free -/
namespace L3
open PySem PySem.Spec PyProof.Rows L2
/-- names of built-ins that the module does not bind -/
structure Free (mg : Str → Option Value) : Prop where
  len : mg "len" = none
  set : mg "set" = none
  dict : mg "dict" = none
  range : mg "range" = none
  sorted : mg "sorted" = none
  list : mg "list" = none
  tuple : mg "tuple" = none
  min : mg "min" = none
  max : mg "max" = none
  int : mg "int" = none
  str : mg "str" = none
  isinstance : mg "isinstance" = none
  bool : mg "bool" = none
  zip : mg "zip" = none
  enumerate : mg "enumerate" = none
section
variable {X : Cx} {C : C3} {E : XK} {e a b : Expr} {es : List Expr} {r : MAt} {m : MEt} {pos p p2 q : Pos} {mg : Str → Option Value}
theorem me_len (F : Free X.mg) (hK : X.K = C.K) (hg : Gl X "len") (ha : MA X C E [e] r) (he : starEach (e :: []) X.env = (false, eval e X.env) :: starEach [] X.env := by rfl) (hpl : (backTo pos (starEach [] X.env)).any (·.1) = false := by rfl) : ME X C E (.Call (.Name "len" p) [e] [] pos) (mCall lenD r) :=
  me_callB (by rw [← hK]; exact call_len.or call_lenF) cd_len hg F.len PySem.boot_len ha (by decide) (by decide) he hpl
theorem mf_sorted (F : Free X.mg) (hK : X.K = C.K) (hc : X.calm = true) (hg : Gl X "sorted") (ha : MA X C E [e] r) (he : starEach (e :: []) X.env = (false, eval e X.env) :: starEach [] X.env := by rfl) (hpl : (backTo pos (starEach [] X.env)).any (·.1) = false := by rfl) : MF X C E (.Call (.Name "sorted" p) [e] [] pos) (mCall sortedD r) :=
  mf_callB (by rw [← hK]; exact cr_sortedI.or (call_sortedDI hc)) cf_sorted hg F.sorted (by decide +kernel) ha (by decide) (by decide) he hpl
theorem mf_list (F : Free X.mg) (hK : X.K = C.K) (hg : Gl X "list") (ha : MA X C E [e] r) (he : starEach (e :: []) X.env = (false, eval e X.env) :: starEach [] X.env := by rfl) (hpl : (backTo pos (starEach [] X.env)).any (·.1) = false := by rfl) : MF X C E (.Call (.Name "list" p) [e] [] pos) (mCall listD r) :=
  mf_callTy (by rw [← hK]; exact call_list_of) cf_list hg F.list (by decide +kernel) ha (by decide) (by decide) he hpl
theorem me_tuple (F : Free X.mg) (hK : X.K = C.K) (hg : Gl X "tuple") (ha : MA X C E [e] r) (he : starEach (e :: []) X.env = (false, eval e X.env) :: starEach [] X.env := by rfl) (hpl : (backTo pos (starEach [] X.env)).any (·.1) = false := by rfl) : ME X C E (.Call (.Name "tuple" p) [e] [] pos) (mCall tupleD r) :=
  me_callTy (by rw [← hK]; exact call_tupleN) cd_tuple hg F.tuple (by decide +kernel) ha (by decide) (by decide) he hpl
theorem me_max2 (F : Free X.mg) (hc : X.calm = true) (hg : Gl X "max") (ha : MA X C E [a, b] r) (he : starEach (a :: [b]) X.env = (false, eval a X.env) :: starEach [b] X.env := by rfl) (hpl : (backTo pos (starEach [b] X.env)).any (·.1) = false := by rfl) : ME X C E (.Call (.Name "max" p) [a, b] [] pos) (mCall (mm2 fun i j => if j > i then j else i) r) :=
  me_callB (call_max2 hc) (cd_mm2 _) hg F.max (by decide +kernel) ha (by decide) (by decide) he hpl
theorem me_min2 (F : Free X.mg) (hc : X.calm = true) (hg : Gl X "min") (ha : MA X C E [a, b] r) (he : starEach (a :: [b]) X.env = (false, eval a X.env) :: starEach [b] X.env := by rfl) (hpl : (backTo pos (starEach [b] X.env)).any (·.1) = false := by rfl) : ME X C E (.Call (.Name "min" p) [a, b] [] pos) (mCall (mm2 fun i j => if j < i then j else i) r) :=
  me_callB (call_min2 hc) (cd_mm2 _) hg F.min (by decide +kernel) ha (by decide) (by decide) he hpl
theorem me_minL (F : Free X.mg) (hK : X.K = C.K) (hc : X.calm = true) (hg : Gl X "min") (ha : MA X C E [e] r) (he : starEach (e :: []) X.env = (false, eval e X.env) :: starEach [] X.env := by rfl) (hpl : (backTo pos (starEach [] X.env)).any (·.1) = false := by rfl) : ME X C E (.Call (.Name "min" p) [e] [] pos) (mCall minL r) :=
  me_callB (by rw [← hK]; exact cr_min hc) cd_minL hg F.min (by decide +kernel) ha (by decide) (by decide) he hpl
theorem me_intB (F : Free X.mg) (hg : Gl X "int") (ha : MA X C E [e] r) (he : starEach (e :: []) X.env = (false, eval e X.env) :: starEach [] X.env := by rfl) (hpl : (backTo pos (starEach [] X.env)).any (·.1) = false := by rfl) : ME X C E (.Call (.Name "int" p) [e] [] pos) (mCall intD r) :=
  me_callTy (call_int1.or (fun pins s σ H xs us Q I rr ⟨a, n, e1, e2, e3, q⟩ => call_int_str pins s σ H xs us Q I rr ⟨a, n, e1, e2, e3, q⟩)) cd_int hg F.int (by decide +kernel) ha (by decide) (by decide) he hpl
theorem me_strI (F : Free X.mg) (hg : Gl X "str") (ha : MA X C E [e] r) (he : starEach (e :: []) X.env = (false, eval e X.env) :: starEach [] X.env := by rfl) (hpl : (backTo pos (starEach [] X.env)).any (·.1) = false := by rfl) : ME X C E (.Call (.Name "str" p) [e] [] pos) (mCall strD r) :=
  me_callTy call_str_int cd_str hg F.str (by decide +kernel) ha (by decide) (by decide) he hpl
theorem me_dictP (F : Free X.mg) (hK : X.K = C.K) (hc : X.calm = true) (hg : Gl X "dict") (ha : MA X C E [e] r) (he : starEach (e :: []) X.env = (false, eval e X.env) :: starEach [] X.env := by rfl) (hpl : (backTo pos (starEach [] X.env)).any (·.1) = false := by rfl) : ME X C E (.Call (.Name "dict" p) [e] [] pos) (mCall dictD r) :=
  me_dict hc hK hg F.dict ha he hpl
/-- len(set(xs)), a list of whole numbers -/
def mLenSet (m : MEt) : MEt := fun env Kd KX => m env (fun d => match d with
  | .lst xs => (match intsOf xs with
    | some ns => ns.length ≤ 4000 ∧ Kd (.int (dlen ns : Nat))
    | none => False)
  | _ => False) KX
theorem me_lenSet (F : Free X.mg) (hK : X.K = C.K) (hc : X.calm = true) (hg : Gl X "len") (hg2 : Gl X "set") (ha : ME X C E a m) (na : starEach [a] X.env = (false, eval a X.env) :: starEach [] X.env := by rfl) :
    ME X C E (.Call (.Name "len" p) [.Call (.Name "set" p2) [a] [] q] [] pos) (mLenSet m) := PE.imp (pe_lenSetG hg F.len hg2 F.set ha hc na) fun σ H Q ⟨env, G, Kd, KX, ok, vr, hm, pv, px⟩ => by
  refine ⟨env, G, _, KX, ok, vr, hm, fun d v H1 G1 s1 ok1 r1 k1 => ?_, px⟩
  cases r1 <;> first | exact (show False from k1).elim | skip
  rename_i h1 r1
  dsimp only at k1
  rename_i l vs ds
  cases qi : intsOf ds with
  | none => rw [qi] at k1; exact k1.elim
  | some ns =>
    rw [qi] at k1
    have e1 := intsOf_eq qi
    subst e1
    have e2 := r1.ints
    subst e2
    exact ⟨_, ns, rfl, .inl (.inl (ok1.sub _ _ h1).2), k1.1, pv _ _ H1 G1 s1 ok1 (.int _) k1.2⟩
/-- list(range(n)) -/
theorem mf_listRange (F : Free X.mg) (hc : X.calm = true) (hg : Gl X "list") (hg2 : Gl X "range") (ha : ME X C E a m) (na : starEach [.Call (.Name "range" p2) [a] [] q] X.env = (false, eval (.Call (.Name "range" p2) [a] [] q) X.env) :: starEach [] X.env := by rfl) (na2 : starEach [a] X.env = (false, eval a X.env) :: starEach [] X.env := by rfl) :
    MF X C E (.Call (.Name "list" p) [.Call (.Name "range" p2) [a] [] q] [] pos) (fun env Kd KX => m env (fun d => match d with | .int j => 0 ≤ j ∧ j ≤ 16777216 ∧ Kd (.lst ((List.range j.toNat).map fun i => .int (i : Nat))) | _ => False) KX) := PE.imp (pe_listRg hc hg F.list (prg_1 hg2 F.range ha na2) na) fun σ H Q ⟨env, G, Kd, KX, ok, vr, hm, pv, px⟩ => by
  refine ⟨env, G, _, KX, ok, vr, hm, fun d v H1 G1 s1 ok1 r1 k1 => ?_, px⟩
  obtain ⟨j, rfl, rfl⟩ : ∃ j, d = .int j ∧ v = .int j := by cases r1 <;> first | exact (show False from k1).elim | exact ⟨_, rfl, rfl⟩
  obtain ⟨h0, h1, k1⟩ := k1
  refine ⟨j, rfl, RgOk.of_le (by decide) h1 (by decide) h0, fun l hl => ?_⟩
  obtain ⟨o2, s2, g⟩ := ok1.new (o := .lst (rgV 0 j)) hl
  refine pv.on s1 _ l _ _ G1 s2 o2 (nT_none hl) g upd_same (ok1.iv.new hl) (.lst ?_) k1
  have e : rgV 0 j = ((List.range j.toNat).map fun i : Nat => ((i : Nat) : Int)).map V.int := by
    unfold rgV
    rw [List.map_map, Int.sub_zero]
    apply List.map_congr_left
    intro i _
    show V.int (0 + (i : Int)) = V.int (i : Int)
    rw [Int.zero_add]
  rw [e]
  have e2 : ((List.range j.toNat).map fun i => D.int (i : Nat)) = ((List.range j.toNat).map fun i : Nat => ((i : Nat) : Int)).map D.int := by rw [List.map_map]; rfl
  rw [e2]
  exact Rps.ofInts _
end
def mListRange (m : MEt) : MEt := fun env Kd KX => m env (fun d => match d with | .int j => 0 ≤ j ∧ j ≤ 16777216 ∧ Kd (.lst ((List.range j.toNat).map fun i => .int (i : Nat))) | _ => False) KX
section
variable {X : Cx} {C : C3} {E : XK} {e a b : Expr} {m : MEt} {mb mg' : MEt} {pos p p2 q : Pos}
theorem mf_cat (ha : ME X C E a m) (hb : ME X C E b mb) : MF X C E (.BinOp a .Add b pos) (m2 catD m mb) := mf_op op_cat of_cat ha hb
theorem me_add (hK : X.K = C.K) (ha : ME X C E a m) (hb : ME X C E b mb) : ME X C E (.BinOp a .Add b pos) (m2 addD m mb) := me_op (or_add hK) od_add ha hb
theorem me_sub (ha : ME X C E a m) (hb : ME X C E b mb) : ME X C E (.BinOp a .Sub b pos) (m2 subD m mb) := me_op op_sub od_sub ha hb
theorem me_mul (ha : ME X C E a m) (hb : ME X C E b mb) : ME X C E (.BinOp a .Mult b pos) (m2 mulD m mb) := me_op (op_mul.or op_rep) od_mul ha hb
theorem me_mod (ha : ME X C E a m) (hb : ME X C E b mb) : ME X C E (.BinOp a .Mod b pos) (m2 modD m mb) := me_op op_mod od_mod ha hb
theorem me_fdiv (ha : ME X C E a m) (hb : ME X C E b mb) : ME X C E (.BinOp a .FloorDiv b pos) (m2 fdivD m mb) := me_op op_fdivW od_fdiv ha hb
theorem me_pow (ha : ME X C E a m) (hb : ME X C E b mb) : ME X C E (.BinOp a .Pow b pos) (m2 powD m mb) := me_op op_pow od_pow ha hb
theorem pg_nm {i : Nat} {x : Str} (hN : X.N.Nodup) (hi : X.N[i]? = some x) (hx : Loc X.env.scope x) (hf : X.fn x = true ∨ X.env.scope.names.lookup x = some .local := by first | exact .inl rfl | exact .inr rfl | assumption) : PG X (.Name x pos) (gOf X.K (.nm i)) := pg_name hN hi hx hf
theorem pg_tp {es : List Expr} {k : Nat} {is : List Nat} (hc : X.calm = true) (h : PGs X es (gNames is))
    (hn : (assignEach es X.env).length = is.length := by rfl) (hst : (assignEach es X.env).findIdx? (·.1) = none := by rfl) : PG X (.Tuple es k pos) (gOf X.K (.tp is)) := pg_tup hc h hn hst
theorem pgs_nm {es : List Expr} {i : Nat} {is : List Nat} {x : Str} (hN : X.N.Nodup) (hi : X.N[i]? = some x) (hx : Loc X.env.scope x) (h2 : PGs X es (gNames is))
    (hf : X.fn x = true ∨ X.env.scope.names.lookup x = some .local := by first | exact .inl rfl | exact .inr rfl | assumption)
    (hs : (assignEach (.Name x p :: es) X.env).map (·.2) = assign (.Name x p) X.env :: (assignEach es X.env).map (·.2) := by rfl) : PGs X (.Name x p :: es) (gNames (i :: is)) := pgs_cons (pg_name hN hi hx hf) h2 hs
theorem pgs_no : PGs X [] (gNames []) := pgs_nil
end
end L3
/-! L3j: slices backwards, isinstance, pops, dicts of one's own -/
namespace L3
open PySem PySem.Spec PyProof.Rows L2
/-! ### xs[lo:hi:-1] of a list -/
def pickM {α : Type} (xs : List α) (lo hi : Option Int) : List α := (sliceRange (sliceBounds lo hi (some (-1)) xs.length).1 (sliceBounds lo hi (some (-1)) xs.length).2.1 (-1)).filterMap (xs[·]?)
theorem pick_len {α : Type} (xs : List α) : ∀ l : List Nat, (l.filterMap (xs[·]?)).length ≤ l.length := fun l => List.length_filterMap_le _ _
theorem Vals.pick {xs : List V} {us : List Value} (r : Vals xs us) : ∀ l : List Nat, Vals (l.filterMap (xs[·]?)) (l.filterMap (us[·]?))
  | [] => .nil
  | i :: l => by
    rw [List.filterMap_cons, List.filterMap_cons]
    cases q : xs[i]? with
    | none =>
      rw [r.none_of q]
      exact Vals.pick r l
    | some x =>
      obtain ⟨u, h1, h2⟩ := r.get q
      rw [h1]
      exact .cons h2 (Vals.pick r l)
theorem Rps.pick {K : PySem.W.Frag} {G : Hp} {ds : List D} {vs : List V} (r : Rps K G ds vs) : ∀ l : List Nat, Rps K G (l.filterMap (ds[·]?)) (l.filterMap (vs[·]?))
  | [] => .nil
  | i :: l => by
    rw [List.filterMap_cons, List.filterMap_cons]
    cases q : ds[i]? with
    | none =>
      rw [r.none_of q]
      exact Rps.pick r l
    | some d =>
      obtain ⟨v, h1, h2⟩ := r.get q
      rw [h1]
      exact .cons h2 (Rps.pick r l)
def tSlM (K : PySem.W.Frag) (te : TE) (tl th : TO) : TE := fun σ H Q => te σ H fun x H1 => tl σ H1 fun lo H2 => th σ H2 fun hi H3 => ∃ a xs, x = .ref a ∧ SqL K H3 a xs ∧ (pickM xs lo hi).length ≤ sizeLine ∧ ∀ p, H3 p = none → Q (.ref p) (upd H3 p (.lst (pickM xs lo hi)))
theorem sliceBounds_step (lo hi : Option Int) (n : Nat) : (sliceBounds lo hi (some (-1)) n).2.2 = -1 := rfl
theorem pe_slM {X : Cx} {e : Expr} {te : TE} {lo hi : Option Expr} {tl th : TO} {k : Nat} {p1 p2 p3 pos : Pos} (he : PE X e te) (hl : PO X lo tl) (hu : PO X hi th) :
    PE X (.Subscript e (.Slice lo hi (some (.UnaryOp .USub (.Constant (.int 1) k p1) p2)) p3) pos) (tSlM X.K te tl th) := by
  refine ⟨fun pins s σ H Q I h => ?_⟩
  refine Subscript_ (thn (he.run pins s σ H _ I h) fun v s1 ⟨x, H1, I1, r1, q1⟩ => ?_)
  have hst : PO X (some (.UnaryOp .USub (.Constant (.int 1) k p1) p2)) (tPart (tUn (rU fun i => .int (-i)) (tC (.int 1)))) := po_some (pe_un un_neg pe_int)
  refine wpAny_Slice (thn (hl.run pins s1 σ H1 _ I1 q1) fun vl s2 ⟨lo', H2, I2, pl, q2⟩ => ?_)
  refine thn (hu.run pins s2 σ H2 _ I2 q2) fun vu s3 ⟨hi', H3, I3, pu, q3⟩ => ?_
  refine thn (hst.run pins s3 σ H3 (fun o H4 => o = some (-1) ∧ H4 = H3) I3 ⟨1, rfl, -1, rfl, rfl, rfl⟩) fun vs s4 ⟨o, H4, I4, ps, eo, e4⟩ => ?_
  subst eo e4
  obtain ⟨a, xs, ex, hx, hz2, q⟩ := q3
  subst ex
  cases r1
  have I5 : Inv X pins σ H4 { s4 with heap := s4.heap.push { cls := .type "slice", data := .fields #[vl, vu, vs] } } := I4.kept (t' := s4.toks) fun b ob q => Heap.get?_push_of_some _ q
  obtain ⟨its, r, ht, hz⟩ := I5.list hx
  have hlen := r.length
  show wpAny (model X.prog X.w) X.A (subscriptTail e (.Slice lo hi (some (.UnaryOp .USub (.Constant (.int 1) k p1) p2)) p3) (.ref a) (.ref s4.heap.objs.size)) (EP X pins σ Q) X.xe { s4 with heap := s4.heap.push { cls := .type "slice", data := .fields #[vl, vu, vs] } }
  refine tail_any (ops := [.ref a, .ref s4.heap.objs.size]) ht.isList.typeIs (PySem.slot_list_getitem.lookup) ?_ (by with_unfolding_all rfl)
  refine wpAny_getItem_list_slice ht.isList (Heap.IsSliceOf.new _ vl vu vs) pl pu ps (by decide) ?_ (by rw [List.size_toArray]; omega)
  have e : slicePick its.toArray lo' hi' (some (-1)) = ((sliceRange (sliceBounds lo' hi' (some (-1)) xs.length).1 (sliceBounds lo' hi' (some (-1)) xs.length).2.1 (-1)).filterMap (its[·]?)).toArray := by
    unfold slicePick
    rw [List.size_toArray, ← hlen]
    simp only [List.getElem?_toArray]
    rfl
  rw [e]
  have rp := Vals.pick r (sliceRange (sliceBounds lo' hi' (some (-1)) xs.length).1 (sliceBounds lo' hi' (some (-1)) xs.length).2.1 (-1))
  refine ⟨.ref _, _, I5.laid (t' := s4.toks) (o := .lst (pickM xs lo' hi')) (fun b ob q => Heap.get?_push_of_some _ q) (Nat.le_refl _) ?_, rfl, q _ (I5.hok.fresh (Nat.le_refl _))⟩
  exact ⟨hz2, _, 0, rp, Heap.get?_push_size _ rfl⟩
section
variable {X : Cx} {C : C3} {E : XK} {e a b : Expr} {es : List Expr} {r : MAt} {m ma : MEt} {pos p p2 q : Pos} {mg : Str → Option Value}
def mSlM (ma : MEt) (ml mh : MOt) : MEt := fun env Kd KX => ma env (fun d => ml env (fun lo => mh env (fun hi => match d with
  | .lst xs => (pickM xs lo hi).length ≤ sizeLine ∧ Kd (.lst (pickM xs lo hi))
  | _ => False) KX) KX) KX
theorem mf_slM {lo hi : Option Expr} {k : Nat} {p1 p2 p3 : Pos} {ml mh : MOt} (hK : X.K = C.K) (ha : ME X C E a ma) (hl : MO X C E lo ml) (hh : MO X C E hi mh) : MF X C E (.Subscript a (.Slice lo hi (some (.UnaryOp .USub (.Constant (.int 1) k p1) p2)) p3) pos) (mSlM ma ml mh) :=
  PE.imp (pe_slM ha hl hh) fun σ H Q ⟨env, G, Kd, KX, ok, vr, hm, pv, px⟩ => by
  refine ⟨env, G, _, KX, ok, vr, hm, fun d x H1 G1 s1 ok1 r1 k1 => ⟨env, G1, _, KX, ok1, vr.mono s1.ge, k1, fun lo H2 G2 s2 ok2 k2 => ⟨env, G2, _, KX, ok2, vr.mono (s1.ge.trans s2.ge), k2, fun hi H3 G3 s3 ok3 k3 => ?_, px.on ok (s1.trans ok2 s2)⟩, px.on ok s1⟩, px⟩
  have s13 := s1.trans ok3 (s2.trans ok3 s3)
  obtain ⟨ds, rfl⟩ : ∃ ds, d = .lst ds := by cases d <;> first | exact (show False from k3).elim | exact ⟨_, rfl⟩
  cases r1 with | lst hd rd =>
  rename_i a vs
  have hd := s3.ge _ _ (s2.ge _ _ hd)
  have rd := (rd.mono s2.ge).mono s3.ge
  obtain ⟨kz, k3⟩ := k3
  have rp := Rps.pick rd (sliceRange (sliceBounds lo hi (some (-1)) ds.length).1 (sliceBounds lo hi (some (-1)) ds.length).2.1 (-1))
  have e : pickM vs lo hi = (sliceRange (sliceBounds lo hi (some (-1)) ds.length).1 (sliceBounds lo hi (some (-1)) ds.length).2.1 (-1)).filterMap (vs[·]?) := by
    unfold pickM
    rw [rd.length]
  rw [← e] at rp
  refine ⟨_, vs, rfl, .inl (.inl (ok3.sub _ _ hd).2), by rw [← rp.length]; exact kz, fun q hq => ?_⟩
  obtain ⟨o4, s4, g⟩ := ok3.new (o := .lst (pickM vs lo hi)) hq
  exact pv.on s13 _ q _ _ G3 s4 o4 (nT_none hq) g upd_same (ok3.iv.new hq) (.lst rp) k3
theorem pickM_from {α : Type} (xs : List α) (k : Nat) : pickM xs none (some (k : Int)) = (xs.drop (k + 1)).reverse := by
  unfold pickM
  have e1 : sliceBounds none (some (k : Int)) (some (-1)) xs.length = ((xs.length : Int) - 1, max (-1) (min (k : Int) ((xs.length : Int) - 1)), -1) := by
    have h : ¬ ((-1 : Int) > 0) := by decide
    have h2 : ¬ ((k : Int) < 0) := by omega
    simp only [sliceBounds, Option.getD_some, h, if_false, h2]
  rw [e1]
  dsimp only
  have e2 : sliceRange ((xs.length : Int) - 1) (max (-1) (min (k : Int) ((xs.length : Int) - 1))) (-1) = (List.range (xs.length - (k + 1))).map fun j => xs.length - 1 - j := by
    unfold sliceRange
    have h1 : ¬ ((-1 : Int) > 0) := by decide
    simp only [h1, if_false]
    by_cases h : k + 1 < xs.length
    · have c : (xs.length : Int) - 1 > max (-1) (min (k : Int) ((xs.length : Int) - 1)) := by omega
      have e : ((xs.length : Int) - 1 - max (-1) (min (k : Int) ((xs.length : Int) - 1)) - -1 - 1) / (- -1) = ((xs.length - (k + 1) : Nat) : Int) := by
        rw [show (- -1 : Int) = 1 by decide, Int.ediv_one]
        omega
      rw [if_pos c, e, Int.toNat_natCast]
      apply List.map_congr_left
      intro j hj
      have := List.mem_range.mp hj
      omega
    · have e0 : xs.length - (k + 1) = 0 := by omega
      rw [e0]
      by_cases c : (xs.length : Int) - 1 > max (-1) (min (k : Int) ((xs.length : Int) - 1))
      · omega
      · rw [if_neg c]
        rfl
  rw [e2]
  apply List.ext_getElem?
  intro i
  have hall : ∀ j ∈ List.range (xs.length - (k + 1)), xs[xs.length - 1 - j]? = ((xs.drop (k + 1)).reverse)[j]? := by
    intro j hj
    have hj := List.mem_range.mp hj
    rw [List.getElem?_reverse (by rw [List.length_drop]; omega), List.getElem?_drop, List.length_drop]
    congr 1
    omega
  have key : ∀ (l : List Nat) (ys : List α), (∀ j ∈ l, xs[xs.length - 1 - j]? = ys[j]?) → (l.map fun j => xs.length - 1 - j).filterMap (xs[·]?) = l.filterMap (ys[·]?) := by
    intro l ys
    induction l with
    | nil => intro _; rfl
    | cons j l ih =>
      intro h
      rw [List.map_cons, List.filterMap_cons, List.filterMap_cons, h j List.mem_cons_self, ih fun j hj => h j (List.mem_cons_of_mem _ hj)]
  rw [key _ _ hall]
  have rg : ∀ (ys : List α), (List.range ys.length).filterMap (ys[·]?) = ys := by
    intro ys
    have h := PySem.W.krv_all ys.toArray
    simpa using h
  have hl : xs.length - (k + 1) = ((xs.drop (k + 1)).reverse).length := by rw [List.length_reverse, List.length_drop]
  rw [hl, rg]
theorem pickM_all {α : Type} (xs : List α) : pickM xs none none = xs.reverse := by
  have h := PySem.W.krv_bounds xs.length
  unfold pickM
  rw [h]
  dsimp only
  rw [PySem.W.krv_sliceRange, PySem.W.krv_range, List.filterMap_reverse]
  congr 1
  have h := PySem.W.krv_all xs.toArray
  simpa using h

/-! ### isinstance -/
def tyN : D → Option String
  | .non => some "NoneType"
  | .bl _ => some "bool"
  | .int _ => some "int"
  | .str _ => some "str"
  | .lst _ => some "list"
  | .tup _ => some "tuple"
  | .dic _ => some "dict"
  | .ref _ => none
def isTy (T : String) (d : D) : Option Bool := (tyN d).bind fun t => kitB t T
theorem ty_rp {H G : Hp} {d : D} {v : V} {t : String} (ok : Ok3 C H G) (r : Rp C.K G d v) (h : tyN d = some t) : TyX C.K H v (.type t) := by
  cases r with
  | non => cases h; exact .base .non
  | bl b => cases h; exact .base (.bl b)
  | int i => cases h; exact .base (.int i)
  | str x => cases h; exact .base (.str x)
  | ref a => cases h
  | lst ha _ => cases h; exact .base (.lst (ok.sub _ _ ha).2)
  | tup ha _ =>
    cases h
    rcases ha with ⟨o, ha, _⟩ | ⟨o, its, n, h1, h2, _⟩
    · exact .fTuple (ok.sub _ _ ha).2
    · exact .kTuple h1 h2
  | dic ha _ => cases h; exact .fDict (ok.sub _ _ ha).2
@[irreducible] def isiD (T : String) (d : D) (Kd : D → Prop) : Prop := match isTy T d with
  | some b => Kd (.bl b)
  | none => False
theorem isiD_go {T : String} {d : D} {Kd : D → Prop} {b : Bool} (h : isTy T d = some b) (k : Kd (.bl b)) : isiD T d Kd := by
  unfold isiD
  rw [h]
  exact k
def mIsI (T : String) (m : MEt) : MEt := fun env Kd KX => m env (fun d => isiD T d Kd) KX
theorem me_isi {T : String} {x : Str} {tp : Pos} (F : Free X.mg) (hK : X.K = C.K) (hg : Gl X "isinstance") (ha : ME X C E a ma) (hx : Gl X x) (hm : X.mg x = none) (hb : bootBuiltins x = some (.type T)) (hn : x ≠ "__name__" := by decide) (hdb : (x == ("__debug__" : Str)) = false := by decide)
    (h1 : starEach [a, .Name x tp] X.env = (false, eval a X.env) :: starEach [.Name x tp] X.env := by rfl) (h2 : starEach [.Name x tp] X.env = (false, eval (.Name x tp) X.env) :: starEach [] X.env := by rfl) (hpl : (backTo pos (starEach [.Name x tp] X.env)).any (·.1) = false := by rfl) :
    ME X C E (.Call (.Name "isinstance" p) [a, .Name x tp] [] pos) (mIsI T ma) :=
  PE.imp (pe_callB call_isi hg F.isinstance PyProof.Rows.boot_isinstance (pa_cons ha (pa_cons (pe_bltn (v := .ty T) hx hm hb rfl hn hdb) pa_nil h2) h1) (by decide) (by decide) h1 hpl) fun σ H Q ⟨env, G, Kd, KX, ok, vr, hm, pv, px⟩ => by
  refine ⟨env, G, _, KX, ok, vr, hm, fun d v H1 G1 s1 ok1 r1 k1 => ?_, px⟩
  unfold isiD at k1
  dsimp only at k1
  split at k1
  · rename_i b q
    unfold isTy at q
    cases q2 : tyN d with
    | none => rw [q2] at q; cases q
    | some t =>
      rw [q2] at q
      exact ⟨v, .ty T, .type t, .type T, b, rfl, .ty T, by rw [hK]; exact ty_rp ok1 r1 q2, kit_ty q, pv _ _ H1 G1 s1 ok1 (.bl b) k1⟩
  · exact k1.elim
/-- isinstance(x, (S, T)) -/
@[irreducible] def isi2D (S T : String) (d : D) (Kd : D → Prop) : Prop := match isTy S d, isTy T d with
  | some b, some c => Kd (.bl (b || c))
  | _, _ => False
theorem isi2D_go {S T : String} {d : D} {Kd : D → Prop} {b c : Bool} (h : isTy S d = some b) (h2 : isTy T d = some c) (k : Kd (.bl (b || c))) : isi2D S T d Kd := by
  unfold isi2D
  rw [h, h2]
  exact k
def mIsI2 (S T : String) (m : MEt) : MEt := fun env Kd KX => m env (fun d => isi2D S T d Kd) KX
theorem me_isi2 {S T : String} {x y : Str} {tp tq ttp : Pos} {k : Nat} (F : Free X.mg) (hK : X.K = C.K) (hg : Gl X "isinstance") (ha : ME X C E a ma) (hx : Gl X x) (hm : X.mg x = none) (hb : bootBuiltins x = some (.type S)) (hy : Gl X y) (hm2 : X.mg y = none) (hb2 : bootBuiltins y = some (.type T)) (hn : x ≠ "__name__" := by decide) (hn2 : y ≠ "__name__" := by decide) (hdb : (x == ("__debug__" : Str)) = false := by decide) (hdb2 : (y == ("__debug__" : Str)) = false := by decide)
    (h1 : starEach [a, .Tuple [.Name x tp, .Name y tq] k ttp] X.env = (false, eval a X.env) :: starEach [.Tuple [.Name x tp, .Name y tq] k ttp] X.env := by rfl) (h2 : starEach [.Tuple [.Name x tp, .Name y tq] k ttp] X.env = (false, eval (.Tuple [.Name x tp, .Name y tq] k ttp) X.env) :: starEach [] X.env := by rfl) (hpl : (backTo pos (starEach [.Tuple [.Name x tp, .Name y tq] k ttp] X.env)).any (·.1) = false := by rfl)
    (h3 : starEach [.Name x tp, .Name y tq] X.env = (false, eval (.Name x tp) X.env) :: starEach [.Name y tq] X.env := by rfl) (h4 : starEach [.Name y tq] X.env = (false, eval (.Name y tq) X.env) :: starEach [] X.env := by rfl) :
    ME X C E (.Call (.Name "isinstance" p) [a, .Tuple [.Name x tp, .Name y tq] k ttp] [] pos) (mIsI2 S T ma) :=
  PE.imp (pe_callB call_isiT hg F.isinstance PyProof.Rows.boot_isinstance (pa_cons ha (pa_cons (pe_tup (pa_cons (pe_bltn (v := .ty S) hx hm hb rfl hn hdb) (pa_cons (pe_bltn (v := .ty T) hy hm2 hb2 rfl hn2 hdb2) pa_nil h4) h3)) pa_nil h2) h1) (by decide) (by decide) h1 hpl) fun σ H Q ⟨env, G, Kd, KX, ok, vr, hm, pv, px⟩ => by
  refine ⟨env, G, _, KX, ok, vr, hm, fun d v H1 G1 s1 ok1 r1 k1 => ?_, px⟩
  refine ⟨by show 2 ≤ sizeLine; decide, fun tq hq => ?_⟩
  unfold isi2D at k1
  dsimp only at k1
  split at k1
  · rename_i b c q q'
    obtain ⟨o2, s2⟩ := ok1.lay (o := .tup [.ty S, .ty T]) hq
    unfold isTy at q q'
    cases q2 : tyN d with
    | none => rw [q2] at q; cases q
    | some t =>
      rw [q2] at q q'
      have sS := s1.trans o2 s2
      refine ⟨v, tq, [.ty S, .ty T], .type t, [.type S, .type T], b || c, rfl, upd_same, .cons (.ty S) (.cons (.ty T) .nil), by rw [hK]; exact ty_rp o2 (r1.mono s2.ge) q2, ?_, pv _ _ _ _ sS o2 (.bl _) k1⟩
      refine kitAny_cons (kit_ty q) (fun e => ?_) (fun e => by rw [e]; rfl)
      rw [e, Bool.false_or]
      refine kitAny_cons (kit_ty q') (fun e2 => ?_) (fun e2 => e2)
      rw [e2]
      exact kitAny_nil
  · exact k1.elim
end

/-! ### statements -/
section
variable {X : Cx} {C : C3} {E : XK} {fr : Bool} {B : Hp} {st : Stmt} {e c o : Expr} {m : MEt} {ms : MSt} {pos p pos' apos : Pos}
/-- x = {} -/
def mSetD (i : Nat) : MSt := fun env Ks => ∀ p, Ks.nx (env.set i (some (.own p (.dic []))))
theorem ms_setD {i : Nat} {x : Str} {dpos : Pos} (hN : X.N.Nodup) (hi : X.N[i]? = some x) (hx : Loc X.env.scope x) (hs : swapsWith (.Dict [] [] dpos) (some (.Name x pos')) pos.line X.env = pure false := by rfl) (hf : X.fn x = true ∨ X.env.scope.names.lookup x = some .local := by first | exact .inl rfl | exact .inr rfl | assumption) :
    MS X C E fr B (.Assign [.Name x pos'] (.Dict [] [] dpos) pos) (mSetD i) := fun G0 => PS.imp (ps_set hN hi hx pe_dnewK hs hf) fun En σ H ⟨env, G, Ks, er, hm, f⟩ => fun q hq => by
  obtain ⟨o1, s1, g⟩ := er.z.ok.new (o := .dK []) hq
  exact f.nx _ _ _ G (er.fresh_own s1 o1 (nT_none hq) g upd_same (er.z.ok.iv.new hq) (.dic .nil)) (hm q)
/-- the dict is frozen ahead of the statement -/
def mFrzD (j : Nat) (ms : MSt) : MSt := fun env Ks => ownK env j fun _ kvs => ms (env.set j (some (.sh (.dic kvs)))) Ks
theorem ms_frzD (j : Nat) (h : MS X C E fr B st ms) : MS X C E fr B st (mFrzD j ms) := fun G0 => by
  refine ⟨fun pins s σ H En I hw => ?_⟩
  obtain ⟨env, G, Ks, er, hm, f⟩ := hw
  obtain ⟨q, kvs, hq, hm⟩ := ownK_inv hm
  obtain ⟨h1, h2, h3, h4, ob, h5, h6⟩ := er.own j q _ hq
  cases h6 with
  | dic rl =>
    rename_i kws
    obtain ⟨od, I1⟩ := I.lock h5 (by trivial)
    refine (h G0).run pins s σ _ En I1 ⟨_, upd G q (.frz od (.dK kws)), Ks, ?_, hm, f⟩
    have sg : Same G (upd G q (.frz od (.dK kws))) := same_new h4
    have er' := er.write hq (o' := .dK kws) (.dic rl)
    have ok1 : Ok3 C (upd H q (.frz od (.dK kws))) (upd G q (.frz od (.dK kws))) := ⟨er.z.ok.iv.upd h2 (upd_code h5 rfl), fun a o z => by
      by_cases c : a = q
      · subst c
        rw [upd_same] at z
        cases z
        exact ⟨h2, upd_same⟩
      · rw [upd_ne c] at z
        rw [upd_ne c]
        exact er.z.ok.sub a o z, fun a o z => by
      by_cases c : a = q
      · subst c
        rw [upd_same] at z
        cases z
        rfl
      · rw [upd_ne c] at z
        exact er.z.ok.nt a o z⟩
    have hj : j < env.length := (List.getElem?_eq_some_iff.mp hq).1
    have un : ∀ {i : Nat} {x : Slot}, (env.set j (some (.sh (.dic kvs))))[i]? = some (some x) → (i = j ∧ x = .sh (.dic kvs)) ∨ (i ≠ j ∧ env[i]? = some (some x)) := fun {i x} z => by
      by_cases c : j = i
      · subst c
        rw [List.getElem?_set_self hj] at z
        cases z
        exact .inl ⟨rfl, rfl⟩
      · rw [List.getElem?_set_ne c] at z
        exact .inr ⟨fun e => c e.symm, z⟩
    refine ⟨⟨ok1, er.z.g0.trans sg, fun a o z z' => ?_, fun a o sp z => ?_⟩, by simpa using er.len, fun i d z => ?_, fun i p d z => ?_, fun i k p d e z z' => ?_⟩
    · by_cases c : a = q
      · rw [c]; exact h3
      · rw [upd_ne c] at z'
        exact er.z.fr a o z z'
    · rw [nT_ne (ne_of_none z h3)]
      exact er.z.keep a o sp z
    · rcases un z with ⟨e1, e2⟩ | ⟨c, z⟩
      · cases e2
        subst e1
        exact ⟨_, h1, .dic upd_same (rl.mono sg)⟩
      · obtain ⟨v, v1, v2⟩ := er.sh i d z
        exact ⟨v, v1, v2.mono sg⟩
    · rcases un z with ⟨e1, e2⟩ | ⟨c, z⟩
      · cases e2
      · obtain ⟨v1, v2, v3, v4, ob2, v5, v6⟩ := er.own i p d z
        have npq : p ≠ q := fun e => c (er.dis i j q d (.dic kvs) (by rw [← e]; exact z) hq)
        exact ⟨v1, v2, v3, by rw [upd_ne npq]; exact v4, ob2, by rw [upd_ne npq]; exact v5, v6.mono sg⟩
    · rcases un z with ⟨e1, e2⟩ | ⟨c, z⟩
      · cases e2
      · rcases un z' with ⟨e1, e2⟩ | ⟨c', z'⟩
        · cases e2
        · exact er.dis i k p d e z z'
/-- x = [.. for ..], x not its own -/
theorem ms_setLcS {i : Nat} {y : Str} {py : Pos} {elt tg iter : Expr} {ifs : List Expr} {scope : Scope} {own : List (Str × Nat)} {pos spos : Pos} {t : Tgt} {mi : MIt} {tt : MTt} {te : MEt} (hK : X.K = C.K) (hc : X.calm = true) (hN : X.N.Nodup) (hy : X.N[i]? = some y) (hyl : X.env.scope.names.lookup y = some .local)
    (hsw : swapsWith (.ListComp elt [⟨tg, iter, ifs, 0⟩] scope pos) (some (.Name y py)) spos.line X.env = pure true) (hi : MI X C E tg iter mi) (ok : BlkOk X.N X.env.scope scope own) (hts : ∀ i ∈ t.slots, i ∈ own.map (·.2))
    (hg : ∀ (s : Shared) (H : Hp) (A : Addr) (cl : List (Str × Addr)) (fp : List Addr), PG (X.blk s H scope (compEnvC scope cl A X.env) fp) tg (gOf X.K t)) (ht : ∀ (s : Shared) (H : Hp) (A : Addr) (cl : List (Str × Addr)) (fp : List Addr), MTs (X.blk s H scope (compEnvC scope cl A X.env) fp) C E0 ifs tt)
    (he : ∀ (s : Shared) (H : Hp) (A : Addr) (cl : List (Str × Addr)) (fp : List Addr), ME (X.blk s H scope (compEnvC scope cl A X.env) fp) C E0 elt te) (hs : ∀ x, foldedSetIterable iter X.env x = pure x := by intro _; rfl) :
    MS X C E fr B (.Assign [.Name y py] (.ListComp elt [⟨tg, iter, ifs, 0⟩] scope pos) spos) (mSet i (mLc t (own.map (·.2)) mi tt te)) := fun G0 =>
  PS.imp (ps_setLc hc hN hy hyl hsw hi ok hg ht he hs) fun En σ H h => by
    obtain ⟨env, G, Kd, KX, ok, vr, hm, pv, px⟩ := set_lift h
    exact lc_lift hK hts ⟨env, G, Kd, KX, ok, vr, hm, pv.fresh, px⟩
/-- a, b = x, y -/
def mPar (i j : Nat) (r : MAt) : MSt := fun env Ks => r (viewE env) (fun ds => match ds with
  | [d, e] => Ks.nx ((env.set i (some (.sh d))).set j (some (.sh e)))
  | _ => False) Ks.ex
theorem ms_par {i j : Nat} {x y : Str} {a b : Expr} {r : MAt} {px py pt : Pos} {kt k2 pt2} (hc : X.calm = true) (hN : X.N.Nodup) (hi : X.N[i]? = some x) (hj : X.N[j]? = some y) (hij : i ≠ j)
    (hx : X.env.scope.names.lookup x = some .local) (hy : X.env.scope.names.lookup y = some .local) (ha : MA X C E [a, b] r)
    (hw : swappedStores [.Tuple [.Name x px, .Name y py] kt pt] (.Tuple [a, b] k2 pt2) X.env = pure (some [x, y]))
    (hs : swapsWithSole [.Tuple [.Name x px, .Name y py] kt pt] (.Tuple [a, b] k2 pt2) pos.line X.env = pure false := by rfl) :
    MS X C E fr B (.Assign [.Tuple [.Name x px, .Name y py] kt pt] (.Tuple [a, b] k2 pt2) pos) (mPar i j r) := fun G0 => PS.imp (ps_par hc hN hi hj hij hx hy ha hw hs) fun En σ H ⟨env, G, Ks, er, hm, f⟩ =>
  ⟨viewE env, G, _, Ks.ex, er.z.ok, er.vr, hm, fun ds vs H1 G1 s1 ok1 r1 _ k1 => by
    cases r1 with
    | nil => exact k1.elim
    | cons a1 r1 =>
      cases r1 with
      | nil => exact k1.elim
      | cons a2 r1 =>
        cases r1 with
        | nil => exact ⟨_, _, rfl, f.nx _ _ H1 G1 (((er.step s1 ok1).set_sh a1).set_sh a2) k1⟩
        | cons _ _ => exact k1.elim, f.px er.z (Same.refl _)⟩
/-- x.append(y.pop(e)), both lists their names' own -/
def mAppPop (j l : Nat) (m : MEt) : MSt := fun env Ks => ownL env j fun p ds => ownL env l fun q es => m (lendE env) (fun d => match d with
  | .int i => 0 ≤ i ∧ ds.length < sizeLine ∧ es.length < 2 ^ 62 ∧ (match es[i.toNat]? with
    | some y => Ks.nx ((env.set l (some (.own q (.lst (es.eraseIdx i.toNat))))).set j (some (.own p (.lst (ds ++ [y])))))
    | none => False)
  | _ => False) Ks.ex
theorem ms_appPop (j l : Nat) (hjl : j ≠ l) {x y : Str} {xp yp cp cq : Pos} {apos2 : Pos} (hN : X.N[j]? = some x := by rfl) (hN2 : X.N[l]? = some y := by rfl)
    (h : PS X (.Expr (.Call (.Attribute (.Name x xp) "append" apos) [.Call (.Attribute (.Name y yp) "pop" apos2) [e] [] cq] [] cp) pos) (tDrop (tBM X.K "list" rAppend (tVar j) (tCons (tBM X.K "list" rPopAt (tVar l) (tCons (lift C X.mg E m) tNil)) tNil)))) :
    MS X C E fr B (.Expr (.Call (.Attribute (.Name x xp) "append" apos) [.Call (.Attribute (.Name y yp) "pop" apos2) [e] [] cq] [] cp) pos) (mAppPop j l m) := fun G0 => PS.imp h fun En σ H ⟨env, G, Ks, er, hm, f⟩ => by
  obtain ⟨p, ds, hp, hm⟩ := ownL_inv hm
  obtain ⟨q, es, hq, hm⟩ := ownL_inv hm
  obtain ⟨a1, a2, a3, a4, ob, a5, a6⟩ := er.own j p _ hp
  obtain ⟨b1, b2, b3, b4, ob2, b5, b6⟩ := er.own l q _ hq
  cases a6 with
  | lst ra =>
    cases b6 with
    | lst rb =>
      refine ⟨.ref p, a1, .inl ⟨rfl, _, .inl (.inl a5)⟩, .ref q, b1, .inl ⟨rfl, _, .inl (.inl b5)⟩, lendE env, _, _, Ks.ex, er.lend.1, er.lend.2, hm, fun d v H1 G1 s1 ok1 r1 k1 => ?_, f.px er.z gLend_ge⟩
      have er1 := er.back s1 ok1
      obtain ⟨i, rfl, rfl⟩ : ∃ i, d = .int i ∧ v = .int i := by cases r1 <;> first | exact (show False from k1).elim | exact ⟨_, rfl, rfl⟩
      obtain ⟨k0, kz, kz2, k1⟩ := k1
      split at k1
      · rename_i y' hy'
        obtain ⟨w, w1, w2⟩ := rb.get hy'
        have hlt : i.toNat < es.length := (List.getElem?_eq_some_iff.mp hy').1
        have npq : p ≠ q := fun e => hjl (er.dis j l p _ _ hp (by rw [e]; exact hq))
        have er2 := er1.write hq (o' := .lst (_ : List V)) (.lst (rb.eraseIdx i.toNat))
        have hp2 : (env.set l (some (.own q (.lst (es.eraseIdx i.toNat)))))[j]? = some (some (Slot.own p (.lst ds))) := by rw [List.getElem?_set_ne (Ne.symm hjl)]; exact hp
        have er3 := er2.write hp2 (o' := .lst (_ : List V)) (.lst (ra.append (.cons w2 .nil)))
        refine ⟨q, _, i, i.toNat, w, rfl, rfl, s1.nh q _ b2 b5, by omega, by omega, ?_, w1, p, _, w, rfl, rfl, ?_, by rw [← ra.length]; exact kz, f.nx _ _ _ G er3 k1⟩
        · rw [← rb.length]
          unfold seqIndex?
          have hh : ¬ i < 0 := by omega
          simp only [hh, if_false]
          rw [if_pos (by rw [Bool.and_eq_true, decide_eq_true_eq, decide_eq_true_eq]; omega)]
        · rw [upd_ne npq]
          exact s1.nh p _ a2 a5
      · exact k1.elim
end
end L3
/-! L3k: the draws -/
namespace L3
open PySem PySem.Spec PyProof.Rows L2
/-- a draw below n -/
@[irreducible] def sp__law_drawn : Spec := fun sa ds Kd _ => ∃ (a : Addr) (n : Int), sa = some a ∧ ds = [.ref a, .int n] ∧ 0 < n ∧ n.natAbs < 2 ^ 9000 ∧ ∀ k, 0 ≤ k → k < n → Kd (.int k)
theorem scr_sq {C : C3} {H : Hp} {sa : Addr} {ns : List Int} (iv : Iv C H) (s : ScrOk C sa ns) : SqL C.K H sa (ns.map V.int) := by
  rcases s with ⟨o, h⟩ | ⟨o, its, n, h1, h2, h3, h4, h5, h6⟩
  · exact .inl (.inr ⟨o, iv.fx _ h⟩)
  · exact .inr ⟨o, its, n, h1, h2, h3, h4, h5, h6⟩
/-- the state's cell written anew -/
theorem st_step {K : PySem.W.Frag} {a sa : Addr} {ns : List Int} {fix : List (Addr × HO)} {tabs : List (Addr × Str)} {H G : Hp} {i m r : Int} (ok : Ok3 ⟨K, some (a, sa, ns), fix, tabs⟩ H G) (hi : 0 ≤ i) (hm : 0 ≤ m) (hm2 : m < 2147483647) (hr : 0 ≤ r) :
    Ok3 ⟨K, some (a, sa, ns), fix, tabs⟩ (upd H a (.lst [.ref sa, .int i, .int m, .int r])) G ∧ Stp ⟨K, some (a, sa, ns), fix, tabs⟩ H G (upd H a (.lst [.ref sa, .int i, .int m, .int r])) G := by
  obtain ⟨⟨i', m', r', hst, _⟩, hs, hf⟩ := ok.iv.st a sa ns rfl
  have spa : (C3.mk K (some (a, sa, ns)) fix tabs).sp a = true := by
    unfold C3.sp
    simp
  refine ⟨⟨⟨fun a' sa' ns' e => ?_, fun p hp => ?_, fun p hp => ?_⟩, fun b o h => ?_, ok.nt⟩, fun b o h1 h2 => ?_, Same.refl _, fun b o h h' => absurd (h.symm.trans h') (fun z => nomatch z)⟩
  · cases e
    exact ⟨⟨i, m, r, upd_same, hi, hm, hm2, hr⟩, hs, hf⟩
  · have np : p.1 ≠ a := fun e => by
      have := List.any_eq_false.mp hf p hp
      simp [e] at this
    show upd H a _ p.1 = _
    rw [upd_ne np]
    exact ok.iv.fx p hp
  · obtain ⟨ps, h, h2, h3⟩ := ok.iv.tb p hp
    have np : p.1 ≠ a := fun e => by
      rw [e, hst] at h
      cases h
    refine ⟨ps, by rw [upd_ne np]; exact h, h2, fun pos cv hc => ?_⟩
    obtain ⟨c, e1, e2⟩ := h3 pos cv hc
    refine ⟨c, e1, ?_⟩
    rw [upd_ne fun z => upd_code hst rfl _ (by rw [← z]; exact e2)]
    exact e2
  · obtain ⟨h1, h2⟩ := ok.sub b o h
    refine ⟨h1, ?_⟩
    have nb : b ≠ a := fun e => by rw [e, spa] at h1; cases h1
    rw [upd_ne nb]
    exact h2
  · have nb : b ≠ a := fun e => by rw [e, spa] at h1; cases h1
    rw [nT_ne nb]
    exact h2
/-- what _law_drawn does -/
def tDrawn (K : PySem.W.Frag) : TS :=
  let ix (j : Int) : TE := tOp (rIxL K) (tVar 0) (tC (.int j))
  let gt : R2 := rI0 fun i j => .bl (decide (j < i))
  let ge : R2 := rI0 fun i j => .bl (decide (j ≤ i))
  let le : R2 := rI0 fun i j => .bl (decide (i ≤ j))
  let ad : R2 := rI0 fun i j => .int (i + j)
  let sb : R2 := rI0 fun i j => .int (i - j)
  let mu : R2 := rI CMul fun i j => .int (i * j)
  let md : R2 := rI (fun _ j => 0 < j) fun i j => .int (i % j)
  let dv : R2 := rI CDivW fun i j => .int (i / j)
  let pw : R2 := rI CPow fun i j => .int (i ^ j.toNat)
  let st (j : Int) (e : TE) : TS := tAsg e (gSub (tVar 0) (tC (.int j)) rSetL)
  tSeq (tIfS (tTest (tOp gt (ix 3) (tC (.int 0)))) (tSeq (tAsg (tOp md (ix 3) (tVar 1)) (gName 2)) (tSeq (st 3 (tOp dv (ix 3) (tVar 1))) (tRet (tVar 2)))) tNext)
  (tSeq (st 1 (tOp ad (ix 1) (tC (.int 1))))
  (tSeq (tIfS (tTest (tOp le (ix 1) (tCB (fun xs H Q => ∃ p ys, xs = [.ref p] ∧ (SqL K H p ys ∨ SqT K H p ys) ∧ Q (.int ys.length) H) (tCons (ix 0) tNil))))
      (tSeq (tAsg (tOp (rIxL K) (ix 0) (tOp sb (ix 1) (tC (.int 1)))) (gName 3)) (tSeq (st 3 (tIf (tTest (tOp ge (tVar 3) (tOp pw (tC (.int 10)) (tC (.int 18))))) (tOp dv (tVar 3) (tVar 1)) (tC (.int 0)))) (tRet (tOp md (tVar 3) (tVar 1))))) tNext)
  (tSeq (st 2 (tOp md (tOp ad (tOp mu (ix 2) (tC (.int 48271))) (tC (.int 11))) (tC (.int 2147483647))))
    (tRet (tOp md (tOp dv (ix 2) (tC (.int 7))) (tVar 1))))))
theorem drawn_ok {K : PySem.W.Frag} {a sa : Addr} {ns : List Int} {fix : List (Addr × HO)} {tabs : List (Addr × Str)} {H G : Hp} {n : Int} {Q : VK} {En : Ends} (ok : Ok3 ⟨K, some (a, sa, ns), fix, tabs⟩ H G) (h0 : 0 < n) (h1 : n.natAbs < 2 ^ 9000)
    (q : ∀ k H', 0 ≤ k → k < n → Ok3 ⟨K, some (a, sa, ns), fix, tabs⟩ H' G → Stp ⟨K, some (a, sa, ns), fix, tabs⟩ H G H' G → En.rt (.int k) H') : tDrawn K En [some (.ref a), some (.int n), none, none] H := by
  obtain ⟨⟨i, m, r, hst, hi, hm, hm2, hr⟩, hs, hf⟩ := ok.iv.st a sa ns rfl
  have sL : ∀ {H' : Hp} {xs : List V}, H' a = some (.lst xs) → SqL K H' a xs := fun h => .inl (.inl h)
  have cd : CDivW r n := wide_div h0 h1 (by decide) (by decide)
  have rn0 : 0 ≤ r / n := Int.ediv_nonneg hr (by omega)
  refine ⟨.ref a, rfl, a, _, 3, .int r, rfl, rfl, sL hst, rfl, r, 0, rfl, rfl, _, rfl, ?_⟩
  refine ite2 (fun c => ?_) (fun c => ?_)
  · refine ⟨.ref a, rfl, a, _, 3, .int r, rfl, rfl, sL hst, rfl, .int n, rfl, r, n, rfl, rfl, h0, ?_⟩
    refine ⟨.ref a, rfl, a, _, 3, .int r, rfl, rfl, sL hst, rfl, .int n, rfl, r, n, rfl, rfl, cd, ?_⟩
    refine ⟨.ref a, rfl, a, _, 3, 3, rfl, rfl, hst, rfl, ?_⟩
    obtain ⟨o1, s1⟩ := st_step ok hi hm hm2 rn0
    exact ⟨_, rfl, q _ _ (Int.emod_nonneg _ (by omega)) (Int.emod_lt_of_pos _ h0) o1 s1⟩
  · refine ⟨.ref a, rfl, a, _, 1, .int i, rfl, rfl, sL hst, rfl, i, 1, rfl, rfl, ?_⟩
    refine ⟨.ref a, rfl, a, _, 1, 1, rfl, rfl, hst, rfl, ?_⟩
    obtain ⟨o1, s1⟩ := st_step ok (show 0 ≤ i + 1 by omega) hm hm2 hr
    have hst1 : (upd H a (.lst [.ref sa, .int (i + 1), .int m, .int r])) a = some (.lst [.ref sa, .int (i + 1), .int m, .int r]) := upd_same
    have scr := scr_sq o1.iv hs
    refine ⟨.ref a, rfl, a, _, 1, .int (i + 1), rfl, rfl, sL hst1, rfl, .ref a, rfl, a, _, 0, .ref sa, rfl, rfl, sL hst1, rfl, sa, _, rfl, .inl scr, i + 1, _, rfl, rfl, _, rfl, ?_⟩
    refine ite2 (fun c2 => ?_) (fun c2 => ?_)
    · have c2 := of_decide_eq_true c2
      rw [List.length_map] at c2
      have hlt : i.toNat < ns.length := by omega
      have hat : atI (ns.map V.int) (i + 1 - 1) = some (.int (ns[i.toNat])) := by
        rw [show i + 1 - 1 = ((i.toNat : Nat) : Int) by omega]
        exact atI_nat (by rw [List.getElem?_map, List.getElem?_eq_getElem hlt]; rfl)
      generalize ns[i.toNat] = z at hat
      refine ⟨.ref a, rfl, a, _, 0, .ref sa, rfl, rfl, sL hst1, rfl, .ref a, rfl, a, _, 1, .int (i + 1), rfl, rfl, sL hst1, rfl, i + 1, 1, rfl, rfl, sa, _, i + 1 - 1, .int z, rfl, rfl, scr, hat, ?_⟩
      refine ⟨.int z, rfl, 10, 18, rfl, rfl, by unfold CPow; decide, z, _, rfl, rfl, _, rfl, ?_⟩
      refine ite2 (fun c3 => ?_) (fun c3 => ?_)
      · have c3 : (10 : Int) ^ (18 : Int).toNat ≤ z := of_decide_eq_true c3
        have c4 : (0 : Int) ≤ z := Int.le_trans (by decide) c3
        refine ⟨.int z, rfl, .int n, rfl, z, n, rfl, rfl, wide_div h0 h1 (by decide) (by decide), ?_⟩
        refine ⟨.ref a, rfl, a, _, 3, 3, rfl, rfl, hst1, rfl, ?_⟩
        obtain ⟨o2, s2⟩ := st_step o1 (show 0 ≤ i + 1 by omega) hm hm2 (Int.ediv_nonneg c4 (by omega) : 0 ≤ z / n)
        exact ⟨.int z, rfl, .int n, rfl, z, n, rfl, rfl, h0, q _ _ (Int.emod_nonneg _ (by omega)) (Int.emod_lt_of_pos _ h0) o2 (s1.trans o2 s2)⟩
      · refine ⟨.ref a, rfl, a, _, 3, 3, rfl, rfl, hst1, rfl, ?_⟩
        obtain ⟨o2, s2⟩ := st_step o1 (show 0 ≤ i + 1 by omega) hm hm2 (Int.le_refl 0)
        exact ⟨.int z, rfl, .int n, rfl, z, n, rfl, rfl, h0, q _ _ (Int.emod_nonneg _ (by omega)) (Int.emod_lt_of_pos _ h0) o2 (s1.trans o2 s2)⟩
    · refine ⟨.ref a, rfl, a, _, 2, .int m, rfl, rfl, sL hst1, rfl, m, 48271, rfl, rfl, .inl ⟨by omega, by omega⟩, _, 11, rfl, rfl, _, 2147483647, rfl, rfl, (show (0 : Int) < 2147483647 by decide), ?_⟩
      refine ⟨.ref a, rfl, a, _, 2, 2, rfl, rfl, hst1, rfl, ?_⟩
      have b0 : 0 ≤ (m * 48271 + 11) % 2147483647 := Int.emod_nonneg _ (by decide)
      have b1 : (m * 48271 + 11) % 2147483647 < 2147483647 := Int.emod_lt_of_pos _ (by decide)
      obtain ⟨o2, s2⟩ := st_step o1 (show 0 ≤ i + 1 by omega) b0 b1 hr
      have e2 : upd (upd H a (.lst [.ref sa, .int (i + 1), .int m, .int r])) a (.lst ([V.ref sa, .int (i + 1), .int m, .int r].set 2 (.int ((m * 48271 + 11) % 2147483647)))) = upd (upd H a (.lst [.ref sa, .int (i + 1), .int m, .int r])) a (.lst [.ref sa, .int (i + 1), .int ((m * 48271 + 11) % 2147483647), .int r]) := rfl
      have hst2 : (upd (upd H a (.lst [.ref sa, .int (i + 1), .int m, .int r])) a (.lst ([V.ref sa, .int (i + 1), .int m, .int r].set 2 (.int ((m * 48271 + 11) % 2147483647))))) a = some (.lst [.ref sa, .int (i + 1), .int ((m * 48271 + 11) % 2147483647), .int r]) := upd_same
      refine ⟨.ref a, rfl, a, _, 2, .int _, rfl, rfl, sL hst2, rfl, _, 7, rfl, rfl, wide_div (by decide) (show (7 : Int).natAbs < 2 ^ 3 by decide) (by decide) (by decide), .int n, rfl, _, n, rfl, rfl, h0, ?_⟩
      exact q _ _ (Int.emod_nonneg _ (by omega)) (Int.emod_lt_of_pos _ h0) o2 (s1.trans o2 s2)

/-- the mixing of the script -/
def spStart (K : PySem.W.Frag) : Sp := fun vs H Q _ => ∃ (a : Addr) (ns : List Int), vs = [.ref a] ∧ SqL K H a (ns.map V.int) ∧ ∀ (p : Addr) (m : Int), H p = none → 0 ≤ m → m < 2147483647 → Q (.ref p) (upd H p (.lst [.ref a, .int 0, .int m, .int 0]))
def tStart (K : PySem.W.Frag) : TS := tSeq (tAsg (tC (.int 1)) (gName 1))
  (tSeq (tFor (iList K (tVar 0)) (gName 2) (tAsg (tOp (rI (fun _ j => 0 < j) fun i j => .int (i % j)) (tOp (rI0 fun i j => .int (i + j)) (tOp (rI0 fun i j => .int (i + j)) (tOp (rI CMul fun i j => .int (i * j)) (tVar 1) (tC (.int 48271))) (tVar 2)) (tC (.int 7))) (tC (.int 2147483647))) (gName 1)))
  (tRet (tLst (tCons (tVar 0) (tCons (tC (.int 0)) (tCons (tVar 1) (tCons (tC (.int 0)) tNil)))))))
theorem start_ok {K : PySem.W.Frag} {a : Addr} {ns : List Int} {H : Hp} {Q : VK} {En : Ends} (hS : SqL K H a (ns.map V.int)) (hq : ∀ (p : Addr) (m : Int), H p = none → 0 ≤ m → m < 2147483647 → En.rt (.ref p) (upd H p (.lst [.ref a, .int 0, .int m, .int 0]))) : tStart K En [some (.ref a), none, none] H := by
  refine ⟨.ref a, rfl, a, rfl, ⟨_, hS⟩, for_list (K := K) (a := a) (xs := ns.map V.int) (fun i σ H' => ∃ (m : Int) (v : Option V), σ = [some (.ref a), some (.int m), v] ∧ H' = H ∧ 0 ≤ m ∧ m < 2147483647) ⟨1, none, rfl, rfl, by decide, by decide⟩ (fun i σ H' _ ⟨_, _, _, e, _⟩ => by rw [e]; exact hS) ?_ ?_⟩
  · rintro i y σ H' hi ⟨m, v, rfl, rfl, h0, h1⟩
    obtain ⟨u, rfl⟩ : ∃ u, y = V.int u := by
      rw [List.getElem?_map] at hi
      cases e : ns[i]? with
      | none =>
        rw [e] at hi
        cases hi
      | some u =>
        rw [e] at hi
        exact ⟨u, (Option.some.inj hi).symm⟩
    exact ⟨.int m, rfl, m, 48271, rfl, rfl, .inl ⟨by omega, by omega⟩, .int u, rfl, _, u, rfl, rfl, _, 7, rfl, rfl, _, 2147483647, rfl, rfl, (show (0 : Int) < 2147483647 by decide), _, some (.int u), rfl, rfl, Int.emod_nonneg _ (by decide), Int.emod_lt_of_pos _ (by decide)⟩
  · rintro σ H' ⟨m, v, rfl, rfl, h0, h1⟩
    exact ⟨_, rfl, _, rfl, by show 4 ≤ sizeLine; decide, fun p hp => hq p m hp h0 h1⟩
theorem pe_either {X : Cx} {e : Expr} {t u : TE} (h : PE X e t) (g : PE X e u) : PE X e (fun σ H Q => t σ H Q ∨ u σ H Q) :=
  ⟨fun pins s σ H Q I w => w.elim (h.run pins s σ H Q I) (g.run pins s σ H Q I)⟩
theorem pss_any {X : Cx} {st : List Stmt} {ι : Type} {t : ι → TS} (h : ∀ i, PSs X st (t i)) : PSs X st (fun En σ H => ∃ i, t i En σ H) :=
  ⟨fun pins s σ H En I ⟨i, w⟩ => (h i).run pins s σ H En I w⟩
/-- the law's first statement: the state is made -/
def tOpen (K : PySem.W.Frag) (E : XK) : TS := tAsg (tCall (spStart K) [] E (tCons (fun σ H Q => tVar 0 σ H Q ∨ tVar 0 σ H fun v H' => ∃ (p : Addr) (u : HO), v = .ref p ∧ H' p = some u ∧ Mut (some u) ∧ ∀ od, Q v (upd H' p (.frz od u))) tNil)) (gName 1)
def spLaw (K : PySem.W.Frag) : Sp := fun vs H Q _ => ∃ (a : Addr) (ns : List Int), vs = [.ref a] ∧ SqL K H a (ns.map V.int) ∧ ∀ v H', v = .bl true → Q v H'
/-- the law's body from its first statement and the plain rest -/
theorem law_l3 {P : Program} {w : World} {K : PySem.W.Frag} {mg : Str → Option Value} {base : Heap} {st first : Stmt} {rest : List Stmt} {f : Addr} {fd : FuncData} {N : List Str} {k : Nat} (F : Fun K "law" "law" st f fd) (S : FnScope N ["_law_script"] (defScope st)) (m : Option Addr → MSt) (hb : defBody st = first :: rest) (hN : 2 ≤ N.length)
    (der : ∀ (cdv : Value) (A : Around) (outer : List Env) (s : Shared) (H : Hp) (E : XK), Room k (A.deeper (envOfC "law" (defScope st) s.heap.objs.size f cdv)) →
      PS (cxOf (L2.CX P w) P w K mg base N "law" (defScope st) f cdv A outer s H E) first (tOpen K E) ∧ ∀ (s0 : Option (Addr × Addr × List Int)) (fix : List (Addr × HO)) (tabs : List (Addr × Str)) (B : Hp),
      MSs (cxOf (L2.CX P w) P w K mg base N "law" (defScope st) f cdv A outer s H E) ⟨K, s0, fix, tabs⟩ E false B rest (m (s0.map (·.1))))
    (pure : ∀ (p a : Addr), m (some p) (some (.sh (.ref a)) :: some (.sh (.ref p)) :: List.replicate (N.length - 2) none) { nx := fun _ => False, rt := fun d => d = .bl true }) :
    FnOk P w K mg base (L2.CX P w) (k + 1) f fd ["_law_script"] (spLaw K) := by
  refine F.okX S (fun vs H Q E h => ?_) (fun cdv A outer s H vs Q E hr h => ?_)
  · obtain ⟨a, ns, rfl, _⟩ := h
    rfl
  · obtain ⟨a, ns, rfl, hS, hq⟩ := h
    obtain ⟨d1, d2⟩ := der cdv A outer s H E hr
    rw [hb]
    refine ⟨_, pss_cons d1 (pss_any (ι := (Option (Addr × Addr × List Int)) × List (Addr × HO)) fun i => d2 i.1 i.2 [] (fun _ => none) (fun _ => none)), ?_⟩
    have eS : (L2.start N [V.ref a] : L2.St) = some (.ref a) :: none :: List.replicate (N.length - 2) none := by
      unfold L2.start
      show some (V.ref a) :: List.replicate (N.length - 1) none = _
      rw [show N.length - 1 = (N.length - 2) + 1 by omega, List.replicate_succ]
    rw [eS]
    -- the rest, once the script stays
    have go : ∀ (H0 : Hp) (fix : List (Addr × HO)), (∀ p ∈ fix, H0 p.1 = some p.2) → ScrOk ⟨K, none, fix, []⟩ a ns → SqL K H0 a (ns.map V.int) → spStart K ([V.ref a] ++ []) H0 (fun v H1 => gName 1 v (some (.ref a) :: none :: List.replicate (N.length - 2) none) H1 fun σ H2 => ∃ i : (Option (Addr × Addr × List Int)) × List (Addr × HO), liftS ⟨K, i.1, i.2, []⟩ mg E false (fun _ => none) (fun _ => none) (m (i.1.map (·.1))) { nx := fun _ H => Q .non H, rt := Q } σ H2) E := by
      intro H0 fix hfix hscr hS0
      refine ⟨a, ns, rfl, hS0, fun p mm hp h0 h1 => ?_⟩
      refine ⟨(some (p, a, ns), fix), some (.sh (.ref a)) :: some (.sh (.ref p)) :: List.replicate (N.length - 2) none, fun _ => none, _, ?_, pure p a, ?_⟩
      · refine ⟨⟨⟨⟨fun a' sa' ns' e => ?_, fun q hq' => ?_, fun q hq' => (nomatch hq')⟩, fun _ _ h => (nomatch h), fun _ _ h => (nomatch h)⟩, fun _ _ h => (nomatch h), fun _ _ _ h => (nomatch h), fun _ _ _ h => (nomatch h)⟩, ?_, fun i d h => ?_, fun i q d h => ?_, fun i j q d e h _ => ?_⟩
        · cases e
          refine ⟨⟨0, mm, 0, upd_same, by decide, h0, h1, by decide⟩, hscr, ?_⟩
          rw [List.any_eq_false]
          intro q hq' e
          have e := of_decide_eq_true e
          have := hfix q hq'
          rw [e, hp] at this
          cases this
        · have nq : q.1 ≠ p := fun e => by
            have := hfix q hq'
            rw [e, hp] at this
            cases this
          show upd H0 p _ q.1 = _
          rw [upd_ne nq]
          exact hfix q hq'
        · simp
        · match i, h with
          | 0, h => cases h; exact ⟨_, rfl, .ref a⟩
          | 1, h => cases h; exact ⟨_, rfl, .ref p⟩
          | i + 2, h =>
            have h : (List.replicate (N.length - 2) (none : Option Slot))[i]? = some (some (.sh d)) := h
            rw [List.getElem?_replicate] at h
            split at h <;> cases h
        · match i, h with
          | 0, h => cases h
          | 1, h => cases h
          | i + 2, h =>
            have h : (List.replicate (N.length - 2) (none : Option Slot))[i]? = some (some (.own q d)) := h
            rw [List.getElem?_replicate] at h
            split at h <;> cases h
        · match i, h with
          | 0, h => cases h
          | 1, h => cases h
          | i + 2, h =>
            have h : (List.replicate (N.length - 2) (none : Option Slot))[i]? = some (some (.own q d)) := h
            rw [List.getElem?_replicate] at h
            split at h <;> cases h
      · refine ⟨fun _ _ _ _ _ k => k.elim, fun _ _ _ _ _ k => k.elim, fun _ _ _ _ _ k => k.elim, fun d v H' G' z rr k => ?_, fun x cls d H' k => k.elim⟩
        have rr : Rp K G' d v := rr
        rw [k] at rr
        cases rr
        exact hq _ _ rfl
    rcases hS with (h | ⟨o, h⟩) | ⟨o, its, n, h1, h2, h3, h4, h5, h6⟩
    · refine .inr ⟨.ref a, rfl, a, _, rfl, h, trivial, fun od => ?_⟩
      exact go (upd H a (.frz od (.lst (ns.map V.int)))) [(a, .frz od (.lst (ns.map V.int)))] (fun p hp => by
        rw [List.mem_singleton] at hp
        subst hp
        exact upd_same) (.inl ⟨od, List.mem_singleton.mpr rfl⟩) (.inl (.inr ⟨od, upd_same⟩))
    · refine .inl ⟨.ref a, rfl, ?_⟩
      exact go H [(a, .frz o (.lst (ns.map V.int)))] (fun p hp => by
        rw [List.mem_singleton] at hp
        subst hp
        exact h) (.inl ⟨o, List.mem_singleton.mpr rfl⟩) (.inl (.inr ⟨o, h⟩))
    · refine .inl ⟨.ref a, rfl, ?_⟩
      exact go H [] (fun p hp => by cases hp) (.inr ⟨o, its, n, h1, h2, h3, h4, h5, h6⟩) (.inr ⟨o, its, n, h1, h2, h3, h4, h5, h6⟩)
end L3
/-! L3l: plain tools: equality of data, loops, comprehensions -/
namespace L3
open PySem PySem.Spec PyProof.Rows L2
/-- a whole number that the top has bound -/
theorem me_globI {X : Cx} {C : C3} {E : XK} {x : Str} {i : Int} {pos : Pos} (h : ∃ t, X.mg x = some (.int i t)) (hg : Gl X x) (hd : (x == ("__debug__" : Str)) = false := by decide) : ME X C E (.Name x pos) (mC (.int i)) := by
  obtain ⟨t, h⟩ := h
  exact me_c (v := .int i) (pe_glob hg h ⟨t, rfl⟩ hd) fun _ => .int i
/-! ### data that can be told apart -/
inductive Dk : Nat → D → Prop
  | non (n) : Dk n .non
  | bl (n b) : Dk n (.bl b)
  | int (n i) : Dk n (.int i)
  | str (n x) : PyData.strOk x = true → Dk n (.str x)
  | lst (n ds) : (∀ d ∈ ds, Dk n d) → Dk (n + 1) (.lst ds)
  | tup (n ds) : (∀ d ∈ ds, Dk n d) → Dk (n + 1) (.tup ds)
theorem pls_all : ∀ {ds : List D}, (∀ d ∈ ds, d.pl = true) → D.pls ds = true
  | [], _ => rfl
  | d :: r, h => by
    show (d.pl && D.pls r) = true
    rw [h d List.mem_cons_self, pls_all fun e he => h e (List.mem_cons_of_mem _ he)]
    rfl
theorem lays_all : ∀ {ds : List PyData}, (∀ d ∈ ds, d.canLay0 = true) → PyData.canLayAll0 ds = true
  | [], _ => by simp [PyData.canLayAll0]
  | d :: r, h => by
    rw [PyData.canLayAll0, h d List.mem_cons_self, lays_all fun e he => h e (List.mem_cons_of_mem _ he)]
    rfl
theorem depth_all {n : Nat} : ∀ {ds : List PyData}, (∀ d ∈ ds, d.depth ≤ n) → PyData.depthAll ds ≤ n
  | [], _ => by simp [PyData.depthAll]
  | d :: r, h => by
    rw [PyData.depthAll]
    exact Nat.max_le.mpr ⟨h d List.mem_cons_self, depth_all fun e he => h e (List.mem_cons_of_mem _ he)⟩
theorem Dk.all {n : Nat} {d : D} (h : Dk n d) : d.pl = true ∧ d.py.canLay0 = true ∧ d.py.depth ≤ n := by
  induction h with
  | non n => exact ⟨rfl, by simp [D.py, PyData.canLay0], by simp [D.py, PyData.depth]⟩
  | bl n b => exact ⟨rfl, by simp [D.py, PyData.canLay0], by simp [D.py, PyData.depth]⟩
  | int n i => exact ⟨rfl, by simp [D.py, PyData.canLay0], by simp [D.py, PyData.depth]⟩
  | str n x h => exact ⟨rfl, by simpa [D.py, PyData.canLay0] using h, by simp [D.py, PyData.depth]⟩
  | lst n ds h ih =>
    refine ⟨pls_all fun d hd => (ih d hd).1, ?_, ?_⟩
    · rw [D.py, PyData.canLay0, pys_map]
      exact lays_all fun e he => by
        obtain ⟨d, hd, rfl⟩ := List.mem_map.mp he
        exact (ih d hd).2.1
    · rw [D.py, PyData.depth, pys_map]
      exact Nat.succ_le_succ (depth_all fun e he => by
        obtain ⟨d, hd, rfl⟩ := List.mem_map.mp he
        exact (ih d hd).2.2)
  | tup n ds h ih =>
    refine ⟨pls_all fun d hd => (ih d hd).1, ?_, ?_⟩
    · rw [D.py, PyData.canLay0, pys_map]
      exact lays_all fun e he => by
        obtain ⟨d, hd, rfl⟩ := List.mem_map.mp he
        exact (ih d hd).2.1
    · rw [D.py, PyData.depth, pys_map]
      exact Nat.succ_le_succ (depth_all fun e he => by
        obtain ⟨d, hd, rfl⟩ := List.mem_map.mp he
        exact (ih d hd).2.2)
theorem Dk.pl {n : Nat} {d : D} (h : Dk n d) : d.pl = true := h.all.1
theorem Dk.shaped {n : Nat} {d : D} (h : Dk n d) (hn : n ≤ 64) : SeqAt.shaped d.py = true := by
  unfold SeqAt.shaped
  rw [h.all.2.1, decide_eq_true (Nat.le_trans h.all.2.2 hn)]
  rfl
theorem Dk.refl {n : Nat} {d : D} (h : Dk n d) : PyData.eqv d.py d.py = true := SeqAt.eqv_refl _ h.all.2.1
theorem Dk.mono {n m : Nat} {d : D} (h : Dk n d) (hn : n ≤ m) : Dk m d := by
  induction h generalizing m with
  | non n => exact .non _
  | bl n b => exact .bl _ b
  | int n i => exact .int _ i
  | str n x h => exact .str _ x h
  | lst n ds h ih =>
    cases m with
    | zero => omega
    | succ m => exact .lst _ _ fun d hd => ih d hd (by omega)
  | tup n ds h ih =>
    cases m with
    | zero => omega
    | succ m => exact .tup _ _ fun d hd => ih d hd (by omega)
/-- equality, however the two are told: eqE from eqG -/
theorem eqE_of {neg : Bool} {n : Nat} {d e : D} {K : D → Prop} {b : Bool} (hd : Dk n d) (he : Dk n e) (hn : n ≤ 64) (h : PyData.eqv d.py e.py = b) (k : K (.bl (if neg then !b else b))) : eqE neg d e K := by
  have g : eqG neg d e K := ⟨hd.pl, he.pl, hd.shaped hn, he.shaped hn, by rw [h]; exact k⟩
  have dx : ∀ x y : Bool, (x == y) = decide (x = y) := fun x y => by cases x <;> cases y <;> rfl
  unfold eqE
  cases d <;> cases e <;> first
    | exact g
    | (show K _
       simp only [D.py, PyData.eqv] at h
       first
         | (rename_i i j
            have e2 : decide (i = j) = b := by rw [← h]; first | exact (dx _ _).symm | (by_cases c : i = j <;> simp [c])
            rw [e2]
            exact k))
theorem eqE_refl {neg : Bool} {n : Nat} {d : D} {K : D → Prop} (hd : Dk n d) (hn : n ≤ 64) (k : K (.bl (!neg))) : eqE neg d d K := eqE_of hd hd hn hd.refl (by cases neg <;> exact k)
theorem eqE_nil {neg : Bool} {n : Nat} {xs : List D} {K : D → Prop} (hd : Dk n (.lst xs)) (hn : n ≤ 64) (k : K (.bl (if neg then !xs.isEmpty else xs.isEmpty))) : eqE neg (.lst xs) (.lst []) K := by
  cases n with
  | zero => cases hd
  | succ n => exact eqE_of hd (.lst _ _ (by simp)) hn (by cases xs <;> simp [D.py, D.pys, PyData.eqv, PyData.eqvAll]) k
theorem beqI (i j : Int) : (i == j) = decide (i = j) := by by_cases c : i = j <;> simp [c]
def optD : Option Int → D
  | none => .non
  | some i => .int i
theorem eqE_opt {neg : Bool} {o p : Option Int} {K : D → Prop} (k : K (.bl (if neg then !decide (o = p) else decide (o = p)))) : eqE neg (optD o) (optD p) K := by
  have dk : ∀ o, Dk 0 (optD o) := fun o => by cases o <;> constructor
  refine eqE_of (dk o) (dk p) (by decide) ?_ k
  cases o <;> cases p <;> simp [optD, D.py, PyData.eqv, beqI]
theorem eqE_int {neg : Bool} {i j : Int} {K : D → Prop} (k : K (.bl (if neg then !decide (i = j) else decide (i = j)))) : eqE neg (.int i) (.int j) K := by unfold eqE; exact k
theorem eqE_str {neg : Bool} {i j : Str} {K : D → Prop} (k : K (.bl (if neg then !decide (i = j) else decide (i = j)))) : eqE neg (.str i) (.str j) K := by
  unfold eqE
  exact k
theorem flat_ints (ns : List Int) : (ns.map D.int).all flatD = true := by
  induction ns with
  | nil => rfl
  | cons n r ih => rw [List.map_cons, List.all_cons, ih]; rfl
theorem inV_ints (i : Int) : ∀ ns : List Int, inV (.int i) (ns.map V.int) = decide (i ∈ ns)
  | [] => by simp [inV]
  | n :: r => by
    have ih := inV_ints i r
    unfold inV at ih ⊢
    simp only [List.map_cons, List.any_cons] at ih ⊢
    rw [ih]
    have e : eqV (.int n) (.int i) = (n == i) := rfl
    rw [e]
    by_cases c : i = n
    · subst c; simp
    · have c2 : n ≠ i := fun e => c e.symm
      simp [c, c2]
theorem fv_ints (ns : List Int) : (ns.map D.int).map fv = ns.map V.int := by rw [List.map_map]; rfl
theorem inS_lst {neg : Bool} {i : Int} {ns : List Int} {K : D → Prop} (k : K (.bl (if neg then !decide (i ∈ ns) else decide (i ∈ ns)))) : inS neg (.int i) (.lst (ns.map D.int)) K := by
  unfold inS
  exact ⟨rfl, flat_ints ns, by rw [fv_ints]; show K (.bl (if neg then !inV (.int i) _ else inV (.int i) _)); rw [inV_ints]; exact k⟩
theorem inS_tup {neg : Bool} {i : Int} {ns : List Int} {K : D → Prop} (k : K (.bl (if neg then !decide (i ∈ ns) else decide (i ∈ ns)))) : inS neg (.int i) (.tup (ns.map D.int)) K := by
  unfold inS
  exact ⟨rfl, flat_ints ns, by rw [fv_ints]; show K (.bl (if neg then !inV (.int i) _ else inV (.int i) _)); rw [inV_ints]; exact k⟩
theorem ixD_lst {xs : List D} {i : Int} {d : D} {K : D → Prop} (h : atI xs i = some d) (k : K d) : ixD (.lst xs) (.int i) K := by
  unfold ixD
  dsimp only
  rw [h]
  exact k
theorem ixD_tup {xs : List D} {i : Int} {d : D} {K : D → Prop} (h : atI xs i = some d) (k : K d) : ixD (.tup xs) (.int i) K := by
  unfold ixD
  dsimp only
  rw [h]
  exact k
theorem intsOf_ints : ∀ ns : List Int, intsOf (ns.map D.int) = some ns
  | [] => rfl
  | n :: ns => by
    show (intsOf (ns.map D.int)).map _ = _
    rw [intsOf_ints ns]
    rfl
theorem sortedD_ints {ns : List Int} {K : D → Prop} (k : K (.lst ((sortI ns).map D.int))) : sortedD [.lst (ns.map D.int)] K := by
  unfold sortedD
  dsimp only
  rw [intsOf_ints]
  exact k
theorem sortedD_dic {kvs : List (Int × D)} {K : D → Prop} (k : K (.lst ((sortI (kvs.map (·.1))).map D.int))) : sortedD [.dic kvs] K := by
  unfold sortedD
  exact k
theorem minL_ints {n : Int} {ns : List Int} {K : D → Prop} (k : K (.int (minI n ns))) : minL [.lst ((n :: ns).map D.int)] K := by
  unfold minL
  dsimp only
  rw [intsOf_ints]
  exact k
theorem get1_of {kvs : List (Int × D)} {i : Int} {K : D → Prop} (k : K ((valD kvs i).getD .non)) : get1 (.dic kvs) (.int i) K := by
  unfold get1
  exact k
theorem getK_of {kvs : List (Int × D)} {i : Int} {d : D} {K : D → Prop} (h : valD kvs i = some d) (k : K d) : getK (.dic kvs) (.int i) K := by
  unfold getK
  dsimp only
  rw [h]
  exact k
/-! ### loops -/
theorem forD_at {t : Tgt} {b : MSt} {Ks : KS} {ds : List D} {env : EnvS} (I : Nat → EnvS → Prop) (h0 : I 0 env)
    (hs : ∀ i d env (nx : EnvS → Prop), ds[i]? = some d → I i env → (∀ e, I (i + 1) e → nx e) → ∃ l, bindT t d = some l ∧ b (setS env l) { Ks with nx := nx, ct := nx, bk := Ks.nx })
    (hd : ∀ env, I ds.length env → Ks.nx env) : forD t b Ks ds env := by
  have go : ∀ (es : List D) (i : Nat) (env : EnvS), ds = ds.take i ++ es → i + es.length = ds.length → I i env → forD t b Ks es env := by
    intro es
    induction es with
    | nil => intro i env e hl hI; exact hd env (by rw [show ds.length = i by simpa using hl.symm]; exact hI)
    | cons d es ih =>
      intro i env e hl hI
      have hi : i < ds.length := by rw [← hl, List.length_cons]; omega
      have hget : ds[i]? = some d := by
        rw [e, List.getElem?_append_right (by rw [List.length_take]; omega), List.length_take, Nat.min_eq_left (Nat.le_of_lt hi)]
        simp
      obtain ⟨l, h1, h2⟩ := hs i d env (forD t b Ks es) hget hI fun e2 h2 => ih (i + 1) e2 (by
        rw [List.take_add_one, hget, List.append_assoc]
        exact e) (by rw [← hl, List.length_cons]; omega) h2
      exact ⟨l, h1, h2⟩
  exact go ds 0 env (by simp) (by simp) h0
theorem forD_all {t : Tgt} {b : MSt} {Ks : KS} {ds : List D} {env : EnvS} (I : EnvS → Prop) (h0 : I env)
    (hs : ∀ d ∈ ds, ∀ env (nx : EnvS → Prop), I env → (∀ e, I e → nx e) → ∃ l, bindT t d = some l ∧ b (setS env l) { Ks with nx := nx, ct := nx, bk := Ks.nx })
    (hd : ∀ env, I env → Ks.nx env) : forD t b Ks ds env :=
  forD_at (fun _ => I) h0 (fun i d env nx hi hI hn => hs d (List.mem_of_getElem? hi) env nx hI hn) hd
/-! ### comprehensions -/
def lcS (t : Tgt) (tt : MTt) (te : MEt) (env : EnvE) (d : D) (K : Option D → Prop) : Prop := ∃ l, bindT t d = some l ∧ tt (setE env l) (fun b => if b = true then te (setE env l) (fun y => K (some y)) (fun _ => False) else K none) (fun _ => False)
theorem lcD_step {t : Tgt} {tt : MTt} {te : MEt} {env : EnvE} {d : D} {ds : List D} {K : List D → Prop} (h : lcS t tt te env d fun o => match o with
    | some y => lcD t tt te env ds fun r => K (y :: r)
    | none => lcD t tt te env ds K) : lcD t tt te env (d :: ds) K := h
theorem lcD_fm {t : Tgt} {tt : MTt} {te : MEt} {env : EnvE} (g : D → Option D) : ∀ {ds : List D} {K : List D → Prop}, (∀ d ∈ ds, ∀ K : Option D → Prop, K (g d) → lcS t tt te env d K) → K (ds.filterMap g) → lcD t tt te env ds K
  | [], K, _, k => k
  | d :: ds, K, h, k => by
    refine lcD_step (h d List.mem_cons_self _ ?_)
    rw [List.filterMap_cons] at k
    cases q : g d with
    | none =>
      rw [q] at k
      exact lcD_fm g (fun e he => h e (List.mem_cons_of_mem _ he)) k
    | some y =>
      rw [q] at k
      exact lcD_fm g (K := fun r => K (y :: r)) (fun e he => h e (List.mem_cons_of_mem _ he)) k
theorem lcD_any {t : Tgt} {tt : MTt} {te : MEt} {env : EnvE} (P : D → Prop) : ∀ {ds : List D} {K : List D → Prop}, (∀ d ∈ ds, ∀ K : Option D → Prop, (∀ y, P y → K (some y)) → lcS t tt te env d K) → (∀ r, r.length = ds.length → (∀ y ∈ r, P y) → K r) → lcD t tt te env ds K
  | [], K, _, k => k [] rfl (by simp)
  | d :: ds, K, h, k => by
    refine lcD_step (h d List.mem_cons_self _ fun y hy => ?_)
    exact lcD_any P (K := fun r => K (y :: r)) (fun e he => h e (List.mem_cons_of_mem _ he)) fun r hr hp => k (y :: r) (by rw [List.length_cons, List.length_cons, hr]) fun z hz => by
      rcases List.mem_cons.mp hz with e | e
      · rw [e]; exact hy
      · exact hp z e
theorem fm_map {α β : Type} (f : α → D) (g : D → Option D) (h : α → Option β) (f' : β → D) (l : List α) (e : ∀ a ∈ l, g (f a) = (h a).map f') : (l.map f).filterMap g = (l.filterMap h).map f' := by
  induction l with
  | nil => rfl
  | cons a l ih =>
    rw [List.map_cons, List.filterMap_cons, List.filterMap_cons, e a List.mem_cons_self, ih fun b hb => e b (List.mem_cons_of_mem _ hb)]
    cases h a <;> rfl
theorem sz_ok {n : Nat} (h : n ≤ 16777216) : n ≤ sizeLine := by rw [sizeLine_eq]; exact h
theorem sz_lt {n : Nat} (h : n < 16777216) : n < sizeLine := by rw [sizeLine_eq]; exact h
/-! ### counting -/
theorem nodup_len {l : List Int} {b : Nat} (hn : l.Nodup) (hb : ∀ x ∈ l, 0 ≤ x ∧ x < (b : Int)) : l.length ≤ b := by
  induction b generalizing l with
  | zero =>
    cases l with
    | nil => simp
    | cons x r => have := hb x List.mem_cons_self; omega
  | succ b ih =>
    have h1 : (l.erase (b : Int)).length ≤ b := ih (hn.erase _) fun x hx => by
      have h2 := (List.Nodup.mem_erase_iff hn).mp hx
      have h3 := hb x h2.2
      have h4 : x ≠ (b : Int) := h2.1
      omega
    have h5 : l.length ≤ (l.erase (b : Int)).length + 1 := by
      rw [List.length_erase]
      split <;> omega
    omega
theorem nodup_lenI {l : List Int} {b : Int} (h0 : 0 ≤ b) (hn : l.Nodup) (hb : ∀ x ∈ l, 0 ≤ x ∧ x < b) : (l.length : Int) ≤ b := by
  have := nodup_len (b := b.toNat) hn fun x hx => by
    have := hb x hx
    omega
  omega
end L3
/-! L3m: chains of three -/
namespace L3
open PySem PySem.Spec PyProof.Rows L2
def tChain3 (r r' r2 : R2) (ta tb tc td : TE) : TE := fun σ H Q => ta σ H fun x H1 => tb σ H1 fun y H2 => r x y H2 fun z H3 => ∃ k, z = .bl k ∧
  (if k = true then tc σ H3 fun w H4 => r' y w H4 fun z' H5 => ∃ k', z' = .bl k' ∧ (if k' = true then td σ H5 fun u H6 => r2 w u H6 Q else Q (.bl false) H5) else Q (.bl false) H3)
section
variable {X : Cx} {a b c d : Expr} {ta tb tc td : TE} {r r' r2 : R2} {pos : Pos} {C : C3} {E : XK} {ma mb mc md : MEt} {f f' f2 : D → D → (D → Prop) → Prop} {mg : Str → Option Value}
theorem pt_chain3 {op op' op2 : CmpOp} (ho : OpR X (compareOp op) r) (ho' : OpR X (compareOp op') r') (ho2 : OpR X (compareOp op2) r2) (ha : PE X a ta) (hb : PE X b tb) (hc : PE X c tc) (hd : PE X d td)
    (hm : lastMarks [op, op', op2] [b, c, d] = false := by with_unfolding_all rfl) : PT X (.Compare a [op, op', op2] [b, c, d] pos) (tTest (tChain3 r r' r2 ta tb tc td)) := by
  refine ⟨fun pins s σ H Q I h => ?_⟩
  refine isTrue_chain (thn (ha.run pins s σ H _ I h) fun v s1 ⟨x, H1, I1, r1, q1⟩ => test_link (thn (hb.run pins s1 σ H1 _ I1 q1) fun u s2 ⟨y, H2, I2, rr2, q2⟩ =>
    thn (ho pins s2 σ H2 x y v u _ I2 r1 rr2 q2) fun d s3 ⟨z, H3, I3, r3, k, e, q3⟩ => ?_)) hm
  subst e
  cases r3
  refine wpAny_truthy_bool ?_
  cases k with
  | false =>
    obtain ⟨k', e', q'⟩ := q3
    cases e'
    exact ite_ff ⟨H3, I3, q'⟩
  | true =>
    refine ite_tt (test_link (thn (hc.run pins s3 σ H3 _ I3 q3) fun w' s4 ⟨z', H4, I4, r4, q4⟩ => thn (ho' pins s4 σ H4 y z' u w' _ I4 rr2 r4 q4) fun d' s5 ⟨z2, H5, I5, r5, k2, e2, q5⟩ => ?_))
    subst e2
    cases r5
    refine wpAny_truthy_bool ?_
    cases k2 with
    | false =>
      obtain ⟨k', e', q'⟩ := q5
      cases e'
      exact ite_ff ⟨H5, I5, q'⟩
    | true =>
      refine ite_tt (test_last (thn (hd.run pins s5 σ H5 _ I5 q5) fun w2 s6 ⟨z3, H6, I6, r6, q6⟩ => thn (ho2 pins s6 σ H6 z' z3 w' w2 _ I6 r4 r6 q6) fun d2 s7 ⟨z4, H7, I7, r7, k3, e3, q7⟩ => ?_))
      subst e3
      cases r7
      exact wpAny_truthy_bool ⟨H7, I7, q7⟩
def m4 (f f' f2 : D → D → (D → Prop) → Prop) (ma mb mc md : MEt) : MEt := fun env Kd KX => ma env (fun d => mb env (fun e => f d e fun z => isB z fun k => if k = true then mc env (fun g => f' e g fun z' => isB z' fun k' => if k' = true then md env (fun h => f2 g h Kd) KX else Kd (.bl false)) KX else Kd (.bl false)) KX) KX
theorem lift4 (ho : OpD C r f) (ho' : OpD C r' f') (ho2 : OpD C r2 f2) {σ : L2.St} {H : Hp} {Q : VK} (h : lift C mg E (m4 f f' f2 ma mb mc md) σ H Q) : tChain3 r r' r2 (lift C mg E ma) (lift C mg E mb) (lift C mg E mc) (lift C mg E md) σ H Q := by
  obtain ⟨env, G, Kd, KX, ok, vr, hm, pv, px⟩ := h
  refine ⟨env, G, _, KX, ok, vr, hm, fun d x H1 G1 s1 ok1 r1 k1 => ⟨env, G1, _, KX, ok1, vr.mono s1.ge, k1, fun e y H2 G2 s2 ok2 r2 k2 =>
    ho x y d e H2 G2 _ _ ok2 (r1.mono s2.ge) r2 k2 fun z v H3 G3 s3 ok3 r3 k3 => ?_, px.on ok s1⟩, px⟩
  have k3 : isB z _ := k3
  have s02 := s1.trans ok2 s2
  have s03 := s02.trans ok3 s3
  obtain ⟨k, rfl, rfl⟩ : ∃ k, z = .bl k ∧ v = .bl k := by cases r3 <;> first | exact k3.elim | exact ⟨_, rfl, rfl⟩
  refine ⟨k, rfl, ?_⟩
  cases k with
  | false => exact pv _ _ _ _ s03 ok3 (.bl false) k3
  | true =>
    refine ⟨env, G3, _, KX, ok3, vr.mono s03.ge, k3, fun g w H4 G4 s4 ok4 r4 k4 => ho' y w e g H4 G4 _ _ ok4 (r2.mono (s3.ge.trans s4.ge)) r4 k4 fun z' v' H5 G5 s5 ok5 r5 k5 => ?_, px.on ok s03⟩
    have k5 : isB z' _ := k5
    have s05 := (s03.trans ok4 s4).trans ok5 s5
    obtain ⟨k', rfl, rfl⟩ : ∃ k, z' = .bl k ∧ v' = .bl k := by cases r5 <;> first | exact k5.elim | exact ⟨_, rfl, rfl⟩
    refine ⟨k', rfl, ?_⟩
    cases k' with
    | false => exact pv _ _ _ _ s05 ok5 (.bl false) k5
    | true => exact ⟨env, G5, _, KX, ok5, vr.mono s05.ge, k5, fun h u H6 G6 s6 ok6 r6 k6 => ho2 w u g h H6 G6 Kd Q ok6 (r4.mono (s5.ge.trans s6.ge)) r6 k6 (pv.on (s05.trans ok6 s6)), px.on ok s05⟩
theorem mt_leLeLt (ha : ME X C E a ma) (hb : ME X C E b mb) (hc : ME X C E c mc) (hd : ME X C E d md) (hm : lastMarks [.LtE, .LtE, .Lt] [b, c, d] = false := by with_unfolding_all rfl) : MT X C E (.Compare a [.LtE, .LtE, .Lt] [b, c, d] pos) (mB (m4 (ordD pLe) (ordD pLe) (ordD pLt) ma mb mc md)) :=
  PT.imp (pt_chain3 op_le op_le op_lt ha hb hc hd hm) fun _ _ _ h => lift4 (od_ord pLe) (od_ord pLe) (od_ord pLt) (liftB h)
end
/-! ### a loop over a list of its own that the body leaves -/
def forOD (j : Nat) (t : Tgt) (b : MSt) (Ks : KS) (w : Slot) : List D → EnvS → Prop
  | [], env => env[j]? = some (some w) ∧ Ks.nx env
  | d :: ds, env => env[j]? = some (some w) ∧ ∃ l, bindT t d = some l ∧ b (setS env l) { Ks with nx := forOD j t b Ks w ds, ct := forOD j t b Ks w ds, bk := Ks.nx }
def mForO (j : Nat) (t : Tgt) (b : MSt) : MSt := fun env Ks => ownL env j fun p ds => forOD j t b Ks (.own p (.lst ds)) ds env
theorem ms_forO {X : Cx} {C : C3} {E : XK} {fr : Bool} {B : Hp} {tg iter : Expr} {a : List Stmt} {pos : Pos} {ms : MSt} {t : Tgt} (j : Nat) (hp : PassesOwn (model X.prog X.w) X.A X.env X.xe) (hc : X.calm = true) (hK : X.K = C.K) (hi : PI X tg iter (iList X.K (tVar j))) (hg : PG X tg (gOf X.K t)) (hb : MSs X C E fr B a ms)
    (hs : ∀ x, foldedSetIterable iter X.env x = pure x := by intro _; rfl) : MS X C E fr B (.For tg iter a [] pos) (mForO j t ms) := fun G0 => by
  have hb' : PSs X a (fun En σ H => ∃ Gi, liftS C X.mg E fr B Gi ms En σ H) := ⟨fun pins s σ H En I ⟨Gi, h⟩ => (hb Gi).run pins s σ H En I h⟩
  refine PS.imp (ps_for hp hc hi hg hb' hs) fun En σ H ⟨env, G, Ks, er, hm, f⟩ => ?_
  obtain ⟨p, ds, hq, hm⟩ := ownL_inv hm
  obtain ⟨h1, h2, h3, h4, ob, h5, h6⟩ := er.own j p _ hq
  cases h6 with
  | lst rl =>
    refine ⟨.ref p, h1, p, rfl, ⟨_, .inl (.inl h5)⟩, ?_⟩
    have er1 : ER C B G H G env σ := ⟨⟨er.z.ok, Same.refl _, fun a o h h' => absurd (h.symm.trans h') (fun z => nomatch z), er.z.keep⟩, er.len, er.sh, er.own, er.dis⟩
    have f1 := f.up er.z
    refine ⟨fun i m σ H => m = ds.length - i ∧ i ≤ ds.length ∧ ∃ env G2, ER C B G H G2 env σ ∧ forOD j t ms Ks (.own p (.lst ds)) (ds.drop i) env, ⟨ds.length, by simp, Nat.zero_le _, env, G, er1, by simpa using hm⟩, ?_⟩
    rintro i m σ2 H2 ⟨rfl, hi2, env2, G2, er2, k2⟩
    by_cases hlt : i < ds.length
    · have hd : ds[i]? = some ds[i] := List.getElem?_eq_getElem hlt
      rw [List.drop_eq_getElem_cons hlt] at k2
      obtain ⟨hat, l, hb2, k2⟩ := k2
      obtain ⟨_, _, _, _, ob2, h5', h6'⟩ := er2.own j p _ hat
      cases h6' with
      | lst rl2 =>
        obtain ⟨v, hv, rv⟩ := rl2.get hd
        refine .inr ⟨⟨_, v, .inl (.inl h5'), hv⟩, fun σ' H' => i + 1 ≤ ds.length ∧ ∃ env G2, ER C B G H' G2 env σ' ∧ forOD j t ms Ks (.own p (.lst ds)) (ds.drop (i + 1)) env, fun σ' H' hn => ⟨ds.length - (i + 1), by omega, rfl, hn⟩, fun x H3 yy => ?_⟩
        obtain ⟨rfl, hx⟩ := yy
        have ex := hx _ (.inl (.inl h5'))
        rw [hv] at ex
        cases ex
        refine gOf_ok (fun a o q => (er2.z.ok.sub a o q).2) (by rw [hK]; exact rv) hb2 fun ws pw _ => ⟨G, _, G2, _, ER.setAll (by rw [← hK]; exact pw) er2, k2, ?_⟩
        exact ⟨fun env σ H G er k => ⟨hlt, env, G, er, k⟩, fun env σ H G er k => f1.nx env σ H G er k, fun env σ H G er k => ⟨hlt, env, G, er, k⟩, f1.rt, f1.ex⟩
    · have e : i = ds.length := by omega
      subst e
      rw [List.drop_length] at k2
      obtain ⟨hat, k2⟩ := k2
      obtain ⟨_, _, _, _, ob2, h5', h6'⟩ := er2.own j p _ hat
      cases h6' with
      | lst rl2 => exact .inl ⟨⟨_, .inl (.inl h5'), by rw [← rl2.length]; exact Nat.le_refl _⟩, f1.nx env2 σ2 H2 G2 er2 k2⟩
theorem forOD_at {j : Nat} {t : Tgt} {b : MSt} {Ks : KS} {w : Slot} {ds : List D} {env : EnvS} (I : Nat → EnvS → Prop) (h0 : I 0 env)
    (hw : ∀ i env, I i env → env[j]? = some (some w))
    (hs : ∀ i d env (nx : EnvS → Prop), ds[i]? = some d → I i env → (∀ e, I (i + 1) e → nx e) → ∃ l, bindT t d = some l ∧ b (setS env l) { Ks with nx := nx, ct := nx, bk := Ks.nx })
    (hd : ∀ env, I ds.length env → Ks.nx env) : forOD j t b Ks w ds env := by
  have go : ∀ (es : List D) (i : Nat) (env : EnvS), ds = ds.take i ++ es → i + es.length = ds.length → I i env → forOD j t b Ks w es env := by
    intro es
    induction es with
    | nil => intro i env e hl hI; exact ⟨hw i env hI, hd env (by rw [show ds.length = i by simpa using hl.symm]; exact hI)⟩
    | cons d es ih =>
      intro i env e hl hI
      have hi : i < ds.length := by rw [← hl, List.length_cons]; omega
      have hget : ds[i]? = some d := by
        rw [e, List.getElem?_append_right (by rw [List.length_take]; omega), List.length_take, Nat.min_eq_left (Nat.le_of_lt hi)]
        simp
      obtain ⟨l, h1, h2⟩ := hs i d env (forOD j t b Ks w es) hget hI fun e2 h2 => ih (i + 1) e2 (by
        rw [List.take_add_one, hget, List.append_assoc]
        exact e) (by rw [← hl, List.length_cons]; omega) h2
      exact ⟨hw i env hI, l, h1, h2⟩
  exact go ds 0 env (by simp) (by simp) h0
/-! ### the lists of its own are frozen ahead of the statement -/
def mFrzA (ms : MSt) : MSt := fun env Ks => ms (frzE env) Ks
theorem ms_frzA {X : Cx} {C : C3} {E : XK} {fr : Bool} {B : Hp} {st : Stmt} {ms : MSt} (h : MS X C E fr B st ms) : MS X C E fr B st (mFrzA ms) := fun G0 => PS.imp (h G0) fun En σ H ⟨env, G, Ks, er, hm, f⟩ =>
  ⟨frzE env, _, Ks, er.frozen Stp.refl er.lend.1, hm, f⟩
end L3
/-! L3n: count, index, isinstance of a caught error; a def that is handed a lambda -/
namespace L3
open PySem PySem.Spec PyProof.Rows L2
section
variable {X : Cx} {C : C3} {E : XK} {o e : Expr} {mo ma : MEt} {apos cpos : Pos}
def rCountF (K : PySem.W.Frag) : V → List V → Hp → VK → Prop := fun x xs H Q => ∃ (p : Addr) (ys : List V) (y : V), x = .ref p ∧ xs = [y] ∧ SqL K H p ys ∧ flatV y = true ∧ ys.all flatV = true ∧ Q (.int ((ys.countP fun z => eqV z y : Nat) : Int)) H
theorem countP_eqU {y : V} : ∀ {ys : List V} {us : List Value}, Vals ys us → ys.all flatV = true → us.countP (eqU y) = ys.countP fun z => eqV z y
  | _, _, .nil, _ => rfl
  | z :: ys, u :: us, .cons r t, f => by
    rw [List.all_cons, Bool.and_eq_true] at f
    rw [List.countP_cons, List.countP_cons, countP_eqU t f.2, eqU_of r f.1]
theorem mt_countF : MtR X "list.count" (rCountF X.K) := by
  intro pins s σ H x xs v us Q I rx rxs h
  obtain ⟨p, ys, y, rfl, rfl, hs, fy, fys, q⟩ := h
  cases rx
  obtain ⟨u, rfl, ru⟩ := rxs.one
  obtain ⟨its, rv, ⟨⟨cls, dd, data, sl⟩, n, ho, hc, hdn, hd⟩, hlen⟩ := I.list hs
  simp only at hc hd
  subst hc hd
  refine call_meets PySem.F.slot_list_count ⟨_, ho, rfl⟩ PySem.F.entry_list_count (PySem.F.args_list_count_2 _ _)
    (SeqAt.list_countAt p its.toArray n dd sl u (eqU y)) ⟨ho, fun u' hu' => mem_eqAt ru fy rv fys u' (by simpa using hu'), ?_⟩
  have ec : its.toArray.toList.countP (eqU y) = ys.countP fun z => eqV z y := countP_eqU rv fys
  refine ⟨.int ((ys.countP fun z => eqV z y : Nat) : Int), H, I.tok _, ⟨s.toks, ?_⟩, q⟩
  show Value.int ((its.toArray.toList.countP (eqU y) : Nat) : Int) s.toks = Value.int ((ys.countP fun z => eqV z y : Nat) : Int) s.toks
  rw [ec]
/-- xs.count(y), xs.index(y) -/
def mCountM (mo ma : MEt) : MEt := fun env Kd KX => mo env (fun d => (∃ ds, d = .lst ds) ∧ ma env (fun y => match d with
  | .lst ds => flatD y = true ∧ ds.all flatD = true ∧ Kd (.int (((ds.map fv).countP fun z => eqV z (fv y) : Nat) : Int))
  | _ => False) KX) KX
theorem me_count (hK : X.K = C.K) (h : PE X (.Call (.Attribute o "count" apos) [e] [] cpos) (tBM X.K "list" (rCountF X.K) (lift C X.mg E mo) (tCons (lift C X.mg E ma) tNil))) : ME X C E (.Call (.Attribute o "count" apos) [e] [] cpos) (mCountM mo ma) := PE.imp h fun σ H Q ⟨env, G, Kd, KX, ok, vr, hm, pv, px⟩ => by
  refine ⟨env, G, _, KX, ok, vr, hm, fun d x H1 G1 s1 ok1 r1 k1 => ?_, px⟩
  obtain ⟨⟨ds, rfl⟩, k1⟩ := k1
  cases r1 with
  | lst ha ra =>
    refine .inl ⟨rfl, _, .inl (.inl (ok1.sub _ _ ha).2)⟩ |> fun z => ⟨z, env, G1, _, KX, ok1, vr.mono s1.ge, k1, fun y v H2 G2 s2 ok2 r2 k2 => ?_, px.on ok s1⟩
    obtain ⟨f1, f2, k2⟩ := k2
    obtain ⟨e1, e2⟩ := r2.flat f1
    obtain ⟨e3, e4⟩ := (ra.mono s2.ge).flat f2
    refine ⟨_, _, v, rfl, rfl, .inl (.inl (ok2.sub _ _ (s2.ge _ _ ha)).2), e2, e4, ?_⟩
    rw [e1, e3]
    exact pv _ _ H2 G2 (s1.trans ok2 s2) ok2 (.int _) k2
def mIndexM (mo ma : MEt) : MEt := fun env Kd KX => mo env (fun d => (∃ ds, d = .lst ds) ∧ ma env (fun y => match d with
  | .lst ds => flatD y = true ∧ ds.all flatD = true ∧ ∃ (j : Nat) (z : D), ds[j]? = some z ∧ eqV (fv z) (fv y) = true ∧ (∀ (m : Nat) (z' : D), m < j → ds[m]? = some z' → eqV (fv z') (fv y) = false) ∧ Kd (.int (j : Nat))
  | _ => False) KX) KX
theorem me_index (hK : X.K = C.K) (h : PE X (.Call (.Attribute o "index" apos) [e] [] cpos) (tBM X.K "list" (rIndex X.K) (lift C X.mg E mo) (tCons (lift C X.mg E ma) tNil))) : ME X C E (.Call (.Attribute o "index" apos) [e] [] cpos) (mIndexM mo ma) := PE.imp h fun σ H Q ⟨env, G, Kd, KX, ok, vr, hm, pv, px⟩ => by
  refine ⟨env, G, _, KX, ok, vr, hm, fun d x H1 G1 s1 ok1 r1 k1 => ?_, px⟩
  obtain ⟨⟨ds, rfl⟩, k1⟩ := k1
  cases r1 with
  | lst ha ra =>
    refine .inl ⟨rfl, _, .inl (.inl (ok1.sub _ _ ha).2)⟩ |> fun z => ⟨z, env, G1, _, KX, ok1, vr.mono s1.ge, k1, fun y v H2 G2 s2 ok2 r2 k2 => ?_, px.on ok s1⟩
    obtain ⟨f1, f2, j, z, hz, hj, hno, k2⟩ := k2
    obtain ⟨e1, e2⟩ := r2.flat f1
    obtain ⟨e3, e4⟩ := (ra.mono s2.ge).flat f2
    refine ⟨_, _, v, j, fv z, rfl, rfl, .inl (.inl (ok2.sub _ _ (s2.ge _ _ ha)).2), e2, e4, ?_, by rw [e1]; exact hj, fun m z' hm hz' => ?_, pv _ _ H2 G2 (s1.trans ok2 s2) ok2 (.int _) k2⟩
    · rw [e3, List.getElem?_map, hz]
      rfl
    · rw [e3, List.getElem?_map] at hz'
      cases q : ds[m]? with
      | none => rw [q] at hz'; cases hz'
      | some w =>
        rw [q] at hz'
        cases hz'
        rw [e1]
        exact hno m w hm q
/-- isinstance(e, c) of the error that the suite holds, without a dict -/
def mIsE (i : Nat) (a : Addr) (b : Bool) : MEt := fun env Kd KX => mVar i env (fun d => d = .ref a ∧ Kd (.bl b)) KX
theorem me_isE {a D A : Addr} {oe : Obj} {pn : List (Addr × Obj)} {b : Bool} {e c : Str} {p pe pc pos : Pos} (i : Nat) (F : Free X.mg) (hK : X.K = C.K) (Xc : ExcC X.K D) (hz : Zc (.ref D) none oe) (hf : ∃ vs, oe.data = .fields vs) (hg : Gl (X.suite a ((a, oe) :: pn)) "isinstance") (he : ME (X.suite a ((a, oe) :: pn)) C E (.Name e pe) (mVar i))
    (hc : Gl (X.suite a ((a, oe) :: pn)) c) (hm : X.mg c = some (.ref A)) (hk : PySem.W.kitOne X.K (.ref D) (.ref A) = some b) (hd : (c == ("__debug__" : Str)) = false := by decide)
    (h1 : starEach [.Name e pe, .Name c pc] (X.suite a ((a, oe) :: pn)).env = (false, eval (.Name e pe) (X.suite a ((a, oe) :: pn)).env) :: starEach [.Name c pc] (X.suite a ((a, oe) :: pn)).env := by rfl)
    (h2 : starEach [.Name c pc] (X.suite a ((a, oe) :: pn)).env = (false, eval (.Name c pc) (X.suite a ((a, oe) :: pn)).env) :: starEach [] (X.suite a ((a, oe) :: pn)).env := by rfl) (hpl : (backTo pos (starEach [.Name c pc] (X.suite a ((a, oe) :: pn)).env)).any (·.1) = false := by rfl) :
    ME (X.suite a ((a, oe) :: pn)) C E (.Call (.Name "isinstance" p) [.Name e pe, .Name c pc] [] pos) (mIsE i a b) :=
  PE.imp (pe_callB (call_isE Xc hz hf) hg F.isinstance PyProof.Rows.boot_isinstance (pa_cons he (pa_cons (pe_glob (v := .ref A) hc hm rfl hd) pa_nil h2) h1) (by decide) (by decide) h1 hpl) fun σ H Q ⟨env, G, Kd, KX, ok, vr, hm', pv, px⟩ => by
  refine ⟨env, G, _, KX, ok, vr, hm', fun d v H1 G1 s1 ok1 r1 k1 => ?_, px⟩
  obtain ⟨rfl, k1⟩ := k1
  cases r1
  exact ⟨.ref A, .ref A, b, rfl, fun u r => r, hk, pv _ _ H1 G1 s1 ok1 (.bl b) k1⟩
theorem me_isET {a D : Addr} {oe : Obj} {pn : List (Addr × Obj)} {b : Bool} {e c : Str} {T : String} {p pe pc pos : Pos} (i : Nat) (F : Free X.mg) (hK : X.K = C.K) (Xc : ExcC X.K D) (hz : Zc (.ref D) none oe) (hf : ∃ vs, oe.data = .fields vs) (hg : Gl (X.suite a ((a, oe) :: pn)) "isinstance") (he : ME (X.suite a ((a, oe) :: pn)) C E (.Name e pe) (mVar i))
    (hc : Gl (X.suite a ((a, oe) :: pn)) c) (hm : X.mg c = none) (hb : bootBuiltins c = some (.type T)) (hk : PySem.W.kitOne X.K (.ref D) (.type T) = some b) (hn : c ≠ "__name__" := by decide) (hd : (c == ("__debug__" : Str)) = false := by decide)
    (h1 : starEach [.Name e pe, .Name c pc] (X.suite a ((a, oe) :: pn)).env = (false, eval (.Name e pe) (X.suite a ((a, oe) :: pn)).env) :: starEach [.Name c pc] (X.suite a ((a, oe) :: pn)).env := by rfl)
    (h2 : starEach [.Name c pc] (X.suite a ((a, oe) :: pn)).env = (false, eval (.Name c pc) (X.suite a ((a, oe) :: pn)).env) :: starEach [] (X.suite a ((a, oe) :: pn)).env := by rfl) (hpl : (backTo pos (starEach [.Name c pc] (X.suite a ((a, oe) :: pn)).env)).any (·.1) = false := by rfl) :
    ME (X.suite a ((a, oe) :: pn)) C E (.Call (.Name "isinstance" p) [.Name e pe, .Name c pc] [] pos) (mIsE i a b) :=
  PE.imp (pe_callB (call_isE Xc hz hf) hg F.isinstance PyProof.Rows.boot_isinstance (pa_cons he (pa_cons (pe_bltn (v := .ty T) hc hm hb rfl hn hd) pa_nil h2) h1) (by decide) (by decide) h1 hpl) fun σ H Q ⟨env, G, Kd, KX, ok, vr, hm', pv, px⟩ => by
  refine ⟨env, G, _, KX, ok, vr, hm', fun d v H1 G1 s1 ok1 r1 k1 => ?_, px⟩
  obtain ⟨rfl, k1⟩ := k1
  cases r1
  exact ⟨.ty T, .type T, b, rfl, fun u r => r, hk, pv _ _ H1 G1 s1 ok1 (.bl b) k1⟩
/-- never come to -/
def mNo : MEt := fun _ _ _ => False
theorem me_no : ME X C E e mNo := ⟨fun pins s σ H Q I ⟨_, _, _, _, _, _, h, _⟩ => h.elim⟩
end
/-! ### _law_kind -/
/-- what a class must say, so that _law_kind tells its word w -/
structure Kinds (K : PySem.W.Frag) (mg : Str → Option Value) (D : Addr) (w : Str) : Prop where
  ex : ExcC K D
  mv : ∃ A, mg "MoveError" = some (.ref A) ∧ PySem.W.exmOne K (.ref D) (.ref A) = some true
  kd : ∀ c ∈ (["BadLead", "BadSpare", "BadMove", "NoWay", "BadWord", "BadHouse", "BadCall", "BadText"] : List Str), ∃ A, mg c = some (.ref A) ∧ PySem.W.kitOne K (.ref D) (.ref A) = some (decide (c = w))
  ve : PySem.W.kitOne K (.ref D) (.type "ValueError") = some true
abbrev N__law_kind : List Str := ["_law_work", "e", "_law_kinds", "_law_words", "_law_word"]
def m__law_kind (a : Addr) (b_BadLead b_BadSpare b_BadMove b_NoWay b_BadWord b_BadHouse b_BadCall b_BadText : Bool) : MSt :=
  (mSeq (mSet 2 (mLst (aCons (mIsE 1 a b_BadLead) (aCons (mIsE 1 a b_BadSpare) (aCons (mIsE 1 a b_BadMove) (aCons (mIsE 1 a b_NoWay) aNil))))))
  (mSeq (mSetF 2 (m2 catD (mVar 2) (mLst (aCons (mIsE 1 a b_BadWord) (aCons (mIsE 1 a b_BadHouse) (aCons (mIsE 1 a b_BadCall) aNil))))))
  (mSeq (mAppend 2 (mIsE 1 a b_BadText))
  (mSeq (mSet 3 (mLst (aCons (mC (.str "BadLead")) (aCons (mC (.str "BadSpare")) (aCons (mC (.str "BadMove")) (aCons (mC (.str "NoWay")) (aCons (mC (.str "BadWord")) (aCons (mC (.str "BadHouse")) (aCons (mC (.str "BadCall")) (aCons (mC (.str "BadText")) aNil))))))))))
  (mSeq (mIfS (mOr (mB (m2 (eqE true) (mCountM (mVar 2) (mC (.bl true))) (mC (.int 1)))) (mNot (mB (mIsE 1 a true)))) (mRet (mC (.str "other"))) mNext)
  (mSeq (mSetL 4 (m2 ixD (mVar 3) (mIndexM (mVar 2) (mC (.bl true)))))
  (mSeq (mIfS (mB (m2 (eqE false) (mVar 4) (mC (.str "BadMove")))) (mRet (mTup (aCons (mVar 4) (aCons mNo aNil)))) mNext)
  (mRet (mIf (mB (m2 (eqE false) (mVar 4) (mC (.str "BadText")))) (mTup (aCons (mVar 4) (aCons mNo aNil))) (mVar 4))))))))))
def oneHot (w c : Str) : Bool := decide (c = w)
theorem pu_kind_BadLead (a : Addr) (Ks : KS) (k : Ks.rt (.str "BadLead")) : m__law_kind a true false false false false false false false [none, some (.sh (.ref a)), none, none, none] Ks := by
  refine ⟨rfl, rfl, rfl, rfl, by decide, rfl, rfl, rfl, by decide, by decide, fun q => ⟨rfl, by decide, ⟨by decide, ?_⟩⟩⟩
  refine ⟨⟨_, rfl⟩, rfl, rfl, eqE_int ?_⟩
  refine ⟨rfl, ⟨_, rfl⟩, rfl, rfl, 0, .bl true, rfl, rfl, fun m z' hm hz => ?_, ixD_lst (d := .str "BadLead") rfl ⟨rfl, eqE_str ?_⟩⟩
  · omega
  · exact eqE_str k
theorem pu_kind_BadSpare (a : Addr) (Ks : KS) (k : Ks.rt (.str "BadSpare")) : m__law_kind a false true false false false false false false [none, some (.sh (.ref a)), none, none, none] Ks := by
  refine ⟨rfl, rfl, rfl, rfl, by decide, rfl, rfl, rfl, by decide, by decide, fun q => ⟨rfl, by decide, ⟨by decide, ?_⟩⟩⟩
  refine ⟨⟨_, rfl⟩, rfl, rfl, eqE_int ?_⟩
  refine ⟨rfl, ⟨_, rfl⟩, rfl, rfl, 1, .bl true, rfl, rfl, fun m z' hm hz => ?_, ixD_lst (d := .str "BadSpare") rfl ⟨rfl, eqE_str ?_⟩⟩
  · match m, hm, hz with | 0, _, rfl => rfl
  · exact eqE_str k
theorem pu_kind_NoWay (a : Addr) (Ks : KS) (k : Ks.rt (.str "NoWay")) : m__law_kind a false false false true false false false false [none, some (.sh (.ref a)), none, none, none] Ks := by
  refine ⟨rfl, rfl, rfl, rfl, by decide, rfl, rfl, rfl, by decide, by decide, fun q => ⟨rfl, by decide, ⟨by decide, ?_⟩⟩⟩
  refine ⟨⟨_, rfl⟩, rfl, rfl, eqE_int ?_⟩
  refine ⟨rfl, ⟨_, rfl⟩, rfl, rfl, 3, .bl true, rfl, rfl, fun m z' hm hz => ?_, ixD_lst (d := .str "NoWay") rfl ⟨rfl, eqE_str ?_⟩⟩
  · match m, hm, hz with | 0, _, rfl => rfl | 1, _, rfl => rfl | 2, _, rfl => rfl
  · exact eqE_str k
theorem pu_kind_BadWord (a : Addr) (Ks : KS) (k : Ks.rt (.str "BadWord")) : m__law_kind a false false false false true false false false [none, some (.sh (.ref a)), none, none, none] Ks := by
  refine ⟨rfl, rfl, rfl, rfl, by decide, rfl, rfl, rfl, by decide, by decide, fun q => ⟨rfl, by decide, ⟨by decide, ?_⟩⟩⟩
  refine ⟨⟨_, rfl⟩, rfl, rfl, eqE_int ?_⟩
  refine ⟨rfl, ⟨_, rfl⟩, rfl, rfl, 4, .bl true, rfl, rfl, fun m z' hm hz => ?_, ixD_lst (d := .str "BadWord") rfl ⟨rfl, eqE_str ?_⟩⟩
  · match m, hm, hz with | 0, _, rfl => rfl | 1, _, rfl => rfl | 2, _, rfl => rfl | 3, _, rfl => rfl
  · exact eqE_str k
theorem pu_kind_BadHouse (a : Addr) (Ks : KS) (k : Ks.rt (.str "BadHouse")) : m__law_kind a false false false false false true false false [none, some (.sh (.ref a)), none, none, none] Ks := by
  refine ⟨rfl, rfl, rfl, rfl, by decide, rfl, rfl, rfl, by decide, by decide, fun q => ⟨rfl, by decide, ⟨by decide, ?_⟩⟩⟩
  refine ⟨⟨_, rfl⟩, rfl, rfl, eqE_int ?_⟩
  refine ⟨rfl, ⟨_, rfl⟩, rfl, rfl, 5, .bl true, rfl, rfl, fun m z' hm hz => ?_, ixD_lst (d := .str "BadHouse") rfl ⟨rfl, eqE_str ?_⟩⟩
  · match m, hm, hz with | 0, _, rfl => rfl | 1, _, rfl => rfl | 2, _, rfl => rfl | 3, _, rfl => rfl | 4, _, rfl => rfl
  · exact eqE_str k
theorem pu_kind_BadCall (a : Addr) (Ks : KS) (k : Ks.rt (.str "BadCall")) : m__law_kind a false false false false false false true false [none, some (.sh (.ref a)), none, none, none] Ks := by
  refine ⟨rfl, rfl, rfl, rfl, by decide, rfl, rfl, rfl, by decide, by decide, fun q => ⟨rfl, by decide, ⟨by decide, ?_⟩⟩⟩
  refine ⟨⟨_, rfl⟩, rfl, rfl, eqE_int ?_⟩
  refine ⟨rfl, ⟨_, rfl⟩, rfl, rfl, 6, .bl true, rfl, rfl, fun m z' hm hz => ?_, ixD_lst (d := .str "BadCall") rfl ⟨rfl, eqE_str ?_⟩⟩
  · match m, hm, hz with | 0, _, rfl => rfl | 1, _, rfl => rfl | 2, _, rfl => rfl | 3, _, rfl => rfl | 4, _, rfl => rfl | 5, _, rfl => rfl
  · exact eqE_str k
/-- what _law_kind makes of the lambda's reading -/
def TTk (C : C3) (mg : Str → Option Value) (ws : List Str) : (XK → Hp → VK → Prop) → Hp → VK → Prop := fun tl H Q =>
  tl (fun cls d H' => ∃ (w : Str) (G : Hp) (D : Addr), Ok3 C H' G ∧ w ∈ ws ∧ cls = .ref D ∧ d = none ∧ Kinds C.K mg D w ∧ PostV C H' G (fun y => y = .str w) Q) H Q
def mKind (ws : List Str) (m : MEt) : MEt := fun env Kd KX => m env Kd fun x => x.num = none ∧ x.cls ∈ ws ∧ Kd (.str x.cls)
theorem lam_ok {C : C3} {H H1 G : Hp} (ok : Ok3 C H G) (hf : ∀ p ∈ C.fix, notTbl p.2 = true) (e : LamX.ExtN H H1) (tb : LamX.Tabs C.tabs H1) : Ok3 C H1 G ∧ Stp C H G H1 G := by
  have ne : ∀ {o : HO}, notTbl o = true → ∀ ps, o ≠ .tbl ps := fun {o} n ps q => by rw [q] at n; exact absurd n Bool.false_ne_true
  refine ⟨⟨⟨fun a sa ns h => ?_, fun p hp => e _ _ (ok.iv.fx p hp) (ne (hf p hp)), tb⟩, fun a o h => ⟨(ok.sub a o h).1, e _ _ (ok.sub a o h).2 (ne (ok.nt a o h))⟩, ok.nt⟩, fun a o _ h => nT_of (e _ _ (nT_to h).1 (ne (nT_to h).2)) (nT_to h).2, Same.refl _, fun a o h h' => absurd (h.symm.trans h') (fun z => nomatch z)⟩
  obtain ⟨⟨i, m, r, h1, h2⟩, h3⟩ := ok.iv.st a sa ns h
  exact ⟨⟨i, m, r, e _ _ h1 (ne rfl), h2⟩, h3⟩
open LamX in
/-- _law_kind(lambda: body) -/
theorem me_kind {X : Cx} {C : C3} {E : XK} {ws : List Str} {m : MEt} {x a : Str} {g c P : Addr} {k : Nat} {pg : Arguments} {bg : List Stmt} {sg : Scope} {dV kV doc pm cdv ct oc : Value} {an od : Option Addr} {osl : Array (Option Value)} {Ng : List Str}
    {params : Arguments} {body : Expr} {scope : Scope} {p lpos pos : Pos} (hK : X.K = C.K) (hfx : ∀ p ∈ C.fix, notTbl p.2 = true) (kt : ∀ w ∈ ws, ∃ D, X.mg w = some (.ref D) ∧ Kinds X.K X.mg D w) (hg : Gl X x) (hm : X.mg x = some (.ref g)) (hk : PySem.W.keepIn X.K (.ref g) = true)
    (lk : X.K.lookup g = some ⟨oc, od, .func (PySem.W.fnOf x x pg bg sg dV kV doc pm an cdv ct), osl⟩) (hcg : PySem.W.codeIn X.K cdv x = true) (hb : L2.Binds X.K (PySem.W.fnOf x x pg bg sg dV kV doc pm an cdv ct) [a] []) (Sg : FnScope Ng [a] sg) (hNg : Ng[0]? = some a) (hva : Vis sg a)
    (hG : GivesTo X Ng x sg g cdv bg a (X.env.qual ++ "<lambda>") (TTk C X.mg ws))
    (TB : TabB X.base X.mg c P) (hcode : X.env.code = .ref c) (hmT : (P, X.env.qual ++ "<lambda>") ∈ C.tabs) (hu : ∀ p ∈ C.tabs, p.1 = P → p.2 = X.env.qual ++ "<lambda>") (hr : Room (k + 2) X.A) (L : LamS X.env.scope scope) (hdef : defaultsOf params X.env = ([], []))
    (hbind : ∀ (q : Str) (cl : List (Str × Addr)) (pm cv ctv : Value), bindArgs (PySem.W.kla_fn "<lambda>" q params body scope cl pm cv ctv) ⟨[], []⟩ = pure [])
    (hbody : ∀ (A : Around) (outer : List Env) (s : Shared) (H : Hp) (E : XK) (f c' : Addr), Room k (A.deeper (lamEnv X scope s.heap.objs.size f c')) → ME (lamCx X A outer s H E scope f c') C E body m)
    (hdb : (x == ("__debug__" : Str)) = false := by decide) (hd : (a == ("__debug__" : Str)) = false := by decide) (hcd : (a == ("__classdict__" : Str)) = false := by decide) :
    ME X C E (.Call (.Name x p) [.Lambda params body scope lpos] [] pos) (mKind ws m) :=
  PE.imp (pe_lamcall (T := C.tabs) (TT := TTk C X.mg ws) (t := fun E => lift C X.mg E m) hg hm hk lk hcg hb Sg hNg hva hG TB hcode hmT hu hr L hdef hbind hbody hdb hd hcd) fun σ H Q ⟨env, G, Kd, KX, ok, vr, hm, pv, px⟩ => by
  refine ⟨ok.iv.tb, fun H1 eN tb => ?_⟩
  obtain ⟨ok1, s1⟩ := lam_ok ok hfx eN tb
  refine ⟨env, G, Kd, _, ok1, vr, hm, pv.on s1, fun x cls d H2 kx s2 ok2 r => ?_⟩
  obtain ⟨hn, hw, kx⟩ := kx
  obtain ⟨A, h1, h2, h3⟩ := r
  rw [hn] at h3
  obtain ⟨D, g1, g2⟩ := kt _ hw
  rw [h1] at g1
  cases g1
  exact ⟨x.cls, G, A, ok2, hw, h2, h3, by rw [← hK]; exact g2, fun y v H3 G3 s3 ok3 r3 e => pv y v H3 G3 ((s1.trans ok2 s2).trans ok3 s3) ok3 r3 (by rw [e]; exact kx)⟩
/-! ### raising -/
structure XOk (K : PySem.W.Frag) (mg : Str → Option Value) (x : Str) : Prop where
  ex : ∃ C : Addr, mg x = some (.ref C) ∧ PySem.W.excIn K C [.type "ValueError", .type "Exception", .type "BaseException", .type "object"] "ValueError.__new__" = true ∧ PySem.W.keepIn K (.ref C) = true ∧ PySem.W.subIn K (.ref C) (.type "BaseException") = some true ∧ PySem.W.typeIn K (.ref C) = some (.type "type")
theorem ms_raiseX {X : Cx} {C : C3} {E : XK} {fr : Bool} {B : Hp} {x m : Str} {j : Nat} {p p2 pos pos2 : Pos} (o : XOk X.K X.mg x) (hc : X.calm = true) (tk : Takes X (fun cls d _ H => E cls d H)) (hg : Gl X x) (hdb : (x == ("__debug__" : Str)) = false := by decide) : MS X C E fr B (.Raise (some (.Call (.Name x p) [.Constant (.str m) j p2] [] pos)) none pos2) (mRaise x) := by
  obtain ⟨A, h1, h2, h3, h4, h5⟩ := o.ex
  exact ms_raise hc tk (pmk_own PySem.F.excBase_ValueError h2 h1 h3 (raises_own h4 h5) hg hdb) h1
end L3
/-! L3o: the frame of a law that makes lambdas; a fresh list or a word -/
namespace L3
open PySem PySem.Spec PyProof.Rows L2
abbrev lamQ : Str := (("law" : Str) ++ ".<locals>.") ++ "<lambda>"
def spLawT (K : PySem.W.Frag) (T : Addr) : Sp := fun vs H Q _ => ∃ (a : Addr) (ns : List Int), vs = [.ref a] ∧ SqL K H a (ns.map V.int) ∧ H T = some (.tbl #[]) ∧ ∀ v H', v = .bl true → Q v H'
/-- .. of a law that makes lambdas: its code object's table stands at T -/
theorem law_l3T {P : Program} {w : World} {K : PySem.W.Frag} {mg : Str → Option Value} {base : Heap} {st first : Stmt} {rest : List Stmt} {f T : Addr} {od an : Option Addr} {osl : Array (Option Value)} {oc kV doc pm cdv ct : Value} {N : List Str} {k : Nat} (lk : K.lookup f = some ⟨oc, od, .func (PySem.W.fnOf "law" "law" (defArgs st) (defBody st) (defScope st) .none kV doc pm an cdv ct), osl⟩) (hcd : PySem.W.codeIn K cdv "law" = true) (S : FnScope N ["_law_script"] (defScope st)) (m : Option Addr → MSt) (hb : defBody st = first :: rest) (hN : 2 ≤ N.length)
    (der : ∀ (A : Around) (outer : List Env) (s : Shared) (H : Hp) (E : XK), Room k (A.deeper (envOfC "law" (defScope st) s.heap.objs.size f cdv)) →
      PS (cxOf (L2.CX P w) P w K mg base N "law" (defScope st) f cdv A outer s H E) first (tOpen K E) ∧ ∀ (s0 : Option (Addr × Addr × List Int)) (fix : List (Addr × HO)) (_ : ∀ p ∈ fix, notTbl p.2 = true) (B : Hp),
      MSs (cxOf (L2.CX P w) P w K mg base N "law" (defScope st) f cdv A outer s H E) ⟨K, s0, fix, [(T, lamQ)]⟩ E false B rest (m (s0.map (·.1))))
    (pure : ∀ (p a : Addr), m (some p) (some (.sh (.ref a)) :: some (.sh (.ref p)) :: List.replicate (N.length - 2) none) { nx := fun _ => False, rt := fun d => d = .bl true }) :
    FnOk P w K mg base (L2.CX P w) (k + 1) f (PySem.W.fnOf "law" "law" (defArgs st) (defBody st) (defScope st) .none kV doc pm an cdv ct) ["_law_script"] (spLawT K T) := by
  refine fn_of lk hcd S (fun vs H Q E h => ?_) (fun A outer s H vs Q E hr h => ?_)
  · obtain ⟨a, ns, rfl, _⟩ := h
    rfl
  · obtain ⟨a, ns, rfl, hS, hT, hq⟩ := h
    obtain ⟨d1, d2⟩ := der A outer s H E hr
    rw [hb]
    refine ⟨_, pss_cons d1 (pss_any (ι := (Option (Addr × Addr × List Int)) × {l : List (Addr × HO) // ∀ p ∈ l, notTbl p.2 = true}) fun i => d2 i.1 i.2.1 i.2.2 (fun _ => none) (fun _ => none)), ?_⟩
    have eS : (L2.start N [V.ref a] : L2.St) = some (.ref a) :: none :: List.replicate (N.length - 2) none := by
      unfold L2.start
      show some (V.ref a) :: List.replicate (N.length - 1) none = _
      rw [show N.length - 1 = (N.length - 2) + 1 by omega, List.replicate_succ]
    rw [eS]
    -- the rest, once the script stays
    have go : ∀ (H0 : Hp) (fix : List (Addr × HO)), (∀ p ∈ fix, H0 p.1 = some p.2) → (∀ p ∈ fix, notTbl p.2 = true) → H0 T = some (.tbl #[]) → ScrOk ⟨K, none, fix, []⟩ a ns → SqL K H0 a (ns.map V.int) → spStart K ([V.ref a] ++ []) H0 (fun v H1 => gName 1 v (some (.ref a) :: none :: List.replicate (N.length - 2) none) H1 fun σ H2 => ∃ i : (Option (Addr × Addr × List Int)) × {l : List (Addr × HO) // ∀ p ∈ l, notTbl p.2 = true}, liftS ⟨K, i.1, i.2.1, [(T, lamQ)]⟩ mg E false (fun _ => none) (fun _ => none) (m (i.1.map (·.1))) { nx := fun _ H => Q .non H, rt := Q } σ H2) E := by
      intro H0 fix hfix hfn hT0 hscr hS0
      refine ⟨a, ns, rfl, hS0, fun p mm hp h0 h1 => ?_⟩
      refine ⟨(some (p, a, ns), ⟨fix, hfn⟩), some (.sh (.ref a)) :: some (.sh (.ref p)) :: List.replicate (N.length - 2) none, fun _ => none, _, ?_, pure p a, ?_⟩
      · refine ⟨⟨⟨⟨fun a' sa' ns' e => ?_, fun q hq' => ?_, fun q hq' => ?_⟩, fun _ _ h => (nomatch h), fun _ _ h => (nomatch h)⟩, fun _ _ h => (nomatch h), fun _ _ _ h => (nomatch h), fun _ _ _ h => (nomatch h)⟩, ?_, fun i d h => ?_, fun i q d h => ?_, fun i j q d e h _ => ?_⟩
        · cases e
          refine ⟨⟨0, mm, 0, upd_same, by decide, h0, h1, by decide⟩, hscr, ?_⟩
          rw [List.any_eq_false]
          intro q hq' e
          have e := of_decide_eq_true e
          have := hfix q hq'
          rw [e, hp] at this
          cases this
        · have nq : q.1 ≠ p := fun e => by
            have := hfix q hq'
            rw [e, hp] at this
            cases this
          show upd H0 p _ q.1 = _
          rw [upd_ne nq]
          exact hfix q hq'
        · have hq' : q ∈ [(T, lamQ)] := hq'
          rw [List.mem_singleton] at hq'
          subst hq'
          refine LamX.TabS.nil ?_
          rw [upd_ne (ne_of_none hT0 hp)]
          exact hT0
        · simp
        · match i, h with
          | 0, h => cases h; exact ⟨_, rfl, .ref a⟩
          | 1, h => cases h; exact ⟨_, rfl, .ref p⟩
          | i + 2, h =>
            have h : (List.replicate (N.length - 2) (none : Option Slot))[i]? = some (some (.sh d)) := h
            rw [List.getElem?_replicate] at h
            split at h <;> cases h
        · match i, h with
          | 0, h => cases h
          | 1, h => cases h
          | i + 2, h =>
            have h : (List.replicate (N.length - 2) (none : Option Slot))[i]? = some (some (.own q d)) := h
            rw [List.getElem?_replicate] at h
            split at h <;> cases h
        · match i, h with
          | 0, h => cases h
          | 1, h => cases h
          | i + 2, h =>
            have h : (List.replicate (N.length - 2) (none : Option Slot))[i]? = some (some (.own q d)) := h
            rw [List.getElem?_replicate] at h
            split at h <;> cases h
      · refine ⟨fun _ _ _ _ _ k => k.elim, fun _ _ _ _ _ k => k.elim, fun _ _ _ _ _ k => k.elim, fun d v H' G' z rr k => ?_, fun x cls d H' k => k.elim⟩
        have rr : Rp K G' d v := rr
        rw [k] at rr
        cases rr
        exact hq _ _ rfl
    rcases hS with (h | ⟨o, h⟩) | ⟨o, its, n, h1, h2, h3, h4, h5, h6⟩
    · refine .inr ⟨.ref a, rfl, a, _, rfl, h, trivial, fun od => ?_⟩
      exact go (upd H a (.frz od (.lst (ns.map V.int)))) [(a, .frz od (.lst (ns.map V.int)))] (fun p hp => by
        rw [List.mem_singleton] at hp
        subst hp
        exact upd_same) (fun p hp => by
        rw [List.mem_singleton] at hp
        subst hp
        rfl) (by rw [upd_ne (fun e => by rw [e, h] at hT; cases hT)]; exact hT) (.inl ⟨od, List.mem_singleton.mpr rfl⟩) (.inl (.inr ⟨od, upd_same⟩))
    · refine .inl ⟨.ref a, rfl, ?_⟩
      exact go H [(a, .frz o (.lst (ns.map V.int)))] (fun p hp => by
        rw [List.mem_singleton] at hp
        subst hp
        exact h) (fun p hp => by
        rw [List.mem_singleton] at hp
        subst hp
        rfl) hT (.inl ⟨o, List.mem_singleton.mpr rfl⟩) (.inl (.inr ⟨o, h⟩))
    · refine .inl ⟨.ref a, rfl, ?_⟩
      exact go H [] (fun p hp => by cases hp) (fun p hp => by cases hp) hT (.inr ⟨o, its, n, h1, h2, h3, h4, h5, h6⟩) (.inr ⟨o, its, n, h1, h2, h3, h4, h5, h6⟩)

/-! ### a new list, or a value -/
abbrev MK2 := EnvE → (D → Prop) → (D → Prop) → (Exn → Prop) → Prop
def liftK (C : C3) (mg : Str → Option Value) (E : XK) (m : MK2) : TE := fun σ H Q => ∃ env G Kf Kd KX, Ok3 C H G ∧ VR C.K G env σ ∧ m env Kf Kd KX ∧ PostF C H G Kf Q ∧ PostV C H G Kd Q ∧ PostX C mg H G KX E
abbrev MK (X : Cx) (C : C3) (E : XK) (e : Expr) (m : MK2) : Prop := PE X e (liftK C X.mg E m)
def mKindF (ws : List Str) (m : MEt) : MK2 := fun env Kf Kd KX => m env Kf fun x => x.num = none ∧ x.cls ∈ ws ∧ Kd (.str x.cls)
open LamX in
theorem mk_kind {X : Cx} {C : C3} {E : XK} {ws : List Str} {m : MEt} {x a : Str} {g c P : Addr} {k : Nat} {pg : Arguments} {bg : List Stmt} {sg : Scope} {dV kV doc pm cdv ct oc : Value} {an od : Option Addr} {osl : Array (Option Value)} {Ng : List Str}
    {params : Arguments} {body : Expr} {scope : Scope} {p lpos pos : Pos} (hK : X.K = C.K) (hfx : ∀ p ∈ C.fix, notTbl p.2 = true) (kt : ∀ w ∈ ws, ∃ D, X.mg w = some (.ref D) ∧ Kinds X.K X.mg D w) (hg : Gl X x) (hm : X.mg x = some (.ref g)) (hk : PySem.W.keepIn X.K (.ref g) = true)
    (lk : X.K.lookup g = some ⟨oc, od, .func (PySem.W.fnOf x x pg bg sg dV kV doc pm an cdv ct), osl⟩) (hcg : PySem.W.codeIn X.K cdv x = true) (hb : L2.Binds X.K (PySem.W.fnOf x x pg bg sg dV kV doc pm an cdv ct) [a] []) (Sg : FnScope Ng [a] sg) (hNg : Ng[0]? = some a) (hva : Vis sg a)
    (hG : GivesTo X Ng x sg g cdv bg a (X.env.qual ++ "<lambda>") (TTk C X.mg ws))
    (TB : TabB X.base X.mg c P) (hcode : X.env.code = .ref c) (hmT : (P, X.env.qual ++ "<lambda>") ∈ C.tabs) (hu : ∀ p ∈ C.tabs, p.1 = P → p.2 = X.env.qual ++ "<lambda>") (hr : Room (k + 2) X.A) (L : LamS X.env.scope scope) (hdef : defaultsOf params X.env = ([], []))
    (hbind : ∀ (q : Str) (cl : List (Str × Addr)) (pm cv ctv : Value), bindArgs (PySem.W.kla_fn "<lambda>" q params body scope cl pm cv ctv) ⟨[], []⟩ = pure [])
    (hbody : ∀ (A : Around) (outer : List Env) (s : Shared) (H : Hp) (E : XK) (f c' : Addr), Room k (A.deeper (lamEnv X scope s.heap.objs.size f c')) → MF (lamCx X A outer s H E scope f c') C E body m)
    (hdb : (x == ("__debug__" : Str)) = false := by decide) (hd : (a == ("__debug__" : Str)) = false := by decide) (hcd : (a == ("__classdict__" : Str)) = false := by decide) :
    MK X C E (.Call (.Name x p) [.Lambda params body scope lpos] [] pos) (mKindF ws m) :=
  PE.imp (pe_lamcall (T := C.tabs) (TT := TTk C X.mg ws) (t := fun E => liftF C X.mg E m) hg hm hk lk hcg hb Sg hNg hva hG TB hcode hmT hu hr L hdef hbind hbody hdb hd hcd) fun σ H Q ⟨env, G, Kf, Kd, KX, ok, vr, hm, pf, pv, px⟩ => by
  refine ⟨ok.iv.tb, fun H1 eN tb => ?_⟩
  obtain ⟨ok1, s1⟩ := lam_ok ok hfx eN tb
  refine ⟨env, G, Kf, _, ok1, vr, hm, pf.on s1, fun x cls d H2 kx s2 ok2 r => ?_⟩
  obtain ⟨hn, hw, kx⟩ := kx
  obtain ⟨A, h1, h2, h3⟩ := r
  rw [hn] at h3
  obtain ⟨D, g1, g2⟩ := kt _ hw
  rw [h1] at g1
  cases g1
  exact ⟨x.cls, G, A, ok2, hw, h2, h3, by rw [← hK]; exact g2, fun y v H3 G3 s3 ok3 r3 e => pv y v H3 G3 ((s1.trans ok2 s2).trans ok3 s3) ok3 r3 (by rw [e]; exact kx)⟩
def mSetK2 (i : Nat) (m : MK2) : MSt := fun env Ks => m (viewE env) (fun d => ∀ p, Ks.nx (env.set i (some (.own p d)))) (fun d => Ks.nx (env.set i (some (.sh d)))) Ks.ex
theorem ms_setK2 {X : Cx} {C : C3} {E : XK} {fr : Bool} {B : Hp} {e : Expr} {m : MK2} {pos pos' : Pos} {i : Nat} {x : Str} (hN : X.N.Nodup) (hi : X.N[i]? = some x) (hx : Loc X.env.scope x) (he : MK X C E e m) (hs : swapsWith e (some (.Name x pos')) pos.line X.env = pure false := by rfl) (hf : X.fn x = true ∨ X.env.scope.names.lookup x = some .local := by first | exact .inl rfl | exact .inr rfl | assumption) :
    MS X C E fr B (.Assign [.Name x pos'] e pos) (mSetK2 i m) := fun G0 => PS.imp (ps_set hN hi hx he hs hf) fun En σ H ⟨env, G, Ks, er, hm, f⟩ =>
  ⟨viewE env, G, _, _, Ks.ex, er.z.ok, er.vr, hm, fun d p o H1 G1 s1 ok1 hp gp ho sp ob k1 => f.nx _ _ H1 G1 (er.fresh_own s1 ok1 hp gp ho sp ob.obj) (k1 p), fun d v H1 G1 s1 ok1 r1 k1 => f.nx _ _ H1 G1 ((er.step s1 ok1).set_sh r1) k1, f.px er.z (Same.refl _)⟩
/-! ### the end -/
theorem walk_tab {l : PySem.W.OpenLaw} {n k : Nat} {q : Program} {loose : List Str} {XP : (Str → Option Value) → Heap → Prop} {YP : World → Heap → Prop} {d : DefRec} {K : Params → PySem.W.Frag} {CX : World → CXT} {x : Str}
    (hn : l.most = some n) (hn2 : n ≤ sizeLine) (hdf : d.params.defaults = []) (hr : Room k callerA) (hY : ∀ (w : World) (h : Heap), YP w h → (K w.params).In h) (hd : (PyProof.Rows.recsOf q).find? (fun e => e.name == d.name) = some d)
    (F : ∀ (w : World) (mg : Str → Option Value) (fa : Addr) (h : Heap), (K w.params).In h → h.Ns mainGlobals mg → mg d.name = some (.ref fa) →
      ∃ (c T : Addr) (fd : FuncData), PySem.W.tabIn (K w.params) d.name = some (c, T) ∧ (K w.params).lookup T = none ∧ (∀ (s : Shared) (u : Value), BindsTo s fd ⟨[u], []⟩ [(x, u)]) ∧
        ∀ base : Heap, (K w.params).In base → base.Ns mainGlobals mg → LamX.TabB base mg c T → FnOk l.prog w (K w.params) mg base (CX w) k fa fd [x] (spLawT (K w.params) T))
    (hCX : ∀ (w : World) (H : Hp) (s : Shared) (e : Value) (s' : Shared), CX w [] H s (fun _ _ _ => False) e s' → False) :
    PySem.W.WalkO q loose XP YP l.row.toRowW d [] (fun f vs => PySem.call f vs) := by
  refine Att.attach_callB hn hdf fun w s₀ s₁ mg mb fa o pm cd doc a vs ns G Y ho hod hcd hmg hobj hints hlen hbits hg => ?_
  have KX := hY w _ Y
  obtain ⟨c, T, fd, ht, hnT, hb, hF⟩ := F w mg fa _ KX G.T.g hmg
  obtain ⟨hC, hT⟩ := PySem.W.tab_of G.T KX hd ht
  refine LamX.law_callTs (cs := [(c, T)]) KX G.T.g G.T.b G.T.builtins G.T.nolimit hg (fun p hp => ?_) (fun p hp => ?_) (fun p hp => ?_) G.T.bmain hobj hints (Nat.le_trans hlen hn2) hr (fun base h1 h2 h3 => hF base h1 h2 (h3 (c, T) (List.mem_singleton.mpr rfl))) hb (fun H hH hS => ⟨a, ns, rfl, hS, hH (c, T) (List.mem_singleton.mpr rfl), fun _ _ e => e⟩) fun H e s' => hCX w H s₁ e s'
  · rw [List.mem_singleton.mp hp]; exact hT
  · rw [List.mem_singleton.mp hp]; exact hnT
  · rw [List.mem_singleton.mp hp]; exact hC
end L3
/-! L3p: t.index(y) of a tuple, list of a dict -/
namespace L3
open PySem PySem.Spec PyProof.Rows L2
section
variable {X : Cx} {C : C3} {E : XK} {o e : Expr} {mo ma : MEt} {apos cpos pos p : Pos} {r : MAt}
def rIndexTF (K : PySem.W.Frag) : V → List V → Hp → VK → Prop := fun x xs H Q => ∃ (t : Addr) (ys : List V) (y : V) (j : Nat) (z : V), x = .ref t ∧ xs = [y] ∧ SqT K H t ys ∧ flatV y = true ∧ ys.all flatV = true ∧ ys[j]? = some z ∧ eqV z y = true ∧ (∀ (m : Nat) (z' : V), m < j → ys[m]? = some z' → eqV z' y = false) ∧ Q (.int (j : Nat)) H
theorem mt_indexTF : MtR X "tuple.index" (rIndexTF X.K) := by
  intro pins s σ H x xs v us Q I rx rxs h
  obtain ⟨a, ys, y, j, z, rfl, rfl, hs, fy, fys, hz, hzj, hno, q⟩ := h
  cases rx
  obtain ⟨u, rfl, ru⟩ := rxs.one
  obtain ⟨its, rv, pl, hlen⟩ := I.tuple hs
  obtain ⟨⟨cls, dd, data, sl⟩, ho, hc, n, hd⟩ := pl
  simp only at hc hd
  subst hc hd
  obtain ⟨u2, hu2, ru2⟩ := rv.get hz
  obtain ⟨hjl, hje⟩ := List.getElem?_eq_some_iff.mp hu2
  have hvl := rv.length
  have hj : j < its.toArray.size := by simpa using hjl
  refine call_meets PySem.F.slot_tuple_index ⟨_, ho, rfl⟩ PySem.F.entry_tuple_index (PySem.F.args_tuple_index_2 _ _) (TI.tuple_indexAt a its.toArray n dd sl u (eqU y) j hj ?_ ?_)
    ⟨ho, fun w hw => mem_eqAt ru fy rv fys w (by simpa using hw), ⟨.int (j : Nat), H, I.tok _, ⟨_, rfl⟩, q⟩⟩
  · have e1 : its.toArray[j] = u2 := by simpa using hje
    rw [e1, eqU_of ru2 (flat_at fys hz)]
    exact hzj
  · intro m hm hmj
    have hml : m < its.length := by simpa using hm
    have hmy : m < ys.length := by omega
    have hy' : ys[m]? = some ys[m] := List.getElem?_eq_getElem hmy
    obtain ⟨u3, hu3, ru3⟩ := rv.get hy'
    have e1 : its.toArray[m] = u3 := by simpa using (List.getElem?_eq_some_iff.mp hu3).2
    rw [e1, eqU_of ru3 (flat_at fys hy')]
    exact hno m _ hmj hy'
def mIndexT (mo ma : MEt) : MEt := fun env Kd KX => mo env (fun d => (∃ ds, d = .tup ds) ∧ ma env (fun y => match d with
  | .tup ds => flatD y = true ∧ ds.all flatD = true ∧ ∃ (j : Nat) (z : D), ds[j]? = some z ∧ eqV (fv z) (fv y) = true ∧ (∀ (m : Nat) (z' : D), m < j → ds[m]? = some z' → eqV (fv z') (fv y) = false) ∧ Kd (.int (j : Nat))
  | _ => False) KX) KX
theorem me_indexT (hK : X.K = C.K) (h : PE X (.Call (.Attribute o "index" apos) [e] [] cpos) (tBT X.K (rIndexTF X.K) (lift C X.mg E mo) (tCons (lift C X.mg E ma) tNil))) : ME X C E (.Call (.Attribute o "index" apos) [e] [] cpos) (mIndexT mo ma) :=
  PE.imp h fun σ H Q ⟨env, G, Kd, KX, ok, vr, hm, pv, px⟩ => by
  refine ⟨env, G, _, KX, ok, vr, hm, fun d v H1 G1 s1 ok1 r1 k1 => ?_, px⟩
  obtain ⟨⟨ds, rfl⟩, k1⟩ := k1
  cases r1 with
  | tup ha ra =>
    rw [hK]
    refine ⟨?_, env, G1, _, KX, ok1, vr.mono s1.ge, k1, fun y w H2 G2 s2 ok2 r2 k2 => ?_, px.on ok s1⟩
    · obtain ⟨q, e, h⟩ := ha.ty
      refine ⟨q, e, ?_⟩
      rcases h with ⟨ob, vs, h, c⟩ | h
      · exact .inl ⟨ob, vs, (ok1.sub _ _ h).2, c⟩
      · exact .inr h
    · obtain ⟨f1, f2, j, z, hz, he, hno, k⟩ := k2
      obtain ⟨rfl, g1⟩ := r2.flat f1
      obtain ⟨rfl, g2⟩ := ra.flat f2
      refine ⟨_, _, _, j, fv z, rfl, rfl, seqT (fun a o q => (ok2.sub a o (s2.ge a o q)).2) ha.sq, g1, g2, by rw [List.getElem?_map, hz]; rfl, he, fun m z' hm hz' => ?_, pv _ _ _ _ (s1.trans ok2 s2) ok2 (.int _) k⟩
      rw [List.getElem?_map] at hz'
      cases q : ds[m]? with
      | none => rw [q] at hz'; cases hz'
      | some z'' =>
        rw [q] at hz'
        cases hz'
        exact hno m z'' hm q
/-- list(d), d a dict: its keys -/
@[irreducible] def listKD (ds : List D) (K : D → Prop) : Prop := match ds with
  | [.dic kvs] => K (.lst (kvs.map fun p => .int p.1))
  | _ => False
theorem listKD_of {kvs : List (Int × D)} {K : D → Prop} (k : K (.lst (kvs.map fun p => .int p.1))) : listKD [.dic kvs] K := by
  unfold listKD
  exact k
theorem Rps.keysD {K : PySem.W.Frag} {G : Hp} : ∀ {kvs : List (Int × D)} {kws : List (Key × V)}, RpK K G kvs kws → Rps K G (kvs.map fun p => D.int p.1) (kws.map fun kv => kV kv.1)
  | _, _, .nil => .nil
  | _, _, .cons _ r => .cons (.int _) (Rps.keysD r)
theorem cf_listK : CF C (fun xs H Q => ∃ (a : Addr) (kvs : List (Key × V)), xs = [.ref a] ∧ Rd H a (.dK kvs) ∧ ∀ p, H p = none → Q (.ref p) (upd H p (.lst (kvs.map fun kv => kV kv.1)))) listKD := by
  intro vs ds H G Kd Q ok rr h pv
  unfold listKD at h
  split at h
  · cases rr with
    | cons r1 r2 =>
      cases r2
      cases r1 with
      | dic ha ra =>
        refine ⟨_, _, rfl, .inr ⟨_, (ok.sub _ _ ha).2⟩, fun q hq => ?_⟩
        obtain ⟨o1, s1, g⟩ := ok.new (o := .lst _) hq
        exact pv _ q _ _ G s1 o1 (nT_none hq) g upd_same (ok.iv.new hq) (.lst (Rps.keysD ra)) h
  · exact h.elim
theorem mf_listK (F : Free X.mg) (hK : X.K = C.K) (hc : X.calm = true) (hg : Gl X "list") (ha : MA X C E [e] r) (he : starEach (e :: []) X.env = (false, eval e X.env) :: starEach [] X.env := by rfl) (hpl : (backTo pos (starEach [] X.env)).any (·.1) = false := by rfl) : MF X C E (.Call (.Name "list" p) [e] [] pos) (mCall listKD r) :=
  mf_callTy (call_listD hc) cf_listK hg F.list (by decide +kernel) ha (by decide) (by decide) he hpl
end
/-! ### the words of errors without a field -/
def plainW : List Str := ["BadLead", "BadSpare", "NoWay", "BadWord", "BadHouse", "BadCall"]
theorem kind_any (a : Addr) (w : Str) (hw : w ∈ plainW) (Ks : KS) (k : Ks.rt (.str w)) : m__law_kind a (decide (("BadLead" : Str) = w)) (decide (("BadSpare" : Str) = w)) (decide (("BadMove" : Str) = w)) (decide (("NoWay" : Str) = w)) (decide (("BadWord" : Str) = w)) (decide (("BadHouse" : Str) = w)) (decide (("BadCall" : Str) = w)) (decide (("BadText" : Str) = w)) [none, some (.sh (.ref a)), none, none, none] Ks := by
  simp only [plainW, List.mem_cons, List.mem_nil_iff, or_false] at hw
  rcases hw with rfl | rfl | rfl | rfl | rfl | rfl
  · rw [show decide (("BadLead" : Str) = "BadLead") = true by decide +kernel, show decide (("BadSpare" : Str) = "BadLead") = false by decide +kernel, show decide (("BadMove" : Str) = "BadLead") = false by decide +kernel, show decide (("NoWay" : Str) = "BadLead") = false by decide +kernel, show decide (("BadWord" : Str) = "BadLead") = false by decide +kernel, show decide (("BadHouse" : Str) = "BadLead") = false by decide +kernel, show decide (("BadCall" : Str) = "BadLead") = false by decide +kernel, show decide (("BadText" : Str) = "BadLead") = false by decide +kernel]
    exact pu_kind_BadLead a Ks k
  · rw [show decide (("BadLead" : Str) = "BadSpare") = false by decide +kernel, show decide (("BadSpare" : Str) = "BadSpare") = true by decide +kernel, show decide (("BadMove" : Str) = "BadSpare") = false by decide +kernel, show decide (("NoWay" : Str) = "BadSpare") = false by decide +kernel, show decide (("BadWord" : Str) = "BadSpare") = false by decide +kernel, show decide (("BadHouse" : Str) = "BadSpare") = false by decide +kernel, show decide (("BadCall" : Str) = "BadSpare") = false by decide +kernel, show decide (("BadText" : Str) = "BadSpare") = false by decide +kernel]
    exact pu_kind_BadSpare a Ks k
  · rw [show decide (("BadLead" : Str) = "NoWay") = false by decide +kernel, show decide (("BadSpare" : Str) = "NoWay") = false by decide +kernel, show decide (("BadMove" : Str) = "NoWay") = false by decide +kernel, show decide (("NoWay" : Str) = "NoWay") = true by decide +kernel, show decide (("BadWord" : Str) = "NoWay") = false by decide +kernel, show decide (("BadHouse" : Str) = "NoWay") = false by decide +kernel, show decide (("BadCall" : Str) = "NoWay") = false by decide +kernel, show decide (("BadText" : Str) = "NoWay") = false by decide +kernel]
    exact pu_kind_NoWay a Ks k
  · rw [show decide (("BadLead" : Str) = "BadWord") = false by decide +kernel, show decide (("BadSpare" : Str) = "BadWord") = false by decide +kernel, show decide (("BadMove" : Str) = "BadWord") = false by decide +kernel, show decide (("NoWay" : Str) = "BadWord") = false by decide +kernel, show decide (("BadWord" : Str) = "BadWord") = true by decide +kernel, show decide (("BadHouse" : Str) = "BadWord") = false by decide +kernel, show decide (("BadCall" : Str) = "BadWord") = false by decide +kernel, show decide (("BadText" : Str) = "BadWord") = false by decide +kernel]
    exact pu_kind_BadWord a Ks k
  · rw [show decide (("BadLead" : Str) = "BadHouse") = false by decide +kernel, show decide (("BadSpare" : Str) = "BadHouse") = false by decide +kernel, show decide (("BadMove" : Str) = "BadHouse") = false by decide +kernel, show decide (("NoWay" : Str) = "BadHouse") = false by decide +kernel, show decide (("BadWord" : Str) = "BadHouse") = false by decide +kernel, show decide (("BadHouse" : Str) = "BadHouse") = true by decide +kernel, show decide (("BadCall" : Str) = "BadHouse") = false by decide +kernel, show decide (("BadText" : Str) = "BadHouse") = false by decide +kernel]
    exact pu_kind_BadHouse a Ks k
  · rw [show decide (("BadLead" : Str) = "BadCall") = false by decide +kernel, show decide (("BadSpare" : Str) = "BadCall") = false by decide +kernel, show decide (("BadMove" : Str) = "BadCall") = false by decide +kernel, show decide (("NoWay" : Str) = "BadCall") = false by decide +kernel, show decide (("BadWord" : Str) = "BadCall") = false by decide +kernel, show decide (("BadHouse" : Str) = "BadCall") = false by decide +kernel, show decide (("BadCall" : Str) = "BadCall") = true by decide +kernel, show decide (("BadText" : Str) = "BadCall") = false by decide +kernel]
    exact pu_kind_BadCall a Ks k
end L3
/-! L3q: errors with a field of their own -/
namespace L3
open PySem PySem.Spec PyProof.Rows L2
section
variable {X : Cx} {C : C3} {E : XK} {fr : Bool} {B : Hp}
/-- isinstance(e, c), e the held error, its dict at dd -/
def rIsED (K : PySem.W.Frag) (D a dd : Addr) : List V → Hp → VK → Prop := fun xs H Q => ∃ (c : V) (cv : Value) (b : Bool) (fs : List (Str × V)), xs = [.ref a, c] ∧ (∀ u, RelV c u → u = cv) ∧ PySem.W.kitOne K (.ref D) cv = some b ∧ H dd = some (.xd fs) ∧ Q (.bl b) H
theorem call_isED {a D dd : Addr} {oe : Obj} {pn : List (Addr × Obj)} (Z : ExcC X.K D) (hz : Zc (.ref D) (some dd) oe) (hf : ∃ vs, oe.data = .fields vs) : CallR (X.suite a ((a, oe) :: pn)) (.builtin "isinstance") (rIsED X.K D a dd) := by
  intro pins s σ H vs us Q I rr hw
  obtain ⟨c, cv, b, fs, rfl, hcv, hk, hd, q⟩ := hw
  cases rr with
  | cons r1 rr =>
    cases rr with
    | cons r2 rr =>
      cases rr
      cases r1
      have e2 := hcv _ r2
      subst e2
      obtain ⟨at1, _⟩ := I.pin (a, oe) (List.mem_append_left _ List.mem_cons_self)
      obtain ⟨ws, hws⟩ := hf
      have hox : ObjOk X.prog X.w H s.heap dd (.xd fs) := I.hok dd _ hd
      obtain ⟨mA, hns, _⟩ := hox
      obtain ⟨od, ho, _⟩ := lookIn_ns hns
      have J : PySem.W.InstAt s.heap a oe D (some od) := ⟨at1, hz.1, by unfold PySem.W.notCls; rw [hws] <;> rfl, by rw [hz.2]; exact ho⟩
      have hcl : (PySem.W.clsIn X.K D).isSome = true := by
        obtain ⟨cd, hc, _⟩ := PySem.W.any_some Z.hd
        rw [hc]
        rfl
      exact PySem.W.kia_one (PySem.W.kitx_exc hcl Z.hg Z.hk Z.hs Z.ha Z.hn Z.ht Z.hm) I.kIn J hk (fun z => nomatch z) fun tk => ⟨.bl b, H, I.kept (t' := tk) fun _ _ z => z, rfl, q⟩
theorem me_isED {a D A dd : Addr} {fs : List (Str × V)} {oe : Obj} {pn : List (Addr × Obj)} {b : Bool} {e c : Str} {p pe pc pos : Pos} (i : Nat) (F : Free X.mg) (hK : X.K = C.K) (Xc : ExcC X.K D) (hz : Zc (.ref D) (some dd) oe) (hf : ∃ vs, oe.data = .fields vs) (hx : (dd, HO.xd fs) ∈ C.fix) (hg : Gl (X.suite a ((a, oe) :: pn)) "isinstance") (he : ME (X.suite a ((a, oe) :: pn)) C E (.Name e pe) (mVar i))
    (hc : Gl (X.suite a ((a, oe) :: pn)) c) (hm : X.mg c = some (.ref A)) (hk : PySem.W.kitOne X.K (.ref D) (.ref A) = some b) (hd : (c == ("__debug__" : Str)) = false := by decide)
    (h1 : starEach [.Name e pe, .Name c pc] (X.suite a ((a, oe) :: pn)).env = (false, eval (.Name e pe) (X.suite a ((a, oe) :: pn)).env) :: starEach [.Name c pc] (X.suite a ((a, oe) :: pn)).env := by rfl)
    (h2 : starEach [.Name c pc] (X.suite a ((a, oe) :: pn)).env = (false, eval (.Name c pc) (X.suite a ((a, oe) :: pn)).env) :: starEach [] (X.suite a ((a, oe) :: pn)).env := by rfl) (hpl : (backTo pos (starEach [.Name c pc] (X.suite a ((a, oe) :: pn)).env)).any (·.1) = false := by rfl) :
    ME (X.suite a ((a, oe) :: pn)) C E (.Call (.Name "isinstance" p) [.Name e pe, .Name c pc] [] pos) (mIsE i a b) :=
  PE.imp (pe_callB (call_isED Xc hz hf) hg F.isinstance PyProof.Rows.boot_isinstance (pa_cons he (pa_cons (pe_glob (v := .ref A) hc hm rfl hd) pa_nil h2) h1) (by decide) (by decide) h1 hpl) fun σ H Q ⟨env, G, Kd, KX, ok, vr, hm', pv, px⟩ => by
  refine ⟨env, G, _, KX, ok, vr, hm', fun d v H1 G1 s1 ok1 r1 k1 => ?_, px⟩
  obtain ⟨rfl, k1⟩ := k1
  cases r1
  exact ⟨.ref A, .ref A, b, fs, rfl, fun u r => r, hk, ok1.iv.fx _ hx, pv _ _ H1 G1 s1 ok1 (.bl b) k1⟩
theorem me_isEDT {a D dd : Addr} {fs : List (Str × V)} {oe : Obj} {pn : List (Addr × Obj)} {b : Bool} {e c : Str} {T : String} {p pe pc pos : Pos} (i : Nat) (F : Free X.mg) (hK : X.K = C.K) (Xc : ExcC X.K D) (hz : Zc (.ref D) (some dd) oe) (hf : ∃ vs, oe.data = .fields vs) (hx : (dd, HO.xd fs) ∈ C.fix) (hg : Gl (X.suite a ((a, oe) :: pn)) "isinstance") (he : ME (X.suite a ((a, oe) :: pn)) C E (.Name e pe) (mVar i))
    (hc : Gl (X.suite a ((a, oe) :: pn)) c) (hm : X.mg c = none) (hb : bootBuiltins c = some (.type T)) (hk : PySem.W.kitOne X.K (.ref D) (.type T) = some b) (hn : c ≠ "__name__" := by decide) (hd : (c == ("__debug__" : Str)) = false := by decide)
    (h1 : starEach [.Name e pe, .Name c pc] (X.suite a ((a, oe) :: pn)).env = (false, eval (.Name e pe) (X.suite a ((a, oe) :: pn)).env) :: starEach [.Name c pc] (X.suite a ((a, oe) :: pn)).env := by rfl)
    (h2 : starEach [.Name c pc] (X.suite a ((a, oe) :: pn)).env = (false, eval (.Name c pc) (X.suite a ((a, oe) :: pn)).env) :: starEach [] (X.suite a ((a, oe) :: pn)).env := by rfl) (hpl : (backTo pos (starEach [.Name c pc] (X.suite a ((a, oe) :: pn)).env)).any (·.1) = false := by rfl) :
    ME (X.suite a ((a, oe) :: pn)) C E (.Call (.Name "isinstance" p) [.Name e pe, .Name c pc] [] pos) (mIsE i a b) :=
  PE.imp (pe_callB (call_isED Xc hz hf) hg F.isinstance PyProof.Rows.boot_isinstance (pa_cons he (pa_cons (pe_bltn (v := .ty T) hc hm hb rfl hn hd) pa_nil h2) h1) (by decide) (by decide) h1 hpl) fun σ H Q ⟨env, G, Kd, KX, ok, vr, hm', pv, px⟩ => by
  refine ⟨env, G, _, KX, ok, vr, hm', fun d v H1 G1 s1 ok1 r1 k1 => ?_, px⟩
  obtain ⟨rfl, k1⟩ := k1
  cases r1
  exact ⟨.ty T, .type T, b, fs, rfl, fun u r => r, hk, ok1.iv.fx _ hx, pv _ _ H1 G1 s1 ok1 (.bl b) k1⟩
/-- e.number of the held error -/
def mFldE (i : Nat) (a : Addr) (n : Int) : MEt := fun env Kd KX => mVar i env (fun d => d = .ref a ∧ Kd (.int n)) KX
theorem me_fldE {a D dd : Addr} {f : Str} {n : Int} {oe : Obj} {pn : List (Addr × Obj)} {e : Str} {pe pos : Pos} (i : Nat) (T : XfC X.K D) (hno : PySem.W.findIn X.K (.ref D) f = some none) (hz : Zc (.ref D) (some dd) oe) (hf : ∃ vs, oe.data = .fields vs) (hx : (dd, HO.xd [(f, V.int n)]) ∈ C.fix) (he : ME (X.suite a ((a, oe) :: pn)) C E (.Name e pe) (mVar i))
    (hb : attributeBase (.Name e pe) f X.env (eval (.Name e pe) X.env) = eval (.Name e pe) X.env := by rfl) : ME (X.suite a ((a, oe) :: pn)) C E (.Attribute (.Name e pe) f pos) (mFldE i a n) :=
  PE.imp (pe_xf T hno hz hf he hb) fun σ H Q ⟨env, G, Kd, KX, ok, vr, hm', pv, px⟩ => by
  refine ⟨env, G, _, KX, ok, vr, hm', fun d v H1 G1 s1 ok1 r1 k1 => ?_, px⟩
  obtain ⟨rfl, k1⟩ := k1
  cases r1
  exact ⟨rfl, rfl, dd, _, .int n, rfl, ok1.iv.fx _ hx, by simp [List.lookup], pv _ _ H1 G1 s1 ok1 (.int n) k1⟩
end
/-! ### an own __init__ -/
/-- what an own class over ValueError says of the __init__ that it inherits -/
structure BaseI (K : PySem.W.Frag) (M : Addr) : Prop where
  g : PySem.W.specialIn K (.ref M) "__getattribute__" = some (some (.builtin "type.__getattribute__"))
  t : PySem.W.typeIn K (.ref M) = some (.type "type")
  r : PySem.W.readsIn K M (.type "type") = true
  f : PySem.W.findCls K (.ref M) (.type "type") "__init__" = some (.val (.builtin "ValueError.__init__"))
section
variable {X : Cx} {C : C3} {E : XK} {fr : Bool} {B : Hp} {e : Expr} {es : List Expr} {ta : TA} {p1 p2 pos : Pos} {x : Str} {M : Addr}
/-- M.__init__(self, ..), M a class of the program that inherits ValueError's -/
theorem pe_baseI {pl : Sem Bool} (hg : Gl X x) (gM : X.mg x = some (.ref M)) (T : BaseI X.K M) (ha : PA X (e :: es) ta) (hdb : (x == ("__debug__" : Str)) = false := by decide)
    (ev : eval (.Call (.Attribute (.Name x p1) "__init__" p2) (e :: es) [] pos) X.env = (do
      let b ← eval (.Name x p1) X.env
      standAt p2.atName
      let (g, fs) ← holding [b] (getMethod b "__init__" pl)
      callWith pos g fs (backTo pos (starEach (e :: es) X.env)) (backToKw pos (keywordEach [] X.env))) := by rfl)
    (s1 : starEach (e :: es) X.env = (false, eval e X.env) :: starEach es X.env := by rfl) (s2 : (backTo pos (starEach es X.env)).any (·.1) = false := by rfl) :
    PE X (.Call (.Attribute (.Name x p1) "__init__" p2) (e :: es) [] pos) (tVeI X.K ta) := by
  refine ⟨fun pins s σ H Q I w => ?_⟩
  obtain ⟨m, fz⟩ := I.fr
  refine PySem.W.methodCall_KW (ld_glob I hg gM (PySem.W.method_of_cls fz I.ok.mod.kin T.g (PySem.W.cls_val fz I.ok.mod.kin T.t T.r T.f rfl ?_)) hdb) ev
  show wpAny _ _ (callWith pos (Value.builtin "ValueError.__init__") [] (backTo pos (starEach (e :: es) X.env)) []) _ _ _
  refine PyProof.Rows.callWith_method1 (thn (ha.run pos pins _ σ H _ (I.tok _) w) fun us s' z => ?_) s1 s2
  obtain ⟨vs, H1, I1, rs, a, D, ws, rfl, hl, TD, ea, q⟩ := z
  cases rs with
  | cons ra rw' =>
    cases ra
    refine oinit_ok TD I1 ea ?_ fun s'' J => ⟨.non, H1, J, rfl, q⟩
    rw [← Paired.length rw', sizeLine_eq]
    omega
/-- what __init__(self, n): M.__init__(self, ..); self.f = n keeps -/
def spIni (K : PySem.W.Frag) (D : Addr) (f : Str) : Sp := fun vs H Q _ => ∃ (a : Addr) (v : V), vs = [.ref a, v] ∧ OexC K D ∧ PySem.W.findIn K (.ref D) f = some none ∧ H a = some (exo a D none) ∧
  ∀ dx, H dx = none → dx ≠ a → Q .non (upd (upd H dx (exd dx [(f, v)])) a (exo a D (some dx)))
/-- a class with such an __init__ -/
structure XNk (P : Program) (w : World) (K : PySem.W.Frag) (mg : Str → Option Value) (base : Heap) (x : Str) (k : Nat) : Prop where
  ex : ∃ (D fI : Addr) (fd : FuncData) (ps : List Str), mg x = some (.ref D) ∧ OexC K D ∧ PySem.W.findIn K (.ref D) (fieldOf x) = some none ∧ PySem.W.findIn K (.ref D) "__init__" = some (some (.ref fI)) ∧ PySem.W.typeIn K (.ref fI) = some (.type "function") ∧
    FnOk P w K mg base (L2.CX P w) k fI fd ps (spIni K D (fieldOf x)) ∧ L2.Binds K fd ps []
def mRaiseN (x : Str) (m : MEt) : MSt := fun env Ks => m (viewE env) (fun d => match d with
  | .int n => Ks.ex ⟨x, some n⟩
  | _ => False) Ks.ex
theorem ms_raiseN {k : Nat} {m : MEt} {p pos2 : Pos} (o : XNk X.prog X.w X.K X.mg X.base x k) (hc : X.calm = true) (tk : Takes X (fun cls d _ H => E cls d H)) (hr : Room (k + 1) X.A) (hx : Passes (L2.CX X.prog X.w) X E0) (hg : Gl X x) (he : ME X C E e m) (hdb : (x == ("__debug__" : Str)) = false := by decide)
    (s1 : starEach (e :: []) X.env = (false, eval e X.env) :: starEach [] X.env := by rfl) (s2 : (backTo pos (starEach [] X.env)).any (·.1) = false := by rfl) : MS X C E fr B (.Raise (some (.Call (.Name x p) [e] [] pos)) none pos2) (mRaiseN x m) := fun G0 => by
  obtain ⟨D, fI, fd, ps, gx, T, hno, iC, tI, FF, hb⟩ := o.ex
  refine PS.imp (ps_raise hc tk (pmk_oex T iC tI FF hr hb .nil hx hg gx (pa_cons he pa_nil s1) hdb s1 s2)) fun En σ H ⟨env, G, Ks, er, hm, f⟩ => ?_
  refine ⟨viewE env, G, _, Ks.ex, er.z.ok, er.vr, hm, fun d v H1 G1 st1 ok1 r1 k1 => ?_, f.px er.z (Same.refl _)⟩
  obtain ⟨n, rfl⟩ : ∃ n, d = .int n := by cases d <;> first | exact (show False from k1).elim | exact ⟨_, rfl⟩
  cases r1
  refine ⟨by simp, fun a na => ⟨a, .int n, rfl, T, hno, upd_same, fun dx nd ne => ⟨rfl, dx, [(fieldOf x, .int n)], upd_same, ?_, ?_, ?_⟩⟩⟩
  · rw [upd_ne ne, upd_same]
  · rw [upd_ne ne] at nd
    exact nd
  · have nd1 : H1 dx = none := by rw [upd_ne ne] at nd; exact nd
    have at_ : ∀ b, b ≠ a → b ≠ dx → upd (L2.del (upd (upd (upd H1 a (exo a D none)) dx (exd dx [(fieldOf x, .int n)])) a (exo a D (some dx))) a) dx (.xd [(fieldOf x, .int n)]) b = H1 b := fun b h1 h2 => by
      rw [upd_ne h2, L2.del_ne h1, upd_ne h1, upd_ne h2, upd_ne h1]
    have sm : Same H1 (upd (L2.del (upd (upd (upd H1 a (exo a D none)) dx (exd dx [(fieldOf x, .int n)])) a (exo a D (some dx))) a) dx (.xd [(fieldOf x, .int n)])) := fun b u h => by
      rw [at_ b (ne_of_none h na) (ne_of_none h nd1)]
      exact h
    have er1 := er.step st1 ok1
    refine f.ex ⟨x, some n⟩ (.ref D) (some dx) _ k1 (fun b u sp h => nT_same sm b u (er1.z.keep b u sp h)) (fun b u h => sm b u (ok1.sub b u (er1.z.g0 b u h)).2) (ok1.iv.same sm) ⟨D, gx, rfl, dx, rfl, upd_same, ?_⟩
    cases q : G0 dx with
    | none => rfl
    | some u =>
      have := (ok1.sub dx u (er1.z.g0 dx u q)).2
      rw [nd1] at this
      cases this
end
end L3
/-! L3r: _law_kind of errors with a field, too -/
namespace L3
open PySem PySem.Spec PyProof.Rows L2
def m__law_kindM (a : Addr) (n : Int) (b_BadLead b_BadSpare b_BadMove b_NoWay b_BadWord b_BadHouse b_BadCall b_BadText : Bool) : MSt :=
  (mSeq (mSet 2 (mLst (aCons (mIsE 1 a b_BadLead) (aCons (mIsE 1 a b_BadSpare) (aCons (mIsE 1 a b_BadMove) (aCons (mIsE 1 a b_NoWay) aNil))))))
  (mSeq (mSetF 2 (m2 catD (mVar 2) (mLst (aCons (mIsE 1 a b_BadWord) (aCons (mIsE 1 a b_BadHouse) (aCons (mIsE 1 a b_BadCall) aNil))))))
  (mSeq (mAppend 2 (mIsE 1 a b_BadText))
  (mSeq (mSet 3 (mLst (aCons (mC (.str "BadLead")) (aCons (mC (.str "BadSpare")) (aCons (mC (.str "BadMove")) (aCons (mC (.str "NoWay")) (aCons (mC (.str "BadWord")) (aCons (mC (.str "BadHouse")) (aCons (mC (.str "BadCall")) (aCons (mC (.str "BadText")) aNil))))))))))
  (mSeq (mIfS (mOr (mB (m2 (eqE true) (mCountM (mVar 2) (mC (.bl true))) (mC (.int 1)))) (mNot (mB (mIsE 1 a true)))) (mRet (mC (.str "other"))) mNext)
  (mSeq (mSetL 4 (m2 ixD (mVar 3) (mIndexM (mVar 2) (mC (.bl true)))))
  (mSeq (mIfS (mB (m2 (eqE false) (mVar 4) (mC (.str "BadMove")))) (mRet (mTup (aCons (mVar 4) (aCons (mFldE 1 a n) aNil)))) mNext)
  (mRet (mIf (mB (m2 (eqE false) (mVar 4) (mC (.str "BadText")))) (mTup (aCons (mVar 4) (aCons mNo aNil))) (mVar 4))))))))))
def m__law_kindT (a : Addr) (n : Int) (b_BadLead b_BadSpare b_BadMove b_NoWay b_BadWord b_BadHouse b_BadCall b_BadText : Bool) : MSt :=
  (mSeq (mSet 2 (mLst (aCons (mIsE 1 a b_BadLead) (aCons (mIsE 1 a b_BadSpare) (aCons (mIsE 1 a b_BadMove) (aCons (mIsE 1 a b_NoWay) aNil))))))
  (mSeq (mSetF 2 (m2 catD (mVar 2) (mLst (aCons (mIsE 1 a b_BadWord) (aCons (mIsE 1 a b_BadHouse) (aCons (mIsE 1 a b_BadCall) aNil))))))
  (mSeq (mAppend 2 (mIsE 1 a b_BadText))
  (mSeq (mSet 3 (mLst (aCons (mC (.str "BadLead")) (aCons (mC (.str "BadSpare")) (aCons (mC (.str "BadMove")) (aCons (mC (.str "NoWay")) (aCons (mC (.str "BadWord")) (aCons (mC (.str "BadHouse")) (aCons (mC (.str "BadCall")) (aCons (mC (.str "BadText")) aNil))))))))))
  (mSeq (mIfS (mOr (mB (m2 (eqE true) (mCountM (mVar 2) (mC (.bl true))) (mC (.int 1)))) (mNot (mB (mIsE 1 a true)))) (mRet (mC (.str "other"))) mNext)
  (mSeq (mSetL 4 (m2 ixD (mVar 3) (mIndexM (mVar 2) (mC (.bl true)))))
  (mSeq (mIfS (mB (m2 (eqE false) (mVar 4) (mC (.str "BadMove")))) (mRet (mTup (aCons (mVar 4) (aCons mNo aNil)))) mNext)
  (mRet (mIf (mB (m2 (eqE false) (mVar 4) (mC (.str "BadText")))) (mTup (aCons (mVar 4) (aCons (mFldE 1 a n) aNil))) (mVar 4))))))))))
theorem pu_kind_BadMove (a : Addr) (n : Int) (Ks : KS) (k : Ks.rt (.tup [.str "BadMove", .int n])) : m__law_kindM a n false false true false false false false false [none, some (.sh (.ref a)), none, none, none] Ks := by
  refine ⟨rfl, rfl, rfl, rfl, by decide, rfl, rfl, rfl, by decide, by decide, fun q => ⟨rfl, by decide, ⟨by decide, ?_⟩⟩⟩
  refine ⟨⟨_, rfl⟩, rfl, rfl, eqE_int ?_⟩
  refine ⟨rfl, ⟨_, rfl⟩, rfl, rfl, 2, .bl true, rfl, rfl, fun m z' hm hz => ?_, ixD_lst (d := .str "BadMove") rfl ⟨rfl, eqE_str ?_⟩⟩
  · match m, hm, hz with | 0, _, rfl => rfl | 1, _, rfl => rfl
  · exact ⟨rfl, (by show 2 ≤ sizeLine; decide), k⟩
theorem kind_BadMove (a : Addr) (n : Int) (Ks : KS) (k : Ks.rt (.tup [.str "BadMove", .int n])) : m__law_kindM a n (decide (("BadLead" : Str) = "BadMove")) (decide (("BadSpare" : Str) = "BadMove")) (decide (("BadMove" : Str) = "BadMove")) (decide (("NoWay" : Str) = "BadMove")) (decide (("BadWord" : Str) = "BadMove")) (decide (("BadHouse" : Str) = "BadMove")) (decide (("BadCall" : Str) = "BadMove")) (decide (("BadText" : Str) = "BadMove")) [none, some (.sh (.ref a)), none, none, none] Ks := by
  rw [show decide (("BadLead" : Str) = "BadMove") = false by decide +kernel, show decide (("BadSpare" : Str) = "BadMove") = false by decide +kernel, show decide (("BadMove" : Str) = "BadMove") = true by decide +kernel, show decide (("NoWay" : Str) = "BadMove") = false by decide +kernel, show decide (("BadWord" : Str) = "BadMove") = false by decide +kernel, show decide (("BadHouse" : Str) = "BadMove") = false by decide +kernel, show decide (("BadCall" : Str) = "BadMove") = false by decide +kernel, show decide (("BadText" : Str) = "BadMove") = false by decide +kernel]
  exact pu_kind_BadMove a n Ks k
theorem pu_kind_BadText (a : Addr) (n : Int) (Ks : KS) (k : Ks.rt (.tup [.str "BadText", .int n])) : m__law_kindT a n false false false false false false false true [none, some (.sh (.ref a)), none, none, none] Ks := by
  refine ⟨rfl, rfl, rfl, rfl, by decide, rfl, rfl, rfl, by decide, by decide, fun q => ⟨rfl, by decide, ⟨by decide, ?_⟩⟩⟩
  refine ⟨⟨_, rfl⟩, rfl, rfl, eqE_int ?_⟩
  refine ⟨rfl, ⟨_, rfl⟩, rfl, rfl, 7, .bl true, rfl, rfl, fun m z' hm hz => ?_, ixD_lst (d := .str "BadText") rfl ⟨rfl, eqE_str ?_⟩⟩
  · match m, hm, hz with | 0, _, rfl => rfl | 1, _, rfl => rfl | 2, _, rfl => rfl | 3, _, rfl => rfl | 4, _, rfl => rfl | 5, _, rfl => rfl | 6, _, rfl => rfl
  · exact eqE_str ⟨rfl, (by show 2 ≤ sizeLine; decide), k⟩
theorem kind_BadText (a : Addr) (n : Int) (Ks : KS) (k : Ks.rt (.tup [.str "BadText", .int n])) : m__law_kindT a n (decide (("BadLead" : Str) = "BadText")) (decide (("BadSpare" : Str) = "BadText")) (decide (("BadMove" : Str) = "BadText")) (decide (("NoWay" : Str) = "BadText")) (decide (("BadWord" : Str) = "BadText")) (decide (("BadHouse" : Str) = "BadText")) (decide (("BadCall" : Str) = "BadText")) (decide (("BadText" : Str) = "BadText")) [none, some (.sh (.ref a)), none, none, none] Ks := by
  rw [show decide (("BadLead" : Str) = "BadText") = false by decide +kernel, show decide (("BadSpare" : Str) = "BadText") = false by decide +kernel, show decide (("BadMove" : Str) = "BadText") = false by decide +kernel, show decide (("NoWay" : Str) = "BadText") = false by decide +kernel, show decide (("BadWord" : Str) = "BadText") = false by decide +kernel, show decide (("BadHouse" : Str) = "BadText") = false by decide +kernel, show decide (("BadCall" : Str) = "BadText") = false by decide +kernel, show decide (("BadText" : Str) = "BadText") = true by decide +kernel]
  exact pu_kind_BadText a n Ks k
/-- what it makes of the lambda's reading: ws without a field, wn with one -/
def TTn (C : C3) (mg : Str → Option Value) (ws wn : List Str) : (XK → Hp → VK → Prop) → Hp → VK → Prop := fun tl H Q =>
  tl (fun cls d H' => (∃ (w : Str) (G : Hp) (D : Addr), Ok3 C H' G ∧ w ∈ ws ∧ cls = .ref D ∧ d = none ∧ Kinds C.K mg D w ∧ PostV C H' G (fun y => y = .str w) Q) ∨
    ∃ (w : Str) (n : Int) (G : Hp) (D dd : Addr), Ok3 C H' G ∧ w ∈ wn ∧ cls = .ref D ∧ d = some dd ∧ H' dd = some (.xd [(fieldOf w, .int n)]) ∧ G dd = none ∧ Kinds C.K mg D w ∧ XfC C.K D ∧ PySem.W.findIn C.K (.ref D) (fieldOf w) = some none ∧ PostV C H' G (fun y => y = .tup [.str w, .int n]) Q) H Q
def kindX (ws wn : List Str) (Kd : D → Prop) (x : Exn) : Prop := match x.num with
  | none => x.cls ∈ ws ∧ Kd (.str x.cls)
  | some n => x.cls ∈ wn ∧ Kd (.tup [.str x.cls, .int n])
def mKindN (ws wn : List Str) (m : MEt) : MEt := fun env Kd KX => m env Kd (kindX ws wn Kd)
open LamX in
/-- _law_kind(lambda: body) -/
theorem me_kindN {X : Cx} {C : C3} {E : XK} {ws wn : List Str} {m : MEt} {x a : Str} {g c P : Addr} {k : Nat} {pg : Arguments} {bg : List Stmt} {sg : Scope} {dV kV doc pm cdv ct oc : Value} {an od : Option Addr} {osl : Array (Option Value)} {Ng : List Str}
    {params : Arguments} {body : Expr} {scope : Scope} {p lpos pos : Pos} (hK : X.K = C.K) (hfx : ∀ p ∈ C.fix, notTbl p.2 = true) (kt : ∀ w ∈ ws, ∃ D, X.mg w = some (.ref D) ∧ Kinds X.K X.mg D w) (ktn : ∀ w ∈ wn, ∃ D, X.mg w = some (.ref D) ∧ Kinds X.K X.mg D w ∧ XfC X.K D ∧ PySem.W.findIn X.K (.ref D) (fieldOf w) = some none) (hg : Gl X x) (hm : X.mg x = some (.ref g)) (hk : PySem.W.keepIn X.K (.ref g) = true)
    (lk : X.K.lookup g = some ⟨oc, od, .func (PySem.W.fnOf x x pg bg sg dV kV doc pm an cdv ct), osl⟩) (hcg : PySem.W.codeIn X.K cdv x = true) (hb : L2.Binds X.K (PySem.W.fnOf x x pg bg sg dV kV doc pm an cdv ct) [a] []) (Sg : FnScope Ng [a] sg) (hNg : Ng[0]? = some a) (hva : Vis sg a)
    (hG : GivesTo X Ng x sg g cdv bg a (X.env.qual ++ "<lambda>") (TTn C X.mg ws wn))
    (TB : TabB X.base X.mg c P) (hcode : X.env.code = .ref c) (hmT : (P, X.env.qual ++ "<lambda>") ∈ C.tabs) (hu : ∀ p ∈ C.tabs, p.1 = P → p.2 = X.env.qual ++ "<lambda>") (hr : Room (k + 2) X.A) (L : LamS X.env.scope scope) (hdef : defaultsOf params X.env = ([], []))
    (hbind : ∀ (q : Str) (cl : List (Str × Addr)) (pm cv ctv : Value), bindArgs (PySem.W.kla_fn "<lambda>" q params body scope cl pm cv ctv) ⟨[], []⟩ = pure [])
    (hbody : ∀ (A : Around) (outer : List Env) (s : Shared) (H : Hp) (E : XK) (f c' : Addr), Room k (A.deeper (lamEnv X scope s.heap.objs.size f c')) → ME (lamCx X A outer s H E scope f c') C E body m)
    (hdb : (x == ("__debug__" : Str)) = false := by decide) (hd : (a == ("__debug__" : Str)) = false := by decide) (hcd : (a == ("__classdict__" : Str)) = false := by decide) :
    ME X C E (.Call (.Name x p) [.Lambda params body scope lpos] [] pos) (mKindN ws wn m) :=
  PE.imp (pe_lamcall (T := C.tabs) (TT := TTn C X.mg ws wn) (t := fun E => lift C X.mg E m) hg hm hk lk hcg hb Sg hNg hva hG TB hcode hmT hu hr L hdef hbind hbody hdb hd hcd) fun σ H Q ⟨env, G, Kd, KX, ok, vr, hm, pv, px⟩ => by
  refine ⟨ok.iv.tb, fun H1 eN tb => ?_⟩
  obtain ⟨ok1, s1⟩ := lam_ok ok hfx eN tb
  refine ⟨env, G, Kd, _, ok1, vr, hm, pv.on s1, fun x cls d H2 kx s2 ok2 r => ?_⟩
  obtain ⟨A, h1, h2, h3⟩ := r
  have kx : kindX ws wn Kd x := kx
  unfold kindX at kx
  cases q : x.num with
  | none =>
    rw [q] at h3 kx
    obtain ⟨hw, kx⟩ := kx
    obtain ⟨D, g1, g2⟩ := kt _ hw
    rw [h1] at g1
    cases g1
    exact .inl ⟨x.cls, G, A, ok2, hw, h2, h3, by rw [← hK]; exact g2, fun y v H3 G3 s3 ok3 r3 e => pv y v H3 G3 ((s1.trans ok2 s2).trans ok3 s3) ok3 r3 (by rw [e]; exact kx)⟩
  | some n =>
    rw [q] at h3 kx
    obtain ⟨hw, kx⟩ := kx
    obtain ⟨D, g1, g2, g3, g4⟩ := ktn _ hw
    rw [h1] at g1
    cases g1
    obtain ⟨dd, e1, e2, e3⟩ := h3
    exact .inr ⟨x.cls, n, G, A, dd, ok2, hw, h2, e1, e2, e3, by rw [← hK]; exact g2, by rw [← hK]; exact g3, by rw [← hK]; exact g4, fun y v H3 G3 s3 ok3 r3 e => pv y v H3 G3 ((s1.trans ok2 s2).trans ok3 s3) ok3 r3 (by rw [e]; exact kx)⟩
/-- the error's dict among what stays -/
theorem fix_ok {C : C3} {H G : Hp} (ok : Ok3 C H G) {dd : Addr} {fs : List (Str × V)} (hd : H dd = some (.xd fs)) (g : G dd = none) : Ok3 { C with fix := (dd, .xd fs) :: C.fix } H G := by
  have sp : ∀ a, a ≠ dd → C.sp a = false → C3.sp { C with fix := (dd, .xd fs) :: C.fix } a = false := fun a h1 h2 => by
    unfold C3.sp at h2 ⊢
    rw [Bool.or_eq_false_iff, Bool.or_eq_false_iff] at h2 ⊢
    refine ⟨⟨h2.1.1, ?_⟩, h2.2⟩
    rw [List.any_cons, h2.1.2, Bool.or_false]
    exact decide_eq_false fun e => h1 e.symm
  refine ⟨⟨fun a sa ns e => ?_, fun p hp => ?_, ok.iv.tb⟩, fun a o h => ⟨sp a (fun e => by rw [e, g] at h; cases h) (ok.sub a o h).1, (ok.sub a o h).2⟩, ok.nt⟩
  · obtain ⟨h1, h2, h3⟩ := ok.iv.st a sa ns e
    refine ⟨h1, ?_, ?_⟩
    · rcases h2 with ⟨o, h⟩ | h
      · exact .inl ⟨o, List.mem_cons_of_mem _ h⟩
      · exact .inr h
    · rw [List.any_cons, h3, Bool.or_false]
      obtain ⟨i, m, r, hl, _⟩ := h1
      exact decide_eq_false fun e => by
        have e : dd = a := e
        rw [e, hl] at hd
        cases hd
  · rcases List.mem_cons.mp hp with e | e
    · rw [e]; exact hd
    · exact ok.iv.fx p e
/-- .. and back -/
theorem unfix_ok {C : C3} {H G : Hp} {dd : Addr} {fs : List (Str × V)} (ok : Ok3 { C with fix := (dd, .xd fs) :: C.fix } H G) : Ok3 C H G := by
  have sp : ∀ a, C3.sp { C with fix := (dd, .xd fs) :: C.fix } a = false → C.sp a = false := fun a h => by
    unfold C3.sp at h ⊢
    rw [Bool.or_eq_false_iff, Bool.or_eq_false_iff] at h ⊢
    have h2 := h.1.2
    rw [List.any_cons, Bool.or_eq_false_iff] at h2
    exact ⟨⟨h.1.1, h2.2⟩, h.2⟩
  refine ⟨⟨fun a sa ns e => ?_, fun q hq => ok.iv.fx q (List.mem_cons_of_mem _ hq), ok.iv.tb⟩, fun a o h => ⟨sp a (ok.sub a o h).1, (ok.sub a o h).2⟩, ok.nt⟩
  obtain ⟨h1, h2, h3⟩ := ok.iv.st a sa ns e
  rw [List.any_cons, Bool.or_eq_false_iff] at h3
  refine ⟨h1, ?_, h3.2⟩
  rcases h2 with ⟨o, h⟩ | h
  · rcases List.mem_cons.mp h with e2 | e2
    · cases e2
    · exact .inl ⟨o, e2⟩
  · exact .inr h
theorem fix_nx {C : C3} {H H2 G2 : Hp} {dd : Addr} {fs : List (Str × V)} (ok : Ok3 { C with fix := (dd, .xd fs) :: C.fix } H2 G2) (k : ∀ a o, C3.sp { C with fix := (dd, .xd fs) :: C.fix } a = false → nT H a = some o → nT H2 a = some o) (hd : H dd = some (.xd fs)) : ∀ a o, C.sp a = false → nT H a = some o → nT H2 a = some o := fun a o h1 h2 => by
  by_cases c : a = dd
  · rw [c, nT_of hd] at h2
    cases h2
    rw [c]
    exact nT_of (ok.iv.fx (dd, .xd fs) List.mem_cons_self)
  · refine k a o ?_ h2
    unfold C3.sp at h1 ⊢
    rw [Bool.or_eq_false_iff, Bool.or_eq_false_iff] at h1 ⊢
    refine ⟨⟨h1.1.1, ?_⟩, h1.2⟩
    rw [List.any_cons, h1.1.2, Bool.or_false]
    exact decide_eq_false fun e => c e.symm
end L3
/-! L3s: a def that changes the list that it is handed first -/
namespace L3
open PySem PySem.Spec PyProof.Rows L2
abbrev OSpec := List D → List D → (List D → Prop) → Prop
def OSp (K : PySem.W.Frag) (n : Nat) (spec : OSpec) : Sp := fun vs H Q _ => ∃ (st : Option (Addr × Addr × List Int)) (fix : List (Addr × HO)) (tabs : List (Addr × Str)) (p : Addr) (vr : List V) (xs : List D) (ys : List V) (ds : List D) (G : Hp) (Kl : List D → Prop),
  vs = .ref p :: vr ∧ Ok3 ⟨K, st, fix, tabs⟩ H G ∧ C3.sp ⟨K, st, fix, tabs⟩ p = false ∧ G p = none ∧ H p = some (.lst ys) ∧ Rps K G xs ys ∧ Rps K G ds vr ∧ ds.length = n ∧ spec xs ds Kl ∧
  ∀ xs' ys' H' G', (∀ a o, C3.sp ⟨K, st, fix, tabs⟩ a = false → a ≠ p → nT H a = some o → nT H' a = some o) → Same G G' → (∀ a o, G a = none → G' a = some o → nT H a = none) → Ok3 ⟨K, st, fix, tabs⟩ H' G' → H' p = some (.lst ys') → G' p = none → Rps K G' xs' ys' → Kl xs' → Q .non H'
def startO (N : Nat) (p : Addr) (xs ds : List D) : EnvS := some (.own p (.lst xs)) :: startS (N - 1) ds
def offP (H : Hp) (p : Addr) : Hp := fun a => if a = p then none else H a
theorem offP_of {H : Hp} {p a : Addr} {o : HO} (h : offP H p a = some o) : a ≠ p ∧ H a = some o := by
  unfold offP at h
  by_cases c : a = p
  · rw [if_pos c] at h; cases h
  · rw [if_neg c] at h; exact ⟨c, h⟩
theorem startS_sh {N : Nat} {ds : List D} {i : Nat} {s : Slot} (h : (startS N ds)[i]? = some (some s)) : ∃ d, s = .sh d ∧ ds[i]? = some d := by
  unfold startS at h
  rw [List.getElem?_append] at h
  split at h
  · rw [List.getElem?_map] at h
    cases q : ds[i]? with
    | none => rw [q] at h; cases h
    | some d =>
      rw [q] at h
      have h : some (some (Slot.sh d)) = some (some s) := h
      cases h
      exact ⟨d, rfl, rfl⟩
  · rw [List.getElem?_replicate] at h
    split at h <;> cases h
theorem fn_l3o {P : Program} {w : World} {K : PySem.W.Frag} {mg : Str → Option Value} {base : Heap} {x qual : Str} {st : Stmt} {f : Addr} {fd : FuncData} {N ps : List Str} {k n : Nat} {spec : OSpec} (F : Fun K x qual st f fd) (S : FnScope N ps (defScope st)) (hn : ps.length = n + 1) (hN : n + 1 ≤ N.length) (m : MSt)
    (der : ∀ (s0 : Option (Addr × Addr × List Int)) (fix : List (Addr × HO)) (tabs : List (Addr × Str)) (B : Hp) (cdv : Value) (A : Around) (outer : List Env) (s : Shared) (H : Hp) (E : XK), Room k (A.deeper (envOfC qual (defScope st) s.heap.objs.size f cdv)) →
      MSs (cxOf (L2.CX P w) P w K mg base N qual (defScope st) f cdv A outer s H E) ⟨K, s0, fix, tabs⟩ E false B (defBody st) m)
    (pure : ∀ (p : Addr) (xs ds : List D) (Kl : List D → Prop), ds.length = n → spec xs ds Kl → m (startO N.length p xs ds) { nx := fun env => ∃ xs', env[0]? = some (some (.own p (.lst xs'))) ∧ Kl xs', rt := fun _ => False }) :
    FnOk P w K mg base (L2.CX P w) (k + 1) f fd ps (OSp K n spec) := by
  refine F.okX S (fun vs H Q E h => ?_) (fun cdv A outer s H vs Q E hr h => ?_)
  · obtain ⟨st, fix, tabs, p, vr, xs, ys, ds, G, Kl, rfl, ok, sp, g, hp, r1, r, hl, _⟩ := h
    rw [List.length_cons, ← r.length, hl, hn]
  · obtain ⟨s0, fix, tabs, p, vr, xs, ys, ds, G, Kl, rfl, ok, sp, g, hp, r1, r, hl, hs, pv⟩ := h
    have elen : ds.length = vr.length := r.length
    refine ⟨_, der s0 fix tabs (offP (nT H) p) cdv A outer s H E hr G, startO N.length p xs ds, G, _, ?_, pure p xs ds Kl hl hs, ?_⟩
    · refine ⟨⟨ok, Same.refl _, fun a o h h' => absurd (h.symm.trans h') (fun z => nomatch z), fun a o _ h => (offP_of h).2⟩, ?_, fun i d h => ?_, fun i q d h => ?_, fun i j q d e h h' => ?_⟩
      · unfold startO startS L2.start
        simp [elen]
        omega
      · match i, h with
        | 0, h => cases h
        | i + 1, h =>
          obtain ⟨d', e, q⟩ := startS_sh (show (startS (N.length - 1) ds)[i]? = some (some (.sh d)) from h)
          cases e
          obtain ⟨v, h1, h2⟩ := r.get q
          refine ⟨v, ?_, h2⟩
          have hi : i < vr.length := (List.getElem?_eq_some_iff.mp h1).1
          unfold L2.start
          rw [List.getElem?_append, if_pos (by simpa using hi), List.getElem?_map, List.getElem?_cons_succ, h1]
          rfl
      · match i, h with
        | 0, h =>
          cases h
          exact ⟨rfl, sp, by unfold offP; exact if_pos rfl, g, _, hp, .lst r1⟩
        | i + 1, h =>
          obtain ⟨d', e, _⟩ := startS_sh (show (startS (N.length - 1) ds)[i]? = some (some (.own q d)) from h)
          cases e
      · match i, j, h, h' with
        | 0, 0, _, _ => rfl
        | i + 1, _, h, _ =>
          obtain ⟨d', e, _⟩ := startS_sh (show (startS (N.length - 1) ds)[i]? = some (some (.own q d)) from h)
          cases e
        | _, j + 1, _, h' =>
          obtain ⟨d', e, _⟩ := startS_sh (show (startS (N.length - 1) ds)[j]? = some (some (.own q e)) from h')
          cases e
    · refine ⟨fun env σ H' G' er k => ?_, fun _ _ _ _ _ k => k.elim, fun _ _ _ _ _ k => k.elim, fun _ _ _ _ _ _ k => k.elim, fun x cls d H' k h1 h2 iv r => k.elim⟩
      obtain ⟨xs', h0, kl⟩ := k
      obtain ⟨_, _, _, g', o, ho, ob⟩ := er.own 0 p _ h0
      cases ob with
      | lst r' =>
        refine pv xs' _ H' G' (fun a o sp' ne h => er.z.keep a o sp' ?_) er.z.g0 (fun a o h h' => ?_) er.z.ok ho g' r' kl
        · unfold offP
          rw [if_neg ne]
          exact h
        · have := er.z.fr a o h h'
          unfold offP at this
          by_cases c : a = p
          · rw [c, g'] at h'; cases h'
          · rw [if_neg c] at this; exact this
structure DfO (P : Program) (w : World) (K : PySem.W.Frag) (mg : Str → Option Value) (base : Heap) (x : Str) (k : Nat) (n : Nat) (spec : OSpec) : Prop where
  ex : ∃ (f : Addr) (fd : FuncData) (ps : List Str), FnOk P w K mg base (L2.CX P w) k f fd ps (OSp K n spec) ∧ mg x = some (.ref f) ∧ PySem.W.keepIn K (.ref f) = true ∧ L2.Binds K fd ps []
/-- x(y, ..) as a statement; y the name of an own list -/
def mCallO (i : Nat) (spec : OSpec) (r : MAt) : MSt := fun env Ks => ownL env i fun p xs => r (viewE env) (fun ds => spec xs ds (fun xs' => Ks.nx (env.set i (some (.own p (.lst xs')))))) Ks.ex
theorem upd_back {H : Hp} {p : Addr} {o u : HO} (h : H p = some o) : upd (upd H p u) p o = H := funext fun a => by
  by_cases c : a = p
  · rw [c, upd_same, h]
  · rw [upd_ne c, upd_ne c]
section
variable {X : Cx} {E : XK} {fr : Bool} {B : Hp} {es : List Expr} {r : MAt} {pos p yp spos : Pos} {s0 : Option (Addr × Addr × List Int)} {fix : List (Addr × HO)} {tabs : List (Addr × Str)} {K : PySem.W.Frag}
theorem ms_callO {x y : Str} {i k n : Nat} {spec : OSpec} (F : DfO X.prog X.w X.K X.mg X.base x k n spec) (hr : Room k X.A) (hg : Gl X x) (hx : Passes (L2.CX X.prog X.w) X E) (hn : es.length = n) (ha : MA X ⟨X.K, s0, fix, tabs⟩ E es r)
    (hN : X.N[i]? = some y := by rfl) (hv : Vis X.env.scope y := by first | exact Or.inl rfl | exact Or.inr (Or.inl rfl) | exact Or.inr (Or.inr rfl)) (hd : (y == ("__debug__" : Str)) = false := by decide) (hcd : (y == ("__classdict__" : Str)) = false := by decide)
    (hdb : (x == ("__debug__" : Str)) = false := by decide) (he : starEach (.Name y yp :: es) X.env = (false, eval (.Name y yp) X.env) :: starEach es X.env := by rfl) (hpl : (backTo pos (starEach es X.env)).any (·.1) = false := by rfl) (hs : swapsWith (.Call (.Name x p) (.Name y yp :: es) [] pos) none spos.line X.env = pure false := by rfl) :
    MS X ⟨X.K, s0, fix, tabs⟩ E fr B (.Expr (.Call (.Name x p) (.Name y yp :: es) [] pos) spos) (mCallO i spec r) := fun G0 => by
  obtain ⟨f, fd, ps, F, hm, hk, hb⟩ := F.ex
  refine PS.imp (ps_expr (pe_call F hr hg hm hk hb .nil hx (pa_cons (pe_var hN hv hd hcd) ha he) hdb he hpl) hs) fun En σ H ⟨env, G, Ks, er, hm, f⟩ => ?_
  obtain ⟨q, xs, h0, hm⟩ := ownL_inv hm
  obtain ⟨h1, h2, h3, h4, o, h5, h6⟩ := er.own i q _ h0
  cases h6 with
  | lst rx =>
    rename_i ys
    refine ⟨.ref q, h1, viewE env, G, _, Ks.ex, er.z.ok, er.vr, hm, fun ds vs H1 G1 s1 ok1 r1 n1 k1 => ?_, f.px er.z (Same.refl _)⟩
    have er1 := er.step s1 ok1
    obtain ⟨_, _, _, g1, o1, w1, w2⟩ := er1.own i q _ h0
    cases w2 with
    | lst rx1 =>
      rename_i ys1
      show OSp X.K n spec ((V.ref q :: vs) ++ []) H1 _ E
      rw [List.append_nil]
      refine ⟨s0, fix, tabs, q, vs, xs, ys1, ds, G1, _, rfl, ok1, h2, g1, w1, rx1, r1, n1.trans hn, k1, fun xs' ys' H' G' nx ge fr' ok' hp' gp' r' kl => ?_⟩
      have hne : ∀ a o, G' a = some o → a ≠ q := fun a o h e => by rw [e, gp'] at h; cases h
      have ok2 : Ok3 ⟨X.K, s0, fix, tabs⟩ (upd H' q (.lst ys1)) G' := ⟨ok'.iv.upd h2 (upd_code hp' rfl), fun a o h => ⟨(ok'.sub a o h).1, by rw [upd_ne (hne a o h)]; exact (ok'.sub a o h).2⟩, ok'.nt⟩
      have st2 : Stp ⟨X.K, s0, fix, tabs⟩ H1 G1 (upd H' q (.lst ys1)) G' := ⟨fun a o sp h => by
        by_cases c : a = q
        · subst c
          rw [nT_of w1 rfl] at h
          cases h
          exact nT_of upd_same rfl
        · rw [nT_ne c]
          exact nx a o sp c h, ge, fr'⟩
      have er2 := (er1.step st2 ok2).write h0 (ObjO.lst r')
      rw [upd_back hp'] at er2
      exact f.nx _ _ H' G' er2 kl
end
end L3
/-! L3t: a tuple of words that the top has bound -/
namespace L3
open PySem PySem.Spec PyProof.Rows L2
structure GlobT (K : PySem.W.Frag) (mg : Str → Option Value) (x : Str) (ws : List Str) : Prop where
  ex : ∃ a o its n, mg x = some (.ref a) ∧ K.lookup a = some o ∧ o.cls = .type "tuple" ∧ o.dict = none ∧ o.data = .seq its n ∧ its.size ≤ sizeLine ∧ Vals (ws.map V.str) its.toList
theorem Rps.strs {K : PySem.W.Frag} {G : Hp} : ∀ ws : List Str, Rps K G (ws.map D.str) (ws.map V.str)
  | [] => .nil
  | w :: r => .cons (.str w) (Rps.strs r)
theorem me_globT {X : Cx} {C : C3} {E : XK} {x : Str} {ws : List Str} {pos : Pos} (hK : X.K = C.K) (h : GlobT X.K X.mg x ws) (hg : Gl X x) (hd : (x == ("__debug__" : Str)) = false := by decide) : ME X C E (.Name x pos) (mC (.tup (ws.map D.str))) := by
  obtain ⟨a, o, its, n, h1, h2, h3, h7, h4, h5, h6⟩ := h.ex
  exact me_c (v := .ref a) (pe_glob hg h1 rfl hd) fun G => .tup (.inr ⟨o, its, n, by rw [← hK]; exact h2, h3, h7, h4, h5, h6⟩) (Rps.strs ws)
theorem mem_tab {T : Addr} {tabs : List (Addr × Str)} {q s : Str} (h : tabs = [(T, s)]) (e : q = s) : (T, q) ∈ tabs := by
  subst h
  subst e
  exact List.mem_cons_self
theorem un_tab {T : Addr} {tabs : List (Addr × Str)} {q s : Str} (h : tabs = [(T, s)]) (e : q = s) : ∀ p ∈ tabs, p.1 = T → p.2 = q := by
  subst h
  subst e
  intro p hp _
  rw [List.mem_singleton.mp hp]
theorem lam_q {x : Str} (h : x = ("law" : Str) ++ ".<locals>.") : x ++ "<lambda>" = lamQ := by rw [h]
end L3
/-! L3u: what the top says, from what is looked up in it -/
namespace L3
open PySem PySem.Spec PyProof.Rows L2
theorem kit_ref {K : PySem.W.Frag} {D C : Addr} {b : Bool} (h1 : PySem.W.isClsIn K C = true) (h2 : PySem.W.typeIn K (.ref C) = some (.type "type")) (h3 : PySem.W.subIn K (.ref D) (.ref C) = some b) (h4 : PySem.W.subIn K (.ref D) (.ref D) = some true) : PySem.W.kitOne K (.ref D) (.ref C) = some b := by
  unfold PySem.W.kitOne
  by_cases e : D = C
  · subst e
    rw [h3] at h4
    rw [if_pos (beq_self_eq_true _), h4]
  · rw [if_neg (by rw [beq_iff_eq]; intro z; exact e (by cases z; rfl))]
    show (if ((PySem.W.clsIn K C).isSome && PySem.W.typeIn K (.ref C) == some (.type "type")) = true then PySem.W.subIn K (.ref D) (.ref C) else none) = some b
    have h1 : (PySem.W.clsIn K C).isSome = true := h1
    rw [if_pos (by rw [h1, h2]; rfl), h3]
theorem kit_T {K : PySem.W.Frag} {D : Addr} {T : String} {b : Bool} (h : PySem.W.kitMeta T = true) (h3 : PySem.W.subIn K (.ref D) (.type T) = some b) : PySem.W.kitOne K (.ref D) (.type T) = some b := by
  unfold PySem.W.kitOne
  rw [if_neg (by rw [beq_iff_eq]; intro z; cases z)]
  show (if PySem.W.kitMeta T = true then PySem.W.subIn K (.ref D) (.type T) else none) = some b
  rw [if_pos h, h3]
theorem exm_ref {K : PySem.W.Frag} {D C : Addr} {b : Bool} (h1 : PySem.W.isClsIn K C = true) (h2 : PySem.W.typeIn K (.ref C) = some (.type "type")) (h3 : PySem.W.subIn K (.ref D) (.ref C) = some b) (h5 : PySem.W.subIn K (.ref C) (.type "BaseException") = some true) : PySem.W.exmOne K (.ref D) (.ref C) = some b := by
  unfold PySem.W.exmOne
  rw [if_pos (by rw [h5]; rfl)]
  show (if ((PySem.W.clsIn K C).isSome && PySem.W.typeIn K (.ref C) == some (.type "type")) = true then PySem.W.subIn K (.ref D) (.ref C) else none) = some b
  have h1 : (PySem.W.clsIn K C).isSome = true := h1
  rw [if_pos (by rw [h1, h2]; rfl), h3]
theorem tab_mk {K : PySem.W.Frag} {x : Str} {f c T : Addr} {oc oc2 : Value} {od od2 : Option Addr} {fd : FuncData} {sl sl2 : Array (Option Value)} {vs : Array Value} (a : PySem.W.nsIn K mainGlobals x = some (some (.ref f))) (l : K.lookup f = some ⟨oc, od, .func fd, sl⟩) (hc : fd.code = .ref c) (k : K.lookup c = some ⟨oc2, od2, .fields vs, sl2⟩) (v : vs[11]? = some (.ref T)) : PySem.W.tabIn K x = some (c, T) := by
  unfold PySem.W.tabIn
  rw [a]
  simp only [l, hc, k, v]
end L3
set_option pp.maxSteps 600
/-! L3v: fresh lists told in a tuple, changed in a loop -/
namespace L3
open PySem PySem.Spec PyProof.Rows L2
structure Told (C : C3) (H G : Hp) (q : Addr) (ps : List Addr) (dss : List (List D)) : Prop where
  nd : (q :: ps).Nodup
  tq : ∃ o, H q = some (.frz o (.tup (ps.map V.ref))) ∧ o.cls = .type "tuple" ∧ o.dict = none
  fr : ∀ p ∈ q :: ps, C.sp p = false ∧ G p = none
  len : ps.length = dss.length
  it : ∀ (i : Nat) (p : Addr) (ds : List D), ps[i]? = some p → dss[i]? = some ds → ∃ vs, H p = some (.lst vs) ∧ Rps C.K G ds vs
theorem Told.of {C : C3} {H G : Hp} {q p : Addr} {ps : List Addr} {dss : List (List D)} (t : Told C H G q ps dss) (h : p ∈ q :: ps) : ∃ o, H p = some o ∧ notTbl o = true := by
  rcases List.mem_cons.mp h with rfl | h
  · obtain ⟨o, e, _⟩ := t.tq
    exact ⟨_, e, rfl⟩
  · obtain ⟨i, hi, rfl⟩ := List.getElem_of_mem h
    obtain ⟨vs, e, _⟩ := t.it i ps[i] (dss[i]'(by rw [← t.len]; exact hi)) (List.getElem?_eq_getElem hi) (List.getElem?_eq_getElem _)
    exact ⟨_, e, rfl⟩
theorem Told.step {C : C3} {H G H' : Hp} {q : Addr} {ps : List Addr} {dss : List (List D)} (t : Told C H G q ps dss) (nx : ∀ a o, C.sp a = false → nT H a = some o → nT H' a = some o) : Told C H' G q ps dss := by
  refine ⟨t.nd, ?_, t.fr, t.len, fun i p ds h1 h2 => ?_⟩
  · obtain ⟨o, e, c⟩ := t.tq
    exact ⟨o, (nT_to (nx q _ (t.fr q List.mem_cons_self).1 (nT_of e))).1, c⟩
  · obtain ⟨vs, e, r⟩ := t.it i p ds h1 h2
    exact ⟨vs, (nT_to (nx p _ (t.fr p (List.mem_cons_of_mem _ (List.mem_of_getElem? h1))).1 (nT_of e))).1, r⟩
/-- all of it frozen -/
theorem add_lists {C : C3} {H : Hp} : ∀ (l : List (Addr × List D)) (G : Hp), Ok3 C H G → (l.map (·.1)).Nodup → (∀ x ∈ l, G x.1 = none ∧ C.sp x.1 = false ∧ ∃ vs, H x.1 = some (.lst vs) ∧ Rps C.K G x.2 vs) →
    ∃ G2, Same G G2 ∧ Ok3 C H G2 ∧ (∀ x ∈ l, Rp C.K G2 (.lst x.2) (.ref x.1)) ∧ ∀ a, a ∉ l.map (·.1) → G2 a = G a
  | [], G, ok, _, _ => ⟨G, Same.refl _, ok, (fun x h => nomatch h), fun _ _ => rfl⟩
  | x :: l, G, ok, nd, h => by
    rw [List.map_cons, List.nodup_cons] at nd
    obtain ⟨g, sp, vs, e, r⟩ := h x List.mem_cons_self
    have ok1 : Ok3 C H (upd G x.1 (.lst vs)) := ok.frz g e sp
    have s1 : Same G (upd G x.1 (.lst vs)) := same_new g
    obtain ⟨G2, s2, ok2, r2, k2⟩ := add_lists l _ ok1 nd.2 fun y hy => by
      obtain ⟨g', sp', vs', e', r'⟩ := h y (List.mem_cons_of_mem _ hy)
      have ne : y.1 ≠ x.1 := fun z => nd.1 (List.mem_map.mpr ⟨y, hy, z⟩)
      exact ⟨by rw [upd_ne ne]; exact g', sp', vs', e', r'.mono s1⟩
    refine ⟨G2, s1.trans s2, ok2, fun y hy => ?_, fun a ha => ?_⟩
    · rcases List.mem_cons.mp hy with rfl | hy
      · exact .lst (s2 _ _ upd_same) (r.mono (s1.trans s2))
      · exact r2 y hy
    · rw [List.map_cons, List.mem_cons, not_or] at ha
      rw [k2 a ha.2, upd_ne ha.1]
theorem Told.all {C : C3} {H G GL : Hp} {q : Addr} {ps : List Addr} {dss : List (List D)} (t : Told C H G q ps dss) (e : Same G GL) (ok : Ok3 C H GL) (gl : ∀ p ∈ q :: ps, GL p = none) : ∃ G2, Same GL G2 ∧ Ok3 C H G2 ∧ Rp C.K G2 (.tup (dss.map D.lst)) (.ref q) := by
  have hz : (ps.zip dss).map (·.1) = ps := by
    rw [List.map_fst_zip]
    rw [t.len]
    exact Nat.le_refl _
  have nd := t.nd
  rw [List.nodup_cons] at nd
  obtain ⟨G2, s2, ok2, r2, k2⟩ := add_lists (ps.zip dss) GL ok (by rw [hz]; exact nd.2) fun x hx => by
    obtain ⟨i, hi, rfl⟩ := List.getElem_of_mem hx
    rw [List.length_zip] at hi
    have h1 : i < ps.length := by omega
    have h2 : i < dss.length := by omega
    rw [List.getElem_zip]
    obtain ⟨vs, q1, q2⟩ := t.it i ps[i] dss[i] (List.getElem?_eq_getElem h1) (List.getElem?_eq_getElem h2)
    have hm := List.mem_cons_of_mem q (List.getElem_mem h1)
    exact ⟨gl _ hm, (t.fr _ hm).1, vs, q1, q2.mono e⟩
  obtain ⟨o, eq, c1, c2⟩ := t.tq
  have gq : G2 q = none := by rw [k2 q (by rw [hz]; exact nd.1)]; exact gl q List.mem_cons_self
  have ok3 : Ok3 C H (upd G2 q (.frz o (.tup (ps.map V.ref)))) := ok2.frz gq eq (t.fr q List.mem_cons_self).1
  refine ⟨_, s2.trans (same_new gq), ok3, .tup (.inl ⟨o, upd_same, c1, c2⟩) ?_⟩
  have go : ∀ (l : List (Addr × List D)), (∀ x ∈ l, Rp C.K G2 (.lst x.2) (.ref x.1)) → Rps C.K (upd G2 q (.frz o (.tup (ps.map V.ref)))) ((l.map (·.2)).map D.lst) ((l.map (·.1)).map V.ref) := by
    intro l
    induction l with
    | nil => exact fun _ => .nil
    | cons x l ih => exact fun h => .cons ((h x List.mem_cons_self).mono (same_new gq)) (ih fun y hy => h y (List.mem_cons_of_mem _ hy))
  have := go (ps.zip dss) r2
  rw [hz, List.map_snd_zip (by rw [t.len]; exact Nat.le_refl _)] at this
  exact this
/-! ### expressions that tell such a tuple -/
abbrev PostT (C : C3) (H G : Hp) (K3 : List (List D) → Prop) (Q : VK) : Prop := ∀ dss q ps H' G', Stp C H G H' G' → Ok3 C H' G' → (∀ p ∈ q :: ps, nT H p = none) → Told C H' G' q ps dss → K3 dss → Q (.ref q) H'
abbrev M3t := EnvE → (List (List D) → Prop) → (Exn → Prop) → Prop
def liftT3 (C : C3) (mg : Str → Option Value) (E : XK) (m : M3t) : TE := fun σ H Q => ∃ env G K3 KX, Ok3 C H G ∧ VR C.K G env σ ∧ m env K3 KX ∧ PostT C H G K3 Q ∧ PostX C mg H G KX E
abbrev MT3 (X : Cx) (C : C3) (E : XK) (e : Expr) (m : M3t) : Prop := PE X e (liftT3 C X.mg E m)
theorem PostT.on {C : C3} {H G H' G' : Hp} {K3 : List (List D) → Prop} {Q : VK} (h : PostT C H G K3 Q) (s : Stp C H G H' G') : PostT C H' G' K3 Q := fun dss q ps H2 G2 s2 ok2 nh t k => h dss q ps H2 G2 (s.trans ok2 s2) ok2 (fun p hp => by
  cases e : nT H p with
  | none => rfl
  | some u =>
    have := s.nx p u (t.fr p hp).1 e
    rw [nh p hp] at this
    cases this) t k
/-! ### a def that tells one -/
abbrev Spec3 := Option Addr → List D → (List (List D) → Prop) → (Exn → Prop) → Prop
def TSp (K : PySem.W.Frag) (mg : Str → Option Value) (n : Nat) (spec : Spec3) : Sp := fun vs H Q E => ∃ (st : Option (Addr × Addr × List Int)) (fix : List (Addr × HO)) (tabs : List (Addr × Str)) (ds : List D) (G : Hp) (K3 : List (List D) → Prop) (KX : Exn → Prop),
  Ok3 ⟨K, st, fix, tabs⟩ H G ∧ Rps K G ds vs ∧ ds.length = n ∧ spec (st.map (·.1)) ds K3 KX ∧ PostT ⟨K, st, fix, tabs⟩ H G K3 Q ∧ PostX ⟨K, st, fix, tabs⟩ mg H G KX E
structure DfT (P : Program) (w : World) (K : PySem.W.Frag) (mg : Str → Option Value) (base : Heap) (x : Str) (k : Nat) (n : Nat) (spec : Spec3) : Prop where
  ex : ∃ (f : Addr) (fd : FuncData) (ps : List Str), FnOk P w K mg base (L2.CX P w) k f fd ps (TSp K mg n spec) ∧ mg x = some (.ref f) ∧ PySem.W.keepIn K (.ref f) = true ∧ L2.Binds K fd ps []
def mCall3 (sa : Option Addr) (spec : Spec3) (r : MAt) : M3t := fun env K3 KX => r env (fun ds => spec sa ds K3 KX) KX
section
variable {X : Cx} {E : XK} {e : Expr} {es : List Expr} {r : MAt} {pos p : Pos} {s0 : Option (Addr × Addr × List Int)} {fix : List (Addr × HO)} {tabs : List (Addr × Str)}
theorem mt_call3 {x : Str} {k n : Nat} {spec : Spec3} (F : DfT X.prog X.w X.K X.mg X.base x k n spec) (hr : Room k X.A) (hg : Gl X x) (hx : Passes (L2.CX X.prog X.w) X E) (hn : (e :: es).length = n) (ha : MA X ⟨X.K, s0, fix, tabs⟩ E (e :: es) r)
    (hdb : (x == ("__debug__" : Str)) = false := by decide) (he : starEach (e :: es) X.env = (false, eval e X.env) :: starEach es X.env := by rfl) (hpl : (backTo pos (starEach es X.env)).any (·.1) = false := by rfl) :
    MT3 X ⟨X.K, s0, fix, tabs⟩ E (.Call (.Name x p) (e :: es) [] pos) (mCall3 (s0.map (·.1)) spec r) := by
  obtain ⟨f, fd, ps, F, hm, hk, hb⟩ := F.ex
  refine PE.imp (pe_call F hr hg hm hk hb .nil hx ha hdb he hpl) fun σ H Q ⟨env, G, K3, KX, ok, vr, hm, pv, px⟩ => ?_
  refine ⟨env, G, _, KX, ok, vr, hm, fun ds vs H1 G1 s1 ok1 r1 n1 k1 => ?_, px⟩
  show TSp X.K X.mg n spec (vs ++ []) H1 Q E
  rw [List.append_nil]
  exact ⟨s0, fix, tabs, ds, G1, K3, KX, ok1, r1, n1.trans hn, k1, pv.on s1, px.on ok s1⟩
end
section
variable {X : Cx} {C : C3} {E : XK} {a b c : Expr} {m1 m2 m3 : MEt} {pos : Pos}
/-- (a, b, c) of three new lists -/
def mTup3 (m1 m2 m3 : MEt) : M3t := fun env K3 KX => m1 env (fun d1 => m2 env (fun d2 => m3 env (fun d3 => ∃ x y z, d1 = .lst x ∧ d2 = .lst y ∧ d3 = .lst z ∧ K3 [x, y, z]) KX) KX) KX
theorem nT_back {C : C3} {H G H' G' : Hp} (s : Stp C H G H' G') {p : Addr} (sp : C.sp p = false) (h : nT H' p = none) : nT H p = none := by
  cases e : nT H p with
  | none => rfl
  | some u =>
    rw [s.nx p u sp e] at h
    cases h
theorem mt_tup3 {x1} (h1 : MF X C E a m1) (h2 : MF X C E b m2) (h3 : MF X C E c m3)
    (e1 : starEach (a :: [b, c]) X.env = (false, eval a X.env) :: starEach [b, c] X.env := by rfl) (e2 : starEach (b :: [c]) X.env = (false, eval b X.env) :: starEach [c] X.env := by rfl) (e3 : starEach (c :: []) X.env = (false, eval c X.env) :: starEach [] X.env := by rfl) :
    MT3 X C E (.Tuple [a, b, c] x1 pos) (mTup3 m1 m2 m3) :=
  PE.imp (pe_tupN (pa_cons h1 (pa_cons h2 (pa_cons h3 pa_nil e3) e2) e1)) fun σ H Q ⟨env, G, K3, KX, ok, vr, hm, pt, px⟩ => by
  refine ⟨env, G, _, KX, ok, vr, hm, fun d1 p1 o1 H1 G1 s1 ok1 n1 g1 w1 sp1 r1 k1 => ?_, px⟩
  refine ⟨env, G1, _, KX, ok1, vr.mono s1.ge, k1, fun d2 p2 o2 H2 G2 s2 ok2 n2 g2 w2 sp2 r2 k2 => ?_, px.on ok s1⟩
  refine ⟨env, G2, _, KX, ok2, vr.mono (s1.ge.trans s2.ge), k2, fun d3 p3 o3 H3 G3 s3 ok3 n3 g3 w3 sp3 r3 k3 => ?_, (px.on ok s1).on ok1 s2⟩
  refine ⟨by show 3 ≤ sizeLine; decide, fun q ob hq c1 c2 => ?_⟩
  obtain ⟨x, y, z, rfl, rfl, rfl, k⟩ := k3
  cases r1 with | lst r1 => ?_
  cases r2 with | lst r2 => ?_
  cases r3 with | lst r3 => ?_
  obtain ⟨ok4, s4, gq⟩ := ok3.new (o := .frz ob (.tup [V.ref p1, .ref p2, .ref p3])) hq
  have s13 : Stp C H G H3 G3 := (s1.trans ok2 s2).trans ok3 s3
  have w1' := s3.nh p1 _ sp1 (s2.nh p1 _ sp1 w1)
  have w2' := s3.nh p2 _ sp2 w2
  have q1 : q ≠ p1 := fun z => by rw [z, w1'] at hq; cases hq
  have q2 : q ≠ p2 := fun z => by rw [z, w2'] at hq; cases hq
  have q3 : q ≠ p3 := fun z => by rw [z, w3] at hq; cases hq
  have p12 : p1 ≠ p2 := fun z => by
    have := nT_of w1
    rw [z, n2] at this
    cases this
  have p13 : p1 ≠ p3 := fun z => by
    have := nT_of (s2.nh p1 _ sp1 w1)
    rw [z, n3] at this
    cases this
  have p23 : p2 ≠ p3 := fun z => by
    have := nT_of w2
    rw [z, n3] at this
    cases this
  have gp : ∀ {p : Addr} {o : HO}, H3 p = some o → notTbl o = true → C.sp p = false → G1 p = none → (nT H1 p).isSome → G3 p = none := fun {p o} h n sp g1 hs => by
    have g2' : G2 p = none := by
      cases e : G2 p with
      | none => rfl
      | some u =>
        have := s2.fr p u g1 e
        rw [this] at hs
        cases hs
    cases e : G3 p with
    | none => rfl
    | some u =>
      have h2 := s3.fr p u g2' e
      cases e2 : nT H1 p with
      | none => rw [e2] at hs; cases hs
      | some v =>
        rw [s2.nx p v sp e2] at h2
        cases h2
  have g1' : G3 p1 = none := gp w1' rfl sp1 g1 (by rw [nT_of w1]; rfl)
  have g2' : G3 p2 = none := by
    cases e : G3 p2 with
    | none => rfl
    | some u =>
      have := s3.fr p2 u g2 e
      rw [nT_of w2] at this
      cases this
  have gq' : G3 q = none := gq
  refine pt [x, y, z] q [p1, p2, p3] _ G3 (s13.trans ok4 s4) ok4 (fun p hp => ?_) ⟨?_, ⟨ob, upd_same, c1, c2⟩, fun p hp => ?_, rfl, fun i p ds h1 h2 => ?_⟩ k
  · simp only [List.mem_cons, List.mem_nil_iff, or_false] at hp
    rcases hp with rfl | rfl | rfl | rfl
    · exact nT_back s13 (ok3.iv.new hq) (nT_none hq)
    · exact n1
    · exact nT_back s1 sp2 n2
    · exact nT_back (s1.trans ok2 s2) sp3 n3
  · simp [q1, q2, q3, p12, p13, p23]
  · simp only [List.mem_cons, List.mem_nil_iff, or_false] at hp
    rcases hp with rfl | rfl | rfl | rfl
    · exact ⟨ok3.iv.new hq, gq'⟩
    · exact ⟨sp1, g1'⟩
    · exact ⟨sp2, g2'⟩
    · exact ⟨sp3, g3⟩
  · match i, h1, h2 with
    | 0, h1, h2 =>
      cases h1; cases h2
      exact ⟨_, by rw [upd_ne (Ne.symm q1)]; exact w1', r1.mono (s2.ge.trans s3.ge)⟩
    | 1, h1, h2 =>
      cases h1; cases h2
      exact ⟨_, by rw [upd_ne (Ne.symm q2)]; exact w2', r2.mono s3.ge⟩
    | 2, h1, h2 =>
      cases h1; cases h2
      exact ⟨_, by rw [upd_ne (Ne.symm q3)]; exact w3, r3⟩
end
/-- s1; s2; return e -/
theorem fn_l3t {P : Program} {w : World} {K : PySem.W.Frag} {mg : Str → Option Value} {base : Heap} {x qual : Str} {st s1 s2 : Stmt} {e : Expr} {pos : Pos} {f : Addr} {fd : FuncData} {N ps : List Str} {k n : Nat} {spec : Spec3} (F : Fun K x qual st f fd) (S : FnScope N ps (defScope st)) (hn : ps.length = n) (hb : defBody st = [s1, s2, .Return (some e) pos]) (m1 m2 : Option Addr → MSt) (m3 : Option Addr → M3t)
    (der : ∀ (s0 : Option (Addr × Addr × List Int)) (fix : List (Addr × HO)) (tabs : List (Addr × Str)) (B : Hp) (cdv : Value) (A : Around) (outer : List Env) (s : Shared) (H : Hp) (E : XK), Room k (A.deeper (envOfC qual (defScope st) s.heap.objs.size f cdv)) →
      MS (cxOf (L2.CX P w) P w K mg base N qual (defScope st) f cdv A outer s H E) ⟨K, s0, fix, tabs⟩ E false B s1 (m1 (s0.map (·.1))) ∧ MS (cxOf (L2.CX P w) P w K mg base N qual (defScope st) f cdv A outer s H E) ⟨K, s0, fix, tabs⟩ E false B s2 (m2 (s0.map (·.1))) ∧ MT3 (cxOf (L2.CX P w) P w K mg base N qual (defScope st) f cdv A outer s H E) ⟨K, s0, fix, tabs⟩ E e (m3 (s0.map (·.1))))
    (pure : ∀ (sa : Option Addr) (ds : List D) (K3 : List (List D) → Prop) (KX : Exn → Prop), ds.length = n → spec sa ds K3 KX → m1 sa (startS N.length ds) { nx := fun env1 => m2 sa env1 { nx := fun env2 => m3 sa (viewE env2) K3 KX, rt := fun _ => False, ex := KX }, rt := fun _ => False, ex := KX }) :
    FnOk P w K mg base (L2.CX P w) (k + 1) f fd ps (TSp K mg n spec) := by
  refine F.okX S (fun vs H Q E h => ?_) (fun cdv A outer s H vs Q E hr h => ?_)
  · obtain ⟨st, fix, tabs, ds, G, Kd, KX, ok, r, hl, _⟩ := h
    rw [← r.length, hl, hn]
  · obtain ⟨s0, fix, tabs, ds, G, K3, KX, ok, r, hl, hs, pt, px⟩ := h
    obtain ⟨d1, d2, d3⟩ := der s0 fix tabs (nT H) cdv A outer s H E hr
    rw [hb]
    have noO : ∀ (i : Nat) (p : Addr) (d : D), (startS N.length ds)[i]? ≠ some (some (Slot.own p d)) := fun i p d => by
      unfold startS
      rw [List.getElem?_append]
      split
      · rw [List.getElem?_map]
        cases ds[i]? <;> intro z <;> cases z
      · rw [List.getElem?_replicate]
        split <;> intro z <;> cases z
    refine ⟨_, pss_cons (d1 G) (pss_cons (d2 G) (pss_one (ps_ret d3))), startS N.length ds, G, _, ?_, pure _ ds K3 KX hl hs, ?_⟩
    · have elen : ds.length = vs.length := r.length
      refine ⟨⟨ok, Same.refl _, fun a o h h' => absurd (h.symm.trans h') (fun z => nomatch z), fun _ _ _ h => h⟩, ?_, fun i d h => ?_, fun i p d h => absurd h (noO i p d), fun i j p d e h _ => absurd h (noO i p d)⟩
      · unfold startS L2.start
        simp [elen]
      · unfold startS at h
        rw [List.getElem?_append] at h
        by_cases c : i < ds.length
        · rw [if_pos (by simpa using c), List.getElem?_map] at h
          cases q : ds[i]? with
          | none => rw [q] at h; cases h
          | some e =>
            rw [q] at h
            have h : some (some (Slot.sh e)) = some (some (Slot.sh d)) := h
            cases h
            obtain ⟨v, h1, h2⟩ := r.get q
            refine ⟨v, ?_, h2⟩
            unfold L2.start
            rw [List.getElem?_append, if_pos (by simpa [← elen] using c), List.getElem?_map, h1]
            rfl
        · rw [if_neg (by simpa using c), List.getElem?_replicate] at h
          split at h <;> cases h
    · have stp : ∀ {H1 G1 : Hp}, ER0 ⟨K, s0, fix, tabs⟩ (nT H) G H1 G1 → Stp ⟨K, s0, fix, tabs⟩ H G H1 G1 := fun {H1 G1} z => ⟨z.keep, z.g0, z.fr⟩
      have fx : ∀ x cls d H1, KX x → (∀ a o, C3.sp ⟨K, s0, fix, tabs⟩ a = false → nT H a = some o → nT H1 a = some o) → (∀ a o, G a = some o → H1 a = some o) → Iv ⟨K, s0, fix, tabs⟩ H1 → XRep mg x cls d H1 G → E cls d H1 := fun x cls d H1 k h1 h2 iv r => by
        refine px x cls d H1 k ⟨h1, Same.refl _, fun a o h h' => by rw [h] at h'; cases h'⟩ ⟨iv, fun a o h => ⟨(ok.sub a o h).1, h2 a o h⟩, ok.nt⟩ r
      refine ⟨fun env1 σ1 H1 G1 er1 k1 => ?_, fun _ _ _ _ _ k => k.elim, fun _ _ _ _ _ k => k.elim, fun _ _ _ _ _ _ k => k.elim, fx⟩
      refine ⟨env1, G1, _, er1, k1, ⟨fun env2 σ2 H2 G2 er2 k2 => ?_, fun _ _ _ _ _ k => k.elim, fun _ _ _ _ _ k => k.elim, fun _ _ _ _ _ _ k => k.elim, fx⟩⟩
      exact ⟨viewE env2, G2, K3, KX, er2.z.ok, er2.vr, k2, pt.on (stp er2.z), px.on ok (stp er2.z)⟩
/-! ### the block: x = e; if t: return; for y in x: body -/
theorem ER.none {C : C3} {B G0 H G : Hp} {env : EnvS} {σ : L2.St} (z : ER C B G0 H G env σ) (i : Nat) (x : Option V) : ER C B G0 H G (env.set i Option.none) (σ.set i x) := by
  have un : ∀ {j : Nat} {s : Slot}, (env.set i Option.none)[j]? = some (some s) → i ≠ j ∧ env[j]? = some (some s) := fun {j s} h => by
    by_cases c : i = j
    · subst c
      by_cases hi : i < env.length
      · rw [List.getElem?_set_self hi] at h; cases h
      · rw [List.getElem?_eq_none (by simpa using hi)] at h; cases h
    · rw [List.getElem?_set_ne c] at h
      exact ⟨c, h⟩
  refine ⟨z.z, by simpa using z.len, fun j e h => ?_, fun j p e h => ?_, fun j k p e f h h' => ?_⟩
  · obtain ⟨c, h⟩ := un h
    obtain ⟨w, h1, h2⟩ := z.sh j e h
    exact ⟨w, by rw [List.getElem?_set_ne c]; exact h1, h2⟩
  · obtain ⟨c, h⟩ := un h
    obtain ⟨h1, h2⟩ := z.own j p e h
    exact ⟨by rw [List.getElem?_set_ne c]; exact h1, h2⟩
  · exact z.dis j k p e f (un h).2 (un h').2
theorem ER.drop {C : C3} {B G0 H G : Hp} {env : EnvS} {σ : L2.St} (z : ER C B G0 H G env σ) (i : Nat) : ER C B G0 H G (env.set i Option.none) σ := by
  have un : ∀ {j : Nat} {s : Slot}, (env.set i Option.none)[j]? = some (some s) → env[j]? = some (some s) := fun {j s} h => by
    by_cases c : i = j
    · subst c
      by_cases hi : i < env.length
      · rw [List.getElem?_set_self hi] at h; cases h
      · rw [List.getElem?_eq_none (by simpa using hi)] at h; cases h
    · rwa [List.getElem?_set_ne c] at h
  exact ⟨z.z, by simpa using z.len, fun j e h => z.sh j e (un h), fun j p e h => z.own j p e (un h), fun j k p e f h h' => z.dis j k p e f (un h) (un h')⟩
/-- what must stay, and the addresses in S as they are in H1 -/
def BT (B H1 : Hp) (S : List Addr) : Hp := fun a => match B a with
  | some o => some o
  | none => if a ∈ S then H1 a else none
theorem BT.of {B H1 : Hp} {S : List Addr} {a : Addr} {o : HO} (h : BT B H1 S a = some o) : B a = some o ∨ (a ∈ S ∧ H1 a = some o) := by
  unfold BT at h
  split at h
  · rename_i u e
    cases h
    exact .inl e
  · split at h
    · rename_i c
      exact .inr ⟨c, h⟩
    · cases h
theorem BT.none {B H1 : Hp} {S : List Addr} {a : Addr} : BT B H1 S a = Option.none ↔ B a = Option.none ∧ (a ∈ S → H1 a = Option.none) := by
  unfold BT
  cases e : B a with
  | some u => simp
  | none =>
    by_cases c : a ∈ S
    · simp [c]
    · simp [c]
theorem BT.sub {B H1 : Hp} {S S' : List Addr} (h : ∀ a ∈ S', a ∈ S) : ∀ a o, BT B H1 S' a = some o → BT B H1 S a = some o := fun a o e => by
  unfold BT at e ⊢
  cases q : B a with
  | some u =>
    rw [q] at e
    exact e
  | none =>
    rw [q] at e
    dsimp only at e ⊢
    by_cases m : a ∈ S'
    · rw [if_pos m] at e
      rw [if_pos (h a m)]
      exact e
    · rw [if_neg m] at e
      cases e
theorem ER0.less {C : C3} {B B' G0 H G : Hp} (z : ER0 C B G0 H G) (h : ∀ a o, B' a = some o → B a = some o) : ER0 C B' G0 H G := ⟨z.ok, z.g0, (fun a o g e => by
  cases q : B' a with
  | none => rfl
  | some u =>
    have := z.fr a o g e
    rw [h a u q] at this
    cases this), fun a o s e => z.keep a o s (h a o e)⟩
theorem less_none {B B' : Hp} (h : ∀ a o, B' a = some o → B a = some o) {p : Addr} (e : B p = none) : B' p = none := by
  cases q : B' p with
  | none => rfl
  | some u =>
    rw [h p u q] at e
    cases e
theorem ER.less {C : C3} {B B' G0 H G : Hp} {env : EnvS} {σ : L2.St} (z : ER C B G0 H G env σ) (h : ∀ a o, B' a = some o → B a = some o) : ER C B' G0 H G env σ := ⟨z.z.less h, z.len, z.sh, fun i p d e => by
  obtain ⟨h1, h2, h3, h4⟩ := z.own i p d e
  exact ⟨h1, h2, less_none h h3, h4⟩, z.dis⟩
theorem Fin.less {C : C3} {mg : Str → Option Value} {E : XK} {fr : Bool} {B B' G0 : Hp} {Ks : KS} {En : Ends} (f : Fin C mg E fr B G0 Ks En) (h : ∀ a o, B a = some o → B' a = some o) : Fin C mg E fr B' G0 Ks En :=
  ⟨fun env σ H G er k => f.nx env σ H G (er.less h) k, fun env σ H G er k => f.bk env σ H G (er.less h) k, fun env σ H G er k => f.ct env σ H G (er.less h) k, fun d v H G er r k => f.rt d v H G (er.less h) (by
    cases fr with
    | false => exact r
    | true =>
      obtain ⟨p, o, e, hb, r⟩ := r
      exact ⟨p, o, e, less_none h hb, r⟩) k, fun x cls d H k h1 h2 iv r => f.ex x cls d H k (fun a o s e => h1 a o s (h a o e)) h2 iv r⟩
def forT (j : Nat) (b : MSt) (Ks : KS) : List (List D) → EnvS → Prop
  | [], env => Ks.nx env
  | ds :: r, env => ∀ p, b (env.set j (some (.own p (.lst ds)))) { Ks with nx := fun e => forT j b Ks r (e.set j none), ct := fun e => forT j b Ks r (e.set j none), bk := fun _ => False }
/-- ahead of such a loop -/
def liftForT (C : C3) (mg : Str → Option Value) (E : XK) (fr : Bool) (B G0 : Hp) (i j : Nat) (b : MSt) : TS := fun En σ H => ∃ (env : EnvS) (G : Hp) (Ks : KS) (q : Addr) (ps : List Addr) (dss : List (List D)), ER C B G0 H G env σ ∧ σ[i]? = some (some (.ref q)) ∧ Told C H G q ps dss ∧
  (∀ p ∈ q :: ps, B p = none ∧ ∀ (k : Nat) (d : D), env[k]? ≠ some (some (.own p d))) ∧ forT j b Ks dss env ∧ Fin C mg E fr B G0 Ks En
theorem ps_forT {X : Cx} {C : C3} {E : XK} {fr : Bool} {B G0 : Hp} {tg : Expr} {x : Str} {a : List Stmt} {pos xp : Pos} {i j : Nat} {b : MSt} (hp : PassesOwn (model X.prog X.w) X.A X.env X.xe) (hc : X.calm = true) (hK : X.K = C.K) (hi : PE X (.Name x xp) (tVar i)) (hg : PG X tg (gName j)) (hb : ∀ B', MSs X C E fr B' a b)
    (hs : ∀ v, foldedSetIterable (.Name x xp) X.env v = pure v := by intro _; rfl) : PS X (.For tg (.Name x xp) a [] pos) (liftForT C X.mg E fr B G0 i j b) := by
  have hb' : PSs X a (fun En σ H => ∃ B' Gi, liftS C X.mg E fr B' Gi b En σ H) := ⟨fun pins s σ H En I ⟨B', Gi, h⟩ => (hb B' Gi).run pins s σ H En I h⟩
  refine PS.imp (ps_for hp hc (pi_any hi) hg hb' hs) fun En σ H ⟨env, G, Ks, q, ps, dss, er, hq, t, hn, k, f⟩ => ?_
  have hxs : ∀ {H' : Hp}, H' q = H q → SqT X.K H' q (ps.map V.ref) := fun {H'} e => by
    obtain ⟨o, z, _⟩ := t.tq
    exact .inl (.inr ⟨o, e.trans z⟩)
  refine ⟨.ref q, hq, .inr (.inl ⟨q, rfl, ⟨_, hxs rfl⟩, ?_⟩)⟩
  let S (n : Nat) : List Addr := q :: ps.drop n
  let BS (n : Nat) : Hp := BT B H (S n)
  have hqS : ∀ {n : Nat} {H' G' : Hp}, ER0 C (BS n) G H' G' → H' q = H q := fun {n H' G'} z => by
    obtain ⟨o, e, _⟩ := t.tq
    have : BS n q = some (.frz o (.tup (ps.map V.ref))) := by
      show BT B H (S n) q = _
      unfold BT
      rw [(hn q List.mem_cons_self).1]
      dsimp only
      rw [if_pos List.mem_cons_self, e]
    rw [e]
    exact (nT_to (z.keep q _ (t.fr q List.mem_cons_self).1 this)).1
  have start : ER C (BS 0) G H G env σ := by
    refine ⟨⟨er.z.ok, Same.refl _, fun a o h h' => absurd (h.symm.trans h') (fun z => nomatch z), fun a o sp h => ?_⟩, er.len, er.sh, fun k p d h => ?_, er.dis⟩
    · rcases BT.of h with h | ⟨hm, h⟩
      · exact er.z.keep a o sp h
      · refine nT_of h ?_
        obtain ⟨u, e, n⟩ := t.of (by simpa [S] using hm)
        rw [h] at e
        cases e
        exact n
    · obtain ⟨h1, h2, h3, h4⟩ := er.own k p d h
      refine ⟨h1, h2, BT.none.mpr ⟨h3, fun hm => ?_⟩, h4⟩
      exact absurd h ((hn p (by simpa [S] using hm)).2 k d)
  have f1 : ∀ n, Fin C X.mg E fr (BS n) G Ks En := fun n => (f.up er.z).less fun a o h => by
    show BT B H (S n) a = some o
    unfold BT
    rw [h]
  refine ⟨fun n m σ H' => m = dss.length - n ∧ n ≤ dss.length ∧ ∃ env' G', ER C (BS n) G H' G' env' σ ∧ forT j b Ks (dss.drop n) env', ⟨dss.length, by simp, Nat.zero_le _, env, G, start, by simpa using k⟩, ?_⟩
  rintro n m σ2 H2 ⟨rfl, hn2, env2, G2, er2, k2⟩
  have hq2 := hqS er2.z
  by_cases hlt : n < dss.length
  · rw [List.drop_eq_getElem_cons hlt] at k2
    have hp1 : n < ps.length := by rw [t.len]; exact hlt
    obtain ⟨vs, e1, e2⟩ := t.it n ps[n] dss[n] (List.getElem?_eq_getElem hp1) (List.getElem?_eq_getElem hlt)
    have hmem : ps[n] ∈ q :: ps := List.mem_cons_of_mem _ (List.getElem_mem hp1)
    have hBn : BS n ps[n] = some (.lst vs) := by
      show BT B H (S n) ps[n] = _
      unfold BT
      rw [(hn _ hmem).1]
      dsimp only
      rw [if_pos (List.mem_cons_of_mem _ (by rw [List.drop_eq_getElem_cons hp1]; exact List.mem_cons_self)), e1]
    refine .inr ⟨⟨_, .ref ps[n], hxs hq2, by rw [List.getElem?_map, List.getElem?_eq_getElem hp1]; rfl⟩, fun σ' H' => n + 1 ≤ dss.length ∧ ∃ env' G', ER C (BS (n + 1)) G H' G' env' σ' ∧ forT j b Ks (dss.drop (n + 1)) env', fun σ' H' h => ⟨dss.length - (n + 1), by omega, rfl, h⟩, fun y H3 yy => ?_⟩
    obtain ⟨e3, hx⟩ := yy
    have e3 := e3.symm
    subst e3
    have ex := hx _ (hxs hq2)
    rw [List.getElem?_map, List.getElem?_eq_getElem hp1] at ex
    have ex : V.ref ps[n] = y := Option.some.inj ex
    subst ex
    have hsub : ∀ a ∈ S (n + 1), a ∈ S n := fun a ha => by
      rcases List.mem_cons.mp ha with rfl | ha
      · exact List.mem_cons_self
      · refine List.mem_cons_of_mem _ ?_
        rw [List.drop_eq_getElem_cons hp1]
        exact List.mem_cons_of_mem _ ha
    have er3 : ER C (BS (n + 1)) G H2 G2 env2 σ2 := er2.less (BT.sub hsub)
    have hout : ps[n] ∉ S (n + 1) := fun hm => by
      have nd := t.nd
      rcases List.mem_cons.mp hm with z | hm
      · rw [List.nodup_cons] at nd
        exact nd.1 (by rw [← z]; exact List.getElem_mem hp1)
      · rw [List.nodup_cons] at nd
        have := nd.2
        rw [← List.take_append_drop n ps, List.drop_eq_getElem_cons hp1, List.nodup_append] at this
        exact (List.nodup_cons.mp this.2.1).1 hm
    have hB1 : BS (n + 1) ps[n] = none := BT.none.mpr ⟨(hn _ hmem).1, fun hm => absurd hm hout⟩
    have gn : G2 ps[n] = none := by
      cases e : G2 ps[n] with
      | none => rfl
      | some u =>
        have := er2.z.fr ps[n] u (t.fr _ hmem).2 e
        rw [hBn] at this
        cases this
    have hH : H2 ps[n] = some (.lst vs) := (nT_to (er2.z.keep _ _ (t.fr _ hmem).1 hBn)).1
    have er4 := er3.set_own (i := j) (t.fr _ hmem).1 hB1 gn hH (.lst (e2.mono er2.z.g0)) fun k d ne h => by
      have := (er2.own k _ d h).2.2.1
      rw [hBn] at this
      cases this
    refine ⟨BS (n + 1), G, _, G2, _, er4, k2 ps[n], ⟨fun env3 σ3 H4 G4 er5 k5 => ⟨hlt, _, _, er5.drop j, k5⟩, fun _ _ _ _ _ k => k.elim, fun env3 σ3 H4 G4 er5 k5 => ⟨hlt, _, _, er5.drop j, k5⟩, (f1 _).rt, (f1 _).ex⟩⟩
  · have e : n = dss.length := by omega
    subst e
    rw [List.drop_length] at k2
    exact .inl ⟨⟨_, hxs hq2, by rw [List.length_map, t.len]; exact Nat.le_refl _⟩, (f1 _).nx env2 σ2 H2 G2 er2 k2⟩
def mTold3 (i j : Nat) (m3 : M3t) (tt : MTt) (ma mb : MSt) : MSt := fun env Ks => m3 (viewE env) (fun dss => tt ((lendE (env.set i none)).set i (some (.tup (dss.map D.lst)))) (fun k => if k = true then ma (env.set i none) { Ks with nx := fun _ => False } else forT j mb Ks dss (env.set i none)) Ks.ex) Ks.ex
theorem mss_told3 {X : Cx} {C : C3} {E : XK} {fr : Bool} {B : Hp} {e c tg : Expr} {x : Str} {a body : List Stmt} {p1 p2 p3 p4 p5 : Pos} {i j : Nat} {m3 : M3t} {tt : MTt} {ma mb : MSt} (hK : X.K = C.K) (he : MT3 X C E e m3) (hN : X.N.Nodup) (hi : X.N[i]? = some x) (hx : Loc X.env.scope x) (hil : i < X.N.length) (hc : MT X C E c tt) (ha : MSs X C E fr B a ma)
    (hp : PassesOwn (model X.prog X.w) X.A X.env X.xe) (hcm : X.calm = true) (hv : PE X (.Name x p5) (tVar i)) (hg : PG X tg (gName j)) (hb : ∀ B', MSs X C E fr B' body mb)
    (hs : swapsWith e (some (.Name x p1)) p2.line X.env = pure false := by rfl) (hf : X.fn x = true ∨ X.env.scope.names.lookup x = some .local := by first | exact .inl rfl | exact .inr rfl | assumption) (hs2 : ∀ v, foldedSetIterable (.Name x p5) X.env v = pure v := by intro _; rfl) :
    MSs X C E fr B [.Assign [.Name x p1] e p2, .If c a [] p3, .For tg (.Name x p5) body [] p4] (mTold3 i j m3 tt ma mb) := fun G0 => by
  refine ⟨fun pins s σ H En I h => ?_⟩
  have hlen : σ.length = X.N.length := I.len
  revert h I
  refine fun I h => PSs.run (t := fun En σ H => σ.length = X.N.length ∧ liftS C X.mg E fr B G0 (mTold3 i j m3 tt ma mb) En σ H) ?_ pins s σ H En I ⟨hlen, h⟩
  refine PSs.imp (pss_cons (ps_set hN hi hx he hs hf) (pss_cons (ps_if hc (ha G0) pss_nil) (pss_one (ps_forT (B := B) (G0 := G0) (i := i) hp hcm hK hv hg hb hs2)))) fun En σ H ⟨hl, env, G, Ks, er, hm, f⟩ => ?_
  refine ⟨viewE env, G, _, Ks.ex, er.z.ok, er.vr, hm, fun dss q ps H1 G1 s1 ok1 nh t k1 => ?_, f.px er.z (Same.refl _)⟩
  have er1 := (er.step s1 ok1).none i (some (.ref q))
  have hfree : ∀ p ∈ q :: ps, B p = none ∧ ∀ (k : Nat) (d : D), (env.set i none)[k]? ≠ some (some (.own p d)) := fun p hp => by
    have sp := (t.fr p hp).1
    refine ⟨?_, fun k d hk => ?_⟩
    · cases e : B p with
      | none => rfl
      | some u =>
        have := er.z.keep p u sp e
        rw [nh p hp] at this
        cases this
    · have hk' : env[k]? = some (some (.own p d)) := by
        by_cases c : i = k
        · subst c
          by_cases hi : i < env.length
          · rw [List.getElem?_set_self hi] at hk; cases hk
          · rw [List.getElem?_eq_none (by simpa using hi)] at hk; cases hk
        · rwa [List.getElem?_set_ne c] at hk
      obtain ⟨_, _, _, _, o, e, ob⟩ := er.own k p d hk'
      have := nT_of e ob.nt
      rw [nh p hp] at this
      cases this
  have hown : ∀ p ∈ q :: ps, p ∉ ownA (env.set i none) := fun p hp hm => by
    obtain ⟨k, ds, e⟩ := ownA_mem hm
    exact (hfree p hp).2 k _ e
  have gl : ∀ p ∈ q :: ps, gLend G1 H1 (env.set i none) p = none := fun p hp => by
    unfold gLend
    rw [(t.fr p hp).2]
    dsimp only
    rw [if_neg (hown p hp)]
  obtain ⟨G2, s2, ok2, r2⟩ := t.all gLend_ge er1.lend.1 gl
  have hq : (σ.set i (some (V.ref q)))[i]? = some (some (V.ref q)) := List.getElem?_set_self (by rw [hl]; exact hil)
  have hel : i < env.length ∨ ¬ i < env.length := Nat.lt_or_ge i env.length |>.imp id (fun h => by omega)
  refine ⟨(lendE (env.set i none)).set i (some (.tup (dss.map D.lst))), G2, _, Ks.ex, ok2, ?_, k1, fun b H2 G3 s3 ok3 kb => ?_, ?_⟩
  · have vr := er1.lend.2
    refine ⟨by rw [List.length_set]; exact vr.len, fun k d hk => ?_⟩
    by_cases c : i = k
    · subst c
      by_cases hi : i < (lendE (env.set i none)).length
      · rw [List.getElem?_set_self hi] at hk
        cases hk
        exact ⟨_, hq, r2⟩
      · rw [List.getElem?_eq_none (by simpa using hi)] at hk
        cases hk
    · rw [List.getElem?_set_ne c] at hk
      obtain ⟨v, h1, h2⟩ := vr.get k d hk
      exact ⟨v, h1, h2.mono s2⟩
  · have er2 : ER C B G0 H2 G1 (env.set i none) (σ.set i (some (.ref q))) := er1.step ⟨s3.nx, Same.refl _, fun a o h h' => by rw [h] at h'; cases h'⟩ ⟨ok3.iv, fun a o h => ok3.sub a o (s3.ge a o (s2 a o (gLend_ge a o h))), fun a o h => ok3.nt a o (s3.ge a o (s2 a o (gLend_ge a o h)))⟩
    cases b with
    | true => exact ⟨_, G1, _, er2, kb, ⟨fun _ _ _ _ _ k => k.elim, f.bk, f.ct, f.rt, f.ex⟩⟩
    | false => exact ⟨_, G1, Ks, q, ps, dss, er2, hq, t.step s3.nx, hfree, kb, f⟩
  · exact f.px er1.z (gLend_ge.trans s2)
end L3
set_option pp.maxSteps 600
/-! L3w: a new list made of lists of its own -/
namespace L3
open PySem PySem.Spec PyProof.Rows L2
theorem u65 {k : Nat} {A : Around} (r : Room k A) : A.units + 65 < cLine := by
  have := r.un
  omega
section
variable {X : Cx} {C : C3} {E : XK} {fr : Bool} {B : Hp} {e : Expr} {m : MEt} {pos pos' : Pos} {i : Nat} {x : Str}
theorem frzE_no {env : EnvS} {i : Nat} {p : Addr} {d : D} : (frzE env)[i]? ≠ some (some (.own p d)) := fun h => by
  unfold frzE at h
  rw [List.getElem?_map] at h
  cases q : (lendE env)[i]? with
  | none => rw [q] at h; cases h
  | some o =>
    rw [q] at h
    cases o <;> cases h
/-- the lists of its own are frozen, the new one is the name's -/
def mSetFC (i : Nat) (m : MEt) : MSt := fun env Ks => m (lendE env) (fun d => ∀ p, Ks.nx ((frzE env).set i (some (.own p d)))) Ks.ex
theorem ms_setFC (hN : X.N.Nodup) (hi : X.N[i]? = some x) (hx : Loc X.env.scope x) (he : MF X C E e m) (hs : swapsWith e (some (.Name x pos')) pos.line X.env = pure false := by rfl) (hf : X.fn x = true ∨ X.env.scope.names.lookup x = some .local := by first | exact .inl rfl | exact .inr rfl | assumption) :
    MS X C E fr B (.Assign [.Name x pos'] e pos) (mSetFC i m) := fun G0 => PS.imp (ps_set hN hi hx he hs hf) fun En σ H ⟨env, G, Ks, er, hm, f⟩ =>
  ⟨lendE env, _, _, Ks.ex, er.lend.1, er.lend.2, hm, fun d p o H1 G1 s1 ok1 hp gp ho sp ob k1 => f.nx _ _ H1 G1 ((er.frozen s1 ok1).set_own sp (er.z.bfree sp hp) gp ho ob.obj fun j e _ => frzE_no) (k1 p), f.px er.z gLend_ge⟩
/-- lists of its own are lent; the value is a new list of flat things -/
def mSetLF (i : Nat) (m : MEt) : MSt := fun env Ks => m (lendE env) (fun d => (∃ ds, d = .lst ds ∧ ds.all flatD = true) ∧ Ks.nx (env.set i (some (.sh d)))) Ks.ex
theorem Rps.anyG {K : PySem.W.Frag} {G G' : Hp} : ∀ {ds : List D} {vs : List V}, Rps K G ds vs → ds.all flatD = true → Rps K G' ds vs
  | _, _, .nil, _ => .nil
  | _, _, .cons h r, f => by
    rw [List.all_cons, Bool.and_eq_true] at f
    exact .cons (h.anyG f.1) (Rps.anyG r f.2)
theorem ms_setLF (hN : X.N.Nodup) (hi : X.N[i]? = some x) (hx : Loc X.env.scope x) (he : MF X C E e m) (hs : swapsWith e (some (.Name x pos')) pos.line X.env = pure false := by rfl) (hf : X.fn x = true ∨ X.env.scope.names.lookup x = some .local := by first | exact .inl rfl | exact .inr rfl | assumption) :
    MS X C E fr B (.Assign [.Name x pos'] e pos) (mSetLF i m) := fun G0 => PS.imp (ps_set hN hi hx he hs hf) fun En σ H ⟨env, G, Ks, er, hm, f⟩ =>
  ⟨lendE env, _, _, Ks.ex, er.lend.1, er.lend.2, hm, fun d p o H1 G1 s1 ok1 hp gp ho sp ob k1 => by
    obtain ⟨⟨ds, rfl, fl⟩, k1⟩ := k1
    cases ob with
    | lst r =>
      rename_i vs
      have er1 := er.back s1 ok1
      have gn : G p = none := by
        cases q : G p with
        | none => rfl
        | some u =>
          have := er.z.ok.sn q
          rw [hp] at this
          cases this
      have s2 : Stp C H G H1 (upd G p (.lst vs)) := ⟨s1.nx, same_new gn, fun a u h h' => by
        by_cases c : a = p
        · rw [c]; exact hp
        · rw [upd_ne c, h] at h'; cases h'⟩
      have ok2 : Ok3 C H1 (upd G p (.lst vs)) := er1.z.ok.frz gn ho sp
      exact f.nx _ _ H1 _ ((er.step s2 ok2).set_sh (.lst upd_same (r.anyG fl))) k1, f.px er.z gLend_ge⟩
end
end L3
set_option maxHeartbeats 2000000
/-! Z0: list(zip(v1, v2)), v1 and v2 of any kinds, at the library's level -/
namespace LZ
open PySem
open Sem (wp)
section
variable {prog : Program} {w : World} {A : Around} {E : Value → Shared → Prop} {s : Shared} {z TI TO T i1 i2 : Addr} {fp1 fp2 : List Addr} {n1 n2 i : Nat} {P1 P2 : Nat → Value → Prop} {St1 St2 : Nat → Heap → Prop} {a1 a2 : Value} {f : Bool} {oT : Obj}

theorem held_item {Q : Value → Shared → Prop} (S : ZipSep2 z TI TO i1 i2 fp1 fp2) (D1 : Draws prog w A i1 fp1 n1 P1 St1) (D2 : Draws prog w A i2 fp2 n2 P2 St2)
    (hz : IsZipHeld s.heap z TI TO T f) (hT : s.heap.get? T = some oT) (hTI : IsTupOf2 s.heap TI (.ref i1) (.ref i2)) (st1 : St1 i s.heap) (st2 : St2 i s.heap) (hlt1 : i < n1) (hlt2 : i < n2)
    (hQ : ∀ x1 x2 h' tk, P1 i x1 → P2 i x2 → IsZipHeld h' z TI TO T true → St1 (i + 1) h' → St2 (i + 1) h' → IsTupOf2 h' s.heap.objs.size x1 x2 → h'.objs.size = s.heap.objs.size + 1 →
      (∀ c o, c ≠ z → c ≠ i1 → c ≠ i2 → s.heap.get? c = some o → h'.get? c = some o) → Q (.ref s.heap.objs.size) { s with heap := h', toks := tk }) :
    wpAny (model prog w) A (Builtin.«zip.__next__» ⟨[.ref z], []⟩) (fun fin s' => ∃ v, fin = .done (.ret v) ∧ Q v s') E s := by
  obtain ⟨hp, g, d, tk0, os⟩ := s
  show wpAny _ _ (field (.ref z) 2 >>= _) _ _ _
  refine wpAny_bind (wpAny_field hz rfl (x := .bool false) rfl ?_)
  show wpAny _ _ (field (.ref z) 3 >>= _) _ _ _
  refine wpAny_bind (wpAny_field hz rfl (x := .ref TI) rfl ?_)
  refine wpAny_bind (wpAny_seqItems hTI rfl ?_)
  show wpAny _ _ (Builtin.SmallTypes.ownedTupleIsFree (.ref z) >>= _) _ _ _
  refine wpAny_bind (wpAny_tupleHeld_zip hz hT fun g0 hz0 hs0 => ?_)
  replace hs0 : Heap.SameBut z hp g0 := hs0
  simp only [Bool.false_eq_true, if_false]
  refine wpAny_bind ?_
  rw [← Array.forIn_toList]
  simp only [List.forIn_cons, List.forIn_nil]
  refine wpAny_bind (wpAny_bind (wpAny_holding ?_))
  show wpAny _ _ (Builtin.SmallTypes.nextOf (.ref i1) >>= _) _ _ ⟨g0, g, d, tk0, os⟩
  refine wpAny_bind (D1.item i _ _ _ hlt1 (D1.over st1 hs0 S.zf1) fun x1 p1 tk1 hx1 sn1 hp1 => wpAny_pure ?_)
  replace hp1 : Heap.SameBut i1 g0 p1 := hp1
  refine wpAny_pure ?_
  refine wpAny_bind (wpAny_bind (wpAny_holding ?_))
  show wpAny _ _ (Builtin.SmallTypes.nextOf (.ref i2) >>= _) _ _ ⟨p1, g, d, tk1, os⟩
  refine wpAny_bind (D2.item i _ _ _ hlt2 (D2.over (D2.over st2 hs0 S.zf2) hp1 S.sep1_2) fun x2 p2 tk2 hx2 sn2 hp2 => wpAny_pure ?_)
  replace hp2 : Heap.SameBut i2 p1 p2 := hp2
  refine wpAny_pure (wpAny_pure ?_)
  show wpAny _ _ (newTuple [x1, x2] >>= _) _ _ ⟨p2, g, d, tk2, os⟩
  refine wpAny_bind (wpAny_newTuple ?_)
  have hsz : p2.objs.size = hp.objs.size := by rw [hp2.1, hp1.1, hs0.1]
  have hz3 : IsZipHeld p2 z TI TO T true := hp2.extBut _ _ S.zi2 (hp1.extBut _ _ S.zi1 hz0)
  have hk : ∀ c o, c ≠ z → c ≠ i1 → c ≠ i2 → hp.get? c = some o → p2.get? c = some o := fun c o c1 c2 c3 e => hp2.extBut _ _ c3 (hp1.extBut _ _ c2 (hs0.extBut _ _ c1 e))
  have h13 : St1 (i + 1) p2 := D1.over sn1 hp2 S.sep2_1
  refine wpAny_pure ⟨_, rfl, ?_⟩
  show Q (.ref p2.objs.size) ⟨p2.push { cls := .type "tuple", data := .seq #[x1, x2] }, g, d, tk2, os⟩
  have hp : IsTupOf2 (p2.push { cls := .type "tuple", data := .seq #[x1, x2] }) p2.objs.size x1 x2 := Heap.get?_push_size _ rfl
  have hz4 : (p2.push { cls := .type "tuple", data := .seq #[x1, x2] }).objs.size = p2.objs.size + 1 := Heap.size_push ..
  rw [hsz] at hp hz4 ⊢
  exact hQ x1 x2 _ tk2 hx1 hx2 (Heap.get?_push_of_some _ hz3) (D1.frame _ _ _ h13 fun b _ o e => Heap.get?_push_of_some _ e) (D2.frame _ _ _ sn2 fun b _ o e => Heap.get?_push_of_some _ e) hp hz4 fun c o c1 c2 c3 e => Heap.get?_push_of_some _ (hk c o c1 c2 c3 e)

theorem held_end {Q : Fin → Shared → Prop} (S : ZipSep2 z TI TO i1 i2 fp1 fp2) (D1 : Draws prog w A i1 fp1 n1 P1 St1) (D2 : Draws prog w A i2 fp2 n2 P2 St2)
    (hz : IsZipHeld s.heap z TI TO T f) (hT : s.heap.get? T = some oT) (hTI : IsTupOf2 s.heap TI (.ref i1) (.ref i2)) (st1 : St1 i s.heap) (st2 : St2 i s.heap) (hle1 : i ≤ n1) (hle2 : i ≤ n2) (hend : i = n1 ∨ i = n2)
    (hE : ∀ h' tk e, (∀ c o, c ≠ z → c ≠ i1 → c ≠ i2 → s.heap.get? c = some o → h'.get? c = some o) → (∃ o, h'.get? e = some o ∧ o.cls = .type "StopIteration") → E (.ref e) { s with heap := h', toks := tk }) :
    wpAny (model prog w) A (Builtin.«zip.__next__» ⟨[.ref z], []⟩) Q E s := by
  obtain ⟨hp, g, d, tk0, os⟩ := s
  show wpAny _ _ (field (.ref z) 2 >>= _) _ _ _
  refine wpAny_bind (wpAny_field hz rfl (x := .bool false) rfl ?_)
  show wpAny _ _ (field (.ref z) 3 >>= _) _ _ _
  refine wpAny_bind (wpAny_field hz rfl (x := .ref TI) rfl ?_)
  refine wpAny_bind (wpAny_seqItems hTI rfl ?_)
  show wpAny _ _ (Builtin.SmallTypes.ownedTupleIsFree (.ref z) >>= _) _ _ _
  refine wpAny_bind (wpAny_tupleHeld_zip hz hT fun g0 hz0 hs0 => ?_)
  replace hs0 : Heap.SameBut z hp g0 := hs0
  simp only [Bool.false_eq_true, if_false]
  refine wpAny_bind ?_
  rw [← Array.forIn_toList]
  simp only [List.forIn_cons, List.forIn_nil]
  refine wpAny_bind (wpAny_bind (wpAny_holding ?_))
  show wpAny _ _ (Builtin.SmallTypes.nextOf (.ref i1) >>= _) _ _ ⟨g0, g, d, tk0, os⟩
  by_cases hlt1 : i < n1
  · refine wpAny_bind (D1.item i _ _ _ hlt1 (D1.over st1 hs0 S.zf1) fun x1 p1 tk1 hx1 sn1 hp1 => wpAny_pure ?_)
    replace hp1 : Heap.SameBut i1 g0 p1 := hp1
    have hi2 : i = n2 := by omega
    refine wpAny_pure ?_
    refine wpAny_bind (wpAny_bind (wpAny_holding ?_))
    show wpAny _ _ (Builtin.SmallTypes.nextOf (.ref i2) >>= _) _ _ ⟨p1, g, d, tk1, os⟩
    refine wpAny_bind (D2.done ⟨p1, g, d, tk1, os⟩ _ _ (by rw [← hi2]; exact (D2.over (D2.over st2 hs0 S.zf2) hp1 S.sep1_2)) fun q e hq he => ?_)
    exact hE q tk1 e (fun c o cz c1 c2 x => hq _ _ c2 (hp1.extBut _ _ c1 (hs0.extBut _ _ cz x))) he
  · have hi1 : i = n1 := by omega
    refine wpAny_bind (D1.done ⟨g0, g, d, tk0, os⟩ _ _ (by rw [← hi1]; exact (D1.over st1 hs0 S.zf1)) fun q e hq he => ?_)
    exact hE q tk0 e (fun c o cz c1 c2 x => hq _ _ c1 (hs0.extBut _ _ cz x)) he

theorem next_held_item {Q : Option Value → Shared → Prop} (S : ZipSep2 z TI TO i1 i2 fp1 fp2) (D1 : Draws prog w A.in1 i1 fp1 n1 P1 St1) (D2 : Draws prog w A.in1 i2 fp2 n2 P2 St2)
    (hz : IsZipHeld s.heap z TI TO T f) (hT : s.heap.get? T = some oT) (hTI : IsTupOf2 s.heap TI (.ref i1) (.ref i2)) (st1 : St1 i s.heap) (st2 : St2 i s.heap) (hlt1 : i < n1) (hlt2 : i < n2)
    (hQ : ∀ x1 x2 h' tk, P1 i x1 → P2 i x2 → IsZipHeld h' z TI TO T true → St1 (i + 1) h' → St2 (i + 1) h' → IsTupOf2 h' s.heap.objs.size x1 x2 → h'.objs.size = s.heap.objs.size + 1 →
      (∀ c o, c ≠ z → c ≠ i1 → c ≠ i2 → s.heap.get? c = some o → h'.get? c = some o) → Q (some (.ref s.heap.objs.size)) { s with heap := h', toks := tk }) :
    wpAny (model prog w) A (pyNext (.ref z)) Q E s := by
  have hTy : s.TypeIs (.ref z) "zip" := ⟨_, hz, rfl⟩
  unfold pyNext
  exact wpAny_bind (wpAny_attempt (wpAny_callSpecial?_slot (name := Str.ofString "__next__") hTy F.slot_zip_next
    (wpAny_call_entry F.slot_zip_next hTy F.entry_zip_next
      (held_item S D1 D2 hz hT hTI st1 st2 hlt1 hlt2 fun x1 x2 h' tk y1 y2 b1 d1 d2 b5 b6 b7 => wpAny_pure (hQ x1 x2 h' tk y1 y2 b1 d1 d2 b5 b6 b7)) (F.args_zip_next_1 _))))

theorem next_held_end {Q : Option Value → Shared → Prop} (S : ZipSep2 z TI TO i1 i2 fp1 fp2) (D1 : Draws prog w A.in1 i1 fp1 n1 P1 St1) (D2 : Draws prog w A.in1 i2 fp2 n2 P2 St2)
    (hz : IsZipHeld s.heap z TI TO T f) (hT : s.heap.get? T = some oT) (hTI : IsTupOf2 s.heap TI (.ref i1) (.ref i2)) (st1 : St1 i s.heap) (st2 : St2 i s.heap) (hle1 : i ≤ n1) (hle2 : i ≤ n2) (hend : i = n1 ∨ i = n2)
    (hQ : ∀ h' tk, (∀ c o, c ≠ z → c ≠ i1 → c ≠ i2 → s.heap.get? c = some o → h'.get? c = some o) → Q none { s with heap := h', toks := tk }) : wpAny (model prog w) A (pyNext (.ref z)) Q E s := by
  have hTy : s.TypeIs (.ref z) "zip" := ⟨_, hz, rfl⟩
  unfold pyNext
  refine wpAny_bind (wpAny_attempt (wpAny_callSpecial?_slot (name := Str.ofString "__next__") hTy F.slot_zip_next
    (wpAny_call_entry F.slot_zip_next hTy F.entry_zip_next (held_end S D1 D2 hz hT hTI st1 st2 hle1 hle2 hend fun h' tk e hk he => ?_) (F.args_zip_next_1 _))))
  obtain ⟨o, ho, hc⟩ := he
  refine wpAny_bind (wpAny_isInstance (T := "StopIteration") (b := true) ⟨o, ho, hc⟩ isSubtype_stop ?_)
  exact wpAny_pure (hQ _ _ hk)

/-- a zip's state, the list L that is being made beside -/
structure ZSt (z TI TO i1 i2 L : Addr) (St1 St2 : Nat → Heap → Prop) (i : Nat) (h : Heap) : Prop where
  ti : IsTupOf2 h TI (.ref i1) (.ref i2)
  st1 : St1 i h
  st2 : St2 i h
  zz : (IsZip h z TI TO .none ∧ ∃ a b, IsTupOf2 h TO a b) ∨ ∃ T f oT, IsZipHeld h z TI TO T f ∧ h.get? T = some oT ∧ T ≠ z ∧ T ≠ i1 ∧ T ≠ i2 ∧ T ≠ L
theorem ZSt.is {L : Addr} {h : Heap} (Z : ZSt z TI TO i1 i2 L St1 St2 i h) : ∃ o, h.get? z = some o ∧ o.cls = .type "zip" := by
  rcases Z.zz with ⟨q, _⟩ | ⟨T, f, oT, q, _⟩
  · exact ⟨_, q, rfl⟩
  · exact ⟨_, q, rfl⟩
theorem ZSt.keep {L : Addr} {h h' : Heap} (D1 : Draws prog w A i1 fp1 n1 P1 St1) (D2 : Draws prog w A i2 fp2 n2 P2 St2) (Z : ZSt z TI TO i1 i2 L St1 St2 i h) (hk : ∀ b o, b ≠ L → h.get? b = some o → h'.get? b = some o)
    (lz : L ≠ z) (lt : L ≠ TI) (lo : L ≠ TO) (l1 : L ∉ fp1) (l2 : L ∉ fp2) : ZSt z TI TO i1 i2 L St1 St2 i h' := by
  refine ⟨hk _ _ lt.symm Z.ti, D1.frame _ _ _ Z.st1 fun b hb o e => hk b o (fun q => l1 (q ▸ hb)) e, D2.frame _ _ _ Z.st2 fun b hb o e => hk b o (fun q => l2 (q ▸ hb)) e, ?_⟩
  rcases Z.zz with ⟨q, a, b, q2⟩ | ⟨T, f, oT, q, q2, r1, r2, r3, r4⟩
  · exact .inl ⟨hk _ _ lz.symm q, a, b, hk _ _ lo.symm q2⟩
  · exact .inr ⟨T, f, oT, hk _ _ lz.symm q, hk _ _ r4 q2, r1, r2, r3, r4⟩
theorem zst_item {L : Addr} {Q : Option Value → Shared → Prop} (S : ZipSep2 z TI TO i1 i2 fp1 fp2) (D1 : Draws prog w A.in1 i1 fp1 n1 P1 St1) (D2 : Draws prog w A.in1 i2 fp2 n2 P2 St2) (Z : ZSt z TI TO i1 i2 L St1 St2 i s.heap) (hL : L < s.heap.objs.size) (hlt1 : i < n1) (hlt2 : i < n2)
    (hQ : ∀ x1 x2 h' tk, P1 i x1 → P2 i x2 → ZSt z TI TO i1 i2 L St1 St2 (i + 1) h' → IsTupOf2 h' s.heap.objs.size x1 x2 → h'.objs.size = s.heap.objs.size + 1 →
      (∀ c o, c ≠ z → c ≠ TO → c ≠ i1 → c ≠ i2 → s.heap.get? c = some o → h'.get? c = some o) → Q (some (.ref s.heap.objs.size)) { s with heap := h', toks := tk }) :
    wpAny (model prog w) A (pyNext (.ref z)) Q E s := by
  have lt : ∀ {c : Addr}, (∃ o, s.heap.get? c = some o) → s.heap.objs.size ≠ c := fun ⟨_, e⟩ => Nat.ne_of_gt (Heap.lt_size e)
  have l1 := lt (D1.live _ _ Z.st1)
  have l2 := lt (D2.live _ _ Z.st2)
  rcases Z.zz with ⟨q, a, b, q2⟩ | ⟨T, f, oT, q, q2, r1, r2, r3, r4⟩
  · refine wpAny_pyNext_zipD2_item S D1 D2 q Z.ti q2 Z.st1 Z.st2 hlt1 hlt2 fun x1 x2 h' tk y1 y2 c1 c2 c3 c4 c5 c6 hk => ?_
    exact hQ x1 x2 h' tk y1 y2 ⟨hk _ _ S.TIz S.TITO S.TIi1 S.TIi2 Z.ti, c3, c4, .inr ⟨s.heap.objs.size, false, _, c1, c5, lt ⟨_, q⟩, l1, l2, Nat.ne_of_gt hL⟩⟩ c5 c6 hk
  · refine next_held_item S D1 D2 q q2 Z.ti Z.st1 Z.st2 hlt1 hlt2 fun x1 x2 h' tk y1 y2 c1 c3 c4 c5 c6 hk => ?_
    exact hQ x1 x2 h' tk y1 y2 ⟨hk _ _ S.TIz S.TIi1 S.TIi2 Z.ti, c3, c4, .inr ⟨T, true, oT, c1, hk _ _ r1 r2 r3 q2, r1, r2, r3, r4⟩⟩ c5 c6 fun c o d1 _ d3 d4 e => hk c o d1 d3 d4 e
theorem zst_end {L : Addr} {Q : Option Value → Shared → Prop} (S : ZipSep2 z TI TO i1 i2 fp1 fp2) (D1 : Draws prog w A.in1 i1 fp1 n1 P1 St1) (D2 : Draws prog w A.in1 i2 fp2 n2 P2 St2) (Z : ZSt z TI TO i1 i2 L St1 St2 i s.heap) (hle1 : i ≤ n1) (hle2 : i ≤ n2) (hend : i = n1 ∨ i = n2)
    (hQ : ∀ h' tk, (∀ c o, c ≠ z → c ≠ TO → c ≠ i1 → c ≠ i2 → s.heap.get? c = some o → h'.get? c = some o) → Q none { s with heap := h', toks := tk }) :
    wpAny (model prog w) A (pyNext (.ref z)) Q E s := by
  rcases Z.zz with ⟨q, a, b, q2⟩ | ⟨T, f, oT, q, q2, r1, r2, r3, r4⟩
  · exact wpAny_pyNext_zipD2_end S D1 D2 q Z.ti q2 Z.st1 Z.st2 hle1 hle2 hend hQ
  · exact next_held_end S D1 D2 q q2 Z.ti Z.st1 Z.st2 hle1 hle2 hend fun h' tk hk => hQ h' tk fun c o d1 _ d3 d4 e => hk c o d1 d3 d4 e

/-- the pairs made so far -/
structure ZG (P1 P2 : Nat → Value → Prop) (lo : Addr) (h : Heap) (as : List Addr) : Prop where
  rise : as.Pairwise (· < ·)
  above : ∀ a ∈ as, lo < a
  pairs : ∀ (j : Nat) (a : Addr), as[j]? = some a → ∃ x y, P1 j x ∧ P2 j y ∧ IsTupOf2 h a x y
theorem ZG.there {lo : Addr} {h : Heap} {as : List Addr} (g : ZG P1 P2 lo h as) {a : Addr} (ha : a ∈ as) : a < h.objs.size := by
  obtain ⟨j, hj⟩ := List.mem_iff_getElem?.mp ha
  obtain ⟨_, _, _, _, e⟩ := g.pairs j a hj
  exact Heap.lt_size e
end
section
variable {prog : Program} {w : World} {A : Around} {s : Shared} {R : Result → Shared → Prop} {z TI TO i1 i2 L : Addr} {fp1 fp2 : List Addr} {n1 n2 : Nat} {P1 P2 : Nat → Value → Prop} {St1 St2 : Nat → Heap → Prop}

theorem z_loop (S : ZipSep2 z TI TO i1 i2 fp1 fp2) (D1 : Draws prog w A.in1.in1 i1 fp1 n1 P1 St1) (D2 : Draws prog w A.in1.in1 i2 fp2 n2 P2 St2) {lo : Addr} (hz : z ≤ lo) (ho : TO ≤ lo) (h1 : i1 ≤ lo) (h2 : i2 ≤ lo) (hL : L ≤ lo)
    (lz : L ≠ z) (lt : L ≠ TI) (lto : L ≠ TO) (l1 : L ∉ fp1) (l2 : L ∉ fp2) (hn : min n1 n2 ≤ sizeLine) (res : Value) {h₁ : Heap}
    (hR : ∀ h' tk acc c as, (∀ b o, b ≠ L → b ≠ z → b ≠ TO → b ≠ i1 → b ≠ i2 → h₁.get? b = some o → h'.get? b = some o) → h'.get? L = some { cls := .type "list", dict := none, data := .seq acc c, slots := #[] } → as.length = min n1 n2 → ZG P1 P2 lo h' as →
      acc.toList = as.map Value.ref → R (.ok (.ret res)) { s with heap := h', toks := tk }) :
    ∀ (k i : Nat) (h : Heap) (tk c : Nat) (acc : Array Value) (as : List Addr), min n1 n2 - i = k → i ≤ min n1 n2 → ZSt z TI TO i1 i2 L St1 St2 i h → (∀ b o, b ≠ L → b ≠ z → b ≠ TO → b ≠ i1 → b ≠ i2 → h₁.get? b = some o → h.get? b = some o) →
      h.get? L = some { cls := .type "list", dict := none, data := .seq acc c, slots := #[] } → acc.toList = as.map Value.ref → as.length = i → ZG P1 P2 lo h as → lo < h.objs.size →
      codeAny (model prog w) A (.builtin "list.extend.loop" ⟨[.ref L, .ref z, res], []⟩) R { s with heap := h, toks := tk } := by
  have li1 : L ≠ i1 := fun e => l1 (by rw [e]; exact S.mem1)
  have li2 : L ≠ i2 := fun e => l2 (by rw [e]; exact S.mem2)
  have ne : ∀ {c : Addr}, lo < c → c ≠ L ∧ c ≠ z ∧ c ≠ TO ∧ c ≠ i1 ∧ c ≠ i2 := fun q => ⟨Nat.ne_of_gt (Nat.lt_of_le_of_lt hL q), Nat.ne_of_gt (Nat.lt_of_le_of_lt hz q), Nat.ne_of_gt (Nat.lt_of_le_of_lt ho q), Nat.ne_of_gt (Nat.lt_of_le_of_lt h1 q), Nat.ne_of_gt (Nat.lt_of_le_of_lt h2 q)⟩
  intro k
  induction k with
  | zero =>
    intro i h tk c acc as hk hi hst hkeep hS hacc hal hG hIs
    have hin : i = min n1 n2 := by omega
    refine codeAny_builtin PySem.F.entry_extend_loop ?_
    rw [Around.under_plainId PySem.F.plain_extend_loop _]
    show wpAny _ A.in1 (pyNext (.ref z) >>= _) _ _ _
    refine wpAny_bind (zst_end (s := { s with heap := h, toks := tk }) (A := A.in1) S D1 D2 hst (by omega) (by omega) (by omega) fun h' tk' he => ?_)
    refine wpAny_pure (hR h' tk' acc c as (fun b o d1 d2 d3 d4 d5 e => he b o d2 d3 d4 d5 (hkeep b o d1 d2 d3 d4 d5 e)) (he L _ lz lto li1 li2 hS) (by omega) ⟨hG.rise, hG.above, fun j a hj => ?_⟩ hacc)
    obtain ⟨x, y, e1, e2, e3⟩ := hG.pairs j a hj
    obtain ⟨n0, n1', n2', n3', n4'⟩ := ne (hG.above a (List.mem_of_getElem? hj))
    exact ⟨x, y, e1, e2, he a _ n1' n2' n3' n4' e3⟩
  | succ k ih =>
    intro i h tk c acc as hk hi hst hkeep hS hacc hal hG hIs
    have hlt : i < min n1 n2 := by omega
    have hsz : acc.size = i := by rw [← Array.length_toList, hacc, List.length_map, hal]
    have hLl : L < h.objs.size := Heap.lt_size hS
    refine codeAny_builtin PySem.F.entry_extend_loop ?_
    rw [Around.under_plainId PySem.F.plain_extend_loop _]
    show wpAny _ A.in1 (pyNext (.ref z) >>= _) _ _ _
    refine wpAny_bind (zst_item (s := { s with heap := h, toks := tk }) (A := A.in1) S D1 D2 hst hLl (by omega) (by omega) fun x y h' tk' hx hy hst' ht hz' hkp => ?_)
    dsimp only at ht hz' hkp ⊢
    have hS' := hkp L _ lz lto li1 li2 hS
    have up : ∀ b o, b ≠ L → h'.get? b = some o → (h'.update L (Obj.mapSeq (·.push (Value.ref h.objs.size)))).get? b = some o := fun b o hb e => (Heap.get?_update_other _ _ (Ne.symm hb)).trans e
    show wpAny _ A.in1 (updateSeq L (·.push (Value.ref h.objs.size)) >>= _) _ _ _
    refine wpAny_bind ?_
    refine wpAny_updateSeq hS' rfl (wpAny_pure ⟨plainId_quiet PySem.F.plain_extend_loop _, ih (i + 1) _ tk' _ (acc.push (Value.ref h.objs.size)) (as ++ [h.objs.size]) (by omega) hlt (hst'.keep D1 D2 up lz lt lto l1 l2)
      (fun b o d1 d2 d3 d4 d5 e => up b o d1 (hkp b o d2 d3 d4 d5 (hkeep b o d1 d2 d3 d4 d5 e))) (Heap.get?_update_self _ hS' rfl) (by rw [Array.toList_push, hacc, List.map_append]; rfl) (by rw [List.length_append, hal]; rfl) ⟨?_, ?_, ?_⟩ ?_⟩) (by rw [hsz]; omega) (by show (acc.push (Value.ref h.objs.size)).size ≤ sizeLine + 1; rw [Array.size_push, hsz]; omega)
    · refine List.pairwise_append.mpr ⟨hG.rise, List.pairwise_singleton _ _, fun a ha b hb => ?_⟩
      rw [List.mem_singleton.mp hb]
      exact hG.there ha
    · intro a ha
      rcases List.mem_append.mp ha with ha | ha
      · exact hG.above a ha
      · rw [List.mem_singleton.mp ha]; exact hIs
    · intro j b hj
      rcases Nat.lt_trichotomy j as.length with q1 | q1 | q1
      · rw [List.getElem?_append_left q1] at hj
        obtain ⟨x', y', e1, e2, e3⟩ := hG.pairs j b hj
        obtain ⟨m0, m1, m2, m3, m4⟩ := ne (hG.above b (List.mem_of_getElem? hj))
        exact ⟨x', y', e1, e2, up b _ m0 (hkp b _ m1 m2 m3 m4 e3)⟩
      · subst q1
        have hb : h.objs.size = b := by simpa using hj
        subst hb
        exact ⟨x, y, by rw [hal]; exact hx, by rw [hal]; exact hy, up _ _ (Nat.ne_of_gt hLl) ht⟩
      · have hnone : (as ++ [h.objs.size])[j]? = none := List.getElem?_eq_none (by rw [List.length_append, List.length_singleton]; omega)
        rw [hnone] at hj; cases hj
    · have e : (h'.update L (Obj.mapSeq (·.push (Value.ref h.objs.size)))).get? h.objs.size = _ := up _ _ (Nat.ne_of_gt hLl) ht
      exact Nat.lt_trans hIs (Heap.lt_size e)
end
theorem zip_no_len : typeLookup (.type "zip") "__len__" = pure none := am_miss_of_fast (by decide +kernel)
theorem zip_no_hint : typeLookup (.type "zip") "__length_hint__" = pure none := am_miss_of_fast (by decide +kernel)
section
variable {prog : Program} {w : World} {A : Around} {E : Value → Shared → Prop} {s : Shared} {z TI TO i1 i2 : Addr} {fp1 fp2 : List Addr} {n1 n2 : Nat} {P1 P2 : Nat → Value → Prop} {St1 St2 : Nat → Heap → Prop}

theorem z_init {R : Result → Shared → Prop} {L : Addr} (S : ZipSep2 z TI TO i1 i2 fp1 fp2) (D1 : Draws prog w A.in1.in1 i1 fp1 n1 P1 St1) (D2 : Draws prog w A.in1.in1 i2 fp2 n2 P2 St2) (hzL : z < L) (hoL : TO < L) (h1L : i1 < L) (h2L : i2 < L) (hTL : TI < L)
    (l1 : L ∉ fp1) (l2 : L ∉ fp2) (hn : min n1 n2 ≤ sizeLine) (hz : IsZip s.heap z TI TO .none) (hTI : IsTupOf2 s.heap TI (.ref i1) (.ref i2)) (hTO : ∃ a b, IsTupOf2 s.heap TO a b) (st1 : St1 0 s.heap) (st2 : St2 0 s.heap)
    (hS : s.heap.get? L = some { cls := .type "list", data := .seq #[] })
    (hR : ∀ h' tk acc c as, (∀ b o, b ≠ L → b ≠ z → b ≠ TO → b ≠ i1 → b ≠ i2 → s.heap.get? b = some o → h'.get? b = some o) → h'.get? L = some { cls := .type "list", dict := none, data := .seq acc c, slots := #[] } → as.length = min n1 n2 → ZG P1 P2 L h' as →
      acc.toList = as.map Value.ref → R (.ok (.ret .none)) { s with heap := h', toks := tk }) :
    wpAny (model prog w) A.in1 (Builtin.«list.__init__» ⟨[.ref L, .ref z], []⟩)
      (fun fin s' => match fin with | .done f => R (.ok f) s' | .again c' => c'.quiet = true ∧ codeAny (model prog w) A c' R s') (fun e s' => R (.error e) s') s := by
  have lz : L ≠ z := Nat.ne_of_gt hzL
  have Z : ∀ {h' : Heap}, (∀ b o, b ≠ L → s.heap.get? b = some o → h'.get? b = some o) → ZSt z TI TO i1 i2 L St1 St2 0 h' := fun hk =>
    (⟨hTI, st1, st2, .inl ⟨hz, hTO⟩⟩ : ZSt z TI TO i1 i2 L St1 St2 0 s.heap).keep D1 D2 hk lz (Nat.ne_of_gt hTL) (Nat.ne_of_gt hoL) l1 l2
  have key : ∀ (h : Heap) (c₁ tk : Nat), (∀ b o, b ≠ L → s.heap.get? b = some o → h.get? b = some o) →
      h.get? L = some { cls := .type "list", data := .seq #[] c₁ } → codeAny (model prog w) A (.builtin "list.extend.loop" ⟨[.ref L, .ref z, .none], []⟩) R { s with heap := h, toks := tk } := by
    intro h c₁ tk hk hS₁
    exact z_loop (s := s) (h₁ := s.heap) S D1 D2 (Nat.le_of_lt hzL) (Nat.le_of_lt hoL) (Nat.le_of_lt h1L) (Nat.le_of_lt h2L) (Nat.le_refl _) lz (Nat.ne_of_gt hTL) (Nat.ne_of_gt hoL) l1 l2 hn .none hR
      (min n1 n2) 0 h tk c₁ #[] [] (Nat.sub_zero _) (Nat.zero_le _) (Z hk) (fun b o hb _ _ _ _ e => hk b o hb e) hS₁ rfl rfl ⟨List.Pairwise.nil, (fun _ ha => nomatch ha), (fun j a hj => by simp at hj)⟩ (Heap.lt_size hS₁)
  show wpAny _ _ (do let old ← Builtin.List.listItems (.ref L); Builtin.List.listUpdate (.ref L) (fun _ => #[]); letGo old.toList.reverse; Builtin.List.listExtendWith (.ref L) (.ref z) .none) _ _ s
  refine wpAny_bind ?_
  unfold Builtin.List.listItems
  refine wpAny_bind (wpAny_seqItems hS rfl (wpAny_pure ?_))
  show wpAny _ _ (updateSeq L (fun _ => #[]) >>= fun _ => letGo (#[] : Array Value).toList.reverse >>= fun _ => Builtin.List.listExtendWith (.ref L) (.ref z) .none) _ _ s
  refine wpAny_bind (wpAny_updateSeq hS rfl ?_)
  have hS₂ := Heap.get?_update_self (Obj.mapSeq (fun _ => (#[] : Array Value))) hS rfl
  have oth : ∀ b o, b ≠ L → s.heap.get? b = some o → (s.heap.update L (Obj.mapSeq (fun _ => (#[] : Array Value)))).get? b = some o :=
    fun b o hb e => (Heap.get?_update_other _ _ (Ne.symm hb)).trans e
  refine wpAny_bind (wpAny_letGo ?_)
  have Z2 := Z oth
  have hzz : IsZip (s.heap.update L (Obj.mapSeq (fun _ => (#[] : Array Value)))) z TI TO .none := oth _ _ lz.symm hz
  have hT : Shared.TypeIs { s with heap := s.heap.update L (Obj.mapSeq (fun _ => (#[] : Array Value))) } (.ref z) "zip" := ⟨_, hzz, rfl⟩
  unfold Builtin.List.listExtendWith
  refine wpAny_bind (wpAny_typeOf hT ?_)
  have h1 : Builtin.List.listSameRef (.ref L) (.ref z) = false := by simp [Builtin.List.listSameRef, lz]
  have h2 : (Value.type "zip" == Value.type "list") = false := by decide
  have h3 : (Value.type "zip" == Value.type "tuple") = false := by decide
  simp only [h1, h2, h3, Bool.or_false, Bool.false_eq_true, if_false]
  refine wpAny_bind (wpAny_pyIter_zip hzz ?_)
  refine wpAny_bind (wpAny_holding ?_)
  unfold Builtin.List.listLengthHint
  refine wpAny_bind (wpAny_specialOf hT zip_no_len ?_)
  show wpAny _ A.in1 (specialOf (Value.ref z) (Str.ofString "__length_hint__") >>= _) _ _ _
  refine wpAny_bind (wpAny_specialOf hT zip_no_hint ?_)
  refine wpAny_pure ?_
  show wpAny _ A.in1 (rule "list.extend.makes-room" >>= fun _ => Builtin.List.listTouch (.ref L) >>= fun _ =>
    again (.builtin "list.extend.loop" ⟨[.ref L, .ref z, .none], []⟩)) _ _ _
  refine wpAny_bind (wpAny_rule ?_)
  refine wpAny_bind ?_
  show wpAny _ A.in1 (updateSeq L (·.push .none) >>= fun _ => updateSeq L (·.pop)) _ _ _
  refine wpAny_bind (wpAny_updateSeq hS₂ rfl ?_)
  have hS₃ := Heap.get?_update_self (Obj.mapSeq (·.push Value.none)) hS₂ rfl
  refine wpAny_updateSeq (hz := by seq_fits) hS₃ rfl ?_
  have hS₄ := Heap.get?_update_self (Obj.mapSeq (·.pop)) hS₃ rfl
  refine wpAny_pure ⟨plainId_quiet PySem.F.plain_extend_loop _, key _ _ _ (fun b o hb e => ?_) hS₄⟩
  exact (Heap.get?_update_other _ _ (Ne.symm hb)).trans ((Heap.get?_update_other _ _ (Ne.symm hb)).trans (oth b o hb e))

theorem z_call {Q : Value → Shared → Prop} (S : ZipSep2 z TI TO i1 i2 fp1 fp2) (D1 : Draws prog w A.in1.in1.in1 i1 fp1 n1 P1 St1) (D2 : Draws prog w A.in1.in1.in1 i2 fp2 n2 P2 St2) (hn : min n1 n2 ≤ sizeLine)
    (l1 : ∀ b ∈ fp1, b < s.heap.objs.size) (l2 : ∀ b ∈ fp2, b < s.heap.objs.size) (hz : IsZip s.heap z TI TO .none) (hTI : IsTupOf2 s.heap TI (.ref i1) (.ref i2)) (hTO : ∃ a b, IsTupOf2 s.heap TO a b) (st1 : St1 0 s.heap) (st2 : St2 0 s.heap)
    (hQ : ∀ h' tk acc c as, (∀ b o, b ≠ z → b ≠ TO → b ≠ i1 → b ≠ i2 → s.heap.get? b = some o → h'.get? b = some o) → h'.get? s.heap.objs.size = some { cls := .type "list", dict := none, data := .seq acc c, slots := #[] } → as.length = min n1 n2 → ZG P1 P2 s.heap.objs.size h' as →
      acc.toList = as.map Value.ref → Q (.ref s.heap.objs.size) { s with heap := h', toks := tk }) :
    wpAny (model prog w) A (call (.type "list") [.ref z]) Q E s := by
  refine callType_codes (Q₁ := fun obj s₁ => obj = .ref s.heap.objs.size ∧ s₁ = { s with heap := s.heap.push { cls := .type "list", data := .seq #[] } }) PySem.F.called_list (PySem.F.typeCall_list_1 _) PySem.F.entry_list_init
    (code_list_new _ ⟨rfl, rfl⟩) fun obj s₁ h₁ => ?_
  obtain ⟨rfl, rfl⟩ := h₁
  have hS : (s.heap.push { cls := .type "list", data := .seq #[] }).get? s.heap.objs.size = some { cls := .type "list", data := .seq #[] } := Heap.get?_push_size _ rfl
  have pk : ∀ {b o}, s.heap.get? b = some o → (s.heap.push { cls := .type "list", data := .seq #[] }).get? b = some o := fun e => Heap.get?_push_of_some _ e
  obtain ⟨ta, tb, hTO⟩ := hTO
  refine ⟨⟨_, hS, rfl⟩, PySem.F.args_list_init_2 _ _, z_init (A := A.in1) S D1 D2 (Heap.lt_size hz) (Heap.lt_size hTO) (l1 _ S.mem1) (l2 _ S.mem2) (Heap.lt_size hTI) (fun m => Nat.lt_irrefl _ (l1 _ m)) (fun m => Nat.lt_irrefl _ (l2 _ m)) hn
    (pk hz) (pk hTI) ⟨ta, tb, pk hTO⟩ (D1.frame _ _ _ st1 fun b _ o e => pk e) (D2.frame _ _ _ st2 fun b _ o e => pk e) hS fun h' tk acc c as hk hS' hl hG hacc => ?_⟩
  exact ⟨rfl, hQ h' tk acc c as (fun b o d1 d2 d3 d4 e => hk b o (Nat.ne_of_lt (Heap.lt_size e)) d1 d2 d3 d4 (pk e)) hS' hl hG hacc⟩
end
end LZ
set_option maxHeartbeats 2000000
/-! Z1: list(zip(e, e2)), e a tuple, e2 a list -/
namespace LZ
open PySem PySem.Spec PyProof.Rows L2
def putH : Hp → List Addr → List HO → Hp
  | H, a :: as, o :: os => putH (upd H a o) as os
  | H, _, _ => H
theorem putH_off {b : Addr} : ∀ (as : List Addr) (os : List HO) (H : Hp), b ∉ as → putH H as os b = H b
  | [], _, _, _ => rfl
  | _ :: _, [], _, _ => rfl
  | a :: as, o :: os, H, h => by
    show putH (upd H a o) as os b = H b
    rw [putH_off as os _ (fun z => h (List.mem_cons_of_mem _ z)), upd_ne (fun z => h (by rw [z]; exact List.mem_cons_self))]
theorem putH_at : ∀ (as : List Addr) (os : List HO) (H : Hp) (j : Nat) (a : Addr) (o : HO), as.Nodup → as[j]? = some a → os[j]? = some o → putH H as os a = some o
  | [], _, _, _, _, _, _, h, _ => by simp at h
  | _ :: _, [], _, _, _, _, _, _, h => by simp at h
  | a :: as, o :: os, H, 0, b, u, hn, h1, h2 => by
    have hn' := List.nodup_cons.mp hn
    have e1 : a = b := by simpa using h1
    have e2 : o = u := by simpa using h2
    subst e1 e2
    show putH (upd H a o) as os a = some o
    rw [putH_off as os _ hn'.1, upd_same]
  | a :: as, o :: os, H, j + 1, b, u, hn, h1, h2 => putH_at as os _ j b u (List.nodup_cons.mp hn).2 (by simpa using h1) (by simpa using h2)
/-- the pairs, as what they are noted to be -/
def hos : List Value → List V → List Value → List V → List HO
  | u :: us, x :: xs, w :: ws, y :: ys => .frz { cls := .type "tuple", data := .seq #[u, w] } (.tup [x, y]) :: hos us xs ws ys
  | _, _, _, _ => []
theorem hos_get : ∀ {us : List Value} {xs : List V} {ws : List Value} {ys : List V}, Vals xs us → Vals ys ws → ∀ {j : Nat} {u w : Value}, us[j]? = some u → ws[j]? = some w →
    ∃ x y, xs[j]? = some x ∧ ys[j]? = some y ∧ RelV x u ∧ RelV y w ∧ (hos us xs ws ys)[j]? = some (.frz { cls := .type "tuple", data := .seq #[u, w] } (.tup [x, y]))
  | _, _, _, _, .nil, _, j, u, w, h, _ => by simp at h
  | _, _, _, _, .cons _ _, .nil, j, u, w, _, h => by simp at h
  | _, _, _, _, .cons r _, .cons r' _, 0, u, w, h, h' => by
    have e1 := Option.some.inj h
    have e2 := Option.some.inj h'
    subst e1 e2
    exact ⟨_, _, rfl, rfl, r, r', rfl⟩
  | _, _, _, _, .cons _ t, .cons _ t', j + 1, u, w, h, h' => hos_get (j := j) t t' (by simpa using h) (by simpa using h')
def ZipIs (H H' : Hp) (p : Addr) (ts : List Addr) (xs ys : List V) : Prop := (∀ b o, H b = some o → H' b = some o) ∧ H p = none ∧ (∀ t ∈ ts, H t = none) ∧ p ∉ ts ∧ H' p = some (.lst (ts.map V.ref)) ∧ ts.length = min xs.length ys.length ∧
  ∀ (j : Nat) (t : Addr), ts[j]? = some t → ∃ (o : Obj) (x y : V), xs[j]? = some x ∧ ys[j]? = some y ∧ o.cls = .type "tuple" ∧ o.dict = none ∧ H' t = some (.frz o (.tup [x, y]))
def rZipTL (K : PySem.W.Frag) : List V → Hp → VK → Prop := fun vs H Q => ∃ (a b : Addr) (xs ys : List V), vs = [.ref a, .ref b] ∧ SqT K H a xs ∧ SqL K H b ys ∧ ∀ (H' : Hp) (p : Addr) (ts : List Addr), ZipIs H H' p ts xs ys → Q (.ref p) H'
def tListZip (K : PySem.W.Frag) (ta : TA) : TE := fun σ H Q => ta σ H fun vs H1 => rZipTL K vs H1 Q
section
variable {X : Cx} {e e2 : Expr} {ta : TA} {p p2 cpos pos : Pos}
theorem zip_laid {pins : List (Addr × Obj)} {σ : L2.St} {H : Hp} {s : Shared} {h' : Heap} {tk L : Nat} {xs ys : List V} {us ws : List Value} {acc : Array Value} {c : Nat} {as : List Addr} (I : Inv X pins σ H s) (hz : xs.length ≤ sizeLine) (r1 : Vals xs us) (r2 : Vals ys ws)
    (hk : ∀ b o, s.heap.get? b = some o → h'.get? b = some o) (hL : s.heap.objs.size ≤ L) (hS : h'.get? L = some { cls := .type "list", dict := none, data := .seq acc c, slots := #[] }) (hl : as.length = min us.length ws.length)
    (hG : ZG (fun i v => us[i]? = some v) (fun i v => ws[i]? = some v) L h' as) (hacc : acc.toList = as.map Value.ref) :
    ∃ H' : Hp, ZipIs H H' L as xs ys ∧ Inv X pins σ H' { s with heap := h', toks := tk } := by
  have lx := r1.length
  have ly := r2.length
  have hSn : L ∉ as := fun z => Nat.lt_irrefl _ (hG.above _ z)
  have nd : as.Nodup := List.Pairwise.imp (fun {a b} (h : a < b) => Nat.ne_of_lt h) hG.rise
  have new : ∀ t ∈ as, H t = none := fun t ht => I.hok.fresh (Nat.le_trans hL (Nat.le_of_lt (hG.above t ht)))
  have newS : H L = none := I.hok.fresh hL
  let H' : Hp := putH (upd H L (.lst (as.map V.ref))) as (hos us xs ws ys)
  have at' : ∀ (j : Nat) (t : Addr), as[j]? = some t → ∃ u w x y, us[j]? = some u ∧ ws[j]? = some w ∧ xs[j]? = some x ∧ ys[j]? = some y ∧ RelV x u ∧ RelV y w ∧ IsTupOf2 h' t u w ∧ H' t = some (.frz { cls := .type "tuple", data := .seq #[u, w] } (.tup [x, y])) := by
    intro j t ht
    obtain ⟨u, w, g1, g2, g3⟩ := hG.pairs j t ht
    obtain ⟨x, y, f1, f2, f3, f4, f5⟩ := hos_get r1 r2 g1 g2
    exact ⟨u, w, x, y, g1, g2, f1, f2, f3, f4, g3, putH_at as _ _ j t _ nd ht f5⟩
  have off : ∀ b, b ∉ as → b ≠ L → H' b = H b := fun b h1 h2 => by
    show putH (upd H L (.lst (as.map V.ref))) as (hos us xs ws ys) b = H b
    rw [putH_off as _ _ h1, upd_ne h2]
  have low : ∀ b o, s.heap.get? b = some o → b ∉ as ∧ b ≠ L := fun b o e => ⟨fun z => absurd (Heap.lt_size e) (Nat.not_lt.mpr (Nat.le_trans hL (Nat.le_of_lt (hG.above b z)))), Nat.ne_of_lt (Nat.lt_of_lt_of_le (Heap.lt_size e) hL)⟩
  have kp : ∀ b u, H b = some u → H' b = some u := fun b u e => by
    rw [off b (fun z => by rw [new b z] at e; cases e) (fun z => by rw [z, newS] at e; cases e)]
    exact e
  have eS : H' L = some (.lst (as.map V.ref)) := by
    show putH (upd H L (.lst (as.map V.ref))) as (hos us xs ws ys) L = _
    rw [putH_off as _ _ hSn, upd_same]
  refine ⟨H', ⟨kp, newS, new, hSn, eS, by omega, fun j t ht => ?_⟩, ?_⟩
  · obtain ⟨u, w, x, y, _, _, f1, f2, _, _, _, f5⟩ := at' j t ht
    exact ⟨_, x, y, f1, f2, rfl, rfl, f5⟩
  refine I.call' (ch := []) rfl ⟨fun b o q _ _ _ => hk b o q, fun b o q _ _ _ => ⟨o.slots, hk b o q⟩, fun b o q n _ => ?_, fun b o q _ => ⟨o, hk b o q⟩, fun b xs q => kp b _ q, fun b o u q => kp b _ q, fun b ps q => ⟨#[], by rw [kp b _ q]; simp⟩⟩ (fun b u q => ?_) I.bare fun b z => by simp at z
  · obtain ⟨z1, z2⟩ := low b o q
    rw [off b z1 z2]
    exact n
  · by_cases hb : b ∈ as
    · obtain ⟨j, ej⟩ := List.mem_iff_getElem?.mp hb
      obtain ⟨u1, w1, x, y, _, _, _, _, f1, f2, f3, f5⟩ := at' j b ej
      rw [f5] at q
      cases q
      exact ⟨f3, by show 2 ≤ sizeLine; decide, [u1, w1], .cons f1 (.cons f2 .nil), ⟨_, f3, rfl, _, rfl⟩⟩
    · by_cases hb2 : b = L
      · rw [hb2] at q ⊢
        rw [eS] at q
        cases q
        refine ⟨by rw [List.length_map]; omega, acc.toList, c, by rw [hacc]; exact LiI.vals_refs as, ?_⟩
        rw [Array.toArray_toList]
        exact hS
      · rw [off b hb hb2] at q
        exact (I.hok b u q).stay (fun d v _ y => hk d v y) (fun d y => kp d _ y) fun d xs y => kp d _ y
/-- list(zip(e, e2)) -/
theorem pe_listZip (hc : X.calm = true) (ha : PA X [e, e2] ta) (hg : Gl X "list") (hm : X.mg "list" = none) (hgz : Gl X "zip") (hmz : X.mg "zip" = none)
    (hs : starEach [.Call (.Name "zip" p2) [e, e2] [] cpos] X.env = (false, eval (.Call (.Name "zip" p2) [e, e2] [] cpos) X.env) :: starEach [] X.env := by rfl)
    (hs2 : starEach [e, e2] X.env = (false, eval e X.env) :: starEach [e2] X.env := by rfl) (hpl : (backTo cpos (starEach [e2] X.env)).any (·.1) = false := by rfl) :
    PE X (.Call (.Name "list" p) [.Call (.Name "zip" p2) [e, e2] [] cpos] [] pos) (tListZip X.K ta) := by
  refine ⟨fun pins s σ H Q I hq => ?_⟩
  refine wpAny_Call_Name_kw (ld_blt I hg hm boot_list ?_)
  refine PyProof.Rows.callWith_type1 ?_ hs rfl
  rw [hs]
  show wpAny _ _ (spliced ((false, eval (.Call (.Name "zip" p2) [e, e2] [] cpos) X.env) :: backTo pos (starEach [] X.env))) _ _ s
  refine Calls.spliced_cons ?_
  refine Call_ (ld_blt I hgz hmz PyProof.Rows.boot_zip (PyProof.Rows.callWith_type1 (thn (ha.run cpos pins s σ H _ I hq) fun us s1 ⟨vs, H1, I1, r1, q1⟩ => ?_) hs2 hpl))
  obtain ⟨a, b, xs, ys, ex, hqx, hqy, q⟩ := q1
  subst ex
  cases r1 with
  | cons r rr =>
    cases rr with
    | cons r' rr =>
      cases rr
      cases r
      cases r'
      obtain ⟨its, rv, p1, z1⟩ := I1.tuple hqx
      obtain ⟨its2, rv2, p2', z2⟩ := I1.list hqy
      have al : a < s1.heap.objs.size := let ⟨_, ho, _⟩ := id p1; Heap.lt_size ho
      have bl : b < s1.heap.objs.size := p2'.lt
      refine zip_begins2 (begins_tuple a its.toArray) (begins_list b its2.toArray) (show s1.heap.IsTuple a its.toArray from p1) p2'.isList fun h' hz hTI hTO g1 g2 hsz hk => ?_
      refine Calls.spliced_nil ?_
      have D1 : ∀ A' : Around, A'.handled = none → Draws X.prog X.w A' s1.heap.objs.size [s1.heap.objs.size, a] its.toArray.size (fun i v => its.toArray[i]? = some v) (fun i h => h.IsTupleIter s1.heap.objs.size a i ∧ h.IsTuple a its.toArray) := fun A' hh => Draws.tuple hh _ a (Nat.ne_of_lt al) its.toArray
      have D2 : ∀ A' : Around, A'.handled = none → Draws X.prog X.w A' (s1.heap.objs.size + 1) [s1.heap.objs.size + 1, b] its2.toArray.size (fun i v => its2.toArray[i]? = some v) (fun i h => h.IsListIter (s1.heap.objs.size + 1) b i ∧ h.IsList b its2.toArray) := fun A' hh => Draws.list hh _ b (Nat.ne_of_lt (Nat.lt_succ_of_lt bl)) its2.toArray
      have SS : ZipSep2 (s1.heap.objs.size + 4) (s1.heap.objs.size + 2) (s1.heap.objs.size + 3) s1.heap.objs.size (s1.heap.objs.size + 1) [s1.heap.objs.size, a] [s1.heap.objs.size + 1, b] := by
        have q : ∀ (k : Nat) (c : Addr), c < s1.heap.objs.size → (s1.heap.objs.size + k : Nat) ≠ c := fun k c h => Nat.ne_of_gt (Nat.lt_of_lt_of_le h (Nat.le_add_right _ _))
        have n : ∀ j k : Nat, j ≠ k → (s1.heap.objs.size + j : Nat) ≠ s1.heap.objs.size + k := fun j k h e => h (Nat.add_left_cancel e)
        have m : ∀ {c d e : Addr}, c ≠ d → c ≠ e → c ∉ [d, e] := fun h1 h2 h => by
          rcases List.mem_cons.mp h with h | h
          · exact h1 h
          · exact h2 (List.mem_singleton.mp h)
        exact ⟨n 2 4 (by decide), n 3 4 (by decide), n 2 3 (by decide), n 2 0 (by decide), List.mem_cons_self, m (n 4 0 (by decide)) (q 4 a al), m (n 3 0 (by decide)) (q 3 a al), n 2 1 (by decide), List.mem_cons_self, m (n 4 1 (by decide)) (q 4 b bl), m (n 3 1 (by decide)) (q 3 b bl), m (n 0 1 (by decide)) (q 0 b bl), m (n 1 0 (by decide)) (q 1 a al)⟩
      have hd := I1.ok.hd hc
      refine z_call SS (D1 _ hd) (D2 _ hd) (by have := rv.length; simp only [List.size_toArray]; omega) (fun c hcm => ?_) (fun c hcm => ?_) hz hTI ⟨_, _, hTO⟩ ⟨⟨_, g1, rfl, rfl⟩, (show s1.heap.IsTuple a its.toArray from p1).at fun o x => hk _ o x⟩ ⟨⟨_, g2, rfl, rfl⟩, p2'.isList.at fun o x => hk _ o x⟩ fun h2 tk acc c as hk2 hS hl hG hacc => ?_
      · have e' : c = s1.heap.objs.size ∨ c = a := by simpa using hcm
        show c < h'.objs.size
        rw [hsz]
        rcases e' with e' | e'
        · rw [e']; exact Nat.lt_add_of_pos_right (by decide)
        · rw [e']; exact Nat.lt_of_lt_of_le al (Nat.le_add_right _ _)
      · have e' : c = s1.heap.objs.size + 1 ∨ c = b := by simpa using hcm
        show c < h'.objs.size
        rw [hsz]
        rcases e' with e' | e'
        · rw [e']; exact Nat.add_lt_add_left (by decide) _
        · rw [e']; exact Nat.lt_of_lt_of_le bl (Nat.le_add_right _ _)
      obtain ⟨H', j1, J⟩ := zip_laid (X := X) (tk := tk) (L := h'.objs.size) (h' := h2) (us := its) (ws := its2) I1 (by have := rv.length; omega) rv rv2 (fun b o x => by
          have := Heap.lt_size x
          exact hk2 b o (Nat.ne_of_lt (Nat.lt_of_lt_of_le this (Nat.le_add_right _ _))) (Nat.ne_of_lt (Nat.lt_of_lt_of_le this (Nat.le_add_right _ _))) (Nat.ne_of_lt this) (Nat.ne_of_lt (Nat.lt_of_lt_of_le this (Nat.le_add_right _ _))) (hk b o x)) (by rw [hsz]; exact Nat.le_add_right _ _) hS (by simpa using hl) ⟨hG.rise, hG.above, fun j t ht => by simpa using hG.pairs j t ht⟩ hacc
      exact ⟨.ref _, H', J, rfl, q H' _ as j1⟩
end
end LZ
set_option maxHeartbeats 1000000
/-! L3x: list(zip(tuple, list)) -/
namespace L3
open PySem PySem.Spec PyProof.Rows L2
def zipP (as bs : List D) : List D := List.zipWith (fun a b => D.tup [a, b]) as bs
@[irreducible] def zipF : List D → (D → Prop) → Prop
  | [.tup as, .lst bs], Kd => Kd (.lst (zipP as bs))
  | _, _ => False
theorem zipF_go {as bs : List D} {Kd : D → Prop} {r : List D} (e : zipP as bs = r) (k : Kd (.lst r)) : zipF [.tup as, .lst bs] Kd := by
  unfold zipF
  show Kd (.lst (zipP as bs))
  rw [e]
  exact k
theorem zipP_get {as bs : List D} {j : Nat} {d : D} (h : (zipP as bs)[j]? = some d) : ∃ a b, as[j]? = some a ∧ bs[j]? = some b ∧ d = .tup [a, b] := by
  unfold zipP at h
  rw [List.getElem?_zipWith] at h
  cases q : as[j]? with
  | none => rw [q] at h; cases h
  | some a =>
    cases q2 : bs[j]? with
    | none => rw [q, q2] at h; cases h
    | some b =>
      rw [q, q2] at h
      exact ⟨a, b, rfl, rfl, (Option.some.inj h).symm⟩
theorem Rps.of_get {K : PySem.W.Frag} {G : Hp} : ∀ {ds : List D} {vs : List V}, ds.length = vs.length → (∀ (i : Nat) (d : D) (v : V), ds[i]? = some d → vs[i]? = some v → Rp K G d v) → Rps K G ds vs
  | [], [], _, _ => .nil
  | [], _ :: _, h, _ => by cases h
  | _ :: _, [], h, _ => by cases h
  | d :: ds, v :: vs, h, f => .cons (f 0 d v rfl rfl) (Rps.of_get (Nat.succ.inj h) fun i e w h1 h2 => f (i + 1) e w (by simpa using h1) (by simpa using h2))
theorem cf_zip {C : C3} {K : PySem.W.Frag} (hK : K = C.K) : CF C (LZ.rZipTL K) zipF := by
  subst hK
  intro vs ds H G Kd Q ok rr hf pv
  unfold zipF at hf
  match ds, hf, rr with
  | [.tup as, .lst bs], hf, .cons (.tup (a := a) (vs := xs) ht r1) (.cons (.lst (a := b) (vs := ys) hl r2) .nil) =>
    refine ⟨a, b, xs, ys, rfl, ?_, ?_, fun H' p ts ⟨same, pn, tn, pt, hp, len, it⟩ => ?_⟩
    · have := ht.sq
      exact seqT (fun u o e => (ok.sub u o e).2) this
    · exact .inl (.inl (ok.sub _ _ hl).2)
    let G' : Hp := fun u => if u ∈ ts then H' u else G u
    have gin : ∀ {u}, u ∈ ts → G' u = H' u := fun h => if_pos h
    have gout : ∀ {u}, u ∉ ts → G' u = G u := fun h => if_neg h
    have gn : ∀ {u}, H u = none → G u = none := fun h => by
      cases q : G _ with
      | none => rfl
      | some o => rw [(ok.sub _ _ q).2] at h; cases h
    have sg : Same G G' := fun u o e => by
      rw [gout fun h => by rw [gn (tn u h)] at e; cases e]
      exact e
    have st : Stp C H G H' G' := ⟨fun u o _ e => nT_same same u o e, sg, fun u o e e' => by
      by_cases q : u ∈ ts
      · exact nT_none (tn u q)
      · rw [gout q, e] at e'; cases e'⟩
    have ok' : Ok3 C H' G' := ⟨ok.iv.same same, fun u o e => by
      by_cases q : u ∈ ts
      · rw [gin q] at e
        exact ⟨ok.iv.new (tn u q), e⟩
      · rw [gout q] at e
        obtain ⟨h1, h2⟩ := ok.sub u o e
        exact ⟨h1, same u o h2⟩, fun u o e => by
      by_cases q : u ∈ ts
      · rw [gin q] at e
        obtain ⟨j, hj⟩ := List.mem_iff_getElem?.mp q
        obtain ⟨o', x, y, _, _, _, _, h5⟩ := it j u hj
        rw [h5] at e
        cases e
        rfl
      · rw [gout q] at e
        exact ok.nt u o e⟩
    refine pv (.lst (zipP as bs)) p _ H' G' st ok' (nT_none pn) ((gout pt).trans (gn pn)) hp (ok.iv.new pn) (.lst (Rps.of_get ?_ fun i d v h1 h2 => ?_)) hf
    · have e1 := r1.length
      have e2 := r2.length
      unfold zipP
      rw [List.length_zipWith, List.length_map, len]
      omega
    · rw [List.getElem?_map] at h2
      cases q : ts[i]? with
      | none => rw [q] at h2; cases h2
      | some t =>
        rw [q] at h2
        have h2 := Option.some.inj h2
        subst h2
        obtain ⟨o, x, y, f1, f2, f3, f4, f5⟩ := it i t q
        obtain ⟨da, db, g1, g2, g3⟩ := zipP_get h1
        obtain ⟨va, k1, k2⟩ := r1.get g1
        obtain ⟨vb, k3, k4⟩ := r2.get g2
        rw [f1] at k1
        rw [f2] at k3
        cases k1
        cases k3
        subst g3
        exact .tup (.inl ⟨o, (gin (List.mem_iff_getElem?.mpr ⟨i, q⟩)).trans f5, f3, f4⟩) (.cons (k2.mono sg) (.cons (k4.mono sg) .nil))
section
variable {X : Cx} {C : C3} {E : XK} {e e2 : Expr} {r : MAt} {p p2 cpos pos : Pos}
theorem mf_listZip (F : Free X.mg) (hK : X.K = C.K) (hc : X.calm = true) (hg : Gl X "list") (hgz : Gl X "zip") (ha : MA X C E [e, e2] r)
    (hs : starEach [.Call (.Name "zip" p2) [e, e2] [] cpos] X.env = (false, eval (.Call (.Name "zip" p2) [e, e2] [] cpos) X.env) :: starEach [] X.env := by rfl)
    (hs2 : starEach [e, e2] X.env = (false, eval e X.env) :: starEach [e2] X.env := by rfl) (hpl : (backTo cpos (starEach [e2] X.env)).any (·.1) = false := by rfl) :
    MF X C E (.Call (.Name "list" p) [.Call (.Name "zip" p2) [e, e2] [] cpos] [] pos) (mCall zipF r) :=
  PE.imp (LZ.pe_listZip hc ha hg F.list hgz F.zip hs hs2 hpl) fun _ _ _ h => liftCF (cf_zip hK) h
end
end L3
set_option maxHeartbeats 4000000
/-! Z2: set(xs) of a list or tuple of whole numbers, its len, sorted of it -/
namespace LZ
open PySem PySem.Spec PyProof.Rows L2
/-- a new set object -/
abbrev setO0 (w : World) : Obj := { cls := .type "set", dict := none, data := .set #[] 0 (.fresh 0 0 (!w.params.followText "set-order")) }
section
variable {P : Program} {w : World} {A : Around} {E : Value → Shared → Prop} {s : Shared}
theorem set_lst {l : Addr} {xs : Array Value} (ks : List Int) {Q : Value → Shared → Prop} (a0 : A.handled = none) (isl : s.heap.IsList l xs) (ik : IntsAre xs.toList ks) (kb : ks.length + 1 < scanBound)
    (fin : ∀ (g : Heap) (tk c : Nat), SetR w g s.heap.objs.size (fun j => decide (j ∈ ks)) c → c ≤ ks.length → (∀ b o, s.heap.get? b = some o → g.get? b = some o) → Q (.ref s.heap.objs.size) { s with heap := g, toks := tk }) :
    wpAny (model P w) A (call (.type "set") [.ref l]) Q E s := by
  have nx : xs.size = ks.length := by
    have z := IntsAre.length ik
    rw [Array.length_toList] at z
    exact z
  obtain ⟨c0, tl0, mr0⟩ := F.called_set.mro
  have md0 := F.called_set.made
  have sb0 := F.called_set.sub
  refine wpAny_call (codeAny_of_tree ?_)
  show wpAny _ _ (callAny (.type "set") _) _ _ _
  refine wpAny_pure ⟨Code.quiet_builtin _ (by decide +kernel), codeAny_builtin F.entry_type_call ?_⟩
  rw [Around.under_plain (weight_type_call_type "set" [.ref l] []) rfl]
  have n1 := F.called_set.notType
  have n2 := F.called_set.canCreate
  have n3 := F.typeCall_set_1 (.ref l)
  repeat (any_goals (first | assumption | wp_step))
  refine codeAny_mono (code_set_led1 (.ref l) (E := E) (Q₁ := fun ob t1 => ob = .ref s.heap.objs.size ∧ t1 = { s with heap := s.heap.push (setO0 w) }) ⟨rfl, rfl⟩) fun r t1 er => ?_
  cases r with
  | error _ => exact er
  | ok fl =>
    cases fl with
    | ret ob =>
      obtain ⟨rfl, rfl⟩ := er
      have gS : (s.heap.push (setO0 w)).get? s.heap.objs.size = some (setO0 w) := Heap.get?_push_size _ rfl
      have tS : Shared.TypeIs { s with heap := s.heap.push (setO0 w) } (.ref s.heap.objs.size) "set" := ⟨_, gS, rfl⟩
      have i1 := F.called_set.init.lookup
      have i2 := F.called_set.init.bind (.ref s.heap.objs.size)
      repeat (any_goals (first | assumption | wp_step))
      refine codeAny_mono (codeAny_call_builtin (R := wants (fun r t2 => r = .none ∧ ∃ g tk c, t2 = { s with heap := g, toks := tk } ∧ SetR w g s.heap.objs.size (fun j => decide (j ∈ ks)) c ∧ c ≤ ks.length ∧
          (∀ b o, s.heap.get? b = some o → g.get? b = some o)) E) F.called_set.init.plain F.entry_set_init (check_set_init_1 tS ?_)) fun r2 t2 er2 => ?_
      · obtain ⟨ol, gl, cl, nl, dl⟩ := isl
        obtain ⟨oc, od, oda, osl⟩ := ol
        simp only at cl dl
        subst cl; subst dl
        have gl' : (s.heap.push (setO0 w)).get? l = some { cls := .type "list", dict := od, data := .seq xs nl, slots := osl } := Heap.get?_push_of_some _ gl
        have sl1 := F.sub_list_set
        have sl2 := F.sub_list_frozenset
        have ned : (Value.type "list" == Value.type "dict") = false := by decide
        have isl1 : (s.heap.push (setO0 w)).IsList l xs := ⟨_, gl', rfl, nl, rfl⟩
        unfold Builtin.«set.__init__» noKeywords Builtin.Frozenset.updateFrom
        generalize e0 : pyIter = it0
        wp_walk
        subst e0
        refine wpAny_pyIter_list isl1 ?_
        refine wpAny_bind (wpAny_runValue ?_)
        have ls : l < s.heap.objs.size := Heap.lt_size gl
        have a3 : A.in1.in1.in1.handled = none := by simp [a0]
        have lne : l ≠ (s.heap.push (setO0 w)).objs.size := by
          rw [Heap.size_push]; exact Nat.ne_of_lt (Nat.lt_succ_of_lt ls)
        have nin : s.heap.objs.size ∉ [(s.heap.push (setO0 w)).objs.size, l] := by
          rw [Heap.size_push]
          intro z
          rcases List.mem_cons.mp z with z | z
          · exact absurd z (Nat.ne_of_lt (Nat.lt_succ_self _))
          · exact absurd (List.mem_singleton.mp z) (Nat.ne_of_gt ls)
        have vals : ∀ (i : Nat) (v : Value), xs[i]? = some v → ∃ k t, ks[i]? = some k ∧ v = .int k t := fun i v ev => by
          have li : i < ks.length := by rw [← nx]; exact (Array.getElem?_eq_some_iff.mp ev).1
          obtain ⟨t, e⟩ := PyProof.Rows.IntsAre.int_at ik i v (by rw [Array.getElem?_toList]; exact ev)
          refine ⟨ks[i], t, List.getElem?_eq_getElem li, ?_⟩
          rw [e, List.getD_eq_getElem?_getD, List.getElem?_eq_getElem li] <;> rfl
        refine set_update_ints ((Walks.list a3 _ l lne xs).toS) s.heap.objs.size nin ks nx kb vals (xs.size - 0) 0 _ (by omega) (Nat.zero_le _)
          ⟨⟨_, Heap.get?_push_size _ rfl, rfl, rfl⟩, (isl1.push _)⟩ ⟨0, Nat.le_refl 0, setR_new_at (Heap.get?_push_of_some _ gS)⟩ fun t3 c mv lc hS => ?_
        obtain ⟨g, g2, d2, tk2, os2⟩ := t3
        have eg : g2 = s.gens := mv.gens
        have ed : d2 = s.drawn := mv.drawn
        have eo : os2 = s.os := mv.os
        subst eg; subst ed; subst eo
        show wpAny _ _ _ _ _ _
        refine wpAny_pure ?_
        show wpAny _ _ (ret Value.none) _ _ _
        rw [nx] at lc
        refine wpAny_pure ⟨rfl, g, tk2, c, rfl, hS, lc, fun b o e => ?_⟩
        have b0 : b < s.heap.objs.size := Heap.lt_size e
        refine mv.heap b o (fun z => ?_) (Heap.get?_push_of_some _ (Heap.get?_push_of_some _ e))
        rcases List.mem_cons.mp z with z | z
        · exact absurd z (Nat.ne_of_lt b0)
        · have z := List.mem_singleton.mp z
          rw [Heap.size_push] at z
          exact absurd z (Nat.ne_of_lt (Nat.lt_succ_of_lt b0))
      · cases r2 with
        | error _ => exact er2
        | ok fl2 =>
          cases fl2 with
          | ret r =>
            obtain ⟨rfl, g, tk, c, rfl, hS, lc, kp⟩ := er2
            repeat (any_goals (first | assumption | wp_step))
            exact fin _ _ _ hS lc kp
          | _ => exact er2.elim
    | _ => exact er.elim
end
/-- the members of a set, each once -/
def Once (ns ys : List Int) : Prop := ys.Nodup ∧ ∀ k, k ∈ ys ↔ k ∈ ns
theorem SetR.once {w : World} {h : Heap} {a : Addr} {ns : List Int} {c : Nat} (R : SetR w h a (fun j => decide (j ∈ ns)) c) : ∃ ys, Once ns ys ∧ ys.length = c := by
  obtain ⟨o, es, ep, t, _, _, _, _, nd, hm, _, _, hn, _⟩ := R
  refine ⟨es.toList.map keyOf, ⟨nd, fun k => ?_⟩, by rw [List.length_map, Array.length_toList]; exact hn⟩
  rw [← hm k]
  exact decide_eq_true_iff
section
variable {X : Cx}
def rSetI (K : PySem.W.Frag) (w : World) : List V → Hp → VK → Prop := fun vs H Q => ∃ (l : Addr) (ns : List Int), vs = [.ref l] ∧ (SqL K H l (ns.map V.int) ∨ SqT K H l (ns.map V.int)) ∧ ns.length ≤ 4000 ∧
  ∀ (p : Addr) (ys : List Int), H p = none → Once ns ys → ys.length ≤ ns.length → Q (.ref p) (upd H p (SetO w p (fun j => decide (j ∈ ns)) ys.length))
theorem cr_setI (hc : X.calm = true) : CallR X (.type "set") (rSetI X.K X.w) := by
  intro pins s σ H vs us Q I r h
  obtain ⟨l, ns, rfl, hq, h4, q⟩ := h
  rw [Vals.ref1 r]
  have kb : ns.length + 1 < scanBound := by unfold scanBound; omega
  have go : ∀ (g : Heap) (tk c : Nat), SetR X.w g s.heap.objs.size (fun j => decide (j ∈ ns)) c → c ≤ ns.length → (∀ b o, s.heap.get? b = some o → g.get? b = some o) →
      ∃ (v : V) (H' : Hp), Inv X pins σ H' { s with heap := g, toks := tk } ∧ RelV v (.ref s.heap.objs.size) ∧ Q v H' := fun g tk c R lc kp => by
    obtain ⟨ys, oy, el⟩ := SetR.once R
    subst el
    exact ⟨.ref s.heap.objs.size, upd H s.heap.objs.size (SetO X.w s.heap.objs.size (fun j => decide (j ∈ ns)) ys.length), I.laid (t' := tk) kp (Nat.le_refl _) (setO_new R), rfl, q _ _ (I.hok.fresh (Nat.le_refl _)) oy lc⟩
  rcases hq with hq | hq
  · obtain ⟨its, r1, pl, hz⟩ := I.list hq
    exact set_lst ns (I.ok.hd hc) pl.isList (by simpa using RZ.intsAre_vals r1) kb fun g tk c R lc kp => go g tk c R lc kp
  · obtain ⟨its, r1, pl, hz⟩ := I.tuple hq
    exact call_set_tupI ns (I.ok.hd hc) pl (by simpa using RZ.intsAre_vals r1) kb fun g tk c R lc kp => go g tk c R lc kp
def rLenSetO (w : World) : List V → Hp → VK → Prop := fun vs H Q => ∃ (a : Addr) (S : Int → Bool) (n : Nat), vs = [.ref a] ∧ H a = some (SetO w a S n) ∧ Q (.int (n : Nat)) H
theorem cr_lenSetO : CallR X (.builtin "len") (rLenSetO X.w) := by
  intro pins s σ H vs us Q I r h
  obtain ⟨a, S, n, rfl, ha, q⟩ := h
  rw [Vals.ref1 r]
  obtain ⟨o, es, ep, t, ho, hx, hd, _, _, _, hb, hf, hn, _⟩ := setO_get I ha
  refine call_len_set ho hx hd hf (by have : es.size < 4096 := hb; omega) ⟨.int (n : Nat), H, I.tok _, ⟨_, by rw [hn]⟩, q⟩
end
end LZ
set_option maxHeartbeats 1000000
/-! L3y: sorted(set(..)), len(set(tuple)) on plain data -/
namespace L3
open PySem PySem.Spec PyProof.Rows L2
def seqOf : D → Option (List Int)
  | .lst xs => intsOf xs
  | .tup xs => intsOf xs
  | _ => none
theorem seqOf_rp {K : PySem.W.Frag} {G : Hp} {d : D} {v : V} {ns : List Int} (r : Rp K G d v) (h : seqOf d = some ns) : ∃ l, v = .ref l ∧ (G l = some (.lst (ns.map V.int)) ∨ SqT K G l (ns.map V.int)) := by
  cases r with
  | lst h1 r1 =>
    have e := intsOf_eq (show intsOf _ = some ns from h)
    subst e
    rw [r1.ints] at h1
    exact ⟨_, rfl, .inl h1⟩
  | tup h1 r1 =>
    have e := intsOf_eq (show intsOf _ = some ns from h)
    subst e
    rw [r1.ints] at h1
    exact ⟨_, rfl, .inr h1.sq⟩
  | _ => cases h
@[irreducible] def sortSetD (d : D) (K : D → Prop) : Prop := ∃ ns, seqOf d = some ns ∧ ns.length < 64 ∧ ∀ ys : List Int, ys.Pairwise (· < ·) → (∀ k, k ∈ ys ↔ k ∈ ns) → K (.lst (ys.map D.int))
def mSortedSet (m : MEt) : MEt := fun env Kd KX => m env (fun d => sortSetD d Kd) KX
@[irreducible] def lenSetTD (d : D) (K : D → Prop) : Prop := ∃ ns, seqOf d = some ns ∧ ns.length ≤ 4000 ∧ ∀ ys : List Int, LZ.Once ns ys → ys.length ≤ ns.length → K (.int (ys.length : Nat))
def mLenSetT (m : MEt) : MEt := fun env Kd KX => m env (fun d => lenSetTD d Kd) KX
theorem upd_none {H : Hp} {p q : Addr} {o : HO} (h : upd H p o q = none) : H q = none := by
  by_cases e : q = p
  · rw [e, upd_same] at h
    cases h
  · rw [upd_ne e] at h
    exact h
section
variable {X : Cx} {C : C3} {E : XK} {a : Expr} {m : MEt} {p p2 q pos : Pos}
theorem mf_sortedSet (F : Free X.mg) (hK : X.K = C.K) (hc : X.calm = true) (hg : Gl X "sorted") (hg2 : Gl X "set") (ha : ME X C E a m) (na : starEach [a] X.env = (false, eval a X.env) :: starEach [] X.env := by rfl)
    (nb : starEach [.Call (.Name "set" p2) [a] [] q] X.env = (false, eval (.Call (.Name "set" p2) [a] [] q) X.env) :: starEach [] X.env := by rfl) (hp1 : (backTo q (starEach [] X.env)).any (·.1) = false := by rfl) (hp2 : (backTo pos (starEach [] X.env)).any (·.1) = false := by rfl) :
    MF X C E (.Call (.Name "sorted" p) [.Call (.Name "set" p2) [a] [] q] [] pos) (mSortedSet m) :=
  PE.imp (pe_callB (cr_sortedSet hc) hg F.sorted (by decide +kernel) (pa_cons (pe_callTy (LZ.cr_setI hc) hg2 F.set (by decide +kernel) (pa_cons ha pa_nil na) (by decide) (by decide) na hp1) pa_nil nb) (by decide) (by decide) nb hp2) fun σ H Q ⟨env, G, Kd, KX, ok, vr, hm, pv, px⟩ => by
  refine ⟨env, G, _, KX, ok, vr, hm, fun d v H1 G1 s1 ok1 r1 k1 => ?_, px⟩
  unfold sortSetD at k1
  obtain ⟨ns, e1, hl, k⟩ := k1
  obtain ⟨l, rfl, hq⟩ := seqOf_rp r1 e1
  refine ⟨l, ns, rfl, ?_, by omega, fun p0 ys hp oy le => ?_⟩
  · rcases hq with hq | hq
    · exact .inl (by rw [hK]; exact .inl (.inl (ok1.sub _ _ hq).2))
    · exact .inr (by rw [hK]; exact seqT (fun u o e => (ok1.sub u o e).2) hq)
  obtain ⟨ok2, s2, g2⟩ := ok1.new (o := SetO X.w p0 (fun j => decide (j ∈ ns)) ys.length) hp
  refine ⟨p0, _, _, rfl, upd_same, by omega, fun zs p1 hz hm2 _ hp1 => ?_⟩
  obtain ⟨ok3, s3, g3⟩ := ok2.new (o := .lst (zs.map V.int)) hp1
  refine pv.on s1 _ p1 _ _ G1 (s2.trans ok3 s3) ok3 (nT_none (upd_none hp1)) g3 upd_same (ok2.iv.new hp1) (.lst (Rps.ofInts _)) (k zs hz fun j => (hm2 j).trans decide_eq_true_iff)
theorem me_lenSetT (F : Free X.mg) (hK : X.K = C.K) (hc : X.calm = true) (hg : Gl X "len") (hg2 : Gl X "set") (ha : ME X C E a m) (na : starEach [a] X.env = (false, eval a X.env) :: starEach [] X.env := by rfl)
    (nb : starEach [.Call (.Name "set" p2) [a] [] q] X.env = (false, eval (.Call (.Name "set" p2) [a] [] q) X.env) :: starEach [] X.env := by rfl) (hp1 : (backTo q (starEach [] X.env)).any (·.1) = false := by rfl) (hp2 : (backTo pos (starEach [] X.env)).any (·.1) = false := by rfl) :
    ME X C E (.Call (.Name "len" p) [.Call (.Name "set" p2) [a] [] q] [] pos) (mLenSetT m) :=
  PE.imp (pe_callB LZ.cr_lenSetO hg F.len (by decide +kernel) (pa_cons (pe_callTy (LZ.cr_setI hc) hg2 F.set (by decide +kernel) (pa_cons ha pa_nil na) (by decide) (by decide) na hp1) pa_nil nb) (by decide) (by decide) nb hp2) fun σ H Q ⟨env, G, Kd, KX, ok, vr, hm, pv, px⟩ => by
  refine ⟨env, G, _, KX, ok, vr, hm, fun d v H1 G1 s1 ok1 r1 k1 => ?_, px⟩
  unfold lenSetTD at k1
  obtain ⟨ns, e1, hl, k⟩ := k1
  obtain ⟨l, rfl, hq⟩ := seqOf_rp r1 e1
  refine ⟨l, ns, rfl, ?_, hl, fun p0 ys hp oy le => ?_⟩
  · rcases hq with hq | hq
    · exact .inl (by rw [hK]; exact .inl (.inl (ok1.sub _ _ hq).2))
    · exact .inr (by rw [hK]; exact seqT (fun u o e => (ok1.sub u o e).2) hq)
  obtain ⟨ok2, s2, g2⟩ := ok1.new (o := SetO X.w p0 (fun j => decide (j ∈ ns)) ys.length) hp
  exact ⟨p0, _, _, rfl, upd_same, pv _ _ _ G1 (s1.trans ok2 s2) ok2 (.int _) (k ys oy le)⟩
end
end L3
set_option maxHeartbeats 1000000
/-! L3z: t[::-1] of a tuple, tuple(range(n)) -/
namespace LZ
open PySem PySem.Spec PyProof.Rows L2
section
variable {prog : Program} {w : World} {A : Around} {E : Value → Shared → Prop} {s : Shared}
theorem back_part {sl : Addr} {va vb vs : Value} {n : Nat} {Q : Int × Int × Nat → Shared → Prop} (hs : s.heap.IsSliceOf sl va vb vs) (pa : IsPart va none) (pb : IsPart vb none) (ps : IsPart vs (some (-1)))
    (q : Q ((n : Int) - 1, -1, n) s) : wpAny (model prog w) A (Builtin.Slice.sliceApplied (.ref sl) (pure (n : Int))) Q E s := by
  obtain ⟨ob, hob, hcb, hdb⟩ := id hs
  unfold Builtin.Slice.sliceApplied Builtin.Slice.sliceFields
  refine wpAny_bind (wpAny_bind (wpAny_field hob hdb (x := va) rfl (wpAny_bind (wpAny_field hob hdb (x := vb) rfl (wpAny_bind (wpAny_field hob hdb (x := vs) rfl (wpAny_pure ?_)))))))
  refine wpAny_bind (HT.slicePart_ ps ?_)
  show wpAny _ _ (if ((-1 : Int) == 0) = true then _ else _) _ _ s
  rw [if_neg (by decide)]
  refine wpAny_bind (HT.slicePart_ pa (wpAny_bind (HT.slicePart_ pb (wpAny_bind (wpAny_pure ?_)))))
  have e1 : Builtin.Slice.sliceAdjust none none (-1) (n : Int) = ((n : Int) - 1, -1) := rfl
  have e2 : Builtin.Slice.slicePlaces ((n : Int) - 1) (-1) (-1) = n := by
    unfold Builtin.Slice.slicePlaces
    rw [if_neg (by decide)]
    by_cases h : (n : Int) - 1 > -1
    · rw [if_pos h, show (-(-1) : Int) = 1 by decide, Int.ediv_one]
      omega
    · rw [if_neg h]
      omega
  show wpAny _ _ (match Builtin.Slice.sliceAdjust none none (-1) (n : Int) with | (lo, hi) => pure (lo, (-1 : Int), Builtin.Slice.slicePlaces lo hi (-1))) _ _ s
  rw [e1]
  show wpAny _ _ (pure ((n : Int) - 1, (-1 : Int), Builtin.Slice.slicePlaces ((n : Int) - 1) (-1) (-1))) _ _ s
  rw [e2]
  exact wpAny_pure q
theorem back_pick (xs : Array Value) : ((List.range xs.size).filterMap fun (m : Nat) => xs[(((xs.size : Nat) : Int) - 1 + (m : Int) * -1).toNat]?).toArray = xs.toList.reverse.toArray := by
  congr 1
  have e : (fun (m : Nat) => xs[(((xs.size : Nat) : Int) - 1 + (m : Int) * -1).toNat]?) = fun m => xs[xs.size - 1 - m]? := by
    funext m
    rw [show (((xs.size : Nat) : Int) - 1 + (m : Int) * -1).toNat = xs.size - 1 - m by omega]
  rw [e]
  have key : ∀ l : List Nat, (∀ j ∈ l, j < xs.size) → l.filterMap (fun m => xs[xs.size - 1 - m]?) = l.filterMap (fun m => xs.toList.reverse[m]?) := fun l hl => by
    induction l with
    | nil => rfl
    | cons j l ih =>
      have hj := hl j List.mem_cons_self
      rw [List.filterMap_cons, List.filterMap_cons, ih fun b hb => hl b (List.mem_cons_of_mem _ hb), List.getElem?_reverse (by rw [Array.length_toList]; exact hj), Array.length_toList, Array.getElem?_toList]
  rw [key _ fun j hj => List.mem_range.mp hj]
  have h := PySem.W.krv_all xs.toList.reverse.toArray
  simpa using h
theorem getItem_back {t sl : Addr} {xs : Array Value} {va vb vs : Value} {Q : Value → Shared → Prop} (ht : IsTup s.heap t xs) (hs : s.heap.IsSliceOf sl va vb vs) (pa : IsPart va none) (pb : IsPart vb none) (ps : IsPart vs (some (-1)))
    (q : Q (.ref s.heap.objs.size) { s with heap := s.heap.push { cls := .type "tuple", data := .seq xs.toList.reverse.toArray } }) (hz : xs.size ≤ sizeLine) : wpAny (model prog w) A (getItem (.ref t) (.ref sl)) Q E s := by
  have hsz : sizeOk (.seq xs.toList.reverse.toArray) := by
    show xs.toList.reverse.toArray.size ≤ sizeLine
    rw [List.size_toArray, List.length_reverse, Array.length_toList]
    exact hz
  obtain ⟨ob, hob, hcb, hdb⟩ := id hs
  have tsl : s.TypeIs (.ref sl) "slice" := ⟨ob, hob, hcb⟩
  unfold getItem
  try with_reducible refine wpAny_holding ?_
  first | refine wpAny_bind (wpAny_pure ?_) | skip
  refine wpAny_bind (wpAny_sequenceKey ht.typeIs (by decide) ?_)
  refine wpAny_bind (wpAny_callSpecial?_slot (name := Str.ofString "__getitem__") ht.typeIs PyProof.Rows.slot_tuple_getitem (wpAny_call_entry PyProof.Rows.slot_tuple_getitem ht.typeIs entry_tuple_getitem ?_ (args_tuple_getitem _ _)))
  show wpAny _ _ (Builtin.Tuple.tupleItemsOf (.ref t) >>= _) _ _ s
  refine wpAny_bind (tupleItemsOf_ ht ?_)
  refine wpAny_bind (wpAny_typeOf tsl ?_)
  rw [if_pos (by decide)]
  refine wpAny_bind (back_part hs pa pb ps ?_)
  have no : ¬ (((((xs.size : Nat) : Int) - 1) == 0 && (-1 : Int) == 1 && xs.size == xs.size) = true) := by
    intro z
    rw [Bool.and_eq_true, Bool.and_eq_true] at z
    exact absurd z.1.2 (by decide)
  show wpAny _ _ (if ((((xs.size : Nat) : Int) - 1) == 0 && (-1 : Int) == 1 && xs.size == xs.size) = true then _ else _) _ _ s
  rw [if_neg no, back_pick]
  first
    | exact wpAny_bind (m := Builtin.Tuple.tupleExact _) (wpAny_newObj_type (wpAny_pure ⟨_, rfl, wpAny_pure q⟩) hsz)
    | exact wpAny_bind (m := Builtin.Tuple.tupleExact _) (wpAny_newObj_type (wpAny_bind (wpAny_pure (wpAny_pure ⟨_, rfl, wpAny_pure q⟩))) hsz)
end
def tRevT (K : PySem.W.Frag) (te : TE) : TE := fun σ H Q => te σ H fun x H1 => ∃ a xs, x = .ref a ∧ SqT K H1 a xs ∧ ∀ p o, H1 p = none → o.cls = .type "tuple" → o.dict = none → Q (.ref p) (upd H1 p (.frz o (.tup xs.reverse)))
theorem Vals.rev {xs : List V} {us : List Value} (r : Vals xs us) : Vals xs.reverse us.reverse := by
  induction r with
  | nil => exact .nil
  | cons h _ ih =>
    rw [List.reverse_cons, List.reverse_cons]
    exact ih.append (.cons h .nil)
theorem pe_revT {X : Cx} {e : Expr} {te : TE} {k : Nat} {p1 p2 p3 pos : Pos} (he : PE X e te) :
    PE X (.Subscript e (.Slice none none (some (.UnaryOp .USub (.Constant (.int 1) k p1) p2)) p3) pos) (tRevT X.K te) := by
  refine ⟨fun pins s σ H Q I h => ?_⟩
  refine Subscript_ (thn (he.run pins s σ H _ I h) fun v s1 ⟨x, H1, I1, r1, q1⟩ => ?_)
  have hst : PO X (some (.UnaryOp .USub (.Constant (.int 1) k p1) p2)) (tPart (tUn (rU fun i => .int (-i)) (tC (.int 1)))) := po_some (pe_un un_neg pe_int)
  refine wpAny_Slice ?_
  rw [evalPart_none]
  refine wpAny_pure (wpAny_pure ?_)
  refine thn (hst.run pins s1 σ H1 (fun o H4 => o = some (-1) ∧ H4 = H1) I1 ⟨1, rfl, -1, rfl, rfl, rfl⟩) fun vs s4 ⟨o, H4, I4, ps, eo, e4⟩ => ?_
  subst eo e4
  obtain ⟨a, xs, ex, hx, q⟩ := q1
  subst ex
  cases r1
  have I5 : Inv X pins σ H4 { s4 with heap := s4.heap.push { cls := .type "slice", data := .fields #[.none, .none, vs] } } := I4.kept (t' := s4.toks) fun b ob q => Heap.get?_push_of_some _ q
  obtain ⟨its, r, ht, hz⟩ := I5.tuple hx
  have hlen := r.length
  show wpAny (model X.prog X.w) X.A (subscriptTail e (.Slice none none (some (.UnaryOp .USub (.Constant (.int 1) k p1) p2)) p3) (.ref a) (.ref s4.heap.objs.size)) (EP X pins σ Q) X.xe { s4 with heap := s4.heap.push { cls := .type "slice", data := .fields #[.none, .none, vs] } }
  refine tail_any (ops := [.ref a, .ref s4.heap.objs.size]) ht.typeIs (PyProof.Rows.slot_tuple_getitem.lookup) ?_ (by with_unfolding_all rfl)
  refine getItem_back ht (Heap.IsSliceOf.new _ .none .none vs) .none .none ps ?_ (by rw [List.size_toArray]; omega)
  refine ⟨.ref _, _, I5.laid (t' := s4.toks) (o := .frz { cls := .type "tuple", data := .seq its.reverse.toArray } (.tup xs.reverse)) (fun b ob q => Heap.get?_push_of_some _ q) (Nat.le_refl _) ?_, rfl, q _ _ (I5.hok.fresh (Nat.le_refl _)) rfl rfl⟩
  exact ⟨Heap.get?_push_size _ rfl, by rw [List.length_reverse]; omega, _, Vals.rev r, IsTup.new _ _⟩
def tTupRgN (te : L2.St → Hp → (Int → Int → Hp → Prop) → Prop) : TE := fun σ H Q => te σ H fun a b H1 => RgOk a b ∧ ∀ q o, H1 q = none → o.cls = .type "tuple" → o.dict = none → Q (.ref q) (upd H1 q (.frz o (.tup (rgV a b))))
theorem pe_tupRgN {X : Cx} {e : Expr} {te : L2.St → Hp → (Int → Int → Hp → Prop) → Prop} {p pos : Pos} (hc : X.calm = true) (hg : Gl X "tuple") (hm : X.mg "tuple" = none) (he : PRg X e te) (na : starEach [e] X.env = (false, eval e X.env) :: starEach [] X.env := by rfl) : PE X (.Call (.Name "tuple" p) [e] [] pos) (tTupRgN te) := by
  refine ⟨fun pins s σ H Q I h => Call_ (ld_blt I hg hm boot_tuple (PyProof.Rows.callWith_type1 (args_cons (thn (he pins s σ H _ I h) fun x s1 ⟨r, a, b, t, u, v, H1, ex, hr, I1, ok, q⟩ => args_nil ?_) na) na))⟩
  subst ex
  obtain ⟨b1, b2, b3, b4, b5⟩ := ok
  refine call_tuple_range (n := (b - a).toNat) (I1.ok.hd hc) hr (small_one b1 b2 b3 b4) (rangeSize_nat a b) b5 fun g tk acc hk hi => ?_
  have J : Inv X pins σ H1 { s1 with heap := g, toks := tk } := I1.kept hk
  have hl : (rgV a b).length ≤ sizeLine := by rw [rgV_length, sizeLine_eq]; omega
  refine ⟨.ref g.objs.size, upd H1 g.objs.size (.frz { cls := .type "tuple", data := .seq acc } (.tup (rgV a b))), J.laid (t' := tk) (fun c o e => Heap.get?_push_of_some _ e) (Nat.le_refl _) ⟨Heap.get?_push_size _ rfl, hl, acc.toList, vals_rg hi, ?_⟩, rfl, q _ _ (J.hok.fresh (Nat.le_refl _)) rfl rfl⟩
  rw [Array.toArray_toList]
  exact IsTup.new _ _
end LZ
namespace L3
open PySem PySem.Spec PyProof.Rows L2
section
variable {X : Cx} {C : C3} {E : XK} {e a : Expr} {m : MEt} {k : Nat} {p p1 p2 p3 q pos : Pos}
def mRevT (m : MEt) : MEt := fun env Kd KX => m env (fun d => match d with | .tup xs => Kd (.tup xs.reverse) | _ => False) KX
theorem me_revT (hK : X.K = C.K) (he : ME X C E e m) : ME X C E (.Subscript e (.Slice none none (some (.UnaryOp .USub (.Constant (.int 1) k p1) p2)) p3) pos) (mRevT m) := PE.imp (LZ.pe_revT he) fun σ H Q ⟨env, G, Kd, KX, ok, vr, hm, pv, px⟩ => by
  refine ⟨env, G, _, KX, ok, vr, hm, fun d v H1 G1 s1 ok1 r1 k1 => ?_, px⟩
  cases r1 <;> first | exact (show False from k1).elim | skip
  rename_i h1 r1
  refine ⟨_, _, rfl, by rw [hK]; exact seqT (fun u o e => (ok1.sub u o e).2) h1.sq, fun p o hn c1 c2 => ?_⟩
  obtain ⟨o2, s2⟩ := ok1.lay (o := .frz o (.tup _)) hn
  exact pv _ _ _ _ (s1.trans o2 s2) o2 (.tup (.inl ⟨o, upd_same, c1, c2⟩) ((r1.mono s2.ge).reverse)) k1
def mTupRange (m : MEt) : MEt := fun env Kd KX => m env (fun d => match d with | .int j => 0 ≤ j ∧ j ≤ 1000 ∧ Kd (.tup ((List.range j.toNat).map fun i => .int (i : Nat))) | _ => False) KX
theorem me_tupRange (F : Free X.mg) (hc : X.calm = true) (hg : Gl X "tuple") (hg2 : Gl X "range") (ha : ME X C E a m) (na : starEach [.Call (.Name "range" p2) [a] [] q] X.env = (false, eval (.Call (.Name "range" p2) [a] [] q) X.env) :: starEach [] X.env := by rfl) (na2 : starEach [a] X.env = (false, eval a X.env) :: starEach [] X.env := by rfl) :
    ME X C E (.Call (.Name "tuple" p) [.Call (.Name "range" p2) [a] [] q] [] pos) (mTupRange m) := PE.imp (LZ.pe_tupRgN hc hg F.tuple (prg_1 hg2 F.range ha na2) na) fun σ H Q ⟨env, G, Kd, KX, ok, vr, hm, pv, px⟩ => by
  refine ⟨env, G, _, KX, ok, vr, hm, fun d v H1 G1 s1 ok1 r1 k1 => ?_, px⟩
  obtain ⟨j, rfl, rfl⟩ : ∃ j, d = .int j ∧ v = .int j := by cases r1 <;> first | exact (show False from k1).elim | exact ⟨_, rfl, rfl⟩
  obtain ⟨h0, h1, k1⟩ := k1
  refine ⟨j, rfl, RgOk.of_le (by decide) (by omega) (by decide) h0, fun l o hl c1 c2 => ?_⟩
  obtain ⟨o2, s2⟩ := ok1.lay (o := .frz o (.tup (rgV 0 j))) hl
  refine pv _ _ _ _ (s1.trans o2 s2) o2 (.tup (.inl ⟨o, upd_same, c1, c2⟩) ?_) k1
  have e1 : rgV 0 j = ((List.range j.toNat).map fun i : Nat => ((i : Nat) : Int)).map V.int := by
    unfold rgV
    rw [List.map_map, Int.sub_zero]
    apply List.map_congr_left
    intro i _
    show V.int (0 + (i : Int)) = V.int (i : Int)
    rw [Int.zero_add]
  have e2 : ((List.range j.toNat).map fun i => D.int (i : Nat)) = ((List.range j.toNat).map fun i : Nat => ((i : Nat) : Int)).map D.int := by rw [List.map_map]; rfl
  rw [e1, e2]
  exact Rps.ofInts _
end
section
variable {X : Cx} {C : C3} {E : XK} {fr : Bool} {B : Hp} {sts : List Stmt}
/-- statements that are never met -/
theorem mss_never : ∀ sts : List Stmt, MSs X C E fr B sts mNever
  | [] => fun G0 => PSs.imp pss_nil fun En σ H ⟨env, G, Ks, er, hm, f⟩ => hm.elim
  | st :: r => fun G0 => PSs.imp (pss_cons ((ms_never (st := st) (C := C) (E := E) (fr := fr) (B := B)) G0) ((mss_never r) G0)) fun En σ H ⟨env, G, Ks, er, hm, f⟩ => hm.elim
end
end L3
set_option pp.maxSteps 400
/-! Q0: plain tools: comprehensions over numbers, lengths, sets -/
namespace L3
open PySem PySem.Spec PyProof.Rows L2
theorem get_set_self {env : EnvE} {i : Nat} {d : D} (hi : (env[i]?).isSome = true) : (env.set i (some d))[i]? = some (some d) := by
  rw [List.getElem?_set_self (by
    cases h : env[i]? with
    | none => rw [h] at hi; cases hi
    | some x => exact (List.getElem?_eq_some_iff.mp h).1)]
theorem lcD_filter {i : Nat} {tt : MTt} {env : EnvE} (g : Int → Bool) (hi : (env[i]?).isSome = true) : ∀ {ns : List Int} {ds : List D} {K : List D → Prop}, ds = ns.map D.int → (∀ x ∈ ns, ∀ Kb : Bool → Prop, Kb (g x) → tt (env.set i (some (.int x))) Kb (fun _ => False)) → K ((ns.filter g).map D.int) → lcD (.nm i) tt (mVar i) env ds K
  | [], _, K, rfl, _, k => k
  | x :: ns, _, K, rfl, h, k => by
    refine ⟨_, rfl, ?_⟩
    refine h x List.mem_cons_self _ ?_
    by_cases c : g x = true
    · rw [List.filter_cons_of_pos c] at k
      rw [if_pos c]
      show mVar i (env.set i (some (.int x))) _ _
      unfold mVar
      rw [get_set_self hi]
      exact lcD_filter g hi (K := fun r => K (.int x :: r)) rfl (fun y hy => h y (List.mem_cons_of_mem _ hy)) k
    · rw [List.filter_cons_of_neg c] at k
      rw [if_neg c]
      exact lcD_filter g hi (K := K) rfl (fun y hy => h y (List.mem_cons_of_mem _ hy)) k
theorem lcD_fmm {t : Tgt} {tt : MTt} {te : MEt} {env : EnvE} {α : Type} (f : α → D) (o : α → Option D) : ∀ {l : List α} {ds : List D} {K : List D → Prop}, ds = l.map f → (∀ a ∈ l, ∀ K : Option D → Prop, K (o a) → lcS t tt te env (f a) K) → K (l.filterMap o) → lcD t tt te env ds K
  | [], _, K, rfl, _, k => k
  | x :: l, _, K, rfl, h, k => by
    refine lcD_step (h x List.mem_cons_self _ ?_)
    rw [List.filterMap_cons] at k
    cases q : o x with
    | none =>
      rw [q] at k
      exact lcD_fmm f o rfl (fun b hb => h b (List.mem_cons_of_mem _ hb)) k
    | some y =>
      rw [q] at k
      exact lcD_fmm f o (K := fun r => K (y :: r)) rfl (fun b hb => h b (List.mem_cons_of_mem _ hb)) k
theorem lcD_map {t : Tgt} {te : MEt} {env : EnvE} {α : Type} (f : α → D) (o : α → D) {l : List α} {ds : List D} {K : List D → Prop} (e : ds = l.map f) (h : ∀ a ∈ l, ∃ bs, bindT t (f a) = some bs ∧ ∀ Kd : D → Prop, Kd (o a) → te (setE env bs) Kd (fun _ => False)) (k : K (l.map o)) : lcD t tYesM te env ds K := by
  refine lcD_fmm f (fun a => some (o a)) e (fun a ha K hK => ?_) (by rw [List.filterMap_eq_map']; exact k)
  obtain ⟨bs, hb, h⟩ := h a ha
  exact ⟨bs, hb, h _ hK⟩
/-- 0 .. n - 1 -/
def rgI (n : Nat) : List Int := (List.range n).map fun i : Nat => (i : Int)
theorem rg_eq (n : Nat) : ((List.range n).map fun i : Nat => D.int (i : Int)) = (rgI n).map D.int := by
  unfold rgI
  rw [List.map_map]
  rfl
theorem rgI_mem {n : Nat} {x : Int} : x ∈ rgI n ↔ 0 ≤ x ∧ x < n := by
  unfold rgI
  rw [List.mem_map]
  constructor
  · rintro ⟨i, hi, rfl⟩
    have := List.mem_range.mp hi
    omega
  · rintro ⟨h0, h1⟩
    exact ⟨x.toNat, List.mem_range.mpr (by omega), by omega⟩
theorem rgI_len (n : Nat) : (rgI n).length = n := by unfold rgI; rw [List.length_map, List.length_range]
theorem rgI_nodup (n : Nat) : (rgI n).Nodup := by
  unfold rgI List.Nodup
  rw [List.pairwise_map]
  exact List.nodup_range.imp fun h e => h (by omega)
theorem rgI_lt (n : Nat) : (rgI n).Pairwise (· < ·) := by
  unfold rgI
  rw [List.pairwise_map]
  exact List.pairwise_lt_range.imp fun h => by omega
theorem mRange_go {m : MEt} {j : Int} {n : Nat} {env : EnvE} {Kl : List D → Prop} {KX : Exn → Prop} (h : (n : Int) = j) (hn : n ≤ 1000000) (k : Kl ((rgI n).map D.int)) : rgD [.int j] Kl := by
  subst h
  refine ⟨by omega, by omega, ?_⟩
  rw [show ((n : Int)).toNat = n by omega, rg_eq]
  exact k
/-- len(set(xs)) == len(xs) -/
theorem fm_inj (val : Nat → Int) : ∀ n, (PyProof.Rows.firstMet val n).length = n → ((List.range n).map val).Nodup
  | 0, _ => List.nodup_nil
  | n + 1, h => by
    rw [PyProof.Rows.firstMet_succ] at h
    have hle := PyProof.Rows.firstMet_length_le val n
    have ha := PyProof.Rows.firstMet_any val n (val n)
    unfold PyProof.Rows.step_dedup at h
    split at h
    · omega
    · rename_i c
      rw [List.length_append] at h
      have h2 : (PyProof.Rows.firstMet val n).length = n := by simp at h; exact h
      rw [List.range_succ, List.map_append, List.nodup_append]
      refine ⟨fm_inj val n h2, by simp, fun x hx y hy e => ?_⟩
      rw [List.map_singleton, List.mem_singleton] at hy
      subst hy
      subst e
      rw [ha] at c
      exact c (List.any_eq_true.mpr ⟨_, hx, beq_self_eq_true _⟩)
theorem getD_range (ns : List Int) : (List.range ns.length).map (fun i => ns.getD i 0) = ns := by
  apply List.ext_getElem
  · rw [List.length_map, List.length_range]
  · intro i h1 h2
    rw [List.getElem_map, List.getElem_range, List.getD_eq_getElem?_getD, List.getElem?_eq_getElem h2]
    rfl
theorem dlen_eq {ns : List Int} (h : dlen ns = ns.length) : ns.Nodup := by
  have := fm_inj (fun i => ns.getD i 0) ns.length h
  rwa [getD_range] at this
theorem dlen_dec (ns : List Int) : decide (((dlen ns : Nat) : Int) = ((ns.length : Nat) : Int)) = decide ns.Nodup := by
  by_cases c : ns.Nodup
  · rw [dlen_nodup c, decide_eq_true rfl, decide_eq_true c]
  · rw [decide_eq_false c, decide_eq_false]
    intro e
    exact c (dlen_eq (by omega))
theorem lenSet_go {ns : List Int} {K : D → Prop} (h : ns.length ≤ 4000) (k : K (.int (dlen ns : Nat))) : (match intsOf (ns.map D.int) with | some ns => ns.length ≤ 4000 ∧ K (.int (dlen ns : Nat)) | none => False) := by
  rw [intsOf_ints]
  exact ⟨h, k⟩
end L3
/-! P1: the helpers of all laws: what they compute (plain) -/
namespace L3
open PySem PySem.Spec PyProof.Rows L2
theorem z1 : 1 ≤ sizeLine := by decide
theorem z2 : 2 ≤ sizeLine := by decide
theorem z3 : 3 ≤ sizeLine := by decide
theorem z4 : 4 ≤ sizeLine := by decide
theorem n9 {n : Int} (h0 : 0 < n) (h : n < 1606938044258990275541962092341162602522202993782792835301376) : n.natAbs < 2 ^ 9000 := by
  have h1 : n.natAbs < 2 ^ 200 := by
    rw [show (2 : Nat) ^ 200 = 1606938044258990275541962092341162602522202993782792835301376 by decide]
    omega
  exact Nat.lt_of_lt_of_le h1 (Nat.pow_le_pow_right (by decide) (by decide))
theorem dr {a : Addr} {n : Int} {Kd : D → Prop} {KX : Exn → Prop} (h0 : 0 < n) (h : n < 1606938044258990275541962092341162602522202993782792835301376) (k : ∀ i, 0 ≤ i → i < n → Kd (.int i)) : sp__law_drawn (some a) [.ref a, .int n] Kd KX := by
  unfold sp__law_drawn
  exact ⟨a, n, rfl, rfl, h0, n9 h0 h, k⟩
/-! ### _law_boxes -/
def sp__law_boxes : Spec := fun sa ds Kd _ => ∃ a, sa = some a ∧ ds = [.ref a] ∧ ∀ b : Int, 1 ≤ b → b ≤ 10 → Kd (.int b)
abbrev N__law_boxes : List Str := ["_law_state"]
abbrev ps__law_boxes : List Str := ["_law_state"]
def m__law_boxes (sa : Option Addr) : MSt :=
  (mRet (m2 ixD (mLst (aCons (m2 addD (mC (.int 1)) (mCallU sa sp__law_drawn (aCons (mVar 0) (aCons (mC (.int 4)) aNil)))) (aCons (m2 addD (mC (.int 2)) (mCallU sa sp__law_drawn (aCons (mVar 0) (aCons (mC (.int 5)) aNil)))) (aCons (m2 addD (mC (.int 1)) (mCallU sa sp__law_drawn (aCons (mVar 0) (aCons (mC (.int 10)) aNil)))) aNil)))) (mCallU sa sp__law_drawn (aCons (mVar 0) (aCons (mC (.int 3)) aNil)))))
theorem pu__law_boxes (sa : Option Addr) (ds : List D) (Kd : D → Prop) (KX : Exn → Prop) (hl : ds.length = 1) (h : sp__law_boxes sa ds Kd KX) : m__law_boxes sa (startS N__law_boxes.length ds) { nx := fun _ => false = false ∧ Kd .non, rt := Kd, ex := KX } := by
  obtain ⟨a, rfl, rfl, k⟩ := h
  refine dr (by decide) (by decide) fun x x0 x1 => dr (by decide) (by decide) fun y y0 y1 => dr (by decide) (by decide) fun z z0 z1 => ⟨z3, dr (by decide) (by decide) fun i i0 i1 => ?_⟩
  have hi : i = 0 ∨ i = 1 ∨ i = 2 := by omega
  rcases hi with rfl | rfl | rfl
  · exact ixD_lst rfl (k _ (by omega) (by omega))
  · exact ixD_lst rfl (k _ (by omega) (by omega))
  · exact ixD_lst rfl (k _ (by omega) (by omega))
/-! ### _law_order -/
def sp__law_order : Spec := fun sa ds Kd _ => ∃ a xs, sa = some a ∧ ds = [.ref a, .lst xs] ∧ (∀ d ∈ xs, Dk 5 d) ∧ xs.length ≤ 1000 ∧ ∀ ys : List D, ys.Perm xs → Kd (.lst ys)
abbrev N__law_order : List Str := ["_law_state", "_law_some", "_law_left", "_law_found"]
abbrev ps__law_order : List Str := ["_law_state", "_law_some"]
def m__law_order (sa : Option Addr) : MSt :=
  (mSeq (mSetF 2 (mCall listD (aCons (mVar 1) aNil)))
  (mSeq (mSetF 3 (mLst aNil))
  (mSeq (mWhile (mB (m2 (eqE true) (mVar 2) (mLst aNil))) (mAppPop 3 2 (mCallU sa sp__law_drawn (aCons (mVar 0) (aCons (mCall lenD (aCons (mVar 2) aNil)) aNil)))))
  (mRet (mVar 3)))))
theorem erase_perm {α : Type} : ∀ (l : List α) (i : Nat) (y : α), l[i]? = some y → (y :: l.eraseIdx i).Perm l
  | [], _, _, h => by simp at h
  | x :: l, 0, y, h => by cases h; exact List.Perm.refl _
  | x :: l, i + 1, y, h => (List.Perm.swap x y _).trans ((erase_perm l i y h).cons x)
theorem pu__law_order (sa : Option Addr) (ds : List D) (Kd : D → Prop) (KX : Exn → Prop) (hl : ds.length = 2) (h : sp__law_order sa ds Kd KX) : m__law_order sa (startS N__law_order.length ds) { nx := fun _ => false = false ∧ Kd .non, rt := Kd, ex := KX } := by
  obtain ⟨a, xs, rfl, rfl, hd, hx, k⟩ := h
  refine fun p => ⟨Nat.zero_le _, fun q => ⟨xs.length + 1, ?_⟩⟩
  have go : ∀ (m : Nat) (left found : List D), left.length = m → (found ++ left).Perm xs → whileD (mB (m2 (eqE true) (mVar 2) (mLst aNil))) (mAppPop 3 2 (mCallU (some a) sp__law_drawn (aCons (mVar 0) (aCons (mCall lenD (aCons (mVar 2) aNil)) aNil))))
      { nx := fun env' => mRet (mVar 3) env' { nx := fun _ => false = false ∧ Kd .non, rt := Kd, ex := KX }, rt := Kd, ex := KX } (m + 1) [some (.sh (.ref a)), some (.sh (.lst xs)), some (.own p (.lst left)), some (.own q (.lst found))] := by
    intro m
    induction m with
    | zero =>
      intro left found hm hp
      have e := List.eq_nil_of_length_eq_zero hm
      subst e
      refine ⟨Nat.zero_le _, eqE_nil (n := 1) (.lst _ _ (by simp)) (by decide) ?_⟩
      exact k _ (by rw [List.append_nil] at hp; exact hp)
    | succ m ih =>
      intro left found hm hp
      have hsub : ∀ d ∈ left, Dk 5 d := fun d hd' => hd d (hp.mem_iff.mp (List.mem_append_right _ hd'))
      have hlen : found.length + left.length = xs.length := by rw [← hp.length_eq, List.length_append]
      refine ⟨Nat.zero_le _, eqE_nil (n := 6) (.lst _ _ hsub) (by decide) ?_⟩
      have ne : left.isEmpty = false := by cases left with | nil => simp at hm | cons _ _ => rfl
      rw [ne]
      refine dr (by omega) (by omega) fun i i0 i1 => ⟨i0, sz_lt (by omega), by omega, ?_⟩
      have hi : i.toNat < left.length := by omega
      rw [List.getElem?_eq_getElem hi]
      have hy := erase_perm left i.toNat left[i.toNat] (List.getElem?_eq_getElem hi)
      refine ih (left.eraseIdx i.toNat) (found ++ [left[i.toNat]]) (by rw [List.length_eraseIdx_of_lt hi]; omega) ?_
      rw [List.append_assoc]
      exact (List.Perm.append_left found hy).trans hp
  exact go xs.length xs [] rfl (List.Perm.refl _)
/-! ### leads -/
structure Lead (b : Int) (l : List (Int × Int)) : Prop where
  nd : (l.map (·.1)).Nodup
  bd : ∀ p ∈ l, 0 ≤ p.1 ∧ p.1 < b ∧ 0 ≤ p.2 ∧ p.2 < b
abbrev pD (p : Int × Int) : D := .tup [.int p.1, .int p.2]
abbrev leadD (l : List (Int × Int)) : D := .lst (l.map pD)
def kvD (l : List (Int × Int)) : List (Int × D) := l.map fun p => (p.1, D.int p.2)
def look (l : List (Int × Int)) (k : Int) : Option Int := (l.find? fun p => decide (p.1 = k)).map (·.2)
theorem Lead.len {b : Int} {l : List (Int × Int)} (h : Lead b l) (hb : 0 ≤ b) : (l.length : Int) ≤ b := by
  have := nodup_lenI hb h.nd fun x hx => by
    obtain ⟨p, hp, rfl⟩ := List.mem_map.mp hx
    have := h.bd p hp
    exact ⟨this.1, this.2.1⟩
  rwa [List.length_map] at this
theorem valD_kv (k : Int) : ∀ l : List (Int × Int), valD (kvD l) k = (look l k).map D.int
  | [] => rfl
  | p :: l => by
    have ih := valD_kv k l
    unfold valD look kvD at *
    rw [List.map_cons, List.find?_cons, List.find?_cons]
    by_cases c : p.1 = k
    · simp [c]
    · simp only [c, decide_false]
      exact ih
theorem look_mem {l : List (Int × Int)} {k v : Int} (h : look l k = some v) : (k, v) ∈ l := by
  unfold look at h
  cases q : l.find? fun p => decide (p.1 = k) with
  | none => rw [q] at h; cases h
  | some p =>
    rw [q] at h
    cases h
    have h1 := List.mem_of_find?_eq_some q
    have h2 := of_decide_eq_true (List.find?_some (p := fun p : Int × Int => decide (p.1 = k)) q)
    rw [← h2]
    exact h1
theorem look_some {l : List (Int × Int)} {k : Int} (h : k ∈ l.map (·.1)) : ∃ v, look l k = some v := by
  unfold look
  cases q : l.find? fun p => decide (p.1 = k) with
  | none =>
    obtain ⟨p, hp, rfl⟩ := List.mem_map.mp h
    have := List.find?_eq_none.mp q p hp
    simp at this
  | some p => exact ⟨_, rfl⟩
theorem look_of {l : List (Int × Int)} (hn : (l.map (·.1)).Nodup) {k v : Int} (h : (k, v) ∈ l) : look l k = some v := by
  induction l with
  | nil => cases h
  | cons p l ih =>
    rw [List.map_cons, List.nodup_cons] at hn
    unfold look
    rw [List.find?_cons]
    rcases List.mem_cons.mp h with e | e
    · subst e
      simp
    · have ne : ¬ p.1 = k := fun e2 => hn.1 (List.mem_map.mpr ⟨(k, v), e, e2.symm⟩)
      rw [decide_eq_false ne]
      exact ih hn.2 e
theorem look_none {l : List (Int × Int)} {k : Int} (h : look l k = none) : k ∉ l.map (·.1) := fun hm => by
  obtain ⟨v, hv⟩ := look_some hm
  rw [hv] at h
  cases h
theorem keys_kv (l : List (Int × Int)) : (kvD l).map (·.1) = l.map (·.1) := by
  unfold kvD
  rw [List.map_map]
  rfl
def put (l : List (Int × Int)) (k v : Int) : List (Int × Int) := if l.any (fun p => decide (p.1 = k)) then l.map (fun p => if p.1 = k then (p.1, v) else p) else l ++ [(k, v)]
theorem putD_kv (l : List (Int × Int)) (k v : Int) : putD (kvD l) k (.int v) = kvD (put l k v) := by
  unfold putD put kvD
  rw [List.any_map]
  have e : ((fun p : Int × D => decide (p.1 = k)) ∘ fun p : Int × Int => (p.1, D.int p.2)) = fun p : Int × Int => decide (p.1 = k) := rfl
  rw [e]
  split
  · rw [List.map_map, List.map_map]
    apply List.map_congr_left
    intro p _
    show (if p.1 = k then (p.1, D.int v) else (p.1, D.int p.2)) = _
    show _ = ((if p.1 = k then (p.1, v) else p).1, D.int (if p.1 = k then (p.1, v) else p).2)
    by_cases c : p.1 = k
    · rw [if_pos c, if_pos c]
    · rw [if_neg c, if_neg c]
  · rw [List.map_append]
    rfl
theorem put_keys (l : List (Int × Int)) (k v : Int) : (put l k v).map (·.1) = if l.any (fun p => decide (p.1 = k)) then l.map (·.1) else l.map (·.1) ++ [k] := by
  unfold put
  split
  · rw [List.map_map]
    apply List.map_congr_left
    intro p _
    show (if p.1 = k then (p.1, v) else p).1 = p.1
    split <;> rfl
  · rw [List.map_append]
    rfl
theorem Lead.put {b : Int} {l : List (Int × Int)} (h : Lead b l) {k v : Int} (hk : 0 ≤ k) (hk2 : k < b) (hv : 0 ≤ v) (hv2 : v < b) : Lead b (put l k v) := by
  refine ⟨?_, fun p hp => ?_⟩
  · rw [put_keys]
    split
    · exact h.nd
    · rename_i c
      rw [List.nodup_append]
      refine ⟨h.nd, by simp, fun x hx y hy e => ?_⟩
      rw [List.mem_singleton] at hy
      obtain ⟨p, hp, rfl⟩ := List.mem_map.mp hx
      exact c (List.any_eq_true.mpr ⟨p, hp, decide_eq_true (e.trans hy)⟩)
  · unfold L3.put at hp
    split at hp
    · obtain ⟨q, hq, rfl⟩ := List.mem_map.mp hp
      have := h.bd q hq
      split
      · exact ⟨this.1, this.2.1, hv, hv2⟩
      · exact this
    · rcases List.mem_append.mp hp with e | e
      · exact h.bd p e
      · rw [List.mem_singleton] at e
        subst e
        exact ⟨hk, hk2, hv, hv2⟩
theorem Lead.nil (b : Int) : Lead b [] := ⟨List.nodup_nil, by simp⟩
theorem perm_ints {ys : List D} {ns : List Int} (h : ys.Perm (ns.map D.int)) : ∃ ms : List Int, ys = ms.map D.int ∧ ms.Perm ns := by
  let f : D → Int := fun d => match d with | .int i => i | _ => 0
  refine ⟨ys.map f, ?_, ?_⟩
  · rw [List.map_map]
    have : ∀ y ∈ ys, (D.int ∘ f) y = y := fun y hy => by
      obtain ⟨i, _, rfl⟩ := List.mem_map.mp (h.mem_iff.mp hy)
      rfl
    rw [List.map_congr_left this]
    simp
  · have := h.map f
    rw [List.map_map] at this
    have e : (f ∘ D.int) = id := rfl
    rw [e, List.map_id] at this
    exact this
theorem cutD_map {α β : Type} (f : α → β) (xs : List α) (lo hi : Option Int) : cutD (xs.map f) lo hi = (cutD xs lo hi).map f := by
  unfold cutD
  rw [List.length_map, List.map_take, List.map_drop]
theorem cutD_mem {α : Type} {xs : List α} {lo hi : Option Int} {x : α} (h : x ∈ cutD xs lo hi) : x ∈ xs := List.mem_of_mem_drop (List.mem_of_mem_take h)
theorem cutD_len {α : Type} {xs : List α} {lo hi : Option Int} : (cutD xs lo hi).length ≤ xs.length := by
  unfold cutD
  rw [List.length_take, List.length_drop]
  omega
theorem Dk_ints (ns : List Int) (n : Nat) : ∀ d ∈ ns.map D.int, Dk n d := fun d hd => by
  obtain ⟨i, _, rfl⟩ := List.mem_map.mp hd
  exact .int _ i
theorem atI_prev {rs : List Int} {i : Nat} (hi : i < rs.length) : ∃ v, atI (rs.map D.int) ((i : Int) - 1) = some (.int v) ∧ v ∈ rs := by
  cases i with
  | zero =>
    have hne : rs ≠ [] := fun e => by rw [e] at hi; cases hi
    refine ⟨rs.getLast hne, ?_, List.getLast_mem hne⟩
    have e : rs.map D.int = rs.dropLast.map D.int ++ [D.int (rs.getLast hne)] := by
      rw [← List.map_singleton, ← List.map_append, List.dropLast_concat_getLast]
    rw [e]
    exact atI_last _ _
  | succ i =>
    have h : i < rs.length := by omega
    refine ⟨rs[i], ?_, List.getElem_mem h⟩
    rw [show ((i + 1 : Nat) : Int) - 1 = (i : Nat) by omega]
    exact atI_nat (by rw [List.getElem?_map, List.getElem?_eq_getElem h]; rfl)
def sp__law_lead : Spec := fun sa ds Kd _ => ∃ a b, sa = some a ∧ ds = [.ref a, .int b] ∧ 1 ≤ b ∧ b ≤ 10 ∧ ∀ l, Lead b l → Kd (leadD l)
abbrev N__law_lead : List Str := ["_law_state", "_law_boxes_here", "_law_known_here", "_law_often", "_law_box", "_law_around", "_law_cut", "_law_ring", "_law_k", "_law_goal"]
abbrev ps__law_lead : List Str := ["_law_state", "_law_boxes_here"]
def m__law_lead (sa : Option Addr) : MSt :=
  (mSeq (mSetD 2)
  (mSeq (mSet 3 (m2 addD (mC (.int 1)) (mCallU sa sp__law_drawn (aCons (mVar 0) (aCons (mC (.int 3)) aNil)))))
  (mSeq (mFor (.nm 4) (mRange (aCons (mVar 1) aNil)) (mIfS (mB (m2 (eqE false) (mCallU sa sp__law_drawn (aCons (mVar 0) (aCons (mVar 3) aNil))) (mC (.int 0)))) (mSetK 2 (mVar 4) (mCallU sa sp__law_drawn (aCons (mVar 0) (aCons (mVar 1) aNil)))) mNext))
  (mSeq (mIfS (mB (m2 (eqE false) (mCallU sa sp__law_drawn (aCons (mVar 0) (aCons (mC (.int 2)) aNil))) (mC (.int 1)))) (mSeq (mSet 5 (mCallU sa sp__law_order (aCons (mVar 0) (aCons (mListRange (mVar 1)) aNil))))
    (mSeq (mSet 5 (mSl slD (mVar 5) oNone (oSome (mCallU sa sp__law_drawn (aCons (mVar 0) (aCons (m2 addD (mVar 1) (mC (.int 1))) aNil))))))
    (mSeq (mIfS (mB (m2 (eqE false) (mCallU sa sp__law_drawn (aCons (mVar 0) (aCons (mC (.int 2)) aNil))) (mC (.int 1)))) (mSetD 2) mNext)
    (mSeq (mSet 6 (mCallU sa sp__law_drawn (aCons (mVar 0) (aCons (m2 addD (mCall lenD (aCons (mVar 5) aNil)) (mC (.int 1))) aNil))))
    (mFor (.nm 7) (mIter (mLst (aCons (mSl slD (mVar 5) oNone (oSome (mVar 6))) (aCons (mSl slD (mVar 5) (oSome (mVar 6)) oNone) aNil)))) (mFor (.nm 8) (mRange (aCons (mCall lenD (aCons (mVar 7) aNil)) aNil)) (mSetK 2 (m2 ixD (mVar 7) (mVar 8)) (m2 ixD (mVar 7) (m2 subD (mVar 8) (mC (.int 1))))))))))) mNext)
  (mFrzD 2 (mRet (mLc (.nm 9) [9] (mIter (mCallU sa sp__law_order (aCons (mVar 0) (aCons (mCall sortedD (aCons (mVar 2) aNil)) aNil)))) tYesM (mTup (aCons (mVar 9) (aCons (m2 getK (mVar 2) (mVar 9)) aNil))))))))))
theorem pu__law_lead (sa : Option Addr) (ds : List D) (Kd : D → Prop) (KX : Exn → Prop) (hl : ds.length = 2) (h : sp__law_lead sa ds Kd KX) : m__law_lead sa (startS N__law_lead.length ds) { nx := fun _ => false = false ∧ Kd .non, rt := Kd, ex := KX } := by
  obtain ⟨a, b, rfl, rfl, b1, b2, k⟩ := h
  -- what holds throughout
  let I : EnvS → Prop := fun env => ∃ p l o e4 e5 e6 e7 e8 e9, env = [some (.sh (.ref a)), some (.sh (.int b)), some (.own p (.dic (kvD l))), some (.sh (.int o)), e4, e5, e6, e7, e8, e9] ∧ Lead b l ∧ 1 ≤ o ∧ o ≤ 3
  refine fun p => dr (by decide) (by decide) fun o o0 o1 => ?_
  refine ⟨by omega, by omega, forD_all I ⟨p, [], 1 + o, _, _, _, _, _, _, rfl, .nil b, by omega, by omega⟩ ?_ ?_⟩
  · rintro d hd env nx ⟨p, l, o, e4, e5, e6, e7, e8, e9, rfl, hL, o0, o1⟩ hn
    obtain ⟨i, hi, rfl⟩ := List.mem_map.mp hd
    have hi := List.mem_range.mp hi
    refine ⟨_, rfl, dr (by omega) (by omega) fun x x0 x1 => ?_⟩
    refine eqE_int (ite2 (fun _ => ?_) (fun _ => ?_))
    · refine dr (by omega) (by omega) fun v v0 v1 => ⟨rfl, ?_, ?_⟩
      · have := hL.len (by omega)
        exact sz_lt (by unfold kvD; rw [List.length_map]; omega)
      · exact hn _ ⟨p, put l i v, o, _, _, _, _, _, _, by rw [putD_kv]; rfl, hL.put (by omega) (by omega) v0 v1, o0, o1⟩
    · exact hn _ ⟨p, l, o, _, _, _, _, _, _, rfl, hL, o0, o1⟩
  · intro env hI
    -- the last statement, from I
    have fin : ∀ env, I env → mFrzD 2 (mRet (mLc (.nm 9) [9] (mIter (mCallU (some a) sp__law_order (aCons (mVar 0) (aCons (mCall sortedD (aCons (mVar 2) aNil)) aNil)))) tYesM (mTup (aCons (mVar 9) (aCons (m2 getK (mVar 2) (mVar 9)) aNil))))) env { nx := fun _ => false = false ∧ Kd .non, rt := Kd, ex := KX } := by
      rintro env ⟨p, l, o, e4, e5, e6, e7, e8, e9, rfl, hL, o0, o1⟩
      have hlen := hL.len (by omega)
      refine sortedD_dic ?_
      refine ⟨a, _, rfl, rfl, Dk_ints _ 5, ?_, fun ys hy => ?_⟩
      · rw [List.length_map, (sortI_perm _).length_eq, List.length_map]
        unfold kvD
        rw [List.length_map]
        omega
      · obtain ⟨ms, rfl, hm⟩ := perm_ints hy
        have hm := hm.trans (sortI_perm _)
        rw [keys_kv] at hm
        refine ⟨by rw [List.length_map, hm.length_eq, List.length_map]; omega, ?_⟩
        refine lcD_fm (fun d => match d with | .int g => some (pD (g, (look l g).getD 0)) | _ => none) (fun d hd K hK => ?_) ?_
        · obtain ⟨g, hg, rfl⟩ := List.mem_map.mp hd
          obtain ⟨v, hv⟩ := look_some (hm.mem_iff.mp hg)
          refine ⟨_, rfl, ?_⟩
          refine getK_of (d := .int v) (by rw [valD_kv, hv]; rfl) ⟨z2, ?_⟩
          have hK : K (some (pD (g, (look l g).getD 0))) := hK
          rw [hv] at hK
          exact hK
        · rw [fm_map D.int _ (fun g => some (g, (look l g).getD 0)) pD ms (fun g _ => rfl)]
          have e : (ms.filterMap fun g => some (g, (look l g).getD 0)) = ms.map fun g => (g, (look l g).getD 0) := by rw [List.filterMap_eq_map']
          rw [e]
          refine k _ ⟨?_, fun q hq => ?_⟩
          · rw [List.map_map]
            have e : ((fun p : Int × Int => p.1) ∘ fun g => (g, (look l g).getD 0)) = id := rfl
            rw [e, List.map_id]
            exact hm.nodup_iff.mpr hL.nd
          · obtain ⟨g, hg, rfl⟩ := List.mem_map.mp hq
            obtain ⟨v, hv⟩ := look_some (hm.mem_iff.mp hg)
            have := hL.bd _ (look_mem hv)
            rw [hv]
            exact this
    obtain ⟨p, l, o, e4, e5, e6, e7, e8, e9, rfl, hL, o0, o1⟩ := hI
    refine dr (by decide) (by decide) fun x x0 x1 => ?_
    refine eqE_int (ite2 (fun _ => ?_) (fun _ => ?_))
    · refine ⟨by omega, by omega, a, _, rfl, rfl, fun d hd => ?_, by rw [List.length_map, List.length_range]; omega, fun ys hy => ?_⟩
      · obtain ⟨i, _, rfl⟩ := List.mem_map.mp hd
        exact .int _ _
      · have e : (List.range b.toNat).map (fun i => D.int (i : Nat)) = ((List.range b.toNat).map fun i : Nat => (i : Int)).map D.int := by rw [List.map_map]; rfl
        rw [e] at hy
        obtain ⟨ms, rfl, hm⟩ := perm_ints hy
        have hb : ∀ x ∈ ms, 0 ≤ x ∧ x < b := fun x hx => by
          obtain ⟨i, hi, rfl⟩ := List.mem_map.mp (hm.mem_iff.mp hx)
          have hi := List.mem_range.mp hi
          omega
        have hml : ms.length ≤ 10 := by rw [hm.length_eq, List.length_map, List.length_range]; omega
        refine dr (by omega) (by omega) fun c c0 c1 => ?_
        have rest : ∀ (p : Addr) (l : List (Int × Int)), Lead b l → mSeq (mSet 6 (mCallU (some a) sp__law_drawn (aCons (mVar 0) (aCons (m2 addD (mCall lenD (aCons (mVar 5) aNil)) (mC (.int 1))) aNil))))
            (mFor (.nm 7) (mIter (mLst (aCons (mSl slD (mVar 5) oNone (oSome (mVar 6))) (aCons (mSl slD (mVar 5) (oSome (mVar 6)) oNone) aNil)))) (mFor (.nm 8) (mRange (aCons (mCall lenD (aCons (mVar 7) aNil)) aNil)) (mSetK 2 (m2 ixD (mVar 7) (mVar 8)) (m2 ixD (mVar 7) (m2 subD (mVar 8) (mC (.int 1))))))) [some (.sh (.ref a)), some (.sh (.int b)), some (.own p (.dic (kvD l))), some (.sh (.int o)), e4, some (.sh (.lst (cutD (ms.map D.int) none (some c)))), e6, e7, e8, e9]
            { nx := fun env' => mFrzD 2 (mRet (mLc (.nm 9) [9] (mIter (mCallU (some a) sp__law_order (aCons (mVar 0) (aCons (mCall sortedD (aCons (mVar 2) aNil)) aNil)))) tYesM (mTup (aCons (mVar 9) (aCons (m2 getK (mVar 2) (mVar 9)) aNil))))) env' { nx := fun _ => false = false ∧ Kd .non, rt := Kd, ex := KX }, rt := Kd, ex := KX } := by
          intro p l hL
          have hcl : (cutD (ms.map D.int) none (some c)).length ≤ 10 := Nat.le_trans cutD_len (by rw [List.length_map]; exact hml)
          refine dr (by omega) (by omega) fun z z0 z1 => ⟨z2, ?_⟩
          refine forD_all I ⟨p, l, o, _, _, _, _, _, _, rfl, hL, o0, o1⟩ ?_ fun env hI => fin env hI
          rintro d hd env nx ⟨p, l, o, e4, e5, e6, e7, e8, e9, rfl, hL, o0, o1⟩ hn
          obtain ⟨rs, rfl, hrs, hrl⟩ : ∃ rs : List Int, d = .lst (rs.map D.int) ∧ (∀ x ∈ rs, 0 ≤ x ∧ x < b) ∧ rs.length ≤ 10 := by
            have hd : d = .lst (cutD (cutD (ms.map D.int) none (some c)) none (some z)) ∨ d = .lst (cutD (cutD (ms.map D.int) none (some c)) (some z) none) := by simpa using hd
            rcases hd with rfl | rfl
            · exact ⟨cutD (cutD ms none (some c)) none (some z), by rw [cutD_map, cutD_map], fun x hx => hb x (cutD_mem (cutD_mem hx)), Nat.le_trans cutD_len (Nat.le_trans cutD_len hml)⟩
            · exact ⟨cutD (cutD ms none (some c)) (some z) none, by rw [cutD_map, cutD_map], fun x hx => hb x (cutD_mem (cutD_mem hx)), Nat.le_trans cutD_len (Nat.le_trans cutD_len hml)⟩
          refine ⟨_, rfl, ?_⟩
          by_cases hr : rs.length ≤ 10
          · refine ⟨by rw [List.length_map]; omega, by rw [List.length_map]; omega, forD_all (fun env => ∃ p l e8 e9, env = [some (.sh (.ref a)), some (.sh (.int b)), some (.own p (.dic (kvD l))), some (.sh (.int o)), e4, e5, e6, some (.sh (.lst (rs.map D.int))), e8, e9] ∧ Lead b l) ⟨p, l, _, _, rfl, hL⟩ ?_ ?_⟩
            · rintro d hd env nx2 ⟨p, l, e8, e9, rfl, hL⟩ hn2
              obtain ⟨i, hi, rfl⟩ := List.mem_map.mp hd
              have hi := List.mem_range.mp hi
              rw [List.length_map] at hi
              have hi : i < rs.length := by omega
              obtain ⟨v, hv, hvm⟩ : ∃ v, atI (rs.map D.int) ((i : Int) - 1) = some (.int v) ∧ v ∈ rs := atI_prev hi
              refine ⟨_, rfl, ?_⟩
              refine ixD_lst hv ?_
              refine ⟨rfl, ?_⟩
              refine ixD_lst (atI_nat (show (rs.map D.int)[i]? = some (.int rs[i]) by rw [List.getElem?_map, List.getElem?_eq_getElem hi]; rfl)) ?_
              refine ⟨?_, ?_⟩
              · have := hL.len (by omega)
                exact sz_lt (by unfold kvD; rw [List.length_map]; omega)
              · have h1 := hrs _ (List.getElem_mem hi)
                have h2 := hrs _ hvm
                exact hn2 _ ⟨p, put l rs[i] v, _, _, by rw [putD_kv]; rfl, hL.put h1.1 h1.2 h2.1 h2.2⟩
            · rintro env ⟨p, l, e8, e9, rfl, hL⟩
              exact hn _ ⟨p, l, o, _, _, _, _, _, _, rfl, hL, o0, o1⟩
          · exact absurd hrl hr
        refine dr (by decide) (by decide) fun y y0 y1 => ?_
        refine eqE_int (ite2 (fun _ => fun p => rest p [] (.nil b)) (fun _ => rest p l hL))
    · exact fin _ ⟨p, l, o, _, _, _, _, _, _, rfl, hL, o0, o1⟩
end L3
/-! P1b: comparing, asking for leads -/
namespace L3
open PySem PySem.Spec PyProof.Rows L2
theorem ifn {c : Prop} [Decidable c] {A B : Prop} (h : ¬c) (k : B) : if c then A else B := by rw [if_neg h]; exact k
theorem ifp {c : Prop} [Decidable c] {A B : Prop} (h : c) (k : A) : if c then A else B := by rw [if_pos h]; exact k
/-! ### _law_same: of one and the same -/
inductive Ds : Nat → D → Prop
  | non (n) : Ds n .non
  | bl (n b) : Ds n (.bl b)
  | int (n i) : Ds n (.int i)
  | str (n x) : PyData.strOk x = true → Ds n (.str x)
  | lst (n ds) : ds.length ≤ 100000 → (∀ d ∈ ds, Ds n d) → Ds (n + 1) (.lst ds)
  | tup (n ds) : ds.length ≤ 100000 → (∀ d ∈ ds, Ds n d) → Ds (n + 1) (.tup ds)
theorem Ds.dk {n : Nat} {d : D} (h : Ds n d) : Dk n d := by
  induction h with
  | non n => exact .non _
  | bl n b => exact .bl _ b
  | int n i => exact .int _ i
  | str n x h => exact .str _ x h
  | lst n ds _ h ih => exact .lst _ _ ih
  | tup n ds _ h ih => exact .tup _ _ ih
def sp__law_same (m : Nat) : Spec := fun _ ds Kd _ => m ≤ 20 ∧ ∃ d j, j + 1 = m ∧ ds = [d, d] ∧ Ds j d ∧ Kd (.bl true)
abbrev N__law_same : List Str := ["_law_found", "_law_due", "_law_k"]
abbrev ps__law_same : List Str := ["_law_found", "_law_due"]
def m__law_same (m : Nat) (sa : Option Addr) : MSt :=
  (mSeq (mIfS (mB (mIsI2 "tuple" "list" (mVar 1))) (mSeq (mIfS (mOr (mNot (mB (mIsI2 "tuple" "list" (mVar 0)))) (mB (m2 (eqE true) (mIsI "list" (mVar 0)) (mIsI "list" (mVar 1))))) (mRet (mC (.bl false))) mNext)
    (mSeq (mIfS (mB (m2 (eqE true) (mCall lenD (aCons (mVar 0) aNil)) (mCall lenD (aCons (mVar 1) aNil)))) (mRet (mC (.bl false))) mNext)
    (mRet (m2 (eqE false) (mLc (.nm 2) [2] (mRange (aCons (mCall lenD (aCons (mVar 1) aNil)) aNil)) (mNot (mB (mCallU sa (sp__law_same m) (aCons (m2 ixD (mVar 0) (mVar 2)) (aCons (m2 ixD (mVar 1) (mVar 2)) aNil))))) (mVar 2)) (mLst aNil))))) mNext)
  (mSeq (mIfS (mB (m2 (isND false) (mVar 1) (mC .non))) (mRet (m2 (isND false) (mVar 0) (mC .non))) mNext)
  (mSeq (mIfS (mB (mIsI "str" (mVar 1))) (mRet (mAndV (mIsI "str" (mVar 0)) (m2 (eqE false) (mVar 0) (mVar 1)))) mNext)
  (mSeq (mIfS (mOr (mB (mIsI "bool" (mVar 1))) (mB (mIsI "bool" (mVar 0)))) (mRet (mAndV (mIsI "bool" (mVar 1)) (mAndV (mIsI "bool" (mVar 0)) (m2 (eqE false) (mVar 0) (mVar 1))))) mNext)
  (mRet (mAndV (mIsI "int" (mVar 0)) (m2 (eqE false) (mVar 0) (mVar 1))))))))
theorem ty_lst_t (xs : List D) : isTy "tuple" (.lst xs) = some false := by rfl
theorem ty_lst_l (xs : List D) : isTy "list" (.lst xs) = some true := by rfl
theorem ty_tup_t (xs : List D) : isTy "tuple" (.tup xs) = some true := by rfl
theorem ty_tup_l (xs : List D) : isTy "list" (.tup xs) = some false := by rfl
theorem same_seq (m : Nat) (sa : Option Addr) (d : D) (xs : List D) (Kd : D → Prop) (KX : Exn → Prop) (ix : ∀ (i : Int) (e : D) (K : D → Prop), atI xs i = some e → K e → ixD d (.int i) K) (hn : xs.length ≤ 100000) (hm : m ≤ 20) (h : ∀ e ∈ xs, ∃ j, j + 1 = m ∧ Ds j e) (k : Kd (.bl true)) :
    lcD (.nm 2) (mNot (mB (mCallU sa (sp__law_same m) (aCons (m2 ixD (mVar 0) (mVar 2)) (aCons (m2 ixD (mVar 1) (mVar 2)) aNil))))) (mVar 2) [some d, some d, none] ((List.range xs.length).map fun i => D.int (i : Nat)) (fun r => ([] : List D).length ≤ sizeLine ∧ eqE false (.lst r) (.lst []) Kd) := by
  refine lcD_fm (fun _ => none) (fun e he K hK => ?_) ?_
  · obtain ⟨i, hi, rfl⟩ := List.mem_map.mp he
    have hi := List.mem_range.mp hi
    refine ⟨_, rfl, ?_⟩
    have hat : atI xs (i : Int) = some xs[i] := atI_nat (List.getElem?_eq_getElem hi)
    refine ix _ _ _ hat ?_
    refine ix _ _ _ hat ?_
    obtain ⟨j, hj, hd⟩ := h _ (List.getElem_mem hi)
    exact ⟨hm, _, j, hj, rfl, hd, hK⟩
  · have e : (((List.range xs.length).map fun i : Nat => D.int (i : Int)).filterMap fun _ => (none : Option D)) = [] := by
      induction ((List.range xs.length).map fun i : Nat => D.int (i : Int)) with
      | nil => rfl
      | cons a l ih => rw [List.filterMap_cons]; exact ih
    rw [e]
    exact ⟨Nat.zero_le _, eqE_nil (n := 1) (.lst _ _ (by simp)) (by decide) k⟩
theorem pu__law_same (m : Nat) (sa : Option Addr) (ds : List D) (Kd : D → Prop) (KX : Exn → Prop) (hl : ds.length = 2) (h : sp__law_same (m + 1) sa ds Kd KX) : m__law_same m sa (startS N__law_same.length ds) { nx := fun _ => false = false ∧ Kd .non, rt := Kd, ex := KX } := by
  obtain ⟨hm, d, j, hj, rfl, hd, k⟩ := h
  have ej : j = m := by omega
  subst ej
  cases hd with
  | non _ =>
    refine isi2D_go (b := false) (c := false) rfl rfl ?_
    exact ⟨rfl, ⟨rfl, k⟩⟩
  | bl _ b =>
    refine isi2D_go (b := false) (c := false) rfl rfl ?_
    refine ⟨rfl, isiD_go (b := false) rfl ?_⟩
    refine isiD_go (b := true) rfl ?_
    refine isiD_go (b := true) rfl ?_
    refine isiD_go (b := true) rfl ?_
    refine eqE_refl (n := 0) (.bl _ _) (by decide) k
  | int _ i =>
    refine isi2D_go (b := false) (c := false) rfl rfl ?_
    refine ⟨rfl, isiD_go (b := false) rfl ?_⟩
    refine isiD_go (b := false) rfl ?_
    refine isiD_go (b := false) rfl ?_
    refine isiD_go (b := true) rfl ?_
    refine eqE_refl (n := 0) (.int _ _) (by decide) k
  | str _ x hx =>
    refine isi2D_go (b := false) (c := false) rfl rfl ?_
    refine ⟨rfl, isiD_go (b := true) rfl ?_⟩
    refine isiD_go (b := true) rfl ?_
    refine eqE_refl (n := 0) (.str _ _ hx) (by decide) k
  | lst n xs hn hx =>
    refine isi2D_go (ty_lst_t _) (ty_lst_l _) ?_
    refine isi2D_go (ty_lst_t _) (ty_lst_l _) ?_
    refine isiD_go (ty_lst_l _) (isiD_go (ty_lst_l _) ?_)
    refine eqE_refl (n := 0) (.bl _ _) (by decide) ?_
    refine eqE_refl (n := 0) (.int _ _) (by decide) ?_
    refine ⟨by omega, by omega, by rw [List.length_map, List.length_range]; omega, ?_⟩
    exact same_seq _ sa (.lst xs) xs Kd KX (fun _ _ _ => ixD_lst) hn (by omega) (fun e he => ⟨n, rfl, hx e he⟩) k
  | tup n xs hn hx =>
    refine isi2D_go (ty_tup_t _) (ty_tup_l _) ?_
    refine isi2D_go (ty_tup_t _) (ty_tup_l _) ?_
    refine isiD_go (ty_tup_l _) (isiD_go (ty_tup_l _) ?_)
    refine eqE_refl (n := 0) (.bl _ _) (by decide) ?_
    refine eqE_refl (n := 0) (.int _ _) (by decide) ?_
    refine ⟨by omega, by omega, by rw [List.length_map, List.length_range]; omega, ?_⟩
    exact same_seq _ sa (.tup xs) xs Kd KX (fun _ _ _ => ixD_tup) hn (by omega) (fun e he => ⟨n, rfl, hx e he⟩) k
/-! ### _law_known, real_pairs -/
def kn (l : List (Int × Int)) : List (Int × Int) := l.filter fun p => !decide (p.1 = p.2)
theorem pairsOf_pD : ∀ l : List (Int × Int), pairsOf (l.map pD) = some (kvD l)
  | [] => rfl
  | p :: l => by
    show (pairsOf (l.map pD)).map _ = _
    rw [pairsOf_pD l]
    rfl
theorem merge_kv (l more : List (Int × Int)) (h : ((l ++ more).map (·.1)).Nodup) : mergeD (kvD l) (kvD more) = kvD (l ++ more) := by
  induction more generalizing l with
  | nil => rw [List.append_nil]; rfl
  | cons p more ih =>
    show mergeD (putD (kvD l) p.1 (.int p.2)) (kvD more) = _
    have e : put l p.1 p.2 = l ++ [p] := by
      unfold put
      rw [if_neg]
      intro c
      obtain ⟨q, hq, e⟩ := List.any_eq_true.mp c
      have e := of_decide_eq_true e
      rw [List.map_append, List.nodup_append] at h
      exact h.2.2 q.1 (List.mem_map.mpr ⟨q, hq, rfl⟩) p.1 (by simp) e
    rw [putD_kv, e, ih (l ++ [p]) (by rw [List.append_assoc]; exact h), List.append_assoc]
    rfl
theorem dict_lead {l : List (Int × Int)} {K : D → Prop} (h : (l.map (·.1)).Nodup) (k : K (.dic (kvD l))) : dictD [leadD l] K := by
  unfold dictD
  show (match pairsOf (l.map pD) with | some kvs => K (.dic (mergeD [] kvs)) | none => False)
  rw [pairsOf_pD]
  have e := merge_kv [] l h
  rw [List.nil_append] at e
  show K (.dic (mergeD (kvD []) (kvD l)))
  rw [e]
  exact k
theorem Lead.kn {b : Int} {l : List (Int × Int)} (h : Lead b l) : Lead b (kn l) := ⟨(List.filter_sublist.map _).nodup h.nd, fun p hp => h.bd p (List.mem_filter.mp hp).1⟩
theorem fm_kn (l : List (Int × Int)) : (l.filterMap fun p => if p.1 = p.2 then none else some p) = kn l := by
  induction l with
  | nil => rfl
  | cons p l ih =>
    unfold kn at ih ⊢
    rw [List.filterMap_cons, List.filter_cons]
    by_cases c : p.1 = p.2
    · simp only [c, if_true, decide_true, Bool.not_true, Bool.false_eq_true, if_false]
      exact ih
    · simp only [c, if_false, decide_false, Bool.not_false, if_true]
      rw [ih]
def sp__law_known : Spec := fun _ ds Kd _ => ∃ b l, ds = [leadD l] ∧ Lead b l ∧ 0 ≤ b ∧ b ≤ 10 ∧ Kd (.dic (kvD (kn l)))
abbrev N__law_known : List Str := ["_law_lead_here", "_law_pair"]
abbrev ps__law_known : List Str := ["_law_lead_here"]
def m__law_known (sa : Option Addr) : MSt :=
  (mRet (mCall dictD (aCons (mLc (.nm 1) [1] (mIter (mVar 0)) (mB (m2 (eqE true) (m2 ixD (mVar 1) (mC (.int 0))) (m2 ixD (mVar 1) (mC (.int 1))))) (mVar 1)) aNil)))
theorem pu__law_known (sa : Option Addr) (ds : List D) (Kd : D → Prop) (KX : Exn → Prop) (hl : ds.length = 1) (h : sp__law_known sa ds Kd KX) : m__law_known sa (startS N__law_known.length ds) { nx := fun _ => false = false ∧ Kd .non, rt := Kd, ex := KX } := by
  obtain ⟨b, l, rfl, hL, b0, b1, k⟩ := h
  have hlen := hL.len b0
  refine ⟨by rw [List.length_map]; omega, lcD_fm (fun d => match d with | .tup [.int g, .int s] => if g = s then none else some (pD (g, s)) | _ => none) (fun d hd K hK => ?_) ?_⟩
  · obtain ⟨p, hp, rfl⟩ := List.mem_map.mp hd
    refine ⟨_, rfl, ixD_tup (d := .int p.1) rfl (ixD_tup (d := .int p.2) rfl (eqE_int ?_))⟩
    have hK : K (if p.1 = p.2 then none else some (pD (p.1, p.2))) := hK
    by_cases c : p.1 = p.2
    · rw [if_pos c] at hK
      rw [decide_eq_true c]
      exact hK
    · rw [if_neg c] at hK
      rw [decide_eq_false c]
      exact hK
  · rw [fm_map pD _ (fun p => if p.1 = p.2 then none else some p) pD l (fun p _ => by show (if p.1 = p.2 then none else some (pD (p.1, p.2))) = _; split <;> rfl), fm_kn]
    exact dict_lead hL.kn.nd k
def sp_real_pairs : Spec := fun _ ds Kd _ => ∃ b l, ds = [leadD l] ∧ Lead b l ∧ 0 ≤ b ∧ b ≤ 10 ∧ Kd (.dic (kvD (kn l)))
abbrev N_real_pairs : List Str := ["lead", "goal", "source"]
abbrev ps_real_pairs : List Str := ["lead"]
def m_real_pairs (sa : Option Addr) : MSt :=
  (mRet (mCall dictD (aCons (mLc (.tp [1, 2]) [1, 2] (mIter (mVar 0)) (mB (m2 (eqE true) (mVar 1) (mVar 2))) (mTup (aCons (mVar 1) (aCons (mVar 2) aNil)))) aNil)))
theorem pu_real_pairs (sa : Option Addr) (ds : List D) (Kd : D → Prop) (KX : Exn → Prop) (hl : ds.length = 1) (h : sp_real_pairs sa ds Kd KX) : m_real_pairs sa (startS N_real_pairs.length ds) { nx := fun _ => false = false ∧ Kd .non, rt := Kd, ex := KX } := by
  obtain ⟨b, l, rfl, hL, b0, b1, k⟩ := h
  have hlen := hL.len b0
  refine ⟨by rw [List.length_map]; omega, lcD_fm (fun d => match d with | .tup [.int g, .int s] => if g = s then none else some (pD (g, s)) | _ => none) (fun d hd K hK => ?_) ?_⟩
  · obtain ⟨p, hp, rfl⟩ := List.mem_map.mp hd
    refine ⟨_, rfl, eqE_int ?_⟩
    have hK : K (if p.1 = p.2 then none else some (pD (p.1, p.2))) := hK
    by_cases c : p.1 = p.2
    · rw [if_pos c] at hK
      rw [decide_eq_true c]
      exact hK
    · rw [if_neg c] at hK
      rw [decide_eq_false c]
      exact ⟨z2, hK⟩
  · rw [fm_map pD _ (fun p => if p.1 = p.2 then none else some p) pD l (fun p _ => by show (if p.1 = p.2 then none else some (pD (p.1, p.2))) = _; split <;> rfl), fm_kn]
    exact dict_lead hL.kn.nd k
/-! ### is_box, need_boxes, need_lead -/
def sp_is_box : Spec := fun _ ds Kd _ => ∃ b x : Int, ds = [.int b, .int x] ∧ Kd (.bl (decide (0 ≤ x) && decide (x < b)))
abbrev N_is_box : List Str := ["boxes", "box"]
abbrev ps_is_box : List Str := ["boxes", "box"]
def m_is_box (sa : Option Addr) : MSt :=
  (mRet (m3 (ordD pLe) (ordD pLt) (mC (.int 0)) (mVar 1) (mVar 0)))
theorem pu_is_box (sa : Option Addr) (ds : List D) (Kd : D → Prop) (KX : Exn → Prop) (hl : ds.length = 2) (h : sp_is_box sa ds Kd KX) : m_is_box sa (startS N_is_box.length ds) { nx := fun _ => false = false ∧ Kd .non, rt := Kd, ex := KX } := by
  obtain ⟨b, x, rfl, k⟩ := h
  refine ite2 (fun c => ?_) (fun c => ?_)
  · rw [show decide (0 ≤ x) = true from c, Bool.true_and] at k
    exact k
  · rw [show decide (0 ≤ x) = false from Bool.eq_false_iff.mpr c, Bool.false_and] at k
    exact k
def sp_need_boxes : Spec := fun _ ds Kd _ => ∃ b : Int, ds = [.int b] ∧ 1 ≤ b ∧ b ≤ 10 ∧ Kd .non
abbrev N_need_boxes : List Str := ["boxes"]
abbrev ps_need_boxes : List Str := ["boxes"]
def m_need_boxes (sa : Option Addr) : MSt :=
  (mIfS (mNot (mB (m3 (ordD pLe) (ordD pLe) (mC (.int 1)) (mVar 0) (mC (.int 10))))) mNever mNext)
theorem pu_need_boxes (sa : Option Addr) (ds : List D) (Kd : D → Prop) (KX : Exn → Prop) (hl : ds.length = 1) (h : sp_need_boxes sa ds Kd KX) : m_need_boxes sa (startS N_need_boxes.length ds) { nx := fun _ => false = false ∧ Kd .non, rt := Kd, ex := KX } := by
  obtain ⟨b, rfl, b0, b1, k⟩ := h
  refine ite2 (fun _ => ?_) (fun c => absurd (decide_eq_true b0) c)
  refine ifn (by rw [show pLe b 10 = true from decide_eq_true b1]; decide) ?_
  exact ⟨rfl, k⟩
def sp_need_lead : Spec := fun _ ds Kd _ => ∃ b l, ds = [.int b, leadD l] ∧ Lead b l ∧ 1 ≤ b ∧ b ≤ 10 ∧ Kd .non
abbrev N_need_lead : List Str := ["boxes", "lead", "goals", "goal", "source", "pair"]
abbrev ps_need_lead : List Str := ["boxes", "lead"]
def m_need_lead (sa : Option Addr) : MSt :=
  (mSeq (mExpr (mCallU sa sp_need_boxes (aCons (mVar 0) aNil)))
  (mSeq (mSet 2 (mLc (.tp [3, 4]) [3, 4] (mIter (mVar 1)) tYesM (mVar 3)))
  (mSeq (mIfS (mB (m2 (eqE true) (mLenSet (mVar 2)) (mCall lenD (aCons (mVar 2) aNil)))) mNever mNext)
  (mIfS (mB (m2 (eqE true) (mLc (.nm 5) [5] (mIter (mVar 1)) (mOr (mNot (mB (mCallU sa sp_is_box (aCons (mVar 0) (aCons (m2 ixD (mVar 5) (mC (.int 0))) aNil))))) (mNot (mB (mCallU sa sp_is_box (aCons (mVar 0) (aCons (m2 ixD (mVar 5) (mC (.int 1))) aNil)))))) (mVar 5)) (mLst aNil))) mNever mNext))))
theorem fm_none {α β : Type} (l : List α) (g : α → Option β) (h : ∀ a ∈ l, g a = none) : l.filterMap g = [] := by
  induction l with
  | nil => rfl
  | cons a l ih => rw [List.filterMap_cons, h a List.mem_cons_self]; exact ih fun b hb => h b (List.mem_cons_of_mem _ hb)
theorem pu_need_lead (sa : Option Addr) (ds : List D) (Kd : D → Prop) (KX : Exn → Prop) (hl : ds.length = 2) (h : sp_need_lead sa ds Kd KX) : m_need_lead sa (startS N_need_lead.length ds) { nx := fun _ => false = false ∧ Kd .non, rt := Kd, ex := KX } := by
  obtain ⟨b, l, rfl, hL, b0, b1, k⟩ := h
  have hlen := hL.len (by omega)
  refine ⟨b, rfl, b0, b1, by rw [List.length_map]; omega, lcD_fm (fun d => match d with | .tup [.int g, .int s] => some (.int g) | _ => none) (fun d hd K hK => ?_) ?_⟩
  · obtain ⟨p, hp, rfl⟩ := List.mem_map.mp hd
    exact ⟨_, rfl, hK⟩
  · rw [fm_map pD _ (fun p => some p.1) D.int l (fun p _ => rfl), List.filterMap_eq_map']
    show (match intsOf ((l.map (·.1)).map D.int) with | some ns => _ | none => False)
    rw [intsOf_ints]
    refine ⟨by rw [List.length_map]; omega, ?_⟩
    rw [dlen_nodup hL.nd]
    refine eqE_int (i := ((l.map (·.1)).length : Nat)) (j := (((l.map (·.1)).map D.int).length : Nat)) ?_
    rw [List.length_map (f := D.int), decide_eq_true rfl]
    refine ⟨by rw [List.length_map]; omega, lcD_fm (fun d => none) (fun d hd K hK => ?_) ?_⟩
    · obtain ⟨p, hp, rfl⟩ := List.mem_map.mp hd
      have hb := hL.bd p hp
      refine ⟨_, rfl, ixD_tup (d := .int p.1) rfl ⟨b, p.1, rfl, ?_⟩⟩
      rw [decide_eq_true hb.1, decide_eq_true hb.2.1]
      refine ixD_tup (d := .int p.2) rfl ⟨b, p.2, rfl, ?_⟩
      rw [decide_eq_true hb.2.2.1, decide_eq_true hb.2.2.2]
      exact hK
    · rw [fm_none _ _ (fun _ _ => rfl)]
      exact ⟨Nat.zero_le _, eqE_nil (n := 1) (.lst _ _ (by simp)) (by decide) ⟨rfl, k⟩⟩
end L3
/-! M2: rings of a map, in plain Lean -/
namespace L3
open PySem PySem.Spec PyProof.Rows L2
open Classical
/-- a known: goals once each, all below 10, none its own source -/
structure Kn (l : List (Int × Int)) : Prop where
  L : Lead 10 l
  nf : ∀ p ∈ l, p.1 ≠ p.2
theorem Kn.of {b : Int} {l : List (Int × Int)} (h : Lead b l) (hb : b ≤ 10) : Kn (kn l) := ⟨⟨h.kn.nd, fun p hp => by have := h.kn.bd p hp; omega⟩, fun p hp => by
  have := (List.mem_filter.mp hp).2
  simpa using this⟩
theorem Kn.look {l : List (Int × Int)} (h : Kn l) {x y : Int} (e : look l x = some y) : 0 ≤ x ∧ x < 10 ∧ 0 ≤ y ∧ y < 10 ∧ x ≠ y := by
  have hm := look_mem e
  have := h.L.bd _ hm
  exact ⟨this.1, this.2.1, this.2.2.1, this.2.2.2, h.nf _ hm⟩
/-- from x by t to h -/
def Wo (l : List (Int × Int)) : Int → List Int → Option Int → Prop
  | x, [], h => look l x = h
  | x, z :: r, h => look l x = some z ∧ Wo l z r h
theorem Wo.snoc {l : List (Int × Int)} {z : Int} : ∀ {t : List Int} {x : Int}, Wo l x t (some z) → Wo l x (t ++ [z]) (look l z)
  | [], x, h => ⟨h, rfl⟩
  | y :: t, x, h => ⟨h.1, Wo.snoc h.2⟩
theorem Wo.mem {l : List (Int × Int)} (K : Kn l) : ∀ {t : List Int} {x : Int} {h : Option Int}, Wo l x t h → (∀ y ∈ t, 0 ≤ y ∧ y < 10) ∧ ∀ y, h = some y → 0 ≤ y ∧ y < 10
  | [], x, h, w => ⟨by simp, fun y e => by
    rw [← w] at e
    have := K.look e
    exact ⟨this.2.2.1, this.2.2.2.1⟩⟩
  | z :: t, x, h, w => by
    have ih := Wo.mem K w.2
    have := K.look w.1
    exact ⟨fun y hy => by
      rcases List.mem_cons.mp hy with e | e
      · rw [e]; exact ⟨this.2.2.1, this.2.2.2.1⟩
      · exact ih.1 y e, ih.2⟩
theorem Wo.cmp {l : List (Int × Int)} {b : Int} {h : Option Int} : ∀ {t : List Int} {x : Int} {q : List Int}, Wo l x t h → Wo l x q (some b) → b ∉ t → (t = q ∧ h = some b) ∨ ∃ z r, q = t ++ z :: r ∧ h = some z
  | [], x, [], w, w', _ => .inl ⟨rfl, by
    have w : look l x = h := w
    rw [← w]
    exact w'⟩
  | [], x, z :: r, w, w', _ => .inr ⟨z, r, rfl, by
    have w : look l x = h := w
    rw [← w]
    exact w'.1⟩
  | y :: t, x, [], w, w', hb => by
    have w' : look l x = some b := w'
    have e := w.1
    rw [w'] at e
    cases e
    exact absurd List.mem_cons_self hb
  | y :: t, x, z :: r, w, w', hb => by
    have e := w.1
    rw [w'.1] at e
    cases e
    rcases Wo.cmp w.2 w'.2 (fun hm => hb (List.mem_cons_of_mem _ hm)) with ⟨e1, e2⟩ | ⟨z', r', e1, e2⟩
    · exact .inl ⟨by rw [e1], e2⟩
    · exact .inr ⟨z', r', by rw [e1]; rfl, e2⟩
/-- b leads by q to itself, all of q above b -/
structure Cyc (l : List (Int × Int)) (b : Int) (q : List Int) : Prop where
  ne : q ≠ []
  gt : ∀ x ∈ q, b < x
  nd : q.Nodup
  w : Wo l b q (some b)
theorem Cyc.notin {l : List (Int × Int)} {b : Int} {q : List Int} (c : Cyc l b q) : b ∉ q := fun h => by
  have := c.gt b h
  omega
theorem Cyc.uniq {l : List (Int × Int)} {b : Int} {q q' : List Int} (c : Cyc l b q) (c' : Cyc l b q') : q = q' := by
  rcases Wo.cmp c.w c'.w c.notin with ⟨e, _⟩ | ⟨z, r, e, e2⟩
  · exact e
  · cases e2
    have := c'.notin
    rw [e] at this
    exact absurd (List.mem_append_right _ List.mem_cons_self) this
noncomputable def ringOf (l : List (Int × Int)) (b : Int) : Option (List Int) := if h : ∃ q, Cyc l b q then some (b :: (choose h).reverse) else none
theorem ringOf_some {l : List (Int × Int)} {b : Int} {q : List Int} (c : Cyc l b q) : ringOf l b = some (b :: q.reverse) := by
  unfold ringOf
  have h : ∃ q, Cyc l b q := ⟨q, c⟩
  rw [dif_pos h, (choose_spec h).uniq c]
theorem ringOf_none {l : List (Int × Int)} {b : Int} (c : ¬∃ q, Cyc l b q) : ringOf l b = none := by
  unfold ringOf
  rw [dif_neg c]
theorem ringOf_len {l : List (Int × Int)} (K : Kn l) {b : Int} {r : List Int} (h : ringOf l b = some r) : r.length ≤ 11 ∧ ∀ x ∈ r, x = b ∨ (0 ≤ x ∧ x < 10) := by
  by_cases c : ∃ q, Cyc l b q
  · obtain ⟨q, c⟩ := c
    rw [ringOf_some c] at h
    cases h
    have hm := (Wo.mem K c.w).1
    have := nodup_len (b := 10) c.nd hm
    refine ⟨by rw [List.length_cons, List.length_reverse]; omega, fun x hx => ?_⟩
    rcases List.mem_cons.mp hx with e | e
    · exact .inl e
    · exact .inr (hm x (List.mem_reverse.mp e))
  · rw [ringOf_none c] at h
    cases h
/-- what the loop of ring_from has found: the answer -/
theorem ring_answer {l : List (Int × Int)} (K : Kn l) {b : Int} {t : List Int} {h : Option Int} (w : Wo l b t h) (nd : (b :: t).Nodup) (st : ∀ y, h = some y → y ∈ b :: t) :
    ringOf l b = if h = some b ∧ minI b t = b then some (b :: t.reverse) else none := by
  rw [List.nodup_cons] at nd
  by_cases c : h = some b ∧ minI b t = b
  · rw [if_pos c]
    refine ringOf_some ⟨fun e => ?_, fun x hx => ?_, nd.2, by rw [← c.1]; exact w⟩
    · subst e
      have w : look l b = h := w
      rw [c.1] at w
      exact (K.look w).2.2.2.2 rfl
    · have h1 := (minI_le t b).2 x hx
      rw [c.2] at h1
      have h2 : x ≠ b := fun e => nd.1 (by rw [← e]; exact hx)
      omega
  · rw [if_neg c]
    refine ringOf_none fun ⟨q, cy⟩ => ?_
    rcases Wo.cmp w cy.w nd.1 with ⟨e1, e2⟩ | ⟨z, r, e1, e2⟩
    · subst e1
      refine c ⟨e2, ?_⟩
      have h1 := minI_mem t b
      have h2 := (minI_le t b).1
      rcases List.mem_cons.mp h1 with e | e
      · exact e
      · have := cy.gt _ e
        omega
    · have hz := st z e2
      have hq : z ∈ q := by rw [e1]; exact List.mem_append_right _ List.mem_cons_self
      have hb : z ≠ b := fun e => cy.notin (by rw [← e]; exact hq)
      rcases List.mem_cons.mp hz with e | e
      · exact hb e
      · have := cy.nd
        rw [e1, List.nodup_append] at this
        exact this.2.2 z e z List.mem_cons_self rfl
/-! ### from the other end -/
/-- u = last :: .. :: b, each the source's goal: look u[i] = u[i+1] -/
def Ch (l : List (Int × Int)) : List Int → Prop
  | [] => False
  | [_] => True
  | x :: y :: r => look l x = some y ∧ Ch l (y :: r)
structure Pth (l : List (Int × Int)) (b : Int) (u : List Int) : Prop where
  ex : ∃ v, u = v ++ [b] ∧ ∀ x ∈ v, b < x
  nd : u.Nodup
  ch : Ch l u
theorem Wo.ch {l : List (Int × Int)} {b : Int} : ∀ {q : List Int} {x : Int}, Wo l x q (some b) → Ch l (x :: q ++ [b])
  | [], x, w => ⟨w, trivial⟩
  | z :: r, x, w => ⟨w.1, Wo.ch w.2⟩
theorem Ch.wo {l : List (Int × Int)} {b : Int} : ∀ {q : List Int} {x : Int}, Ch l (x :: q ++ [b]) → Wo l x q (some b)
  | [], x, w => w.1
  | z :: r, x, w => ⟨w.1, Ch.wo w.2⟩
theorem Ch.suf {l : List (Int × Int)} {x y : Int} {r : List Int} : ∀ {v : List Int}, Ch l (v ++ x :: y :: r) → look l x = some y
  | [], h => h.1
  | [a], h => Ch.suf (v := []) h.2
  | a :: c :: v, h => Ch.suf (v := c :: v) h.2
def cq (l : List (Int × Int)) (b : Int) (u : List Int) : Prop := ∃ q, Cyc l b q ∧ ∃ v, q ++ [b] = v ++ u
theorem cq_ring {l : List (Int × Int)} {b : Int} {u : List Int} (h : cq l b u) : ∃ r, ringOf l b = some r := by
  obtain ⟨q, c, _⟩ := h
  exact ⟨_, ringOf_some c⟩
theorem cq_drop {l : List (Int × Int)} {b g : Int} {u : List Int} (h : cq l b (g :: u)) : cq l b u := by
  obtain ⟨q, c, v, e⟩ := h
  exact ⟨q, c, v ++ [g], by rw [e, List.append_assoc]; rfl⟩
/-- the path closes -/
theorem cq_shut {l : List (Int × Int)} {b x : Int} {r : List Int} (p : Pth l b (x :: r)) (hr : r ≠ []) (hl : look l b = some x) : ∃ q, Cyc l b q ∧ q ++ [b] = x :: r := by
  obtain ⟨v, e, hv⟩ := p.ex
  cases v with
  | nil =>
    cases e
    exact absurd rfl hr
  | cons y v =>
    cases e
    refine ⟨x :: v, ⟨by simp, hv, ?_, hl, ?_⟩, rfl⟩
    · have := p.nd
      have this : ((x :: v) ++ [b]).Nodup := this
      rw [List.nodup_append] at this
      exact this.1
    · exact Ch.wo p.ch
theorem shut_cq {l : List (Int × Int)} {b x : Int} {r q : List Int} (c : Cyc l b q) (e : q ++ [b] = x :: r) : r ≠ [] ∧ look l b = some x := by
  cases q with
  | nil => exact absurd rfl c.ne
  | cons y q =>
    cases e
    exact ⟨by simp, c.w.1⟩
/-- the next one back -/
theorem cq_next {l : List (Int × Int)} {b x g : Int} {r q v : List Int} (c : Cyc l b q) (e : q ++ [b] = v ++ g :: x :: r) : look l g = some x ∧ b < g ∧ g ∉ x :: r ∧ g ∈ l.map (·.1) := by
  have hch : Ch l (b :: q ++ [b]) := Wo.ch c.w
  have e2 : b :: q ++ [b] = (b :: v) ++ g :: x :: r := by rw [List.cons_append, e]; rfl
  rw [e2] at hch
  have h1 := Ch.suf hch
  -- g in q
  obtain ⟨s, hs⟩ : ∃ s, x :: r = s ++ [b] := by
    have : (x :: r).getLast? = some b := by
      have h := congrArg List.getLast? e
      rw [List.getLast?_append, List.getLast?_append] at h
      simpa using h.symm
    exact ⟨(x :: r).dropLast, by
      have h2 := List.dropLast_concat_getLast (List.cons_ne_nil x r)
      rw [List.getLast?_eq_getLast (List.cons_ne_nil x r)] at this
      rw [Option.some.inj this] at h2
      exact h2.symm⟩
  have eq : q = v ++ g :: s := by
    rw [hs] at e
    have : q ++ [b] = (v ++ g :: s) ++ [b] := by rw [e, List.append_assoc]; rfl
    exact List.append_cancel_right this
  have hg : g ∈ q := by rw [eq]; exact List.mem_append_right _ List.mem_cons_self
  refine ⟨h1, c.gt g hg, fun hm => ?_, List.mem_map.mpr ⟨_, look_mem h1, rfl⟩⟩
  rw [hs] at hm
  have hgb := c.gt g hg
  rcases List.mem_append.mp hm with h | h
  · have nd := c.nd
    rw [eq, List.nodup_append] at nd
    exact (List.nodup_cons.mp nd.2.1).1 h
  · rw [List.mem_singleton] at h
    omega
theorem cq_same {l : List (Int × Int)} {b g g' : Int} {u : List Int} (h : cq l b (g :: u)) (h' : cq l b (g' :: u)) : g = g' := by
  obtain ⟨q, c, v, e⟩ := h
  obtain ⟨q', c', v', e'⟩ := h'
  have := c.uniq c'
  subst this
  have e2 : (v ++ [g]) ++ u = (v' ++ [g']) ++ u := by
    rw [List.append_assoc, List.append_assoc]
    exact e.symm.trans e'
  have e3 := List.append_cancel_right e2
  have := congrArg List.getLast? e3
  simpa using this
theorem cq_not_both {l : List (Int × Int)} {b g : Int} {u q : List Int} (c : Cyc l b q) (e : q ++ [b] = u) (h : cq l b (g :: u)) : False := by
  obtain ⟨q', c', v, e'⟩ := h
  have := c.uniq c'
  subst this
  rw [e] at e'
  have := congrArg List.length e'
  rw [List.length_append, List.length_cons] at this
  omega
/-- the rings that go on from u -/
noncomputable def res (l : List (Int × Int)) (b : Int) (u : List Int) : List (List Int) := if cq l b u then (ringOf l b).toList else []
theorem res_of {l : List (Int × Int)} {b : Int} {q u : List Int} (c : Cyc l b q) (v : List Int) (e : q ++ [b] = v ++ u) : res l b u = [b :: q.reverse] := by
  unfold res
  rw [if_pos ⟨q, c, v, e⟩, ringOf_some c]
  rfl
theorem res_len {l : List (Int × Int)} {b : Int} {u : List Int} : (res l b u).length ≤ 1 := by
  unfold res
  split
  · cases ringOf l b <;> simp
  · simp
def okg (l : List (Int × Int)) (b x : Int) (u : List Int) (g : Int) : Prop := look l g = some x ∧ b < g ∧ g ∉ u
noncomputable def part2 (l : List (Int × Int)) (b x : Int) (r : List Int) (g : Int) : List (List Int) := if okg l b x (x :: r) g then res l b (g :: x :: r) else []
theorem flat_none {α β : Type} {ks : List α} {f : α → List β} (h : ∀ k ∈ ks, f k = []) : ks.flatMap f = [] := by
  induction ks with
  | nil => rfl
  | cons k ks ih => rw [List.flatMap_cons, h k List.mem_cons_self, ih fun j hj => h j (List.mem_cons_of_mem _ hj)]; rfl
theorem flat_one {α β : Type} [DecidableEq α] {ks : List α} {f : α → List β} {k0 : α} (nd : ks.Nodup) (h0 : k0 ∈ ks) (h : ∀ k ∈ ks, k ≠ k0 → f k = []) : ks.flatMap f = f k0 := by
  induction ks with
  | nil => cases h0
  | cons k ks ih =>
    rw [List.nodup_cons] at nd
    rw [List.flatMap_cons]
    rcases List.mem_cons.mp h0 with e | e
    · subst e
      rw [flat_none fun j hj => h j (List.mem_cons_of_mem _ hj) fun e => nd.1 (by rw [← e]; exact hj), List.append_nil]
    · rw [h k List.mem_cons_self (fun e2 => nd.1 (by rw [e2]; exact e)), ih nd.2 e fun j hj => h j (List.mem_cons_of_mem _ hj)]
      rfl
/-- one turn of _law_grown -/
theorem grown_step {l : List (Int × Int)} (K : Kn l) {b x : Int} {r : List Int} (p : Pth l b (x :: r)) {ks : List Int} (kp : ks.Perm (l.map (·.1))) :
    (if r ≠ [] ∧ look l b = some x then [(x :: r).reverse] else []) ++ ks.flatMap (part2 l b x r) = res l b (x :: r) := by
  have knd : ks.Nodup := kp.nodup_iff.mpr K.L.nd
  by_cases c1 : r ≠ [] ∧ look l b = some x
  · obtain ⟨q, c, e⟩ := cq_shut p c1.1 c1.2
    rw [if_pos c1, flat_none, List.append_nil, res_of c [] (by rw [e]; rfl), ← e, List.reverse_append]
    · rfl
    · intro g _
      unfold part2
      split
      · unfold res
        rw [if_neg fun h => cq_not_both c e h]
      · rfl
  · rw [if_neg c1, List.nil_append]
    by_cases c2 : cq l b (x :: r)
    · obtain ⟨q, c, v, e⟩ := c2
      rcases List.eq_nil_or_concat v with hv | ⟨v', g, hv⟩
      · subst hv
        exact absurd (shut_cq c e) c1
      · rw [hv, List.concat_eq_append, List.append_assoc] at e
        have e : q ++ [b] = v' ++ g :: x :: r := e
        obtain ⟨h1, h2, h3, h4⟩ := cq_next c e
        have hcg : cq l b (g :: x :: r) := ⟨q, c, v', e⟩
        rw [flat_one (k0 := g) knd (kp.mem_iff.mpr h4), res_of c (v' ++ [g]) (by rw [e, List.append_assoc]; rfl)]
        · unfold part2
          rw [if_pos ⟨h1, h2, h3⟩, res_of c v' e]
        · intro k _ hk
          unfold part2
          split
          · unfold res
            rw [if_neg fun h => hk (cq_same h hcg)]
          · rfl
    · have : res l b (x :: r) = [] := by unfold res; rw [if_neg c2]
      rw [this, flat_none]
      intro g _
      unfold part2
      split
      · unfold res
        rw [if_neg fun h => c2 (cq_drop h)]
      · rfl
theorem Pth.cons {l : List (Int × Int)} {b x g : Int} {r : List Int} (p : Pth l b (x :: r)) (h : okg l b x (x :: r) g) : Pth l b (g :: x :: r) := by
  obtain ⟨v, e, hv⟩ := p.ex
  refine ⟨⟨g :: v, by rw [e]; rfl, fun y hy => ?_⟩, List.nodup_cons.mpr ⟨h.2.2, p.nd⟩, h.1, p.ch⟩
  rcases List.mem_cons.mp hy with e | e
  · rw [e]; exact h.2.1
  · exact hv y e
theorem Pth.one (l : List (Int × Int)) (b : Int) : Pth l b [b] := ⟨⟨[], rfl, by simp⟩, by simp, trivial⟩
theorem Pth.len {l : List (Int × Int)} (K : Kn l) {b : Int} (hb : 0 ≤ b ∧ b < 10) {u : List Int} (p : Pth l b u) : u.length ≤ 10 := by
  refine nodup_len (b := 10) p.nd ?_
  have h : ∀ {u : List Int}, Ch l u → (∀ y, u.getLast? = some y → 0 ≤ y ∧ y < 10) → ∀ x ∈ u, 0 ≤ x ∧ x < 10 := by
    intro u
    induction u with
    | nil => intro _ _ x hx; cases hx
    | cons a u ih =>
      intro hc hl x hx
      cases u with
      | nil =>
        rw [List.mem_singleton] at hx
        rw [hx]
        exact hl a rfl
      | cons y r =>
        rcases List.mem_cons.mp hx with e | e
        · have := K.look hc.1
          rw [e]
          exact ⟨this.1, this.2.1⟩
        · exact ih hc.2 (fun z hz => hl z (by rw [List.getLast?_cons_cons]; exact hz)) x e
  obtain ⟨v, e, _⟩ := p.ex
  exact h p.ch fun y hy => by
    rw [e, List.getLast?_append] at hy
    have hy : b = y := by simpa using hy
    rw [← hy]
    exact hb
theorem res_one {l : List (Int × Int)} {b : Int} : res l b [b] = (ringOf l b).toList := by
  by_cases c : ∃ q, Cyc l b q
  · obtain ⟨q, c⟩ := c
    rw [res_of c q rfl, ringOf_some c]
    rfl
  · unfold res
    rw [ringOf_none c]
    split <;> rfl
noncomputable def ringsL (l : List (Int × Int)) : List (List Int) := (sortI (l.map (·.1))).filterMap (ringOf l)
abbrev tupD (r : List Int) : D := .tup (r.map D.int)
/-- none leads out of the ring -/
def shutL (l : List (Int × Int)) (r : List Int) : Bool := (l.map (·.1)).all fun g => !(decide (((look l g).getD 0) ∈ r) && !decide (g ∈ r))
end L3
/-! M6: moves, trees and rings, in plain Lean -/
namespace L3
open PySem PySem.Spec PyProof.Rows L2
open Classical
inductive Mv where
  | cp (a b : Int)
  | sw (a b : Int)
def stp (F : Int → Int) : Mv → Int → Int
  | .cp a b => fun x => if x = a then F b else F x
  | .sw a b => fun x => if x = a then F b else if x = b then F a else F x
def run (ms : List Mv) (F : Int → Int) : Int → Int := ms.foldl stp F
theorem run_app (ms ns : List Mv) (F : Int → Int) : run (ms ++ ns) F = run ns (run ms F) := List.foldl_append
def src (l : List (Int × Int)) (x : Int) : Int := (look l x).getD x
/-! ### walks -/
theorem Wo.app {l : List (Int × Int)} {y : Int} {h : Option Int} {t : List Int} : ∀ {s : List Int} {x : Int}, Wo l x s (some y) → Wo l y t h → Wo l x (s ++ y :: t) h
  | [], x, w, w' => ⟨w, w'⟩
  | z :: s, x, w, w' => ⟨w.1, Wo.app w.2 w'⟩
theorem Wo.cut {l : List (Int × Int)} {y : Int} {h : Option Int} {t : List Int} : ∀ {s : List Int} {x : Int}, Wo l x (s ++ y :: t) h → Wo l x s (some y) ∧ Wo l y t h
  | [], x, w => w
  | z :: s, x, w => ⟨⟨w.1, (Wo.cut w.2).1⟩, (Wo.cut w.2).2⟩
theorem Ch.wo2 {l : List (Int × Int)} {o : Int} {c : List Int} : ∀ {a : List Int} {x : Int}, Ch l (x :: (a ++ o :: c)) → Wo l x a (some o)
  | [], x, h => h.1
  | y :: a, x, h => ⟨h.1, Ch.wo2 h.2⟩
/-- a round walk has a least box: a ring -/
theorem round_cyc {l : List (Int × Int)} {o : Int} {a : List Int} (ha : a ≠ []) (nd : (o :: a).Nodup) (w : Wo l o a (some o)) : ∃ b q, Cyc l b q ∧ b ∈ o :: a := by
  rw [List.nodup_cons] at nd
  have hm := minI_mem a o
  have hle := minI_le a o
  rcases List.mem_cons.mp hm with e | e
  · refine ⟨o, a, ⟨ha, fun x hx => ?_, nd.2, w⟩, List.mem_cons_self⟩
    have h1 := hle.2 x hx
    have h2 : x ≠ o := fun e => nd.1 (by rw [← e]; exact hx)
    omega
  · obtain ⟨a1, a2, ea⟩ := List.append_of_mem e
    generalize minI o a = b at *
    subst ea
    have hc := w.cut
    have nd2 := nd.2
    rw [List.nodup_append, List.nodup_cons] at nd2
    have hob : o ≠ b := fun e => nd.1 (by rw [e]; exact List.mem_append_right _ List.mem_cons_self)
    refine ⟨b, a2 ++ o :: a1, ⟨by simp, fun x hx => ?_, ?_, hc.2.app hc.1⟩, List.mem_cons_of_mem _ (List.mem_append_right _ List.mem_cons_self)⟩
    · rcases List.mem_append.mp hx with h | h
      · have h1 := hle.2 x (List.mem_append_right _ (List.mem_cons_of_mem _ h))
        have h2 : x ≠ b := fun e => nd2.2.1.1 (by rw [← e]; exact h)
        omega
      · rcases List.mem_cons.mp h with h | h
        · subst h
          have := hle.1
          omega
        · have h1 := hle.2 x (List.mem_append_left _ h)
          have h2 : x ≠ b := fun e => nd2.2.2 x h b List.mem_cons_self e
          omega
    · rw [List.nodup_append, List.nodup_cons]
      refine ⟨nd2.2.1.2, ⟨fun h => nd.1 (List.mem_append_left _ h), nd2.1⟩, fun x hx y hy e => ?_⟩
      subst e
      rcases List.mem_cons.mp hy with h | h
      · subst h
        exact nd.1 (List.mem_append_right _ (List.mem_cons_of_mem _ hx))
      · exact nd2.2.2 x h x (List.mem_cons_of_mem _ hx) rfl
/-- where no box of left is on a ring, one is no source of another -/
theorem leaf_ex {l : List (Int × Int)} (K : Kn l) {left : List Int} (ne : left ≠ []) (hk : ∀ x ∈ left, x ∈ l.map (·.1)) (nr : ∀ b q, Cyc l b q → b ∉ left) : ∃ g ∈ left, ∀ o ∈ left, look l o ≠ some g := by
  refine byContradiction fun hno => ?_
  have pre : ∀ g ∈ left, ∃ o ∈ left, look l o = some g := fun g hg => byContradiction fun h => hno ⟨g, hg, fun o ho e => h ⟨o, ho, e⟩⟩
  have go : ∀ n : Nat, ∃ u : List Int, u.length = n + 1 ∧ Ch l u ∧ u.Nodup ∧ ∀ x ∈ u, x ∈ left := by
    intro n
    induction n with
    | zero =>
      cases left with
      | nil => exact absurd rfl ne
      | cons x r => exact ⟨[x], rfl, trivial, by simp, fun y hy => by rw [List.mem_singleton.mp hy]; exact List.mem_cons_self⟩
    | succ n ih =>
      obtain ⟨u, h1, h2, h3, h4⟩ := ih
      cases u with
      | nil => simp at h1
      | cons x r =>
        obtain ⟨o, ho, e⟩ := pre x (h4 x List.mem_cons_self)
        by_cases hm : o ∈ x :: r
        · exfalso
          have hne : x ≠ o := fun e2 => (K.look e).2.2.2.2 e2.symm
          have hr : o ∈ r := by
            rcases List.mem_cons.mp hm with h | h
            · exact absurd h.symm hne
            · exact h
          obtain ⟨a, c, er⟩ := List.append_of_mem hr
          subst er
          have w := Ch.wo2 h2
          have nd : (o :: x :: a).Nodup := by
            rw [List.nodup_cons] at h3
            rw [List.nodup_append, List.nodup_cons] at h3
            rw [List.nodup_cons, List.nodup_cons]
            refine ⟨fun h => ?_, fun h => h3.1 (List.mem_append_left _ h), h3.2.1⟩
            rcases List.mem_cons.mp h with h | h
            · exact hne h.symm
            · exact h3.2.2.2 o h o List.mem_cons_self rfl
          obtain ⟨b, q, cy, hb⟩ := round_cyc (by simp) nd (⟨e, w⟩ : Wo l o (x :: a) (some o))
          refine nr b q cy ?_
          rcases List.mem_cons.mp hb with h | h
          · rw [h]; exact ho
          · rcases List.mem_cons.mp h with h | h
            · rw [h]; exact h4 x List.mem_cons_self
            · exact h4 b (List.mem_cons_of_mem _ (List.mem_append_left _ h))
        · refine ⟨o :: x :: r, by rw [List.length_cons, h1], ⟨e, h2⟩, List.nodup_cons.mpr ⟨hm, h3⟩, fun y hy => ?_⟩
          rcases List.mem_cons.mp hy with h | h
          · rw [h]; exact ho
          · exact h4 y h
  obtain ⟨u, h1, _, h3, h4⟩ := go 10
  have := nodup_len (b := 10) h3 fun x hx => by
    obtain ⟨p, hp, e⟩ := List.mem_map.mp (hk x (h4 x hx))
    have := K.L.bd p hp
    rw [← e]
    exact ⟨this.1, this.2.1⟩
  omega
/-! ### rings apart -/
theorem Cyc.closed {l : List (Int × Int)} {b : Int} {q : List Int} (c : Cyc l b q) : ∀ {y z : Int}, y ∈ b :: q → look l y = some z → z ∈ b :: q := by
  intro y z hy e
  rcases List.mem_cons.mp hy with h | h
  · subst h
    have w := c.w
    cases q with
    | nil => exact absurd rfl c.ne
    | cons x r =>
      have := w.1
      rw [e] at this
      cases this
      exact List.mem_cons_of_mem _ List.mem_cons_self
  · obtain ⟨q1, q2, eq⟩ := List.append_of_mem h
    have w := c.w
    rw [eq] at w
    have w2 := w.cut.2
    rw [eq]
    cases q2 with
    | nil =>
      have w2 : look l y = some b := w2
      rw [e] at w2
      cases w2
      exact List.mem_cons_self
    | cons x r =>
      have := w2.1
      rw [e] at this
      cases this
      exact List.mem_cons_of_mem _ (List.mem_append_right _ (List.mem_cons_of_mem _ List.mem_cons_self))
theorem Cyc.walk {l : List (Int × Int)} {b : Int} {q : List Int} (c : Cyc l b q) : ∀ {t : List Int} {x y : Int}, x ∈ b :: q → Wo l x t (some y) → y ∈ b :: q
  | [], x, y, hx, w => c.closed hx w
  | z :: t, x, y, hx, w => Cyc.walk c (c.closed hx w.1) w.2
theorem Cyc.reach {l : List (Int × Int)} {b x : Int} {q : List Int} (c : Cyc l b q) (hx : x ∈ b :: q) : x = b ∨ ∃ t, Wo l x t (some b) := by
  rcases List.mem_cons.mp hx with h | h
  · exact .inl h
  · obtain ⟨q1, q2, eq⟩ := List.append_of_mem h
    have w := c.w
    rw [eq] at w
    exact .inr ⟨q2, w.cut.2⟩
theorem Cyc.least {l : List (Int × Int)} {b x : Int} {q : List Int} (c : Cyc l b q) (hx : x ∈ b :: q) : b ≤ x := by
  rcases List.mem_cons.mp hx with h | h
  · omega
  · have := c.gt x h
    omega
theorem Cyc.apart {l : List (Int × Int)} {b b' x : Int} {q q' : List Int} (c : Cyc l b q) (c' : Cyc l b' q') (h : x ∈ b :: q) (h' : x ∈ b' :: q') : b = b' := by
  have h1 : b ∈ b' :: q' := by
    rcases c.reach h with e | ⟨t, w⟩
    · rw [← e]; exact h'
    · exact c'.walk h' w
  have h2 : b' ∈ b :: q := by
    rcases c'.reach h' with e | ⟨t, w⟩
    · rw [← e]; exact h
    · exact c.walk h w
  have := c'.least h1
  have := c.least h2
  omega
/-- a ring of l -/
def Rg (l : List (Int × Int)) (r : List Int) : Prop := ∃ b q, Cyc l b q ∧ r = b :: q.reverse
theorem Rg.mem {l : List (Int × Int)} {b x : Int} {q : List Int} : x ∈ b :: q.reverse ↔ x ∈ b :: q := by simp
theorem Rg.closed {l : List (Int × Int)} {r : List Int} (h : Rg l r) {y z : Int} (hy : y ∈ r) (e : look l y = some z) : z ∈ r := by
  obtain ⟨b, q, c, rfl⟩ := h
  exact (Rg.mem (l := l)).mpr (c.closed ((Rg.mem (l := l)).mp hy) e)
theorem Rg.keys {l : List (Int × Int)} {r : List Int} (h : Rg l r) {y : Int} (hy : y ∈ r) : ∃ z, look l y = some z ∧ z ∈ r := by
  obtain ⟨b, q, c, rfl⟩ := h
  have hy2 := (Rg.mem (l := l)).mp hy
  have : ∃ z, look l y = some z := by
    rcases List.mem_cons.mp hy2 with h | h
    · have w := c.w
      cases q with
      | nil => exact absurd rfl c.ne
      | cons x r => rw [h]; exact ⟨x, w.1⟩
    · obtain ⟨q1, q2, eq⟩ := List.append_of_mem h
      have w := c.w
      rw [eq] at w
      have w2 := w.cut.2
      cases q2 with
      | nil => exact ⟨b, w2⟩
      | cons x r => exact ⟨x, w2.1⟩
  obtain ⟨z, hz⟩ := this
  exact ⟨z, hz, (Rg.mem (l := l)).mpr (c.closed hy2 hz)⟩
theorem Rg.nodup {l : List (Int × Int)} {r : List Int} (h : Rg l r) : r.Nodup := by
  obtain ⟨b, q, c, rfl⟩ := h
  rw [List.nodup_cons, List.mem_reverse, (List.reverse_perm q).nodup_iff]
  exact ⟨c.notin, c.nd⟩
theorem ringsL_rg {l : List (Int × Int)} {r : List Int} (h : r ∈ ringsL l) : Rg l r := by
  obtain ⟨g, _, hg⟩ := List.mem_filterMap.mp h
  by_cases c : ∃ q, Cyc l g q
  · obtain ⟨q, c⟩ := c
    rw [ringOf_some c] at hg
    cases hg
    exact ⟨g, q, c, rfl⟩
  · rw [ringOf_none c] at hg
    cases hg
theorem ringsL_of {l : List (Int × Int)} {b : Int} {q : List Int} (c : Cyc l b q) : b :: q.reverse ∈ ringsL l := by
  refine List.mem_filterMap.mpr ⟨b, ?_, ringOf_some c⟩
  rw [(sortI_perm _).mem_iff]
  obtain ⟨z, hz, _⟩ := Rg.keys ⟨b, q, c, rfl⟩ (List.mem_cons_self (a := b) (l := q.reverse))
  exact List.mem_map.mpr ⟨_, look_mem hz, rfl⟩
/-- unlike rings share no box -/
theorem rings_apart {l : List (Int × Int)} (K : Kn l) : (ringsL l).Pairwise fun r r' => ∀ x ∈ r, x ∉ r' := by
  have nd : (sortI (l.map (·.1))).Nodup := (sortI_perm _).nodup_iff.mpr K.L.nd
  unfold ringsL
  rw [List.pairwise_filterMap]
  refine nd.imp fun {a b} hab r hr r' hr' x hx hx' => hab ?_
  by_cases c : ∃ q, Cyc l a q
  · obtain ⟨q, c⟩ := c
    by_cases c' : ∃ q, Cyc l b q
    · obtain ⟨q', c'⟩ := c'
      rw [ringOf_some c] at hr
      rw [ringOf_some c'] at hr'
      cases hr
      cases hr'
      exact c.apart c' ((Rg.mem (l := l)).mp hx) ((Rg.mem (l := l)).mp hx')
    · rw [ringOf_none c'] at hr'
      cases hr'
  · rw [ringOf_none c] at hr
    cases hr
noncomputable def aroundL (l : List (Int × Int)) : List Int := (ringsL l).flatten
theorem around_nodup {l : List (Int × Int)} (K : Kn l) : (aroundL l).Nodup := by
  have go : ∀ rs : List (List Int), (∀ r ∈ rs, r.Nodup) → rs.Pairwise (fun r r' => ∀ x ∈ r, x ∉ r') → rs.flatten.Nodup := by
    intro rs
    induction rs with
    | nil => intro _ _; simp
    | cons r rs ih =>
      intro h p
      rw [List.pairwise_cons] at p
      rw [List.flatten_cons, List.nodup_append]
      refine ⟨h r List.mem_cons_self, ih (fun r' hr' => h r' (List.mem_cons_of_mem _ hr')) p.2, fun x hx y hy e => ?_⟩
      obtain ⟨r', hr', hy2⟩ := List.mem_flatten.mp hy
      exact p.1 r' hr' x hx (by rw [e]; exact hy2)
  exact go _ (fun r hr => (ringsL_rg hr).nodup) (rings_apart K)
/-! ### one ring's swaps -/
def Bc (l : List (Int × Int)) : Int → List Int → Prop
  | _, [] => True
  | c, y :: t => look l y = some c ∧ Bc l y t
theorem Wo.bc {l : List (Int × Int)} : ∀ {q : List Int} {x b : Int}, Wo l x q (some b) → Bc l b (q.reverse ++ [x])
  | [], x, b, w => ⟨w, trivial⟩
  | z :: q, x, b, w => by
    have ih := Wo.bc w.2
    rw [List.reverse_cons]
    have key : ∀ {t : List Int} {c y u : Int}, Bc l c (t ++ [y]) → look l u = some y → Bc l c ((t ++ [y]) ++ [u]) := by
      intro t
      induction t with
      | nil => intro c y u h e; exact ⟨h.1, e, trivial⟩
      | cons a t ih => intro c y u h e; exact ⟨h.1, ih h.2 e⟩
    exact key ih w.1
theorem run_ring {l : List (Int × Int)} {b : Int} : ∀ (t : List Int) (c : Int) (F F0 : Int → Int), F b = F0 c → (∀ x ∈ t, F x = F0 x) → Bc l c t → b ∉ t → t.Nodup → ∀ x, run (t.map (Mv.sw b)) F x = if x = b then F0 ((c :: t).getLast (List.cons_ne_nil _ _)) else if x ∈ t then F0 (src l x) else F x
  | [], c, F, F0, h1, h2, h3, h4, h5, x => by
    show F x = _
    by_cases e : x = b
    · rw [if_pos e, e]; exact h1
    · rw [if_neg e, if_neg (by simp)]
  | y :: t, c, F, F0, h1, h2, h3, h4, h5, x => by
    have hby : b ≠ y := fun e => h4 (by rw [e]; exact List.mem_cons_self)
    rw [List.nodup_cons] at h5
    have ih := run_ring t y (stp F (.sw b y)) F0 (by show (if b = b then F y else _) = _; rw [if_pos rfl]; exact h2 y List.mem_cons_self) (fun z hz => by
      have hzb : z ≠ b := fun e => h4 (by rw [← e]; exact List.mem_cons_of_mem _ hz)
      have hzy : z ≠ y := fun e => h5.1 (by rw [← e]; exact hz)
      show (if z = b then F y else if z = y then F b else F z) = _
      rw [if_neg hzb, if_neg hzy]
      exact h2 z (List.mem_cons_of_mem _ hz)) h3.2 (fun h => h4 (List.mem_cons_of_mem _ h)) h5.2 x
    show run (t.map (Mv.sw b)) (stp F (.sw b y)) x = _
    rw [ih]
    by_cases e : x = b
    · rw [if_pos e, if_pos e, List.getLast_cons (List.cons_ne_nil _ _)]
    · rw [if_neg e, if_neg e]
      by_cases ht : x ∈ t
      · rw [if_pos ht, if_pos (List.mem_cons_of_mem _ ht)]
      · rw [if_neg ht]
        show (if x = b then F y else if x = y then F b else F x) = _
        rw [if_neg e]
        by_cases ey : x = y
        · rw [if_pos ey, if_pos (by rw [ey]; exact List.mem_cons_self), h1, ey]
          unfold src
          rw [h3.1]
          rfl
        · rw [if_neg ey, if_neg fun h => by
            rcases List.mem_cons.mp h with h | h
            · exact ey h
            · exact ht h]
def ringSw : List Int → List Mv
  | [] => []
  | b :: t => t.map (Mv.sw b)
theorem run_rg {l : List (Int × Int)} {r : List Int} (h : Rg l r) (F : Int → Int) (x : Int) : run (ringSw r) F x = if x ∈ r then F (src l x) else F x := by
  have hn := h.nodup
  obtain ⟨b, q, c, rfl⟩ := h
  rw [List.nodup_cons] at hn
  have w := c.w
  cases q with
  | nil => exact absurd rfl c.ne
  | cons z q =>
    have hbc : Bc l b ((z :: q).reverse) := by
      have := Wo.bc w.2
      rw [List.reverse_cons]
      exact this
    show run ((z :: q).reverse.map (Mv.sw b)) F x = _
    rw [run_ring (l := l) _ b F F rfl (fun _ _ => rfl) hbc hn.1 hn.2]
    by_cases e : x = b
    · rw [if_pos e, if_pos (by rw [e]; exact List.mem_cons_self), e]
      unfold src
      rw [w.1]
      have : (b :: (z :: q).reverse).getLast (List.cons_ne_nil _ _) = z := by
        have h : (b :: (z :: q).reverse).getLast? = some z := by
          rw [List.reverse_cons, ← List.cons_append, List.getLast?_append]
          rfl
        rw [List.getLast?_eq_getLast (List.cons_ne_nil _ _)] at h
        exact Option.some.inj h
      rw [this]
      rfl
    · rw [if_neg e]
      by_cases ht : x ∈ (z :: q).reverse
      · rw [if_pos ht, if_pos (List.mem_cons_of_mem _ ht)]
      · rw [if_neg ht, if_neg fun h => by
          rcases List.mem_cons.mp h with h | h
          · exact e h
          · exact ht h]
theorem run_rings {l : List (Int × Int)} : ∀ (rs : List (List Int)), (∀ r ∈ rs, Rg l r) → rs.Pairwise (fun r r' => ∀ x ∈ r, x ∉ r') → ∀ (F : Int → Int) (x : Int), run (rs.flatMap ringSw) F x = if x ∈ rs.flatten then F (src l x) else F x
  | [], _, _, F, x => by rw [if_neg (by simp)]; rfl
  | r :: rs, h, p, F, x => by
    rw [List.pairwise_cons] at p
    rw [List.flatMap_cons, run_app, run_rings rs (fun r' hr' => h r' (List.mem_cons_of_mem _ hr')) p.2, List.flatten_cons]
    have hr := h r List.mem_cons_self
    by_cases hx : x ∈ rs.flatten
    · rw [if_pos hx, if_pos (List.mem_append_right _ hx), run_rg hr]
      obtain ⟨r', hr', hxr⟩ := List.mem_flatten.mp hx
      obtain ⟨z, hz, hzr⟩ := (h r' (List.mem_cons_of_mem _ hr')).keys hxr
      have es : src l x = z := by unfold src; rw [hz]; rfl
      rw [es, if_neg fun h2 => p.1 r' hr' z h2 hzr]
    · rw [if_neg hx, run_rg hr]
      by_cases h2 : x ∈ r
      · rw [if_pos h2, if_pos (List.mem_append_left _ h2)]
      · rw [if_neg h2, if_neg fun h3 => by
          rcases List.mem_append.mp h3 with h4 | h4
          · exact h2 h4
          · exact hx h4]
/-! ### the trees -/
noncomputable def treeL (l : List (Int × Int)) : List Int := (sortI (l.map (·.1))).filter fun g => !decide (g ∈ aroundL l)
theorem treeL_mem {l : List (Int × Int)} {g : Int} : g ∈ treeL l ↔ g ∈ l.map (·.1) ∧ g ∉ aroundL l := by
  unfold treeL
  rw [List.mem_filter, (sortI_perm _).mem_iff]
  simp
theorem treeL_nodup {l : List (Int × Int)} (K : Kn l) : (treeL l).Nodup := (List.filter_sublist).nodup ((sortI_perm _).nodup_iff.mpr K.L.nd)
structure TrInv (l : List (Int × Int)) (left : List Int) (ms : List Mv) : Prop where
  sub : ∀ x ∈ left, x ∈ treeL l
  nd : left.Nodup
  no : ∀ r ∈ treeL l, r ∉ left → ∀ o ∈ left, look l o ≠ some r
  ru : ∀ F x, run ms F x = if x ∈ treeL l ∧ x ∉ left then F (src l x) else F x
  len : ms.length + left.length = (treeL l).length
  ok : ∀ m ∈ ms, ∃ g s, m = Mv.cp g s ∧ look l g = some s
theorem TrInv.start {l : List (Int × Int)} (K : Kn l) : TrInv l (treeL l) [] :=
  ⟨fun x h => h, treeL_nodup K, fun r h h' => absurd h h', fun F x => by rw [if_neg fun h => h.2 h.1]; rfl, by simp, by simp⟩
theorem TrInv.leaf {l : List (Int × Int)} (K : Kn l) {left : List Int} {ms : List Mv} (I : TrInv l left ms) (ne : left ≠ []) : ∃ g ∈ left, ∀ o ∈ left, look l o ≠ some g :=
  leaf_ex K ne (fun x hx => (treeL_mem.mp (I.sub x hx)).1) fun b q c h => (treeL_mem.mp (I.sub b h)).2 (List.mem_flatten.mpr ⟨_, ringsL_of c, List.mem_cons_self⟩)
theorem TrInv.step {l : List (Int × Int)} {left : List Int} {ms : List Mv} (I : TrInv l left ms) {g s : Int} (hg : g ∈ left) (leaf : ∀ o ∈ left, look l o ≠ some g) (hs : look l g = some s) : TrInv l (left.erase g) (ms ++ [.cp g s]) := by
  have hme : ∀ x, x ∈ left.erase g ↔ x ≠ g ∧ x ∈ left := fun x => List.Nodup.mem_erase_iff I.nd
  refine ⟨fun x hx => I.sub x ((hme x).mp hx).2, I.nd.erase _, fun r hr hn o ho => ?_, fun F x => ?_, ?_, fun m hm => ?_⟩
  · have ho2 := ((hme o).mp ho).2
    by_cases e : r = g
    · rw [e]; exact leaf o ho2
    · exact I.no r hr (fun h => hn ((hme r).mpr ⟨e, h⟩)) o ho2
  · rw [run_app]
    show (if x = g then run ms F s else run ms F x) = _
    by_cases e : x = g
    · rw [if_pos e, I.ru, if_neg fun h => I.no s h.1 h.2 g hg hs, if_pos ⟨by rw [e]; exact I.sub g hg, fun h => ((hme x).mp h).1 e⟩, e]
      unfold src
      rw [hs]
      rfl
    · rw [if_neg e, I.ru]
      by_cases h : x ∈ treeL l ∧ x ∉ left
      · rw [if_pos h, if_pos ⟨h.1, fun h2 => h.2 ((hme x).mp h2).2⟩]
      · rw [if_neg h, if_neg fun h2 => h ⟨h2.1, fun h3 => h2.2 ((hme x).mpr ⟨e, h3⟩)⟩]
  · rw [List.length_append, List.length_singleton, List.length_erase_of_mem hg]
    have := I.len
    have : 0 < left.length := List.length_pos_of_mem hg
    omega
  · rcases List.mem_append.mp hm with h | h
    · exact I.ok m h
    · rw [List.mem_singleton.mp h]
      exact ⟨g, s, rfl, hs⟩
/-! ### all of it -/
noncomputable def swapsL (l : List (Int × Int)) : List Mv := (ringsL l).flatMap ringSw
theorem all_run {l : List (Int × Int)} (K : Kn l) {ms : List Mv} (I : TrInv l [] ms) (F : Int → Int) (x : Int) : run (ms ++ swapsL l) F x = F (src l x) := by
  unfold swapsL
  rw [run_app, run_rings _ (fun r hr => ringsL_rg hr) (rings_apart K)]
  have ru : ∀ y, run ms F y = if y ∈ treeL l then F (src l y) else F y := fun y => by
    rw [I.ru]
    by_cases h : y ∈ treeL l
    · rw [if_pos h, if_pos ⟨h, by simp⟩]
    · rw [if_neg h, if_neg fun h2 => h h2.1]
  by_cases h : x ∈ (ringsL l).flatten
  · rw [if_pos h, ru]
    obtain ⟨r, hr, hx⟩ := List.mem_flatten.mp h
    obtain ⟨z, hz, hzr⟩ := (ringsL_rg hr).keys hx
    have es : src l x = z := by unfold src; rw [hz]; rfl
    rw [es, if_neg fun h2 => (treeL_mem.mp h2).2 (List.mem_flatten.mpr ⟨r, hr, hzr⟩)]
  · rw [if_neg h, ru]
    by_cases ht : x ∈ treeL l
    · rw [if_pos ht]
    · rw [if_neg ht]
      have : x ∉ l.map (·.1) := fun h2 => ht (treeL_mem.mpr ⟨h2, h⟩)
      unfold src
      cases e : look l x with
      | none => rfl
      | some v => exact absurd (List.mem_map.mpr ⟨_, look_mem e, rfl⟩) this
theorem ringSw_len {l : List (Int × Int)} {r : List Int} (h : Rg l r) : (ringSw r).length + 1 = r.length := by
  obtain ⟨b, q, c, rfl⟩ := h
  show (q.reverse.map (Mv.sw b)).length + 1 = _
  rw [List.length_map, List.length_cons]
theorem swaps_len {l : List (Int × Int)} : ∀ rs : List (List Int), (∀ r ∈ rs, Rg l r) → (rs.flatMap ringSw).length + rs.length = rs.flatten.length
  | [], _ => rfl
  | r :: rs, h => by
    have := swaps_len rs fun r' hr' => h r' (List.mem_cons_of_mem _ hr')
    have := ringSw_len (h r List.mem_cons_self)
    rw [List.flatMap_cons, List.length_append, List.flatten_cons, List.length_append, List.length_cons]
    omega
theorem around_keys {l : List (Int × Int)} {x : Int} (h : x ∈ aroundL l) : x ∈ l.map (·.1) := by
  obtain ⟨r, hr, hx⟩ := List.mem_flatten.mp h
  obtain ⟨z, hz, _⟩ := (ringsL_rg hr).keys hx
  exact List.mem_map.mpr ⟨_, look_mem hz, rfl⟩
theorem tree_len {l : List (Int × Int)} (K : Kn l) : (treeL l).length + (aroundL l).length = l.length := by
  have nd : (sortI (l.map (·.1))).Nodup := (sortI_perm _).nodup_iff.mpr K.L.nd
  have h1 : ((sortI (l.map (·.1))).filter fun g => decide (g ∈ aroundL l)).Perm (aroundL l) := by
    refine (List.perm_ext_iff_of_nodup ((List.filter_sublist).nodup nd) (around_nodup K)).mpr fun x => ?_
    rw [List.mem_filter, (sortI_perm _).mem_iff]
    constructor
    · rintro ⟨_, h⟩; exact of_decide_eq_true h
    · intro h; exact ⟨around_keys h, decide_eq_true h⟩
  rw [← h1.length_eq]
  unfold treeL
  have h2 : ∀ xs : List Int, (xs.filter fun g => !decide (g ∈ aroundL l)).length + (xs.filter fun g => decide (g ∈ aroundL l)).length = xs.length := fun xs => by
    induction xs with
    | nil => rfl
    | cons x xs ih =>
      rw [List.filter_cons, List.filter_cons]
      by_cases h : x ∈ aroundL l <;> simp only [h, decide_true, decide_false, Bool.not_true, Bool.not_false, if_true, if_false, List.length_cons, Bool.false_eq_true] <;> omega
  rw [h2, (sortI_perm _).length_eq, List.length_map]
theorem all_len {l : List (Int × Int)} (K : Kn l) {ms : List Mv} (I : TrInv l [] ms) : (ms ++ swapsL l).length + (ringsL l).length = l.length := by
  have h1 := swaps_len (ringsL l) fun r hr => ringsL_rg hr
  have h2 := tree_len K
  have h3 := I.len
  rw [List.length_append]
  unfold swapsL
  unfold aroundL at h2
  rw [List.length_nil] at h3
  omega
/-- copies and swaps that do a lead -/
structure SwOk (b : Int) (l : List (Int × Int)) (ms : List Mv) : Prop where
  ru : ∀ F x, run ms F x = F (src l x)
  len : ms.length + (ringsL l).length = l.length
  ok : ∀ m ∈ ms, ∃ x y, (m = Mv.cp x y ∨ m = Mv.sw x y) ∧ x ≠ y ∧ 0 ≤ x ∧ x < b ∧ 0 ≤ y ∧ y < b
theorem SwOk.of {b : Int} {l : List (Int × Int)} (K : Kn l) (L : Lead b l) {ms : List Mv} (I : TrInv l [] ms) : SwOk b l (ms ++ swapsL l) := by
  refine ⟨all_run K I, all_len K I, fun m hm => ?_⟩
  rcases List.mem_append.mp hm with h | h
  · obtain ⟨g, s, rfl, hs⟩ := I.ok m h
    have h1 := L.bd _ (look_mem hs)
    exact ⟨g, s, .inl rfl, (K.look hs).2.2.2.2, h1⟩
  · obtain ⟨r, hr, hm⟩ := List.mem_flatMap.mp h
    have hR := ringsL_rg hr
    have hn := hR.nodup
    obtain ⟨b', q, c, e⟩ := id hR
    subst e
    obtain ⟨y, hy, rfl⟩ := List.mem_map.mp hm
    rw [List.nodup_cons] at hn
    have hb : ∀ z ∈ b' :: q.reverse, 0 ≤ z ∧ z < b := fun z hz => by
      obtain ⟨u, hu, _⟩ := hR.keys hz
      have := L.bd _ (look_mem hu)
      exact ⟨this.1, this.2.1⟩
    have h1 := hb b' List.mem_cons_self
    have h2 := hb y (List.mem_cons_of_mem _ hy)
    exact ⟨b', y, .inr rfl, fun e => hn.1 (by rw [e]; exact hy), h1.1, h1.2, h2.1, h2.2⟩
end L3
/-! M6b: there and back -/
namespace L3
open PySem PySem.Spec PyProof.Rows L2
theorem src_kn {b : Int} {l : List (Int × Int)} (L : Lead b l) (x : Int) : src (kn l) x = src l x := by
  unfold src
  cases e : look l x with
  | none =>
    cases e2 : look (kn l) x with
    | none => rfl
    | some v =>
      have := look_mem e2
      have h := look_of L.nd (List.mem_filter.mp this).1
      rw [e] at h
      cases h
  | some v =>
    have hm := look_mem e
    by_cases c : x = v
    · cases e2 : look (kn l) x with
      | none => exact c
      | some u =>
        have h1 := look_of L.nd (List.mem_filter.mp (look_mem e2)).1
        rw [e] at h1
        cases h1
        rfl
    · rw [look_of L.kn.nd (List.mem_filter.mpr ⟨hm, by simpa using c⟩)]
theorem Wo.map_src {l : List (Int × Int)} {b : Int} : ∀ {q : List Int} {x : Int}, Wo l x q (some b) → (x :: q).map (src l) = q ++ [b]
  | [], x, w => by
    have w : look l x = some b := w
    show [src l x] = [b]
    unfold src
    rw [w]
    rfl
  | z :: q, x, w => by
    rw [List.map_cons, Wo.map_src w.2]
    unfold src
    rw [w.1]
    rfl
theorem Rg.src_perm {l : List (Int × Int)} {r : List Int} (h : Rg l r) : (r.map (src l)).Perm r := by
  obtain ⟨b, q, c, rfl⟩ := h
  have h1 : ((b :: q.reverse).map (src l)).Perm ((b :: q).map (src l)) := ((List.reverse_perm q).cons b).map _
  rw [c.w.map_src] at h1
  refine h1.trans ?_
  have h2 : (q ++ [b]).Perm (b :: q) := List.perm_append_comm
  exact h2.trans ((List.reverse_perm q).symm.cons b)
theorem around_src {l : List (Int × Int)} : ((aroundL l).map (src l)).Perm (aroundL l) := by
  have go : ∀ rs : List (List Int), (∀ r ∈ rs, Rg l r) → (rs.flatten.map (src l)).Perm rs.flatten := by
    intro rs
    induction rs with
    | nil => intro _; exact List.Perm.refl _
    | cons r rs ih =>
      intro h
      rw [List.flatten_cons, List.map_append]
      exact (h r List.mem_cons_self).src_perm.append (ih fun r' hr' => h r' (List.mem_cons_of_mem _ hr'))
  exact go _ fun r hr => ringsL_rg hr
noncomputable def arL (l : List (Int × Int)) : List (Int × Int) := (aroundL l).map fun x => (x, src l x)
noncomputable def backL (l : List (Int × Int)) : List (Int × Int) := (aroundL l).map fun x => (src l x, x)
theorem around_bd {b : Int} {l : List (Int × Int)} (L : Lead b l) {x : Int} (h : x ∈ aroundL l) : 0 ≤ x ∧ x < b := by
  obtain ⟨p, hp, rfl⟩ := List.mem_map.mp (around_keys h)
  have := L.bd p hp
  exact ⟨this.1, this.2.1⟩
theorem src_around {l : List (Int × Int)} {x : Int} (h : x ∈ aroundL l) : src l x ∈ aroundL l := around_src.mem_iff.mp (List.mem_map.mpr ⟨x, h, rfl⟩)
theorem arL_lead {b : Int} {l : List (Int × Int)} (K : Kn l) (L : Lead b l) : Lead b (arL l) := by
  refine ⟨?_, fun p hp => ?_⟩
  · unfold arL
    rw [List.map_map]
    have e : ((fun p : Int × Int => p.1) ∘ fun x => (x, src l x)) = id := rfl
    rw [e, List.map_id]
    exact around_nodup K
  · obtain ⟨x, hx, rfl⟩ := List.mem_map.mp hp
    have h1 := around_bd L hx
    have h2 := around_bd L (src_around hx)
    exact ⟨h1.1, h1.2, h2.1, h2.2⟩
theorem backL_lead {b : Int} {l : List (Int × Int)} (K : Kn l) (L : Lead b l) : Lead b (backL l) := by
  refine ⟨?_, fun p hp => ?_⟩
  · unfold backL
    rw [List.map_map]
    have e : ((fun p : Int × Int => p.1) ∘ fun x => (src l x, x)) = src l := rfl
    rw [e]
    exact around_src.nodup_iff.mpr (around_nodup K)
  · obtain ⟨x, hx, rfl⟩ := List.mem_map.mp hp
    have h1 := around_bd L hx
    have h2 := around_bd L (src_around hx)
    exact ⟨h2.1, h2.2, h1.1, h1.2⟩
theorem look_no {l : List (Int × Int)} {x : Int} (h : x ∉ l.map (·.1)) : look l x = none := by
  cases e : look l x with
  | none => rfl
  | some v => exact absurd (List.mem_map.mpr ⟨_, look_mem e, rfl⟩) h
theorem there_back {b : Int} {l : List (Int × Int)} (K : Kn l) (L : Lead b l) (x : Int) : src (kn (arL l)) (src (kn (backL l)) x) = x := by
  have LA := arL_lead K L
  have LB := backL_lead K L
  rw [src_kn LA, src_kn LB]
  by_cases h : x ∈ aroundL l
  · obtain ⟨y, hy, e⟩ := List.mem_map.mp (around_src.mem_iff.mpr h)
    have h1 : src (backL l) x = y := by
      unfold src
      rw [look_of LB.nd (List.mem_map.mpr ⟨y, hy, by rw [e]⟩ : (x, y) ∈ backL l)]
      rfl
    rw [h1]
    have h2 : src (arL l) y = src l y := by
      rw [show src (arL l) y = (look (arL l) y).getD y from rfl, look_of LA.nd (List.mem_map.mpr ⟨y, hy, rfl⟩ : (y, src l y) ∈ arL l)]
      rfl
    rw [h2, e]
  · have h1 : src (backL l) x = x := by
      unfold src
      rw [look_no]
      · rfl
      · intro hm
        obtain ⟨p, hp, e⟩ := List.mem_map.mp hm
        obtain ⟨y, hy, rfl⟩ := List.mem_map.mp hp
        have e : src l y = x := e
        exact h (by rw [← e]; exact src_around hy)
    rw [h1]
    unfold src
    rw [look_no]
    · rfl
    · intro hm
      obtain ⟨p, hp, e⟩ := List.mem_map.mp hm
      obtain ⟨y, hy, rfl⟩ := List.mem_map.mp hp
      have e : y = x := e
      exact h (by rw [← e]; exact hy)
theorem Bc.get {l : List (Int × Int)} : ∀ {t : List Int} {c : Int} {i : Nat} {y : Int}, Bc l c t → t[i]? = some y → look l y = (c :: t)[i]?
  | [], _, i, y, _, h => by simp at h
  | z :: t, c, 0, y, b, h => by
    cases h
    exact b.1
  | z :: t, c, i + 1, y, b, h => by
    have := Bc.get b.2 (i := i) h
    rw [this]
    rfl
/-- the one ahead of a ring's place is its source -/
theorem Rg.prev {l : List (Int × Int)} {r : List Int} (h : Rg l r) {k : Nat} {x : Int} (hx : r[k]? = some x) : atI (r.map D.int) ((k : Int) - 1) = some (.int (src l x)) := by
  obtain ⟨b, q, c, rfl⟩ := h
  have w := c.w
  cases q with
  | nil => exact absurd rfl c.ne
  | cons z q =>
    cases k with
    | zero =>
      cases hx
      have e : (x :: (z :: q).reverse).map D.int = ((x :: q.reverse).map D.int) ++ [D.int z] := by simp
      rw [e]
      have := atI_last ((x :: q.reverse).map D.int) (D.int z)
      unfold src
      rw [w.1]
      exact this
    | succ k =>
      have hx : ((z :: q).reverse)[k]? = some x := hx
      have hbc : Bc l b ((z :: q).reverse) := by
        have := Wo.bc w.2
        rw [List.reverse_cons]
        exact this
      have h1 := hbc.get hx
      have h2 : (b :: (z :: q).reverse)[k]? = some (src l x) := by
        have hk : k < (b :: (z :: q).reverse).length := by
          have := (List.getElem?_eq_some_iff.mp hx).1
          rw [List.length_cons]
          omega
        rw [List.getElem?_eq_getElem hk] at h1 ⊢
        unfold src
        rw [h1]
        rfl
      rw [show ((k + 1 : Nat) : Int) - 1 = (k : Nat) by omega]
      exact atI_nat (by rw [List.getElem?_map, h2]; rfl)
end L3
/-! P2: the rings: what the code computes -/
namespace L3
open PySem PySem.Spec PyProof.Rows L2
theorem neT {p : Prop} [Decidable p] (h : (if true = true then !decide p else decide p) = true) : ¬p := by simpa using h
theorem neF {p : Prop} [Decidable p] (h : ¬(if true = true then !decide p else decide p) = true) : p := by simpa using h
theorem eqT {p : Prop} [Decidable p] (h : (if false = true then !decide p else decide p) = true) : p := by simpa using h
theorem eqF {p : Prop} [Decidable p] (h : ¬(if false = true then !decide p else decide p) = true) : ¬p := by simpa using h
/-! ### ring_from -/
def ringD : Option (List Int) → D
  | none => .non
  | some r => tupD r
def sp_ring_from : Spec := fun _ ds Kd _ => ∃ l b, ds = [.dic (kvD l), .int b] ∧ Kn l ∧ 0 ≤ b ∧ b < 10 ∧ Kd (ringD (ringOf l b))
abbrev N_ring_from : List Str := ["known", "box", "found", "here"]
abbrev ps_ring_from : List Str := ["known", "box"]
def m_ring_from (sa : Option Addr) : MSt :=
  (mSeq (mSetF 2 (mLst (aCons (mVar 1) aNil)))
  (mSeq (mSet 3 (mGet1 (mVar 0) (mVar 1)))
  (mSeq (mWhile (mAnd (mB (m2 (isND true) (mVar 3) (mC .non))) (mB (m2 (inS true) (mVar 3) (mVar 2)))) (mSeq (mAppend 2 (mVar 3))
    (mSet 3 (mGet1 (mVar 0) (mVar 3)))))
  (mSeq (mIfS (mOr (mB (m2 (eqE true) (mVar 3) (mVar 1))) (mB (m2 (eqE true) (mCall minL (aCons (mVar 2) aNil)) (mVar 1)))) (mRet (mC .non)) mNext)
  (mRet (mCall tupleD (aCons (m2 addD (mLst (aCons (mVar 1) aNil)) (mSlM (mVar 2) oNone (oSome (mC (.int 0))))) aNil)))))))
theorem getD_opt (o : Option Int) : (o.map D.int).getD .non = optD o := by cases o <;> rfl
theorem pu_ring_from (sa : Option Addr) (ds : List D) (Kd : D → Prop) (KX : Exn → Prop) (hl : ds.length = 2) (h : sp_ring_from sa ds Kd KX) : m_ring_from sa (startS N_ring_from.length ds) { nx := fun _ => false = false ∧ Kd .non, rt := Kd, ex := KX } := by
  obtain ⟨l, b, rfl, K, b0, b1, k⟩ := h
  refine ⟨z1, fun p => ⟨⟨_, rfl⟩, ?_⟩⟩
  refine get1_of ?_
  rw [valD_kv, getD_opt]
  -- after the loop
  have fin : ∀ (t : List Int) (h : Option Int), Wo l b t h → (b :: t).Nodup → (∀ y, h = some y → y ∈ b :: t) →
      mSeq (mIfS (mOr (mB (m2 (eqE true) (mVar 3) (mVar 1))) (mB (m2 (eqE true) (mCall minL (aCons (mVar 2) aNil)) (mVar 1)))) (mRet (mC .non)) mNext)
        (mRet (mCall tupleD (aCons (m2 addD (mLst (aCons (mVar 1) aNil)) (mSlM (mVar 2) oNone (oSome (mC (.int 0))))) aNil))) [some (.sh (.dic (kvD l))), some (.sh (.int b)), some (.own p (.lst ((b :: t).map D.int))), some (.sh (optD h))] { nx := fun _ => false = false ∧ Kd .non, rt := Kd, ex := KX } := by
    intro t h w nd st
    have ans := ring_answer K w nd st
    have hlen : (b :: t).length ≤ 10 := nodup_len (b := 10) nd fun y hy => by
      rcases List.mem_cons.mp hy with e | e
      · rw [e]; exact ⟨b0, b1⟩
      · exact (Wo.mem K w).1 y e
    have no : ¬(h = some b ∧ minI b t = b) → Kd .non := fun c => by
      rw [ans, if_neg c] at k
      exact k
    refine eqE_opt (o := h) (p := some b) ?_
    refine ite2 (fun c => ?_) (fun c => ?_)
    · refine no fun c2 => ?_
      rw [c2.1] at c
      simp at c
    · have c : h = some b := by simpa using c
      refine minL_ints (n := b) (ns := t) ?_
      refine eqE_int (i := minI b t) (j := b) ?_
      refine ite2 (fun c2 => ?_) (fun c2 => ?_)
      · refine no fun c3 => ?_
        rw [c3.2] at c2
        simp at c2
      · have c2 : minI b t = b := by simpa using c2
        rw [ans, if_pos ⟨c, c2⟩] at k
        refine ⟨z1, ?_⟩
        have e : pickM ((b :: t).map D.int) none (some 0) = t.reverse.map D.int := by
          have := pickM_from ((b :: t).map D.int) 0
          rw [show ((0 : Nat) : Int) = 0 from rfl] at this
          rw [this, List.map_cons, List.drop_succ_cons, List.drop_zero, List.map_reverse]
        show _ ∧ _
        rw [e]
        refine ⟨sz_ok (by rw [List.length_map, List.length_reverse]; rw [List.length_cons] at hlen; omega), ?_⟩
        refine ⟨sz_ok ?_, ?_⟩
        · rw [List.length_map, List.length_reverse, List.length_cons, List.length_nil]
          rw [List.length_cons] at hlen
          omega
        · exact k
  have go : ∀ (n : Nat) (t : List Int) (h : Option Int), t.length + n = 10 → Wo l b t h → (b :: t).Nodup → whileD (mAnd (mB (m2 (isND true) (mVar 3) (mC .non))) (mB (m2 (inS true) (mVar 3) (mVar 2)))) (mSeq (mAppend 2 (mVar 3))
      (mSet 3 (mGet1 (mVar 0) (mVar 3)))) { nx := fun env' => (mSeq (mIfS (mOr (mB (m2 (eqE true) (mVar 3) (mVar 1))) (mB (m2 (eqE true) (mCall minL (aCons (mVar 2) aNil)) (mVar 1)))) (mRet (mC .non)) mNext)
        (mRet (mCall tupleD (aCons (m2 addD (mLst (aCons (mVar 1) aNil)) (mSlM (mVar 2) oNone (oSome (mC (.int 0))))) aNil))) env' { nx := fun _ => false = false ∧ Kd .non, rt := Kd, ex := KX }), rt := Kd, ex := KX } (n + 1) [some (.sh (.dic (kvD l))), some (.sh (.int b)), some (.own p (.lst ((b :: t).map D.int))), some (.sh (optD h))] := by
    intro n
    induction n with
    | zero =>
      intro t h hn w nd
      have hlen : (b :: t).length ≤ 10 := nodup_len (b := 10) nd fun y hy => by
        rcases List.mem_cons.mp hy with e | e
        · rw [e]; exact ⟨b0, b1⟩
        · exact (Wo.mem K w).1 y e
      rw [List.length_cons] at hlen
      omega
    | succ n ih =>
      intro t h hn w nd
      have hlen : (b :: t).length ≤ 10 := nodup_len (b := 10) nd fun y hy => by
        rcases List.mem_cons.mp hy with e | e
        · rw [e]; exact ⟨b0, b1⟩
        · exact (Wo.mem K w).1 y e
      cases h with
      | none => exact ⟨rfl, fin t none w nd (fun y e => by cases e)⟩
      | some y =>
        refine ⟨rfl, ?_⟩
        refine inS_lst (i := y) (ns := b :: t) ?_
        refine ite2 (fun c => ?_) (fun c => ?_)
        · have c : y ∉ b :: t := neT c
          refine ⟨sz_lt (by rw [List.length_map]; omega), ⟨_, rfl⟩, ?_⟩
          refine get1_of (i := y) ?_
          rw [valD_kv, getD_opt]
          have e : ((b :: t).map D.int ++ [D.int y]) = (b :: (t ++ [y])).map D.int := by simp
          show whileD _ _ _ _ [some (.sh (.dic (kvD l))), some (.sh (.int b)), some (.own p (.lst ((b :: t).map D.int ++ [D.int y]))), some (.sh (optD (look l y)))]
          rw [e]
          refine ih (t ++ [y]) (look l y) (by rw [List.length_append, List.length_singleton]; omega) w.snoc ?_
          rw [← List.cons_append, List.nodup_append]
          exact ⟨nd, by simp, fun x hx z hz e => c (by
            rw [List.mem_singleton] at hz
            rw [← hz, ← e]
            exact hx)⟩
        · have c : y ∈ b :: t := neF c
          exact fin t (some y) w nd fun z e => by cases e; exact c
  exact ⟨11, go 10 [] (look l b) rfl rfl (by simp)⟩
/-! ### rings_of -/
def sp_rings_of : Spec := fun _ ds Kd _ => ∃ l, ds = [.dic (kvD l)] ∧ Kn l ∧ Kd (.lst ((ringsL l).map tupD))
abbrev N_rings_of : List Str := ["known", "found", "box", "ring"]
abbrev ps_rings_of : List Str := ["known"]
def m_rings_of (sa : Option Addr) : MSt :=
  (mSeq (mSet 1 (mLc (.nm 2) [2] (mIter (mCall sortedD (aCons (mVar 0) aNil))) tYesM (mCallU sa sp_ring_from (aCons (mVar 0) (aCons (mVar 2) aNil)))))
  (mRet (mLc (.nm 3) [3] (mIter (mVar 1)) (mB (m2 (isND true) (mVar 3) (mC .non))) (mVar 3))))
theorem Kn.keys {l : List (Int × Int)} (K : Kn l) : (sortI (l.map (·.1))).length ≤ 10 ∧ ∀ x ∈ sortI (l.map (·.1)), x ∈ l.map (·.1) ∧ 0 ≤ x ∧ x < 10 := by
  have h1 := K.L.len (by decide)
  refine ⟨by rw [(sortI_perm _).length_eq, List.length_map]; omega, fun x hx => ?_⟩
  have hx := (sortI_perm _).mem_iff.mp hx
  obtain ⟨p, hp, rfl⟩ := List.mem_map.mp hx
  have := K.L.bd p hp
  exact ⟨hx, this.1, this.2.1⟩
theorem pu_rings_of (sa : Option Addr) (ds : List D) (Kd : D → Prop) (KX : Exn → Prop) (hl : ds.length = 1) (h : sp_rings_of sa ds Kd KX) : m_rings_of sa (startS N_rings_of.length ds) { nx := fun _ => true = false ∧ Kd .non, rt := Kd, ex := KX } := by
  obtain ⟨l, rfl, K, k⟩ := h
  have hk := K.keys
  refine sortedD_dic ?_
  rw [keys_kv]
  refine ⟨by rw [List.length_map]; omega, lcD_fm (fun d => match d with | .int g => some (ringD (ringOf l g)) | _ => none) (fun d hd Kx hK => ?_) ?_⟩
  · obtain ⟨g, hg, rfl⟩ := List.mem_map.mp hd
    have := hk.2 g hg
    exact ⟨_, rfl, l, g, rfl, K, this.2.1, this.2.2, hK⟩
  · rw [fm_map D.int _ (fun g => some (ringOf l g)) ringD _ (fun g _ => rfl), List.filterMap_eq_map']
    refine ⟨by rw [List.length_map, List.length_map]; omega, lcD_fm (fun d => match d with | .non => none | d => some d) (fun d hd Kx hK => ?_) ?_⟩
    · obtain ⟨o, ho, rfl⟩ := List.mem_map.mp hd
      cases o with
      | none => exact ⟨_, rfl, rfl, hK⟩
      | some r => exact ⟨_, rfl, rfl, hK⟩
    · rw [fm_map ringD _ id tupD _ (fun o _ => by cases o <;> rfl), List.filterMap_map]
      exact k
/-! ### outward, shut_of -/
def outL (l : List (Int × Int)) (r : List Int) : List (Int × Int) := (sortI (l.map (·.1))).filterMap fun g => if g ∉ r ∧ (look l g).getD 0 ∈ r then some (g, (look l g).getD 0) else none
def sp_outward : Spec := fun _ ds Kd _ => ∃ l r, ds = [.dic (kvD l), tupD r] ∧ Kn l ∧ Kd (leadD (outL l r))
abbrev N_outward : List Str := ["known", "ring", "goal"]
abbrev ps_outward : List Str := ["known", "ring"]
def m_outward (sa : Option Addr) : MSt :=
  (mRet (mLc (.nm 2) [2] (mIter (mCall sortedD (aCons (mVar 0) aNil))) (mAnd (mB (m2 (inS true) (mVar 2) (mVar 1))) (mB (m2 (inS false) (m2 getK (mVar 0) (mVar 2)) (mVar 1)))) (mTup (aCons (mVar 2) (aCons (m2 getK (mVar 0) (mVar 2)) aNil)))))
theorem getK_at {l : List (Int × Int)} {g : Int} {K : D → Prop} (h : g ∈ l.map (·.1)) (k : K (.int ((look l g).getD 0))) : getK (.dic (kvD l)) (.int g) K := by
  obtain ⟨v, hv⟩ := look_some h
  rw [hv] at k
  exact getK_of (d := .int v) (by rw [valD_kv, hv]; rfl) k
theorem pu_outward (sa : Option Addr) (ds : List D) (Kd : D → Prop) (KX : Exn → Prop) (hl : ds.length = 2) (h : sp_outward sa ds Kd KX) : m_outward sa (startS N_outward.length ds) { nx := fun _ => false = false ∧ Kd .non, rt := Kd, ex := KX } := by
  obtain ⟨l, r, rfl, K, k⟩ := h
  have hk := K.keys
  refine sortedD_dic ?_
  rw [keys_kv]
  refine ⟨by rw [List.length_map]; omega, lcD_fm (fun d => match d with | .int g => if g ∉ r ∧ (look l g).getD 0 ∈ r then some (pD (g, (look l g).getD 0)) else none | _ => none) (fun d hd Kx hK => ?_) ?_⟩
  · obtain ⟨g, hg, rfl⟩ := List.mem_map.mp hd
    have hg := (hk.2 g hg).1
    have hK : Kx (if g ∉ r ∧ (look l g).getD 0 ∈ r then some (pD (g, (look l g).getD 0)) else none) := hK
    refine ⟨_, rfl, ?_⟩
    refine inS_tup (i := g) (ns := r) ?_
    refine ite2 (fun c => ?_) (fun c => ?_)
    · have c : g ∉ r := by simpa using c
      refine getK_at hg ?_
      refine inS_tup (i := (look l g).getD 0) (ns := r) ?_
      refine ite2 (fun c2 => ?_) (fun c2 => ?_)
      · have c2 : (look l g).getD 0 ∈ r := by simpa using c2
        rw [if_pos ⟨c, c2⟩] at hK
        refine getK_at hg ⟨z2, hK⟩
      · have c2 : ¬ (look l g).getD 0 ∈ r := by simpa using c2
        rw [if_neg fun h => c2 h.2] at hK
        exact hK
    · have c : g ∈ r := by simpa using c
      rw [if_neg fun h => h.1 c] at hK
      exact hK
  · rw [fm_map D.int _ (fun g => if g ∉ r ∧ (look l g).getD 0 ∈ r then some (g, (look l g).getD 0) else none) pD _ (fun g _ => by show (if _ then _ else _) = _; split <;> rfl)]
    exact k
def sp_shut_of : Spec := fun _ ds Kd _ => ∃ l, ds = [.dic (kvD l)] ∧ Kn l ∧ Kd (.lst (((ringsL l).filter (shutL l)).map tupD))
abbrev N_shut_of : List Str := ["known", "ring"]
abbrev ps_shut_of : List Str := ["known"]
def m_shut_of (sa : Option Addr) : MSt :=
  (mRet (mLc (.nm 1) [1] (mIter (mCallU sa sp_rings_of (aCons (mVar 0) aNil))) (mB (m2 (eqE false) (mCallU sa sp_outward (aCons (mVar 0) (aCons (mVar 1) aNil))) (mLst aNil))) (mVar 1)))
theorem fm_empty {α β : Type} (l : List α) (g : α → Option β) : (l.filterMap g).isEmpty = l.all fun a => (g a).isNone := by
  induction l with
  | nil => rfl
  | cons a l ih =>
    rw [List.filterMap_cons, List.all_cons]
    cases q : g a with
    | none => simpa [q] using ih
    | some b => simp [q]
theorem out_empty (l : List (Int × Int)) (r : List Int) : (outL l r).isEmpty = shutL l r := by
  unfold outL shutL
  rw [fm_empty, (sortI_perm _).all_eq]
  congr 1
  funext g
  by_cases h1 : g ∈ r <;> by_cases h2 : (look l g).getD 0 ∈ r <;> simp [h1, h2]
theorem ringsL_len {l : List (Int × Int)} (K : Kn l) : (ringsL l).length ≤ 10 := Nat.le_trans (List.length_filterMap_le _ _) K.keys.1
theorem fm_filter {α : Type} (l : List α) (p : α → Bool) : (l.filterMap fun a => if p a then some a else none) = l.filter p := by
  induction l with
  | nil => rfl
  | cons a l ih =>
    rw [List.filterMap_cons, List.filter_cons]
    by_cases c : p a = true
    · rw [if_pos c, if_pos c, ih]
    · rw [if_neg c, if_neg c, ih]
theorem leadD_nil {neg : Bool} {l : List (Int × Int)} {K : D → Prop} (k : K (.bl (if neg then !l.isEmpty else l.isEmpty))) : eqE neg (leadD l) (.lst []) K := by
  refine eqE_nil (n := 2) (.lst _ _ fun d hd => ?_) (by decide) ?_
  · obtain ⟨p, _, rfl⟩ := List.mem_map.mp hd
    exact .tup _ _ fun d hd => by
      rcases List.mem_cons.mp hd with e | e
      · rw [e]; exact .int _ _
      · rw [List.mem_singleton.mp e]; exact .int _ _
  · cases l <;> exact k
theorem pu_shut_of (sa : Option Addr) (ds : List D) (Kd : D → Prop) (KX : Exn → Prop) (hl : ds.length = 1) (h : sp_shut_of sa ds Kd KX) : m_shut_of sa (startS N_shut_of.length ds) { nx := fun _ => true = false ∧ Kd .non, rt := Kd, ex := KX } := by
  obtain ⟨l, rfl, K, k⟩ := h
  have hr := ringsL_len K
  refine ⟨l, rfl, K, by rw [List.length_map]; omega, lcD_fm (fun d => match d with | .tup r => (match intsOf r with | some ns => if shutL l ns then some (tupD ns) else none | none => none) | _ => none) (fun d hd Kx hK => ?_) ?_⟩
  · obtain ⟨r, _, rfl⟩ := List.mem_map.mp hd
    have hK : Kx (match intsOf (r.map D.int) with | some ns => if shutL l ns then some (tupD ns) else none | none => none) := hK
    rw [intsOf_ints] at hK
    refine ⟨_, rfl, l, r, rfl, K, Nat.zero_le _, leadD_nil ?_⟩
    rw [out_empty]
    refine ite2 (fun c => ?_) (fun c => ?_)
    · have c : shutL l r = true := c
      have hK : Kx (if shutL l r then some (tupD r) else none) := hK
      rw [if_pos c] at hK
      exact hK
    · have c : ¬ shutL l r = true := c
      have hK : Kx (if shutL l r then some (tupD r) else none) := hK
      rw [if_neg c] at hK
      exact hK
  · rw [fm_map tupD _ (fun r => if shutL l r then some r else none) tupD _ (fun r _ => by
      show (match intsOf (r.map D.int) with | some ns => if shutL l ns then some (tupD ns) else none | none => none) = _
      rw [intsOf_ints]
      show (if shutL l r then some (tupD r) else none) = _
      split <;> rfl), fm_filter]
    exact k
/-! ### rings, shut_rings -/
def sp_rings : Spec := fun _ ds Kd _ => ∃ b l, ds = [.int b, leadD l] ∧ Lead b l ∧ 1 ≤ b ∧ b ≤ 10 ∧ Kd (.lst ((ringsL (kn l)).map tupD))
abbrev N_rings : List Str := ["boxes", "lead"]
abbrev ps_rings : List Str := ["boxes", "lead"]
def m_rings (sa : Option Addr) : MSt :=
  (mSeq (mExpr (mCallU sa sp_need_lead (aCons (mVar 0) (aCons (mVar 1) aNil))))
  (mRet (mCallU sa sp_rings_of (aCons (mCallU sa sp_real_pairs (aCons (mVar 1) aNil)) aNil))))
theorem pu_rings (sa : Option Addr) (ds : List D) (Kd : D → Prop) (KX : Exn → Prop) (hl : ds.length = 2) (h : sp_rings sa ds Kd KX) : m_rings sa (startS N_rings.length ds) { nx := fun _ => true = false ∧ Kd .non, rt := Kd, ex := KX } := by
  obtain ⟨b, l, rfl, L, b0, b1, k⟩ := h
  exact ⟨b, l, rfl, L, b0, b1, b, l, rfl, L, by omega, b1, kn l, rfl, .of L b1, k⟩
def sp_shut_rings : Spec := fun _ ds Kd _ => ∃ b l, ds = [.int b, leadD l] ∧ Lead b l ∧ 1 ≤ b ∧ b ≤ 10 ∧ Kd (.lst (((ringsL (kn l)).filter (shutL (kn l))).map tupD))
abbrev N_shut_rings : List Str := ["boxes", "lead"]
abbrev ps_shut_rings : List Str := ["boxes", "lead"]
def m_shut_rings (sa : Option Addr) : MSt :=
  (mSeq (mExpr (mCallU sa sp_need_lead (aCons (mVar 0) (aCons (mVar 1) aNil))))
  (mRet (mCallU sa sp_shut_of (aCons (mCallU sa sp_real_pairs (aCons (mVar 1) aNil)) aNil))))
theorem pu_shut_rings (sa : Option Addr) (ds : List D) (Kd : D → Prop) (KX : Exn → Prop) (hl : ds.length = 2) (h : sp_shut_rings sa ds Kd KX) : m_shut_rings sa (startS N_shut_rings.length ds) { nx := fun _ => true = false ∧ Kd .non, rt := Kd, ex := KX } := by
  obtain ⟨b, l, rfl, L, b0, b1, k⟩ := h
  exact ⟨b, l, rfl, L, b0, b1, b, l, rfl, L, by omega, b1, kn l, rfl, .of L b1, k⟩
/-! ### _law_is_shut -/
def sp__law_is_shut : Spec := fun _ ds Kd _ => ∃ l r, ds = [.dic (kvD l), tupD r] ∧ Kn l ∧ Kd (.bl (shutL l r))
abbrev N__law_is_shut : List Str := ["_law_known_here", "_law_ring", "_law_goal"]
abbrev ps__law_is_shut : List Str := ["_law_known_here", "_law_ring"]
def m__law_is_shut (sa : Option Addr) : MSt :=
  (mRet (m2 (eqE false) (mLc (.nm 2) [2] (mIter (mVar 0)) (mAnd (mB (m2 (inS false) (m2 getK (mVar 0) (mVar 2)) (mVar 1))) (mB (m2 (inS true) (mVar 2) (mVar 1)))) (mVar 2)) (mLst aNil)))
theorem pu__law_is_shut (sa : Option Addr) (ds : List D) (Kd : D → Prop) (KX : Exn → Prop) (hl : ds.length = 2) (h : sp__law_is_shut sa ds Kd KX) : m__law_is_shut sa (startS N__law_is_shut.length ds) { nx := fun _ => false = false ∧ Kd .non, rt := Kd, ex := KX } := by
  obtain ⟨l, r, rfl, K, k⟩ := h
  have hlen := K.L.len (by decide)
  refine ⟨by unfold kvD; rw [List.length_map, List.length_map]; omega, ?_⟩
  have e : (kvD l).map (fun p => D.int p.1) = (l.map (·.1)).map D.int := by
    unfold kvD
    rw [List.map_map, List.map_map]
    rfl
  show lcD _ _ _ _ ((kvD l).map fun p => D.int p.1) _
  rw [e]
  refine lcD_fm (fun d => match d with | .int g => if ((look l g).getD 0) ∈ r ∧ g ∉ r then some (.int g) else none | _ => none) (fun d hd Kx hK => ?_) ?_
  · obtain ⟨g, hg, rfl⟩ := List.mem_map.mp hd
    have hK : Kx (if ((look l g).getD 0) ∈ r ∧ g ∉ r then some (.int g) else none) := hK
    refine ⟨_, rfl, getK_at hg ?_⟩
    refine inS_tup (i := (look l g).getD 0) (ns := r) ?_
    refine ite2 (fun c2 => ?_) (fun c2 => ?_)
    · have c2 : (look l g).getD 0 ∈ r := by simpa using c2
      refine inS_tup (i := g) (ns := r) ?_
      refine ite2 (fun c => ?_) (fun c => ?_)
      · have c : g ∉ r := by simpa using c
        rw [if_pos ⟨c2, c⟩] at hK
        exact hK
      · have c : g ∈ r := by simpa using c
        rw [if_neg fun h => h.2 c] at hK
        exact hK
    · have c2 : ¬ (look l g).getD 0 ∈ r := by simpa using c2
      rw [if_neg fun h => c2 h.1] at hK
      exact hK
  · rw [fm_map D.int _ (fun g => if ((look l g).getD 0) ∈ r ∧ g ∉ r then some g else none) D.int _ (fun g _ => by show (if _ then _ else _) = _; split <;> rfl)]
    refine ⟨Nat.zero_le _, eqE_nil (n := 1) (.lst _ _ (Dk_ints _ _)) (by decide) ?_⟩
    have e : (((l.map (·.1)).filterMap fun g => if ((look l g).getD 0) ∈ r ∧ g ∉ r then some g else none).map D.int).isEmpty = shutL l r := by
      unfold shutL
      rw [show ∀ xs : List Int, (xs.map D.int).isEmpty = xs.isEmpty from fun xs => by cases xs <;> rfl, fm_empty]
      congr 1
      funext g
      by_cases h1 : g ∈ r <;> by_cases h2 : (look l g).getD 0 ∈ r <;> simp [h1, h2]
    rw [e]
    exact k
/-! ### _law_grown, _law_rings -/
def sp__law_grown (m : Nat) : Spec := fun _ ds Kd _ => ∃ l b u, ds = [.dic (kvD l), tupD u.reverse] ∧ Kn l ∧ 0 ≤ b ∧ b < 10 ∧ Pth l b u ∧ 11 ≤ u.length + m ∧ m ≤ 11 ∧ Kd (.lst ((res l b u).map tupD))
abbrev N__law_grown : List Str := ["_law_known_here", "_law_some", "_law_last", "_law_found", "_law_goal"]
abbrev ps__law_grown : List Str := ["_law_known_here", "_law_some"]
def m__law_grown (m : Nat) (sa : Option Addr) : MSt :=
  (mSeq (mSet 2 (m2 ixD (mVar 1) (mNeg (mC (.int 1)))))
  (mSeq (mSetF 3 (mLst aNil))
  (mSeq (mIfS (mAnd (mB (m2 (ordD pGt) (mCall lenD (aCons (mVar 1) aNil)) (mC (.int 1)))) (mB (m2 (eqE false) (mGet1 (mVar 0) (m2 ixD (mVar 1) (mC (.int 0)))) (mVar 2)))) (mAppend 3 (mVar 1)) mNext)
  (mSeq (mFor (.nm 4) (mIter (mCall sortedD (aCons (mVar 0) aNil))) (mIfS (mAnd (mB (m2 (eqE false) (m2 getK (mVar 0) (mVar 4)) (mVar 2))) (mAnd (mB (m2 (ordD pGt) (mVar 4) (m2 ixD (mVar 1) (mC (.int 0))))) (mB (m2 (inS true) (mVar 4) (mVar 1))))) (mExtend 3 (mCallU sa (sp__law_grown m) (aCons (mVar 0) (aCons (m2 addD (mVar 1) (mTup (aCons (mVar 4) aNil))) aNil)))) mNext))
  (mRetO 3)))))
theorem atI_end {α : Type} (xs : List α) (x : α) : atI (xs ++ [x]) (-1) = some x := atI_last xs x
theorem pu__law_grown (m : Nat) (sa : Option Addr) (ds : List D) (Kd : D → Prop) (KX : Exn → Prop) (hl : ds.length = 2) (h : sp__law_grown (m + 1) sa ds Kd KX) : m__law_grown m sa (startS N__law_grown.length ds) { nx := fun _ => true = false ∧ Kd .non, rt := Kd, ex := KX } := by
  obtain ⟨l, b, u, rfl, K, b0, b1, p, hm, hm2, k⟩ := h
  have hk := K.keys
  have hul := p.len K ⟨b0, b1⟩
  cases u with
  | nil => exact absurd p.ch (fun h => h)
  | cons x r =>
    have e1 : (x :: r).reverse.map D.int = r.reverse.map D.int ++ [D.int x] := by simp
    obtain ⟨v, ev, hv⟩ := p.ex
    have e2 : (x :: r).reverse = b :: v.reverse := by rw [ev]; simp
    have at0 : ∀ (K : D → Prop), K (.int b) → ixD (tupD (x :: r).reverse) (.int 0) K := fun K hK => by
      refine ixD_tup (d := .int b) ?_ hK
      rw [e2]
      exact atI_nat (j := 0) rfl
    refine ixD_tup (d := .int x) (by rw [e1]; exact atI_end _ _) ?_
    refine ⟨Nat.zero_le _, fun q => ?_⟩
    -- the loop over the goals, then the end
    have loop : ∀ p1 : List (List Int), p1.length ≤ 1 → p1 ++ (sortI (l.map (·.1))).flatMap (part2 l b x r) = res l b (x :: r) →
        mSeq (mFor (.nm 4) (mIter (mCall sortedD (aCons (mVar 0) aNil))) (mIfS (mAnd (mB (m2 (eqE false) (m2 getK (mVar 0) (mVar 4)) (mVar 2))) (mAnd (mB (m2 (ordD pGt) (mVar 4) (m2 ixD (mVar 1) (mC (.int 0))))) (mB (m2 (inS true) (mVar 4) (mVar 1))))) (mExtend 3 (mCallU sa (sp__law_grown m) (aCons (mVar 0) (aCons (m2 addD (mVar 1) (mTup (aCons (mVar 4) aNil))) aNil)))) mNext))
          (mRetO 3) [some (.sh (.dic (kvD l))), some (.sh (tupD (x :: r).reverse)), some (.sh (.int x)), some (.own q (.lst (p1.map tupD))), none] { nx := fun _ => true = false ∧ Kd .non, rt := Kd, ex := KX } := by
      intro p1 hp1 hres
      refine sortedD_dic ?_
      rw [keys_kv]
      refine forD_at (fun i env => ∃ e4, env = [some (.sh (.dic (kvD l))), some (.sh (tupD (x :: r).reverse)), some (.sh (.int x)), some (.own q (.lst ((p1 ++ ((sortI (l.map (·.1))).take i).flatMap (part2 l b x r)).map tupD))), e4]) ⟨none, by rw [List.take_zero, List.flatMap_nil, List.append_nil]⟩ ?_ ?_
      · rintro i d env nx hi ⟨e4, rfl⟩ hn
        rw [List.getElem?_map] at hi
        cases hg : (sortI (l.map (·.1)))[i]? with
        | none => rw [hg] at hi; cases hi
        | some g =>
          rw [hg] at hi
          cases hi
          have hgm := hk.2 g (List.mem_of_getElem? hg)
          have hnext : ((sortI (l.map (·.1))).take (i + 1)).flatMap (part2 l b x r) = ((sortI (l.map (·.1))).take i).flatMap (part2 l b x r) ++ part2 l b x r g := by
            rw [List.take_add_one, hg, List.flatMap_append]
            simp
          have skip : part2 l b x r g = [] → nx [some (.sh (.dic (kvD l))), some (.sh (tupD (x :: r).reverse)), some (.sh (.int x)), some (.own q (.lst ((p1 ++ ((sortI (l.map (·.1))).take i).flatMap (part2 l b x r)).map tupD))), some (.sh (.int g))] := fun e => hn _ ⟨_, by rw [hnext, e, List.append_nil]⟩
          have p2no : ¬ okg l b x (x :: r) g → part2 l b x r g = [] := fun h => by unfold part2; rw [if_neg h]
          obtain ⟨y, hy⟩ := look_some hgm.1
          refine ⟨_, rfl, getK_at hgm.1 ?_⟩
          rw [hy]
          refine eqE_int (i := y) (j := x) ?_
          refine ite2 (fun c => ?_) (fun c => ?_)
          · have c : y = x := by simpa using c
            refine at0 _ ?_
            refine ite2 (fun c2 => ?_) (fun c2 => ?_)
            · have c2 : b < g := of_decide_eq_true c2
              refine inS_tup (i := g) (ns := (x :: r).reverse) ?_
              refine ite2 (fun c3 => ?_) (fun c3 => ?_)
              · have c3 : g ∉ x :: r := fun h => neT c3 (List.mem_reverse.mpr h)
                have hok : okg l b x (x :: r) g := ⟨by rw [hy, c], c2, c3⟩
                have e3 : (x :: r).reverse.map D.int ++ [D.int g] = (g :: x :: r).reverse.map D.int := by simp
                refine ⟨z1, sz_ok ?_, ?_⟩
                · rw [List.length_map, List.length_reverse]
                  show (x :: r).length + 1 ≤ _
                  omega
                · refine ⟨l, b, g :: x :: r, (by
                    show [D.dic (kvD l), D.tup ((x :: r).reverse.map D.int ++ [D.int g])] = _
                    rw [e3]), K, b0, b1, p.cons hok, by rw [List.length_cons]; omega, by omega, ?_, ?_⟩
                  · have h1 := res_len (l := l) (b := b) (u := g :: x :: r)
                    have h2 : (((sortI (l.map (·.1))).take i).flatMap (part2 l b x r)).length ≤ 10 := by
                      have : ∀ ks : List Int, (ks.flatMap (part2 l b x r)).length ≤ ks.length := fun ks => by
                        induction ks with
                        | nil => simp
                        | cons k ks ih =>
                          rw [List.flatMap_cons, List.length_append, List.length_cons]
                          have : (part2 l b x r k).length ≤ 1 := by
                            unfold part2
                            split
                            · exact res_len
                            · simp
                          omega
                      exact Nat.le_trans (this _) (Nat.le_trans (List.length_take_le' _ _) hk.1)
                    exact sz_ok (by rw [List.length_map, List.length_map, List.length_append]; omega)
                  · have e5 : part2 l b x r g = res l b (g :: x :: r) := by unfold part2; rw [if_pos hok]
                    refine hn _ ⟨some (.sh (.int g)), ?_⟩
                    rw [hnext, e5, ← List.append_assoc, List.map_append (l₁ := p1 ++ _)]
                    rfl
              · have c3 : g ∈ x :: r := List.mem_reverse.mp (neF c3)
                exact skip (p2no fun h => h.2.2 c3)
            · have c2 : ¬ b < g := fun h => c2 (decide_eq_true h)
              exact skip (p2no fun h => c2 h.2.1)
          · have c : ¬ y = x := by simpa using c
            refine skip (p2no fun h => c ?_)
            have := h.1
            rw [hy] at this
            exact Option.some.inj this
      · rintro env ⟨e4, rfl⟩
        rw [List.length_map, List.take_length, hres]
        exact k
    show (if pGt (((x :: r).reverse.map D.int).length : Int) 1 = true then _ else _)
    have step := grown_step K p (sortI_perm (l.map (·.1)))
    by_cases c : r = []
    · rw [if_neg (by rw [c]; exact fun h => absurd (of_decide_eq_true h) (by show ¬ (1 : Int) < ((1 : Nat) : Int); decide))]
      have hn : ¬ (r ≠ [] ∧ look l b = some x) := fun h => h.1 c
      rw [if_neg hn] at step
      exact loop [] (by simp) step
    · have hlen : 1 < (((x :: r).reverse.map D.int).length : Int) := by
        rw [List.length_map, List.length_reverse, List.length_cons]
        have := List.length_pos_iff.mpr c
        omega
      rw [if_pos (decide_eq_true hlen)]
      refine ⟨⟨_, rfl⟩, at0 _ ?_⟩
      refine get1_of (i := b) ?_
      rw [valD_kv, getD_opt]
      refine eqE_opt (o := look l b) (p := some x) ?_
      refine ite2 (fun c2 => ?_) (fun c2 => ?_)
      · have c2 : look l b = some x := by simpa using c2
        rw [if_pos ⟨c, c2⟩] at step
        exact ⟨sz_lt (by decide), loop [(x :: r).reverse] (by simp) step⟩
      · have c2 : ¬ look l b = some x := by simpa using c2
        rw [if_neg fun h => c2 h.2] at step
        exact loop [] (by simp) step
def sp__law_rings : Spec := fun _ ds Kd _ => ∃ l, ds = [.dic (kvD l)] ∧ Kn l ∧ Kd (.lst ((ringsL l).map tupD))
abbrev N__law_rings : List Str := ["_law_known_here", "_law_found", "_law_box", "_law_ring"]
abbrev ps__law_rings : List Str := ["_law_known_here"]
def m__law_rings (sa : Option Addr) : MSt :=
  (mSeq (mSetF 1 (mLst aNil))
  (mSeq (mFor (.nm 2) (mIter (mCall sortedD (aCons (mVar 0) aNil))) (mFor (.nm 3) (mIter (mCallU sa (sp__law_grown 11) (aCons (mVar 0) (aCons (mTup (aCons (mVar 2) aNil)) aNil)))) (mAppend 1 (mVar 3))))
  (mRetO 1)))
theorem pu__law_rings (sa : Option Addr) (ds : List D) (Kd : D → Prop) (KX : Exn → Prop) (hl : ds.length = 1) (h : sp__law_rings sa ds Kd KX) : m__law_rings sa (startS N__law_rings.length ds) { nx := fun _ => true = false ∧ Kd .non, rt := Kd, ex := KX } := by
  obtain ⟨l, rfl, K, k⟩ := h
  have hk := K.keys
  refine ⟨Nat.zero_le _, fun q => ?_⟩
  refine sortedD_dic ?_
  rw [keys_kv]
  refine forD_at (fun i env => ∃ e2 e3, env = [some (.sh (.dic (kvD l))), some (.own q (.lst ((((sortI (l.map (·.1))).take i).filterMap (ringOf l)).map tupD))), e2, e3]) ⟨none, none, by rw [List.take_zero]; rfl⟩ ?_ ?_
  · rintro i d env nx hi ⟨e2, e3, rfl⟩ hn
    rw [List.getElem?_map] at hi
    cases hg : (sortI (l.map (·.1)))[i]? with
    | none => rw [hg] at hi; cases hi
    | some g =>
      rw [hg] at hi
      cases hi
      have hgm := hk.2 g (List.mem_of_getElem? hg)
      have hnext : ((sortI (l.map (·.1))).take (i + 1)).filterMap (ringOf l) = ((sortI (l.map (·.1))).take i).filterMap (ringOf l) ++ (ringOf l g).toList := by
        rw [List.take_add_one, hg, List.filterMap_append]
        show _ ++ List.filterMap (ringOf l) [g] = _
        rw [List.filterMap_cons]
        cases ringOf l g <;> rfl
      have hlen : (((sortI (l.map (·.1))).take i).filterMap (ringOf l)).length ≤ 10 := Nat.le_trans (List.length_filterMap_le _ _) (Nat.le_trans (List.length_take_le' _ _) hk.1)
      refine ⟨_, rfl, z1, l, g, [g], rfl, K, hgm.2.1, hgm.2.2, .one l g, by simp, by omega, ?_⟩
      rw [res_one]
      cases hr : ringOf l g with
      | none => exact hn _ ⟨_, _, by rw [hnext, hr, Option.toList_none, List.append_nil]; rfl⟩
      | some r =>
        refine ⟨_, rfl, sz_lt (by rw [List.length_map]; omega), hn _ ⟨some (.sh (.int g)), some (.sh (tupD r)), ?_⟩⟩
        rw [hnext, hr, List.map_append]
        rfl
  · rintro env ⟨e2, e3, rfl⟩
    rw [List.length_map, List.take_length]
    exact k
end L3
/-! P3: single moves: what the code computes -/
namespace L3
open PySem PySem.Spec PyProof.Rows L2
theorem cp_ne : ¬ (("swap" : Str) = "copy") := by decide +kernel
def mvD : Mv → D
  | .cp a b => .tup [.str "copy", .int a, .int b]
  | .sw a b => .tup [.str "swap", .int a, .int b]
theorem Dk_moves (ms : List Mv) (h : ms.length ≤ 1000) : Dk 2 (.lst (ms.map mvD)) := .lst _ _ fun d hd => by
  obtain ⟨m, _, rfl⟩ := List.mem_map.mp hd
  cases m with
  | cp a b =>
    refine .tup _ _ fun d hd => ?_
    simp only [List.mem_cons, List.mem_nil_iff, or_false] at hd
    rcases hd with rfl | rfl | rfl
    · exact .str _ _ (by decide +kernel)
    · exact .int _ _
    · exact .int _ _
  | sw a b =>
    refine .tup _ _ fun d hd => ?_
    simp only [List.mem_cons, List.mem_nil_iff, or_false] at hd
    rcases hd with rfl | rfl | rfl
    · exact .str _ _ (by decide +kernel)
    · exact .int _ _
    · exact .int _ _
def wl (n : Nat) (F : Int → Int) : List D := (List.range n).map fun i => .int (F (i : Nat))
theorem wl_len (n : Nat) (F : Int → Int) : (wl n F).length = n := by unfold wl; rw [List.length_map, List.length_range]
theorem wl_get {n i : Nat} (F : Int → Int) (h : i < n) : (wl n F)[i]? = some (.int (F i)) := by
  unfold wl
  rw [List.getElem?_map, List.getElem?_range h]
  rfl
theorem wl_at {n : Nat} {a : Int} (F : Int → Int) (h0 : 0 ≤ a) (h : a < n) : atI (wl n F) a = some (.int (F a)) := by
  have e : a = ((a.toNat : Nat) : Int) := by omega
  rw [e]
  exact atI_nat (wl_get F (by omega))
theorem wl_ix {n : Nat} {a : Int} (F : Int → Int) (h0 : 0 ≤ a) (h : a < n) : ixN (wl n F).length a = some a.toNat := by
  rw [wl_len]
  unfold ixN
  rw [if_pos h0, if_pos h]
theorem wl_set {n : Nat} {a v : Int} (F : Int → Int) (h0 : 0 ≤ a) (h : a < n) : (wl n F).set a.toNat (.int v) = wl n (fun x => if x = a then v else F x) := by
  apply List.ext_getElem?
  intro i
  rw [List.getElem?_set, wl_len]
  by_cases hi : i < n
  · rw [wl_get _ hi, wl_get _ hi]
    by_cases c : a.toNat = i
    · rw [if_pos c, if_pos (by omega), if_pos (by omega)]
    · rw [if_neg c, if_neg (by omega)]
  · have h1 : (wl n F)[i]? = none := List.getElem?_eq_none (by rw [wl_len]; omega)
    have h2 : (wl n (fun x => if x = a then v else F x))[i]? = none := List.getElem?_eq_none (by rw [wl_len]; omega)
    rw [h1, h2]
    split
    · split
      · omega
      · rfl
    · rfl
theorem wl_ext {n : Nat} {F G : Int → Int} (h : ∀ x, 0 ≤ x → x < n → F x = G x) : wl n F = wl n G := by
  unfold wl
  apply List.map_congr_left
  intro i hi
  have := List.mem_range.mp hi
  rw [h i (by omega) (by omega)]
theorem wl_of {r : List D} (h : ∀ y ∈ r, ∃ v, y = D.int v) : ∃ F, r = wl r.length F := by
  refine ⟨fun x => match r[x.toNat]? with | some (.int v) => v | _ => 0, ?_⟩
  apply List.ext_getElem?
  intro i
  by_cases hi : i < r.length
  · rw [wl_get _ hi, List.getElem?_eq_getElem hi]
    obtain ⟨v, hv⟩ := h _ (List.getElem_mem hi)
    rw [hv]
    rw [show ((i : Nat) : Int).toNat = i by omega, List.getElem?_eq_getElem hi, hv]
  · rw [List.getElem?_eq_none (by omega), List.getElem?_eq_none (by rw [wl_len]; omega)]
theorem wl_dk (n m : Nat) (F : Int → Int) : Dk (m + 1) (.lst (wl n F)) := .lst _ _ fun d hd => by
  obtain ⟨i, _, rfl⟩ := List.mem_map.mp hd
  exact .int _ _
/-! ### _law_worths -/
def sp__law_worths : Spec := fun sa ds Kd _ => ∃ a b, sa = some a ∧ ds = [.ref a, .int b] ∧ 0 ≤ b ∧ b ≤ 1000 ∧ ∀ F, Kd (.lst (wl b.toNat F))
abbrev N__law_worths : List Str := ["_law_state", "_law_boxes_here", "_law_far_here", "_law_box"]
abbrev ps__law_worths : List Str := ["_law_state", "_law_boxes_here"]
def m__law_worths (sa : Option Addr) : MSt :=
  (mSeq (mSet 2 (m2 ixD (mLst (aCons (mC (.int 5)) (aCons (mC (.int 100)) (aCons (m2 powD (mC (.int 10)) (mC (.int 29))) aNil)))) (mCallU sa sp__law_drawn (aCons (mVar 0) (aCons (mC (.int 3)) aNil)))))
  (mRet (mLc (.nm 3) [3] (mRange (aCons (mVar 1) aNil)) tYesM (m2 subD (mCallU sa sp__law_drawn (aCons (mVar 0) (aCons (mVar 2) aNil))) (m2 mulD (mCallU sa sp__law_drawn (aCons (mVar 0) (aCons (mC (.int 2)) aNil))) (mVar 2))))))
theorem pu__law_worths (sa : Option Addr) (ds : List D) (Kd : D → Prop) (KX : Exn → Prop) (hl : ds.length = 2) (h : sp__law_worths sa ds Kd KX) : m__law_worths sa (startS N__law_worths.length ds) { nx := fun _ => false = false ∧ Kd .non, rt := Kd, ex := KX } := by
  obtain ⟨a, b, rfl, rfl, b0, b1, k⟩ := h
  refine ⟨⟨by decide, by decide, by decide⟩, z3, dr (by decide) (by decide) fun i i0 i1 => ?_⟩
  have rest : ∀ far : Int, 0 < far → far ≤ 10 ^ 29 → mRet (mLc (.nm 3) [3] (mRange (aCons (mVar 1) aNil)) tYesM (m2 subD (mCallU (some a) sp__law_drawn (aCons (mVar 0) (aCons (mVar 2) aNil))) (m2 mulD (mCallU (some a) sp__law_drawn (aCons (mVar 0) (aCons (mC (.int 2)) aNil))) (mVar 2)))) [some (.sh (.ref a)), some (.sh (.int b)), some (.sh (.int far)), none] { nx := fun _ => false = false ∧ Kd .non, rt := Kd, ex := KX } := by
    intro far f0 f1
    refine ⟨by omega, by omega, by rw [List.length_map, List.length_range]; omega, lcD_any (fun y => ∃ v, y = D.int v) (fun d hd K hK => ?_) fun r hr hp => ?_⟩
    · obtain ⟨j, _, rfl⟩ := List.mem_map.mp hd
      refine ⟨_, rfl, dr f0 (Int.lt_of_le_of_lt f1 (by decide)) fun x x0 x1 => dr (by decide) (by decide) fun y y0 y1 => ⟨.inl ⟨by omega, by omega⟩, hK _ ⟨_, rfl⟩⟩⟩
    · obtain ⟨F, hF⟩ := wl_of hp
      rw [List.length_map, List.length_range] at hr
      show Kd (.lst r)
      rw [hF, hr]
      exact k F
  have hi : i = 0 ∨ i = 1 ∨ i = 2 := by omega
  rcases hi with rfl | rfl | rfl
  · exact ixD_lst rfl (rest 5 (by decide) (by decide))
  · exact ixD_lst rfl (rest 100 (by decide) (by decide))
  · exact ixD_lst rfl (rest (10 ^ 29) (by decide) (by decide))
/-! ### _law_moved -/
def Mv.inb (n : Int) : Mv → Prop
  | .cp a b => 0 ≤ a ∧ a < n ∧ 0 ≤ b ∧ b < n
  | .sw a b => 0 ≤ a ∧ a < n ∧ 0 ≤ b ∧ b < n
def sp__law_moved : Spec := fun _ ds Kd _ => ∃ n F ms, ds = [.lst (wl n F), .lst (ms.map mvD)] ∧ (∀ m ∈ ms, Mv.inb n m) ∧ Kd (.lst (wl n (run ms F)))
abbrev N__law_moved : List Str := ["_law_worths_here", "_law_moves", "_law_found", "_law_word", "_law_one", "_law_other", "_law_had"]
abbrev ps__law_moved : List Str := ["_law_worths_here", "_law_moves"]
def m__law_moved (sa : Option Addr) : MSt :=
  (mSeq (mSetF 2 (mCall listD (aCons (mVar 0) aNil)))
  (mSeq (mFor (.tp [3, 4, 5]) (mIter (mVar 1)) (mIfS (mB (m2 (eqE false) (mVar 3) (mC (.str "copy")))) (mSetIx 2 (mVar 4) (m2 ixD (mVar 2) (mVar 5))) (mSeq (mSetL 6 (m2 ixD (mVar 2) (mVar 4)))
      (mSeq (mSetIx 2 (mVar 4) (m2 ixD (mVar 2) (mVar 5)))
      (mSetIx 2 (mVar 5) (mVar 6))))))
  (mRetO 2)))
theorem pu__law_moved (sa : Option Addr) (ds : List D) (Kd : D → Prop) (KX : Exn → Prop) (hl : ds.length = 2) (h : sp__law_moved sa ds Kd KX) : m__law_moved sa (startS N__law_moved.length ds) { nx := fun _ => true = false ∧ Kd .non, rt := Kd, ex := KX } := by
  obtain ⟨n, F, ms, rfl, hb, k⟩ := h
  refine fun q => ?_
  refine forD_at (fun i env => ∃ e3 e4 e5 e6, env = [some (.sh (.lst (wl n F))), some (.sh (.lst (ms.map mvD))), some (.own q (.lst (wl n (run (ms.take i) F)))), e3, e4, e5, e6]) ⟨_, _, _, _, rfl⟩ ?_ ?_
  · rintro i d env nx hi ⟨e3, e4, e5, e6, rfl⟩ hn
    rw [List.getElem?_map] at hi
    cases hm : ms[i]? with
    | none => rw [hm] at hi; cases hi
    | some m =>
      rw [hm] at hi
      cases hi
      have hin := hb m (List.mem_of_getElem? hm)
      have hnext : run (ms.take (i + 1)) F = stp (run (ms.take i) F) m := by
        rw [List.take_add_one, hm, run_app]
        rfl
      generalize run (ms.take i) F = G at *
      cases m with
      | cp a b =>
        obtain ⟨a0, a1, b0, b1⟩ := hin
        refine ⟨_, rfl, eqE_str ?_⟩
        refine ixD_lst (wl_at G b0 b1) ⟨rfl, ?_⟩
        show match ixN (wl n G).length a with | some j => _ | none => False
        rw [wl_ix G a0 a1]
        refine hn _ ⟨some (.sh (.str "copy")), some (.sh (.int a)), some (.sh (.int b)), e6, ?_⟩
        rw [hnext]
        have e : wl n (stp G (.cp a b)) = (wl n G).set a.toNat (.int (G b)) := (wl_set G a0 a1).symm
        rw [e]
        rfl
      | sw a b =>
        obtain ⟨a0, a1, b0, b1⟩ := hin
        refine ⟨_, rfl, eqE_str ?_⟩
        refine ixD_lst (wl_at G a0 a1) ⟨rfl, ?_⟩
        refine ixD_lst (wl_at G b0 b1) ⟨rfl, ?_⟩
        show match ixN (wl n G).length a with | some j => _ | none => False
        rw [wl_ix G a0 a1]
        refine ⟨rfl, ?_⟩
        show match ixN ((wl n G).set a.toNat (.int (G b))).length b with | some j => _ | none => False
        rw [wl_set G a0 a1, wl_ix _ b0 b1]
        refine hn _ ⟨some (.sh (.str "swap")), some (.sh (.int a)), some (.sh (.int b)), some (.sh (.int (G a))), ?_⟩
        rw [hnext]
        have e : wl n (stp G (.sw a b)) = (wl n fun x => if x = a then G b else G x).set b.toNat (.int (G a)) := by
          rw [wl_set _ b0 b1]
          refine wl_ext fun x _ _ => ?_
          show (if x = a then G b else if x = b then G a else G x) = if x = b then G a else if x = a then G b else G x
          by_cases h1 : x = a <;> by_cases h2 : x = b
          · rw [if_pos h1, if_pos h2, ← h1, ← h2]
          · rw [if_pos h1, if_neg h2, if_pos h1]
          · rw [if_neg h1, if_pos h2, if_pos h2]
          · rw [if_neg h1, if_neg h2, if_neg h2, if_neg h1]
        rw [e, ← wl_set G a0 a1]
        rfl
  · rintro env ⟨e3, e4, e5, e6, rfl⟩
    rw [List.length_map, List.take_length]
    exact k
/-! ### moves that can be -/
def Mv.good (n : Int) : Mv → Prop
  | .cp a b => 0 ≤ a ∧ a < n ∧ 0 ≤ b ∧ b < n ∧ a ≠ b
  | .sw a b => 0 ≤ a ∧ a < n ∧ 0 ≤ b ∧ b < n ∧ a ≠ b
theorem Mv.good.inb {n : Int} : ∀ {m : Mv}, Mv.good n m → Mv.inb n m
  | .cp _ _, h => ⟨h.1, h.2.1, h.2.2.1, h.2.2.2.1⟩
  | .sw _ _, h => ⟨h.1, h.2.1, h.2.2.1, h.2.2.2.1⟩
inductive IsMv (n : Int) : D → Bool → Prop
  | len (xs : List D) : xs.length ≠ 3 → IsMv n (.tup xs) false
  | mk (w : Str) (i j : Int) : IsMv n (.tup [.str w, .int i, .int j]) ((decide (w = "copy") || decide (w = "swap")) && (!decide (i = j) && ((decide (0 ≤ i) && decide (i < n)) && (decide (0 ≤ j) && decide (j < n)))))
theorem Mv.good.is {n : Int} {m : Mv} (h : Mv.good n m) : IsMv n (mvD m) true := by
  cases m with
  | cp a b =>
    obtain ⟨a0, a1, b0, b1, ne⟩ := h
    have q := IsMv.mk (n := n) "copy" a b
    rw [decide_eq_true rfl, decide_eq_false ne, decide_eq_true a0, decide_eq_true a1, decide_eq_true b0, decide_eq_true b1] at q
    exact q
  | sw a b =>
    obtain ⟨a0, a1, b0, b1, ne⟩ := h
    have q := IsMv.mk (n := n) "swap" a b
    rw [show decide (("swap" : Str) = "swap") = true by decide +kernel, decide_eq_false ne, decide_eq_true a0, decide_eq_true a1, decide_eq_true b0, decide_eq_true b1, Bool.or_true] at q
    exact q
/-! ### is_move -/
theorem inS_w2 {neg : Bool} {w a b : Str} {K : D → Prop} (k : K (.bl (if neg then !(decide (w = a) || decide (w = b)) else (decide (w = a) || decide (w = b))))) : inS neg (.str w) (.tup (([a, b] : List Str).map D.str)) K := by
  unfold inS
  refine ⟨rfl, rfl, ?_⟩
  have e : inV (fv (.str w)) ((([a, b] : List Str).map D.str).map fv) = (decide (w = a) || decide (w = b)) := by
    have q : ∀ x : Str, (x == w) = decide (w = x) := fun x => by
      by_cases h : w = x
      · subst h
        rw [decide_eq_true rfl]
        exact beq_self_eq_true w
      · rw [decide_eq_false h]
        exact beq_eq_false_iff_ne.mpr (Ne.symm h)
    show (a == w || (b == w || false)) = _
    rw [Bool.or_false, q a, q b]
  rw [e]
  exact k
def sp_is_move : Spec := fun _ ds Kd _ => ∃ n d b, ds = [.int n, d] ∧ IsMv n d b ∧ Kd (.bl b)
abbrev N_is_move : List Str := ["boxes", "move"]
abbrev ps_is_move : List Str := ["boxes", "move"]
def m_is_move (sa : Option Addr) : MSt :=
  (mSeq (mIfS (mOr (mB (m2 (eqE true) (mCall lenD (aCons (mVar 1) aNil)) (mC (.int 3)))) (mOr (mB (m2 (inS true) (m2 ixD (mVar 1) (mC (.int 0))) (mC (.tup ((["copy", "swap"] : List Str).map D.str))))) (mB (m2 (eqE false) (m2 ixD (mVar 1) (mC (.int 1))) (m2 ixD (mVar 1) (mC (.int 2))))))) (mRet (mC (.bl false))) mNext)
  (mRet (mAndV (mCallU sa sp_is_box (aCons (mVar 0) (aCons (m2 ixD (mVar 1) (mC (.int 1))) aNil))) (mCallU sa sp_is_box (aCons (mVar 0) (aCons (m2 ixD (mVar 1) (mC (.int 2))) aNil))))))
theorem pu_is_move (sa : Option Addr) (ds : List D) (Kd : D → Prop) (KX : Exn → Prop) (hl : ds.length = 2) (h : sp_is_move sa ds Kd KX) : m_is_move sa (startS N_is_move.length ds) { nx := fun _ => false = false ∧ Kd .non, rt := Kd, ex := KX } := by
  obtain ⟨n, d, b, rfl, hi, k⟩ := h
  cases hi with
  | len xs h3 =>
    refine eqE_int ?_
    have e : decide ((xs.length : Int) = 3) = false := decide_eq_false (by omega)
    rw [e]
    exact k
  | mk w i j =>
    refine eqE_int ?_
    refine ixD_tup rfl (inS_w2 ?_)
    generalize (decide (w = "copy") || decide (w = "swap")) = c at k ⊢
    cases c with
    | false => exact k
    | true =>
      refine ixD_tup rfl (ixD_tup rfl (eqE_int ?_))
      generalize decide (i = j) = e at k ⊢
      cases e with
      | true => exact k
      | false =>
        refine ixD_tup rfl ⟨n, i, rfl, ?_⟩
        generalize (decide (0 ≤ i) && decide (i < n)) = f at k ⊢
        cases f with
        | false => exact k
        | true => exact ixD_tup rfl ⟨n, j, rfl, k⟩
/-! ### do_move -/
def sp_do_move : OSpec := fun xs ds Kl => ∃ (n : Nat) (F : Int → Int) (m : Mv), xs = wl n F ∧ ds = [mvD m] ∧ Mv.inb n m ∧ Kl (wl n (stp F m))
abbrev N_do_move : List Str := ["worths", "move", "word", "one", "other", "had"]
abbrev ps_do_move : List Str := ["worths", "move"]
def m_do_move (sa : Option Addr) : MSt :=
  (mSeq (mSetT (.tp [2, 3, 4]) (mVar 1))
  (mSeq (mSetL 5 (m2 ixD (mVar 0) (mVar 3)))
  (mSeq (mSetIx 0 (mVar 3) (m2 ixD (mVar 0) (mVar 4)))
  (mIfS (mB (m2 (eqE false) (mVar 2) (mC (.str "swap")))) (mSetIx 0 (mVar 4) (mVar 5)) mNext))))
theorem pu_do_move (p : Addr) (xs ds : List D) (Kl : List D → Prop) (hl : ds.length = 1) (h : sp_do_move xs ds Kl) : m_do_move none (startO N_do_move.length p xs ds) { nx := fun env => ∃ xs', env[0]? = some (some (.own p (.lst xs'))) ∧ Kl xs', rt := fun _ => False } := by
  obtain ⟨n, G, m, rfl, rfl, hin, k⟩ := h
  cases m with
  | cp a b =>
    obtain ⟨a0, a1, b0, b1⟩ := hin
    refine ⟨_, rfl, ?_⟩
    refine ixD_lst (wl_at G a0 a1) ⟨rfl, ?_⟩
    refine ixD_lst (wl_at G b0 b1) ⟨rfl, ?_⟩
    show match ixN (wl n G).length a with | some j => _ | none => False
    rw [wl_ix G a0 a1]
    refine eqE_str ⟨_, rfl, ?_⟩
    show Kl ((wl n G).set a.toNat (.int (G b)))
    rw [wl_set G a0 a1]
    exact k
  | sw a b =>
    obtain ⟨a0, a1, b0, b1⟩ := hin
    refine ⟨_, rfl, ?_⟩
    refine ixD_lst (wl_at G a0 a1) ⟨rfl, ?_⟩
    refine ixD_lst (wl_at G b0 b1) ⟨rfl, ?_⟩
    show match ixN (wl n G).length a with | some j => _ | none => False
    rw [wl_ix G a0 a1]
    refine eqE_str ⟨rfl, ?_⟩
    show match ixN ((wl n G).set a.toNat (.int (G b))).length b with | some j => _ | none => False
    rw [wl_set G a0 a1, wl_ix _ b0 b1]
    refine ⟨_, rfl, ?_⟩
    rw [← wl_set G a0 a1]
    rw [wl_set G a0 a1, wl_set _ b0 b1]
    have e : wl n (stp G (.sw a b)) = wl n fun x => if x = b then G a else if x = a then G b else G x := wl_ext fun x _ _ => by
      show (if x = a then G b else if x = b then G a else G x) = if x = b then G a else if x = a then G b else G x
      by_cases h1 : x = a <;> by_cases h2 : x = b
      · rw [if_pos h1, if_pos h2, ← h1, ← h2]
      · rw [if_pos h1, if_neg h2, if_pos h1]
      · rw [if_neg h1, if_pos h2, if_pos h2]
      · rw [if_neg h1, if_neg h2, if_neg h2, if_neg h1]
    rw [← e]
    exact k
/-! ### done -/
def sp_done : Spec := fun _ ds Kd KX => (∃ (n : Nat) (F : Int → Int) (ms : List Mv), ds = [.lst (wl n F), .lst (ms.map mvD)] ∧ n ≤ 1000 ∧ (∀ m ∈ ms, Mv.good n m) ∧ Kd (.lst (wl n (run ms F)))) ∨
  ∃ (n : Nat) (F : Int → Int) (ms : List Mv) (bad : D) (rest : List D), ds = [.lst (wl n F), .lst (ms.map mvD ++ bad :: rest)] ∧ n ≤ 1000 ∧ (∀ m ∈ ms, Mv.good n m) ∧ IsMv n bad false ∧ KX ⟨"BadMove", some (ms.length : Nat)⟩
abbrev N_done : List Str := ["worths", "moves", "found", "number", "move"]
abbrev ps_done : List Str := ["worths", "moves"]
def m_done (sa : Option Addr) : MSt :=
  (mSeq (mSetF 2 (mCall listD (aCons (mVar 0) aNil)))
  (mSeq (mFor (.tp [3, 4]) (mEnum (mVar 1)) (mSeq (mIfS (mNot (mB (mCallU sa sp_is_move (aCons (mCall lenD (aCons (mVar 2) aNil)) (aCons (mVar 4) aNil))))) (mRaiseN "BadMove" (mVar 3)) mNext)
    (mCallO 2 sp_do_move (aCons (mVar 4) aNil))))
  (mRetO 2)))
theorem pu_done (sa : Option Addr) (ds : List D) (Kd : D → Prop) (KX : Exn → Prop) (hl : ds.length = 2) (h : sp_done sa ds Kd KX) : m_done sa (startS N_done.length ds) { nx := fun _ => true = false ∧ Kd .non, rt := Kd, ex := KX } := by
  have main : ∀ (n : Nat) (F : Int → Int) (ms : List Mv) (tl : List D), n ≤ 1000 → (∀ m ∈ ms, Mv.good n m) → (tl = [] → Kd (.lst (wl n (run ms F)))) → (∀ bad rest, tl = bad :: rest → IsMv n bad false ∧ KX ⟨"BadMove", some (ms.length : Nat)⟩) →
      m_done sa (startS N_done.length [.lst (wl n F), .lst (ms.map mvD ++ tl)]) { nx := fun _ => true = false ∧ Kd .non, rt := Kd, ex := KX } := by
    intro n F ms tl hn hg h1 h2
    refine fun q => ?_
    refine forD_at (fun i env => i ≤ ms.length ∧ ∃ e3 e4, env = [some (.sh (.lst (wl n F))), some (.sh (.lst (ms.map mvD ++ tl))), some (.own q (.lst (wl n (run (ms.take i) F)))), e3, e4]) ⟨Nat.zero_le _, _, _, rfl⟩ ?_ ?_
    · rintro i d env nx hi ⟨hle, e3, e4, rfl⟩ hnx
      rw [List.getElem?_map, List.getElem?_zipIdx] at hi
      by_cases c : i < ms.length
      · rw [List.getElem?_append_left (by rw [List.length_map]; exact c), List.getElem?_map, List.getElem?_eq_getElem c] at hi
        have hm := hg _ (List.getElem_mem c)
        have hs : run (ms.take (i + 1)) F = stp (run (ms.take i) F) ms[i] := by
          rw [List.take_add_one, List.getElem?_eq_getElem c, run_app]
          rfl
        generalize ms[i] = m at *
        cases hi
        refine ⟨_, rfl, ((wl n (run (ms.take i) F)).length : Nat), mvD m, true, rfl, by rw [wl_len]; exact hm.is, ?_⟩
        refine ⟨n, _, m, rfl, rfl, hm.inb, hnx _ ⟨c, some (.sh (.int ((0 + i : Nat) : Int))), some (.sh (mvD m)), ?_⟩⟩
        rw [hs]
        rfl
      · have e : i = ms.length := Nat.le_antisymm hle (Nat.le_of_not_lt c)
        cases tl with
        | nil =>
          rw [List.append_nil, List.getElem?_map, List.getElem?_eq_none (Nat.le_of_not_lt c)] at hi
          cases hi
        | cons bad rest =>
          obtain ⟨hb, hx⟩ := h2 bad rest rfl
          rw [List.getElem?_append_right (by rw [List.length_map]; omega), List.length_map, e, Nat.sub_self] at hi
          cases hi
          refine ⟨_, rfl, ((wl n (run (ms.take i) F)).length : Nat), bad, false, rfl, by rw [wl_len]; exact hb, ?_⟩
          show KX ⟨"BadMove", some ((0 + ms.length : Nat) : Int)⟩
          rw [Nat.zero_add]
          exact hx
    · rintro env ⟨hle, e3, e4, rfl⟩
      rw [List.length_map, List.length_zipIdx, List.length_append, List.length_map] at hle
      have e : tl = [] := List.eq_nil_of_length_eq_zero (by omega)
      subst e
      rw [List.length_map, List.length_zipIdx, List.append_nil, List.length_map, List.take_length]
      exact h1 rfl
  rcases h with ⟨n, F, ms, rfl, hn, hg, k⟩ | ⟨n, F, ms, bad, rest, rfl, hn, hg, hb, k⟩
  · have := main n F ms [] hn hg (fun _ => k) (fun _ _ e => nomatch e)
    rw [List.append_nil] at this
    exact this
  · exact main n F ms (bad :: rest) hn hg (fun e => nomatch e) (fun b r e => by cases e; exact ⟨hb, k⟩)
/-! ### moved -/
def sp_moved : Spec := fun sa ds Kd KX => ∃ (n : Nat) (F : Int → Int) (x : D), ds = [.lst (wl n F), x] ∧ 1 ≤ n ∧ n ≤ 10 ∧ sp_done sa [.lst (wl n F), x] Kd KX
abbrev N_moved : List Str := ["worths", "moves"]
abbrev ps_moved : List Str := ["worths", "moves"]
def m_moved (sa : Option Addr) : MSt :=
  (mSeq (mExpr (mCallU sa sp_need_boxes (aCons (mCall lenD (aCons (mVar 0) aNil)) aNil)))
  (mRet (mCallU sa sp_done (aCons (mVar 0) (aCons (mVar 1) aNil)))))
theorem pu_moved (sa : Option Addr) (ds : List D) (Kd : D → Prop) (KX : Exn → Prop) (hl : ds.length = 2) (h : sp_moved sa ds Kd KX) : m_moved sa (startS N_moved.length ds) { nx := fun _ => true = false ∧ Kd .non, rt := Kd, ex := KX } := by
  obtain ⟨n, F, x, rfl, h1, h2, k⟩ := h
  exact ⟨((wl n F).length : Nat), rfl, by rw [wl_len]; omega, by rw [wl_len]; omega, k⟩
end L3
set_option pp.maxSteps 400
/-! P6n: leads done at once; trees, swaps -/
namespace L3
open PySem PySem.Spec PyProof.Rows L2
def sp__law_at_once : Spec := fun _ ds Kd _ => ∃ n F l, ds = [.lst (wl n F), leadD l] ∧ n ≤ 1000 ∧ Lead n l ∧ Kd (.lst (wl n fun x => F (src l x)))
abbrev N__law_at_once : List Str := ["_law_worths_here", "_law_lead_here", "_law_known_here", "_law_box"]
abbrev ps__law_at_once : List Str := ["_law_worths_here", "_law_lead_here"]
def m__law_at_once (sa : Option Addr) : MSt :=
  (mSeq (mSet 2 (mCall dictD (aCons (mVar 1) aNil)))
  (mRet (mLc (.nm 3) [3] (mRange (aCons (mCall lenD (aCons (mVar 0) aNil)) aNil)) tYesM (m2 ixD (mVar 0) (mGetD (mVar 2) (mVar 3) (mVar 3))))))
theorem src_bd {b : Int} {l : List (Int × Int)} (L : Lead b l) {x : Int} (h0 : 0 ≤ x) (h : x < b) : 0 ≤ src l x ∧ src l x < b := by
  unfold src
  cases e : look l x with
  | none => exact ⟨h0, h⟩
  | some v =>
    have := L.bd _ (look_mem e)
    exact ⟨this.2.2.1, this.2.2.2⟩
theorem get_src (l : List (Int × Int)) (x : Int) : (valD (kvD l) x).getD (.int x) = .int (src l x) := by
  rw [valD_kv]
  unfold src
  cases look l x <;> rfl
theorem pu__law_at_once (sa : Option Addr) (ds : List D) (Kd : D → Prop) (KX : Exn → Prop) (hl : ds.length = 2) (h : sp__law_at_once sa ds Kd KX) : m__law_at_once sa (startS N__law_at_once.length ds) { nx := fun _ => false = false ∧ Kd .non, rt := Kd, ex := KX } := by
  obtain ⟨n, F, l, rfl, hn, L, k⟩ := h
  refine dict_lead L.nd ?_
  refine ⟨by rw [wl_len]; omega, by rw [wl_len]; omega, by rw [List.length_map, List.length_range, wl_len]; omega, ?_⟩
  rw [wl_len]
  refine lcD_fm (fun d => match d with | .int x => some (.int (F (src l x))) | _ => none) (fun d hd K hK => ?_) ?_
  · obtain ⟨i, hi, rfl⟩ := List.mem_map.mp hd
    have hi := List.mem_range.mp hi
    have hs := src_bd L (x := (i : Nat)) (by omega) (by omega)
    refine ⟨_, rfl, ⟨_, rfl⟩, ?_⟩
    show ixD (.lst (wl n F)) ((valD (kvD l) (i : Nat)).getD (.int (i : Nat))) _
    rw [get_src]
    exact ixD_lst (wl_at F hs.1 hs.2) hK
  · have e : ((List.range ((n : Int)).toNat).map fun i : Nat => D.int (i : Int)).filterMap (fun d => match d with | .int x => some (.int (F (src l x))) | _ => none) = wl n fun x => F (src l x) := by
      rw [List.filterMap_map]
      unfold wl
      rw [show ((n : Int)).toNat = n by omega, ← List.filterMap_eq_map']
      rfl
    rw [e]
    exact k
/-! ### around_of, tree_copies, by_swaps -/
def sp_around_of : Spec := fun _ ds Kd _ => ∃ rs : List (List Int), ds = [.lst (rs.map tupD)] ∧ rs.flatten.length ≤ 1000 ∧ Kd (.lst (rs.flatten.map .int))
abbrev N_around_of : List Str := ["some", "found", "ring"]
abbrev ps_around_of : List Str := ["some"]
def m_around_of (sa : Option Addr) : MSt :=
  (mSeq (mSetF 1 (mLst aNil))
  (mSeq (mFor (.nm 2) (mIter (mVar 0)) (mExtend 1 (mCall listD (aCons (mVar 2) aNil))))
  (mRetO 1)))
theorem pu_around_of (sa : Option Addr) (ds : List D) (Kd : D → Prop) (KX : Exn → Prop) (hl : ds.length = 1) (h : sp_around_of sa ds Kd KX) : m_around_of sa (startS N_around_of.length ds) { nx := fun _ => true = false ∧ Kd .non, rt := Kd, ex := KX } := by
  obtain ⟨rs, rfl, hlen, k⟩ := h
  refine ⟨Nat.zero_le _, fun q => ?_⟩
  refine forD_at (fun i env => ∃ e2, env = [some (.sh (.lst (rs.map tupD))), some (.own q (.lst ((rs.take i).flatten.map D.int))), e2]) ⟨_, rfl⟩ ?_ ?_
  · rintro i d env nx hi ⟨e2, rfl⟩ hn
    rw [List.getElem?_map] at hi
    cases hm : rs[i]? with
    | none => rw [hm] at hi; cases hi
    | some r =>
      rw [hm] at hi
      cases hi
      have hnext : (rs.take (i + 1)).flatten = (rs.take i).flatten ++ r := by
        rw [List.take_add_one, hm, List.flatten_append]
        simp
      have hle : (rs.take (i + 1)).flatten.length ≤ rs.flatten.length := by
        have h : rs = rs.take (i + 1) ++ rs.drop (i + 1) := (List.take_append_drop _ _).symm
        have h2 := congrArg (fun z : List (List Int) => z.flatten.length) h
        simp only [List.flatten_append, List.length_append] at h2
        omega
      rw [hnext, List.length_append] at hle
      refine ⟨_, rfl, sz_ok (by rw [List.length_map, List.length_map]; omega), hn _ ⟨some (.sh (tupD r)), ?_⟩⟩
      rw [hnext, List.map_append]
      rfl
  · rintro env ⟨e2, rfl⟩
    rw [List.length_map, List.take_length]
    exact k
def sp_tree_copies : Spec := fun _ ds Kd _ => ∃ l, ds = [.dic (kvD l), .lst ((aroundL l).map .int)] ∧ Kn l ∧ ∀ ms, TrInv l [] ms → Kd (.lst (ms.map mvD))
abbrev N_tree_copies : List Str := ["known", "around", "left", "goal", "found", "one", "other"]
abbrev ps_tree_copies : List Str := ["known", "around"]
def m_tree_copies (sa : Option Addr) : MSt :=
  (mSeq (mSetF 2 (mLc (.nm 3) [3] (mIter (mCall sortedD (aCons (mVar 0) aNil))) (mB (m2 (inS true) (mVar 3) (mVar 1))) (mVar 3)))
  (mSeq (mSetF 4 (mLst aNil))
  (mSeq (mWhile (mB (m2 (eqE true) (mVar 2) (mLst aNil))) (mSeq (mSetL 3 (m2 ixD (mLc (.nm 5) [5] (mIter (mVar 2)) (mB (m2 (eqE false) (mLc (.nm 6) [6] (mIter (mVar 2)) (mB (m2 (eqE false) (m2 getK (mVar 0) (mVar 6)) (mVar 5))) (mVar 6)) (mLst aNil))) (mVar 5)) (mC (.int 0))))
    (mSeq (mAppend 4 (mTup (aCons (mC (.str "copy")) (aCons (mVar 3) (aCons (m2 getK (mVar 0) (mVar 3)) aNil)))))
    (mRemove 2 (mVar 3)))))
  (mRetO 4))))
theorem pu_tree_copies (sa : Option Addr) (ds : List D) (Kd : D → Prop) (KX : Exn → Prop) (hl : ds.length = 2) (h : sp_tree_copies sa ds Kd KX) : m_tree_copies sa (startS N_tree_copies.length ds) { nx := fun _ => true = false ∧ Kd .non, rt := Kd, ex := KX } := by
  obtain ⟨l, rfl, K, k⟩ := h
  have hk := K.keys
  refine sortedD_dic ?_
  rw [keys_kv]
  refine ⟨by rw [List.length_map]; omega, lcD_fm (fun d => match d with | .int g => if (!decide (g ∈ aroundL l)) then some (.int g) else none | _ => none) (fun d hd Kx hK => ?_) ?_⟩
  · obtain ⟨g, hg, rfl⟩ := List.mem_map.mp hd
    have hK : Kx (if (!decide (g ∈ aroundL l)) then some (.int g) else none) := hK
    refine ⟨_, rfl, inS_lst (i := g) (ns := aroundL l) (ite2 (fun c => ?_) (fun c => ?_))⟩
    · have c : (!decide (g ∈ aroundL l)) = true := c
      rw [if_pos c] at hK
      exact hK
    · have c : ¬(!decide (g ∈ aroundL l)) = true := c
      rw [if_neg c] at hK
      exact hK
  · rw [fm_map D.int _ (fun g => if (!decide (g ∈ aroundL l)) then some g else none) D.int _ (fun g _ => by show (if _ then _ else _) = _; split <;> rfl), fm_filter]
    refine fun q => ⟨Nat.zero_le _, fun q2 => ⟨(treeL l).length + 1, ?_⟩⟩
    have go : ∀ (n : Nat) (left : List Int) (ms : List Mv) (e3 e5 e6 : Option Slot), left.length = n → TrInv l left ms →
        whileD (mB (m2 (eqE true) (mVar 2) (mLst aNil))) (mSeq (mSetL 3 (m2 ixD (mLc (.nm 5) [5] (mIter (mVar 2)) (mB (m2 (eqE false) (mLc (.nm 6) [6] (mIter (mVar 2)) (mB (m2 (eqE false) (m2 getK (mVar 0) (mVar 6)) (mVar 5))) (mVar 6)) (mLst aNil))) (mVar 5)) (mC (.int 0))))
          (mSeq (mAppend 4 (mTup (aCons (mC (.str "copy")) (aCons (mVar 3) (aCons (m2 getK (mVar 0) (mVar 3)) aNil)))))
          (mRemove 2 (mVar 3)))) { nx := fun env' => mRetO 4 env' { nx := fun _ => true = false ∧ Kd .non, rt := Kd, ex := KX }, rt := Kd, ex := KX } (n + 1)
          [some (.sh (.dic (kvD l))), some (.sh (.lst ((aroundL l).map D.int))), some (.own q (.lst (left.map D.int))), e3, some (.own q2 (.lst (ms.map mvD))), e5, e6] := by
      intro n
      induction n with
      | zero =>
        intro left ms e3 e5 e6 hn I
        have e := List.eq_nil_of_length_eq_zero hn
        subst e
        exact ⟨Nat.zero_le _, eqE_nil (n := 1) (.lst _ _ (by simp)) (by decide) (k ms I)⟩
      | succ n ih =>
        intro left ms e3 e5 e6 hn I
        have hne : left ≠ [] := fun e => by rw [e] at hn; simp at hn
        refine ⟨Nat.zero_le _, eqE_nil (n := 1) (.lst _ _ (Dk_ints _ _)) (by decide) ?_⟩
        have em : (left.map D.int).isEmpty = false := by cases left with | nil => exact absurd rfl hne | cons _ _ => rfl
        rw [em]
        have hlt : left.length ≤ 10 := by
          have h1 : ∀ x ∈ left, 0 ≤ x ∧ x < 10 := fun x hx => by
            have := (treeL_mem.mp (I.sub x hx)).1
            obtain ⟨p, hp, e⟩ := List.mem_map.mp this
            have := K.L.bd p hp
            rw [← e]
            exact ⟨this.1, this.2.1⟩
          exact nodup_len (b := 10) I.nd h1
        have hkey : ∀ x ∈ left, x ∈ l.map (·.1) := fun x hx => (treeL_mem.mp (I.sub x hx)).1
        let leaf : Int → Bool := fun g => left.all fun o => !decide (look l o = some g)
        refine ⟨by rw [List.length_map]; omega, lcD_fm (fun d => match d with | .int g => if leaf g then some (.int g) else none | _ => none) (fun d hd Kx hK => ?_) ?_⟩
        · obtain ⟨g, hg, rfl⟩ := List.mem_map.mp hd
          have hK : Kx (if leaf g then some (.int g) else none) := hK
          refine ⟨_, rfl, by rw [List.length_map]; omega, lcD_fm (fun d => match d with | .int o => if decide (look l o = some g) then some (.int o) else none | _ => none) (fun d hd Ky hKy => ?_) ?_⟩
          · obtain ⟨o, ho, rfl⟩ := List.mem_map.mp hd
            have hKy : Ky (if decide (look l o = some g) then some (.int o) else none) := hKy
            obtain ⟨v, hv⟩ := look_some (hkey o ho)
            refine ⟨_, rfl, getK_at (hkey o ho) ?_⟩
            rw [hv]
            rw [hv] at hKy
            refine eqE_int (i := v) (j := g) (ite2 (fun c => ?_) (fun c => ?_))
            · have c : v = g := eqT c
              rw [if_pos (by rw [c]; exact decide_eq_true rfl)] at hKy
              exact hKy
            · have c : ¬ v = g := eqF c
              rw [if_neg (by intro h; exact c (Option.some.inj (of_decide_eq_true h)))] at hKy
              exact hKy
          · rw [fm_map D.int _ (fun o => if decide (look l o = some g) then some o else none) D.int _ (fun o _ => by show (if _ then _ else _) = _; split <;> rfl)]
            refine ⟨Nat.zero_le _, eqE_nil (n := 1) (.lst _ _ (Dk_ints _ _)) (by decide) ?_⟩
            have e : ((left.filterMap fun o => if decide (look l o = some g) then some o else none).map D.int).isEmpty = leaf g := by
              rw [show ∀ xs : List Int, (xs.map D.int).isEmpty = xs.isEmpty from fun xs => by cases xs <;> rfl, fm_empty]
              show _ = left.all _
              congr 1
              funext o
              by_cases h : look l o = some g <;> simp [h]
            rw [e]
            refine ite2 (fun c => ?_) (fun c => ?_)
            · have c : leaf g = true := c
              rw [if_pos c] at hK
              exact hK
            · have c : ¬ leaf g = true := c
              rw [if_neg c] at hK
              exact hK
        · rw [fm_map D.int _ (fun g => if leaf g then some g else none) D.int _ (fun g _ => by show (if _ then _ else _) = _; split <;> rfl), fm_filter]
          obtain ⟨g0, hg0, hl0⟩ := I.leaf K hne
          have hf : g0 ∈ left.filter leaf := List.mem_filter.mpr ⟨hg0, List.all_eq_true.mpr fun o ho => by simpa using hl0 o ho⟩
          cases hc : left.filter leaf with
          | nil => rw [hc] at hf; cases hf
          | cons g rest =>
            have hg : g ∈ left.filter leaf := by rw [hc]; exact List.mem_cons_self
            have hgl := (List.mem_filter.mp hg).1
            have hleaf : ∀ o ∈ left, look l o ≠ some g := fun o ho => by
              have := List.all_eq_true.mp (List.mem_filter.mp hg).2 o ho
              simpa using this
            obtain ⟨s, hs⟩ := look_some (hkey g hgl)
            have hms : ms.length ≤ 10 := by
              have := I.len
              have h2 : (treeL l).length ≤ 10 := Nat.le_trans (List.length_filter_le _ _) hk.1
              omega
            refine ixD_lst (d := .int g) (atI_nat (j := 0) rfl) ⟨rfl, ?_⟩
            refine getK_at (hkey g hgl) ⟨z3, sz_lt (by rw [List.length_map]; omega), ?_⟩
            rw [hs]
            show match intsOf (left.map D.int) with | some ns => _ | none => False
            rw [intsOf_ints]
            refine ⟨hgl, ?_⟩
            have := ih (left.erase g) (ms ++ [.cp g s]) (some (.sh (.int g))) e5 e6 (by rw [List.length_erase_of_mem hgl]; omega) (I.step hgl hleaf hs)
            rw [List.map_append] at this
            exact this
    exact go _ (treeL l) [] none none none rfl (TrInv.start K)
def sp_by_swaps : Spec := fun _ ds Kd _ => ∃ b l, ds = [.int b, leadD l] ∧ Lead b l ∧ 1 ≤ b ∧ b ≤ 10 ∧ ∀ ms, SwOk b (kn l) ms → Kd (.lst (ms.map mvD))
abbrev N_by_swaps : List Str := ["boxes", "lead", "known", "every", "found", "ring", "box"]
abbrev ps_by_swaps : List Str := ["boxes", "lead"]
def m_by_swaps (sa : Option Addr) : MSt :=
  (mSeq (mExpr (mCallU sa sp_need_lead (aCons (mVar 0) (aCons (mVar 1) aNil))))
  (mSeq (mSet 2 (mCallU sa sp_real_pairs (aCons (mVar 1) aNil)))
  (mSeq (mSet 3 (mCallU sa sp_rings_of (aCons (mVar 2) aNil)))
  (mSeq (mSetF 4 (mCallU sa sp_tree_copies (aCons (mVar 2) (aCons (mCallU sa sp_around_of (aCons (mVar 3) aNil)) aNil))))
  (mSeq (mFor (.nm 5) (mIter (mVar 3)) (mExtend 4 (mLc (.nm 6) [6] (mIter (mSl slD (mVar 5) (oSome (mC (.int 1))) oNone)) tYesM (mTup (aCons (mC (.str "swap")) (aCons (m2 ixD (mVar 5) (mC (.int 0))) (aCons (mVar 6) aNil)))))))
  (mRetO 4))))))
theorem cutD_1 {α : Type} (xs : List α) : cutD xs (some 1) none = xs.drop 1 := by
  unfold cutD
  rw [show HT.sIx xs.length 0 (some 1) = min 1 xs.length from HT.sIx_nat xs.length 0 1, HT.sIx_none]
  cases xs with
  | nil => rfl
  | cons x r =>
    rw [show min 1 (x :: r).length = 1 by
      rw [List.length_cons]
      omega]
    show (List.take ((x :: r).length - 1) r) = r
    rw [List.length_cons, Nat.add_sub_cancel]
    exact List.take_length
theorem around_len {l : List (Int × Int)} (K : Kn l) : (aroundL l).length ≤ 10 := by
  have h1 := tree_len K
  have h2 := K.L.len (by decide)
  omega
theorem flat_take_len {α β : Type} (f : α → List β) (rs : List α) (i : Nat) : ((rs.take i).flatMap f).length ≤ (rs.flatMap f).length := by
  have h : rs = rs.take i ++ rs.drop i := (List.take_append_drop _ _).symm
  have h2 := congrArg (fun z : List α => (z.flatMap f).length) h
  simp only [List.flatMap_append, List.length_append] at h2
  omega
theorem pu_by_swaps (sa : Option Addr) (ds : List D) (Kd : D → Prop) (KX : Exn → Prop) (hl : ds.length = 2) (h : sp_by_swaps sa ds Kd KX) : m_by_swaps sa (startS N_by_swaps.length ds) { nx := fun _ => true = false ∧ Kd .non, rt := Kd, ex := KX } := by
  obtain ⟨b, l, rfl, L, b0, b1, k⟩ := h
  have K := Kn.of L b1
  refine ⟨b, l, rfl, L, b0, b1, b, l, rfl, L, by omega, b1, kn l, rfl, K, ringsL (kn l), rfl, ?_, kn l, rfl, K, fun ms I q => ?_⟩
  · exact Nat.le_trans (around_len K) (by decide)
  · have hall := all_len K I
    have hkl := K.L.len (by decide)
    refine forD_at (fun i env => ∃ e5 e6, env = [some (.sh (.int b)), some (.sh (leadD l)), some (.sh (.dic (kvD (kn l)))), some (.sh (.lst ((ringsL (kn l)).map tupD))), some (.own q (.lst ((ms ++ ((ringsL (kn l)).take i).flatMap ringSw).map mvD))), e5, e6]) ⟨none, none, by rw [List.take_zero, List.flatMap_nil, List.append_nil]; rfl⟩ ?_ ?_
    · rintro i d env nx hi ⟨e5, e6, rfl⟩ hn
      rw [List.getElem?_map] at hi
      cases hm : (ringsL (kn l))[i]? with
      | none => rw [hm] at hi; cases hi
      | some r =>
        rw [hm] at hi
        cases hi
        have hrm := List.mem_of_getElem? hm
        have hnext : ((ringsL (kn l)).take (i + 1)).flatMap ringSw = ((ringsL (kn l)).take i).flatMap ringSw ++ ringSw r := by
          rw [List.take_add_one, hm, List.flatMap_append]
          simp
        have hle := flat_take_len ringSw (ringsL (kn l)) (i + 1)
        rw [hnext, List.length_append] at hle
        rw [List.length_append] at hall
        unfold swapsL at hall
        obtain ⟨b', q', c, rfl⟩ := ringsL_rg hrm
        have hsw : (ringSw (b' :: q'.reverse)).length = q'.reverse.length := by
          show (q'.reverse.map (Mv.sw b')).length = _
          rw [List.length_map]
        have hcut : cutD ((b' :: q'.reverse).map D.int) (some 1) none = q'.reverse.map D.int := by
          rw [cutD_1]
          rfl
        refine ⟨_, rfl, ?_⟩
        show (cutD ((b' :: q'.reverse).map D.int) (some 1) none).length ≤ 100000 ∧ _
        show _ ∧ lcD _ _ _ _ (cutD ((b' :: q'.reverse).map D.int) (some 1) none) _
        rw [hcut]
        refine ⟨by rw [List.length_map]; omega, lcD_fm (fun d => match d with | .int x => some (mvD (.sw b' x)) | _ => none) (fun d hd Kx hK => ?_) ?_⟩
        · obtain ⟨x, hx, rfl⟩ := List.mem_map.mp hd
          exact ⟨_, rfl, ixD_tup (d := .int b') (atI_nat (j := 0) rfl) ⟨z3, hK⟩⟩
        · rw [fm_map D.int _ (fun x => some (Mv.sw b' x)) mvD _ (fun x _ => rfl), List.filterMap_eq_map']
          refine ⟨sz_ok ?_, hn _ ⟨some (.sh (tupD (b' :: q'.reverse))), e6, ?_⟩⟩
          · rw [List.length_map, List.length_map, List.length_map, List.length_append]
            omega
          · rw [hnext, ← List.append_assoc, List.map_append (l₁ := ms ++ _)]
            rfl
    · rintro env ⟨e5, e6, rfl⟩
      rw [List.length_map, List.take_length]
      exact k _ (SwOk.of K L.kn I)
end L3
/-! K00: small ones for the laws -/
namespace L3
open PySem PySem.Spec PyProof.Rows L2
theorem no__law_same : ∀ sa ds Kd KX, sp__law_same 0 sa ds Kd KX → False := fun sa ds Kd KX ⟨_, d, j, hj, _⟩ => by omega
theorem no__law_grown : ∀ sa ds Kd KX, sp__law_grown 0 sa ds Kd KX → False := fun sa ds Kd KX ⟨l, b, u, _, K, b0, b1, p, hm, _⟩ => by
  have := p.len K ⟨b0, b1⟩
  omega
theorem Ds_rings {rs : List (List Int)} (h1 : rs.length ≤ 1000) (h2 : ∀ r ∈ rs, r.length ≤ 1000) : Ds 3 (.lst (rs.map tupD)) := .lst 2 _ (by rw [List.length_map]; omega) fun d hd => by
  obtain ⟨r, hr, rfl⟩ := List.mem_map.mp hd
  refine .tup 1 _ (by rw [List.length_map]; exact Nat.le_trans (h2 r hr) (by decide)) fun e he => ?_
  obtain ⟨i, _, rfl⟩ := List.mem_map.mp he
  exact .int _ i
theorem Dk_lead (l : List (Int × Int)) : Dk 2 (leadD l) := .lst _ _ fun d hd => by
  obtain ⟨p, _, rfl⟩ := List.mem_map.mp hd
  exact .tup _ _ fun d hd => by
    rcases List.mem_cons.mp hd with e | e
    · rw [e]; exact .int _ _
    · rw [List.mem_singleton.mp e]; exact .int _ _
end L3
/-! PF: _law_far -/
namespace L3
open PySem PySem.Spec PyProof.Rows L2
/-! ### _law_far -/
def sp__law_far : Spec := fun sa ds Kd _ => ∃ a m, sa = some a ∧ ds = [.ref a, .int m] ∧ ∀ v : Int, v < 0 ∨ m < v → Kd (.int v)
abbrev N__law_far : List Str := ["_law_state", "_law_most", "_law_far_here"]
abbrev ps__law_far : List Str := ["_law_state", "_law_most"]
def m__law_far (sa : Option Addr) : MSt :=
  (mSeq (mSet 2 (m2 ixD (mLst (aCons (mC (.int 1)) (aCons (mC (.int 20)) (aCons (m2 powD (mC (.int 10)) (mC (.int 29))) aNil)))) (mCallU sa sp__law_drawn (aCons (mVar 0) (aCons (mC (.int 3)) aNil)))))
  (mRet (m2 ixD (mLst (aCons (m2 subD (m2 subD (mC (.int 0)) (mC (.int 1))) (mCallU sa sp__law_drawn (aCons (mVar 0) (aCons (mVar 2) aNil)))) (aCons (m2 addD (m2 addD (mVar 1) (mC (.int 1))) (mCallU sa sp__law_drawn (aCons (mVar 0) (aCons (mVar 2) aNil)))) aNil))) (mCallU sa sp__law_drawn (aCons (mVar 0) (aCons (mC (.int 2)) aNil))))))
theorem pu__law_far (sa : Option Addr) (ds : List D) (Kd : D → Prop) (KX : Exn → Prop) (hl : ds.length = 2) (h : sp__law_far sa ds Kd KX) : m__law_far sa (startS N__law_far.length ds) { nx := fun _ => false = false ∧ Kd .non, rt := Kd, ex := KX } := by
  obtain ⟨a, m, rfl, rfl, k⟩ := h
  refine ⟨⟨by decide, by decide, by decide⟩, z3, dr (by decide) (by decide) fun i i0 i1 => ?_⟩
  have rest : ∀ far : Int, 0 < far → far ≤ 10 ^ 29 → mRet (m2 ixD (mLst (aCons (m2 subD (m2 subD (mC (.int 0)) (mC (.int 1))) (mCallU (some a) sp__law_drawn (aCons (mVar 0) (aCons (mVar 2) aNil)))) (aCons (m2 addD (m2 addD (mVar 1) (mC (.int 1))) (mCallU (some a) sp__law_drawn (aCons (mVar 0) (aCons (mVar 2) aNil)))) aNil))) (mCallU (some a) sp__law_drawn (aCons (mVar 0) (aCons (mC (.int 2)) aNil)))) [some (.sh (.ref a)), some (.sh (.int m)), some (.sh (.int far))] { nx := fun _ => false = false ∧ Kd .non, rt := Kd, ex := KX } := by
    intro far f0 f1
    have f2 : far < 1606938044258990275541962092341162602522202993782792835301376 := Int.lt_of_le_of_lt f1 (by decide)
    refine dr f0 f2 fun x x0 x1 => dr f0 f2 fun y y0 y1 => ⟨z2, dr (by decide) (by decide) fun j j0 j1 => ?_⟩
    have hj : j = 0 ∨ j = 1 := by omega
    rcases hj with rfl | rfl
    · exact ixD_lst rfl (k _ (.inl (by omega)))
    · exact ixD_lst rfl (k _ (.inr (by omega)))
  have hi : i = 0 ∨ i = 1 ∨ i = 2 := by omega
  rcases hi with rfl | rfl | rfl
  · exact ixD_lst rfl (rest 1 (by decide) (by decide))
  · exact ixD_lst rfl (rest 20 (by decide) (by decide))
  · exact ixD_lst rfl (rest (10 ^ 29) (by decide) (by decide))
end L3
set_option pp.maxSteps 400
/-! P4b: small plain ones (out of P4, for laws without does) -/
namespace L3
open PySem PySem.Spec PyProof.Rows L2
theorem z0 : 0 ≤ sizeLine := by decide
theorem inS_lstE {neg : Bool} {i : Int} {ns : List Int} {xs : List D} {K : D → Prop} (e : xs = ns.map D.int) (k : K (.bl (if neg then !decide (i ∈ ns) else decide (i ∈ ns)))) : inS neg (.int i) (.lst xs) K := by
  subst e
  exact inS_lst k
theorem lcD_sub {i : Nat} {tt : MTt} {env : EnvE} (hi : (env[i]?).isSome = true) : ∀ {ns : List Int} {ds : List D} {K : List D → Prop}, ds = ns.map D.int → (∀ x ∈ ns, ∀ Kb : Bool → Prop, Kb true → Kb false → tt (env.set i (some (.int x))) Kb (fun _ => False)) → (∀ r : List Int, r.Sublist ns → K (r.map D.int)) → lcD (.nm i) tt (mVar i) env ds K
  | [], _, K, rfl, _, k => k [] (List.Sublist.refl _)
  | x :: ns, _, K, rfl, h, k => by
    refine ⟨_, rfl, ?_⟩
    refine h x List.mem_cons_self _ ?_ ?_
    · rw [if_pos rfl]
      show mVar i (env.set i (some (.int x))) _ _
      unfold mVar
      rw [get_set_self hi]
      exact lcD_sub hi (K := fun r => K (.int x :: r)) rfl (fun y hy => h y (List.mem_cons_of_mem _ hy)) fun r hr => k (x :: r) (hr.cons_cons _)
    · rw [if_neg (by decide)]
      exact lcD_sub hi (K := K) rfl (fun y hy => h y (List.mem_cons_of_mem _ hy)) fun r hr => k r (hr.cons _)
theorem fil_empty (p : Int → Bool) : ∀ ns : List Int, ((ns.filter fun x => !p x).map D.int).isEmpty = ns.all p
  | [] => rfl
  | x :: ns => by
    rw [List.all_cons, List.filter_cons]
    cases h : p x with
    | true =>
      rw [if_neg (by decide), Bool.true_and]
      exact fil_empty p ns
    | false => rfl
theorem valD_some (l : List (Int × Int)) (x : Int) : (valD (kvD l) x).isSome = decide (x ∈ l.map (·.1)) := by
  rw [valD_kv]
  by_cases c : x ∈ l.map (·.1)
  · obtain ⟨v, hv⟩ := look_some c
    rw [hv, decide_eq_true c]
    rfl
  · rw [decide_eq_false c]
    cases q : look l x with
    | none => rfl
    | some v => exact absurd (List.mem_map.mpr ⟨_, look_mem q, rfl⟩) c
theorem keysD_eq (l : List (Int × Int)) : (kvD l).map (fun p => D.int p.1) = l.map fun p => D.int p.1 := by
  unfold kvD
  rw [List.map_map]
  rfl
theorem getK_mem {l : List (Int × Int)} (hn : (l.map (·.1)).Nodup) {p : Int × Int} (hp : p ∈ l) {K : D → Prop} (k : K (.int p.2)) : getK (.dic (kvD l)) (.int p.1) K :=
  getK_of (d := .int p.2) (by rw [valD_kv, look_of hn (show (p.1, p.2) ∈ l from hp)]; rfl) k
theorem cutD_to {α : Type} (xs : List α) (k : Nat) : cutD xs none (some (k : Int)) = xs.take k := by
  unfold cutD
  rw [HT.sIx_none, HT.sIx_nat, List.drop_zero, Nat.sub_zero]
  by_cases h : k ≤ xs.length
  · rw [Nat.min_eq_left h]
  · rw [Nat.min_eq_right (by omega), List.take_length, List.take_of_length_le (by omega)]
theorem cutD_from {α : Type} (xs : List α) (k : Nat) : cutD xs (some (k : Int)) none = xs.drop k := by
  unfold cutD
  rw [HT.sIx_none, HT.sIx_nat, List.take_of_length_le (by rw [List.length_drop]; exact Nat.le_refl _)]
  by_cases h : k ≤ xs.length
  · rw [Nat.min_eq_left h]
  · rw [Nat.min_eq_right (by omega), List.drop_length, List.drop_of_length_le (by omega)]
end L3
set_option pp.maxSteps 400
/-! P12: houses, calls, the steps of a call -/
namespace L3
open PySem PySem.Spec PyProof.Rows L2
theorem eqE_nilV {neg : Bool} {xs : List D} {v : Bool} {K : D → Prop} (hd : Dk 6 (.lst xs)) (e : xs.isEmpty = v) (k : K (.bl (if neg then !v else v))) : eqE neg (.lst xs) (.lst []) K := eqE_nil (n := 6) hd (by decide) (by rw [e]; exact k)
theorem Dk_intsL (ns : List Int) (n : Nat) : Dk (n + 1) (.lst (ns.map D.int)) := .lst _ _ (Dk_ints _ n)
theorem eqvI : ∀ xs ys : List Int, PyData.eqvAll (D.pys (xs.map D.int)) (D.pys (ys.map D.int)) = decide (xs = ys)
  | [], [] => by simp [D.pys, PyData.eqvAll]
  | [], y :: ys => by simp [D.pys, PyData.eqvAll]
  | x :: xs, [] => by simp [D.pys, PyData.eqvAll]
  | x :: xs, y :: ys => by
    have ih := eqvI xs ys
    simp only [List.map_cons, D.pys, PyData.eqvAll, D.py, PyData.eqv, ih, beqI]
    by_cases c : x = y <;> by_cases c2 : xs = ys <;> simp [c, c2]
theorem eqE_ints {neg : Bool} {xs ys : List Int} {K : D → Prop} (k : K (.bl (if neg then !decide (xs = ys) else decide (xs = ys)))) : eqE neg (.lst (xs.map D.int)) (.lst (ys.map D.int)) K :=
  eqE_of (n := 1) (.lst _ _ (Dk_ints _ 0)) (.lst _ _ (Dk_ints _ 0)) (by decide) (by
    show PyData.eqv (.list _) (.list _) = decide (xs = ys)
    rw [← eqvI xs ys, PyData.eqv]) k
theorem eqE_intT {i j : Int} {K : D → Prop} (h : i = j) (k : K (.bl true)) : eqE false (.int i) (.int j) K := by
  subst h
  refine eqE_int ?_
  rw [decide_eq_true rfl]
  exact k
theorem eqE_intF {i j : Int} {K : D → Prop} (h : i = j) (k : K (.bl false)) : eqE true (.int i) (.int j) K := by
  subst h
  refine eqE_int ?_
  rw [decide_eq_true rfl]
  exact k
theorem once_len {ns ys : List Int} (h : LZ.Once ns ys) (hn : ns.Nodup) : ys.length = ns.length := ((List.perm_ext_iff_of_nodup h.1 hn).mpr h.2).length_eq
theorem lenSetT_nd {ns : List Int} {K : D → Prop} (h : ns.length ≤ 4000) (hn : ns.Nodup) (k : K (.int (ns.length : Nat))) : lenSetTD (tupD ns) K := by
  unfold lenSetTD
  exact ⟨ns, intsOf_ints ns, h, fun ys o _ => by rw [once_len o hn]; exact k⟩
theorem lt_nd {ns : List Int} (h : ns.Pairwise (· < ·)) : ns.Nodup := h.imp fun h e => by omega
theorem lt_same {xs ys : List Int} (hx : xs.Pairwise (· < ·)) (hy : ys.Pairwise (· < ·)) (h : ∀ k, k ∈ xs ↔ k ∈ ys) : xs = ys := by
  have hp := (List.perm_ext_iff_of_nodup (lt_nd hx) (lt_nd hy)).mpr h
  rw [sortI_same (ns := ys) hp (hx.imp fun h => Int.le_of_lt h), ← sortI_same (List.Perm.refl ys) (hy.imp fun h => Int.le_of_lt h)]
theorem sortSet_go {d : D} {ns : List Int} {K : D → Prop} (e : seqOf d = some ns) (h : ns.length < 64) (k : ∀ ys : List Int, ys.Pairwise (· < ·) → (∀ j, j ∈ ys ↔ j ∈ ns) → K (.lst (ys.map D.int))) : sortSetD d K := by
  unfold sortSetD
  exact ⟨ns, e, h, k⟩
/-- some of the numbers, of a kind -/
theorem lcD_subP {i : Nat} {tt : MTt} {env : EnvE} {P : Int → Prop} (hi : (env[i]?).isSome = true) : ∀ {ns : List Int} {ds : List D} {K : List D → Prop}, ds = ns.map D.int → (∀ x ∈ ns, ∀ Kb : Bool → Prop, (P x → Kb true) → Kb false → tt (env.set i (some (.int x))) Kb (fun _ => False)) → (∀ r : List Int, r.Sublist ns → (∀ x ∈ r, P x) → K (r.map D.int)) → lcD (.nm i) tt (mVar i) env ds K
  | [], _, K, rfl, _, k => k [] (List.Sublist.refl _) (by simp)
  | x :: ns, _, K, rfl, h, k => by
    refine ⟨_, rfl, h x List.mem_cons_self _ (fun px => ?_) ?_⟩
    · show mVar i (env.set i (some (.int x))) _ (fun _ => False)
      unfold mVar
      rw [get_set_self hi]
      exact lcD_subP hi (K := fun r => K (.int x :: r)) rfl (fun y hy => h y (List.mem_cons_of_mem _ hy)) fun r hr hp => k (x :: r) (hr.cons_cons x) fun y hy => by
        rcases List.mem_cons.mp hy with e | e
        · rw [e]; exact px
        · exact hp y e
    · exact lcD_subP hi (K := K) rfl (fun y hy => h y (List.mem_cons_of_mem _ hy)) fun r hr hp => k r (hr.cons x) hp
/-! ### houses and calls -/
structure HouseOk (b : Int) (ins : List Int) (out : Int) (kept : List Int) : Prop where
  n1 : 1 ≤ ins.length
  n4 : ins.length ≤ 4
  nd : ins.Nodup
  ib : ∀ x ∈ ins, 0 ≤ x ∧ x < b
  ob : 0 ≤ out ∧ out < b
  ok : out ∉ kept
  kr : kept.Pairwise (· < ·)
  kb : ∀ x ∈ kept, 0 ≤ x ∧ x < b
structure CallOk (b : Int) (args : List Int) (goal : Int) (alive : List Int) : Prop where
  n8 : args.length ≤ 8
  ab : ∀ x ∈ args, 0 ≤ x ∧ x < b
  gb : 0 ≤ goal ∧ goal < b
  ga : goal ∉ alive
  ar : alive.Pairwise (· < ·)
  lb : ∀ x ∈ alive, 0 ≤ x ∧ x < b
abbrev houseD (ins : List Int) (out : Int) (kept : List Int) : D := .tup [tupD ins, .int out, tupD kept]
abbrev callA (args : List Int) (goal : Int) (alive : List Int) : D := .tup [.lst (args.map D.int), .int goal, .lst (alive.map D.int)]
def sp__law_house : Spec := fun sa ds Kd _ => ∃ a b, sa = some a ∧ ds = [.ref a, .int b] ∧ 1 ≤ b ∧ b ≤ 10 ∧ ∀ ins out kept, HouseOk b ins out kept → Kd (houseD ins out kept)
abbrev N__law_house : List Str := ["_law_state", "_law_boxes_here", "_law_some", "_law_ins", "_law_out", "_law_often", "_law_kept", "_law_box"]
abbrev ps__law_house : List Str := ["_law_state", "_law_boxes_here"]
def m__law_house (sa : Option Addr) : MSt :=
  (mSeq (mSet 2 (mCallU sa sp__law_order (aCons (mVar 0) (aCons (mListRange (mVar 1)) aNil))))
  (mSeq (mSet 3 (mCall tupleD (aCons (mSl slD (mVar 2) oNone (oSome (m2 addD (mC (.int 1)) (mCallU sa sp__law_drawn (aCons (mVar 0) (aCons (mCall (mm2 fun i j => if j < i then j else i) (aCons (mC (.int 4)) (aCons (mVar 1) aNil))) aNil)))))) aNil)))
  (mSeq (mSet 4 (mCallU sa sp__law_drawn (aCons (mVar 0) (aCons (mVar 1) aNil))))
  (mSeq (mSet 5 (m2 addD (mC (.int 1)) (mCallU sa sp__law_drawn (aCons (mVar 0) (aCons (mC (.int 3)) aNil)))))
  (mSeq (mSet 6 (mCall tupleD (aCons (mLc (.nm 7) [7] (mRange (aCons (mVar 1) aNil)) (mAnd (mB (m2 (eqE true) (mVar 7) (mVar 4))) (mB (m2 (eqE false) (mCallU sa sp__law_drawn (aCons (mVar 0) (aCons (mVar 5) aNil))) (mC (.int 0))))) (mVar 7)) aNil)))
  (mRet (mTup (aCons (mVar 3) (aCons (mVar 4) (aCons (mVar 6) aNil))))))))))
theorem pu__law_house (sa : Option Addr) (ds : List D) (Kd : D → Prop) (KX : Exn → Prop) (hl : ds.length = 2) (h : sp__law_house sa ds Kd KX) : m__law_house sa (startS N__law_house.length ds) { nx := fun _ => false = false ∧ Kd .non, rt := Kd, ex := KX } := by
  obtain ⟨a, b, rfl, rfl, b0, b1, k⟩ := h
  refine ⟨by omega, by omega, a, _, rfl, rfl, fun d hd => ?_, by rw [List.length_map, List.length_range]; omega, fun ys hy => ?_⟩
  · obtain ⟨i, _, rfl⟩ := List.mem_map.mp hd
    exact .int _ _
  · rw [rg_eq] at hy
    obtain ⟨ms, rfl, hm⟩ := perm_ints hy
    have hb : ∀ x ∈ ms, 0 ≤ x ∧ x < b := fun x hx => by have := rgI_mem.mp (hm.mem_iff.mp hx); omega
    have hl : ms.length = b.toNat := by rw [hm.length_eq, rgI_len]
    have hn : ms.Nodup := hm.nodup_iff.mpr (rgI_nodup _)
    refine mm2_go (v := if b < 4 then b else 4) rfl (dr (by split <;> omega) (by split <;> omega) fun c c0 c1 => ?_)
    obtain ⟨j, rfl⟩ : ∃ j : Nat, c = (j : Int) := ⟨c.toNat, by omega⟩
    have hj : j < 4 ∧ j < b.toNat := by
      revert c1
      split <;> omega
    have ec : cutD (ms.map D.int) none (some (1 + (j : Int))) = (ms.take (j + 1)).map D.int := by
      rw [show (1 + (j : Int)) = ((j + 1 : Nat) : Int) by omega, cutD_to, List.map_take]
    refine dr (by omega) (by omega) fun out o0 o1 => dr (by decide) (by decide) fun o p0 p1 => ?_
    refine ⟨by omega, by omega, by rw [List.length_map, List.length_range]; omega, lcD_subP (P := fun x => x ≠ out) rfl (rg_eq _) (fun x hx Kb kt kf => ?_) fun r hr hP => ⟨z3, ?_⟩⟩
    · refine eqE_int (ite2 (fun c => ?_) (fun _ => kf))
      have ne := neT c
      refine dr (by omega) (by omega) fun y y0 y1 => eqE_int ?_
      show Kb (decide (y = 0))
      cases decide (y = 0) with
      | true => exact kt ne
      | false => exact kf
    · show Kd (.tup [.tup (cutD (ms.map D.int) none (some (1 + (j : Int)))), .int out, tupD r])
      rw [ec]
      refine k _ _ _ ⟨?_, ?_, (List.take_sublist _ _).nodup hn, fun x hx => hb x (List.mem_of_mem_take hx), ⟨o0, o1⟩, fun h => hP _ h rfl, (rgI_lt _).sublist hr, fun x hx => by have := rgI_mem.mp (hr.subset hx); omega⟩
      · rw [List.length_take]; omega
      · rw [List.length_take]; omega
def sp__law_call : Spec := fun sa ds Kd _ => ∃ a b, sa = some a ∧ ds = [.ref a, .int b] ∧ 1 ≤ b ∧ b ≤ 10 ∧ ∀ args goal alive, CallOk b args goal alive → Kd (callA args goal alive)
abbrev N__law_call : List Str := ["_law_state", "_law_boxes_here", "_law_args", "_law_k", "_law_goal", "_law_alive", "_law_box"]
abbrev ps__law_call : List Str := ["_law_state", "_law_boxes_here"]
def m__law_call (sa : Option Addr) : MSt :=
  (mSeq (mSet 2 (mLc (.nm 3) [3] (mRange (aCons (mCallU sa sp__law_drawn (aCons (mVar 0) (aCons (m2 ixD (mLst (aCons (mC (.int 4)) (aCons (mC (.int 9)) aNil))) (mCallU sa sp__law_drawn (aCons (mVar 0) (aCons (mC (.int 2)) aNil)))) aNil))) aNil)) tYesM (mCallU sa sp__law_drawn (aCons (mVar 0) (aCons (mVar 1) aNil)))))
  (mSeq (mSet 4 (mCallU sa sp__law_drawn (aCons (mVar 0) (aCons (mVar 1) aNil))))
  (mSeq (mSet 5 (mLc (.nm 6) [6] (mRange (aCons (mVar 1) aNil)) (mAnd (mB (m2 (eqE true) (mVar 6) (mVar 4))) (mB (m2 (eqE false) (mCallU sa sp__law_drawn (aCons (mVar 0) (aCons (mC (.int 2)) aNil))) (mC (.int 1))))) (mVar 6)))
  (mRet (mTup (aCons (mVar 2) (aCons (mVar 4) (aCons (mVar 5) aNil))))))))
theorem ints_of {r : List D} {b : Int} (h : ∀ y ∈ r, ∃ x : Int, y = .int x ∧ 0 ≤ x ∧ x < b) : ∃ ns : List Int, r = ns.map D.int ∧ ∀ x ∈ ns, 0 ≤ x ∧ x < b := by
  induction r with
  | nil => exact ⟨[], rfl, by simp⟩
  | cons y r ih =>
    obtain ⟨x, rfl, hx⟩ := h y List.mem_cons_self
    obtain ⟨ns, rfl, hn⟩ := ih fun z hz => h z (List.mem_cons_of_mem _ hz)
    refine ⟨x :: ns, rfl, fun z hz => ?_⟩
    rcases List.mem_cons.mp hz with e | e
    · rw [e]; exact hx
    · exact hn z e
theorem pu__law_call (sa : Option Addr) (ds : List D) (Kd : D → Prop) (KX : Exn → Prop) (hl : ds.length = 2) (h : sp__law_call sa ds Kd KX) : m__law_call sa (startS N__law_call.length ds) { nx := fun _ => false = false ∧ Kd .non, rt := Kd, ex := KX } := by
  obtain ⟨a, b, rfl, rfl, b0, b1, k⟩ := h
  have rest : ∀ n : Int, 0 < n → n ≤ 9 → mSeq (mSet 2 (mLc (.nm 3) [3] (mRange (aCons (mCallU (some a) sp__law_drawn (aCons (mVar 0) (aCons (mC (.int n)) aNil))) aNil)) tYesM (mCallU (some a) sp__law_drawn (aCons (mVar 0) (aCons (mVar 1) aNil)))))
    (mSeq (mSet 4 (mCallU (some a) sp__law_drawn (aCons (mVar 0) (aCons (mVar 1) aNil))))
    (mSeq (mSet 5 (mLc (.nm 6) [6] (mRange (aCons (mVar 1) aNil)) (mAnd (mB (m2 (eqE true) (mVar 6) (mVar 4))) (mB (m2 (eqE false) (mCallU (some a) sp__law_drawn (aCons (mVar 0) (aCons (mC (.int 2)) aNil))) (mC (.int 1))))) (mVar 6)))
    (mRet (mTup (aCons (mVar 2) (aCons (mVar 4) (aCons (mVar 5) aNil))))))) [some (.sh (.ref a)), some (.sh (.int b)), none, none, none, none, none] { nx := fun _ => false = false ∧ Kd .non, rt := Kd, ex := KX } := by
    intro n n0 n1
    refine dr n0 (by omega) fun c c0 c1 => ⟨by omega, by omega, by rw [List.length_map, List.length_range]; omega, lcD_any (fun y => ∃ x : Int, y = .int x ∧ 0 ≤ x ∧ x < b) (fun d hd K hK => ⟨_, rfl, dr (by omega) (by omega) fun x x0 x1 => hK _ ⟨x, rfl, x0, x1⟩⟩) fun r hr hP => ?_⟩
    obtain ⟨args, rfl, ha⟩ := ints_of hP
    rw [List.length_map, List.length_map, List.length_range] at hr
    refine dr (by omega) (by omega) fun g g0 g1 => ⟨by omega, by omega, by rw [List.length_map, List.length_range]; omega, lcD_subP (P := fun x => x ≠ g) rfl (rg_eq _) (fun x hx Kb kt kf => ?_) fun r hr2 hP2 => ⟨z3, ?_⟩⟩
    · refine eqE_int (ite2 (fun c => ?_) (fun _ => kf))
      have ne := neT c
      refine dr (by decide) (by decide) fun y y0 y1 => eqE_int ?_
      show Kb (decide (y = 1))
      cases decide (y = 1) with
      | true => exact kt ne
      | false => exact kf
    · exact k _ _ _ ⟨by omega, ha, ⟨g0, g1⟩, fun h => hP2 _ h rfl, (rgI_lt _).sublist hr2, fun x hx => by have := rgI_mem.mp (hr2.subset hx); omega⟩
  refine ⟨z2, dr (by decide) (by decide) fun i i0 i1 => ?_⟩
  have hi : i = 0 ∨ i = 1 := by omega
  rcases hi with rfl | rfl
  · exact ixD_lst rfl (rest 4 (by decide) (by decide))
  · exact ixD_lst rfl (rest 9 (by decide) (by decide))
/-! ### asked for -/
def sp_are_rising : Spec := fun _ ds Kd _ => ∃ (b : Int) (d : D) (ns : List Int), ds = [.int b, d] ∧ (d = .lst (ns.map D.int) ∨ d = tupD ns) ∧ ns.length < 64 ∧ ((∀ x ∈ ns, 0 ≤ x ∧ x < b) → ns.Pairwise (· < ·) → Kd (.bl true)) ∧ ((∃ x ∈ ns, ¬(0 ≤ x ∧ x < b)) ∨ ¬ ns.Pairwise (· < ·) → Kd (.bl false))
abbrev N_are_rising : List Str := ["boxes", "some", "box"]
abbrev ps_are_rising : List Str := ["boxes", "some"]
def m_are_rising (sa : Option Addr) : MSt :=
  (mRet (mAndV (m2 (eqE false) (mLc (.nm 2) [2] (mIter (mVar 1)) (mNot (mB (mCallU sa sp_is_box (aCons (mVar 0) (aCons (mVar 2) aNil))))) (mVar 2)) (mLst aNil)) (m2 (eqE false) (mSortedSet (mVar 1)) (mCall listD (aCons (mVar 1) aNil)))))
theorem pu_are_rising (sa : Option Addr) (ds : List D) (Kd : D → Prop) (KX : Exn → Prop) (hl : ds.length = 2) (h : sp_are_rising sa ds Kd KX) : m_are_rising sa (startS N_are_rising.length ds) { nx := fun _ => false = false ∧ Kd .non, rt := Kd, ex := KX } := by
  obtain ⟨b, d, ns, rfl, hd, hn, kt, kf⟩ := h
  let isb : Int → Bool := fun x => decide (0 ≤ x) && decide (x < b)
  have isb_t : ∀ x, isb x = true ↔ 0 ≤ x ∧ x < b := fun x => by
    show (decide (0 ≤ x) && decide (x < b)) = true ↔ _
    rw [Bool.and_eq_true, decide_eq_true_iff, decide_eq_true_iff]
  have fin : ∀ (Kd' : D → Prop), (ns.Pairwise (· < ·) → Kd' (.bl true)) → (¬ns.Pairwise (· < ·) → Kd' (.bl false)) → ∀ ys : List Int, ys.Pairwise (· < ·) → (∀ j, j ∈ ys ↔ j ∈ ns) → eqE false (.lst (ys.map D.int)) (.lst (ns.map D.int)) Kd' := fun Kd' k1 k2 ys hy hm => eqE_ints (by
    by_cases c : ns.Pairwise (· < ·)
    · rw [lt_same hy c hm, decide_eq_true rfl]
      exact k1 c
    · rw [decide_eq_false (show ¬ ys = ns from fun e => c (by rw [← e]; exact hy))]
      exact k2 c)
  have two : (ns.all isb = true → ns.Pairwise (· < ·) → Kd (.bl true)) ∧ (ns.all isb = true → ¬ ns.Pairwise (· < ·) → Kd (.bl false)) ∧ (ns.all isb = false → Kd (.bl false)) := by
    refine ⟨fun h => kt fun x hx => (isb_t x).mp (List.all_eq_true.mp h x hx), fun _ h => kf (.inr h), fun h => kf (.inl ?_)⟩
    obtain ⟨x, hx, hb⟩ := List.all_eq_false.mp h
    exact ⟨x, hx, fun q => hb ((isb_t x).mpr q)⟩
  obtain ⟨k1, k2, k3⟩ := two
  have c0 : ∀ x ∈ ns, ∀ Kb : Bool → Prop, Kb (!isb x) → mNot (mB (mCallU sa sp_is_box (aCons (mVar 0) (aCons (mVar 2) aNil)))) ([some (.int b), some d, none].set 2 (some (.int x))) Kb (fun _ => False) := fun x hx Kb hk => ⟨b, x, rfl, hk⟩
  rcases hd with rfl | rfl
  · refine ⟨by rw [List.length_map]; omega, lcD_filter (fun x => !isb x) rfl rfl c0 ⟨z0, eqE_nilV (Dk_intsL _ 5) (fil_empty isb ns) ?_⟩⟩
    cases q : ns.all isb with
    | false => exact k3 q
    | true => exact sortSet_go (d := .lst _) (intsOf_ints ns) hn fun ys hy hm => fin Kd (k1 q) (k2 q) ys hy hm
  · refine ⟨by rw [List.length_map]; omega, lcD_filter (fun x => !isb x) rfl rfl c0 ⟨z0, eqE_nilV (Dk_intsL _ 5) (fil_empty isb ns) ?_⟩⟩
    cases q : ns.all isb with
    | false => exact k3 q
    | true => exact sortSet_go (d := .tup _) (intsOf_ints ns) hn fun ys hy hm => fin Kd (k1 q) (k2 q) ys hy hm
end L3
set_option pp.maxSteps 400
/-! P12n: good houses and calls -/
namespace L3
open PySem PySem.Spec PyProof.Rows L2
theorem z1s : 1 ≤ sizeLine := by decide
def isBx (b x : Int) : Bool := decide (0 ≤ x) && decide (x < b)
theorem isBx_t {b x : Int} (h : 0 ≤ x ∧ x < b) : isBx b x = true := by
  unfold isBx
  rw [decide_eq_true h.1, decide_eq_true h.2]
  rfl
theorem box_go {b x : Int} {Kd : D → Prop} {sa : Option Addr} {KX : Exn → Prop} (h : 0 ≤ x ∧ x < b) (k : Kd (.bl true)) : sp_is_box sa [.int b, .int x] Kd KX := ⟨b, x, rfl, by
  have := isBx_t h
  unfold isBx at this
  rw [this]
  exact k⟩
@[irreducible] def sp_need_house : Spec := fun _ ds Kd _ => ∃ b ins out kept, ds = [.int b, houseD ins out kept] ∧ 1 ≤ b ∧ b ≤ 10 ∧ HouseOk b ins out kept ∧ Kd .non
abbrev N_need_house : List Str := ["boxes", "house", "ins", "out", "kept", "good", "box"]
abbrev ps_need_house : List Str := ["boxes", "house"]
def m_need_house (sa : Option Addr) : MSt :=
  (mSeq (mSetT (.tp [2, 3, 4]) (mVar 1))
  (mSeq (mSet 5 (mAndV (m3 (ordD pLe) (ordD pLe) (mC (.int 1)) (mVar 0) (mC (.int 10))) (mAndV (m3 (ordD pLe) (ordD pLe) (mC (.int 1)) (mCall lenD (aCons (mVar 2) aNil)) (mC (.int 4))) (m2 (eqE false) (mLenSetT (mVar 2)) (mCall lenD (aCons (mVar 2) aNil))))))
  (mSeq (mIfS (mOr (mNot (mB (mVar 5))) (mB (m2 (eqE true) (mLc (.nm 6) [6] (mIter (mVar 2)) (mNot (mB (mCallU sa sp_is_box (aCons (mVar 0) (aCons (mVar 6) aNil))))) (mVar 6)) (mLst aNil)))) mNever mNext)
  (mIfS (mOr (mNot (mB (mCallU sa sp_is_box (aCons (mVar 0) (aCons (mVar 3) aNil))))) (mOr (mB (m2 (inS false) (mVar 3) (mVar 4))) (mNot (mB (mCallU sa sp_are_rising (aCons (mVar 0) (aCons (mVar 4) aNil))))))) mNever mNext))))
theorem kept_len {b : Int} {ns : List Int} (hb : b ≤ 10) (h0 : 1 ≤ b) (hn : ns.Nodup) (h : ∀ x ∈ ns, 0 ≤ x ∧ x < b) : ns.length ≤ 10 := by
  have := nodup_lenI (by omega) hn h
  omega
theorem none_odd {b : Int} {i : Nat} {ns : List Int} {env : EnvE} {sa : Option Addr} {K : List D → Prop} {v : Nat} (hv : ∀ x : Int, mVar v (env.set i (some (.int x))) = fun Kd _ => Kd (.int b)) (hi : (env[i]?).isSome = true) (h : ∀ x ∈ ns, 0 ≤ x ∧ x < b) (k : K []) :
    lcD (.nm i) (mNot (mB (mCallU sa sp_is_box (aCons (mVar v) (aCons (mVar i) aNil))))) (mVar i) env (ns.map D.int) K :=
  lcD_filter (fun _ => false) hi rfl (fun x hx Kb hk => by
    show mVar v (env.set i (some (.int x))) (fun d => mVar i (env.set i (some (.int x))) (fun e => sp_is_box sa [d, e] (fun d => isB d fun k => Kb (!k)) (fun _ => False)) (fun _ => False)) (fun _ => False)
    rw [hv x]
    show mVar i (env.set i (some (.int x))) (fun e => sp_is_box sa [.int b, e] (fun d => isB d fun k => Kb (!k)) (fun _ => False)) (fun _ => False)
    unfold mVar
    rw [get_set_self hi]
    exact box_go (h x hx) hk) (by rw [List.filter_eq_nil_iff.mpr fun a _ => Bool.false_ne_true]; exact k)
theorem pu_need_house (sa : Option Addr) (ds : List D) (Kd : D → Prop) (KX : Exn → Prop) (hl : ds.length = 2) (h : sp_need_house sa ds Kd KX) : m_need_house sa (startS N_need_house.length ds) { nx := fun _ => false = false ∧ Kd .non, rt := Kd, ex := KX } := by
  unfold sp_need_house at h
  obtain ⟨b, ins, out, kept, rfl, b0, b1, H, k⟩ := h
  refine ⟨_, rfl, ?_⟩
  have l1 : (1 : Int) ≤ ((ins.map D.int).length : Nat) := by rw [List.length_map]; have := H.n1; omega
  have l4 : (((ins.map D.int).length : Nat) : Int) ≤ 4 := by rw [List.length_map]; have := H.n4; omega
  refine ite2 (fun _ => ?_) (fun c => absurd (decide_eq_true b0) c)
  refine ite2 (fun _ => ?_) (fun c => absurd (decide_eq_true b1) c)
  refine ite2 (fun _ => ?_) (fun c => absurd (decide_eq_true l1) c)
  refine ite2 (fun _ => ?_) (fun c => absurd (decide_eq_true l4) c)
  refine lenSetT_nd (by have := H.n4; omega) H.nd (eqE_intT (by rw [List.length_map]) ?_)
  refine ⟨by rw [List.length_map]; have := H.n4; omega, none_odd (b := b) (fun x => rfl) rfl H.ib ⟨z0, eqE_nilV (v := true) (Dk_intsL [] 5) rfl ?_⟩⟩
  refine ⟨b, out, rfl, ?_⟩
  rw [decide_eq_true H.ob.1, decide_eq_true H.ob.2]
  refine inS_tup ?_
  rw [decide_eq_false H.ok]
  have hk := kept_len b1 b0 (lt_nd H.kr) H.kb
  exact ⟨b, tupD kept, kept, rfl, .inr rfl, by omega, fun _ _ => ⟨rfl, k⟩, fun z => absurd z (fun z => by
    rcases z with ⟨x, hx, hn⟩ | hn
    · exact hn (H.kb x hx)
    · exact hn H.kr)⟩
@[irreducible] def sp_need_call : Spec := fun _ ds Kd _ => ∃ b args goal alive, ds = [.int b, .lst (args.map D.int), .int goal, .lst (alive.map D.int)] ∧ 1 ≤ b ∧ b ≤ 10 ∧ CallOk b args goal alive ∧ Kd .non
abbrev N_need_call : List Str := ["boxes", "args", "goal", "alive", "box"]
abbrev ps_need_call : List Str := ["boxes", "args", "goal", "alive"]
def m_need_call (sa : Option Addr) : MSt :=
  (mSeq (mIfS (mOr (mB (m2 (ordD pGt) (mCall lenD (aCons (mVar 1) aNil)) (mC (.int 8)))) (mB (m2 (eqE true) (mLc (.nm 4) [4] (mIter (mVar 1)) (mNot (mB (mCallU sa sp_is_box (aCons (mVar 0) (aCons (mVar 4) aNil))))) (mVar 4)) (mLst aNil)))) mNever mNext)
  (mIfS (mOr (mNot (mB (mCallU sa sp_is_box (aCons (mVar 0) (aCons (mVar 2) aNil))))) (mOr (mB (m2 (inS false) (mVar 2) (mVar 3))) (mNot (mB (mCallU sa sp_are_rising (aCons (mVar 0) (aCons (mVar 3) aNil))))))) mNever mNext))
theorem pu_need_call (sa : Option Addr) (ds : List D) (Kd : D → Prop) (KX : Exn → Prop) (hl : ds.length = 4) (h : sp_need_call sa ds Kd KX) : m_need_call sa (startS N_need_call.length ds) { nx := fun _ => false = false ∧ Kd .non, rt := Kd, ex := KX } := by
  unfold sp_need_call at h
  obtain ⟨b, args, goal, alive, rfl, b0, b1, H, k⟩ := h
  have l8 : ¬ ((((args.map D.int).length : Nat) : Int) > 8) := by rw [List.length_map]; have := H.n8; omega
  refine ite2 (fun c => absurd (of_decide_eq_true c) l8) (fun _ => ?_)
  refine ⟨by rw [List.length_map]; have := H.n8; omega, none_odd (b := b) (fun x => rfl) rfl H.ab ⟨z0, eqE_nilV (v := true) (Dk_intsL [] 5) rfl ?_⟩⟩
  refine ⟨b, goal, rfl, ?_⟩
  rw [decide_eq_true H.gb.1, decide_eq_true H.gb.2]
  refine inS_lst ?_
  rw [decide_eq_false H.ga]
  have hk := kept_len b1 b0 (lt_nd H.ar) H.lb
  exact ⟨b, .lst (alive.map D.int), alive, rfl, .inl rfl, by omega, fun _ _ => ⟨rfl, k⟩, fun z => absurd z (fun z => by
    rcases z with ⟨x, hx, hn⟩ | hn
    · exact hn (H.lb x hx)
    · exact hn H.ar)⟩
theorem need_house_ok {sa : Option Addr} {b : Int} {ins : List Int} {out : Int} {kept : List Int} {Kd : D → Prop} {KX : Exn → Prop} (b0 : 1 ≤ b) (b1 : b ≤ 10) (H : HouseOk b ins out kept) (k : Kd .non) : sp_need_house sa [.int b, houseD ins out kept] Kd KX := by
  unfold sp_need_house
  exact ⟨b, ins, out, kept, rfl, b0, b1, H, k⟩
theorem need_call_ok {sa : Option Addr} {b : Int} {args : List Int} {goal : Int} {alive : List Int} {Kd : D → Prop} {KX : Exn → Prop} (b0 : 1 ≤ b) (b1 : b ≤ 10) (H : CallOk b args goal alive) (k : Kd .non) : sp_need_call sa [.int b, .lst (args.map D.int), .int goal, .lst (alive.map D.int)] Kd KX := by
  unfold sp_need_call
  exact ⟨b, args, goal, alive, rfl, b0, b1, H, k⟩
end L3
set_option pp.maxSteps 400
/-! P12c: the steps of a call -/
namespace L3
open PySem PySem.Spec PyProof.Rows L2
/-! ### handing -/
abbrev pushD (x : Int) : D := .tup [.str "push", .int x]
abbrev popD (x : Int) : D := .tup [.str "pop", .int x]
abbrev callD : D := .tup [.str "call"]
def savedL (l : List (Int × Int)) (kept alive : List Int) : List Int := alive.filter fun x => !decide (x ∈ kept) || decide (x ∈ (kn l).map (·.1))
def firstL (sv : List Int) (ins args : List Int) : List D := sv.map pushD ++ ((args.drop ins.length).reverse).map pushD
def lastL (sv : List Int) (goal out : Int) : List D := ([callD] ++ (if goal = out then [] else [mvD (.cp goal out)])) ++ sv.reverse.map popD
def handL (sv ins args : List Int) (goal out : Int) (ms : List Mv) : List D := firstL sv ins args ++ (ms.map mvD ++ lastL sv goal out)
theorem zip_fst {ins args : List Int} : ((ins.zip args).map (·.1)).Sublist ins := by
  induction ins generalizing args with
  | nil => exact List.Sublist.refl _
  | cons x ins ih =>
    cases args with
    | nil => exact List.nil_sublist _
    | cons y args => exact (ih (args := args)).cons_cons x
theorem zip_lead {b : Int} {ins args : List Int} (hn : ins.Nodup) (hi : ∀ x ∈ ins, 0 ≤ x ∧ x < b) (ha : ∀ x ∈ args, 0 ≤ x ∧ x < b) : Lead b (ins.zip args) := ⟨zip_fst.nodup hn, fun p hp => by
  obtain ⟨x, y⟩ := p
  have := List.of_mem_zip hp
  have h1 := hi x this.1
  have h2 := ha y this.2
  exact ⟨h1.1, h1.2, h2.1, h2.2⟩⟩
theorem zip_pD (ins args : List Int) : zipP (ins.map D.int) (args.map D.int) = (ins.zip args).map pD := by
  unfold zipP
  induction ins generalizing args with
  | nil => rfl
  | cons x ins ih =>
    cases args with
    | nil => rfl
    | cons y args =>
      simp only [List.map_cons, List.zipWith_cons_cons, List.zip_cons_cons]
      rw [ih args]
abbrev N_handing : List Str := ["boxes", "house", "args", "goal", "alive", "ins", "out", "kept", "lead", "known", "pushed", "box", "steps"]
abbrev ps_handing : List Str := ["boxes", "house", "args", "goal", "alive"]
def m_handing (sa : Option Addr) : MSt :=
  (mSeq (mExpr (mCallU sa sp_need_house (aCons (mVar 0) (aCons (mVar 1) aNil))))
  (mSeq (mExpr (mCallU sa sp_need_call (aCons (mVar 0) (aCons (mVar 2) (aCons (mVar 3) (aCons (mVar 4) aNil))))))
  (mSeq (mSetT (.tp [5, 6, 7]) (mVar 1))
  (mSeq (mSet 8 (mCall zipF (aCons (mVar 5) (aCons (mVar 2) aNil))))
  (mSeq (mSet 9 (mCallU sa sp_real_pairs (aCons (mVar 8) aNil)))
  (mSeq (mSet 10 (mLc (.nm 11) [11] (mIter (mVar 4)) (mOr (mB (m2 (inS true) (mVar 11) (mVar 7))) (mB (m2 (inK false) (mVar 11) (mVar 9)))) (mVar 11)))
  (mSeq (mSetF 12 (mLc (.nm 11) [11] (mIter (mVar 10)) tYesM (mTup (aCons (mC (.str "push")) (aCons (mVar 11) aNil)))))
  (mSeq (mExtend 12 (mLc (.nm 11) [11] (mIter (mSlM (mVar 2) oNone (oSome (m2 subD (mCall lenD (aCons (mVar 5) aNil)) (mC (.int 1)))))) tYesM (mTup (aCons (mC (.str "push")) (aCons (mVar 11) aNil)))))
  (mSeq (mSetFC 12 (m2 catD (m2 addD (mVar 12) (mCallU sa sp_by_swaps (aCons (mVar 0) (aCons (mVar 8) aNil)))) (mLst (aCons (mTup (aCons (mC (.str "call")) aNil)) aNil))))
  (mSeq (mIfS (mB (m2 (eqE true) (mVar 3) (mVar 6))) (mAppend 12 (mTup (aCons (mC (.str "copy")) (aCons (mVar 3) (aCons (mVar 6) aNil))))) mNext)
  (mRet (m2 catD (mVar 12) (mLc (.nm 11) [11] (mIter (mSlM (mVar 10) oNone oNone)) tYesM (mTup (aCons (mC (.str "pop")) (aCons (mVar 11) aNil))))))))))))))))
theorem hand_go {sa : Option Addr} {b : Int} {ins : List Int} {out : Int} {kept args : List Int} {goal : Int} {alive : List Int} {Kd : D → Prop} {KX : Exn → Prop} (b0 : 1 ≤ b) (b1 : b ≤ 10) (HO : HouseOk b ins out kept) (CO : CallOk b args goal alive)
    (k : ∀ ms, SwOk b (kn (ins.zip args)) ms → Kd (.lst (handL (savedL (ins.zip args) kept alive) ins args goal out ms))) :
    m_handing sa [some (.sh (.int b)), some (.sh (houseD ins out kept)), some (.sh (.lst (args.map D.int))), some (.sh (.int goal)), some (.sh (.lst (alive.map D.int))), none, none, none, none, none, none, none, none] { nx := fun _ => true = false ∧ Kd .non, rt := Kd, ex := KX } := by
  have L := zip_lead HO.nd HO.ib CO.ab
  have hal := kept_len b1 b0 (lt_nd CO.ar) CO.lb
  have hlen := L.len (by omega)
  refine need_house_ok b0 b1 HO (need_call_ok b0 b1 CO ⟨_, rfl, zipF_go (zip_pD ins args) ⟨b, ins.zip args, rfl, L, by omega, b1, ?_⟩⟩)
  generalize hsv : savedL (ins.zip args) kept alive = sv at k
  have hsl : sv.length ≤ 10 := by
    rw [← hsv]
    unfold savedL
    exact Nat.le_trans (List.length_filter_le _ _) hal
  refine ⟨by rw [List.length_map]; omega, lcD_filter (fun x => !decide (x ∈ kept) || decide (x ∈ (kn (ins.zip args)).map (·.1))) rfl rfl (fun x hx Kb hk => ?_) ?_⟩
  · refine inS_tup (ite2 (fun c => ?_) (fun c => ?_))
    · have c : (!decide (x ∈ kept)) = true := c
      rw [c, Bool.true_or] at hk
      exact hk
    · have c : (!decide (x ∈ kept)) = false := by
        cases q : (!decide (x ∈ kept)) with
        | false => rfl
        | true => exact absurd q c
      rw [c, Bool.false_or] at hk
      show Kb (valD (kvD (kn (ins.zip args))) x).isSome
      rw [valD_some]
      exact hk
  have esv : (alive.filter fun x => !decide (x ∈ kept) || decide (x ∈ (kn (ins.zip args)).map (·.1))) = sv := hsv
  rw [esv]
  have hi1 := HO.n1
  have c1 : pickM (args.map D.int) none (some ((((ins.map D.int).length : Nat) : Int) - 1)) = ((args.drop ins.length).reverse).map D.int := by
    rw [List.length_map, show ((ins.length : Nat) : Int) - 1 = ((ins.length - 1 : Nat) : Int) by omega, pickM_from, show ins.length - 1 + 1 = ins.length by omega, ← List.map_drop, ← List.map_reverse]
  have ha8 := CO.n8
  have dl : ((args.drop ins.length).reverse).length ≤ 8 := by rw [List.length_reverse, List.length_drop]; omega
  have s1 : (pickM (args.map D.int) none (some ((((ins.map D.int).length : Nat) : Int) - 1))).length ≤ 8 := by rw [c1, List.length_map]; exact dl
  have s2 : (sv.map pushD).length + (((args.drop ins.length).reverse).map pushD).length ≤ 18 := by rw [List.length_map, List.length_map]; omega
  have c2 : pickM (sv.map D.int) none none = sv.reverse.map D.int := by rw [pickM_all, ← List.map_reverse]
  have fin : ∀ (q : Addr) (st : List D) (e11 : Option Slot), st.length ≤ 100 → Kd (.lst (st ++ sv.reverse.map popD)) → mRet (m2 catD (mVar 12) (mLc (.nm 11) [11] (mIter (mSlM (mVar 10) oNone oNone)) tYesM (mTup (aCons (mC (.str "pop")) (aCons (mVar 11) aNil)))))
      [some (.sh (.int b)), some (.sh (houseD ins out kept)), some (.sh (.lst (args.map D.int))), some (.sh (.int goal)), some (.sh (.lst (alive.map D.int))), some (.sh (tupD ins)), some (.sh (.int out)), some (.sh (tupD kept)), some (.sh (leadD (ins.zip args))), some (.sh (.dic (kvD (kn (ins.zip args))))), some (.sh (.lst (sv.map D.int))), e11, some (.own q (.lst st))]
      { nx := fun _ => true = false ∧ Kd .non, rt := Kd, ex := KX } := fun q st e11 hst hk =>
    ⟨sz_ok (by rw [c2, List.length_map, List.length_reverse]; omega), by rw [c2, List.length_map, List.length_reverse]; omega, lcD_map D.int popD c2 (fun x hx => ⟨_, rfl, fun Kd k => ⟨z2, k⟩⟩) ⟨sz_ok (by rw [List.length_map, List.length_reverse]; omega), hk⟩⟩
  have h1 : ∀ ms : List Mv, ms.length ≤ 10 → (((sv.map pushD ++ ((args.drop ins.length).reverse).map pushD) ++ ms.map mvD) ++ [callD]).length ≤ 50 := fun ms hms => by
    rw [List.length_append, List.length_append, List.length_append, List.length_map, List.length_map, List.length_map, List.length_singleton]; omega
  have hk : ∀ ms : List Mv, SwOk b (kn (ins.zip args)) ms → ∀ x : List D, (if goal = out then [] else [mvD (.cp goal out)]) = x → Kd (.lst (((((sv.map pushD ++ ((args.drop ins.length).reverse).map pushD) ++ ms.map mvD) ++ [callD]) ++ x) ++ sv.reverse.map popD)) := fun ms S x hx => by
    have k := k ms S
    unfold handL firstL lastL at k
    rw [hx] at k
    simpa only [List.append_assoc] using k
  have fin2 : ∀ (ms : List Mv), ms.length ≤ 10 → SwOk b (kn (ins.zip args)) ms → ∀ (q : Addr) (e11 : Option Slot) (st : List D), st = ((sv.map pushD ++ ((args.drop ins.length).reverse).map pushD) ++ ms.map mvD) ++ [callD] → mIfS (mB (m2 (eqE true) (mVar 3) (mVar 6))) (mAppend 12 (mTup (aCons (mC (.str "copy")) (aCons (mVar 3) (aCons (mVar 6) aNil))))) mNext
      [some (.sh (.int b)), some (.sh (houseD ins out kept)), some (.sh (.lst (args.map D.int))), some (.sh (.int goal)), some (.sh (.lst (alive.map D.int))), some (.sh (tupD ins)), some (.sh (.int out)), some (.sh (tupD kept)), some (.sh (leadD (ins.zip args))), some (.sh (.dic (kvD (kn (ins.zip args))))), some (.sh (.lst (sv.map D.int))), e11, some (.own q (.lst st))]
      { nx := fun env' => mRet (m2 catD (mVar 12) (mLc (.nm 11) [11] (mIter (mSlM (mVar 10) oNone oNone)) tYesM (mTup (aCons (mC (.str "pop")) (aCons (mVar 11) aNil))))) env' { nx := fun _ => true = false ∧ Kd .non, rt := Kd, ex := KX }, rt := Kd, ex := KX } := fun ms hms S q e11 st est => by
    have h1 := h1 ms hms
    have hk := hk ms S
    refine eqE_int (ite2 (fun c => ?_) (fun c => ?_))
    · refine ⟨z3, sz_lt (by rw [est]; exact Nat.lt_of_le_of_lt h1 (by decide)), fin q _ e11 (by rw [est, List.length_append, List.length_singleton]; omega) ?_⟩
      rw [est]
      exact hk _ (if_neg (neT c))
    · have hk := hk [] (if_pos (neF c))
      rw [List.append_nil] at hk
      exact fin q st e11 (by rw [est]; omega) (by rw [est]; exact hk)
  have fin3 : ∀ (p : Addr) (e11 : Option Slot) (st : List D), st = sv.map pushD ++ ((args.drop ins.length).reverse).map pushD → mSetFC 12 (m2 catD (m2 addD (mVar 12) (mCallU sa sp_by_swaps (aCons (mVar 0) (aCons (mVar 8) aNil)))) (mLst (aCons (mTup (aCons (mC (.str "call")) aNil)) aNil)))
      [some (.sh (.int b)), some (.sh (houseD ins out kept)), some (.sh (.lst (args.map D.int))), some (.sh (.int goal)), some (.sh (.lst (alive.map D.int))), some (.sh (tupD ins)), some (.sh (.int out)), some (.sh (tupD kept)), some (.sh (leadD (ins.zip args))), some (.sh (.dic (kvD (kn (ins.zip args))))), some (.sh (.lst (sv.map D.int))), e11, some (.own p (.lst (st)))]
      { nx := fun env' => (mSeq (mIfS (mB (m2 (eqE true) (mVar 3) (mVar 6))) (mAppend 12 (mTup (aCons (mC (.str "copy")) (aCons (mVar 3) (aCons (mVar 6) aNil))))) mNext)
        (mRet (m2 catD (mVar 12) (mLc (.nm 11) [11] (mIter (mSlM (mVar 10) oNone oNone)) tYesM (mTup (aCons (mC (.str "pop")) (aCons (mVar 11) aNil))))))) env' { nx := fun _ => true = false ∧ Kd .non, rt := Kd, ex := KX }, rt := Kd, ex := KX } := fun p e11 st est => by
    subst est
    refine ⟨b, ins.zip args, rfl, L, b0, b1, fun ms S => ?_⟩
    have hms : ms.length ≤ 10 := by have := S.len; have := L.kn.len (by omega); omega
    refine ⟨sz_ok (by rw [List.length_append, List.length_map, List.length_map, List.length_map]; omega), z1s, z1s, sz_ok (by rw [List.length_append, List.length_append, List.length_map, List.length_map, List.length_map, List.length_singleton]; omega), fun q => fin2 ms hms S q e11 _ rfl⟩
  refine ⟨by rw [List.length_map]; omega, lcD_map D.int pushD rfl (fun x hx => ⟨_, rfl, fun Kd k => ⟨z2, k⟩⟩) fun p => ?_⟩
  refine ⟨sz_ok (Nat.le_trans s1 (by decide)), Nat.le_trans s1 (by decide), lcD_map D.int pushD c1 (fun x hx => ⟨_, rfl, fun Kd k => ⟨z2, k⟩⟩) ?_⟩
  exact ⟨sz_ok (Nat.le_trans s2 (by decide)), fin3 p _ _ rfl⟩
end L3
/-! P12d: handing, of good ones -/
namespace L3
open PySem PySem.Spec PyProof.Rows L2
def sp_handing : Spec := fun _ ds Kd _ => ∃ b ins out kept args goal alive, ds = [.int b, houseD ins out kept, .lst (args.map D.int), .int goal, .lst (alive.map D.int)] ∧ 1 ≤ b ∧ b ≤ 10 ∧ HouseOk b ins out kept ∧ CallOk b args goal alive ∧
  ∀ ms, SwOk b (kn (ins.zip args)) ms → Kd (.lst (handL (savedL (ins.zip args) kept alive) ins args goal out ms))
theorem pu_handing (sa : Option Addr) (ds : List D) (Kd : D → Prop) (KX : Exn → Prop) (hl : ds.length = 5) (h : sp_handing sa ds Kd KX) : m_handing sa (startS N_handing.length ds) { nx := fun _ => true = false ∧ Kd .non, rt := Kd, ex := KX } := by
  obtain ⟨b, ins, out, kept, args, goal, alive, rfl, b0, b1, HO, CO, k⟩ := h
  exact hand_go b0 b1 HO CO k
end L3
/-! R0: an object with four fields, two lists of its own; how it stays -/
namespace L3
open PySem PySem.Spec PyProof.Rows L2
theorem seen_ne_worths : ¬ (("worths" : Str) = "seen") := by decide +kernel
theorem seen_ne_pile : ¬ (("pile" : Str) = "seen") := by decide +kernel
theorem seen_ne_house : ¬ (("house" : Str) = "seen") := by decide +kernel
structure FS (fs : List (Str × V)) (w p : Addr) (hv sv : V) : Prop where
  lw : fs.lookup ("worths" : Str) = some (.ref w)
  lp : fs.lookup ("pile" : Str) = some (.ref p)
  lh : fs.lookup ("house" : Str) = some hv
  ls : fs.lookup ("seen" : Str) = some sv
  no : ∀ m : Str, m ≠ "worths" → m ≠ "pile" → m ≠ "house" → m ≠ "seen" → fs.lookup m = none
theorem FS.put {fs : List (Str × V)} {w p : Addr} {hv sv : V} (h : FS fs w p hv sv) (v : V) : FS (putF "seen" v fs) w p hv v :=
  ⟨by rw [lookup_putF, if_neg seen_ne_worths, h.lw], by rw [lookup_putF, if_neg seen_ne_pile, h.lp], by rw [lookup_putF, if_neg seen_ne_house, h.lh], by rw [lookup_putF, if_pos rfl], fun m a b c d => by rw [lookup_putF, if_neg d, h.no m a b c d]⟩
theorem FS.new (w p : Addr) (hv sv : V) : FS (putF "seen" sv (putF "house" hv (putF "pile" (.ref p) (putF "worths" (.ref w) [])))) w p hv sv := by
  have e1 : ¬ (("worths" : Str) = "house") := by decide +kernel
  have e2 : ¬ (("worths" : Str) = "pile") := by decide +kernel
  have e3 : ¬ (("pile" : Str) = "house") := by decide +kernel
  refine ⟨?_, ?_, ?_, ?_, fun m a b c d => ?_⟩
  · rw [lookup_putF, if_neg seen_ne_worths, lookup_putF, if_neg e1, lookup_putF, if_neg e2, lookup_putF, if_pos rfl]
  · rw [lookup_putF, if_neg seen_ne_pile, lookup_putF, if_neg e3, lookup_putF, if_pos rfl]
  · rw [lookup_putF, if_neg seen_ne_house, lookup_putF, if_pos rfl]
  · rw [lookup_putF, if_pos rfl]
  · rw [lookup_putF, if_neg d, lookup_putF, if_neg c, lookup_putF, if_neg b, lookup_putF, if_neg a]
    rfl
def SeenAt (C : C3) (B H G : Hp) (w p : Addr) (sv : V) : Option (List Int) → Prop
  | none => sv = .non
  | some zs => ∃ a, sv = .ref a ∧ a ≠ w ∧ a ≠ p ∧ H a = some (.lst (zs.map V.int)) ∧ C.sp a = false ∧ G a = none ∧ B a = none
structure RunSt (C : C3) (B : Hp) (Cr : Addr) (H G : Hp) (r w p : Addr) (hv : V) (ws ps : List Int) (sn : Option (List Int)) : Prop where
  ok : Ok3 C H G
  ob : ∃ dx fs sv, H r = some (.ins Cr dx fs) ∧ FS fs w p hv sv ∧ fs.length ≤ (match sn with | none => 10 | some _ => 20) ∧ SeenAt C B H G w p sv sn
  hw : H w = some (.lst (ws.map V.int))
  hp : H p = some (.lst (ps.map V.int))
  ne : w ≠ p
  sr : C.sp r = false
  sw : C.sp w = false
  sp : C.sp p = false
  gr : G r = none
  gw : G w = none
  gp : G p = none
/-- what else stays -/
structure Fr (C : C3) (H G H' G' : Hp) (r w p : Addr) : Prop where
  nx : ∀ a o, C.sp a = false → a ≠ r → a ≠ w → a ≠ p → nT H a = some o → nT H' a = some o
  ge : Same G G'
  fr : ∀ a o, G a = none → G' a = some o → nT H a = none
section
variable {C : C3} {B : Hp} {Cr : Addr} {H G H' G' H2 G2 : Hp} {r w p : Addr} {hv : V} {ws ps : List Int} {sn : Option (List Int)}
theorem g_none {a : Addr} {o : HO} (s : Stp C H G H' G') (h : H a = some o) (g : G a = none) (n : notTbl o = true) : G' a = none := by
  cases q : G' a with
  | none => rfl
  | some u =>
    have := s.fr a u g q
    rw [nT_of h n] at this
    cases this
theorem SeenAt.step {sv : V} (s : Stp C H G H' G') (h : SeenAt C B H G w p sv sn) : SeenAt C B H' G' w p sv sn := by
  cases sn with
  | none => exact h
  | some zs =>
    obtain ⟨a, e, n1, n2, ha, sa, ga, ba⟩ := h
    exact ⟨a, e, n1, n2, s.nh a _ sa ha, sa, g_none s ha ga rfl, ba⟩
theorem RunSt.step (R : RunSt C B Cr H G r w p hv ws ps sn) (s : Stp C H G H' G') (ok : Ok3 C H' G') : RunSt C B Cr H' G' r w p hv ws ps sn := by
  obtain ⟨dx, fs, sv, h, F, l, S⟩ := R.ob
  exact ⟨ok, ⟨dx, fs, sv, s.nh r _ R.sr h, F, l, S.step s⟩, s.nh w _ R.sw R.hw, s.nh p _ R.sp R.hp, R.ne, R.sr, R.sw, R.sp, g_none s h R.gr rfl, g_none s R.hw R.gw rfl, g_none s R.hp R.gp rfl⟩
theorem RunSt.rw (R : RunSt C B Cr H G r w p hv ws ps sn) : r ≠ w ∧ r ≠ p := by
  obtain ⟨dx, fs, sv, h, _⟩ := R.ob
  exact ⟨ne_of h R.hw (by intro z; cases z), ne_of h R.hp (by intro z; cases z)⟩
theorem Ok3.at (ok : Ok3 C H G) {a : Addr} {o u : HO} (g : G a = none) (sp : C.sp a = false) (h : H a = some u) (n : notExt u = true := by rfl) : Ok3 C (upd H a o) G := by
  have ne : ∀ b o, G b = some o → b ≠ a := fun b o e z => by rw [z, g] at e; cases e
  exact ⟨ok.iv.upd sp (upd_code h n), fun b o e => ⟨(ok.sub b o e).1, by rw [upd_ne (ne b o e)]; exact (ok.sub b o e).2⟩, ok.nt⟩
theorem Fr.refl : Fr C H G H G r w p := ⟨fun _ _ _ _ _ _ h => h, Same.refl _, fun a o h h' => by rw [h] at h'; cases h'⟩
theorem Fr.trans (a : Fr C H G H' G' r w p) (b : Fr C H' G' H2 G2 r w p) (ok : Ok3 C H2 G2) (hr : G2 r = none) (hw : G2 w = none) (hp : G2 p = none) : Fr C H G H2 G2 r w p := by
  refine ⟨fun q o s h1 h2 h3 h => b.nx q o s h1 h2 h3 (a.nx q o s h1 h2 h3 h), a.ge.trans b.ge, fun q o h h' => ?_⟩
  cases e : G' q with
  | some u => exact a.fr q u h e
  | none =>
    have h1 := b.fr q o e h'
    cases z : nT H q with
    | none => rfl
    | some u =>
      have n1 : q ≠ r := fun y => by rw [y, hr] at h'; cases h'
      have n2 : q ≠ w := fun y => by rw [y, hw] at h'; cases h'
      have n3 : q ≠ p := fun y => by rw [y, hp] at h'; cases h'
      rw [a.nx q u (ok.sub q o h').1 n1 n2 n3 z] at h1
      cases h1
theorem Fr.of (s : Stp C H G H' G') : Fr C H G H' G' r w p := ⟨fun q o sp _ _ _ h => s.nx q o sp h, s.ge, s.fr⟩
theorem Fr.upd {a : Addr} {o : HO} (h : a = r ∨ a = w ∨ a = p) : Fr C H G (upd H a o) G r w p := by
  refine ⟨fun q u _ h1 h2 h3 e => ?_, Same.refl _, fun q u e e' => by rw [e] at e'; cases e'⟩
  rw [nT_ne]
  · exact e
  · intro z
    rcases h with h | h | h
    · exact h1 (z.trans h)
    · exact h2 (z.trans h)
    · exact h3 (z.trans h)
theorem SeenAt.upd {sv : V} {a : Addr} {o : HO} (S : SeenAt C B H G w p sv sn) (h : a = w ∨ a = p) : SeenAt C B (L2.upd H a o) G w p sv sn := by
  cases sn with
  | none => exact S
  | some zs =>
    obtain ⟨b, e, n1, n2, hb, s⟩ := S
    refine ⟨b, e, n1, n2, ?_, s⟩
    rw [upd_ne]
    · exact hb
    · rcases h with h | h
      · rw [h]; exact n1
      · rw [h]; exact n2
theorem RunSt.setW (R : RunSt C B Cr H G r w p hv ws ps sn) (ws' : List Int) : RunSt C B Cr (upd H w (.lst (ws'.map V.int))) G r w p hv ws' ps sn := by
  obtain ⟨dx, fs, sv, h, F, l, S⟩ := R.ob
  exact ⟨R.ok.at R.gw R.sw R.hw, ⟨dx, fs, sv, by rw [upd_ne R.rw.1]; exact h, F, l, S.upd (.inl rfl)⟩, upd_same, by rw [upd_ne R.ne.symm]; exact R.hp, R.ne, R.sr, R.sw, R.sp, R.gr, R.gw, R.gp⟩
theorem RunSt.setP (R : RunSt C B Cr H G r w p hv ws ps sn) (ps' : List Int) : RunSt C B Cr (upd H p (.lst (ps'.map V.int))) G r w p hv ws ps' sn := by
  obtain ⟨dx, fs, sv, h, F, l, S⟩ := R.ob
  exact ⟨R.ok.at R.gp R.sp R.hp, ⟨dx, fs, sv, by rw [upd_ne R.rw.2]; exact h, F, l, S.upd (.inr rfl)⟩, by rw [upd_ne R.ne]; exact R.hw, upd_same, R.ne, R.sr, R.sw, R.sp, R.gr, R.gw, R.gp⟩
end
/-- the facts of the class -/
structure RunT (K : PySem.W.Frag) (mg : Str → Option Value) (Cr : Addr) : Prop where
  cl : Cls K Cr
  nW : NoAttr K Cr "worths"
  nP : NoAttr K Cr "pile"
  nH : NoAttr K Cr "house"
  nS : NoAttr K Cr "seen"
  gR : mg "Run" = some (.ref Cr)
end L3
/-! R1: an object of the class Run: made, asked -/
namespace L3
open PySem PySem.Spec PyProof.Rows L2
def topR (i : Nat) : Stmt := PySem.Challenge.pw_movesatonce_k10_steps_done.main.body.getD i (.Pass ⟨0, 0, 0, 0⟩)
/-! ### readings by hand -/
theorem VR.nil {K : PySem.W.Frag} {G : Hp} {σ : L2.St} : VR K G [] σ := ⟨Nat.zero_le _, fun i d h => by simp at h⟩
theorem VR.skip {K : PySem.W.Frag} {G : Hp} {env : EnvE} {σ : L2.St} {s : Option V} (h : VR K G env σ) : VR K G (none :: env) (s :: σ) := ⟨by rw [List.length_cons, List.length_cons]; exact Nat.succ_le_succ h.len, fun i d e => by
  cases i with
  | zero => simp at e
  | succ i => exact h.get i d (by simpa using e)⟩
theorem VR.with {K : PySem.W.Frag} {G : Hp} {env : EnvE} {σ : L2.St} {d : D} {v : V} (r : Rp K G d v) (h : VR K G env σ) : VR K G (some d :: env) (some v :: σ) := ⟨by rw [List.length_cons, List.length_cons]; exact Nat.succ_le_succ h.len, fun i e q => by
  cases i with
  | zero =>
    have q : d = e := by simpa using q
    subst q
    exact ⟨v, rfl, r⟩
  | succ i => exact h.get i e (by simpa using q)⟩
/-! ### steps -/
abbrev St0 := Option (Str × List Int)
def stD : St0 → D
  | none => .tup []
  | some (w, xs) => .tup (.str w :: xs.map D.int)
def StOk0 (x : St0) : Prop := ∀ w xs, x = some (w, xs) → PyData.strOk w = true
theorem stD_dk {x : St0} (h : StOk0 x) (n : Nat) : Dk (n + 1) (stD x) := by
  cases x with
  | none => exact .tup _ _ fun d hd => nomatch hd
  | some y =>
    obtain ⟨w, xs⟩ := y
    exact .tup _ _ fun d hd => by
      rcases List.mem_cons.mp hd with e | e
      · rw [e]; exact .str _ _ (h w xs rfl)
      · exact Dk_ints xs _ d e
def isCall (x : St0) : Bool := decide (x = some (("call" : Str), ([] : List Int)))
theorem eqE_call {x : St0} (h : StOk0 x) {K : D → Prop} (k : K (.bl (isCall x))) : eqE false (stD x) (.tup [.str "call"]) K := by
  refine eqE_of (n := 1) (stD_dk h 0) (.tup _ _ fun d hd => by rw [List.mem_singleton.mp hd]; exact .str _ _ (by decide +kernel)) (by decide) (b := isCall x) ?_ k
  unfold isCall
  cases x with
  | none => simp [stD, D.py, D.pys, PyData.eqv, PyData.eqvAll]
  | some y =>
    obtain ⟨w, xs⟩ := y
    have e : ∀ w : Str, (w == ("call" : Str)) = decide (w = "call") := fun w => by by_cases c : w = "call" <;> simp [c]
    cases xs with
    | nil =>
      show PyData.eqv (.tuple [.str w]) (.tuple [.str "call"]) = _
      simp only [PyData.eqv, PyData.eqvAll, Bool.and_true]
      by_cases c : w = "call" <;> simp [c]
    | cons y ys =>
      show PyData.eqv (.tuple (.str w :: .int y :: D.pys (ys.map D.int))) (.tuple [.str "call"]) = _
      simp [PyData.eqv, PyData.eqvAll]
def inB (n : Nat) (x : Int) : Bool := decide (0 ≤ x) && decide (x < (n : Int))
def mvB (n : Nat) (w : Str) : List Int → Bool
  | [i, j] => (decide (w = "copy") || decide (w = "swap")) && (!decide (i = j) && (inB n i && inB n j))
  | _ => false
def mvS (n : Nat) : St0 → Bool
  | some (w, xs) => mvB n w xs
  | none => false
def ppB : St0 → Bool
  | some (w, [_]) => decide (w = "push") || decide (w = "pop")
  | _ => false
def ppS (n high : Nat) : St0 → Bool
  | some (w, [i]) => inB n i && (decide (w = "push") || !decide (high = 0))
  | _ => false
def canB (n high : Nat) (unseen : Bool) (over : Int) (x : St0) : Bool :=
  if isCall x then unseen && (decide (0 ≤ over) && decide (over ≤ (high : Int)))
  else if ppB x then ppS n high x
  else mvS n x
theorem isMv_st (n : Nat) (x : St0) (h1 : isCall x = false ∨ True) : IsMv n (stD x) (mvS n x) := by
  cases x with
  | none => exact .len _ (by decide)
  | some y =>
    obtain ⟨w, xs⟩ := y
    match xs with
    | [] => exact .len _ (by show 1 ≠ 3; decide)
    | [_] => exact .len _ (by show 2 ≠ 3; decide)
    | [i, j] => exact .mk w i j
    | a :: b :: c :: r => exact .len _ (by rw [List.length_cons, List.length_map, List.length_cons, List.length_cons, List.length_cons]; omega)
def wlI (n : Nat) (F : Int → Int) : List Int := (List.range n).map fun i : Nat => F (i : Int)
theorem wlI_D (n : Nat) (F : Int → Int) : (wlI n F).map D.int = wl n F := by
  unfold wlI wl
  rw [List.map_map]
  rfl
theorem wlI_len (n : Nat) (F : Int → Int) : (wlI n F).length = n := by unfold wlI; rw [List.length_map, List.length_range]
theorem wlI_at {n : Nat} (F : Int → Int) {x : Int} (h0 : 0 ≤ x) (h1 : x < n) : atI ((wlI n F).map V.int) x = some (.int (F x)) := by
  obtain ⟨j, rfl⟩ : ∃ j : Nat, x = (j : Int) := ⟨x.toNat, by omega⟩
  refine atI_nat ?_
  unfold wlI
  rw [List.getElem?_map, List.getElem?_map, List.getElem?_range (by omega)]
  rfl
theorem ints_dp {K : PySem.W.Frag} {H : Hp} {p : Addr} {xs : List Int} (h : H p = some (.lst (xs.map V.int))) : Dp K H (.ref p) (.list (xs.map PyData.int)) := by
  refine .lst (.inl (.inl h)) ?_
  clear h
  induction xs with
  | nil => exact .nil
  | cons x xs ih => exact .cons (.int x) ih
theorem ints_shaped (xs : List Int) : SeqAt.shaped (.list (xs.map PyData.int)) = true := by
  have h := (show Dk 1 (.lst (xs.map D.int)) from .lst _ _ (Dk_ints xs 0)).shaped (by decide)
  have e : (D.lst (xs.map D.int)).py = .list (xs.map PyData.int) := by
    show PyData.list (D.pys (xs.map D.int)) = _
    rw [pys_map, List.map_map]
    rfl
  rw [e] at h
  exact h
/-! ### __init__ -/
abbrev s_Rinit : Stmt := inClass (topR 21) 0
abbrev s_Rcall : Stmt := inClass (topR 21) 1
abbrev s_Rcan : Stmt := inClass (topR 21) 2
abbrev s_Rdo : Stmt := inClass (topR 21) 3
def spRinit (K : PySem.W.Frag) (Cr : Addr) : Sp := fun vs H Q _ => ∃ (st : Option (Addr × Addr × List Int)) (fix : List (Addr × HO)) (tabs : List (Addr × Str)) (G B : Hp) (r dx a b : Addr) (hv : V) (ws ps : List Int),
  vs = [.ref r, .ref a, .ref b, hv] ∧ Ok3 ⟨K, st, fix, tabs⟩ H G ∧ H r = some (.ins Cr dx []) ∧ C3.sp ⟨K, st, fix, tabs⟩ r = false ∧ G r = none ∧ G a = some (.lst (ws.map V.int)) ∧ G b = some (.lst (ps.map V.int)) ∧
  ∀ H' w p, (∀ c o, C3.sp ⟨K, st, fix, tabs⟩ c = false → c ≠ r → nT H c = some o → nT H' c = some o) → nT H w = none → nT H p = none → RunSt ⟨K, st, fix, tabs⟩ B Cr H' G r w p hv ws ps none → Q .non H'
theorem sc_Rinit : FnScope ["self", "worths", "pile", "house"] ["self", "worths", "pile", "house"] (defScope s_Rinit) := ⟨rfl, rfl, rfl, by decide +kernel, rfl, by decide +kernel, by decide +kernel⟩
theorem fn_Rinit {P : Program} {w : World} {K : PySem.W.Frag} {mg : Str → Option Value} {base : Heap} (F : Free mg) {Cr : Addr} (T : RunT K mg Cr) {f : Addr} {fd : FuncData} (G : Fun K "__init__" "Run.__init__" s_Rinit f fd) : FnOk P w K mg base (L2.CX P w) 1 f fd ["self", "worths", "pile", "house"] (spRinit K Cr) := by
  refine G.okX sc_Rinit (fun vs H Q E h => ?_) (fun cdv A outer s H vs Q E hr h => ?_)
  · obtain ⟨st, fix, tabs, G, B, r, dx, a, b, hv, ws, ps, rfl, _⟩ := h
    rfl
  · obtain ⟨st, fix, tabs, G, B, r, dx, a, b, hv, ws, ps, rfl, ok, hr0, sr, gr, ha, hb, q⟩ := h
    refine ⟨_, pss_cons (ps_fld (pv 0) (pe_callTy call_list_of (by rfl) F.list (by decide +kernel) (pa_cons (pv 1) pa_nil)) rfl) (pss_cons (ps_fld (pv 0) (pe_callTy call_list_of (by rfl) F.list (by decide +kernel) (pa_cons (pv 2) pa_nil)) rfl)
      (pss_cons (ps_fld (pv 0) (pv 3) rfl) (pss_one (ps_fld (pv 0) pe_non rfl)))), ?_⟩
    have h1 := (ok.sub a _ ha).2
    have h2 := (ok.sub b _ hb).2
    refine ⟨_, rfl, a, _, rfl, .inl (.inl (.inl h1)), fun l hl => ?_⟩
    have nl : r ≠ l := ne_of_none hr0 hl
    obtain ⟨ok1, s1, gl⟩ := ok.new (o := .lst (ws.map V.int)) hl
    have e1 : upd H l (.lst (ws.map V.int)) r = some (.ins Cr dx []) := by rw [upd_ne nl]; exact hr0
    refine ⟨_, rfl, r, Cr, dx, [], rfl, e1, T.cl, T.nW, by decide, ?_⟩
    have ok2 : Ok3 ⟨K, st, fix, tabs⟩ (upd (upd H l (.lst (ws.map V.int))) r (.ins Cr dx (putF "worths" (.ref l) []))) G := ok1.at gr sr e1
    have nbr : b ≠ r := fun z => by rw [z, gr] at hb; cases hb
    have e2 : upd (upd H l (.lst (ws.map V.int))) r (.ins Cr dx (putF "worths" (.ref l) [])) b = some (.lst (ps.map V.int)) := (ok2.sub b _ hb).2
    refine ⟨_, rfl, b, _, rfl, .inl (.inl (.inl e2)), fun m hm => ?_⟩
    obtain ⟨ok3, s3, gm⟩ := ok2.new (o := .lst (ps.map V.int)) hm
    have nrm : r ≠ m := fun z => by rw [← z, upd_same] at hm; cases hm
    have nlm : l ≠ m := fun z => by rw [← z, upd_ne nl.symm, upd_same] at hm; cases hm
    have e3 : upd (upd (upd H l (.lst (ws.map V.int))) r (.ins Cr dx (putF "worths" (.ref l) []))) m (.lst (ps.map V.int)) r = some (.ins Cr dx (putF "worths" (.ref l) [])) := by rw [upd_ne nrm, upd_same]
    refine ⟨_, rfl, r, Cr, dx, _, rfl, e3, T.cl, T.nP, by show 1 < 1000; decide, ?_⟩
    refine ⟨_, rfl, _, rfl, r, Cr, dx, _, rfl, upd_same, T.cl, T.nH, Nat.lt_of_le_of_lt (length_putF _ _ _) (by show 2 < 1000; decide), ?_⟩
    refine ⟨_, rfl, r, Cr, dx, _, rfl, upd_same, T.cl, T.nS, ?_, ?_⟩
    · have := length_putF "house" hv (putF "pile" (.ref m) (putF "worths" (.ref l) []))
      have := length_putF "pile" (.ref m) (putF "worths" (.ref l) [])
      have : (putF "worths" (.ref l) ([] : List (Str × V))).length = 1 := rfl
      omega
    have ok4 := ok3.at (o := .ins Cr dx (putF "pile" (.ref m) (putF "worths" (.ref l) []))) gr sr e3
    have ok5 := ok4.at (o := .ins Cr dx (putF "house" hv (putF "pile" (.ref m) (putF "worths" (.ref l) [])))) gr sr upd_same
    have ok6 := ok5.at (o := .ins Cr dx (putF "seen" .non (putF "house" hv (putF "pile" (.ref m) (putF "worths" (.ref l) []))))) gr sr upd_same
    have hm0 : H m = none := by rw [upd_ne nrm.symm, upd_ne nlm.symm] at hm; exact hm
    refine q _ l m (fun c o sc nc hc => ?_) (nT_none hl) (nT_none hm0) ⟨ok6, ⟨dx, _, .non, upd_same, FS.new l m hv .non, ?_, rfl⟩, ?_, ?_, nlm, sr, ok.iv.new hl, ok2.iv.new hm, gr, gl, gm⟩
    · have ncl : c ≠ l := fun z => by rw [z, nT_none hl] at hc; cases hc
      have ncm : c ≠ m := fun z => by rw [z, nT_none hm0] at hc; cases hc
      rw [nT_ne nc, nT_ne nc, nT_ne nc, nT_ne ncm, nT_ne nc, nT_ne ncl]
      exact hc
    · have h1 := length_putF "seen" .non (putF "house" hv (putF "pile" (.ref m) (putF "worths" (.ref l) [])))
      have h2 := length_putF "house" hv (putF "pile" (.ref m) (putF "worths" (.ref l) []))
      have h3 := length_putF "pile" (.ref m) (putF "worths" (.ref l) [])
      have h4 : (putF "worths" (.ref l) ([] : List (Str × V))).length = 1 := rfl
      show _ ≤ 10
      omega
    · rw [upd_ne nl.symm, upd_ne nl.symm, upd_ne nl.symm, upd_ne nlm, upd_ne nl.symm, upd_same]
    · rw [upd_ne nrm.symm, upd_ne nrm.symm, upd_ne nrm.symm, upd_same]
/-! ### can -/
def spRcan (K : PySem.W.Frag) (mg : Str → Option Value) (Cr : Addr) : Sp := fun vs H Q _ => ∃ (st : Option (Addr × Addr × List Int)) (fix : List (Addr × HO)) (tabs : List (Addr × Str)) (G B : Hp) (r w p : Addr) (hv : V) (n : Nat) (F : Int → Int) (ps : List Int) (sn : Option (List Int)) (x : St0) (xv : V) (over : Int),
  vs = [.ref r, xv, .int over] ∧ RunSt ⟨K, st, fix, tabs⟩ B Cr H G r w p hv (wlI n F) ps sn ∧ Rp K G (stD x) xv ∧ StOk0 x ∧ ∀ H' G', Stp ⟨K, st, fix, tabs⟩ H G H' G' → Ok3 ⟨K, st, fix, tabs⟩ H' G' → Q (.bl (canB n ps.length sn.isNone over x)) H'
theorem sc_Rcan : FnScope ["self", "step", "over"] ["self", "step", "over"] (defScope s_Rcan) := ⟨rfl, rfl, rfl, by decide +kernel, rfl, by decide +kernel, by decide +kernel⟩
theorem fn_Rcan {P : Program} {w0 : World} {K : PySem.W.Frag} {mg : Str → Option Value} {base : Heap} (F : Free mg) (d_is_box : Df P w0 K mg base "is_box" 1 false 2 sp_is_box) (d_is_move : Df P w0 K mg base "is_move" 2 false 2 sp_is_move) {Cr : Addr} (T : RunT K mg Cr) {f : Addr} {fd : FuncData} (G : Fun K "can" "Run.can" s_Rcan f fd) : FnOk P w0 K mg base (L2.CX P w0) 3 f fd ["self", "step", "over"] (spRcan K mg Cr) := by
  obtain ⟨fb, fdb, psb, FB, mb, kb, bb⟩ := d_is_box.ex
  obtain ⟨fm, fdm, psm, FM, mm, km, bm⟩ := d_is_move.ex
  refine G.okX sc_Rcan (fun vs H Q E h => ?_) (fun cdv A outer s H vs Q E hr h => ?_)
  · obtain ⟨st, fix, tabs, G, B, r, w, p, hv, n, F, ps, sn, x, xv, over, rfl, _⟩ := h
    rfl
  · obtain ⟨st, fix, tabs, G, B, r, w, p, hv, n, F0, ps, sn, x, xv, over, rfl, R, rx, sx, q⟩ := h
    have hpx : Passes (L2.CX P w0) (cxOf (L2.CX P w0) P w0 K mg base ["self", "step", "over"] "Run.can" (defScope s_Rcan) f cdv A outer s H E) E := passes_call (takes_of rfl rfl rfl rfl) (fun _ _ _ _ h => h)
    refine ⟨_, pss_cons (ps_if (show MT (cxOf (L2.CX P w0) P w0 K mg base ["self", "step", "over"] "Run.can" (defScope s_Rcan) f cdv A outer s H E) ⟨K, st, fix, tabs⟩ E _ _ from mt_eq rfl hr.units (me_var 1) (me_tup (ma_cons me_str ma_nil)))
        (pss_one (ps_ret (pe_and (pe_cmpR op_isN (pe_fld (pv 0) rfl) pe_non (nomark _)) (pe_one (pe_chain op_le op_le pe_int (pv 2) (pe_callB call_len_seq (by rfl) F.len PySem.boot_len (pa_cons (pe_fld (pv 0) rfl) pa_nil)) (by with_unfolding_all rfl)))))) pss_nil)
      (pss_cons (ps_if (show MT (cxOf (L2.CX P w0) P w0 K mg base ["self", "step", "over"] "Run.can" (defScope s_Rcan) f cdv A outer s H E) ⟨K, st, fix, tabs⟩ E _ _ from mt_w (mw_and (mt_eq rfl hr.units (me_len F rfl rfl (ma_cons (me_var 1) ma_nil)) me_int) (mw_and1 (mt_inS rfl (me_ix rfl (me_var 1) me_int) (me_tup (ma_cons me_str (ma_cons me_str ma_nil)))))))
        (pss_one (ps_ret (pe_and (pe_call FB (hr.mono (by decide)) rfl mb kb bb .nil hpx (pa_cons (pe_callB call_len_seq (by rfl) F.len PySem.boot_len (pa_cons (pe_fld (pv 0) rfl) pa_nil)) (pa_cons (show ME (cxOf (L2.CX P w0) P w0 K mg base ["self", "step", "over"] "Run.can" (defScope s_Rcan) f cdv A outer s H E) ⟨K, st, fix, tabs⟩ E _ _ from me_ix rfl (me_var 1) me_int) pa_nil)))
          (pe_one (pe_or (show ME (cxOf (L2.CX P w0) P w0 K mg base ["self", "step", "over"] "Run.can" (defScope s_Rcan) f cdv A outer s H E) ⟨K, st, fix, tabs⟩ E _ _ from me_eq rfl hr.units (me_ix rfl (me_var 1) me_int) me_str) (pe_one (pe_cmpR (op_neD hr.units) (pe_fld (pv 0) rfl) (pe_lst pa_nil) (nomark _)))))))) pss_nil)
      (pss_one (ps_ret (pe_call FM (hr.mono (by decide)) rfl mm km bm .nil hpx (pa_cons (pe_callB call_len_seq (by rfl) F.len PySem.boot_len (pa_cons (pe_fld (pv 0) rfl) pa_nil)) (pa_cons (pv 1) pa_nil)))))), ?_⟩
    have px : ∀ H G, PostX ⟨K, st, fix, tabs⟩ mg H G (fun _ => False) E := fun _ _ _ _ _ _ h => h.elim
    refine ⟨[none, some (stD x), some (.int over)], G, fun b => b = isCall x, fun _ => False, R.ok, .skip (.with rx (.with (.int over) .nil)), ⟨z1s, eqE_call sx rfl⟩, fun b H1 G1 s1 ok1 eb => ?_, px _ _⟩
    subst eb
    have R1 := R.step s1 ok1
    obtain ⟨dx, fs, sv, ho, FF, _, S⟩ := R1.ob
    refine ite2 (fun hc => ?_) (fun hc => ?_)
    · -- self.seen is None and 0 <= over <= len(self.pile)
      have es : decide (sv = V.non) = sn.isNone := by
        cases sn with
        | none => rw [show sv = V.non from S]; rfl
        | some zs =>
          obtain ⟨a, e, _⟩ := S
          rw [e]
          rfl
      have hk : canB n ps.length sn.isNone over x = (sn.isNone && (decide (0 ≤ over) && decide (over ≤ (ps.length : Int)))) := by
        unfold canB
        rw [if_pos hc]
      rw [hk] at q
      refine ⟨_, rfl, r, Cr, dx, fs, sv, rfl, ho, T.cl, T.nS, FF.ls, rfl, _, rfl, ?_⟩
      rw [es]
      cases hn : sn.isNone with
      | false =>
        rw [hn] at q
        exact q H1 G1 s1 ok1
      | true =>
        rw [hn] at q
        refine ⟨_, rfl, _, _, rfl, rfl, _, rfl, ?_⟩
        refine ite2 (fun c0 => ?_) (fun c0 => ?_)
        · rw [show decide (0 ≤ over) = true from c0] at q
          refine ⟨_, rfl, r, Cr, dx, fs, _, rfl, ho, T.cl, T.nP, FF.lp, p, _, rfl, .inl (.inl (.inl R1.hp)), _, _, rfl, rfl, ?_⟩
          rw [List.length_map]
          exact q H1 G1 s1 ok1
        · rw [show decide (0 ≤ over) = false from Bool.eq_false_iff.mpr c0] at q
          exact q H1 G1 s1 ok1
    · have hcf : isCall x = false := Bool.eq_false_iff.mpr hc
      have rx1 := rx.mono s1.ge
      refine ⟨[none, some (stD x), some (.int over)], G1, fun b => b = ppB x, fun _ => False, ok1, .skip (.with rx1 (.with (.int over) .nil)), ?_, fun b H2 G2 s2 ok2 eb => ?_, px _ _⟩
      · -- len(step) == 2 and step[0] in ("push", "pop")
        have go : ∀ xs : List D, stD x = .tup xs → lenD [.tup xs] (fun d => eqE false d (.int 2) (fun e => isB e fun k => if k = true then (ixD (.tup xs) (.int 0) fun d => 2 ≤ sizeLine ∧ inS false d (.tup (([("push" : Str), "pop"] : List Str).map D.str)) fun e => isB e fun b => b = ppB x) else false = ppB x)) := fun xs ex => by
          refine eqE_int (ite2 (fun c => ?_) (fun c => ?_))
          · have c : ((xs.length : Nat) : Int) = 2 := eqT c
            cases x with
            | none =>
              have e : ([] : List D) = xs := D.tup.inj ex
              subst e
              exact absurd c (by decide)
            | some y =>
              obtain ⟨w', ys⟩ := y
              have e : (.str w' :: ys.map D.int : List D) = xs := D.tup.inj ex
              subst e
              match ys, c with
              | [], c => exact absurd c (by show ¬ ((1 : Nat) : Int) = 2; decide)
              | [i], _ => exact ixD_tup (d := .str w') rfl ⟨z2, inS_w2 rfl⟩
              | a :: b :: r', c =>
                rw [List.length_cons, List.length_map, List.length_cons, List.length_cons] at c
                omega
          · have c : ¬ ((xs.length : Nat) : Int) = 2 := eqF c
            cases x with
            | none => rfl
            | some y =>
              obtain ⟨w', ys⟩ := y
              have e : (.str w' :: ys.map D.int : List D) = xs := D.tup.inj ex
              subst e
              match ys, c with
              | [], _ => rfl
              | [i], c => exact absurd (show (((D.str w' :: [i].map D.int).length : Nat) : Int) = 2 from rfl) c
              | a :: b :: r', _ => rfl
        cases hx : stD x with
        | tup xs => exact go xs hx
        | _ => cases x <;> cases hx
      · subst eb
        have R2 := R1.step s2 ok2
        obtain ⟨dx2, fs2, sv2, ho2, FF2, _, S2⟩ := R2.ob
        have rx2 := rx1.mono s2.ge
        have hpx' : ∀ H G, PostX ⟨K, st, fix, tabs⟩ mg H G (fun _ => False) E := px
        refine ite2 (fun hp => ?_) (fun hp => ?_)
        · obtain ⟨w', i, rfl⟩ : ∃ w' i, x = some (w', [i]) := by
            match x, hp with
            | some (w', [i]), _ => exact ⟨w', i, rfl⟩
          have hk : canB n ps.length sn.isNone over (some (w', [i])) = (inB n i && (decide (w' = "push") || !decide (ps.length = 0))) := by
            unfold canB
            rw [if_neg hc, if_pos hp]
            rfl
          rw [hk] at q
          refine ⟨_, rfl, r, Cr, dx2, fs2, _, rfl, ho2, T.cl, T.nW, FF2.lw, w, _, rfl, .inl (.inl (.inl R2.hw)), ?_⟩
          rw [List.length_map, wlI_len]
          refine ⟨[none, some (stD (some (w', [i]))), some (.int over)], G2, fun d => d = .int i, fun _ => False, ok2, .skip (.with rx2 (.with (.int over) .nil)), ixD_tup (d := .int i) rfl rfl, fun d v H3 G3 s3 ok3 r3 k3 => ?_, px _ _⟩
          subst k3
          cases r3
          refine call_post (X := (cxOf (L2.CX P w0) P w0 K mg base ["self", "step", "over"] "Run.can" (defScope s_Rcan) f cdv A outer s H E)) (s0 := st) (fix := fix) (tabs := tabs) (fr := false) (ds := [.int n, .int i]) (Kd := fun d => d = .bl (inB n i)) (KX := fun _ => False) FB ok3 (.cons (.int _) (.cons (.int _) .nil)) ⟨n, i, rfl, rfl⟩ rfl (fun d v H4 G4 s4 ok4 r4 k4 => ?_) (px _ _)
          have k4 : d = .bl (inB n i) := k4
          subst k4
          cases r4
          have s24 := s3.trans ok4 s4
          have R4 := R2.step s24 ok4
          have s14 := s1.trans ok4 (s2.trans ok4 s24)
          refine ⟨_, rfl, ite2 (fun hb => ?_) (fun hb => ?_)⟩
          · rw [hb, Bool.true_and] at q
            have rx4 := rx2.mono s24.ge
            refine ⟨[none, some (stD (some (w', [i]))), some (.int over)], G4, fun d => d = .bl (decide (w' = "push")), fun _ => False, ok4, .skip (.with rx4 (.with (.int over) .nil)), ixD_tup (d := .str w') rfl (eqE_str rfl), fun d v H5 G5 s5 ok5 r5 k5 => ?_, px _ _⟩
            subst k5
            cases r5
            have R5 := R4.step s5 ok5
            have s15 := s14.trans ok5 s5
            refine ⟨_, rfl, ite2 (fun hw' => ?_) (fun hw' => ?_)⟩
            · rw [hw', Bool.true_or] at q
              exact q _ _ s15 ok5
            · rw [Bool.eq_false_iff.mpr hw', Bool.false_or] at q
              obtain ⟨dx5, fs5, sv5, ho5, FF5, _, S5⟩ := R5.ob
              refine ⟨_, rfl, r, Cr, dx5, fs5, _, rfl, ho5, T.cl, T.nP, FF5.lp, Nat.zero_le _, fun l hl => ?_⟩
              obtain ⟨ok6, s6, g6⟩ := ok5.new (o := .lst []) hl
              have R6 := R5.step s6 ok6
              refine ⟨_, _, ints_dp R6.hp, ints_dp (xs := []) upd_same, ints_shaped ps, ints_shaped [], ?_⟩
              have e : (!PyData.eqv (.list (ps.map PyData.int)) (.list (([] : List Int).map PyData.int))) = !decide (ps.length = 0) := by
                cases ps with
                | nil => rfl
                | cons a r => simp [PyData.eqv, PyData.eqvAll]
              rw [e]
              exact q _ _ (s15.trans ok6 s6) ok6
          · rw [Bool.eq_false_iff.mpr hb, Bool.false_and] at q
            exact q _ _ s14 ok4
        · have hk : canB n ps.length sn.isNone over x = mvS n x := by
            unfold canB
            rw [if_neg hc, if_neg hp]
          rw [hk] at q
          refine ⟨_, rfl, r, Cr, dx2, fs2, _, rfl, ho2, T.cl, T.nW, FF2.lw, w, _, rfl, .inl (.inl (.inl R2.hw)), xv, rfl, ?_⟩
          rw [List.length_map, wlI_len]
          refine call_post (X := (cxOf (L2.CX P w0) P w0 K mg base ["self", "step", "over"] "Run.can" (defScope s_Rcan) f cdv A outer s H E)) (s0 := st) (fix := fix) (tabs := tabs) (fr := false) (ds := [.int n, stD x]) (Kd := fun d => d = .bl (mvS n x)) (KX := fun _ => False) FM ok2 (.cons (.int _) (.cons rx2 .nil)) ⟨n, stD x, _, rfl, isMv_st n x (.inr True.intro), rfl⟩ rfl (fun d v H4 G4 s4 ok4 r4 k4 => ?_) (px _ _)
          have k4 : d = .bl _ := k4
          subst k4
          cases r4
          exact q _ _ (s1.trans ok4 (s2.trans ok4 s4)) ok4
end L3
/-! R2: Run.do -/
namespace L3
open PySem PySem.Spec PyProof.Rows L2
theorem wlI_set {n : Nat} (F : Int → Int) {x : Int} (v : Int) (h0 : 0 ≤ x) (h1 : x < n) : ((wlI n F).map V.int).set x.toNat (.int v) = (wlI n fun y => if y = x then v else F y).map V.int := by
  obtain ⟨j, rfl⟩ : ∃ j : Nat, x = (j : Int) := ⟨x.toNat, by omega⟩
  apply List.ext_getElem
  · rw [List.length_set, List.length_map, List.length_map, wlI_len, wlI_len]
  · intro i h2 h3
    rw [List.getElem_set, List.getElem_map, List.getElem_map]
    unfold wlI
    rw [List.getElem_map, List.getElem_map, List.getElem_range, Int.toNat_natCast]
    by_cases c : j = i
    · subst c
      rw [if_pos rfl]
      show V.int v = V.int (if ((j : Nat) : Int) = (j : Nat) then v else F (j : Nat))
      rw [if_pos rfl]
    · rw [if_neg c]
      show V.int (F (i : Nat)) = V.int (if ((i : Nat) : Int) = (j : Nat) then v else F (i : Nat))
      rw [if_neg (by omega)]
theorem wlI_ix {n : Nat} (F : Int → Int) {x : Int} (h0 : 0 ≤ x) (h1 : x < n) : ixN ((wlI n F).map V.int).length x = some x.toNat := by
  rw [List.length_map, wlI_len]
  have := wl_ix (n := n) (fun _ => 0) h0 h1
  rwa [wl_len] at this
section
variable {C : C3} {B : Hp} {Cr : Addr} {H G H' G' : Hp} {r w p : Addr} {hv : V} {ws ps : List Int} {sn : Option (List Int)}
theorem RunSt.wrote (R : RunSt C B Cr H G r w p hv ws ps sn) {ws' : List Int} (nx : ∀ a o, C.sp a = false → a ≠ w → nT H a = some o → nT H' a = some o) (fr : ∀ a o, G a = none → G' a = some o → nT H a = none) (ok : Ok3 C H' G') (hw : H' w = some (.lst (ws'.map V.int))) (gw : G' w = none) : RunSt C B Cr H' G' r w p hv ws' ps sn := by
  obtain ⟨dx, fs, sv, h, F, l, S⟩ := R.ob
  have st : ∀ a o, C.sp a = false → a ≠ w → H a = some o → notTbl o = true → H' a = some o := fun a o s n e t => (nT_to (nx a o s n (nT_of e t))).1
  have gn : ∀ a o, H a = some o → G a = none → notTbl o = true → G' a = none := fun a o e g t => by
    cases q : G' a with
    | none => rfl
    | some u =>
      have := fr a u g q
      rw [nT_of e t] at this
      cases this
  refine ⟨ok, ⟨dx, fs, sv, st r _ R.sr R.rw.1 h rfl, F, l, ?_⟩, hw, st p _ R.sp R.ne.symm R.hp rfl, R.ne, R.sr, R.sw, R.sp, gn r _ h R.gr rfl, gw, gn p _ R.hp R.gp rfl⟩
  cases sn with
  | none => exact S
  | some zs =>
    obtain ⟨a, e, n1, n2, ha, sa, ga, ba⟩ := S
    exact ⟨a, e, n1, n2, st a _ sa n1 ha rfl, sa, gn a _ ha ga rfl, ba⟩
end
def setF (F : Int → Int) (i v : Int) : Int → Int := fun y => if y = i then v else F y
def doF (x : St0) (F : Int → Int) (ps : List Int) : Int → Int := match x with
  | some (w, [i]) => if w = "push" then F else setF F i (ps.getLastD 0)
  | some (w, [i, j]) => stp F (if w = "copy" then .cp i j else .sw i j)
  | _ => F
def doP (x : St0) (F : Int → Int) (ps : List Int) : List Int := match x with
  | some (w, [i]) => if w = "push" then ps ++ [F i] else ps.dropLast
  | _ => ps
def DoOk (n : Nat) (ps : List Int) : St0 → Prop
  | some (w, [i]) => 0 ≤ i ∧ i < n ∧ (w = "push" ∨ (w = "pop" ∧ ps ≠ []))
  | some (w, [i, j]) => (0 ≤ i ∧ i < n) ∧ (0 ≤ j ∧ j < n) ∧ i ≠ j ∧ (w = "copy" ∨ w = "swap")
  | _ => False
def spRdo (K : PySem.W.Frag) (Cr : Addr) : Sp := fun vs H Q _ => ∃ (st : Option (Addr × Addr × List Int)) (fix : List (Addr × HO)) (tabs : List (Addr × Str)) (G B : Hp) (r w p : Addr) (hv : V) (n : Nat) (F : Int → Int) (ps : List Int) (sn : Option (List Int)) (x : St0) (xv : V),
  vs = [.ref r, xv] ∧ RunSt ⟨K, st, fix, tabs⟩ B Cr H G r w p hv (wlI n F) ps sn ∧ Rp K G (stD x) xv ∧ StOk0 x ∧ DoOk n ps x ∧ ps.length ≤ 100000 ∧
  ∀ H' G', Fr ⟨K, st, fix, tabs⟩ H G H' G' r w p → RunSt ⟨K, st, fix, tabs⟩ B Cr H' G' r w p hv (wlI n (doF x F ps)) (doP x F ps) sn → Q .non H'
theorem sc_Rdo : FnScope ["self", "step"] ["self", "step"] (defScope s_Rdo) := ⟨rfl, rfl, rfl, by decide +kernel, rfl, by decide +kernel, by decide +kernel⟩
theorem fn_Rdo {P : Program} {w0 : World} {K : PySem.W.Frag} {mg : Str → Option Value} {base : Heap} (F : Free mg) (d_do_move : DfO P w0 K mg base "do_move" 1 1 sp_do_move) {Cr : Addr} (T : RunT K mg Cr) {f : Addr} {fd : FuncData} (G : Fun K "do" "Run.do" s_Rdo f fd) : FnOk P w0 K mg base (L2.CX P w0) 2 f fd ["self", "step"] (spRdo K Cr) := by
  obtain ⟨fm, fdm, psm, FM, mm, km, bm⟩ := d_do_move.ex
  refine G.okX sc_Rdo (fun vs H Q E h => ?_) (fun cdv A outer s H vs Q E hr h => ?_)
  · obtain ⟨st, fix, tabs, G, B, r, w, p, hv, n, F, ps, sn, x, xv, rfl, _⟩ := h
    rfl
  · obtain ⟨st, fix, tabs, G, B, r, w, p, hv, n, F0, ps, sn, x, xv, rfl, R, rx, sx, dk, hps, q⟩ := h
    have hpx : Passes (L2.CX P w0) (cxOf (L2.CX P w0) P w0 K mg base ["self", "step"] "Run.do" (defScope s_Rdo) f cdv A outer s H E) E := passes_call (takes_of rfl rfl rfl rfl) (fun _ _ _ _ h => h)
    have px : ∀ H G, PostX ⟨K, st, fix, tabs⟩ mg H G (fun _ => False) E := fun _ _ _ _ _ _ h => h.elim
    refine ⟨_, pss_one (ps_if (show MT (cxOf (L2.CX P w0) P w0 K mg base ["self", "step"] "Run.do" (defScope s_Rdo) f cdv A outer s H E) ⟨K, st, fix, tabs⟩ E _ _ from mt_eq rfl hr.units (me_ix rfl (me_var 1) me_int) me_str)
      (pss_one (ps_expr (pe_bm PySem.F.plainAttrs_list PySem.F.slot_list_append PySem.F.type_list_append mt_append (pe_fld (pv 0) rfl) (pa_cons (pe_ix ix_list (pe_fld (pv 0) rfl) (show ME (cxOf (L2.CX P w0) P w0 K mg base ["self", "step"] "Run.do" (defScope s_Rdo) f cdv A outer s H E) ⟨K, st, fix, tabs⟩ E _ _ from me_ix rfl (me_var 1) me_int) (fun _ _ => rfl)) pa_nil))))
      (pss_one (ps_if (show MT (cxOf (L2.CX P w0) P w0 K mg base ["self", "step"] "Run.do" (defScope s_Rdo) f cdv A outer s H E) ⟨K, st, fix, tabs⟩ E _ _ from mt_eq rfl hr.units (me_ix rfl (me_var 1) me_int) me_str)
        (pss_one (ps_asg (pe_bm0 PySem.F.plainAttrs_list PySem.F.slot_list_pop PySem.F.type_list_pop mt_pop (pe_fld (pv 0) rfl)) (pg_sub (pe_fld (pv 0) rfl) (show ME (cxOf (L2.CX P w0) P w0 K mg base ["self", "step"] "Run.do" (defScope s_Rdo) f cdv A outer s H E) ⟨K, st, fix, tabs⟩ E _ _ from me_ix rfl (me_var 1) me_int) set_list (by intro _; rfl))))
        (pss_one (ps_expr (pe_call FM (hr.mono (by decide)) rfl mm km bm .nil hpx (pa_cons (pe_fld (pv 0) rfl) (pa_cons (pv 1) pa_nil)))))))), ?_⟩
    obtain ⟨w', is, rfl⟩ : ∃ w' is, x = some (w', is) := by
      cases x with
      | none => exact dk.elim
      | some y => exact ⟨y.1, y.2, rfl⟩
    -- the first test
    refine ⟨[none, some (stD (some (w', is)))], G, fun b => b = decide (w' = "push"), fun _ => False, R.ok, .skip (.with rx .nil), ixD_tup (d := .str w') (atI_nat (j := 0) rfl) (eqE_str rfl), fun b H1 G1 s1 ok1 eb => ?_, px _ _⟩
    subst eb
    have R1 := R.step s1 ok1
    have rx1 := rx.mono s1.ge
    obtain ⟨dx, fs, sv, ho, FF, _, S⟩ := R1.ob
    refine ite2 (fun hc => ?_) (fun hc => ?_)
    · have hw' : w' = "push" := of_decide_eq_true hc
      obtain ⟨i, rfl⟩ : ∃ i, is = [i] := by
        match is, dk with
        | [i], _ => exact ⟨i, rfl⟩
        | [i, j], dk =>
          obtain ⟨_, _, _, h⟩ := dk
          rw [hw'] at h
          exact absurd h (by decide +kernel)
      obtain ⟨i0, i1, _⟩ := dk
      refine ⟨_, rfl, r, Cr, dx, fs, _, rfl, ho, T.cl, T.nP, FF.lp, .inl ⟨rfl, _, .inl (.inl R1.hp)⟩, ?_⟩
      refine ⟨_, rfl, r, Cr, dx, fs, _, rfl, ho, T.cl, T.nW, FF.lw, ?_⟩
      refine ⟨[none, some (stD (some (w', [i])))], G1, fun d => d = .int i, fun _ => False, ok1, .skip (.with rx1 .nil), ixD_tup (d := .int i) rfl rfl, fun d v H2 G2 s2 ok2 r2 k2 => ?_, px _ _⟩
      subst k2
      cases r2
      have R2 := R1.step s2 ok2
      refine ⟨w, _, _, _, rfl, rfl, .inl (.inl R2.hw), wlI_at F0 i0 i1, p, _, _, rfl, rfl, R2.hp, sz_lt (by rw [List.length_map]; omega), ?_⟩
      have e : (ps.map V.int ++ [V.int (F0 i)]) = (ps ++ [F0 i]).map V.int := by rw [List.map_append]; rfl
      rw [e]
      refine q _ G2 ((Fr.of (s1.trans ok2 s2)).trans (Fr.upd (.inr (.inr rfl))) (R2.setP _).ok R2.gr R2.gw R2.gp) ?_
      have e1 : doF (some (w', [i])) F0 ps = F0 := if_pos hw'
      have e2 : doP (some (w', [i])) F0 ps = ps ++ [F0 i] := if_pos hw'
      rw [e1, e2]
      exact R2.setP _
    · have hw' : ¬ w' = "push" := of_decide_eq_false (Bool.eq_false_iff.mpr hc)
      refine ⟨[none, some (stD (some (w', is)))], G1, fun b => b = decide (w' = "pop"), fun _ => False, ok1, .skip (.with rx1 .nil), ixD_tup (d := .str w') (atI_nat (j := 0) rfl) (eqE_str rfl), fun b H2 G2 s2 ok2 eb => ?_, px _ _⟩
      subst eb
      have R2 := R1.step s2 ok2
      have rx2 := rx1.mono s2.ge
      obtain ⟨dx2, fs2, sv2, ho2, FF2, _, S2⟩ := R2.ob
      refine ite2 (fun hd => ?_) (fun hd => ?_)
      · have hp' : w' = "pop" := of_decide_eq_true hd
        obtain ⟨i, rfl⟩ : ∃ i, is = [i] := by
          match is, dk with
          | [i], _ => exact ⟨i, rfl⟩
          | [i, j], dk =>
            obtain ⟨_, _, _, h⟩ := dk
            rw [hp'] at h
            exact absurd h (by decide +kernel)
        obtain ⟨i0, i1, h⟩ := dk
        have hne : ps ≠ [] := by
          rcases h with h | h
          · exact absurd h hw'
          · exact h.2
        obtain ⟨qs, z, rfl⟩ : ∃ qs z, ps = qs ++ [z] := ⟨ps.dropLast, ps.getLast hne, (List.dropLast_concat_getLast hne).symm⟩
        have ez : ((qs ++ [z]).map V.int)[((qs ++ [z]).map V.int).length - 1]? = some (.int z) := by
          rw [List.length_map, List.length_append, List.length_singleton, Nat.add_sub_cancel, List.getElem?_map, List.getElem?_append_right (Nat.le_refl _), Nat.sub_self]
          rfl
        have ed : ((qs ++ [z]).map V.int).dropLast = qs.map V.int := by rw [List.map_append, List.map_singleton, List.dropLast_concat]
        refine ⟨_, rfl, r, Cr, dx2, fs2, _, rfl, ho2, T.cl, T.nP, FF2.lp, .inl ⟨rfl, _, .inl (.inl R2.hp)⟩, p, _, _, rfl, rfl, R2.hp, ez, ?_⟩
        rw [ed]
        have R3 := R2.setP qs
        obtain ⟨dx3, fs3, sv3, ho3, FF3, _, S3⟩ := R3.ob
        refine ⟨_, rfl, r, Cr, dx3, fs3, _, rfl, ho3, T.cl, T.nW, FF3.lw, ?_⟩
        refine ⟨[none, some (stD (some (w', [i])))], G2, fun d => d = .int i, fun _ => False, R3.ok, .skip (.with rx2 .nil), ixD_tup (d := .int i) rfl rfl, fun d v H4 G4 s4 ok4 r4 k4 => ?_, px _ _⟩
        subst k4
        cases r4
        have R4 := R3.step s4 ok4
        refine ⟨w, _, _, _, rfl, rfl, R4.hw, wlI_ix F0 i0 i1, ?_⟩
        rw [wlI_set F0 z i0 i1]
        have R5 := R4.setW (wlI n fun y => if y = i then z else F0 y)
        refine q _ G4 ((((Fr.of (s1.trans ok2 s2)).trans (Fr.upd (.inr (.inr rfl))) R3.ok R2.gr R2.gw R2.gp).trans (Fr.of s4) ok4 R4.gr R4.gw R4.gp).trans (Fr.upd (.inr (.inl rfl))) R5.ok R4.gr R4.gw R4.gp) ?_
        have e1 : doF (some (w', [i])) F0 (qs ++ [z]) = fun y => if y = i then z else F0 y := by
          show (if w' = "push" then F0 else setF F0 i ((qs ++ [z]).getLastD 0)) = _
          rw [if_neg hw']
          unfold setF
          rw [List.getLastD_concat]
        have e2 : doP (some (w', [i])) F0 (qs ++ [z]) = qs := by
          show (if w' = "push" then (qs ++ [z]) ++ [F0 i] else (qs ++ [z]).dropLast) = _
          rw [if_neg hw', List.dropLast_concat]
        rw [e1, e2]
        exact R5
      · have hp' : ¬ w' = "pop" := of_decide_eq_false (Bool.eq_false_iff.mpr hd)
        obtain ⟨i, j, rfl⟩ : ∃ i j, is = [i, j] := by
          match is, dk with
          | [i], dk =>
            obtain ⟨_, _, h⟩ := dk
            rcases h with h | h
            · exact absurd h hw'
            · exact absurd h.1 hp'
          | [i, j], _ => exact ⟨i, j, rfl⟩
        obtain ⟨hi, hj, ne, hcs⟩ := dk
        let m : Mv := if w' = "copy" then .cp i j else .sw i j
        have em : stD (some (w', [i, j])) = mvD m := by
          show D.tup [.str w', .int i, .int j] = mvD (if w' = "copy" then .cp i j else .sw i j)
          rcases hcs with h | h
          · rw [if_pos h, h]; rfl
          · rw [if_neg (by rw [h]; decide +kernel), h]; rfl
        have inb : Mv.inb n m := by
          show Mv.inb n (if w' = "copy" then .cp i j else .sw i j)
          split
          · exact ⟨hi.1, hi.2, hj.1, hj.2⟩
          · exact ⟨hi.1, hi.2, hj.1, hj.2⟩
        refine ⟨_, rfl, r, Cr, dx2, fs2, _, rfl, ho2, T.cl, T.nW, FF2.lw, xv, rfl, ?_⟩
        have rr : Rps K G2 (wl n F0) ((wlI n F0).map V.int) := by
          rw [← wlI_D]
          exact Rps.ofInts _
        show OSp K 1 sp_do_move ([V.ref w, xv] ++ []) H2 _ E
        refine ⟨st, fix, tabs, w, [xv], wl n F0, _, [mvD m], G2, fun xs => xs = wl n (stp F0 m), rfl, ok2, R2.sw, R2.gw, R2.hw, rr, .cons (by rw [← em]; exact rx2) .nil, rfl, ⟨n, F0, m, rfl, rfl, inb, rfl⟩, fun xs' ys' H' G' nx ge fr' ok' hp'' gp' r' kl => ?_⟩
        have kl : xs' = wl n (stp F0 m) := kl
        subst kl
        rw [← wlI_D] at r'
        rw [r'.ints] at hp''
        have R3 := R2.wrote nx fr' ok' hp'' gp'
        refine q H' G' ((Fr.of (s1.trans ok2 s2)).trans ⟨fun a o sp _ h2 _ h => nx a o sp h2 h, ge, fr'⟩ ok' R3.gr R3.gw R3.gp) R3
end L3
/-! R3: Run.call -/
namespace L3
open PySem PySem.Spec PyProof.Rows L2
theorem wlI_ext {n : Nat} {F G : Int → Int} (h : ∀ x, 0 ≤ x → x < (n : Int) → F x = G x) : wlI n F = wlI n G := by
  unfold wlI
  apply List.map_congr_left
  intro i hi
  have := List.mem_range.mp hi
  rw [h i (by omega) (by omega)]
/-- what stays fixed while the called one works -/
structure CS (C : C3) (G H0 : Hp) (r w p D : Addr) (hv : V) (fs : List (Str × V)) : Prop where
  FF : FS fs w p hv (.ref D)
  len : fs.length ≤ 20
  sr : C.sp r = false
  sw : C.sp w = false
  sp : C.sp p = false
  sD : C.sp D = false
  gr : G r = none
  gw : G w = none
  gp : G p = none
  gD : G D = none
  wp : w ≠ p
  rw : r ≠ w
  rp : r ≠ p
  Dr : D ≠ r
  Dw : D ≠ w
  Dp : D ≠ p
  new : H0 D = none
structure CI (C : C3) (Cr : Addr) (G H0 : Hp) (r w p D dx : Addr) (fs : List (Str × V)) (ws ps zs : List Int) (H : Hp) : Prop where
  ok : Ok3 C H G
  ho : H r = some (.ins Cr dx fs)
  hw : H w = some (.lst (ws.map V.int))
  hp : H p = some (.lst (ps.map V.int))
  hD : H D = some (.lst (zs.map V.int))
  nx : ∀ c o, C.sp c = false → c ≠ r → c ≠ w → c ≠ p → nT H0 c = some o → nT H c = some o
section
variable {C : C3} {B : Hp} {Cr : Addr} {G H0 H : Hp} {r w p D dx : Addr} {hv : V} {fs : List (Str × V)} {ws ps zs : List Int}
theorem CI.run (bD : B D = none) (S : CS C G H0 r w p D hv fs) (I : CI C Cr G H0 r w p D dx fs ws ps zs H) : RunSt C B Cr H G r w p hv ws ps (some zs) :=
  ⟨I.ok, ⟨dx, fs, .ref D, I.ho, S.FF, S.len, ⟨D, rfl, S.Dw, S.Dp, I.hD, S.sD, S.gD, bD⟩⟩, I.hw, I.hp, S.wp, S.sr, S.sw, S.sp, S.gr, S.gw, S.gp⟩
theorem CI.setW (S : CS C G H0 r w p D hv fs) (I : CI C Cr G H0 r w p D dx fs ws ps zs H) (ws' : List Int) : CI C Cr G H0 r w p D dx fs ws' ps zs (upd H w (.lst (ws'.map V.int))) :=
  ⟨I.ok.at S.gw S.sw I.hw, by rw [upd_ne S.rw]; exact I.ho, upd_same, by rw [upd_ne S.wp.symm]; exact I.hp, by rw [upd_ne S.Dw]; exact I.hD, fun c o s h1 h2 h3 h => by rw [nT_ne h2]; exact I.nx c o s h1 h2 h3 h⟩
theorem CI.setP (S : CS C G H0 r w p D hv fs) (I : CI C Cr G H0 r w p D dx fs ws ps zs H) (ps' : List Int) : CI C Cr G H0 r w p D dx fs ws ps' zs (upd H p (.lst (ps'.map V.int))) :=
  ⟨I.ok.at S.gp S.sp I.hp, by rw [upd_ne S.rp]; exact I.ho, by rw [upd_ne S.wp]; exact I.hw, upd_same, by rw [upd_ne S.Dp]; exact I.hD, fun c o s h1 h2 h3 h => by rw [nT_ne h3]; exact I.nx c o s h1 h2 h3 h⟩
theorem CI.setD (S : CS C G H0 r w p D hv fs) (I : CI C Cr G H0 r w p D dx fs ws ps zs H) (zs' : List Int) : CI C Cr G H0 r w p D dx fs ws ps zs' (upd H D (.lst (zs'.map V.int))) :=
  ⟨I.ok.at S.gD S.sD I.hD, by rw [upd_ne S.Dr.symm]; exact I.ho, by rw [upd_ne S.Dw.symm]; exact I.hw, by rw [upd_ne S.Dp.symm]; exact I.hp, upd_same, fun c o s h1 h2 h3 h => by
    rw [nT_ne fun z => by rw [z, nT_none S.new] at h; cases h]
    exact I.nx c o s h1 h2 h3 h⟩
end
theorem RunSt.other {C : C3} {B : Hp} {Cr : Addr} {H G : Hp} {r w p a : Addr} {hv : V} {ws ps : List Int} {o u : HO} (R : RunSt C B Cr H G r w p hv ws ps none) (g : G a = none) (sp : C.sp a = false) (h : H a = some u) (hr : a ≠ r) (hw : a ≠ w) (hp : a ≠ p) (n : notExt u = true := by rfl) : RunSt C B Cr (upd H a o) G r w p hv ws ps none := by
  obtain ⟨dx, fs, sv, h1, F, l, S⟩ := R.ob
  exact ⟨R.ok.at g sp h n, ⟨dx, fs, sv, by rw [upd_ne hr.symm]; exact h1, F, l, S⟩, by rw [upd_ne hw.symm]; exact R.hw, by rw [upd_ne hp.symm]; exact R.hp, R.ne, R.sr, R.sw, R.sp, R.gr, R.gw, R.gp⟩
theorem flatV_ints (ns : List Int) : (ns.map V.int).all flatV = true := by
  induction ns with
  | nil => rfl
  | cons n r ih => rw [List.map_cons, List.all_cons, ih]; rfl
theorem take_last {ps : List Int} {k : Nat} (h : k < ps.length) : ps.take (k + 1) = ps.take k ++ [ps[k]] ∧ (ps.drop k).reverse = (ps.drop (k + 1)).reverse ++ [ps[k]] := by
  refine ⟨by rw [List.take_add_one, List.getElem?_eq_getElem h]; rfl, ?_⟩
  rw [List.drop_eq_getElem_cons h, List.reverse_cons]
def mixF (F L : Int → Int) (kept : List Int) (i : Nat) : Int → Int := fun y => if y < (i : Int) ∧ y ∉ kept then L y else F y
def callF (F L : Int → Int) (kept : List Int) (out given : Int) : Int → Int := fun y => if y = out then given else if y ∈ kept then F y else L y
def spRcall (K : PySem.W.Frag) (Cr : Addr) : Sp := fun vs H Q _ => ∃ (st : Option (Addr × Addr × List Int)) (fix : List (Addr × HO)) (tabs : List (Addr × Str)) (G B : Hp) (r w p : Addr) (hv lv : V) (n : Nat) (F L : Int → Int) (ps : List Int) (given : Int) (ov : Nat) (ins : List Int) (out : Int) (kept : List Int),
  vs = [.ref r, .int given, lv, .int (ov : Nat)] ∧ RunSt ⟨K, st, fix, tabs⟩ B Cr H G r w p hv (wlI n F) ps none ∧ Rp K G (houseD ins out kept) hv ∧ Rp K G (.lst (wl n L)) lv ∧ n ≤ 1000 ∧ ins.length ≤ 100 ∧ (∀ x ∈ ins, 0 ≤ x ∧ x < (n : Int)) ∧ (0 ≤ out ∧ out < (n : Int)) ∧ ov ≤ ps.length ∧ ps.length ≤ 100000 ∧ (∀ c o, C3.sp ⟨K, st, fix, tabs⟩ c = false → B c = some o → nT H c = some o) ∧
  ∀ H' , Fr ⟨K, st, fix, tabs⟩ H G H' G r w p → RunSt ⟨K, st, fix, tabs⟩ B Cr H' G r w p hv (wlI n (callF F L kept out given)) (ps.take (ps.length - ov)) (some (ins.map F ++ (ps.drop (ps.length - ov)).reverse)) → Q .non H'
abbrev N_Rcall : List Str := ["self", "given", "lost", "over", "ins", "out", "kept", "box", "turn"]
theorem sc_Rcall : FnScope N_Rcall ["self", "given", "lost", "over"] (defScope s_Rcall) := ⟨rfl, rfl, rfl, by decide +kernel, rfl, by decide +kernel, by decide +kernel⟩
theorem fn_Rcall {P : Program} {w0 : World} {K : PySem.W.Frag} {mg : Str → Option Value} {base : Heap} (F : Free mg) {Cr : Addr} (T : RunT K mg Cr) {f : Addr} {fd : FuncData} (G : Fun K "call" "Run.call" s_Rcall f fd) : FnOk P w0 K mg base (L2.CX P w0) 1 f fd ["self", "given", "lost", "over"] (spRcall K Cr) := by
  refine G.okX sc_Rcall (fun vs H Q E h => ?_) (fun cdv A outer s H vs Q E hr h => ?_)
  · obtain ⟨st, fix, tabs, G, B, r, w, p, hv, lv, n, F, L, ps, given, ov, ins, out, kept, rfl, _⟩ := h
    rfl
  · obtain ⟨st, fix, tabs, G, B, r, w, p, hv, lv, n, F0, L, ps, given, ov, ins, out, kept, rfl, R, rh, rl, hn, hi, ib, ob, ho, hps, hB, q⟩ := h
    refine ⟨_, pss_cons (ps_asg (pe_fld (pv 0) rfl) (pg_tp rfl (pgs_nm sc_Rcall.nd (i := 4) rfl (by first | exact Or.inl rfl | exact Or.inr rfl) (pgs_nm sc_Rcall.nd (i := 5) rfl (by first | exact Or.inl rfl | exact Or.inr rfl) (pgs_nm sc_Rcall.nd (i := 6) rfl (by first | exact Or.inl rfl | exact Or.inr rfl) pgs_no)))))
      (pss_cons (ps_fld (pv 0) (by exact (pe_lc (own := [("box", 7)]) (g := gName 7) (tt := tYes) (te := tOp (rIxL K) (tFld K (tVar 0) "worths") (tVar 7)) rfl sc_Rcall.nd (pi_tup (pv 4)) (blkOk_by (N := N_Rcall) (sc := defScope s_Rcall) (by decide +kernel)) (fun _ _ _ _ _ => pg_name (i := 7) sc_Rcall.nd rfl (by first | exact Or.inl rfl | exact Or.inr rfl)) (fun _ _ _ _ _ => pts_nil) (fun _ _ _ _ _ => pe_ix ix_list (pe_fld (pv 0) rfl) (pv 7) (fun _ _ => rfl)))) rfl)
      (pss_cons (ps_for (passes_of rfl) rfl (pi_range1 rfl F.range (pa_cons (pv 3) pa_nil)) (pg_name (i := 8) sc_Rcall.nd rfl (by first | exact Or.inl rfl | exact Or.inr rfl)) (pss_one (ps_expr (pe_bm PySem.F.plainAttrs_list PySem.F.slot_list_append PySem.F.type_list_append mt_append (pe_fld (pv 0) rfl) (pa_cons (pe_bm0 PySem.F.plainAttrs_list PySem.F.slot_list_pop PySem.F.type_list_pop mt_pop (pe_fld (pv 0) rfl)) pa_nil)))))
      (pss_cons (ps_for (passes_of rfl) rfl (pi_range1 rfl F.range (pa_cons (pe_callB call_len_seq (by rfl) F.len PySem.boot_len (pa_cons (pe_fld (pv 0) rfl) pa_nil)) pa_nil)) (pg_name (i := 7) sc_Rcall.nd rfl (by first | exact Or.inl rfl | exact Or.inr rfl))
        (pss_one (ps_if (pt_cmpR op_notIn_seq (pv 7) (pv 6) rfl) (pss_one (ps_asg (pe_ix ix_list (pv 2) (pv 7) (fun _ _ => rfl)) (pg_sub (pe_fld (pv 0) rfl) (pv 7) set_list (by intro _; rfl)))) pss_nil)))
      (pss_one (ps_asg (pv 1) (pg_sub (pe_fld (pv 0) rfl) (pv 5) set_list (by intro _; rfl))))))), ?_⟩
    obtain ⟨ha, vi, vk, rfl, hta, ti, tk⟩ : ∃ (ha : Addr) (vi vk : Addr), hv = .ref ha ∧ TupN K G ha [.ref vi, .int out, .ref vk] ∧ TupN K G vi (ins.map V.int) ∧ TupN K G vk (kept.map V.int) := by
      cases rh with
      | tup h rr =>
        cases rr with
        | cons r1 rr =>
          cases rr with
          | cons r2 rr =>
            cases rr with
            | cons r3 rr =>
              cases rr
              cases r2
              cases r1 with
              | tup h1 i1 =>
                cases r3 with
                | tup h3 i3 =>
                  rw [i1.ints] at h1
                  rw [i3.ints] at h3
                  exact ⟨_, _, _, rfl, h, h1, h3⟩
    obtain ⟨la, rfl, hla⟩ : ∃ la : Addr, lv = .ref la ∧ G la = some (.lst ((wlI n L).map V.int)) := by
      cases rl with
      | lst h r =>
        rw [← wlI_D] at r
        rw [r.ints] at h
        exact ⟨_, rfl, h⟩
    have sq : ∀ {H' : Hp} {a : Addr} {vs : List V}, Ok3 ⟨K, st, fix, tabs⟩ H' G → TupN K G a vs → SqT K H' a vs := fun ok t => seqT (fun u o e => (ok.sub u o e).2) t.sq
    obtain ⟨dx, fs, sv, h0, FF, fl, S⟩ := R.ob
    have fl : fs.length ≤ 10 := fl
    refine ⟨_, rfl, r, Cr, dx, fs, _, rfl, h0, T.cl, T.nH, FF.lh, ha, _, rfl, sq R.ok hta, rfl, _, _, rfl, _, _, rfl, _, _, rfl, rfl, ?_⟩
    refine ⟨_, rfl, vi, rfl, ⟨_, sq R.ok ti⟩, fun D hD => lc_tup (K := K) (a := vi) (xs := ins.map V.int) (fun i H2 => RunSt ⟨K, st, fix, tabs⟩ B Cr H2 G r w p (.ref ha) (wlI n F0) ps none ∧ H2 D = some (.lst ((ins.take i).map fun x => V.int (F0 x))) ∧ H2 r = some (.ins Cr dx fs) ∧ ∀ c o, C3.sp ⟨K, st, fix, tabs⟩ c = false → nT H c = some o → nT H2 c = some o) ?_ ?_ ?_ ?_⟩
    all_goals obtain ⟨ok1, s1, gD⟩ := R.ok.new (o := .lst []) hD
    all_goals have nDr : D ≠ r := fun z => by rw [z, h0] at hD; cases hD
    all_goals have nDw : D ≠ w := fun z => by rw [z, R.hw] at hD; cases hD
    all_goals have nDp : D ≠ p := fun z => by rw [z, R.hp] at hD; cases hD
    all_goals have sD : C3.sp ⟨K, st, fix, tabs⟩ D = false := R.ok.iv.new hD
    · exact ⟨R.step s1 ok1, upd_same, by rw [upd_ne nDr.symm]; exact h0, fun c o sc h => s1.nx c o sc h⟩
    · exact fun i H2 _ h => sq h.1.ok ti
    · rintro i x H2 hx ⟨R2, hD2, hr2, nx2⟩
      rw [List.getElem?_map] at hx
      cases e : ins[i]? with
      | none => rw [e] at hx; cases hx
      | some y =>
        rw [e] at hx
        have hx := Option.some.inj hx
        subst hx
        have hb := ib y (List.mem_of_getElem? e)
        refine ⟨rfl, ?_⟩
        refine ⟨_, rfl, r, Cr, dx, fs, _, rfl, hr2, T.cl, T.nW, FF.lw, _, rfl, w, _, _, _, rfl, rfl, .inl (.inl R2.hw), wlI_at F0 hb.1 hb.2, _, hD2, sz_lt (by rw [List.length_map, List.length_take]; omega), R2.other gD sD hD2 nDr nDw nDp, ?_, by rw [upd_ne nDr.symm]; exact hr2, fun c o sc h => ?_⟩
        · rw [upd_same, List.take_add_one, e, List.map_append]
          rfl
        · rw [nT_ne fun z => by rw [z, nT_none hD] at h; cases h]
          exact nx2 c o sc h
    rintro H2 ⟨R2, hD2, hr2, nx2⟩
    rw [List.length_map, List.take_length] at hD2
    have eD : (ins.map fun x => V.int (F0 x)) = (ins.map F0).map V.int := by rw [List.map_map]; rfl
    rw [eD] at hD2
    have FF2 := FF.put (.ref D)
    have bD : B D = none := by
      cases z : B D with
      | none => rfl
      | some o =>
        have := hB D o sD z
        rw [nT_none hD] at this
        cases this
    have SS : CS ⟨K, st, fix, tabs⟩ G H r w p D (.ref ha) (putF "seen" (.ref D) fs) := ⟨FF2, by have := length_putF "seen" (.ref D) fs; omega, R.sr, R.sw, R.sp, sD, R.gr, R.gw, R.gp, gD, R.ne, R.rw.1, R.rw.2, nDr, nDw, nDp, hD⟩
    have I0 : CI ⟨K, st, fix, tabs⟩ Cr G H r w p D dx (putF "seen" (.ref D) fs) (wlI n F0) ps (ins.map F0) (upd H2 r (.ins Cr dx (putF "seen" (.ref D) fs))) :=
      ⟨R2.ok.at R.gr R.sr hr2, upd_same, by rw [upd_ne R.rw.1.symm]; exact R2.hw, by rw [upd_ne R.rw.2.symm]; exact R2.hp, by rw [upd_ne nDr]; exact hD2, fun c o sc h1 h2 h3 h => by rw [nT_ne h1]; exact nx2 c o sc h⟩
    refine ⟨_, rfl, r, Cr, dx, fs, rfl, hr2, T.cl, T.nS, Nat.lt_of_le_of_lt fl (by decide), ?_⟩
    generalize putF "seen" (V.ref D) fs = fs2 at FF2 SS I0 ⊢
    -- for turn in range(over)
    refine ⟨_, rfl, (ov : Nat), rfl, by omega, by omega, for_range (lo := 0) (n := ((ov : Nat) : Int).toNat) (fun i σ H' => ∃ e7 e8, σ = [some (.ref r), some (.int given), some (.ref la), some (.int (ov : Nat)), some (.ref vi), some (.int out), some (.ref vk), e7, e8] ∧ CI ⟨K, st, fix, tabs⟩ Cr G H r w p D dx fs2 (wlI n F0) (ps.take (ps.length - i)) (ins.map F0 ++ (ps.drop (ps.length - i)).reverse) H') ⟨_, _, rfl, by rw [Nat.sub_zero, List.take_length, List.drop_length, List.reverse_nil, List.append_nil]; exact I0⟩ ?_ ?_⟩
    · rintro i σ H3 hi ⟨e7, e8, rfl, I⟩
      have hi : i < ov := by omega
      obtain ⟨k, hk⟩ : ∃ k, ps.length - i = k + 1 := ⟨ps.length - i - 1, by omega⟩
      have hkl : k < ps.length := by omega
      obtain ⟨t1, t2⟩ := take_last hkl
      rw [hk, t1] at I
      have hz : ps.length - (i + 1) = k := by omega
      have ez : ((ps.take k ++ [ps[k]]).map V.int)[((ps.take k ++ [ps[k]]).map V.int).length - 1]? = some (.int ps[k]) := by
        rw [List.length_map, List.length_append, List.length_singleton, Nat.add_sub_cancel, List.getElem?_map, List.getElem?_append_right (Nat.le_refl _), Nat.sub_self]
        rfl
      have ed : ((ps.take k ++ [ps[k]]).map V.int).dropLast = (ps.take k).map V.int := by rw [List.map_append, List.map_singleton, List.dropLast_concat]
      refine ⟨_, rfl, r, Cr, dx, fs2, _, rfl, I.ho, T.cl, T.nS, FF2.ls, .inl ⟨rfl, _, .inl (.inl I.hD)⟩, _, rfl, r, Cr, dx, fs2, _, rfl, I.ho, T.cl, T.nP, FF2.lp, .inl ⟨rfl, _, .inl (.inl I.hp)⟩, p, _, _, rfl, rfl, I.hp, ez, ?_⟩
      rw [ed]
      have I1 := I.setP SS (ps.take k)
      refine ⟨D, _, _, rfl, rfl, I1.hD, sz_lt (by rw [List.length_map, List.length_append, List.length_map, List.length_reverse, List.length_drop]; omega), ?_⟩
      have e2 : ((ins.map F0 ++ (ps.drop (k + 1)).reverse).map V.int ++ [V.int ps[k]]) = (ins.map F0 ++ (ps.drop k).reverse).map V.int := by
        rw [t2, ← List.append_assoc, List.map_append (l₂ := [ps[k]])]
        rfl
      rw [e2]
      exact ⟨_, _, rfl, by rw [hz]; exact I1.setD SS _⟩
    rintro σ H3 ⟨e7, e8, rfl, I⟩
    rw [show ((ov : Nat) : Int).toNat = ov by omega] at I
    -- for box in range(len(self.worths))
    refine ⟨_, rfl, r, Cr, dx, fs2, _, rfl, I.ho, T.cl, T.nW, FF2.lw, w, _, rfl, .inl (.inl (.inl I.hw)), ?_⟩
    rw [List.length_map, wlI_len]
    refine ⟨(n : Nat), rfl, by omega, by omega, for_range (lo := 0) (n := ((n : Nat) : Int).toNat) (fun i σ H' => ∃ e7 e8, σ = [some (.ref r), some (.int given), some (.ref la), some (.int (ov : Nat)), some (.ref vi), some (.int out), some (.ref vk), e7, e8] ∧ CI ⟨K, st, fix, tabs⟩ Cr G H r w p D dx fs2 (wlI n (mixF F0 L kept i)) (ps.take (ps.length - ov)) (ins.map F0 ++ (ps.drop (ps.length - ov)).reverse) H') ⟨_, _, rfl, ?_⟩ ?_ ?_⟩
    · have e : wlI n (mixF F0 L kept 0) = wlI n F0 := wlI_ext fun x x0 x1 => if_neg fun h => by have := h.1; omega
      rw [e]
      exact I
    · rintro i σ H4 hi ⟨e7, e8, rfl, I⟩
      have hi : i < n := by omega
      have hb : (0 : Int) ≤ 0 + (i : Nat) ∧ (0 : Int) + (i : Nat) < (n : Nat) := by omega
      refine ⟨_, rfl, _, rfl, vk, _, rfl, .inr (sq I.ok tk), rfl, flatV_ints kept, _, rfl, ?_⟩
      rw [inV_ints]
      refine ite2 (fun hc => ?_) (fun hc => ?_)
      · have hk : (0 : Int) + (i : Nat) ∉ kept := by
          have hc : (!decide ((0 : Int) + (i : Nat) ∈ kept)) = true := hc
          simpa using hc
        refine ⟨_, rfl, _, rfl, la, _, _, _, rfl, rfl, .inl (.inl (I.ok.sub la _ hla).2), wlI_at L hb.1 hb.2, _, rfl, r, Cr, dx, fs2, _, rfl, I.ho, T.cl, T.nW, FF2.lw, _, rfl, w, _, _, _, rfl, rfl, I.hw, wlI_ix _ hb.1 hb.2, ?_⟩
        rw [wlI_set _ _ hb.1 hb.2]
        have e : (wlI n fun y => if y = 0 + (i : Nat) then L (0 + (i : Nat)) else mixF F0 L kept i y) = wlI n (mixF F0 L kept (i + 1)) := wlI_ext fun y y0 y1 => by
          unfold mixF
          by_cases c : y = 0 + (i : Nat)
          · rw [if_pos c, if_pos ⟨by omega, by rw [c]; exact hk⟩, c]
          · rw [if_neg c]
            by_cases c2 : y < (i : Nat) ∧ y ∉ kept
            · rw [if_pos c2, if_pos ⟨by omega, c2.2⟩]
            · rw [if_neg c2, if_neg fun h => c2 ⟨by omega, h.2⟩]
        rw [e]
        exact ⟨_, _, rfl, I.setW SS _⟩
      · have hk : (0 : Int) + (i : Nat) ∈ kept := by
          have hc : ¬ (!decide ((0 : Int) + (i : Nat) ∈ kept)) = true := hc
          simpa using hc
        have e : wlI n (mixF F0 L kept i) = wlI n (mixF F0 L kept (i + 1)) := wlI_ext fun y y0 y1 => by
          unfold mixF
          by_cases c2 : y < (i : Nat) ∧ y ∉ kept
          · rw [if_pos c2, if_pos ⟨by omega, c2.2⟩]
          · rw [if_neg c2, if_neg fun h => c2 ⟨?_, h.2⟩]
            by_cases c : y = 0 + (i : Nat)
            · rw [c] at h
              exact absurd hk h.2
            · omega
        rw [e] at I
        exact ⟨_, _, rfl, I⟩
    rintro σ H4 ⟨e7, e8, rfl, I⟩
    rw [show ((n : Nat) : Int).toNat = n by omega] at I
    refine ⟨_, rfl, _, rfl, r, Cr, dx, fs2, _, rfl, I.ho, T.cl, T.nW, FF2.lw, _, rfl, w, _, _, _, rfl, rfl, I.hw, wlI_ix _ ob.1 ob.2, ?_⟩
    rw [wlI_set _ _ ob.1 ob.2]
    have I5 := I.setW SS (wlI n fun y => if y = out then given else mixF F0 L kept n y)
    have e : (wlI n fun y => if y = out then given else mixF F0 L kept n y) = wlI n (callF F0 L kept out given) := wlI_ext fun y y0 y1 => by
      unfold callF mixF
      by_cases c : y = out
      · rw [if_pos c, if_pos c]
      · rw [if_neg c, if_neg c]
        by_cases c2 : y ∈ kept
        · rw [if_pos c2, if_neg fun h => h.2 c2]
        · rw [if_neg c2, if_pos ⟨y1, c2⟩]
    rw [e] at I5 ⊢
    exact q _ ⟨I5.nx, Same.refl _, fun a o h h' => by rw [h] at h'; cases h'⟩ (I5.run bD SS)
end L3
/-! R4: called -/
namespace L3
open PySem PySem.Spec PyProof.Rows L2
/-! ### what steps do -/
structure RS where
  F : Int → Int
  ps : List Int
  sn : Option (List Int)
def stepS (L : Int → Int) (ins : List Int) (out : Int) (kept : List Int) (given over : Int) (s : RS) (x : St0) : RS :=
  if isCall x then ⟨callF s.F L kept out given, s.ps.take (s.ps.length - over.toNat), some (ins.map s.F ++ (s.ps.drop (s.ps.length - over.toNat)).reverse)⟩
  else ⟨doF x s.F s.ps, doP x s.F s.ps, s.sn⟩
def runR (n : Nat) (L : Int → Int) (ins : List Int) (out : Int) (kept : List Int) (given over : Int) : Nat → List St0 → RS → Except Nat RS
  | _, [], s => .ok s
  | i, x :: r, s => if canB n s.ps.length s.sn.isNone over x then runR n L ins out kept given over (i + 1) r (stepS L ins out kept given over s x) else .error i
def resD (n : Nat) (s : RS) : D := .tup [.lst (wl n s.F), .lst (s.ps.map D.int), .lst ((s.sn.getD []).map D.int)]
theorem can_do {n : Nat} {ps : List Int} {u : Bool} {over : Int} {x : St0} (h : canB n ps.length u over x = true) (hc : isCall x = false) : DoOk n ps x := by
  unfold canB at h
  rw [hc] at h
  have h : (if ppB x = true then ppS n ps.length x else mvS n x) = true := h
  by_cases hp : ppB x = true
  · rw [if_pos hp] at h
    match x, hp, h with
    | some (w, [i]), hp, h =>
      have h : (inB n i && (decide (w = "push") || !decide (ps.length = 0))) = true := h
      rw [Bool.and_eq_true, Bool.or_eq_true] at h
      obtain ⟨h1, h2⟩ := h
      unfold inB at h1
      rw [Bool.and_eq_true] at h1
      have hp : (decide (w = "push") || decide (w = "pop")) = true := hp
      rw [Bool.or_eq_true] at hp
      refine ⟨of_decide_eq_true h1.1, of_decide_eq_true h1.2, ?_⟩
      by_cases c : w = "push"
      · exact .inl c
      · refine .inr ⟨?_, fun e => ?_⟩
        · rcases hp with hp | hp
          · exact absurd (of_decide_eq_true hp) c
          · exact of_decide_eq_true hp
        · rcases h2 with h2 | h2
          · exact c (of_decide_eq_true h2)
          · rw [e] at h2
            exact absurd h2 (by decide)
  · rw [if_neg hp] at h
    match x, h with
    | some (w, [i, j]), h =>
      have h : ((decide (w = "copy") || decide (w = "swap")) && (!decide (i = j) && (inB n i && inB n j))) = true := h
      rw [Bool.and_eq_true, Bool.and_eq_true, Bool.and_eq_true, Bool.or_eq_true] at h
      obtain ⟨h1, h2, h3, h4⟩ := h
      unfold inB at h3 h4
      rw [Bool.and_eq_true] at h3 h4
      refine ⟨⟨of_decide_eq_true h3.1, of_decide_eq_true h3.2⟩, ⟨of_decide_eq_true h4.1, of_decide_eq_true h4.2⟩, ?_, ?_⟩
      · intro e
        rw [decide_eq_true e] at h2
        cases h2
      · rcases h1 with h1 | h1
        · exact .inl (of_decide_eq_true h1)
        · exact .inr (of_decide_eq_true h1)
    | some (w, []), h => cases h
    | some (w, [i]), h => cases h
    | some (w, a :: b :: c :: r), h => cases h
    | none, h => cases h
theorem can_call {n k : Nat} {sn : Option (List Int)} {over : Int} {x : St0} (h : canB n k sn.isNone over x = true) (hc : isCall x = true) : sn = none ∧ 0 ≤ over ∧ over ≤ (k : Int) := by
  unfold canB at h
  rw [if_pos hc, Bool.and_eq_true, Bool.and_eq_true] at h
  refine ⟨?_, of_decide_eq_true h.2.1, of_decide_eq_true h.2.2⟩
  cases sn with
  | none => rfl
  | some z => exact absurd h.1 Bool.false_ne_true
theorem doP_len (x : St0) (F : Int → Int) (ps : List Int) : (doP x F ps).length ≤ ps.length + 1 := by
  unfold doP
  split
  · split
    · rw [List.length_append, List.length_singleton]; omega
    · rw [List.length_dropLast]; omega
  · omega
/-- over a list, with places -/
theorem for_enumN {K : PySem.W.Frag} {a : Addr} {xs : List V} {g : TG} {tb : TS} {D : Ends} {σ : L2.St} {H : Hp} (Pv : Nat → L2.St → Hp → Prop) (h0 : Pv 0 σ H) (hl : ∀ i σ H, i ≤ xs.length → Pv i σ H → SqL K H a xs)
    (hs : ∀ (i : Nat) (x : V) (σ : L2.St) (H : Hp) (T : Addr) (o : Obj), xs[i]? = some x → Pv i σ H → H T = none → o.cls = .type "tuple" → o.dict = none → g (.ref T) σ (upd H T (.frz o (.tup [.int (i : Nat), x]))) fun σ2 H2 => tb { D with nx := Pv (i + 1), ct := Pv (i + 1), bk := D.nx } σ2 H2) (hd : ∀ σ H, Pv xs.length σ H → D.nx σ H) :
    ∃ W : Nat → Nat → L2.St → Hp → Prop, (∃ m, W 0 m σ H) ∧ ∀ i m σ H, W i m σ H →
      ((IteN K a).stop i H ∧ D.nx σ H) ∨ ((IteN K a).go i H ∧ ∃ N : L2.St → Hp → Prop, (∀ σ' H', N σ' H' → ∃ m', m' < m ∧ W (i + 1) m' σ' H') ∧ ∀ x H', (IteN K a).yld i H x H' → g x σ H' fun σ2 H2 => tb { D with nx := N, ct := N, bk := D.nx } σ2 H2) := by
  refine ⟨fun i m σ H => m = xs.length - i ∧ i ≤ xs.length ∧ Pv i σ H, ⟨xs.length, by simp, Nat.zero_le _, h0⟩, ?_⟩
  rintro i m σ H ⟨rfl, hi, p⟩
  have q := hl i σ H hi p
  by_cases hlt : i < xs.length
  · refine .inr ⟨⟨xs, xs[i], q, by simp [hlt]⟩, Pv (i + 1), fun σ' H' p' => ⟨xs.length - (i + 1), by omega, rfl, hlt, p'⟩, fun v H' y => ?_⟩
    obtain ⟨T, o, x, rfl, hT, c1, c2, rfl, hx⟩ := y
    exact hs i x σ H T o (hx xs q) p hT c1 c2
  · have e : i = xs.length := by omega
    subst e
    exact .inl ⟨⟨xs, q, Nat.le_refl _⟩, hd σ H p⟩
def sp_called : Spec := fun _ ds Kd KX => ∃ (n : Nat) (F L : Int → Int) (ps : List Int) (steps : List St0) (ins : List Int) (out : Int) (kept : List Int) (given over : Int),
  ds = [.lst (wl n F), .lst (ps.map D.int), .lst (steps.map stD), houseD ins out kept, .int given, .lst (wl n L), .int over] ∧ 1 ≤ n ∧ n ≤ 10 ∧ HouseOk n ins out kept ∧ ps.length ≤ 1000 ∧ steps.length ≤ 1000 ∧ (∀ x ∈ steps, StOk0 x) ∧
  (match runR n L ins out kept given over 0 steps ⟨F, ps, none⟩ with
    | .ok s => Kd (resD n s)
    | .error i => KX ⟨"BadMove", some (i : Nat)⟩)
abbrev s_called : Stmt := topR 22
abbrev N_called : List Str := ["worths", "pile", "steps", "house", "given", "lost", "over", "run", "number", "step"]
abbrev ps_called : List Str := ["worths", "pile", "steps", "house", "given", "lost", "over"]
theorem sc_called : FnScope N_called ps_called (defScope s_called) := ⟨rfl, rfl, rfl, by decide +kernel, rfl, by decide +kernel, by decide +kernel⟩
/-- since the beginning -/
structure Since (C : C3) (B G0 H G : Hp) : Prop where
  keep : ∀ c o, C.sp c = false → B c = some o → nT H c = some o
  ge : Same G0 G
  fr : ∀ a o, G0 a = none → G a = some o → B a = none
theorem Since.step {C : C3} {B G0 H G H' G' : Hp} (S : Since C B G0 H G) (s : Stp C H G H' G') (ok : Ok3 C H' G') : Since C B G0 H' G' := by
  refine ⟨fun c o sc h => s.nx c o sc (S.keep c o sc h), S.ge.trans s.ge, fun a o h h' => ?_⟩
  cases q : G a with
  | some u => exact S.fr a u h q
  | none =>
    have h1 := s.fr a o q h'
    cases z : B a with
    | none => rfl
    | some u =>
      rw [S.keep a u (ok.sub a o h').1 z] at h1
      cases h1
theorem Since.fr' {C : C3} {B G0 H G H' G' : Hp} {r w p : Addr} (S : Since C B G0 H G) (s : Fr C H G H' G' r w p) (ok : Ok3 C H' G') (br : B r = none) (bw : B w = none) (bp : B p = none) : Since C B G0 H' G' := by
  refine ⟨fun c o sc h => s.nx c o sc (fun z => ?_) (fun z => ?_) (fun z => ?_) (S.keep c o sc h), S.ge.trans s.ge, fun a o h h' => ?_⟩
  · rw [z, br] at h; cases h
  · rw [z, bw] at h; cases h
  · rw [z, bp] at h; cases h
  cases q : G a with
  | some u => exact S.fr a u h q
  | none =>
    have h1 := s.fr a o q h'
    cases z : B a with
    | none => rfl
    | some u =>
      rw [S.keep a u (ok.sub a o h').1 z] at h1
      cases h1
theorem Since.frz {C : C3} {B G0 H G : Hp} {a : Addr} {o : HO} (S : Since C B G0 H G) (g : G a = none) (b : B a = none) : Since C B G0 H (upd G a o) := by
  refine ⟨S.keep, S.ge.trans (same_new g), fun c u h h' => ?_⟩
  by_cases e : c = a
  · rw [e]; exact b
  · rw [upd_ne e] at h'
    exact S.fr c u h h'
theorem Since.stp {C : C3} {H0 G0 H G : Hp} (S : Since C (nT H0) G0 H G) : Stp C H0 G0 H G := ⟨S.keep, S.ge, S.fr⟩
theorem fn_called {P : Program} {w0 : World} {K : PySem.W.Frag} {mg : Str → Option Value} {base : Heap} (F : Free mg) (d_need_house : Df P w0 K mg base "need_house" 3 false 2 sp_need_house) (x_BadMove : XNk P w0 K mg base "BadMove" 1) {Cr : Addr} (T : RunT K mg Cr)
    {fi fc fa fo : Addr} {fdi fdc fda fdo : FuncData} (M : Mk K Cr fi) (FI : FnOk P w0 K mg base (L2.CX P w0) 1 fi fdi ["self", "worths", "pile", "house"] (spRinit K Cr)) (bi : L2.Binds K fdi ["self", "worths", "pile", "house"] [])
    (FC : FnOk P w0 K mg base (L2.CX P w0) 1 fc fdc ["self", "given", "lost", "over"] (spRcall K Cr)) (mc : Meth K Cr "call" fc) (bc : L2.Binds K fdc ["self", "given", "lost", "over"] [])
    (FA : FnOk P w0 K mg base (L2.CX P w0) 3 fa fda ["self", "step", "over"] (spRcan K mg Cr)) (ma : Meth K Cr "can" fa) (ba : L2.Binds K fda ["self", "step", "over"] [])
    (FO : FnOk P w0 K mg base (L2.CX P w0) 2 fo fdo ["self", "step"] (spRdo K Cr)) (mo : Meth K Cr "do" fo) (bo : L2.Binds K fdo ["self", "step"] [])
    {f : Addr} {fd : FuncData} (G : Fun K "called" "called" s_called f fd) : FnOk P w0 K mg base (L2.CX P w0) 4 f fd ps_called (LSp K mg false 7 sp_called) := by
  obtain ⟨DX, fX, fdX, psX, gx, TX, hno, iX, tX, FX, bX⟩ := x_BadMove.ex
  refine G.okX sc_called (fun vs H Q E h => ?_) (fun cdv A outer s H vs Q E hr h => ?_)
  · obtain ⟨st, fix, tabs, ds, G, Kd, KX, ok, r, hl, _⟩ := h
    rw [← r.length, hl]
    rfl
  · obtain ⟨st, fix, tabs, ds, G, Kd, KX, ok, rr, hl, hs, pv', px'⟩ := h
    obtain ⟨n, F0, L, ps, steps, ins, out, kept, given, over, rfl, hn1, hn2, HO, hps, hst, hsx, q⟩ := hs
    have hpx : Passes (L2.CX P w0) (cxOf (L2.CX P w0) P w0 K mg base N_called "called" (defScope s_called) f cdv A outer s H E) E := passes_call (takes_of rfl rfl rfl rfl) (fun _ _ _ _ h => h)
    refine ⟨_, pss_cons (ps_expr (show ME (cxOf (L2.CX P w0) P w0 K mg base N_called "called" (defScope s_called) f cdv A outer s H E) ⟨K, st, fix, tabs⟩ E _ _ from me_call d_need_house (hr.mono (by decide)) rfl hpx rfl (ma_cons (me_len F rfl rfl (ma_cons (me_var 0) ma_nil)) (ma_cons (me_var 3) ma_nil))))
      (pss_cons (ps_set (i := 7) sc_called.nd rfl (by first | exact Or.inl rfl | exact Or.inr rfl) (pe_make M FI (hr.mono (by decide)) rfl T.gR bi .nil hpx (pa_cons (pv 0) (pa_cons (pv 1) (pa_cons (pv 3) pa_nil)))))
      (pss_cons (ps_for (passes_of rfl) rfl (pi_enumN rfl F.enumerate (pa_cons (pv 2) pa_nil)) (pg_tp rfl (pgs_nm sc_called.nd (i := 8) rfl (by first | exact Or.inl rfl | exact Or.inr rfl) (pgs_nm sc_called.nd (i := 9) rfl (by first | exact Or.inl rfl | exact Or.inr rfl) pgs_no)))
        (pss_cons (ps_if (pt_not (pt_val (pe_meth (pv 7) T.cl ma FA (hr.mono (by decide)) ba .nil hpx (pa_cons (pv 9) (pa_cons (pv 6) pa_nil)))))
            (pss_one (ps_raise rfl (takes_of rfl rfl rfl rfl) (pmk_oex TX iX tX FX (hr.mono (by decide)) bX .nil passL rfl gx (pa_cons (pv 8) pa_nil) (by decide) rfl rfl))) pss_nil)
          (pss_one (ps_if (by exact (show MT (cxOf (L2.CX P w0) P w0 K mg base N_called "called" (defScope s_called) f cdv A outer s H E) ⟨K, st, fix, tabs⟩ E _ _ from mt_eq rfl hr.units (me_var 9) (me_tup (ma_cons me_str ma_nil))))
            (pss_one (ps_expr (pe_meth (pv 7) T.cl mc FC (hr.mono (by decide)) bc .nil hpx (pa_cons (pv 4) (pa_cons (pv 5) (pa_cons (pv 6) pa_nil))))))
            (pss_one (ps_expr (pe_meth (pv 7) T.cl mo FO (hr.mono (by decide)) bo .nil hpx (pa_cons (pv 9) pa_nil))))))))
      (pss_one (ps_ret (pe_tupN (pa_cons (pe_fld (pv 7) rfl) (pa_cons (pe_fld (pv 7) rfl) (pa_cons (pe_ifExp (pt_cmpR op_notN (pe_fld (pv 7) rfl) pe_non (nomark _)) (pe_fld (pv 7) rfl) (pe_lst pa_nil)) pa_nil)))))))), ?_⟩
    obtain ⟨wa, pa, sa, hv, lv, sv, rfl, hwa, hpa, hsa, rS, rH, rL⟩ : ∃ (wa pa sa : Addr) (hv lv : V) (sv : List V), vs = [.ref wa, .ref pa, .ref sa, hv, .int given, lv, .int over] ∧ G wa = some (.lst ((wlI n F0).map V.int)) ∧ G pa = some (.lst (ps.map V.int)) ∧ G sa = some (.lst sv) ∧ Rps K G (steps.map stD) sv ∧ Rp K G (houseD ins out kept) hv ∧ Rp K G (.lst (wl n L)) lv := by
      cases rr with
      | cons r1 rr =>
      cases rr with
      | cons r2 rr =>
      cases rr with
      | cons r3 rr =>
      cases rr with
      | cons r4 rr =>
      cases rr with
      | cons r5 rr =>
      cases rr with
      | cons r6 rr =>
      cases rr with
      | cons r7 rr =>
      cases rr
      cases r5
      cases r7
      cases r1 with
      | lst h1 i1 =>
      cases r2 with
      | lst h2 i2 =>
      cases r3 with
      | lst h3 i3 =>
      rw [← wlI_D] at i1
      rw [i1.ints] at h1
      rw [i2.ints] at h2
      exact ⟨_, _, _, _, _, _, rfl, h1, h2, h3, i3, r4, r6⟩
    have px : ∀ H G, PostX ⟨K, st, fix, tabs⟩ mg H G (fun _ => False) E := fun _ _ _ _ _ _ h => h.elim
    -- need_house(len(worths), house)
    have r0 : Rp K G (.lst (wl n F0)) (.ref wa) := by
      rw [← wlI_D]
      exact .lst hwa (Rps.ofInts _)
    refine ⟨[some (.lst (wl n F0)), none, none, some (houseD ins out kept)], G, fun _ => True, fun _ => False, ok, .with r0 (.skip (.skip (.with rH .nil))), ?_, fun d v H1 G1 s1 ok1 r1 k1 => ?_, px _ _⟩
    · show sp_need_house _ [.int ((wl n F0).length : Nat), houseD ins out kept] _ _
      rw [wl_len]
      exact need_house_ok (by omega) (by omega) HO True.intro
    -- run = Run(worths, pile, house)
    refine ⟨_, rfl, _, rfl, _, rfl, fun x dx nx ndx nex => ?_⟩
    obtain ⟨okA, sA, gA⟩ := ok1.new (o := .own x) ndx
    have nxA : upd H1 dx (.own x) x = none := by rw [upd_ne nex.symm]; exact nx
    obtain ⟨okB, sB, gB⟩ := okA.new (o := .ins Cr dx []) nxA
    have s1B := s1.trans okB (sA.trans okB sB)
    refine ⟨st, fix, tabs, G1, nT H, x, dx, wa, pa, hv, wlI n F0, ps, rfl, okB, upd_same, okA.iv.new nxA, gB, s1.ge _ _ hwa, s1.ge _ _ hpa, fun H2 w p frm nw np R0 => ⟨rfl, ?_⟩⟩
    have bx : nT H x = none := by
      cases z : nT H x with
      | none => rfl
      | some u =>
        have h1 := s1.nx x u (okA.iv.new nxA) z
        rw [nT_none nx] at h1
        cases h1
    have bnew : ∀ a, C3.sp ⟨K, st, fix, tabs⟩ a = false → nT (upd (upd H1 dx (.own x)) x (.ins Cr dx [])) a = none → nT H a = none := fun a sa' h => by
      cases z : nT H a with
      | none => rfl
      | some u =>
        rw [s1B.nx a u sa' z] at h
        cases h
    have bw : nT H w = none := bnew w R0.sw nw
    have bp : nT H p = none := bnew p R0.sp np
    have S0 : Since ⟨K, st, fix, tabs⟩ (nT H) G H2 G1 := ⟨fun c o sc h => frm c o sc (fun z => by rw [z, bx] at h; cases h) (s1B.nx c o sc h), s1.ge, s1.fr⟩
    have slen : sv.length = steps.length := by rw [← rS.length, List.length_map]
    have hsq : ∀ {H3 G3 : Hp}, Ok3 ⟨K, st, fix, tabs⟩ H3 G3 → Since ⟨K, st, fix, tabs⟩ (nT H) G H3 G3 → SqL K H3 sa sv := fun ok S => .inl (.inl (ok.sub sa _ (S.ge sa _ hsa)).2)
    refine ⟨_, rfl, sa, sv, rfl, hsq R0.ok S0, for_enumN (xs := sv) (fun i σ H3 => ∃ G3 F3 ps3 sn3 e8 e9, σ = [some (.ref wa), some (.ref pa), some (.ref sa), some hv, some (.int given), some lv, some (.int over), some (.ref x), e8, e9] ∧
      RunSt ⟨K, st, fix, tabs⟩ (nT H) Cr H3 G3 x w p hv (wlI n F3) ps3 sn3 ∧ Since ⟨K, st, fix, tabs⟩ (nT H) G H3 G3 ∧ ps3.length ≤ 1000 + i ∧ runR n L ins out kept given over 0 steps ⟨F0, ps, none⟩ = runR n L ins out kept given over i (steps.drop i) ⟨F3, ps3, sn3⟩)
      ⟨G1, F0, ps, none, _, _, rfl, R0, S0, hps, rfl⟩ (fun i σ H3 _ h => ?_) ?_ ?_⟩
    · obtain ⟨G3, F3, ps3, sn3, e8, e9, _, R3, S3, _⟩ := h
      exact hsq R3.ok S3
    · rintro i xv σ H3 To o hx ⟨G3, F3, ps3, sn3, e8, e9, rfl, R3, S3, hl3, er⟩ hT c1 c2
      have hi : i < steps.length := by rw [← slen]; exact (List.getElem?_eq_some_iff.mp hx).1
      obtain ⟨v0, hv0, rx0⟩ := rS.get (i := i) (d := stD steps[i]) (by rw [List.getElem?_map, List.getElem?_eq_getElem hi]; rfl)
      rw [hx] at hv0
      cases hv0
      have sx := hsx _ (List.getElem_mem hi)
      have edrop : steps.drop i = steps[i] :: steps.drop (i + 1) := List.drop_eq_getElem_cons hi
      rw [edrop] at er
      generalize steps[i] = x0 at rx0 sx er
      have er : runR n L ins out kept given over 0 steps ⟨F0, ps, none⟩ = if canB n ps3.length sn3.isNone over x0 then runR n L ins out kept given over (i + 1) (steps.drop (i + 1)) (stepS L ins out kept given over ⟨F3, ps3, sn3⟩ x0) else .error i := er
      obtain ⟨okT, sT, gT⟩ := R3.ok.new (o := .frz o (.tup [.int (i : Nat), xv])) hT
      have RT := R3.step sT okT
      have ST := S3.step sT okT
      refine ⟨To, _, rfl, .inl (.inr ⟨o, upd_same⟩), rfl, _, _, rfl, _, _, rfl, rfl, ?_⟩
      obtain ⟨dxT, fsT, svT, hoT, FFT, _, _⟩ := RT.ob
      have rxT := rx0.mono ST.ge
      refine ⟨_, rfl, x, dxT, fsT, rfl, hoT, FFT.no _ (by decide +kernel) (by decide +kernel) (by decide +kernel) (by decide +kernel), xv, rfl, _, rfl, st, fix, tabs, G3, nT H, x, w, p, hv, n, F3, ps3, sn3, x0, xv, over, rfl, RT, rxT, sx, fun H4 G4 s4 ok4 => ⟨_, rfl, ?_⟩⟩
      have R4 := RT.step s4 ok4
      have S4 := ST.step s4 ok4
      refine ite2 (fun hb => ?_) (fun hb => ?_)
      · have hcb : canB n ps3.length sn3.isNone over x0 = false := by
          cases z : canB n ps3.length sn3.isNone over x0 with
          | false => rfl
          | true => rw [z] at hb; cases hb
        rw [hcb] at er
        have er : runR n L ins out kept given over 0 steps ⟨F0, ps, none⟩ = .error i := er
        rw [er] at q
        refine ⟨_, rfl, by simp, fun a na => ⟨a, .int (i : Nat), rfl, TX, hno, upd_same, fun dx' nd ne => ⟨rfl, dx', [(fieldOf "BadMove", .int (i : Nat))], upd_same, ?_, ?_, ?_⟩⟩⟩
        · rw [upd_ne ne, upd_same]
        · rw [upd_ne ne] at nd
          exact nd
        · have nd1 : H4 dx' = none := by rw [upd_ne ne] at nd; exact nd
          have at_ : ∀ b, b ≠ a → b ≠ dx' → upd (L2.del (upd (upd (upd H4 a (exo a DX none)) dx' (exd dx' [(fieldOf "BadMove", .int (i : Nat))])) a (exo a DX (some dx'))) a) dx' (.xd [(fieldOf "BadMove", .int (i : Nat))]) b = H4 b := fun b h1 h2 => by
            rw [upd_ne h2, L2.del_ne h1, upd_ne h1, upd_ne h2, upd_ne h1]
          have sm : Same H4 (upd (L2.del (upd (upd (upd H4 a (exo a DX none)) dx' (exd dx' [(fieldOf "BadMove", .int (i : Nat))])) a (exo a DX (some dx'))) a) dx' (.xd [(fieldOf "BadMove", .int (i : Nat))])) := fun b u h => by
            rw [at_ b (ne_of_none h na) (ne_of_none h nd1)]
            exact h
          refine px' ⟨"BadMove", some (i : Nat)⟩ (.ref DX) (some dx') _ q ⟨fun c u sc h => nT_same sm c u (S4.keep c u sc h), Same.refl _, fun c u e e' => by rw [e] at e'; cases e'⟩ ⟨ok4.iv.same sm, fun c u e => ⟨(ok4.sub c u (S4.ge c u e)).1, sm c u (ok4.sub c u (S4.ge c u e)).2⟩, fun c u e => ok4.nt c u (S4.ge c u e)⟩ ⟨DX, gx, rfl, dx', rfl, upd_same, ?_⟩
          cases z : G dx' with
          | none => rfl
          | some u =>
            have := (ok4.sub dx' u (S4.ge dx' u z)).2
            rw [nd1] at this
            cases this
      · have hcb : canB n ps3.length sn3.isNone over x0 = true := by
          cases z : canB n ps3.length sn3.isNone over x0 with
          | true => rfl
          | false => rw [z] at hb; exact absurd rfl hb
        rw [hcb, if_pos rfl] at er
        have rx4 := rxT.mono s4.ge
        refine ⟨[none, none, none, none, none, none, none, none, none, some (stD x0)], G4, fun b => b = isCall x0, fun _ => False, ok4, .skip (.skip (.skip (.skip (.skip (.skip (.skip (.skip (.skip (.with rx4 .nil))))))))), ⟨z1s, eqE_call sx rfl⟩, fun b H5 G5 s5 ok5 eb => ?_, px _ _⟩
        subst eb
        have R5 := R4.step s5 ok5
        have S5 := S4.step s5 ok5
        obtain ⟨dx5, fs5, sv5, ho5, FF5, _, _⟩ := R5.ob
        refine ite2 (fun hc => ?_) (fun hc => ?_)
        · obtain ⟨e1, o0, o1⟩ := can_call hcb hc
          subst e1
          have eo : over = ((over.toNat : Nat) : Int) := by omega
          refine ⟨_, rfl, x, dx5, fs5, rfl, ho5, FF5.no _ (by decide +kernel) (by decide +kernel) (by decide +kernel) (by decide +kernel), _, rfl, _, rfl, _, rfl, st, fix, tabs, G5, nT H, x, w, p, hv, lv, n, F3, L, ps3, given, over.toNat, ins, out, kept, ?_, R5, rH.mono S5.ge, rL.mono S5.ge, by omega, by have := HO.n4; omega, HO.ib, HO.ob, by omega, by omega, fun c o sc h => S5.keep c o sc h, fun H6 fr6 R6 => ?_⟩
          · rw [← eo]
            rfl
          · have S6 := S5.fr' fr6 R6.ok bx bw bp
            refine ⟨G5, _, _, _, _, _, rfl, R6, S6, by rw [List.length_take]; omega, ?_⟩
            rw [er]
            unfold stepS
            rw [if_pos hc]
        · have hcf : isCall x0 = false := Bool.eq_false_iff.mpr hc
          refine ⟨_, rfl, x, dx5, fs5, rfl, ho5, FF5.no _ (by decide +kernel) (by decide +kernel) (by decide +kernel) (by decide +kernel), xv, rfl, st, fix, tabs, G5, nT H, x, w, p, hv, n, F3, ps3, sn3, x0, xv, rfl, R5, rx4.mono s5.ge, sx, can_do hcb hcf, by omega, fun H6 G6 fr6 R6 => ?_⟩
          have S6 := S5.fr' fr6 R6.ok bx bw bp
          refine ⟨G6, _, _, _, _, _, rfl, R6, S6, by have := doP_len x0 F3 ps3; omega, ?_⟩
          rw [er]
          unfold stepS
          rw [if_neg hc]
    · rintro σ H3 ⟨G3, F3, ps3, sn3, e8, e9, rfl, R3, S3, hl3, er⟩
      rw [slen, List.drop_length] at er
      have er : runR n L ins out kept given over 0 steps ⟨F0, ps, none⟩ = .ok ⟨F3, ps3, sn3⟩ := er
      rw [er] at q
      have q : Kd (.tup [.lst (wl n F3), .lst (ps3.map D.int), .lst ((sn3.getD []).map D.int)]) := q
      obtain ⟨dx3, fs3, sv3, ho3, FF3, _, SN⟩ := R3.ob
      refine ⟨_, rfl, x, Cr, dx3, fs3, _, rfl, ho3, T.cl, T.nW, FF3.lw, _, rfl, x, Cr, dx3, fs3, _, rfl, ho3, T.cl, T.nP, FF3.lp, _, rfl, x, Cr, dx3, fs3, _, rfl, ho3, T.cl, T.nS, FF3.ls, rfl, _, rfl, ?_⟩
      have fin : ∀ (H4 G4 : Hp) (a : Addr) (zs : List Int), RunSt ⟨K, st, fix, tabs⟩ (nT H) Cr H4 G4 x w p hv (wlI n F3) ps3 sn3 → Since ⟨K, st, fix, tabs⟩ (nT H) G H4 G4 → H4 a = some (.lst (zs.map V.int)) → C3.sp ⟨K, st, fix, tabs⟩ a = false → G4 a = none → nT H a = none → a ≠ w → a ≠ p → zs = sn3.getD [] →
          ∀ (t : Addr) (o : Obj), H4 t = none → o.cls = .type "tuple" → o.dict = none → Q (.ref t) (upd H4 t (.frz o (.tup [.ref w, .ref p, .ref a]))) := fun H4 G4 a zs R4 S4 ha sa ga ba nw' np' ez t o ht c1 c2 => by
        subst ez
        obtain ⟨okT, sT, gT⟩ := R4.ok.new (o := .frz o (.tup [.ref w, .ref p, .ref a])) ht
        have RT := R4.step sT okT
        have ST := S4.step sT okT
        have haT : upd H4 t (.frz o (.tup [.ref w, .ref p, .ref a])) a = some (.lst ((sn3.getD []).map V.int)) := sT.nh a _ sa ha
        have bt : nT H t = none := by
          cases z : nT H t with
          | none => rfl
          | some u =>
            have := S4.keep t u (R4.ok.iv.new ht) z
            rw [nT_none ht] at this
            cases this
        have okw := okT.frz (o := .lst ((wlI n F3).map V.int)) RT.gw RT.hw RT.sw
        have g1 : upd G4 w (.lst ((wlI n F3).map V.int)) p = none := by rw [upd_ne RT.ne.symm]; exact RT.gp
        have okp := okw.frz (o := .lst (ps3.map V.int)) g1 RT.hp RT.sp
        have g2 : upd (upd G4 w (.lst ((wlI n F3).map V.int))) p (.lst (ps3.map V.int)) a = none := by rw [upd_ne np', upd_ne nw']; exact ga
        have oka := okp.frz (o := .lst ((sn3.getD []).map V.int)) g2 haT sa
        have ntw : t ≠ w := fun z => by rw [z, R4.hw] at ht; cases ht
        have ntp : t ≠ p := fun z => by rw [z, R4.hp] at ht; cases ht
        have nta : t ≠ a := fun z => by rw [z, ha] at ht; cases ht
        have g3 : upd (upd (upd G4 w (.lst ((wlI n F3).map V.int))) p (.lst (ps3.map V.int))) a (.lst ((sn3.getD []).map V.int)) t = none := by rw [upd_ne nta, upd_ne ntp, upd_ne ntw]; exact gT
        have okt := oka.frz (o := .frz o (.tup [.ref w, .ref p, .ref a])) g3 upd_same (R4.ok.iv.new ht)
        have SF := (((ST.frz (o := .lst ((wlI n F3).map V.int)) RT.gw bw).frz (o := .lst (ps3.map V.int)) g1 bp).frz (o := .lst ((sn3.getD []).map V.int)) g2 ba).frz (o := .frz o (.tup [.ref w, .ref p, .ref a])) g3 bt
        refine pv' _ _ _ _ SF.stp okt (.tup (.inl ⟨o, upd_same, c1, c2⟩) (.cons (.lst (vs := (wlI n F3).map V.int) ?_ ?_) (.cons (.lst (vs := ps3.map V.int) ?_ (Rps.ofInts _)) (.cons (.lst (vs := (sn3.getD []).map V.int) ?_ (Rps.ofInts _)) .nil)))) q
        · rw [upd_ne ntw.symm, upd_ne nw'.symm, upd_ne RT.ne, upd_same]
        · rw [← wlI_D]
          exact Rps.ofInts _
        · rw [upd_ne ntp.symm, upd_ne np'.symm, upd_same]
        · rw [upd_ne nta.symm, upd_same]
      cases sn3 with
      | none =>
        have SN : sv3 = .non := SN
        subst SN
        refine ⟨Nat.zero_le _, fun l hl => ⟨z3, fun t o ht c1 c2 => ?_⟩⟩
        obtain ⟨okl, sl, gl⟩ := R3.ok.new (o := .lst []) hl
        have bl : nT H l = none := by
          cases z : nT H l with
          | none => rfl
          | some u =>
            have := S3.keep l u (R3.ok.iv.new hl) z
            rw [nT_none hl] at this
            cases this
        exact fin _ G3 l [] (R3.step sl okl) (S3.step sl okl) upd_same (R3.ok.iv.new hl) gl bl (fun z => by rw [z, R3.hw] at hl; cases hl) (fun z => by rw [z, R3.hp] at hl; cases hl) rfl t o ht c1 c2
      | some zs =>
        obtain ⟨a, ea, n1, n2, ha, sa, ga, ba⟩ := SN
        subst ea
        refine ⟨_, rfl, x, Cr, dx3, fs3, _, rfl, ho3, T.cl, T.nS, FF3.ls, z3, fun t o ht c1 c2 => ?_⟩
        exact fin H3 G3 a zs R3 S3 ha sa ga ba n1 n2 rfl t o ht c1 c2
end L3
set_option pp.maxSteps 500
/-! R4t: called, what it tells may be changed -/
namespace L3
open PySem PySem.Spec PyProof.Rows L2
def sp3_called : Spec3 := fun _ ds K3 KX => ∃ (n : Nat) (F L : Int → Int) (ps : List Int) (steps : List St0) (ins : List Int) (out : Int) (kept : List Int) (given over : Int),
  ds = [.lst (wl n F), .lst (ps.map D.int), .lst (steps.map stD), houseD ins out kept, .int given, .lst (wl n L), .int over] ∧ 1 ≤ n ∧ n ≤ 10 ∧ HouseOk n ins out kept ∧ ps.length ≤ 1000 ∧ steps.length ≤ 1000 ∧ (∀ x ∈ steps, StOk0 x) ∧
  (match runR n L ins out kept given over 0 steps ⟨F, ps, none⟩ with
    | .ok s => K3 [wl n s.F, s.ps.map D.int, (s.sn.getD []).map D.int]
    | .error i => KX ⟨"BadMove", some (i : Nat)⟩)
theorem fnT_called {P : Program} {w0 : World} {K : PySem.W.Frag} {mg : Str → Option Value} {base : Heap} (F : Free mg) (d_need_house : Df P w0 K mg base "need_house" 3 false 2 sp_need_house) (x_BadMove : XNk P w0 K mg base "BadMove" 1) {Cr : Addr} (T : RunT K mg Cr)
    {fi fc fa fo : Addr} {fdi fdc fda fdo : FuncData} (M : Mk K Cr fi) (FI : FnOk P w0 K mg base (L2.CX P w0) 1 fi fdi ["self", "worths", "pile", "house"] (spRinit K Cr)) (bi : L2.Binds K fdi ["self", "worths", "pile", "house"] [])
    (FC : FnOk P w0 K mg base (L2.CX P w0) 1 fc fdc ["self", "given", "lost", "over"] (spRcall K Cr)) (mc : Meth K Cr "call" fc) (bc : L2.Binds K fdc ["self", "given", "lost", "over"] [])
    (FA : FnOk P w0 K mg base (L2.CX P w0) 3 fa fda ["self", "step", "over"] (spRcan K mg Cr)) (ma : Meth K Cr "can" fa) (ba : L2.Binds K fda ["self", "step", "over"] [])
    (FO : FnOk P w0 K mg base (L2.CX P w0) 2 fo fdo ["self", "step"] (spRdo K Cr)) (mo : Meth K Cr "do" fo) (bo : L2.Binds K fdo ["self", "step"] [])
    {f : Addr} {fd : FuncData} (G : Fun K "called" "called" s_called f fd) : FnOk P w0 K mg base (L2.CX P w0) 4 f fd ps_called (TSp K mg 7 sp3_called) := by
  obtain ⟨DX, fX, fdX, psX, gx, TX, hno, iX, tX, FX, bX⟩ := x_BadMove.ex
  refine G.okX sc_called (fun vs H Q E h => ?_) (fun cdv A outer s H vs Q E hr h => ?_)
  · obtain ⟨st, fix, tabs, ds, G, Kd, KX, ok, r, hl, _⟩ := h
    rw [← r.length, hl]
    rfl
  · obtain ⟨st, fix, tabs, ds, G, Kd, KX, ok, rr, hl, hs, pv', px'⟩ := h
    obtain ⟨n, F0, L, ps, steps, ins, out, kept, given, over, rfl, hn1, hn2, HO, hps, hst, hsx, q⟩ := hs
    have hpx : Passes (L2.CX P w0) (cxOf (L2.CX P w0) P w0 K mg base N_called "called" (defScope s_called) f cdv A outer s H E) E := passes_call (takes_of rfl rfl rfl rfl) (fun _ _ _ _ h => h)
    refine ⟨_, pss_cons (ps_expr (show ME (cxOf (L2.CX P w0) P w0 K mg base N_called "called" (defScope s_called) f cdv A outer s H E) ⟨K, st, fix, tabs⟩ E _ _ from me_call d_need_house (hr.mono (by decide)) rfl hpx rfl (ma_cons (me_len F rfl rfl (ma_cons (me_var 0) ma_nil)) (ma_cons (me_var 3) ma_nil))))
      (pss_cons (ps_set (i := 7) sc_called.nd rfl (by first | exact Or.inl rfl | exact Or.inr rfl) (pe_make M FI (hr.mono (by decide)) rfl T.gR bi .nil hpx (pa_cons (pv 0) (pa_cons (pv 1) (pa_cons (pv 3) pa_nil)))))
      (pss_cons (ps_for (passes_of rfl) rfl (pi_enumN rfl F.enumerate (pa_cons (pv 2) pa_nil)) (pg_tp rfl (pgs_nm sc_called.nd (i := 8) rfl (by first | exact Or.inl rfl | exact Or.inr rfl) (pgs_nm sc_called.nd (i := 9) rfl (by first | exact Or.inl rfl | exact Or.inr rfl) pgs_no)))
        (pss_cons (ps_if (pt_not (pt_val (pe_meth (pv 7) T.cl ma FA (hr.mono (by decide)) ba .nil hpx (pa_cons (pv 9) (pa_cons (pv 6) pa_nil)))))
            (pss_one (ps_raise rfl (takes_of rfl rfl rfl rfl) (pmk_oex TX iX tX FX (hr.mono (by decide)) bX .nil passL rfl gx (pa_cons (pv 8) pa_nil) (by decide) rfl rfl))) pss_nil)
          (pss_one (ps_if (by exact (show MT (cxOf (L2.CX P w0) P w0 K mg base N_called "called" (defScope s_called) f cdv A outer s H E) ⟨K, st, fix, tabs⟩ E _ _ from mt_eq rfl hr.units (me_var 9) (me_tup (ma_cons me_str ma_nil))))
            (pss_one (ps_expr (pe_meth (pv 7) T.cl mc FC (hr.mono (by decide)) bc .nil hpx (pa_cons (pv 4) (pa_cons (pv 5) (pa_cons (pv 6) pa_nil))))))
            (pss_one (ps_expr (pe_meth (pv 7) T.cl mo FO (hr.mono (by decide)) bo .nil hpx (pa_cons (pv 9) pa_nil))))))))
      (pss_one (ps_ret (pe_tupN (pa_cons (pe_fld (pv 7) rfl) (pa_cons (pe_fld (pv 7) rfl) (pa_cons (pe_ifExp (pt_cmpR op_notN (pe_fld (pv 7) rfl) pe_non (nomark _)) (pe_fld (pv 7) rfl) (pe_lst pa_nil)) pa_nil)))))))), ?_⟩
    obtain ⟨wa, pa, sa, hv, lv, sv, rfl, hwa, hpa, hsa, rS, rH, rL⟩ : ∃ (wa pa sa : Addr) (hv lv : V) (sv : List V), vs = [.ref wa, .ref pa, .ref sa, hv, .int given, lv, .int over] ∧ G wa = some (.lst ((wlI n F0).map V.int)) ∧ G pa = some (.lst (ps.map V.int)) ∧ G sa = some (.lst sv) ∧ Rps K G (steps.map stD) sv ∧ Rp K G (houseD ins out kept) hv ∧ Rp K G (.lst (wl n L)) lv := by
      cases rr with
      | cons r1 rr =>
      cases rr with
      | cons r2 rr =>
      cases rr with
      | cons r3 rr =>
      cases rr with
      | cons r4 rr =>
      cases rr with
      | cons r5 rr =>
      cases rr with
      | cons r6 rr =>
      cases rr with
      | cons r7 rr =>
      cases rr
      cases r5
      cases r7
      cases r1 with
      | lst h1 i1 =>
      cases r2 with
      | lst h2 i2 =>
      cases r3 with
      | lst h3 i3 =>
      rw [← wlI_D] at i1
      rw [i1.ints] at h1
      rw [i2.ints] at h2
      exact ⟨_, _, _, _, _, _, rfl, h1, h2, h3, i3, r4, r6⟩
    have px : ∀ H G, PostX ⟨K, st, fix, tabs⟩ mg H G (fun _ => False) E := fun _ _ _ _ _ _ h => h.elim
    -- need_house(len(worths), house)
    have r0 : Rp K G (.lst (wl n F0)) (.ref wa) := by
      rw [← wlI_D]
      exact .lst hwa (Rps.ofInts _)
    refine ⟨[some (.lst (wl n F0)), none, none, some (houseD ins out kept)], G, fun _ => True, fun _ => False, ok, .with r0 (.skip (.skip (.with rH .nil))), ?_, fun d v H1 G1 s1 ok1 r1 k1 => ?_, px _ _⟩
    · show sp_need_house _ [.int ((wl n F0).length : Nat), houseD ins out kept] _ _
      rw [wl_len]
      exact need_house_ok (by omega) (by omega) HO True.intro
    -- run = Run(worths, pile, house)
    refine ⟨_, rfl, _, rfl, _, rfl, fun x dx nx ndx nex => ?_⟩
    obtain ⟨okA, sA, gA⟩ := ok1.new (o := .own x) ndx
    have nxA : upd H1 dx (.own x) x = none := by rw [upd_ne nex.symm]; exact nx
    obtain ⟨okB, sB, gB⟩ := okA.new (o := .ins Cr dx []) nxA
    have s1B := s1.trans okB (sA.trans okB sB)
    refine ⟨st, fix, tabs, G1, nT H, x, dx, wa, pa, hv, wlI n F0, ps, rfl, okB, upd_same, okA.iv.new nxA, gB, s1.ge _ _ hwa, s1.ge _ _ hpa, fun H2 w p frm nw np R0 => ⟨rfl, ?_⟩⟩
    have bx : nT H x = none := by
      cases z : nT H x with
      | none => rfl
      | some u =>
        have h1 := s1.nx x u (okA.iv.new nxA) z
        rw [nT_none nx] at h1
        cases h1
    have bnew : ∀ a, C3.sp ⟨K, st, fix, tabs⟩ a = false → nT (upd (upd H1 dx (.own x)) x (.ins Cr dx [])) a = none → nT H a = none := fun a sa' h => by
      cases z : nT H a with
      | none => rfl
      | some u =>
        rw [s1B.nx a u sa' z] at h
        cases h
    have bw : nT H w = none := bnew w R0.sw nw
    have bp : nT H p = none := bnew p R0.sp np
    have S0 : Since ⟨K, st, fix, tabs⟩ (nT H) G H2 G1 := ⟨fun c o sc h => frm c o sc (fun z => by rw [z, bx] at h; cases h) (s1B.nx c o sc h), s1.ge, s1.fr⟩
    have slen : sv.length = steps.length := by rw [← rS.length, List.length_map]
    have hsq : ∀ {H3 G3 : Hp}, Ok3 ⟨K, st, fix, tabs⟩ H3 G3 → Since ⟨K, st, fix, tabs⟩ (nT H) G H3 G3 → SqL K H3 sa sv := fun ok S => .inl (.inl (ok.sub sa _ (S.ge sa _ hsa)).2)
    refine ⟨_, rfl, sa, sv, rfl, hsq R0.ok S0, for_enumN (xs := sv) (fun i σ H3 => ∃ G3 F3 ps3 sn3 e8 e9, σ = [some (.ref wa), some (.ref pa), some (.ref sa), some hv, some (.int given), some lv, some (.int over), some (.ref x), e8, e9] ∧
      RunSt ⟨K, st, fix, tabs⟩ (nT H) Cr H3 G3 x w p hv (wlI n F3) ps3 sn3 ∧ Since ⟨K, st, fix, tabs⟩ (nT H) G H3 G3 ∧ ps3.length ≤ 1000 + i ∧ runR n L ins out kept given over 0 steps ⟨F0, ps, none⟩ = runR n L ins out kept given over i (steps.drop i) ⟨F3, ps3, sn3⟩)
      ⟨G1, F0, ps, none, _, _, rfl, R0, S0, hps, rfl⟩ (fun i σ H3 _ h => ?_) ?_ ?_⟩
    · obtain ⟨G3, F3, ps3, sn3, e8, e9, _, R3, S3, _⟩ := h
      exact hsq R3.ok S3
    · rintro i xv σ H3 To o hx ⟨G3, F3, ps3, sn3, e8, e9, rfl, R3, S3, hl3, er⟩ hT c1 c2
      have hi : i < steps.length := by rw [← slen]; exact (List.getElem?_eq_some_iff.mp hx).1
      obtain ⟨v0, hv0, rx0⟩ := rS.get (i := i) (d := stD steps[i]) (by rw [List.getElem?_map, List.getElem?_eq_getElem hi]; rfl)
      rw [hx] at hv0
      cases hv0
      have sx := hsx _ (List.getElem_mem hi)
      have edrop : steps.drop i = steps[i] :: steps.drop (i + 1) := List.drop_eq_getElem_cons hi
      rw [edrop] at er
      generalize steps[i] = x0 at rx0 sx er
      have er : runR n L ins out kept given over 0 steps ⟨F0, ps, none⟩ = if canB n ps3.length sn3.isNone over x0 then runR n L ins out kept given over (i + 1) (steps.drop (i + 1)) (stepS L ins out kept given over ⟨F3, ps3, sn3⟩ x0) else .error i := er
      obtain ⟨okT, sT, gT⟩ := R3.ok.new (o := .frz o (.tup [.int (i : Nat), xv])) hT
      have RT := R3.step sT okT
      have ST := S3.step sT okT
      refine ⟨To, _, rfl, .inl (.inr ⟨o, upd_same⟩), rfl, _, _, rfl, _, _, rfl, rfl, ?_⟩
      obtain ⟨dxT, fsT, svT, hoT, FFT, _, _⟩ := RT.ob
      have rxT := rx0.mono ST.ge
      refine ⟨_, rfl, x, dxT, fsT, rfl, hoT, FFT.no _ (by decide +kernel) (by decide +kernel) (by decide +kernel) (by decide +kernel), xv, rfl, _, rfl, st, fix, tabs, G3, nT H, x, w, p, hv, n, F3, ps3, sn3, x0, xv, over, rfl, RT, rxT, sx, fun H4 G4 s4 ok4 => ⟨_, rfl, ?_⟩⟩
      have R4 := RT.step s4 ok4
      have S4 := ST.step s4 ok4
      refine ite2 (fun hb => ?_) (fun hb => ?_)
      · have hcb : canB n ps3.length sn3.isNone over x0 = false := by
          cases z : canB n ps3.length sn3.isNone over x0 with
          | false => rfl
          | true => rw [z] at hb; cases hb
        rw [hcb] at er
        have er : runR n L ins out kept given over 0 steps ⟨F0, ps, none⟩ = .error i := er
        rw [er] at q
        refine ⟨_, rfl, by simp, fun a na => ⟨a, .int (i : Nat), rfl, TX, hno, upd_same, fun dx' nd ne => ⟨rfl, dx', [(fieldOf "BadMove", .int (i : Nat))], upd_same, ?_, ?_, ?_⟩⟩⟩
        · rw [upd_ne ne, upd_same]
        · rw [upd_ne ne] at nd
          exact nd
        · have nd1 : H4 dx' = none := by rw [upd_ne ne] at nd; exact nd
          have at_ : ∀ b, b ≠ a → b ≠ dx' → upd (L2.del (upd (upd (upd H4 a (exo a DX none)) dx' (exd dx' [(fieldOf "BadMove", .int (i : Nat))])) a (exo a DX (some dx'))) a) dx' (.xd [(fieldOf "BadMove", .int (i : Nat))]) b = H4 b := fun b h1 h2 => by
            rw [upd_ne h2, L2.del_ne h1, upd_ne h1, upd_ne h2, upd_ne h1]
          have sm : Same H4 (upd (L2.del (upd (upd (upd H4 a (exo a DX none)) dx' (exd dx' [(fieldOf "BadMove", .int (i : Nat))])) a (exo a DX (some dx'))) a) dx' (.xd [(fieldOf "BadMove", .int (i : Nat))])) := fun b u h => by
            rw [at_ b (ne_of_none h na) (ne_of_none h nd1)]
            exact h
          refine px' ⟨"BadMove", some (i : Nat)⟩ (.ref DX) (some dx') _ q ⟨fun c u sc h => nT_same sm c u (S4.keep c u sc h), Same.refl _, fun c u e e' => by rw [e] at e'; cases e'⟩ ⟨ok4.iv.same sm, fun c u e => ⟨(ok4.sub c u (S4.ge c u e)).1, sm c u (ok4.sub c u (S4.ge c u e)).2⟩, fun c u e => ok4.nt c u (S4.ge c u e)⟩ ⟨DX, gx, rfl, dx', rfl, upd_same, ?_⟩
          cases z : G dx' with
          | none => rfl
          | some u =>
            have := (ok4.sub dx' u (S4.ge dx' u z)).2
            rw [nd1] at this
            cases this
      · have hcb : canB n ps3.length sn3.isNone over x0 = true := by
          cases z : canB n ps3.length sn3.isNone over x0 with
          | true => rfl
          | false => rw [z] at hb; exact absurd rfl hb
        rw [hcb, if_pos rfl] at er
        have rx4 := rxT.mono s4.ge
        refine ⟨[none, none, none, none, none, none, none, none, none, some (stD x0)], G4, fun b => b = isCall x0, fun _ => False, ok4, .skip (.skip (.skip (.skip (.skip (.skip (.skip (.skip (.skip (.with rx4 .nil))))))))), ⟨z1s, eqE_call sx rfl⟩, fun b H5 G5 s5 ok5 eb => ?_, px _ _⟩
        subst eb
        have R5 := R4.step s5 ok5
        have S5 := S4.step s5 ok5
        obtain ⟨dx5, fs5, sv5, ho5, FF5, _, _⟩ := R5.ob
        refine ite2 (fun hc => ?_) (fun hc => ?_)
        · obtain ⟨e1, o0, o1⟩ := can_call hcb hc
          subst e1
          have eo : over = ((over.toNat : Nat) : Int) := by omega
          refine ⟨_, rfl, x, dx5, fs5, rfl, ho5, FF5.no _ (by decide +kernel) (by decide +kernel) (by decide +kernel) (by decide +kernel), _, rfl, _, rfl, _, rfl, st, fix, tabs, G5, nT H, x, w, p, hv, lv, n, F3, L, ps3, given, over.toNat, ins, out, kept, ?_, R5, rH.mono S5.ge, rL.mono S5.ge, by omega, by have := HO.n4; omega, HO.ib, HO.ob, by omega, by omega, fun c o sc h => S5.keep c o sc h, fun H6 fr6 R6 => ?_⟩
          · rw [← eo]
            rfl
          · have S6 := S5.fr' fr6 R6.ok bx bw bp
            refine ⟨G5, _, _, _, _, _, rfl, R6, S6, by rw [List.length_take]; omega, ?_⟩
            rw [er]
            unfold stepS
            rw [if_pos hc]
        · have hcf : isCall x0 = false := Bool.eq_false_iff.mpr hc
          refine ⟨_, rfl, x, dx5, fs5, rfl, ho5, FF5.no _ (by decide +kernel) (by decide +kernel) (by decide +kernel) (by decide +kernel), xv, rfl, st, fix, tabs, G5, nT H, x, w, p, hv, n, F3, ps3, sn3, x0, xv, rfl, R5, rx4.mono s5.ge, sx, can_do hcb hcf, by omega, fun H6 G6 fr6 R6 => ?_⟩
          have S6 := S5.fr' fr6 R6.ok bx bw bp
          refine ⟨G6, _, _, _, _, _, rfl, R6, S6, by have := doP_len x0 F3 ps3; omega, ?_⟩
          rw [er]
          unfold stepS
          rw [if_neg hc]
    · rintro σ H3 ⟨G3, F3, ps3, sn3, e8, e9, rfl, R3, S3, hl3, er⟩
      rw [slen, List.drop_length] at er
      have er : runR n L ins out kept given over 0 steps ⟨F0, ps, none⟩ = .ok ⟨F3, ps3, sn3⟩ := er
      rw [er] at q
      have q : Kd [wl n F3, ps3.map D.int, (sn3.getD []).map D.int] := q
      obtain ⟨dx3, fs3, sv3, ho3, FF3, _, SN⟩ := R3.ob
      refine ⟨_, rfl, x, Cr, dx3, fs3, _, rfl, ho3, T.cl, T.nW, FF3.lw, _, rfl, x, Cr, dx3, fs3, _, rfl, ho3, T.cl, T.nP, FF3.lp, _, rfl, x, Cr, dx3, fs3, _, rfl, ho3, T.cl, T.nS, FF3.ls, rfl, _, rfl, ?_⟩
      have fin : ∀ (H4 G4 : Hp) (a : Addr) (zs : List Int), RunSt ⟨K, st, fix, tabs⟩ (nT H) Cr H4 G4 x w p hv (wlI n F3) ps3 sn3 → Since ⟨K, st, fix, tabs⟩ (nT H) G H4 G4 → H4 a = some (.lst (zs.map V.int)) → C3.sp ⟨K, st, fix, tabs⟩ a = false → G4 a = none → nT H a = none → a ≠ w → a ≠ p → zs = sn3.getD [] →
          ∀ (t : Addr) (o : Obj), H4 t = none → o.cls = .type "tuple" → o.dict = none → Q (.ref t) (upd H4 t (.frz o (.tup [.ref w, .ref p, .ref a]))) := fun H4 G4 a zs R4 S4 ha sa ga ba nw' np' ez t o ht c1 c2 => by
        subst ez
        obtain ⟨okT, sT, gT⟩ := R4.ok.new (o := .frz o (.tup [.ref w, .ref p, .ref a])) ht
        have RT := R4.step sT okT
        have ST := S4.step sT okT
        have haT : upd H4 t (.frz o (.tup [.ref w, .ref p, .ref a])) a = some (.lst ((sn3.getD []).map V.int)) := sT.nh a _ sa ha
        have bt : nT H t = none := by
          cases z : nT H t with
          | none => rfl
          | some u =>
            have := S4.keep t u (R4.ok.iv.new ht) z
            rw [nT_none ht] at this
            cases this
        have ntw : t ≠ w := fun z => by rw [z, R4.hw] at ht; cases ht
        have ntp : t ≠ p := fun z => by rw [z, R4.hp] at ht; cases ht
        have nta : t ≠ a := fun z => by rw [z, ha] at ht; cases ht
        refine pv' [wl n F3, ps3.map D.int, (sn3.getD []).map D.int] t [w, p, a] _ G4 ST.stp okT (fun c hc => ?_) ⟨?_, ⟨o, upd_same, c1, c2⟩, fun c hc => ?_, rfl, fun i c ds h1 h2 => ?_⟩ q
        · simp only [List.mem_cons, List.mem_nil_iff, or_false] at hc
          rcases hc with rfl | rfl | rfl | rfl
          · exact bt
          · exact bw
          · exact bp
          · exact ba
        · simp [ntw, ntp, nta, RT.ne, nw'.symm, np'.symm]
        · simp only [List.mem_cons, List.mem_nil_iff, or_false] at hc
          rcases hc with rfl | rfl | rfl | rfl
          · exact ⟨R4.ok.iv.new ht, gT⟩
          · exact ⟨RT.sw, RT.gw⟩
          · exact ⟨RT.sp, RT.gp⟩
          · exact ⟨sa, ga⟩
        · match i, h1, h2 with
          | 0, h1, h2 =>
            cases h1; cases h2
            exact ⟨_, RT.hw, by rw [← wlI_D]; exact Rps.ofInts _⟩
          | 1, h1, h2 =>
            cases h1; cases h2
            exact ⟨_, RT.hp, Rps.ofInts _⟩
          | 2, h1, h2 =>
            cases h1; cases h2
            exact ⟨_, haT, Rps.ofInts _⟩
      cases sn3 with
      | none =>
        have SN : sv3 = .non := SN
        subst SN
        refine ⟨Nat.zero_le _, fun l hl => ⟨z3, fun t o ht c1 c2 => ?_⟩⟩
        obtain ⟨okl, sl, gl⟩ := R3.ok.new (o := .lst []) hl
        have bl : nT H l = none := by
          cases z : nT H l with
          | none => rfl
          | some u =>
            have := S3.keep l u (R3.ok.iv.new hl) z
            rw [nT_none hl] at this
            cases this
        exact fin _ G3 l [] (R3.step sl okl) (S3.step sl okl) upd_same (R3.ok.iv.new hl) gl bl (fun z => by rw [z, R3.hw] at hl; cases hl) (fun z => by rw [z, R3.hp] at hl; cases hl) rfl t o ht c1 c2
      | some zs =>
        obtain ⟨a, ea, n1, n2, ha, sa, ga, ba⟩ := SN
        subst ea
        refine ⟨_, rfl, x, Cr, dx3, fs3, _, rfl, ho3, T.cl, T.nS, FF3.ls, z3, fun t o ht c1 c2 => ?_⟩
        exact fin H3 G3 a zs R3 S3 ha sa ga ba n1 n2 rfl t o ht c1 c2
end L3
set_option pp.maxSteps 600
/-! L4: own lists are lent: a new list of flat things for a name; x.append(flat); a value without lists of its own's kind -/
namespace L3
open PySem PySem.Spec PyProof.Rows L2
section
variable {X : Cx} {C : C3} {E : XK} {fr : Bool} {B : Hp} {e : Expr} {m : MEt} {pos pos' apos : Pos} {i j : Nat} {x : Str}
def mSetLO (i : Nat) (m : MEt) : MSt := fun env Ks => m (lendE env) (fun d => (∃ ds, d = .lst ds ∧ ds.all flatD = true) ∧ ∀ p, Ks.nx (env.set i (some (.own p d)))) Ks.ex
theorem ms_setLO (hN : X.N.Nodup) (hi : X.N[i]? = some x) (hx : Loc X.env.scope x) (he : MF X C E e m) (hs : swapsWith e (some (.Name x pos')) pos.line X.env = pure false := by rfl) (hf : X.fn x = true ∨ X.env.scope.names.lookup x = some .local := by first | exact .inl rfl | exact .inr rfl | assumption) :
    MS X C E fr B (.Assign [.Name x pos'] e pos) (mSetLO i m) := fun G0 => PS.imp (ps_set hN hi hx he hs hf) fun En σ H ⟨env, G, Ks, er, hm, f⟩ =>
  ⟨lendE env, _, _, Ks.ex, er.lend.1, er.lend.2, hm, (fun d p o H1 G1 s1 ok1 hp gp ho sp ob k1 => by
    obtain ⟨⟨ds, rfl, fl⟩, k1⟩ := k1
    cases ob with
    | lst r =>
      have er1 := er.back s1 ok1
      have gn : G p = none := by
        cases q : G p with
        | none => rfl
        | some u =>
          have := er.z.ok.sn q
          rw [hp] at this
          cases this
      refine f.nx _ _ H1 G (er1.set_own sp (er.z.bfree sp hp) gn ho (.lst (r.anyG fl)) fun k e _ q => ?_) (k1 p)
      obtain ⟨_, _, _, _, u, h5, h6⟩ := er.own k p e q
      rw [nT_of h5 h6.nt] at hp
      cases hp), f.px er.z gLend_ge⟩
def mAppendL (j : Nat) (m : MEt) : MSt := fun env Ks => ownL env j fun p ds => m (lendE env) (fun d => flatD d = true ∧ ds.length < sizeLine ∧ Ks.nx (env.set j (some (.own p (.lst (ds ++ [d])))))) Ks.ex
theorem ms_appendL {x : Str} (j : Nat) {xp cp : Pos} (hN : X.N[j]? = some x := by rfl) (hv : Vis X.env.scope x := by first | exact Or.inl rfl | exact Or.inr (Or.inl rfl) | exact Or.inr (Or.inr rfl)) (hd : (x == ("__debug__" : Str)) = false := by decide) (hcd : (x == ("__classdict__" : Str)) = false := by decide)
    (h : PS X (.Expr (.Call (.Attribute (.Name x xp) "append" apos) [e] [] cp) pos) (tDrop (tBM X.K "list" rAppend (tVar j) (tCons (lift C X.mg E m) tNil)))) : MS X C E fr B (.Expr (.Call (.Attribute (.Name x xp) "append" apos) [e] [] cp) pos) (mAppendL j m) := fun G0 => PS.imp h fun En σ H ⟨env, G, Ks, er, hm, f⟩ => by
  obtain ⟨q, ds, hq, hm⟩ := ownL_inv hm
  obtain ⟨h1, h2, h3, h4, ob, h5, h6⟩ := er.own j q _ hq
  cases h6 with
  | lst rl =>
    refine ⟨.ref q, h1, .inl ⟨rfl, _, .inl (.inl h5)⟩, lendE env, _, _, Ks.ex, er.lend.1, er.lend.2, hm, fun d v H1 G1 s1 ok1 r1 k1 => ?_, f.px er.z gLend_ge⟩
    have er1 := er.back s1 ok1
    exact ⟨q, _, v, rfl, rfl, s1.nh q _ h2 h5, by rw [← rl.length]; exact k1.2.1, f.nx _ _ _ G (er1.write hq (.lst (rl.append (.cons (r1.anyG k1.1) .nil)))) k1.2.2⟩
/-! ### a list is lent to a call that hands back lists of whole numbers, tuples of such -/
inductive IT : D → Prop
  | non : IT .non
  | bl (k : Bool) : IT (.bl k)
  | int (k : Int) : IT (.int k)
  | str (k : Str) : IT (.str k)
  | tup (ds : List D) : (∀ d ∈ ds, IT d) → IT (.tup ds)
  | nums (ns : List Int) : IT (.lst (ns.map D.int))
def offA (G : Hp) (p : Addr) : Hp := fun a => if a = p then none else G a
theorem offA_of {G : Hp} {p a : Addr} {o : HO} (h : offA G p a = some o) : a ≠ p ∧ G a = some o := by
  unfold offA at h
  by_cases c : a = p
  · rw [if_pos c] at h; cases h
  · rw [if_neg c] at h; exact ⟨c, h⟩
theorem offA_to {G : Hp} {p a : Addr} {o : HO} (n : a ≠ p) (h : G a = some o) : offA G p a = some o := by
  unfold offA
  rw [if_neg n, h]
def notI : V → Prop
  | .int _ => False
  | _ => True
theorem IT.off {K : PySem.W.Frag} {G : Hp} {p : Addr} {v0 : V} {vs : List V} (hp : G p = some (.lst (v0 :: vs))) (n : notI v0) {d : D} (h : IT d) : ∀ {v : V}, Rp K G d v → Rp K (offA G p) d v := by
  induction h with
  | non => intro v r; cases r; exact .non
  | bl b => intro v r; cases r; exact .bl b
  | int i => intro v r; cases r; exact .int i
  | str x => intro v r; cases r; exact .str x
  | tup ds h ih =>
    intro v r
    cases r with
    | tup ht rr =>
      have go : ∀ {es : List D} {ws : List V}, (∀ d ∈ es, ∀ {v : V}, Rp K G d v → Rp K (offA G p) d v) → Rps K G es ws → Rps K (offA G p) es ws := fun {es} => by
        induction es with
        | nil => intro ws _ r; cases r; exact .nil
        | cons d es ih2 =>
          intro ws q r
          cases r with
          | cons r1 r2 => exact .cons (q d List.mem_cons_self r1) (ih2 (fun e he => q e (List.mem_cons_of_mem _ he)) r2)
      refine .tup ?_ (go (fun d hd => ih d hd) rr)
      rcases ht with ⟨o, h1, h2, h3⟩ | ht
      · refine .inl ⟨o, offA_to (fun z => ?_) h1, h2, h3⟩
        rw [z, hp] at h1
        cases h1
      · exact .inr ht
  | nums ns =>
    intro v r
    cases r with
    | lst hl rr =>
      have e := rr.ints
      subst e
      refine .lst (offA_to (fun z => ?_) hl) (Rps.ofInts _)
      rw [z, hp] at hl
      cases ns with
      | nil => cases hl
      | cons k ns =>
        have hl := Option.some.inj hl
        have hl : v0 :: vs = V.int k :: ns.map V.int := HO.lst.inj hl
        rw [(List.cons.inj hl).1] at n
        exact n
def notID : D → Prop
  | .int _ => False
  | _ => True
def mSetLT (j i : Nat) (m : MEt) : MSt := fun env Ks => ownL env j fun p ds => (∃ d0 r, ds = d0 :: r ∧ notID d0) ∧ m ((viewE env).set j (some (.lst ds))) (fun d => IT d ∧ Ks.nx (env.set i (some (.sh d)))) Ks.ex
theorem ms_setLT (j : Nat) (hN : X.N.Nodup) (hi : X.N[i]? = some x) (hx : Loc X.env.scope x) (he : ME X C E e m) (hs : swapsWith e (some (.Name x pos')) pos.line X.env = pure false := by rfl) (hf : X.fn x = true ∨ X.env.scope.names.lookup x = some .local := by first | exact .inl rfl | exact .inr rfl | assumption) :
    MS X C E fr B (.Assign [.Name x pos'] e pos) (mSetLT j i m) := fun G0 => PS.imp (ps_set hN hi hx he hs hf) fun En σ H ⟨env, G, Ks, er, hm, f⟩ => by
  obtain ⟨p, ds, hq, hne, hm⟩ := ownL_inv hm
  obtain ⟨d0, rd, rfl, nI⟩ := hne
  obtain ⟨h1, h2, h3, h4, ob, h5, h6⟩ := er.own j p _ hq
  cases h6 with
  | lst rl =>
    rename_i vs
    obtain ⟨v0, vr, rfl, r0⟩ : ∃ v0 vr, vs = v0 :: vr ∧ Rp C.K G d0 v0 := by
      cases rl with
      | cons r0 _ => exact ⟨_, _, rfl, r0⟩
    have n0 : notI v0 := by
      cases r0 with
      | int i => exact nI.elim
      | _ => exact True.intro
    have okp : Ok3 C H (upd G p (.lst (v0 :: vr))) := er.z.ok.frz h4 h5 h2
    have ge : Same G (upd G p (.lst (v0 :: vr))) := same_new h4
    refine ⟨(viewE env).set j (some (.lst (d0 :: rd))), upd G p (.lst (v0 :: vr)), _, Ks.ex, okp, ⟨by rw [List.length_set]; exact er.vr.len, fun k d hk => ?_⟩, hm, fun d v H1 G1 s1 ok1 r1 k1 => ?_, f.px er.z ge⟩
    · by_cases c : j = k
      · subst c
        by_cases hj : j < (viewE env).length
        · rw [List.getElem?_set_self hj] at hk
          cases hk
          exact ⟨.ref p, h1, .lst upd_same (rl.mono ge)⟩
        · rw [List.getElem?_eq_none (by simpa using hj)] at hk
          cases hk
      · rw [List.getElem?_set_ne c] at hk
        obtain ⟨w, a, b⟩ := er.vr.get k d hk
        exact ⟨w, a, b.mono ge⟩
    · obtain ⟨it, k1⟩ := k1
      have gp1 : G1 p = some (.lst (v0 :: vr)) := s1.ge p _ upd_same
      have nG : ∀ a o, G a = some o → a ≠ p := fun a o h z => by rw [z, h4] at h; cases h
      have st : Stp C H G H1 (offA G1 p) := ⟨s1.nx, fun a o h => offA_to (nG a o h) (s1.ge a o (ge a o h)), fun a o h h' => by
        obtain ⟨n, h'⟩ := offA_of h'
        exact s1.fr a o (by rw [upd_ne n]; exact h) h'⟩
      have okf : Ok3 C H1 (offA G1 p) := ⟨ok1.iv, fun a o h => ok1.sub a o (offA_of h).2, fun a o h => ok1.nt a o (offA_of h).2⟩
      exact f.nx _ _ H1 _ ((er.step st okf).set_sh (it.off gp1 n0 r1)) k1
end
end L3
set_option pp.maxSteps 600
/-! L5: fresh lists told in a tuple through _law_kind, changed in a loop if they are three -/
namespace L3
open PySem PySem.Spec PyProof.Rows L2
abbrev MTK := EnvE → (List (List D) → Prop) → (D → Prop) → (Exn → Prop) → Prop
def liftTK (C : C3) (mg : Str → Option Value) (E : XK) (m : MTK) : TE := fun σ H Q => ∃ env G K3 Kd KX, Ok3 C H G ∧ VR C.K G env σ ∧ m env K3 Kd KX ∧ PostT C H G K3 Q ∧ PostV C H G Kd Q ∧ PostX C mg H G KX E
abbrev MTk (X : Cx) (C : C3) (E : XK) (e : Expr) (m : MTK) : Prop := PE X e (liftTK C X.mg E m)
def mKind3 (ws wn : List Str) (m : M3t) : MTK := fun env K3 Kd KX => m env K3 (kindX ws wn Kd)
open LamX in
/-- _law_kind(lambda: body), body tells fresh lists -/
theorem mt_kind3 {X : Cx} {C : C3} {E : XK} {ws wn : List Str} {m : M3t} {x a : Str} {g c P : Addr} {k : Nat} {pg : Arguments} {bg : List Stmt} {sg : Scope} {dV kV doc pm cdv ct oc : Value} {an od : Option Addr} {osl : Array (Option Value)} {Ng : List Str}
    {params : Arguments} {body : Expr} {scope : Scope} {p lpos pos : Pos} (hK : X.K = C.K) (hfx : ∀ p ∈ C.fix, notTbl p.2 = true) (kt : ∀ w ∈ ws, ∃ D, X.mg w = some (.ref D) ∧ Kinds X.K X.mg D w) (ktn : ∀ w ∈ wn, ∃ D, X.mg w = some (.ref D) ∧ Kinds X.K X.mg D w ∧ XfC X.K D ∧ PySem.W.findIn X.K (.ref D) (fieldOf w) = some none) (hg : Gl X x) (hm : X.mg x = some (.ref g)) (hk : PySem.W.keepIn X.K (.ref g) = true)
    (lk : X.K.lookup g = some ⟨oc, od, .func (PySem.W.fnOf x x pg bg sg dV kV doc pm an cdv ct), osl⟩) (hcg : PySem.W.codeIn X.K cdv x = true) (hb : L2.Binds X.K (PySem.W.fnOf x x pg bg sg dV kV doc pm an cdv ct) [a] []) (Sg : FnScope Ng [a] sg) (hNg : Ng[0]? = some a) (hva : Vis sg a)
    (hG : GivesTo X Ng x sg g cdv bg a (X.env.qual ++ "<lambda>") (TTn C X.mg ws wn))
    (TB : TabB X.base X.mg c P) (hcode : X.env.code = .ref c) (hmT : (P, X.env.qual ++ "<lambda>") ∈ C.tabs) (hu : ∀ p ∈ C.tabs, p.1 = P → p.2 = X.env.qual ++ "<lambda>") (hr : Room (k + 2) X.A) (L : LamS X.env.scope scope) (hdef : defaultsOf params X.env = ([], []))
    (hbind : ∀ (q : Str) (cl : List (Str × Addr)) (pm cv ctv : Value), bindArgs (PySem.W.kla_fn "<lambda>" q params body scope cl pm cv ctv) ⟨[], []⟩ = pure [])
    (hbody : ∀ (A : Around) (outer : List Env) (s : Shared) (H : Hp) (E : XK) (f c' : Addr), Room k (A.deeper (lamEnv X scope s.heap.objs.size f c')) → MT3 (lamCx X A outer s H E scope f c') C E body m)
    (hdb : (x == ("__debug__" : Str)) = false := by decide) (hd : (a == ("__debug__" : Str)) = false := by decide) (hcd : (a == ("__classdict__" : Str)) = false := by decide) :
    MTk X C E (.Call (.Name x p) [.Lambda params body scope lpos] [] pos) (mKind3 ws wn m) :=
  PE.imp (pe_lamcall (T := C.tabs) (TT := TTn C X.mg ws wn) (t := fun E => liftT3 C X.mg E m) hg hm hk lk hcg hb Sg hNg hva hG TB hcode hmT hu hr L hdef hbind hbody hdb hd hcd) fun σ H Q ⟨env, G, K3, Kd, KX, ok, vr, hm, pt, pv, px⟩ => by
  refine ⟨ok.iv.tb, fun H1 eN tb => ?_⟩
  obtain ⟨ok1, s1⟩ := lam_ok ok hfx eN tb
  refine ⟨env, G, K3, _, ok1, vr, hm, pt.on s1, fun x cls d H2 kx s2 ok2 r => ?_⟩
  obtain ⟨A, h1, h2, h3⟩ := r
  have kx : kindX ws wn Kd x := kx
  unfold kindX at kx
  cases q : x.num with
  | none =>
    rw [q] at h3 kx
    obtain ⟨hw, kx⟩ := kx
    obtain ⟨D, g1, g2⟩ := kt _ hw
    rw [h1] at g1
    cases g1
    exact .inl ⟨x.cls, G, A, ok2, hw, h2, h3, by rw [← hK]; exact g2, fun y v H3 G3 s3 ok3 r3 e => pv y v H3 G3 ((s1.trans ok2 s2).trans ok3 s3) ok3 r3 (by rw [e]; exact kx)⟩
  | some n =>
    rw [q] at h3 kx
    obtain ⟨hw, kx⟩ := kx
    obtain ⟨D, g1, g2, g3, g4⟩ := ktn _ hw
    rw [h1] at g1
    cases g1
    obtain ⟨dd, e1, e2, e3⟩ := h3
    exact .inr ⟨x.cls, n, G, A, dd, ok2, hw, h2, e1, e2, e3, by rw [← hK]; exact g2, by rw [← hK]; exact g3, by rw [← hK]; exact g4, fun y v H3 G3 s3 ok3 r3 e => pv y v H3 G3 ((s1.trans ok2 s2).trans ok3 s3) ok3 r3 (by rw [e]; exact kx)⟩
/-- a test that reads what is told -/
theorem told_test {C : C3} {mg : Str → Option Value} {E : XK} {fr : Bool} {B G0 H G : Hp} {Ks : KS} {En : Ends} {env : EnvS} {σ : L2.St} {i : Nat} {q : Addr} {ps : List Addr} {dss : List (List D)} {tt : MTt} {Kb : Bool → Prop} {Q : Bool → Hp → Prop}
    (f : Fin C mg E fr B G0 Ks En) (er : ER C B G0 H G env σ) (hq : σ[i]? = some (some (.ref q))) (t : Told C H G q ps dss) (hfree : ∀ p ∈ q :: ps, B p = none ∧ ∀ (k : Nat) (d : D), env[k]? ≠ some (some (.own p d)))
    (k1 : tt ((lendE env).set i (some (.tup (dss.map D.lst)))) Kb Ks.ex) (hk : ∀ b H2, ER C B G0 H2 G env σ → Told C H2 G q ps dss → Kb b → Q b H2) : liftT C mg E tt σ H Q := by
  have hown : ∀ p ∈ q :: ps, p ∉ ownA env := fun p hp hm => by
    obtain ⟨k, ds, e⟩ := ownA_mem hm
    exact (hfree p hp).2 k _ e
  have gl : ∀ p ∈ q :: ps, gLend G H env p = none := fun p hp => by
    unfold gLend
    rw [(t.fr p hp).2]
    dsimp only
    rw [if_neg (hown p hp)]
  obtain ⟨G2, s2, ok2, r2⟩ := t.all gLend_ge er.lend.1 gl
  refine ⟨(lendE env).set i (some (.tup (dss.map D.lst))), G2, _, Ks.ex, ok2, ?_, k1, fun b H2 G3 s3 ok3 kb => ?_, f.px er.z (gLend_ge.trans s2)⟩
  · have vr := er.lend.2
    refine ⟨by rw [List.length_set]; exact vr.len, fun k d hk => ?_⟩
    by_cases c : i = k
    · subst c
      by_cases hi : i < (lendE env).length
      · rw [List.getElem?_set_self hi] at hk
        cases hk
        exact ⟨_, hq, r2⟩
      · rw [List.getElem?_eq_none (by simpa using hi)] at hk
        cases hk
    · rw [List.getElem?_set_ne c] at hk
      obtain ⟨v, h1, h2⟩ := vr.get k d hk
      exact ⟨v, h1, h2.mono s2⟩
  · have er2 : ER C B G0 H2 G env σ := er.step ⟨s3.nx, Same.refl _, fun a o h h' => by rw [h] at h'; cases h'⟩ ⟨ok3.iv, fun a o h => ok3.sub a o (s3.ge a o (s2 a o (gLend_ge a o h))), fun a o h => ok3.nt a o (s3.ge a o (s2 a o (gLend_ge a o h)))⟩
    exact hk b H2 er2 (t.step s3.nx) kb
/-- x = e; if t: return ..; if t2: for y in x: .. -/
def mKindT (i j : Nat) (mk : MTK) (tt : MTt) (ma : MSt) (t2 : MTt) (mb : MSt) : MSt := fun env Ks => mk (viewE env)
  (fun dss => tt ((lendE (env.set i none)).set i (some (.tup (dss.map D.lst)))) (fun k => if k = true then ma (env.set i none) { Ks with nx := fun _ => False } else t2 ((lendE (env.set i none)).set i (some (.tup (dss.map D.lst)))) (fun k2 => k2 = true ∧ forT j mb Ks dss (env.set i none)) Ks.ex) Ks.ex)
  (fun d => tt (lendE (env.set i (some (.sh d)))) (fun k => if k = true then ma (env.set i (some (.sh d))) { Ks with nx := fun _ => False } else t2 (lendE (env.set i (some (.sh d)))) (fun k2 => k2 = false ∧ Ks.nx (env.set i (some (.sh d)))) Ks.ex) Ks.ex)
  Ks.ex
theorem mss_kindT {X : Cx} {C : C3} {E : XK} {fr : Bool} {B : Hp} {e c c2 tg : Expr} {x : Str} {a body : List Stmt} {p1 p2 p3 p4 p5 p6 : Pos} {i j : Nat} {mk : MTK} {tt t2 : MTt} {ma mb : MSt} (hK : X.K = C.K) (he : MTk X C E e mk) (hN : X.N.Nodup) (hi : X.N[i]? = some x) (hx : Loc X.env.scope x) (hil : i < X.N.length) (hc : MT X C E c tt) (ha : MSs X C E fr B a ma) (hc2 : MT X C E c2 t2)
    (hp : PassesOwn (model X.prog X.w) X.A X.env X.xe) (hcm : X.calm = true) (hv : PE X (.Name x p5) (tVar i)) (hg : PG X tg (gName j)) (hb : ∀ B', MSs X C E fr B' body mb)
    (hs : swapsWith e (some (.Name x p1)) p2.line X.env = pure false := by rfl) (hf : X.fn x = true ∨ X.env.scope.names.lookup x = some .local := by first | exact .inl rfl | exact .inr rfl | assumption) (hs2 : ∀ v, foldedSetIterable (.Name x p5) X.env v = pure v := by intro _; rfl) :
    MSs X C E fr B [.Assign [.Name x p1] e p2, .If c a [] p3, .If c2 [.For tg (.Name x p5) body [] p4] [] p6] (mKindT i j mk tt ma t2 mb) := fun G0 => by
  refine ⟨fun pins s σ H En I h => ?_⟩
  have hlen : σ.length = X.N.length := I.len
  revert h I
  refine fun I h => PSs.run (t := fun En σ H => σ.length = X.N.length ∧ liftS C X.mg E fr B G0 (mKindT i j mk tt ma t2 mb) En σ H) ?_ pins s σ H En I ⟨hlen, h⟩
  refine PSs.imp (pss_cons (ps_set hN hi hx he hs hf) (pss_cons (ps_if hc (ha G0) pss_nil) (pss_one (ps_if hc2 (pss_one (ps_forT (B := B) (G0 := G0) (i := i) hp hcm hK hv hg hb hs2)) pss_nil)))) fun En σ H ⟨hl, env, G, Ks, er, hm, f⟩ => ?_
  refine ⟨viewE env, G, _, _, Ks.ex, er.z.ok, er.vr, hm, fun dss q ps H1 G1 s1 ok1 nh t k1 => ?_, fun d v H1 G1 s1 ok1 r1 k1 => ?_, f.px er.z (Same.refl _)⟩
  · have er1 := (er.step s1 ok1).none i (some (.ref q))
    have hfree : ∀ p ∈ q :: ps, B p = none ∧ ∀ (k : Nat) (d : D), (env.set i none)[k]? ≠ some (some (.own p d)) := fun p hp => by
      have sp := (t.fr p hp).1
      refine ⟨?_, fun k d hk => ?_⟩
      · cases e : B p with
        | none => rfl
        | some u =>
          have := er.z.keep p u sp e
          rw [nh p hp] at this
          cases this
      · have hk' : env[k]? = some (some (.own p d)) := by
          by_cases c : i = k
          · subst c
            by_cases hi : i < env.length
            · rw [List.getElem?_set_self hi] at hk; cases hk
            · rw [List.getElem?_eq_none (by simpa using hi)] at hk; cases hk
          · rwa [List.getElem?_set_ne c] at hk
        obtain ⟨_, _, _, _, o, e, ob⟩ := er.own k p d hk'
        have := nT_of e ob.nt
        rw [nh p hp] at this
        cases this
    have hq : (σ.set i (some (V.ref q)))[i]? = some (some (V.ref q)) := List.getElem?_set_self (by rw [hl]; exact hil)
    refine told_test f er1 hq t hfree k1 fun b H2 er2 t2' kb => ?_
    cases b with
    | true => exact ⟨_, G1, _, er2, kb, ⟨fun _ _ _ _ _ k => k.elim, f.bk, f.ct, f.rt, f.ex⟩⟩
    | false =>
      refine told_test f er2 hq t2' hfree kb fun b2 H3 er3 t3 kb2 => ?_
      obtain ⟨rfl, kb2⟩ := kb2
      exact ⟨_, G1, Ks, q, ps, dss, er3, hq, t3, hfree, kb2, f⟩
  · have er1 := (er.step s1 ok1).set_sh (i := i) r1
    refine ⟨lendE _, _, _, Ks.ex, er1.lend.1, er1.lend.2, k1, fun b H2 G2 s2 ok2 kb => ?_, f.px er1.z gLend_ge⟩
    have er2 := er1.back s2 ok2
    cases b with
    | true => exact ⟨_, G1, _, er2, kb, ⟨fun _ _ _ _ _ k => k.elim, f.bk, f.ct, f.rt, f.ex⟩⟩
    | false =>
      refine ⟨lendE _, _, _, Ks.ex, er2.lend.1, er2.lend.2, kb, fun b2 H3 G3 s3 ok3 kb2 => ?_, f.px er2.z gLend_ge⟩
      obtain ⟨rfl, kb2⟩ := kb2
      exact f.nx _ _ _ G1 (er2.back s3 ok3) kb2
end L3
set_option pp.maxSteps 500
/-! P11: the law's own reckoning of steps -/
namespace L3
open PySem PySem.Spec PyProof.Rows L2
def snD : Option (List Int) → D
  | none => .non
  | some zs => .lst (zs.map D.int)
def StSz (x : St0) : Prop := ∀ w xs, x = some (w, xs) → xs.length ≤ 10
theorem eqE_none0 {x : St0} (h : StOk0 x) {K : D → Prop} (k : K (.bl x.isNone)) : eqE false (stD x) (.tup []) K := by
  refine eqE_of (n := 1) (stD_dk h 0) (.tup _ _ fun d hd => nomatch hd) (by decide) (b := x.isNone) ?_ k
  cases x with
  | none => simp [stD, D.py, D.pys, PyData.eqv, PyData.eqvAll]
  | some y => simp [stD, D.py, D.pys, PyData.eqv, PyData.eqvAll]
theorem canB_no {n high : Nat} {u : Bool} {over : Int} {w : Str} {xs : List Int} (hc : isCall (some (w, xs)) = false) (h : (xs.filter fun y => !inB n y) ≠ []) : canB n high u over (some (w, xs)) = false := by
  unfold canB
  rw [hc]
  show (if ppB (some (w, xs)) = true then ppS n high (some (w, xs)) else mvS n (some (w, xs))) = false
  match xs, h with
  | [], h => exact absurd rfl h
  | [i], h =>
    have hi : inB n i = false := by
      cases q : inB n i with
      | false => rfl
      | true => exact absurd (by simp [q]) h
    split
    · show (inB n i && _) = false
      rw [hi, Bool.false_and]
    · rfl
  | [i, j], h =>
    have hi : (inB n i && inB n j) = false := by
      cases q : inB n i with
      | false => rfl
      | true =>
        cases q2 : inB n j with
        | false => rfl
        | true => exact absurd (by simp [q, q2]) h
    show (_ && (_ && (inB n i && inB n j))) = false
    rw [hi, Bool.and_false, Bool.and_false]
  | a :: b :: c :: r, h => rfl
theorem canB_pp {n high : Nat} {u : Bool} {over : Int} {w : Str} {xs : List Int} (hc : isCall (some (w, xs)) = false) (h : (xs.filter fun y => !inB n y) = []) (hw : (decide (w = "push") || decide (w = "pop")) = true) : canB n high u over (some (w, xs)) = (decide (xs.length = 1) && (decide (w = "push") || !decide (high = 0))) := by
  unfold canB
  rw [hc]
  show (if ppB (some (w, xs)) = true then ppS n high (some (w, xs)) else mvS n (some (w, xs))) = _
  match xs, h with
  | [], h => rfl
  | [i], h =>
    have hi : inB n i = true := by
      cases q : inB n i with
      | true => rfl
      | false => exact absurd h (by simp [q])
    rw [if_pos (by exact hw)]
    show (inB n i && (decide (w = "push") || !decide (high = 0))) = _
    rw [hi, Bool.true_and, show decide (([i] : List Int).length = 1) = true from rfl, Bool.true_and]
  | [i, j], h =>
    have h1 : (decide (w = "copy") || decide (w = "swap")) = false := by
      rw [Bool.or_eq_true] at hw
      rcases hw with hw | hw
      · rw [of_decide_eq_true hw]; decide +kernel
      · rw [of_decide_eq_true hw]; decide +kernel
    show ((decide (w = "copy") || decide (w = "swap")) && _) = _
    rw [h1, Bool.false_and, show decide (([i, j] : List Int).length = 1) = false from rfl, Bool.false_and]
  | a :: b :: c :: r, h =>
    show false = _
    rw [show decide ((a :: b :: c :: r).length = 1) = false from decide_eq_false (by rw [List.length_cons, List.length_cons, List.length_cons]; omega), Bool.false_and]
theorem canB_mv {n high : Nat} {u : Bool} {over : Int} {w : Str} {xs : List Int} (hc : isCall (some (w, xs)) = false) (h : (xs.filter fun y => !inB n y) = []) (hw : (decide (w = "push") || decide (w = "pop")) = false) : canB n high u over (some (w, xs)) = ((decide (w = "copy") || decide (w = "swap")) && (decide (xs.length = 2) && !decide (xs[0]? = xs[1]?))) := by
  unfold canB
  rw [hc]
  show (if ppB (some (w, xs)) = true then ppS n high (some (w, xs)) else mvS n (some (w, xs))) = _
  match xs, h with
  | [], h => rw [show decide (([] : List Int).length = 2) = false from rfl, Bool.false_and, Bool.and_false]; rfl
  | [i], h =>
    rw [if_neg (by show ¬ ((decide (w = "push") || decide (w = "pop")) = true); rw [hw]; exact Bool.false_ne_true), show decide (([i] : List Int).length = 2) = false from rfl, Bool.false_and, Bool.and_false]
    rfl
  | [i, j], h =>
    have hi : (inB n i && inB n j) = true := by
      cases q : inB n i with
      | false => exact absurd h (by simp [q])
      | true =>
        cases q2 : inB n j with
        | false => exact absurd h (by simp [q, q2])
        | true => rfl
    show ((decide (w = "copy") || decide (w = "swap")) && (!decide (i = j) && (inB n i && inB n j))) = _
    rw [hi, Bool.and_true, show decide (([i, j] : List Int).length = 2) = true from rfl, Bool.true_and]
    congr 2
    show decide (i = j) = decide (some i = some j)
    by_cases c : i = j
    · rw [decide_eq_true c, decide_eq_true (by rw [c])]
    · rw [decide_eq_false c, decide_eq_false (fun z => c (Option.some.inj z))]
  | a :: b :: c :: r, h =>
    show false = _
    rw [show decide ((a :: b :: c :: r).length = 2) = false from decide_eq_false (by rw [List.length_cons, List.length_cons, List.length_cons]; omega), Bool.false_and, Bool.and_false]
/-! ### _law_can -/
def sp__law_can : Spec := fun _ ds Kd _ => ∃ (n high : Nat) (x : St0) (sn : Option (List Int)) (over : Int), ds = [.int n, .int high, stD x, snD sn, .int over] ∧ StOk0 x ∧ StSz x ∧ Kd (.bl (canB n high sn.isNone over x))
abbrev N__law_can : List Str := ["_law_boxes_here", "_law_high", "_law_step_here", "_law_seen", "_law_over", "_law_box"]
abbrev ps__law_can : List Str := ["_law_boxes_here", "_law_high", "_law_step_here", "_law_seen", "_law_over"]
def m__law_can (sa : Option Addr) : MSt :=
  (mSeq (mIfS (mB (m2 (eqE false) (mVar 2) (mTup (aCons (mC (.str "call")) aNil)))) (mRet (mAndV (m2 (isND false) (mVar 3) (mC .non)) (m3 (ordD pLe) (ordD pLe) (mC (.int 0)) (mVar 4) (mVar 1)))) mNext)
  (mSeq (mIfS (mOr (mB (m2 (eqE false) (mVar 2) (mTup aNil))) (mB (m2 (eqE true) (mLc (.nm 5) [5] (mIter (mSl slD (mVar 2) (oSome (mC (.int 1))) oNone)) (mNot (mB (m3 (ordD pLe) (ordD pLt) (mC (.int 0)) (mVar 5) (mVar 0)))) (mVar 5)) (mLst aNil)))) (mRet (mC (.bl false))) mNext)
  (mSeq (mIfS (mB (m2 (inS false) (m2 ixD (mVar 2) (mC (.int 0))) (mTup (aCons (mC (.str "push")) (aCons (mC (.str "pop")) aNil))))) (mRet (mAndV (m2 (eqE false) (mCall lenD (aCons (mVar 2) aNil)) (mC (.int 2))) (mOrV (m2 (eqE false) (m2 ixD (mVar 2) (mC (.int 0))) (mC (.str "push"))) (m2 (ordD pGt) (mVar 1) (mC (.int 0)))))) mNext)
  (mRet (mAndV (m2 (inS false) (m2 ixD (mVar 2) (mC (.int 0))) (mTup (aCons (mC (.str "copy")) (aCons (mC (.str "swap")) aNil)))) (mAndV (m2 (eqE false) (mCall lenD (aCons (mVar 2) aNil)) (mC (.int 3))) (m2 (eqE true) (m2 ixD (mVar 2) (mC (.int 1))) (m2 ixD (mVar 2) (mC (.int 2))))))))))
theorem pu__law_can (sa : Option Addr) (ds : List D) (Kd : D → Prop) (KX : Exn → Prop) (hl : ds.length = 5) (h : sp__law_can sa ds Kd KX) : m__law_can sa (startS N__law_can.length ds) { nx := fun _ => false = false ∧ Kd .non, rt := Kd, ex := KX } := by
  obtain ⟨n, high, x, sn, over, rfl, hx, hz, k⟩ := h
  refine ⟨z1s, eqE_call hx (ite2 (fun c => ?_) (fun c => ?_))⟩
  · have e : canB n high sn.isNone over x = (sn.isNone && (decide (0 ≤ over) && decide (over ≤ (high : Int)))) := by
      unfold canB
      rw [if_pos c]
    rw [e] at k
    cases sn with
    | some zs => exact ⟨rfl, k⟩
    | none =>
      refine ⟨rfl, ?_⟩
      show (if decide (0 ≤ over) = true then Kd (.bl (decide (over ≤ (high : Int)))) else Kd (.bl false))
      refine ite2 (fun c => ?_) (fun c => ?_)
      · rw [c] at k
        exact k
      · rw [Bool.eq_false_iff.mpr c] at k
        exact k
  · have hc : isCall x = false := Bool.eq_false_iff.mpr c
    refine ⟨z0, eqE_none0 hx ?_⟩
    cases x with
    | none => exact k
    | some y =>
      obtain ⟨w, xs⟩ := y
      have hzl := hz w xs rfl
      have c1 : cutD (D.str w :: xs.map D.int) (some 1) none = xs.map D.int := cutD_from (D.str w :: xs.map D.int) 1
      refine ⟨by show (cutD (D.str w :: xs.map D.int) (some 1) none).length ≤ 100000; rw [c1, List.length_map]; omega, lcD_filter (fun y => !inB n y) rfl c1 (fun y hy Kb hk => ?_) ⟨z0, eqE_nilV (v := (xs.filter fun y => !inB n y).isEmpty) (Dk_intsL _ 5) (by cases (xs.filter fun y => !inB n y) <;> rfl) ?_⟩⟩
      · show (if decide (0 ≤ y) = true then Kb (!decide (y < (n : Int))) else Kb (!false))
        unfold inB at hk
        refine ite2 (fun c => ?_) (fun c => ?_)
        · rw [c, Bool.true_and] at hk
          exact hk
        · rw [Bool.eq_false_iff.mpr c, Bool.false_and] at hk
          exact hk
      · by_cases hf : (xs.filter fun y => !inB n y) = []
        · rw [hf]
          refine ixD_tup (d := .str w) (atI_nat (j := 0) rfl) ⟨z2, inS_w2 ?_⟩
          show (if (decide (w = "push") || decide (w = "pop")) = true then _ else _)
          refine ite2 (fun cw => ?_) (fun cw => ?_)
          · rw [canB_pp hc hf cw] at k
            refine eqE_int ?_
            have e : decide (((D.str w :: xs.map D.int).length : Int) = 2) = decide (xs.length = 1) := by
              rw [List.length_cons, List.length_map]
              by_cases c : xs.length = 1
              · rw [decide_eq_true c, decide_eq_true (by omega)]
              · rw [decide_eq_false c, decide_eq_false (by omega)]
            show (if decide (((D.str w :: xs.map D.int).length : Int) = 2) = true then _ else _)
            rw [e]
            refine ite2 (fun c1 => ?_) (fun c1 => ?_)
            · rw [c1, Bool.true_and] at k
              refine ixD_tup (d := .str w) (atI_nat (j := 0) rfl) (eqE_str ?_)
              show (if decide (w = "push") = true then Kd (.bl true) else Kd (.bl (decide ((high : Int) > 0))))
              refine ite2 (fun c2 => ?_) (fun c2 => ?_)
              · rw [c2, Bool.true_or] at k
                exact k
              · rw [Bool.eq_false_iff.mpr c2, Bool.false_or] at k
                have e2 : decide ((high : Int) > 0) = !decide (high = 0) := by
                  by_cases c : high = 0
                  · rw [decide_eq_true c, decide_eq_false (by omega)]; rfl
                  · rw [decide_eq_false c, decide_eq_true (by omega)]; rfl
                rw [e2]
                exact k
            · rw [Bool.eq_false_iff.mpr c1, Bool.false_and] at k
              exact k
          · rw [canB_mv hc hf (Bool.eq_false_iff.mpr cw)] at k
            refine ixD_tup (d := .str w) (atI_nat (j := 0) rfl) ⟨z2, inS_w2 ?_⟩
            show (if (decide (w = "copy") || decide (w = "swap")) = true then _ else _)
            refine ite2 (fun c1 => ?_) (fun c1 => ?_)
            · rw [c1, Bool.true_and] at k
              refine eqE_int ?_
              have e : decide (((D.str w :: xs.map D.int).length : Int) = 3) = decide (xs.length = 2) := by
                rw [List.length_cons, List.length_map]
                by_cases c : xs.length = 2
                · rw [decide_eq_true c, decide_eq_true (by omega)]
                · rw [decide_eq_false c, decide_eq_false (by omega)]
              show (if decide (((D.str w :: xs.map D.int).length : Int) = 3) = true then _ else _)
              rw [e]
              refine ite2 (fun c2 => ?_) (fun c2 => ?_)
              · have c2 : xs.length = 2 := of_decide_eq_true c2
                match xs, c2, k with
                | [i, j], c2, k =>
                  rw [decide_eq_true c2, Bool.true_and] at k
                  refine ixD_tup (d := .int i) (atI_nat (j := 1) rfl) (ixD_tup (d := .int j) (atI_nat (j := 2) rfl) (eqE_int ?_))
                  have e : decide (([i, j] : List Int)[0]? = ([i, j] : List Int)[1]?) = decide (i = j) := by
                    show decide (some i = some j) = _
                    by_cases c : i = j
                    · rw [decide_eq_true c, decide_eq_true (by rw [c])]
                    · rw [decide_eq_false c, decide_eq_false (fun z => c (Option.some.inj z))]
                  rw [e] at k
                  exact k
              · rw [Bool.eq_false_iff.mpr c2, Bool.false_and] at k
                exact k
            · rw [Bool.eq_false_iff.mpr c1, Bool.false_and] at k
              exact k
        · have e : (xs.filter fun y => !inB n y).isEmpty = false := by
            cases q : (xs.filter fun y => !inB n y) with
            | nil => exact absurd q hf
            | cons _ _ => rfl
          rw [e]
          rw [canB_no hc hf] at k
          exact k
end L3
set_option pp.maxSteps 500
/-! P11b: _law_called -/
namespace L3
open PySem PySem.Spec PyProof.Rows L2
theorem atI_last {α : Type} {qs : List α} {z : α} : atI (qs ++ [z]) (-1) = some z := by
  unfold atI ixN
  rw [if_neg (by decide), List.length_append, List.length_singleton, if_pos (by omega)]
  show (qs ++ [z])[((-1 : Int) + ((qs.length + 1 : Nat) : Int)).toNat]? = some z
  rw [show ((-1 : Int) + ((qs.length + 1 : Nat) : Int)).toNat = qs.length by omega, List.getElem?_append_right (Nat.le_refl _), Nat.sub_self]
  rfl
theorem cutD_init {α : Type} {qs : List α} {z : α} : cutD (qs ++ [z]) none (some (-1)) = qs := by
  unfold cutD HT.sIx
  dsimp only
  rw [if_pos (by decide), List.length_append, List.length_singleton, List.drop_zero, Nat.sub_zero]
  rw [show ((-1 : Int) + ((qs.length + 1 : Nat) : Int)).toNat = qs.length by omega]
  exact List.take_left' rfl
theorem getLastD_app {qs : List Int} {z : Int} : (qs ++ [z]).getLastD 0 = z := by simp
def sp__law_called : Spec := fun _ ds Kd _ => ∃ (n : Nat) (F L : Int → Int) (ps : List Int) (steps : List St0) (ins : List Int) (out : Int) (kept : List Int) (given over : Int),
  ds = [.lst (wl n F), .lst (ps.map D.int), .lst (steps.map stD), houseD ins out kept, .int given, .lst (wl n L), .int over] ∧ 1 ≤ n ∧ n ≤ 10 ∧ HouseOk n ins out kept ∧ ps.length ≤ 1000 ∧ steps.length ≤ 1000 ∧ (∀ x ∈ steps, StOk0 x) ∧ (∀ x ∈ steps, StSz x) ∧
  (match runR n L ins out kept given over 0 steps ⟨F, ps, none⟩ with
    | .ok s => Kd (resD n s)
    | .error i => Kd (.tup [.str "BadMove", .int (i : Nat)]))
abbrev N__law_called : List Str := ["_law_worths_here", "_law_pile", "_law_steps", "_law_house_here", "_law_given", "_law_lost", "_law_over", "_law_seen", "_law_number", "_law_step_here", "_law_box"]
abbrev ps__law_called : List Str := ["_law_worths_here", "_law_pile", "_law_steps", "_law_house_here", "_law_given", "_law_lost", "_law_over"]
def m__law_called (sa : Option Addr) : MSt :=
  (mSeq (mSetF 0 (mCall listD (aCons (mVar 0) aNil)))
  (mSeq (mSetF 1 (mCall listD (aCons (mVar 1) aNil)))
  (mSeq (mSet 7 (mC .non))
  (mSeq (mFor (.nm 8) (mRange (aCons (mCall lenD (aCons (mVar 2) aNil)) aNil)) (mSeq (mSet 9 (m2 ixD (mVar 2) (mVar 8)))
    (mSeq (mIfS (mNot (mB (mCallU sa sp__law_can (aCons (mCall lenD (aCons (mVar 0) aNil)) (aCons (mCall lenD (aCons (mVar 1) aNil)) (aCons (mVar 9) (aCons (mVar 7) (aCons (mVar 6) aNil)))))))) (mRet (mTup (aCons (mC (.str "BadMove")) (aCons (mVar 8) aNil)))) mNext)
    (mIfS (mB (m2 (eqE false) (m2 ixD (mVar 9) (mC (.int 0))) (mC (.str "push")))) (mAppendL 1 (m2 ixD (mVar 0) (m2 ixD (mVar 9) (mC (.int 1))))) (mIfS (mB (m2 (eqE false) (m2 ixD (mVar 9) (mC (.int 0))) (mC (.str "pop")))) (mSeq (mSetIx 0 (m2 ixD (mVar 9) (mC (.int 1))) (m2 ixD (mVar 1) (mNeg (mC (.int 1)))))
        (mSetLO 1 (mSl slL (mVar 1) oNone (oSome (mNeg (mC (.int 1))))))) (mIfS (mB (m2 (eqE false) (m2 ixD (mVar 9) (mC (.int 0))) (mC (.str "call")))) (mSeq (mSetLF 7 (m2 catD (mLc (.nm 10) [10] (mIter (m2 ixD (mVar 3) (mC (.int 0)))) tYesM (m2 ixD (mVar 0) (mVar 10))) (mSlM (mSl slD (mVar 1) (oSome (m2 subD (mCall lenD (aCons (mVar 1) aNil)) (mVar 6))) oNone) oNone oNone)))
          (mSeq (mSetLO 1 (mSl slL (mVar 1) oNone (oSome (m2 subD (mCall lenD (aCons (mVar 1) aNil)) (mVar 6)))))
          (mSeq (mSetLO 0 (mLc (.nm 10) [10] (mRange (aCons (mCall lenD (aCons (mVar 0) aNil)) aNil)) tYesM (mIf (mB (m2 (inS false) (mVar 10) (m2 ixD (mVar 3) (mC (.int 2))))) (m2 ixD (mVar 0) (mVar 10)) (m2 ixD (mVar 5) (mVar 10)))))
          (mSetIx 0 (m2 ixD (mVar 3) (mC (.int 1))) (mVar 4))))) (mSetLO 0 (mCallU sa sp__law_moved (aCons (mVar 0) (aCons (mLst (aCons (mVar 9) aNil)) aNil))))))))))
  (mRet (mTup (aCons (mVar 0) (aCons (mVar 1) (aCons (mIf (mB (m2 (isND false) (mVar 7) (mC .non))) (mLst aNil) (mVar 7)) aNil)))))))))
theorem flat_wl (n : Nat) (F : Int → Int) : (wl n F).all flatD = true := by
  rw [← wlI_D]
  exact flat_ints _
theorem isCall_eq {x : St0} (h : isCall x = true) : x = some (("call" : Str), ([] : List Int)) := of_decide_eq_true h
theorem pu__law_called (sa : Option Addr) (ds : List D) (Kd : D → Prop) (KX : Exn → Prop) (hl : ds.length = 7) (h : sp__law_called sa ds Kd KX) : m__law_called sa (startS N__law_called.length ds) { nx := fun _ => false = false ∧ Kd .non, rt := Kd, ex := KX } := by
  obtain ⟨n, F, L, ps, steps, ins, out, kept, given, over, rfl, n0, n1, HO, hps, hst, hsx, hsz, k⟩ := h
  have hi4 := HO.n4
  refine fun q0 q1 => ?_
  refine ⟨by omega, by rw [List.length_map]; omega, ?_⟩
  refine forD_at (fun i env => ∃ q0 q1 F3 ps3 sn3 e8 e9 e10, env = [some (.own q0 (.lst (wl n F3))), some (.own q1 (.lst (ps3.map D.int))), some (.sh (.lst (steps.map stD))), some (.sh (houseD ins out kept)), some (.sh (.int given)), some (.sh (.lst (wl n L))), some (.sh (.int over)), some (.sh (snD sn3)), e8, e9, e10] ∧
    ps3.length ≤ 1000 + i ∧ runR n L ins out kept given over 0 steps ⟨F, ps, none⟩ = runR n L ins out kept given over i (steps.drop i) ⟨F3, ps3, sn3⟩) ⟨q0, q1, F, ps, none, _, _, _, rfl, hps, rfl⟩ ?_ ?_
  · rintro i d env nx hi ⟨q0, q1, F3, ps3, sn3, e8, e9, e10, rfl, hl3, er⟩ hn
    rw [List.getElem?_map] at hi
    have hi' : i < steps.length := by
      by_cases c : i < steps.length
      · exact c
      · rw [List.getElem?_eq_none (by rw [List.length_range, List.length_map]; omega)] at hi
        cases hi
    rw [List.getElem?_range (by rw [List.length_map]; omega)] at hi
    cases hi
    refine ⟨_, rfl, ?_⟩
    have sx := hsx _ (List.getElem_mem hi')
    have sz := hsz _ (List.getElem_mem hi')
    have edrop : steps.drop i = steps[i] :: steps.drop (i + 1) := List.drop_eq_getElem_cons hi'
    rw [edrop] at er
    refine ixD_lst (d := stD steps[i]) (atI_nat (by rw [List.getElem?_map, List.getElem?_eq_getElem hi']; rfl)) ?_
    generalize steps[i] = x0 at sx sz er
    have er : runR n L ins out kept given over 0 steps ⟨F, ps, none⟩ = if canB n ps3.length sn3.isNone over x0 then runR n L ins out kept given over (i + 1) (steps.drop (i + 1)) (stepS L ins out kept given over ⟨F3, ps3, sn3⟩ x0) else .error i := er
    refine ⟨(wl n F3).length, (ps3.map D.int).length, x0, sn3, over, rfl, sx, sz, ?_⟩
    rw [wl_len, List.length_map]
    cases hcb : canB n ps3.length sn3.isNone over x0 with
    | false =>
      rw [hcb] at er
      have er : runR n L ins out kept given over 0 steps ⟨F, ps, none⟩ = .error i := er
      rw [er] at k
      exact ⟨z2, k⟩
    | true =>
      rw [hcb, if_pos rfl] at er
      have fin : ∀ (q0 q1 : Addr) (s' : RS) (e9' e10' : Option Slot), s' = stepS L ins out kept given over ⟨F3, ps3, sn3⟩ x0 → s'.ps.length ≤ 1000 + (i + 1) → nx [some (.own q0 (.lst (wl n s'.F))), some (.own q1 (.lst (s'.ps.map D.int))), some (.sh (.lst (steps.map stD))), some (.sh (houseD ins out kept)), some (.sh (.int given)), some (.sh (.lst (wl n L))), some (.sh (.int over)), some (.sh (snD s'.sn)), some (.sh (.int (i : Nat))), e9', e10'] := fun q0 q1 s' e9' e10' es hl => hn _ ⟨q0, q1, s'.F, s'.ps, s'.sn, _, _, _, rfl, hl, by rw [er, es]⟩
      by_cases hc : isCall x0 = true
      · obtain ⟨e1, o0, o1⟩ := can_call hcb hc
        subst e1
        obtain ⟨o, rfl⟩ : ∃ o : Nat, over = (o : Int) := ⟨over.toNat, by omega⟩
        have ex := isCall_eq hc
        subst ex
        have fin := fun q0 q1 e9' e10' => fin q0 q1 (stepS L ins out kept given (o : Int) ⟨F3, ps3, none⟩ (some (("call" : Str), ([] : List Int)))) e9' e10' rfl
        unfold stepS at fin
        rw [if_pos hc] at fin
        have fin := fun q0 q1 e9' e10' => fin q0 q1 e9' e10' (by show (ps3.take _).length ≤ _; rw [List.length_take]; omega)
        refine ixD_tup (d := .str "call") (atI_nat (j := 0) rfl) (eqE_str ?_)
        refine ixD_tup (d := .str "call") (atI_nat (j := 0) rfl) (eqE_str ?_)
        refine ixD_tup (d := .str "call") (atI_nat (j := 0) rfl) (eqE_str ?_)
        have eo : ((ps3.map D.int).length : Int) - (o : Int) = ((ps3.length - o : Nat) : Int) := by rw [List.length_map]; omega
        have c1 : pickM (cutD (ps3.map D.int) (some (((ps3.map D.int).length : Int) - (o : Int))) none) none none = ((ps3.drop (ps3.length - o)).reverse).map D.int := by
          rw [eo, cutD_from, pickM_all, ← List.map_drop, ← List.map_reverse]
        have c2 : cutD (ps3.map D.int) none (some (((ps3.map D.int).length : Int) - (o : Int))) = (ps3.take (ps3.length - o)).map D.int := by
          rw [eo, cutD_to, List.map_take]
        have l1 : (pickM (cutD (ps3.map D.int) (some (((ps3.map D.int).length : Int) - (o : Int))) none) none none).length ≤ 3000 := by
          rw [c1, List.length_map, List.length_reverse, List.length_drop]; omega
        refine ixD_tup (d := tupD ins) rfl ⟨by rw [List.length_map]; omega, lcD_map D.int (fun b => D.int (F3 b)) rfl (fun b hb => ⟨_, rfl, fun Kd k => ixD_lst (wl_at F3 (HO.ib b hb).1 (HO.ib b hb).2) k⟩) ⟨sz_ok (Nat.le_trans l1 (by decide)), sz_ok (by rw [List.length_map]; exact Nat.le_trans (Nat.add_le_add (show ins.length ≤ 10 by omega) l1) (by decide)), ?_⟩⟩
        rw [c1]
        have e2 : (ins.map fun b => D.int (F3 b)) ++ ((ps3.drop (ps3.length - o)).reverse).map D.int = (ins.map F3 ++ (ps3.drop (ps3.length - o)).reverse).map D.int := by
          rw [List.map_append, List.map_map]
          rfl
        rw [e2]
        refine ⟨⟨_, rfl, flat_ints _⟩, ⟨_, rfl, ?_⟩, fun q1' => ?_⟩
        · rw [c2]
          exact flat_ints _
        rw [c2]
        have hwl := wl_len n F3
        refine ⟨by rw [hwl]; omega, by rw [hwl]; omega, by rw [List.length_map, List.length_range, hwl]; omega, lcD_map (fun i : Nat => D.int (i : Int)) (fun i : Nat => D.int (if (i : Int) ∈ kept then F3 i else L i)) rfl (fun y hy => ?_) ?_⟩
        · have hy := List.mem_range.mp hy
          rw [hwl] at hy
          have hy : y < n := by omega
          refine ⟨_, rfl, fun Kd k => ixD_tup (d := tupD kept) rfl (inS_tup (ite2 (fun c => ?_) (fun c => ?_)))⟩
          · have c : (y : Int) ∈ kept := of_decide_eq_true c
            rw [if_pos c] at k
            exact ixD_lst (wl_at F3 (by omega) (by omega)) k
          · have c : (y : Int) ∉ kept := fun z => c (decide_eq_true z)
            rw [if_neg c] at k
            exact ixD_lst (wl_at L (by omega) (by omega)) k
        · have e3 : ((List.range ((wl n F3).length : Int).toNat).map fun i : Nat => D.int (if (i : Int) ∈ kept then F3 i else L i)) = wl n fun y => if y ∈ kept then F3 y else L y := by
            rw [hwl, Int.toNat_natCast]
            rfl
          rw [e3]
          refine ⟨⟨_, rfl, flat_wl _ _⟩, fun q0' => ⟨rfl, ixD_tup (d := .int out) rfl ?_⟩⟩
          show match ixN (wl n fun y => if y ∈ kept then F3 y else L y).length out with | some j => _ | none => False
          rw [wl_ix _ HO.ob.1 HO.ob.2]
          have fin := fin q0' q1' (some (.sh (.tup [.str "call"]))) e10
          show nx _
          have e4 := wl_set (n := n) (fun y => if y ∈ kept then F3 y else L y) (v := given) HO.ob.1 HO.ob.2
          have e5 : wl n (callF F3 L kept out given) = (wl n fun y => if y ∈ kept then F3 y else L y).set out.toNat (.int given) := e4.symm
          dsimp only at fin
          rw [e5] at fin
          exact fin
      · have hcf : isCall x0 = false := Bool.eq_false_iff.mpr hc
        have hdo := can_do hcb hcf
        have fin := fun q0 q1 e9' e10' => fin q0 q1 (stepS L ins out kept given over ⟨F3, ps3, sn3⟩ x0) e9' e10' rfl
        unfold stepS at fin
        rw [if_neg hc] at fin
        have fin := fun q0 q1 e9' e10' => fin q0 q1 e9' e10' (by have := doP_len x0 F3 ps3; show (doP x0 F3 ps3).length ≤ _; omega)
        match x0, hdo, fin with
        | some (w, [x]), hdo, fin =>
          obtain ⟨x0', x1', hw⟩ := hdo
          rcases hw with rfl | ⟨rfl, hne⟩
          · refine ixD_tup (d := .str "push") (atI_nat (j := 0) rfl) (eqE_str ?_)
            refine ixD_tup (d := .int x) (atI_nat (j := 1) rfl) (ixD_lst (wl_at F3 x0' x1') ⟨rfl, sz_lt (by rw [List.length_map]; exact Nat.lt_of_le_of_lt (show ps3.length ≤ 2000 by omega) (by decide)), ?_⟩)
            have fin := fin q0 q1 (some (.sh (.tup [.str "push", .int x]))) e10
            have e1 : doP (some (("push" : Str), [x])) F3 ps3 = ps3 ++ [F3 x] := by
              show (if ("push" : Str) = "push" then ps3 ++ [F3 x] else ps3.dropLast) = _
              rw [if_pos rfl]
            have e2 : doF (some (("push" : Str), [x])) F3 ps3 = F3 := by
              show (if ("push" : Str) = "push" then F3 else setF F3 x (ps3.getLastD 0)) = _
              rw [if_pos rfl]
            dsimp only at fin
            rw [e1, e2, List.map_append] at fin
            exact fin
          · obtain ⟨qs, z, rfl⟩ : ∃ qs z, ps3 = qs ++ [z] := ⟨ps3.dropLast, ps3.getLast hne, (List.dropLast_concat_getLast hne).symm⟩
            have np : ¬ (("pop" : Str) = "push") := by decide +kernel
            refine ixD_tup (d := .str "pop") (atI_nat (j := 0) rfl) (eqE_str ?_)
            refine ixD_tup (d := .str "pop") (atI_nat (j := 0) rfl) (eqE_str ?_)
            have em : (qs ++ [z]).map D.int = qs.map D.int ++ [.int z] := by rw [List.map_append]; rfl
            refine ixD_lst (d := .int z) (by rw [em]; exact atI_last) ⟨rfl, ixD_tup (d := .int x) (atI_nat (j := 1) rfl) ?_⟩
            show match ixN (wl n F3).length x with | some j => _ | none => False
            rw [wl_ix _ x0' x1']
            have ec : cutD ((qs ++ [z]).map D.int) none (some (-1)) = qs.map D.int := by rw [em]; exact cutD_init
            refine ⟨⟨_, rfl, ?_⟩, fun q1' => ?_⟩
            · show (cutD ((qs ++ [z]).map D.int) none (some (-1))).all flatD = true
              rw [ec]
              exact flat_ints _
            have fin := fin q0 q1' (some (.sh (.tup [.str "pop", .int x]))) e10
            have e1 : doP (some (("pop" : Str), [x])) F3 (qs ++ [z]) = qs := by
              show (if ("pop" : Str) = "push" then (qs ++ [z]) ++ [F3 x] else (qs ++ [z]).dropLast) = qs
              rw [if_neg np, List.dropLast_concat]
            have e2 : doF (some (("pop" : Str), [x])) F3 (qs ++ [z]) = fun y => if y = x then z else F3 y := by
              show (if ("pop" : Str) = "push" then F3 else setF F3 x ((qs ++ [z]).getLastD 0)) = _
              rw [if_neg np, getLastD_app]
              rfl
            dsimp only at fin
            rw [e1, e2, ← wl_set F3 x0' x1'] at fin
            show nx (List.set _ 1 (some (.own q1' (.lst (cutD ((qs ++ [z]).map D.int) none (some (-1)))))))
            rw [ec]
            exact fin
        | some (w, [x, y]), hdo, fin =>
          obtain ⟨⟨x0', x1'⟩, ⟨y0', y1'⟩, hxy, hw⟩ := hdo
          rcases hw with rfl | rfl
          · refine ixD_tup (d := .str "copy") (atI_nat (j := 0) rfl) (eqE_str ?_)
            refine ixD_tup (d := .str "copy") (atI_nat (j := 0) rfl) (eqE_str ?_)
            refine ixD_tup (d := .str "copy") (atI_nat (j := 0) rfl) (eqE_str ?_)
            refine ⟨z1s, n, F3, [.cp x y], rfl, fun m hm => ?_, ⟨_, rfl, flat_wl _ _⟩, fun q0' => ?_⟩
            · rw [List.mem_singleton.mp hm]
              exact ⟨x0', x1', y0', y1'⟩
            · exact fin q0' q1 (some (.sh (.tup [.str "copy", .int x, .int y]))) e10
          · refine ixD_tup (d := .str "swap") (atI_nat (j := 0) rfl) (eqE_str ?_)
            refine ixD_tup (d := .str "swap") (atI_nat (j := 0) rfl) (eqE_str ?_)
            refine ixD_tup (d := .str "swap") (atI_nat (j := 0) rfl) (eqE_str ?_)
            refine ⟨z1s, n, F3, [.sw x y], rfl, fun m hm => ?_, ⟨_, rfl, flat_wl _ _⟩, fun q0' => ?_⟩
            · rw [List.mem_singleton.mp hm]
              exact ⟨x0', x1', y0', y1'⟩
            · exact fin q0' q1 (some (.sh (.tup [.str "swap", .int x, .int y]))) e10
        | none, hdo, _ => exact hdo.elim
        | some (w, []), hdo, _ => exact hdo.elim
        | some (w, a :: b :: c :: r), hdo, _ => exact hdo.elim
  · rintro env ⟨q0, q1, F3, ps3, sn3, e8, e9, e10, rfl, hl3, er⟩
    rw [List.length_map, List.length_range, List.length_map, show ((steps.length : Nat) : Int).toNat = steps.length by omega, List.drop_length] at er
    have er : runR n L ins out kept given over 0 steps ⟨F, ps, none⟩ = .ok ⟨F3, ps3, sn3⟩ := er
    rw [er] at k
    have k : Kd (.tup [.lst (wl n F3), .lst (ps3.map D.int), .lst ((sn3.getD []).map D.int)]) := k
    cases sn3 with
    | none => exact ⟨rfl, z0, z3, k⟩
    | some zs => exact ⟨rfl, z3, k⟩
end L3
set_option pp.maxSteps 500
/-! P10: a step, any -/
namespace L3
open PySem PySem.Spec PyProof.Rows L2
def sp__law_step : Spec := fun sa ds Kd _ => ∃ a b, sa = some a ∧ ds = [.ref a, .int b] ∧ 1 ≤ b ∧ b ≤ 10 ∧ ∀ x : St0, StOk0 x → StSz x → Kd (stD x)
abbrev N__law_step : List Str := ["_law_state", "_law_boxes_here", "_law_one", "_law_other", "_law_way", "_law_far_here", "_law_odd"]
abbrev ps__law_step : List Str := ["_law_state", "_law_boxes_here"]
def m__law_step (sa : Option Addr) : MSt :=
  (mSeq (mSet 2 (mCallU sa sp__law_drawn (aCons (mVar 0) (aCons (mVar 1) aNil))))
  (mSeq (mSet 3 (mCallU sa sp__law_drawn (aCons (mVar 0) (aCons (mVar 1) aNil))))
  (mSeq (mSet 4 (mCallU sa sp__law_drawn (aCons (mVar 0) (aCons (mC (.int 14)) aNil))))
  (mSeq (mIfS (mB (m2 (ordD pLt) (mVar 4) (mC (.int 9)))) (mRet (m2 ixD (mLst (aCons (mTup (aCons (mC (.str "push")) (aCons (mVar 2) aNil))) (aCons (mTup (aCons (mC (.str "push")) (aCons (mVar 2) aNil))) (aCons (mTup (aCons (mC (.str "pop")) (aCons (mVar 2) aNil))) aNil)))) (m2 fdivD (mVar 4) (mC (.int 3))))) mNext)
  (mSeq (mIfS (mB (m2 (ordD pLt) (mVar 4) (mC (.int 12)))) (mRet (mTup (aCons (m2 ixD (mLst (aCons (mC (.str "copy")) (aCons (mC (.str "swap")) aNil))) (m2 modD (mVar 4) (mC (.int 2)))) (aCons (mVar 2) (aCons (mVar 3) aNil))))) mNext)
  (mSeq (mSet 5 (mCallU sa sp__law_far (aCons (mVar 0) (aCons (m2 subD (mVar 1) (mC (.int 1))) aNil))))
  (mSeq (mSetF 6 (mLst (aCons (mTup aNil) (aCons (mTup (aCons (mC (.str "push")) aNil)) (aCons (mTup (aCons (mC (.str "pop")) (aCons (mVar 5) aNil))) (aCons (mTup (aCons (mC (.str "push")) (aCons (mVar 5) aNil))) (aCons (mTup (aCons (mC (.str "copy")) (aCons (mVar 2) (aCons (mVar 5) aNil)))) (aCons (mTup (aCons (mC (.str "swap")) (aCons (mVar 5) (aCons (mVar 2) aNil)))) (aCons (mTup (aCons (mC (.str "call")) (aCons (mC (.int 0)) aNil))) aNil)))))))))
  (mSeq (mAppend 6 (mTup (aCons (mC (.str "push")) (aCons (mC (.int 0)) (aCons (mC (.int 0)) aNil)))))
  (mRet (mIf (mB (m2 (eqE false) (mVar 4) (mC (.int 12)))) (mTup (aCons (mC (.str "call")) aNil)) (m2 ixD (mVar 6) (mCallU sa sp__law_drawn (aCons (mVar 0) (aCons (mC (.int 8)) aNil))))))))))))))
theorem stOk {w : Str} {xs : List Int} (h : PyData.strOk w = true) : StOk0 (some (w, xs)) := fun w' xs' e => by cases e; exact h
theorem stSz {w : Str} {xs : List Int} (h : xs.length ≤ 10) : StSz (some (w, xs)) := fun w' xs' e => by cases e; exact h
theorem ok_push : PyData.strOk "push" = true := by decide +kernel
theorem ok_pop : PyData.strOk "pop" = true := by decide +kernel
theorem ok_copy : PyData.strOk "copy" = true := by decide +kernel
theorem ok_swap : PyData.strOk "swap" = true := by decide +kernel
theorem ok_call : PyData.strOk "call" = true := by decide +kernel
theorem pu__law_step (sa : Option Addr) (ds : List D) (Kd : D → Prop) (KX : Exn → Prop) (hl : ds.length = 2) (h : sp__law_step sa ds Kd KX) : m__law_step sa (startS N__law_step.length ds) { nx := fun _ => false = false ∧ Kd .non, rt := Kd, ex := KX } := by
  obtain ⟨a, b, rfl, rfl, b0, b1, k⟩ := h
  refine dr (by omega) (by omega) fun x x0 x1 => dr (by omega) (by omega) fun y y0 y1 => dr (by decide) (by decide) fun z z0' z1 => ?_
  have kp : ∀ (w : Str) (xs : List Int), PyData.strOk w = true → xs.length ≤ 3 → Kd (.tup (.str w :: xs.map D.int)) := fun w xs hw hx => k (some (w, xs)) (stOk hw) (stSz (by omega))
  show (if decide (z < 9) = true then _ else _)
  refine ite2 (fun c => ?_) (fun c => ?_)
  · have c : z < 9 := of_decide_eq_true c
    refine ⟨z2, z2, z2, z3, ⟨by decide, by decide⟩, ?_⟩
    have hz : z / 3 = 0 ∨ z / 3 = 1 ∨ z / 3 = 2 := by omega
    show ixD _ (.int (z / 3)) Kd
    rcases hz with e | e | e
    · rw [e]; exact ixD_lst rfl (kp "push" [x] ok_push (by show 1 ≤ 3; decide))
    · rw [e]; exact ixD_lst rfl (kp "push" [x] ok_push (by show 1 ≤ 3; decide))
    · rw [e]; exact ixD_lst rfl (kp "pop" [x] ok_pop (by show 1 ≤ 3; decide))
  · have c : ¬ z < 9 := fun h => c (decide_eq_true h)
    show (if decide (z < 12) = true then _ else _)
    refine ite2 (fun c2 => ?_) (fun c2 => ?_)
    · refine ⟨z2, by decide, ?_⟩
      have hz : z % 2 = 0 ∨ z % 2 = 1 := by omega
      show ixD _ (.int (z % 2)) _
      rcases hz with e | e
      · rw [e]; exact ixD_lst rfl ⟨z3, kp "copy" [x, y] ok_copy (by show 2 ≤ 3; decide)⟩
      · rw [e]; exact ixD_lst rfl ⟨z3, kp "swap" [x, y] ok_swap (by show 2 ≤ 3; decide)⟩
    · refine ⟨a, b - 1, rfl, rfl, fun far hf => ?_⟩
      refine ⟨z0, z1s, z2, z2, z3, z3, z2, sz_ok (by show 7 ≤ 16777216; decide), fun q => ?_⟩
      refine ⟨z3, by show 7 < 16777216; decide, ?_⟩
      refine eqE_int ?_
      refine ite2 (fun c3 => ?_) (fun c3 => ?_)
      · exact ⟨z1s, kp "call" [] ok_call (by decide)⟩
      · refine dr (by decide) (by decide) fun j j0 j1 => ?_
        obtain ⟨x', h1, h2, h3⟩ : ∃ x' : St0, atI ([.tup [], .tup [.str "push"], .tup [.str "pop", .int far], .tup [.str "push", .int far], .tup [.str "copy", .int x, .int far], .tup [.str "swap", .int far, .int x], .tup [.str "call", .int 0]] ++ [.tup [.str "push", .int 0, .int 0]]) j = some (stD x') ∧ StOk0 x' ∧ StSz x' := by
          have hj : j = 0 ∨ j = 1 ∨ j = 2 ∨ j = 3 ∨ j = 4 ∨ j = 5 ∨ j = 6 ∨ j = 7 := by omega
          rcases hj with rfl | rfl | rfl | rfl | rfl | rfl | rfl | rfl
          · exact ⟨none, rfl, (fun _ _ e => by cases e), (fun _ _ e => by cases e)⟩
          · exact ⟨some ("push", []), rfl, stOk ok_push, stSz (by decide)⟩
          · exact ⟨some ("pop", [far]), rfl, stOk ok_pop, stSz (by show 1 ≤ 10; decide)⟩
          · exact ⟨some ("push", [far]), rfl, stOk ok_push, stSz (by show 1 ≤ 10; decide)⟩
          · exact ⟨some ("copy", [x, far]), rfl, stOk ok_copy, stSz (by show 2 ≤ 10; decide)⟩
          · exact ⟨some ("swap", [far, x]), rfl, stOk ok_swap, stSz (by show 2 ≤ 10; decide)⟩
          · exact ⟨some ("call", [0]), rfl, stOk ok_call, stSz (by decide)⟩
          · exact ⟨some ("push", [0, 0]), rfl, stOk ok_push, stSz (by decide)⟩
        exact ixD_lst h1 (k x' h2 h3)
end L3
set_option pp.maxSteps 400
/-! K10: steps done: the plain law -/
namespace L3
open PySem PySem.Spec PyProof.Rows L2
abbrev N_law : List Str := ["_law_script", "_law_state", "_law_turn", "_law_boxes_here", "_law_house_here", "_law_worths_here", "_law_lost", "_law_pile", "_law_steps", "_law_k", "_law_given", "_law_over", "_law_handed", "_law_due", "_law_again", "_law_told", "_law_part"]
abbrev ps_law : List Str := ["_law_script"]
def m_law_k10 (sa : Option Addr) : MSt :=
  (mSeq (mFor (.nm 2) (mRange (aCons (mC (.int 8)) aNil)) (mSeq (mSet 3 (mCallU sa sp__law_boxes (aCons (mVar 1) aNil)))
    (mSeq (mSet 4 (mCallU sa sp__law_house (aCons (mVar 1) (aCons (mVar 3) aNil))))
    (mSeq (mPar 5 6 (aCons (mCallU sa sp__law_worths (aCons (mVar 1) (aCons (mVar 3) aNil))) (aCons (mCallU sa sp__law_worths (aCons (mVar 1) (aCons (mVar 3) aNil))) aNil)))
    (mSeq (mSet 7 (mCallU sa sp__law_worths (aCons (mVar 1) (aCons (mCallU sa sp__law_drawn (aCons (mVar 1) (aCons (m2 ixD (mLst (aCons (mC (.int 4)) (aCons (mC (.int 4)) (aCons (mC (.int 4)) (aCons (mC (.int 41)) aNil))))) (mCallU sa sp__law_drawn (aCons (mVar 1) (aCons (mC (.int 4)) aNil)))) aNil))) aNil))))
    (mSeq (mSet 8 (mLc (.nm 9) [9] (mRange (aCons (mCallU sa sp__law_drawn (aCons (mVar 1) (aCons (mC (.int 17)) aNil))) aNil)) tYesM (mCallU sa sp__law_step (aCons (mVar 1) (aCons (mVar 3) aNil)))))
    (mSeq (mSet 10 (mCallU sa sp__law_drawn (aCons (mVar 1) (aCons (m2 powD (mC (.int 10)) (mC (.int 9))) aNil))))
    (mSeq (mSet 11 (m2 subD (mCallU sa sp__law_drawn (aCons (mVar 1) (aCons (mC (.int 4)) aNil))) (mCall intD (aCons (m2 (eqE false) (mCallU sa sp__law_drawn (aCons (mVar 1) (aCons (mC (.int 9)) aNil))) (mC (.int 8))) aNil))))
    (mSeq (mSet 12 (mTup (aCons (mCall listD (aCons (mVar 5) aNil)) (aCons (mCall listD (aCons (mVar 7) aNil)) (aCons (mCall listD (aCons (mVar 8) aNil)) (aCons (mCall listD (aCons (mVar 6) aNil)) aNil))))))
    (mSeq (mSet 13 (mCallU sa sp__law_called (aCons (mVar 5) (aCons (mVar 7) (aCons (mVar 8) (aCons (mVar 4) (aCons (mVar 10) (aCons (mVar 6) (aCons (mVar 11) aNil)))))))))
    (mFor (.nm 14) (mRange (aCons (mC (.int 2)) aNil)) (mKindT 15 16 (mKind3 ([] : List Str) (["BadMove"] : List Str) (mCall3 sa sp3_called (aCons (m2 ixD (mVar 12) (mC (.int 0))) (aCons (m2 ixD (mVar 12) (mC (.int 1))) (aCons (m2 ixD (mVar 12) (mC (.int 2))) (aCons (mVar 4) (aCons (mVar 10) (aCons (m2 ixD (mVar 12) (mC (.int 3))) (aCons (mVar 11) aNil))))))))) (mOr (mNot (mB (mCallU sa (sp__law_same 4) (aCons (mVar 15) (aCons (mVar 13) aNil))))) (mB (m2 (eqE true) (mVar 12) (mTup (aCons (mVar 5) (aCons (mVar 7) (aCons (mVar 8) (aCons (mVar 6) aNil)))))))) (mRet (mC (.bl false))) (mB (m2 (eqE false) (mCall lenD (aCons (mVar 15) aNil)) (mC (.int 3)))) (mAppend 16 (mC (.int 0)))))))))))))))
  (mRet (mC (.bl true))))
theorem Ds_ints {ns : List Int} (h : ns.length ≤ 100000) (k : Nat) : Ds (k + 1) (.lst (ns.map D.int)) := .lst _ _ (by rw [List.length_map]; exact h) fun d hd => by
  obtain ⟨x, _, rfl⟩ := List.mem_map.mp hd
  exact .int _ _
theorem Ds_res {n : Nat} {s : RS} (h1 : n ≤ 10) (h2 : s.ps.length ≤ 1000) (h3 : (s.sn.getD []).length ≤ 1000) : Ds 3 (resD n s) := .tup 2 _ (by show 3 ≤ 100000; decide) fun d hd => by
  rcases List.mem_cons.mp hd with e | hd
  · rw [e, ← wlI_D]
    exact Ds_ints (by rw [wlI_len]; omega) 1
  rcases List.mem_cons.mp hd with e | hd
  · rw [e]
    exact Ds_ints (by omega) 1
  · rw [List.mem_singleton.mp hd]
    exact Ds_ints (by omega) 1
/-- how long all stays -/
theorem run_len {n : Nat} {L : Int → Int} {ins : List Int} {out : Int} {kept : List Int} {given over : Int} : ∀ {xs : List St0} {i : Nat} {s s' : RS}, runR n L ins out kept given over i xs s = .ok s' → s'.ps.length ≤ s.ps.length + xs.length ∧ ((s'.sn.getD []).length ≤ (s.sn.getD []).length ∨ (s'.sn.getD []).length ≤ ins.length + (s.ps.length + xs.length))
  | [], i, s, s', h => by
    have h : Except.ok s = Except.ok s' := h
    cases h
    exact ⟨Nat.le_refl _, .inl (Nat.le_refl _)⟩
  | x :: xs, i, s, s', h => by
    have h : (if canB n s.ps.length s.sn.isNone over x then runR n L ins out kept given over (i + 1) xs (stepS L ins out kept given over s x) else .error i) = .ok s' := h
    by_cases c : canB n s.ps.length s.sn.isNone over x = true
    · rw [if_pos c] at h
      obtain ⟨h1, h2⟩ := run_len h
      have e : (stepS L ins out kept given over s x).ps.length ≤ s.ps.length + 1 ∧ (((stepS L ins out kept given over s x).sn.getD []).length = (s.sn.getD []).length ∨ ((stepS L ins out kept given over s x).sn.getD []).length ≤ ins.length + s.ps.length) := by
        unfold stepS
        by_cases k : isCall x = true
        · rw [if_pos k]
          refine ⟨by show (s.ps.take _).length ≤ _; rw [List.length_take]; omega, .inr ?_⟩
          show (ins.map s.F ++ (s.ps.drop _).reverse).length ≤ _
          rw [List.length_append, List.length_map, List.length_reverse, List.length_drop]
          omega
        · rw [if_neg k]
          exact ⟨doP_len x s.F s.ps, .inl rfl⟩
      rw [List.length_cons]
      refine ⟨by omega, ?_⟩
      rcases h2 with h2 | h2
      · rcases e.2 with e2 | e2
        · exact .inl (by omega)
        · exact .inr (by omega)
      · exact .inr (by omega)
    · rw [if_neg c] at h
      cases h
theorem eqE_sameT {n : Nat} {d : D} {K : D → Prop} (hd : Dk n d) (hn : n ≤ 64) (k : K (.bl false)) : eqE true d d K := eqE_refl hd hn k
set_option maxHeartbeats 2000000 in
theorem pu_law_k10 (p a : Addr) : m_law_k10 (some p) (some (.sh (.ref a)) :: some (.sh (.ref p)) :: List.replicate (N_law.length - 2) none) { nx := fun _ => False, rt := fun d => d = .bl true } := by
  refine ⟨by omega, by omega, forD_all (fun env => ∃ e2 e3 e4 e5 e6 e7 e8 e9 e10 e11 e12 e13 e14 e15 e16, env = [some (.sh (.ref a)), some (.sh (.ref p)), e2, e3, e4, e5, e6, e7, e8, e9, e10, e11, e12, e13, e14, e15, e16]) ⟨_, _, _, _, _, _, _, _, _, _, _, _, _, _, _, rfl⟩ ?_ ?_⟩
  · rintro d hd env nx ⟨e2, e3, e4, e5, e6, e7, e8, e9, e10, e11, e12, e13, e14, e15, e16, rfl⟩ hn
    refine ⟨_, rfl, p, rfl, rfl, fun b b0 b1 => ⟨p, b, rfl, rfl, b0, b1, fun ins out kept HO => ?_⟩⟩
    refine ⟨p, b, rfl, rfl, by omega, by omega, fun F => ⟨p, b, rfl, rfl, by omega, by omega, fun LL => ?_⟩⟩
    obtain ⟨n, rfl⟩ : ∃ n : Nat, b = (n : Int) := ⟨b.toNat, by omega⟩
    have hi4 := HO.n4
    refine ⟨sz_ok (by show 4 ≤ 16777216; decide), dr (by decide) (by decide) fun i i0 i1 => ?_⟩
    obtain ⟨v, hv, v0, v1⟩ : ∃ v : Int, atI [D.int 4, D.int 4, D.int 4, D.int 41] i = some (.int v) ∧ 0 < v ∧ v ≤ 41 := by
      have hi : i = 0 ∨ i = 1 ∨ i = 2 ∨ i = 3 := by omega
      rcases hi with rfl | rfl | rfl | rfl
      · exact ⟨4, rfl, by omega, by omega⟩
      · exact ⟨4, rfl, by omega, by omega⟩
      · exact ⟨4, rfl, by omega, by omega⟩
      · exact ⟨41, rfl, by omega, by omega⟩
    refine ixD_lst hv (dr v0 (Int.lt_of_le_of_lt v1 (by decide)) fun j j0 j1 => ⟨p, j, rfl, rfl, j0, by omega, fun P => ?_⟩)
    obtain ⟨ps, hps, eps⟩ : ∃ ps : List Int, ps.length ≤ 41 ∧ wl j.toNat P = ps.map D.int := ⟨wlI j.toNat P, by rw [wlI_len]; omega, (wlI_D _ _).symm⟩
    rw [eps]
    refine dr (by decide) (by decide) fun m m0 m1 => ?_
    refine ⟨by omega, by omega, by rw [List.length_map, List.length_range]; omega, lcD_any (fun y => ∃ x : St0, y = stD x ∧ StOk0 x ∧ StSz x) (fun d hd K hK => ?_) fun r hr hp => ?_⟩
    · obtain ⟨j, _, rfl⟩ := List.mem_map.mp hd
      exact ⟨_, rfl, p, (n : Int), rfl, rfl, b0, b1, fun x h1 h2 => hK _ ⟨x, rfl, h1, h2⟩⟩
    obtain ⟨st, est, hst⟩ : ∃ st : List St0, r = st.map stD ∧ ∀ x ∈ st, StOk0 x ∧ StSz x := by
      clear hr
      induction r with
      | nil => exact ⟨[], rfl, fun _ h => nomatch h⟩
      | cons y r ih =>
        obtain ⟨x, e, h1, h2⟩ := hp y List.mem_cons_self
        obtain ⟨st, e2, h⟩ := ih fun z hz => hp z (List.mem_cons_of_mem _ hz)
        refine ⟨x :: st, by rw [e, e2]; rfl, fun z hz => ?_⟩
        rcases List.mem_cons.mp hz with e | e
        · rw [e]; exact ⟨h1, h2⟩
        · exact h z e
    have hlen : st.length ≤ 16 := by
      rw [est, List.length_map, List.length_map, List.length_range] at hr
      omega
    subst est
    refine ⟨⟨by decide, by decide, by decide⟩, dr (by decide) (by decide) fun given g0 g1 => ?_⟩
    have hT : Dk 4 (.tup [.lst (wl n F), .lst (ps.map D.int), .lst (st.map stD), .lst (wl n LL)]) := .tup _ _ fun d hd => by
      simp only [List.mem_cons, List.mem_nil_iff, or_false] at hd
      rcases hd with rfl | rfl | rfl | rfl
      · exact wl_dk _ 2 _
      · exact Dk_intsL _ 2
      · refine .lst _ _ fun e he => ?_
        obtain ⟨x, hx, rfl⟩ := List.mem_map.mp he
        exact stD_dk (hst x hx).1 1
      · exact wl_dk _ 2 _
    have rest : ∀ (over : Int) (e2 e9 e13 e14 e15 e16 : Option Slot), mSeq (mSet 13 (mCallU (some p) sp__law_called (aCons (mVar 5) (aCons (mVar 7) (aCons (mVar 8) (aCons (mVar 4) (aCons (mVar 10) (aCons (mVar 6) (aCons (mVar 11) aNil)))))))))
        (mFor (.nm 14) (mRange (aCons (mC (.int 2)) aNil)) (mKindT 15 16 (mKind3 ([] : List Str) (["BadMove"] : List Str) (mCall3 (some p) sp3_called (aCons (m2 ixD (mVar 12) (mC (.int 0))) (aCons (m2 ixD (mVar 12) (mC (.int 1))) (aCons (m2 ixD (mVar 12) (mC (.int 2))) (aCons (mVar 4) (aCons (mVar 10) (aCons (m2 ixD (mVar 12) (mC (.int 3))) (aCons (mVar 11) aNil))))))))) (mOr (mNot (mB (mCallU (some p) (sp__law_same 4) (aCons (mVar 15) (aCons (mVar 13) aNil))))) (mB (m2 (eqE true) (mVar 12) (mTup (aCons (mVar 5) (aCons (mVar 7) (aCons (mVar 8) (aCons (mVar 6) aNil)))))))) (mRet (mC (.bl false))) (mB (m2 (eqE false) (mCall lenD (aCons (mVar 15) aNil)) (mC (.int 3)))) (mAppend 16 (mC (.int 0)))))
        [some (.sh (.ref a)), some (.sh (.ref p)), e2, some (.sh (.int (n : Int))), some (.sh (houseD ins out kept)), some (.sh (.lst (wl n F))), some (.sh (.lst (wl n LL))), some (.sh (.lst (ps.map D.int))), some (.sh (.lst (st.map stD))), e9, some (.sh (.int given)), some (.sh (.int over)), some (.sh (.tup [.lst (wl n F), .lst (ps.map D.int), .lst (st.map stD), .lst (wl n LL)])), e13, e14, e15, e16] { nx := nx, ct := nx, bk := fun env' => mRet (mC (.bl true)) env' { nx := fun _ => False, rt := fun d => d = .bl true }, rt := fun d => d = .bl true } := by
      intro over e2 e9 e13 e14 e15 e16
      refine ⟨n, F, LL, ps, st, ins, out, kept, given, over, rfl, by omega, by omega, HO, by omega, by omega, fun x hx => (hst x hx).1, fun x hx => (hst x hx).2, ?_⟩
      cases hrun : runR n LL ins out kept given over 0 st ⟨F, ps, none⟩ with
      | error i =>
        refine ⟨by decide, by decide, forD_all (fun env => ∃ e2 e9 e14 e15 e16, env = [some (.sh (.ref a)), some (.sh (.ref p)), e2, some (.sh (.int (n : Int))), some (.sh (houseD ins out kept)), some (.sh (.lst (wl n F))), some (.sh (.lst (wl n LL))), some (.sh (.lst (ps.map D.int))), some (.sh (.lst (st.map stD))), e9, some (.sh (.int given)), some (.sh (.int over)), some (.sh (.tup [.lst (wl n F), .lst (ps.map D.int), .lst (st.map stD), .lst (wl n LL)])), some (.sh (.tup [.str "BadMove", .int (i : Nat)])), e14, e15, e16]) ⟨_, _, _, _, _, rfl⟩ ?_ ?_⟩
        · rintro d hd env nx2 ⟨e2, e9, e14, e15, e16, rfl⟩ hn2
          refine ⟨_, rfl, ?_⟩
          refine ixD_tup (d := .lst (wl n F)) rfl (ixD_tup (d := .lst (ps.map D.int)) rfl (ixD_tup (d := .lst (st.map stD)) rfl (ixD_tup (d := .lst (wl n LL)) rfl ?_)))
          refine ⟨n, F, LL, ps, st, ins, out, kept, given, over, rfl, by omega, by omega, HO, by omega, by omega, fun x hx => (hst x hx).1, ?_⟩
          rw [hrun]
          refine ⟨by simp, ?_⟩
          refine ⟨by decide, _, 3, rfl, rfl, .tup 2 _ (by show 2 ≤ 100000; decide) (fun d hd => ?_), ?_⟩
          · simp only [List.mem_cons, List.mem_nil_iff, or_false] at hd
            rcases hd with rfl | rfl
            · exact .str _ _ (by decide +kernel)
            · exact .int _ _
          refine ⟨sz_ok (by show 4 ≤ 16777216; decide), eqE_sameT hT (by decide) ?_⟩
          exact eqE_int ⟨rfl, hn2 _ ⟨_, _, _, _, _, rfl⟩⟩
        · rintro env ⟨e2, e9, e14, e15, e16, rfl⟩
          exact hn _ ⟨_, _, _, _, _, _, _, _, _, _, _, _, _, _, _, rfl⟩
      | ok s =>
        obtain ⟨h1, h2⟩ := run_len hrun
        have h1 : s.ps.length ≤ ps.length + st.length := h1
        have h2 : (s.sn.getD []).length ≤ 0 ∨ (s.sn.getD []).length ≤ ins.length + (ps.length + st.length) := h2
        have h3 : (s.sn.getD []).length ≤ 100 := by omega
        have hres : Ds 3 (resD n s) := Ds_res (by omega) (by omega) (by omega)
        refine ⟨by decide, by decide, forD_all (fun env => ∃ e2 e9 e14 e15 e16, env = [some (.sh (.ref a)), some (.sh (.ref p)), e2, some (.sh (.int (n : Int))), some (.sh (houseD ins out kept)), some (.sh (.lst (wl n F))), some (.sh (.lst (wl n LL))), some (.sh (.lst (ps.map D.int))), some (.sh (.lst (st.map stD))), e9, some (.sh (.int given)), some (.sh (.int over)), some (.sh (.tup [.lst (wl n F), .lst (ps.map D.int), .lst (st.map stD), .lst (wl n LL)])), some (.sh (resD n s)), e14, e15, e16]) ⟨_, _, _, _, _, rfl⟩ ?_ ?_⟩
        · rintro d hd env nx2 ⟨e2, e9, e14, e15, e16, rfl⟩ hn2
          refine ⟨_, rfl, ?_⟩
          refine ixD_tup (d := .lst (wl n F)) rfl (ixD_tup (d := .lst (ps.map D.int)) rfl (ixD_tup (d := .lst (st.map stD)) rfl (ixD_tup (d := .lst (wl n LL)) rfl ?_)))
          refine ⟨n, F, LL, ps, st, ins, out, kept, given, over, rfl, by omega, by omega, HO, by omega, by omega, fun x hx => (hst x hx).1, ?_⟩
          rw [hrun]
          refine ⟨by decide, resD n s, 3, rfl, rfl, hres, ?_⟩
          refine ⟨sz_ok (by show 4 ≤ 16777216; decide), eqE_sameT hT (by decide) ?_⟩
          exact eqE_int ⟨rfl, fun p1 => ⟨sz_lt (by rw [wl_len]; omega), fun p2 => ⟨sz_lt (by rw [List.length_map]; omega), fun p3 => ⟨sz_lt (by rw [List.length_map]; omega), hn2 _ ⟨_, _, _, _, _, rfl⟩⟩⟩⟩⟩
        · rintro env ⟨e2, e9, e14, e15, e16, rfl⟩
          exact hn _ ⟨_, _, _, _, _, _, _, _, _, _, _, _, _, _, _, rfl⟩
    refine dr (by decide) (by decide) fun u u0 u1 => dr (by decide) (by decide) fun w w0 w1 => eqE_int ?_
    refine ⟨sz_ok (by show 4 ≤ 16777216; decide), ?_⟩
    exact rest _ _ _ _ _ _ _
  · rintro env ⟨e2, e3, e4, e5, e6, e7, e8, e9, e10, e11, e12, e13, e14, e15, e16, rfl⟩
    exact rfl
end L3
namespace L3
open PySem PySem.Spec PyProof.Rows L2
def topS (i : Nat) : Stmt := PySem.Challenge.pw_movesatonce_k10_steps_done.main.body.getD i (.Pass ⟨0, 0, 0, 0⟩)
/-! ### _law_kind -/
abbrev s__law_kind : Stmt := topS 27
abbrev ps__law_kind : List Str := ["_law_work"]
theorem sc__law_kind : FnScope N__law_kind ps__law_kind (defScope s__law_kind) := ⟨rfl, rfl, rfl, by decide +kernel, rfl, by decide +kernel, by decide +kernel⟩
/-- the clause of a Try with one -/
def suiteOf (st : Stmt) : List Stmt := match st with
  | .Try _ [.ExceptHandler _ _ b _] _ _ _ => b
  | _ => []
def tryOf (st : Stmt) : List Stmt := match st with
  | .Try b _ _ _ _ => b
  | _ => []
theorem der_kind {P : Program} {w0 : World} {K : PySem.W.Frag} {mg : Str → Option Value} {base : Heap} (F : Free mg) (zVE : mg "ValueError" = none) {w : Str} {D : Addr} (KK : Kinds K mg D w) {g : Addr} {cdg : Value} {a : Addr} {oe : Obj} {pn : List (Addr × Obj)} (hz : Zc (.ref D) none oe) (hf : ∃ vs, oe.data = .fields vs)
    (C : C3) (hC : C.K = K) (B : Hp) (A : Around) (outer : List Env) (s : Shared) (H : Hp) (hun : (A.deeper (envOfC "_law_kind" (defScope s__law_kind) s.heap.objs.size g cdg)).units + 64 < cLine) :
    MSs ((cxOf C8.CX0 P w0 K mg base N__law_kind "_law_kind" (defScope s__law_kind) g cdg A outer s H C8.E0).nox.suite a ((a, oe) :: pn)) C E0 false B (suiteOf ((defBody s__law_kind).head!)) (m__law_kind a (decide (("BadLead" : Str) = w)) (decide (("BadSpare" : Str) = w)) (decide (("BadMove" : Str) = w)) (decide (("NoWay" : Str) = w)) (decide (("BadWord" : Str) = w)) (decide (("BadHouse" : Str) = w)) (decide (("BadCall" : Str) = w)) (decide (("BadText" : Str) = w))) := by
  subst hC
  obtain ⟨A_BadLead, g_BadLead, k_BadLead⟩ := KK.kd "BadLead" (by simp)
  obtain ⟨A_BadSpare, g_BadSpare, k_BadSpare⟩ := KK.kd "BadSpare" (by simp)
  obtain ⟨A_BadMove, g_BadMove, k_BadMove⟩ := KK.kd "BadMove" (by simp)
  obtain ⟨A_NoWay, g_NoWay, k_NoWay⟩ := KK.kd "NoWay" (by simp)
  obtain ⟨A_BadWord, g_BadWord, k_BadWord⟩ := KK.kd "BadWord" (by simp)
  obtain ⟨A_BadHouse, g_BadHouse, k_BadHouse⟩ := KK.kd "BadHouse" (by simp)
  obtain ⟨A_BadCall, g_BadCall, k_BadCall⟩ := KK.kd "BadCall" (by simp)
  obtain ⟨A_BadText, g_BadText, k_BadText⟩ := KK.kd "BadText" (by simp)
  exact
  (mss_cons (ms_set sc__law_kind.nd (i := 2) rfl (by first | exact Or.inl rfl | exact Or.inr rfl) (MF.me (mf_lst (ma_cons (me_isE 1 F rfl KK.ex hz hf rfl (me_var 1) rfl g_BadLead k_BadLead) (ma_cons (me_isE 1 F rfl KK.ex hz hf rfl (me_var 1) rfl g_BadSpare k_BadSpare) (ma_cons (me_isE 1 F rfl KK.ex hz hf rfl (me_var 1) rfl g_BadMove k_BadMove) (ma_cons (me_isE 1 F rfl KK.ex hz hf rfl (me_var 1) rfl g_NoWay k_NoWay) ma_nil)))))))
  (mss_cons (ms_setF sc__law_kind.nd (i := 2) rfl (by first | exact Or.inl rfl | exact Or.inr rfl) (mf_cat (me_var 2) (MF.me (mf_lst (ma_cons (me_isE 1 F rfl KK.ex hz hf rfl (me_var 1) rfl g_BadWord k_BadWord) (ma_cons (me_isE 1 F rfl KK.ex hz hf rfl (me_var 1) rfl g_BadHouse k_BadHouse) (ma_cons (me_isE 1 F rfl KK.ex hz hf rfl (me_var 1) rfl g_BadCall k_BadCall) ma_nil)))))))
  (mss_cons (ms_append 2 (h := ps_expr (pe_bm PySem.F.plainAttrs_list PySem.F.slot_list_append PySem.F.type_list_append mt_append (pv 2) (pa_cons (me_isE 1 F rfl KK.ex hz hf rfl (me_var 1) rfl g_BadText k_BadText) pa_nil))))
  (mss_cons (ms_set sc__law_kind.nd (i := 3) rfl (by first | exact Or.inl rfl | exact Or.inr rfl) (MF.me (mf_lst (ma_cons me_str (ma_cons me_str (ma_cons me_str (ma_cons me_str (ma_cons me_str (ma_cons me_str (ma_cons me_str (ma_cons me_str ma_nil)))))))))))
  (mss_cons (ms_if (mt_w (mw_or (mt_ne rfl hun (me_count rfl (pe_bm PySem.F.plainAttrs_list PySem.F.slot_list_count PySem.F.type_list_count mt_countF (me_var 2) (pa_cons me_bl pa_nil))) me_int) (mw_or1 (mt_not (mt_val (me_isET (T := "ValueError") 1 F rfl KK.ex hz hf rfl (me_var 1) rfl zVE (by decide +kernel) KK.ve)))))) (mss_one (ms_ret me_str)) mss_nil)
  (mss_cons (ms_setL sc__law_kind.nd (i := 4) rfl (by first | exact Or.inl rfl | exact Or.inr rfl) (me_ix rfl (me_var 3) (me_index rfl (pe_bm PySem.F.plainAttrs_list PySem.F.slot_list_index PySem.F.type_list_index mt_index (me_var 2) (pa_cons me_bl pa_nil)))))
  (mss_cons (ms_if (mt_eq rfl hun (me_var 4) me_str) (mss_one (ms_ret (me_tup (ma_cons (me_var 4) (ma_cons me_no ma_nil))))) mss_nil)
  (mss_one (ms_ret (me_if (mt_eq rfl hun (me_var 4) me_str) (me_tup (ma_cons (me_var 4) (ma_cons me_no ma_nil))) (me_var 4)))))))))))
theorem der_kindM {P : Program} {w0 : World} {K : PySem.W.Frag} {mg : Str → Option Value} {base : Heap} (F : Free mg) (zVE : mg "ValueError" = none) {D : Addr} (KK : Kinds K mg D "BadMove") {dd : Addr} {n : Int} (XF : XfC K D) (hno : PySem.W.findIn K (.ref D) (fieldOf "BadMove") = some none) {g : Addr} {cdg : Value} {a : Addr} {oe : Obj} {pn : List (Addr × Obj)} (hz : Zc (.ref D) (some dd) oe) (hf : ∃ vs, oe.data = .fields vs)
    (C : C3) (hC : C.K = K) (hx : (dd, HO.xd [(fieldOf "BadMove", V.int n)]) ∈ C.fix) (B : Hp) (A : Around) (outer : List Env) (s : Shared) (H : Hp) (hun : (A.deeper (envOfC "_law_kind" (defScope s__law_kind) s.heap.objs.size g cdg)).units + 64 < cLine) :
    MSs ((cxOf C8.CX0 P w0 K mg base N__law_kind "_law_kind" (defScope s__law_kind) g cdg A outer s H C8.E0).nox.suite a ((a, oe) :: pn)) C E0 false B (suiteOf ((defBody s__law_kind).head!)) (m__law_kindM a n (decide (("BadLead" : Str) = "BadMove")) (decide (("BadSpare" : Str) = "BadMove")) (decide (("BadMove" : Str) = "BadMove")) (decide (("NoWay" : Str) = "BadMove")) (decide (("BadWord" : Str) = "BadMove")) (decide (("BadHouse" : Str) = "BadMove")) (decide (("BadCall" : Str) = "BadMove")) (decide (("BadText" : Str) = "BadMove"))) := by
  subst hC
  rw [show fieldOf "BadMove" = "number" by decide +kernel] at hno hx
  obtain ⟨A_BadLead, g_BadLead, k_BadLead⟩ := KK.kd "BadLead" (by simp)
  obtain ⟨A_BadSpare, g_BadSpare, k_BadSpare⟩ := KK.kd "BadSpare" (by simp)
  obtain ⟨A_BadMove, g_BadMove, k_BadMove⟩ := KK.kd "BadMove" (by simp)
  obtain ⟨A_NoWay, g_NoWay, k_NoWay⟩ := KK.kd "NoWay" (by simp)
  obtain ⟨A_BadWord, g_BadWord, k_BadWord⟩ := KK.kd "BadWord" (by simp)
  obtain ⟨A_BadHouse, g_BadHouse, k_BadHouse⟩ := KK.kd "BadHouse" (by simp)
  obtain ⟨A_BadCall, g_BadCall, k_BadCall⟩ := KK.kd "BadCall" (by simp)
  obtain ⟨A_BadText, g_BadText, k_BadText⟩ := KK.kd "BadText" (by simp)
  exact
  (mss_cons (ms_set sc__law_kind.nd (i := 2) rfl (by first | exact Or.inl rfl | exact Or.inr rfl) (MF.me (mf_lst (ma_cons (me_isED 1 F rfl KK.ex hz hf hx rfl (me_var 1) rfl g_BadLead k_BadLead) (ma_cons (me_isED 1 F rfl KK.ex hz hf hx rfl (me_var 1) rfl g_BadSpare k_BadSpare) (ma_cons (me_isED 1 F rfl KK.ex hz hf hx rfl (me_var 1) rfl g_BadMove k_BadMove) (ma_cons (me_isED 1 F rfl KK.ex hz hf hx rfl (me_var 1) rfl g_NoWay k_NoWay) ma_nil)))))))
  (mss_cons (ms_setF sc__law_kind.nd (i := 2) rfl (by first | exact Or.inl rfl | exact Or.inr rfl) (mf_cat (me_var 2) (MF.me (mf_lst (ma_cons (me_isED 1 F rfl KK.ex hz hf hx rfl (me_var 1) rfl g_BadWord k_BadWord) (ma_cons (me_isED 1 F rfl KK.ex hz hf hx rfl (me_var 1) rfl g_BadHouse k_BadHouse) (ma_cons (me_isED 1 F rfl KK.ex hz hf hx rfl (me_var 1) rfl g_BadCall k_BadCall) ma_nil)))))))
  (mss_cons (ms_append 2 (h := ps_expr (pe_bm PySem.F.plainAttrs_list PySem.F.slot_list_append PySem.F.type_list_append mt_append (pv 2) (pa_cons (me_isED 1 F rfl KK.ex hz hf hx rfl (me_var 1) rfl g_BadText k_BadText) pa_nil))))
  (mss_cons (ms_set sc__law_kind.nd (i := 3) rfl (by first | exact Or.inl rfl | exact Or.inr rfl) (MF.me (mf_lst (ma_cons me_str (ma_cons me_str (ma_cons me_str (ma_cons me_str (ma_cons me_str (ma_cons me_str (ma_cons me_str (ma_cons me_str ma_nil)))))))))))
  (mss_cons (ms_if (mt_w (mw_or (mt_ne rfl hun (me_count rfl (pe_bm PySem.F.plainAttrs_list PySem.F.slot_list_count PySem.F.type_list_count mt_countF (me_var 2) (pa_cons me_bl pa_nil))) me_int) (mw_or1 (mt_not (mt_val (me_isEDT (T := "ValueError") 1 F rfl KK.ex hz hf hx rfl (me_var 1) rfl zVE (by decide +kernel) KK.ve)))))) (mss_one (ms_ret me_str)) mss_nil)
  (mss_cons (ms_setL sc__law_kind.nd (i := 4) rfl (by first | exact Or.inl rfl | exact Or.inr rfl) (me_ix rfl (me_var 3) (me_index rfl (pe_bm PySem.F.plainAttrs_list PySem.F.slot_list_index PySem.F.type_list_index mt_index (me_var 2) (pa_cons me_bl pa_nil)))))
  (mss_cons (ms_if (mt_eq rfl hun (me_var 4) me_str) (mss_one (ms_ret (me_tup (ma_cons (me_var 4) (ma_cons (me_fldE 1 XF hno hz hf hx (me_var 1)) ma_nil))))) mss_nil)
  (mss_one (ms_ret (me_if (mt_eq rfl hun (me_var 4) me_str) (me_tup (ma_cons (me_var 4) (ma_cons me_no ma_nil))) (me_var 4)))))))))))
theorem der_kindT {P : Program} {w0 : World} {K : PySem.W.Frag} {mg : Str → Option Value} {base : Heap} (F : Free mg) (zVE : mg "ValueError" = none) {D : Addr} (KK : Kinds K mg D "BadText") {dd : Addr} {n : Int} (XF : XfC K D) (hno : PySem.W.findIn K (.ref D) (fieldOf "BadText") = some none) {g : Addr} {cdg : Value} {a : Addr} {oe : Obj} {pn : List (Addr × Obj)} (hz : Zc (.ref D) (some dd) oe) (hf : ∃ vs, oe.data = .fields vs)
    (C : C3) (hC : C.K = K) (hx : (dd, HO.xd [(fieldOf "BadText", V.int n)]) ∈ C.fix) (B : Hp) (A : Around) (outer : List Env) (s : Shared) (H : Hp) (hun : (A.deeper (envOfC "_law_kind" (defScope s__law_kind) s.heap.objs.size g cdg)).units + 64 < cLine) :
    MSs ((cxOf C8.CX0 P w0 K mg base N__law_kind "_law_kind" (defScope s__law_kind) g cdg A outer s H C8.E0).nox.suite a ((a, oe) :: pn)) C E0 false B (suiteOf ((defBody s__law_kind).head!)) (m__law_kindT a n (decide (("BadLead" : Str) = "BadText")) (decide (("BadSpare" : Str) = "BadText")) (decide (("BadMove" : Str) = "BadText")) (decide (("NoWay" : Str) = "BadText")) (decide (("BadWord" : Str) = "BadText")) (decide (("BadHouse" : Str) = "BadText")) (decide (("BadCall" : Str) = "BadText")) (decide (("BadText" : Str) = "BadText"))) := by
  subst hC
  rw [show fieldOf "BadText" = "place" by decide +kernel] at hno hx
  obtain ⟨A_BadLead, g_BadLead, k_BadLead⟩ := KK.kd "BadLead" (by simp)
  obtain ⟨A_BadSpare, g_BadSpare, k_BadSpare⟩ := KK.kd "BadSpare" (by simp)
  obtain ⟨A_BadMove, g_BadMove, k_BadMove⟩ := KK.kd "BadMove" (by simp)
  obtain ⟨A_NoWay, g_NoWay, k_NoWay⟩ := KK.kd "NoWay" (by simp)
  obtain ⟨A_BadWord, g_BadWord, k_BadWord⟩ := KK.kd "BadWord" (by simp)
  obtain ⟨A_BadHouse, g_BadHouse, k_BadHouse⟩ := KK.kd "BadHouse" (by simp)
  obtain ⟨A_BadCall, g_BadCall, k_BadCall⟩ := KK.kd "BadCall" (by simp)
  obtain ⟨A_BadText, g_BadText, k_BadText⟩ := KK.kd "BadText" (by simp)
  exact
  (mss_cons (ms_set sc__law_kind.nd (i := 2) rfl (by first | exact Or.inl rfl | exact Or.inr rfl) (MF.me (mf_lst (ma_cons (me_isED 1 F rfl KK.ex hz hf hx rfl (me_var 1) rfl g_BadLead k_BadLead) (ma_cons (me_isED 1 F rfl KK.ex hz hf hx rfl (me_var 1) rfl g_BadSpare k_BadSpare) (ma_cons (me_isED 1 F rfl KK.ex hz hf hx rfl (me_var 1) rfl g_BadMove k_BadMove) (ma_cons (me_isED 1 F rfl KK.ex hz hf hx rfl (me_var 1) rfl g_NoWay k_NoWay) ma_nil)))))))
  (mss_cons (ms_setF sc__law_kind.nd (i := 2) rfl (by first | exact Or.inl rfl | exact Or.inr rfl) (mf_cat (me_var 2) (MF.me (mf_lst (ma_cons (me_isED 1 F rfl KK.ex hz hf hx rfl (me_var 1) rfl g_BadWord k_BadWord) (ma_cons (me_isED 1 F rfl KK.ex hz hf hx rfl (me_var 1) rfl g_BadHouse k_BadHouse) (ma_cons (me_isED 1 F rfl KK.ex hz hf hx rfl (me_var 1) rfl g_BadCall k_BadCall) ma_nil)))))))
  (mss_cons (ms_append 2 (h := ps_expr (pe_bm PySem.F.plainAttrs_list PySem.F.slot_list_append PySem.F.type_list_append mt_append (pv 2) (pa_cons (me_isED 1 F rfl KK.ex hz hf hx rfl (me_var 1) rfl g_BadText k_BadText) pa_nil))))
  (mss_cons (ms_set sc__law_kind.nd (i := 3) rfl (by first | exact Or.inl rfl | exact Or.inr rfl) (MF.me (mf_lst (ma_cons me_str (ma_cons me_str (ma_cons me_str (ma_cons me_str (ma_cons me_str (ma_cons me_str (ma_cons me_str (ma_cons me_str ma_nil)))))))))))
  (mss_cons (ms_if (mt_w (mw_or (mt_ne rfl hun (me_count rfl (pe_bm PySem.F.plainAttrs_list PySem.F.slot_list_count PySem.F.type_list_count mt_countF (me_var 2) (pa_cons me_bl pa_nil))) me_int) (mw_or1 (mt_not (mt_val (me_isEDT (T := "ValueError") 1 F rfl KK.ex hz hf hx rfl (me_var 1) rfl zVE (by decide +kernel) KK.ve)))))) (mss_one (ms_ret me_str)) mss_nil)
  (mss_cons (ms_setL sc__law_kind.nd (i := 4) rfl (by first | exact Or.inl rfl | exact Or.inr rfl) (me_ix rfl (me_var 3) (me_index rfl (pe_bm PySem.F.plainAttrs_list PySem.F.slot_list_index PySem.F.type_list_index mt_index (me_var 2) (pa_cons me_bl pa_nil)))))
  (mss_cons (ms_if (mt_eq rfl hun (me_var 4) me_str) (mss_one (ms_ret (me_tup (ma_cons (me_var 4) (ma_cons me_no ma_nil))))) mss_nil)
  (mss_one (ms_ret (me_if (mt_eq rfl hun (me_var 4) me_str) (me_tup (ma_cons (me_var 4) (ma_cons (me_fldE 1 XF hno hz hf hx (me_var 1)) ma_nil))) (me_var 4)))))))))))
theorem gives_kind {X : Cx} {C : C3} {ws : List Str} (hK : X.K = C.K) (F : Free X.mg) (zVE : X.mg "ValueError" = none) (gM : ∃ A, X.mg "MoveError" = some (.ref A)) {g : Addr} {cdg : Value} {q : Str} (hun : ∀ s : Shared, (X.A.deeper (envOfC "_law_kind" (defScope s__law_kind) s.heap.objs.size g cdg)).units + 64 < cLine) (hw : ∀ w ∈ ws, w ∈ plainW) :
    LamX.GivesTo X N__law_kind "_law_kind" (defScope s__law_kind) g cdg (defBody s__law_kind) "_law_work" q (TTk C X.mg ws) := by
  obtain ⟨M, gM⟩ := gM
  intro f c' s H Q tl act hc h
  refine ⟨_, pss_one (ps_try_as (X := (cxOf C8.CX0 X.prog X.w X.K X.mg X.base N__law_kind "_law_kind" (defScope s__law_kind) g cdg X.A X.stack s H C8.E0).nox) (i := 1) (c := .ref M) (Wout := fun _ _ _ _ => False)
      (ts := fun a cls d En σ H => ∃ (w : Str) (D : Addr) (G0 B : Hp), cls = .ref D ∧ d = none ∧ Kinds X.K X.mg D w ∧ liftS C X.mg E0 false B G0 (m__law_kind a (decide (("BadLead" : Str) = w)) (decide (("BadSpare" : Str) = w)) (decide (("BadMove" : Str) = w)) (decide (("NoWay" : Str) = w)) (decide (("BadWord" : Str) = w)) (decide (("BadHouse" : Str) = w)) (decide (("BadCall" : Str) = w)) (decide (("BadText" : Str) = w))) En σ H)
      (tb := fun W D σ H => ∃ Ech : XK, (∀ cls d σ' H', σ'.length = 5 → Ech cls d H' → W cls d σ' H') ∧ σ[0]? = some (some (.ref f)) ∧ H c' = some (LamX.CodeO c' q) ∧ tl Ech H D.rt)
      rfl rfl sc__law_kind.nd rfl rfl ⟨rfl, by decide, .inl gM⟩ takes0 (fun W pn xe tk _ => ?_) (fun a oe cls d pn hz hf => ?_)), ?_⟩
  · refine ⟨fun pins s' σ H' D I h' => ?_⟩
    obtain ⟨Ech, hW, h1, h2, h3⟩ := h'
    have tk2 : Takes ((cxOf C8.CX0 X.prog X.w X.K X.mg X.base N__law_kind "_law_kind" (defScope s__law_kind) g cdg X.A X.stack s H C8.E0).nox.tr pn xe) (fun cls d σ H => σ.length = 5 → W cls d σ H) := fun u s2 ⟨a, B, sI, pins2, σ2, H2, cls, d, e, J, nb, up, sky, na, os, ag, ww⟩ =>
      tk u s2 ⟨a, B, sI, pins2, σ2, H2, cls, d, e, J, nb, up, sky, na, os, ag, ww J.len⟩
    have hq : PSs ((cxOf C8.CX0 X.prog X.w X.K X.mg X.base N__law_kind "_law_kind" (defScope s__law_kind) g cdg X.A X.stack s H C8.E0).nox.tr pn xe) (tryOf ((defBody s__law_kind).head!)) _ := pss_one (ps_ret (act (fun cls d σ H => σ.length = 5 → W cls d σ H) pn xe Ech _ _ tk2 (fun cls d σ' H' k l => hW cls d σ' H' l k)))
    exact hq.run pins s' σ H' D I ⟨h1, h2, h3⟩
  · refine ⟨fun pins s' σ H' D I h' => ?_⟩
    obtain ⟨w, D2, G0, B, rfl, rfl, KK, h'⟩ := h'
    exact ((der_kind F zVE KK hz hf C hK.symm B X.A X.stack s H (hun s)) G0).run pins s' σ H' D I h'
  · refine ⟨_, fun cls d σ' H' hl hx => ?_, rfl, hc, h⟩
    obtain ⟨w, G, D, ok, hwm, e1, e2, KK, pv⟩ := hx
    rw [← hK] at KK
    obtain ⟨M2, g2, hm⟩ := KK.mv
    rw [gM] at g2
    cases g2
    refine ⟨true, by rw [e1]; exact hm, fun _ a na => ⟨w, D, G, nT H', e1, e2, KK, [none, some (.sh (.ref a)), none, none, none], G, _, ⟨⟨ok, Same.refl _, fun b o z z' => absurd (z.symm.trans z') (fun y => nomatch y), fun b o _ z => z⟩, by rw [List.length_set, hl]; exact Nat.le_refl _, fun i y z => ?_, fun i p y z => ?_, fun i j p y y' z _ => ?_⟩, kind_any a w (hw w hwm) { nx := fun _ => False, rt := fun y => y = .str w } rfl, ?_⟩, fun z => nomatch z⟩
    · match i, z with
      | 1, z =>
        cases z
        exact ⟨_, by rw [List.getElem?_set_self (by rw [hl]; decide)], .ref a⟩
      | i + 5, z => simp at z
    · match i, z with
      | i + 5, z => simp at z
    · match i, z with
      | i + 5, z => simp at z
    · exact ⟨fun _ _ _ _ _ k => k.elim, fun _ _ _ _ _ k => k.elim, fun _ _ _ _ _ k => k.elim, fun y v H2 G2 z rr k => pv y v H2 G2 ⟨z.keep, z.g0, z.fr⟩ z.ok rr k, fun _ _ _ _ k => k.elim⟩
theorem gives_kindN {X : Cx} {C : C3} {ws wn : List Str} (hK : X.K = C.K) (F : Free X.mg) (zVE : X.mg "ValueError" = none) (gM : ∃ A, X.mg "MoveError" = some (.ref A)) {g : Addr} {cdg : Value} {q : Str} (hun : ∀ s : Shared, (X.A.deeper (envOfC "_law_kind" (defScope s__law_kind) s.heap.objs.size g cdg)).units + 64 < cLine) (hw : ∀ w ∈ ws, w ∈ plainW) (hwn : ∀ w ∈ wn, w = "BadMove" ∨ w = "BadText") :
    LamX.GivesTo X N__law_kind "_law_kind" (defScope s__law_kind) g cdg (defBody s__law_kind) "_law_work" q (TTn C X.mg ws wn) := by
  obtain ⟨M, gM⟩ := gM
  intro f c' s H Q tl act hc h
  refine ⟨_, pss_one (ps_try_as (X := (cxOf C8.CX0 X.prog X.w X.K X.mg X.base N__law_kind "_law_kind" (defScope s__law_kind) g cdg X.A X.stack s H C8.E0).nox) (i := 1) (c := .ref M) (Wout := fun _ _ _ _ => False)
      (ts := fun a cls d En σ H => (∃ (w : Str) (D : Addr) (G0 B : Hp), cls = .ref D ∧ d = none ∧ Kinds X.K X.mg D w ∧ liftS C X.mg E0 false B G0 (m__law_kind a (decide (("BadLead" : Str) = w)) (decide (("BadSpare" : Str) = w)) (decide (("BadMove" : Str) = w)) (decide (("NoWay" : Str) = w)) (decide (("BadWord" : Str) = w)) (decide (("BadHouse" : Str) = w)) (decide (("BadCall" : Str) = w)) (decide (("BadText" : Str) = w))) En σ H) ∨
        ∃ (D dd : Addr) (n : Int) (G0 B : Hp), cls = .ref D ∧ d = some dd ∧ ((Kinds X.K X.mg D "BadMove" ∧ XfC X.K D ∧ PySem.W.findIn X.K (.ref D) (fieldOf "BadMove") = some none ∧ liftS { C with fix := (dd, .xd [(fieldOf "BadMove", V.int n)]) :: C.fix } X.mg E0 false B G0 (m__law_kindM a n (decide (("BadLead" : Str) = "BadMove")) (decide (("BadSpare" : Str) = "BadMove")) (decide (("BadMove" : Str) = "BadMove")) (decide (("NoWay" : Str) = "BadMove")) (decide (("BadWord" : Str) = "BadMove")) (decide (("BadHouse" : Str) = "BadMove")) (decide (("BadCall" : Str) = "BadMove")) (decide (("BadText" : Str) = "BadMove"))) En σ H) ∨
          (Kinds X.K X.mg D "BadText" ∧ XfC X.K D ∧ PySem.W.findIn X.K (.ref D) (fieldOf "BadText") = some none ∧ liftS { C with fix := (dd, .xd [(fieldOf "BadText", V.int n)]) :: C.fix } X.mg E0 false B G0 (m__law_kindT a n (decide (("BadLead" : Str) = "BadText")) (decide (("BadSpare" : Str) = "BadText")) (decide (("BadMove" : Str) = "BadText")) (decide (("NoWay" : Str) = "BadText")) (decide (("BadWord" : Str) = "BadText")) (decide (("BadHouse" : Str) = "BadText")) (decide (("BadCall" : Str) = "BadText")) (decide (("BadText" : Str) = "BadText"))) En σ H)))
      (tb := fun W D σ H => ∃ Ech : XK, (∀ cls d σ' H', σ'.length = 5 → Ech cls d H' → W cls d σ' H') ∧ σ[0]? = some (some (.ref f)) ∧ H c' = some (LamX.CodeO c' q) ∧ tl Ech H D.rt)
      rfl rfl sc__law_kind.nd rfl rfl ⟨rfl, by decide, .inl gM⟩ takes0 (fun W pn xe tk _ => ?_) (fun a oe cls d pn hz hf => ?_)), ?_⟩
  · refine ⟨fun pins s' σ H' D I h' => ?_⟩
    obtain ⟨Ech, hW, h1, h2, h3⟩ := h'
    have tk2 : Takes ((cxOf C8.CX0 X.prog X.w X.K X.mg X.base N__law_kind "_law_kind" (defScope s__law_kind) g cdg X.A X.stack s H C8.E0).nox.tr pn xe) (fun cls d σ H => σ.length = 5 → W cls d σ H) := fun u s2 ⟨a, B, sI, pins2, σ2, H2, cls, d, e, J, nb, up, sky, na, os, ag, ww⟩ =>
      tk u s2 ⟨a, B, sI, pins2, σ2, H2, cls, d, e, J, nb, up, sky, na, os, ag, ww J.len⟩
    have hq : PSs ((cxOf C8.CX0 X.prog X.w X.K X.mg X.base N__law_kind "_law_kind" (defScope s__law_kind) g cdg X.A X.stack s H C8.E0).nox.tr pn xe) (tryOf ((defBody s__law_kind).head!)) _ := pss_one (ps_ret (act (fun cls d σ H => σ.length = 5 → W cls d σ H) pn xe Ech _ _ tk2 (fun cls d σ' H' k l => hW cls d σ' H' l k)))
    exact hq.run pins s' σ H' D I ⟨h1, h2, h3⟩
  · refine ⟨fun pins s' σ H' D I h' => ?_⟩
    rcases h' with ⟨w, D2, G0, B, rfl, rfl, KK, h'⟩ | ⟨D2, dd, n, G0, B, rfl, rfl, ⟨KK, XF, hno, h'⟩ | ⟨KK, XF, hno, h'⟩⟩
    · exact ((der_kind F zVE KK hz hf C hK.symm B X.A X.stack s H (hun s)) G0).run pins s' σ H' D I h'
    · exact ((der_kindM F zVE KK XF hno hz hf { C with fix := (dd, .xd [(fieldOf "BadMove", V.int n)]) :: C.fix } hK.symm List.mem_cons_self B X.A X.stack s H (hun s)) G0).run pins s' σ H' D I h'
    · exact ((der_kindT F zVE KK XF hno hz hf { C with fix := (dd, .xd [(fieldOf "BadText", V.int n)]) :: C.fix } hK.symm List.mem_cons_self B X.A X.stack s H (hun s)) G0).run pins s' σ H' D I h'
  · refine ⟨_, fun cls d σ' H' hl hx => ?_, rfl, hc, h⟩
    rcases hx with ⟨w, G, D, ok, hwm, e1, e2, KK, pv⟩ | ⟨w, n, G, D, dd, ok, hwm, e1, e2, ed, eg, KK, XF, hno, pv⟩
    · rw [← hK] at KK
      obtain ⟨M2, g2, hm⟩ := KK.mv
      rw [gM] at g2
      cases g2
      refine ⟨true, by rw [e1]; exact hm, fun _ a na => .inl ⟨w, D, G, nT H', e1, e2, KK, [none, some (.sh (.ref a)), none, none, none], G, _, ⟨⟨ok, Same.refl _, fun b o z z' => absurd (z.symm.trans z') (fun y => nomatch y), fun b o _ z => z⟩, by rw [List.length_set, hl]; exact Nat.le_refl _, fun i y z => ?_, fun i p y z => ?_, fun i j p y y' z _ => ?_⟩, kind_any a w (hw w hwm) { nx := fun _ => False, rt := fun y => y = .str w } rfl, ?_⟩, fun z => nomatch z⟩
      · match i, z with
        | 1, z =>
          cases z
          exact ⟨_, by rw [List.getElem?_set_self (by rw [hl]; decide)], .ref a⟩
        | i + 5, z => simp at z
      · match i, z with
        | i + 5, z => simp at z
      · match i, z with
        | i + 5, z => simp at z
      · exact ⟨fun _ _ _ _ _ k => k.elim, fun _ _ _ _ _ k => k.elim, fun _ _ _ _ _ k => k.elim, fun y v H2 G2 z rr k => pv y v H2 G2 ⟨z.keep, z.g0, z.fr⟩ z.ok rr k, fun _ _ _ _ k => k.elim⟩
    rw [← hK] at KK XF hno
    obtain ⟨M2, g2, hm⟩ := KK.mv
    rw [gM] at g2
    cases g2
    rcases hwn w hwm with rfl | rfl
    · refine ⟨true, by rw [e1]; exact hm, fun _ a na => .inr ⟨D, dd, n, G, nT H', e1, e2, .inl ⟨KK, XF, hno, [none, some (.sh (.ref a)), none, none, none], G, _, ⟨⟨fix_ok ok ed eg, Same.refl _, fun b o z z' => absurd (z.symm.trans z') (fun y => nomatch y), fun b o _ z => z⟩, by rw [List.length_set, hl]; exact Nat.le_refl _, fun i y z => ?_, fun i p y z => ?_, fun i j p y y' z _ => ?_⟩, kind_BadMove a n { nx := fun _ => False, rt := fun y => y = .tup [.str "BadMove", .int n] } rfl, ?_⟩⟩, fun z => nomatch z⟩
      · match i, z with
        | 1, z =>
          cases z
          exact ⟨_, by rw [List.getElem?_set_self (by rw [hl]; decide)], .ref a⟩
        | i + 5, z => simp at z
      · match i, z with
        | i + 5, z => simp at z
      · match i, z with
        | i + 5, z => simp at z
      · exact ⟨fun _ _ _ _ _ k => k.elim, fun _ _ _ _ _ k => k.elim, fun _ _ _ _ _ k => k.elim, fun y v H2 G2 z rr k => pv y v H2 G2 ⟨fix_nx z.ok z.keep ed, z.g0, z.fr⟩ (unfix_ok z.ok) rr k, fun _ _ _ _ k => k.elim⟩
    · refine ⟨true, by rw [e1]; exact hm, fun _ a na => .inr ⟨D, dd, n, G, nT H', e1, e2, .inr ⟨KK, XF, hno, [none, some (.sh (.ref a)), none, none, none], G, _, ⟨⟨fix_ok ok ed eg, Same.refl _, fun b o z z' => absurd (z.symm.trans z') (fun y => nomatch y), fun b o _ z => z⟩, by rw [List.length_set, hl]; exact Nat.le_refl _, fun i y z => ?_, fun i p y z => ?_, fun i j p y y' z _ => ?_⟩, kind_BadText a n { nx := fun _ => False, rt := fun y => y = .tup [.str "BadText", .int n] } rfl, ?_⟩⟩, fun z => nomatch z⟩
      · match i, z with
        | 1, z =>
          cases z
          exact ⟨_, by rw [List.getElem?_set_self (by rw [hl]; decide)], .ref a⟩
        | i + 5, z => simp at z
      · match i, z with
        | i + 5, z => simp at z
      · match i, z with
        | i + 5, z => simp at z
      · exact ⟨fun _ _ _ _ _ k => k.elim, fun _ _ _ _ _ k => k.elim, fun _ _ _ _ _ k => k.elim, fun y v H2 G2 z rr k => pv y v H2 G2 ⟨fix_nx z.ok z.keep ed, z.g0, z.fr⟩ (unfix_ok z.ok) rr k, fun _ _ _ _ k => k.elim⟩
def clsS (s : Stmt) (i : Nat) : Stmt := match s with
  | .ClassDef _ _ _ b _ _ _ _ _ _ _ => b.getD i (.Pass ⟨0, 0, 0, 0⟩)
  | _ => .Pass ⟨0, 0, 0, 0⟩
abbrev s_ini_BadMove : Stmt := clsS (topS 4) 0
theorem sc_ini_BadMove : FnScope ["self", "number"] ["self", "number"] (defScope s_ini_BadMove) := ⟨rfl, rfl, rfl, by decide +kernel, rfl, by decide +kernel, by decide +kernel⟩
theorem fn_ini_BadMove {P : Program} {w : World} {K : PySem.W.Frag} {mg : Str → Option Value} {base : Heap} {M D : Addr} (gM : mg "MoveError" = some (.ref M)) (TM : BaseI K M) {f : Addr} {fd : FuncData} {k : Nat} (G : Fun K "__init__" "BadMove.__init__" s_ini_BadMove f fd) : FnOk P w K mg base (L2.CX P w) (k + 1) f fd ["self", "number"] (spIni K D (fieldOf "BadMove")) := by
  rw [show fieldOf "BadMove" = "number" by decide +kernel]
  refine G.okX sc_ini_BadMove (fun vs H Q E h => ?_) (fun cdv A outer s H vs Q E hr h => ?_)
  · obtain ⟨a, v, rfl, _⟩ := h
    rfl
  · obtain ⟨a, v, rfl, T, hno, e, q⟩ := h
    refine ⟨_, pss_cons (ps_expr (pe_baseI (pl := _) rfl gM TM (pa_cons (pv 0) (pa_cons pe_str pa_nil)))) (pss_one (ps_ost (pv 0) (pv 1))), ?_⟩
    refine ⟨V.ref a, rfl, a, D, [V.str "it can't be"], rfl, by decide, T, e, ?_⟩
    exact ⟨v, rfl, .ref a, rfl, a, D, rfl, T, hno, .inl ⟨e, fun dx h1 h2 => q dx h1 h2⟩⟩
theorem fn_no {P : Program} {w : World} {K : PySem.W.Frag} {mg : Str → Option Value} {base : Heap} {x qual : Str} {st : Stmt} {f : Addr} {fd : FuncData} {N ps : List Str} {k n : Nat} {fr : Bool} {spec : Spec} (F : Fun K x qual st f fd) (S : FnScope N ps (defScope st)) (no : ∀ sa ds Kd KX, spec sa ds Kd KX → False) :
    FnOk P w K mg base (L2.CX P w) (k + 1) f fd ps (LSp K mg fr n spec) := by
  refine F.okX S (fun vs H Q E h => ?_) (fun cdv A outer s H vs Q E hr h => ?_)
  · obtain ⟨st, fix, tabs, ds, G, Kd, KX, ok, r, hl, h, _⟩ := h
    exact (no _ _ _ _ h).elim
  · obtain ⟨st, fix, tabs, ds, G, Kd, KX, ok, r, hl, h, _⟩ := h
    exact (no _ _ _ _ h).elim
abbrev s__law_start : Stmt := topS 24
abbrev N__law_start : List Str := ["_law_script", "_law_mixed", "_law_cell"]
theorem sc__law_start : FnScope N__law_start ["_law_script"] (defScope s__law_start) := ⟨rfl, rfl, rfl, by decide +kernel, rfl, by decide +kernel, by decide +kernel⟩
theorem fn__law_start {P : Program} {w : World} {K : PySem.W.Frag} {mg : Str → Option Value} {base : Heap} {f : Addr} {fd : FuncData} {k : Nat} (G : Fun K "_law_start" "_law_start" s__law_start f fd) : FnOk P w K mg base (L2.CX P w) (k + 1) f fd ["_law_script"] (spStart K) := by
  refine G.okX sc__law_start (fun vs H Q E h => ?_) (fun cdv A outer s H vs Q E hr h => ?_)
  · obtain ⟨a, ns, rfl, _⟩ := h
    rfl
  · obtain ⟨a, ns, rfl, hS, q⟩ := h
    refine ⟨_, pss_cons (ps_set (i := 1) sc__law_start.nd rfl (.inl rfl) pe_int) (pss_cons (ps_for (passes_of rfl) rfl (pi_list (pv 0)) (pg_name (i := 2) sc__law_start.nd rfl (.inl rfl))
      (pss_one (ps_set (i := 1) sc__law_start.nd rfl (.inl rfl) (pe_op op_mod (pe_op op_add (pe_op op_add (pe_op op_mul (pv 1) pe_int) (pv 2)) pe_int) pe_int))))
      (pss_one (ps_ret (pe_lst (pa_cons (pv 0) (pa_cons pe_int (pa_cons (pv 1) (pa_cons pe_int pa_nil)))))))), ?_⟩
    exact start_ok (Q := Q) hS q
abbrev s__law_drawn : Stmt := topS 25
abbrev N__law_drawn : List Str := ["_law_state", "_law_many", "_law_found", "_law_cell"]
theorem sc__law_drawn : FnScope N__law_drawn ["_law_state", "_law_many"] (defScope s__law_drawn) := ⟨rfl, rfl, rfl, by decide +kernel, rfl, by decide +kernel, by decide +kernel⟩
theorem fn__law_drawn {P : Program} {w : World} {K : PySem.W.Frag} {mg : Str → Option Value} {base : Heap} {f : Addr} {fd : FuncData} {k : Nat} (F : Free mg) (G : Fun K "_law_drawn" "_law_drawn" s__law_drawn f fd) : FnOk P w K mg base (L2.CX P w) (k + 1) f fd ["_law_state", "_law_many"] (LSp K mg false 2 sp__law_drawn) := by
  refine G.okX sc__law_drawn (fun vs H Q E h => ?_) (fun cdv A outer s H vs Q E hr h => ?_)
  · obtain ⟨st, fix, tabs, ds, G, Kd, KX, ok, r, hl, _⟩ := h
    rw [← r.length, hl]
    rfl
  · obtain ⟨st, fix, tabs, ds, G, Kd, KX, ok, r, hl, hs, pv', px⟩ := h
    unfold sp__law_drawn at hs
    obtain ⟨a, n, e1, e2, h0, h1, q⟩ := hs
    subst e2
    cases r with
    | cons r1 r2 =>
      cases r2 with
      | cons r2 r3 =>
        cases r3
        cases r1
        cases r2
        obtain ⟨⟨a', sa, ns⟩, rfl, rfl⟩ : ∃ p, st = some p ∧ p.1 = a := by
          cases st with
          | none => cases e1
          | some p => exact ⟨p, rfl, Option.some.inj e1⟩
        refine ⟨_, pss_cons (ps_if (pt_cmpR op_gt (pe_ix ix_list (pv 0) pe_int (fun _ _ => rfl)) pe_int (nomark _)) (pss_cons (ps_set (i := 2) sc__law_drawn.nd rfl (.inl rfl) (pe_op op_mod (pe_ix ix_list (pv 0) pe_int (fun _ _ => rfl)) (pv 1))) (pss_cons (ps_asg (pe_op op_fdivW (pe_ix ix_list (pv 0) pe_int (fun _ _ => rfl)) (pv 1)) (pg_sub (pv 0) pe_int set_list (by intro _; rfl))) (pss_one (ps_ret (pv 2))))) pss_nil)
          (pss_cons (ps_asg (pe_op op_add (pe_ix ix_list (pv 0) pe_int (fun _ _ => rfl)) pe_int) (pg_sub (pv 0) pe_int set_list (by intro _; rfl)))
          (pss_cons (ps_if (pt_cmpR op_le (pe_ix ix_list (pv 0) pe_int (fun _ _ => rfl)) (pe_callB call_len_seq (by rfl) F.len PySem.boot_len (pa_cons (pe_ix ix_list (pv 0) pe_int (fun _ _ => rfl)) pa_nil)) (nomark _))
            (pss_cons (ps_set (i := 3) sc__law_drawn.nd rfl (.inl rfl) (pe_ix ix_list (pe_ix ix_list (pv 0) pe_int (fun _ _ => rfl)) (pe_op op_sub (pe_ix ix_list (pv 0) pe_int (fun _ _ => rfl)) pe_int) (fun _ _ => rfl))) (pss_cons (ps_asg (pe_ifExp (pt_cmpR op_ge (pv 3) (pe_op op_pow pe_int pe_int) (nomark _)) (pe_op op_fdivW (pv 3) (pv 1)) pe_int) (pg_sub (pv 0) pe_int set_list (by intro _; rfl))) (pss_one (ps_ret (pe_op op_mod (pv 3) (pv 1)))))) pss_nil)
          (pss_cons (ps_asg (pe_op op_mod (pe_op op_add (pe_op op_mul (pe_ix ix_list (pv 0) pe_int (fun _ _ => rfl)) pe_int) pe_int) pe_int) (pg_sub (pv 0) pe_int set_list (by intro _; rfl)))
          (pss_one (ps_ret (pe_op op_mod (pe_op op_fdivW (pe_ix ix_list (pv 0) pe_int (fun _ _ => rfl)) pe_int) (pv 1))))))), ?_⟩
        exact drawn_ok (Q := Q) ok h0 h1 fun k H' k0 k1 o s => pv' _ _ _ _ s o (.int k) (q k k0 k1)
/-! ### _law_boxes -/
abbrev s__law_boxes : Stmt := topS 31
theorem sc__law_boxes : FnScope N__law_boxes ps__law_boxes (defScope s__law_boxes) := ⟨rfl, rfl, rfl, by decide +kernel, rfl, by decide +kernel, by decide +kernel⟩
theorem der__law_boxes {P : Program} {w : World} {K : PySem.W.Frag} {mg : Str → Option Value} {base : Heap} (F : Free mg) (d__law_drawn : Df P w K mg base "_law_drawn" 1 false 2 sp__law_drawn) {f : Addr} (s0 : Option (Addr × Addr × List Int)) (fix : List (Addr × HO)) (tabs : List (Addr × Str)) (B : Hp) (cdv : Value) (A : Around) (outer : List Env) (s : Shared) (H : Hp) (E : XK)
    (hr : Room 1 (A.deeper (envOfC "_law_boxes" (defScope s__law_boxes) s.heap.objs.size f cdv))) :
    MSs (cxOf (L2.CX P w) P w K mg base N__law_boxes "_law_boxes" (defScope s__law_boxes) f cdv A outer s H E) ⟨K, s0, fix, tabs⟩ E false B (defBody s__law_boxes) (m__law_boxes (s0.map (·.1))) := by
  have hpx : Passes (L2.CX P w) (cxOf (L2.CX P w) P w K mg base N__law_boxes "_law_boxes" (defScope s__law_boxes) f cdv A outer s H E) E := passes_call (takes_of rfl rfl rfl rfl) (fun _ _ _ _ h => h)
  exact
  (mss_one (ms_ret (me_ix rfl (MF.me (mf_lst (ma_cons (me_add rfl me_int (me_call d__law_drawn (hr.mono (by first | decide | omega)) rfl hpx rfl (ma_cons (me_var 0) (ma_cons me_int ma_nil)))) (ma_cons (me_add rfl me_int (me_call d__law_drawn (hr.mono (by first | decide | omega)) rfl hpx rfl (ma_cons (me_var 0) (ma_cons me_int ma_nil)))) (ma_cons (me_add rfl me_int (me_call d__law_drawn (hr.mono (by first | decide | omega)) rfl hpx rfl (ma_cons (me_var 0) (ma_cons me_int ma_nil)))) ma_nil))))) (me_call d__law_drawn (hr.mono (by first | decide | omega)) rfl hpx rfl (ma_cons (me_var 0) (ma_cons me_int ma_nil))))))
theorem fn__law_boxes {P : Program} {w : World} {K : PySem.W.Frag} {mg : Str → Option Value} {base : Heap} (F : Free mg) (d__law_drawn : Df P w K mg base "_law_drawn" 1 false 2 sp__law_drawn) {f : Addr} {fd : FuncData} (G : Fun K "_law_boxes" "_law_boxes" s__law_boxes f fd) : FnOk P w K mg base (L2.CX P w) 2 f fd ps__law_boxes (LSp K mg false 1 sp__law_boxes) :=
  fn_l3 (k := 1) G sc__law_boxes rfl m__law_boxes (fun s0 fix tabs B cdv A outer s H E hr => der__law_boxes F d__law_drawn s0 fix tabs B cdv A outer s H E hr) pu__law_boxes
/-! ### _law_order -/
abbrev s__law_order : Stmt := topS 29
theorem sc__law_order : FnScope N__law_order ps__law_order (defScope s__law_order) := ⟨rfl, rfl, rfl, by decide +kernel, rfl, by decide +kernel, by decide +kernel⟩
theorem der__law_order {P : Program} {w : World} {K : PySem.W.Frag} {mg : Str → Option Value} {base : Heap} (F : Free mg) (d__law_drawn : Df P w K mg base "_law_drawn" 1 false 2 sp__law_drawn) {f : Addr} (s0 : Option (Addr × Addr × List Int)) (fix : List (Addr × HO)) (tabs : List (Addr × Str)) (B : Hp) (cdv : Value) (A : Around) (outer : List Env) (s : Shared) (H : Hp) (E : XK)
    (hr : Room 1 (A.deeper (envOfC "_law_order" (defScope s__law_order) s.heap.objs.size f cdv))) :
    MSs (cxOf (L2.CX P w) P w K mg base N__law_order "_law_order" (defScope s__law_order) f cdv A outer s H E) ⟨K, s0, fix, tabs⟩ E false B (defBody s__law_order) (m__law_order (s0.map (·.1))) := by
  have hpx : Passes (L2.CX P w) (cxOf (L2.CX P w) P w K mg base N__law_order "_law_order" (defScope s__law_order) f cdv A outer s H E) E := passes_call (takes_of rfl rfl rfl rfl) (fun _ _ _ _ h => h)
  exact
  (mss_cons (ms_setF sc__law_order.nd (i := 2) rfl (by first | exact Or.inl rfl | exact Or.inr rfl) (mf_list F rfl rfl (ma_cons (me_var 1) ma_nil)))
  (mss_cons (ms_setF sc__law_order.nd (i := 3) rfl (by first | exact Or.inl rfl | exact Or.inr rfl) (mf_lst ma_nil))
  (mss_cons (ms_while (passes_of rfl) (mt_ne rfl hr.units (me_var 2) (MF.me (mf_lst ma_nil))) (mss_one (ms_appPop 3 2 (by decide) (h := ps_expr (pe_bm PySem.F.plainAttrs_list PySem.F.slot_list_append PySem.F.type_list_append mt_append (pv 3) (pa_cons (pe_bm PySem.F.plainAttrs_list PySem.F.slot_list_pop PySem.F.type_list_pop mt_popAt (pv 2) (pa_cons (me_call d__law_drawn (hr.mono (by first | decide | omega)) rfl hpx rfl (ma_cons (me_var 0) (ma_cons (me_len F rfl rfl (ma_cons (me_var 2) ma_nil)) ma_nil))) pa_nil)) pa_nil))))))
  (mss_one (ms_ret (me_var 3))))))
theorem fn__law_order {P : Program} {w : World} {K : PySem.W.Frag} {mg : Str → Option Value} {base : Heap} (F : Free mg) (d__law_drawn : Df P w K mg base "_law_drawn" 1 false 2 sp__law_drawn) {f : Addr} {fd : FuncData} (G : Fun K "_law_order" "_law_order" s__law_order f fd) : FnOk P w K mg base (L2.CX P w) 2 f fd ps__law_order (LSp K mg false 2 sp__law_order) :=
  fn_l3 (k := 1) G sc__law_order rfl m__law_order (fun s0 fix tabs B cdv A outer s H E hr => der__law_order F d__law_drawn s0 fix tabs B cdv A outer s H E hr) pu__law_order
/-! ### _law_house -/
abbrev s__law_house : Stmt := topS 35
theorem sc__law_house : FnScope N__law_house ps__law_house (defScope s__law_house) := ⟨rfl, rfl, rfl, by decide +kernel, rfl, by decide +kernel, by decide +kernel⟩
theorem der__law_house {P : Program} {w : World} {K : PySem.W.Frag} {mg : Str → Option Value} {base : Heap} (F : Free mg) (d__law_drawn : Df P w K mg base "_law_drawn" 1 false 2 sp__law_drawn) (d__law_order : Df P w K mg base "_law_order" 2 false 2 sp__law_order) {f : Addr} (s0 : Option (Addr × Addr × List Int)) (fix : List (Addr × HO)) (tabs : List (Addr × Str)) (B : Hp) (cdv : Value) (A : Around) (outer : List Env) (s : Shared) (H : Hp) (E : XK)
    (hr : Room 2 (A.deeper (envOfC "_law_house" (defScope s__law_house) s.heap.objs.size f cdv))) :
    MSs (cxOf (L2.CX P w) P w K mg base N__law_house "_law_house" (defScope s__law_house) f cdv A outer s H E) ⟨K, s0, fix, tabs⟩ E false B (defBody s__law_house) (m__law_house (s0.map (·.1))) := by
  have hpx : Passes (L2.CX P w) (cxOf (L2.CX P w) P w K mg base N__law_house "_law_house" (defScope s__law_house) f cdv A outer s H E) E := passes_call (takes_of rfl rfl rfl rfl) (fun _ _ _ _ h => h)
  exact
  (mss_cons (ms_set sc__law_house.nd (i := 2) rfl (by first | exact Or.inl rfl | exact Or.inr rfl) (me_call d__law_order (hr.mono (by first | decide | omega)) rfl hpx rfl (ma_cons (me_var 0) (ma_cons (MF.me (mf_listRange F rfl rfl rfl (me_var 1))) ma_nil))))
  (mss_cons (ms_set sc__law_house.nd (i := 3) rfl (by first | exact Or.inl rfl | exact Or.inr rfl) (me_tuple F rfl rfl (ma_cons (me_sl rfl (me_var 2) mo_none (mo_some (me_add rfl me_int (me_call d__law_drawn (hr.mono (by first | decide | omega)) rfl hpx rfl (ma_cons (me_var 0) (ma_cons (me_min2 F rfl rfl (ma_cons me_int (ma_cons (me_var 1) ma_nil))) ma_nil)))))) ma_nil)))
  (mss_cons (ms_set sc__law_house.nd (i := 4) rfl (by first | exact Or.inl rfl | exact Or.inr rfl) (me_call d__law_drawn (hr.mono (by first | decide | omega)) rfl hpx rfl (ma_cons (me_var 0) (ma_cons (me_var 1) ma_nil))))
  (mss_cons (ms_set sc__law_house.nd (i := 5) rfl (by first | exact Or.inl rfl | exact Or.inr rfl) (me_add rfl me_int (me_call d__law_drawn (hr.mono (by first | decide | omega)) rfl hpx rfl (ma_cons (me_var 0) (ma_cons me_int ma_nil)))))
  (mss_cons (ms_set sc__law_house.nd (i := 6) rfl (by first | exact Or.inl rfl | exact Or.inr rfl) (me_tuple F rfl rfl (ma_cons (MF.me (mf_lc (own := [("_law_box", 7)]) (t := (.nm 7)) rfl rfl sc__law_house.nd (mi_range rfl F.range (ma_cons (me_var 1) ma_nil)) (blkOk_by (N := N__law_house) (sc := defScope s__law_house) (by decide +kernel)) (by decide) (fun _ _ _ _ _ => (pg_nm sc__law_house.nd (i := 7) rfl (by first | exact Or.inl rfl | exact Or.inr rfl))) (fun _ _ _ _ _ => (mts_one (mt_w (mw_and (mt_ne rfl hr.units (me_var 7) (me_var 4)) (mw_and1 (mt_eq rfl hr.units (me_call d__law_drawn (hr.mono (by first | decide | omega)) rfl passL rfl (ma_cons (me_var 0) (ma_cons (me_var 5) ma_nil))) me_int)))))) (fun _ _ _ _ _ => (me_var 7)))) ma_nil)))
  (mss_one (ms_ret (me_tup (ma_cons (me_var 3) (ma_cons (me_var 4) (ma_cons (me_var 6) ma_nil)))))))))))
theorem fn__law_house {P : Program} {w : World} {K : PySem.W.Frag} {mg : Str → Option Value} {base : Heap} (F : Free mg) (d__law_drawn : Df P w K mg base "_law_drawn" 1 false 2 sp__law_drawn) (d__law_order : Df P w K mg base "_law_order" 2 false 2 sp__law_order) {f : Addr} {fd : FuncData} (G : Fun K "_law_house" "_law_house" s__law_house f fd) : FnOk P w K mg base (L2.CX P w) 3 f fd ps__law_house (LSp K mg false 2 sp__law_house) :=
  fn_l3 (k := 2) G sc__law_house rfl m__law_house (fun s0 fix tabs B cdv A outer s H E hr => der__law_house F d__law_drawn d__law_order s0 fix tabs B cdv A outer s H E hr) pu__law_house
/-! ### _law_worths -/
abbrev s__law_worths : Stmt := topS 32
theorem sc__law_worths : FnScope N__law_worths ps__law_worths (defScope s__law_worths) := ⟨rfl, rfl, rfl, by decide +kernel, rfl, by decide +kernel, by decide +kernel⟩
theorem der__law_worths {P : Program} {w : World} {K : PySem.W.Frag} {mg : Str → Option Value} {base : Heap} (F : Free mg) (d__law_drawn : Df P w K mg base "_law_drawn" 1 false 2 sp__law_drawn) {f : Addr} (s0 : Option (Addr × Addr × List Int)) (fix : List (Addr × HO)) (tabs : List (Addr × Str)) (B : Hp) (cdv : Value) (A : Around) (outer : List Env) (s : Shared) (H : Hp) (E : XK)
    (hr : Room 1 (A.deeper (envOfC "_law_worths" (defScope s__law_worths) s.heap.objs.size f cdv))) :
    MSs (cxOf (L2.CX P w) P w K mg base N__law_worths "_law_worths" (defScope s__law_worths) f cdv A outer s H E) ⟨K, s0, fix, tabs⟩ E false B (defBody s__law_worths) (m__law_worths (s0.map (·.1))) := by
  have hpx : Passes (L2.CX P w) (cxOf (L2.CX P w) P w K mg base N__law_worths "_law_worths" (defScope s__law_worths) f cdv A outer s H E) E := passes_call (takes_of rfl rfl rfl rfl) (fun _ _ _ _ h => h)
  exact
  (mss_cons (ms_set sc__law_worths.nd (i := 2) rfl (by first | exact Or.inl rfl | exact Or.inr rfl) (me_ix rfl (MF.me (mf_lst (ma_cons me_int (ma_cons me_int (ma_cons (me_pow me_int me_int) ma_nil))))) (me_call d__law_drawn (hr.mono (by first | decide | omega)) rfl hpx rfl (ma_cons (me_var 0) (ma_cons me_int ma_nil)))))
  (mss_one (ms_ret (MF.me (mf_lc (own := [("_law_box", 3)]) (t := (.nm 3)) rfl rfl sc__law_worths.nd (mi_range rfl F.range (ma_cons (me_var 1) ma_nil)) (blkOk_by (N := N__law_worths) (sc := defScope s__law_worths) (by decide +kernel)) (by decide) (fun _ _ _ _ _ => (pg_nm sc__law_worths.nd (i := 3) rfl (by first | exact Or.inl rfl | exact Or.inr rfl))) (fun _ _ _ _ _ => mts_nil) (fun _ _ _ _ _ => (me_sub (me_call d__law_drawn (hr.mono (by first | decide | omega)) rfl passL rfl (ma_cons (me_var 0) (ma_cons (me_var 2) ma_nil))) (me_mul (me_call d__law_drawn (hr.mono (by first | decide | omega)) rfl passL rfl (ma_cons (me_var 0) (ma_cons me_int ma_nil))) (me_var 2)))))))))
theorem fn__law_worths {P : Program} {w : World} {K : PySem.W.Frag} {mg : Str → Option Value} {base : Heap} (F : Free mg) (d__law_drawn : Df P w K mg base "_law_drawn" 1 false 2 sp__law_drawn) {f : Addr} {fd : FuncData} (G : Fun K "_law_worths" "_law_worths" s__law_worths f fd) : FnOk P w K mg base (L2.CX P w) 2 f fd ps__law_worths (LSp K mg false 2 sp__law_worths) :=
  fn_l3 (k := 1) G sc__law_worths rfl m__law_worths (fun s0 fix tabs B cdv A outer s H E hr => der__law_worths F d__law_drawn s0 fix tabs B cdv A outer s H E hr) pu__law_worths
/-! ### _law_can -/
abbrev s__law_can : Stmt := topS 38
theorem sc__law_can : FnScope N__law_can ps__law_can (defScope s__law_can) := ⟨rfl, rfl, rfl, by decide +kernel, rfl, by decide +kernel, by decide +kernel⟩
theorem der__law_can {P : Program} {w : World} {K : PySem.W.Frag} {mg : Str → Option Value} {base : Heap} (F : Free mg) {f : Addr} (s0 : Option (Addr × Addr × List Int)) (fix : List (Addr × HO)) (tabs : List (Addr × Str)) (B : Hp) (cdv : Value) (A : Around) (outer : List Env) (s : Shared) (H : Hp) (E : XK)
    (hr : Room 0 (A.deeper (envOfC "_law_can" (defScope s__law_can) s.heap.objs.size f cdv))) :
    MSs (cxOf (L2.CX P w) P w K mg base N__law_can "_law_can" (defScope s__law_can) f cdv A outer s H E) ⟨K, s0, fix, tabs⟩ E false B (defBody s__law_can) (m__law_can (s0.map (·.1))) := by
  have hpx : Passes (L2.CX P w) (cxOf (L2.CX P w) P w K mg base N__law_can "_law_can" (defScope s__law_can) f cdv A outer s H E) E := passes_call (takes_of rfl rfl rfl rfl) (fun _ _ _ _ h => h)
  exact
  (mss_cons (ms_if (mt_eq rfl hr.units (me_var 2) (me_tup (ma_cons me_str ma_nil))) (mss_one (ms_ret (me_and (me_isN (me_var 3) me_non) (me_one (me_leLe me_int (me_var 4) (me_var 1)))))) mss_nil)
  (mss_cons (ms_if (mt_w (mw_or (mt_eq rfl hr.units (me_var 2) (me_tup ma_nil)) (mw_or1 (mt_ne rfl hr.units (MF.me (mf_lc (own := [("_law_box", 5)]) (t := (.nm 5)) rfl rfl sc__law_can.nd (mi_any rfl (me_sl rfl (me_var 2) (mo_some me_int) mo_none)) (blkOk_by (N := N__law_can) (sc := defScope s__law_can) (by decide +kernel)) (by decide) (fun _ _ _ _ _ => (pg_nm sc__law_can.nd (i := 5) rfl (by first | exact Or.inl rfl | exact Or.inr rfl))) (fun _ _ _ _ _ => (mts_one (mt_not (mt_leLt me_int (me_var 5) (me_var 0))))) (fun _ _ _ _ _ => (me_var 5)))) (MF.me (mf_lst ma_nil)))))) (mss_one (ms_ret me_bl)) mss_nil)
  (mss_cons (ms_if (mt_inS rfl (me_ix rfl (me_var 2) me_int) (me_tup (ma_cons me_str (ma_cons me_str ma_nil)))) (mss_one (ms_ret (me_and (me_eq rfl hr.units (me_len F rfl rfl (ma_cons (me_var 2) ma_nil)) me_int) (me_one (me_or (me_eq rfl hr.units (me_ix rfl (me_var 2) me_int) me_str) (me_one (me_gt (me_var 1) me_int))))))) mss_nil)
  (mss_one (ms_ret (me_and (me_inS rfl (me_ix rfl (me_var 2) me_int) (me_tup (ma_cons me_str (ma_cons me_str ma_nil)))) (me_and (me_eq rfl hr.units (me_len F rfl rfl (ma_cons (me_var 2) ma_nil)) me_int) (me_one (me_ne rfl hr.units (me_ix rfl (me_var 2) me_int) (me_ix rfl (me_var 2) me_int))))))))))
theorem fn__law_can {P : Program} {w : World} {K : PySem.W.Frag} {mg : Str → Option Value} {base : Heap} (F : Free mg) {f : Addr} {fd : FuncData} (G : Fun K "_law_can" "_law_can" s__law_can f fd) : FnOk P w K mg base (L2.CX P w) 1 f fd ps__law_can (LSp K mg false 5 sp__law_can) :=
  fn_l3 (k := 0) G sc__law_can rfl m__law_can (fun s0 fix tabs B cdv A outer s H E hr => der__law_can F s0 fix tabs B cdv A outer s H E hr) pu__law_can
/-! ### _law_moved -/
abbrev s__law_moved : Stmt := topS 34
theorem sc__law_moved : FnScope N__law_moved ps__law_moved (defScope s__law_moved) := ⟨rfl, rfl, rfl, by decide +kernel, rfl, by decide +kernel, by decide +kernel⟩
theorem der__law_moved {P : Program} {w : World} {K : PySem.W.Frag} {mg : Str → Option Value} {base : Heap} (F : Free mg) {f : Addr} (s0 : Option (Addr × Addr × List Int)) (fix : List (Addr × HO)) (tabs : List (Addr × Str)) (B : Hp) (cdv : Value) (A : Around) (outer : List Env) (s : Shared) (H : Hp) (E : XK)
    (hr : Room 0 (A.deeper (envOfC "_law_moved" (defScope s__law_moved) s.heap.objs.size f cdv))) :
    MSs (cxOf (L2.CX P w) P w K mg base N__law_moved "_law_moved" (defScope s__law_moved) f cdv A outer s H E) ⟨K, s0, fix, tabs⟩ E true B (defBody s__law_moved) (m__law_moved (s0.map (·.1))) := by
  have hpx : Passes (L2.CX P w) (cxOf (L2.CX P w) P w K mg base N__law_moved "_law_moved" (defScope s__law_moved) f cdv A outer s H E) E := passes_call (takes_of rfl rfl rfl rfl) (fun _ _ _ _ h => h)
  exact
  (mss_cons (ms_setF sc__law_moved.nd (i := 2) rfl (by first | exact Or.inl rfl | exact Or.inr rfl) (mf_list F rfl rfl (ma_cons (me_var 0) ma_nil)))
  (mss_cons (ms_for (t := .tp [3, 4, 5]) (passes_of rfl) rfl rfl (mi_any rfl (me_var 1)) (pg_tp rfl (pgs_nm sc__law_moved.nd (i := 3) rfl (by first | exact Or.inl rfl | exact Or.inr rfl) (pgs_nm sc__law_moved.nd (i := 4) rfl (by first | exact Or.inl rfl | exact Or.inr rfl) (pgs_nm sc__law_moved.nd (i := 5) rfl (by first | exact Or.inl rfl | exact Or.inr rfl) pgs_no)))) (mss_one (ms_if (mt_eq rfl hr.units (me_var 3) me_str) (mss_one (ms_setIx 2 (hi := (me_var 4)) (he := (me_ix rfl (me_var 2) (me_var 5))))) (mss_cons (ms_setL sc__law_moved.nd (i := 6) rfl (by first | exact Or.inl rfl | exact Or.inr rfl) (me_ix rfl (me_var 2) (me_var 4)))
      (mss_cons (ms_setIx 2 (hi := (me_var 4)) (he := (me_ix rfl (me_var 2) (me_var 5))))
      (mss_one (ms_setIx 2 (hi := (me_var 5)) (he := (me_var 6)))))))))
  (mss_one (ms_retO 2))))
theorem fn__law_moved {P : Program} {w : World} {K : PySem.W.Frag} {mg : Str → Option Value} {base : Heap} (F : Free mg) {f : Addr} {fd : FuncData} (G : Fun K "_law_moved" "_law_moved" s__law_moved f fd) : FnOk P w K mg base (L2.CX P w) 1 f fd ps__law_moved (LSp K mg true 2 sp__law_moved) :=
  fn_l3 (k := 0) G sc__law_moved rfl m__law_moved (fun s0 fix tabs B cdv A outer s H E hr => der__law_moved F s0 fix tabs B cdv A outer s H E hr) pu__law_moved
/-! ### _law_called -/
abbrev s__law_called : Stmt := topS 37
theorem sc__law_called : FnScope N__law_called ps__law_called (defScope s__law_called) := ⟨rfl, rfl, rfl, by decide +kernel, rfl, by decide +kernel, by decide +kernel⟩
theorem der__law_called {P : Program} {w : World} {K : PySem.W.Frag} {mg : Str → Option Value} {base : Heap} (F : Free mg) (d__law_can : Df P w K mg base "_law_can" 1 false 5 sp__law_can) (d__law_moved : Df P w K mg base "_law_moved" 1 true 2 sp__law_moved) {f : Addr} (s0 : Option (Addr × Addr × List Int)) (fix : List (Addr × HO)) (tabs : List (Addr × Str)) (B : Hp) (cdv : Value) (A : Around) (outer : List Env) (s : Shared) (H : Hp) (E : XK)
    (hr : Room 1 (A.deeper (envOfC "_law_called" (defScope s__law_called) s.heap.objs.size f cdv))) :
    MSs (cxOf (L2.CX P w) P w K mg base N__law_called "_law_called" (defScope s__law_called) f cdv A outer s H E) ⟨K, s0, fix, tabs⟩ E false B (defBody s__law_called) (m__law_called (s0.map (·.1))) := by
  have hpx : Passes (L2.CX P w) (cxOf (L2.CX P w) P w K mg base N__law_called "_law_called" (defScope s__law_called) f cdv A outer s H E) E := passes_call (takes_of rfl rfl rfl rfl) (fun _ _ _ _ h => h)
  exact
  (mss_cons (ms_setF sc__law_called.nd (i := 0) rfl (by first | exact Or.inl rfl | exact Or.inr rfl) (mf_list F rfl rfl (ma_cons (me_var 0) ma_nil)))
  (mss_cons (ms_setF sc__law_called.nd (i := 1) rfl (by first | exact Or.inl rfl | exact Or.inr rfl) (mf_list F rfl rfl (ma_cons (me_var 1) ma_nil)))
  (mss_cons (ms_set sc__law_called.nd (i := 7) rfl (by first | exact Or.inl rfl | exact Or.inr rfl) me_non)
  (mss_cons (ms_for (t := .nm 8) (passes_of rfl) rfl rfl (mi_range rfl F.range (ma_cons (me_len F rfl rfl (ma_cons (me_var 2) ma_nil)) ma_nil)) (pg_nm sc__law_called.nd (i := 8) rfl (by first | exact Or.inl rfl | exact Or.inr rfl)) (mss_cons (ms_set sc__law_called.nd (i := 9) rfl (by first | exact Or.inl rfl | exact Or.inr rfl) (me_ix rfl (me_var 2) (me_var 8)))
    (mss_cons (ms_if (mt_not (mt_val (me_call d__law_can (hr.mono (by first | decide | omega)) rfl hpx rfl (ma_cons (me_len F rfl rfl (ma_cons (me_var 0) ma_nil)) (ma_cons (me_len F rfl rfl (ma_cons (me_var 1) ma_nil)) (ma_cons (me_var 9) (ma_cons (me_var 7) (ma_cons (me_var 6) ma_nil)))))))) (mss_one (ms_ret (me_tup (ma_cons me_str (ma_cons (me_var 8) ma_nil))))) mss_nil)
    (mss_one (ms_if (mt_eq rfl hr.units (me_ix rfl (me_var 9) me_int) me_str) (mss_one (ms_appendL 1 (h := ps_expr (pe_bm PySem.F.plainAttrs_list PySem.F.slot_list_append PySem.F.type_list_append mt_append (pv 1) (pa_cons (me_ix rfl (me_var 0) (me_ix rfl (me_var 9) me_int)) pa_nil))))) (mss_one (ms_if (mt_eq rfl hr.units (me_ix rfl (me_var 9) me_int) me_str) (mss_cons (ms_setIx 0 (hi := (me_ix rfl (me_var 9) me_int)) (he := (me_ix rfl (me_var 1) (me_neg me_int))))
        (mss_one (ms_setLO sc__law_called.nd (i := 1) rfl (by first | exact Or.inl rfl | exact Or.inr rfl) (mf_sl (me_var 1) mo_none (mo_some (me_neg me_int)))))) (mss_one (ms_if (mt_eq rfl hr.units (me_ix rfl (me_var 9) me_int) me_str) (mss_cons (ms_setLF sc__law_called.nd (i := 7) rfl (by first | exact Or.inl rfl | exact Or.inr rfl) (mf_cat (MF.me (mf_lc (own := [("_law_box", 10)]) (t := (.nm 10)) rfl rfl sc__law_called.nd (mi_any rfl (me_ix rfl (me_var 3) me_int)) (blkOk_by (N := N__law_called) (sc := defScope s__law_called) (by decide +kernel)) (by decide) (fun _ _ _ _ _ => (pg_nm sc__law_called.nd (i := 10) rfl (by first | exact Or.inl rfl | exact Or.inr rfl))) (fun _ _ _ _ _ => mts_nil) (fun _ _ _ _ _ => (me_ix rfl (me_var 0) (me_var 10))))) (MF.me (mf_slM rfl (me_sl rfl (me_var 1) (mo_some (me_sub (me_len F rfl rfl (ma_cons (me_var 1) ma_nil)) (me_var 6))) mo_none) mo_none mo_none))))
          (mss_cons (ms_setLO sc__law_called.nd (i := 1) rfl (by first | exact Or.inl rfl | exact Or.inr rfl) (mf_sl (me_var 1) mo_none (mo_some (me_sub (me_len F rfl rfl (ma_cons (me_var 1) ma_nil)) (me_var 6)))))
          (mss_cons (ms_setLO sc__law_called.nd (i := 0) rfl (by first | exact Or.inl rfl | exact Or.inr rfl) (mf_lc (own := [("_law_box", 10)]) (t := (.nm 10)) rfl rfl sc__law_called.nd (mi_range rfl F.range (ma_cons (me_len F rfl rfl (ma_cons (me_var 0) ma_nil)) ma_nil)) (blkOk_by (N := N__law_called) (sc := defScope s__law_called) (by decide +kernel)) (by decide) (fun _ _ _ _ _ => (pg_nm sc__law_called.nd (i := 10) rfl (by first | exact Or.inl rfl | exact Or.inr rfl))) (fun _ _ _ _ _ => mts_nil) (fun _ _ _ _ _ => (me_if (mt_inS rfl (me_var 10) (me_ix rfl (me_var 3) me_int)) (me_ix rfl (me_var 0) (me_var 10)) (me_ix rfl (me_var 5) (me_var 10))))))
          (mss_one (ms_setIx 0 (hi := (me_ix rfl (me_var 3) me_int)) (he := (me_var 4))))))) (mss_one (ms_setLO sc__law_called.nd (i := 0) rfl (by first | exact Or.inl rfl | exact Or.inr rfl) (mf_call d__law_moved (hr.mono (by first | decide | omega)) rfl hpx rfl (ma_cons (me_var 0) (ma_cons (MF.me (mf_lst (ma_cons (me_var 9) ma_nil))) ma_nil))))))))))))))
  (mss_one (ms_ret (me_tup (ma_cons (me_var 0) (ma_cons (me_var 1) (ma_cons (me_if (mt_isN (me_var 7) me_non) (MF.me (mf_lst ma_nil)) (me_var 7)) ma_nil))))))))))
theorem fn__law_called {P : Program} {w : World} {K : PySem.W.Frag} {mg : Str → Option Value} {base : Heap} (F : Free mg) (d__law_can : Df P w K mg base "_law_can" 1 false 5 sp__law_can) (d__law_moved : Df P w K mg base "_law_moved" 1 true 2 sp__law_moved) {f : Addr} {fd : FuncData} (G : Fun K "_law_called" "_law_called" s__law_called f fd) : FnOk P w K mg base (L2.CX P w) 2 f fd ps__law_called (LSp K mg false 7 sp__law_called) :=
  fn_l3 (k := 1) G sc__law_called rfl m__law_called (fun s0 fix tabs B cdv A outer s H E hr => der__law_called F d__law_can d__law_moved s0 fix tabs B cdv A outer s H E hr) pu__law_called
/-! ### _law_far -/
abbrev s__law_far : Stmt := topS 28
theorem sc__law_far : FnScope N__law_far ps__law_far (defScope s__law_far) := ⟨rfl, rfl, rfl, by decide +kernel, rfl, by decide +kernel, by decide +kernel⟩
theorem der__law_far {P : Program} {w : World} {K : PySem.W.Frag} {mg : Str → Option Value} {base : Heap} (F : Free mg) (d__law_drawn : Df P w K mg base "_law_drawn" 1 false 2 sp__law_drawn) {f : Addr} (s0 : Option (Addr × Addr × List Int)) (fix : List (Addr × HO)) (tabs : List (Addr × Str)) (B : Hp) (cdv : Value) (A : Around) (outer : List Env) (s : Shared) (H : Hp) (E : XK)
    (hr : Room 1 (A.deeper (envOfC "_law_far" (defScope s__law_far) s.heap.objs.size f cdv))) :
    MSs (cxOf (L2.CX P w) P w K mg base N__law_far "_law_far" (defScope s__law_far) f cdv A outer s H E) ⟨K, s0, fix, tabs⟩ E false B (defBody s__law_far) (m__law_far (s0.map (·.1))) := by
  have hpx : Passes (L2.CX P w) (cxOf (L2.CX P w) P w K mg base N__law_far "_law_far" (defScope s__law_far) f cdv A outer s H E) E := passes_call (takes_of rfl rfl rfl rfl) (fun _ _ _ _ h => h)
  exact
  (mss_cons (ms_set sc__law_far.nd (i := 2) rfl (by first | exact Or.inl rfl | exact Or.inr rfl) (me_ix rfl (MF.me (mf_lst (ma_cons me_int (ma_cons me_int (ma_cons (me_pow me_int me_int) ma_nil))))) (me_call d__law_drawn (hr.mono (by first | decide | omega)) rfl hpx rfl (ma_cons (me_var 0) (ma_cons me_int ma_nil)))))
  (mss_one (ms_ret (me_ix rfl (MF.me (mf_lst (ma_cons (me_sub (me_sub me_int me_int) (me_call d__law_drawn (hr.mono (by first | decide | omega)) rfl hpx rfl (ma_cons (me_var 0) (ma_cons (me_var 2) ma_nil)))) (ma_cons (me_add rfl (me_add rfl (me_var 1) me_int) (me_call d__law_drawn (hr.mono (by first | decide | omega)) rfl hpx rfl (ma_cons (me_var 0) (ma_cons (me_var 2) ma_nil)))) ma_nil)))) (me_call d__law_drawn (hr.mono (by first | decide | omega)) rfl hpx rfl (ma_cons (me_var 0) (ma_cons me_int ma_nil)))))))
theorem fn__law_far {P : Program} {w : World} {K : PySem.W.Frag} {mg : Str → Option Value} {base : Heap} (F : Free mg) (d__law_drawn : Df P w K mg base "_law_drawn" 1 false 2 sp__law_drawn) {f : Addr} {fd : FuncData} (G : Fun K "_law_far" "_law_far" s__law_far f fd) : FnOk P w K mg base (L2.CX P w) 2 f fd ps__law_far (LSp K mg false 2 sp__law_far) :=
  fn_l3 (k := 1) G sc__law_far rfl m__law_far (fun s0 fix tabs B cdv A outer s H E hr => der__law_far F d__law_drawn s0 fix tabs B cdv A outer s H E hr) pu__law_far
/-! ### _law_step -/
abbrev s__law_step : Stmt := topS 39
theorem sc__law_step : FnScope N__law_step ps__law_step (defScope s__law_step) := ⟨rfl, rfl, rfl, by decide +kernel, rfl, by decide +kernel, by decide +kernel⟩
theorem der__law_step {P : Program} {w : World} {K : PySem.W.Frag} {mg : Str → Option Value} {base : Heap} (F : Free mg) (d__law_drawn : Df P w K mg base "_law_drawn" 1 false 2 sp__law_drawn) (d__law_far : Df P w K mg base "_law_far" 2 false 2 sp__law_far) {f : Addr} (s0 : Option (Addr × Addr × List Int)) (fix : List (Addr × HO)) (tabs : List (Addr × Str)) (B : Hp) (cdv : Value) (A : Around) (outer : List Env) (s : Shared) (H : Hp) (E : XK)
    (hr : Room 2 (A.deeper (envOfC "_law_step" (defScope s__law_step) s.heap.objs.size f cdv))) :
    MSs (cxOf (L2.CX P w) P w K mg base N__law_step "_law_step" (defScope s__law_step) f cdv A outer s H E) ⟨K, s0, fix, tabs⟩ E false B (defBody s__law_step) (m__law_step (s0.map (·.1))) := by
  have hpx : Passes (L2.CX P w) (cxOf (L2.CX P w) P w K mg base N__law_step "_law_step" (defScope s__law_step) f cdv A outer s H E) E := passes_call (takes_of rfl rfl rfl rfl) (fun _ _ _ _ h => h)
  exact
  (mss_cons (ms_set sc__law_step.nd (i := 2) rfl (by first | exact Or.inl rfl | exact Or.inr rfl) (me_call d__law_drawn (hr.mono (by first | decide | omega)) rfl hpx rfl (ma_cons (me_var 0) (ma_cons (me_var 1) ma_nil))))
  (mss_cons (ms_set sc__law_step.nd (i := 3) rfl (by first | exact Or.inl rfl | exact Or.inr rfl) (me_call d__law_drawn (hr.mono (by first | decide | omega)) rfl hpx rfl (ma_cons (me_var 0) (ma_cons (me_var 1) ma_nil))))
  (mss_cons (ms_set sc__law_step.nd (i := 4) rfl (by first | exact Or.inl rfl | exact Or.inr rfl) (me_call d__law_drawn (hr.mono (by first | decide | omega)) rfl hpx rfl (ma_cons (me_var 0) (ma_cons me_int ma_nil))))
  (mss_cons (ms_if (mt_lt (me_var 4) me_int) (mss_one (ms_ret (me_ix rfl (MF.me (mf_lst (ma_cons (me_tup (ma_cons me_str (ma_cons (me_var 2) ma_nil))) (ma_cons (me_tup (ma_cons me_str (ma_cons (me_var 2) ma_nil))) (ma_cons (me_tup (ma_cons me_str (ma_cons (me_var 2) ma_nil))) ma_nil))))) (me_fdiv (me_var 4) me_int)))) mss_nil)
  (mss_cons (ms_if (mt_lt (me_var 4) me_int) (mss_one (ms_ret (me_tup (ma_cons (me_ix rfl (MF.me (mf_lst (ma_cons me_str (ma_cons me_str ma_nil)))) (me_mod (me_var 4) me_int)) (ma_cons (me_var 2) (ma_cons (me_var 3) ma_nil)))))) mss_nil)
  (mss_cons (ms_set sc__law_step.nd (i := 5) rfl (by first | exact Or.inl rfl | exact Or.inr rfl) (me_call d__law_far (hr.mono (by first | decide | omega)) rfl hpx rfl (ma_cons (me_var 0) (ma_cons (me_sub (me_var 1) me_int) ma_nil))))
  (mss_cons (ms_setF sc__law_step.nd (i := 6) rfl (by first | exact Or.inl rfl | exact Or.inr rfl) (mf_lst (ma_cons (me_tup ma_nil) (ma_cons (me_tup (ma_cons me_str ma_nil)) (ma_cons (me_tup (ma_cons me_str (ma_cons (me_var 5) ma_nil))) (ma_cons (me_tup (ma_cons me_str (ma_cons (me_var 5) ma_nil))) (ma_cons (me_tup (ma_cons me_str (ma_cons (me_var 2) (ma_cons (me_var 5) ma_nil)))) (ma_cons (me_tup (ma_cons me_str (ma_cons (me_var 5) (ma_cons (me_var 2) ma_nil)))) (ma_cons (me_tup (ma_cons me_str (ma_cons me_int ma_nil))) ma_nil)))))))))
  (mss_cons (ms_append 6 (h := ps_expr (pe_bm PySem.F.plainAttrs_list PySem.F.slot_list_append PySem.F.type_list_append mt_append (pv 6) (pa_cons (me_tup (ma_cons me_str (ma_cons me_int (ma_cons me_int ma_nil)))) pa_nil))))
  (mss_one (ms_ret (me_if (mt_eq rfl hr.units (me_var 4) me_int) (me_tup (ma_cons me_str ma_nil)) (me_ix rfl (me_var 6) (me_call d__law_drawn (hr.mono (by first | decide | omega)) rfl hpx rfl (ma_cons (me_var 0) (ma_cons me_int ma_nil)))))))))))))))
theorem fn__law_step {P : Program} {w : World} {K : PySem.W.Frag} {mg : Str → Option Value} {base : Heap} (F : Free mg) (d__law_drawn : Df P w K mg base "_law_drawn" 1 false 2 sp__law_drawn) (d__law_far : Df P w K mg base "_law_far" 2 false 2 sp__law_far) {f : Addr} {fd : FuncData} (G : Fun K "_law_step" "_law_step" s__law_step f fd) : FnOk P w K mg base (L2.CX P w) 3 f fd ps__law_step (LSp K mg false 2 sp__law_step) :=
  fn_l3 (k := 2) G sc__law_step rfl m__law_step (fun s0 fix tabs B cdv A outer s H E hr => der__law_step F d__law_drawn d__law_far s0 fix tabs B cdv A outer s H E hr) pu__law_step
/-! ### is_box -/
abbrev s_is_box : Stmt := topS 12
theorem sc_is_box : FnScope N_is_box ps_is_box (defScope s_is_box) := ⟨rfl, rfl, rfl, by decide +kernel, rfl, by decide +kernel, by decide +kernel⟩
theorem der_is_box {P : Program} {w : World} {K : PySem.W.Frag} {mg : Str → Option Value} {base : Heap} (F : Free mg) {f : Addr} (s0 : Option (Addr × Addr × List Int)) (fix : List (Addr × HO)) (tabs : List (Addr × Str)) (B : Hp) (cdv : Value) (A : Around) (outer : List Env) (s : Shared) (H : Hp) (E : XK)
    (hr : Room 0 (A.deeper (envOfC "is_box" (defScope s_is_box) s.heap.objs.size f cdv))) :
    MSs (cxOf (L2.CX P w) P w K mg base N_is_box "is_box" (defScope s_is_box) f cdv A outer s H E) ⟨K, s0, fix, tabs⟩ E false B (defBody s_is_box) (m_is_box (s0.map (·.1))) := by
  have hpx : Passes (L2.CX P w) (cxOf (L2.CX P w) P w K mg base N_is_box "is_box" (defScope s_is_box) f cdv A outer s H E) E := passes_call (takes_of rfl rfl rfl rfl) (fun _ _ _ _ h => h)
  exact
  (mss_one (ms_ret (me_leLt me_int (me_var 1) (me_var 0))))
theorem fn_is_box {P : Program} {w : World} {K : PySem.W.Frag} {mg : Str → Option Value} {base : Heap} (F : Free mg) {f : Addr} {fd : FuncData} (G : Fun K "is_box" "is_box" s_is_box f fd) : FnOk P w K mg base (L2.CX P w) 1 f fd ps_is_box (LSp K mg false 2 sp_is_box) :=
  fn_l3 (k := 0) G sc_is_box rfl m_is_box (fun s0 fix tabs B cdv A outer s H E hr => der_is_box F s0 fix tabs B cdv A outer s H E hr) pu_is_box
/-! ### are_rising -/
abbrev s_are_rising : Stmt := topS 19
theorem sc_are_rising : FnScope N_are_rising ps_are_rising (defScope s_are_rising) := ⟨rfl, rfl, rfl, by decide +kernel, rfl, by decide +kernel, by decide +kernel⟩
theorem der_are_rising {P : Program} {w : World} {K : PySem.W.Frag} {mg : Str → Option Value} {base : Heap} (F : Free mg) (d_is_box : Df P w K mg base "is_box" 1 false 2 sp_is_box) {f : Addr} (s0 : Option (Addr × Addr × List Int)) (fix : List (Addr × HO)) (tabs : List (Addr × Str)) (B : Hp) (cdv : Value) (A : Around) (outer : List Env) (s : Shared) (H : Hp) (E : XK)
    (hr : Room 1 (A.deeper (envOfC "are_rising" (defScope s_are_rising) s.heap.objs.size f cdv))) :
    MSs (cxOf (L2.CX P w) P w K mg base N_are_rising "are_rising" (defScope s_are_rising) f cdv A outer s H E) ⟨K, s0, fix, tabs⟩ E false B (defBody s_are_rising) (m_are_rising (s0.map (·.1))) := by
  have hpx : Passes (L2.CX P w) (cxOf (L2.CX P w) P w K mg base N_are_rising "are_rising" (defScope s_are_rising) f cdv A outer s H E) E := passes_call (takes_of rfl rfl rfl rfl) (fun _ _ _ _ h => h)
  exact
  (mss_one (ms_ret (me_and (me_eq rfl hr.units (MF.me (mf_lc (own := [("box", 2)]) (t := (.nm 2)) rfl rfl sc_are_rising.nd (mi_any rfl (me_var 1)) (blkOk_by (N := N_are_rising) (sc := defScope s_are_rising) (by decide +kernel)) (by decide) (fun _ _ _ _ _ => (pg_nm sc_are_rising.nd (i := 2) rfl (by first | exact Or.inl rfl | exact Or.inr rfl))) (fun _ _ _ _ _ => (mts_one (mt_not (mt_val (me_call d_is_box (hr.mono (by first | decide | omega)) rfl passL rfl (ma_cons (me_var 0) (ma_cons (me_var 2) ma_nil))))))) (fun _ _ _ _ _ => (me_var 2)))) (MF.me (mf_lst ma_nil))) (me_one (me_eq rfl hr.units (MF.me (mf_sortedSet F rfl rfl rfl rfl (me_var 1))) (MF.me (mf_list F rfl rfl (ma_cons (me_var 1) ma_nil))))))))
theorem fn_are_rising {P : Program} {w : World} {K : PySem.W.Frag} {mg : Str → Option Value} {base : Heap} (F : Free mg) (d_is_box : Df P w K mg base "is_box" 1 false 2 sp_is_box) {f : Addr} {fd : FuncData} (G : Fun K "are_rising" "are_rising" s_are_rising f fd) : FnOk P w K mg base (L2.CX P w) 2 f fd ps_are_rising (LSp K mg false 2 sp_are_rising) :=
  fn_l3 (k := 1) G sc_are_rising rfl m_are_rising (fun s0 fix tabs B cdv A outer s H E hr => der_are_rising F d_is_box s0 fix tabs B cdv A outer s H E hr) pu_are_rising
/-! ### need_house -/
abbrev s_need_house : Stmt := topS 20
theorem sc_need_house : FnScope N_need_house ps_need_house (defScope s_need_house) := ⟨rfl, rfl, rfl, by decide +kernel, rfl, by decide +kernel, by decide +kernel⟩
theorem der_need_house {P : Program} {w : World} {K : PySem.W.Frag} {mg : Str → Option Value} {base : Heap} (F : Free mg) (d_are_rising : Df P w K mg base "are_rising" 2 false 2 sp_are_rising) (d_is_box : Df P w K mg base "is_box" 1 false 2 sp_is_box) (g_MOST_BOXES : ∃ t, mg "MOST_BOXES" = some (.int 10 t)) (g_MOST_INS : ∃ t, mg "MOST_INS" = some (.int 4 t)) {f : Addr} (s0 : Option (Addr × Addr × List Int)) (fix : List (Addr × HO)) (tabs : List (Addr × Str)) (B : Hp) (cdv : Value) (A : Around) (outer : List Env) (s : Shared) (H : Hp) (E : XK)
    (hr : Room 2 (A.deeper (envOfC "need_house" (defScope s_need_house) s.heap.objs.size f cdv))) :
    MSs (cxOf (L2.CX P w) P w K mg base N_need_house "need_house" (defScope s_need_house) f cdv A outer s H E) ⟨K, s0, fix, tabs⟩ E false B (defBody s_need_house) (m_need_house (s0.map (·.1))) := by
  have hpx : Passes (L2.CX P w) (cxOf (L2.CX P w) P w K mg base N_need_house "need_house" (defScope s_need_house) f cdv A outer s H E) E := passes_call (takes_of rfl rfl rfl rfl) (fun _ _ _ _ h => h)
  exact
  (mss_cons (ms_setT (t := .tp [2, 3, 4]) rfl (me_var 1) (pg_tp rfl (pgs_nm sc_need_house.nd (i := 2) rfl (by first | exact Or.inl rfl | exact Or.inr rfl) (pgs_nm sc_need_house.nd (i := 3) rfl (by first | exact Or.inl rfl | exact Or.inr rfl) (pgs_nm sc_need_house.nd (i := 4) rfl (by first | exact Or.inl rfl | exact Or.inr rfl) pgs_no)))))
  (mss_cons (ms_set sc_need_house.nd (i := 5) rfl (by first | exact Or.inl rfl | exact Or.inr rfl) (me_and (me_leLe me_int (me_var 0) (me_globI g_MOST_BOXES rfl)) (me_and (me_leLe me_int (me_len F rfl rfl (ma_cons (me_var 2) ma_nil)) (me_globI g_MOST_INS rfl)) (me_one (me_eq rfl hr.units (me_lenSetT F rfl rfl rfl rfl (me_var 2)) (me_len F rfl rfl (ma_cons (me_var 2) ma_nil)))))))
  (mss_cons (ms_if (mt_w (mw_or (mt_not (mt_val (me_var 5))) (mw_or1 (mt_ne rfl hr.units (MF.me (mf_lc (own := [("box", 6)]) (t := (.nm 6)) rfl rfl sc_need_house.nd (mi_any rfl (me_var 2)) (blkOk_by (N := N_need_house) (sc := defScope s_need_house) (by decide +kernel)) (by decide) (fun _ _ _ _ _ => (pg_nm sc_need_house.nd (i := 6) rfl (by first | exact Or.inl rfl | exact Or.inr rfl))) (fun _ _ _ _ _ => (mts_one (mt_not (mt_val (me_call d_is_box (hr.mono (by first | decide | omega)) rfl passL rfl (ma_cons (me_var 0) (ma_cons (me_var 6) ma_nil))))))) (fun _ _ _ _ _ => (me_var 6)))) (MF.me (mf_lst ma_nil)))))) (mss_one ms_never) mss_nil)
  (mss_one (ms_if (mt_w (mw_or (mt_not (mt_val (me_call d_is_box (hr.mono (by first | decide | omega)) rfl hpx rfl (ma_cons (me_var 0) (ma_cons (me_var 3) ma_nil))))) (mw_or (mt_inS rfl (me_var 3) (me_var 4)) (mw_or1 (mt_not (mt_val (me_call d_are_rising (hr.mono (by first | decide | omega)) rfl hpx rfl (ma_cons (me_var 0) (ma_cons (me_var 4) ma_nil))))))))) (mss_one ms_never) mss_nil)))))
theorem fn_need_house {P : Program} {w : World} {K : PySem.W.Frag} {mg : Str → Option Value} {base : Heap} (F : Free mg) (d_are_rising : Df P w K mg base "are_rising" 2 false 2 sp_are_rising) (d_is_box : Df P w K mg base "is_box" 1 false 2 sp_is_box) (g_MOST_BOXES : ∃ t, mg "MOST_BOXES" = some (.int 10 t)) (g_MOST_INS : ∃ t, mg "MOST_INS" = some (.int 4 t)) {f : Addr} {fd : FuncData} (G : Fun K "need_house" "need_house" s_need_house f fd) : FnOk P w K mg base (L2.CX P w) 3 f fd ps_need_house (LSp K mg false 2 sp_need_house) :=
  fn_l3 (k := 2) G sc_need_house rfl m_need_house (fun s0 fix tabs B cdv A outer s H E hr => der_need_house F d_are_rising d_is_box g_MOST_BOXES g_MOST_INS s0 fix tabs B cdv A outer s H E hr) pu_need_house
/-! ### is_move -/
abbrev s_is_move : Stmt := topS 15
theorem sc_is_move : FnScope N_is_move ps_is_move (defScope s_is_move) := ⟨rfl, rfl, rfl, by decide +kernel, rfl, by decide +kernel, by decide +kernel⟩
theorem der_is_move {P : Program} {w : World} {K : PySem.W.Frag} {mg : Str → Option Value} {base : Heap} (F : Free mg) (d_is_box : Df P w K mg base "is_box" 1 false 2 sp_is_box) (g_WORDS : GlobT K mg "WORDS" ["copy", "swap"]) {f : Addr} (s0 : Option (Addr × Addr × List Int)) (fix : List (Addr × HO)) (tabs : List (Addr × Str)) (B : Hp) (cdv : Value) (A : Around) (outer : List Env) (s : Shared) (H : Hp) (E : XK)
    (hr : Room 1 (A.deeper (envOfC "is_move" (defScope s_is_move) s.heap.objs.size f cdv))) :
    MSs (cxOf (L2.CX P w) P w K mg base N_is_move "is_move" (defScope s_is_move) f cdv A outer s H E) ⟨K, s0, fix, tabs⟩ E false B (defBody s_is_move) (m_is_move (s0.map (·.1))) := by
  have hpx : Passes (L2.CX P w) (cxOf (L2.CX P w) P w K mg base N_is_move "is_move" (defScope s_is_move) f cdv A outer s H E) E := passes_call (takes_of rfl rfl rfl rfl) (fun _ _ _ _ h => h)
  exact
  (mss_cons (ms_if (mt_w (mw_or (mt_ne rfl hr.units (me_len F rfl rfl (ma_cons (me_var 1) ma_nil)) me_int) (mw_or (mt_niS rfl (me_ix rfl (me_var 1) me_int) (me_globT rfl g_WORDS rfl)) (mw_or1 (mt_eq rfl hr.units (me_ix rfl (me_var 1) me_int) (me_ix rfl (me_var 1) me_int)))))) (mss_one (ms_ret me_bl)) mss_nil)
  (mss_one (ms_ret (me_and (me_call d_is_box (hr.mono (by first | decide | omega)) rfl hpx rfl (ma_cons (me_var 0) (ma_cons (me_ix rfl (me_var 1) me_int) ma_nil))) (me_one (me_call d_is_box (hr.mono (by first | decide | omega)) rfl hpx rfl (ma_cons (me_var 0) (ma_cons (me_ix rfl (me_var 1) me_int) ma_nil))))))))
theorem fn_is_move {P : Program} {w : World} {K : PySem.W.Frag} {mg : Str → Option Value} {base : Heap} (F : Free mg) (d_is_box : Df P w K mg base "is_box" 1 false 2 sp_is_box) (g_WORDS : GlobT K mg "WORDS" ["copy", "swap"]) {f : Addr} {fd : FuncData} (G : Fun K "is_move" "is_move" s_is_move f fd) : FnOk P w K mg base (L2.CX P w) 2 f fd ps_is_move (LSp K mg false 2 sp_is_move) :=
  fn_l3 (k := 1) G sc_is_move rfl m_is_move (fun s0 fix tabs B cdv A outer s H E hr => der_is_move F d_is_box g_WORDS s0 fix tabs B cdv A outer s H E hr) pu_is_move
/-! ### do_move -/
abbrev s_do_move : Stmt := topS 16
theorem sc_do_move : FnScope N_do_move ps_do_move (defScope s_do_move) := ⟨rfl, rfl, rfl, by decide +kernel, rfl, by decide +kernel, by decide +kernel⟩
theorem der_do_move {P : Program} {w : World} {K : PySem.W.Frag} {mg : Str → Option Value} {base : Heap} (F : Free mg) {f : Addr} (s0 : Option (Addr × Addr × List Int)) (fix : List (Addr × HO)) (tabs : List (Addr × Str)) (B : Hp) (cdv : Value) (A : Around) (outer : List Env) (s : Shared) (H : Hp) (E : XK)
    (hr : Room 0 (A.deeper (envOfC "do_move" (defScope s_do_move) s.heap.objs.size f cdv))) :
    MSs (cxOf (L2.CX P w) P w K mg base N_do_move "do_move" (defScope s_do_move) f cdv A outer s H E) ⟨K, s0, fix, tabs⟩ E false B (defBody s_do_move) (m_do_move none) := by
  have hpx : Passes (L2.CX P w) (cxOf (L2.CX P w) P w K mg base N_do_move "do_move" (defScope s_do_move) f cdv A outer s H E) E := passes_call (takes_of rfl rfl rfl rfl) (fun _ _ _ _ h => h)
  exact
  (mss_cons (ms_setT (t := .tp [2, 3, 4]) rfl (me_var 1) (pg_tp rfl (pgs_nm sc_do_move.nd (i := 2) rfl (by first | exact Or.inl rfl | exact Or.inr rfl) (pgs_nm sc_do_move.nd (i := 3) rfl (by first | exact Or.inl rfl | exact Or.inr rfl) (pgs_nm sc_do_move.nd (i := 4) rfl (by first | exact Or.inl rfl | exact Or.inr rfl) pgs_no)))))
  (mss_cons (ms_setL sc_do_move.nd (i := 5) rfl (by first | exact Or.inl rfl | exact Or.inr rfl) (me_ix rfl (me_var 0) (me_var 3)))
  (mss_cons (ms_setIx 0 (hi := (me_var 3)) (he := (me_ix rfl (me_var 0) (me_var 4))))
  (mss_one (ms_if (mt_eq rfl hr.units (me_var 2) me_str) (mss_one (ms_setIx 0 (hi := (me_var 4)) (he := (me_var 5)))) mss_nil)))))
theorem fn_do_move {P : Program} {w : World} {K : PySem.W.Frag} {mg : Str → Option Value} {base : Heap} (F : Free mg) {f : Addr} {fd : FuncData} (G : Fun K "do_move" "do_move" s_do_move f fd) : FnOk P w K mg base (L2.CX P w) 1 f fd ps_do_move (OSp K 1 sp_do_move) :=
  fn_l3o (k := 0) G sc_do_move rfl (by decide) (m_do_move none) (fun s0 fix tabs B cdv A outer s H E hr => der_do_move F s0 fix tabs B cdv A outer s H E hr) pu_do_move
/-! ### _law_same -/
abbrev s__law_same : Stmt := topS 26
theorem sc__law_same : FnScope N__law_same ps__law_same (defScope s__law_same) := ⟨rfl, rfl, rfl, by decide +kernel, rfl, by decide +kernel, by decide +kernel⟩
theorem der__law_same {P : Program} {w : World} {K : PySem.W.Frag} {mg : Str → Option Value} {base : Heap} (F : Free mg) {m : Nat} (d__law_same : Df P w K mg base "_law_same" (1 + m) false 2 (sp__law_same m)) {f : Addr} (s0 : Option (Addr × Addr × List Int)) (fix : List (Addr × HO)) (tabs : List (Addr × Str)) (B : Hp) (cdv : Value) (A : Around) (outer : List Env) (s : Shared) (H : Hp) (E : XK)
    (hr : Room (1 + m) (A.deeper (envOfC "_law_same" (defScope s__law_same) s.heap.objs.size f cdv))) :
    MSs (cxOf (L2.CX P w) P w K mg base N__law_same "_law_same" (defScope s__law_same) f cdv A outer s H E) ⟨K, s0, fix, tabs⟩ E false B (defBody s__law_same) (m__law_same m (s0.map (·.1))) := by
  have hpx : Passes (L2.CX P w) (cxOf (L2.CX P w) P w K mg base N__law_same "_law_same" (defScope s__law_same) f cdv A outer s H E) E := passes_call (takes_of rfl rfl rfl rfl) (fun _ _ _ _ h => h)
  exact
  (mss_cons (ms_if (mt_val (me_isi2 (S := "tuple") (T := "list") F rfl rfl (me_var 1) rfl F.tuple (by decide +kernel) rfl F.list (by decide +kernel))) (mss_cons (ms_if (mt_w (mw_or (mt_not (mt_val (me_isi2 (S := "tuple") (T := "list") F rfl rfl (me_var 0) rfl F.tuple (by decide +kernel) rfl F.list (by decide +kernel)))) (mw_or1 (mt_ne rfl hr.units (me_isi (T := "list") F rfl rfl (me_var 0) rfl F.list (by decide +kernel)) (me_isi (T := "list") F rfl rfl (me_var 1) rfl F.list (by decide +kernel)))))) (mss_one (ms_ret me_bl)) mss_nil)
    (mss_cons (ms_if (mt_ne rfl hr.units (me_len F rfl rfl (ma_cons (me_var 0) ma_nil)) (me_len F rfl rfl (ma_cons (me_var 1) ma_nil))) (mss_one (ms_ret me_bl)) mss_nil)
    (mss_one (ms_ret (me_eq rfl hr.units (MF.me (mf_lc (own := [("_law_k", 2)]) (t := (.nm 2)) rfl rfl sc__law_same.nd (mi_range rfl F.range (ma_cons (me_len F rfl rfl (ma_cons (me_var 1) ma_nil)) ma_nil)) (blkOk_by (N := N__law_same) (sc := defScope s__law_same) (by decide +kernel)) (by decide) (fun _ _ _ _ _ => (pg_nm sc__law_same.nd (i := 2) rfl (by first | exact Or.inl rfl | exact Or.inr rfl))) (fun _ _ _ _ _ => (mts_one (mt_not (mt_val (me_call d__law_same (hr.mono (by first | decide | omega)) rfl passL rfl (ma_cons (me_ix rfl (me_var 0) (me_var 2)) (ma_cons (me_ix rfl (me_var 1) (me_var 2)) ma_nil))))))) (fun _ _ _ _ _ => (me_var 2)))) (MF.me (mf_lst ma_nil))))))) mss_nil)
  (mss_cons (ms_if (mt_isN (me_var 1) me_non) (mss_one (ms_ret (me_isN (me_var 0) me_non))) mss_nil)
  (mss_cons (ms_if (mt_val (me_isi (T := "str") F rfl rfl (me_var 1) rfl F.str (by decide +kernel))) (mss_one (ms_ret (me_and (me_isi (T := "str") F rfl rfl (me_var 0) rfl F.str (by decide +kernel)) (me_one (me_eq rfl hr.units (me_var 0) (me_var 1)))))) mss_nil)
  (mss_cons (ms_if (mt_w (mw_or (mt_val (me_isi (T := "bool") F rfl rfl (me_var 1) rfl F.bool (by decide +kernel))) (mw_or1 (mt_val (me_isi (T := "bool") F rfl rfl (me_var 0) rfl F.bool (by decide +kernel)))))) (mss_one (ms_ret (me_and (me_isi (T := "bool") F rfl rfl (me_var 1) rfl F.bool (by decide +kernel)) (me_and (me_isi (T := "bool") F rfl rfl (me_var 0) rfl F.bool (by decide +kernel)) (me_one (me_eq rfl hr.units (me_var 0) (me_var 1))))))) mss_nil)
  (mss_one (ms_ret (me_and (me_isi (T := "int") F rfl rfl (me_var 0) rfl F.int (by decide +kernel)) (me_one (me_eq rfl hr.units (me_var 0) (me_var 1))))))))))
theorem fn__law_same {P : Program} {w : World} {K : PySem.W.Frag} {mg : Str → Option Value} {base : Heap} (F : Free mg) {f : Addr} {fd : FuncData} (G : Fun K "_law_same" "_law_same" s__law_same f fd) (b : L2.Binds K fd ps__law_same []) (g : mg "_law_same" = some (.ref f)) : ∀ m : Nat, FnOk P w K mg base (L2.CX P w) (1 + m) f fd ps__law_same (LSp K mg false 2 (sp__law_same m))
  | 0 => fn_no G sc__law_same no__law_same
  | m + 1 => fn_l3 (k := 1 + m) G sc__law_same rfl (fun sa => m__law_same m sa) (fun s0 fix tabs B cdv A outer s H E hr => der__law_same F ⟨⟨f, fd, ps__law_same, fn__law_same F G b g m, g, G.kp, b⟩⟩ s0 fix tabs B cdv A outer s H E hr) (pu__law_same m)
/-! ### law -/
abbrev s_law : Stmt := topS 40
theorem sc_law : FnScope N_law ps_law (defScope s_law) := ⟨rfl, rfl, rfl, by decide +kernel, rfl, by decide +kernel, by decide +kernel⟩
set_option maxHeartbeats 2000000 in
theorem der_law {P : Program} {w : World} {K : PySem.W.Frag} {mg : Str → Option Value} {base : Heap} (F : Free mg) (d__law_boxes : Df P w K mg base "_law_boxes" 2 false 1 sp__law_boxes) (d__law_called : Df P w K mg base "_law_called" 2 false 7 sp__law_called) (d__law_drawn : Df P w K mg base "_law_drawn" 1 false 2 sp__law_drawn) (d__law_house : Df P w K mg base "_law_house" 3 false 2 sp__law_house) (d__law_same : Df P w K mg base "_law_same" 5 false 2 (sp__law_same 4)) (d__law_step : Df P w K mg base "_law_step" 3 false 2 sp__law_step) (d__law_worths : Df P w K mg base "_law_worths" 2 false 2 sp__law_worths) (d_called : Df P w K mg base "called" 4 false 7 sp_called) (dT_called : DfT P w K mg base "called" 4 7 sp3_called) (zVE : mg "ValueError" = none) (gM : ∃ A, mg "MoveError" = some (.ref A)) {gk : Addr} {odk ank : Option Addr} {slk : Array (Option Value)} {ock kVk dck pmk cdk ctk : Value} (gK : mg "_law_kind" = some (.ref gk)) (kK : PySem.W.keepIn K (.ref gk) = true) (lK : K.lookup gk = some ⟨ock, odk, .func (PySem.W.fnOf "_law_kind" "_law_kind" (defArgs s__law_kind) (defBody s__law_kind) (defScope s__law_kind) .none kVk dck pmk ank cdk ctk), slk⟩) (cK : PySem.W.codeIn K cdk "_law_kind" = true) (bK : L2.Binds K (PySem.W.fnOf "_law_kind" "_law_kind" (defArgs s__law_kind) (defBody s__law_kind) (defScope s__law_kind) .none kVk dck pmk ank cdk ctk) ["_law_work"] [])
    (kt : ∀ w ∈ ([] : List Str), ∃ D, mg w = some (.ref D) ∧ Kinds K mg D w) (ktn : ∀ w ∈ (["BadMove"] : List Str), ∃ D, mg w = some (.ref D) ∧ Kinds K mg D w ∧ XfC K D ∧ PySem.W.findIn K (.ref D) (fieldOf w) = some none) {c T : Addr} (TB : LamX.TabB base mg c T) {f : Addr} (A : Around) (outer : List Env) (s : Shared) (H : Hp) (E : XK) (hr : Room 6 (A.deeper (envOfC "law" (defScope s_law) s.heap.objs.size f (.ref c)))) (s0 : Option (Addr × Addr × List Int)) (fix : List (Addr × HO)) (hfx : ∀ p ∈ fix, notTbl p.2 = true) (B : Hp) :
    MSs (cxOf (L2.CX P w) P w K mg base N_law "law" (defScope s_law) f (.ref c) A outer s H E) ⟨K, s0, fix, [(T, lamQ)]⟩ E false B (defBody s_law).tail (m_law_k10 (s0.map (·.1))) := by
  have hpx : Passes (L2.CX P w) (cxOf (L2.CX P w) P w K mg base N_law "law" (defScope s_law) f (.ref c) A outer s H E) E := passes_call (takes_of rfl rfl rfl rfl) (fun _ _ _ _ h => h)
  exact
  (mss_cons (ms_for (t := .nm 2) (passes_of rfl) rfl rfl (mi_range rfl F.range (ma_cons me_int ma_nil)) (pg_nm sc_law.nd (i := 2) rfl (by first | exact Or.inl rfl | exact Or.inr rfl)) (mss_cons (ms_set sc_law.nd (i := 3) rfl (by first | exact Or.inl rfl | exact Or.inr rfl) (me_call d__law_boxes (hr.mono (by first | decide | omega)) rfl hpx rfl (ma_cons (me_var 1) ma_nil)))
    (mss_cons (ms_set sc_law.nd (i := 4) rfl (by first | exact Or.inl rfl | exact Or.inr rfl) (me_call d__law_house (hr.mono (by first | decide | omega)) rfl hpx rfl (ma_cons (me_var 1) (ma_cons (me_var 3) ma_nil))))
    (mss_cons (ms_par rfl sc_law.nd (i := 5) (j := 6) rfl rfl (by decide) rfl rfl (ma_cons (me_call d__law_worths (hr.mono (by first | decide | omega)) rfl hpx rfl (ma_cons (me_var 1) (ma_cons (me_var 3) ma_nil))) (ma_cons (me_call d__law_worths (hr.mono (by first | decide | omega)) rfl hpx rfl (ma_cons (me_var 1) (ma_cons (me_var 3) ma_nil))) ma_nil)) (by first | rfl | kernel_rfl))
    (mss_cons (ms_set sc_law.nd (i := 7) rfl (by first | exact Or.inl rfl | exact Or.inr rfl) (me_call d__law_worths (hr.mono (by first | decide | omega)) rfl hpx rfl (ma_cons (me_var 1) (ma_cons (me_call d__law_drawn (hr.mono (by first | decide | omega)) rfl hpx rfl (ma_cons (me_var 1) (ma_cons (me_ix rfl (MF.me (mf_lst (ma_cons me_int (ma_cons me_int (ma_cons me_int (ma_cons me_int ma_nil)))))) (me_call d__law_drawn (hr.mono (by first | decide | omega)) rfl hpx rfl (ma_cons (me_var 1) (ma_cons me_int ma_nil)))) ma_nil))) ma_nil))))
    (mss_cons (ms_setLcS (i := 8) (own := [("_law_k", 9)]) (t := (.nm 9)) rfl rfl sc_law.nd rfl rfl (sw_true rfl rfl rfl (by decide +kernel)) (mi_range rfl F.range (ma_cons (me_call d__law_drawn (hr.mono (by first | decide | omega)) rfl hpx rfl (ma_cons (me_var 1) (ma_cons me_int ma_nil))) ma_nil)) (blkOk_by (N := N_law) (sc := defScope s_law) (by decide +kernel)) (by decide) (fun _ _ _ _ _ => (pg_nm sc_law.nd (i := 9) rfl (by first | exact Or.inl rfl | exact Or.inr rfl))) (fun _ _ _ _ _ => mts_nil) (fun _ _ _ _ _ => (me_call d__law_step (hr.mono (by first | decide | omega)) rfl passL rfl (ma_cons (me_var 1) (ma_cons (me_var 3) ma_nil)))))
    (mss_cons (ms_set sc_law.nd (i := 10) rfl (by first | exact Or.inl rfl | exact Or.inr rfl) (me_call d__law_drawn (hr.mono (by first | decide | omega)) rfl hpx rfl (ma_cons (me_var 1) (ma_cons (me_pow me_int me_int) ma_nil))))
    (mss_cons (ms_set sc_law.nd (i := 11) rfl (by first | exact Or.inl rfl | exact Or.inr rfl) (me_sub (me_call d__law_drawn (hr.mono (by first | decide | omega)) rfl hpx rfl (ma_cons (me_var 1) (ma_cons me_int ma_nil))) (me_intB F rfl (ma_cons (me_eq rfl hr.units (me_call d__law_drawn (hr.mono (by first | decide | omega)) rfl hpx rfl (ma_cons (me_var 1) (ma_cons me_int ma_nil))) me_int) ma_nil))))
    (mss_cons (ms_set sc_law.nd (i := 12) rfl (by first | exact Or.inl rfl | exact Or.inr rfl) (me_tup (ma_cons (MF.me (mf_list F rfl rfl (ma_cons (me_var 5) ma_nil))) (ma_cons (MF.me (mf_list F rfl rfl (ma_cons (me_var 7) ma_nil))) (ma_cons (MF.me (mf_list F rfl rfl (ma_cons (me_var 8) ma_nil))) (ma_cons (MF.me (mf_list F rfl rfl (ma_cons (me_var 6) ma_nil))) ma_nil))))))
    (mss_cons (ms_set sc_law.nd (i := 13) rfl (by first | exact Or.inl rfl | exact Or.inr rfl) (me_call d__law_called (hr.mono (by first | decide | omega)) rfl hpx rfl (ma_cons (me_var 5) (ma_cons (me_var 7) (ma_cons (me_var 8) (ma_cons (me_var 4) (ma_cons (me_var 10) (ma_cons (me_var 6) (ma_cons (me_var 11) ma_nil)))))))))
    (mss_one (ms_for (t := .nm 14) (passes_of rfl) rfl rfl (mi_range rfl F.range (ma_cons me_int ma_nil)) (pg_nm sc_law.nd (i := 14) rfl (by first | exact Or.inl rfl | exact Or.inr rfl)) (mss_kindT (i := 15) (j := 16) rfl (mt_kind3 (k := 4) (ws := ([] : List Str)) (wn := (["BadMove"] : List Str)) rfl hfx kt ktn rfl gK kK lK cK bK sc__law_kind rfl (Or.inl rfl) (gives_kindN rfl F zVE gM (fun _ => ((hr.mono (j := 1) (by decide)).deeper _).units) (by decide +kernel) (by decide +kernel)) TB rfl (mem_tab rfl (lam_q (by rfl))) (un_tab rfl (lam_q (by rfl))) (hr.mono (by decide)) (LamX.lamS_by (sc := defScope s_law) (by decide +kernel)) rfl (fun _ _ _ _ _ => rfl) (fun _ _ _ _ _ _ _ hr => (mt_call3 dT_called (hr.mono (by first | decide | omega)) rfl (passes_call (takes_of rfl rfl rfl rfl) (fun _ _ _ _ h => h)) rfl (ma_cons (me_ix rfl (me_var 12) me_int) (ma_cons (me_ix rfl (me_var 12) me_int) (ma_cons (me_ix rfl (me_var 12) me_int) (ma_cons (me_var 4) (ma_cons (me_var 10) (ma_cons (me_ix rfl (me_var 12) me_int) (ma_cons (me_var 11) ma_nil)))))))))) sc_law.nd rfl (by first | exact Or.inl rfl | exact Or.inr rfl) (by show 15 < N_law.length; decide) (mt_w (mw_or (mt_not (mt_val (me_call d__law_same (hr.mono (by first | decide | omega)) rfl hpx rfl (ma_cons (me_var 15) (ma_cons (me_var 13) ma_nil))))) (mw_or1 (mt_ne rfl hr.units (me_var 12) (me_tup (ma_cons (me_var 5) (ma_cons (me_var 7) (ma_cons (me_var 8) (ma_cons (me_var 6) ma_nil))))))))) (mss_one (ms_ret me_bl)) (mt_eq rfl hr.units (me_len F rfl rfl (ma_cons (me_var 15) ma_nil)) me_int) (passes_of rfl) rfl (pv 15) (pg_nm sc_law.nd (i := 16) rfl (by first | exact Or.inl rfl | exact Or.inr rfl)) (fun _ => (mss_one (ms_append 16 (h := ps_expr (pe_bm PySem.F.plainAttrs_list PySem.F.slot_list_append PySem.F.type_list_append mt_append (pv 16) (pa_cons me_int pa_nil)))))))))))))))))))
  (mss_one (ms_ret me_bl)))
theorem fn_law {P : Program} {w : World} {K : PySem.W.Frag} {mg : Str → Option Value} {base : Heap} (F : Free mg) (d__law_boxes : Df P w K mg base "_law_boxes" 2 false 1 sp__law_boxes) (d__law_called : Df P w K mg base "_law_called" 2 false 7 sp__law_called) (d__law_drawn : Df P w K mg base "_law_drawn" 1 false 2 sp__law_drawn) (d__law_house : Df P w K mg base "_law_house" 3 false 2 sp__law_house) (d__law_same : Df P w K mg base "_law_same" 5 false 2 (sp__law_same 4)) (d__law_step : Df P w K mg base "_law_step" 3 false 2 sp__law_step) (d__law_worths : Df P w K mg base "_law_worths" 2 false 2 sp__law_worths) (d_called : Df P w K mg base "called" 4 false 7 sp_called) (dT_called : DfT P w K mg base "called" 4 7 sp3_called) (zVE : mg "ValueError" = none) (gM : ∃ A, mg "MoveError" = some (.ref A)) {gk : Addr} {odk ank : Option Addr} {slk : Array (Option Value)} {ock kVk dck pmk cdk ctk : Value} (gK : mg "_law_kind" = some (.ref gk)) (kK : PySem.W.keepIn K (.ref gk) = true) (lK : K.lookup gk = some ⟨ock, odk, .func (PySem.W.fnOf "_law_kind" "_law_kind" (defArgs s__law_kind) (defBody s__law_kind) (defScope s__law_kind) .none kVk dck pmk ank cdk ctk), slk⟩) (cK : PySem.W.codeIn K cdk "_law_kind" = true) (bK : L2.Binds K (PySem.W.fnOf "_law_kind" "_law_kind" (defArgs s__law_kind) (defBody s__law_kind) (defScope s__law_kind) .none kVk dck pmk ank cdk ctk) ["_law_work"] [])
    (kt : ∀ w ∈ ([] : List Str), ∃ D, mg w = some (.ref D) ∧ Kinds K mg D w) (ktn : ∀ w ∈ (["BadMove"] : List Str), ∃ D, mg w = some (.ref D) ∧ Kinds K mg D w ∧ XfC K D ∧ PySem.W.findIn K (.ref D) (fieldOf w) = some none) {c T : Addr} (TB : LamX.TabB base mg c T) {fS : Addr} {fdS : FuncData} (GS : Fun K "_law_start" "_law_start" s__law_start fS fdS) (bS : L2.Binds K fdS ["_law_script"] []) (gS : mg "_law_start" = some (.ref fS)) {f : Addr} {od an : Option Addr} {osl : Array (Option Value)} {oc kV doc pm ct : Value} (lk : K.lookup f = some ⟨oc, od, .func (PySem.W.fnOf "law" "law" (defArgs s_law) (defBody s_law) (defScope s_law) .none kV doc pm an (.ref c) ct), osl⟩) (hcd : PySem.W.codeIn K (.ref c) "law" = true) :
    FnOk P w K mg base (L2.CX P w) 7 f (PySem.W.fnOf "law" "law" (defArgs s_law) (defBody s_law) (defScope s_law) .none kV doc pm an (.ref c) ct) ps_law (spLawT K T) := by
  refine law_l3T (k := 6) (N := N_law) (T := T) lk hcd sc_law (fun sa => m_law_k10 sa) (first := (defBody s_law).head!) (rest := (defBody s_law).tail) rfl (by decide) (fun A outer s H E hr => ⟨?_, fun s0 fix hfx B => der_law F d__law_boxes d__law_called d__law_drawn d__law_house d__law_same d__law_step d__law_worths d_called dT_called zVE gM gK kK lK cK bK kt ktn TB A outer s H E hr s0 fix hfx B⟩) pu_law_k10
  exact ps_set (i := 1) sc_law.nd rfl (by first | exact Or.inl rfl | exact Or.inr rfl) (pe_call (fn__law_start (k := 0) GS) (hr.mono (by decide)) rfl gS GS.kp bS .nil (passes_call (takes_of rfl rfl rfl rfl) (fun _ _ _ _ h => h)) (pa_cons (pe_either (pv 0) (pe_frz (pv 0))) pa_nil))
end L3
set_option pp.maxSteps 400
namespace L3
open PySem PySem.Spec PyProof.Rows L2
set_option maxHeartbeats 8000000 in
theorem all_mk {l : PySem.W.OpenLaw} {w : World} {K : PySem.W.Frag} {h : Heap} {mg : Str → Option Value} {fa f0 f1 f2 f3 f4 f5 f6 f7 f8 f9 f10 f11 f12 f13 f14 f15 f16 f17 f18 f19 cT TT A_BadLead A_BadSpare A_BadMove A_NoWay A_BadWord A_BadHouse A_BadCall A_BadText A_MoveError I_BadMove P_WORDS CR r_init r_call r_can r_do : Addr} (X : K.In h) (G : h.Ns mainGlobals mg) (hfa : mg "law" = some (.ref fa))
    {od0 an0 od1 an1 od2 an2 od3 an3 od4 an4 od5 an5 od6 an6 od7 an7 od8 an8 od9 an9 od10 an10 od11 an11 od12 an12 od13 an13 od14 an14 od15 an15 od16 an16 od17 an17 od18 an18 od19 an19 odt odi_BadMove ani_BadMove odr_init anr_init odr_call anr_call odr_can anr_can odr_do anr_do : Option Addr} {sl0 sl1 sl2 sl3 sl4 sl5 sl6 sl7 sl8 sl9 sl10 sl11 sl12 sl13 sl14 sl15 sl16 sl17 sl18 sl19 slt sli_BadMove psl_WORDS slr_init slr_call slr_can slr_do : Array (Option Value)} {oc0 kV0 dc0 pm0 ct0 cd0 oc1 kV1 dc1 pm1 ct1 cd1 oc2 kV2 dc2 pm2 ct2 cd2 oc3 kV3 dc3 pm3 ct3 cd3 oc4 kV4 dc4 pm4 ct4 cd4 oc5 kV5 dc5 pm5 ct5 cd5 oc6 kV6 dc6 pm6 ct6 cd6 oc7 kV7 dc7 pm7 ct7 cd7 oc8 kV8 dc8 pm8 ct8 cd8 oc9 kV9 dc9 pm9 ct9 cd9 oc10 kV10 dc10 pm10 ct10 cd10 oc11 kV11 dc11 pm11 ct11 cd11 oc12 kV12 dc12 pm12 ct12 cd12 oc13 kV13 dc13 pm13 ct13 cd13 oc14 kV14 dc14 pm14 ct14 cd14 oc15 kV15 dc15 pm15 ct15 cd15 oc16 kV16 dc16 pm16 ct16 cd16 oc17 kV17 dc17 pm17 ct17 cd17 oc18 kV18 dc18 pm18 ct18 cd18 oc19 kV19 dc19 pm19 ct19 oct oci_BadMove kVi_BadMove dci_BadMove pmi_BadMove cdi_BadMove cti_BadMove ocr_init kVr_init dcr_init pmr_init cdr_init ctr_init ocr_call kVr_call dcr_call pmr_call cdr_call ctr_call ocr_can kVr_can dcr_can pmr_can cdr_can ctr_can ocr_do kVr_do dcr_do pmr_do cdr_do ctr_do : Value} {t0 t1 tw0_WORDS tw1_WORDS : Tok} {vst : Array Value} {nm_BadMove qq_BadMove : _} {NN_BadMove : _} {bs_BadMove bm_BadMove : _} {sn_BadMove : _} {sb_BadMove : _} {ab_BadMove : _} {co_BadMove : _} {dd_BadMove : _} {j0_BadMove : _} {j1_BadMove : _} {j2_BadMove : _} {j3_BadMove : _} {j5_BadMove : _} {nn_WORDS : Nat}
    (a0 : PySem.W.nsIn K mainGlobals "_law_start" = some (some (.ref f0)))
    (l0 : K.lookup f0 = some ⟨oc0, od0, .func (PySem.W.fnOf "_law_start" "_law_start" (defArgs s__law_start) (defBody s__law_start) (defScope s__law_start) .none kV0 dc0 pm0 an0 cd0 ct0), sl0⟩)
    (c0 : PySem.W.codeIn K cd0 "_law_start" = true)
    (k0 : PySem.W.keepIn K (.ref f0) = true)
    (a1 : PySem.W.nsIn K mainGlobals "_law_drawn" = some (some (.ref f1)))
    (l1 : K.lookup f1 = some ⟨oc1, od1, .func (PySem.W.fnOf "_law_drawn" "_law_drawn" (defArgs s__law_drawn) (defBody s__law_drawn) (defScope s__law_drawn) .none kV1 dc1 pm1 an1 cd1 ct1), sl1⟩)
    (c1 : PySem.W.codeIn K cd1 "_law_drawn" = true)
    (k1 : PySem.W.keepIn K (.ref f1) = true)
    (a2 : PySem.W.nsIn K mainGlobals "_law_boxes" = some (some (.ref f2)))
    (l2 : K.lookup f2 = some ⟨oc2, od2, .func (PySem.W.fnOf "_law_boxes" "_law_boxes" (defArgs s__law_boxes) (defBody s__law_boxes) (defScope s__law_boxes) .none kV2 dc2 pm2 an2 cd2 ct2), sl2⟩)
    (c2 : PySem.W.codeIn K cd2 "_law_boxes" = true)
    (k2 : PySem.W.keepIn K (.ref f2) = true)
    (a3 : PySem.W.nsIn K mainGlobals "_law_order" = some (some (.ref f3)))
    (l3 : K.lookup f3 = some ⟨oc3, od3, .func (PySem.W.fnOf "_law_order" "_law_order" (defArgs s__law_order) (defBody s__law_order) (defScope s__law_order) .none kV3 dc3 pm3 an3 cd3 ct3), sl3⟩)
    (c3 : PySem.W.codeIn K cd3 "_law_order" = true)
    (k3 : PySem.W.keepIn K (.ref f3) = true)
    (a4 : PySem.W.nsIn K mainGlobals "_law_house" = some (some (.ref f4)))
    (l4 : K.lookup f4 = some ⟨oc4, od4, .func (PySem.W.fnOf "_law_house" "_law_house" (defArgs s__law_house) (defBody s__law_house) (defScope s__law_house) .none kV4 dc4 pm4 an4 cd4 ct4), sl4⟩)
    (c4 : PySem.W.codeIn K cd4 "_law_house" = true)
    (k4 : PySem.W.keepIn K (.ref f4) = true)
    (a5 : PySem.W.nsIn K mainGlobals "_law_worths" = some (some (.ref f5)))
    (l5 : K.lookup f5 = some ⟨oc5, od5, .func (PySem.W.fnOf "_law_worths" "_law_worths" (defArgs s__law_worths) (defBody s__law_worths) (defScope s__law_worths) .none kV5 dc5 pm5 an5 cd5 ct5), sl5⟩)
    (c5 : PySem.W.codeIn K cd5 "_law_worths" = true)
    (k5 : PySem.W.keepIn K (.ref f5) = true)
    (a6 : PySem.W.nsIn K mainGlobals "_law_can" = some (some (.ref f6)))
    (l6 : K.lookup f6 = some ⟨oc6, od6, .func (PySem.W.fnOf "_law_can" "_law_can" (defArgs s__law_can) (defBody s__law_can) (defScope s__law_can) .none kV6 dc6 pm6 an6 cd6 ct6), sl6⟩)
    (c6 : PySem.W.codeIn K cd6 "_law_can" = true)
    (k6 : PySem.W.keepIn K (.ref f6) = true)
    (a7 : PySem.W.nsIn K mainGlobals "_law_moved" = some (some (.ref f7)))
    (l7 : K.lookup f7 = some ⟨oc7, od7, .func (PySem.W.fnOf "_law_moved" "_law_moved" (defArgs s__law_moved) (defBody s__law_moved) (defScope s__law_moved) .none kV7 dc7 pm7 an7 cd7 ct7), sl7⟩)
    (c7 : PySem.W.codeIn K cd7 "_law_moved" = true)
    (k7 : PySem.W.keepIn K (.ref f7) = true)
    (a8 : PySem.W.nsIn K mainGlobals "_law_called" = some (some (.ref f8)))
    (l8 : K.lookup f8 = some ⟨oc8, od8, .func (PySem.W.fnOf "_law_called" "_law_called" (defArgs s__law_called) (defBody s__law_called) (defScope s__law_called) .none kV8 dc8 pm8 an8 cd8 ct8), sl8⟩)
    (c8 : PySem.W.codeIn K cd8 "_law_called" = true)
    (k8 : PySem.W.keepIn K (.ref f8) = true)
    (a9 : PySem.W.nsIn K mainGlobals "_law_far" = some (some (.ref f9)))
    (l9 : K.lookup f9 = some ⟨oc9, od9, .func (PySem.W.fnOf "_law_far" "_law_far" (defArgs s__law_far) (defBody s__law_far) (defScope s__law_far) .none kV9 dc9 pm9 an9 cd9 ct9), sl9⟩)
    (c9 : PySem.W.codeIn K cd9 "_law_far" = true)
    (k9 : PySem.W.keepIn K (.ref f9) = true)
    (a10 : PySem.W.nsIn K mainGlobals "_law_step" = some (some (.ref f10)))
    (l10 : K.lookup f10 = some ⟨oc10, od10, .func (PySem.W.fnOf "_law_step" "_law_step" (defArgs s__law_step) (defBody s__law_step) (defScope s__law_step) .none kV10 dc10 pm10 an10 cd10 ct10), sl10⟩)
    (c10 : PySem.W.codeIn K cd10 "_law_step" = true)
    (k10 : PySem.W.keepIn K (.ref f10) = true)
    (a11 : PySem.W.nsIn K mainGlobals "_law_kind" = some (some (.ref f11)))
    (l11 : K.lookup f11 = some ⟨oc11, od11, .func (PySem.W.fnOf "_law_kind" "_law_kind" (defArgs s__law_kind) (defBody s__law_kind) (defScope s__law_kind) .none kV11 dc11 pm11 an11 cd11 ct11), sl11⟩)
    (c11 : PySem.W.codeIn K cd11 "_law_kind" = true)
    (k11 : PySem.W.keepIn K (.ref f11) = true)
    (a12 : PySem.W.nsIn K mainGlobals "is_box" = some (some (.ref f12)))
    (l12 : K.lookup f12 = some ⟨oc12, od12, .func (PySem.W.fnOf "is_box" "is_box" (defArgs s_is_box) (defBody s_is_box) (defScope s_is_box) .none kV12 dc12 pm12 an12 cd12 ct12), sl12⟩)
    (c12 : PySem.W.codeIn K cd12 "is_box" = true)
    (k12 : PySem.W.keepIn K (.ref f12) = true)
    (a13 : PySem.W.nsIn K mainGlobals "are_rising" = some (some (.ref f13)))
    (l13 : K.lookup f13 = some ⟨oc13, od13, .func (PySem.W.fnOf "are_rising" "are_rising" (defArgs s_are_rising) (defBody s_are_rising) (defScope s_are_rising) .none kV13 dc13 pm13 an13 cd13 ct13), sl13⟩)
    (c13 : PySem.W.codeIn K cd13 "are_rising" = true)
    (k13 : PySem.W.keepIn K (.ref f13) = true)
    (a14 : PySem.W.nsIn K mainGlobals "need_house" = some (some (.ref f14)))
    (l14 : K.lookup f14 = some ⟨oc14, od14, .func (PySem.W.fnOf "need_house" "need_house" (defArgs s_need_house) (defBody s_need_house) (defScope s_need_house) .none kV14 dc14 pm14 an14 cd14 ct14), sl14⟩)
    (c14 : PySem.W.codeIn K cd14 "need_house" = true)
    (k14 : PySem.W.keepIn K (.ref f14) = true)
    (a15 : PySem.W.nsIn K mainGlobals "is_move" = some (some (.ref f15)))
    (l15 : K.lookup f15 = some ⟨oc15, od15, .func (PySem.W.fnOf "is_move" "is_move" (defArgs s_is_move) (defBody s_is_move) (defScope s_is_move) .none kV15 dc15 pm15 an15 cd15 ct15), sl15⟩)
    (c15 : PySem.W.codeIn K cd15 "is_move" = true)
    (k15 : PySem.W.keepIn K (.ref f15) = true)
    (a16 : PySem.W.nsIn K mainGlobals "do_move" = some (some (.ref f16)))
    (l16 : K.lookup f16 = some ⟨oc16, od16, .func (PySem.W.fnOf "do_move" "do_move" (defArgs s_do_move) (defBody s_do_move) (defScope s_do_move) .none kV16 dc16 pm16 an16 cd16 ct16), sl16⟩)
    (c16 : PySem.W.codeIn K cd16 "do_move" = true)
    (k16 : PySem.W.keepIn K (.ref f16) = true)
    (a17 : PySem.W.nsIn K mainGlobals "called" = some (some (.ref f17)))
    (l17 : K.lookup f17 = some ⟨oc17, od17, .func (PySem.W.fnOf "called" "called" (defArgs s_called) (defBody s_called) (defScope s_called) .none kV17 dc17 pm17 an17 cd17 ct17), sl17⟩)
    (c17 : PySem.W.codeIn K cd17 "called" = true)
    (k17 : PySem.W.keepIn K (.ref f17) = true)
    (a18 : PySem.W.nsIn K mainGlobals "_law_same" = some (some (.ref f18)))
    (l18 : K.lookup f18 = some ⟨oc18, od18, .func (PySem.W.fnOf "_law_same" "_law_same" (defArgs s__law_same) (defBody s__law_same) (defScope s__law_same) .none kV18 dc18 pm18 an18 cd18 ct18), sl18⟩)
    (c18 : PySem.W.codeIn K cd18 "_law_same" = true)
    (k18 : PySem.W.keepIn K (.ref f18) = true)
    (a19 : PySem.W.nsIn K mainGlobals "law" = some (some (.ref f19)))
    (l19 : K.lookup f19 = some ⟨oc19, od19, .func (PySem.W.fnOf "law" "law" (defArgs s_law) (defBody s_law) (defScope s_law) .none kV19 dc19 pm19 an19 (.ref cT) ct19), sl19⟩)
    (c19 : PySem.W.codeIn K (.ref cT) "law" = true)
    (k19 : PySem.W.keepIn K (.ref f19) = true)
    (z0 : PySem.W.nsIn K mainGlobals "len" = some none)
    (z1 : PySem.W.nsIn K mainGlobals "set" = some none)
    (z2 : PySem.W.nsIn K mainGlobals "dict" = some none)
    (z3 : PySem.W.nsIn K mainGlobals "range" = some none)
    (z4 : PySem.W.nsIn K mainGlobals "sorted" = some none)
    (z5 : PySem.W.nsIn K mainGlobals "list" = some none)
    (z6 : PySem.W.nsIn K mainGlobals "tuple" = some none)
    (z7 : PySem.W.nsIn K mainGlobals "min" = some none)
    (z8 : PySem.W.nsIn K mainGlobals "max" = some none)
    (z9 : PySem.W.nsIn K mainGlobals "int" = some none)
    (z10 : PySem.W.nsIn K mainGlobals "str" = some none)
    (z11 : PySem.W.nsIn K mainGlobals "isinstance" = some none)
    (z12 : PySem.W.nsIn K mainGlobals "bool" = some none)
    (z13 : PySem.W.nsIn K mainGlobals "zip" = some none)
    (z14 : PySem.W.nsIn K mainGlobals "enumerate" = some none)
    (z15 : PySem.W.nsIn K mainGlobals "ValueError" = some none)
    (v0 : PySem.W.nsIn K mainGlobals "MOST_BOXES" = some (some (.int 10 t0)))
    (v1 : PySem.W.nsIn K mainGlobals "MOST_INS" = some (some (.int 4 t1)))
    (tb0 : K.lookup cT = some ⟨oct, odt, .fields vst, slt⟩)
    (tb1 : vst[11]? = some (.ref TT))
    (nT : K.lookup TT = none)
    (e_BadLead : PySem.W.nsIn K mainGlobals "BadLead" = some (some (.ref A_BadLead)))
    (ic_BadLead : PySem.W.isClsIn K A_BadLead = true)
    (it_BadLead : PySem.W.typeIn K (.ref A_BadLead) = some (.type "type"))
    (e_BadSpare : PySem.W.nsIn K mainGlobals "BadSpare" = some (some (.ref A_BadSpare)))
    (ic_BadSpare : PySem.W.isClsIn K A_BadSpare = true)
    (it_BadSpare : PySem.W.typeIn K (.ref A_BadSpare) = some (.type "type"))
    (e_BadMove : PySem.W.nsIn K mainGlobals "BadMove" = some (some (.ref A_BadMove)))
    (ic_BadMove : PySem.W.isClsIn K A_BadMove = true)
    (it_BadMove : PySem.W.typeIn K (.ref A_BadMove) = some (.type "type"))
    (e_NoWay : PySem.W.nsIn K mainGlobals "NoWay" = some (some (.ref A_NoWay)))
    (ic_NoWay : PySem.W.isClsIn K A_NoWay = true)
    (it_NoWay : PySem.W.typeIn K (.ref A_NoWay) = some (.type "type"))
    (e_BadWord : PySem.W.nsIn K mainGlobals "BadWord" = some (some (.ref A_BadWord)))
    (ic_BadWord : PySem.W.isClsIn K A_BadWord = true)
    (it_BadWord : PySem.W.typeIn K (.ref A_BadWord) = some (.type "type"))
    (e_BadHouse : PySem.W.nsIn K mainGlobals "BadHouse" = some (some (.ref A_BadHouse)))
    (ic_BadHouse : PySem.W.isClsIn K A_BadHouse = true)
    (it_BadHouse : PySem.W.typeIn K (.ref A_BadHouse) = some (.type "type"))
    (e_BadCall : PySem.W.nsIn K mainGlobals "BadCall" = some (some (.ref A_BadCall)))
    (ic_BadCall : PySem.W.isClsIn K A_BadCall = true)
    (it_BadCall : PySem.W.typeIn K (.ref A_BadCall) = some (.type "type"))
    (e_BadText : PySem.W.nsIn K mainGlobals "BadText" = some (some (.ref A_BadText)))
    (ic_BadText : PySem.W.isClsIn K A_BadText = true)
    (it_BadText : PySem.W.typeIn K (.ref A_BadText) = some (.type "type"))
    (e_MoveError : PySem.W.nsIn K mainGlobals "MoveError" = some (some (.ref A_MoveError)))
    (ic_MoveError : PySem.W.isClsIn K A_MoveError = true)
    (it_MoveError : PySem.W.typeIn K (.ref A_MoveError) = some (.type "type"))
    (x3_MoveError : PySem.W.subIn K (.ref A_MoveError) (.type "BaseException") = some true)
    (y1 : PySem.W.specialIn K (.builtin "object.__class__") "__get__" = some (some (.builtin "getset_descriptor.__get__")))
    (y2 : PySem.W.takesIn K (.builtin "object.__class__") = some true)
    (x1_BadMove : PySem.W.findIn K (.ref A_BadMove) "__getattribute__" = some (some (.builtin "BaseException.__getattribute__")))
    (x2_BadMove : PySem.W.findIn K (.ref A_BadMove) "__getattr__" = some none)
    (x3_BadMove : PySem.W.subIn K (.ref A_BadMove) (.type "BaseException") = some true)
    (x4_BadMove : PySem.W.hasDictIn K A_BadMove = true)
    (x5_BadMove : PySem.W.findIn K (.ref A_BadMove) "__class__" = some (some (.builtin "object.__class__")))
    (x6_BadMove : PySem.W.mroIn K A_BadMove (.type "object") = some true)
    (x7_BadMove : PySem.W.subIn K (.ref A_BadMove) (.ref A_MoveError) = some true)
    (x8_BadMove : PySem.W.subIn K (.ref A_BadMove) (.type "ValueError") = some true)
    (q_BadMove_BadLead : PySem.W.subIn K (.ref A_BadMove) (.ref A_BadLead) = some false)
    (q_BadMove_BadSpare : PySem.W.subIn K (.ref A_BadMove) (.ref A_BadSpare) = some false)
    (q_BadMove_BadMove : PySem.W.subIn K (.ref A_BadMove) (.ref A_BadMove) = some true)
    (q_BadMove_NoWay : PySem.W.subIn K (.ref A_BadMove) (.ref A_NoWay) = some false)
    (q_BadMove_BadWord : PySem.W.subIn K (.ref A_BadMove) (.ref A_BadWord) = some false)
    (q_BadMove_BadHouse : PySem.W.subIn K (.ref A_BadMove) (.ref A_BadHouse) = some false)
    (q_BadMove_BadCall : PySem.W.subIn K (.ref A_BadMove) (.ref A_BadCall) = some false)
    (q_BadMove_BadText : PySem.W.subIn K (.ref A_BadMove) (.ref A_BadText) = some false)
    (x9_BadMove : PySem.W.findIn K (.ref A_BadMove) "number" = some none)
    (mb1 : PySem.W.specialIn K (.ref A_MoveError) "__getattribute__" = some (some (.builtin "type.__getattribute__")))
    (mb2 : PySem.W.typeIn K (.ref A_MoveError) = some (.type "type"))
    (mb3 : PySem.W.readsIn K A_MoveError (.type "type") = true)
    (mb4 : PySem.W.findCls K (.ref A_MoveError) (.type "type") "__init__" = some (.val (.builtin "ValueError.__init__")))
    (n1_BadMove : K.lookup A_BadMove = some (excClassObj nm_BadMove qq_BadMove A_BadMove NN_BadMove bs_BadMove bm_BadMove true sn_BadMove sb_BadMove ab_BadMove co_BadMove dd_BadMove j0_BadMove j1_BadMove j2_BadMove j3_BadMove j5_BadMove "ValueError.__new__"))
    (n2_BadMove : PySem.HandSPX.refsVE bm_BadMove = true)
    (n3_BadMove : PySem.W.findIn K (.ref A_BadMove) "__setattr__" = some (some (.builtin "object.__setattr__")))
    (n4_BadMove : PySem.W.subIn K (.ref A_BadMove) (.type "BaseException") = some true)
    (n5_BadMove : PySem.W.typeIn K (.ref A_BadMove) = some (.type "type"))
    (n6_BadMove : PySem.W.keepIn K (.ref A_BadMove) = true)
    (n7_BadMove : PySem.W.findIn K (.ref A_BadMove) "number" = some none)
    (n8_BadMove : PySem.W.findIn K (.ref A_BadMove) "__init__" = some (some (.ref I_BadMove)))
    (n9_BadMove : PySem.W.typeIn K (.ref I_BadMove) = some (.type "function"))
    (na_BadMove : K.lookup I_BadMove = some ⟨oci_BadMove, odi_BadMove, .func (PySem.W.fnOf "__init__" "BadMove.__init__" (defArgs s_ini_BadMove) (defBody s_ini_BadMove) (defScope s_ini_BadMove) .none kVi_BadMove dci_BadMove pmi_BadMove ani_BadMove cdi_BadMove cti_BadMove), sli_BadMove⟩)
    (nb_BadMove : PySem.W.codeIn K cdi_BadMove "BadMove.__init__" = true)
    (nc_BadMove : PySem.W.keepIn K (.ref I_BadMove) = true)
    (p1_WORDS : PySem.W.nsIn K mainGlobals "WORDS" = some (some (.ref P_WORDS)))
    (p2_WORDS : K.lookup P_WORDS = some ⟨.type "tuple", none, .seq #[.str "copy" tw0_WORDS, .str "swap" tw1_WORDS] nn_WORDS, psl_WORDS⟩)
    (eRun : PySem.W.nsIn K mainGlobals "Run" = some (some (.ref CR)))
    (rA_init : PySem.W.findIn K (.ref CR) "__init__" = some (some (.ref r_init)))
    (rI_init : PySem.W.isFn K (.ref r_init) = true)
    (rL_init : K.lookup r_init = some ⟨ocr_init, odr_init, .func (PySem.W.fnOf "__init__" "Run.__init__" (defArgs s_Rinit) (defBody s_Rinit) (defScope s_Rinit) .none kVr_init dcr_init pmr_init anr_init cdr_init ctr_init), slr_init⟩)
    (rC_init : PySem.W.codeIn K cdr_init "Run.__init__" = true)
    (rK_init : PySem.W.keepIn K (.ref r_init) = true)
    (rA_call : PySem.W.findIn K (.ref CR) "call" = some (some (.ref r_call)))
    (rI_call : PySem.W.isFn K (.ref r_call) = true)
    (rL_call : K.lookup r_call = some ⟨ocr_call, odr_call, .func (PySem.W.fnOf "call" "Run.call" (defArgs s_Rcall) (defBody s_Rcall) (defScope s_Rcall) .none kVr_call dcr_call pmr_call anr_call cdr_call ctr_call), slr_call⟩)
    (rC_call : PySem.W.codeIn K cdr_call "Run.call" = true)
    (rK_call : PySem.W.keepIn K (.ref r_call) = true)
    (rA_can : PySem.W.findIn K (.ref CR) "can" = some (some (.ref r_can)))
    (rI_can : PySem.W.isFn K (.ref r_can) = true)
    (rL_can : K.lookup r_can = some ⟨ocr_can, odr_can, .func (PySem.W.fnOf "can" "Run.can" (defArgs s_Rcan) (defBody s_Rcan) (defScope s_Rcan) .none kVr_can dcr_can pmr_can anr_can cdr_can ctr_can), slr_can⟩)
    (rC_can : PySem.W.codeIn K cdr_can "Run.can" = true)
    (rK_can : PySem.W.keepIn K (.ref r_can) = true)
    (rA_do : PySem.W.findIn K (.ref CR) "do" = some (some (.ref r_do)))
    (rI_do : PySem.W.isFn K (.ref r_do) = true)
    (rL_do : K.lookup r_do = some ⟨ocr_do, odr_do, .func (PySem.W.fnOf "do" "Run.do" (defArgs s_Rdo) (defBody s_Rdo) (defScope s_Rdo) .none kVr_do dcr_do pmr_do anr_do cdr_do ctr_do), slr_do⟩)
    (rC_do : PySem.W.codeIn K cdr_do "Run.do" = true)
    (rK_do : PySem.W.keepIn K (.ref r_do) = true)
    (rpg : PySem.W.plainGet K CR Str.empty = true)
    (rhd : PySem.W.hasDictIn K CR = true)
    (rpo : PySem.W.plainOver K CR = true)
    (rsa : PySem.W.findIn K (.ref CR) "__setattr__" = some (some (.builtin "object.__setattr__")))
    (rmk : PySem.W.makesIn K CR = true)
    (rkc : PySem.W.keepIn K (.ref CR) = true)
    (rN_worths : PySem.W.findIn K (.ref CR) "worths" = some none)
    (rN_pile : PySem.W.findIn K (.ref CR) "pile" = some none)
    (rN_house : PySem.W.findIn K (.ref CR) "house" = some none)
    (rN_seen : PySem.W.findIn K (.ref CR) "seen" = some none) :
    ∃ (c T : Addr) (fd : FuncData), PySem.W.tabIn K "law" = some (c, T) ∧ K.lookup T = none ∧ (∀ (s : Shared) (v : Value), BindsTo s fd ⟨[v], []⟩ [("_law_script", v)]) ∧ ∀ base : Heap, K.In base → base.Ns mainGlobals mg → LamX.TabB base mg c T → FnOk l.prog w K mg base (L2.CX l.prog w) 7 fa fd ["_law_script"] (spLawT K T) := by
  have e := hfa.symm.trans (PySem.W.mg_of X G a19)
  cases e
  have F : Free mg := ⟨PySem.W.mg_none_of X G z0, PySem.W.mg_none_of X G z1, PySem.W.mg_none_of X G z2, PySem.W.mg_none_of X G z3, PySem.W.mg_none_of X G z4, PySem.W.mg_none_of X G z5, PySem.W.mg_none_of X G z6, PySem.W.mg_none_of X G z7, PySem.W.mg_none_of X G z8, PySem.W.mg_none_of X G z9, PySem.W.mg_none_of X G z10, PySem.W.mg_none_of X G z11, PySem.W.mg_none_of X G z12, PySem.W.mg_none_of X G z13, PySem.W.mg_none_of X G z14⟩
  have F0 := fun_mk (st := s__law_start) l0 c0 k0
  have F1 := fun_mk (st := s__law_drawn) l1 c1 k1
  have F2 := fun_mk (st := s__law_boxes) l2 c2 k2
  have F3 := fun_mk (st := s__law_order) l3 c3 k3
  have F4 := fun_mk (st := s__law_house) l4 c4 k4
  have F5 := fun_mk (st := s__law_worths) l5 c5 k5
  have F6 := fun_mk (st := s__law_can) l6 c6 k6
  have F7 := fun_mk (st := s__law_moved) l7 c7 k7
  have F8 := fun_mk (st := s__law_called) l8 c8 k8
  have F9 := fun_mk (st := s__law_far) l9 c9 k9
  have F10 := fun_mk (st := s__law_step) l10 c10 k10
  have F11 := fun_mk (st := s__law_kind) l11 c11 k11
  have F12 := fun_mk (st := s_is_box) l12 c12 k12
  have F13 := fun_mk (st := s_are_rising) l13 c13 k13
  have F14 := fun_mk (st := s_need_house) l14 c14 k14
  have F15 := fun_mk (st := s_is_move) l15 c15 k15
  have F16 := fun_mk (st := s_do_move) l16 c16 k16
  have F17 := fun_mk (st := s_called) l17 c17 k17
  have F18 := fun_mk (st := s__law_same) l18 c18 k18
  have b0 := F0.binds (ps := ["_law_script"]) fun _ _ _ _ _ _ us hl => match us, hl with | [_], _ => rfl
  have b1 := F1.binds (ps := ["_law_state", "_law_many"]) fun _ _ _ _ _ _ us hl => match us, hl with | [_, _], _ => rfl
  have b2 := F2.binds (ps := ["_law_state"]) fun _ _ _ _ _ _ us hl => match us, hl with | [_], _ => rfl
  have b3 := F3.binds (ps := ["_law_state", "_law_some"]) fun _ _ _ _ _ _ us hl => match us, hl with | [_, _], _ => rfl
  have b4 := F4.binds (ps := ["_law_state", "_law_boxes_here"]) fun _ _ _ _ _ _ us hl => match us, hl with | [_, _], _ => rfl
  have b5 := F5.binds (ps := ["_law_state", "_law_boxes_here"]) fun _ _ _ _ _ _ us hl => match us, hl with | [_, _], _ => rfl
  have b6 := F6.binds (ps := ["_law_boxes_here", "_law_high", "_law_step_here", "_law_seen", "_law_over"]) fun _ _ _ _ _ _ us hl => match us, hl with | [_, _, _, _, _], _ => rfl
  have b7 := F7.binds (ps := ["_law_worths_here", "_law_moves"]) fun _ _ _ _ _ _ us hl => match us, hl with | [_, _], _ => rfl
  have b8 := F8.binds (ps := ["_law_worths_here", "_law_pile", "_law_steps", "_law_house_here", "_law_given", "_law_lost", "_law_over"]) fun _ _ _ _ _ _ us hl => match us, hl with | [_, _, _, _, _, _, _], _ => rfl
  have b9 := F9.binds (ps := ["_law_state", "_law_most"]) fun _ _ _ _ _ _ us hl => match us, hl with | [_, _], _ => rfl
  have b10 := F10.binds (ps := ["_law_state", "_law_boxes_here"]) fun _ _ _ _ _ _ us hl => match us, hl with | [_, _], _ => rfl
  have b11 := F11.binds (ps := ["_law_work"]) fun _ _ _ _ _ _ us hl => match us, hl with | [_], _ => rfl
  have b12 := F12.binds (ps := ["boxes", "box"]) fun _ _ _ _ _ _ us hl => match us, hl with | [_, _], _ => rfl
  have b13 := F13.binds (ps := ["boxes", "some"]) fun _ _ _ _ _ _ us hl => match us, hl with | [_, _], _ => rfl
  have b14 := F14.binds (ps := ["boxes", "house"]) fun _ _ _ _ _ _ us hl => match us, hl with | [_, _], _ => rfl
  have b15 := F15.binds (ps := ["boxes", "move"]) fun _ _ _ _ _ _ us hl => match us, hl with | [_, _], _ => rfl
  have b16 := F16.binds (ps := ["worths", "move"]) fun _ _ _ _ _ _ us hl => match us, hl with | [_, _], _ => rfl
  have b17 := F17.binds (ps := ["worths", "pile", "steps", "house", "given", "lost", "over"]) fun _ _ _ _ _ _ us hl => match us, hl with | [_, _, _, _, _, _, _], _ => rfl
  have b18 := F18.binds (ps := ["_law_found", "_law_due"]) fun _ _ _ _ _ _ us hl => match us, hl with | [_, _], _ => rfl
  have g_MOST_BOXES : ∃ t, mg "MOST_BOXES" = some (.int 10 t) := ⟨_, PySem.W.mg_of X G v0⟩
  have g_MOST_INS : ∃ t, mg "MOST_INS" = some (.int 4 t) := ⟨_, PySem.W.mg_of X G v1⟩
  have tb : PySem.W.tabIn K "law" = some (cT, TT) := tab_mk a19 l19 rfl tb0 tb1
  have E_BadMove : ExcC K A_BadMove := ⟨x1_BadMove, x2_BadMove, x3_BadMove, x4_BadMove, x5_BadMove, y1, y2, x6_BadMove⟩
  have K_BadMove : Kinds K mg A_BadMove "BadMove" := by
    refine ⟨E_BadMove, ⟨_, PySem.W.mg_of X G e_MoveError, exm_ref ic_MoveError it_MoveError x7_BadMove x3_MoveError⟩, fun c hc => ?_, kit_T (by decide +kernel) x8_BadMove⟩
    simp only [List.mem_cons, List.mem_nil_iff, or_false] at hc
    rcases hc with rfl | rfl | rfl | rfl | rfl | rfl | rfl | rfl
    · exact ⟨_, PySem.W.mg_of X G e_BadLead, by rw [show decide (("BadLead" : Str) = "BadMove") = false by decide +kernel]; exact kit_ref ic_BadLead it_BadLead q_BadMove_BadLead q_BadMove_BadMove⟩
    · exact ⟨_, PySem.W.mg_of X G e_BadSpare, by rw [show decide (("BadSpare" : Str) = "BadMove") = false by decide +kernel]; exact kit_ref ic_BadSpare it_BadSpare q_BadMove_BadSpare q_BadMove_BadMove⟩
    · exact ⟨_, PySem.W.mg_of X G e_BadMove, by rw [show decide (("BadMove" : Str) = "BadMove") = true by decide +kernel]; exact kit_ref ic_BadMove it_BadMove q_BadMove_BadMove q_BadMove_BadMove⟩
    · exact ⟨_, PySem.W.mg_of X G e_NoWay, by rw [show decide (("NoWay" : Str) = "BadMove") = false by decide +kernel]; exact kit_ref ic_NoWay it_NoWay q_BadMove_NoWay q_BadMove_BadMove⟩
    · exact ⟨_, PySem.W.mg_of X G e_BadWord, by rw [show decide (("BadWord" : Str) = "BadMove") = false by decide +kernel]; exact kit_ref ic_BadWord it_BadWord q_BadMove_BadWord q_BadMove_BadMove⟩
    · exact ⟨_, PySem.W.mg_of X G e_BadHouse, by rw [show decide (("BadHouse" : Str) = "BadMove") = false by decide +kernel]; exact kit_ref ic_BadHouse it_BadHouse q_BadMove_BadHouse q_BadMove_BadMove⟩
    · exact ⟨_, PySem.W.mg_of X G e_BadCall, by rw [show decide (("BadCall" : Str) = "BadMove") = false by decide +kernel]; exact kit_ref ic_BadCall it_BadCall q_BadMove_BadCall q_BadMove_BadMove⟩
    · exact ⟨_, PySem.W.mg_of X G e_BadText, by rw [show decide (("BadText" : Str) = "BadMove") = false by decide +kernel]; exact kit_ref ic_BadText it_BadText q_BadMove_BadText q_BadMove_BadMove⟩
  have kt : ∀ w ∈ ([] : List Str), ∃ D, mg w = some (.ref D) ∧ Kinds K mg D w := by
    intro w hw
    exact nomatch hw
  have ktn : ∀ w ∈ (["BadMove"] : List Str), ∃ D, mg w = some (.ref D) ∧ Kinds K mg D w ∧ XfC K D ∧ PySem.W.findIn K (.ref D) (fieldOf w) = some none := by
    intro w hw
    simp only [List.mem_cons, List.mem_nil_iff, or_false] at hw
    rcases hw with rfl
    · exact ⟨_, PySem.W.mg_of X G e_BadMove, K_BadMove, ⟨x1_BadMove, x2_BadMove, x3_BadMove, x4_BadMove⟩, by rw [show fieldOf "BadMove" = "number" by decide +kernel]; exact x9_BadMove⟩
  have g_WORDS : GlobT K mg "WORDS" ["copy", "swap"] := ⟨⟨P_WORDS, _, _, _, PySem.W.mg_of X G p1_WORDS, p2_WORDS, rfl, rfl, rfl, by show 2 ≤ sizeLine; decide, (.cons ⟨_, rfl⟩ (.cons ⟨_, rfl⟩ .nil))⟩⟩
  have RT : RunT K mg CR := ⟨⟨rpg, rhd, rpo, rsa⟩, rN_worths, rN_pile, rN_house, rN_seen, PySem.W.mg_of X G eRun⟩
  have RF_init := fun_mk (st := s_Rinit) rL_init rC_init rK_init
  have Rb_init := RF_init.binds (ps := ["self", "worths", "pile", "house"]) fun _ _ _ _ _ _ us hl => match us, hl with | [_, _, _, _], _ => rfl
  have RF_call := fun_mk (st := s_Rcall) rL_call rC_call rK_call
  have Rb_call := RF_call.binds (ps := ["self", "given", "lost", "over"]) fun _ _ _ _ _ _ us hl => match us, hl with | [_, _, _, _], _ => rfl
  have RF_can := fun_mk (st := s_Rcan) rL_can rC_can rK_can
  have Rb_can := RF_can.binds (ps := ["self", "step", "over"]) fun _ _ _ _ _ _ us hl => match us, hl with | [_, _, _], _ => rfl
  have RF_do := fun_mk (st := s_Rdo) rL_do rC_do rK_do
  have Rb_do := RF_do.binds (ps := ["self", "step"]) fun _ _ _ _ _ _ us hl => match us, hl with | [_, _], _ => rfl
  refine ⟨cT, TT, PySem.W.fnOf "law" "law" (defArgs s_law) (defBody s_law) (defScope s_law) .none kV19 dc19 pm19 an19 (.ref cT) ct19, tb, nT, fun s v => .of_eq rfl, fun base _ _ TB => ?_⟩
  have FI_BadMove := fun_mk (st := s_ini_BadMove) na_BadMove nb_BadMove nc_BadMove
  have bI_BadMove := FI_BadMove.binds (ps := ["self", "number"]) fun _ _ _ _ _ _ us hl => match us, hl with | [_, _], _ => rfl
  have x_BadMove : XNk l.prog w K mg base "BadMove" 1 := ⟨⟨_, _, _, _, PySem.W.mg_of X G e_BadMove, ⟨⟨_, _, _, _, _, _, _, _, _, _, _, _, _, _, _, n1_BadMove, n2_BadMove⟩, n3_BadMove, n4_BadMove, n5_BadMove, n6_BadMove⟩, by rw [show fieldOf "BadMove" = "number" by decide +kernel]; exact n7_BadMove, n8_BadMove, n9_BadMove, fn_ini_BadMove (k := 0) (PySem.W.mg_of X G e_MoveError) ⟨mb1, mb2, mb3, mb4⟩ FI_BadMove, bI_BadMove⟩⟩
  have d__law_drawn : Df l.prog w K mg base "_law_drawn" 1 false 2 sp__law_drawn := ⟨⟨f1, _, ["_law_state", "_law_many"], fn__law_drawn (k := 0) F F1, PySem.W.mg_of X G a1, F1.kp, b1⟩⟩
  have d__law_boxes : Df l.prog w K mg base "_law_boxes" 2 false 1 sp__law_boxes := ⟨⟨f2, _, ps__law_boxes, fn__law_boxes F d__law_drawn F2, PySem.W.mg_of X G a2, F2.kp, b2⟩⟩
  have d__law_order : Df l.prog w K mg base "_law_order" 2 false 2 sp__law_order := ⟨⟨f3, _, ps__law_order, fn__law_order F d__law_drawn F3, PySem.W.mg_of X G a3, F3.kp, b3⟩⟩
  have d__law_house : Df l.prog w K mg base "_law_house" 3 false 2 sp__law_house := ⟨⟨f4, _, ps__law_house, fn__law_house F d__law_drawn d__law_order F4, PySem.W.mg_of X G a4, F4.kp, b4⟩⟩
  have d__law_worths : Df l.prog w K mg base "_law_worths" 2 false 2 sp__law_worths := ⟨⟨f5, _, ps__law_worths, fn__law_worths F d__law_drawn F5, PySem.W.mg_of X G a5, F5.kp, b5⟩⟩
  have d__law_can : Df l.prog w K mg base "_law_can" 1 false 5 sp__law_can := ⟨⟨f6, _, ps__law_can, fn__law_can F F6, PySem.W.mg_of X G a6, F6.kp, b6⟩⟩
  have d__law_moved : Df l.prog w K mg base "_law_moved" 1 true 2 sp__law_moved := ⟨⟨f7, _, ps__law_moved, fn__law_moved F F7, PySem.W.mg_of X G a7, F7.kp, b7⟩⟩
  have d__law_called : Df l.prog w K mg base "_law_called" 2 false 7 sp__law_called := ⟨⟨f8, _, ps__law_called, fn__law_called F d__law_can d__law_moved F8, PySem.W.mg_of X G a8, F8.kp, b8⟩⟩
  have d__law_far : Df l.prog w K mg base "_law_far" 2 false 2 sp__law_far := ⟨⟨f9, _, ps__law_far, fn__law_far F d__law_drawn F9, PySem.W.mg_of X G a9, F9.kp, b9⟩⟩
  have d__law_step : Df l.prog w K mg base "_law_step" 3 false 2 sp__law_step := ⟨⟨f10, _, ps__law_step, fn__law_step F d__law_drawn d__law_far F10, PySem.W.mg_of X G a10, F10.kp, b10⟩⟩
  have d_is_box : Df l.prog w K mg base "is_box" 1 false 2 sp_is_box := ⟨⟨f12, _, ps_is_box, fn_is_box F F12, PySem.W.mg_of X G a12, F12.kp, b12⟩⟩
  have d_are_rising : Df l.prog w K mg base "are_rising" 2 false 2 sp_are_rising := ⟨⟨f13, _, ps_are_rising, fn_are_rising F d_is_box F13, PySem.W.mg_of X G a13, F13.kp, b13⟩⟩
  have d_need_house : Df l.prog w K mg base "need_house" 3 false 2 sp_need_house := ⟨⟨f14, _, ps_need_house, fn_need_house F d_are_rising d_is_box g_MOST_BOXES g_MOST_INS F14, PySem.W.mg_of X G a14, F14.kp, b14⟩⟩
  have d_is_move : Df l.prog w K mg base "is_move" 2 false 2 sp_is_move := ⟨⟨f15, _, ps_is_move, fn_is_move F d_is_box g_WORDS F15, PySem.W.mg_of X G a15, F15.kp, b15⟩⟩
  have d_do_move : DfO l.prog w K mg base "do_move" 1 1 sp_do_move := ⟨⟨f16, _, ps_do_move, fn_do_move F F16, PySem.W.mg_of X G a16, F16.kp, b16⟩⟩
  have d_called : Df l.prog w K mg base "called" 4 false 7 sp_called := ⟨⟨f17, _, ps_called, fn_called F d_need_house x_BadMove RT ⟨rmk, rA_init, rI_init, rkc⟩ (fn_Rinit F RT RF_init) Rb_init (fn_Rcall F RT RF_call) ⟨rA_call, rI_call, rK_call⟩ Rb_call (fn_Rcan F d_is_box d_is_move RT RF_can) ⟨rA_can, rI_can, rK_can⟩ Rb_can (fn_Rdo F d_do_move RT RF_do) ⟨rA_do, rI_do, rK_do⟩ Rb_do F17, PySem.W.mg_of X G a17, F17.kp, b17⟩⟩
  have d__law_same : Df l.prog w K mg base "_law_same" 5 false 2 (sp__law_same 4) := ⟨⟨f18, _, ps__law_same, fn__law_same F F18 b18 (PySem.W.mg_of X G a18) 4, PySem.W.mg_of X G a18, F18.kp, b18⟩⟩
  have dT_called : DfT l.prog w K mg base "called" 4 7 sp3_called := ⟨⟨f17, _, ps_called, fnT_called F d_need_house x_BadMove RT ⟨rmk, rA_init, rI_init, rkc⟩ (fn_Rinit F RT RF_init) Rb_init (fn_Rcall F RT RF_call) ⟨rA_call, rI_call, rK_call⟩ Rb_call (fn_Rcan F d_is_box d_is_move RT RF_can) ⟨rA_can, rI_can, rK_can⟩ Rb_can (fn_Rdo F d_do_move RT RF_do) ⟨rA_do, rI_do, rK_do⟩ Rb_do F17, PySem.W.mg_of X G a17, F17.kp, b17⟩⟩
  exact fn_law F d__law_boxes d__law_called d__law_drawn d__law_house d__law_same d__law_step d__law_worths d_called dT_called (PySem.W.mg_none_of X G z15) ⟨_, PySem.W.mg_of X G e_MoveError⟩ (PySem.W.mg_of X G a11) k11 l11 c11 b11 kt ktn TB F0 b0 (PySem.W.mg_of X G a0) l19 c19
end L3

open PySem PySem.W PyProof.Rows in
set_option maxRecDepth 100000 in
set_option maxHeartbeats 0 in
theorem PySem.Challenge.cw_movesatonce_k10_steps_done_holds : PySem.Challenge.rw_movesatonce_k10_steps_done.Holds := by
  w_on; o_law; k_head; (case hw => w_witness2)
  k_fill
  refine L3.walk_tab (l := PySem.Challenge.rw_movesatonce_k10_steps_done) (n := 63) (k := 7) (x := "_law_script") (CX := fun w => L2.CX PySem.Challenge.rw_movesatonce_k10_steps_done.prog w) rfl (by decide) rfl ⟨rfl, by decide, by decide⟩ (fun w h Y => by first | exact PySem.W.km_in_of Y | exact PySem.W.kIn_of Y) rfl ?F (fun _ _ _ _ _ ⟨_, _, _, _, _, _, _, _, _, _, _, _, h⟩ => h)
  case F =>
    intro w mg fa h KX G hmg
    refine' L3.all_mk KX G hmg ?a0 ?l0 ?c0 ?k0 ?a1 ?l1 ?c1 ?k1 ?a2 ?l2 ?c2 ?k2 ?a3 ?l3 ?c3 ?k3 ?a4 ?l4 ?c4 ?k4 ?a5 ?l5 ?c5 ?k5 ?a6 ?l6 ?c6 ?k6 ?a7 ?l7 ?c7 ?k7 ?a8 ?l8 ?c8 ?k8 ?a9 ?l9 ?c9 ?k9 ?a10 ?l10 ?c10 ?k10 ?a11 ?l11 ?c11 ?k11 ?a12 ?l12 ?c12 ?k12 ?a13 ?l13 ?c13 ?k13 ?a14 ?l14 ?c14 ?k14 ?a15 ?l15 ?c15 ?k15 ?a16 ?l16 ?c16 ?k16 ?a17 ?l17 ?c17 ?k17 ?a18 ?l18 ?c18 ?k18 ?a19 ?l19 ?c19 ?k19 ?z0 ?z1 ?z2 ?z3 ?z4 ?z5 ?z6 ?z7 ?z8 ?z9 ?z10 ?z11 ?z12 ?z13 ?z14 ?z15 ?v0 ?v1 ?tb0 ?tb1 ?nT ?e_BadLead ?ic_BadLead ?it_BadLead ?e_BadSpare ?ic_BadSpare ?it_BadSpare ?e_BadMove ?ic_BadMove ?it_BadMove ?e_NoWay ?ic_NoWay ?it_NoWay ?e_BadWord ?ic_BadWord ?it_BadWord ?e_BadHouse ?ic_BadHouse ?it_BadHouse ?e_BadCall ?ic_BadCall ?it_BadCall ?e_BadText ?ic_BadText ?it_BadText ?e_MoveError ?ic_MoveError ?it_MoveError ?x3_MoveError ?y1 ?y2 ?x1_BadMove ?x2_BadMove ?x3_BadMove ?x4_BadMove ?x5_BadMove ?x6_BadMove ?x7_BadMove ?x8_BadMove ?q_BadMove_BadLead ?q_BadMove_BadSpare ?q_BadMove_BadMove ?q_BadMove_NoWay ?q_BadMove_BadWord ?q_BadMove_BadHouse ?q_BadMove_BadCall ?q_BadMove_BadText ?x9_BadMove ?mb1 ?mb2 ?mb3 ?mb4 ?n1_BadMove ?n2_BadMove ?n3_BadMove ?n4_BadMove ?n5_BadMove ?n6_BadMove ?n7_BadMove ?n8_BadMove ?n9_BadMove ?na_BadMove ?nb_BadMove ?nc_BadMove ?p1_WORDS ?p2_WORDS ?eRun ?rA_init ?rI_init ?rL_init ?rC_init ?rK_init ?rA_call ?rI_call ?rL_call ?rC_call ?rK_call ?rA_can ?rI_can ?rL_can ?rC_can ?rK_can ?rA_do ?rI_do ?rL_do ?rC_do ?rK_do ?rpg ?rhd ?rpo ?rsa ?rmk ?rkc ?rN_worths ?rN_pile ?rN_house ?rN_seen
    (case a0 => k_is)
    (case l0 => k_is)
    (case c0 => k_is)
    (case k0 => k_is)
    (case a1 => k_is)
    (case l1 => k_is)
    (case c1 => k_is)
    (case k1 => k_is)
    (case a2 => k_is)
    (case l2 => k_is)
    (case c2 => k_is)
    (case k2 => k_is)
    (case a3 => k_is)
    (case l3 => k_is)
    (case c3 => k_is)
    (case k3 => k_is)
    (case a4 => k_is)
    (case l4 => k_is)
    (case c4 => k_is)
    (case k4 => k_is)
    (case a5 => k_is)
    (case l5 => k_is)
    (case c5 => k_is)
    (case k5 => k_is)
    (case a6 => k_is)
    (case l6 => k_is)
    (case c6 => k_is)
    (case k6 => k_is)
    (case a7 => k_is)
    (case l7 => k_is)
    (case c7 => k_is)
    (case k7 => k_is)
    (case a8 => k_is)
    (case l8 => k_is)
    (case c8 => k_is)
    (case k8 => k_is)
    (case a9 => k_is)
    (case l9 => k_is)
    (case c9 => k_is)
    (case k9 => k_is)
    (case a10 => k_is)
    (case l10 => k_is)
    (case c10 => k_is)
    (case k10 => k_is)
    (case a11 => k_is)
    (case l11 => k_is)
    (case c11 => k_is)
    (case k11 => k_is)
    (case a12 => k_is)
    (case l12 => k_is)
    (case c12 => k_is)
    (case k12 => k_is)
    (case a13 => k_is)
    (case l13 => k_is)
    (case c13 => k_is)
    (case k13 => k_is)
    (case a14 => k_is)
    (case l14 => k_is)
    (case c14 => k_is)
    (case k14 => k_is)
    (case a15 => k_is)
    (case l15 => k_is)
    (case c15 => k_is)
    (case k15 => k_is)
    (case a16 => k_is)
    (case l16 => k_is)
    (case c16 => k_is)
    (case k16 => k_is)
    (case a17 => k_is)
    (case l17 => k_is)
    (case c17 => k_is)
    (case k17 => k_is)
    (case a18 => k_is)
    (case l18 => k_is)
    (case c18 => k_is)
    (case k18 => k_is)
    (case a19 => k_is)
    (case l19 => k_is)
    (case c19 => k_is)
    (case k19 => k_is)
    (case z0 => k_is)
    (case z1 => k_is)
    (case z2 => k_is)
    (case z3 => k_is)
    (case z4 => k_is)
    (case z5 => k_is)
    (case z6 => k_is)
    (case z7 => k_is)
    (case z8 => k_is)
    (case z9 => k_is)
    (case z10 => k_is)
    (case z11 => k_is)
    (case z12 => k_is)
    (case z13 => k_is)
    (case z14 => k_is)
    (case z15 => k_is)
    (case v0 => k_is)
    (case v1 => k_is)
    (case tb0 => k_is)
    (case tb1 => first | rfl | kernel_rfl)
    (case nT => first | kernel_rfl | rfl)
    (case e_BadLead => k_is)
    (case ic_BadLead => k_is)
    (case it_BadLead => k_is)
    (case e_BadSpare => k_is)
    (case ic_BadSpare => k_is)
    (case it_BadSpare => k_is)
    (case e_BadMove => k_is)
    (case ic_BadMove => k_is)
    (case it_BadMove => k_is)
    (case e_NoWay => k_is)
    (case ic_NoWay => k_is)
    (case it_NoWay => k_is)
    (case e_BadWord => k_is)
    (case ic_BadWord => k_is)
    (case it_BadWord => k_is)
    (case e_BadHouse => k_is)
    (case ic_BadHouse => k_is)
    (case it_BadHouse => k_is)
    (case e_BadCall => k_is)
    (case ic_BadCall => k_is)
    (case it_BadCall => k_is)
    (case e_BadText => k_is)
    (case ic_BadText => k_is)
    (case it_BadText => k_is)
    (case e_MoveError => k_is)
    (case ic_MoveError => k_is)
    (case it_MoveError => k_is)
    (case x3_MoveError => k_is)
    (case y1 => k_is)
    (case y2 => k_is)
    (case x1_BadMove => k_is)
    (case x2_BadMove => k_is)
    (case x3_BadMove => k_is)
    (case x4_BadMove => k_is)
    (case x5_BadMove => k_is)
    (case x6_BadMove => k_is)
    (case x7_BadMove => k_is)
    (case x8_BadMove => k_is)
    (case q_BadMove_BadLead => k_is)
    (case q_BadMove_BadSpare => k_is)
    (case q_BadMove_BadMove => k_is)
    (case q_BadMove_NoWay => k_is)
    (case q_BadMove_BadWord => k_is)
    (case q_BadMove_BadHouse => k_is)
    (case q_BadMove_BadCall => k_is)
    (case q_BadMove_BadText => k_is)
    (case x9_BadMove => k_is)
    (case mb1 => k_is)
    (case mb2 => k_is)
    (case mb3 => k_is)
    (case mb4 => k_is)
    (case n1_BadMove => k_is)
    (case n2_BadMove => first | rfl | decide +kernel | k_is)
    (case n3_BadMove => k_is)
    (case n4_BadMove => k_is)
    (case n5_BadMove => k_is)
    (case n6_BadMove => k_is)
    (case n7_BadMove => k_is)
    (case n8_BadMove => k_is)
    (case n9_BadMove => k_is)
    (case na_BadMove => k_is)
    (case nb_BadMove => k_is)
    (case nc_BadMove => k_is)
    (case p1_WORDS => k_is)
    (case p2_WORDS => k_is)
    (case eRun => k_is)
    (case rA_init => k_is)
    (case rI_init => k_is)
    (case rL_init => k_is)
    (case rC_init => k_is)
    (case rK_init => k_is)
    (case rA_call => k_is)
    (case rI_call => k_is)
    (case rL_call => k_is)
    (case rC_call => k_is)
    (case rK_call => k_is)
    (case rA_can => k_is)
    (case rI_can => k_is)
    (case rL_can => k_is)
    (case rC_can => k_is)
    (case rK_can => k_is)
    (case rA_do => k_is)
    (case rI_do => k_is)
    (case rL_do => k_is)
    (case rC_do => k_is)
    (case rK_do => k_is)
    (case rpg => k_is)
    (case rhd => k_is)
    (case rpo => k_is)
    (case rsa => k_is)
    (case rmk => k_is)
    (case rkc => k_is)
    (case rN_worths => k_is)
    (case rN_pile => k_is)
    (case rN_house => k_is)
    (case rN_seen => k_is)
