import PyProof.Rows.All
import Wide.All
import OpenK.AllK
import Wide.FinOn
import HandS.ForMost
import HandS.TupAny
import HandS.ForExc
import HandS.CallSlots
import HandS.Deep
import HandS.Wide
import HandS.Lambda
import HandS.SortInts
import HandS.Conv
import HandS.More
import HandS.Zip
import HandS.WordsDict
import KE.KSortedM
import HandS.Style
import HandS.SetFor
import HandS.Remove
import HandS.IsInst
import PyProof.P3Eq
import HandS.ExcIs
import HandS.ExcOwn
import HandS.EndTab
import HandS.Strs
import HandS.ExcField
import HandS.ExcInit
import KE.KExcIs
import KE.KDflt
import PySem.Challenge.RW_movesatonce_k01_leads_all_at_once
set_option Elab.async false
set_option linter.all false
set_option maxRecDepth 100000
/-! L2n: tuples of which it is known that they have no dict of their own -/
namespace L2
open PySem PySem.Spec PyProof.Rows
section
variable {X : Cx} {es : List Expr} {t : TA} {pos : Pos}
def tTupN (t : TA) : TE := fun σ H Q => t σ H fun xs H1 => xs.length ≤ sizeLine ∧ ∀ p o, H1 p = none → o.cls = .type "tuple" → o.dict = none → Q (.ref p) (upd H1 p (.frz o (.tup xs)))
theorem pe_tupN {x1} (h : PA X es t) : PE X (.Tuple es x1 pos) (tTupN t) := by
  refine ⟨fun pins s σ H Q I hq => ?_⟩
  refine wpAny_Tuple_spliced (thn (h.run pos pins s σ H _ I hq) fun us s1 ⟨xs, H1, I1, r, z, q⟩ => ⟨by rw [← r.length]; exact z, ?_⟩)
  have hf : H1 s1.heap.objs.size = none := I1.hok.fresh (Nat.le_refl _)
  refine ⟨.ref s1.heap.objs.size, _, I1.laid (t' := s1.toks) (o := .frz { cls := .type "tuple", data := .seq us.toArray } (.tup xs)) (fun b u e => Heap.get?_push_of_some _ e) (Nat.le_refl _) ?_, rfl, q _ _ hf rfl rfl⟩
  exact ⟨Heap.get?_push_size _ rfl, z, us, r, ⟨_, Heap.get?_push_size _ rfl, rfl, _, rfl⟩⟩
def rTupleN (K : PySem.W.Frag) : List V → Hp → VK → Prop := fun xs H Q => ∃ p ys, xs = [.ref p] ∧ ((SqL K H p ys ∧ ∀ l o, H l = none → o.cls = .type "tuple" → o.dict = none → Q (.ref l) (upd H l (.frz o (.tup ys)))) ∨ (SqT K H p ys ∧ Q (.ref p) H))
theorem call_tupleN : CallR X (.type "tuple") (rTupleN X.K) := by
  intro pins s σ H xs us Q I r h
  obtain ⟨p, ys, rfl, h⟩ := h
  obtain ⟨u, rfl, rx⟩ := vals1 r
  cases rx
  rcases h with ⟨hq, q⟩ | ⟨hq, q⟩
  · obtain ⟨its, r', pl, hz⟩ := I.list hq
    have hlen := r'.length
    refine call_tuple_list pl.isList (fun h' kp => ?_) (by simp only [List.size_toArray] <;> omega)
    have I1 : Inv X pins σ H { s with heap := h' } := I.kept (t' := s.toks) kp
    have I2 : Inv X pins σ (upd H h'.objs.size (.frz { cls := .type "tuple", data := .seq its.toArray } (.tup ys))) { s with heap := h'.push { cls := .type "tuple", data := .seq its.toArray } } :=
      I1.laid (t' := s.toks) (fun b o e => Heap.get?_push_of_some _ e) (Nat.le_refl _) ⟨Heap.get?_push_size _ rfl, hz, its, r', IsTup.new _ _⟩
    exact ⟨.ref h'.objs.size, _, I2, rfl, q _ _ (I1.hok.fresh (Nat.le_refl _)) rfl rfl⟩
  · obtain ⟨its, r', pl, hz⟩ := I.tuple hq
    exact call_tuple_same pl ⟨.ref p, H, I, rfl, q⟩
def rCatN (K : PySem.W.Frag) : R2 := fun x y H Q => ∃ a b xs ys, x = .ref a ∧ y = .ref b ∧ SqT K H a xs ∧ SqT K H b ys ∧ xs.length + ys.length ≤ sizeLine ∧
  (xs = [] → Q (.ref b) H) ∧ (xs ≠ [] → ys = [] → Q (.ref a) H) ∧ (xs ≠ [] → ys ≠ [] → ∀ p o, H p = none → o.cls = .type "tuple" → o.dict = none → Q (.ref p) (upd H p (.frz o (.tup (xs ++ ys)))))
theorem op_catN : OpR X (binaryOp .Add) (rCatN X.K) := by
  intro pins s σ H x y v u Q I rx ry h
  obtain ⟨a, b, xs, ys, rfl, rfl, ha, hb, hz, q0, q1, q2⟩ := h
  cases rx
  cases ry
  by_cases hx : xs = []
  · subst hx
    obtain ⟨its, r1, p1, _⟩ := I.tuple ha
    obtain ⟨its2, r2, p2, _⟩ := I.tuple hb
    cases r1
    exact cat_tup0 p1 p2 ⟨.ref b, H, I, rfl, q0 rfl⟩
  · obtain ⟨its, r1, p1, _⟩ := I.tuple ha
    obtain ⟨its2, r2, p2, _⟩ := I.tuple hb
    refine HT.cat_tup p1 p2 (fun z => hx (r1.nil_iff.mp z)) (fun z => ⟨.ref a, H, I, rfl, q1 hx (r2.nil_iff.mp z)⟩) (fun z => ?_) (by rw [← r1.length, ← r2.length]; exact hz)
    refine ⟨.ref s.heap.objs.size, _, I.laid (t' := s.toks) (o := .frz { cls := .type "tuple", data := .seq (its ++ its2).toArray } (.tup (xs ++ ys))) (fun b ob q => Heap.get?_push_of_some _ q) (Nat.le_refl _) ?_, rfl, q2 hx (fun w => z (r2.nil_iff.mpr w)) _ _ (I.hok.fresh (Nat.le_refl _)) rfl rfl⟩
    exact ⟨Heap.get?_push_size _ rfl, by rw [List.length_append]; exact hz, _, r1.append r2, IsTup.new _ _⟩
def rSlN (K : PySem.W.Frag) : V → Option Int → Option Int → Hp → VK → Prop := fun x lo hi H Q => ∃ a xs, x = .ref a ∧ SqT K H a xs ∧
  (HT.sIx xs.length 0 lo = 0 ∧ HT.sIx xs.length xs.length hi = xs.length → Q (.ref a) H) ∧ (¬ (HT.sIx xs.length 0 lo = 0 ∧ HT.sIx xs.length xs.length hi = xs.length) → ∀ p o, H p = none → o.cls = .type "tuple" → o.dict = none → Q (.ref p) (upd H p (.frz o (.tup (cutV xs lo hi)))))
theorem sl_tupN : SlR X (rSlN X.K) := by
  intro pins s σ H x v vl vu lo hi sl Q I rx hs pl pu h
  obtain ⟨a, xs, rfl, hx, q1, q2⟩ := h
  cases rx
  obtain ⟨its, r, ht, hz⟩ := I.tuple hx
  have hlen : its.toArray.size = xs.length := by rw [List.size_toArray]; exact r.length.symm
  by_cases hw : HT.sIx xs.length 0 lo = 0 ∧ HT.sIx xs.length xs.length hi = xs.length
  · refine ⟨"tuple", _, PyProof.Rows.slot_tuple_getitem.lookup, ht.typeIs, ?_⟩
    exact getItem_tuple_whole ht hs pl pu (by rw [hlen]; exact hw) ⟨.ref a, H, I, rfl, q1 hw⟩
  · refine ⟨"tuple", _, PyProof.Rows.slot_tuple_getitem.lookup, ht.typeIs, ?_⟩
    refine HT.getItem_tuple_cut ht hs pl pu (by rw [hlen]; exact hw) ?_ (by rw [hlen]; exact hz)
    rw [hlen]
    refine ⟨.ref s.heap.objs.size, _, I.laid (t' := s.toks) (o := .frz { cls := .type "tuple", data := .seq ((its.toArray.toList.drop (HT.sIx xs.length 0 lo)).take (HT.sIx xs.length xs.length hi - HT.sIx xs.length 0 lo)).toArray } (.tup (cutV xs lo hi))) (fun b ob q => Heap.get?_push_of_some _ q) (Nat.le_refl _) ?_, rfl, q2 hw _ _ (I.hok.fresh (Nat.le_refl _)) rfl rfl⟩
    exact ⟨Heap.get?_push_size _ rfl, Nat.le_trans (cutV_length xs lo hi) hz, _, (r.drop (HT.sIx xs.length 0 lo)).take (HT.sIx xs.length xs.length hi - HT.sIx xs.length 0 lo), IsTup.new _ _⟩
/-! enumerate(list) -/
def IteN (K : PySem.W.Frag) (a : Addr) : It :=
  ⟨fun i H => ∃ (xs : List V) (x : V), SqL K H a xs ∧ xs[i]? = some x, fun i H v H' => ∃ T o x, v = .ref T ∧ H T = none ∧ o.cls = .type "tuple" ∧ o.dict = none ∧ H' = upd H T (.frz o (.tup [.int (i : Nat), x])) ∧ ∀ xs, SqL K H a xs → xs[i]? = some x, fun i H => ∃ xs : List V, SqL K H a xs ∧ xs.length ≤ i⟩
theorem turn_enumN {P : Program} {w : World} {K : PySem.W.Frag} {elts : List Expr} {kk : Nat} {tpos : Pos} (a e it : Addr) :
    Turn P w K (.Tuple elts kk tpos) (IteN K a) [e, it] e (fun i h => (∃ old, IsEnum h e it ((i : Nat) : Int) old) ∧ h.IsListIter it a i ∧ e ≠ it) where
  mem := by simp
  obj := fun i h st b hb => by
    obtain ⟨⟨old, he⟩, ⟨o, ho, hc, hd⟩, _⟩ := st
    have e' : b = e ∨ b = it := by simpa using hb
    rcases e' with z | z
    · rw [z]; exact ⟨_, he, fun v q => nomatch q⟩
    · rw [z]; exact ⟨o, ho, fun v q => by rw [hd] at q; cases q⟩
  keep := fun i h h' st k => let ⟨⟨old, he⟩, hi, hne⟩ := st; ⟨⟨old, k e (by simp) _ he⟩, hi.at fun o q => k it (by simp) o q, hne⟩
  item := by
    intro X hP hw hK hc i pins s σ H E I hf st hg
    subst hP hw hK
    obtain ⟨⟨old, he⟩, hit, hne⟩ := st
    obtain ⟨xs, x, hq, hx⟩ := hg
    obtain ⟨its, rv, p, hz⟩ := I.list hq
    obtain ⟨u, hu, ru⟩ := rv.get hx
    have hel : e < s.heap.objs.size := Heap.lt_size he
    have hil : it < s.heap.objs.size := by obtain ⟨_, q, _⟩ := hit; exact Heap.lt_size q
    refine wpAny_pyNext_enum_item he hit p.isList (x := u) (by simpa using hu) hne fun h' ho hit' hT hsz hk => ?_
    refine ⟨_, rfl, wpAny_letOwnedTupleGo_enum (s := { s with heap := h', toks := s.toks + 1 }) ho fun h'' he' sb => ?_⟩
    have hT2 : h''.get? s.heap.objs.size = some { cls := .type "tuple", data := .seq #[.int i s.toks, u] } := (sb.2 _ (Nat.ne_of_gt hel)).trans hT
    have new : ObjOk X.prog X.w (upd H s.heap.objs.size (.frz { cls := .type "tuple", data := .seq #[.int i s.toks, u] } (.tup [.int (i : Nat), x]))) h'' s.heap.objs.size (.frz { cls := .type "tuple", data := .seq #[.int i s.toks, u] } (.tup [.int (i : Nat), x])) :=
      ⟨hT2, by show 2 ≤ sizeLine; decide, [.int i s.toks, u], .cons ⟨_, rfl⟩ (.cons ru .nil), ⟨_, hT2, rfl, _, rfl⟩⟩
    have I1 : Inv X pins σ (upd H s.heap.objs.size (.frz { cls := .type "tuple", data := .seq #[.int i s.toks, u] } (.tup [.int (i : Nat), x]))) { s with heap := h'', toks := s.toks + 1 } :=
      I.turnedNew (ch := [e, it]) (fun b ob hb q => (sb.2 b (fun z => hb (by simp [z]))).trans (hk b ob (fun z => hb (by simp [z])) (fun z => hb (by simp [z])) q)) hf (Nat.le_refl _) new
    refine ⟨.ref s.heap.objs.size, _, I1, rfl, ⟨_, _, x, rfl, I.hok.fresh (Nat.le_refl _), rfl, rfl, rfl, fun ys hy => by rw [I.list_inj hy hq]; exact hx⟩, ⟨⟨u, ?_⟩, hit'.at fun o q => (sb.2 it (Ne.symm hne)).trans q, hne⟩, fun b hb => ?_⟩
    · have e1 : ((i + 1 : Nat) : Int) = (i : Int) + 1 := by omega
      rw [e1]; exact he'
    · have hb' : b < s.heap.objs.size := by
        have e' : b = e ∨ b = it := by simpa using hb
        rcases e' with z | z
        · rw [z]; exact hel
        · rw [z]; exact hil
      rw [upd_ne (Nat.ne_of_lt hb')]
      exact (hf b hb).1
  done := by
    intro X hP hw hK hc i pins s σ H E I hf st hg
    subst hP hw hK
    obtain ⟨⟨old, he⟩, hit, hne⟩ := st
    obtain ⟨xs, hq, hx⟩ := hg
    obtain ⟨its, rv, p, hz⟩ := I.list hq
    obtain ⟨f0, f1, f2, f3, f4, f5⟩ := hf it (by simp)
    have hl := rv.length
    exact wpAny_pyNext_enum_end (I.ok.hd hc) he hit p.isList (by simp; omega) fun h' eb => ⟨rfl, I.turned (t' := s.toks) (fun b o hb q => eb b o hb q) f0 f1 f3 f4 f5⟩
  self := fun A i s Q E st h => let ⟨⟨_, he⟩, _⟩ := st; wpAny_pyIter_enum he h
def iEnumN (K : PySem.W.Frag) (ta : TA) : TI := fun σ H R => ta σ H fun vs H1 => ∃ a xs, vs = [.ref a] ∧ SqL K H1 a xs ∧ R (IteN K a) H1
theorem pi_enumN {e : Expr} {ta : TA} {p tpos : Pos} {elts : List Expr} {kk : Nat} (hg : Gl X "enumerate") (hm : X.mg "enumerate" = none) (ha : PA X [e] ta) (hs : starEach [e] X.env = [(false, eval e X.env)] := by rfl) :
    PI X (.Tuple elts kk tpos) (.Call (.Name "enumerate" p) [e] [] pos) (iEnumN X.K ta) := by
  refine ⟨fun pins s σ H R I h => ?_⟩
  refine Call_ (ld_blt I hg hm boot_enumerate (PyProof.Rows.callWith_type1 (thn (ha.run pos pins s σ H _ I h) fun us s1 ⟨vs, H1, I1, r1, q1⟩ => ?_) hs rfl))
  obtain ⟨a, xs, ex, hq, q⟩ := q1
  subst ex
  cases r1 with
  | cons r rr =>
    cases rr
    cases r
    obtain ⟨its, rv, p', hz⟩ := I1.list hq
    refine call_enumerate_list p'.isList fun h' he hit hsz hk => wpAny_pyIter_enum he ?_
    have I2 : Inv X pins σ H1 { s1 with heap := h' } := I1.kept (t' := s1.toks) hk
    refine ⟨s1.heap.objs.size + 1, [s1.heap.objs.size + 1, s1.heap.objs.size], _, _, H1, rfl, I2, turn_enumN a (s1.heap.objs.size + 1) s1.heap.objs.size, ⟨⟨.none, he⟩, hit, Nat.succ_ne_self _⟩, fun b hb => ?_, q⟩
    have e' : b = s1.heap.objs.size + 1 ∨ b = s1.heap.objs.size := by simpa using hb
    have hle : s1.heap.objs.size ≤ b := by
      rcases e' with z | z
      · rw [z]; exact Nat.le_add_right _ _
      · rw [z]; exact Nat.le_refl _
    exact I1.fpOk hle (I1.hok.fresh hle)
/-! methods of such a tuple -/
def tyT (K : PySem.W.Frag) (x : V) (H : Hp) : Prop := ∃ p, x = .ref p ∧ ((∃ o vs, H p = some (.frz o (.tup vs)) ∧ o.cls = .type "tuple" ∧ o.dict = none) ∨ ∃ o, K.lookup p = some o ∧ o.cls = .type "tuple" ∧ o.dict = none)
theorem tyT_is {pins : List (Addr × Obj)} {σ : St} {H : Hp} {s : Shared} {x : V} {v : Value} (I : Inv X pins σ H s) (r : RelV x v) (ty : tyT X.K x H) :
    s.TypeIs v "tuple" ∧ ∀ a, v = .ref a → ∃ ob, s.heap.get? a = some ob ∧ ob.dict = none := by
  obtain ⟨p, rfl, ty⟩ := ty
  cases r
  rcases ty with ⟨o, vs, h, hc, hd⟩ | ⟨o, h, hc, hd⟩
  · have e := (I.hok p _ h).1
    refine ⟨⟨o, e, hc⟩, fun a z => ?_⟩
    cases z
    exact ⟨o, e, hd⟩
  · refine ⟨⟨o, I.kIn p o h, hc⟩, fun a z => ?_⟩
    cases z
    exact ⟨o, I.kIn _ o h, hd⟩
def tBT (K : PySem.W.Frag) (r : V → List V → Hp → VK → Prop) (to : TE) (t : TA) : TE := fun σ H Q => to σ H fun x H1 => tyT K x H1 ∧ t σ H1 fun xs H2 => r x xs H2 Q
theorem pe_bmT {o e : Expr} {to : TE} {name : Str} {apos cpos : Pos} {id : String} {r : V → List V → Hp → VK → Prop} (pa : PlainAttrs "tuple") (slot : Slot "tuple" name id) (hty : typeOf (.builtin id) = pure (.type "method_descriptor")) (hm : MtR X id r) (ho : PE X o to) (ha : PA X (e :: es) t)
    (hbase : attributeBase o name X.env (eval o X.env) = eval o X.env := by rfl)
    (hfew : ((backTo cpos (starEach (e :: es) X.env)).all (fun x => !x.1) && (backToKw cpos (keywordEach [] X.env)).all (fun x => x.1.isSome)
      && decide ((e :: es).length + ([] : List Keyword).length + (if ([] : List Keyword).isEmpty then 0 else 1) < 30)) = true := by rfl)
    (hline : (apos.endLine == cpos.line) = true := by rfl) (hs : starEach (e :: es) X.env = (false, eval e X.env) :: starEach es X.env := by rfl) (hplain : (backTo cpos (starEach es X.env)).any (·.1) = false := by rfl) :
    PE X (.Call (.Attribute o name apos) (e :: es) [] cpos) (tBT X.K r to t) := by
  refine ⟨fun pins s σ H Q I h => ?_⟩
  refine wpAny_Call_method_late hbase hfew hline rfl (thn (ho.run pins s σ H _ I h) fun v s1 ⟨x, H1, I1, r1, ty, q1⟩ => ?_)
  obtain ⟨h1, h2⟩ := tyT_is I1 r1 ty
  refine ⟨"tuple", id, pa, slot, hty, h1, h2, ?_⟩
  have hA := ha.run cpos pins s1 σ H1 _ I1 q1
  rw [hs] at hA ⊢
  refine Calls.callWith_builtin (by show (false || (backTo cpos (starEach es X.env)).any (·.1)) = false; rw [hplain] <;> rfl) (Calls.evalArgs_plain ?_)
  exact thn hA fun us s2 ⟨vs, H2, I2, r2, q2⟩ => hm pins s2 σ H2 x vs v us Q I2 r1 r2 q2
end
end L2
/-! L3: plain data over the hand layer -/
namespace L3
open PySem PySem.Spec PyProof.Rows L2

/-! ### data -/
/-- a lambda's text: its qualified name, the two names that it has from around -/
structure LamD where
  q : Str
  x : Str
  y : Str
  params : Arguments
  body : Expr
  scope : Scope
inductive D where
  | non | bl (b : Bool) | int (i : Int) | str (x : Str)
  | tup (xs : List D) | lst (xs : List D)
  | dic (kvs : List (Int × D))
  | ref (a : Addr)
  | clo (L : LamD) (b l : D)

/-- an object that is known and stays -/
abbrev frzO (o : Obj) : HO := .frz o (.own 0)
/-- at f a function made by a lambda, its cells too -/
def CloG (G : Hp) (L : LamD) (f : Addr) (vb vl : V) : Prop := ∃ (cl : List (Str × Addr)) (c' cb cc : Addr) (pm ctv : Value) (ob oc : Obj) (ub uc : Value),
  G f = some (frzO (PySem.W.kla_obj "<lambda>" L.q L.params L.body L.scope cl pm c' ctv)) ∧ G c' = some (LamX.CodeO c' L.q) ∧ cl.lookup L.x = some cb ∧ cl.lookup L.y = some cc ∧ (∀ z c, cl.lookup z = some c → z = L.x ∨ z = L.y) ∧ cb ≠ cc ∧
  G cb = some (frzO ob) ∧ ob.data = .cell (some ub) ∧ RelV vb ub ∧ G cc = some (frzO oc) ∧ oc.data = .cell (some uc) ∧ RelV vl uc
theorem CloG.mono {G G' : Hp} {L : LamD} {f : Addr} {vb vl : V} (e : ∀ a o, G a = some o → G' a = some o) (h : CloG G L f vb vl) : CloG G' L f vb vl := by
  obtain ⟨cl, c', cb, cc, pm, ctv, ob, oc, ub, uc, h1, h2, h3, h4, h5, h6, h7, h8, h9, h10, h11⟩ := h
  exact ⟨cl, c', cb, cc, pm, ctv, ob, oc, ub, uc, e _ _ h1, e _ _ h2, h3, h4, h5, h6, e _ _ h7, h8, h9, e _ _ h10, h11⟩
/-- a tuple, and it has no dict of its own -/
def TupN (K : PySem.W.Frag) (G : Hp) (a : Addr) (vs : List V) : Prop := (∃ o, G a = some (.frz o (.tup vs)) ∧ o.cls = .type "tuple" ∧ o.dict = none) ∨
  ∃ (o : Obj) (its : Array Value) (n : Nat), K.lookup a = some o ∧ o.cls = .type "tuple" ∧ o.dict = none ∧ o.data = .seq its n ∧ its.size ≤ sizeLine ∧ Vals vs its.toList
theorem TupN.sq {K : PySem.W.Frag} {G : Hp} {a : Addr} {vs : List V} : TupN K G a vs → SqT K G a vs
  | .inl ⟨o, h, _, _⟩ => .inl (.inr ⟨o, h⟩)
  | .inr ⟨o, its, n, h1, h2, _, h3, h4, h5⟩ => .inr ⟨o, its, n, h1, h2, h3, h4, h5⟩
theorem TupN.mono {K : PySem.W.Frag} {G G' : Hp} {a : Addr} {vs : List V} (e : ∀ a o, G a = some o → G' a = some o) : TupN K G a vs → TupN K G' a vs
  | .inl ⟨o, h, q⟩ => .inl ⟨o, e _ _ h, q⟩
  | .inr h => .inr h
theorem TupN.ty {K : PySem.W.Frag} {G : Hp} {a : Addr} {vs : List V} : TupN K G a vs → tyT K (.ref a) G
  | .inl ⟨o, h, c, d⟩ => ⟨a, rfl, .inl ⟨o, vs, h, c, d⟩⟩
  | .inr ⟨o, its, n, h1, h2, h3, _⟩ => ⟨a, rfl, .inr ⟨o, h1, h2, h3⟩⟩
mutual
inductive Rp (K : PySem.W.Frag) (G : Hp) : D → V → Prop
  | non : Rp K G .non .non
  | bl (b : Bool) : Rp K G (.bl b) (.bl b)
  | int (i : Int) : Rp K G (.int i) (.int i)
  | str (x : Str) : Rp K G (.str x) (.str x)
  | ref (a : Addr) : Rp K G (.ref a) (.ref a)
  | clo {L : LamD} {f : Addr} {b l : D} {vb vl : V} : CloG G L f vb vl → Rp K G b vb → Rp K G l vl → Rp K G (.clo L b l) (.ref f)
  | tup {a : Addr} {vs : List V} {ds : List D} : TupN K G a vs → Rps K G ds vs → Rp K G (.tup ds) (.ref a)
  | lst {a : Addr} {vs : List V} {ds : List D} : G a = some (.lst vs) → Rps K G ds vs → Rp K G (.lst ds) (.ref a)
  | dic {a : Addr} {o : Obj} {kvs : List (Int × D)} {kws : List (Key × V)} : G a = some (.frz o (.dK kws)) → RpK K G kvs kws → Rp K G (.dic kvs) (.ref a)
inductive Rps (K : PySem.W.Frag) (G : Hp) : List D → List V → Prop
  | nil : Rps K G [] []
  | cons {d : D} {v : V} {ds : List D} {vs : List V} : Rp K G d v → Rps K G ds vs → Rps K G (d :: ds) (v :: vs)
inductive RpK (K : PySem.W.Frag) (G : Hp) : List (Int × D) → List (Key × V) → Prop
  | nil : RpK K G [] []
  | cons {k : Int} {d : D} {v : V} {r : List (Int × D)} {r' : List (Key × V)} : Rp K G d v → RpK K G r r' → RpK K G ((k, d) :: r) ((Sum.inl k, v) :: r')
end
section
variable {K : PySem.W.Frag} {G G' : Hp}
theorem seqT (e : Same G G') {a : Addr} {xs : List V} (h : SqT K G a xs) : SqT K G' a xs := by
  rcases h with (h | ⟨o, h⟩) | h
  · exact .inl (.inl (e _ _ h))
  · exact .inl (.inr ⟨o, e _ _ h⟩)
  · exact .inr h
mutual
theorem Rp.mono (e : Same G G') : ∀ {d : D} {v : V}, Rp K G d v → Rp K G' d v
  | _, _, .non => .non
  | _, _, .bl b => .bl b
  | _, _, .int i => .int i
  | _, _, .str x => .str x
  | _, _, .ref a => .ref a
  | _, _, .clo h r1 r2 => .clo (h.mono e) (Rp.mono e r1) (Rp.mono e r2)
  | _, _, .tup h r => .tup (h.mono e) (Rps.mono e r)
  | _, _, .lst h r => .lst (e _ _ h) (Rps.mono e r)
  | _, _, .dic h r => .dic (e _ _ h) (RpK.mono e r)
theorem Rps.mono (e : Same G G') : ∀ {d : List D} {v : List V}, Rps K G d v → Rps K G' d v
  | _, _, .nil => .nil
  | _, _, .cons h r => .cons (Rp.mono e h) (Rps.mono e r)
theorem RpK.mono (e : Same G G') : ∀ {d : List (Int × D)} {v : List (Key × V)}, RpK K G d v → RpK K G' d v
  | _, _, .nil => .nil
  | _, _, .cons h r => .cons (Rp.mono e h) (RpK.mono e r)
end
theorem Rps.length : ∀ {ds : List D} {vs : List V}, Rps K G ds vs → ds.length = vs.length
  | _, _, .nil => rfl
  | _, _, .cons _ r => by rw [List.length_cons, List.length_cons, Rps.length r]
theorem Rps.get : ∀ {ds : List D} {vs : List V} {i : Nat} {d : D}, Rps K G ds vs → ds[i]? = some d → ∃ v, vs[i]? = some v ∧ Rp K G d v
  | _, _, _, _, .nil, e => by simp at e
  | _, _, 0, _, .cons h _, e => by simp at e; subst e; exact ⟨_, rfl, h⟩
  | _, _, i + 1, _, .cons _ r, e => by
    obtain ⟨v, h1, h2⟩ := Rps.get (i := i) r (by simpa using e)
    exact ⟨v, by simpa using h1, h2⟩
theorem Rps.append : ∀ {ds es : List D} {vs ws : List V}, Rps K G ds vs → Rps K G es ws → Rps K G (ds ++ es) (vs ++ ws)
  | _, _, _, _, .nil, s => s
  | _, _, _, _, .cons h r, s => .cons h (Rps.append r s)
theorem Rps.set {d : D} {v : V} (h : Rp K G d v) : ∀ {ds : List D} {vs : List V} (i : Nat), Rps K G ds vs → Rps K G (ds.set i d) (vs.set i v)
  | _, _, _, .nil => .nil
  | _, _, 0, .cons _ r => .cons h r
  | _, _, i + 1, .cons q r => .cons q (Rps.set h i r)
theorem Rps.take : ∀ {ds : List D} {vs : List V} (n : Nat), Rps K G ds vs → Rps K G (ds.take n) (vs.take n)
  | _, _, 0, _ => .nil
  | _, _, _ + 1, .nil => .nil
  | _, _, n + 1, .cons h r => .cons h (Rps.take n r)
theorem Rps.drop : ∀ {ds : List D} {vs : List V} (n : Nat), Rps K G ds vs → Rps K G (ds.drop n) (vs.drop n)
  | _, _, 0, r => r
  | _, _, _ + 1, .nil => .nil
  | _, _, n + 1, .cons _ r => Rps.drop n r
theorem Rps.eraseIdx : ∀ {ds : List D} {vs : List V} (n : Nat), Rps K G ds vs → Rps K G (ds.eraseIdx n) (vs.eraseIdx n)
  | _, _, _, .nil => .nil
  | _, _, 0, .cons _ r => r
  | _, _, n + 1, .cons h r => .cons h (Rps.eraseIdx n r)
theorem Rps.reverse {ds : List D} {vs : List V} (r : Rps K G ds vs) : Rps K G ds.reverse vs.reverse := by
  induction ds generalizing vs with
  | nil => cases r; exact .nil
  | cons d ds ih =>
    cases r with
    | cons h r =>
      rw [List.reverse_cons, List.reverse_cons]
      exact (ih r).append (.cons h .nil)
theorem Rps.ints : ∀ {ns : List Int} {vs : List V}, Rps K G (ns.map D.int) vs → vs = ns.map V.int
  | [], _, .nil => rfl
  | n :: r, _, .cons h t => by
    cases h
    rw [List.map_cons, Rps.ints t]
theorem Rps.ofInts : ∀ (ns : List Int), Rps K G (ns.map D.int) (ns.map V.int)
  | [] => .nil
  | n :: r => .cons (.int n) (Rps.ofInts r)
theorem Rps.none_of {ds : List D} {vs : List V} {i : Nat} (r : Rps K G ds vs) (h : ds[i]? = none) : vs[i]? = none := by
  have := r.length
  rw [List.getElem?_eq_none_iff] at h ⊢
  omega
end

/-! ### the context: the state's cell, things that stay, the tables of code objects -/
structure C3 where
  K : PySem.W.Frag
  st : Option (Addr × Addr × List Int) := none
  fix : List (Addr × HO) := []
  tabs : List (Addr × Str) := []
def C3.sp (C : C3) (a : Addr) : Bool := decide (C.st.map (·.1) = some a) || (C.fix.any fun p => decide (p.1 = a)) || C.tabs.any fun p => decide (p.1 = a)
/-- the script, as a list that stays -/
def ScrOk (C : C3) (sa : Addr) (ns : List Int) : Prop := (∃ o : Obj, (sa, HO.frz o (.lst (ns.map V.int))) ∈ C.fix) ∨
  ∃ (o : Obj) (its : Array Value) (n : Nat), C.K.lookup sa = some o ∧ o.cls = .type "list" ∧ o.dict = none ∧ o.data = .seq its n ∧ its.size ≤ sizeLine ∧ Vals (ns.map V.int) its.toList
/-- the state of the draws: the script, cells begun, a mixed number, a rest -/
def StOk (H : Hp) (a sa : Addr) : Prop := ∃ (i m r : Int), H a = some (.lst [.ref sa, .int i, .int m, .int r]) ∧ 0 ≤ i ∧ 0 ≤ m ∧ m < 2147483647 ∧ 0 ≤ r
structure Iv (C : C3) (H : Hp) : Prop where
  st : ∀ a sa ns, C.st = some (a, sa, ns) → StOk H a sa ∧ ScrOk C sa ns ∧ (C.fix.any fun p => decide (p.1 = a)) = false
  fx : ∀ p ∈ C.fix, H p.1 = some p.2
  tb : LamX.Tabs C.tabs H

/-- all but the tables of code objects: a lambda's making writes at these -/
def notTbl : HO → Bool
  | .tbl _ => false
  | _ => true
def nT (H : Hp) : Hp := fun a => match H a with
  | some o => if notTbl o = true then some o else none
  | none => none
theorem nT_of {H : Hp} {a : Addr} {o : HO} (h : H a = some o) (n : notTbl o = true := by rfl) : nT H a = some o := by
  unfold nT
  rw [h]
  exact if_pos n
theorem nT_to {H : Hp} {a : Addr} {o : HO} (h : nT H a = some o) : H a = some o ∧ notTbl o = true := by
  unfold nT at h
  cases q : H a with
  | none => rw [q] at h; cases h
  | some u =>
    rw [q] at h
    by_cases n : notTbl u = true
    · have h : (if notTbl u = true then some u else none) = some o := h
      rw [if_pos n] at h
      cases h
      exact ⟨rfl, n⟩
    · have h : (if notTbl u = true then some u else none) = some o := h
      rw [if_neg n] at h
      cases h
theorem nT_none {H : Hp} {a : Addr} (h : H a = none) : nT H a = none := by
  unfold nT
  rw [h]
theorem nT_ne {H : Hp} {a p : Addr} {o : HO} (h : a ≠ p) : nT (upd H p o) a = nT H a := by
  unfold nT
  rw [upd_ne h]
theorem nT_same {H H' : Hp} (e : Same H H') : Same (nT H) (nT H') := fun a o h => nT_of (e _ _ (nT_to h).1) (nT_to h).2
structure Ok3 (C : C3) (H G : Hp) : Prop where
  iv : Iv C H
  sub : ∀ a o, G a = some o → C.sp a = false ∧ H a = some o
  nt : ∀ a o, G a = some o → notTbl o = true
structure Stp (C : C3) (H G H' G' : Hp) : Prop where
  nx : ∀ a o, C.sp a = false → nT H a = some o → nT H' a = some o
  ge : Same G G'
  fr : ∀ a o, G a = none → G' a = some o → nT H a = none ∨ ∃ q, o = LamX.CodeO a q
theorem Stp.nh {C : C3} {H G H' G' : Hp} (s : Stp C H G H' G') (a : Addr) (o : HO) (sp : C.sp a = false) (h : H a = some o) (n : notTbl o = true := by rfl) : H' a = some o := (nT_to (s.nx a o sp (nT_of h n))).1
theorem Ok3.sn {C : C3} {H G : Hp} (ok : Ok3 C H G) {a : Addr} {o : HO} (h : G a = some o) : nT H a = some o := nT_of (ok.sub a o h).2 (ok.nt a o h)
section
variable {C : C3} {H G H' G' H2 G2 : Hp}
theorem Stp.refl : Stp C H G H G := ⟨fun _ _ _ h => h, Same.refl _, fun a o h h' => by rw [h] at h'; cases h'⟩
theorem Stp.trans (a : Stp C H G H' G') (ok : Ok3 C H2 G2) (b : Stp C H' G' H2 G2) : Stp C H G H2 G2 := by
  refine ⟨fun p o s h => b.nx p o s (a.nx p o s h), a.ge.trans b.ge, fun p o h h' => ?_⟩
  cases q : G' p with
  | some u =>
    rw [b.ge p u q] at h'
    cases h'
    exact a.fr p _ h q
  | none =>
    rcases b.fr p o q h' with h1 | h1
    · cases r : nT H p with
      | none => exact .inl rfl
      | some u =>
        rw [a.nx p u (ok.sub p o h').1 r] at h1
        cases h1
    · exact .inr h1
/-- what is tracked and no code object is not frozen unawares -/
theorem Stp.gn (s : Stp C H G H' G') (ok : Ok3 C H' G') {p : Addr} {o : HO} (sp : C.sp p = false) (h : H p = some o) (n : notTbl o = true) (nk : ∀ q, o ≠ LamX.CodeO p q) (g : G p = none) : G' p = none := by
  cases q : G' p with
  | none => rfl
  | some u =>
    rcases s.fr p u g q with z | ⟨r, z⟩
    · rw [nT_of h n] at z
      cases z
    · have e := (ok.sub p u q).2
      rw [s.nh p o sp h n] at e
      exact absurd ((Option.some.inj e).trans z) (nk r)
end
/-- special cells are tracked -/
theorem Iv.there {C : C3} {H : Hp} (iv : Iv C H) {a : Addr} (h : C.sp a = true) : ∃ o, H a = some o := by
  unfold C3.sp at h
  rw [Bool.or_eq_true, Bool.or_eq_true] at h
  rcases h with (h | h) | h
  · have h := of_decide_eq_true h
    cases e : C.st with
    | none => rw [e] at h; cases h
    | some t =>
      obtain ⟨x, sa, ns⟩ := t
      rw [e] at h
      have h : x = a := Option.some.inj h
      subst h
      obtain ⟨⟨_, _, _, q, _⟩, _⟩ := iv.st x sa ns e
      exact ⟨_, q⟩
  · obtain ⟨p, hp, e⟩ := List.any_eq_true.mp h
    have e := of_decide_eq_true e
    exact ⟨_, by rw [← e]; exact iv.fx p hp⟩
  · obtain ⟨p, hp, e⟩ := List.any_eq_true.mp h
    obtain ⟨ps, q, _⟩ := iv.tb p hp
    have e := of_decide_eq_true e
    exact ⟨_, by rw [← e]; exact q⟩
theorem Iv.new {C : C3} {H : Hp} (iv : Iv C H) {p : Addr} (h : H p = none) : C.sp p = false := by
  cases q : C.sp p with
  | false => rfl
  | true =>
    obtain ⟨o, e⟩ := iv.there q
    rw [h] at e
    cases e
/-- what the special cells hold -/
theorem Iv.on {C : C3} {H H' : Hp} (iv : Iv C H) (e : ∀ a, C.sp a = true → H' a = H a) (k : ∀ c s, H c = some (LamX.CodeO c s) → H' c = some (LamX.CodeO c s)) : Iv C H' := by
  refine ⟨fun a sa ns h => ?_, fun p hp => ?_, fun p hp => ?_⟩
  · obtain ⟨⟨i, m, r, h1, h2⟩, h3⟩ := iv.st a sa ns h
    refine ⟨⟨i, m, r, (e a ?_).trans h1, h2⟩, h3⟩
    unfold C3.sp
    rw [h]
    simp
  · refine (e p.1 ?_).trans (iv.fx p hp)
    unfold C3.sp
    rw [Bool.or_eq_true, Bool.or_eq_true]
    exact .inl (.inr (List.any_eq_true.mpr ⟨p, hp, decide_eq_true rfl⟩))
  · obtain ⟨ps, q, q2, q3⟩ := iv.tb p hp
    have hs : C.sp p.1 = true := by
      unfold C3.sp
      rw [Bool.or_eq_true]
      exact .inr (List.any_eq_true.mpr ⟨p, hp, decide_eq_true rfl⟩)
    refine ⟨ps, (e p.1 hs).trans q, q2, fun pos cv hc => ?_⟩
    obtain ⟨c, e1, e2⟩ := q3 pos cv hc
    exact ⟨c, e1, k _ _ e2⟩
theorem Iv.upd {C : C3} {H : Hp} {p : Addr} {o : HO} (iv : Iv C H) (s : C.sp p = false) (nk : ∀ q, H p ≠ some (LamX.CodeO p q)) : Iv C (upd H p o) := iv.on (fun a h => upd_ne fun z => by
  rw [z, s] at h
  cases h) fun c q h => by
    rw [upd_ne fun z => nk q (by rw [← z]; exact h)]
    exact h
theorem Iv.same {C : C3} {H H' : Hp} (e : Same H H') (iv : Iv C H) : Iv C H' := iv.on (fun a h => by
  obtain ⟨o, q⟩ := iv.there h
  rw [q, e a o q]) fun c q h => e c _ h
def notExt : HO → Bool
  | .ext _ => false
  | _ => true
theorem upd_code {H : Hp} {p : Addr} {o : HO} (h : H p = some o) (n : notExt o = true) : ∀ q, H p ≠ some (LamX.CodeO p q) := fun q e => by
  rw [h] at e
  rw [Option.some.inj e] at n
  exact absurd n Bool.false_ne_true
theorem same_new {H : Hp} {p : Addr} {o : HO} (h : H p = none) : Same H (upd H p o) := fun b x e => by
  rw [upd_ne (ne_of_none e h)]
  exact e
/-- a new object, not yet among the frozen ones -/
theorem Ok3.new {C : C3} {H G : Hp} (ok : Ok3 C H G) {p : Addr} {o : HO} (h : H p = none) : Ok3 C (upd H p o) G ∧ Stp C H G (upd H p o) G ∧ G p = none := by
  refine ⟨⟨ok.iv.same (same_new h), fun a u e => ?_, ok.nt⟩, ⟨fun a u _ e => nT_same (same_new h) a u e, Same.refl _, fun a u e e' => by rw [e] at e'; cases e'⟩, ?_⟩
  · obtain ⟨h1, h2⟩ := ok.sub a u e
    exact ⟨h1, same_new h a u h2⟩
  · cases q : G p with
    | none => rfl
    | some u =>
      rw [(ok.sub p u q).2] at h
      cases h
/-- .. frozen -/
theorem Ok3.frz {C : C3} {H G : Hp} (ok : Ok3 C H G) {p : Addr} {o : HO} (g : G p = none) (h : H p = some o) (s : C.sp p = false) (n : notTbl o = true := by rfl) : Ok3 C H (upd G p o) := by
  refine ⟨ok.iv, fun a u e => ?_, fun a u e => ?_⟩
  · by_cases q : a = p
    · subst q
      rw [upd_same] at e
      cases e
      exact ⟨s, h⟩
    · rw [upd_ne q] at e
      exact ok.sub a u e
  · by_cases q : a = p
    · subst q
      rw [upd_same] at e
      cases e
      exact n
    · rw [upd_ne q] at e
      exact ok.nt a u e
theorem Ok3.lay {C : C3} {H G : Hp} (ok : Ok3 C H G) {p : Addr} {o : HO} (h : H p = none) (n : notTbl o = true := by rfl) : Ok3 C (upd H p o) (upd G p o) ∧ Stp C H G (upd H p o) (upd G p o) := by
  obtain ⟨o1, s1, g⟩ := ok.new (o := o) h
  refine ⟨o1.frz g upd_same (ok.iv.new h) n, ⟨s1.nx, same_new g, fun a u e e' => ?_⟩⟩
  by_cases q : a = p
  · rw [q]; exact .inl (nT_none h)
  · rw [upd_ne q, e] at e'
    cases e'

/-! ### exceptions -/
structure Exn where
  cls : Str
  num : Option Int := none
def fieldOf (c : Str) : Str := if c = "BadMove" then "number" else "place"
def XRep (mg : Str → Option Value) (x : Exn) (cls : Value) (d : Option Addr) (H G : Hp) : Prop :=
  ∃ A : Addr, mg x.cls = some (.ref A) ∧ cls = .ref A ∧ match x.num with
    | none => d = none
    | some n => ∃ a, d = some a ∧ H a = some (.xd [(fieldOf x.cls, .int n)]) ∧ G a = none
theorem XRep.mono {mg : Str → Option Value} {x : Exn} {cls : Value} {d : Option Addr} {H G G' : Hp} (r : XRep mg x cls d H G') (e : Same G G') : XRep mg x cls d H G := by
  obtain ⟨A, h1, h2, h3⟩ := r
  refine ⟨A, h1, h2, ?_⟩
  cases q : x.num with
  | none => rw [q] at h3; exact h3
  | some n =>
    rw [q] at h3
    obtain ⟨a, e1, e2, e3⟩ := h3
    refine ⟨a, e1, e2, ?_⟩
    cases z : G a with
    | none => rfl
    | some o =>
      rw [e _ _ z] at e3
      cases e3

/-! ### expressions -/
abbrev EnvE := List (Option D)
abbrev MEt := EnvE → (D → Prop) → (Exn → Prop) → Prop
structure VR (K : PySem.W.Frag) (G : Hp) (env : EnvE) (σ : L2.St) : Prop where
  len : env.length ≤ σ.length
  get : ∀ (i : Nat) (d : D), env[i]? = some (some d) → ∃ v, σ[i]? = some (some v) ∧ Rp K G d v
theorem VR.mono {K : PySem.W.Frag} {G G' : Hp} {env : EnvE} {σ : L2.St} (e : Same G G') (h : VR K G env σ) : VR K G' env σ := ⟨h.len, fun i d q =>
  let ⟨v, h1, h2⟩ := h.get i d q
  ⟨v, h1, h2.mono e⟩⟩
/-- what is wanted behind: of a value, of an exception -/
abbrev PostV (C : C3) (H G : Hp) (Kd : D → Prop) (Q : VK) : Prop := ∀ d v H' G', Stp C H G H' G' → Ok3 C H' G' → Rp C.K G' d v → Kd d → Q v H'
abbrev PostX (C : C3) (mg : Str → Option Value) (H G : Hp) (KX : Exn → Prop) (E : XK) : Prop := ∀ x cls d H', KX x → Stp C H G H' G → Ok3 C H' G → XRep mg x cls d H' G → E cls d H'
def lift (C : C3) (mg : Str → Option Value) (E : XK) (m : MEt) : TE := fun σ H Q => ∃ env G Kd KX, Ok3 C H G ∧ VR C.K G env σ ∧ m env Kd KX ∧ PostV C H G Kd Q ∧ PostX C mg H G KX E
abbrev ME (X : Cx) (C : C3) (E : XK) (e : Expr) (m : MEt) : Prop := PE X e (lift C X.mg E m)
/-- what is at a new object's address -/
inductive ObjD (K : PySem.W.Frag) (G : Hp) : D → HO → Prop
  | lst {ds : List D} {vs : List V} : Rps K G ds vs → ObjD K G (.lst ds) (.lst vs)
abbrev PostF (C : C3) (H G : Hp) (Kd : D → Prop) (Q : VK) : Prop := ∀ d p o H' G', Stp C H G H' G' → Ok3 C H' G' → nT H p = none → G' p = none → H' p = some o → C.sp p = false → ObjD C.K G' d o → Kd d → Q (.ref p) H'
def liftF (C : C3) (mg : Str → Option Value) (E : XK) (m : MEt) : TE := fun σ H Q => ∃ env G Kd KX, Ok3 C H G ∧ VR C.K G env σ ∧ m env Kd KX ∧ PostF C H G Kd Q ∧ PostX C mg H G KX E
abbrev MF (X : Cx) (C : C3) (E : XK) (e : Expr) (m : MEt) : Prop := PE X e (liftF C X.mg E m)

theorem PE.imp {X : Cx} {e : Expr} {t t' : TE} (h : PE X e t) (q : ∀ σ H Q, t' σ H Q → t σ H Q) : PE X e t' := ⟨fun pins s σ H Q I w => h.run pins s σ H Q I (q σ H Q w)⟩
theorem PT.imp {X : Cx} {e : Expr} {t t' : TT} (h : PT X e t) (q : ∀ σ H Q, t' σ H Q → t σ H Q) : PT X e t' := ⟨fun pins s σ H Q I w => h.run pins s σ H Q I (q σ H Q w)⟩

section
variable {C : C3} {mg : Str → Option Value} {E : XK} {H G H' G' : Hp} {Kd : D → Prop} {KX : Exn → Prop} {Q : VK}
theorem PostX.on (h : PostX C mg H G KX E) (ok : Ok3 C H G) (s : Stp C H G H' G') : PostX C mg H' G' KX E := fun x cls d H2 k s2 ok2 r => by
  refine h x cls d H2 k ⟨fun a o z e => s2.nx a o z (s.nx a o z e), Same.refl _, fun a o e e' => by rw [e] at e'; cases e'⟩ ⟨ok2.iv, fun a o e => ok2.sub a o (s.ge a o e), fun a o e => ok2.nt a o (s.ge a o e)⟩ (r.mono s.ge)
theorem PostV.on (h : PostV C H G Kd Q) (s : Stp C H G H' G') : PostV C H' G' Kd Q := fun d v H2 G2 s2 ok2 r k => h d v H2 G2 (s.trans ok2 s2) ok2 r k
/-- fresh, then frozen -/
theorem ObjD.frz {K : PySem.W.Frag} {G : Hp} {d : D} {o : HO} {p : Addr} (h : ObjD K G d o) (g : G p = none) : Rp K (upd G p o) d (.ref p) := by
  cases h with
  | lst r => exact .lst upd_same (r.mono (same_new g))
theorem PostV.fresh (h : PostV C H G Kd Q) : PostF C H G Kd Q := fun d p o H' G' s ok hp gp ho sp r k =>
  h d _ H' (upd G' p o) ⟨s.nx, s.ge.trans (same_new gp), fun a u e e' => by
    by_cases q : a = p
    · rw [q]; exact .inl hp
    · rw [upd_ne q] at e'
      exact s.fr a u e e'⟩ (ok.frz gp ho sp (by cases r; rfl)) (r.frz gp) k
end
theorem MF.me {X : Cx} {C : C3} {E : XK} {e : Expr} {m : MEt} (h : MF X C E e m) : ME X C E e m := PE.imp h fun σ H Q ⟨env, G, Kd, KX, ok, vr, hm, pv, px⟩ => ⟨env, G, Kd, KX, ok, vr, hm, pv.fresh, px⟩

/-! names, constants -/
def mVar (i : Nat) : MEt := fun env Kd _ => match env[i]? with
  | some (some d) => Kd d
  | _ => False
def mC (d : D) : MEt := fun _ Kd _ => Kd d
section
variable {X : Cx} {C : C3} {E : XK}
theorem me_var (i : Nat) {x : Str} {pos : Pos} (hN : X.N[i]? = some x := by rfl) (hv : Vis X.env.scope x := by first | exact Or.inl rfl | exact Or.inr (Or.inl rfl) | exact Or.inr (Or.inr rfl)) (hd : (x == ("__debug__" : Str)) = false := by decide)
    (hcd : (x == ("__classdict__" : Str)) = false := by decide) : ME X C E (.Name x pos) (mVar i) := PE.imp (pe_var hN hv hd hcd) fun σ H Q ⟨env, G, Kd, KX, ok, vr, hm, pv, px⟩ => by
  unfold mVar at hm
  split at hm
  · rename_i d e
    obtain ⟨v, h1, h2⟩ := vr.get i d e
    exact ⟨v, h1, pv d v H G Stp.refl ok h2 hm⟩
  · exact hm.elim
theorem me_c {e : Expr} {d : D} {v : V} (h : PE X e (tC v)) (r : ∀ G, Rp C.K G d v) : ME X C E e (mC d) := PE.imp h fun σ H Q ⟨env, G, Kd, KX, ok, vr, hm, pv, px⟩ => pv d v H G Stp.refl ok (r G) hm
theorem me_int {i j pos} : ME X C E (.Constant (.int i) j pos) (mC (.int i)) := me_c pe_int fun _ => .int i
theorem me_bl {b j pos} : ME X C E (.Constant (.bool b) j pos) (mC (.bl b)) := me_c pe_bl fun _ => .bl b
theorem me_non {j pos} : ME X C E (.Constant .none j pos) (mC .non) := me_c pe_non fun _ => .non
theorem me_str {x j pos} : ME X C E (.Constant (.str x) j pos) (mC (.str x)) := me_c pe_str fun _ => .str x
end

/-! two operands -/
/-- a rule by values serves data -/
def OpD (C : C3) (r : R2) (f : D → D → (D → Prop) → Prop) : Prop := ∀ (x y : V) (d e : D) (H G : Hp) (Kd : D → Prop) (Q : VK), Ok3 C H G → Rp C.K G d x → Rp C.K G e y → f d e Kd → PostV C H G Kd Q → r x y H Q
def OpF (C : C3) (r : R2) (f : D → D → (D → Prop) → Prop) : Prop := ∀ (x y : V) (d e : D) (H G : Hp) (Kd : D → Prop) (Q : VK), Ok3 C H G → Rp C.K G d x → Rp C.K G e y → f d e Kd → PostF C H G Kd Q → r x y H Q
def m2 (f : D → D → (D → Prop) → Prop) (ma mb : MEt) : MEt := fun env Kd KX => ma env (fun d => mb env (fun e => f d e Kd) KX) KX
section
variable {X : Cx} {C : C3} {E : XK} {a b : Expr} {ma mb : MEt} {f : D → D → (D → Prop) → Prop} {r : R2} {pos : Pos} {mg : Str → Option Value}
theorem lift2 (ho : OpD C r f) {σ : L2.St} {H : Hp} {Q : VK} (h : lift C mg E (m2 f ma mb) σ H Q) : tOp r (lift C mg E ma) (lift C mg E mb) σ H Q := by
  obtain ⟨env, G, Kd, KX, ok, vr, hm, pv, px⟩ := h
  exact ⟨env, G, _, KX, ok, vr, hm, fun d x H1 G1 s1 ok1 r1 k1 => ⟨env, G1, _, KX, ok1, vr.mono s1.ge, k1, fun e y H2 G2 s2 ok2 r2 k2 =>
    ho x y d e H2 G2 Kd Q ok2 (r1.mono s2.ge) r2 k2 ((pv.on s1).on s2), px.on ok s1⟩, px⟩
theorem lift2F (ho : OpF C r f) {σ : L2.St} {H : Hp} {Q : VK} (h : liftF C mg E (m2 f ma mb) σ H Q) : tOp r (lift C mg E ma) (lift C mg E mb) σ H Q := by
  obtain ⟨env, G, Kd, KX, ok, vr, hm, pv, px⟩ := h
  refine ⟨env, G, _, KX, ok, vr, hm, fun d x H1 G1 s1 ok1 r1 k1 => ⟨env, G1, _, KX, ok1, vr.mono s1.ge, k1, fun e y H2 G2 s2 ok2 r2 k2 =>
    ho x y d e H2 G2 Kd Q ok2 (r1.mono s2.ge) r2 k2 (fun z p o H3 G3 s3 ok3 hp gp hh sp ob k => ?_), px.on ok s1⟩, px⟩
  refine pv z p o H3 G3 (s1.trans ok3 (s2.trans ok3 s3)) ok3 ?_ gp hh sp ob k
  cases q : nT H p with
  | none => rfl
  | some u =>
    rw [s2.nx p u sp (s1.nx p u sp q)] at hp
    cases hp
theorem me_op {op : Operator} (ho : OpR X (binaryOp op) r) (hd : OpD C r f) (ha : ME X C E a ma) (hb : ME X C E b mb) : ME X C E (.BinOp a op b pos) (m2 f ma mb) := PE.imp (pe_op ho ha hb) fun _ _ _ h => lift2 hd h
theorem mf_op {op : Operator} (ho : OpR X (binaryOp op) r) (hd : OpF C r f) (ha : ME X C E a ma) (hb : ME X C E b mb) : MF X C E (.BinOp a op b pos) (m2 f ma mb) := PE.imp (pe_op ho ha hb) fun _ _ _ h => lift2F hd h
theorem me_cmp {op : CmpOp} (ho : OpR X (compareOp op) r) (hd : OpD C r f) (ha : ME X C E a ma) (hb : ME X C E b mb) (hm : behindInMarks op b = false) : ME X C E (.Compare a [op] [b] pos) (m2 f ma mb) := PE.imp (pe_cmpR ho ha hb hm) fun _ _ _ h => lift2 hd h
end
theorem OpF.opD {C : C3} {r : R2} {f : D → D → (D → Prop) → Prop} (h : OpF C r f) : OpD C r f := fun x y d e H G Kd Q ok r1 r2 k pv => h x y d e H G Kd Q ok r1 r2 k pv.fresh

end L3
/-! L3b: operators, comparisons, tests -/
namespace L3
open PySem PySem.Spec PyProof.Rows L2

/-! ### data, plain -/
mutual
def D.py : D → PyData
  | .non => .none
  | .bl b => .bool b
  | .int i => .int i
  | .str x => .str x
  | .tup xs => .tuple (D.pys xs)
  | .lst xs => .list (D.pys xs)
  | .dic _ => .dict []
  | .ref _ => .dict []
  | .clo _ _ _ => .dict []
def D.pys : List D → List PyData
  | [] => []
  | d :: r => d.py :: D.pys r
end
theorem pys_map : ∀ l : List D, D.pys l = l.map D.py
  | [] => rfl
  | d :: r => by rw [D.pys, List.map_cons, pys_map r]
def fv : D → V
  | .bl b => .bl b
  | .int i => .int i
  | .str x => .str x
  | _ => .non
def flatD : D → Bool
  | .non => true
  | .bl _ => true
  | .int _ => true
  | .str _ => true
  | _ => false
theorem Rp.flat {K : PySem.W.Frag} {G : Hp} {d : D} {v : V} (r : Rp K G d v) (f : flatD d = true) : v = fv d ∧ flatV v = true := by
  cases r <;> first | exact ⟨rfl, rfl⟩ | exact absurd f Bool.false_ne_true
theorem Rps.flat {K : PySem.W.Frag} {G : Hp} : ∀ {ds : List D} {vs : List V}, Rps K G ds vs → ds.all flatD = true → vs = ds.map fv ∧ vs.all flatV = true
  | _, _, .nil, _ => ⟨rfl, rfl⟩
  | _, _, .cons h r, f => by
    rw [List.all_cons, Bool.and_eq_true] at f
    obtain ⟨e1, f1⟩ := h.flat f.1
    obtain ⟨e2, f2⟩ := Rps.flat r f.2
    exact ⟨by rw [List.map_cons, ← e1, ← e2], by rw [List.all_cons, f1, f2]; rfl⟩
/-! without dicts and references -/
mutual
def D.pl : D → Bool
  | .non => true
  | .bl _ => true
  | .int _ => true
  | .str _ => true
  | .tup xs => D.pls xs
  | .lst xs => D.pls xs
  | .dic _ => false
  | .ref _ => false
  | .clo _ _ _ => false
def D.pls : List D → Bool
  | [] => true
  | d :: r => d.pl && D.pls r
end
mutual
theorem Rp.dp {K : PySem.W.Frag} {G H : Hp} (e : ∀ a o, G a = some o → H a = some o) : ∀ {d : D} {v : V}, Rp K G d v → d.pl = true → Dp K H v d.py
  | _, _, .non, _ => .non
  | _, _, .bl b, _ => .bl b
  | _, _, .int i, _ => .int i
  | _, _, .str x, _ => .str x
  | _, _, .tup (ds := ds) h r, p => .tup (seqT e h.sq) (Rps.dp e r (show D.pls ds = true from p))
  | _, _, .lst (ds := ds) h r, p => .lst (.inl (.inl (e _ _ h))) (Rps.dp e r (show D.pls ds = true from p))
  | _, _, .ref a, p => absurd (show false = true from p) Bool.false_ne_true
  | _, _, .clo _ _ _, p => absurd (show false = true from p) Bool.false_ne_true
  | _, _, .dic _ _, p => absurd (show false = true from p) Bool.false_ne_true
theorem Rps.dp {K : PySem.W.Frag} {G H : Hp} (e : ∀ a o, G a = some o → H a = some o) : ∀ {ds : List D} {vs : List V}, Rps K G ds vs → D.pls ds = true → DpAll K H vs (D.pys ds)
  | _, _, .nil, _ => .nil
  | d :: ds, _, .cons h r, p => 
    have p : (d.pl && D.pls ds) = true := p
    .cons (Rp.dp e h (Bool.and_eq_true_iff.mp p).1) (Rps.dp e r (Bool.and_eq_true_iff.mp p).2)
end
def valD (kvs : List (Int × D)) (k : Int) : Option D := (kvs.find? fun p => decide (p.1 = k)).map (·.2)
theorem RpK.val {K : PySem.W.Frag} {G : Hp} (k : Int) : ∀ {kvs : List (Int × D)} {kws : List (Key × V)}, RpK K G kvs kws →
    (valD kvs k = none ∧ valV kws (Sum.inl k) = none) ∨ ∃ d v, valD kvs k = some d ∧ valV kws (Sum.inl k) = some v ∧ Rp K G d v
  | _, _, .nil => .inl ⟨rfl, rfl⟩
  | _, _, .cons (k := j) (d := d) (v := v) (r := r) (r' := r') h t => by
    by_cases e : j = k
    · refine .inr ⟨d, v, ?_, ?_, h⟩
      · unfold valD
        rw [List.find?_cons, decide_eq_true (by exact e)]
        rfl
      · exact valV_pos (by rw [e])
    · have e1 : valD ((j, d) :: r) k = valD r k := by
        unfold valD
        rw [List.find?_cons, decide_eq_false (by exact e)]
      have e2 : valV ((Sum.inl j, v) :: r') (Sum.inl k : Key) = valV r' (Sum.inl k) := valV_neg (fun z => e (Sum.inl.inj z))
      rw [e1, e2]
      exact RpK.val k t

/-! ### what the operators do -/
def addD (d e : D) (K : D → Prop) : Prop := match d, e with
  | .int i, .int j => K (.int (i + j))
  | .str x, .str y => x.length + y.length ≤ sizeLine ∧ K (.str (x ++ y))
  | .lst xs, .lst ys => xs.length + ys.length ≤ sizeLine ∧ K (.lst (xs ++ ys))
  | .tup xs, .tup ys => xs.length + ys.length ≤ sizeLine ∧ K (.tup (xs ++ ys))
  | _, _ => False
def subD (d e : D) (K : D → Prop) : Prop := match d, e with
  | .int i, .int j => K (.int (i - j))
  | _, _ => False
def mulD (d e : D) (K : D → Prop) : Prop := match d, e with
  | .int i, .int j => CMul i j ∧ K (.int (i * j))
  | .lst xs, .int j => 0 ≤ j ∧ j < 2 ^ 63 ∧ xs.length * j.toNat ≤ sizeLine ∧ K (.lst (List.replicate j.toNat xs).flatten)
  | _, _ => False
def modD (d e : D) (K : D → Prop) : Prop := match d, e with
  | .int i, .int j => 0 < j ∧ K (.int (i % j))
  | _, _ => False
def fdivD (d e : D) (K : D → Prop) : Prop := match d, e with
  | .int i, .int j => CDivW i j ∧ K (.int (i / j))
  | _, _ => False
def powD (d e : D) (K : D → Prop) : Prop := match d, e with
  | .int i, .int j => CPow i j ∧ K (.int (i ^ j.toNat))
  | _, _ => False
def ordD (p : Int → Int → Bool) (d e : D) (K : D → Prop) : Prop := match d, e with
  | .int i, .int j => K (.bl (p i j))
  | _, _ => False
def eqG (neg : Bool) (d e : D) (K : D → Prop) : Prop := d.pl = true ∧ e.pl = true ∧ SeqAt.shaped d.py = true ∧ SeqAt.shaped e.py = true ∧ K (.bl (if neg then !PyData.eqv d.py e.py else PyData.eqv d.py e.py))
def eqD (neg : Bool) (d e : D) (K : D → Prop) : Prop := match d, e with
  | .int i, .int j => K (.bl (if neg then !decide (i = j) else decide (i = j)))
  | .str i, .str j => K (.bl (if neg then !decide (i = j) else decide (i = j)))
  | .bl i, .bl j => K (.bl (if neg then !decide (i = j) else decide (i = j)))
  | .lst [], .lst ys => K (.bl (if neg then !ys.isEmpty else ys.isEmpty))
  | .lst xs, .lst [] => K (.bl (if neg then !xs.isEmpty else xs.isEmpty))
  | .lst xs, .lst ys => eqG neg (.lst xs) (.lst ys) K
  | d, e => eqG neg d e K
def inD (neg : Bool) (d e : D) (K : D → Prop) : Prop := match e with
  | .lst ds => flatD d = true ∧ ds.all flatD = true ∧ K (.bl (if neg then !inV (fv d) (ds.map fv) else inV (fv d) (ds.map fv)))
  | .tup ds => flatD d = true ∧ ds.all flatD = true ∧ K (.bl (if neg then !inV (fv d) (ds.map fv) else inV (fv d) (ds.map fv)))
  | .dic kvs => match d with
    | .int k => K (.bl (if neg then !(valD kvs k).isSome else (valD kvs k).isSome))
    | _ => False
  | _ => False
def isND (neg : Bool) (d e : D) (K : D → Prop) : Prop := e.pl = true ∧ match e with
  | .non => (match d with
    | .non => K (.bl (!neg))
    | _ => K (.bl neg))
  | _ => False

section
variable {X : Cx} {C : C3} (hK : X.K = C.K)
theorem od_add : OpD C (fun x y H Q => (∃ i j, x = .int i ∧ y = .int j ∧ Q (.int (i + j)) H) ∨ (∃ i j, x = .str i ∧ y = .str j ∧ i.length + j.length ≤ sizeLine ∧ Q (.str (i ++ j)) H) ∨ rCat x y H Q ∨ rCatN C.K x y H Q) addD := by
  intro x y d e H G Kd Q ok r1 r2 h pv
  unfold addD at h
  split at h
  · cases r1; cases r2
    exact .inl ⟨_, _, rfl, rfl, pv _ _ H G Stp.refl ok (.int _) h⟩
  · cases r1; cases r2
    exact .inr (.inl ⟨_, _, rfl, rfl, h.1, pv _ _ H G Stp.refl ok (.str _) h.2⟩)
  · cases r1 with
    | lst ha ra =>
      cases r2 with
      | lst hb rb =>
        refine .inr (.inr (.inl ⟨_, _, _, _, rfl, rfl, (ok.sub _ _ ha).2, (ok.sub _ _ hb).2, by rw [← ra.length, ← rb.length]; exact h.1, fun p hp => ?_⟩))
        obtain ⟨o1, s1⟩ := ok.lay (o := .lst _) hp
        exact pv _ _ _ _ s1 o1 (.lst upd_same ((ra.append rb).mono s1.ge)) h.2
  · cases r1 with
    | tup ha ra =>
      cases r2 with
      | tup hb rb =>
        refine .inr (.inr (.inr ⟨_, _, _, _, rfl, rfl, seqT (fun a o e => (ok.sub a o e).2) ha.sq, seqT (fun a o e => (ok.sub a o e).2) hb.sq, by rw [← ra.length, ← rb.length]; exact h.1, fun z => ?_, fun _ z => ?_, fun _ _ p ob hp c1 c2 => ?_⟩))
        · subst z
          cases ra
          exact pv _ _ H G Stp.refl ok (.tup hb rb) h.2
        · subst z
          cases rb
          rw [List.append_nil] at h
          exact pv _ _ H G Stp.refl ok (.tup ha ra) h.2
        · obtain ⟨o1, s1⟩ := ok.lay (o := .frz ob (.tup _)) hp
          exact pv _ _ _ _ s1 o1 (.tup (.inl ⟨ob, upd_same, c1, c2⟩) ((ra.append rb).mono s1.ge)) h.2
  · exact h.elim
theorem or_add (hK : X.K = C.K) : OpR X (binaryOp .Add) (fun x y H Q => (∃ i j, x = .int i ∧ y = .int j ∧ Q (.int (i + j)) H) ∨ (∃ i j, x = .str i ∧ y = .str j ∧ i.length + j.length ≤ sizeLine ∧ Q (.str (i ++ j)) H) ∨ rCat x y H Q ∨ rCatN C.K x y H Q) :=
  op_add.or (op_add_str.or (op_cat.or (by rw [← hK]; exact op_catN)))
theorem of_cat : OpF C rCat (fun d e K => match d, e with | .lst xs, .lst ys => xs.length + ys.length ≤ sizeLine ∧ K (.lst (xs ++ ys)) | _, _ => False) := by
  intro x y d e H G Kd Q ok r1 r2 h pv
  split at h
  · cases r1 with
    | lst ha ra =>
      cases r2 with
      | lst hb rb =>
        refine ⟨_, _, _, _, rfl, rfl, (ok.sub _ _ ha).2, (ok.sub _ _ hb).2, by rw [← ra.length, ← rb.length]; exact h.1, fun p hp => ?_⟩
        obtain ⟨o1, s1, g⟩ := ok.new (o := .lst _) hp
        exact pv _ p _ _ G s1 o1 (nT_none hp) g upd_same (ok.iv.new hp) (.lst (ra.append rb)) h.2
  · exact h.elim
def catD (d e : D) (K : D → Prop) : Prop := match d, e with | .lst xs, .lst ys => xs.length + ys.length ≤ sizeLine ∧ K (.lst (xs ++ ys)) | _, _ => False
theorem od_sub : OpD C (rI0 fun i j => .int (i - j)) subD := by
  intro x y d e H G Kd Q ok r1 r2 h pv
  unfold subD at h
  split at h
  · cases r1; cases r2
    exact ⟨_, _, rfl, rfl, pv _ _ H G Stp.refl ok (.int _) h⟩
  · exact h.elim
theorem od_mod : OpD C (rI (fun _ j => 0 < j) fun i j => .int (i % j)) modD := by
  intro x y d e H G Kd Q ok r1 r2 h pv
  unfold modD at h
  split at h
  · cases r1; cases r2
    exact ⟨_, _, rfl, rfl, h.1, pv _ _ H G Stp.refl ok (.int _) h.2⟩
  · exact h.elim
theorem od_fdiv : OpD C (rI CDivW fun i j => .int (i / j)) fdivD := by
  intro x y d e H G Kd Q ok r1 r2 h pv
  unfold fdivD at h
  split at h
  · cases r1; cases r2
    exact ⟨_, _, rfl, rfl, h.1, pv _ _ H G Stp.refl ok (.int _) h.2⟩
  · exact h.elim
theorem od_pow : OpD C (rI CPow fun i j => .int (i ^ j.toNat)) powD := by
  intro x y d e H G Kd Q ok r1 r2 h pv
  unfold powD at h
  split at h
  · cases r1; cases r2
    exact ⟨_, _, rfl, rfl, h.1, pv _ _ H G Stp.refl ok (.int _) h.2⟩
  · exact h.elim
theorem od_ord (p : Int → Int → Bool) : OpD C (rI0 fun i j => .bl (p i j)) (ordD p) := by
  intro x y d e H G Kd Q ok r1 r2 h pv
  unfold ordD at h
  split at h
  · cases r1; cases r2
    exact ⟨_, _, rfl, rfl, pv _ _ H G Stp.refl ok (.bl _) h⟩
  · exact h.elim
theorem Rps.rep {K : PySem.W.Frag} {G : Hp} {ds : List D} {vs : List V} (r : Rps K G ds vs) : ∀ n : Nat, Rps K G (List.replicate n ds).flatten (List.replicate n vs).flatten
  | 0 => .nil
  | n + 1 => by
    rw [List.replicate_succ, List.replicate_succ, List.flatten_cons, List.flatten_cons]
    exact r.append (Rps.rep r n)
theorem od_mul : OpD C (fun x y H Q => rI CMul (fun i j => .int (i * j)) x y H Q ∨ rRep x y H Q) mulD := by
  intro x y d e H G Kd Q ok r1 r2 h pv
  unfold mulD at h
  split at h
  · cases r1; cases r2
    exact .inl ⟨_, _, rfl, rfl, h.1, pv _ _ H G Stp.refl ok (.int _) h.2⟩
  · cases r1 with
    | lst ha ra =>
      cases r2
      obtain ⟨h0, h1, h2, h3⟩ := h
      refine .inr ⟨_, _, _, rfl, rfl, (ok.sub _ _ ha).2, by omega, h1, by rw [← ra.length]; exact h2, fun p hp => ?_⟩
      obtain ⟨o1, s1⟩ := ok.lay (o := .lst _) hp
      exact pv _ _ _ _ s1 o1 (.lst upd_same ((ra.rep _).mono s1.ge)) h3
  · exact h.elim
theorem eqv_nil1 : ∀ ys : List D, PyData.eqv (D.lst []).py (D.lst ys).py = ys.isEmpty
  | [] => rfl
  | _ :: _ => rfl
theorem eqv_nil2 : ∀ ys : List D, PyData.eqv (D.lst ys).py (D.lst []).py = ys.isEmpty
  | [] => rfl
  | _ :: _ => rfl
end
end L3
/-! L3c: ==, in, tests, and, or, not, if -/
namespace L3
open PySem PySem.Spec PyProof.Rows L2
section
variable {X : Cx} {C : C3}
def rEqA (K : PySem.W.Frag) (neg : Bool) : R2 := fun x y H Q => if neg then rNe x y H Q ∨ rNeD K x y H Q else rEq x y H Q ∨ rEqD K x y H Q
theorem or_eqA (hK : X.K = C.K) (hu : X.A.units + 64 < cLine) : OpR X (compareOp .Eq) (rEqA C.K false) := by
  rw [← hK]
  exact op_eq.or (op_eqD hu)
theorem or_neA (hK : X.K = C.K) (hu : X.A.units + 64 < cLine) : OpR X (compareOp .NotEq) (rEqA C.K true) := by
  rw [← hK]
  exact op_ne.or (op_neD hu)
theorem dec_i {i j : Int} : decide (V.int i = V.int j) = decide (i = j) := by
  by_cases e : i = j
  · subst e; simp
  · rw [decide_eq_false e, decide_eq_false (fun z => e (V.int.inj z))]
theorem dec_b {i j : Bool} : decide (V.bl i = V.bl j) = decide (i = j) := by
  by_cases e : i = j
  · subst e; simp
  · rw [decide_eq_false e, decide_eq_false (fun z => e (V.bl.inj z))]
theorem dec_s {i j : Str} : decide (V.str i = V.str j) = decide (i = j) := by
  by_cases e : i = j
  · subst e; simp
  · rw [decide_eq_false e, decide_eq_false (fun z => e (V.str.inj z))]
theorem eqG_ok {neg : Bool} {x y : V} {d e : D} {H G : Hp} {Kd : D → Prop} {Q : VK} (ok : Ok3 C H G) (r1 : Rp C.K G d x) (r2 : Rp C.K G e y) (h : eqG neg d e Kd) (pv : PostV C H G Kd Q) : rEqA C.K neg x y H Q := by
  obtain ⟨p1, p2, s1, s2, k⟩ := h
  have sm : ∀ a o, G a = some o → H a = some o := fun a o q => (ok.sub a o q).2
  cases neg
  · exact .inr ⟨_, _, r1.dp sm p1, r2.dp sm p2, s1, s2, pv _ _ H G Stp.refl ok (.bl _) k⟩
  · exact .inr ⟨_, _, r1.dp sm p1, r2.dp sm p2, s1, s2, pv _ _ H G Stp.refl ok (.bl _) k⟩
def rNilL (K : PySem.W.Frag) (neg : Bool) : R2 := fun x y H Q => False
theorem od_eq (neg : Bool) : OpD C (rEqA C.K neg) (eqG neg) := fun x y d e H G Kd Q ok r1 r2 h pv => eqG_ok ok r1 r2 h pv
@[irreducible] def eqE (neg : Bool) (d e : D) (K : D → Prop) : Prop := match d, e with
  | .int i, .int j => K (.bl (if neg then !decide (i = j) else decide (i = j)))
  | .str i, .str j => K (.bl (if neg then !decide (i = j) else decide (i = j)))
  | .bl i, .bl j => K (.bl (if neg then !decide (i = j) else decide (i = j)))
  | d, e => eqG neg d e K
theorem od_eqE (neg : Bool) : OpD C (rEqA C.K neg) (eqE neg) := by
  intro x y d e H G Kd Q ok r1 r2 h pv
  unfold eqE at h
  split at h
  · cases r1; cases r2
    cases neg
    · exact .inl ⟨rfl, pv _ _ H G Stp.refl ok (.bl _) (by rw [dec_i]; exact h)⟩
    · exact .inl ⟨rfl, pv _ _ H G Stp.refl ok (.bl _) (by rw [dec_i]; exact h)⟩
  · cases r1; cases r2
    cases neg
    · exact .inl ⟨rfl, pv _ _ H G Stp.refl ok (.bl _) (by rw [dec_s]; exact h)⟩
    · exact .inl ⟨rfl, pv _ _ H G Stp.refl ok (.bl _) (by rw [dec_s]; exact h)⟩
  · cases r1; cases r2
    cases neg
    · exact .inl ⟨rfl, pv _ _ H G Stp.refl ok (.bl _) (by rw [dec_b]; exact h)⟩
    · exact .inl ⟨rfl, pv _ _ H G Stp.refl ok (.bl _) (by rw [dec_b]; exact h)⟩
  · exact eqG_ok ok r1 r2 h pv
/-- in, not in -/
def rInA (K : PySem.W.Frag) (neg : Bool) : R2 := rIn K neg
theorem od_in (neg : Bool) : OpD C (rIn C.K neg) (fun d e K => match e with
  | .lst ds => flatD d = true ∧ ds.all flatD = true ∧ K (.bl (if neg then !inV (fv d) (ds.map fv) else inV (fv d) (ds.map fv)))
  | .tup ds => flatD d = true ∧ ds.all flatD = true ∧ K (.bl (if neg then !inV (fv d) (ds.map fv) else inV (fv d) (ds.map fv)))
  | _ => False) := by
  intro x y d e H G Kd Q ok r1 r2 h pv
  split at h
  · obtain ⟨f1, f2, k⟩ := h
    obtain ⟨rfl, g1⟩ := r1.flat f1
    cases r2 with
    | lst ha ra =>
      obtain ⟨rfl, g2⟩ := ra.flat f2
      exact ⟨_, _, rfl, .inl (.inl (.inl (ok.sub _ _ ha).2)), g1, g2, pv _ _ H G Stp.refl ok (.bl _) k⟩
  · obtain ⟨f1, f2, k⟩ := h
    obtain ⟨rfl, g1⟩ := r1.flat f1
    cases r2 with
    | tup ha ra =>
      obtain ⟨rfl, g2⟩ := ra.flat f2
      exact ⟨_, _, rfl, .inr (seqT (fun a o e => (ok.sub a o e).2) ha.sq), g1, g2, pv _ _ H G Stp.refl ok (.bl _) k⟩
  · exact h.elim
@[irreducible] def inS (neg : Bool) (d e : D) (K : D → Prop) : Prop := match e with
  | .lst ds => flatD d = true ∧ ds.all flatD = true ∧ K (.bl (if neg then !inV (fv d) (ds.map fv) else inV (fv d) (ds.map fv)))
  | .tup ds => flatD d = true ∧ ds.all flatD = true ∧ K (.bl (if neg then !inV (fv d) (ds.map fv) else inV (fv d) (ds.map fv)))
  | _ => False
theorem od_inS (neg : Bool) : OpD C (rIn C.K neg) (inS neg) := fun x y d e H G Kd Q ok r1 r2 h pv => od_in neg x y d e H G Kd Q ok r1 r2 (by
  unfold inS at h
  exact h) pv
/-- tuples in a list -/
def inDp (neg : Bool) (d e : D) (K : D → Prop) : Prop := match e with
  | .lst ds => d.pl = true ∧ D.pls ds = true ∧ SeqAt.shaped d.py = true ∧ SeqAt.shaped (D.lst ds).py = true ∧ K (.bl (if neg then !(D.pys ds).any (fun z => PyData.eqv z d.py) else (D.pys ds).any fun z => PyData.eqv z d.py))
  | _ => False
theorem od_inDp (neg : Bool) : OpD C (if neg then rNotInD C.K else rInD C.K) (inDp neg) := by
  intro x y d e H G Kd Q ok r1 r2 h pv
  unfold inDp at h
  split at h
  · obtain ⟨f1, f2, s1, s2, k⟩ := h
    have sm : ∀ a o, G a = some o → H a = some o := fun a o q => (ok.sub a o q).2
    cases neg
    · exact ⟨_, _, r1.dp sm f1, r2.dp sm f2, s1, s2, pv _ _ H G Stp.refl ok (.bl _) k⟩
    · exact ⟨_, _, r1.dp sm f1, r2.dp sm f2, s1, s2, pv _ _ H G Stp.refl ok (.bl _) k⟩
  · exact h.elim
/-- is None, is not None -/
theorem od_isN (neg : Bool) : OpD C (fun x y H Q => y = .non ∧ Q (.bl (if neg then !decide (x = .non) else decide (x = .non))) H) (isND neg) := by
  intro x y d e H G Kd Q ok r1 r2 h pv
  obtain ⟨_, h⟩ := h
  split at h
  · cases r2
    refine ⟨rfl, ?_⟩
    split at h
    · cases r1
      cases neg <;> exact pv _ _ H G Stp.refl ok (.bl _) h
    · rename_i hn
      have e : decide (x = V.non) = false := decide_eq_false fun z => by
        subst z
        cases r1
        exact hn rfl
      rw [e]
      cases neg <;> exact pv _ _ H G Stp.refl ok (.bl _) h
  · exact h.elim
end

section
variable {X : Cx} {C : C3} {E : XK} {a b c : Expr} {ma mb mc : MEt} {f f' : D → D → (D → Prop) → Prop} {r r' : R2} {pos : Pos} {mg : Str → Option Value}
theorem me_eq (hK : X.K = C.K) (hu : X.A.units + 64 < cLine) (ha : ME X C E a ma) (hb : ME X C E b mb) : ME X C E (.Compare a [.Eq] [b] pos) (m2 (eqE false) ma mb) := me_cmp (or_eqA hK hu) (od_eqE false) ha hb (nomark b)
theorem me_ne (hK : X.K = C.K) (hu : X.A.units + 64 < cLine) (ha : ME X C E a ma) (hb : ME X C E b mb) : ME X C E (.Compare a [.NotEq] [b] pos) (m2 (eqE true) ma mb) := me_cmp (or_neA hK hu) (od_eqE true) ha hb (nomark b)
abbrev pLt : Int → Int → Bool := fun i j => decide (i < j)
abbrev pLe : Int → Int → Bool := fun i j => decide (i ≤ j)
abbrev pGt : Int → Int → Bool := fun i j => decide (j < i)
abbrev pGe : Int → Int → Bool := fun i j => decide (j ≤ i)
theorem me_lt (ha : ME X C E a ma) (hb : ME X C E b mb) : ME X C E (.Compare a [.Lt] [b] pos) (m2 (ordD pLt) ma mb) := me_cmp op_lt (od_ord pLt) ha hb (nomark b)
theorem me_le (ha : ME X C E a ma) (hb : ME X C E b mb) : ME X C E (.Compare a [.LtE] [b] pos) (m2 (ordD pLe) ma mb) := me_cmp op_le (od_ord pLe) ha hb (nomark b)
theorem me_gt (ha : ME X C E a ma) (hb : ME X C E b mb) : ME X C E (.Compare a [.Gt] [b] pos) (m2 (ordD pGt) ma mb) := me_cmp op_gt (od_ord pGt) ha hb (nomark b)
theorem me_ge (ha : ME X C E a ma) (hb : ME X C E b mb) : ME X C E (.Compare a [.GtE] [b] pos) (m2 (ordD pGe) ma mb) := me_cmp op_ge (od_ord pGe) ha hb (nomark b)
theorem me_isN (ha : ME X C E a ma) (hb : ME X C E b mb) : ME X C E (.Compare a [.Is] [b] pos) (m2 (isND false) ma mb) := me_cmp op_isN (od_isN false) ha hb (nomark b)
theorem me_isNN (ha : ME X C E a ma) (hb : ME X C E b mb) : ME X C E (.Compare a [.IsNot] [b] pos) (m2 (isND true) ma mb) := me_cmp op_notN (od_isN true) ha hb (nomark b)
theorem me_inS (hK : X.K = C.K) (ha : ME X C E a ma) (hb : ME X C E b mb) (hm : behindInMarks .In b = false := by rfl) : ME X C E (.Compare a [.In] [b] pos) (m2 (inS false) ma mb) := me_cmp (by rw [← hK]; exact op_in_seq) (od_inS false) ha hb hm
theorem me_niS (hK : X.K = C.K) (ha : ME X C E a ma) (hb : ME X C E b mb) (hm : behindInMarks .NotIn b = false := by rfl) : ME X C E (.Compare a [.NotIn] [b] pos) (m2 (inS true) ma mb) := me_cmp (by rw [← hK]; exact op_notIn_seq) (od_inS true) ha hb hm
theorem me_inDp (hK : X.K = C.K) (hu : X.A.units + 65 < cLine) (ha : ME X C E a ma) (hb : ME X C E b mb) (hm : behindInMarks .In b = false := by rfl) : ME X C E (.Compare a [.In] [b] pos) (m2 (inDp false) ma mb) := me_cmp (r := rInD C.K) (by rw [← hK]; exact op_inD hu) (od_inDp false) ha hb hm
theorem me_niDp (hK : X.K = C.K) (hu : X.A.units + 65 < cLine) (ha : ME X C E a ma) (hb : ME X C E b mb) (hm : behindInMarks .NotIn b = false := by rfl) : ME X C E (.Compare a [.NotIn] [b] pos) (m2 (inDp true) ma mb) := me_cmp (r := rNotInD C.K) (by rw [← hK]; exact op_notInD hu) (od_inDp true) ha hb hm
/-- k in d, for a dict -/
def inK (neg : Bool) (d e : D) (K : D → Prop) : Prop := match d, e with
  | .int k, .dic kvs => K (.bl (if neg then !(valD kvs k).isSome else (valD kvs k).isSome))
  | _, _ => False
theorem rp_dget {G H : Hp} {K : PySem.W.Frag} {kvs : List (Int × D)} {y : V} (k : Int) (r : Rp K G (.dic kvs) y) (sm : ∀ a o, G a = some o → H a = some o) :
    ∃ p, y = .ref p ∧ IsD H p ∧ ((valD kvs k = none ∧ DGet H p (.int k) none) ∨ ∃ d v, valD kvs k = some d ∧ DGet H p (.int k) (some v) ∧ Rp K G d v) := by
  cases r with
  | dic ha ra =>
    have hr : Rd H _ (.dK _) := .inr ⟨_, sm _ _ ha⟩
    refine ⟨_, rfl, .inl ⟨_, hr⟩, ?_⟩
    rcases ra.val k with ⟨e1, e2⟩ | ⟨d, v, e1, e2, e3⟩
    · exact .inl ⟨e1, .inl ⟨_, Sum.inl k, hr, rfl, e2.symm⟩⟩
    · exact .inr ⟨d, v, e1, .inl ⟨_, Sum.inl k, hr, rfl, e2.symm⟩, e3⟩
theorem lift_din (neg : Bool) {σ : L2.St} {H : Hp} {Q : VK} (h : lift C mg E (m2 (inK neg) ma mb) σ H Q) :
    (lift C mg E ma) σ H fun y H1 => (lift C mg E mb) σ H1 fun x H2 => ∃ a o, x = .ref a ∧ DGet H2 a y o ∧ Q (.bl (if neg then !o.isSome else o.isSome)) H2 := by
  obtain ⟨env, G, Kd, KX, ok, vr, hm, pv, px⟩ := h
  refine ⟨env, G, _, KX, ok, vr, hm, fun d x H1 G1 s1 ok1 r1 k1 => ⟨env, G1, _, KX, ok1, vr.mono s1.ge, k1, fun e y H2 G2 s2 ok2 r2 k2 => ?_, px.on ok s1⟩, px⟩
  have k2 : inK neg d e Kd := k2
  unfold inK at k2
  split at k2
  · cases r1
    rename_i k kvs _
    obtain ⟨p, e1, _, h⟩ := rp_dget (H := H2) k r2 (fun a o q => (ok2.sub a o q).2)
    subst e1
    rcases h with ⟨e1, e2⟩ | ⟨d, v, e1, e2, _⟩
    · rw [e1] at k2
      exact ⟨p, none, rfl, e2, pv _ _ _ _ (s1.trans ok2 s2) ok2 (.bl _) k2⟩
    · rw [e1] at k2
      exact ⟨p, some v, rfl, e2, pv _ _ _ _ (s1.trans ok2 s2) ok2 (.bl _) k2⟩
  · exact k2.elim
theorem me_inK (hu : X.A.units + 1 < cLine) (ha : ME X C E a ma) (hb : ME X C E b mb) (hm : behindInMarks .In b = false := by rfl) : ME X C E (.Compare a [.In] [b] pos) (m2 (inK false) ma mb) := PE.imp (pe_cmp (pc_din hu ha hb) hm) fun _ _ _ h => lift_din false h
theorem me_niK (hu : X.A.units + 1 < cLine) (ha : ME X C E a ma) (hb : ME X C E b mb) (hm : behindInMarks .NotIn b = false := by rfl) : ME X C E (.Compare a [.NotIn] [b] pos) (m2 (inK true) ma mb) := PE.imp (pe_cmp (pc_dnotin hu ha hb) hm) fun _ _ _ h => lift_din true h
/-- one sign in a text -/
def inT (neg : Bool) (d e : D) (K : D → Prop) : Prop := match d, e with
  | .str x, .str y => K (.bl (if neg then !(!(Builtin.Str.occurrences y x 0 y.length 1).isEmpty) else !(Builtin.Str.occurrences y x 0 y.length 1).isEmpty))
  | _, _ => False
theorem od_inT (neg : Bool) : OpD C (fun x y H Q => ∃ i j, x = .str i ∧ y = .str j ∧ Q (.bl (if neg then !(!(Builtin.Str.occurrences j i 0 j.length 1).isEmpty) else !(Builtin.Str.occurrences j i 0 j.length 1).isEmpty)) H) (inT neg) := by
  intro x y d e H G Kd Q ok r1 r2 h pv
  unfold inT at h
  split at h
  · cases r1; cases r2
    exact ⟨_, _, rfl, rfl, pv _ _ H G Stp.refl ok (.bl _) h⟩
  · exact h.elim
theorem me_inT (ha : ME X C E a ma) (hb : ME X C E b mb) (hm : behindInMarks .In b = false := by rfl) : ME X C E (.Compare a [.In] [b] pos) (m2 (inT false) ma mb) := me_cmp op_in_str (od_inT false) ha hb hm
theorem me_niT (ha : ME X C E a ma) (hb : ME X C E b mb) (hm : behindInMarks .NotIn b = false := by rfl) : ME X C E (.Compare a [.NotIn] [b] pos) (m2 (inT true) ma mb) := me_cmp op_notIn_str (od_inT true) ha hb hm

/-! ### tests -/
abbrev MTt := EnvE → (Bool → Prop) → (Exn → Prop) → Prop
def liftT (C : C3) (mg : Str → Option Value) (E : XK) (m : MTt) : TT := fun σ H Q => ∃ env G Kb KX, Ok3 C H G ∧ VR C.K G env σ ∧ m env Kb KX ∧ (∀ b H' G', Stp C H G H' G' → Ok3 C H' G' → Kb b → Q b H') ∧ PostX C mg H G KX E
abbrev MT (X : Cx) (C : C3) (E : XK) (e : Expr) (m : MTt) : Prop := PT X e (liftT C X.mg E m)
def isB (d : D) (K : Bool → Prop) : Prop := match d with
  | .bl b => K b
  | _ => False
def mB (m : MEt) : MTt := fun env Kb KX => m env (fun d => isB d Kb) KX
theorem liftB {m : MEt} {σ : L2.St} {H : Hp} {Q : Bool → Hp → Prop} (h : liftT C mg E (mB m) σ H Q) : lift C mg E m σ H fun x H' => ∃ k, x = .bl k ∧ Q k H' := by
  obtain ⟨env, G, Kb, KX, ok, vr, hm, pv, px⟩ := h
  refine ⟨env, G, _, KX, ok, vr, hm, fun d v H' G' s1 ok1 r1 k1 => ?_, px⟩
  have k1 : isB d Kb := k1
  cases r1 <;> first | exact k1.elim | exact ⟨_, rfl, pv _ _ _ s1 ok1 k1⟩
theorem mt_cmp {op : CmpOp} (ho : OpR X (compareOp op) r) (hd : OpD C r f) (ha : ME X C E a ma) (hb : ME X C E b mb) (hm : behindInMarks op b = false) : MT X C E (.Compare a [op] [b] pos) (mB (m2 f ma mb)) :=
  PT.imp (pt_cmpR ho ha hb hm) fun _ _ _ h => lift2 hd (liftB h)
theorem mt_eq (hK : X.K = C.K) (hu : X.A.units + 64 < cLine) (ha : ME X C E a ma) (hb : ME X C E b mb) : MT X C E (.Compare a [.Eq] [b] pos) (mB (m2 (eqE false) ma mb)) := mt_cmp (or_eqA hK hu) (od_eqE false) ha hb (nomark b)
theorem mt_ne (hK : X.K = C.K) (hu : X.A.units + 64 < cLine) (ha : ME X C E a ma) (hb : ME X C E b mb) : MT X C E (.Compare a [.NotEq] [b] pos) (mB (m2 (eqE true) ma mb)) := mt_cmp (or_neA hK hu) (od_eqE true) ha hb (nomark b)
theorem mt_lt (ha : ME X C E a ma) (hb : ME X C E b mb) : MT X C E (.Compare a [.Lt] [b] pos) (mB (m2 (ordD pLt) ma mb)) := mt_cmp op_lt (od_ord pLt) ha hb (nomark b)
theorem mt_le (ha : ME X C E a ma) (hb : ME X C E b mb) : MT X C E (.Compare a [.LtE] [b] pos) (mB (m2 (ordD pLe) ma mb)) := mt_cmp op_le (od_ord pLe) ha hb (nomark b)
theorem mt_gt (ha : ME X C E a ma) (hb : ME X C E b mb) : MT X C E (.Compare a [.Gt] [b] pos) (mB (m2 (ordD pGt) ma mb)) := mt_cmp op_gt (od_ord pGt) ha hb (nomark b)
theorem mt_ge (ha : ME X C E a ma) (hb : ME X C E b mb) : MT X C E (.Compare a [.GtE] [b] pos) (mB (m2 (ordD pGe) ma mb)) := mt_cmp op_ge (od_ord pGe) ha hb (nomark b)
theorem mt_isN (ha : ME X C E a ma) (hb : ME X C E b mb) : MT X C E (.Compare a [.Is] [b] pos) (mB (m2 (isND false) ma mb)) := mt_cmp op_isN (od_isN false) ha hb (nomark b)
theorem mt_isNN (ha : ME X C E a ma) (hb : ME X C E b mb) : MT X C E (.Compare a [.IsNot] [b] pos) (mB (m2 (isND true) ma mb)) := mt_cmp op_notN (od_isN true) ha hb (nomark b)
theorem mt_inS (hK : X.K = C.K) (ha : ME X C E a ma) (hb : ME X C E b mb) (hm : behindInMarks .In b = false := by rfl) : MT X C E (.Compare a [.In] [b] pos) (mB (m2 (inS false) ma mb)) := mt_cmp (by rw [← hK]; exact op_in_seq) (od_inS false) ha hb hm
theorem mt_niS (hK : X.K = C.K) (ha : ME X C E a ma) (hb : ME X C E b mb) (hm : behindInMarks .NotIn b = false := by rfl) : MT X C E (.Compare a [.NotIn] [b] pos) (mB (m2 (inS true) ma mb)) := mt_cmp (by rw [← hK]; exact op_notIn_seq) (od_inS true) ha hb hm
theorem mt_inDp (hK : X.K = C.K) (hu : X.A.units + 65 < cLine) (ha : ME X C E a ma) (hb : ME X C E b mb) (hm : behindInMarks .In b = false := by rfl) : MT X C E (.Compare a [.In] [b] pos) (mB (m2 (inDp false) ma mb)) := mt_cmp (r := rInD C.K) (by rw [← hK]; exact op_inD hu) (od_inDp false) ha hb hm
theorem mt_niDp (hK : X.K = C.K) (hu : X.A.units + 65 < cLine) (ha : ME X C E a ma) (hb : ME X C E b mb) (hm : behindInMarks .NotIn b = false := by rfl) : MT X C E (.Compare a [.NotIn] [b] pos) (mB (m2 (inDp true) ma mb)) := mt_cmp (r := rNotInD C.K) (by rw [← hK]; exact op_notInD hu) (od_inDp true) ha hb hm
theorem mt_inK (hu : X.A.units + 1 < cLine) (ha : ME X C E a ma) (hb : ME X C E b mb) (hm : behindInMarks .In b = false := by rfl) : MT X C E (.Compare a [.In] [b] pos) (mB (m2 (inK false) ma mb)) := PT.imp (pt_cmp (pc_din hu ha hb) hm) fun _ _ _ h => lift_din false (liftB h)
theorem mt_niK (hu : X.A.units + 1 < cLine) (ha : ME X C E a ma) (hb : ME X C E b mb) (hm : behindInMarks .NotIn b = false := by rfl) : MT X C E (.Compare a [.NotIn] [b] pos) (mB (m2 (inK true) ma mb)) := PT.imp (pt_cmp (pc_dnotin hu ha hb) hm) fun _ _ _ h => lift_din true (liftB h)
theorem mt_inT (ha : ME X C E a ma) (hb : ME X C E b mb) (hm : behindInMarks .In b = false := by rfl) : MT X C E (.Compare a [.In] [b] pos) (mB (m2 (inT false) ma mb)) := mt_cmp op_in_str (od_inT false) ha hb hm
theorem mt_niT (ha : ME X C E a ma) (hb : ME X C E b mb) (hm : behindInMarks .NotIn b = false := by rfl) : MT X C E (.Compare a [.NotIn] [b] pos) (mB (m2 (inT true) ma mb)) := mt_cmp op_notIn_str (od_inT true) ha hb hm
/-- an expression that is a bool -/
theorem mt_val (ha : ME X C E a ma) (he : ∀ whole, isTrue a X.env whole = (do let v ← whole; standAt a.pos; holding [v] (truthy v)) := by intro _; rfl) : MT X C E a (mB ma) := PT.imp (pt_val ha he) fun _ _ _ h => liftB h
/-- chains -/
def m3 (f f' : D → D → (D → Prop) → Prop) (ma mb mc : MEt) : MEt := fun env Kd KX => ma env (fun d => mb env (fun e => f d e fun z => isB z fun k => if k = true then mc env (fun g => f' e g Kd) KX else Kd (.bl false)) KX) KX
theorem lift3 (ho : OpD C r f) (ho' : OpD C r' f') {σ : L2.St} {H : Hp} {Q : VK} (h : lift C mg E (m3 f f' ma mb mc) σ H Q) : tChain r r' (lift C mg E ma) (lift C mg E mb) (lift C mg E mc) σ H Q := by
  obtain ⟨env, G, Kd, KX, ok, vr, hm, pv, px⟩ := h
  refine ⟨env, G, _, KX, ok, vr, hm, fun d x H1 G1 s1 ok1 r1 k1 => ⟨env, G1, _, KX, ok1, vr.mono s1.ge, k1, fun e y H2 G2 s2 ok2 r2 k2 =>
    ho x y d e H2 G2 _ _ ok2 (r1.mono s2.ge) r2 k2 fun z v H3 G3 s3 ok3 r3 k3 => ?_, px.on ok s1⟩, px⟩
  have k3 : isB z _ := k3
  have s02 := s1.trans ok2 s2
  have s03 := s02.trans ok3 s3
  obtain ⟨k, rfl, rfl⟩ : ∃ k, z = .bl k ∧ v = .bl k := by cases r3 <;> first | exact k3.elim | exact ⟨_, rfl, rfl⟩
  refine ⟨k, rfl, ?_⟩
  cases k with
  | true => exact ⟨env, G3, _, KX, ok3, vr.mono s03.ge, k3, fun g w H4 G4 s4 ok4 r4 k4 => ho' y w e g H4 G4 Kd Q ok4 (r2.mono (s3.ge.trans s4.ge)) r4 k4 ((pv.on s03).on s4), px.on ok s03⟩
  | false => exact pv _ _ _ _ s03 ok3 (.bl false) k3
theorem me_chain {op op' : CmpOp} (ho : OpR X (compareOp op) r) (ho' : OpR X (compareOp op') r') (hd : OpD C r f) (hd' : OpD C r' f') (ha : ME X C E a ma) (hb : ME X C E b mb) (hc : ME X C E c mc) (hm : lastMarks [op, op'] [b, c] = false := by with_unfolding_all rfl) : ME X C E (.Compare a [op, op'] [b, c] pos) (m3 f f' ma mb mc) :=
  PE.imp (pe_chain ho ho' ha hb hc hm) fun _ _ _ h => lift3 hd hd' h
theorem mt_chain {op op' : CmpOp} (ho : OpR X (compareOp op) r) (ho' : OpR X (compareOp op') r') (hd : OpD C r f) (hd' : OpD C r' f') (ha : ME X C E a ma) (hb : ME X C E b mb) (hc : ME X C E c mc) (hm : lastMarks [op, op'] [b, c] = false := by with_unfolding_all rfl) : MT X C E (.Compare a [op, op'] [b, c] pos) (mB (m3 f f' ma mb mc)) :=
  PT.imp (pt_chain ho ho' ha hb hc hm) fun _ _ _ h => lift3 hd hd' (liftB h)
theorem me_leLt (ha : ME X C E a ma) (hb : ME X C E b mb) (hc : ME X C E c mc) (hm : lastMarks [.LtE, .Lt] [b, c] = false := by with_unfolding_all rfl) : ME X C E (.Compare a [.LtE, .Lt] [b, c] pos) (m3 (ordD pLe) (ordD pLt) ma mb mc) := me_chain op_le op_lt (od_ord pLe) (od_ord pLt) ha hb hc hm
theorem mt_leLt (ha : ME X C E a ma) (hb : ME X C E b mb) (hc : ME X C E c mc) (hm : lastMarks [.LtE, .Lt] [b, c] = false := by with_unfolding_all rfl) : MT X C E (.Compare a [.LtE, .Lt] [b, c] pos) (mB (m3 (ordD pLe) (ordD pLt) ma mb mc)) := mt_chain op_le op_lt (od_ord pLe) (od_ord pLt) ha hb hc hm
theorem me_leLe (ha : ME X C E a ma) (hb : ME X C E b mb) (hc : ME X C E c mc) (hm : lastMarks [.LtE, .LtE] [b, c] = false := by with_unfolding_all rfl) : ME X C E (.Compare a [.LtE, .LtE] [b, c] pos) (m3 (ordD pLe) (ordD pLe) ma mb mc) := me_chain op_le op_le (od_ord pLe) (od_ord pLe) ha hb hc hm
theorem mt_leLe (ha : ME X C E a ma) (hb : ME X C E b mb) (hc : ME X C E c mc) (hm : lastMarks [.LtE, .LtE] [b, c] = false := by with_unfolding_all rfl) : MT X C E (.Compare a [.LtE, .LtE] [b, c] pos) (mB (m3 (ordD pLe) (ordD pLe) ma mb mc)) := mt_chain op_le op_le (od_ord pLe) (od_ord pLe) ha hb hc hm

/-! ### and, or, not, a if t else b -/
def mAnd (t u : MTt) : MTt := fun env Kb KX => t env (fun k => if k = true then u env Kb KX else Kb false) KX
def mOr (t u : MTt) : MTt := fun env Kb KX => t env (fun k => if k = true then Kb true else u env Kb KX) KX
def mNot (t : MTt) : MTt := fun env Kb KX => t env (fun k => Kb (!k)) KX
abbrev MW (X : Cx) (C : C3) (E : XK) (e : Expr) (m : MTt) : Prop := PW X e (liftT C X.mg E m)
theorem PW.imp {X : Cx} {e : Expr} {t t' : TT} (h : PW X e t) (q : ∀ σ H Q, t' σ H Q → t σ H Q) : PW X e t' := ⟨fun wh pins s σ H Q I w => h.run wh pins s σ H Q I (q σ H Q w)⟩
variable {rest : List Expr} {ta tb : MTt}
theorem mw_and1 (ha : MT X C E a ta) : MW X C E (.BoolOp .And [a] pos) ta := pw_and1 ha
theorem mw_or1 (ha : MT X C E a ta) : MW X C E (.BoolOp .Or [a] pos) ta := pw_or1 ha
theorem mw_and (ha : MT X C E a ta) (hb : MW X C E (.BoolOp .And (b :: rest) pos) tb) : MW X C E (.BoolOp .And (a :: b :: rest) pos) (mAnd ta tb) := PW.imp (pw_and ha hb) fun σ H Q ⟨env, G, Kb, KX, ok, vr, hm, pv, px⟩ =>
  ⟨env, G, _, KX, ok, vr, hm, fun k H1 G1 s1 ok1 k1 => by
    cases k with
    | true => exact ⟨env, G1, Kb, KX, ok1, vr.mono s1.ge, k1, fun b H2 G2 s2 ok2 k2 => pv b H2 G2 (s1.trans ok2 s2) ok2 k2, px.on ok s1⟩
    | false => exact pv _ _ _ s1 ok1 k1, px⟩
theorem mw_or (ha : MT X C E a ta) (hb : MW X C E (.BoolOp .Or (b :: rest) pos) tb) : MW X C E (.BoolOp .Or (a :: b :: rest) pos) (mOr ta tb) := PW.imp (pw_or ha hb) fun σ H Q ⟨env, G, Kb, KX, ok, vr, hm, pv, px⟩ =>
  ⟨env, G, _, KX, ok, vr, hm, fun k H1 G1 s1 ok1 k1 => by
    cases k with
    | false => exact ⟨env, G1, Kb, KX, ok1, vr.mono s1.ge, k1, fun b H2 G2 s2 ok2 k2 => pv b H2 G2 (s1.trans ok2 s2) ok2 k2, px.on ok s1⟩
    | true => exact pv _ _ _ s1 ok1 k1, px⟩
theorem mt_not (ha : MT X C E a ta) : MT X C E (.UnaryOp .Not a pos) (mNot ta) := PT.imp (pt_not ha) fun σ H Q ⟨env, G, Kb, KX, ok, vr, hm, pv, px⟩ => ⟨env, G, _, KX, ok, vr, hm, fun k H1 G1 s1 ok1 k1 => pv _ _ _ s1 ok1 k1, px⟩
theorem mt_w {e : Expr} {t : MTt} (h : MW X C E e t) : MT X C E e t := h.pt
/-- as values -/
def mAndV (a b : MEt) : MEt := fun env Kd KX => a env (fun d => isB d fun k => if k = true then b env Kd KX else Kd (.bl false)) KX
def mOrV (a b : MEt) : MEt := fun env Kd KX => a env (fun d => isB d fun k => if k = true then Kd (.bl true) else b env Kd KX) KX
def mNotV (a : MEt) : MEt := fun env Kd KX => a env (fun d => isB d fun k => Kd (.bl (!k))) KX
theorem me_one {op} {e : Expr} {m : MEt} (h : ME X C E e m) : ME X C E (.BoolOp op [e] pos) m := pe_one h
theorem me_and (ha : ME X C E a ma) (hb : ME X C E (.BoolOp .And (b :: rest) pos) mb) : ME X C E (.BoolOp .And (a :: b :: rest) pos) (mAndV ma mb) := PE.imp (pe_and ha hb) fun σ H Q ⟨env, G, Kd, KX, ok, vr, hm, pv, px⟩ =>
  ⟨env, G, _, KX, ok, vr, hm, fun d v H1 G1 s1 ok1 r1 k1 => by
    have k1 : isB d _ := k1
    obtain ⟨k, rfl, rfl⟩ : ∃ k, d = .bl k ∧ v = .bl k := by cases r1 <;> first | exact k1.elim | exact ⟨_, rfl, rfl⟩
    refine ⟨k, rfl, ?_⟩
    cases k with
    | true => exact ⟨env, G1, Kd, KX, ok1, vr.mono s1.ge, k1, pv.on s1, px.on ok s1⟩
    | false => exact pv _ _ _ _ s1 ok1 (.bl false) k1, px⟩
theorem me_or (ha : ME X C E a ma) (hb : ME X C E (.BoolOp .Or (b :: rest) pos) mb) : ME X C E (.BoolOp .Or (a :: b :: rest) pos) (mOrV ma mb) := PE.imp (pe_or ha hb) fun σ H Q ⟨env, G, Kd, KX, ok, vr, hm, pv, px⟩ =>
  ⟨env, G, _, KX, ok, vr, hm, fun d v H1 G1 s1 ok1 r1 k1 => by
    have k1 : isB d _ := k1
    obtain ⟨k, rfl, rfl⟩ : ∃ k, d = .bl k ∧ v = .bl k := by cases r1 <;> first | exact k1.elim | exact ⟨_, rfl, rfl⟩
    refine ⟨k, rfl, ?_⟩
    cases k with
    | false => exact ⟨env, G1, Kd, KX, ok1, vr.mono s1.ge, k1, pv.on s1, px.on ok s1⟩
    | true => exact pv _ _ _ _ s1 ok1 (.bl true) k1, px⟩
theorem me_not (ha : ME X C E a ma) : ME X C E (.UnaryOp .Not a pos) (mNotV ma) := PE.imp (pe_not ha) fun σ H Q ⟨env, G, Kd, KX, ok, vr, hm, pv, px⟩ =>
  ⟨env, G, _, KX, ok, vr, hm, fun d v H1 G1 s1 ok1 r1 k1 => by
    have k1 : isB d _ := k1
    cases r1 <;> first | exact k1.elim | skip
    exact ⟨_, rfl, pv _ _ _ _ s1 ok1 (.bl _) k1⟩, px⟩
def mNeg (a : MEt) : MEt := fun env Kd KX => a env (fun d => match d with | .int i => Kd (.int (-i)) | _ => False) KX
theorem me_neg (ha : ME X C E a ma) : ME X C E (.UnaryOp .USub a pos) (mNeg ma) := PE.imp (pe_un un_neg ha) fun σ H Q ⟨env, G, Kd, KX, ok, vr, hm, pv, px⟩ =>
  ⟨env, G, _, KX, ok, vr, hm, fun d v H1 G1 s1 ok1 r1 k1 => by
    cases r1 <;> first | exact k1.elim | skip
    exact ⟨_, rfl, pv _ _ _ _ s1 ok1 (.int _) k1⟩, px⟩
def mIf (t : MTt) (a b : MEt) : MEt := fun env Kd KX => t env (fun k => if k = true then a env Kd KX else b env Kd KX) KX
theorem me_if (hc : MT X C E c ta) (ha : ME X C E a ma) (hb : ME X C E b mb) : ME X C E (.IfExp c a b pos) (mIf ta ma mb) := PE.imp (pe_ifExp hc ha hb) fun σ H Q ⟨env, G, Kd, KX, ok, vr, hm, pv, px⟩ =>
  ⟨env, G, _, KX, ok, vr, hm, fun k H1 G1 s1 ok1 k1 => by
    cases k with
    | true => exact ⟨env, G1, Kd, KX, ok1, vr.mono s1.ge, k1, pv.on s1, px.on ok s1⟩
    | false => exact ⟨env, G1, Kd, KX, ok1, vr.mono s1.ge, k1, pv.on s1, px.on ok s1⟩, px⟩
end
end L3
/-! L3d: arguments, calls of built-ins, subscripts, slices, displays -/
namespace L3
open PySem PySem.Spec PyProof.Rows L2

/-! ### new rules below -/
section
variable {X : Cx}
theorem ints_at : ∀ {us : List Value} {ks : List Int}, us.length = ks.length → (∀ (j : Nat) (v : Value), us[j]? = some v → ∃ (x : Int) (t : Tok), ks[j]? = some x ∧ v = Value.int x t) → IntsAre us ks
  | [], [], _, _ => .nil
  | u :: us, k :: ks, hl, h => by
    obtain ⟨x, t, e1, e2⟩ := h 0 u rfl
    have e1' : k = x := Option.some.inj e1
    subst e1'
    subst e2
    refine .cons _ _ (ints_at (by simpa using hl) fun j v e => ?_)
    obtain ⟨x, t, a, b⟩ := h (j + 1) v (by simpa using e)
    exact ⟨x, t, by simpa using a, b⟩
  | [], _ :: _, hl, _ => by simp at hl
  | _ :: _, [], hl, _ => by simp at hl
/-- sorted(d) of a dict whose keys are whole numbers -/
theorem call_sortedDI (hcalm : X.calm = true) : CallR X (.builtin "sorted") (fun xs H Q => ∃ (a : Addr) (kvs : List (Key × V)) (ks : List Int), xs = [.ref a] ∧ Rd H a (.dK kvs) ∧ kvs.map (·.1) = ks.map Sum.inl ∧
    ∀ (ys : List Int) (p : Addr), ys.Perm ks → ys.Pairwise (· ≤ ·) → H p = none → Q (.ref p) (upd H p (.lst (ys.map V.int)))) := by
  intro pins s σ H xs us Q I r q
  obtain ⟨a, kvs, ks, ex, hd, hks, q⟩ := q
  subst ex
  obtain ⟨u, eu, rx⟩ := vals1 r
  subst eu
  cases rx
  obtain ⟨z, lo, vs, rel, dd⟩ := dk_rd I.hok hd
  obtain ⟨ep, hat⟩ := dd.dictAt
  have hkeys : vs.map (·.1) = ks.map Sum.inl := rel.keys.symm.trans hks
  have hl : vs.length = ks.length := by
    have e := congrArg List.length hkeys
    rw [List.length_map, List.length_map] at e
    exact e
  have h16 : vs.length ≤ sizeLine := by rw [← rel.length]; exact z
  refine Calls.call_function_entry PyProof.Rows.kind_sorted PyProof.Rows.plain_sorted PyProof.Rows.entry_sorted (PyProof.Rows.args_sorted1 _) ?_
  unfold Builtin.«sorted»
  refine wpAny_bind (m := checkCount "sorted" 1 1 _) (wpAny_pure ?_)
  refine wpAny_bind (PySem.W.kdu_collect (A := X.A.in1) (PySem.W.kdl_dict (knd := mixKind X.prog X.w) (kvs := vs) (ep := ep) lo) (I.ok.hd hcalm) hat h16 fun h' tk acc hk hacc => ?_)
  have hal : acc.toList.length = ks.length := by rw [Array.length_toList, hacc.1, hl]
  have hS : IntsAre acc.toList ks := ints_at hal fun j v e => by
    obtain ⟨k, x, e1, e2⟩ := hacc.2 j v (by rw [← Array.getElem?_toList]; exact e)
    have e3 : (vs.map (·.1))[j]? = some k := by rw [List.getElem?_map, e1]; all_goals rfl
    rw [hkeys, List.getElem?_map] at e3
    cases e4 : ks[j]? with
    | none => rw [e4] at e3; cases e3
    | some y =>
      rw [e4] at e3
      have e5 : Sum.inl y = k := Option.some.inj e3
      subst e5
      obtain ⟨t, ev⟩ := Value.isInt_shape (k := y) (v := v) e2
      exact ⟨y, t, rfl, ev⟩
  have I1 : Inv X pins σ H { s with heap := h', toks := tk } := I.kept hk
  refine wpAny_bind (wpAny_newList ?_ (by rw [hal, ← hl]; exact h16))
  have hoL : (h'.push (seqObj "list" acc.toList.toArray 0)).get? h'.objs.size = some (seqObj "list" acc.toList.toArray 0) := Heap.get?_push_size _ rfl
  show wpAny _ _ _ _ _ { s with heap := h'.push (seqObj "list" acc.toList.toArray 0), toks := tk }
  refine wpAny_bind (wpAny_holding (wpAny_call_entry PyProof.Rows.slot_list_sort ⟨_, hoL, rfl⟩ PyProof.Rows.entry_list_sort
    (SrtO.list_sort_ord SrtO.swo_int (s := { s with heap := h'.push (seqObj "list" acc.toList.toArray 0), toks := tk }) hoL (by rw [hal, ← hl]; exact h16) (fun h2 => SrtO.ints_sortable hS h2) fun out h1 h2 => ⟨_, rfl, ?_⟩)
    (PyProof.Rows.args_list_sort _)))
  obtain ⟨k1, k2, k3⟩ := SrtO.ints_out hS h1 h2
  obtain ⟨e', he'⟩ := PyProof.Rows.sortedHeap_at (vs := acc.toList) (out := out.toArray) hoL
  have hlen : ((out.map SrtO.iv).map V.int).length ≤ sizeLine := by
    rw [List.length_map, k2.length_eq, ← hl]
    exact h16
  refine wpAny_pure ⟨_, rfl, .ref h'.objs.size, upd H h'.objs.size (.lst ((out.map SrtO.iv).map V.int)), I1.laid (t' := tk) (fun b u e => ?_) (Nat.le_refl _)
    (show ObjOk X.prog X.w _ _ _ (.lst ((out.map SrtO.iv).map V.int)) from ⟨hlen, out, e', vals_of_ints k1, he'⟩), rfl, q _ _ k2 k3 (I1.hok.fresh (Nat.le_refl _))⟩
  have hb : b < h'.objs.size := Heap.lt_size e
  rw [PyProof.Rows.sortedHeap_old (Nat.ne_of_lt hb) (by rw [size_push']; exact Nat.lt_succ_of_lt hb)]
  exact Heap.get?_push_of_some _ e
/-- how many unlike ones -/
def dlen (ns : List Int) : Nat := (PyProof.Rows.firstMet (fun i => ns.getD i 0) ns.length).length
theorem dlen_nodup {ns : List Int} (h : ns.Nodup) : dlen ns = ns.length := by
  unfold dlen
  rw [RZ.firstMet_nodup h _ (Nat.le_refl _), List.take_length]
def tLenSet (K : PySem.W.Frag) (ta : TE) : TE := fun σ H Q => ta σ H fun x H1 => ∃ (l : Addr) (ns : List Int), x = .ref l ∧ SqL K H1 l (ns.map V.int) ∧ ns.length ≤ 4000 ∧ Q (.int (dlen ns : Nat)) H1
theorem pe_lenSetG {a : Expr} {ta : TE} {p p2 q pos : Pos} (hg : Gl X "len") (hm : X.mg "len" = none) (hg2 : Gl X "set") (hm2 : X.mg "set" = none) (ha : PE X a ta) (hc : X.calm = true := by rfl)
    (na : starEach [a] X.env = (false, eval a X.env) :: starEach [] X.env := by rfl) : PE X (.Call (.Name "len" p) [.Call (.Name "set" p2) [a] [] q] [] pos) (tLenSet X.K ta) := by
  refine ⟨fun pins s σ H Q I h => ?_⟩
  refine Call_ (ld_blt I hg hm boot_len ?_)
  refine PyProof.Rows.callWith_builtin1 (PyProof.Rows.args_cons ?_ rfl) rfl rfl
  refine Call_ (ld_blt I hg2 hm2 boot_set ?_)
  refine PyProof.Rows.callWith_type1 (PyProof.Rows.args_cons (thn (ha.run pins s σ H _ I h) fun v s1 ⟨x, H1, I1, r1, q1⟩ => PyProof.Rows.args_nil ?_) na) na rfl
  obtain ⟨l, ns, rfl, hq, hl, q1⟩ := q1
  cases r1
  obtain ⟨its, r, pl, hz⟩ := I1.list hq
  have hlen : its.toArray.size = ns.length := by rw [List.size_toArray, ← r.length, List.length_map]
  refine call_set_list (I1.ok.hd hc) pl.isList (by simpa using RZ.intsAre_vals r) (by rw [hlen]; unfold scanBound; omega) fun h' tk hS hk => ?_
  refine PyProof.Rows.args_nil ?_
  rw [hlen] at hS
  obtain ⟨o, es, ep, t, ho, hex, hd, _, _, _, hf, hn⟩ := hS
  have I2 : Inv X pins σ H1 { s1 with heap := h', toks := tk } := I1.kept fun b o e => hk b o (Heap.lt_size e) e
  have hb := PyProof.Rows.firstMet_length_le (fun i => ns.getD i 0) ns.length
  exact call_len_set ho hex hd hf (by rw [hn] <;> omega) ⟨.int (dlen ns : Nat), H1, I2.tok _, ⟨_, by rw [hn]; rfl⟩, q1⟩
end

/-! ### arguments -/
abbrev MAt := EnvE → (List D → Prop) → (Exn → Prop) → Prop
abbrev PostA (C : C3) (n : Nat) (H G : Hp) (Kl : List D → Prop) (Q : List V → Hp → Prop) : Prop := ∀ ds vs H' G', Stp C H G H' G' → Ok3 C H' G' → Rps C.K G' ds vs → ds.length = n → Kl ds → Q vs H'
def liftA (C : C3) (mg : Str → Option Value) (E : XK) (n : Nat) (m : MAt) : TA := fun σ H Q => ∃ env G Kl KX, Ok3 C H G ∧ VR C.K G env σ ∧ m env Kl KX ∧ PostA C n H G Kl Q ∧ PostX C mg H G KX E
abbrev MA (X : Cx) (C : C3) (E : XK) (es : List Expr) (m : MAt) : Prop := PA X es (liftA C X.mg E es.length m)
def aNil : MAt := fun _ Kl _ => Kl []
def aCons (m : MEt) (r : MAt) : MAt := fun env Kl KX => m env (fun d => r env (fun ds => Kl (d :: ds)) KX) KX
theorem PA.imp {X : Cx} {es : List Expr} {t t' : TA} (h : PA X es t) (q : ∀ σ H Q, t' σ H Q → t σ H Q) : PA X es t' := ⟨fun pos pins s σ H Q I w => h.run pos pins s σ H Q I (q σ H Q w)⟩
section
variable {X : Cx} {C : C3} {E : XK} {e a b : Expr} {es : List Expr} {m ma mb : MEt} {r : MAt} {pos p : Pos} {mg : Str → Option Value}
theorem ma_nil : MA X C E [] aNil := PA.imp pa_nil fun σ H Q ⟨env, G, Kl, KX, ok, vr, hm, pv, px⟩ => pv [] [] H G Stp.refl ok .nil rfl hm
theorem ma_cons (h : ME X C E e m) (hr : MA X C E es r) (hs : starEach (e :: es) X.env = (false, eval e X.env) :: starEach es X.env := by rfl) : MA X C E (e :: es) (aCons m r) := PA.imp (pa_cons h hr hs) fun σ H Q ⟨env, G, Kl, KX, ok, vr, hm, pv, px⟩ =>
  ⟨env, G, _, KX, ok, vr, hm, fun d v H1 G1 s1 ok1 r1 k1 => ⟨env, G1, _, KX, ok1, vr.mono s1.ge, k1, fun ds vs H2 G2 s2 ok2 r2 n2 k2 => pv _ _ _ _ (s1.trans ok2 s2) ok2 (.cons (r1.mono s2.ge) r2) (by rw [List.length_cons, n2]; rfl) k2, px.on ok s1⟩, px⟩
/-- a call by values -/
def CD (C : C3) (r : List V → Hp → VK → Prop) (f : List D → (D → Prop) → Prop) : Prop := ∀ (vs : List V) (ds : List D) (H G : Hp) (Kd : D → Prop) (Q : VK), Ok3 C H G → Rps C.K G ds vs → f ds Kd → PostV C H G Kd Q → r vs H Q
def CF (C : C3) (r : List V → Hp → VK → Prop) (f : List D → (D → Prop) → Prop) : Prop := ∀ (vs : List V) (ds : List D) (H G : Hp) (Kd : D → Prop) (Q : VK), Ok3 C H G → Rps C.K G ds vs → f ds Kd → PostF C H G Kd Q → r vs H Q
theorem CF.cd {C : C3} {r : List V → Hp → VK → Prop} {f : List D → (D → Prop) → Prop} (h : CF C r f) : CD C r f := fun vs ds H G Kd Q ok rr k pv => h vs ds H G Kd Q ok rr k pv.fresh
def mCall (f : List D → (D → Prop) → Prop) (r : MAt) : MEt := fun env Kd KX => r env (fun ds => f ds Kd) KX
theorem PostF.on {H G H' G' : Hp} {Kd : D → Prop} {Q : VK} (h : PostF C H G Kd Q) (s : Stp C H G H' G') : PostF C H' G' Kd Q := fun d q o H2 G2 s2 ok2 hp gp hh sp ob k => h d q o H2 G2 (s.trans ok2 s2) ok2 (by
  cases z : nT H q with
  | none => rfl
  | some u =>
    rw [s.nx q u sp z] at hp
    cases hp) gp hh sp ob k
theorem liftC {n : Nat} {rv : List V → Hp → VK → Prop} {f : List D → (D → Prop) → Prop} (hf : CD C rv f) {σ : L2.St} {H : Hp} {Q : VK} (h : lift C mg E (mCall f r) σ H Q) : tCB rv (liftA C mg E n r) σ H Q := by
  obtain ⟨env, G, Kd, KX, ok, vr, hm, pv, px⟩ := h
  exact ⟨env, G, _, KX, ok, vr, hm, fun ds vs H1 G1 s1 ok1 r1 _ k1 => hf vs ds H1 G1 Kd Q ok1 r1 k1 (pv.on s1), px⟩
theorem liftCF {n : Nat} {rv : List V → Hp → VK → Prop} {f : List D → (D → Prop) → Prop} (hf : CF C rv f) {σ : L2.St} {H : Hp} {Q : VK} (h : liftF C mg E (mCall f r) σ H Q) : tCB rv (liftA C mg E n r) σ H Q := by
  obtain ⟨env, G, Kd, KX, ok, vr, hm, pv, px⟩ := h
  exact ⟨env, G, _, KX, ok, vr, hm, fun ds vs H1 G1 s1 ok1 r1 _ k1 => hf vs ds H1 G1 Kd Q ok1 r1 k1 (pv.on s1), px⟩
theorem me_callB {x : Str} {id : String} {rv : List V → Hp → VK → Prop} {f : List D → (D → Prop) → Prop} (hc : CallR X (.builtin id) rv) (hf : CD C rv f) (hg : Gl X x) (hm : X.mg x = none) (hv : bootBuiltins x = some (.builtin id)) (ha : MA X C E (e :: es) r) (hn : x ≠ "__name__" := by decide) (hdb : (x == ("__debug__" : Str)) = false := by decide)
    (he : starEach (e :: es) X.env = (false, eval e X.env) :: starEach es X.env := by rfl) (hpl : (backTo pos (starEach es X.env)).any (·.1) = false := by rfl) : ME X C E (.Call (.Name x p) (e :: es) [] pos) (mCall f r) := PE.imp (pe_callB hc hg hm hv ha hn hdb he hpl) fun _ _ _ h => liftC hf h
theorem mf_callB {x : Str} {id : String} {rv : List V → Hp → VK → Prop} {f : List D → (D → Prop) → Prop} (hc : CallR X (.builtin id) rv) (hf : CF C rv f) (hg : Gl X x) (hm : X.mg x = none) (hv : bootBuiltins x = some (.builtin id)) (ha : MA X C E (e :: es) r) (hn : x ≠ "__name__" := by decide) (hdb : (x == ("__debug__" : Str)) = false := by decide)
    (he : starEach (e :: es) X.env = (false, eval e X.env) :: starEach es X.env := by rfl) (hpl : (backTo pos (starEach es X.env)).any (·.1) = false := by rfl) : MF X C E (.Call (.Name x p) (e :: es) [] pos) (mCall f r) := PE.imp (pe_callB hc hg hm hv ha hn hdb he hpl) fun _ _ _ h => liftCF hf h
theorem me_callTy {x : Str} {T : String} {rv : List V → Hp → VK → Prop} {f : List D → (D → Prop) → Prop} (hc : CallR X (.type T) rv) (hf : CD C rv f) (hg : Gl X x) (hm : X.mg x = none) (hv : bootBuiltins x = some (.type T)) (ha : MA X C E (e :: es) r) (hn : x ≠ "__name__" := by decide) (hdb : (x == ("__debug__" : Str)) = false := by decide)
    (he : starEach (e :: es) X.env = (false, eval e X.env) :: starEach es X.env := by rfl) (hpl : (backTo pos (starEach es X.env)).any (·.1) = false := by rfl) : ME X C E (.Call (.Name x p) (e :: es) [] pos) (mCall f r) := PE.imp (pe_callTy hc hg hm hv ha hn hdb he hpl) fun _ _ _ h => liftC hf h
theorem mf_callTy {x : Str} {T : String} {rv : List V → Hp → VK → Prop} {f : List D → (D → Prop) → Prop} (hc : CallR X (.type T) rv) (hf : CF C rv f) (hg : Gl X x) (hm : X.mg x = none) (hv : bootBuiltins x = some (.type T)) (ha : MA X C E (e :: es) r) (hn : x ≠ "__name__" := by decide) (hdb : (x == ("__debug__" : Str)) = false := by decide)
    (he : starEach (e :: es) X.env = (false, eval e X.env) :: starEach es X.env := by rfl) (hpl : (backTo pos (starEach es X.env)).any (·.1) = false := by rfl) : MF X C E (.Call (.Name x p) (e :: es) [] pos) (mCall f r) := PE.imp (pe_callTy hc hg hm hv ha hn hdb he hpl) fun _ _ _ h => liftCF hf h
end

/-! ### the built-ins -/
section
variable {X : Cx} {C : C3}
def intsOf : List D → Option (List Int)
  | [] => some []
  | .int i :: r => (intsOf r).map (i :: ·)
  | _ :: _ => none
theorem intsOf_map : ∀ ns : List Int, intsOf (ns.map D.int) = some ns
  | [] => rfl
  | n :: r => by rw [List.map_cons, intsOf, intsOf_map r]; rfl
theorem intsOf_eq : ∀ {ds : List D} {ns : List Int}, intsOf ds = some ns → ds = ns.map D.int
  | [], ns, h => by
    have h : some [] = some ns := h
    cases h
    rfl
  | .int i :: r, ns, h => by
    have h : (intsOf r).map (i :: ·) = some ns := h
    cases q : intsOf r with
    | none => rw [q] at h; cases h
    | some ms =>
      rw [q] at h
      have h : some (i :: ms) = some ns := h
      cases h
      rw [List.map_cons, intsOf_eq q]
  | .non :: _, _, h => by cases h
  | .bl _ :: _, _, h => by cases h
  | .str _ :: _, _, h => by cases h
  | .tup _ :: _, _, h => by cases h
  | .lst _ :: _, _, h => by cases h
  | .dic _ :: _, _, h => by cases h
  | .ref _ :: _, _, h => by cases h
  | .clo _ _ _ :: _, _, h => by cases h
def sortI (ns : List Int) : List Int := ns.mergeSort fun a b => decide (a ≤ b)
theorem sortI_perm (ns : List Int) : (sortI ns).Perm ns := List.mergeSort_perm ns _
theorem sortI_le (ns : List Int) : (sortI ns).Pairwise (· ≤ ·) := by
  have h := List.pairwise_mergeSort (le := fun a b : Int => decide (a ≤ b)) (fun a b c h1 h2 => by
    have h1 := of_decide_eq_true h1
    have h2 := of_decide_eq_true h2
    exact decide_eq_true (by omega)) (fun a b => by
    by_cases h : a ≤ b
    · rw [decide_eq_true h]; rfl
    · rw [decide_eq_true (show b ≤ a by omega), Bool.or_true]) ns
  exact h.imp fun h => of_decide_eq_true h
theorem sortI_same {ns ys : List Int} (p : ys.Perm ns) (s : ys.Pairwise (· ≤ ·)) : ys = sortI ns := PySem.W.ksm_same (p.trans (sortI_perm ns).symm) s (sortI_le ns)
theorem RpK.keys {K : PySem.W.Frag} {G : Hp} : ∀ {kvs : List (Int × D)} {kws : List (Key × V)}, RpK K G kvs kws → kws.map (·.1) = (kvs.map (·.1)).map Sum.inl
  | _, _, .nil => rfl
  | _, _, .cons _ r => by simp only [List.map_cons]; rw [RpK.keys r]
theorem RpK.length {K : PySem.W.Frag} {G : Hp} : ∀ {kvs : List (Int × D)} {kws : List (Key × V)}, RpK K G kvs kws → kvs.length = kws.length
  | _, _, .nil => rfl
  | _, _, .cons _ r => by rw [List.length_cons, List.length_cons, RpK.length r]

def lenD (ds : List D) (K : D → Prop) : Prop := match ds with
  | [.lst xs] => K (.int xs.length)
  | [.tup xs] => K (.int xs.length)
  | [.str x] => x.length ≤ sizeLine ∧ K (.int x.length)
  | [.dic kvs] => K (.int kvs.length)
  | _ => False
theorem call_lenF : CallR X (.builtin "len") (fun xs H Q => ∃ a kvs, xs = [V.ref a] ∧ Rd H a (.dK kvs) ∧ Q (.int kvs.length) H) := by
  intro pins s σ H xs us Q I r h
  obtain ⟨a, kvs, rfl, ha, q⟩ := h
  obtain ⟨u, rfl, ru⟩ := vals1 r
  cases ru
  exact d_len I ha fun t s' I' => ⟨.int kvs.length, H, I', ⟨t, rfl⟩, q⟩
theorem cd_len : CD C (fun xs H Q => (∃ x n, xs = [x] ∧ LenV C.K x H n ∧ Q (.int n) H) ∨ ∃ a kvs, xs = [V.ref a] ∧ Rd H a (.dK kvs) ∧ Q (.int kvs.length) H) lenD := by
  intro vs ds H G Kd Q ok rr h pv
  have sm : ∀ a o, G a = some o → H a = some o := fun a o q => (ok.sub a o q).2
  unfold lenD at h
  split at h
  · cases rr with
    | cons r1 r2 =>
      cases r2
      cases r1 with
      | lst ha ra => exact .inl ⟨_, _, rfl, .inl ⟨_, .inl (.inl (sm _ _ ha)), rfl⟩, by rw [← ra.length]; exact pv _ _ H G Stp.refl ok (.int _) h⟩
  · cases rr with
    | cons r1 r2 =>
      cases r2
      cases r1 with
      | tup ha ra => exact .inl ⟨_, _, rfl, .inr ⟨_, seqT sm ha.sq, rfl⟩, by rw [← ra.length]; exact pv _ _ H G Stp.refl ok (.int _) h⟩
  · cases rr with
    | cons r1 r2 =>
      cases r2
      cases r1
      exact .inl ⟨_, _, rfl, ⟨h.1, rfl⟩, pv _ _ H G Stp.refl ok (.int _) h.2⟩
  · cases rr with
    | cons r1 r2 =>
      cases r2
      cases r1 with
      | dic ha ra => exact .inr ⟨_, _, rfl, .inr ⟨_, sm _ _ ha⟩, by rw [← ra.length]; exact pv _ _ H G Stp.refl ok (.int _) h⟩
  · exact h.elim
@[irreducible] def sortedD (ds : List D) (K : D → Prop) : Prop := match ds with
  | [.lst xs] => (match intsOf xs with
    | some ns => K (.lst ((sortI ns).map D.int))
    | none => False)
  | [.dic kvs] => K (.lst ((sortI (kvs.map (·.1))).map D.int))
  | _ => False
theorem cf_sorted : CF C (fun xs H Q => rSortedI C.K xs H Q ∨ ∃ (a : Addr) (kvs : List (Key × V)) (ks : List Int), xs = [.ref a] ∧ Rd H a (.dK kvs) ∧ kvs.map (·.1) = ks.map Sum.inl ∧
    ∀ (ys : List Int) (p : Addr), ys.Perm ks → ys.Pairwise (· ≤ ·) → H p = none → Q (.ref p) (upd H p (.lst (ys.map V.int)))) sortedD := by
  intro vs ds H G Kd Q ok rr h pv
  have sm : ∀ a o, G a = some o → H a = some o := fun a o q => (ok.sub a o q).2
  have fin : ∀ (ns : List Int), Kd (.lst ((sortI ns).map D.int)) → ∀ (ys : List Int) (p : Addr), ys.Perm ns → ys.Pairwise (· ≤ ·) → H p = none → Q (.ref p) (upd H p (.lst (ys.map V.int))) := fun ns k ys p hp hs hn => by
    rw [sortI_same hp hs]
    obtain ⟨o1, s1, g⟩ := ok.new (o := .lst ((sortI ns).map V.int)) hn
    exact pv _ p _ _ G s1 o1 (nT_none hn) g upd_same (ok.iv.new hn) (.lst (Rps.ofInts _)) k
  unfold sortedD at h
  split at h
  · split at h
    · rename_i ns e
      rw [intsOf_eq e] at rr
      cases rr with
      | cons r1 r2 =>
        cases r2
        cases r1 with
        | lst ha ra =>
          rw [ra.ints] at ha
          exact .inl ⟨_, ns, rfl, .inl (.inl (sm _ _ ha)), fun ys p hp hs hn => fin ns h ys p hp hs hn⟩
    · exact h.elim
  · cases rr with
    | cons r1 r2 =>
      cases r2
      cases r1 with
      | dic ha ra => exact .inr ⟨_, _, _, rfl, .inr ⟨_, sm _ _ ha⟩, ra.keys, fun ys p hp hs hn => fin _ h ys p hp hs hn⟩
  · exact h.elim
/-- list(..) -/
def listD (ds : List D) (K : D → Prop) : Prop := match ds with
  | [.lst xs] => K (.lst xs)
  | [.tup xs] => K (.lst xs)
  | _ => False
theorem cf_list : CF C (fun xs H Q => ∃ p ys, xs = [.ref p] ∧ (SqL C.K H p ys ∨ SqT C.K H p ys) ∧ ∀ l, H l = none → Q (.ref l) (upd H l (.lst ys))) listD := by
  intro vs ds H G Kd Q ok rr h pv
  have sm : ∀ a o, G a = some o → H a = some o := fun a o q => (ok.sub a o q).2
  unfold listD at h
  split at h
  · cases rr with
    | cons r1 r2 =>
      cases r2
      cases r1 with
      | lst ha ra => exact ⟨_, _, rfl, .inl (.inl (.inl (sm _ _ ha))), fun l hn => by
          obtain ⟨o1, s1, g⟩ := ok.new (o := .lst _) hn
          exact pv _ l _ _ G s1 o1 (nT_none hn) g upd_same (ok.iv.new hn) (.lst ra) h⟩
  · cases rr with
    | cons r1 r2 =>
      cases r2
      cases r1 with
      | tup ha ra => exact ⟨_, _, rfl, .inr (seqT sm ha.sq), fun l hn => by
          obtain ⟨o1, s1, g⟩ := ok.new (o := .lst _) hn
          exact pv _ l _ _ G s1 o1 (nT_none hn) g upd_same (ok.iv.new hn) (.lst ra) h⟩
  · exact h.elim
/-- tuple(list) -/
def tupleD (ds : List D) (K : D → Prop) : Prop := match ds with
  | [.lst xs] => K (.tup xs)
  | [.tup xs] => K (.tup xs)
  | _ => False
theorem cd_tuple : CD C (rTupleN C.K) tupleD := by
  intro vs ds H G Kd Q ok rr h pv
  have sm : ∀ a o, G a = some o → H a = some o := fun a o q => (ok.sub a o q).2
  unfold tupleD at h
  split at h
  · cases rr with
    | cons r1 r2 =>
      cases r2
      cases r1 with
      | lst ha ra => exact ⟨_, _, rfl, .inl ⟨.inl (.inl (sm _ _ ha)), fun l ob hn c1 c2 => by
          obtain ⟨o1, s1⟩ := ok.lay (o := .frz ob (.tup _)) hn
          exact pv _ _ _ _ s1 o1 (.tup (.inl ⟨ob, upd_same, c1, c2⟩) (ra.mono s1.ge)) h⟩⟩
  · cases rr with
    | cons r1 r2 =>
      cases r2
      cases r1 with
      | tup ha ra => exact ⟨_, _, rfl, .inr ⟨seqT sm ha.sq, pv _ _ H G Stp.refl ok (.tup ha ra) h⟩⟩
  · exact h.elim
/-- min, max of two; of a list of whole numbers -/
@[irreducible] def mm2 (p : Int → Int → Int) (ds : List D) (K : D → Prop) : Prop := match ds with
  | [.int i, .int j] => K (.int (p i j))
  | _ => False
theorem mm2_go {p : Int → Int → Int} {i j v : Int} {K : D → Prop} (h : p i j = v) (k : K (.int v)) : mm2 p [.int i, .int j] K := by
  unfold mm2
  show K (.int (p i j))
  rw [h]
  exact k
theorem cd_mm2 (p : Int → Int → Int) : CD C (fun xs H Q => ∃ i j, xs = [.int i, .int j] ∧ Q (.int (p i j)) H) (mm2 p) := by
  intro vs ds H G Kd Q ok rr h pv
  unfold mm2 at h
  split at h
  · cases rr with
    | cons r1 r2 =>
      cases r2 with
      | cons r2 r3 =>
        cases r3
        cases r1
        cases r2
        exact ⟨_, _, rfl, pv _ _ H G Stp.refl ok (.int _) h⟩
  · exact h.elim
def minI : Int → List Int → Int
  | a, [] => a
  | a, b :: r => minI (if b < a then b else a) r
theorem minI_mem : ∀ (r : List Int) (a : Int), minI a r ∈ a :: r
  | [], a => by simp [minI]
  | b :: r, a => by
    unfold minI
    have h := minI_mem r (if b < a then b else a)
    rcases List.mem_cons.mp h with e | e
    · rw [e]
      split
      · simp
      · simp
    · exact List.mem_cons_of_mem _ (List.mem_cons_of_mem _ e)
theorem minI_le : ∀ (r : List Int) (a : Int), minI a r ≤ a ∧ ∀ y ∈ r, minI a r ≤ y
  | [], a => by simp [minI]
  | b :: r, a => by
    have q := minI_le r (if b < a then b else a)
    unfold minI
    by_cases c : b < a
    · rw [if_pos c] at q ⊢
      obtain ⟨h1, h2⟩ := q
      refine ⟨by omega, fun y hy => ?_⟩
      rcases List.mem_cons.mp hy with e | e
      · subst e
        exact h1
      · exact h2 y e
    · rw [if_neg c] at q ⊢
      obtain ⟨h1, h2⟩ := q
      refine ⟨h1, fun y hy => ?_⟩
      rcases List.mem_cons.mp hy with e | e
      · subst e
        omega
      · exact h2 y e
@[irreducible] def minL (ds : List D) (K : D → Prop) : Prop := match ds with
  | [.lst xs] => (match intsOf xs with
    | some (n :: ns) => K (.int (minI n ns))
    | _ => False)
  | _ => False
theorem cd_minL : CD C (rMin C.K) minL := by
  intro vs ds H G Kd Q ok rr h pv
  have sm : ∀ a o, G a = some o → H a = some o := fun a o q => (ok.sub a o q).2
  unfold minL at h
  split at h
  · split at h
    · rename_i n ns e
      rw [intsOf_eq e] at rr
      cases rr with
      | cons r1 r2 =>
        cases r2
        cases r1 with
        | lst ha ra =>
          rw [ra.ints] at ha
          refine ⟨_, n :: ns, rfl, .inl (.inl (sm _ _ ha)), by simp, fun m hm hle => ?_⟩
          have e1 := minI_mem ns n
          obtain ⟨e2, e3⟩ := minI_le ns n
          have e4 := hle _ e1
          have e5 : minI n ns ≤ m := by
            rcases List.mem_cons.mp hm with z | z
            · rw [z]; exact e2
            · exact e3 m z
          have e6 : m = minI n ns := by omega
          rw [e6]
          exact pv _ _ H G Stp.refl ok (.int _) h
    · exact h.elim
  · exact h.elim
/-- int(..), str(..) -/
def intD (ds : List D) (K : D → Prop) : Prop := match ds with
  | [.int i] => K (.int i)
  | [.bl b] => K (.int (if b then 1 else 0))
  | [.str x] => x.length ≤ 640 ∧ (match PySem.intText? x with | some n => K (.int n) | none => False)
  | _ => False
theorem cd_int : CD C (fun xs H Q => ((∃ i, xs = [.int i] ∧ Q (.int i) H) ∨ ∃ k, xs = [.bl k] ∧ Q (.int (if k then 1 else 0)) H) ∨ ∃ a n, xs = [V.str a] ∧ PySem.intText? a = some n ∧ a.length ≤ 640 ∧ Q (.int n) H) intD := by
  intro vs ds H G Kd Q ok rr h pv
  unfold intD at h
  split at h
  · cases rr with
    | cons r1 r2 =>
      cases r2
      cases r1
      exact .inl (.inl ⟨_, rfl, pv _ _ H G Stp.refl ok (.int _) h⟩)
  · cases rr with
    | cons r1 r2 =>
      cases r2
      cases r1
      exact .inl (.inr ⟨_, rfl, pv _ _ H G Stp.refl ok (.int _) h⟩)
  · cases rr with
    | cons r1 r2 =>
      cases r2
      cases r1
      obtain ⟨h1, h2⟩ := h
      split at h2
      · rename_i n e
        exact .inr ⟨_, n, rfl, e, h1, pv _ _ H G Stp.refl ok (.int _) h2⟩
      · exact h2.elim
  · exact h.elim
def strD (ds : List D) (K : D → Prop) : Prop := match ds with
  | [.int i] => i.natAbs.log2 < 1920 ∧ K (.str (toString i))
  | _ => False
theorem cd_str : CD C (fun xs H Q => ∃ i, xs = [.int i] ∧ i.natAbs.log2 < 1920 ∧ Q (.str (toString i)) H) strD := by
  intro vs ds H G Kd Q ok rr h pv
  unfold strD at h
  split at h
  · cases rr with
    | cons r1 r2 =>
      cases r2
      cases r1
      exact ⟨_, rfl, h.1, pv _ _ H G Stp.refl ok (.str _) h.2⟩
  · exact h.elim
/-- dict(a list of pairs) -/
def putD (kvs : List (Int × D)) (k : Int) (d : D) : List (Int × D) := if kvs.any (fun p => decide (p.1 = k)) then kvs.map (fun p => if p.1 = k then (p.1, d) else p) else kvs ++ [(k, d)]
def mergeD (kvs more : List (Int × D)) : List (Int × D) := more.foldl (fun acc p => putD acc p.1 p.2) kvs
def pairsOf : List D → Option (List (Int × D))
  | [] => some []
  | .tup [.int k, d] :: r => (pairsOf r).map ((k, d) :: ·)
  | _ :: _ => none
end
end L3
/-! L3e: dicts made, subscripts, slices, displays, get, index -/
namespace L3
open PySem PySem.Spec PyProof.Rows L2
section
variable {X : Cx} {C : C3} {E : XK} {e a b c : Expr} {es : List Expr} {m ma mb mc : MEt} {r : MAt} {pos p : Pos} {mg : Str → Option Value}
/-! ### a new dict, frozen -/
theorem pe_frz {t : TE} (h : PE X e t) : PE X e (fun σ H Q => t σ H fun v H' => ∃ (p : Addr) (u : HO), v = .ref p ∧ H' p = some u ∧ Mut (some u) ∧ ∀ od, Q v (upd H' p (.frz od u))) := by
  refine ⟨fun pins s σ H Q I hw => ?_⟩
  refine thn (h.run pins s σ H _ I hw) fun v s1 ⟨x, H1, I1, rx, p, u, ex, hp, mu, q⟩ => ?_
  obtain ⟨od, I2⟩ := I1.lock hp mu
  exact ⟨x, _, I2, rx, q od⟩
theorem RpK.put {K : PySem.W.Frag} {G : Hp} {k : Int} {d : D} {v : V} (h : Rp K G d v) {kvs : List (Int × D)} {kws : List (Key × V)} (r : RpK K G kvs kws) : RpK K G (putD kvs k d) (putK kws (Sum.inl k) v) := by
  have e1 : (kvs.any fun p => decide (p.1 = k)) = kws.any fun p => decide (p.1 = Sum.inl k) := by
    have q : ∀ {xs : List (Int × D)} {ys : List (Key × V)}, RpK K G xs ys → (xs.any fun p => decide (p.1 = k)) = ys.any fun p => decide (p.1 = Sum.inl k) := by
      intro xs
      induction xs with
      | nil => intro ys q; cases q; rfl
      | cons x xs ih =>
        intro ys q
        cases q with
        | cons q1 q2 =>
          rename_i j d v r'
          rw [List.any_cons, List.any_cons, ih q2]
          by_cases e : j = k
          · subst e; simp
          · rw [decide_eq_false (by exact e), decide_eq_false (fun z => e (Sum.inl.inj z))]
    exact q r
  have e2 : RpK K G (kvs.map fun p => if p.1 = k then (p.1, d) else p) (kws.map fun p => if p.1 = Sum.inl k then (p.1, v) else p) := by
    have q : ∀ {xs : List (Int × D)} {ys : List (Key × V)}, RpK K G xs ys → RpK K G (xs.map fun p => if p.1 = k then (p.1, d) else p) (ys.map fun p => if p.1 = Sum.inl k then (p.1, v) else p) := by
      intro xs
      induction xs with
      | nil => intro ys q; cases q; exact .nil
      | cons x xs ih =>
        intro ys q
        cases q with
        | cons q1 q2 =>
          rename_i j d2 v2 r'
          rw [List.map_cons, List.map_cons]
          by_cases e : j = k
          · subst e
            rw [if_pos rfl, if_pos rfl]
            exact .cons h (ih q2)
          · rw [if_neg (by exact e), if_neg (fun z => e (Sum.inl.inj z))]
            exact .cons q1 (ih q2)
    exact q r
  have app : ∀ {xs : List (Int × D)} {ys : List (Key × V)}, RpK K G xs ys → RpK K G (xs ++ [(k, d)]) (ys ++ [(Sum.inl k, v)]) := by
    intro xs
    induction xs with
    | nil => intro ys q; cases q; exact .cons h .nil
    | cons x xs ih => intro ys q; cases q with | cons q1 q2 => exact .cons q1 (ih q2)
  unfold putD putK
  rw [e1]
  split
  · exact e2
  · exact app r
theorem RpK.merge {K : PySem.W.Frag} {G : Hp} : ∀ {more : List (Int × D)} {more' : List (Key × V)} {kvs : List (Int × D)} {kws : List (Key × V)}, RpK K G more more' → RpK K G kvs kws → RpK K G (mergeD kvs more) (mergeK kws more') := by
  intro more
  induction more with
  | nil => intro more' kvs kws q r; cases q; exact r
  | cons x xs ih =>
    intro more' kvs kws q r
    cases q with
    | cons q1 q2 =>
      rename_i k d v r'
      have z := ih q2 (r.put (k := k) q1)
      exact z
theorem pairsOf_eq {K : PySem.W.Frag} {G : Hp} : ∀ {ds : List D} {kvs : List (Int × D)} {vs : List V}, pairsOf ds = some kvs → Rps K G ds vs → ∃ (ps : List Addr) (kws : List (Key × V)), vs = ps.map V.ref ∧ Paired (fun p kv => SqT K G p [kV kv.1, kv.2]) ps kws ∧ RpK K G kvs kws
  | [], _, _, h, .nil => by
    have h : some [] = some _ := h
    cases h
    exact ⟨[], [], rfl, .nil, .nil⟩
  | d :: ds, kvs, _, h, .cons h1 h2 => by
    unfold pairsOf at h
    split at h
    · rename_i h'; cases h'
    · rename_i k d' r e
      cases e
      cases q : pairsOf ds with
      | none => rw [q] at h; cases h
      | some ms =>
        rw [q] at h
        have h : some ((k, d') :: ms) = some kvs := h
        cases h
        obtain ⟨ps, kws, e1, e2, e3⟩ := pairsOf_eq q h2
        cases h1 with
        | tup ha ra =>
          cases ra with
          | cons r1 r2 =>
            cases r2 with
            | cons r3 r4 =>
              cases r4
              cases r1
              exact ⟨_ :: ps, (Sum.inl k, _) :: kws, by rw [List.map_cons, e1], .cons ha.sq e2, .cons r3 e3⟩
    · cases h
@[irreducible] def dictD (ds : List D) (K : D → Prop) : Prop := match ds with
  | [.lst xs] => (match pairsOf xs with
    | some kvs => K (.dic (mergeD [] kvs))
    | none => False)
  | _ => False
theorem Paired.imp' {α β : Type} {F F' : α → β → Prop} (h : ∀ a b, F a b → F' a b) : ∀ {l : List α} {l' : List β}, Paired F l l' → Paired F' l l'
  | _, _, .nil => .nil
  | _, _, .cons a r => .cons (h _ _ a) (Paired.imp' h r)
theorem lift_frz {C : C3} {H G : Hp} {Kd : D → Prop} {Q : VK} {p : Addr} {kvs : List (Int × D)} {kws : List (Key × V)} (ok : Ok3 C H G) (pv : PostV C H G Kd Q) (hp : H p = none) (r : RpK C.K G kvs kws) (k : Kd (.dic kvs)) :
    ∃ (p' : Addr) (u : HO), V.ref p = .ref p' ∧ (upd H p (.dK kws)) p' = some u ∧ Mut (some u) ∧ ∀ od, Q (.ref p) (upd (upd H p (.dK kws)) p' (.frz od u)) := by
  refine ⟨p, _, rfl, upd_same, trivial, fun od => ?_⟩
  rw [upd_upd]
  obtain ⟨o1, s1⟩ := ok.lay (o := .frz od (.dK kws)) hp
  exact pv _ _ _ _ s1 o1 (.dic upd_same (r.mono s1.ge)) k
theorem me_dict (hc : X.calm = true) (hK : X.K = C.K) (hg : Gl X "dict") (hm : X.mg "dict" = none) (ha : MA X C E (e :: es) r)
    (he : starEach (e :: es) X.env = (false, eval e X.env) :: starEach es X.env := by rfl) (hpl : (backTo pos (starEach es X.env)).any (·.1) = false := by rfl) : ME X C E (.Call (.Name "dict" p) (e :: es) [] pos) (mCall dictD r) :=
  PE.imp (pe_frz (pe_callTy (call_dictP hc) hg hm (by decide +kernel) ha (by decide) (by decide) he hpl)) fun σ H Q ⟨env, G, Kd, KX, ok, vr, hm, pv, px⟩ => by
    refine ⟨env, G, _, KX, ok, vr, hm, fun ds vs H1 G1 s1 ok1 r1 _ k1 => ?_, px⟩
    have k1 : dictD ds Kd := k1
    unfold dictD at k1
    split at k1
    · split at k1
      · rename_i kvs q
        cases r1 with
        | cons r1 r2 =>
          cases r2
          cases r1 with
          | lst hl rl =>
            have sm : ∀ a o, G1 a = some o → H1 a = some o := fun a o q => (ok1.sub a o q).2
            obtain ⟨ps, kws, e1, e2, e3⟩ := pairsOf_eq q rl
            subst e1
            exact ⟨_, ps, kws, rfl, .inl (.inl (by rw [hK] at *; exact sm _ _ hl)), Paired.imp' (fun a b z => by rw [hK]; exact seqT sm z) e2, fun q hq => lift_frz ok1 (pv.on s1) hq (RpK.merge e3 .nil) k1⟩
      · exact k1.elim
    · exact k1.elim

/-! ### displays -/
def mTup (r : MAt) : MEt := fun env Kd KX => r env (fun ds => ds.length ≤ sizeLine ∧ Kd (.tup ds)) KX
def mLst (r : MAt) : MEt := fun env Kd KX => r env (fun ds => ds.length ≤ sizeLine ∧ Kd (.lst ds)) KX
theorem me_tup {x1} (h : MA X C E es r) : ME X C E (.Tuple es x1 pos) (mTup r) := PE.imp (pe_tupN h) fun σ H Q ⟨env, G, Kd, KX, ok, vr, hm, pv, px⟩ =>
  ⟨env, G, _, KX, ok, vr, hm, fun ds vs H1 G1 s1 ok1 r1 _ k1 => ⟨by rw [← r1.length]; exact k1.1, fun q ob hq c1 c2 => by
    obtain ⟨o2, s2⟩ := ok1.lay (o := .frz ob (.tup vs)) hq
    exact pv _ _ _ _ (s1.trans o2 s2) o2 (.tup (.inl ⟨ob, upd_same, c1, c2⟩) (r1.mono s2.ge)) k1.2⟩, px⟩
theorem mf_lst (h : MA X C E es r) : MF X C E (.List es pos) (mLst r) := PE.imp (pe_lst h) fun σ H Q ⟨env, G, Kd, KX, ok, vr, hm, pv, px⟩ =>
  ⟨env, G, _, KX, ok, vr, hm, fun ds vs H1 G1 s1 ok1 r1 _ k1 => ⟨by rw [← r1.length]; exact k1.1, fun q hq => by
    obtain ⟨o2, s2, g⟩ := ok1.new (o := .lst vs) hq
    exact pv.on s1 _ q _ _ G1 s2 o2 (nT_none hq) g upd_same (ok1.iv.new hq) (.lst r1) k1.2⟩, px⟩

/-! ### subscripts -/
@[irreducible] def ixD (d e : D) (K : D → Prop) : Prop := match d, e with
  | .lst xs, .int i => (match atI xs i with | some d => K d | none => False)
  | .tup xs, .int i => (match atI xs i with | some d => K d | none => False)
  | .str z, .int i => z.length ≤ sizeLine ∧ (match atI z.cps.toList i with | some c => K (.str ⟨#[c]⟩) | none => False)
  | _, _ => False
theorem Rps.atI {K : PySem.W.Frag} {G : Hp} {ds : List D} {vs : List V} {i : Int} {d : D} (r : Rps K G ds vs) (h : L2.atI ds i = some d) : ∃ v, L2.atI vs i = some v ∧ Rp K G d v := by
  unfold L2.atI at h ⊢
  rw [← r.length]
  cases q : ixN ds.length i with
  | none => rw [q] at h; cases h
  | some j =>
    rw [q] at h
    exact r.get h
theorem od_ix (hK : X.K = C.K) : OpD C (rIx X.K) ixD := by
  intro x y d e H G Kd Q ok r1 r2 h pv
  have sm : ∀ a o, G a = some o → H a = some o := fun a o q => (ok.sub a o q).2
  unfold ixD at h
  split at h
  · split at h
    · rename_i d q
      cases r1 with
      | lst ha ra =>
        cases r2
        obtain ⟨v, e1, e2⟩ := ra.atI q
        exact .inl ⟨_, _, _, v, rfl, rfl, .inl (.inl (sm _ _ ha)), e1, pv _ _ H G Stp.refl ok e2 h⟩
    · exact h.elim
  · split at h
    · rename_i d q
      cases r1 with
      | tup ha ra =>
        cases r2
        obtain ⟨v, e1, e2⟩ := ra.atI q
        exact .inr (.inl ⟨_, _, _, v, rfl, rfl, by rw [hK]; exact seqT sm ha.sq, e1, pv _ _ H G Stp.refl ok e2 h⟩)
    · exact h.elim
  · obtain ⟨hz, h⟩ := h
    split at h
    · rename_i c q
      cases r1
      cases r2
      exact .inr (.inr ⟨_, _, c, rfl, rfl, hz, q, pv _ _ H G Stp.refl ok (.str _) h⟩)
    · exact h.elim
  · exact h.elim
theorem me_ix (hK : X.K = C.K) (ha : ME X C E a ma) (hb : ME X C E b mb) (hs : PlainIx b := by exact (fun _ _ => rfl)) : ME X C E (.Subscript a b pos) (m2 ixD ma mb) := PE.imp (pe_ix ix_seq ha hb hs) fun _ _ _ h => lift2 (od_ix hK) h
/-- d[k] -/
@[irreducible] def getK (d e : D) (K : D → Prop) : Prop := match d, e with
  | .dic kvs, .int k => (match valD kvs k with | some d => K d | none => False)
  | _, _ => False
theorem getK_inv {d e : D} {K : D → Prop} (h : getK d e K) : ∃ kvs k d', d = .dic kvs ∧ e = .int k ∧ valD kvs k = some d' ∧ K d' := by
  unfold getK at h
  cases d <;> first | exact h.elim | skip
  cases e <;> first | exact h.elim | skip
  rename_i kvs k
  dsimp only at h
  cases q : valD kvs k with
  | none => rw [q] at h; exact h.elim
  | some d' => rw [q] at h; exact ⟨kvs, k, d', rfl, rfl, q, h⟩
theorem me_getK (hu : X.A.units + 1 < cLine) (ha : ME X C E a ma) (hb : ME X C E b mb) (hs : NoSl b := by exact (fun _ _ => rfl)) : ME X C E (.Subscript a b pos) (m2 getK ma mb) := PE.imp (pe_dget hu ha hb hs) fun σ H Q ⟨env, G, Kd, KX, ok, vr, hm, pv, px⟩ => by
  refine ⟨env, G, _, KX, ok, vr, hm, fun d x H1 G1 s1 ok1 r1 k1 => ⟨env, G1, _, KX, ok1, vr.mono s1.ge, k1, fun e y H2 G2 s2 ok2 r2 k2 => ?_, px.on ok s1⟩, px⟩
  obtain ⟨kvs, k, d', rfl, rfl, q, k2⟩ := getK_inv k2
  cases r2
  obtain ⟨p, e1, _, h⟩ := rp_dget (H := H2) k (r1.mono s2.ge) (fun a o q => (ok2.sub a o q).2)
  subst e1
  rcases h with ⟨e1, _⟩ | ⟨d2, v, e1, e2, e3⟩
  · rw [e1] at q; cases q
  · rw [e1] at q
    cases q
    exact ⟨p, v, rfl, e2, pv _ _ _ _ (s1.trans ok2 s2) ok2 e3 k2⟩
/-- d.get(k), d.get(k, x) -/
@[irreducible] def get1 (d e : D) (K : D → Prop) : Prop := match d, e with
  | .dic kvs, .int k => K ((valD kvs k).getD .non)
  | _, _ => False
def mGet2 (ma mb mc : MEt) : MEt := fun env Kd KX => ma env (fun d => mb env (fun e => mc env (fun f => match d, e with
  | .dic kvs, .int k => Kd ((valD kvs k).getD f)
  | _, _ => False) KX) KX) KX
theorem me_get1 (hu : X.A.units + 1 < cLine) {apos cpos : Pos} (ha : ME X C E a ma) (hb : ME X C E b mb) (mm : M1 X a "get" apos b cpos := by exact ⟨rfl, rfl, rfl, rfl⟩) : ME X C E (.Call (.Attribute a "get" apos) [b] [] cpos) (fun env Kd KX => ma env (fun d => (∃ kvs, d = .dic kvs) ∧ mb env (fun e => get1 d e Kd) KX) KX) :=
  PE.imp (pe_dget1 hu ha hb mm) fun σ H Q ⟨env, G, Kd, KX, ok, vr, hm, pv, px⟩ => by
  refine ⟨env, G, _, KX, ok, vr, hm, fun d x H1 G1 s1 ok1 r1 k1 => ?_, px⟩
  obtain ⟨⟨kvs, ed⟩, k1⟩ := k1
  subst ed
  have r0 := r1
  cases r1 with
  | dic hd rd =>
    refine ⟨_, rfl, .inl ⟨_, .inr ⟨_, (ok1.sub _ _ hd).2⟩⟩, env, G1, _, KX, ok1, vr.mono s1.ge, k1, fun e y H2 G2 s2 ok2 r2 k2 => ?_, px.on ok s1⟩
    obtain ⟨k, rfl, k3⟩ : ∃ k, e = .int k ∧ Kd ((valD kvs k).getD .non) := by
      unfold get1 at k2
      cases e <;> first | exact (show False from k2).elim | exact ⟨_, rfl, k2⟩
    cases r2
    obtain ⟨p, e1, _, h⟩ := rp_dget (H := H2) k (r0.mono s2.ge) (fun a o q => (ok2.sub a o q).2)
    cases e1
    rcases h with ⟨e1, e2⟩ | ⟨d2, v, e1, e2, e3⟩
    · have k3 : Kd ((valD kvs k).getD .non) := k3
      rw [e1] at k3
      exact ⟨none, e2, pv _ _ _ _ (s1.trans ok2 s2) ok2 .non k3⟩
    · have k3 : Kd ((valD kvs k).getD .non) := k3
      rw [e1] at k3
      exact ⟨some v, e2, pv _ _ _ _ (s1.trans ok2 s2) ok2 e3 k3⟩
def mGet1 (ma mb : MEt) : MEt := fun env Kd KX => ma env (fun d => (∃ kvs, d = .dic kvs) ∧ mb env (fun e => get1 d e Kd) KX) KX
def mGetD (ma mb mc : MEt) : MEt := fun env Kd KX => ma env (fun d => (∃ kvs, d = .dic kvs) ∧ mb env (fun e => mc env (fun f => match d, e with
  | .dic kvs, .int k => Kd ((valD kvs k).getD f)
  | _, _ => False) KX) KX) KX
theorem me_getD (hu : X.A.units + 1 < cLine) {apos cpos : Pos} (ha : ME X C E a ma) (hb : ME X C E b mb) (hc : ME X C E c mc) (mm : M2 X a "get" apos b c cpos := by exact ⟨rfl, rfl, rfl, rfl⟩) : ME X C E (.Call (.Attribute a "get" apos) [b, c] [] cpos) (mGetD ma mb mc) :=
  PE.imp (pe_dget2 hu ha hb hc mm) fun σ H Q ⟨env, G, Kd, KX, ok, vr, hm, pv, px⟩ => by
  refine ⟨env, G, _, KX, ok, vr, hm, fun d x H1 G1 s1 ok1 r1 k1 => ?_, px⟩
  obtain ⟨⟨kvs, ed⟩, k1⟩ := k1
  subst ed
  have r0 := r1
  cases r1 with
  | dic hd rd =>
    refine ⟨_, rfl, .inl ⟨_, .inr ⟨_, (ok1.sub _ _ hd).2⟩⟩, env, G1, _, KX, ok1, vr.mono s1.ge, k1, fun e y H2 G2 s2 ok2 r2 k2 =>
      ⟨env, G2, _, KX, ok2, vr.mono (s1.ge.trans s2.ge), k2, fun f z H3 G3 s3 ok3 r3 k3 => ?_, px.on ok (s1.trans ok2 s2)⟩, px.on ok s1⟩
    obtain ⟨k, rfl, k3⟩ : ∃ k, e = .int k ∧ Kd ((valD kvs k).getD f) := by
      cases e <;> first | exact (show False from k3).elim | exact ⟨_, rfl, k3⟩
    cases r2
    have s13 := s1.trans ok3 (s2.trans ok3 s3)
    obtain ⟨p, e1, _, h⟩ := rp_dget (H := H3) k (r0.mono (s2.ge.trans s3.ge)) (fun a o q => (ok3.sub a o q).2)
    cases e1
    rcases h with ⟨e1, e2⟩ | ⟨d2, v, e1, e2, e3⟩
    · have k3 : Kd ((valD kvs k).getD f) := k3
      rw [e1] at k3
      exact ⟨none, e2, pv _ _ _ _ s13 ok3 r3 k3⟩
    · have k3 : Kd ((valD kvs k).getD f) := k3
      rw [e1] at k3
      exact ⟨some v, e2, pv _ _ _ _ s13 ok3 e3 k3⟩

/-! ### slices -/
abbrev MOt := EnvE → (Option Int → Prop) → (Exn → Prop) → Prop
def liftO (C : C3) (mg : Str → Option Value) (E : XK) (m : MOt) : TO := fun σ H Q => ∃ env G Ko KX, Ok3 C H G ∧ VR C.K G env σ ∧ m env Ko KX ∧ (∀ o H' G', Stp C H G H' G' → Ok3 C H' G' → Ko o → Q o H') ∧ PostX C mg H G KX E
abbrev MO (X : Cx) (C : C3) (E : XK) (e : Option Expr) (m : MOt) : Prop := PO X e (liftO C X.mg E m)
theorem PO.imp {X : Cx} {e : Option Expr} {t t' : TO} (h : PO X e t) (q : ∀ σ H Q, t' σ H Q → t σ H Q) : PO X e t' := ⟨fun pins s σ H Q I w => h.run pins s σ H Q I (q σ H Q w)⟩
def oNone : MOt := fun _ Ko _ => Ko none
def oSome (m : MEt) : MOt := fun env Ko KX => m env (fun d => match d with | .int i => Ko (some i) | _ => False) KX
theorem mo_none : MO X C E none oNone := PO.imp po_none fun σ H Q ⟨env, G, Ko, KX, ok, vr, hm, pv, px⟩ => pv none H G Stp.refl ok hm
theorem mo_some (h : ME X C E e m) : MO X C E (some e) (oSome m) := PO.imp (po_some h) fun σ H Q ⟨env, G, Ko, KX, ok, vr, hm, pv, px⟩ =>
  ⟨env, G, _, KX, ok, vr, hm, fun d v H1 G1 s1 ok1 r1 k1 => by
    cases r1 <;> first | exact k1.elim | exact ⟨_, rfl, pv _ _ _ s1 ok1 k1⟩, px⟩
def cutD {α : Type} (xs : List α) (lo hi : Option Int) : List α := (xs.drop (HT.sIx xs.length 0 lo)).take (HT.sIx xs.length xs.length hi - HT.sIx xs.length 0 lo)
theorem Rps.cut {K : PySem.W.Frag} {G : Hp} {ds : List D} {vs : List V} (r : Rps K G ds vs) (lo hi : Option Int) : Rps K G (cutD ds lo hi) (cutV vs lo hi) := by
  unfold cutD cutV
  rw [← r.length]
  exact (r.drop _).take _
def slD (d : D) (lo hi : Option Int) (K : D → Prop) : Prop := match d with
  | .lst xs => K (.lst (cutD xs lo hi))
  | .tup xs => K (.tup (cutD xs lo hi))
  | _ => False
def slL (d : D) (lo hi : Option Int) (K : D → Prop) : Prop := match d with
  | .lst xs => K (.lst (cutD xs lo hi))
  | _ => False
def mSl (f : D → Option Int → Option Int → (D → Prop) → Prop) (ma : MEt) (ml mh : MOt) : MEt := fun env Kd KX => ma env (fun d => ml env (fun lo => mh env (fun hi => f d lo hi Kd) KX) KX) KX
theorem me_sl (hK : X.K = C.K) {lo hi : Option Expr} {p2 : Pos} {ml mh : MOt} (ha : ME X C E a ma) (hl : MO X C E lo ml) (hh : MO X C E hi mh) : ME X C E (.Subscript a (.Slice lo hi none p2) pos) (mSl slD ma ml mh) :=
  PE.imp (pe_slice (sl_list.or sl_tupN) ha hl hh) fun σ H Q ⟨env, G, Kd, KX, ok, vr, hm, pv, px⟩ => by
  refine ⟨env, G, _, KX, ok, vr, hm, fun d x H1 G1 s1 ok1 r1 k1 => ⟨env, G1, _, KX, ok1, vr.mono s1.ge, k1, fun lo H2 G2 s2 ok2 k2 => ⟨env, G2, _, KX, ok2, vr.mono (s1.ge.trans s2.ge), k2, fun hi H3 G3 s3 ok3 k3 => ?_, px.on ok (s1.trans ok2 s2)⟩, px.on ok s1⟩, px⟩
  have sm : ∀ a o, G3 a = some o → H3 a = some o := fun a o q => (ok3.sub a o q).2
  have s13 := s1.trans ok3 (s2.trans ok3 s3)
  have k3 : slD d lo hi Kd := k3
  unfold slD at k3
  split at k3
  · cases r1.mono (s2.ge.trans s3.ge) with
    | lst hd rd =>
      refine .inl ⟨_, _, rfl, .inl (.inl (sm _ _ hd)), fun q hq => ?_⟩
      obtain ⟨o4, s4⟩ := ok3.lay (o := .lst _) hq
      exact pv _ _ _ _ (s13.trans o4 s4) o4 (.lst upd_same ((rd.cut lo hi).mono s4.ge)) k3
  · cases r1.mono (s2.ge.trans s3.ge) with
    | tup hd rd =>
      have rc := rd.cut lo hi
      rename_i xs a vs
      refine .inr ⟨_, vs, rfl, by rw [hK]; exact seqT sm hd.sq, fun w => ?_, fun _ q ob hq c1 c2 => ?_⟩
      · have e : cutV vs lo hi = vs := by
          unfold cutV
          rw [w.1, w.2, List.drop_zero, Nat.sub_zero, List.take_length]
        rw [e] at rc
        exact pv _ _ _ _ s13 ok3 (.tup hd rc) k3
      · obtain ⟨o4, s4⟩ := ok3.lay (o := .frz ob (.tup _)) hq
        exact pv _ _ _ _ (s13.trans o4 s4) o4 (.tup (.inl ⟨ob, upd_same, c1, c2⟩) (rc.mono s4.ge)) k3
  · exact k3.elim
theorem mf_sl {lo hi : Option Expr} {p2 : Pos} {ml mh : MOt} (ha : ME X C E a ma) (hl : MO X C E lo ml) (hh : MO X C E hi mh) : MF X C E (.Subscript a (.Slice lo hi none p2) pos) (mSl slL ma ml mh) :=
  PE.imp (pe_slice sl_list ha hl hh) fun σ H Q ⟨env, G, Kd, KX, ok, vr, hm, pv, px⟩ => by
  refine ⟨env, G, _, KX, ok, vr, hm, fun d x H1 G1 s1 ok1 r1 k1 => ⟨env, G1, _, KX, ok1, vr.mono s1.ge, k1, fun lo H2 G2 s2 ok2 k2 => ⟨env, G2, _, KX, ok2, vr.mono (s1.ge.trans s2.ge), k2, fun hi H3 G3 s3 ok3 k3 => ?_, px.on ok (s1.trans ok2 s2)⟩, px.on ok s1⟩, px⟩
  have sm : ∀ a o, G3 a = some o → H3 a = some o := fun a o q => (ok3.sub a o q).2
  have s13 := s1.trans ok3 (s2.trans ok3 s3)
  have k3 : slL d lo hi Kd := k3
  unfold slL at k3
  split at k3
  · cases r1.mono (s2.ge.trans s3.ge) with
    | lst hd rd =>
      refine ⟨_, _, rfl, .inl (.inl (sm _ _ hd)), fun q hq => ?_⟩
      obtain ⟨o4, s4, g⟩ := ok3.new (o := .lst _) hq
      exact pv.on s13 _ q _ _ G3 s4 o4 (nT_none hq) g upd_same (ok3.iv.new hq) (.lst (rd.cut lo hi)) k3
  · exact k3.elim
end
end L3
/-! L3f: what is walked; targets; comprehensions -/
namespace L3
open PySem PySem.Spec PyProof.Rows L2

/-! ### what is walked -/
structure Iter3 (C : C3) (J : It) (G0 : Hp) (ds : List D) : Prop where
  stop : ∀ (i : Nat) (H G : Hp), ds.length ≤ i → Same G0 G → Ok3 C H G → J.stop i H
  go : ∀ (i : Nat) (d : D) (H G : Hp), ds[i]? = some d → Same G0 G → Ok3 C H G → J.go i H ∧ ∀ x H', J.yld i H x H' → ∃ G', Stp C H G H' G' ∧ Ok3 C H' G' ∧ Rp C.K G' d x
abbrev MIt := EnvE → (List D → Prop) → (Exn → Prop) → Prop
def liftI (C : C3) (mg : Str → Option Value) (E : XK) (m : MIt) : TI := fun σ H R => ∃ env G Kl KX, Ok3 C H G ∧ VR C.K G env σ ∧ m env Kl KX ∧ (∀ ds J H' G', Stp C H G H' G' → Ok3 C H' G' → Iter3 C J G' ds → Kl ds → R J H') ∧ PostX C mg H G KX E
abbrev MI (X : Cx) (C : C3) (E : XK) (tg iter : Expr) (m : MIt) : Prop := PI X tg iter (liftI C X.mg E m)
theorem PI.imp {X : Cx} {tg e : Expr} {t t' : TI} (h : PI X tg e t) (q : ∀ σ H Q, t' σ H Q → t σ H Q) : PI X tg e t' := ⟨fun pins s σ H Q I w => h.run pins s σ H Q I (q σ H Q w)⟩
section
variable {X : Cx} {C : C3} {E : XK} {e a b tg : Expr} {m ma mb : MEt} {r : MAt} {pos p : Pos} {mg : Str → Option Value}
/-- a list, a tuple, a locked dict, a text -/
def iAny (K : PySem.W.Frag) (td : TE) : TI := fun σ H R => td σ H fun x H1 => (∃ a, x = .ref a ∧ (∃ xs, SqL K H1 a xs) ∧ R (Itl K a) H1) ∨ (∃ a, x = .ref a ∧ (∃ xs, SqT K H1 a xs) ∧ R (Itt K a) H1) ∨
  (∃ d o kvs, x = .ref d ∧ H1 d = some (.frz o (.dK kvs)) ∧ R (Itk d o kvs) H1) ∨ ∃ z, x = .str z ∧ R (Its z) H1
theorem pi_any {td : TE} (he : PE X e td) : PI X tg e (iAny X.K td) := by
  refine ⟨fun pins s σ H R I h => ?_⟩
  refine thn (he.run pins s σ H _ I h) fun v s1 ⟨x, H1, I1, r1, q1⟩ => ?_
  rcases q1 with ⟨a, e, ⟨xs, hq⟩, q⟩ | ⟨a, e, ⟨xs, hq⟩, q⟩ | ⟨d, o, kvs, e, hd, q⟩ | ⟨z, e, q⟩
  · subst e
    cases r1
    obtain ⟨its, rv, p, hz⟩ := I1.list hq
    refine wpAny_pyIter_list p.isList ?_
    refine ⟨s1.heap.objs.size, [s1.heap.objs.size], _, _, H1, rfl, I1.kept (t' := s1.toks) fun b o e => Heap.get?_push_of_some _ e, turn_list a _, ⟨_, Heap.get?_push_size _ rfl, rfl, rfl⟩, fun b hb => ?_, q⟩
    have e : b = s1.heap.objs.size := by simpa using hb
    subst e
    exact I1.fpOk (Nat.le_refl _) (I1.hok.fresh (Nat.le_refl _))
  · subst e
    cases r1
    obtain ⟨its, rv, p, hz⟩ := I1.tuple hq
    refine wpAny_pyIter_tuple (show s1.heap.IsTuple a its.toArray from p) ?_
    refine ⟨s1.heap.objs.size, [s1.heap.objs.size], _, _, H1, rfl, I1.kept (t' := s1.toks) fun b o e => Heap.get?_push_of_some _ e, turn_tuple a _, ⟨_, Heap.get?_push_size _ rfl, rfl, rfl⟩, fun b hb => ?_, q⟩
    have e : b = s1.heap.objs.size := by simpa using hb
    subst e
    exact I1.fpOk (Nat.le_refl _) (I1.hok.fresh (Nat.le_refl _))
  · subst e
    obtain rfl : v = Value.ref d := r1
    obtain ⟨hs, hgd, hx, es, ep, vs, hdt, hsz, kv, hm⟩ := I1.frzK hd
    refine iter_keys hs hgd hx hdt (pi_one (tk := s1.toks) I1 _ (turn_keys _ hdt) ⟨_, Heap.get?_push_size _ rfl, rfl, ?_⟩ q)
    rw [hsz] <;> rfl
  · subst e
    obtain ⟨t, rfl⟩ := r1
    cases ha : z.cps.all (· < 128)
    · exact wpAny_pyIter_wide ha (pi_one (tk := s1.toks) I1 _ (turn_str _ z t "str_iterator" (.inr rfl)) ⟨_, Heap.get?_push_size _ rfl, rfl, rfl⟩ q)
    · exact wpAny_pyIter_ascii ha (pi_one (tk := s1.toks) I1 _ (turn_str _ z t "str_ascii_iterator" (.inl rfl)) ⟨_, Heap.get?_push_size _ rfl, rfl, rfl⟩ q)
def iterD (d : D) (K : List D → Prop) : Prop := match d with
  | .lst xs => K xs
  | .tup xs => K xs
  | .dic kvs => K (kvs.map fun p => .int p.1)
  | .str z => K (z.cps.toList.map fun c => .str ⟨#[c]⟩)
  | _ => False
theorem iter3_list {K : PySem.W.Frag} {a : Addr} {G0 : Hp} {vs : List V} {ds : List D} (hK : K = C.K) (h : G0 a = some (.lst vs)) (r : Rps C.K G0 ds vs) : Iter3 C (Itl K a) G0 ds := by
  subst hK
  refine ⟨fun i H G hi e ok => ⟨vs, .inl (.inl (ok.sub _ _ (e _ _ h)).2), by rw [← r.length]; exact hi⟩, fun i d H G hi e ok => ?_⟩
  have hs : SqL C.K H a vs := .inl (.inl (ok.sub _ _ (e _ _ h)).2)
  obtain ⟨v, h1, h2⟩ := r.get hi
  refine ⟨⟨vs, v, hs, h1⟩, fun x H' y => ?_⟩
  obtain ⟨rfl, y⟩ := y
  have q := y vs hs
  rw [h1] at q
  cases q
  exact ⟨G, Stp.refl, ok, h2.mono e⟩
theorem iter3_tup {K : PySem.W.Frag} {a : Addr} {G0 : Hp} {vs : List V} {ds : List D} (hK : K = C.K) (h : SqT C.K G0 a vs) (r : Rps C.K G0 ds vs) : Iter3 C (Itt K a) G0 ds := by
  subst hK
  refine ⟨fun i H G hi e ok => ⟨vs, seqT (fun a o q => (ok.sub a o (e _ _ q)).2) h, by rw [← r.length]; exact hi⟩, fun i d H G hi e ok => ?_⟩
  have hs : SqT C.K H a vs := seqT (fun a o q => (ok.sub a o (e _ _ q)).2) h
  obtain ⟨v, h1, h2⟩ := r.get hi
  refine ⟨⟨vs, v, hs, h1⟩, fun x H' y => ?_⟩
  obtain ⟨rfl, y⟩ := y
  have q := y vs hs
  rw [h1] at q
  cases q
  exact ⟨G, Stp.refl, ok, h2.mono e⟩
theorem RpK.get {K : PySem.W.Frag} {G : Hp} : ∀ {kvs : List (Int × D)} {kws : List (Key × V)} {i : Nat} {k : Int} {d : D}, RpK K G kvs kws → kvs[i]? = some (k, d) → ∃ v, kws[i]? = some (Sum.inl k, v) ∧ Rp K G d v := by
  intro kvs
  induction kvs with
  | nil => intro kws i k d r h; simp at h
  | cons x xs ih =>
    intro kws i k d r h
    cases r with
    | cons r1 r2 =>
      cases i with
      | zero => simp at h; obtain ⟨rfl, rfl⟩ := h; exact ⟨_, rfl, r1⟩
      | succ i =>
        obtain ⟨v, h1, h2⟩ := ih r2 (by simpa using h)
        exact ⟨v, by simpa using h1, h2⟩
theorem iter3_dic {a : Addr} {o : Obj} {G0 : Hp} {kvs : List (Int × D)} {kws : List (Key × V)} (h : G0 a = some (.frz o (.dK kws))) (r : RpK C.K G0 kvs kws) : Iter3 C (Itk a o kws) G0 (kvs.map fun p => .int p.1) := by
  refine ⟨fun i H G hi e ok => ⟨(ok.sub _ _ (e _ _ h)).2, by rw [← r.length]; simpa using hi⟩, fun i d H G hi e ok => ?_⟩
  rw [List.getElem?_map] at hi
  cases q : kvs[i]? with
  | none => rw [q] at hi; cases hi
  | some p =>
    rw [q] at hi
    have hi : D.int p.1 = d := Option.some.inj hi
    subst hi
    obtain ⟨k, d⟩ := p
    obtain ⟨v, h1, h2⟩ := r.get q
    refine ⟨⟨(ok.sub _ _ (e _ _ h)).2, (List.getElem?_eq_some_iff.mp h1).1⟩, fun x H' y => ?_⟩
    obtain ⟨rfl, k', v', y1, y2⟩ := y
    rw [h1] at y1
    cases y1
    subst y2
    exact ⟨G, Stp.refl, ok, .int k⟩
theorem iter3_str {z : Str} {G0 : Hp} : Iter3 C (Its z) G0 (z.cps.toList.map fun c => .str ⟨#[c]⟩) := by
  refine ⟨fun i H G hi e ok => by show z.cps.size ≤ i; simpa using hi, fun i d H G hi e ok => ?_⟩
  rw [List.getElem?_map] at hi
  cases q : z.cps.toList[i]? with
  | none => rw [q] at hi; cases hi
  | some c =>
    rw [q] at hi
    have hi : D.str ⟨#[c]⟩ = d := Option.some.inj hi
    subst hi
    have q' : z.cps[i]? = some c := by simpa using q
    refine ⟨by have := (Array.getElem?_eq_some_iff.mp q').1; exact this, fun x H' y => ?_⟩
    obtain ⟨rfl, c', y1, y2⟩ := y
    rw [q'] at y1
    cases y1
    subst y2
    exact ⟨G, Stp.refl, ok, .str _⟩
theorem iter3_range {lo : Int} {n : Nat} {G0 : Hp} : Iter3 C (Itr lo n) G0 ((List.range n).map fun i => .int (lo + (i : Nat))) := by
  refine ⟨fun i H G hi e ok => by show n ≤ i; simpa using hi, fun i d H G hi e ok => ?_⟩
  rw [List.getElem?_map] at hi
  cases q : (List.range n)[i]? with
  | none => rw [q] at hi; cases hi
  | some j =>
    rw [q] at hi
    have hi : D.int (lo + (j : Nat)) = d := Option.some.inj hi
    subst hi
    obtain ⟨h1, h2⟩ := List.getElem?_eq_some_iff.mp q
    rw [List.getElem_range] at h2
    subst h2
    rw [List.length_range] at h1
    refine ⟨h1, fun x H' y => ?_⟩
    obtain ⟨rfl, y⟩ := y
    subst y
    exact ⟨G, Stp.refl, ok, .int _⟩
def mIter (m : MEt) : MIt := fun env Kl KX => m env (fun d => iterD d Kl) KX
theorem mi_any (hK : X.K = C.K) (h : ME X C E e m) : MI X C E tg e (mIter m) := PI.imp (pi_any h) fun σ H R ⟨env, G, Kl, KX, ok, vr, hm, pv, px⟩ => by
  refine ⟨env, G, _, KX, ok, vr, hm, fun d v H1 G1 s1 ok1 r1 k1 => ?_, px⟩
  have k1 : iterD d Kl := k1
  unfold iterD at k1
  split at k1
  · cases r1 with
    | lst ha ra => exact .inl ⟨_, rfl, ⟨_, .inl (.inl (ok1.sub _ _ ha).2)⟩, pv _ _ _ _ s1 ok1 (iter3_list hK ha ra) k1⟩
  · cases r1 with
    | tup ha ra => exact .inr (.inl ⟨_, rfl, ⟨_, by rw [hK]; exact seqT (fun a o q => (ok1.sub a o q).2) ha.sq⟩, pv _ _ _ _ s1 ok1 (iter3_tup hK ha.sq ra) k1⟩)
  · cases r1 with
    | dic ha ra => exact .inr (.inr (.inl ⟨_, _, _, rfl, (ok1.sub _ _ ha).2, pv _ _ _ _ s1 ok1 (iter3_dic ha ra) k1⟩))
  · cases r1
    exact .inr (.inr (.inr ⟨_, rfl, pv _ _ _ _ s1 ok1 iter3_str k1⟩))
  · exact k1.elim
def rgD (ds : List D) (K : List D → Prop) : Prop := match ds with
  | [.int j] => -(2 ^ 62) ≤ j ∧ j < 2 ^ 62 ∧ K ((List.range j.toNat).map fun i => .int (i : Nat))
  | _ => False
def mRange (r : MAt) : MIt := fun env Kl KX => r env (fun ds => rgD ds Kl) KX
theorem mi_range (hg : Gl X "range") (hm : X.mg "range" = none) (ha : MA X C E [a] r) (hs : starEach [a] X.env = [(false, eval a X.env)] := by rfl) : MI X C E tg (.Call (.Name "range" p) [a] [] pos) (mRange r) := PI.imp (pi_range1 hg hm ha hs) fun σ H R ⟨env, G, Kl, KX, ok, vr, hm, pv, px⟩ => by
  refine ⟨env, G, _, KX, ok, vr, hm, fun ds vs H1 G1 s1 ok1 r1 _ k1 => ?_, px⟩
  have k1 : rgD ds Kl := k1
  unfold rgD at k1
  split at k1
  · cases r1 with
    | cons r1 r2 =>
      cases r2
      cases r1
      rename_i j _ _
      refine ⟨j, rfl, k1.1, k1.2.1, pv _ _ _ _ s1 ok1 ?_ k1.2.2⟩
      have q := iter3_range (C := C) (lo := 0) (n := j.toNat) (G0 := G1)
      simp only [Int.zero_add] at q
      exact q
  · exact k1.elim
theorem iter3_enum {K : PySem.W.Frag} {a : Addr} {G0 : Hp} {vs : List V} {ds : List D} (hK : K = C.K) (h : G0 a = some (.lst vs)) (r : Rps C.K G0 ds vs) : Iter3 C (IteN K a) G0 (ds.zipIdx.map fun p => .tup [.int (p.2 : Nat), p.1]) := by
  subst hK
  refine ⟨fun i H G hi e ok => ⟨vs, .inl (.inl (ok.sub _ _ (e _ _ h)).2), by rw [← r.length]; simpa using hi⟩, fun i d H G hi e ok => ?_⟩
  have hs : SqL C.K H a vs := .inl (.inl (ok.sub _ _ (e _ _ h)).2)
  rw [List.getElem?_map, List.getElem?_zipIdx] at hi
  cases q : ds[i]? with
  | none => rw [q] at hi; cases hi
  | some d0 =>
    rw [q] at hi
    have hi : D.tup [.int ((0 + i : Nat) : Int), d0] = d := Option.some.inj hi
    subst hi
    obtain ⟨v, h1, h2⟩ := r.get q
    refine ⟨⟨vs, v, hs, h1⟩, fun x H' y => ?_⟩
    obtain ⟨T, ob, v', e1, hT, c1, c2, e2, y⟩ := y
    have q' := y vs hs
    rw [h1] at q'
    cases q'
    subst e1 e2
    obtain ⟨o1, s1⟩ := ok.lay (o := .frz ob (.tup [.int (i : Nat), v])) hT
    refine ⟨_, s1, o1, .tup (.inl ⟨ob, upd_same, c1, c2⟩) (.cons ?_ (.cons (h2.mono (e.trans s1.ge)) .nil))⟩
    rw [Nat.zero_add]
    exact .int _
def mEnum (m : MEt) : MIt := fun env Kl KX => m env (fun d => match d with
  | .lst ds => Kl (ds.zipIdx.map fun p => .tup [.int (p.2 : Nat), p.1])
  | _ => False) KX
theorem mi_enum {elts : List Expr} {kk : Nat} {tpos : Pos} (hK : X.K = C.K) (hg : Gl X "enumerate") (hm : X.mg "enumerate" = none) (ha : ME X C E a m) (hs : starEach [a] X.env = [(false, eval a X.env)] := by rfl) (hs2 : starEach (a :: []) X.env = (false, eval a X.env) :: starEach [] X.env := by rfl) : MI X C E (.Tuple elts kk tpos) (.Call (.Name "enumerate" p) [a] [] pos) (mEnum m) :=
  PI.imp (pi_enumN hg hm (pa_cons ha pa_nil hs2) hs) fun σ H R ⟨env, G, Kl, KX, ok, vr, hm, pv, px⟩ => by
  refine ⟨env, G, _, KX, ok, vr, hm, fun d v H1 G1 s1 ok1 r1 k1 => ?_, px⟩
  cases r1 <;> first | exact (show False from k1).elim | skip
  rename_i ha' ra'
  exact ⟨_, _, rfl, .inl (.inl (ok1.sub _ _ ha').2), pv _ _ _ _ s1 ok1 (iter3_enum hK ha' ra') k1⟩
end

/-! ### targets: a name, or names in a row -/
inductive Tgt where
  | nm (i : Nat)
  | tp (is : List Nat)
def gNames : List Nat → TGs
  | [] => gNil
  | i :: r => gCons (gName i) (gNames r)
def gOf (K : PySem.W.Frag) : Tgt → TG
  | .nm i => gName i
  | .tp is => gTup K is.length (gNames is)
def bindT (t : Tgt) (d : D) : Option (List (Nat × D)) := match t with
  | .nm i => some [(i, d)]
  | .tp is => match d with
    | .tup ds => if ds.length = is.length then some (is.zip ds) else none
    | _ => none
def setE (env : EnvE) : List (Nat × D) → EnvE
  | [] => env
  | p :: r => setE (env.set p.1 (some p.2)) r
def setV (σ : L2.St) : List (Nat × V) → L2.St
  | [] => σ
  | p :: r => setV (σ.set p.1 (some p.2)) r
def Tgt.slots : Tgt → List Nat
  | .nm i => [i]
  | .tp is => is
section
variable {X : Cx} {C : C3}
theorem gNames_ok {Q : L2.St → Hp → Prop} {H : Hp} : ∀ (is : List Nat) (vs : List V) (σ : L2.St), vs.length = is.length → Q (setV σ (is.zip vs)) H → gNames is vs σ H Q
  | [], [], _, _, h => ⟨rfl, h⟩
  | i :: is, v :: vs, σ, hl, h => ⟨v, vs, rfl, gNames_ok is vs _ (by simpa using hl) h⟩
  | [], _ :: _, _, hl, _ => by simp at hl
  | _ :: _, [], _, hl, _ => by simp at hl
/-- paired lists of slots -/
theorem gOf_ok {K : PySem.W.Frag} {G H : Hp} {t : Tgt} {d : D} {v : V} {l : List (Nat × D)} {σ : L2.St} {Q : L2.St → Hp → Prop} (sm : ∀ a o, G a = some o → H a = some o) (r : Rp K G d v) (h : bindT t d = some l)
    (q : ∀ ws : List (Nat × V), Paired (fun (p : Nat × D) (w : Nat × V) => p.1 = w.1 ∧ Rp K G p.2 w.2) l ws → (∀ w ∈ ws, w.1 ∈ t.slots) → Q (setV σ ws) H) : gOf K t v σ H Q := by
  cases t with
  | nm i =>
    have h : some [(i, d)] = some l := h
    cases h
    exact q [(i, v)] (.cons ⟨rfl, r⟩ .nil) (by simp [Tgt.slots])
  | tp is =>
    unfold bindT at h
    dsimp only at h
    split at h
    · rename_i ds
      split at h
      · rename_i hl
        cases h
        cases r with
        | tup ha ra =>
          rename_i a vs
          refine ⟨a, vs, rfl, seqT sm ha.sq, by rw [← ra.length]; exact hl, gNames_ok is vs σ (by rw [← ra.length]; exact hl) (q _ ?_ ?_)⟩
          · have pz : ∀ {ks : List Nat} {ds : List D} {vs : List V}, Rps K G ds vs → Paired (fun (p : Nat × D) (w : Nat × V) => p.1 = w.1 ∧ Rp K G p.2 w.2) (ks.zip ds) (ks.zip vs) := by
              intro ks
              induction ks with
              | nil => intro ds vs _; exact .nil
              | cons k ks ih =>
                intro ds vs z
                cases z with
                | nil => exact .nil
                | cons z1 z2 => exact .cons ⟨rfl, z1⟩ (ih z2)
            exact pz ra
          · intro w hw
            exact (List.of_mem_zip hw).1
      · cases h
    · cases h
theorem VR.set {K : PySem.W.Frag} {G : Hp} {env : EnvE} {σ : L2.St} (h : VR K G env σ) {i : Nat} {d : D} {v : V} (r : Rp K G d v) : VR K G (env.set i (some d)) (σ.set i (some v)) := ⟨by simpa using h.len, fun j e q => by
  by_cases c : i = j
  · subst c
    by_cases hi : i < env.length
    · rw [List.getElem?_set_self hi] at q
      cases q
      exact ⟨v, by rw [List.getElem?_set_self (Nat.lt_of_lt_of_le hi h.len)], r⟩
    · rw [List.getElem?_eq_none (by simpa using hi)] at q
      cases q
  · rw [List.getElem?_set_ne c] at q
    obtain ⟨w, h1, h2⟩ := h.get j e q
    exact ⟨w, by rw [List.getElem?_set_ne c]; exact h1, h2⟩⟩
theorem VR.setAll {K : PySem.W.Frag} {G : Hp} : ∀ {l : List (Nat × D)} {ws : List (Nat × V)} {env : EnvE} {σ : L2.St}, Paired (fun (p : Nat × D) (w : Nat × V) => p.1 = w.1 ∧ Rp K G p.2 w.2) l ws → VR K G env σ → VR K G (setE env l) (setV σ ws) := by
  intro l
  induction l with
  | nil => intro ws env σ q h; cases q; exact h
  | cons p l ih =>
    intro ws env σ q h
    cases q with
    | cons q1 q2 =>
      rename_i w ws'
      obtain ⟨e, r⟩ := q1
      have z := ih q2 (h.set (i := p.1) r)
      show VR K G (setE (env.set p.1 (some p.2)) l) (setV (σ.set w.1 (some w.2)) ws')
      rw [← e]
      exact z
theorem wipe_set {σ : L2.St} {i : Nat} {x : Option V} : ∀ {vs : List Nat}, i ∈ vs → wipe (σ.set i x) vs = wipe σ vs
  | v :: vs, h => by
    show (wipe (σ.set i x) vs).set v none = (wipe σ vs).set v none
    by_cases c : i ∈ vs
    · rw [wipe_set c]
    · have e : i = v := by
        rcases List.mem_cons.mp h with z | z
        · exact z
        · exact absurd z c
      subst e
      have q : ∀ (us : List Nat), i ∉ us → wipe (σ.set i x) us = (wipe σ us).set i x := by
        intro us
        induction us with
        | nil => intro _; rfl
        | cons u us ih =>
          intro hu
          show (wipe (σ.set i x) us).set u none = ((wipe σ us).set u none).set i x
          rw [ih (fun z => hu (List.mem_cons_of_mem _ z)), List.set_comm _ _ (fun z => hu (by rw [z]; exact List.mem_cons_self))]
      rw [q vs c, List.set_set]
theorem wipe_setV : ∀ {ws : List (Nat × V)} {σ : L2.St} {vs : List Nat}, (∀ w ∈ ws, w.1 ∈ vs) → wipe (setV σ ws) vs = wipe σ vs
  | [], _, _, _ => rfl
  | w :: ws, σ, vs, h => by
    show wipe (setV (σ.set w.1 (some w.2)) ws) vs = wipe σ vs
    rw [wipe_setV fun u hu => h u (List.mem_cons_of_mem _ hu), wipe_set (h w List.mem_cons_self)]
def wipeE (env : EnvE) : List Nat → EnvE
  | [] => env
  | v :: vs => (wipeE env vs).set v none
theorem wipeE_len (env : EnvE) : ∀ vs : List Nat, (wipeE env vs).length = env.length
  | [] => rfl
  | v :: vs => by show ((wipeE env vs).set v none).length = _; rw [List.length_set, wipeE_len env vs]
theorem wipeE_some {env : EnvE} {i : Nat} {x : D} : ∀ {vs : List Nat}, (wipeE env vs)[i]? = some (some x) → env[i]? = some (some x) ∧ i ∉ vs
  | [], h => ⟨h, by simp⟩
  | v :: vs, h => by
    unfold wipeE at h
    by_cases hi : v = i
    · subst hi
      by_cases hv : v < (wipeE env vs).length
      · rw [List.getElem?_set_self hv] at h; cases h
      · rw [List.getElem?_eq_none (by simpa using hv)] at h; cases h
    · rw [List.getElem?_set_ne hi] at h
      obtain ⟨h1, h2⟩ := wipeE_some h
      exact ⟨h1, by simp only [List.mem_cons, not_or]; exact ⟨fun e => hi e.symm, h2⟩⟩
theorem VR.wipe {K : PySem.W.Frag} {G : Hp} {env : EnvE} {σ : L2.St} (h : VR K G env σ) (vs : List Nat) : VR K G (wipeE env vs) (L2.wipe σ vs) := ⟨by rw [wipeE_len, wipe_length]; exact h.len, fun i d q => by
  obtain ⟨q1, q2⟩ := wipeE_some q
  obtain ⟨v, h1, h2⟩ := h.get i d q1
  exact ⟨v, by rw [wipe_out q2]; exact h1, h2⟩⟩
end

/-! ### comprehensions -/
section
variable {X : Cx} {C : C3} {E : XK}
def lcD (t : Tgt) (tt : MTt) (te : MEt) (env : EnvE) : List D → (List D → Prop) → Prop
  | [], K => K []
  | d :: ds, K => ∃ l, bindT t d = some l ∧ tt (setE env l) (fun b => if b = true then te (setE env l) (fun y => lcD t tt te env ds fun r => K (y :: r)) (fun _ => False) else lcD t tt te env ds K) (fun _ => False)
def mLc (t : Tgt) (vs : List Nat) (mi : MIt) (tt : MTt) (te : MEt) : MEt := fun env Kd KX => mi env (fun ds => ds.length ≤ 100000 ∧ lcD t tt te (wipeE env vs) ds fun r => Kd (.lst r)) KX
/-- the tests of a comprehension -/
abbrev MTs (X : Cx) (C : C3) (E : XK) (ifs : List Expr) (m : MTt) : Prop := PTs X ifs (liftT C X.mg E m)
def tYesM : MTt := fun _ Kb _ => Kb true
theorem PTs.imp {X : Cx} {ifs : List Expr} {t t' : TT} (h : PTs X ifs t) (q : ∀ σ H Q, t' σ H Q → t σ H Q) : PTs X ifs t' := ⟨fun pins s σ H Q I w => h.run pins s σ H Q I (q σ H Q w)⟩
theorem mts_nil : MTs X C E [] tYesM := PTs.imp pts_nil fun σ H Q ⟨env, G, Kb, KX, ok, vr, hm, pv, px⟩ => pv true H G Stp.refl ok hm
theorem mts_one {c : Expr} {m : MTt} (h : MT X C E c m) : MTs X C E [c] m := pts_one h
/-- the reading of a comprehension -/
theorem lc_lift {K : PySem.W.Frag} {mg : Str → Option Value} {t : Tgt} {vs : List Nat} {mi : MIt} {tt : MTt} {te : MEt} (hK : K = C.K) (hts : ∀ i ∈ t.slots, i ∈ vs) {σ : L2.St} {H : Hp} {Q : VK}
    (h : ∃ env G Kd KX, Ok3 C H G ∧ VR C.K G env σ ∧ mLc t vs mi tt te env Kd KX ∧ PostF C H G Kd Q ∧ PostX C mg H G KX E) :
    tLc (liftI C mg E mi) (gOf K t) (liftT C mg E0 tt) (lift C mg E0 te) vs σ H Q := by
  subst hK
  obtain ⟨env, G, Kd, KX, ok, vr, hm, pv, px⟩ := h
  refine ⟨env, G, _, KX, ok, vr, hm, fun ds J H1 G1 s1 ok1 it k1 D0 nD => ?_, px⟩
  obtain ⟨hz, k1⟩ := k1
  have spD := ok1.iv.new nD
  refine ⟨fun i m H => m = ds.length - i ∧ i ≤ ds.length ∧ ∃ (G2 : Hp) (acc : List V) (accD : List D), Ok3 C H G2 ∧ Stp C H1 G1 H G2 ∧ H D0 = some (.lst acc) ∧ G2 D0 = none ∧ Rps C.K G2 accD acc ∧ acc.length ≤ i ∧
      lcD t tt te (wipeE env vs) (ds.drop i) fun r => Kd (.lst (accD ++ r)), ⟨ds.length, by simp, Nat.zero_le _, ?_⟩, ?_⟩
  · obtain ⟨o2, s2, g⟩ := ok1.new (o := .lst []) nD
    exact ⟨G1, [], [], o2, s2, upd_same, g, .nil, Nat.zero_le _, by simpa using k1⟩
  · rintro i m H2 ⟨rfl, hi, G2, acc, accD, ok2, s2, hD, gD, ra, hacc, k2⟩
    by_cases hlt : i < ds.length
    · have hd : ds[i]? = some ds[i] := List.getElem?_eq_getElem hlt
      obtain ⟨hgo, hy⟩ := it.go i ds[i] H2 G2 hd s2.ge ok2
      have edrop : ds.drop i = ds[i] :: ds.drop (i + 1) := List.drop_eq_getElem_cons hlt
      rw [edrop] at k2
      obtain ⟨l, hb, k2⟩ := k2
      refine .inr ⟨hgo, fun H' => i + 1 ≤ ds.length ∧ ∃ (G2 : Hp) (acc : List V) (accD : List D), Ok3 C H' G2 ∧ Stp C H1 G1 H' G2 ∧ H' D0 = some (.lst acc) ∧ G2 D0 = none ∧ Rps C.K G2 accD acc ∧ acc.length ≤ i + 1 ∧
        lcD t tt te (wipeE env vs) (ds.drop (i + 1)) fun r => Kd (.lst (accD ++ r)), fun H' hn => ⟨ds.length - (i + 1), by omega, rfl, hn⟩, fun x H3 yy => ?_⟩
      obtain ⟨G3, s3, ok3, r3⟩ := hy x H3 yy
      have hD3 : H3 D0 = some (.lst acc) := s3.nh D0 _ spD hD
      have gD3 : G3 D0 = none := s3.gn ok3 spD hD rfl (fun q => by unfold LamX.CodeO; exact fun z => nomatch z) gD
      have vr3 : VR C.K G3 (wipeE env vs) (L2.wipe σ vs) := (vr.wipe vs).mono (s1.ge.trans (s2.ge.trans s3.ge))
      refine gOf_ok (fun a o q => (ok3.sub a o q).2) r3 hb fun ws pw hw => ⟨wipe_setV (fun w hw' => hts _ (hw w hw')) |>.trans ?_, ?_⟩
      · have wi : ∀ us : List Nat, (∀ u ∈ us, u ∈ vs) → L2.wipe (L2.wipe σ vs) us = L2.wipe σ vs := by
          intro us
          induction us with
          | nil => intro _; rfl
          | cons u us ih =>
            intro hu
            show (L2.wipe (L2.wipe σ vs) us).set u none = _
            rw [ih fun x hx => hu x (List.mem_cons_of_mem _ hx)]
            have hu0 : u ∈ vs := hu u List.mem_cons_self
            apply List.ext_getElem?
            intro j
            by_cases c : u = j
            · subst c
              by_cases hj : u < (L2.wipe σ vs).length
              · rw [List.getElem?_set_self hj]
                have q : (L2.wipe σ vs)[u]? = some ((L2.wipe σ vs)[u]) := List.getElem?_eq_getElem hj
                cases q2 : (L2.wipe σ vs)[u] with
                | none => rw [q, q2]
                | some w =>
                  rw [q2] at q
                  exact absurd hu0 (wipe_some q).2
              · rw [List.getElem?_eq_none (by simpa using hj), List.getElem?_eq_none (by simpa using hj)]
            · rw [List.getElem?_set_ne c]
        rw [wi vs fun _ h => h]
      · have vr4 : VR C.K G3 (setE (wipeE env vs) l) (setV (L2.wipe σ vs) ws) := VR.setAll pw vr3
        refine ⟨_, G3, _, _, ok3, vr4, k2, fun b H4 G4 s4 ok4 k4 => ?_, fun _ _ _ _ z => z.elim⟩
        have hD4 : H4 D0 = some (.lst acc) := s4.nh D0 _ spD hD3
        have gD4 : G4 D0 = none := s4.gn ok4 spD hD3 rfl (fun q => by unfold LamX.CodeO; exact fun z => nomatch z) gD3
        have s14 := s2.trans ok4 (s3.trans ok4 s4)
        cases b with
        | false =>
          refine iteF ?_
          exact ⟨hlt, G4, acc, accD, ok4, s14, hD4, gD4, ra.mono (s3.ge.trans s4.ge), Nat.le_succ_of_le hacc, k4⟩
        | true =>
          refine iteT ?_
          refine ⟨_, G4, _, _, ok4, vr4.mono s4.ge, k4, fun y yv H5 G5 s5 ok5 r5 k5 => ?_, fun _ _ _ _ z => z.elim⟩
          have hD5 : H5 D0 = some (.lst acc) := s5.nh D0 _ spD hD4
          have gD5 : G5 D0 = none := s5.gn ok5 spD hD4 rfl (fun q => by unfold LamX.CodeO; exact fun z => nomatch z) gD4
          have s15 := s14.trans ok5 s5
          refine ⟨acc, hD5, Nat.lt_of_lt_of_le (show acc.length < 100001 by omega) (by rw [sizeLine_eq]; decide), hlt, G5, acc ++ [yv], accD ++ [y], ?_, ?_, upd_same, gD5, (ra.mono (s3.ge.trans (s4.ge.trans s5.ge))).append (.cons r5 .nil), by rw [List.length_append, List.length_singleton]; omega, ?_⟩
          · refine ⟨ok5.iv.upd spD (upd_code hD5 rfl), fun a o q => ?_, ok5.nt⟩
            obtain ⟨z1, z2⟩ := ok5.sub a o q
            refine ⟨z1, ?_⟩
            rw [upd_ne (fun z => by rw [z, gD5] at q; cases q)]
            exact z2
          · refine ⟨fun a o sp e => ?_, s15.ge, s15.fr⟩
            rw [nT_ne (ne_of_none (nT_to e).1 nD)]
            exact s15.nx a o sp e
          · simp only [List.append_assoc, List.singleton_append]
            exact k5
    · have e : i = ds.length := by omega
      subst e
      rw [List.drop_length] at k2
      have k2 : Kd (.lst (accD ++ [])) := k2
      rw [List.append_nil] at k2
      refine .inl ⟨it.stop _ H2 G2 (Nat.le_refl _) s2.ge ok2, pv.on s1 (.lst accD) D0 _ H2 G2 s2 ok2 (nT_none nD) gD hD spD (.lst ra) k2⟩
end
end L3
/-! L3g: statements -/
namespace L3
open PySem PySem.Spec PyProof.Rows L2

theorem mf_lc {X : Cx} {C : C3} {E : XK} {elt tg iter : Expr} {ifs : List Expr} {scope : Scope} {own : List (Str × Nat)} {pos : Pos} {t : Tgt} {mi : MIt} {tt : MTt} {te : MEt} (hK : X.K = C.K) (hc : X.calm = true) (hN : X.N.Nodup) (hi : MI X C E tg iter mi) (ok : BlkOk X.N X.env.scope scope own)
    (hts : ∀ i ∈ t.slots, i ∈ own.map (·.2))
    (hg : ∀ (s : Shared) (H : Hp) (A : Addr) (cl : List (Str × Addr)) (fp : List Addr), PG (X.blk s H scope (compEnvC scope cl A X.env) fp) tg (gOf X.K t)) (ht : ∀ (s : Shared) (H : Hp) (A : Addr) (cl : List (Str × Addr)) (fp : List Addr), MTs (X.blk s H scope (compEnvC scope cl A X.env) fp) C E0 ifs tt)
    (he : ∀ (s : Shared) (H : Hp) (A : Addr) (cl : List (Str × Addr)) (fp : List Addr), ME (X.blk s H scope (compEnvC scope cl A X.env) fp) C E0 elt te) (hs : ∀ x, foldedSetIterable iter X.env x = pure x := by intro _; rfl) :
    MF X C E (.ListComp elt [⟨tg, iter, ifs, 0⟩] scope pos) (mLc t (own.map (·.2)) mi tt te) := PE.imp (pe_lc hc hN hi ok hg ht he hs) fun σ H Q h => lc_lift hK hts h

/-! ### the state of a def -/
inductive Slot where
  | sh (d : D)
  | own (p : Addr) (d : D)
abbrev EnvS := List (Option Slot)
def viewS : Option Slot → Option D
  | some (.sh d) => some d
  | _ => none
def lendS : Option Slot → Option D
  | some (.sh d) => some d
  | some (.own _ (.lst ds)) => some (.lst ds)
  | _ => none
def viewE (env : EnvS) : EnvE := env.map viewS
def lendE (env : EnvS) : EnvE := env.map lendS
/-! a dict whose keys are tuples of numbers: its entries, and where the keys stand -/
abbrev TK := List (List Int × Addr × Value)
def entT (x : List Int × Addr × Value) : DictEntry := ⟨reduceHash (Builtin.Tuple.tupleHashOf (x.1.map hashInt)), .ref x.2.1, x.2.2⟩
def dtPhi (a : Addr) (xs : TK) (h : Heap) : Prop := ∃ (o : Obj) (es : Array DictEntry) (ep : Nat), h.get? a = some o ∧ o.ExactDict ∧ o.data = .dict es ep ∧ es.toList = xs.map entT
def dtO (a : Addr) (xs : TK) : HO := .ext (dtPhi a xs)
theorem heap_of (o : Obj) (hf : o.isFreed = false) : ∀ n : Nat, ∃ h : Heap, h.objs.size = n ∧ (∀ b ob, h.get? b = some ob → ob = o) ∧ ∀ b, b < n → h.get? b = some o
  | 0 => ⟨{}, rfl, fun b ob e => absurd (Heap.lt_size e) (Nat.not_lt_zero _), fun b e => absurd e (Nat.not_lt_zero _)⟩
  | n + 1 => by
    obtain ⟨h, h1, h2, h3⟩ := heap_of o hf n
    refine ⟨h.push o, by rw [Heap.objs_push, Array.size_push, h1], fun b ob e => ?_, fun b e => ?_⟩
    · rcases Heap.get?_push_cases e with ⟨_, e⟩ | e
      · exact e
      · exact h2 b ob e
    · by_cases c : b = n
      · rw [c, ← h1]
        exact Heap.get?_push_size _ hf
      · exact Heap.get?_push_of_some _ (h3 b (by omega))
theorem dtO_ne {a p : Addr} {xs : TK} {q : Str} : dtO a xs ≠ LamX.CodeO p q := fun e => by
  unfold dtO LamX.CodeO at e
  have e := HO.ext.inj e
  obtain ⟨h, _, h2, h3⟩ := heap_of { cls := .type "dict", data := .dict (xs.map entT).toArray 0 } rfl (a + 1)
  have d : dtPhi a xs h := ⟨_, _, _, h3 a (Nat.lt_succ_self a), ⟨rfl, rfl, rfl⟩, rfl, by simp⟩
  rw [e] at d
  obtain ⟨oc, vs, t, d1, d2, _⟩ := d
  rw [h2 _ _ d1] at d2
  cases d2
abbrev tupI (ks : List Int) : D := .tup (ks.map D.int)
/-- such a dict as data: where it stands, its keys -/
abbrev metD (a : Addr) (ks : List (List Int)) : D := .tup [.ref a, .lst (ks.map tupI)]
inductive ObjO (K : PySem.W.Frag) (G : Hp) : D → HO → Prop
  | lst {ds : List D} {vs : List V} : Rps K G ds vs → ObjO K G (.lst ds) (.lst vs)
  | dic {kvs : List (Int × D)} {kws : List (Key × V)} : RpK K G kvs kws → ObjO K G (.dic kvs) (.dK kws)
  | dt {a : Addr} {ks : List (List Int)} {xs : TK} : ks = xs.map (·.1) → (a == sysModules) = false → xs.length ≤ sizeLine → (xs.map (·.1)).Nodup → (∀ x ∈ xs, Rp K G (tupI x.1) (.ref x.2.1)) → ObjO K G (metD a ks) (dtO a xs)
theorem ObjO.nt {K : PySem.W.Frag} {G : Hp} {d : D} {o : HO} (h : ObjO K G d o) : notTbl o = true := by cases h <;> rfl
theorem ObjO.mono {K : PySem.W.Frag} {G G' : Hp} {d : D} {o : HO} (e : Same G G') (h : ObjO K G d o) : ObjO K G' d o := by
  cases h with
  | lst r => exact .lst (r.mono e)
  | dic r => exact .dic (r.mono e)
  | dt e1 e2 e3 e4 e5 => exact .dt e1 e2 e3 e4 fun x hx => (e5 x hx).mono e
theorem ObjO.nk {K : PySem.W.Frag} {G H : Hp} {d : D} {o : HO} {p : Addr} (h : ObjO K G d o) (e : H p = some o) : ∀ q, H p ≠ some (LamX.CodeO p q) := by
  cases h with
  | lst r => exact upd_code e rfl
  | dic r => exact upd_code e rfl
  | dt _ _ _ _ _ => exact fun q z => dtO_ne (Option.some.inj (e.symm.trans z))
theorem ObjD.obj {K : PySem.W.Frag} {G : Hp} {d : D} {o : HO} (h : ObjD K G d o) : ObjO K G d o := by
  cases h with
  | lst r => exact .lst r
structure ER0 (C : C3) (B G0 H G : Hp) : Prop where
  ok : Ok3 C H G
  g0 : Same G0 G
  fr : ∀ a o, G0 a = none → G a = some o → B a = none ∨ ∃ q, o = LamX.CodeO a q
  keep : ∀ a o, C.sp a = false → B a = some o → nT H a = some o
structure ER (C : C3) (B G0 H G : Hp) (env : EnvS) (σ : L2.St) : Prop where
  z : ER0 C B G0 H G
  len : env.length ≤ σ.length
  sh : ∀ (i : Nat) (d : D), env[i]? = some (some (.sh d)) → ∃ v, σ[i]? = some (some v) ∧ Rp C.K G d v
  own : ∀ (i : Nat) (p : Addr) (d : D), env[i]? = some (some (.own p d)) → σ[i]? = some (some (.ref p)) ∧ C.sp p = false ∧ B p = none ∧ G p = none ∧ ∃ o, H p = some o ∧ ObjO C.K G d o
  dis : ∀ (i j : Nat) (p : Addr) (d e : D), env[i]? = some (some (.own p d)) → env[j]? = some (some (.own p e)) → i = j
section
variable {C : C3} {B G0 H G H' G' : Hp} {env : EnvS} {σ : L2.St}
theorem ER0.step (z : ER0 C B G0 H G) (s : Stp C H G H' G') (ok : Ok3 C H' G') : ER0 C B G0 H' G' := by
  refine ⟨ok, z.g0.trans s.ge, fun a o h h' => ?_, fun a o sp h => s.nx a o sp (z.keep a o sp h)⟩
  cases q : G a with
  | some u =>
    rw [s.ge a u q] at h'
    cases h'
    exact z.fr a _ h q
  | none =>
    rcases s.fr a o q h' with h1 | h1
    · cases r : B a with
      | none => exact .inl rfl
      | some u =>
        rw [z.keep a u (ok.sub a o h').1 r] at h1
        cases h1
    · exact .inr h1
theorem ER.step (z : ER C B G0 H G env σ) (s : Stp C H G H' G') (ok : Ok3 C H' G') : ER C B G0 H' G' env σ := by
  refine ⟨z.z.step s ok, z.len, fun i d h => ?_, fun i p d h => ?_, z.dis⟩
  · obtain ⟨v, h1, h2⟩ := z.sh i d h
    exact ⟨v, h1, h2.mono s.ge⟩
  · obtain ⟨h1, h2, h3, h4, o, h5, h6⟩ := z.own i p d h
    exact ⟨h1, h2, h3, s.gn ok h2 h5 h6.nt (fun q z => h6.nk h5 q (by rw [h5, z])) h4, o, s.nh p o h2 h5 h6.nt, h6.mono s.ge⟩
theorem viewE_get {i : Nat} {d : D} (h : (viewE env)[i]? = some (some d)) : env[i]? = some (some (.sh d)) := by
  unfold viewE at h
  rw [List.getElem?_map] at h
  cases q : env[i]? with
  | none => rw [q] at h; cases h
  | some o =>
    rw [q] at h
    have h : viewS o = some d := Option.some.inj h
    cases o with
    | none => cases h
    | some s =>
      cases s with
      | sh e =>
        have h : some e = some d := h
        cases h
        rfl
      | own p e => cases h
theorem ER.vr (z : ER C B G0 H G env σ) : VR C.K G (viewE env) σ := ⟨by unfold viewE; rw [List.length_map]; exact z.len, fun i d h => z.sh i d (viewE_get h)⟩
theorem ER.set_sh (z : ER C B G0 H G env σ) {i : Nat} {d : D} {v : V} (r : Rp C.K G d v) : ER C B G0 H G (env.set i (some (.sh d))) (σ.set i (some v)) := by
  refine ⟨z.z, by simpa using z.len, fun j e h => ?_, fun j p e h => ?_, fun j k p e f h h' => ?_⟩
  · by_cases c : i = j
    · subst c
      by_cases hi : i < env.length
      · rw [List.getElem?_set_self hi] at h
        cases h
        exact ⟨v, by rw [List.getElem?_set_self (Nat.lt_of_lt_of_le hi z.len)], r⟩
      · rw [List.getElem?_eq_none (by simpa using hi)] at h
        cases h
    · rw [List.getElem?_set_ne c] at h
      obtain ⟨w, h1, h2⟩ := z.sh j e h
      exact ⟨w, by rw [List.getElem?_set_ne c]; exact h1, h2⟩
  · by_cases c : i = j
    · subst c
      by_cases hi : i < env.length
      · rw [List.getElem?_set_self hi] at h
        cases h
      · rw [List.getElem?_eq_none (by simpa using hi)] at h
        cases h
    · rw [List.getElem?_set_ne c] at h
      obtain ⟨h1, h2⟩ := z.own j p e h
      exact ⟨by rw [List.getElem?_set_ne c]; exact h1, h2⟩
  · have un : ∀ {j : Nat} {e : D}, (env.set i (some (.sh d)))[j]? = some (some (.own p e)) → env[j]? = some (some (.own p e)) := fun {j e} h => by
      by_cases c : i = j
      · subst c
        by_cases hi : i < env.length
        · rw [List.getElem?_set_self hi] at h; cases h
        · rw [List.getElem?_eq_none (by simpa using hi)] at h; cases h
      · rwa [List.getElem?_set_ne c] at h
    exact z.dis j k p e f (un h) (un h')
theorem ER.set_own (z : ER C B G0 H G env σ) {i : Nat} {p : Addr} {d : D} {o : HO} (sp : C.sp p = false) (hb : B p = none) (hg : G p = none) (ho : H p = some o) (r : ObjO C.K G d o) (nw : ∀ (j : Nat) (e : D), j ≠ i → env[j]? ≠ some (some (.own p e))) : ER C B G0 H G (env.set i (some (.own p d))) (σ.set i (some (.ref p))) := by
  have un : ∀ {j : Nat} {x : Slot}, (env.set i (some (.own p d)))[j]? = some (some x) → (i = j ∧ i < env.length ∧ x = .own p d) ∨ (i ≠ j ∧ env[j]? = some (some x)) := fun {j x} h => by
    by_cases c : i = j
    · subst c
      by_cases hi : i < env.length
      · rw [List.getElem?_set_self hi] at h
        cases h
        exact .inl ⟨rfl, hi, rfl⟩
      · rw [List.getElem?_eq_none (by simpa using hi)] at h; cases h
    · rw [List.getElem?_set_ne c] at h
      exact .inr ⟨c, h⟩
  refine ⟨z.z, by simpa using z.len, fun j e h => ?_, fun j q e h => ?_, fun j k q e f h h' => ?_⟩
  · rcases un h with ⟨_, _, x⟩ | ⟨c, x⟩
    · cases x
    · obtain ⟨w, h1, h2⟩ := z.sh j e x
      exact ⟨w, by rw [List.getElem?_set_ne c]; exact h1, h2⟩
  · rcases un h with ⟨c, hi, x⟩ | ⟨c, x⟩
    · cases x
      subst c
      exact ⟨by rw [List.getElem?_set_self (Nat.lt_of_lt_of_le hi z.len)], sp, hb, hg, o, ho, r⟩
    · obtain ⟨h1, h2⟩ := z.own j q e x
      exact ⟨by rw [List.getElem?_set_ne c]; exact h1, h2⟩
  · rcases un h with ⟨c, _, x⟩ | ⟨c, x⟩
    · cases x
      rcases un h' with ⟨c', _, x'⟩ | ⟨c', x'⟩
      · exact c.symm.trans c'
      · exact absurd x' (nw k f (Ne.symm c'))
    · rcases un h' with ⟨c', _, x'⟩ | ⟨c', x'⟩
      · cases x'
        exact absurd x (nw j e (Ne.symm c))
      · exact z.dis j k q e f x x'
/-- what stands at an own address is changed -/
theorem ER.write (z : ER C B G0 H G env σ) {i : Nat} {p : Addr} {d d' : D} {o' : HO} (h : env[i]? = some (some (.own p d))) (r : ObjO C.K G d' o') : ER C B G0 (upd H p o') G (env.set i (some (.own p d'))) σ := by
  obtain ⟨h1, h2, h3, h4, o, h5, h6⟩ := z.own i p d h
  have ok' : Ok3 C (upd H p o') G := ⟨z.z.ok.iv.upd h2 (h6.nk h5), fun a u q => by
    obtain ⟨x, y⟩ := z.z.ok.sub a u q
    refine ⟨x, ?_⟩
    rw [upd_ne (fun w => by rw [w, h4] at q; cases q)]
    exact y, z.z.ok.nt⟩
  have hi : i < env.length := (List.getElem?_eq_some_iff.mp h).1
  refine ⟨⟨ok', z.z.g0, z.z.fr, fun a u sp q => ?_⟩, by simpa using z.len, fun j e q => ?_, fun j q e w => ?_, fun j k q e f w w' => ?_⟩
  · rw [nT_ne (ne_of_none q h3)]
    exact z.z.keep a u sp q
  · by_cases c : i = j
    · subst c
      rw [List.getElem?_set_self hi] at q
      cases q
    · rw [List.getElem?_set_ne c] at q
      exact z.sh j e q
  · by_cases c : i = j
    · subst c
      rw [List.getElem?_set_self hi] at w
      cases w
      exact ⟨h1, h2, h3, h4, o', upd_same, r⟩
    · rw [List.getElem?_set_ne c] at w
      obtain ⟨w1, w2, w3, w4, u, w5, w6⟩ := z.own j q e w
      refine ⟨w1, w2, w3, w4, u, ?_, w6⟩
      rw [upd_ne (fun t => c (by rw [t] at w; exact z.dis i j p d e h w))]
      exact w5
  · have un : ∀ {j : Nat} {e : D}, (env.set i (some (.own p d')))[j]? = some (some (.own q e)) → ∃ e', env[j]? = some (some (.own q e')) := fun {j e} w => by
      by_cases c : i = j
      · subst c
        rw [List.getElem?_set_self hi] at w
        cases w
        exact ⟨d, h⟩
      · rw [List.getElem?_set_ne c] at w
        exact ⟨e, w⟩
    obtain ⟨e1, w1⟩ := un w
    obtain ⟨e2, w2⟩ := un w'
    exact z.dis j k q _ _ w1 w2
/-- own lists lent: read, then back -/
def ownA : EnvS → List Addr
  | [] => []
  | some (.own p (.lst _)) :: r => p :: ownA r
  | _ :: r => ownA r
theorem ownA_mem : ∀ {env : EnvS} {p : Addr}, p ∈ ownA env → ∃ (i : Nat) (ds : List D), env[i]? = some (some (Slot.own p (.lst ds)))
  | [], p, h => by simp [ownA] at h
  | x :: r, p, h => by
    unfold ownA at h
    split at h
    · rename_i h0; cases h0
    · rename_i q ds r' e
      cases e
      rcases List.mem_cons.mp h with z | z
      · subst z
        exact ⟨0, ds, rfl⟩
      · obtain ⟨i, es, q⟩ := ownA_mem z
        exact ⟨i + 1, es, by simpa using q⟩
    · rename_i x' r' _ e
      cases e
      obtain ⟨i, es, q⟩ := ownA_mem h
      exact ⟨i + 1, es, by simpa using q⟩
theorem mem_ownA : ∀ {env : EnvS} {i : Nat} {p : Addr} {ds : List D}, env[i]? = some (some (.own p (.lst ds))) → p ∈ ownA env
  | [], i, p, ds, h => by simp at h
  | x :: r, 0, p, ds, h => by
    have h : some x = some (some (.own p (.lst ds))) := h
    cases h
    simp [ownA]
  | x :: r, i + 1, p, ds, h => by
    have q := mem_ownA (env := r) (i := i) (p := p) (ds := ds) (by simpa using h)
    unfold ownA
    split
    · rename_i h0; cases h0
    · rename_i e; cases e; exact List.mem_cons_of_mem _ q
    · rename_i e; cases e; exact q
def gLend (G H : Hp) (env : EnvS) : Hp := fun a => match G a with
  | some o => some o
  | none => if a ∈ ownA env then H a else none
theorem lendE_get {i : Nat} {d : D} (h : (lendE env)[i]? = some (some d)) : env[i]? = some (some (.sh d)) ∨ ∃ (p : Addr) (ds : List D), d = .lst ds ∧ env[i]? = some (some (Slot.own p (.lst ds))) := by
  unfold lendE at h
  rw [List.getElem?_map] at h
  cases q : env[i]? with
  | none => rw [q] at h; cases h
  | some o =>
    rw [q] at h
    have h : lendS o = some d := Option.some.inj h
    unfold lendS at h
    split at h
    · cases h; exact .inl rfl
    · cases h; exact .inr ⟨_, _, rfl, rfl⟩
    · cases h
theorem gLend_of {a : Addr} {o : HO} (h : gLend G H env a = some o) : G a = some o ∨ (a ∈ ownA env ∧ H a = some o) := by
  unfold gLend at h
  split at h
  · rename_i e; cases h; exact .inl e
  · split at h
    · rename_i c; exact .inr ⟨c, h⟩
    · cases h
theorem gLend_ge : Same G (gLend G H env) := fun a o h => by
  unfold gLend
  rw [h]
theorem ER.lend (z : ER C B G0 H G env σ) : Ok3 C H (gLend G H env) ∧ VR C.K (gLend G H env) (lendE env) σ := by
  refine ⟨⟨z.z.ok.iv, fun a o h => ?_, fun a o h => ?_⟩, by unfold lendE; rw [List.length_map]; exact z.len, fun i d h => ?_⟩
  · rcases gLend_of h with h | ⟨hm, h⟩
    · exact z.z.ok.sub a o h
    · obtain ⟨i, ds, q⟩ := ownA_mem hm
      exact ⟨(z.own i a _ q).2.1, h⟩
  · rcases gLend_of h with h | ⟨hm, h⟩
    · exact z.z.ok.nt a o h
    · obtain ⟨i, ds, q⟩ := ownA_mem hm
      obtain ⟨_, _, _, _, u, h5, h6⟩ := z.own i a _ q
      rw [h5] at h
      cases h
      exact h6.nt
  · rcases lendE_get h with h | ⟨p, ds, rfl, h'⟩
    · obtain ⟨v, h1, h2⟩ := z.sh i d h
      exact ⟨v, h1, h2.mono gLend_ge⟩
    · have h : env[i]? = some (some (Slot.own p (.lst ds))) := h'
      obtain ⟨h1, h2, h3, h4, o, h5, h6⟩ := z.own i p _ h
      refine ⟨_, h1, ?_⟩
      cases h6 with
      | lst r =>
        refine .lst ?_ (r.mono gLend_ge)
        unfold gLend
        rw [h4]
        dsimp only
        rw [if_pos (mem_ownA h)]
        exact h5
/-- behind what was lent: G again -/
theorem ER.back (z : ER C B G0 H G env σ) (s : Stp C H (gLend G H env) H' G') (ok : Ok3 C H' G') : ER C B G0 H' G env σ :=
  z.step ⟨s.nx, Same.refl _, fun a o h h' => by rw [h] at h'; cases h'⟩ ⟨ok.iv, fun a o h => ok.sub a o (s.ge a o (gLend_ge a o h)), fun a o h => ok.nt a o (s.ge a o (gLend_ge a o h))⟩
/-- or all is frozen -/
theorem ER.back0 (z : ER C B G0 H G env σ) (s : Stp C H (gLend G H env) H' G') (ok : Ok3 C H' G') : ER0 C B G0 H' G' := by
  have z1 : ER0 C B G0 H (gLend G H env) := ⟨z.lend.1, z.z.g0.trans gLend_ge, fun a o h h' => by
    rcases gLend_of h' with q | ⟨hm, q⟩
    · exact z.z.fr a o h q
    · obtain ⟨i, ds, q⟩ := ownA_mem hm
      exact .inl (z.own i a _ q).2.2.1, z.z.keep⟩
  exact z1.step s ok
def frzE (env : EnvS) : EnvS := (lendE env).map fun o => o.map Slot.sh
theorem ER.frozen (z : ER C B G0 H G env σ) (s : Stp C H (gLend G H env) H' G') (ok : Ok3 C H' G') : ER C B G0 H' G' (frzE env) σ := by
  have vr := z.lend.2
  have nos : ∀ (i : Nat) (p : Addr) (d : D), (frzE env)[i]? ≠ some (some (.own p d)) := fun i p d h => by
    unfold frzE at h
    rw [List.getElem?_map] at h
    cases q : (lendE env)[i]? with
    | none => rw [q] at h; cases h
    | some o =>
      rw [q] at h
      cases o <;> cases h
  refine ⟨z.back0 s ok, by unfold frzE; rw [List.length_map]; exact vr.len, fun i d h => ?_, fun i p d h => absurd h (nos i p d), fun i j p d e h _ => absurd h (nos i p d)⟩
  unfold frzE at h
  rw [List.getElem?_map] at h
  cases q : (lendE env)[i]? with
  | none => rw [q] at h; cases h
  | some o =>
    rw [q] at h
    cases o with
    | none => cases h
    | some e =>
      have h : some (some (Slot.sh e)) = some (some (Slot.sh d)) := h
      cases h
      obtain ⟨v, h1, h2⟩ := vr.get i _ q
      exact ⟨v, h1, h2.mono s.ge⟩
end

/-! ### statements -/
structure KS where
  nx : EnvS → Prop
  rt : D → Prop
  bk : EnvS → Prop := fun _ => False
  ct : EnvS → Prop := fun _ => False
  ex : Exn → Prop := fun _ => False
abbrev MSt := EnvS → KS → Prop
def RetOk (C : C3) (fr : Bool) (B H G : Hp) (d : D) (v : V) : Prop := match fr with
  | false => Rp C.K G d v
  | true => ∃ p o, v = .ref p ∧ B p = none ∧ G p = none ∧ H p = some o ∧ C.sp p = false ∧ ObjD C.K G d o
structure Fin (C : C3) (mg : Str → Option Value) (E : XK) (fr : Bool) (B G0 : Hp) (Ks : KS) (En : Ends) : Prop where
  nx : ∀ env σ H G, ER C B G0 H G env σ → Ks.nx env → En.nx σ H
  bk : ∀ env σ H G, ER C B G0 H G env σ → Ks.bk env → En.bk σ H
  ct : ∀ env σ H G, ER C B G0 H G env σ → Ks.ct env → En.ct σ H
  rt : ∀ d v H G, ER0 C B G0 H G → RetOk C fr B H G d v → Ks.rt d → En.rt v H
  ex : ∀ x cls d H, Ks.ex x → (∀ a o, C.sp a = false → B a = some o → nT H a = some o) → (∀ a o, G0 a = some o → H a = some o) → Iv C H → XRep mg x cls d H G0 → E cls d H
def liftS (C : C3) (mg : Str → Option Value) (E : XK) (fr : Bool) (B G0 : Hp) (m : MSt) : TS := fun En σ H => ∃ env G Ks, ER C B G0 H G env σ ∧ m env Ks ∧ Fin C mg E fr B G0 Ks En
abbrev MS (X : Cx) (C : C3) (E : XK) (fr : Bool) (B : Hp) (st : Stmt) (m : MSt) : Prop := ∀ G0, PS X st (liftS C X.mg E fr B G0 m)
abbrev MSs (X : Cx) (C : C3) (E : XK) (fr : Bool) (B : Hp) (st : List Stmt) (m : MSt) : Prop := ∀ G0, PSs X st (liftS C X.mg E fr B G0 m)
theorem PS.imp {X : Cx} {st : Stmt} {t t' : TS} (h : PS X st t) (q : ∀ En σ H, t' En σ H → t En σ H) : PS X st t' := ⟨fun pins s σ H En I w => h.run pins s σ H En I (q En σ H w)⟩
theorem PSs.imp {X : Cx} {st : List Stmt} {t t' : TS} (h : PSs X st t) (q : ∀ En σ H, t' En σ H → t En σ H) : PSs X st t' := ⟨fun pins s σ H En I w => h.run pins s σ H En I (q En σ H w)⟩
theorem Fin.px {C : C3} {mg : Str → Option Value} {E : XK} {fr : Bool} {B G0 H G G1 : Hp} {Ks : KS} {En : Ends} (f : Fin C mg E fr B G0 Ks En) (z : ER0 C B G0 H G) (e : Same G G1) : PostX C mg H G1 Ks.ex E := fun x cls d H' k s ok r =>
  f.ex x cls d H' k (fun a o sp h => s.nx a o sp (z.keep a o sp h)) (fun a o h => (ok.sub a o (e _ _ (z.g0 a o h))).2) ok.iv (r.mono (z.g0.trans e))
section
variable {X : Cx} {C : C3} {E : XK} {fr : Bool} {B G0 : Hp} {st : Stmt} {rest : List Stmt} {e : Expr} {m : MEt} {ms ms' : MSt} {pos : Pos}
def mNext : MSt := fun env Ks => Ks.nx env
def mSeq (a b : MSt) : MSt := fun env Ks => a env { Ks with nx := fun env' => b env' Ks }
theorem mss_nil : MSs X C E fr B [] mNext := fun G0 => PSs.imp pss_nil fun En σ H ⟨env, G, Ks, er, hm, f⟩ => f.nx env σ H G er hm
theorem mss_cons (h1 : MS X C E fr B st ms) (h2 : MSs X C E fr B rest ms') : MSs X C E fr B (st :: rest) (mSeq ms ms') := fun G0 => PSs.imp (pss_cons (h1 G0) (h2 G0)) fun En σ H ⟨env, G, Ks, er, hm, f⟩ =>
  ⟨env, G, _, er, hm, ⟨fun env' σ' H' G' er' k => ⟨env', G', Ks, er', k, f⟩, f.bk, f.ct, f.rt, f.ex⟩⟩
theorem mss_one (h1 : MS X C E fr B st ms) : MSs X C E fr B [st] ms := fun G0 => pss_one (h1 G0)
theorem ms_pass : MS X C E fr B (.Pass pos) mNext := fun G0 => PS.imp ps_pass fun En σ H ⟨env, G, Ks, er, hm, f⟩ => f.nx env σ H G er hm
def mNever : MSt := fun _ _ => False
theorem ms_never : MS X C E fr B st mNever := fun G0 => PS.imp ps_never fun En σ H ⟨env, G, Ks, er, hm, f⟩ => hm
/-- x = e -/
def mSet (i : Nat) (m : MEt) : MSt := fun env Ks => m (viewE env) (fun d => Ks.nx (env.set i (some (.sh d)))) Ks.ex
theorem set_lift {i : Nat} {mg : Str → Option Value} {En : Ends} {σ : L2.St} {H : Hp} (h : liftS C mg E fr B G0 (mSet i m) En σ H) : tAsg (lift C mg E m) (gName i) En σ H := by
  obtain ⟨env, G, Ks, er, hm, f⟩ := h
  exact ⟨viewE env, G, _, Ks.ex, er.z.ok, er.vr, hm, fun d v H1 G1 s1 ok1 r1 k1 => f.nx _ _ H1 G1 ((er.step s1 ok1).set_sh r1) k1, f.px er.z (Same.refl _)⟩
theorem ms_set {i : Nat} {x : Str} {pos' : Pos} (hN : X.N.Nodup) (hi : X.N[i]? = some x) (hx : Loc X.env.scope x) (he : ME X C E e m) (hs : swapsWith e (some (.Name x pos')) pos.line X.env = pure false := by rfl) (hf : X.fn x = true ∨ X.env.scope.names.lookup x = some .local := by first | exact .inl rfl | exact .inr rfl | assumption) :
    MS X C E fr B (.Assign [.Name x pos'] e pos) (mSet i m) := fun G0 => PS.imp (ps_set hN hi hx he hs hf) fun En σ H h => set_lift h
/-- .. of a new list: the name's own -/
def mSetF (i : Nat) (m : MEt) : MSt := fun env Ks => m (viewE env) (fun d => ∀ p, Ks.nx (env.set i (some (.own p d)))) Ks.ex
theorem ER.fresh_own {H G H1 G1 : Hp} {env : EnvS} {σ : L2.St} (er : ER C B G0 H G env σ) (s1 : Stp C H G H1 G1) (ok1 : Ok3 C H1 G1) {i : Nat} {p : Addr} {o : HO} {d : D} (hp : nT H p = none) (gp : G1 p = none) (ho : H1 p = some o) (sp : C.sp p = false) (ob : ObjO C.K G1 d o) : ER C B G0 H1 G1 (env.set i (some (.own p d))) (σ.set i (some (.ref p))) := by
  refine (er.step s1 ok1).set_own sp ?_ gp ho ob fun j e c q => ?_
  · cases q : B p with
    | none => rfl
    | some u =>
      rw [er.z.keep p u sp q] at hp
      cases hp
  · obtain ⟨_, _, _, _, u, h5, h6⟩ := er.own j p e q
    rw [nT_of h5 h6.nt] at hp
    cases hp
theorem setF_lift {i : Nat} {mg : Str → Option Value} {En : Ends} {σ : L2.St} {H : Hp} (h : liftS C mg E fr B G0 (mSetF i m) En σ H) : tAsg (liftF C mg E m) (gName i) En σ H := by
  obtain ⟨env, G, Ks, er, hm, f⟩ := h
  exact ⟨viewE env, G, _, Ks.ex, er.z.ok, er.vr, hm, fun d p o H1 G1 s1 ok1 hp gp ho sp ob k1 => f.nx _ _ H1 G1 (er.fresh_own s1 ok1 hp gp ho sp ob.obj) (k1 p), f.px er.z (Same.refl _)⟩
theorem ms_setF {i : Nat} {x : Str} {pos' : Pos} (hN : X.N.Nodup) (hi : X.N[i]? = some x) (hx : Loc X.env.scope x) (he : MF X C E e m) (hs : swapsWith e (some (.Name x pos')) pos.line X.env = pure false := by rfl) (hf : X.fn x = true ∨ X.env.scope.names.lookup x = some .local := by first | exact .inl rfl | exact .inr rfl | assumption) :
    MS X C E fr B (.Assign [.Name x pos'] e pos) (mSetF i m) := fun G0 => PS.imp (ps_set hN hi hx he hs hf) fun En σ H h => setF_lift h
/-- own lists lent, the value flat -/
def mSetL (i : Nat) (m : MEt) : MSt := fun env Ks => m (lendE env) (fun d => flatD d = true ∧ Ks.nx (env.set i (some (.sh d)))) Ks.ex
theorem Rp.anyG {K : PySem.W.Frag} {G G' : Hp} {d : D} {v : V} (r : Rp K G d v) (f : flatD d = true) : Rp K G' d v := by
  cases r <;> first | exact absurd f Bool.false_ne_true | constructor
theorem ms_setL {i : Nat} {x : Str} {pos' : Pos} (hN : X.N.Nodup) (hi : X.N[i]? = some x) (hx : Loc X.env.scope x) (he : ME X C E e m) (hs : swapsWith e (some (.Name x pos')) pos.line X.env = pure false := by rfl) (hf : X.fn x = true ∨ X.env.scope.names.lookup x = some .local := by first | exact .inl rfl | exact .inr rfl | assumption) :
    MS X C E fr B (.Assign [.Name x pos'] e pos) (mSetL i m) := fun G0 => PS.imp (ps_set hN hi hx he hs hf) fun En σ H ⟨env, G, Ks, er, hm, f⟩ =>
  ⟨lendE env, _, _, Ks.ex, er.lend.1, er.lend.2, hm, fun d v H1 G1 s1 ok1 r1 k1 => f.nx _ _ H1 G ((er.back s1 ok1).set_sh (r1.anyG k1.1)) k1.2, f.px er.z gLend_ge⟩
/-- own lists frozen -/
def mSetC (i : Nat) (m : MEt) : MSt := fun env Ks => m (lendE env) (fun d => Ks.nx ((frzE env).set i (some (.sh d)))) Ks.ex
theorem ms_setC {i : Nat} {x : Str} {pos' : Pos} (hN : X.N.Nodup) (hi : X.N[i]? = some x) (hx : Loc X.env.scope x) (he : ME X C E e m) (hs : swapsWith e (some (.Name x pos')) pos.line X.env = pure false := by rfl) (hf : X.fn x = true ∨ X.env.scope.names.lookup x = some .local := by first | exact .inl rfl | exact .inr rfl | assumption) :
    MS X C E fr B (.Assign [.Name x pos'] e pos) (mSetC i m) := fun G0 => PS.imp (ps_set hN hi hx he hs hf) fun En σ H ⟨env, G, Ks, er, hm, f⟩ =>
  ⟨lendE env, _, _, Ks.ex, er.lend.1, er.lend.2, hm, fun d v H1 G1 s1 ok1 r1 k1 => f.nx _ _ H1 G1 ((er.frozen s1 ok1).set_sh r1) k1, f.px er.z gLend_ge⟩
/-- x = [.. for ..] on one line -/
theorem ms_setLc {i : Nat} {y : Str} {py : Pos} {elt tg iter : Expr} {ifs : List Expr} {scope : Scope} {own : List (Str × Nat)} {pos spos : Pos} {t : Tgt} {mi : MIt} {tt : MTt} {te : MEt} (hK : X.K = C.K) (hc : X.calm = true) (hN : X.N.Nodup) (hy : X.N[i]? = some y) (hyl : X.env.scope.names.lookup y = some .local)
    (hsw : swapsWith (.ListComp elt [⟨tg, iter, ifs, 0⟩] scope pos) (some (.Name y py)) spos.line X.env = pure true) (hi : MI X C E tg iter mi) (ok : BlkOk X.N X.env.scope scope own) (hts : ∀ i ∈ t.slots, i ∈ own.map (·.2))
    (hg : ∀ (s : Shared) (H : Hp) (A : Addr) (cl : List (Str × Addr)) (fp : List Addr), PG (X.blk s H scope (compEnvC scope cl A X.env) fp) tg (gOf X.K t)) (ht : ∀ (s : Shared) (H : Hp) (A : Addr) (cl : List (Str × Addr)) (fp : List Addr), MTs (X.blk s H scope (compEnvC scope cl A X.env) fp) C E0 ifs tt)
    (he : ∀ (s : Shared) (H : Hp) (A : Addr) (cl : List (Str × Addr)) (fp : List Addr), ME (X.blk s H scope (compEnvC scope cl A X.env) fp) C E0 elt te) (hs : ∀ x, foldedSetIterable iter X.env x = pure x := by intro _; rfl) :
    MS X C E fr B (.Assign [.Name y py] (.ListComp elt [⟨tg, iter, ifs, 0⟩] scope pos) spos) (mSetF i (mLc t (own.map (·.2)) mi tt te)) := fun G0 =>
  PS.imp (ps_setLc hc hN hy hyl hsw hi ok hg ht he hs) fun En σ H h => by
    have q := setF_lift h
    exact lc_lift hK hts q
end
end L3
/-! L3h: further statements, calls of own defs, a def's promise -/
namespace L3
open PySem PySem.Spec PyProof.Rows L2
section
variable {X : Cx} {C : C3} {E : XK} {fr : Bool} {B : Hp} {st : Stmt} {a b : List Stmt} {e c o i : Expr} {es : List Expr} {m mi mv : MEt} {ms ms' : MSt} {tt : MTt} {pos p pos' apos : Pos}
theorem ER0.bfree {G0 H G : Hp} (z : ER0 C B G0 H G) {q : Addr} (sp : C.sp q = false) (hp : nT H q = none) : B q = none := by
  cases r : B q with
  | none => rfl
  | some u =>
    rw [z.keep q u sp r] at hp
    cases hp
/-! return -/
def mRet (m : MEt) : MSt := fun env Ks => m (lendE env) Ks.rt Ks.ex
theorem ms_ret (he : ME X C E e m) : MS X C E false B (.Return (some e) pos) (mRet m) := fun G0 => PS.imp (ps_ret he) fun En σ H ⟨env, G, Ks, er, hm, f⟩ =>
  ⟨lendE env, _, _, Ks.ex, er.lend.1, er.lend.2, hm, fun d v H1 G1 s1 ok1 r1 k1 => f.rt d v H1 G1 (er.back0 s1 ok1) r1 k1, f.px er.z gLend_ge⟩
theorem ms_retF (he : MF X C E e m) : MS X C E true B (.Return (some e) pos) (mRet m) := fun G0 => PS.imp (ps_ret he) fun En σ H ⟨env, G, Ks, er, hm, f⟩ =>
  ⟨lendE env, _, _, Ks.ex, er.lend.1, er.lend.2, hm, fun d q o H1 G1 s1 ok1 hp gp ho sp ob k1 => f.rt d _ H1 G1 (er.back0 s1 ok1) ⟨q, o, rfl, er.z.bfree sp hp, gp, ho, sp, ob⟩ k1, f.px er.z gLend_ge⟩
def ownL (env : EnvS) (j : Nat) (K : Addr → List D → Prop) : Prop := match env[j]? with
  | some (some (.own p (.lst ds))) => K p ds
  | _ => False
theorem ownL_inv {env : EnvS} {j : Nat} {K : Addr → List D → Prop} (h : ownL env j K) : ∃ (p : Addr) (ds : List D), env[j]? = some (some (Slot.own p (.lst ds))) ∧ K p ds := by
  unfold ownL at h
  split at h
  · rename_i p ds q
    exact ⟨p, ds, q, h⟩
  · exact h.elim
def ownK (env : EnvS) (j : Nat) (K : Addr → List (Int × D) → Prop) : Prop := match env[j]? with
  | some (some (.own p (.dic ds))) => K p ds
  | _ => False
theorem ownK_inv {env : EnvS} {j : Nat} {K : Addr → List (Int × D) → Prop} (h : ownK env j K) : ∃ (p : Addr) (ds : List (Int × D)), env[j]? = some (some (Slot.own p (.dic ds))) ∧ K p ds := by
  unfold ownK at h
  split at h
  · rename_i p ds q
    exact ⟨p, ds, q, h⟩
  · exact h.elim
/-- return x, x the name of a list of its own -/
def mRetO (j : Nat) : MSt := fun env Ks => ownL env j fun _ ds => Ks.rt (.lst ds)
theorem ms_retO (j : Nat) {x : Str} (hN : X.N[j]? = some x := by rfl) (hv : Vis X.env.scope x := by first | exact Or.inl rfl | exact Or.inr (Or.inl rfl) | exact Or.inr (Or.inr rfl)) (hd : (x == ("__debug__" : Str)) = false := by decide) (hcd : (x == ("__classdict__" : Str)) = false := by decide) :
    MS X C E true B (.Return (some (.Name x p)) pos) (mRetO j) := fun G0 => PS.imp (ps_ret (pe_var hN hv hd hcd)) fun En σ H ⟨env, G, Ks, er, hm, f⟩ => by
  obtain ⟨q, ds, h, k⟩ := ownL_inv hm
  obtain ⟨h1, h2, h3, h4, o, h5, h6⟩ := er.own j q _ h
  refine ⟨_, h1, f.rt _ _ H G er.z ⟨q, o, rfl, h3, h4, h5, h2, ?_⟩ k⟩
  cases h6 with
  | lst r => exact .lst r
/-! if, while, for -/
def mIfS (t : MTt) (a b : MSt) : MSt := fun env Ks => t (lendE env) (fun k => if k = true then a env Ks else b env Ks) Ks.ex
theorem ms_if (hc : MT X C E c tt) (ha : MSs X C E fr B a ms) (hb : MSs X C E fr B b ms') : MS X C E fr B (.If c a b pos) (mIfS tt ms ms') := fun G0 => PS.imp (ps_if hc (ha G0) (hb G0)) fun En σ H ⟨env, G, Ks, er, hm, f⟩ =>
  ⟨lendE env, _, _, Ks.ex, er.lend.1, er.lend.2, hm, fun k H1 G1 s1 ok1 k1 => by
    cases k with
    | true => exact ⟨env, G, Ks, er.back s1 ok1, k1, f⟩
    | false => exact ⟨env, G, Ks, er.back s1 ok1, k1, f⟩, f.px er.z gLend_ge⟩
def whileD (t : MTt) (b : MSt) (Ks : KS) : Nat → EnvS → Prop
  | 0, _ => False
  | n + 1, env => t (lendE env) (fun k => if k = true then b env { Ks with nx := whileD t b Ks n, ct := whileD t b Ks n, bk := Ks.nx } else Ks.nx env) Ks.ex
def mWhile (t : MTt) (b : MSt) : MSt := fun env Ks => ∃ n, whileD t b Ks n env
theorem ms_while (hp : PassesOwn (model X.prog X.w) X.A X.env X.xe) (hc : MT X C E c tt) (hb : MSs X C E fr B a ms) : MS X C E fr B (.While c a [] pos) (mWhile tt ms) := fun G0 => PS.imp (ps_while hp hc (hb G0)) fun En σ H ⟨env, G, Ks, er, hm, f⟩ => by
  obtain ⟨n, hm⟩ := hm
  refine ⟨fun n σ H => ∃ env G, ER C B G0 H G env σ ∧ whileD tt ms Ks n env, ⟨n, env, G, er, hm⟩, ?_⟩
  rintro n σ H ⟨env, G, er, hm⟩
  cases n with
  | zero => exact hm.elim
  | succ n =>
    refine ⟨lendE env, _, _, Ks.ex, er.lend.1, er.lend.2, hm, fun k H1 G1 s1 ok1 k1 => ?_, f.px er.z gLend_ge⟩
    cases k with
    | true =>
      refine iteT ⟨fun σ' H' => ∃ env G, ER C B G0 H' G env σ' ∧ whileD tt ms Ks n env, fun σ' H' h => ⟨n, Nat.lt_succ_self n, h⟩, env, G, _, er.back s1 ok1, k1, ?_⟩
      exact ⟨fun env σ H G er k => ⟨env, G, er, k⟩, fun env σ H G er k => f.nx env σ H G er k, fun env σ H G er k => ⟨env, G, er, k⟩, f.rt, f.ex⟩
    | false => exact iteF (f.nx env σ H1 G (er.back s1 ok1) k1)
def setS (env : EnvS) : List (Nat × D) → EnvS
  | [] => env
  | p :: r => setS (env.set p.1 (some (.sh p.2))) r
theorem ER.setAll {G0 H G : Hp} : ∀ {l : List (Nat × D)} {ws : List (Nat × V)} {env : EnvS} {σ : L2.St}, Paired (fun (p : Nat × D) (w : Nat × V) => p.1 = w.1 ∧ Rp C.K G p.2 w.2) l ws → ER C B G0 H G env σ → ER C B G0 H G (setS env l) (setV σ ws) := by
  intro l
  induction l with
  | nil => intro ws env σ q h; cases q; exact h
  | cons p l ih =>
    intro ws env σ q h
    cases q with
    | cons q1 q2 =>
      rename_i w ws'
      obtain ⟨e, r⟩ := q1
      have z := ih q2 (h.set_sh (i := p.1) r)
      show ER C B G0 H G (setS (env.set p.1 (some (.sh p.2))) l) (setV (σ.set w.1 (some w.2)) ws')
      rw [← e]
      exact z
def forD (t : Tgt) (b : MSt) (Ks : KS) : List D → EnvS → Prop
  | [], env => Ks.nx env
  | d :: ds, env => ∃ l, bindT t d = some l ∧ b (setS env l) { Ks with nx := forD t b Ks ds, ct := forD t b Ks ds, bk := Ks.nx }
def mFor (t : Tgt) (mi : MIt) (b : MSt) : MSt := fun env Ks => mi (viewE env) (fun ds => forD t b Ks ds env) Ks.ex
theorem ER.down {G0 Gi H Hi G : Hp} {env : EnvS} {σ : L2.St} (z : ER0 C B G0 Hi Gi) (er : ER C B Gi H G env σ) : ER C B G0 H G env σ :=
  ⟨⟨er.z.ok, z.g0.trans er.z.g0, fun a o h h' => by
    cases q : Gi a with
    | some u =>
      rw [er.z.g0 a u q] at h'
      cases h'
      exact z.fr a _ h q
    | none => exact er.z.fr a o q h', er.z.keep⟩, er.len, er.sh, er.own, er.dis⟩
theorem ER0.down {G0 Gi H Hi G : Hp} (z : ER0 C B G0 Hi Gi) (er : ER0 C B Gi H G) : ER0 C B G0 H G :=
  ⟨er.ok, z.g0.trans er.g0, fun a o h h' => by
    cases q : Gi a with
    | some u =>
      rw [er.g0 a u q] at h'
      cases h'
      exact z.fr a _ h q
    | none => exact er.fr a o q h', er.keep⟩
theorem Fin.up {mg : Str → Option Value} {G0 Gi Hi : Hp} {Ks : KS} {En : Ends} (z : ER0 C B G0 Hi Gi) (f : Fin C mg E fr B G0 Ks En) : Fin C mg E fr B Gi Ks En :=
  ⟨fun env σ H G er k => f.nx env σ H G (er.down z) k, fun env σ H G er k => f.bk env σ H G (er.down z) k, fun env σ H G er k => f.ct env σ H G (er.down z) k,
    fun d v H G er r k => f.rt d v H G (z.down er) r k, fun x cls d H k h1 h2 iv r => f.ex x cls d H k h1 (fun a o q => h2 a o (z.g0 a o q)) iv (r.mono z.g0)⟩
theorem ms_for {tg iter : Expr} {t : Tgt} {mi : MIt} (hp : PassesOwn (model X.prog X.w) X.A X.env X.xe) (hc : X.calm = true) (hK : X.K = C.K) (hi : MI X C E tg iter mi) (hg : PG X tg (gOf X.K t)) (hb : MSs X C E fr B a ms)
    (hs : ∀ x, foldedSetIterable iter X.env x = pure x := by intro _; rfl) : MS X C E fr B (.For tg iter a [] pos) (mFor t mi ms) := fun G0 => by
  -- the body's wishes are told of the frozen heap at the loop's start: any will do
  refine ⟨fun pins s σ H En I h => ?_⟩
  obtain ⟨env, G, Ks, er, hm, f⟩ := h
  have hall : ∀ Gi, PS X (.For tg iter a [] pos) (tFor (liftI C X.mg E mi) (gOf X.K t) (liftS C X.mg E fr B Gi ms)) := fun Gi => ps_for hp hc hi hg (hb Gi) hs
  refine PS.run (t := fun En σ H => (liftI C X.mg E mi) σ H fun J H1 => ∃ Gi : Hp, ∃ W : Nat → Nat → L2.St → Hp → Prop, (∃ m, W 0 m σ H1) ∧ ∀ i m σ H, W i m σ H →
    (J.stop i H ∧ En.nx σ H) ∨ (J.go i H ∧ ∃ N : L2.St → Hp → Prop, (∀ σ' H', N σ' H' → ∃ m', m' < m ∧ W (i + 1) m' σ' H') ∧ ∀ x H', J.yld i H x H' → gOf X.K t x σ H' fun σ2 H2 => liftS C X.mg E fr B Gi ms { En with nx := N, ct := N, bk := En.nx } σ2 H2)) ?_ pins s σ H En I ?_
  · -- the loop with the frozen heap chosen behind the iterator's making
    have hb' : PSs X a (fun En σ H => ∃ Gi, liftS C X.mg E fr B Gi ms En σ H) := ⟨fun pins s σ H En I ⟨Gi, h⟩ => (hb Gi).run pins s σ H En I h⟩
    refine PS.imp (ps_for hp hc hi hg hb' hs) fun En σ H h => ?_
    obtain ⟨env, G, Kl, KX, ok, vr, hm, k, px⟩ := h
    refine ⟨env, G, Kl, KX, ok, vr, hm, fun ds J H' G' s1 ok1 it kl => ?_, px⟩
    obtain ⟨Gi, W, w0, turn⟩ := k ds J H' G' s1 ok1 it kl
    refine ⟨W, w0, fun i m σ H w => ?_⟩
    rcases turn i m σ H w with q | ⟨go, N, hN, y⟩
    · exact .inl q
    · refine .inr ⟨go, N, hN, fun x H' yy => ?_⟩
      have gmono : ∀ {t : Tgt} {v : V} {σ : L2.St} {H : Hp} {Q Q' : L2.St → Hp → Prop}, (∀ σ' H', Q σ' H' → Q' σ' H') → gOf X.K t v σ H Q → gOf X.K t v σ H Q' := by
        intro t v σ H Q Q' hq
        cases t with
        | nm i => exact fun h => hq _ _ h
        | tp is =>
          have gn : ∀ (is : List Nat) (vs : List V) (σ : L2.St), gNames is vs σ H Q → gNames is vs σ H Q' := by
            intro is
            induction is with
            | nil => exact fun vs σ h => ⟨h.1, hq _ _ h.2⟩
            | cons i is ih => exact fun vs σ ⟨v, r, e, h⟩ => ⟨v, r, e, ih r _ h⟩
          exact fun ⟨a, xs, e1, e2, e3, h⟩ => ⟨a, xs, e1, e2, e3, gn is xs σ h⟩
      exact gmono (fun σ' H' h => ⟨Gi, h⟩) (y x H' yy)
  · refine ⟨viewE env, G, _, Ks.ex, er.z.ok, er.vr, hm, fun ds J H1 G1 s1 ok1 it k1 => ?_, f.px er.z (Same.refl _)⟩
    have z1 := er.z.step s1 ok1
    have er1 : ER C B G1 H1 G1 env σ := ⟨⟨ok1, Same.refl _, fun a o h h' => absurd (h.symm.trans h') (fun z => nomatch z), z1.keep⟩, (er.step s1 ok1).len, (er.step s1 ok1).sh, (er.step s1 ok1).own, (er.step s1 ok1).dis⟩
    have f1 := f.up z1
    refine ⟨G1, fun i m σ H => m = ds.length - i ∧ i ≤ ds.length ∧ ∃ env G, ER C B G1 H G env σ ∧ forD t ms Ks (ds.drop i) env, ⟨ds.length, by simp, Nat.zero_le _, env, G1, er1, by simpa using k1⟩, ?_⟩
    rintro i m σ2 H2 ⟨rfl, hi, env2, G2, er2, k2⟩
    by_cases hlt : i < ds.length
    · have hd : ds[i]? = some ds[i] := List.getElem?_eq_getElem hlt
      obtain ⟨hgo, hy⟩ := it.go i ds[i] H2 G2 hd er2.z.g0 er2.z.ok
      rw [List.drop_eq_getElem_cons hlt] at k2
      obtain ⟨l, hb2, k2⟩ := k2
      refine .inr ⟨hgo, fun σ' H' => i + 1 ≤ ds.length ∧ ∃ env G, ER C B G1 H' G env σ' ∧ forD t ms Ks (ds.drop (i + 1)) env, fun σ' H' hn => ⟨ds.length - (i + 1), by omega, rfl, hn⟩, fun x H3 yy => ?_⟩
      obtain ⟨G3, s3, ok3, r3⟩ := hy x H3 yy
      have er3 := er2.step s3 ok3
      refine gOf_ok (fun a o q => (ok3.sub a o q).2) (by rw [hK]; exact r3) hb2 fun ws pw _ => ⟨_, G3, _, ER.setAll (by rw [← hK]; exact pw) er3, k2, ?_⟩
      exact ⟨fun env σ H G er k => ⟨hlt, env, G, er, k⟩, fun env σ H G er k => f1.nx env σ H G er k, fun env σ H G er k => ⟨hlt, env, G, er, k⟩, f1.rt, f1.ex⟩
    · have e : i = ds.length := by omega
      subst e
      rw [List.drop_length] at k2
      exact .inl ⟨it.stop _ H2 G2 (Nat.le_refl _) er2.z.g0 er2.z.ok, f1.nx env2 σ2 H2 G2 er2 k2⟩
/-! an expression whose value is dropped -/
def mExpr (m : MEt) : MSt := fun env Ks => m (lendE env) (fun _ => Ks.nx env) Ks.ex
theorem ms_expr (he : ME X C E e m) (hs : swapsWith e none pos.line X.env = pure false := by rfl) : MS X C E fr B (.Expr e pos) (mExpr m) := fun G0 => PS.imp (ps_expr he hs) fun En σ H ⟨env, G, Ks, er, hm, f⟩ =>
  ⟨lendE env, _, _, Ks.ex, er.lend.1, er.lend.2, hm, fun d v H1 G1 s1 ok1 r1 k1 => f.nx env σ H1 G (er.back s1 ok1) k1, f.px er.z gLend_ge⟩
theorem ms_doc {x j} : MS X C E fr B (.Expr (.Constant (.str x) j pos) pos') mNext := fun G0 => PS.imp ps_doc fun En σ H ⟨env, G, Ks, er, hm, f⟩ => f.nx env σ H G er hm
/-! names in a row = a tuple -/
def mSetT (t : Tgt) (m : MEt) : MSt := fun env Ks => m (viewE env) (fun d => ∃ l, bindT t d = some l ∧ Ks.nx (setS env l)) Ks.ex
theorem ms_setT {tg : Expr} {t : Tgt} (hK : X.K = C.K) (he : ME X C E e m) (hg : PG X tg (gOf X.K t)) (hs : swapsWithSole [tg] e pos.line X.env = pure false := by rfl) (hw : swappedStores [tg] e X.env = pure none := by rfl)
    (h1 : (assignEach [tg] X.env).map (·.2) = [assign tg X.env] := by rfl) : MS X C E fr B (.Assign [tg] e pos) (mSetT t m) := fun G0 => PS.imp (ps_asg he hg hs hw h1) fun En σ H ⟨env, G, Ks, er, hm, f⟩ =>
  ⟨viewE env, G, _, Ks.ex, er.z.ok, er.vr, hm, fun d v H1 G1 s1 ok1 r1 k1 => by
    obtain ⟨l, hb, k1⟩ := k1
    exact gOf_ok (fun a o q => (ok1.sub a o q).2) (by rw [hK]; exact r1) hb fun ws pw _ => f.nx _ _ H1 G1 (ER.setAll (by rw [← hK]; exact pw) (er.step s1 ok1)) k1, f.px er.z (Same.refl _)⟩
/-! x[i] = v, of a list of its own -/
def mSetIx (j : Nat) (mi mv : MEt) : MSt := fun env Ks => ownL env j fun p ds => mv (lendE env) (fun dv => flatD dv = true ∧ mi (lendE env) (fun di => match di with
  | .int k => (match ixN ds.length k with
    | some n => Ks.nx (env.set j (some (.own p (.lst (ds.set n dv)))))
    | none => False)
  | _ => False) Ks.ex) Ks.ex
theorem ms_setIx (j : Nat) {x : Str} {value : Expr} {xp sp : Pos} (hN : X.N[j]? = some x := by rfl) (hv : Vis X.env.scope x := by first | exact Or.inl rfl | exact Or.inr (Or.inl rfl) | exact Or.inr (Or.inr rfl)) (hd : (x == ("__debug__" : Str)) = false := by decide) (hcd : (x == ("__classdict__" : Str)) = false := by decide)
    (hi : ME X C E i mi) (he : ME X C E value mv)
    (ha : ∀ v, assign (.Subscript (.Name x xp) i sp) X.env v = (do
      let ov ← holding [v] (eval (.Name x xp) X.env)
      let iv ← holding [v, ov] (eval i X.env)
      standAt sp
      holding [v, ov, iv] (setItem ov iv v)
      release [v, ov, iv] []) := by intro _; rfl)
    (hs : swapsWithSole [.Subscript (.Name x xp) i sp] value pos.line X.env = pure false := by rfl) (hw : swappedStores [.Subscript (.Name x xp) i sp] value X.env = pure none := by rfl)
    (h1 : (assignEach [.Subscript (.Name x xp) i sp] X.env).map (·.2) = [assign (.Subscript (.Name x xp) i sp) X.env] := by rfl) :
    MS X C E fr B (.Assign [.Subscript (.Name x xp) i sp] value pos) (mSetIx j mi mv) := fun G0 => PS.imp (ps_asg he (pg_sub (pe_var hN hv hd hcd) hi set_list ha) hs hw h1) fun En σ H ⟨env, G, Ks, er, hm, f⟩ => by
  obtain ⟨q, ds, hq, hm⟩ := ownL_inv hm
  refine ⟨lendE env, _, _, Ks.ex, er.lend.1, er.lend.2, hm, fun dv v H1 G1 s1 ok1 r1 k1 => ?_, f.px er.z gLend_ge⟩
  obtain ⟨fl, k1⟩ := k1
  have er1 := er.back s1 ok1
  refine ⟨.ref q, (er1.own j q _ hq).1, lendE env, _, _, Ks.ex, er1.lend.1, er1.lend.2, k1, fun di iv H2 G2 s2 ok2 r2 k2 => ?_, f.px er1.z gLend_ge⟩
  have er2 := er1.back s2 ok2
  obtain ⟨_, _, _, _, ob2, h5, h6⟩ := er2.own j q _ hq
  obtain ⟨k, rfl, rfl⟩ : ∃ k, di = .int k ∧ iv = .int k := by cases r2 <;> first | exact k2.elim | exact ⟨_, rfl, rfl⟩
  dsimp only at k2
  cases h6 with
  | lst rl =>
    cases qn : ixN ds.length k with
    | none => rw [qn] at k2; exact k2.elim
    | some n =>
      rw [qn] at k2
      exact ⟨q, _, k, n, rfl, rfl, h5, by rw [← rl.length]; exact qn, f.nx _ _ _ G (er2.write hq (.lst (Rps.set (r1.anyG fl) n rl))) k2⟩
/-! d[k] = v, of a dict of its own -/
def mSetK (j : Nat) (mi mv : MEt) : MSt := fun env Ks => ownK env j fun p kvs => mv (lendE env) (fun dv => flatD dv = true ∧ mi (lendE env) (fun di => match di with
  | .int k => kvs.length < sizeLine ∧ Ks.nx (env.set j (some (.own p (.dic (putD kvs k dv)))))
  | _ => False) Ks.ex) Ks.ex
theorem ms_setK (j : Nat) {x : Str} {value : Expr} {xp sp : Pos} (hu : X.A.units + 1 < cLine) (hN : X.N[j]? = some x := by rfl) (hv : Vis X.env.scope x := by first | exact Or.inl rfl | exact Or.inr (Or.inl rfl) | exact Or.inr (Or.inr rfl)) (hd : (x == ("__debug__" : Str)) = false := by decide) (hcd : (x == ("__classdict__" : Str)) = false := by decide)
    (hi : ME X C E i mi) (he : ME X C E value mv) (hs : swapsWith value (some (.Subscript (.Name x xp) i sp)) pos.line X.env = pure false := by rfl) :
    MS X C E fr B (.Assign [.Subscript (.Name x xp) i sp] value pos) (mSetK j mi mv) := fun G0 => PS.imp (ps_dput hu (pe_var hN hv hd hcd) hi he hs) fun En σ H ⟨env, G, Ks, er, hm, f⟩ => by
  obtain ⟨q, kvs, hq, hm⟩ := ownK_inv hm
  refine ⟨lendE env, _, _, Ks.ex, er.lend.1, er.lend.2, hm, fun dv v H1 G1 s1 ok1 r1 k1 => ?_, f.px er.z gLend_ge⟩
  obtain ⟨fl, k1⟩ := k1
  have er1 := er.back s1 ok1
  refine ⟨.ref q, (er1.own j q _ hq).1, lendE env, _, _, Ks.ex, er1.lend.1, er1.lend.2, k1, fun di iv H2 G2 s2 ok2 r2 k2 => ?_, f.px er1.z gLend_ge⟩
  have er2 := er1.back s2 ok2
  obtain ⟨_, _, _, _, ob2, h5, h6⟩ := er2.own j q _ hq
  obtain ⟨k, rfl, rfl⟩ : ∃ k, di = .int k ∧ iv = .int k := by cases r2 <;> first | exact k2.elim | exact ⟨_, rfl, rfl⟩
  dsimp only at k2
  cases h6 with
  | dic rl => exact ⟨q, _, rfl, DPut.k (k := Sum.inl k) h5 (by rw [← rl.length]; exact k2.1), f.nx _ _ _ G (er2.write hq (.dic (RpK.put (r1.anyG fl) rl))) k2.2⟩
/-! x.append(e), extend, remove, clear, of a list of its own -/
def mAppend (j : Nat) (m : MEt) : MSt := fun env Ks => ownL env j fun p ds => m (viewE env) (fun d => ds.length < sizeLine ∧ Ks.nx (env.set j (some (.own p (.lst (ds ++ [d])))))) Ks.ex
theorem ms_append (j : Nat) {x : Str} {xp cp : Pos} (hN : X.N[j]? = some x := by rfl) (hv : Vis X.env.scope x := by first | exact Or.inl rfl | exact Or.inr (Or.inl rfl) | exact Or.inr (Or.inr rfl)) (hd : (x == ("__debug__" : Str)) = false := by decide) (hcd : (x == ("__classdict__" : Str)) = false := by decide)
    (h : PS X (.Expr (.Call (.Attribute (.Name x xp) "append" apos) [e] [] cp) pos) (tDrop (tBM X.K "list" rAppend (tVar j) (tCons (lift C X.mg E m) tNil)))) : MS X C E fr B (.Expr (.Call (.Attribute (.Name x xp) "append" apos) [e] [] cp) pos) (mAppend j m) := fun G0 => PS.imp h fun En σ H ⟨env, G, Ks, er, hm, f⟩ => by
  obtain ⟨q, ds, hq, hm⟩ := ownL_inv hm
  obtain ⟨h1, h2, h3, h4, ob, h5, h6⟩ := er.own j q _ hq
  cases h6 with
  | lst rl =>
    refine ⟨.ref q, h1, .inl ⟨rfl, _, .inl (.inl h5)⟩, viewE env, G, _, Ks.ex, er.z.ok, er.vr, hm, fun d v H1 G1 s1 ok1 r1 k1 => ?_, f.px er.z (Same.refl _)⟩
    have er1 := er.step s1 ok1
    refine ⟨q, _, v, rfl, rfl, s1.nh q _ h2 h5, by rw [← rl.length]; exact k1.1, f.nx _ _ _ G1 (er1.write hq (.lst ((rl.mono s1.ge).append (.cons r1 .nil)))) k1.2⟩
def mExtend (j : Nat) (m : MEt) : MSt := fun env Ks => ownL env j fun p ds => m (viewE env) (fun d => match d with
  | .lst es => ds.length + es.length ≤ sizeLine ∧ Ks.nx (env.set j (some (.own p (.lst (ds ++ es)))))
  | _ => False) Ks.ex
theorem ms_extend (j : Nat) {x : Str} {xp cp : Pos} (hN : X.N[j]? = some x := by rfl) (h : PS X (.Expr (.Call (.Attribute (.Name x xp) "extend" apos) [e] [] cp) pos) (tDrop (tBM X.K "list" rExtend (tVar j) (tCons (lift C X.mg E m) tNil)))) : MS X C E fr B (.Expr (.Call (.Attribute (.Name x xp) "extend" apos) [e] [] cp) pos) (mExtend j m) := fun G0 => PS.imp h fun En σ H ⟨env, G, Ks, er, hm, f⟩ => by
  obtain ⟨q, ds, hq, hm⟩ := ownL_inv hm
  obtain ⟨h1, h2, h3, h4, ob, h5, h6⟩ := er.own j q _ hq
  cases h6 with
  | lst rl =>
    refine ⟨.ref q, h1, .inl ⟨rfl, _, .inl (.inl h5)⟩, viewE env, G, _, Ks.ex, er.z.ok, er.vr, hm, fun d v H1 G1 s1 ok1 r1 k1 => ?_, f.px er.z (Same.refl _)⟩
    have er1 := er.step s1 ok1
    cases r1 <;> first | exact (show False from k1).elim | skip
    rename_i ha ra
    exact ⟨q, _, _, _, rfl, rfl, s1.nh q _ h2 h5, (ok1.sub _ _ ha).2, by rw [← rl.length, ← ra.length]; exact k1.1, f.nx _ _ _ G1 (er1.write hq (.lst ((rl.mono s1.ge).append ra))) k1.2⟩
def mRemove (j : Nat) (m : MEt) : MSt := fun env Ks => ownL env j fun p ds => m (lendE env) (fun d => match d with
  | .int k => (match intsOf ds with
    | some ns => k ∈ ns ∧ Ks.nx (env.set j (some (.own p (.lst ((ns.erase k).map D.int)))))
    | none => False)
  | _ => False) Ks.ex
theorem ms_remove (j : Nat) {x : Str} {xp cp : Pos} (hN : X.N[j]? = some x := by rfl) (h : PS X (.Expr (.Call (.Attribute (.Name x xp) "remove" apos) [e] [] cp) pos) (tDrop (tBM X.K "list" rRemI (tVar j) (tCons (lift C X.mg E m) tNil)))) : MS X C E fr B (.Expr (.Call (.Attribute (.Name x xp) "remove" apos) [e] [] cp) pos) (mRemove j m) := fun G0 => PS.imp h fun En σ H ⟨env, G, Ks, er, hm, f⟩ => by
  obtain ⟨q, ds, hq, hm⟩ := ownL_inv hm
  obtain ⟨h1, h2, h3, h4, ob, h5, h6⟩ := er.own j q _ hq
  cases h6 with
  | lst rl =>
    refine ⟨.ref q, h1, .inl ⟨rfl, _, .inl (.inl h5)⟩, lendE env, _, _, Ks.ex, er.lend.1, er.lend.2, hm, fun d v H1 G1 s1 ok1 r1 k1 => ?_, f.px er.z gLend_ge⟩
    have er1 := er.back s1 ok1
    obtain ⟨k, rfl, rfl⟩ : ∃ k, d = .int k ∧ v = .int k := by cases r1 <;> first | exact (show False from k1).elim | exact ⟨_, rfl, rfl⟩
    dsimp only at k1
    cases qi : intsOf ds with
    | none => rw [qi] at k1; exact k1.elim
    | some ns =>
      rw [qi] at k1
      obtain ⟨km, k1⟩ := k1
      have e1 := intsOf_eq qi
      subst e1
      have e2 := rl.ints
      subst e2
      obtain ⟨jj, j1, j2, j3, j4⟩ := first_at km
      refine ⟨q, ns, k, jj, rfl, rfl, s1.nh q _ h2 h5, j2, j3, ?_⟩
      rw [j4]
      exact f.nx _ _ _ G (er1.write hq (.lst (Rps.ofInts _))) k1
def mClear (j : Nat) : MSt := fun env Ks => ownL env j fun p _ => Ks.nx (env.set j (some (.own p (.lst []))))
theorem ms_clear (j : Nat) {x : Str} {xp cp : Pos} (hN : X.N[j]? = some x := by rfl) (h : PS X (.Expr (.Call (.Attribute (.Name x xp) "clear" apos) [] [] cp) pos) (tDrop (tBM0 X.K "list" rClear (tVar j)))) : MS X C E fr B (.Expr (.Call (.Attribute (.Name x xp) "clear" apos) [] [] cp) pos) (mClear j) := fun G0 => PS.imp h fun En σ H ⟨env, G, Ks, er, hm, f⟩ => by
  obtain ⟨q, ds, hq, hm⟩ := ownL_inv hm
  obtain ⟨h1, h2, h3, h4, ob, h5, h6⟩ := er.own j q _ hq
  cases h6 with
  | lst rl => exact ⟨.ref q, h1, .inl ⟨rfl, _, .inl (.inl h5)⟩, q, _, rfl, rfl, h5, f.nx _ _ _ G (er.write hq (.lst .nil)) hm⟩
/-! raise -/
def mRaise (x : Str) : MSt := fun _ Ks => Ks.ex ⟨x, none⟩
theorem ms_raise {x : Str} {e : Expr} {A : Addr} (hc : X.calm = true) (tk : Takes X (fun cls d _ H => E cls d H)) (he : PMk X e (fun _ H Q => Q (.ref A) none H)) (g : X.mg x = some (.ref A)) : MS X C E fr B (.Raise (some e) none pos) (mRaise x) := fun G0 => PS.imp (ps_raise hc tk he) fun En σ H ⟨env, G, Ks, er, hm, f⟩ =>
  f.ex ⟨x, none⟩ (.ref A) none H hm er.z.keep (fun a o q => (er.z.ok.sub a o (er.z.g0 a o q)).2) er.z.ok.iv ⟨A, g, rfl, rfl⟩
end

/-! ### a def's promise -/
abbrev Spec := Option Addr → List D → (D → Prop) → (Exn → Prop) → Prop
def PostR (fr : Bool) (C : C3) (H G : Hp) (Kd : D → Prop) (Q : VK) : Prop := match fr with
  | false => PostV C H G Kd Q
  | true => PostF C H G Kd Q
def LSp (K : PySem.W.Frag) (mg : Str → Option Value) (fr : Bool) (n : Nat) (spec : Spec) : Sp := fun vs H Q E => ∃ (st : Option (Addr × Addr × List Int)) (fix : List (Addr × HO)) (tabs : List (Addr × Str)) (ds : List D) (G : Hp) (Kd : D → Prop) (KX : Exn → Prop),
  Ok3 ⟨K, st, fix, tabs⟩ H G ∧ Rps K G ds vs ∧ ds.length = n ∧ spec (st.map (·.1)) ds Kd KX ∧ PostR fr ⟨K, st, fix, tabs⟩ H G Kd Q ∧ PostX ⟨K, st, fix, tabs⟩ mg H G KX E
def startS (N : Nat) (ds : List D) : EnvS := ds.map (fun d => some (.sh d)) ++ List.replicate (N - ds.length) none
theorem fn_l3 {P : Program} {w : World} {K : PySem.W.Frag} {mg : Str → Option Value} {base : Heap} {x qual : Str} {st : Stmt} {f : Addr} {fd : FuncData} {N ps : List Str} {k n : Nat} {fr : Bool} {spec : Spec} (F : Fun K x qual st f fd) (S : FnScope N ps (defScope st)) (hn : ps.length = n) (m : Option Addr → MSt)
    (der : ∀ (s0 : Option (Addr × Addr × List Int)) (fix : List (Addr × HO)) (tabs : List (Addr × Str)) (B : Hp) (cdv : Value) (A : Around) (outer : List Env) (s : Shared) (H : Hp) (E : XK), Room k (A.deeper (envOfC qual (defScope st) s.heap.objs.size f cdv)) →
      MSs (cxOf (L2.CX P w) P w K mg base N qual (defScope st) f cdv A outer s H E) ⟨K, s0, fix, tabs⟩ E fr B (defBody st) (m (s0.map (·.1))))
    (pure : ∀ (sa : Option Addr) (ds : List D) (Kd : D → Prop) (KX : Exn → Prop), ds.length = n → spec sa ds Kd KX → m sa (startS N.length ds) { nx := fun _ => fr = false ∧ Kd .non, rt := Kd, ex := KX }) :
    FnOk P w K mg base (L2.CX P w) (k + 1) f fd ps (LSp K mg fr n spec) := by
  refine F.okX S (fun vs H Q E h => ?_) (fun cdv A outer s H vs Q E hr h => ?_)
  · obtain ⟨st, fix, tabs, ds, G, Kd, KX, ok, r, hl, _⟩ := h
    rw [← r.length, hl, hn]
  · obtain ⟨s0, fix, tabs, ds, G, Kd, KX, ok, r, hl, hs, pv, px⟩ := h
    refine ⟨_, der s0 fix tabs (nT H) cdv A outer s H E hr G, startS N.length ds, G, _, ?_, pure _ ds Kd KX hl hs, ?_⟩
    · have elen : ds.length = vs.length := r.length
      refine ⟨⟨ok, Same.refl _, fun a o h h' => absurd (h.symm.trans h') (fun z => nomatch z), fun _ _ _ h => h⟩, ?_, fun i d h => ?_, fun i p d h => ?_, fun i j p d e h _ => ?_⟩
      · unfold startS L2.start
        simp [elen]
      · unfold startS at h
        rw [List.getElem?_append] at h
        by_cases c : i < ds.length
        · rw [if_pos (by simpa using c), List.getElem?_map] at h
          cases q : ds[i]? with
          | none => rw [q] at h; cases h
          | some e =>
            rw [q] at h
            have h : some (some (Slot.sh e)) = some (some (Slot.sh d)) := h
            cases h
            obtain ⟨v, h1, h2⟩ := r.get q
            refine ⟨v, ?_, h2⟩
            unfold L2.start
            rw [List.getElem?_append, if_pos (by simpa [← elen] using c), List.getElem?_map, h1]
            rfl
        · rw [if_neg (by simpa using c), List.getElem?_replicate] at h
          split at h <;> cases h
      · exact absurd h (by
          unfold startS
          rw [List.getElem?_append]
          split
          · rw [List.getElem?_map]
            cases ds[i]? <;> intro z <;> cases z
          · rw [List.getElem?_replicate]
            split <;> intro z <;> cases z)
      · exact absurd h (by
          unfold startS
          rw [List.getElem?_append]
          split
          · rw [List.getElem?_map]
            cases ds[i]? <;> intro z <;> cases z
          · rw [List.getElem?_replicate]
            split <;> intro z <;> cases z)
    · refine ⟨fun env σ H' G' er k => ?_, fun _ _ _ _ _ k => k.elim, fun _ _ _ _ _ k => k.elim, fun d v H' G' z rr k => ?_, fun x cls d H' k h1 h2 iv r => ?_⟩
      · obtain ⟨e, k⟩ := k
        subst e
        exact pv .non .non H' G' ⟨er.z.keep, er.z.g0, er.z.fr⟩ er.z.ok .non k
      · cases fr with
        | false => exact pv d v H' G' ⟨z.keep, z.g0, z.fr⟩ z.ok rr k
        | true =>
          obtain ⟨p, o, e, hb, hg, ho, sp, ob⟩ := rr
          subst e
          exact pv d p o H' G' ⟨z.keep, z.g0, z.fr⟩ z.ok hb hg ho sp ob k
      · exact px x cls d H' k ⟨h1, Same.refl _, fun a o h h' => absurd (h.symm.trans h') (fun z => nomatch z)⟩ ⟨iv, fun a o q => ⟨(ok.sub a o q).1, h2 a o q⟩, ok.nt⟩ r

/-! ### a call of a def -/
/-- a def that stands at the name x, with its promise -/
structure Df (P : Program) (w : World) (K : PySem.W.Frag) (mg : Str → Option Value) (base : Heap) (x : Str) (k : Nat) (fr : Bool) (n : Nat) (spec : Spec) : Prop where
  ex : ∃ (f : Addr) (fd : FuncData) (ps : List Str), FnOk P w K mg base (L2.CX P w) k f fd ps (LSp K mg fr n spec) ∧ mg x = some (.ref f) ∧ PySem.W.keepIn K (.ref f) = true ∧ L2.Binds K fd ps []
def mCallU (sa : Option Addr) (spec : Spec) (r : MAt) : MEt := fun env Kd KX => r env (fun ds => spec sa ds Kd KX) KX
section
variable {X : Cx} {E : XK} {e : Expr} {es : List Expr} {r : MAt} {pos p : Pos} {s0 : Option (Addr × Addr × List Int)} {fix : List (Addr × HO)} {tabs : List (Addr × Str)} {K : PySem.W.Frag}
theorem call_post {fr : Bool} {n : Nat} {spec : Spec} {f : Addr} {fd : FuncData} {ps : List Str} {k : Nat} {H G : Hp} {ds : List D} {vs : List V} {Kd : D → Prop} {KX : Exn → Prop} {Q : VK} (F : FnOk X.prog X.w X.K X.mg X.base (L2.CX X.prog X.w) k f fd ps (LSp X.K X.mg fr n spec)) (ok : Ok3 ⟨X.K, s0, fix, tabs⟩ H G) (rr : Rps X.K G ds vs)
    (hs : spec (s0.map (·.1)) ds Kd KX) (hl : ds.length = n) (pv : PostR fr ⟨X.K, s0, fix, tabs⟩ H G Kd Q) (px : PostX ⟨X.K, s0, fix, tabs⟩ X.mg H G KX E) : LSp X.K X.mg fr n spec (vs ++ []) H Q E := by
  rw [List.append_nil]
  exact ⟨s0, fix, tabs, ds, G, Kd, KX, ok, rr, hl, hs, pv, px⟩
theorem me_call {x : Str} {k n : Nat} {spec : Spec} (F : Df X.prog X.w X.K X.mg X.base x k false n spec) (hr : Room k X.A) (hg : Gl X x) (hx : Passes (L2.CX X.prog X.w) X E) (hn : (e :: es).length = n) (ha : MA X ⟨X.K, s0, fix, tabs⟩ E (e :: es) r)
    (hdb : (x == ("__debug__" : Str)) = false := by decide) (he : starEach (e :: es) X.env = (false, eval e X.env) :: starEach es X.env := by rfl) (hpl : (backTo pos (starEach es X.env)).any (·.1) = false := by rfl) :
    ME X ⟨X.K, s0, fix, tabs⟩ E (.Call (.Name x p) (e :: es) [] pos) (mCallU (s0.map (·.1)) spec r) := by
  obtain ⟨f, fd, ps, F, hm, hk, hb⟩ := F.ex
  refine PE.imp (pe_call F hr hg hm hk hb .nil hx ha hdb he hpl) fun σ H Q ⟨env, G, Kd, KX, ok, vr, hm, pv, px⟩ => ?_
  exact ⟨env, G, _, KX, ok, vr, hm, fun ds vs H1 G1 s1 ok1 r1 n1 k1 => call_post (fr := false) F ok1 r1 k1 (n1.trans hn) (pv.on s1) (px.on ok s1), px⟩
theorem mf_call {x : Str} {k n : Nat} {spec : Spec} (F : Df X.prog X.w X.K X.mg X.base x k true n spec) (hr : Room k X.A) (hg : Gl X x) (hx : Passes (L2.CX X.prog X.w) X E) (hn : (e :: es).length = n) (ha : MA X ⟨X.K, s0, fix, tabs⟩ E (e :: es) r)
    (hdb : (x == ("__debug__" : Str)) = false := by decide) (he : starEach (e :: es) X.env = (false, eval e X.env) :: starEach es X.env := by rfl) (hpl : (backTo pos (starEach es X.env)).any (·.1) = false := by rfl) :
    MF X ⟨X.K, s0, fix, tabs⟩ E (.Call (.Name x p) (e :: es) [] pos) (mCallU (s0.map (·.1)) spec r) := by
  obtain ⟨f, fd, ps, F, hm, hk, hb⟩ := F.ex
  refine PE.imp (pe_call F hr hg hm hk hb .nil hx ha hdb he hpl) fun σ H Q ⟨env, G, Kd, KX, ok, vr, hm, pv, px⟩ => ?_
  exact ⟨env, G, _, KX, ok, vr, hm, fun ds vs H1 G1 s1 ok1 r1 n1 k1 => call_post (fr := true) F ok1 r1 k1 (n1.trans hn) (pv.on s1) (px.on ok s1), px⟩
end
end L3
/-! L3i: the built-ins by name; what the top leaves free -/
namespace L3
open PySem PySem.Spec PyProof.Rows L2
/-- names of built-ins that the module does not bind -/
structure Free (mg : Str → Option Value) : Prop where
  len : mg "len" = none
  set : mg "set" = none
  dict : mg "dict" = none
  range : mg "range" = none
  sorted : mg "sorted" = none
  list : mg "list" = none
  tuple : mg "tuple" = none
  min : mg "min" = none
  max : mg "max" = none
  int : mg "int" = none
  str : mg "str" = none
  isinstance : mg "isinstance" = none
  bool : mg "bool" = none
  zip : mg "zip" = none
  enumerate : mg "enumerate" = none
section
variable {X : Cx} {C : C3} {E : XK} {e a b : Expr} {es : List Expr} {r : MAt} {m : MEt} {pos p p2 q : Pos} {mg : Str → Option Value}
theorem me_len (F : Free X.mg) (hK : X.K = C.K) (hg : Gl X "len") (ha : MA X C E [e] r) (he : starEach (e :: []) X.env = (false, eval e X.env) :: starEach [] X.env := by rfl) (hpl : (backTo pos (starEach [] X.env)).any (·.1) = false := by rfl) : ME X C E (.Call (.Name "len" p) [e] [] pos) (mCall lenD r) :=
  me_callB (by rw [← hK]; exact call_len.or call_lenF) cd_len hg F.len PySem.boot_len ha (by decide) (by decide) he hpl
theorem mf_sorted (F : Free X.mg) (hK : X.K = C.K) (hc : X.calm = true) (hg : Gl X "sorted") (ha : MA X C E [e] r) (he : starEach (e :: []) X.env = (false, eval e X.env) :: starEach [] X.env := by rfl) (hpl : (backTo pos (starEach [] X.env)).any (·.1) = false := by rfl) : MF X C E (.Call (.Name "sorted" p) [e] [] pos) (mCall sortedD r) :=
  mf_callB (by rw [← hK]; exact cr_sortedI.or (call_sortedDI hc)) cf_sorted hg F.sorted (by decide +kernel) ha (by decide) (by decide) he hpl
theorem mf_list (F : Free X.mg) (hK : X.K = C.K) (hg : Gl X "list") (ha : MA X C E [e] r) (he : starEach (e :: []) X.env = (false, eval e X.env) :: starEach [] X.env := by rfl) (hpl : (backTo pos (starEach [] X.env)).any (·.1) = false := by rfl) : MF X C E (.Call (.Name "list" p) [e] [] pos) (mCall listD r) :=
  mf_callTy (by rw [← hK]; exact call_list_of) cf_list hg F.list (by decide +kernel) ha (by decide) (by decide) he hpl
theorem me_tuple (F : Free X.mg) (hK : X.K = C.K) (hg : Gl X "tuple") (ha : MA X C E [e] r) (he : starEach (e :: []) X.env = (false, eval e X.env) :: starEach [] X.env := by rfl) (hpl : (backTo pos (starEach [] X.env)).any (·.1) = false := by rfl) : ME X C E (.Call (.Name "tuple" p) [e] [] pos) (mCall tupleD r) :=
  me_callTy (by rw [← hK]; exact call_tupleN) cd_tuple hg F.tuple (by decide +kernel) ha (by decide) (by decide) he hpl
theorem me_max2 (F : Free X.mg) (hc : X.calm = true) (hg : Gl X "max") (ha : MA X C E [a, b] r) (he : starEach (a :: [b]) X.env = (false, eval a X.env) :: starEach [b] X.env := by rfl) (hpl : (backTo pos (starEach [b] X.env)).any (·.1) = false := by rfl) : ME X C E (.Call (.Name "max" p) [a, b] [] pos) (mCall (mm2 fun i j => if j > i then j else i) r) :=
  me_callB (call_max2 hc) (cd_mm2 _) hg F.max (by decide +kernel) ha (by decide) (by decide) he hpl
theorem me_min2 (F : Free X.mg) (hc : X.calm = true) (hg : Gl X "min") (ha : MA X C E [a, b] r) (he : starEach (a :: [b]) X.env = (false, eval a X.env) :: starEach [b] X.env := by rfl) (hpl : (backTo pos (starEach [b] X.env)).any (·.1) = false := by rfl) : ME X C E (.Call (.Name "min" p) [a, b] [] pos) (mCall (mm2 fun i j => if j < i then j else i) r) :=
  me_callB (call_min2 hc) (cd_mm2 _) hg F.min (by decide +kernel) ha (by decide) (by decide) he hpl
theorem me_minL (F : Free X.mg) (hK : X.K = C.K) (hc : X.calm = true) (hg : Gl X "min") (ha : MA X C E [e] r) (he : starEach (e :: []) X.env = (false, eval e X.env) :: starEach [] X.env := by rfl) (hpl : (backTo pos (starEach [] X.env)).any (·.1) = false := by rfl) : ME X C E (.Call (.Name "min" p) [e] [] pos) (mCall minL r) :=
  me_callB (by rw [← hK]; exact cr_min hc) cd_minL hg F.min (by decide +kernel) ha (by decide) (by decide) he hpl
theorem me_intB (F : Free X.mg) (hg : Gl X "int") (ha : MA X C E [e] r) (he : starEach (e :: []) X.env = (false, eval e X.env) :: starEach [] X.env := by rfl) (hpl : (backTo pos (starEach [] X.env)).any (·.1) = false := by rfl) : ME X C E (.Call (.Name "int" p) [e] [] pos) (mCall intD r) :=
  me_callTy (call_int1.or (fun pins s σ H xs us Q I rr ⟨a, n, e1, e2, e3, q⟩ => call_int_str pins s σ H xs us Q I rr ⟨a, n, e1, e2, e3, q⟩)) cd_int hg F.int (by decide +kernel) ha (by decide) (by decide) he hpl
theorem me_strI (F : Free X.mg) (hg : Gl X "str") (ha : MA X C E [e] r) (he : starEach (e :: []) X.env = (false, eval e X.env) :: starEach [] X.env := by rfl) (hpl : (backTo pos (starEach [] X.env)).any (·.1) = false := by rfl) : ME X C E (.Call (.Name "str" p) [e] [] pos) (mCall strD r) :=
  me_callTy call_str_int cd_str hg F.str (by decide +kernel) ha (by decide) (by decide) he hpl
theorem me_dictP (F : Free X.mg) (hK : X.K = C.K) (hc : X.calm = true) (hg : Gl X "dict") (ha : MA X C E [e] r) (he : starEach (e :: []) X.env = (false, eval e X.env) :: starEach [] X.env := by rfl) (hpl : (backTo pos (starEach [] X.env)).any (·.1) = false := by rfl) : ME X C E (.Call (.Name "dict" p) [e] [] pos) (mCall dictD r) :=
  me_dict hc hK hg F.dict ha he hpl
/-- len(set(xs)), a list of whole numbers -/
def mLenSet (m : MEt) : MEt := fun env Kd KX => m env (fun d => match d with
  | .lst xs => (match intsOf xs with
    | some ns => ns.length ≤ 4000 ∧ Kd (.int (dlen ns : Nat))
    | none => False)
  | _ => False) KX
theorem me_lenSet (F : Free X.mg) (hK : X.K = C.K) (hc : X.calm = true) (hg : Gl X "len") (hg2 : Gl X "set") (ha : ME X C E a m) (na : starEach [a] X.env = (false, eval a X.env) :: starEach [] X.env := by rfl) :
    ME X C E (.Call (.Name "len" p) [.Call (.Name "set" p2) [a] [] q] [] pos) (mLenSet m) := PE.imp (pe_lenSetG hg F.len hg2 F.set ha hc na) fun σ H Q ⟨env, G, Kd, KX, ok, vr, hm, pv, px⟩ => by
  refine ⟨env, G, _, KX, ok, vr, hm, fun d v H1 G1 s1 ok1 r1 k1 => ?_, px⟩
  cases r1 <;> first | exact (show False from k1).elim | skip
  rename_i h1 r1
  dsimp only at k1
  rename_i l vs ds
  cases qi : intsOf ds with
  | none => rw [qi] at k1; exact k1.elim
  | some ns =>
    rw [qi] at k1
    have e1 := intsOf_eq qi
    subst e1
    have e2 := r1.ints
    subst e2
    exact ⟨_, ns, rfl, .inl (.inl (ok1.sub _ _ h1).2), k1.1, pv _ _ H1 G1 s1 ok1 (.int _) k1.2⟩
/-- list(range(n)) -/
theorem mf_listRange (F : Free X.mg) (hc : X.calm = true) (hg : Gl X "list") (hg2 : Gl X "range") (ha : ME X C E a m) (na : starEach [.Call (.Name "range" p2) [a] [] q] X.env = (false, eval (.Call (.Name "range" p2) [a] [] q) X.env) :: starEach [] X.env := by rfl) (na2 : starEach [a] X.env = (false, eval a X.env) :: starEach [] X.env := by rfl) :
    MF X C E (.Call (.Name "list" p) [.Call (.Name "range" p2) [a] [] q] [] pos) (fun env Kd KX => m env (fun d => match d with | .int j => 0 ≤ j ∧ j ≤ 16777216 ∧ Kd (.lst ((List.range j.toNat).map fun i => .int (i : Nat))) | _ => False) KX) := PE.imp (pe_listRg hc hg F.list (prg_1 hg2 F.range ha na2) na) fun σ H Q ⟨env, G, Kd, KX, ok, vr, hm, pv, px⟩ => by
  refine ⟨env, G, _, KX, ok, vr, hm, fun d v H1 G1 s1 ok1 r1 k1 => ?_, px⟩
  obtain ⟨j, rfl, rfl⟩ : ∃ j, d = .int j ∧ v = .int j := by cases r1 <;> first | exact (show False from k1).elim | exact ⟨_, rfl, rfl⟩
  obtain ⟨h0, h1, k1⟩ := k1
  refine ⟨j, rfl, RgOk.of_le (by decide) h1 (by decide) h0, fun l hl => ?_⟩
  obtain ⟨o2, s2, g⟩ := ok1.new (o := .lst (rgV 0 j)) hl
  refine pv.on s1 _ l _ _ G1 s2 o2 (nT_none hl) g upd_same (ok1.iv.new hl) (.lst ?_) k1
  have e : rgV 0 j = ((List.range j.toNat).map fun i : Nat => ((i : Nat) : Int)).map V.int := by
    unfold rgV
    rw [List.map_map, Int.sub_zero]
    apply List.map_congr_left
    intro i _
    show V.int (0 + (i : Int)) = V.int (i : Int)
    rw [Int.zero_add]
  rw [e]
  have e2 : ((List.range j.toNat).map fun i => D.int (i : Nat)) = ((List.range j.toNat).map fun i : Nat => ((i : Nat) : Int)).map D.int := by rw [List.map_map]; rfl
  rw [e2]
  exact Rps.ofInts _
end
def mListRange (m : MEt) : MEt := fun env Kd KX => m env (fun d => match d with | .int j => 0 ≤ j ∧ j ≤ 16777216 ∧ Kd (.lst ((List.range j.toNat).map fun i => .int (i : Nat))) | _ => False) KX
section
variable {X : Cx} {C : C3} {E : XK} {e a b : Expr} {m : MEt} {mb mg' : MEt} {pos p p2 q : Pos}
theorem mf_cat (ha : ME X C E a m) (hb : ME X C E b mb) : MF X C E (.BinOp a .Add b pos) (m2 catD m mb) := mf_op op_cat of_cat ha hb
theorem me_add (hK : X.K = C.K) (ha : ME X C E a m) (hb : ME X C E b mb) : ME X C E (.BinOp a .Add b pos) (m2 addD m mb) := me_op (or_add hK) od_add ha hb
theorem me_sub (ha : ME X C E a m) (hb : ME X C E b mb) : ME X C E (.BinOp a .Sub b pos) (m2 subD m mb) := me_op op_sub od_sub ha hb
theorem me_mul (ha : ME X C E a m) (hb : ME X C E b mb) : ME X C E (.BinOp a .Mult b pos) (m2 mulD m mb) := me_op (op_mul.or op_rep) od_mul ha hb
theorem me_mod (ha : ME X C E a m) (hb : ME X C E b mb) : ME X C E (.BinOp a .Mod b pos) (m2 modD m mb) := me_op op_mod od_mod ha hb
theorem me_fdiv (ha : ME X C E a m) (hb : ME X C E b mb) : ME X C E (.BinOp a .FloorDiv b pos) (m2 fdivD m mb) := me_op op_fdivW od_fdiv ha hb
theorem me_pow (ha : ME X C E a m) (hb : ME X C E b mb) : ME X C E (.BinOp a .Pow b pos) (m2 powD m mb) := me_op op_pow od_pow ha hb
theorem pg_nm {i : Nat} {x : Str} (hN : X.N.Nodup) (hi : X.N[i]? = some x) (hx : Loc X.env.scope x) (hf : X.fn x = true ∨ X.env.scope.names.lookup x = some .local := by first | exact .inl rfl | exact .inr rfl | assumption) : PG X (.Name x pos) (gOf X.K (.nm i)) := pg_name hN hi hx hf
theorem pg_tp {es : List Expr} {k : Nat} {is : List Nat} (hc : X.calm = true) (h : PGs X es (gNames is))
    (hn : (assignEach es X.env).length = is.length := by rfl) (hst : (assignEach es X.env).findIdx? (·.1) = none := by rfl) : PG X (.Tuple es k pos) (gOf X.K (.tp is)) := pg_tup hc h hn hst
theorem pgs_nm {es : List Expr} {i : Nat} {is : List Nat} {x : Str} (hN : X.N.Nodup) (hi : X.N[i]? = some x) (hx : Loc X.env.scope x) (h2 : PGs X es (gNames is))
    (hf : X.fn x = true ∨ X.env.scope.names.lookup x = some .local := by first | exact .inl rfl | exact .inr rfl | assumption)
    (hs : (assignEach (.Name x p :: es) X.env).map (·.2) = assign (.Name x p) X.env :: (assignEach es X.env).map (·.2) := by rfl) : PGs X (.Name x p :: es) (gNames (i :: is)) := pgs_cons (pg_name hN hi hx hf) h2 hs
theorem pgs_no : PGs X [] (gNames []) := pgs_nil
end
end L3
/-! L3j: slices backwards, isinstance, pops, dicts of one's own -/
namespace L3
open PySem PySem.Spec PyProof.Rows L2
/-! ### xs[lo:hi:-1] of a list -/
def pickM {α : Type} (xs : List α) (lo hi : Option Int) : List α := (sliceRange (sliceBounds lo hi (some (-1)) xs.length).1 (sliceBounds lo hi (some (-1)) xs.length).2.1 (-1)).filterMap (xs[·]?)
theorem pick_len {α : Type} (xs : List α) : ∀ l : List Nat, (l.filterMap (xs[·]?)).length ≤ l.length := fun l => List.length_filterMap_le _ _
theorem Vals.pick {xs : List V} {us : List Value} (r : Vals xs us) : ∀ l : List Nat, Vals (l.filterMap (xs[·]?)) (l.filterMap (us[·]?))
  | [] => .nil
  | i :: l => by
    rw [List.filterMap_cons, List.filterMap_cons]
    cases q : xs[i]? with
    | none =>
      rw [r.none_of q]
      exact Vals.pick r l
    | some x =>
      obtain ⟨u, h1, h2⟩ := r.get q
      rw [h1]
      exact .cons h2 (Vals.pick r l)
theorem Rps.pick {K : PySem.W.Frag} {G : Hp} {ds : List D} {vs : List V} (r : Rps K G ds vs) : ∀ l : List Nat, Rps K G (l.filterMap (ds[·]?)) (l.filterMap (vs[·]?))
  | [] => .nil
  | i :: l => by
    rw [List.filterMap_cons, List.filterMap_cons]
    cases q : ds[i]? with
    | none =>
      rw [r.none_of q]
      exact Rps.pick r l
    | some d =>
      obtain ⟨v, h1, h2⟩ := r.get q
      rw [h1]
      exact .cons h2 (Rps.pick r l)
def tSlM (K : PySem.W.Frag) (te : TE) (tl th : TO) : TE := fun σ H Q => te σ H fun x H1 => tl σ H1 fun lo H2 => th σ H2 fun hi H3 => ∃ a xs, x = .ref a ∧ SqL K H3 a xs ∧ (pickM xs lo hi).length ≤ sizeLine ∧ ∀ p, H3 p = none → Q (.ref p) (upd H3 p (.lst (pickM xs lo hi)))
theorem sliceBounds_step (lo hi : Option Int) (n : Nat) : (sliceBounds lo hi (some (-1)) n).2.2 = -1 := rfl
theorem pe_slM {X : Cx} {e : Expr} {te : TE} {lo hi : Option Expr} {tl th : TO} {k : Nat} {p1 p2 p3 pos : Pos} (he : PE X e te) (hl : PO X lo tl) (hu : PO X hi th) :
    PE X (.Subscript e (.Slice lo hi (some (.UnaryOp .USub (.Constant (.int 1) k p1) p2)) p3) pos) (tSlM X.K te tl th) := by
  refine ⟨fun pins s σ H Q I h => ?_⟩
  refine Subscript_ (thn (he.run pins s σ H _ I h) fun v s1 ⟨x, H1, I1, r1, q1⟩ => ?_)
  have hst : PO X (some (.UnaryOp .USub (.Constant (.int 1) k p1) p2)) (tPart (tUn (rU fun i => .int (-i)) (tC (.int 1)))) := po_some (pe_un un_neg pe_int)
  refine wpAny_Slice (thn (hl.run pins s1 σ H1 _ I1 q1) fun vl s2 ⟨lo', H2, I2, pl, q2⟩ => ?_)
  refine thn (hu.run pins s2 σ H2 _ I2 q2) fun vu s3 ⟨hi', H3, I3, pu, q3⟩ => ?_
  refine thn (hst.run pins s3 σ H3 (fun o H4 => o = some (-1) ∧ H4 = H3) I3 ⟨1, rfl, -1, rfl, rfl, rfl⟩) fun vs s4 ⟨o, H4, I4, ps, eo, e4⟩ => ?_
  subst eo e4
  obtain ⟨a, xs, ex, hx, hz2, q⟩ := q3
  subst ex
  cases r1
  have I5 : Inv X pins σ H4 { s4 with heap := s4.heap.push { cls := .type "slice", data := .fields #[vl, vu, vs] } } := I4.kept (t' := s4.toks) fun b ob q => Heap.get?_push_of_some _ q
  obtain ⟨its, r, ht, hz⟩ := I5.list hx
  have hlen := r.length
  show wpAny (model X.prog X.w) X.A (subscriptTail e (.Slice lo hi (some (.UnaryOp .USub (.Constant (.int 1) k p1) p2)) p3) (.ref a) (.ref s4.heap.objs.size)) (EP X pins σ Q) X.xe { s4 with heap := s4.heap.push { cls := .type "slice", data := .fields #[vl, vu, vs] } }
  refine tail_any (ops := [.ref a, .ref s4.heap.objs.size]) ht.isList.typeIs (PySem.slot_list_getitem.lookup) ?_ (by with_unfolding_all rfl)
  refine wpAny_getItem_list_slice ht.isList (Heap.IsSliceOf.new _ vl vu vs) pl pu ps (by decide) ?_ (by rw [List.size_toArray]; omega)
  have e : slicePick its.toArray lo' hi' (some (-1)) = ((sliceRange (sliceBounds lo' hi' (some (-1)) xs.length).1 (sliceBounds lo' hi' (some (-1)) xs.length).2.1 (-1)).filterMap (its[·]?)).toArray := by
    unfold slicePick
    rw [List.size_toArray, ← hlen]
    simp only [List.getElem?_toArray]
    rfl
  rw [e]
  have rp := Vals.pick r (sliceRange (sliceBounds lo' hi' (some (-1)) xs.length).1 (sliceBounds lo' hi' (some (-1)) xs.length).2.1 (-1))
  refine ⟨.ref _, _, I5.laid (t' := s4.toks) (o := .lst (pickM xs lo' hi')) (fun b ob q => Heap.get?_push_of_some _ q) (Nat.le_refl _) ?_, rfl, q _ (I5.hok.fresh (Nat.le_refl _))⟩
  exact ⟨hz2, _, 0, rp, Heap.get?_push_size _ rfl⟩
section
variable {X : Cx} {C : C3} {E : XK} {e a b : Expr} {es : List Expr} {r : MAt} {m ma : MEt} {pos p p2 q : Pos} {mg : Str → Option Value}
def mSlM (ma : MEt) (ml mh : MOt) : MEt := fun env Kd KX => ma env (fun d => ml env (fun lo => mh env (fun hi => match d with
  | .lst xs => (pickM xs lo hi).length ≤ sizeLine ∧ Kd (.lst (pickM xs lo hi))
  | _ => False) KX) KX) KX
theorem mf_slM {lo hi : Option Expr} {k : Nat} {p1 p2 p3 : Pos} {ml mh : MOt} (hK : X.K = C.K) (ha : ME X C E a ma) (hl : MO X C E lo ml) (hh : MO X C E hi mh) : MF X C E (.Subscript a (.Slice lo hi (some (.UnaryOp .USub (.Constant (.int 1) k p1) p2)) p3) pos) (mSlM ma ml mh) :=
  PE.imp (pe_slM ha hl hh) fun σ H Q ⟨env, G, Kd, KX, ok, vr, hm, pv, px⟩ => by
  refine ⟨env, G, _, KX, ok, vr, hm, fun d x H1 G1 s1 ok1 r1 k1 => ⟨env, G1, _, KX, ok1, vr.mono s1.ge, k1, fun lo H2 G2 s2 ok2 k2 => ⟨env, G2, _, KX, ok2, vr.mono (s1.ge.trans s2.ge), k2, fun hi H3 G3 s3 ok3 k3 => ?_, px.on ok (s1.trans ok2 s2)⟩, px.on ok s1⟩, px⟩
  have s13 := s1.trans ok3 (s2.trans ok3 s3)
  obtain ⟨ds, rfl⟩ : ∃ ds, d = .lst ds := by cases d <;> first | exact (show False from k3).elim | exact ⟨_, rfl⟩
  cases r1 with | lst hd rd =>
  rename_i a vs
  have hd := s3.ge _ _ (s2.ge _ _ hd)
  have rd := (rd.mono s2.ge).mono s3.ge
  obtain ⟨kz, k3⟩ := k3
  have rp := Rps.pick rd (sliceRange (sliceBounds lo hi (some (-1)) ds.length).1 (sliceBounds lo hi (some (-1)) ds.length).2.1 (-1))
  have e : pickM vs lo hi = (sliceRange (sliceBounds lo hi (some (-1)) ds.length).1 (sliceBounds lo hi (some (-1)) ds.length).2.1 (-1)).filterMap (vs[·]?) := by
    unfold pickM
    rw [rd.length]
  rw [← e] at rp
  refine ⟨_, vs, rfl, .inl (.inl (ok3.sub _ _ hd).2), by rw [← rp.length]; exact kz, fun q hq => ?_⟩
  obtain ⟨o4, s4, g⟩ := ok3.new (o := .lst (pickM vs lo hi)) hq
  exact pv.on s13 _ q _ _ G3 s4 o4 (nT_none hq) g upd_same (ok3.iv.new hq) (.lst rp) k3
theorem pickM_from {α : Type} (xs : List α) (k : Nat) : pickM xs none (some (k : Int)) = (xs.drop (k + 1)).reverse := by
  unfold pickM
  have e1 : sliceBounds none (some (k : Int)) (some (-1)) xs.length = ((xs.length : Int) - 1, max (-1) (min (k : Int) ((xs.length : Int) - 1)), -1) := by
    have h : ¬ ((-1 : Int) > 0) := by decide
    have h2 : ¬ ((k : Int) < 0) := by omega
    simp only [sliceBounds, Option.getD_some, h, if_false, h2]
  rw [e1]
  dsimp only
  have e2 : sliceRange ((xs.length : Int) - 1) (max (-1) (min (k : Int) ((xs.length : Int) - 1))) (-1) = (List.range (xs.length - (k + 1))).map fun j => xs.length - 1 - j := by
    unfold sliceRange
    have h1 : ¬ ((-1 : Int) > 0) := by decide
    simp only [h1, if_false]
    by_cases h : k + 1 < xs.length
    · have c : (xs.length : Int) - 1 > max (-1) (min (k : Int) ((xs.length : Int) - 1)) := by omega
      have e : ((xs.length : Int) - 1 - max (-1) (min (k : Int) ((xs.length : Int) - 1)) - -1 - 1) / (- -1) = ((xs.length - (k + 1) : Nat) : Int) := by
        rw [show (- -1 : Int) = 1 by decide, Int.ediv_one]
        omega
      rw [if_pos c, e, Int.toNat_natCast]
      apply List.map_congr_left
      intro j hj
      have := List.mem_range.mp hj
      omega
    · have e0 : xs.length - (k + 1) = 0 := by omega
      rw [e0]
      by_cases c : (xs.length : Int) - 1 > max (-1) (min (k : Int) ((xs.length : Int) - 1))
      · omega
      · rw [if_neg c]
        rfl
  rw [e2]
  apply List.ext_getElem?
  intro i
  have hall : ∀ j ∈ List.range (xs.length - (k + 1)), xs[xs.length - 1 - j]? = ((xs.drop (k + 1)).reverse)[j]? := by
    intro j hj
    have hj := List.mem_range.mp hj
    rw [List.getElem?_reverse (by rw [List.length_drop]; omega), List.getElem?_drop, List.length_drop]
    congr 1
    omega
  have key : ∀ (l : List Nat) (ys : List α), (∀ j ∈ l, xs[xs.length - 1 - j]? = ys[j]?) → (l.map fun j => xs.length - 1 - j).filterMap (xs[·]?) = l.filterMap (ys[·]?) := by
    intro l ys
    induction l with
    | nil => intro _; rfl
    | cons j l ih =>
      intro h
      rw [List.map_cons, List.filterMap_cons, List.filterMap_cons, h j List.mem_cons_self, ih fun j hj => h j (List.mem_cons_of_mem _ hj)]
  rw [key _ _ hall]
  have rg : ∀ (ys : List α), (List.range ys.length).filterMap (ys[·]?) = ys := by
    intro ys
    have h := PySem.W.krv_all ys.toArray
    simpa using h
  have hl : xs.length - (k + 1) = ((xs.drop (k + 1)).reverse).length := by rw [List.length_reverse, List.length_drop]
  rw [hl, rg]
theorem pickM_all {α : Type} (xs : List α) : pickM xs none none = xs.reverse := by
  have h := PySem.W.krv_bounds xs.length
  unfold pickM
  rw [h]
  dsimp only
  rw [PySem.W.krv_sliceRange, PySem.W.krv_range, List.filterMap_reverse]
  congr 1
  have h := PySem.W.krv_all xs.toArray
  simpa using h

/-! ### isinstance -/
def tyN : D → Option String
  | .non => some "NoneType"
  | .bl _ => some "bool"
  | .int _ => some "int"
  | .str _ => some "str"
  | .lst _ => some "list"
  | .tup _ => some "tuple"
  | .dic _ => some "dict"
  | .ref _ => none
  | .clo _ _ _ => none
def isTy (T : String) (d : D) : Option Bool := (tyN d).bind fun t => kitB t T
theorem ty_rp {H G : Hp} {d : D} {v : V} {t : String} (ok : Ok3 C H G) (r : Rp C.K G d v) (h : tyN d = some t) : TyX C.K H v (.type t) := by
  cases r with
  | non => cases h; exact .base .non
  | bl b => cases h; exact .base (.bl b)
  | int i => cases h; exact .base (.int i)
  | str x => cases h; exact .base (.str x)
  | ref a => cases h
  | clo _ _ _ => cases h
  | lst ha _ => cases h; exact .base (.lst (ok.sub _ _ ha).2)
  | tup ha _ =>
    cases h
    rcases ha with ⟨o, ha, _⟩ | ⟨o, its, n, h1, h2, _⟩
    · exact .fTuple (ok.sub _ _ ha).2
    · exact .kTuple h1 h2
  | dic ha _ => cases h; exact .fDict (ok.sub _ _ ha).2
@[irreducible] def isiD (T : String) (d : D) (Kd : D → Prop) : Prop := match isTy T d with
  | some b => Kd (.bl b)
  | none => False
theorem isiD_go {T : String} {d : D} {Kd : D → Prop} {b : Bool} (h : isTy T d = some b) (k : Kd (.bl b)) : isiD T d Kd := by
  unfold isiD
  rw [h]
  exact k
def mIsI (T : String) (m : MEt) : MEt := fun env Kd KX => m env (fun d => isiD T d Kd) KX
theorem me_isi {T : String} {x : Str} {tp : Pos} (F : Free X.mg) (hK : X.K = C.K) (hg : Gl X "isinstance") (ha : ME X C E a ma) (hx : Gl X x) (hm : X.mg x = none) (hb : bootBuiltins x = some (.type T)) (hn : x ≠ "__name__" := by decide) (hdb : (x == ("__debug__" : Str)) = false := by decide)
    (h1 : starEach [a, .Name x tp] X.env = (false, eval a X.env) :: starEach [.Name x tp] X.env := by rfl) (h2 : starEach [.Name x tp] X.env = (false, eval (.Name x tp) X.env) :: starEach [] X.env := by rfl) (hpl : (backTo pos (starEach [.Name x tp] X.env)).any (·.1) = false := by rfl) :
    ME X C E (.Call (.Name "isinstance" p) [a, .Name x tp] [] pos) (mIsI T ma) :=
  PE.imp (pe_callB call_isi hg F.isinstance PyProof.Rows.boot_isinstance (pa_cons ha (pa_cons (pe_bltn (v := .ty T) hx hm hb rfl hn hdb) pa_nil h2) h1) (by decide) (by decide) h1 hpl) fun σ H Q ⟨env, G, Kd, KX, ok, vr, hm, pv, px⟩ => by
  refine ⟨env, G, _, KX, ok, vr, hm, fun d v H1 G1 s1 ok1 r1 k1 => ?_, px⟩
  unfold isiD at k1
  dsimp only at k1
  split at k1
  · rename_i b q
    unfold isTy at q
    cases q2 : tyN d with
    | none => rw [q2] at q; cases q
    | some t =>
      rw [q2] at q
      exact ⟨v, .ty T, .type t, .type T, b, rfl, .ty T, by rw [hK]; exact ty_rp ok1 r1 q2, kit_ty q, pv _ _ H1 G1 s1 ok1 (.bl b) k1⟩
  · exact k1.elim
/-- isinstance(x, (S, T)) -/
@[irreducible] def isi2D (S T : String) (d : D) (Kd : D → Prop) : Prop := match isTy S d, isTy T d with
  | some b, some c => Kd (.bl (b || c))
  | _, _ => False
theorem isi2D_go {S T : String} {d : D} {Kd : D → Prop} {b c : Bool} (h : isTy S d = some b) (h2 : isTy T d = some c) (k : Kd (.bl (b || c))) : isi2D S T d Kd := by
  unfold isi2D
  rw [h, h2]
  exact k
def mIsI2 (S T : String) (m : MEt) : MEt := fun env Kd KX => m env (fun d => isi2D S T d Kd) KX
theorem me_isi2 {S T : String} {x y : Str} {tp tq ttp : Pos} {k : Nat} (F : Free X.mg) (hK : X.K = C.K) (hg : Gl X "isinstance") (ha : ME X C E a ma) (hx : Gl X x) (hm : X.mg x = none) (hb : bootBuiltins x = some (.type S)) (hy : Gl X y) (hm2 : X.mg y = none) (hb2 : bootBuiltins y = some (.type T)) (hn : x ≠ "__name__" := by decide) (hn2 : y ≠ "__name__" := by decide) (hdb : (x == ("__debug__" : Str)) = false := by decide) (hdb2 : (y == ("__debug__" : Str)) = false := by decide)
    (h1 : starEach [a, .Tuple [.Name x tp, .Name y tq] k ttp] X.env = (false, eval a X.env) :: starEach [.Tuple [.Name x tp, .Name y tq] k ttp] X.env := by rfl) (h2 : starEach [.Tuple [.Name x tp, .Name y tq] k ttp] X.env = (false, eval (.Tuple [.Name x tp, .Name y tq] k ttp) X.env) :: starEach [] X.env := by rfl) (hpl : (backTo pos (starEach [.Tuple [.Name x tp, .Name y tq] k ttp] X.env)).any (·.1) = false := by rfl)
    (h3 : starEach [.Name x tp, .Name y tq] X.env = (false, eval (.Name x tp) X.env) :: starEach [.Name y tq] X.env := by rfl) (h4 : starEach [.Name y tq] X.env = (false, eval (.Name y tq) X.env) :: starEach [] X.env := by rfl) :
    ME X C E (.Call (.Name "isinstance" p) [a, .Tuple [.Name x tp, .Name y tq] k ttp] [] pos) (mIsI2 S T ma) :=
  PE.imp (pe_callB call_isiT hg F.isinstance PyProof.Rows.boot_isinstance (pa_cons ha (pa_cons (pe_tup (pa_cons (pe_bltn (v := .ty S) hx hm hb rfl hn hdb) (pa_cons (pe_bltn (v := .ty T) hy hm2 hb2 rfl hn2 hdb2) pa_nil h4) h3)) pa_nil h2) h1) (by decide) (by decide) h1 hpl) fun σ H Q ⟨env, G, Kd, KX, ok, vr, hm, pv, px⟩ => by
  refine ⟨env, G, _, KX, ok, vr, hm, fun d v H1 G1 s1 ok1 r1 k1 => ?_, px⟩
  refine ⟨by show 2 ≤ sizeLine; decide, fun tq hq => ?_⟩
  unfold isi2D at k1
  dsimp only at k1
  split at k1
  · rename_i b c q q'
    obtain ⟨o2, s2⟩ := ok1.lay (o := .tup [.ty S, .ty T]) hq
    unfold isTy at q q'
    cases q2 : tyN d with
    | none => rw [q2] at q; cases q
    | some t =>
      rw [q2] at q q'
      have sS := s1.trans o2 s2
      refine ⟨v, tq, [.ty S, .ty T], .type t, [.type S, .type T], b || c, rfl, upd_same, .cons (.ty S) (.cons (.ty T) .nil), by rw [hK]; exact ty_rp o2 (r1.mono s2.ge) q2, ?_, pv _ _ _ _ sS o2 (.bl _) k1⟩
      refine kitAny_cons (kit_ty q) (fun e => ?_) (fun e => by rw [e]; rfl)
      rw [e, Bool.false_or]
      refine kitAny_cons (kit_ty q') (fun e2 => ?_) (fun e2 => e2)
      rw [e2]
      exact kitAny_nil
  · exact k1.elim
end

/-! ### statements -/
section
variable {X : Cx} {C : C3} {E : XK} {fr : Bool} {B : Hp} {st : Stmt} {e c o : Expr} {m : MEt} {ms : MSt} {pos p pos' apos : Pos}
/-- x = {} -/
def mSetD (i : Nat) : MSt := fun env Ks => ∀ p, Ks.nx (env.set i (some (.own p (.dic []))))
theorem ms_setD {i : Nat} {x : Str} {dpos : Pos} (hN : X.N.Nodup) (hi : X.N[i]? = some x) (hx : Loc X.env.scope x) (hs : swapsWith (.Dict [] [] dpos) (some (.Name x pos')) pos.line X.env = pure false := by rfl) (hf : X.fn x = true ∨ X.env.scope.names.lookup x = some .local := by first | exact .inl rfl | exact .inr rfl | assumption) :
    MS X C E fr B (.Assign [.Name x pos'] (.Dict [] [] dpos) pos) (mSetD i) := fun G0 => PS.imp (ps_set hN hi hx pe_dnewK hs hf) fun En σ H ⟨env, G, Ks, er, hm, f⟩ => fun q hq => by
  obtain ⟨o1, s1, g⟩ := er.z.ok.new (o := .dK []) hq
  exact f.nx _ _ _ G (er.fresh_own s1 o1 (nT_none hq) g upd_same (er.z.ok.iv.new hq) (.dic .nil)) (hm q)
/-- the dict is frozen ahead of the statement -/
def mFrzD (j : Nat) (ms : MSt) : MSt := fun env Ks => ownK env j fun _ kvs => ms (env.set j (some (.sh (.dic kvs)))) Ks
theorem ms_frzD (j : Nat) (h : MS X C E fr B st ms) : MS X C E fr B st (mFrzD j ms) := fun G0 => by
  refine ⟨fun pins s σ H En I hw => ?_⟩
  obtain ⟨env, G, Ks, er, hm, f⟩ := hw
  obtain ⟨q, kvs, hq, hm⟩ := ownK_inv hm
  obtain ⟨h1, h2, h3, h4, ob, h5, h6⟩ := er.own j q _ hq
  cases h6 with
  | dic rl =>
    rename_i kws
    obtain ⟨od, I1⟩ := I.lock h5 (by trivial)
    refine (h G0).run pins s σ _ En I1 ⟨_, upd G q (.frz od (.dK kws)), Ks, ?_, hm, f⟩
    have sg : Same G (upd G q (.frz od (.dK kws))) := same_new h4
    have er' := er.write hq (o' := .dK kws) (.dic rl)
    have ok1 : Ok3 C (upd H q (.frz od (.dK kws))) (upd G q (.frz od (.dK kws))) := ⟨er.z.ok.iv.upd h2 (upd_code h5 rfl), fun a o z => by
      by_cases c : a = q
      · subst c
        rw [upd_same] at z
        cases z
        exact ⟨h2, upd_same⟩
      · rw [upd_ne c] at z
        rw [upd_ne c]
        exact er.z.ok.sub a o z, fun a o z => by
      by_cases c : a = q
      · subst c
        rw [upd_same] at z
        cases z
        rfl
      · rw [upd_ne c] at z
        exact er.z.ok.nt a o z⟩
    have hj : j < env.length := (List.getElem?_eq_some_iff.mp hq).1
    have un : ∀ {i : Nat} {x : Slot}, (env.set j (some (.sh (.dic kvs))))[i]? = some (some x) → (i = j ∧ x = .sh (.dic kvs)) ∨ (i ≠ j ∧ env[i]? = some (some x)) := fun {i x} z => by
      by_cases c : j = i
      · subst c
        rw [List.getElem?_set_self hj] at z
        cases z
        exact .inl ⟨rfl, rfl⟩
      · rw [List.getElem?_set_ne c] at z
        exact .inr ⟨fun e => c e.symm, z⟩
    refine ⟨⟨ok1, er.z.g0.trans sg, fun a o z z' => ?_, fun a o sp z => ?_⟩, by simpa using er.len, fun i d z => ?_, fun i p d z => ?_, fun i k p d e z z' => ?_⟩
    · by_cases c : a = q
      · rw [c]; exact .inl h3
      · rw [upd_ne c] at z'
        exact er.z.fr a o z z'
    · rw [nT_ne (ne_of_none z h3)]
      exact er.z.keep a o sp z
    · rcases un z with ⟨e1, e2⟩ | ⟨c, z⟩
      · cases e2
        subst e1
        exact ⟨_, h1, .dic upd_same (rl.mono sg)⟩
      · obtain ⟨v, v1, v2⟩ := er.sh i d z
        exact ⟨v, v1, v2.mono sg⟩
    · rcases un z with ⟨e1, e2⟩ | ⟨c, z⟩
      · cases e2
      · obtain ⟨v1, v2, v3, v4, ob2, v5, v6⟩ := er.own i p d z
        have npq : p ≠ q := fun e => c (er.dis i j q d (.dic kvs) (by rw [← e]; exact z) hq)
        exact ⟨v1, v2, v3, by rw [upd_ne npq]; exact v4, ob2, by rw [upd_ne npq]; exact v5, v6.mono sg⟩
    · rcases un z with ⟨e1, e2⟩ | ⟨c, z⟩
      · cases e2
      · rcases un z' with ⟨e1, e2⟩ | ⟨c', z'⟩
        · cases e2
        · exact er.dis i k p d e z z'
/-- x = [.. for ..], x not its own -/
theorem ms_setLcS {i : Nat} {y : Str} {py : Pos} {elt tg iter : Expr} {ifs : List Expr} {scope : Scope} {own : List (Str × Nat)} {pos spos : Pos} {t : Tgt} {mi : MIt} {tt : MTt} {te : MEt} (hK : X.K = C.K) (hc : X.calm = true) (hN : X.N.Nodup) (hy : X.N[i]? = some y) (hyl : X.env.scope.names.lookup y = some .local)
    (hsw : swapsWith (.ListComp elt [⟨tg, iter, ifs, 0⟩] scope pos) (some (.Name y py)) spos.line X.env = pure true) (hi : MI X C E tg iter mi) (ok : BlkOk X.N X.env.scope scope own) (hts : ∀ i ∈ t.slots, i ∈ own.map (·.2))
    (hg : ∀ (s : Shared) (H : Hp) (A : Addr) (cl : List (Str × Addr)) (fp : List Addr), PG (X.blk s H scope (compEnvC scope cl A X.env) fp) tg (gOf X.K t)) (ht : ∀ (s : Shared) (H : Hp) (A : Addr) (cl : List (Str × Addr)) (fp : List Addr), MTs (X.blk s H scope (compEnvC scope cl A X.env) fp) C E0 ifs tt)
    (he : ∀ (s : Shared) (H : Hp) (A : Addr) (cl : List (Str × Addr)) (fp : List Addr), ME (X.blk s H scope (compEnvC scope cl A X.env) fp) C E0 elt te) (hs : ∀ x, foldedSetIterable iter X.env x = pure x := by intro _; rfl) :
    MS X C E fr B (.Assign [.Name y py] (.ListComp elt [⟨tg, iter, ifs, 0⟩] scope pos) spos) (mSet i (mLc t (own.map (·.2)) mi tt te)) := fun G0 =>
  PS.imp (ps_setLc hc hN hy hyl hsw hi ok hg ht he hs) fun En σ H h => by
    obtain ⟨env, G, Kd, KX, ok, vr, hm, pv, px⟩ := set_lift h
    exact lc_lift hK hts ⟨env, G, Kd, KX, ok, vr, hm, pv.fresh, px⟩
/-- a, b = x, y -/
def mPar (i j : Nat) (r : MAt) : MSt := fun env Ks => r (viewE env) (fun ds => match ds with
  | [d, e] => Ks.nx ((env.set i (some (.sh d))).set j (some (.sh e)))
  | _ => False) Ks.ex
theorem ms_par {i j : Nat} {x y : Str} {a b : Expr} {r : MAt} {px py pt : Pos} {kt k2 pt2} (hc : X.calm = true) (hN : X.N.Nodup) (hi : X.N[i]? = some x) (hj : X.N[j]? = some y) (hij : i ≠ j)
    (hx : X.env.scope.names.lookup x = some .local) (hy : X.env.scope.names.lookup y = some .local) (ha : MA X C E [a, b] r)
    (hw : swappedStores [.Tuple [.Name x px, .Name y py] kt pt] (.Tuple [a, b] k2 pt2) X.env = pure (some [x, y]))
    (hs : swapsWithSole [.Tuple [.Name x px, .Name y py] kt pt] (.Tuple [a, b] k2 pt2) pos.line X.env = pure false := by rfl) :
    MS X C E fr B (.Assign [.Tuple [.Name x px, .Name y py] kt pt] (.Tuple [a, b] k2 pt2) pos) (mPar i j r) := fun G0 => PS.imp (ps_par hc hN hi hj hij hx hy ha hw hs) fun En σ H ⟨env, G, Ks, er, hm, f⟩ =>
  ⟨viewE env, G, _, Ks.ex, er.z.ok, er.vr, hm, fun ds vs H1 G1 s1 ok1 r1 _ k1 => by
    cases r1 with
    | nil => exact k1.elim
    | cons a1 r1 =>
      cases r1 with
      | nil => exact k1.elim
      | cons a2 r1 =>
        cases r1 with
        | nil => exact ⟨_, _, rfl, f.nx _ _ H1 G1 (((er.step s1 ok1).set_sh a1).set_sh a2) k1⟩
        | cons _ _ => exact k1.elim, f.px er.z (Same.refl _)⟩
/-- x.append(y.pop(e)), both lists their names' own -/
def mAppPop (j l : Nat) (m : MEt) : MSt := fun env Ks => ownL env j fun p ds => ownL env l fun q es => m (lendE env) (fun d => match d with
  | .int i => 0 ≤ i ∧ ds.length < sizeLine ∧ es.length < 2 ^ 62 ∧ (match es[i.toNat]? with
    | some y => Ks.nx ((env.set l (some (.own q (.lst (es.eraseIdx i.toNat))))).set j (some (.own p (.lst (ds ++ [y])))))
    | none => False)
  | _ => False) Ks.ex
theorem ms_appPop (j l : Nat) (hjl : j ≠ l) {x y : Str} {xp yp cp cq : Pos} {apos2 : Pos} (hN : X.N[j]? = some x := by rfl) (hN2 : X.N[l]? = some y := by rfl)
    (h : PS X (.Expr (.Call (.Attribute (.Name x xp) "append" apos) [.Call (.Attribute (.Name y yp) "pop" apos2) [e] [] cq] [] cp) pos) (tDrop (tBM X.K "list" rAppend (tVar j) (tCons (tBM X.K "list" rPopAt (tVar l) (tCons (lift C X.mg E m) tNil)) tNil)))) :
    MS X C E fr B (.Expr (.Call (.Attribute (.Name x xp) "append" apos) [.Call (.Attribute (.Name y yp) "pop" apos2) [e] [] cq] [] cp) pos) (mAppPop j l m) := fun G0 => PS.imp h fun En σ H ⟨env, G, Ks, er, hm, f⟩ => by
  obtain ⟨p, ds, hp, hm⟩ := ownL_inv hm
  obtain ⟨q, es, hq, hm⟩ := ownL_inv hm
  obtain ⟨a1, a2, a3, a4, ob, a5, a6⟩ := er.own j p _ hp
  obtain ⟨b1, b2, b3, b4, ob2, b5, b6⟩ := er.own l q _ hq
  cases a6 with
  | lst ra =>
    cases b6 with
    | lst rb =>
      refine ⟨.ref p, a1, .inl ⟨rfl, _, .inl (.inl a5)⟩, .ref q, b1, .inl ⟨rfl, _, .inl (.inl b5)⟩, lendE env, _, _, Ks.ex, er.lend.1, er.lend.2, hm, fun d v H1 G1 s1 ok1 r1 k1 => ?_, f.px er.z gLend_ge⟩
      have er1 := er.back s1 ok1
      obtain ⟨i, rfl, rfl⟩ : ∃ i, d = .int i ∧ v = .int i := by cases r1 <;> first | exact (show False from k1).elim | exact ⟨_, rfl, rfl⟩
      obtain ⟨k0, kz, kz2, k1⟩ := k1
      split at k1
      · rename_i y' hy'
        obtain ⟨w, w1, w2⟩ := rb.get hy'
        have hlt : i.toNat < es.length := (List.getElem?_eq_some_iff.mp hy').1
        have npq : p ≠ q := fun e => hjl (er.dis j l p _ _ hp (by rw [e]; exact hq))
        have er2 := er1.write hq (o' := .lst (_ : List V)) (.lst (rb.eraseIdx i.toNat))
        have hp2 : (env.set l (some (.own q (.lst (es.eraseIdx i.toNat)))))[j]? = some (some (Slot.own p (.lst ds))) := by rw [List.getElem?_set_ne (Ne.symm hjl)]; exact hp
        have er3 := er2.write hp2 (o' := .lst (_ : List V)) (.lst (ra.append (.cons w2 .nil)))
        refine ⟨q, _, i, i.toNat, w, rfl, rfl, s1.nh q _ b2 b5, by omega, by omega, ?_, w1, p, _, w, rfl, rfl, ?_, by rw [← ra.length]; exact kz, f.nx _ _ _ G er3 k1⟩
        · rw [← rb.length]
          unfold seqIndex?
          have hh : ¬ i < 0 := by omega
          simp only [hh, if_false]
          rw [if_pos (by rw [Bool.and_eq_true, decide_eq_true_eq, decide_eq_true_eq]; omega)]
        · rw [upd_ne npq]
          exact s1.nh p _ a2 a5
      · exact k1.elim
end
end L3
/-! L3k: the draws -/
namespace L3
open PySem PySem.Spec PyProof.Rows L2
/-- a draw below n -/
@[irreducible] def sp__law_drawn : Spec := fun sa ds Kd _ => ∃ (a : Addr) (n : Int), sa = some a ∧ ds = [.ref a, .int n] ∧ 0 < n ∧ n.natAbs < 2 ^ 9000 ∧ ∀ k, 0 ≤ k → k < n → Kd (.int k)
theorem scr_sq {C : C3} {H : Hp} {sa : Addr} {ns : List Int} (iv : Iv C H) (s : ScrOk C sa ns) : SqL C.K H sa (ns.map V.int) := by
  rcases s with ⟨o, h⟩ | ⟨o, its, n, h1, h2, h3, h4, h5, h6⟩
  · exact .inl (.inr ⟨o, iv.fx _ h⟩)
  · exact .inr ⟨o, its, n, h1, h2, h3, h4, h5, h6⟩
/-- the state's cell written anew -/
theorem st_step {K : PySem.W.Frag} {a sa : Addr} {ns : List Int} {fix : List (Addr × HO)} {tabs : List (Addr × Str)} {H G : Hp} {i m r : Int} (ok : Ok3 ⟨K, some (a, sa, ns), fix, tabs⟩ H G) (hi : 0 ≤ i) (hm : 0 ≤ m) (hm2 : m < 2147483647) (hr : 0 ≤ r) :
    Ok3 ⟨K, some (a, sa, ns), fix, tabs⟩ (upd H a (.lst [.ref sa, .int i, .int m, .int r])) G ∧ Stp ⟨K, some (a, sa, ns), fix, tabs⟩ H G (upd H a (.lst [.ref sa, .int i, .int m, .int r])) G := by
  obtain ⟨⟨i', m', r', hst, _⟩, hs, hf⟩ := ok.iv.st a sa ns rfl
  have spa : (C3.mk K (some (a, sa, ns)) fix tabs).sp a = true := by
    unfold C3.sp
    simp
  refine ⟨⟨⟨fun a' sa' ns' e => ?_, fun p hp => ?_, fun p hp => ?_⟩, fun b o h => ?_, ok.nt⟩, fun b o h1 h2 => ?_, Same.refl _, fun b o h h' => absurd (h.symm.trans h') (fun z => nomatch z)⟩
  · cases e
    exact ⟨⟨i, m, r, upd_same, hi, hm, hm2, hr⟩, hs, hf⟩
  · have np : p.1 ≠ a := fun e => by
      have := List.any_eq_false.mp hf p hp
      simp [e] at this
    show upd H a _ p.1 = _
    rw [upd_ne np]
    exact ok.iv.fx p hp
  · obtain ⟨ps, h, h2, h3⟩ := ok.iv.tb p hp
    have np : p.1 ≠ a := fun e => by
      rw [e, hst] at h
      cases h
    refine ⟨ps, by rw [upd_ne np]; exact h, h2, fun pos cv hc => ?_⟩
    obtain ⟨c, e1, e2⟩ := h3 pos cv hc
    refine ⟨c, e1, ?_⟩
    rw [upd_ne fun z => upd_code hst rfl _ (by rw [← z]; exact e2)]
    exact e2
  · obtain ⟨h1, h2⟩ := ok.sub b o h
    refine ⟨h1, ?_⟩
    have nb : b ≠ a := fun e => by rw [e, spa] at h1; cases h1
    rw [upd_ne nb]
    exact h2
  · have nb : b ≠ a := fun e => by rw [e, spa] at h1; cases h1
    rw [nT_ne nb]
    exact h2
/-- what _law_drawn does -/
def tDrawn (K : PySem.W.Frag) : TS :=
  let ix (j : Int) : TE := tOp (rIxL K) (tVar 0) (tC (.int j))
  let gt : R2 := rI0 fun i j => .bl (decide (j < i))
  let ge : R2 := rI0 fun i j => .bl (decide (j ≤ i))
  let le : R2 := rI0 fun i j => .bl (decide (i ≤ j))
  let ad : R2 := rI0 fun i j => .int (i + j)
  let sb : R2 := rI0 fun i j => .int (i - j)
  let mu : R2 := rI CMul fun i j => .int (i * j)
  let md : R2 := rI (fun _ j => 0 < j) fun i j => .int (i % j)
  let dv : R2 := rI CDivW fun i j => .int (i / j)
  let pw : R2 := rI CPow fun i j => .int (i ^ j.toNat)
  let st (j : Int) (e : TE) : TS := tAsg e (gSub (tVar 0) (tC (.int j)) rSetL)
  tSeq (tIfS (tTest (tOp gt (ix 3) (tC (.int 0)))) (tSeq (tAsg (tOp md (ix 3) (tVar 1)) (gName 2)) (tSeq (st 3 (tOp dv (ix 3) (tVar 1))) (tRet (tVar 2)))) tNext)
  (tSeq (st 1 (tOp ad (ix 1) (tC (.int 1))))
  (tSeq (tIfS (tTest (tOp le (ix 1) (tCB (fun xs H Q => ∃ p ys, xs = [.ref p] ∧ (SqL K H p ys ∨ SqT K H p ys) ∧ Q (.int ys.length) H) (tCons (ix 0) tNil))))
      (tSeq (tAsg (tOp (rIxL K) (ix 0) (tOp sb (ix 1) (tC (.int 1)))) (gName 3)) (tSeq (st 3 (tIf (tTest (tOp ge (tVar 3) (tOp pw (tC (.int 10)) (tC (.int 18))))) (tOp dv (tVar 3) (tVar 1)) (tC (.int 0)))) (tRet (tOp md (tVar 3) (tVar 1))))) tNext)
  (tSeq (st 2 (tOp md (tOp ad (tOp mu (ix 2) (tC (.int 48271))) (tC (.int 11))) (tC (.int 2147483647))))
    (tRet (tOp md (tOp dv (ix 2) (tC (.int 7))) (tVar 1))))))
theorem drawn_ok {K : PySem.W.Frag} {a sa : Addr} {ns : List Int} {fix : List (Addr × HO)} {tabs : List (Addr × Str)} {H G : Hp} {n : Int} {Q : VK} {En : Ends} (ok : Ok3 ⟨K, some (a, sa, ns), fix, tabs⟩ H G) (h0 : 0 < n) (h1 : n.natAbs < 2 ^ 9000)
    (q : ∀ k H', 0 ≤ k → k < n → Ok3 ⟨K, some (a, sa, ns), fix, tabs⟩ H' G → Stp ⟨K, some (a, sa, ns), fix, tabs⟩ H G H' G → En.rt (.int k) H') : tDrawn K En [some (.ref a), some (.int n), none, none] H := by
  obtain ⟨⟨i, m, r, hst, hi, hm, hm2, hr⟩, hs, hf⟩ := ok.iv.st a sa ns rfl
  have sL : ∀ {H' : Hp} {xs : List V}, H' a = some (.lst xs) → SqL K H' a xs := fun h => .inl (.inl h)
  have cd : CDivW r n := wide_div h0 h1 (by decide) (by decide)
  have rn0 : 0 ≤ r / n := Int.ediv_nonneg hr (by omega)
  refine ⟨.ref a, rfl, a, _, 3, .int r, rfl, rfl, sL hst, rfl, r, 0, rfl, rfl, _, rfl, ?_⟩
  refine ite2 (fun c => ?_) (fun c => ?_)
  · refine ⟨.ref a, rfl, a, _, 3, .int r, rfl, rfl, sL hst, rfl, .int n, rfl, r, n, rfl, rfl, h0, ?_⟩
    refine ⟨.ref a, rfl, a, _, 3, .int r, rfl, rfl, sL hst, rfl, .int n, rfl, r, n, rfl, rfl, cd, ?_⟩
    refine ⟨.ref a, rfl, a, _, 3, 3, rfl, rfl, hst, rfl, ?_⟩
    obtain ⟨o1, s1⟩ := st_step ok hi hm hm2 rn0
    exact ⟨_, rfl, q _ _ (Int.emod_nonneg _ (by omega)) (Int.emod_lt_of_pos _ h0) o1 s1⟩
  · refine ⟨.ref a, rfl, a, _, 1, .int i, rfl, rfl, sL hst, rfl, i, 1, rfl, rfl, ?_⟩
    refine ⟨.ref a, rfl, a, _, 1, 1, rfl, rfl, hst, rfl, ?_⟩
    obtain ⟨o1, s1⟩ := st_step ok (show 0 ≤ i + 1 by omega) hm hm2 hr
    have hst1 : (upd H a (.lst [.ref sa, .int (i + 1), .int m, .int r])) a = some (.lst [.ref sa, .int (i + 1), .int m, .int r]) := upd_same
    have scr := scr_sq o1.iv hs
    refine ⟨.ref a, rfl, a, _, 1, .int (i + 1), rfl, rfl, sL hst1, rfl, .ref a, rfl, a, _, 0, .ref sa, rfl, rfl, sL hst1, rfl, sa, _, rfl, .inl scr, i + 1, _, rfl, rfl, _, rfl, ?_⟩
    refine ite2 (fun c2 => ?_) (fun c2 => ?_)
    · have c2 := of_decide_eq_true c2
      rw [List.length_map] at c2
      have hlt : i.toNat < ns.length := by omega
      have hat : atI (ns.map V.int) (i + 1 - 1) = some (.int (ns[i.toNat])) := by
        rw [show i + 1 - 1 = ((i.toNat : Nat) : Int) by omega]
        exact atI_nat (by rw [List.getElem?_map, List.getElem?_eq_getElem hlt]; rfl)
      generalize ns[i.toNat] = z at hat
      refine ⟨.ref a, rfl, a, _, 0, .ref sa, rfl, rfl, sL hst1, rfl, .ref a, rfl, a, _, 1, .int (i + 1), rfl, rfl, sL hst1, rfl, i + 1, 1, rfl, rfl, sa, _, i + 1 - 1, .int z, rfl, rfl, scr, hat, ?_⟩
      refine ⟨.int z, rfl, 10, 18, rfl, rfl, by unfold CPow; decide, z, _, rfl, rfl, _, rfl, ?_⟩
      refine ite2 (fun c3 => ?_) (fun c3 => ?_)
      · have c3 : (10 : Int) ^ (18 : Int).toNat ≤ z := of_decide_eq_true c3
        have c4 : (0 : Int) ≤ z := Int.le_trans (by decide) c3
        refine ⟨.int z, rfl, .int n, rfl, z, n, rfl, rfl, wide_div h0 h1 (by decide) (by decide), ?_⟩
        refine ⟨.ref a, rfl, a, _, 3, 3, rfl, rfl, hst1, rfl, ?_⟩
        obtain ⟨o2, s2⟩ := st_step o1 (show 0 ≤ i + 1 by omega) hm hm2 (Int.ediv_nonneg c4 (by omega) : 0 ≤ z / n)
        exact ⟨.int z, rfl, .int n, rfl, z, n, rfl, rfl, h0, q _ _ (Int.emod_nonneg _ (by omega)) (Int.emod_lt_of_pos _ h0) o2 (s1.trans o2 s2)⟩
      · refine ⟨.ref a, rfl, a, _, 3, 3, rfl, rfl, hst1, rfl, ?_⟩
        obtain ⟨o2, s2⟩ := st_step o1 (show 0 ≤ i + 1 by omega) hm hm2 (Int.le_refl 0)
        exact ⟨.int z, rfl, .int n, rfl, z, n, rfl, rfl, h0, q _ _ (Int.emod_nonneg _ (by omega)) (Int.emod_lt_of_pos _ h0) o2 (s1.trans o2 s2)⟩
    · refine ⟨.ref a, rfl, a, _, 2, .int m, rfl, rfl, sL hst1, rfl, m, 48271, rfl, rfl, .inl ⟨by omega, by omega⟩, _, 11, rfl, rfl, _, 2147483647, rfl, rfl, (show (0 : Int) < 2147483647 by decide), ?_⟩
      refine ⟨.ref a, rfl, a, _, 2, 2, rfl, rfl, hst1, rfl, ?_⟩
      have b0 : 0 ≤ (m * 48271 + 11) % 2147483647 := Int.emod_nonneg _ (by decide)
      have b1 : (m * 48271 + 11) % 2147483647 < 2147483647 := Int.emod_lt_of_pos _ (by decide)
      obtain ⟨o2, s2⟩ := st_step o1 (show 0 ≤ i + 1 by omega) b0 b1 hr
      have e2 : upd (upd H a (.lst [.ref sa, .int (i + 1), .int m, .int r])) a (.lst ([V.ref sa, .int (i + 1), .int m, .int r].set 2 (.int ((m * 48271 + 11) % 2147483647)))) = upd (upd H a (.lst [.ref sa, .int (i + 1), .int m, .int r])) a (.lst [.ref sa, .int (i + 1), .int ((m * 48271 + 11) % 2147483647), .int r]) := rfl
      have hst2 : (upd (upd H a (.lst [.ref sa, .int (i + 1), .int m, .int r])) a (.lst ([V.ref sa, .int (i + 1), .int m, .int r].set 2 (.int ((m * 48271 + 11) % 2147483647))))) a = some (.lst [.ref sa, .int (i + 1), .int ((m * 48271 + 11) % 2147483647), .int r]) := upd_same
      refine ⟨.ref a, rfl, a, _, 2, .int _, rfl, rfl, sL hst2, rfl, _, 7, rfl, rfl, wide_div (by decide) (show (7 : Int).natAbs < 2 ^ 3 by decide) (by decide) (by decide), .int n, rfl, _, n, rfl, rfl, h0, ?_⟩
      exact q _ _ (Int.emod_nonneg _ (by omega)) (Int.emod_lt_of_pos _ h0) o2 (s1.trans o2 s2)

/-- the mixing of the script -/
def spStart (K : PySem.W.Frag) : Sp := fun vs H Q _ => ∃ (a : Addr) (ns : List Int), vs = [.ref a] ∧ SqL K H a (ns.map V.int) ∧ ∀ (p : Addr) (m : Int), H p = none → 0 ≤ m → m < 2147483647 → Q (.ref p) (upd H p (.lst [.ref a, .int 0, .int m, .int 0]))
def tStart (K : PySem.W.Frag) : TS := tSeq (tAsg (tC (.int 1)) (gName 1))
  (tSeq (tFor (iList K (tVar 0)) (gName 2) (tAsg (tOp (rI (fun _ j => 0 < j) fun i j => .int (i % j)) (tOp (rI0 fun i j => .int (i + j)) (tOp (rI0 fun i j => .int (i + j)) (tOp (rI CMul fun i j => .int (i * j)) (tVar 1) (tC (.int 48271))) (tVar 2)) (tC (.int 7))) (tC (.int 2147483647))) (gName 1)))
  (tRet (tLst (tCons (tVar 0) (tCons (tC (.int 0)) (tCons (tVar 1) (tCons (tC (.int 0)) tNil)))))))
theorem start_ok {K : PySem.W.Frag} {a : Addr} {ns : List Int} {H : Hp} {Q : VK} {En : Ends} (hS : SqL K H a (ns.map V.int)) (hq : ∀ (p : Addr) (m : Int), H p = none → 0 ≤ m → m < 2147483647 → En.rt (.ref p) (upd H p (.lst [.ref a, .int 0, .int m, .int 0]))) : tStart K En [some (.ref a), none, none] H := by
  refine ⟨.ref a, rfl, a, rfl, ⟨_, hS⟩, for_list (K := K) (a := a) (xs := ns.map V.int) (fun i σ H' => ∃ (m : Int) (v : Option V), σ = [some (.ref a), some (.int m), v] ∧ H' = H ∧ 0 ≤ m ∧ m < 2147483647) ⟨1, none, rfl, rfl, by decide, by decide⟩ (fun i σ H' _ ⟨_, _, _, e, _⟩ => by rw [e]; exact hS) ?_ ?_⟩
  · rintro i y σ H' hi ⟨m, v, rfl, rfl, h0, h1⟩
    obtain ⟨u, rfl⟩ : ∃ u, y = V.int u := by
      rw [List.getElem?_map] at hi
      cases e : ns[i]? with
      | none =>
        rw [e] at hi
        cases hi
      | some u =>
        rw [e] at hi
        exact ⟨u, (Option.some.inj hi).symm⟩
    exact ⟨.int m, rfl, m, 48271, rfl, rfl, .inl ⟨by omega, by omega⟩, .int u, rfl, _, u, rfl, rfl, _, 7, rfl, rfl, _, 2147483647, rfl, rfl, (show (0 : Int) < 2147483647 by decide), _, some (.int u), rfl, rfl, Int.emod_nonneg _ (by decide), Int.emod_lt_of_pos _ (by decide)⟩
  · rintro σ H' ⟨m, v, rfl, rfl, h0, h1⟩
    exact ⟨_, rfl, _, rfl, by show 4 ≤ sizeLine; decide, fun p hp => hq p m hp h0 h1⟩
theorem pe_either {X : Cx} {e : Expr} {t u : TE} (h : PE X e t) (g : PE X e u) : PE X e (fun σ H Q => t σ H Q ∨ u σ H Q) :=
  ⟨fun pins s σ H Q I w => w.elim (h.run pins s σ H Q I) (g.run pins s σ H Q I)⟩
theorem pss_any {X : Cx} {st : List Stmt} {ι : Type} {t : ι → TS} (h : ∀ i, PSs X st (t i)) : PSs X st (fun En σ H => ∃ i, t i En σ H) :=
  ⟨fun pins s σ H En I ⟨i, w⟩ => (h i).run pins s σ H En I w⟩
/-- the law's first statement: the state is made -/
def tOpen (K : PySem.W.Frag) (E : XK) : TS := tAsg (tCall (spStart K) [] E (tCons (fun σ H Q => tVar 0 σ H Q ∨ tVar 0 σ H fun v H' => ∃ (p : Addr) (u : HO), v = .ref p ∧ H' p = some u ∧ Mut (some u) ∧ ∀ od, Q v (upd H' p (.frz od u))) tNil)) (gName 1)
def spLaw (K : PySem.W.Frag) : Sp := fun vs H Q _ => ∃ (a : Addr) (ns : List Int), vs = [.ref a] ∧ SqL K H a (ns.map V.int) ∧ ∀ v H', v = .bl true → Q v H'
/-- the law's body from its first statement and the plain rest -/
theorem law_l3 {P : Program} {w : World} {K : PySem.W.Frag} {mg : Str → Option Value} {base : Heap} {st first : Stmt} {rest : List Stmt} {f : Addr} {fd : FuncData} {N : List Str} {k : Nat} (F : Fun K "law" "law" st f fd) (S : FnScope N ["_law_script"] (defScope st)) (m : Option Addr → MSt) (hb : defBody st = first :: rest) (hN : 2 ≤ N.length)
    (der : ∀ (cdv : Value) (A : Around) (outer : List Env) (s : Shared) (H : Hp) (E : XK), Room k (A.deeper (envOfC "law" (defScope st) s.heap.objs.size f cdv)) →
      PS (cxOf (L2.CX P w) P w K mg base N "law" (defScope st) f cdv A outer s H E) first (tOpen K E) ∧ ∀ (s0 : Option (Addr × Addr × List Int)) (fix : List (Addr × HO)) (tabs : List (Addr × Str)) (B : Hp),
      MSs (cxOf (L2.CX P w) P w K mg base N "law" (defScope st) f cdv A outer s H E) ⟨K, s0, fix, tabs⟩ E false B rest (m (s0.map (·.1))))
    (pure : ∀ (p a : Addr), m (some p) (some (.sh (.ref a)) :: some (.sh (.ref p)) :: List.replicate (N.length - 2) none) { nx := fun _ => False, rt := fun d => d = .bl true }) :
    FnOk P w K mg base (L2.CX P w) (k + 1) f fd ["_law_script"] (spLaw K) := by
  refine F.okX S (fun vs H Q E h => ?_) (fun cdv A outer s H vs Q E hr h => ?_)
  · obtain ⟨a, ns, rfl, _⟩ := h
    rfl
  · obtain ⟨a, ns, rfl, hS, hq⟩ := h
    obtain ⟨d1, d2⟩ := der cdv A outer s H E hr
    rw [hb]
    refine ⟨_, pss_cons d1 (pss_any (ι := (Option (Addr × Addr × List Int)) × List (Addr × HO)) fun i => d2 i.1 i.2 [] (fun _ => none) (fun _ => none)), ?_⟩
    have eS : (L2.start N [V.ref a] : L2.St) = some (.ref a) :: none :: List.replicate (N.length - 2) none := by
      unfold L2.start
      show some (V.ref a) :: List.replicate (N.length - 1) none = _
      rw [show N.length - 1 = (N.length - 2) + 1 by omega, List.replicate_succ]
    rw [eS]
    -- the rest, once the script stays
    have go : ∀ (H0 : Hp) (fix : List (Addr × HO)), (∀ p ∈ fix, H0 p.1 = some p.2) → ScrOk ⟨K, none, fix, []⟩ a ns → SqL K H0 a (ns.map V.int) → spStart K ([V.ref a] ++ []) H0 (fun v H1 => gName 1 v (some (.ref a) :: none :: List.replicate (N.length - 2) none) H1 fun σ H2 => ∃ i : (Option (Addr × Addr × List Int)) × List (Addr × HO), liftS ⟨K, i.1, i.2, []⟩ mg E false (fun _ => none) (fun _ => none) (m (i.1.map (·.1))) { nx := fun _ H => Q .non H, rt := Q } σ H2) E := by
      intro H0 fix hfix hscr hS0
      refine ⟨a, ns, rfl, hS0, fun p mm hp h0 h1 => ?_⟩
      refine ⟨(some (p, a, ns), fix), some (.sh (.ref a)) :: some (.sh (.ref p)) :: List.replicate (N.length - 2) none, fun _ => none, _, ?_, pure p a, ?_⟩
      · refine ⟨⟨⟨⟨fun a' sa' ns' e => ?_, fun q hq' => ?_, fun q hq' => (nomatch hq')⟩, fun _ _ h => (nomatch h), fun _ _ h => (nomatch h)⟩, fun _ _ h => (nomatch h), fun _ _ _ h => (nomatch h), fun _ _ _ h => (nomatch h)⟩, ?_, fun i d h => ?_, fun i q d h => ?_, fun i j q d e h _ => ?_⟩
        · cases e
          refine ⟨⟨0, mm, 0, upd_same, by decide, h0, h1, by decide⟩, hscr, ?_⟩
          rw [List.any_eq_false]
          intro q hq' e
          have e := of_decide_eq_true e
          have := hfix q hq'
          rw [e, hp] at this
          cases this
        · have nq : q.1 ≠ p := fun e => by
            have := hfix q hq'
            rw [e, hp] at this
            cases this
          show upd H0 p _ q.1 = _
          rw [upd_ne nq]
          exact hfix q hq'
        · simp
        · match i, h with
          | 0, h => cases h; exact ⟨_, rfl, .ref a⟩
          | 1, h => cases h; exact ⟨_, rfl, .ref p⟩
          | i + 2, h =>
            have h : (List.replicate (N.length - 2) (none : Option Slot))[i]? = some (some (.sh d)) := h
            rw [List.getElem?_replicate] at h
            split at h <;> cases h
        · match i, h with
          | 0, h => cases h
          | 1, h => cases h
          | i + 2, h =>
            have h : (List.replicate (N.length - 2) (none : Option Slot))[i]? = some (some (.own q d)) := h
            rw [List.getElem?_replicate] at h
            split at h <;> cases h
        · match i, h with
          | 0, h => cases h
          | 1, h => cases h
          | i + 2, h =>
            have h : (List.replicate (N.length - 2) (none : Option Slot))[i]? = some (some (.own q d)) := h
            rw [List.getElem?_replicate] at h
            split at h <;> cases h
      · refine ⟨fun _ _ _ _ _ k => k.elim, fun _ _ _ _ _ k => k.elim, fun _ _ _ _ _ k => k.elim, fun d v H' G' z rr k => ?_, fun x cls d H' k => k.elim⟩
        have rr : Rp K G' d v := rr
        rw [k] at rr
        cases rr
        exact hq _ _ rfl
    rcases hS with (h | ⟨o, h⟩) | ⟨o, its, n, h1, h2, h3, h4, h5, h6⟩
    · refine .inr ⟨.ref a, rfl, a, _, rfl, h, trivial, fun od => ?_⟩
      exact go (upd H a (.frz od (.lst (ns.map V.int)))) [(a, .frz od (.lst (ns.map V.int)))] (fun p hp => by
        rw [List.mem_singleton] at hp
        subst hp
        exact upd_same) (.inl ⟨od, List.mem_singleton.mpr rfl⟩) (.inl (.inr ⟨od, upd_same⟩))
    · refine .inl ⟨.ref a, rfl, ?_⟩
      exact go H [(a, .frz o (.lst (ns.map V.int)))] (fun p hp => by
        rw [List.mem_singleton] at hp
        subst hp
        exact h) (.inl ⟨o, List.mem_singleton.mpr rfl⟩) (.inl (.inr ⟨o, h⟩))
    · refine .inl ⟨.ref a, rfl, ?_⟩
      exact go H [] (fun p hp => by cases hp) (.inr ⟨o, its, n, h1, h2, h3, h4, h5, h6⟩) (.inr ⟨o, its, n, h1, h2, h3, h4, h5, h6⟩)
end L3
/-! L3l: plain tools: equality of data, loops, comprehensions -/
namespace L3
open PySem PySem.Spec PyProof.Rows L2
/-- a whole number that the top has bound -/
theorem me_globI {X : Cx} {C : C3} {E : XK} {x : Str} {i : Int} {pos : Pos} (h : ∃ t, X.mg x = some (.int i t)) (hg : Gl X x) (hd : (x == ("__debug__" : Str)) = false := by decide) : ME X C E (.Name x pos) (mC (.int i)) := by
  obtain ⟨t, h⟩ := h
  exact me_c (v := .int i) (pe_glob hg h ⟨t, rfl⟩ hd) fun _ => .int i
/-! ### data that can be told apart -/
inductive Dk : Nat → D → Prop
  | non (n) : Dk n .non
  | bl (n b) : Dk n (.bl b)
  | int (n i) : Dk n (.int i)
  | str (n x) : PyData.strOk x = true → Dk n (.str x)
  | lst (n ds) : (∀ d ∈ ds, Dk n d) → Dk (n + 1) (.lst ds)
  | tup (n ds) : (∀ d ∈ ds, Dk n d) → Dk (n + 1) (.tup ds)
theorem pls_all : ∀ {ds : List D}, (∀ d ∈ ds, d.pl = true) → D.pls ds = true
  | [], _ => rfl
  | d :: r, h => by
    show (d.pl && D.pls r) = true
    rw [h d List.mem_cons_self, pls_all fun e he => h e (List.mem_cons_of_mem _ he)]
    rfl
theorem lays_all : ∀ {ds : List PyData}, (∀ d ∈ ds, d.canLay0 = true) → PyData.canLayAll0 ds = true
  | [], _ => by simp [PyData.canLayAll0]
  | d :: r, h => by
    rw [PyData.canLayAll0, h d List.mem_cons_self, lays_all fun e he => h e (List.mem_cons_of_mem _ he)]
    rfl
theorem depth_all {n : Nat} : ∀ {ds : List PyData}, (∀ d ∈ ds, d.depth ≤ n) → PyData.depthAll ds ≤ n
  | [], _ => by simp [PyData.depthAll]
  | d :: r, h => by
    rw [PyData.depthAll]
    exact Nat.max_le.mpr ⟨h d List.mem_cons_self, depth_all fun e he => h e (List.mem_cons_of_mem _ he)⟩
theorem Dk.all {n : Nat} {d : D} (h : Dk n d) : d.pl = true ∧ d.py.canLay0 = true ∧ d.py.depth ≤ n := by
  induction h with
  | non n => exact ⟨rfl, by simp [D.py, PyData.canLay0], by simp [D.py, PyData.depth]⟩
  | bl n b => exact ⟨rfl, by simp [D.py, PyData.canLay0], by simp [D.py, PyData.depth]⟩
  | int n i => exact ⟨rfl, by simp [D.py, PyData.canLay0], by simp [D.py, PyData.depth]⟩
  | str n x h => exact ⟨rfl, by simpa [D.py, PyData.canLay0] using h, by simp [D.py, PyData.depth]⟩
  | lst n ds h ih =>
    refine ⟨pls_all fun d hd => (ih d hd).1, ?_, ?_⟩
    · rw [D.py, PyData.canLay0, pys_map]
      exact lays_all fun e he => by
        obtain ⟨d, hd, rfl⟩ := List.mem_map.mp he
        exact (ih d hd).2.1
    · rw [D.py, PyData.depth, pys_map]
      exact Nat.succ_le_succ (depth_all fun e he => by
        obtain ⟨d, hd, rfl⟩ := List.mem_map.mp he
        exact (ih d hd).2.2)
  | tup n ds h ih =>
    refine ⟨pls_all fun d hd => (ih d hd).1, ?_, ?_⟩
    · rw [D.py, PyData.canLay0, pys_map]
      exact lays_all fun e he => by
        obtain ⟨d, hd, rfl⟩ := List.mem_map.mp he
        exact (ih d hd).2.1
    · rw [D.py, PyData.depth, pys_map]
      exact Nat.succ_le_succ (depth_all fun e he => by
        obtain ⟨d, hd, rfl⟩ := List.mem_map.mp he
        exact (ih d hd).2.2)
theorem Dk.pl {n : Nat} {d : D} (h : Dk n d) : d.pl = true := h.all.1
theorem Dk.shaped {n : Nat} {d : D} (h : Dk n d) (hn : n ≤ 64) : SeqAt.shaped d.py = true := by
  unfold SeqAt.shaped
  rw [h.all.2.1, decide_eq_true (Nat.le_trans h.all.2.2 hn)]
  rfl
theorem Dk.refl {n : Nat} {d : D} (h : Dk n d) : PyData.eqv d.py d.py = true := SeqAt.eqv_refl _ h.all.2.1
theorem Dk.mono {n m : Nat} {d : D} (h : Dk n d) (hn : n ≤ m) : Dk m d := by
  induction h generalizing m with
  | non n => exact .non _
  | bl n b => exact .bl _ b
  | int n i => exact .int _ i
  | str n x h => exact .str _ x h
  | lst n ds h ih =>
    cases m with
    | zero => omega
    | succ m => exact .lst _ _ fun d hd => ih d hd (by omega)
  | tup n ds h ih =>
    cases m with
    | zero => omega
    | succ m => exact .tup _ _ fun d hd => ih d hd (by omega)
/-- equality, however the two are told: eqE from eqG -/
theorem eqE_of {neg : Bool} {n : Nat} {d e : D} {K : D → Prop} {b : Bool} (hd : Dk n d) (he : Dk n e) (hn : n ≤ 64) (h : PyData.eqv d.py e.py = b) (k : K (.bl (if neg then !b else b))) : eqE neg d e K := by
  have g : eqG neg d e K := ⟨hd.pl, he.pl, hd.shaped hn, he.shaped hn, by rw [h]; exact k⟩
  have dx : ∀ x y : Bool, (x == y) = decide (x = y) := fun x y => by cases x <;> cases y <;> rfl
  unfold eqE
  cases d <;> cases e <;> first
    | exact g
    | (show K _
       simp only [D.py, PyData.eqv] at h
       first
         | (rename_i i j
            have e2 : decide (i = j) = b := by rw [← h]; first | exact (dx _ _).symm | (by_cases c : i = j <;> simp [c])
            rw [e2]
            exact k))
theorem eqE_refl {neg : Bool} {n : Nat} {d : D} {K : D → Prop} (hd : Dk n d) (hn : n ≤ 64) (k : K (.bl (!neg))) : eqE neg d d K := eqE_of hd hd hn hd.refl (by cases neg <;> exact k)
theorem eqE_nil {neg : Bool} {n : Nat} {xs : List D} {K : D → Prop} (hd : Dk n (.lst xs)) (hn : n ≤ 64) (k : K (.bl (if neg then !xs.isEmpty else xs.isEmpty))) : eqE neg (.lst xs) (.lst []) K := by
  cases n with
  | zero => cases hd
  | succ n => exact eqE_of hd (.lst _ _ (by simp)) hn (by cases xs <;> simp [D.py, D.pys, PyData.eqv, PyData.eqvAll]) k
theorem beqI (i j : Int) : (i == j) = decide (i = j) := by by_cases c : i = j <;> simp [c]
def optD : Option Int → D
  | none => .non
  | some i => .int i
theorem eqE_opt {neg : Bool} {o p : Option Int} {K : D → Prop} (k : K (.bl (if neg then !decide (o = p) else decide (o = p)))) : eqE neg (optD o) (optD p) K := by
  have dk : ∀ o, Dk 0 (optD o) := fun o => by cases o <;> constructor
  refine eqE_of (dk o) (dk p) (by decide) ?_ k
  cases o <;> cases p <;> simp [optD, D.py, PyData.eqv, beqI]
theorem eqE_int {neg : Bool} {i j : Int} {K : D → Prop} (k : K (.bl (if neg then !decide (i = j) else decide (i = j)))) : eqE neg (.int i) (.int j) K := by unfold eqE; exact k
theorem eqE_str {neg : Bool} {i j : Str} {K : D → Prop} (k : K (.bl (if neg then !decide (i = j) else decide (i = j)))) : eqE neg (.str i) (.str j) K := by
  unfold eqE
  exact k
theorem flat_ints (ns : List Int) : (ns.map D.int).all flatD = true := by
  induction ns with
  | nil => rfl
  | cons n r ih => rw [List.map_cons, List.all_cons, ih]; rfl
theorem inV_ints (i : Int) : ∀ ns : List Int, inV (.int i) (ns.map V.int) = decide (i ∈ ns)
  | [] => by simp [inV]
  | n :: r => by
    have ih := inV_ints i r
    unfold inV at ih ⊢
    simp only [List.map_cons, List.any_cons] at ih ⊢
    rw [ih]
    have e : eqV (.int n) (.int i) = (n == i) := rfl
    rw [e]
    by_cases c : i = n
    · subst c; simp
    · have c2 : n ≠ i := fun e => c e.symm
      simp [c, c2]
theorem fv_ints (ns : List Int) : (ns.map D.int).map fv = ns.map V.int := by rw [List.map_map]; rfl
theorem inS_lst {neg : Bool} {i : Int} {ns : List Int} {K : D → Prop} (k : K (.bl (if neg then !decide (i ∈ ns) else decide (i ∈ ns)))) : inS neg (.int i) (.lst (ns.map D.int)) K := by
  unfold inS
  exact ⟨rfl, flat_ints ns, by rw [fv_ints]; show K (.bl (if neg then !inV (.int i) _ else inV (.int i) _)); rw [inV_ints]; exact k⟩
theorem inS_tup {neg : Bool} {i : Int} {ns : List Int} {K : D → Prop} (k : K (.bl (if neg then !decide (i ∈ ns) else decide (i ∈ ns)))) : inS neg (.int i) (.tup (ns.map D.int)) K := by
  unfold inS
  exact ⟨rfl, flat_ints ns, by rw [fv_ints]; show K (.bl (if neg then !inV (.int i) _ else inV (.int i) _)); rw [inV_ints]; exact k⟩
theorem ixD_lst {xs : List D} {i : Int} {d : D} {K : D → Prop} (h : atI xs i = some d) (k : K d) : ixD (.lst xs) (.int i) K := by
  unfold ixD
  dsimp only
  rw [h]
  exact k
theorem ixD_tup {xs : List D} {i : Int} {d : D} {K : D → Prop} (h : atI xs i = some d) (k : K d) : ixD (.tup xs) (.int i) K := by
  unfold ixD
  dsimp only
  rw [h]
  exact k
theorem intsOf_ints : ∀ ns : List Int, intsOf (ns.map D.int) = some ns
  | [] => rfl
  | n :: ns => by
    show (intsOf (ns.map D.int)).map _ = _
    rw [intsOf_ints ns]
    rfl
theorem sortedD_ints {ns : List Int} {K : D → Prop} (k : K (.lst ((sortI ns).map D.int))) : sortedD [.lst (ns.map D.int)] K := by
  unfold sortedD
  dsimp only
  rw [intsOf_ints]
  exact k
theorem sortedD_dic {kvs : List (Int × D)} {K : D → Prop} (k : K (.lst ((sortI (kvs.map (·.1))).map D.int))) : sortedD [.dic kvs] K := by
  unfold sortedD
  exact k
theorem minL_ints {n : Int} {ns : List Int} {K : D → Prop} (k : K (.int (minI n ns))) : minL [.lst ((n :: ns).map D.int)] K := by
  unfold minL
  dsimp only
  rw [intsOf_ints]
  exact k
theorem get1_of {kvs : List (Int × D)} {i : Int} {K : D → Prop} (k : K ((valD kvs i).getD .non)) : get1 (.dic kvs) (.int i) K := by
  unfold get1
  exact k
theorem getK_of {kvs : List (Int × D)} {i : Int} {d : D} {K : D → Prop} (h : valD kvs i = some d) (k : K d) : getK (.dic kvs) (.int i) K := by
  unfold getK
  dsimp only
  rw [h]
  exact k
/-! ### loops -/
theorem forD_at {t : Tgt} {b : MSt} {Ks : KS} {ds : List D} {env : EnvS} (I : Nat → EnvS → Prop) (h0 : I 0 env)
    (hs : ∀ i d env (nx : EnvS → Prop), ds[i]? = some d → I i env → (∀ e, I (i + 1) e → nx e) → ∃ l, bindT t d = some l ∧ b (setS env l) { Ks with nx := nx, ct := nx, bk := Ks.nx })
    (hd : ∀ env, I ds.length env → Ks.nx env) : forD t b Ks ds env := by
  have go : ∀ (es : List D) (i : Nat) (env : EnvS), ds = ds.take i ++ es → i + es.length = ds.length → I i env → forD t b Ks es env := by
    intro es
    induction es with
    | nil => intro i env e hl hI; exact hd env (by rw [show ds.length = i by simpa using hl.symm]; exact hI)
    | cons d es ih =>
      intro i env e hl hI
      have hi : i < ds.length := by rw [← hl, List.length_cons]; omega
      have hget : ds[i]? = some d := by
        rw [e, List.getElem?_append_right (by rw [List.length_take]; omega), List.length_take, Nat.min_eq_left (Nat.le_of_lt hi)]
        simp
      obtain ⟨l, h1, h2⟩ := hs i d env (forD t b Ks es) hget hI fun e2 h2 => ih (i + 1) e2 (by
        rw [List.take_add_one, hget, List.append_assoc]
        exact e) (by rw [← hl, List.length_cons]; omega) h2
      exact ⟨l, h1, h2⟩
  exact go ds 0 env (by simp) (by simp) h0
theorem forD_all {t : Tgt} {b : MSt} {Ks : KS} {ds : List D} {env : EnvS} (I : EnvS → Prop) (h0 : I env)
    (hs : ∀ d ∈ ds, ∀ env (nx : EnvS → Prop), I env → (∀ e, I e → nx e) → ∃ l, bindT t d = some l ∧ b (setS env l) { Ks with nx := nx, ct := nx, bk := Ks.nx })
    (hd : ∀ env, I env → Ks.nx env) : forD t b Ks ds env :=
  forD_at (fun _ => I) h0 (fun i d env nx hi hI hn => hs d (List.mem_of_getElem? hi) env nx hI hn) hd
/-! ### comprehensions -/
def lcS (t : Tgt) (tt : MTt) (te : MEt) (env : EnvE) (d : D) (K : Option D → Prop) : Prop := ∃ l, bindT t d = some l ∧ tt (setE env l) (fun b => if b = true then te (setE env l) (fun y => K (some y)) (fun _ => False) else K none) (fun _ => False)
theorem lcD_step {t : Tgt} {tt : MTt} {te : MEt} {env : EnvE} {d : D} {ds : List D} {K : List D → Prop} (h : lcS t tt te env d fun o => match o with
    | some y => lcD t tt te env ds fun r => K (y :: r)
    | none => lcD t tt te env ds K) : lcD t tt te env (d :: ds) K := h
theorem lcD_fm {t : Tgt} {tt : MTt} {te : MEt} {env : EnvE} (g : D → Option D) : ∀ {ds : List D} {K : List D → Prop}, (∀ d ∈ ds, ∀ K : Option D → Prop, K (g d) → lcS t tt te env d K) → K (ds.filterMap g) → lcD t tt te env ds K
  | [], K, _, k => k
  | d :: ds, K, h, k => by
    refine lcD_step (h d List.mem_cons_self _ ?_)
    rw [List.filterMap_cons] at k
    cases q : g d with
    | none =>
      rw [q] at k
      exact lcD_fm g (fun e he => h e (List.mem_cons_of_mem _ he)) k
    | some y =>
      rw [q] at k
      exact lcD_fm g (K := fun r => K (y :: r)) (fun e he => h e (List.mem_cons_of_mem _ he)) k
theorem lcD_any {t : Tgt} {tt : MTt} {te : MEt} {env : EnvE} (P : D → Prop) : ∀ {ds : List D} {K : List D → Prop}, (∀ d ∈ ds, ∀ K : Option D → Prop, (∀ y, P y → K (some y)) → lcS t tt te env d K) → (∀ r, r.length = ds.length → (∀ y ∈ r, P y) → K r) → lcD t tt te env ds K
  | [], K, _, k => k [] rfl (by simp)
  | d :: ds, K, h, k => by
    refine lcD_step (h d List.mem_cons_self _ fun y hy => ?_)
    exact lcD_any P (K := fun r => K (y :: r)) (fun e he => h e (List.mem_cons_of_mem _ he)) fun r hr hp => k (y :: r) (by rw [List.length_cons, List.length_cons, hr]) fun z hz => by
      rcases List.mem_cons.mp hz with e | e
      · rw [e]; exact hy
      · exact hp z e
theorem fm_map {α β : Type} (f : α → D) (g : D → Option D) (h : α → Option β) (f' : β → D) (l : List α) (e : ∀ a ∈ l, g (f a) = (h a).map f') : (l.map f).filterMap g = (l.filterMap h).map f' := by
  induction l with
  | nil => rfl
  | cons a l ih =>
    rw [List.map_cons, List.filterMap_cons, List.filterMap_cons, e a List.mem_cons_self, ih fun b hb => e b (List.mem_cons_of_mem _ hb)]
    cases h a <;> rfl
theorem sz_ok {n : Nat} (h : n ≤ 16777216) : n ≤ sizeLine := by rw [sizeLine_eq]; exact h
theorem sz_lt {n : Nat} (h : n < 16777216) : n < sizeLine := by rw [sizeLine_eq]; exact h
/-! ### counting -/
theorem nodup_len {l : List Int} {b : Nat} (hn : l.Nodup) (hb : ∀ x ∈ l, 0 ≤ x ∧ x < (b : Int)) : l.length ≤ b := by
  induction b generalizing l with
  | zero =>
    cases l with
    | nil => simp
    | cons x r => have := hb x List.mem_cons_self; omega
  | succ b ih =>
    have h1 : (l.erase (b : Int)).length ≤ b := ih (hn.erase _) fun x hx => by
      have h2 := (List.Nodup.mem_erase_iff hn).mp hx
      have h3 := hb x h2.2
      have h4 : x ≠ (b : Int) := h2.1
      omega
    have h5 : l.length ≤ (l.erase (b : Int)).length + 1 := by
      rw [List.length_erase]
      split <;> omega
    omega
theorem nodup_lenI {l : List Int} {b : Int} (h0 : 0 ≤ b) (hn : l.Nodup) (hb : ∀ x ∈ l, 0 ≤ x ∧ x < b) : (l.length : Int) ≤ b := by
  have := nodup_len (b := b.toNat) hn fun x hx => by
    have := hb x hx
    omega
  omega
end L3
/-! L3m: chains of three -/
namespace L3
open PySem PySem.Spec PyProof.Rows L2
def tChain3 (r r' r2 : R2) (ta tb tc td : TE) : TE := fun σ H Q => ta σ H fun x H1 => tb σ H1 fun y H2 => r x y H2 fun z H3 => ∃ k, z = .bl k ∧
  (if k = true then tc σ H3 fun w H4 => r' y w H4 fun z' H5 => ∃ k', z' = .bl k' ∧ (if k' = true then td σ H5 fun u H6 => r2 w u H6 Q else Q (.bl false) H5) else Q (.bl false) H3)
section
variable {X : Cx} {a b c d : Expr} {ta tb tc td : TE} {r r' r2 : R2} {pos : Pos} {C : C3} {E : XK} {ma mb mc md : MEt} {f f' f2 : D → D → (D → Prop) → Prop} {mg : Str → Option Value}
theorem pt_chain3 {op op' op2 : CmpOp} (ho : OpR X (compareOp op) r) (ho' : OpR X (compareOp op') r') (ho2 : OpR X (compareOp op2) r2) (ha : PE X a ta) (hb : PE X b tb) (hc : PE X c tc) (hd : PE X d td)
    (hm : lastMarks [op, op', op2] [b, c, d] = false := by with_unfolding_all rfl) : PT X (.Compare a [op, op', op2] [b, c, d] pos) (tTest (tChain3 r r' r2 ta tb tc td)) := by
  refine ⟨fun pins s σ H Q I h => ?_⟩
  refine isTrue_chain (thn (ha.run pins s σ H _ I h) fun v s1 ⟨x, H1, I1, r1, q1⟩ => test_link (thn (hb.run pins s1 σ H1 _ I1 q1) fun u s2 ⟨y, H2, I2, rr2, q2⟩ =>
    thn (ho pins s2 σ H2 x y v u _ I2 r1 rr2 q2) fun d s3 ⟨z, H3, I3, r3, k, e, q3⟩ => ?_)) hm
  subst e
  cases r3
  refine wpAny_truthy_bool ?_
  cases k with
  | false =>
    obtain ⟨k', e', q'⟩ := q3
    cases e'
    exact ite_ff ⟨H3, I3, q'⟩
  | true =>
    refine ite_tt (test_link (thn (hc.run pins s3 σ H3 _ I3 q3) fun w' s4 ⟨z', H4, I4, r4, q4⟩ => thn (ho' pins s4 σ H4 y z' u w' _ I4 rr2 r4 q4) fun d' s5 ⟨z2, H5, I5, r5, k2, e2, q5⟩ => ?_))
    subst e2
    cases r5
    refine wpAny_truthy_bool ?_
    cases k2 with
    | false =>
      obtain ⟨k', e', q'⟩ := q5
      cases e'
      exact ite_ff ⟨H5, I5, q'⟩
    | true =>
      refine ite_tt (test_last (thn (hd.run pins s5 σ H5 _ I5 q5) fun w2 s6 ⟨z3, H6, I6, r6, q6⟩ => thn (ho2 pins s6 σ H6 z' z3 w' w2 _ I6 r4 r6 q6) fun d2 s7 ⟨z4, H7, I7, r7, k3, e3, q7⟩ => ?_))
      subst e3
      cases r7
      exact wpAny_truthy_bool ⟨H7, I7, q7⟩
def m4 (f f' f2 : D → D → (D → Prop) → Prop) (ma mb mc md : MEt) : MEt := fun env Kd KX => ma env (fun d => mb env (fun e => f d e fun z => isB z fun k => if k = true then mc env (fun g => f' e g fun z' => isB z' fun k' => if k' = true then md env (fun h => f2 g h Kd) KX else Kd (.bl false)) KX else Kd (.bl false)) KX) KX
theorem lift4 (ho : OpD C r f) (ho' : OpD C r' f') (ho2 : OpD C r2 f2) {σ : L2.St} {H : Hp} {Q : VK} (h : lift C mg E (m4 f f' f2 ma mb mc md) σ H Q) : tChain3 r r' r2 (lift C mg E ma) (lift C mg E mb) (lift C mg E mc) (lift C mg E md) σ H Q := by
  obtain ⟨env, G, Kd, KX, ok, vr, hm, pv, px⟩ := h
  refine ⟨env, G, _, KX, ok, vr, hm, fun d x H1 G1 s1 ok1 r1 k1 => ⟨env, G1, _, KX, ok1, vr.mono s1.ge, k1, fun e y H2 G2 s2 ok2 r2 k2 =>
    ho x y d e H2 G2 _ _ ok2 (r1.mono s2.ge) r2 k2 fun z v H3 G3 s3 ok3 r3 k3 => ?_, px.on ok s1⟩, px⟩
  have k3 : isB z _ := k3
  have s02 := s1.trans ok2 s2
  have s03 := s02.trans ok3 s3
  obtain ⟨k, rfl, rfl⟩ : ∃ k, z = .bl k ∧ v = .bl k := by cases r3 <;> first | exact k3.elim | exact ⟨_, rfl, rfl⟩
  refine ⟨k, rfl, ?_⟩
  cases k with
  | false => exact pv _ _ _ _ s03 ok3 (.bl false) k3
  | true =>
    refine ⟨env, G3, _, KX, ok3, vr.mono s03.ge, k3, fun g w H4 G4 s4 ok4 r4 k4 => ho' y w e g H4 G4 _ _ ok4 (r2.mono (s3.ge.trans s4.ge)) r4 k4 fun z' v' H5 G5 s5 ok5 r5 k5 => ?_, px.on ok s03⟩
    have k5 : isB z' _ := k5
    have s05 := (s03.trans ok4 s4).trans ok5 s5
    obtain ⟨k', rfl, rfl⟩ : ∃ k, z' = .bl k ∧ v' = .bl k := by cases r5 <;> first | exact k5.elim | exact ⟨_, rfl, rfl⟩
    refine ⟨k', rfl, ?_⟩
    cases k' with
    | false => exact pv _ _ _ _ s05 ok5 (.bl false) k5
    | true => exact ⟨env, G5, _, KX, ok5, vr.mono s05.ge, k5, fun h u H6 G6 s6 ok6 r6 k6 => ho2 w u g h H6 G6 Kd Q ok6 (r4.mono (s5.ge.trans s6.ge)) r6 k6 (pv.on (s05.trans ok6 s6)), px.on ok s05⟩
theorem mt_leLeLt (ha : ME X C E a ma) (hb : ME X C E b mb) (hc : ME X C E c mc) (hd : ME X C E d md) (hm : lastMarks [.LtE, .LtE, .Lt] [b, c, d] = false := by with_unfolding_all rfl) : MT X C E (.Compare a [.LtE, .LtE, .Lt] [b, c, d] pos) (mB (m4 (ordD pLe) (ordD pLe) (ordD pLt) ma mb mc md)) :=
  PT.imp (pt_chain3 op_le op_le op_lt ha hb hc hd hm) fun _ _ _ h => lift4 (od_ord pLe) (od_ord pLe) (od_ord pLt) (liftB h)
end
/-! ### a loop over a list of its own that the body leaves -/
def forOD (j : Nat) (t : Tgt) (b : MSt) (Ks : KS) (w : Slot) : List D → EnvS → Prop
  | [], env => env[j]? = some (some w) ∧ Ks.nx env
  | d :: ds, env => env[j]? = some (some w) ∧ ∃ l, bindT t d = some l ∧ b (setS env l) { Ks with nx := forOD j t b Ks w ds, ct := forOD j t b Ks w ds, bk := Ks.nx }
def mForO (j : Nat) (t : Tgt) (b : MSt) : MSt := fun env Ks => ownL env j fun p ds => forOD j t b Ks (.own p (.lst ds)) ds env
theorem ms_forO {X : Cx} {C : C3} {E : XK} {fr : Bool} {B : Hp} {tg iter : Expr} {a : List Stmt} {pos : Pos} {ms : MSt} {t : Tgt} (j : Nat) (hp : PassesOwn (model X.prog X.w) X.A X.env X.xe) (hc : X.calm = true) (hK : X.K = C.K) (hi : PI X tg iter (iList X.K (tVar j))) (hg : PG X tg (gOf X.K t)) (hb : MSs X C E fr B a ms)
    (hs : ∀ x, foldedSetIterable iter X.env x = pure x := by intro _; rfl) : MS X C E fr B (.For tg iter a [] pos) (mForO j t ms) := fun G0 => by
  have hb' : PSs X a (fun En σ H => ∃ Gi, liftS C X.mg E fr B Gi ms En σ H) := ⟨fun pins s σ H En I ⟨Gi, h⟩ => (hb Gi).run pins s σ H En I h⟩
  refine PS.imp (ps_for hp hc hi hg hb' hs) fun En σ H ⟨env, G, Ks, er, hm, f⟩ => ?_
  obtain ⟨p, ds, hq, hm⟩ := ownL_inv hm
  obtain ⟨h1, h2, h3, h4, ob, h5, h6⟩ := er.own j p _ hq
  cases h6 with
  | lst rl =>
    refine ⟨.ref p, h1, p, rfl, ⟨_, .inl (.inl h5)⟩, ?_⟩
    have er1 : ER C B G H G env σ := ⟨⟨er.z.ok, Same.refl _, fun a o h h' => absurd (h.symm.trans h') (fun z => nomatch z), er.z.keep⟩, er.len, er.sh, er.own, er.dis⟩
    have f1 := f.up er.z
    refine ⟨fun i m σ H => m = ds.length - i ∧ i ≤ ds.length ∧ ∃ env G2, ER C B G H G2 env σ ∧ forOD j t ms Ks (.own p (.lst ds)) (ds.drop i) env, ⟨ds.length, by simp, Nat.zero_le _, env, G, er1, by simpa using hm⟩, ?_⟩
    rintro i m σ2 H2 ⟨rfl, hi2, env2, G2, er2, k2⟩
    by_cases hlt : i < ds.length
    · have hd : ds[i]? = some ds[i] := List.getElem?_eq_getElem hlt
      rw [List.drop_eq_getElem_cons hlt] at k2
      obtain ⟨hat, l, hb2, k2⟩ := k2
      obtain ⟨_, _, _, _, ob2, h5', h6'⟩ := er2.own j p _ hat
      cases h6' with
      | lst rl2 =>
        obtain ⟨v, hv, rv⟩ := rl2.get hd
        refine .inr ⟨⟨_, v, .inl (.inl h5'), hv⟩, fun σ' H' => i + 1 ≤ ds.length ∧ ∃ env G2, ER C B G H' G2 env σ' ∧ forOD j t ms Ks (.own p (.lst ds)) (ds.drop (i + 1)) env, fun σ' H' hn => ⟨ds.length - (i + 1), by omega, rfl, hn⟩, fun x H3 yy => ?_⟩
        obtain ⟨rfl, hx⟩ := yy
        have ex := hx _ (.inl (.inl h5'))
        rw [hv] at ex
        cases ex
        refine gOf_ok (fun a o q => (er2.z.ok.sub a o q).2) (by rw [hK]; exact rv) hb2 fun ws pw _ => ⟨G, _, G2, _, ER.setAll (by rw [← hK]; exact pw) er2, k2, ?_⟩
        exact ⟨fun env σ H G er k => ⟨hlt, env, G, er, k⟩, fun env σ H G er k => f1.nx env σ H G er k, fun env σ H G er k => ⟨hlt, env, G, er, k⟩, f1.rt, f1.ex⟩
    · have e : i = ds.length := by omega
      subst e
      rw [List.drop_length] at k2
      obtain ⟨hat, k2⟩ := k2
      obtain ⟨_, _, _, _, ob2, h5', h6'⟩ := er2.own j p _ hat
      cases h6' with
      | lst rl2 => exact .inl ⟨⟨_, .inl (.inl h5'), by rw [← rl2.length]; exact Nat.le_refl _⟩, f1.nx env2 σ2 H2 G2 er2 k2⟩
theorem forOD_at {j : Nat} {t : Tgt} {b : MSt} {Ks : KS} {w : Slot} {ds : List D} {env : EnvS} (I : Nat → EnvS → Prop) (h0 : I 0 env)
    (hw : ∀ i env, I i env → env[j]? = some (some w))
    (hs : ∀ i d env (nx : EnvS → Prop), ds[i]? = some d → I i env → (∀ e, I (i + 1) e → nx e) → ∃ l, bindT t d = some l ∧ b (setS env l) { Ks with nx := nx, ct := nx, bk := Ks.nx })
    (hd : ∀ env, I ds.length env → Ks.nx env) : forOD j t b Ks w ds env := by
  have go : ∀ (es : List D) (i : Nat) (env : EnvS), ds = ds.take i ++ es → i + es.length = ds.length → I i env → forOD j t b Ks w es env := by
    intro es
    induction es with
    | nil => intro i env e hl hI; exact ⟨hw i env hI, hd env (by rw [show ds.length = i by simpa using hl.symm]; exact hI)⟩
    | cons d es ih =>
      intro i env e hl hI
      have hi : i < ds.length := by rw [← hl, List.length_cons]; omega
      have hget : ds[i]? = some d := by
        rw [e, List.getElem?_append_right (by rw [List.length_take]; omega), List.length_take, Nat.min_eq_left (Nat.le_of_lt hi)]
        simp
      obtain ⟨l, h1, h2⟩ := hs i d env (forOD j t b Ks w es) hget hI fun e2 h2 => ih (i + 1) e2 (by
        rw [List.take_add_one, hget, List.append_assoc]
        exact e) (by rw [← hl, List.length_cons]; omega) h2
      exact ⟨hw i env hI, l, h1, h2⟩
  exact go ds 0 env (by simp) (by simp) h0
/-! ### the lists of its own are frozen ahead of the statement -/
def mFrzA (ms : MSt) : MSt := fun env Ks => ms (frzE env) Ks
theorem ms_frzA {X : Cx} {C : C3} {E : XK} {fr : Bool} {B : Hp} {st : Stmt} {ms : MSt} (h : MS X C E fr B st ms) : MS X C E fr B st (mFrzA ms) := fun G0 => PS.imp (h G0) fun En σ H ⟨env, G, Ks, er, hm, f⟩ =>
  ⟨frzE env, _, Ks, er.frozen Stp.refl er.lend.1, hm, f⟩
end L3
/-! L3n: count, index, isinstance of a caught error; a def that is handed a lambda -/
namespace L3
open PySem PySem.Spec PyProof.Rows L2
section
variable {X : Cx} {C : C3} {E : XK} {o e : Expr} {mo ma : MEt} {apos cpos : Pos}
def rCountF (K : PySem.W.Frag) : V → List V → Hp → VK → Prop := fun x xs H Q => ∃ (p : Addr) (ys : List V) (y : V), x = .ref p ∧ xs = [y] ∧ SqL K H p ys ∧ flatV y = true ∧ ys.all flatV = true ∧ Q (.int ((ys.countP fun z => eqV z y : Nat) : Int)) H
theorem countP_eqU {y : V} : ∀ {ys : List V} {us : List Value}, Vals ys us → ys.all flatV = true → us.countP (eqU y) = ys.countP fun z => eqV z y
  | _, _, .nil, _ => rfl
  | z :: ys, u :: us, .cons r t, f => by
    rw [List.all_cons, Bool.and_eq_true] at f
    rw [List.countP_cons, List.countP_cons, countP_eqU t f.2, eqU_of r f.1]
theorem mt_countF : MtR X "list.count" (rCountF X.K) := by
  intro pins s σ H x xs v us Q I rx rxs h
  obtain ⟨p, ys, y, rfl, rfl, hs, fy, fys, q⟩ := h
  cases rx
  obtain ⟨u, rfl, ru⟩ := rxs.one
  obtain ⟨its, rv, ⟨⟨cls, dd, data, sl⟩, n, ho, hc, hdn, hd⟩, hlen⟩ := I.list hs
  simp only at hc hd
  subst hc hd
  refine call_meets PySem.F.slot_list_count ⟨_, ho, rfl⟩ PySem.F.entry_list_count (PySem.F.args_list_count_2 _ _)
    (SeqAt.list_countAt p its.toArray n dd sl u (eqU y)) ⟨ho, fun u' hu' => mem_eqAt ru fy rv fys u' (by simpa using hu'), ?_⟩
  have ec : its.toArray.toList.countP (eqU y) = ys.countP fun z => eqV z y := countP_eqU rv fys
  refine ⟨.int ((ys.countP fun z => eqV z y : Nat) : Int), H, I.tok _, ⟨s.toks, ?_⟩, q⟩
  show Value.int ((its.toArray.toList.countP (eqU y) : Nat) : Int) s.toks = Value.int ((ys.countP fun z => eqV z y : Nat) : Int) s.toks
  rw [ec]
/-- xs.count(y), xs.index(y) -/
def mCountM (mo ma : MEt) : MEt := fun env Kd KX => mo env (fun d => (∃ ds, d = .lst ds) ∧ ma env (fun y => match d with
  | .lst ds => flatD y = true ∧ ds.all flatD = true ∧ Kd (.int (((ds.map fv).countP fun z => eqV z (fv y) : Nat) : Int))
  | _ => False) KX) KX
theorem me_count (hK : X.K = C.K) (h : PE X (.Call (.Attribute o "count" apos) [e] [] cpos) (tBM X.K "list" (rCountF X.K) (lift C X.mg E mo) (tCons (lift C X.mg E ma) tNil))) : ME X C E (.Call (.Attribute o "count" apos) [e] [] cpos) (mCountM mo ma) := PE.imp h fun σ H Q ⟨env, G, Kd, KX, ok, vr, hm, pv, px⟩ => by
  refine ⟨env, G, _, KX, ok, vr, hm, fun d x H1 G1 s1 ok1 r1 k1 => ?_, px⟩
  obtain ⟨⟨ds, rfl⟩, k1⟩ := k1
  cases r1 with
  | lst ha ra =>
    refine .inl ⟨rfl, _, .inl (.inl (ok1.sub _ _ ha).2)⟩ |> fun z => ⟨z, env, G1, _, KX, ok1, vr.mono s1.ge, k1, fun y v H2 G2 s2 ok2 r2 k2 => ?_, px.on ok s1⟩
    obtain ⟨f1, f2, k2⟩ := k2
    obtain ⟨e1, e2⟩ := r2.flat f1
    obtain ⟨e3, e4⟩ := (ra.mono s2.ge).flat f2
    refine ⟨_, _, v, rfl, rfl, .inl (.inl (ok2.sub _ _ (s2.ge _ _ ha)).2), e2, e4, ?_⟩
    rw [e1, e3]
    exact pv _ _ H2 G2 (s1.trans ok2 s2) ok2 (.int _) k2
def mIndexM (mo ma : MEt) : MEt := fun env Kd KX => mo env (fun d => (∃ ds, d = .lst ds) ∧ ma env (fun y => match d with
  | .lst ds => flatD y = true ∧ ds.all flatD = true ∧ ∃ (j : Nat) (z : D), ds[j]? = some z ∧ eqV (fv z) (fv y) = true ∧ (∀ (m : Nat) (z' : D), m < j → ds[m]? = some z' → eqV (fv z') (fv y) = false) ∧ Kd (.int (j : Nat))
  | _ => False) KX) KX
theorem me_index (hK : X.K = C.K) (h : PE X (.Call (.Attribute o "index" apos) [e] [] cpos) (tBM X.K "list" (rIndex X.K) (lift C X.mg E mo) (tCons (lift C X.mg E ma) tNil))) : ME X C E (.Call (.Attribute o "index" apos) [e] [] cpos) (mIndexM mo ma) := PE.imp h fun σ H Q ⟨env, G, Kd, KX, ok, vr, hm, pv, px⟩ => by
  refine ⟨env, G, _, KX, ok, vr, hm, fun d x H1 G1 s1 ok1 r1 k1 => ?_, px⟩
  obtain ⟨⟨ds, rfl⟩, k1⟩ := k1
  cases r1 with
  | lst ha ra =>
    refine .inl ⟨rfl, _, .inl (.inl (ok1.sub _ _ ha).2)⟩ |> fun z => ⟨z, env, G1, _, KX, ok1, vr.mono s1.ge, k1, fun y v H2 G2 s2 ok2 r2 k2 => ?_, px.on ok s1⟩
    obtain ⟨f1, f2, j, z, hz, hj, hno, k2⟩ := k2
    obtain ⟨e1, e2⟩ := r2.flat f1
    obtain ⟨e3, e4⟩ := (ra.mono s2.ge).flat f2
    refine ⟨_, _, v, j, fv z, rfl, rfl, .inl (.inl (ok2.sub _ _ (s2.ge _ _ ha)).2), e2, e4, ?_, by rw [e1]; exact hj, fun m z' hm hz' => ?_, pv _ _ H2 G2 (s1.trans ok2 s2) ok2 (.int _) k2⟩
    · rw [e3, List.getElem?_map, hz]
      rfl
    · rw [e3, List.getElem?_map] at hz'
      cases q : ds[m]? with
      | none => rw [q] at hz'; cases hz'
      | some w =>
        rw [q] at hz'
        cases hz'
        rw [e1]
        exact hno m w hm q
/-- isinstance(e, c) of the error that the suite holds, without a dict -/
def mIsE (i : Nat) (a : Addr) (b : Bool) : MEt := fun env Kd KX => mVar i env (fun d => d = .ref a ∧ Kd (.bl b)) KX
theorem me_isE {a D A : Addr} {oe : Obj} {pn : List (Addr × Obj)} {b : Bool} {e c : Str} {p pe pc pos : Pos} (i : Nat) (F : Free X.mg) (hK : X.K = C.K) (Xc : ExcC X.K D) (hz : Zc (.ref D) none oe) (hf : ∃ vs, oe.data = .fields vs) (hg : Gl (X.suite a ((a, oe) :: pn)) "isinstance") (he : ME (X.suite a ((a, oe) :: pn)) C E (.Name e pe) (mVar i))
    (hc : Gl (X.suite a ((a, oe) :: pn)) c) (hm : X.mg c = some (.ref A)) (hk : PySem.W.kitOne X.K (.ref D) (.ref A) = some b) (hd : (c == ("__debug__" : Str)) = false := by decide)
    (h1 : starEach [.Name e pe, .Name c pc] (X.suite a ((a, oe) :: pn)).env = (false, eval (.Name e pe) (X.suite a ((a, oe) :: pn)).env) :: starEach [.Name c pc] (X.suite a ((a, oe) :: pn)).env := by rfl)
    (h2 : starEach [.Name c pc] (X.suite a ((a, oe) :: pn)).env = (false, eval (.Name c pc) (X.suite a ((a, oe) :: pn)).env) :: starEach [] (X.suite a ((a, oe) :: pn)).env := by rfl) (hpl : (backTo pos (starEach [.Name c pc] (X.suite a ((a, oe) :: pn)).env)).any (·.1) = false := by rfl) :
    ME (X.suite a ((a, oe) :: pn)) C E (.Call (.Name "isinstance" p) [.Name e pe, .Name c pc] [] pos) (mIsE i a b) :=
  PE.imp (pe_callB (call_isE Xc hz hf) hg F.isinstance PyProof.Rows.boot_isinstance (pa_cons he (pa_cons (pe_glob (v := .ref A) hc hm rfl hd) pa_nil h2) h1) (by decide) (by decide) h1 hpl) fun σ H Q ⟨env, G, Kd, KX, ok, vr, hm', pv, px⟩ => by
  refine ⟨env, G, _, KX, ok, vr, hm', fun d v H1 G1 s1 ok1 r1 k1 => ?_, px⟩
  obtain ⟨rfl, k1⟩ := k1
  cases r1
  exact ⟨.ref A, .ref A, b, rfl, fun u r => r, hk, pv _ _ H1 G1 s1 ok1 (.bl b) k1⟩
theorem me_isET {a D : Addr} {oe : Obj} {pn : List (Addr × Obj)} {b : Bool} {e c : Str} {T : String} {p pe pc pos : Pos} (i : Nat) (F : Free X.mg) (hK : X.K = C.K) (Xc : ExcC X.K D) (hz : Zc (.ref D) none oe) (hf : ∃ vs, oe.data = .fields vs) (hg : Gl (X.suite a ((a, oe) :: pn)) "isinstance") (he : ME (X.suite a ((a, oe) :: pn)) C E (.Name e pe) (mVar i))
    (hc : Gl (X.suite a ((a, oe) :: pn)) c) (hm : X.mg c = none) (hb : bootBuiltins c = some (.type T)) (hk : PySem.W.kitOne X.K (.ref D) (.type T) = some b) (hn : c ≠ "__name__" := by decide) (hd : (c == ("__debug__" : Str)) = false := by decide)
    (h1 : starEach [.Name e pe, .Name c pc] (X.suite a ((a, oe) :: pn)).env = (false, eval (.Name e pe) (X.suite a ((a, oe) :: pn)).env) :: starEach [.Name c pc] (X.suite a ((a, oe) :: pn)).env := by rfl)
    (h2 : starEach [.Name c pc] (X.suite a ((a, oe) :: pn)).env = (false, eval (.Name c pc) (X.suite a ((a, oe) :: pn)).env) :: starEach [] (X.suite a ((a, oe) :: pn)).env := by rfl) (hpl : (backTo pos (starEach [.Name c pc] (X.suite a ((a, oe) :: pn)).env)).any (·.1) = false := by rfl) :
    ME (X.suite a ((a, oe) :: pn)) C E (.Call (.Name "isinstance" p) [.Name e pe, .Name c pc] [] pos) (mIsE i a b) :=
  PE.imp (pe_callB (call_isE Xc hz hf) hg F.isinstance PyProof.Rows.boot_isinstance (pa_cons he (pa_cons (pe_bltn (v := .ty T) hc hm hb rfl hn hd) pa_nil h2) h1) (by decide) (by decide) h1 hpl) fun σ H Q ⟨env, G, Kd, KX, ok, vr, hm', pv, px⟩ => by
  refine ⟨env, G, _, KX, ok, vr, hm', fun d v H1 G1 s1 ok1 r1 k1 => ?_, px⟩
  obtain ⟨rfl, k1⟩ := k1
  cases r1
  exact ⟨.ty T, .type T, b, rfl, fun u r => r, hk, pv _ _ H1 G1 s1 ok1 (.bl b) k1⟩
/-- never come to -/
def mNo : MEt := fun _ _ _ => False
theorem me_no : ME X C E e mNo := ⟨fun pins s σ H Q I ⟨_, _, _, _, _, _, h, _⟩ => h.elim⟩
end
/-! ### _law_kind -/
/-- what a class must say, so that _law_kind tells its word w -/
structure Kinds (K : PySem.W.Frag) (mg : Str → Option Value) (D : Addr) (w : Str) : Prop where
  ex : ExcC K D
  mv : ∃ A, mg "MoveError" = some (.ref A) ∧ PySem.W.exmOne K (.ref D) (.ref A) = some true
  kd : ∀ c ∈ (["BadLead", "BadSpare", "BadMove", "NoWay", "BadWord", "BadHouse", "BadCall", "BadText"] : List Str), ∃ A, mg c = some (.ref A) ∧ PySem.W.kitOne K (.ref D) (.ref A) = some (decide (c = w))
  ve : PySem.W.kitOne K (.ref D) (.type "ValueError") = some true
abbrev N__law_kind : List Str := ["_law_work", "e", "_law_kinds", "_law_words", "_law_word"]
def m__law_kind (a : Addr) (b_BadLead b_BadSpare b_BadMove b_NoWay b_BadWord b_BadHouse b_BadCall b_BadText : Bool) : MSt :=
  (mSeq (mSet 2 (mLst (aCons (mIsE 1 a b_BadLead) (aCons (mIsE 1 a b_BadSpare) (aCons (mIsE 1 a b_BadMove) (aCons (mIsE 1 a b_NoWay) aNil))))))
  (mSeq (mSetF 2 (m2 catD (mVar 2) (mLst (aCons (mIsE 1 a b_BadWord) (aCons (mIsE 1 a b_BadHouse) (aCons (mIsE 1 a b_BadCall) aNil))))))
  (mSeq (mAppend 2 (mIsE 1 a b_BadText))
  (mSeq (mSet 3 (mLst (aCons (mC (.str "BadLead")) (aCons (mC (.str "BadSpare")) (aCons (mC (.str "BadMove")) (aCons (mC (.str "NoWay")) (aCons (mC (.str "BadWord")) (aCons (mC (.str "BadHouse")) (aCons (mC (.str "BadCall")) (aCons (mC (.str "BadText")) aNil))))))))))
  (mSeq (mIfS (mOr (mB (m2 (eqE true) (mCountM (mVar 2) (mC (.bl true))) (mC (.int 1)))) (mNot (mB (mIsE 1 a true)))) (mRet (mC (.str "other"))) mNext)
  (mSeq (mSetL 4 (m2 ixD (mVar 3) (mIndexM (mVar 2) (mC (.bl true)))))
  (mSeq (mIfS (mB (m2 (eqE false) (mVar 4) (mC (.str "BadMove")))) (mRet (mTup (aCons (mVar 4) (aCons mNo aNil)))) mNext)
  (mRet (mIf (mB (m2 (eqE false) (mVar 4) (mC (.str "BadText")))) (mTup (aCons (mVar 4) (aCons mNo aNil))) (mVar 4))))))))))
def oneHot (w c : Str) : Bool := decide (c = w)
theorem pu_kind_BadLead (a : Addr) (Ks : KS) (k : Ks.rt (.str "BadLead")) : m__law_kind a true false false false false false false false [none, some (.sh (.ref a)), none, none, none] Ks := by
  refine ⟨rfl, rfl, rfl, rfl, by decide, rfl, rfl, rfl, by decide, by decide, fun q => ⟨rfl, by decide, ⟨by decide, ?_⟩⟩⟩
  refine ⟨⟨_, rfl⟩, rfl, rfl, eqE_int ?_⟩
  refine ⟨rfl, ⟨_, rfl⟩, rfl, rfl, 0, .bl true, rfl, rfl, fun m z' hm hz => ?_, ixD_lst (d := .str "BadLead") rfl ⟨rfl, eqE_str ?_⟩⟩
  · omega
  · exact eqE_str k
theorem pu_kind_BadSpare (a : Addr) (Ks : KS) (k : Ks.rt (.str "BadSpare")) : m__law_kind a false true false false false false false false [none, some (.sh (.ref a)), none, none, none] Ks := by
  refine ⟨rfl, rfl, rfl, rfl, by decide, rfl, rfl, rfl, by decide, by decide, fun q => ⟨rfl, by decide, ⟨by decide, ?_⟩⟩⟩
  refine ⟨⟨_, rfl⟩, rfl, rfl, eqE_int ?_⟩
  refine ⟨rfl, ⟨_, rfl⟩, rfl, rfl, 1, .bl true, rfl, rfl, fun m z' hm hz => ?_, ixD_lst (d := .str "BadSpare") rfl ⟨rfl, eqE_str ?_⟩⟩
  · match m, hm, hz with | 0, _, rfl => rfl
  · exact eqE_str k
theorem pu_kind_NoWay (a : Addr) (Ks : KS) (k : Ks.rt (.str "NoWay")) : m__law_kind a false false false true false false false false [none, some (.sh (.ref a)), none, none, none] Ks := by
  refine ⟨rfl, rfl, rfl, rfl, by decide, rfl, rfl, rfl, by decide, by decide, fun q => ⟨rfl, by decide, ⟨by decide, ?_⟩⟩⟩
  refine ⟨⟨_, rfl⟩, rfl, rfl, eqE_int ?_⟩
  refine ⟨rfl, ⟨_, rfl⟩, rfl, rfl, 3, .bl true, rfl, rfl, fun m z' hm hz => ?_, ixD_lst (d := .str "NoWay") rfl ⟨rfl, eqE_str ?_⟩⟩
  · match m, hm, hz with | 0, _, rfl => rfl | 1, _, rfl => rfl | 2, _, rfl => rfl
  · exact eqE_str k
theorem pu_kind_BadWord (a : Addr) (Ks : KS) (k : Ks.rt (.str "BadWord")) : m__law_kind a false false false false true false false false [none, some (.sh (.ref a)), none, none, none] Ks := by
  refine ⟨rfl, rfl, rfl, rfl, by decide, rfl, rfl, rfl, by decide, by decide, fun q => ⟨rfl, by decide, ⟨by decide, ?_⟩⟩⟩
  refine ⟨⟨_, rfl⟩, rfl, rfl, eqE_int ?_⟩
  refine ⟨rfl, ⟨_, rfl⟩, rfl, rfl, 4, .bl true, rfl, rfl, fun m z' hm hz => ?_, ixD_lst (d := .str "BadWord") rfl ⟨rfl, eqE_str ?_⟩⟩
  · match m, hm, hz with | 0, _, rfl => rfl | 1, _, rfl => rfl | 2, _, rfl => rfl | 3, _, rfl => rfl
  · exact eqE_str k
theorem pu_kind_BadHouse (a : Addr) (Ks : KS) (k : Ks.rt (.str "BadHouse")) : m__law_kind a false false false false false true false false [none, some (.sh (.ref a)), none, none, none] Ks := by
  refine ⟨rfl, rfl, rfl, rfl, by decide, rfl, rfl, rfl, by decide, by decide, fun q => ⟨rfl, by decide, ⟨by decide, ?_⟩⟩⟩
  refine ⟨⟨_, rfl⟩, rfl, rfl, eqE_int ?_⟩
  refine ⟨rfl, ⟨_, rfl⟩, rfl, rfl, 5, .bl true, rfl, rfl, fun m z' hm hz => ?_, ixD_lst (d := .str "BadHouse") rfl ⟨rfl, eqE_str ?_⟩⟩
  · match m, hm, hz with | 0, _, rfl => rfl | 1, _, rfl => rfl | 2, _, rfl => rfl | 3, _, rfl => rfl | 4, _, rfl => rfl
  · exact eqE_str k
theorem pu_kind_BadCall (a : Addr) (Ks : KS) (k : Ks.rt (.str "BadCall")) : m__law_kind a false false false false false false true false [none, some (.sh (.ref a)), none, none, none] Ks := by
  refine ⟨rfl, rfl, rfl, rfl, by decide, rfl, rfl, rfl, by decide, by decide, fun q => ⟨rfl, by decide, ⟨by decide, ?_⟩⟩⟩
  refine ⟨⟨_, rfl⟩, rfl, rfl, eqE_int ?_⟩
  refine ⟨rfl, ⟨_, rfl⟩, rfl, rfl, 6, .bl true, rfl, rfl, fun m z' hm hz => ?_, ixD_lst (d := .str "BadCall") rfl ⟨rfl, eqE_str ?_⟩⟩
  · match m, hm, hz with | 0, _, rfl => rfl | 1, _, rfl => rfl | 2, _, rfl => rfl | 3, _, rfl => rfl | 4, _, rfl => rfl | 5, _, rfl => rfl
  · exact eqE_str k
/-- what _law_kind makes of the lambda's reading -/
def TTk (C : C3) (mg : Str → Option Value) (ws : List Str) : (XK → Hp → VK → Prop) → Hp → VK → Prop := fun tl H Q =>
  tl (fun cls d H' => ∃ (w : Str) (G : Hp) (D : Addr), Ok3 C H' G ∧ w ∈ ws ∧ cls = .ref D ∧ d = none ∧ Kinds C.K mg D w ∧ PostV C H' G (fun y => y = .str w) Q) H Q
def mKind (ws : List Str) (m : MEt) : MEt := fun env Kd KX => m env Kd fun x => x.num = none ∧ x.cls ∈ ws ∧ Kd (.str x.cls)
theorem lam_ok {C : C3} {H H1 G : Hp} (ok : Ok3 C H G) (hf : ∀ p ∈ C.fix, notTbl p.2 = true) (e : LamX.ExtN H H1) (tb : LamX.Tabs C.tabs H1) : Ok3 C H1 G ∧ Stp C H G H1 G := by
  have ne : ∀ {o : HO}, notTbl o = true → ∀ ps, o ≠ .tbl ps := fun {o} n ps q => by rw [q] at n; exact absurd n Bool.false_ne_true
  refine ⟨⟨⟨fun a sa ns h => ?_, fun p hp => e _ _ (ok.iv.fx p hp) (ne (hf p hp)), tb⟩, fun a o h => ⟨(ok.sub a o h).1, e _ _ (ok.sub a o h).2 (ne (ok.nt a o h))⟩, ok.nt⟩, fun a o _ h => nT_of (e _ _ (nT_to h).1 (ne (nT_to h).2)) (nT_to h).2, Same.refl _, fun a o h h' => absurd (h.symm.trans h') (fun z => nomatch z)⟩
  obtain ⟨⟨i, m, r, h1, h2⟩, h3⟩ := ok.iv.st a sa ns h
  exact ⟨⟨i, m, r, e _ _ h1 (ne rfl), h2⟩, h3⟩
open LamX in
/-- _law_kind(lambda: body) -/
theorem me_kind {X : Cx} {C : C3} {E : XK} {ws : List Str} {m : MEt} {x a : Str} {g c P : Addr} {k : Nat} {pg : Arguments} {bg : List Stmt} {sg : Scope} {dV kV doc pm cdv ct oc : Value} {an od : Option Addr} {osl : Array (Option Value)} {Ng : List Str}
    {params : Arguments} {body : Expr} {scope : Scope} {p lpos pos : Pos} (hK : X.K = C.K) (hfx : ∀ p ∈ C.fix, notTbl p.2 = true) (kt : ∀ w ∈ ws, ∃ D, X.mg w = some (.ref D) ∧ Kinds X.K X.mg D w) (hg : Gl X x) (hm : X.mg x = some (.ref g)) (hk : PySem.W.keepIn X.K (.ref g) = true)
    (lk : X.K.lookup g = some ⟨oc, od, .func (PySem.W.fnOf x x pg bg sg dV kV doc pm an cdv ct), osl⟩) (hcg : PySem.W.codeIn X.K cdv x = true) (hb : L2.Binds X.K (PySem.W.fnOf x x pg bg sg dV kV doc pm an cdv ct) [a] []) (Sg : FnScope Ng [a] sg) (hNg : Ng[0]? = some a) (hva : Vis sg a)
    (hG : GivesTo X Ng x sg g cdv bg a (X.env.qual ++ "<lambda>") (TTk C X.mg ws))
    (TB : TabB X.base X.mg c P) (hcode : X.env.code = .ref c) (hmT : (P, X.env.qual ++ "<lambda>") ∈ C.tabs) (hu : ∀ p ∈ C.tabs, p.1 = P → p.2 = X.env.qual ++ "<lambda>") (hr : Room (k + 2) X.A) (L : LamS X.env.scope scope) (hdef : defaultsOf params X.env = ([], []))
    (hbind : ∀ (q : Str) (cl : List (Str × Addr)) (pm cv ctv : Value), bindArgs (PySem.W.kla_fn "<lambda>" q params body scope cl pm cv ctv) ⟨[], []⟩ = pure [])
    (hbody : ∀ (A : Around) (outer : List Env) (s : Shared) (H : Hp) (E : XK) (f c' : Addr), Room k (A.deeper (lamEnv X scope s.heap.objs.size f c')) → ME (lamCx X A outer s H E scope f c') C E body m)
    (hdb : (x == ("__debug__" : Str)) = false := by decide) (hd : (a == ("__debug__" : Str)) = false := by decide) (hcd : (a == ("__classdict__" : Str)) = false := by decide) :
    ME X C E (.Call (.Name x p) [.Lambda params body scope lpos] [] pos) (mKind ws m) :=
  PE.imp (pe_lamcall (T := C.tabs) (TT := TTk C X.mg ws) (t := fun E => lift C X.mg E m) hg hm hk lk hcg hb Sg hNg hva hG TB hcode hmT hu hr L hdef hbind hbody hdb hd hcd) fun σ H Q ⟨env, G, Kd, KX, ok, vr, hm, pv, px⟩ => by
  refine ⟨ok.iv.tb, fun H1 eN tb => ?_⟩
  obtain ⟨ok1, s1⟩ := lam_ok ok hfx eN tb
  refine ⟨env, G, Kd, _, ok1, vr, hm, pv.on s1, fun x cls d H2 kx s2 ok2 r => ?_⟩
  obtain ⟨hn, hw, kx⟩ := kx
  obtain ⟨A, h1, h2, h3⟩ := r
  rw [hn] at h3
  obtain ⟨D, g1, g2⟩ := kt _ hw
  rw [h1] at g1
  cases g1
  exact ⟨x.cls, G, A, ok2, hw, h2, h3, by rw [← hK]; exact g2, fun y v H3 G3 s3 ok3 r3 e => pv y v H3 G3 ((s1.trans ok2 s2).trans ok3 s3) ok3 r3 (by rw [e]; exact kx)⟩
/-! ### raising -/
structure XOk (K : PySem.W.Frag) (mg : Str → Option Value) (x : Str) : Prop where
  ex : ∃ C : Addr, mg x = some (.ref C) ∧ PySem.W.excIn K C [.type "ValueError", .type "Exception", .type "BaseException", .type "object"] "ValueError.__new__" = true ∧ PySem.W.keepIn K (.ref C) = true ∧ PySem.W.subIn K (.ref C) (.type "BaseException") = some true ∧ PySem.W.typeIn K (.ref C) = some (.type "type")
theorem ms_raiseX {X : Cx} {C : C3} {E : XK} {fr : Bool} {B : Hp} {x m : Str} {j : Nat} {p p2 pos pos2 : Pos} (o : XOk X.K X.mg x) (hc : X.calm = true) (tk : Takes X (fun cls d _ H => E cls d H)) (hg : Gl X x) (hdb : (x == ("__debug__" : Str)) = false := by decide) : MS X C E fr B (.Raise (some (.Call (.Name x p) [.Constant (.str m) j p2] [] pos)) none pos2) (mRaise x) := by
  obtain ⟨A, h1, h2, h3, h4, h5⟩ := o.ex
  exact ms_raise hc tk (pmk_own PySem.F.excBase_ValueError h2 h1 h3 (raises_own h4 h5) hg hdb) h1
end L3
/-! L3o: the frame of a law that makes lambdas; a fresh list or a word -/
namespace L3
open PySem PySem.Spec PyProof.Rows L2
abbrev lamQ : Str := (("law" : Str) ++ ".<locals>.") ++ "<lambda>"
def spLawT (K : PySem.W.Frag) (T : Addr) : Sp := fun vs H Q _ => ∃ (a : Addr) (ns : List Int), vs = [.ref a] ∧ SqL K H a (ns.map V.int) ∧ H T = some (.tbl #[]) ∧ ∀ v H', v = .bl true → Q v H'
/-- .. of a law that makes lambdas: its code object's table stands at T -/
theorem law_l3T {P : Program} {w : World} {K : PySem.W.Frag} {mg : Str → Option Value} {base : Heap} {st first : Stmt} {rest : List Stmt} {f T : Addr} {od an : Option Addr} {osl : Array (Option Value)} {oc kV doc pm cdv ct : Value} {N : List Str} {k : Nat} (lk : K.lookup f = some ⟨oc, od, .func (PySem.W.fnOf "law" "law" (defArgs st) (defBody st) (defScope st) .none kV doc pm an cdv ct), osl⟩) (hcd : PySem.W.codeIn K cdv "law" = true) (S : FnScope N ["_law_script"] (defScope st)) (m : Option Addr → MSt) (hb : defBody st = first :: rest) (hN : 2 ≤ N.length)
    (der : ∀ (A : Around) (outer : List Env) (s : Shared) (H : Hp) (E : XK), Room k (A.deeper (envOfC "law" (defScope st) s.heap.objs.size f cdv)) →
      PS (cxOf (L2.CX P w) P w K mg base N "law" (defScope st) f cdv A outer s H E) first (tOpen K E) ∧ ∀ (s0 : Option (Addr × Addr × List Int)) (fix : List (Addr × HO)) (_ : ∀ p ∈ fix, notTbl p.2 = true) (B : Hp),
      MSs (cxOf (L2.CX P w) P w K mg base N "law" (defScope st) f cdv A outer s H E) ⟨K, s0, fix, [(T, lamQ)]⟩ E false B rest (m (s0.map (·.1))))
    (pure : ∀ (p a : Addr), m (some p) (some (.sh (.ref a)) :: some (.sh (.ref p)) :: List.replicate (N.length - 2) none) { nx := fun _ => False, rt := fun d => d = .bl true }) :
    FnOk P w K mg base (L2.CX P w) (k + 1) f (PySem.W.fnOf "law" "law" (defArgs st) (defBody st) (defScope st) .none kV doc pm an cdv ct) ["_law_script"] (spLawT K T) := by
  refine fn_of lk hcd S (fun vs H Q E h => ?_) (fun A outer s H vs Q E hr h => ?_)
  · obtain ⟨a, ns, rfl, _⟩ := h
    rfl
  · obtain ⟨a, ns, rfl, hS, hT, hq⟩ := h
    obtain ⟨d1, d2⟩ := der A outer s H E hr
    rw [hb]
    refine ⟨_, pss_cons d1 (pss_any (ι := (Option (Addr × Addr × List Int)) × {l : List (Addr × HO) // ∀ p ∈ l, notTbl p.2 = true}) fun i => d2 i.1 i.2.1 i.2.2 (fun _ => none) (fun _ => none)), ?_⟩
    have eS : (L2.start N [V.ref a] : L2.St) = some (.ref a) :: none :: List.replicate (N.length - 2) none := by
      unfold L2.start
      show some (V.ref a) :: List.replicate (N.length - 1) none = _
      rw [show N.length - 1 = (N.length - 2) + 1 by omega, List.replicate_succ]
    rw [eS]
    -- the rest, once the script stays
    have go : ∀ (H0 : Hp) (fix : List (Addr × HO)), (∀ p ∈ fix, H0 p.1 = some p.2) → (∀ p ∈ fix, notTbl p.2 = true) → H0 T = some (.tbl #[]) → ScrOk ⟨K, none, fix, []⟩ a ns → SqL K H0 a (ns.map V.int) → spStart K ([V.ref a] ++ []) H0 (fun v H1 => gName 1 v (some (.ref a) :: none :: List.replicate (N.length - 2) none) H1 fun σ H2 => ∃ i : (Option (Addr × Addr × List Int)) × {l : List (Addr × HO) // ∀ p ∈ l, notTbl p.2 = true}, liftS ⟨K, i.1, i.2.1, [(T, lamQ)]⟩ mg E false (fun _ => none) (fun _ => none) (m (i.1.map (·.1))) { nx := fun _ H => Q .non H, rt := Q } σ H2) E := by
      intro H0 fix hfix hfn hT0 hscr hS0
      refine ⟨a, ns, rfl, hS0, fun p mm hp h0 h1 => ?_⟩
      refine ⟨(some (p, a, ns), ⟨fix, hfn⟩), some (.sh (.ref a)) :: some (.sh (.ref p)) :: List.replicate (N.length - 2) none, fun _ => none, _, ?_, pure p a, ?_⟩
      · refine ⟨⟨⟨⟨fun a' sa' ns' e => ?_, fun q hq' => ?_, fun q hq' => ?_⟩, fun _ _ h => (nomatch h), fun _ _ h => (nomatch h)⟩, fun _ _ h => (nomatch h), fun _ _ _ h => (nomatch h), fun _ _ _ h => (nomatch h)⟩, ?_, fun i d h => ?_, fun i q d h => ?_, fun i j q d e h _ => ?_⟩
        · cases e
          refine ⟨⟨0, mm, 0, upd_same, by decide, h0, h1, by decide⟩, hscr, ?_⟩
          rw [List.any_eq_false]
          intro q hq' e
          have e := of_decide_eq_true e
          have := hfix q hq'
          rw [e, hp] at this
          cases this
        · have nq : q.1 ≠ p := fun e => by
            have := hfix q hq'
            rw [e, hp] at this
            cases this
          show upd H0 p _ q.1 = _
          rw [upd_ne nq]
          exact hfix q hq'
        · have hq' : q ∈ [(T, lamQ)] := hq'
          rw [List.mem_singleton] at hq'
          subst hq'
          refine LamX.TabS.nil ?_
          rw [upd_ne (ne_of_none hT0 hp)]
          exact hT0
        · simp
        · match i, h with
          | 0, h => cases h; exact ⟨_, rfl, .ref a⟩
          | 1, h => cases h; exact ⟨_, rfl, .ref p⟩
          | i + 2, h =>
            have h : (List.replicate (N.length - 2) (none : Option Slot))[i]? = some (some (.sh d)) := h
            rw [List.getElem?_replicate] at h
            split at h <;> cases h
        · match i, h with
          | 0, h => cases h
          | 1, h => cases h
          | i + 2, h =>
            have h : (List.replicate (N.length - 2) (none : Option Slot))[i]? = some (some (.own q d)) := h
            rw [List.getElem?_replicate] at h
            split at h <;> cases h
        · match i, h with
          | 0, h => cases h
          | 1, h => cases h
          | i + 2, h =>
            have h : (List.replicate (N.length - 2) (none : Option Slot))[i]? = some (some (.own q d)) := h
            rw [List.getElem?_replicate] at h
            split at h <;> cases h
      · refine ⟨fun _ _ _ _ _ k => k.elim, fun _ _ _ _ _ k => k.elim, fun _ _ _ _ _ k => k.elim, fun d v H' G' z rr k => ?_, fun x cls d H' k => k.elim⟩
        have rr : Rp K G' d v := rr
        rw [k] at rr
        cases rr
        exact hq _ _ rfl
    rcases hS with (h | ⟨o, h⟩) | ⟨o, its, n, h1, h2, h3, h4, h5, h6⟩
    · refine .inr ⟨.ref a, rfl, a, _, rfl, h, trivial, fun od => ?_⟩
      exact go (upd H a (.frz od (.lst (ns.map V.int)))) [(a, .frz od (.lst (ns.map V.int)))] (fun p hp => by
        rw [List.mem_singleton] at hp
        subst hp
        exact upd_same) (fun p hp => by
        rw [List.mem_singleton] at hp
        subst hp
        rfl) (by rw [upd_ne (fun e => by rw [e, h] at hT; cases hT)]; exact hT) (.inl ⟨od, List.mem_singleton.mpr rfl⟩) (.inl (.inr ⟨od, upd_same⟩))
    · refine .inl ⟨.ref a, rfl, ?_⟩
      exact go H [(a, .frz o (.lst (ns.map V.int)))] (fun p hp => by
        rw [List.mem_singleton] at hp
        subst hp
        exact h) (fun p hp => by
        rw [List.mem_singleton] at hp
        subst hp
        rfl) hT (.inl ⟨o, List.mem_singleton.mpr rfl⟩) (.inl (.inr ⟨o, h⟩))
    · refine .inl ⟨.ref a, rfl, ?_⟩
      exact go H [] (fun p hp => by cases hp) (fun p hp => by cases hp) hT (.inr ⟨o, its, n, h1, h2, h3, h4, h5, h6⟩) (.inr ⟨o, its, n, h1, h2, h3, h4, h5, h6⟩)

/-! ### a new list, or a value -/
abbrev MK2 := EnvE → (D → Prop) → (D → Prop) → (Exn → Prop) → Prop
def liftK (C : C3) (mg : Str → Option Value) (E : XK) (m : MK2) : TE := fun σ H Q => ∃ env G Kf Kd KX, Ok3 C H G ∧ VR C.K G env σ ∧ m env Kf Kd KX ∧ PostF C H G Kf Q ∧ PostV C H G Kd Q ∧ PostX C mg H G KX E
abbrev MK (X : Cx) (C : C3) (E : XK) (e : Expr) (m : MK2) : Prop := PE X e (liftK C X.mg E m)
def mKindF (ws : List Str) (m : MEt) : MK2 := fun env Kf Kd KX => m env Kf fun x => x.num = none ∧ x.cls ∈ ws ∧ Kd (.str x.cls)
open LamX in
theorem mk_kind {X : Cx} {C : C3} {E : XK} {ws : List Str} {m : MEt} {x a : Str} {g c P : Addr} {k : Nat} {pg : Arguments} {bg : List Stmt} {sg : Scope} {dV kV doc pm cdv ct oc : Value} {an od : Option Addr} {osl : Array (Option Value)} {Ng : List Str}
    {params : Arguments} {body : Expr} {scope : Scope} {p lpos pos : Pos} (hK : X.K = C.K) (hfx : ∀ p ∈ C.fix, notTbl p.2 = true) (kt : ∀ w ∈ ws, ∃ D, X.mg w = some (.ref D) ∧ Kinds X.K X.mg D w) (hg : Gl X x) (hm : X.mg x = some (.ref g)) (hk : PySem.W.keepIn X.K (.ref g) = true)
    (lk : X.K.lookup g = some ⟨oc, od, .func (PySem.W.fnOf x x pg bg sg dV kV doc pm an cdv ct), osl⟩) (hcg : PySem.W.codeIn X.K cdv x = true) (hb : L2.Binds X.K (PySem.W.fnOf x x pg bg sg dV kV doc pm an cdv ct) [a] []) (Sg : FnScope Ng [a] sg) (hNg : Ng[0]? = some a) (hva : Vis sg a)
    (hG : GivesTo X Ng x sg g cdv bg a (X.env.qual ++ "<lambda>") (TTk C X.mg ws))
    (TB : TabB X.base X.mg c P) (hcode : X.env.code = .ref c) (hmT : (P, X.env.qual ++ "<lambda>") ∈ C.tabs) (hu : ∀ p ∈ C.tabs, p.1 = P → p.2 = X.env.qual ++ "<lambda>") (hr : Room (k + 2) X.A) (L : LamS X.env.scope scope) (hdef : defaultsOf params X.env = ([], []))
    (hbind : ∀ (q : Str) (cl : List (Str × Addr)) (pm cv ctv : Value), bindArgs (PySem.W.kla_fn "<lambda>" q params body scope cl pm cv ctv) ⟨[], []⟩ = pure [])
    (hbody : ∀ (A : Around) (outer : List Env) (s : Shared) (H : Hp) (E : XK) (f c' : Addr), Room k (A.deeper (lamEnv X scope s.heap.objs.size f c')) → MF (lamCx X A outer s H E scope f c') C E body m)
    (hdb : (x == ("__debug__" : Str)) = false := by decide) (hd : (a == ("__debug__" : Str)) = false := by decide) (hcd : (a == ("__classdict__" : Str)) = false := by decide) :
    MK X C E (.Call (.Name x p) [.Lambda params body scope lpos] [] pos) (mKindF ws m) :=
  PE.imp (pe_lamcall (T := C.tabs) (TT := TTk C X.mg ws) (t := fun E => liftF C X.mg E m) hg hm hk lk hcg hb Sg hNg hva hG TB hcode hmT hu hr L hdef hbind hbody hdb hd hcd) fun σ H Q ⟨env, G, Kf, Kd, KX, ok, vr, hm, pf, pv, px⟩ => by
  refine ⟨ok.iv.tb, fun H1 eN tb => ?_⟩
  obtain ⟨ok1, s1⟩ := lam_ok ok hfx eN tb
  refine ⟨env, G, Kf, _, ok1, vr, hm, pf.on s1, fun x cls d H2 kx s2 ok2 r => ?_⟩
  obtain ⟨hn, hw, kx⟩ := kx
  obtain ⟨A, h1, h2, h3⟩ := r
  rw [hn] at h3
  obtain ⟨D, g1, g2⟩ := kt _ hw
  rw [h1] at g1
  cases g1
  exact ⟨x.cls, G, A, ok2, hw, h2, h3, by rw [← hK]; exact g2, fun y v H3 G3 s3 ok3 r3 e => pv y v H3 G3 ((s1.trans ok2 s2).trans ok3 s3) ok3 r3 (by rw [e]; exact kx)⟩
def mSetK2 (i : Nat) (m : MK2) : MSt := fun env Ks => m (viewE env) (fun d => ∀ p, Ks.nx (env.set i (some (.own p d)))) (fun d => Ks.nx (env.set i (some (.sh d)))) Ks.ex
theorem ms_setK2 {X : Cx} {C : C3} {E : XK} {fr : Bool} {B : Hp} {e : Expr} {m : MK2} {pos pos' : Pos} {i : Nat} {x : Str} (hN : X.N.Nodup) (hi : X.N[i]? = some x) (hx : Loc X.env.scope x) (he : MK X C E e m) (hs : swapsWith e (some (.Name x pos')) pos.line X.env = pure false := by rfl) (hf : X.fn x = true ∨ X.env.scope.names.lookup x = some .local := by first | exact .inl rfl | exact .inr rfl | assumption) :
    MS X C E fr B (.Assign [.Name x pos'] e pos) (mSetK2 i m) := fun G0 => PS.imp (ps_set hN hi hx he hs hf) fun En σ H ⟨env, G, Ks, er, hm, f⟩ =>
  ⟨viewE env, G, _, _, Ks.ex, er.z.ok, er.vr, hm, fun d p o H1 G1 s1 ok1 hp gp ho sp ob k1 => f.nx _ _ H1 G1 (er.fresh_own s1 ok1 hp gp ho sp ob.obj) (k1 p), fun d v H1 G1 s1 ok1 r1 k1 => f.nx _ _ H1 G1 ((er.step s1 ok1).set_sh r1) k1, f.px er.z (Same.refl _)⟩
/-! ### the end -/
theorem walk_tab {l : PySem.W.OpenLaw} {n k : Nat} {q : Program} {loose : List Str} {XP : (Str → Option Value) → Heap → Prop} {YP : World → Heap → Prop} {d : DefRec} {K : Params → PySem.W.Frag} {CX : World → CXT} {x : Str}
    (hn : l.most = some n) (hn2 : n ≤ sizeLine) (hdf : d.params.defaults = []) (hr : Room k callerA) (hY : ∀ (w : World) (h : Heap), YP w h → (K w.params).In h) (hd : (PyProof.Rows.recsOf q).find? (fun e => e.name == d.name) = some d)
    (F : ∀ (w : World) (mg : Str → Option Value) (fa : Addr) (h : Heap), (K w.params).In h → h.Ns mainGlobals mg → mg d.name = some (.ref fa) →
      ∃ (c T : Addr) (fd : FuncData), PySem.W.tabIn (K w.params) d.name = some (c, T) ∧ (K w.params).lookup T = none ∧ (∀ (s : Shared) (u : Value), BindsTo s fd ⟨[u], []⟩ [(x, u)]) ∧
        ∀ base : Heap, (K w.params).In base → base.Ns mainGlobals mg → LamX.TabB base mg c T → FnOk l.prog w (K w.params) mg base (CX w) k fa fd [x] (spLawT (K w.params) T))
    (hCX : ∀ (w : World) (H : Hp) (s : Shared) (e : Value) (s' : Shared), CX w [] H s (fun _ _ _ => False) e s' → False) :
    PySem.W.WalkO q loose XP YP l.row.toRowW d [] (fun f vs => PySem.call f vs) := by
  refine Att.attach_callB hn hdf fun w s₀ s₁ mg mb fa o pm cd doc a vs ns G Y ho hod hcd hmg hobj hints hlen hbits hg => ?_
  have KX := hY w _ Y
  obtain ⟨c, T, fd, ht, hnT, hb, hF⟩ := F w mg fa _ KX G.T.g hmg
  obtain ⟨hC, hT⟩ := PySem.W.tab_of G.T KX hd ht
  refine LamX.law_callTs (cs := [(c, T)]) KX G.T.g G.T.b G.T.builtins G.T.nolimit hg (fun p hp => ?_) (fun p hp => ?_) (fun p hp => ?_) G.T.bmain hobj hints (Nat.le_trans hlen hn2) hr (fun base h1 h2 h3 => hF base h1 h2 (h3 (c, T) (List.mem_singleton.mpr rfl))) hb (fun H hH hS => ⟨a, ns, rfl, hS, hH (c, T) (List.mem_singleton.mpr rfl), fun _ _ e => e⟩) fun H e s' => hCX w H s₁ e s'
  · rw [List.mem_singleton.mp hp]; exact hT
  · rw [List.mem_singleton.mp hp]; exact hnT
  · rw [List.mem_singleton.mp hp]; exact hC
end L3
/-! L3p: t.index(y) of a tuple, list of a dict -/
namespace L3
open PySem PySem.Spec PyProof.Rows L2
section
variable {X : Cx} {C : C3} {E : XK} {o e : Expr} {mo ma : MEt} {apos cpos pos p : Pos} {r : MAt}
def rIndexTF (K : PySem.W.Frag) : V → List V → Hp → VK → Prop := fun x xs H Q => ∃ (t : Addr) (ys : List V) (y : V) (j : Nat) (z : V), x = .ref t ∧ xs = [y] ∧ SqT K H t ys ∧ flatV y = true ∧ ys.all flatV = true ∧ ys[j]? = some z ∧ eqV z y = true ∧ (∀ (m : Nat) (z' : V), m < j → ys[m]? = some z' → eqV z' y = false) ∧ Q (.int (j : Nat)) H
theorem mt_indexTF : MtR X "tuple.index" (rIndexTF X.K) := by
  intro pins s σ H x xs v us Q I rx rxs h
  obtain ⟨a, ys, y, j, z, rfl, rfl, hs, fy, fys, hz, hzj, hno, q⟩ := h
  cases rx
  obtain ⟨u, rfl, ru⟩ := rxs.one
  obtain ⟨its, rv, pl, hlen⟩ := I.tuple hs
  obtain ⟨⟨cls, dd, data, sl⟩, ho, hc, n, hd⟩ := pl
  simp only at hc hd
  subst hc hd
  obtain ⟨u2, hu2, ru2⟩ := rv.get hz
  obtain ⟨hjl, hje⟩ := List.getElem?_eq_some_iff.mp hu2
  have hvl := rv.length
  have hj : j < its.toArray.size := by simpa using hjl
  refine call_meets PySem.F.slot_tuple_index ⟨_, ho, rfl⟩ PySem.F.entry_tuple_index (PySem.F.args_tuple_index_2 _ _) (TI.tuple_indexAt a its.toArray n dd sl u (eqU y) j hj ?_ ?_)
    ⟨ho, fun w hw => mem_eqAt ru fy rv fys w (by simpa using hw), ⟨.int (j : Nat), H, I.tok _, ⟨_, rfl⟩, q⟩⟩
  · have e1 : its.toArray[j] = u2 := by simpa using hje
    rw [e1, eqU_of ru2 (flat_at fys hz)]
    exact hzj
  · intro m hm hmj
    have hml : m < its.length := by simpa using hm
    have hmy : m < ys.length := by omega
    have hy' : ys[m]? = some ys[m] := List.getElem?_eq_getElem hmy
    obtain ⟨u3, hu3, ru3⟩ := rv.get hy'
    have e1 : its.toArray[m] = u3 := by simpa using (List.getElem?_eq_some_iff.mp hu3).2
    rw [e1, eqU_of ru3 (flat_at fys hy')]
    exact hno m _ hmj hy'
def mIndexT (mo ma : MEt) : MEt := fun env Kd KX => mo env (fun d => (∃ ds, d = .tup ds) ∧ ma env (fun y => match d with
  | .tup ds => flatD y = true ∧ ds.all flatD = true ∧ ∃ (j : Nat) (z : D), ds[j]? = some z ∧ eqV (fv z) (fv y) = true ∧ (∀ (m : Nat) (z' : D), m < j → ds[m]? = some z' → eqV (fv z') (fv y) = false) ∧ Kd (.int (j : Nat))
  | _ => False) KX) KX
theorem me_indexT (hK : X.K = C.K) (h : PE X (.Call (.Attribute o "index" apos) [e] [] cpos) (tBT X.K (rIndexTF X.K) (lift C X.mg E mo) (tCons (lift C X.mg E ma) tNil))) : ME X C E (.Call (.Attribute o "index" apos) [e] [] cpos) (mIndexT mo ma) :=
  PE.imp h fun σ H Q ⟨env, G, Kd, KX, ok, vr, hm, pv, px⟩ => by
  refine ⟨env, G, _, KX, ok, vr, hm, fun d v H1 G1 s1 ok1 r1 k1 => ?_, px⟩
  obtain ⟨⟨ds, rfl⟩, k1⟩ := k1
  cases r1 with
  | tup ha ra =>
    rw [hK]
    refine ⟨?_, env, G1, _, KX, ok1, vr.mono s1.ge, k1, fun y w H2 G2 s2 ok2 r2 k2 => ?_, px.on ok s1⟩
    · obtain ⟨q, e, h⟩ := ha.ty
      refine ⟨q, e, ?_⟩
      rcases h with ⟨ob, vs, h, c⟩ | h
      · exact .inl ⟨ob, vs, (ok1.sub _ _ h).2, c⟩
      · exact .inr h
    · obtain ⟨f1, f2, j, z, hz, he, hno, k⟩ := k2
      obtain ⟨rfl, g1⟩ := r2.flat f1
      obtain ⟨rfl, g2⟩ := ra.flat f2
      refine ⟨_, _, _, j, fv z, rfl, rfl, seqT (fun a o q => (ok2.sub a o (s2.ge a o q)).2) ha.sq, g1, g2, by rw [List.getElem?_map, hz]; rfl, he, fun m z' hm hz' => ?_, pv _ _ _ _ (s1.trans ok2 s2) ok2 (.int _) k⟩
      rw [List.getElem?_map] at hz'
      cases q : ds[m]? with
      | none => rw [q] at hz'; cases hz'
      | some z'' =>
        rw [q] at hz'
        cases hz'
        exact hno m z'' hm q
/-- list(d), d a dict: its keys -/
@[irreducible] def listKD (ds : List D) (K : D → Prop) : Prop := match ds with
  | [.dic kvs] => K (.lst (kvs.map fun p => .int p.1))
  | _ => False
theorem listKD_of {kvs : List (Int × D)} {K : D → Prop} (k : K (.lst (kvs.map fun p => .int p.1))) : listKD [.dic kvs] K := by
  unfold listKD
  exact k
theorem Rps.keysD {K : PySem.W.Frag} {G : Hp} : ∀ {kvs : List (Int × D)} {kws : List (Key × V)}, RpK K G kvs kws → Rps K G (kvs.map fun p => D.int p.1) (kws.map fun kv => kV kv.1)
  | _, _, .nil => .nil
  | _, _, .cons _ r => .cons (.int _) (Rps.keysD r)
theorem cf_listK : CF C (fun xs H Q => ∃ (a : Addr) (kvs : List (Key × V)), xs = [.ref a] ∧ Rd H a (.dK kvs) ∧ ∀ p, H p = none → Q (.ref p) (upd H p (.lst (kvs.map fun kv => kV kv.1)))) listKD := by
  intro vs ds H G Kd Q ok rr h pv
  unfold listKD at h
  split at h
  · cases rr with
    | cons r1 r2 =>
      cases r2
      cases r1 with
      | dic ha ra =>
        refine ⟨_, _, rfl, .inr ⟨_, (ok.sub _ _ ha).2⟩, fun q hq => ?_⟩
        obtain ⟨o1, s1, g⟩ := ok.new (o := .lst _) hq
        exact pv _ q _ _ G s1 o1 (nT_none hq) g upd_same (ok.iv.new hq) (.lst (Rps.keysD ra)) h
  · exact h.elim
theorem mf_listK (F : Free X.mg) (hK : X.K = C.K) (hc : X.calm = true) (hg : Gl X "list") (ha : MA X C E [e] r) (he : starEach (e :: []) X.env = (false, eval e X.env) :: starEach [] X.env := by rfl) (hpl : (backTo pos (starEach [] X.env)).any (·.1) = false := by rfl) : MF X C E (.Call (.Name "list" p) [e] [] pos) (mCall listKD r) :=
  mf_callTy (call_listD hc) cf_listK hg F.list (by decide +kernel) ha (by decide) (by decide) he hpl
end
/-! ### the words of errors without a field -/
def plainW : List Str := ["BadLead", "BadSpare", "NoWay", "BadWord", "BadHouse", "BadCall"]
theorem kind_any (a : Addr) (w : Str) (hw : w ∈ plainW) (Ks : KS) (k : Ks.rt (.str w)) : m__law_kind a (decide (("BadLead" : Str) = w)) (decide (("BadSpare" : Str) = w)) (decide (("BadMove" : Str) = w)) (decide (("NoWay" : Str) = w)) (decide (("BadWord" : Str) = w)) (decide (("BadHouse" : Str) = w)) (decide (("BadCall" : Str) = w)) (decide (("BadText" : Str) = w)) [none, some (.sh (.ref a)), none, none, none] Ks := by
  simp only [plainW, List.mem_cons, List.mem_nil_iff, or_false] at hw
  rcases hw with rfl | rfl | rfl | rfl | rfl | rfl
  · rw [show decide (("BadLead" : Str) = "BadLead") = true by decide +kernel, show decide (("BadSpare" : Str) = "BadLead") = false by decide +kernel, show decide (("BadMove" : Str) = "BadLead") = false by decide +kernel, show decide (("NoWay" : Str) = "BadLead") = false by decide +kernel, show decide (("BadWord" : Str) = "BadLead") = false by decide +kernel, show decide (("BadHouse" : Str) = "BadLead") = false by decide +kernel, show decide (("BadCall" : Str) = "BadLead") = false by decide +kernel, show decide (("BadText" : Str) = "BadLead") = false by decide +kernel]
    exact pu_kind_BadLead a Ks k
  · rw [show decide (("BadLead" : Str) = "BadSpare") = false by decide +kernel, show decide (("BadSpare" : Str) = "BadSpare") = true by decide +kernel, show decide (("BadMove" : Str) = "BadSpare") = false by decide +kernel, show decide (("NoWay" : Str) = "BadSpare") = false by decide +kernel, show decide (("BadWord" : Str) = "BadSpare") = false by decide +kernel, show decide (("BadHouse" : Str) = "BadSpare") = false by decide +kernel, show decide (("BadCall" : Str) = "BadSpare") = false by decide +kernel, show decide (("BadText" : Str) = "BadSpare") = false by decide +kernel]
    exact pu_kind_BadSpare a Ks k
  · rw [show decide (("BadLead" : Str) = "NoWay") = false by decide +kernel, show decide (("BadSpare" : Str) = "NoWay") = false by decide +kernel, show decide (("BadMove" : Str) = "NoWay") = false by decide +kernel, show decide (("NoWay" : Str) = "NoWay") = true by decide +kernel, show decide (("BadWord" : Str) = "NoWay") = false by decide +kernel, show decide (("BadHouse" : Str) = "NoWay") = false by decide +kernel, show decide (("BadCall" : Str) = "NoWay") = false by decide +kernel, show decide (("BadText" : Str) = "NoWay") = false by decide +kernel]
    exact pu_kind_NoWay a Ks k
  · rw [show decide (("BadLead" : Str) = "BadWord") = false by decide +kernel, show decide (("BadSpare" : Str) = "BadWord") = false by decide +kernel, show decide (("BadMove" : Str) = "BadWord") = false by decide +kernel, show decide (("NoWay" : Str) = "BadWord") = false by decide +kernel, show decide (("BadWord" : Str) = "BadWord") = true by decide +kernel, show decide (("BadHouse" : Str) = "BadWord") = false by decide +kernel, show decide (("BadCall" : Str) = "BadWord") = false by decide +kernel, show decide (("BadText" : Str) = "BadWord") = false by decide +kernel]
    exact pu_kind_BadWord a Ks k
  · rw [show decide (("BadLead" : Str) = "BadHouse") = false by decide +kernel, show decide (("BadSpare" : Str) = "BadHouse") = false by decide +kernel, show decide (("BadMove" : Str) = "BadHouse") = false by decide +kernel, show decide (("NoWay" : Str) = "BadHouse") = false by decide +kernel, show decide (("BadWord" : Str) = "BadHouse") = false by decide +kernel, show decide (("BadHouse" : Str) = "BadHouse") = true by decide +kernel, show decide (("BadCall" : Str) = "BadHouse") = false by decide +kernel, show decide (("BadText" : Str) = "BadHouse") = false by decide +kernel]
    exact pu_kind_BadHouse a Ks k
  · rw [show decide (("BadLead" : Str) = "BadCall") = false by decide +kernel, show decide (("BadSpare" : Str) = "BadCall") = false by decide +kernel, show decide (("BadMove" : Str) = "BadCall") = false by decide +kernel, show decide (("NoWay" : Str) = "BadCall") = false by decide +kernel, show decide (("BadWord" : Str) = "BadCall") = false by decide +kernel, show decide (("BadHouse" : Str) = "BadCall") = false by decide +kernel, show decide (("BadCall" : Str) = "BadCall") = true by decide +kernel, show decide (("BadText" : Str) = "BadCall") = false by decide +kernel]
    exact pu_kind_BadCall a Ks k
end L3
/-! L3q: errors with a field of their own -/
namespace L3
open PySem PySem.Spec PyProof.Rows L2
section
variable {X : Cx} {C : C3} {E : XK} {fr : Bool} {B : Hp}
/-- isinstance(e, c), e the held error, its dict at dd -/
def rIsED (K : PySem.W.Frag) (D a dd : Addr) : List V → Hp → VK → Prop := fun xs H Q => ∃ (c : V) (cv : Value) (b : Bool) (fs : List (Str × V)), xs = [.ref a, c] ∧ (∀ u, RelV c u → u = cv) ∧ PySem.W.kitOne K (.ref D) cv = some b ∧ H dd = some (.xd fs) ∧ Q (.bl b) H
theorem call_isED {a D dd : Addr} {oe : Obj} {pn : List (Addr × Obj)} (Z : ExcC X.K D) (hz : Zc (.ref D) (some dd) oe) (hf : ∃ vs, oe.data = .fields vs) : CallR (X.suite a ((a, oe) :: pn)) (.builtin "isinstance") (rIsED X.K D a dd) := by
  intro pins s σ H vs us Q I rr hw
  obtain ⟨c, cv, b, fs, rfl, hcv, hk, hd, q⟩ := hw
  cases rr with
  | cons r1 rr =>
    cases rr with
    | cons r2 rr =>
      cases rr
      cases r1
      have e2 := hcv _ r2
      subst e2
      obtain ⟨at1, _⟩ := I.pin (a, oe) (List.mem_append_left _ List.mem_cons_self)
      obtain ⟨ws, hws⟩ := hf
      have hox : ObjOk X.prog X.w H s.heap dd (.xd fs) := I.hok dd _ hd
      obtain ⟨mA, hns, _⟩ := hox
      obtain ⟨od, ho, _⟩ := lookIn_ns hns
      have J : PySem.W.InstAt s.heap a oe D (some od) := ⟨at1, hz.1, by unfold PySem.W.notCls; rw [hws] <;> rfl, by rw [hz.2]; exact ho⟩
      have hcl : (PySem.W.clsIn X.K D).isSome = true := by
        obtain ⟨cd, hc, _⟩ := PySem.W.any_some Z.hd
        rw [hc]
        rfl
      exact PySem.W.kia_one (PySem.W.kitx_exc hcl Z.hg Z.hk Z.hs Z.ha Z.hn Z.ht Z.hm) I.kIn J hk (fun z => nomatch z) fun tk => ⟨.bl b, H, I.kept (t' := tk) fun _ _ z => z, rfl, q⟩
theorem me_isED {a D A dd : Addr} {fs : List (Str × V)} {oe : Obj} {pn : List (Addr × Obj)} {b : Bool} {e c : Str} {p pe pc pos : Pos} (i : Nat) (F : Free X.mg) (hK : X.K = C.K) (Xc : ExcC X.K D) (hz : Zc (.ref D) (some dd) oe) (hf : ∃ vs, oe.data = .fields vs) (hx : (dd, HO.xd fs) ∈ C.fix) (hg : Gl (X.suite a ((a, oe) :: pn)) "isinstance") (he : ME (X.suite a ((a, oe) :: pn)) C E (.Name e pe) (mVar i))
    (hc : Gl (X.suite a ((a, oe) :: pn)) c) (hm : X.mg c = some (.ref A)) (hk : PySem.W.kitOne X.K (.ref D) (.ref A) = some b) (hd : (c == ("__debug__" : Str)) = false := by decide)
    (h1 : starEach [.Name e pe, .Name c pc] (X.suite a ((a, oe) :: pn)).env = (false, eval (.Name e pe) (X.suite a ((a, oe) :: pn)).env) :: starEach [.Name c pc] (X.suite a ((a, oe) :: pn)).env := by rfl)
    (h2 : starEach [.Name c pc] (X.suite a ((a, oe) :: pn)).env = (false, eval (.Name c pc) (X.suite a ((a, oe) :: pn)).env) :: starEach [] (X.suite a ((a, oe) :: pn)).env := by rfl) (hpl : (backTo pos (starEach [.Name c pc] (X.suite a ((a, oe) :: pn)).env)).any (·.1) = false := by rfl) :
    ME (X.suite a ((a, oe) :: pn)) C E (.Call (.Name "isinstance" p) [.Name e pe, .Name c pc] [] pos) (mIsE i a b) :=
  PE.imp (pe_callB (call_isED Xc hz hf) hg F.isinstance PyProof.Rows.boot_isinstance (pa_cons he (pa_cons (pe_glob (v := .ref A) hc hm rfl hd) pa_nil h2) h1) (by decide) (by decide) h1 hpl) fun σ H Q ⟨env, G, Kd, KX, ok, vr, hm', pv, px⟩ => by
  refine ⟨env, G, _, KX, ok, vr, hm', fun d v H1 G1 s1 ok1 r1 k1 => ?_, px⟩
  obtain ⟨rfl, k1⟩ := k1
  cases r1
  exact ⟨.ref A, .ref A, b, fs, rfl, fun u r => r, hk, ok1.iv.fx _ hx, pv _ _ H1 G1 s1 ok1 (.bl b) k1⟩
theorem me_isEDT {a D dd : Addr} {fs : List (Str × V)} {oe : Obj} {pn : List (Addr × Obj)} {b : Bool} {e c : Str} {T : String} {p pe pc pos : Pos} (i : Nat) (F : Free X.mg) (hK : X.K = C.K) (Xc : ExcC X.K D) (hz : Zc (.ref D) (some dd) oe) (hf : ∃ vs, oe.data = .fields vs) (hx : (dd, HO.xd fs) ∈ C.fix) (hg : Gl (X.suite a ((a, oe) :: pn)) "isinstance") (he : ME (X.suite a ((a, oe) :: pn)) C E (.Name e pe) (mVar i))
    (hc : Gl (X.suite a ((a, oe) :: pn)) c) (hm : X.mg c = none) (hb : bootBuiltins c = some (.type T)) (hk : PySem.W.kitOne X.K (.ref D) (.type T) = some b) (hn : c ≠ "__name__" := by decide) (hd : (c == ("__debug__" : Str)) = false := by decide)
    (h1 : starEach [.Name e pe, .Name c pc] (X.suite a ((a, oe) :: pn)).env = (false, eval (.Name e pe) (X.suite a ((a, oe) :: pn)).env) :: starEach [.Name c pc] (X.suite a ((a, oe) :: pn)).env := by rfl)
    (h2 : starEach [.Name c pc] (X.suite a ((a, oe) :: pn)).env = (false, eval (.Name c pc) (X.suite a ((a, oe) :: pn)).env) :: starEach [] (X.suite a ((a, oe) :: pn)).env := by rfl) (hpl : (backTo pos (starEach [.Name c pc] (X.suite a ((a, oe) :: pn)).env)).any (·.1) = false := by rfl) :
    ME (X.suite a ((a, oe) :: pn)) C E (.Call (.Name "isinstance" p) [.Name e pe, .Name c pc] [] pos) (mIsE i a b) :=
  PE.imp (pe_callB (call_isED Xc hz hf) hg F.isinstance PyProof.Rows.boot_isinstance (pa_cons he (pa_cons (pe_bltn (v := .ty T) hc hm hb rfl hn hd) pa_nil h2) h1) (by decide) (by decide) h1 hpl) fun σ H Q ⟨env, G, Kd, KX, ok, vr, hm', pv, px⟩ => by
  refine ⟨env, G, _, KX, ok, vr, hm', fun d v H1 G1 s1 ok1 r1 k1 => ?_, px⟩
  obtain ⟨rfl, k1⟩ := k1
  cases r1
  exact ⟨.ty T, .type T, b, fs, rfl, fun u r => r, hk, ok1.iv.fx _ hx, pv _ _ H1 G1 s1 ok1 (.bl b) k1⟩
/-- e.number of the held error -/
def mFldE (i : Nat) (a : Addr) (n : Int) : MEt := fun env Kd KX => mVar i env (fun d => d = .ref a ∧ Kd (.int n)) KX
theorem me_fldE {a D dd : Addr} {f : Str} {n : Int} {oe : Obj} {pn : List (Addr × Obj)} {e : Str} {pe pos : Pos} (i : Nat) (T : XfC X.K D) (hno : PySem.W.findIn X.K (.ref D) f = some none) (hz : Zc (.ref D) (some dd) oe) (hf : ∃ vs, oe.data = .fields vs) (hx : (dd, HO.xd [(f, V.int n)]) ∈ C.fix) (he : ME (X.suite a ((a, oe) :: pn)) C E (.Name e pe) (mVar i))
    (hb : attributeBase (.Name e pe) f X.env (eval (.Name e pe) X.env) = eval (.Name e pe) X.env := by rfl) : ME (X.suite a ((a, oe) :: pn)) C E (.Attribute (.Name e pe) f pos) (mFldE i a n) :=
  PE.imp (pe_xf T hno hz hf he hb) fun σ H Q ⟨env, G, Kd, KX, ok, vr, hm', pv, px⟩ => by
  refine ⟨env, G, _, KX, ok, vr, hm', fun d v H1 G1 s1 ok1 r1 k1 => ?_, px⟩
  obtain ⟨rfl, k1⟩ := k1
  cases r1
  exact ⟨rfl, rfl, dd, _, .int n, rfl, ok1.iv.fx _ hx, by simp [List.lookup], pv _ _ H1 G1 s1 ok1 (.int n) k1⟩
end
/-! ### an own __init__ -/
/-- what an own class over ValueError says of the __init__ that it inherits -/
structure BaseI (K : PySem.W.Frag) (M : Addr) : Prop where
  g : PySem.W.specialIn K (.ref M) "__getattribute__" = some (some (.builtin "type.__getattribute__"))
  t : PySem.W.typeIn K (.ref M) = some (.type "type")
  r : PySem.W.readsIn K M (.type "type") = true
  f : PySem.W.findCls K (.ref M) (.type "type") "__init__" = some (.val (.builtin "ValueError.__init__"))
section
variable {X : Cx} {C : C3} {E : XK} {fr : Bool} {B : Hp} {e : Expr} {es : List Expr} {ta : TA} {p1 p2 pos : Pos} {x : Str} {M : Addr}
/-- M.__init__(self, ..), M a class of the program that inherits ValueError's -/
theorem pe_baseI {pl : Sem Bool} (hg : Gl X x) (gM : X.mg x = some (.ref M)) (T : BaseI X.K M) (ha : PA X (e :: es) ta) (hdb : (x == ("__debug__" : Str)) = false := by decide)
    (ev : eval (.Call (.Attribute (.Name x p1) "__init__" p2) (e :: es) [] pos) X.env = (do
      let b ← eval (.Name x p1) X.env
      standAt p2.atName
      let (g, fs) ← holding [b] (getMethod b "__init__" pl)
      callWith pos g fs (backTo pos (starEach (e :: es) X.env)) (backToKw pos (keywordEach [] X.env))) := by rfl)
    (s1 : starEach (e :: es) X.env = (false, eval e X.env) :: starEach es X.env := by rfl) (s2 : (backTo pos (starEach es X.env)).any (·.1) = false := by rfl) :
    PE X (.Call (.Attribute (.Name x p1) "__init__" p2) (e :: es) [] pos) (tVeI X.K ta) := by
  refine ⟨fun pins s σ H Q I w => ?_⟩
  obtain ⟨m, fz⟩ := I.fr
  refine PySem.W.methodCall_KW (ld_glob I hg gM (PySem.W.method_of_cls fz I.ok.mod.kin T.g (PySem.W.cls_val fz I.ok.mod.kin T.t T.r T.f rfl ?_)) hdb) ev
  show wpAny _ _ (callWith pos (Value.builtin "ValueError.__init__") [] (backTo pos (starEach (e :: es) X.env)) []) _ _ _
  refine PyProof.Rows.callWith_method1 (thn (ha.run pos pins _ σ H _ (I.tok _) w) fun us s' z => ?_) s1 s2
  obtain ⟨vs, H1, I1, rs, a, D, ws, rfl, hl, TD, ea, q⟩ := z
  cases rs with
  | cons ra rw' =>
    cases ra
    refine oinit_ok TD I1 ea ?_ fun s'' J => ⟨.non, H1, J, rfl, q⟩
    rw [← Paired.length rw', sizeLine_eq]
    omega
/-- what __init__(self, n): M.__init__(self, ..); self.f = n keeps -/
def spIni (K : PySem.W.Frag) (D : Addr) (f : Str) : Sp := fun vs H Q _ => ∃ (a : Addr) (v : V), vs = [.ref a, v] ∧ OexC K D ∧ PySem.W.findIn K (.ref D) f = some none ∧ H a = some (exo a D none) ∧
  ∀ dx, H dx = none → dx ≠ a → Q .non (upd (upd H dx (exd dx [(f, v)])) a (exo a D (some dx)))
/-- a class with such an __init__ -/
structure XNk (P : Program) (w : World) (K : PySem.W.Frag) (mg : Str → Option Value) (base : Heap) (x : Str) (k : Nat) : Prop where
  ex : ∃ (D fI : Addr) (fd : FuncData) (ps : List Str), mg x = some (.ref D) ∧ OexC K D ∧ PySem.W.findIn K (.ref D) (fieldOf x) = some none ∧ PySem.W.findIn K (.ref D) "__init__" = some (some (.ref fI)) ∧ PySem.W.typeIn K (.ref fI) = some (.type "function") ∧
    FnOk P w K mg base (L2.CX P w) k fI fd ps (spIni K D (fieldOf x)) ∧ L2.Binds K fd ps []
def mRaiseN (x : Str) (m : MEt) : MSt := fun env Ks => m (viewE env) (fun d => match d with
  | .int n => Ks.ex ⟨x, some n⟩
  | _ => False) Ks.ex
theorem ms_raiseN {k : Nat} {m : MEt} {p pos2 : Pos} (o : XNk X.prog X.w X.K X.mg X.base x k) (hc : X.calm = true) (tk : Takes X (fun cls d _ H => E cls d H)) (hr : Room (k + 1) X.A) (hx : Passes (L2.CX X.prog X.w) X E0) (hg : Gl X x) (he : ME X C E e m) (hdb : (x == ("__debug__" : Str)) = false := by decide)
    (s1 : starEach (e :: []) X.env = (false, eval e X.env) :: starEach [] X.env := by rfl) (s2 : (backTo pos (starEach [] X.env)).any (·.1) = false := by rfl) : MS X C E fr B (.Raise (some (.Call (.Name x p) [e] [] pos)) none pos2) (mRaiseN x m) := fun G0 => by
  obtain ⟨D, fI, fd, ps, gx, T, hno, iC, tI, FF, hb⟩ := o.ex
  refine PS.imp (ps_raise hc tk (pmk_oex T iC tI FF hr hb .nil hx hg gx (pa_cons he pa_nil s1) hdb s1 s2)) fun En σ H ⟨env, G, Ks, er, hm, f⟩ => ?_
  refine ⟨viewE env, G, _, Ks.ex, er.z.ok, er.vr, hm, fun d v H1 G1 st1 ok1 r1 k1 => ?_, f.px er.z (Same.refl _)⟩
  obtain ⟨n, rfl⟩ : ∃ n, d = .int n := by cases d <;> first | exact (show False from k1).elim | exact ⟨_, rfl⟩
  cases r1
  refine ⟨by simp, fun a na => ⟨a, .int n, rfl, T, hno, upd_same, fun dx nd ne => ⟨rfl, dx, [(fieldOf x, .int n)], upd_same, ?_, ?_, ?_⟩⟩⟩
  · rw [upd_ne ne, upd_same]
  · rw [upd_ne ne] at nd
    exact nd
  · have nd1 : H1 dx = none := by rw [upd_ne ne] at nd; exact nd
    have at_ : ∀ b, b ≠ a → b ≠ dx → upd (L2.del (upd (upd (upd H1 a (exo a D none)) dx (exd dx [(fieldOf x, .int n)])) a (exo a D (some dx))) a) dx (.xd [(fieldOf x, .int n)]) b = H1 b := fun b h1 h2 => by
      rw [upd_ne h2, L2.del_ne h1, upd_ne h1, upd_ne h2, upd_ne h1]
    have sm : Same H1 (upd (L2.del (upd (upd (upd H1 a (exo a D none)) dx (exd dx [(fieldOf x, .int n)])) a (exo a D (some dx))) a) dx (.xd [(fieldOf x, .int n)])) := fun b u h => by
      rw [at_ b (ne_of_none h na) (ne_of_none h nd1)]
      exact h
    have er1 := er.step st1 ok1
    refine f.ex ⟨x, some n⟩ (.ref D) (some dx) _ k1 (fun b u sp h => nT_same sm b u (er1.z.keep b u sp h)) (fun b u h => sm b u (ok1.sub b u (er1.z.g0 b u h)).2) (ok1.iv.same sm) ⟨D, gx, rfl, dx, rfl, upd_same, ?_⟩
    cases q : G0 dx with
    | none => rfl
    | some u =>
      have := (ok1.sub dx u (er1.z.g0 dx u q)).2
      rw [nd1] at this
      cases this
end
end L3
/-! L3r: _law_kind of errors with a field, too -/
namespace L3
open PySem PySem.Spec PyProof.Rows L2
def m__law_kindM (a : Addr) (n : Int) (b_BadLead b_BadSpare b_BadMove b_NoWay b_BadWord b_BadHouse b_BadCall b_BadText : Bool) : MSt :=
  (mSeq (mSet 2 (mLst (aCons (mIsE 1 a b_BadLead) (aCons (mIsE 1 a b_BadSpare) (aCons (mIsE 1 a b_BadMove) (aCons (mIsE 1 a b_NoWay) aNil))))))
  (mSeq (mSetF 2 (m2 catD (mVar 2) (mLst (aCons (mIsE 1 a b_BadWord) (aCons (mIsE 1 a b_BadHouse) (aCons (mIsE 1 a b_BadCall) aNil))))))
  (mSeq (mAppend 2 (mIsE 1 a b_BadText))
  (mSeq (mSet 3 (mLst (aCons (mC (.str "BadLead")) (aCons (mC (.str "BadSpare")) (aCons (mC (.str "BadMove")) (aCons (mC (.str "NoWay")) (aCons (mC (.str "BadWord")) (aCons (mC (.str "BadHouse")) (aCons (mC (.str "BadCall")) (aCons (mC (.str "BadText")) aNil))))))))))
  (mSeq (mIfS (mOr (mB (m2 (eqE true) (mCountM (mVar 2) (mC (.bl true))) (mC (.int 1)))) (mNot (mB (mIsE 1 a true)))) (mRet (mC (.str "other"))) mNext)
  (mSeq (mSetL 4 (m2 ixD (mVar 3) (mIndexM (mVar 2) (mC (.bl true)))))
  (mSeq (mIfS (mB (m2 (eqE false) (mVar 4) (mC (.str "BadMove")))) (mRet (mTup (aCons (mVar 4) (aCons (mFldE 1 a n) aNil)))) mNext)
  (mRet (mIf (mB (m2 (eqE false) (mVar 4) (mC (.str "BadText")))) (mTup (aCons (mVar 4) (aCons mNo aNil))) (mVar 4))))))))))
def m__law_kindT (a : Addr) (n : Int) (b_BadLead b_BadSpare b_BadMove b_NoWay b_BadWord b_BadHouse b_BadCall b_BadText : Bool) : MSt :=
  (mSeq (mSet 2 (mLst (aCons (mIsE 1 a b_BadLead) (aCons (mIsE 1 a b_BadSpare) (aCons (mIsE 1 a b_BadMove) (aCons (mIsE 1 a b_NoWay) aNil))))))
  (mSeq (mSetF 2 (m2 catD (mVar 2) (mLst (aCons (mIsE 1 a b_BadWord) (aCons (mIsE 1 a b_BadHouse) (aCons (mIsE 1 a b_BadCall) aNil))))))
  (mSeq (mAppend 2 (mIsE 1 a b_BadText))
  (mSeq (mSet 3 (mLst (aCons (mC (.str "BadLead")) (aCons (mC (.str "BadSpare")) (aCons (mC (.str "BadMove")) (aCons (mC (.str "NoWay")) (aCons (mC (.str "BadWord")) (aCons (mC (.str "BadHouse")) (aCons (mC (.str "BadCall")) (aCons (mC (.str "BadText")) aNil))))))))))
  (mSeq (mIfS (mOr (mB (m2 (eqE true) (mCountM (mVar 2) (mC (.bl true))) (mC (.int 1)))) (mNot (mB (mIsE 1 a true)))) (mRet (mC (.str "other"))) mNext)
  (mSeq (mSetL 4 (m2 ixD (mVar 3) (mIndexM (mVar 2) (mC (.bl true)))))
  (mSeq (mIfS (mB (m2 (eqE false) (mVar 4) (mC (.str "BadMove")))) (mRet (mTup (aCons (mVar 4) (aCons mNo aNil)))) mNext)
  (mRet (mIf (mB (m2 (eqE false) (mVar 4) (mC (.str "BadText")))) (mTup (aCons (mVar 4) (aCons (mFldE 1 a n) aNil))) (mVar 4))))))))))
theorem pu_kind_BadMove (a : Addr) (n : Int) (Ks : KS) (k : Ks.rt (.tup [.str "BadMove", .int n])) : m__law_kindM a n false false true false false false false false [none, some (.sh (.ref a)), none, none, none] Ks := by
  refine ⟨rfl, rfl, rfl, rfl, by decide, rfl, rfl, rfl, by decide, by decide, fun q => ⟨rfl, by decide, ⟨by decide, ?_⟩⟩⟩
  refine ⟨⟨_, rfl⟩, rfl, rfl, eqE_int ?_⟩
  refine ⟨rfl, ⟨_, rfl⟩, rfl, rfl, 2, .bl true, rfl, rfl, fun m z' hm hz => ?_, ixD_lst (d := .str "BadMove") rfl ⟨rfl, eqE_str ?_⟩⟩
  · match m, hm, hz with | 0, _, rfl => rfl | 1, _, rfl => rfl
  · exact ⟨rfl, (by show 2 ≤ sizeLine; decide), k⟩
theorem kind_BadMove (a : Addr) (n : Int) (Ks : KS) (k : Ks.rt (.tup [.str "BadMove", .int n])) : m__law_kindM a n (decide (("BadLead" : Str) = "BadMove")) (decide (("BadSpare" : Str) = "BadMove")) (decide (("BadMove" : Str) = "BadMove")) (decide (("NoWay" : Str) = "BadMove")) (decide (("BadWord" : Str) = "BadMove")) (decide (("BadHouse" : Str) = "BadMove")) (decide (("BadCall" : Str) = "BadMove")) (decide (("BadText" : Str) = "BadMove")) [none, some (.sh (.ref a)), none, none, none] Ks := by
  rw [show decide (("BadLead" : Str) = "BadMove") = false by decide +kernel, show decide (("BadSpare" : Str) = "BadMove") = false by decide +kernel, show decide (("BadMove" : Str) = "BadMove") = true by decide +kernel, show decide (("NoWay" : Str) = "BadMove") = false by decide +kernel, show decide (("BadWord" : Str) = "BadMove") = false by decide +kernel, show decide (("BadHouse" : Str) = "BadMove") = false by decide +kernel, show decide (("BadCall" : Str) = "BadMove") = false by decide +kernel, show decide (("BadText" : Str) = "BadMove") = false by decide +kernel]
  exact pu_kind_BadMove a n Ks k
theorem pu_kind_BadText (a : Addr) (n : Int) (Ks : KS) (k : Ks.rt (.tup [.str "BadText", .int n])) : m__law_kindT a n false false false false false false false true [none, some (.sh (.ref a)), none, none, none] Ks := by
  refine ⟨rfl, rfl, rfl, rfl, by decide, rfl, rfl, rfl, by decide, by decide, fun q => ⟨rfl, by decide, ⟨by decide, ?_⟩⟩⟩
  refine ⟨⟨_, rfl⟩, rfl, rfl, eqE_int ?_⟩
  refine ⟨rfl, ⟨_, rfl⟩, rfl, rfl, 7, .bl true, rfl, rfl, fun m z' hm hz => ?_, ixD_lst (d := .str "BadText") rfl ⟨rfl, eqE_str ?_⟩⟩
  · match m, hm, hz with | 0, _, rfl => rfl | 1, _, rfl => rfl | 2, _, rfl => rfl | 3, _, rfl => rfl | 4, _, rfl => rfl | 5, _, rfl => rfl | 6, _, rfl => rfl
  · exact eqE_str ⟨rfl, (by show 2 ≤ sizeLine; decide), k⟩
theorem kind_BadText (a : Addr) (n : Int) (Ks : KS) (k : Ks.rt (.tup [.str "BadText", .int n])) : m__law_kindT a n (decide (("BadLead" : Str) = "BadText")) (decide (("BadSpare" : Str) = "BadText")) (decide (("BadMove" : Str) = "BadText")) (decide (("NoWay" : Str) = "BadText")) (decide (("BadWord" : Str) = "BadText")) (decide (("BadHouse" : Str) = "BadText")) (decide (("BadCall" : Str) = "BadText")) (decide (("BadText" : Str) = "BadText")) [none, some (.sh (.ref a)), none, none, none] Ks := by
  rw [show decide (("BadLead" : Str) = "BadText") = false by decide +kernel, show decide (("BadSpare" : Str) = "BadText") = false by decide +kernel, show decide (("BadMove" : Str) = "BadText") = false by decide +kernel, show decide (("NoWay" : Str) = "BadText") = false by decide +kernel, show decide (("BadWord" : Str) = "BadText") = false by decide +kernel, show decide (("BadHouse" : Str) = "BadText") = false by decide +kernel, show decide (("BadCall" : Str) = "BadText") = false by decide +kernel, show decide (("BadText" : Str) = "BadText") = true by decide +kernel]
  exact pu_kind_BadText a n Ks k
/-- what it makes of the lambda's reading: ws without a field, wn with one -/
def TTn (C : C3) (mg : Str → Option Value) (ws wn : List Str) : (XK → Hp → VK → Prop) → Hp → VK → Prop := fun tl H Q =>
  tl (fun cls d H' => (∃ (w : Str) (G : Hp) (D : Addr), Ok3 C H' G ∧ w ∈ ws ∧ cls = .ref D ∧ d = none ∧ Kinds C.K mg D w ∧ PostV C H' G (fun y => y = .str w) Q) ∨
    ∃ (w : Str) (n : Int) (G : Hp) (D dd : Addr), Ok3 C H' G ∧ w ∈ wn ∧ cls = .ref D ∧ d = some dd ∧ H' dd = some (.xd [(fieldOf w, .int n)]) ∧ G dd = none ∧ Kinds C.K mg D w ∧ XfC C.K D ∧ PySem.W.findIn C.K (.ref D) (fieldOf w) = some none ∧ PostV C H' G (fun y => y = .tup [.str w, .int n]) Q) H Q
def kindX (ws wn : List Str) (Kd : D → Prop) (x : Exn) : Prop := match x.num with
  | none => x.cls ∈ ws ∧ Kd (.str x.cls)
  | some n => x.cls ∈ wn ∧ Kd (.tup [.str x.cls, .int n])
def mKindN (ws wn : List Str) (m : MEt) : MEt := fun env Kd KX => m env Kd (kindX ws wn Kd)
open LamX in
/-- _law_kind(lambda: body) -/
theorem me_kindN {X : Cx} {C : C3} {E : XK} {ws wn : List Str} {m : MEt} {x a : Str} {g c P : Addr} {k : Nat} {pg : Arguments} {bg : List Stmt} {sg : Scope} {dV kV doc pm cdv ct oc : Value} {an od : Option Addr} {osl : Array (Option Value)} {Ng : List Str}
    {params : Arguments} {body : Expr} {scope : Scope} {p lpos pos : Pos} (hK : X.K = C.K) (hfx : ∀ p ∈ C.fix, notTbl p.2 = true) (kt : ∀ w ∈ ws, ∃ D, X.mg w = some (.ref D) ∧ Kinds X.K X.mg D w) (ktn : ∀ w ∈ wn, ∃ D, X.mg w = some (.ref D) ∧ Kinds X.K X.mg D w ∧ XfC X.K D ∧ PySem.W.findIn X.K (.ref D) (fieldOf w) = some none) (hg : Gl X x) (hm : X.mg x = some (.ref g)) (hk : PySem.W.keepIn X.K (.ref g) = true)
    (lk : X.K.lookup g = some ⟨oc, od, .func (PySem.W.fnOf x x pg bg sg dV kV doc pm an cdv ct), osl⟩) (hcg : PySem.W.codeIn X.K cdv x = true) (hb : L2.Binds X.K (PySem.W.fnOf x x pg bg sg dV kV doc pm an cdv ct) [a] []) (Sg : FnScope Ng [a] sg) (hNg : Ng[0]? = some a) (hva : Vis sg a)
    (hG : GivesTo X Ng x sg g cdv bg a (X.env.qual ++ "<lambda>") (TTn C X.mg ws wn))
    (TB : TabB X.base X.mg c P) (hcode : X.env.code = .ref c) (hmT : (P, X.env.qual ++ "<lambda>") ∈ C.tabs) (hu : ∀ p ∈ C.tabs, p.1 = P → p.2 = X.env.qual ++ "<lambda>") (hr : Room (k + 2) X.A) (L : LamS X.env.scope scope) (hdef : defaultsOf params X.env = ([], []))
    (hbind : ∀ (q : Str) (cl : List (Str × Addr)) (pm cv ctv : Value), bindArgs (PySem.W.kla_fn "<lambda>" q params body scope cl pm cv ctv) ⟨[], []⟩ = pure [])
    (hbody : ∀ (A : Around) (outer : List Env) (s : Shared) (H : Hp) (E : XK) (f c' : Addr), Room k (A.deeper (lamEnv X scope s.heap.objs.size f c')) → ME (lamCx X A outer s H E scope f c') C E body m)
    (hdb : (x == ("__debug__" : Str)) = false := by decide) (hd : (a == ("__debug__" : Str)) = false := by decide) (hcd : (a == ("__classdict__" : Str)) = false := by decide) :
    ME X C E (.Call (.Name x p) [.Lambda params body scope lpos] [] pos) (mKindN ws wn m) :=
  PE.imp (pe_lamcall (T := C.tabs) (TT := TTn C X.mg ws wn) (t := fun E => lift C X.mg E m) hg hm hk lk hcg hb Sg hNg hva hG TB hcode hmT hu hr L hdef hbind hbody hdb hd hcd) fun σ H Q ⟨env, G, Kd, KX, ok, vr, hm, pv, px⟩ => by
  refine ⟨ok.iv.tb, fun H1 eN tb => ?_⟩
  obtain ⟨ok1, s1⟩ := lam_ok ok hfx eN tb
  refine ⟨env, G, Kd, _, ok1, vr, hm, pv.on s1, fun x cls d H2 kx s2 ok2 r => ?_⟩
  obtain ⟨A, h1, h2, h3⟩ := r
  have kx : kindX ws wn Kd x := kx
  unfold kindX at kx
  cases q : x.num with
  | none =>
    rw [q] at h3 kx
    obtain ⟨hw, kx⟩ := kx
    obtain ⟨D, g1, g2⟩ := kt _ hw
    rw [h1] at g1
    cases g1
    exact .inl ⟨x.cls, G, A, ok2, hw, h2, h3, by rw [← hK]; exact g2, fun y v H3 G3 s3 ok3 r3 e => pv y v H3 G3 ((s1.trans ok2 s2).trans ok3 s3) ok3 r3 (by rw [e]; exact kx)⟩
  | some n =>
    rw [q] at h3 kx
    obtain ⟨hw, kx⟩ := kx
    obtain ⟨D, g1, g2, g3, g4⟩ := ktn _ hw
    rw [h1] at g1
    cases g1
    obtain ⟨dd, e1, e2, e3⟩ := h3
    exact .inr ⟨x.cls, n, G, A, dd, ok2, hw, h2, e1, e2, e3, by rw [← hK]; exact g2, by rw [← hK]; exact g3, by rw [← hK]; exact g4, fun y v H3 G3 s3 ok3 r3 e => pv y v H3 G3 ((s1.trans ok2 s2).trans ok3 s3) ok3 r3 (by rw [e]; exact kx)⟩
/-- the error's dict among what stays -/
theorem fix_ok {C : C3} {H G : Hp} (ok : Ok3 C H G) {dd : Addr} {fs : List (Str × V)} (hd : H dd = some (.xd fs)) (g : G dd = none) : Ok3 { C with fix := (dd, .xd fs) :: C.fix } H G := by
  have sp : ∀ a, a ≠ dd → C.sp a = false → C3.sp { C with fix := (dd, .xd fs) :: C.fix } a = false := fun a h1 h2 => by
    unfold C3.sp at h2 ⊢
    rw [Bool.or_eq_false_iff, Bool.or_eq_false_iff] at h2 ⊢
    refine ⟨⟨h2.1.1, ?_⟩, h2.2⟩
    rw [List.any_cons, h2.1.2, Bool.or_false]
    exact decide_eq_false fun e => h1 e.symm
  refine ⟨⟨fun a sa ns e => ?_, fun p hp => ?_, ok.iv.tb⟩, fun a o h => ⟨sp a (fun e => by rw [e, g] at h; cases h) (ok.sub a o h).1, (ok.sub a o h).2⟩, ok.nt⟩
  · obtain ⟨h1, h2, h3⟩ := ok.iv.st a sa ns e
    refine ⟨h1, ?_, ?_⟩
    · rcases h2 with ⟨o, h⟩ | h
      · exact .inl ⟨o, List.mem_cons_of_mem _ h⟩
      · exact .inr h
    · rw [List.any_cons, h3, Bool.or_false]
      obtain ⟨i, m, r, hl, _⟩ := h1
      exact decide_eq_false fun e => by
        have e : dd = a := e
        rw [e, hl] at hd
        cases hd
  · rcases List.mem_cons.mp hp with e | e
    · rw [e]; exact hd
    · exact ok.iv.fx p e
/-- .. and back -/
theorem unfix_ok {C : C3} {H G : Hp} {dd : Addr} {fs : List (Str × V)} (ok : Ok3 { C with fix := (dd, .xd fs) :: C.fix } H G) : Ok3 C H G := by
  have sp : ∀ a, C3.sp { C with fix := (dd, .xd fs) :: C.fix } a = false → C.sp a = false := fun a h => by
    unfold C3.sp at h ⊢
    rw [Bool.or_eq_false_iff, Bool.or_eq_false_iff] at h ⊢
    have h2 := h.1.2
    rw [List.any_cons, Bool.or_eq_false_iff] at h2
    exact ⟨⟨h.1.1, h2.2⟩, h.2⟩
  refine ⟨⟨fun a sa ns e => ?_, fun q hq => ok.iv.fx q (List.mem_cons_of_mem _ hq), ok.iv.tb⟩, fun a o h => ⟨sp a (ok.sub a o h).1, (ok.sub a o h).2⟩, ok.nt⟩
  obtain ⟨h1, h2, h3⟩ := ok.iv.st a sa ns e
  rw [List.any_cons, Bool.or_eq_false_iff] at h3
  refine ⟨h1, ?_, h3.2⟩
  rcases h2 with ⟨o, h⟩ | h
  · rcases List.mem_cons.mp h with e2 | e2
    · cases e2
    · exact .inl ⟨o, e2⟩
  · exact .inr h
theorem fix_nx {C : C3} {H H2 G2 : Hp} {dd : Addr} {fs : List (Str × V)} (ok : Ok3 { C with fix := (dd, .xd fs) :: C.fix } H2 G2) (k : ∀ a o, C3.sp { C with fix := (dd, .xd fs) :: C.fix } a = false → nT H a = some o → nT H2 a = some o) (hd : H dd = some (.xd fs)) : ∀ a o, C.sp a = false → nT H a = some o → nT H2 a = some o := fun a o h1 h2 => by
  by_cases c : a = dd
  · rw [c, nT_of hd] at h2
    cases h2
    rw [c]
    exact nT_of (ok.iv.fx (dd, .xd fs) List.mem_cons_self)
  · refine k a o ?_ h2
    unfold C3.sp at h1 ⊢
    rw [Bool.or_eq_false_iff, Bool.or_eq_false_iff] at h1 ⊢
    refine ⟨⟨h1.1.1, ?_⟩, h1.2⟩
    rw [List.any_cons, h1.1.2, Bool.or_false]
    exact decide_eq_false fun e => c e.symm
end L3
/-! L3s: a def that changes the list that it is handed first -/
namespace L3
open PySem PySem.Spec PyProof.Rows L2
abbrev OSpec := List D → List D → (List D → Prop) → Prop
def OSp (K : PySem.W.Frag) (n : Nat) (spec : OSpec) : Sp := fun vs H Q _ => ∃ (st : Option (Addr × Addr × List Int)) (fix : List (Addr × HO)) (tabs : List (Addr × Str)) (p : Addr) (vr : List V) (xs : List D) (ys : List V) (ds : List D) (G : Hp) (Kl : List D → Prop),
  vs = .ref p :: vr ∧ Ok3 ⟨K, st, fix, tabs⟩ H G ∧ C3.sp ⟨K, st, fix, tabs⟩ p = false ∧ G p = none ∧ H p = some (.lst ys) ∧ Rps K G xs ys ∧ Rps K G ds vr ∧ ds.length = n ∧ spec xs ds Kl ∧
  ∀ xs' ys' H' G', (∀ a o, C3.sp ⟨K, st, fix, tabs⟩ a = false → a ≠ p → nT H a = some o → nT H' a = some o) → Same G G' → (∀ a o, G a = none → G' a = some o → nT H a = none ∨ ∃ q, o = LamX.CodeO a q) → Ok3 ⟨K, st, fix, tabs⟩ H' G' → H' p = some (.lst ys') → G' p = none → Rps K G' xs' ys' → Kl xs' → Q .non H'
def startO (N : Nat) (p : Addr) (xs ds : List D) : EnvS := some (.own p (.lst xs)) :: startS (N - 1) ds
def offP (H : Hp) (p : Addr) : Hp := fun a => if a = p then none else H a
theorem offP_of {H : Hp} {p a : Addr} {o : HO} (h : offP H p a = some o) : a ≠ p ∧ H a = some o := by
  unfold offP at h
  by_cases c : a = p
  · rw [if_pos c] at h; cases h
  · rw [if_neg c] at h; exact ⟨c, h⟩
theorem startS_sh {N : Nat} {ds : List D} {i : Nat} {s : Slot} (h : (startS N ds)[i]? = some (some s)) : ∃ d, s = .sh d ∧ ds[i]? = some d := by
  unfold startS at h
  rw [List.getElem?_append] at h
  split at h
  · rw [List.getElem?_map] at h
    cases q : ds[i]? with
    | none => rw [q] at h; cases h
    | some d =>
      rw [q] at h
      have h : some (some (Slot.sh d)) = some (some s) := h
      cases h
      exact ⟨d, rfl, rfl⟩
  · rw [List.getElem?_replicate] at h
    split at h <;> cases h
theorem fn_l3o {P : Program} {w : World} {K : PySem.W.Frag} {mg : Str → Option Value} {base : Heap} {x qual : Str} {st : Stmt} {f : Addr} {fd : FuncData} {N ps : List Str} {k n : Nat} {spec : OSpec} (F : Fun K x qual st f fd) (S : FnScope N ps (defScope st)) (hn : ps.length = n + 1) (hN : n + 1 ≤ N.length) (m : MSt)
    (der : ∀ (s0 : Option (Addr × Addr × List Int)) (fix : List (Addr × HO)) (tabs : List (Addr × Str)) (B : Hp) (cdv : Value) (A : Around) (outer : List Env) (s : Shared) (H : Hp) (E : XK), Room k (A.deeper (envOfC qual (defScope st) s.heap.objs.size f cdv)) →
      MSs (cxOf (L2.CX P w) P w K mg base N qual (defScope st) f cdv A outer s H E) ⟨K, s0, fix, tabs⟩ E false B (defBody st) m)
    (pure : ∀ (p : Addr) (xs ds : List D) (Kl : List D → Prop), ds.length = n → spec xs ds Kl → m (startO N.length p xs ds) { nx := fun env => ∃ xs', env[0]? = some (some (.own p (.lst xs'))) ∧ Kl xs', rt := fun _ => False }) :
    FnOk P w K mg base (L2.CX P w) (k + 1) f fd ps (OSp K n spec) := by
  refine F.okX S (fun vs H Q E h => ?_) (fun cdv A outer s H vs Q E hr h => ?_)
  · obtain ⟨st, fix, tabs, p, vr, xs, ys, ds, G, Kl, rfl, ok, sp, g, hp, r1, r, hl, _⟩ := h
    rw [List.length_cons, ← r.length, hl, hn]
  · obtain ⟨s0, fix, tabs, p, vr, xs, ys, ds, G, Kl, rfl, ok, sp, g, hp, r1, r, hl, hs, pv⟩ := h
    have elen : ds.length = vr.length := r.length
    refine ⟨_, der s0 fix tabs (offP (nT H) p) cdv A outer s H E hr G, startO N.length p xs ds, G, _, ?_, pure p xs ds Kl hl hs, ?_⟩
    · refine ⟨⟨ok, Same.refl _, fun a o h h' => absurd (h.symm.trans h') (fun z => nomatch z), fun a o _ h => (offP_of h).2⟩, ?_, fun i d h => ?_, fun i q d h => ?_, fun i j q d e h h' => ?_⟩
      · unfold startO startS L2.start
        simp [elen]
        omega
      · match i, h with
        | 0, h => cases h
        | i + 1, h =>
          obtain ⟨d', e, q⟩ := startS_sh (show (startS (N.length - 1) ds)[i]? = some (some (.sh d)) from h)
          cases e
          obtain ⟨v, h1, h2⟩ := r.get q
          refine ⟨v, ?_, h2⟩
          have hi : i < vr.length := (List.getElem?_eq_some_iff.mp h1).1
          unfold L2.start
          rw [List.getElem?_append, if_pos (by simpa using hi), List.getElem?_map, List.getElem?_cons_succ, h1]
          rfl
      · match i, h with
        | 0, h =>
          cases h
          exact ⟨rfl, sp, by unfold offP; exact if_pos rfl, g, _, hp, .lst r1⟩
        | i + 1, h =>
          obtain ⟨d', e, _⟩ := startS_sh (show (startS (N.length - 1) ds)[i]? = some (some (.own q d)) from h)
          cases e
      · match i, j, h, h' with
        | 0, 0, _, _ => rfl
        | i + 1, _, h, _ =>
          obtain ⟨d', e, _⟩ := startS_sh (show (startS (N.length - 1) ds)[i]? = some (some (.own q d)) from h)
          cases e
        | _, j + 1, _, h' =>
          obtain ⟨d', e, _⟩ := startS_sh (show (startS (N.length - 1) ds)[j]? = some (some (.own q e)) from h')
          cases e
    · refine ⟨fun env σ H' G' er k => ?_, fun _ _ _ _ _ k => k.elim, fun _ _ _ _ _ k => k.elim, fun _ _ _ _ _ _ k => k.elim, fun x cls d H' k h1 h2 iv r => k.elim⟩
      obtain ⟨xs', h0, kl⟩ := k
      obtain ⟨_, _, _, g', o, ho, ob⟩ := er.own 0 p _ h0
      cases ob with
      | lst r' =>
        refine pv xs' _ H' G' (fun a o sp' ne h => er.z.keep a o sp' ?_) er.z.g0 (fun a o h h' => ?_) er.z.ok ho g' r' kl
        · unfold offP
          rw [if_neg ne]
          exact h
        · have := er.z.fr a o h h'
          unfold offP at this
          by_cases c : a = p
          · rw [c, g'] at h'; cases h'
          · rw [if_neg c] at this; exact this
structure DfO (P : Program) (w : World) (K : PySem.W.Frag) (mg : Str → Option Value) (base : Heap) (x : Str) (k : Nat) (n : Nat) (spec : OSpec) : Prop where
  ex : ∃ (f : Addr) (fd : FuncData) (ps : List Str), FnOk P w K mg base (L2.CX P w) k f fd ps (OSp K n spec) ∧ mg x = some (.ref f) ∧ PySem.W.keepIn K (.ref f) = true ∧ L2.Binds K fd ps []
/-- x(y, ..) as a statement; y the name of an own list -/
def mCallO (i : Nat) (spec : OSpec) (r : MAt) : MSt := fun env Ks => ownL env i fun p xs => r (viewE env) (fun ds => spec xs ds (fun xs' => Ks.nx (env.set i (some (.own p (.lst xs')))))) Ks.ex
theorem upd_back {H : Hp} {p : Addr} {o u : HO} (h : H p = some o) : upd (upd H p u) p o = H := funext fun a => by
  by_cases c : a = p
  · rw [c, upd_same, h]
  · rw [upd_ne c, upd_ne c]
section
variable {X : Cx} {E : XK} {fr : Bool} {B : Hp} {es : List Expr} {r : MAt} {pos p yp spos : Pos} {s0 : Option (Addr × Addr × List Int)} {fix : List (Addr × HO)} {tabs : List (Addr × Str)} {K : PySem.W.Frag}
theorem ms_callO {x y : Str} {i k n : Nat} {spec : OSpec} (F : DfO X.prog X.w X.K X.mg X.base x k n spec) (hr : Room k X.A) (hg : Gl X x) (hx : Passes (L2.CX X.prog X.w) X E) (hn : es.length = n) (ha : MA X ⟨X.K, s0, fix, tabs⟩ E es r)
    (hN : X.N[i]? = some y := by rfl) (hv : Vis X.env.scope y := by first | exact Or.inl rfl | exact Or.inr (Or.inl rfl) | exact Or.inr (Or.inr rfl)) (hd : (y == ("__debug__" : Str)) = false := by decide) (hcd : (y == ("__classdict__" : Str)) = false := by decide)
    (hdb : (x == ("__debug__" : Str)) = false := by decide) (he : starEach (.Name y yp :: es) X.env = (false, eval (.Name y yp) X.env) :: starEach es X.env := by rfl) (hpl : (backTo pos (starEach es X.env)).any (·.1) = false := by rfl) (hs : swapsWith (.Call (.Name x p) (.Name y yp :: es) [] pos) none spos.line X.env = pure false := by rfl) :
    MS X ⟨X.K, s0, fix, tabs⟩ E fr B (.Expr (.Call (.Name x p) (.Name y yp :: es) [] pos) spos) (mCallO i spec r) := fun G0 => by
  obtain ⟨f, fd, ps, F, hm, hk, hb⟩ := F.ex
  refine PS.imp (ps_expr (pe_call F hr hg hm hk hb .nil hx (pa_cons (pe_var hN hv hd hcd) ha he) hdb he hpl) hs) fun En σ H ⟨env, G, Ks, er, hm, f⟩ => ?_
  obtain ⟨q, xs, h0, hm⟩ := ownL_inv hm
  obtain ⟨h1, h2, h3, h4, o, h5, h6⟩ := er.own i q _ h0
  cases h6 with
  | lst rx =>
    rename_i ys
    refine ⟨.ref q, h1, viewE env, G, _, Ks.ex, er.z.ok, er.vr, hm, fun ds vs H1 G1 s1 ok1 r1 n1 k1 => ?_, f.px er.z (Same.refl _)⟩
    have er1 := er.step s1 ok1
    obtain ⟨_, _, _, g1, o1, w1, w2⟩ := er1.own i q _ h0
    cases w2 with
    | lst rx1 =>
      rename_i ys1
      show OSp X.K n spec ((V.ref q :: vs) ++ []) H1 _ E
      rw [List.append_nil]
      refine ⟨s0, fix, tabs, q, vs, xs, ys1, ds, G1, _, rfl, ok1, h2, g1, w1, rx1, r1, n1.trans hn, k1, fun xs' ys' H' G' nx ge fr' ok' hp' gp' r' kl => ?_⟩
      have hne : ∀ a o, G' a = some o → a ≠ q := fun a o h e => by rw [e, gp'] at h; cases h
      have ok2 : Ok3 ⟨X.K, s0, fix, tabs⟩ (upd H' q (.lst ys1)) G' := ⟨ok'.iv.upd h2 (upd_code hp' rfl), fun a o h => ⟨(ok'.sub a o h).1, by rw [upd_ne (hne a o h)]; exact (ok'.sub a o h).2⟩, ok'.nt⟩
      have st2 : Stp ⟨X.K, s0, fix, tabs⟩ H1 G1 (upd H' q (.lst ys1)) G' := ⟨fun a o sp h => by
        by_cases c : a = q
        · subst c
          rw [nT_of w1 rfl] at h
          cases h
          exact nT_of upd_same rfl
        · rw [nT_ne c]
          exact nx a o sp c h, ge, fr'⟩
      have er2 := (er1.step st2 ok2).write h0 (ObjO.lst r')
      rw [upd_back hp'] at er2
      exact f.nx _ _ H' G' er2 kl
end
end L3
/-! L3t: a tuple of words that the top has bound -/
namespace L3
open PySem PySem.Spec PyProof.Rows L2
structure GlobT (K : PySem.W.Frag) (mg : Str → Option Value) (x : Str) (ws : List Str) : Prop where
  ex : ∃ a o its n, mg x = some (.ref a) ∧ K.lookup a = some o ∧ o.cls = .type "tuple" ∧ o.dict = none ∧ o.data = .seq its n ∧ its.size ≤ sizeLine ∧ Vals (ws.map V.str) its.toList
theorem Rps.strs {K : PySem.W.Frag} {G : Hp} : ∀ ws : List Str, Rps K G (ws.map D.str) (ws.map V.str)
  | [] => .nil
  | w :: r => .cons (.str w) (Rps.strs r)
theorem me_globT {X : Cx} {C : C3} {E : XK} {x : Str} {ws : List Str} {pos : Pos} (hK : X.K = C.K) (h : GlobT X.K X.mg x ws) (hg : Gl X x) (hd : (x == ("__debug__" : Str)) = false := by decide) : ME X C E (.Name x pos) (mC (.tup (ws.map D.str))) := by
  obtain ⟨a, o, its, n, h1, h2, h3, h7, h4, h5, h6⟩ := h.ex
  exact me_c (v := .ref a) (pe_glob hg h1 rfl hd) fun G => .tup (.inr ⟨o, its, n, by rw [← hK]; exact h2, h3, h7, h4, h5, h6⟩) (Rps.strs ws)
theorem mem_tab {T : Addr} {tabs : List (Addr × Str)} {q s : Str} (h : tabs = [(T, s)]) (e : q = s) : (T, q) ∈ tabs := by
  subst h
  subst e
  exact List.mem_cons_self
theorem un_tab {T : Addr} {tabs : List (Addr × Str)} {q s : Str} (h : tabs = [(T, s)]) (e : q = s) : ∀ p ∈ tabs, p.1 = T → p.2 = q := by
  subst h
  subst e
  intro p hp _
  rw [List.mem_singleton.mp hp]
theorem lam_q {x : Str} (h : x = ("law" : Str) ++ ".<locals>.") : x ++ "<lambda>" = lamQ := by rw [h]
end L3
/-! L3u: what the top says, from what is looked up in it -/
namespace L3
open PySem PySem.Spec PyProof.Rows L2
theorem kit_ref {K : PySem.W.Frag} {D C : Addr} {b : Bool} (h1 : PySem.W.isClsIn K C = true) (h2 : PySem.W.typeIn K (.ref C) = some (.type "type")) (h3 : PySem.W.subIn K (.ref D) (.ref C) = some b) (h4 : PySem.W.subIn K (.ref D) (.ref D) = some true) : PySem.W.kitOne K (.ref D) (.ref C) = some b := by
  unfold PySem.W.kitOne
  by_cases e : D = C
  · subst e
    rw [h3] at h4
    rw [if_pos (beq_self_eq_true _), h4]
  · rw [if_neg (by rw [beq_iff_eq]; intro z; exact e (by cases z; rfl))]
    show (if ((PySem.W.clsIn K C).isSome && PySem.W.typeIn K (.ref C) == some (.type "type")) = true then PySem.W.subIn K (.ref D) (.ref C) else none) = some b
    have h1 : (PySem.W.clsIn K C).isSome = true := h1
    rw [if_pos (by rw [h1, h2]; rfl), h3]
theorem kit_T {K : PySem.W.Frag} {D : Addr} {T : String} {b : Bool} (h : PySem.W.kitMeta T = true) (h3 : PySem.W.subIn K (.ref D) (.type T) = some b) : PySem.W.kitOne K (.ref D) (.type T) = some b := by
  unfold PySem.W.kitOne
  rw [if_neg (by rw [beq_iff_eq]; intro z; cases z)]
  show (if PySem.W.kitMeta T = true then PySem.W.subIn K (.ref D) (.type T) else none) = some b
  rw [if_pos h, h3]
theorem exm_ref {K : PySem.W.Frag} {D C : Addr} {b : Bool} (h1 : PySem.W.isClsIn K C = true) (h2 : PySem.W.typeIn K (.ref C) = some (.type "type")) (h3 : PySem.W.subIn K (.ref D) (.ref C) = some b) (h5 : PySem.W.subIn K (.ref C) (.type "BaseException") = some true) : PySem.W.exmOne K (.ref D) (.ref C) = some b := by
  unfold PySem.W.exmOne
  rw [if_pos (by rw [h5]; rfl)]
  show (if ((PySem.W.clsIn K C).isSome && PySem.W.typeIn K (.ref C) == some (.type "type")) = true then PySem.W.subIn K (.ref D) (.ref C) else none) = some b
  have h1 : (PySem.W.clsIn K C).isSome = true := h1
  rw [if_pos (by rw [h1, h2]; rfl), h3]
theorem tab_mk {K : PySem.W.Frag} {x : Str} {f c T : Addr} {oc oc2 : Value} {od od2 : Option Addr} {fd : FuncData} {sl sl2 : Array (Option Value)} {vs : Array Value} (a : PySem.W.nsIn K mainGlobals x = some (some (.ref f))) (l : K.lookup f = some ⟨oc, od, .func fd, sl⟩) (hc : fd.code = .ref c) (k : K.lookup c = some ⟨oc2, od2, .fields vs, sl2⟩) (v : vs[11]? = some (.ref T)) : PySem.W.tabIn K x = some (c, T) := by
  unfold PySem.W.tabIn
  rw [a]
  simp only [l, hc, k, v]
end L3
set_option pp.maxSteps 600
/-! L3w: a new list made of lists of its own -/
namespace L3
open PySem PySem.Spec PyProof.Rows L2
theorem u65 {k : Nat} {A : Around} (r : Room k A) : A.units + 65 < cLine := by
  have := r.un
  omega
section
variable {X : Cx} {C : C3} {E : XK} {fr : Bool} {B : Hp} {e : Expr} {m : MEt} {pos pos' : Pos} {i : Nat} {x : Str}
theorem frzE_no {env : EnvS} {i : Nat} {p : Addr} {d : D} : (frzE env)[i]? ≠ some (some (.own p d)) := fun h => by
  unfold frzE at h
  rw [List.getElem?_map] at h
  cases q : (lendE env)[i]? with
  | none => rw [q] at h; cases h
  | some o =>
    rw [q] at h
    cases o <;> cases h
/-- the lists of its own are frozen, the new one is the name's -/
def mSetFC (i : Nat) (m : MEt) : MSt := fun env Ks => m (lendE env) (fun d => ∀ p, Ks.nx ((frzE env).set i (some (.own p d)))) Ks.ex
theorem ms_setFC (hN : X.N.Nodup) (hi : X.N[i]? = some x) (hx : Loc X.env.scope x) (he : MF X C E e m) (hs : swapsWith e (some (.Name x pos')) pos.line X.env = pure false := by rfl) (hf : X.fn x = true ∨ X.env.scope.names.lookup x = some .local := by first | exact .inl rfl | exact .inr rfl | assumption) :
    MS X C E fr B (.Assign [.Name x pos'] e pos) (mSetFC i m) := fun G0 => PS.imp (ps_set hN hi hx he hs hf) fun En σ H ⟨env, G, Ks, er, hm, f⟩ =>
  ⟨lendE env, _, _, Ks.ex, er.lend.1, er.lend.2, hm, fun d p o H1 G1 s1 ok1 hp gp ho sp ob k1 => f.nx _ _ H1 G1 ((er.frozen s1 ok1).set_own sp (er.z.bfree sp hp) gp ho ob.obj fun j e _ => frzE_no) (k1 p), f.px er.z gLend_ge⟩
/-- lists of its own are lent; the value is a new list of flat things -/
def mSetLF (i : Nat) (m : MEt) : MSt := fun env Ks => m (lendE env) (fun d => (∃ ds, d = .lst ds ∧ ds.all flatD = true) ∧ Ks.nx (env.set i (some (.sh d)))) Ks.ex
theorem Rps.anyG {K : PySem.W.Frag} {G G' : Hp} : ∀ {ds : List D} {vs : List V}, Rps K G ds vs → ds.all flatD = true → Rps K G' ds vs
  | _, _, .nil, _ => .nil
  | _, _, .cons h r, f => by
    rw [List.all_cons, Bool.and_eq_true] at f
    exact .cons (h.anyG f.1) (Rps.anyG r f.2)
theorem ms_setLF (hN : X.N.Nodup) (hi : X.N[i]? = some x) (hx : Loc X.env.scope x) (he : MF X C E e m) (hs : swapsWith e (some (.Name x pos')) pos.line X.env = pure false := by rfl) (hf : X.fn x = true ∨ X.env.scope.names.lookup x = some .local := by first | exact .inl rfl | exact .inr rfl | assumption) :
    MS X C E fr B (.Assign [.Name x pos'] e pos) (mSetLF i m) := fun G0 => PS.imp (ps_set hN hi hx he hs hf) fun En σ H ⟨env, G, Ks, er, hm, f⟩ =>
  ⟨lendE env, _, _, Ks.ex, er.lend.1, er.lend.2, hm, fun d p o H1 G1 s1 ok1 hp gp ho sp ob k1 => by
    obtain ⟨⟨ds, rfl, fl⟩, k1⟩ := k1
    cases ob with
    | lst r =>
      rename_i vs
      have er1 := er.back s1 ok1
      have gn : G p = none := by
        cases q : G p with
        | none => rfl
        | some u =>
          have := er.z.ok.sn q
          rw [hp] at this
          cases this
      have s2 : Stp C H G H1 (upd G p (.lst vs)) := ⟨s1.nx, same_new gn, fun a u h h' => by
        by_cases c : a = p
        · rw [c]; exact .inl hp
        · rw [upd_ne c, h] at h'; cases h'⟩
      have ok2 : Ok3 C H1 (upd G p (.lst vs)) := er1.z.ok.frz gn ho sp
      exact f.nx _ _ H1 _ ((er.step s2 ok2).set_sh (.lst upd_same (r.anyG fl))) k1, f.px er.z gLend_ge⟩
end
end L3
/-! W1: functions made by lambdas that outlive the def that made them -/
namespace L3
open PySem PySem.Spec PyProof.Rows L2 LamX
section
variable {X : Cx} {pins : List (Addr × Obj)} {σ : L2.St} {H : Hp} {s : Shared}
/-- the lambda is made, its object is tracked -/
theorem lam_make3 {T : List (Addr × Str)} {c P : Addr} {params : Arguments} {body : Expr} {scope : Scope} {pos : Pos} {E : Value → Shared → Prop} {Q : Value → Shared → Prop} (I : Inv X pins σ H s) (TB : TabB X.base X.mg c P) (hcode : X.env.code = .ref c)
    (hm : (P, X.env.qual ++ "<lambda>") ∈ T) (hu : ∀ p ∈ T, p.1 = P → p.2 = X.env.qual ++ "<lambda>") (hT : Tabs T H) (hdef : defaultsOf params X.env = ([], [])) (hfree : ∀ y ∈ scope.names, y.2 = .free → ∃ c, X.env.cells.lookup y.1 = some c)
    (h : ∀ (f c' : Addr) (pm ctv : Value) (H1 : Hp) (s' : Shared), ExtN H H1 → Tabs T H1 → H f = none → H1 f = none → (H c' = none ∨ H c' = some (CodeO c' (X.env.qual ++ "<lambda>"))) → H1 c' = some (CodeO c' (X.env.qual ++ "<lambda>")) → (∀ b, H b ≠ none → H1 b ≠ none) →
      Inv X pins σ (upd H1 f (frzO (PySem.W.kla_obj "<lambda>" (X.env.qual ++ "<lambda>") params body scope (cloFrom X.env.cells scope.names []) pm c' ctv))) s' → Q (.ref f) s') :
    wpAny (model X.prog X.w) X.A (eval (.Lambda params body scope pos) X.env) Q E s := by
  obtain ⟨ps, hP, ht, ha⟩ := hT _ hm
  refine PySem.W.kla_eval hdef ?_
  have bP : s.heap.BuiltinsAt X.mg P := TB.bm.keeps I.bk
  have hP' : s.heap.get? P = some { cls := .none, data := .fields ps } := I.hok P _ hP
  cases hc : codeAmong pos ps.toList with
  | none =>
    refine PySem.W.kla_makeFunction (mg := X.mg) (c := c) (P := P) (ps := ps) (closure_ok hfree) I.ok.glob (I.mod.glob.keeps I.bk) hcode (TB.code.keeps I.bk) hP' ht hc TB.gP bP fun c' ctv h' tk hx hge hlt hrec htb => ?_
    obtain ⟨c2, oc, vs, t, e2, hoc, hd, hv⟩ := hrec
    cases e2
    have hsz : s.heap.objs.size ≤ h'.objs.size := Nat.le_trans hge (Nat.le_of_lt hlt)
    have nC : H c' = none := I.hok.fresh hge
    have I1 := inv_table (t' := tk) (more := #[rawInt pos.line, rawInt pos.col, .ref c']) (h' := h') I hP hx htb hge ⟨oc, vs, t, hoc, hd, hv⟩
    have hE : ExtN H (upd (upd H P (.tbl (ps ++ #[rawInt pos.line, rawInt pos.col, .ref c']))) c' (CodeO c' (X.env.qual ++ "<lambda>"))) := fun b o e n => by
      rw [upd_ne (ne_of_none e nC), upd_ne (fun z => n ps (Option.some.inj (e.symm.trans (by rw [z]; exact hP))))]
      exact e
    have eL : (ps ++ #[rawInt pos.line, rawInt pos.col, .ref c']).toList = ps.toList ++ [rawInt pos.line, rawInt pos.col, .ref c'] := by simp
    refine h h'.objs.size c' ((X.mg "__name__").getD .none) ctv _ _ hE (fun p hp => ?_) (I.hok.fresh hsz) (I1.hok.fresh (Nat.le_refl _)) (.inl nC) upd_same (fun b hb => ?_) (I1.laid (a := h'.objs.size) (h' := h'.push (PySem.W.kla_obj "<lambda>" (X.env.qual ++ "<lambda>") params body scope (cloFrom X.env.cells scope.names []) ((X.mg "__name__").getD .none) c' ctv)) (t' := tk) (fun b o e => Heap.get?_push_of_some _ e) (Nat.le_refl _) ⟨Heap.get?_push_size _ rfl, ⟨_, Heap.get?_push_size _ rfl⟩⟩)
    · by_cases hb : p.1 = P
      · rw [hu p hp hb, hb]
        refine ⟨_, by rw [upd_ne (ne_of_none hP nC), upd_same], by rw [eL]; exact PySem.TriplesOk_snoc _ _ _ _ ht, fun p' cv hcv => ?_⟩
        rw [eL] at hcv
        rcases among_app _ ht hcv with z | z
        · obtain ⟨c0, e1, e2⟩ := ha p' cv z
          exact ⟨c0, e1, hE _ _ e2 codeO_ne⟩
        · exact ⟨c', z, upd_same⟩
      · obtain ⟨ps', a1, a2, a3⟩ := hT p hp
        refine ⟨ps', by rw [upd_ne (ne_of_none a1 nC), upd_ne hb]; exact a1, a2, fun p' cv hcv => ?_⟩
        obtain ⟨c0, e1, e2⟩ := a3 p' cv hcv
        exact ⟨c0, e1, hE _ _ e2 codeO_ne⟩
    · by_cases z : b = c'
      · rw [z, upd_same]
        exact fun e => nomatch e
      · rw [upd_ne z]
        by_cases z2 : b = P
        · rw [z2, upd_same]
          exact fun e => nomatch e
        · rw [upd_ne z2]
          exact hb
  | some cv =>
    obtain ⟨c', e, hco⟩ := ha pos cv hc
    subst e
    refine PySem.W.kla_makeFunctionHit (mg := X.mg) (c := c) (P := P) (ps := ps) (closure_ok hfree) I.ok.glob (I.mod.glob.keeps I.bk) hcode (TB.code.keeps I.bk) hP' ht hc bP fun ctv h' tk hx hsz => ?_
    have I1 : Inv X pins σ H { s with heap := h', toks := tk } := I.kept hx
    exact h h'.objs.size c' ((X.mg "__name__").getD .none) ctv H _ (ExtN.refl H) hT (I.hok.fresh hsz) (I.hok.fresh hsz) (.inr hco) hco (fun b hb => hb) (I1.laid (a := h'.objs.size) (h' := h'.push (PySem.W.kla_obj "<lambda>" (X.env.qual ++ "<lambda>") params body scope (cloFrom X.env.cells scope.names []) ((X.mg "__name__").getD .none) c' ctv)) (t' := tk) (fun b o e => Heap.get?_push_of_some _ e) (Nat.le_refl _) ⟨Heap.get?_push_size _ rfl, ⟨_, Heap.get?_push_size _ rfl⟩⟩)
/-- lambda: body, its object tracked -/
def tLam3 (T : List (Addr × Str)) (q : Str) (params : Arguments) (body : Expr) (scope : Scope) (cl : List (Str × Addr)) : TE := fun _ H Q => Tabs T H ∧ ∀ (f c' : Addr) (pm ctv : Value) (H1 : Hp), ExtN H H1 → Tabs T H1 → H f = none → H1 f = none → (H c' = none ∨ H c' = some (CodeO c' q)) → H1 c' = some (CodeO c' q) → (∀ b, H b ≠ none → H1 b ≠ none) →
  Q (.ref f) (upd H1 f (frzO (PySem.W.kla_obj "<lambda>" q params body scope cl pm c' ctv)))
theorem pe_lam3 {T : List (Addr × Str)} {c P : Addr} {params : Arguments} {body : Expr} {scope : Scope} {pos : Pos} (TB : TabB X.base X.mg c P) (hcode : X.env.code = .ref c)
    (hm : (P, X.env.qual ++ "<lambda>") ∈ T) (hu : ∀ p ∈ T, p.1 = P → p.2 = X.env.qual ++ "<lambda>") (L : LamS X.env.scope scope) (hdef : defaultsOf params X.env = ([], [])) :
    PE X (.Lambda params body scope pos) (tLam3 T (X.env.qual ++ "<lambda>") params body scope (cloFrom X.env.cells scope.names [])) := by
  refine ⟨fun pins s σ H Q I h => ?_⟩
  obtain ⟨hT, h⟩ := h
  refine lam_make3 I TB hcode hm hu hT hdef (L.has I.ok) fun f c' pm ctv H1 s' a1 a2 a3 a4 a5 a6 a7 I' => ?_
  exact ⟨.ref f, _, I', rfl, h f c' pm ctv H1 a1 a2 a3 a4 a5 a6 a7⟩
end
end L3
/-! W2: a def that hands back a list of lambdas over its two parameters -/
namespace L3
open PySem PySem.Spec PyProof.Rows L2 LamX
/-- a block that ends with a return; told with the slots -/
structure PSr (X : Cx) (st : List Stmt) (t : (L2.St → Hp → V → Prop) → L2.St → Hp → Prop) : Prop where
  run : ∀ (pins : List (Addr × Obj)) (s : Shared) (σ : L2.St) (H : Hp) (R : L2.St → Hp → V → Prop), Inv X pins σ H s → t R σ H →
    wpAny (model X.prog X.w) X.A (execs st X.env) (fun fl s' => ∃ u v σ' H', fl = .ret u ∧ Inv X pins σ' H' s' ∧ RelV v u ∧ R σ' H' v) X.xe s
def endN (n : L2.St → Hp → Prop) : Ends := { nx := n, rt := fun _ _ => False }
section
variable {X : Cx} {pos : Pos}
theorem psr_cons {st : Stmt} {rest : List Stmt} {t : TS} {u : (L2.St → Hp → V → Prop) → L2.St → Hp → Prop} (h1 : PS X st t) (h2 : PSr X rest u) : PSr X (st :: rest) (fun R σ H => t (endN (u R)) σ H) := by
  refine ⟨fun pins s σ H R I h => ?_⟩
  refine wpAny_execs_cons (thn (h1.run pins s σ H _ I h) fun f s1 q => ?_)
  cases f with
  | next =>
    obtain ⟨σ', H', I', q⟩ := q
    exact h2.run pins s1 σ' H' R I' q
  | ret v =>
    obtain ⟨_, _, _, _, _, q⟩ := q
    exact q.elim
  | brk =>
    obtain ⟨_, _, _, q⟩ := q
    exact (show False from q).elim
  | cont =>
    obtain ⟨_, _, _, q⟩ := q
    exact (show False from q).elim
theorem psr_ret {e : Expr} {te : TE} (he : PE X e te) : PSr X [.Return (some e) pos] (fun R σ H => te σ H fun v H' => R σ H' v) := by
  refine ⟨fun pins s σ H R I h => ?_⟩
  refine wpAny_execs_cons (wpAny_Return_some (thn (he.run pins s σ H _ I h) fun v s1 ⟨x, H1, I1, r1, q1⟩ => ?_))
  exact ⟨v, x, σ, H1, rfl, I1, r1, q1⟩
end
/-! ### tracking -/
theorem hok_track {P : Program} {w : World} {H : Hp} {h : Heap} {c : Addr} {o : Obj} (x : HOk P w H h) (n : H c = none) (e : h.get? c = some o) : HOk P w (upd H c (frzO o)) h := fun b u q => by
  by_cases z : b = c
  · subst z
    rw [upd_same] at q
    cases q
    exact ⟨e, o, e⟩
  · rw [upd_ne z] at q
    exact (x b u q).stay (fun _ _ _ q => q) (fun d q => by rw [upd_ne (ne_of_none q n)]; exact q) fun d xs q => by rw [upd_ne (ne_of_none q n)]; exact q
theorem un_track {fs : List Addr} {H H' : Hp} {h h' : Heap} {c : Addr} {o : Obj} (u : Un fs [] H H' h h') (n : H' c = none) (g : h.objs.size ≤ c) : Un fs [] H (upd H' c (frzO o)) h h' :=
  ⟨u.keep, u.slot, fun b ob e z hx => by rw [upd_ne (Nat.ne_of_lt (Nat.lt_of_lt_of_le (Heap.lt_size e) g))]; exact u.free b ob e z hx, u.there,
    fun b xs q => by rw [upd_ne (ne_of_none (u.tups b xs q) n)]; exact u.tups b xs q, fun b ob xs q => by rw [upd_ne (ne_of_none (u.frzs b ob xs q) n)]; exact u.frzs b ob xs q,
    fun b ps q => by
      obtain ⟨more, z⟩ := u.tbls b ps q
      exact ⟨more, by rw [upd_ne (ne_of_none z n)]; exact z⟩⟩
theorem upd_some {H : Hp} {p b : Addr} {o : HO} (h : H b ≠ none) : L2.upd H p o b ≠ none := by
  unfold L2.upd
  split
  · exact fun z => nomatch z
  · exact h
/-! ### the lambdas so far -/
structure WI (T : List (Addr × Str)) (cells : List (Str × Addr)) (H0 H : Hp) (p : Addr) (ls : List LamD) (fs : List Addr) : Prop where
  e : ExtN H0 H
  lo : ∀ b, H0 b ≠ none → H b ≠ none
  t : Tabs T H
  pn : H0 p = none
  pl : H p = some (.lst (fs.map V.ref))
  ok : Paired (fun (L : LamD) (f : Addr) => H0 f = none ∧ ∃ (c' : Addr) (pm ctv : Value), H f = some (frzO (PySem.W.kla_obj "<lambda>" L.q L.params L.body L.scope (cloFrom cells L.scope.names []) pm c' ctv)) ∧ H c' = some (CodeO c' L.q)) ls fs
theorem tabs_upd {T : List (Addr × Str)} {H : Hp} {p : Addr} {o : HO} (t : Tabs T H) (n : ∀ ps, H p ≠ some (.tbl ps)) (n2 : ∀ q, H p ≠ some (CodeO p q)) : Tabs T (L2.upd H p o) := fun x hx => by
  obtain ⟨ps, h1, h2, h3⟩ := t x hx
  refine ⟨ps, by rw [upd_ne fun z => n ps (by rw [← z]; exact h1)]; exact h1, h2, fun pos cv hc => ?_⟩
  obtain ⟨c, e1, e2⟩ := h3 pos cv hc
  exact ⟨c, e1, by rw [upd_ne fun z => n2 x.2 (by rw [← z]; exact e2)]; exact e2⟩
section
variable {T : List (Addr × Str)} {cells : List (Str × Addr)} {H0 : Hp} {K : PySem.W.Frag} {σ : L2.St} {D : Ends}
theorem paired_snoc {α β : Type} {F : α → β → Prop} {l : List α} {m : List β} (h : Paired F l m) {a : α} {b : β} (hab : F a b) : Paired F (l ++ [a]) (m ++ [b]) := by
  induction h with
  | nil => exact .cons hab .nil
  | cons h t ih => exact .cons h ih
theorem paired_imp {α β : Type} {F F' : α → β → Prop} (h : ∀ a b, F a b → F' a b) : ∀ {l : List α} {l' : List β}, Paired F l l' → Paired F' l l'
  | _, _, .nil => .nil
  | _, _, .cons a r => .cons (h _ _ a) (paired_imp h r)
theorem ws_first {L : LamD} {i : Nat} (hT : Tabs T H0) (k : ∀ p f H, WI T cells H0 H p [L] [f] → D.nx (σ.set i (some (.ref p))) H) : tAsg (tLst (tCons (tLam3 T L.q L.params L.body L.scope (cloFrom cells L.scope.names [])) tNil)) (gName i) D σ H0 := by
  refine ⟨hT, fun f c' pm ctv H1 e1 t1 n0 n1 c0 c1 lo => ⟨by show 1 ≤ sizeLine; decide, fun p hp => ?_⟩⟩
  have hc'f : c' ≠ f := fun z => by rw [z, n1] at c1; cases c1
  have hpf : p ≠ f := fun z => by rw [z, upd_same] at hp; cases hp
  have hp1 : H1 p = none := by rw [upd_ne hpf] at hp; exact hp
  have hpc : c' ≠ p := fun z => by rw [z, hp1] at c1; cases c1
  refine k p f _ ⟨fun b o h n => ?_, fun b hb => upd_some (upd_some (lo b hb)), tabs_upd (tabs_upd (p := f) t1 (fun ps => by rw [n1]; exact fun z => nomatch z) (fun q => by rw [n1]; exact fun z => nomatch z)) (fun ps => by rw [hp]; exact fun z => nomatch z) (fun q => by rw [hp]; exact fun z => nomatch z), ?_, upd_same, .cons ⟨n0, c', pm, ctv, ?_, ?_⟩ .nil⟩
  · have h1 := e1 b o h n
    rw [upd_ne (ne_of_none (by rw [upd_ne (ne_of_none h1 n1)]; exact h1) hp), upd_ne (ne_of_none h1 n1)]
    exact h1
  · cases z : H0 p with
    | none => rfl
    | some o => exact absurd hp1 (lo p (by rw [z]; exact fun z => nomatch z))
  · rw [upd_ne (Ne.symm hpf), upd_same]
  · rw [upd_ne hpc, upd_ne hc'f]
    exact c1
theorem ws_next {L0 : LamD} {i : Nat} {H : Hp} {p : Addr} {ls : List LamD} {fs : List Addr} (W : WI T cells H0 H p ls fs) (hs : σ[i]? = some (some (.ref p))) (hl : fs.length ≤ 100) (k : ∀ f H', WI T cells H0 H' p (ls ++ [L0]) (fs ++ [f]) → D.nx σ H') :
    tDrop (tBM K "list" rAppend (tVar i) (tCons (tLam3 T L0.q L0.params L0.body L0.scope (cloFrom cells L0.scope.names [])) tNil)) D σ H := by
  refine ⟨.ref p, hs, .inl ⟨rfl, _, .inl (.inl W.pl)⟩, W.t, fun f c' pm ctv H1 e1 t1 n0 n1 c0 c1 lo => ?_⟩
  have hp1 : H1 p = some (.lst (fs.map V.ref)) := e1 _ _ W.pl (fun ps z => nomatch z)
  have hpf : p ≠ f := ne_of_none hp1 n1
  have hc'f : c' ≠ f := ne_of_none c1 n1
  have hpc : c' ≠ p := ne_of c1 hp1 (by unfold CodeO; exact fun z => nomatch z)
  have h0p : ∀ {b o}, H0 b = some o → b ≠ p := fun h => ne_of_none h W.pn
  have hsub := W.lo
  have h0f : H0 f = none := by
    cases z : H0 f with
    | none => rfl
    | some o => exact absurd n0 (hsub f (by rw [z]; exact fun z => nomatch z))
  refine ⟨p, fs.map V.ref, .ref f, rfl, rfl, by rw [upd_ne hpf]; exact hp1, by rw [List.length_map]; exact sz_lt (by omega), k f _ ⟨fun b o h n => ?_, fun b hb => upd_some (upd_some (lo b (W.lo b hb))), tabs_upd (tabs_upd (p := f) t1 (fun ps => by rw [n1]; exact fun z => nomatch z) (fun q => by rw [n1]; exact fun z => nomatch z)) (fun ps => by rw [upd_ne hpf, hp1]; exact fun z => nomatch z) (fun q => by rw [upd_ne hpf, hp1]; unfold CodeO; exact fun z => nomatch z), W.pn, ?_, ?_⟩⟩
  · have h1 := e1 b o (W.e b o h n) n
    rw [upd_ne (h0p h), upd_ne (ne_of_none h1 n1)]
    exact h1
  · rw [upd_same, List.map_append]
    rfl
  · have old : ∀ (L : LamD) (g : Addr), (H0 g = none ∧ ∃ (c' : Addr) (pm ctv : Value), H g = some (frzO (PySem.W.kla_obj "<lambda>" L.q L.params L.body L.scope (cloFrom cells L.scope.names []) pm c' ctv)) ∧ H c' = some (CodeO c' L.q)) → (H0 g = none ∧ ∃ (d' : Addr) (pm' ctv' : Value), upd (upd H1 f (frzO (PySem.W.kla_obj "<lambda>" L0.q L0.params L0.body L0.scope (cloFrom cells L0.scope.names []) pm c' ctv))) p (.lst (fs.map V.ref ++ [.ref f])) g = some (frzO (PySem.W.kla_obj "<lambda>" L.q L.params L.body L.scope (cloFrom cells L.scope.names []) pm' d' ctv')) ∧ upd (upd H1 f (frzO (PySem.W.kla_obj "<lambda>" L0.q L0.params L0.body L0.scope (cloFrom cells L0.scope.names []) pm c' ctv))) p (.lst (fs.map V.ref ++ [.ref f])) d' = some (CodeO d' L.q)) := by
      rintro L g ⟨g0, d', pm', ctv', g1, g2⟩
      have k1 := e1 _ _ g1 (fun ps z => nomatch z)
      have k2 := e1 _ _ g2 codeO_ne
      refine ⟨g0, d', pm', ctv', ?_, ?_⟩
      · rw [upd_ne (ne_of k1 hp1 (fun z => nomatch z)), upd_ne (ne_of_none k1 n1)]
        exact k1
      · rw [upd_ne (ne_of k2 hp1 (by unfold CodeO; exact fun z => nomatch z)), upd_ne (ne_of_none k2 n1)]
        exact k2
    refine paired_snoc (paired_imp old W.ok) ⟨h0f, c', pm, ctv, ?_, ?_⟩
    · rw [upd_ne (Ne.symm hpf), upd_same]
    · rw [upd_ne hpc, upd_ne hc'f]
      exact c1
end
end L3
/-! W3: its promise -/
namespace L3
open PySem PySem.Spec PyProof.Rows L2 LamX
open Classical
/-- behind such a def: what is new stands, and the lambdas' code -/
noncomputable def gW (G H0 H1 : Hp) (q : Str) : Hp := fun a => match G a with
  | some o => some o
  | none => if H0 a = none ∨ H1 a = some (CodeO a q) then nT H1 a else none
theorem gW_ge {G H0 H1 : Hp} {q : Str} : Same G (gW G H0 H1 q) := fun a o h => by
  unfold gW
  rw [h]
theorem gW_of {G H0 H1 : Hp} {q : Str} {a : Addr} {o : HO} (h : gW G H0 H1 q a = some o) : G a = some o ∨ (G a = none ∧ (H0 a = none ∨ H1 a = some (CodeO a q)) ∧ nT H1 a = some o) := by
  unfold gW at h
  split at h
  · rename_i e
    cases h
    exact .inl e
  · rename_i e
    split at h
    · rename_i c
      exact .inr ⟨e, c, h⟩
    · cases h
theorem gW_new {G H0 H1 : Hp} {q : Str} {a : Addr} {o : HO} (sub : ∀ a o, G a = some o → H0 a = some o) (h0 : H0 a = none) (h1 : H1 a = some o) (n : notTbl o = true) : gW G H0 H1 q a = some o := by
  have g : G a = none := by
    cases z : G a with
    | none => rfl
    | some u => rw [sub a u z] at h0; cases h0
  unfold gW
  rw [g]
  show (if H0 a = none ∨ H1 a = some (CodeO a q) then nT H1 a else none) = some o
  rw [if_pos (.inl h0)]
  exact nT_of h1 n
theorem gW_code {G H0 H1 : Hp} {q : Str} {a : Addr} (ok : ∀ a o, G a = some o → H1 a = some o) (h1 : H1 a = some (CodeO a q)) : gW G H0 H1 q a = some (CodeO a q) := by
  unfold gW
  cases z : G a with
  | some u =>
    rw [ok a u z] at h1
    exact h1
  | none =>
    show (if H0 a = none ∨ H1 a = some (CodeO a q) then nT H1 a else none) = _
    rw [if_pos (.inr h1)]
    exact nT_of h1 rfl
def fixOk (fix : List (Addr × HO)) : Prop := ∀ p ∈ fix, notTbl p.2 = true ∧ notExt p.2 = true
theorem sp_nocode {C : C3} {H : Hp} (iv : Iv C H) (hf : fixOk C.fix) {a : Addr} {q : Str} (h : H a = some (CodeO a q)) : C.sp a = false := by
  cases z : C.sp a with
  | false => rfl
  | true =>
    unfold C3.sp at z
    rw [Bool.or_eq_true, Bool.or_eq_true] at z
    rcases z with (z | z) | z
    · have z := of_decide_eq_true z
      cases e : C.st with
      | none => rw [e] at z; cases z
      | some t =>
        obtain ⟨x, sa, ns⟩ := t
        rw [e] at z
        have z : x = a := Option.some.inj z
        subst z
        obtain ⟨⟨_, _, _, q, _⟩, _⟩ := iv.st x sa ns e
        rw [q] at h
        unfold CodeO at h
        cases h
    · obtain ⟨p, hp, e⟩ := List.any_eq_true.mp z
      have e := of_decide_eq_true e
      have := iv.fx p hp
      rw [e, h] at this
      have n := (hf p hp).2
      rw [← Option.some.inj this] at n
      exact absurd n Bool.false_ne_true
    · obtain ⟨p, hp, e⟩ := List.any_eq_true.mp z
      obtain ⟨ps, q, _⟩ := iv.tb p hp
      have e := of_decide_eq_true e
      rw [e, h] at q
      unfold CodeO at q
      cases q
theorem works_ok {C : C3} {H0 H1 G : Hp} {q : Str} (ok : Ok3 C H0 G) (hf : fixOk C.fix) (e : ExtN H0 H1) (tb : Tabs C.tabs H1) : Ok3 C H1 (gW G H0 H1 q) ∧ Stp C H0 G H1 (gW G H0 H1 q) := by
  obtain ⟨ok1, s1⟩ := lam_ok ok (fun p hp => (hf p hp).1) e tb
  refine ⟨⟨ok1.iv, fun a o h => ?_, fun a o h => ?_⟩, s1.nx, gW_ge, fun a o h h' => ?_⟩
  · rcases gW_of h with h | ⟨_, h1, h2⟩
    · exact ok1.sub a o h
    · have h3 := (nT_to h2).1
      refine ⟨?_, h3⟩
      rcases h1 with h1 | h1
      · exact ok.iv.new h1
      · exact sp_nocode ok1.iv hf h1
  · rcases gW_of h with h | ⟨_, _, h2⟩
    · exact ok1.nt a o h
    · exact (nT_to h2).2
  · rcases gW_of h' with h2 | ⟨_, h1, h2⟩
    · rw [h] at h2; cases h2
    · rcases h1 with h1 | h1
      · exact .inl (nT_none h1)
      · have h3 := (nT_to h2).1
        rw [h1] at h3
        exact .inr ⟨q, (Option.some.inj h3).symm⟩
/-- the promise -/
def WSp (K : PySem.W.Frag) (T : Addr) (q : Str) (lams : List LamD) : Sp := fun vs H Q _ => ∃ (st : Option (Addr × Addr × List Int)) (fix : List (Addr × HO)) (tabs : List (Addr × Str)) (G : Hp) (b l : D) (vb vl : V),
  vs = [vb, vl] ∧ Ok3 ⟨K, st, fix, tabs⟩ H G ∧ fixOk fix ∧ (T, q) ∈ tabs ∧ (∀ p ∈ tabs, p.1 = T → p.2 = q) ∧ Rp K G b vb ∧ Rp K G l vl ∧ PostV ⟨K, st, fix, tabs⟩ H G (fun d => d = .lst (lams.map fun L => .clo L b l)) Q
structure LamOk (q x y : Str) (L : LamD) : Prop where
  eq : L.q = q
  ex : L.x = x
  ey : L.y = y
  fx : (x, NameKind.free) ∈ L.scope.names
  fy : (y, NameKind.free) ∈ L.scope.names
  no : ∀ z ∈ L.scope.names, z.2 = .free → z.1 = x ∨ z.1 = y
theorem clo_look {cells : List (Str × Addr)} {names : List (Str × NameKind)} {x : Str} {c : Addr} (h : (x, NameKind.free) ∈ names) (hc : cells.lookup x = some c) : (cloFrom cells names []).lookup x = some c := by
  obtain ⟨c', h'⟩ := mem_lookup (cloFrom_has (cells := cells) (acc := []) h)
  rcases cloFrom_mem (PySem.mem_of_lookup h') with hm | ⟨_, h2⟩
  · cases hm
  · rw [hc] at h2
    rw [h', h2]
    rfl
theorem fn_works {P : Program} {w : World} {K : PySem.W.Frag} {mg : Str → Option Value} {base : Heap} {k : Nat} {f : Addr} {name qual : Str} {params : Arguments} {body : List Stmt} {scope : Scope} {dV kV doc pm cdv ct oc : Value} {an od : Option Addr} {osl : Array (Option Value)} {N : List Str} {x y z : Str} {T : Addr} {q : Str} {lams : List LamD}
    (lk : K.lookup f = some ⟨oc, od, .func (PySem.W.fnOf name qual params body scope dV kV doc pm an cdv ct), osl⟩) (hcd : PySem.W.codeIn K cdv qual = true) (S : FnScope N [x, y] scope) (hN : N = [x, y, z])
    (hx : scope.names.lookup x = some .cell) (hy : scope.names.lookup y = some .cell) (hxy : x ≠ y) (hl : ∀ L ∈ lams, LamOk q x y L)
    (der : ∀ (A : Around) (outer : List Env) (s : Shared) (H : Hp) (E : XK) (tabs : List (Addr × Str)), (T, q) ∈ tabs → (∀ p ∈ tabs, p.1 = T → p.2 = q) → Room k (A.deeper (envOfC qual scope s.heap.objs.size f cdv)) →
      ∃ t, PSr (cxOf (L2.CX P w) P w K mg base N qual scope f cdv A outer s H E) body t ∧ ∀ (vb vl : V) (R : L2.St → Hp → V → Prop), Tabs tabs H →
        (∀ p fs H', WI tabs (cxOf (L2.CX P w) P w K mg base N qual scope f cdv A outer s H E).env.cells H H' p lams fs → R [some vb, some vl, some (.ref p)] H' (.ref p)) → t R [some vb, some vl, none] H) :
    FnOk P w K mg base (L2.CX P w) (k + 1) f (PySem.W.fnOf name qual params body scope dV kV doc pm an cdv ct) [x, y] (WSp K T q lams) := by
  subst hN
  refine ⟨fun vs H Q E h => ?_, fun A outer s H args us vs Q E hr e0 hb r hsp => ?_⟩
  · obtain ⟨_, _, _, _, _, _, _, _, rfl, _⟩ := h
    rfl
  obtain ⟨st, fix, tabs, G, b, l, vb, vl, rfl, ok, hfx, hmem, hun, rb, rl, pv⟩ := hsp
  have KX : K.In s.heap := e0.mod.kin.keeps fun b o e => (e0.bs b o e).1
  have lim : s.heap.NoLimit := e0.mod.nolimit.keeps fun b o e => (e0.bs b o e).1
  have hkind : ∀ v ∈ [x, y].zip us, scope.names.lookup v.1 = some .local ∨ (scope.names.lookup v.1 = some .cell ∧ ((cellsFrom (s.heap.objs.size + 1) scope.names []).lookup v.1).isSome = true) := fun ⟨n, v⟩ hy => by
    rcases S.par n (List.of_mem_zip hy).1 with q | q
    · exact .inl q
    · exact .inr ⟨q, PySem.W.cellsFrom_some _ _ _ (.inl q)⟩
  refine codeAny_call_function hr.depth (KX _ _ lk) rfl S.co S.gen rfl (PySem.W.codeRec_of KX hcd) (hb _ _ _ _ ?_)
  refine wpAny_newFunctionEnv_cells S.kind hkind fun env he s1 xc => ?_
  subst he
  refine ⟨lim.keeps xc.toInCall.keep, codeAny_func ?_⟩
  obtain ⟨t, ht, hq⟩ := der A outer s H E tabs hmem hun (hr.deeper _)
  have I : Inv (cxOf (L2.CX P w) P w K mg base [x, y, z] qual scope f cdv A outer s H E) [] (L2.start [x, y, z] [vb, vl]) H s1 := inv_start S hr.hd e0 rfl r xc
  refine wpAny_mono (ht.run [] s1 _ H (fun σ' H' v => ∃ p fs, σ' = [some vb, some vl, some (.ref p)] ∧ v = .ref p ∧ WI tabs (cxOf (L2.CX P w) P w K mg base [x, y, z] qual scope f cdv A outer s H E).env.cells H H' p lams fs) I (hq vb vl _ ok.iv.tb fun p fs H' W => ⟨p, fs, rfl, rfl, W⟩)) (fun fl s' hs => ?_) fun e s' hs => hs
  obtain ⟨u, v, σ', H', rfl, J, rv, p, fs, rfl, rfl, W⟩ := hs
  -- what the two cells hold
  have cell : ∀ (i : Nat) (n : Str) (v : V), [x, y, z][i]? = some n → ([some vb, some vl, some (V.ref p)] : L2.St)[i]? = some (some v) → scope.names.lookup n = some .cell → ∃ (c : Addr) (o : Obj) (u : Value), (cxOf (L2.CX P w) P w K mg base [x, y, z] qual scope f cdv A outer s H E).env.cells.lookup n = some c ∧ s'.heap.get? c = some o ∧ o.data = .cell (some u) ∧ RelV v u ∧ H' c = none ∧ s.heap.objs.size ≤ c := by
    intro i n v h1 h2 h3
    obtain ⟨m, _, hl⟩ := J.loc
    obtain ⟨u, ru, lk⟩ := hl i n v h1 h2 (.inr (.inl h3))
    rcases lk with ⟨k1, _⟩ | ⟨_, c, e, o, ho, hd⟩
    · have k1 : scope.names.lookup n = some .local := k1
      rw [h3] at k1
      cases k1
    · exact ⟨c, o, u, e, ho, hd, ru, J.freeC n c e, J.ok.cab n c rfl e⟩
  obtain ⟨cb, ob, ub, b1, b2, b3, b4, b5, b6⟩ := cell 0 x vb rfl rfl hx
  obtain ⟨cc, oc', uc, c1, c2, c3, c4, c5, c6⟩ := cell 1 y vl rfl rfl hy
  have hne : cb ≠ cc := fun e => hxy (J.ok.inj x y cb b1 (by rw [e]; exact c1))
  have n2 : upd H' cb (frzO ob) cc = none := by rw [upd_ne (Ne.symm hne)]; exact c5
  refine ⟨.ref p, upd (upd H' cb (frzO ob)) cc (frzO oc'), J.os, J.bare, un_track (un_track J.base b5 b6) n2 c6, hok_track (hok_track J.hok b5 b2) n2 c2, rv, ?_⟩
  -- what stands then
  have hb0 : H cb = none := e0.hok.fresh b6
  have hc0 : H cc = none := e0.hok.fresh c6
  have at_ : ∀ {a o}, H' a = some o → upd (upd H' cb (frzO ob)) cc (frzO oc') a = some o := fun {a o} h => by
    rw [upd_ne (ne_of_none h c5), upd_ne (ne_of_none h b5)]
    exact h
  have eX : ExtN H (upd (upd H' cb (frzO ob)) cc (frzO oc')) := fun a o h n => at_ (W.e a o h n)
  have tX : Tabs tabs (upd (upd H' cb (frzO ob)) cc (frzO oc')) := tabs_upd (tabs_upd W.t (fun ps => by rw [b5]; exact fun z => nomatch z) (fun q => by rw [b5]; exact fun z => nomatch z)) (fun ps => by rw [n2]; exact fun z => nomatch z) (fun q => by rw [n2]; exact fun z => nomatch z)
  obtain ⟨ok2, st2⟩ := works_ok (q := q) ok hfx eX tX
  have sub : ∀ a o, G a = some o → H a = some o := fun a o h => (ok.sub a o h).2
  refine pv (.lst (lams.map fun L => .clo L b l)) (.ref p) _ _ st2 ok2 (.lst (gW_new sub W.pn (at_ W.pl) rfl) ?_) rfl
  have go : ∀ (ls : List LamD) (gs : List Addr), (∀ L ∈ ls, LamOk q x y L) → Paired (fun (L : LamD) (f : Addr) => H f = none ∧ ∃ (c' : Addr) (pm ctv : Value), H' f = some (frzO (PySem.W.kla_obj "<lambda>" L.q L.params L.body L.scope (cloFrom (cxOf (L2.CX P w) P w K mg base [x, y, z] qual scope f cdv A outer s H E).env.cells L.scope.names []) pm c' ctv)) ∧ H' c' = some (CodeO c' L.q)) ls gs →
      Rps K (gW G H (upd (upd H' cb (frzO ob)) cc (frzO oc')) q) (ls.map fun L => .clo L b l) (gs.map V.ref) := by
    intro ls gs hls hp
    induction hp with
    | nil => exact .nil
    | @cons L g ls gs h t ih =>
      refine .cons ?_ (ih fun L' h' => hls L' (List.mem_cons_of_mem _ h'))
      obtain ⟨g0, c', pm, ctv, g1, g2⟩ := h
      have lo := hls L List.mem_cons_self
      refine .clo ⟨_, c', cb, cc, pm, ctv, ob, oc', ub, uc, gW_new sub g0 (at_ g1) rfl, ?_, ?_, ?_, fun n c e => ?_, hne, gW_new sub hb0 (by rw [upd_ne hne, upd_same]) rfl, b3, b4, gW_new sub hc0 upd_same rfl, c3, c4⟩ (rb.mono gW_ge) (rl.mono gW_ge)
      · have := gW_code (G := G) (H0 := H) (q := q) (fun a o h => (ok2.sub a o (gW_ge a o h)).2) (by rw [← lo.eq]; exact at_ g2)
        rw [lo.eq]
        exact this
      · rw [lo.ex]
        exact clo_look lo.fx b1
      · rw [lo.ey]
        exact clo_look lo.fy c1
      · rw [lo.ex, lo.ey]
        rcases cloFrom_mem (PySem.mem_of_lookup e) with hm | ⟨h1, _⟩
        · cases hm
        · exact lo.no _ h1 rfl
  exact go lams fs hl W.ok
end L3
/-! W4: such a lambda called -/
namespace L3
open PySem PySem.Spec PyProof.Rows L2 LamX
/-! ### two cells given to the callee, and back -/
def untr (H : Hp) (c d : Addr) : Hp := fun a => if a = c ∨ a = d then none else H a
def retr (H : Hp) (c d : Addr) (oc od : Obj) : Hp := upd (upd H c (frzO oc)) d (frzO od)
section
variable {H H' : Hp} {c d : Addr} {oc od : Obj}
theorem untr_no : untr H c d c = none ∧ untr H c d d = none := by
  unfold untr
  exact ⟨if_pos (.inl rfl), if_pos (.inr rfl)⟩
theorem untr_at {a : Addr} (h1 : a ≠ c) (h2 : a ≠ d) : untr H c d a = H a := by
  unfold untr
  rw [if_neg]
  rintro (z | z)
  · exact h1 z
  · exact h2 z
theorem untr_to {a : Addr} {o : HO} (h : untr H c d a = some o) : a ≠ c ∧ a ≠ d ∧ H a = some o := by
  unfold untr at h
  split at h
  · cases h
  · rename_i z
    exact ⟨fun e => z (.inl e), fun e => z (.inr e), h⟩
theorem untr_none {a : Addr} (h : H a = none) : untr H c d a = none := by
  unfold untr
  split
  · rfl
  · exact h
theorem retr_at {a : Addr} (h1 : a ≠ c) (h2 : a ≠ d) : retr H c d oc od a = H a := by
  unfold retr
  rw [upd_ne h2, upd_ne h1]
theorem retr_c (h : c ≠ d) : retr H c d oc od c = some (frzO oc) := by
  unfold retr
  rw [upd_ne h, upd_same]
theorem retr_d : retr H c d oc od d = some (frzO od) := upd_same
theorem retr_same (nc : H c = none) (nd : H d = none) : Same H (retr H c d oc od) := fun a o h => by
  rw [retr_at (ne_of_none h nc) (ne_of_none h nd)]
  exact h
theorem untr_hok {P : Program} {w : World} {h : Heap} (x : HOk P w H h) (hc : H c = some (frzO oc)) (hd : H d = some (frzO od)) : HOk P w (untr H c d) h := fun a o q => by
  obtain ⟨n1, n2, q⟩ := untr_to q
  refine (x a o q).stay (fun _ _ _ q => q) (fun b q => ?_) fun b xs q => ?_
  · rw [untr_at (fun z => by rw [z, hc] at q; cases q) (fun z => by rw [z, hd] at q; cases q)]
    exact q
  · rw [untr_at (fun z => by rw [z, hc] at q; cases q) (fun z => by rw [z, hd] at q; cases q)]
    exact q
theorem untr_env {P : Program} {w : World} {K : PySem.W.Frag} {mg : Str → Option Value} {base : Heap} {A : Around} {outer : List Env} {s : Shared} (e : Env0 P w K mg base A outer s H) (hc : H c = some (frzO oc)) (hd : H d = some (frzO od)) : Env0 P w K mg base A outer s (untr H c d) :=
  ⟨e.frames, e.mod, fun b o h => ⟨(e.bs b o h).1, untr_none (e.bs b o h).2⟩, e.bsz, e.funs, fun b h => untr_none (e.frf b h), untr_hok e.hok hc hd, e.bare⟩
theorem ce_retr {P : Program} {w : World} {outer : List Env} {s s' : Shared} {Q : VK} {u : Value} (ok : HOk P w H s.heap) (frf : ∀ b ∈ frs outer, H b = none) (hc : H c = some (frzO oc)) (hd : H d = some (frzO od)) (ne : c ≠ d)
    (h : CE outer P w (untr H c d) s (fun v H' => H' c = none → H' d = none → Q v (retr H' c d oc od)) u s') : CE outer P w H s Q u s' := by
  obtain ⟨v, H', os, ag, un, hok, rv, q⟩ := h
  have gc : s.heap.get? c = some oc := (ok c _ hc).1
  have gd : s.heap.get? d = some od := (ok d _ hd).1
  have nfc : c ∉ frs outer := fun z => by have := frf c z; rw [hc] at this; cases this
  have nfd : d ∉ frs outer := fun z => by have := frf d z; rw [hd] at this; cases this
  have nc : H' c = none := un.free c oc gc untr_no.1 (by simp)
  have nd : H' d = none := un.free d od gd untr_no.2 (by simp)
  have gc' := un.keep c oc gc untr_no.1 nfc (by simp)
  have gd' := un.keep d od gd untr_no.2 nfd (by simp)
  refine ⟨v, retr H' c d oc od, os, ag, ⟨fun b o e n => un.keep b o e (untr_none n), fun b o e n => un.slot b o e (untr_none n), fun b o e n hx => ?_, un.there, fun b xs e => ?_, fun b o x e => ?_, fun b ps e => ?_⟩, hok_track (hok_track hok nc gc') (by rw [upd_ne (Ne.symm ne)]; exact nd) gd', rv, q nc nd⟩
  · rw [retr_at (fun z => by rw [z, hc] at n; cases n) (fun z => by rw [z, hd] at n; cases n)]
    exact un.free b o e (untr_none n) hx
  · have h1 : b ≠ c := fun z => by rw [z, hc] at e; cases e
    have h2 : b ≠ d := fun z => by rw [z, hd] at e; cases e
    rw [retr_at h1 h2]
    exact un.tups b xs (by rw [untr_at h1 h2]; exact e)
  · by_cases h1 : b = c
    · rw [h1, hc] at e
      cases e
      rw [h1]
      exact retr_c ne
    · by_cases h2 : b = d
      · rw [h2, hd] at e
        cases e
        rw [h2]
        exact retr_d
      · rw [retr_at h1 h2]
        exact un.frzs b o x (by rw [untr_at h1 h2]; exact e)
  · have h1 : b ≠ c := fun z => by rw [z, hc] at e; cases e
    have h2 : b ≠ d := fun z => by rw [z, hd] at e; cases e
    rw [retr_at h1 h2]
    exact un.tbls b ps (by rw [untr_at h1 h2]; exact e)
theorem cx_retr {P : Program} {w : World} {outer : List Env} {s s' : Shared} {E : XK} {u : Value} (ok : HOk P w H s.heap) (frf : ∀ b ∈ frs outer, H b = none) (hc : H c = some (frzO oc)) (hd : H d = some (frzO od)) (ne : c ≠ d)
    (h : L2.CX P w outer (untr H c d) s (fun cls x H' => H' c = none → H' d = none → E cls x (retr H' c d oc od)) u s') : L2.CX P w outer H s E u s' := by
  obtain ⟨a, B, H', cls, x, rfl, fl, hok, ub, na, os, ag, hE⟩ := h
  have gc : s.heap.get? c = some oc := (ok c _ hc).1
  have gd : s.heap.get? d = some od := (ok d _ hd).1
  have nfc : c ∉ frs outer := fun z => by have := frf c z; rw [hc] at this; cases this
  have nfd : d ∉ frs outer := fun z => by have := frf d z; rw [hd] at this; cases this
  have nc : H' c = none := ub.free c oc gc untr_no.1
  have nd : H' d = none := ub.free d od gd untr_no.2
  have gc' := ub.keep c oc gc untr_no.1 nfc
  have gd' := ub.keep d od gd untr_no.2 nfd
  have nB : B.get? a = none := fl.2.1
  refine ⟨a, B, retr H' c d oc od, cls, x, rfl, fl, hok_track (hok_track hok nc gc') (by rw [upd_ne (Ne.symm ne)]; exact nd) gd', ⟨fun b o e n => ub.keep b o e (untr_none n), ub.slot, fun b o e n => ?_, ub.there, fun b xs e => ?_, fun b o x e => ?_, fun b ps e => ?_⟩, ?_, os, ag, hE nc nd⟩
  · rw [retr_at (fun z => by rw [z, hc] at n; cases n) (fun z => by rw [z, hd] at n; cases n)]
    exact ub.free b o e (untr_none n)
  · have h1 : b ≠ c := fun z => by rw [z, hc] at e; cases e
    have h2 : b ≠ d := fun z => by rw [z, hd] at e; cases e
    rw [retr_at h1 h2]
    exact ub.tups b xs (by rw [untr_at h1 h2]; exact e)
  · by_cases h1 : b = c
    · rw [h1, hc] at e
      cases e
      rw [h1]
      exact retr_c ne
    · by_cases h2 : b = d
      · rw [h2, hd] at e
        cases e
        rw [h2]
        exact retr_d
      · rw [retr_at h1 h2]
        exact ub.frzs b o x (by rw [untr_at h1 h2]; exact e)
  · have h1 : b ≠ c := fun z => by rw [z, hc] at e; cases e
    have h2 : b ≠ d := fun z => by rw [z, hd] at e; cases e
    rw [retr_at h1 h2]
    exact ub.tbls b ps (by rw [untr_at h1 h2]; exact e)
  · rw [retr_at (fun z => by rw [z, gc'] at nB; cases nB) (fun z => by rw [z, gd'] at nB; cases nB)]
    exact na
end
end L3
/-! W5: the call x(y), where y is such a lambda and x a def that calls it -/
namespace L3
open PySem PySem.Spec PyProof.Rows L2 LamX
/-- what a lambda's scope must bear -/
structure LamT (L : LamD) : Prop where
  kind : L.scope.kind = .function
  co : L.scope.isCoroutine = false
  gen : L.scope.isGenerator = false
  own : ∀ y ∈ L.scope.names, y.2 ≠ .local ∧ y.2 ≠ .cell
  fx : (L.x, NameKind.free) ∈ L.scope.names
  fy : (L.y, NameKind.free) ∈ L.scope.names
  no : ∀ z ∈ L.scope.names, z.2 = .free → z.1 = L.x ∨ z.1 = L.y
  bind : ∀ (cl : List (Str × Addr)) (pm cv ctv : Value), bindArgs (PySem.W.kla_fn "<lambda>" L.q L.params L.body L.scope cl pm cv ctv) ⟨[], []⟩ = pure []
abbrev cloEnv (L : LamD) (cl : List (Str × Addr)) (a f c' : Addr) : Env := PySem.W.envX L.q L.scope a f (.ref c') cl
def cloCx (X : Cx) (L : LamD) (cl : List (Str × Addr)) (A : Around) (outer : List Env) (s : Shared) (H : Hp) (E : XK) (f c' : Addr) : Cx where
  prog := X.prog
  w := X.w
  K := X.K
  mg := X.mg
  base := X.base
  A := A.deeper (cloEnv L cl s.heap.objs.size f c')
  N := [L.x, L.y]
  s_0 := s
  H_0 := H
  env := cloEnv L cl s.heap.objs.size f c'
  outer := outer
  stack := cloEnv L cl s.heap.objs.size f c' :: outer
  ex := []
  fn := fun _ => false
  calm := true
  pn := []
  xe := fun e s' => wpAny (model X.prog X.w) (A.deeper (cloEnv L cl s.heap.objs.size f c')) (leaving (cloEnv L cl s.heap.objs.size f c') e) (fun _ s'' => L2.CX X.prog X.w outer H s E e s'') (fun e' s'' => L2.CX X.prog X.w outer H s E e' s'') s'
section
variable {X : Cx}
theorem clo_start {L : LamD} {A : Around} {outer : List Env} {E : XK} {f c' cb cc : Addr} {cl : List (Str × Addr)} {h₁ : Heap} {tk : Nat} {s1 : Shared} {HZ : Hp} {vb vl : V} {ub uc : Value} (T : LamT L) (e0 : Env0 X.prog X.w X.K X.mg X.base A outer s1 HZ) (hd : A.handled = none)
    (lb : cl.lookup L.x = some cb) (lc : cl.lookup L.y = some cc) (lo : ∀ z c, cl.lookup z = some c → z = L.x ∨ z = L.y) (ne : cb ≠ cc) (ib : s1.heap.IsCell cb (some ub)) (ic : s1.heap.IsCell cc (some uc)) (rb : RelV vb ub) (rc : RelV vl uc) (nb : HZ cb = none) (nc : HZ cc = none)
    (hns : h₁.Ns s1.heap.objs.size fun y => ([] : List (Str × Value)).reverse.lookup y) (kp : ∀ b o, s1.heap.get? b = some o → h₁.get? b = some o) :
    Inv (cloCx X L cl A outer s1 HZ E f c') [] [some vb, some vl] HZ { s1 with heap := h₁, toks := tk } := by
  have noA : ∀ b : Addr, b ∉ (cloCx X L cl A outer s1 HZ E f c').ex := fun b z => absurd (show b ∈ ([] : List Addr) from z) (by simp)
  have ib' : h₁.IsCell cb (some ub) := ib.keeps kp
  have ic' : h₁.IsCell cc (some uc) := ic.keeps kp
  have two : ∀ {z c}, cl.lookup z = some c → (z = L.x ∧ c = cb) ∨ (z = L.y ∧ c = cc) := fun {z c} h => by
    rcases lo z c h with rfl | rfl
    · rw [lb] at h; cases h; exact .inl ⟨rfl, rfl⟩
    · rw [lc] at h; cases h; exact .inr ⟨rfl, rfl⟩
  have free : ∀ {y : Str} {k : NameKind}, L.scope.names.lookup y = some k → (k = .local ∨ k = .cell ∨ k = .free) → k = .free := fun {y k} h hk => by
    have := T.own _ (PySem.mem_of_lookup h)
    rcases hk with rfl | rfl | rfl
    · exact absurd rfl this.1
    · exact absurd rfl this.2
    · rfl
  refine ⟨⟨e0.mod, T.kind, rfl, rfl, Nat.le_refl _, fun y z c e1 e2 => ?_, fun y hy => ?_, fun y c z _ => ?_, fun _ => hd, Around.frames_deeper e0.frames, .inr ⟨rfl, rfl⟩, fun b z => absurd z (noA b), e0.bs, e0.bsz, fun b _ _ => noA b,
      fun b z => absurd z (noA b), e0.funs, e0.frf⟩,
    rfl, e0.bare, Un.kept kp, ⟨_, hns, fun i y v e1 e2 e3 => ?_⟩, fun y c e => ?_, e0.hok.fresh (Nat.le_refl _), fun y c e => ?_, fun q hq => absurd (show q ∈ ([] : List (Addr × Obj)) ++ [] from hq) (by simp), e0.hok.kept kp, rfl⟩
  · rcases two e1 with ⟨a1, a2⟩ | ⟨a1, a2⟩ <;> rcases two e2 with ⟨b1, b2⟩ | ⟨b1, b2⟩
    · rw [a1, b1]
    · exact absurd (a2.symm.trans b2) ne
    · exact absurd (b2.symm.trans a2) ne
    · rw [a1, b1]
  · have hy : L.scope.names.lookup y = some .cell ∨ L.scope.names.lookup y = some .free := hy
    have hf : L.scope.names.lookup y = some .free := by
      rcases hy with hy | hy
      · exact absurd (free hy (.inr (.inl rfl))) (by decide)
      · exact hy
    rcases T.no _ (PySem.mem_of_lookup hf) rfl with e | e
    · have e : y = L.x := e
      exact ⟨cb, by show cl.lookup y = some cb; rw [e]; exact lb⟩
    · have e : y = L.y := e
      exact ⟨cc, by show cl.lookup y = some cc; rw [e]; exact lc⟩
  · have z : false = true := z
    cases z
  · have e3 : Vis L.scope y := e3
    have hf : L.scope.names.lookup y = some .free := by
      rcases e3 with k | k | k
      · exact absurd (free k (.inl rfl)) (by decide)
      · exact absurd (free k (.inr (.inl rfl))) (by decide)
      · exact k
    match i, e1, e2 with
    | 0, e1, e2 =>
      cases e1
      cases e2
      exact ⟨ub, rb, .inr ⟨.inr hf, cb, lb, ib'⟩⟩
    | 1, e1, e2 =>
      cases e1
      cases e2
      exact ⟨uc, rc, .inr ⟨.inr hf, cc, lc, ic'⟩⟩
    | i + 2, e1, e2 => exact absurd e1 (by show ([] : List Str)[i]? ≠ some y; simp)
  · rcases two e with ⟨_, rfl⟩ | ⟨_, rfl⟩
    · exact ⟨_, ib'⟩
    · exact ⟨_, ic'⟩
  · rcases two e with ⟨_, rfl⟩ | ⟨_, rfl⟩
    · exact nb
    · exact nc
/-- the reading of such a call -/
def tClo (L : LamD) (t : XK → TE) (f : Addr) (vb vl : V) : XK → Hp → VK → Prop := fun E H Q => ∃ (cl : List (Str × Addr)) (c' cb cc : Addr) (pm ctv : Value) (ob oc : Obj) (ub uc : Value),
  H f = some (frzO (PySem.W.kla_obj "<lambda>" L.q L.params L.body L.scope cl pm c' ctv)) ∧ H c' = some (CodeO c' L.q) ∧ cl.lookup L.x = some cb ∧ cl.lookup L.y = some cc ∧ (∀ z c, cl.lookup z = some c → z = L.x ∨ z = L.y) ∧ cb ≠ cc ∧
  H cb = some (frzO ob) ∧ ob.data = .cell (some ub) ∧ RelV vb ub ∧ H cc = some (frzO oc) ∧ oc.data = .cell (some uc) ∧ RelV vl uc ∧
  t (fun cls d H' => H' cb = none → H' cc = none → E cls d (retr H' cb cc ob oc)) [some vb, some vl] (untr H cb cc) (fun v H' => H' cb = none → H' cc = none → Q v (retr H' cb cc ob oc))
theorem pe_actC {CXg : CXT} {Eg : XK} {Ng : List Str} {qg : Str} {sg : Scope} {g f c0 : Addr} {cdg : Value} {q0 : Str} {k i : Nat} {a : Str} {pn : List (Addr × Obj)} {xe : Value → Shared → Prop} {W : WX} {E : XK} {p1 p2 : Pos} {s : Shared} {H : Hp} {L : LamD} {t : XK → TE} {vb vl : V}
    (T : LamT L) (tk : Takes ((cxOf CXg X.prog X.w X.K X.mg X.base Ng qg sg g cdg X.A X.stack s H Eg).tr pn xe) W) (hW : ∀ cls d σ' H', E cls d H' → W cls d σ' H') (hr : Room (k + 1) (X.A.deeper (envOfC qg sg s.heap.objs.size g cdg)))
    (hbody : ∀ (A : Around) (outer : List Env) (s : Shared) (H : Hp) (E : XK) (f c' : Addr) (cl : List (Str × Addr)), Room k (A.deeper (cloEnv L cl s.heap.objs.size f c')) → PE (cloCx X L cl A outer s H E f c') L.body (t E))
    (hN : Ng[i]? = some a) (hv : Vis sg a) (hd : (a == ("__debug__" : Str)) = false := by decide) (hcd : (a == ("__classdict__" : Str)) = false := by decide) :
    PE ((cxOf CXg X.prog X.w X.K X.mg X.base Ng qg sg g cdg X.A X.stack s H Eg).tr pn xe) (.Call (.Name a p1) [] [] p2)
      (fun σZ HZ Q => σZ[i]? = some (some (.ref f)) ∧ HZ c0 = some (CodeO c0 q0) ∧ tClo L t f vb vl E HZ Q) := by
  refine ⟨fun pinsZ sZ σZ HZ Q IZ h => ?_⟩
  obtain ⟨hs, _, ht⟩ := h
  refine wpAny_Call_Name_kw (thn ((pe_var (pos := p1) (i := i) hN hv hd hcd).run pinsZ sZ σZ HZ (fun v H1 => v = .ref f ∧ H1 = HZ) IZ ⟨.ref f, hs, rfl, rfl⟩) fun u s1 ⟨v, H1, I1, r1, q1⟩ => ?_)
  obtain ⟨ev, eH⟩ := q1
  subst ev
  rw [eH] at I1
  obtain rfl : u = Value.ref f := r1
  obtain ⟨cl, c', cb, cc, pm, ctv, ob, oc, ub, uc, hf, hc, lb, lc, lo, ne, hcb, ob1, rb, hcc, oc1, rl, ht⟩ := ht
  have of1 : s1.heap.get? f = some (PySem.W.kla_obj "<lambda>" L.q L.params L.body L.scope cl pm c' ctv) := (I1.hok f _ hf).1
  refine PySem.W.callWith_F0 ⟨_, _, _, _, of1⟩ ?_
  obtain ⟨⟨oc0, vs, tq, hoc, hdc, hvc⟩, _, _⟩ := I1.hok c' _ hc
  have ib : s1.heap.IsCell cb (some ub) := ⟨ob, (I1.hok cb _ hcb).1, ob1⟩
  have ic : s1.heap.IsCell cc (some uc) := ⟨oc, (I1.hok cc _ hcc).1, oc1⟩
  have e0 := untr_env I1.env0 hcb hcc
  have rc : codeAny (model X.prog X.w) (X.A.deeper (envOfC qg sg s.heap.objs.size g cdg)) (.call (.ref f) ⟨[], []⟩) (CR (L2.CX X.prog X.w) (envOfC qg sg s.heap.objs.size g cdg :: X.stack) X.prog X.w (untr HZ cb cc) s1 (fun v H' => H' cb = none → H' cc = none → Q v (retr H' cb cc ob oc)) (fun cls d H' => H' cb = none → H' cc = none → E cls d (retr H' cb cc ob oc))) s1 := by
    refine PySem.W.kla_callFunE hr.depth of1 rfl T.co T.gen rfl ⟨c', oc0, vs, tq, rfl, hoc, hdc, hvc⟩ ?_
    rw [T.bind]
    refine wpAny_pure (wpAny_newFunctionEnv (fun y hy => (T.own y hy).2) (fun y hy => absurd hy (by simp)) (fun h₁ hns hsb => ⟨I1.nolimit.fresh _ hsb, ?_⟩) T.kind)
    show codeAny _ _ (.expr L.body (cloEnv L cl s1.heap.objs.size f c')) _ _
    have kp : ∀ b o, s1.heap.get? b = some o → h₁.get? b = some o := fun b o e => hsb.extBut b o (Nat.ne_of_lt (Heap.lt_size e)) (Heap.get?_push_of_some _ e)
    have J : Inv (cloCx X L cl (X.A.deeper (envOfC qg sg s.heap.objs.size g cdg)) (envOfC qg sg s.heap.objs.size g cdg :: X.stack) s1 (untr HZ cb cc) (fun cls d H' => H' cb = none → H' cc = none → E cls d (retr H' cb cc ob oc)) f c') [] [some vb, some vl] (untr HZ cb cc) { s1 with heap := h₁, toks := s1.toks + ([] : List (Str × Value)).length } :=
      clo_start T e0 hr.hd lb lc lo ne ib ic rb rl untr_no.1 untr_no.2 hns kp
    refine PySem.W.kla_codeExpr (wpAny_mono ((hbody _ _ s1 (untr HZ cb cc) _ f c' cl (hr.deeper _)).run [] _ _ _ _ J ht) (fun v s' hq => ?_) fun e s' hq => hq)
    obtain ⟨w', H', J', rv, q⟩ := hq
    exact ⟨w', H', J'.os, J'.bare, J'.base, J'.hok, rv, q⟩
  have hx : Passes (L2.CX X.prog X.w) ((cxOf CXg X.prog X.w X.K X.mg X.base Ng qg sg g cdg X.A X.stack s H Eg).tr pn xe) E := passes_call tk hW
  refine wpAny_call (codeAny_mono rc fun r s' hq => ?_)
  have frf : ∀ b ∈ frs (envOfC qg sg s.heap.objs.size g cdg :: X.stack), HZ b = none := I1.env0.frf
  cases r with
  | error e => exact hx pinsZ σZ HZ s1 e s' I1 (cx_retr I1.hok frf hcb hcc ne hq)
  | ok fl =>
    cases fl with
    | ret u => exact I1.after (ce_retr I1.hok frf hcb hcc ne hq)
    | next => exact False.elim hq
    | brk => exact False.elim hq
    | cont => exact False.elim hq
end
end L3
/-! W6: a def that hands back lambdas, called; such a lambda handed to _law_kind -/
namespace L3
open PySem PySem.Spec PyProof.Rows L2 LamX
structure DfW (P : Program) (w : World) (K : PySem.W.Frag) (mg : Str → Option Value) (base : Heap) (x : Str) (k : Nat) (T : Addr) (q : Str) (lams : List LamD) : Prop where
  ex : ∃ (f : Addr) (fd : FuncData) (ps : List Str), FnOk P w K mg base (L2.CX P w) k f fd ps (WSp K T q lams) ∧ mg x = some (.ref f) ∧ PySem.W.keepIn K (.ref f) = true ∧ L2.Binds K fd ps []
def mWorks (lams : List LamD) (r : MAt) : MEt := fun env Kd KX => r env (fun ds => ∃ b l, ds = [b, l] ∧ Kd (.lst (lams.map fun L => .clo L b l))) KX
section
variable {X : Cx} {E : XK} {e : Expr} {es : List Expr} {r : MAt} {pos p : Pos} {s0 : Option (Addr × Addr × List Int)} {fix : List (Addr × HO)} {tabs : List (Addr × Str)}
theorem me_works {x : Str} {k : Nat} {T : Addr} {q : Str} {lams : List LamD} (F : DfW X.prog X.w X.K X.mg X.base x k T q lams) (hfx : fixOk fix) (hm : (T, q) ∈ tabs) (hu : ∀ p ∈ tabs, p.1 = T → p.2 = q) (hr : Room k X.A) (hg : Gl X x) (hx : Passes (L2.CX X.prog X.w) X E) (ha : MA X ⟨X.K, s0, fix, tabs⟩ E (e :: es) r)
    (hdb : (x == ("__debug__" : Str)) = false := by decide) (he : starEach (e :: es) X.env = (false, eval e X.env) :: starEach es X.env := by rfl) (hpl : (backTo pos (starEach es X.env)).any (·.1) = false := by rfl) :
    ME X ⟨X.K, s0, fix, tabs⟩ E (.Call (.Name x p) (e :: es) [] pos) (mWorks lams r) := by
  obtain ⟨f, fd, ps, F, hm', hk, hb⟩ := F.ex
  refine PE.imp (pe_call F hr hg hm' hk hb .nil hx ha hdb he hpl) fun σ H Q ⟨env, G, Kd, KX, ok, vr, hm1, pv, px⟩ => ?_
  refine ⟨env, G, _, KX, ok, vr, hm1, fun ds vs H1 G1 s1 ok1 r1 n1 k1 => ?_, px⟩
  obtain ⟨b, l, rfl, k1⟩ := k1
  cases r1 with
  | cons rb r2 =>
    cases r2 with
    | cons rl r3 =>
      cases r3
      exact ⟨s0, fix, tabs, G1, b, l, _, _, rfl, ok1, hfx, hm, hu, rb, rl, fun d v H2 G2 s2 ok2 rr e => pv d v H2 G2 (s1.trans ok2 s2) ok2 rr (by rw [e]; exact k1)⟩
end
/-! ### _law_kind(x) -/
theorem pls_mem : ∀ {ds : List D}, D.pls ds = true → ∀ d ∈ ds, d.pl = true
  | [], _, d, h => by cases h
  | x :: r, h, d, hd => by
    have h : (x.pl && D.pls r) = true := h
    rw [Bool.and_eq_true] at h
    rcases List.mem_cons.mp hd with e | hd
    · rw [e]; exact h.1
    · exact pls_mem h.2 d hd
section
variable {K : PySem.W.Frag} {G : Hp} {c d : Addr} {oc od : Obj}
mutual
theorem Rp.less (hc : G c = some (frzO oc)) (hd : G d = some (frzO od)) : ∀ {x : D} {v : V}, Rp K G x v → x.pl = true → Rp K (untr G c d) x v
  | _, _, .non, _ => .non
  | _, _, .bl b, _ => .bl b
  | _, _, .int i, _ => .int i
  | _, _, .str z, _ => .str z
  | _, _, .tup (ds := ds) h r, p => by
    refine .tup ?_ (Rps.less hc hd r (show D.pls ds = true from p))
    rcases h with ⟨o, h, q⟩ | h
    · refine .inl ⟨o, ?_, q⟩
      rw [untr_at (fun z => by rw [z, hc] at h; cases h) (fun z => by rw [z, hd] at h; cases h)]
      exact h
    · exact .inr h
  | _, _, .lst (ds := ds) h r, p => .lst (by rw [untr_at (fun z => by rw [z, hc] at h; cases h) (fun z => by rw [z, hd] at h; cases h)]; exact h) (Rps.less hc hd r (show D.pls ds = true from p))
  | _, _, .ref a, p => absurd (show false = true from p) Bool.false_ne_true
  | _, _, .clo _ _ _, p => absurd (show false = true from p) Bool.false_ne_true
  | _, _, .dic _ _, p => absurd (show false = true from p) Bool.false_ne_true
theorem Rps.less (hc : G c = some (frzO oc)) (hd : G d = some (frzO od)) : ∀ {xs : List D} {vs : List V}, Rps K G xs vs → D.pls xs = true → Rps K (untr G c d) xs vs
  | _, _, .nil, _ => .nil
  | x :: xs, _, .cons h r, p =>
    have p : (x.pl && D.pls xs) = true := p
    .cons (Rp.less hc hd h (Bool.and_eq_true_iff.mp p).1) (Rps.less hc hd r (Bool.and_eq_true_iff.mp p).2)
end
end
theorem ok_untr {C : C3} {H G : Hp} {c d : Addr} {oc od : Obj} (ok : Ok3 C H G) (hc : G c = some (frzO oc)) (hd : G d = some (frzO od)) : Ok3 C (untr H c d) (untr G c d) := by
  have sc := (ok.sub c _ hc).1
  have sd := (ok.sub d _ hd).1
  have Hc := (ok.sub c _ hc).2
  have Hd := (ok.sub d _ hd).2
  refine ⟨ok.iv.on (fun a h => untr_at (fun z => by rw [z, sc] at h; cases h) (fun z => by rw [z, sd] at h; cases h)) (fun a q h => ?_), fun a o h => ?_, fun a o h => ok.nt a o (untr_to h).2.2⟩
  · rw [untr_at (fun z => by rw [z, Hc] at h; unfold CodeO at h; cases h) (fun z => by rw [z, Hd] at h; unfold CodeO at h; cases h)]
    exact h
  · obtain ⟨h1, h2, h3⟩ := untr_to h
    rw [untr_at h1 h2]
    exact ok.sub a o h3
theorem ok_retr {C : C3} {H H' G : Hp} {c d : Addr} {oc od : Obj} (ok : Ok3 C H G) (hc : G c = some (frzO oc)) (hd : G d = some (frzO od)) (ne : c ≠ d) (s : Stp C (untr H c d) (untr G c d) H' (untr G c d)) (ok' : Ok3 C H' (untr G c d)) (nc : H' c = none) (nd : H' d = none) : Ok3 C (retr H' c d oc od) G ∧ Stp C H G (retr H' c d oc od) G := by
  have Hc := (ok.sub c _ hc).2
  have Hd := (ok.sub d _ hd).2
  refine ⟨⟨ok'.iv.same (retr_same nc nd), fun a o h => ⟨(ok.sub a o h).1, ?_⟩, ok.nt⟩, fun a o sp h => ?_, Same.refl _, fun a o h h' => by rw [h] at h'; cases h'⟩
  · by_cases h1 : a = c
    · rw [h1, hc] at h
      cases h
      rw [h1]
      exact retr_c ne
    · by_cases h2 : a = d
      · rw [h2, hd] at h
        cases h
        rw [h2]
        exact retr_d
      · rw [retr_at h1 h2]
        exact (ok'.sub a o (by rw [untr_at h1 h2]; exact h)).2
  · obtain ⟨h, n⟩ := nT_to h
    refine nT_of ?_ n
    by_cases h1 : a = c
    · rw [h1, Hc] at h
      cases h
      rw [h1]
      exact retr_c ne
    · by_cases h2 : a = d
      · rw [h2, Hd] at h
        cases h
        rw [h2]
        exact retr_d
      · rw [retr_at h1 h2]
        exact s.nh a o sp (by rw [untr_at h1 h2]; exact h) n
/-- each of the lambdas, what its body makes of the two -/
def mClo (lams : List (LamD × MEt)) (ws : List Str) (j : Nat) : MEt := fun env Kd KX => ∃ p ∈ lams, ∃ b l, env[j]? = some (some (.clo p.1 b l)) ∧ b.pl = true ∧ l.pl = true ∧ p.2 [some b, some l] (fun _ => False) fun x => x.num = none ∧ x.cls ∈ ws ∧ Kd (.str x.cls)
theorem me_clo {X : Cx} {C : C3} {E : XK} {ws wn : List Str} {x a y : Str} {g : Addr} {k j : Nat} {pg : Arguments} {bg : List Stmt} {sg : Scope} {dV kV doc pm cdv ct oc : Value} {an od : Option Addr} {osl : Array (Option Value)} {Ng : List Str} {lams : List (LamD × MEt)} {q : Str}
    {p py pos : Pos} (hK : X.K = C.K) (kt : ∀ w ∈ ws, ∃ D, X.mg w = some (.ref D) ∧ Kinds X.K X.mg D w) (hg : Gl X x) (hm : X.mg x = some (.ref g)) (hk : PySem.W.keepIn X.K (.ref g) = true)
    (lk : X.K.lookup g = some ⟨oc, od, .func (PySem.W.fnOf x x pg bg sg dV kV doc pm an cdv ct), osl⟩) (hcg : PySem.W.codeIn X.K cdv x = true) (hb : L2.Binds X.K (PySem.W.fnOf x x pg bg sg dV kV doc pm an cdv ct) [a] []) (Sg : FnScope Ng [a] sg) (hNg : Ng[0]? = some a) (hva : Vis sg a)
    (hG : GivesTo X Ng x sg g cdv bg a q (TTn C X.mg ws wn)) (hT : ∀ p ∈ lams, LamT p.1 ∧ p.1.q = q) (hr : Room (k + 2) X.A)
    (hbody : ∀ p ∈ lams, ∀ (A : Around) (outer : List Env) (s : Shared) (H : Hp) (E : XK) (f c' : Addr) (cl : List (Str × Addr)), Room k (A.deeper (cloEnv p.1 cl s.heap.objs.size f c')) → ME (cloCx X p.1 cl A outer s H E f c') C E p.1.body p.2)
    (hj : X.N[j]? = some y) (hy : Vis X.env.scope y)
    (hdb : (x == ("__debug__" : Str)) = false := by decide) (hd : (a == ("__debug__" : Str)) = false := by decide) (hcd : (a == ("__classdict__" : Str)) = false := by decide) (hdy : (y == ("__debug__" : Str)) = false := by decide) (hcy : (y == ("__classdict__" : Str)) = false := by decide) :
    ME X C E (.Call (.Name x p) [.Name y py] [] pos) (mClo lams ws j) := by
  refine ⟨fun pins s σ H Q I h => ?_⟩
  obtain ⟨env, G, Kd, KX, ok, vr, ⟨pr, hpr, b, l, he, pb, pl, hm2⟩, pv, px⟩ := h
  obtain ⟨v, hv, rv⟩ := vr.get j _ he
  cases rv with
  | @clo L f b l vb vl cg rb rl =>
    refine wpAny_Call_Name_kw (ld_glob I hg hm ?_ hdb)
    refine PySem.W.callWith_K (h₀ := X.base) I.ok.mod.kin hk ?_ (by rfl) (by rfl)
    show wpAny _ _ (spliced ((false, eval (.Name y py) X.env) :: backTo pos (starEach [] X.env))) _ _ s
    refine Calls.spliced_cons (thn ((pe_var (pos := py) (i := j) hj hy hdy hcy).run pins s σ H (fun v H1 => v = .ref f ∧ H1 = H) I ⟨.ref f, hv, rfl, rfl⟩) fun u s' ⟨v, H1, I1, r1, q1⟩ => ?_)
    obtain ⟨ev, eH⟩ := q1
    subst ev
    rw [eH] at I1
    obtain rfl : u = Value.ref f := r1
    refine Calls.spliced_nil ⟨I1.kIn, ?_⟩
    obtain ⟨T, hq⟩ := hT pr hpr
    have sm : ∀ a o, G a = some o → H a = some o := fun a o h => (ok.sub a o h).2
    obtain ⟨cl, c', cb, cc, pm', ctv, ob, oc', ub, uc, hf, hc, lb, lc, lo, ne, hcb, ob1, rub, hcc, oc1, ruc⟩ := cg
    have tt : TTn C X.mg ws wn (tClo pr.1 (fun E => lift C X.mg E pr.2) f vb vl) H Q := by
      refine ⟨cl, c', cb, cc, pm', ctv, ob, oc', ub, uc, sm _ _ hf, sm _ _ hc, lb, lc, lo, ne, sm _ _ hcb, ob1, rub, sm _ _ hcc, oc1, ruc, ?_⟩
      refine ⟨[some b, some l], untr G cb cc, _, _, ok_untr ok hcb hcc, ⟨Nat.le_refl _, fun i d h => ?_⟩, hm2, fun d v H' G' _ _ _ z => z.elim, fun x cls d H' kx st ok' r nb nc => ?_⟩
      · match i, h with
        | 0, h => cases h; exact ⟨vb, rfl, rb.less hcb hcc pb⟩
        | 1, h => cases h; exact ⟨vl, rfl, rl.less hcb hcc pl⟩
        | i + 2, h => exact absurd h (by simp)
      · obtain ⟨kn, kw, kd⟩ := kx
        obtain ⟨D0, r1, r2, r3⟩ := r
        rw [kn] at r3
        have r3 : d = none := r3
        obtain ⟨D1, g1, g2⟩ := kt _ kw
        rw [r1] at g1
        cases g1
        obtain ⟨ok2, st2⟩ := ok_retr ok hcb hcc ne st ok' nb nc
        exact .inl ⟨x.cls, G, D0, ok2, kw, r2, r3, by rw [← hK]; exact g2, fun y v H3 G3 s3 ok3 rr e => pv y v H3 G3 (st2.trans ok3 s3) ok3 rr (by rw [e]; exact kd)⟩
    have rc : codeAny (model X.prog X.w) X.A (.call (.ref g) ⟨[.ref f], []⟩) (CR C8.CX0 X.stack X.prog X.w H s' Q C8.E0) s' := by
      refine run_ofS (N := Ng) (ps := [a]) (us := [.ref f]) (vs := [.ref f]) lk hcg Sg hr I1.env0 (hb s' [.ref f] I1.kIn rfl) (.cons rfl .nil) rfl fun hr' => ?_
      obtain ⟨t', ht', hq'⟩ := hG f c' s' H Q (tClo pr.1 (fun E => lift C X.mg E pr.2) f vb vl) (fun W pn xe E p1 p2 tk hW => pe_actC (i := 0) T tk hW hr' (fun A outer s H E f c' cl hr2 => hbody pr hpr A outer s H E f c' cl hr2) hNg hva hd hcd) (by rw [← hq]; exact sm _ _ hc) tt
      exact ⟨t', ht'.nox, hq'⟩
    refine wpAny_call (codeAny_mono rc fun r s2 hq => ?_)
    cases r with
    | error e => exact (show False from hq).elim
    | ok fl =>
      cases fl with
      | ret u => exact I1.after hq
      | next => exact False.elim hq
      | brk => exact False.elim hq
      | cont => exact False.elim hq
end L3
/-! W7: a lambda with one parameter that has a default, handed to a def that calls it -/
namespace L3
open PySem PySem.Spec PyProof.Rows L2 LamX
abbrev dfn (q : Str) (params : Arguments) (body : Expr) (scope : Scope) (cl : List (Str × Addr)) (t : Addr) (doc pm : Value) (c' : Addr) (ctv : Value) : FuncData := PySem.W.kdv_fn "<lambda>" q params (.expr body) scope cl (.ref t) doc pm (.ref c') ctv
abbrev dobj (q : Str) (params : Arguments) (body : Expr) (scope : Scope) (cl : List (Str × Addr)) (t : Addr) (doc pm : Value) (c' : Addr) (ctv : Value) : Obj := PySem.W.kdv_obj "<lambda>" q params (.expr body) scope cl (.ref t) doc pm c' ctv
section
variable {X : Cx} {pins : List (Addr × Obj)} {σ : L2.St} {H : Hp} {s : Shared}
theorem lam_makeD {T : List (Addr × Str)} {c P : Addr} {params : Arguments} {ed : Expr} {v0 : V} {body : Expr} {scope : Scope} {pos : Pos} {Q : Value → Shared → Prop} (I : Inv X pins σ H s) (TB : TabB X.base X.mg c P) (hcode : X.env.code = .ref c)
    (hm : (P, X.env.qual ++ "<lambda>") ∈ T) (hu : ∀ p ∈ T, p.1 = P → p.2 = X.env.qual ++ "<lambda>") (hT : Tabs T H) (hdef : params.defaults = [ed]) (hk0 : params.kw_defaults = []) (he : PE X ed (tC v0)) (hfree : ∀ y ∈ scope.names, y.2 = .free → ∃ c, X.env.cells.lookup y.1 = some c)
    (h : ∀ (f t c' : Addr) (u doc pm ctv : Value) (H1 : Hp) (s' : Shared), RelV v0 u → ExtN H H1 → Tabs T H1 → H1 t = some (frzO (PySem.W.kdv_tup [u])) → H1 f = none → H1 c' = some (CodeO c' (X.env.qual ++ "<lambda>")) →
      Inv X pins σ (upd H1 f (frzO (dobj (X.env.qual ++ "<lambda>") params body scope (cloFrom X.env.cells scope.names []) t doc pm c' ctv))) s' → Q (.ref f) s') :
    wpAny (model X.prog X.w) X.A (eval (.Lambda params body scope pos) X.env) Q X.xe s := by
  refine PySem.W.kdv_lam (by rw [hdef]; rfl) hk0 ?_
  rw [hdef]
  refine PySem.W.kdv_all1 (thn (he.run pins s σ H (fun v H1 => v = v0 ∧ H1 = H) I ⟨rfl, rfl⟩) fun u s1 ⟨v, H1, I1, r1, q1⟩ => PySem.W.kdv_all0 ?_)
  obtain ⟨ev, eH⟩ := q1
  rw [ev] at r1
  rw [eH] at I1
  rw [makeFunction_eq]
  simp only [List.zip_nil_right, List.filterMap_nil, List.isEmpty_nil, List.isEmpty_cons, if_true, pure_bind, Bool.false_eq_true, if_false]
  refine wpAny_bind (wpAny_newTextTuple ?_)
  have nt : H s1.heap.objs.size = none := I1.hok.fresh (Nat.le_refl _)
  have I2 := I1.laid (a := s1.heap.objs.size) (o := frzO (PySem.W.kdv_tup [u])) (h' := s1.heap.push (PySem.W.kdv_tup [u])) (t' := s1.toks) (fun b o e => Heap.get?_push_of_some _ e) (Nat.le_refl _) ⟨Heap.get?_push_size _ rfl, ⟨_, Heap.get?_push_size _ rfl⟩⟩
  have hT2 : Tabs T (upd H s1.heap.objs.size (frzO (PySem.W.kdv_tup [u]))) := tabs_upd hT (fun ps => by rw [nt]; exact fun z => nomatch z) (fun q => by rw [nt]; exact fun z => nomatch z)
  have e2 : ExtN H (upd H s1.heap.objs.size (frzO (PySem.W.kdv_tup [u]))) := fun b o e _ => by rw [upd_ne (ne_of_none e nt)]; exact e
  generalize hH2 : upd H s1.heap.objs.size (frzO (PySem.W.kdv_tup [u])) = H2 at I2 hT2 e2
  have ht2 : H2 s1.heap.objs.size = some (frzO (PySem.W.kdv_tup [u])) := by rw [← hH2]; exact upd_same
  generalize hs2 : ({ s1 with heap := s1.heap.push (PySem.W.kdv_tup [u]), toks := s1.toks } : Shared) = s2 at I2
  obtain ⟨ps, hP, ht, ha⟩ := hT2 _ hm
  have bP : s2.heap.BuiltinsAt X.mg P := TB.bm.keeps I2.bk
  have hP' : s2.heap.get? P = some { cls := .none, data := .fields ps } := I2.hok P _ hP
  have goal : wpAny (model X.prog X.w) X.A (makeTail "<lambda>" (X.env.qual ++ "<lambda>") params (.expr body) scope X.env (.ref s1.heap.objs.size) .none none pos pos.line) Q X.xe s2 := by
    cases hc : codeAmong pos ps.toList with
    | none =>
      refine PySem.W.kdv_makeTail (mg := X.mg) (c := c) (P := P) (ps := ps) (closure_ok hfree) I2.ok.glob (I2.mod.glob.keeps I2.bk) hcode (TB.code.keeps I2.bk) hP' ht hc TB.gP bP fun c' ctv doc h' tk hx hge hlt hrec htb => ?_
      obtain ⟨c2, oc, vs, tq, ec, hoc, hd, hv⟩ := hrec
      cases ec
      have hsz : s2.heap.objs.size ≤ h'.objs.size := Nat.le_trans hge (Nat.le_of_lt hlt)
      have nC : H2 c' = none := I2.hok.fresh hge
      have I3 := inv_table (t' := tk) (more := #[rawInt pos.line, rawInt pos.col, .ref c']) (h' := h') I2 hP hx htb hge ⟨oc, vs, tq, hoc, hd, hv⟩
      have hE : ExtN H2 (upd (upd H2 P (.tbl (ps ++ #[rawInt pos.line, rawInt pos.col, .ref c']))) c' (CodeO c' (X.env.qual ++ "<lambda>"))) := fun b o e n => by
        rw [upd_ne (ne_of_none e nC), upd_ne (fun z => n ps (Option.some.inj (e.symm.trans (by rw [z]; exact hP))))]
        exact e
      have eL : (ps ++ #[rawInt pos.line, rawInt pos.col, .ref c']).toList = ps.toList ++ [rawInt pos.line, rawInt pos.col, .ref c'] := by simp
      refine h h'.objs.size s1.heap.objs.size c' u doc ((X.mg "__name__").getD .none) ctv _ _ r1 (e2.trans hE) (fun p hp => ?_) (hE _ _ ht2 (fun ps z => nomatch z)) (I3.hok.fresh (Nat.le_refl _)) upd_same (I3.laid (a := h'.objs.size) (h' := h'.push (dobj (X.env.qual ++ "<lambda>") params body scope (cloFrom X.env.cells scope.names []) s1.heap.objs.size doc ((X.mg "__name__").getD .none) c' ctv)) (t' := tk) (fun b o e => Heap.get?_push_of_some _ e) (Nat.le_refl _) ⟨Heap.get?_push_size _ rfl, ⟨_, Heap.get?_push_size _ rfl⟩⟩)
      by_cases hb : p.1 = P
      · rw [hu p hp hb, hb]
        refine ⟨_, by rw [upd_ne (ne_of_none hP nC), upd_same], by rw [eL]; exact PySem.TriplesOk_snoc _ _ _ _ ht, fun p' cv hcv => ?_⟩
        rw [eL] at hcv
        rcases among_app _ ht hcv with z | z
        · obtain ⟨c0, e1, e2⟩ := ha p' cv z
          exact ⟨c0, e1, hE _ _ e2 codeO_ne⟩
        · exact ⟨c', z, upd_same⟩
      · obtain ⟨ps', a1, a2, a3⟩ := hT2 p hp
        refine ⟨ps', by rw [upd_ne (ne_of_none a1 nC), upd_ne hb]; exact a1, a2, fun p' cv hcv => ?_⟩
        obtain ⟨c0, e1, e2⟩ := a3 p' cv hcv
        exact ⟨c0, e1, hE _ _ e2 codeO_ne⟩
    | some cv =>
      obtain ⟨c', e, hco⟩ := ha pos cv hc
      subst e
      refine PySem.W.kdv_makeTailHit (mg := X.mg) (c := c) (P := P) (ps := ps) (closure_ok hfree) I2.ok.glob (I2.mod.glob.keeps I2.bk) hcode (TB.code.keeps I2.bk) hP' ht hc bP fun ctv doc h' tk hx hsz => ?_
      have I3 : Inv X pins σ H2 { s2 with heap := h', toks := tk } := I2.kept hx
      exact h h'.objs.size s1.heap.objs.size c' u doc ((X.mg "__name__").getD .none) ctv H2 _ r1 e2 hT2 ht2 (I2.hok.fresh hsz) hco (I3.laid (a := h'.objs.size) (h' := h'.push (dobj (X.env.qual ++ "<lambda>") params body scope (cloFrom X.env.cells scope.names []) s1.heap.objs.size doc ((X.mg "__name__").getD .none) c' ctv)) (t' := tk) (fun b o e => Heap.get?_push_of_some _ e) (Nat.le_refl _) ⟨Heap.get?_push_size _ rfl, ⟨_, Heap.get?_push_size _ rfl⟩⟩)
  exact goal
end
/-! ### its names -/
structure LamSD (sc scope : Scope) (N : List Str) (a0 : Str) : Prop where
  kind : scope.kind = .function
  co : scope.isCoroutine = false
  gen : scope.isGenerator = false
  own : ∀ y ∈ scope.names, y.2 ≠ .cell ∧ (y.2 = .local → y.1 ∉ N)
  la : scope.names.lookup a0 = some .local
  free : ∀ y ∈ scope.names, y.2 = .free → sc.names.lookup y.1 = some .cell ∨ sc.names.lookup y.1 = some .free
theorem LamSD.has {X : Cx} {scope : Scope} {a0 : Str} (L : LamSD X.env.scope scope X.N a0) (ok : X.Ok) : ∀ y ∈ scope.names, y.2 = .free → ∃ c, X.env.cells.lookup y.1 = some c := fun y hy e => by
  rcases L.free y hy e with k | k
  · exact ok.has _ (.inl k)
  · exact ok.has _ (.inr k)
section
variable {X : Cx} {pins : List (Addr × Obj)} {σ : L2.St} {H HZ : Hp} {s s1 : Shared}
theorem lam_startD {A : Around} {outer : List Env} {E : XK} {scope : Scope} {f c' : Addr} {h₁ : Heap} {tk : Nat} {a0 : Str} {m0 : Str → Option Value} (I : Inv X pins σ H s) (L : LamSD X.env.scope scope X.N a0) (e0 : Env0 X.prog X.w X.K X.mg X.base A outer s1 HZ) (hd : A.handled = none)
    (un : Un (frs X.stack) [] H HZ s.heap s1.heap) (hns : h₁.Ns s1.heap.objs.size m0) (kp : ∀ b o, s1.heap.get? b = some o → h₁.get? b = some o) :
    Inv (lamCx X A outer s1 HZ E scope f c') [] σ HZ { s1 with heap := h₁, toks := tk } := by
  have hfree := L.has I.ok
  have cm : ∀ {y c}, (cloFrom X.env.cells scope.names []).lookup y = some c → X.env.cells.lookup y = some c := fun {y c} e => by
    rcases cloFrom_mem (PySem.mem_of_lookup e) with hm | ⟨h1, h2⟩
    · cases hm
    · obtain ⟨c1, hc⟩ := hfree _ h1 rfl
      have hc : X.env.cells.lookup y = some c1 := hc
      have e2 : c = c1 := by
        rw [h2, hc] <;> rfl
      rw [e2]
      exact hc
  have look : ∀ {y}, scope.names.lookup y = some .free → ∃ c, (cloFrom X.env.cells scope.names []).lookup y = some c := fun {y} hl => by
    have hy : (y, NameKind.free) ∈ scope.names := PySem.mem_of_lookup hl
    exact mem_lookup (cloFrom_has (cells := X.env.cells) (acc := []) hy)
  have cellK : ∀ {c : Addr} {v : Option Value}, H c = none → s.heap.IsCell c v → h₁.IsCell c v := fun {c v} n ⟨o, ho, hd⟩ => by
    obtain ⟨sl, q⟩ := un.any ho n (by simp)
    exact ⟨_, kp _ _ q, hd⟩
  have noA : ∀ b : Addr, b ∉ (lamCx X A outer s1 HZ E scope f c').ex := fun b z => absurd (show b ∈ ([] : List Addr) from z) (by simp)
  refine ⟨⟨e0.mod, L.kind, rfl, rfl, Nat.le_refl _, fun y z c e1 e2 => I.ok.inj y z c (cm e1) (cm e2), fun y hy => ?_, fun y c z _ => ?_, fun _ => hd, Around.frames_deeper e0.frames, .inr ⟨rfl, rfl⟩, fun b z => absurd z (noA b), e0.bs, e0.bsz, fun b _ _ => noA b,
      fun b z => absurd z (noA b), e0.funs, e0.frf⟩,
    rfl, e0.bare, Un.kept kp, ⟨_, hns, fun i y v e1 e2 e3 => ?_⟩, fun y c e => ?_, e0.hok.fresh (Nat.le_refl _), fun y c e => ?_, fun q hq => absurd (show q ∈ ([] : List (Addr × Obj)) ++ [] from hq) (by simp), e0.hok.kept kp, I.len⟩
  · have hy : scope.names.lookup y = some .cell ∨ scope.names.lookup y = some .free := hy
    rcases hy with hy | hy
    · exact absurd rfl (L.own _ (PySem.mem_of_lookup hy)).1
    · exact look hy
  · have z : false = true := z
    cases z
  · have e3 : Vis scope y := e3
    rcases e3 with k | k | k
    · exact absurd (List.mem_of_getElem? e1) ((L.own _ (PySem.mem_of_lookup k)).2 rfl)
    · exact absurd rfl (L.own _ (PySem.mem_of_lookup k)).1
    · obtain ⟨m, hn, hl⟩ := I.loc
      have hvis : Vis X.env.scope y := (L.free _ (PySem.mem_of_lookup k) rfl).elim (fun k => .inr (.inl k)) (fun k => .inr (.inr k))
      obtain ⟨w', r, q⟩ := hl i y v e1 e2 hvis
      obtain ⟨c2, h2⟩ := look k
      refine ⟨w', r, .inr ⟨.inr k, c2, h2, ?_⟩⟩
      have c1 := cm h2
      rcases q with ⟨k', _⟩ | ⟨_, c3, e', z⟩
      · have k' : X.env.scope.names.lookup y = some .local := k'
        rcases L.free _ (PySem.mem_of_lookup k) rfl with k2 | k2 <;> rw [show X.env.scope.names.lookup y = _ from k2] at k' <;> cases k'
      · rw [c1] at e'
        cases e'
        exact cellK (I.freeC y _ c1) z
  · obtain ⟨w', z⟩ := I.cell y c (cm e)
    exact ⟨w', cellK (I.freeC y c (cm e)) z⟩
  · obtain ⟨v, o, ho, hd⟩ := I.cell y c (cm e)
    exact un.free c o ho (I.freeC y c (cm e)) (by simp)
theorem pe_actD {CXg : CXT} {Eg : XK} {Ng : List Str} {qg : Str} {sg : Scope} {g f t c' : Addr} {cdg u doc pm ctv : Value} {params : Arguments} {body : Expr} {scope : Scope} {k i : Nat} {a a0 : Str} {pn : List (Addr × Obj)} {xe : Value → Shared → Prop} {W : WX} {E : XK} {tb : TE} {p1 p2 : Pos}
    (I : Inv X pins σ H s) (L : LamSD X.env.scope scope X.N a0)
    (hbind : ∀ (s : Shared), s.heap.get? t = some (PySem.W.kdv_tup [u]) → BindsTo s (dfn (X.env.qual ++ "<lambda>") params body scope (cloFrom X.env.cells scope.names []) t doc pm c' ctv) ⟨[], []⟩ [(a0, u)])
    (tk : Takes ((cxOf CXg X.prog X.w X.K X.mg X.base Ng qg sg g cdg X.A X.stack s H Eg).tr pn xe) W) (hW : ∀ cls d σ' H', E cls d H' → W cls d σ' H') (hr : Room (k + 1) (X.A.deeper (envOfC qg sg s.heap.objs.size g cdg)))
    (hbody : ∀ (A : Around) (outer : List Env) (s : Shared) (H : Hp), Room k (A.deeper (lamEnv X scope s.heap.objs.size f c')) → PE (lamCx X A outer s H E scope f c') body tb)
    (hN : Ng[i]? = some a) (hv : Vis sg a) (hd : (a == ("__debug__" : Str)) = false := by decide) (hcd : (a == ("__classdict__" : Str)) = false := by decide) :
    PE ((cxOf CXg X.prog X.w X.K X.mg X.base Ng qg sg g cdg X.A X.stack s H Eg).tr pn xe) (.Call (.Name a p1) [] [] p2)
      (fun σZ HZ Q => σZ[i]? = some (some (.ref f)) ∧ HZ c' = some (CodeO c' (X.env.qual ++ "<lambda>")) ∧ HZ f = some (frzO (dobj (X.env.qual ++ "<lambda>") params body scope (cloFrom X.env.cells scope.names []) t doc pm c' ctv)) ∧ HZ t = some (frzO (PySem.W.kdv_tup [u])) ∧ tb σ HZ Q) := by
  refine ⟨fun pinsZ sZ σZ HZ Q IZ h => ?_⟩
  obtain ⟨hs, hc, hf, htp, ht⟩ := h
  refine wpAny_Call_Name_kw (thn ((pe_var (pos := p1) (i := i) hN hv hd hcd).run pinsZ sZ σZ HZ (fun v H1 => v = .ref f ∧ H1 = HZ) IZ ⟨.ref f, hs, rfl, rfl⟩) fun u' s1 ⟨v, H1, I1, r1, q1⟩ => ?_)
  obtain ⟨ev, eH⟩ := q1
  subst ev
  rw [eH] at I1
  obtain rfl : u' = Value.ref f := r1
  have of1 : s1.heap.get? f = some (dobj (X.env.qual ++ "<lambda>") params body scope (cloFrom X.env.cells scope.names []) t doc pm c' ctv) := (I1.hok f _ hf).1
  have ot1 : s1.heap.get? t = some (PySem.W.kdv_tup [u]) := (I1.hok t _ htp).1
  refine PySem.W.callWith_F0 ⟨_, _, _, _, of1⟩ ?_
  have un : Un (frs X.stack) [] H HZ s.heap s1.heap := I1.base
  obtain ⟨⟨oc, vs, tq, hoc, hdc, hvc⟩, _, _⟩ := I1.hok c' _ hc
  have rc : codeAny (model X.prog X.w) (X.A.deeper (envOfC qg sg s.heap.objs.size g cdg)) (.call (.ref f) ⟨[], []⟩) (CR (L2.CX X.prog X.w) (envOfC qg sg s.heap.objs.size g cdg :: X.stack) X.prog X.w HZ s1 Q E) s1 := by
    refine PySem.W.kla_callFunE hr.depth of1 rfl L.co L.gen rfl ⟨c', oc, vs, tq, rfl, hoc, hdc, hvc⟩ ?_
    refine hbind s1 ot1 _ _ _ _ ?_
    refine wpAny_newFunctionEnv (fun y hy => (L.own y hy).1) (fun y hy => ?_) (fun h₁ hns hsb => ⟨I1.nolimit.fresh _ hsb, ?_⟩) L.kind
    · rw [List.mem_singleton.mp hy]
      exact L.la
    show codeAny _ _ (.expr body (lamEnv X scope s1.heap.objs.size f c')) _ _
    have kp : ∀ b o, s1.heap.get? b = some o → h₁.get? b = some o := fun b o e => hsb.extBut b o (Nat.ne_of_lt (Heap.lt_size e)) (Heap.get?_push_of_some _ e)
    have J := lam_startD (f := f) (c' := c') (E := E) (tk := s1.toks + ([(a0, u)] : List (Str × Value)).length) I L I1.env0 hr.hd un hns kp
    refine PySem.W.kla_codeExpr (wpAny_mono ((hbody _ _ s1 HZ (hr.deeper _)).run [] _ _ HZ Q J ht) (fun v s' hq => ?_) fun e s' hq => hq)
    obtain ⟨w', H', J', rv, q⟩ := hq
    exact ⟨w', H', J'.os, J'.bare, J'.base, J'.hok, rv, q⟩
  have hx : Passes (L2.CX X.prog X.w) ((cxOf CXg X.prog X.w X.K X.mg X.base Ng qg sg g cdg X.A X.stack s H Eg).tr pn xe) E := passes_call tk hW
  refine wpAny_call (codeAny_mono rc fun r s' hq => ?_)
  cases r with
  | error e => exact hx pinsZ σZ HZ s1 e s' I1 hq
  | ok fl =>
    cases fl with
    | ret u => exact I1.after hq
    | next => exact False.elim hq
    | brk => exact False.elim hq
    | cont => exact False.elim hq
theorem pe_lamcallD {T : List (Addr × Str)} {TT : (XK → Hp → VK → Prop) → Hp → VK → Prop} {x a a0 : Str} {g c P : Addr} {k : Nat} {pg : Arguments} {bg : List Stmt} {sg : Scope} {dV kV doc pm cdv ct oc : Value} {an od : Option Addr} {osl : Array (Option Value)} {Ng : List Str}
    {params : Arguments} {ed : Expr} {v0 : V} {body : Expr} {scope : Scope} {t : XK → TE} {p lpos pos : Pos} (hg : Gl X x) (hm : X.mg x = some (.ref g)) (hk : PySem.W.keepIn X.K (.ref g) = true)
    (lk : X.K.lookup g = some ⟨oc, od, .func (PySem.W.fnOf x x pg bg sg dV kV doc pm an cdv ct), osl⟩) (hcg : PySem.W.codeIn X.K cdv x = true) (hb : L2.Binds X.K (PySem.W.fnOf x x pg bg sg dV kV doc pm an cdv ct) [a] []) (Sg : FnScope Ng [a] sg) (hNg : Ng[0]? = some a) (hva : Vis sg a)
    (hG : GivesTo X Ng x sg g cdv bg a (X.env.qual ++ "<lambda>") TT)
    (TB : TabB X.base X.mg c P) (hcode : X.env.code = .ref c) (hmT : (P, X.env.qual ++ "<lambda>") ∈ T) (hu : ∀ p ∈ T, p.1 = P → p.2 = X.env.qual ++ "<lambda>") (hr : Room (k + 2) X.A) (L : LamSD X.env.scope scope X.N a0) (hdef : params.defaults = [ed]) (hk0 : params.kw_defaults = []) (he : PE X ed (tC v0))
    (hbind : ∀ (q : Str) (cl : List (Str × Addr)) (t : Addr) (u doc pm : Value) (c' : Addr) (ctv : Value) (s : Shared), s.heap.get? t = some (PySem.W.kdv_tup [u]) → BindsTo s (dfn q params body scope cl t doc pm c' ctv) ⟨[], []⟩ [(a0, u)])
    (hbody : ∀ (A : Around) (outer : List Env) (s : Shared) (H : Hp) (E : XK) (f c' : Addr), Room k (A.deeper (lamEnv X scope s.heap.objs.size f c')) → PE (lamCx X A outer s H E scope f c') body (t E))
    (hdb : (x == ("__debug__" : Str)) = false := by decide) (hd : (a == ("__debug__" : Str)) = false := by decide) (hcd : (a == ("__classdict__" : Str)) = false := by decide) :
    PE X (.Call (.Name x p) [.Lambda params body scope lpos] [] pos) (fun σ H Q => Tabs T H ∧ ∀ (f t' : Addr) (ff tt : HO) (H1 : Hp), ExtN H H1 → Tabs T H1 → H1 f = some ff → H1 t' = some tt → TT (fun E H' Q' => H' f = some ff ∧ H' t' = some tt ∧ t E σ H' Q') H1 Q) := by
  refine ⟨fun pins s σ H Q I h => ?_⟩
  obtain ⟨hT, h⟩ := h
  refine wpAny_Call_Name_kw (ld_glob I hg hm ?_ hdb)
  refine PySem.W.callWith_K (h₀ := X.base) I.ok.mod.kin hk ?_ (by rfl) (by rfl)
  show wpAny _ _ (spliced ((false, eval (.Lambda params body scope lpos) X.env) :: backTo pos (starEach [] X.env))) _ _ s
  refine Calls.spliced_cons (lam_makeD I TB hcode hmT hu hT hdef hk0 he (L.has I.ok) fun f t' c' u doc' pm' ctv H1 s' r1 eN T1 htp hfn hco I1 => ?_)
  refine Calls.spliced_nil ⟨I1.kIn, ?_⟩
  have hft : t' ≠ f := ne_of_none htp hfn
  have hfc : c' ≠ f := ne_of_none hco hfn
  have rc : codeAny (model X.prog X.w) X.A (.call (.ref g) ⟨[.ref f], []⟩) (CR C8.CX0 X.stack X.prog X.w (upd H1 f (frzO (dobj (X.env.qual ++ "<lambda>") params body scope (cloFrom X.env.cells scope.names []) t' doc' pm' c' ctv))) s' Q C8.E0) s' := by
    refine run_ofS (N := Ng) (ps := [a]) (us := [.ref f]) (vs := [.ref f]) lk hcg Sg hr I1.env0 (hb s' [.ref f] I1.kIn rfl) (.cons rfl .nil) rfl fun hr' => ?_
    have hgo := hG f c' s' (upd H1 f (frzO (dobj (X.env.qual ++ "<lambda>") params body scope (cloFrom X.env.cells scope.names []) t' doc' pm' c' ctv))) Q (fun E H' Q' => H' f = some (frzO (dobj (X.env.qual ++ "<lambda>") params body scope (cloFrom X.env.cells scope.names []) t' doc' pm' c' ctv)) ∧ H' t' = some (frzO (PySem.W.kdv_tup [u])) ∧ t E σ H' Q')
      (fun W pn xe E p1 p2 tk hW => pe_actD (i := 0) I1 L (fun s h => hbind _ _ _ _ _ _ _ _ s h) tk hW hr' (fun A outer s H hr2 => hbody A outer s H E f c' hr2) hNg hva hd hcd)
    obtain ⟨t2, ht', hq'⟩ := hgo (by rw [upd_ne hfc]; exact hco) (h f t' _ _ _ (fun b o e n => by rw [upd_ne (ne_of_none (eN b o e n) hfn)]; exact eN b o e n) (tabs_upd T1 (fun ps => by rw [hfn]; exact fun z => nomatch z) (fun q => by rw [hfn]; exact fun z => nomatch z)) upd_same (by rw [upd_ne hft]; exact htp))
    exact ⟨t2, ht'.nox, hq'⟩
  refine wpAny_call (codeAny_mono rc fun r s2 hq => ?_)
  cases r with
  | error e => exact (show False from hq).elim
  | ok fl =>
    cases fl with
    | ret u => exact I1.after hq
    | next => exact False.elim hq
    | brk => exact False.elim hq
    | cont => exact False.elim hq
/-- _law_kind(lambda a0=..: body) -/
theorem me_kindD {X : Cx} {C : C3} {E : XK} {ws wn : List Str} {m : MEt} {x a a0 : Str} {g c P : Addr} {k : Nat} {pg : Arguments} {bg : List Stmt} {sg : Scope} {dV kV doc pm cdv ct oc : Value} {an od : Option Addr} {osl : Array (Option Value)} {Ng : List Str}
    {params : Arguments} {ed : Expr} {v0 : V} {body : Expr} {scope : Scope} {p lpos pos : Pos} (hK : X.K = C.K) (hfx : ∀ p ∈ C.fix, notTbl p.2 = true) (kt : ∀ w ∈ ws, ∃ D, X.mg w = some (.ref D) ∧ Kinds X.K X.mg D w) (hn : wn = []) (hg : Gl X x) (hm : X.mg x = some (.ref g)) (hk : PySem.W.keepIn X.K (.ref g) = true)
    (lk : X.K.lookup g = some ⟨oc, od, .func (PySem.W.fnOf x x pg bg sg dV kV doc pm an cdv ct), osl⟩) (hcg : PySem.W.codeIn X.K cdv x = true) (hb : L2.Binds X.K (PySem.W.fnOf x x pg bg sg dV kV doc pm an cdv ct) [a] []) (Sg : FnScope Ng [a] sg) (hNg : Ng[0]? = some a) (hva : Vis sg a)
    (hG : GivesTo X Ng x sg g cdv bg a (X.env.qual ++ "<lambda>") (TTn C X.mg ws wn))
    (TB : TabB X.base X.mg c P) (hcode : X.env.code = .ref c) (hmT : (P, X.env.qual ++ "<lambda>") ∈ C.tabs) (hu : ∀ p ∈ C.tabs, p.1 = P → p.2 = X.env.qual ++ "<lambda>") (hr : Room (k + 2) X.A) (L : LamSD X.env.scope scope X.N a0) (hdef : params.defaults = [ed]) (hk0 : params.kw_defaults = []) (he : PE X ed (tC v0))
    (hbind : ∀ (q : Str) (cl : List (Str × Addr)) (t : Addr) (u doc pm : Value) (c' : Addr) (ctv : Value) (s : Shared), s.heap.get? t = some (PySem.W.kdv_tup [u]) → BindsTo s (dfn q params body scope cl t doc pm c' ctv) ⟨[], []⟩ [(a0, u)])
    (hbody : ∀ (A : Around) (outer : List Env) (s : Shared) (H : Hp) (E : XK) (f c' : Addr), Room k (A.deeper (lamEnv X scope s.heap.objs.size f c')) → ME (lamCx X A outer s H E scope f c') C E body m)
    (hdb : (x == ("__debug__" : Str)) = false := by decide) (hd : (a == ("__debug__" : Str)) = false := by decide) (hcd : (a == ("__classdict__" : Str)) = false := by decide) :
    ME X C E (.Call (.Name x p) [.Lambda params body scope lpos] [] pos) (mKindN ws wn m) :=
  PE.imp (pe_lamcallD (T := C.tabs) (TT := TTn C X.mg ws wn) (t := fun E => lift C X.mg E m) hg hm hk lk hcg hb Sg hNg hva hG TB hcode hmT hu hr L hdef hk0 he hbind hbody hdb hd hcd) fun σ H Q ⟨env, G, Kd, KX, ok, vr, hm, pv, px⟩ => by
  subst hn
  refine ⟨ok.iv.tb, fun f t' ff tt H1 eN tb hf ht => ?_⟩
  obtain ⟨ok1, s1⟩ := lam_ok ok hfx eN tb
  refine ⟨hf, ht, env, G, Kd, _, ok1, vr, hm, pv.on s1, fun x cls d H2 kx s2 ok2 r => ?_⟩
  obtain ⟨A, h1, h2, h3⟩ := r
  have kx : kindX ws [] Kd x := kx
  unfold kindX at kx
  cases q : x.num with
  | none =>
    rw [q] at h3 kx
    obtain ⟨hw, kx⟩ := kx
    obtain ⟨D, g1, g2⟩ := kt _ hw
    rw [h1] at g1
    cases g1
    exact .inl ⟨x.cls, G, A, ok2, hw, h2, h3, by rw [← hK]; exact g2, fun y v H3 G3 s3 ok3 r3 e => pv y v H3 G3 ((s1.trans ok2 s2).trans ok3 s3) ok3 r3 (by rw [e]; exact kx)⟩
  | some n =>
    rw [q] at kx
    exact nomatch kx.1
end
end L3
/-! W8: the frame of a law with two tables -/
namespace L3
open PySem PySem.Spec PyProof.Rows L2
def spLawT2 (K : PySem.W.Frag) (T T2 : Addr) : Sp := fun vs H Q _ => ∃ (a : Addr) (ns : List Int), vs = [.ref a] ∧ SqL K H a (ns.map V.int) ∧ H T = some (.tbl #[]) ∧ H T2 = some (.tbl #[]) ∧ ∀ v H', v = .bl true → Q v H'
/-- .. of a law that makes lambdas: its code object's table stands at T -/
theorem law_l3T2 {P : Program} {w : World} {K : PySem.W.Frag} {mg : Str → Option Value} {base : Heap} {st first : Stmt} {rest : List Stmt} {f T T2 : Addr} {q2 : Str} {od an : Option Addr} {osl : Array (Option Value)} {oc kV doc pm cdv ct : Value} {N : List Str} {k : Nat} (lk : K.lookup f = some ⟨oc, od, .func (PySem.W.fnOf "law" "law" (defArgs st) (defBody st) (defScope st) .none kV doc pm an cdv ct), osl⟩) (hcd : PySem.W.codeIn K cdv "law" = true) (S : FnScope N ["_law_script"] (defScope st)) (m : Option Addr → MSt) (hb : defBody st = first :: rest) (hN : 2 ≤ N.length)
    (der : ∀ (A : Around) (outer : List Env) (s : Shared) (H : Hp) (E : XK), Room k (A.deeper (envOfC "law" (defScope st) s.heap.objs.size f cdv)) →
      PS (cxOf (L2.CX P w) P w K mg base N "law" (defScope st) f cdv A outer s H E) first (tOpen K E) ∧ ∀ (s0 : Option (Addr × Addr × List Int)) (fix : List (Addr × HO)) (_ : fixOk fix) (B : Hp),
      MSs (cxOf (L2.CX P w) P w K mg base N "law" (defScope st) f cdv A outer s H E) ⟨K, s0, fix, [(T, lamQ), (T2, q2)]⟩ E false B rest (m (s0.map (·.1))))
    (pure : ∀ (p a : Addr), m (some p) (some (.sh (.ref a)) :: some (.sh (.ref p)) :: List.replicate (N.length - 2) none) { nx := fun _ => False, rt := fun d => d = .bl true }) :
    FnOk P w K mg base (L2.CX P w) (k + 1) f (PySem.W.fnOf "law" "law" (defArgs st) (defBody st) (defScope st) .none kV doc pm an cdv ct) ["_law_script"] (spLawT2 K T T2) := by
  refine fn_of lk hcd S (fun vs H Q E h => ?_) (fun A outer s H vs Q E hr h => ?_)
  · obtain ⟨a, ns, rfl, _⟩ := h
    rfl
  · obtain ⟨a, ns, rfl, hS, hT, hTb, hq⟩ := h
    obtain ⟨d1, d2⟩ := der A outer s H E hr
    rw [hb]
    refine ⟨_, pss_cons d1 (pss_any (ι := (Option (Addr × Addr × List Int)) × {l : List (Addr × HO) // fixOk l}) fun i => d2 i.1 i.2.1 i.2.2 (fun _ => none) (fun _ => none)), ?_⟩
    have eS : (L2.start N [V.ref a] : L2.St) = some (.ref a) :: none :: List.replicate (N.length - 2) none := by
      unfold L2.start
      show some (V.ref a) :: List.replicate (N.length - 1) none = _
      rw [show N.length - 1 = (N.length - 2) + 1 by omega, List.replicate_succ]
    rw [eS]
    -- the rest, once the script stays
    have go : ∀ (H0 : Hp) (fix : List (Addr × HO)), (∀ p ∈ fix, H0 p.1 = some p.2) → fixOk fix → H0 T = some (.tbl #[]) → H0 T2 = some (.tbl #[]) → ScrOk ⟨K, none, fix, []⟩ a ns → SqL K H0 a (ns.map V.int) → spStart K ([V.ref a] ++ []) H0 (fun v H1 => gName 1 v (some (.ref a) :: none :: List.replicate (N.length - 2) none) H1 fun σ H2 => ∃ i : (Option (Addr × Addr × List Int)) × {l : List (Addr × HO) // fixOk l}, liftS ⟨K, i.1, i.2.1, [(T, lamQ), (T2, q2)]⟩ mg E false (fun _ => none) (fun _ => none) (m (i.1.map (·.1))) { nx := fun _ H => Q .non H, rt := Q } σ H2) E := by
      intro H0 fix hfix hfn hT0 hTb0 hscr hS0
      refine ⟨a, ns, rfl, hS0, fun p mm hp h0 h1 => ?_⟩
      refine ⟨(some (p, a, ns), ⟨fix, hfn⟩), some (.sh (.ref a)) :: some (.sh (.ref p)) :: List.replicate (N.length - 2) none, fun _ => none, _, ?_, pure p a, ?_⟩
      · refine ⟨⟨⟨⟨fun a' sa' ns' e => ?_, fun q hq' => ?_, fun q hq' => ?_⟩, fun _ _ h => (nomatch h), fun _ _ h => (nomatch h)⟩, fun _ _ h => (nomatch h), fun _ _ _ h => (nomatch h), fun _ _ _ h => (nomatch h)⟩, ?_, fun i d h => ?_, fun i q d h => ?_, fun i j q d e h _ => ?_⟩
        · cases e
          refine ⟨⟨0, mm, 0, upd_same, by decide, h0, h1, by decide⟩, hscr, ?_⟩
          rw [List.any_eq_false]
          intro q hq' e
          have e := of_decide_eq_true e
          have := hfix q hq'
          rw [e, hp] at this
          cases this
        · have nq : q.1 ≠ p := fun e => by
            have := hfix q hq'
            rw [e, hp] at this
            cases this
          show upd H0 p _ q.1 = _
          rw [upd_ne nq]
          exact hfix q hq'
        · have hq' : q ∈ [(T, lamQ), (T2, q2)] := hq'
          rcases List.mem_cons.mp hq' with e | hq'
          · subst e
            refine LamX.TabS.nil ?_
            rw [upd_ne (ne_of_none hT0 hp)]
            exact hT0
          · rw [List.mem_singleton] at hq'
            subst hq'
            refine LamX.TabS.nil ?_
            rw [upd_ne (ne_of_none hTb0 hp)]
            exact hTb0
        · simp
        · match i, h with
          | 0, h => cases h; exact ⟨_, rfl, .ref a⟩
          | 1, h => cases h; exact ⟨_, rfl, .ref p⟩
          | i + 2, h =>
            have h : (List.replicate (N.length - 2) (none : Option Slot))[i]? = some (some (.sh d)) := h
            rw [List.getElem?_replicate] at h
            split at h <;> cases h
        · match i, h with
          | 0, h => cases h
          | 1, h => cases h
          | i + 2, h =>
            have h : (List.replicate (N.length - 2) (none : Option Slot))[i]? = some (some (.own q d)) := h
            rw [List.getElem?_replicate] at h
            split at h <;> cases h
        · match i, h with
          | 0, h => cases h
          | 1, h => cases h
          | i + 2, h =>
            have h : (List.replicate (N.length - 2) (none : Option Slot))[i]? = some (some (.own q d)) := h
            rw [List.getElem?_replicate] at h
            split at h <;> cases h
      · refine ⟨fun _ _ _ _ _ k => k.elim, fun _ _ _ _ _ k => k.elim, fun _ _ _ _ _ k => k.elim, fun d v H' G' z rr k => ?_, fun x cls d H' k => k.elim⟩
        have rr : Rp K G' d v := rr
        rw [k] at rr
        cases rr
        exact hq _ _ rfl
    rcases hS with (h | ⟨o, h⟩) | ⟨o, its, n, h1, h2, h3, h4, h5, h6⟩
    · refine .inr ⟨.ref a, rfl, a, _, rfl, h, trivial, fun od => ?_⟩
      exact go (upd H a (.frz od (.lst (ns.map V.int)))) [(a, .frz od (.lst (ns.map V.int)))] (fun p hp => by
        rw [List.mem_singleton] at hp
        subst hp
        exact upd_same) (fun p hp => by
        rw [List.mem_singleton] at hp
        subst hp
        exact ⟨rfl, rfl⟩) (by rw [upd_ne (fun e => by rw [e, h] at hT; cases hT)]; exact hT) (by rw [upd_ne (fun e => by rw [e, h] at hTb; cases hTb)]; exact hTb) (.inl ⟨od, List.mem_singleton.mpr rfl⟩) (.inl (.inr ⟨od, upd_same⟩))
    · refine .inl ⟨.ref a, rfl, ?_⟩
      exact go H [(a, .frz o (.lst (ns.map V.int)))] (fun p hp => by
        rw [List.mem_singleton] at hp
        subst hp
        exact h) (fun p hp => by
        rw [List.mem_singleton] at hp
        subst hp
        exact ⟨rfl, rfl⟩) hT hTb (.inl ⟨o, List.mem_singleton.mpr rfl⟩) (.inl (.inr ⟨o, h⟩))
    · refine .inl ⟨.ref a, rfl, ?_⟩
      exact go H [] (fun p hp => by cases hp) (fun p hp => by cases hp) hT hTb (.inr ⟨o, its, n, h1, h2, h3, h4, h5, h6⟩) (.inr ⟨o, its, n, h1, h2, h3, h4, h5, h6⟩)

/-! ### the end -/
theorem walk_tab2 {l : PySem.W.OpenLaw} {n k : Nat} {q : Program} {loose : List Str} {XP : (Str → Option Value) → Heap → Prop} {YP : World → Heap → Prop} {d : DefRec} {K : Params → PySem.W.Frag} {CX : World → CXT} {x y : Str} {d2 : DefRec}
    (hn : l.most = some n) (hn2 : n ≤ sizeLine) (hdf : d.params.defaults = []) (hr : Room k callerA) (hY : ∀ (w : World) (h : Heap), YP w h → (K w.params).In h) (hd : (PyProof.Rows.recsOf q).find? (fun e => e.name == d.name) = some d) (hd2 : (PyProof.Rows.recsOf q).find? (fun e => e.name == y) = some d2)
    (F : ∀ (w : World) (mg : Str → Option Value) (fa : Addr) (h : Heap), (K w.params).In h → h.Ns mainGlobals mg → mg d.name = some (.ref fa) →
      ∃ (c T c2 T2 : Addr) (fd : FuncData), PySem.W.tabIn (K w.params) d.name = some (c, T) ∧ (K w.params).lookup T = none ∧ PySem.W.tabIn (K w.params) y = some (c2, T2) ∧ (K w.params).lookup T2 = none ∧ (∀ (s : Shared) (u : Value), BindsTo s fd ⟨[u], []⟩ [(x, u)]) ∧
        ∀ base : Heap, (K w.params).In base → base.Ns mainGlobals mg → LamX.TabB base mg c T → LamX.TabB base mg c2 T2 → FnOk l.prog w (K w.params) mg base (CX w) k fa fd [x] (spLawT2 (K w.params) T T2))
    (hCX : ∀ (w : World) (H : Hp) (s : Shared) (e : Value) (s' : Shared), CX w [] H s (fun _ _ _ => False) e s' → False) :
    PySem.W.WalkO q loose XP YP l.row.toRowW d [] (fun f vs => PySem.call f vs) := by
  refine Att.attach_callB hn hdf fun w s₀ s₁ mg mb fa o pm cd doc a vs ns G Y ho hod hcd hmg hobj hints hlen hbits hg => ?_
  have KX := hY w _ Y
  obtain ⟨c, T, c2, T2, fd, ht, hnT, ht2, hnT2, hb, hF⟩ := F w mg fa _ KX G.T.g hmg
  obtain ⟨hC, hT⟩ := PySem.W.tab_of G.T KX hd ht
  obtain ⟨hC2, hT2⟩ := PySem.W.tab_of G.T KX hd2 ht2
  refine LamX.law_callTs (cs := [(c, T), (c2, T2)]) KX G.T.g G.T.b G.T.builtins G.T.nolimit hg (fun p hp => ?_) (fun p hp => ?_) (fun p hp => ?_) G.T.bmain hobj hints (Nat.le_trans hlen hn2) hr (fun base h1 h2 h3 => hF base h1 h2 (h3 (c, T) List.mem_cons_self) (h3 (c2, T2) (List.mem_cons_of_mem _ (List.mem_singleton.mpr rfl)))) hb (fun H hH hS => ⟨a, ns, rfl, hS, hH (c, T) List.mem_cons_self, hH (c2, T2) (List.mem_cons_of_mem _ (List.mem_singleton.mpr rfl)), fun _ _ e => e⟩) fun H e s' => hCX w H s₁ e s'
  · rcases List.mem_cons.mp hp with e | hp
    · rw [e]; exact hT
    · rw [List.mem_singleton.mp hp]; exact hT2
  · rcases List.mem_cons.mp hp with e | hp
    · rw [e]; exact hnT
    · rw [List.mem_singleton.mp hp]; exact hnT2
  · rcases List.mem_cons.mp hp with e | hp
    · rw [e]; exact hC
    · rw [List.mem_singleton.mp hp]; exact hC2
theorem mem_tab1 {T : Addr} {tabs : List (Addr × Str)} {q s : Str} {r : List (Addr × Str)} (h : tabs = (T, s) :: r) (e : q = s) : (T, q) ∈ tabs := by
  subst h
  subst e
  exact List.mem_cons_self
theorem un_tab1 {T T2 : Addr} {tabs : List (Addr × Str)} {q s s2 : Str} (h : tabs = [(T, s), (T2, s2)]) (ne : T ≠ T2) (e : q = s) : ∀ p ∈ tabs, p.1 = T → p.2 = q := by
  subst h
  subst e
  intro p hp z
  rcases List.mem_cons.mp hp with e | hp
  · rw [e]
  · rw [List.mem_singleton.mp hp] at z
    exact absurd z.symm ne
theorem mem_tab2 {T T2 : Addr} {tabs : List (Addr × Str)} {q s s2 : Str} (h : tabs = [(T, s), (T2, s2)]) (e : q = s2) : (T2, q) ∈ tabs := by
  subst h
  subst e
  exact List.mem_cons_of_mem _ (List.mem_singleton.mpr rfl)
theorem un_tab2 {T T2 : Addr} {tabs : List (Addr × Str)} {q s s2 : Str} (h : tabs = [(T, s), (T2, s2)]) (ne : T ≠ T2) (e : q = s2) : ∀ p ∈ tabs, p.1 = T2 → p.2 = q := by
  subst h
  subst e
  intro p hp z
  rcases List.mem_cons.mp hp with e | hp
  · rw [e] at z
    exact absurd z ne
  · rw [List.mem_singleton.mp hp]
abbrev worksQ : Str := (("_law_works" : Str) ++ ".<locals>.") ++ "<lambda>"
theorem works_q {x : Str} (h : x = ("_law_works" : Str) ++ ".<locals>.") : x ++ "<lambda>" = worksQ := by rw [h]
end L3
set_option pp.maxSteps 400
/-! Q0: plain tools: comprehensions over numbers, lengths, sets -/
namespace L3
open PySem PySem.Spec PyProof.Rows L2
theorem get_set_self {env : EnvE} {i : Nat} {d : D} (hi : (env[i]?).isSome = true) : (env.set i (some d))[i]? = some (some d) := by
  rw [List.getElem?_set_self (by
    cases h : env[i]? with
    | none => rw [h] at hi; cases hi
    | some x => exact (List.getElem?_eq_some_iff.mp h).1)]
theorem lcD_filter {i : Nat} {tt : MTt} {env : EnvE} (g : Int → Bool) (hi : (env[i]?).isSome = true) : ∀ {ns : List Int} {ds : List D} {K : List D → Prop}, ds = ns.map D.int → (∀ x ∈ ns, ∀ Kb : Bool → Prop, Kb (g x) → tt (env.set i (some (.int x))) Kb (fun _ => False)) → K ((ns.filter g).map D.int) → lcD (.nm i) tt (mVar i) env ds K
  | [], _, K, rfl, _, k => k
  | x :: ns, _, K, rfl, h, k => by
    refine ⟨_, rfl, ?_⟩
    refine h x List.mem_cons_self _ ?_
    by_cases c : g x = true
    · rw [List.filter_cons_of_pos c] at k
      rw [if_pos c]
      show mVar i (env.set i (some (.int x))) _ _
      unfold mVar
      rw [get_set_self hi]
      exact lcD_filter g hi (K := fun r => K (.int x :: r)) rfl (fun y hy => h y (List.mem_cons_of_mem _ hy)) k
    · rw [List.filter_cons_of_neg c] at k
      rw [if_neg c]
      exact lcD_filter g hi (K := K) rfl (fun y hy => h y (List.mem_cons_of_mem _ hy)) k
theorem lcD_fmm {t : Tgt} {tt : MTt} {te : MEt} {env : EnvE} {α : Type} (f : α → D) (o : α → Option D) : ∀ {l : List α} {ds : List D} {K : List D → Prop}, ds = l.map f → (∀ a ∈ l, ∀ K : Option D → Prop, K (o a) → lcS t tt te env (f a) K) → K (l.filterMap o) → lcD t tt te env ds K
  | [], _, K, rfl, _, k => k
  | x :: l, _, K, rfl, h, k => by
    refine lcD_step (h x List.mem_cons_self _ ?_)
    rw [List.filterMap_cons] at k
    cases q : o x with
    | none =>
      rw [q] at k
      exact lcD_fmm f o rfl (fun b hb => h b (List.mem_cons_of_mem _ hb)) k
    | some y =>
      rw [q] at k
      exact lcD_fmm f o (K := fun r => K (y :: r)) rfl (fun b hb => h b (List.mem_cons_of_mem _ hb)) k
theorem lcD_map {t : Tgt} {te : MEt} {env : EnvE} {α : Type} (f : α → D) (o : α → D) {l : List α} {ds : List D} {K : List D → Prop} (e : ds = l.map f) (h : ∀ a ∈ l, ∃ bs, bindT t (f a) = some bs ∧ ∀ Kd : D → Prop, Kd (o a) → te (setE env bs) Kd (fun _ => False)) (k : K (l.map o)) : lcD t tYesM te env ds K := by
  refine lcD_fmm f (fun a => some (o a)) e (fun a ha K hK => ?_) (by rw [List.filterMap_eq_map']; exact k)
  obtain ⟨bs, hb, h⟩ := h a ha
  exact ⟨bs, hb, h _ hK⟩
/-- 0 .. n - 1 -/
def rgI (n : Nat) : List Int := (List.range n).map fun i : Nat => (i : Int)
theorem rg_eq (n : Nat) : ((List.range n).map fun i : Nat => D.int (i : Int)) = (rgI n).map D.int := by
  unfold rgI
  rw [List.map_map]
  rfl
theorem rgI_mem {n : Nat} {x : Int} : x ∈ rgI n ↔ 0 ≤ x ∧ x < n := by
  unfold rgI
  rw [List.mem_map]
  constructor
  · rintro ⟨i, hi, rfl⟩
    have := List.mem_range.mp hi
    omega
  · rintro ⟨h0, h1⟩
    exact ⟨x.toNat, List.mem_range.mpr (by omega), by omega⟩
theorem rgI_len (n : Nat) : (rgI n).length = n := by unfold rgI; rw [List.length_map, List.length_range]
theorem rgI_nodup (n : Nat) : (rgI n).Nodup := by
  unfold rgI List.Nodup
  rw [List.pairwise_map]
  exact List.nodup_range.imp fun h e => h (by omega)
theorem rgI_lt (n : Nat) : (rgI n).Pairwise (· < ·) := by
  unfold rgI
  rw [List.pairwise_map]
  exact List.pairwise_lt_range.imp fun h => by omega
theorem mRange_go {m : MEt} {j : Int} {n : Nat} {env : EnvE} {Kl : List D → Prop} {KX : Exn → Prop} (h : (n : Int) = j) (hn : n ≤ 1000000) (k : Kl ((rgI n).map D.int)) : rgD [.int j] Kl := by
  subst h
  refine ⟨by omega, by omega, ?_⟩
  rw [show ((n : Int)).toNat = n by omega, rg_eq]
  exact k
/-- len(set(xs)) == len(xs) -/
theorem fm_inj (val : Nat → Int) : ∀ n, (PyProof.Rows.firstMet val n).length = n → ((List.range n).map val).Nodup
  | 0, _ => List.nodup_nil
  | n + 1, h => by
    rw [PyProof.Rows.firstMet_succ] at h
    have hle := PyProof.Rows.firstMet_length_le val n
    have ha := PyProof.Rows.firstMet_any val n (val n)
    unfold PyProof.Rows.step_dedup at h
    split at h
    · omega
    · rename_i c
      rw [List.length_append] at h
      have h2 : (PyProof.Rows.firstMet val n).length = n := by simp at h; exact h
      rw [List.range_succ, List.map_append, List.nodup_append]
      refine ⟨fm_inj val n h2, by simp, fun x hx y hy e => ?_⟩
      rw [List.map_singleton, List.mem_singleton] at hy
      subst hy
      subst e
      rw [ha] at c
      exact c (List.any_eq_true.mpr ⟨_, hx, beq_self_eq_true _⟩)
theorem getD_range (ns : List Int) : (List.range ns.length).map (fun i => ns.getD i 0) = ns := by
  apply List.ext_getElem
  · rw [List.length_map, List.length_range]
  · intro i h1 h2
    rw [List.getElem_map, List.getElem_range, List.getD_eq_getElem?_getD, List.getElem?_eq_getElem h2]
    rfl
theorem dlen_eq {ns : List Int} (h : dlen ns = ns.length) : ns.Nodup := by
  have := fm_inj (fun i => ns.getD i 0) ns.length h
  rwa [getD_range] at this
theorem dlen_dec (ns : List Int) : decide (((dlen ns : Nat) : Int) = ((ns.length : Nat) : Int)) = decide ns.Nodup := by
  by_cases c : ns.Nodup
  · rw [dlen_nodup c, decide_eq_true rfl, decide_eq_true c]
  · rw [decide_eq_false c, decide_eq_false]
    intro e
    exact c (dlen_eq (by omega))
theorem lenSet_go {ns : List Int} {K : D → Prop} (h : ns.length ≤ 4000) (k : K (.int (dlen ns : Nat))) : (match intsOf (ns.map D.int) with | some ns => ns.length ≤ 4000 ∧ K (.int (dlen ns : Nat)) | none => False) := by
  rw [intsOf_ints]
  exact ⟨h, k⟩
end L3
/-! P1: the helpers of all laws: what they compute (plain) -/
namespace L3
open PySem PySem.Spec PyProof.Rows L2
theorem z1 : 1 ≤ sizeLine := by decide
theorem z2 : 2 ≤ sizeLine := by decide
theorem z3 : 3 ≤ sizeLine := by decide
theorem z4 : 4 ≤ sizeLine := by decide
theorem n9 {n : Int} (h0 : 0 < n) (h : n < 1606938044258990275541962092341162602522202993782792835301376) : n.natAbs < 2 ^ 9000 := by
  have h1 : n.natAbs < 2 ^ 200 := by
    rw [show (2 : Nat) ^ 200 = 1606938044258990275541962092341162602522202993782792835301376 by decide]
    omega
  exact Nat.lt_of_lt_of_le h1 (Nat.pow_le_pow_right (by decide) (by decide))
theorem dr {a : Addr} {n : Int} {Kd : D → Prop} {KX : Exn → Prop} (h0 : 0 < n) (h : n < 1606938044258990275541962092341162602522202993782792835301376) (k : ∀ i, 0 ≤ i → i < n → Kd (.int i)) : sp__law_drawn (some a) [.ref a, .int n] Kd KX := by
  unfold sp__law_drawn
  exact ⟨a, n, rfl, rfl, h0, n9 h0 h, k⟩
/-! ### _law_boxes -/
def sp__law_boxes : Spec := fun sa ds Kd _ => ∃ a, sa = some a ∧ ds = [.ref a] ∧ ∀ b : Int, 1 ≤ b → b ≤ 10 → Kd (.int b)
abbrev N__law_boxes : List Str := ["_law_state"]
abbrev ps__law_boxes : List Str := ["_law_state"]
def m__law_boxes (sa : Option Addr) : MSt :=
  (mRet (m2 ixD (mLst (aCons (m2 addD (mC (.int 1)) (mCallU sa sp__law_drawn (aCons (mVar 0) (aCons (mC (.int 4)) aNil)))) (aCons (m2 addD (mC (.int 2)) (mCallU sa sp__law_drawn (aCons (mVar 0) (aCons (mC (.int 5)) aNil)))) (aCons (m2 addD (mC (.int 1)) (mCallU sa sp__law_drawn (aCons (mVar 0) (aCons (mC (.int 10)) aNil)))) aNil)))) (mCallU sa sp__law_drawn (aCons (mVar 0) (aCons (mC (.int 3)) aNil)))))
theorem pu__law_boxes (sa : Option Addr) (ds : List D) (Kd : D → Prop) (KX : Exn → Prop) (hl : ds.length = 1) (h : sp__law_boxes sa ds Kd KX) : m__law_boxes sa (startS N__law_boxes.length ds) { nx := fun _ => false = false ∧ Kd .non, rt := Kd, ex := KX } := by
  obtain ⟨a, rfl, rfl, k⟩ := h
  refine dr (by decide) (by decide) fun x x0 x1 => dr (by decide) (by decide) fun y y0 y1 => dr (by decide) (by decide) fun z z0 z1 => ⟨z3, dr (by decide) (by decide) fun i i0 i1 => ?_⟩
  have hi : i = 0 ∨ i = 1 ∨ i = 2 := by omega
  rcases hi with rfl | rfl | rfl
  · exact ixD_lst rfl (k _ (by omega) (by omega))
  · exact ixD_lst rfl (k _ (by omega) (by omega))
  · exact ixD_lst rfl (k _ (by omega) (by omega))
/-! ### _law_order -/
def sp__law_order : Spec := fun sa ds Kd _ => ∃ a xs, sa = some a ∧ ds = [.ref a, .lst xs] ∧ (∀ d ∈ xs, Dk 5 d) ∧ xs.length ≤ 1000 ∧ ∀ ys : List D, ys.Perm xs → Kd (.lst ys)
abbrev N__law_order : List Str := ["_law_state", "_law_some", "_law_left", "_law_found"]
abbrev ps__law_order : List Str := ["_law_state", "_law_some"]
def m__law_order (sa : Option Addr) : MSt :=
  (mSeq (mSetF 2 (mCall listD (aCons (mVar 1) aNil)))
  (mSeq (mSetF 3 (mLst aNil))
  (mSeq (mWhile (mB (m2 (eqE true) (mVar 2) (mLst aNil))) (mAppPop 3 2 (mCallU sa sp__law_drawn (aCons (mVar 0) (aCons (mCall lenD (aCons (mVar 2) aNil)) aNil)))))
  (mRet (mVar 3)))))
theorem erase_perm {α : Type} : ∀ (l : List α) (i : Nat) (y : α), l[i]? = some y → (y :: l.eraseIdx i).Perm l
  | [], _, _, h => by simp at h
  | x :: l, 0, y, h => by cases h; exact List.Perm.refl _
  | x :: l, i + 1, y, h => (List.Perm.swap x y _).trans ((erase_perm l i y h).cons x)
theorem pu__law_order (sa : Option Addr) (ds : List D) (Kd : D → Prop) (KX : Exn → Prop) (hl : ds.length = 2) (h : sp__law_order sa ds Kd KX) : m__law_order sa (startS N__law_order.length ds) { nx := fun _ => false = false ∧ Kd .non, rt := Kd, ex := KX } := by
  obtain ⟨a, xs, rfl, rfl, hd, hx, k⟩ := h
  refine fun p => ⟨Nat.zero_le _, fun q => ⟨xs.length + 1, ?_⟩⟩
  have go : ∀ (m : Nat) (left found : List D), left.length = m → (found ++ left).Perm xs → whileD (mB (m2 (eqE true) (mVar 2) (mLst aNil))) (mAppPop 3 2 (mCallU (some a) sp__law_drawn (aCons (mVar 0) (aCons (mCall lenD (aCons (mVar 2) aNil)) aNil))))
      { nx := fun env' => mRet (mVar 3) env' { nx := fun _ => false = false ∧ Kd .non, rt := Kd, ex := KX }, rt := Kd, ex := KX } (m + 1) [some (.sh (.ref a)), some (.sh (.lst xs)), some (.own p (.lst left)), some (.own q (.lst found))] := by
    intro m
    induction m with
    | zero =>
      intro left found hm hp
      have e := List.eq_nil_of_length_eq_zero hm
      subst e
      refine ⟨Nat.zero_le _, eqE_nil (n := 1) (.lst _ _ (by simp)) (by decide) ?_⟩
      exact k _ (by rw [List.append_nil] at hp; exact hp)
    | succ m ih =>
      intro left found hm hp
      have hsub : ∀ d ∈ left, Dk 5 d := fun d hd' => hd d (hp.mem_iff.mp (List.mem_append_right _ hd'))
      have hlen : found.length + left.length = xs.length := by rw [← hp.length_eq, List.length_append]
      refine ⟨Nat.zero_le _, eqE_nil (n := 6) (.lst _ _ hsub) (by decide) ?_⟩
      have ne : left.isEmpty = false := by cases left with | nil => simp at hm | cons _ _ => rfl
      rw [ne]
      refine dr (by omega) (by omega) fun i i0 i1 => ⟨i0, sz_lt (by omega), by omega, ?_⟩
      have hi : i.toNat < left.length := by omega
      rw [List.getElem?_eq_getElem hi]
      have hy := erase_perm left i.toNat left[i.toNat] (List.getElem?_eq_getElem hi)
      refine ih (left.eraseIdx i.toNat) (found ++ [left[i.toNat]]) (by rw [List.length_eraseIdx_of_lt hi]; omega) ?_
      rw [List.append_assoc]
      exact (List.Perm.append_left found hy).trans hp
  exact go xs.length xs [] rfl (List.Perm.refl _)
/-! ### leads -/
structure Lead (b : Int) (l : List (Int × Int)) : Prop where
  nd : (l.map (·.1)).Nodup
  bd : ∀ p ∈ l, 0 ≤ p.1 ∧ p.1 < b ∧ 0 ≤ p.2 ∧ p.2 < b
abbrev pD (p : Int × Int) : D := .tup [.int p.1, .int p.2]
abbrev leadD (l : List (Int × Int)) : D := .lst (l.map pD)
def kvD (l : List (Int × Int)) : List (Int × D) := l.map fun p => (p.1, D.int p.2)
def look (l : List (Int × Int)) (k : Int) : Option Int := (l.find? fun p => decide (p.1 = k)).map (·.2)
theorem Lead.len {b : Int} {l : List (Int × Int)} (h : Lead b l) (hb : 0 ≤ b) : (l.length : Int) ≤ b := by
  have := nodup_lenI hb h.nd fun x hx => by
    obtain ⟨p, hp, rfl⟩ := List.mem_map.mp hx
    have := h.bd p hp
    exact ⟨this.1, this.2.1⟩
  rwa [List.length_map] at this
theorem valD_kv (k : Int) : ∀ l : List (Int × Int), valD (kvD l) k = (look l k).map D.int
  | [] => rfl
  | p :: l => by
    have ih := valD_kv k l
    unfold valD look kvD at *
    rw [List.map_cons, List.find?_cons, List.find?_cons]
    by_cases c : p.1 = k
    · simp [c]
    · simp only [c, decide_false]
      exact ih
theorem look_mem {l : List (Int × Int)} {k v : Int} (h : look l k = some v) : (k, v) ∈ l := by
  unfold look at h
  cases q : l.find? fun p => decide (p.1 = k) with
  | none => rw [q] at h; cases h
  | some p =>
    rw [q] at h
    cases h
    have h1 := List.mem_of_find?_eq_some q
    have h2 := of_decide_eq_true (List.find?_some (p := fun p : Int × Int => decide (p.1 = k)) q)
    rw [← h2]
    exact h1
theorem look_some {l : List (Int × Int)} {k : Int} (h : k ∈ l.map (·.1)) : ∃ v, look l k = some v := by
  unfold look
  cases q : l.find? fun p => decide (p.1 = k) with
  | none =>
    obtain ⟨p, hp, rfl⟩ := List.mem_map.mp h
    have := List.find?_eq_none.mp q p hp
    simp at this
  | some p => exact ⟨_, rfl⟩
theorem look_of {l : List (Int × Int)} (hn : (l.map (·.1)).Nodup) {k v : Int} (h : (k, v) ∈ l) : look l k = some v := by
  induction l with
  | nil => cases h
  | cons p l ih =>
    rw [List.map_cons, List.nodup_cons] at hn
    unfold look
    rw [List.find?_cons]
    rcases List.mem_cons.mp h with e | e
    · subst e
      simp
    · have ne : ¬ p.1 = k := fun e2 => hn.1 (List.mem_map.mpr ⟨(k, v), e, e2.symm⟩)
      rw [decide_eq_false ne]
      exact ih hn.2 e
theorem look_none {l : List (Int × Int)} {k : Int} (h : look l k = none) : k ∉ l.map (·.1) := fun hm => by
  obtain ⟨v, hv⟩ := look_some hm
  rw [hv] at h
  cases h
theorem keys_kv (l : List (Int × Int)) : (kvD l).map (·.1) = l.map (·.1) := by
  unfold kvD
  rw [List.map_map]
  rfl
def put (l : List (Int × Int)) (k v : Int) : List (Int × Int) := if l.any (fun p => decide (p.1 = k)) then l.map (fun p => if p.1 = k then (p.1, v) else p) else l ++ [(k, v)]
theorem putD_kv (l : List (Int × Int)) (k v : Int) : putD (kvD l) k (.int v) = kvD (put l k v) := by
  unfold putD put kvD
  rw [List.any_map]
  have e : ((fun p : Int × D => decide (p.1 = k)) ∘ fun p : Int × Int => (p.1, D.int p.2)) = fun p : Int × Int => decide (p.1 = k) := rfl
  rw [e]
  split
  · rw [List.map_map, List.map_map]
    apply List.map_congr_left
    intro p _
    show (if p.1 = k then (p.1, D.int v) else (p.1, D.int p.2)) = _
    show _ = ((if p.1 = k then (p.1, v) else p).1, D.int (if p.1 = k then (p.1, v) else p).2)
    by_cases c : p.1 = k
    · rw [if_pos c, if_pos c]
    · rw [if_neg c, if_neg c]
  · rw [List.map_append]
    rfl
theorem put_keys (l : List (Int × Int)) (k v : Int) : (put l k v).map (·.1) = if l.any (fun p => decide (p.1 = k)) then l.map (·.1) else l.map (·.1) ++ [k] := by
  unfold put
  split
  · rw [List.map_map]
    apply List.map_congr_left
    intro p _
    show (if p.1 = k then (p.1, v) else p).1 = p.1
    split <;> rfl
  · rw [List.map_append]
    rfl
theorem Lead.put {b : Int} {l : List (Int × Int)} (h : Lead b l) {k v : Int} (hk : 0 ≤ k) (hk2 : k < b) (hv : 0 ≤ v) (hv2 : v < b) : Lead b (put l k v) := by
  refine ⟨?_, fun p hp => ?_⟩
  · rw [put_keys]
    split
    · exact h.nd
    · rename_i c
      rw [List.nodup_append]
      refine ⟨h.nd, by simp, fun x hx y hy e => ?_⟩
      rw [List.mem_singleton] at hy
      obtain ⟨p, hp, rfl⟩ := List.mem_map.mp hx
      exact c (List.any_eq_true.mpr ⟨p, hp, decide_eq_true (e.trans hy)⟩)
  · unfold L3.put at hp
    split at hp
    · obtain ⟨q, hq, rfl⟩ := List.mem_map.mp hp
      have := h.bd q hq
      split
      · exact ⟨this.1, this.2.1, hv, hv2⟩
      · exact this
    · rcases List.mem_append.mp hp with e | e
      · exact h.bd p e
      · rw [List.mem_singleton] at e
        subst e
        exact ⟨hk, hk2, hv, hv2⟩
theorem Lead.nil (b : Int) : Lead b [] := ⟨List.nodup_nil, by simp⟩
theorem perm_ints {ys : List D} {ns : List Int} (h : ys.Perm (ns.map D.int)) : ∃ ms : List Int, ys = ms.map D.int ∧ ms.Perm ns := by
  let f : D → Int := fun d => match d with | .int i => i | _ => 0
  refine ⟨ys.map f, ?_, ?_⟩
  · rw [List.map_map]
    have : ∀ y ∈ ys, (D.int ∘ f) y = y := fun y hy => by
      obtain ⟨i, _, rfl⟩ := List.mem_map.mp (h.mem_iff.mp hy)
      rfl
    rw [List.map_congr_left this]
    simp
  · have := h.map f
    rw [List.map_map] at this
    have e : (f ∘ D.int) = id := rfl
    rw [e, List.map_id] at this
    exact this
theorem cutD_map {α β : Type} (f : α → β) (xs : List α) (lo hi : Option Int) : cutD (xs.map f) lo hi = (cutD xs lo hi).map f := by
  unfold cutD
  rw [List.length_map, List.map_take, List.map_drop]
theorem cutD_mem {α : Type} {xs : List α} {lo hi : Option Int} {x : α} (h : x ∈ cutD xs lo hi) : x ∈ xs := List.mem_of_mem_drop (List.mem_of_mem_take h)
theorem cutD_len {α : Type} {xs : List α} {lo hi : Option Int} : (cutD xs lo hi).length ≤ xs.length := by
  unfold cutD
  rw [List.length_take, List.length_drop]
  omega
theorem Dk_ints (ns : List Int) (n : Nat) : ∀ d ∈ ns.map D.int, Dk n d := fun d hd => by
  obtain ⟨i, _, rfl⟩ := List.mem_map.mp hd
  exact .int _ i
theorem atI_prev {rs : List Int} {i : Nat} (hi : i < rs.length) : ∃ v, atI (rs.map D.int) ((i : Int) - 1) = some (.int v) ∧ v ∈ rs := by
  cases i with
  | zero =>
    have hne : rs ≠ [] := fun e => by rw [e] at hi; cases hi
    refine ⟨rs.getLast hne, ?_, List.getLast_mem hne⟩
    have e : rs.map D.int = rs.dropLast.map D.int ++ [D.int (rs.getLast hne)] := by
      rw [← List.map_singleton, ← List.map_append, List.dropLast_concat_getLast]
    rw [e]
    exact atI_last _ _
  | succ i =>
    have h : i < rs.length := by omega
    refine ⟨rs[i], ?_, List.getElem_mem h⟩
    rw [show ((i + 1 : Nat) : Int) - 1 = (i : Nat) by omega]
    exact atI_nat (by rw [List.getElem?_map, List.getElem?_eq_getElem h]; rfl)
def sp__law_lead : Spec := fun sa ds Kd _ => ∃ a b, sa = some a ∧ ds = [.ref a, .int b] ∧ 1 ≤ b ∧ b ≤ 10 ∧ ∀ l, Lead b l → Kd (leadD l)
abbrev N__law_lead : List Str := ["_law_state", "_law_boxes_here", "_law_known", "_law_often", "_law_box", "_law_around", "_law_cut", "_law_ring", "_law_k", "_law_goal"]
abbrev ps__law_lead : List Str := ["_law_state", "_law_boxes_here"]
def m__law_lead (sa : Option Addr) : MSt :=
  (mSeq (mSetD 2)
  (mSeq (mSet 3 (m2 addD (mC (.int 1)) (mCallU sa sp__law_drawn (aCons (mVar 0) (aCons (mC (.int 3)) aNil)))))
  (mSeq (mFor (.nm 4) (mRange (aCons (mVar 1) aNil)) (mIfS (mB (m2 (eqE false) (mCallU sa sp__law_drawn (aCons (mVar 0) (aCons (mVar 3) aNil))) (mC (.int 0)))) (mSetK 2 (mVar 4) (mCallU sa sp__law_drawn (aCons (mVar 0) (aCons (mVar 1) aNil)))) mNext))
  (mSeq (mIfS (mB (m2 (eqE false) (mCallU sa sp__law_drawn (aCons (mVar 0) (aCons (mC (.int 2)) aNil))) (mC (.int 1)))) (mSeq (mSet 5 (mCallU sa sp__law_order (aCons (mVar 0) (aCons (mListRange (mVar 1)) aNil))))
    (mSeq (mSet 5 (mSl slD (mVar 5) oNone (oSome (mCallU sa sp__law_drawn (aCons (mVar 0) (aCons (m2 addD (mVar 1) (mC (.int 1))) aNil))))))
    (mSeq (mIfS (mB (m2 (eqE false) (mCallU sa sp__law_drawn (aCons (mVar 0) (aCons (mC (.int 2)) aNil))) (mC (.int 1)))) (mSetD 2) mNext)
    (mSeq (mSet 6 (mCallU sa sp__law_drawn (aCons (mVar 0) (aCons (m2 addD (mCall lenD (aCons (mVar 5) aNil)) (mC (.int 1))) aNil))))
    (mFor (.nm 7) (mIter (mLst (aCons (mSl slD (mVar 5) oNone (oSome (mVar 6))) (aCons (mSl slD (mVar 5) (oSome (mVar 6)) oNone) aNil)))) (mFor (.nm 8) (mRange (aCons (mCall lenD (aCons (mVar 7) aNil)) aNil)) (mSetK 2 (m2 ixD (mVar 7) (mVar 8)) (m2 ixD (mVar 7) (m2 subD (mVar 8) (mC (.int 1))))))))))) mNext)
  (mFrzD 2 (mRet (mLc (.nm 9) [9] (mIter (mCallU sa sp__law_order (aCons (mVar 0) (aCons (mCall sortedD (aCons (mVar 2) aNil)) aNil)))) tYesM (mTup (aCons (mVar 9) (aCons (m2 getK (mVar 2) (mVar 9)) aNil))))))))))
theorem pu__law_lead (sa : Option Addr) (ds : List D) (Kd : D → Prop) (KX : Exn → Prop) (hl : ds.length = 2) (h : sp__law_lead sa ds Kd KX) : m__law_lead sa (startS N__law_lead.length ds) { nx := fun _ => false = false ∧ Kd .non, rt := Kd, ex := KX } := by
  obtain ⟨a, b, rfl, rfl, b1, b2, k⟩ := h
  -- what holds throughout
  let I : EnvS → Prop := fun env => ∃ p l o e4 e5 e6 e7 e8 e9, env = [some (.sh (.ref a)), some (.sh (.int b)), some (.own p (.dic (kvD l))), some (.sh (.int o)), e4, e5, e6, e7, e8, e9] ∧ Lead b l ∧ 1 ≤ o ∧ o ≤ 3
  refine fun p => dr (by decide) (by decide) fun o o0 o1 => ?_
  refine ⟨by omega, by omega, forD_all I ⟨p, [], 1 + o, _, _, _, _, _, _, rfl, .nil b, by omega, by omega⟩ ?_ ?_⟩
  · rintro d hd env nx ⟨p, l, o, e4, e5, e6, e7, e8, e9, rfl, hL, o0, o1⟩ hn
    obtain ⟨i, hi, rfl⟩ := List.mem_map.mp hd
    have hi := List.mem_range.mp hi
    refine ⟨_, rfl, dr (by omega) (by omega) fun x x0 x1 => ?_⟩
    refine eqE_int (ite2 (fun _ => ?_) (fun _ => ?_))
    · refine dr (by omega) (by omega) fun v v0 v1 => ⟨rfl, ?_, ?_⟩
      · have := hL.len (by omega)
        exact sz_lt (by unfold kvD; rw [List.length_map]; omega)
      · exact hn _ ⟨p, put l i v, o, _, _, _, _, _, _, by rw [putD_kv]; rfl, hL.put (by omega) (by omega) v0 v1, o0, o1⟩
    · exact hn _ ⟨p, l, o, _, _, _, _, _, _, rfl, hL, o0, o1⟩
  · intro env hI
    -- the last statement, from I
    have fin : ∀ env, I env → mFrzD 2 (mRet (mLc (.nm 9) [9] (mIter (mCallU (some a) sp__law_order (aCons (mVar 0) (aCons (mCall sortedD (aCons (mVar 2) aNil)) aNil)))) tYesM (mTup (aCons (mVar 9) (aCons (m2 getK (mVar 2) (mVar 9)) aNil))))) env { nx := fun _ => false = false ∧ Kd .non, rt := Kd, ex := KX } := by
      rintro env ⟨p, l, o, e4, e5, e6, e7, e8, e9, rfl, hL, o0, o1⟩
      have hlen := hL.len (by omega)
      refine sortedD_dic ?_
      refine ⟨a, _, rfl, rfl, Dk_ints _ 5, ?_, fun ys hy => ?_⟩
      · rw [List.length_map, (sortI_perm _).length_eq, List.length_map]
        unfold kvD
        rw [List.length_map]
        omega
      · obtain ⟨ms, rfl, hm⟩ := perm_ints hy
        have hm := hm.trans (sortI_perm _)
        rw [keys_kv] at hm
        refine ⟨by rw [List.length_map, hm.length_eq, List.length_map]; omega, ?_⟩
        refine lcD_fm (fun d => match d with | .int g => some (pD (g, (look l g).getD 0)) | _ => none) (fun d hd K hK => ?_) ?_
        · obtain ⟨g, hg, rfl⟩ := List.mem_map.mp hd
          obtain ⟨v, hv⟩ := look_some (hm.mem_iff.mp hg)
          refine ⟨_, rfl, ?_⟩
          refine getK_of (d := .int v) (by rw [valD_kv, hv]; rfl) ⟨z2, ?_⟩
          have hK : K (some (pD (g, (look l g).getD 0))) := hK
          rw [hv] at hK
          exact hK
        · rw [fm_map D.int _ (fun g => some (g, (look l g).getD 0)) pD ms (fun g _ => rfl)]
          have e : (ms.filterMap fun g => some (g, (look l g).getD 0)) = ms.map fun g => (g, (look l g).getD 0) := by rw [List.filterMap_eq_map']
          rw [e]
          refine k _ ⟨?_, fun q hq => ?_⟩
          · rw [List.map_map]
            have e : ((fun p : Int × Int => p.1) ∘ fun g => (g, (look l g).getD 0)) = id := rfl
            rw [e, List.map_id]
            exact hm.nodup_iff.mpr hL.nd
          · obtain ⟨g, hg, rfl⟩ := List.mem_map.mp hq
            obtain ⟨v, hv⟩ := look_some (hm.mem_iff.mp hg)
            have := hL.bd _ (look_mem hv)
            rw [hv]
            exact this
    obtain ⟨p, l, o, e4, e5, e6, e7, e8, e9, rfl, hL, o0, o1⟩ := hI
    refine dr (by decide) (by decide) fun x x0 x1 => ?_
    refine eqE_int (ite2 (fun _ => ?_) (fun _ => ?_))
    · refine ⟨by omega, by omega, a, _, rfl, rfl, fun d hd => ?_, by rw [List.length_map, List.length_range]; omega, fun ys hy => ?_⟩
      · obtain ⟨i, _, rfl⟩ := List.mem_map.mp hd
        exact .int _ _
      · have e : (List.range b.toNat).map (fun i => D.int (i : Nat)) = ((List.range b.toNat).map fun i : Nat => (i : Int)).map D.int := by rw [List.map_map]; rfl
        rw [e] at hy
        obtain ⟨ms, rfl, hm⟩ := perm_ints hy
        have hb : ∀ x ∈ ms, 0 ≤ x ∧ x < b := fun x hx => by
          obtain ⟨i, hi, rfl⟩ := List.mem_map.mp (hm.mem_iff.mp hx)
          have hi := List.mem_range.mp hi
          omega
        have hml : ms.length ≤ 10 := by rw [hm.length_eq, List.length_map, List.length_range]; omega
        refine dr (by omega) (by omega) fun c c0 c1 => ?_
        have rest : ∀ (p : Addr) (l : List (Int × Int)), Lead b l → mSeq (mSet 6 (mCallU (some a) sp__law_drawn (aCons (mVar 0) (aCons (m2 addD (mCall lenD (aCons (mVar 5) aNil)) (mC (.int 1))) aNil))))
            (mFor (.nm 7) (mIter (mLst (aCons (mSl slD (mVar 5) oNone (oSome (mVar 6))) (aCons (mSl slD (mVar 5) (oSome (mVar 6)) oNone) aNil)))) (mFor (.nm 8) (mRange (aCons (mCall lenD (aCons (mVar 7) aNil)) aNil)) (mSetK 2 (m2 ixD (mVar 7) (mVar 8)) (m2 ixD (mVar 7) (m2 subD (mVar 8) (mC (.int 1))))))) [some (.sh (.ref a)), some (.sh (.int b)), some (.own p (.dic (kvD l))), some (.sh (.int o)), e4, some (.sh (.lst (cutD (ms.map D.int) none (some c)))), e6, e7, e8, e9]
            { nx := fun env' => mFrzD 2 (mRet (mLc (.nm 9) [9] (mIter (mCallU (some a) sp__law_order (aCons (mVar 0) (aCons (mCall sortedD (aCons (mVar 2) aNil)) aNil)))) tYesM (mTup (aCons (mVar 9) (aCons (m2 getK (mVar 2) (mVar 9)) aNil))))) env' { nx := fun _ => false = false ∧ Kd .non, rt := Kd, ex := KX }, rt := Kd, ex := KX } := by
          intro p l hL
          have hcl : (cutD (ms.map D.int) none (some c)).length ≤ 10 := Nat.le_trans cutD_len (by rw [List.length_map]; exact hml)
          refine dr (by omega) (by omega) fun z z0 z1 => ⟨z2, ?_⟩
          refine forD_all I ⟨p, l, o, _, _, _, _, _, _, rfl, hL, o0, o1⟩ ?_ fun env hI => fin env hI
          rintro d hd env nx ⟨p, l, o, e4, e5, e6, e7, e8, e9, rfl, hL, o0, o1⟩ hn
          obtain ⟨rs, rfl, hrs, hrl⟩ : ∃ rs : List Int, d = .lst (rs.map D.int) ∧ (∀ x ∈ rs, 0 ≤ x ∧ x < b) ∧ rs.length ≤ 10 := by
            have hd : d = .lst (cutD (cutD (ms.map D.int) none (some c)) none (some z)) ∨ d = .lst (cutD (cutD (ms.map D.int) none (some c)) (some z) none) := by simpa using hd
            rcases hd with rfl | rfl
            · exact ⟨cutD (cutD ms none (some c)) none (some z), by rw [cutD_map, cutD_map], fun x hx => hb x (cutD_mem (cutD_mem hx)), Nat.le_trans cutD_len (Nat.le_trans cutD_len hml)⟩
            · exact ⟨cutD (cutD ms none (some c)) (some z) none, by rw [cutD_map, cutD_map], fun x hx => hb x (cutD_mem (cutD_mem hx)), Nat.le_trans cutD_len (Nat.le_trans cutD_len hml)⟩
          refine ⟨_, rfl, ?_⟩
          by_cases hr : rs.length ≤ 10
          · refine ⟨by rw [List.length_map]; omega, by rw [List.length_map]; omega, forD_all (fun env => ∃ p l e8 e9, env = [some (.sh (.ref a)), some (.sh (.int b)), some (.own p (.dic (kvD l))), some (.sh (.int o)), e4, e5, e6, some (.sh (.lst (rs.map D.int))), e8, e9] ∧ Lead b l) ⟨p, l, _, _, rfl, hL⟩ ?_ ?_⟩
            · rintro d hd env nx2 ⟨p, l, e8, e9, rfl, hL⟩ hn2
              obtain ⟨i, hi, rfl⟩ := List.mem_map.mp hd
              have hi := List.mem_range.mp hi
              rw [List.length_map] at hi
              have hi : i < rs.length := by omega
              obtain ⟨v, hv, hvm⟩ : ∃ v, atI (rs.map D.int) ((i : Int) - 1) = some (.int v) ∧ v ∈ rs := atI_prev hi
              refine ⟨_, rfl, ?_⟩
              refine ixD_lst hv ?_
              refine ⟨rfl, ?_⟩
              refine ixD_lst (atI_nat (show (rs.map D.int)[i]? = some (.int rs[i]) by rw [List.getElem?_map, List.getElem?_eq_getElem hi]; rfl)) ?_
              refine ⟨?_, ?_⟩
              · have := hL.len (by omega)
                exact sz_lt (by unfold kvD; rw [List.length_map]; omega)
              · have h1 := hrs _ (List.getElem_mem hi)
                have h2 := hrs _ hvm
                exact hn2 _ ⟨p, put l rs[i] v, _, _, by rw [putD_kv]; rfl, hL.put h1.1 h1.2 h2.1 h2.2⟩
            · rintro env ⟨p, l, e8, e9, rfl, hL⟩
              exact hn _ ⟨p, l, o, _, _, _, _, _, _, rfl, hL, o0, o1⟩
          · exact absurd hrl hr
        refine dr (by decide) (by decide) fun y y0 y1 => ?_
        refine eqE_int (ite2 (fun _ => fun p => rest p [] (.nil b)) (fun _ => rest p l hL))
    · exact fin _ ⟨p, l, o, _, _, _, _, _, _, rfl, hL, o0, o1⟩
end L3
/-! P1b: comparing, asking for leads -/
namespace L3
open PySem PySem.Spec PyProof.Rows L2
theorem ifn {c : Prop} [Decidable c] {A B : Prop} (h : ¬c) (k : B) : if c then A else B := by rw [if_neg h]; exact k
theorem ifp {c : Prop} [Decidable c] {A B : Prop} (h : c) (k : A) : if c then A else B := by rw [if_pos h]; exact k
/-! ### _law_same: of one and the same -/
inductive Ds : Nat → D → Prop
  | non (n) : Ds n .non
  | bl (n b) : Ds n (.bl b)
  | int (n i) : Ds n (.int i)
  | str (n x) : PyData.strOk x = true → Ds n (.str x)
  | lst (n ds) : ds.length ≤ 100000 → (∀ d ∈ ds, Ds n d) → Ds (n + 1) (.lst ds)
  | tup (n ds) : ds.length ≤ 100000 → (∀ d ∈ ds, Ds n d) → Ds (n + 1) (.tup ds)
theorem Ds.dk {n : Nat} {d : D} (h : Ds n d) : Dk n d := by
  induction h with
  | non n => exact .non _
  | bl n b => exact .bl _ b
  | int n i => exact .int _ i
  | str n x h => exact .str _ x h
  | lst n ds _ h ih => exact .lst _ _ ih
  | tup n ds _ h ih => exact .tup _ _ ih
def sp__law_same (m : Nat) : Spec := fun _ ds Kd _ => m ≤ 20 ∧ ∃ d j, j + 1 = m ∧ ds = [d, d] ∧ Ds j d ∧ Kd (.bl true)
abbrev N__law_same : List Str := ["_law_found", "_law_due", "_law_k"]
abbrev ps__law_same : List Str := ["_law_found", "_law_due"]
def m__law_same (m : Nat) (sa : Option Addr) : MSt :=
  (mSeq (mIfS (mB (mIsI2 "tuple" "list" (mVar 1))) (mSeq (mIfS (mOr (mNot (mB (mIsI2 "tuple" "list" (mVar 0)))) (mB (m2 (eqE true) (mIsI "list" (mVar 0)) (mIsI "list" (mVar 1))))) (mRet (mC (.bl false))) mNext)
    (mSeq (mIfS (mB (m2 (eqE true) (mCall lenD (aCons (mVar 0) aNil)) (mCall lenD (aCons (mVar 1) aNil)))) (mRet (mC (.bl false))) mNext)
    (mRet (m2 (eqE false) (mLc (.nm 2) [2] (mRange (aCons (mCall lenD (aCons (mVar 1) aNil)) aNil)) (mNot (mB (mCallU sa (sp__law_same m) (aCons (m2 ixD (mVar 0) (mVar 2)) (aCons (m2 ixD (mVar 1) (mVar 2)) aNil))))) (mVar 2)) (mLst aNil))))) mNext)
  (mSeq (mIfS (mB (m2 (isND false) (mVar 1) (mC .non))) (mRet (m2 (isND false) (mVar 0) (mC .non))) mNext)
  (mSeq (mIfS (mB (mIsI "str" (mVar 1))) (mRet (mAndV (mIsI "str" (mVar 0)) (m2 (eqE false) (mVar 0) (mVar 1)))) mNext)
  (mSeq (mIfS (mOr (mB (mIsI "bool" (mVar 1))) (mB (mIsI "bool" (mVar 0)))) (mRet (mAndV (mIsI "bool" (mVar 1)) (mAndV (mIsI "bool" (mVar 0)) (m2 (eqE false) (mVar 0) (mVar 1))))) mNext)
  (mRet (mAndV (mIsI "int" (mVar 0)) (m2 (eqE false) (mVar 0) (mVar 1))))))))
theorem ty_lst_t (xs : List D) : isTy "tuple" (.lst xs) = some false := by rfl
theorem ty_lst_l (xs : List D) : isTy "list" (.lst xs) = some true := by rfl
theorem ty_tup_t (xs : List D) : isTy "tuple" (.tup xs) = some true := by rfl
theorem ty_tup_l (xs : List D) : isTy "list" (.tup xs) = some false := by rfl
theorem same_seq (m : Nat) (sa : Option Addr) (d : D) (xs : List D) (Kd : D → Prop) (KX : Exn → Prop) (ix : ∀ (i : Int) (e : D) (K : D → Prop), atI xs i = some e → K e → ixD d (.int i) K) (hn : xs.length ≤ 100000) (hm : m ≤ 20) (h : ∀ e ∈ xs, ∃ j, j + 1 = m ∧ Ds j e) (k : Kd (.bl true)) :
    lcD (.nm 2) (mNot (mB (mCallU sa (sp__law_same m) (aCons (m2 ixD (mVar 0) (mVar 2)) (aCons (m2 ixD (mVar 1) (mVar 2)) aNil))))) (mVar 2) [some d, some d, none] ((List.range xs.length).map fun i => D.int (i : Nat)) (fun r => ([] : List D).length ≤ sizeLine ∧ eqE false (.lst r) (.lst []) Kd) := by
  refine lcD_fm (fun _ => none) (fun e he K hK => ?_) ?_
  · obtain ⟨i, hi, rfl⟩ := List.mem_map.mp he
    have hi := List.mem_range.mp hi
    refine ⟨_, rfl, ?_⟩
    have hat : atI xs (i : Int) = some xs[i] := atI_nat (List.getElem?_eq_getElem hi)
    refine ix _ _ _ hat ?_
    refine ix _ _ _ hat ?_
    obtain ⟨j, hj, hd⟩ := h _ (List.getElem_mem hi)
    exact ⟨hm, _, j, hj, rfl, hd, hK⟩
  · have e : (((List.range xs.length).map fun i : Nat => D.int (i : Int)).filterMap fun _ => (none : Option D)) = [] := by
      induction ((List.range xs.length).map fun i : Nat => D.int (i : Int)) with
      | nil => rfl
      | cons a l ih => rw [List.filterMap_cons]; exact ih
    rw [e]
    exact ⟨Nat.zero_le _, eqE_nil (n := 1) (.lst _ _ (by simp)) (by decide) k⟩
theorem pu__law_same (m : Nat) (sa : Option Addr) (ds : List D) (Kd : D → Prop) (KX : Exn → Prop) (hl : ds.length = 2) (h : sp__law_same (m + 1) sa ds Kd KX) : m__law_same m sa (startS N__law_same.length ds) { nx := fun _ => false = false ∧ Kd .non, rt := Kd, ex := KX } := by
  obtain ⟨hm, d, j, hj, rfl, hd, k⟩ := h
  have ej : j = m := by omega
  subst ej
  cases hd with
  | non _ =>
    refine isi2D_go (b := false) (c := false) rfl rfl ?_
    exact ⟨rfl, ⟨rfl, k⟩⟩
  | bl _ b =>
    refine isi2D_go (b := false) (c := false) rfl rfl ?_
    refine ⟨rfl, isiD_go (b := false) rfl ?_⟩
    refine isiD_go (b := true) rfl ?_
    refine isiD_go (b := true) rfl ?_
    refine isiD_go (b := true) rfl ?_
    refine eqE_refl (n := 0) (.bl _ _) (by decide) k
  | int _ i =>
    refine isi2D_go (b := false) (c := false) rfl rfl ?_
    refine ⟨rfl, isiD_go (b := false) rfl ?_⟩
    refine isiD_go (b := false) rfl ?_
    refine isiD_go (b := false) rfl ?_
    refine isiD_go (b := true) rfl ?_
    refine eqE_refl (n := 0) (.int _ _) (by decide) k
  | str _ x hx =>
    refine isi2D_go (b := false) (c := false) rfl rfl ?_
    refine ⟨rfl, isiD_go (b := true) rfl ?_⟩
    refine isiD_go (b := true) rfl ?_
    refine eqE_refl (n := 0) (.str _ _ hx) (by decide) k
  | lst n xs hn hx =>
    refine isi2D_go (ty_lst_t _) (ty_lst_l _) ?_
    refine isi2D_go (ty_lst_t _) (ty_lst_l _) ?_
    refine isiD_go (ty_lst_l _) (isiD_go (ty_lst_l _) ?_)
    refine eqE_refl (n := 0) (.bl _ _) (by decide) ?_
    refine eqE_refl (n := 0) (.int _ _) (by decide) ?_
    refine ⟨by omega, by omega, by rw [List.length_map, List.length_range]; omega, ?_⟩
    exact same_seq _ sa (.lst xs) xs Kd KX (fun _ _ _ => ixD_lst) hn (by omega) (fun e he => ⟨n, rfl, hx e he⟩) k
  | tup n xs hn hx =>
    refine isi2D_go (ty_tup_t _) (ty_tup_l _) ?_
    refine isi2D_go (ty_tup_t _) (ty_tup_l _) ?_
    refine isiD_go (ty_tup_l _) (isiD_go (ty_tup_l _) ?_)
    refine eqE_refl (n := 0) (.bl _ _) (by decide) ?_
    refine eqE_refl (n := 0) (.int _ _) (by decide) ?_
    refine ⟨by omega, by omega, by rw [List.length_map, List.length_range]; omega, ?_⟩
    exact same_seq _ sa (.tup xs) xs Kd KX (fun _ _ _ => ixD_tup) hn (by omega) (fun e he => ⟨n, rfl, hx e he⟩) k
/-! ### _law_known, real_pairs -/
def kn (l : List (Int × Int)) : List (Int × Int) := l.filter fun p => !decide (p.1 = p.2)
theorem pairsOf_pD : ∀ l : List (Int × Int), pairsOf (l.map pD) = some (kvD l)
  | [] => rfl
  | p :: l => by
    show (pairsOf (l.map pD)).map _ = _
    rw [pairsOf_pD l]
    rfl
theorem merge_kv (l more : List (Int × Int)) (h : ((l ++ more).map (·.1)).Nodup) : mergeD (kvD l) (kvD more) = kvD (l ++ more) := by
  induction more generalizing l with
  | nil => rw [List.append_nil]; rfl
  | cons p more ih =>
    show mergeD (putD (kvD l) p.1 (.int p.2)) (kvD more) = _
    have e : put l p.1 p.2 = l ++ [p] := by
      unfold put
      rw [if_neg]
      intro c
      obtain ⟨q, hq, e⟩ := List.any_eq_true.mp c
      have e := of_decide_eq_true e
      rw [List.map_append, List.nodup_append] at h
      exact h.2.2 q.1 (List.mem_map.mpr ⟨q, hq, rfl⟩) p.1 (by simp) e
    rw [putD_kv, e, ih (l ++ [p]) (by rw [List.append_assoc]; exact h), List.append_assoc]
    rfl
theorem dict_lead {l : List (Int × Int)} {K : D → Prop} (h : (l.map (·.1)).Nodup) (k : K (.dic (kvD l))) : dictD [leadD l] K := by
  unfold dictD
  show (match pairsOf (l.map pD) with | some kvs => K (.dic (mergeD [] kvs)) | none => False)
  rw [pairsOf_pD]
  have e := merge_kv [] l h
  rw [List.nil_append] at e
  show K (.dic (mergeD (kvD []) (kvD l)))
  rw [e]
  exact k
theorem Lead.kn {b : Int} {l : List (Int × Int)} (h : Lead b l) : Lead b (kn l) := ⟨(List.filter_sublist.map _).nodup h.nd, fun p hp => h.bd p (List.mem_filter.mp hp).1⟩
theorem fm_kn (l : List (Int × Int)) : (l.filterMap fun p => if p.1 = p.2 then none else some p) = kn l := by
  induction l with
  | nil => rfl
  | cons p l ih =>
    unfold kn at ih ⊢
    rw [List.filterMap_cons, List.filter_cons]
    by_cases c : p.1 = p.2
    · simp only [c, if_true, decide_true, Bool.not_true, Bool.false_eq_true, if_false]
      exact ih
    · simp only [c, if_false, decide_false, Bool.not_false, if_true]
      rw [ih]
def sp__law_known : Spec := fun _ ds Kd _ => ∃ b l, ds = [leadD l] ∧ Lead b l ∧ 0 ≤ b ∧ b ≤ 10 ∧ Kd (.dic (kvD (kn l)))
abbrev N__law_known : List Str := ["_law_lead_here", "_law_pair"]
abbrev ps__law_known : List Str := ["_law_lead_here"]
def m__law_known (sa : Option Addr) : MSt :=
  (mRet (mCall dictD (aCons (mLc (.nm 1) [1] (mIter (mVar 0)) (mB (m2 (eqE true) (m2 ixD (mVar 1) (mC (.int 0))) (m2 ixD (mVar 1) (mC (.int 1))))) (mVar 1)) aNil)))
theorem pu__law_known (sa : Option Addr) (ds : List D) (Kd : D → Prop) (KX : Exn → Prop) (hl : ds.length = 1) (h : sp__law_known sa ds Kd KX) : m__law_known sa (startS N__law_known.length ds) { nx := fun _ => false = false ∧ Kd .non, rt := Kd, ex := KX } := by
  obtain ⟨b, l, rfl, hL, b0, b1, k⟩ := h
  have hlen := hL.len b0
  refine ⟨by rw [List.length_map]; omega, lcD_fm (fun d => match d with | .tup [.int g, .int s] => if g = s then none else some (pD (g, s)) | _ => none) (fun d hd K hK => ?_) ?_⟩
  · obtain ⟨p, hp, rfl⟩ := List.mem_map.mp hd
    refine ⟨_, rfl, ixD_tup (d := .int p.1) rfl (ixD_tup (d := .int p.2) rfl (eqE_int ?_))⟩
    have hK : K (if p.1 = p.2 then none else some (pD (p.1, p.2))) := hK
    by_cases c : p.1 = p.2
    · rw [if_pos c] at hK
      rw [decide_eq_true c]
      exact hK
    · rw [if_neg c] at hK
      rw [decide_eq_false c]
      exact hK
  · rw [fm_map pD _ (fun p => if p.1 = p.2 then none else some p) pD l (fun p _ => by show (if p.1 = p.2 then none else some (pD (p.1, p.2))) = _; split <;> rfl), fm_kn]
    exact dict_lead hL.kn.nd k
def sp_real_pairs : Spec := fun _ ds Kd _ => ∃ b l, ds = [leadD l] ∧ Lead b l ∧ 0 ≤ b ∧ b ≤ 10 ∧ Kd (.dic (kvD (kn l)))
abbrev N_real_pairs : List Str := ["lead", "goal", "source"]
abbrev ps_real_pairs : List Str := ["lead"]
def m_real_pairs (sa : Option Addr) : MSt :=
  (mRet (mCall dictD (aCons (mLc (.tp [1, 2]) [1, 2] (mIter (mVar 0)) (mB (m2 (eqE true) (mVar 1) (mVar 2))) (mTup (aCons (mVar 1) (aCons (mVar 2) aNil)))) aNil)))
theorem pu_real_pairs (sa : Option Addr) (ds : List D) (Kd : D → Prop) (KX : Exn → Prop) (hl : ds.length = 1) (h : sp_real_pairs sa ds Kd KX) : m_real_pairs sa (startS N_real_pairs.length ds) { nx := fun _ => false = false ∧ Kd .non, rt := Kd, ex := KX } := by
  obtain ⟨b, l, rfl, hL, b0, b1, k⟩ := h
  have hlen := hL.len b0
  refine ⟨by rw [List.length_map]; omega, lcD_fm (fun d => match d with | .tup [.int g, .int s] => if g = s then none else some (pD (g, s)) | _ => none) (fun d hd K hK => ?_) ?_⟩
  · obtain ⟨p, hp, rfl⟩ := List.mem_map.mp hd
    refine ⟨_, rfl, eqE_int ?_⟩
    have hK : K (if p.1 = p.2 then none else some (pD (p.1, p.2))) := hK
    by_cases c : p.1 = p.2
    · rw [if_pos c] at hK
      rw [decide_eq_true c]
      exact hK
    · rw [if_neg c] at hK
      rw [decide_eq_false c]
      exact ⟨z2, hK⟩
  · rw [fm_map pD _ (fun p => if p.1 = p.2 then none else some p) pD l (fun p _ => by show (if p.1 = p.2 then none else some (pD (p.1, p.2))) = _; split <;> rfl), fm_kn]
    exact dict_lead hL.kn.nd k
/-! ### is_box, need_boxes, need_lead: leads that are none, too -/
def sp_is_box : Spec := fun _ ds Kd _ => ∃ b x : Int, ds = [.int b, .int x] ∧ Kd (.bl (decide (0 ≤ x) && decide (x < b)))
abbrev N_is_box : List Str := ["boxes", "box"]
abbrev ps_is_box : List Str := ["boxes", "box"]
def m_is_box (sa : Option Addr) : MSt :=
  (mRet (m3 (ordD pLe) (ordD pLt) (mC (.int 0)) (mVar 1) (mVar 0)))
theorem pu_is_box (sa : Option Addr) (ds : List D) (Kd : D → Prop) (KX : Exn → Prop) (hl : ds.length = 2) (h : sp_is_box sa ds Kd KX) : m_is_box sa (startS N_is_box.length ds) { nx := fun _ => false = false ∧ Kd .non, rt := Kd, ex := KX } := by
  obtain ⟨b, x, rfl, k⟩ := h
  refine ite2 (fun c => ?_) (fun c => ?_)
  · rw [show decide (0 ≤ x) = true from c, Bool.true_and] at k
    exact k
  · rw [show decide (0 ≤ x) = false from Bool.eq_false_iff.mpr c, Bool.false_and] at k
    exact k
def sp_need_boxes : Spec := fun _ ds Kd KX => ∃ b : Int, ds = [.int b] ∧ (1 ≤ b ∧ b ≤ 10 → Kd .non) ∧ (¬ (1 ≤ b ∧ b ≤ 10) → KX ⟨"BadLead", none⟩)
abbrev N_need_boxes : List Str := ["boxes"]
abbrev ps_need_boxes : List Str := ["boxes"]
def m_need_boxes (sa : Option Addr) : MSt :=
  (mIfS (mNot (mB (m3 (ordD pLe) (ordD pLe) (mC (.int 1)) (mVar 0) (mC (.int 10))))) (mRaise "BadLead") mNext)
theorem pu_need_boxes (sa : Option Addr) (ds : List D) (Kd : D → Prop) (KX : Exn → Prop) (hl : ds.length = 1) (h : sp_need_boxes sa ds Kd KX) : m_need_boxes sa (startS N_need_boxes.length ds) { nx := fun _ => false = false ∧ Kd .non, rt := Kd, ex := KX } := by
  obtain ⟨b, rfl, k, kx⟩ := h
  refine ite2 (fun c0 => ?_) (fun c0 => ?_)
  · refine ite2 (fun c => ?_) (fun c => ?_)
    · have c : (!pLe b 10) = true := c
      refine kx fun h => ?_
      rw [show pLe b 10 = true from decide_eq_true h.2] at c
      cases c
    · have c : ¬ (!pLe b 10) = true := c
      refine ⟨rfl, k ⟨of_decide_eq_true c0, ?_⟩⟩
      cases q : pLe b 10 with
      | true => exact of_decide_eq_true q
      | false => rw [q] at c; exact absurd rfl c
  · exact kx fun h => c0 (decide_eq_true h.1)
/-- a lead that is handed, good or not -/
structure GoodL (b : Int) (l : List (Int × Int)) : Prop where
  b0 : 1 ≤ b
  b1 : b ≤ 10
  L : Lead b l
def sp_need_lead : Spec := fun _ ds Kd KX => ∃ b l, ds = [.int b, leadD l] ∧ l.length ≤ 1000 ∧ (GoodL b l → Kd .non) ∧ (¬ GoodL b l → KX ⟨"BadLead", none⟩)
abbrev N_need_lead : List Str := ["boxes", "lead", "goals", "goal", "source", "pair"]
abbrev ps_need_lead : List Str := ["boxes", "lead"]
def m_need_lead (sa : Option Addr) : MSt :=
  (mSeq (mExpr (mCallU sa sp_need_boxes (aCons (mVar 0) aNil)))
  (mSeq (mSet 2 (mLc (.tp [3, 4]) [3, 4] (mIter (mVar 1)) tYesM (mVar 3)))
  (mSeq (mIfS (mB (m2 (eqE true) (mLenSet (mVar 2)) (mCall lenD (aCons (mVar 2) aNil)))) (mRaise "BadLead") mNext)
  (mIfS (mB (m2 (eqE true) (mLc (.nm 5) [5] (mIter (mVar 1)) (mOr (mNot (mB (mCallU sa sp_is_box (aCons (mVar 0) (aCons (m2 ixD (mVar 5) (mC (.int 0))) aNil))))) (mNot (mB (mCallU sa sp_is_box (aCons (mVar 0) (aCons (m2 ixD (mVar 5) (mC (.int 1))) aNil)))))) (mVar 5)) (mLst aNil))) (mRaise "BadLead") mNext))))
def okP (b : Int) (p : Int × Int) : Bool := (decide (0 ≤ p.1) && decide (p.1 < b)) && (decide (0 ≤ p.2) && decide (p.2 < b))
theorem okP_iff {b : Int} {p : Int × Int} : okP b p = true ↔ 0 ≤ p.1 ∧ p.1 < b ∧ 0 ≤ p.2 ∧ p.2 < b := by
  unfold okP
  rw [Bool.and_eq_true, Bool.and_eq_true, Bool.and_eq_true, decide_eq_true_iff, decide_eq_true_iff, decide_eq_true_iff, decide_eq_true_iff]
  constructor
  · rintro ⟨⟨a, b⟩, c, d⟩; exact ⟨a, b, c, d⟩
  · rintro ⟨a, b, c, d⟩; exact ⟨⟨a, b⟩, c, d⟩
theorem fm_odd {α : Type} (f : α → D) (p : α → Bool) : ∀ l : List α, (l.filterMap fun x => if p x = true then none else some (f x)) = (l.filter fun x => !p x).map f
  | [] => rfl
  | x :: l => by
    have ih := fm_odd f p l
    rw [List.filterMap_cons, List.filter_cons]
    cases h : p x with
    | true => exact ih
    | false => exact congrArg (f x :: ·) ih
theorem fil_nil {α : Type} (f : α → D) (p : α → Bool) : ∀ l : List α, ((l.filter fun x => !p x).map f).isEmpty = l.all p
  | [] => rfl
  | x :: l => by
    rw [List.all_cons, List.filter_cons]
    cases h : p x with
    | true =>
      rw [if_neg (by decide), Bool.true_and]
      exact fil_nil f p l
    | false => rfl
theorem Dk_pairs (l : List (Int × Int)) : Dk 2 (.lst (l.map pD)) := .lst _ _ fun d hd => by
  obtain ⟨p, _, rfl⟩ := List.mem_map.mp hd
  exact .tup _ _ fun d hd => by
    rcases List.mem_cons.mp hd with e | e
    · rw [e]; exact .int _ _
    · rw [List.mem_singleton.mp e]; exact .int _ _
theorem pu_need_lead (sa : Option Addr) (ds : List D) (Kd : D → Prop) (KX : Exn → Prop) (hl : ds.length = 2) (h : sp_need_lead sa ds Kd KX) : m_need_lead sa (startS N_need_lead.length ds) { nx := fun _ => false = false ∧ Kd .non, rt := Kd, ex := KX } := by
  obtain ⟨b, l, rfl, hlen, k, kx⟩ := h
  refine ⟨b, rfl, fun hb => ?_, fun hb => kx fun g => hb ⟨g.b0, g.b1⟩⟩
  refine ⟨by rw [List.length_map]; omega, lcD_fmm pD (fun p => some (.int p.1)) rfl (fun p hp K hK => ⟨_, rfl, hK⟩) ?_⟩
  rw [List.filterMap_eq_map', show (l.map fun p => D.int p.1) = (l.map (·.1)).map D.int by rw [List.map_map]; rfl]
  show (match intsOf ((l.map (·.1)).map D.int) with | some ns => _ | none => False)
  rw [intsOf_ints]
  refine ⟨by rw [List.length_map]; omega, ?_⟩
  refine eqE_int (i := ((dlen (l.map (·.1)) : Nat) : Int)) (j := (((l.map (·.1)).map D.int).length : Nat)) ?_
  rw [List.length_map (f := D.int), dlen_dec]
  by_cases hn : (l.map (·.1)).Nodup
  rotate_left
  · rw [decide_eq_false hn]
    exact kx fun g => hn g.L.nd
  rw [decide_eq_true hn]
  refine ⟨by rw [List.length_map]; omega, lcD_fmm pD (fun p => if okP b p = true then none else some (pD p)) rfl (fun p hp K hK => ?_) ?_⟩
  · have e : okP b p = ((decide (0 ≤ p.1) && decide (p.1 < b)) && (decide (0 ≤ p.2) && decide (p.2 < b))) := rfl
    rw [e] at hK
    refine ⟨_, rfl, ixD_tup (d := .int p.1) rfl ⟨b, p.1, rfl, ?_⟩⟩
    generalize (decide (0 ≤ p.1) && decide (p.1 < b)) = c at hK ⊢
    cases c with
    | false => exact hK
    | true =>
      refine ixD_tup (d := .int p.2) rfl ⟨b, p.2, rfl, ?_⟩
      generalize (decide (0 ≤ p.2) && decide (p.2 < b)) = c at hK ⊢
      cases c with
      | false => exact hK
      | true => exact hK
  · have e : (l.filterMap fun p => if okP b p = true then none else some (pD p)) = (l.filter fun p => !okP b p).map pD := by
      exact fm_odd _ _ _
    rw [e]
    refine ⟨Nat.zero_le _, eqE_nil (n := 6) (.lst _ _ fun d hd => ?_) (by decide) ?_⟩
    · obtain ⟨p, _, rfl⟩ := List.mem_map.mp hd
      exact .tup 4 _ fun d hd => by
        rcases List.mem_cons.mp hd with e | e
        · rw [e]; exact .int _ _
        · rw [List.mem_singleton.mp e]; exact .int _ _
    · rw [fil_nil]
      cases q : l.all (okP b) with
      | true => exact ⟨rfl, k ⟨hb.1, hb.2, hn, fun p hp => okP_iff.mp (List.all_eq_true.mp q p hp)⟩⟩
      | false =>
        refine kx fun g => ?_
        rw [List.all_eq_true.mpr fun p hp => okP_iff.mpr (g.L.bd p hp)] at q
        cases q
end L3
/-! P3: single moves: what the code computes -/
namespace L3
open PySem PySem.Spec PyProof.Rows L2
def wl (n : Nat) (F : Int → Int) : List D := (List.range n).map fun i => .int (F (i : Nat))
theorem wl_len (n : Nat) (F : Int → Int) : (wl n F).length = n := by unfold wl; rw [List.length_map, List.length_range]
theorem wl_get {n i : Nat} (F : Int → Int) (h : i < n) : (wl n F)[i]? = some (.int (F i)) := by
  unfold wl
  rw [List.getElem?_map, List.getElem?_range h]
  rfl
theorem wl_at {n : Nat} {a : Int} (F : Int → Int) (h0 : 0 ≤ a) (h : a < n) : atI (wl n F) a = some (.int (F a)) := by
  have e : a = ((a.toNat : Nat) : Int) := by omega
  rw [e]
  exact atI_nat (wl_get F (by omega))
theorem wl_ix {n : Nat} {a : Int} (F : Int → Int) (h0 : 0 ≤ a) (h : a < n) : ixN (wl n F).length a = some a.toNat := by
  rw [wl_len]
  unfold ixN
  rw [if_pos h0, if_pos h]
theorem wl_set {n : Nat} {a v : Int} (F : Int → Int) (h0 : 0 ≤ a) (h : a < n) : (wl n F).set a.toNat (.int v) = wl n (fun x => if x = a then v else F x) := by
  apply List.ext_getElem?
  intro i
  rw [List.getElem?_set, wl_len]
  by_cases hi : i < n
  · rw [wl_get _ hi, wl_get _ hi]
    by_cases c : a.toNat = i
    · rw [if_pos c, if_pos (by omega), if_pos (by omega)]
    · rw [if_neg c, if_neg (by omega)]
  · have h1 : (wl n F)[i]? = none := List.getElem?_eq_none (by rw [wl_len]; omega)
    have h2 : (wl n (fun x => if x = a then v else F x))[i]? = none := List.getElem?_eq_none (by rw [wl_len]; omega)
    rw [h1, h2]
    split
    · split
      · omega
      · rfl
    · rfl
theorem wl_ext {n : Nat} {F G : Int → Int} (h : ∀ x, 0 ≤ x → x < n → F x = G x) : wl n F = wl n G := by
  unfold wl
  apply List.map_congr_left
  intro i hi
  have := List.mem_range.mp hi
  rw [h i (by omega) (by omega)]
theorem wl_of {r : List D} (h : ∀ y ∈ r, ∃ v, y = D.int v) : ∃ F, r = wl r.length F := by
  refine ⟨fun x => match r[x.toNat]? with | some (.int v) => v | _ => 0, ?_⟩
  apply List.ext_getElem?
  intro i
  by_cases hi : i < r.length
  · rw [wl_get _ hi, List.getElem?_eq_getElem hi]
    obtain ⟨v, hv⟩ := h _ (List.getElem_mem hi)
    rw [hv]
    rw [show ((i : Nat) : Int).toNat = i by omega, List.getElem?_eq_getElem hi, hv]
  · rw [List.getElem?_eq_none (by omega), List.getElem?_eq_none (by rw [wl_len]; omega)]
theorem wl_dk (n m : Nat) (F : Int → Int) : Dk (m + 1) (.lst (wl n F)) := .lst _ _ fun d hd => by
  obtain ⟨i, _, rfl⟩ := List.mem_map.mp hd
  exact .int _ _
/-! ### _law_worths -/
def sp__law_worths : Spec := fun sa ds Kd _ => ∃ a b, sa = some a ∧ ds = [.ref a, .int b] ∧ 0 ≤ b ∧ b ≤ 1000 ∧ ∀ F, Kd (.lst (wl b.toNat F))
abbrev N__law_worths : List Str := ["_law_state", "_law_boxes_here", "_law_far_here", "_law_box"]
abbrev ps__law_worths : List Str := ["_law_state", "_law_boxes_here"]
def m__law_worths (sa : Option Addr) : MSt :=
  (mSeq (mSet 2 (m2 ixD (mLst (aCons (mC (.int 5)) (aCons (mC (.int 100)) (aCons (m2 powD (mC (.int 10)) (mC (.int 29))) aNil)))) (mCallU sa sp__law_drawn (aCons (mVar 0) (aCons (mC (.int 3)) aNil)))))
  (mRet (mLc (.nm 3) [3] (mRange (aCons (mVar 1) aNil)) tYesM (m2 subD (mCallU sa sp__law_drawn (aCons (mVar 0) (aCons (mVar 2) aNil))) (m2 mulD (mCallU sa sp__law_drawn (aCons (mVar 0) (aCons (mC (.int 2)) aNil))) (mVar 2))))))
theorem pu__law_worths (sa : Option Addr) (ds : List D) (Kd : D → Prop) (KX : Exn → Prop) (hl : ds.length = 2) (h : sp__law_worths sa ds Kd KX) : m__law_worths sa (startS N__law_worths.length ds) { nx := fun _ => false = false ∧ Kd .non, rt := Kd, ex := KX } := by
  obtain ⟨a, b, rfl, rfl, b0, b1, k⟩ := h
  refine ⟨⟨by decide, by decide, by decide⟩, z3, dr (by decide) (by decide) fun i i0 i1 => ?_⟩
  have rest : ∀ far : Int, 0 < far → far ≤ 10 ^ 29 → mRet (mLc (.nm 3) [3] (mRange (aCons (mVar 1) aNil)) tYesM (m2 subD (mCallU (some a) sp__law_drawn (aCons (mVar 0) (aCons (mVar 2) aNil))) (m2 mulD (mCallU (some a) sp__law_drawn (aCons (mVar 0) (aCons (mC (.int 2)) aNil))) (mVar 2)))) [some (.sh (.ref a)), some (.sh (.int b)), some (.sh (.int far)), none] { nx := fun _ => false = false ∧ Kd .non, rt := Kd, ex := KX } := by
    intro far f0 f1
    refine ⟨by omega, by omega, by rw [List.length_map, List.length_range]; omega, lcD_any (fun y => ∃ v, y = D.int v) (fun d hd K hK => ?_) fun r hr hp => ?_⟩
    · obtain ⟨j, _, rfl⟩ := List.mem_map.mp hd
      refine ⟨_, rfl, dr f0 (Int.lt_of_le_of_lt f1 (by decide)) fun x x0 x1 => dr (by decide) (by decide) fun y y0 y1 => ⟨.inl ⟨by omega, by omega⟩, hK _ ⟨_, rfl⟩⟩⟩
    · obtain ⟨F, hF⟩ := wl_of hp
      rw [List.length_map, List.length_range] at hr
      show Kd (.lst r)
      rw [hF, hr]
      exact k F
  have hi : i = 0 ∨ i = 1 ∨ i = 2 := by omega
  rcases hi with rfl | rfl | rfl
  · exact ixD_lst rfl (rest 5 (by decide) (by decide))
  · exact ixD_lst rfl (rest 100 (by decide) (by decide))
  · exact ixD_lst rfl (rest (10 ^ 29) (by decide) (by decide))
end L3
/-! PF: _law_far -/
namespace L3
open PySem PySem.Spec PyProof.Rows L2
/-! ### _law_far -/
def sp__law_far : Spec := fun sa ds Kd _ => ∃ a m, sa = some a ∧ ds = [.ref a, .int m] ∧ ∀ v : Int, v < 0 ∨ m < v → Kd (.int v)
abbrev N__law_far : List Str := ["_law_state", "_law_most", "_law_far_here"]
abbrev ps__law_far : List Str := ["_law_state", "_law_most"]
def m__law_far (sa : Option Addr) : MSt :=
  (mSeq (mSet 2 (m2 ixD (mLst (aCons (mC (.int 1)) (aCons (mC (.int 20)) (aCons (m2 powD (mC (.int 10)) (mC (.int 29))) aNil)))) (mCallU sa sp__law_drawn (aCons (mVar 0) (aCons (mC (.int 3)) aNil)))))
  (mRet (m2 ixD (mLst (aCons (m2 subD (m2 subD (mC (.int 0)) (mC (.int 1))) (mCallU sa sp__law_drawn (aCons (mVar 0) (aCons (mVar 2) aNil)))) (aCons (m2 addD (m2 addD (mVar 1) (mC (.int 1))) (mCallU sa sp__law_drawn (aCons (mVar 0) (aCons (mVar 2) aNil)))) aNil))) (mCallU sa sp__law_drawn (aCons (mVar 0) (aCons (mC (.int 2)) aNil))))))
theorem pu__law_far (sa : Option Addr) (ds : List D) (Kd : D → Prop) (KX : Exn → Prop) (hl : ds.length = 2) (h : sp__law_far sa ds Kd KX) : m__law_far sa (startS N__law_far.length ds) { nx := fun _ => false = false ∧ Kd .non, rt := Kd, ex := KX } := by
  obtain ⟨a, m, rfl, rfl, k⟩ := h
  refine ⟨⟨by decide, by decide, by decide⟩, z3, dr (by decide) (by decide) fun i i0 i1 => ?_⟩
  have rest : ∀ far : Int, 0 < far → far ≤ 10 ^ 29 → mRet (m2 ixD (mLst (aCons (m2 subD (m2 subD (mC (.int 0)) (mC (.int 1))) (mCallU (some a) sp__law_drawn (aCons (mVar 0) (aCons (mVar 2) aNil)))) (aCons (m2 addD (m2 addD (mVar 1) (mC (.int 1))) (mCallU (some a) sp__law_drawn (aCons (mVar 0) (aCons (mVar 2) aNil)))) aNil))) (mCallU (some a) sp__law_drawn (aCons (mVar 0) (aCons (mC (.int 2)) aNil)))) [some (.sh (.ref a)), some (.sh (.int m)), some (.sh (.int far))] { nx := fun _ => false = false ∧ Kd .non, rt := Kd, ex := KX } := by
    intro far f0 f1
    have f2 : far < 1606938044258990275541962092341162602522202993782792835301376 := Int.lt_of_le_of_lt f1 (by decide)
    refine dr f0 f2 fun x x0 x1 => dr f0 f2 fun y y0 y1 => ⟨z2, dr (by decide) (by decide) fun j j0 j1 => ?_⟩
    have hj : j = 0 ∨ j = 1 := by omega
    rcases hj with rfl | rfl
    · exact ixD_lst rfl (k _ (.inl (by omega)))
    · exact ixD_lst rfl (k _ (.inr (by omega)))
  have hi : i = 0 ∨ i = 1 ∨ i = 2 := by omega
  rcases hi with rfl | rfl | rfl
  · exact ixD_lst rfl (rest 1 (by decide) (by decide))
  · exact ixD_lst rfl (rest 20 (by decide) (by decide))
  · exact ixD_lst rfl (rest (10 ^ 29) (by decide) (by decide))
end L3
set_option pp.maxSteps 400
/-! P01: leads at once, leads that are none -/
namespace L3
open PySem PySem.Spec PyProof.Rows L2
def src (l : List (Int × Int)) (x : Int) : Int := (look l x).getD x
def sp__law_at_once : Spec := fun _ ds Kd _ => ∃ n F l, ds = [.lst (wl n F), leadD l] ∧ n ≤ 1000 ∧ Lead n l ∧ Kd (.lst (wl n fun x => F (src l x)))
abbrev N__law_at_once : List Str := ["_law_worths_here", "_law_lead_here", "_law_known", "_law_box"]
abbrev ps__law_at_once : List Str := ["_law_worths_here", "_law_lead_here"]
def m__law_at_once (sa : Option Addr) : MSt :=
  (mSeq (mSet 2 (mCall dictD (aCons (mVar 1) aNil)))
  (mRet (mLc (.nm 3) [3] (mRange (aCons (mCall lenD (aCons (mVar 0) aNil)) aNil)) tYesM (m2 ixD (mVar 0) (mGetD (mVar 2) (mVar 3) (mVar 3))))))
theorem src_bd {b : Int} {l : List (Int × Int)} (L : Lead b l) {x : Int} (h0 : 0 ≤ x) (h : x < b) : 0 ≤ src l x ∧ src l x < b := by
  unfold src
  cases e : look l x with
  | none => exact ⟨h0, h⟩
  | some v =>
    have := L.bd _ (look_mem e)
    exact ⟨this.2.2.1, this.2.2.2⟩
theorem get_src (l : List (Int × Int)) (x : Int) : (valD (kvD l) x).getD (.int x) = .int (src l x) := by
  rw [valD_kv]
  unfold src
  cases look l x <;> rfl
theorem pu__law_at_once (sa : Option Addr) (ds : List D) (Kd : D → Prop) (KX : Exn → Prop) (hl : ds.length = 2) (h : sp__law_at_once sa ds Kd KX) : m__law_at_once sa (startS N__law_at_once.length ds) { nx := fun _ => false = false ∧ Kd .non, rt := Kd, ex := KX } := by
  obtain ⟨n, F, l, rfl, hn, L, k⟩ := h
  refine dict_lead L.nd ?_
  refine ⟨by rw [wl_len]; omega, by rw [wl_len]; omega, by rw [List.length_map, List.length_range, wl_len]; omega, ?_⟩
  rw [wl_len]
  refine lcD_fm (fun d => match d with | .int x => some (.int (F (src l x))) | _ => none) (fun d hd K hK => ?_) ?_
  · obtain ⟨i, hi, rfl⟩ := List.mem_map.mp hd
    have hi := List.mem_range.mp hi
    have hs := src_bd L (x := (i : Nat)) (by omega) (by omega)
    refine ⟨_, rfl, ⟨_, rfl⟩, ?_⟩
    show ixD (.lst (wl n F)) ((valD (kvD l) (i : Nat)).getD (.int (i : Nat))) _
    rw [get_src]
    exact ixD_lst (wl_at F hs.1 hs.2) hK
  · have e : ((List.range ((n : Int)).toNat).map fun i : Nat => D.int (i : Int)).filterMap (fun d => match d with | .int x => some (.int (F (src l x))) | _ => none) = wl n fun x => F (src l x) := by
      rw [List.filterMap_map]
      unfold wl
      rw [show ((n : Int)).toNat = n by omega, ← List.filterMap_eq_map']
      rfl
    rw [e]
    exact k
/-! ### at_once -/
theorem src_take {l : List (Int × Int)} (hn : (l.map (·.1)).Nodup) {i : Nat} {g s : Int} (h : l[i]? = some (g, s)) (x : Int) : src (l.take (i + 1)) x = if x = g then s else src (l.take i) x := by
  have hi : i < l.length := (List.getElem?_eq_some_iff.mp h).1
  have e : l.take (i + 1) = l.take i ++ [(g, s)] := by rw [List.take_add_one, h]; rfl
  unfold src
  rw [e]
  have ha : look (l.take i ++ [(g, s)]) x = (look (l.take i) x).or (look [(g, s)] x) := by
    unfold look
    rw [List.find?_append]
    cases (l.take i).find? fun p => decide (p.1 = x) <;> rfl
  rw [ha]
  by_cases c : x = g
  · rw [if_pos c]
    subst c
    have hno : look (l.take i) x = none := by
      cases q : look (l.take i) x with
      | none => rfl
      | some v =>
        have hm := look_mem q
        have hd : ((l.take i ++ [(x, s)]).map (·.1)).Nodup := by
          rw [← e]
          exact ((List.take_sublist _ _).map _).nodup hn
        rw [List.map_append, List.nodup_append] at hd
        exact absurd rfl (hd.2.2 x (List.mem_map.mpr ⟨_, hm, rfl⟩) x (by simp))
    rw [hno]
    show ((look [(x, s)] x)).getD x = s
    unfold look
    simp
  · rw [if_neg c]
    have hno : look [(g, s)] x = none := by
      unfold look
      rw [List.find?_cons, decide_eq_false (fun z => c z.symm)]
      rfl
    rw [hno, Option.or_none]
def sp_at_once : Spec := fun _ ds Kd KX => ∃ (n : Nat) (F : Int → Int) (l : List (Int × Int)), ds = [.lst (wl n F), leadD l] ∧ l.length ≤ 1000 ∧ (GoodL n l → Kd (.lst (wl n fun x => F (src l x)))) ∧ (¬ GoodL n l → KX ⟨"BadLead", none⟩)
abbrev N_at_once : List Str := ["worths", "lead", "found", "goal", "source"]
abbrev ps_at_once : List Str := ["worths", "lead"]
def m_at_once (sa : Option Addr) : MSt :=
  (mSeq (mExpr (mCallU sa sp_need_lead (aCons (mCall lenD (aCons (mVar 0) aNil)) (aCons (mVar 1) aNil))))
  (mSeq (mSetF 2 (mCall listD (aCons (mVar 0) aNil)))
  (mSeq (mFor (.tp [3, 4]) (mIter (mVar 1)) (mSetIx 2 (mVar 3) (m2 ixD (mVar 0) (mVar 4))))
  (mRetO 2))))
theorem pu_at_once (sa : Option Addr) (ds : List D) (Kd : D → Prop) (KX : Exn → Prop) (hl : ds.length = 2) (h : sp_at_once sa ds Kd KX) : m_at_once sa (startS N_at_once.length ds) { nx := fun _ => true = false ∧ Kd .non, rt := Kd, ex := KX } := by
  obtain ⟨n, F, l, rfl, hlen, k, kx⟩ := h
  refine ⟨((wl n F).length : Nat), l, rfl, hlen, fun g => ?_, fun g => kx (by rw [wl_len] at g; exact g)⟩
  rw [wl_len] at g
  have L := g.L
  have k := k g
  have h1 := g.b0
  have h2 := g.b1
  refine fun q => ?_
  refine forD_at (fun i env => ∃ e3 e4, env = [some (.sh (.lst (wl n F))), some (.sh (leadD l)), some (.own q (.lst (wl n fun x => F (src (l.take i) x)))), e3, e4]) ⟨_, _, rfl⟩ ?_ ?_
  · rintro i d env nx hi ⟨e3, e4, rfl⟩ hn
    rw [List.getElem?_map] at hi
    cases hm : l[i]? with
    | none => rw [hm] at hi; cases hi
    | some p =>
      rw [hm] at hi
      cases hi
      obtain ⟨g, s⟩ := p
      obtain ⟨g0, g1, s0, s1⟩ := L.bd _ (List.mem_of_getElem? hm)
      refine ⟨_, rfl, ixD_lst (wl_at F s0 s1) ⟨rfl, ?_⟩⟩
      show match ixN (wl n fun x => F (src (l.take i) x)).length g with | some j => _ | none => False
      rw [wl_ix _ g0 g1]
      refine hn _ ⟨some (.sh (.int g)), some (.sh (.int s)), ?_⟩
      have e : wl n (fun x => F (src (l.take (i + 1)) x)) = (wl n fun x => F (src (l.take i) x)).set g.toNat (.int (F s)) := by
        rw [wl_set _ g0 g1]
        refine wl_ext fun x _ _ => ?_
        show F (src (l.take (i + 1)) x) = if x = g then F s else F (src (l.take i) x)
        rw [src_take L.nd hm]
        split <;> rfl
      rw [e]
      rfl
  · rintro env ⟨e3, e4, rfl⟩
    rw [List.length_map, List.take_length]
    exact k
/-! ### all that is handed a lead that is none -/
def sp_rings : Spec := fun _ ds Kd KX => ∃ b l, ds = [.int b, leadD l] ∧ l.length ≤ 1000 ∧ ¬ GoodL b l ∧ KX ⟨"BadLead", none⟩
abbrev N_rings : List Str := ["boxes", "lead"]
abbrev ps_rings : List Str := ["boxes", "lead"]
def m_rings (sa : Option Addr) : MSt :=
  (mSeq (mExpr (mCallU sa sp_need_lead (aCons (mVar 0) (aCons (mVar 1) aNil))))
  mNever)
theorem pu_rings (sa : Option Addr) (ds : List D) (Kd : D → Prop) (KX : Exn → Prop) (hl : ds.length = 2) (h : sp_rings sa ds Kd KX) : m_rings sa (startS N_rings.length ds) { nx := fun _ => true = false ∧ Kd .non, rt := Kd, ex := KX } := by
  obtain ⟨b, l, rfl, hlen, g, kx⟩ := h
  exact ⟨b, l, rfl, hlen, fun h => absurd h g, fun _ => kx⟩
def sp_shut_rings : Spec := fun _ ds Kd KX => ∃ b l, ds = [.int b, leadD l] ∧ l.length ≤ 1000 ∧ ¬ GoodL b l ∧ KX ⟨"BadLead", none⟩
abbrev N_shut_rings : List Str := ["boxes", "lead"]
abbrev ps_shut_rings : List Str := ["boxes", "lead"]
def m_shut_rings (sa : Option Addr) : MSt :=
  (mSeq (mExpr (mCallU sa sp_need_lead (aCons (mVar 0) (aCons (mVar 1) aNil))))
  mNever)
theorem pu_shut_rings (sa : Option Addr) (ds : List D) (Kd : D → Prop) (KX : Exn → Prop) (hl : ds.length = 2) (h : sp_shut_rings sa ds Kd KX) : m_shut_rings sa (startS N_shut_rings.length ds) { nx := fun _ => true = false ∧ Kd .non, rt := Kd, ex := KX } := by
  obtain ⟨b, l, rfl, hlen, g, kx⟩ := h
  exact ⟨b, l, rfl, hlen, fun h => absurd h g, fun _ => kx⟩
def sp_does : Spec := fun _ ds Kd KX => ∃ b l d e, ds = [.int b, leadD l, d, e] ∧ l.length ≤ 1000 ∧ ¬ GoodL b l ∧ KX ⟨"BadLead", none⟩
abbrev N_does : List Str := ["boxes", "lead", "spares", "moves", "due", "found", "box"]
abbrev ps_does : List Str := ["boxes", "lead", "spares", "moves"]
def m_does (sa : Option Addr) : MSt :=
  (mSeq (mExpr (mCallU sa sp_need_lead (aCons (mVar 0) (aCons (mVar 1) aNil))))
  mNever)
theorem pu_does (sa : Option Addr) (ds : List D) (Kd : D → Prop) (KX : Exn → Prop) (hl : ds.length = 4) (h : sp_does sa ds Kd KX) : m_does sa (startS N_does.length ds) { nx := fun _ => false = false ∧ Kd .non, rt := Kd, ex := KX } := by
  obtain ⟨b, l, d, e, rfl, hlen, g, kx⟩ := h
  exact ⟨b, l, rfl, hlen, fun h => absurd h g, fun _ => kx⟩
def sp_by_copies : Spec := fun _ ds Kd KX => ∃ b l d, ds = [.int b, leadD l, d] ∧ l.length ≤ 1000 ∧ ¬ GoodL b l ∧ KX ⟨"BadLead", none⟩
abbrev N_by_copies : List Str := ["boxes", "lead", "spares", "known", "shut", "temp", "found", "ring", "every", "goal", "source"]
abbrev ps_by_copies : List Str := ["boxes", "lead", "spares"]
def m_by_copies (sa : Option Addr) : MSt :=
  (mSeq (mExpr (mCallU sa sp_need_lead (aCons (mVar 0) (aCons (mVar 1) aNil))))
  mNever)
theorem pu_by_copies (sa : Option Addr) (ds : List D) (Kd : D → Prop) (KX : Exn → Prop) (hl : ds.length = 3) (h : sp_by_copies sa ds Kd KX) : m_by_copies sa (startS N_by_copies.length ds) { nx := fun _ => true = false ∧ Kd .non, rt := Kd, ex := KX } := by
  obtain ⟨b, l, d, rfl, hlen, g, kx⟩ := h
  exact ⟨b, l, rfl, hlen, fun h => absurd h g, fun _ => kx⟩
def sp_by_swaps : Spec := fun _ ds Kd KX => ∃ b l, ds = [.int b, leadD l] ∧ l.length ≤ 1000 ∧ ¬ GoodL b l ∧ KX ⟨"BadLead", none⟩
abbrev N_by_swaps : List Str := ["boxes", "lead", "known", "every", "found", "ring", "box"]
abbrev ps_by_swaps : List Str := ["boxes", "lead"]
def m_by_swaps (sa : Option Addr) : MSt :=
  (mSeq (mExpr (mCallU sa sp_need_lead (aCons (mVar 0) (aCons (mVar 1) aNil))))
  mNever)
theorem pu_by_swaps (sa : Option Addr) (ds : List D) (Kd : D → Prop) (KX : Exn → Prop) (hl : ds.length = 2) (h : sp_by_swaps sa ds Kd KX) : m_by_swaps sa (startS N_by_swaps.length ds) { nx := fun _ => true = false ∧ Kd .non, rt := Kd, ex := KX } := by
  obtain ⟨b, l, rfl, hlen, g, kx⟩ := h
  exact ⟨b, l, rfl, hlen, fun h => absurd h g, fun _ => kx⟩
def sp_paper : Spec := fun _ ds Kd KX => ∃ b l, ds = [.int b, leadD l] ∧ l.length ≤ 1000 ∧ ¬ GoodL b l ∧ KX ⟨"BadLead", none⟩
abbrev N_paper : List Str := ["boxes", "lead", "known"]
abbrev ps_paper : List Str := ["boxes", "lead"]
def m_paper (sa : Option Addr) : MSt :=
  (mSeq (mExpr (mCallU sa sp_need_lead (aCons (mVar 0) (aCons (mVar 1) aNil))))
  mNever)
theorem pu_paper (sa : Option Addr) (ds : List D) (Kd : D → Prop) (KX : Exn → Prop) (hl : ds.length = 2) (h : sp_paper sa ds Kd KX) : m_paper sa (startS N_paper.length ds) { nx := fun _ => false = false ∧ Kd .non, rt := Kd, ex := KX } := by
  obtain ⟨b, l, rfl, hlen, g, kx⟩ := h
  exact ⟨b, l, rfl, hlen, fun h => absurd h g, fun _ => kx⟩
def sp_least : Spec := fun _ ds Kd KX => ∃ b l d, ds = [.int b, leadD l, d] ∧ l.length ≤ 1000 ∧ ¬ GoodL b l ∧ KX ⟨"BadLead", none⟩
abbrev N_least : List Str := ["boxes", "lead", "word", "goals", "shut", "every"]
abbrev ps_least : List Str := ["boxes", "lead", "word"]
def m_least (sa : Option Addr) : MSt :=
  (mSeq (mSetT (.tp [3, 4, 5]) (mCallU sa sp_paper (aCons (mVar 0) (aCons (mVar 1) aNil))))
  mNever)
theorem pu_least (sa : Option Addr) (ds : List D) (Kd : D → Prop) (KX : Exn → Prop) (hl : ds.length = 3) (h : sp_least sa ds Kd KX) : m_least sa (startS N_least.length ds) { nx := fun _ => false = false ∧ Kd .non, rt := Kd, ex := KX } := by
  obtain ⟨b, l, d, rfl, hlen, g, kx⟩ := h
  exact ⟨b, l, rfl, hlen, g, kx⟩
def sp_moved : Spec := fun _ ds Kd KX => ∃ (xs : List D) (d : D), ds = [.lst xs, d] ∧ ¬ (1 ≤ xs.length ∧ xs.length ≤ 10) ∧ KX ⟨"BadLead", none⟩
abbrev N_moved : List Str := ["worths", "moves"]
abbrev ps_moved : List Str := ["worths", "moves"]
def m_moved (sa : Option Addr) : MSt :=
  (mSeq (mExpr (mCallU sa sp_need_boxes (aCons (mCall lenD (aCons (mVar 0) aNil)) aNil)))
  mNever)
theorem pu_moved (sa : Option Addr) (ds : List D) (Kd : D → Prop) (KX : Exn → Prop) (hl : ds.length = 2) (h : sp_moved sa ds Kd KX) : m_moved sa (startS N_moved.length ds) { nx := fun _ => true = false ∧ Kd .non, rt := Kd, ex := KX } := by
  obtain ⟨xs, d, rfl, g, kx⟩ := h
  exact ⟨((xs.length : Nat) : Int), rfl, fun h => absurd ⟨by omega, by omega⟩ g, fun _ => kx⟩
end L3
set_option pp.maxSteps 400
/-! K01: the plain law -/
namespace L3
open PySem PySem.Spec PyProof.Rows L2
section
variable {X : Cx} {C : C3} {E : XK} {fr : Bool} {B : Hp}
/-- statements that are never met -/
theorem mss_never : ∀ sts : List Stmt, MSs X C E fr B sts mNever
  | [] => fun G0 => PSs.imp pss_nil fun En σ H ⟨env, G, Ks, er, hm, f⟩ => hm.elim
  | st :: r => fun G0 => PSs.imp (pss_cons ((ms_never (st := st) (C := C) (E := E) (fr := fr) (B := B)) G0) ((mss_never r) G0)) fun En σ H ⟨env, G, Ks, er, hm, f⟩ => hm.elim
end
def lamSDB (sc scope : Scope) (N : List Str) (a0 : Str) : Bool :=
  decide (scope.kind = .function) && !scope.isCoroutine && !scope.isGenerator && decide (scope.names.lookup a0 = some .local) && scope.names.all fun y => !decide (y.2 = .cell) && (!decide (y.2 = .local) || !decide (y.1 ∈ N)) && (!decide (y.2 = .free) || decide (sc.names.lookup y.1 = some .cell) || decide (sc.names.lookup y.1 = some .free))
theorem lamSD_by {sc scope : Scope} {N : List Str} {a0 : Str} (h : lamSDB sc scope N a0 = true) : LamSD sc scope N a0 := by
  unfold lamSDB at h
  simp only [Bool.and_eq_true, Bool.or_eq_true, Bool.not_eq_true', decide_eq_true_eq, decide_eq_false_iff_not, List.all_eq_true] at h
  obtain ⟨⟨⟨⟨h1, h2⟩, h3⟩, h4⟩, h5⟩ := h
  refine ⟨h1, h2, h3, fun y hy => ⟨(h5 y hy).1.1, fun e => ?_⟩, h4, fun y hy e => ?_⟩
  · rcases (h5 y hy).1.2 with z | z
    · exact absurd e z
    · exact z
  · rcases (h5 y hy).2 with (z | z) | z
    · exact absurd e z
    · exact .inl z
    · exact .inr z
theorem no__law_same : ∀ sa ds Kd KX, sp__law_same 0 sa ds Kd KX → False := fun sa ds Kd KX ⟨_, d, j, hj, _⟩ => by omega
def bodies01 (sa : Option Addr) : List MEt := [(mCallU sa sp_rings (aCons (mVar 0) (aCons (mVar 1) aNil))),
  (mCallU sa sp_shut_rings (aCons (mVar 0) (aCons (mVar 1) aNil))),
  (mCallU sa sp_does (aCons (mVar 0) (aCons (mVar 1) (aCons (mLst (aCons (mC (.int 99)) aNil)) (aCons (mLst (aCons (mTup aNil) aNil)) aNil))))),
  (mCallU sa sp_by_copies (aCons (mVar 0) (aCons (mVar 1) (aCons (mLst (aCons (mC (.int 99)) aNil)) aNil)))),
  (mCallU sa sp_by_swaps (aCons (mVar 0) (aCons (mVar 1) aNil))),
  (mCallU sa sp_paper (aCons (mVar 0) (aCons (mVar 1) aNil))),
  (mCallU sa sp_least (aCons (mVar 0) (aCons (mVar 1) (aCons (mC (.str "other")) aNil))))]
def lam01 (LD : List LamD) (sa : Option Addr) : List (LamD × MEt) := LD.zip (bodies01 sa)
abbrev N_law : List Str := ["_law_script", "_law_state", "_law_turn", "_law_boxes_here", "_law_lead_here", "_law_worths_here", "_law_handed", "_law_again", "_law_found", "_law_far_here", "_law_bad", "_law_work", "_law_odd", "_law_long"]
abbrev ps_law : List Str := ["_law_script"]
def m_law_k01 (LD : List LamD) (sa : Option Addr) : MSt :=
  (mSeq (mFor (.nm 2) (mRange (aCons (mC (.int 6)) aNil)) (mSeq (mSet 3 (mCallU sa sp__law_boxes (aCons (mVar 1) aNil)))
    (mSeq (mSet 4 (mCallU sa sp__law_lead (aCons (mVar 1) (aCons (mVar 3) aNil))))
    (mSeq (mSet 5 (mCallU sa sp__law_worths (aCons (mVar 1) (aCons (mVar 3) aNil))))
    (mSeq (mSet 6 (mTup (aCons (mCall listD (aCons (mVar 5) aNil)) (aCons (mCall listD (aCons (mVar 4) aNil)) aNil))))
    (mSeq (mFor (.nm 7) (mRange (aCons (mC (.int 2)) aNil)) (mSeq (mSetF 8 (mCallU sa sp_at_once (aCons (m2 ixD (mVar 6) (mC (.int 0))) (aCons (m2 ixD (mVar 6) (mC (.int 1))) aNil))))
      (mSeq (mIfS (mOr (mNot (mB (mCallU sa (sp__law_same 4) (aCons (mVar 8) (aCons (mCallU sa sp__law_at_once (aCons (mVar 5) (aCons (mVar 4) aNil))) aNil))))) (mB (m2 (eqE true) (mVar 6) (mTup (aCons (mVar 5) (aCons (mVar 4) aNil)))))) (mRet (mC (.bl false))) mNext)
      (mAppend 8 (mC (.int 0))))))
    (mSeq (mSet 9 (mCallU sa sp__law_far (aCons (mVar 1) (aCons (m2 subD (mVar 3) (mC (.int 1))) aNil))))
    (mSeq (mSet 10 (m2 addD (mVar 4) (mLst (aCons (m2 ixD (mLst (aCons (mTup (aCons (mVar 9) (aCons (mC (.int 0)) aNil))) (aCons (mTup (aCons (mCallU sa sp__law_drawn (aCons (mVar 1) (aCons (mVar 3) aNil))) (aCons (mVar 9) aNil))) (aCons (mTup (aCons (mVar 9) (aCons (mVar 9) aNil))) aNil)))) (mCallU sa sp__law_drawn (aCons (mVar 1) (aCons (mC (.int 3)) aNil)))) aNil))))
    (mSeq (mIfS (mAnd (mB (m2 (eqE true) (mVar 4) (mLst aNil))) (mB (m2 (eqE false) (mCallU sa sp__law_drawn (aCons (mVar 1) (aCons (mC (.int 2)) aNil))) (mC (.int 1))))) (mSet 10 (m2 addD (mVar 4) (mLst (aCons (mTup (aCons (m2 ixD (m2 ixD (mVar 4) (mCallU sa sp__law_drawn (aCons (mVar 1) (aCons (mCall lenD (aCons (mVar 4) aNil)) aNil)))) (mC (.int 0))) (aCons (mCallU sa sp__law_drawn (aCons (mVar 1) (aCons (mVar 3) aNil))) aNil))) aNil)))) mNext)
    (mSeq (mIfS (mB (m2 (eqE true) (mKindN (["BadLead"] : List Str) ([] : List Str) (mCallU sa sp_at_once (aCons (mVar 5) (aCons (mVar 10) aNil)))) (mC (.str "BadLead")))) (mRet (mC (.bl false))) mNext)
    (mSeq (mIfS (mB (m2 (eqE true) (mLc (.nm 11) [11] (mIter (mWorks LD (aCons (mVar 3) (aCons (mVar 10) aNil)))) (mB (m2 (eqE true) (mClo (lam01 LD sa) (["BadLead"] : List Str) 11) (mC (.str "BadLead")))) (mVar 11)) (mLst aNil))) (mRet (mC (.bl false))) mNext)
    (mSeq (mSet 12 (m2 ixD (mLst (aCons (mC (.int 0)) (aCons (mCallU sa sp__law_far (aCons (mVar 1) (aCons (mC (.int 10)) aNil))) aNil))) (mCallU sa sp__law_drawn (aCons (mVar 1) (aCons (mC (.int 2)) aNil)))))
    (mSeq (mIfS (mB (m2 (eqE true) (mLc (.nm 11) [11] (mIter (mWorks LD (aCons (mVar 12) (aCons (mLst aNil) aNil)))) (mB (m2 (eqE true) (mClo (lam01 LD sa) (["BadLead"] : List Str) 11) (mC (.str "BadLead")))) (mVar 11)) (mLst aNil))) (mRet (mC (.bl false))) mNext)
    (mSeq (mSet 13 (m2 ixD (mLst (aCons (mLst aNil) (aCons (m2 mulD (mVar 5) (mC (.int 11))) aNil))) (mCallU sa sp__law_drawn (aCons (mVar 1) (aCons (mC (.int 2)) aNil)))))
    (mIfS (mOr (mB (m2 (eqE true) (mKindN (["BadLead"] : List Str) ([] : List Str) (mCallU sa sp_at_once (aCons (mVar 13) (aCons (mLst aNil) aNil)))) (mC (.str "BadLead")))) (mB (m2 (eqE true) (mKindN (["BadLead"] : List Str) ([] : List Str) (mCallU sa sp_moved (aCons (mVar 13) (aCons (mLst aNil) aNil)))) (mC (.str "BadLead"))))) (mRet (mC (.bl false))) mNext)))))))))))))))
  (mRet (mC (.bl true))))
theorem zip_mem {α β : Type} : ∀ {l : List α} {m : List β}, l.length ≤ m.length → ∀ {a : α}, a ∈ l → ∃ b, (a, b) ∈ l.zip m
  | [], _, _, _, h => by cases h
  | x :: l, [], h, _, _ => by simp at h
  | x :: l, y :: m, h, a, ha => by
    rcases List.mem_cons.mp ha with e | ha
    · exact ⟨y, by rw [e]; exact List.mem_cons_self⟩
    · obtain ⟨b, hb⟩ := zip_mem (l := l) (m := m) (by simpa using h) ha
      exact ⟨b, List.mem_cons_of_mem _ hb⟩
theorem lead_pl (l : List (Int × Int)) : (leadD l).pl = true := by
  show D.pls (l.map pD) = true
  induction l with
  | nil => rfl
  | cons p l ih => exact ih
theorem z0 : 0 ≤ sizeLine := by decide
theorem bodies_bad {sa : Option Addr} {b : Int} {l : List (Int × Int)} (hl : l.length ≤ 1000) (g : ¬ GoodL b l) : ∀ m ∈ bodies01 sa, ∀ KX : Exn → Prop, KX ⟨"BadLead", none⟩ → m [some (.int b), some (leadD l)] (fun _ => False) KX := by
  intro m hm KX kx
  unfold bodies01 at hm
  simp only [List.mem_cons, List.mem_nil_iff, or_false] at hm
  rcases hm with rfl | rfl | rfl | rfl | rfl | rfl | rfl
  · exact ⟨b, l, rfl, hl, g, kx⟩
  · exact ⟨b, l, rfl, hl, g, kx⟩
  · exact ⟨z1, z0, z1, b, l, _, _, rfl, hl, g, kx⟩
  · exact ⟨z1, b, l, _, rfl, hl, g, kx⟩
  · exact ⟨b, l, rfl, hl, g, kx⟩
  · exact ⟨b, l, rfl, hl, g, kx⟩
  · exact ⟨b, l, _, rfl, hl, g, kx⟩
theorem clo_none {LD : List LamD} {sa : Option Addr} {b : Int} {l : List (Int × Int)} (hLD : LD.length = 7) (hl : l.length ≤ 1000) (g : ¬ GoodL b l) {env : EnvE} (hi : (env[11]?).isSome = true) : ∀ (Ls : List LamD), (∀ L ∈ Ls, L ∈ LD) → ∀ {K : List D → Prop}, K [] →
    lcD (.nm 11) (mB (m2 (eqE true) (mClo (lam01 LD sa) (["BadLead"] : List Str) 11) (mC (.str "BadLead")))) (mVar 11) env (Ls.map fun L => .clo L (.int b) (leadD l)) K
  | [], _, _, k => k
  | L :: Ls, h, K, k => by
    refine ⟨_, rfl, ?_⟩
    obtain ⟨m, hm⟩ := zip_mem (m := bodies01 sa) (by rw [hLD]; exact Nat.le_refl 7) (h L List.mem_cons_self)
    refine ⟨(L, m), hm, .int b, leadD l, get_set_self hi, rfl, lead_pl l, bodies_bad hl g m (List.of_mem_zip hm).2 _ ⟨rfl, List.mem_singleton.mpr rfl, ?_⟩⟩
    refine eqE_str ?_
    exact clo_none hLD hl g hi Ls (fun L' h' => h L' (List.mem_cons_of_mem _ h')) k
theorem twice_bad {n : Int} {l : List (Int × Int)} {g x : Int} (h : g ∈ l.map (·.1)) : ¬ GoodL n (l ++ [(g, x)]) := fun G => by
  have hn := G.L.nd
  rw [List.map_append, List.nodup_append] at hn
  exact hn.2.2 g h g (by simp) rfl
theorem far_bad {n : Int} {l : List (Int × Int)} {g x : Int} (h : (g < 0 ∨ n - 1 < g) ∨ (x < 0 ∨ n - 1 < x)) : ¬ GoodL n (l ++ [(g, x)]) := fun G => by
  have hn := G.L.bd (g, x) (List.mem_append_right _ (List.mem_singleton.mpr rfl))
  have h1 : 0 ≤ g ∧ g < n ∧ 0 ≤ x ∧ x < n := hn
  omega
theorem leadD_snoc (l : List (Int × Int)) (pr : Int × Int) : D.lst (l.map pD ++ [pD pr]) = leadD (l ++ [pr]) := by
  show _ = D.lst ((l ++ [pr]).map pD)
  rw [List.map_append]
  rfl
theorem eqE_leadN {neg : Bool} {l : List (Int × Int)} {K : D → Prop} (k : K (.bl (if neg then !l.isEmpty else l.isEmpty))) : eqE neg (leadD l) (.lst []) K := by
  refine eqE_nil (n := 6) (.lst _ _ fun d hd => ?_) (by decide) ?_
  · obtain ⟨p, _, rfl⟩ := List.mem_map.mp hd
    exact .tup 4 _ fun d hd => by
      rcases List.mem_cons.mp hd with e | e
      · rw [e]; exact .int _ _
      · rw [List.mem_singleton.mp e]; exact .int _ _
  · have e : (l.map pD).isEmpty = l.isEmpty := by cases l <;> rfl
    rw [e]
    exact k
theorem st_twice {p : Addr} {n : Nat} {l : List (Int × Int)} {pr : Int × Int} (n0 : 1 ≤ n) (n1 : n ≤ 10) (hlen : l.length ≤ 10) (g : ¬ GoodL n (l ++ [pr])) {e0 e2 e5 e6 e7 e8 e9 e11 e12 e13 : Option Slot} {rest : MSt} {Ks : KS} (k : ∀ pr, ¬ GoodL n (l ++ [pr]) → rest [e0, some (.sh (.ref p)), e2, some (.sh (.int n)), some (.sh (leadD l)), e5, e6, e7, e8, e9, some (.sh (leadD (l ++ [pr]))), e11, e12, e13] Ks) :
    mSeq (mIfS (mAnd (mB (m2 (eqE true) (mVar 4) (mLst aNil))) (mB (m2 (eqE false) (mCallU (some p) sp__law_drawn (aCons (mVar 1) (aCons (mC (.int 2)) aNil))) (mC (.int 1))))) (mSet 10 (m2 addD (mVar 4) (mLst (aCons (mTup (aCons (m2 ixD (m2 ixD (mVar 4) (mCallU (some p) sp__law_drawn (aCons (mVar 1) (aCons (mCall lenD (aCons (mVar 4) aNil)) aNil)))) (mC (.int 0))) (aCons (mCallU (some p) sp__law_drawn (aCons (mVar 1) (aCons (mVar 3) aNil))) aNil))) aNil)))) mNext) rest
      [e0, some (.sh (.ref p)), e2, some (.sh (.int n)), some (.sh (leadD l)), e5, e6, e7, e8, e9, some (.sh (leadD (l ++ [pr]))), e11, e12, e13] Ks := by
  refine ⟨z0, eqE_leadN ?_⟩
  cases hl : l.isEmpty with
  | true => exact k pr g
  | false =>
    have hpos : 0 < l.length := by
      cases l with
      | nil => cases hl
      | cons _ _ => exact Nat.succ_pos _
    refine dr (by decide) (by decide) fun c c0 c1 => eqE_int (ite2 (fun _ => ?_) (fun _ => k pr g))
    refine dr (by rw [List.length_map]; omega) (by rw [List.length_map]; omega) fun i i0 i1 => ?_
    rw [List.length_map] at i1
    obtain ⟨j, rfl⟩ : ∃ j : Nat, i = (j : Int) := ⟨i.toNat, by omega⟩
    have hj : j < l.length := by omega
    refine ixD_lst (d := pD l[j]) (atI_nat (by rw [List.getElem?_map, List.getElem?_eq_getElem hj]; rfl)) (ixD_tup (d := .int l[j].1) rfl ?_)
    refine dr (by omega) (by omega) fun x x0 x1 => ⟨z2, z1, sz_ok (by rw [List.length_map, List.length_singleton]; omega), ?_⟩
    have := k (l[j].1, x) (twice_bad (List.mem_map.mpr ⟨_, List.getElem_mem hj, rfl⟩))
    rw [← leadD_snoc] at this
    exact this
theorem st_kind {sa : Option Addr} {n : Nat} {F : Int → Int} {l : List (Int × Int)} (hl : l.length ≤ 1000) (g : ¬ GoodL n l) {e0 e1 e2 e3 e4 e6 e7 e8 e9 e11 e12 e13 : Option Slot} {rest : MSt} {Ks : KS} (k : rest [e0, e1, e2, e3, e4, some (.sh (.lst (wl n F))), e6, e7, e8, e9, some (.sh (leadD l)), e11, e12, e13] Ks) :
    mSeq (mIfS (mB (m2 (eqE true) (mKindN (["BadLead"] : List Str) ([] : List Str) (mCallU sa sp_at_once (aCons (mVar 5) (aCons (mVar 10) aNil)))) (mC (.str "BadLead")))) (mRet (mC (.bl false))) mNext) rest [e0, e1, e2, e3, e4, some (.sh (.lst (wl n F))), e6, e7, e8, e9, some (.sh (leadD l)), e11, e12, e13] Ks := by
  refine ⟨n, F, l, rfl, hl, fun h => absurd h g, fun _ => ⟨List.mem_singleton.mpr rfl, ?_⟩⟩
  exact eqE_str k
theorem st_works {LD : List LamD} {sa : Option Addr} {b : Int} {l : List (Int × Int)} (hLD : LD.length = 7) (hl : l.length ≤ 1000) (g : ¬ GoodL b l) {e0 e1 e2 e4 e5 e6 e7 e8 e9 e11 e12 e13 : Option Slot} {rest : MSt} {Ks : KS} (k : rest [e0, e1, e2, some (.sh (.int b)), e4, e5, e6, e7, e8, e9, some (.sh (leadD l)), e11, e12, e13] Ks) :
    mSeq (mIfS (mB (m2 (eqE true) (mLc (.nm 11) [11] (mIter (mWorks LD (aCons (mVar 3) (aCons (mVar 10) aNil)))) (mB (m2 (eqE true) (mClo (lam01 LD sa) (["BadLead"] : List Str) 11) (mC (.str "BadLead")))) (mVar 11)) (mLst aNil))) (mRet (mC (.bl false))) mNext) rest [e0, e1, e2, some (.sh (.int b)), e4, e5, e6, e7, e8, e9, some (.sh (leadD l)), e11, e12, e13] Ks := by
  refine ⟨_, _, rfl, by rw [List.length_map, hLD]; decide, clo_none hLD hl g rfl LD (fun _ h => h) ?_⟩
  exact ⟨z0, eqE_nil (n := 6) (.lst _ _ (by simp)) (by decide) k⟩
theorem st_works2 {LD : List LamD} {sa : Option Addr} {b : Int} (hLD : LD.length = 7) (g : ¬ GoodL b []) {e0 e1 e2 e3 e4 e5 e6 e7 e8 e9 e10 e11 e13 : Option Slot} {rest : MSt} {Ks : KS} (k : rest [e0, e1, e2, e3, e4, e5, e6, e7, e8, e9, e10, e11, some (.sh (.int b)), e13] Ks) :
    mSeq (mIfS (mB (m2 (eqE true) (mLc (.nm 11) [11] (mIter (mWorks LD (aCons (mVar 12) (aCons (mLst aNil) aNil)))) (mB (m2 (eqE true) (mClo (lam01 LD sa) (["BadLead"] : List Str) 11) (mC (.str "BadLead")))) (mVar 11)) (mLst aNil))) (mRet (mC (.bl false))) mNext) rest [e0, e1, e2, e3, e4, e5, e6, e7, e8, e9, e10, e11, some (.sh (.int b)), e13] Ks := by
  refine ⟨z0, _, _, rfl, by rw [List.length_map, hLD]; decide, clo_none (l := []) hLD (by decide) g rfl LD (fun _ h => h) ?_⟩
  exact ⟨z0, eqE_nil (n := 6) (.lst _ _ (by simp)) (by decide) k⟩
theorem st_long {sa : Option Addr} {xs : List D} (hx : ∀ y ∈ xs, ∃ v, y = D.int v) (hn : ¬ (1 ≤ xs.length ∧ xs.length ≤ 10)) {e0 e1 e2 e3 e4 e5 e6 e7 e8 e9 e10 e11 e12 : Option Slot} {Ks : KS} (k : Ks.nx [e0, e1, e2, e3, e4, e5, e6, e7, e8, e9, e10, e11, e12, some (.sh (.lst xs))]) :
    mIfS (mOr (mB (m2 (eqE true) (mKindN (["BadLead"] : List Str) ([] : List Str) (mCallU sa sp_at_once (aCons (mVar 13) (aCons (mLst aNil) aNil)))) (mC (.str "BadLead")))) (mB (m2 (eqE true) (mKindN (["BadLead"] : List Str) ([] : List Str) (mCallU sa sp_moved (aCons (mVar 13) (aCons (mLst aNil) aNil)))) (mC (.str "BadLead"))))) (mRet (mC (.bl false))) mNext [e0, e1, e2, e3, e4, e5, e6, e7, e8, e9, e10, e11, e12, some (.sh (.lst xs))] Ks := by
  obtain ⟨F, hF⟩ := wl_of hx
  have e : [D.lst xs, D.lst []] = [D.lst (wl xs.length F), leadD []] := by rw [← hF]; rfl
  refine ⟨z0, xs.length, F, [], e, by decide, fun h => absurd ⟨by have := h.b0; omega, by have := h.b1; omega⟩ hn, fun _ => ⟨List.mem_singleton.mpr rfl, eqE_str ?_⟩⟩
  exact ⟨z0, xs, _, rfl, hn, List.mem_singleton.mpr rfl, eqE_str k⟩
set_option maxHeartbeats 1000000 in
theorem pu_law_k01 (LD : List LamD) (hLD : LD.length = 7) (p a : Addr) : m_law_k01 LD (some p) (some (.sh (.ref a)) :: some (.sh (.ref p)) :: List.replicate (N_law.length - 2) none) { nx := fun _ => False, rt := fun d => d = .bl true } := by
  refine ⟨by omega, by omega, forD_all (fun env => ∃ e2 e3 e4 e5 e6 e7 e8 e9 e10 e11 e12 e13, env = [some (.sh (.ref a)), some (.sh (.ref p)), e2, e3, e4, e5, e6, e7, e8, e9, e10, e11, e12, e13]) ⟨_, _, _, _, _, _, _, _, _, _, _, _, rfl⟩ ?_ ?_⟩
  · rintro d hd env nx ⟨e2, e3, e4, e5, e6, e7, e8, e9, e10, e11, e12, e13, rfl⟩ hn
    refine ⟨_, rfl, p, rfl, rfl, fun b b0 b1 => ?_⟩
    obtain ⟨n, rfl, n0, n1⟩ : ∃ n : Nat, b = (n : Int) ∧ 1 ≤ n ∧ n ≤ 10 := ⟨b.toNat, by omega, by omega, by omega⟩
    refine ⟨p, (n : Int), rfl, rfl, by omega, by omega, fun l L => ?_⟩
    have hlen : l.length ≤ 10 := by have := L.len (by omega); omega
    refine ⟨p, (n : Int), rfl, rfl, by omega, by omega, fun F => ?_⟩
    rw [show ((n : Int)).toNat = n by omega]
    have hw : (wl n F).length ≤ 10 := by rw [wl_len]; omega
    refine ⟨z2, ?_⟩
    refine ⟨by omega, by omega, forD_all (fun env => ∃ e7 e8, env = [some (.sh (.ref a)), some (.sh (.ref p)), some (.sh (d)), some (.sh (.int n)), some (.sh (leadD l)), some (.sh (.lst (wl n F))), some (.sh (.tup [.lst (wl n F), leadD l])), e7, e8, e9, e10, e11, e12, e13]) ⟨_, _, rfl⟩ ?_ ?_⟩
    · rintro d3 hd3 env nx3 ⟨e7', e8', rfl⟩ hn3
      refine ⟨_, rfl, ?_⟩
      refine ixD_tup rfl (ixD_tup rfl ⟨n, F, l, rfl, by omega, fun _ => ?_, fun g => absurd ⟨by omega, by omega, L⟩ g⟩)
      refine fun q => ?_
      refine ⟨n, F, l, rfl, by omega, L, ?_⟩
      refine ⟨by decide, .lst (wl n fun x => F (src l x)), 3, rfl, rfl, .lst 2 _ (by rw [wl_len]; omega) (fun d hd => ?_), ?_⟩
      · obtain ⟨i, _, rfl⟩ := List.mem_map.mp hd
        exact .int _ _
      refine ⟨z2, eqE_refl (n := 3) (.tup 2 _ fun d hd => ?_) (by decide) ?_⟩
      · simp only [List.mem_cons, List.mem_nil_iff, or_false] at hd
        rcases hd with rfl | rfl
        · exact wl_dk n 1 F
        · exact Dk_pairs l
      exact ⟨sz_lt (by rw [wl_len]; omega), hn3 _ ⟨_, _, rfl⟩⟩
    · rintro env ⟨e7', e8', rfl⟩
      refine ⟨p, (n : Int) - 1, rfl, rfl, fun far hfar => ?_⟩
      refine ⟨z2, dr (by omega) (by omega) fun x x0 x1 => ⟨z2, z2, z3, dr (by decide) (by decide) fun i i0 i1 => ?_⟩⟩
      obtain ⟨pr, hpr, g⟩ : ∃ pr : Int × Int, atI [pD (far, 0), pD (x, far), pD (far, far)] i = some (pD pr) ∧ ¬ GoodL n (l ++ [pr]) := by
        have hi : i = 0 ∨ i = 1 ∨ i = 2 := by omega
        rcases hi with rfl | rfl | rfl
        · exact ⟨_, rfl, far_bad (.inl hfar)⟩
        · exact ⟨_, rfl, far_bad (.inr hfar)⟩
        · exact ⟨_, rfl, far_bad (.inl hfar)⟩
      refine ixD_lst hpr ⟨z1, sz_ok (by rw [List.length_map, List.length_singleton]; omega), ?_⟩
      rw [leadD_snoc]
      refine st_twice n0 n1 hlen g fun pr g => ?_
      have hl1 : (l ++ [pr]).length ≤ 1000 := by rw [List.length_append, List.length_singleton]; omega
      refine st_kind hl1 g (st_works hLD hl1 g ?_)
      refine ⟨p, 10, rfl, rfl, fun odd hodd => ⟨z2, dr (by decide) (by decide) fun i i0 i1 => ?_⟩⟩
      obtain ⟨o, ho, go⟩ : ∃ o : Int, atI [D.int 0, D.int odd] i = some (.int o) ∧ ¬ GoodL o [] := by
        have hi : i = 0 ∨ i = 1 := by omega
        rcases hi with rfl | rfl
        · exact ⟨_, rfl, fun g => by have := g.b0; omega⟩
        · exact ⟨_, rfl, fun g => by have := g.b0; have := g.b1; omega⟩
      refine ixD_lst ho (st_works2 hLD go ?_)
      refine ⟨z0, by decide, by decide, sz_ok (by show _ * 11 ≤ _; omega), z2, dr (by decide) (by decide) fun i i0 i1 => ?_⟩
      obtain ⟨xs, hxs, hx, hxn⟩ : ∃ xs : List D, atI [D.lst [], D.lst (List.replicate (11 : Int).toNat (wl n F)).flatten] i = some (.lst xs) ∧ (∀ y ∈ xs, ∃ v, y = D.int v) ∧ ¬ (1 ≤ xs.length ∧ xs.length ≤ 10) := by
        have hi : i = 0 ∨ i = 1 := by omega
        rcases hi with rfl | rfl
        · exact ⟨_, rfl, fun y h => (nomatch h), by decide⟩
        · refine ⟨_, rfl, fun y h => ?_, ?_⟩
          · obtain ⟨ys, hy, h⟩ := List.mem_flatten.mp h
            rw [(List.mem_replicate.mp hy).2] at h
            obtain ⟨i, _, rfl⟩ := List.mem_map.mp h
            exact ⟨_, rfl⟩
          · rw [List.length_flatten, List.map_replicate, List.sum_replicate_nat, wl_len]
            show ¬ (1 ≤ 11 * n ∧ 11 * n ≤ 10)
            omega
      refine ixD_lst hxs (st_long hx hxn ?_)
      exact hn _ ⟨_, _, _, _, _, _, _, _, _, _, _, _, rfl⟩
  · rintro env ⟨e2, e3, e4, e5, e6, e7, e8, e9, e10, e11, e12, e13, rfl⟩
    exact rfl
end L3
namespace L3
open PySem PySem.Spec PyProof.Rows L2
def topS (i : Nat) : Stmt := PySem.Challenge.pw_movesatonce_k01_leads_all_at_once.main.body.getD i (.Pass ⟨0, 0, 0, 0⟩)
/-! ### _law_kind -/
abbrev s__law_kind : Stmt := topS 44
abbrev ps__law_kind : List Str := ["_law_work"]
theorem sc__law_kind : FnScope N__law_kind ps__law_kind (defScope s__law_kind) := ⟨rfl, rfl, rfl, by decide +kernel, rfl, by decide +kernel, by decide +kernel⟩
/-- the clause of a Try with one -/
def suiteOf (st : Stmt) : List Stmt := match st with
  | .Try _ [.ExceptHandler _ _ b _] _ _ _ => b
  | _ => []
def tryOf (st : Stmt) : List Stmt := match st with
  | .Try b _ _ _ _ => b
  | _ => []
theorem der_kind {P : Program} {w0 : World} {K : PySem.W.Frag} {mg : Str → Option Value} {base : Heap} (F : Free mg) (zVE : mg "ValueError" = none) {w : Str} {D : Addr} (KK : Kinds K mg D w) {g : Addr} {cdg : Value} {a : Addr} {oe : Obj} {pn : List (Addr × Obj)} (hz : Zc (.ref D) none oe) (hf : ∃ vs, oe.data = .fields vs)
    (C : C3) (hC : C.K = K) (B : Hp) (A : Around) (outer : List Env) (s : Shared) (H : Hp) (hun : (A.deeper (envOfC "_law_kind" (defScope s__law_kind) s.heap.objs.size g cdg)).units + 64 < cLine) :
    MSs ((cxOf C8.CX0 P w0 K mg base N__law_kind "_law_kind" (defScope s__law_kind) g cdg A outer s H C8.E0).nox.suite a ((a, oe) :: pn)) C E0 false B (suiteOf ((defBody s__law_kind).head!)) (m__law_kind a (decide (("BadLead" : Str) = w)) (decide (("BadSpare" : Str) = w)) (decide (("BadMove" : Str) = w)) (decide (("NoWay" : Str) = w)) (decide (("BadWord" : Str) = w)) (decide (("BadHouse" : Str) = w)) (decide (("BadCall" : Str) = w)) (decide (("BadText" : Str) = w))) := by
  subst hC
  obtain ⟨A_BadLead, g_BadLead, k_BadLead⟩ := KK.kd "BadLead" (by simp)
  obtain ⟨A_BadSpare, g_BadSpare, k_BadSpare⟩ := KK.kd "BadSpare" (by simp)
  obtain ⟨A_BadMove, g_BadMove, k_BadMove⟩ := KK.kd "BadMove" (by simp)
  obtain ⟨A_NoWay, g_NoWay, k_NoWay⟩ := KK.kd "NoWay" (by simp)
  obtain ⟨A_BadWord, g_BadWord, k_BadWord⟩ := KK.kd "BadWord" (by simp)
  obtain ⟨A_BadHouse, g_BadHouse, k_BadHouse⟩ := KK.kd "BadHouse" (by simp)
  obtain ⟨A_BadCall, g_BadCall, k_BadCall⟩ := KK.kd "BadCall" (by simp)
  obtain ⟨A_BadText, g_BadText, k_BadText⟩ := KK.kd "BadText" (by simp)
  exact
  (mss_cons (ms_set sc__law_kind.nd (i := 2) rfl (by first | exact Or.inl rfl | exact Or.inr rfl) (MF.me (mf_lst (ma_cons (me_isE 1 F rfl KK.ex hz hf rfl (me_var 1) rfl g_BadLead k_BadLead) (ma_cons (me_isE 1 F rfl KK.ex hz hf rfl (me_var 1) rfl g_BadSpare k_BadSpare) (ma_cons (me_isE 1 F rfl KK.ex hz hf rfl (me_var 1) rfl g_BadMove k_BadMove) (ma_cons (me_isE 1 F rfl KK.ex hz hf rfl (me_var 1) rfl g_NoWay k_NoWay) ma_nil)))))))
  (mss_cons (ms_setF sc__law_kind.nd (i := 2) rfl (by first | exact Or.inl rfl | exact Or.inr rfl) (mf_cat (me_var 2) (MF.me (mf_lst (ma_cons (me_isE 1 F rfl KK.ex hz hf rfl (me_var 1) rfl g_BadWord k_BadWord) (ma_cons (me_isE 1 F rfl KK.ex hz hf rfl (me_var 1) rfl g_BadHouse k_BadHouse) (ma_cons (me_isE 1 F rfl KK.ex hz hf rfl (me_var 1) rfl g_BadCall k_BadCall) ma_nil)))))))
  (mss_cons (ms_append 2 (h := ps_expr (pe_bm PySem.F.plainAttrs_list PySem.F.slot_list_append PySem.F.type_list_append mt_append (pv 2) (pa_cons (me_isE 1 F rfl KK.ex hz hf rfl (me_var 1) rfl g_BadText k_BadText) pa_nil))))
  (mss_cons (ms_set sc__law_kind.nd (i := 3) rfl (by first | exact Or.inl rfl | exact Or.inr rfl) (MF.me (mf_lst (ma_cons me_str (ma_cons me_str (ma_cons me_str (ma_cons me_str (ma_cons me_str (ma_cons me_str (ma_cons me_str (ma_cons me_str ma_nil)))))))))))
  (mss_cons (ms_if (mt_w (mw_or (mt_ne rfl hun (me_count rfl (pe_bm PySem.F.plainAttrs_list PySem.F.slot_list_count PySem.F.type_list_count mt_countF (me_var 2) (pa_cons me_bl pa_nil))) me_int) (mw_or1 (mt_not (mt_val (me_isET (T := "ValueError") 1 F rfl KK.ex hz hf rfl (me_var 1) rfl zVE (by decide +kernel) KK.ve)))))) (mss_one (ms_ret me_str)) mss_nil)
  (mss_cons (ms_setL sc__law_kind.nd (i := 4) rfl (by first | exact Or.inl rfl | exact Or.inr rfl) (me_ix rfl (me_var 3) (me_index rfl (pe_bm PySem.F.plainAttrs_list PySem.F.slot_list_index PySem.F.type_list_index mt_index (me_var 2) (pa_cons me_bl pa_nil)))))
  (mss_cons (ms_if (mt_eq rfl hun (me_var 4) me_str) (mss_one (ms_ret (me_tup (ma_cons (me_var 4) (ma_cons me_no ma_nil))))) mss_nil)
  (mss_one (ms_ret (me_if (mt_eq rfl hun (me_var 4) me_str) (me_tup (ma_cons (me_var 4) (ma_cons me_no ma_nil))) (me_var 4)))))))))))
theorem der_kindM {P : Program} {w0 : World} {K : PySem.W.Frag} {mg : Str → Option Value} {base : Heap} (F : Free mg) (zVE : mg "ValueError" = none) {D : Addr} (KK : Kinds K mg D "BadMove") {dd : Addr} {n : Int} (XF : XfC K D) (hno : PySem.W.findIn K (.ref D) (fieldOf "BadMove") = some none) {g : Addr} {cdg : Value} {a : Addr} {oe : Obj} {pn : List (Addr × Obj)} (hz : Zc (.ref D) (some dd) oe) (hf : ∃ vs, oe.data = .fields vs)
    (C : C3) (hC : C.K = K) (hx : (dd, HO.xd [(fieldOf "BadMove", V.int n)]) ∈ C.fix) (B : Hp) (A : Around) (outer : List Env) (s : Shared) (H : Hp) (hun : (A.deeper (envOfC "_law_kind" (defScope s__law_kind) s.heap.objs.size g cdg)).units + 64 < cLine) :
    MSs ((cxOf C8.CX0 P w0 K mg base N__law_kind "_law_kind" (defScope s__law_kind) g cdg A outer s H C8.E0).nox.suite a ((a, oe) :: pn)) C E0 false B (suiteOf ((defBody s__law_kind).head!)) (m__law_kindM a n (decide (("BadLead" : Str) = "BadMove")) (decide (("BadSpare" : Str) = "BadMove")) (decide (("BadMove" : Str) = "BadMove")) (decide (("NoWay" : Str) = "BadMove")) (decide (("BadWord" : Str) = "BadMove")) (decide (("BadHouse" : Str) = "BadMove")) (decide (("BadCall" : Str) = "BadMove")) (decide (("BadText" : Str) = "BadMove"))) := by
  subst hC
  rw [show fieldOf "BadMove" = "number" by decide +kernel] at hno hx
  obtain ⟨A_BadLead, g_BadLead, k_BadLead⟩ := KK.kd "BadLead" (by simp)
  obtain ⟨A_BadSpare, g_BadSpare, k_BadSpare⟩ := KK.kd "BadSpare" (by simp)
  obtain ⟨A_BadMove, g_BadMove, k_BadMove⟩ := KK.kd "BadMove" (by simp)
  obtain ⟨A_NoWay, g_NoWay, k_NoWay⟩ := KK.kd "NoWay" (by simp)
  obtain ⟨A_BadWord, g_BadWord, k_BadWord⟩ := KK.kd "BadWord" (by simp)
  obtain ⟨A_BadHouse, g_BadHouse, k_BadHouse⟩ := KK.kd "BadHouse" (by simp)
  obtain ⟨A_BadCall, g_BadCall, k_BadCall⟩ := KK.kd "BadCall" (by simp)
  obtain ⟨A_BadText, g_BadText, k_BadText⟩ := KK.kd "BadText" (by simp)
  exact
  (mss_cons (ms_set sc__law_kind.nd (i := 2) rfl (by first | exact Or.inl rfl | exact Or.inr rfl) (MF.me (mf_lst (ma_cons (me_isED 1 F rfl KK.ex hz hf hx rfl (me_var 1) rfl g_BadLead k_BadLead) (ma_cons (me_isED 1 F rfl KK.ex hz hf hx rfl (me_var 1) rfl g_BadSpare k_BadSpare) (ma_cons (me_isED 1 F rfl KK.ex hz hf hx rfl (me_var 1) rfl g_BadMove k_BadMove) (ma_cons (me_isED 1 F rfl KK.ex hz hf hx rfl (me_var 1) rfl g_NoWay k_NoWay) ma_nil)))))))
  (mss_cons (ms_setF sc__law_kind.nd (i := 2) rfl (by first | exact Or.inl rfl | exact Or.inr rfl) (mf_cat (me_var 2) (MF.me (mf_lst (ma_cons (me_isED 1 F rfl KK.ex hz hf hx rfl (me_var 1) rfl g_BadWord k_BadWord) (ma_cons (me_isED 1 F rfl KK.ex hz hf hx rfl (me_var 1) rfl g_BadHouse k_BadHouse) (ma_cons (me_isED 1 F rfl KK.ex hz hf hx rfl (me_var 1) rfl g_BadCall k_BadCall) ma_nil)))))))
  (mss_cons (ms_append 2 (h := ps_expr (pe_bm PySem.F.plainAttrs_list PySem.F.slot_list_append PySem.F.type_list_append mt_append (pv 2) (pa_cons (me_isED 1 F rfl KK.ex hz hf hx rfl (me_var 1) rfl g_BadText k_BadText) pa_nil))))
  (mss_cons (ms_set sc__law_kind.nd (i := 3) rfl (by first | exact Or.inl rfl | exact Or.inr rfl) (MF.me (mf_lst (ma_cons me_str (ma_cons me_str (ma_cons me_str (ma_cons me_str (ma_cons me_str (ma_cons me_str (ma_cons me_str (ma_cons me_str ma_nil)))))))))))
  (mss_cons (ms_if (mt_w (mw_or (mt_ne rfl hun (me_count rfl (pe_bm PySem.F.plainAttrs_list PySem.F.slot_list_count PySem.F.type_list_count mt_countF (me_var 2) (pa_cons me_bl pa_nil))) me_int) (mw_or1 (mt_not (mt_val (me_isEDT (T := "ValueError") 1 F rfl KK.ex hz hf hx rfl (me_var 1) rfl zVE (by decide +kernel) KK.ve)))))) (mss_one (ms_ret me_str)) mss_nil)
  (mss_cons (ms_setL sc__law_kind.nd (i := 4) rfl (by first | exact Or.inl rfl | exact Or.inr rfl) (me_ix rfl (me_var 3) (me_index rfl (pe_bm PySem.F.plainAttrs_list PySem.F.slot_list_index PySem.F.type_list_index mt_index (me_var 2) (pa_cons me_bl pa_nil)))))
  (mss_cons (ms_if (mt_eq rfl hun (me_var 4) me_str) (mss_one (ms_ret (me_tup (ma_cons (me_var 4) (ma_cons (me_fldE 1 XF hno hz hf hx (me_var 1)) ma_nil))))) mss_nil)
  (mss_one (ms_ret (me_if (mt_eq rfl hun (me_var 4) me_str) (me_tup (ma_cons (me_var 4) (ma_cons me_no ma_nil))) (me_var 4)))))))))))
theorem der_kindT {P : Program} {w0 : World} {K : PySem.W.Frag} {mg : Str → Option Value} {base : Heap} (F : Free mg) (zVE : mg "ValueError" = none) {D : Addr} (KK : Kinds K mg D "BadText") {dd : Addr} {n : Int} (XF : XfC K D) (hno : PySem.W.findIn K (.ref D) (fieldOf "BadText") = some none) {g : Addr} {cdg : Value} {a : Addr} {oe : Obj} {pn : List (Addr × Obj)} (hz : Zc (.ref D) (some dd) oe) (hf : ∃ vs, oe.data = .fields vs)
    (C : C3) (hC : C.K = K) (hx : (dd, HO.xd [(fieldOf "BadText", V.int n)]) ∈ C.fix) (B : Hp) (A : Around) (outer : List Env) (s : Shared) (H : Hp) (hun : (A.deeper (envOfC "_law_kind" (defScope s__law_kind) s.heap.objs.size g cdg)).units + 64 < cLine) :
    MSs ((cxOf C8.CX0 P w0 K mg base N__law_kind "_law_kind" (defScope s__law_kind) g cdg A outer s H C8.E0).nox.suite a ((a, oe) :: pn)) C E0 false B (suiteOf ((defBody s__law_kind).head!)) (m__law_kindT a n (decide (("BadLead" : Str) = "BadText")) (decide (("BadSpare" : Str) = "BadText")) (decide (("BadMove" : Str) = "BadText")) (decide (("NoWay" : Str) = "BadText")) (decide (("BadWord" : Str) = "BadText")) (decide (("BadHouse" : Str) = "BadText")) (decide (("BadCall" : Str) = "BadText")) (decide (("BadText" : Str) = "BadText"))) := by
  subst hC
  rw [show fieldOf "BadText" = "place" by decide +kernel] at hno hx
  obtain ⟨A_BadLead, g_BadLead, k_BadLead⟩ := KK.kd "BadLead" (by simp)
  obtain ⟨A_BadSpare, g_BadSpare, k_BadSpare⟩ := KK.kd "BadSpare" (by simp)
  obtain ⟨A_BadMove, g_BadMove, k_BadMove⟩ := KK.kd "BadMove" (by simp)
  obtain ⟨A_NoWay, g_NoWay, k_NoWay⟩ := KK.kd "NoWay" (by simp)
  obtain ⟨A_BadWord, g_BadWord, k_BadWord⟩ := KK.kd "BadWord" (by simp)
  obtain ⟨A_BadHouse, g_BadHouse, k_BadHouse⟩ := KK.kd "BadHouse" (by simp)
  obtain ⟨A_BadCall, g_BadCall, k_BadCall⟩ := KK.kd "BadCall" (by simp)
  obtain ⟨A_BadText, g_BadText, k_BadText⟩ := KK.kd "BadText" (by simp)
  exact
  (mss_cons (ms_set sc__law_kind.nd (i := 2) rfl (by first | exact Or.inl rfl | exact Or.inr rfl) (MF.me (mf_lst (ma_cons (me_isED 1 F rfl KK.ex hz hf hx rfl (me_var 1) rfl g_BadLead k_BadLead) (ma_cons (me_isED 1 F rfl KK.ex hz hf hx rfl (me_var 1) rfl g_BadSpare k_BadSpare) (ma_cons (me_isED 1 F rfl KK.ex hz hf hx rfl (me_var 1) rfl g_BadMove k_BadMove) (ma_cons (me_isED 1 F rfl KK.ex hz hf hx rfl (me_var 1) rfl g_NoWay k_NoWay) ma_nil)))))))
  (mss_cons (ms_setF sc__law_kind.nd (i := 2) rfl (by first | exact Or.inl rfl | exact Or.inr rfl) (mf_cat (me_var 2) (MF.me (mf_lst (ma_cons (me_isED 1 F rfl KK.ex hz hf hx rfl (me_var 1) rfl g_BadWord k_BadWord) (ma_cons (me_isED 1 F rfl KK.ex hz hf hx rfl (me_var 1) rfl g_BadHouse k_BadHouse) (ma_cons (me_isED 1 F rfl KK.ex hz hf hx rfl (me_var 1) rfl g_BadCall k_BadCall) ma_nil)))))))
  (mss_cons (ms_append 2 (h := ps_expr (pe_bm PySem.F.plainAttrs_list PySem.F.slot_list_append PySem.F.type_list_append mt_append (pv 2) (pa_cons (me_isED 1 F rfl KK.ex hz hf hx rfl (me_var 1) rfl g_BadText k_BadText) pa_nil))))
  (mss_cons (ms_set sc__law_kind.nd (i := 3) rfl (by first | exact Or.inl rfl | exact Or.inr rfl) (MF.me (mf_lst (ma_cons me_str (ma_cons me_str (ma_cons me_str (ma_cons me_str (ma_cons me_str (ma_cons me_str (ma_cons me_str (ma_cons me_str ma_nil)))))))))))
  (mss_cons (ms_if (mt_w (mw_or (mt_ne rfl hun (me_count rfl (pe_bm PySem.F.plainAttrs_list PySem.F.slot_list_count PySem.F.type_list_count mt_countF (me_var 2) (pa_cons me_bl pa_nil))) me_int) (mw_or1 (mt_not (mt_val (me_isEDT (T := "ValueError") 1 F rfl KK.ex hz hf hx rfl (me_var 1) rfl zVE (by decide +kernel) KK.ve)))))) (mss_one (ms_ret me_str)) mss_nil)
  (mss_cons (ms_setL sc__law_kind.nd (i := 4) rfl (by first | exact Or.inl rfl | exact Or.inr rfl) (me_ix rfl (me_var 3) (me_index rfl (pe_bm PySem.F.plainAttrs_list PySem.F.slot_list_index PySem.F.type_list_index mt_index (me_var 2) (pa_cons me_bl pa_nil)))))
  (mss_cons (ms_if (mt_eq rfl hun (me_var 4) me_str) (mss_one (ms_ret (me_tup (ma_cons (me_var 4) (ma_cons me_no ma_nil))))) mss_nil)
  (mss_one (ms_ret (me_if (mt_eq rfl hun (me_var 4) me_str) (me_tup (ma_cons (me_var 4) (ma_cons (me_fldE 1 XF hno hz hf hx (me_var 1)) ma_nil))) (me_var 4)))))))))))
theorem gives_kind {X : Cx} {C : C3} {ws : List Str} (hK : X.K = C.K) (F : Free X.mg) (zVE : X.mg "ValueError" = none) (gM : ∃ A, X.mg "MoveError" = some (.ref A)) {g : Addr} {cdg : Value} {q : Str} (hun : ∀ s : Shared, (X.A.deeper (envOfC "_law_kind" (defScope s__law_kind) s.heap.objs.size g cdg)).units + 64 < cLine) (hw : ∀ w ∈ ws, w ∈ plainW) :
    LamX.GivesTo X N__law_kind "_law_kind" (defScope s__law_kind) g cdg (defBody s__law_kind) "_law_work" q (TTk C X.mg ws) := by
  obtain ⟨M, gM⟩ := gM
  intro f c' s H Q tl act hc h
  refine ⟨_, pss_one (ps_try_as (X := (cxOf C8.CX0 X.prog X.w X.K X.mg X.base N__law_kind "_law_kind" (defScope s__law_kind) g cdg X.A X.stack s H C8.E0).nox) (i := 1) (c := .ref M) (Wout := fun _ _ _ _ => False)
      (ts := fun a cls d En σ H => ∃ (w : Str) (D : Addr) (G0 B : Hp), cls = .ref D ∧ d = none ∧ Kinds X.K X.mg D w ∧ liftS C X.mg E0 false B G0 (m__law_kind a (decide (("BadLead" : Str) = w)) (decide (("BadSpare" : Str) = w)) (decide (("BadMove" : Str) = w)) (decide (("NoWay" : Str) = w)) (decide (("BadWord" : Str) = w)) (decide (("BadHouse" : Str) = w)) (decide (("BadCall" : Str) = w)) (decide (("BadText" : Str) = w))) En σ H)
      (tb := fun W D σ H => ∃ Ech : XK, (∀ cls d σ' H', σ'.length = 5 → Ech cls d H' → W cls d σ' H') ∧ σ[0]? = some (some (.ref f)) ∧ H c' = some (LamX.CodeO c' q) ∧ tl Ech H D.rt)
      rfl rfl sc__law_kind.nd rfl rfl ⟨rfl, by decide, .inl gM⟩ takes0 (fun W pn xe tk _ => ?_) (fun a oe cls d pn hz hf => ?_)), ?_⟩
  · refine ⟨fun pins s' σ H' D I h' => ?_⟩
    obtain ⟨Ech, hW, h1, h2, h3⟩ := h'
    have tk2 : Takes ((cxOf C8.CX0 X.prog X.w X.K X.mg X.base N__law_kind "_law_kind" (defScope s__law_kind) g cdg X.A X.stack s H C8.E0).nox.tr pn xe) (fun cls d σ H => σ.length = 5 → W cls d σ H) := fun u s2 ⟨a, B, sI, pins2, σ2, H2, cls, d, e, J, nb, up, sky, na, os, ag, ww⟩ =>
      tk u s2 ⟨a, B, sI, pins2, σ2, H2, cls, d, e, J, nb, up, sky, na, os, ag, ww J.len⟩
    have hq : PSs ((cxOf C8.CX0 X.prog X.w X.K X.mg X.base N__law_kind "_law_kind" (defScope s__law_kind) g cdg X.A X.stack s H C8.E0).nox.tr pn xe) (tryOf ((defBody s__law_kind).head!)) _ := pss_one (ps_ret (act (fun cls d σ H => σ.length = 5 → W cls d σ H) pn xe Ech _ _ tk2 (fun cls d σ' H' k l => hW cls d σ' H' l k)))
    exact hq.run pins s' σ H' D I ⟨h1, h2, h3⟩
  · refine ⟨fun pins s' σ H' D I h' => ?_⟩
    obtain ⟨w, D2, G0, B, rfl, rfl, KK, h'⟩ := h'
    exact ((der_kind F zVE KK hz hf C hK.symm B X.A X.stack s H (hun s)) G0).run pins s' σ H' D I h'
  · refine ⟨_, fun cls d σ' H' hl hx => ?_, rfl, hc, h⟩
    obtain ⟨w, G, D, ok, hwm, e1, e2, KK, pv⟩ := hx
    rw [← hK] at KK
    obtain ⟨M2, g2, hm⟩ := KK.mv
    rw [gM] at g2
    cases g2
    refine ⟨true, by rw [e1]; exact hm, fun _ a na => ⟨w, D, G, nT H', e1, e2, KK, [none, some (.sh (.ref a)), none, none, none], G, _, ⟨⟨ok, Same.refl _, fun b o z z' => absurd (z.symm.trans z') (fun y => nomatch y), fun b o _ z => z⟩, by rw [List.length_set, hl]; exact Nat.le_refl _, fun i y z => ?_, fun i p y z => ?_, fun i j p y y' z _ => ?_⟩, kind_any a w (hw w hwm) { nx := fun _ => False, rt := fun y => y = .str w } rfl, ?_⟩, fun z => nomatch z⟩
    · match i, z with
      | 1, z =>
        cases z
        exact ⟨_, by rw [List.getElem?_set_self (by rw [hl]; decide)], .ref a⟩
      | i + 5, z => simp at z
    · match i, z with
      | i + 5, z => simp at z
    · match i, z with
      | i + 5, z => simp at z
    · exact ⟨fun _ _ _ _ _ k => k.elim, fun _ _ _ _ _ k => k.elim, fun _ _ _ _ _ k => k.elim, fun y v H2 G2 z rr k => pv y v H2 G2 ⟨z.keep, z.g0, z.fr⟩ z.ok rr k, fun _ _ _ _ k => k.elim⟩
theorem gives_kindN {X : Cx} {C : C3} {ws wn : List Str} (hK : X.K = C.K) (F : Free X.mg) (zVE : X.mg "ValueError" = none) (gM : ∃ A, X.mg "MoveError" = some (.ref A)) {g : Addr} {cdg : Value} {q : Str} (hun : ∀ s : Shared, (X.A.deeper (envOfC "_law_kind" (defScope s__law_kind) s.heap.objs.size g cdg)).units + 64 < cLine) (hw : ∀ w ∈ ws, w ∈ plainW) (hwn : ∀ w ∈ wn, w = "BadMove" ∨ w = "BadText") :
    LamX.GivesTo X N__law_kind "_law_kind" (defScope s__law_kind) g cdg (defBody s__law_kind) "_law_work" q (TTn C X.mg ws wn) := by
  obtain ⟨M, gM⟩ := gM
  intro f c' s H Q tl act hc h
  refine ⟨_, pss_one (ps_try_as (X := (cxOf C8.CX0 X.prog X.w X.K X.mg X.base N__law_kind "_law_kind" (defScope s__law_kind) g cdg X.A X.stack s H C8.E0).nox) (i := 1) (c := .ref M) (Wout := fun _ _ _ _ => False)
      (ts := fun a cls d En σ H => (∃ (w : Str) (D : Addr) (G0 B : Hp), cls = .ref D ∧ d = none ∧ Kinds X.K X.mg D w ∧ liftS C X.mg E0 false B G0 (m__law_kind a (decide (("BadLead" : Str) = w)) (decide (("BadSpare" : Str) = w)) (decide (("BadMove" : Str) = w)) (decide (("NoWay" : Str) = w)) (decide (("BadWord" : Str) = w)) (decide (("BadHouse" : Str) = w)) (decide (("BadCall" : Str) = w)) (decide (("BadText" : Str) = w))) En σ H) ∨
        ∃ (D dd : Addr) (n : Int) (G0 B : Hp), cls = .ref D ∧ d = some dd ∧ ((Kinds X.K X.mg D "BadMove" ∧ XfC X.K D ∧ PySem.W.findIn X.K (.ref D) (fieldOf "BadMove") = some none ∧ liftS { C with fix := (dd, .xd [(fieldOf "BadMove", V.int n)]) :: C.fix } X.mg E0 false B G0 (m__law_kindM a n (decide (("BadLead" : Str) = "BadMove")) (decide (("BadSpare" : Str) = "BadMove")) (decide (("BadMove" : Str) = "BadMove")) (decide (("NoWay" : Str) = "BadMove")) (decide (("BadWord" : Str) = "BadMove")) (decide (("BadHouse" : Str) = "BadMove")) (decide (("BadCall" : Str) = "BadMove")) (decide (("BadText" : Str) = "BadMove"))) En σ H) ∨
          (Kinds X.K X.mg D "BadText" ∧ XfC X.K D ∧ PySem.W.findIn X.K (.ref D) (fieldOf "BadText") = some none ∧ liftS { C with fix := (dd, .xd [(fieldOf "BadText", V.int n)]) :: C.fix } X.mg E0 false B G0 (m__law_kindT a n (decide (("BadLead" : Str) = "BadText")) (decide (("BadSpare" : Str) = "BadText")) (decide (("BadMove" : Str) = "BadText")) (decide (("NoWay" : Str) = "BadText")) (decide (("BadWord" : Str) = "BadText")) (decide (("BadHouse" : Str) = "BadText")) (decide (("BadCall" : Str) = "BadText")) (decide (("BadText" : Str) = "BadText"))) En σ H)))
      (tb := fun W D σ H => ∃ Ech : XK, (∀ cls d σ' H', σ'.length = 5 → Ech cls d H' → W cls d σ' H') ∧ σ[0]? = some (some (.ref f)) ∧ H c' = some (LamX.CodeO c' q) ∧ tl Ech H D.rt)
      rfl rfl sc__law_kind.nd rfl rfl ⟨rfl, by decide, .inl gM⟩ takes0 (fun W pn xe tk _ => ?_) (fun a oe cls d pn hz hf => ?_)), ?_⟩
  · refine ⟨fun pins s' σ H' D I h' => ?_⟩
    obtain ⟨Ech, hW, h1, h2, h3⟩ := h'
    have tk2 : Takes ((cxOf C8.CX0 X.prog X.w X.K X.mg X.base N__law_kind "_law_kind" (defScope s__law_kind) g cdg X.A X.stack s H C8.E0).nox.tr pn xe) (fun cls d σ H => σ.length = 5 → W cls d σ H) := fun u s2 ⟨a, B, sI, pins2, σ2, H2, cls, d, e, J, nb, up, sky, na, os, ag, ww⟩ =>
      tk u s2 ⟨a, B, sI, pins2, σ2, H2, cls, d, e, J, nb, up, sky, na, os, ag, ww J.len⟩
    have hq : PSs ((cxOf C8.CX0 X.prog X.w X.K X.mg X.base N__law_kind "_law_kind" (defScope s__law_kind) g cdg X.A X.stack s H C8.E0).nox.tr pn xe) (tryOf ((defBody s__law_kind).head!)) _ := pss_one (ps_ret (act (fun cls d σ H => σ.length = 5 → W cls d σ H) pn xe Ech _ _ tk2 (fun cls d σ' H' k l => hW cls d σ' H' l k)))
    exact hq.run pins s' σ H' D I ⟨h1, h2, h3⟩
  · refine ⟨fun pins s' σ H' D I h' => ?_⟩
    rcases h' with ⟨w, D2, G0, B, rfl, rfl, KK, h'⟩ | ⟨D2, dd, n, G0, B, rfl, rfl, ⟨KK, XF, hno, h'⟩ | ⟨KK, XF, hno, h'⟩⟩
    · exact ((der_kind F zVE KK hz hf C hK.symm B X.A X.stack s H (hun s)) G0).run pins s' σ H' D I h'
    · exact ((der_kindM F zVE KK XF hno hz hf { C with fix := (dd, .xd [(fieldOf "BadMove", V.int n)]) :: C.fix } hK.symm List.mem_cons_self B X.A X.stack s H (hun s)) G0).run pins s' σ H' D I h'
    · exact ((der_kindT F zVE KK XF hno hz hf { C with fix := (dd, .xd [(fieldOf "BadText", V.int n)]) :: C.fix } hK.symm List.mem_cons_self B X.A X.stack s H (hun s)) G0).run pins s' σ H' D I h'
  · refine ⟨_, fun cls d σ' H' hl hx => ?_, rfl, hc, h⟩
    rcases hx with ⟨w, G, D, ok, hwm, e1, e2, KK, pv⟩ | ⟨w, n, G, D, dd, ok, hwm, e1, e2, ed, eg, KK, XF, hno, pv⟩
    · rw [← hK] at KK
      obtain ⟨M2, g2, hm⟩ := KK.mv
      rw [gM] at g2
      cases g2
      refine ⟨true, by rw [e1]; exact hm, fun _ a na => .inl ⟨w, D, G, nT H', e1, e2, KK, [none, some (.sh (.ref a)), none, none, none], G, _, ⟨⟨ok, Same.refl _, fun b o z z' => absurd (z.symm.trans z') (fun y => nomatch y), fun b o _ z => z⟩, by rw [List.length_set, hl]; exact Nat.le_refl _, fun i y z => ?_, fun i p y z => ?_, fun i j p y y' z _ => ?_⟩, kind_any a w (hw w hwm) { nx := fun _ => False, rt := fun y => y = .str w } rfl, ?_⟩, fun z => nomatch z⟩
      · match i, z with
        | 1, z =>
          cases z
          exact ⟨_, by rw [List.getElem?_set_self (by rw [hl]; decide)], .ref a⟩
        | i + 5, z => simp at z
      · match i, z with
        | i + 5, z => simp at z
      · match i, z with
        | i + 5, z => simp at z
      · exact ⟨fun _ _ _ _ _ k => k.elim, fun _ _ _ _ _ k => k.elim, fun _ _ _ _ _ k => k.elim, fun y v H2 G2 z rr k => pv y v H2 G2 ⟨z.keep, z.g0, z.fr⟩ z.ok rr k, fun _ _ _ _ k => k.elim⟩
    rw [← hK] at KK XF hno
    obtain ⟨M2, g2, hm⟩ := KK.mv
    rw [gM] at g2
    cases g2
    rcases hwn w hwm with rfl | rfl
    · refine ⟨true, by rw [e1]; exact hm, fun _ a na => .inr ⟨D, dd, n, G, nT H', e1, e2, .inl ⟨KK, XF, hno, [none, some (.sh (.ref a)), none, none, none], G, _, ⟨⟨fix_ok ok ed eg, Same.refl _, fun b o z z' => absurd (z.symm.trans z') (fun y => nomatch y), fun b o _ z => z⟩, by rw [List.length_set, hl]; exact Nat.le_refl _, fun i y z => ?_, fun i p y z => ?_, fun i j p y y' z _ => ?_⟩, kind_BadMove a n { nx := fun _ => False, rt := fun y => y = .tup [.str "BadMove", .int n] } rfl, ?_⟩⟩, fun z => nomatch z⟩
      · match i, z with
        | 1, z =>
          cases z
          exact ⟨_, by rw [List.getElem?_set_self (by rw [hl]; decide)], .ref a⟩
        | i + 5, z => simp at z
      · match i, z with
        | i + 5, z => simp at z
      · match i, z with
        | i + 5, z => simp at z
      · exact ⟨fun _ _ _ _ _ k => k.elim, fun _ _ _ _ _ k => k.elim, fun _ _ _ _ _ k => k.elim, fun y v H2 G2 z rr k => pv y v H2 G2 ⟨fix_nx z.ok z.keep ed, z.g0, z.fr⟩ (unfix_ok z.ok) rr k, fun _ _ _ _ k => k.elim⟩
    · refine ⟨true, by rw [e1]; exact hm, fun _ a na => .inr ⟨D, dd, n, G, nT H', e1, e2, .inr ⟨KK, XF, hno, [none, some (.sh (.ref a)), none, none, none], G, _, ⟨⟨fix_ok ok ed eg, Same.refl _, fun b o z z' => absurd (z.symm.trans z') (fun y => nomatch y), fun b o _ z => z⟩, by rw [List.length_set, hl]; exact Nat.le_refl _, fun i y z => ?_, fun i p y z => ?_, fun i j p y y' z _ => ?_⟩, kind_BadText a n { nx := fun _ => False, rt := fun y => y = .tup [.str "BadText", .int n] } rfl, ?_⟩⟩, fun z => nomatch z⟩
      · match i, z with
        | 1, z =>
          cases z
          exact ⟨_, by rw [List.getElem?_set_self (by rw [hl]; decide)], .ref a⟩
        | i + 5, z => simp at z
      · match i, z with
        | i + 5, z => simp at z
      · match i, z with
        | i + 5, z => simp at z
      · exact ⟨fun _ _ _ _ _ k => k.elim, fun _ _ _ _ _ k => k.elim, fun _ _ _ _ _ k => k.elim, fun y v H2 G2 z rr k => pv y v H2 G2 ⟨fix_nx z.ok z.keep ed, z.g0, z.fr⟩ (unfix_ok z.ok) rr k, fun _ _ _ _ k => k.elim⟩
theorem fn_no {P : Program} {w : World} {K : PySem.W.Frag} {mg : Str → Option Value} {base : Heap} {x qual : Str} {st : Stmt} {f : Addr} {fd : FuncData} {N ps : List Str} {k n : Nat} {fr : Bool} {spec : Spec} (F : Fun K x qual st f fd) (S : FnScope N ps (defScope st)) (no : ∀ sa ds Kd KX, spec sa ds Kd KX → False) :
    FnOk P w K mg base (L2.CX P w) (k + 1) f fd ps (LSp K mg fr n spec) := by
  refine F.okX S (fun vs H Q E h => ?_) (fun cdv A outer s H vs Q E hr h => ?_)
  · obtain ⟨st, fix, tabs, ds, G, Kd, KX, ok, r, hl, h, _⟩ := h
    exact (no _ _ _ _ h).elim
  · obtain ⟨st, fix, tabs, ds, G, Kd, KX, ok, r, hl, h, _⟩ := h
    exact (no _ _ _ _ h).elim
abbrev s__law_start : Stmt := topS 41
abbrev N__law_start : List Str := ["_law_script", "_law_mixed", "_law_cell"]
theorem sc__law_start : FnScope N__law_start ["_law_script"] (defScope s__law_start) := ⟨rfl, rfl, rfl, by decide +kernel, rfl, by decide +kernel, by decide +kernel⟩
theorem fn__law_start {P : Program} {w : World} {K : PySem.W.Frag} {mg : Str → Option Value} {base : Heap} {f : Addr} {fd : FuncData} {k : Nat} (G : Fun K "_law_start" "_law_start" s__law_start f fd) : FnOk P w K mg base (L2.CX P w) (k + 1) f fd ["_law_script"] (spStart K) := by
  refine G.okX sc__law_start (fun vs H Q E h => ?_) (fun cdv A outer s H vs Q E hr h => ?_)
  · obtain ⟨a, ns, rfl, _⟩ := h
    rfl
  · obtain ⟨a, ns, rfl, hS, q⟩ := h
    refine ⟨_, pss_cons (ps_set (i := 1) sc__law_start.nd rfl (.inl rfl) pe_int) (pss_cons (ps_for (passes_of rfl) rfl (pi_list (pv 0)) (pg_name (i := 2) sc__law_start.nd rfl (.inl rfl))
      (pss_one (ps_set (i := 1) sc__law_start.nd rfl (.inl rfl) (pe_op op_mod (pe_op op_add (pe_op op_add (pe_op op_mul (pv 1) pe_int) (pv 2)) pe_int) pe_int))))
      (pss_one (ps_ret (pe_lst (pa_cons (pv 0) (pa_cons pe_int (pa_cons (pv 1) (pa_cons pe_int pa_nil)))))))), ?_⟩
    exact start_ok (Q := Q) hS q
abbrev s__law_drawn : Stmt := topS 42
abbrev N__law_drawn : List Str := ["_law_state", "_law_many", "_law_found", "_law_cell"]
theorem sc__law_drawn : FnScope N__law_drawn ["_law_state", "_law_many"] (defScope s__law_drawn) := ⟨rfl, rfl, rfl, by decide +kernel, rfl, by decide +kernel, by decide +kernel⟩
theorem fn__law_drawn {P : Program} {w : World} {K : PySem.W.Frag} {mg : Str → Option Value} {base : Heap} {f : Addr} {fd : FuncData} {k : Nat} (F : Free mg) (G : Fun K "_law_drawn" "_law_drawn" s__law_drawn f fd) : FnOk P w K mg base (L2.CX P w) (k + 1) f fd ["_law_state", "_law_many"] (LSp K mg false 2 sp__law_drawn) := by
  refine G.okX sc__law_drawn (fun vs H Q E h => ?_) (fun cdv A outer s H vs Q E hr h => ?_)
  · obtain ⟨st, fix, tabs, ds, G, Kd, KX, ok, r, hl, _⟩ := h
    rw [← r.length, hl]
    rfl
  · obtain ⟨st, fix, tabs, ds, G, Kd, KX, ok, r, hl, hs, pv', px⟩ := h
    unfold sp__law_drawn at hs
    obtain ⟨a, n, e1, e2, h0, h1, q⟩ := hs
    subst e2
    cases r with
    | cons r1 r2 =>
      cases r2 with
      | cons r2 r3 =>
        cases r3
        cases r1
        cases r2
        obtain ⟨⟨a', sa, ns⟩, rfl, rfl⟩ : ∃ p, st = some p ∧ p.1 = a := by
          cases st with
          | none => cases e1
          | some p => exact ⟨p, rfl, Option.some.inj e1⟩
        refine ⟨_, pss_cons (ps_if (pt_cmpR op_gt (pe_ix ix_list (pv 0) pe_int (fun _ _ => rfl)) pe_int (nomark _)) (pss_cons (ps_set (i := 2) sc__law_drawn.nd rfl (.inl rfl) (pe_op op_mod (pe_ix ix_list (pv 0) pe_int (fun _ _ => rfl)) (pv 1))) (pss_cons (ps_asg (pe_op op_fdivW (pe_ix ix_list (pv 0) pe_int (fun _ _ => rfl)) (pv 1)) (pg_sub (pv 0) pe_int set_list (by intro _; rfl))) (pss_one (ps_ret (pv 2))))) pss_nil)
          (pss_cons (ps_asg (pe_op op_add (pe_ix ix_list (pv 0) pe_int (fun _ _ => rfl)) pe_int) (pg_sub (pv 0) pe_int set_list (by intro _; rfl)))
          (pss_cons (ps_if (pt_cmpR op_le (pe_ix ix_list (pv 0) pe_int (fun _ _ => rfl)) (pe_callB call_len_seq (by rfl) F.len PySem.boot_len (pa_cons (pe_ix ix_list (pv 0) pe_int (fun _ _ => rfl)) pa_nil)) (nomark _))
            (pss_cons (ps_set (i := 3) sc__law_drawn.nd rfl (.inl rfl) (pe_ix ix_list (pe_ix ix_list (pv 0) pe_int (fun _ _ => rfl)) (pe_op op_sub (pe_ix ix_list (pv 0) pe_int (fun _ _ => rfl)) pe_int) (fun _ _ => rfl))) (pss_cons (ps_asg (pe_ifExp (pt_cmpR op_ge (pv 3) (pe_op op_pow pe_int pe_int) (nomark _)) (pe_op op_fdivW (pv 3) (pv 1)) pe_int) (pg_sub (pv 0) pe_int set_list (by intro _; rfl))) (pss_one (ps_ret (pe_op op_mod (pv 3) (pv 1)))))) pss_nil)
          (pss_cons (ps_asg (pe_op op_mod (pe_op op_add (pe_op op_mul (pe_ix ix_list (pv 0) pe_int (fun _ _ => rfl)) pe_int) pe_int) pe_int) (pg_sub (pv 0) pe_int set_list (by intro _; rfl)))
          (pss_one (ps_ret (pe_op op_mod (pe_op op_fdivW (pe_ix ix_list (pv 0) pe_int (fun _ _ => rfl)) pe_int) (pv 1))))))), ?_⟩
        exact drawn_ok (Q := Q) ok h0 h1 fun k H' k0 k1 o s => pv' _ _ _ _ s o (.int k) (q k k0 k1)
/-! ### _law_boxes -/
abbrev s__law_boxes : Stmt := topS 48
theorem sc__law_boxes : FnScope N__law_boxes ps__law_boxes (defScope s__law_boxes) := ⟨rfl, rfl, rfl, by decide +kernel, rfl, by decide +kernel, by decide +kernel⟩
theorem der__law_boxes {P : Program} {w : World} {K : PySem.W.Frag} {mg : Str → Option Value} {base : Heap} (F : Free mg) (d__law_drawn : Df P w K mg base "_law_drawn" 1 false 2 sp__law_drawn) {f : Addr} (s0 : Option (Addr × Addr × List Int)) (fix : List (Addr × HO)) (tabs : List (Addr × Str)) (B : Hp) (cdv : Value) (A : Around) (outer : List Env) (s : Shared) (H : Hp) (E : XK)
    (hr : Room 1 (A.deeper (envOfC "_law_boxes" (defScope s__law_boxes) s.heap.objs.size f cdv))) :
    MSs (cxOf (L2.CX P w) P w K mg base N__law_boxes "_law_boxes" (defScope s__law_boxes) f cdv A outer s H E) ⟨K, s0, fix, tabs⟩ E false B (defBody s__law_boxes) (m__law_boxes (s0.map (·.1))) := by
  have hpx : Passes (L2.CX P w) (cxOf (L2.CX P w) P w K mg base N__law_boxes "_law_boxes" (defScope s__law_boxes) f cdv A outer s H E) E := passes_call (takes_of rfl rfl rfl rfl) (fun _ _ _ _ h => h)
  exact
  (mss_one (ms_ret (me_ix rfl (MF.me (mf_lst (ma_cons (me_add rfl me_int (me_call d__law_drawn (hr.mono (by first | decide | omega)) rfl hpx rfl (ma_cons (me_var 0) (ma_cons me_int ma_nil)))) (ma_cons (me_add rfl me_int (me_call d__law_drawn (hr.mono (by first | decide | omega)) rfl hpx rfl (ma_cons (me_var 0) (ma_cons me_int ma_nil)))) (ma_cons (me_add rfl me_int (me_call d__law_drawn (hr.mono (by first | decide | omega)) rfl hpx rfl (ma_cons (me_var 0) (ma_cons me_int ma_nil)))) ma_nil))))) (me_call d__law_drawn (hr.mono (by first | decide | omega)) rfl hpx rfl (ma_cons (me_var 0) (ma_cons me_int ma_nil))))))
theorem fn__law_boxes {P : Program} {w : World} {K : PySem.W.Frag} {mg : Str → Option Value} {base : Heap} (F : Free mg) (d__law_drawn : Df P w K mg base "_law_drawn" 1 false 2 sp__law_drawn) {f : Addr} {fd : FuncData} (G : Fun K "_law_boxes" "_law_boxes" s__law_boxes f fd) : FnOk P w K mg base (L2.CX P w) 2 f fd ps__law_boxes (LSp K mg false 1 sp__law_boxes) :=
  fn_l3 (k := 1) G sc__law_boxes rfl m__law_boxes (fun s0 fix tabs B cdv A outer s H E hr => der__law_boxes F d__law_drawn s0 fix tabs B cdv A outer s H E hr) pu__law_boxes
/-! ### _law_order -/
abbrev s__law_order : Stmt := topS 46
theorem sc__law_order : FnScope N__law_order ps__law_order (defScope s__law_order) := ⟨rfl, rfl, rfl, by decide +kernel, rfl, by decide +kernel, by decide +kernel⟩
theorem der__law_order {P : Program} {w : World} {K : PySem.W.Frag} {mg : Str → Option Value} {base : Heap} (F : Free mg) (d__law_drawn : Df P w K mg base "_law_drawn" 1 false 2 sp__law_drawn) {f : Addr} (s0 : Option (Addr × Addr × List Int)) (fix : List (Addr × HO)) (tabs : List (Addr × Str)) (B : Hp) (cdv : Value) (A : Around) (outer : List Env) (s : Shared) (H : Hp) (E : XK)
    (hr : Room 1 (A.deeper (envOfC "_law_order" (defScope s__law_order) s.heap.objs.size f cdv))) :
    MSs (cxOf (L2.CX P w) P w K mg base N__law_order "_law_order" (defScope s__law_order) f cdv A outer s H E) ⟨K, s0, fix, tabs⟩ E false B (defBody s__law_order) (m__law_order (s0.map (·.1))) := by
  have hpx : Passes (L2.CX P w) (cxOf (L2.CX P w) P w K mg base N__law_order "_law_order" (defScope s__law_order) f cdv A outer s H E) E := passes_call (takes_of rfl rfl rfl rfl) (fun _ _ _ _ h => h)
  exact
  (mss_cons (ms_setF sc__law_order.nd (i := 2) rfl (by first | exact Or.inl rfl | exact Or.inr rfl) (mf_list F rfl rfl (ma_cons (me_var 1) ma_nil)))
  (mss_cons (ms_setF sc__law_order.nd (i := 3) rfl (by first | exact Or.inl rfl | exact Or.inr rfl) (mf_lst ma_nil))
  (mss_cons (ms_while (passes_of rfl) (mt_ne rfl hr.units (me_var 2) (MF.me (mf_lst ma_nil))) (mss_one (ms_appPop 3 2 (by decide) (h := ps_expr (pe_bm PySem.F.plainAttrs_list PySem.F.slot_list_append PySem.F.type_list_append mt_append (pv 3) (pa_cons (pe_bm PySem.F.plainAttrs_list PySem.F.slot_list_pop PySem.F.type_list_pop mt_popAt (pv 2) (pa_cons (me_call d__law_drawn (hr.mono (by first | decide | omega)) rfl hpx rfl (ma_cons (me_var 0) (ma_cons (me_len F rfl rfl (ma_cons (me_var 2) ma_nil)) ma_nil))) pa_nil)) pa_nil))))))
  (mss_one (ms_ret (me_var 3))))))
theorem fn__law_order {P : Program} {w : World} {K : PySem.W.Frag} {mg : Str → Option Value} {base : Heap} (F : Free mg) (d__law_drawn : Df P w K mg base "_law_drawn" 1 false 2 sp__law_drawn) {f : Addr} {fd : FuncData} (G : Fun K "_law_order" "_law_order" s__law_order f fd) : FnOk P w K mg base (L2.CX P w) 2 f fd ps__law_order (LSp K mg false 2 sp__law_order) :=
  fn_l3 (k := 1) G sc__law_order rfl m__law_order (fun s0 fix tabs B cdv A outer s H E hr => der__law_order F d__law_drawn s0 fix tabs B cdv A outer s H E hr) pu__law_order
/-! ### _law_lead -/
abbrev s__law_lead : Stmt := topS 47
theorem sc__law_lead : FnScope N__law_lead ps__law_lead (defScope s__law_lead) := ⟨rfl, rfl, rfl, by decide +kernel, rfl, by decide +kernel, by decide +kernel⟩
theorem der__law_lead {P : Program} {w : World} {K : PySem.W.Frag} {mg : Str → Option Value} {base : Heap} (F : Free mg) (d__law_drawn : Df P w K mg base "_law_drawn" 1 false 2 sp__law_drawn) (d__law_order : Df P w K mg base "_law_order" 2 false 2 sp__law_order) {f : Addr} (s0 : Option (Addr × Addr × List Int)) (fix : List (Addr × HO)) (tabs : List (Addr × Str)) (B : Hp) (cdv : Value) (A : Around) (outer : List Env) (s : Shared) (H : Hp) (E : XK)
    (hr : Room 2 (A.deeper (envOfC "_law_lead" (defScope s__law_lead) s.heap.objs.size f cdv))) :
    MSs (cxOf (L2.CX P w) P w K mg base N__law_lead "_law_lead" (defScope s__law_lead) f cdv A outer s H E) ⟨K, s0, fix, tabs⟩ E false B (defBody s__law_lead) (m__law_lead (s0.map (·.1))) := by
  have hpx : Passes (L2.CX P w) (cxOf (L2.CX P w) P w K mg base N__law_lead "_law_lead" (defScope s__law_lead) f cdv A outer s H E) E := passes_call (takes_of rfl rfl rfl rfl) (fun _ _ _ _ h => h)
  exact
  (mss_cons (ms_setD sc__law_lead.nd (i := 2) rfl (by first | exact Or.inl rfl | exact Or.inr rfl))
  (mss_cons (ms_set sc__law_lead.nd (i := 3) rfl (by first | exact Or.inl rfl | exact Or.inr rfl) (me_add rfl me_int (me_call d__law_drawn (hr.mono (by first | decide | omega)) rfl hpx rfl (ma_cons (me_var 0) (ma_cons me_int ma_nil)))))
  (mss_cons (ms_for (t := .nm 4) (passes_of rfl) rfl rfl (mi_range rfl F.range (ma_cons (me_var 1) ma_nil)) (pg_nm sc__law_lead.nd (i := 4) rfl (by first | exact Or.inl rfl | exact Or.inr rfl)) (mss_one (ms_if (mt_eq rfl hr.units (me_call d__law_drawn (hr.mono (by first | decide | omega)) rfl hpx rfl (ma_cons (me_var 0) (ma_cons (me_var 3) ma_nil))) me_int) (mss_one (ms_setK 2 (hu_of hr) (hi := (me_var 4)) (he := (me_call d__law_drawn (hr.mono (by first | decide | omega)) rfl hpx rfl (ma_cons (me_var 0) (ma_cons (me_var 1) ma_nil)))))) mss_nil)))
  (mss_cons (ms_if (mt_eq rfl hr.units (me_call d__law_drawn (hr.mono (by first | decide | omega)) rfl hpx rfl (ma_cons (me_var 0) (ma_cons me_int ma_nil))) me_int) (mss_cons (ms_set sc__law_lead.nd (i := 5) rfl (by first | exact Or.inl rfl | exact Or.inr rfl) (me_call d__law_order (hr.mono (by first | decide | omega)) rfl hpx rfl (ma_cons (me_var 0) (ma_cons (MF.me (mf_listRange F rfl rfl rfl (me_var 1))) ma_nil))))
    (mss_cons (ms_set sc__law_lead.nd (i := 5) rfl (by first | exact Or.inl rfl | exact Or.inr rfl) (me_sl rfl (me_var 5) mo_none (mo_some (me_call d__law_drawn (hr.mono (by first | decide | omega)) rfl hpx rfl (ma_cons (me_var 0) (ma_cons (me_add rfl (me_var 1) me_int) ma_nil))))))
    (mss_cons (ms_if (mt_eq rfl hr.units (me_call d__law_drawn (hr.mono (by first | decide | omega)) rfl hpx rfl (ma_cons (me_var 0) (ma_cons me_int ma_nil))) me_int) (mss_one (ms_setD sc__law_lead.nd (i := 2) rfl (by first | exact Or.inl rfl | exact Or.inr rfl))) mss_nil)
    (mss_cons (ms_set sc__law_lead.nd (i := 6) rfl (by first | exact Or.inl rfl | exact Or.inr rfl) (me_call d__law_drawn (hr.mono (by first | decide | omega)) rfl hpx rfl (ma_cons (me_var 0) (ma_cons (me_add rfl (me_len F rfl rfl (ma_cons (me_var 5) ma_nil)) me_int) ma_nil))))
    (mss_one (ms_for (t := .nm 7) (passes_of rfl) rfl rfl (mi_any rfl (MF.me (mf_lst (ma_cons (me_sl rfl (me_var 5) mo_none (mo_some (me_var 6))) (ma_cons (me_sl rfl (me_var 5) (mo_some (me_var 6)) mo_none) ma_nil))))) (pg_nm sc__law_lead.nd (i := 7) rfl (by first | exact Or.inl rfl | exact Or.inr rfl)) (mss_one (ms_for (t := .nm 8) (passes_of rfl) rfl rfl (mi_range rfl F.range (ma_cons (me_len F rfl rfl (ma_cons (me_var 7) ma_nil)) ma_nil)) (pg_nm sc__law_lead.nd (i := 8) rfl (by first | exact Or.inl rfl | exact Or.inr rfl)) (mss_one (ms_setK 2 (hu_of hr) (hi := (me_ix rfl (me_var 7) (me_var 8))) (he := (me_ix rfl (me_var 7) (me_sub (me_var 8) me_int))))))))))))) mss_nil)
  (mss_one (ms_frzD 2 (ms_ret (MF.me (mf_lc (own := [("_law_goal", 9)]) (t := (.nm 9)) rfl rfl sc__law_lead.nd (mi_any rfl (me_call d__law_order (hr.mono (by first | decide | omega)) rfl hpx rfl (ma_cons (me_var 0) (ma_cons (MF.me (mf_sorted F rfl rfl rfl (ma_cons (me_var 2) ma_nil))) ma_nil)))) (blkOk_by (N := N__law_lead) (sc := defScope s__law_lead) (by decide +kernel)) (by decide) (fun _ _ _ _ _ => (pg_nm sc__law_lead.nd (i := 9) rfl (by first | exact Or.inl rfl | exact Or.inr rfl))) (fun _ _ _ _ _ => mts_nil) (fun _ _ _ _ _ => (me_tup (ma_cons (me_var 9) (ma_cons (me_getK (hu_of hr) (me_var 2) (me_var 9)) ma_nil)))))))))))))
theorem fn__law_lead {P : Program} {w : World} {K : PySem.W.Frag} {mg : Str → Option Value} {base : Heap} (F : Free mg) (d__law_drawn : Df P w K mg base "_law_drawn" 1 false 2 sp__law_drawn) (d__law_order : Df P w K mg base "_law_order" 2 false 2 sp__law_order) {f : Addr} {fd : FuncData} (G : Fun K "_law_lead" "_law_lead" s__law_lead f fd) : FnOk P w K mg base (L2.CX P w) 3 f fd ps__law_lead (LSp K mg false 2 sp__law_lead) :=
  fn_l3 (k := 2) G sc__law_lead rfl m__law_lead (fun s0 fix tabs B cdv A outer s H E hr => der__law_lead F d__law_drawn d__law_order s0 fix tabs B cdv A outer s H E hr) pu__law_lead
/-! ### _law_worths -/
abbrev s__law_worths : Stmt := topS 49
theorem sc__law_worths : FnScope N__law_worths ps__law_worths (defScope s__law_worths) := ⟨rfl, rfl, rfl, by decide +kernel, rfl, by decide +kernel, by decide +kernel⟩
theorem der__law_worths {P : Program} {w : World} {K : PySem.W.Frag} {mg : Str → Option Value} {base : Heap} (F : Free mg) (d__law_drawn : Df P w K mg base "_law_drawn" 1 false 2 sp__law_drawn) {f : Addr} (s0 : Option (Addr × Addr × List Int)) (fix : List (Addr × HO)) (tabs : List (Addr × Str)) (B : Hp) (cdv : Value) (A : Around) (outer : List Env) (s : Shared) (H : Hp) (E : XK)
    (hr : Room 1 (A.deeper (envOfC "_law_worths" (defScope s__law_worths) s.heap.objs.size f cdv))) :
    MSs (cxOf (L2.CX P w) P w K mg base N__law_worths "_law_worths" (defScope s__law_worths) f cdv A outer s H E) ⟨K, s0, fix, tabs⟩ E false B (defBody s__law_worths) (m__law_worths (s0.map (·.1))) := by
  have hpx : Passes (L2.CX P w) (cxOf (L2.CX P w) P w K mg base N__law_worths "_law_worths" (defScope s__law_worths) f cdv A outer s H E) E := passes_call (takes_of rfl rfl rfl rfl) (fun _ _ _ _ h => h)
  exact
  (mss_cons (ms_set sc__law_worths.nd (i := 2) rfl (by first | exact Or.inl rfl | exact Or.inr rfl) (me_ix rfl (MF.me (mf_lst (ma_cons me_int (ma_cons me_int (ma_cons (me_pow me_int me_int) ma_nil))))) (me_call d__law_drawn (hr.mono (by first | decide | omega)) rfl hpx rfl (ma_cons (me_var 0) (ma_cons me_int ma_nil)))))
  (mss_one (ms_ret (MF.me (mf_lc (own := [("_law_box", 3)]) (t := (.nm 3)) rfl rfl sc__law_worths.nd (mi_range rfl F.range (ma_cons (me_var 1) ma_nil)) (blkOk_by (N := N__law_worths) (sc := defScope s__law_worths) (by decide +kernel)) (by decide) (fun _ _ _ _ _ => (pg_nm sc__law_worths.nd (i := 3) rfl (by first | exact Or.inl rfl | exact Or.inr rfl))) (fun _ _ _ _ _ => mts_nil) (fun _ _ _ _ _ => (me_sub (me_call d__law_drawn (hr.mono (by first | decide | omega)) rfl passL rfl (ma_cons (me_var 0) (ma_cons (me_var 2) ma_nil))) (me_mul (me_call d__law_drawn (hr.mono (by first | decide | omega)) rfl passL rfl (ma_cons (me_var 0) (ma_cons me_int ma_nil))) (me_var 2)))))))))
theorem fn__law_worths {P : Program} {w : World} {K : PySem.W.Frag} {mg : Str → Option Value} {base : Heap} (F : Free mg) (d__law_drawn : Df P w K mg base "_law_drawn" 1 false 2 sp__law_drawn) {f : Addr} {fd : FuncData} (G : Fun K "_law_worths" "_law_worths" s__law_worths f fd) : FnOk P w K mg base (L2.CX P w) 2 f fd ps__law_worths (LSp K mg false 2 sp__law_worths) :=
  fn_l3 (k := 1) G sc__law_worths rfl m__law_worths (fun s0 fix tabs B cdv A outer s H E hr => der__law_worths F d__law_drawn s0 fix tabs B cdv A outer s H E hr) pu__law_worths
/-! ### _law_far -/
abbrev s__law_far : Stmt := topS 45
theorem sc__law_far : FnScope N__law_far ps__law_far (defScope s__law_far) := ⟨rfl, rfl, rfl, by decide +kernel, rfl, by decide +kernel, by decide +kernel⟩
theorem der__law_far {P : Program} {w : World} {K : PySem.W.Frag} {mg : Str → Option Value} {base : Heap} (F : Free mg) (d__law_drawn : Df P w K mg base "_law_drawn" 1 false 2 sp__law_drawn) {f : Addr} (s0 : Option (Addr × Addr × List Int)) (fix : List (Addr × HO)) (tabs : List (Addr × Str)) (B : Hp) (cdv : Value) (A : Around) (outer : List Env) (s : Shared) (H : Hp) (E : XK)
    (hr : Room 1 (A.deeper (envOfC "_law_far" (defScope s__law_far) s.heap.objs.size f cdv))) :
    MSs (cxOf (L2.CX P w) P w K mg base N__law_far "_law_far" (defScope s__law_far) f cdv A outer s H E) ⟨K, s0, fix, tabs⟩ E false B (defBody s__law_far) (m__law_far (s0.map (·.1))) := by
  have hpx : Passes (L2.CX P w) (cxOf (L2.CX P w) P w K mg base N__law_far "_law_far" (defScope s__law_far) f cdv A outer s H E) E := passes_call (takes_of rfl rfl rfl rfl) (fun _ _ _ _ h => h)
  exact
  (mss_cons (ms_set sc__law_far.nd (i := 2) rfl (by first | exact Or.inl rfl | exact Or.inr rfl) (me_ix rfl (MF.me (mf_lst (ma_cons me_int (ma_cons me_int (ma_cons (me_pow me_int me_int) ma_nil))))) (me_call d__law_drawn (hr.mono (by first | decide | omega)) rfl hpx rfl (ma_cons (me_var 0) (ma_cons me_int ma_nil)))))
  (mss_one (ms_ret (me_ix rfl (MF.me (mf_lst (ma_cons (me_sub (me_sub me_int me_int) (me_call d__law_drawn (hr.mono (by first | decide | omega)) rfl hpx rfl (ma_cons (me_var 0) (ma_cons (me_var 2) ma_nil)))) (ma_cons (me_add rfl (me_add rfl (me_var 1) me_int) (me_call d__law_drawn (hr.mono (by first | decide | omega)) rfl hpx rfl (ma_cons (me_var 0) (ma_cons (me_var 2) ma_nil)))) ma_nil)))) (me_call d__law_drawn (hr.mono (by first | decide | omega)) rfl hpx rfl (ma_cons (me_var 0) (ma_cons me_int ma_nil)))))))
theorem fn__law_far {P : Program} {w : World} {K : PySem.W.Frag} {mg : Str → Option Value} {base : Heap} (F : Free mg) (d__law_drawn : Df P w K mg base "_law_drawn" 1 false 2 sp__law_drawn) {f : Addr} {fd : FuncData} (G : Fun K "_law_far" "_law_far" s__law_far f fd) : FnOk P w K mg base (L2.CX P w) 2 f fd ps__law_far (LSp K mg false 2 sp__law_far) :=
  fn_l3 (k := 1) G sc__law_far rfl m__law_far (fun s0 fix tabs B cdv A outer s H E hr => der__law_far F d__law_drawn s0 fix tabs B cdv A outer s H E hr) pu__law_far
/-! ### need_boxes -/
abbrev s_need_boxes : Stmt := topS 13
theorem sc_need_boxes : FnScope N_need_boxes ps_need_boxes (defScope s_need_boxes) := ⟨rfl, rfl, rfl, by decide +kernel, rfl, by decide +kernel, by decide +kernel⟩
theorem der_need_boxes {P : Program} {w : World} {K : PySem.W.Frag} {mg : Str → Option Value} {base : Heap} (F : Free mg) (x_BadLead : XOk K mg "BadLead") (g_MOST_BOXES : ∃ t, mg "MOST_BOXES" = some (.int 10 t)) {f : Addr} (s0 : Option (Addr × Addr × List Int)) (fix : List (Addr × HO)) (tabs : List (Addr × Str)) (B : Hp) (cdv : Value) (A : Around) (outer : List Env) (s : Shared) (H : Hp) (E : XK)
    (hr : Room 0 (A.deeper (envOfC "need_boxes" (defScope s_need_boxes) s.heap.objs.size f cdv))) :
    MSs (cxOf (L2.CX P w) P w K mg base N_need_boxes "need_boxes" (defScope s_need_boxes) f cdv A outer s H E) ⟨K, s0, fix, tabs⟩ E false B (defBody s_need_boxes) (m_need_boxes (s0.map (·.1))) := by
  have hpx : Passes (L2.CX P w) (cxOf (L2.CX P w) P w K mg base N_need_boxes "need_boxes" (defScope s_need_boxes) f cdv A outer s H E) E := passes_call (takes_of rfl rfl rfl rfl) (fun _ _ _ _ h => h)
  exact
  (mss_one (ms_if (mt_not (mt_leLe me_int (me_var 0) (me_globI g_MOST_BOXES rfl))) (mss_one (ms_raiseX x_BadLead rfl (takes_of rfl rfl rfl rfl) rfl)) mss_nil))
theorem fn_need_boxes {P : Program} {w : World} {K : PySem.W.Frag} {mg : Str → Option Value} {base : Heap} (F : Free mg) (x_BadLead : XOk K mg "BadLead") (g_MOST_BOXES : ∃ t, mg "MOST_BOXES" = some (.int 10 t)) {f : Addr} {fd : FuncData} (G : Fun K "need_boxes" "need_boxes" s_need_boxes f fd) : FnOk P w K mg base (L2.CX P w) 1 f fd ps_need_boxes (LSp K mg false 1 sp_need_boxes) :=
  fn_l3 (k := 0) G sc_need_boxes rfl m_need_boxes (fun s0 fix tabs B cdv A outer s H E hr => der_need_boxes F x_BadLead g_MOST_BOXES s0 fix tabs B cdv A outer s H E hr) pu_need_boxes
/-! ### is_box -/
abbrev s_is_box : Stmt := topS 12
theorem sc_is_box : FnScope N_is_box ps_is_box (defScope s_is_box) := ⟨rfl, rfl, rfl, by decide +kernel, rfl, by decide +kernel, by decide +kernel⟩
theorem der_is_box {P : Program} {w : World} {K : PySem.W.Frag} {mg : Str → Option Value} {base : Heap} (F : Free mg) {f : Addr} (s0 : Option (Addr × Addr × List Int)) (fix : List (Addr × HO)) (tabs : List (Addr × Str)) (B : Hp) (cdv : Value) (A : Around) (outer : List Env) (s : Shared) (H : Hp) (E : XK)
    (hr : Room 0 (A.deeper (envOfC "is_box" (defScope s_is_box) s.heap.objs.size f cdv))) :
    MSs (cxOf (L2.CX P w) P w K mg base N_is_box "is_box" (defScope s_is_box) f cdv A outer s H E) ⟨K, s0, fix, tabs⟩ E false B (defBody s_is_box) (m_is_box (s0.map (·.1))) := by
  have hpx : Passes (L2.CX P w) (cxOf (L2.CX P w) P w K mg base N_is_box "is_box" (defScope s_is_box) f cdv A outer s H E) E := passes_call (takes_of rfl rfl rfl rfl) (fun _ _ _ _ h => h)
  exact
  (mss_one (ms_ret (me_leLt me_int (me_var 1) (me_var 0))))
theorem fn_is_box {P : Program} {w : World} {K : PySem.W.Frag} {mg : Str → Option Value} {base : Heap} (F : Free mg) {f : Addr} {fd : FuncData} (G : Fun K "is_box" "is_box" s_is_box f fd) : FnOk P w K mg base (L2.CX P w) 1 f fd ps_is_box (LSp K mg false 2 sp_is_box) :=
  fn_l3 (k := 0) G sc_is_box rfl m_is_box (fun s0 fix tabs B cdv A outer s H E hr => der_is_box F s0 fix tabs B cdv A outer s H E hr) pu_is_box
/-! ### need_lead -/
abbrev s_need_lead : Stmt := topS 14
theorem sc_need_lead : FnScope N_need_lead ps_need_lead (defScope s_need_lead) := ⟨rfl, rfl, rfl, by decide +kernel, rfl, by decide +kernel, by decide +kernel⟩
theorem der_need_lead {P : Program} {w : World} {K : PySem.W.Frag} {mg : Str → Option Value} {base : Heap} (F : Free mg) (d_is_box : Df P w K mg base "is_box" 1 false 2 sp_is_box) (d_need_boxes : Df P w K mg base "need_boxes" 1 false 1 sp_need_boxes) (x_BadLead : XOk K mg "BadLead") {f : Addr} (s0 : Option (Addr × Addr × List Int)) (fix : List (Addr × HO)) (tabs : List (Addr × Str)) (B : Hp) (cdv : Value) (A : Around) (outer : List Env) (s : Shared) (H : Hp) (E : XK)
    (hr : Room 1 (A.deeper (envOfC "need_lead" (defScope s_need_lead) s.heap.objs.size f cdv))) :
    MSs (cxOf (L2.CX P w) P w K mg base N_need_lead "need_lead" (defScope s_need_lead) f cdv A outer s H E) ⟨K, s0, fix, tabs⟩ E false B (defBody s_need_lead) (m_need_lead (s0.map (·.1))) := by
  have hpx : Passes (L2.CX P w) (cxOf (L2.CX P w) P w K mg base N_need_lead "need_lead" (defScope s_need_lead) f cdv A outer s H E) E := passes_call (takes_of rfl rfl rfl rfl) (fun _ _ _ _ h => h)
  exact
  (mss_cons (ms_expr (me_call d_need_boxes (hr.mono (by first | decide | omega)) rfl hpx rfl (ma_cons (me_var 0) ma_nil)))
  (mss_cons (ms_setLcS (i := 2) (own := [("goal", 3), ("source", 4)]) (t := (.tp [3, 4])) rfl rfl sc_need_lead.nd rfl rfl (sw_true rfl rfl rfl (by decide +kernel)) (mi_any rfl (me_var 1)) (blkOk_by (N := N_need_lead) (sc := defScope s_need_lead) (by decide +kernel)) (by decide) (fun _ _ _ _ _ => (pg_tp rfl (pgs_nm sc_need_lead.nd (i := 3) rfl (by first | exact Or.inl rfl | exact Or.inr rfl) (pgs_nm sc_need_lead.nd (i := 4) rfl (by first | exact Or.inl rfl | exact Or.inr rfl) pgs_no)))) (fun _ _ _ _ _ => mts_nil) (fun _ _ _ _ _ => (me_var 3)))
  (mss_cons (ms_if (mt_ne rfl hr.units (me_lenSet F rfl rfl rfl rfl (me_var 2)) (me_len F rfl rfl (ma_cons (me_var 2) ma_nil))) (mss_one (ms_raiseX x_BadLead rfl (takes_of rfl rfl rfl rfl) rfl)) mss_nil)
  (mss_one (ms_if (mt_ne rfl hr.units (MF.me (mf_lc (own := [("pair", 5)]) (t := (.nm 5)) rfl rfl sc_need_lead.nd (mi_any rfl (me_var 1)) (blkOk_by (N := N_need_lead) (sc := defScope s_need_lead) (by decide +kernel)) (by decide) (fun _ _ _ _ _ => (pg_nm sc_need_lead.nd (i := 5) rfl (by first | exact Or.inl rfl | exact Or.inr rfl))) (fun _ _ _ _ _ => (mts_one (mt_w (mw_or (mt_not (mt_val (me_call d_is_box (hr.mono (by first | decide | omega)) rfl passL rfl (ma_cons (me_var 0) (ma_cons (me_ix rfl (me_var 5) me_int) ma_nil))))) (mw_or1 (mt_not (mt_val (me_call d_is_box (hr.mono (by first | decide | omega)) rfl passL rfl (ma_cons (me_var 0) (ma_cons (me_ix rfl (me_var 5) me_int) ma_nil)))))))))) (fun _ _ _ _ _ => (me_var 5)))) (MF.me (mf_lst ma_nil))) (mss_one (ms_raiseX x_BadLead rfl (takes_of rfl rfl rfl rfl) rfl)) mss_nil)))))
theorem fn_need_lead {P : Program} {w : World} {K : PySem.W.Frag} {mg : Str → Option Value} {base : Heap} (F : Free mg) (d_is_box : Df P w K mg base "is_box" 1 false 2 sp_is_box) (d_need_boxes : Df P w K mg base "need_boxes" 1 false 1 sp_need_boxes) (x_BadLead : XOk K mg "BadLead") {f : Addr} {fd : FuncData} (G : Fun K "need_lead" "need_lead" s_need_lead f fd) : FnOk P w K mg base (L2.CX P w) 2 f fd ps_need_lead (LSp K mg false 2 sp_need_lead) :=
  fn_l3 (k := 1) G sc_need_lead rfl m_need_lead (fun s0 fix tabs B cdv A outer s H E hr => der_need_lead F d_is_box d_need_boxes x_BadLead s0 fix tabs B cdv A outer s H E hr) pu_need_lead
/-! ### at_once -/
abbrev s_at_once : Stmt := topS 15
theorem sc_at_once : FnScope N_at_once ps_at_once (defScope s_at_once) := ⟨rfl, rfl, rfl, by decide +kernel, rfl, by decide +kernel, by decide +kernel⟩
theorem der_at_once {P : Program} {w : World} {K : PySem.W.Frag} {mg : Str → Option Value} {base : Heap} (F : Free mg) (d_need_lead : Df P w K mg base "need_lead" 2 false 2 sp_need_lead) {f : Addr} (s0 : Option (Addr × Addr × List Int)) (fix : List (Addr × HO)) (tabs : List (Addr × Str)) (B : Hp) (cdv : Value) (A : Around) (outer : List Env) (s : Shared) (H : Hp) (E : XK)
    (hr : Room 2 (A.deeper (envOfC "at_once" (defScope s_at_once) s.heap.objs.size f cdv))) :
    MSs (cxOf (L2.CX P w) P w K mg base N_at_once "at_once" (defScope s_at_once) f cdv A outer s H E) ⟨K, s0, fix, tabs⟩ E true B (defBody s_at_once) (m_at_once (s0.map (·.1))) := by
  have hpx : Passes (L2.CX P w) (cxOf (L2.CX P w) P w K mg base N_at_once "at_once" (defScope s_at_once) f cdv A outer s H E) E := passes_call (takes_of rfl rfl rfl rfl) (fun _ _ _ _ h => h)
  exact
  (mss_cons (ms_expr (me_call d_need_lead (hr.mono (by first | decide | omega)) rfl hpx rfl (ma_cons (me_len F rfl rfl (ma_cons (me_var 0) ma_nil)) (ma_cons (me_var 1) ma_nil))))
  (mss_cons (ms_setF sc_at_once.nd (i := 2) rfl (by first | exact Or.inl rfl | exact Or.inr rfl) (mf_list F rfl rfl (ma_cons (me_var 0) ma_nil)))
  (mss_cons (ms_for (t := .tp [3, 4]) (passes_of rfl) rfl rfl (mi_any rfl (me_var 1)) (pg_tp rfl (pgs_nm sc_at_once.nd (i := 3) rfl (by first | exact Or.inl rfl | exact Or.inr rfl) (pgs_nm sc_at_once.nd (i := 4) rfl (by first | exact Or.inl rfl | exact Or.inr rfl) pgs_no))) (mss_one (ms_setIx 2 (hi := (me_var 3)) (he := (me_ix rfl (me_var 0) (me_var 4))))))
  (mss_one (ms_retO 2)))))
theorem fn_at_once {P : Program} {w : World} {K : PySem.W.Frag} {mg : Str → Option Value} {base : Heap} (F : Free mg) (d_need_lead : Df P w K mg base "need_lead" 2 false 2 sp_need_lead) {f : Addr} {fd : FuncData} (G : Fun K "at_once" "at_once" s_at_once f fd) : FnOk P w K mg base (L2.CX P w) 3 f fd ps_at_once (LSp K mg true 2 sp_at_once) :=
  fn_l3 (k := 2) G sc_at_once rfl m_at_once (fun s0 fix tabs B cdv A outer s H E hr => der_at_once F d_need_lead s0 fix tabs B cdv A outer s H E hr) pu_at_once
/-! ### _law_same -/
abbrev s__law_same : Stmt := topS 43
theorem sc__law_same : FnScope N__law_same ps__law_same (defScope s__law_same) := ⟨rfl, rfl, rfl, by decide +kernel, rfl, by decide +kernel, by decide +kernel⟩
theorem der__law_same {P : Program} {w : World} {K : PySem.W.Frag} {mg : Str → Option Value} {base : Heap} (F : Free mg) {m : Nat} (d__law_same : Df P w K mg base "_law_same" (1 + m) false 2 (sp__law_same m)) {f : Addr} (s0 : Option (Addr × Addr × List Int)) (fix : List (Addr × HO)) (tabs : List (Addr × Str)) (B : Hp) (cdv : Value) (A : Around) (outer : List Env) (s : Shared) (H : Hp) (E : XK)
    (hr : Room (1 + m) (A.deeper (envOfC "_law_same" (defScope s__law_same) s.heap.objs.size f cdv))) :
    MSs (cxOf (L2.CX P w) P w K mg base N__law_same "_law_same" (defScope s__law_same) f cdv A outer s H E) ⟨K, s0, fix, tabs⟩ E false B (defBody s__law_same) (m__law_same m (s0.map (·.1))) := by
  have hpx : Passes (L2.CX P w) (cxOf (L2.CX P w) P w K mg base N__law_same "_law_same" (defScope s__law_same) f cdv A outer s H E) E := passes_call (takes_of rfl rfl rfl rfl) (fun _ _ _ _ h => h)
  exact
  (mss_cons (ms_if (mt_val (me_isi2 (S := "tuple") (T := "list") F rfl rfl (me_var 1) rfl F.tuple (by decide +kernel) rfl F.list (by decide +kernel))) (mss_cons (ms_if (mt_w (mw_or (mt_not (mt_val (me_isi2 (S := "tuple") (T := "list") F rfl rfl (me_var 0) rfl F.tuple (by decide +kernel) rfl F.list (by decide +kernel)))) (mw_or1 (mt_ne rfl hr.units (me_isi (T := "list") F rfl rfl (me_var 0) rfl F.list (by decide +kernel)) (me_isi (T := "list") F rfl rfl (me_var 1) rfl F.list (by decide +kernel)))))) (mss_one (ms_ret me_bl)) mss_nil)
    (mss_cons (ms_if (mt_ne rfl hr.units (me_len F rfl rfl (ma_cons (me_var 0) ma_nil)) (me_len F rfl rfl (ma_cons (me_var 1) ma_nil))) (mss_one (ms_ret me_bl)) mss_nil)
    (mss_one (ms_ret (me_eq rfl hr.units (MF.me (mf_lc (own := [("_law_k", 2)]) (t := (.nm 2)) rfl rfl sc__law_same.nd (mi_range rfl F.range (ma_cons (me_len F rfl rfl (ma_cons (me_var 1) ma_nil)) ma_nil)) (blkOk_by (N := N__law_same) (sc := defScope s__law_same) (by decide +kernel)) (by decide) (fun _ _ _ _ _ => (pg_nm sc__law_same.nd (i := 2) rfl (by first | exact Or.inl rfl | exact Or.inr rfl))) (fun _ _ _ _ _ => (mts_one (mt_not (mt_val (me_call d__law_same (hr.mono (by first | decide | omega)) rfl passL rfl (ma_cons (me_ix rfl (me_var 0) (me_var 2)) (ma_cons (me_ix rfl (me_var 1) (me_var 2)) ma_nil))))))) (fun _ _ _ _ _ => (me_var 2)))) (MF.me (mf_lst ma_nil))))))) mss_nil)
  (mss_cons (ms_if (mt_isN (me_var 1) me_non) (mss_one (ms_ret (me_isN (me_var 0) me_non))) mss_nil)
  (mss_cons (ms_if (mt_val (me_isi (T := "str") F rfl rfl (me_var 1) rfl F.str (by decide +kernel))) (mss_one (ms_ret (me_and (me_isi (T := "str") F rfl rfl (me_var 0) rfl F.str (by decide +kernel)) (me_one (me_eq rfl hr.units (me_var 0) (me_var 1)))))) mss_nil)
  (mss_cons (ms_if (mt_w (mw_or (mt_val (me_isi (T := "bool") F rfl rfl (me_var 1) rfl F.bool (by decide +kernel))) (mw_or1 (mt_val (me_isi (T := "bool") F rfl rfl (me_var 0) rfl F.bool (by decide +kernel)))))) (mss_one (ms_ret (me_and (me_isi (T := "bool") F rfl rfl (me_var 1) rfl F.bool (by decide +kernel)) (me_and (me_isi (T := "bool") F rfl rfl (me_var 0) rfl F.bool (by decide +kernel)) (me_one (me_eq rfl hr.units (me_var 0) (me_var 1))))))) mss_nil)
  (mss_one (ms_ret (me_and (me_isi (T := "int") F rfl rfl (me_var 0) rfl F.int (by decide +kernel)) (me_one (me_eq rfl hr.units (me_var 0) (me_var 1))))))))))
theorem fn__law_same {P : Program} {w : World} {K : PySem.W.Frag} {mg : Str → Option Value} {base : Heap} (F : Free mg) {f : Addr} {fd : FuncData} (G : Fun K "_law_same" "_law_same" s__law_same f fd) (b : L2.Binds K fd ps__law_same []) (g : mg "_law_same" = some (.ref f)) : ∀ m : Nat, FnOk P w K mg base (L2.CX P w) (1 + m) f fd ps__law_same (LSp K mg false 2 (sp__law_same m))
  | 0 => fn_no G sc__law_same no__law_same
  | m + 1 => fn_l3 (k := 1 + m) G sc__law_same rfl (fun sa => m__law_same m sa) (fun s0 fix tabs B cdv A outer s H E hr => der__law_same F ⟨⟨f, fd, ps__law_same, fn__law_same F G b g m, g, G.kp, b⟩⟩ s0 fix tabs B cdv A outer s H E hr) (pu__law_same m)
/-! ### rings -/
abbrev s_rings : Stmt := topS 21
theorem sc_rings : FnScope N_rings ps_rings (defScope s_rings) := ⟨rfl, rfl, rfl, by decide +kernel, rfl, by decide +kernel, by decide +kernel⟩
theorem der_rings {P : Program} {w : World} {K : PySem.W.Frag} {mg : Str → Option Value} {base : Heap} (F : Free mg) (d_need_lead : Df P w K mg base "need_lead" 2 false 2 sp_need_lead) {f : Addr} (s0 : Option (Addr × Addr × List Int)) (fix : List (Addr × HO)) (tabs : List (Addr × Str)) (B : Hp) (cdv : Value) (A : Around) (outer : List Env) (s : Shared) (H : Hp) (E : XK)
    (hr : Room 2 (A.deeper (envOfC "rings" (defScope s_rings) s.heap.objs.size f cdv))) :
    MSs (cxOf (L2.CX P w) P w K mg base N_rings "rings" (defScope s_rings) f cdv A outer s H E) ⟨K, s0, fix, tabs⟩ E true B (defBody s_rings) (m_rings (s0.map (·.1))) := by
  have hpx : Passes (L2.CX P w) (cxOf (L2.CX P w) P w K mg base N_rings "rings" (defScope s_rings) f cdv A outer s H E) E := passes_call (takes_of rfl rfl rfl rfl) (fun _ _ _ _ h => h)
  exact
  (mss_cons (ms_expr (me_call d_need_lead (hr.mono (by first | decide | omega)) rfl hpx rfl (ma_cons (me_var 0) (ma_cons (me_var 1) ma_nil))))
  (mss_never _))
theorem fn_rings {P : Program} {w : World} {K : PySem.W.Frag} {mg : Str → Option Value} {base : Heap} (F : Free mg) (d_need_lead : Df P w K mg base "need_lead" 2 false 2 sp_need_lead) {f : Addr} {fd : FuncData} (G : Fun K "rings" "rings" s_rings f fd) : FnOk P w K mg base (L2.CX P w) 3 f fd ps_rings (LSp K mg true 2 sp_rings) :=
  fn_l3 (k := 2) G sc_rings rfl m_rings (fun s0 fix tabs B cdv A outer s H E hr => der_rings F d_need_lead s0 fix tabs B cdv A outer s H E hr) pu_rings
/-! ### shut_rings -/
abbrev s_shut_rings : Stmt := topS 22
theorem sc_shut_rings : FnScope N_shut_rings ps_shut_rings (defScope s_shut_rings) := ⟨rfl, rfl, rfl, by decide +kernel, rfl, by decide +kernel, by decide +kernel⟩
theorem der_shut_rings {P : Program} {w : World} {K : PySem.W.Frag} {mg : Str → Option Value} {base : Heap} (F : Free mg) (d_need_lead : Df P w K mg base "need_lead" 2 false 2 sp_need_lead) {f : Addr} (s0 : Option (Addr × Addr × List Int)) (fix : List (Addr × HO)) (tabs : List (Addr × Str)) (B : Hp) (cdv : Value) (A : Around) (outer : List Env) (s : Shared) (H : Hp) (E : XK)
    (hr : Room 2 (A.deeper (envOfC "shut_rings" (defScope s_shut_rings) s.heap.objs.size f cdv))) :
    MSs (cxOf (L2.CX P w) P w K mg base N_shut_rings "shut_rings" (defScope s_shut_rings) f cdv A outer s H E) ⟨K, s0, fix, tabs⟩ E true B (defBody s_shut_rings) (m_shut_rings (s0.map (·.1))) := by
  have hpx : Passes (L2.CX P w) (cxOf (L2.CX P w) P w K mg base N_shut_rings "shut_rings" (defScope s_shut_rings) f cdv A outer s H E) E := passes_call (takes_of rfl rfl rfl rfl) (fun _ _ _ _ h => h)
  exact
  (mss_cons (ms_expr (me_call d_need_lead (hr.mono (by first | decide | omega)) rfl hpx rfl (ma_cons (me_var 0) (ma_cons (me_var 1) ma_nil))))
  (mss_never _))
theorem fn_shut_rings {P : Program} {w : World} {K : PySem.W.Frag} {mg : Str → Option Value} {base : Heap} (F : Free mg) (d_need_lead : Df P w K mg base "need_lead" 2 false 2 sp_need_lead) {f : Addr} {fd : FuncData} (G : Fun K "shut_rings" "shut_rings" s_shut_rings f fd) : FnOk P w K mg base (L2.CX P w) 3 f fd ps_shut_rings (LSp K mg true 2 sp_shut_rings) :=
  fn_l3 (k := 2) G sc_shut_rings rfl m_shut_rings (fun s0 fix tabs B cdv A outer s H E hr => der_shut_rings F d_need_lead s0 fix tabs B cdv A outer s H E hr) pu_shut_rings
/-! ### does -/
abbrev s_does : Stmt := topS 30
theorem sc_does : FnScope N_does ps_does (defScope s_does) := ⟨rfl, rfl, rfl, by decide +kernel, rfl, by decide +kernel, by decide +kernel⟩
theorem der_does {P : Program} {w : World} {K : PySem.W.Frag} {mg : Str → Option Value} {base : Heap} (F : Free mg) (d_need_lead : Df P w K mg base "need_lead" 2 false 2 sp_need_lead) {f : Addr} (s0 : Option (Addr × Addr × List Int)) (fix : List (Addr × HO)) (tabs : List (Addr × Str)) (B : Hp) (cdv : Value) (A : Around) (outer : List Env) (s : Shared) (H : Hp) (E : XK)
    (hr : Room 2 (A.deeper (envOfC "does" (defScope s_does) s.heap.objs.size f cdv))) :
    MSs (cxOf (L2.CX P w) P w K mg base N_does "does" (defScope s_does) f cdv A outer s H E) ⟨K, s0, fix, tabs⟩ E false B (defBody s_does) (m_does (s0.map (·.1))) := by
  have hpx : Passes (L2.CX P w) (cxOf (L2.CX P w) P w K mg base N_does "does" (defScope s_does) f cdv A outer s H E) E := passes_call (takes_of rfl rfl rfl rfl) (fun _ _ _ _ h => h)
  exact
  (mss_cons (ms_expr (me_call d_need_lead (hr.mono (by first | decide | omega)) rfl hpx rfl (ma_cons (me_var 0) (ma_cons (me_var 1) ma_nil))))
  (mss_never _))
theorem fn_does {P : Program} {w : World} {K : PySem.W.Frag} {mg : Str → Option Value} {base : Heap} (F : Free mg) (d_need_lead : Df P w K mg base "need_lead" 2 false 2 sp_need_lead) {f : Addr} {fd : FuncData} (G : Fun K "does" "does" s_does f fd) : FnOk P w K mg base (L2.CX P w) 3 f fd ps_does (LSp K mg false 4 sp_does) :=
  fn_l3 (k := 2) G sc_does rfl m_does (fun s0 fix tabs B cdv A outer s H E hr => der_does F d_need_lead s0 fix tabs B cdv A outer s H E hr) pu_does
/-! ### by_copies -/
abbrev s_by_copies : Stmt := topS 36
theorem sc_by_copies : FnScope N_by_copies ps_by_copies (defScope s_by_copies) := ⟨rfl, rfl, rfl, by decide +kernel, rfl, by decide +kernel, by decide +kernel⟩
theorem der_by_copies {P : Program} {w : World} {K : PySem.W.Frag} {mg : Str → Option Value} {base : Heap} (F : Free mg) (d_need_lead : Df P w K mg base "need_lead" 2 false 2 sp_need_lead) {f : Addr} (s0 : Option (Addr × Addr × List Int)) (fix : List (Addr × HO)) (tabs : List (Addr × Str)) (B : Hp) (cdv : Value) (A : Around) (outer : List Env) (s : Shared) (H : Hp) (E : XK)
    (hr : Room 2 (A.deeper (envOfC "by_copies" (defScope s_by_copies) s.heap.objs.size f cdv))) :
    MSs (cxOf (L2.CX P w) P w K mg base N_by_copies "by_copies" (defScope s_by_copies) f cdv A outer s H E) ⟨K, s0, fix, tabs⟩ E true B (defBody s_by_copies) (m_by_copies (s0.map (·.1))) := by
  have hpx : Passes (L2.CX P w) (cxOf (L2.CX P w) P w K mg base N_by_copies "by_copies" (defScope s_by_copies) f cdv A outer s H E) E := passes_call (takes_of rfl rfl rfl rfl) (fun _ _ _ _ h => h)
  exact
  (mss_cons (ms_expr (me_call d_need_lead (hr.mono (by first | decide | omega)) rfl hpx rfl (ma_cons (me_var 0) (ma_cons (me_var 1) ma_nil))))
  (mss_never _))
theorem fn_by_copies {P : Program} {w : World} {K : PySem.W.Frag} {mg : Str → Option Value} {base : Heap} (F : Free mg) (d_need_lead : Df P w K mg base "need_lead" 2 false 2 sp_need_lead) {f : Addr} {fd : FuncData} (G : Fun K "by_copies" "by_copies" s_by_copies f fd) : FnOk P w K mg base (L2.CX P w) 3 f fd ps_by_copies (LSp K mg true 3 sp_by_copies) :=
  fn_l3 (k := 2) G sc_by_copies rfl m_by_copies (fun s0 fix tabs B cdv A outer s H E hr => der_by_copies F d_need_lead s0 fix tabs B cdv A outer s H E hr) pu_by_copies
/-! ### by_swaps -/
abbrev s_by_swaps : Stmt := topS 37
theorem sc_by_swaps : FnScope N_by_swaps ps_by_swaps (defScope s_by_swaps) := ⟨rfl, rfl, rfl, by decide +kernel, rfl, by decide +kernel, by decide +kernel⟩
theorem der_by_swaps {P : Program} {w : World} {K : PySem.W.Frag} {mg : Str → Option Value} {base : Heap} (F : Free mg) (d_need_lead : Df P w K mg base "need_lead" 2 false 2 sp_need_lead) {f : Addr} (s0 : Option (Addr × Addr × List Int)) (fix : List (Addr × HO)) (tabs : List (Addr × Str)) (B : Hp) (cdv : Value) (A : Around) (outer : List Env) (s : Shared) (H : Hp) (E : XK)
    (hr : Room 2 (A.deeper (envOfC "by_swaps" (defScope s_by_swaps) s.heap.objs.size f cdv))) :
    MSs (cxOf (L2.CX P w) P w K mg base N_by_swaps "by_swaps" (defScope s_by_swaps) f cdv A outer s H E) ⟨K, s0, fix, tabs⟩ E true B (defBody s_by_swaps) (m_by_swaps (s0.map (·.1))) := by
  have hpx : Passes (L2.CX P w) (cxOf (L2.CX P w) P w K mg base N_by_swaps "by_swaps" (defScope s_by_swaps) f cdv A outer s H E) E := passes_call (takes_of rfl rfl rfl rfl) (fun _ _ _ _ h => h)
  exact
  (mss_cons (ms_expr (me_call d_need_lead (hr.mono (by first | decide | omega)) rfl hpx rfl (ma_cons (me_var 0) (ma_cons (me_var 1) ma_nil))))
  (mss_never _))
theorem fn_by_swaps {P : Program} {w : World} {K : PySem.W.Frag} {mg : Str → Option Value} {base : Heap} (F : Free mg) (d_need_lead : Df P w K mg base "need_lead" 2 false 2 sp_need_lead) {f : Addr} {fd : FuncData} (G : Fun K "by_swaps" "by_swaps" s_by_swaps f fd) : FnOk P w K mg base (L2.CX P w) 3 f fd ps_by_swaps (LSp K mg true 2 sp_by_swaps) :=
  fn_l3 (k := 2) G sc_by_swaps rfl m_by_swaps (fun s0 fix tabs B cdv A outer s H E hr => der_by_swaps F d_need_lead s0 fix tabs B cdv A outer s H E hr) pu_by_swaps
/-! ### paper -/
abbrev s_paper : Stmt := topS 38
theorem sc_paper : FnScope N_paper ps_paper (defScope s_paper) := ⟨rfl, rfl, rfl, by decide +kernel, rfl, by decide +kernel, by decide +kernel⟩
theorem der_paper {P : Program} {w : World} {K : PySem.W.Frag} {mg : Str → Option Value} {base : Heap} (F : Free mg) (d_need_lead : Df P w K mg base "need_lead" 2 false 2 sp_need_lead) {f : Addr} (s0 : Option (Addr × Addr × List Int)) (fix : List (Addr × HO)) (tabs : List (Addr × Str)) (B : Hp) (cdv : Value) (A : Around) (outer : List Env) (s : Shared) (H : Hp) (E : XK)
    (hr : Room 2 (A.deeper (envOfC "paper" (defScope s_paper) s.heap.objs.size f cdv))) :
    MSs (cxOf (L2.CX P w) P w K mg base N_paper "paper" (defScope s_paper) f cdv A outer s H E) ⟨K, s0, fix, tabs⟩ E false B (defBody s_paper) (m_paper (s0.map (·.1))) := by
  have hpx : Passes (L2.CX P w) (cxOf (L2.CX P w) P w K mg base N_paper "paper" (defScope s_paper) f cdv A outer s H E) E := passes_call (takes_of rfl rfl rfl rfl) (fun _ _ _ _ h => h)
  exact
  (mss_cons (ms_expr (me_call d_need_lead (hr.mono (by first | decide | omega)) rfl hpx rfl (ma_cons (me_var 0) (ma_cons (me_var 1) ma_nil))))
  (mss_never _))
theorem fn_paper {P : Program} {w : World} {K : PySem.W.Frag} {mg : Str → Option Value} {base : Heap} (F : Free mg) (d_need_lead : Df P w K mg base "need_lead" 2 false 2 sp_need_lead) {f : Addr} {fd : FuncData} (G : Fun K "paper" "paper" s_paper f fd) : FnOk P w K mg base (L2.CX P w) 3 f fd ps_paper (LSp K mg false 2 sp_paper) :=
  fn_l3 (k := 2) G sc_paper rfl m_paper (fun s0 fix tabs B cdv A outer s H E hr => der_paper F d_need_lead s0 fix tabs B cdv A outer s H E hr) pu_paper
/-! ### least -/
abbrev s_least : Stmt := topS 39
theorem sc_least : FnScope N_least ps_least (defScope s_least) := ⟨rfl, rfl, rfl, by decide +kernel, rfl, by decide +kernel, by decide +kernel⟩
theorem der_least {P : Program} {w : World} {K : PySem.W.Frag} {mg : Str → Option Value} {base : Heap} (F : Free mg) (d_paper : Df P w K mg base "paper" 3 false 2 sp_paper) {f : Addr} (s0 : Option (Addr × Addr × List Int)) (fix : List (Addr × HO)) (tabs : List (Addr × Str)) (B : Hp) (cdv : Value) (A : Around) (outer : List Env) (s : Shared) (H : Hp) (E : XK)
    (hr : Room 3 (A.deeper (envOfC "least" (defScope s_least) s.heap.objs.size f cdv))) :
    MSs (cxOf (L2.CX P w) P w K mg base N_least "least" (defScope s_least) f cdv A outer s H E) ⟨K, s0, fix, tabs⟩ E false B (defBody s_least) (m_least (s0.map (·.1))) := by
  have hpx : Passes (L2.CX P w) (cxOf (L2.CX P w) P w K mg base N_least "least" (defScope s_least) f cdv A outer s H E) E := passes_call (takes_of rfl rfl rfl rfl) (fun _ _ _ _ h => h)
  exact
  (mss_cons (ms_setT (t := .tp [3, 4, 5]) rfl (me_call d_paper (hr.mono (by first | decide | omega)) rfl hpx rfl (ma_cons (me_var 0) (ma_cons (me_var 1) ma_nil))) (pg_tp rfl (pgs_nm sc_least.nd (i := 3) rfl (by first | exact Or.inl rfl | exact Or.inr rfl) (pgs_nm sc_least.nd (i := 4) rfl (by first | exact Or.inl rfl | exact Or.inr rfl) (pgs_nm sc_least.nd (i := 5) rfl (by first | exact Or.inl rfl | exact Or.inr rfl) pgs_no)))))
  (mss_never _))
theorem fn_least {P : Program} {w : World} {K : PySem.W.Frag} {mg : Str → Option Value} {base : Heap} (F : Free mg) (d_paper : Df P w K mg base "paper" 3 false 2 sp_paper) {f : Addr} {fd : FuncData} (G : Fun K "least" "least" s_least f fd) : FnOk P w K mg base (L2.CX P w) 4 f fd ps_least (LSp K mg false 3 sp_least) :=
  fn_l3 (k := 3) G sc_least rfl m_least (fun s0 fix tabs B cdv A outer s H E hr => der_least F d_paper s0 fix tabs B cdv A outer s H E hr) pu_least
/-! ### _law_works -/
abbrev s__law_works : Stmt := topS 51
abbrev N__law_works : List Str := ["_law_boxes_here", "_law_lead_here", "_law_works_here"]
abbrev ps__law_works : List Str := ["_law_boxes_here", "_law_lead_here"]
theorem sc__law_works : FnScope N__law_works ps__law_works (defScope s__law_works) := ⟨rfl, rfl, rfl, by decide +kernel, rfl, by decide +kernel, by decide +kernel⟩
def lamOf (e : Expr) : LamD := match e with
  | .Lambda params body scope _ => ⟨worksQ, "_law_boxes_here", "_law_lead_here", params, body, scope⟩
  | e => ⟨worksQ, "_law_boxes_here", "_law_lead_here", ⟨[], [], none, [], [], none, []⟩, e, ⟨.function, [], false, false, []⟩⟩
def lamIn (s : Stmt) : Expr := match s with
  | .Assign _ (.List es _) _ => es.headD (.Constant .none 0 ⟨0, 0, 0, 0⟩)
  | .Expr (.Call _ es _ _) _ => es.headD (.Constant .none 0 ⟨0, 0, 0, 0⟩)
  | _ => .Constant .none 0 ⟨0, 0, 0, 0⟩
abbrev LD0 : LamD := lamOf (lamIn ((defBody s__law_works).getD 0 (.Pass ⟨0, 0, 0, 0⟩)))
abbrev LD1 : LamD := lamOf (lamIn ((defBody s__law_works).getD 1 (.Pass ⟨0, 0, 0, 0⟩)))
abbrev LD2 : LamD := lamOf (lamIn ((defBody s__law_works).getD 2 (.Pass ⟨0, 0, 0, 0⟩)))
abbrev LD3 : LamD := lamOf (lamIn ((defBody s__law_works).getD 3 (.Pass ⟨0, 0, 0, 0⟩)))
abbrev LD4 : LamD := lamOf (lamIn ((defBody s__law_works).getD 4 (.Pass ⟨0, 0, 0, 0⟩)))
abbrev LD5 : LamD := lamOf (lamIn ((defBody s__law_works).getD 5 (.Pass ⟨0, 0, 0, 0⟩)))
abbrev LD6 : LamD := lamOf (lamIn ((defBody s__law_works).getD 6 (.Pass ⟨0, 0, 0, 0⟩)))
def LD : List LamD := [LD0, LD1, LD2, LD3, LD4, LD5, LD6]
def lamTB (L : LamD) : Bool := decide (L.scope.kind = .function) && !L.scope.isCoroutine && !L.scope.isGenerator && decide ((("_law_boxes_here" : Str), NameKind.free) ∈ L.scope.names) && decide ((("_law_lead_here" : Str), NameKind.free) ∈ L.scope.names) && L.scope.names.all fun z => !decide (z.2 = .local) && !decide (z.2 = .cell) && (!decide (z.2 = .free) || decide (z.1 = "_law_boxes_here") || decide (z.1 = "_law_lead_here"))
theorem lamT_by {L : LamD} (ex : L.x = "_law_boxes_here") (ey : L.y = "_law_lead_here") (h : lamTB L = true) (b : ∀ (cl : List (Str × Addr)) (pm cv ctv : Value), bindArgs (PySem.W.kla_fn "<lambda>" L.q L.params L.body L.scope cl pm cv ctv) ⟨[], []⟩ = pure []) : LamT L := by
  unfold lamTB at h
  simp only [Bool.and_eq_true, Bool.or_eq_true, Bool.not_eq_true', decide_eq_true_eq, decide_eq_false_iff_not, List.all_eq_true] at h
  obtain ⟨⟨⟨⟨⟨h1, h2⟩, h3⟩, h4⟩, h5⟩, h6⟩ := h
  refine ⟨h1, h2, h3, fun z hz => (h6 z hz).1, by rw [ex]; exact h4, by rw [ey]; exact h5, fun z hz e => ?_, b⟩
  rw [ex, ey]
  rcases (h6 z hz).2 with (h | h) | h
  · exact absurd e h
  · exact .inl h
  · exact .inr h
theorem lt0 : LamT LD0 := lamT_by rfl rfl (by decide +kernel) fun _ _ _ _ => rfl
theorem lt1 : LamT LD1 := lamT_by rfl rfl (by decide +kernel) fun _ _ _ _ => rfl
theorem lt2 : LamT LD2 := lamT_by rfl rfl (by decide +kernel) fun _ _ _ _ => rfl
theorem lt3 : LamT LD3 := lamT_by rfl rfl (by decide +kernel) fun _ _ _ _ => rfl
theorem lt4 : LamT LD4 := lamT_by rfl rfl (by decide +kernel) fun _ _ _ _ => rfl
theorem lt5 : LamT LD5 := lamT_by rfl rfl (by decide +kernel) fun _ _ _ _ => rfl
theorem lt6 : LamT LD6 := lamT_by rfl rfl (by decide +kernel) fun _ _ _ _ => rfl
theorem LD_t : ∀ L ∈ LD, LamT L ∧ L.q = worksQ := by
  intro L h
  unfold LD at h
  simp only [List.mem_cons, List.mem_nil_iff, or_false] at h
  rcases h with rfl | rfl | rfl | rfl | rfl | rfl | rfl
  · exact ⟨lt0, rfl⟩
  · exact ⟨lt1, rfl⟩
  · exact ⟨lt2, rfl⟩
  · exact ⟨lt3, rfl⟩
  · exact ⟨lt4, rfl⟩
  · exact ⟨lt5, rfl⟩
  · exact ⟨lt6, rfl⟩
theorem LD_o : ∀ L ∈ LD, LamOk worksQ "_law_boxes_here" "_law_lead_here" L := by
  intro L h
  unfold LD at h
  simp only [List.mem_cons, List.mem_nil_iff, or_false] at h
  rcases h with rfl | rfl | rfl | rfl | rfl | rfl | rfl
  · exact ⟨rfl, rfl, rfl, lt0.fx, lt0.fy, lt0.no⟩
  · exact ⟨rfl, rfl, rfl, lt1.fx, lt1.fy, lt1.no⟩
  · exact ⟨rfl, rfl, rfl, lt2.fx, lt2.fy, lt2.no⟩
  · exact ⟨rfl, rfl, rfl, lt3.fx, lt3.fy, lt3.no⟩
  · exact ⟨rfl, rfl, rfl, lt4.fx, lt4.fy, lt4.no⟩
  · exact ⟨rfl, rfl, rfl, lt5.fx, lt5.fy, lt5.no⟩
  · exact ⟨rfl, rfl, rfl, lt6.fx, lt6.fy, lt6.no⟩
theorem lam01_t {sa : Option Addr} : ∀ p ∈ lam01 LD sa, LamT p.1 ∧ p.1.q = worksQ := fun p hp => LD_t _ (List.of_mem_zip hp).1
theorem lam01_d {X : Cx} {s0 : Option (Addr × Addr × List Int)} {fix : List (Addr × HO)} {tabs : List (Addr × Str)} (d_rings : Df X.prog X.w X.K X.mg X.base "rings" 3 true 2 sp_rings) (d_shut_rings : Df X.prog X.w X.K X.mg X.base "shut_rings" 3 true 2 sp_shut_rings) (d_does : Df X.prog X.w X.K X.mg X.base "does" 3 false 4 sp_does) (d_by_copies : Df X.prog X.w X.K X.mg X.base "by_copies" 3 true 3 sp_by_copies) (d_by_swaps : Df X.prog X.w X.K X.mg X.base "by_swaps" 3 true 2 sp_by_swaps) (d_paper : Df X.prog X.w X.K X.mg X.base "paper" 3 false 2 sp_paper) (d_least : Df X.prog X.w X.K X.mg X.base "least" 4 false 3 sp_least) : ∀ p ∈ lam01 LD (s0.map (·.1)), ∀ (A : Around) (outer : List Env) (s : Shared) (H : Hp) (E : XK) (f c' : Addr) (cl : List (Str × Addr)), Room 4 (A.deeper (cloEnv p.1 cl s.heap.objs.size f c')) → ME (cloCx X p.1 cl A outer s H E f c') ⟨X.K, s0, fix, tabs⟩ E p.1.body p.2 := by
  intro p hp A outer s H E f c' cl hr
  have hp : p ∈ [(LD0, (mCallU (s0.map (·.1)) sp_rings (aCons (mVar 0) (aCons (mVar 1) aNil)))), (LD1, (mCallU (s0.map (·.1)) sp_shut_rings (aCons (mVar 0) (aCons (mVar 1) aNil)))), (LD2, (mCallU (s0.map (·.1)) sp_does (aCons (mVar 0) (aCons (mVar 1) (aCons (mLst (aCons (mC (.int 99)) aNil)) (aCons (mLst (aCons (mTup aNil) aNil)) aNil)))))), (LD3, (mCallU (s0.map (·.1)) sp_by_copies (aCons (mVar 0) (aCons (mVar 1) (aCons (mLst (aCons (mC (.int 99)) aNil)) aNil))))), (LD4, (mCallU (s0.map (·.1)) sp_by_swaps (aCons (mVar 0) (aCons (mVar 1) aNil)))), (LD5, (mCallU (s0.map (·.1)) sp_paper (aCons (mVar 0) (aCons (mVar 1) aNil)))), (LD6, (mCallU (s0.map (·.1)) sp_least (aCons (mVar 0) (aCons (mVar 1) (aCons (mC (.str "other")) aNil)))))] := hp
  simp only [List.mem_cons, List.mem_nil_iff, or_false] at hp
  rcases hp with rfl | rfl | rfl | rfl | rfl | rfl | rfl
  · show ME (cloCx X LD0 cl A outer s H E f c') _ E (LD0).body _
    exact (MF.me (mf_call (X := cloCx X LD0 cl A outer s H E f c') d_rings (hr.mono (by first | decide | omega)) rfl (passes_call (takes_of rfl rfl rfl rfl) (fun _ _ _ _ h => h)) rfl (ma_cons (me_var 0) (ma_cons (me_var 1) ma_nil))))
  · show ME (cloCx X LD1 cl A outer s H E f c') _ E (LD1).body _
    exact (MF.me (mf_call (X := cloCx X LD1 cl A outer s H E f c') d_shut_rings (hr.mono (by first | decide | omega)) rfl (passes_call (takes_of rfl rfl rfl rfl) (fun _ _ _ _ h => h)) rfl (ma_cons (me_var 0) (ma_cons (me_var 1) ma_nil))))
  · show ME (cloCx X LD2 cl A outer s H E f c') _ E (LD2).body _
    exact (me_call (X := cloCx X LD2 cl A outer s H E f c') d_does (hr.mono (by first | decide | omega)) rfl (passes_call (takes_of rfl rfl rfl rfl) (fun _ _ _ _ h => h)) rfl (ma_cons (me_var 0) (ma_cons (me_var 1) (ma_cons (MF.me (mf_lst (ma_cons me_int ma_nil))) (ma_cons (MF.me (mf_lst (ma_cons (me_tup ma_nil) ma_nil))) ma_nil)))))
  · show ME (cloCx X LD3 cl A outer s H E f c') _ E (LD3).body _
    exact (MF.me (mf_call (X := cloCx X LD3 cl A outer s H E f c') d_by_copies (hr.mono (by first | decide | omega)) rfl (passes_call (takes_of rfl rfl rfl rfl) (fun _ _ _ _ h => h)) rfl (ma_cons (me_var 0) (ma_cons (me_var 1) (ma_cons (MF.me (mf_lst (ma_cons me_int ma_nil))) ma_nil)))))
  · show ME (cloCx X LD4 cl A outer s H E f c') _ E (LD4).body _
    exact (MF.me (mf_call (X := cloCx X LD4 cl A outer s H E f c') d_by_swaps (hr.mono (by first | decide | omega)) rfl (passes_call (takes_of rfl rfl rfl rfl) (fun _ _ _ _ h => h)) rfl (ma_cons (me_var 0) (ma_cons (me_var 1) ma_nil))))
  · show ME (cloCx X LD5 cl A outer s H E f c') _ E (LD5).body _
    exact (me_call (X := cloCx X LD5 cl A outer s H E f c') d_paper (hr.mono (by first | decide | omega)) rfl (passes_call (takes_of rfl rfl rfl rfl) (fun _ _ _ _ h => h)) rfl (ma_cons (me_var 0) (ma_cons (me_var 1) ma_nil)))
  · show ME (cloCx X LD6 cl A outer s H E f c') _ E (LD6).body _
    exact (me_call (X := cloCx X LD6 cl A outer s H E f c') d_least (hr.mono (by first | decide | omega)) rfl (passes_call (takes_of rfl rfl rfl rfl) (fun _ _ _ _ h => h)) rfl (ma_cons (me_var 0) (ma_cons (me_var 1) (ma_cons me_str ma_nil))))
theorem fn__law_works {P : Program} {w : World} {K : PySem.W.Frag} {mg : Str → Option Value} {base : Heap} {c T : Addr} (TB : LamX.TabB base mg c T) {f : Addr} {od an : Option Addr} {osl : Array (Option Value)} {oc kV doc pm ct : Value} (lk : K.lookup f = some ⟨oc, od, .func (PySem.W.fnOf "_law_works" "_law_works" (defArgs s__law_works) (defBody s__law_works) (defScope s__law_works) .none kV doc pm an (.ref c) ct), osl⟩) (hcd : PySem.W.codeIn K (.ref c) "_law_works" = true) :
    FnOk P w K mg base (L2.CX P w) 7 f (PySem.W.fnOf "_law_works" "_law_works" (defArgs s__law_works) (defBody s__law_works) (defScope s__law_works) .none kV doc pm an (.ref c) ct) ps__law_works (WSp K T worksQ LD) := by
  refine fn_works (k := 6) (N := N__law_works) (x := "_law_boxes_here") (y := "_law_lead_here") (z := "_law_works_here") lk hcd sc__law_works rfl (by rfl) (by rfl) (by decide +kernel) LD_o fun A outer s H E tabs hm hu hr => ⟨_, (psr_cons (ps_asg (pe_lst (pa_cons (pe_lam3 TB rfl hm hu (LamX.lamS_by (sc := defScope s__law_works) (by decide +kernel)) rfl) pa_nil)) (pg_name (i := 2) sc__law_works.nd rfl (.inl rfl)))
    (psr_cons (ps_expr (pe_bm PySem.F.plainAttrs_list PySem.F.slot_list_append PySem.F.type_list_append mt_append (pv 2) (pa_cons (pe_lam3 TB rfl hm hu (LamX.lamS_by (sc := defScope s__law_works) (by decide +kernel)) rfl) pa_nil)))
    (psr_cons (ps_expr (pe_bm PySem.F.plainAttrs_list PySem.F.slot_list_append PySem.F.type_list_append mt_append (pv 2) (pa_cons (pe_lam3 TB rfl hm hu (LamX.lamS_by (sc := defScope s__law_works) (by decide +kernel)) rfl) pa_nil)))
    (psr_cons (ps_expr (pe_bm PySem.F.plainAttrs_list PySem.F.slot_list_append PySem.F.type_list_append mt_append (pv 2) (pa_cons (pe_lam3 TB rfl hm hu (LamX.lamS_by (sc := defScope s__law_works) (by decide +kernel)) rfl) pa_nil)))
    (psr_cons (ps_expr (pe_bm PySem.F.plainAttrs_list PySem.F.slot_list_append PySem.F.type_list_append mt_append (pv 2) (pa_cons (pe_lam3 TB rfl hm hu (LamX.lamS_by (sc := defScope s__law_works) (by decide +kernel)) rfl) pa_nil)))
    (psr_cons (ps_expr (pe_bm PySem.F.plainAttrs_list PySem.F.slot_list_append PySem.F.type_list_append mt_append (pv 2) (pa_cons (pe_lam3 TB rfl hm hu (LamX.lamS_by (sc := defScope s__law_works) (by decide +kernel)) rfl) pa_nil)))
    (psr_cons (ps_expr (pe_bm PySem.F.plainAttrs_list PySem.F.slot_list_append PySem.F.type_list_append mt_append (pv 2) (pa_cons (pe_lam3 TB rfl hm hu (LamX.lamS_by (sc := defScope s__law_works) (by decide +kernel)) rfl) pa_nil)))
    (psr_ret (pv 2))))))))), fun vb vl R hT kk => ?_⟩
  exact ws_first (L := LD0) hT fun p f H2 W => ws_next (L0 := LD1) W rfl (by simp) fun f H2 W => ws_next (L0 := LD2) W rfl (by simp) fun f H2 W => ws_next (L0 := LD3) W rfl (by simp) fun f H2 W => ws_next (L0 := LD4) W rfl (by simp) fun f H2 W => ws_next (L0 := LD5) W rfl (by simp) fun f H2 W => ws_next (L0 := LD6) W rfl (by simp) fun f H2 W => ⟨.ref p, rfl, kk p _ _ W⟩
/-! ### _law_at_once -/
abbrev s__law_at_once : Stmt := topS 50
theorem sc__law_at_once : FnScope N__law_at_once ps__law_at_once (defScope s__law_at_once) := ⟨rfl, rfl, rfl, by decide +kernel, rfl, by decide +kernel, by decide +kernel⟩
theorem der__law_at_once {P : Program} {w : World} {K : PySem.W.Frag} {mg : Str → Option Value} {base : Heap} (F : Free mg) {f : Addr} (s0 : Option (Addr × Addr × List Int)) (fix : List (Addr × HO)) (tabs : List (Addr × Str)) (B : Hp) (cdv : Value) (A : Around) (outer : List Env) (s : Shared) (H : Hp) (E : XK)
    (hr : Room 0 (A.deeper (envOfC "_law_at_once" (defScope s__law_at_once) s.heap.objs.size f cdv))) :
    MSs (cxOf (L2.CX P w) P w K mg base N__law_at_once "_law_at_once" (defScope s__law_at_once) f cdv A outer s H E) ⟨K, s0, fix, tabs⟩ E false B (defBody s__law_at_once) (m__law_at_once (s0.map (·.1))) := by
  have hpx : Passes (L2.CX P w) (cxOf (L2.CX P w) P w K mg base N__law_at_once "_law_at_once" (defScope s__law_at_once) f cdv A outer s H E) E := passes_call (takes_of rfl rfl rfl rfl) (fun _ _ _ _ h => h)
  exact
  (mss_cons (ms_set sc__law_at_once.nd (i := 2) rfl (by first | exact Or.inl rfl | exact Or.inr rfl) (me_dictP F rfl rfl rfl (ma_cons (me_var 1) ma_nil)))
  (mss_one (ms_ret (MF.me (mf_lc (own := [("_law_box", 3)]) (t := (.nm 3)) rfl rfl sc__law_at_once.nd (mi_range rfl F.range (ma_cons (me_len F rfl rfl (ma_cons (me_var 0) ma_nil)) ma_nil)) (blkOk_by (N := N__law_at_once) (sc := defScope s__law_at_once) (by decide +kernel)) (by decide) (fun _ _ _ _ _ => (pg_nm sc__law_at_once.nd (i := 3) rfl (by first | exact Or.inl rfl | exact Or.inr rfl))) (fun _ _ _ _ _ => mts_nil) (fun _ _ _ _ _ => (me_ix rfl (me_var 0) (me_getD (hu_of hr) (me_var 2) (me_var 3) (me_var 3)))))))))
theorem fn__law_at_once {P : Program} {w : World} {K : PySem.W.Frag} {mg : Str → Option Value} {base : Heap} (F : Free mg) {f : Addr} {fd : FuncData} (G : Fun K "_law_at_once" "_law_at_once" s__law_at_once f fd) : FnOk P w K mg base (L2.CX P w) 1 f fd ps__law_at_once (LSp K mg false 2 sp__law_at_once) :=
  fn_l3 (k := 0) G sc__law_at_once rfl m__law_at_once (fun s0 fix tabs B cdv A outer s H E hr => der__law_at_once F s0 fix tabs B cdv A outer s H E hr) pu__law_at_once
/-! ### moved -/
abbrev s_moved : Stmt := topS 28
theorem sc_moved : FnScope N_moved ps_moved (defScope s_moved) := ⟨rfl, rfl, rfl, by decide +kernel, rfl, by decide +kernel, by decide +kernel⟩
theorem der_moved {P : Program} {w : World} {K : PySem.W.Frag} {mg : Str → Option Value} {base : Heap} (F : Free mg) (d_need_boxes : Df P w K mg base "need_boxes" 1 false 1 sp_need_boxes) {f : Addr} (s0 : Option (Addr × Addr × List Int)) (fix : List (Addr × HO)) (tabs : List (Addr × Str)) (B : Hp) (cdv : Value) (A : Around) (outer : List Env) (s : Shared) (H : Hp) (E : XK)
    (hr : Room 1 (A.deeper (envOfC "moved" (defScope s_moved) s.heap.objs.size f cdv))) :
    MSs (cxOf (L2.CX P w) P w K mg base N_moved "moved" (defScope s_moved) f cdv A outer s H E) ⟨K, s0, fix, tabs⟩ E true B (defBody s_moved) (m_moved (s0.map (·.1))) := by
  have hpx : Passes (L2.CX P w) (cxOf (L2.CX P w) P w K mg base N_moved "moved" (defScope s_moved) f cdv A outer s H E) E := passes_call (takes_of rfl rfl rfl rfl) (fun _ _ _ _ h => h)
  exact
  (mss_cons (ms_expr (me_call d_need_boxes (hr.mono (by first | decide | omega)) rfl hpx rfl (ma_cons (me_len F rfl rfl (ma_cons (me_var 0) ma_nil)) ma_nil)))
  (mss_never _))
theorem fn_moved {P : Program} {w : World} {K : PySem.W.Frag} {mg : Str → Option Value} {base : Heap} (F : Free mg) (d_need_boxes : Df P w K mg base "need_boxes" 1 false 1 sp_need_boxes) {f : Addr} {fd : FuncData} (G : Fun K "moved" "moved" s_moved f fd) : FnOk P w K mg base (L2.CX P w) 2 f fd ps_moved (LSp K mg true 2 sp_moved) :=
  fn_l3 (k := 1) G sc_moved rfl m_moved (fun s0 fix tabs B cdv A outer s H E hr => der_moved F d_need_boxes s0 fix tabs B cdv A outer s H E hr) pu_moved
/-! ### law -/
abbrev s_law : Stmt := topS 52
theorem sc_law : FnScope N_law ps_law (defScope s_law) := ⟨rfl, rfl, rfl, by decide +kernel, rfl, by decide +kernel, by decide +kernel⟩
set_option maxHeartbeats 2000000 in
theorem der_law {P : Program} {w : World} {K : PySem.W.Frag} {mg : Str → Option Value} {base : Heap} (F : Free mg) (d__law_at_once : Df P w K mg base "_law_at_once" 1 false 2 sp__law_at_once) (d__law_boxes : Df P w K mg base "_law_boxes" 2 false 1 sp__law_boxes) (d__law_drawn : Df P w K mg base "_law_drawn" 1 false 2 sp__law_drawn) (d__law_far : Df P w K mg base "_law_far" 2 false 2 sp__law_far) (d__law_lead : Df P w K mg base "_law_lead" 3 false 2 sp__law_lead) (d__law_same : Df P w K mg base "_law_same" 5 false 2 (sp__law_same 4)) (d__law_worths : Df P w K mg base "_law_worths" 2 false 2 sp__law_worths) (d_at_once : Df P w K mg base "at_once" 3 true 2 sp_at_once) (d_by_copies : Df P w K mg base "by_copies" 3 true 3 sp_by_copies) (d_by_swaps : Df P w K mg base "by_swaps" 3 true 2 sp_by_swaps) (d_does : Df P w K mg base "does" 3 false 4 sp_does) (d_least : Df P w K mg base "least" 4 false 3 sp_least) (d_moved : Df P w K mg base "moved" 2 true 2 sp_moved) (d_paper : Df P w K mg base "paper" 3 false 2 sp_paper) (d_rings : Df P w K mg base "rings" 3 true 2 sp_rings) (d_shut_rings : Df P w K mg base "shut_rings" 3 true 2 sp_shut_rings) (zVE : mg "ValueError" = none) (gM : ∃ A, mg "MoveError" = some (.ref A)) {gk : Addr} {odk ank : Option Addr} {slk : Array (Option Value)} {ock kVk dck pmk cdk ctk : Value} (gK : mg "_law_kind" = some (.ref gk)) (kK : PySem.W.keepIn K (.ref gk) = true) (lK : K.lookup gk = some ⟨ock, odk, .func (PySem.W.fnOf "_law_kind" "_law_kind" (defArgs s__law_kind) (defBody s__law_kind) (defScope s__law_kind) .none kVk dck pmk ank cdk ctk), slk⟩) (cK : PySem.W.codeIn K cdk "_law_kind" = true) (bK : L2.Binds K (PySem.W.fnOf "_law_kind" "_law_kind" (defArgs s__law_kind) (defBody s__law_kind) (defScope s__law_kind) .none kVk dck pmk ank cdk ctk) ["_law_work"] [])
    (kt : ∀ w ∈ (["BadLead"] : List Str), ∃ D, mg w = some (.ref D) ∧ Kinds K mg D w) (ktn : ∀ w ∈ ([] : List Str), ∃ D, mg w = some (.ref D) ∧ Kinds K mg D w ∧ XfC K D ∧ PySem.W.findIn K (.ref D) (fieldOf w) = some none) {c T : Addr} (TB : LamX.TabB base mg c T) {T2 : Addr} (nTT : T ≠ T2) (dW : DfW P w K mg base "_law_works" 7 T2 worksQ LD) {f : Addr} (A : Around) (outer : List Env) (s : Shared) (H : Hp) (E : XK) (hr : Room 7 (A.deeper (envOfC "law" (defScope s_law) s.heap.objs.size f (.ref c)))) (s0 : Option (Addr × Addr × List Int)) (fix : List (Addr × HO)) (hfx : fixOk fix) (B : Hp) :
    MSs (cxOf (L2.CX P w) P w K mg base N_law "law" (defScope s_law) f (.ref c) A outer s H E) ⟨K, s0, fix, [(T, lamQ), (T2, worksQ)]⟩ E false B (defBody s_law).tail (m_law_k01 LD (s0.map (·.1))) := by
  have hpx : Passes (L2.CX P w) (cxOf (L2.CX P w) P w K mg base N_law "law" (defScope s_law) f (.ref c) A outer s H E) E := passes_call (takes_of rfl rfl rfl rfl) (fun _ _ _ _ h => h)
  have hfx1 : ∀ p ∈ fix, notTbl p.2 = true := fun p hp => (hfx p hp).1
  exact
  (mss_cons (ms_for (t := .nm 2) (passes_of rfl) rfl rfl (mi_range rfl F.range (ma_cons me_int ma_nil)) (pg_nm sc_law.nd (i := 2) rfl (by first | exact Or.inl rfl | exact Or.inr rfl)) (mss_cons (ms_set sc_law.nd (i := 3) rfl (by first | exact Or.inl rfl | exact Or.inr rfl) (me_call d__law_boxes (hr.mono (by first | decide | omega)) rfl hpx rfl (ma_cons (me_var 1) ma_nil)))
    (mss_cons (ms_set sc_law.nd (i := 4) rfl (by first | exact Or.inl rfl | exact Or.inr rfl) (me_call d__law_lead (hr.mono (by first | decide | omega)) rfl hpx rfl (ma_cons (me_var 1) (ma_cons (me_var 3) ma_nil))))
    (mss_cons (ms_set sc_law.nd (i := 5) rfl (by first | exact Or.inl rfl | exact Or.inr rfl) (me_call d__law_worths (hr.mono (by first | decide | omega)) rfl hpx rfl (ma_cons (me_var 1) (ma_cons (me_var 3) ma_nil))))
    (mss_cons (ms_set sc_law.nd (i := 6) rfl (by first | exact Or.inl rfl | exact Or.inr rfl) (me_tup (ma_cons (MF.me (mf_list F rfl rfl (ma_cons (me_var 5) ma_nil))) (ma_cons (MF.me (mf_list F rfl rfl (ma_cons (me_var 4) ma_nil))) ma_nil))))
    (mss_cons (ms_for (t := .nm 7) (passes_of rfl) rfl rfl (mi_range rfl F.range (ma_cons me_int ma_nil)) (pg_nm sc_law.nd (i := 7) rfl (by first | exact Or.inl rfl | exact Or.inr rfl)) (mss_cons (ms_setF sc_law.nd (i := 8) rfl (by first | exact Or.inl rfl | exact Or.inr rfl) (mf_call d_at_once (hr.mono (by first | decide | omega)) rfl hpx rfl (ma_cons (me_ix rfl (me_var 6) me_int) (ma_cons (me_ix rfl (me_var 6) me_int) ma_nil))))
      (mss_cons (ms_if (mt_w (mw_or (mt_not (mt_val (me_call d__law_same (hr.mono (by first | decide | omega)) rfl hpx rfl (ma_cons (me_var 8) (ma_cons (me_call d__law_at_once (hr.mono (by first | decide | omega)) rfl hpx rfl (ma_cons (me_var 5) (ma_cons (me_var 4) ma_nil))) ma_nil))))) (mw_or1 (mt_ne rfl hr.units (me_var 6) (me_tup (ma_cons (me_var 5) (ma_cons (me_var 4) ma_nil))))))) (mss_one (ms_ret me_bl)) mss_nil)
      (mss_one (ms_append 8 (h := ps_expr (pe_bm PySem.F.plainAttrs_list PySem.F.slot_list_append PySem.F.type_list_append mt_append (pv 8) (pa_cons me_int pa_nil))))))))
    (mss_cons (ms_set sc_law.nd (i := 9) rfl (by first | exact Or.inl rfl | exact Or.inr rfl) (me_call d__law_far (hr.mono (by first | decide | omega)) rfl hpx rfl (ma_cons (me_var 1) (ma_cons (me_sub (me_var 3) me_int) ma_nil))))
    (mss_cons (ms_set sc_law.nd (i := 10) rfl (by first | exact Or.inl rfl | exact Or.inr rfl) (me_add rfl (me_var 4) (MF.me (mf_lst (ma_cons (me_ix rfl (MF.me (mf_lst (ma_cons (me_tup (ma_cons (me_var 9) (ma_cons me_int ma_nil))) (ma_cons (me_tup (ma_cons (me_call d__law_drawn (hr.mono (by first | decide | omega)) rfl hpx rfl (ma_cons (me_var 1) (ma_cons (me_var 3) ma_nil))) (ma_cons (me_var 9) ma_nil))) (ma_cons (me_tup (ma_cons (me_var 9) (ma_cons (me_var 9) ma_nil))) ma_nil))))) (me_call d__law_drawn (hr.mono (by first | decide | omega)) rfl hpx rfl (ma_cons (me_var 1) (ma_cons me_int ma_nil)))) ma_nil)))))
    (mss_cons (ms_if (mt_w (mw_and (mt_ne rfl hr.units (me_var 4) (MF.me (mf_lst ma_nil))) (mw_and1 (mt_eq rfl hr.units (me_call d__law_drawn (hr.mono (by first | decide | omega)) rfl hpx rfl (ma_cons (me_var 1) (ma_cons me_int ma_nil))) me_int)))) (mss_one (ms_set sc_law.nd (i := 10) rfl (by first | exact Or.inl rfl | exact Or.inr rfl) (me_add rfl (me_var 4) (MF.me (mf_lst (ma_cons (me_tup (ma_cons (me_ix rfl (me_ix rfl (me_var 4) (me_call d__law_drawn (hr.mono (by first | decide | omega)) rfl hpx rfl (ma_cons (me_var 1) (ma_cons (me_len F rfl rfl (ma_cons (me_var 4) ma_nil)) ma_nil)))) me_int) (ma_cons (me_call d__law_drawn (hr.mono (by first | decide | omega)) rfl hpx rfl (ma_cons (me_var 1) (ma_cons (me_var 3) ma_nil))) ma_nil))) ma_nil)))))) mss_nil)
    (mss_cons (ms_if (mt_ne rfl hr.units (me_kindN (k := 3) (ws := (["BadLead"] : List Str)) (wn := ([] : List Str)) rfl hfx1 kt ktn rfl gK kK lK cK bK sc__law_kind rfl (Or.inl rfl) (gives_kindN rfl F zVE gM (fun _ => ((hr.mono (j := 1) (by decide)).deeper _).units) (by decide +kernel) (by decide +kernel)) TB rfl (mem_tab1 rfl (lam_q (by rfl))) (un_tab1 rfl nTT (lam_q (by rfl))) (hr.mono (by decide)) (LamX.lamS_by (sc := defScope s_law) (by decide +kernel)) rfl (fun _ _ _ _ _ => rfl) (fun _ _ _ _ _ _ _ hr => (MF.me (mf_call d_at_once (hr.mono (by first | decide | omega)) rfl (passes_call (takes_of rfl rfl rfl rfl) (fun _ _ _ _ h => h)) rfl (ma_cons (me_var 5) (ma_cons (me_var 10) ma_nil)))))) me_str) (mss_one (ms_ret me_bl)) mss_nil)
    (mss_cons (ms_if (mt_ne rfl hr.units (MF.me (mf_lc (own := [("_law_work", 11)]) (t := (.nm 11)) rfl rfl sc_law.nd (mi_any rfl (me_works dW hfx (mem_tab2 rfl rfl) (un_tab2 rfl nTT rfl) (hr.mono (by decide)) rfl hpx (ma_cons (me_var 3) (ma_cons (me_var 10) ma_nil)))) (blkOk_by (N := N_law) (sc := defScope s_law) (by decide +kernel)) (by decide) (fun _ _ _ _ _ => (pg_nm sc_law.nd (i := 11) rfl (by first | exact Or.inl rfl | exact Or.inr rfl))) (fun _ _ _ _ _ => (mts_one (mt_ne rfl hr.units (me_clo (k := 4) (j := 11) (lams := lam01 LD (s0.map (·.1))) (ws := (["BadLead"] : List Str)) (wn := []) (Ng := N__law_kind) rfl kt rfl gK kK lK cK bK sc__law_kind rfl (Or.inl rfl) (gives_kindN rfl F zVE gM (fun _ => ((hr.mono (j := 1) (by decide)).deeper _).units) (by decide +kernel) (by decide +kernel)) lam01_t (hr.mono (by decide)) (fun p hp A outer s H E f cc cl hr => lam01_d d_rings d_shut_rings d_does d_by_copies d_by_swaps d_paper d_least p hp A outer s H E f cc cl hr) rfl (by first | exact Or.inl rfl | exact Or.inr (Or.inl rfl) | exact Or.inr (Or.inr rfl))) me_str))) (fun _ _ _ _ _ => (me_var 11)))) (MF.me (mf_lst ma_nil))) (mss_one (ms_ret me_bl)) mss_nil)
    (mss_cons (ms_set sc_law.nd (i := 12) rfl (by first | exact Or.inl rfl | exact Or.inr rfl) (me_ix rfl (MF.me (mf_lst (ma_cons me_int (ma_cons (me_call d__law_far (hr.mono (by first | decide | omega)) rfl hpx rfl (ma_cons (me_var 1) (ma_cons me_int ma_nil))) ma_nil)))) (me_call d__law_drawn (hr.mono (by first | decide | omega)) rfl hpx rfl (ma_cons (me_var 1) (ma_cons me_int ma_nil)))))
    (mss_cons (ms_if (mt_ne rfl hr.units (MF.me (mf_lc (own := [("_law_work", 11)]) (t := (.nm 11)) rfl rfl sc_law.nd (mi_any rfl (me_works dW hfx (mem_tab2 rfl rfl) (un_tab2 rfl nTT rfl) (hr.mono (by decide)) rfl hpx (ma_cons (me_var 12) (ma_cons (MF.me (mf_lst ma_nil)) ma_nil)))) (blkOk_by (N := N_law) (sc := defScope s_law) (by decide +kernel)) (by decide) (fun _ _ _ _ _ => (pg_nm sc_law.nd (i := 11) rfl (by first | exact Or.inl rfl | exact Or.inr rfl))) (fun _ _ _ _ _ => (mts_one (mt_ne rfl hr.units (me_clo (k := 4) (j := 11) (lams := lam01 LD (s0.map (·.1))) (ws := (["BadLead"] : List Str)) (wn := []) (Ng := N__law_kind) rfl kt rfl gK kK lK cK bK sc__law_kind rfl (Or.inl rfl) (gives_kindN rfl F zVE gM (fun _ => ((hr.mono (j := 1) (by decide)).deeper _).units) (by decide +kernel) (by decide +kernel)) lam01_t (hr.mono (by decide)) (fun p hp A outer s H E f cc cl hr => lam01_d d_rings d_shut_rings d_does d_by_copies d_by_swaps d_paper d_least p hp A outer s H E f cc cl hr) rfl (by first | exact Or.inl rfl | exact Or.inr (Or.inl rfl) | exact Or.inr (Or.inr rfl))) me_str))) (fun _ _ _ _ _ => (me_var 11)))) (MF.me (mf_lst ma_nil))) (mss_one (ms_ret me_bl)) mss_nil)
    (mss_cons (ms_set sc_law.nd (i := 13) rfl (by first | exact Or.inl rfl | exact Or.inr rfl) (me_ix rfl (MF.me (mf_lst (ma_cons (MF.me (mf_lst ma_nil)) (ma_cons (me_mul (me_var 5) me_int) ma_nil)))) (me_call d__law_drawn (hr.mono (by first | decide | omega)) rfl hpx rfl (ma_cons (me_var 1) (ma_cons me_int ma_nil)))))
    (mss_one (ms_if (mt_w (mw_or (mt_ne rfl hr.units (me_kindN (k := 3) (ws := (["BadLead"] : List Str)) (wn := ([] : List Str)) rfl hfx1 kt ktn rfl gK kK lK cK bK sc__law_kind rfl (Or.inl rfl) (gives_kindN rfl F zVE gM (fun _ => ((hr.mono (j := 1) (by decide)).deeper _).units) (by decide +kernel) (by decide +kernel)) TB rfl (mem_tab1 rfl (lam_q (by rfl))) (un_tab1 rfl nTT (lam_q (by rfl))) (hr.mono (by decide)) (LamX.lamS_by (sc := defScope s_law) (by decide +kernel)) rfl (fun _ _ _ _ _ => rfl) (fun _ _ _ _ _ _ _ hr => (MF.me (mf_call d_at_once (hr.mono (by first | decide | omega)) rfl (passes_call (takes_of rfl rfl rfl rfl) (fun _ _ _ _ h => h)) rfl (ma_cons (me_var 13) (ma_cons (MF.me (mf_lst ma_nil)) ma_nil)))))) me_str) (mw_or1 (mt_ne rfl hr.units (me_kindD (k := 3) (ws := (["BadLead"] : List Str)) (wn := ([] : List Str)) (a0 := "_law_a") (Ng := N__law_kind) rfl hfx1 kt rfl rfl gK kK lK cK bK sc__law_kind rfl (Or.inl rfl) (gives_kindN rfl F zVE gM (fun _ => ((hr.mono (j := 1) (by decide)).deeper _).units) (by decide +kernel) (by decide +kernel)) TB rfl (mem_tab1 rfl (lam_q (by rfl))) (un_tab1 rfl nTT (lam_q (by rfl))) (hr.mono (by decide)) (lamSD_by (sc := defScope s_law) (N := N_law) (by decide +kernel)) rfl rfl pe_int (fun _ _ _ _ _ _ _ _ _ ht => BindsTo.of_defaults rfl ht rfl rfl rfl) (fun _ _ _ _ _ _ _ hr => (MF.me (mf_call d_moved (hr.mono (by first | decide | omega)) rfl (passes_call (takes_of rfl rfl rfl rfl) (fun _ _ _ _ h => h)) rfl (ma_cons (me_var 13) (ma_cons (MF.me (mf_lst ma_nil)) ma_nil)))))) me_str)))) (mss_one (ms_ret me_bl)) mss_nil))))))))))))))))
  (mss_one (ms_ret me_bl)))
theorem fn_law {P : Program} {w : World} {K : PySem.W.Frag} {mg : Str → Option Value} {base : Heap} (F : Free mg) (d__law_at_once : Df P w K mg base "_law_at_once" 1 false 2 sp__law_at_once) (d__law_boxes : Df P w K mg base "_law_boxes" 2 false 1 sp__law_boxes) (d__law_drawn : Df P w K mg base "_law_drawn" 1 false 2 sp__law_drawn) (d__law_far : Df P w K mg base "_law_far" 2 false 2 sp__law_far) (d__law_lead : Df P w K mg base "_law_lead" 3 false 2 sp__law_lead) (d__law_same : Df P w K mg base "_law_same" 5 false 2 (sp__law_same 4)) (d__law_worths : Df P w K mg base "_law_worths" 2 false 2 sp__law_worths) (d_at_once : Df P w K mg base "at_once" 3 true 2 sp_at_once) (d_by_copies : Df P w K mg base "by_copies" 3 true 3 sp_by_copies) (d_by_swaps : Df P w K mg base "by_swaps" 3 true 2 sp_by_swaps) (d_does : Df P w K mg base "does" 3 false 4 sp_does) (d_least : Df P w K mg base "least" 4 false 3 sp_least) (d_moved : Df P w K mg base "moved" 2 true 2 sp_moved) (d_paper : Df P w K mg base "paper" 3 false 2 sp_paper) (d_rings : Df P w K mg base "rings" 3 true 2 sp_rings) (d_shut_rings : Df P w K mg base "shut_rings" 3 true 2 sp_shut_rings) (zVE : mg "ValueError" = none) (gM : ∃ A, mg "MoveError" = some (.ref A)) {gk : Addr} {odk ank : Option Addr} {slk : Array (Option Value)} {ock kVk dck pmk cdk ctk : Value} (gK : mg "_law_kind" = some (.ref gk)) (kK : PySem.W.keepIn K (.ref gk) = true) (lK : K.lookup gk = some ⟨ock, odk, .func (PySem.W.fnOf "_law_kind" "_law_kind" (defArgs s__law_kind) (defBody s__law_kind) (defScope s__law_kind) .none kVk dck pmk ank cdk ctk), slk⟩) (cK : PySem.W.codeIn K cdk "_law_kind" = true) (bK : L2.Binds K (PySem.W.fnOf "_law_kind" "_law_kind" (defArgs s__law_kind) (defBody s__law_kind) (defScope s__law_kind) .none kVk dck pmk ank cdk ctk) ["_law_work"] [])
    (kt : ∀ w ∈ (["BadLead"] : List Str), ∃ D, mg w = some (.ref D) ∧ Kinds K mg D w) (ktn : ∀ w ∈ ([] : List Str), ∃ D, mg w = some (.ref D) ∧ Kinds K mg D w ∧ XfC K D ∧ PySem.W.findIn K (.ref D) (fieldOf w) = some none) {c T : Addr} (TB : LamX.TabB base mg c T) {T2 : Addr} (nTT : T ≠ T2) (dW : DfW P w K mg base "_law_works" 7 T2 worksQ LD) {fS : Addr} {fdS : FuncData} (GS : Fun K "_law_start" "_law_start" s__law_start fS fdS) (bS : L2.Binds K fdS ["_law_script"] []) (gS : mg "_law_start" = some (.ref fS)) {f : Addr} {od an : Option Addr} {osl : Array (Option Value)} {oc kV doc pm ct : Value} (lk : K.lookup f = some ⟨oc, od, .func (PySem.W.fnOf "law" "law" (defArgs s_law) (defBody s_law) (defScope s_law) .none kV doc pm an (.ref c) ct), osl⟩) (hcd : PySem.W.codeIn K (.ref c) "law" = true) :
    FnOk P w K mg base (L2.CX P w) 8 f (PySem.W.fnOf "law" "law" (defArgs s_law) (defBody s_law) (defScope s_law) .none kV doc pm an (.ref c) ct) ps_law (spLawT2 K T T2) := by
  refine law_l3T2 (k := 7) (N := N_law) (T := T) (T2 := T2) (q2 := worksQ) lk hcd sc_law (fun sa => m_law_k01 LD sa) (first := (defBody s_law).head!) (rest := (defBody s_law).tail) rfl (by decide) (fun A outer s H E hr => ⟨?_, fun s0 fix hfx B => der_law F d__law_at_once d__law_boxes d__law_drawn d__law_far d__law_lead d__law_same d__law_worths d_at_once d_by_copies d_by_swaps d_does d_least d_moved d_paper d_rings d_shut_rings zVE gM gK kK lK cK bK kt ktn TB nTT dW A outer s H E hr s0 fix hfx B⟩) (pu_law_k01 LD rfl)
  exact ps_set (i := 1) sc_law.nd rfl (by first | exact Or.inl rfl | exact Or.inr rfl) (pe_call (fn__law_start (k := 0) GS) (hr.mono (by decide)) rfl gS GS.kp bS .nil (passes_call (takes_of rfl rfl rfl rfl) (fun _ _ _ _ h => h)) (pa_cons (pe_either (pv 0) (pe_frz (pv 0))) pa_nil))
end L3
set_option pp.maxSteps 400
namespace L3
open PySem PySem.Spec PyProof.Rows L2
set_option maxHeartbeats 8000000 in
theorem all_mk {l : PySem.W.OpenLaw} {w : World} {K : PySem.W.Frag} {h : Heap} {mg : Str → Option Value} {fa f0 f1 f2 f3 f4 f5 f6 f7 f8 f9 f10 f11 f12 f13 f14 f15 f16 f17 f18 f19 f20 f21 f22 f23 cT TT cU UU A_BadLead A_BadSpare A_BadMove A_NoWay A_BadWord A_BadHouse A_BadCall A_BadText A_MoveError : Addr} (X : K.In h) (G : h.Ns mainGlobals mg) (hfa : mg "law" = some (.ref fa))
    {od0 an0 od1 an1 od2 an2 od3 an3 od4 an4 od5 an5 od6 an6 od7 an7 od8 an8 od9 an9 od10 an10 od11 an11 od12 an12 od13 an13 od14 an14 od15 an15 od16 an16 od17 an17 od18 an18 od19 an19 od20 an20 od21 an21 od22 an22 od23 an23 odt odu : Option Addr} {sl0 sl1 sl2 sl3 sl4 sl5 sl6 sl7 sl8 sl9 sl10 sl11 sl12 sl13 sl14 sl15 sl16 sl17 sl18 sl19 sl20 sl21 sl22 sl23 slt slu : Array (Option Value)} {oc0 kV0 dc0 pm0 ct0 cd0 oc1 kV1 dc1 pm1 ct1 cd1 oc2 kV2 dc2 pm2 ct2 cd2 oc3 kV3 dc3 pm3 ct3 cd3 oc4 kV4 dc4 pm4 ct4 cd4 oc5 kV5 dc5 pm5 ct5 cd5 oc6 kV6 dc6 pm6 ct6 cd6 oc7 kV7 dc7 pm7 ct7 cd7 oc8 kV8 dc8 pm8 ct8 cd8 oc9 kV9 dc9 pm9 ct9 cd9 oc10 kV10 dc10 pm10 ct10 cd10 oc11 kV11 dc11 pm11 ct11 cd11 oc12 kV12 dc12 pm12 ct12 cd12 oc13 kV13 dc13 pm13 ct13 cd13 oc14 kV14 dc14 pm14 ct14 cd14 oc15 kV15 dc15 pm15 ct15 cd15 oc16 kV16 dc16 pm16 ct16 cd16 oc17 kV17 dc17 pm17 ct17 cd17 oc18 kV18 dc18 pm18 ct18 cd18 oc19 kV19 dc19 pm19 ct19 cd19 oc20 kV20 dc20 pm20 ct20 oc21 kV21 dc21 pm21 ct21 cd21 oc22 kV22 dc22 pm22 ct22 cd22 oc23 kV23 dc23 pm23 ct23 oct ocu : Value} {t0 : Tok} {vst : Array Value} {vsu : Array Value}
    (a0 : PySem.W.nsIn K mainGlobals "_law_start" = some (some (.ref f0)))
    (l0 : K.lookup f0 = some ⟨oc0, od0, .func (PySem.W.fnOf "_law_start" "_law_start" (defArgs s__law_start) (defBody s__law_start) (defScope s__law_start) .none kV0 dc0 pm0 an0 cd0 ct0), sl0⟩)
    (c0 : PySem.W.codeIn K cd0 "_law_start" = true)
    (k0 : PySem.W.keepIn K (.ref f0) = true)
    (a1 : PySem.W.nsIn K mainGlobals "_law_drawn" = some (some (.ref f1)))
    (l1 : K.lookup f1 = some ⟨oc1, od1, .func (PySem.W.fnOf "_law_drawn" "_law_drawn" (defArgs s__law_drawn) (defBody s__law_drawn) (defScope s__law_drawn) .none kV1 dc1 pm1 an1 cd1 ct1), sl1⟩)
    (c1 : PySem.W.codeIn K cd1 "_law_drawn" = true)
    (k1 : PySem.W.keepIn K (.ref f1) = true)
    (a2 : PySem.W.nsIn K mainGlobals "_law_boxes" = some (some (.ref f2)))
    (l2 : K.lookup f2 = some ⟨oc2, od2, .func (PySem.W.fnOf "_law_boxes" "_law_boxes" (defArgs s__law_boxes) (defBody s__law_boxes) (defScope s__law_boxes) .none kV2 dc2 pm2 an2 cd2 ct2), sl2⟩)
    (c2 : PySem.W.codeIn K cd2 "_law_boxes" = true)
    (k2 : PySem.W.keepIn K (.ref f2) = true)
    (a3 : PySem.W.nsIn K mainGlobals "_law_order" = some (some (.ref f3)))
    (l3 : K.lookup f3 = some ⟨oc3, od3, .func (PySem.W.fnOf "_law_order" "_law_order" (defArgs s__law_order) (defBody s__law_order) (defScope s__law_order) .none kV3 dc3 pm3 an3 cd3 ct3), sl3⟩)
    (c3 : PySem.W.codeIn K cd3 "_law_order" = true)
    (k3 : PySem.W.keepIn K (.ref f3) = true)
    (a4 : PySem.W.nsIn K mainGlobals "_law_lead" = some (some (.ref f4)))
    (l4 : K.lookup f4 = some ⟨oc4, od4, .func (PySem.W.fnOf "_law_lead" "_law_lead" (defArgs s__law_lead) (defBody s__law_lead) (defScope s__law_lead) .none kV4 dc4 pm4 an4 cd4 ct4), sl4⟩)
    (c4 : PySem.W.codeIn K cd4 "_law_lead" = true)
    (k4 : PySem.W.keepIn K (.ref f4) = true)
    (a5 : PySem.W.nsIn K mainGlobals "_law_worths" = some (some (.ref f5)))
    (l5 : K.lookup f5 = some ⟨oc5, od5, .func (PySem.W.fnOf "_law_worths" "_law_worths" (defArgs s__law_worths) (defBody s__law_worths) (defScope s__law_worths) .none kV5 dc5 pm5 an5 cd5 ct5), sl5⟩)
    (c5 : PySem.W.codeIn K cd5 "_law_worths" = true)
    (k5 : PySem.W.keepIn K (.ref f5) = true)
    (a6 : PySem.W.nsIn K mainGlobals "_law_far" = some (some (.ref f6)))
    (l6 : K.lookup f6 = some ⟨oc6, od6, .func (PySem.W.fnOf "_law_far" "_law_far" (defArgs s__law_far) (defBody s__law_far) (defScope s__law_far) .none kV6 dc6 pm6 an6 cd6 ct6), sl6⟩)
    (c6 : PySem.W.codeIn K cd6 "_law_far" = true)
    (k6 : PySem.W.keepIn K (.ref f6) = true)
    (a7 : PySem.W.nsIn K mainGlobals "need_boxes" = some (some (.ref f7)))
    (l7 : K.lookup f7 = some ⟨oc7, od7, .func (PySem.W.fnOf "need_boxes" "need_boxes" (defArgs s_need_boxes) (defBody s_need_boxes) (defScope s_need_boxes) .none kV7 dc7 pm7 an7 cd7 ct7), sl7⟩)
    (c7 : PySem.W.codeIn K cd7 "need_boxes" = true)
    (k7 : PySem.W.keepIn K (.ref f7) = true)
    (a8 : PySem.W.nsIn K mainGlobals "is_box" = some (some (.ref f8)))
    (l8 : K.lookup f8 = some ⟨oc8, od8, .func (PySem.W.fnOf "is_box" "is_box" (defArgs s_is_box) (defBody s_is_box) (defScope s_is_box) .none kV8 dc8 pm8 an8 cd8 ct8), sl8⟩)
    (c8 : PySem.W.codeIn K cd8 "is_box" = true)
    (k8 : PySem.W.keepIn K (.ref f8) = true)
    (a9 : PySem.W.nsIn K mainGlobals "need_lead" = some (some (.ref f9)))
    (l9 : K.lookup f9 = some ⟨oc9, od9, .func (PySem.W.fnOf "need_lead" "need_lead" (defArgs s_need_lead) (defBody s_need_lead) (defScope s_need_lead) .none kV9 dc9 pm9 an9 cd9 ct9), sl9⟩)
    (c9 : PySem.W.codeIn K cd9 "need_lead" = true)
    (k9 : PySem.W.keepIn K (.ref f9) = true)
    (a10 : PySem.W.nsIn K mainGlobals "at_once" = some (some (.ref f10)))
    (l10 : K.lookup f10 = some ⟨oc10, od10, .func (PySem.W.fnOf "at_once" "at_once" (defArgs s_at_once) (defBody s_at_once) (defScope s_at_once) .none kV10 dc10 pm10 an10 cd10 ct10), sl10⟩)
    (c10 : PySem.W.codeIn K cd10 "at_once" = true)
    (k10 : PySem.W.keepIn K (.ref f10) = true)
    (a11 : PySem.W.nsIn K mainGlobals "_law_kind" = some (some (.ref f11)))
    (l11 : K.lookup f11 = some ⟨oc11, od11, .func (PySem.W.fnOf "_law_kind" "_law_kind" (defArgs s__law_kind) (defBody s__law_kind) (defScope s__law_kind) .none kV11 dc11 pm11 an11 cd11 ct11), sl11⟩)
    (c11 : PySem.W.codeIn K cd11 "_law_kind" = true)
    (k11 : PySem.W.keepIn K (.ref f11) = true)
    (a12 : PySem.W.nsIn K mainGlobals "_law_same" = some (some (.ref f12)))
    (l12 : K.lookup f12 = some ⟨oc12, od12, .func (PySem.W.fnOf "_law_same" "_law_same" (defArgs s__law_same) (defBody s__law_same) (defScope s__law_same) .none kV12 dc12 pm12 an12 cd12 ct12), sl12⟩)
    (c12 : PySem.W.codeIn K cd12 "_law_same" = true)
    (k12 : PySem.W.keepIn K (.ref f12) = true)
    (a13 : PySem.W.nsIn K mainGlobals "rings" = some (some (.ref f13)))
    (l13 : K.lookup f13 = some ⟨oc13, od13, .func (PySem.W.fnOf "rings" "rings" (defArgs s_rings) (defBody s_rings) (defScope s_rings) .none kV13 dc13 pm13 an13 cd13 ct13), sl13⟩)
    (c13 : PySem.W.codeIn K cd13 "rings" = true)
    (k13 : PySem.W.keepIn K (.ref f13) = true)
    (a14 : PySem.W.nsIn K mainGlobals "shut_rings" = some (some (.ref f14)))
    (l14 : K.lookup f14 = some ⟨oc14, od14, .func (PySem.W.fnOf "shut_rings" "shut_rings" (defArgs s_shut_rings) (defBody s_shut_rings) (defScope s_shut_rings) .none kV14 dc14 pm14 an14 cd14 ct14), sl14⟩)
    (c14 : PySem.W.codeIn K cd14 "shut_rings" = true)
    (k14 : PySem.W.keepIn K (.ref f14) = true)
    (a15 : PySem.W.nsIn K mainGlobals "does" = some (some (.ref f15)))
    (l15 : K.lookup f15 = some ⟨oc15, od15, .func (PySem.W.fnOf "does" "does" (defArgs s_does) (defBody s_does) (defScope s_does) .none kV15 dc15 pm15 an15 cd15 ct15), sl15⟩)
    (c15 : PySem.W.codeIn K cd15 "does" = true)
    (k15 : PySem.W.keepIn K (.ref f15) = true)
    (a16 : PySem.W.nsIn K mainGlobals "by_copies" = some (some (.ref f16)))
    (l16 : K.lookup f16 = some ⟨oc16, od16, .func (PySem.W.fnOf "by_copies" "by_copies" (defArgs s_by_copies) (defBody s_by_copies) (defScope s_by_copies) .none kV16 dc16 pm16 an16 cd16 ct16), sl16⟩)
    (c16 : PySem.W.codeIn K cd16 "by_copies" = true)
    (k16 : PySem.W.keepIn K (.ref f16) = true)
    (a17 : PySem.W.nsIn K mainGlobals "by_swaps" = some (some (.ref f17)))
    (l17 : K.lookup f17 = some ⟨oc17, od17, .func (PySem.W.fnOf "by_swaps" "by_swaps" (defArgs s_by_swaps) (defBody s_by_swaps) (defScope s_by_swaps) .none kV17 dc17 pm17 an17 cd17 ct17), sl17⟩)
    (c17 : PySem.W.codeIn K cd17 "by_swaps" = true)
    (k17 : PySem.W.keepIn K (.ref f17) = true)
    (a18 : PySem.W.nsIn K mainGlobals "paper" = some (some (.ref f18)))
    (l18 : K.lookup f18 = some ⟨oc18, od18, .func (PySem.W.fnOf "paper" "paper" (defArgs s_paper) (defBody s_paper) (defScope s_paper) .none kV18 dc18 pm18 an18 cd18 ct18), sl18⟩)
    (c18 : PySem.W.codeIn K cd18 "paper" = true)
    (k18 : PySem.W.keepIn K (.ref f18) = true)
    (a19 : PySem.W.nsIn K mainGlobals "least" = some (some (.ref f19)))
    (l19 : K.lookup f19 = some ⟨oc19, od19, .func (PySem.W.fnOf "least" "least" (defArgs s_least) (defBody s_least) (defScope s_least) .none kV19 dc19 pm19 an19 cd19 ct19), sl19⟩)
    (c19 : PySem.W.codeIn K cd19 "least" = true)
    (k19 : PySem.W.keepIn K (.ref f19) = true)
    (a20 : PySem.W.nsIn K mainGlobals "_law_works" = some (some (.ref f20)))
    (l20 : K.lookup f20 = some ⟨oc20, od20, .func (PySem.W.fnOf "_law_works" "_law_works" (defArgs s__law_works) (defBody s__law_works) (defScope s__law_works) .none kV20 dc20 pm20 an20 (.ref cU) ct20), sl20⟩)
    (c20 : PySem.W.codeIn K (.ref cU) "_law_works" = true)
    (k20 : PySem.W.keepIn K (.ref f20) = true)
    (a21 : PySem.W.nsIn K mainGlobals "_law_at_once" = some (some (.ref f21)))
    (l21 : K.lookup f21 = some ⟨oc21, od21, .func (PySem.W.fnOf "_law_at_once" "_law_at_once" (defArgs s__law_at_once) (defBody s__law_at_once) (defScope s__law_at_once) .none kV21 dc21 pm21 an21 cd21 ct21), sl21⟩)
    (c21 : PySem.W.codeIn K cd21 "_law_at_once" = true)
    (k21 : PySem.W.keepIn K (.ref f21) = true)
    (a22 : PySem.W.nsIn K mainGlobals "moved" = some (some (.ref f22)))
    (l22 : K.lookup f22 = some ⟨oc22, od22, .func (PySem.W.fnOf "moved" "moved" (defArgs s_moved) (defBody s_moved) (defScope s_moved) .none kV22 dc22 pm22 an22 cd22 ct22), sl22⟩)
    (c22 : PySem.W.codeIn K cd22 "moved" = true)
    (k22 : PySem.W.keepIn K (.ref f22) = true)
    (a23 : PySem.W.nsIn K mainGlobals "law" = some (some (.ref f23)))
    (l23 : K.lookup f23 = some ⟨oc23, od23, .func (PySem.W.fnOf "law" "law" (defArgs s_law) (defBody s_law) (defScope s_law) .none kV23 dc23 pm23 an23 (.ref cT) ct23), sl23⟩)
    (c23 : PySem.W.codeIn K (.ref cT) "law" = true)
    (k23 : PySem.W.keepIn K (.ref f23) = true)
    (z0 : PySem.W.nsIn K mainGlobals "len" = some none)
    (z1 : PySem.W.nsIn K mainGlobals "set" = some none)
    (z2 : PySem.W.nsIn K mainGlobals "dict" = some none)
    (z3 : PySem.W.nsIn K mainGlobals "range" = some none)
    (z4 : PySem.W.nsIn K mainGlobals "sorted" = some none)
    (z5 : PySem.W.nsIn K mainGlobals "list" = some none)
    (z6 : PySem.W.nsIn K mainGlobals "tuple" = some none)
    (z7 : PySem.W.nsIn K mainGlobals "min" = some none)
    (z8 : PySem.W.nsIn K mainGlobals "max" = some none)
    (z9 : PySem.W.nsIn K mainGlobals "int" = some none)
    (z10 : PySem.W.nsIn K mainGlobals "str" = some none)
    (z11 : PySem.W.nsIn K mainGlobals "isinstance" = some none)
    (z12 : PySem.W.nsIn K mainGlobals "bool" = some none)
    (z13 : PySem.W.nsIn K mainGlobals "zip" = some none)
    (z14 : PySem.W.nsIn K mainGlobals "enumerate" = some none)
    (z15 : PySem.W.nsIn K mainGlobals "ValueError" = some none)
    (v0 : PySem.W.nsIn K mainGlobals "MOST_BOXES" = some (some (.int 10 t0)))
    (tb0 : K.lookup cT = some ⟨oct, odt, .fields vst, slt⟩)
    (tb1 : vst[11]? = some (.ref TT))
    (nT : K.lookup TT = none)
    (ub0 : K.lookup cU = some ⟨ocu, odu, .fields vsu, slu⟩)
    (ub1 : vsu[11]? = some (.ref UU))
    (nU : K.lookup UU = none)
    (nTU : TT ≠ UU)
    (e_BadLead : PySem.W.nsIn K mainGlobals "BadLead" = some (some (.ref A_BadLead)))
    (ic_BadLead : PySem.W.isClsIn K A_BadLead = true)
    (it_BadLead : PySem.W.typeIn K (.ref A_BadLead) = some (.type "type"))
    (e_BadSpare : PySem.W.nsIn K mainGlobals "BadSpare" = some (some (.ref A_BadSpare)))
    (ic_BadSpare : PySem.W.isClsIn K A_BadSpare = true)
    (it_BadSpare : PySem.W.typeIn K (.ref A_BadSpare) = some (.type "type"))
    (e_BadMove : PySem.W.nsIn K mainGlobals "BadMove" = some (some (.ref A_BadMove)))
    (ic_BadMove : PySem.W.isClsIn K A_BadMove = true)
    (it_BadMove : PySem.W.typeIn K (.ref A_BadMove) = some (.type "type"))
    (e_NoWay : PySem.W.nsIn K mainGlobals "NoWay" = some (some (.ref A_NoWay)))
    (ic_NoWay : PySem.W.isClsIn K A_NoWay = true)
    (it_NoWay : PySem.W.typeIn K (.ref A_NoWay) = some (.type "type"))
    (e_BadWord : PySem.W.nsIn K mainGlobals "BadWord" = some (some (.ref A_BadWord)))
    (ic_BadWord : PySem.W.isClsIn K A_BadWord = true)
    (it_BadWord : PySem.W.typeIn K (.ref A_BadWord) = some (.type "type"))
    (e_BadHouse : PySem.W.nsIn K mainGlobals "BadHouse" = some (some (.ref A_BadHouse)))
    (ic_BadHouse : PySem.W.isClsIn K A_BadHouse = true)
    (it_BadHouse : PySem.W.typeIn K (.ref A_BadHouse) = some (.type "type"))
    (e_BadCall : PySem.W.nsIn K mainGlobals "BadCall" = some (some (.ref A_BadCall)))
    (ic_BadCall : PySem.W.isClsIn K A_BadCall = true)
    (it_BadCall : PySem.W.typeIn K (.ref A_BadCall) = some (.type "type"))
    (e_BadText : PySem.W.nsIn K mainGlobals "BadText" = some (some (.ref A_BadText)))
    (ic_BadText : PySem.W.isClsIn K A_BadText = true)
    (it_BadText : PySem.W.typeIn K (.ref A_BadText) = some (.type "type"))
    (e_MoveError : PySem.W.nsIn K mainGlobals "MoveError" = some (some (.ref A_MoveError)))
    (ic_MoveError : PySem.W.isClsIn K A_MoveError = true)
    (it_MoveError : PySem.W.typeIn K (.ref A_MoveError) = some (.type "type"))
    (x3_MoveError : PySem.W.subIn K (.ref A_MoveError) (.type "BaseException") = some true)
    (y1 : PySem.W.specialIn K (.builtin "object.__class__") "__get__" = some (some (.builtin "getset_descriptor.__get__")))
    (y2 : PySem.W.takesIn K (.builtin "object.__class__") = some true)
    (x1_BadLead : PySem.W.findIn K (.ref A_BadLead) "__getattribute__" = some (some (.builtin "BaseException.__getattribute__")))
    (x2_BadLead : PySem.W.findIn K (.ref A_BadLead) "__getattr__" = some none)
    (x3_BadLead : PySem.W.subIn K (.ref A_BadLead) (.type "BaseException") = some true)
    (x4_BadLead : PySem.W.hasDictIn K A_BadLead = true)
    (x5_BadLead : PySem.W.findIn K (.ref A_BadLead) "__class__" = some (some (.builtin "object.__class__")))
    (x6_BadLead : PySem.W.mroIn K A_BadLead (.type "object") = some true)
    (x7_BadLead : PySem.W.subIn K (.ref A_BadLead) (.ref A_MoveError) = some true)
    (x8_BadLead : PySem.W.subIn K (.ref A_BadLead) (.type "ValueError") = some true)
    (q_BadLead_BadLead : PySem.W.subIn K (.ref A_BadLead) (.ref A_BadLead) = some true)
    (q_BadLead_BadSpare : PySem.W.subIn K (.ref A_BadLead) (.ref A_BadSpare) = some false)
    (q_BadLead_BadMove : PySem.W.subIn K (.ref A_BadLead) (.ref A_BadMove) = some false)
    (q_BadLead_NoWay : PySem.W.subIn K (.ref A_BadLead) (.ref A_NoWay) = some false)
    (q_BadLead_BadWord : PySem.W.subIn K (.ref A_BadLead) (.ref A_BadWord) = some false)
    (q_BadLead_BadHouse : PySem.W.subIn K (.ref A_BadLead) (.ref A_BadHouse) = some false)
    (q_BadLead_BadCall : PySem.W.subIn K (.ref A_BadLead) (.ref A_BadCall) = some false)
    (q_BadLead_BadText : PySem.W.subIn K (.ref A_BadLead) (.ref A_BadText) = some false)
    (w1_BadLead : PySem.W.excIn K A_BadLead [.type "ValueError", .type "Exception", .type "BaseException", .type "object"] "ValueError.__new__" = true)
    (w2_BadLead : PySem.W.keepIn K (.ref A_BadLead) = true)
    (w3_BadLead : PySem.W.subIn K (.ref A_BadLead) (.type "BaseException") = some true)
    (w4_BadLead : PySem.W.typeIn K (.ref A_BadLead) = some (.type "type")) :
    ∃ (c T c2 T2 : Addr) (fd : FuncData), PySem.W.tabIn K "law" = some (c, T) ∧ K.lookup T = none ∧ PySem.W.tabIn K "_law_works" = some (c2, T2) ∧ K.lookup T2 = none ∧ (∀ (s : Shared) (v : Value), BindsTo s fd ⟨[v], []⟩ [("_law_script", v)]) ∧ ∀ base : Heap, K.In base → base.Ns mainGlobals mg → LamX.TabB base mg c T → LamX.TabB base mg c2 T2 → FnOk l.prog w K mg base (L2.CX l.prog w) 8 fa fd ["_law_script"] (spLawT2 K T T2) := by
  have e := hfa.symm.trans (PySem.W.mg_of X G a23)
  cases e
  have F : Free mg := ⟨PySem.W.mg_none_of X G z0, PySem.W.mg_none_of X G z1, PySem.W.mg_none_of X G z2, PySem.W.mg_none_of X G z3, PySem.W.mg_none_of X G z4, PySem.W.mg_none_of X G z5, PySem.W.mg_none_of X G z6, PySem.W.mg_none_of X G z7, PySem.W.mg_none_of X G z8, PySem.W.mg_none_of X G z9, PySem.W.mg_none_of X G z10, PySem.W.mg_none_of X G z11, PySem.W.mg_none_of X G z12, PySem.W.mg_none_of X G z13, PySem.W.mg_none_of X G z14⟩
  have F0 := fun_mk (st := s__law_start) l0 c0 k0
  have F1 := fun_mk (st := s__law_drawn) l1 c1 k1
  have F2 := fun_mk (st := s__law_boxes) l2 c2 k2
  have F3 := fun_mk (st := s__law_order) l3 c3 k3
  have F4 := fun_mk (st := s__law_lead) l4 c4 k4
  have F5 := fun_mk (st := s__law_worths) l5 c5 k5
  have F6 := fun_mk (st := s__law_far) l6 c6 k6
  have F7 := fun_mk (st := s_need_boxes) l7 c7 k7
  have F8 := fun_mk (st := s_is_box) l8 c8 k8
  have F9 := fun_mk (st := s_need_lead) l9 c9 k9
  have F10 := fun_mk (st := s_at_once) l10 c10 k10
  have F11 := fun_mk (st := s__law_kind) l11 c11 k11
  have F12 := fun_mk (st := s__law_same) l12 c12 k12
  have F13 := fun_mk (st := s_rings) l13 c13 k13
  have F14 := fun_mk (st := s_shut_rings) l14 c14 k14
  have F15 := fun_mk (st := s_does) l15 c15 k15
  have F16 := fun_mk (st := s_by_copies) l16 c16 k16
  have F17 := fun_mk (st := s_by_swaps) l17 c17 k17
  have F18 := fun_mk (st := s_paper) l18 c18 k18
  have F19 := fun_mk (st := s_least) l19 c19 k19
  have F20 := fun_mk (st := s__law_works) l20 c20 k20
  have F21 := fun_mk (st := s__law_at_once) l21 c21 k21
  have F22 := fun_mk (st := s_moved) l22 c22 k22
  have b0 := F0.binds (ps := ["_law_script"]) fun _ _ _ _ _ _ us hl => match us, hl with | [_], _ => rfl
  have b1 := F1.binds (ps := ["_law_state", "_law_many"]) fun _ _ _ _ _ _ us hl => match us, hl with | [_, _], _ => rfl
  have b2 := F2.binds (ps := ["_law_state"]) fun _ _ _ _ _ _ us hl => match us, hl with | [_], _ => rfl
  have b3 := F3.binds (ps := ["_law_state", "_law_some"]) fun _ _ _ _ _ _ us hl => match us, hl with | [_, _], _ => rfl
  have b4 := F4.binds (ps := ["_law_state", "_law_boxes_here"]) fun _ _ _ _ _ _ us hl => match us, hl with | [_, _], _ => rfl
  have b5 := F5.binds (ps := ["_law_state", "_law_boxes_here"]) fun _ _ _ _ _ _ us hl => match us, hl with | [_, _], _ => rfl
  have b6 := F6.binds (ps := ["_law_state", "_law_most"]) fun _ _ _ _ _ _ us hl => match us, hl with | [_, _], _ => rfl
  have b7 := F7.binds (ps := ["boxes"]) fun _ _ _ _ _ _ us hl => match us, hl with | [_], _ => rfl
  have b8 := F8.binds (ps := ["boxes", "box"]) fun _ _ _ _ _ _ us hl => match us, hl with | [_, _], _ => rfl
  have b9 := F9.binds (ps := ["boxes", "lead"]) fun _ _ _ _ _ _ us hl => match us, hl with | [_, _], _ => rfl
  have b10 := F10.binds (ps := ["worths", "lead"]) fun _ _ _ _ _ _ us hl => match us, hl with | [_, _], _ => rfl
  have b11 := F11.binds (ps := ["_law_work"]) fun _ _ _ _ _ _ us hl => match us, hl with | [_], _ => rfl
  have b12 := F12.binds (ps := ["_law_found", "_law_due"]) fun _ _ _ _ _ _ us hl => match us, hl with | [_, _], _ => rfl
  have b13 := F13.binds (ps := ["boxes", "lead"]) fun _ _ _ _ _ _ us hl => match us, hl with | [_, _], _ => rfl
  have b14 := F14.binds (ps := ["boxes", "lead"]) fun _ _ _ _ _ _ us hl => match us, hl with | [_, _], _ => rfl
  have b15 := F15.binds (ps := ["boxes", "lead", "spares", "moves"]) fun _ _ _ _ _ _ us hl => match us, hl with | [_, _, _, _], _ => rfl
  have b16 := F16.binds (ps := ["boxes", "lead", "spares"]) fun _ _ _ _ _ _ us hl => match us, hl with | [_, _, _], _ => rfl
  have b17 := F17.binds (ps := ["boxes", "lead"]) fun _ _ _ _ _ _ us hl => match us, hl with | [_, _], _ => rfl
  have b18 := F18.binds (ps := ["boxes", "lead"]) fun _ _ _ _ _ _ us hl => match us, hl with | [_, _], _ => rfl
  have b19 := F19.binds (ps := ["boxes", "lead", "word"]) fun _ _ _ _ _ _ us hl => match us, hl with | [_, _, _], _ => rfl
  have b20 := F20.binds (ps := ["_law_boxes_here", "_law_lead_here"]) fun _ _ _ _ _ _ us hl => match us, hl with | [_, _], _ => rfl
  have b21 := F21.binds (ps := ["_law_worths_here", "_law_lead_here"]) fun _ _ _ _ _ _ us hl => match us, hl with | [_, _], _ => rfl
  have b22 := F22.binds (ps := ["worths", "moves"]) fun _ _ _ _ _ _ us hl => match us, hl with | [_, _], _ => rfl
  have g_MOST_BOXES : ∃ t, mg "MOST_BOXES" = some (.int 10 t) := ⟨_, PySem.W.mg_of X G v0⟩
  have tb : PySem.W.tabIn K "law" = some (cT, TT) := tab_mk a23 l23 rfl tb0 tb1
  have ub : PySem.W.tabIn K "_law_works" = some (cU, UU) := tab_mk a20 l20 rfl ub0 ub1
  have E_BadLead : ExcC K A_BadLead := ⟨x1_BadLead, x2_BadLead, x3_BadLead, x4_BadLead, x5_BadLead, y1, y2, x6_BadLead⟩
  have K_BadLead : Kinds K mg A_BadLead "BadLead" := by
    refine ⟨E_BadLead, ⟨_, PySem.W.mg_of X G e_MoveError, exm_ref ic_MoveError it_MoveError x7_BadLead x3_MoveError⟩, fun c hc => ?_, kit_T (by decide +kernel) x8_BadLead⟩
    simp only [List.mem_cons, List.mem_nil_iff, or_false] at hc
    rcases hc with rfl | rfl | rfl | rfl | rfl | rfl | rfl | rfl
    · exact ⟨_, PySem.W.mg_of X G e_BadLead, by rw [show decide (("BadLead" : Str) = "BadLead") = true by decide +kernel]; exact kit_ref ic_BadLead it_BadLead q_BadLead_BadLead q_BadLead_BadLead⟩
    · exact ⟨_, PySem.W.mg_of X G e_BadSpare, by rw [show decide (("BadSpare" : Str) = "BadLead") = false by decide +kernel]; exact kit_ref ic_BadSpare it_BadSpare q_BadLead_BadSpare q_BadLead_BadLead⟩
    · exact ⟨_, PySem.W.mg_of X G e_BadMove, by rw [show decide (("BadMove" : Str) = "BadLead") = false by decide +kernel]; exact kit_ref ic_BadMove it_BadMove q_BadLead_BadMove q_BadLead_BadLead⟩
    · exact ⟨_, PySem.W.mg_of X G e_NoWay, by rw [show decide (("NoWay" : Str) = "BadLead") = false by decide +kernel]; exact kit_ref ic_NoWay it_NoWay q_BadLead_NoWay q_BadLead_BadLead⟩
    · exact ⟨_, PySem.W.mg_of X G e_BadWord, by rw [show decide (("BadWord" : Str) = "BadLead") = false by decide +kernel]; exact kit_ref ic_BadWord it_BadWord q_BadLead_BadWord q_BadLead_BadLead⟩
    · exact ⟨_, PySem.W.mg_of X G e_BadHouse, by rw [show decide (("BadHouse" : Str) = "BadLead") = false by decide +kernel]; exact kit_ref ic_BadHouse it_BadHouse q_BadLead_BadHouse q_BadLead_BadLead⟩
    · exact ⟨_, PySem.W.mg_of X G e_BadCall, by rw [show decide (("BadCall" : Str) = "BadLead") = false by decide +kernel]; exact kit_ref ic_BadCall it_BadCall q_BadLead_BadCall q_BadLead_BadLead⟩
    · exact ⟨_, PySem.W.mg_of X G e_BadText, by rw [show decide (("BadText" : Str) = "BadLead") = false by decide +kernel]; exact kit_ref ic_BadText it_BadText q_BadLead_BadText q_BadLead_BadLead⟩
  have kt : ∀ w ∈ (["BadLead"] : List Str), ∃ D, mg w = some (.ref D) ∧ Kinds K mg D w := by
    intro w hw
    simp only [List.mem_cons, List.mem_nil_iff, or_false] at hw
    rcases hw with rfl
    · exact ⟨_, PySem.W.mg_of X G e_BadLead, K_BadLead⟩
  have ktn : ∀ w ∈ ([] : List Str), ∃ D, mg w = some (.ref D) ∧ Kinds K mg D w ∧ XfC K D ∧ PySem.W.findIn K (.ref D) (fieldOf w) = some none := by
    intro w hw
    exact nomatch hw
  have x_BadLead : XOk K mg "BadLead" := ⟨⟨_, PySem.W.mg_of X G e_BadLead, w1_BadLead, w2_BadLead, w3_BadLead, w4_BadLead⟩⟩
  refine ⟨cT, TT, cU, UU, PySem.W.fnOf "law" "law" (defArgs s_law) (defBody s_law) (defScope s_law) .none kV23 dc23 pm23 an23 (.ref cT) ct23, tb, nT, ub, nU, fun s v => .of_eq rfl, fun base _ _ TB TB2 => ?_⟩
  have d__law_drawn : Df l.prog w K mg base "_law_drawn" 1 false 2 sp__law_drawn := ⟨⟨f1, _, ["_law_state", "_law_many"], fn__law_drawn (k := 0) F F1, PySem.W.mg_of X G a1, F1.kp, b1⟩⟩
  have d__law_boxes : Df l.prog w K mg base "_law_boxes" 2 false 1 sp__law_boxes := ⟨⟨f2, _, ps__law_boxes, fn__law_boxes F d__law_drawn F2, PySem.W.mg_of X G a2, F2.kp, b2⟩⟩
  have d__law_order : Df l.prog w K mg base "_law_order" 2 false 2 sp__law_order := ⟨⟨f3, _, ps__law_order, fn__law_order F d__law_drawn F3, PySem.W.mg_of X G a3, F3.kp, b3⟩⟩
  have d__law_lead : Df l.prog w K mg base "_law_lead" 3 false 2 sp__law_lead := ⟨⟨f4, _, ps__law_lead, fn__law_lead F d__law_drawn d__law_order F4, PySem.W.mg_of X G a4, F4.kp, b4⟩⟩
  have d__law_worths : Df l.prog w K mg base "_law_worths" 2 false 2 sp__law_worths := ⟨⟨f5, _, ps__law_worths, fn__law_worths F d__law_drawn F5, PySem.W.mg_of X G a5, F5.kp, b5⟩⟩
  have d__law_far : Df l.prog w K mg base "_law_far" 2 false 2 sp__law_far := ⟨⟨f6, _, ps__law_far, fn__law_far F d__law_drawn F6, PySem.W.mg_of X G a6, F6.kp, b6⟩⟩
  have d_need_boxes : Df l.prog w K mg base "need_boxes" 1 false 1 sp_need_boxes := ⟨⟨f7, _, ps_need_boxes, fn_need_boxes F x_BadLead g_MOST_BOXES F7, PySem.W.mg_of X G a7, F7.kp, b7⟩⟩
  have d_is_box : Df l.prog w K mg base "is_box" 1 false 2 sp_is_box := ⟨⟨f8, _, ps_is_box, fn_is_box F F8, PySem.W.mg_of X G a8, F8.kp, b8⟩⟩
  have d_need_lead : Df l.prog w K mg base "need_lead" 2 false 2 sp_need_lead := ⟨⟨f9, _, ps_need_lead, fn_need_lead F d_is_box d_need_boxes x_BadLead F9, PySem.W.mg_of X G a9, F9.kp, b9⟩⟩
  have d_at_once : Df l.prog w K mg base "at_once" 3 true 2 sp_at_once := ⟨⟨f10, _, ps_at_once, fn_at_once F d_need_lead F10, PySem.W.mg_of X G a10, F10.kp, b10⟩⟩
  have d__law_same : Df l.prog w K mg base "_law_same" 5 false 2 (sp__law_same 4) := ⟨⟨f12, _, ps__law_same, fn__law_same F F12 b12 (PySem.W.mg_of X G a12) 4, PySem.W.mg_of X G a12, F12.kp, b12⟩⟩
  have d_rings : Df l.prog w K mg base "rings" 3 true 2 sp_rings := ⟨⟨f13, _, ps_rings, fn_rings F d_need_lead F13, PySem.W.mg_of X G a13, F13.kp, b13⟩⟩
  have d_shut_rings : Df l.prog w K mg base "shut_rings" 3 true 2 sp_shut_rings := ⟨⟨f14, _, ps_shut_rings, fn_shut_rings F d_need_lead F14, PySem.W.mg_of X G a14, F14.kp, b14⟩⟩
  have d_does : Df l.prog w K mg base "does" 3 false 4 sp_does := ⟨⟨f15, _, ps_does, fn_does F d_need_lead F15, PySem.W.mg_of X G a15, F15.kp, b15⟩⟩
  have d_by_copies : Df l.prog w K mg base "by_copies" 3 true 3 sp_by_copies := ⟨⟨f16, _, ps_by_copies, fn_by_copies F d_need_lead F16, PySem.W.mg_of X G a16, F16.kp, b16⟩⟩
  have d_by_swaps : Df l.prog w K mg base "by_swaps" 3 true 2 sp_by_swaps := ⟨⟨f17, _, ps_by_swaps, fn_by_swaps F d_need_lead F17, PySem.W.mg_of X G a17, F17.kp, b17⟩⟩
  have d_paper : Df l.prog w K mg base "paper" 3 false 2 sp_paper := ⟨⟨f18, _, ps_paper, fn_paper F d_need_lead F18, PySem.W.mg_of X G a18, F18.kp, b18⟩⟩
  have d_least : Df l.prog w K mg base "least" 4 false 3 sp_least := ⟨⟨f19, _, ps_least, fn_least F d_paper F19, PySem.W.mg_of X G a19, F19.kp, b19⟩⟩
  have dW : DfW l.prog w K mg base "_law_works" 7 UU worksQ LD := ⟨⟨f20, _, ps__law_works, fn__law_works TB2 l20 c20, PySem.W.mg_of X G a20, F20.kp, b20⟩⟩
  have d__law_at_once : Df l.prog w K mg base "_law_at_once" 1 false 2 sp__law_at_once := ⟨⟨f21, _, ps__law_at_once, fn__law_at_once F F21, PySem.W.mg_of X G a21, F21.kp, b21⟩⟩
  have d_moved : Df l.prog w K mg base "moved" 2 true 2 sp_moved := ⟨⟨f22, _, ps_moved, fn_moved F d_need_boxes F22, PySem.W.mg_of X G a22, F22.kp, b22⟩⟩
  exact fn_law F d__law_at_once d__law_boxes d__law_drawn d__law_far d__law_lead d__law_same d__law_worths d_at_once d_by_copies d_by_swaps d_does d_least d_moved d_paper d_rings d_shut_rings (PySem.W.mg_none_of X G z15) ⟨_, PySem.W.mg_of X G e_MoveError⟩ (PySem.W.mg_of X G a11) k11 l11 c11 b11 kt ktn TB nTU dW F0 b0 (PySem.W.mg_of X G a0) l23 c23
end L3

open PySem PySem.W PyProof.Rows in
set_option maxRecDepth 100000 in
set_option maxHeartbeats 0 in
theorem PySem.Challenge.cw_movesatonce_k01_leads_all_at_once_holds : PySem.Challenge.rw_movesatonce_k01_leads_all_at_once.Holds := by
  w_on; o_law; k_head; (case hw => w_witness2)
  k_fill
  refine L3.walk_tab2 (l := PySem.Challenge.rw_movesatonce_k01_leads_all_at_once) (n := 63) (k := 8) (x := "_law_script") (y := "_law_works") (CX := fun w => L2.CX PySem.Challenge.rw_movesatonce_k01_leads_all_at_once.prog w) rfl (by decide) rfl ⟨rfl, by decide, by decide⟩ (fun w h Y => by first | exact PySem.W.km_in_of Y | exact PySem.W.kIn_of Y) rfl rfl ?F (fun _ _ _ _ _ ⟨_, _, _, _, _, _, _, _, _, _, _, _, h⟩ => h)
  case F =>
    intro w mg fa h KX G hmg
    refine' L3.all_mk KX G hmg ?a0 ?l0 ?c0 ?k0 ?a1 ?l1 ?c1 ?k1 ?a2 ?l2 ?c2 ?k2 ?a3 ?l3 ?c3 ?k3 ?a4 ?l4 ?c4 ?k4 ?a5 ?l5 ?c5 ?k5 ?a6 ?l6 ?c6 ?k6 ?a7 ?l7 ?c7 ?k7 ?a8 ?l8 ?c8 ?k8 ?a9 ?l9 ?c9 ?k9 ?a10 ?l10 ?c10 ?k10 ?a11 ?l11 ?c11 ?k11 ?a12 ?l12 ?c12 ?k12 ?a13 ?l13 ?c13 ?k13 ?a14 ?l14 ?c14 ?k14 ?a15 ?l15 ?c15 ?k15 ?a16 ?l16 ?c16 ?k16 ?a17 ?l17 ?c17 ?k17 ?a18 ?l18 ?c18 ?k18 ?a19 ?l19 ?c19 ?k19 ?a20 ?l20 ?c20 ?k20 ?a21 ?l21 ?c21 ?k21 ?a22 ?l22 ?c22 ?k22 ?a23 ?l23 ?c23 ?k23 ?z0 ?z1 ?z2 ?z3 ?z4 ?z5 ?z6 ?z7 ?z8 ?z9 ?z10 ?z11 ?z12 ?z13 ?z14 ?z15 ?v0 ?tb0 ?tb1 ?nT ?ub0 ?ub1 ?nU ?nTU ?e_BadLead ?ic_BadLead ?it_BadLead ?e_BadSpare ?ic_BadSpare ?it_BadSpare ?e_BadMove ?ic_BadMove ?it_BadMove ?e_NoWay ?ic_NoWay ?it_NoWay ?e_BadWord ?ic_BadWord ?it_BadWord ?e_BadHouse ?ic_BadHouse ?it_BadHouse ?e_BadCall ?ic_BadCall ?it_BadCall ?e_BadText ?ic_BadText ?it_BadText ?e_MoveError ?ic_MoveError ?it_MoveError ?x3_MoveError ?y1 ?y2 ?x1_BadLead ?x2_BadLead ?x3_BadLead ?x4_BadLead ?x5_BadLead ?x6_BadLead ?x7_BadLead ?x8_BadLead ?q_BadLead_BadLead ?q_BadLead_BadSpare ?q_BadLead_BadMove ?q_BadLead_NoWay ?q_BadLead_BadWord ?q_BadLead_BadHouse ?q_BadLead_BadCall ?q_BadLead_BadText ?w1_BadLead ?w2_BadLead ?w3_BadLead ?w4_BadLead
    (case a0 => k_is)
    (case l0 => k_is)
    (case c0 => k_is)
    (case k0 => k_is)
    (case a1 => k_is)
    (case l1 => k_is)
    (case c1 => k_is)
    (case k1 => k_is)
    (case a2 => k_is)
    (case l2 => k_is)
    (case c2 => k_is)
    (case k2 => k_is)
    (case a3 => k_is)
    (case l3 => k_is)
    (case c3 => k_is)
    (case k3 => k_is)
    (case a4 => k_is)
    (case l4 => k_is)
    (case c4 => k_is)
    (case k4 => k_is)
    (case a5 => k_is)
    (case l5 => k_is)
    (case c5 => k_is)
    (case k5 => k_is)
    (case a6 => k_is)
    (case l6 => k_is)
    (case c6 => k_is)
    (case k6 => k_is)
    (case a7 => k_is)
    (case l7 => k_is)
    (case c7 => k_is)
    (case k7 => k_is)
    (case a8 => k_is)
    (case l8 => k_is)
    (case c8 => k_is)
    (case k8 => k_is)
    (case a9 => k_is)
    (case l9 => k_is)
    (case c9 => k_is)
    (case k9 => k_is)
    (case a10 => k_is)
    (case l10 => k_is)
    (case c10 => k_is)
    (case k10 => k_is)
    (case a11 => k_is)
    (case l11 => k_is)
    (case c11 => k_is)
    (case k11 => k_is)
    (case a12 => k_is)
    (case l12 => k_is)
    (case c12 => k_is)
    (case k12 => k_is)
    (case a13 => k_is)
    (case l13 => k_is)
    (case c13 => k_is)
    (case k13 => k_is)
    (case a14 => k_is)
    (case l14 => k_is)
    (case c14 => k_is)
    (case k14 => k_is)
    (case a15 => k_is)
    (case l15 => k_is)
    (case c15 => k_is)
    (case k15 => k_is)
    (case a16 => k_is)
    (case l16 => k_is)
    (case c16 => k_is)
    (case k16 => k_is)
    (case a17 => k_is)
    (case l17 => k_is)
    (case c17 => k_is)
    (case k17 => k_is)
    (case a18 => k_is)
    (case l18 => k_is)
    (case c18 => k_is)
    (case k18 => k_is)
    (case a19 => k_is)
    (case l19 => k_is)
    (case c19 => k_is)
    (case k19 => k_is)
    (case a20 => k_is)
    (case l20 => k_is)
    (case c20 => k_is)
    (case k20 => k_is)
    (case a21 => k_is)
    (case l21 => k_is)
    (case c21 => k_is)
    (case k21 => k_is)
    (case a22 => k_is)
    (case l22 => k_is)
    (case c22 => k_is)
    (case k22 => k_is)
    (case a23 => k_is)
    (case l23 => k_is)
    (case c23 => k_is)
    (case k23 => k_is)
    (case z0 => k_is)
    (case z1 => k_is)
    (case z2 => k_is)
    (case z3 => k_is)
    (case z4 => k_is)
    (case z5 => k_is)
    (case z6 => k_is)
    (case z7 => k_is)
    (case z8 => k_is)
    (case z9 => k_is)
    (case z10 => k_is)
    (case z11 => k_is)
    (case z12 => k_is)
    (case z13 => k_is)
    (case z14 => k_is)
    (case z15 => k_is)
    (case v0 => k_is)
    (case tb0 => k_is)
    (case tb1 => first | rfl | kernel_rfl)
    (case nT => first | kernel_rfl | rfl)
    (case ub0 => k_is)
    (case ub1 => first | rfl | kernel_rfl)
    (case nU => first | kernel_rfl | rfl)
    (case nTU => first | decide | decide +kernel | (intro h; cases h))
    (case e_BadLead => k_is)
    (case ic_BadLead => k_is)
    (case it_BadLead => k_is)
    (case e_BadSpare => k_is)
    (case ic_BadSpare => k_is)
    (case it_BadSpare => k_is)
    (case e_BadMove => k_is)
    (case ic_BadMove => k_is)
    (case it_BadMove => k_is)
    (case e_NoWay => k_is)
    (case ic_NoWay => k_is)
    (case it_NoWay => k_is)
    (case e_BadWord => k_is)
    (case ic_BadWord => k_is)
    (case it_BadWord => k_is)
    (case e_BadHouse => k_is)
    (case ic_BadHouse => k_is)
    (case it_BadHouse => k_is)
    (case e_BadCall => k_is)
    (case ic_BadCall => k_is)
    (case it_BadCall => k_is)
    (case e_BadText => k_is)
    (case ic_BadText => k_is)
    (case it_BadText => k_is)
    (case e_MoveError => k_is)
    (case ic_MoveError => k_is)
    (case it_MoveError => k_is)
    (case x3_MoveError => k_is)
    (case y1 => k_is)
    (case y2 => k_is)
    (case x1_BadLead => k_is)
    (case x2_BadLead => k_is)
    (case x3_BadLead => k_is)
    (case x4_BadLead => k_is)
    (case x5_BadLead => k_is)
    (case x6_BadLead => k_is)
    (case x7_BadLead => k_is)
    (case x8_BadLead => k_is)
    (case q_BadLead_BadLead => k_is)
    (case q_BadLead_BadSpare => k_is)
    (case q_BadLead_BadMove => k_is)
    (case q_BadLead_NoWay => k_is)
    (case q_BadLead_BadWord => k_is)
    (case q_BadLead_BadHouse => k_is)
    (case q_BadLead_BadCall => k_is)
    (case q_BadLead_BadText => k_is)
    (case w1_BadLead => k_exc)
    (case w2_BadLead => k_is)
    (case w3_BadLead => k_is)
    (case w4_BadLead => k_is)
