import PyProof.Rows.All
import Wide.All
import OpenK.AllK
import Wide.FinOn
import HandS.ForMost
import HandS.ForExc
import HandS.TupAny
import HandS.SetFor
import HandS.IsInst
import KE.GoesMore
import HandS.Wide
import HandS.Conv
import HandS.SortInts
import HandS.More
import HandS.TupSets
import HandS.Zip
import HandS.Rev
import KE.DataMinMax
import KE.KStateDown
import HandS.Head0
import HandS.Head1
import HandS.Head2
import HandS.HeadEnd
import HandS.HeadHook1
import HandS.HeadHook2
import HandS.HeadHook3
import HandS.HeadHook4
import HandS.HeadNt
import HandS.ExcInit
import HandS.ExcField
import HandS.ExcIs
import HandS.TryMany
import KE.Datum
import HandS.Deep
import HandS.Style
import KE.DataFind
import PyProof.P3Eq
import PySem.Challenge.RW_dicewins_k16_whole_words_of_one_lead
set_option Elab.async false
set_option linter.all false
set_option maxRecDepth 100000
set_option maxHeartbeats 4000000
/-! DLT: new tuples are known to have no dict (their methods can be called). -/
namespace DLT
open PySem PySem.Spec PyProof.Rows L2
/-- a tuple of the heap, known: it has no dict -/
def PT (xs : List V) (o : HO) : Prop := ∃ ob : Obj, ob.dict = none ∧ o = .frz ob (.tup xs)
/-- a new known tuple is given -/
def NewT (xs : List V) (H : Hp) (Q : VK) : Prop := ∀ p o, H p = none → PT xs o → Q (.ref p) (upd H p o)
section
variable {X : Cx} {pins : List (Addr × Obj)} {σ : L2.St} {H : Hp} {s : Shared}
theorem lay {xs : List V} {us : List Value} {Q : VK} {h' : Heap} {t' : Nat} (I : Inv X pins σ H s) (r : Vals xs us) (hz : xs.length ≤ sizeLine) (kp : ∀ b u, s.heap.get? b = some u → h'.get? b = some u) (q : NewT xs H Q) :
    EP X pins σ Q (.ref h'.objs.size) { s with heap := h'.push { cls := .type "tuple", data := .seq us.toArray }, toks := t' } := by
  have I1 : Inv X pins σ H { s with heap := h', toks := t' } := I.kept kp
  have hn : H h'.objs.size = none := I1.hok.fresh (Nat.le_refl _)
  have e : (h'.push { cls := .type "tuple", data := .seq us.toArray }).get? h'.objs.size = some { cls := .type "tuple", data := .seq us.toArray } := Heap.get?_push_size _ rfl
  refine ⟨.ref h'.objs.size, upd H h'.objs.size (.frz { cls := .type "tuple", data := .seq us.toArray } (.tup xs)), ?_, rfl, q _ _ hn ⟨_, rfl, rfl⟩⟩
  exact I1.laid (t' := t') (fun b u z => Heap.get?_push_of_some _ z) (Nat.le_refl _) ⟨e, hz, us, r, _, e, rfl, _, rfl⟩
end
section
variable {X : Cx} {es : List Expr} {t : TA} {pos : Pos}
def tTupP (t : TA) : TE := fun σ H Q => t σ H fun xs H1 => xs.length ≤ sizeLine ∧ NewT xs H1 Q
theorem pe_tupP {x1} (h : PA X es t) : PE X (.Tuple es x1 pos) (tTupP t) := by
  refine ⟨fun pins s σ H Q I hq => wpAny_Tuple_spliced (thn (h.run pos pins s σ H _ I hq) fun us s1 ⟨xs, H1, I1, r, z, q⟩ => ⟨?_, ?_⟩)⟩
  · rw [← r.length]; exact z
  · exact lay (t' := s1.toks) I1 r z (fun b u e => e) q
theorem call_tupleP : CallR X (.type "tuple") (fun xs H Q => ∃ p ys, xs = [.ref p] ∧ ((SqL X.K H p ys ∧ NewT ys H Q) ∨ (SqT X.K H p ys ∧ Q (.ref p) H))) := by
  intro pins s σ H xs us Q I r h
  obtain ⟨p, ys, rfl, h⟩ := h
  obtain ⟨u, rfl, rx⟩ := r.one
  cases rx
  rcases h with ⟨hq, q⟩ | ⟨hq, q⟩
  · obtain ⟨its, r', pl, hz⟩ := I.list hq
    have e1 := r'.length
    exact call_tuple_list pl.isList (fun h' kp => lay (t' := s.toks) I r' hz kp q) (by rw [List.size_toArray]; omega)
  · obtain ⟨its, r', pl, hz⟩ := I.tuple hq
    exact call_tuple_same pl ⟨.ref p, H, I, rfl, q⟩
def rCatP (K : PySem.W.Frag) : R2 := fun x y H Q => ∃ a b xs ys, x = .ref a ∧ y = .ref b ∧ SqT K H a xs ∧ SqT K H b ys ∧ xs.length + ys.length ≤ sizeLine ∧
  (xs = [] → Q (.ref b) H) ∧ (xs ≠ [] → ys = [] → Q (.ref a) H) ∧ (xs ≠ [] → ys ≠ [] → NewT (xs ++ ys) H Q)
theorem op_catP : OpR X (binaryOp .Add) (rCatP X.K) := by
  intro pins s σ H x y v u Q I rx ry h
  obtain ⟨a, b, xs, ys, rfl, rfl, ha, hb, hz, q0, q1, q2⟩ := h
  cases rx
  cases ry
  obtain ⟨ia, r1, p1, _⟩ := I.tuple ha
  obtain ⟨ib, r2, p2, _⟩ := I.tuple hb
  by_cases hx : xs = []
  · subst hx
    cases r1
    exact cat_tup0 p1 p2 ⟨.ref b, H, I, rfl, q0 rfl⟩
  · have e1 := r1.length
    have e2 := r2.length
    refine HT.cat_tup p1 p2 (fun z => hx (r1.nil_iff.mp z)) (fun z => ⟨.ref a, H, I, rfl, q1 hx (r2.nil_iff.mp z)⟩) (fun z => ?_) (by omega)
    exact lay (t' := s.toks) I (r1.append r2) (by rw [List.length_append]; exact hz) (fun _ _ e => e) (q2 hx fun w => z (r2.nil_iff.mpr w))
def rSlP (K : PySem.W.Frag) : V → Option Int → Option Int → Hp → VK → Prop := fun x lo hi H Q => ∃ a xs, x = .ref a ∧ SqT K H a xs ∧
  (HT.sIx xs.length 0 lo = 0 ∧ HT.sIx xs.length xs.length hi = xs.length → Q (.ref a) H) ∧ (¬ (HT.sIx xs.length 0 lo = 0 ∧ HT.sIx xs.length xs.length hi = xs.length) → NewT (cutV xs lo hi) H Q)
theorem sl_tupP : SlR X (rSlP X.K) := by
  intro pins s σ H x v vl vu lo hi sl Q I rx hs pl pu h
  obtain ⟨a, xs, rfl, hx, q1, q2⟩ := h
  cases rx
  obtain ⟨its, r, ht, hz⟩ := I.tuple hx
  have hl : its.toArray.size = xs.length := by
    rw [List.size_toArray]
    exact r.length.symm
  refine ⟨"tuple", _, PyProof.Rows.slot_tuple_getitem.lookup, ht.typeIs, ?_⟩
  by_cases hw : HT.sIx xs.length 0 lo = 0 ∧ HT.sIx xs.length xs.length hi = xs.length
  · exact getItem_tuple_whole ht hs pl pu (by rw [hl]; exact hw) ⟨.ref a, H, I, rfl, q1 hw⟩
  · refine HT.getItem_tuple_cut ht hs pl pu (by rw [hl]; exact hw) ?_ (by rw [hl]; exact hz)
    rw [hl]
    exact lay (t' := s.toks) I ((r.drop _).take _) (Nat.le_trans (cutV_length xs lo hi) hz) (fun _ _ e => e) (q2 hw)
end
/-! ### enumerate of a list -/
def IteP (K : PySem.W.Frag) (a : Addr) : It :=
  ⟨fun i H => ∃ (xs : List V) (x : V), SqL K H a xs ∧ xs[i]? = some x, fun i H v H' => ∃ T x o, v = .ref T ∧ H T = none ∧ PT [.int (i : Nat), x] o ∧ H' = upd H T o ∧ ∀ xs, SqL K H a xs → xs[i]? = some x, fun i H => ∃ xs : List V, SqL K H a xs ∧ xs.length ≤ i⟩
theorem turn_enumP {P : Program} {w : World} {K : PySem.W.Frag} {elts : List Expr} {kk : Nat} {tpos : Pos} (a e it : Addr) :
    Turn P w K (.Tuple elts kk tpos) (IteP K a) [e, it] e (fun i h => (∃ old, IsEnum h e it ((i : Nat) : Int) old) ∧ h.IsListIter it a i ∧ e ≠ it) where
  mem := List.mem_cons_self
  obj := fun i h st b hb => by
    obtain ⟨⟨old, he⟩, ⟨o, ho, hc, hd⟩, _⟩ := st
    rcases List.mem_cons.mp hb with z | z
    · rw [z]; exact ⟨_, he, fun v q => nomatch q⟩
    · rw [List.mem_singleton.mp z]; exact ⟨o, ho, fun v q => by rw [hd] at q; cases q⟩
  keep := fun i h h' st k => let ⟨⟨old, he⟩, hi, hne⟩ := st; ⟨⟨old, k e List.mem_cons_self _ he⟩, hi.at fun o q => k it (List.mem_cons_of_mem _ List.mem_cons_self) o q, hne⟩
  item := by
    intro X hP hw hK hc i pins s σ H E I hf st hg
    subst hP hw hK
    obtain ⟨⟨old, he⟩, hit, hne⟩ := st
    obtain ⟨xs, x, hq, hx⟩ := hg
    obtain ⟨its, rv, p, hz⟩ := I.list hq
    obtain ⟨u, hu, ru⟩ := rv.get hx
    have hel : e < s.heap.objs.size := Heap.lt_size he
    have hil : it < s.heap.objs.size := (by obtain ⟨_, q, _⟩ := hit; exact Heap.lt_size q)
    refine wpAny_pyNext_enum_item he hit p.isList (x := u) (by simpa using hu) hne fun h1 ho hit' hT hsz hk => ?_
    refine ⟨_, rfl, wpAny_letOwnedTupleGo_enum (s := { s with heap := h1, toks := s.toks + 1 }) ho fun h2 he' sb => ?_⟩
    have hT2 : h2.get? s.heap.objs.size = some { cls := .type "tuple", data := .seq #[.int i s.toks, u] } := (sb.2 _ (Nat.ne_of_gt hel)).trans hT
    have fr : H s.heap.objs.size = none := I.hok.fresh (Nat.le_refl _)
    have new : ObjOk X.prog X.w (upd H s.heap.objs.size (.frz { cls := .type "tuple", data := .seq #[.int i s.toks, u] } (.tup [.int (i : Nat), x]))) h2 s.heap.objs.size (.frz { cls := .type "tuple", data := .seq #[.int i s.toks, u] } (.tup [.int (i : Nat), x])) :=
      ⟨hT2, (by show 2 ≤ sizeLine; decide), [.int i s.toks, u], .cons ⟨_, rfl⟩ (.cons ru .nil), ⟨_, hT2, rfl, _, rfl⟩⟩
    have I1 := I.turnedNew (t' := s.toks + 1) (ch := [e, it]) (fun b ob hb q => (sb.2 b (fun z => hb (by simp [z]))).trans (hk b ob (fun z => hb (by simp [z])) (fun z => hb (by simp [z])) q)) hf (Nat.le_refl _) new
    refine ⟨.ref s.heap.objs.size, _, I1, rfl, ⟨_, x, _, rfl, fr, ⟨_, rfl, rfl⟩, rfl, fun ys hy => by rw [I.list_inj hy hq]; exact hx⟩, ⟨⟨u, he'⟩, hit'.at fun o q => (sb.2 it (Ne.symm hne)).trans q, hne⟩, fun b hb => ?_⟩
    have hb' : b < s.heap.objs.size := by
      rcases List.mem_cons.mp hb with z | z
      · rw [z]; exact hel
      · rw [List.mem_singleton.mp z]; exact hil
    rw [upd_ne (Nat.ne_of_lt hb')]; exact (hf b hb).1
  done := by
    intro X hP hw hK hc i pins s σ H E I hf st hg
    subst hP hw hK
    obtain ⟨⟨old, he⟩, hit, hne⟩ := st
    obtain ⟨xs, hq, hx⟩ := hg
    obtain ⟨its, rv, p, hz⟩ := I.list hq
    obtain ⟨f0, f1, f2, f3, f4, f5⟩ := hf it (List.mem_cons_of_mem _ List.mem_cons_self)
    exact wpAny_pyNext_enum_end (I.ok.hd hc) he hit p.isList (by have := rv.length; simp; omega) fun h' eb => ⟨rfl, I.turned (t' := s.toks) (fun b o hb q => eb b o hb q) f0 f1 f3 f4 f5⟩
  self := fun A i s Q E st h => let ⟨⟨_, he⟩, _⟩ := st; wpAny_pyIter_enum he h

/-! ### t.count(k) -/
/-- a tuple whose methods can be called -/
def PlT (K : PySem.W.Frag) (H : Hp) (a : Addr) (xs : List V) : Prop := (∃ o, PT xs o ∧ H a = some o) ∨
  ∃ (o : Obj) (its : Array Value) (n : Nat), K.lookup a = some o ∧ o.cls = .type "tuple" ∧ o.dict = none ∧ o.data = .seq its n ∧ its.size ≤ sizeLine ∧ Vals xs its.toList
theorem PlT.sq {K : PySem.W.Frag} {H : Hp} {a : Addr} {xs : List V} (h : PlT K H a xs) : SqT K H a xs := by
  rcases h with ⟨o, ⟨ob, h1, rfl⟩, h3⟩ | ⟨o, its, n, h1, h2, h3, h4, h5, h6⟩
  · exact .inl (.inr ⟨ob, h3⟩)
  · exact .inr ⟨o, its, n, h1, h2, h4, h5, h6⟩
section
variable {X : Cx} {o e : Expr} {to te : TE} {apos cpos : Pos}
theorem PlT.none {pins : List (Addr × Obj)} {σ : L2.St} {H : Hp} {s : Shared} {a : Addr} {xs : List V} (I : Inv X pins σ H s) (h : PlT X.K H a xs) : ∃ ob : Obj, s.heap.get? a = some ob ∧ ob.cls = .type "tuple" ∧ ob.dict = none := by
  rcases h with ⟨o, ⟨ob, h1, rfl⟩, h3⟩ | ⟨o, its, n, h1, h2, h3, h4, h5, h6⟩
  · obtain ⟨e1, _, _, _, o2, e2, hc, _⟩ := I.hok a _ h3
    rw [e1] at e2
    cases e2
    exact ⟨ob, e1, hc, h1⟩
  · exact ⟨o, I.kIn a o h1, h2, h3⟩
def tCntT (K : PySem.W.Frag) (to te : TE) : TE := fun σ H Q => to σ H fun x H1 => ∃ a xs, x = .ref a ∧ PlT K H1 a xs ∧ te σ H1 fun y H2 => ∃ (ns : List Int) (k : Int), y = .int k ∧ SqT K H2 a (ns.map V.int) ∧ Q (.int (ns.count k : Nat)) H2
theorem pe_cntT (ho : PE X o to) (ha : PE X e te)
    (hbase : attributeBase o "count" X.env (eval o X.env) = eval o X.env := by rfl)
    (hfew : ((backTo cpos (starEach [e] X.env)).all (fun x => !x.1) && (backToKw cpos (keywordEach [] X.env)).all (fun x => x.1.isSome)
      && decide ([e].length + ([] : List Keyword).length + (if ([] : List Keyword).isEmpty then 0 else 1) < 30)) = true := by rfl)
    (hline : (apos.endLine == cpos.line) = true := by rfl) (hs : starEach [e] X.env = (false, eval e X.env) :: starEach [] X.env := by rfl) (hplain : (backTo cpos (starEach [] X.env)).any (·.1) = false := by rfl) :
    PE X (.Call (.Attribute o "count" apos) [e] [] cpos) (tCntT X.K to te) := by
  refine ⟨fun pins s σ H Q I h => wpAny_Call_method_late hbase hfew hline rfl (thn (ho.run pins s σ H _ I h) fun v s1 ⟨x, H1, I1, r1, a, xs, hx, pt, q1⟩ => ?_)⟩
  subst hx
  cases r1
  obtain ⟨ob, e1, hc, hd⟩ := PlT.none I1 pt
  refine ⟨"tuple", "tuple.count", PySem.F.plainAttrs_tuple, PySem.F.slot_tuple_count, PySem.F.type_tuple_count, ⟨ob, e1, hc⟩, fun b z => by cases z; exact ⟨ob, e1, hd⟩, ?_⟩
  have hA := (pa_cons ha pa_nil hs).run cpos pins s1 σ H1 (fun vs H2 => match vs with | [y] => ∃ (ns : List Int) (k : Int), y = .int k ∧ SqT X.K H2 a (ns.map V.int) ∧ Q (.int (ns.count k : Nat)) H2 | _ => False) I1 q1
  rw [hs] at hA ⊢
  refine Calls.callWith_builtin (by show (false || (backTo cpos (starEach [] X.env)).any (·.1)) = false; rw [hplain] <;> rfl) (Calls.evalArgs_plain ?_)
  refine thn hA fun us s2 ⟨vs, H2, I2, r2, q2⟩ => ?_
  match vs, r2, q2 with
  | [y], r2, ⟨ns, k, hk, sq, q2⟩ =>
    subst hk
    obtain ⟨u, rfl, ru⟩ := r2.one
    obtain ⟨tk, rfl⟩ := ru
    obtain ⟨its, rv, ⟨⟨cls, dd, data, sl⟩, hg, hc2, n, hd2⟩, hz⟩ := I2.tuple sq
    simp only at hc2 hd2
    subst hc2 hd2
    have hi := ints_of_vals rv
    refine call_meets PySem.F.slot_tuple_count ⟨_, hg, rfl⟩ PySem.F.entry_tuple_count (PySem.F.args_tuple_count_2 _ _)
      (SeqAt.tuple_countAt a its.toArray n dd sl (.int k tk) (eqk k)) ⟨hg, fun y hy => (eqk_gives hi y (by simpa using hy)).at _ _, ?_⟩
    have ec : its.toArray.toList.countP (eqk k) = ns.count k := eqk_count hi
    refine ⟨.int (ns.count k : Nat), H2, I2.tok _, ⟨s2.toks, ?_⟩, q2⟩
    rw [ec]
/-! ### isinstance of a tuple of classes -/
def rIsiP (K : PySem.W.Frag) : List V → Hp → VK → Prop := fun xs H Q => ∃ (x : V) (tp : Addr) (cs : List V) (t : Value) (us : List Value) (b : Bool), xs = [x, .ref tp] ∧ SqT K H tp cs ∧ Paired ClsV cs us ∧ TyX K H x t ∧ PySem.W.kitAny K t us = some b ∧ Q (.bl b) H
theorem call_isiP : CallR X (.builtin "isinstance") (rIsiP X.K) := by
  intro pins s σ H xs us Q I r h
  obtain ⟨x, tp, cs, t, ws, b, rfl, hT, k, ty, e, q⟩ := h
  obtain ⟨u1, u2, rfl, r1, r2⟩ := r.two
  cases (show u2 = Value.ref tp from r2)
  obtain ⟨P, Z, p, hx⟩ := kit_of I r1 ty
  obtain ⟨its, rv, ⟨⟨oc, od, dt, sl⟩, h1, h2, n, h3⟩, _⟩ := I.tuple hT
  simp only at h2 h3
  subst h2 h3
  have e3 := ClsV.all k rv
  subst e3
  exact PySem.W.kia_tup Z I.kIn p h1 e hx fun tk => ⟨.bl b, H, I.tok tk, rfl, q⟩
end
end DLT

/-! DL1: deep values over the hand layer. A deep value D stands for a Python value with all that it holds; lists that are still being changed lie in a store M. -/
namespace DL
open PySem PySem.Spec L2

inductive D where
  | non | bl (b : Bool) | int (i : Int) | str (x : Str) | ty (n : String) | ref (a : Addr)
  | tup (xs : List D) | lst (xs : List D) | scr (ns : List Int)
  | obj (C : Addr) (fs : List (Str × D))
  | xo (a : Addr) (d : Option Addr) (fs : List (Str × D))

/-- the dict of an exception -/
def XdAt (H : Hp) (d : Option Addr) (gs : List (Str × V)) : Prop := match d with
  | some dd => H dd = some (.xd gs)
  | none => gs = []
/-- what lies in the store -/
inductive MO where
  | lst (xs : List D)
  | ins (C : Addr) (fs : List (Str × D))
abbrev Mem := Addr → Option MO
def mset (M : Mem) (a : Addr) (o : MO) : Mem := fun b => if b = a then some o else M b
theorem mset_same {M : Mem} {a : Addr} {o : MO} : mset M a o a = some o := by unfold mset; rw [if_pos rfl]
theorem mset_ne {M : Mem} {a b : Addr} {o : MO} (h : b ≠ a) : mset M a o b = M b := by unfold mset; rw [if_neg h]
theorem mset_mset {M : Mem} {a : Addr} {o u : MO} : mset (mset M a o) a u = mset M a u := by
  funext b
  unfold mset
  split <;> rfl

/-- a tuple that stands in the heap, or in the written part -/
def TupAt (K : PySem.W.Frag) (H : Hp) (a : Addr) (vs : List V) : Prop := DLT.PlT K H a vs
theorem TupAt.sq {K : PySem.W.Frag} {H : Hp} {a : Addr} {vs : List V} (h : TupAt K H a vs) : SqT K H a vs := DLT.PlT.sq h

/-! ### deep value d is shown by v in the heap H; F: the frozen addresses -/
mutual
def Rp (K : PySem.W.Frag) (F : Addr → Prop) (H : Hp) : D → V → Prop
  | .non, v => v = .non
  | .bl b, v => v = .bl b
  | .int i, v => v = .int i
  | .str x, v => v = .str x
  | .ty n, v => v = .ty n
  | .ref a, v => v = .ref a
  | .tup ds, v => ∃ a vs, v = .ref a ∧ TupAt K H a vs ∧ Rps K F H ds vs
  | .lst ds, v => ∃ a vs, v = .ref a ∧ H a = some (.lst vs) ∧ F a ∧ Rps K F H ds vs
  | .scr ns, v => ∃ a, v = .ref a ∧ ((∃ o, H a = some (.frz o (.lst (ns.map V.int)))) ∨ ∀ H', SqL K H' a (ns.map V.int))
  | .obj C fs, v => ∃ a dx gs, v = .ref a ∧ H a = some (.ins C dx gs) ∧ F a ∧ Rpf K F H fs gs
  | .xo a d fs, v => v = .ref a ∧ ∃ gs, XdAt H d gs ∧ Rpf K F H fs gs
def Rps (K : PySem.W.Frag) (F : Addr → Prop) (H : Hp) : List D → List V → Prop
  | [], vs => vs = []
  | d :: ds, vs => ∃ v r, vs = v :: r ∧ Rp K F H d v ∧ Rps K F H ds r
def Rpf (K : PySem.W.Frag) (F : Addr → Prop) (H : Hp) : List (Str × D) → List (Str × V) → Prop
  | [], vs => vs = []
  | p :: ds, vs => ∃ v r, vs = (p.1, v) :: r ∧ Rp K F H p.2 v ∧ Rpf K F H ds r
end

/-- all that is frozen stays, and more may come -/
structure ExtW (F : Addr → Prop) (H : Hp) (F' : Addr → Prop) (H' : Hp) : Prop where
  mono : ∀ a, F a → F' a
  fro : ∀ a o, F a → H a = some o → H' a = some o
  tup : ∀ a xs, H a = some (.tup xs) → H' a = some (.tup xs)
  frz : ∀ a o u, H a = some (.frz o u) → H' a = some (.frz o u)
  xd : ∀ a fs, H a = some (.xd fs) → H' a = some (.xd fs)
/-- .. and what the store does not tell stays as it is -/
structure Ext (F : Addr → Prop) (H : Hp) (M : Mem) (F' : Addr → Prop) (H' : Hp) (M' : Mem) : Prop extends ExtW F H F' H' where
  frame : ∀ a o, H a = some o → M a = none → H' a = some o
  dom : ∀ a, M' a ≠ none → M a ≠ none ∨ H a = none
  new : ∀ a, F' a → F a ∨ M a ≠ none ∨ H a = none
instance {F F' : Addr → Prop} {H H' : Hp} {M M' : Mem} : CoeOut (Ext F H M F' H' M') (ExtW F H F' H') := ⟨Ext.toExtW⟩
theorem ExtW.refl (F : Addr → Prop) (H : Hp) : ExtW F H F H := ⟨fun _ h => h, fun _ _ _ h => h, fun _ _ h => h, fun _ _ _ h => h, fun _ _ h => h⟩
theorem ExtW.trans {F F1 F2 : Addr → Prop} {H H1 H2 : Hp} (a : ExtW F H F1 H1) (b : ExtW F1 H1 F2 H2) : ExtW F H F2 H2 :=
  ⟨fun x h => b.mono x (a.mono x h), fun x o f h => b.fro x o (a.mono x f) (a.fro x o f h), fun x xs h => b.tup x xs (a.tup x xs h), fun x o u h => b.frz x o u (a.frz x o u h), fun x fs h => b.xd x fs (a.xd x fs h)⟩
theorem Ext.refl (F : Addr → Prop) (H : Hp) (M : Mem) : Ext F H M F H M := ⟨ExtW.refl F H, fun _ _ h _ => h, fun _ h => .inl h, fun _ h => .inl h⟩
theorem Ext.trans {F F1 F2 : Addr → Prop} {H H1 H2 : Hp} {M M1 M2 : Mem} (a : Ext F H M F1 H1 M1) (b : Ext F1 H1 M1 F2 H2 M2) : Ext F H M F2 H2 M2 := by
  have n1 : ∀ x o, H x = some o → M x = none → M1 x = none := fun x o h n => by
    cases q : M1 x with
    | none => rfl
    | some u => exact ((a.dom x (by rw [q]; exact fun z => nomatch z)).elim (fun z => z n) fun z => by rw [h] at z; cases z).elim
  have w : ∀ x, H1 x = none → M x ≠ none ∨ H x = none := fun x z => by
    cases q : H x with
    | none => exact .inr rfl
    | some o =>
      refine .inl fun n => ?_
      rw [a.frame x o q n] at z
      cases z
  exact ⟨a.toExtW.trans b.toExtW, fun x o h n => b.frame x o (a.frame x o h n) (n1 x o h n), fun x h => (b.dom x h).elim (a.dom x) (w x), fun x h => (b.new x h).elim (a.new x) fun z => .inr (z.elim (a.dom x) (w x))⟩
theorem Ext.was {F F1 : Addr → Prop} {H H1 : Hp} {M M1 : Mem} (a : Ext F H M F1 H1 M1) {p : Addr} (hp : H1 p = none) : M p ≠ none ∨ H p = none := by
  cases q : H p with
  | none => exact .inr rfl
  | some o =>
    refine .inl fun n => ?_
    rw [a.frame p o q n] at hp
    cases hp
/-- a new object is laid at p -/
theorem Ext.laid {F F' : Addr → Prop} {H : Hp} {M : Mem} {p : Addr} {o : HO} (hp : H p = none) (hF : ∀ a, F a → F' a) (hN : ∀ a, F' a → F a ∨ a = p := by intro a h; exact .inl h) : Ext F H M F' (upd H p o) M :=
  ⟨⟨hF, fun a u f h => by rw [upd_ne (ne_of_none h hp)]; exact h, fun a u h => by rw [upd_ne (ne_of_none h hp)]; exact h, fun a u w h => by rw [upd_ne (ne_of_none h hp)]; exact h, fun a u h => by rw [upd_ne (ne_of_none h hp)]; exact h⟩,
   fun a u h _ => by rw [upd_ne (ne_of_none h hp)]; exact h, fun _ h => .inl h, fun a h => (hN a h).imp (fun z => z) fun z => .inr (by rw [z]; exact hp)⟩
/-- what is not frozen and no tuple .. is changed -/
theorem ExtW.write {F : Addr → Prop} {H : Hp} {p : Addr} {o o' : HO} (hp : H p = some o) (hF : ¬ F p) (h1 : ∀ xs, o ≠ .tup xs) (h2 : ∀ u w, o ≠ .frz u w) (h3 : ∀ fs, o ≠ .xd fs) : ExtW F H F (upd H p o') :=
  ⟨fun _ h => h, fun a u f h => by rw [upd_ne (show a ≠ p from fun e => hF (by rw [← e]; exact f))]; exact h,
   fun a u h => by rw [upd_ne (fun e => by subst e; rw [hp] at h; exact h1 _ (Option.some.inj h))]; exact h,
   fun a u w h => by rw [upd_ne (fun e => by subst e; rw [hp] at h; exact h2 _ _ (Option.some.inj h))]; exact h,
   fun a u h => by rw [upd_ne (fun e => by subst e; rw [hp] at h; exact h3 _ (Option.some.inj h))]; exact h⟩
/-- a cell of the store is changed -/
theorem Ext.write {F : Addr → Prop} {H : Hp} {M M' : Mem} {p : Addr} {o o' : HO} (hp : H p = some o) (hF : ¬ F p) (hM : M p ≠ none) (hM' : ∀ a, M' a ≠ none → M a ≠ none) (h1 : ∀ xs, o ≠ .tup xs) (h2 : ∀ u w, o ≠ .frz u w) (h3 : ∀ fs, o ≠ .xd fs) : Ext F H M F (upd H p o') M' :=
  ⟨ExtW.write hp hF h1 h2 h3, fun a u h n => by rw [upd_ne (show a ≠ p from fun e => hM (by rw [← e]; exact n))]; exact h, fun a h => .inl (hM' a h), fun a h => .inl h⟩
theorem ExtW.grow {F F' : Addr → Prop} {H : Hp} (hF : ∀ a, F a → F' a) : ExtW F H F' H := ⟨hF, fun _ _ _ h => h, fun _ _ h => h, fun _ _ _ h => h, fun _ _ h => h⟩
theorem Ext.grow {F F' : Addr → Prop} {H : Hp} {M M' : Mem} (hF : ∀ a, F a → F' a) (hM : ∀ a, M' a ≠ none → M a ≠ none ∨ H a = none) (hN : ∀ a, F' a → F a ∨ M a ≠ none ∨ H a = none) : Ext F H M F' H M' := ⟨ExtW.grow hF, fun _ _ h _ => h, hM, hN⟩

section
variable {K : PySem.W.Frag} {F F' : Addr → Prop} {H H' : Hp} {M M' : Mem}
theorem ExtW.tupAt (x : ExtW F H F' H') {a : Addr} {vs : List V} (h : TupAt K H a vs) : TupAt K H' a vs := by
  rcases h with ⟨o, ⟨ob, h1, rfl⟩, h3⟩ | h
  · exact .inl ⟨_, ⟨ob, h1, rfl⟩, x.frz _ _ _ h3⟩
  · exact .inr h
theorem ExtW.sqT (x : ExtW F H F' H') {a : Addr} {vs : List V} (h : SqT K H a vs) : SqT K H' a vs := by
  rcases h with (h | ⟨o, h⟩) | h
  · exact .inl (.inl (x.tup _ _ h))
  · exact .inl (.inr ⟨o, x.frz _ _ _ h⟩)
  · exact .inr h
theorem ExtW.rd (x : ExtW F H F' H') {a : Addr} {u : HO} (f : F a) (h : Rd H a u) : Rd H' a u := by
  rcases h with h | ⟨o, h⟩
  · exact .inl (x.fro _ _ f h)
  · exact .inr ⟨o, x.fro _ _ f h⟩
mutual
theorem Rp.mono (x : ExtW F H F' H') : ∀ (d : D) (v : V), Rp K F H d v → Rp K F' H' d v
  | .non, v, h => by unfold Rp at h ⊢; exact h
  | .bl b, v, h => by unfold Rp at h ⊢; exact h
  | .int b, v, h => by unfold Rp at h ⊢; exact h
  | .str b, v, h => by unfold Rp at h ⊢; exact h
  | .ty b, v, h => by unfold Rp at h ⊢; exact h
  | .ref b, v, h => by unfold Rp at h ⊢; exact h
  | .tup ds, v, h => by
    unfold Rp at h ⊢
    obtain ⟨a, vs, e, q, r⟩ := h
    exact ⟨a, vs, e, x.tupAt q, Rps.mono x ds vs r⟩
  | .lst ds, v, h => by
    unfold Rp at h ⊢
    obtain ⟨a, vs, e, q, f, r⟩ := h
    exact ⟨a, vs, e, x.fro _ _ f q, x.mono _ f, Rps.mono x ds vs r⟩
  | .scr ns, v, h => by
    unfold Rp at h ⊢
    obtain ⟨a, e, q⟩ := h
    exact ⟨a, e, q.imp (fun ⟨o, q⟩ => ⟨o, x.frz _ _ _ q⟩) fun q => q⟩
  | .obj C fs, v, h => by
    unfold Rp at h ⊢
    obtain ⟨a, dx, gs, e, q, f, r⟩ := h
    exact ⟨a, dx, gs, e, x.fro _ _ f q, x.mono _ f, Rpf.mono x fs gs r⟩
  | .xo a d fs, v, h => by
    unfold Rp at h ⊢
    obtain ⟨e, gs, q, r⟩ := h
    refine ⟨e, gs, ?_, Rpf.mono x fs gs r⟩
    cases d with
    | none => exact q
    | some dd => exact x.xd _ _ q
theorem Rps.mono (x : ExtW F H F' H') : ∀ (ds : List D) (vs : List V), Rps K F H ds vs → Rps K F' H' ds vs
  | [], vs, h => by unfold Rps at h ⊢; exact h
  | d :: ds, vs, h => by
    unfold Rps at h ⊢
    obtain ⟨v, r, e, h1, h2⟩ := h
    exact ⟨v, r, e, Rp.mono x d v h1, Rps.mono x ds r h2⟩
theorem Rpf.mono (x : ExtW F H F' H') : ∀ (ds : List (Str × D)) (vs : List (Str × V)), Rpf K F H ds vs → Rpf K F' H' ds vs
  | [], vs, h => by unfold Rpf at h ⊢; exact h
  | p :: ds, vs, h => by
    unfold Rpf at h ⊢
    obtain ⟨v, r, e, h1, h2⟩ := h
    exact ⟨v, r, e, Rp.mono x p.2 v h1, Rpf.mono x ds r h2⟩
end
theorem Rps.nil : Rps K F H [] [] := by unfold Rps; rfl
theorem Rps.cons {d : D} {ds : List D} {v : V} {vs : List V} (h : Rp K F H d v) (t : Rps K F H ds vs) : Rps K F H (d :: ds) (v :: vs) := by
  unfold Rps
  exact ⟨v, vs, rfl, h, t⟩
theorem Rps.length : ∀ {ds : List D} {vs : List V}, Rps K F H ds vs → vs.length = ds.length
  | [], vs, h => by unfold Rps at h; subst h; rfl
  | d :: ds, vs, h => by
    unfold Rps at h
    obtain ⟨v, r, rfl, _, h2⟩ := h
    rw [List.length_cons, List.length_cons, Rps.length h2]
theorem Rps.append : ∀ {ds es : List D} {vs ws : List V}, Rps K F H ds vs → Rps K F H es ws → Rps K F H (ds ++ es) (vs ++ ws)
  | [], es, vs, ws, h, g => by unfold Rps at h; subst h; exact g
  | d :: ds, es, vs, ws, h, g => by
    unfold Rps at h
    obtain ⟨v, r, rfl, h1, h2⟩ := h
    exact Rps.cons h1 (Rps.append h2 g)
theorem Rps.get : ∀ {ds : List D} {vs : List V} {i : Nat} {d : D}, Rps K F H ds vs → ds[i]? = some d → ∃ v, vs[i]? = some v ∧ Rp K F H d v
  | [], vs, i, d, h, e => by simp at e
  | d :: ds, vs, 0, x, h, e => by
    unfold Rps at h
    obtain ⟨v, r, rfl, h1, h2⟩ := h
    simp at e
    subst e
    exact ⟨v, by simp, h1⟩
  | d :: ds, vs, i + 1, x, h, e => by
    unfold Rps at h
    obtain ⟨v, r, rfl, h1, h2⟩ := h
    obtain ⟨w, a, b⟩ := Rps.get (i := i) (d := x) h2 (by simpa using e)
    exact ⟨w, by simpa using a, b⟩
theorem Rps.rget : ∀ {ds : List D} {vs : List V} {i : Nat} {v : V}, Rps K F H ds vs → vs[i]? = some v → ∃ d, ds[i]? = some d ∧ Rp K F H d v
  | [], vs, i, d, h, e => by unfold Rps at h; subst h; simp at e
  | d :: ds, vs, 0, x, h, e => by
    unfold Rps at h
    obtain ⟨v, r, rfl, h1, h2⟩ := h
    simp at e
    subst e
    exact ⟨d, by simp, h1⟩
  | d :: ds, vs, i + 1, x, h, e => by
    unfold Rps at h
    obtain ⟨v, r, rfl, h1, h2⟩ := h
    obtain ⟨w, a, b⟩ := Rps.rget (i := i) (v := x) h2 (by simpa using e)
    exact ⟨w, by simpa using a, b⟩
theorem Rps.set : ∀ {ds : List D} {vs : List V} {d : D} {v : V} (i : Nat), Rps K F H ds vs → Rp K F H d v → Rps K F H (ds.set i d) (vs.set i v)
  | [], vs, d, v, i, h, g => by unfold Rps at h; subst h; exact Rps.nil
  | c :: ds, vs, d, v, 0, h, g => by
    unfold Rps at h
    obtain ⟨w, r, rfl, h1, h2⟩ := h
    exact Rps.cons g h2
  | c :: ds, vs, d, v, i + 1, h, g => by
    unfold Rps at h
    obtain ⟨w, r, rfl, h1, h2⟩ := h
    exact Rps.cons h1 (Rps.set i h2 g)
theorem Rps.take : ∀ {ds : List D} {vs : List V} (n : Nat), Rps K F H ds vs → Rps K F H (ds.take n) (vs.take n)
  | ds, vs, 0, h => by simp [Rps.nil]
  | [], vs, n + 1, h => by unfold Rps at h; subst h; exact Rps.nil
  | c :: ds, vs, n + 1, h => by
    unfold Rps at h
    obtain ⟨w, r, rfl, h1, h2⟩ := h
    exact Rps.cons h1 (Rps.take n h2)
theorem Rps.drop : ∀ {ds : List D} {vs : List V} (n : Nat), Rps K F H ds vs → Rps K F H (ds.drop n) (vs.drop n)
  | ds, vs, 0, h => by simpa using h
  | [], vs, n + 1, h => by unfold Rps at h; subst h; exact Rps.nil
  | c :: ds, vs, n + 1, h => by
    unfold Rps at h
    obtain ⟨w, r, rfl, h1, h2⟩ := h
    exact Rps.drop n h2
theorem Rps.reverse : ∀ {ds : List D} {vs : List V}, Rps K F H ds vs → Rps K F H ds.reverse vs.reverse
  | [], vs, h => by unfold Rps at h; subst h; exact Rps.nil
  | c :: ds, vs, h => by
    unfold Rps at h
    obtain ⟨w, r, rfl, h1, h2⟩ := h
    rw [List.reverse_cons, List.reverse_cons]
    exact Rps.append (Rps.reverse h2) (Rps.cons h1 Rps.nil)
theorem Rps.eraseIdx : ∀ {ds : List D} {vs : List V} (i : Nat), Rps K F H ds vs → Rps K F H (ds.eraseIdx i) (vs.eraseIdx i)
  | [], vs, i, h => by unfold Rps at h; subst h; exact Rps.nil
  | c :: ds, vs, 0, h => by
    unfold Rps at h
    obtain ⟨w, r, rfl, h1, h2⟩ := h
    exact h2
  | c :: ds, vs, i + 1, h => by
    unfold Rps at h
    obtain ⟨w, r, rfl, h1, h2⟩ := h
    exact Rps.cons h1 (Rps.eraseIdx i h2)
theorem Rps.rep {ds : List D} {vs : List V} (h : Rps K F H ds vs) : ∀ n : Nat, Rps K F H (List.replicate n ds).flatten (List.replicate n vs).flatten
  | 0 => by simpa using Rps.nil
  | n + 1 => by
    rw [List.replicate_succ, List.replicate_succ, List.flatten_cons, List.flatten_cons]
    exact Rps.append h (Rps.rep h n)
theorem Rps.map_of {α : Type} {f : α → D} {g : α → V} (h : ∀ a, Rp K F H (f a) (g a)) : ∀ xs : List α, Rps K F H (xs.map f) (xs.map g)
  | [] => Rps.nil
  | x :: xs => Rps.cons (h x) (Rps.map_of h xs)
theorem Rp.int {i : Int} : Rp K F H (.int i) (.int i) := by unfold Rp; rfl
theorem Rp.bl {i : Bool} : Rp K F H (.bl i) (.bl i) := by unfold Rp; rfl
theorem Rp.str {i : Str} : Rp K F H (.str i) (.str i) := by unfold Rp; rfl
theorem Rp.non : Rp K F H .non .non := by unfold Rp; rfl
theorem Rp.ty {n : String} : Rp K F H (.ty n) (.ty n) := by unfold Rp; rfl
theorem Rp.ref {a : Addr} : Rp K F H (.ref a) (.ref a) := by unfold Rp; rfl
theorem Rp.ints : ∀ {ns : List Int} {vs : List V}, Rps K F H (ns.map D.int) vs → vs = ns.map V.int
  | [], vs, h => by
    unfold Rps at h
    exact h
  | n :: ns, vs, h => by
    rw [List.map_cons] at h
    unfold Rps at h
    obtain ⟨v, r, rfl, h1, h2⟩ := h
    unfold Rp at h1
    subst h1
    rw [Rp.ints h2, List.map_cons]
end

/-- the store is held -/
def MoOk (K : PySem.W.Frag) (F : Addr → Prop) (H : Hp) (a : Addr) : MO → Prop
  | .lst ds => ∃ vs, H a = some (.lst vs) ∧ Rps K F H ds vs
  | .ins C fs => ∃ dx gs, H a = some (.ins C dx gs) ∧ Rpf K F H fs gs
structure MemOk (K : PySem.W.Frag) (F : Addr → Prop) (H : Hp) (M : Mem) : Prop where
  fok : ∀ a, F a → H a ≠ none
  at_ : ∀ a o, M a = some o → ¬ F a ∧ MoOk K F H a o
theorem MoOk.stay {K : PySem.W.Frag} {F F' : Addr → Prop} {H H' : Hp} {a : Addr} {o : MO} (h : MoOk K F H a o) (x : ExtW F H F' H') (e : ∀ u, H a = some u → H' a = some u) : MoOk K F' H' a o := by
  cases o with
  | lst ds =>
    obtain ⟨vs, h1, h2⟩ := h
    exact ⟨vs, e _ h1, Rps.mono x ds vs h2⟩
  | ins C fs =>
    obtain ⟨dx, gs, h1, h2⟩ := h
    exact ⟨dx, gs, e _ h1, Rpf.mono x fs gs h2⟩
theorem MoOk.some {K : PySem.W.Frag} {F : Addr → Prop} {H : Hp} {a : Addr} {o : MO} (h : MoOk K F H a o) : ∃ u, H a = some u := by
  cases o with
  | lst ds => obtain ⟨vs, h1, h2⟩ := h; exact ⟨_, h1⟩
  | ins C fs => obtain ⟨dx, gs, h1, h2⟩ := h; exact ⟨_, h1⟩
section
variable {K : PySem.W.Frag} {F : Addr → Prop} {H : Hp} {M : Mem} {p : Addr}
theorem MemOk.fresh (m : MemOk K F H M) (hp : H p = none) : ¬ F p ∧ M p = none := by
  refine ⟨fun f => m.fok p f hp, ?_⟩
  cases e : M p with
  | none => rfl
  | some o =>
    obtain ⟨u, h⟩ := (m.at_ p o e).2.some
    rw [hp] at h
    cases h
/-- something frozen comes at p -/
theorem MemOk.frz (m : MemOk K F H M) (hp : H p = none) (o : HO) : MemOk K (fun a => F a ∨ a = p) (upd H p o) M := by
  have x : ExtW F H (fun a => F a ∨ a = p) (upd H p o) := (Ext.laid (M := M) hp (fun a h => .inl h) fun a h => h).toExtW
  refine ⟨fun a f => ?_, fun a u e => ?_⟩
  · by_cases z : a = p
    · subst z; rw [upd_same]; exact fun q => nomatch q
    · rw [upd_ne z]
      exact m.fok a (f.resolve_right z)
  · obtain ⟨n, q⟩ := m.at_ a u e
    have z : a ≠ p := fun z => by subst z; rw [(m.fresh hp).2] at e; cases e
    exact ⟨fun f => f.elim n z, q.stay x fun w h => by rw [upd_ne z]; exact h⟩
/-- something comes at p that is nowhere told -/
theorem MemOk.aside (m : MemOk K F H M) (hp : H p = none) (o : HO) : MemOk K F (upd H p o) M := by
  have x : ExtW F H F (upd H p o) := (Ext.laid (M := M) hp fun a h => h).toExtW
  refine ⟨fun a f => ?_, fun a u e => ?_⟩
  · have z : a ≠ p := fun z => by subst z; exact m.fok a f hp
    rw [upd_ne z]
    exact m.fok a f
  · obtain ⟨n, q⟩ := m.at_ a u e
    have z : a ≠ p := fun z => by subst z; rw [(m.fresh hp).2] at e; cases e
    exact ⟨n, q.stay x fun w h => by rw [upd_ne z]; exact h⟩
/-- a cell of the store is changed -/
theorem MemOk.set (m : MemOk K F H M) {o' : MO} {u u' : HO} (hp : H p = some u) (nF : ¬ F p) (x : ExtW F H F (upd H p u')) (q : MoOk K F (upd H p u') p o') : MemOk K F (upd H p u') (mset M p o') := by
  refine ⟨fun a f => ?_, fun a w e => ?_⟩
  · have z : a ≠ p := fun z => nF (z ▸ f)
    rw [upd_ne z]
    exact m.fok a f
  · by_cases z : a = p
    · subst z
      rw [mset_same] at e
      cases e
      exact ⟨nF, q⟩
    · rw [mset_ne z] at e
      obtain ⟨n, r⟩ := m.at_ a w e
      exact ⟨n, r.stay x fun w h => by rw [upd_ne z]; exact h⟩
/-- a new cell -/
theorem MemOk.add (m : MemOk K F H M) {o : MO} (nF : ¬ F p) (q : MoOk K F H p o) : MemOk K F H (mset M p o) := by
  refine ⟨m.fok, fun a w e => ?_⟩
  by_cases z : a = p
  · subst z
    rw [mset_same] at e
    cases e
    exact ⟨nF, q⟩
  · rw [mset_ne z] at e
    exact m.at_ a w e
/-- less is told -/
theorem MemOk.sub (m : MemOk K F H M) {M' : Mem} (h : ∀ a o, M' a = some o → M a = some o) : MemOk K F H M' := ⟨m.fok, fun a o e => m.at_ a o (h a o e)⟩
end

/-! ### the frame -/
abbrev Dv := List (Option D)
def EnvOk (K : PySem.W.Frag) (F : Addr → Prop) (H : Hp) (ρ : Dv) (σ : St) : Prop := ∀ (i : Nat) (d : D), ρ[i]? = some (some d) → ∃ v, σ[i]? = some (some v) ∧ Rp K F H d v
theorem EnvOk.mono {K : PySem.W.Frag} {F F' : Addr → Prop} {H H' : Hp} {ρ : Dv} {σ : St} (h : EnvOk K F H ρ σ) (x : ExtW F H F' H') : EnvOk K F' H' ρ σ := fun i d e => by
  obtain ⟨v, h1, h2⟩ := h i d e
  exact ⟨v, h1, Rp.mono x d v h2⟩
structure Sta (K : PySem.W.Frag) (F : Addr → Prop) (H : Hp) (ρ : Dv) (M : Mem) (σ : St) : Prop where
  env : EnvOk K F H ρ σ
  mem : MemOk K F H M
  len : ρ.length = σ.length
theorem Sta.next {K : PySem.W.Frag} {F F' : Addr → Prop} {H H' : Hp} {ρ : Dv} {M M' : Mem} {σ : St} (s : Sta K F H ρ M σ) (x : ExtW F H F' H') (m : MemOk K F' H' M') : Sta K F' H' ρ M' σ := ⟨s.env.mono x, m, s.len⟩
theorem EnvOk.set {K : PySem.W.Frag} {F : Addr → Prop} {H : Hp} {ρ : Dv} {σ : St} {d : D} {v : V} (h : EnvOk K F H ρ σ) (hl : ρ.length = σ.length) (i : Nat) (r : Rp K F H d v) : EnvOk K F H (ρ.set i (some d)) (σ.set i (some v)) := fun j e he => by
  by_cases z : i = j
  · subst z
    by_cases hi : i < ρ.length
    · rw [List.getElem?_set_self hi] at he
      cases he
      exact ⟨v, by rw [List.getElem?_set_self (hl ▸ hi)], r⟩
    · rw [List.getElem?_eq_none (by simpa using hi)] at he
      cases he
  · rw [List.getElem?_set_ne z] at he
    obtain ⟨w, h1, h2⟩ := h j e he
    exact ⟨w, by rw [List.getElem?_set_ne z]; exact h1, h2⟩
theorem Sta.set {K : PySem.W.Frag} {F : Addr → Prop} {H : Hp} {ρ : Dv} {M : Mem} {σ : St} {d : D} {v : V} (s : Sta K F H ρ M σ) (i : Nat) (r : Rp K F H d v) : Sta K F H (ρ.set i (some d)) M (σ.set i (some v)) :=
  ⟨s.env.set s.len i r, s.mem, by rw [List.length_set, List.length_set]; exact s.len⟩
/-- less of the frame is told -/
def Below (ρ' ρ : Dv) : Prop := ρ'.length = ρ.length ∧ ∀ (i : Nat) (d : D), ρ'[i]? = some (some d) → ρ[i]? = some (some d)
theorem Sta.below {K : PySem.W.Frag} {F : Addr → Prop} {H : Hp} {ρ ρ' : Dv} {M : Mem} {σ : St} (s : Sta K F H ρ M σ) (b : Below ρ' ρ) : Sta K F H ρ' M σ := ⟨fun i d e => s.env i d (b.2 i d e), s.mem, b.1.trans s.len⟩

/-! ### an exception, deep -/
structure DX where
  cls : Value
  fs : List (Str × D)
def RpX (K : PySem.W.Frag) (F : Addr → Prop) (H : Hp) (x : DX) (cls : Value) (d : Option Addr) : Prop :=
  cls = x.cls ∧ ((x.fs = [] ∧ d = none) ∨ ∃ dd gs, d = some dd ∧ H dd = some (.xd gs) ∧ Rpf K F H x.fs gs)
theorem RpX.mono {K : PySem.W.Frag} {F F' : Addr → Prop} {H H' : Hp} {x : DX} {cls : Value} {d : Option Addr} (h : RpX K F H x cls d) (e : ExtW F H F' H') : RpX K F' H' x cls d := by
  obtain ⟨h1, h2⟩ := h
  refine ⟨h1, h2.elim .inl fun ⟨dd, gs, a, b, c⟩ => .inr ⟨dd, gs, a, e.xd _ _ b, Rpf.mono e _ _ c⟩⟩

abbrev DXK := DX → Mem → Prop
abbrev DVK := D → Mem → Prop
/-- deep readings: E: what is wanted of an exception -/
abbrev DE := DXK → Dv → Mem → DVK → Prop
abbrev DT := DXK → Dv → Mem → (Bool → Mem → Prop) → Prop
abbrev DA := DXK → Dv → Mem → (List D → Mem → Prop) → Prop
structure DEnds where
  nx : Dv → Mem → Prop
  rt : D → Mem → Prop
  bk : Dv → Mem → Prop := fun _ _ => False
  ct : Dv → Mem → Prop := fun _ _ => False
  ex : DX → Dv → Mem → Prop := fun _ _ _ => False
abbrev DS := DEnds → Dv → Mem → Prop

/-- the wish W of exceptions (of the context) takes those that E wants -/
def XOk (K : PySem.W.Frag) (F : Addr → Prop) (H : Hp) (M : Mem) (E : DXK) (W : WX) (σ : St) : Prop := ∀ F' H' M' x cls d, Ext F H M F' H' M' → MemOk K F' H' M' → RpX K F' H' x cls d → E x M' → W cls d σ H'
def VOk (K : PySem.W.Frag) (F : Addr → Prop) (H : Hp) (M : Mem) (Q' : DVK) (Q : VK) : Prop := ∀ F' H' M' d v, Ext F H M F' H' M' → MemOk K F' H' M' → Rp K F' H' d v → Q' d M' → Q v H'
def BOk (K : PySem.W.Frag) (F : Addr → Prop) (H : Hp) (M : Mem) (Q' : Bool → Mem → Prop) (Q : Bool → Hp → Prop) : Prop := ∀ F' H' M' b, Ext F H M F' H' M' → MemOk K F' H' M' → Q' b M' → Q b H'
def AOk (K : PySem.W.Frag) (F : Addr → Prop) (H : Hp) (M : Mem) (Q' : List D → Mem → Prop) (Q : List V → Hp → Prop) : Prop := ∀ F' H' M' ds vs, Ext F H M F' H' M' → MemOk K F' H' M' → Rps K F' H' ds vs → Q' ds M' → Q vs H'
def SOk (K : PySem.W.Frag) (F : Addr → Prop) (H : Hp) (M : Mem) (Q' : Dv → Mem → Prop) (Q : St → Hp → Prop) : Prop := ∀ F' H' ρ' M' σ', Ext F H M F' H' M' → Sta K F' H' ρ' M' σ' → Q' ρ' M' → Q σ' H'
def SXOk (K : PySem.W.Frag) (F : Addr → Prop) (H : Hp) (M : Mem) (E : DX → Dv → Mem → Prop) (W : WX) : Prop := ∀ F' H' ρ' M' σ' x cls d, Ext F H M F' H' M' → Sta K F' H' ρ' M' σ' → RpX K F' H' x cls d → E x ρ' M' → W cls d σ' H'
structure EOk (K : PySem.W.Frag) (F : Addr → Prop) (H : Hp) (M : Mem) (E' : DEnds) (E : Ends) (W : WX) : Prop where
  nx : SOk K F H M E'.nx E.nx
  rt : VOk K F H M E'.rt E.rt
  bk : SOk K F H M E'.bk E.bk
  ct : SOk K F H M E'.ct E.ct
  ex : SXOk K F H M E'.ex W
section
variable {K : PySem.W.Frag} {F F' : Addr → Prop} {H H' : Hp} {M M' : Mem}
theorem XOk.next {E : DXK} {W : WX} {σ : St} (h : XOk K F H M E W σ) (x : Ext F H M F' H' M') : XOk K F' H' M' E W σ := fun F2 H2 M2 y c d e => h F2 H2 M2 y c d (x.trans e)
theorem VOk.next {Q' : DVK} {Q : VK} (h : VOk K F H M Q' Q) (x : Ext F H M F' H' M') : VOk K F' H' M' Q' Q := fun F2 H2 M2 d v e => h F2 H2 M2 d v (x.trans e)
theorem BOk.next {Q' : Bool → Mem → Prop} {Q : Bool → Hp → Prop} (h : BOk K F H M Q' Q) (x : Ext F H M F' H' M') : BOk K F' H' M' Q' Q := fun F2 H2 M2 b e => h F2 H2 M2 b (x.trans e)
theorem AOk.next {Q' : List D → Mem → Prop} {Q : List V → Hp → Prop} (h : AOk K F H M Q' Q) (x : Ext F H M F' H' M') : AOk K F' H' M' Q' Q := fun F2 H2 M2 b v e => h F2 H2 M2 b v (x.trans e)
theorem SOk.next {Q' : Dv → Mem → Prop} {Q : St → Hp → Prop} (h : SOk K F H M Q' Q) (x : Ext F H M F' H' M') : SOk K F' H' M' Q' Q := fun F2 H2 r M2 s e => h F2 H2 r M2 s (x.trans e)
theorem SXOk.next {E : DX → Dv → Mem → Prop} {W : WX} (h : SXOk K F H M E W) (x : Ext F H M F' H' M') : SXOk K F' H' M' E W := fun F2 H2 r M2 s y c d e => h F2 H2 r M2 s y c d (x.trans e)
theorem EOk.next {E' : DEnds} {E : Ends} {W : WX} (h : EOk K F H M E' E W) (x : Ext F H M F' H' M') : EOk K F' H' M' E' E W := ⟨h.nx.next x, h.rt.next x, h.bk.next x, h.ct.next x, h.ex.next x⟩
/-- an expression's exceptions within a statement -/
theorem SXOk.at_ {E : DX → Dv → Mem → Prop} {W : WX} {ρ : Dv} {σ : St} (h : SXOk K F H M E W) (s : Sta K F H ρ M σ) : XOk K F H M (fun x M => E x ρ M) W σ := fun F2 H2 M2 y c d e m r q => h F2 H2 ρ M2 σ y c d e (s.next e m) r q
end

/-! ### the judgements: those of the hand layer at readings made of deep ones -/
def tG (K : PySem.W.Frag) (W : WX) (g : DE) : TE := fun σ H Q => ∃ F ρ M E Q', Sta K F H ρ M σ ∧ XOk K F H M E W σ ∧ VOk K F H M Q' Q ∧ g E ρ M Q'
def tGt (K : PySem.W.Frag) (W : WX) (g : DT) : TT := fun σ H Q => ∃ F ρ M E Q', Sta K F H ρ M σ ∧ XOk K F H M E W σ ∧ BOk K F H M Q' Q ∧ g E ρ M Q'
def tGa (K : PySem.W.Frag) (W : WX) (g : DA) : TA := fun σ H Q => ∃ F ρ M E Q', Sta K F H ρ M σ ∧ XOk K F H M E W σ ∧ AOk K F H M Q' Q ∧ g E ρ M Q'
def tGs (K : PySem.W.Frag) (W : WX) (g : DS) : TS := fun E σ H => ∃ F ρ M E', Sta K F H ρ M σ ∧ EOk K F H M E' E W ∧ g E' ρ M
def FE (K : PySem.W.Frag) (X : Cx) (W : WX) (e : Expr) (g : DE) : Prop := PE X e (tG K W g)
def FT (K : PySem.W.Frag) (X : Cx) (W : WX) (e : Expr) (g : DT) : Prop := PT X e (tGt K W g)
def FW (K : PySem.W.Frag) (X : Cx) (W : WX) (e : Expr) (g : DT) : Prop := PW X e (tGt K W g)
def FA (K : PySem.W.Frag) (X : Cx) (W : WX) (es : List Expr) (g : DA) : Prop := PA X es (tGa K W g)
def FS (K : PySem.W.Frag) (X : Cx) (W : WX) (st : Stmt) (g : DS) : Prop := PS X st (tGs K W g)
def FSs (K : PySem.W.Frag) (X : Cx) (W : WX) (st : List Stmt) (g : DS) : Prop := PSs X st (tGs K W g)
theorem PE.imp {X : Cx} {e : Expr} {t t' : TE} (h : PE X e t) (i : ∀ σ H Q, t' σ H Q → t σ H Q) : PE X e t' := ⟨fun pins s σ H Q I q => h.run pins s σ H Q I (i σ H Q q)⟩
theorem PT.imp {X : Cx} {e : Expr} {t t' : TT} (h : PT X e t) (i : ∀ σ H Q, t' σ H Q → t σ H Q) : PT X e t' := ⟨fun pins s σ H Q I q => h.run pins s σ H Q I (i σ H Q q)⟩
theorem PW.imp {X : Cx} {e : Expr} {t t' : TT} (h : PW X e t) (i : ∀ σ H Q, t' σ H Q → t σ H Q) : PW X e t' := ⟨fun w pins s σ H Q I q => h.run w pins s σ H Q I (i σ H Q q)⟩
theorem PA.imp {X : Cx} {e : List Expr} {t t' : TA} (h : PA X e t) (i : ∀ σ H Q, t' σ H Q → t σ H Q) : PA X e t' := ⟨fun w pins s σ H Q I q => h.run w pins s σ H Q I (i σ H Q q)⟩
theorem PS.imp {X : Cx} {e : Stmt} {t t' : TS} (h : PS X e t) (i : ∀ D σ H, t' D σ H → t D σ H) : PS X e t' := ⟨fun pins s σ H D I q => h.run pins s σ H D I (i D σ H q)⟩
theorem PSs.imp {X : Cx} {e : List Stmt} {t t' : TS} (h : PSs X e t) (i : ∀ D σ H, t' D σ H → t D σ H) : PSs X e t' := ⟨fun pins s σ H D I q => h.run pins s σ H D I (i D σ H q)⟩
end DL

/-! DL2: expressions, deep. -/
namespace DL
open PySem PySem.Spec L2

def IE (K : PySem.W.Frag) (W : WX) (g : DE) (t : TE) : Prop := ∀ F H ρ M σ E Q' Q, Sta K F H ρ M σ → XOk K F H M E W σ → VOk K F H M Q' Q → g E ρ M Q' → t σ H Q
section
variable {K : PySem.W.Frag} {X : Cx} {W : WX} {F : Addr → Prop} {H : Hp} {ρ : Dv} {M : Mem} {σ : St} {E : DXK} {ga gb gc : DE} {a b c e : Expr} {pos : Pos}

theorem tG_mk {g : DE} {Q' : DVK} {Q : VK} (s : Sta K F H ρ M σ) (x : XOk K F H M E W σ) (q : VOk K F H M Q' Q) (h : g E ρ M Q') : tG K W g σ H Q := ⟨F, ρ, M, E, Q', s, x, q, h⟩
theorem tGt_mk {g : DT} {Q' : Bool → Mem → Prop} {Q : Bool → Hp → Prop} (s : Sta K F H ρ M σ) (x : XOk K F H M E W σ) (q : BOk K F H M Q' Q) (h : g E ρ M Q') : tGt K W g σ H Q := ⟨F, ρ, M, E, Q', s, x, q, h⟩
/-- two expressions, one behind the other -/
theorem two {R' : D → D → Mem → Prop} {R : V → V → Hp → Prop} (s : Sta K F H ρ M σ) (x : XOk K F H M E W σ) (h : ga E ρ M fun d M1 => gb E ρ M1 fun e M2 => R' d e M2)
    (k : ∀ F2 H2 M2 d e v u, Ext F H M F2 H2 M2 → MemOk K F2 H2 M2 → Rp K F2 H2 d v → Rp K F2 H2 e u → R' d e M2 → R v u H2) : tG K W ga σ H fun v H1 => tG K W gb σ H1 fun u H2 => R v u H2 :=
  tG_mk s x (fun F1 H1 M1 d v e1 m1 r1 h1 => tG_mk (s.next e1 m1) (x.next e1) (fun F2 H2 M2 e u e2 m2 r2 h2 => k F2 H2 M2 d e v u (e1.trans e2) m2 (Rp.mono e2 _ _ r1) r2 h2) h1) h

/-! ### operators by deep values -/
abbrev DR1 := D → Mem → DVK → Prop
abbrev DR2 := D → D → Mem → DVK → Prop
abbrev DRs := List D → Mem → DVK → Prop
def rG (K : PySem.W.Frag) (rd : DR2) : R2 := fun x y H Q => ∃ F M d e Q', MemOk K F H M ∧ Rp K F H d x ∧ Rp K F H e y ∧ VOk K F H M Q' Q ∧ rd d e M Q'
def rG1 (K : PySem.W.Frag) (rd : DR1) : V → Hp → VK → Prop := fun x H Q => ∃ F M d Q', MemOk K F H M ∧ Rp K F H d x ∧ VOk K F H M Q' Q ∧ rd d M Q'
def rGs (K : PySem.W.Frag) (rd : DRs) : List V → Hp → VK → Prop := fun xs H Q => ∃ F M ds Q', MemOk K F H M ∧ Rps K F H ds xs ∧ VOk K F H M Q' Q ∧ rd ds M Q'
def OpD (K : PySem.W.Frag) (X : Cx) (f : Value → Value → Sem Value) (rd : DR2) : Prop := OpR X f (rG K rd)
def IxD (K : PySem.W.Frag) (X : Cx) (rd : DR2) : Prop := IxR X (rG K rd)
def UnD (K : PySem.W.Frag) (X : Cx) (f : Value → Sem Value) (rd : DR1) : Prop := UnR X f (rG1 K rd)
def CallD (K : PySem.W.Frag) (X : Cx) (f : Value) (rd : DRs) : Prop := CallR X f (rGs K rd)
theorem OpR.imp {f : Value → Value → Sem Value} {r r' : R2} (h : OpR X f r) (i : ∀ x y H Q, r' x y H Q → r x y H Q) : OpR X f r' := fun pins s σ H x y v u Q I rx ry q => h pins s σ H x y v u Q I rx ry (i x y H Q q)
theorem IxR.imp {r r' : R2} (h : IxR X r) (i : ∀ x y H Q, r' x y H Q → r x y H Q) : IxR X r' := fun va sl pins s σ H x y v u Q I rx ry q => h va sl pins s σ H x y v u Q I rx ry (i x y H Q q)
theorem UnR.imp {f : Value → Sem Value} {r r' : V → Hp → VK → Prop} (h : UnR X f r) (i : ∀ x H Q, r' x H Q → r x H Q) : UnR X f r' := fun pins s σ H x v Q I rx q => h pins s σ H x v Q I rx (i x H Q q)
theorem CallR.imp {f : Value} {r r' : List V → Hp → VK → Prop} (h : CallR X f r) (i : ∀ x H Q, r' x H Q → r x H Q) : CallR X f r' := fun pins s σ H x v Q I rx q => h pins s σ H x v Q I rx (i x H Q q)

def gOp (rd : DR2) (ga gb : DE) : DE := fun E ρ M Q => ga E ρ M fun x M1 => gb E ρ M1 fun y M2 => rd x y M2 Q
def gUn (rd : DR1) (ga : DE) : DE := fun E ρ M Q => ga E ρ M fun x M1 => rd x M1 Q
theorem op_im {rd : DR2} : ∀ σ H Q, tG K W (gOp rd ga gb) σ H Q → tOp (rG K rd) (tG K W ga) (tG K W gb) σ H Q := fun σ H Q ⟨F, ρ, M, E, Q', s, x, q, h⟩ =>
  two (R := fun v u H2 => rG K rd v u H2 Q) s x h fun F2 H2 M2 d e v u e2 m2 r1 r2 h2 => ⟨F2, M2, d, e, Q', m2, r1, r2, q.next e2, h2⟩
theorem fe_op {op : Operator} {rd : DR2} (ho : OpD K X (binaryOp op) rd) (ha : FE K X W a ga) (hb : FE K X W b gb) : FE K X W (.BinOp a op b pos) (gOp rd ga gb) := PE.imp (pe_op ho ha hb) op_im
theorem fe_ix {rd : DR2} (ho : IxD K X rd) (ha : FE K X W a ga) (hb : FE K X W b gb) (hs : PlainIx b) : FE K X W (.Subscript a b pos) (gOp rd ga gb) := PE.imp (pe_ix ho ha hb hs) op_im
theorem fe_cmp {op : CmpOp} {rd : DR2} (ho : OpD K X (compareOp op) rd) (ha : FE K X W a ga) (hb : FE K X W b gb) (hm : behindInMarks op b = false) : FE K X W (.Compare a [op] [b] pos) (gOp rd ga gb) := PE.imp (pe_cmpR ho ha hb hm) op_im
theorem fe_un {op : UnaryOp} {rd : DR1} (ho : UnD K X (unaryOp op) rd) (ha : FE K X W a ga) : FE K X W (.UnaryOp op a pos) (gUn rd ga) :=
  PE.imp (pe_un ho ha) fun σ H Q ⟨F, ρ, M, E, Q', s, x, q, h⟩ => tG_mk s x (fun F1 H1 M1 d v e1 m1 r1 h1 => (⟨F1, M1, d, Q', m1, r1, q.next e1, h1⟩ : rG1 K rd v H1 Q)) h

/-! ### names, constants -/
def gVar (i : Nat) : DE := fun _ ρ M Q => match ρ[i]? with
  | some (some d) => Q d M
  | _ => False
theorem gVar_eq {i : Nat} {Q : DVK} {d : D} (e : ρ[i]? = some (some d)) (h : Q d M) : gVar i E ρ M Q := by
  unfold gVar
  rw [e]
  exact h
theorem fv (i : Nat) {x : Str} (hN : X.N[i]? = some x := by rfl) (hv : Vis X.env.scope x := by first | exact Or.inl rfl | exact Or.inr (Or.inl rfl) | exact Or.inr (Or.inr rfl)) (hd : (x == ("__debug__" : Str)) = false := by decide)
    (hcd : (x == ("__classdict__" : Str)) = false := by decide) : FE K X W (.Name x pos) (gVar i) :=
  PE.imp (pe_var hN hv hd hcd) fun σ H Q ⟨F, ρ, M, E, Q', s, x, q, h⟩ => by
    unfold gVar at h
    split at h
    · rename_i d e
      obtain ⟨v, h1, r⟩ := s.env i d e
      exact ⟨v, h1, q F H M d v (Ext.refl _ _ _) s.mem r h⟩
    · exact h.elim
def gC (d : D) : DE := fun _ _ M Q => Q d M
theorem tC_im {d : D} {v : V} (r : ∀ F H, Rp K F H d v) : ∀ σ H Q, tG K W (gC d) σ H Q → tC v σ H Q := fun σ H Q ⟨F, ρ, M, E, Q', s, x, q, h⟩ => q F H M d v (Ext.refl _ _ _) s.mem (r F H) h
theorem fe_int {i : Int} {j} : FE K X W (.Constant (.int i) j pos) (gC (.int i)) := PE.imp pe_int (tC_im fun _ _ => Rp.int)
theorem fe_bl {i : Bool} {j} : FE K X W (.Constant (.bool i) j pos) (gC (.bl i)) := PE.imp pe_bl (tC_im fun _ _ => Rp.bl)
theorem fe_non {j} : FE K X W (.Constant .none j pos) (gC .non) := PE.imp pe_non (tC_im fun _ _ => Rp.non)
theorem fe_str {i : Str} {j} : FE K X W (.Constant (.str i) j pos) (gC (.str i)) := PE.imp pe_str (tC_im fun _ _ => Rp.str)
/-- a built-in type as a value -/
theorem fe_ty {x : Str} {n : String} (hg : Gl X x) (hm : X.mg x = none) (hv : bootBuiltins x = some (.type n)) (hn : x ≠ "__name__" := by decide) (hd : (x == ("__debug__" : Str)) = false := by decide) : FE K X W (.Name x pos) (gC (.ty n)) :=
  PE.imp (pe_bltn (v := .ty n) hg hm hv rfl hn hd) (tC_im fun _ _ => Rp.ty)
/-- an own class or def as a value -/
theorem fe_own {x : Str} {c : Addr} (hg : Gl X x) (hm : X.mg x = some (.ref c)) (hd : (x == ("__debug__" : Str)) = false := by decide) : FE K X W (.Name x pos) (gC (.ref c)) :=
  PE.imp (pe_glob (v := .ref c) hg hm rfl hd) (tC_im fun _ _ => Rp.ref)

/-! ### argument lists, displays -/
def aNil : DA := fun _ _ M Q => Q [] M
def aCons (ga : DE) (gr : DA) : DA := fun E ρ M Q => ga E ρ M fun d M1 => gr E ρ M1 fun ds M2 => Q (d :: ds) M2
theorem fa_nil : FA K X W [] aNil := PA.imp pa_nil fun σ H Q ⟨F, ρ, M, E, Q', s, x, q, h⟩ => q F H M [] [] (Ext.refl _ _ _) s.mem Rps.nil h
theorem fa_cons {es : List Expr} {gr : DA} (ha : FE K X W e ga) (hr : FA K X W es gr) (hs : starEach (e :: es) X.env = (false, eval e X.env) :: starEach es X.env := by rfl) : FA K X W (e :: es) (aCons ga gr) :=
  PA.imp (pa_cons ha hr hs) fun σ H Q ⟨F, ρ, M, E, Q', s, x, q, h⟩ =>
    tG_mk s x (fun F1 H1 M1 d v e1 m1 r1 h1 => (⟨F1, ρ, M1, E, _, s.next e1 m1, x.next e1, fun F2 H2 M2 ds vs e2 m2 r2 h2 => q F2 H2 M2 (d :: ds) (v :: vs) (e1.trans e2) m2 (Rps.cons (Rp.mono e2 _ _ r1) r2) h2, h1⟩ : tGa K W gr σ H1 _)) h
def gTup (g : DA) : DE := fun E ρ M Q => g E ρ M fun ds M1 => ds.length ≤ sizeLine ∧ Q (.tup ds) M1
theorem fe_tup {es : List Expr} {g : DA} {x1} (h : FA K X W es g) : FE K X W (.Tuple es x1 pos) (gTup g) :=
  PE.imp (DLT.pe_tupP h) fun σ H Q ⟨F, ρ, M, E, Q', s, x, q, h⟩ => ⟨F, ρ, M, E, _, s, x, fun F1 H1 M1 ds vs e1 m1 r1 h1 => by
    obtain ⟨hl, h1⟩ := h1
    refine ⟨by rw [r1.length]; exact hl, fun p o hp po => q _ (upd H1 p o) M1 (.tup ds) (.ref p) (e1.trans (Ext.laid hp fun _ z => z)) (m1.aside hp _) ?_ h1⟩
    unfold Rp
    exact ⟨p, vs, rfl, .inl ⟨o, po, upd_same⟩, Rps.mono (Ext.laid (M := M1) hp fun _ z => z).toExtW _ _ r1⟩, h⟩

/-! ### new lists: frozen at once, or kept in the store -/
abbrev DN := DXK → Dv → Mem → (List D → Mem → Prop) → Prop
def tN (K : PySem.W.Frag) (W : WX) (g : DN) : TE := fun σ H Q => ∃ F ρ M E Q', Sta K F H ρ M σ ∧ XOk K F H M E W σ ∧
  (∀ F' H' M' ds vs p, Ext F H M F' H' M' → MemOk K F' H' M' → (M p ≠ none ∨ H p = none) → H' p = some (.lst vs) → ¬ F' p → M' p = none → Rps K F' H' ds vs → Q' ds M' → Q (.ref p) H') ∧ g E ρ M Q'
def FN (K : PySem.W.Frag) (X : Cx) (W : WX) (e : Expr) (g : DN) : Prop := PE X e (tN K W g)
def gFrz (g : DN) : DE := fun E ρ M Q => g E ρ M fun ds M1 => Q (.lst ds) M1
def gCel (g : DN) : DE := fun E ρ M Q => g E ρ M fun ds M1 => ∀ p, M1 p = none → Q (.ref p) (mset M1 p (.lst ds))
theorem MemOk.freeze {H' : Hp} {F' : Addr → Prop} {M' : Mem} {p : Addr} {u : HO} (m : MemOk K F' H' M') (hp : H' p = some u) (n : M' p = none) : MemOk K (fun a => F' a ∨ a = p) H' M' := by
  refine ⟨fun a f => f.elim (m.fok a) fun z => ?_, fun a o e => ?_⟩
  · rw [z, hp]
    exact fun q => nomatch q
  · obtain ⟨h1, h2⟩ := m.at_ a o e
    exact ⟨fun f => f.elim h1 fun z => (by rw [z, n] at e; cases e), h2.stay (ExtW.grow fun _ z => Or.inl z) fun _ z => z⟩
theorem Ext.frzAt {F' : Addr → Prop} {H' : Hp} {M' : Mem} {p : Addr} (e : Ext F H M F' H' M') (wp : M p ≠ none ∨ H p = none) : Ext F H M (fun a => F' a ∨ a = p) H' M' :=
  ⟨⟨fun a f => .inl (e.mono a f), e.fro, e.tup, e.frz, e.xd⟩, e.frame, e.dom, fun a h => h.elim (e.new a) fun z => .inr (by rw [z]; exact wp)⟩
theorem frz_im {g : DN} : ∀ σ H Q, tG K W (gFrz g) σ H Q → tN K W g σ H Q := fun σ H Q ⟨F, ρ, M, E, Q', s, x, q, h⟩ => ⟨F, ρ, M, E, _, s, x, fun F' H' M' ds vs p e m wp hp nF nM r h' => by
  refine q (fun a => F' a ∨ a = p) H' M' (.lst ds) (.ref p) (e.frzAt wp) (m.freeze hp nM) ?_ h'
  unfold Rp
  exact ⟨p, vs, rfl, hp, .inr rfl, Rps.mono (ExtW.grow fun _ z => .inl z) _ _ r⟩, h⟩
theorem Ext.cell {F' : Addr → Prop} {H' : Hp} {M' : Mem} {p : Addr} {o : MO} (e : Ext F H M F' H' M') (wp : M p ≠ none ∨ H p = none) : Ext F H M F' H' (mset M' p o) :=
  ⟨e.toExtW, e.frame, fun a h => (by
    by_cases z : a = p
    · rw [z]; exact wp
    · rw [mset_ne z] at h; exact e.dom a h), e.new⟩
theorem cel_im {g : DN} : ∀ σ H Q, tG K W (gCel g) σ H Q → tN K W g σ H Q := fun σ H Q ⟨F, ρ, M, E, Q', s, x, q, h⟩ => ⟨F, ρ, M, E, _, s, x, fun F' H' M' ds vs p e m wp hp nF nM r h' => by
  refine q F' H' (mset M' p (.lst ds)) (.ref p) (.ref p) (e.cell wp) (m.add nF ⟨vs, hp, r⟩) ?_ (h' p nM)
  unfold Rp
  rfl, h⟩
theorem FN.frz {g : DN} (h : FN K X W e g) : FE K X W e (gFrz g) := PE.imp h frz_im
theorem FN.cel {g : DN} (h : FN K X W e g) : FE K X W e (gCel g) := PE.imp h cel_im
def nLst (g : DA) : DN := fun E ρ M Q => g E ρ M fun ds M1 => ds.length ≤ sizeLine ∧ Q ds M1
/-- what a new list at p is -/
theorem newL {F1 : Addr → Prop} {H1 : Hp} {M1 : Mem} {ds : List D} {vs : List V} {Q : VK} {Q' : List D → Mem → Prop} {p : Addr} (e1 : Ext F H M F1 H1 M1) (m1 : MemOk K F1 H1 M1) (r1 : Rps K F1 H1 ds vs) (hp : H1 p = none)
    (q : ∀ F' H' M' ds vs p, Ext F H M F' H' M' → MemOk K F' H' M' → (M p ≠ none ∨ H p = none) → H' p = some (.lst vs) → ¬ F' p → M' p = none → Rps K F' H' ds vs → Q' ds M' → Q (.ref p) H') (h : Q' ds M1) : Q (.ref p) (upd H1 p (.lst vs)) :=
  q F1 (upd H1 p (.lst vs)) M1 ds vs p (e1.trans (Ext.laid hp fun _ z => z)) (m1.aside hp _) (e1.was hp) upd_same (m1.fresh hp).1 (m1.fresh hp).2 (Rps.mono (Ext.laid (M := M1) hp fun _ z => z).toExtW _ _ r1) h
theorem fn_lst {es : List Expr} {g : DA} (h : FA K X W es g) : FN K X W (.List es pos) (nLst g) :=
  PE.imp (pe_lst h) fun σ H Q ⟨F, ρ, M, E, Q', s, x, q, h⟩ => ⟨F, ρ, M, E, _, s, x, fun F1 H1 M1 ds vs e1 m1 r1 h1 => by
    obtain ⟨hl, h1⟩ := h1
    exact ⟨by rw [r1.length]; exact hl, fun p hp => newL e1 m1 r1 hp q h1⟩, h⟩

/-! ### tests -/
def onB (Q : Bool → Mem → Prop) (M : Mem) : D → Prop
  | .bl b => Q b M
  | _ => False
def gTest (g : DE) : DT := fun E ρ M Q => g E ρ M fun d M1 => onB Q M1 d
theorem test_bl {d : D} {v : V} {Q' : Bool → Mem → Prop} (r : Rp K F H d v) (h : onB Q' M d) : ∃ b, v = .bl b ∧ Q' b M := by
  cases d with
  | bl b => unfold Rp at r; exact ⟨b, r, h⟩
  | _ => exact h.elim
theorem ft_cmp {op : CmpOp} {rd : DR2} (ho : OpD K X (compareOp op) rd) (ha : FE K X W a ga) (hb : FE K X W b gb) (hm : behindInMarks op b = false) : FT K X W (.Compare a [op] [b] pos) (gTest (gOp rd ga gb)) :=
  PT.imp (pt_cmpR ho ha hb hm) fun σ H Q ⟨F, ρ, M, E, Q', s, x, q, h⟩ => op_im σ H _ (tG_mk s x (fun F1 H1 M1 d v e1 m1 r1 h1 => by
    obtain ⟨b, e, h2⟩ := test_bl r1 h1
    exact ⟨b, e, q F1 H1 M1 b e1 m1 h2⟩) h)
theorem ft_val {g : DE} (h : FE K X W e g) (he : ∀ whole, isTrue e X.env whole = (do let v ← whole; standAt e.pos; holding [v] (truthy v)) := by intro _; rfl) : FT K X W e (gTest g) :=
  PT.imp (pt_val h he) fun σ H Q ⟨F, ρ, M, E, Q', s, x, q, h⟩ => tG_mk s x (fun F1 H1 M1 d v e1 m1 r1 h1 => by
    obtain ⟨b, e, h2⟩ := test_bl r1 h1
    exact ⟨b, e, q F1 H1 M1 b e1 m1 h2⟩) h
def gAnd (ta tb : DT) : DT := fun E ρ M Q => ta E ρ M fun c M1 => if c = true then tb E ρ M1 Q else Q false M1
def gOr (ta tb : DT) : DT := fun E ρ M Q => ta E ρ M fun c M1 => if c = true then Q true M1 else tb E ρ M1 Q
def gNot (t : DT) : DT := fun E ρ M Q => t E ρ M fun c M1 => Q (!c) M1
variable {ta tb : DT} {rest : List Expr}
theorem fw_and1 (h : FT K X W a ta) : FW K X W (.BoolOp .And [a] pos) ta := pw_and1 h
theorem fw_or1 (h : FT K X W a ta) : FW K X W (.BoolOp .Or [a] pos) ta := pw_or1 h
theorem fw_and (ha : FT K X W a ta) (hb : FW K X W (.BoolOp .And (b :: rest) pos) tb) : FW K X W (.BoolOp .And (a :: b :: rest) pos) (gAnd ta tb) :=
  PW.imp (pw_and ha hb) fun σ H Q ⟨F, ρ, M, E, Q', s, x, q, h⟩ => tGt_mk s x (fun F1 H1 M1 c e1 m1 h1 => by
    cases c with
    | true => rw [if_pos rfl] at h1 ⊢; exact tGt_mk (s.next e1 m1) (x.next e1) (q.next e1) h1
    | false => rw [if_neg Bool.false_ne_true] at h1 ⊢; exact q F1 H1 M1 _ e1 m1 h1) h
theorem fw_or (ha : FT K X W a ta) (hb : FW K X W (.BoolOp .Or (b :: rest) pos) tb) : FW K X W (.BoolOp .Or (a :: b :: rest) pos) (gOr ta tb) :=
  PW.imp (pw_or ha hb) fun σ H Q ⟨F, ρ, M, E, Q', s, x, q, h⟩ => tGt_mk s x (fun F1 H1 M1 c e1 m1 h1 => by
    cases c with
    | true => rw [if_pos rfl] at h1 ⊢; exact q F1 H1 M1 _ e1 m1 h1
    | false => rw [if_neg Bool.false_ne_true] at h1 ⊢; exact tGt_mk (s.next e1 m1) (x.next e1) (q.next e1) h1) h
theorem FW.ft (h : FW K X W e ta) : FT K X W e ta := PW.pt h
theorem ft_not (h : FT K X W a ta) : FT K X W (.UnaryOp .Not a pos) (gNot ta) :=
  PT.imp (pt_not h) fun σ H Q ⟨F, ρ, M, E, Q', s, x, q, h⟩ => tGt_mk s x (fun F1 H1 M1 c e1 m1 h1 => q F1 H1 M1 _ e1 m1 h1) h

/-! ### and, or, not, if as values -/
def gAndV (ga gb : DE) : DE := fun E ρ M Q => ga E ρ M fun d M1 => onB (fun c M1 => if c = true then gb E ρ M1 Q else Q (.bl false) M1) M1 d
def gOrV (ga gb : DE) : DE := fun E ρ M Q => ga E ρ M fun d M1 => onB (fun c M1 => if c = true then Q (.bl true) M1 else gb E ρ M1 Q) M1 d
def gNotV (ga : DE) : DE := fun E ρ M Q => ga E ρ M fun d M1 => onB (fun c M1 => Q (.bl (!c)) M1) M1 d
theorem fe_one {op} (h : FE K X W a ga) : FE K X W (.BoolOp op [a] pos) ga := pe_one h
theorem fe_and (ha : FE K X W a ga) (hb : FE K X W (.BoolOp .And (b :: rest) pos) gb) : FE K X W (.BoolOp .And (a :: b :: rest) pos) (gAndV ga gb) :=
  PE.imp (pe_and ha hb) fun σ H Q ⟨F, ρ, M, E, Q', s, x, q, h⟩ => tG_mk s x (fun F1 H1 M1 d v e1 m1 r1 h1 => by
    obtain ⟨c, r1, h1⟩ := test_bl r1 h1
    refine ⟨c, r1, ?_⟩
    cases c with
    | true => rw [if_pos rfl] at h1 ⊢; exact tG_mk (s.next e1 m1) (x.next e1) (q.next e1) h1
    | false => rw [if_neg Bool.false_ne_true] at h1 ⊢; exact q F1 H1 M1 _ _ e1 m1 Rp.bl h1) h
theorem fe_or (ha : FE K X W a ga) (hb : FE K X W (.BoolOp .Or (b :: rest) pos) gb) : FE K X W (.BoolOp .Or (a :: b :: rest) pos) (gOrV ga gb) :=
  PE.imp (pe_or ha hb) fun σ H Q ⟨F, ρ, M, E, Q', s, x, q, h⟩ => tG_mk s x (fun F1 H1 M1 d v e1 m1 r1 h1 => by
    obtain ⟨c, r1, h1⟩ := test_bl r1 h1
    refine ⟨c, r1, ?_⟩
    cases c with
    | true => rw [if_pos rfl] at h1 ⊢; exact q F1 H1 M1 _ _ e1 m1 Rp.bl h1
    | false => rw [if_neg Bool.false_ne_true] at h1 ⊢; exact tG_mk (s.next e1 m1) (x.next e1) (q.next e1) h1) h
theorem fe_not (ha : FE K X W a ga) : FE K X W (.UnaryOp .Not a pos) (gNotV ga) :=
  PE.imp (pe_not ha) fun σ H Q ⟨F, ρ, M, E, Q', s, x, q, h⟩ => tG_mk s x (fun F1 H1 M1 d v e1 m1 r1 h1 => by
    obtain ⟨c, r1, h1⟩ := test_bl r1 h1
    exact ⟨c, r1, q F1 H1 M1 _ _ e1 m1 Rp.bl h1⟩) h
def gIf (t : DT) (ga gb : DE) : DE := fun E ρ M Q => t E ρ M fun c M1 => if c = true then ga E ρ M1 Q else gb E ρ M1 Q
theorem fe_if (hc : FT K X W c ta) (ha : FE K X W a ga) (hb : FE K X W b gb) : FE K X W (.IfExp c a b pos) (gIf ta ga gb) :=
  PE.imp (pe_ifExp hc ha hb) fun σ H Q ⟨F, ρ, M, E, Q', s, x, q, h⟩ => tGt_mk s x (fun F1 H1 M1 c e1 m1 h1 => by
    cases c with
    | true => rw [if_pos rfl] at h1 ⊢; exact tG_mk (s.next e1 m1) (x.next e1) (q.next e1) h1
    | false => rw [if_neg Bool.false_ne_true] at h1 ⊢; exact tG_mk (s.next e1 m1) (x.next e1) (q.next e1) h1) h
/-- a op1 b op2 c -/
def gChain (r r' : DR2) (ga gb gc : DE) : DE := fun E ρ M Q => ga E ρ M fun x M1 => gb E ρ M1 fun y M2 => r x y M2 fun z M3 => onB (fun k M3 => if k = true then gc E ρ M3 fun w M4 => r' y w M4 Q else Q (.bl false) M3) M3 z
theorem chain_im {r r' : DR2} : ∀ σ H Q, tG K W (gChain r r' ga gb gc) σ H Q → tChain (rG K r) (rG K r') (tG K W ga) (tG K W gb) (tG K W gc) σ H Q := fun σ H Q ⟨F, ρ, M, E, Q', s, x, q, h⟩ =>
  tG_mk s x (fun F1 H1 M1 d v e1 m1 r1 h1 => tG_mk (s.next e1 m1) (x.next e1) (fun F2 H2 M2 d2 v2 e2 m2 r2 h2 => ⟨F2, M2, d, d2, _, m2, Rp.mono e2 _ _ r1, r2, fun F3 H3 M3 d3 v3 e3 m3 r3 h3 => by
    have e13 := (e1.trans e2).trans e3
    obtain ⟨k, r3, h3⟩ := test_bl r3 h3
    refine ⟨k, r3, ?_⟩
    cases k with
    | true => rw [if_pos rfl] at h3 ⊢; exact tG_mk (s.next e13 m3) (x.next e13) (fun F4 H4 M4 d4 v4 e4 m4 r4 h4 => (⟨F4, M4, d2, d4, Q', m4, Rp.mono (e3.trans e4) _ _ r2, r4, q.next (e13.trans e4), h4⟩ : rG K r' v2 v4 H4 Q)) h3
    | false => rw [if_neg Bool.false_ne_true] at h3 ⊢; exact q F3 H3 M3 _ _ e13 m3 Rp.bl h3, h2⟩) h1) h
theorem fe_chain {op op' : CmpOp} {r r' : DR2} (ho : OpD K X (compareOp op) r) (ho' : OpD K X (compareOp op') r') (ha : FE K X W a ga) (hb : FE K X W b gb) (hc : FE K X W c gc)
    (hm : lastMarks [op, op'] [b, c] = false := by with_unfolding_all rfl) : FE K X W (.Compare a [op, op'] [b, c] pos) (gChain r r' ga gb gc) := PE.imp (pe_chain ho ho' ha hb hc hm) chain_im
theorem ft_chain {op op' : CmpOp} {r r' : DR2} (ho : OpD K X (compareOp op) r) (ho' : OpD K X (compareOp op') r') (ha : FE K X W a ga) (hb : FE K X W b gb) (hc : FE K X W c gc)
    (hm : lastMarks [op, op'] [b, c] = false := by with_unfolding_all rfl) : FT K X W (.Compare a [op, op'] [b, c] pos) (gTest (gChain r r' ga gb gc)) :=
  PT.imp (pt_chain ho ho' ha hb hc hm) fun σ H Q ⟨F, ρ, M, E, Q', s, x, q, h⟩ => chain_im σ H _ (tG_mk s x (fun F1 H1 M1 d v e1 m1 r1 h1 => by
    obtain ⟨b, e, h2⟩ := test_bl r1 h1
    exact ⟨b, e, q F1 H1 M1 b e1 m1 h2⟩) h)
end
end DL

/-! DL3: statements, targets, loops, comprehensions, deep. -/
namespace DL
open PySem PySem.Spec L2

section
variable {K : PySem.W.Frag} {X : Cx} {W : WX} {F : Addr → Prop} {H : Hp} {ρ : Dv} {M : Mem} {σ : L2.St} {E : DXK} {ga gb gc : DE} {a b c e : Expr} {pos : Pos} {s1 st : Stmt} {rest : List Stmt} {t u : DS}

theorem tGs_mk {g : DS} {E' : DEnds} {D : Ends} (s : Sta K F H ρ M σ) (x : EOk K F H M E' D W) (h : g E' ρ M) : tGs K W g D σ H := ⟨F, ρ, M, E', s, x, h⟩

/-! ### blocks -/
def sNext : DS := fun E ρ M => E.nx ρ M
def sSeq (t u : DS) : DS := fun E ρ M => t { E with nx := u E } ρ M
theorem EOk.withNx {E' : DEnds} {D : Ends} {Q' : Dv → Mem → Prop} {Q : L2.St → Hp → Prop} (x : EOk K F H M E' D W) (q : SOk K F H M Q' Q) : EOk K F H M { E' with nx := Q' } { D with nx := Q } W := ⟨q, x.rt, x.bk, x.ct, x.ex⟩
theorem fss_nil : FSs K X W [] sNext := PSs.imp pss_nil fun D σ H ⟨F, ρ, M, E', s, x, h⟩ => x.nx F H ρ M σ (Ext.refl _ _ _) s h
theorem fss_cons (h1 : FS K X W st t) (h2 : FSs K X W rest u) : FSs K X W (st :: rest) (sSeq t u) :=
  PSs.imp (pss_cons h1 h2) fun D σ H ⟨F, ρ, M, E', s, x, h⟩ => tGs_mk s (x.withNx fun F' H' ρ' M' σ' e s' h' => tGs_mk s' (x.next e) h') h
theorem fss_one (h1 : FS K X W st t) : FSs K X W [st] t := pss_one h1
/-- behind st only Mid is known -/
def sCut (t u : DS) : DS := fun E ρ M => ∃ Mid : Dv → Mem → Prop, t { E with nx := Mid } ρ M ∧ ∀ ρ' M', Mid ρ' M' → u E ρ' M'
theorem fss_cut (h1 : FS K X W st t) (h2 : FSs K X W rest u) : FSs K X W (st :: rest) (sCut t u) :=
  PSs.imp (pss_cons h1 h2) fun D σ H ⟨F, ρ, M, E', s, x, Mid, h, k⟩ => tGs_mk s (x.withNx fun F' H' ρ' M' σ' e s' h' => tGs_mk s' (x.next e) (k _ _ h')) h

/-! ### freezing -/
mutual
inductive Fz (M : Mem) (S : Addr → Prop) : D → D → Prop
  | refl (d : D) : Fz M S d d
  | ref {a : Addr} {ds ds' : List D} : S a → M a = some (.lst ds) → Fzs M S ds ds' → Fz M S (.ref a) (.lst ds')
  | tup {ds ds' : List D} : Fzs M S ds ds' → Fz M S (.tup ds) (.tup ds')
  | lst {ds ds' : List D} : Fzs M S ds ds' → Fz M S (.lst ds) (.lst ds')
inductive Fzs (M : Mem) (S : Addr → Prop) : List D → List D → Prop
  | refl (ds : List D) : Fzs M S ds ds
  | cons {d d' : D} {ds ds' : List D} : Fz M S d d' → Fzs M S ds ds' → Fzs M S (d :: ds) (d' :: ds')
end
theorem Ext.or {S : Addr → Prop} {M' : Mem} (h : ∀ a, M' a ≠ none → M a ≠ none) (hS : ∀ a, S a → M a ≠ none) : Ext F H M (fun a => F a ∨ S a) H M' := Ext.grow (fun _ z => .inl z) (fun a z => .inl (h a z)) fun a z => z.imp (fun z => z) fun z => .inl (hS a z)
theorem Ext.orS {S : Addr → Prop} : ExtW F H (fun a => F a ∨ S a) H := ExtW.grow fun _ z => .inl z
mutual
theorem Fz.rp {S : Addr → Prop} (m : MemOk K F H M) : ∀ {d d' : D} {v : V}, Fz M S d d' → Rp K F H d v → Rp K (fun a => F a ∨ S a) H d' v
  | _, _, v, .refl d, r => Rp.mono Ext.orS _ _ r
  | _, _, v, .ref (a := a) hS hM f, r => by
    obtain ⟨vs, h1, h2⟩ := (m.at_ a _ hM).2
    unfold Rp at r ⊢
    exact ⟨a, vs, r, h1, .inr hS, Fzs.rp m f h2⟩
  | _, _, v, .tup f, r => by
    unfold Rp at r ⊢
    obtain ⟨a, vs, e, q, rr⟩ := r
    exact ⟨a, vs, e, q, Fzs.rp m f rr⟩
  | _, _, v, .lst f, r => by
    unfold Rp at r ⊢
    obtain ⟨a, vs, e, q, fa, rr⟩ := r
    exact ⟨a, vs, e, q, .inl fa, Fzs.rp m f rr⟩
theorem Fzs.rp {S : Addr → Prop} (m : MemOk K F H M) : ∀ {ds ds' : List D} {vs : List V}, Fzs M S ds ds' → Rps K F H ds vs → Rps K (fun a => F a ∨ S a) H ds' vs
  | _, _, v, .refl d, r => Rps.mono Ext.orS _ _ r
  | _, _, vs, .cons f g, r => by
    unfold Rps at r ⊢
    obtain ⟨v, w, e, h1, h2⟩ := r
    exact ⟨v, w, e, Fz.rp m f h1, Fzs.rp m g h2⟩
end
/-- the lists at S are frozen, the store told is M' -/
def MemFz (M M' : Mem) (S : Addr → Prop) : Prop := (∀ a, S a → M a ≠ none) ∧ ∀ a o, M' a = some o → ¬ S a ∧ M a = some o
theorem MemFz.dom {M' : Mem} {S : Addr → Prop} (z : MemFz M M' S) : ∀ a, M' a ≠ none → M a ≠ none := fun a h n => by
  cases q : M' a with
  | none => exact h q
  | some o => rw [(z.2 a o q).2] at n; cases n
theorem MemFz.ok {M' : Mem} {S : Addr → Prop} (z : MemFz M M' S) (m : MemOk K F H M) : MemOk K (fun a => F a ∨ S a) H M' := by
  refine ⟨fun a f => f.elim (m.fok a) fun s => ?_, fun a o e => ?_⟩
  · cases q : M a with
    | none => exact absurd q (z.1 a s)
    | some o =>
      obtain ⟨u, h⟩ := (m.at_ a o q).2.some
      rw [h]
      exact fun y => nomatch y
  · obtain ⟨n, e'⟩ := z.2 a o e
    obtain ⟨n2, q⟩ := m.at_ a o e'
    exact ⟨fun f => f.elim n2 n, q.stay Ext.orS fun _ y => y⟩

/-! ### simple statements -/
def sDrop (g : DE) : DS := fun E ρ M => g (fun x M => E.ex x ρ M) ρ M fun _ M1 => E.nx ρ M1
theorem fs_expr (he : FE K X W e ga) (hs : swapsWith e none pos.line X.env = pure false := by rfl) : FS K X W (.Expr e pos) (sDrop ga) :=
  PS.imp (ps_expr he hs) fun D σ H ⟨F, ρ, M, E', s, x, h⟩ => tG_mk s (x.ex.at_ s) (fun F1 H1 M1 d v e1 m1 r1 h1 => x.nx F1 H1 ρ M1 σ e1 (s.next e1 m1) h1) h
def sRet (g : DE) : DS := fun E ρ M => g (fun x M => E.ex x ρ M) ρ M E.rt
theorem fs_ret (he : FE K X W e ga) : FS K X W (.Return (some e) pos) (sRet ga) :=
  PS.imp (ps_ret he) fun D σ H ⟨F, ρ, M, E', s, x, h⟩ => tG_mk s (x.ex.at_ s) x.rt h
/-- return e, some lists of the store frozen -/
def sRetF (g : DE) : DS := fun E ρ M => g (fun x M => E.ex x ρ M) ρ M fun d M1 => ∃ d' M2 S, Fz M1 S d d' ∧ MemFz M1 M2 S ∧ E.rt d' M2
theorem fs_retF (he : FE K X W e ga) : FS K X W (.Return (some e) pos) (sRetF ga) :=
  PS.imp (ps_ret he) fun D σ H ⟨F, ρ, M, E', s, x, h⟩ => tG_mk s (x.ex.at_ s) (fun F1 H1 M1 d v e1 m1 r1 ⟨d', M2, S, f, z, h1⟩ => x.rt _ H1 M2 d' v (e1.trans (Ext.or z.dom z.1)) (z.ok m1) (f.rp m1 r1) h1) h
def sRetN : DS := fun E _ M => E.rt .non M
theorem fs_retN : FS K X W (.Return none pos) sRetN := PS.imp ps_retN fun D σ H ⟨F, ρ, M, E', s, x, h⟩ => x.rt F H M .non .non (Ext.refl _ _ _) s.mem Rp.non h
def sIf (c : DT) (t u : DS) : DS := fun E ρ M => c (fun x M => E.ex x ρ M) ρ M fun k M1 => if k = true then t E ρ M1 else u E ρ M1
theorem fs_if {c : Expr} {gc : DT} {p q : List Stmt} (hc : FT K X W c gc) (ha : FSs K X W p t) (hb : FSs K X W q u) : FS K X W (.If c p q pos) (sIf gc t u) :=
  PS.imp (ps_if hc ha hb) fun D σ H ⟨F, ρ, M, E', s, x, h⟩ => tGt_mk s (x.ex.at_ s) (fun F1 H1 M1 k e1 m1 h1 => by
    cases k with
    | true => rw [if_pos rfl] at h1 ⊢; exact tGs_mk (s.next e1 m1) (x.next e1) h1
    | false => rw [if_neg Bool.false_ne_true] at h1 ⊢; exact tGs_mk (s.next e1 m1) (x.next e1) h1) h
theorem fs_pass : FS K X W (.Pass pos) sNext := PS.imp ps_pass fun D σ H ⟨F, ρ, M, E', s, x, h⟩ => x.nx F H ρ M σ (Ext.refl _ _ _) s h
def sBreak : DS := fun E ρ M => E.bk ρ M
def sCont : DS := fun E ρ M => E.ct ρ M
theorem fs_break : FS K X W (.Break pos) sBreak := PS.imp ps_break fun D σ H ⟨F, ρ, M, E', s, x, h⟩ => x.bk F H ρ M σ (Ext.refl _ _ _) s h
theorem fs_continue : FS K X W (.Continue pos) sCont := PS.imp ps_continue fun D σ H ⟨F, ρ, M, E', s, x, h⟩ => x.ct F H ρ M σ (Ext.refl _ _ _) s h

/-! ### targets -/
def Chg (vs : List Nat) (σ σ' : L2.St) : Prop := σ'.length = σ.length ∧ ∀ j, j ∉ vs → σ'[j]? = σ[j]?
theorem Chg.refl (vs : List Nat) (σ : L2.St) : Chg vs σ σ := ⟨rfl, fun _ _ => rfl⟩
theorem Chg.trans {vs : List Nat} {σ σ1 σ2 : L2.St} (a : Chg vs σ σ1) (b : Chg vs σ1 σ2) : Chg vs σ σ2 := ⟨b.1.trans a.1, fun j h => (b.2 j h).trans (a.2 j h)⟩
theorem Chg.set {vs : List Nat} {σ : L2.St} {i : Nat} {v : Option V} (h : i ∈ vs) : Chg vs σ (σ.set i v) := ⟨List.length_set, fun j hj => by rw [List.getElem?_set_ne (show i ≠ j from fun z => hj (by rw [← z]; exact h))]⟩
theorem wipe_get {σ : L2.St} {j : Nat} : ∀ {vs : List Nat}, j ∈ vs → j < σ.length → (wipe σ vs)[j]? = some none
  | v :: vs, h, hl => by
    unfold wipe
    by_cases z : v = j
    · subst z
      rw [List.getElem?_set_self (by rw [wipe_length]; exact hl)]
    · rw [List.getElem?_set_ne z]
      exact wipe_get ((List.mem_cons.mp h).resolve_left fun q => z q.symm) hl
theorem wipe_not {σ : L2.St} {j : Nat} : ∀ {vs : List Nat}, j ∉ vs → (wipe σ vs)[j]? = σ[j]?
  | [], h => rfl
  | v :: vs, h => by
    unfold wipe
    rw [List.getElem?_set_ne (fun q => h (by simp [q])), wipe_not fun q => h (List.mem_cons_of_mem _ q)]
theorem Chg.wipe {vs ws : List Nat} {σ σ' : L2.St} (c : Chg vs σ σ') (hs : ∀ i ∈ vs, i ∈ ws) : L2.wipe σ' ws = L2.wipe σ ws := by
  apply List.ext_getElem?
  intro j
  by_cases hj : j ∈ ws
  · by_cases hl : j < σ.length
    · rw [wipe_get hj hl, wipe_get hj (by rw [c.1]; exact hl)]
    · rw [List.getElem?_eq_none (by rw [wipe_length, c.1]; omega), List.getElem?_eq_none (by rw [wipe_length]; omega)]
  · rw [wipe_not hj, wipe_not hj]
    exact c.2 j fun q => hj (hs j q)
theorem wipe_wipe {σ : L2.St} {ws : List Nat} : L2.wipe (L2.wipe σ ws) ws = L2.wipe σ ws := by
  apply List.ext_getElem?
  intro j
  by_cases hj : j ∈ ws
  · by_cases hl : j < σ.length
    · rw [wipe_get hj hl, wipe_get hj (by rw [wipe_length]; exact hl)]
    · rw [List.getElem?_eq_none (by rw [wipe_length, wipe_length]; omega), List.getElem?_eq_none (by rw [wipe_length]; omega)]
  · rw [wipe_not hj]
abbrev DG := D → Dv → Mem → (Dv → Mem → Prop) → Prop
abbrev DGs := List D → Dv → Mem → (Dv → Mem → Prop) → Prop
def gG (K : PySem.W.Frag) (vs : List Nat) (dg : DG) : TG := fun v σ H Q => ∃ F ρ M d Q', Sta K F H ρ M σ ∧ Rp K F H d v ∧ (∀ F' H' ρ' M' σ', Ext F H M F' H' M' → Sta K F' H' ρ' M' σ' → Chg vs σ σ' → Q' ρ' M' → Q σ' H') ∧ dg d ρ M Q'
def gGs (K : PySem.W.Frag) (vs : List Nat) (dg : DGs) : TGs := fun xs σ H Q => ∃ F ρ M ds Q', Sta K F H ρ M σ ∧ Rps K F H ds xs ∧ (∀ F' H' ρ' M' σ', Ext F H M F' H' M' → Sta K F' H' ρ' M' σ' → Chg vs σ σ' → Q' ρ' M' → Q σ' H') ∧ dg ds ρ M Q'
def FG (K : PySem.W.Frag) (X : Cx) (tg : Expr) (vs : List Nat) (dg : DG) : Prop := PG X tg (gG K vs dg)
def FGs (K : PySem.W.Frag) (X : Cx) (ts : List Expr) (vs : List Nat) (dg : DGs) : Prop := PGs X ts (gGs K vs dg)
theorem PG.imp {tg : Expr} {t t' : TG} (h : PG X tg t) (i : ∀ v σ H Q, t' v σ H Q → t v σ H Q) : PG X tg t' := ⟨fun pins s σ H x u Q I r q => h.run pins s σ H x u Q I r (i x σ H Q q)⟩
theorem PGs.imp {ts : List Expr} {t t' : TGs} (h : PGs X ts t) (i : ∀ v σ H Q, t' v σ H Q → t v σ H Q) : PGs X ts t' := ⟨fun pins s σ H x u Q I r q => h.run pins s σ H x u Q I r (i x σ H Q q)⟩
def dName (i : Nat) : DG := fun d ρ M Q => Q (ρ.set i (some d)) M
theorem fg_name {vs : List Nat} (i : Nat) {x : Str} (hN : X.N.Nodup) (hi : X.N[i]? = some x := by rfl) (hx : Loc X.env.scope x := by first | exact Or.inl rfl | exact Or.inr rfl) (hv : i ∈ vs := by decide)
    (hf : X.fn x = true ∨ X.env.scope.names.lookup x = some .local := by first | exact .inl rfl | exact .inr rfl | assumption) : FG K X (.Name x pos) vs (dName i) :=
  PG.imp (pg_name hN hi hx hf) fun v σ H Q ⟨F, ρ, M, d, Q', s, r, q, h⟩ => q F H _ M _ (Ext.refl _ _ _) (s.set i r) (Chg.set hv) h
def dNil : DGs := fun ds ρ M Q => ds = [] ∧ Q ρ M
def dCons (g : DG) (gs : DGs) : DGs
  | [], _, _, _ => False
  | d :: ds, ρ, M, Q => g d ρ M fun ρ' M' => gs ds ρ' M' Q
theorem fgs_nil {vs : List Nat} : FGs K X [] vs dNil := PGs.imp pgs_nil fun v σ H Q ⟨F, ρ, M, ds, Q', s, r, q, e, h⟩ => by
  subst e
  unfold Rps at r
  exact ⟨r, q F H ρ M σ (Ext.refl _ _ _) s (Chg.refl _ _) h⟩
theorem fgs_cons {vs : List Nat} {es : List Expr} {g : DG} {gs : DGs} (h1 : FG K X e vs g) (h2 : FGs K X es vs gs)
    (hs : (assignEach (e :: es) X.env).map (·.2) = assign e X.env :: (assignEach es X.env).map (·.2) := by rfl) : FGs K X (e :: es) vs (dCons g gs) := PGs.imp (pgs_cons h1 h2 hs) fun xs σ H Q ⟨F, ρ, M, ds, Q', s, r, q, h⟩ => by
  cases ds with
  | nil => exact h.elim
  | cons d ds =>
    unfold Rps at r
    obtain ⟨v, w, e, r1, r2⟩ := r
    exact ⟨v, w, e, F, ρ, M, d, _, s, r1, fun F1 H1 ρ1 M1 σ1 e1 s1 c1 h1 => (⟨F1, ρ1, M1, ds, Q', s1, Rps.mono e1 _ _ r2, fun F2 H2 ρ2 M2 σ2 e2 s2 c2 h2 => q F2 H2 ρ2 M2 σ2 (e1.trans e2) s2 (c1.trans c2) h2, h1⟩ : gGs K vs gs w σ1 H1 Q), h⟩
def dTup (n : Nat) (gs : DGs) : DG
  | .tup ds, ρ, M, Q => ds.length = n ∧ gs ds ρ M Q
  | _, _, _, _ => False
theorem fg_tup {vs : List Nat} {es : List Expr} {k : Nat} {gs : DGs} {n : Nat} (hc : X.calm = true) (hK : X.K = K) (h : FGs K X es vs gs) (hn : (assignEach es X.env).length = n := by rfl) (hst : (assignEach es X.env).findIdx? (·.1) = none := by rfl) : FG K X (.Tuple es k pos) vs (dTup n gs) := by
  subst hK
  refine PG.imp (pg_tup (n := n) hc h hn hst) fun v σ H Q ⟨F, ρ, M, d, Q', s, r, q, h⟩ => ?_
  cases d with
  | tup ds =>
    unfold Rp at r
    obtain ⟨a, vs', e, q1, r1⟩ := r
    exact ⟨a, vs', e, q1.sq, r1.length.trans h.1, F, ρ, M, ds, Q', s, r1, q, h.2⟩
  | _ => exact h.elim

/-! ### assignments -/
def sAsg (g : DE) (dg : DG) : DS := fun E ρ M => g (fun x M => E.ex x ρ M) ρ M fun d M1 => dg d ρ M1 E.nx
def sSet (i : Nat) (g : DE) : DS := fun E ρ M => g (fun x M => E.ex x ρ M) ρ M fun d M1 => E.nx (ρ.set i (some d)) M1
theorem asg_im {vs : List Nat} {dg : DG} : ∀ D σ H, tGs K W (sAsg ga dg) D σ H → tAsg (tG K W ga) (gG K vs dg) D σ H := fun D σ H ⟨F, ρ, M, E', s, x, h⟩ =>
  tG_mk s (x.ex.at_ s) (fun F1 H1 M1 d v e1 m1 r1 h1 => (⟨F1, ρ, M1, d, _, s.next e1 m1, r1, fun F2 H2 ρ2 M2 σ2 e2 s2 _ h2 => x.nx F2 H2 ρ2 M2 σ2 (e1.trans e2) s2 h2, h1⟩ : gG K vs dg v σ H1 D.nx)) h
theorem fs_set (i : Nat) {x : Str} {pos' : Pos} (hN : X.N.Nodup) (he : FE K X W e ga) (hi : X.N[i]? = some x := by rfl) (hx : Loc X.env.scope x := by first | exact Or.inl rfl | exact Or.inr rfl) (hs : swapsWith e (some (.Name x pos')) pos.line X.env = pure false := by rfl)
    (hf : X.fn x = true ∨ X.env.scope.names.lookup x = some .local := by first | exact .inl rfl | exact .inr rfl) : FS K X W (.Assign [.Name x pos'] e pos) (sSet i ga) :=
  PS.imp (ps_set hN hi hx he hs hf) fun D σ H ⟨F, ρ, M, E', s, x, h⟩ => tG_mk s (x.ex.at_ s) (fun F1 H1 M1 d v e1 m1 r1 h1 => x.nx F1 H1 _ M1 _ e1 ((s.next e1 m1).set i r1) h1) h
theorem fs_asg {tg : Expr} {vs : List Nat} {dg : DG} (he : FE K X W e ga) (hg : FG K X tg vs dg) (hs : swapsWithSole [tg] e pos.line X.env = pure false := by rfl) (hw : swappedStores [tg] e X.env = pure none := by rfl) (h1 : (assignEach [tg] X.env).map (·.2) = [assign tg X.env] := by rfl) : FS K X W (.Assign [tg] e pos) (sAsg ga dg) :=
  PS.imp (ps_asg he hg hs hw (by first | exact h1 | assumption)) asg_im
def sPar (i j : Nat) (g : DA) : DS := fun E ρ M => g (fun x M => E.ex x ρ M) ρ M fun ds M1 => match ds with
  | [d, e] => E.nx ((ρ.set i (some d)).set j (some e)) M1
  | _ => False
theorem fs_par (i j : Nat) {x y : Str} {px py pt : Pos} {kt k2 pt2} {g : DA} (hN : X.N.Nodup) (ha : FA K X W [a, b] g) (hc : X.calm = true := by rfl) (hi : X.N[i]? = some x := by rfl) (hj : X.N[j]? = some y := by rfl) (hij : i ≠ j := by decide)
    (hx : X.env.scope.names.lookup x = some .local := by rfl) (hy : X.env.scope.names.lookup y = some .local := by rfl)
    (hw : swappedStores [.Tuple [.Name x px, .Name y py] kt pt] (.Tuple [a, b] k2 pt2) X.env = pure (some [x, y]) := by rfl) : FS K X W (.Assign [.Tuple [.Name x px, .Name y py] kt pt] (.Tuple [a, b] k2 pt2) pos) (sPar i j g) :=
  PS.imp (ps_par hc hN hi hj hij hx hy ha hw) fun D σ H ⟨F, ρ, M, E', s, x, h⟩ => (⟨F, ρ, M, _, _, s, x.ex.at_ s, fun F1 H1 M1 ds vs e1 m1 r1 h1 => by
    match ds, h1 with
    | [d, e], h1 =>
      unfold Rps Rps at r1
      obtain ⟨v, w, rfl, q1, u, w', rfl, q2, q3⟩ := r1
      unfold Rps at q3
      subst q3
      exact ⟨v, u, rfl, x.nx F1 H1 _ M1 _ e1 (((s.next e1 m1).set i q1).set j q2) h1⟩, h⟩ : tGa K W g σ H _)

/-! ### what a for walks -/
structure Src where
  items : List D
  ok : Mem → Prop
/-- the iterator J gives the items, as long as the store is ok -/
def SrcOk (K : PySem.W.Frag) (F : Addr → Prop) (H : Hp) (J : It) (src : Src) : Prop := ∀ F' H' M', ExtW F H F' H' → MemOk K F' H' M' → src.ok M' → ∀ i : Nat,
  (∀ d, src.items[i]? = some d → J.go i H' ∧ ∀ x H2, J.yld i H' x H2 → ∃ F2, Ext F' H' M' F2 H2 M' ∧ MemOk K F2 H2 M' ∧ Rp K F2 H2 d x) ∧ (src.items.length ≤ i → J.stop i H')
abbrev DI := DXK → Dv → Mem → (Src → Mem → Prop) → Prop
def tGi (K : PySem.W.Frag) (W : WX) (gi : DI) : TI := fun σ H R => ∃ F ρ M E R', Sta K F H ρ M σ ∧ XOk K F H M E W σ ∧ (∀ F' H' M' J src, Ext F H M F' H' M' → MemOk K F' H' M' → SrcOk K F' H' J src → R' src M' → R J H') ∧ gi E ρ M R'
def FI (K : PySem.W.Frag) (X : Cx) (W : WX) (tg iter : Expr) (gi : DI) : Prop := PI X tg iter (tGi K W gi)
theorem PI.imp {tg iter : Expr} {t t' : TI} (h : PI X tg iter t) (i : ∀ σ H R, t' σ H R → t σ H R) : PI X tg iter t' := ⟨fun pins s σ H R I q => h.run pins s σ H R I (i σ H R q)⟩
/-- the items of what is a sequence -/
def srcOf (M : Mem) : D → Option Src
  | .lst ds => some ⟨ds, fun _ => True⟩
  | .tup ds => some ⟨ds, fun _ => True⟩
  | .scr ns => some ⟨ns.map D.int, fun _ => True⟩
  | .ref a => match M a with
    | some (.lst ds) => some ⟨ds, fun M' => M' a = some (.lst ds)⟩
    | _ => none
  | _ => none
def onSrc (M : Mem) (d : D) (R : Src → Mem → Prop) : Prop := match srcOf M d with
  | some s => R s M
  | none => False
/-! lists -/
theorem src_list {a0 : Addr} {items : List D} {ok : Mem → Prop} (h : ∀ F' H' M', ExtW F H F' H' → MemOk K F' H' M' → ok M' → ∃ vs, SqL K H' a0 vs ∧ Rps K F' H' items vs) : SrcOk K F H (Itl K a0) ⟨items, ok⟩ := fun F' H' M' e m o i => by
  obtain ⟨vs, q, r⟩ := h F' H' M' e m o
  refine ⟨fun d hd => ?_, fun hl => ⟨vs, q, by rw [r.length]; exact hl⟩⟩
  obtain ⟨v, hv, rv⟩ := r.get hd
  refine ⟨⟨vs, v, q, hv⟩, fun x H2 y => ?_⟩
  obtain ⟨rfl, y⟩ := y
  have z := y vs q
  rw [hv] at z
  cases z
  exact ⟨F', Ext.refl _ _ _, m, rv⟩
theorem src_tup {a0 : Addr} {items : List D} {ok : Mem → Prop} (h : ∀ F' H' M', ExtW F H F' H' → MemOk K F' H' M' → ok M' → ∃ vs, SqT K H' a0 vs ∧ Rps K F' H' items vs) : SrcOk K F H (Itt K a0) ⟨items, ok⟩ := fun F' H' M' e m o i => by
  obtain ⟨vs, q, r⟩ := h F' H' M' e m o
  refine ⟨fun d hd => ?_, fun hl => ⟨vs, q, by rw [r.length]; exact hl⟩⟩
  obtain ⟨v, hv, rv⟩ := r.get hd
  refine ⟨⟨vs, v, q, hv⟩, fun x H2 y => ?_⟩
  obtain ⟨rfl, y⟩ := y
  have z := y vs q
  rw [hv] at z
  cases z
  exact ⟨F', Ext.refl _ _ _, m, rv⟩
/-- what the heap has of a deep sequence: a list or a tuple, now and later -/
inductive SeqK | l | t
def SeqAt (K : PySem.W.Frag) (F : Addr → Prop) (H : Hp) (k : SeqK) (a : Addr) (src : Src) : Prop := ∀ F' H' M', ExtW F H F' H' → MemOk K F' H' M' → src.ok M' → ∃ vs, (match k with | .l => SqL K H' a vs | .t => TupAt K H' a vs) ∧ Rps K F' H' src.items vs
theorem src_at {d : D} {v : V} {src : Src} (m : MemOk K F H M) (r : Rp K F H d v) (h : srcOf M d = some src) : src.ok M ∧ ∃ k a, v = .ref a ∧ SeqAt K F H k a src := by
  cases d with
  | lst ds =>
    cases h
    unfold Rp at r
    obtain ⟨a, vs, e, q, f, rr⟩ := r
    exact ⟨True.intro, .l, a, e, fun F' H' M' x _ _ => ⟨vs, SqL.of (x.fro _ _ f q), Rps.mono x _ _ rr⟩⟩
  | tup ds =>
    cases h
    unfold Rp at r
    obtain ⟨a, vs, e, q, rr⟩ := r
    exact ⟨True.intro, .t, a, e, fun F' H' M' x _ _ => ⟨vs, x.tupAt q, Rps.mono x _ _ rr⟩⟩
  | scr ns =>
    cases h
    unfold Rp at r
    obtain ⟨a, e, q⟩ := r
    refine ⟨True.intro, .l, a, e, fun F' H' M' x _ _ => ⟨ns.map V.int, ?_, Rps.map_of (fun _ => Rp.int) ns⟩⟩
    rcases q with ⟨o, q⟩ | q
    · exact .inl (.inr ⟨o, x.frz _ _ _ q⟩)
    · exact q H'
  | ref a =>
    have h' : (match M a with | some (.lst ds) => some (⟨ds, fun M' => M' a = some (.lst ds)⟩ : Src) | _ => none) = some src := h
    cases q : M a with
    | none => rw [q] at h'; cases h'
    | some o =>
      rw [q] at h'
      cases o with
      | ins C fs => cases h'
      | lst ds =>
        cases h'
        unfold Rp at r
        exact ⟨q, .l, a, r, fun F' H' M' x m' e' => by
          obtain ⟨vs, h1, h2⟩ := (m'.at_ a _ e').2
          exact ⟨vs, SqL.of h1, h2⟩⟩
  | _ => cases h
/-- the items of a range -/
def rgD (lo : Int) (n : Nat) : List D := (List.range n).map fun i => D.int (lo + (i : Nat))
theorem src_range {lo : Int} {n : Nat} : SrcOk K F H (Itr lo n) ⟨rgD lo n, fun _ => True⟩ := fun F' H' M' e m o i => by
  refine ⟨fun d hd => ?_, fun hl => (by have z : (rgD lo n).length ≤ i := hl; rw [rgD, List.length_map, List.length_range] at z; exact z)⟩
  have hi : i < n := by
    have := (List.getElem?_eq_some_iff.mp hd).1
    simpa [rgD] using this
  refine ⟨hi, fun x H2 y => ?_⟩
  obtain ⟨rfl, rfl⟩ := y
  have z : (rgD lo n)[i]? = some (.int (lo + (i : Nat))) := by simp [rgD, hi]
  have hd' : (rgD lo n)[i]? = some d := hd
  rw [z] at hd'
  cases hd'
  exact ⟨F', Ext.refl _ _ _, m, Rp.int⟩
def iRange1 (g : DA) : DI := fun E ρ M R => g E ρ M fun ds M1 => match ds with
  | [.int j] => (-(2 ^ 62) ≤ j ∧ j < 2 ^ 62) ∧ R ⟨rgD 0 j.toNat, fun _ => True⟩ M1
  | _ => False
def iRange2 (g : DA) : DI := fun E ρ M R => g E ρ M fun ds M1 => match ds with
  | [.int i, .int j] => (-(2 ^ 62) ≤ i ∧ i < 2 ^ 62 ∧ -(2 ^ 62) ≤ j ∧ j < 2 ^ 62) ∧ R ⟨rgD i (j - i).toNat, fun _ => True⟩ M1
  | _ => False
theorem Rps.one {d : D} {vs : List V} (r : Rps K F H [d] vs) : ∃ v, vs = [v] ∧ Rp K F H d v := by
  unfold Rps at r
  obtain ⟨v, w, rfl, h1, h2⟩ := r
  unfold Rps at h2
  subst h2
  exact ⟨v, rfl, h1⟩
theorem Rps.two {d e : D} {vs : List V} (r : Rps K F H [d, e] vs) : ∃ v w, vs = [v, w] ∧ Rp K F H d v ∧ Rp K F H e w := by
  unfold Rps at r
  obtain ⟨v, w, rfl, h1, h2⟩ := r
  obtain ⟨u, rfl, h3⟩ := Rps.one h2
  exact ⟨v, u, rfl, h1, h3⟩
theorem fi_range1 {tg : Expr} {p : Pos} {g : DA} (hg : Gl X "range") (hm : X.mg "range" = none) (ha : FA K X W [a] g) (hs : starEach [a] X.env = [(false, eval a X.env)] := by rfl) : FI K X W tg (.Call (.Name "range" p) [a] [] pos) (iRange1 g) :=
  PI.imp (pi_range1 hg hm ha hs) fun σ H R ⟨F, ρ, M, E, R', s, x, q, h⟩ => (⟨F, ρ, M, E, _, s, x, fun F1 H1 M1 ds vs e1 m1 r1 h1 => by
    match ds, h1 with
    | [.int j], h1 =>
      obtain ⟨v, rfl, rv⟩ := r1.one
      unfold Rp at rv
      subst rv
      exact ⟨j, rfl, h1.1.1, h1.1.2, q F1 H1 M1 _ _ e1 m1 src_range h1.2⟩, h⟩ : tGa K W g σ H _)
theorem fi_range2 {tg : Expr} {p : Pos} {g : DA} (hg : Gl X "range") (hm : X.mg "range" = none) (ha : FA K X W [a, b] g) (hs : starEach [a, b] X.env = [(false, eval a X.env), (false, eval b X.env)] := by rfl) (hs2 : starEach [b] X.env = [(false, eval b X.env)] := by rfl) :
    FI K X W tg (.Call (.Name "range" p) [a, b] [] pos) (iRange2 g) :=
  PI.imp (pi_range2 hg hm ha hs hs2) fun σ H R ⟨F, ρ, M, E, R', s, x, q, h⟩ => (⟨F, ρ, M, E, _, s, x, fun F1 H1 M1 ds vs e1 m1 r1 h1 => by
    match ds, h1 with
    | [.int i, .int j], h1 =>
      obtain ⟨v, w, rfl, rv, rw'⟩ := r1.two
      unfold Rp at rv rw'
      subst rv rw'
      exact ⟨i, j, rfl, h1.1, q F1 H1 M1 _ _ e1 m1 src_range h1.2⟩, h⟩ : tGa K W g σ H _)

/-! ### for -/
def loopD (ok : Mem → Prop) (dg : DG) (gb : DS) (E : DEnds) : List D → Dv → Mem → Prop
  | [], ρ, M => ok M ∧ E.nx ρ M
  | d :: ds, ρ, M => ok M ∧ dg d ρ M fun ρ' M' => gb { E with nx := loopD ok dg gb E ds, ct := loopD ok dg gb E ds, bk := E.nx } ρ' M'
def sFor (gi : DI) (dg : DG) (gb : DS) : DS := fun E ρ M => gi (fun x M => E.ex x ρ M) ρ M fun src M1 => loopD src.ok dg gb E src.items ρ M1
theorem fs_for {tg iter : Expr} {body : List Stmt} {gi : DI} {vs : List Nat} {dg : DG} {gb : DS} (hp : PassesOwn (model X.prog X.w) X.A X.env X.xe) (hc : X.calm = true) (hi : FI K X W tg iter gi) (hg : FG K X tg vs dg) (hb : FSs K X W body gb)
    (hs : ∀ x, foldedSetIterable iter X.env x = pure x := by intro _; rfl) : FS K X W (.For tg iter body [] pos) (sFor gi dg gb) := by
  refine PS.imp (ps_for hp hc hi hg hb hs) fun D σ H ⟨F, ρ, M, E', s, x, h⟩ => (⟨F, ρ, M, _, _, s, x.ex.at_ s, fun F1 H1 M1 J src e1 m1 so h1 => ?_, h⟩ : tGi K W gi σ H _)
  refine ⟨fun i m σ2 H2 => ∃ F2 ρ2 M2, Ext F1 H1 M1 F2 H2 M2 ∧ Sta K F2 H2 ρ2 M2 σ2 ∧ i ≤ src.items.length ∧ m = src.items.length - i ∧ loopD src.ok dg gb E' (src.items.drop i) ρ2 M2, ⟨src.items.length, F1, ρ, M1, Ext.refl _ _ _, s.next e1 m1, Nat.zero_le _, rfl, h1⟩, ?_⟩
  rintro i m σ2 H2 ⟨F2, ρ2, M2, e2, s2, hl, rfl, h2⟩
  by_cases hlt : i < src.items.length
  · rw [List.drop_eq_getElem_cons hlt] at h2
    unfold loopD at h2
    obtain ⟨o, h2⟩ := h2
    obtain ⟨go, yl⟩ := (so F2 H2 M2 e2 s2.mem o i).1 src.items[i] (by simp [hlt])
    refine .inr ⟨go, fun σ3 H3 => ∃ F3 ρ3 M3, Ext F1 H1 M1 F3 H3 M3 ∧ Sta K F3 H3 ρ3 M3 σ3 ∧ loopD src.ok dg gb E' (src.items.drop (i + 1)) ρ3 M3, ?_, fun v H3 y => ?_⟩
    · rintro σ3 H3 ⟨F3, ρ3, M3, e3, s3, h3⟩
      exact ⟨src.items.length - (i + 1), by omega, F3, ρ3, M3, e3, s3, hlt, rfl, h3⟩
    · obtain ⟨F3, e3, m3, r3⟩ := yl v H3 y
      refine ⟨F3, ρ2, M2, _, _, s2.next e3 m3, r3, fun F4 H4 ρ4 M4 σ4 e4 s4 _ h4 => ?_, h2⟩
      have e14 := e2.trans (e3.trans e4)
      have x4 := x.next (e1.trans e14)
      refine tGs_mk (E' := { E' with nx := loopD src.ok dg gb E' (src.items.drop (i + 1)), ct := loopD src.ok dg gb E' (src.items.drop (i + 1)), bk := E'.nx }) s4 ⟨fun F5 H5 ρ5 M5 σ5 e5 s5 h5 => ⟨F5, ρ5, M5, e14.trans e5, s5, h5⟩, x4.rt, x4.nx, fun F5 H5 ρ5 M5 σ5 e5 s5 h5 => ⟨F5, ρ5, M5, e14.trans e5, s5, h5⟩, x4.ex⟩ h4
  · have z : i = src.items.length := by omega
    subst z
    rw [List.drop_length] at h2
    unfold loopD at h2
    exact .inl ⟨(so F2 H2 M2 e2 s2.mem h2.1 _).2 (Nat.le_refl _), x.nx F2 H2 ρ2 M2 σ2 (e1.trans e2) s2 h2.2⟩
/-- a loop by an invariant -/
theorem loop_inv {ok : Mem → Prop} {dg : DG} {gb : DS} {E : DEnds} (P : Nat → Dv → Mem → Prop) {items : List D} (hok : ∀ i ρ M, i ≤ items.length → P i ρ M → ok M)
    (hs : ∀ i ρ M d, items[i]? = some d → P i ρ M → dg d ρ M fun ρ' M' => ∀ Nx : Dv → Mem → Prop, (∀ ρ M, P (i + 1) ρ M → Nx ρ M) → gb { E with nx := Nx, ct := Nx, bk := E.nx } ρ' M')
    (mono : ∀ d ρ M (Q Q' : Dv → Mem → Prop), (∀ ρ M, Q ρ M → Q' ρ M) → dg d ρ M Q → dg d ρ M Q')
    (hd : ∀ ρ M, P items.length ρ M → E.nx ρ M) {ρ : Dv} {M : Mem} (h0 : P 0 ρ M) : loopD ok dg gb E items ρ M := by
  have key : ∀ k i ρ M, i + k = items.length → P i ρ M → loopD ok dg gb E (items.drop i) ρ M := by
    intro k
    induction k with
    | zero =>
      intro i ρ M e p
      have z : i = items.length := by omega
      subst z
      rw [List.drop_length]
      unfold loopD
      exact ⟨hok _ _ _ (Nat.le_refl _) p, hd _ _ p⟩
    | succ k ih =>
      intro i ρ M e p
      have hlt : i < items.length := by omega
      rw [List.drop_eq_getElem_cons hlt]
      unfold loopD
      refine ⟨hok _ _ _ (by omega) p, mono _ _ _ _ _ (fun ρ' M' q => q _ fun ρ2 M2 p2 => ih (i + 1) ρ2 M2 (by omega) p2) (hs i ρ M _ (by simp [hlt]) p)⟩
  have := key items.length 0 ρ M (by omega) h0
  simpa using this
theorem dName_mono {i : Nat} : ∀ d ρ M (Q Q' : Dv → Mem → Prop), (∀ ρ M, Q ρ M → Q' ρ M) → dName i d ρ M Q → dName i d ρ M Q' := fun _ _ _ _ _ k h => k _ _ h

/-! ### while -/
def sWhile (c : DT) (gb : DS) : DS := fun E ρ M => ∃ P : Nat → Dv → Mem → Prop, (∃ m, P m ρ M) ∧ ∀ m ρ M, P m ρ M → c (fun x M => E.ex x ρ M) ρ M fun k M1 =>
  if k = true then gb { E with nx := fun ρ' M' => ∃ m', m' < m ∧ P m' ρ' M', ct := fun ρ' M' => ∃ m', m' < m ∧ P m' ρ' M', bk := E.nx } ρ M1 else E.nx ρ M1
theorem fs_while {c : Expr} {body : List Stmt} {gc : DT} {gb : DS} (hp : PassesOwn (model X.prog X.w) X.A X.env X.xe) (hc : FT K X W c gc) (hb : FSs K X W body gb) : FS K X W (.While c body [] pos) (sWhile gc gb) := by
  refine PS.imp (ps_while hp hc hb) fun D σ H ⟨F, ρ, M, E', s, x, P, ⟨m0, p0⟩, h⟩ => ?_
  refine ⟨fun m σ2 H2 => ∃ F2 ρ2 M2, Ext F H M F2 H2 M2 ∧ Sta K F2 H2 ρ2 M2 σ2 ∧ P m ρ2 M2, ⟨m0, F, ρ, M, Ext.refl _ _ _, s, p0⟩, ?_⟩
  rintro m σ2 H2 ⟨F2, ρ2, M2, e2, s2, p2⟩
  refine tGt_mk s2 ((x.next e2).ex.at_ s2) (fun F3 H3 M3 k e3 m3 h3 => ?_) (h m ρ2 M2 p2)
  cases k with
  | true =>
    rw [if_pos rfl] at h3 ⊢
    have e23 := e2.trans e3
    have x4 := x.next e23
    refine ⟨fun σ4 H4 => ∃ m', m' < m ∧ ∃ F4 ρ4 M4, Ext F H M F4 H4 M4 ∧ Sta K F4 H4 ρ4 M4 σ4 ∧ P m' ρ4 M4, fun σ4 H4 q => q, tGs_mk (E' := { E' with nx := fun ρ' M' => ∃ m', m' < m ∧ P m' ρ' M', ct := fun ρ' M' => ∃ m', m' < m ∧ P m' ρ' M', bk := E'.nx }) (s2.next e3 m3) ⟨fun F5 H5 ρ5 M5 σ5 e5 s5 ⟨m', l, p⟩ => ⟨m', l, F5, ρ5, M5, e23.trans e5, s5, p⟩, x4.rt, x4.nx, fun F5 H5 ρ5 M5 σ5 e5 s5 ⟨m', l, p⟩ => ⟨m', l, F5, ρ5, M5, e23.trans e5, s5, p⟩, x4.ex⟩ h3⟩
  | false =>
    rw [if_neg Bool.false_ne_true] at h3 ⊢
    exact x.nx F3 H3 ρ2 M3 σ2 (e2.trans e3) (s2.next e3 m3) h3
end
end DL

/-! DL4: list comprehensions, deep. -/
namespace DL
open PySem PySem.Spec L2

abbrev W0 : WX := fun _ _ _ _ => False
abbrev E0 : DXK := fun _ _ => False
def wipeD (ρ : Dv) : List Nat → Dv
  | [] => ρ
  | v :: vs => (wipeD ρ vs).set v none
theorem wipeD_length (ρ : Dv) : ∀ vs : List Nat, (wipeD ρ vs).length = ρ.length
  | [] => rfl
  | v :: vs => by unfold wipeD; rw [List.length_set, wipeD_length ρ vs]
theorem wipeD_some {ρ : Dv} {i : Nat} {d : D} : ∀ {vs : List Nat}, (wipeD ρ vs)[i]? = some (some d) → i ∉ vs ∧ ρ[i]? = some (some d)
  | [], h => ⟨by simp, h⟩
  | v :: vs, h => by
    unfold wipeD at h
    by_cases z : v = i
    · subst z
      by_cases hl : v < (wipeD ρ vs).length
      · rw [List.getElem?_set_self hl] at h; cases h
      · rw [List.getElem?_eq_none (by simpa using hl)] at h; cases h
    · rw [List.getElem?_set_ne z] at h
      obtain ⟨h1, h2⟩ := wipeD_some h
      exact ⟨fun q => (List.mem_cons.mp q).elim (fun y => z y.symm) h1, h2⟩
section
variable {K : PySem.W.Frag} {X : Cx} {W : WX} {F : Addr → Prop} {H : Hp} {ρ : Dv} {M : Mem} {σ : L2.St}
theorem EnvOk.wipe (h : EnvOk K F H ρ σ) (vs : List Nat) : EnvOk K F H (wipeD ρ vs) (L2.wipe σ vs) := fun i d e => by
  obtain ⟨h1, h2⟩ := wipeD_some e
  obtain ⟨v, h3, h4⟩ := h i d h2
  exact ⟨v, by rw [wipe_not h1]; exact h3, h4⟩
theorem x0 : XOk K F H M E0 W0 σ := fun _ _ _ _ _ _ _ _ _ h => h

/-- a list at p that nobody knows of is changed -/
theorem ExtW.wr {p : Addr} {vs : List V} {o : HO} (hp : H p = some (.lst vs)) (nF : ¬ F p) : ExtW F H F (upd H p o) :=
  ExtW.write hp nF (fun _ z => nomatch z) (fun _ _ z => nomatch z) fun _ z => nomatch z
theorem Ext.side {F' : Addr → Prop} {H' : Hp} {M' : Mem} {p : Addr} {o : HO} (e : Ext F H M F' H' M') (hp : H p = none) : Ext F H M F' (upd H' p o) M' :=
  have ne : ∀ {a : Addr} {u : HO}, H a = some u → upd H' p o a = H' a := fun h => upd_ne (ne_of_none h hp)
  ⟨⟨e.mono, fun a u f h => by rw [ne h]; exact e.fro a u f h, fun a u h => by rw [ne h]; exact e.tup a u h, fun a u w h => by rw [ne h]; exact e.frz a u w h, fun a u h => by rw [ne h]; exact e.xd a u h⟩,
   fun a u h n => by rw [ne h]; exact e.frame a u h n, e.dom, e.new⟩
theorem MemOk.side {p : Addr} {vs : List V} {o : HO} (m : MemOk K F H M) (hp : H p = some (.lst vs)) (nF : ¬ F p) (nM : M p = none) : MemOk K F (upd H p o) M := by
  refine ⟨fun a f => ?_, fun a u e => ?_⟩
  · have z : a ≠ p := fun z => nF (by rw [← z]; exact f)
    rw [upd_ne z]
    exact m.fok a f
  · obtain ⟨n, q⟩ := m.at_ a u e
    have z : a ≠ p := fun z => by rw [z, nM] at e; cases e
    exact ⟨n, q.stay (ExtW.wr hp nF) fun w h => by rw [upd_ne z]; exact h⟩

/-- the tests of a clause -/
def FTs (K : PySem.W.Frag) (X : Cx) (W : WX) (ifs : List Expr) (g : DT) : Prop := PTs X ifs (tGt K W g)
theorem PTs.imp {X : Cx} {e : List Expr} {t t' : TT} (h : PTs X e t) (i : ∀ σ H Q, t' σ H Q → t σ H Q) : PTs X e t' := ⟨fun pins s σ H Q I q => h.run pins s σ H Q I (i σ H Q q)⟩
def gYes : DT := fun _ _ M Q => Q true M
theorem fts_nil : FTs K X W [] gYes := PTs.imp pts_nil fun σ H Q ⟨F, ρ, M, E, Q', s, x, q, h⟩ => q F H M true (Ext.refl _ _ _) s.mem h
theorem fts_one {c : Expr} {g : DT} (h : FT K X W c g) : FTs K X W [c] g := pts_one h

/-- what a comprehension's one clause does: acc is what has been made -/
def lcD (ok : Mem → Prop) (dg : DG) (tt : DT) (te : DE) (ρw : Dv) : List D → List D → Mem → (List D → Mem → Prop) → Prop
  | [], acc, M, Q => ok M ∧ Q acc M
  | d :: ds, acc, M, Q => ok M ∧ dg d ρw M fun ρ1 M1 => tt E0 ρ1 M1 fun b M2 =>
      if b = true then te E0 ρ1 M2 fun y M3 => acc.length < sizeLine ∧ lcD ok dg tt te ρw ds (acc ++ [y]) M3 Q else lcD ok dg tt te ρw ds acc M2 Q
def nLc (gi : DI) (dg : DG) (tt : DT) (te : DE) (vs : List Nat) : DN := fun E ρ M Q => gi E ρ M fun src M1 => lcD src.ok dg tt te (wipeD ρ vs) src.items [] M1 Q

/-- how the new list at p stands: known to nobody -/
structure Side (K : PySem.W.Frag) (F : Addr → Prop) (H : Hp) (M : Mem) (p : Addr) (acc : List D) : Prop where
  mem : MemOk K F H M
  at_ : ∃ vs, H p = some (.lst vs) ∧ Rps K F H acc vs
  nF : ¬ F p
  nM : M p = none
theorem Side.next {F' : Addr → Prop} {H' : Hp} {M' : Mem} {p : Addr} {acc : List D} (s : Side K F H M p acc) (e : Ext F H M F' H' M') (m : MemOk K F' H' M') : Side K F' H' M' p acc := by
  obtain ⟨vs, h1, h2⟩ := s.at_
  refine ⟨m, ⟨vs, e.frame _ _ h1 s.nM, Rps.mono e _ _ h2⟩, fun f => ?_, ?_⟩
  · rcases e.new p f with z | z | z
    · exact s.nF z
    · exact z s.nM
    · rw [h1] at z; cases z
  · cases q : M' p with
    | none => rfl
    | some o =>
      rcases e.dom p (by rw [q]; exact fun z => nomatch z) with z | z
      · exact absurd s.nM z
      · rw [h1] at z; cases z
theorem Side.more {p : Addr} {acc : List D} {d : D} {v : V} (s : Side K F H M p acc) (r : Rp K F H d v) : ∃ vs, H p = some (.lst vs) ∧ vs.length = acc.length ∧ Side K F (upd H p (.lst (vs ++ [v]))) M p (acc ++ [d]) := by
  obtain ⟨vs, h1, h2⟩ := s.at_
  have w : ExtW F H F (upd H p (.lst (vs ++ [v]))) := ExtW.wr h1 s.nF
  exact ⟨vs, h1, h2.length, s.mem.side h1 s.nF s.nM, ⟨vs ++ [v], upd_same, Rps.append (Rps.mono w _ _ h2) (Rps.cons (Rp.mono w _ _ r) Rps.nil)⟩, s.nF, s.nM⟩

/-- one clause's loop, from what the heap is at its start (Fs, Hs, Ms); F1 H1 M1: ahead of the new list at p -/
theorem lc_loop {J : It} {src : Src} {vs ws : List Nat} {dg : DG} {tt : DT} {te : DE} {F1 : Addr → Prop} {H1 Hs : Hp} {M1 Ms : Mem} {Fs : Addr → Prop} {p : Addr} {ρw : Dv} {σw : L2.St} {acc0 : List D} {Q' : List D → Mem → Prop} {Qe : Hp → Prop}
    (so : SrcOk K Fs Hs J src) (hs : ∀ i ∈ vs, i ∈ ws) (hw : L2.wipe σw ws = σw) (hp : H1 p = none) (es : Ext F1 H1 M1 Fs Hs Ms) (env : EnvOk K Fs Hs ρw σw) (hl : ρw.length = σw.length) (sd : Side K Fs Hs Ms p acc0)
    (q : ∀ F' H' M' acc, Ext F1 H1 M1 F' H' M' → ExtW Fs Hs F' H' → Side K F' H' M' p acc → Q' acc M' → Qe H') (h : lcD src.ok dg tt te ρw src.items acc0 Ms Q') :
    ∃ Wv : Nat → Nat → Hp → Prop, (∃ m, Wv 0 m Hs) ∧ ∀ i m H, Wv i m H → (J.stop i H ∧ Qe H) ∨ (J.go i H ∧ ∃ Nx : Hp → Prop, (∀ H', Nx H' → ∃ m', m' < m ∧ Wv (i + 1) m' H') ∧
      ∀ x H', J.yld i H x H' → gG K vs dg x σw H' fun σ2 H2 => L2.wipe σ2 ws = σw ∧ tGt K W0 tt σ2 H2 fun b H3 =>
        if b = true then tG K W0 te σ2 H3 fun y H4 => ∃ acc, H4 p = some (.lst acc) ∧ acc.length < sizeLine ∧ Nx (upd H4 p (.lst (acc ++ [y]))) else Nx H3) := by
  refine ⟨fun i m H2 => ∃ F2 M2 acc, Ext F1 H1 M1 F2 H2 M2 ∧ ExtW Fs Hs F2 H2 ∧ Side K F2 H2 M2 p acc ∧ i ≤ src.items.length ∧ m = src.items.length - i ∧ lcD src.ok dg tt te ρw (src.items.drop i) acc M2 Q', ⟨src.items.length, Fs, Ms, acc0, es, ExtW.refl _ _, sd, Nat.zero_le _, rfl, h⟩, ?_⟩
  rintro i m H2 ⟨F2, M2, acc, e2, n2, s2, hl2, rfl, h2⟩
  by_cases hlt : i < src.items.length
  · rw [List.drop_eq_getElem_cons hlt] at h2
    unfold lcD at h2
    obtain ⟨o, h2⟩ := h2
    obtain ⟨go, yl⟩ := (so F2 H2 M2 n2 s2.mem o i).1 src.items[i] (by simp [hlt])
    refine .inr ⟨go, fun H3 => ∃ F3 M3 acc, Ext F1 H1 M1 F3 H3 M3 ∧ ExtW Fs Hs F3 H3 ∧ Side K F3 H3 M3 p acc ∧ lcD src.ok dg tt te ρw (src.items.drop (i + 1)) acc M3 Q', ?_, fun v H3 y => ?_⟩
    · rintro H3 ⟨F3, M3, acc3, e3, n3, s3, h3⟩
      exact ⟨src.items.length - (i + 1), by omega, F3, M3, acc3, e3, n3, s3, hlt, rfl, h3⟩
    · obtain ⟨F3, e3, m3, r3⟩ := yl v H3 y
      refine ⟨F3, ρw, M2, _, _, ⟨env.mono (n2.trans e3.toExtW), m3, hl⟩, r3, fun F4 H4 ρ4 M4 σ4 e4 s4 c4 h4 => ?_, h2⟩
      have e24 := e3.trans e4
      refine ⟨(c4.wipe hs).trans hw, F4, ρ4, M4, E0, _, s4, x0, fun F5 H5 M5 b e5 m5 h5 => ?_, h4⟩
      have e25 := e24.trans e5
      cases b with
      | false =>
        have h5' : lcD src.ok dg tt te ρw (src.items.drop (i + 1)) acc M5 Q' := h5
        exact iteF ⟨F5, M5, acc, e2.trans e25, n2.trans e25.toExtW, s2.next e25 m5, h5'⟩
      | true =>
        have h5' := (if_pos rfl).mp h5
        refine iteT (tG_mk (s4.next e5 m5) x0 (fun F6 H6 M6 d v6 e6 m6 r6 ⟨hz, h6⟩ => ?_) h5')
        have e26 := e25.trans e6
        obtain ⟨us, g1, g2, g3⟩ := (s2.next e26 m6).more r6
        exact ⟨us, g1, by rw [g2]; exact hz, F6, M6, acc ++ [d], (e2.trans e26).side hp, (n2.trans e26.toExtW).trans (ExtW.wr g1 (s2.next e26 m6).nF), g3, h6⟩
  · have z : i = src.items.length := by omega
    subst z
    rw [List.drop_length] at h2
    unfold lcD at h2
    exact .inl ⟨(so F2 H2 M2 n2 s2.mem h2.1 _).2 (Nat.le_refl _), q F2 H2 M2 acc e2 n2 s2 h2.2⟩

theorem Side.start {p : Addr} (m : MemOk K F H M) (hp : H p = none) : Side K F (upd H p (.lst [])) M p [] := ⟨m.aside hp _, ⟨[], upd_same, Rps.nil⟩, (m.fresh hp).1, (m.fresh hp).2⟩
theorem lc_im {gi : DI} {dg : DG} {tt : DT} {te : DE} {vs ws : List Nat} (hs : ∀ i ∈ vs, i ∈ ws) : ∀ σ H Q, tN K W (nLc gi dg tt te ws) σ H Q → tLc (tGi K W gi) (gG K vs dg) (tGt K W0 tt) (tG K W0 te) ws σ H Q := fun σ H Q ⟨F, ρ, M, E, Q', s, x, q, h⟩ => by
  refine ⟨F, ρ, M, E, _, s, x, fun F1 H1 M1 J src e1 m1 so h1 p hp => ?_, h⟩
  have s1 := s.next e1 m1
  have l1 : Ext F1 H1 M1 F1 (upd H1 p (.lst [])) M1 := Ext.laid hp fun _ z => z
  refine lc_loop (fun F' H' M' e => so F' H' M' (l1.toExtW.trans e)) hs wipe_wipe hp l1 ((s1.env.mono l1).wipe ws) (by rw [wipeD_length, wipe_length]; exact s1.len) (Side.start m1 hp) (fun F2 H2 M2 acc e2 n2 s2 h2 => ?_) h1
  obtain ⟨us, g1, g2⟩ := s2.at_
  exact q F2 H2 M2 acc us p (e1.trans e2) s2.mem (e1.was hp) g1 s2.nF s2.nM g2 h2
variable {elt tg iter tg1 iter1 : Expr} {ifs ifs1 : List Expr} {scope : Scope} {own : List (Str × Nat)} {pos : Pos} {gi gi1 : DI} {vs vs1 : List Nat} {dg dg1 : DG} {tt tt1 : DT} {te : DE}
theorem fn_lc (hN : X.N.Nodup) (hi : FI K X W tg iter gi) (ok : BlkOk X.N X.env.scope scope own)
    (hg : ∀ (s : Shared) (H : Hp) (C : Addr) (cl : List (Str × Addr)) (fp : List Addr), FG K (X.blk s H scope (compEnvC scope cl C X.env) fp) tg vs dg) (ht : ∀ (s : Shared) (H : Hp) (C : Addr) (cl : List (Str × Addr)) (fp : List Addr), FTs K (X.blk s H scope (compEnvC scope cl C X.env) fp) W0 ifs tt)
    (he : ∀ (s : Shared) (H : Hp) (C : Addr) (cl : List (Str × Addr)) (fp : List Addr), FE K (X.blk s H scope (compEnvC scope cl C X.env) fp) W0 elt te) (hv : ∀ i ∈ vs, i ∈ own.map (·.2) := by decide) (hc : X.calm = true := by rfl) (hs : ∀ x, foldedSetIterable iter X.env x = pure x := by intro _; rfl) :
    FN K X W (.ListComp elt [⟨tg, iter, ifs, 0⟩] scope pos) (nLc gi dg tt te (own.map (·.2))) := PE.imp (pe_lc hc hN hi ok hg ht he hs) (lc_im hv)
/-- name = [..]: the list frozen (fz) or kept in the store -/
theorem fs_setLc (i : Nat) {y : Str} {py spos : Pos} {g : DE} (hN : X.N.Nodup) (hi : FI K X W tg iter gi) (ok : BlkOk X.N X.env.scope scope own)
    (hg : ∀ (s : Shared) (H : Hp) (C : Addr) (cl : List (Str × Addr)) (fp : List Addr), FG K (X.blk s H scope (compEnvC scope cl C X.env) fp) tg vs dg) (ht : ∀ (s : Shared) (H : Hp) (C : Addr) (cl : List (Str × Addr)) (fp : List Addr), FTs K (X.blk s H scope (compEnvC scope cl C X.env) fp) W0 ifs tt)
    (he : ∀ (s : Shared) (H : Hp) (C : Addr) (cl : List (Str × Addr)) (fp : List Addr), FE K (X.blk s H scope (compEnvC scope cl C X.env) fp) W0 elt te) (hz : ∀ σ H Q, tG K W g σ H Q → tN K W (nLc gi dg tt te (own.map (·.2))) σ H Q)
    (hv : ∀ i ∈ vs, i ∈ own.map (·.2) := by decide) (hc : X.calm = true := by rfl) (hs : ∀ x, foldedSetIterable iter X.env x = pure x := by intro _; rfl)
    (hy : X.N[i]? = some y := by rfl) (hyl : X.env.scope.names.lookup y = some .local := by rfl) (hsw : swapsWith (.ListComp elt [⟨tg, iter, ifs, 0⟩] scope pos) (some (.Name y py)) spos.line X.env = pure true := by exact sw_true rfl rfl rfl (by decide +kernel)) :
    FS K X W (.Assign [.Name y py] (.ListComp elt [⟨tg, iter, ifs, 0⟩] scope pos) spos) (sSet i g) :=
  PS.imp (ps_setLc hc hN hy hyl hsw hi ok hg ht he hs) fun D σ H ⟨F, ρ, M, E', s, x, h⟩ => lc_im hv σ H _ (hz σ H _ (tG_mk s (x.ex.at_ s) (fun F1 H1 M1 d v e1 m1 r1 h1 => x.nx F1 H1 _ M1 _ e1 ((s.next e1 m1).set i r1) h1) h))

/-! two clauses -/
def lcD2 (ok : Mem → Prop) (dg : DG) (tt : DT) (gi1 : DI) (dg1 : DG) (tt1 : DT) (te : DE) (vs1 : List Nat) (ρw : Dv) : List D → List D → Mem → (List D → Mem → Prop) → Prop
  | [], acc, M, Q => ok M ∧ Q acc M
  | d :: ds, acc, M, Q => ok M ∧ dg d ρw M fun ρ1 M1 => tt E0 ρ1 M1 fun b M2 =>
      if b = true then gi1 E0 ρ1 M2 fun src1 M3 => lcD src1.ok dg1 tt1 te (wipeD ρ1 vs1) src1.items acc M3 fun acc' M4 => lcD2 ok dg tt gi1 dg1 tt1 te vs1 ρw ds acc' M4 Q else lcD2 ok dg tt gi1 dg1 tt1 te vs1 ρw ds acc M2 Q
def nLc2 (gi : DI) (dg : DG) (tt : DT) (gi1 : DI) (dg1 : DG) (tt1 : DT) (te : DE) (vs vs1 : List Nat) : DN := fun E ρ M Q => gi E ρ M fun src M1 => lcD2 src.ok dg tt gi1 dg1 tt1 te vs1 (wipeD ρ vs) src.items [] M1 Q
theorem lc2_im {ws ws1 : List Nat} (hs : ∀ i ∈ vs, i ∈ ws) (hs1 : ∀ i ∈ vs1, i ∈ ws1) : ∀ σ H Q, tN K W (nLc2 gi dg tt gi1 dg1 tt1 te ws ws1) σ H Q → tLc2 (tGi K W gi) (gG K vs dg) (tGt K W0 tt) (tGi K W0 gi1) (gG K vs1 dg1) (tGt K W0 tt1) (tG K W0 te) ws ws1 σ H Q := fun σ H Q ⟨F, ρ, M, E, Q', s, x, q, h⟩ => by
  refine ⟨F, ρ, M, E, _, s, x, fun F1 H1 M1 J src e1 m1 so h1 p hp => ?_, h⟩
  have s1 := s.next e1 m1
  have l1 : Ext F1 H1 M1 F1 (upd H1 p (.lst [])) M1 := Ext.laid hp fun _ z => z
  have hl : (wipeD ρ ws).length = (L2.wipe σ ws).length := by rw [wipeD_length, wipe_length]; exact s1.len
  refine ⟨fun i m H2 => ∃ F2 M2 acc, Ext F1 H1 M1 F2 H2 M2 ∧ ExtW F1 H1 F2 H2 ∧ Side K F2 H2 M2 p acc ∧ i ≤ src.items.length ∧ m = src.items.length - i ∧ lcD2 src.ok dg tt gi1 dg1 tt1 te ws1 (wipeD ρ ws) (src.items.drop i) acc M2 Q',
    ⟨src.items.length, F1, M1, [], l1, l1.toExtW, Side.start m1 hp, Nat.zero_le _, rfl, h1⟩, ?_⟩
  rintro i m H2 ⟨F2, M2, acc, e2, n2, s2, hl2, rfl, h2⟩
  by_cases hlt : i < src.items.length
  · rw [List.drop_eq_getElem_cons hlt] at h2
    unfold lcD2 at h2
    obtain ⟨o, h2⟩ := h2
    obtain ⟨go, yl⟩ := (so F2 H2 M2 n2 s2.mem o i).1 src.items[i] (by simp [hlt])
    refine .inr ⟨go, fun H3 => ∃ F3 M3 acc, Ext F1 H1 M1 F3 H3 M3 ∧ ExtW F1 H1 F3 H3 ∧ Side K F3 H3 M3 p acc ∧ lcD2 src.ok dg tt gi1 dg1 tt1 te ws1 (wipeD ρ ws) (src.items.drop (i + 1)) acc M3 Q', ?_, fun v H3 y => ?_⟩
    · rintro H3 ⟨F3, M3, acc3, e3, n3, s3, h3⟩
      exact ⟨src.items.length - (i + 1), by omega, F3, M3, acc3, e3, n3, s3, hlt, rfl, h3⟩
    · obtain ⟨F3, e3, m3, r3⟩ := yl v H3 y
      refine ⟨F3, wipeD ρ ws, M2, _, _, ⟨(s1.env.wipe ws).mono (n2.trans e3.toExtW), m3, hl⟩, r3, fun F4 H4 ρ4 M4 σ4 e4 s4 c4 h4 => ?_, h2⟩
      have e24 := e3.trans e4
      refine ⟨(c4.wipe hs).trans wipe_wipe, F4, ρ4, M4, E0, _, s4, x0, fun F5 H5 M5 b e5 m5 h5 => ?_, h4⟩
      have e25 := e24.trans e5
      cases b with
      | false =>
        have h5' : lcD2 src.ok dg tt gi1 dg1 tt1 te ws1 (wipeD ρ ws) (src.items.drop (i + 1)) acc M5 Q' := h5
        exact iteF ⟨F5, M5, acc, e2.trans e25, n2.trans e25.toExtW, s2.next e25 m5, h5'⟩
      | true =>
        have h5' := (if_pos rfl).mp h5
        have s5 := s4.next e5 m5
        refine iteT ⟨F5, ρ4, M5, E0, _, s5, x0, fun F6 H6 M6 J1 src1 e6 m6 so1 h6 => ?_, h5'⟩
        have e26 := e25.trans e6
        have s6 := s5.next e6 m6
        -- the inner clause: its loop is lc_loop's, the new list known to nobody
        exact lc_loop so1 hs1 wipe_wipe hp (e2.trans e26) (s6.env.wipe ws1) (by rw [wipeD_length, wipe_length]; exact s6.len) (s2.next e26 m6) (fun F7 H7 M7 acc7 e7 w7 s7 h7 => ⟨F7, M7, acc7, e7, (n2.trans e26.toExtW).trans w7, s7, h7⟩) h6
  · have z : i = src.items.length := by omega
    subst z
    rw [List.drop_length] at h2
    unfold lcD2 at h2
    obtain ⟨us, g1, g2⟩ := s2.at_
    exact .inl ⟨(so F2 H2 M2 n2 s2.mem h2.1 _).2 (Nat.le_refl _), q F2 H2 M2 acc us p (e1.trans e2) s2.mem (e1.was hp) g1 s2.nF s2.nM g2 h2.2⟩
theorem fn_lc2 (hN : X.N.Nodup) (hi : FI K X W tg iter gi) (ok : BlkOk X.N X.env.scope scope own) {ws1 : List Nat}
    (hg : ∀ (s : Shared) (H : Hp) (C : Addr) (cl : List (Str × Addr)) (fp : List Addr), FG K (X.blk s H scope (compEnvC scope cl C X.env) fp) tg vs dg) (ht : ∀ (s : Shared) (H : Hp) (C : Addr) (cl : List (Str × Addr)) (fp : List Addr), FTs K (X.blk s H scope (compEnvC scope cl C X.env) fp) W0 ifs tt)
    (hi1 : ∀ (s : Shared) (H : Hp) (C : Addr) (cl : List (Str × Addr)) (fp : List Addr), FI K (X.blk s H scope (compEnvC scope cl C X.env) fp) W0 tg1 iter1 gi1)
    (hg1 : ∀ (s : Shared) (H : Hp) (C : Addr) (cl : List (Str × Addr)) (fp : List Addr), FG K (X.blk s H scope (compEnvC scope cl C X.env) fp) tg1 vs1 dg1) (ht1 : ∀ (s : Shared) (H : Hp) (C : Addr) (cl : List (Str × Addr)) (fp : List Addr), FTs K (X.blk s H scope (compEnvC scope cl C X.env) fp) W0 ifs1 tt1)
    (he : ∀ (s : Shared) (H : Hp) (C : Addr) (cl : List (Str × Addr)) (fp : List Addr), FE K (X.blk s H scope (compEnvC scope cl C X.env) fp) W0 elt te) (hv : ∀ i ∈ vs, i ∈ own.map (·.2) := by decide) (hv1 : ∀ i ∈ vs1, i ∈ ws1 := by decide) (hw1 : ∀ i ∈ ws1, i ∈ own.map (·.2) := by decide)
    (hc : X.calm = true := by rfl) (hs : ∀ x, foldedSetIterable iter X.env x = pure x := by intro _; rfl) (hs1 : ∀ env x, foldedSetIterable iter1 env x = pure x := by intro _ _; rfl) :
    FN K X W (.ListComp elt [⟨tg, iter, ifs, 0⟩, ⟨tg1, iter1, ifs1, 0⟩] scope pos) (nLc2 gi dg tt gi1 dg1 tt1 te (own.map (·.2)) ws1) := PE.imp (pe_lc2 hc hN hi ok hw1 hg ht hi1 hg1 ht1 he hs hs1) (lc2_im hv hv1)
end
end DL

/-! DL5: operators, built-in functions, methods of lists, stores, by deep values. -/
namespace DL
open PySem PySem.Spec L2

section
variable {K : PySem.W.Frag} {X : Cx} {W : WX} {F : Addr → Prop} {H : Hp} {ρ : Dv} {M : Mem} {σ : L2.St}
/-! ### views -/
/-- the items of a list, frozen or in the store -/
def asL (M : Mem) : D → Option (List D)
  | .lst ds => some ds
  | .ref a => match M a with
    | some (.lst ds) => some ds
    | _ => none
  | _ => none
def onL (M : Mem) (d : D) (k : List D → Prop) : Prop := match asL M d with
  | some ds => k ds
  | none => False
theorem onL_ref {a : Addr} {ds : List D} {k : List D → Prop} (e : M a = some (.lst ds)) (h : k ds) : onL M (.ref a) k := by
  unfold onL asL
  simp only [e]
  exact h
theorem onL_lst {ds : List D} {k : List D → Prop} (h : k ds) : onL M (.lst ds) k := h
theorem onL_at {d : D} {v : V} {k : List D → Prop} (m : MemOk K F H M) (r : Rp K F H d v) (h : onL M d k) : ∃ ds a vs, asL M d = some ds ∧ k ds ∧ v = .ref a ∧ H a = some (.lst vs) ∧ Rps K F H ds vs := by
  unfold onL at h
  cases q : asL M d with
  | none => rw [q] at h; exact h.elim
  | some ds =>
    rw [q] at h
    have h' : k ds := h
    cases d with
    | lst es =>
      have q' : some es = some ds := q
      cases q'
      unfold Rp at r
      obtain ⟨a, vs, e, h1, _, h2⟩ := r
      exact ⟨_, a, vs, rfl, h', e, h1, h2⟩
    | ref a =>
      have q' : (match M a with | some (.lst ds) => some ds | _ => none) = some ds := q
      cases z : M a with
      | none => rw [z] at q'; cases q'
      | some o =>
        rw [z] at q'
        cases o with
        | ins C fs => cases q'
        | lst es =>
          cases q'
          obtain ⟨vs, h1, h2⟩ := (m.at_ a _ z).2
          unfold Rp at r
          exact ⟨ds, a, vs, rfl, h', r, h1, h2⟩
    | _ => cases q
/-- the items of a sequence and what it is in the heap -/
def onS (M : Mem) (d : D) (k : List D → Prop) : Prop := match srcOf M d with
  | some s => k s.items
  | none => False
theorem onS_ref {a : Addr} {ds : List D} {k : List D → Prop} (e : M a = some (.lst ds)) (h : k ds) : onS M (.ref a) k := by
  unfold onS srcOf
  simp only [e]
  exact h
theorem onS_at {d : D} {v : V} {k : List D → Prop} (m : MemOk K F H M) (r : Rp K F H d v) (h : onS M d k) : ∃ ds a vs, k ds ∧ v = .ref a ∧ (SqL K H a vs ∨ TupAt K H a vs) ∧ Rps K F H ds vs := by
  unfold onS at h
  cases q : srcOf M d with
  | none => rw [q] at h; exact h.elim
  | some s =>
    rw [q] at h
    obtain ⟨o, kk, a, e, sa⟩ := src_at m r q
    obtain ⟨vs, h1, h2⟩ := sa F H M (ExtW.refl _ _) m o
    refine ⟨s.items, a, vs, h, e, ?_, h2⟩
    cases kk with
    | l => exact .inl h1
    | t => exact .inr h1

/-! ### ints -/
def dI (C : Int → Int → Prop) (g : Int → Int → D) : DR2
  | .int i, .int j, M, Q => C i j ∧ Q (g i j) M
  | _, _, _, _ => False
def dI0 (g : Int → Int → D) : DR2
  | .int i, .int j, M, Q => Q (g i j) M
  | _, _, _, _ => False
theorem Rp.int_inv {i : Int} {v : V} (r : Rp K F H (.int i) v) : v = .int i := by unfold Rp at r; exact r
theorem Rp.bl_inv {i : Bool} {v : V} (r : Rp K F H (.bl i) v) : v = .bl i := by unfold Rp at r; exact r
theorem od_I {f : Value → Value → Sem Value} {C : Int → Int → Prop} {g : Int → Int → D} {g' : Int → Int → V} (h : OpR X f (rI C g')) (hg : ∀ i j F H, Rp K F H (g i j) (g' i j)) : OpD K X f (dI C g) :=
  OpR.imp h fun x y H Q ⟨F, M, d, e, Q', m, r1, r2, q, h⟩ => by
    cases d with
    | int i =>
      cases e with
      | int j => exact ⟨i, j, r1.int_inv, r2.int_inv, h.1, q F H M _ _ (Ext.refl _ _ _) m (hg i j F H) h.2⟩
      | _ => exact h.elim
    | _ => exact h.elim
theorem od_I0 {f : Value → Value → Sem Value} {g : Int → Int → D} {g' : Int → Int → V} (h : OpR X f (rI0 g')) (hg : ∀ i j F H, Rp K F H (g i j) (g' i j)) : OpD K X f (dI0 g) :=
  OpR.imp h fun x y H Q ⟨F, M, d, e, Q', m, r1, r2, q, h⟩ => by
    cases d with
    | int i =>
      cases e with
      | int j => exact ⟨i, j, r1.int_inv, r2.int_inv, q F H M _ _ (Ext.refl _ _ _) m (hg i j F H) h⟩
      | _ => exact h.elim
    | _ => exact h.elim
abbrev dAddI : DR2 := dI0 fun i j => .int (i + j)
abbrev dSub : DR2 := dI0 fun i j => .int (i - j)
abbrev dMul : DR2 := dI CMulW fun i j => .int (i * j)
abbrev dFdiv : DR2 := dI CDivW fun i j => .int (i / j)
abbrev dMod : DR2 := dI (fun _ j => 0 < j) fun i j => .int (i % j)
abbrev dPow : DR2 := dI CPow fun i j => .int (i ^ j.toNat)
abbrev dLt : DR2 := dI0 fun i j => .bl (decide (i < j))
abbrev dLe : DR2 := dI0 fun i j => .bl (decide (i ≤ j))
abbrev dGt : DR2 := dI0 fun i j => .bl (decide (j < i))
abbrev dGe : DR2 := dI0 fun i j => .bl (decide (j ≤ i))
theorem od_addI : OpD K X (binaryOp .Add) dAddI := od_I0 op_add fun _ _ _ _ => Rp.int
theorem od_sub : OpD K X (binaryOp .Sub) dSub := od_I0 op_sub fun _ _ _ _ => Rp.int
theorem od_mul : OpD K X (binaryOp .Mult) dMul := od_I op_mulW fun _ _ _ _ => Rp.int
theorem od_fdiv : OpD K X (binaryOp .FloorDiv) dFdiv := od_I op_fdivW fun _ _ _ _ => Rp.int
theorem od_mod : OpD K X (binaryOp .Mod) dMod := od_I op_mod fun _ _ _ _ => Rp.int
theorem od_pow : OpD K X (binaryOp .Pow) dPow := od_I op_pow fun _ _ _ _ => Rp.int
theorem od_lt : OpD K X (compareOp .Lt) dLt := od_I0 op_lt fun _ _ _ _ => Rp.bl
theorem od_le : OpD K X (compareOp .LtE) dLe := od_I0 op_le fun _ _ _ _ => Rp.bl
theorem od_gt : OpD K X (compareOp .Gt) dGt := od_I0 op_gt fun _ _ _ _ => Rp.bl
theorem od_ge : OpD K X (compareOp .GtE) dGe := od_I0 op_ge fun _ _ _ _ => Rp.bl
def dU (g : Int → D) : DR1
  | .int i, M, Q => Q (g i) M
  | _, _, _ => False
abbrev dNeg : DR1 := dU fun i => .int (-i)
theorem ud_neg : UnD K X (unaryOp .USub) dNeg := UnR.imp un_neg fun x H Q ⟨F, M, d, Q', m, r, q, h⟩ => by
  cases d with
  | int i => exact ⟨i, r.int_inv, q F H M _ _ (Ext.refl _ _ _) m Rp.int h⟩
  | _ => exact h.elim

/-! ### + of lists and tuples -/
/-- an operator whose outcome is a new list -/
def rN (K : PySem.W.Frag) (rd : D → D → Mem → (List D → Mem → Prop) → Prop) : R2 := fun x y H Q => ∃ F M d e Q', MemOk K F H M ∧ Rp K F H d x ∧ Rp K F H e y ∧
  (∀ F' H' M' ds vs p, Ext F H M F' H' M' → MemOk K F' H' M' → (M p ≠ none ∨ H p = none) → H' p = some (.lst vs) → ¬ F' p → M' p = none → Rps K F' H' ds vs → Q' ds M' → Q (.ref p) H') ∧ rd d e M Q'
abbrev DRN2 := D → D → Mem → (List D → Mem → Prop) → Prop
def OpN (K : PySem.W.Frag) (X : Cx) (f : Value → Value → Sem Value) (rd : DRN2) : Prop := OpR X f (rN K rd)
def nOp (rd : DRN2) (ga gb : DE) : DN := fun E ρ M Q => ga E ρ M fun x M1 => gb E ρ M1 fun y M2 => rd x y M2 Q
theorem fn_op {op : Operator} {a b : Expr} {ga gb : DE} {pos : Pos} {rd : DRN2} (ho : OpN K X (binaryOp op) rd) (ha : FE K X W a ga) (hb : FE K X W b gb) : FN K X W (.BinOp a op b pos) (nOp rd ga gb) :=
  PE.imp (pe_op ho ha hb) fun σ H Q ⟨F, ρ, M, E, Q', s, x, q, h⟩ => two (R := fun v u H2 => rN K rd v u H2 Q) s x h fun F2 H2 M2 d e v u e2 m2 r1 r2 h2 => ⟨F2, M2, d, e, Q', m2, r1, r2,
    fun F3 H3 M3 ds vs p e3 m3 wp => q F3 H3 M3 ds vs p (e2.trans e3) m3 (wp.elim (fun z => e2.dom p z) fun z => e2.was z), h2⟩
def nCat : DRN2 := fun x y M Q => onL M x fun a => onL M y fun b => a.length + b.length ≤ sizeLine ∧ Q (a ++ b) M
theorem on_cat : OpN K X (binaryOp .Add) nCat := OpR.imp op_cat fun x y H Q ⟨F, M, d, e, Q', m, r1, r2, q, h⟩ => by
  obtain ⟨as, a, vs, _, h, rfl, ha, ra⟩ := onL_at m r1 h
  obtain ⟨bs, b, ws, _, h, rfl, hb, rb⟩ := onL_at m r2 h
  refine ⟨a, b, vs, ws, rfl, rfl, ha, hb, by rw [ra.length, rb.length]; exact h.1, fun p hp => ?_⟩
  exact newL (Ext.refl _ _ _) m (Rps.append ra rb) hp q h.2
def nRep : DRN2 := fun x y M Q => onL M x fun a => match y with
  | .int k => (-(2 ^ 63) ≤ k ∧ k < 2 ^ 63 ∧ a.length * k.toNat ≤ sizeLine) ∧ Q (List.replicate k.toNat a).flatten M
  | _ => False
theorem on_rep : OpN K X (binaryOp .Mult) nRep := OpR.imp op_rep fun x y H Q ⟨F, M, d, e, Q', m, r1, r2, q, h⟩ => by
  obtain ⟨as, a, vs, _, h, rfl, ha, ra⟩ := onL_at m r1 h
  cases e with
  | int k =>
    obtain ⟨⟨h1, h2, h3⟩, h⟩ := h
    exact ⟨a, k, vs, rfl, r2.int_inv, ha, h1, h2, by rw [ra.length]; exact h3, fun p hp => newL (Ext.refl _ _ _) m (ra.rep k.toNat) hp q h⟩
  | _ => exact h.elim
/-- + of ints, of lists (the new list frozen), of tuples, of texts -/
def dAdd : DR2
  | .int i, .int j, M, Q => Q (.int (i + j)) M
  | .tup a, .tup b, M, Q => a.length + b.length ≤ sizeLine ∧ Q (.tup (a ++ b)) M
  | .str a, .str b, M, Q => a.length + b.length ≤ sizeLine ∧ Q (.str (a ++ b)) M
  | .lst a, y, M, Q => onL M y fun b => a.length + b.length ≤ sizeLine ∧ Q (.lst (a ++ b)) M
  | .ref r, y, M, Q => onL M (.ref r) fun a => onL M y fun b => a.length + b.length ≤ sizeLine ∧ Q (.lst (a ++ b)) M
  | _, _, _, _ => False
theorem newF {F1 : Addr → Prop} {H1 : Hp} {M1 : Mem} {ds : List D} {vs : List V} {Q : VK} {Q' : DVK} {p : Addr} (e1 : Ext F H M F1 H1 M1) (m1 : MemOk K F1 H1 M1) (r1 : Rps K F1 H1 ds vs) (hp : H1 p = none) (q : VOk K F H M Q' Q) (h : Q' (.lst ds) M1) : Q (.ref p) (upd H1 p (.lst vs)) :=
  newL (Q' := fun ds M => Q' (.lst ds) M) e1 m1 r1 hp (fun F' H' M' ds vs p e m wp hp nF nM r h' => by
    refine q (fun a => F' a ∨ a = p) H' M' (.lst ds) (.ref p) (e.frzAt wp) (m.freeze hp nM) ?_ h'
    unfold Rp
    exact ⟨p, vs, rfl, hp, .inr rfl, Rps.mono (ExtW.grow fun _ z => .inl z) _ _ r⟩) h
theorem newT {F1 : Addr → Prop} {H1 : Hp} {M1 : Mem} {ds : List D} {vs : List V} {Q : VK} {Q' : DVK} {p : Addr} {o : HO} (e1 : Ext F H M F1 H1 M1) (m1 : MemOk K F1 H1 M1) (r1 : Rps K F1 H1 ds vs) (hp : H1 p = none) (po : DLT.PT vs o) (q : VOk K F H M Q' Q) (h : Q' (.tup ds) M1) : Q (.ref p) (upd H1 p o) := by
  refine q F1 (upd H1 p o) M1 (.tup ds) (.ref p) (e1.trans (Ext.laid hp fun _ z => z)) (m1.aside hp _) ?_ h
  unfold Rp
  exact ⟨p, vs, rfl, .inl ⟨o, po, upd_same⟩, Rps.mono (Ext.laid (M := M1) hp fun _ z => z).toExtW _ _ r1⟩
theorem od_add (hK : X.K = K) : OpD K X (binaryOp .Add) dAdd := by
  subst hK
  refine OpR.imp (OpR.or op_add (OpR.or op_cat (OpR.or DLT.op_catP op_add_str))) fun x y H Q ⟨F, M, d, e, Q', m, r1, r2, q, h⟩ => ?_
  have lists : ∀ {d : D}, (onL M d fun a => onL M e fun b => a.length + b.length ≤ sizeLine ∧ Q' (.lst (a ++ b)) M) → Rp X.K F H d x → rCat x y H Q := fun {d} h r1 => by
    obtain ⟨as, a, vs, _, h, rfl, ha, ra⟩ := onL_at m r1 h
    obtain ⟨bs, b, ws, _, h, rfl, hb, rb⟩ := onL_at m r2 h
    exact ⟨a, b, vs, ws, rfl, rfl, ha, hb, by rw [ra.length, rb.length]; exact h.1, fun p hp => newF (Ext.refl _ _ _) m (Rps.append ra rb) hp q h.2⟩
  cases d with
  | int i =>
    cases e with
    | int j => exact .inl ⟨i, j, r1.int_inv, r2.int_inv, q F H M _ _ (Ext.refl _ _ _) m Rp.int h⟩
    | _ => exact h.elim
  | str i =>
    cases e with
    | str j =>
      unfold Rp at r1 r2
      exact .inr (.inr (.inr ⟨i, j, r1, r2, h.1, q F H M _ _ (Ext.refl _ _ _) m Rp.str h.2⟩))
    | _ => exact h.elim
  | tup as =>
    cases e with
    | tup bs =>
      obtain ⟨h2, h3⟩ := h
      have rr1 := r1
      have rr2 := r2
      unfold Rp at r1 r2
      obtain ⟨a, vs, rfl, qa, ra⟩ := r1
      obtain ⟨b, ws, rfl, qb, rb⟩ := r2
      have nil : ∀ {ds : List D} {us : List V}, Rps X.K F H ds us → us = [] → ds = [] := fun {ds us} r z => by
        have := r.length
        rw [z] at this
        exact List.eq_nil_of_length_eq_zero this.symm
      refine .inr (.inr (.inl ⟨a, b, vs, ws, rfl, rfl, qa.sq, qb.sq, by rw [ra.length, rb.length]; exact h2, fun z => ?_, fun _ z => ?_, fun _ _ p o hp po => newT (Ext.refl _ _ _) m (Rps.append ra rb) hp po q h3⟩))
      · rw [nil ra z, List.nil_append] at h3
        exact q F H M _ _ (Ext.refl _ _ _) m rr2 h3
      · rw [nil rb z, List.append_nil] at h3
        exact q F H M _ _ (Ext.refl _ _ _) m rr1 h3
    | _ => exact h.elim
  | lst as =>
    refine .inr (.inl (lists (d := .lst as) ?_ r1))
    cases e <;> exact h
  | ref a =>
    refine .inr (.inl (lists (d := .ref a) ?_ r1))
    cases e <;> exact h
  | _ => cases e <;> exact h.elim

/-! ### == and != -/
mutual
/-- the plain data that a deep value is, lists of the store read -/
inductive Vw (M : Mem) : D → PyData → Prop
  | non : Vw M .non .none
  | bl (b : Bool) : Vw M (.bl b) (.bool b)
  | int (i : Int) : Vw M (.int i) (.int i)
  | str (x : Str) : Vw M (.str x) (.str x)
  | tup {ds : List D} {ps : List PyData} : Vws M ds ps → Vw M (.tup ds) (.tuple ps)
  | lst {ds : List D} {ps : List PyData} : Vws M ds ps → Vw M (.lst ds) (.list ps)
  | ref {a : Addr} {ds : List D} {ps : List PyData} : M a = some (.lst ds) → Vws M ds ps → Vw M (.ref a) (.list ps)
inductive Vws (M : Mem) : List D → List PyData → Prop
  | nil : Vws M [] []
  | cons {d : D} {p : PyData} {ds : List D} {ps : List PyData} : Vw M d p → Vws M ds ps → Vws M (d :: ds) (p :: ps)
end
mutual
theorem Vw.dp (m : MemOk K F H M) : ∀ {d : D} {p : PyData} {v : V}, Vw M d p → Rp K F H d v → Dp K H v p
  | _, _, v, .non, r => by unfold Rp at r; subst r; exact Dp.non
  | _, _, v, .bl b, r => by unfold Rp at r; subst r; exact Dp.bl b
  | _, _, v, .int b, r => by unfold Rp at r; subst r; exact Dp.int b
  | _, _, v, .str b, r => by unfold Rp at r; subst r; exact Dp.str b
  | _, _, v, .tup h, r => by
    unfold Rp at r
    obtain ⟨a, vs, rfl, q, rr⟩ := r
    exact Dp.tup q.sq (Vws.dp m h rr)
  | _, _, v, .lst h, r => by
    unfold Rp at r
    obtain ⟨a, vs, rfl, q, _, rr⟩ := r
    exact Dp.lst (SqL.of q) (Vws.dp m h rr)
  | _, _, v, .ref e h, r => by
    obtain ⟨vs, h1, h2⟩ := (m.at_ _ _ e).2
    unfold Rp at r
    subst r
    exact Dp.lst (SqL.of h1) (Vws.dp m h h2)
theorem Vws.dp (m : MemOk K F H M) : ∀ {ds : List D} {ps : List PyData} {vs : List V}, Vws M ds ps → Rps K F H ds vs → DpAll K H vs ps
  | _, _, vs, .nil, r => by unfold Rps at r; subst r; exact DpAll.nil
  | _, _, vs, .cons h t, r => by
    unfold Rps at r
    obtain ⟨v, w, rfl, r1, r2⟩ := r
    exact DpAll.cons (Vw.dp m h r1) (Vws.dp m t r2)
end
theorem Vws.map {α : Type} {f : α → D} {g : α → PyData} (h : ∀ a, Vw M (f a) (g a)) : ∀ xs : List α, Vws M (xs.map f) (xs.map g)
  | [] => .nil
  | x :: xs => .cons (h x) (Vws.map h xs)
/-- two scalars -/
def eqS : D → D → Option Bool
  | .int i, .int j => some (decide (i = j))
  | .bl i, .bl j => some (decide (i = j))
  | .str i, .str j => some (decide (i = j))
  | .non, .non => some true
  | .non, .int _ => some false
  | .int _, .non => some false
  | _, _ => none
def dEqG (f : Bool → Bool) : DR2 := fun x y M Q => match eqS x y with
  | some b => Q (.bl (f b)) M
  | none => ∃ p q, Vw M x p ∧ Vw M y q ∧ SeqAt.shaped p = true ∧ SeqAt.shaped q = true ∧ Q (.bl (f (PyData.eqv p q))) M
abbrev dEq : DR2 := dEqG fun b => b
abbrev dNe : DR2 := dEqG fun b => !b
theorem eqS_at {d e : D} {x y : V} {b : Bool} (r1 : Rp K F H d x) (r2 : Rp K F H e y) (h : eqS d e = some b) : scal x y = true ∧ decide (x = y) = b := by
  cases d <;> cases e <;> first
    | (cases h; done)
    | (unfold Rp at r1 r2
       subst r1 r2
       cases h
       exact ⟨rfl, by simp⟩)
theorem od_eq (hK : X.K = K) (hu : X.A.units + 64 < cLine) : OpD K X (compareOp .Eq) dEq := by
  subst hK
  refine OpR.imp (OpR.or op_eq (op_eqD hu)) fun x y H Q ⟨F, M, d, e, Q', m, r1, r2, q, h⟩ => ?_
  unfold dEq dEqG at h
  cases z : eqS d e with
  | some b =>
    rw [z] at h
    obtain ⟨h1, h2⟩ := eqS_at r1 r2 z
    refine .inl ⟨h1, ?_⟩
    rw [h2]
    exact q F H M _ _ (Ext.refl _ _ _) m Rp.bl h
  | none =>
    rw [z] at h
    obtain ⟨p, p', v1, v2, s1, s2, h⟩ := h
    exact .inr ⟨p, p', v1.dp m r1, v2.dp m r2, s1, s2, q F H M _ _ (Ext.refl _ _ _) m Rp.bl h⟩
theorem od_ne (hK : X.K = K) (hu : X.A.units + 64 < cLine) : OpD K X (compareOp .NotEq) dNe := by
  subst hK
  refine OpR.imp (OpR.or op_ne (op_neD hu)) fun x y H Q ⟨F, M, d, e, Q', m, r1, r2, q, h⟩ => ?_
  unfold dNe dEqG at h
  cases z : eqS d e with
  | some b =>
    rw [z] at h
    obtain ⟨h1, h2⟩ := eqS_at r1 r2 z
    refine .inl ⟨h1, ?_⟩
    rw [h2]
    exact q F H M _ _ (Ext.refl _ _ _) m Rp.bl h
  | none =>
    rw [z] at h
    obtain ⟨p, p', v1, v2, s1, s2, h⟩ := h
    exact .inr ⟨p, p', v1.dp m r1, v2.dp m r2, s1, s2, q F H M _ _ (Ext.refl _ _ _) m Rp.bl h⟩
/-! is None -/
def isNon : D → Bool
  | .non => true
  | _ => false
def dIsN (f : Bool → Bool) : DR2
  | x, .non, M, Q => Q (.bl (f (isNon x))) M
  | _, _, _, _ => False
theorem isNon_at {d : D} {x : V} (r : Rp K F H d x) : decide (x = .non) = isNon d := by
  cases d <;> unfold Rp at r <;> first
    | (subst r; rfl)
    | (obtain ⟨a, vs, rfl, _⟩ := r; rfl)
    | (obtain ⟨a, dx, gs, rfl, _⟩ := r; rfl)
    | (obtain ⟨a, rfl, _⟩ := r; rfl)
    | (obtain ⟨rfl, _⟩ := r; rfl)
theorem od_isN : OpD K X (compareOp .Is) (dIsN fun b => b) := OpR.imp op_isN fun x y H Q ⟨F, M, d, e, Q', m, r1, r2, q, h⟩ => by
  cases e with
  | non =>
    unfold Rp at r2
    refine ⟨r2, ?_⟩
    rw [isNon_at r1]
    exact q F H M _ _ (Ext.refl _ _ _) m Rp.bl h
  | _ => exact h.elim
theorem od_notN : OpD K X (compareOp .IsNot) (dIsN fun b => !b) := OpR.imp op_notN fun x y H Q ⟨F, M, d, e, Q', m, r1, r2, q, h⟩ => by
  cases e with
  | non =>
    unfold Rp at r2
    refine ⟨r2, ?_⟩
    rw [isNon_at r1]
    exact q F H M _ _ (Ext.refl _ _ _) m Rp.bl h
  | _ => exact h.elim

/-! ### subscripts -/
def dIx : DR2
  | x, .int i, M, Q => onS M x fun ds => ∃ d, atI ds i = some d ∧ Q d M
  | _, _, _, _ => False
theorem atI_rps {ds : List D} {vs : List V} {i : Int} {d : D} (r : Rps K F H ds vs) (h : atI ds i = some d) : ∃ v, atI vs i = some v ∧ Rp K F H d v := by
  unfold atI at h ⊢
  rw [r.length]
  cases e : ixN ds.length i with
  | none => rw [e] at h; cases h
  | some j =>
    rw [e] at h
    exact r.get h
theorem xd_ix (hK : X.K = K) : IxD K X dIx := by
  subst hK
  refine IxR.imp (ix_list.or ix_tup) fun x y H Q ⟨F, M, d, e, Q', m, r1, r2, q, h⟩ => ?_
  cases e with
  | int i =>
    have h' : onS M d fun ds => ∃ d', atI ds i = some d' ∧ Q' d' M := h
    obtain ⟨ds, a, vs, ⟨d', h1, h2⟩, rfl, k, r⟩ := onS_at m r1 h'
    obtain ⟨v, h3, h4⟩ := atI_rps r h1
    have fin := q F H M _ _ (Ext.refl _ _ _) m h4 h2
    exact k.imp (fun k => ⟨a, vs, i, v, rfl, r2.int_inv, k, h3, fin⟩) fun k => ⟨a, vs, i, v, rfl, r2.int_inv, k.sq, h3, fin⟩
  | _ => exact h.elim
end
end DL

/-! DL6: slices, methods of lists, stores, calls, built-ins. -/
namespace DL
open PySem PySem.Spec L2

section
variable {K : PySem.W.Frag} {X : Cx} {W : WX} {F : Addr → Prop} {H : Hp} {ρ : Dv} {M : Mem} {σ : L2.St} {a b e o : Expr} {ga gb gc : DE} {pos cpos apos : Pos}
/-! ### slices -/
abbrev DO := DXK → Dv → Mem → (Option Int → Mem → Prop) → Prop
def tGo (K : PySem.W.Frag) (W : WX) (g : DO) : TO := fun σ H Q => ∃ F ρ M E Q', Sta K F H ρ M σ ∧ XOk K F H M E W σ ∧ (∀ F' H' M' i, Ext F H M F' H' M' → MemOk K F' H' M' → Q' i M' → Q i H') ∧ g E ρ M Q'
def FO (K : PySem.W.Frag) (X : Cx) (W : WX) (e : Option Expr) (g : DO) : Prop := PO X e (tGo K W g)
theorem PO.imp {e : Option Expr} {t t' : TO} (h : PO X e t) (i : ∀ σ H Q, t' σ H Q → t σ H Q) : PO X e t' := ⟨fun pins s σ H Q I q => h.run pins s σ H Q I (i σ H Q q)⟩
def oNone : DO := fun _ _ M Q => Q none M
def oSome (g : DE) : DO := fun E ρ M Q => g E ρ M fun d M1 => match d with
  | .int i => Q (some i) M1
  | _ => False
theorem fo_none : FO K X W none oNone := PO.imp po_none fun σ H Q ⟨F, ρ, M, E, Q', s, x, q, h⟩ => q F H M none (Ext.refl _ _ _) s.mem h
theorem fo_some (he : FE K X W e ga) : FO K X W (some e) (oSome ga) := PO.imp (po_some he) fun σ H Q ⟨F, ρ, M, E, Q', s, x, q, h⟩ => tG_mk s x (fun F1 H1 M1 d v e1 m1 r1 h1 => by
  cases d with
  | int i => exact ⟨i, r1.int_inv, q F1 H1 M1 _ e1 m1 h1⟩
  | _ => exact h1.elim) h
def cutD {α : Type} (xs : List α) (lo hi : Option Int) : List α := (xs.drop (HT.sIx xs.length 0 lo)).take (HT.sIx xs.length xs.length hi - HT.sIx xs.length 0 lo)
theorem cutD_rps {ds : List D} {vs : List V} (r : Rps K F H ds vs) (lo hi : Option Int) : Rps K F H (cutD ds lo hi) (cutV vs lo hi) := by
  unfold cutD cutV
  rw [r.length]
  exact (r.drop _).take _
def nSl (g : DE) (gl gh : DO) : DN := fun E ρ M Q => g E ρ M fun x M1 => gl E ρ M1 fun l M2 => gh E ρ M2 fun h M3 => onL M3 x fun ds => Q (cutD ds l h) M3
theorem fn_slice {lo hi : Option Expr} {gl gh : DO} {p2 : Pos} (hK : X.K = K) (he : FE K X W e ga) (hl : FO K X W lo gl) (hh : FO K X W hi gh) : FN K X W (.Subscript e (.Slice lo hi none p2) pos) (nSl ga gl gh) := by
  subst hK
  refine PE.imp (pe_slice sl_list he hl hh) fun σ H Q ⟨F, ρ, M, E, Q', s, x, q, h⟩ => tG_mk s x (fun F1 H1 M1 d v e1 m1 r1 h1 => ⟨F1, ρ, M1, E, _, s.next e1 m1, x.next e1, fun F2 H2 M2 i e2 m2 h2 => ⟨F2, ρ, M2, E, _, (s.next e1 m1).next e2 m2, (x.next e1).next e2, fun F3 H3 M3 j e3 m3 h3 => ?_, h2⟩, h1⟩) h
  obtain ⟨ds, l, vs, _, h4, rfl, hv, rv⟩ := onL_at m3 (Rp.mono (e2.trans e3).toExtW _ _ r1) h3
  exact ⟨l, vs, rfl, SqL.of hv, fun p hp => newL ((e1.trans e2).trans e3) m3 (cutD_rps rv i j) hp q h4⟩
/-- a cut of a list (frozen) or of a tuple -/
def gSl (g : DE) (gl gh : DO) : DE := fun E ρ M Q => g E ρ M fun x M1 => gl E ρ M1 fun l M2 => gh E ρ M2 fun h M3 => match x with
  | .tup ds => Q (.tup (cutD ds l h)) M3
  | x => onL M3 x fun ds => Q (.lst (cutD ds l h)) M3
theorem fe_slice {lo hi : Option Expr} {gl gh : DO} {p2 : Pos} (hK : X.K = K) (he : FE K X W e ga) (hl : FO K X W lo gl) (hh : FO K X W hi gh) : FE K X W (.Subscript e (.Slice lo hi none p2) pos) (gSl ga gl gh) := by
  subst hK
  refine PE.imp (pe_slice (SlR.or sl_list DLT.sl_tupP) he hl hh) fun σ H Q ⟨F, ρ, M, E, Q', s, x, q, h⟩ => tG_mk s x (fun F1 H1 M1 d v e1 m1 r1 h1 => ⟨F1, ρ, M1, E, _, s.next e1 m1, x.next e1, fun F2 H2 M2 i e2 m2 h2 => ⟨F2, ρ, M2, E, _, (s.next e1 m1).next e2 m2, (x.next e1).next e2, fun F3 H3 M3 j e3 m3 h3 => ?_, h2⟩, h1⟩) h
  have r3 := Rp.mono (e2.trans e3).toExtW _ _ r1
  have e03 := (e1.trans e2).trans e3
  cases d with
  | tup ds =>
    have rr3 := r3
    unfold Rp at r3
    obtain ⟨l, vs, rfl, hv, rv⟩ := r3
    refine .inr ⟨l, vs, rfl, hv.sq, fun z => ?_, fun _ p o hp po => newT e03 m3 (cutD_rps rv i j) hp po q h3⟩
    have e : cutD ds i j = ds := by
      rw [rv.length] at z
      unfold cutD
      rw [z.1, z.2]
      simp
    have h3' : Q' (.tup (cutD ds i j)) M3 := h3
    rw [e] at h3'
    exact q F3 H3 M3 _ _ e03 m3 rr3 h3'
  | lst ds =>
    obtain ⟨ds, l, vs, _, h4, rfl, hv, rv⟩ := onL_at m3 r3 h3
    exact .inl ⟨l, vs, rfl, SqL.of hv, fun p hp => newF e03 m3 (cutD_rps rv i j) hp q h4⟩
  | ref r =>
    obtain ⟨ds, l, vs, _, h4, rfl, hv, rv⟩ := onL_at m3 r3 h3
    exact .inl ⟨l, vs, rfl, SqL.of hv, fun p hp => newF e03 m3 (cutD_rps rv i j) hp q h4⟩
  | _ => exact h3.elim

/-! ### methods of lists -/
abbrev DRm := D → List D → Mem → DVK → Prop
def rGm (K : PySem.W.Frag) (rd : DRm) : V → List V → Hp → VK → Prop := fun x xs H Q => ∃ F M d ds Q', MemOk K F H M ∧ Rp K F H d x ∧ Rps K F H ds xs ∧ VOk K F H M Q' Q ∧ rd d ds M Q'
def MtD (K : PySem.W.Frag) (X : Cx) (id : String) (rd : DRm) : Prop := MtR X id (rGm K rd)
theorem MtR.imp {id : String} {r r' : V → List V → Hp → VK → Prop} (h : MtR X id r) (i : ∀ x xs H Q, r' x xs H Q → r x xs H Q) : MtR X id r' := fun pins s σ H x xs v us Q I rx rv q => h pins s σ H x xs v us Q I rx rv (i x xs H Q q)
/-- o.name(..) of a list -/
def gMt (rd : DRm) (go : DE) (g : DA) : DE := fun E ρ M Q => go E ρ M fun x M1 => (onL M1 x fun _ => True) ∧ g E ρ M1 fun ds M2 => rd x ds M2 Q
def gMt0 (rd : DRm) (go : DE) : DE := fun E ρ M Q => go E ρ M fun x M1 => (onL M1 x fun _ => True) ∧ rd x [] M1 Q
theorem fe_mt {es : List Expr} {name : Str} {id : String} {rd : DRm} {g : DA} (hK : X.K = K) (slot : Slot "list" name id) (hty : typeOf (.builtin id) = pure (.type "method_descriptor")) (hm : MtD K X id rd) (ho : FE K X W o ga) (ha : FA K X W (e :: es) g)
    (hbase : attributeBase o name X.env (eval o X.env) = eval o X.env := by rfl)
    (hfew : ((backTo cpos (starEach (e :: es) X.env)).all (fun x => !x.1) && (backToKw cpos (keywordEach [] X.env)).all (fun x => x.1.isSome)
      && decide ((e :: es).length + ([] : List Keyword).length + (if ([] : List Keyword).isEmpty then 0 else 1) < 30)) = true := by rfl)
    (hline : (apos.endLine == cpos.line) = true := by rfl) (hs : starEach (e :: es) X.env = (false, eval e X.env) :: starEach es X.env := by rfl) (hpl : (backTo cpos (starEach es X.env)).any (·.1) = false := by rfl) :
    FE K X W (.Call (.Attribute o name apos) (e :: es) [] cpos) (gMt rd ga g) := by
  subst hK
  refine PE.imp (pe_bm PySem.F.plainAttrs_list slot hty hm ho ha hbase hfew hline hs hpl) fun σ H Q ⟨F, ρ, M, E, Q', s, x, q, h⟩ => tG_mk s x (fun F1 H1 M1 d v e1 m1 r1 ⟨h0, h1⟩ => ?_) h
  obtain ⟨ds, l, vs, _, _, rfl, hv, rv⟩ := onL_at m1 r1 h0
  exact ⟨.inl ⟨rfl, vs, SqL.of hv⟩, F1, ρ, M1, E, _, s.next e1 m1, x.next e1, fun F2 H2 M2 ds2 vs2 e2 m2 r2 h2 => (⟨F2, M2, d, ds2, Q', m2, Rp.mono e2.toExtW _ _ r1, r2, q.next (e1.trans e2), h2⟩ : rGm X.K rd _ _ H2 Q), h1⟩
theorem fe_mt0 {name : Str} {id : String} {rd : DRm} (hK : X.K = K) (slot : Slot "list" name id) (hty : typeOf (.builtin id) = pure (.type "method_descriptor")) (hm : MtD K X id rd) (ho : FE K X W o ga)
    (hbase : attributeBase o name X.env (eval o X.env) = eval o X.env := by rfl) (hline : (apos.endLine == cpos.line) = true := by rfl) : FE K X W (.Call (.Attribute o name apos) [] [] cpos) (gMt0 rd ga) := by
  subst hK
  refine PE.imp (pe_bm0 PySem.F.plainAttrs_list slot hty hm ho hbase hline) fun σ H Q ⟨F, ρ, M, E, Q', s, x, q, h⟩ => tG_mk s x (fun F1 H1 M1 d v e1 m1 r1 ⟨h0, h1⟩ => ?_) h
  obtain ⟨ds, l, vs, _, _, rfl, hv, rv⟩ := onL_at m1 r1 h0
  exact ⟨.inl ⟨rfl, vs, SqL.of hv⟩, F1, M1, d, [], Q', m1, r1, Rps.nil, q.next e1, h1⟩
/-- the list at a cell of the store -/
def onC (M : Mem) (d : D) (k : Addr → List D → Prop) : Prop := match d with
  | .ref a => ∃ ds, M a = some (.lst ds) ∧ k a ds
  | _ => False
theorem onC_at {d : D} {v : V} {k : Addr → List D → Prop} (m : MemOk K F H M) (r : Rp K F H d v) (h : onC M d k) : ∃ a ds vs, d = .ref a ∧ v = .ref a ∧ M a = some (.lst ds) ∧ ¬ F a ∧ H a = some (.lst vs) ∧ Rps K F H ds vs ∧ k a ds := by
  cases d with
  | ref a =>
    obtain ⟨ds, e, h⟩ := h
    obtain ⟨n, vs, h1, h2⟩ := m.at_ a _ e
    unfold Rp at r
    exact ⟨a, ds, vs, rfl, r, e, n, h1, h2, h⟩
  | _ => exact h.elim
/-- a list of the store is changed to what shows ds' -/
theorem chL {a : Addr} {ds ds' : List D} {vs vs' : List V} {u : V} {d : D} {Q : VK} {Q' : DVK} (m : MemOk K F H M) (e : M a = some (.lst ds)) (n : ¬ F a) (hv : H a = some (.lst vs)) (r : Rps K F H ds' vs') (q : VOk K F H M Q' Q) (hd : ∀ H', ExtW F H F H' → Rp K F H' d u)
    (h : Q' d (mset M a (.lst ds'))) : Q u (upd H a (.lst vs')) := by
  have w : ExtW F H F (upd H a (.lst vs')) := ExtW.wr hv n
  have hM : M a ≠ none := by rw [e]; exact fun z => nomatch z
  refine q F _ (mset M a (.lst ds')) d u (Ext.write hv n hM (fun b z => ?_) (fun _ z => nomatch z) (fun _ _ z => nomatch z) fun _ z => nomatch z) (m.set hv n w ⟨vs', upd_same, Rps.mono w _ _ r⟩) (hd _ w) h
  by_cases y : b = a
  · rw [y]; exact hM
  · rw [mset_ne y] at z; exact z
def dAppend : DRm := fun x ds M Q => match ds with
  | [d] => onC M x fun a xs => xs.length < sizeLine ∧ Q .non (mset M a (.lst (xs ++ [d])))
  | _ => False
theorem md_append : MtD K X "list.append" dAppend := MtR.imp mt_append fun x xs H Q ⟨F, M, d, ds, Q', m, r, rs, q, h⟩ => by
  match ds, h with
  | [y], h =>
    obtain ⟨w, rfl, rw'⟩ := rs.one
    obtain ⟨a, es, vs, rfl, rfl, e, n, hv, rv, hz, h⟩ := onC_at m r h
    exact ⟨a, vs, w, rfl, rfl, hv, by rw [rv.length]; exact hz, chL m e n hv (Rps.append rv (Rps.cons rw' Rps.nil)) q (fun _ _ => Rp.non) h⟩
def dPop : DRm := fun x ds M Q => match ds with
  | [] => onC M x fun a xs => ∃ y, xs[xs.length - 1]? = some y ∧ Q y (mset M a (.lst xs.dropLast))
  | [.int i] => onC M x fun a xs => (-(2 ^ 63) ≤ i ∧ i < 2 ^ 63) ∧ ∃ k y, seqIndex? i xs.length = some k ∧ xs[k]? = some y ∧ Q y (mset M a (.lst (xs.eraseIdx k)))
  | _ => False
theorem Rps.dropLast {ds : List D} {vs : List V} (r : Rps K F H ds vs) : Rps K F H ds.dropLast vs.dropLast := by
  rw [List.dropLast_eq_take, List.dropLast_eq_take, r.length]
  exact r.take _
theorem md_pop : MtD K X "list.pop" dPop := MtR.imp (MtR.or mt_pop mt_popAt) fun x xs H Q ⟨F, M, d, ds, Q', m, r, rs, q, h⟩ => by
  match ds, h with
  | [], h =>
    unfold Rps at rs
    subst rs
    obtain ⟨a, es, vs, rfl, rfl, e, n, hv, rv, y, hy, h⟩ := onC_at m r h
    obtain ⟨w, hw, rw'⟩ := rv.get hy
    exact .inl ⟨a, vs, w, rfl, rfl, hv, by rw [rv.length]; exact hw, chL m e n hv rv.dropLast q (fun _ z => Rp.mono z _ _ rw') h⟩
  | [.int i], h =>
    obtain ⟨w, rfl, rw'⟩ := rs.one
    obtain ⟨a, es, vs, rfl, rfl, e, n, hv, rv, ⟨h1, h2⟩, k, y, hk, hy, h⟩ := onC_at m r h
    obtain ⟨u, hu, ru⟩ := rv.get hy
    exact .inr ⟨a, vs, i, k, u, rfl, by rw [rw'.int_inv], hv, h1, h2, by rw [rv.length]; exact hk, hu, chL m e n hv (rv.eraseIdx k) q (fun _ z => Rp.mono z _ _ ru) h⟩
def dReverse : DRm := fun x ds M Q => match ds with
  | [] => onC M x fun a xs => Q .non (mset M a (.lst xs.reverse))
  | _ => False
theorem md_reverse : MtD K X "list.reverse" dReverse := MtR.imp mt_reverse fun x xs H Q ⟨F, M, d, ds, Q', m, r, rs, q, h⟩ => by
  match ds, h with
  | [], h =>
    unfold Rps at rs
    subst rs
    obtain ⟨a, es, vs, rfl, rfl, e, n, hv, rv, h⟩ := onC_at m r h
    exact ⟨a, vs, rfl, rfl, hv, chL m e n hv rv.reverse q (fun _ _ => Rp.non) h⟩
def dInsert : DRm := fun x ds M Q => match ds with
  | [.int i, d] => onC M x fun a xs => (xs.length < sizeLine ∧ 0 ≤ i ∧ i < 2 ^ 63) ∧ Q .non (mset M a (.lst (xs.take i.toNat ++ [d] ++ xs.drop i.toNat)))
  | _ => False
theorem md_insert : MtD K X "list.insert" dInsert := MtR.imp mt_insert fun x xs H Q ⟨F, M, d, ds, Q', m, r, rs, q, h⟩ => by
  match ds, h with
  | [.int i, y], h =>
    obtain ⟨v, w, rfl, r1, r2⟩ := rs.two
    obtain ⟨a, es, vs, rfl, rfl, e, n, hv, rv, ⟨hz, h0, h1⟩, h⟩ := onC_at m r h
    exact ⟨a, vs, i, w, rfl, by rw [r1.int_inv], hv, by rw [rv.length]; exact hz, h0, h1, chL m e n hv (((rv.take _).append (Rps.cons r2 Rps.nil)).append (rv.drop _)) q (fun _ _ => Rp.non) h⟩

/-! ### stores -/
def dSetIx : D → D → D → Mem → (Mem → Prop) → Prop
  | o, .int i, v, M, Q => onC M o fun a xs => ∃ j, ixN xs.length i = some j ∧ Q (mset M a (.lst (xs.set j v)))
  | _, _, _, _, _ => False
def tSetG (K : PySem.W.Frag) : TSet := fun o i v H Q => ∃ F M d e f Q', MemOk K F H M ∧ Rp K F H d o ∧ Rp K F H e i ∧ Rp K F H f v ∧ (∀ F' H' M', Ext F H M F' H' M' → MemOk K F' H' M' → Q' M' → Q H') ∧ dSetIx d e f M Q'
theorem set_ix : PSet X (tSetG K) := fun pins s σ H o i v ov iv u Q I ro ri rv h => set_list pins s σ H o i v ov iv u Q I ro ri rv (by
  obtain ⟨F, M, d, e, f, Q', m, r1, r2, r3, q, h⟩ := h
  cases e with
  | int k =>
    have h' : onC M d fun a xs => ∃ j, ixN xs.length k = some j ∧ Q' (mset M a (.lst (xs.set j f))) := h
    obtain ⟨a, es, vs, rfl, rfl, e, n, hv, rv, j, hj, h⟩ := onC_at m r1 h'
    have w : ExtW F H F (upd H a (.lst (vs.set j v))) := ExtW.wr hv n
    have hM : M a ≠ none := by rw [e]; exact fun z => nomatch z
    refine ⟨a, vs, k, j, rfl, r2.int_inv, hv, by rw [rv.length]; exact hj, q F _ (mset M a (.lst (es.set j f))) (Ext.write hv n hM (fun b z => ?_) (fun _ z => nomatch z) (fun _ _ z => nomatch z) fun _ z => nomatch z) (m.set hv n w ⟨_, upd_same, Rps.mono w _ _ (rv.set j r3)⟩) h⟩
    by_cases y : b = a
    · rw [y]; exact hM
    · rw [mset_ne y] at z; exact z
  | _ => exact h.elim)
/-- o[i] = v -/
def sSetIx (g go gi : DE) : DS := fun E ρ M => g (fun x M => E.ex x ρ M) ρ M fun v M1 => go (fun x M => E.ex x ρ M) ρ M1 fun o M2 => gi (fun x M => E.ex x ρ M) ρ M2 fun i M3 => dSetIx o i v M3 fun M4 => E.nx ρ M4
theorem fs_setIx {i : Expr} {p2 : Pos} (hv : FE K X W e ga) (ho : FE K X W o gb) (hi : FE K X W i gc) (hs : swapsWithSole [.Subscript o i p2] e pos.line X.env = pure false := by rfl) (hw : swappedStores [.Subscript o i p2] e X.env = pure none := by rfl)
    (h1 : (assignEach [.Subscript o i p2] X.env).map (·.2) = [assign (.Subscript o i p2) X.env] := by rfl)
    (ha : ∀ v, assign (.Subscript o i p2) X.env v = (do
      let ov ← holding [v] (eval o X.env)
      let iv ← holding [v, ov] (eval i X.env)
      standAt p2
      holding [v, ov, iv] (setItem ov iv v)
      release [v, ov, iv] []) := by intro _; rfl) : FS K X W (.Assign [.Subscript o i p2] e pos) (sSetIx ga gb gc) :=
  PS.imp (ps_asg hv (pg_sub ho hi (set_ix (K := K)) ha) hs hw h1) fun D σ H ⟨F, ρ, M, E', s, x, h⟩ => tG_mk s (x.ex.at_ s) (fun F1 H1 M1 d v e1 m1 r1 h1 =>
    two (R := fun o i H3 => tSetG K o i v H3 fun H4 => D.nx σ H4) (s.next e1 m1) ((x.ex.at_ s).next e1) h1 fun F2 H2 M2 d2 e2 v2 u2 x2 m2 r2 r3 h2 => ⟨F2, M2, d2, e2, d, _, m2, r2, r3, Rp.mono x2.toExtW _ _ r1, fun F3 H3 M3 x3 m3 h3 => x.nx F3 H3 ρ M3 σ (e1.trans (x2.trans x3)) (s.next (e1.trans (x2.trans x3)).toExtW m3) h3, h2⟩) h

/-! ### calls of defs -/
abbrev SpD := List D → Mem → DVK → DXK → Prop
def liftSp (K : PySem.W.Frag) (sp : SpD) : Sp := fun vs H Q E => ∃ F M ds Q' E', MemOk K F H M ∧ Rps K F H ds vs ∧ VOk K F H M Q' Q ∧ (∀ F' H' M' x cls d, Ext F H M F' H' M' → MemOk K F' H' M' → RpX K F' H' x cls d → E' x M' → E cls d H') ∧ sp ds M Q' E'
/-- a def that keeps a deep promise -/
abbrev FnD (P : Program) (w : World) (K : PySem.W.Frag) (mg : Str → Option Value) (base : Heap) (k : Nat) (f : Addr) (fd : FuncData) (ps : List Str) (sp : SpD) : Prop := FnOk P w K mg base (L2.CX P w) k f fd ps (liftSp K sp)
def gCall (sp : SpD) (g : DA) : DE := fun E ρ M Q => g E ρ M fun ds M1 => sp ds M1 Q E
theorem call_im {sp : SpD} {g : DA} : ∀ σ H Q, tG K W (gCall sp g) σ H Q → tCallS (liftSp K sp) (WE W) (tGa K W g) σ H Q := fun σ H Q ⟨F, ρ, M, E, Q', s, x, q, h⟩ =>
  (⟨F, ρ, M, E, _, s, x, fun F1 H1 M1 ds vs e1 m1 r1 h1 => (⟨F1, M1, ds, Q', E, m1, r1, q.next e1, x.next e1, h1⟩ : liftSp K sp vs H1 Q _), h⟩ : tGa K W g σ H _)
theorem fe_call {k : Nat} {f : Addr} {fd : FuncData} {ps : List Str} {sp : SpD} {x : Str} {p : Pos} {es : List Expr} {g : DA} (C : FnD X.prog X.w K X.mg X.base k f fd ps sp) (hr : Room k X.A) (tk : Takes X W) (hm : X.mg x = some (.ref f)) (hk : PySem.W.keepIn K (.ref f) = true) (hb : Binds K fd ps []) (ha : FA K X W (e :: es) g)
    (hK : X.K = K := by rfl) (hg : Gl X x := by rfl) (hdb : (x == ("__debug__" : Str)) = false := by decide) (he : starEach (e :: es) X.env = (false, eval e X.env) :: starEach es X.env := by rfl) (hpl : (backTo pos (starEach es X.env)).any (·.1) = false := by rfl) :
    FE K X W (.Call (.Name x p) (e :: es) [] pos) (gCall sp g) := by
  subst hK
  exact PE.imp (pe_callS C hr hg hm hk hb (fun σ => passAt tk σ) ha hdb he hpl) call_im

/-! ### built-in functions and types -/
def gCB (rd : DRs) (g : DA) : DE := fun E ρ M Q => g E ρ M fun ds M1 => rd ds M1 Q
theorem cb_im {rd : DRs} {g : DA} : ∀ σ H Q, tG K W (gCB rd g) σ H Q → tCB (rGs K rd) (tGa K W g) σ H Q := fun σ H Q ⟨F, ρ, M, E, Q', s, x, q, h⟩ =>
  (⟨F, ρ, M, E, _, s, x, fun F1 H1 M1 ds vs e1 m1 r1 h1 => (⟨F1, M1, ds, Q', m1, r1, q.next e1, h1⟩ : rGs K rd vs H1 Q), h⟩ : tGa K W g σ H _)
theorem fe_cb {rd : DRs} {id : String} {x : Str} {p : Pos} {es : List Expr} {g : DA} (hc : CallD K X (.builtin id) rd) (hm : X.mg x = none) (hv : bootBuiltins x = some (.builtin id)) (ha : FA K X W (e :: es) g) (hg : Gl X x := by rfl) (hn : x ≠ "__name__" := by decide) (hdb : (x == ("__debug__" : Str)) = false := by decide)
    (he : starEach (e :: es) X.env = (false, eval e X.env) :: starEach es X.env := by rfl) (hpl : (backTo pos (starEach es X.env)).any (·.1) = false := by rfl) : FE K X W (.Call (.Name x p) (e :: es) [] pos) (gCB rd g) := PE.imp (pe_callB hc hg hm hv ha hn hdb he hpl) cb_im
theorem fe_ct {rd : DRs} {T : String} {x : Str} {p : Pos} {es : List Expr} {g : DA} (hc : CallD K X (.type T) rd) (hm : X.mg x = none) (hv : bootBuiltins x = some (.type T)) (ha : FA K X W (e :: es) g) (hg : Gl X x := by rfl) (hn : x ≠ "__name__" := by decide) (hdb : (x == ("__debug__" : Str)) = false := by decide)
    (he : starEach (e :: es) X.env = (false, eval e X.env) :: starEach es X.env := by rfl) (hpl : (backTo pos (starEach es X.env)).any (·.1) = false := by rfl) : FE K X W (.Call (.Name x p) (e :: es) [] pos) (gCB rd g) := PE.imp (pe_callTy hc hg hm hv ha hn hdb he hpl) cb_im
def dLen : DRs := fun ds M Q => match ds with
  | [x] => onS M x fun xs => Q (.int xs.length) M
  | _ => False
theorem cd_len (hK : X.K = K) : CallD K X (.builtin "len") dLen := by
  subst hK
  refine CallR.imp call_len_seq fun xs H Q ⟨F, M, ds, Q', m, r, q, h⟩ => ?_
  match ds, h with
  | [d], h =>
    obtain ⟨v, rfl, rv⟩ := r.one
    have h' : onS M d fun xs => Q' (.int xs.length) M := h
    obtain ⟨es, a, vs, h, rfl, k, r⟩ := onS_at m rv h'
    exact ⟨a, vs, rfl, k.imp (fun z => z) TupAt.sq, by rw [r.length]; exact q F H M _ _ (Ext.refl _ _ _) m Rp.int h⟩
/-- list(xs): new -/
def rNs (K : PySem.W.Frag) (rd : List D → Mem → (List D → Mem → Prop) → Prop) : List V → Hp → VK → Prop := fun xs H Q => ∃ F M ds Q', MemOk K F H M ∧ Rps K F H ds xs ∧
  (∀ F' H' M' ds vs p, Ext F H M F' H' M' → MemOk K F' H' M' → (M p ≠ none ∨ H p = none) → H' p = some (.lst vs) → ¬ F' p → M' p = none → Rps K F' H' ds vs → Q' ds M' → Q (.ref p) H') ∧ rd ds M Q'
def nCB (rd : List D → Mem → (List D → Mem → Prop) → Prop) (g : DA) : DN := fun E ρ M Q => g E ρ M fun ds M1 => rd ds M1 Q
theorem nb_im {rd : List D → Mem → (List D → Mem → Prop) → Prop} {g : DA} : ∀ σ H Q, tN K W (nCB rd g) σ H Q → tCB (rNs K rd) (tGa K W g) σ H Q := fun σ H Q ⟨F, ρ, M, E, Q', s, x, q, h⟩ =>
  (⟨F, ρ, M, E, _, s, x, fun F1 H1 M1 ds vs e1 m1 r1 h1 => (⟨F1, M1, ds, Q', m1, r1, fun F3 H3 M3 ds vs p e3 m3 wp => q F3 H3 M3 ds vs p (e1.trans e3) m3 (wp.elim (fun z => e1.dom p z) fun z => e1.was z), h1⟩ : rNs K rd vs H1 Q), h⟩ : tGa K W g σ H _)
theorem fn_cb {rd : List D → Mem → (List D → Mem → Prop) → Prop} {id : String} {x : Str} {p : Pos} {es : List Expr} {g : DA} (hc : CallR X (.builtin id) (rNs K rd)) (hm : X.mg x = none) (hv : bootBuiltins x = some (.builtin id)) (ha : FA K X W (e :: es) g) (hg : Gl X x := by rfl) (hn : x ≠ "__name__" := by decide) (hdb : (x == ("__debug__" : Str)) = false := by decide)
    (he : starEach (e :: es) X.env = (false, eval e X.env) :: starEach es X.env := by rfl) (hpl : (backTo pos (starEach es X.env)).any (·.1) = false := by rfl) : FN K X W (.Call (.Name x p) (e :: es) [] pos) (nCB rd g) := PE.imp (pe_callB hc hg hm hv ha hn hdb he hpl) nb_im
theorem fn_ct {rd : List D → Mem → (List D → Mem → Prop) → Prop} {T : String} {x : Str} {p : Pos} {es : List Expr} {g : DA} (hc : CallR X (.type T) (rNs K rd)) (hm : X.mg x = none) (hv : bootBuiltins x = some (.type T)) (ha : FA K X W (e :: es) g) (hg : Gl X x := by rfl) (hn : x ≠ "__name__" := by decide) (hdb : (x == ("__debug__" : Str)) = false := by decide)
    (he : starEach (e :: es) X.env = (false, eval e X.env) :: starEach es X.env := by rfl) (hpl : (backTo pos (starEach es X.env)).any (·.1) = false := by rfl) : FN K X W (.Call (.Name x p) (e :: es) [] pos) (nCB rd g) := PE.imp (pe_callTy hc hg hm hv ha hn hdb he hpl) nb_im
def nListOf : List D → Mem → (List D → Mem → Prop) → Prop := fun ds M Q => match ds with
  | [x] => onS M x fun xs => Q xs M
  | _ => False
theorem cn_list (hK : X.K = K) : CallR X (.type "list") (rNs K nListOf) := by
  subst hK
  refine CallR.imp call_list_of fun xs H Q ⟨F, M, ds, Q', m, r, q, h⟩ => ?_
  match ds, h with
  | [d], h =>
    obtain ⟨v, rfl, rv⟩ := r.one
    have h' : onS M d fun xs => Q' xs M := h
    obtain ⟨es, a, vs, h, rfl, k, r⟩ := onS_at m rv h'
    exact ⟨a, vs, rfl, k.imp (fun z => z) TupAt.sq, fun p hp => newL (Ext.refl _ _ _) m r hp q h⟩
def dTupleOf : DRs := fun ds M Q => match ds with
  | [x] => onS M x fun xs => Q (.tup xs) M
  | _ => False
theorem cd_tuple (hK : X.K = K) : CallD K X (.type "tuple") dTupleOf := by
  subst hK
  refine CallR.imp DLT.call_tupleP fun xs H Q ⟨F, M, ds, Q', m, r, q, h⟩ => ?_
  match ds, h with
  | [d], h =>
    obtain ⟨v, rfl, rv⟩ := r.one
    have h' : onS M d fun xs => Q' (.tup xs) M := h
    obtain ⟨es, a, vs, h, rfl, k, rr⟩ := onS_at m rv h'
    refine ⟨a, vs, rfl, k.imp (fun k => ⟨k, fun p o hp po => newT (Ext.refl _ _ _) m rr hp po q h⟩) fun k => ⟨k.sq, q F H M _ _ (Ext.refl _ _ _) m ?_ h⟩⟩
    unfold Rp
    exact ⟨a, vs, rfl, k, rr⟩
def dSum : DRs := fun ds M Q => match ds with
  | [x] => onL M x fun xs => ∃ ns : List Int, xs = ns.map D.int ∧ Q (.int ns.sum) M
  | _ => False
theorem cd_sum (hK : X.K = K) (hc : X.calm = true) : CallD K X (.builtin "sum") dSum := by
  subst hK
  refine CallR.imp (cr_sum hc) fun xs H Q ⟨F, M, ds, Q', m, r, q, h⟩ => ?_
  match ds, h with
  | [d], h =>
    obtain ⟨v, rfl, rv⟩ := r.one
    obtain ⟨es, a, vs, _, ⟨ns, rfl, h⟩, rfl, k, rr⟩ := onL_at m rv h
    have z := Rp.ints rr
    subst z
    exact ⟨a, ns, rfl, SqL.of k, q F H M _ _ (Ext.refl _ _ _) m Rp.int h⟩
/-- abs, int of an int -/
def dAbs : DRs := fun ds M Q => match ds with
  | [.int i] => Q (.int (if i < 0 then -i else i)) M
  | _ => False
theorem cd_abs : CallD K X (.builtin "abs") dAbs := CallR.imp call_abs fun xs H Q ⟨F, M, ds, Q', m, r, q, h⟩ => by
  match ds, h with
  | [.int i], h =>
    obtain ⟨v, rfl, rv⟩ := r.one
    exact ⟨i, by rw [rv.int_inv], q F H M _ _ (Ext.refl _ _ _) m Rp.int h⟩
def dInt : DRs := fun ds M Q => match ds with
  | [.int i] => Q (.int i) M
  | _ => False
theorem cd_int : CallD K X (.type "int") dInt := CallR.imp call_int1 fun xs H Q ⟨F, M, ds, Q', m, r, q, h⟩ => by
  match ds, h with
  | [.int i], h =>
    obtain ⟨v, rfl, rv⟩ := r.one
    exact .inl ⟨i, by rw [rv.int_inv], q F H M _ _ (Ext.refl _ _ _) m Rp.int h⟩
/-! isinstance -/
inductive Kd | none | bool | int | str | tuple | list
  deriving DecidableEq
def Kd.name : Kd → String
  | .none => "NoneType" | .bool => "bool" | .int => "int" | .str => "str" | .tuple => "tuple" | .list => "list"
def kdOf (M : Mem) : D → Option Kd
  | .non => some .none
  | .bl _ => some .bool
  | .int _ => some .int
  | .str _ => some .str
  | .tup _ => some .tuple
  | .lst _ => some .list
  | .scr _ => some .list
  | .ref a => match M a with
    | some (.lst _) => some .list
    | _ => none
  | _ => none
theorem ty_of {d : D} {v : V} {k : Kd} (m : MemOk K F H M) (r : Rp K F H d v) (h : kdOf M d = some k) : TyX K H v (.type k.name) := by
  cases d with
  | non => cases h; unfold Rp at r; subst r; exact .base .non
  | bl b => cases h; unfold Rp at r; subst r; exact .base (.bl b)
  | int b => cases h; unfold Rp at r; subst r; exact .base (.int b)
  | str b => cases h; unfold Rp at r; subst r; exact .base (.str b)
  | tup ds =>
    cases h
    unfold Rp at r
    obtain ⟨a, vs, rfl, q, _⟩ := r
    rcases q with ⟨o, ⟨ob, _, rfl⟩, q⟩ | ⟨o, its, n, q1, q2, _⟩
    · exact .fTuple q
    · exact .kTuple q1 q2
  | lst ds =>
    cases h
    unfold Rp at r
    obtain ⟨a, vs, rfl, q, _⟩ := r
    exact .base (.lst q)
  | ref a =>
    have h' : (match M a with | some (.lst _) => some Kd.list | _ => none) = some k := h
    cases z : M a with
    | none => rw [z] at h'; cases h'
    | some o =>
      rw [z] at h'
      cases o with
      | ins C fs => cases h'
      | lst es =>
        cases h'
        obtain ⟨vs, h1, h2⟩ := (m.at_ a _ z).2
        unfold Rp at r
        subst r
        exact .base (.lst h1)
  | scr ns =>
    cases h
    unfold Rp at r
    obtain ⟨a, rfl, q⟩ := r
    rcases q with ⟨o, q⟩ | q
    · exact .base (.frz q)
    · rcases q H with (q1 | ⟨o, q1⟩) | ⟨o, its, n, q1, q2, _⟩
      · exact .base (.lst q1)
      · exact .base (.frz q1)
      · exact .kList q1 q2
  | _ => cases h
def isK (k : Kd) (n : String) : Option Bool := if n = "int" then some (k == .int || k == .bool) else if n = "bool" then some (k == .bool) else if n = "list" then some (k == .list) else if n = "tuple" then some (k == .tuple) else if n = "str" then some (k == .str) else none
theorem isK_ok {k : Kd} {n : String} {b : Bool} (h : isK k n = some b) : PySem.W.kitOne K (.type k.name) (.type n) = some b := by
  unfold isK at h
  have fin : ∀ {n : String} {b : Bool}, kitB k.name n = some b → PySem.W.kitOne K (.type k.name) (.type n) = some b := fun h => kit_ty h
  split at h
  · subst_vars; cases h; apply fin; cases k <;> decide +kernel
  split at h
  · subst_vars; cases h; apply fin; cases k <;> decide +kernel
  split at h
  · subst_vars; cases h; apply fin; cases k <;> decide +kernel
  split at h
  · subst_vars; cases h; apply fin; cases k <;> decide +kernel
  split at h
  · subst_vars; cases h; apply fin; cases k <;> decide +kernel
  · cases h
def isKs (k : Kd) : List D → Option Bool
  | [] => some false
  | .ty n :: ds => match isK k n with
    | some true => some true
    | some false => isKs k ds
    | none => none
  | _ :: _ => none
def dIsi : DRs := fun ds M Q => match ds with
  | [x, .ty n] => ∃ k b, kdOf M x = some k ∧ isK k n = some b ∧ Q (.bl b) M
  | [x, .tup ts] => ∃ k b, kdOf M x = some k ∧ isKs k ts = some b ∧ (∃ ns : List String, ts = ns.map D.ty) ∧ Q (.bl b) M
  | _ => False
theorem isKs_ok {k : Kd} : ∀ {ns : List String} {b : Bool}, isKs k (ns.map D.ty) = some b → PySem.W.kitAny K (.type k.name) (ns.map Value.type) = some b
  | [], b, h => by cases h; exact kitAny_nil
  | n :: ns, b, h => by
    have h' : (match isK k n with | some true => some true | some false => isKs k (ns.map D.ty) | none => none) = some b := h
    cases z : isK k n with
    | none => rw [z] at h'; cases h'
    | some c =>
      rw [z] at h'
      cases c with
      | true => cases h'; exact kitAny_cons (isK_ok z) (fun q => nomatch q) fun _ => rfl
      | false => exact kitAny_cons (isK_ok z) (fun _ => isKs_ok h') fun q => nomatch q
theorem Rp.ty_inv {n : String} {v : V} (r : Rp K F H (.ty n) v) : v = .ty n := by unfold Rp at r; exact r
theorem Rp.tys : ∀ {ns : List String} {vs : List V}, Rps K F H (ns.map D.ty) vs → vs = ns.map V.ty
  | [], vs, h => by unfold Rps at h; exact h
  | n :: ns, vs, h => by
    rw [List.map_cons] at h
    unfold Rps at h
    obtain ⟨v, r, rfl, h1, h2⟩ := h
    rw [h1.ty_inv, Rp.tys h2, List.map_cons]
theorem cls_tys : ∀ ns : List String, Paired ClsV (ns.map V.ty) (ns.map Value.type)
  | [] => .nil
  | n :: ns => .cons (.ty n) (cls_tys ns)
end
end DL

/-! DL7: isinstance, min, max, sorted, len(set(..)), in, op=, enumerate. -/
namespace DL
open PySem PySem.Spec L2

section
variable {K : PySem.W.Frag} {X : Cx} {W : WX} {F : Addr → Prop} {H : Hp} {ρ : Dv} {M : Mem} {σ : L2.St} {a b e o : Expr} {ga gb gc : DE} {pos cpos apos : Pos}
theorem cd_isi (hK : X.K = K) : CallD K X (.builtin "isinstance") dIsi := by
  subst hK
  refine CallR.imp (CallR.or call_isi DLT.call_isiP) fun xs H Q ⟨F, M, ds, Q', m, r, q, h⟩ => ?_
  match ds, h with
  | [x, .ty n], h =>
    obtain ⟨k, b, h1, h2, h⟩ := h
    obtain ⟨v, w, rfl, r1, r2⟩ := r.two
    exact .inl ⟨v, .ty n, _, _, b, by rw [r2.ty_inv], .ty n, ty_of m r1 h1, isK_ok h2, q F H M _ _ (Ext.refl _ _ _) m Rp.bl h⟩
  | [x, .tup ts], h =>
    obtain ⟨k, b, h1, h2, ⟨ns, rfl⟩, h⟩ := h
    obtain ⟨v, w, rfl, r1, r2⟩ := r.two
    unfold Rp at r2
    obtain ⟨a, vs, rfl, qa, ra⟩ := r2
    have z := Rp.tys ra
    subst z
    have fin := q F H M _ _ (Ext.refl _ _ _) m Rp.bl h
    exact .inr ⟨v, a, _, _, _, b, rfl, qa.sq, cls_tys ns, ty_of m r1 h1, isKs_ok h2, fin⟩
end
end DL

/-! DL7b: model rules that the hand layer lacks: sorted and max of a tuple, enumerate of a tuple. -/
namespace DLM
open PySem PyProof.Rows SrtO Srt
section
variable {prog : Program} {w : World} {A : Around} {E : Value → Shared → Prop} {s : Shared}
/-- the items of a tuple, gathered for a sort -/
theorem gather_tuple {l : Addr} {vs : List Value} {Q : List Value → Shared → Prop} (ht : s.heap.IsTuple l vs.toArray) (hsz : vs.length ≤ sizeLine)
    (h : Q vs { s with heap := (s.heap.push (seqObj "list" #[] 0)).update s.heap.objs.size (Obj.mapSeq (· ++ vs.toArray)) }) : wpAny (model prog w) A (collect (.ref l)) Q E s := by
  obtain ⟨o, ho, hc, n, hd⟩ := id ht
  unfold collect; refine wpAny_bind (wpAny_runValue (codeAny_builtin entry_proto_collect' ?_))
  show wpAny _ _ (do again (.builtin "list.__iadd__" ⟨[← newList [], .ref l], []⟩)) _ _ s; refine wpAny_bind (wpAny_newList (wpAny_pure ⟨Code.quiet_builtin _ (by decide +kernel), codeAny_builtin entry_list_iadd' ?_⟩))
  show wpAny _ _ (Builtin.List.listExtendWith (.ref s.heap.objs.size) (.ref l) (.ref s.heap.objs.size)) _ _ { s with heap := s.heap.push (seqObj "list" #[] 0) }; unfold Builtin.List.listExtendWith
  have ho2 : (s.heap.push (seqObj "list" #[] 0)).get? l = some o := Heap.get?_push_of_some _ ho
  refine wpAny_bind (wpAny_typeOf (T := "tuple") ⟨o, ho2, hc⟩ ?_)
  have hty : (Value.type "tuple" == Value.type "tuple") = true := by rfl
  rw [if_pos (by rw [hty]; simp)]
  refine wpAny_bind (listItems_at ho2 hd ?_); refine wpAny_bind (listItems_at (xs := #[]) (n := 0) (Heap.get?_push_size _ rfl) rfl ?_)
  rw [if_neg (by simp)]
  refine wpAny_bind (listUpdate_at (xs := #[]) (n := 0) (Heap.get?_push_size _ rfl) rfl ?_ (Nat.zero_le _) (by show (#[] ++ vs.toArray).size ≤ sizeLine + 1; simp only [Array.size_append, List.size_toArray, List.length_nil]; omega)); refine wpAny_pure ?_
  show wpAny (model prog w) A (do let o ← load s.heap.objs.size; match o.data with | .seq xs _ => pure xs.toList | _ => unsupported "internal:collect") Q E { s with heap := (s.heap.push (seqObj "list" #[] 0)).update s.heap.objs.size (Obj.mapSeq (· ++ vs.toArray)) }
  refine wpAny_bind (wpAny_load (get?_update_seq (Heap.get?_push_size _ rfl) _) ?_); show wpAny _ _ (pure ((#[] : Array Value) ++ vs.toArray).toList) Q E _
  rw [show ((#[] : Array Value) ++ vs.toArray).toList = vs by simp]; exact wpAny_pure h
theorem sorted_tup {l : Addr} {vs : List Value} {ltv : Value → Value → Bool} {Q : Value → Shared → Prop} (O : Swo ltv) (ht : s.heap.IsTuple l vs.toArray) (hz : vs.length ≤ sizeLine)
    (hS : 2 ≤ vs.length → ∀ (h₁ : Heap) (a : Addr), SortableO prog w A.in1.in1 { s with heap := h₁ } a vs ltv)
    (h : ∀ out : List Value, Srtd ltv out → Stb ltv out vs → Q (.ref (s.heap.objs.size + 1)) { s with heap := sortedAll s.heap vs out.toArray }) : wpAny (model prog w) A (call (.builtin "sorted") [.ref l]) Q E s := by
  refine Calls.call_function_entry kind_sorted plain_sorted entry_sorted (args_sorted1 _) ?_; unfold Builtin.«sorted»
  refine wpAny_bind (m := checkCount "sorted" 1 1 _) (wpAny_pure ?_); refine wpAny_bind (gather_tuple ht hz ?_); refine wpAny_bind (wpAny_newList ?_ hz)
  have hsz : ((s.heap.push (seqObj "list" #[] 0)).update s.heap.objs.size (Obj.mapSeq (· ++ vs.toArray))).objs.size = s.heap.objs.size + 1 := by (rw [Heap.size_update, size_push'])
  have hoL : (((s.heap.push (seqObj "list" #[] 0)).update s.heap.objs.size (Obj.mapSeq (· ++ vs.toArray))).push (seqObj "list" vs.toArray 0)).get? (s.heap.objs.size + 1) = some (seqObj "list" vs.toArray 0) := by (rw [← hsz]; exact Heap.get?_push_size _ rfl)
  show wpAny _ _ _ _ _ { s with heap := ((s.heap.push (seqObj "list" #[] 0)).update s.heap.objs.size (Obj.mapSeq (· ++ vs.toArray))).push (seqObj "list" vs.toArray 0) }; rw [hsz]
  refine wpAny_bind (wpAny_holding (wpAny_call_entry slot_list_sort ⟨_, hoL, rfl⟩ entry_list_sort (list_sort_ord O hoL hz (fun h2 => hS h2 _ _) fun out hs hb => ⟨_, rfl, ?_⟩) (args_list_sort _))); exact wpAny_pure ⟨_, rfl, h out hs hb⟩
theorem nextOf_tup_end {it t : Addr} {i : Nat} {items : Array Value} {Q : Value → Shared → Prop} (hh : A.handled = none) (hit : s.heap.IsTupleIter it t i) (ht : s.heap.IsTuple t items) (hx : items.size ≤ i)
    (hE : ∀ h' e, Heap.ExtBut it s.heap h' → (∃ o, h'.get? e = some o ∧ o.cls = .type "StopIteration") → E (.ref e) { s with heap := h' }) : wpAny (model prog w) A (Builtin.SmallTypes.nextOf (.ref it)) Q E s :=
  wpAny_nextOf_tuple_end hh hit ht (Array.getElem?_eq_none hx) hE
theorem enum_end {e it t : Addr} {i : Nat} {items : Array Value} {old : Value} {Q : Option Value → Shared → Prop} (hh : A.handled = none) (he : IsEnum s.heap e it ((i : Nat) : Int) old) (hit : s.heap.IsTupleIter it t i) (ht : s.heap.IsTuple t items) (hne : t ≠ it) (hx : items.size ≤ i)
    (hQ : ∀ h', Heap.ExtBut it s.heap h' → Q none { s with heap := h' }) : wpAny (model prog w) A (pyNext (.ref e)) Q E s := by
  have D : Draws prog w A.in1 it [it, t] i (fun _ _ => True) (fun j h => j = i ∧ h.IsTupleIter it t i ∧ h.IsTuple t items) :=
    { live := fun _ _ st => (let ⟨o, ho, _⟩ := st.2.1; ⟨o, ho⟩)
      frame := fun _ _ _ st hk => ⟨st.1, st.2.1.at fun o e => hk it (by simp) o e, st.2.2.at fun o e => hk t (by simp) o e⟩
      item := fun j s Q E hj st _ => absurd hj (by rw [st.1]; exact Nat.lt_irrefl _)
      done := fun s Q E st hE => nextOf_tup_end (A := A.in1) hh st.2.1 st.2.2 hx hE }
  exact wpAny_pyNext_enum_endD D he ⟨rfl, hit, ht⟩ hQ
theorem meets_enum_tup (l : Addr) (items : Array Value) (n : Nat) (dct : Option Addr) (sl : Array (Option Value)) :
    Meets (Builtin.«enumerate.__new__» ⟨[.type "enumerate", .ref l], []⟩) (fun _ R s => s.heap.get? l = some { cls := .type "tuple", dict := dct, data := .seq items n, slots := sl } ∧
      R (.ok (.ret (.ref (s.heap.push { cls := .type "tuple_iterator", data := .fields #[.ref l, .int 0 0] }).objs.size))) { s with heap := (s.heap.push { cls := .type "tuple_iterator", data := .fields #[.ref l, .int 0 0] }).push { cls := .type "enumerate", data := .fields #[.none, .bool false, .ref s.heap.objs.size, rawInt 0, .none, .none] } }) :=
  .of_wp fun prog w A R s h => by
    obtain ⟨hp, g, d, tk, os⟩ := s; obtain ⟨hl, h⟩ := h; have hsub := sub_enumerate
    have hL : Heap.IsTuple (Shared.heap ⟨hp, g, d, tk, os⟩) l items := ⟨_, hl, rfl, n, rfl⟩
    wp_walk using AutoSeq1.wpAny_loadPart' hl; refine wpAny_stack_any fun st => wpAny_pure ?_
    split
    · rename_i c _ _ _ _ _
      cases (c == Value.type "enumerate") <;> (wp_walk using AutoSeq1.wpAny_loadPart' hl, wpAny_pyIter_tuple hL; exact ⟨_, rfl, h⟩)
    · (wp_walk using AutoSeq1.wpAny_loadPart' hl, wpAny_pyIter_tuple hL; exact ⟨_, rfl, h⟩)
theorem call_enum_tup {l : Addr} {items : Array Value} {Q : Value → Shared → Prop} (hL : s.heap.IsTuple l items)
    (h : ∀ h', IsEnum h' (s.heap.objs.size + 1) s.heap.objs.size 0 .none → h'.IsTupleIter s.heap.objs.size l 0 → h'.objs.size = s.heap.objs.size + 2 → (∀ b o, s.heap.get? b = some o → h'.get? b = some o) → Q (.ref (s.heap.objs.size + 1)) { s with heap := h' }) :
    wpAny (model prog w) A (call (.type "enumerate") [.ref l]) Q E s := by
  obtain ⟨⟨c, dct, dt, sl⟩, hl, hc, n, hd⟩ := hL
  replace hc : c = .type "tuple" := hc; replace hd : dt = .seq items n := hd; subst hc hd
  refine callType_new F.called_enumerate (by decide) (F.typeCall_enumerate_1 _) (F.newCall_enumerate_1 _) (fun obj => F.args_object_init_2 obj _) F.entry_enumerate_new (meets_enum_tup l items n dct sl) ⟨hl, ?_⟩
  have hz : (s.heap.push { cls := .type "tuple_iterator", data := .fields #[.ref l, .int 0 0] }).objs.size = s.heap.objs.size + 1 := Heap.size_push ..
  show _ ∧ _; rw [hz]
  have he : IsEnum ((s.heap.push { cls := .type "tuple_iterator", data := .fields #[.ref l, .int 0 0] }).push { cls := .type "enumerate", data := .fields #[.none, .bool false, .ref s.heap.objs.size, rawInt 0, .none, .none] }) (s.heap.objs.size + 1) s.heap.objs.size 0 .none := by
    have := Heap.get?_push_size (s.heap.push { cls := .type "tuple_iterator", data := .fields #[.ref l, .int 0 0] }) (o := { cls := .type "enumerate", data := .fields #[.none, .bool false, .ref s.heap.objs.size, rawInt 0, .none, .none] }) rfl
    rw [hz] at this; exact this
  refine ⟨⟨_, he, rfl⟩, h _ he ⟨_, Heap.get?_push_of_some _ (Heap.get?_push_size _ rfl), rfl, rfl⟩ (by rw [Heap.size_push, hz]) fun b o x => Heap.get?_push_of_some _ (Heap.get?_push_of_some _ x)⟩
end
end DLM
namespace DL
open PySem PySem.Spec L2
section
variable {X : Cx}
def rSortT (K : PySem.W.Frag) : List V → Hp → VK → Prop := fun vs H Q => ∃ (a : Addr) (ns : List Int), vs = [V.ref a] ∧ SqT K H a (ns.map V.int) ∧ ∀ (ns' : List Int) (p : Addr), ns'.Perm ns → ns'.Pairwise (· ≤ ·) → H p = none → Q (.ref p) (upd H p (.lst (ns'.map V.int)))
theorem cr_sortT : CallR X (.builtin "sorted") (rSortT X.K) := by
  intro pins s σ H vs us Q I r h
  obtain ⟨a, ns, rfl, hs, q⟩ := h
  obtain ⟨its, rv, hl, hz⟩ := I.tuple hs
  rw [Vals.ref1 r]
  have hi := rv.ints
  refine DLM.sorted_tup SrtO.swo_int (show s.heap.IsTuple a its.toArray from hl) (by rw [← rv.length]; exact hz) (fun h2 h₁ a' => SrtO.ints_sortable hi h2) fun out h1 h2 => ?_
  obtain ⟨k1, k2, k3⟩ := SrtO.ints_out hi h1 h2
  obtain ⟨ep, he'⟩ := PyProof.Rows.sortedAll_at s.heap its out.toArray
  refine ⟨.ref _, upd H (s.heap.objs.size + 1) (.lst ((out.map SrtO.iv).map V.int)), I.laid (t' := s.toks) (fun _ _ => PyProof.Rows.sortedAll_old) (Nat.le_succ _) ⟨?_, out, ep, vals_of_ints k1, he'⟩, rfl, q _ _ k2 k3 (I.hok.fresh (Nat.le_succ _))⟩
  rw [List.length_map, k2.length_eq, ← List.length_map (f := V.int)]; exact hz
def rMaxT (K : PySem.W.Frag) : List V → Hp → VK → Prop := fun vs H Q => ∃ (a : Addr) (n : Int) (ns : List Int), vs = [V.ref a] ∧ SqT K H a ((n :: ns).map V.int) ∧ Q (.int (ns.foldl max n)) H
def rMinT (K : PySem.W.Frag) : List V → Hp → VK → Prop := fun vs H Q => ∃ (a : Addr) (n : Int) (ns : List Int), vs = [V.ref a] ∧ SqT K H a ((n :: ns).map V.int) ∧ Q (.int (ns.foldl min n)) H
theorem depth_ints : ∀ ns : List Int, PyData.depthAll (ns.map PyData.int) = 0
  | [] => rfl
  | n :: ns => by rw [List.map_cons]; unfold PyData.depthAll; rw [depth_ints ns]; rfl
theorem alike_ints (ns : List Int) : PySem.W.AlikeAll (ns.map PyData.int) := by
  refine ⟨fun x hx y hy => ?_, fun x hx => ?_⟩
  · obtain ⟨i, _, rfl⟩ := List.mem_map.mp hx
    obtain ⟨j, _, rfl⟩ := List.mem_map.mp hy
    rfl
  · obtain ⟨i, _, rfl⟩ := List.mem_map.mp hx
    exact fun z => nomatch z
theorem dp_ints (K : PySem.W.Frag) (H : Hp) : ∀ ns : List Int, DpAll K H (ns.map V.int) (ns.map PyData.int)
  | [] => .nil
  | n :: ns => .cons (.int n) (dp_ints K H ns)
theorem cr_maxT (hc : X.calm = true) (hu : X.A.units + 64 < cLine) : CallR X (.builtin "max") (rMaxT X.K) := by
  intro pins s σ H vs us Q I r h
  obtain ⟨a, n, ns, rfl, hs, q⟩ := h
  obtain ⟨its, rv, hl, hz⟩ := I.tuple hs
  rw [Vals.ref1 r]
  obtain ⟨as, hr⟩ := Dp.readsAll I _ _ its (dp_ints X.K H (n :: ns)) rv
  refine PySem.W.max_tuple_data (I.ok.hd hc) (show s.heap.IsTuple a its.toArray from hl) hr (alike_ints (n :: ns)) (by have z := depth_ints (n :: ns); rw [List.map_cons] at z; rw [z]; omega) fun i v h' tk bs hv rd hk => ?_
  rw [PySem.W.maxD_ints] at rd
  cases rd with
  | int _ t => exact ⟨.int _, H, I.kept hk, ⟨_, rfl⟩, q⟩
theorem cr_minT (hc : X.calm = true) (hu : X.A.units + 64 < cLine) : CallR X (.builtin "min") (rMinT X.K) := by
  intro pins s σ H vs us Q I r h
  obtain ⟨a, n, ns, rfl, hs, q⟩ := h
  obtain ⟨its, rv, hl, hz⟩ := I.tuple hs
  rw [Vals.ref1 r]
  obtain ⟨as, hr⟩ := Dp.readsAll I _ _ its (dp_ints X.K H (n :: ns)) rv
  refine PySem.W.min_tuple_data (I.ok.hd hc) (show s.heap.IsTuple a its.toArray from hl) hr (alike_ints (n :: ns)) (by have z := depth_ints (n :: ns); rw [List.map_cons] at z; rw [z]; omega) fun i v h' tk bs hv rd hk => ?_
  rw [PySem.W.minD_ints] at rd
  cases rd with
  | int _ t => exact ⟨.int _, H, I.kept hk, ⟨_, rfl⟩, q⟩

/-! ### len(set(xs)), xs a list or a tuple of ints -/
def tLenSetA (K : PySem.W.Frag) (ta : TE) : TE := fun σ H Q => ta σ H fun x H1 => ∃ (l : Addr) (ns : List Int), x = V.ref l ∧ (SqL K H1 l (ns.map V.int) ∨ SqT K H1 l (ns.map V.int)) ∧ ns.length < 4000 ∧ ∀ out : List Int, out.Nodup → (∀ k, k ∈ out ↔ k ∈ ns) → Q (.int out.length) H1
theorem firstMet_nd (f : Nat → Int) : ∀ i, (PyProof.Rows.firstMet f i).Nodup
  | 0 => by rw [PyProof.Rows.firstMet_zero]; exact List.nodup_nil
  | i + 1 => by
    rw [PyProof.Rows.firstMet_succ]
    have ih := firstMet_nd f i
    unfold PyProof.Rows.step_dedup
    split
    · exact ih
    · rename_i h
      rw [List.nodup_append]
      refine ⟨ih, by simp, fun a ha b hb => ?_⟩
      rw [List.mem_singleton] at hb
      intro e
      apply h
      rw [List.any_eq_true]
      exact ⟨a, ha, by rw [e, hb]; exact beq_self_eq_true _⟩
theorem pe_lenSetA {a : Expr} {ta : TE} {p p2 q pos : Pos} (hc : X.calm = true) (hg : Gl X "len") (hm : X.mg "len" = none) (hg2 : Gl X "set") (hm2 : X.mg "set" = none) (ha : PE X a ta)
    (na : starEach [a] X.env = (false, eval a X.env) :: starEach [] X.env := by rfl) : PE X (.Call (.Name "len" p) [.Call (.Name "set" p2) [a] [] q] [] pos) (tLenSetA X.K ta) := by
  refine ⟨fun pins s σ H Q I h => ?_⟩
  refine PyProof.Rows.Call_ (ld_blt I hg hm PySem.boot_len (PyProof.Rows.callWith_builtin1 (PyProof.Rows.args_cons ?_ rfl) rfl rfl))
  refine PyProof.Rows.Call_ (ld_blt I hg2 hm2 PyProof.Rows.boot_set (PyProof.Rows.callWith_type1 (PyProof.Rows.args_cons (thn (ha.run pins s σ H _ I h) fun v s1 ⟨x, H1, I1, r1, q1⟩ => PyProof.Rows.args_nil ?_) na) na rfl))
  obtain ⟨l, ns, rfl, hq, h1, q1⟩ := q1
  cases r1
  rcases hq with hq | hq
  · obtain ⟨its, r, pl, hz⟩ := I1.list hq
    have hl : its.toArray.size = ns.length := by rw [List.size_toArray, ← r.length, List.length_map]
    refine PySem.call_set_list (I1.ok.hd hc) pl.isList (ns := ns) (by simpa using r.ints) (by rw [hl]; unfold scanBound; omega) fun h' tk hS hk => ?_
    rw [hl] at hS
    refine PyProof.Rows.args_nil ?_
    obtain ⟨o, es, ep, t, ho, hex, hd, _, _, _, hf, hn⟩ := hS
    have I2 : Inv X pins σ H1 { s1 with heap := h', toks := tk } := I1.kept fun b o e => hk b o (Heap.lt_size e) e
    have hle := PyProof.Rows.firstMet_length_le (fun i => ns.getD i 0) ns.length
    refine call_len_set ho hex hd hf (by rw [hn]; omega) ⟨.int (PyProof.Rows.firstMet (fun i => ns.getD i 0) ns.length).length, H1, I2.tok _, ⟨_, by rw [hn]⟩, q1 _ (firstMet_nd _ _) fun k => ?_⟩
    have e1 := PyProof.Rows.firstMet_any (fun i => ns.getD i 0) ns.length k
    have e2 : (List.range ns.length).map (fun i => ns.getD i 0) = ns := by
      apply List.ext_getElem
      · simp
      · intro i h1 h2
        simp [List.getD, List.getElem?_eq_getElem h2]
    rw [e2] at e1
    have e3 : ∀ l : List Int, l.any (· == k) = true ↔ k ∈ l := fun l => by simp
    rw [← e3, ← e3, e1]
  · obtain ⟨its, r, pl, hz⟩ := I1.tuple hq
    refine call_set_tupI ns (I1.ok.hd hc) (show s1.heap.IsTuple l its.toArray from pl) (by simpa using r.ints) (by unfold scanBound; omega) fun h' tk c hS hcn hk => ?_
    refine PyProof.Rows.args_nil ?_
    obtain ⟨o, es, ep, t, ho, hex, hd, _, nd, mem, hsz, hf, hn, _⟩ := hS
    have I2 : Inv X pins σ H1 { s1 with heap := h', toks := tk } := I1.kept hk
    refine call_len_set ho hex hd hf (by rw [hn]; omega) ⟨.int (es.toList.map keyOf).length, H1, I2.tok _, ⟨_, by rw [List.length_map, Array.length_toList]⟩, q1 _ nd fun k => ?_⟩
    rw [← mem k, decide_eq_true_eq]

/-! ### enumerate of a tuple -/
/-- the tuple at a, its items in new pairs -/
def IteT (K : PySem.W.Frag) (a : Addr) : It :=
  ⟨fun i H => ∃ (xs : List V) (x : V), SqT K H a xs ∧ xs[i]? = some x, fun i H v H' => ∃ T x o, v = .ref T ∧ H T = none ∧ DLT.PT [.int (i : Nat), x] o ∧ H' = upd H T o ∧ ∀ xs, SqT K H a xs → xs[i]? = some x, fun i H => ∃ xs : List V, SqT K H a xs ∧ xs.length ≤ i⟩
theorem turn_enumT {P : Program} {w : World} {K : PySem.W.Frag} {elts : List Expr} {kk : Nat} {tpos : Pos} (a e it : Addr) (hea : a ≠ it) (hef : e ≠ a) :
    Turn P w K (.Tuple elts kk tpos) (IteT K a) [e, it] e (fun i h => (∃ old, IsEnum h e it ((i : Nat) : Int) old) ∧ h.IsTupleIter it a i ∧ e ≠ it) where
  mem := List.mem_cons_self
  obj := fun i h st b hb => by
    obtain ⟨⟨old, he⟩, ⟨o, ho, hc, hd⟩, _⟩ := st
    rcases List.mem_cons.mp hb with z | z
    · rw [z]; exact ⟨_, he, fun v q => nomatch q⟩
    · rw [List.mem_singleton.mp z]; exact ⟨o, ho, fun v q => by rw [hd] at q; cases q⟩
  keep := fun i h h' st k => let ⟨⟨old, he⟩, ⟨o, ho, r⟩, hne⟩ := st; ⟨⟨old, k e List.mem_cons_self _ he⟩, ⟨o, k it (List.mem_cons_of_mem _ List.mem_cons_self) o ho, r⟩, hne⟩
  item := by
    intro X hP hw hK hc i pins s σ H E I hf st hg
    subst hP hw hK
    obtain ⟨⟨old, he⟩, hit, hne⟩ := st
    obtain ⟨xs, x, hq, hx⟩ := hg
    obtain ⟨its, rv, p, hz⟩ := I.tuple hq
    obtain ⟨u, hu, ru⟩ := rv.get hx
    have hel : e < s.heap.objs.size := Heap.lt_size he
    have hil : it < s.heap.objs.size := (by obtain ⟨_, q, _⟩ := hit; exact Heap.lt_size q)
    have lt : i < its.toArray.size := (List.getElem?_eq_some_iff.mp hu).1
    refine wpAny_pyNext_enum_itemD (Draws.tuple (prog := X.prog) (w := X.w) (A := X.A.in1) (I.ok.hd hc) it a hea its.toArray) he ⟨hit, p⟩ lt hne (by simp [hne, hef]) fun y h' tk hy ho hst' hT hsz hk => ?_
    have ey : y = u := Option.some.inj (hy.symm.trans (by simpa using hu))
    subst ey
    refine ⟨_, rfl, wpAny_letOwnedTupleGo_enum (s := { s with heap := h', toks := tk + 1 }) ho fun h2 he' sb => ?_⟩
    have hT2 : h2.get? s.heap.objs.size = some { cls := .type "tuple", data := .seq #[.int i tk, y] } := (sb.2 _ (Nat.ne_of_gt hel)).trans hT
    have fr : H s.heap.objs.size = none := I.hok.fresh (Nat.le_refl _)
    have new : ObjOk X.prog X.w (upd H s.heap.objs.size (.frz { cls := .type "tuple", data := .seq #[.int i tk, y] } (.tup [.int (i : Nat), x]))) h2 s.heap.objs.size (.frz { cls := .type "tuple", data := .seq #[.int i tk, y] } (.tup [.int (i : Nat), x])) := ⟨hT2, (by show 2 ≤ sizeLine; decide), [.int i tk, y], .cons ⟨_, rfl⟩ (.cons ru .nil), ⟨_, hT2, rfl, _, rfl⟩⟩
    have I1 := I.turnedNew (t' := tk + 1) (ch := [e, it]) (fun b ob hb q => (sb.2 b (fun z => hb (by simp [z]))).trans (hk b ob (fun z => hb (by simp [z])) (fun z => hb (by simp [z])) q)) hf (Nat.le_refl _) new
    obtain ⟨⟨oi, hoi, ri⟩, _⟩ := hst'
    refine ⟨.ref s.heap.objs.size, _, I1, rfl, ⟨_, x, _, rfl, fr, ⟨_, rfl, rfl⟩, rfl, fun ys hy => by rw [I.tuple_inj hy hq]; exact hx⟩, ⟨⟨y, he'⟩, ⟨oi, (sb.2 it (Ne.symm hne)).trans hoi, ri⟩, hne⟩, fun b hb => ?_⟩
    have hb' : b < s.heap.objs.size := by
      rcases List.mem_cons.mp hb with z | z
      · rw [z]; exact hel
      · rw [List.mem_singleton.mp z]; exact hil
    rw [upd_ne (Nat.ne_of_lt hb')]; exact (hf b hb).1
  done := by
    intro X hP hw hK hc i pins s σ H E I hf st hg
    subst hP hw hK
    obtain ⟨⟨old, he⟩, hit, hne⟩ := st
    obtain ⟨xs, hq, hx⟩ := hg
    obtain ⟨its, rv, p, hz⟩ := I.tuple hq
    have D := Draws.tuple (prog := X.prog) (w := X.w) (A := X.A.in1) (I.ok.hd hc) it a hea its.toArray
    obtain ⟨f0, f1, f2, f3, f4, f5⟩ := hf it (List.mem_cons_of_mem _ List.mem_cons_self)
    exact DLM.enum_end (I.ok.hd hc) he hit p hea (by rw [List.size_toArray, ← rv.length]; exact hx) fun h' eb => ⟨rfl, I.turned (t' := s.toks) (fun b o hb q => eb b o hb q) f0 f1 f3 f4 f5⟩
  self := fun A i s Q E st h => let ⟨⟨_, he⟩, _⟩ := st; wpAny_pyIter_enum he h

section
variable {X : Cx}
/-- enumerate(xs): over a list or a tuple -/
def iEnumA (K : PySem.W.Frag) (ta : TA) : TI := fun σ H R => ta σ H fun vs H1 => ∃ a xs, vs = [.ref a] ∧ ((SqL K H1 a xs ∧ R (DLT.IteP K a) H1) ∨ (SqT K H1 a xs ∧ R (IteT K a) H1))
theorem pi_enumA {e : Expr} {ta : TA} {p pos tpos : Pos} {elts : List Expr} {kk : Nat} (hg : Gl X "enumerate") (hm : X.mg "enumerate" = none) (ha : PA X [e] ta) (hs : starEach [e] X.env = [(false, eval e X.env)] := by rfl) :
    PI X (.Tuple elts kk tpos) (.Call (.Name "enumerate" p) [e] [] pos) (iEnumA X.K ta) := by
  refine ⟨fun pins s σ H R I h => PyProof.Rows.Call_ (ld_blt I hg hm PyProof.Rows.boot_enumerate (PyProof.Rows.callWith_type1 (thn (ha.run pos pins s σ H _ I h) fun us s1 ⟨vs, H1, I1, r1, q1⟩ => ?_) hs rfl))⟩
  obtain ⟨a, xs, rfl, q⟩ := q1
  cases r1 with
  | cons r rr =>
    cases rr
    cases r
    have fp : ∀ b ∈ [s1.heap.objs.size + 1, s1.heap.objs.size], s1.heap.objs.size ≤ b := fun b hb => by
      rcases List.mem_cons.mp hb with z | z
      · rw [z]; exact Nat.le_succ _
      · rw [List.mem_singleton.mp z]; exact Nat.le_refl _
    rcases q with ⟨hq, q⟩ | ⟨hq, q⟩
    · obtain ⟨its, rv, p', hz⟩ := I1.list hq
      refine call_enumerate_list p'.isList fun h' he hit hsz hk => wpAny_pyIter_enum he ?_
      exact ⟨s1.heap.objs.size + 1, [s1.heap.objs.size + 1, s1.heap.objs.size], _, _, H1, rfl, I1.kept (t' := s1.toks) hk, DLT.turn_enumP a (s1.heap.objs.size + 1) s1.heap.objs.size, ⟨⟨.none, he⟩, hit, Nat.succ_ne_self _⟩, fun b hb => I1.fpOk (fp b hb) (I1.hok.fresh (fp b hb)), q⟩
    · obtain ⟨its, rv, p', hz⟩ := I1.tuple hq
      have hlt : a < s1.heap.objs.size := (by obtain ⟨o, e, _⟩ := p'; exact Heap.lt_size e)
      refine DLM.call_enum_tup (show s1.heap.IsTuple a its.toArray from p') fun h' he hit hsz hk => wpAny_pyIter_enum he ?_
      exact ⟨s1.heap.objs.size + 1, [s1.heap.objs.size + 1, s1.heap.objs.size], _, _, H1, rfl, I1.kept (t' := s1.toks) hk, turn_enumT a (s1.heap.objs.size + 1) s1.heap.objs.size (Nat.ne_of_lt hlt) (Nat.ne_of_gt (Nat.lt_succ_of_lt hlt)), ⟨⟨.none, he⟩, hit, Nat.succ_ne_self _⟩, fun b hb => I1.fpOk (fp b hb) (I1.hok.fresh (fp b hb)), q⟩
/-- for x in xs, xs a list or a tuple -/
def iSeq (K : PySem.W.Frag) (tl : TE) : TI := fun σ H R => tl σ H fun x H1 => ∃ a, x = .ref a ∧ (((∃ xs, SqL K H1 a xs) ∧ R (Itl K a) H1) ∨ ((∃ xs, SqT K H1 a xs) ∧ R (Itt K a) H1))
theorem pi_seq {tg l : Expr} {tl : TE} (hl : PE X l tl) : PI X tg l (iSeq X.K tl) := by
  refine ⟨fun pins s σ H R I h => thn (hl.run pins s σ H _ I h) fun v s1 ⟨x, H1, I1, r1, q1⟩ => ?_⟩
  obtain ⟨a, rfl, q⟩ := q1
  cases r1
  have fp : ∀ b ∈ [s1.heap.objs.size], FpOk X pins H1 b := fun b hb => by
    rw [List.mem_singleton.mp hb]
    exact I1.fpOk (Nat.le_refl _) (I1.hok.fresh (Nat.le_refl _))
  rcases q with ⟨⟨xs, hq⟩, q⟩ | ⟨⟨xs, hq⟩, q⟩
  · obtain ⟨its, rv, p, hz⟩ := I1.list hq
    exact PySem.wpAny_pyIter_list p.isList ⟨s1.heap.objs.size, [s1.heap.objs.size], _, _, H1, rfl, I1.kept (t' := s1.toks) fun b o e => Heap.get?_push_of_some _ e, turn_list a _, ⟨_, Heap.get?_push_size _ rfl, rfl, rfl⟩, fp, q⟩
  · obtain ⟨its, rv, p, hz⟩ := I1.tuple hq
    exact PySem.wpAny_pyIter_tuple (show s1.heap.IsTuple a its.toArray from p) ⟨s1.heap.objs.size, [s1.heap.objs.size], _, _, H1, rfl, I1.kept (t' := s1.toks) fun b o e => Heap.get?_push_of_some _ e, turn_tuple a _, ⟨_, Heap.get?_push_size _ rfl, rfl, rfl⟩, fp, q⟩
end
end
end DL

/-! DLH: what the head tells of an own exception class. -/
namespace DL
open PySem PySem.Spec PyProof.Rows L2
section
variable (K : PySem.W.Frag)
/-- the class object at C is an exception class over ValueError with a dict -/
def exClsB (C : Addr) : Bool := match K.lookup C with
  | some ⟨.type "type", _, .cls cd, sl⟩ => (match cd.mro, sl.toList with
    | .ref D :: bm, [_, _, _, _, some (.builtin n), _] => D == C && (n == "ValueError.__new__" && (!cd.hasDel && (cd.hasDict && PySem.HandSPX.refsVE bm)))
    | _, _ => false)
  | _ => false
def exB (x : Str) (fs : List Str) (ini : Bool) : Bool :=
  exClsB K (He.ga K x) && (decide (PySem.W.findIn K (.ref (He.ga K x)) "__setattr__" = some (some (.builtin "object.__setattr__"))) && (decide (PySem.W.subIn K (.ref (He.ga K x)) (.type "BaseException") = some true) &&
  (decide (PySem.W.typeIn K (.ref (He.ga K x)) = some (.type "type")) && (PySem.W.keepIn K (.ref (He.ga K x)) && (xfB K (He.ga K x) && (fs.all (fun f => decide (PySem.W.findIn K (.ref (He.ga K x)) f = some none)) &&
  ((!ini || (decide (PySem.W.findIn K (.ref (He.ga K x)) "__init__" = some (some (.ref (He.ma K (He.ga K x) "__init__")))) && decide (PySem.W.typeIn K (.ref (He.ma K (He.ga K x) "__init__")) = some (.type "function")))) &&
  (decide (PySem.W.findIn K (.ref (He.ga K x)) "__class__" = some (some (.builtin "object.__class__"))) && (decide (PySem.W.specialIn K (.builtin "object.__class__") "__get__" = some (some (.builtin "getset_descriptor.__get__"))) &&
  (decide (PySem.W.takesIn K (.builtin "object.__class__") = some true) && decide (PySem.W.mroIn K (He.ga K x) (.type "object") = some true)))))))))))
def exmB (x y : Str) (b : Bool) : Bool := decide (PySem.W.exmOne K (.ref (He.ga K x)) (.ref (He.ga K y)) = some b)
def isiB (x y : Str) (b : Bool) : Bool := decide (PySem.W.kitOne K (.ref (He.ga K x)) (.ref (He.ga K y)) = some b)
end
variable {K : PySem.W.Frag}
theorem exCls_ok {C : Addr} (q : exClsB K C = true) : ∃ nm qn N bs bm sn sub ab col dd k0 k1 k2 k3 k5, K.lookup C = some (excClassObj nm qn C N bs bm true sn sub ab col dd k0 k1 k2 k3 k5 "ValueError.__new__") ∧ PySem.HandSPX.refsVE bm = true := by
  unfold exClsB at q
  split at q
  · rename_i dd cd sl ho
    split at q
    · rename_i D bm k0 k1 k2 k3 n k5 hm hs
      simp only [Bool.and_eq_true, beq_iff_eq, Bool.not_eq_true'] at q
      obtain ⟨rfl, rfl, hdel, hd, ht⟩ := q
      obtain ⟨nm, bs, mro, ns, qn, hd', sn, sub, ab, col, del⟩ := cd
      dsimp only at hm hdel hd
      subst hm hdel hd
      have hsl : sl = #[k0, k1, k2, k3, some (.builtin "ValueError.__new__"), k5] := by
        obtain ⟨l⟩ := sl
        simp only at hs
        rw [hs]
      subst hsl
      exact ⟨nm, qn, ns, bs, bm, sn, sub, ab, col, dd, k0, k1, k2, k3, k5, ho, ht⟩
    · cases q
  · cases q
/-- all that is asked of an own exception class -/
structure ExCls (K : PySem.W.Frag) (C : Addr) (fs : List Str) : Prop where
  ox : OexC K C
  xf : XfC K C
  no : ∀ f ∈ fs, PySem.W.findIn K (.ref C) f = some none
  is : ExcC K C
theorem exB_ok {x : Str} {fs : List Str} {ini : Bool} (q : exB K x fs ini = true) : ExCls K (He.ga K x) fs ∧ (ini = true → PySem.W.findIn K (.ref (He.ga K x)) "__init__" = some (some (.ref (He.ma K (He.ga K x) "__init__"))) ∧ PySem.W.typeIn K (.ref (He.ma K (He.ga K x) "__init__")) = some (.type "function")) := by
  unfold exB at q
  simp only [Bool.and_eq_true, decide_eq_true_eq] at q
  obtain ⟨h1, h2, h3, h4, h5, h6, h7, h8, h9, h10, h11, h12⟩ := q
  have z := xfB_ok h6
  refine ⟨⟨⟨exCls_ok h1, h2, h3, h4, h5⟩, z, fun f hf => of_decide_eq_true (List.all_eq_true.mp h7 f hf), ⟨z.ga, z.gg, h3, z.hdC, h9, h10, h11, h12⟩⟩, fun e => ?_⟩
  subst e
  simpa using h8
theorem exmB_ok {x y : Str} {b : Bool} (q : exmB K x y b = true) : PySem.W.exmOne K (.ref (He.ga K x)) (.ref (He.ga K y)) = some b := of_decide_eq_true q
theorem isiB_ok {x y : Str} {b : Bool} (q : isiB K x y b = true) : PySem.W.kitOne K (.ref (He.ga K x)) (.ref (He.ga K y)) = some b := of_decide_eq_true q
end DL

/-! DL8: for over sequences, enumerate, sorted, max, min, in, op=. -/
namespace DL
open PySem PySem.Spec L2

section
variable {K : PySem.W.Frag} {X : Cx} {W : WX} {F : Addr → Prop} {H : Hp} {ρ : Dv} {M : Mem} {σ : L2.St} {a b e o : Expr} {ga gb gc gd : DE} {pos cpos apos : Pos}
/-! ### for x in xs -/
def iSeqD (g : DE) : DI := fun E ρ M R => g E ρ M fun d M1 => onSrc M1 d R
theorem fi_seq {tg : Expr} (hK : X.K = K) (ha : FE K X W a ga) : FI K X W tg a (iSeqD ga) := by
  subst hK
  refine PI.imp (pi_seq ha) fun σ H R ⟨F, ρ, M, E, R', s, x, q, h⟩ => tG_mk s x (fun F1 H1 M1 d v e1 m1 r1 h1 => ?_) h
  unfold onSrc at h1
  cases z : srcOf M1 d with
  | none => rw [z] at h1; exact h1.elim
  | some src =>
    rw [z] at h1
    obtain ⟨o, k, a, e, sa⟩ := src_at m1 r1 z
    refine ⟨a, e, ?_⟩
    obtain ⟨vs, h2, h3⟩ := sa F1 H1 M1 (ExtW.refl _ _) m1 o
    cases k with
    | l => exact .inl ⟨⟨vs, h2⟩, q F1 H1 M1 _ src e1 m1 (src_list (items := src.items) (ok := src.ok) fun F' H' M' x m o => sa F' H' M' x m o) h1⟩
    | t => exact .inr ⟨⟨vs, TupAt.sq h2⟩, q F1 H1 M1 _ src e1 m1 (src_tup (items := src.items) (ok := src.ok) fun F' H' M' x m o => (by obtain ⟨vs, h1, h2⟩ := sa F' H' M' x m o; exact ⟨vs, TupAt.sq h1, h2⟩)) h1⟩
/-! enumerate -/
def enD (ds : List D) : List D := ds.zipIdx.map fun p => D.tup [.int (p.2 : Nat), p.1]
theorem enD_get {ds : List D} {i : Nat} {d : D} (h : (enD ds)[i]? = some d) : ∃ x, ds[i]? = some x ∧ d = .tup [.int (i : Nat), x] := by
  unfold enD at h
  rw [List.getElem?_map, List.getElem?_zipIdx] at h
  cases z : ds[i]? with
  | none => rw [z] at h; cases h
  | some x => rw [z] at h; simp at h; exact ⟨x, rfl, h.symm⟩
theorem enD_length (ds : List D) : (enD ds).length = ds.length := by unfold enD; simp
theorem src_enum {a0 : Addr} {items : List D} {ok : Mem → Prop} (h : ∀ F' H' M', ExtW F H F' H' → MemOk K F' H' M' → ok M' → ∃ vs, SqL K H' a0 vs ∧ Rps K F' H' items vs) : SrcOk K F H (DLT.IteP K a0) ⟨enD items, ok⟩ := fun F' H' M' e m o i => by
  obtain ⟨vs, q, r⟩ := h F' H' M' e m o
  refine ⟨fun d hd => ?_, fun hl => ⟨vs, q, by rw [r.length, ← enD_length]; exact hl⟩⟩
  obtain ⟨x, hx, rfl⟩ := enD_get hd
  obtain ⟨v, hv, rv⟩ := r.get hx
  refine ⟨⟨vs, v, q, hv⟩, fun y H2 yy => ?_⟩
  obtain ⟨T, u, o2, rfl, hT, po, rfl, y2⟩ := yy
  have z := y2 vs q
  rw [hv] at z
  cases z
  have l : Ext F' H' M' F' (upd H' T o2) M' := Ext.laid hT fun _ z => z
  refine ⟨F', l, m.aside hT _, ?_⟩
  unfold Rp
  exact ⟨T, _, rfl, .inl ⟨o2, po, upd_same⟩, .cons Rp.int (.cons (Rp.mono l _ _ rv) .nil)⟩
theorem src_enumT {a0 : Addr} {items : List D} {ok : Mem → Prop} (h : ∀ F' H' M', ExtW F H F' H' → MemOk K F' H' M' → ok M' → ∃ vs, SqT K H' a0 vs ∧ Rps K F' H' items vs) : SrcOk K F H (IteT K a0) ⟨enD items, ok⟩ := fun F' H' M' e m o i => by
  obtain ⟨vs, q, r⟩ := h F' H' M' e m o
  refine ⟨fun d hd => ?_, fun hl => ⟨vs, q, by rw [r.length, ← enD_length]; exact hl⟩⟩
  obtain ⟨x, hx, rfl⟩ := enD_get hd
  obtain ⟨v, hv, rv⟩ := r.get hx
  refine ⟨⟨vs, v, q, hv⟩, fun y H2 yy => ?_⟩
  obtain ⟨T, u, o2, rfl, hT, po, rfl, y2⟩ := yy
  have z := y2 vs q
  rw [hv] at z
  cases z
  have l : Ext F' H' M' F' (upd H' T o2) M' := Ext.laid hT fun _ z => z
  refine ⟨F', l, m.aside hT _, ?_⟩
  unfold Rp
  exact ⟨T, _, rfl, .inl ⟨o2, po, upd_same⟩, .cons Rp.int (.cons (Rp.mono l _ _ rv) .nil)⟩
def iEnumD (g : DA) : DI := fun E ρ M R => g E ρ M fun ds M1 => match ds with
  | [d] => onSrc M1 d fun s M2 => R ⟨enD s.items, s.ok⟩ M2
  | _ => False
theorem fi_enum {p tpos : Pos} {elts : List Expr} {kk : Nat} {g : DA} (hK : X.K = K) (hm : X.mg "enumerate" = none) (ha : FA K X W [a] g) (hg : Gl X "enumerate" := by rfl) (hs : starEach [a] X.env = [(false, eval a X.env)] := by rfl) :
    FI K X W (.Tuple elts kk tpos) (.Call (.Name "enumerate" p) [a] [] pos) (iEnumD g) := by
  subst hK
  refine PI.imp (pi_enumA hg hm ha hs) fun σ H R ⟨F, ρ, M, E, R', s, x, q, h⟩ => (⟨F, ρ, M, E, _, s, x, fun F1 H1 M1 ds vs e1 m1 r1 h1 => ?_, h⟩ : tGa X.K W g σ H _)
  match ds, h1 with
  | [d], h1 =>
    obtain ⟨v, rfl, rv1⟩ := r1.one
    have h2 : onSrc M1 d fun s M2 => R' ⟨enD s.items, s.ok⟩ M2 := h1
    unfold onSrc at h2
    cases z : srcOf M1 d with
    | none => rw [z] at h2; exact h2.elim
    | some src =>
      rw [z] at h2
      obtain ⟨o, k, a, rfl, sa⟩ := src_at m1 rv1 z
      obtain ⟨vs, h3, h4⟩ := sa F1 H1 M1 (ExtW.refl _ _) m1 o
      refine ⟨a, vs, rfl, ?_⟩
      cases k with
      | l => exact .inl ⟨h3, q F1 H1 M1 _ _ e1 m1 (src_enum (items := src.items) (ok := src.ok) fun F' H' M' x m o => sa F' H' M' x m o) h2⟩
      | t => exact .inr ⟨TupAt.sq h3, q F1 H1 M1 _ _ e1 m1 (src_enumT (items := src.items) (ok := src.ok) fun F' H' M' x m o => (by obtain ⟨vs, h1, h2⟩ := sa F' H' M' x m o; exact ⟨vs, TupAt.sq h1, h2⟩)) h2⟩

/-! ### sorted, max, min, len(set()) -/
def insI (a : Int) : List Int → List Int
  | [] => [a]
  | b :: l => if a ≤ b then a :: b :: l else b :: insI a l
def sortI : List Int → List Int
  | [] => []
  | a :: l => insI a (sortI l)
theorem insI_perm (a : Int) : ∀ l, (insI a l).Perm (a :: l)
  | [] => .refl _
  | b :: l => by
    unfold insI
    split
    · exact .refl _
    · exact ((insI_perm a l).cons b).trans (List.Perm.swap a b l)
theorem sortI_perm : ∀ l, (sortI l).Perm l
  | [] => .refl _
  | a :: l => (insI_perm a _).trans ((sortI_perm l).cons a)
theorem insI_sorted (a : Int) : ∀ {l : List Int}, l.Pairwise (· ≤ ·) → (insI a l).Pairwise (· ≤ ·)
  | [], _ => by simp [insI]
  | b :: l, h => by
    unfold insI
    rw [List.pairwise_cons] at h
    split
    · rename_i c
      rw [List.pairwise_cons, List.pairwise_cons]
      refine ⟨fun x hx => ?_, h.1, h.2⟩
      rcases List.mem_cons.mp hx with z | z
      · omega
      · have := h.1 x z; omega
    · rename_i c
      rw [List.pairwise_cons]
      refine ⟨fun x hx => ?_, insI_sorted a h.2⟩
      rcases List.mem_cons.mp ((insI_perm a l).mem_iff.mp hx) with z | z
      · omega
      · exact h.1 x z
theorem sortI_sorted : ∀ l, (sortI l).Pairwise (· ≤ ·)
  | [] => .nil
  | a :: l => insI_sorted a (sortI_sorted l)
theorem sorted_uniq : ∀ {l m : List Int}, l.Perm m → l.Pairwise (· ≤ ·) → m.Pairwise (· ≤ ·) → l = m
  | [], m, p, _, _ => p.nil_eq
  | a :: l, [], p, _, _ => absurd p.length_eq (by simp)
  | a :: l, b :: m, p, h1, h2 => by
    rw [List.pairwise_cons] at h1 h2
    have e : a = b := by
      have x1 : a ∈ b :: m := p.mem_iff.mp (by simp)
      have x2 : b ∈ a :: l := p.mem_iff.mpr (by simp)
      rcases List.mem_cons.mp x1 with z | z
      · exact z
      · rcases List.mem_cons.mp x2 with y | y
        · exact y.symm
        · have := h1.1 b y; have := h2.1 a z; omega
    subst e
    rw [sorted_uniq (List.Perm.cons_inv p) h1.2 h2.2]
def nSortOf : List D → Mem → (List D → Mem → Prop) → Prop := fun ds M Q => match ds with
  | [x] => onS M x fun xs => ∃ ns : List Int, xs = ns.map D.int ∧ Q ((sortI ns).map D.int) M
  | _ => False
theorem rps_ints : ∀ ns : List Int, Rps K F H (ns.map D.int) (ns.map V.int) := Rps.map_of fun _ => Rp.int
theorem cn_sorted (hK : X.K = K) : CallR X (.builtin "sorted") (rNs K nSortOf) := by
  subst hK
  refine CallR.imp (CallR.or cr_sortedI cr_sortT) fun xs H Q ⟨F, M, ds, Q', m, r, q, h⟩ => ?_
  match ds, h with
  | [d], h =>
    obtain ⟨v, rfl, rv⟩ := r.one
    have h' : onS M d fun xs => ∃ ns : List Int, xs = ns.map D.int ∧ Q' ((sortI ns).map D.int) M := h
    obtain ⟨es, a, vs, ⟨ns, rfl, h⟩, rfl, k, r⟩ := onS_at m rv h'
    have z := Rp.ints r
    subst z
    have fin : ∀ (ns' : List Int) (p : Addr), ns'.Perm ns → ns'.Pairwise (· ≤ ·) → H p = none → Q (.ref p) (upd H p (.lst (ns'.map V.int))) := fun ns' p h1 h2 hp => by
      have e : ns' = sortI ns := sorted_uniq (h1.trans (sortI_perm ns).symm) h2 (sortI_sorted ns)
      subst e
      exact newL (Ext.refl _ _ _) m (rps_ints _) hp q h
    exact k.imp (fun k => ⟨a, ns, rfl, k, fin⟩) fun k => ⟨a, ns, rfl, k.sq, fin⟩
theorem foldl_max : ∀ (ns : List Int) (n : Int), n ≤ ns.foldl max n ∧ (∀ y ∈ ns, y ≤ ns.foldl max n) ∧ (ns.foldl max n = n ∨ ns.foldl max n ∈ ns)
  | [], n => ⟨Int.le_refl _, by simp, .inl rfl⟩
  | a :: ns, n => by
    obtain ⟨h1, h2, h3⟩ := foldl_max ns (max n a)
    rw [List.foldl_cons]
    refine ⟨by omega, fun y hy => ?_, ?_⟩
    · rcases List.mem_cons.mp hy with z | z
      · omega
      · exact h2 y z
    · rcases h3 with z | z
      · rw [z]
        rcases Int.le_total n a with y | y
        · right; simp; omega
        · left; omega
      · right; exact List.mem_cons_of_mem _ z
theorem foldl_min : ∀ (ns : List Int) (n : Int), ns.foldl min n ≤ n ∧ (∀ y ∈ ns, ns.foldl min n ≤ y) ∧ (ns.foldl min n = n ∨ ns.foldl min n ∈ ns)
  | [], n => ⟨Int.le_refl _, by simp, .inl rfl⟩
  | a :: ns, n => by
    obtain ⟨h1, h2, h3⟩ := foldl_min ns (min n a)
    rw [List.foldl_cons]
    refine ⟨by omega, fun y hy => ?_, ?_⟩
    · rcases List.mem_cons.mp hy with z | z
      · omega
      · exact h2 y z
    · rcases h3 with z | z
      · rw [z]
        rcases Int.le_total n a with y | y
        · left; omega
        · right; simp; omega
      · right; exact List.mem_cons_of_mem _ z
def dMax : DRs := fun ds M Q => match ds with
  | [x] => onS M x fun xs => ∃ (n : Int) (ns : List Int), xs = (n :: ns).map D.int ∧ Q (.int (ns.foldl max n)) M
  | [.int i, .int j] => Q (.int (max i j)) M
  | _ => False
def dMin : DRs := fun ds M Q => match ds with
  | [x] => onS M x fun xs => ∃ (n : Int) (ns : List Int), xs = (n :: ns).map D.int ∧ Q (.int (ns.foldl min n)) M
  | [.int i, .int j] => Q (.int (min i j)) M
  | _ => False
theorem cd_max (hK : X.K = K) (hc : X.calm = true) (hu : X.A.units + 64 < cLine) : CallD K X (.builtin "max") dMax := by
  subst hK
  refine CallR.imp (CallR.or (cr_max hc) (CallR.or (cr_maxT hc hu) (call_max2 hc))) fun xs H Q ⟨F, M, ds, Q', m, r, q, h⟩ => ?_
  match ds, h with
  | [d], h =>
    obtain ⟨v, rfl, rv⟩ := r.one
    have h' : onS M d fun xs => ∃ (n : Int) (ns : List Int), xs = (n :: ns).map D.int ∧ Q' (.int (ns.foldl max n)) M := by
      cases d <;> exact h
    obtain ⟨es, a, vs, ⟨n, ns, rfl, h⟩, rfl, k, r⟩ := onS_at m rv h'
    have z := Rp.ints r
    subst z
    rcases k with k | k
    · refine .inl ⟨a, n :: ns, rfl, k, by simp, fun y hy1 hy2 => ?_⟩
      obtain ⟨f1, f2, f3⟩ := foldl_max ns n
      have e : y = ns.foldl max n := by
        have t1 : ns.foldl max n ≤ y := hy2 _ (by rcases f3 with f3 | f3; · rw [f3]; simp
                                                  · exact List.mem_cons_of_mem _ f3)
        have t2 : y ≤ ns.foldl max n := by
          rcases List.mem_cons.mp hy1 with z | z
          · omega
          · exact f2 y z
        omega
      subst e
      exact q F H M _ _ (Ext.refl _ _ _) m Rp.int h
    · exact .inr (.inl ⟨a, n, ns, rfl, k.sq, q F H M _ _ (Ext.refl _ _ _) m Rp.int h⟩)
  | [.int i, .int j], h =>
    obtain ⟨v, w, rfl, r1, r2⟩ := r.two
    refine .inr (.inr ⟨i, j, by rw [r1.int_inv, r2.int_inv], ?_⟩)
    have e : (if j > i then j else i) = max i j := by
      split <;> omega
    rw [e]
    exact q F H M _ _ (Ext.refl _ _ _) m Rp.int h
theorem cd_min (hK : X.K = K) (hc : X.calm = true) (hu : X.A.units + 64 < cLine) : CallD K X (.builtin "min") dMin := by
  subst hK
  refine CallR.imp (CallR.or (cr_min hc) (CallR.or (cr_minT hc hu) (call_min2 hc))) fun xs H Q ⟨F, M, ds, Q', m, r, q, h⟩ => ?_
  match ds, h with
  | [d], h =>
    obtain ⟨v, rfl, rv⟩ := r.one
    have h' : onS M d fun xs => ∃ (n : Int) (ns : List Int), xs = (n :: ns).map D.int ∧ Q' (.int (ns.foldl min n)) M := by
      cases d <;> exact h
    obtain ⟨es, a, vs, ⟨n, ns, rfl, h⟩, rfl, k, r⟩ := onS_at m rv h'
    have z := Rp.ints r
    subst z
    rcases k with k | k
    · refine .inl ⟨a, n :: ns, rfl, k, by simp, fun y hy1 hy2 => ?_⟩
      obtain ⟨f1, f2, f3⟩ := foldl_min ns n
      have e : y = ns.foldl min n := by
        have t1 : y ≤ ns.foldl min n := hy2 _ (by rcases f3 with f3 | f3; · rw [f3]; simp
                                                  · exact List.mem_cons_of_mem _ f3)
        have t2 : ns.foldl min n ≤ y := by
          rcases List.mem_cons.mp hy1 with z | z
          · omega
          · exact f2 y z
        omega
      subst e
      exact q F H M _ _ (Ext.refl _ _ _) m Rp.int h
    · exact .inr (.inl ⟨a, n, ns, rfl, k.sq, q F H M _ _ (Ext.refl _ _ _) m Rp.int h⟩)
  | [.int i, .int j], h =>
    obtain ⟨v, w, rfl, r1, r2⟩ := r.two
    refine .inr (.inr ⟨i, j, by rw [r1.int_inv, r2.int_inv], ?_⟩)
    have e : (if j < i then j else i) = min i j := by
      split <;> omega
    rw [e]
    exact q F H M _ _ (Ext.refl _ _ _) m Rp.int h
def ddup : List Int → List Int
  | [] => []
  | a :: l => if l.contains a then ddup l else a :: ddup l
theorem ddup_mem (k : Int) : ∀ l, k ∈ ddup l ↔ k ∈ l
  | [] => by simp [ddup]
  | a :: l => by
    unfold ddup
    split
    · rename_i h
      have h : a ∈ l := by simpa using h
      rw [ddup_mem k l, List.mem_cons]
      exact ⟨.inr, fun z => z.elim (fun z => by rw [z]; exact h) fun z => z⟩
    · rw [List.mem_cons, List.mem_cons, ddup_mem k l]
theorem ddup_nodup : ∀ l, (ddup l).Nodup
  | [] => List.nodup_nil
  | a :: l => by
    unfold ddup
    split
    · exact ddup_nodup l
    · rename_i h
      rw [List.nodup_cons, ddup_mem]
      exact ⟨by simpa using h, ddup_nodup l⟩
theorem nodup_le : ∀ {l m : List Int}, l.Nodup → (∀ k ∈ l, k ∈ m) → l.length ≤ m.length
  | [], m, _, _ => Nat.zero_le _
  | a :: l, m, h, s => by
    rw [List.nodup_cons] at h
    have ha : a ∈ m := s a (by simp)
    have := nodup_le (m := m.erase a) h.2 fun k hk => (List.mem_erase_of_ne (show k ≠ a from fun z => h.1 (by rw [← z]; exact hk))).mpr (s k (List.mem_cons_of_mem _ hk))
    rw [List.length_erase_of_mem ha] at this
    have : 0 < m.length := List.length_pos_of_mem ha
    rw [List.length_cons]
    omega
theorem ddup_len {l m : List Int} (h : l.Nodup) (s : ∀ k, k ∈ l ↔ k ∈ m) : l.length = (ddup m).length :=
  Nat.le_antisymm (nodup_le h fun k hk => (ddup_mem k m).mpr ((s k).mp hk)) (nodup_le (ddup_nodup m) fun k hk => (s k).mpr ((ddup_mem k m).mp hk))
def gLenSet (g : DE) : DE := fun E ρ M Q => g E ρ M fun d M1 => onS M1 d fun xs => ∃ ns : List Int, xs = ns.map D.int ∧ ns.length < 4000 ∧ Q (.int (ddup ns).length) M1
theorem fe_lenSet {p p2 q : Pos} (hK : X.K = K) (hm : X.mg "len" = none) (hm2 : X.mg "set" = none) (ha : FE K X W a ga) (hc : X.calm = true := by rfl) (hg : Gl X "len" := by rfl) (hg2 : Gl X "set" := by rfl)
    (na : starEach [a] X.env = (false, eval a X.env) :: starEach [] X.env := by rfl) : FE K X W (.Call (.Name "len" p) [.Call (.Name "set" p2) [a] [] q] [] pos) (gLenSet ga) := by
  subst hK
  refine PE.imp (pe_lenSetA hc hg hm hg2 hm2 ha na) fun σ H Q ⟨F, ρ, M, E, Q', s, x, q, h⟩ => tG_mk s x (fun F1 H1 M1 d v e1 m1 r1 h1 => ?_) h
  obtain ⟨es, a, vs, ⟨ns, rfl, hl, h⟩, rfl, k, r⟩ := onS_at m1 r1 h1
  have z := Rp.ints r
  subst z
  refine ⟨a, ns, rfl, k.imp (fun k => k) TupAt.sq, hl, fun out n s => ?_⟩
  rw [ddup_len n s]
  exact q F1 H1 M1 _ _ e1 m1 Rp.int h

/-! ### in, not in -/
def flatD : D → Bool
  | .non => true
  | .bl _ => true
  | .int _ => true
  | .str _ => true
  | _ => false
def eqFD : D → D → Bool
  | .non, .non => true
  | .bl a, .bl b => a == b
  | .bl a, .int b => (if a then 1 else 0) == b
  | .int a, .bl b => a == (if b then 1 else 0)
  | .int a, .int b => a == b
  | .str a, .str b => a == b
  | _, _ => false
def inD (x : D) (xs : List D) : Bool := xs.any fun y => eqFD y x
theorem flat_at {d : D} {v : V} (r : Rp K F H d v) (h : flatD d = true) : flatV v = true := by
  cases d <;> first | (cases h; done) | (unfold Rp at r; subst r; rfl)
theorem eqF_at {d e : D} {v u : V} (r : Rp K F H d v) (r2 : Rp K F H e u) (h : flatD d = true) (h2 : flatD e = true) : eqV v u = eqFD d e := by
  cases d <;> first
    | (cases h; done)
    | (cases e <;> first
        | (cases h2; done)
        | (unfold Rp at r r2; subst r r2; rfl))
theorem inF_at {d : D} {v : V} (r : Rp K F H d v) (h : flatD d = true) : ∀ {ds : List D} {vs : List V}, Rps K F H ds vs → ds.all flatD = true → vs.all flatV = true ∧ inV v vs = inD d ds
  | [], vs, r2, _ => by unfold Rps at r2; subst r2; exact ⟨rfl, rfl⟩
  | e :: ds, vs, r2, h2 => by
    unfold Rps at r2
    obtain ⟨u, w, rfl, r3, r4⟩ := r2
    rw [List.all_cons, Bool.and_eq_true] at h2
    obtain ⟨i1, i2⟩ := inF_at r h r4 h2.2
    refine ⟨by rw [List.all_cons, flat_at r3 h2.1, i1]; rfl, ?_⟩
    unfold inV inD at i2 ⊢
    rw [List.any_cons, List.any_cons, i2, eqF_at r3 r h2.1 h]
def dInG (neg : Bool) : DR2 := fun x y M Q => onS M y fun xs => flatD x = true ∧ xs.all flatD = true ∧ Q (.bl (if neg then !inD x xs else inD x xs)) M
abbrev dIn : DR2 := dInG false
abbrev dNotIn : DR2 := dInG true
theorem in_im {neg : Bool} : ∀ x y H Q, rG K (dInG neg) x y H Q → rIn K neg x y H Q := fun x y H Q ⟨F, M, d, e, Q', m, r1, r2, q, h⟩ => by
  obtain ⟨ds, a, vs, ⟨h1, h2, h3⟩, rfl, k, r⟩ := onS_at m r2 h
  obtain ⟨i1, i2⟩ := inF_at r1 h1 r h2
  refine ⟨a, vs, rfl, k.imp (fun k => k) TupAt.sq, flat_at r1 h1, i1, ?_⟩
  rw [i2]
  exact q F H M _ _ (Ext.refl _ _ _) m Rp.bl h3
theorem od_in (hK : X.K = K) : OpD K X (compareOp .In) dIn := by subst hK; exact OpR.imp op_in_seq in_im
theorem od_notIn (hK : X.K = K) : OpD K X (compareOp .NotIn) dNotIn := by subst hK; exact OpR.imp op_notIn_seq in_im

/-! ### op= -/
def IpD (K : PySem.W.Frag) (X : Cx) (op : Operator) (rd : DR2) : Prop := PIp X op (rG K rd)
theorem id_add : IpD K X .Add dAddI := fun pins s σ H x y v u Q I r1 r2 ⟨F, M, d, e, Q', m, d1, d2, q, h⟩ => by
  cases d with
  | int i =>
    cases e with
    | int j => exact ip_add pins s σ H x y v u Q I r1 r2 ⟨i, j, d1.int_inv, d2.int_inv, q F H M _ _ (Ext.refl _ _ _) m Rp.int h⟩
    | _ => exact h.elim
  | _ => exact h.elim
theorem id_sub : IpD K X .Sub dSub := fun pins s σ H x y v u Q I r1 r2 ⟨F, M, d, e, Q', m, d1, d2, q, h⟩ => by
  cases d with
  | int i =>
    cases e with
    | int j => exact ip_sub pins s σ H x y v u Q I r1 r2 ⟨i, j, d1.int_inv, d2.int_inv, q F H M _ _ (Ext.refl _ _ _) m Rp.int h⟩
    | _ => exact h.elim
  | _ => exact h.elim
def sAug (i : Nat) (g : DE) (rd : DR2) : DS := fun E ρ M => match ρ[i]? with
  | some (some d) => g (fun x M => E.ex x ρ M) ρ M fun y M1 => rd d y M1 fun z M2 => E.nx (ρ.set i (some z)) M2
  | _ => False
theorem fs_aug (i : Nat) {x : Str} {op : Operator} {rd : DR2} {p' : Pos} (hN : X.N.Nodup) (ho : IpD K X op rd) (he : FE K X W e ga) (hi : X.N[i]? = some x := by rfl) (hx : Loc X.env.scope x := by first | exact Or.inl rfl | exact Or.inr rfl)
    (hf : X.fn x = true ∨ X.env.scope.names.lookup x = some .local := by first | exact .inl rfl | exact .inr rfl) : FS K X W (.AugAssign (.Name x p') op e pos) (sAug i ga rd) :=
  PS.imp (ps_aug hN hi hx he ho hf) fun D σ H ⟨F, ρ, M, E', s, x, h⟩ => by
    unfold sAug at h
    split at h
    · rename_i d ed
      obtain ⟨v, e1, r⟩ := s.env i d ed
      refine ⟨v, e1, tG_mk s (x.ex.at_ s) (fun F1 H1 M1 y u f1 m1 r1 h1 => ?_) h⟩
      exact ⟨F1, M1, d, y, _, m1, Rp.mono f1.toExtW _ _ r, r1, fun F2 H2 M2 z w f2 m2 r2 h2 => x.nx F2 H2 _ M2 _ (f1.trans f2) ((s.next (f1.trans f2).toExtW m2).set i r2) h2, h1⟩
    · exact h.elim
theorem get_list : PGet X (rIxL X.K) := fun pins s σ H o i ov iv Q I r1 r2 ⟨p, xs, k, z, e1, e2, hq, he, q⟩ => by
  subst e1; subst e2
  cases r1
  obtain ⟨t, rfl⟩ := r2
  obtain ⟨its, r, pl, hz⟩ := I.list hq
  obtain ⟨j, h1, h2, h3, h4, h5⟩ := atI_get he
  obtain ⟨w, ew, rw'⟩ := r.get h2
  have hl := r.length
  have hn := line63
  have fin : EP X pins σ Q w s := ⟨z, H, I, rw', q⟩
  by_cases h0 : 0 ≤ k
  · have hj : k.toNat = j := by
      rw [seqIndex_of h0 h5] at h1; exact Option.some.inj h1
    exact PySem.wpAny_getItem_list pl.isList h0 (by omega) (by rw [hj]; simpa using ew) fin
  · have hj : (k + (its.toArray.size : Int)).toNat = j := by
      rw [seqIndex_neg (by omega) h4] at h1; rw [List.size_toArray, ← hl]; exact Option.some.inj h1
    exact PySem.wpAny_getItem_list_neg pl.isList (by omega) (by rw [List.size_toArray]; omega) (by omega) (by rw [hj]; simpa using ew) fin
def dIxL : DR2
  | x, .int i, M, Q => onL M x fun ds => ∃ d, atI ds i = some d ∧ Q d M
  | _, _, _, _ => False
theorem getd_list (hK : X.K = K) : PGet X (rG K dIxL) := by
  subst hK
  refine fun pins s σ H o i ov iv Q I r1 r2 ⟨F, M, d, e, Q', m, d1, d2, q, h⟩ => get_list pins s σ H o i ov iv Q I r1 r2 ?_
  cases e with
  | int k =>
    have h' : onL M d fun ds => ∃ y, atI ds k = some y ∧ Q' y M := h
    obtain ⟨ds, a, vs, _, ⟨y, h1, h2⟩, rfl, hv, r⟩ := onL_at m d1 h'
    obtain ⟨v, h3, h4⟩ := atI_rps r h1
    exact ⟨a, vs, k, v, rfl, d2.int_inv, SqL.of hv, h3, q F H M _ _ (Ext.refl _ _ _) m h4 h2⟩
  | _ => exact h.elim
/-- o[i] op= e -/
def sAugS (go gi ge : DE) (rd : DR2) : DS := fun E ρ M => go (fun x M => E.ex x ρ M) ρ M fun o M1 => gi (fun x M => E.ex x ρ M) ρ M1 fun i M2 => dIxL o i M2 fun x M3 => ge (fun x M => E.ex x ρ M) ρ M3 fun y M4 => rd x y M4 fun z M5 => dSetIx o i z M5 fun M6 => E.nx ρ M6
theorem fs_augS {i : Expr} {op : Operator} {rd : DR2} {tpos : Pos} (hK : X.K = K) (hp : IpD K X op rd) (ho : FE K X W o ga) (hi : FE K X W i gb) (he : FE K X W e gc)
    (ha : ∀ ov iv new, augStore i ov iv new = (do holding [new, ov, iv] (setItem ov iv new); release [new, ov, iv] []; pure .next) := by intros; rfl) : FS K X W (.AugAssign (.Subscript o i tpos) op e pos) (sAugS ga gb gc rd) :=
  PS.imp (ps_augS ho hi (getd_list hK) he hp (set_ix (K := K)) ha) fun D σ H ⟨F, ρ, M, E', s, x, h⟩ =>
    tG_mk s (x.ex.at_ s) (fun F1 H1 M1 d1 v1 e1 m1 r1 h1 => tG_mk (s.next e1.toExtW m1) ((x.ex.at_ s).next e1) (fun F2 H2 M2 d2 v2 e2 m2 r2 h2 =>
      ⟨F2, M2, d1, d2, _, m2, Rp.mono e2.toExtW _ _ r1, r2, fun F3 H3 M3 d3 v3 e3 m3 r3 h3 =>
        tG_mk (s.next ((e1.trans e2).trans e3).toExtW m3) ((x.ex.at_ s).next ((e1.trans e2).trans e3)) (fun F4 H4 M4 d4 v4 e4 m4 r4 h4 =>
          ⟨F4, M4, d3, d4, _, m4, Rp.mono e4.toExtW _ _ r3, r4, fun F5 H5 M5 d5 v5 e5 m5 r5 h5 =>
            ⟨F5, M5, d1, d2, d5, _, m5, Rp.mono (((e2.trans e3).trans e4).trans e5).toExtW _ _ r1, Rp.mono ((e3.trans e4).trans e5).toExtW _ _ r2, r5, fun F6 H6 M6 e6 m6 h6 =>
              x.nx F6 H6 ρ M6 σ (((((e1.trans e2).trans e3).trans e4).trans e5).trans e6) (s.next (((((e1.trans e2).trans e3).trans e4).trans e5).trans e6).toExtW m6) h6, h5⟩, h4⟩) h3, h2⟩) h1) h
end
section
variable {K : PySem.W.Frag} {X : Cx} {W : WX} {elt tg iter tg1 iter1 : Expr} {ifs ifs1 : List Expr} {scope : Scope} {own : List (Str × Nat)} {pos : Pos} {gi gi1 : DI} {vs vs1 : List Nat} {dg dg1 : DG} {tt tt1 : DT} {te : DE}
theorem fs_setLc2 (i : Nat) {y : Str} {py spos : Pos} {g : DE} (hN : X.N.Nodup) (hi : FI K X W tg iter gi) (ok : BlkOk X.N X.env.scope scope own) {ws1 : List Nat}
    (hg : ∀ (s : Shared) (H : Hp) (C : Addr) (cl : List (Str × Addr)) (fp : List Addr), FG K (X.blk s H scope (compEnvC scope cl C X.env) fp) tg vs dg) (ht : ∀ (s : Shared) (H : Hp) (C : Addr) (cl : List (Str × Addr)) (fp : List Addr), FTs K (X.blk s H scope (compEnvC scope cl C X.env) fp) W0 ifs tt)
    (hi1 : ∀ (s : Shared) (H : Hp) (C : Addr) (cl : List (Str × Addr)) (fp : List Addr), FI K (X.blk s H scope (compEnvC scope cl C X.env) fp) W0 tg1 iter1 gi1)
    (hg1 : ∀ (s : Shared) (H : Hp) (C : Addr) (cl : List (Str × Addr)) (fp : List Addr), FG K (X.blk s H scope (compEnvC scope cl C X.env) fp) tg1 vs1 dg1) (ht1 : ∀ (s : Shared) (H : Hp) (C : Addr) (cl : List (Str × Addr)) (fp : List Addr), FTs K (X.blk s H scope (compEnvC scope cl C X.env) fp) W0 ifs1 tt1)
    (he : ∀ (s : Shared) (H : Hp) (C : Addr) (cl : List (Str × Addr)) (fp : List Addr), FE K (X.blk s H scope (compEnvC scope cl C X.env) fp) W0 elt te) (hz : ∀ σ H Q, tG K W g σ H Q → tN K W (nLc2 gi dg tt gi1 dg1 tt1 te (own.map (·.2)) ws1) σ H Q)
    (hv : ∀ i ∈ vs, i ∈ own.map (·.2) := by decide) (hv1 : ∀ i ∈ vs1, i ∈ ws1 := by decide) (hw1 : ∀ i ∈ ws1, i ∈ own.map (·.2) := by decide)
    (hc : X.calm = true := by rfl) (hs : ∀ x, foldedSetIterable iter X.env x = pure x := by intro _; rfl) (hs1 : ∀ env x, foldedSetIterable iter1 env x = pure x := by intro _ _; rfl)
    (hy : X.N[i]? = some y := by rfl) (hyl : X.env.scope.names.lookup y = some .local := by rfl) (hsw : swapsWith (.ListComp elt [⟨tg, iter, ifs, 0⟩, ⟨tg1, iter1, ifs1, 0⟩] scope pos) (some (.Name y py)) spos.line X.env = pure true := by exact sw_true rfl rfl rfl (by decide +kernel)) :
    FS K X W (.Assign [.Name y py] (.ListComp elt [⟨tg, iter, ifs, 0⟩, ⟨tg1, iter1, ifs1, 0⟩] scope pos) spos) (sSet i g) :=
  PS.imp (ps_setLc2 hc hN hy hyl hsw hi ok hw1 hg ht hi1 hg1 ht1 he hs hs1) fun D σ H ⟨F, ρ, M, E', s, x, h⟩ => lc2_im hv hv1 σ H _ (hz σ H _ (tG_mk s (x.ex.at_ s) (fun F1 H1 M1 d v e1 m1 r1 h1 => x.nx F1 H1 _ M1 _ e1 ((s.next e1 m1).set i r1) h1) h))
end
end DL

set_option maxHeartbeats 2000000
/-! DL9: own exceptions: __init__, raise, try, fields, isinstance. -/
namespace L2
open PySem PySem.Spec PyProof.Rows
/-- what the clauses wish, each with or without a name (the slot) -/
def wMix (K : PySem.W.Frag) (Wout : WX) (D : Ends) : List (Value × Option Nat × (Addr → Value → Option Addr → TS)) → WX
  | [] => Wout
  | (c, oi, ts) :: r => fun cls d σ H => ∃ b, PySem.W.exmOne K cls c = some b ∧ (b = true → ∀ a, H a = none → match oi with
      | none => ts a cls d D σ H
      | some i => ts a cls d { nx := fun σ' H' => D.nx (σ'.set i none) H', rt := D.rt, bk := fun σ' H' => D.bk (σ'.set i none) H', ct := fun σ' H' => D.ct (σ'.set i none) H' } (σ.set i (some (.ref a))) H) ∧ (b = false → wMix K Wout D r cls d σ H)
inductive HdMix (X : Cx) : List ExceptHandler → List (Value × Option Nat × (Addr → Value → Option Addr → TS)) → Prop
  | nil : HdMix X [] []
  | un {x : Str} {c : Value} {ts : Addr → Value → Option Addr → TS} {b₀ : Stmt} {suite : List Stmt} {np pos' : Pos} {hds : List ExceptHandler} {l : List (Value × Option Nat × (Addr → Value → Option Addr → TS))} (hc : Names X x c)
      (hsu : ∀ (a : Addr) (oe : Obj) (cls : Value) (d : Option Addr) (pn : List (Addr × Obj)), Zc cls d oe → (∃ vs, oe.data = .fields vs) → PSs (X.suite a ((a, oe) :: pn)) (b₀ :: suite) (ts a cls d)) (r : HdMix X hds l) :
      HdMix X (.ExceptHandler (some (.Name x np)) none (b₀ :: suite) pos' :: hds) ((c, none, ts) :: l)
  | as (i : Nat) {x n : Str} {c : Value} {ts : Addr → Value → Option Addr → TS} {b₀ : Stmt} {suite : List Stmt} {np pos' : Pos} {hds : List ExceptHandler} {l : List (Value × Option Nat × (Addr → Value → Option Addr → TS))} (hc : Names X x c) (hi : X.N[i]? = some n) (hln : X.env.kindOf n = some .local)
      (hsu : ∀ (a : Addr) (oe : Obj) (cls : Value) (d : Option Addr) (pn : List (Addr × Obj)), Zc cls d oe → (∃ vs, oe.data = .fields vs) → PSs (X.suite a ((a, oe) :: pn)) (b₀ :: suite) (ts a cls d)) (r : HdMix X hds l) :
      HdMix X (.ExceptHandler (some (.Name x np)) (some n) (b₀ :: suite) pos' :: hds) ((c, some i, ts) :: l)
section
variable {X : Cx} {body : List Stmt} {h₀ : ExceptHandler} {hds : List ExceptHandler} {l : List (Value × Option Nat × (Addr → Value → Option Addr → TS))} {pos : Pos} {tb : WX → TS} {Wout : WX}
theorem ps_try_mix (hs : X.stack = X.env :: X.outer) (hf : X.env.frame = some X.env.locals) (hN : X.N.Nodup) (tk : Takes X Wout) (hb : ∀ (W : WX) (pn : List (Addr × Obj)) (xe : Value → Shared → Prop), Takes (X.tr pn xe) W → PassesOwn (model X.prog X.w) X.A X.env xe → PSs (X.tr pn xe) body (tb W))
    (hh : HdMix X (h₀ :: hds) l) : PS X (.Try body (h₀ :: hds) [] [] pos) (fun D σ H => tb (wMix X.K Wout D l) D σ H) := by
  refine ⟨fun pins s σ H D I h => ?_⟩; have ok := I.ok
  have hfr : X.A.frames = some (X.env :: X.outer) := by (rw [ok.frames, hs])
  refine wpAny_Try_except (wpAny_mono ((hb (wMix X.K Wout D l) (X.pn ++ pins) (fun e s₁ => wpAny (model X.prog X.w) X.A (noteFrame e X.env) (fun _ s₂ => wpAny (model X.prog X.w) X.A (setFlight e none) (fun _ s₃ =>
    wpAny (model X.prog X.w) X.A (handleBy e X.env (h₀ :: hds)) (SP X pins D) X.xe s₃) X.xe s₂) X.xe s₁) (fun u s' xx => ?_) PassesOwn.looking).run [] s σ H D (I.toTry _) h) (fun f s1 hsp => ?_) (fun e s1 he => he))
  · obtain ⟨a, B, sI, pins', σ', H', cls, d, rfl, J', nb, up, sky, na, os, ag, w⟩ := xx; have J : Inv X pins σ' H' sI := J'.ofTry ok
    have sky' : Sky B (X.env :: X.outer) a (Zc cls d) X.env.locals s'.heap := by (rw [← hs]; exact sky)
    show wpAny (model X.prog X.w) X.A (noteFrame (.ref a) X.env) _ _ _; refine Sky.land Zc.steady hfr hf sky' fun h3 fl3 up3 => ?_
    have J3 : Inv X pins σ' H' { s' with heap := h3 } := J.landed nb fl3.1 (up.trans up3) os ag; obtain ⟨oe3, vs3, he3, hz3, hd3⟩ := fl3.there
    have nfr : a ∉ frs (X.env :: X.outer) := fun hm => by (obtain ⟨_, o', e', hnf⟩ := fl3.2.2.1.mem hm; rw [he3] at e'; cases e'; exact hnf _ hd3)
    have nL : a ≠ X.env.locals := fun z => nfr (List.mem_filterMap.mpr ⟨X.env, List.mem_cons_self, by (rw [hf, z])⟩)
    have nF : a ∉ X.fs := fun hm => by (obtain ⟨e, he, q⟩ := List.mem_filterMap.mp hm; exact nfr (List.mem_filterMap.mpr ⟨e, List.mem_cons_of_mem _ he, q⟩))
    have S3 := J3.suite he3 hd3 na nL nF
    have LT : PySem.W.Looks (model X.prog X.w) h3 (typeOf (.ref a)) cls := fun A Q E s k q => wpAny_typeOf_ref (k _ _ he3) (by (rw [hz3.1]; exact q))
    have test : ∀ {x : Str} {c : Value} {np : Pos} {Q : Value → Shared → Prop} {E : Value → Shared → Prop}, Names X x c → Q c { s' with heap := h3 } → wpAny (model X.prog X.w) (X.A.mark (some (.ref a))) (eval (.Name x np) X.env) Q E { s' with heap := h3 } := fun {x c np Q E} hc q => by
      (obtain ⟨hg, hdbg, hm | ⟨hm, hv, hnn⟩⟩ := hc)
      · (exact ld_glob (X := X.suite a ((a, oe3) :: (X.pn ++ pins))) S3 hg hm q hdbg)
      · (exact ld_blt (X := X.suite a ((a, oe3) :: (X.pn ++ pins))) S3 hg hm hv q hnn hdbg)
    have go : ∀ {hds' : List ExceptHandler} {l' : List (Value × Option Nat × (Addr → Value → Option Addr → TS))}, HdMix X hds' l' → wMix X.K Wout D l' cls d σ' H' → wpAny (model X.prog X.w) X.A (handleBy (.ref a) X.env hds') (SP X pins D) X.xe { s' with heap := h3 } := by
      intro hds' l' hk
      induction hk with
      | nil =>
        intro w; refine wpAny_handleBy_nil ?_
        obtain ⟨k1, k2, k3, oe, vs, T, oT, ts', he, hz, hd, h1, hr⟩ := id fl3; unfold PySem.passOn
        refine wpAny_bind (wpAny_field he hd h1 ?_); rw [if_neg (show ¬ ((Value.ref T == Value.none) = true) from by simp)]
        have fin : wpAny (model X.prog X.w) X.A (setFlight (.ref a) X.env.frame) (fun _ s4 => wpAny (model X.prog X.w) X.A (throw (.ref a) : Sem Flow) (SP X pins D) X.xe s4) X.xe { s' with heap := h3 } := by
          rw [hf]; refine HandSPX.setFlight_upZ fl3 fun h4 hh4 up4 => wpAny_throw (tk _ _ ?_)
          exact ⟨a, B, sI, pins, σ', H', cls, d, rfl, J, nb, (up.trans up3).trans up4, .inr (.inr (by (rw [hs]; exact hh4))), na, os, ag, w⟩
        first | exact wpAny_bind (wpAny_pure (wpAny_bind fin)) | exact wpAny_bind fin
      | @un x c ts b₀ suite np pos' hds2 l2 hc hsu r ih =>
        intro w; obtain ⟨b, hb1, hyes, hno⟩ := w
        have LM := PySem.W.exm_one (M := model X.prog X.w) (J3.kIn) LT hb1; refine wpAny_handleBy_cons (codeAny_handlers_test ?_) (by intro q; cases q)
        refine test hc (LM.here ?_)
        cases b with
        | true =>
          refine codeAny_handlers_suite (HandSPX.lands_againZ fl3 fun h4 fl4 up4 => ?_)
          have J4 : Inv X pins σ' H' { s' with heap := h4 } := J.landed nb fl4.1 ((up.trans up3).trans up4) os ag; obtain ⟨oe4, vs4, he4, hz4, hd4⟩ := fl4.there
          have S4 := J4.suite he4 hd4 na nL nF; refine wpAny_mono ((hsu a oe4 cls d (X.pn ++ pins) hz4 ⟨_, hd4⟩).run [] _ _ H' _ S4 (hyes rfl a na)) (fun f s6 hsp => ?_) (fun _ _ z => False.elim z)
          cases f with
          | next => (obtain ⟨σ6, H6, S6, q6⟩ := hsp; exact ⟨_, _, S6.unsuite ok, q6⟩)
          | brk => (obtain ⟨σ6, H6, S6, q6⟩ := hsp; exact ⟨_, _, S6.unsuite ok, q6⟩)
          | cont => (obtain ⟨σ6, H6, S6, q6⟩ := hsp; exact ⟨_, _, S6.unsuite ok, q6⟩)
          | ret u => (obtain ⟨v6, σ6, H6, S6, r6, q6⟩ := hsp; exact ⟨_, _, _, S6.unsuite ok, r6, q6⟩)
        | false => (show wpAny _ X.A (handleBy (.ref a) X.env hds2) _ _ _; exact ih (hno rfl))
      | @as i x n c ts b₀ suite np pos' hds2 l2 hc hi hln hsu r ih =>
        intro w; obtain ⟨b, hb1, hyes, hno⟩ := w
        have LM := PySem.W.exm_one (M := model X.prog X.w) (J3.kIn) LT hb1; refine wpAny_handleBy_cons (codeAny_handlers_test ?_) (by intro q; cases q)
        refine test hc (LM.here ?_)
        cases b with
        | true =>
          refine codeAny_handlers_suite_as (HandSPX.lands_againZ fl3 fun h4 fl4 up4 => ?_)
          have J4 : Inv X pins σ' H' { s' with heap := h4 } := J.landed nb fl4.1 ((up.trans up3).trans up4) os ag; obtain ⟨oe4, vs4, he4, hz4, hd4⟩ := fl4.there
          have S4 := J4.suite he4 hd4 na nL nF; refine store_ok (X := X.suite a ((a, oe4) :: (X.pn ++ pins))) (v := .ref a) S4 hN hi (.inl hln) rfl (fun s5 S5 => ?_) (.inr hln)
          refine wpAny_mono ((hsu a oe4 cls d (X.pn ++ pins) hz4 ⟨_, hd4⟩).run [] s5 _ H' _ S5 (hyes rfl a na)) (fun f s6 hsp => ?_) (fun _ _ z => False.elim z)
          have end_ : ∀ {σ6 : St} {H6 : Hp} {Q : Shared → Prop}, Inv (X.suite a ((a, oe4) :: (X.pn ++ pins))) [] σ6 H6 s6 → (∀ s7, Inv X pins (σ6.set i none) H6 s7 → Q s7) → wpAny (model X.prog X.w) X.A (do bindName X.env n .none; unbindBehindTheSuite X.env n pos') (fun _ s7 => Q s7) X.xe s6 :=
            fun {σ6 H6 Q} S6 hq => gone_ok (S6.unsuite ok) hN hi hln hq
          cases f with
          | next => (obtain ⟨σ6, H6, S6, q6⟩ := hsp; exact end_ S6 fun s7 J7 => ⟨_, _, J7, q6⟩)
          | brk => (obtain ⟨σ6, H6, S6, q6⟩ := hsp; exact end_ S6 fun s7 J7 => ⟨_, _, J7, q6⟩)
          | cont => (obtain ⟨σ6, H6, S6, q6⟩ := hsp; exact end_ S6 fun s7 J7 => ⟨_, _, J7, q6⟩)
          | ret u => (obtain ⟨v6, σ6, H6, S6, r6, q6⟩ := hsp; exact end_ S6 fun s7 J7 => ⟨_, _, _, J7, r6, q6⟩)
        | false => (show wpAny _ X.A (handleBy (.ref a) X.env hds2) _ _ _; exact ih (hno rfl))
    exact go hh w
  · cases f with
    | next => (obtain ⟨σ', H', J', q⟩ := hsp; exact wpAny_execs_nil ⟨σ', H', J'.ofTry ok, q⟩)
    | brk => (obtain ⟨σ', H', J', q⟩ := hsp; exact ⟨σ', H', J'.ofTry ok, q⟩)
    | cont => (obtain ⟨σ', H', J', q⟩ := hsp; exact ⟨σ', H', J'.ofTry ok, q⟩)
    | ret u => (obtain ⟨v, σ', H', J', r, q⟩ := hsp; exact ⟨v, σ', H', J'.ofTry ok, r, q⟩)
end
end L2
namespace DL
open PySem PySem.Spec PyProof.Rows L2
/-! ### __init__ -/
/-- what __init__ of an own exception class keeps: its fields are fs, in the order of its parameters -/
def spInit (C : Addr) (fs : List Str) : Sp := fun vs H Q _ => ∃ (a : Addr) (ws : List V), vs = .ref a :: ws ∧ ws.length = fs.length ∧ H a = some (exo a C none) ∧
  ∀ (dx : Addr) (H' : Hp), H dx = none → dx ≠ a → H' a = some (exo a C (some dx)) → H' dx = some (exd dx (fs.zip ws).reverse) → (∀ b, b ≠ a → b ≠ dx → H' b = H b) → Q .non H'
section
variable {P : Program} {w : World} {K : PySem.W.Frag} {mg : Str → Option Value} {base : Heap} {C f : Addr} {fd : FuncData}
theorem init1 {st : Stmt} {qual f1 : Str} {N ps : List Str} {p1 p2 p3 p4 : Pos} {n0 n1 : Str} (F : Fun K "__init__" qual st f fd) (T : ExCls K C [f1]) (S : FnScope N ps (defScope st)) (hps : ps.length = 2) (h0 : N = [n0, n1])
    (hb : defBody st = [.Assign [.Attribute (.Name n0 p1) f1 p2] (.Name n1 p3) p4]) (hv0 : (defScope st).names.lookup n0 = some .local) (hv1 : (defScope st).names.lookup n1 = some .local) (hd0 : (n0 == ("__debug__" : Str)) = false) (hd1 : (n1 == ("__debug__" : Str)) = false)
    (hc0 : (n0 == ("__classdict__" : Str)) = false) (hc1 : (n1 == ("__classdict__" : Str)) = false) : FnOk P w K mg base (L2.CX P w) 1 f fd ps (spInit C [f1]) := by
  subst h0
  refine F.okX S (fun vs H Q E h => ?_) (fun cdv A outer s H vs Q E hr h => ?_)
  · obtain ⟨a, ws, rfl, hl, _⟩ := h
    rw [hps, List.length_cons, hl]
    rfl
  · obtain ⟨a, ws, rfl, hl, ha, k⟩ := h
    rw [hb]
    match ws, hl with
    | [y], _ =>
      refine ⟨_, pss_one (ps_ost (pe_var (i := 0) rfl (Or.inl hv0) hd0 hc0) (pe_var (i := 1) rfl (Or.inl hv1) hd1 hc1)), y, rfl, V.ref a, rfl, a, C, rfl, T.ox, T.no _ (by simp), .inl ⟨ha, fun dx h1 h2 => k dx _ h1 h2 upd_same ?_ fun b b1 b2 => ?_⟩⟩
      · rw [upd_ne h2]; exact upd_same
      · rw [upd_ne b1, upd_ne b2]
theorem init2 {st : Stmt} {qual f1 f2 : Str} {N ps : List Str} {p1 p2 p3 p4 q1 q2 q3 q4 : Pos} {n0 n1 n2 : Str} (F : Fun K "__init__" qual st f fd) (T : ExCls K C [f1, f2]) (S : FnScope N ps (defScope st)) (hps : ps.length = 3) (h0 : N = [n0, n1, n2])
    (hb : defBody st = [.Assign [.Attribute (.Name n0 p1) f1 p2] (.Name n1 p3) p4, .Assign [.Attribute (.Name n0 q1) f2 q2] (.Name n2 q3) q4]) (hv0 : (defScope st).names.lookup n0 = some .local) (hv1 : (defScope st).names.lookup n1 = some .local) (hv2 : (defScope st).names.lookup n2 = some .local)
    (hd0 : (n0 == ("__debug__" : Str)) = false) (hd1 : (n1 == ("__debug__" : Str)) = false) (hd2 : (n2 == ("__debug__" : Str)) = false)
    (hc0 : (n0 == ("__classdict__" : Str)) = false) (hc1 : (n1 == ("__classdict__" : Str)) = false) (hc2 : (n2 == ("__classdict__" : Str)) = false) : FnOk P w K mg base (L2.CX P w) 1 f fd ps (spInit C [f1, f2]) := by
  subst h0
  refine F.okX S (fun vs H Q E h => ?_) (fun cdv A outer s H vs Q E hr h => ?_)
  · obtain ⟨a, ws, rfl, hl, _⟩ := h
    rw [hps, List.length_cons, hl]
    rfl
  · obtain ⟨a, ws, rfl, hl, ha, k⟩ := h
    rw [hb]
    match ws, hl with
    | [y, z], _ =>
      refine ⟨_, pss_cons (ps_ost (pe_var (i := 0) rfl (Or.inl hv0) hd0 hc0) (pe_var (i := 1) rfl (Or.inl hv1) hd1 hc1)) (pss_one (ps_ost (pe_var (i := 0) rfl (Or.inl hv0) hd0 hc0) (pe_var (i := 2) rfl (Or.inl hv2) hd2 hc2))), y, rfl, V.ref a, rfl, a, C, rfl, T.ox, T.no _ (by simp), .inl ⟨ha, fun dx h1 h2 => ?_⟩⟩
      refine ⟨z, rfl, V.ref a, rfl, a, C, rfl, T.ox, T.no _ (by simp), .inr ⟨dx, [(f1, y)], upd_same, ?_, ?_, k dx _ h1 h2 ?_ ?_ fun b b1 b2 => ?_⟩⟩
      · rw [upd_ne h2]; exact upd_same
      · show 1 ≤ 900; decide
      · rw [upd_ne (Ne.symm h2)]; exact upd_same
      · exact upd_same
      · rw [upd_ne b2, upd_ne b1, upd_ne b2]
end

/-! ### raise C(..) -/
section
variable {K : PySem.W.Frag} {X : Cx} {W : WX} {F : Addr → Prop} {H : Hp} {ρ : Dv} {M : Mem} {σ : L2.St} {a b e o : Expr} {ga gb gc gd : DE} {pos cpos apos : Pos}
theorem Rpf.append : ∀ {ds es : List (Str × D)} {vs ws : List (Str × V)}, Rpf K F H ds vs → Rpf K F H es ws → Rpf K F H (ds ++ es) (vs ++ ws)
  | [], es, vs, ws, h, g => by unfold Rpf at h; subst h; exact g
  | d :: ds, es, vs, ws, h, g => by
    unfold Rpf at h
    obtain ⟨v, r, rfl, h1, h2⟩ := h
    rw [List.cons_append, List.cons_append]
    unfold Rpf
    exact ⟨v, _, rfl, h1, Rpf.append h2 g⟩
theorem Rpf.nil : Rpf K F H [] [] := by unfold Rpf; rfl
theorem Rpf.one {f : Str} {d : D} {v : V} (h : Rp K F H d v) : Rpf K F H [(f, d)] [(f, v)] := by
  unfold Rpf
  exact ⟨v, [], rfl, h, .nil⟩
theorem Rpf.zipRev : ∀ {fs : List Str} {ds : List D} {vs : List V}, Rps K F H ds vs → Rpf K F H (fs.zip ds).reverse (fs.zip vs).reverse
  | [], ds, vs, h => by simp [Rpf.nil]
  | f :: fs, [], vs, h => by unfold Rps at h; subst h; simp [Rpf.nil]
  | f :: fs, d :: ds, vs, h => by
    unfold Rps at h
    obtain ⟨v, r, rfl, h1, h2⟩ := h
    rw [List.zip_cons_cons, List.zip_cons_cons, List.reverse_cons, List.reverse_cons]
    exact Rpf.append (Rpf.zipRev h2) (.one h1)
theorem Rpf.look : ∀ {ds : List (Str × D)} {vs : List (Str × V)} {f : Str} {d : D}, Rpf K F H ds vs → ds.lookup f = some d → ∃ v, vs.lookup f = some v ∧ Rp K F H d v
  | [], vs, f, d, h, e => by cases e
  | (g, d0) :: ds, vs, f, d, h, e => by
    unfold Rpf at h
    obtain ⟨v, r, rfl, h1, h2⟩ := h
    show ∃ w, List.lookup f ((g, v) :: r) = some w ∧ _
    rw [List.lookup] at e ⊢
    cases z : f == g with
    | true =>
      rw [z] at e
      cases e
      exact ⟨v, rfl, h1⟩
    | false =>
      rw [z] at e
      exact Rpf.look h2 e
def exOf (C : Addr) (fs : List Str) (ds : List D) : DX := ⟨.ref C, (fs.zip ds).reverse⟩
def sRaise (C : Addr) (fs : List Str) (g : DA) : DS := fun E ρ M => g (fun x M => E.ex x ρ M) ρ M fun ds M1 => ds.length = fs.length ∧ E.ex (exOf C fs ds) ρ M1
/-- raise C(..), the store told less behind -/
def sRaiseF (C : Addr) (fs : List Str) (g : DA) : DS := fun E ρ M => g (fun x M => E.ex x ρ M) ρ M fun ds M1 => ds.length = fs.length ∧ ∃ M2, (∀ a o, M2 a = some o → M1 a = some o) ∧ E.ex (exOf C fs ds) ρ M2
theorem fs_raiseF {k : Nat} {C fI : Addr} {fd : FuncData} {fs ps : List Str} {x : Str} {p pos2 : Pos} {es : List Expr} {g : DA} (hc : X.calm = true) (T : ExCls K C fs) (hsm : fs.length ≤ 1000) (iC : PySem.W.findIn K (.ref C) "__init__" = some (some (.ref fI))) (tI : PySem.W.typeIn K (.ref fI) = some (.type "function"))
    (F1 : FnOk X.prog X.w K X.mg X.base (L2.CX X.prog X.w) k fI fd ps (spInit C fs)) (hr : Room (k + 1) X.A) (hb : Binds K fd ps []) (tk : Takes X W) (hm : X.mg x = some (.ref C)) (ha : FA K X W (e :: es) g)
    (hK : X.K = K := by rfl) (hg : Gl X x := by rfl) (hdb : (x == ("__debug__" : Str)) = false := by decide) (he : starEach (e :: es) X.env = (false, eval e X.env) :: starEach es X.env := by rfl) (hpl : (backTo pos (starEach es X.env)).any (·.1) = false := by rfl) :
    FS K X W (.Raise (some (.Call (.Name x p) (e :: es) [] pos)) none pos2) (sRaiseF C fs g) := by
  subst hK
  refine PS.imp (ps_raise hc tk (pmk_oex (ds := []) (dvs := []) T.ox iC tI F1 hr hb .nil passL hg hm ha hdb he hpl)) fun D σ H ⟨F, ρ, M, E', s, y, h⟩ => (⟨F, ρ, M, _, _, s, y.ex.at_ s, fun F1 H1 M1 ds vs e1 m1 r1 h1 => ?_, h⟩ : tGa X.K W g σ H _)
  obtain ⟨hl, M2, hM2, h1⟩ := h1
  have hl2 : vs.length = fs.length := r1.length.trans hl
  refine ⟨by omega, fun a na => ⟨a, vs ++ [], rfl, by simpa using hl2, upd_same, fun dx H' n1 n2 z1 z2 z3 => ⟨rfl, dx, _, z1, z2, by rw [upd_ne n2] at n1; exact n1, ?_⟩⟩⟩
  rw [upd_ne n2] at n1
  have eH : upd (del H' a) dx (.xd (fs.zip (vs ++ [])).reverse) = upd H1 dx (.xd (fs.zip vs).reverse) := by
    rw [List.append_nil]
    funext b
    by_cases hb : b = dx
    · rw [hb, upd_same, upd_same]
    · rw [upd_ne hb, upd_ne hb]
      by_cases ha : b = a
      · rw [ha, del_same, na]
      · rw [del_ne ha, z3 b ha hb, upd_ne ha]
  rw [eH]
  have l : Ext F1 H1 M1 F1 (upd H1 dx (.xd (fs.zip vs).reverse)) M1 := Ext.laid n1 fun _ z => z
  have l2 : Ext F1 H1 M1 F1 (upd H1 dx (.xd (fs.zip vs).reverse)) M2 := ⟨l.toExtW, l.frame, fun b hb => .inl fun z => (by
    cases q : M2 b with
    | none => exact hb q
    | some o => rw [hM2 b o q] at z; cases z), l.new⟩
  exact y.ex F1 _ ρ M2 σ (exOf C fs ds) _ _ (e1.trans l2) (s.next (e1.trans l2).toExtW ((m1.aside n1 _).sub hM2)) ⟨rfl, .inr ⟨dx, _, rfl, upd_same, Rpf.zipRev (Rps.mono l.toExtW _ _ r1)⟩⟩ h1
theorem fs_raise {k : Nat} {C fI : Addr} {fd : FuncData} {fs ps : List Str} {x : Str} {p pos2 : Pos} {es : List Expr} {g : DA} (hc : X.calm = true) (T : ExCls K C fs) (hsm : fs.length ≤ 1000) (iC : PySem.W.findIn K (.ref C) "__init__" = some (some (.ref fI))) (tI : PySem.W.typeIn K (.ref fI) = some (.type "function"))
    (F1 : FnOk X.prog X.w K X.mg X.base (L2.CX X.prog X.w) k fI fd ps (spInit C fs)) (hr : Room (k + 1) X.A) (hb : Binds K fd ps []) (tk : Takes X W) (hm : X.mg x = some (.ref C)) (ha : FA K X W (e :: es) g)
    (hK : X.K = K := by rfl) (hg : Gl X x := by rfl) (hdb : (x == ("__debug__" : Str)) = false := by decide) (he : starEach (e :: es) X.env = (false, eval e X.env) :: starEach es X.env := by rfl) (hpl : (backTo pos (starEach es X.env)).any (·.1) = false := by rfl) :
    FS K X W (.Raise (some (.Call (.Name x p) (e :: es) [] pos)) none pos2) (sRaise C fs g) := by
  subst hK
  refine PS.imp (ps_raise hc tk (pmk_oex (ds := []) (dvs := []) T.ox iC tI F1 hr hb .nil passL hg hm ha hdb he hpl)) fun D σ H ⟨F, ρ, M, E', s, y, h⟩ => (⟨F, ρ, M, _, _, s, y.ex.at_ s, fun F1 H1 M1 ds vs e1 m1 r1 h1 => ?_, h⟩ : tGa X.K W g σ H _)
  obtain ⟨hl, h1⟩ := h1
  have hl2 : vs.length = fs.length := r1.length.trans hl
  refine ⟨by omega, fun a na => ⟨a, vs ++ [], rfl, by simpa using hl2, upd_same, fun dx H' n1 n2 z1 z2 z3 => ⟨rfl, dx, _, z1, z2, by rw [upd_ne n2] at n1; exact n1, ?_⟩⟩⟩
  rw [upd_ne n2] at n1
  have eH : upd (del H' a) dx (.xd (fs.zip (vs ++ [])).reverse) = upd H1 dx (.xd (fs.zip vs).reverse) := by
    rw [List.append_nil]
    funext b
    by_cases hb : b = dx
    · rw [hb, upd_same, upd_same]
    · rw [upd_ne hb, upd_ne hb]
      by_cases ha : b = a
      · rw [ha, del_same, na]
      · rw [del_ne ha, z3 b ha hb, upd_ne ha]
  rw [eH]
  have l : Ext F1 H1 M1 F1 (upd H1 dx (.xd (fs.zip vs).reverse)) M1 := Ext.laid n1 fun _ z => z
  exact y.ex F1 _ ρ M1 σ (exOf C fs ds) _ _ (e1.trans l) (s.next (e1.trans l).toExtW (m1.aside n1 _)) ⟨rfl, .inr ⟨dx, _, rfl, upd_same, Rpf.zipRev (Rps.mono l.toExtW _ _ r1)⟩⟩ h1

/-! ### try -/
abbrev DH := Value × Option Nat × (Addr → Value → Option Addr → List (Str × D) → DS)
/-- what the clauses make of an exception -/
def dHds (K : PySem.W.Frag) (E : DEnds) : List DH → DX → Dv → Mem → Prop
  | [], x, ρ, M => E.ex x ρ M
  | (c, oi, ts) :: r, x, ρ, M => ∃ b, PySem.W.exmOne K x.cls c = some b ∧ (b = true → ∀ (a : Addr) (d : Option Addr), (d = none → x.fs = []) → match oi with
      | none => ts a x.cls d x.fs { E with ex := fun _ _ _ => False } ρ M
      | some i => ts a x.cls d x.fs { nx := fun ρ' M' => E.nx (ρ'.set i none) M', rt := E.rt, bk := fun ρ' M' => E.bk (ρ'.set i none) M', ct := fun ρ' M' => E.ct (ρ'.set i none) M', ex := fun _ _ _ => False } (ρ.set i (some (.xo a d x.fs))) M) ∧ (b = false → dHds K E r x ρ M)
def sTry (K : PySem.W.Frag) (tb : DS) (hs : List DH) : DS := fun E ρ M => tb { E with ex := dHds K E hs } ρ M
inductive HdD (K : PySem.W.Frag) (X : Cx) : List ExceptHandler → List DH → Prop
  | nil : HdD K X [] []
  | un {x : Str} {c : Value} {ts : Addr → Value → Option Addr → List (Str × D) → DS} {b₀ : Stmt} {suite : List Stmt} {np pos' : Pos} {hds : List ExceptHandler} {l : List DH} (hc : Names X x c)
      (hsu : ∀ (a : Addr) (oe : Obj) (cls : Value) (d : Option Addr) (fs : List (Str × D)) (pn : List (Addr × Obj)), Zc cls d oe → (∃ vs, oe.data = .fields vs) → FSs K (X.suite a ((a, oe) :: pn)) W0 (b₀ :: suite) (ts a cls d fs)) (r : HdD K X hds l) :
      HdD K X (.ExceptHandler (some (.Name x np)) none (b₀ :: suite) pos' :: hds) ((c, none, ts) :: l)
  | as (i : Nat) {x n : Str} {c : Value} {ts : Addr → Value → Option Addr → List (Str × D) → DS} {b₀ : Stmt} {suite : List Stmt} {np pos' : Pos} {hds : List ExceptHandler} {l : List DH} (hc : Names X x c) (hi : X.N[i]? = some n) (hln : X.env.kindOf n = some .local)
      (hsu : ∀ (a : Addr) (oe : Obj) (cls : Value) (d : Option Addr) (fs : List (Str × D)) (pn : List (Addr × Obj)), Zc cls d oe → (∃ vs, oe.data = .fields vs) → FSs K (X.suite a ((a, oe) :: pn)) W0 (b₀ :: suite) (ts a cls d fs)) (r : HdD K X hds l) :
      HdD K X (.ExceptHandler (some (.Name x np)) (some n) (b₀ :: suite) pos' :: hds) ((c, some i, ts) :: l)
/-- the suites, their exception's fields not yet known -/
def upH (K : PySem.W.Frag) (l : List DH) : List (Value × Option Nat × (Addr → Value → Option Addr → TS)) := l.map fun p => (p.1, p.2.1, fun a cls d D σ H => ∃ fs, tGs K W0 (p.2.2 a cls d fs) D σ H)
theorem PSs.some {st : List Stmt} {t : List (Str × D) → TS} (h : ∀ fs, PSs X st (t fs)) : PSs X st fun D σ H => ∃ fs, t fs D σ H := ⟨fun pins s σ H D I ⟨fs, q⟩ => (h fs).run pins s σ H D I q⟩
theorem HdD.up {hds : List ExceptHandler} {l : List DH} (h : HdD K X hds l) : HdMix X hds (upH K l) := by
  induction h with
  | nil => exact .nil
  | un hc hsu r ih => exact .un hc (fun a oe cls d pn hz hf => PSs.some fun fs => hsu a oe cls d fs pn hz hf) ih
  | as i hc hi hln hsu r ih => exact .as i hc hi hln (fun a oe cls d pn hz hf => PSs.some fun fs => hsu a oe cls d fs pn hz hf) ih
theorem EnvOk.gone {i : Nat} (h : EnvOk K F H ρ σ) : EnvOk K F H (ρ.set i none) (σ.set i none) := fun j d e => by
  by_cases z : i = j
  · subst z
    by_cases hi : i < ρ.length
    · rw [List.getElem?_set_self hi] at e; cases e
    · rw [List.getElem?_eq_none (by simpa using hi)] at e; cases e
  · rw [List.getElem?_set_ne z] at e ⊢
    exact h j d e
theorem Sta.gone {i : Nat} (s : Sta K F H ρ M σ) : Sta K F H (ρ.set i none) M (σ.set i none) := ⟨s.env.gone, s.mem, by rw [List.length_set, List.length_set]; exact s.len⟩
theorem RpX.xo {x : DX} {cls : Value} {d : Option Addr} {a : Addr} (h : RpX K F H x cls d) : Rp K F H (.xo a d x.fs) (.ref a) := by
  unfold Rp
  refine ⟨rfl, ?_⟩
  obtain ⟨_, h | ⟨dd, gs, h1, h2, h3⟩⟩ := h
  · rw [h.1, h.2]; exact ⟨[], rfl, .nil⟩
  · subst h1; exact ⟨gs, h2, h3⟩
theorem RpX.fs0 {x : DX} {cls : Value} {d : Option Addr} (h : RpX K F H x cls d) : d = none → x.fs = [] := fun e => by
  obtain ⟨_, h | ⟨dd, gs, h1, h2, h3⟩⟩ := h
  · exact h.1
  · rw [h1] at e; cases e
theorem sx0 {F : Addr → Prop} {H : Hp} {M : Mem} : SXOk K F H M (fun _ _ _ => False) W0 := fun _ _ _ _ _ _ _ _ _ _ _ z => z
theorem hds_at {E : DEnds} {D : Ends} : ∀ {l : List DH} {F : Addr → Prop} {H : Hp} {M : Mem} {ρ : Dv} {σ : L2.St} {x : DX} {cls : Value} {d : Option Addr}, EOk K F H M E D W → Sta K F H ρ M σ → RpX K F H x cls d → dHds K E l x ρ M → wMix K W D (upH K l) cls d σ H
  | [], F, H, M, ρ, σ, x, cls, d, y, s, r, h => y.ex F H ρ M σ x cls d (Ext.refl _ _ _) s r h
  | (c, oi, ts) :: l, F, H, M, ρ, σ, x, cls, d, y, s, r, h => by
    obtain ⟨b, h1, h2, h3⟩ := h
    have ec := r.1
    refine ⟨b, by rw [ec]; exact h1, fun e a na => ?_, fun e => hds_at y s r (h3 e)⟩
    have h2 := h2 e a d r.fs0
    subst ec
    cases oi with
    | none => exact ⟨x.fs, tGs_mk (E' := { E with ex := fun _ _ _ => False }) s ⟨y.nx, y.rt, y.bk, y.ct, sx0⟩ h2⟩
    | some i =>
      refine ⟨x.fs, tGs_mk (E' := { nx := fun ρ' M' => E.nx (ρ'.set i none) M', rt := E.rt, bk := fun ρ' M' => E.bk (ρ'.set i none) M', ct := fun ρ' M' => E.ct (ρ'.set i none) M', ex := fun _ _ _ => False }) (s.set i r.xo) ⟨fun F' H' ρ' M' σ' e' s' q => y.nx F' H' _ M' _ e' s'.gone q, y.rt, fun F' H' ρ' M' σ' e' s' q => y.bk F' H' _ M' _ e' s'.gone q, fun F' H' ρ' M' σ' e' s' q => y.ct F' H' _ M' _ e' s'.gone q, sx0⟩ h2⟩
theorem fs_try {body : List Stmt} {h₀ : ExceptHandler} {hds : List ExceptHandler} {l : List DH} {tb : DS} (hN : X.N.Nodup) (tk : Takes X W)
    (hb : ∀ (W : WX) (pn : List (Addr × Obj)) (xe : Value → Shared → Prop), Takes (X.tr pn xe) W → PassesOwn (model X.prog X.w) X.A X.env xe → FSs K (X.tr pn xe) W body tb) (hh : HdD K X (h₀ :: hds) l)
    (hK : X.K = K := by rfl) (hs : X.stack = X.env :: X.outer := by rfl) (hf : X.env.frame = some X.env.locals := by rfl) : FS K X W (.Try body (h₀ :: hds) [] [] pos) (sTry K tb l) := by
  subst hK
  exact PS.imp (ps_try_mix hs hf hN tk (fun W pn xe t p => hb W pn xe t p) hh.up) fun D σ H ⟨F, ρ, M, E', s, y, h⟩ =>
    tGs_mk (E' := { E' with ex := dHds X.K E' l }) s ⟨y.nx, y.rt, y.bk, y.ct, fun F' H' ρ' M' σ' x cls d e' s' r q => hds_at (y.next e') s' r q⟩ h

/-! ### the caught error's fields, isinstance of it -/
/-- e.f, e the error of the suite (at a, its class at C, its dict d) -/
def gXf (a : Addr) (cls : Value) (d : Option Addr) (C : Addr) (f : Str) (g : DE) : DE := fun E ρ M Q => g E ρ M fun y M1 => cls = .ref C ∧ ∃ fs z, y = .xo a d fs ∧ fs.lookup f = some z ∧ Q z M1
theorem fe_xf {a C : Addr} {oe : Obj} {cls : Value} {d : Option Addr} {pn : List (Addr × Obj)} {e : Expr} {n : Str} {fs : List Str} (hK : X.K = K) (T : ExCls K C fs) (hz : Zc cls d oe) (hf : ∃ vs, oe.data = .fields vs) (hn : n ∈ fs) (he : FE K (X.suite a ((a, oe) :: pn)) W e ga)
    (hb : attributeBase e n X.env (eval e X.env) = eval e X.env := by rfl) : FE K (X.suite a ((a, oe) :: pn)) W (.Attribute e n pos) (gXf a cls d C n ga) := by
  subst hK
  refine PE.imp (pe_xf T.xf (T.no n hn) hz hf he hb) fun σ H Q ⟨F, ρ, M, E, Q', s, x, q, h⟩ => tG_mk s x (fun F1 H1 M1 y v e1 m1 r1 h1 => ?_) h
  obtain ⟨ec, fs, z, rfl, hl, h1⟩ := h1
  unfold Rp at r1
  obtain ⟨rfl, gs, r2, r3⟩ := r1
  obtain ⟨w, hw, rw'⟩ := Rpf.look r3 hl
  cases d with
  | none =>
    have r2' : gs = [] := r2
    subst r2'
    cases hw
  | some dd => exact ⟨rfl, ec, dd, gs, w, rfl, r2, hw, q F1 H1 M1 _ _ e1 m1 rw' h1⟩
end
end DL
namespace DLM
open PySem PySem.W PySem.Spec PySem.Calls PyProof.Rows
section
variable {prog : Program} {w : World} {A : Around} {E : Value → Shared → Prop} {s : Shared} {K : Frag} {x D : Addr} {ox : Obj} {od : Option Obj}
theorem fo_data {C : Addr} {name : Str} {a g : Value} (hc : (clsIn K C).isSome = true) (ha : findIn K (.ref C) name = some (some a)) (hg : specialIn K a "__get__" = some (some g)) (ht : takesIn K a = some true) : findObj K C od name = some (.bind g a) := by
  (obtain ⟨cd, hc⟩ := Option.isSome_iff_exists.mp hc; unfold findObj; rw [hc, Option.bind_some, ha, Option.bind_some]; simp [hg, ht])
theorem kin_cls (hga : findIn K (.ref D) "__getattribute__" = some (some (.builtin "BaseException.__getattribute__"))) (hgt : findIn K (.ref D) "__getattr__" = some none) (hsub : subIn K (.ref D) (.type "BaseException") = some true) (hdct : hasDictIn K D = true)
    (ha : findIn K (.ref D) "__class__" = some (some (.builtin "object.__class__"))) (hn : specialIn K (.builtin "object.__class__") "__get__" = some (some (.builtin "getset_descriptor.__get__"))) (htk : takesIn K (.builtin "object.__class__") = some true) (hm : mroIn K D (.type "object") = some true)
    {Q : Option Value → Shared → Prop} (X : K.In s.heap) (I : InstAt s.heap x ox D od) (h : Q (some (.ref D)) { s with toks := s.toks + 1 }) : wpAny (model prog w) A (getAttr? (.ref x) "__class__") Q E s := by
  have hf : findObj K D od "__class__" = some (.bind (.builtin "getset_descriptor.__get__") (.builtin "object.__class__")) := fo_data (by (obtain ⟨cd, hc, _⟩ := any_some hdct; rw [hc]; rfl)) ha hn htk
  obtain ⟨hp, g, d, t, os⟩ := s; have L0 := I.type (M := model prog w)
  have L1 := looks_findIn (M := model prog w) X hga; have L2 := looks_findIn (M := model prog w) X hgt
  have L3 := looks_find (M := model prog w) X I hf; have sub : Looks (model prog w) hp (isInstance (.ref x) (.type "BaseException")) true := L0.andThen (looks_subIn X hsub)
  have hx0 : (false && onTheHeap (Value.builtin "BaseException.__getattribute__")) = false := by rfl
  have hx2 : (Value.builtin "BaseException.__getattribute__" == Value.builtin "object.__getattribute__") = false := by (decide +kernel)
  have hx1 : (onTheHeap (Value.ref D) && Value.builtin "BaseException.__getattribute__" == Value.builtin "object.__getattribute__") = false := by (rw [hx2]; rfl)
  unfold getAttr? getAttrBy? getAttrBy; refine wpAny_bind (wpAny_mkText (wpAny_bind (wpAny_attempt (wpAny_holding (wpAny_bind (L0.at (wpAny_bind (L1.at ?_))))))))
  show wpAny _ _ (if (onTheHeap (Value.ref D) && Value.builtin "BaseException.__getattribute__" == Value.builtin "object.__getattribute__") = true then _ else _) _ _ _; rw [hx1, if_neg Bool.false_ne_true]
  unfold getAttrByItsOwn hookBefore; refine wpAny_bind ?_; rw [if_pos (show onTheHeap (Value.ref D) = true from rfl)]
  refine L2.at (wpAny_bind (wpAny_attempt (wpAny_holding ?_))); unfold callGetattribute
  rw [hx0, if_neg Bool.false_ne_true]; unfold boundAndCalled; rw [PySem.F.excAttr_ValueError.ga.bind (.ref x)]
  refine wpAny_bind (wpAny_pure ?_); show wpAny _ _ (call (.builtin "BaseException.__getattribute__") [.ref x, .str "__class__" t]) _ _ _
  refine wpAny_call (codeAny_call_builtin PySem.F.excAttr_ValueError.ga.plain PySem.F.entry_bexc_ga (@check_slot (model prog w) _ _ ⟨hp, g, d, t + 1, os⟩ "BaseException.__getattribute__" "BaseException" "__getattribute__" (.ref x) [.str "__class__" t] [] _ (by decide +kernel) (by decide +kernel) sub (PySem.F.args_bexc_ga (.ref x) (.str "__class__" t)) ?_))
  unfold Builtin.«object.__getattribute__»; refine wpAny_bind (wpAny_of_eq (a := ((Value.ref x : Value), [Value.str "__class__" t])) (by first | rfl | (simp only [slotArgs]; rfl)) ?_)
  refine wpAny_bind (wpAny_pure (wpAny_bind (L0.at (wpAny_bind (L3.at ?_))))); show wpAny _ _ (holding [Value.builtin "object.__class__"] (call (.builtin "getset_descriptor.__get__") [.builtin "object.__class__", .ref x, .ref D]) >>= ret) _ _ _
  refine wpAny_bind (wpAny_holding (wpAny_call (class_get (s := ⟨hp, g, d, t + 1, os⟩) (ox := ox) (od := od) X I hm (wpAny_pure ?_)))); show wpAny _ _ (handedOut (.ref D)) _ _ _
  rw [handedOut_of (v := .ref D) rfl]; first | exact wpAny_pure (wpAny_pure h) | exact wpAny_pure h | exact wpAny_pure (wpAny_bind (wpAny_pure (wpAny_pure h)))
theorem kitx_exc (C : L2.ExcC K D) : KitX K (.ref x) (.ref D) (fun h => InstAt h x ox D od) where
  ty := fun _ _ _ I => I.type
  it := fun _ _ X _ => by
    obtain ⟨cdD, hcD, _⟩ := any_some C.hd; unfold clsIn at hcD
    split at hcD
    · (rename_i c' d' cd' sl' ho; intro A' Q' E' s' k q; unfold isType loadHead; exact wpAny_bind (wpAny_loadPart (k _ _ (X _ _ ho)) (wpAny_pure q)))
    · cases hcD
  ne := fun h tp dd its n sl X htp => by
    obtain ⟨cdD, hcD, _⟩ := any_some C.hd; refine Bool.eq_false_iff.mpr fun q => ?_
    have e : D = tp := Value.ref.inj (beq_iff_eq.mp q); subst e; unfold clsIn at hcD
    split at hcD
    · (rename_i c' d' cd' sl' ho; have z := (X _ _ ho).symm.trans htp; cases z)
    · cases hcD
  ca := fun X I k => kin_cls C.hg C.hk C.hs C.hd C.ha C.hn C.ht C.hm X I k
end
end DLM
namespace DL
open PySem PySem.Spec PyProof.Rows L2
/-- isinstance(e, c), e the error that the suite holds, its dict d -/
def rIsX (K : PySem.W.Frag) (D a : Addr) (d : Option Addr) : List V → Hp → VK → Prop := fun xs H Q => ∃ (c : V) (cv : Value) (b : Bool), xs = [.ref a, c] ∧ (∀ u, RelV c u → u = cv) ∧ PySem.W.kitOne K (.ref D) cv = some b ∧ (∀ dd, d = some dd → ∃ fs, H dd = some (.xd fs)) ∧ Q (.bl b) H
theorem call_isX {X : Cx} {a D : Addr} {oe : Obj} {d : Option Addr} {pn : List (Addr × Obj)} (C : ExcC X.K D) (hz : Zc (.ref D) d oe) (hf : ∃ vs, oe.data = .fields vs) : CallR (X.suite a ((a, oe) :: pn)) (.builtin "isinstance") (rIsX X.K D a d) := by
  intro pins s σ H xs us Q I r h
  obtain ⟨c, cv, b, rfl, hcv, e, hd, q⟩ := h
  cases r with
  | cons rx rr =>
    cases rr with
    | cons rt rr =>
      cases rr; cases rx
      have ec := hcv _ rt; subst ec
      obtain ⟨hget, _⟩ := I.pin (a, oe) (List.mem_append.mpr (.inl List.mem_cons_self)); obtain ⟨vs, hv⟩ := hf
      obtain ⟨oc, od, oda, osl⟩ := oe; obtain ⟨h1, h2⟩ := hz
      dsimp only at h1 h2 hv; subst h1 h2 hv
      cases od with
      | none => (have J : PySem.W.InstAt s.heap a ⟨.ref D, none, .fields vs, osl⟩ D none := ⟨hget, rfl, rfl, trivial⟩; exact PySem.W.kia_one (DLM.kitx_exc C) I.kIn J e (fun z => nomatch z) fun tk => ⟨.bl b, H, I.kept (t' := tk) fun _ _ z => z, rfl, q⟩)
      | some dd =>
        obtain ⟨fs, hx⟩ := hd dd rfl
        have hx' : ObjOk X.prog X.w H s.heap dd (.xd fs) := I.hok dd _ hx
        obtain ⟨mA, hns, hr⟩ := hx'; obtain ⟨o2, ho, hl⟩ := lookIn_ns hns
        have J : PySem.W.InstAt s.heap a ⟨.ref D, some dd, .fields vs, osl⟩ D (some o2) := ⟨hget, rfl, rfl, ho⟩
        exact PySem.W.kia_one (DLM.kitx_exc C) I.kIn J e (fun z => nomatch z) fun tk => ⟨.bl b, H, I.kept (t' := tk) fun _ _ z => z, rfl, q⟩
section
variable {K : PySem.W.Frag} {X : Cx} {W : WX}
def dIsX (K : PySem.W.Frag) (cls : Value) (a : Addr) (d : Option Addr) (D : Addr) : DRs := fun ds M Q => match ds with
  | [y, .ref c] => cls = .ref D ∧ (∃ fs, y = .xo a d fs) ∧ ∃ b, PySem.W.kitOne K (.ref D) (.ref c) = some b ∧ Q (.bl b) M
  | _ => False
theorem cd_isX {a D : Addr} {oe : Obj} {cls : Value} {d : Option Addr} {pn : List (Addr × Obj)} (hK : X.K = K) (C : ExcC K D) (hz : Zc cls d oe) (hf : ∃ vs, oe.data = .fields vs) : CallD K (X.suite a ((a, oe) :: pn)) (.builtin "isinstance") (dIsX K cls a d D) := by
  subst hK
  intro pins s σ H xs us Q I r h
  obtain ⟨F, M, ds, Q', m, rr, q, h⟩ := h
  match ds, h with
  | [y, .ref c], h =>
    obtain ⟨rfl, ⟨fs, rfl⟩, b, e, h⟩ := h
    obtain ⟨v, w, rfl, r1, r2⟩ := rr.two
    unfold Rp at r1 r2
    obtain ⟨rfl, gs, r3, r4⟩ := r1
    subst r2
    refine call_isX C hz hf pins s σ H _ us Q I r ⟨.ref c, .ref c, b, rfl, fun u z => z, e, fun dd ed => ?_, q F H M _ _ (Ext.refl _ _ _) m Rp.bl h⟩
    subst ed
    exact ⟨gs, r3⟩
end

/-! ### a def by its body -/
/-- the frame at a def's start -/
def startD (n : Nat) (ds : List D) : Dv := ds.map some ++ List.replicate (n - ds.length) none
theorem startD_ok {K : PySem.W.Frag} {F : Addr → Prop} {H : Hp} {N : List Str} {ds : List D} {vs : List V} (r : Rps K F H ds vs) (hl : ds.length ≤ N.length) : EnvOk K F H (startD N.length ds) (L2.start N vs) ∧ (startD N.length ds).length = (L2.start N vs).length := by
  have e := r.length
  constructor
  · intro i d h
    unfold startD at h
    by_cases hi : i < ds.length
    · rw [List.getElem?_append_left (by simpa using hi), List.getElem?_map] at h
      cases z : ds[i]? with
      | none => rw [z] at h; cases h
      | some d' =>
        rw [z] at h
        cases h
        obtain ⟨v, hv, rv⟩ := r.get z
        refine ⟨v, ?_, rv⟩
        unfold L2.start
        rw [List.getElem?_append_left (by simp; omega), List.getElem?_map, hv]
        rfl
    · rw [List.getElem?_append_right (by simpa using hi), List.getElem?_replicate] at h
      split at h <;> cases h
  · unfold startD L2.start
    simp [e]
section
variable {P : Program} {w : World} {K : PySem.W.Frag} {mg : Str → Option Value} {base : Heap}
/-- THE RULE for a def -/
theorem dl_def {x qual : Str} {st : Stmt} {f : Addr} {fd : FuncData} {N ps : List Str} {k : Nat} {sp : SpD} (Fn : Fun K x qual st f fd) (S : FnScope N ps (defScope st)) (len : ∀ ds M Q E, sp ds M Q E → ds.length = ps.length) (g : DS)
    (hN : ps.length ≤ N.length)
    (hw : ∀ (cdv : Value) (A : Around) (outer : List Env) (s : Shared) (H : Hp) (E : XK), Room k (A.deeper (envOfC qual (defScope st) s.heap.objs.size f cdv)) → FSs K (cxOf (L2.CX P w) P w K mg base N qual (defScope st) f cdv A outer s H E) (fun cls d _ H => E cls d H) (defBody st) g)
    (hg : ∀ ds M Q E, sp ds M Q E → g { nx := fun _ M => Q .non M, rt := Q, ex := fun x _ M => E x M } (startD N.length ds) M) : FnD P w K mg base (k + 1) f fd ps sp := by
  refine Fn.okX S (fun vs H Q E h => ?_) (fun cdv A outer s H vs Q E hr h => ⟨_, hw cdv A outer s H E hr, ?_⟩)
  · obtain ⟨F, M, ds, Q', E', m, r, _, _, h⟩ := h
    rw [r.length]
    exact len _ _ _ _ h
  · obtain ⟨F, M, ds, Q', E', m, r, q, y, h⟩ := h
    obtain ⟨s1, s2⟩ := startD_ok (N := N) r (by rw [len _ _ _ _ h]; exact hN)
    refine tGs_mk (E' := { nx := fun _ M => Q' .non M, rt := Q', ex := fun x _ M => E' x M }) ⟨s1, m, s2⟩ ⟨fun F' H' ρ' M' σ' e' s' h' => q F' H' M' .non .non e' s'.mem Rp.non h', q, fun _ _ _ _ _ _ _ z => z.elim, fun _ _ _ _ _ _ _ z => z.elim, fun F' H' ρ' M' σ' x cls d e' s' r' h' => y F' H' M' x cls d e' s'.mem r' h'⟩ (hg ds M Q' E' h)
end
end DL

/-! DLA: promises by name, plain words for the readings' proofs. -/
namespace DL
open PySem PySem.Spec PyProof.Rows L2
/-! ### promises by the number of arguments -/
def sp1 (f : D → Mem → DVK → DXK → Prop) : SpD
  | [a], M, Q, E => f a M Q E
  | _, _, _, _ => False
def sp2 (f : D → D → Mem → DVK → DXK → Prop) : SpD
  | [a, b], M, Q, E => f a b M Q E
  | _, _, _, _ => False
def sp3 (f : D → D → D → Mem → DVK → DXK → Prop) : SpD
  | [a, b, c], M, Q, E => f a b c M Q E
  | _, _, _, _ => False
def sp4 (f : D → D → D → D → Mem → DVK → DXK → Prop) : SpD
  | [a, b, c, d], M, Q, E => f a b c d M Q E
  | _, _, _, _ => False
def sp5 (f : D → D → D → D → D → Mem → DVK → DXK → Prop) : SpD
  | [a, b, c, d, e], M, Q, E => f a b c d e M Q E
  | _, _, _, _ => False
theorem sp1_at {f} {ds : List D} {M : Mem} {Q : DVK} {E : DXK} (h : sp1 f ds M Q E) : ∃ a, ds = [a] ∧ f a M Q E := by
  unfold sp1 at h
  split at h
  · exact ⟨_, rfl, h⟩
  · exact h.elim
theorem sp2_at {f} {ds : List D} {M : Mem} {Q : DVK} {E : DXK} (h : sp2 f ds M Q E) : ∃ a b, ds = [a, b] ∧ f a b M Q E := by
  unfold sp2 at h
  split at h
  · exact ⟨_, _, rfl, h⟩
  · exact h.elim
theorem sp3_at {f} {ds : List D} {M : Mem} {Q : DVK} {E : DXK} (h : sp3 f ds M Q E) : ∃ a b c, ds = [a, b, c] ∧ f a b c M Q E := by
  unfold sp3 at h
  split at h
  · exact ⟨_, _, _, rfl, h⟩
  · exact h.elim
theorem sp4_at {f} {ds : List D} {M : Mem} {Q : DVK} {E : DXK} (h : sp4 f ds M Q E) : ∃ a b c d, ds = [a, b, c, d] ∧ f a b c d M Q E := by
  unfold sp4 at h
  split at h
  · exact ⟨_, _, _, _, rfl, h⟩
  · exact h.elim
theorem sp5_at {f} {ds : List D} {M : Mem} {Q : DVK} {E : DXK} (h : sp5 f ds M Q E) : ∃ a b c d e, ds = [a, b, c, d, e] ∧ f a b c d e M Q E := by
  unfold sp5 at h
  split at h
  · exact ⟨_, _, _, _, _, rfl, h⟩
  · exact h.elim
theorem len_sp1 {f} {ds : List D} {M : Mem} {Q : DVK} {E : DXK} (h : sp1 f ds M Q E) : ds.length = 1 := by obtain ⟨_, rfl, _⟩ := sp1_at h; rfl
theorem len_sp2 {f} {ds : List D} {M : Mem} {Q : DVK} {E : DXK} (h : sp2 f ds M Q E) : ds.length = 2 := by obtain ⟨_, _, rfl, _⟩ := sp2_at h; rfl
theorem len_sp3 {f} {ds : List D} {M : Mem} {Q : DVK} {E : DXK} (h : sp3 f ds M Q E) : ds.length = 3 := by obtain ⟨_, _, _, rfl, _⟩ := sp3_at h; rfl
theorem len_sp4 {f} {ds : List D} {M : Mem} {Q : DVK} {E : DXK} (h : sp4 f ds M Q E) : ds.length = 4 := by obtain ⟨_, _, _, _, rfl, _⟩ := sp4_at h; rfl
theorem len_sp5 {f} {ds : List D} {M : Mem} {Q : DVK} {E : DXK} (h : sp5 f ds M Q E) : ds.length = 5 := by obtain ⟨_, _, _, _, _, rfl, _⟩ := sp5_at h; rfl
/-- a def of the top keeps its promise -/
def OkD (P : Program) (w : World) (K : PySem.W.Frag) (mg : Str → Option Value) (base : Heap) (k : Nat) (x : Str) (ps : List Str) (sp : SpD) : Prop :=
  ∃ fd, FnD P w K mg base k (He.ga K x) fd ps sp ∧ Binds K fd ps [] ∧ PySem.W.keepIn K (.ref (He.ga K x)) = true ∧ mg x = some (.ref (He.ga K x)) ∧ ∃ oc od sl, K.lookup (He.ga K x) = some ⟨oc, od, .func fd, sl⟩
section
variable {K : PySem.W.Frag} {X : Cx} {W : WX} {e : Expr} {pos : Pos}
theorem fe_callO {k : Nat} {ps : List Str} {sp : SpD} {x : Str} {p : Pos} {es : List Expr} {g : DA} (C : OkD X.prog X.w K X.mg X.base k x ps sp) (hr : Room k X.A) (tk : Takes X W) (ha : FA K X W (e :: es) g)
    (hK : X.K = K := by rfl) (hg : Gl X x := by rfl) (hdb : (x == ("__debug__" : Str)) = false := by decide) (he : starEach (e :: es) X.env = (false, eval e X.env) :: starEach es X.env := by rfl) (hpl : (backTo pos (starEach es X.env)).any (·.1) = false := by rfl) :
    FE K X W (.Call (.Name x p) (e :: es) [] pos) (gCall sp g) := by
  obtain ⟨fd, F, b, kp, m, _⟩ := C
  exact fe_call F hr tk m kp b ha hK hg hdb he hpl
/-- an own exception class, its __init__ kept -/
def OkX (P : Program) (w : World) (K : PySem.W.Frag) (mg : Str → Option Value) (base : Heap) (x : Str) (fs ps : List Str) : Prop :=
  ∃ fd, ExCls K (He.ga K x) fs ∧ fs.length ≤ 1000 ∧ PySem.W.findIn K (.ref (He.ga K x)) "__init__" = some (some (.ref (He.ma K (He.ga K x) "__init__"))) ∧ PySem.W.typeIn K (.ref (He.ma K (He.ga K x) "__init__")) = some (.type "function") ∧
    FnOk P w K mg base (L2.CX P w) 1 (He.ma K (He.ga K x) "__init__") fd ps (spInit (He.ga K x) fs) ∧ Binds K fd ps [] ∧ mg x = some (.ref (He.ga K x))
theorem fs_raiseO {fs ps : List Str} {x : Str} {p pos2 : Pos} {es : List Expr} {g : DA} (C : OkX X.prog X.w K X.mg X.base x fs ps) (hr : Room 2 X.A) (tk : Takes X W) (ha : FA K X W (e :: es) g)
    (hc : X.calm = true := by rfl) (hK : X.K = K := by rfl) (hg : Gl X x := by rfl) (hdb : (x == ("__debug__" : Str)) = false := by decide) (he : starEach (e :: es) X.env = (false, eval e X.env) :: starEach es X.env := by rfl) (hpl : (backTo pos (starEach es X.env)).any (·.1) = false := by rfl) :
    FS K X W (.Raise (some (.Call (.Name x p) (e :: es) [] pos)) none pos2) (sRaise (He.ga K x) fs g) := by
  obtain ⟨fd, T, hs, i1, i2, F, b, m⟩ := C
  exact fs_raise hc T hs i1 i2 F hr b tk m ha hK hg hdb he hpl
theorem fs_raiseOF {fs ps : List Str} {x : Str} {p pos2 : Pos} {es : List Expr} {g : DA} (C : OkX X.prog X.w K X.mg X.base x fs ps) (hr : Room 2 X.A) (tk : Takes X W) (ha : FA K X W (e :: es) g)
    (hc : X.calm = true := by rfl) (hK : X.K = K := by rfl) (hg : Gl X x := by rfl) (hdb : (x == ("__debug__" : Str)) = false := by decide) (he : starEach (e :: es) X.env = (false, eval e X.env) :: starEach es X.env := by rfl) (hpl : (backTo pos (starEach es X.env)).any (·.1) = false := by rfl) :
    FS K X W (.Raise (some (.Call (.Name x p) (e :: es) [] pos)) none pos2) (sRaiseF (He.ga K x) fs g) := by
  obtain ⟨fd, T, hs, i1, i2, F, b, m⟩ := C
  exact fs_raiseF hc T hs i1 i2 F hr b tk m ha hK hg hdb he hpl
theorem hu64 {k : Nat} {A : Around} (hr : Room k A) : A.units + 64 < cLine := by have := hr.un; omega
theorem names_g {x : Str} {c : Addr} (m : X.mg x = some (.ref c)) (hg : Gl X x := by rfl) (hdb : (x == ("__debug__" : Str)) = false := by decide) : Names X x (.ref c) := ⟨hg, hdb, .inl m⟩
end

theorem fun_lk {K : PySem.W.Frag} {x qual : Str} {st : Stmt} {f : Addr} {fd : FuncData} (F : Fun K x qual st f fd) : ∃ oc od sl, K.lookup f = some ⟨oc, od, .func fd, sl⟩ := by
  obtain ⟨oc, od, kV, doc, pm, an, cdv, ct, osl, _, l, _⟩ := F.ex
  exact ⟨oc, od, osl, l⟩
theorem fun_bindsA {K : PySem.W.Frag} {x qual : Str} {st : Stmt} {f : Addr} {fd : FuncData} {ps : List Str} (F : Fun K x qual st f fd)
    (h : ∀ (kV doc pm : Value) (an : Option Addr) (cdv ct : Value) (us : List Value), us.length = ps.length → bindArgs (PySem.W.fnOf x qual (defArgs st) (defBody st) (defScope st) .none kV doc pm an cdv ct) ⟨us, []⟩ = pure (ps.zip us)) (s : Shared) (us : List Value) (hu : us.length = ps.length) : BindsTo s fd ⟨us, []⟩ (ps.zip us) := by
  obtain ⟨oc, od, kV, doc, pm, an, cdv, ct, osl, e, _, _⟩ := F.ex
  subst e
  exact .of_eq (h kV doc pm an cdv ct us hu)
/-- THE END: the law's def keeps its promise at every script -/
theorem walk_ofW {l : PySem.W.OpenLaw} {n k : Nat} {q : Program} {loose : List Str} {XP : (Str → Option Value) → Heap → Prop} {YP : World → Heap → Prop} {d : DefRec} {x : Str} (hn : l.most = some n) (hn2 : n ≤ sizeLine) (hdf : d.params.defaults = []) (hr : Room k callerA)
    (F : ∀ (w : World) (mg : Str → Option Value) (fa : Addr) (h : Heap), YP w h → h.Ns mainGlobals mg → mg d.name = some (.ref fa) → ∃ (K : PySem.W.Frag) (fd : FuncData) (sp : SpD), K.In h ∧ (∀ (s : Shared) (u : Value), BindsTo s fd ⟨[u], []⟩ [(x, u)]) ∧
      (∀ ns : List Int, sp [.scr ns] (fun _ => none) (fun d _ => d = .bl true) fun _ _ => False) ∧ ∀ base : Heap, K.In base → base.Ns mainGlobals mg → FnD l.prog w K mg base k fa fd [x] sp) : PySem.W.WalkO q loose XP YP l.row.toRowW d [] (fun f vs => PySem.call f vs) := by
  refine Att.attach_call hn hdf fun w s₀ s₁ mg mb fa o pm cd doc a vs ns G Y ho hd hcd hmg hobj hints hlen hg => ?_; obtain ⟨K, fd, sp, KX, hb, hsp, hF⟩ := F w mg fa _ Y G.T.g hmg
  refine law_call KX G.T.g G.T.b G.T.builtins G.T.nolimit hg hobj hints (Nat.le_trans hlen hn2) hr hF hb (fun H hO hS => ?_) fun H e s' z => ?_
  · refine ⟨fun _ => False, fun _ => none, [.scr ns], fun d _ => d = .bl true, fun _ _ => False, ⟨fun _ f => f.elim, fun a o e => by cases e⟩, .cons ?_ .nil, fun F' H' M' d v _ _ r e => ?_, fun _ _ _ _ _ _ _ _ _ z => z.elim, hsp ns⟩
    · unfold Rp
      refine ⟨a, rfl, ?_⟩
      rcases hS with (h | ⟨o, h⟩) | h
      · rcases hO a with z | ⟨o, xs, z⟩
        · rw [z] at h; cases h
        · rw [z] at h; cases h
      · exact .inl ⟨o, h⟩
      · exact .inr fun H' => .inr h
    · subst e
      exact r.bl_inv
  · obtain ⟨_, _, _, _, _, _, _, _, _, _, _, _, z⟩ := z
    exact z.elim

/-! ### the built-in names -/
theorem bt_len : bootBuiltins "len" = some (.builtin "len") := by decide +kernel
theorem bt_sum : bootBuiltins "sum" = some (.builtin "sum") := by decide +kernel
theorem bt_max : bootBuiltins "max" = some (.builtin "max") := by decide +kernel
theorem bt_min : bootBuiltins "min" = some (.builtin "min") := by decide +kernel
theorem bt_abs : bootBuiltins "abs" = some (.builtin "abs") := by decide +kernel
theorem bt_sorted : bootBuiltins "sorted" = some (.builtin "sorted") := by decide +kernel
theorem bt_isinstance : bootBuiltins "isinstance" = some (.builtin "isinstance") := by decide +kernel
theorem bt_any : bootBuiltins "any" = some (.builtin "any") := by decide +kernel
theorem bt_all : bootBuiltins "all" = some (.builtin "all") := by decide +kernel
theorem bt_int : bootBuiltins "int" = some (.type "int") := by decide +kernel
theorem bt_list : bootBuiltins "list" = some (.type "list") := by decide +kernel
theorem bt_tuple : bootBuiltins "tuple" = some (.type "tuple") := by decide +kernel
theorem bt_bool : bootBuiltins "bool" = some (.type "bool") := by decide +kernel
theorem bt_str : bootBuiltins "str" = some (.type "str") := by decide +kernel
theorem bt_set : bootBuiltins "set" = some (.type "set") := by decide +kernel
theorem bt_range : bootBuiltins "range" = some (.type "range") := by decide +kernel

/-! ### rows: a sequence however it is held -/
def RowD (M : Mem) (d : D) (xs : List D) : Prop := d = .tup xs ∨ d = .lst xs ∨ ∃ a, d = .ref a ∧ M a = some (.lst xs)
def LstD (M : Mem) (d : D) (xs : List D) : Prop := d = .lst xs ∨ ∃ a, d = .ref a ∧ M a = some (.lst xs)
section
variable {M : Mem} {d : D} {xs : List D}
theorem LstD.row (h : LstD M d xs) : RowD M d xs := .inr h
theorem RowD.tup : RowD M (.tup xs) xs := .inl rfl
theorem RowD.lst : RowD M (.lst xs) xs := .inr (.inl rfl)
theorem RowD.ref {a : Addr} (h : M a = some (.lst xs)) : RowD M (.ref a) xs := .inr (.inr ⟨a, rfl, h⟩)
theorem LstD.lst : LstD M (.lst xs) xs := .inl rfl
theorem LstD.ref {a : Addr} (h : M a = some (.lst xs)) : LstD M (.ref a) xs := .inr ⟨a, rfl, h⟩
theorem RowD.src (h : RowD M d xs) : ∃ ok : Mem → Prop, srcOf M d = some ⟨xs, ok⟩ ∧ ok M ∧ ∀ M', RowD M' d xs → ok M' := by
  rcases h with rfl | rfl | ⟨a, rfl, h⟩
  · exact ⟨fun _ => True, rfl, trivial, fun _ _ => trivial⟩
  · exact ⟨fun _ => True, rfl, trivial, fun _ _ => trivial⟩
  · refine ⟨fun M' => M' a = some (.lst xs), ?_, h, fun M' h' => ?_⟩
    · unfold srcOf; simp only [h]
    · rcases h' with z | z | ⟨b, z, h'⟩
      · cases z
      · cases z
      · cases z; exact h'
theorem RowD.onS (h : RowD M d xs) {k : List D → Prop} (q : k xs) : onS M d k := by
  obtain ⟨ok, e, _⟩ := h.src
  unfold DL.onS
  rw [e]
  exact q
theorem RowD.onSrc (h : RowD M d xs) {R : Src → Mem → Prop} (q : ∀ ok : Mem → Prop, ok M → (∀ M', RowD M' d xs → ok M') → R ⟨xs, ok⟩ M) : onSrc M d R := by
  obtain ⟨ok, e, o, oo⟩ := h.src
  unfold DL.onSrc
  rw [e]
  exact q ok o oo
theorem LstD.onL (h : LstD M d xs) {k : List D → Prop} (q : k xs) : onL M d k := by
  rcases h with rfl | ⟨a, rfl, h⟩
  · exact onL_lst q
  · exact onL_ref h q
theorem RowD.kd (h : RowD M d xs) : kdOf M d = some .tuple ∨ kdOf M d = some .list := by
  rcases h with rfl | rfl | ⟨a, rfl, h⟩
  · exact .inl rfl
  · exact .inr rfl
  · refine .inr ?_
    unfold kdOf; simp only [h]
theorem LstD.kd (h : LstD M d xs) : kdOf M d = some .list := by
  rcases h with rfl | ⟨a, rfl, h⟩
  · rfl
  · unfold kdOf; simp only [h]
theorem mset_id {a : Addr} {o : MO} (h : M a = some o) : mset M a o = M := by
  funext b
  unfold mset
  split
  · rename_i e; rw [e, h]
  · rfl
theorem mset_comm {a b : Addr} {o u : MO} (h : a ≠ b) : mset (mset M a o) b u = mset (mset M b u) a o := by
  funext c
  unfold mset
  split
  · split
    · rename_i e1 e2; exact absurd (e2.symm.trans e1) h
    · rfl
  · rfl
/-- cells come beside -/
def MemUp (M M' : Mem) : Prop := ∀ a o, M a = some o → M' a = some o
theorem MemUp.refl : MemUp M M := fun _ _ h => h
theorem MemUp.trans {M M1 M2 : Mem} (a : MemUp M M1) (b : MemUp M1 M2) : MemUp M M2 := fun c o h => b c o (a c o h)
theorem MemUp.add {M : Mem} {a : Addr} {o : MO} (h : M a = none) : MemUp M (mset M a o) := fun b u e => by
  rw [mset_ne (fun z => by rw [z, h] at e; cases e)]; exact e
theorem MemUp.set {M M' : Mem} {a : Addr} {o : MO} (u : MemUp M M') (h : M a = none) : MemUp M (mset M' a o) := fun b w e => by
  rw [mset_ne (fun z => by rw [z, h] at e; cases e)]; exact u b w e
theorem MemUp.row {M' : Mem} (u : MemUp M M') (h : RowD M d xs) : RowD M' d xs := h.imp (fun z => z) fun h => h.imp (fun z => z) fun ⟨a, e, z⟩ => ⟨a, e, u _ _ z⟩
theorem MemUp.lst {M' : Mem} (u : MemUp M M') (h : LstD M d xs) : LstD M' d xs := h.imp (fun z => z) fun ⟨a, e, z⟩ => ⟨a, e, u _ _ z⟩
theorem MemUp.free {M' : Mem} (u : MemUp M M') {a : Addr} (h : M' a = none) : M a = none := by
  cases q : M a with
  | none => rfl
  | some o => rw [u a o q] at h; cases h
/-- the store told less, nothing frozen -/
theorem MemUp.fz {M' : Mem} (u : MemUp M M') : MemFz M' M fun _ => False := ⟨fun _ z => z.elim, fun a o h => ⟨fun z => z, u a o h⟩⟩
/-- .. one list frozen -/
theorem MemUp.fz1 {M' : Mem} (u : MemUp M M') {a : Addr} {o : MO} (h : M a = none) (h' : M' a = some o) : MemFz M' M fun b => b = a :=
  ⟨fun b z => (by rw [show b = a from z, h']; intro q; cases q), fun b o hb => ⟨fun z => (by rw [show b = a from z, h] at hb; cases hb), u b o hb⟩⟩
end
/-- an answer given as it is, cells of one's own let go -/
theorem ret_drop {M M' : Mem} {d : D} {Q : D → Mem → Prop} (u : MemUp M M') (q : Q d M) : ∃ d' M2 S, Fz M' S d d' ∧ MemFz M' M2 S ∧ Q d' M2 := ⟨d, M, _, .refl d, u.fz, q⟩
/-- a list of one's own given frozen -/
theorem ret_lst {M M' : Mem} {a : Addr} {xs : List D} {Q : D → Mem → Prop} (u : MemUp M M') (h : M a = none) (h' : M' a = some (.lst xs)) (q : Q (.lst xs) M) : ∃ d' M2 S, Fz M' S (.ref a) d' ∧ MemFz M' M2 S ∧ Q d' M2 :=
  ⟨.lst xs, M, fun b => b = a, .ref rfl h' (.refl xs), u.fz1 h h', q⟩
/-- a comprehension's clause in a still store: each item gives none or one -/
theorem lc_still {ok : Mem → Prop} {dg : DG} {tt : DT} {te : DE} {ρw : Dv} {M : Mem} {Q : List D → Mem → Prop} {α : Type} (v : α → D) (f : α → Option D) (ho : ok M) :
    ∀ (xs : List α) (acc : List D), (∀ x ∈ xs, ∀ (N : List D → Mem → Prop) (acc : List D), acc.length < sizeLine → N (acc ++ (f x).toList) M → dg (v x) ρw M fun ρ1 M1 => tt E0 ρ1 M1 fun b M2 => if b = true then te E0 ρ1 M2 fun y M3 => acc.length < sizeLine ∧ N (acc ++ [y]) M3 else N acc M2) →
      acc.length + xs.length < sizeLine → Q (acc ++ xs.filterMap f) M → lcD ok dg tt te ρw (xs.map v) acc M Q
  | [], acc, _, _, q => by
    unfold lcD
    simp only [List.filterMap_nil, List.append_nil] at q
    exact ⟨ho, q⟩
  | x :: xs, acc, h, hl, q => by
    rw [List.map_cons]
    unfold lcD
    rw [List.length_cons] at hl
    refine ⟨ho, h x (by simp) (fun l M' => lcD ok dg tt te ρw (xs.map v) l M' Q) acc (by omega) ?_⟩
    refine lc_still v f ho xs _ (fun y hy => h y (List.mem_cons_of_mem _ hy)) ?_ ?_
    · cases z : f x with
      | none => simp; omega
      | some y => simp; omega
    · cases z : f x with
      | none => rw [List.filterMap_cons_none z] at q; simpa using q
      | some y => rw [List.filterMap_cons_some z] at q; simpa using q
end DL

/-! DLB: the readings, applied: equations (all by rfl). -/
namespace DL
open PySem PySem.Spec L2
/-- a cut of a list (frozen) or of a tuple -/
def slD (x : D) (l h : Option Int) (M : Mem) (Q : DVK) : Prop := match x with
  | .tup ds => Q (.tup (cutD ds l h)) M
  | x => onL M x fun ds => Q (.lst (cutD ds l h)) M
section
variable {K : PySem.W.Frag} {E : DXK} {ρ : Dv} {M : Mem} {Q : DVK} {QL : List D → Mem → Prop} {QB : Bool → Mem → Prop} {R : Src → Mem → Prop} {D' : DEnds} {QO : Option Int → Mem → Prop} {QE : Dv → Mem → Prop}
variable {ga gb gc : DE} {g gr : DA} {n : DN} {ta tb : DT} {t u : DS} {rd r r' : DR2} {gi : DI} {dg : DG} {gs : DGs} {gl gh : DO}
theorem q_op : gOp rd ga gb E ρ M Q = ga E ρ M fun x M1 => gb E ρ M1 fun y M2 => rd x y M2 Q := rfl
theorem q_un {r1 : DR1} : gUn r1 ga E ρ M Q = ga E ρ M fun x M1 => r1 x M1 Q := rfl
theorem q_var {i : Nat} : gVar i E ρ M Q = match ρ[i]? with
  | some (some d) => Q d M
  | _ => False := rfl
theorem q_c {d : D} : gC d E ρ M Q = Q d M := rfl
theorem q_nil : aNil E ρ M QL = QL [] M := rfl
theorem q_cons : aCons ga gr E ρ M QL = ga E ρ M fun d M1 => gr E ρ M1 fun ds M2 => QL (d :: ds) M2 := rfl
theorem q_tup : gTup g E ρ M Q = g E ρ M fun ds M1 => ds.length ≤ sizeLine ∧ Q (.tup ds) M1 := rfl
theorem q_frz : gFrz n E ρ M Q = n E ρ M fun ds M1 => Q (.lst ds) M1 := rfl
theorem q_cel : gCel n E ρ M Q = n E ρ M fun ds M1 => ∀ p, M1 p = none → Q (.ref p) (mset M1 p (.lst ds)) := rfl
theorem q_lst : nLst g E ρ M QL = g E ρ M fun ds M1 => ds.length ≤ sizeLine ∧ QL ds M1 := rfl
theorem q_test : gTest ga E ρ M QB = ga E ρ M fun d M1 => onB QB M1 d := rfl
theorem q_onB {b : Bool} : onB QB M (.bl b) = QB b M := rfl
theorem q_and : gAnd ta tb E ρ M QB = ta E ρ M fun c M1 => if c = true then tb E ρ M1 QB else QB false M1 := rfl
theorem q_or : gOr ta tb E ρ M QB = ta E ρ M fun c M1 => if c = true then QB true M1 else tb E ρ M1 QB := rfl
theorem q_not : gNot ta E ρ M QB = ta E ρ M fun c M1 => QB (!c) M1 := rfl
theorem q_andV : gAndV ga gb E ρ M Q = ga E ρ M fun d M1 => onB (fun c M1 => if c = true then gb E ρ M1 Q else Q (.bl false) M1) M1 d := rfl
theorem q_orV : gOrV ga gb E ρ M Q = ga E ρ M fun d M1 => onB (fun c M1 => if c = true then Q (.bl true) M1 else gb E ρ M1 Q) M1 d := rfl
theorem q_notV : gNotV ga E ρ M Q = ga E ρ M fun d M1 => onB (fun c M1 => Q (.bl (!c)) M1) M1 d := rfl
theorem q_if : gIf ta ga gb E ρ M Q = ta E ρ M fun c M1 => if c = true then ga E ρ M1 Q else gb E ρ M1 Q := rfl
theorem q_chain : gChain r r' ga gb gc E ρ M Q = ga E ρ M fun x M1 => gb E ρ M1 fun y M2 => r x y M2 fun z M3 => onB (fun k M3 => if k = true then gc E ρ M3 fun w M4 => r' y w M4 Q else Q (.bl false) M3) M3 z := rfl
theorem q_next : sNext D' ρ M = D'.nx ρ M := rfl
theorem q_seq : sSeq t u D' ρ M = t { D' with nx := u D' } ρ M := rfl
theorem q_drop : sDrop ga D' ρ M = ga (fun x M => D'.ex x ρ M) ρ M fun _ M1 => D'.nx ρ M1 := rfl
theorem q_ret : sRet ga D' ρ M = ga (fun x M => D'.ex x ρ M) ρ M D'.rt := rfl
theorem q_retF : sRetF ga D' ρ M = ga (fun x M => D'.ex x ρ M) ρ M fun d M1 => ∃ d' M2 S, Fz M1 S d d' ∧ MemFz M1 M2 S ∧ D'.rt d' M2 := rfl
theorem q_retN : sRetN D' ρ M = D'.rt .non M := rfl
theorem q_sif : sIf ta t u D' ρ M = ta (fun x M => D'.ex x ρ M) ρ M fun k M1 => if k = true then t D' ρ M1 else u D' ρ M1 := rfl
theorem q_break : sBreak D' ρ M = D'.bk ρ M := rfl
theorem q_cont : sCont D' ρ M = D'.ct ρ M := rfl
theorem q_name {i : Nat} {d : D} : dName i d ρ M QE = QE (ρ.set i (some d)) M := rfl
theorem q_dnil {ds : List D} : dNil ds ρ M QE = (ds = [] ∧ QE ρ M) := rfl
theorem q_dcons {d : D} {ds : List D} : dCons dg gs (d :: ds) ρ M QE = dg d ρ M fun ρ' M' => gs ds ρ' M' QE := rfl
theorem q_dtup {k : Nat} {ds : List D} : dTup k gs (.tup ds) ρ M QE = (ds.length = k ∧ gs ds ρ M QE) := rfl
theorem q_asg : sAsg ga dg D' ρ M = ga (fun x M => D'.ex x ρ M) ρ M fun d M1 => dg d ρ M1 D'.nx := rfl
theorem q_set {i : Nat} : sSet i ga D' ρ M = ga (fun x M => D'.ex x ρ M) ρ M fun d M1 => D'.nx (ρ.set i (some d)) M1 := rfl
theorem q_par {i j : Nat} : sPar i j g D' ρ M = g (fun x M => D'.ex x ρ M) ρ M fun ds M1 => match ds with
  | [d, e] => D'.nx ((ρ.set i (some d)).set j (some e)) M1
  | _ => False := rfl
theorem q_for {gb : DS} : sFor gi dg gb D' ρ M = gi (fun x M => D'.ex x ρ M) ρ M fun src M1 => loopD src.ok dg gb D' src.items ρ M1 := rfl
theorem q_range1 : iRange1 g E ρ M R = g E ρ M fun ds M1 => match ds with
  | [.int j] => (-(2 ^ 62) ≤ j ∧ j < 2 ^ 62) ∧ R ⟨rgD 0 j.toNat, fun _ => True⟩ M1
  | _ => False := rfl
theorem q_range2 : iRange2 g E ρ M R = g E ρ M fun ds M1 => match ds with
  | [.int i, .int j] => (-(2 ^ 62) ≤ i ∧ i < 2 ^ 62 ∧ -(2 ^ 62) ≤ j ∧ j < 2 ^ 62) ∧ R ⟨rgD i (j - i).toNat, fun _ => True⟩ M1
  | _ => False := rfl
theorem q_iseq : iSeqD ga E ρ M R = ga E ρ M fun d M1 => onSrc M1 d R := rfl
theorem q_ienum : iEnumD g E ρ M R = g E ρ M fun ds M1 => match ds with
  | [d] => onSrc M1 d fun s M2 => R ⟨enD s.items, s.ok⟩ M2
  | _ => False := rfl
theorem q_call {sp : SpD} : gCall sp g E ρ M Q = g E ρ M fun ds M1 => sp ds M1 Q E := rfl
theorem q_cb {rs : DRs} : gCB rs g E ρ M Q = g E ρ M fun ds M1 => rs ds M1 Q := rfl
theorem q_ncb {rs : List D → Mem → (List D → Mem → Prop) → Prop} : nCB rs g E ρ M QL = g E ρ M fun ds M1 => rs ds M1 QL := rfl
theorem q_nop {rn : DRN2} : nOp rn ga gb E ρ M QL = ga E ρ M fun x M1 => gb E ρ M1 fun y M2 => rn x y M2 QL := rfl
theorem q_lenset : gLenSet ga E ρ M Q = ga E ρ M fun d M1 => onS M1 d fun xs => ∃ ns : List Int, xs = ns.map D.int ∧ ns.length < 4000 ∧ Q (.int (ddup ns).length) M1 := rfl
theorem q_mt {rm : DRm} : gMt rm ga g E ρ M Q = ga E ρ M fun x M1 => (onL M1 x fun _ => True) ∧ g E ρ M1 fun ds M2 => rm x ds M2 Q := rfl
theorem q_mt0 {rm : DRm} : gMt0 rm ga E ρ M Q = ga E ρ M fun x M1 => (onL M1 x fun _ => True) ∧ rm x [] M1 Q := rfl
theorem q_setix : sSetIx ga gb gc D' ρ M = ga (fun x M => D'.ex x ρ M) ρ M fun v M1 => gb (fun x M => D'.ex x ρ M) ρ M1 fun o M2 => gc (fun x M => D'.ex x ρ M) ρ M2 fun i M3 => dSetIx o i v M3 fun M4 => D'.nx ρ M4 := rfl
theorem q_augs : sAugS ga gb gc rd D' ρ M = ga (fun x M => D'.ex x ρ M) ρ M fun o M1 => gb (fun x M => D'.ex x ρ M) ρ M1 fun i M2 => dIxL o i M2 fun x M3 => gc (fun x M => D'.ex x ρ M) ρ M3 fun y M4 => rd x y M4 fun z M5 => dSetIx o i z M5 fun M6 => D'.nx ρ M6 := rfl
theorem q_aug {i : Nat} : sAug i ga rd D' ρ M = match ρ[i]? with
  | some (some d) => ga (fun x M => D'.ex x ρ M) ρ M fun y M1 => rd d y M1 fun z M2 => D'.nx (ρ.set i (some z)) M2
  | _ => False := rfl
theorem q_nsl : nSl ga gl gh E ρ M QL = ga E ρ M fun x M1 => gl E ρ M1 fun l M2 => gh E ρ M2 fun h M3 => onL M3 x fun ds => QL (cutD ds l h) M3 := rfl
theorem q_onone : oNone E ρ M QO = QO none M := rfl
theorem q_osome : oSome ga E ρ M QO = ga E ρ M fun d M1 => match d with
  | .int i => QO (some i) M1
  | _ => False := rfl
theorem q_gsl : gSl ga gl gh E ρ M Q = ga E ρ M fun x M1 => gl E ρ M1 fun l M2 => gh E ρ M2 fun h M3 => slD x l h M3 Q := rfl
theorem q_raise {C : Addr} {fs : List Str} : sRaise C fs g D' ρ M = g (fun x M => D'.ex x ρ M) ρ M fun ds M1 => ds.length = fs.length ∧ D'.ex (exOf C fs ds) ρ M1 := rfl
theorem q_raiseF {C : Addr} {fs : List Str} : sRaiseF C fs g D' ρ M = g (fun x M => D'.ex x ρ M) ρ M fun ds M1 => ds.length = fs.length ∧ ∃ M2, (∀ a o, M2 a = some o → M1 a = some o) ∧ D'.ex (exOf C fs ds) ρ M2 := rfl
theorem q_try {hs : List DH} : sTry K t hs D' ρ M = t { D' with ex := dHds K D' hs } ρ M := rfl
theorem q_lc {tt : DT} {te : DE} {vs : List Nat} : nLc gi dg tt te vs E ρ M QL = gi E ρ M fun src M1 => lcD src.ok dg tt te (wipeD ρ vs) src.items [] M1 QL := rfl
theorem q_lc2 {gi1 : DI} {dg1 : DG} {tt tt1 : DT} {te : DE} {vs vs1 : List Nat} : nLc2 gi dg tt gi1 dg1 tt1 te vs vs1 E ρ M QL = gi E ρ M fun src M1 => lcD2 src.ok dg tt gi1 dg1 tt1 te vs1 (wipeD ρ vs) src.items [] M1 QL := rfl
theorem q_yes : gYes E ρ M QB = QB true M := rfl
theorem q_wipe0 : wipeD ρ [] = ρ := rfl
theorem q_wipe {v : Nat} {vs : List Nat} : wipeD ρ (v :: vs) = (wipeD ρ vs).set v none := rfl
theorem q_xf {a C : Addr} {cls : Value} {d : Option Addr} {f : Str} : gXf a cls d C f ga E ρ M Q = ga E ρ M fun y M1 => cls = .ref C ∧ ∃ fs z, y = .xo a d fs ∧ fs.lookup f = some z ∧ Q z M1 := rfl
/-! operators -/
theorem q_I {C : Int → Int → Prop} {f : Int → Int → D} {i j : Int} : dI C f (.int i) (.int j) M Q = (C i j ∧ Q (f i j) M) := rfl
theorem q_I0 {f : Int → Int → D} {i j : Int} : dI0 f (.int i) (.int j) M Q = Q (f i j) M := rfl
theorem q_U {f : Int → D} {i : Int} : dU f (.int i) M Q = Q (f i) M := rfl
theorem q_add {i j : Int} : dAdd (.int i) (.int j) M Q = Q (.int (i + j)) M := rfl
theorem q_addT {a b : List D} : dAdd (.tup a) (.tup b) M Q = (a.length + b.length ≤ sizeLine ∧ Q (.tup (a ++ b)) M) := rfl
theorem q_addL {a : List D} {y : D} : dAdd (.lst a) y M Q = onL M y fun b => a.length + b.length ≤ sizeLine ∧ Q (.lst (a ++ b)) M := by cases y <;> rfl
theorem q_addR {a : Addr} {y : D} : dAdd (.ref a) y M Q = onL M (.ref a) fun a => onL M y fun b => a.length + b.length ≤ sizeLine ∧ Q (.lst (a ++ b)) M := by cases y <;> rfl
theorem q_onL {xs : List D} {k : List D → Prop} : onL M (.lst xs) k = k xs := rfl
theorem q_onSt {xs : List D} {k : List D → Prop} : onS M (.tup xs) k = k xs := rfl
theorem q_onSl {xs : List D} {k : List D → Prop} : onS M (.lst xs) k = k xs := rfl
theorem q_onSs {ns : List Int} {k : List D → Prop} : onS M (.scr ns) k = k (ns.map D.int) := rfl
theorem q_onSrct {xs : List D} : onSrc M (.tup xs) R = R ⟨xs, fun _ => True⟩ M := rfl
theorem q_onSrcl {xs : List D} : onSrc M (.lst xs) R = R ⟨xs, fun _ => True⟩ M := rfl
theorem q_eqI {f : Bool → Bool} {i j : Int} : dEqG f (.int i) (.int j) M Q = Q (.bl (f (decide (i = j)))) M := rfl
theorem q_eqB {f : Bool → Bool} {i j : Bool} : dEqG f (.bl i) (.bl j) M Q = Q (.bl (f (decide (i = j)))) M := rfl
theorem q_eqS {f : Bool → Bool} {i j : Str} : dEqG f (.str i) (.str j) M Q = Q (.bl (f (decide (i = j)))) M := rfl
theorem q_eqN {f : Bool → Bool} : dEqG f .non .non M Q = Q (.bl (f true)) M := rfl
theorem q_isN {f : Bool → Bool} {x : D} : dIsN f x .non M Q = Q (.bl (f (isNon x))) M := rfl
theorem q_ix {x : D} {i : Int} : dIx x (.int i) M Q = onS M x fun ds => ∃ d, atI ds i = some d ∧ Q d M := rfl
theorem q_ixL {x : D} {i : Int} : dIxL x (.int i) M Q = onL M x fun ds => ∃ d, atI ds i = some d ∧ Q d M := rfl
theorem q_in {neg : Bool} {x y : D} : dInG neg x y M Q = onS M y fun xs => flatD x = true ∧ xs.all flatD = true ∧ Q (.bl (if neg then !inD x xs else inD x xs)) M := rfl
theorem q_len {x : D} : dLen [x] M Q = onS M x fun xs => Q (.int xs.length) M := rfl
theorem q_sum {x : D} : dSum [x] M Q = onL M x fun xs => ∃ ns : List Int, xs = ns.map D.int ∧ Q (.int ns.sum) M := rfl
theorem q_max {x : D} : dMax [x] M Q = onS M x fun xs => ∃ (n : Int) (ns : List Int), xs = (n :: ns).map D.int ∧ Q (.int (ns.foldl max n)) M := by cases x <;> rfl
theorem q_min {x : D} : dMin [x] M Q = onS M x fun xs => ∃ (n : Int) (ns : List Int), xs = (n :: ns).map D.int ∧ Q (.int (ns.foldl min n)) M := by cases x <;> rfl
theorem q_max2 {i j : Int} : dMax [.int i, .int j] M Q = Q (.int (max i j)) M := rfl
theorem q_min2 {i j : Int} : dMin [.int i, .int j] M Q = Q (.int (min i j)) M := rfl
theorem q_abs {i : Int} : dAbs [.int i] M Q = Q (.int (if i < 0 then -i else i)) M := rfl
theorem q_int {i : Int} : dInt [.int i] M Q = Q (.int i) M := rfl
theorem q_tupof {x : D} : dTupleOf [x] M Q = onS M x fun xs => Q (.tup xs) M := rfl
theorem q_lstof {x : D} : nListOf [x] M QL = onS M x fun xs => QL xs M := rfl
theorem q_sort {x : D} : nSortOf [x] M QL = onS M x fun xs => ∃ ns : List Int, xs = ns.map D.int ∧ QL ((sortI ns).map D.int) M := rfl
theorem q_rep {x : D} {k : Int} : nRep x (.int k) M QL = onL M x fun a => (-(2 ^ 63) ≤ k ∧ k < 2 ^ 63 ∧ a.length * k.toNat ≤ sizeLine) ∧ QL (List.replicate k.toNat a).flatten M := rfl
theorem q_cat {x y : D} : nCat x y M QL = onL M x fun a => onL M y fun b => a.length + b.length ≤ sizeLine ∧ QL (a ++ b) M := rfl
theorem q_isi {x : D} {nm : String} : dIsi [x, .ty nm] M Q = ∃ k b, kdOf M x = some k ∧ isK k nm = some b ∧ Q (.bl b) M := by cases x <;> rfl
theorem q_isis {x : D} {ts : List D} : dIsi [x, .tup ts] M Q = ∃ k b, kdOf M x = some k ∧ isKs k ts = some b ∧ (∃ ns : List String, ts = ns.map D.ty) ∧ Q (.bl b) M := by cases x <;> rfl
theorem q_setat {o v : D} {i : Int} {k : Mem → Prop} : dSetIx o (.int i) v M k = onC M o fun a xs => ∃ j, ixN xs.length i = some j ∧ k (mset M a (.lst (xs.set j v))) := rfl
theorem q_onC {a : Addr} {k : Addr → List D → Prop} : onC M (.ref a) k = ∃ ds, M a = some (.lst ds) ∧ k a ds := rfl
theorem q_append {x d : D} : dAppend x [d] M Q = onC M x fun a xs => xs.length < sizeLine ∧ Q .non (mset M a (.lst (xs ++ [d]))) := rfl
theorem q_pop {x : D} : dPop x [] M Q = onC M x fun a xs => ∃ y, xs[xs.length - 1]? = some y ∧ Q y (mset M a (.lst xs.dropLast)) := rfl
theorem q_popAt {x : D} {i : Int} : dPop x [.int i] M Q = onC M x fun a xs => (-(2 ^ 63) ≤ i ∧ i < 2 ^ 63) ∧ ∃ k y, seqIndex? i xs.length = some k ∧ xs[k]? = some y ∧ Q y (mset M a (.lst (xs.eraseIdx k))) := rfl
theorem q_reverse {x : D} : dReverse x [] M Q = onC M x fun a xs => Q .non (mset M a (.lst xs.reverse)) := rfl
theorem q_insert {x d : D} {i : Int} : dInsert x [.int i, d] M Q = onC M x fun a xs => (xs.length < sizeLine ∧ 0 ≤ i ∧ i < 2 ^ 63) ∧ Q .non (mset M a (.lst (xs.take i.toNat ++ [d] ++ xs.drop i.toNat))) := rfl
theorem q_sp1 {f : D → Mem → DVK → DXK → Prop} {a : D} : sp1 f [a] M Q E = f a M Q E := rfl
theorem q_sp2 {f : D → D → Mem → DVK → DXK → Prop} {a b : D} : sp2 f [a, b] M Q E = f a b M Q E := rfl
theorem q_sp3 {f : D → D → D → Mem → DVK → DXK → Prop} {a b c : D} : sp3 f [a, b, c] M Q E = f a b c M Q E := rfl
theorem q_sp4 {f : D → D → D → D → Mem → DVK → DXK → Prop} {a b c d : D} : sp4 f [a, b, c, d] M Q E = f a b c d M Q E := rfl
theorem q_at0 {α : Type} {a : α} {l : List α} : (a :: l)[0]? = some a := rfl
theorem q_atS {α : Type} {a : α} {l : List α} {i : Nat} : (a :: l)[i + 1]? = l[i]? := rfl
theorem q_st0 {α : Type} {a b : α} {l : List α} : (a :: l).set 0 b = b :: l := rfl
theorem q_stS {α : Type} {a b : α} {l : List α} {i : Nat} : (a :: l).set (i + 1) b = a :: l.set i b := rfl
theorem q_iteT {A B : Prop} : (if true = true then A else B) = A := if_pos rfl
theorem q_iteF {A B : Prop} : (if false = true then A else B) = B := if_neg Bool.false_ne_true
end
end DL

/-! DLC: == of typed data; comprehensions and loops in plain words. -/
namespace DL
open PySem PySem.Spec L2
/-- α's values as deep values -/
class DatD (α : Type) [DecidableEq α] extends PySem.W.Datum α where
  d : α → D
  vw : ∀ M a, Vw M (d a) (toD a)
  lay : ∀ a, (toD a).canLay0 = true
instance : DatD Int where
  d := .int
  vw _ a := .int a
  lay _ := rfl
instance : DatD Bool where
  d := .bl
  vw _ a := .bl a
  lay _ := rfl
section
variable {α β : Type} [DecidableEq α] [DatD α] [DecidableEq β] [DatD β] {M : Mem} {Q : DVK}
theorem vws_map (M : Mem) : ∀ xs : List α, Vws M (xs.map DatD.d) (xs.map PySem.W.Datum.toD)
  | [] => .nil
  | x :: xs => .cons (DatD.vw M x) (vws_map M xs)
theorem lay_map : ∀ xs : List α, PyData.canLayAll0 (xs.map PySem.W.Datum.toD) = true
  | [] => rfl
  | x :: xs => by
    rw [List.map_cons]
    unfold PyData.canLayAll0
    rw [DatD.lay x, lay_map xs]
    rfl
instance : DatD (List α) where
  d xs := .lst (xs.map DatD.d)
  vw M xs := .lst (vws_map M xs)
  lay xs := by
    show PyData.canLay0 (.list (xs.map PySem.W.Datum.toD)) = true
    unfold PyData.canLay0
    exact lay_map xs
instance : DatD (PySem.W.Tup α) where
  d xs := .tup (xs.items.map DatD.d)
  vw M xs := .tup (vws_map M xs.items)
  lay xs := by
    show PyData.canLay0 (.tuple (xs.items.map PySem.W.Datum.toD)) = true
    unfold PyData.canLay0
    exact lay_map xs.items
instance : DatD (α × β) where
  d p := .tup [DatD.d p.1, DatD.d p.2]
  vw M p := .tup (.cons (DatD.vw M p.1) (.cons (DatD.vw M p.2) .nil))
  lay p := by
    show PyData.canLay0 (.tuple [PySem.W.Datum.toD p.1, PySem.W.Datum.toD p.2]) = true
    unfold PyData.canLay0 PyData.canLayAll0 PyData.canLayAll0 PyData.canLayAll0
    rw [DatD.lay p.1, DatD.lay p.2]
    rfl
theorem shaped_d (a : α) (hd : PySem.W.Datum.depth α ≤ 64) : SeqAt.shaped (PySem.W.Datum.toD a) = true := by
  unfold SeqAt.shaped
  rw [DatD.lay a]
  have := PySem.W.Datum.depth_le a
  simp
  omega
/-- == of two values of one type -/
theorem eq_dat {f : Bool → Bool} {x y : D} (a b : α) (hx : Vw M x (PySem.W.Datum.toD a)) (hy : Vw M y (PySem.W.Datum.toD b)) (q : Q (.bl (f (decide (a = b)))) M) (hs : eqS x y = none := by rfl) (hd : PySem.W.Datum.depth α ≤ 64 := by decide) : dEqG f x y M Q := by
  unfold dEqG
  rw [hs]
  exact ⟨_, _, hx, hy, shaped_d a hd, shaped_d b hd, by rw [PySem.W.Datum.eqv]; exact q⟩
theorem eq_datD {f : Bool → Bool} (a b : α) (q : Q (.bl (f (decide (a = b)))) M) (hs : eqS (DatD.d a) (DatD.d b) = none := by rfl) (hd : PySem.W.Datum.depth α ≤ 64 := by decide) : dEqG f (DatD.d a) (DatD.d b) M Q := eq_dat a b (DatD.vw M a) (DatD.vw M b) q hs hd
theorem vw_row {d : D} {xs : List α} (h : LstD M d (xs.map DatD.d)) : Vw M d (PySem.W.Datum.toD xs) := by
  rcases h with rfl | ⟨a, rfl, h⟩
  · exact DatD.vw M xs
  · exact .ref h (vws_map M xs)
end
section
variable {ok : Mem → Prop} {dg : DG} {tt : DT} {te : DE} {ρw : Dv} {M : Mem} {Q : List D → Mem → Prop}
/-- a comprehension's clause over deep items, the store still -/
theorem lc_stillD (f : D → Option D) (ho : ok M) (xs acc : List D) (h : ∀ x ∈ xs, ∀ (N : List D → Mem → Prop) (acc : List D), acc.length < sizeLine → N (acc ++ (f x).toList) M → dg x ρw M fun ρ1 M1 => tt E0 ρ1 M1 fun b M2 => if b = true then te E0 ρ1 M2 fun y M3 => acc.length < sizeLine ∧ N (acc ++ [y]) M3 else N acc M2)
    (hl : acc.length + xs.length < sizeLine) (q : Q (acc ++ xs.filterMap f) M) : lcD ok dg tt te ρw xs acc M Q := by
  have := lc_still (ok := ok) (dg := dg) (tt := tt) (te := te) (ρw := ρw) (Q := Q) (fun d : D => d) f ho xs acc h hl q
  simpa using this
/-- .. over any items, each giving one -/
theorem lc_map {α : Type} (v : α → D) (f : α → D) (ho : ok M) (xs : List α) (h : ∀ x ∈ xs, ∀ k : D → Mem → Prop, k (f x) M → dg (v x) ρw M fun ρ1 M1 => tt E0 ρ1 M1 fun b M2 => b = true ∧ te E0 ρ1 M2 k)
    (mono : ∀ d ρ M (Q Q' : Dv → Mem → Prop), (∀ ρ M, Q ρ M → Q' ρ M) → dg d ρ M Q → dg d ρ M Q') (hy : tt = gYes) (hl : xs.length < sizeLine) (q : Q (xs.map f) M) : lcD ok dg tt te ρw (xs.map v) [] M Q := by
  subst hy
  refine lc_still v (fun x => some (f x)) ho xs [] (fun x hx N acc hz hN => ?_) (by simpa using hl) (by simpa using q)
  have := h x hx (fun y M3 => acc.length < sizeLine ∧ N (acc ++ [y]) M3) ⟨hz, by simpa using hN⟩
  exact mono _ _ _ _ _ (fun ρ1 M1 z => (by
    obtain ⟨z1, z2⟩ := z
    show if true = true then te E0 ρ1 M1 (fun y M3 => acc.length < sizeLine ∧ N (acc ++ [y]) M3) else N acc M1
    rw [if_pos rfl]
    exact z2)) this
end
theorem sz : sizeLine = 16777216 := sizeLine_eq
/-! ### loops in plain words -/
theorem rgD_get {lo : Int} {n i : Nat} {d : D} (h : (rgD lo n)[i]? = some d) : i < n ∧ d = .int (lo + (i : Nat)) := by
  unfold rgD at h
  rw [List.getElem?_map] at h
  by_cases hx : i < n
  · rw [List.getElem?_range hx] at h
    cases h
    exact ⟨hx, rfl⟩
  · rw [List.getElem?_eq_none (by simpa using hx)] at h
    cases h
theorem rgD_len {lo : Int} {n : Nat} : (rgD lo n).length = n := by unfold rgD; simp
section
variable {ok : Mem → Prop} {dg : DG} {gb : DS} {E : DEnds} {ρ : Dv} {M : Mem}
/-- for x in range(lo, ..) -/
theorem loop_rg {lo : Int} {n i : Nat} (P : Nat → Dv → Mem → Prop) (hs : ∀ x ρ M, x < n → P x ρ M → ∀ Nx : Dv → Mem → Prop, (∀ ρ M, P (x + 1) ρ M → Nx ρ M) → gb { E with nx := Nx, ct := Nx, bk := E.nx } (ρ.set i (some (.int (lo + (x : Nat))))) M)
    (hd : ∀ ρ M, P n ρ M → E.nx ρ M) (h0 : P 0 ρ M) : loopD (fun _ => True) (dName i) gb E (rgD lo n) ρ M := by
  refine loop_inv P (fun _ _ _ _ _ => trivial) (fun x ρ M d h p => ?_) dName_mono (fun ρ M p => hd ρ M (by rw [rgD_len] at p; exact p)) h0
  obtain ⟨hx, rfl⟩ := rgD_get h
  exact hs x ρ M hx p
theorem loop_rg0 {n i : Nat} (P : Nat → Dv → Mem → Prop) (hs : ∀ (x : Nat) ρ M, x < n → P x ρ M → ∀ Nx : Dv → Mem → Prop, (∀ ρ M, P (x + 1) ρ M → Nx ρ M) → gb { E with nx := Nx, ct := Nx, bk := E.nx } (ρ.set i (some (.int (x : Nat)))) M)
    (hd : ∀ ρ M, P n ρ M → E.nx ρ M) (h0 : P 0 ρ M) : loopD (fun _ => True) (dName i) gb E (rgD 0 n) ρ M :=
  loop_rg P (fun x ρ M hx p Nx hN => by
    have := hs x ρ M hx p Nx hN
    rw [show (0 : Int) + (x : Nat) = (x : Nat) by omega]
    exact this) hd h0
/-- for x in xs, the items told by α -/
theorem loop_map {α : Type} {i : Nat} (v : α → D) (xs : List α) (P : Nat → Dv → Mem → Prop) (hok : ∀ i ρ M, i ≤ xs.length → P i ρ M → ok M) (hs : ∀ k x ρ M, xs[k]? = some x → P k ρ M → ∀ Nx : Dv → Mem → Prop, (∀ ρ M, P (k + 1) ρ M → Nx ρ M) → gb { E with nx := Nx, ct := Nx, bk := E.nx } (ρ.set i (some (v x))) M)
    (hd : ∀ ρ M, P xs.length ρ M → E.nx ρ M) (h0 : P 0 ρ M) : loopD ok (dName i) gb E (xs.map v) ρ M := by
  refine loop_inv P (fun i ρ M h => hok i ρ M (by simpa using h)) (fun k ρ M d h p => ?_) dName_mono (fun ρ M p => hd ρ M (by simpa using p)) h0
  rw [List.getElem?_map] at h
  cases z : xs[k]? with
  | none => rw [z] at h; cases h
  | some x =>
    rw [z] at h
    cases h
    exact hs k x ρ M z p
/-- a comprehension's clause, the store changing -/
theorem lc_inv {tt : DT} {te : DE} {ρw : Dv} {Q : List D → Mem → Prop} {items : List D} (P : Nat → List D → Mem → Prop) (hok : ∀ i acc M, i ≤ items.length → P i acc M → ok M)
    (hs : ∀ i acc M d, items[i]? = some d → P i acc M → ∀ N : List D → Mem → Prop, (∀ acc M, P (i + 1) acc M → N acc M) → dg d ρw M fun ρ1 M1 => tt E0 ρ1 M1 fun b M2 => if b = true then te E0 ρ1 M2 fun y M3 => acc.length < sizeLine ∧ N (acc ++ [y]) M3 else N acc M2)
    (hd : ∀ acc M, P items.length acc M → Q acc M) {acc : List D} {M : Mem} (h0 : P 0 acc M) : lcD ok dg tt te ρw items acc M Q := by
  have key : ∀ k i acc M, i + k = items.length → P i acc M → lcD ok dg tt te ρw (items.drop i) acc M Q := by
    intro k
    induction k with
    | zero =>
      intro i acc M e p
      have z : i = items.length := by omega
      subst z
      rw [List.drop_length]
      unfold lcD
      exact ⟨hok _ _ _ (Nat.le_refl _) p, hd _ _ p⟩
    | succ k ih =>
      intro i acc M e p
      have hlt : i < items.length := by omega
      rw [List.drop_eq_getElem_cons hlt]
      unfold lcD
      exact ⟨hok _ _ _ (by omega) p, hs i acc M _ (by simp [hlt]) p (fun acc M => lcD ok dg tt te ρw (items.drop (i + 1)) acc M Q) fun acc M p2 => ih (i + 1) acc M (by omega) p2⟩
  have := key items.length 0 acc M (by omega) h0
  simpa using this
end
theorem dTup_mono {n : Nat} {gs : DGs} (h : ∀ ds ρ M (Q Q' : Dv → Mem → Prop), (∀ ρ M, Q ρ M → Q' ρ M) → gs ds ρ M Q → gs ds ρ M Q') : ∀ d ρ M (Q Q' : Dv → Mem → Prop), (∀ ρ M, Q ρ M → Q' ρ M) → dTup n gs d ρ M Q → dTup n gs d ρ M Q' := fun d ρ M Q Q' k z => by
  cases d <;> first | exact z.elim | exact ⟨z.1, h _ _ _ _ _ k z.2⟩
theorem dNil_mono : ∀ ds ρ M (Q Q' : Dv → Mem → Prop), (∀ ρ M, Q ρ M → Q' ρ M) → dNil ds ρ M Q → dNil ds ρ M Q' := fun ds ρ M Q Q' k z => ⟨z.1, k _ _ z.2⟩
theorem dCons_mono {g : DG} {gs : DGs} (h1 : ∀ d ρ M (Q Q' : Dv → Mem → Prop), (∀ ρ M, Q ρ M → Q' ρ M) → g d ρ M Q → g d ρ M Q') (h2 : ∀ ds ρ M (Q Q' : Dv → Mem → Prop), (∀ ρ M, Q ρ M → Q' ρ M) → gs ds ρ M Q → gs ds ρ M Q') : ∀ ds ρ M (Q Q' : Dv → Mem → Prop), (∀ ρ M, Q ρ M → Q' ρ M) → dCons g gs ds ρ M Q → dCons g gs ds ρ M Q' := fun ds ρ M Q Q' k z => by
  cases ds with
  | nil => exact z.elim
  | cons d ds => exact h1 _ _ _ _ _ (fun ρ M y => h2 _ _ _ _ _ k y) z
/-- two names -/
theorem dT2_mono {n i j : Nat} : ∀ d ρ M (Q Q' : Dv → Mem → Prop), (∀ ρ M, Q ρ M → Q' ρ M) → dTup n (dCons (dName i) (dCons (dName j) dNil)) d ρ M Q → dTup n (dCons (dName i) (dCons (dName j) dNil)) d ρ M Q' := dTup_mono (dCons_mono dName_mono (dCons_mono dName_mono dNil_mono))
/-! ### a table: cells of one's own -/
structure TabAt (M0 M : Mem) (ps : List Addr) (rows : List (List D)) : Prop where
  len : ps.length = rows.length
  nd : ps.Nodup
  new : ∀ p ∈ ps, M0 p = none
  at_ : ∀ (i : Nat) (p : Addr) (r : List D), ps[i]? = some p → rows[i]? = some r → M p = some (.lst r)
  out : ∀ b, b ∉ ps → M b = M0 b
section
variable {M0 M : Mem} {ps : List Addr} {rows : List (List D)} {p : Addr} {r : List D}
theorem TabAt.nil : TabAt M0 M0 [] [] := ⟨rfl, List.nodup_nil, by simp, by simp, fun _ _ => rfl⟩
theorem TabAt.up (t : TabAt M0 M ps rows) : MemUp M0 M := fun a o h => by
  rw [t.out a fun z => by rw [t.new a z] at h; cases h]; exact h
theorem TabAt.push (t : TabAt M0 M ps rows) (hp : M p = none) : TabAt M0 (mset M p (.lst r)) (ps ++ [p]) (rows ++ [r]) := by
  have hn : p ∉ ps := fun z => by
    obtain ⟨i, hi, e⟩ := List.getElem_of_mem z
    have := t.at_ i p (rows[i]'(by rw [← t.len]; exact hi)) (by rw [List.getElem?_eq_getElem hi, e]) (List.getElem?_eq_getElem _)
    rw [hp] at this; cases this
  have h0 : M0 p = none := by rw [← t.out p hn]; exact hp
  refine ⟨by simp [t.len], ?_, ?_, fun i q r' h1 h2 => ?_, fun b hb => ?_⟩
  · rw [List.nodup_append]
    exact ⟨t.nd, by simp, fun a ha b hb => by rw [List.mem_singleton.mp hb]; exact fun z => hn (by rw [← z]; exact ha)⟩
  · intro q hq
    rcases List.mem_append.mp hq with z | z
    · exact t.new q z
    · rw [List.mem_singleton.mp z]; exact h0
  · by_cases hi : i < ps.length
    · rw [List.getElem?_append_left hi] at h1
      rw [List.getElem?_append_left (by rw [← t.len]; exact hi)] at h2
      rw [mset_ne fun z => hn (by rw [← z]; exact List.mem_of_getElem? h1)]
      exact t.at_ i q r' h1 h2
    · rw [List.getElem?_append_right (by omega)] at h1
      rw [List.getElem?_append_right (by rw [← t.len]; omega)] at h2
      rw [← t.len] at h2
      cases z : i - ps.length with
      | zero => rw [z] at h1 h2; cases h1; cases h2; exact mset_same
      | succ k => rw [z] at h1; cases h1
  · have hb1 : b ∉ ps := fun z => hb (by simp [z])
    have hb2 : b ≠ p := fun z => hb (by simp [z])
    rw [mset_ne hb2]; exact t.out b hb1
theorem nd_inj {l : List Addr} (h : l.Nodup) {i j : Nat} (hi : i < l.length) (hj : j < l.length) (e : l[i] = l[j]) : i = j := by
  have p := List.pairwise_iff_getElem.mp h
  rcases Nat.lt_trichotomy i j with z | z | z
  · exact absurd e (p i j hi hj z)
  · exact z
  · exact absurd e.symm (p j i hj hi z)
theorem TabAt.set {i : Nat} (t : TabAt M0 M ps rows) (hp : ps[i]? = some p) : TabAt M0 (mset M p (.lst r)) ps (rows.set i r) := by
  refine ⟨by simp [t.len], t.nd, t.new, fun j q r' h1 h2 => ?_, fun b hb => ?_⟩
  · by_cases e : i = j
    · subst e
      rw [h1] at hp
      cases hp
      have hi : i < rows.length := by rw [← t.len]; exact (List.getElem?_eq_some_iff.mp h1).1
      rw [List.getElem?_set_self hi] at h2
      cases h2
      exact mset_same
    · rw [List.getElem?_set_ne e] at h2
      have : q ≠ p := fun z => by
        subst z
        obtain ⟨h3, h4⟩ := List.getElem?_eq_some_iff.mp h1
        obtain ⟨h5, h6⟩ := List.getElem?_eq_some_iff.mp hp
        exact e (nd_inj t.nd h5 h3 (h6.trans h4.symm))
      rw [mset_ne this]
      exact t.at_ j q r' h1 h2
  · have : b ≠ p := fun z => hb (by rw [z]; exact List.mem_of_getElem? hp)
    rw [mset_ne this]; exact t.out b hb
theorem TabAt.row {i : Nat} (t : TabAt M0 M ps rows) (hi : i < rows.length) : M (ps[i]'(by rw [t.len]; exact hi)) = some (.lst rows[i]) := t.at_ i _ _ (List.getElem?_eq_getElem _) (List.getElem?_eq_getElem _)
end
theorem TabAt.notin {M0 M : Mem} {ps : List Addr} {rows : List (List D)} {p : Addr} (t : TabAt M0 M ps rows) (h : M0 p ≠ none ∨ M p = none) : p ∉ ps := fun z => by
  rcases h with h | h
  · exact h (t.new p z)
  · obtain ⟨i, hi, e⟩ := List.getElem_of_mem z
    have := t.at_ i p (rows[i]'(by rw [← t.len]; exact hi)) (by rw [List.getElem?_eq_getElem hi, e]) (List.getElem?_eq_getElem _)
    rw [h] at this; cases this
/-- beside the table a cell is changed (or laid) -/
theorem TabAt.under {M0 M : Mem} {ps : List Addr} {rows : List (List D)} {p : Addr} {o : MO} (t : TabAt M0 M ps rows) (h : p ∉ ps) : TabAt (mset M0 p o) (mset M p o) ps rows := by
  refine ⟨t.len, t.nd, fun q hq => ?_, fun i q r h1 h2 => ?_, fun b hb => ?_⟩
  · rw [mset_ne fun z => h (by rw [← z]; exact hq)]; exact t.new q hq
  · rw [mset_ne fun z => h (by rw [← z]; exact List.mem_of_getElem? h1)]; exact t.at_ i q r h1 h2
  · by_cases z : b = p
    · rw [z, mset_same, mset_same]
    · rw [mset_ne z, mset_ne z]; exact t.out b hb
theorem TabAt.keep {M0 M : Mem} {ps : List Addr} {rows : List (List D)} {p : Addr} {o : MO} (t : TabAt M0 M ps rows) (h : M0 p = some o) : M p = some o := t.up p o h
/-! ### rows and tables of numbers -/
def rowR (n : Nat) (f : Nat → Int) : List D := (List.range n).map fun b => D.int (f b)
theorem rowR_len {n : Nat} {f : Nat → Int} : (rowR n f).length = n := by unfold rowR; simp
theorem rowR_congr {n : Nat} {f g : Nat → Int} (h : ∀ b, b < n → f b = g b) : rowR n f = rowR n g := by
  unfold rowR
  apply List.map_congr_left
  intro b hb
  rw [h b (by simpa using hb)]
theorem rowR_set {n : Nat} {f : Nat → Int} {b : Nat} {v : Int} : (rowR n f).set b (.int v) = rowR n fun b' => if b' = b then v else f b' := by
  unfold rowR
  apply List.ext_getElem?
  intro j
  by_cases e2 : b = j
  · subst e2
    by_cases hb : b < n
    · rw [List.getElem?_set_self (by simpa using hb)]
      simp [hb]
    · rw [List.getElem?_eq_none (by simpa using hb), List.getElem?_eq_none (by simpa using hb)]
  · rw [List.getElem?_set_ne e2]
    simp only [List.getElem?_map]
    cases z : (List.range n)[j]? with
    | none => rfl
    | some k =>
      have : k = j := by
        obtain ⟨h1, h2⟩ := List.getElem?_eq_some_iff.mp z
        rw [List.getElem_range] at h2; exact h2.symm
      subst this
      simp [Ne.symm e2]
theorem ixN_nat {n i : Nat} (h : i < n) : ixN n ((i : Nat) : Int) = some i := by
  unfold ixN
  rw [if_pos (by omega), if_pos (by omega)]
  simp
theorem atI_nat {α : Type} {xs : List α} {i : Nat} (h : i < xs.length) : atI xs ((i : Nat) : Int) = some xs[i] := by
  unfold atI
  rw [ixN_nat h]
  simp [h]
theorem atI_rowR {n : Nat} {f : Nat → Int} {i : Nat} (h : i < n) : atI (rowR n f) ((i : Nat) : Int) = some (.int (f i)) := by
  rw [atI_nat (by rw [rowR_len]; exact h)]
  unfold rowR
  simp
/-- an n by n table of numbers -/
def tabR (n : Nat) (T : Nat → Nat → Int) : List (List D) := (List.range n).map fun a => rowR n (T a)
theorem tabR_len {n : Nat} {T : Nat → Nat → Int} : (tabR n T).length = n := by unfold tabR; simp
theorem tabR_get {n : Nat} {T : Nat → Nat → Int} {a : Nat} (h : a < n) : (tabR n T)[a]? = some (rowR n (T a)) := by unfold tabR; simp [h]
theorem tabR_congr {n : Nat} {T T' : Nat → Nat → Int} (h : ∀ a, a < n → ∀ b, b < n → T a b = T' a b) : tabR n T = tabR n T' := by
  unfold tabR
  apply List.map_congr_left
  intro a ha
  exact rowR_congr (h a (by simpa using ha))
theorem tabR_set {n : Nat} {T : Nat → Nat → Int} {a b : Nat} {v : Int} (ha : a < n) : (tabR n T).set a ((rowR n (T a)).set b (.int v)) = tabR n fun a' b' => if a' = a ∧ b' = b then v else T a' b' := by
  unfold tabR
  rw [rowR_set]
  apply List.ext_getElem?
  intro i
  by_cases e : a = i
  · subst e
    rw [List.getElem?_set_self (by simpa using ha)]
    simp only [List.getElem?_map, List.getElem?_range ha, Option.map_some]
    congr 1
    apply rowR_congr
    intro b' _
    simp
  · rw [List.getElem?_set_ne e]
    simp only [List.getElem?_map]
    cases z : (List.range n)[i]? with
    | none => rfl
    | some k =>
      have : k = i := by
        obtain ⟨h1, h2⟩ := List.getElem?_eq_some_iff.mp z
        rw [List.getElem_range] at h2; exact h2.symm
      subst this
      simp only [Option.map_some]
      congr 1
      apply rowR_congr
      intro b' _
      simp [Ne.symm e]
section
variable {M0 M : Mem} {ps : List Addr} {n : Nat} {T : Nat → Nat → Int}
theorem TabAt.cell {a : Nat} (t : TabAt M0 M ps (tabR n T)) (h : a < n) : ∃ p, ps[a]? = some p ∧ M p = some (.lst (rowR n (T a))) := by
  have hl : a < ps.length := by rw [t.len, tabR_len]; exact h
  exact ⟨ps[a], List.getElem?_eq_getElem hl, t.at_ a _ _ (List.getElem?_eq_getElem hl) (tabR_get h)⟩
theorem refs_at {a : Nat} {p : Addr} (h : ps[a]? = some p) : atI (ps.map D.ref) ((a : Nat) : Int) = some (.ref p) := by
  obtain ⟨h1, h2⟩ := List.getElem?_eq_some_iff.mp h
  rw [atI_nat (by simpa using h1)]
  simp [h2]
end
end DL

/-! DLD: subscripts as targets, three names at once, extend, count, in (data). -/
namespace DLM
open PySem PySem.Spec PyProof.Rows L2
section
variable {X : Cx}
/-- l.remove(x): items that are data -/
def rRemD (K : PySem.W.Frag) : V → List V → Hp → VK → Prop := fun x xs H Q => ∃ (a : Addr) (vs : List V) (y : V) (d : PyData) (ds : List PyData) (j : Nat) (z : PyData), x = V.ref a ∧ xs = [y] ∧ H a = some (.lst vs) ∧ DpAll K H vs ds ∧ Dp K H y d ∧ SeqAt.shaped (.list ds) = true ∧ SeqAt.shaped d = true ∧
  ds[j]? = some z ∧ PyData.eqv z d = true ∧ (∀ (m : Nat) (z' : PyData), m < j → ds[m]? = some z' → PyData.eqv z' d = false) ∧ Q .non (upd H a (.lst (vs.eraseIdx j)))
theorem eraseIdx_v : ∀ {vs : List V} {us : List Value} (i : Nat), Vals vs us → Vals (vs.eraseIdx i) (us.eraseIdx i)
  | _, _, i, .nil => .nil
  | _, _, 0, .cons _ t => t
  | _, _, i + 1, .cons r t => .cons r (eraseIdx_v i t)
theorem mt_removeD (hu : X.A.units + 65 < cLine) : MtR X "list.remove" (rRemD X.K) := by
  intro pins s σ H x xs v us Q I rx rxs h; obtain ⟨a, vs, y, d, ds, j, z, rfl, rfl, hH, ha, hy, sl, sd, hz, hzj, hno, q⟩ := h
  cases rx
  obtain ⟨uy, rfl, ry⟩ := rxs.one; obtain ⟨bs, r1⟩ := Dp.reads I d y uy hy ry
  have hxs : PyData.canLayAll0 ds = true := SeqAt.canLay_of_shaped sl; have hroom : X.A.units + 1 + min (PyData.depthAll ds) d.depth < cLine := room_in_shaped sd hu
  obtain ⟨zl, its, n, rv, hl, e⟩ := I.lstM hH; obtain ⟨as, h4⟩ := Dp.readsAll I ds _ its ha rv
  have hn : its.length = ds.length := SeqAt.ReadsAll.length ds its as h4; have hmap : its.map (SeqAt.readOf s.heap) = ds := SeqAt.readsAll_map ds its as hxs h4
  have hvl := rv.length; obtain ⟨hjd, _⟩ := List.getElem?_eq_some_iff.mp hz
  have hjl : j < its.length := by omega
  have at_ : ∀ (m : Nat) (hm : m < its.toArray.size) (z' : PyData), ds[m]? = some z' → SeqAt.readOf s.heap its.toArray[m] = z' := fun m hm z' hz' => by
    have hml : m < its.length := by simpa using hm
    rw [← hmap, List.getElem?_map, List.getElem?_eq_getElem hml] at hz'; have e1 : SeqAt.readOf s.heap its[m] = z' := Option.some.inj hz'
    simpa using e1
  refine call_meets PySem.F.slot_list_remove ⟨_, e, rfl⟩ PySem.F.entry_list_remove (PySem.F.args_list_remove_2 _ _) (SeqAt.list_removeAt a its.toArray n none #[] uy (fun u => PyData.eqv (SeqAt.readOf s.heap u) d) j (by simpa using hjl) ?_ ?_ (by rw [List.size_toArray]; omega)) ⟨e, SeqAt.items_eqAt (vs := its.toArray) (show ReadsAll s.heap its.toArray.toList ds as from h4) r1 hxs (SeqAt.canLay_of_shaped sd) hroom, ?_⟩
  · show PyData.eqv (SeqAt.readOf s.heap its.toArray[j]) d = true; rw [at_ j (by simpa using hjl) z hz]; exact hzj
  · intro m hm hmj; have hmd : m < ds.length := by omega
    have hz' : ds[m]? = some ds[m] := List.getElem?_eq_getElem hmd; show PyData.eqv (SeqAt.readOf s.heap its.toArray[m]) d = false
    rw [at_ m hm _ hz']; exact hno m _ hmj hz'
  · refine ⟨.non, _, I.lset (its' := its.eraseIdx j) (t' := s.toks) hH e ?_ (eraseIdx_v j rv) ?_, rfl, q⟩
    · show its.toArray.eraseIdxIfInBounds j = (its.eraseIdx j).toArray; rw [List.eraseIdxIfInBounds_toArray]
    · have := List.length_eraseIdx_le vs j; omega
end
end DLM
namespace DL
open PySem PySem.Spec L2
section
variable {K : PySem.W.Frag} {X : Cx} {W : WX} {F : Addr → Prop} {H : Hp} {ρ : Dv} {M : Mem} {σ : L2.St} {a b c e o : Expr} {ga gb gc : DE} {pos : Pos}
theorem hu65 {k : Nat} {A : Around} (hr : Room k A) : A.units + 65 < cLine := by have := hr.un; omega
theorem xe0 {W : WX} : XOk K F H M E0 W σ := fun _ _ _ _ _ _ _ _ _ z => z.elim
/-- o[i] as a target -/
def dSubT (ga gb : DE) : DG := fun d ρ M Q => ga E0 ρ M fun o M1 => gb E0 ρ M1 fun i M2 => dSetIx o i d M2 fun M3 => Q ρ M3
theorem fg_sub {vs : List Nat} {i : Expr} {p2 : Pos} (ho : FE K X W o ga) (hi : FE K X W i gb)
    (ha : ∀ v, assign (.Subscript o i p2) X.env v = (do
      let ov ← holding [v] (eval o X.env)
      let iv ← holding [v, ov] (eval i X.env)
      standAt p2
      holding [v, ov, iv] (setItem ov iv v)
      release [v, ov, iv] []) := by intro _; rfl) : FG K X (.Subscript o i p2) vs (dSubT ga gb) :=
  PG.imp (pg_sub ho hi (set_ix (K := K)) ha) fun v σ H Q ⟨F, ρ, M, d, Q', s, r, q, h⟩ =>
    tG_mk s xe0 (fun F1 H1 M1 d1 v1 e1 m1 r1 h1 => tG_mk (s.next e1.toExtW m1) xe0 (fun F2 H2 M2 d2 v2 e2 m2 r2 h2 =>
      ⟨F2, M2, d1, d2, d, _, m2, Rp.mono e2.toExtW _ _ r1, r2, Rp.mono (e1.trans e2).toExtW _ _ r, fun F3 H3 M3 e3 m3 h3 =>
        q F3 H3 ρ M3 σ ((e1.trans e2).trans e3) (s.next ((e1.trans e2).trans e3).toExtW m3) (Chg.refl _ _) h3, h2⟩) h1) h
def sPar3 (i j l : Nat) (g : DA) : DS := fun E ρ M => g (fun x M => E.ex x ρ M) ρ M fun ds M1 => match ds with
  | [d, e, f] => E.nx (((ρ.set i (some d)).set j (some e)).set l (some f)) M1
  | _ => False
theorem fs_par3 (i j l : Nat) {x y z : Str} {px py pz pt : Pos} {kt k2 pt2} {g : DA} (hN : X.N.Nodup) (ha : FA K X W [a, b, c] g) (hc : X.calm = true := by rfl) (hi : X.N[i]? = some x := by rfl) (hj : X.N[j]? = some y := by rfl) (hl : X.N[l]? = some z := by rfl) (hij : i ≠ j := by decide) (hil : i ≠ l := by decide) (hjl : j ≠ l := by decide)
    (hx : X.env.scope.names.lookup x = some .local := by rfl) (hy : X.env.scope.names.lookup y = some .local := by rfl) (hz : X.env.scope.names.lookup z = some .local := by rfl)
    (hw : swappedStores [.Tuple [.Name x px, .Name y py, .Name z pz] kt pt] (.Tuple [a, b, c] k2 pt2) X.env = pure (some [x, y, z]) := by rfl)
    (hs : swapsWithSole [.Tuple [.Name x px, .Name y py, .Name z pz] kt pt] (.Tuple [a, b, c] k2 pt2) pos.line X.env = pure false := by rfl) : FS K X W (.Assign [.Tuple [.Name x px, .Name y py, .Name z pz] kt pt] (.Tuple [a, b, c] k2 pt2) pos) (sPar3 i j l g) :=
  PS.imp (ps_par3 hc hN hi hj hl hij hil hjl hx hy hz ha hw hs) fun D σ H ⟨F, ρ, M, E', s, x, h⟩ => (⟨F, ρ, M, _, _, s, x.ex.at_ s, fun F1 H1 M1 ds vs e1 m1 r1 h1 => by
    match ds, h1 with
    | [d, e, f], h1 =>
      unfold Rps Rps Rps at r1
      obtain ⟨v, w, rfl, q1, u, w', rfl, q2, t, w2, rfl, q3, q4⟩ := r1
      unfold Rps at q4
      subst q4
      exact ⟨v, u, t, rfl, x.nx F1 H1 _ M1 _ e1 ((((s.next e1 m1).set i q1).set j q2).set l q3) h1⟩, h⟩ : tGa K W g σ H _)
def dCount : DRm := fun x ds M Q => match ds with
  | [.int k] => onL M x fun xs => ∃ ns : List Int, xs = ns.map D.int ∧ Q (.int (ns.count k : Nat)) M
  | _ => False
theorem md_count : MtD X.K X "list.count" dCount := MtR.imp mt_lcount fun x xs H Q ⟨F, M, d, ds, Q', m, r, rs, q, h⟩ => by
  match ds, h with
  | [.int k], h =>
    obtain ⟨w, rfl, rw'⟩ := rs.one
    have h' : onL M d fun xs => ∃ ns : List Int, xs = ns.map D.int ∧ Q' (.int (ns.count k : Nat)) M := h
    obtain ⟨es, a, vs, _, ⟨ns, rfl, h⟩, rfl, hv, rr⟩ := onL_at m r h'
    have z := Rp.ints rr
    subst z
    exact ⟨a, ns, k, rfl, by rw [rw'.int_inv], SqL.of hv, q F H M _ _ (Ext.refl _ _ _) m Rp.int h⟩
/-- in, not in: data -/
def dInDG (neg : Bool) : DR2 := fun x y M Q => ∃ d ds, Vw M x d ∧ Vw M y (.list ds) ∧ SeqAt.shaped d = true ∧ SeqAt.shaped (.list ds) = true ∧ Q (.bl (if neg then !ds.any (fun z => PyData.eqv z d) else ds.any fun z => PyData.eqv z d)) M
theorem od_inD (hK : X.K = K) (hu : X.A.units + 65 < cLine) : OpD K X (compareOp .In) (dInDG false) := by
  subst hK
  exact OpR.imp (op_inD hu) fun x y H Q ⟨F, M, d, e, Q', m, r1, r2, q, p, ps, v1, v2, s1, s2, h⟩ => ⟨p, ps, v1.dp m r1, v2.dp m r2, s1, s2, q F H M _ _ (Ext.refl _ _ _) m Rp.bl h⟩
theorem od_notInD (hK : X.K = K) (hu : X.A.units + 65 < cLine) : OpD K X (compareOp .NotIn) (dInDG true) := by
  subst hK
  exact OpR.imp (op_notInD hu) fun x y H Q ⟨F, M, d, e, Q', m, r1, r2, q, p, ps, v1, v2, s1, s2, h⟩ => ⟨p, ps, v1.dp m r1, v2.dp m r2, s1, s2, q F H M _ _ (Ext.refl _ _ _) m Rp.bl h⟩
end
section
variable {K : PySem.W.Frag} {X : Cx}
theorem Vws.get : ∀ {M : Mem} {ds : List D} {ps : List PyData}, Vws M ds ps → ds.length = ps.length
  | _, _, _, .nil => rfl
  | _, _, _, .cons _ t => by rw [List.length_cons, List.length_cons, Vws.get t]
/-- x.remove(y), the first place told -/
def dRemove : DRm := fun x ds M Q => match ds with
  | [y] => onC M x fun a xs => ∃ (d : PyData) (ps : List PyData) (j : Nat) (z : PyData), Vw M y d ∧ Vws M xs ps ∧ SeqAt.shaped (.list ps) = true ∧ SeqAt.shaped d = true ∧ ps[j]? = some z ∧ PyData.eqv z d = true ∧ (∀ (m : Nat) (z' : PyData), m < j → ps[m]? = some z' → PyData.eqv z' d = false) ∧ Q .non (mset M a (.lst (xs.eraseIdx j)))
  | _ => False
theorem md_remove (hK : X.K = K) (hu : X.A.units + 65 < cLine) : MtD K X "list.remove" dRemove := by
  subst hK
  refine MtR.imp (DLM.mt_removeD hu) fun x xs H Q ⟨F, M, d, ds, Q', m, r, rs, q, h⟩ => ?_
  match ds, h with
  | [y], h =>
    obtain ⟨w, rfl, rw'⟩ := rs.one
    obtain ⟨a, es, vs, rfl, rfl, e, n, hv, rv, p, ps, j, z, v1, v2, s1, s2, hz, he, hno, h⟩ := onC_at m r h
    exact ⟨a, vs, w, p, ps, j, z, rfl, rfl, hv, v2.dp m rv, v1.dp m rw', s1, s2, hz, he, hno, chL m e n hv (rv.eraseIdx j) q (fun _ _ => Rp.non) h⟩
end
section
variable {α : Type} [DecidableEq α] [DatD α] {M : Mem} {Q : DVK}
theorem in_dat {neg : Bool} {x y : D} (a : α) (xs : List α) (hx : Vw M x (PySem.W.Datum.toD a)) (hy : LstD M y (xs.map DatD.d)) (q : Q (.bl (if neg then !decide (a ∈ xs) else decide (a ∈ xs))) M) (hd : PySem.W.Datum.depth (List α) ≤ 64 := by decide) (hd1 : PySem.W.Datum.depth α ≤ 64 := by decide) : dInDG neg x y M Q := by
  refine ⟨_, xs.map PySem.W.Datum.toD, hx, vw_row hy, shaped_d a hd1, shaped_d (α := List α) xs hd, ?_⟩
  rw [PySem.W.any_datum]
  exact q
end
/-! ### x is True -/
section
variable {K : PySem.W.Frag} {X : Cx}
def dIsB (f : Bool → Bool) : DR2
  | .bl a, .bl b, M, Q => Q (.bl (f (decide (a = b)))) M
  | _, _, _, _ => False
theorem q_isB {f : Bool → Bool} {a b : Bool} {M : Mem} {Q : DVK} : dIsB f (.bl a) (.bl b) M Q = Q (.bl (f (decide (a = b)))) M := rfl
theorem od_isB : OpD K X (compareOp .Is) (dIsB fun b => b) := OpR.imp op_isBl fun x y H Q ⟨F, M, d, e, Q', m, r1, r2, q, h⟩ => by
  match d, e, h with
  | .bl a, .bl b, h =>
    unfold Rp at r1 r2
    exact ⟨a, b, r1, r2, q F H M _ _ (Ext.refl _ _ _) m Rp.bl h⟩
theorem od_notB : OpD K X (compareOp .IsNot) (dIsB fun b => !b) := OpR.imp op_notBl fun x y H Q ⟨F, M, d, e, Q', m, r1, r2, q, h⟩ => by
  match d, e, h with
  | .bl a, .bl b, h =>
    unfold Rp at r1 r2
    exact ⟨a, b, r1, r2, q F H M _ _ (Ext.refl _ _ _) m Rp.bl h⟩
end
/-! ### t.count(k) -/
section
variable {K : PySem.W.Frag} {X : Cx} {W : WX} {o e : Expr} {ga ge : DE} {apos cpos : Pos}
def gCntT (go ge : DE) : DE := fun E ρ M Q => go E ρ M fun x M1 => ∃ xs, x = .tup xs ∧ ge E ρ M1 fun y M2 => ∃ (ns : List Int) (k : Int), xs = ns.map D.int ∧ y = .int k ∧ Q (.int (ns.count k : Nat)) M2
theorem q_gCntT (go ge : DE) (E : DXK) (ρ : Dv) (M : Mem) (Q : DVK) : gCntT go ge E ρ M Q = go E ρ M (fun x M1 => ∃ xs, x = .tup xs ∧ ge E ρ M1 fun y M2 => ∃ (ns : List Int) (k : Int), xs = ns.map D.int ∧ y = .int k ∧ Q (.int (ns.count k : Nat)) M2) := rfl
theorem fe_cntT (hK : X.K = K) (ho : FE K X W o ga) (he : FE K X W e ge)
    (hbase : attributeBase o "count" X.env (eval o X.env) = eval o X.env := by rfl)
    (hfew : ((backTo cpos (starEach [e] X.env)).all (fun x => !x.1) && (backToKw cpos (keywordEach [] X.env)).all (fun x => x.1.isSome)
      && decide ([e].length + ([] : List Keyword).length + (if ([] : List Keyword).isEmpty then 0 else 1) < 30)) = true := by rfl)
    (hline : (apos.endLine == cpos.line) = true := by rfl) (hs : starEach [e] X.env = (false, eval e X.env) :: starEach [] X.env := by rfl) (hplain : (backTo cpos (starEach [] X.env)).any (·.1) = false := by rfl) :
    FE K X W (.Call (.Attribute o "count" apos) [e] [] cpos) (gCntT ga ge) := by
  subst hK
  refine PE.imp (DLT.pe_cntT ho he hbase hfew hline hs hplain) fun σ H Q ⟨F, ρ, M, E, Q', s, x, q, h⟩ => tG_mk s x (fun F1 H1 M1 d v e1 m1 r1 ⟨xs, hd, h1⟩ => ?_) h
  subst hd
  unfold Rp at r1
  obtain ⟨a, vs, rfl, pt, rr⟩ := r1
  refine ⟨a, vs, rfl, pt, F1, ρ, M1, E, _, s.next e1 m1, x.next e1, fun F2 H2 M2 y w e2 m2 r2 ⟨ns, k, hx, hy, h2⟩ => ?_, h1⟩
  subst hx hy
  have z := Rp.ints rr
  subst z
  exact ⟨ns, k, r2.int_inv, (ExtW.tupAt e2.toExtW pt).sq, q F2 H2 M2 _ _ (e1.trans e2) m2 Rp.int h2⟩
end
end DL

/-! DLE: == of plain deep values -/
namespace DL
open PySem PySem.Spec L2
mutual
def toP : D → PyData
  | .non => .none
  | .bl b => .bool b
  | .int i => .int i
  | .str x => .str x
  | .tup xs => .tuple (toPs xs)
  | .lst xs => .list (toPs xs)
  | .scr _ => .none
  | .ty _ => .none
  | .ref _ => .none
  | .obj _ _ => .none
  | .xo _ _ _ => .none
def toPs : List D → List PyData
  | [] => []
  | x :: xs => toP x :: toPs xs
end
/-- plain, to a depth -/
def plainN : Nat → D → Bool
  | _, .non => true
  | _, .bl _ => true
  | _, .int _ => true
  | _, .str x => PyData.strOk x
  | n + 1, .tup xs => xs.all (plainN n)
  | n + 1, .lst xs => xs.all (plainN n)
  | _, _ => false
theorem vws_toP {M : Mem} : ∀ {ds : List D}, (∀ d ∈ ds, Vw M d (toP d)) → Vws M ds (toPs ds)
  | [], _ => by unfold toPs; exact .nil
  | d :: ds, h => by
    unfold toPs
    exact .cons (h d (by simp)) (vws_toP fun x hx => h x (List.mem_cons_of_mem _ hx))
theorem vw_toP {M : Mem} : ∀ (n : Nat) {d : D}, plainN n d = true → Vw M d (toP d)
  | n, .non, _ => by unfold toP; exact .non
  | n, .bl b, _ => by unfold toP; exact .bl b
  | n, .int b, _ => by unfold toP; exact .int b
  | n, .str b, _ => by unfold toP; exact .str b
  | n + 1, .tup xs, h => by
    unfold toP
    have h' : ∀ d ∈ xs, plainN n d = true := List.all_eq_true.mp h
    exact .tup (vws_toP fun d hd => vw_toP n (h' d hd))
  | n + 1, .lst xs, h => by
    unfold toP
    have h' : ∀ d ∈ xs, plainN n d = true := List.all_eq_true.mp h
    exact .lst (vws_toP fun d hd => vw_toP n (h' d hd))
  | 0, .tup _, h => by simp [plainN] at h
  | 0, .lst _, h => by simp [plainN] at h
  | n, .scr _, h => by cases n <;> simp [plainN] at h
  | n, .ty _, h => by cases n <;> simp [plainN] at h
  | n, .ref _, h => by cases n <;> simp [plainN] at h
  | n, .obj _ _, h => by cases n <;> simp [plainN] at h
  | n, .xo _ _ _, h => by cases n <;> simp [plainN] at h
theorem lays_toP {n : Nat} : ∀ {ds : List D}, (∀ d ∈ ds, (toP d).canLay0 = true ∧ (toP d).depth ≤ n) → PyData.canLayAll0 (toPs ds) = true ∧ PyData.depthAll (toPs ds) ≤ n
  | [], _ => by unfold toPs; simp [PyData.canLayAll0, PyData.depthAll]
  | d :: ds, h => by
    have ih := lays_toP (n := n) (ds := ds) fun x hx => h x (List.mem_cons_of_mem _ hx)
    have h1 := h d (by simp)
    unfold toPs
    simp only [PyData.canLayAll0, PyData.depthAll, h1.1, ih.1, Bool.and_self, true_and]
    have a := h1.2
    have b := ih.2
    omega
theorem lay_toP : ∀ (n : Nat) {d : D}, plainN n d = true → (toP d).canLay0 = true ∧ (toP d).depth ≤ n
  | n, .non, _ => by unfold toP; simp [PyData.canLay0, PyData.depth]
  | n, .bl b, _ => by unfold toP; simp [PyData.canLay0, PyData.depth]
  | n, .int b, _ => by unfold toP; simp [PyData.canLay0, PyData.depth]
  | n, .str b, h => by unfold plainN at h; unfold toP; simp [PyData.canLay0, PyData.depth, h]
  | n + 1, .tup xs, h => by
    unfold toP
    have h' : ∀ d ∈ xs, plainN n d = true := List.all_eq_true.mp h
    have q := lays_toP (n := n) fun d hd => lay_toP n (h' d hd)
    simp only [PyData.canLay0, PyData.depth, q.1, true_and]
    have := q.2
    omega
  | n + 1, .lst xs, h => by
    unfold toP
    have h' : ∀ d ∈ xs, plainN n d = true := List.all_eq_true.mp h
    have q := lays_toP (n := n) fun d hd => lay_toP n (h' d hd)
    simp only [PyData.canLay0, PyData.depth, q.1, true_and]
    have := q.2
    omega
  | 0, .tup _, h => by simp [plainN] at h
  | 0, .lst _, h => by simp [plainN] at h
  | n, .scr _, h => by cases n <;> simp [plainN] at h
  | n, .ty _, h => by cases n <;> simp [plainN] at h
  | n, .ref _, h => by cases n <;> simp [plainN] at h
  | n, .obj _ _, h => by cases n <;> simp [plainN] at h
  | n, .xo _ _ _, h => by cases n <;> simp [plainN] at h
theorem shaped_toP {n : Nat} {d : D} (h : plainN n d = true) (hn : n ≤ 64) : SeqAt.shaped (toP d) = true := by
  have := lay_toP n h
  unfold SeqAt.shaped
  rw [this.1]
  simp
  omega
section
variable {M : Mem} {Q : DVK} {f : Bool → Bool}
/-- two views of the same data are equal -/
theorem eq_view {x y : D} {p : PyData} (hx : Vw M x p) (hy : Vw M y p) (hs : SeqAt.shaped p = true) (q : Q (.bl (f true)) M) : dEqG f x y M Q := by
  unfold dEqG
  have e := SeqAt.eqv_refl p (SeqAt.canLay_of_shaped hs)
  cases hx <;> cases hy <;> first
    | exact ⟨_, _, by assumption, by assumption, hs, hs, by rw [e]; exact q⟩
    | (simp only [eqS, decide_true]; exact q)
    | exact ⟨_, _, .tup (by assumption), .tup (by assumption), hs, hs, by rw [e]; exact q⟩
    | exact ⟨_, _, .lst (by assumption), .lst (by assumption), hs, hs, by rw [e]; exact q⟩
    | exact ⟨_, _, .ref (by assumption) (by assumption), .lst (by assumption), hs, hs, by rw [e]; exact q⟩
    | exact ⟨_, _, .lst (by assumption), .ref (by assumption) (by assumption), hs, hs, by rw [e]; exact q⟩
    | exact ⟨_, _, .ref (by assumption) (by assumption), .ref (by assumption) (by assumption), hs, hs, by rw [e]; exact q⟩
/-- equal values -/
theorem eq_self {x y : D} (e : x = y) (h : plainN 9 y = true) (q : Q (.bl (f true)) M) : dEqG f x y M Q := by
  subst e
  exact eq_view (vw_toP 9 h) (vw_toP 9 h) (shaped_toP h (by decide)) q
/-- a list of the store, or a frozen one -/
theorem vw_lst {d : D} {xs : List D} {n : Nat} (h : LstD M d xs) (hp : plainN (n + 1) (.lst xs) = true) : Vw M d (toP (.lst xs)) := by
  rcases h with rfl | ⟨a, rfl, h⟩
  · exact vw_toP _ hp
  · have h' : ∀ d ∈ xs, plainN n d = true := List.all_eq_true.mp hp
    unfold toP
    exact .ref h (vws_toP fun d hd => vw_toP n (h' d hd))
theorem eq_lists {x y : D} {xs ys : List D} (hx : LstD M x xs) (hy : LstD M y ys) (e : xs = ys) (hp : plainN 9 (.lst ys) = true) (q : Q (.bl (f true)) M) : dEqG f x y M Q := by
  subst e
  exact eq_view (vw_lst hx hp) (vw_lst hy hp) (shaped_toP hp (by decide)) q
/-- ==, of two tuples of ints -/
theorem eq_tupI (a b : List Int) (q : Q (.bl (f (decide (a = b)))) M) : dEqG f (.tup (a.map D.int)) (.tup (b.map D.int)) M Q := by
  refine eq_datD (α := PySem.W.Tup Int) ⟨a⟩ ⟨b⟩ ?_
  have e2 : ((⟨a⟩ : PySem.W.Tup Int) = ⟨b⟩) ↔ a = b := by
    constructor
    · intro h; exact congrArg PySem.W.Tup.items h
    · intro h; rw [h]
  rw [decide_eq_decide.mpr e2]
  exact q
theorem eq_lstI {x y : D} (a b : List Int) (hx : LstD M x (a.map D.int)) (hy : LstD M y (b.map D.int)) (q : Q (.bl (f (decide (a = b)))) M) (hs : eqS x y = none := by rfl) : dEqG f x y M Q :=
  eq_dat (α := List Int) a b (vw_row hx) (vw_row hy) q hs
end
section
variable {α : Type} [DecidableEq α] [DatD α] {M : Mem} {Q : DVK}
theorem onC_ref {p : Addr} {xs : List D} {k : Addr → List D → Prop} (h : M p = some (.lst xs)) (q : k p xs) : onC M (.ref p) k := ⟨xs, h, q⟩
theorem remove_dat {p : Addr} {y : D} (a : α) (xs : List α) (h : a ∈ xs) (hp : M p = some (.lst (xs.map DatD.d))) (hy : Vw M y (PySem.W.Datum.toD a)) (q : Q .non (mset M p (.lst ((xs.erase a).map DatD.d)))) (hd : PySem.W.Datum.depth (List α) ≤ 64 := by decide) (hd1 : PySem.W.Datum.depth α ≤ 64 := by decide) : dRemove (.ref p) [y] M Q := by
  obtain ⟨l, r, e, hl⟩ := List.eq_append_cons_of_mem h
  unfold dRemove
  dsimp only
  refine onC_ref hp ⟨_, xs.map PySem.W.Datum.toD, l.length, PySem.W.Datum.toD a, hy, vws_map M xs, shaped_d (α := List α) xs hd, shaped_d a hd1, ?_, ?_, fun m z' hm hz => ?_, ?_⟩
  · rw [e, List.getElem?_map, List.getElem?_append_right (Nat.le_refl _)]
    simp
  · rw [PySem.W.Datum.eqv]; simp
  · rw [e, List.getElem?_map, List.getElem?_append_left hm, List.getElem?_eq_getElem hm] at hz
    cases hz
    rw [PySem.W.Datum.eqv]
    have : l[m] ≠ a := fun z => hl (by rw [← z]; exact List.getElem_mem hm)
    simpa using this
  · have e2 : (xs.map DatD.d).eraseIdx l.length = (xs.erase a).map DatD.d := by
      rw [e, List.erase_append_right _ hl, List.erase_cons_head, List.map_append, List.map_append, List.eraseIdx_append_of_length_le (by simp)]
      simp
    rw [e2]
    exact q
end
theorem plainN_ints {n : Nat} : ∀ ns : List Int, (ns.map D.int).all (plainN n) = true
  | [] => rfl
  | a :: ns => by
    rw [List.map_cons, List.all_cons, plainN_ints ns]
    cases n <;> rfl
theorem plainN_bls {n : Nat} : ∀ ns : List Bool, (ns.map D.bl).all (plainN n) = true
  | [] => rfl
  | a :: ns => by
    rw [List.map_cons, List.all_cons, plainN_bls ns]
    cases n <;> rfl
theorem plainN_map {α : Type} {n : Nat} {v : α → D} (h : ∀ a, plainN n (v a) = true) : ∀ ns : List α, (ns.map v).all (plainN n) = true
  | [] => rfl
  | a :: ns => by
    rw [List.map_cons, List.all_cons, plainN_map h ns, h a]
    rfl
end DL

set_option maxHeartbeats 0
namespace LW
open PySem PySem.Spec PyProof.Rows L2 DL
def top (i : Nat) : Stmt := PySem.Challenge.pw_dicewins_k16_whole_words_of_one_lead.main.body.getD i (.Pass ⟨0, 0, 0, 0⟩)
abbrev s_is_int : Stmt := top 6
abbrev s_is_row : Stmt := top 7
abbrev s_check_int : Stmt := top 8
abbrev s_letters_of : Stmt := top 10
abbrev s_check_word : Stmt := top 12
abbrev s_plain_word : Stmt := top 13
abbrev s_word_table : Stmt := top 14
abbrev s_exchanged : Stmt := top 15
abbrev s_alike_words : Stmt := top 17
abbrev s_places_of : Stmt := top 18
abbrev s_sided_cells : Stmt := top 19
abbrev s_words_of_two : Stmt := top 21
abbrev s_moves_between : Stmt := top 22
abbrev s_paired_moves : Stmt := top 23
abbrev s_turned_towards : Stmt := top 24
abbrev s_paired_way : Stmt := top 25
abbrev s_same_lead : Stmt := top 26
abbrev s__law_draws : Stmt := top 28
abbrev s__law_take : Stmt := top 29
abbrev s__law_int : Stmt := top 30
abbrev s__law_word : Stmt := top 31
abbrev s__law_mixed_word : Stmt := top 32
abbrev s__law_grid : Stmt := top 33
abbrev s__law_sides : Stmt := top 34
abbrev s__law_lone : Stmt := top 35
abbrev s__law_moved : Stmt := top 36
abbrev s__law_way_holds : Stmt := top 37
abbrev s__law_same_holds : Stmt := top 38
abbrev s__law_edges_hold : Stmt := top 39
abbrev s__law_long_holds : Stmt := top 40
abbrev s__law_told : Stmt := top 41
abbrev s__law_refuses : Stmt := top 42
abbrev s_law : Stmt := top 43
abbrev s_BadNumber_init : Stmt := inClass (top 2) 0
abbrev s_BadWord_init : Stmt := inClass (top 3) 0
abbrev s_OtherSize_init : Stmt := inClass (top 4) 0
def d_is_int : He.DefD := ⟨("is_int", none), "is_int", "is_int", defArgs s_is_int, defBody s_is_int, defScope s_is_int, [], []⟩
def d_is_row : He.DefD := ⟨("is_row", none), "is_row", "is_row", defArgs s_is_row, defBody s_is_row, defScope s_is_row, [], []⟩
def d_check_int : He.DefD := ⟨("check_int", none), "check_int", "check_int", defArgs s_check_int, defBody s_check_int, defScope s_check_int, [], []⟩
def d_letters_of : He.DefD := ⟨("letters_of", none), "letters_of", "letters_of", defArgs s_letters_of, defBody s_letters_of, defScope s_letters_of, [], []⟩
def d_check_word : He.DefD := ⟨("check_word", none), "check_word", "check_word", defArgs s_check_word, defBody s_check_word, defScope s_check_word, [], []⟩
def d_plain_word : He.DefD := ⟨("plain_word", none), "plain_word", "plain_word", defArgs s_plain_word, defBody s_plain_word, defScope s_plain_word, [], []⟩
def d_word_table : He.DefD := ⟨("word_table", none), "word_table", "word_table", defArgs s_word_table, defBody s_word_table, defScope s_word_table, [], []⟩
def d_exchanged : He.DefD := ⟨("exchanged", none), "exchanged", "exchanged", defArgs s_exchanged, defBody s_exchanged, defScope s_exchanged, [], []⟩
def d_alike_words : He.DefD := ⟨("alike_words", none), "alike_words", "alike_words", defArgs s_alike_words, defBody s_alike_words, defScope s_alike_words, [], []⟩
def d_places_of : He.DefD := ⟨("places_of", none), "places_of", "places_of", defArgs s_places_of, defBody s_places_of, defScope s_places_of, [], []⟩
def d_sided_cells : He.DefD := ⟨("sided_cells", none), "sided_cells", "sided_cells", defArgs s_sided_cells, defBody s_sided_cells, defScope s_sided_cells, [], []⟩
def d_words_of_two : He.DefD := ⟨("words_of_two", none), "words_of_two", "words_of_two", defArgs s_words_of_two, defBody s_words_of_two, defScope s_words_of_two, [], []⟩
def d_moves_between : He.DefD := ⟨("moves_between", none), "moves_between", "moves_between", defArgs s_moves_between, defBody s_moves_between, defScope s_moves_between, [], []⟩
def d_paired_moves : He.DefD := ⟨("paired_moves", none), "paired_moves", "paired_moves", defArgs s_paired_moves, defBody s_paired_moves, defScope s_paired_moves, [], []⟩
def d_turned_towards : He.DefD := ⟨("turned_towards", none), "turned_towards", "turned_towards", defArgs s_turned_towards, defBody s_turned_towards, defScope s_turned_towards, [], []⟩
def d_paired_way : He.DefD := ⟨("paired_way", none), "paired_way", "paired_way", defArgs s_paired_way, defBody s_paired_way, defScope s_paired_way, [], []⟩
def d_same_lead : He.DefD := ⟨("same_lead", none), "same_lead", "same_lead", defArgs s_same_lead, defBody s_same_lead, defScope s_same_lead, [], []⟩
def d__law_draws : He.DefD := ⟨("_law_draws", none), "_law_draws", "_law_draws", defArgs s__law_draws, defBody s__law_draws, defScope s__law_draws, [], []⟩
def d__law_take : He.DefD := ⟨("_law_take", none), "_law_take", "_law_take", defArgs s__law_take, defBody s__law_take, defScope s__law_take, [], []⟩
def d__law_int : He.DefD := ⟨("_law_int", none), "_law_int", "_law_int", defArgs s__law_int, defBody s__law_int, defScope s__law_int, [], []⟩
def d__law_word : He.DefD := ⟨("_law_word", none), "_law_word", "_law_word", defArgs s__law_word, defBody s__law_word, defScope s__law_word, [], []⟩
def d__law_mixed_word : He.DefD := ⟨("_law_mixed_word", none), "_law_mixed_word", "_law_mixed_word", defArgs s__law_mixed_word, defBody s__law_mixed_word, defScope s__law_mixed_word, [], []⟩
def d__law_grid : He.DefD := ⟨("_law_grid", none), "_law_grid", "_law_grid", defArgs s__law_grid, defBody s__law_grid, defScope s__law_grid, [], []⟩
def d__law_sides : He.DefD := ⟨("_law_sides", none), "_law_sides", "_law_sides", defArgs s__law_sides, defBody s__law_sides, defScope s__law_sides, [], []⟩
def d__law_lone : He.DefD := ⟨("_law_lone", none), "_law_lone", "_law_lone", defArgs s__law_lone, defBody s__law_lone, defScope s__law_lone, [], []⟩
def d__law_moved : He.DefD := ⟨("_law_moved", none), "_law_moved", "_law_moved", defArgs s__law_moved, defBody s__law_moved, defScope s__law_moved, [], []⟩
def d__law_way_holds : He.DefD := ⟨("_law_way_holds", none), "_law_way_holds", "_law_way_holds", defArgs s__law_way_holds, defBody s__law_way_holds, defScope s__law_way_holds, [], []⟩
def d__law_same_holds : He.DefD := ⟨("_law_same_holds", none), "_law_same_holds", "_law_same_holds", defArgs s__law_same_holds, defBody s__law_same_holds, defScope s__law_same_holds, [], []⟩
def d__law_edges_hold : He.DefD := ⟨("_law_edges_hold", none), "_law_edges_hold", "_law_edges_hold", defArgs s__law_edges_hold, defBody s__law_edges_hold, defScope s__law_edges_hold, [], []⟩
def d__law_long_holds : He.DefD := ⟨("_law_long_holds", none), "_law_long_holds", "_law_long_holds", defArgs s__law_long_holds, defBody s__law_long_holds, defScope s__law_long_holds, [], []⟩
def d__law_told : He.DefD := ⟨("_law_told", none), "_law_told", "_law_told", defArgs s__law_told, defBody s__law_told, defScope s__law_told, [], []⟩
def d__law_refuses : He.DefD := ⟨("_law_refuses", none), "_law_refuses", "_law_refuses", defArgs s__law_refuses, defBody s__law_refuses, defScope s__law_refuses, [], []⟩
def d_law : He.DefD := ⟨("law", none), "law", "law", defArgs s_law, defBody s_law, defScope s_law, [], []⟩
def d_BadNumber_init : He.DefD := ⟨("BadNumber", some "__init__"), "__init__", "BadNumber.__init__", defArgs s_BadNumber_init, defBody s_BadNumber_init, defScope s_BadNumber_init, [], []⟩
def d_BadWord_init : He.DefD := ⟨("BadWord", some "__init__"), "__init__", "BadWord.__init__", defArgs s_BadWord_init, defBody s_BadWord_init, defScope s_BadWord_init, [], []⟩
def d_OtherSize_init : He.DefD := ⟨("OtherSize", some "__init__"), "__init__", "OtherSize.__init__", defArgs s_OtherSize_init, defBody s_OtherSize_init, defScope s_OtherSize_init, [], []⟩
def fn : List He.DefD := [d_is_int, d_is_row, d_check_int, d_letters_of, d_check_word, d_plain_word, d_word_table, d_exchanged, d_alike_words, d_places_of, d_sided_cells, d_words_of_two, d_moves_between, d_paired_moves, d_turned_towards, d_paired_way, d_same_lead, d__law_draws, d__law_take, d__law_int, d__law_word, d__law_mixed_word, d__law_grid, d__law_sides, d__law_lone, d__law_moved, d__law_way_holds, d__law_same_holds, d__law_edges_hold, d__law_long_holds, d__law_told, d__law_refuses, d_law, d_BadNumber_init, d_BadWord_init, d_OtherSize_init]
def fa0 : List He.Fa := [.glo "is_int", .glo "is_row", .glo "check_int", .glo "letters_of", .glo "check_word", .glo "plain_word", .glo "word_table", .glo "exchanged", .glo "alike_words", .glo "places_of", .glo "sided_cells", .glo "words_of_two", .glo "moves_between", .glo "paired_moves", .glo "turned_towards", .glo "paired_way", .glo "same_lead", .glo "_law_draws", .glo "_law_take", .glo "_law_int", .glo "_law_word", .glo "_law_mixed_word", .glo "_law_grid", .glo "_law_sides"]
def fa1 : List He.Fa := [.glo "_law_lone", .glo "_law_moved", .glo "_law_way_holds", .glo "_law_same_holds", .glo "_law_edges_hold", .glo "_law_long_holds", .glo "_law_told", .glo "_law_refuses", .glo "law", .glo "DiceError", .glo "BadNumber", .glo "BadWord", .glo "OtherSize", .free "ValueError", .free "bool", .free "enumerate", .free "int", .free "isinstance", .free "len", .free "list", .free "max", .free "min", .free "range", .free "set"]
def fa2 : List He.Fa := [.free "sorted", .free "sum", .free "tuple"]
def fa : List He.Fa := fa0 ++ fa1 ++ fa2
def ex0 (K : PySem.W.Frag) : Bool := DL.exB K "DiceError" [] false && (DL.exB K "BadNumber" ["name"] true && (DL.exB K "BadWord" ["place"] true && (DL.exB K "OtherSize" ["first", "second"] true && (DL.exmB K "DiceError" "DiceError" true && (DL.exmB K "DiceError" "BadNumber" false && (DL.exmB K "DiceError" "BadWord" false && (DL.exmB K "DiceError" "OtherSize" false && (DL.isiB K "DiceError" "DiceError" true && (DL.isiB K "DiceError" "BadNumber" false && (DL.isiB K "DiceError" "BadWord" false && (DL.isiB K "DiceError" "OtherSize" false && (DL.exmB K "BadNumber" "DiceError" true && (DL.exmB K "BadNumber" "BadNumber" true && (DL.exmB K "BadNumber" "BadWord" false && (DL.exmB K "BadNumber" "OtherSize" false && (DL.isiB K "BadNumber" "DiceError" true && (DL.isiB K "BadNumber" "BadNumber" true && (DL.isiB K "BadNumber" "BadWord" false && (DL.isiB K "BadNumber" "OtherSize" false && (DL.exmB K "BadWord" "DiceError" true && (DL.exmB K "BadWord" "BadNumber" false && (DL.exmB K "BadWord" "BadWord" true && (DL.exmB K "BadWord" "OtherSize" false)))))))))))))))))))))))
def ex1 (K : PySem.W.Frag) : Bool := DL.isiB K "BadWord" "DiceError" true && (DL.isiB K "BadWord" "BadNumber" false && (DL.isiB K "BadWord" "BadWord" true && (DL.isiB K "BadWord" "OtherSize" false && (DL.exmB K "OtherSize" "DiceError" true && (DL.exmB K "OtherSize" "BadNumber" false && (DL.exmB K "OtherSize" "BadWord" false && (DL.exmB K "OtherSize" "OtherSize" true && (DL.isiB K "OtherSize" "DiceError" true && (DL.isiB K "OtherSize" "BadNumber" false && (DL.isiB K "OtherSize" "BadWord" false && (DL.isiB K "OtherSize" "OtherSize" true)))))))))))
def ex (K : PySem.W.Frag) : Bool := ex0 K && ex1 K
def loose0 : List PySem.Str := ["DiceError", "BadNumber", "BadWord", "OtherSize", "is_int", "is_row", "check_int", "letters_of", "check_word", "plain_word", "word_table", "exchanged", "alike_words", "places_of", "sided_cells", "words_of_two", "moves_between", "paired_moves", "turned_towards", "paired_way", "same_lead", "_law_draws", "_law_take", "_law_int"]
def loose1 : List PySem.Str := ["_law_word", "_law_mixed_word", "_law_grid", "_law_sides", "_law_lone", "_law_moved", "_law_way_holds", "_law_same_holds", "_law_edges_hold", "_law_long_holds", "_law_told", "_law_refuses"]
def loose : List PySem.Str := loose0 ++ loose1
abbrev R : PySem.W.OpenRow := PySem.W.OpenLaw.row PySem.Challenge.rw_dicewins_k16_whole_words_of_one_lead
abbrev hk : PySem.W.Hook := He.hookX 4 fa fn [] [] ex
def ob (s : PySem.W.SharedT) : He.AlX := He.obsX 4 fa fn [] [] ex (HandSHeadRun.getT s)
theorem ob_eq (s : PySem.W.SharedT) : ob s = hk.obs s.abs := He.obsX_eq (HandSHeadRun.getT_eq s)
theorem run (w : World) : HandSHeadRun.RunEq R (PySem.W.view R.prog [43]) hk ob 4000 loose w := by
  intro os
  kernel_rfl
end LW

namespace LW
open PySem PySem.Spec PyProof.Rows L2 DL
/-! ### the words -/
abbrev iD (ns : List Int) : List D := ns.map D.int
def xBW (K : PySem.W.Frag) (p : Int) : DX := exOf (He.ga K "BadWord") ["place"] [.int p]
def xOS (K : PySem.W.Frag) (a b : Int) : DX := exOf (He.ga K "OtherSize") ["first", "second"] [.int a, .int b]
def inI : D → Option Int
  | .int i => some i
  | _ => none
def intsOf (xs : List D) : List Int := xs.filterMap inI
def topI (ns : List Int) : Int := ns.foldl max 0
def goodL (n : Int) : D → Bool
  | .int a => decide (0 ≤ a) && decide (a < n)
  | _ => false
def badAt (n : Int) : List D → Nat → Option Int
  | [], _ => none
  | x :: xs, i => if goodL n x then badAt n xs (i + 1) else some (i : Nat)
/-- what letters_of tells against a row -/
def letE (n : Int) (xs : List D) : Option Int := match badAt n xs 0 with
  | some p => some p
  | none => if ((ddup (intsOf xs)).length : Int) < n then some (-2) else none
def plainE (xs : List D) : Option Int := letE (1 + topI (intsOf xs)) xs
def rowOr (M : Mem) (d : D) (bad : Prop) (k : List D → Prop) : Prop := (∃ t, kdOf M d = some t ∧ t ≠ .tuple ∧ t ≠ .list ∧ bad) ∨ ∃ xs, RowD M d xs ∧ xs.all flatD = true ∧ xs.length < 4000 ∧ k xs
def plainC (K : PySem.W.Frag) (M : Mem) (d : D) (E : DXK) (k : List Int → Prop) : Prop := rowOr M d (E (xBW K (-1)) M) fun xs => match plainE xs with
  | some p => E (xBW K p) M
  | none => k (intsOf xs)
def alikeC (K : PySem.W.Frag) (M : Mem) (a b : D) (E : DXK) (k : List Int → List Int → Prop) : Prop := plainC K M a E fun one => plainC K M b E fun two =>
  if one.length ≠ two.length then E (xOS K one.length two.length) M else if sortI one ≠ sortI two then E (xBW K (-3)) M else k one two
def placesFrom (i : Int) : List Int → Nat → List Int
  | [], _ => []
  | a :: l, k => if a = i then (k : Int) :: placesFrom i l (k + 1) else placesFrom i l (k + 1)
def placesOf (ns : List Int) (i : Int) : List Int := placesFrom i ns 0
def cellAt (mine theirs mine2 theirs2 : List Int) (x y : Nat) : Option (Int × Int × Bool) :=
  let a := decide (mine.getD x 0 < theirs.getD y 0)
  if a = decide (mine2.getD x 0 < theirs2.getD y 0) then none else some ((x : Int), (y : Int), a)
def cellsF (one two : List Int) (i j : Int) : List (Int × Int × Bool) :=
  (List.range (placesOf one i).length).flatMap fun x => (List.range (placesOf one j).length).filterMap fun y => cellAt (placesOf one i) (placesOf one j) (placesOf two i) (placesOf two j) x y
def cellD (c : Int × Int × Bool) : D := .tup [.int c.1, .int c.2.1, .bl c.2.2]
def pairsF (n : Nat) : List (Int × Int) := (List.range n).flatMap fun i => (List.range (n - (i + 1))).map fun j => ((i : Int), ((i + 1 + j : Nat) : Int))
def pairD (p : Int × Int) : D := .tup [.int p.1, .int p.2]
def totalF (one two : List Int) : Int := ((pairsF (topI one + 1).toNat).map fun p => ((cellsF one two p.1 p.2).length : Int)).sum
/-- how often a stands behind b, less how often b behind a -/
def leadF : List Int → Int → Int → Int
  | [], _, _ => 0
  | c :: l, a, b => leadF l a b + (if c = a then -(l.count b : Int) else 0) + (if c = b then (l.count a : Int) else 0)
def leadsT (ns : List Int) (n : Nat) : List (List Int) := (List.range n).map fun a => (List.range n).map fun b => if a = b then (0 : Int) else leadF ns ((a : Nat) : Int) ((b : Nat) : Int)
def GoodW (n : Nat) (ns : List Int) : Prop := 1 ≤ n ∧ n ≤ 64 ∧ ns.length < 4000 ∧ (∀ a ∈ ns, 0 ≤ a ∧ a < n) ∧ ∀ k : Nat, k < n → (k : Int) ∈ ns
def Pool (M : Mem) (p : Addr) : Prop := ∃ xs : List Int, M p = some (.lst (iD xs))
def xBN (K : PySem.W.Frag) (s : Str) : DX := exOf (He.ga K "BadNumber") ["name"] [.str s]
/-- two neighbours exchanged -/
def exchI (l : List Int) (a : Nat) : List Int := l.take a ++ [l.getD (a + 1) 0, l.getD a 0] ++ l.drop (a + 2)
/-- where each letter goes -/
def goalsF (two : List Int) : List Int → List Int → List Int
  | _, [] => []
  | m, c :: l => (placesOf two c).getD (m.count c) 0 :: goalsF two (m ++ [c]) l
def goalsI (one two : List Int) : List Int := goalsF two [] one
/-- the letter at place at sinks: the goals behind it, the words on the way -/
def sinkI : Nat → List Int → List Int → List Int × List (List Int)
  | 0, g, _ => (g, [])
  | a + 1, g, w => if g.getD (a + 1) 0 < g.getD a 0 then ((sinkI a (exchI g a) (exchI w a)).1, exchI w a :: (sinkI a (exchI g a) (exchI w a)).2) else (g, [])
def wayStep (s : List Int × List (List Int)) (e : Nat) : List Int × List (List Int) := ((sinkI e s.1 (s.2.getLastD [])).1, s.2 ++ (sinkI e s.1 (s.2.getLastD [])).2)
def wayI (one two : List Int) : List (List Int) := ((List.range (one.length - 1)).foldl (fun s k => wayStep s (k + 1)) (goalsI one two, [one])).2
def tups (ws : List (List Int)) : List D := ws.map fun w => .tup (iD w)
/-- a number within lo .. hi -/
def inR (lo hi : Int) : D → Bool
  | .int i => decide (lo ≤ i) && decide (i ≤ hi)
  | _ => false
def within (K : PySem.W.Frag) (M : Mem) (v : D) (nm : Str) (lo hi : Int) (E : DXK) (k : Prop) : Prop := flatD v = true ∧ if inR lo hi v = true then k else E (xBN K nm) M
def allCells (one two : List Int) (n : Nat) : List (Int × Int × Int × Int) := (pairsF n).flatMap fun p => (cellsF one two p.1 p.2).map fun c => (p.1, p.2, c.1, c.2.1)
def wordC (K : PySem.W.Frag) (M : Mem) (d : D) (n : Int) (E : DXK) (k : List Int → Prop) : Prop := rowOr M d (E (xBW K (-1)) M) fun xs => match letE n xs with
  | some p => E (xBW K p) M
  | none => k (intsOf xs)
def twoC (K : PySem.W.Frag) (M : Mem) (a b : D) (E : DXK) (k : List Int → List Int → Prop) : Prop := wordC K M a 2 E fun one => wordC K M b 2 E fun two =>
  if one.length ≠ two.length then E (xOS K one.length two.length) M else if sortI one ≠ sortI two then E (xBW K (-3)) M else k one two
/-- the x-th place of letter i -/
def posF (w : List Int) (i : Int) (x : Nat) : Int := (placesOf w i).getD x 0
/-- the x-th 0 stands before the y-th 1 -/
def aheadB (w : List Int) (x y : Nat) : Bool := decide (posF w 0 x < posF w 1 y)
def cnt (f : Nat → Nat → Bool) (z o : Nat) : Nat := ((List.range z).map fun x => ((List.range o).filter (f x)).length).sum
def moreC (w v : List Int) : Nat := cnt (fun x y => aheadB w x y && !aheadB v x y) (w.count 0) (w.count 1)
def lessC (w v : List Int) : Nat := cnt (fun x y => aheadB v x y && !aheadB w x y) (w.count 0) (w.count 1)
def aheadN (w : List Int) : Nat := cnt (aheadB w) (w.count 0) (w.count 1)
def movesD (w v : List Int) : D := if moreC w v = lessC w v then .int (moreC w v : Nat) else .non
/-- the first exchange towards two of the letter lo and another -/
def turnAt (two : List Int) (lo : Int) (w : List Int) (a : Nat) : Prop := a + 1 < w.length ∧ w.getD a 0 = lo ∧ w.getD (a + 1) 0 ≠ lo ∧ (goalsI w two).getD (a + 1) 0 < (goalsI w two).getD a 0
def turnR (two : List Int) (lo : Int) (w r : List Int) : Prop := (∃ a, turnAt two lo w a ∧ r = exchI w a) ∨ ((∀ a, ¬ turnAt two lo w a) ∧ r = w)
def pairR (two w r : List Int) : Prop := ∃ v, turnR two 0 w v ∧ turnR two 1 v r
def chainP (two : List Int) : List Int → List (List Int) → Prop
  | _, [] => True
  | w, v :: l => pairR two w v ∧ chainP two v l
def sameB (w : List Int) : Bool := decide ((w.count 0 : Int) > 1) && (decide ((w.count 1 : Int) > 1) && (decide (1 < ((w.count 0 : Int) * (w.count 1 : Int) + leadF w 0 1) / 2) && decide (((w.count 0 : Int) * (w.count 1 : Int) + leadF w 0 1) / 2 < (w.count 0 : Int) * (w.count 1 : Int) - 1)))
def gridF (w : List Int) : List (List Bool) := (placesOf w 0).map fun p => (placesOf w 1).map fun q => decide (p < q)
def loneB (w : List Int) : Bool := decide ((w.count 0 : Int) = 1) || (decide ((w.count 1 : Int) = 1) || (decide ((aheadN w : Int) < 2) || decide ((aheadN w : Int) > (w.count 0 : Int) * (w.count 1 : Int) - 2)))

/-! ### the promises -/
def sp_is_int (K : PySem.W.Frag) : SpD := sp1 fun d M Q E => ∃ k, kdOf M d = some k ∧ Q (.bl (k == .int)) M
def sp_is_row (K : PySem.W.Frag) : SpD := sp1 fun d M Q E => ∃ k, kdOf M d = some k ∧ Q (.bl (k == .tuple || k == .list)) M
def sp_check_int (K : PySem.W.Frag) : SpD := sp3 fun v n l M Q E => ∃ i lo : Int, v = .int i ∧ l = .int lo ∧ lo ≤ i ∧ Q v M
def sp_letters_of (K : PySem.W.Frag) : SpD := sp2 fun d m M Q E => ∃ n : Int, m = .int n ∧ rowOr M d (E (xBW K (-1)) M) fun xs => match letE n xs with
  | some p => E (xBW K p) M
  | none => Q (.tup xs) M
def sp_check_word (K : PySem.W.Frag) : SpD := sp2 fun d m M Q E => ∃ n : Int, m = .int n ∧ 1 ≤ n ∧ wordC K M d n E fun ns => Q (.tup (iD ns)) M
def sp_plain_word (K : PySem.W.Frag) : SpD := sp1 fun d M Q E => plainC K M d E fun ns => Q (.tup (iD ns)) M
def sp_word_table (K : PySem.W.Frag) : SpD := sp2 fun d m M Q E => ∃ (n : Nat) (ns : List Int), m = .int (n : Nat) ∧ RowD M d (iD ns) ∧ GoodW n ns ∧ Q (.tup ((leadsT ns n).map fun r => .tup (iD r))) M
def sp_exchanged (K : PySem.W.Frag) : SpD := sp2 fun l a M Q E => ∃ (ns : List Int) (i : Nat), l = .tup (iD ns) ∧ a = .int (i : Nat) ∧ i + 1 < ns.length ∧ ns.length < 4000 ∧ Q (.tup (iD (exchI ns i))) M
def sp_alike_words (K : PySem.W.Frag) : SpD := sp2 fun a b M Q E => alikeC K M a b E fun one two => Q (.tup [.tup (iD one), .tup (iD two)]) M
def sp_places_of (K : PySem.W.Frag) : SpD := sp2 fun l d M Q E => ∃ (ns : List Int) (i : Int), RowD M l (iD ns) ∧ d = .int i ∧ ns.length < 4000 ∧ Q (.lst (iD (placesOf ns i))) M
def sp_sided_cells (K : PySem.W.Frag) : SpD := sp4 fun a b c d M Q E => ∃ (one two : List Int) (i j : Int), RowD M a (iD one) ∧ RowD M b (iD two) ∧ c = .int i ∧ d = .int j ∧ one.length < 4000 ∧ sortI one = sortI two ∧ Q (.lst ((cellsF one two i j).map cellD)) M
def sp_words_of_two (K : PySem.W.Frag) : SpD := sp2 fun a b M Q E => twoC K M a b E fun one two => Q (.tup [.tup (iD one), .tup (iD two)]) M
def sp_moves_between (K : PySem.W.Frag) : SpD := sp2 fun a b M Q E => ∃ one two : List Int, a = .tup (iD one) ∧ b = .tup (iD two) ∧ GoodW 2 one ∧ sortI one = sortI two ∧ Q (movesD one two) M
def sp_paired_moves (K : PySem.W.Frag) : SpD := sp2 fun a b M Q E => twoC K M a b E fun one two => Q (movesD one two) M
def sp_turned_towards (K : PySem.W.Frag) : SpD := sp3 fun l t c M Q E => ∃ (w two : List Int) (lo : Int), l = .tup (iD w) ∧ t = .tup (iD two) ∧ c = .int lo ∧ (lo = 0 ∨ lo = 1) ∧ GoodW 2 w ∧ sortI w = sortI two ∧ ∀ r, turnR two lo w r → Q (.tup (iD r)) M
def sp_paired_way (K : PySem.W.Frag) : SpD := sp2 fun a b M Q E => twoC K M a b E fun one two => if moreC one two = lessC one two then ∀ ws, chainP two one ws → ws.length = moreC one two → Q (.lst (tups (one :: ws))) M else Q .non M
def sp_same_lead (K : PySem.W.Frag) : SpD := sp1 fun a M Q E => wordC K M a 2 E fun w => Q (.bl (sameB w)) M
def sp__law_draws (K : PySem.W.Frag) : SpD := sp1 fun d M Q E => ∃ ns : List Int, d = .scr ns ∧ ∀ p xs, M p = none → Q (.ref p) (mset M p (.lst (iD xs)))
def sp__law_take (K : PySem.W.Frag) : SpD := sp2 fun d m M Q E => ∃ (p : Addr) (n : Int), d = .ref p ∧ m = .int n ∧ 0 < n ∧ Pool M p ∧ ∀ (r : Int) (xs : List Int), 0 ≤ r → r < n → Q (.int r) (mset M p (.lst (iD xs)))
def sp__law_int (K : PySem.W.Frag) : SpD := sp1 fun d M Q E => ∃ k, kdOf M d = some k ∧ Q (.bl (k == .int)) M
def sp__law_word (K : PySem.W.Frag) : SpD := sp3 fun d m t M Q E => ∃ (p : Addr) (n : Nat) (q : Int), d = .ref p ∧ m = .int (n : Nat) ∧ t = .int q ∧ 1 ≤ n ∧ n ≤ 64 ∧ 0 < q ∧ q ≤ 64 ∧ Pool M p ∧ ∀ (ns xs : List Int), GoodW n ns → (ns.length : Int) < n + q → Q (.lst (iD ns)) (mset M p (.lst (iD xs)))
def sp__law_mixed_word (K : PySem.W.Frag) : SpD := sp2 fun d l M Q E => ∃ (p : Addr) (ns : List Int), d = .ref p ∧ l = .lst (iD ns) ∧ ns.length < 4000 ∧ Pool M p ∧ ∀ (ms xs : List Int), ms.Perm ns → Q (.lst (iD ms)) (mset M p (.lst (iD xs)))
def sp__law_grid (K : PySem.W.Frag) : SpD := sp1 fun a M Q E => ∃ w : List Int, RowD M a (iD w) ∧ w.length < 4000 ∧ Q (.lst ((gridF w).map fun r => .lst (r.map D.bl))) M
def sp__law_sides (K : PySem.W.Frag) : SpD := sp2 fun a b M Q E => ∃ w v : List Int, RowD M a (iD w) ∧ RowD M b (iD v) ∧ w.length < 4000 ∧ sortI w = sortI v ∧ Q (.lst [.int (moreC w v : Nat), .int (lessC w v : Nat)]) M
def sp__law_lone (K : PySem.W.Frag) : SpD := sp1 fun a M Q E => ∃ w : List Int, RowD M a (iD w) ∧ GoodW 2 w ∧ Q (.bl (loneB w)) M
def sp__law_moved (K : PySem.W.Frag) : SpD := sp2 fun d l M Q E => ∃ (p : Addr) (ns : List Int), d = .ref p ∧ l = .lst (iD ns) ∧ ns.length < 4000 ∧ Pool M p ∧ ∀ (ms xs : List Int), ms.Perm ns → Q (.lst (iD ms)) (mset M p (.lst (iD xs)))
def sp__law_way_holds (K : PySem.W.Frag) : SpD := sp2 fun a b M Q E => ∃ w v : List Int, RowD M a (iD w) ∧ RowD M b (iD v) ∧ GoodW 2 w ∧ sortI w = sortI v ∧ Q (.bl true) M
def sp__law_same_holds (K : PySem.W.Frag) : SpD := sp1 fun a M Q E => ∃ w : List Int, RowD M a (iD w) ∧ GoodW 2 w ∧ Q (.bl true) M
def sp__law_edges_hold (K : PySem.W.Frag) : SpD := sp1 fun d M Q E => ∃ p, d = .ref p ∧ Pool M p ∧ ∀ xs : List Int, Q (.bl true) (mset M p (.lst (iD xs)))
def sp__law_long_holds (K : PySem.W.Frag) : SpD := sp1 fun d M Q E => ∃ p, d = .ref p ∧ Pool M p ∧ ∀ xs : List Int, Q (.bl true) (mset M p (.lst (iD xs)))
/-- what _law_told makes of an exception -/
def toldX (K : PySem.W.Frag) (Q : DVK) : DXK := fun x M => (∃ p, x = xBW K p ∧ Q (.lst [.str "word", .int p]) M) ∨ ∃ a b, x = xOS K a b ∧ Q (.lst [.str "size", .int a, .int b]) M
def sp__law_told (K : PySem.W.Frag) : SpD := sp3 fun n a b M Q E => ((n = .int 0 ∨ n = .int 1) ∧ twoC K M a b (toldX K Q) fun _ _ => False) ∨ (n = .int 2 ∧ wordC K M a 2 (toldX K Q) fun _ => False)
def sp__law_refuses (K : PySem.W.Frag) : SpD := sp2 fun d a M Q E => ∃ (p : Addr) (ns : List Int), d = .ref p ∧ GoodW 2 ns ∧ a = .lst (iD ns) ∧ ns.length < 2000 ∧ Pool M p ∧ ∀ xs : List Int, Q (.bl true) (mset M p (.lst (iD xs)))
def sp_law (K : PySem.W.Frag) : SpD := sp1 fun d M Q E => ∃ ns : List Int, d = .scr ns ∧ ∀ M', Q (.bl true) M'
end LW

set_option maxHeartbeats 0
namespace LW
open PySem PySem.Spec PyProof.Rows L2 DL
/-- what the head tells -/
structure Tx (K : PySem.W.Frag) (mg : Str → Option Value) : Prop where
  g_is_int : mg "is_int" = some (.ref (He.ga K "is_int"))
  F_is_int : ∃ fd, Fun K "is_int" "is_int" s_is_int (He.ga K "is_int") fd
  g_is_row : mg "is_row" = some (.ref (He.ga K "is_row"))
  F_is_row : ∃ fd, Fun K "is_row" "is_row" s_is_row (He.ga K "is_row") fd
  g_check_int : mg "check_int" = some (.ref (He.ga K "check_int"))
  F_check_int : ∃ fd, Fun K "check_int" "check_int" s_check_int (He.ga K "check_int") fd
  g_letters_of : mg "letters_of" = some (.ref (He.ga K "letters_of"))
  F_letters_of : ∃ fd, Fun K "letters_of" "letters_of" s_letters_of (He.ga K "letters_of") fd
  g_check_word : mg "check_word" = some (.ref (He.ga K "check_word"))
  F_check_word : ∃ fd, Fun K "check_word" "check_word" s_check_word (He.ga K "check_word") fd
  g_plain_word : mg "plain_word" = some (.ref (He.ga K "plain_word"))
  F_plain_word : ∃ fd, Fun K "plain_word" "plain_word" s_plain_word (He.ga K "plain_word") fd
  g_word_table : mg "word_table" = some (.ref (He.ga K "word_table"))
  F_word_table : ∃ fd, Fun K "word_table" "word_table" s_word_table (He.ga K "word_table") fd
  g_exchanged : mg "exchanged" = some (.ref (He.ga K "exchanged"))
  F_exchanged : ∃ fd, Fun K "exchanged" "exchanged" s_exchanged (He.ga K "exchanged") fd
  g_alike_words : mg "alike_words" = some (.ref (He.ga K "alike_words"))
  F_alike_words : ∃ fd, Fun K "alike_words" "alike_words" s_alike_words (He.ga K "alike_words") fd
  g_places_of : mg "places_of" = some (.ref (He.ga K "places_of"))
  F_places_of : ∃ fd, Fun K "places_of" "places_of" s_places_of (He.ga K "places_of") fd
  g_sided_cells : mg "sided_cells" = some (.ref (He.ga K "sided_cells"))
  F_sided_cells : ∃ fd, Fun K "sided_cells" "sided_cells" s_sided_cells (He.ga K "sided_cells") fd
  g_words_of_two : mg "words_of_two" = some (.ref (He.ga K "words_of_two"))
  F_words_of_two : ∃ fd, Fun K "words_of_two" "words_of_two" s_words_of_two (He.ga K "words_of_two") fd
  g_moves_between : mg "moves_between" = some (.ref (He.ga K "moves_between"))
  F_moves_between : ∃ fd, Fun K "moves_between" "moves_between" s_moves_between (He.ga K "moves_between") fd
  g_paired_moves : mg "paired_moves" = some (.ref (He.ga K "paired_moves"))
  F_paired_moves : ∃ fd, Fun K "paired_moves" "paired_moves" s_paired_moves (He.ga K "paired_moves") fd
  g_turned_towards : mg "turned_towards" = some (.ref (He.ga K "turned_towards"))
  F_turned_towards : ∃ fd, Fun K "turned_towards" "turned_towards" s_turned_towards (He.ga K "turned_towards") fd
  g_paired_way : mg "paired_way" = some (.ref (He.ga K "paired_way"))
  F_paired_way : ∃ fd, Fun K "paired_way" "paired_way" s_paired_way (He.ga K "paired_way") fd
  g_same_lead : mg "same_lead" = some (.ref (He.ga K "same_lead"))
  F_same_lead : ∃ fd, Fun K "same_lead" "same_lead" s_same_lead (He.ga K "same_lead") fd
  g__law_draws : mg "_law_draws" = some (.ref (He.ga K "_law_draws"))
  F__law_draws : ∃ fd, Fun K "_law_draws" "_law_draws" s__law_draws (He.ga K "_law_draws") fd
  g__law_take : mg "_law_take" = some (.ref (He.ga K "_law_take"))
  F__law_take : ∃ fd, Fun K "_law_take" "_law_take" s__law_take (He.ga K "_law_take") fd
  g__law_int : mg "_law_int" = some (.ref (He.ga K "_law_int"))
  F__law_int : ∃ fd, Fun K "_law_int" "_law_int" s__law_int (He.ga K "_law_int") fd
  g__law_word : mg "_law_word" = some (.ref (He.ga K "_law_word"))
  F__law_word : ∃ fd, Fun K "_law_word" "_law_word" s__law_word (He.ga K "_law_word") fd
  g__law_mixed_word : mg "_law_mixed_word" = some (.ref (He.ga K "_law_mixed_word"))
  F__law_mixed_word : ∃ fd, Fun K "_law_mixed_word" "_law_mixed_word" s__law_mixed_word (He.ga K "_law_mixed_word") fd
  g__law_grid : mg "_law_grid" = some (.ref (He.ga K "_law_grid"))
  F__law_grid : ∃ fd, Fun K "_law_grid" "_law_grid" s__law_grid (He.ga K "_law_grid") fd
  g__law_sides : mg "_law_sides" = some (.ref (He.ga K "_law_sides"))
  F__law_sides : ∃ fd, Fun K "_law_sides" "_law_sides" s__law_sides (He.ga K "_law_sides") fd
  g__law_lone : mg "_law_lone" = some (.ref (He.ga K "_law_lone"))
  F__law_lone : ∃ fd, Fun K "_law_lone" "_law_lone" s__law_lone (He.ga K "_law_lone") fd
  g__law_moved : mg "_law_moved" = some (.ref (He.ga K "_law_moved"))
  F__law_moved : ∃ fd, Fun K "_law_moved" "_law_moved" s__law_moved (He.ga K "_law_moved") fd
  g__law_way_holds : mg "_law_way_holds" = some (.ref (He.ga K "_law_way_holds"))
  F__law_way_holds : ∃ fd, Fun K "_law_way_holds" "_law_way_holds" s__law_way_holds (He.ga K "_law_way_holds") fd
  g__law_same_holds : mg "_law_same_holds" = some (.ref (He.ga K "_law_same_holds"))
  F__law_same_holds : ∃ fd, Fun K "_law_same_holds" "_law_same_holds" s__law_same_holds (He.ga K "_law_same_holds") fd
  g__law_edges_hold : mg "_law_edges_hold" = some (.ref (He.ga K "_law_edges_hold"))
  F__law_edges_hold : ∃ fd, Fun K "_law_edges_hold" "_law_edges_hold" s__law_edges_hold (He.ga K "_law_edges_hold") fd
  g__law_long_holds : mg "_law_long_holds" = some (.ref (He.ga K "_law_long_holds"))
  F__law_long_holds : ∃ fd, Fun K "_law_long_holds" "_law_long_holds" s__law_long_holds (He.ga K "_law_long_holds") fd
  g__law_told : mg "_law_told" = some (.ref (He.ga K "_law_told"))
  F__law_told : ∃ fd, Fun K "_law_told" "_law_told" s__law_told (He.ga K "_law_told") fd
  g__law_refuses : mg "_law_refuses" = some (.ref (He.ga K "_law_refuses"))
  F__law_refuses : ∃ fd, Fun K "_law_refuses" "_law_refuses" s__law_refuses (He.ga K "_law_refuses") fd
  g_law : mg "law" = some (.ref (He.ga K "law"))
  F_law : ∃ fd, Fun K "law" "law" s_law (He.ga K "law") fd
  g_DiceError : mg "DiceError" = some (.ref (He.ga K "DiceError"))
  e_DiceError : ExCls K (He.ga K "DiceError") []
  x_DiceError_DiceError : PySem.W.exmOne K (.ref (He.ga K "DiceError")) (.ref (He.ga K "DiceError")) = some true
  k_DiceError_DiceError : PySem.W.kitOne K (.ref (He.ga K "DiceError")) (.ref (He.ga K "DiceError")) = some true
  x_DiceError_BadNumber : PySem.W.exmOne K (.ref (He.ga K "DiceError")) (.ref (He.ga K "BadNumber")) = some false
  k_DiceError_BadNumber : PySem.W.kitOne K (.ref (He.ga K "DiceError")) (.ref (He.ga K "BadNumber")) = some false
  x_DiceError_BadWord : PySem.W.exmOne K (.ref (He.ga K "DiceError")) (.ref (He.ga K "BadWord")) = some false
  k_DiceError_BadWord : PySem.W.kitOne K (.ref (He.ga K "DiceError")) (.ref (He.ga K "BadWord")) = some false
  x_DiceError_OtherSize : PySem.W.exmOne K (.ref (He.ga K "DiceError")) (.ref (He.ga K "OtherSize")) = some false
  k_DiceError_OtherSize : PySem.W.kitOne K (.ref (He.ga K "DiceError")) (.ref (He.ga K "OtherSize")) = some false
  g_BadNumber : mg "BadNumber" = some (.ref (He.ga K "BadNumber"))
  F_BadNumber_init : ∃ fd, Fun K "__init__" "BadNumber.__init__" s_BadNumber_init (He.ma K (He.ga K "BadNumber") "__init__") fd
  i_BadNumber : PySem.W.findIn K (.ref (He.ga K "BadNumber")) "__init__" = some (some (.ref (He.ma K (He.ga K "BadNumber") "__init__"))) ∧ PySem.W.typeIn K (.ref (He.ma K (He.ga K "BadNumber") "__init__")) = some (.type "function")
  e_BadNumber : ExCls K (He.ga K "BadNumber") ["name"]
  x_BadNumber_DiceError : PySem.W.exmOne K (.ref (He.ga K "BadNumber")) (.ref (He.ga K "DiceError")) = some true
  k_BadNumber_DiceError : PySem.W.kitOne K (.ref (He.ga K "BadNumber")) (.ref (He.ga K "DiceError")) = some true
  x_BadNumber_BadNumber : PySem.W.exmOne K (.ref (He.ga K "BadNumber")) (.ref (He.ga K "BadNumber")) = some true
  k_BadNumber_BadNumber : PySem.W.kitOne K (.ref (He.ga K "BadNumber")) (.ref (He.ga K "BadNumber")) = some true
  x_BadNumber_BadWord : PySem.W.exmOne K (.ref (He.ga K "BadNumber")) (.ref (He.ga K "BadWord")) = some false
  k_BadNumber_BadWord : PySem.W.kitOne K (.ref (He.ga K "BadNumber")) (.ref (He.ga K "BadWord")) = some false
  x_BadNumber_OtherSize : PySem.W.exmOne K (.ref (He.ga K "BadNumber")) (.ref (He.ga K "OtherSize")) = some false
  k_BadNumber_OtherSize : PySem.W.kitOne K (.ref (He.ga K "BadNumber")) (.ref (He.ga K "OtherSize")) = some false
  g_BadWord : mg "BadWord" = some (.ref (He.ga K "BadWord"))
  F_BadWord_init : ∃ fd, Fun K "__init__" "BadWord.__init__" s_BadWord_init (He.ma K (He.ga K "BadWord") "__init__") fd
  i_BadWord : PySem.W.findIn K (.ref (He.ga K "BadWord")) "__init__" = some (some (.ref (He.ma K (He.ga K "BadWord") "__init__"))) ∧ PySem.W.typeIn K (.ref (He.ma K (He.ga K "BadWord") "__init__")) = some (.type "function")
  e_BadWord : ExCls K (He.ga K "BadWord") ["place"]
  x_BadWord_DiceError : PySem.W.exmOne K (.ref (He.ga K "BadWord")) (.ref (He.ga K "DiceError")) = some true
  k_BadWord_DiceError : PySem.W.kitOne K (.ref (He.ga K "BadWord")) (.ref (He.ga K "DiceError")) = some true
  x_BadWord_BadNumber : PySem.W.exmOne K (.ref (He.ga K "BadWord")) (.ref (He.ga K "BadNumber")) = some false
  k_BadWord_BadNumber : PySem.W.kitOne K (.ref (He.ga K "BadWord")) (.ref (He.ga K "BadNumber")) = some false
  x_BadWord_BadWord : PySem.W.exmOne K (.ref (He.ga K "BadWord")) (.ref (He.ga K "BadWord")) = some true
  k_BadWord_BadWord : PySem.W.kitOne K (.ref (He.ga K "BadWord")) (.ref (He.ga K "BadWord")) = some true
  x_BadWord_OtherSize : PySem.W.exmOne K (.ref (He.ga K "BadWord")) (.ref (He.ga K "OtherSize")) = some false
  k_BadWord_OtherSize : PySem.W.kitOne K (.ref (He.ga K "BadWord")) (.ref (He.ga K "OtherSize")) = some false
  g_OtherSize : mg "OtherSize" = some (.ref (He.ga K "OtherSize"))
  F_OtherSize_init : ∃ fd, Fun K "__init__" "OtherSize.__init__" s_OtherSize_init (He.ma K (He.ga K "OtherSize") "__init__") fd
  i_OtherSize : PySem.W.findIn K (.ref (He.ga K "OtherSize")) "__init__" = some (some (.ref (He.ma K (He.ga K "OtherSize") "__init__"))) ∧ PySem.W.typeIn K (.ref (He.ma K (He.ga K "OtherSize") "__init__")) = some (.type "function")
  e_OtherSize : ExCls K (He.ga K "OtherSize") ["first", "second"]
  x_OtherSize_DiceError : PySem.W.exmOne K (.ref (He.ga K "OtherSize")) (.ref (He.ga K "DiceError")) = some true
  k_OtherSize_DiceError : PySem.W.kitOne K (.ref (He.ga K "OtherSize")) (.ref (He.ga K "DiceError")) = some true
  x_OtherSize_BadNumber : PySem.W.exmOne K (.ref (He.ga K "OtherSize")) (.ref (He.ga K "BadNumber")) = some false
  k_OtherSize_BadNumber : PySem.W.kitOne K (.ref (He.ga K "OtherSize")) (.ref (He.ga K "BadNumber")) = some false
  x_OtherSize_BadWord : PySem.W.exmOne K (.ref (He.ga K "OtherSize")) (.ref (He.ga K "BadWord")) = some false
  k_OtherSize_BadWord : PySem.W.kitOne K (.ref (He.ga K "OtherSize")) (.ref (He.ga K "BadWord")) = some false
  x_OtherSize_OtherSize : PySem.W.exmOne K (.ref (He.ga K "OtherSize")) (.ref (He.ga K "OtherSize")) = some true
  k_OtherSize_OtherSize : PySem.W.kitOne K (.ref (He.ga K "OtherSize")) (.ref (He.ga K "OtherSize")) = some true
  n_ValueError : mg "ValueError" = none
  n_bool : mg "bool" = none
  n_enumerate : mg "enumerate" = none
  n_int : mg "int" = none
  n_isinstance : mg "isinstance" = none
  n_len : mg "len" = none
  n_list : mg "list" = none
  n_max : mg "max" = none
  n_min : mg "min" = none
  n_range : mg "range" = none
  n_set : mg "set" = none
  n_sorted : mg "sorted" = none
  n_sum : mg "sum" = none
  n_tuple : mg "tuple" = none
theorem tx_of {w : World} {h : Heap} {K : PySem.W.Frag} {mg : Str → Option Value} (X : K.In h) (G : h.Ns mainGlobals mg) (c : He.SaysX fa fn [] [] ex w h K) : Tx K mg := by
  have hex := c.more
  have D := c.t.d
  unfold ex ex0 ex1 at hex
  simp only [Bool.and_eq_true] at hex
  obtain ⟨⟨h0, h1, h2, h3, h4, h5, h6, h7, h8, h9, h10, h11, h12, h13, h14, h15, h16, h17, h18, h19, h20, h21, h22, h23⟩, ⟨h24, h25, h26, h27, h28, h29, h30, h31, h32, h33, h34, h35⟩⟩ := hex
  exact {
    g_is_int := He.glo_ok X G (D.fact 0 rfl),
    F_is_int := by obtain ⟨fd, F⟩ := D.def_ 0 (d := d_is_int) rfl; exact ⟨fd, He5.fun_of F⟩,
    g_is_row := He.glo_ok X G (D.fact 1 rfl),
    F_is_row := by obtain ⟨fd, F⟩ := D.def_ 1 (d := d_is_row) rfl; exact ⟨fd, He5.fun_of F⟩,
    g_check_int := He.glo_ok X G (D.fact 2 rfl),
    F_check_int := by obtain ⟨fd, F⟩ := D.def_ 2 (d := d_check_int) rfl; exact ⟨fd, He5.fun_of F⟩,
    g_letters_of := He.glo_ok X G (D.fact 3 rfl),
    F_letters_of := by obtain ⟨fd, F⟩ := D.def_ 3 (d := d_letters_of) rfl; exact ⟨fd, He5.fun_of F⟩,
    g_check_word := He.glo_ok X G (D.fact 4 rfl),
    F_check_word := by obtain ⟨fd, F⟩ := D.def_ 4 (d := d_check_word) rfl; exact ⟨fd, He5.fun_of F⟩,
    g_plain_word := He.glo_ok X G (D.fact 5 rfl),
    F_plain_word := by obtain ⟨fd, F⟩ := D.def_ 5 (d := d_plain_word) rfl; exact ⟨fd, He5.fun_of F⟩,
    g_word_table := He.glo_ok X G (D.fact 6 rfl),
    F_word_table := by obtain ⟨fd, F⟩ := D.def_ 6 (d := d_word_table) rfl; exact ⟨fd, He5.fun_of F⟩,
    g_exchanged := He.glo_ok X G (D.fact 7 rfl),
    F_exchanged := by obtain ⟨fd, F⟩ := D.def_ 7 (d := d_exchanged) rfl; exact ⟨fd, He5.fun_of F⟩,
    g_alike_words := He.glo_ok X G (D.fact 8 rfl),
    F_alike_words := by obtain ⟨fd, F⟩ := D.def_ 8 (d := d_alike_words) rfl; exact ⟨fd, He5.fun_of F⟩,
    g_places_of := He.glo_ok X G (D.fact 9 rfl),
    F_places_of := by obtain ⟨fd, F⟩ := D.def_ 9 (d := d_places_of) rfl; exact ⟨fd, He5.fun_of F⟩,
    g_sided_cells := He.glo_ok X G (D.fact 10 rfl),
    F_sided_cells := by obtain ⟨fd, F⟩ := D.def_ 10 (d := d_sided_cells) rfl; exact ⟨fd, He5.fun_of F⟩,
    g_words_of_two := He.glo_ok X G (D.fact 11 rfl),
    F_words_of_two := by obtain ⟨fd, F⟩ := D.def_ 11 (d := d_words_of_two) rfl; exact ⟨fd, He5.fun_of F⟩,
    g_moves_between := He.glo_ok X G (D.fact 12 rfl),
    F_moves_between := by obtain ⟨fd, F⟩ := D.def_ 12 (d := d_moves_between) rfl; exact ⟨fd, He5.fun_of F⟩,
    g_paired_moves := He.glo_ok X G (D.fact 13 rfl),
    F_paired_moves := by obtain ⟨fd, F⟩ := D.def_ 13 (d := d_paired_moves) rfl; exact ⟨fd, He5.fun_of F⟩,
    g_turned_towards := He.glo_ok X G (D.fact 14 rfl),
    F_turned_towards := by obtain ⟨fd, F⟩ := D.def_ 14 (d := d_turned_towards) rfl; exact ⟨fd, He5.fun_of F⟩,
    g_paired_way := He.glo_ok X G (D.fact 15 rfl),
    F_paired_way := by obtain ⟨fd, F⟩ := D.def_ 15 (d := d_paired_way) rfl; exact ⟨fd, He5.fun_of F⟩,
    g_same_lead := He.glo_ok X G (D.fact 16 rfl),
    F_same_lead := by obtain ⟨fd, F⟩ := D.def_ 16 (d := d_same_lead) rfl; exact ⟨fd, He5.fun_of F⟩,
    g__law_draws := He.glo_ok X G (D.fact 17 rfl),
    F__law_draws := by obtain ⟨fd, F⟩ := D.def_ 17 (d := d__law_draws) rfl; exact ⟨fd, He5.fun_of F⟩,
    g__law_take := He.glo_ok X G (D.fact 18 rfl),
    F__law_take := by obtain ⟨fd, F⟩ := D.def_ 18 (d := d__law_take) rfl; exact ⟨fd, He5.fun_of F⟩,
    g__law_int := He.glo_ok X G (D.fact 19 rfl),
    F__law_int := by obtain ⟨fd, F⟩ := D.def_ 19 (d := d__law_int) rfl; exact ⟨fd, He5.fun_of F⟩,
    g__law_word := He.glo_ok X G (D.fact 20 rfl),
    F__law_word := by obtain ⟨fd, F⟩ := D.def_ 20 (d := d__law_word) rfl; exact ⟨fd, He5.fun_of F⟩,
    g__law_mixed_word := He.glo_ok X G (D.fact 21 rfl),
    F__law_mixed_word := by obtain ⟨fd, F⟩ := D.def_ 21 (d := d__law_mixed_word) rfl; exact ⟨fd, He5.fun_of F⟩,
    g__law_grid := He.glo_ok X G (D.fact 22 rfl),
    F__law_grid := by obtain ⟨fd, F⟩ := D.def_ 22 (d := d__law_grid) rfl; exact ⟨fd, He5.fun_of F⟩,
    g__law_sides := He.glo_ok X G (D.fact 23 rfl),
    F__law_sides := by obtain ⟨fd, F⟩ := D.def_ 23 (d := d__law_sides) rfl; exact ⟨fd, He5.fun_of F⟩,
    g__law_lone := He.glo_ok X G (D.fact 24 rfl),
    F__law_lone := by obtain ⟨fd, F⟩ := D.def_ 24 (d := d__law_lone) rfl; exact ⟨fd, He5.fun_of F⟩,
    g__law_moved := He.glo_ok X G (D.fact 25 rfl),
    F__law_moved := by obtain ⟨fd, F⟩ := D.def_ 25 (d := d__law_moved) rfl; exact ⟨fd, He5.fun_of F⟩,
    g__law_way_holds := He.glo_ok X G (D.fact 26 rfl),
    F__law_way_holds := by obtain ⟨fd, F⟩ := D.def_ 26 (d := d__law_way_holds) rfl; exact ⟨fd, He5.fun_of F⟩,
    g__law_same_holds := He.glo_ok X G (D.fact 27 rfl),
    F__law_same_holds := by obtain ⟨fd, F⟩ := D.def_ 27 (d := d__law_same_holds) rfl; exact ⟨fd, He5.fun_of F⟩,
    g__law_edges_hold := He.glo_ok X G (D.fact 28 rfl),
    F__law_edges_hold := by obtain ⟨fd, F⟩ := D.def_ 28 (d := d__law_edges_hold) rfl; exact ⟨fd, He5.fun_of F⟩,
    g__law_long_holds := He.glo_ok X G (D.fact 29 rfl),
    F__law_long_holds := by obtain ⟨fd, F⟩ := D.def_ 29 (d := d__law_long_holds) rfl; exact ⟨fd, He5.fun_of F⟩,
    g__law_told := He.glo_ok X G (D.fact 30 rfl),
    F__law_told := by obtain ⟨fd, F⟩ := D.def_ 30 (d := d__law_told) rfl; exact ⟨fd, He5.fun_of F⟩,
    g__law_refuses := He.glo_ok X G (D.fact 31 rfl),
    F__law_refuses := by obtain ⟨fd, F⟩ := D.def_ 31 (d := d__law_refuses) rfl; exact ⟨fd, He5.fun_of F⟩,
    g_law := He.glo_ok X G (D.fact 32 rfl),
    F_law := by obtain ⟨fd, F⟩ := D.def_ 32 (d := d_law) rfl; exact ⟨fd, He5.fun_of F⟩,
    g_DiceError := He.glo_ok X G (D.fact 33 rfl),
    e_DiceError := (exB_ok h0).1,
    x_DiceError_DiceError := exmB_ok h4,
    k_DiceError_DiceError := isiB_ok h8,
    x_DiceError_BadNumber := exmB_ok h5,
    k_DiceError_BadNumber := isiB_ok h9,
    x_DiceError_BadWord := exmB_ok h6,
    k_DiceError_BadWord := isiB_ok h10,
    x_DiceError_OtherSize := exmB_ok h7,
    k_DiceError_OtherSize := isiB_ok h11,
    g_BadNumber := He.glo_ok X G (D.fact 34 rfl),
    F_BadNumber_init := by obtain ⟨fd, F⟩ := D.def_ 33 (d := d_BadNumber_init) rfl; exact ⟨fd, He5.fun_of F⟩,
    i_BadNumber := (exB_ok h1).2 rfl,
    e_BadNumber := (exB_ok h1).1,
    x_BadNumber_DiceError := exmB_ok h12,
    k_BadNumber_DiceError := isiB_ok h16,
    x_BadNumber_BadNumber := exmB_ok h13,
    k_BadNumber_BadNumber := isiB_ok h17,
    x_BadNumber_BadWord := exmB_ok h14,
    k_BadNumber_BadWord := isiB_ok h18,
    x_BadNumber_OtherSize := exmB_ok h15,
    k_BadNumber_OtherSize := isiB_ok h19,
    g_BadWord := He.glo_ok X G (D.fact 35 rfl),
    F_BadWord_init := by obtain ⟨fd, F⟩ := D.def_ 34 (d := d_BadWord_init) rfl; exact ⟨fd, He5.fun_of F⟩,
    i_BadWord := (exB_ok h2).2 rfl,
    e_BadWord := (exB_ok h2).1,
    x_BadWord_DiceError := exmB_ok h20,
    k_BadWord_DiceError := isiB_ok h24,
    x_BadWord_BadNumber := exmB_ok h21,
    k_BadWord_BadNumber := isiB_ok h25,
    x_BadWord_BadWord := exmB_ok h22,
    k_BadWord_BadWord := isiB_ok h26,
    x_BadWord_OtherSize := exmB_ok h23,
    k_BadWord_OtherSize := isiB_ok h27,
    g_OtherSize := He.glo_ok X G (D.fact 36 rfl),
    F_OtherSize_init := by obtain ⟨fd, F⟩ := D.def_ 35 (d := d_OtherSize_init) rfl; exact ⟨fd, He5.fun_of F⟩,
    i_OtherSize := (exB_ok h3).2 rfl,
    e_OtherSize := (exB_ok h3).1,
    x_OtherSize_DiceError := exmB_ok h28,
    k_OtherSize_DiceError := isiB_ok h32,
    x_OtherSize_BadNumber := exmB_ok h29,
    k_OtherSize_BadNumber := isiB_ok h33,
    x_OtherSize_BadWord := exmB_ok h30,
    k_OtherSize_BadWord := isiB_ok h34,
    x_OtherSize_OtherSize := exmB_ok h31,
    k_OtherSize_OtherSize := isiB_ok h35,
    n_ValueError := He.free_ok X G (D.fact 37 rfl),
    n_bool := He.free_ok X G (D.fact 38 rfl),
    n_enumerate := He.free_ok X G (D.fact 39 rfl),
    n_int := He.free_ok X G (D.fact 40 rfl),
    n_isinstance := He.free_ok X G (D.fact 41 rfl),
    n_len := He.free_ok X G (D.fact 42 rfl),
    n_list := He.free_ok X G (D.fact 43 rfl),
    n_max := He.free_ok X G (D.fact 44 rfl),
    n_min := He.free_ok X G (D.fact 45 rfl),
    n_range := He.free_ok X G (D.fact 46 rfl),
    n_set := He.free_ok X G (D.fact 47 rfl),
    n_sorted := He.free_ok X G (D.fact 48 rfl),
    n_sum := He.free_ok X G (D.fact 49 rfl),
    n_tuple := He.free_ok X G (D.fact 50 rfl) }
section
variable {P : Program} {w : World} {K : PySem.W.Frag} {mg : Str → Option Value} {base : Heap}
theorem C_BadNumber (T : Tx K mg) : OkX P w K mg base "BadNumber" ["name"] ["self", "name"] := by
  obtain ⟨fd, F⟩ := T.F_BadNumber_init
  refine ⟨fd, T.e_BadNumber, by decide, T.i_BadNumber.1, T.i_BadNumber.2, init1 (N := ["self", "name"]) F T.e_BadNumber ⟨rfl, rfl, rfl, by decide +kernel, rfl, by decide +kernel, by decide +kernel⟩ rfl rfl rfl rfl rfl (by decide) (by decide) (by decide) (by decide), F.binds fun _ _ _ _ _ _ us hl => match us, hl with | [_, _], _ => rfl, T.g_BadNumber⟩
theorem C_BadWord (T : Tx K mg) : OkX P w K mg base "BadWord" ["place"] ["self", "place"] := by
  obtain ⟨fd, F⟩ := T.F_BadWord_init
  refine ⟨fd, T.e_BadWord, by decide, T.i_BadWord.1, T.i_BadWord.2, init1 (N := ["self", "place"]) F T.e_BadWord ⟨rfl, rfl, rfl, by decide +kernel, rfl, by decide +kernel, by decide +kernel⟩ rfl rfl rfl rfl rfl (by decide) (by decide) (by decide) (by decide), F.binds fun _ _ _ _ _ _ us hl => match us, hl with | [_, _], _ => rfl, T.g_BadWord⟩
theorem C_OtherSize (T : Tx K mg) : OkX P w K mg base "OtherSize" ["first", "second"] ["self", "first", "second"] := by
  obtain ⟨fd, F⟩ := T.F_OtherSize_init
  refine ⟨fd, T.e_OtherSize, by decide, T.i_OtherSize.1, T.i_OtherSize.2, init2 (N := ["self", "first", "second"]) F T.e_OtherSize ⟨rfl, rfl, rfl, by decide +kernel, rfl, by decide +kernel, by decide +kernel⟩ rfl rfl rfl rfl rfl rfl (by decide) (by decide) (by decide) (by decide) (by decide) (by decide), F.binds fun _ _ _ _ _ _ us hl => match us, hl with | [_, _, _], _ => rfl, T.g_OtherSize⟩
/-! is_int -/
def g_is_int (K : PySem.W.Frag) : DS :=
  (sRet (gAndV (gCB dIsi (aCons (gVar 0) (aCons (gC (.ty "int")) aNil))) (gNotV (gCB dIsi (aCons (gVar 0) (aCons (gC (.ty "bool")) aNil))))))
theorem sc_is_int : FnScope ["value"] ["value"] (defScope s_is_int) := ⟨rfl, rfl, rfl, by decide +kernel, rfl, by decide +kernel, by decide +kernel⟩
theorem w_is_int (T : Tx K mg)  (len : ∀ ds M Q E, sp_is_int K ds M Q E → ds.length = 1)
    (hb : ∀ d0 M Q E, sp_is_int K [d0] M Q E → g_is_int K { nx := fun _ M => Q .non M, rt := Q, ex := fun x _ M => E x M } [some d0] M) : OkD P w K mg base 1 "is_int" ["value"] (sp_is_int K) := by
  obtain ⟨fd, F⟩ := T.F_is_int
  refine ⟨fd, dl_def F sc_is_int (by intro ds M Q E h; exact len ds M Q E h) (g_is_int K) (by decide) (fun cdv A outer s H E hr => ?_) (fun ds M Q E h => ?_), F.binds fun _ _ _ _ _ _ us hl => match us, hl with | [_], _ => rfl, F.kp, T.g_is_int, fun_lk F⟩
  · exact
   (fss_one (fs_ret (fe_and (fe_cb (cd_isi rfl) T.n_isinstance bt_isinstance (fa_cons (fv 0) (fa_cons (fe_ty rfl T.n_int bt_int) fa_nil))) (fe_one (fe_not (fe_cb (cd_isi rfl) T.n_isinstance bt_isinstance (fa_cons (fv 0) (fa_cons (fe_ty rfl T.n_bool bt_bool) fa_nil))))))))
  · match ds, len _ _ _ _ h with
    | [d0], _ => exact hb d0 M Q E h
/-! is_row -/
def g_is_row (K : PySem.W.Frag) : DS :=
  (sRet (gCB dIsi (aCons (gVar 0) (aCons (gTup (aCons (gC (.ty "list")) (aCons (gC (.ty "tuple")) aNil))) aNil))))
theorem sc_is_row : FnScope ["value"] ["value"] (defScope s_is_row) := ⟨rfl, rfl, rfl, by decide +kernel, rfl, by decide +kernel, by decide +kernel⟩
theorem w_is_row (T : Tx K mg)  (len : ∀ ds M Q E, sp_is_row K ds M Q E → ds.length = 1)
    (hb : ∀ d0 M Q E, sp_is_row K [d0] M Q E → g_is_row K { nx := fun _ M => Q .non M, rt := Q, ex := fun x _ M => E x M } [some d0] M) : OkD P w K mg base 1 "is_row" ["value"] (sp_is_row K) := by
  obtain ⟨fd, F⟩ := T.F_is_row
  refine ⟨fd, dl_def F sc_is_row (by intro ds M Q E h; exact len ds M Q E h) (g_is_row K) (by decide) (fun cdv A outer s H E hr => ?_) (fun ds M Q E h => ?_), F.binds fun _ _ _ _ _ _ us hl => match us, hl with | [_], _ => rfl, F.kp, T.g_is_row, fun_lk F⟩
  · exact
   (fss_one (fs_ret (fe_cb (cd_isi rfl) T.n_isinstance bt_isinstance (fa_cons (fv 0) (fa_cons (fe_tup (fa_cons (fe_ty rfl T.n_list bt_list) (fa_cons (fe_ty rfl T.n_tuple bt_tuple) fa_nil))) fa_nil)))))
  · match ds, len _ _ _ _ h with
    | [d0], _ => exact hb d0 M Q E h
/-! check_int -/
def g_check_int (K : PySem.W.Frag) : DS :=
  (sSeq (sIf (gOr (gNot (gTest (gCall (sp_is_int K) (aCons (gVar 0) aNil)))) (gTest (gOp dLt (gVar 0) (gVar 2)))) (sRaise (He.ga K "BadNumber") ["name"] (aCons (gVar 1) aNil)) sNext)
    (sRet (gVar 0)))
theorem sc_check_int : FnScope ["value", "name", "low"] ["value", "name", "low"] (defScope s_check_int) := ⟨rfl, rfl, rfl, by decide +kernel, rfl, by decide +kernel, by decide +kernel⟩
theorem w_check_int (T : Tx K mg) (C_is_int : OkD P w K mg base 1 "is_int" ["value"] (sp_is_int K)) (len : ∀ ds M Q E, sp_check_int K ds M Q E → ds.length = 3)
    (hb : ∀ d0 d1 d2 M Q E, sp_check_int K [d0, d1, d2] M Q E → g_check_int K { nx := fun _ M => Q .non M, rt := Q, ex := fun x _ M => E x M } [some d0, some d1, some d2] M) : OkD P w K mg base 3 "check_int" ["value", "name", "low"] (sp_check_int K) := by
  obtain ⟨fd, F⟩ := T.F_check_int
  have C_BadNumber := C_BadNumber (P := P) (w := w) (base := base) T
  refine ⟨fd, dl_def F sc_check_int (by intro ds M Q E h; exact len ds M Q E h) (g_check_int K) (by decide) (fun cdv A outer s H E hr => ?_) (fun ds M Q E h => ?_), F.binds fun _ _ _ _ _ _ us hl => match us, hl with | [_, _, _], _ => rfl, F.kp, T.g_check_int, fun_lk F⟩
  · exact
   (fss_cons (fs_if (FW.ft (fw_or (ft_not (ft_val (fe_callO C_is_int (hr.mono (by decide)) (takes_of rfl rfl rfl rfl) (fa_cons (fv 0) fa_nil)))) (fw_or1 (ft_cmp (od_lt) (fv 0) (fv 2) (nomark _))))) (fss_one (fs_raiseO C_BadNumber (hr.mono (by decide)) (takes_of rfl rfl rfl rfl) (fa_cons (fv 1) fa_nil))) fss_nil)
    (fss_one (fs_ret (fv 0))))
  · match ds, len _ _ _ _ h with
    | [d0, d1, d2], _ => exact hb d0 d1 d2 M Q E h
/-! letters_of -/
def g_letters_of (K : PySem.W.Frag) : DS :=
  (sSeq (sIf (gNot (gTest (gCall (sp_is_row K) (aCons (gVar 0) aNil)))) (sRaise (He.ga K "BadWord") ["place"] (aCons (gUn dNeg (gC (.int 1))) aNil)) sNext)
    (sSeq (sFor (iEnumD (aCons (gVar 0) aNil)) (dTup 2 (dCons (dName 2) (dCons (dName 3) dNil))) (sIf (gOr (gNot (gTest (gCall (sp_is_int K) (aCons (gVar 3) aNil)))) (gOr (gTest (gOp dLt (gVar 3) (gC (.int 0)))) (gTest (gOp dGe (gVar 3) (gVar 1))))) (sRaise (He.ga K "BadWord") ["place"] (aCons (gVar 2) aNil)) sNext))
    (sSeq (sIf (gTest (gOp dLt (gLenSet (gVar 0)) (gVar 1))) (sRaise (He.ga K "BadWord") ["place"] (aCons (gUn dNeg (gC (.int 2))) aNil)) sNext)
    (sRet (gCB dTupleOf (aCons (gVar 0) aNil))))))
theorem sc_letters_of : FnScope ["word", "many", "place", "letter"] ["word", "many"] (defScope s_letters_of) := ⟨rfl, rfl, rfl, by decide +kernel, rfl, by decide +kernel, by decide +kernel⟩
theorem w_letters_of (T : Tx K mg) (C_is_row : OkD P w K mg base 1 "is_row" ["value"] (sp_is_row K)) (C_is_int : OkD P w K mg base 1 "is_int" ["value"] (sp_is_int K)) (len : ∀ ds M Q E, sp_letters_of K ds M Q E → ds.length = 2)
    (hb : ∀ d0 d1 M Q E, sp_letters_of K [d0, d1] M Q E → g_letters_of K { nx := fun _ M => Q .non M, rt := Q, ex := fun x _ M => E x M } [some d0, some d1, none, none] M) : OkD P w K mg base 3 "letters_of" ["word", "many"] (sp_letters_of K) := by
  obtain ⟨fd, F⟩ := T.F_letters_of
  have C_BadWord := C_BadWord (P := P) (w := w) (base := base) T
  refine ⟨fd, dl_def F sc_letters_of (by intro ds M Q E h; exact len ds M Q E h) (g_letters_of K) (by decide) (fun cdv A outer s H E hr => ?_) (fun ds M Q E h => ?_), F.binds fun _ _ _ _ _ _ us hl => match us, hl with | [_, _], _ => rfl, F.kp, T.g_letters_of, fun_lk F⟩
  · exact
   (fss_cons (fs_if (ft_not (ft_val (fe_callO C_is_row (hr.mono (by decide)) (takes_of rfl rfl rfl rfl) (fa_cons (fv 0) fa_nil)))) (fss_one (fs_raiseO C_BadWord (hr.mono (by decide)) (takes_of rfl rfl rfl rfl) (fa_cons (fe_un ud_neg fe_int) fa_nil))) fss_nil)
    (fss_cons (fs_for (passes_of rfl) rfl (fi_enum rfl T.n_enumerate (fa_cons (fv 0) fa_nil)) (fg_tup rfl rfl (fgs_cons (fg_name (vs := [2, 3]) 2 sc_letters_of.nd) (fgs_cons (fg_name (vs := [2, 3]) 3 sc_letters_of.nd) (fgs_nil (vs := [2, 3]))))) (fss_one (fs_if (FW.ft (fw_or (ft_not (ft_val (fe_callO C_is_int (hr.mono (by decide)) (takes_of rfl rfl rfl rfl) (fa_cons (fv 3) fa_nil)))) (fw_or (ft_cmp (od_lt) (fv 3) fe_int (nomark _)) (fw_or1 (ft_cmp (od_ge) (fv 3) (fv 1) (nomark _)))))) (fss_one (fs_raiseO C_BadWord (hr.mono (by decide)) (takes_of rfl rfl rfl rfl) (fa_cons (fv 2) fa_nil))) fss_nil)))
    (fss_cons (fs_if (ft_cmp (od_lt) (fe_lenSet rfl T.n_len T.n_set (fv 0)) (fv 1) (nomark _)) (fss_one (fs_raiseO C_BadWord (hr.mono (by decide)) (takes_of rfl rfl rfl rfl) (fa_cons (fe_un ud_neg fe_int) fa_nil))) fss_nil)
    (fss_one (fs_ret (fe_ct (cd_tuple rfl) T.n_tuple bt_tuple (fa_cons (fv 0) fa_nil)))))))
  · match ds, len _ _ _ _ h with
    | [d0, d1], _ => exact hb d0 d1 M Q E h
/-! check_word -/
def g_check_word (K : PySem.W.Frag) : DS :=
  (sSeq (sDrop (gCall (sp_check_int K) (aCons (gVar 1) (aCons (gC (.str "many")) (aCons (gC (.int 1)) aNil)))))
    (sRet (gCall (sp_letters_of K) (aCons (gVar 0) (aCons (gVar 1) aNil)))))
theorem sc_check_word : FnScope ["word", "many"] ["word", "many"] (defScope s_check_word) := ⟨rfl, rfl, rfl, by decide +kernel, rfl, by decide +kernel, by decide +kernel⟩
theorem w_check_word (T : Tx K mg) (C_check_int : OkD P w K mg base 3 "check_int" ["value", "name", "low"] (sp_check_int K)) (C_letters_of : OkD P w K mg base 3 "letters_of" ["word", "many"] (sp_letters_of K)) (len : ∀ ds M Q E, sp_check_word K ds M Q E → ds.length = 2)
    (hb : ∀ d0 d1 M Q E, sp_check_word K [d0, d1] M Q E → g_check_word K { nx := fun _ M => Q .non M, rt := Q, ex := fun x _ M => E x M } [some d0, some d1] M) : OkD P w K mg base 4 "check_word" ["word", "many"] (sp_check_word K) := by
  obtain ⟨fd, F⟩ := T.F_check_word
  refine ⟨fd, dl_def F sc_check_word (by intro ds M Q E h; exact len ds M Q E h) (g_check_word K) (by decide) (fun cdv A outer s H E hr => ?_) (fun ds M Q E h => ?_), F.binds fun _ _ _ _ _ _ us hl => match us, hl with | [_, _], _ => rfl, F.kp, T.g_check_word, fun_lk F⟩
  · exact
   (fss_cons (fs_expr (fe_callO C_check_int (hr.mono (by decide)) (takes_of rfl rfl rfl rfl) (fa_cons (fv 1) (fa_cons fe_str (fa_cons fe_int fa_nil)))))
    (fss_one (fs_ret (fe_callO C_letters_of (hr.mono (by decide)) (takes_of rfl rfl rfl rfl) (fa_cons (fv 0) (fa_cons (fv 1) fa_nil))))))
  · match ds, len _ _ _ _ h with
    | [d0, d1], _ => exact hb d0 d1 M Q E h
/-! plain_word -/
def g_plain_word (K : PySem.W.Frag) : DS :=
  (sSeq (sIf (gNot (gTest (gCall (sp_is_row K) (aCons (gVar 0) aNil)))) (sRaise (He.ga K "BadWord") ["place"] (aCons (gUn dNeg (gC (.int 1))) aNil)) sNext)
    (sRet (gCall (sp_letters_of K) (aCons (gVar 0) (aCons (gOp dAdd (gC (.int 1)) (gCB dMax (aCons (gOp dAdd (gFrz (nLst (aCons (gC (.int 0)) aNil))) (gFrz (nLc (iSeqD (gVar 0)) (dName 1) (gTest (gCall (sp_is_int K) (aCons (gVar 1) aNil))) (gVar 1) [1]))) aNil))) aNil)))))
theorem sc_plain_word : FnScope ["word", "letter"] ["word"] (defScope s_plain_word) := ⟨rfl, rfl, rfl, by decide +kernel, rfl, by decide +kernel, by decide +kernel⟩
theorem w_plain_word (T : Tx K mg) (C_letters_of : OkD P w K mg base 3 "letters_of" ["word", "many"] (sp_letters_of K)) (C_is_row : OkD P w K mg base 1 "is_row" ["value"] (sp_is_row K)) (C_is_int : OkD P w K mg base 1 "is_int" ["value"] (sp_is_int K)) (len : ∀ ds M Q E, sp_plain_word K ds M Q E → ds.length = 1)
    (hb : ∀ d0 M Q E, sp_plain_word K [d0] M Q E → g_plain_word K { nx := fun _ M => Q .non M, rt := Q, ex := fun x _ M => E x M } [some d0, none] M) : OkD P w K mg base 4 "plain_word" ["word"] (sp_plain_word K) := by
  obtain ⟨fd, F⟩ := T.F_plain_word
  have C_BadWord := C_BadWord (P := P) (w := w) (base := base) T
  refine ⟨fd, dl_def F sc_plain_word (by intro ds M Q E h; exact len ds M Q E h) (g_plain_word K) (by decide) (fun cdv A outer s H E hr => ?_) (fun ds M Q E h => ?_), F.binds fun _ _ _ _ _ _ us hl => match us, hl with | [_], _ => rfl, F.kp, T.g_plain_word, fun_lk F⟩
  · exact
   (fss_cons (fs_if (ft_not (ft_val (fe_callO C_is_row (hr.mono (by decide)) (takes_of rfl rfl rfl rfl) (fa_cons (fv 0) fa_nil)))) (fss_one (fs_raiseO C_BadWord (hr.mono (by decide)) (takes_of rfl rfl rfl rfl) (fa_cons (fe_un ud_neg fe_int) fa_nil))) fss_nil)
    (fss_one (fs_ret (fe_callO C_letters_of (hr.mono (by decide)) (takes_of rfl rfl rfl rfl) (fa_cons (fv 0) (fa_cons (fe_op (od_add rfl) fe_int (fe_cb (cd_max rfl rfl (hu64 hr)) T.n_max bt_max (fa_cons (fe_op (od_add rfl) (FN.frz (fn_lst (fa_cons fe_int fa_nil))) (FN.frz (fn_lc (own := [("letter", 1)]) sc_plain_word.nd (fi_seq rfl (fv 0)) (blkOk_by (by kernel_rfl)) (fun s H C cl fp => (fg_name (vs := [1]) 1 sc_plain_word.nd)) (fun s H C cl fp => (fts_one (ft_val (fe_callO C_is_int (hr.mono (by decide)) takes0 (fa_cons (fv 1) fa_nil))))) (fun s H C cl fp => (fv 1))))) fa_nil))) fa_nil))))))
  · match ds, len _ _ _ _ h with
    | [d0], _ => exact hb d0 M Q E h
/-! word_table -/
def g_word_table (K : PySem.W.Frag) : DS :=
  (sSeq (sSet 2 (gCall (sp_check_word K) (aCons (gVar 0) (aCons (gVar 1) aNil))))
    (sSeq (sSet 3 (gFrz (nLc (iRange1 (aCons (gVar 1) aNil)) (dName 4) gYes (gCel (nOp nRep (gFrz (nLst (aCons (gC (.int 0)) aNil))) (gVar 1))) [4])))
    (sSeq (sSet 5 (gCel (nOp nRep (gFrz (nLst (aCons (gC (.int 0)) aNil))) (gVar 1))))
    (sSeq (sFor (iSeqD (gVar 2)) (dName 6) (sSeq (sFor (iRange1 (aCons (gVar 1) aNil)) (dName 7) (sIf (gTest (gOp dNe (gVar 7) (gVar 6))) (sSeq (sSetIx (gOp dAdd (gOp dIx (gOp dIx (gVar 3) (gVar 6)) (gVar 7)) (gOp dIx (gVar 5) (gVar 7))) (gOp dIx (gVar 3) (gVar 6)) (gVar 7))
    (sSetIx (gOp dSub (gOp dIx (gOp dIx (gVar 3) (gVar 7)) (gVar 6)) (gOp dIx (gVar 5) (gVar 7))) (gOp dIx (gVar 3) (gVar 7)) (gVar 6))) sNext))
    (sSetIx (gOp dAdd (gOp dIx (gVar 5) (gVar 6)) (gC (.int 1))) (gVar 5) (gVar 6))))
    (sRetF (gCB dTupleOf (aCons (gFrz (nLc (iSeqD (gVar 3)) (dName 8) gYes (gCB dTupleOf (aCons (gVar 8) aNil)) [8])) aNil)))))))
theorem sc_word_table : FnScope ["word", "many", "letters", "leads", "again", "met", "letter", "i", "row"] ["word", "many"] (defScope s_word_table) := ⟨rfl, rfl, rfl, by decide +kernel, rfl, by decide +kernel, by decide +kernel⟩
theorem w_word_table (T : Tx K mg) (C_check_word : OkD P w K mg base 4 "check_word" ["word", "many"] (sp_check_word K)) (len : ∀ ds M Q E, sp_word_table K ds M Q E → ds.length = 2)
    (hb : ∀ d0 d1 M Q E, sp_word_table K [d0, d1] M Q E → g_word_table K { nx := fun _ M => Q .non M, rt := Q, ex := fun x _ M => E x M } [some d0, some d1, none, none, none, none, none, none, none] M) : OkD P w K mg base 5 "word_table" ["word", "many"] (sp_word_table K) := by
  obtain ⟨fd, F⟩ := T.F_word_table
  refine ⟨fd, dl_def F sc_word_table (by intro ds M Q E h; exact len ds M Q E h) (g_word_table K) (by decide) (fun cdv A outer s H E hr => ?_) (fun ds M Q E h => ?_), F.binds fun _ _ _ _ _ _ us hl => match us, hl with | [_, _], _ => rfl, F.kp, T.g_word_table, fun_lk F⟩
  · exact
   (fss_cons (fs_set 2 sc_word_table.nd (fe_callO C_check_word (hr.mono (by decide)) (takes_of rfl rfl rfl rfl) (fa_cons (fv 0) (fa_cons (fv 1) fa_nil))))
    (fss_cons (fs_setLc (own := [("again", 4)]) 3 sc_word_table.nd (fi_range1 (by rfl) T.n_range (fa_cons (fv 1) fa_nil)) (blkOk_by (by kernel_rfl)) (fun s H C cl fp => (fg_name (vs := [4]) 4 sc_word_table.nd)) (fun s H C cl fp => fts_nil) (fun s H C cl fp => (FN.cel (fn_op on_rep (FN.frz (fn_lst (fa_cons fe_int fa_nil))) (fv 1)))) frz_im)
    (fss_cons (fs_set 5 sc_word_table.nd (FN.cel (fn_op on_rep (FN.frz (fn_lst (fa_cons fe_int fa_nil))) (fv 1))))
    (fss_cons (fs_for (passes_of rfl) rfl (fi_seq rfl (fv 2)) (fg_name (vs := [6]) 6 sc_word_table.nd) (fss_cons (fs_for (passes_of rfl) rfl (fi_range1 (by rfl) T.n_range (fa_cons (fv 1) fa_nil)) (fg_name (vs := [7]) 7 sc_word_table.nd) (fss_one (fs_if (ft_cmp (od_ne rfl (hu64 hr)) (fv 7) (fv 6) (nomark _)) (fss_cons (fs_setIx (fe_op (od_add rfl) (fe_ix (xd_ix rfl) (fe_ix (xd_ix rfl) (fv 3) (fv 6) (fun _ _ => rfl)) (fv 7) (fun _ _ => rfl)) (fe_ix (xd_ix rfl) (fv 5) (fv 7) (fun _ _ => rfl))) (fe_ix (xd_ix rfl) (fv 3) (fv 6) (fun _ _ => rfl)) (fv 7))
    (fss_one (fs_setIx (fe_op (od_sub) (fe_ix (xd_ix rfl) (fe_ix (xd_ix rfl) (fv 3) (fv 7) (fun _ _ => rfl)) (fv 6) (fun _ _ => rfl)) (fe_ix (xd_ix rfl) (fv 5) (fv 7) (fun _ _ => rfl))) (fe_ix (xd_ix rfl) (fv 3) (fv 7) (fun _ _ => rfl)) (fv 6)))) fss_nil)))
    (fss_one (fs_setIx (fe_op (od_add rfl) (fe_ix (xd_ix rfl) (fv 5) (fv 6) (fun _ _ => rfl)) fe_int) (fv 5) (fv 6)))))
    (fss_one (fs_retF (fe_ct (cd_tuple rfl) T.n_tuple bt_tuple (fa_cons (FN.frz (fn_lc (own := [("row", 8)]) sc_word_table.nd (fi_seq rfl (fv 3)) (blkOk_by (by kernel_rfl)) (fun s H C cl fp => (fg_name (vs := [8]) 8 sc_word_table.nd)) (fun s H C cl fp => fts_nil) (fun s H C cl fp => (fe_ct (cd_tuple rfl) T.n_tuple bt_tuple (fa_cons (fv 8) fa_nil))))) fa_nil))))))))
  · match ds, len _ _ _ _ h with
    | [d0, d1], _ => exact hb d0 d1 M Q E h
/-! exchanged -/
def g_exchanged (K : PySem.W.Frag) : DS :=
  (sRet (gOp dAdd (gOp dAdd (gSl (gVar 0) oNone (oSome (gVar 1))) (gTup (aCons (gOp dIx (gVar 0) (gOp dAdd (gVar 1) (gC (.int 1)))) (aCons (gOp dIx (gVar 0) (gVar 1)) aNil)))) (gSl (gVar 0) (oSome (gOp dAdd (gVar 1) (gC (.int 2)))) oNone)))
theorem sc_exchanged : FnScope ["letters", "at"] ["letters", "at"] (defScope s_exchanged) := ⟨rfl, rfl, rfl, by decide +kernel, rfl, by decide +kernel, by decide +kernel⟩
theorem w_exchanged (T : Tx K mg)  (len : ∀ ds M Q E, sp_exchanged K ds M Q E → ds.length = 2)
    (hb : ∀ d0 d1 M Q E, sp_exchanged K [d0, d1] M Q E → g_exchanged K { nx := fun _ M => Q .non M, rt := Q, ex := fun x _ M => E x M } [some d0, some d1] M) : OkD P w K mg base 1 "exchanged" ["letters", "at"] (sp_exchanged K) := by
  obtain ⟨fd, F⟩ := T.F_exchanged
  refine ⟨fd, dl_def F sc_exchanged (by intro ds M Q E h; exact len ds M Q E h) (g_exchanged K) (by decide) (fun cdv A outer s H E hr => ?_) (fun ds M Q E h => ?_), F.binds fun _ _ _ _ _ _ us hl => match us, hl with | [_, _], _ => rfl, F.kp, T.g_exchanged, fun_lk F⟩
  · exact
   (fss_one (fs_ret (fe_op (od_add rfl) (fe_op (od_add rfl) (fe_slice rfl (fv 0) fo_none (fo_some (fv 1))) (fe_tup (fa_cons (fe_ix (xd_ix rfl) (fv 0) (fe_op (od_add rfl) (fv 1) fe_int) (fun _ _ => rfl)) (fa_cons (fe_ix (xd_ix rfl) (fv 0) (fv 1) (fun _ _ => rfl)) fa_nil)))) (fe_slice rfl (fv 0) (fo_some (fe_op (od_add rfl) (fv 1) fe_int)) fo_none))))
  · match ds, len _ _ _ _ h with
    | [d0, d1], _ => exact hb d0 d1 M Q E h
/-! alike_words -/
def g_alike_words (K : PySem.W.Frag) : DS :=
  (sSeq (sSet 2 (gCall (sp_plain_word K) (aCons (gVar 0) aNil)))
    (sSeq (sSet 3 (gCall (sp_plain_word K) (aCons (gVar 1) aNil)))
    (sSeq (sIf (gTest (gOp dNe (gCB dLen (aCons (gVar 2) aNil)) (gCB dLen (aCons (gVar 3) aNil)))) (sRaise (He.ga K "OtherSize") ["first", "second"] (aCons (gCB dLen (aCons (gVar 2) aNil)) (aCons (gCB dLen (aCons (gVar 3) aNil)) aNil))) sNext)
    (sSeq (sIf (gTest (gOp dNe (gFrz (nCB nSortOf (aCons (gVar 2) aNil))) (gFrz (nCB nSortOf (aCons (gVar 3) aNil))))) (sRaise (He.ga K "BadWord") ["place"] (aCons (gUn dNeg (gC (.int 3))) aNil)) sNext)
    (sRet (gTup (aCons (gVar 2) (aCons (gVar 3) aNil))))))))
theorem sc_alike_words : FnScope ["word", "other", "one", "two"] ["word", "other"] (defScope s_alike_words) := ⟨rfl, rfl, rfl, by decide +kernel, rfl, by decide +kernel, by decide +kernel⟩
theorem w_alike_words (T : Tx K mg) (C_plain_word : OkD P w K mg base 4 "plain_word" ["word"] (sp_plain_word K)) (len : ∀ ds M Q E, sp_alike_words K ds M Q E → ds.length = 2)
    (hb : ∀ d0 d1 M Q E, sp_alike_words K [d0, d1] M Q E → g_alike_words K { nx := fun _ M => Q .non M, rt := Q, ex := fun x _ M => E x M } [some d0, some d1, none, none] M) : OkD P w K mg base 5 "alike_words" ["word", "other"] (sp_alike_words K) := by
  obtain ⟨fd, F⟩ := T.F_alike_words
  have C_OtherSize := C_OtherSize (P := P) (w := w) (base := base) T
  have C_BadWord := C_BadWord (P := P) (w := w) (base := base) T
  refine ⟨fd, dl_def F sc_alike_words (by intro ds M Q E h; exact len ds M Q E h) (g_alike_words K) (by decide) (fun cdv A outer s H E hr => ?_) (fun ds M Q E h => ?_), F.binds fun _ _ _ _ _ _ us hl => match us, hl with | [_, _], _ => rfl, F.kp, T.g_alike_words, fun_lk F⟩
  · exact
   (fss_cons (fs_set 2 sc_alike_words.nd (fe_callO C_plain_word (hr.mono (by decide)) (takes_of rfl rfl rfl rfl) (fa_cons (fv 0) fa_nil)))
    (fss_cons (fs_set 3 sc_alike_words.nd (fe_callO C_plain_word (hr.mono (by decide)) (takes_of rfl rfl rfl rfl) (fa_cons (fv 1) fa_nil)))
    (fss_cons (fs_if (ft_cmp (od_ne rfl (hu64 hr)) (fe_cb (cd_len rfl) T.n_len bt_len (fa_cons (fv 2) fa_nil)) (fe_cb (cd_len rfl) T.n_len bt_len (fa_cons (fv 3) fa_nil)) (nomark _)) (fss_one (fs_raiseO C_OtherSize (hr.mono (by decide)) (takes_of rfl rfl rfl rfl) (fa_cons (fe_cb (cd_len rfl) T.n_len bt_len (fa_cons (fv 2) fa_nil)) (fa_cons (fe_cb (cd_len rfl) T.n_len bt_len (fa_cons (fv 3) fa_nil)) fa_nil)))) fss_nil)
    (fss_cons (fs_if (ft_cmp (od_ne rfl (hu64 hr)) (FN.frz (fn_cb (cn_sorted rfl) T.n_sorted bt_sorted (fa_cons (fv 2) fa_nil))) (FN.frz (fn_cb (cn_sorted rfl) T.n_sorted bt_sorted (fa_cons (fv 3) fa_nil))) (nomark _)) (fss_one (fs_raiseO C_BadWord (hr.mono (by decide)) (takes_of rfl rfl rfl rfl) (fa_cons (fe_un ud_neg fe_int) fa_nil))) fss_nil)
    (fss_one (fs_ret (fe_tup (fa_cons (fv 2) (fa_cons (fv 3) fa_nil)))))))))
  · match ds, len _ _ _ _ h with
    | [d0, d1], _ => exact hb d0 d1 M Q E h
/-! places_of -/
def g_places_of (K : PySem.W.Frag) : DS :=
  (sRet (gFrz (nLc (iEnumD (aCons (gVar 0) aNil)) (dTup 2 (dCons (dName 2) (dCons (dName 3) dNil))) (gTest (gOp dEq (gVar 3) (gVar 1))) (gVar 2) [2, 3])))
theorem sc_places_of : FnScope ["letters", "die", "place", "letter"] ["letters", "die"] (defScope s_places_of) := ⟨rfl, rfl, rfl, by decide +kernel, rfl, by decide +kernel, by decide +kernel⟩
theorem w_places_of (T : Tx K mg)  (len : ∀ ds M Q E, sp_places_of K ds M Q E → ds.length = 2)
    (hb : ∀ d0 d1 M Q E, sp_places_of K [d0, d1] M Q E → g_places_of K { nx := fun _ M => Q .non M, rt := Q, ex := fun x _ M => E x M } [some d0, some d1, none, none] M) : OkD P w K mg base 1 "places_of" ["letters", "die"] (sp_places_of K) := by
  obtain ⟨fd, F⟩ := T.F_places_of
  refine ⟨fd, dl_def F sc_places_of (by intro ds M Q E h; exact len ds M Q E h) (g_places_of K) (by decide) (fun cdv A outer s H E hr => ?_) (fun ds M Q E h => ?_), F.binds fun _ _ _ _ _ _ us hl => match us, hl with | [_, _], _ => rfl, F.kp, T.g_places_of, fun_lk F⟩
  · exact
   (fss_one (fs_ret (FN.frz (fn_lc (own := [("place", 2), ("letter", 3)]) sc_places_of.nd (fi_enum rfl T.n_enumerate (fa_cons (fv 0) fa_nil)) (blkOk_by (by kernel_rfl)) (fun s H C cl fp => (fg_tup rfl rfl (fgs_cons (fg_name (vs := [2, 3]) 2 sc_places_of.nd) (fgs_cons (fg_name (vs := [2, 3]) 3 sc_places_of.nd) (fgs_nil (vs := [2, 3])))))) (fun s H C cl fp => (fts_one (ft_cmp (od_eq rfl (hu64 hr)) (fv 3) (fv 1) (nomark _)))) (fun s H C cl fp => (fv 2))))))
  · match ds, len _ _ _ _ h with
    | [d0, d1], _ => exact hb d0 d1 M Q E h
/-! sided_cells -/
def g_sided_cells (K : PySem.W.Frag) : DS :=
  (sSeq (sPar 4 5 (aCons (gCall (sp_places_of K) (aCons (gVar 0) (aCons (gVar 2) aNil))) (aCons (gCall (sp_places_of K) (aCons (gVar 0) (aCons (gVar 3) aNil))) aNil)))
    (sSeq (sPar 6 7 (aCons (gCall (sp_places_of K) (aCons (gVar 1) (aCons (gVar 2) aNil))) (aCons (gCall (sp_places_of K) (aCons (gVar 1) (aCons (gVar 3) aNil))) aNil)))
    (sSeq (sSet 8 (gCel (nLst aNil)))
    (sSeq (sFor (iRange1 (aCons (gCB dLen (aCons (gVar 4) aNil)) aNil)) (dName 9) (sFor (iRange1 (aCons (gCB dLen (aCons (gVar 5) aNil)) aNil)) (dName 10) (sSeq (sSet 11 (gOp dLt (gOp dIx (gVar 4) (gVar 9)) (gOp dIx (gVar 5) (gVar 10))))
    (sIf (gTest (gOp dNe (gVar 11) (gOp dLt (gOp dIx (gVar 6) (gVar 9)) (gOp dIx (gVar 7) (gVar 10))))) (sDrop (gMt dAppend (gVar 8) (aCons (gTup (aCons (gVar 9) (aCons (gVar 10) (aCons (gVar 11) aNil)))) aNil))) sNext))))
    (sRetF (gVar 8))))))
theorem sc_sided_cells : FnScope ["one", "two", "first", "second", "mine", "theirs", "mine_then", "theirs_then", "cells", "x", "y", "ahead"] ["one", "two", "first", "second"] (defScope s_sided_cells) := ⟨rfl, rfl, rfl, by decide +kernel, rfl, by decide +kernel, by decide +kernel⟩
theorem w_sided_cells (T : Tx K mg) (C_places_of : OkD P w K mg base 1 "places_of" ["letters", "die"] (sp_places_of K)) (len : ∀ ds M Q E, sp_sided_cells K ds M Q E → ds.length = 4)
    (hb : ∀ d0 d1 d2 d3 M Q E, sp_sided_cells K [d0, d1, d2, d3] M Q E → g_sided_cells K { nx := fun _ M => Q .non M, rt := Q, ex := fun x _ M => E x M } [some d0, some d1, some d2, some d3, none, none, none, none, none, none, none, none] M) : OkD P w K mg base 2 "sided_cells" ["one", "two", "first", "second"] (sp_sided_cells K) := by
  obtain ⟨fd, F⟩ := T.F_sided_cells
  refine ⟨fd, dl_def F sc_sided_cells (by intro ds M Q E h; exact len ds M Q E h) (g_sided_cells K) (by decide) (fun cdv A outer s H E hr => ?_) (fun ds M Q E h => ?_), F.binds fun _ _ _ _ _ _ us hl => match us, hl with | [_, _, _, _], _ => rfl, F.kp, T.g_sided_cells, fun_lk F⟩
  · exact
   (fss_cons (fs_par 4 5 sc_sided_cells.nd (fa_cons (fe_callO C_places_of (hr.mono (by decide)) (takes_of rfl rfl rfl rfl) (fa_cons (fv 0) (fa_cons (fv 2) fa_nil))) (fa_cons (fe_callO C_places_of (hr.mono (by decide)) (takes_of rfl rfl rfl rfl) (fa_cons (fv 0) (fa_cons (fv 3) fa_nil))) fa_nil)))
    (fss_cons (fs_par 6 7 sc_sided_cells.nd (fa_cons (fe_callO C_places_of (hr.mono (by decide)) (takes_of rfl rfl rfl rfl) (fa_cons (fv 1) (fa_cons (fv 2) fa_nil))) (fa_cons (fe_callO C_places_of (hr.mono (by decide)) (takes_of rfl rfl rfl rfl) (fa_cons (fv 1) (fa_cons (fv 3) fa_nil))) fa_nil)))
    (fss_cons (fs_set 8 sc_sided_cells.nd (FN.cel (fn_lst fa_nil)))
    (fss_cons (fs_for (passes_of rfl) rfl (fi_range1 (by rfl) T.n_range (fa_cons (fe_cb (cd_len rfl) T.n_len bt_len (fa_cons (fv 4) fa_nil)) fa_nil)) (fg_name (vs := [9]) 9 sc_sided_cells.nd) (fss_one (fs_for (passes_of rfl) rfl (fi_range1 (by rfl) T.n_range (fa_cons (fe_cb (cd_len rfl) T.n_len bt_len (fa_cons (fv 5) fa_nil)) fa_nil)) (fg_name (vs := [10]) 10 sc_sided_cells.nd) (fss_cons (fs_set 11 sc_sided_cells.nd (fe_cmp (od_lt) (fe_ix (xd_ix rfl) (fv 4) (fv 9) (fun _ _ => rfl)) (fe_ix (xd_ix rfl) (fv 5) (fv 10) (fun _ _ => rfl)) (nomark _)))
    (fss_one (fs_if (ft_cmp (od_ne rfl (hu64 hr)) (fv 11) (fe_cmp (od_lt) (fe_ix (xd_ix rfl) (fv 6) (fv 9) (fun _ _ => rfl)) (fe_ix (xd_ix rfl) (fv 7) (fv 10) (fun _ _ => rfl)) (nomark _)) (nomark _)) (fss_one (fs_expr (fe_mt rfl (PySem.F.slot_list_append) PySem.F.type_list_append md_append (fv 8) (fa_cons (fe_tup (fa_cons (fv 9) (fa_cons (fv 10) (fa_cons (fv 11) fa_nil)))) fa_nil)))) fss_nil))))))
    (fss_one (fs_retF (fv 8)))))))
  · match ds, len _ _ _ _ h with
    | [d0, d1, d2, d3], _ => exact hb d0 d1 d2 d3 M Q E h
/-! words_of_two -/
def g_words_of_two (K : PySem.W.Frag) : DS :=
  (sRet (gCall (sp_alike_words K) (aCons (gCall (sp_check_word K) (aCons (gVar 0) (aCons (gC (.int 2)) aNil))) (aCons (gCall (sp_check_word K) (aCons (gVar 1) (aCons (gC (.int 2)) aNil))) aNil))))
theorem sc_words_of_two : FnScope ["word", "other"] ["word", "other"] (defScope s_words_of_two) := ⟨rfl, rfl, rfl, by decide +kernel, rfl, by decide +kernel, by decide +kernel⟩
theorem w_words_of_two (T : Tx K mg) (C_alike_words : OkD P w K mg base 5 "alike_words" ["word", "other"] (sp_alike_words K)) (C_check_word : OkD P w K mg base 4 "check_word" ["word", "many"] (sp_check_word K)) (len : ∀ ds M Q E, sp_words_of_two K ds M Q E → ds.length = 2)
    (hb : ∀ d0 d1 M Q E, sp_words_of_two K [d0, d1] M Q E → g_words_of_two K { nx := fun _ M => Q .non M, rt := Q, ex := fun x _ M => E x M } [some d0, some d1] M) : OkD P w K mg base 6 "words_of_two" ["word", "other"] (sp_words_of_two K) := by
  obtain ⟨fd, F⟩ := T.F_words_of_two
  refine ⟨fd, dl_def F sc_words_of_two (by intro ds M Q E h; exact len ds M Q E h) (g_words_of_two K) (by decide) (fun cdv A outer s H E hr => ?_) (fun ds M Q E h => ?_), F.binds fun _ _ _ _ _ _ us hl => match us, hl with | [_, _], _ => rfl, F.kp, T.g_words_of_two, fun_lk F⟩
  · exact
   (fss_one (fs_ret (fe_callO C_alike_words (hr.mono (by decide)) (takes_of rfl rfl rfl rfl) (fa_cons (fe_callO C_check_word (hr.mono (by decide)) (takes_of rfl rfl rfl rfl) (fa_cons (fv 0) (fa_cons fe_int fa_nil))) (fa_cons (fe_callO C_check_word (hr.mono (by decide)) (takes_of rfl rfl rfl rfl) (fa_cons (fv 1) (fa_cons fe_int fa_nil))) fa_nil)))))
  · match ds, len _ _ _ _ h with
    | [d0, d1], _ => exact hb d0 d1 M Q E h
/-! moves_between -/
def g_moves_between (K : PySem.W.Frag) : DS :=
  (sSeq (sSet 2 (gFrz (nLc (iSeqD (gCall (sp_sided_cells K) (aCons (gVar 0) (aCons (gVar 1) (aCons (gC (.int 0)) (aCons (gC (.int 1)) aNil)))))) (dTup 3 (dCons (dName 3) (dCons (dName 4) (dCons (dName 5) dNil)))) gYes (gVar 5) [3, 4, 5])))
    (sSeq (sSet 6 (gCB dLen (aCons (gFrz (nLc (iSeqD (gVar 2)) (dName 5) (gTest (gVar 5)) (gVar 5) [5])) aNil)))
    (sSeq (sIf (gTest (gOp dNe (gOp dMul (gC (.int 2)) (gVar 6)) (gCB dLen (aCons (gVar 2) aNil)))) (sRet (gC .non)) sNext)
    (sRet (gVar 6)))))
theorem sc_moves_between : FnScope ["one", "two", "sides", "x", "y", "ahead", "half"] ["one", "two"] (defScope s_moves_between) := ⟨rfl, rfl, rfl, by decide +kernel, rfl, by decide +kernel, by decide +kernel⟩
theorem w_moves_between (T : Tx K mg) (C_sided_cells : OkD P w K mg base 2 "sided_cells" ["one", "two", "first", "second"] (sp_sided_cells K)) (len : ∀ ds M Q E, sp_moves_between K ds M Q E → ds.length = 2)
    (hb : ∀ d0 d1 M Q E, sp_moves_between K [d0, d1] M Q E → g_moves_between K { nx := fun _ M => Q .non M, rt := Q, ex := fun x _ M => E x M } [some d0, some d1, none, none, none, none, none] M) : OkD P w K mg base 3 "moves_between" ["one", "two"] (sp_moves_between K) := by
  obtain ⟨fd, F⟩ := T.F_moves_between
  refine ⟨fd, dl_def F sc_moves_between (by intro ds M Q E h; exact len ds M Q E h) (g_moves_between K) (by decide) (fun cdv A outer s H E hr => ?_) (fun ds M Q E h => ?_), F.binds fun _ _ _ _ _ _ us hl => match us, hl with | [_, _], _ => rfl, F.kp, T.g_moves_between, fun_lk F⟩
  · exact
   (fss_cons (fs_setLc (own := [("x", 3), ("y", 4), ("ahead", 5)]) 2 sc_moves_between.nd (fi_seq rfl (fe_callO C_sided_cells (hr.mono (by decide)) (takes_of rfl rfl rfl rfl) (fa_cons (fv 0) (fa_cons (fv 1) (fa_cons fe_int (fa_cons fe_int fa_nil)))))) (blkOk_by (by kernel_rfl)) (fun s H C cl fp => (fg_tup rfl rfl (fgs_cons (fg_name (vs := [3, 4, 5]) 3 sc_moves_between.nd) (fgs_cons (fg_name (vs := [3, 4, 5]) 4 sc_moves_between.nd) (fgs_cons (fg_name (vs := [3, 4, 5]) 5 sc_moves_between.nd) (fgs_nil (vs := [3, 4, 5]))))))) (fun s H C cl fp => fts_nil) (fun s H C cl fp => (fv 5)) frz_im)
    (fss_cons (fs_set 6 sc_moves_between.nd (fe_cb (cd_len rfl) T.n_len bt_len (fa_cons (FN.frz (fn_lc (own := [("ahead", 5)]) sc_moves_between.nd (fi_seq rfl (fv 2)) (blkOk_by (by kernel_rfl)) (fun s H C cl fp => (fg_name (vs := [5]) 5 sc_moves_between.nd)) (fun s H C cl fp => (fts_one (ft_val (fv 5)))) (fun s H C cl fp => (fv 5)))) fa_nil)))
    (fss_cons (fs_if (ft_cmp (od_ne rfl (hu64 hr)) (fe_op (od_mul) fe_int (fv 6)) (fe_cb (cd_len rfl) T.n_len bt_len (fa_cons (fv 2) fa_nil)) (nomark _)) (fss_one (fs_ret fe_non)) fss_nil)
    (fss_one (fs_ret (fv 6))))))
  · match ds, len _ _ _ _ h with
    | [d0, d1], _ => exact hb d0 d1 M Q E h
/-! paired_moves -/
def g_paired_moves (K : PySem.W.Frag) : DS :=
  (sSeq (sAsg (gCall (sp_words_of_two K) (aCons (gVar 0) (aCons (gVar 1) aNil))) (dTup 2 (dCons (dName 2) (dCons (dName 3) dNil))))
    (sRet (gCall (sp_moves_between K) (aCons (gVar 2) (aCons (gVar 3) aNil)))))
theorem sc_paired_moves : FnScope ["word", "other", "one", "two"] ["word", "other"] (defScope s_paired_moves) := ⟨rfl, rfl, rfl, by decide +kernel, rfl, by decide +kernel, by decide +kernel⟩
theorem w_paired_moves (T : Tx K mg) (C_words_of_two : OkD P w K mg base 6 "words_of_two" ["word", "other"] (sp_words_of_two K)) (C_moves_between : OkD P w K mg base 3 "moves_between" ["one", "two"] (sp_moves_between K)) (len : ∀ ds M Q E, sp_paired_moves K ds M Q E → ds.length = 2)
    (hb : ∀ d0 d1 M Q E, sp_paired_moves K [d0, d1] M Q E → g_paired_moves K { nx := fun _ M => Q .non M, rt := Q, ex := fun x _ M => E x M } [some d0, some d1, none, none] M) : OkD P w K mg base 7 "paired_moves" ["word", "other"] (sp_paired_moves K) := by
  obtain ⟨fd, F⟩ := T.F_paired_moves
  refine ⟨fd, dl_def F sc_paired_moves (by intro ds M Q E h; exact len ds M Q E h) (g_paired_moves K) (by decide) (fun cdv A outer s H E hr => ?_) (fun ds M Q E h => ?_), F.binds fun _ _ _ _ _ _ us hl => match us, hl with | [_, _], _ => rfl, F.kp, T.g_paired_moves, fun_lk F⟩
  · exact
   (fss_cons (fs_asg (fe_callO C_words_of_two (hr.mono (by decide)) (takes_of rfl rfl rfl rfl) (fa_cons (fv 0) (fa_cons (fv 1) fa_nil))) (fg_tup rfl rfl (fgs_cons (fg_name (vs := [2, 3]) 2 sc_paired_moves.nd) (fgs_cons (fg_name (vs := [2, 3]) 3 sc_paired_moves.nd) (fgs_nil (vs := [2, 3]))))))
    (fss_one (fs_ret (fe_callO C_moves_between (hr.mono (by decide)) (takes_of rfl rfl rfl rfl) (fa_cons (fv 2) (fa_cons (fv 3) fa_nil))))))
  · match ds, len _ _ _ _ h with
    | [d0, d1], _ => exact hb d0 d1 M Q E h
/-! turned_towards -/
def g_turned_towards (K : PySem.W.Frag) : DS :=
  (sSeq (sPar 3 4 (aCons (gCall (sp_places_of K) (aCons (gVar 1) (aCons (gC (.int 0)) aNil))) (aCons (gCall (sp_places_of K) (aCons (gVar 1) (aCons (gC (.int 1)) aNil))) aNil)))
    (sSeq (sSet 5 (gCel (nLst (aCons (gC (.int 0)) (aCons (gC (.int 0)) aNil)))))
    (sSeq (sFor (iRange1 (aCons (gOp dSub (gCB dLen (aCons (gVar 0) aNil)) (gC (.int 1))) aNil)) (dName 6) (sSeq (sSet 7 (gOp dIx (gVar 0) (gVar 6)))
    (sSeq (sIf (gAnd (gTest (gOp dEq (gVar 7) (gVar 2))) (gTest (gOp dNe (gOp dIx (gVar 0) (gOp dAdd (gVar 6) (gC (.int 1)))) (gVar 2)))) (sIf (gTest (gOp dEq (gOp dGt (gOp dIx (gVar 3) (gOp dIx (gVar 5) (gC (.int 0)))) (gOp dIx (gVar 4) (gOp dIx (gVar 5) (gC (.int 1))))) (gOp dEq (gVar 2) (gC (.int 0))))) (sRetF (gCall (sp_exchanged K) (aCons (gVar 0) (aCons (gVar 6) aNil)))) sNext) sNext)
    (sSetIx (gOp dAdd (gOp dIx (gVar 5) (gVar 7)) (gC (.int 1))) (gVar 5) (gVar 7)))))
    (sRetF (gVar 0)))))
theorem sc_turned_towards : FnScope ["letters", "two", "lower", "zeros", "ones", "met", "at", "here"] ["letters", "two", "lower"] (defScope s_turned_towards) := ⟨rfl, rfl, rfl, by decide +kernel, rfl, by decide +kernel, by decide +kernel⟩
theorem w_turned_towards (T : Tx K mg) (C_places_of : OkD P w K mg base 1 "places_of" ["letters", "die"] (sp_places_of K)) (C_exchanged : OkD P w K mg base 1 "exchanged" ["letters", "at"] (sp_exchanged K)) (len : ∀ ds M Q E, sp_turned_towards K ds M Q E → ds.length = 3)
    (hb : ∀ d0 d1 d2 M Q E, sp_turned_towards K [d0, d1, d2] M Q E → g_turned_towards K { nx := fun _ M => Q .non M, rt := Q, ex := fun x _ M => E x M } [some d0, some d1, some d2, none, none, none, none, none] M) : OkD P w K mg base 2 "turned_towards" ["letters", "two", "lower"] (sp_turned_towards K) := by
  obtain ⟨fd, F⟩ := T.F_turned_towards
  refine ⟨fd, dl_def F sc_turned_towards (by intro ds M Q E h; exact len ds M Q E h) (g_turned_towards K) (by decide) (fun cdv A outer s H E hr => ?_) (fun ds M Q E h => ?_), F.binds fun _ _ _ _ _ _ us hl => match us, hl with | [_, _, _], _ => rfl, F.kp, T.g_turned_towards, fun_lk F⟩
  · exact
   (fss_cons (fs_par 3 4 sc_turned_towards.nd (fa_cons (fe_callO C_places_of (hr.mono (by decide)) (takes_of rfl rfl rfl rfl) (fa_cons (fv 1) (fa_cons fe_int fa_nil))) (fa_cons (fe_callO C_places_of (hr.mono (by decide)) (takes_of rfl rfl rfl rfl) (fa_cons (fv 1) (fa_cons fe_int fa_nil))) fa_nil)))
    (fss_cons (fs_set 5 sc_turned_towards.nd (FN.cel (fn_lst (fa_cons fe_int (fa_cons fe_int fa_nil)))))
    (fss_cons (fs_for (passes_of rfl) rfl (fi_range1 (by rfl) T.n_range (fa_cons (fe_op (od_sub) (fe_cb (cd_len rfl) T.n_len bt_len (fa_cons (fv 0) fa_nil)) fe_int) fa_nil)) (fg_name (vs := [6]) 6 sc_turned_towards.nd) (fss_cons (fs_set 7 sc_turned_towards.nd (fe_ix (xd_ix rfl) (fv 0) (fv 6) (fun _ _ => rfl)))
    (fss_cons (fs_if (FW.ft (fw_and (ft_cmp (od_eq rfl (hu64 hr)) (fv 7) (fv 2) (nomark _)) (fw_and1 (ft_cmp (od_ne rfl (hu64 hr)) (fe_ix (xd_ix rfl) (fv 0) (fe_op (od_add rfl) (fv 6) fe_int) (fun _ _ => rfl)) (fv 2) (nomark _))))) (fss_one (fs_if (ft_cmp (od_eq rfl (hu64 hr)) (fe_cmp (od_gt) (fe_ix (xd_ix rfl) (fv 3) (fe_ix (xd_ix rfl) (fv 5) fe_int (fun _ _ => rfl)) (fun _ _ => rfl)) (fe_ix (xd_ix rfl) (fv 4) (fe_ix (xd_ix rfl) (fv 5) fe_int (fun _ _ => rfl)) (fun _ _ => rfl)) (nomark _)) (fe_cmp (od_eq rfl (hu64 hr)) (fv 2) fe_int (nomark _)) (nomark _)) (fss_one (fs_retF (fe_callO C_exchanged (hr.mono (by decide)) (takes_of rfl rfl rfl rfl) (fa_cons (fv 0) (fa_cons (fv 6) fa_nil))))) fss_nil)) fss_nil)
    (fss_one (fs_setIx (fe_op (od_add rfl) (fe_ix (xd_ix rfl) (fv 5) (fv 7) (fun _ _ => rfl)) fe_int) (fv 5) (fv 7))))))
    (fss_one (fs_retF (fv 0))))))
  · match ds, len _ _ _ _ h with
    | [d0, d1, d2], _ => exact hb d0 d1 d2 M Q E h
/-! paired_way -/
def g_paired_way (K : PySem.W.Frag) : DS :=
  (sSeq (sAsg (gCall (sp_words_of_two K) (aCons (gVar 0) (aCons (gVar 1) aNil))) (dTup 2 (dCons (dName 2) (dCons (dName 3) dNil))))
    (sSeq (sSet 4 (gCall (sp_moves_between K) (aCons (gVar 2) (aCons (gVar 3) aNil))))
    (sSeq (sIf (gTest (gOp (dIsN fun b => b) (gVar 4) (gC .non))) (sRetF (gC .non)) sNext)
    (sSeq (sSet 5 (gCel (nLst (aCons (gVar 2) aNil))))
    (sSeq (sFor (iRange1 (aCons (gVar 4) aNil)) (dName 6) (sDrop (gMt dAppend (gVar 5) (aCons (gCall (sp_turned_towards K) (aCons (gCall (sp_turned_towards K) (aCons (gOp dIx (gVar 5) (gUn dNeg (gC (.int 1)))) (aCons (gVar 3) (aCons (gC (.int 0)) aNil)))) (aCons (gVar 3) (aCons (gC (.int 1)) aNil)))) aNil))))
    (sRetF (gVar 5)))))))
theorem sc_paired_way : FnScope ["word", "other", "one", "two", "moves", "way", "again"] ["word", "other"] (defScope s_paired_way) := ⟨rfl, rfl, rfl, by decide +kernel, rfl, by decide +kernel, by decide +kernel⟩
theorem w_paired_way (T : Tx K mg) (C_words_of_two : OkD P w K mg base 6 "words_of_two" ["word", "other"] (sp_words_of_two K)) (C_moves_between : OkD P w K mg base 3 "moves_between" ["one", "two"] (sp_moves_between K)) (C_turned_towards : OkD P w K mg base 2 "turned_towards" ["letters", "two", "lower"] (sp_turned_towards K)) (len : ∀ ds M Q E, sp_paired_way K ds M Q E → ds.length = 2)
    (hb : ∀ d0 d1 M Q E, sp_paired_way K [d0, d1] M Q E → g_paired_way K { nx := fun _ M => Q .non M, rt := Q, ex := fun x _ M => E x M } [some d0, some d1, none, none, none, none, none] M) : OkD P w K mg base 7 "paired_way" ["word", "other"] (sp_paired_way K) := by
  obtain ⟨fd, F⟩ := T.F_paired_way
  refine ⟨fd, dl_def F sc_paired_way (by intro ds M Q E h; exact len ds M Q E h) (g_paired_way K) (by decide) (fun cdv A outer s H E hr => ?_) (fun ds M Q E h => ?_), F.binds fun _ _ _ _ _ _ us hl => match us, hl with | [_, _], _ => rfl, F.kp, T.g_paired_way, fun_lk F⟩
  · exact
   (fss_cons (fs_asg (fe_callO C_words_of_two (hr.mono (by decide)) (takes_of rfl rfl rfl rfl) (fa_cons (fv 0) (fa_cons (fv 1) fa_nil))) (fg_tup rfl rfl (fgs_cons (fg_name (vs := [2, 3]) 2 sc_paired_way.nd) (fgs_cons (fg_name (vs := [2, 3]) 3 sc_paired_way.nd) (fgs_nil (vs := [2, 3]))))))
    (fss_cons (fs_set 4 sc_paired_way.nd (fe_callO C_moves_between (hr.mono (by decide)) (takes_of rfl rfl rfl rfl) (fa_cons (fv 2) (fa_cons (fv 3) fa_nil))))
    (fss_cons (fs_if (ft_cmp (od_isN) (fv 4) fe_non (nomark _)) (fss_one (fs_retF fe_non)) fss_nil)
    (fss_cons (fs_set 5 sc_paired_way.nd (FN.cel (fn_lst (fa_cons (fv 2) fa_nil))))
    (fss_cons (fs_for (passes_of rfl) rfl (fi_range1 (by rfl) T.n_range (fa_cons (fv 4) fa_nil)) (fg_name (vs := [6]) 6 sc_paired_way.nd) (fss_one (fs_expr (fe_mt rfl (PySem.F.slot_list_append) PySem.F.type_list_append md_append (fv 5) (fa_cons (fe_callO C_turned_towards (hr.mono (by decide)) (takes_of rfl rfl rfl rfl) (fa_cons (fe_callO C_turned_towards (hr.mono (by decide)) (takes_of rfl rfl rfl rfl) (fa_cons (fe_ix (xd_ix rfl) (fv 5) (fe_un ud_neg fe_int) (fun _ _ => rfl)) (fa_cons (fv 3) (fa_cons fe_int fa_nil)))) (fa_cons (fv 3) (fa_cons fe_int fa_nil)))) fa_nil)))))
    (fss_one (fs_retF (fv 5))))))))
  · match ds, len _ _ _ _ h with
    | [d0, d1], _ => exact hb d0 d1 M Q E h
/-! same_lead -/
def g_same_lead (K : PySem.W.Frag) : DS :=
  (sSeq (sSet 1 (gCall (sp_check_word K) (aCons (gVar 0) (aCons (gC (.int 2)) aNil))))
    (sSeq (sPar 2 3 (aCons (gCntT (gVar 1) (gC (.int 0))) (aCons (gCntT (gVar 1) (gC (.int 1))) aNil)))
    (sSeq (sSet 4 (gOp dFdiv (gOp dAdd (gOp dMul (gVar 2) (gVar 3)) (gOp dIx (gOp dIx (gCall (sp_word_table K) (aCons (gVar 1) (aCons (gC (.int 2)) aNil))) (gC (.int 0))) (gC (.int 1)))) (gC (.int 2))))
    (sRet (gAndV (gOp dGt (gVar 2) (gC (.int 1))) (gAndV (gOp dGt (gVar 3) (gC (.int 1))) (gChain dLt dLt (gC (.int 1)) (gVar 4) (gOp dSub (gOp dMul (gVar 2) (gVar 3)) (gC (.int 1))))))))))
theorem sc_same_lead : FnScope ["word", "letters", "zeros", "ones", "higher"] ["word"] (defScope s_same_lead) := ⟨rfl, rfl, rfl, by decide +kernel, rfl, by decide +kernel, by decide +kernel⟩
theorem w_same_lead (T : Tx K mg) (C_check_word : OkD P w K mg base 4 "check_word" ["word", "many"] (sp_check_word K)) (C_word_table : OkD P w K mg base 5 "word_table" ["word", "many"] (sp_word_table K)) (len : ∀ ds M Q E, sp_same_lead K ds M Q E → ds.length = 1)
    (hb : ∀ d0 M Q E, sp_same_lead K [d0] M Q E → g_same_lead K { nx := fun _ M => Q .non M, rt := Q, ex := fun x _ M => E x M } [some d0, none, none, none, none] M) : OkD P w K mg base 6 "same_lead" ["word"] (sp_same_lead K) := by
  obtain ⟨fd, F⟩ := T.F_same_lead
  refine ⟨fd, dl_def F sc_same_lead (by intro ds M Q E h; exact len ds M Q E h) (g_same_lead K) (by decide) (fun cdv A outer s H E hr => ?_) (fun ds M Q E h => ?_), F.binds fun _ _ _ _ _ _ us hl => match us, hl with | [_], _ => rfl, F.kp, T.g_same_lead, fun_lk F⟩
  · exact
   (fss_cons (fs_set 1 sc_same_lead.nd (fe_callO C_check_word (hr.mono (by decide)) (takes_of rfl rfl rfl rfl) (fa_cons (fv 0) (fa_cons fe_int fa_nil))))
    (fss_cons (fs_par 2 3 sc_same_lead.nd (fa_cons (fe_cntT rfl (fv 1) fe_int) (fa_cons (fe_cntT rfl (fv 1) fe_int) fa_nil)))
    (fss_cons (fs_set 4 sc_same_lead.nd (fe_op (od_fdiv) (fe_op (od_add rfl) (fe_op (od_mul) (fv 2) (fv 3)) (fe_ix (xd_ix rfl) (fe_ix (xd_ix rfl) (fe_callO C_word_table (hr.mono (by decide)) (takes_of rfl rfl rfl rfl) (fa_cons (fv 1) (fa_cons fe_int fa_nil))) fe_int (fun _ _ => rfl)) fe_int (fun _ _ => rfl))) fe_int))
    (fss_one (fs_ret (fe_and (fe_cmp (od_gt) (fv 2) fe_int (nomark _)) (fe_and (fe_cmp (od_gt) (fv 3) fe_int (nomark _)) (fe_one (fe_chain (od_lt) (od_lt) fe_int (fv 4) (fe_op (od_sub) (fe_op (od_mul) (fv 2) (fv 3)) fe_int))))))))))
  · match ds, len _ _ _ _ h with
    | [d0], _ => exact hb d0 M Q E h
/-! _law_draws -/
def g__law_draws (K : PySem.W.Frag) : DS :=
  (sSeq (sSet 1 (gCel (nLst aNil)))
    (sSeq (sFor (iRange1 (aCons (gCB dMin (aCons (gCB dLen (aCons (gVar 0) aNil)) (aCons (gC (.int 63)) aNil))) aNil)) (dName 2) (sSeq (sSet 3 (gCB dInt (aCons (gOp dIx (gVar 0) (gVar 2)) aNil)))
    (sSeq (sIf (gTest (gOp dLt (gVar 3) (gC (.int 0)))) (sSet 3 (gOp dSub (gC (.int 5)) (gVar 3))) sNext)
    (sIf (gTest (gOp dGe (gVar 3) (gOp dPow (gC (.int 10)) (gC (.int 18))))) (sFor (iRange1 (aCons (gC (.int 48)) aNil)) (dName 4) (sIf (gTest (gOp dGt (gVar 3) (gC (.int 0)))) (sSeq (sDrop (gMt dAppend (gVar 1) (aCons (gOp dMod (gCB dInt (aCons (gVar 3) aNil)) (gC (.int 30))) aNil)))
    (sSet 3 (gOp dFdiv (gVar 3) (gC (.int 30))))) sNext)) (sSeq (sSet 5 (gOp dMod (gCB dInt (aCons (gOp dAdd (gOp dAdd (gOp dMul (gVar 3) (gC (.int 62089911))) (gOp dMul (gVar 2) (gC (.int 104729)))) (gC (.int 17))) aNil)) (gC (.int 2147483629))))
    (sFor (iRange1 (aCons (gC (.int 6)) aNil)) (dName 4) (sSeq (sSet 5 (gOp dMod (gCB dInt (aCons (gOp dAdd (gOp dAdd (gOp dAdd (gOp dMul (gVar 5) (gVar 5)) (gOp dMul (gVar 4) (gC (.int 7919)))) (gOp dMul (gVar 2) (gC (.int 31)))) (gC (.int 3))) aNil)) (gC (.int 2147483587))))
    (sDrop (gMt dAppend (gVar 1) (aCons (gVar 5) aNil))))))))))
    (sSeq (sDrop (gMt0 dReverse (gVar 1)))
    (sRet (gVar 1)))))
theorem sc__law_draws : FnScope ["_law_script", "_law_drawn", "_law_at", "_law_cell", "_law_turn", "_law_state"] ["_law_script"] (defScope s__law_draws) := ⟨rfl, rfl, rfl, by decide +kernel, rfl, by decide +kernel, by decide +kernel⟩
theorem w__law_draws (T : Tx K mg)  (len : ∀ ds M Q E, sp__law_draws K ds M Q E → ds.length = 1)
    (hb : ∀ d0 M Q E, sp__law_draws K [d0] M Q E → g__law_draws K { nx := fun _ M => Q .non M, rt := Q, ex := fun x _ M => E x M } [some d0, none, none, none, none, none] M) : OkD P w K mg base 1 "_law_draws" ["_law_script"] (sp__law_draws K) := by
  obtain ⟨fd, F⟩ := T.F__law_draws
  refine ⟨fd, dl_def F sc__law_draws (by intro ds M Q E h; exact len ds M Q E h) (g__law_draws K) (by decide) (fun cdv A outer s H E hr => ?_) (fun ds M Q E h => ?_), F.binds fun _ _ _ _ _ _ us hl => match us, hl with | [_], _ => rfl, F.kp, T.g__law_draws, fun_lk F⟩
  · exact
   (fss_cons (fs_set 1 sc__law_draws.nd (FN.cel (fn_lst fa_nil)))
    (fss_cons (fs_for (passes_of rfl) rfl (fi_range1 (by rfl) T.n_range (fa_cons (fe_cb (cd_min rfl rfl (hu64 hr)) T.n_min bt_min (fa_cons (fe_cb (cd_len rfl) T.n_len bt_len (fa_cons (fv 0) fa_nil)) (fa_cons fe_int fa_nil))) fa_nil)) (fg_name (vs := [2]) 2 sc__law_draws.nd) (fss_cons (fs_set 3 sc__law_draws.nd (fe_ct (cd_int) T.n_int bt_int (fa_cons (fe_ix (xd_ix rfl) (fv 0) (fv 2) (fun _ _ => rfl)) fa_nil)))
    (fss_cons (fs_if (ft_cmp (od_lt) (fv 3) fe_int (nomark _)) (fss_one (fs_set 3 sc__law_draws.nd (fe_op (od_sub) fe_int (fv 3)))) fss_nil)
    (fss_one (fs_if (ft_cmp (od_ge) (fv 3) (fe_op (od_pow) fe_int fe_int) (nomark _)) (fss_one (fs_for (passes_of rfl) rfl (fi_range1 (by rfl) T.n_range (fa_cons fe_int fa_nil)) (fg_name (vs := [4]) 4 sc__law_draws.nd) (fss_one (fs_if (ft_cmp (od_gt) (fv 3) fe_int (nomark _)) (fss_cons (fs_expr (fe_mt rfl (PySem.F.slot_list_append) PySem.F.type_list_append md_append (fv 1) (fa_cons (fe_op (od_mod) (fe_ct (cd_int) T.n_int bt_int (fa_cons (fv 3) fa_nil)) fe_int) fa_nil)))
    (fss_one (fs_set 3 sc__law_draws.nd (fe_op (od_fdiv) (fv 3) fe_int)))) fss_nil)))) (fss_cons (fs_set 5 sc__law_draws.nd (fe_op (od_mod) (fe_ct (cd_int) T.n_int bt_int (fa_cons (fe_op (od_add rfl) (fe_op (od_add rfl) (fe_op (od_mul) (fv 3) fe_int) (fe_op (od_mul) (fv 2) fe_int)) fe_int) fa_nil)) fe_int))
    (fss_one (fs_for (passes_of rfl) rfl (fi_range1 (by rfl) T.n_range (fa_cons fe_int fa_nil)) (fg_name (vs := [4]) 4 sc__law_draws.nd) (fss_cons (fs_set 5 sc__law_draws.nd (fe_op (od_mod) (fe_ct (cd_int) T.n_int bt_int (fa_cons (fe_op (od_add rfl) (fe_op (od_add rfl) (fe_op (od_add rfl) (fe_op (od_mul) (fv 5) (fv 5)) (fe_op (od_mul) (fv 4) fe_int)) (fe_op (od_mul) (fv 2) fe_int)) fe_int) fa_nil)) fe_int))
    (fss_one (fs_expr (fe_mt rfl (PySem.F.slot_list_append) PySem.F.type_list_append md_append (fv 1) (fa_cons (fv 5) fa_nil)))))))))))))
    (fss_cons (fs_expr (fe_mt0 rfl (PySem.F.slot_list_reverse) PySem.F.type_list_reverse md_reverse (fv 1)))
    (fss_one (fs_ret (fv 1))))))
  · match ds, len _ _ _ _ h with
    | [d0], _ => exact hb d0 M Q E h
/-! _law_take -/
def g__law_take (K : PySem.W.Frag) : DS :=
  (sSeq (sIf (gTest (gOp dEq (gCB dLen (aCons (gVar 0) aNil)) (gC (.int 0)))) (sRet (gC (.int 0))) sNext)
    (sRet (gOp dMod (gCB dInt (aCons (gMt0 dPop (gVar 0)) aNil)) (gVar 1))))
theorem sc__law_take : FnScope ["_law_drawn", "_law_many"] ["_law_drawn", "_law_many"] (defScope s__law_take) := ⟨rfl, rfl, rfl, by decide +kernel, rfl, by decide +kernel, by decide +kernel⟩
theorem w__law_take (T : Tx K mg)  (len : ∀ ds M Q E, sp__law_take K ds M Q E → ds.length = 2)
    (hb : ∀ d0 d1 M Q E, sp__law_take K [d0, d1] M Q E → g__law_take K { nx := fun _ M => Q .non M, rt := Q, ex := fun x _ M => E x M } [some d0, some d1] M) : OkD P w K mg base 1 "_law_take" ["_law_drawn", "_law_many"] (sp__law_take K) := by
  obtain ⟨fd, F⟩ := T.F__law_take
  refine ⟨fd, dl_def F sc__law_take (by intro ds M Q E h; exact len ds M Q E h) (g__law_take K) (by decide) (fun cdv A outer s H E hr => ?_) (fun ds M Q E h => ?_), F.binds fun _ _ _ _ _ _ us hl => match us, hl with | [_, _], _ => rfl, F.kp, T.g__law_take, fun_lk F⟩
  · exact
   (fss_cons (fs_if (ft_cmp (od_eq rfl (hu64 hr)) (fe_cb (cd_len rfl) T.n_len bt_len (fa_cons (fv 0) fa_nil)) fe_int (nomark _)) (fss_one (fs_ret fe_int)) fss_nil)
    (fss_one (fs_ret (fe_op (od_mod) (fe_ct (cd_int) T.n_int bt_int (fa_cons (fe_mt0 rfl (PySem.F.slot_list_pop) PySem.F.type_list_pop md_pop (fv 0)) fa_nil)) (fv 1)))))
  · match ds, len _ _ _ _ h with
    | [d0, d1], _ => exact hb d0 d1 M Q E h
/-! _law_int -/
def g__law_int (K : PySem.W.Frag) : DS :=
  (sRet (gAndV (gCB dIsi (aCons (gVar 0) (aCons (gC (.ty "int")) aNil))) (gNotV (gCB dIsi (aCons (gVar 0) (aCons (gC (.ty "bool")) aNil))))))
theorem sc__law_int : FnScope ["_law_value"] ["_law_value"] (defScope s__law_int) := ⟨rfl, rfl, rfl, by decide +kernel, rfl, by decide +kernel, by decide +kernel⟩
theorem w__law_int (T : Tx K mg)  (len : ∀ ds M Q E, sp__law_int K ds M Q E → ds.length = 1)
    (hb : ∀ d0 M Q E, sp__law_int K [d0] M Q E → g__law_int K { nx := fun _ M => Q .non M, rt := Q, ex := fun x _ M => E x M } [some d0] M) : OkD P w K mg base 1 "_law_int" ["_law_value"] (sp__law_int K) := by
  obtain ⟨fd, F⟩ := T.F__law_int
  refine ⟨fd, dl_def F sc__law_int (by intro ds M Q E h; exact len ds M Q E h) (g__law_int K) (by decide) (fun cdv A outer s H E hr => ?_) (fun ds M Q E h => ?_), F.binds fun _ _ _ _ _ _ us hl => match us, hl with | [_], _ => rfl, F.kp, T.g__law_int, fun_lk F⟩
  · exact
   (fss_one (fs_ret (fe_and (fe_cb (cd_isi rfl) T.n_isinstance bt_isinstance (fa_cons (fv 0) (fa_cons (fe_ty rfl T.n_int bt_int) fa_nil))) (fe_one (fe_not (fe_cb (cd_isi rfl) T.n_isinstance bt_isinstance (fa_cons (fv 0) (fa_cons (fe_ty rfl T.n_bool bt_bool) fa_nil))))))))
  · match ds, len _ _ _ _ h with
    | [d0], _ => exact hb d0 M Q E h
/-! _law_word -/
def g__law_word (K : PySem.W.Frag) : DS :=
  (sSeq (sSet 3 (gCel (nLc (iRange1 (aCons (gVar 1) aNil)) (dName 4) gYes (gVar 4) [4])))
    (sSeq (sFor (iRange1 (aCons (gCall (sp__law_take K) (aCons (gVar 0) (aCons (gVar 2) aNil))) aNil)) (dName 5) (sDrop (gMt dInsert (gVar 3) (aCons (gCall (sp__law_take K) (aCons (gVar 0) (aCons (gOp dAdd (gCB dLen (aCons (gVar 3) aNil)) (gC (.int 1))) aNil))) (aCons (gCall (sp__law_take K) (aCons (gVar 0) (aCons (gVar 1) aNil))) aNil)))))
    (sRetF (gVar 3))))
theorem sc__law_word : FnScope ["_law_drawn", "_law_many", "_law_most", "_law_word_here", "_law_number", "_law_turn"] ["_law_drawn", "_law_many", "_law_most"] (defScope s__law_word) := ⟨rfl, rfl, rfl, by decide +kernel, rfl, by decide +kernel, by decide +kernel⟩
theorem w__law_word (T : Tx K mg) (C__law_take : OkD P w K mg base 1 "_law_take" ["_law_drawn", "_law_many"] (sp__law_take K)) (len : ∀ ds M Q E, sp__law_word K ds M Q E → ds.length = 3)
    (hb : ∀ d0 d1 d2 M Q E, sp__law_word K [d0, d1, d2] M Q E → g__law_word K { nx := fun _ M => Q .non M, rt := Q, ex := fun x _ M => E x M } [some d0, some d1, some d2, none, none, none] M) : OkD P w K mg base 2 "_law_word" ["_law_drawn", "_law_many", "_law_most"] (sp__law_word K) := by
  obtain ⟨fd, F⟩ := T.F__law_word
  refine ⟨fd, dl_def F sc__law_word (by intro ds M Q E h; exact len ds M Q E h) (g__law_word K) (by decide) (fun cdv A outer s H E hr => ?_) (fun ds M Q E h => ?_), F.binds fun _ _ _ _ _ _ us hl => match us, hl with | [_, _, _], _ => rfl, F.kp, T.g__law_word, fun_lk F⟩
  · exact
   (fss_cons (fs_setLc (own := [("_law_number", 4)]) 3 sc__law_word.nd (fi_range1 (by rfl) T.n_range (fa_cons (fv 1) fa_nil)) (blkOk_by (by kernel_rfl)) (fun s H C cl fp => (fg_name (vs := [4]) 4 sc__law_word.nd)) (fun s H C cl fp => fts_nil) (fun s H C cl fp => (fv 4)) cel_im)
    (fss_cons (fs_for (passes_of rfl) rfl (fi_range1 (by rfl) T.n_range (fa_cons (fe_callO C__law_take (hr.mono (by decide)) (takes_of rfl rfl rfl rfl) (fa_cons (fv 0) (fa_cons (fv 2) fa_nil))) fa_nil)) (fg_name (vs := [5]) 5 sc__law_word.nd) (fss_one (fs_expr (fe_mt rfl (PySem.F.slot_list_insert) PySem.F.type_list_insert md_insert (fv 3) (fa_cons (fe_callO C__law_take (hr.mono (by decide)) (takes_of rfl rfl rfl rfl) (fa_cons (fv 0) (fa_cons (fe_op (od_add rfl) (fe_cb (cd_len rfl) T.n_len bt_len (fa_cons (fv 3) fa_nil)) fe_int) fa_nil))) (fa_cons (fe_callO C__law_take (hr.mono (by decide)) (takes_of rfl rfl rfl rfl) (fa_cons (fv 0) (fa_cons (fv 1) fa_nil))) fa_nil))))))
    (fss_one (fs_retF (fv 3)))))
  · match ds, len _ _ _ _ h with
    | [d0, d1, d2], _ => exact hb d0 d1 d2 M Q E h
/-! _law_mixed_word -/
def g__law_mixed_word (K : PySem.W.Frag) : DS :=
  (sSeq (sSet 2 (gCel (nCB nListOf (aCons (gVar 1) aNil))))
    (sSeq (sSet 3 (gCel (nLst aNil)))
    (sSeq (sFor (iRange1 (aCons (gCB dLen (aCons (gVar 1) aNil)) aNil)) (dName 4) (sDrop (gMt dAppend (gVar 3) (aCons (gMt dPop (gVar 2) (aCons (gCall (sp__law_take K) (aCons (gVar 0) (aCons (gCB dLen (aCons (gVar 2) aNil)) aNil))) aNil)) aNil))))
    (sRetF (gVar 3)))))
theorem sc__law_mixed_word : FnScope ["_law_drawn", "_law_word_here", "_law_left", "_law_made", "_law_turn"] ["_law_drawn", "_law_word_here"] (defScope s__law_mixed_word) := ⟨rfl, rfl, rfl, by decide +kernel, rfl, by decide +kernel, by decide +kernel⟩
theorem w__law_mixed_word (T : Tx K mg) (C__law_take : OkD P w K mg base 1 "_law_take" ["_law_drawn", "_law_many"] (sp__law_take K)) (len : ∀ ds M Q E, sp__law_mixed_word K ds M Q E → ds.length = 2)
    (hb : ∀ d0 d1 M Q E, sp__law_mixed_word K [d0, d1] M Q E → g__law_mixed_word K { nx := fun _ M => Q .non M, rt := Q, ex := fun x _ M => E x M } [some d0, some d1, none, none, none] M) : OkD P w K mg base 2 "_law_mixed_word" ["_law_drawn", "_law_word_here"] (sp__law_mixed_word K) := by
  obtain ⟨fd, F⟩ := T.F__law_mixed_word
  refine ⟨fd, dl_def F sc__law_mixed_word (by intro ds M Q E h; exact len ds M Q E h) (g__law_mixed_word K) (by decide) (fun cdv A outer s H E hr => ?_) (fun ds M Q E h => ?_), F.binds fun _ _ _ _ _ _ us hl => match us, hl with | [_, _], _ => rfl, F.kp, T.g__law_mixed_word, fun_lk F⟩
  · exact
   (fss_cons (fs_set 2 sc__law_mixed_word.nd (FN.cel (fn_ct (cn_list rfl) T.n_list bt_list (fa_cons (fv 1) fa_nil))))
    (fss_cons (fs_set 3 sc__law_mixed_word.nd (FN.cel (fn_lst fa_nil)))
    (fss_cons (fs_for (passes_of rfl) rfl (fi_range1 (by rfl) T.n_range (fa_cons (fe_cb (cd_len rfl) T.n_len bt_len (fa_cons (fv 1) fa_nil)) fa_nil)) (fg_name (vs := [4]) 4 sc__law_mixed_word.nd) (fss_one (fs_expr (fe_mt rfl (PySem.F.slot_list_append) PySem.F.type_list_append md_append (fv 3) (fa_cons (fe_mt rfl (PySem.F.slot_list_pop) PySem.F.type_list_pop md_pop (fv 2) (fa_cons (fe_callO C__law_take (hr.mono (by decide)) (takes_of rfl rfl rfl rfl) (fa_cons (fv 0) (fa_cons (fe_cb (cd_len rfl) T.n_len bt_len (fa_cons (fv 2) fa_nil)) fa_nil))) fa_nil)) fa_nil)))))
    (fss_one (fs_retF (fv 3))))))
  · match ds, len _ _ _ _ h with
    | [d0, d1], _ => exact hb d0 d1 M Q E h
/-! _law_grid -/
def g__law_grid (K : PySem.W.Frag) : DS :=
  (sSeq (sSet 1 (gCel (nLst aNil)))
    (sSeq (sFor (iRange1 (aCons (gCB dLen (aCons (gVar 0) aNil)) aNil)) (dName 2) (sIf (gTest (gOp dEq (gOp dIx (gVar 0) (gVar 2)) (gC (.int 0)))) (sDrop (gMt dAppend (gVar 1) (aCons (gFrz (nLc (iRange1 (aCons (gCB dLen (aCons (gVar 0) aNil)) aNil)) (dName 3) (gTest (gOp dEq (gOp dIx (gVar 0) (gVar 3)) (gC (.int 1)))) (gOp dLt (gVar 2) (gVar 3)) [3])) aNil))) sNext))
    (sRetF (gVar 1))))
theorem sc__law_grid : FnScope ["_law_word_here", "_law_rows", "_law_at", "_law_place"] ["_law_word_here"] (defScope s__law_grid) := ⟨rfl, rfl, rfl, by decide +kernel, rfl, by decide +kernel, by decide +kernel⟩
theorem w__law_grid (T : Tx K mg)  (len : ∀ ds M Q E, sp__law_grid K ds M Q E → ds.length = 1)
    (hb : ∀ d0 M Q E, sp__law_grid K [d0] M Q E → g__law_grid K { nx := fun _ M => Q .non M, rt := Q, ex := fun x _ M => E x M } [some d0, none, none, none] M) : OkD P w K mg base 1 "_law_grid" ["_law_word_here"] (sp__law_grid K) := by
  obtain ⟨fd, F⟩ := T.F__law_grid
  refine ⟨fd, dl_def F sc__law_grid (by intro ds M Q E h; exact len ds M Q E h) (g__law_grid K) (by decide) (fun cdv A outer s H E hr => ?_) (fun ds M Q E h => ?_), F.binds fun _ _ _ _ _ _ us hl => match us, hl with | [_], _ => rfl, F.kp, T.g__law_grid, fun_lk F⟩
  · exact
   (fss_cons (fs_set 1 sc__law_grid.nd (FN.cel (fn_lst fa_nil)))
    (fss_cons (fs_for (passes_of rfl) rfl (fi_range1 (by rfl) T.n_range (fa_cons (fe_cb (cd_len rfl) T.n_len bt_len (fa_cons (fv 0) fa_nil)) fa_nil)) (fg_name (vs := [2]) 2 sc__law_grid.nd) (fss_one (fs_if (ft_cmp (od_eq rfl (hu64 hr)) (fe_ix (xd_ix rfl) (fv 0) (fv 2) (fun _ _ => rfl)) fe_int (nomark _)) (fss_one (fs_expr (fe_mt rfl (PySem.F.slot_list_append) PySem.F.type_list_append md_append (fv 1) (fa_cons (FN.frz (fn_lc (own := [("_law_place", 3)]) sc__law_grid.nd (fi_range1 (by rfl) T.n_range (fa_cons (fe_cb (cd_len rfl) T.n_len bt_len (fa_cons (fv 0) fa_nil)) fa_nil)) (blkOk_by (by kernel_rfl)) (fun s H C cl fp => (fg_name (vs := [3]) 3 sc__law_grid.nd)) (fun s H C cl fp => (fts_one (ft_cmp (od_eq rfl (hu64 hr)) (fe_ix (xd_ix rfl) (fv 0) (fv 3) (fun _ _ => rfl)) fe_int (nomark _)))) (fun s H C cl fp => (fe_cmp (od_lt) (fv 2) (fv 3) (nomark _))))) fa_nil)))) fss_nil)))
    (fss_one (fs_retF (fv 1)))))
  · match ds, len _ _ _ _ h with
    | [d0], _ => exact hb d0 M Q E h
/-! _law_sides -/
def g__law_sides (K : PySem.W.Frag) : DS :=
  (sSeq (sSet 2 (gCall (sp__law_grid K) (aCons (gVar 0) aNil)))
    (sSeq (sSet 3 (gCall (sp__law_grid K) (aCons (gVar 1) aNil)))
    (sSeq (sSet 4 (gC (.int 0)))
    (sSeq (sSet 5 (gC (.int 0)))
    (sSeq (sFor (iRange1 (aCons (gCB dLen (aCons (gVar 2) aNil)) aNil)) (dName 6) (sFor (iRange1 (aCons (gCB dLen (aCons (gOp dIx (gVar 2) (gVar 6)) aNil)) aNil)) (dName 7) (sSeq (sIf (gAnd (gTest (gOp dIx (gOp dIx (gVar 2) (gVar 6)) (gVar 7))) (gNot (gTest (gOp dIx (gOp dIx (gVar 3) (gVar 6)) (gVar 7))))) (sAug 4 (gC (.int 1)) dAddI) sNext)
    (sIf (gAnd (gTest (gOp dIx (gOp dIx (gVar 3) (gVar 6)) (gVar 7))) (gNot (gTest (gOp dIx (gOp dIx (gVar 2) (gVar 6)) (gVar 7))))) (sAug 5 (gC (.int 1)) dAddI) sNext))))
    (sRet (gFrz (nLst (aCons (gVar 4) (aCons (gVar 5) aNil))))))))))
theorem sc__law_sides : FnScope ["_law_word_here", "_law_other", "_law_here", "_law_there", "_law_more", "_law_less", "_law_x", "_law_y"] ["_law_word_here", "_law_other"] (defScope s__law_sides) := ⟨rfl, rfl, rfl, by decide +kernel, rfl, by decide +kernel, by decide +kernel⟩
theorem w__law_sides (T : Tx K mg) (C__law_grid : OkD P w K mg base 1 "_law_grid" ["_law_word_here"] (sp__law_grid K)) (len : ∀ ds M Q E, sp__law_sides K ds M Q E → ds.length = 2)
    (hb : ∀ d0 d1 M Q E, sp__law_sides K [d0, d1] M Q E → g__law_sides K { nx := fun _ M => Q .non M, rt := Q, ex := fun x _ M => E x M } [some d0, some d1, none, none, none, none, none, none] M) : OkD P w K mg base 2 "_law_sides" ["_law_word_here", "_law_other"] (sp__law_sides K) := by
  obtain ⟨fd, F⟩ := T.F__law_sides
  refine ⟨fd, dl_def F sc__law_sides (by intro ds M Q E h; exact len ds M Q E h) (g__law_sides K) (by decide) (fun cdv A outer s H E hr => ?_) (fun ds M Q E h => ?_), F.binds fun _ _ _ _ _ _ us hl => match us, hl with | [_, _], _ => rfl, F.kp, T.g__law_sides, fun_lk F⟩
  · exact
   (fss_cons (fs_set 2 sc__law_sides.nd (fe_callO C__law_grid (hr.mono (by decide)) (takes_of rfl rfl rfl rfl) (fa_cons (fv 0) fa_nil)))
    (fss_cons (fs_set 3 sc__law_sides.nd (fe_callO C__law_grid (hr.mono (by decide)) (takes_of rfl rfl rfl rfl) (fa_cons (fv 1) fa_nil)))
    (fss_cons (fs_set 4 sc__law_sides.nd fe_int)
    (fss_cons (fs_set 5 sc__law_sides.nd fe_int)
    (fss_cons (fs_for (passes_of rfl) rfl (fi_range1 (by rfl) T.n_range (fa_cons (fe_cb (cd_len rfl) T.n_len bt_len (fa_cons (fv 2) fa_nil)) fa_nil)) (fg_name (vs := [6]) 6 sc__law_sides.nd) (fss_one (fs_for (passes_of rfl) rfl (fi_range1 (by rfl) T.n_range (fa_cons (fe_cb (cd_len rfl) T.n_len bt_len (fa_cons (fe_ix (xd_ix rfl) (fv 2) (fv 6) (fun _ _ => rfl)) fa_nil)) fa_nil)) (fg_name (vs := [7]) 7 sc__law_sides.nd) (fss_cons (fs_if (FW.ft (fw_and (ft_val (fe_ix (xd_ix rfl) (fe_ix (xd_ix rfl) (fv 2) (fv 6) (fun _ _ => rfl)) (fv 7) (fun _ _ => rfl))) (fw_and1 (ft_not (ft_val (fe_ix (xd_ix rfl) (fe_ix (xd_ix rfl) (fv 3) (fv 6) (fun _ _ => rfl)) (fv 7) (fun _ _ => rfl))))))) (fss_one (fs_aug 4 sc__law_sides.nd id_add fe_int)) fss_nil)
    (fss_one (fs_if (FW.ft (fw_and (ft_val (fe_ix (xd_ix rfl) (fe_ix (xd_ix rfl) (fv 3) (fv 6) (fun _ _ => rfl)) (fv 7) (fun _ _ => rfl))) (fw_and1 (ft_not (ft_val (fe_ix (xd_ix rfl) (fe_ix (xd_ix rfl) (fv 2) (fv 6) (fun _ _ => rfl)) (fv 7) (fun _ _ => rfl))))))) (fss_one (fs_aug 5 sc__law_sides.nd id_add fe_int)) fss_nil))))))
    (fss_one (fs_ret (FN.frz (fn_lst (fa_cons (fv 4) (fa_cons (fv 5) fa_nil)))))))))))
  · match ds, len _ _ _ _ h with
    | [d0, d1], _ => exact hb d0 d1 M Q E h
/-! _law_lone -/
def g__law_lone (K : PySem.W.Frag) : DS :=
  (sSeq (sSet 1 (gCall (sp__law_grid K) (aCons (gVar 0) aNil)))
    (sSeq (sSet 2 (gCB dLen (aCons (gVar 1) aNil)))
    (sSeq (sSet 3 (gCB dLen (aCons (gOp dIx (gVar 1) (gC (.int 0))) aNil)))
    (sSeq (sSet 4 (gCB dSum (aCons (gFrz (nLc (iSeqD (gVar 1)) (dName 6) gYes (gCB dLen (aCons (gFrz (nLc (iSeqD (gVar 6)) (dName 5) (gTest (gVar 5)) (gVar 5) [5])) aNil)) [6])) aNil)))
    (sRet (gOrV (gOp dEq (gVar 2) (gC (.int 1))) (gOrV (gOp dEq (gVar 3) (gC (.int 1))) (gOrV (gOp dLt (gVar 4) (gC (.int 2))) (gOp dGt (gVar 4) (gOp dSub (gOp dMul (gVar 2) (gVar 3)) (gC (.int 2))))))))))))
theorem sc__law_lone : FnScope ["_law_word_here", "_law_grid_here", "_law_zeros", "_law_ones", "_law_ahead", "_law_flag", "_law_row"] ["_law_word_here"] (defScope s__law_lone) := ⟨rfl, rfl, rfl, by decide +kernel, rfl, by decide +kernel, by decide +kernel⟩
theorem w__law_lone (T : Tx K mg) (C__law_grid : OkD P w K mg base 1 "_law_grid" ["_law_word_here"] (sp__law_grid K)) (len : ∀ ds M Q E, sp__law_lone K ds M Q E → ds.length = 1)
    (hb : ∀ d0 M Q E, sp__law_lone K [d0] M Q E → g__law_lone K { nx := fun _ M => Q .non M, rt := Q, ex := fun x _ M => E x M } [some d0, none, none, none, none, none, none] M) : OkD P w K mg base 2 "_law_lone" ["_law_word_here"] (sp__law_lone K) := by
  obtain ⟨fd, F⟩ := T.F__law_lone
  refine ⟨fd, dl_def F sc__law_lone (by intro ds M Q E h; exact len ds M Q E h) (g__law_lone K) (by decide) (fun cdv A outer s H E hr => ?_) (fun ds M Q E h => ?_), F.binds fun _ _ _ _ _ _ us hl => match us, hl with | [_], _ => rfl, F.kp, T.g__law_lone, fun_lk F⟩
  · exact
   (fss_cons (fs_set 1 sc__law_lone.nd (fe_callO C__law_grid (hr.mono (by decide)) (takes_of rfl rfl rfl rfl) (fa_cons (fv 0) fa_nil)))
    (fss_cons (fs_set 2 sc__law_lone.nd (fe_cb (cd_len rfl) T.n_len bt_len (fa_cons (fv 1) fa_nil)))
    (fss_cons (fs_set 3 sc__law_lone.nd (fe_cb (cd_len rfl) T.n_len bt_len (fa_cons (fe_ix (xd_ix rfl) (fv 1) fe_int (fun _ _ => rfl)) fa_nil)))
    (fss_cons (fs_set 4 sc__law_lone.nd (fe_cb (cd_sum rfl rfl) T.n_sum bt_sum (fa_cons (FN.frz (fn_lc (own := [("_law_row", 6)]) sc__law_lone.nd (fi_seq rfl (fv 1)) (blkOk_by (by kernel_rfl)) (fun s H C cl fp => (fg_name (vs := [6]) 6 sc__law_lone.nd)) (fun s H C cl fp => fts_nil) (fun s H C cl fp => (fe_cb (cd_len rfl) T.n_len bt_len (fa_cons (FN.frz (fn_lc (own := [("_law_flag", 5)]) sc__law_lone.nd (fi_seq rfl (fv 6)) (blkOk_by (by kernel_rfl)) (fun s H C cl fp => (fg_name (vs := [5]) 5 sc__law_lone.nd)) (fun s H C cl fp => (fts_one (ft_val (fv 5)))) (fun s H C cl fp => (fv 5)))) fa_nil))))) fa_nil)))
    (fss_one (fs_ret (fe_or (fe_cmp (od_eq rfl (hu64 hr)) (fv 2) fe_int (nomark _)) (fe_or (fe_cmp (od_eq rfl (hu64 hr)) (fv 3) fe_int (nomark _)) (fe_or (fe_cmp (od_lt) (fv 4) fe_int (nomark _)) (fe_one (fe_cmp (od_gt) (fv 4) (fe_op (od_sub) (fe_op (od_mul) (fv 2) (fv 3)) fe_int) (nomark _))))))))))))
  · match ds, len _ _ _ _ h with
    | [d0], _ => exact hb d0 M Q E h
/-! _law_moved -/
def g__law_moved (K : PySem.W.Frag) : DS :=
  (sSeq (sSet 2 (gFrz (nLc (iRange1 (aCons (gOp dSub (gCB dLen (aCons (gVar 1) aNil)) (gC (.int 1))) aNil)) (dName 3) (gAnd (gTest (gOp dEq (gOp dIx (gVar 1) (gVar 3)) (gC (.int 0)))) (gTest (gOp dEq (gOp dIx (gVar 1) (gOp dAdd (gVar 3) (gC (.int 1)))) (gC (.int 1))))) (gVar 3) [3])))
    (sSeq (sIf (gTest (gOp dEq (gCB dLen (aCons (gVar 2) aNil)) (gC (.int 0)))) (sRetF (gFrz (nCB nListOf (aCons (gVar 1) aNil)))) sNext)
    (sSeq (sSet 4 (gOp dIx (gVar 2) (gCall (sp__law_take K) (aCons (gVar 0) (aCons (gCB dLen (aCons (gVar 2) aNil)) aNil)))))
    (sSeq (sSet 5 (gCel (nCB nListOf (aCons (gVar 1) aNil))))
    (sSeq (sSetIx (gC (.int 1)) (gVar 5) (gVar 4))
    (sSeq (sSetIx (gC (.int 0)) (gVar 5) (gOp dAdd (gVar 4) (gC (.int 1))))
    (sSeq (sSet 2 (gFrz (nLc (iRange1 (aCons (gOp dSub (gCB dLen (aCons (gVar 5) aNil)) (gC (.int 1))) aNil)) (dName 3) (gAnd (gTest (gOp dNe (gVar 3) (gVar 4))) (gAnd (gTest (gOp dEq (gOp dIx (gVar 5) (gVar 3)) (gC (.int 1)))) (gTest (gOp dEq (gOp dIx (gVar 5) (gOp dAdd (gVar 3) (gC (.int 1)))) (gC (.int 0)))))) (gVar 3) [3])))
    (sSeq (sIf (gTest (gOp dEq (gCB dLen (aCons (gVar 2) aNil)) (gC (.int 0)))) (sRetF (gFrz (nCB nListOf (aCons (gVar 1) aNil)))) sNext)
    (sSeq (sSet 6 (gOp dIx (gVar 2) (gCall (sp__law_take K) (aCons (gVar 0) (aCons (gCB dLen (aCons (gVar 2) aNil)) aNil)))))
    (sSeq (sSetIx (gC (.int 0)) (gVar 5) (gVar 6))
    (sSeq (sSetIx (gC (.int 1)) (gVar 5) (gOp dAdd (gVar 6) (gC (.int 1))))
    (sRetF (gVar 5)))))))))))))
theorem sc__law_moved : FnScope ["_law_drawn", "_law_word_here", "_law_spots", "_law_at", "_law_first", "_law_row", "_law_second"] ["_law_drawn", "_law_word_here"] (defScope s__law_moved) := ⟨rfl, rfl, rfl, by decide +kernel, rfl, by decide +kernel, by decide +kernel⟩
theorem w__law_moved (T : Tx K mg) (C__law_take : OkD P w K mg base 1 "_law_take" ["_law_drawn", "_law_many"] (sp__law_take K)) (len : ∀ ds M Q E, sp__law_moved K ds M Q E → ds.length = 2)
    (hb : ∀ d0 d1 M Q E, sp__law_moved K [d0, d1] M Q E → g__law_moved K { nx := fun _ M => Q .non M, rt := Q, ex := fun x _ M => E x M } [some d0, some d1, none, none, none, none, none] M) : OkD P w K mg base 2 "_law_moved" ["_law_drawn", "_law_word_here"] (sp__law_moved K) := by
  obtain ⟨fd, F⟩ := T.F__law_moved
  refine ⟨fd, dl_def F sc__law_moved (by intro ds M Q E h; exact len ds M Q E h) (g__law_moved K) (by decide) (fun cdv A outer s H E hr => ?_) (fun ds M Q E h => ?_), F.binds fun _ _ _ _ _ _ us hl => match us, hl with | [_, _], _ => rfl, F.kp, T.g__law_moved, fun_lk F⟩
  · exact
   (fss_cons (fs_setLc (own := [("_law_at", 3)]) 2 sc__law_moved.nd (fi_range1 (by rfl) T.n_range (fa_cons (fe_op (od_sub) (fe_cb (cd_len rfl) T.n_len bt_len (fa_cons (fv 1) fa_nil)) fe_int) fa_nil)) (blkOk_by (by kernel_rfl)) (fun s H C cl fp => (fg_name (vs := [3]) 3 sc__law_moved.nd)) (fun s H C cl fp => (fts_one (FW.ft (fw_and (ft_cmp (od_eq rfl (hu64 hr)) (fe_ix (xd_ix rfl) (fv 1) (fv 3) (fun _ _ => rfl)) fe_int (nomark _)) (fw_and1 (ft_cmp (od_eq rfl (hu64 hr)) (fe_ix (xd_ix rfl) (fv 1) (fe_op (od_add rfl) (fv 3) fe_int) (fun _ _ => rfl)) fe_int (nomark _))))))) (fun s H C cl fp => (fv 3)) frz_im)
    (fss_cons (fs_if (ft_cmp (od_eq rfl (hu64 hr)) (fe_cb (cd_len rfl) T.n_len bt_len (fa_cons (fv 2) fa_nil)) fe_int (nomark _)) (fss_one (fs_retF (FN.frz (fn_ct (cn_list rfl) T.n_list bt_list (fa_cons (fv 1) fa_nil))))) fss_nil)
    (fss_cons (fs_set 4 sc__law_moved.nd (fe_ix (xd_ix rfl) (fv 2) (fe_callO C__law_take (hr.mono (by decide)) (takes_of rfl rfl rfl rfl) (fa_cons (fv 0) (fa_cons (fe_cb (cd_len rfl) T.n_len bt_len (fa_cons (fv 2) fa_nil)) fa_nil))) (fun _ _ => rfl)))
    (fss_cons (fs_set 5 sc__law_moved.nd (FN.cel (fn_ct (cn_list rfl) T.n_list bt_list (fa_cons (fv 1) fa_nil))))
    (fss_cons (fs_setIx fe_int (fv 5) (fv 4))
    (fss_cons (fs_setIx fe_int (fv 5) (fe_op (od_add rfl) (fv 4) fe_int))
    (fss_cons (fs_setLc (own := [("_law_at", 3)]) 2 sc__law_moved.nd (fi_range1 (by rfl) T.n_range (fa_cons (fe_op (od_sub) (fe_cb (cd_len rfl) T.n_len bt_len (fa_cons (fv 5) fa_nil)) fe_int) fa_nil)) (blkOk_by (by kernel_rfl)) (fun s H C cl fp => (fg_name (vs := [3]) 3 sc__law_moved.nd)) (fun s H C cl fp => (fts_one (FW.ft (fw_and (ft_cmp (od_ne rfl (hu64 hr)) (fv 3) (fv 4) (nomark _)) (fw_and (ft_cmp (od_eq rfl (hu64 hr)) (fe_ix (xd_ix rfl) (fv 5) (fv 3) (fun _ _ => rfl)) fe_int (nomark _)) (fw_and1 (ft_cmp (od_eq rfl (hu64 hr)) (fe_ix (xd_ix rfl) (fv 5) (fe_op (od_add rfl) (fv 3) fe_int) (fun _ _ => rfl)) fe_int (nomark _)))))))) (fun s H C cl fp => (fv 3)) frz_im)
    (fss_cons (fs_if (ft_cmp (od_eq rfl (hu64 hr)) (fe_cb (cd_len rfl) T.n_len bt_len (fa_cons (fv 2) fa_nil)) fe_int (nomark _)) (fss_one (fs_retF (FN.frz (fn_ct (cn_list rfl) T.n_list bt_list (fa_cons (fv 1) fa_nil))))) fss_nil)
    (fss_cons (fs_set 6 sc__law_moved.nd (fe_ix (xd_ix rfl) (fv 2) (fe_callO C__law_take (hr.mono (by decide)) (takes_of rfl rfl rfl rfl) (fa_cons (fv 0) (fa_cons (fe_cb (cd_len rfl) T.n_len bt_len (fa_cons (fv 2) fa_nil)) fa_nil))) (fun _ _ => rfl)))
    (fss_cons (fs_setIx fe_int (fv 5) (fv 6))
    (fss_cons (fs_setIx fe_int (fv 5) (fe_op (od_add rfl) (fv 6) fe_int))
    (fss_one (fs_retF (fv 5))))))))))))))
  · match ds, len _ _ _ _ h with
    | [d0, d1], _ => exact hb d0 d1 M Q E h
/-! _law_way_holds -/
def g__law_way_holds (K : PySem.W.Frag) : DS :=
  (sSeq (sSet 2 (gCall (sp__law_sides K) (aCons (gVar 0) (aCons (gVar 1) aNil))))
    (sSeq (sSet 3 (gCall (sp_paired_moves K) (aCons (gVar 0) (aCons (gVar 1) aNil))))
    (sSeq (sSet 4 (gCall (sp_paired_way K) (aCons (gVar 0) (aCons (gVar 1) aNil))))
    (sSeq (sIf (gTest (gOp dNe (gOp dIx (gVar 2) (gC (.int 0))) (gOp dIx (gVar 2) (gC (.int 1))))) (sRet (gAndV (gOp (dIsN fun b => b) (gVar 3) (gC .non)) (gAndV (gOp (dIsN fun b => b) (gVar 4) (gC .non)) (gOp dNe (gCall (sp_word_table K) (aCons (gVar 0) (aCons (gC (.int 2)) aNil))) (gCall (sp_word_table K) (aCons (gVar 1) (aCons (gC (.int 2)) aNil))))))) sNext)
    (sSeq (sIf (gOr (gNot (gTest (gCall (sp__law_int K) (aCons (gVar 3) aNil)))) (gOr (gTest (gOp dNe (gVar 3) (gOp dIx (gVar 2) (gC (.int 0))))) (gOr (gNot (gTest (gCB dIsi (aCons (gVar 4) (aCons (gC (.ty "list")) aNil))))) (gTest (gOp dNe (gCB dLen (aCons (gVar 4) aNil)) (gOp dAdd (gVar 3) (gC (.int 1)))))))) (sRet (gC (.bl false))) sNext)
    (sSeq (sIf (gOr (gTest (gOp dNe (gOp dIx (gVar 4) (gC (.int 0))) (gCB dTupleOf (aCons (gVar 0) aNil)))) (gTest (gOp dNe (gOp dIx (gVar 4) (gVar 3)) (gCB dTupleOf (aCons (gVar 1) aNil))))) (sRet (gC (.bl false))) sNext)
    (sSeq (sFor (iRange1 (aCons (gVar 3) aNil)) (dName 5) (sSeq (sSet 6 (gOp dIx (gVar 4) (gVar 5)))
    (sSeq (sSet 7 (gOp dIx (gVar 4) (gOp dAdd (gVar 5) (gC (.int 1)))))
    (sSeq (sIf (gOr (gNot (gTest (gCB dIsi (aCons (gVar 7) (aCons (gC (.ty "tuple")) aNil))))) (gOr (gTest (gOp dNe (gCB dLen (aCons (gVar 7) aNil)) (gCB dLen (aCons (gVar 0) aNil)))) (gTest (gOp dNe (gFrz (nCB nSortOf (aCons (gVar 7) aNil))) (gFrz (nCB nSortOf (aCons (gVar 0) aNil))))))) (sRet (gC (.bl false))) sNext)
    (sSeq (sIf (gOr (gTest (gOp dNe (gCall (sp__law_sides K) (aCons (gVar 6) (aCons (gVar 7) aNil))) (gFrz (nLst (aCons (gC (.int 1)) (aCons (gC (.int 1)) aNil)))))) (gTest (gOp dNe (gCall (sp__law_sides K) (aCons (gVar 7) (aCons (gVar 1) aNil))) (gFrz (nLst (aCons (gOp dSub (gOp dSub (gVar 3) (gVar 5)) (gC (.int 1))) (aCons (gOp dSub (gOp dSub (gVar 3) (gVar 5)) (gC (.int 1))) aNil))))))) (sRet (gC (.bl false))) sNext)
    (sIf (gAnd (gTest (gOp dLt (gVar 5) (gC (.int 6)))) (gOr (gTest (gOp (dIsB fun b => !b) (gCall (sp_same_lead K) (aCons (gVar 6) aNil)) (gC (.bl true)))) (gTest (gOp dNe (gCall (sp_word_table K) (aCons (gVar 7) (aCons (gC (.int 2)) aNil))) (gCall (sp_word_table K) (aCons (gVar 0) (aCons (gC (.int 2)) aNil))))))) (sRet (gC (.bl false))) sNext))))))
    (sSeq (sIf (gAnd (gTest (gOp dGt (gVar 3) (gC (.int 1)))) (gTest (gOp dNe (gCall (sp_paired_moves K) (aCons (gOp dIx (gVar 4) (gOp dFdiv (gVar 3) (gC (.int 2)))) (aCons (gOp dIx (gVar 4) (gC (.int 0))) aNil))) (gOp dFdiv (gVar 3) (gC (.int 2)))))) (sRet (gC (.bl false))) sNext)
    (sRet (gOp dEq (gCall (sp_paired_moves K) (aCons (gVar 1) (aCons (gVar 0) aNil))) (gVar 3)))))))))))
theorem sc__law_way_holds : FnScope ["_law_word_here", "_law_other", "_law_sides_here", "_law_moves", "_law_way", "_law_step", "_law_here", "_law_there"] ["_law_word_here", "_law_other"] (defScope s__law_way_holds) := ⟨rfl, rfl, rfl, by decide +kernel, rfl, by decide +kernel, by decide +kernel⟩
theorem w__law_way_holds (T : Tx K mg) (C__law_sides : OkD P w K mg base 2 "_law_sides" ["_law_word_here", "_law_other"] (sp__law_sides K)) (C_paired_moves : OkD P w K mg base 7 "paired_moves" ["word", "other"] (sp_paired_moves K)) (C_paired_way : OkD P w K mg base 7 "paired_way" ["word", "other"] (sp_paired_way K)) (C__law_int : OkD P w K mg base 1 "_law_int" ["_law_value"] (sp__law_int K)) (C_word_table : OkD P w K mg base 5 "word_table" ["word", "many"] (sp_word_table K)) (C_same_lead : OkD P w K mg base 6 "same_lead" ["word"] (sp_same_lead K)) (len : ∀ ds M Q E, sp__law_way_holds K ds M Q E → ds.length = 2)
    (hb : ∀ d0 d1 M Q E, sp__law_way_holds K [d0, d1] M Q E → g__law_way_holds K { nx := fun _ M => Q .non M, rt := Q, ex := fun x _ M => E x M } [some d0, some d1, none, none, none, none, none, none] M) : OkD P w K mg base 8 "_law_way_holds" ["_law_word_here", "_law_other"] (sp__law_way_holds K) := by
  obtain ⟨fd, F⟩ := T.F__law_way_holds
  refine ⟨fd, dl_def F sc__law_way_holds (by intro ds M Q E h; exact len ds M Q E h) (g__law_way_holds K) (by decide) (fun cdv A outer s H E hr => ?_) (fun ds M Q E h => ?_), F.binds fun _ _ _ _ _ _ us hl => match us, hl with | [_, _], _ => rfl, F.kp, T.g__law_way_holds, fun_lk F⟩
  · exact
   (fss_cons (fs_set 2 sc__law_way_holds.nd (fe_callO C__law_sides (hr.mono (by decide)) (takes_of rfl rfl rfl rfl) (fa_cons (fv 0) (fa_cons (fv 1) fa_nil))))
    (fss_cons (fs_set 3 sc__law_way_holds.nd (fe_callO C_paired_moves (hr.mono (by decide)) (takes_of rfl rfl rfl rfl) (fa_cons (fv 0) (fa_cons (fv 1) fa_nil))))
    (fss_cons (fs_set 4 sc__law_way_holds.nd (fe_callO C_paired_way (hr.mono (by decide)) (takes_of rfl rfl rfl rfl) (fa_cons (fv 0) (fa_cons (fv 1) fa_nil))))
    (fss_cons (fs_if (ft_cmp (od_ne rfl (hu64 hr)) (fe_ix (xd_ix rfl) (fv 2) fe_int (fun _ _ => rfl)) (fe_ix (xd_ix rfl) (fv 2) fe_int (fun _ _ => rfl)) (nomark _)) (fss_one (fs_ret (fe_and (fe_cmp (od_isN) (fv 3) fe_non (nomark _)) (fe_and (fe_cmp (od_isN) (fv 4) fe_non (nomark _)) (fe_one (fe_cmp (od_ne rfl (hu64 hr)) (fe_callO C_word_table (hr.mono (by decide)) (takes_of rfl rfl rfl rfl) (fa_cons (fv 0) (fa_cons fe_int fa_nil))) (fe_callO C_word_table (hr.mono (by decide)) (takes_of rfl rfl rfl rfl) (fa_cons (fv 1) (fa_cons fe_int fa_nil))) (nomark _))))))) fss_nil)
    (fss_cons (fs_if (FW.ft (fw_or (ft_not (ft_val (fe_callO C__law_int (hr.mono (by decide)) (takes_of rfl rfl rfl rfl) (fa_cons (fv 3) fa_nil)))) (fw_or (ft_cmp (od_ne rfl (hu64 hr)) (fv 3) (fe_ix (xd_ix rfl) (fv 2) fe_int (fun _ _ => rfl)) (nomark _)) (fw_or (ft_not (ft_val (fe_cb (cd_isi rfl) T.n_isinstance bt_isinstance (fa_cons (fv 4) (fa_cons (fe_ty rfl T.n_list bt_list) fa_nil))))) (fw_or1 (ft_cmp (od_ne rfl (hu64 hr)) (fe_cb (cd_len rfl) T.n_len bt_len (fa_cons (fv 4) fa_nil)) (fe_op (od_add rfl) (fv 3) fe_int) (nomark _))))))) (fss_one (fs_ret fe_bl)) fss_nil)
    (fss_cons (fs_if (FW.ft (fw_or (ft_cmp (od_ne rfl (hu64 hr)) (fe_ix (xd_ix rfl) (fv 4) fe_int (fun _ _ => rfl)) (fe_ct (cd_tuple rfl) T.n_tuple bt_tuple (fa_cons (fv 0) fa_nil)) (nomark _)) (fw_or1 (ft_cmp (od_ne rfl (hu64 hr)) (fe_ix (xd_ix rfl) (fv 4) (fv 3) (fun _ _ => rfl)) (fe_ct (cd_tuple rfl) T.n_tuple bt_tuple (fa_cons (fv 1) fa_nil)) (nomark _))))) (fss_one (fs_ret fe_bl)) fss_nil)
    (fss_cons (fs_for (passes_of rfl) rfl (fi_range1 (by rfl) T.n_range (fa_cons (fv 3) fa_nil)) (fg_name (vs := [5]) 5 sc__law_way_holds.nd) (fss_cons (fs_set 6 sc__law_way_holds.nd (fe_ix (xd_ix rfl) (fv 4) (fv 5) (fun _ _ => rfl)))
    (fss_cons (fs_set 7 sc__law_way_holds.nd (fe_ix (xd_ix rfl) (fv 4) (fe_op (od_add rfl) (fv 5) fe_int) (fun _ _ => rfl)))
    (fss_cons (fs_if (FW.ft (fw_or (ft_not (ft_val (fe_cb (cd_isi rfl) T.n_isinstance bt_isinstance (fa_cons (fv 7) (fa_cons (fe_ty rfl T.n_tuple bt_tuple) fa_nil))))) (fw_or (ft_cmp (od_ne rfl (hu64 hr)) (fe_cb (cd_len rfl) T.n_len bt_len (fa_cons (fv 7) fa_nil)) (fe_cb (cd_len rfl) T.n_len bt_len (fa_cons (fv 0) fa_nil)) (nomark _)) (fw_or1 (ft_cmp (od_ne rfl (hu64 hr)) (FN.frz (fn_cb (cn_sorted rfl) T.n_sorted bt_sorted (fa_cons (fv 7) fa_nil))) (FN.frz (fn_cb (cn_sorted rfl) T.n_sorted bt_sorted (fa_cons (fv 0) fa_nil))) (nomark _)))))) (fss_one (fs_ret fe_bl)) fss_nil)
    (fss_cons (fs_if (FW.ft (fw_or (ft_cmp (od_ne rfl (hu64 hr)) (fe_callO C__law_sides (hr.mono (by decide)) (takes_of rfl rfl rfl rfl) (fa_cons (fv 6) (fa_cons (fv 7) fa_nil))) (FN.frz (fn_lst (fa_cons fe_int (fa_cons fe_int fa_nil)))) (nomark _)) (fw_or1 (ft_cmp (od_ne rfl (hu64 hr)) (fe_callO C__law_sides (hr.mono (by decide)) (takes_of rfl rfl rfl rfl) (fa_cons (fv 7) (fa_cons (fv 1) fa_nil))) (FN.frz (fn_lst (fa_cons (fe_op (od_sub) (fe_op (od_sub) (fv 3) (fv 5)) fe_int) (fa_cons (fe_op (od_sub) (fe_op (od_sub) (fv 3) (fv 5)) fe_int) fa_nil)))) (nomark _))))) (fss_one (fs_ret fe_bl)) fss_nil)
    (fss_one (fs_if (FW.ft (fw_and (ft_cmp (od_lt) (fv 5) fe_int (nomark _)) (fw_and1 (FW.ft (fw_or (ft_cmp (od_notB) (fe_callO C_same_lead (hr.mono (by decide)) (takes_of rfl rfl rfl rfl) (fa_cons (fv 6) fa_nil)) fe_bl (nomark _)) (fw_or1 (ft_cmp (od_ne rfl (hu64 hr)) (fe_callO C_word_table (hr.mono (by decide)) (takes_of rfl rfl rfl rfl) (fa_cons (fv 7) (fa_cons fe_int fa_nil))) (fe_callO C_word_table (hr.mono (by decide)) (takes_of rfl rfl rfl rfl) (fa_cons (fv 0) (fa_cons fe_int fa_nil))) (nomark _)))))))) (fss_one (fs_ret fe_bl)) fss_nil)))))))
    (fss_cons (fs_if (FW.ft (fw_and (ft_cmp (od_gt) (fv 3) fe_int (nomark _)) (fw_and1 (ft_cmp (od_ne rfl (hu64 hr)) (fe_callO C_paired_moves (hr.mono (by decide)) (takes_of rfl rfl rfl rfl) (fa_cons (fe_ix (xd_ix rfl) (fv 4) (fe_op (od_fdiv) (fv 3) fe_int) (fun _ _ => rfl)) (fa_cons (fe_ix (xd_ix rfl) (fv 4) fe_int (fun _ _ => rfl)) fa_nil))) (fe_op (od_fdiv) (fv 3) fe_int) (nomark _))))) (fss_one (fs_ret fe_bl)) fss_nil)
    (fss_one (fs_ret (fe_cmp (od_eq rfl (hu64 hr)) (fe_callO C_paired_moves (hr.mono (by decide)) (takes_of rfl rfl rfl rfl) (fa_cons (fv 1) (fa_cons (fv 0) fa_nil))) (fv 3) (nomark _))))))))))))
  · match ds, len _ _ _ _ h with
    | [d0, d1], _ => exact hb d0 d1 M Q E h
/-! _law_same_holds -/
def g__law_same_holds (K : PySem.W.Frag) : DS :=
  (sSeq (sSet 1 (gCall (sp_same_lead K) (aCons (gVar 0) aNil)))
    (sRet (gAndV (gCB dIsi (aCons (gVar 1) (aCons (gC (.ty "bool")) aNil))) (gOp dEq (gVar 1) (gNotV (gCall (sp__law_lone K) (aCons (gVar 0) aNil)))))))
theorem sc__law_same_holds : FnScope ["_law_word_here", "_law_told_here"] ["_law_word_here"] (defScope s__law_same_holds) := ⟨rfl, rfl, rfl, by decide +kernel, rfl, by decide +kernel, by decide +kernel⟩
theorem w__law_same_holds (T : Tx K mg) (C_same_lead : OkD P w K mg base 6 "same_lead" ["word"] (sp_same_lead K)) (C__law_lone : OkD P w K mg base 2 "_law_lone" ["_law_word_here"] (sp__law_lone K)) (len : ∀ ds M Q E, sp__law_same_holds K ds M Q E → ds.length = 1)
    (hb : ∀ d0 M Q E, sp__law_same_holds K [d0] M Q E → g__law_same_holds K { nx := fun _ M => Q .non M, rt := Q, ex := fun x _ M => E x M } [some d0, none] M) : OkD P w K mg base 7 "_law_same_holds" ["_law_word_here"] (sp__law_same_holds K) := by
  obtain ⟨fd, F⟩ := T.F__law_same_holds
  refine ⟨fd, dl_def F sc__law_same_holds (by intro ds M Q E h; exact len ds M Q E h) (g__law_same_holds K) (by decide) (fun cdv A outer s H E hr => ?_) (fun ds M Q E h => ?_), F.binds fun _ _ _ _ _ _ us hl => match us, hl with | [_], _ => rfl, F.kp, T.g__law_same_holds, fun_lk F⟩
  · exact
   (fss_cons (fs_set 1 sc__law_same_holds.nd (fe_callO C_same_lead (hr.mono (by decide)) (takes_of rfl rfl rfl rfl) (fa_cons (fv 0) fa_nil)))
    (fss_one (fs_ret (fe_and (fe_cb (cd_isi rfl) T.n_isinstance bt_isinstance (fa_cons (fv 1) (fa_cons (fe_ty rfl T.n_bool bt_bool) fa_nil))) (fe_one (fe_cmp (od_eq rfl (hu64 hr)) (fv 1) (fe_not (fe_callO C__law_lone (hr.mono (by decide)) (takes_of rfl rfl rfl rfl) (fa_cons (fv 0) fa_nil))) (nomark _)))))))
  · match ds, len _ _ _ _ h with
    | [d0], _ => exact hb d0 M Q E h
/-! _law_edges_hold -/
def g__law_edges_hold (K : PySem.W.Frag) : DS :=
  (sSeq (sSet 1 (gOp dAdd (gC (.int 1)) (gCall (sp__law_take K) (aCons (gVar 0) (aCons (gC (.int 6)) aNil)))))
    (sSeq (sSet 2 (gOp dAdd (gC (.int 1)) (gCall (sp__law_take K) (aCons (gVar 0) (aCons (gC (.int 6)) aNil)))))
    (sSeq (sSet 3 (gCel (nOp nCat (gFrz (nLc (iRange1 (aCons (gVar 1) aNil)) (dName 4) gYes (gC (.int 0)) [4])) (gFrz (nLc (iRange1 (aCons (gVar 2) aNil)) (dName 4) gYes (gC (.int 1)) [4])))))
    (sSeq (sIf (gTest (gOp dEq (gCall (sp__law_take K) (aCons (gVar 0) (aCons (gC (.int 2)) aNil))) (gC (.int 1)))) (sDrop (gMt0 dReverse (gVar 3))) sNext)
    (sSeq (sIf (gTest (gOp dEq (gCall (sp__law_take K) (aCons (gVar 0) (aCons (gC (.int 2)) aNil))) (gC (.int 1)))) (sSeq (sSet 5 (gOp dIx (gFrz (nLc (iRange1 (aCons (gOp dSub (gCB dLen (aCons (gVar 3) aNil)) (gC (.int 1))) aNil)) (dName 6) (gTest (gOp dNe (gOp dIx (gVar 3) (gVar 6)) (gOp dIx (gVar 3) (gOp dAdd (gVar 6) (gC (.int 1)))))) (gVar 6) [6])) (gC (.int 0))))
    (sSet 3 (gCel (nOp nCat (gOp dAdd (gSl (gVar 3) oNone (oSome (gVar 5))) (gFrz (nLst (aCons (gOp dIx (gVar 3) (gOp dAdd (gVar 5) (gC (.int 1)))) (aCons (gOp dIx (gVar 3) (gVar 5)) aNil))))) (gSl (gVar 3) (oSome (gOp dAdd (gVar 5) (gC (.int 2)))) oNone))))) sNext)
    (sSeq (sIf (gOr (gTest (gOp (dIsB fun b => !b) (gCall (sp_same_lead K) (aCons (gVar 3) aNil)) (gC (.bl false)))) (gTest (gOp dNe (gCall (sp_paired_way K) (aCons (gVar 3) (aCons (gVar 3) aNil))) (gFrz (nLst (aCons (gCB dTupleOf (aCons (gVar 3) aNil)) aNil)))))) (sRetF (gC (.bl false))) sNext)
    (sSeq (sSet 7 (gCel (nCB nListOf (aCons (gVar 3) aNil))))
    (sSeq (sDrop (gMt0 dReverse (gVar 7)))
    (sSeq (sIf (gOr (gNot (gTest (gCall (sp__law_same_holds K) (aCons (gVar 7) aNil)))) (gNot (gTest (gCall (sp__law_way_holds K) (aCons (gVar 3) (aCons (gVar 7) aNil)))))) (sRetF (gC (.bl false))) sNext)
    (sRetF (gCall (sp__law_long_holds K) (aCons (gVar 0) aNil))))))))))))
theorem sc__law_edges_hold : FnScope ["_law_drawn", "_law_zeros", "_law_ones", "_law_word_here", "_law_turn", "_law_at", "_law_place", "_law_turned"] ["_law_drawn"] (defScope s__law_edges_hold) := ⟨rfl, rfl, rfl, by decide +kernel, rfl, by decide +kernel, by decide +kernel⟩
theorem w__law_edges_hold (T : Tx K mg) (C__law_long_holds : OkD P w K mg base 8 "_law_long_holds" ["_law_drawn"] (sp__law_long_holds K)) (C__law_take : OkD P w K mg base 1 "_law_take" ["_law_drawn", "_law_many"] (sp__law_take K)) (C_same_lead : OkD P w K mg base 6 "same_lead" ["word"] (sp_same_lead K)) (C_paired_way : OkD P w K mg base 7 "paired_way" ["word", "other"] (sp_paired_way K)) (C__law_same_holds : OkD P w K mg base 7 "_law_same_holds" ["_law_word_here"] (sp__law_same_holds K)) (C__law_way_holds : OkD P w K mg base 8 "_law_way_holds" ["_law_word_here", "_law_other"] (sp__law_way_holds K)) (len : ∀ ds M Q E, sp__law_edges_hold K ds M Q E → ds.length = 1)
    (hb : ∀ d0 M Q E, sp__law_edges_hold K [d0] M Q E → g__law_edges_hold K { nx := fun _ M => Q .non M, rt := Q, ex := fun x _ M => E x M } [some d0, none, none, none, none, none, none, none] M) : OkD P w K mg base 9 "_law_edges_hold" ["_law_drawn"] (sp__law_edges_hold K) := by
  obtain ⟨fd, F⟩ := T.F__law_edges_hold
  refine ⟨fd, dl_def F sc__law_edges_hold (by intro ds M Q E h; exact len ds M Q E h) (g__law_edges_hold K) (by decide) (fun cdv A outer s H E hr => ?_) (fun ds M Q E h => ?_), F.binds fun _ _ _ _ _ _ us hl => match us, hl with | [_], _ => rfl, F.kp, T.g__law_edges_hold, fun_lk F⟩
  · exact
   (fss_cons (fs_set 1 sc__law_edges_hold.nd (fe_op (od_add rfl) fe_int (fe_callO C__law_take (hr.mono (by decide)) (takes_of rfl rfl rfl rfl) (fa_cons (fv 0) (fa_cons fe_int fa_nil)))))
    (fss_cons (fs_set 2 sc__law_edges_hold.nd (fe_op (od_add rfl) fe_int (fe_callO C__law_take (hr.mono (by decide)) (takes_of rfl rfl rfl rfl) (fa_cons (fv 0) (fa_cons fe_int fa_nil)))))
    (fss_cons (fs_set 3 sc__law_edges_hold.nd (FN.cel (fn_op on_cat (FN.frz (fn_lc (own := [("_law_turn", 4)]) sc__law_edges_hold.nd (fi_range1 (by rfl) T.n_range (fa_cons (fv 1) fa_nil)) (blkOk_by (by kernel_rfl)) (fun s H C cl fp => (fg_name (vs := [4]) 4 sc__law_edges_hold.nd)) (fun s H C cl fp => fts_nil) (fun s H C cl fp => fe_int))) (FN.frz (fn_lc (own := [("_law_turn", 4)]) sc__law_edges_hold.nd (fi_range1 (by rfl) T.n_range (fa_cons (fv 2) fa_nil)) (blkOk_by (by kernel_rfl)) (fun s H C cl fp => (fg_name (vs := [4]) 4 sc__law_edges_hold.nd)) (fun s H C cl fp => fts_nil) (fun s H C cl fp => fe_int))))))
    (fss_cons (fs_if (ft_cmp (od_eq rfl (hu64 hr)) (fe_callO C__law_take (hr.mono (by decide)) (takes_of rfl rfl rfl rfl) (fa_cons (fv 0) (fa_cons fe_int fa_nil))) fe_int (nomark _)) (fss_one (fs_expr (fe_mt0 rfl (PySem.F.slot_list_reverse) PySem.F.type_list_reverse md_reverse (fv 3)))) fss_nil)
    (fss_cons (fs_if (ft_cmp (od_eq rfl (hu64 hr)) (fe_callO C__law_take (hr.mono (by decide)) (takes_of rfl rfl rfl rfl) (fa_cons (fv 0) (fa_cons fe_int fa_nil))) fe_int (nomark _)) (fss_cons (fs_set 5 sc__law_edges_hold.nd (fe_ix (xd_ix rfl) (FN.frz (fn_lc (own := [("_law_place", 6)]) sc__law_edges_hold.nd (fi_range1 (by rfl) T.n_range (fa_cons (fe_op (od_sub) (fe_cb (cd_len rfl) T.n_len bt_len (fa_cons (fv 3) fa_nil)) fe_int) fa_nil)) (blkOk_by (by kernel_rfl)) (fun s H C cl fp => (fg_name (vs := [6]) 6 sc__law_edges_hold.nd)) (fun s H C cl fp => (fts_one (ft_cmp (od_ne rfl (hu64 hr)) (fe_ix (xd_ix rfl) (fv 3) (fv 6) (fun _ _ => rfl)) (fe_ix (xd_ix rfl) (fv 3) (fe_op (od_add rfl) (fv 6) fe_int) (fun _ _ => rfl)) (nomark _)))) (fun s H C cl fp => (fv 6)))) fe_int (fun _ _ => rfl)))
    (fss_one (fs_set 3 sc__law_edges_hold.nd (FN.cel (fn_op on_cat (fe_op (od_add rfl) (fe_slice rfl (fv 3) fo_none (fo_some (fv 5))) (FN.frz (fn_lst (fa_cons (fe_ix (xd_ix rfl) (fv 3) (fe_op (od_add rfl) (fv 5) fe_int) (fun _ _ => rfl)) (fa_cons (fe_ix (xd_ix rfl) (fv 3) (fv 5) (fun _ _ => rfl)) fa_nil))))) (fe_slice rfl (fv 3) (fo_some (fe_op (od_add rfl) (fv 5) fe_int)) fo_none)))))) fss_nil)
    (fss_cons (fs_if (FW.ft (fw_or (ft_cmp (od_notB) (fe_callO C_same_lead (hr.mono (by decide)) (takes_of rfl rfl rfl rfl) (fa_cons (fv 3) fa_nil)) fe_bl (nomark _)) (fw_or1 (ft_cmp (od_ne rfl (hu64 hr)) (fe_callO C_paired_way (hr.mono (by decide)) (takes_of rfl rfl rfl rfl) (fa_cons (fv 3) (fa_cons (fv 3) fa_nil))) (FN.frz (fn_lst (fa_cons (fe_ct (cd_tuple rfl) T.n_tuple bt_tuple (fa_cons (fv 3) fa_nil)) fa_nil))) (nomark _))))) (fss_one (fs_retF fe_bl)) fss_nil)
    (fss_cons (fs_set 7 sc__law_edges_hold.nd (FN.cel (fn_ct (cn_list rfl) T.n_list bt_list (fa_cons (fv 3) fa_nil))))
    (fss_cons (fs_expr (fe_mt0 rfl (PySem.F.slot_list_reverse) PySem.F.type_list_reverse md_reverse (fv 7)))
    (fss_cons (fs_if (FW.ft (fw_or (ft_not (ft_val (fe_callO C__law_same_holds (hr.mono (by decide)) (takes_of rfl rfl rfl rfl) (fa_cons (fv 7) fa_nil)))) (fw_or1 (ft_not (ft_val (fe_callO C__law_way_holds (hr.mono (by decide)) (takes_of rfl rfl rfl rfl) (fa_cons (fv 3) (fa_cons (fv 7) fa_nil)))))))) (fss_one (fs_retF fe_bl)) fss_nil)
    (fss_one (fs_retF (fe_callO C__law_long_holds (hr.mono (by decide)) (takes_of rfl rfl rfl rfl) (fa_cons (fv 0) fa_nil)))))))))))))
  · match ds, len _ _ _ _ h with
    | [d0], _ => exact hb d0 M Q E h
/-! _law_long_holds -/
def g__law_long_holds (K : PySem.W.Frag) : DS :=
  (sSeq (sSet 1 (gOp dAdd (gC (.int 1)) (gCall (sp__law_take K) (aCons (gVar 0) (aCons (gC (.int 8)) aNil)))))
    (sSeq (sSet 2 (gOp dAdd (gC (.int 1)) (gCall (sp__law_take K) (aCons (gVar 0) (aCons (gC (.int 8)) aNil)))))
    (sSeq (sSet 3 (gOp dAdd (gOp dAdd (gFrz (nLc (iRange1 (aCons (gVar 1) aNil)) (dName 4) gYes (gC (.int 0)) [4])) (gFrz (nLc (iRange1 (aCons (gOp dMul (gC (.int 2)) (gVar 2)) aNil)) (dName 4) gYes (gC (.int 1)) [4]))) (gFrz (nLc (iRange1 (aCons (gVar 1) aNil)) (dName 4) gYes (gC (.int 0)) [4]))))
    (sSeq (sSet 5 (gOp dAdd (gOp dAdd (gFrz (nLc (iRange1 (aCons (gVar 2) aNil)) (dName 4) gYes (gC (.int 1)) [4])) (gFrz (nLc (iRange1 (aCons (gOp dMul (gC (.int 2)) (gVar 1)) aNil)) (dName 4) gYes (gC (.int 0)) [4]))) (gFrz (nLc (iRange1 (aCons (gVar 2) aNil)) (dName 4) gYes (gC (.int 1)) [4]))))
    (sSeq (sSet 6 (gOp dMul (gVar 1) (gVar 2)))
    (sSeq (sSet 7 (gCall (sp_paired_way K) (aCons (gVar 3) (aCons (gVar 5) aNil))))
    (sSeq (sIf (gOr (gNot (gTest (gCB dIsi (aCons (gVar 7) (aCons (gC (.ty "list")) aNil))))) (gTest (gOp dNe (gCB dLen (aCons (gVar 7) aNil)) (gOp dAdd (gVar 6) (gC (.int 1)))))) (sRet (gC (.bl false))) sNext)
    (sSeq (sIf (gOr (gTest (gOp dNe (gOp dIx (gVar 7) (gC (.int 0))) (gCB dTupleOf (aCons (gVar 3) aNil)))) (gOr (gTest (gOp dNe (gOp dIx (gVar 7) (gVar 6)) (gCB dTupleOf (aCons (gVar 5) aNil)))) (gTest (gOp dNe (gCall (sp_paired_moves K) (aCons (gVar 5) (aCons (gVar 3) aNil))) (gVar 6))))) (sRet (gC (.bl false))) sNext)
    (sSeq (sSet 8 (gCall (sp__law_take K) (aCons (gVar 0) (aCons (gVar 6) aNil))))
    (sSeq (sIf (gOr (gTest (gOp dNe (gCall (sp__law_sides K) (aCons (gOp dIx (gVar 7) (gVar 8)) (aCons (gOp dIx (gVar 7) (gOp dAdd (gVar 8) (gC (.int 1)))) aNil))) (gFrz (nLst (aCons (gC (.int 1)) (aCons (gC (.int 1)) aNil)))))) (gTest (gOp dNe (gCall (sp__law_sides K) (aCons (gOp dIx (gVar 7) (gVar 8)) (aCons (gVar 5) aNil))) (gFrz (nLst (aCons (gOp dSub (gVar 6) (gVar 8)) (aCons (gOp dSub (gVar 6) (gVar 8)) aNil))))))) (sRet (gC (.bl false))) sNext)
    (sRet (gAndV (gCall (sp__law_same_holds K) (aCons (gVar 3) aNil)) (gCall (sp__law_same_holds K) (aCons (gOp dIx (gVar 7) (gVar 8)) aNil))))))))))))))
theorem sc__law_long_holds : FnScope ["_law_drawn", "_law_size", "_law_half", "_law_middle", "_law_turn", "_law_outer", "_law_moves", "_law_way", "_law_step"] ["_law_drawn"] (defScope s__law_long_holds) := ⟨rfl, rfl, rfl, by decide +kernel, rfl, by decide +kernel, by decide +kernel⟩
theorem w__law_long_holds (T : Tx K mg) (C_paired_way : OkD P w K mg base 7 "paired_way" ["word", "other"] (sp_paired_way K)) (C__law_take : OkD P w K mg base 1 "_law_take" ["_law_drawn", "_law_many"] (sp__law_take K)) (C__law_same_holds : OkD P w K mg base 7 "_law_same_holds" ["_law_word_here"] (sp__law_same_holds K)) (C_paired_moves : OkD P w K mg base 7 "paired_moves" ["word", "other"] (sp_paired_moves K)) (C__law_sides : OkD P w K mg base 2 "_law_sides" ["_law_word_here", "_law_other"] (sp__law_sides K)) (len : ∀ ds M Q E, sp__law_long_holds K ds M Q E → ds.length = 1)
    (hb : ∀ d0 M Q E, sp__law_long_holds K [d0] M Q E → g__law_long_holds K { nx := fun _ M => Q .non M, rt := Q, ex := fun x _ M => E x M } [some d0, none, none, none, none, none, none, none, none] M) : OkD P w K mg base 8 "_law_long_holds" ["_law_drawn"] (sp__law_long_holds K) := by
  obtain ⟨fd, F⟩ := T.F__law_long_holds
  refine ⟨fd, dl_def F sc__law_long_holds (by intro ds M Q E h; exact len ds M Q E h) (g__law_long_holds K) (by decide) (fun cdv A outer s H E hr => ?_) (fun ds M Q E h => ?_), F.binds fun _ _ _ _ _ _ us hl => match us, hl with | [_], _ => rfl, F.kp, T.g__law_long_holds, fun_lk F⟩
  · exact
   (fss_cons (fs_set 1 sc__law_long_holds.nd (fe_op (od_add rfl) fe_int (fe_callO C__law_take (hr.mono (by decide)) (takes_of rfl rfl rfl rfl) (fa_cons (fv 0) (fa_cons fe_int fa_nil)))))
    (fss_cons (fs_set 2 sc__law_long_holds.nd (fe_op (od_add rfl) fe_int (fe_callO C__law_take (hr.mono (by decide)) (takes_of rfl rfl rfl rfl) (fa_cons (fv 0) (fa_cons fe_int fa_nil)))))
    (fss_cons (fs_set 3 sc__law_long_holds.nd (fe_op (od_add rfl) (fe_op (od_add rfl) (FN.frz (fn_lc (own := [("_law_turn", 4)]) sc__law_long_holds.nd (fi_range1 (by rfl) T.n_range (fa_cons (fv 1) fa_nil)) (blkOk_by (by kernel_rfl)) (fun s H C cl fp => (fg_name (vs := [4]) 4 sc__law_long_holds.nd)) (fun s H C cl fp => fts_nil) (fun s H C cl fp => fe_int))) (FN.frz (fn_lc (own := [("_law_turn", 4)]) sc__law_long_holds.nd (fi_range1 (by rfl) T.n_range (fa_cons (fe_op (od_mul) fe_int (fv 2)) fa_nil)) (blkOk_by (by kernel_rfl)) (fun s H C cl fp => (fg_name (vs := [4]) 4 sc__law_long_holds.nd)) (fun s H C cl fp => fts_nil) (fun s H C cl fp => fe_int)))) (FN.frz (fn_lc (own := [("_law_turn", 4)]) sc__law_long_holds.nd (fi_range1 (by rfl) T.n_range (fa_cons (fv 1) fa_nil)) (blkOk_by (by kernel_rfl)) (fun s H C cl fp => (fg_name (vs := [4]) 4 sc__law_long_holds.nd)) (fun s H C cl fp => fts_nil) (fun s H C cl fp => fe_int)))))
    (fss_cons (fs_set 5 sc__law_long_holds.nd (fe_op (od_add rfl) (fe_op (od_add rfl) (FN.frz (fn_lc (own := [("_law_turn", 4)]) sc__law_long_holds.nd (fi_range1 (by rfl) T.n_range (fa_cons (fv 2) fa_nil)) (blkOk_by (by kernel_rfl)) (fun s H C cl fp => (fg_name (vs := [4]) 4 sc__law_long_holds.nd)) (fun s H C cl fp => fts_nil) (fun s H C cl fp => fe_int))) (FN.frz (fn_lc (own := [("_law_turn", 4)]) sc__law_long_holds.nd (fi_range1 (by rfl) T.n_range (fa_cons (fe_op (od_mul) fe_int (fv 1)) fa_nil)) (blkOk_by (by kernel_rfl)) (fun s H C cl fp => (fg_name (vs := [4]) 4 sc__law_long_holds.nd)) (fun s H C cl fp => fts_nil) (fun s H C cl fp => fe_int)))) (FN.frz (fn_lc (own := [("_law_turn", 4)]) sc__law_long_holds.nd (fi_range1 (by rfl) T.n_range (fa_cons (fv 2) fa_nil)) (blkOk_by (by kernel_rfl)) (fun s H C cl fp => (fg_name (vs := [4]) 4 sc__law_long_holds.nd)) (fun s H C cl fp => fts_nil) (fun s H C cl fp => fe_int)))))
    (fss_cons (fs_set 6 sc__law_long_holds.nd (fe_op (od_mul) (fv 1) (fv 2)))
    (fss_cons (fs_set 7 sc__law_long_holds.nd (fe_callO C_paired_way (hr.mono (by decide)) (takes_of rfl rfl rfl rfl) (fa_cons (fv 3) (fa_cons (fv 5) fa_nil))))
    (fss_cons (fs_if (FW.ft (fw_or (ft_not (ft_val (fe_cb (cd_isi rfl) T.n_isinstance bt_isinstance (fa_cons (fv 7) (fa_cons (fe_ty rfl T.n_list bt_list) fa_nil))))) (fw_or1 (ft_cmp (od_ne rfl (hu64 hr)) (fe_cb (cd_len rfl) T.n_len bt_len (fa_cons (fv 7) fa_nil)) (fe_op (od_add rfl) (fv 6) fe_int) (nomark _))))) (fss_one (fs_ret fe_bl)) fss_nil)
    (fss_cons (fs_if (FW.ft (fw_or (ft_cmp (od_ne rfl (hu64 hr)) (fe_ix (xd_ix rfl) (fv 7) fe_int (fun _ _ => rfl)) (fe_ct (cd_tuple rfl) T.n_tuple bt_tuple (fa_cons (fv 3) fa_nil)) (nomark _)) (fw_or (ft_cmp (od_ne rfl (hu64 hr)) (fe_ix (xd_ix rfl) (fv 7) (fv 6) (fun _ _ => rfl)) (fe_ct (cd_tuple rfl) T.n_tuple bt_tuple (fa_cons (fv 5) fa_nil)) (nomark _)) (fw_or1 (ft_cmp (od_ne rfl (hu64 hr)) (fe_callO C_paired_moves (hr.mono (by decide)) (takes_of rfl rfl rfl rfl) (fa_cons (fv 5) (fa_cons (fv 3) fa_nil))) (fv 6) (nomark _)))))) (fss_one (fs_ret fe_bl)) fss_nil)
    (fss_cons (fs_set 8 sc__law_long_holds.nd (fe_callO C__law_take (hr.mono (by decide)) (takes_of rfl rfl rfl rfl) (fa_cons (fv 0) (fa_cons (fv 6) fa_nil))))
    (fss_cons (fs_if (FW.ft (fw_or (ft_cmp (od_ne rfl (hu64 hr)) (fe_callO C__law_sides (hr.mono (by decide)) (takes_of rfl rfl rfl rfl) (fa_cons (fe_ix (xd_ix rfl) (fv 7) (fv 8) (fun _ _ => rfl)) (fa_cons (fe_ix (xd_ix rfl) (fv 7) (fe_op (od_add rfl) (fv 8) fe_int) (fun _ _ => rfl)) fa_nil))) (FN.frz (fn_lst (fa_cons fe_int (fa_cons fe_int fa_nil)))) (nomark _)) (fw_or1 (ft_cmp (od_ne rfl (hu64 hr)) (fe_callO C__law_sides (hr.mono (by decide)) (takes_of rfl rfl rfl rfl) (fa_cons (fe_ix (xd_ix rfl) (fv 7) (fv 8) (fun _ _ => rfl)) (fa_cons (fv 5) fa_nil))) (FN.frz (fn_lst (fa_cons (fe_op (od_sub) (fv 6) (fv 8)) (fa_cons (fe_op (od_sub) (fv 6) (fv 8)) fa_nil)))) (nomark _))))) (fss_one (fs_ret fe_bl)) fss_nil)
    (fss_one (fs_ret (fe_and (fe_callO C__law_same_holds (hr.mono (by decide)) (takes_of rfl rfl rfl rfl) (fa_cons (fv 3) fa_nil)) (fe_one (fe_callO C__law_same_holds (hr.mono (by decide)) (takes_of rfl rfl rfl rfl) (fa_cons (fe_ix (xd_ix rfl) (fv 7) (fv 8) (fun _ _ => rfl)) fa_nil))))))))))))))))
  · match ds, len _ _ _ _ h with
    | [d0], _ => exact hb d0 M Q E h
/-! _law_told -/
def g__law_told (K : PySem.W.Frag) : DS :=
  (sSeq (sSet 3 (gFrz (nLst (aCons (gC (.str "none")) aNil))))
    (sSeq (sTry K (sSeq (sIf (gTest (gOp dEq (gVar 0) (gC (.int 0)))) (sDrop (gCall (sp_paired_moves K) (aCons (gVar 1) (aCons (gVar 2) aNil)))) sNext)
    (sSeq (sIf (gTest (gOp dEq (gVar 0) (gC (.int 1)))) (sDrop (gCall (sp_paired_way K) (aCons (gVar 1) (aCons (gVar 2) aNil)))) sNext)
    (sIf (gTest (gOp dEq (gVar 0) (gC (.int 2)))) (sDrop (gCall (sp_same_lead K) (aCons (gVar 1) aNil))) sNext))) [(Value.ref (He.ga K "BadWord"), some 4, fun a cls d fs => (sSet 3 (gFrz (nLst (aCons (gC (.str "word")) (aCons (gXf a cls d (He.ga K "BadWord") "place" (gVar 4)) aNil)))))), (Value.ref (He.ga K "OtherSize"), some 4, fun a cls d fs => (sSet 3 (gFrz (nLst (aCons (gC (.str "size")) (aCons (gXf a cls d (He.ga K "OtherSize") "first" (gVar 4)) (aCons (gXf a cls d (He.ga K "OtherSize") "second" (gVar 4)) aNil))))))), (Value.ref (He.ga K "DiceError"), none, fun a cls d fs => (sSet 3 (gFrz (nLst (aCons (gC (.str "other")) aNil)))))])
    (sRet (gVar 3))))
theorem sc__law_told : FnScope ["_law_word_here", "_law_one", "_law_other", "_law_told_here", "error"] ["_law_word_here", "_law_one", "_law_other"] (defScope s__law_told) := ⟨rfl, rfl, rfl, by decide +kernel, rfl, by decide +kernel, by decide +kernel⟩
theorem w__law_told (T : Tx K mg) (C_paired_moves : OkD P w K mg base 7 "paired_moves" ["word", "other"] (sp_paired_moves K)) (C_paired_way : OkD P w K mg base 7 "paired_way" ["word", "other"] (sp_paired_way K)) (C_same_lead : OkD P w K mg base 6 "same_lead" ["word"] (sp_same_lead K)) (len : ∀ ds M Q E, sp__law_told K ds M Q E → ds.length = 3)
    (hb : ∀ d0 d1 d2 M Q E, sp__law_told K [d0, d1, d2] M Q E → g__law_told K { nx := fun _ M => Q .non M, rt := Q, ex := fun x _ M => E x M } [some d0, some d1, some d2, none, none] M) : OkD P w K mg base 8 "_law_told" ["_law_word_here", "_law_one", "_law_other"] (sp__law_told K) := by
  obtain ⟨fd, F⟩ := T.F__law_told
  refine ⟨fd, dl_def F sc__law_told (by intro ds M Q E h; exact len ds M Q E h) (g__law_told K) (by decide) (fun cdv A outer s H E hr => ?_) (fun ds M Q E h => ?_), F.binds fun _ _ _ _ _ _ us hl => match us, hl with | [_, _, _], _ => rfl, F.kp, T.g__law_told, fun_lk F⟩
  · exact
   (fss_cons (fs_set 3 sc__law_told.nd (FN.frz (fn_lst (fa_cons fe_str fa_nil))))
    (fss_cons (fs_try sc__law_told.nd (takes_of rfl rfl rfl rfl) (fun W pn xe tk' po' => (fss_cons (fs_if (ft_cmp (od_eq rfl (hu64 hr)) (fv 0) fe_int (nomark _)) (fss_one (fs_expr (fe_callO C_paired_moves (hr.mono (by decide)) tk' (fa_cons (fv 1) (fa_cons (fv 2) fa_nil))))) fss_nil)
    (fss_cons (fs_if (ft_cmp (od_eq rfl (hu64 hr)) (fv 0) fe_int (nomark _)) (fss_one (fs_expr (fe_callO C_paired_way (hr.mono (by decide)) tk' (fa_cons (fv 1) (fa_cons (fv 2) fa_nil))))) fss_nil)
    (fss_one (fs_if (ft_cmp (od_eq rfl (hu64 hr)) (fv 0) fe_int (nomark _)) (fss_one (fs_expr (fe_callO C_same_lead (hr.mono (by decide)) tk' (fa_cons (fv 1) fa_nil)))) fss_nil)))))
      (.as 4 (names_g T.g_BadWord) rfl rfl (fun a oe cls d fs pn hz hf => (fss_one (fs_set 3 sc__law_told.nd (FN.frz (fn_lst (fa_cons fe_str (fa_cons (fe_xf rfl T.e_BadWord hz hf (by decide) (fv 4)) fa_nil)))))))
      (.as 4 (names_g T.g_OtherSize) rfl rfl (fun a oe cls d fs pn hz hf => (fss_one (fs_set 3 sc__law_told.nd (FN.frz (fn_lst (fa_cons fe_str (fa_cons (fe_xf rfl T.e_OtherSize hz hf (by decide) (fv 4)) (fa_cons (fe_xf rfl T.e_OtherSize hz hf (by decide) (fv 4)) fa_nil))))))))
      (.un (names_g T.g_DiceError) (fun a oe cls d fs pn hz hf => (fss_one (fs_set 3 sc__law_told.nd (FN.frz (fn_lst (fa_cons fe_str fa_nil))))))
      .nil))))
    (fss_one (fs_ret (fv 3)))))
  · match ds, len _ _ _ _ h with
    | [d0, d1, d2], _ => exact hb d0 d1 d2 M Q E h
/-! _law_refuses -/
def g__law_refuses (K : PySem.W.Frag) : DS :=
  (sSeq (sSet 2 (gCall (sp__law_take K) (aCons (gVar 0) (aCons (gOp dAdd (gCB dLen (aCons (gVar 1) aNil)) (gC (.int 1))) aNil))))
    (sSeq (sSet 3 (gOp dAdd (gOp dAdd (gSl (gVar 1) oNone (oSome (gVar 2))) (gFrz (nLst (aCons (gOp dIx (gFrz (nLst (aCons (gC (.int 2)) (aCons (gC .non) (aCons (gC (.bl true)) (aCons (gUn dNeg (gC (.int 1))) (aCons (gC (.str "1")) aNil))))))) (gCall (sp__law_take K) (aCons (gVar 0) (aCons (gC (.int 5)) aNil)))) aNil)))) (gSl (gVar 1) (oSome (gVar 2)) oNone)))
    (sSeq (sSet 4 (gOp dIx (gFrz (nLst (aCons (gC .non) (aCons (gC (.int 1)) (aCons (gC (.str "01")) aNil))))) (gCall (sp__law_take K) (aCons (gVar 0) (aCons (gC (.int 3)) aNil)))))
    (sSeq (sSet 5 (gOp dIx (gFrz (nLst (aCons (gFrz (nLst (aCons (gC (.int 0)) (aCons (gC (.int 0)) aNil)))) (aCons (gFrz (nLst (aCons (gC (.int 1)) aNil))) (aCons (gFrz (nLst aNil)) aNil))))) (gCall (sp__law_take K) (aCons (gVar 0) (aCons (gC (.int 3)) aNil)))))
    (sSeq (sFor (iRange1 (aCons (gC (.int 3)) aNil)) (dName 6) (sSeq (sIf (gOr (gTest (gOp dNe (gCall (sp__law_told K) (aCons (gVar 6) (aCons (gVar 3) (aCons (gVar 4) aNil)))) (gFrz (nLst (aCons (gC (.str "word")) (aCons (gVar 2) aNil)))))) (gTest (gOp dNe (gCall (sp__law_told K) (aCons (gVar 6) (aCons (gVar 4) (aCons (gVar 3) aNil)))) (gFrz (nLst (aCons (gC (.str "word")) (aCons (gUn dNeg (gC (.int 1))) aNil))))))) (sRet (gC (.bl false))) sNext)
    (sIf (gTest (gOp dNe (gCall (sp__law_told K) (aCons (gVar 6) (aCons (gVar 5) (aCons (gVar 3) aNil)))) (gFrz (nLst (aCons (gC (.str "word")) (aCons (gUn dNeg (gC (.int 2))) aNil)))))) (sRet (gC (.bl false))) sNext)))
    (sSeq (sFor (iRange1 (aCons (gC (.int 2)) aNil)) (dName 6) (sSeq (sIf (gOr (gTest (gOp dNe (gCall (sp__law_told K) (aCons (gVar 6) (aCons (gVar 1) (aCons (gVar 3) aNil)))) (gFrz (nLst (aCons (gC (.str "word")) (aCons (gVar 2) aNil)))))) (gTest (gOp dNe (gCall (sp__law_told K) (aCons (gVar 6) (aCons (gVar 1) (aCons (gVar 5) aNil)))) (gFrz (nLst (aCons (gC (.str "word")) (aCons (gUn dNeg (gC (.int 2))) aNil))))))) (sRet (gC (.bl false))) sNext)
    (sSeq (sIf (gTest (gOp dNe (gCall (sp__law_told K) (aCons (gVar 6) (aCons (gVar 1) (aCons (gOp dAdd (gVar 1) (gFrz (nLst (aCons (gC (.int 1)) aNil)))) aNil)))) (gFrz (nLst (aCons (gC (.str "size")) (aCons (gCB dLen (aCons (gVar 1) aNil)) (aCons (gOp dAdd (gCB dLen (aCons (gVar 1) aNil)) (gC (.int 1))) aNil))))))) (sRet (gC (.bl false))) sNext)
    (sIf (gTest (gOp dNe (gCall (sp__law_told K) (aCons (gVar 6) (aCons (gOp dAdd (gVar 1) (gFrz (nLst (aCons (gC (.int 0)) aNil)))) (aCons (gOp dAdd (gVar 1) (gFrz (nLst (aCons (gC (.int 1)) aNil)))) aNil)))) (gFrz (nLst (aCons (gC (.str "word")) (aCons (gUn dNeg (gC (.int 3))) aNil)))))) (sRet (gC (.bl false))) sNext))))
    (sRet (gC (.bl true)))))))))
theorem sc__law_refuses : FnScope ["_law_drawn", "_law_word_here", "_law_at", "_law_wrong", "_law_shape", "_law_lone_here", "_law_number"] ["_law_drawn", "_law_word_here"] (defScope s__law_refuses) := ⟨rfl, rfl, rfl, by decide +kernel, rfl, by decide +kernel, by decide +kernel⟩
theorem w__law_refuses (T : Tx K mg) (C__law_take : OkD P w K mg base 1 "_law_take" ["_law_drawn", "_law_many"] (sp__law_take K)) (C__law_told : OkD P w K mg base 8 "_law_told" ["_law_word_here", "_law_one", "_law_other"] (sp__law_told K)) (len : ∀ ds M Q E, sp__law_refuses K ds M Q E → ds.length = 2)
    (hb : ∀ d0 d1 M Q E, sp__law_refuses K [d0, d1] M Q E → g__law_refuses K { nx := fun _ M => Q .non M, rt := Q, ex := fun x _ M => E x M } [some d0, some d1, none, none, none, none, none] M) : OkD P w K mg base 9 "_law_refuses" ["_law_drawn", "_law_word_here"] (sp__law_refuses K) := by
  obtain ⟨fd, F⟩ := T.F__law_refuses
  refine ⟨fd, dl_def F sc__law_refuses (by intro ds M Q E h; exact len ds M Q E h) (g__law_refuses K) (by decide) (fun cdv A outer s H E hr => ?_) (fun ds M Q E h => ?_), F.binds fun _ _ _ _ _ _ us hl => match us, hl with | [_, _], _ => rfl, F.kp, T.g__law_refuses, fun_lk F⟩
  · exact
   (fss_cons (fs_set 2 sc__law_refuses.nd (fe_callO C__law_take (hr.mono (by decide)) (takes_of rfl rfl rfl rfl) (fa_cons (fv 0) (fa_cons (fe_op (od_add rfl) (fe_cb (cd_len rfl) T.n_len bt_len (fa_cons (fv 1) fa_nil)) fe_int) fa_nil))))
    (fss_cons (fs_set 3 sc__law_refuses.nd (fe_op (od_add rfl) (fe_op (od_add rfl) (fe_slice rfl (fv 1) fo_none (fo_some (fv 2))) (FN.frz (fn_lst (fa_cons (fe_ix (xd_ix rfl) (FN.frz (fn_lst (fa_cons fe_int (fa_cons fe_non (fa_cons fe_bl (fa_cons (fe_un ud_neg fe_int) (fa_cons fe_str fa_nil))))))) (fe_callO C__law_take (hr.mono (by decide)) (takes_of rfl rfl rfl rfl) (fa_cons (fv 0) (fa_cons fe_int fa_nil))) (fun _ _ => rfl)) fa_nil)))) (fe_slice rfl (fv 1) (fo_some (fv 2)) fo_none)))
    (fss_cons (fs_set 4 sc__law_refuses.nd (fe_ix (xd_ix rfl) (FN.frz (fn_lst (fa_cons fe_non (fa_cons fe_int (fa_cons fe_str fa_nil))))) (fe_callO C__law_take (hr.mono (by decide)) (takes_of rfl rfl rfl rfl) (fa_cons (fv 0) (fa_cons fe_int fa_nil))) (fun _ _ => rfl)))
    (fss_cons (fs_set 5 sc__law_refuses.nd (fe_ix (xd_ix rfl) (FN.frz (fn_lst (fa_cons (FN.frz (fn_lst (fa_cons fe_int (fa_cons fe_int fa_nil)))) (fa_cons (FN.frz (fn_lst (fa_cons fe_int fa_nil))) (fa_cons (FN.frz (fn_lst fa_nil)) fa_nil))))) (fe_callO C__law_take (hr.mono (by decide)) (takes_of rfl rfl rfl rfl) (fa_cons (fv 0) (fa_cons fe_int fa_nil))) (fun _ _ => rfl)))
    (fss_cons (fs_for (passes_of rfl) rfl (fi_range1 (by rfl) T.n_range (fa_cons fe_int fa_nil)) (fg_name (vs := [6]) 6 sc__law_refuses.nd) (fss_cons (fs_if (FW.ft (fw_or (ft_cmp (od_ne rfl (hu64 hr)) (fe_callO C__law_told (hr.mono (by decide)) (takes_of rfl rfl rfl rfl) (fa_cons (fv 6) (fa_cons (fv 3) (fa_cons (fv 4) fa_nil)))) (FN.frz (fn_lst (fa_cons fe_str (fa_cons (fv 2) fa_nil)))) (nomark _)) (fw_or1 (ft_cmp (od_ne rfl (hu64 hr)) (fe_callO C__law_told (hr.mono (by decide)) (takes_of rfl rfl rfl rfl) (fa_cons (fv 6) (fa_cons (fv 4) (fa_cons (fv 3) fa_nil)))) (FN.frz (fn_lst (fa_cons fe_str (fa_cons (fe_un ud_neg fe_int) fa_nil)))) (nomark _))))) (fss_one (fs_ret fe_bl)) fss_nil)
    (fss_one (fs_if (ft_cmp (od_ne rfl (hu64 hr)) (fe_callO C__law_told (hr.mono (by decide)) (takes_of rfl rfl rfl rfl) (fa_cons (fv 6) (fa_cons (fv 5) (fa_cons (fv 3) fa_nil)))) (FN.frz (fn_lst (fa_cons fe_str (fa_cons (fe_un ud_neg fe_int) fa_nil)))) (nomark _)) (fss_one (fs_ret fe_bl)) fss_nil))))
    (fss_cons (fs_for (passes_of rfl) rfl (fi_range1 (by rfl) T.n_range (fa_cons fe_int fa_nil)) (fg_name (vs := [6]) 6 sc__law_refuses.nd) (fss_cons (fs_if (FW.ft (fw_or (ft_cmp (od_ne rfl (hu64 hr)) (fe_callO C__law_told (hr.mono (by decide)) (takes_of rfl rfl rfl rfl) (fa_cons (fv 6) (fa_cons (fv 1) (fa_cons (fv 3) fa_nil)))) (FN.frz (fn_lst (fa_cons fe_str (fa_cons (fv 2) fa_nil)))) (nomark _)) (fw_or1 (ft_cmp (od_ne rfl (hu64 hr)) (fe_callO C__law_told (hr.mono (by decide)) (takes_of rfl rfl rfl rfl) (fa_cons (fv 6) (fa_cons (fv 1) (fa_cons (fv 5) fa_nil)))) (FN.frz (fn_lst (fa_cons fe_str (fa_cons (fe_un ud_neg fe_int) fa_nil)))) (nomark _))))) (fss_one (fs_ret fe_bl)) fss_nil)
    (fss_cons (fs_if (ft_cmp (od_ne rfl (hu64 hr)) (fe_callO C__law_told (hr.mono (by decide)) (takes_of rfl rfl rfl rfl) (fa_cons (fv 6) (fa_cons (fv 1) (fa_cons (fe_op (od_add rfl) (fv 1) (FN.frz (fn_lst (fa_cons fe_int fa_nil)))) fa_nil)))) (FN.frz (fn_lst (fa_cons fe_str (fa_cons (fe_cb (cd_len rfl) T.n_len bt_len (fa_cons (fv 1) fa_nil)) (fa_cons (fe_op (od_add rfl) (fe_cb (cd_len rfl) T.n_len bt_len (fa_cons (fv 1) fa_nil)) fe_int) fa_nil))))) (nomark _)) (fss_one (fs_ret fe_bl)) fss_nil)
    (fss_one (fs_if (ft_cmp (od_ne rfl (hu64 hr)) (fe_callO C__law_told (hr.mono (by decide)) (takes_of rfl rfl rfl rfl) (fa_cons (fv 6) (fa_cons (fe_op (od_add rfl) (fv 1) (FN.frz (fn_lst (fa_cons fe_int fa_nil)))) (fa_cons (fe_op (od_add rfl) (fv 1) (FN.frz (fn_lst (fa_cons fe_int fa_nil)))) fa_nil)))) (FN.frz (fn_lst (fa_cons fe_str (fa_cons (fe_un ud_neg fe_int) fa_nil)))) (nomark _)) (fss_one (fs_ret fe_bl)) fss_nil)))))
    (fss_one (fs_ret fe_bl))))))))
  · match ds, len _ _ _ _ h with
    | [d0, d1], _ => exact hb d0 d1 M Q E h
/-! law -/
def g_law (K : PySem.W.Frag) : DS :=
  (sSeq (sSet 1 (gCall (sp__law_draws K) (aCons (gVar 0) aNil)))
    (sSeq (sSet 2 (gCall (sp__law_word K) (aCons (gVar 1) (aCons (gC (.int 2)) (aCons (gC (.int 12)) aNil)))))
    (sSeq (sSet 3 (gFrz (nCB nListOf (aCons (gVar 2) aNil))))
    (sSeq (sFor (iRange1 (aCons (gCall (sp__law_take K) (aCons (gVar 1) (aCons (gC (.int 5)) aNil))) aNil)) (dName 4) (sSet 3 (gCall (sp__law_moved K) (aCons (gVar 1) (aCons (gVar 3) aNil)))))
    (sSeq (sSet 5 (gCall (sp__law_mixed_word K) (aCons (gVar 1) (aCons (gVar 2) aNil))))
    (sSeq (sSet 6 (gFrz (nLst (aCons (gFrz (nCB nListOf (aCons (gVar 2) aNil))) (aCons (gFrz (nCB nListOf (aCons (gVar 3) aNil))) (aCons (gFrz (nCB nListOf (aCons (gVar 5) aNil))) aNil))))))
    (sSeq (sIf (gOr (gNot (gTest (gCall (sp__law_way_holds K) (aCons (gVar 2) (aCons (gVar 3) aNil))))) (gNot (gTest (gCall (sp__law_way_holds K) (aCons (gCB dTupleOf (aCons (gVar 3) aNil)) (aCons (gVar 5) aNil)))))) (sRet (gC (.bl false))) sNext)
    (sSeq (sIf (gOr (gNot (gTest (gCall (sp__law_same_holds K) (aCons (gVar 2) aNil)))) (gNot (gTest (gCall (sp__law_same_holds K) (aCons (gCB dTupleOf (aCons (gVar 5) aNil)) aNil))))) (sRet (gC (.bl false))) sNext)
    (sSeq (sIf (gAnd (gTest (gOp dEq (gCall (sp__law_take K) (aCons (gVar 1) (aCons (gC (.int 3)) aNil))) (gC (.int 1)))) (gNot (gTest (gCall (sp__law_edges_hold K) (aCons (gVar 1) aNil))))) (sRet (gC (.bl false))) sNext)
    (sRet (gAndV (gOp dEq (gFrz (nLst (aCons (gVar 2) (aCons (gVar 3) (aCons (gVar 5) aNil))))) (gVar 6)) (gCall (sp__law_refuses K) (aCons (gVar 1) (aCons (gVar 2) aNil))))))))))))))
theorem sc_law : FnScope ["_law_script", "_law_drawn", "_law_word_here", "_law_other", "_law_turn", "_law_third", "_law_kept"] ["_law_script"] (defScope s_law) := ⟨rfl, rfl, rfl, by decide +kernel, rfl, by decide +kernel, by decide +kernel⟩
theorem w_law (T : Tx K mg) (C__law_draws : OkD P w K mg base 1 "_law_draws" ["_law_script"] (sp__law_draws K)) (C__law_word : OkD P w K mg base 2 "_law_word" ["_law_drawn", "_law_many", "_law_most"] (sp__law_word K)) (C__law_mixed_word : OkD P w K mg base 2 "_law_mixed_word" ["_law_drawn", "_law_word_here"] (sp__law_mixed_word K)) (C__law_take : OkD P w K mg base 1 "_law_take" ["_law_drawn", "_law_many"] (sp__law_take K)) (C__law_moved : OkD P w K mg base 2 "_law_moved" ["_law_drawn", "_law_word_here"] (sp__law_moved K)) (C__law_refuses : OkD P w K mg base 9 "_law_refuses" ["_law_drawn", "_law_word_here"] (sp__law_refuses K)) (C__law_way_holds : OkD P w K mg base 8 "_law_way_holds" ["_law_word_here", "_law_other"] (sp__law_way_holds K)) (C__law_same_holds : OkD P w K mg base 7 "_law_same_holds" ["_law_word_here"] (sp__law_same_holds K)) (C__law_edges_hold : OkD P w K mg base 9 "_law_edges_hold" ["_law_drawn"] (sp__law_edges_hold K)) (len : ∀ ds M Q E, sp_law K ds M Q E → ds.length = 1)
    (hb : ∀ d0 M Q E, sp_law K [d0] M Q E → g_law K { nx := fun _ M => Q .non M, rt := Q, ex := fun x _ M => E x M } [some d0, none, none, none, none, none, none] M) : OkD P w K mg base 10 "law" ["_law_script"] (sp_law K) := by
  obtain ⟨fd, F⟩ := T.F_law
  refine ⟨fd, dl_def F sc_law (by intro ds M Q E h; exact len ds M Q E h) (g_law K) (by decide) (fun cdv A outer s H E hr => ?_) (fun ds M Q E h => ?_), F.binds fun _ _ _ _ _ _ us hl => match us, hl with | [_], _ => rfl, F.kp, T.g_law, fun_lk F⟩
  · exact
   (fss_cons (fs_set 1 sc_law.nd (fe_callO C__law_draws (hr.mono (by decide)) (takes_of rfl rfl rfl rfl) (fa_cons (fv 0) fa_nil)))
    (fss_cons (fs_set 2 sc_law.nd (fe_callO C__law_word (hr.mono (by decide)) (takes_of rfl rfl rfl rfl) (fa_cons (fv 1) (fa_cons fe_int (fa_cons fe_int fa_nil)))))
    (fss_cons (fs_set 3 sc_law.nd (FN.frz (fn_ct (cn_list rfl) T.n_list bt_list (fa_cons (fv 2) fa_nil))))
    (fss_cons (fs_for (passes_of rfl) rfl (fi_range1 (by rfl) T.n_range (fa_cons (fe_callO C__law_take (hr.mono (by decide)) (takes_of rfl rfl rfl rfl) (fa_cons (fv 1) (fa_cons fe_int fa_nil))) fa_nil)) (fg_name (vs := [4]) 4 sc_law.nd) (fss_one (fs_set 3 sc_law.nd (fe_callO C__law_moved (hr.mono (by decide)) (takes_of rfl rfl rfl rfl) (fa_cons (fv 1) (fa_cons (fv 3) fa_nil))))))
    (fss_cons (fs_set 5 sc_law.nd (fe_callO C__law_mixed_word (hr.mono (by decide)) (takes_of rfl rfl rfl rfl) (fa_cons (fv 1) (fa_cons (fv 2) fa_nil))))
    (fss_cons (fs_set 6 sc_law.nd (FN.frz (fn_lst (fa_cons (FN.frz (fn_ct (cn_list rfl) T.n_list bt_list (fa_cons (fv 2) fa_nil))) (fa_cons (FN.frz (fn_ct (cn_list rfl) T.n_list bt_list (fa_cons (fv 3) fa_nil))) (fa_cons (FN.frz (fn_ct (cn_list rfl) T.n_list bt_list (fa_cons (fv 5) fa_nil))) fa_nil))))))
    (fss_cons (fs_if (FW.ft (fw_or (ft_not (ft_val (fe_callO C__law_way_holds (hr.mono (by decide)) (takes_of rfl rfl rfl rfl) (fa_cons (fv 2) (fa_cons (fv 3) fa_nil))))) (fw_or1 (ft_not (ft_val (fe_callO C__law_way_holds (hr.mono (by decide)) (takes_of rfl rfl rfl rfl) (fa_cons (fe_ct (cd_tuple rfl) T.n_tuple bt_tuple (fa_cons (fv 3) fa_nil)) (fa_cons (fv 5) fa_nil)))))))) (fss_one (fs_ret fe_bl)) fss_nil)
    (fss_cons (fs_if (FW.ft (fw_or (ft_not (ft_val (fe_callO C__law_same_holds (hr.mono (by decide)) (takes_of rfl rfl rfl rfl) (fa_cons (fv 2) fa_nil)))) (fw_or1 (ft_not (ft_val (fe_callO C__law_same_holds (hr.mono (by decide)) (takes_of rfl rfl rfl rfl) (fa_cons (fe_ct (cd_tuple rfl) T.n_tuple bt_tuple (fa_cons (fv 5) fa_nil)) fa_nil))))))) (fss_one (fs_ret fe_bl)) fss_nil)
    (fss_cons (fs_if (FW.ft (fw_and (ft_cmp (od_eq rfl (hu64 hr)) (fe_callO C__law_take (hr.mono (by decide)) (takes_of rfl rfl rfl rfl) (fa_cons (fv 1) (fa_cons fe_int fa_nil))) fe_int (nomark _)) (fw_and1 (ft_not (ft_val (fe_callO C__law_edges_hold (hr.mono (by decide)) (takes_of rfl rfl rfl rfl) (fa_cons (fv 1) fa_nil))))))) (fss_one (fs_ret fe_bl)) fss_nil)
    (fss_one (fs_ret (fe_and (fe_cmp (od_eq rfl (hu64 hr)) (FN.frz (fn_lst (fa_cons (fv 2) (fa_cons (fv 3) (fa_cons (fv 5) fa_nil))))) (fv 6) (nomark _)) (fe_one (fe_callO C__law_refuses (hr.mono (by decide)) (takes_of rfl rfl rfl rfl) (fa_cons (fv 1) (fa_cons (fv 2) fa_nil))))))))))))))))
  · match ds, len _ _ _ _ h with
    | [d0], _ => exact hb d0 M Q E h
end
end LW

namespace LW
open PySem PySem.Spec PyProof.Rows L2 DL
section
variable {K : PySem.W.Frag}
theorem b_is_int : ∀ d0 M Q E, sp_is_int K [d0] M Q E → g_is_int K { nx := fun _ M => Q .non M, rt := Q, ex := fun x _ M => E x M } [some d0] M := by
  rintro d0 M Q E ⟨k, h, q⟩
  unfold g_is_int
  (try dsimp only [q_op, q_un, q_var, q_c, q_nil, q_cons, q_tup, q_frz, q_cel, q_lst, q_test, q_onB, q_and, q_or, q_not, q_andV, q_orV, q_notV, q_if, q_chain, q_next, q_seq, q_drop, q_ret, q_retF, q_retN, q_sif, q_break, q_cont, q_name, q_dnil, q_dcons, q_dtup, q_asg, q_set, q_par, q_for, q_range1, q_range2, q_iseq, q_ienum, q_call, q_cb, q_ncb, q_nop, q_lenset, q_mt, q_mt0, q_setix, q_augs, q_aug, q_nsl, q_onone, q_osome, q_gsl, q_raise, q_raiseF, q_try, q_lc, q_lc2, q_yes, q_wipe0, q_wipe, q_xf, q_I, q_I0, q_U, q_add, q_addT, q_addL, q_addR, q_onL, q_onSt, q_onSl, q_onSs, q_onSrct, q_onSrcl, q_eqI, q_eqB, q_eqS, q_eqN, q_isN, q_ix, q_ixL, q_in, q_len, q_sum, q_max, q_min, q_max2, q_min2, q_abs, q_int, q_tupof, q_lstof, q_sort, q_rep, q_cat, q_isi, q_isis, q_setat, q_onC, q_append, q_pop, q_popAt, q_reverse, q_insert, q_sp1, q_sp2, q_sp3, q_sp4, q_at0, q_atS, q_st0, q_stS, q_iteT, q_iteF, q_isB, q_gCntT])
  refine ⟨k, _, h, rfl, ?_⟩
  (try dsimp only [q_op, q_un, q_var, q_c, q_nil, q_cons, q_tup, q_frz, q_cel, q_lst, q_test, q_onB, q_and, q_or, q_not, q_andV, q_orV, q_notV, q_if, q_chain, q_next, q_seq, q_drop, q_ret, q_retF, q_retN, q_sif, q_break, q_cont, q_name, q_dnil, q_dcons, q_dtup, q_asg, q_set, q_par, q_for, q_range1, q_range2, q_iseq, q_ienum, q_call, q_cb, q_ncb, q_nop, q_lenset, q_mt, q_mt0, q_setix, q_augs, q_aug, q_nsl, q_onone, q_osome, q_gsl, q_raise, q_raiseF, q_try, q_lc, q_lc2, q_yes, q_wipe0, q_wipe, q_xf, q_I, q_I0, q_U, q_add, q_addT, q_addL, q_addR, q_onL, q_onSt, q_onSl, q_onSs, q_onSrct, q_onSrcl, q_eqI, q_eqB, q_eqS, q_eqN, q_isN, q_ix, q_ixL, q_in, q_len, q_sum, q_max, q_min, q_max2, q_min2, q_abs, q_int, q_tupof, q_lstof, q_sort, q_rep, q_cat, q_isi, q_isis, q_setat, q_onC, q_append, q_pop, q_popAt, q_reverse, q_insert, q_sp1, q_sp2, q_sp3, q_sp4, q_at0, q_atS, q_st0, q_stS, q_iteT, q_iteF, q_isB, q_gCntT])
  cases k
  all_goals first
    | (rw [if_neg (by decide)]; exact q)
    | (rw [if_pos (by decide)]; exact ⟨_, _, h, rfl, q⟩)
theorem b__law_int : ∀ d0 M Q E, sp__law_int K [d0] M Q E → g__law_int K { nx := fun _ M => Q .non M, rt := Q, ex := fun x _ M => E x M } [some d0] M := b_is_int (K := K)
theorem b_is_row : ∀ d0 M Q E, sp_is_row K [d0] M Q E → g_is_row K { nx := fun _ M => Q .non M, rt := Q, ex := fun x _ M => E x M } [some d0] M := by
  rintro d0 M Q E ⟨k, h, q⟩
  refine ⟨by show 2 ≤ sizeLine; decide, k, _, h, ?_, ⟨["list", "tuple"], rfl⟩, q⟩
  cases k <;> decide +kernel
theorem b_check_int : ∀ d0 d1 d2 M Q E, sp_check_int K [d0, d1, d2] M Q E → g_check_int K { nx := fun _ M => Q .non M, rt := Q, ex := fun x _ M => E x M } [some d0, some d1, some d2] M := by
  rintro d0 d1 d2 M Q E ⟨i, lo, rfl, rfl, hl, q⟩
  unfold g_check_int
  dsimp only [q_op, q_un, q_var, q_c, q_nil, q_cons, q_tup, q_frz, q_cel, q_lst, q_test, q_onB, q_and, q_or, q_not, q_andV, q_orV, q_notV, q_if, q_chain, q_next, q_seq, q_drop, q_ret, q_retF, q_retN, q_sif, q_break, q_cont, q_name, q_dnil, q_dcons, q_dtup, q_asg, q_set, q_par, q_for, q_range1, q_range2, q_iseq, q_ienum, q_call, q_cb, q_ncb, q_nop, q_lenset, q_mt, q_mt0, q_setix, q_augs, q_aug, q_nsl, q_onone, q_osome, q_gsl, q_raise, q_raiseF, q_try, q_lc, q_lc2, q_yes, q_wipe0, q_wipe, q_xf, q_I, q_I0, q_U, q_add, q_addT, q_addL, q_addR, q_onL, q_onSt, q_onSl, q_onSs, q_onSrct, q_onSrcl, q_eqI, q_eqB, q_eqS, q_eqN, q_isN, q_ix, q_ixL, q_in, q_len, q_sum, q_max, q_min, q_max2, q_min2, q_abs, q_int, q_tupof, q_lstof, q_sort, q_rep, q_cat, q_isi, q_isis, q_setat, q_onC, q_append, q_pop, q_popAt, q_reverse, q_insert, q_sp1, q_sp2, q_sp3, q_sp4, q_at0, q_atS, q_st0, q_stS, q_iteT, q_iteF, q_isB, q_gCntT, sp_is_int]
  refine ⟨.int, rfl, ?_⟩
  (try dsimp only [q_op, q_un, q_var, q_c, q_nil, q_cons, q_tup, q_frz, q_cel, q_lst, q_test, q_onB, q_and, q_or, q_not, q_andV, q_orV, q_notV, q_if, q_chain, q_next, q_seq, q_drop, q_ret, q_retF, q_retN, q_sif, q_break, q_cont, q_name, q_dnil, q_dcons, q_dtup, q_asg, q_set, q_par, q_for, q_range1, q_range2, q_iseq, q_ienum, q_call, q_cb, q_ncb, q_nop, q_lenset, q_mt, q_mt0, q_setix, q_augs, q_aug, q_nsl, q_onone, q_osome, q_gsl, q_raise, q_raiseF, q_try, q_lc, q_lc2, q_yes, q_wipe0, q_wipe, q_xf, q_I, q_I0, q_U, q_add, q_addT, q_addL, q_addR, q_onL, q_onSt, q_onSl, q_onSs, q_onSrct, q_onSrcl, q_eqI, q_eqB, q_eqS, q_eqN, q_isN, q_ix, q_ixL, q_in, q_len, q_sum, q_max, q_min, q_max2, q_min2, q_abs, q_int, q_tupof, q_lstof, q_sort, q_rep, q_cat, q_isi, q_isis, q_setat, q_onC, q_append, q_pop, q_popAt, q_reverse, q_insert, q_sp1, q_sp2, q_sp3, q_sp4, q_at0, q_atS, q_st0, q_stS, q_iteT, q_iteF, q_isB, q_gCntT])
  rw [if_neg (by decide), if_neg (by simp; omega)]
  exact q
/-- the items of a flat row have kinds -/
theorem flat_kd {M : Mem} {d : D} (h : flatD d = true) : ∃ k, kdOf M d = some k ∧ ((k == .int) = true ↔ ∃ i, d = .int i) := by
  cases d <;> first
    | (cases h; done)
    | exact ⟨_, rfl, by constructor <;> (intro z; first | (cases z; done) | (obtain ⟨_, z⟩ := z; cases z; done) | rfl | exact ⟨_, rfl⟩)⟩
theorem badAt_cons {n : Int} {x : D} {xs : List D} {i : Nat} : badAt n (x :: xs) i = if goodL n x then badAt n xs (i + 1) else some (i : Nat) := rfl
theorem badAt_drop {n : Int} {xs : List D} {i : Nat} {x : D} (h : xs[i]? = some x) : badAt n (xs.drop i) i = if goodL n x then badAt n (xs.drop (i + 1)) (i + 1) else some (i : Nat) := by
  obtain ⟨hi, e⟩ := List.getElem?_eq_some_iff.mp h
  rw [List.drop_eq_getElem_cons hi, badAt_cons, e]
theorem badAt_ints {n : Int} : ∀ {xs : List D} {i : Nat}, badAt n xs i = none → xs = iD (intsOf xs) ∧ ∀ a ∈ intsOf xs, 0 ≤ a ∧ a < n
  | [], i, _ => ⟨rfl, by intro a h; cases h⟩
  | x :: xs, i, h => by
    rw [badAt_cons] at h
    split at h
    · rename_i g
      obtain ⟨h1, h2⟩ := badAt_ints h
      cases x <;> first
        | (cases g; done)
        | (rename_i a
           unfold goodL at g
           simp only [Bool.and_eq_true, decide_eq_true_eq] at g
           have e : intsOf (.int a :: xs) = a :: intsOf xs := rfl
           rw [e]
           refine ⟨by show D.int a :: xs = D.int a :: iD (intsOf xs); rw [← h1], fun b hb => ?_⟩
           rcases List.mem_cons.mp hb with z | z
           · rw [z]; exact g
           · exact h2 b z)
    · cases h
theorem b_letters_of : ∀ d0 d1 M Q E, sp_letters_of K [d0, d1] M Q E → g_letters_of K { nx := fun _ M => Q .non M, rt := Q, ex := fun x _ M => E x M } [some d0, some d1, none, none] M := by
  rintro d0 d1 M Q E ⟨n, rfl, h⟩
  unfold g_letters_of
  dsimp only [q_op, q_un, q_var, q_c, q_nil, q_cons, q_tup, q_frz, q_cel, q_lst, q_test, q_onB, q_and, q_or, q_not, q_andV, q_orV, q_notV, q_if, q_chain, q_next, q_seq, q_drop, q_ret, q_retF, q_retN, q_sif, q_break, q_cont, q_name, q_dnil, q_dcons, q_dtup, q_asg, q_set, q_par, q_for, q_range1, q_range2, q_iseq, q_ienum, q_call, q_cb, q_ncb, q_nop, q_lenset, q_mt, q_mt0, q_setix, q_augs, q_aug, q_nsl, q_onone, q_osome, q_gsl, q_raise, q_raiseF, q_try, q_lc, q_lc2, q_yes, q_wipe0, q_wipe, q_xf, q_I, q_I0, q_U, q_add, q_addT, q_addL, q_addR, q_onL, q_onSt, q_onSl, q_onSs, q_onSrct, q_onSrcl, q_eqI, q_eqB, q_eqS, q_eqN, q_isN, q_ix, q_ixL, q_in, q_len, q_sum, q_max, q_min, q_max2, q_min2, q_abs, q_int, q_tupof, q_lstof, q_sort, q_rep, q_cat, q_isi, q_isis, q_setat, q_onC, q_append, q_pop, q_popAt, q_reverse, q_insert, q_sp1, q_sp2, q_sp3, q_sp4, q_at0, q_atS, q_st0, q_stS, q_iteT, q_iteF, q_isB, q_gCntT, sp_is_row]
  rcases h with ⟨t, hk, h1, h2, q⟩ | ⟨xs, row, flat, hl, q⟩
  · refine ⟨t, hk, ?_⟩
    (try dsimp only [q_op, q_un, q_var, q_c, q_nil, q_cons, q_tup, q_frz, q_cel, q_lst, q_test, q_onB, q_and, q_or, q_not, q_andV, q_orV, q_notV, q_if, q_chain, q_next, q_seq, q_drop, q_ret, q_retF, q_retN, q_sif, q_break, q_cont, q_name, q_dnil, q_dcons, q_dtup, q_asg, q_set, q_par, q_for, q_range1, q_range2, q_iseq, q_ienum, q_call, q_cb, q_ncb, q_nop, q_lenset, q_mt, q_mt0, q_setix, q_augs, q_aug, q_nsl, q_onone, q_osome, q_gsl, q_raise, q_raiseF, q_try, q_lc, q_lc2, q_yes, q_wipe0, q_wipe, q_xf, q_I, q_I0, q_U, q_add, q_addT, q_addL, q_addR, q_onL, q_onSt, q_onSl, q_onSs, q_onSrct, q_onSrcl, q_eqI, q_eqB, q_eqS, q_eqN, q_isN, q_ix, q_ixL, q_in, q_len, q_sum, q_max, q_min, q_max2, q_min2, q_abs, q_int, q_tupof, q_lstof, q_sort, q_rep, q_cat, q_isi, q_isis, q_setat, q_onC, q_append, q_pop, q_popAt, q_reverse, q_insert, q_sp1, q_sp2, q_sp3, q_sp4, q_at0, q_atS, q_st0, q_stS, q_iteT, q_iteF, q_isB, q_gCntT])
    rw [if_pos (by cases t <;> first | rfl | (exact absurd rfl h1) | exact absurd rfl h2)]
    exact ⟨rfl, q⟩
  have hk : ∃ k, kdOf M d0 = some k ∧ (k == Kd.tuple || k == .list) = true := by
    rcases row.kd with z | z
    · exact ⟨_, z, rfl⟩
    · exact ⟨_, z, rfl⟩
  obtain ⟨k, hk1, hk2⟩ := hk
  refine ⟨k, hk1, ?_⟩
  (try dsimp only [q_op, q_un, q_var, q_c, q_nil, q_cons, q_tup, q_frz, q_cel, q_lst, q_test, q_onB, q_and, q_or, q_not, q_andV, q_orV, q_notV, q_if, q_chain, q_next, q_seq, q_drop, q_ret, q_retF, q_retN, q_sif, q_break, q_cont, q_name, q_dnil, q_dcons, q_dtup, q_asg, q_set, q_par, q_for, q_range1, q_range2, q_iseq, q_ienum, q_call, q_cb, q_ncb, q_nop, q_lenset, q_mt, q_mt0, q_setix, q_augs, q_aug, q_nsl, q_onone, q_osome, q_gsl, q_raise, q_raiseF, q_try, q_lc, q_lc2, q_yes, q_wipe0, q_wipe, q_xf, q_I, q_I0, q_U, q_add, q_addT, q_addL, q_addR, q_onL, q_onSt, q_onSl, q_onSs, q_onSrct, q_onSrcl, q_eqI, q_eqB, q_eqS, q_eqN, q_isN, q_ix, q_ixL, q_in, q_len, q_sum, q_max, q_min, q_max2, q_min2, q_abs, q_int, q_tupof, q_lstof, q_sort, q_rep, q_cat, q_isi, q_isis, q_setat, q_onC, q_append, q_pop, q_popAt, q_reverse, q_insert, q_sp1, q_sp2, q_sp3, q_sp4, q_at0, q_atS, q_st0, q_stS, q_iteT, q_iteF, q_isB, q_gCntT])
  rw [if_neg (by rw [hk2]; decide)]
  refine row.onSrc fun ok ho ho2 => ?_
  refine loop_inv (fun i ρ M' => M' = M ∧ (∃ a b, ρ = [some d0, some (.int n), a, b]) ∧ badAt n xs 0 = badAt n (xs.drop i) i) ?_ ?_ ?_ ?_ ?_
  · rintro i ρ M' _ ⟨rfl, _⟩; exact ho
  · rintro i ρ M' d hd ⟨rfl, ⟨a, b, rfl⟩, e⟩
    obtain ⟨x, hx, rfl⟩ := enD_get hd
    (try dsimp only [q_op, q_un, q_var, q_c, q_nil, q_cons, q_tup, q_frz, q_cel, q_lst, q_test, q_onB, q_and, q_or, q_not, q_andV, q_orV, q_notV, q_if, q_chain, q_next, q_seq, q_drop, q_ret, q_retF, q_retN, q_sif, q_break, q_cont, q_name, q_dnil, q_dcons, q_dtup, q_asg, q_set, q_par, q_for, q_range1, q_range2, q_iseq, q_ienum, q_call, q_cb, q_ncb, q_nop, q_lenset, q_mt, q_mt0, q_setix, q_augs, q_aug, q_nsl, q_onone, q_osome, q_gsl, q_raise, q_raiseF, q_try, q_lc, q_lc2, q_yes, q_wipe0, q_wipe, q_xf, q_I, q_I0, q_U, q_add, q_addT, q_addL, q_addR, q_onL, q_onSt, q_onSl, q_onSs, q_onSrct, q_onSrcl, q_eqI, q_eqB, q_eqS, q_eqN, q_isN, q_ix, q_ixL, q_in, q_len, q_sum, q_max, q_min, q_max2, q_min2, q_abs, q_int, q_tupof, q_lstof, q_sort, q_rep, q_cat, q_isi, q_isis, q_setat, q_onC, q_append, q_pop, q_popAt, q_reverse, q_insert, q_sp1, q_sp2, q_sp3, q_sp4, q_at0, q_atS, q_st0, q_stS, q_iteT, q_iteF, q_isB, q_gCntT])
    refine ⟨rfl, ?_⟩
    (try dsimp only [q_op, q_un, q_var, q_c, q_nil, q_cons, q_tup, q_frz, q_cel, q_lst, q_test, q_onB, q_and, q_or, q_not, q_andV, q_orV, q_notV, q_if, q_chain, q_next, q_seq, q_drop, q_ret, q_retF, q_retN, q_sif, q_break, q_cont, q_name, q_dnil, q_dcons, q_dtup, q_asg, q_set, q_par, q_for, q_range1, q_range2, q_iseq, q_ienum, q_call, q_cb, q_ncb, q_nop, q_lenset, q_mt, q_mt0, q_setix, q_augs, q_aug, q_nsl, q_onone, q_osome, q_gsl, q_raise, q_raiseF, q_try, q_lc, q_lc2, q_yes, q_wipe0, q_wipe, q_xf, q_I, q_I0, q_U, q_add, q_addT, q_addL, q_addR, q_onL, q_onSt, q_onSl, q_onSs, q_onSrct, q_onSrcl, q_eqI, q_eqB, q_eqS, q_eqN, q_isN, q_ix, q_ixL, q_in, q_len, q_sum, q_max, q_min, q_max2, q_min2, q_abs, q_int, q_tupof, q_lstof, q_sort, q_rep, q_cat, q_isi, q_isis, q_setat, q_onC, q_append, q_pop, q_popAt, q_reverse, q_insert, q_sp1, q_sp2, q_sp3, q_sp4, q_at0, q_atS, q_st0, q_stS, q_iteT, q_iteF, q_isB, q_gCntT])
    refine ⟨rfl, fun Nx hN => ?_⟩
    have fx : flatD x = true := List.all_eq_true.mp flat x (List.mem_of_getElem? hx)
    obtain ⟨k2, kx, ki⟩ := flat_kd (M := M') fx
    rw [badAt_drop hx] at e
    dsimp only [q_op, q_un, q_var, q_c, q_nil, q_cons, q_tup, q_frz, q_cel, q_lst, q_test, q_onB, q_and, q_or, q_not, q_andV, q_orV, q_notV, q_if, q_chain, q_next, q_seq, q_drop, q_ret, q_retF, q_retN, q_sif, q_break, q_cont, q_name, q_dnil, q_dcons, q_dtup, q_asg, q_set, q_par, q_for, q_range1, q_range2, q_iseq, q_ienum, q_call, q_cb, q_ncb, q_nop, q_lenset, q_mt, q_mt0, q_setix, q_augs, q_aug, q_nsl, q_onone, q_osome, q_gsl, q_raise, q_raiseF, q_try, q_lc, q_lc2, q_yes, q_wipe0, q_wipe, q_xf, q_I, q_I0, q_U, q_add, q_addT, q_addL, q_addR, q_onL, q_onSt, q_onSl, q_onSs, q_onSrct, q_onSrcl, q_eqI, q_eqB, q_eqS, q_eqN, q_isN, q_ix, q_ixL, q_in, q_len, q_sum, q_max, q_min, q_max2, q_min2, q_abs, q_int, q_tupof, q_lstof, q_sort, q_rep, q_cat, q_isi, q_isis, q_setat, q_onC, q_append, q_pop, q_popAt, q_reverse, q_insert, q_sp1, q_sp2, q_sp3, q_sp4, q_at0, q_atS, q_st0, q_stS, q_iteT, q_iteF, q_isB, q_gCntT, sp_is_int]
    refine ⟨k2, kx, ?_⟩
    (try dsimp only [q_op, q_un, q_var, q_c, q_nil, q_cons, q_tup, q_frz, q_cel, q_lst, q_test, q_onB, q_and, q_or, q_not, q_andV, q_orV, q_notV, q_if, q_chain, q_next, q_seq, q_drop, q_ret, q_retF, q_retN, q_sif, q_break, q_cont, q_name, q_dnil, q_dcons, q_dtup, q_asg, q_set, q_par, q_for, q_range1, q_range2, q_iseq, q_ienum, q_call, q_cb, q_ncb, q_nop, q_lenset, q_mt, q_mt0, q_setix, q_augs, q_aug, q_nsl, q_onone, q_osome, q_gsl, q_raise, q_raiseF, q_try, q_lc, q_lc2, q_yes, q_wipe0, q_wipe, q_xf, q_I, q_I0, q_U, q_add, q_addT, q_addL, q_addR, q_onL, q_onSt, q_onSl, q_onSs, q_onSrct, q_onSrcl, q_eqI, q_eqB, q_eqS, q_eqN, q_isN, q_ix, q_ixL, q_in, q_len, q_sum, q_max, q_min, q_max2, q_min2, q_abs, q_int, q_tupof, q_lstof, q_sort, q_rep, q_cat, q_isi, q_isis, q_setat, q_onC, q_append, q_pop, q_popAt, q_reverse, q_insert, q_sp1, q_sp2, q_sp3, q_sp4, q_at0, q_atS, q_st0, q_stS, q_iteT, q_iteF, q_isB, q_gCntT])
    cases hki : (k2 == Kd.int) with
    | false =>
      rw [if_pos (by decide), if_pos rfl]
      refine ⟨rfl, ?_⟩
      have g : goodL n x = false := by
        cases x <;> first | rfl | (rw [hki] at ki; exact absurd (ki.mpr ⟨_, rfl⟩) (by simp))
      rw [g] at e
      unfold letE at q
      rw [e] at q
      exact q
    | true =>
      obtain ⟨a', rfl⟩ := ki.mp hki
      rw [if_neg (by decide)]
      (try dsimp only [q_op, q_un, q_var, q_c, q_nil, q_cons, q_tup, q_frz, q_cel, q_lst, q_test, q_onB, q_and, q_or, q_not, q_andV, q_orV, q_notV, q_if, q_chain, q_next, q_seq, q_drop, q_ret, q_retF, q_retN, q_sif, q_break, q_cont, q_name, q_dnil, q_dcons, q_dtup, q_asg, q_set, q_par, q_for, q_range1, q_range2, q_iseq, q_ienum, q_call, q_cb, q_ncb, q_nop, q_lenset, q_mt, q_mt0, q_setix, q_augs, q_aug, q_nsl, q_onone, q_osome, q_gsl, q_raise, q_raiseF, q_try, q_lc, q_lc2, q_yes, q_wipe0, q_wipe, q_xf, q_I, q_I0, q_U, q_add, q_addT, q_addL, q_addR, q_onL, q_onSt, q_onSl, q_onSs, q_onSrct, q_onSrcl, q_eqI, q_eqB, q_eqS, q_eqN, q_isN, q_ix, q_ixL, q_in, q_len, q_sum, q_max, q_min, q_max2, q_min2, q_abs, q_int, q_tupof, q_lstof, q_sort, q_rep, q_cat, q_isi, q_isis, q_setat, q_onC, q_append, q_pop, q_popAt, q_reverse, q_insert, q_sp1, q_sp2, q_sp3, q_sp4, q_at0, q_atS, q_st0, q_stS, q_iteT, q_iteF, q_isB, q_gCntT])
      by_cases h0 : a' < 0
      · rw [if_pos (by simpa using h0), if_pos rfl]
        refine ⟨rfl, ?_⟩
        have g : goodL n (.int a') = false := by unfold goodL; simp; omega
        rw [g] at e
        unfold letE at q
        rw [e] at q
        exact q
      · rw [if_neg (by simpa using h0)]
        by_cases h1 : n ≤ a'
        · rw [if_pos (by simpa using h1)]
          refine ⟨rfl, ?_⟩
          have g : goodL n (.int a') = false := by unfold goodL; simp; omega
          rw [g] at e
          unfold letE at q
          rw [e] at q
          exact q
        · rw [if_neg (by simpa using h1)]
          refine hN _ _ ⟨rfl, ⟨_, _, rfl⟩, ?_⟩
          have g : goodL n (.int a') = true := by unfold goodL; simp; omega
          rw [g] at e
          exact e
  · intro d ρ M' Q1 Q2 k h
    cases d <;> first
      | exact h.elim
      | (rename_i ds
         obtain ⟨h1, h2⟩ := h
         refine ⟨h1, ?_⟩
         match ds, h1, h2 with
         | [a, b], _, h2 => exact ⟨h2.1, k _ _ h2.2⟩)
  · rintro ρ M' ⟨rfl, ⟨a, b, rfl⟩, e⟩
    rw [show xs.drop (enD xs).length = [] by rw [enD_length, List.drop_length]] at e
    have hb : badAt n xs 0 = none := e
    have hi := badAt_ints hb
    (try dsimp only [q_op, q_un, q_var, q_c, q_nil, q_cons, q_tup, q_frz, q_cel, q_lst, q_test, q_onB, q_and, q_or, q_not, q_andV, q_orV, q_notV, q_if, q_chain, q_next, q_seq, q_drop, q_ret, q_retF, q_retN, q_sif, q_break, q_cont, q_name, q_dnil, q_dcons, q_dtup, q_asg, q_set, q_par, q_for, q_range1, q_range2, q_iseq, q_ienum, q_call, q_cb, q_ncb, q_nop, q_lenset, q_mt, q_mt0, q_setix, q_augs, q_aug, q_nsl, q_onone, q_osome, q_gsl, q_raise, q_raiseF, q_try, q_lc, q_lc2, q_yes, q_wipe0, q_wipe, q_xf, q_I, q_I0, q_U, q_add, q_addT, q_addL, q_addR, q_onL, q_onSt, q_onSl, q_onSs, q_onSrct, q_onSrcl, q_eqI, q_eqB, q_eqS, q_eqN, q_isN, q_ix, q_ixL, q_in, q_len, q_sum, q_max, q_min, q_max2, q_min2, q_abs, q_int, q_tupof, q_lstof, q_sort, q_rep, q_cat, q_isi, q_isis, q_setat, q_onC, q_append, q_pop, q_popAt, q_reverse, q_insert, q_sp1, q_sp2, q_sp3, q_sp4, q_at0, q_atS, q_st0, q_stS, q_iteT, q_iteF, q_isB, q_gCntT])
    refine row.onS ⟨intsOf xs, hi.1, ?_, ?_⟩
    · have : (intsOf xs).length ≤ xs.length := List.length_filterMap_le _ _
      omega
    (try dsimp only [q_op, q_un, q_var, q_c, q_nil, q_cons, q_tup, q_frz, q_cel, q_lst, q_test, q_onB, q_and, q_or, q_not, q_andV, q_orV, q_notV, q_if, q_chain, q_next, q_seq, q_drop, q_ret, q_retF, q_retN, q_sif, q_break, q_cont, q_name, q_dnil, q_dcons, q_dtup, q_asg, q_set, q_par, q_for, q_range1, q_range2, q_iseq, q_ienum, q_call, q_cb, q_ncb, q_nop, q_lenset, q_mt, q_mt0, q_setix, q_augs, q_aug, q_nsl, q_onone, q_osome, q_gsl, q_raise, q_raiseF, q_try, q_lc, q_lc2, q_yes, q_wipe0, q_wipe, q_xf, q_I, q_I0, q_U, q_add, q_addT, q_addL, q_addR, q_onL, q_onSt, q_onSl, q_onSs, q_onSrct, q_onSrcl, q_eqI, q_eqB, q_eqS, q_eqN, q_isN, q_ix, q_ixL, q_in, q_len, q_sum, q_max, q_min, q_max2, q_min2, q_abs, q_int, q_tupof, q_lstof, q_sort, q_rep, q_cat, q_isi, q_isis, q_setat, q_onC, q_append, q_pop, q_popAt, q_reverse, q_insert, q_sp1, q_sp2, q_sp3, q_sp4, q_at0, q_atS, q_st0, q_stS, q_iteT, q_iteF, q_isB, q_gCntT])
    unfold letE at q
    rw [hb] at q
    dsimp only at q
    by_cases c : ((ddup (intsOf xs)).length : Int) < n
    · rw [if_pos (by simpa using c)]
      rw [if_pos c] at q
      exact ⟨rfl, q⟩
    · rw [if_neg (by simpa using c)]
      rw [if_neg c] at q
      exact row.onS q
  · exact ⟨rfl, ⟨_, _, rfl⟩, rfl⟩
end
section
variable {K : PySem.W.Frag}
theorem letE_none {n : Int} {xs : List D} (h : letE n xs = none) : xs = iD (intsOf xs) ∧ (∀ a ∈ intsOf xs, 0 ≤ a ∧ a < n) ∧ n ≤ (ddup (intsOf xs)).length := by
  unfold letE at h
  cases z : badAt n xs 0 with
  | some p => rw [z] at h; cases h
  | none =>
    rw [z] at h
    dsimp only at h
    split at h
    · cases h
    · have := badAt_ints z
      exact ⟨this.1, this.2, by omega⟩
theorem intsOf_iD : ∀ ns : List Int, intsOf (iD ns) = ns
  | [] => rfl
  | n :: ns => by
    show n :: intsOf (iD ns) = n :: ns
    rw [intsOf_iD ns]
theorem plainC_mono {M : Mem} {d : D} {E : DXK} {k k' : List Int → Prop} (h : ∀ ns, k ns → k' ns) : plainC K M d E k → plainC K M d E k' := by
  rintro (z | ⟨xs, r, f, l, q⟩)
  · exact .inl z
  · refine .inr ⟨xs, r, f, l, ?_⟩
    show (match plainE xs with | some p => E (xBW K p) M | none => k' (intsOf xs))
    cases e : plainE xs with
    | some p => rw [e] at q; exact q
    | none => rw [e] at q; exact h _ q
theorem alikeC_mono {M : Mem} {a b : D} {E : DXK} {k k' : List Int → List Int → Prop} (h : ∀ one two, k one two → k' one two) : alikeC K M a b E k → alikeC K M a b E k' :=
  plainC_mono fun one => plainC_mono fun two z => by
    split
    · rename_i c; rw [if_pos c] at z; exact z
    · rename_i c
      rw [if_neg c] at z
      split
      · rename_i c2; rw [if_pos c2] at z; exact z
      · rename_i c2; rw [if_neg c2] at z; exact h _ _ z
theorem b_plain_word : ∀ d0 M Q E, sp_plain_word K [d0] M Q E → g_plain_word K { nx := fun _ M => Q .non M, rt := Q, ex := fun x _ M => E x M } [some d0, none] M := by
  rintro d0 M Q E (⟨t, hk, h1, h2, q⟩ | ⟨xs, row, flat, hl, q⟩)
  · unfold g_plain_word
    dsimp only [q_op, q_un, q_var, q_c, q_nil, q_cons, q_tup, q_frz, q_cel, q_lst, q_test, q_onB, q_and, q_or, q_not, q_andV, q_orV, q_notV, q_if, q_chain, q_next, q_seq, q_drop, q_ret, q_retF, q_retN, q_sif, q_break, q_cont, q_name, q_dnil, q_dcons, q_dtup, q_asg, q_set, q_par, q_for, q_range1, q_range2, q_iseq, q_ienum, q_call, q_cb, q_ncb, q_nop, q_lenset, q_mt, q_mt0, q_setix, q_augs, q_aug, q_nsl, q_onone, q_osome, q_gsl, q_raise, q_raiseF, q_try, q_lc, q_lc2, q_yes, q_wipe0, q_wipe, q_xf, q_I, q_I0, q_U, q_add, q_addT, q_addL, q_addR, q_onL, q_onSt, q_onSl, q_onSs, q_onSrct, q_onSrcl, q_eqI, q_eqB, q_eqS, q_eqN, q_isN, q_ix, q_ixL, q_in, q_len, q_sum, q_max, q_min, q_max2, q_min2, q_abs, q_int, q_tupof, q_lstof, q_sort, q_rep, q_cat, q_isi, q_isis, q_setat, q_onC, q_append, q_pop, q_popAt, q_reverse, q_insert, q_sp1, q_sp2, q_sp3, q_sp4, q_at0, q_atS, q_st0, q_stS, q_iteT, q_iteF, q_isB, q_gCntT, sp_is_row]
    refine ⟨t, hk, ?_⟩
    (try dsimp only [q_op, q_un, q_var, q_c, q_nil, q_cons, q_tup, q_frz, q_cel, q_lst, q_test, q_onB, q_and, q_or, q_not, q_andV, q_orV, q_notV, q_if, q_chain, q_next, q_seq, q_drop, q_ret, q_retF, q_retN, q_sif, q_break, q_cont, q_name, q_dnil, q_dcons, q_dtup, q_asg, q_set, q_par, q_for, q_range1, q_range2, q_iseq, q_ienum, q_call, q_cb, q_ncb, q_nop, q_lenset, q_mt, q_mt0, q_setix, q_augs, q_aug, q_nsl, q_onone, q_osome, q_gsl, q_raise, q_raiseF, q_try, q_lc, q_lc2, q_yes, q_wipe0, q_wipe, q_xf, q_I, q_I0, q_U, q_add, q_addT, q_addL, q_addR, q_onL, q_onSt, q_onSl, q_onSs, q_onSrct, q_onSrcl, q_eqI, q_eqB, q_eqS, q_eqN, q_isN, q_ix, q_ixL, q_in, q_len, q_sum, q_max, q_min, q_max2, q_min2, q_abs, q_int, q_tupof, q_lstof, q_sort, q_rep, q_cat, q_isi, q_isis, q_setat, q_onC, q_append, q_pop, q_popAt, q_reverse, q_insert, q_sp1, q_sp2, q_sp3, q_sp4, q_at0, q_atS, q_st0, q_stS, q_iteT, q_iteF, q_isB, q_gCntT])
    rw [if_pos (by cases t <;> first | rfl | (exact absurd rfl h1) | exact absurd rfl h2)]
    exact ⟨rfl, q⟩
  · unfold g_plain_word
    dsimp only [q_op, q_un, q_var, q_c, q_nil, q_cons, q_tup, q_frz, q_cel, q_lst, q_test, q_onB, q_and, q_or, q_not, q_andV, q_orV, q_notV, q_if, q_chain, q_next, q_seq, q_drop, q_ret, q_retF, q_retN, q_sif, q_break, q_cont, q_name, q_dnil, q_dcons, q_dtup, q_asg, q_set, q_par, q_for, q_range1, q_range2, q_iseq, q_ienum, q_call, q_cb, q_ncb, q_nop, q_lenset, q_mt, q_mt0, q_setix, q_augs, q_aug, q_nsl, q_onone, q_osome, q_gsl, q_raise, q_raiseF, q_try, q_lc, q_lc2, q_yes, q_wipe0, q_wipe, q_xf, q_I, q_I0, q_U, q_add, q_addT, q_addL, q_addR, q_onL, q_onSt, q_onSl, q_onSs, q_onSrct, q_onSrcl, q_eqI, q_eqB, q_eqS, q_eqN, q_isN, q_ix, q_ixL, q_in, q_len, q_sum, q_max, q_min, q_max2, q_min2, q_abs, q_int, q_tupof, q_lstof, q_sort, q_rep, q_cat, q_isi, q_isis, q_setat, q_onC, q_append, q_pop, q_popAt, q_reverse, q_insert, q_sp1, q_sp2, q_sp3, q_sp4, q_at0, q_atS, q_st0, q_stS, q_iteT, q_iteF, q_isB, q_gCntT, sp_is_row]
    have hk : ∃ k, kdOf M d0 = some k ∧ (k == Kd.tuple || k == .list) = true := by
      rcases row.kd with z | z
      · exact ⟨_, z, rfl⟩
      · exact ⟨_, z, rfl⟩
    obtain ⟨k, hk1, hk2⟩ := hk
    refine ⟨k, hk1, ?_⟩
    (try dsimp only [q_op, q_un, q_var, q_c, q_nil, q_cons, q_tup, q_frz, q_cel, q_lst, q_test, q_onB, q_and, q_or, q_not, q_andV, q_orV, q_notV, q_if, q_chain, q_next, q_seq, q_drop, q_ret, q_retF, q_retN, q_sif, q_break, q_cont, q_name, q_dnil, q_dcons, q_dtup, q_asg, q_set, q_par, q_for, q_range1, q_range2, q_iseq, q_ienum, q_call, q_cb, q_ncb, q_nop, q_lenset, q_mt, q_mt0, q_setix, q_augs, q_aug, q_nsl, q_onone, q_osome, q_gsl, q_raise, q_raiseF, q_try, q_lc, q_lc2, q_yes, q_wipe0, q_wipe, q_xf, q_I, q_I0, q_U, q_add, q_addT, q_addL, q_addR, q_onL, q_onSt, q_onSl, q_onSs, q_onSrct, q_onSrcl, q_eqI, q_eqB, q_eqS, q_eqN, q_isN, q_ix, q_ixL, q_in, q_len, q_sum, q_max, q_min, q_max2, q_min2, q_abs, q_int, q_tupof, q_lstof, q_sort, q_rep, q_cat, q_isi, q_isis, q_setat, q_onC, q_append, q_pop, q_popAt, q_reverse, q_insert, q_sp1, q_sp2, q_sp3, q_sp4, q_at0, q_atS, q_st0, q_stS, q_iteT, q_iteF, q_isB, q_gCntT])
    rw [if_neg (by rw [hk2]; decide)]
    refine ⟨by rw [sz]; decide, ?_⟩
    refine row.onSrc fun ok ho ho2 => ?_
    have hlen : (intsOf xs).length ≤ xs.length := List.length_filterMap_le _ _
    refine lc_stillD (fun x => (inI x).map D.int) ho xs [] (fun x hx N acc hz hN => ?_) (by rw [sz]; simp; omega) ?_
    · (try dsimp only [q_op, q_un, q_var, q_c, q_nil, q_cons, q_tup, q_frz, q_cel, q_lst, q_test, q_onB, q_and, q_or, q_not, q_andV, q_orV, q_notV, q_if, q_chain, q_next, q_seq, q_drop, q_ret, q_retF, q_retN, q_sif, q_break, q_cont, q_name, q_dnil, q_dcons, q_dtup, q_asg, q_set, q_par, q_for, q_range1, q_range2, q_iseq, q_ienum, q_call, q_cb, q_ncb, q_nop, q_lenset, q_mt, q_mt0, q_setix, q_augs, q_aug, q_nsl, q_onone, q_osome, q_gsl, q_raise, q_raiseF, q_try, q_lc, q_lc2, q_yes, q_wipe0, q_wipe, q_xf, q_I, q_I0, q_U, q_add, q_addT, q_addL, q_addR, q_onL, q_onSt, q_onSl, q_onSs, q_onSrct, q_onSrcl, q_eqI, q_eqB, q_eqS, q_eqN, q_isN, q_ix, q_ixL, q_in, q_len, q_sum, q_max, q_min, q_max2, q_min2, q_abs, q_int, q_tupof, q_lstof, q_sort, q_rep, q_cat, q_isi, q_isis, q_setat, q_onC, q_append, q_pop, q_popAt, q_reverse, q_insert, q_sp1, q_sp2, q_sp3, q_sp4, q_at0, q_atS, q_st0, q_stS, q_iteT, q_iteF, q_isB, q_gCntT])
      have fx : flatD x = true := List.all_eq_true.mp flat x hx
      obtain ⟨k2, kx, ki⟩ := flat_kd (M := M) fx
      dsimp only [sp_is_int, q_op, q_un, q_var, q_c, q_nil, q_cons, q_tup, q_frz, q_cel, q_lst, q_test, q_onB, q_and, q_or, q_not, q_andV, q_orV, q_notV, q_if, q_chain, q_next, q_seq, q_drop, q_ret, q_retF, q_retN, q_sif, q_break, q_cont, q_name, q_dnil, q_dcons, q_dtup, q_asg, q_set, q_par, q_for, q_range1, q_range2, q_iseq, q_ienum, q_call, q_cb, q_ncb, q_nop, q_lenset, q_mt, q_mt0, q_setix, q_augs, q_aug, q_nsl, q_onone, q_osome, q_gsl, q_raise, q_raiseF, q_try, q_lc, q_lc2, q_yes, q_wipe0, q_wipe, q_xf, q_I, q_I0, q_U, q_add, q_addT, q_addL, q_addR, q_onL, q_onSt, q_onSl, q_onSs, q_onSrct, q_onSrcl, q_eqI, q_eqB, q_eqS, q_eqN, q_isN, q_ix, q_ixL, q_in, q_len, q_sum, q_max, q_min, q_max2, q_min2, q_abs, q_int, q_tupof, q_lstof, q_sort, q_rep, q_cat, q_isi, q_isis, q_setat, q_onC, q_append, q_pop, q_popAt, q_reverse, q_insert, q_sp1, q_sp2, q_sp3, q_sp4, q_at0, q_atS, q_st0, q_stS, q_iteT, q_iteF, q_isB, q_gCntT]
      refine ⟨k2, kx, ?_⟩
      (try dsimp only [q_op, q_un, q_var, q_c, q_nil, q_cons, q_tup, q_frz, q_cel, q_lst, q_test, q_onB, q_and, q_or, q_not, q_andV, q_orV, q_notV, q_if, q_chain, q_next, q_seq, q_drop, q_ret, q_retF, q_retN, q_sif, q_break, q_cont, q_name, q_dnil, q_dcons, q_dtup, q_asg, q_set, q_par, q_for, q_range1, q_range2, q_iseq, q_ienum, q_call, q_cb, q_ncb, q_nop, q_lenset, q_mt, q_mt0, q_setix, q_augs, q_aug, q_nsl, q_onone, q_osome, q_gsl, q_raise, q_raiseF, q_try, q_lc, q_lc2, q_yes, q_wipe0, q_wipe, q_xf, q_I, q_I0, q_U, q_add, q_addT, q_addL, q_addR, q_onL, q_onSt, q_onSl, q_onSs, q_onSrct, q_onSrcl, q_eqI, q_eqB, q_eqS, q_eqN, q_isN, q_ix, q_ixL, q_in, q_len, q_sum, q_max, q_min, q_max2, q_min2, q_abs, q_int, q_tupof, q_lstof, q_sort, q_rep, q_cat, q_isi, q_isis, q_setat, q_onC, q_append, q_pop, q_popAt, q_reverse, q_insert, q_sp1, q_sp2, q_sp3, q_sp4, q_at0, q_atS, q_st0, q_stS, q_iteT, q_iteF, q_isB, q_gCntT])
      cases hki : (k2 == Kd.int) with
      | true =>
        obtain ⟨a', rfl⟩ := ki.mp hki
        rw [if_pos rfl]
        exact ⟨hz, hN⟩
      | false =>
        rw [if_neg Bool.false_ne_true]
        have : inI x = none := by
          cases x <;> first | rfl | (rw [hki] at ki; exact absurd (ki.mpr ⟨_, rfl⟩) (by simp))
        rw [this] at hN
        simpa using hN
    · have e : xs.filterMap (fun x => (inI x).map D.int) = iD (intsOf xs) := by
        show _ = (xs.filterMap inI).map D.int
        rw [List.map_filterMap]
      rw [List.nil_append, e]
      (try dsimp only [q_op, q_un, q_var, q_c, q_nil, q_cons, q_tup, q_frz, q_cel, q_lst, q_test, q_onB, q_and, q_or, q_not, q_andV, q_orV, q_notV, q_if, q_chain, q_next, q_seq, q_drop, q_ret, q_retF, q_retN, q_sif, q_break, q_cont, q_name, q_dnil, q_dcons, q_dtup, q_asg, q_set, q_par, q_for, q_range1, q_range2, q_iseq, q_ienum, q_call, q_cb, q_ncb, q_nop, q_lenset, q_mt, q_mt0, q_setix, q_augs, q_aug, q_nsl, q_onone, q_osome, q_gsl, q_raise, q_raiseF, q_try, q_lc, q_lc2, q_yes, q_wipe0, q_wipe, q_xf, q_I, q_I0, q_U, q_add, q_addT, q_addL, q_addR, q_onL, q_onSt, q_onSl, q_onSs, q_onSrct, q_onSrcl, q_eqI, q_eqB, q_eqS, q_eqN, q_isN, q_ix, q_ixL, q_in, q_len, q_sum, q_max, q_min, q_max2, q_min2, q_abs, q_int, q_tupof, q_lstof, q_sort, q_rep, q_cat, q_isi, q_isis, q_setat, q_onC, q_append, q_pop, q_popAt, q_reverse, q_insert, q_sp1, q_sp2, q_sp3, q_sp4, q_at0, q_atS, q_st0, q_stS, q_iteT, q_iteF, q_isB, q_gCntT])
      refine ⟨by rw [sz]; simp; omega, ?_⟩
      refine ⟨0, intsOf xs, rfl, ?_⟩
      dsimp only [sp_letters_of, q_op, q_un, q_var, q_c, q_nil, q_cons, q_tup, q_frz, q_cel, q_lst, q_test, q_onB, q_and, q_or, q_not, q_andV, q_orV, q_notV, q_if, q_chain, q_next, q_seq, q_drop, q_ret, q_retF, q_retN, q_sif, q_break, q_cont, q_name, q_dnil, q_dcons, q_dtup, q_asg, q_set, q_par, q_for, q_range1, q_range2, q_iseq, q_ienum, q_call, q_cb, q_ncb, q_nop, q_lenset, q_mt, q_mt0, q_setix, q_augs, q_aug, q_nsl, q_onone, q_osome, q_gsl, q_raise, q_raiseF, q_try, q_lc, q_lc2, q_yes, q_wipe0, q_wipe, q_xf, q_I, q_I0, q_U, q_add, q_addT, q_addL, q_addR, q_onL, q_onSt, q_onSl, q_onSs, q_onSrct, q_onSrcl, q_eqI, q_eqB, q_eqS, q_eqN, q_isN, q_ix, q_ixL, q_in, q_len, q_sum, q_max, q_min, q_max2, q_min2, q_abs, q_int, q_tupof, q_lstof, q_sort, q_rep, q_cat, q_isi, q_isis, q_setat, q_onC, q_append, q_pop, q_popAt, q_reverse, q_insert, q_sp1, q_sp2, q_sp3, q_sp4, q_at0, q_atS, q_st0, q_stS, q_iteT, q_iteF, q_isB, q_gCntT]
      refine ⟨_, rfl, .inr ⟨xs, row, flat, hl, ?_⟩⟩
      have q' : (match letE (1 + topI (intsOf xs)) xs with | some p => E (xBW K p) M | none => Q (.tup (iD (intsOf xs))) M) := q
      show (match letE (1 + topI (intsOf xs)) xs with | some p => E (xBW K p) M | none => Q (.tup xs) M)
      cases z : letE (1 + topI (intsOf xs)) xs with
      | some p => rw [z] at q'; exact q'
      | none =>
        rw [z] at q'
        have := (letE_none z).1
        rw [← this] at q'
        exact q'
theorem b_alike_words : ∀ d0 d1 M Q E, sp_alike_words K [d0, d1] M Q E → g_alike_words K { nx := fun _ M => Q .non M, rt := Q, ex := fun x _ M => E x M } [some d0, some d1, none, none] M := by
  rintro d0 d1 M Q E h
  unfold sp_alike_words at h
  dsimp only [q_op, q_un, q_var, q_c, q_nil, q_cons, q_tup, q_frz, q_cel, q_lst, q_test, q_onB, q_and, q_or, q_not, q_andV, q_orV, q_notV, q_if, q_chain, q_next, q_seq, q_drop, q_ret, q_retF, q_retN, q_sif, q_break, q_cont, q_name, q_dnil, q_dcons, q_dtup, q_asg, q_set, q_par, q_for, q_range1, q_range2, q_iseq, q_ienum, q_call, q_cb, q_ncb, q_nop, q_lenset, q_mt, q_mt0, q_setix, q_augs, q_aug, q_nsl, q_onone, q_osome, q_gsl, q_raise, q_raiseF, q_try, q_lc, q_lc2, q_yes, q_wipe0, q_wipe, q_xf, q_I, q_I0, q_U, q_add, q_addT, q_addL, q_addR, q_onL, q_onSt, q_onSl, q_onSs, q_onSrct, q_onSrcl, q_eqI, q_eqB, q_eqS, q_eqN, q_isN, q_ix, q_ixL, q_in, q_len, q_sum, q_max, q_min, q_max2, q_min2, q_abs, q_int, q_tupof, q_lstof, q_sort, q_rep, q_cat, q_isi, q_isis, q_setat, q_onC, q_append, q_pop, q_popAt, q_reverse, q_insert, q_sp1, q_sp2, q_sp3, q_sp4, q_at0, q_atS, q_st0, q_stS, q_iteT, q_iteF, q_isB, q_gCntT] at h
  unfold alikeC at h
  unfold g_alike_words
  dsimp only [q_op, q_un, q_var, q_c, q_nil, q_cons, q_tup, q_frz, q_cel, q_lst, q_test, q_onB, q_and, q_or, q_not, q_andV, q_orV, q_notV, q_if, q_chain, q_next, q_seq, q_drop, q_ret, q_retF, q_retN, q_sif, q_break, q_cont, q_name, q_dnil, q_dcons, q_dtup, q_asg, q_set, q_par, q_for, q_range1, q_range2, q_iseq, q_ienum, q_call, q_cb, q_ncb, q_nop, q_lenset, q_mt, q_mt0, q_setix, q_augs, q_aug, q_nsl, q_onone, q_osome, q_gsl, q_raise, q_raiseF, q_try, q_lc, q_lc2, q_yes, q_wipe0, q_wipe, q_xf, q_I, q_I0, q_U, q_add, q_addT, q_addL, q_addR, q_onL, q_onSt, q_onSl, q_onSs, q_onSrct, q_onSrcl, q_eqI, q_eqB, q_eqS, q_eqN, q_isN, q_ix, q_ixL, q_in, q_len, q_sum, q_max, q_min, q_max2, q_min2, q_abs, q_int, q_tupof, q_lstof, q_sort, q_rep, q_cat, q_isi, q_isis, q_setat, q_onC, q_append, q_pop, q_popAt, q_reverse, q_insert, q_sp1, q_sp2, q_sp3, q_sp4, q_at0, q_atS, q_st0, q_stS, q_iteT, q_iteF, q_isB, q_gCntT, sp_plain_word]
  refine plainC_mono (fun one h => ?_) h
  (try dsimp only [q_op, q_un, q_var, q_c, q_nil, q_cons, q_tup, q_frz, q_cel, q_lst, q_test, q_onB, q_and, q_or, q_not, q_andV, q_orV, q_notV, q_if, q_chain, q_next, q_seq, q_drop, q_ret, q_retF, q_retN, q_sif, q_break, q_cont, q_name, q_dnil, q_dcons, q_dtup, q_asg, q_set, q_par, q_for, q_range1, q_range2, q_iseq, q_ienum, q_call, q_cb, q_ncb, q_nop, q_lenset, q_mt, q_mt0, q_setix, q_augs, q_aug, q_nsl, q_onone, q_osome, q_gsl, q_raise, q_raiseF, q_try, q_lc, q_lc2, q_yes, q_wipe0, q_wipe, q_xf, q_I, q_I0, q_U, q_add, q_addT, q_addL, q_addR, q_onL, q_onSt, q_onSl, q_onSs, q_onSrct, q_onSrcl, q_eqI, q_eqB, q_eqS, q_eqN, q_isN, q_ix, q_ixL, q_in, q_len, q_sum, q_max, q_min, q_max2, q_min2, q_abs, q_int, q_tupof, q_lstof, q_sort, q_rep, q_cat, q_isi, q_isis, q_setat, q_onC, q_append, q_pop, q_popAt, q_reverse, q_insert, q_sp1, q_sp2, q_sp3, q_sp4, q_at0, q_atS, q_st0, q_stS, q_iteT, q_iteF, q_isB, q_gCntT])
  refine plainC_mono (fun two h => ?_) h
  (try dsimp only [q_op, q_un, q_var, q_c, q_nil, q_cons, q_tup, q_frz, q_cel, q_lst, q_test, q_onB, q_and, q_or, q_not, q_andV, q_orV, q_notV, q_if, q_chain, q_next, q_seq, q_drop, q_ret, q_retF, q_retN, q_sif, q_break, q_cont, q_name, q_dnil, q_dcons, q_dtup, q_asg, q_set, q_par, q_for, q_range1, q_range2, q_iseq, q_ienum, q_call, q_cb, q_ncb, q_nop, q_lenset, q_mt, q_mt0, q_setix, q_augs, q_aug, q_nsl, q_onone, q_osome, q_gsl, q_raise, q_raiseF, q_try, q_lc, q_lc2, q_yes, q_wipe0, q_wipe, q_xf, q_I, q_I0, q_U, q_add, q_addT, q_addL, q_addR, q_onL, q_onSt, q_onSl, q_onSs, q_onSrct, q_onSrcl, q_eqI, q_eqB, q_eqS, q_eqN, q_isN, q_ix, q_ixL, q_in, q_len, q_sum, q_max, q_min, q_max2, q_min2, q_abs, q_int, q_tupof, q_lstof, q_sort, q_rep, q_cat, q_isi, q_isis, q_setat, q_onC, q_append, q_pop, q_popAt, q_reverse, q_insert, q_sp1, q_sp2, q_sp3, q_sp4, q_at0, q_atS, q_st0, q_stS, q_iteT, q_iteF, q_isB, q_gCntT])
  by_cases c : one.length ≠ two.length
  · rw [if_pos c] at h
    rw [if_pos (by simp; omega)]
    refine ⟨rfl, ?_⟩
    simp only [List.length_map]
    exact h
  · rw [if_neg c] at h
    rw [if_neg (by simp; omega)]
    refine ⟨one, rfl, two, rfl, ?_⟩
    refine eq_datD (α := List Int) (sortI one) (sortI two) ?_
    (try dsimp only [q_op, q_un, q_var, q_c, q_nil, q_cons, q_tup, q_frz, q_cel, q_lst, q_test, q_onB, q_and, q_or, q_not, q_andV, q_orV, q_notV, q_if, q_chain, q_next, q_seq, q_drop, q_ret, q_retF, q_retN, q_sif, q_break, q_cont, q_name, q_dnil, q_dcons, q_dtup, q_asg, q_set, q_par, q_for, q_range1, q_range2, q_iseq, q_ienum, q_call, q_cb, q_ncb, q_nop, q_lenset, q_mt, q_mt0, q_setix, q_augs, q_aug, q_nsl, q_onone, q_osome, q_gsl, q_raise, q_raiseF, q_try, q_lc, q_lc2, q_yes, q_wipe0, q_wipe, q_xf, q_I, q_I0, q_U, q_add, q_addT, q_addL, q_addR, q_onL, q_onSt, q_onSl, q_onSs, q_onSrct, q_onSrcl, q_eqI, q_eqB, q_eqS, q_eqN, q_isN, q_ix, q_ixL, q_in, q_len, q_sum, q_max, q_min, q_max2, q_min2, q_abs, q_int, q_tupof, q_lstof, q_sort, q_rep, q_cat, q_isi, q_isis, q_setat, q_onC, q_append, q_pop, q_popAt, q_reverse, q_insert, q_sp1, q_sp2, q_sp3, q_sp4, q_at0, q_atS, q_st0, q_stS, q_iteT, q_iteF, q_isB, q_gCntT])
    by_cases c2 : sortI one ≠ sortI two
    · rw [if_pos c2] at h
      rw [if_pos (by simp [c2])]
      exact ⟨rfl, h⟩
    · rw [if_neg c2] at h
      rw [if_neg (by simp; exact Decidable.not_not.mp c2)]
      exact ⟨by rw [sz]; show 2 ≤ 16777216; decide, h⟩
theorem placesFrom_eq (i : Int) : ∀ (l : List Int) (k : Nat), placesFrom i l k = (l.zipIdx k).filterMap fun p => if p.1 = i then some (p.2 : Int) else none
  | [], _ => rfl
  | a :: l, k => by
    unfold placesFrom
    rw [List.zipIdx_cons, placesFrom_eq i l (k + 1)]
    by_cases c : a = i
    · rw [if_pos c, List.filterMap_cons_some (b := (k : Int)) (by simp [c])]
    · rw [if_neg c, List.filterMap_cons_none (by simp [c])]
theorem enD_iD (ns : List Int) : enD (iD ns) = ns.zipIdx.map fun p => D.tup [.int (p.2 : Nat), .int p.1] := by
  unfold enD
  rw [List.zipIdx_map, List.map_map]
  rfl
theorem b_places_of : ∀ d0 d1 M Q E, sp_places_of K [d0, d1] M Q E → g_places_of K { nx := fun _ M => Q .non M, rt := Q, ex := fun x _ M => E x M } [some d0, some d1, none, none] M := by
  rintro d0 d1 M Q E ⟨ns, i, row, rfl, hl, q⟩
  unfold g_places_of
  (try dsimp only [q_op, q_un, q_var, q_c, q_nil, q_cons, q_tup, q_frz, q_cel, q_lst, q_test, q_onB, q_and, q_or, q_not, q_andV, q_orV, q_notV, q_if, q_chain, q_next, q_seq, q_drop, q_ret, q_retF, q_retN, q_sif, q_break, q_cont, q_name, q_dnil, q_dcons, q_dtup, q_asg, q_set, q_par, q_for, q_range1, q_range2, q_iseq, q_ienum, q_call, q_cb, q_ncb, q_nop, q_lenset, q_mt, q_mt0, q_setix, q_augs, q_aug, q_nsl, q_onone, q_osome, q_gsl, q_raise, q_raiseF, q_try, q_lc, q_lc2, q_yes, q_wipe0, q_wipe, q_xf, q_I, q_I0, q_U, q_add, q_addT, q_addL, q_addR, q_onL, q_onSt, q_onSl, q_onSs, q_onSrct, q_onSrcl, q_eqI, q_eqB, q_eqS, q_eqN, q_isN, q_ix, q_ixL, q_in, q_len, q_sum, q_max, q_min, q_max2, q_min2, q_abs, q_int, q_tupof, q_lstof, q_sort, q_rep, q_cat, q_isi, q_isis, q_setat, q_onC, q_append, q_pop, q_popAt, q_reverse, q_insert, q_sp1, q_sp2, q_sp3, q_sp4, q_at0, q_atS, q_st0, q_stS, q_iteT, q_iteF, q_isB, q_gCntT])
  refine row.onSrc fun ok ho ho2 => ?_
  dsimp only
  rw [enD_iD]
  refine lc_still (fun p : Int × Nat => D.tup [.int (p.2 : Nat), .int p.1]) (fun p => if p.1 = i then some (.int (p.2 : Nat)) else none) ho _ [] (fun p hp N acc hz hN => ?_) (by rw [sz]; simp; omega) ?_
  · (try dsimp only [q_op, q_un, q_var, q_c, q_nil, q_cons, q_tup, q_frz, q_cel, q_lst, q_test, q_onB, q_and, q_or, q_not, q_andV, q_orV, q_notV, q_if, q_chain, q_next, q_seq, q_drop, q_ret, q_retF, q_retN, q_sif, q_break, q_cont, q_name, q_dnil, q_dcons, q_dtup, q_asg, q_set, q_par, q_for, q_range1, q_range2, q_iseq, q_ienum, q_call, q_cb, q_ncb, q_nop, q_lenset, q_mt, q_mt0, q_setix, q_augs, q_aug, q_nsl, q_onone, q_osome, q_gsl, q_raise, q_raiseF, q_try, q_lc, q_lc2, q_yes, q_wipe0, q_wipe, q_xf, q_I, q_I0, q_U, q_add, q_addT, q_addL, q_addR, q_onL, q_onSt, q_onSl, q_onSs, q_onSrct, q_onSrcl, q_eqI, q_eqB, q_eqS, q_eqN, q_isN, q_ix, q_ixL, q_in, q_len, q_sum, q_max, q_min, q_max2, q_min2, q_abs, q_int, q_tupof, q_lstof, q_sort, q_rep, q_cat, q_isi, q_isis, q_setat, q_onC, q_append, q_pop, q_popAt, q_reverse, q_insert, q_sp1, q_sp2, q_sp3, q_sp4, q_at0, q_atS, q_st0, q_stS, q_iteT, q_iteF, q_isB, q_gCntT])
    refine ⟨rfl, ?_⟩
    (try dsimp only [q_op, q_un, q_var, q_c, q_nil, q_cons, q_tup, q_frz, q_cel, q_lst, q_test, q_onB, q_and, q_or, q_not, q_andV, q_orV, q_notV, q_if, q_chain, q_next, q_seq, q_drop, q_ret, q_retF, q_retN, q_sif, q_break, q_cont, q_name, q_dnil, q_dcons, q_dtup, q_asg, q_set, q_par, q_for, q_range1, q_range2, q_iseq, q_ienum, q_call, q_cb, q_ncb, q_nop, q_lenset, q_mt, q_mt0, q_setix, q_augs, q_aug, q_nsl, q_onone, q_osome, q_gsl, q_raise, q_raiseF, q_try, q_lc, q_lc2, q_yes, q_wipe0, q_wipe, q_xf, q_I, q_I0, q_U, q_add, q_addT, q_addL, q_addR, q_onL, q_onSt, q_onSl, q_onSs, q_onSrct, q_onSrcl, q_eqI, q_eqB, q_eqS, q_eqN, q_isN, q_ix, q_ixL, q_in, q_len, q_sum, q_max, q_min, q_max2, q_min2, q_abs, q_int, q_tupof, q_lstof, q_sort, q_rep, q_cat, q_isi, q_isis, q_setat, q_onC, q_append, q_pop, q_popAt, q_reverse, q_insert, q_sp1, q_sp2, q_sp3, q_sp4, q_at0, q_atS, q_st0, q_stS, q_iteT, q_iteF, q_isB, q_gCntT])
    refine ⟨rfl, ?_⟩
    by_cases c : p.1 = i
    · rw [if_pos (by simpa using c)]
      rw [if_pos c] at hN
      exact ⟨hz, hN⟩
    · rw [if_neg (by simpa using c)]
      rw [if_neg c] at hN
      simpa using hN
  · rw [List.nil_append]
    have e : (ns.zipIdx.filterMap fun p => if p.1 = i then some (D.int (p.2 : Nat)) else none) = iD (placesOf ns i) := by
      unfold placesOf
      rw [placesFrom_eq]
      show _ = List.map D.int _
      rw [List.map_filterMap]
      congr 1
      funext p
      split <;> rfl
    rw [e]
    exact q
theorem lc2_still {ok : Mem → Prop} {dg dg1 : DG} {tt tt1 : DT} {gi1 : DI} {te : DE} {vs1 : List Nat} {ρw : Dv} {M : Mem} {Q : List D → Mem → Prop} {α : Type} (v : α → D) (f : α → List D) (ho : ok M) (T : Nat) :
    ∀ (xs : List α) (acc : List D), (∀ x ∈ xs, ∀ (N : List D → Mem → Prop) (acc : List D), acc.length + (f x).length ≤ T → N (acc ++ f x) M → dg (v x) ρw M fun ρ1 M1 => tt E0 ρ1 M1 fun b M2 => if b = true then gi1 E0 ρ1 M2 fun src1 M3 => lcD src1.ok dg1 tt1 te (wipeD ρ1 vs1) src1.items acc M3 N else N acc M2) →
      acc.length + (xs.flatMap f).length ≤ T → Q (acc ++ xs.flatMap f) M → lcD2 ok dg tt gi1 dg1 tt1 te vs1 ρw (xs.map v) acc M Q
  | [], acc, _, _, q => by
    unfold lcD2
    simp only [List.flatMap_nil, List.append_nil] at q
    exact ⟨ho, q⟩
  | x :: xs, acc, h, hl, q => by
    rw [List.map_cons]
    unfold lcD2
    rw [List.flatMap_cons, List.length_append] at hl
    refine ⟨ho, h x (by simp) (fun l M' => lcD2 ok dg tt gi1 dg1 tt1 te vs1 ρw (xs.map v) l M' Q) acc (by omega) ?_⟩
    refine lc2_still v f ho T xs _ (fun y hy => h y (List.mem_cons_of_mem _ hy)) (by rw [List.length_append]; omega) ?_
    rw [List.flatMap_cons, ← List.append_assoc] at q
    exact q
theorem pairs_len (n : Nat) : ∀ m : Nat, (((List.range m).flatMap fun i => (List.range (n - (i + 1))).map fun j => ((i : Int), ((i + 1 + j : Nat) : Int)))).length ≤ m * n
  | 0 => by simp
  | m + 1 => by
    rw [List.range_succ, List.flatMap_append, List.length_append]
    have h1 := pairs_len n m
    have h2 : (([m] : List Nat).flatMap fun i => (List.range (n - (i + 1))).map fun j => ((i : Int), ((i + 1 + j : Nat) : Int))).length = n - (m + 1) := by simp
    rw [h2, Nat.succ_mul]
    omega
/-- the cells of one row -/
def rowC (one two : List Int) (i j : Int) (x k : Nat) : List (Int × Int × Bool) := (List.range k).filterMap fun y => cellAt (placesOf one i) (placesOf one j) (placesOf two i) (placesOf two j) x y
theorem rowC_len (one two : List Int) (i j : Int) (x k : Nat) : (rowC one two i j x k).length ≤ k := by
  have := List.length_filterMap_le (fun y => cellAt (placesOf one i) (placesOf one j) (placesOf two i) (placesOf two j) x y) (List.range k)
  unfold rowC
  simpa using this
theorem rows_len (one two : List Int) (i j : Int) (k : Nat) : ∀ x : Nat, ((List.range x).flatMap fun x => rowC one two i j x k).length ≤ x * k
  | 0 => by simp
  | x + 1 => by
    rw [List.range_succ, List.flatMap_append, List.length_append]
    have h1 := rows_len one two i j k x
    have h2 : (([x] : List Nat).flatMap fun x => rowC one two i j x k).length ≤ k := by simpa using rowC_len one two i j x k
    rw [Nat.succ_mul]
    omega
theorem placesFrom_len (i : Int) : ∀ (l : List Int) (k : Nat), (placesFrom i l k).length = l.count i
  | [], _ => rfl
  | a :: l, k => by
    unfold placesFrom
    by_cases c : a = i
    · subst c; rw [if_pos rfl, List.length_cons, placesFrom_len a l, List.count_cons_self]
    · rw [if_neg c, placesFrom_len i l, List.count_cons_of_ne c]
theorem placesOf_len (l : List Int) (i : Int) : (placesOf l i).length = l.count i := placesFrom_len i l 0
theorem sort_count {one two : List Int} (h : sortI one = sortI two) (i : Int) : one.count i = two.count i := by
  rw [← (sortI_perm one).count_eq i, h, (sortI_perm two).count_eq i]
theorem atI_iD {ns : List Int} {i : Nat} (h : i < ns.length) : atI (iD ns) ((i : Nat) : Int) = some (.int (ns.getD i 0)) := by
  rw [atI_nat (by simpa using h)]
  simp [List.getD, h]
theorem b_sided_cells : ∀ d0 d1 d2 d3 M Q E, sp_sided_cells K [d0, d1, d2, d3] M Q E → g_sided_cells K { nx := fun _ M => Q .non M, rt := Q, ex := fun x _ M => E x M } [some d0, some d1, some d2, some d3, none, none, none, none, none, none, none, none] M := by
  rintro d0 d1 d2 d3 M Q E ⟨one, two, i, j, r1, r2, rfl, rfl, hl, hs, q⟩
  have hl2 : two.length < 4000 := by
    have h1 := (sortI_perm one).length_eq
    have h2 := (sortI_perm two).length_eq
    rw [hs] at h1; omega
  unfold g_sided_cells
  dsimp only [q_op, q_un, q_var, q_c, q_nil, q_cons, q_tup, q_frz, q_cel, q_lst, q_test, q_onB, q_and, q_or, q_not, q_andV, q_orV, q_notV, q_if, q_chain, q_next, q_seq, q_drop, q_ret, q_retF, q_retN, q_sif, q_break, q_cont, q_name, q_dnil, q_dcons, q_dtup, q_asg, q_set, q_par, q_for, q_range1, q_range2, q_iseq, q_ienum, q_call, q_cb, q_ncb, q_nop, q_lenset, q_mt, q_mt0, q_setix, q_augs, q_aug, q_nsl, q_onone, q_osome, q_gsl, q_raise, q_raiseF, q_try, q_lc, q_lc2, q_yes, q_wipe0, q_wipe, q_xf, q_I, q_I0, q_U, q_add, q_addT, q_addL, q_addR, q_onL, q_onSt, q_onSl, q_onSs, q_onSrct, q_onSrcl, q_eqI, q_eqB, q_eqS, q_eqN, q_isN, q_ix, q_ixL, q_in, q_len, q_sum, q_max, q_min, q_max2, q_min2, q_abs, q_int, q_tupof, q_lstof, q_sort, q_rep, q_cat, q_isi, q_isis, q_setat, q_onC, q_append, q_pop, q_popAt, q_reverse, q_insert, q_sp1, q_sp2, q_sp3, q_sp4, q_at0, q_atS, q_st0, q_stS, q_iteT, q_iteF, q_isB, q_gCntT, sp_places_of]
  refine ⟨one, i, r1, rfl, hl, one, j, r1, rfl, hl, ?_⟩
  (try dsimp only [q_op, q_un, q_var, q_c, q_nil, q_cons, q_tup, q_frz, q_cel, q_lst, q_test, q_onB, q_and, q_or, q_not, q_andV, q_orV, q_notV, q_if, q_chain, q_next, q_seq, q_drop, q_ret, q_retF, q_retN, q_sif, q_break, q_cont, q_name, q_dnil, q_dcons, q_dtup, q_asg, q_set, q_par, q_for, q_range1, q_range2, q_iseq, q_ienum, q_call, q_cb, q_ncb, q_nop, q_lenset, q_mt, q_mt0, q_setix, q_augs, q_aug, q_nsl, q_onone, q_osome, q_gsl, q_raise, q_raiseF, q_try, q_lc, q_lc2, q_yes, q_wipe0, q_wipe, q_xf, q_I, q_I0, q_U, q_add, q_addT, q_addL, q_addR, q_onL, q_onSt, q_onSl, q_onSs, q_onSrct, q_onSrcl, q_eqI, q_eqB, q_eqS, q_eqN, q_isN, q_ix, q_ixL, q_in, q_len, q_sum, q_max, q_min, q_max2, q_min2, q_abs, q_int, q_tupof, q_lstof, q_sort, q_rep, q_cat, q_isi, q_isis, q_setat, q_onC, q_append, q_pop, q_popAt, q_reverse, q_insert, q_sp1, q_sp2, q_sp3, q_sp4, q_at0, q_atS, q_st0, q_stS, q_iteT, q_iteF, q_isB, q_gCntT])
  refine ⟨two, i, r2, rfl, hl2, two, j, r2, rfl, hl2, ?_⟩
  (try dsimp only [q_op, q_un, q_var, q_c, q_nil, q_cons, q_tup, q_frz, q_cel, q_lst, q_test, q_onB, q_and, q_or, q_not, q_andV, q_orV, q_notV, q_if, q_chain, q_next, q_seq, q_drop, q_ret, q_retF, q_retN, q_sif, q_break, q_cont, q_name, q_dnil, q_dcons, q_dtup, q_asg, q_set, q_par, q_for, q_range1, q_range2, q_iseq, q_ienum, q_call, q_cb, q_ncb, q_nop, q_lenset, q_mt, q_mt0, q_setix, q_augs, q_aug, q_nsl, q_onone, q_osome, q_gsl, q_raise, q_raiseF, q_try, q_lc, q_lc2, q_yes, q_wipe0, q_wipe, q_xf, q_I, q_I0, q_U, q_add, q_addT, q_addL, q_addR, q_onL, q_onSt, q_onSl, q_onSs, q_onSrct, q_onSrcl, q_eqI, q_eqB, q_eqS, q_eqN, q_isN, q_ix, q_ixL, q_in, q_len, q_sum, q_max, q_min, q_max2, q_min2, q_abs, q_int, q_tupof, q_lstof, q_sort, q_rep, q_cat, q_isi, q_isis, q_setat, q_onC, q_append, q_pop, q_popAt, q_reverse, q_insert, q_sp1, q_sp2, q_sp3, q_sp4, q_at0, q_atS, q_st0, q_stS, q_iteT, q_iteF, q_isB, q_gCntT])
  refine ⟨Nat.zero_le _, fun p hp => ?_⟩
  have c1 : (placesOf one i).length ≤ 4000 := by rw [placesOf_len]; exact Nat.le_trans List.count_le_length (Nat.le_of_lt hl)
  have c2 : (placesOf one j).length ≤ 4000 := by rw [placesOf_len]; exact Nat.le_trans List.count_le_length (Nat.le_of_lt hl)
  have e1 : (placesOf two i).length = (placesOf one i).length := by rw [placesOf_len, placesOf_len, sort_count hs]
  have e2 : (placesOf two j).length = (placesOf one j).length := by rw [placesOf_len, placesOf_len, sort_count hs]
  generalize hm : (placesOf one i).length = m at *
  generalize hn : (placesOf one j).length = n at *
  simp only [List.length_map, hm, hn, Int.toNat_natCast]
  refine ⟨⟨by omega, by omega⟩, ?_⟩
  refine loop_inv (fun x ρ M' => (∃ a b c, ρ = [some d0, some d1, some (.int i), some (.int j), some (.lst (iD (placesOf one i))), some (.lst (iD (placesOf one j))), some (.lst (iD (placesOf two i))), some (.lst (iD (placesOf two j))), some (.ref p), a, b, c]) ∧
    M' = mset M p (.lst (((List.range x).flatMap fun x => rowC one two i j x n).map cellD))) (fun _ _ _ _ _ => trivial) ?_ dName_mono ?_ ⟨⟨_, _, _, rfl⟩, rfl⟩
  · rintro x ρ M' d hd ⟨⟨a, b, c, rfl⟩, rfl⟩
    obtain ⟨hx, rfl⟩ : x < m ∧ d = .int (0 + (x : Nat)) := by
      unfold rgD at hd
      rw [List.getElem?_map] at hd
      by_cases hx : x < m
      · rw [List.getElem?_range hx] at hd
        cases hd
        exact ⟨hx, rfl⟩
      · rw [List.getElem?_eq_none (by simpa using hx)] at hd
        cases hd
    (try dsimp only [q_op, q_un, q_var, q_c, q_nil, q_cons, q_tup, q_frz, q_cel, q_lst, q_test, q_onB, q_and, q_or, q_not, q_andV, q_orV, q_notV, q_if, q_chain, q_next, q_seq, q_drop, q_ret, q_retF, q_retN, q_sif, q_break, q_cont, q_name, q_dnil, q_dcons, q_dtup, q_asg, q_set, q_par, q_for, q_range1, q_range2, q_iseq, q_ienum, q_call, q_cb, q_ncb, q_nop, q_lenset, q_mt, q_mt0, q_setix, q_augs, q_aug, q_nsl, q_onone, q_osome, q_gsl, q_raise, q_raiseF, q_try, q_lc, q_lc2, q_yes, q_wipe0, q_wipe, q_xf, q_I, q_I0, q_U, q_add, q_addT, q_addL, q_addR, q_onL, q_onSt, q_onSl, q_onSs, q_onSrct, q_onSrcl, q_eqI, q_eqB, q_eqS, q_eqN, q_isN, q_ix, q_ixL, q_in, q_len, q_sum, q_max, q_min, q_max2, q_min2, q_abs, q_int, q_tupof, q_lstof, q_sort, q_rep, q_cat, q_isi, q_isis, q_setat, q_onC, q_append, q_pop, q_popAt, q_reverse, q_insert, q_sp1, q_sp2, q_sp3, q_sp4, q_at0, q_atS, q_st0, q_stS, q_iteT, q_iteF, q_isB, q_gCntT])
    intro Nx hN
    simp only [List.length_map, hn, Int.toNat_natCast]
    refine ⟨⟨by omega, by omega⟩, ?_⟩
    refine loop_inv (fun y ρ M' => (∃ b c, ρ = [some d0, some d1, some (.int i), some (.int j), some (.lst (iD (placesOf one i))), some (.lst (iD (placesOf one j))), some (.lst (iD (placesOf two i))), some (.lst (iD (placesOf two j))), some (.ref p), some (.int (0 + (x : Nat))), b, c]) ∧
      M' = mset M p (.lst ((((List.range x).flatMap fun x => rowC one two i j x n) ++ rowC one two i j x y).map cellD))) (fun _ _ _ _ _ => trivial) ?_ dName_mono ?_ ⟨⟨_, _, rfl⟩, by simp [rowC]⟩
    · rintro y ρ M' d hd ⟨⟨b, c, rfl⟩, rfl⟩
      obtain ⟨hy, rfl⟩ : y < n ∧ d = .int (0 + (y : Nat)) := by
        unfold rgD at hd
        rw [List.getElem?_map] at hd
        by_cases hx : y < n
        · rw [List.getElem?_range hx] at hd
          cases hd
          exact ⟨hx, rfl⟩
        · rw [List.getElem?_eq_none (by simpa using hx)] at hd
          cases hd
      (try dsimp only [q_op, q_un, q_var, q_c, q_nil, q_cons, q_tup, q_frz, q_cel, q_lst, q_test, q_onB, q_and, q_or, q_not, q_andV, q_orV, q_notV, q_if, q_chain, q_next, q_seq, q_drop, q_ret, q_retF, q_retN, q_sif, q_break, q_cont, q_name, q_dnil, q_dcons, q_dtup, q_asg, q_set, q_par, q_for, q_range1, q_range2, q_iseq, q_ienum, q_call, q_cb, q_ncb, q_nop, q_lenset, q_mt, q_mt0, q_setix, q_augs, q_aug, q_nsl, q_onone, q_osome, q_gsl, q_raise, q_raiseF, q_try, q_lc, q_lc2, q_yes, q_wipe0, q_wipe, q_xf, q_I, q_I0, q_U, q_add, q_addT, q_addL, q_addR, q_onL, q_onSt, q_onSl, q_onSs, q_onSrct, q_onSrcl, q_eqI, q_eqB, q_eqS, q_eqN, q_isN, q_ix, q_ixL, q_in, q_len, q_sum, q_max, q_min, q_max2, q_min2, q_abs, q_int, q_tupof, q_lstof, q_sort, q_rep, q_cat, q_isi, q_isis, q_setat, q_onC, q_append, q_pop, q_popAt, q_reverse, q_insert, q_sp1, q_sp2, q_sp3, q_sp4, q_at0, q_atS, q_st0, q_stS, q_iteT, q_iteF, q_isB, q_gCntT])
      intro Ny hNy
      have z0 : ∀ k : Nat, (0 + (k : Int)) = k := fun k => by omega
      simp only [z0]
      refine ⟨_, atI_iD (by omega), _, atI_iD (by omega), _, atI_iD (by omega), _, atI_iD (by omega), ?_⟩
      (try dsimp only [q_op, q_un, q_var, q_c, q_nil, q_cons, q_tup, q_frz, q_cel, q_lst, q_test, q_onB, q_and, q_or, q_not, q_andV, q_orV, q_notV, q_if, q_chain, q_next, q_seq, q_drop, q_ret, q_retF, q_retN, q_sif, q_break, q_cont, q_name, q_dnil, q_dcons, q_dtup, q_asg, q_set, q_par, q_for, q_range1, q_range2, q_iseq, q_ienum, q_call, q_cb, q_ncb, q_nop, q_lenset, q_mt, q_mt0, q_setix, q_augs, q_aug, q_nsl, q_onone, q_osome, q_gsl, q_raise, q_raiseF, q_try, q_lc, q_lc2, q_yes, q_wipe0, q_wipe, q_xf, q_I, q_I0, q_U, q_add, q_addT, q_addL, q_addR, q_onL, q_onSt, q_onSl, q_onSs, q_onSrct, q_onSrcl, q_eqI, q_eqB, q_eqS, q_eqN, q_isN, q_ix, q_ixL, q_in, q_len, q_sum, q_max, q_min, q_max2, q_min2, q_abs, q_int, q_tupof, q_lstof, q_sort, q_rep, q_cat, q_isi, q_isis, q_setat, q_onC, q_append, q_pop, q_popAt, q_reverse, q_insert, q_sp1, q_sp2, q_sp3, q_sp4, q_at0, q_atS, q_st0, q_stS, q_iteT, q_iteF, q_isB, q_gCntT])
      have hb : (((List.range x).flatMap fun x => rowC one two i j x n) ++ rowC one two i j x y).length < 16777216 := by
        rw [List.length_append]
        have h1 := rows_len one two i j n x
        have h2 := rowC_len one two i j x y
        have h3 : x * n ≤ 4000 * 4000 := Nat.mul_le_mul (by omega) (by omega)
        omega
      have hr : rowC one two i j x (y + 1) = rowC one two i j x y ++ (cellAt (placesOf one i) (placesOf one j) (placesOf two i) (placesOf two j) x y).toList := by
        unfold rowC
        rw [List.range_succ, List.filterMap_append]
        apply congrArg
        cases z : cellAt (placesOf one i) (placesOf one j) (placesOf two i) (placesOf two j) x y with
        | none => rw [List.filterMap_cons_none z]; try rfl
        | some v => rw [List.filterMap_cons_some z]; try rfl
      by_cases hc : decide ((placesOf one i).getD x 0 < (placesOf one j).getD y 0) = decide ((placesOf two i).getD x 0 < (placesOf two j).getD y 0)
      · rw [if_neg (by simpa using hc)]
        refine hNy _ _ ⟨⟨_, _, by simp only [z0]; rfl⟩, ?_⟩
        rw [hr, show cellAt (placesOf one i) (placesOf one j) (placesOf two i) (placesOf two j) x y = none from if_pos hc]
        simp
      · rw [if_pos (by simpa using hc)]
        refine ⟨onL_ref mset_same trivial, by rw [sz]; show 3 ≤ 16777216; decide, _, mset_same, by rw [sz, List.length_map]; exact hb, ?_⟩
        refine hNy _ _ ⟨⟨_, _, by simp only [z0]; rfl⟩, ?_⟩
        rw [mset_mset, hr, show cellAt (placesOf one i) (placesOf one j) (placesOf two i) (placesOf two j) x y = some _ from if_neg hc]
        simp [cellD]
    · rintro ρ M' ⟨⟨b, c, rfl⟩, rfl⟩
      refine hN _ _ ⟨⟨_, _, _, rfl⟩, ?_⟩
      rw [List.range_succ, List.flatMap_append]
      simp [rgD]
  · rintro ρ M' ⟨⟨a, b, c, rfl⟩, rfl⟩
    (try dsimp only [q_op, q_un, q_var, q_c, q_nil, q_cons, q_tup, q_frz, q_cel, q_lst, q_test, q_onB, q_and, q_or, q_not, q_andV, q_orV, q_notV, q_if, q_chain, q_next, q_seq, q_drop, q_ret, q_retF, q_retN, q_sif, q_break, q_cont, q_name, q_dnil, q_dcons, q_dtup, q_asg, q_set, q_par, q_for, q_range1, q_range2, q_iseq, q_ienum, q_call, q_cb, q_ncb, q_nop, q_lenset, q_mt, q_mt0, q_setix, q_augs, q_aug, q_nsl, q_onone, q_osome, q_gsl, q_raise, q_raiseF, q_try, q_lc, q_lc2, q_yes, q_wipe0, q_wipe, q_xf, q_I, q_I0, q_U, q_add, q_addT, q_addL, q_addR, q_onL, q_onSt, q_onSl, q_onSs, q_onSrct, q_onSrcl, q_eqI, q_eqB, q_eqS, q_eqN, q_isN, q_ix, q_ixL, q_in, q_len, q_sum, q_max, q_min, q_max2, q_min2, q_abs, q_int, q_tupof, q_lstof, q_sort, q_rep, q_cat, q_isi, q_isis, q_setat, q_onC, q_append, q_pop, q_popAt, q_reverse, q_insert, q_sp1, q_sp2, q_sp3, q_sp4, q_at0, q_atS, q_st0, q_stS, q_iteT, q_iteF, q_isB, q_gCntT])
    refine ret_lst (MemUp.add hp) hp mset_same ?_
    unfold cellsF at q
    rw [hm, hn] at q
    have : (rgD 0 m).length = m := by simp [rgD]
    rw [this]
    exact q
end
end LW

namespace LW
open PySem PySem.Spec PyProof.Rows L2 DL
section
variable {K : PySem.W.Frag}
/-- what is known of two alike words -/
structure Alike (one two : List Int) : Prop where
  len : one.length < 4000
  len2 : two.length < 4000
  sort : sortI one = sortI two
  ne : ∃ n ns, one = n :: ns
  rng : ∀ a ∈ one, 0 ≤ a ∧ a < 1 + topI one
  top : 0 ≤ topI one ∧ topI one + 1 < 4000
theorem topI_nn (ns : List Int) : 0 ≤ topI ns := (foldl_max ns 0).1
theorem ddup_le (ns : List Int) : (ddup ns).length ≤ ns.length := nodup_le (ddup_nodup ns) fun k h => (ddup_mem k ns).mp h
theorem plain_facts {xs : List D} (h : plainE xs = none) (hl : xs.length < 4000) : (intsOf xs).length < 4000 ∧ (∃ n ns, intsOf xs = n :: ns) ∧ (∀ a ∈ intsOf xs, 0 ≤ a ∧ a < 1 + topI (intsOf xs)) ∧ 0 ≤ topI (intsOf xs) ∧ topI (intsOf xs) + 1 < 4000 := by
  obtain ⟨h1, h2, h3⟩ := letE_none h
  have hle : (intsOf xs).length ≤ xs.length := List.length_filterMap_le _ _
  have hd := ddup_le (intsOf xs)
  have ht := topI_nn (intsOf xs)
  refine ⟨by omega, ?_, h2, ht, by omega⟩
  cases z : intsOf xs with
  | nil =>
    rw [z] at h3
    have : topI ([] : List Int) = 0 := rfl
    rw [this] at h3
    simp [ddup] at h3
  | cons n ns => exact ⟨n, ns, rfl⟩
theorem plainC_use {M : Mem} {d : D} {E : DXK} {k k' : List Int → Prop} (h : ∀ ns, (ns.length < 4000 ∧ (∃ n l, ns = n :: l) ∧ (∀ a ∈ ns, 0 ≤ a ∧ a < 1 + topI ns) ∧ 0 ≤ topI ns ∧ topI ns + 1 < 4000) → k ns → k' ns) : plainC K M d E k → plainC K M d E k' := by
  rintro (z | ⟨xs, r, f, l, q⟩)
  · exact .inl z
  · refine .inr ⟨xs, r, f, l, ?_⟩
    show (match plainE xs with | some p => E (xBW K p) M | none => k' (intsOf xs))
    cases e : plainE xs with
    | some p => rw [e] at q; exact q
    | none => rw [e] at q; exact h _ (plain_facts e l) q
theorem alikeC_use {M : Mem} {a b : D} {E : DXK} {k k' : List Int → List Int → Prop} (h : ∀ one two, Alike one two → k one two → k' one two) : alikeC K M a b E k → alikeC K M a b E k' :=
  plainC_use fun one f1 => plainC_use fun two f2 z => by
    split
    · rename_i c; rw [if_pos c] at z; exact z
    · rename_i c
      rw [if_neg c] at z
      split
      · rename_i c2; rw [if_pos c2] at z; exact z
      · rename_i c2
        rw [if_neg c2] at z
        exact h _ _ ⟨f1.1, f2.1, Decidable.not_not.mp c2, f1.2.1, f1.2.2.1, f1.2.2.2⟩ z
theorem max_top {one : List Int} (h1 : ∃ n ns, one = n :: ns) (h2 : ∀ a ∈ one, 0 ≤ a ∧ a < 1 + topI one) : ∃ n ns, iD one = (n :: ns).map D.int ∧ ns.foldl max n = topI one := by
  obtain ⟨n, ns, rfl⟩ := h1
  refine ⟨n, ns, rfl, ?_⟩
  have := h2 n (by simp)
  show _ = (n :: ns).foldl max 0
  rw [List.foldl_cons, show max 0 n = n by omega]
theorem inD_bl (b : Bool) : ∀ l : List Bool, inD (.bl b) (l.map D.bl) = l.any (· == b)
  | [] => rfl
  | c :: l => by
    have ih := inD_bl b l
    unfold inD at ih ⊢
    rw [List.map_cons, List.any_cons, List.any_cons, ih]
    rfl
theorem flat_bl : ∀ l : List Bool, (l.map D.bl).all flatD = true
  | [] => rfl
  | c :: l => by rw [List.map_cons, List.all_cons, flat_bl l]; rfl
theorem cells_len (one two : List Int) (i j : Int) (h : one.length < 4000) : (cellsF one two i j).length < 16777216 := by
  have h1 := rows_len one two i j (placesOf one j).length (placesOf one i).length
  have c1 : (placesOf one i).length ≤ 4000 := by rw [placesOf_len]; exact Nat.le_trans List.count_le_length (Nat.le_of_lt h)
  have c2 : (placesOf one j).length ≤ 4000 := by rw [placesOf_len]; exact Nat.le_trans List.count_le_length (Nat.le_of_lt h)
  have h3 : (placesOf one i).length * (placesOf one j).length ≤ 4000 * 4000 := Nat.mul_le_mul c1 c2
  have e : cellsF one two i j = (List.range (placesOf one i).length).flatMap fun x => rowC one two i j x (placesOf one j).length := rfl
  rw [e]
  omega
theorem dT3_mono {n i j k : Nat} : ∀ d ρ M (Q Q' : Dv → Mem → Prop), (∀ ρ M, Q ρ M → Q' ρ M) → dTup n (dCons (dName i) (dCons (dName j) (dCons (dName k) dNil))) d ρ M Q → dTup n (dCons (dName i) (dCons (dName j) (dCons (dName k) dNil))) d ρ M Q' := dTup_mono (dCons_mono dName_mono (dCons_mono dName_mono (dCons_mono dName_mono dNil_mono)))
theorem within_mono {M : Mem} {v : D} {nm : Str} {lo hi : Int} {E : DXK} {k k' : Prop} (h : k → k') : within K M v nm lo hi E k → within K M v nm lo hi E k' := by
  rintro ⟨a, b⟩
  refine ⟨a, ?_⟩
  split
  · rename_i c; rw [if_pos c] at b; exact h b
  · rename_i c; rw [if_neg c] at b; exact b
end
section
variable {K : PySem.W.Frag}
theorem leadF_snoc {a b : Int} (hab : a ≠ b) (c : Int) : ∀ l : List Int, leadF (l ++ [c]) a b = leadF l a b + (if c = a then (l.count b : Int) else 0) - (if c = b then (l.count a : Int) else 0)
  | [] => by
    show leadF [c] a b = _
    unfold leadF leadF
    simp
  | h :: l => by
    have ih := leadF_snoc hab c l
    rw [List.cons_append]
    unfold leadF
    have c1 : ((l ++ [c]).count b : Int) = l.count b + if c = b then 1 else 0 := by
      rw [List.count_append]; by_cases z : c = b <;> simp [z]
    have c2 : ((l ++ [c]).count a : Int) = l.count a + if c = a then 1 else 0 := by
      rw [List.count_append]; by_cases z : c = a <;> simp [z]
    have d1 : ((h :: l).count b : Int) = l.count b + if h = b then 1 else 0 := by
      rw [List.count_cons]; by_cases z : h = b <;> simp [z]
    have d2 : ((h :: l).count a : Int) = l.count a + if h = a then 1 else 0 := by
      rw [List.count_cons]; by_cases z : h = a <;> simp [z]
    rw [ih, c1, c2, d1, d2]
    repeat' split
    all_goals omega
/-- the table behind the letters l -/
def tG (l : List Int) (a b : Nat) : Int := if a = b then 0 else leadF l (a : Int) (b : Int)
/-- .. and behind i of the letter c's turns -/
def tP (l : List Int) (c i a b : Nat) : Int := if a = b then 0 else leadF l (a : Int) (b : Int) + (if a = c ∧ b < i then (l.count (b : Int) : Int) else 0) - (if b = c ∧ a < i then (l.count (a : Int) : Int) else 0)
theorem tP_zero (l : List Int) (c : Nat) : tP l c 0 = tG l := by
  funext a b
  unfold tP tG
  simp
theorem tP_end (l : List Int) (c n a b : Nat) (ha : a < n) (hb : b < n) : tP l c n a b = tG (l ++ [(c : Int)]) a b := by
  unfold tP tG
  by_cases h : a = b
  · rw [if_pos h, if_pos h]
  · rw [if_neg h, if_neg h, leadF_snoc (by omega)]
    have e1 : (if a = c ∧ b < n then (l.count (b : Int) : Int) else 0) = if (c : Int) = a then (l.count (b : Int) : Int) else 0 := by
      by_cases z : a = c
      · rw [if_pos ⟨z, hb⟩, if_pos (by omega)]
      · rw [if_neg (fun y => z y.1), if_neg (by omega)]
    have e2 : (if b = c ∧ a < n then (l.count (a : Int) : Int) else 0) = if (c : Int) = b then (l.count (a : Int) : Int) else 0 := by
      by_cases z : b = c
      · rw [if_pos ⟨z, ha⟩, if_pos (by omega)]
      · rw [if_neg (fun y => z y.1), if_neg (by omega)]
    rw [e1, e2]
theorem tP_same (l : List Int) (c : Nat) : tP l c (c + 1) = tP l c c := by
  funext a b
  unfold tP
  by_cases h : a = b
  · rw [if_pos h, if_pos h]
  · rw [if_neg h, if_neg h]
    have e1 : (a = c ∧ b < c + 1) ↔ (a = c ∧ b < c) := by omega
    have e2 : (b = c ∧ a < c + 1) ↔ (b = c ∧ a < c) := by omega
    simp only [e1, e2]
theorem tP_step (l : List Int) {c i : Nat} (h : i ≠ c) : (fun a b => if a = i ∧ b = c then tP l c i i c - (l.count (i : Int) : Int) else if a = c ∧ b = i then tP l c i c i + (l.count (i : Int) : Int) else tP l c i a b) = tP l c (i + 1) := by
  funext a b
  by_cases h1 : a = i ∧ b = c
  · obtain ⟨rfl, rfl⟩ := h1
    rw [if_pos ⟨rfl, rfl⟩]
    unfold tP
    rw [if_neg h, if_neg h]
    simp [h]
  · rw [if_neg h1]
    by_cases h2 : a = c ∧ b = i
    · obtain ⟨rfl, rfl⟩ := h2
      rw [if_pos ⟨rfl, rfl⟩]
      unfold tP
      rw [if_neg (Ne.symm h), if_neg (Ne.symm h)]
      simp [h]
    · rw [if_neg h2]
      unfold tP
      by_cases h3 : a = b
      · rw [if_pos h3, if_pos h3]
      · rw [if_neg h3, if_neg h3]
        have e1 : (a = c ∧ b < i) ↔ (a = c ∧ b < i + 1) := by omega
        have e2 : (b = c ∧ a < i) ↔ (b = c ∧ a < i + 1) := by omega
        simp only [e1, e2]
theorem goodL_all {n : Int} : ∀ {ns : List Int} {i : Nat}, (∀ a ∈ ns, 0 ≤ a ∧ a < n) → badAt n (iD ns) i = none
  | [], _, _ => rfl
  | a :: ns, i, h => by
    show (if goodL n (.int a) then badAt n (iD ns) (i + 1) else some (i : Int)) = none
    have := h a (by simp)
    rw [if_pos (by unfold goodL; simp; omega)]
    exact goodL_all fun b hb => h b (List.mem_cons_of_mem _ hb)
theorem range_nodup_le {n : Nat} {ns : List Int} (h : ∀ k : Nat, k < n → (k : Int) ∈ ns) : n ≤ (ddup ns).length := by
  have hn : ((List.range n).map fun k => ((k : Nat) : Int)).Nodup := by
    rw [List.nodup_iff_pairwise_ne, List.pairwise_map]
    have := List.nodup_range (n := n)
    rw [List.nodup_iff_pairwise_ne] at this
    exact this.imp fun h z => h (by omega)
  have := nodup_le (m := ddup ns) hn fun k hk => by
    obtain ⟨j, hj, rfl⟩ := List.mem_map.mp hk
    exact (ddup_mem _ _).mpr (h j (by simpa using hj))
  simpa using this
theorem good_let {n : Nat} {ns : List Int} (G : GoodW n ns) : letE n (iD ns) = none := by
  unfold letE
  rw [goodL_all G.2.2.2.1]
  dsimp only
  rw [intsOf_iD, if_neg]
  have := range_nodup_le G.2.2.2.2
  omega
theorem flat_iD : ∀ ns : List Int, (iD ns).all flatD = true
  | [] => rfl
  | a :: ns => by
    show (D.int a :: iD ns).all flatD = true
    rw [List.all_cons, flat_iD ns]
    rfl
theorem rowR_zero (n : Nat) : (List.replicate n [D.int 0]).flatten = rowR n fun _ => 0 := by
  unfold rowR
  apply List.ext_getElem?
  intro i
  have e : (List.replicate n [D.int 0]).flatten = List.replicate n (D.int 0) := by
    induction n with
    | zero => rfl
    | succ n ih => rw [List.replicate_succ, List.flatten_cons, ih]; rfl
  rw [e]
  by_cases h : i < n <;> simp [h]
theorem wordC_good {M : Mem} {d : D} {E : DXK} {k : List Int → Prop} {n : Nat} {ns : List Int} (G : GoodW n ns) (r : RowD M d (iD ns)) (h : k ns) : wordC K M d (n : Nat) E k := by
  refine .inr ⟨iD ns, r, flat_iD ns, by simpa using G.2.2.1, ?_⟩
  dsimp only
  rw [good_let G, intsOf_iD]
  exact h
theorem b_word_table : ∀ d0 d1 M Q E, sp_word_table K [d0, d1] M Q E → g_word_table K { nx := fun _ M => Q .non M, rt := Q, ex := fun x _ M => E x M } [some d0, some d1, none, none, none, none, none, none, none] M := by
  rintro d0 d1 M Q E ⟨n, ns, rfl, row, G, q⟩
  obtain ⟨g1, g2, g3, g4, g5⟩ := id G
  unfold g_word_table
  dsimp only [q_op, q_un, q_var, q_c, q_nil, q_cons, q_tup, q_frz, q_cel, q_lst, q_test, q_onB, q_and, q_or, q_not, q_andV, q_orV, q_notV, q_if, q_chain, q_next, q_seq, q_drop, q_ret, q_retF, q_retN, q_sif, q_break, q_cont, q_name, q_dnil, q_dcons, q_dtup, q_asg, q_set, q_par, q_for, q_range1, q_range2, q_iseq, q_ienum, q_call, q_cb, q_ncb, q_nop, q_lenset, q_mt, q_mt0, q_setix, q_augs, q_aug, q_nsl, q_onone, q_osome, q_gsl, q_raise, q_raiseF, q_try, q_lc, q_lc2, q_yes, q_wipe0, q_wipe, q_xf, q_I, q_I0, q_U, q_add, q_addT, q_addL, q_addR, q_onL, q_onSt, q_onSl, q_onSs, q_onSrct, q_onSrcl, q_eqI, q_eqB, q_eqS, q_eqN, q_isN, q_ix, q_ixL, q_in, q_len, q_sum, q_max, q_min, q_max2, q_min2, q_abs, q_int, q_tupof, q_lstof, q_sort, q_rep, q_cat, q_isi, q_isis, q_setat, q_onC, q_append, q_pop, q_popAt, q_reverse, q_insert, q_sp1, q_sp2, q_sp3, q_sp4, q_at0, q_atS, q_st0, q_stS, q_iteT, q_iteF, q_isB, q_gCntT, sp_check_word]
  refine ⟨n, rfl, by omega, wordC_good G row ?_⟩
  (try dsimp only [q_op, q_un, q_var, q_c, q_nil, q_cons, q_tup, q_frz, q_cel, q_lst, q_test, q_onB, q_and, q_or, q_not, q_andV, q_orV, q_notV, q_if, q_chain, q_next, q_seq, q_drop, q_ret, q_retF, q_retN, q_sif, q_break, q_cont, q_name, q_dnil, q_dcons, q_dtup, q_asg, q_set, q_par, q_for, q_range1, q_range2, q_iseq, q_ienum, q_call, q_cb, q_ncb, q_nop, q_lenset, q_mt, q_mt0, q_setix, q_augs, q_aug, q_nsl, q_onone, q_osome, q_gsl, q_raise, q_raiseF, q_try, q_lc, q_lc2, q_yes, q_wipe0, q_wipe, q_xf, q_I, q_I0, q_U, q_add, q_addT, q_addL, q_addR, q_onL, q_onSt, q_onSl, q_onSs, q_onSrct, q_onSrcl, q_eqI, q_eqB, q_eqS, q_eqN, q_isN, q_ix, q_ixL, q_in, q_len, q_sum, q_max, q_min, q_max2, q_min2, q_abs, q_int, q_tupof, q_lstof, q_sort, q_rep, q_cat, q_isi, q_isis, q_setat, q_onC, q_append, q_pop, q_popAt, q_reverse, q_insert, q_sp1, q_sp2, q_sp3, q_sp4, q_at0, q_atS, q_st0, q_stS, q_iteT, q_iteF, q_isB, q_gCntT])
  refine ⟨⟨by omega, by omega⟩, ?_⟩
  refine lc_inv (fun i acc M' => ∃ ps : List Addr, acc = ps.map D.ref ∧ TabAt M M' ps ((List.range i).map fun _ => rowR n fun _ => 0)) (fun _ _ _ _ _ => trivial) ?_ ?_ ⟨[], rfl, TabAt.nil⟩
  · rintro i acc M' d hd ⟨ps, rfl, t⟩ N hN
    have hi := (rgD_get hd).1
    (try dsimp only [q_op, q_un, q_var, q_c, q_nil, q_cons, q_tup, q_frz, q_cel, q_lst, q_test, q_onB, q_and, q_or, q_not, q_andV, q_orV, q_notV, q_if, q_chain, q_next, q_seq, q_drop, q_ret, q_retF, q_retN, q_sif, q_break, q_cont, q_name, q_dnil, q_dcons, q_dtup, q_asg, q_set, q_par, q_for, q_range1, q_range2, q_iseq, q_ienum, q_call, q_cb, q_ncb, q_nop, q_lenset, q_mt, q_mt0, q_setix, q_augs, q_aug, q_nsl, q_onone, q_osome, q_gsl, q_raise, q_raiseF, q_try, q_lc, q_lc2, q_yes, q_wipe0, q_wipe, q_xf, q_I, q_I0, q_U, q_add, q_addT, q_addL, q_addR, q_onL, q_onSt, q_onSl, q_onSs, q_onSrct, q_onSrcl, q_eqI, q_eqB, q_eqS, q_eqN, q_isN, q_ix, q_ixL, q_in, q_len, q_sum, q_max, q_min, q_max2, q_min2, q_abs, q_int, q_tupof, q_lstof, q_sort, q_rep, q_cat, q_isi, q_isis, q_setat, q_onC, q_append, q_pop, q_popAt, q_reverse, q_insert, q_sp1, q_sp2, q_sp3, q_sp4, q_at0, q_atS, q_st0, q_stS, q_iteT, q_iteF, q_isB, q_gCntT])
    rw [if_pos rfl]
    refine ⟨by decide, ⟨by omega, by omega, by rw [sz]; simp; omega⟩, fun p hp => ⟨?_, ?_⟩⟩
    · have := t.len
      rw [sz]; simp at this ⊢; omega
    · refine hN _ _ ⟨ps ++ [p], by simp, ?_⟩
      rw [List.range_succ, List.map_append]
      have := t.push (r := rowR n fun _ => 0) hp
      rw [show (List.replicate ((n : Nat) : Int).toNat [D.int 0]).flatten = rowR n fun _ => 0 by rw [Int.toNat_natCast]; exact rowR_zero n]
      simpa using this
  · rintro acc M1 ⟨ps, rfl, t⟩
    have t : TabAt M M1 ps (tabR n fun _ _ => 0) := by simpa [tabR, rgD] using t
    (try dsimp only [q_op, q_un, q_var, q_c, q_nil, q_cons, q_tup, q_frz, q_cel, q_lst, q_test, q_onB, q_and, q_or, q_not, q_andV, q_orV, q_notV, q_if, q_chain, q_next, q_seq, q_drop, q_ret, q_retF, q_retN, q_sif, q_break, q_cont, q_name, q_dnil, q_dcons, q_dtup, q_asg, q_set, q_par, q_for, q_range1, q_range2, q_iseq, q_ienum, q_call, q_cb, q_ncb, q_nop, q_lenset, q_mt, q_mt0, q_setix, q_augs, q_aug, q_nsl, q_onone, q_osome, q_gsl, q_raise, q_raiseF, q_try, q_lc, q_lc2, q_yes, q_wipe0, q_wipe, q_xf, q_I, q_I0, q_U, q_add, q_addT, q_addL, q_addR, q_onL, q_onSt, q_onSl, q_onSs, q_onSrct, q_onSrcl, q_eqI, q_eqB, q_eqS, q_eqN, q_isN, q_ix, q_ixL, q_in, q_len, q_sum, q_max, q_min, q_max2, q_min2, q_abs, q_int, q_tupof, q_lstof, q_sort, q_rep, q_cat, q_isi, q_isis, q_setat, q_onC, q_append, q_pop, q_popAt, q_reverse, q_insert, q_sp1, q_sp2, q_sp3, q_sp4, q_at0, q_atS, q_st0, q_stS, q_iteT, q_iteF, q_isB, q_gCntT])
    refine ⟨by decide, ⟨by omega, by omega, by rw [sz]; simp; omega⟩, fun m hm => ?_⟩
    have nm : m ∉ ps := t.notin (.inr hm)
    have m0 : M m = none := t.up.free hm
    have ezero : (List.replicate ((n : Nat) : Int).toNat [D.int 0]).flatten = rowR n fun _ => 0 := by rw [Int.toNat_natCast]; exact rowR_zero n
    rw [ezero]
    have e0 : (fun _ _ => (0 : Int)) = tG [] := by
      funext a b; unfold tG leadF; simp
    rw [e0] at t
    refine loop_map D.int ns (fun k ρ M' => (∃ a b c d, ρ = [some d0, some (.int (n : Nat)), some (.tup (iD ns)), some (.lst (ps.map D.ref)), a, some (.ref m), b, c, d]) ∧ TabAt (mset M m (.lst (rowR n fun b => ((ns.take k).count (b : Int) : Int)))) M' ps (tabR n (tG (ns.take k)))) (fun _ _ _ _ _ => trivial) ?_ ?_ ?_
    · rintro k x ρ M2 hx ⟨⟨a, b, c, d, rfl⟩, t2⟩ Nx hN
      have hxm : x ∈ ns := List.mem_of_getElem? hx
      obtain ⟨y1, y2⟩ := g4 x hxm
      obtain ⟨z, rfl⟩ : ∃ z : Nat, x = (z : Int) := ⟨x.toNat, by omega⟩
      have hz : z < n := by omega
      have hk : ns.take (k + 1) = ns.take k ++ [(z : Int)] := by
        obtain ⟨h1, h2⟩ := List.getElem?_eq_some_iff.mp hx
        rw [List.take_succ_eq_append_getElem h1, h2]
      generalize hl : ns.take k = l at *
      (try dsimp only [q_op, q_un, q_var, q_c, q_nil, q_cons, q_tup, q_frz, q_cel, q_lst, q_test, q_onB, q_and, q_or, q_not, q_andV, q_orV, q_notV, q_if, q_chain, q_next, q_seq, q_drop, q_ret, q_retF, q_retN, q_sif, q_break, q_cont, q_name, q_dnil, q_dcons, q_dtup, q_asg, q_set, q_par, q_for, q_range1, q_range2, q_iseq, q_ienum, q_call, q_cb, q_ncb, q_nop, q_lenset, q_mt, q_mt0, q_setix, q_augs, q_aug, q_nsl, q_onone, q_osome, q_gsl, q_raise, q_raiseF, q_try, q_lc, q_lc2, q_yes, q_wipe0, q_wipe, q_xf, q_I, q_I0, q_U, q_add, q_addT, q_addL, q_addR, q_onL, q_onSt, q_onSl, q_onSs, q_onSrct, q_onSrcl, q_eqI, q_eqB, q_eqS, q_eqN, q_isN, q_ix, q_ixL, q_in, q_len, q_sum, q_max, q_min, q_max2, q_min2, q_abs, q_int, q_tupof, q_lstof, q_sort, q_rep, q_cat, q_isi, q_isis, q_setat, q_onC, q_append, q_pop, q_popAt, q_reverse, q_insert, q_sp1, q_sp2, q_sp3, q_sp4, q_at0, q_atS, q_st0, q_stS, q_iteT, q_iteF, q_isB, q_gCntT])
      refine ⟨⟨by omega, by omega⟩, ?_⟩
      rw [Int.toNat_natCast]
      refine loop_rg0 (fun i ρ M' => (∃ c d, ρ = [some d0, some (.int (n : Nat)), some (.tup (iD ns)), some (.lst (ps.map D.ref)), a, some (.ref m), some (.int (z : Nat)), c, d]) ∧ TabAt (mset M m (.lst (rowR n fun b => (l.count (b : Int) : Int)))) M' ps (tabR n (tP l z i))) ?_ ?_ ⟨⟨_, _, rfl⟩, by rw [tP_zero]; exact t2⟩
      · rintro i ρ M3 hi ⟨⟨c', d', rfl⟩, t3⟩ Ni hNi
        (try dsimp only [q_op, q_un, q_var, q_c, q_nil, q_cons, q_tup, q_frz, q_cel, q_lst, q_test, q_onB, q_and, q_or, q_not, q_andV, q_orV, q_notV, q_if, q_chain, q_next, q_seq, q_drop, q_ret, q_retF, q_retN, q_sif, q_break, q_cont, q_name, q_dnil, q_dcons, q_dtup, q_asg, q_set, q_par, q_for, q_range1, q_range2, q_iseq, q_ienum, q_call, q_cb, q_ncb, q_nop, q_lenset, q_mt, q_mt0, q_setix, q_augs, q_aug, q_nsl, q_onone, q_osome, q_gsl, q_raise, q_raiseF, q_try, q_lc, q_lc2, q_yes, q_wipe0, q_wipe, q_xf, q_I, q_I0, q_U, q_add, q_addT, q_addL, q_addR, q_onL, q_onSt, q_onSl, q_onSs, q_onSrct, q_onSrcl, q_eqI, q_eqB, q_eqS, q_eqN, q_isN, q_ix, q_ixL, q_in, q_len, q_sum, q_max, q_min, q_max2, q_min2, q_abs, q_int, q_tupof, q_lstof, q_sort, q_rep, q_cat, q_isi, q_isis, q_setat, q_onC, q_append, q_pop, q_popAt, q_reverse, q_insert, q_sp1, q_sp2, q_sp3, q_sp4, q_at0, q_atS, q_st0, q_stS, q_iteT, q_iteF, q_isB, q_gCntT])
        by_cases hic : i = z
        · subst hic
          rw [if_neg (by simp)]
          exact hNi _ _ ⟨⟨_, _, rfl⟩, by rw [tP_same]; exact t3⟩
        · rw [if_pos (by simp; omega)]
          obtain ⟨p, hp, hpM⟩ := t3.cell hz
          have hm3 : M3 m = some (.lst (rowR n fun b => (l.count (b : Int) : Int))) := t3.keep mset_same
          refine ⟨.ref p, refs_at hp, RowD.onS (RowD.ref hpM) ⟨_, atI_rowR hi, RowD.onS (RowD.ref hm3) ⟨_, atI_rowR hi, ?_⟩⟩⟩
          (try dsimp only [q_op, q_un, q_var, q_c, q_nil, q_cons, q_tup, q_frz, q_cel, q_lst, q_test, q_onB, q_and, q_or, q_not, q_andV, q_orV, q_notV, q_if, q_chain, q_next, q_seq, q_drop, q_ret, q_retF, q_retN, q_sif, q_break, q_cont, q_name, q_dnil, q_dcons, q_dtup, q_asg, q_set, q_par, q_for, q_range1, q_range2, q_iseq, q_ienum, q_call, q_cb, q_ncb, q_nop, q_lenset, q_mt, q_mt0, q_setix, q_augs, q_aug, q_nsl, q_onone, q_osome, q_gsl, q_raise, q_raiseF, q_try, q_lc, q_lc2, q_yes, q_wipe0, q_wipe, q_xf, q_I, q_I0, q_U, q_add, q_addT, q_addL, q_addR, q_onL, q_onSt, q_onSl, q_onSs, q_onSrct, q_onSrcl, q_eqI, q_eqB, q_eqS, q_eqN, q_isN, q_ix, q_ixL, q_in, q_len, q_sum, q_max, q_min, q_max2, q_min2, q_abs, q_int, q_tupof, q_lstof, q_sort, q_rep, q_cat, q_isi, q_isis, q_setat, q_onC, q_append, q_pop, q_popAt, q_reverse, q_insert, q_sp1, q_sp2, q_sp3, q_sp4, q_at0, q_atS, q_st0, q_stS, q_iteT, q_iteF, q_isB, q_gCntT])
          refine ⟨.ref p, refs_at hp, ?_⟩
          (try dsimp only [q_op, q_un, q_var, q_c, q_nil, q_cons, q_tup, q_frz, q_cel, q_lst, q_test, q_onB, q_and, q_or, q_not, q_andV, q_orV, q_notV, q_if, q_chain, q_next, q_seq, q_drop, q_ret, q_retF, q_retN, q_sif, q_break, q_cont, q_name, q_dnil, q_dcons, q_dtup, q_asg, q_set, q_par, q_for, q_range1, q_range2, q_iseq, q_ienum, q_call, q_cb, q_ncb, q_nop, q_lenset, q_mt, q_mt0, q_setix, q_augs, q_aug, q_nsl, q_onone, q_osome, q_gsl, q_raise, q_raiseF, q_try, q_lc, q_lc2, q_yes, q_wipe0, q_wipe, q_xf, q_I, q_I0, q_U, q_add, q_addT, q_addL, q_addR, q_onL, q_onSt, q_onSl, q_onSs, q_onSrct, q_onSrcl, q_eqI, q_eqB, q_eqS, q_eqN, q_isN, q_ix, q_ixL, q_in, q_len, q_sum, q_max, q_min, q_max2, q_min2, q_abs, q_int, q_tupof, q_lstof, q_sort, q_rep, q_cat, q_isi, q_isis, q_setat, q_onC, q_append, q_pop, q_popAt, q_reverse, q_insert, q_sp1, q_sp2, q_sp3, q_sp4, q_at0, q_atS, q_st0, q_stS, q_iteT, q_iteF, q_isB, q_gCntT])
          refine ⟨_, hpM, i, by rw [rowR_len]; exact ixN_nat hi, ?_⟩
          have t4 := t3.set (r := (rowR n (tP l z i z)).set i (.int (tP l z i z i + (l.count (i : Int) : Int)))) hp
          rw [tabR_set hz] at t4
          generalize hM4 : mset M3 p (.lst ((rowR n (tP l z i z)).set i (.int (tP l z i z i + (l.count (i : Int) : Int))))) = M4 at *
          obtain ⟨p2, hp2, hpM2⟩ := t4.cell hi
          have hm4 : M4 m = some (.lst (rowR n fun b => (l.count (b : Int) : Int))) := t4.keep mset_same
          refine ⟨.ref p2, refs_at hp2, RowD.onS (RowD.ref hpM2) ⟨_, atI_rowR hz, RowD.onS (RowD.ref hm4) ⟨_, atI_rowR hi, ?_⟩⟩⟩
          (try dsimp only [q_op, q_un, q_var, q_c, q_nil, q_cons, q_tup, q_frz, q_cel, q_lst, q_test, q_onB, q_and, q_or, q_not, q_andV, q_orV, q_notV, q_if, q_chain, q_next, q_seq, q_drop, q_ret, q_retF, q_retN, q_sif, q_break, q_cont, q_name, q_dnil, q_dcons, q_dtup, q_asg, q_set, q_par, q_for, q_range1, q_range2, q_iseq, q_ienum, q_call, q_cb, q_ncb, q_nop, q_lenset, q_mt, q_mt0, q_setix, q_augs, q_aug, q_nsl, q_onone, q_osome, q_gsl, q_raise, q_raiseF, q_try, q_lc, q_lc2, q_yes, q_wipe0, q_wipe, q_xf, q_I, q_I0, q_U, q_add, q_addT, q_addL, q_addR, q_onL, q_onSt, q_onSl, q_onSs, q_onSrct, q_onSrcl, q_eqI, q_eqB, q_eqS, q_eqN, q_isN, q_ix, q_ixL, q_in, q_len, q_sum, q_max, q_min, q_max2, q_min2, q_abs, q_int, q_tupof, q_lstof, q_sort, q_rep, q_cat, q_isi, q_isis, q_setat, q_onC, q_append, q_pop, q_popAt, q_reverse, q_insert, q_sp1, q_sp2, q_sp3, q_sp4, q_at0, q_atS, q_st0, q_stS, q_iteT, q_iteF, q_isB, q_gCntT])
          refine ⟨.ref p2, refs_at hp2, ?_⟩
          (try dsimp only [q_op, q_un, q_var, q_c, q_nil, q_cons, q_tup, q_frz, q_cel, q_lst, q_test, q_onB, q_and, q_or, q_not, q_andV, q_orV, q_notV, q_if, q_chain, q_next, q_seq, q_drop, q_ret, q_retF, q_retN, q_sif, q_break, q_cont, q_name, q_dnil, q_dcons, q_dtup, q_asg, q_set, q_par, q_for, q_range1, q_range2, q_iseq, q_ienum, q_call, q_cb, q_ncb, q_nop, q_lenset, q_mt, q_mt0, q_setix, q_augs, q_aug, q_nsl, q_onone, q_osome, q_gsl, q_raise, q_raiseF, q_try, q_lc, q_lc2, q_yes, q_wipe0, q_wipe, q_xf, q_I, q_I0, q_U, q_add, q_addT, q_addL, q_addR, q_onL, q_onSt, q_onSl, q_onSs, q_onSrct, q_onSrcl, q_eqI, q_eqB, q_eqS, q_eqN, q_isN, q_ix, q_ixL, q_in, q_len, q_sum, q_max, q_min, q_max2, q_min2, q_abs, q_int, q_tupof, q_lstof, q_sort, q_rep, q_cat, q_isi, q_isis, q_setat, q_onC, q_append, q_pop, q_popAt, q_reverse, q_insert, q_sp1, q_sp2, q_sp3, q_sp4, q_at0, q_atS, q_st0, q_stS, q_iteT, q_iteF, q_isB, q_gCntT])
          refine ⟨_, hpM2, z, by rw [rowR_len]; exact ixN_nat hz, ?_⟩
          have t5 := t4.set (r := (rowR n fun b' => if i = z ∧ b' = i then tP l z i z i + (l.count (i : Int) : Int) else tP l z i i b').set z (.int ((if i = z ∧ z = i then tP l z i z i + (l.count (i : Int) : Int) else tP l z i i z) - (l.count (i : Int) : Int)))) hp2
          refine hNi _ _ ⟨⟨_, _, rfl⟩, ?_⟩
          have t6 := t5
          rw [tabR_set (T := fun a' b' => if a' = z ∧ b' = i then tP l z i z i + (l.count (i : Int) : Int) else tP l z i a' b') hi] at t6
          rw [← tP_step l hic, if_neg (show ¬(i = z ∧ z = i) from fun y => hic y.1)]
          rw [if_neg (show ¬(i = z ∧ z = i) from fun y => hic y.1)] at t6
          exact t6
      · rintro ρ M3 ⟨⟨c', d', rfl⟩, t3⟩
        (try dsimp only [q_op, q_un, q_var, q_c, q_nil, q_cons, q_tup, q_frz, q_cel, q_lst, q_test, q_onB, q_and, q_or, q_not, q_andV, q_orV, q_notV, q_if, q_chain, q_next, q_seq, q_drop, q_ret, q_retF, q_retN, q_sif, q_break, q_cont, q_name, q_dnil, q_dcons, q_dtup, q_asg, q_set, q_par, q_for, q_range1, q_range2, q_iseq, q_ienum, q_call, q_cb, q_ncb, q_nop, q_lenset, q_mt, q_mt0, q_setix, q_augs, q_aug, q_nsl, q_onone, q_osome, q_gsl, q_raise, q_raiseF, q_try, q_lc, q_lc2, q_yes, q_wipe0, q_wipe, q_xf, q_I, q_I0, q_U, q_add, q_addT, q_addL, q_addR, q_onL, q_onSt, q_onSl, q_onSs, q_onSrct, q_onSrcl, q_eqI, q_eqB, q_eqS, q_eqN, q_isN, q_ix, q_ixL, q_in, q_len, q_sum, q_max, q_min, q_max2, q_min2, q_abs, q_int, q_tupof, q_lstof, q_sort, q_rep, q_cat, q_isi, q_isis, q_setat, q_onC, q_append, q_pop, q_popAt, q_reverse, q_insert, q_sp1, q_sp2, q_sp3, q_sp4, q_at0, q_atS, q_st0, q_stS, q_iteT, q_iteF, q_isB, q_gCntT])
        have hm3 : M3 m = some (.lst (rowR n fun b => (l.count (b : Int) : Int))) := t3.keep mset_same
        refine RowD.onS (RowD.ref hm3) ⟨_, atI_rowR hz, ?_⟩
        (try dsimp only [q_op, q_un, q_var, q_c, q_nil, q_cons, q_tup, q_frz, q_cel, q_lst, q_test, q_onB, q_and, q_or, q_not, q_andV, q_orV, q_notV, q_if, q_chain, q_next, q_seq, q_drop, q_ret, q_retF, q_retN, q_sif, q_break, q_cont, q_name, q_dnil, q_dcons, q_dtup, q_asg, q_set, q_par, q_for, q_range1, q_range2, q_iseq, q_ienum, q_call, q_cb, q_ncb, q_nop, q_lenset, q_mt, q_mt0, q_setix, q_augs, q_aug, q_nsl, q_onone, q_osome, q_gsl, q_raise, q_raiseF, q_try, q_lc, q_lc2, q_yes, q_wipe0, q_wipe, q_xf, q_I, q_I0, q_U, q_add, q_addT, q_addL, q_addR, q_onL, q_onSt, q_onSl, q_onSs, q_onSrct, q_onSrcl, q_eqI, q_eqB, q_eqS, q_eqN, q_isN, q_ix, q_ixL, q_in, q_len, q_sum, q_max, q_min, q_max2, q_min2, q_abs, q_int, q_tupof, q_lstof, q_sort, q_rep, q_cat, q_isi, q_isis, q_setat, q_onC, q_append, q_pop, q_popAt, q_reverse, q_insert, q_sp1, q_sp2, q_sp3, q_sp4, q_at0, q_atS, q_st0, q_stS, q_iteT, q_iteF, q_isB, q_gCntT])
        refine ⟨_, hm3, z, by rw [rowR_len]; exact ixN_nat hz, ?_⟩
        refine hN _ _ ⟨⟨_, _, _, _, rfl⟩, ?_⟩
        have t4 := t3.under (o := .lst ((rowR n fun b => (l.count (b : Int) : Int)).set z (.int ((l.count (z : Int) : Int) + 1)))) nm
        rw [mset_mset, rowR_set] at t4
        rw [rowR_set]
        rw [tabR_congr (fun a ha b hb => tP_end l z n a b ha hb), ← hk] at t4
        have ec : (rowR n fun b' => if b' = z then (l.count (z : Int) : Int) + 1 else (l.count (b' : Int) : Int)) = rowR n fun b => ((ns.take (k + 1)).count (b : Int) : Int) := by
          apply rowR_congr
          intro b _
          rw [hk, List.count_append]
          by_cases y : b = z
          · subst y; rw [if_pos rfl]; simp
          · rw [if_neg y]
            have : List.count (b : Int) [(z : Int)] = 0 := List.count_eq_zero.mpr (by simp; omega)
            omega
        rw [ec] at t4 ⊢
        exact t4
    · rintro ρ M2 ⟨⟨a, b, c, d, rfl⟩, t2⟩
      rw [List.take_length] at t2
      (try dsimp only [q_op, q_un, q_var, q_c, q_nil, q_cons, q_tup, q_frz, q_cel, q_lst, q_test, q_onB, q_and, q_or, q_not, q_andV, q_orV, q_notV, q_if, q_chain, q_next, q_seq, q_drop, q_ret, q_retF, q_retN, q_sif, q_break, q_cont, q_name, q_dnil, q_dcons, q_dtup, q_asg, q_set, q_par, q_for, q_range1, q_range2, q_iseq, q_ienum, q_call, q_cb, q_ncb, q_nop, q_lenset, q_mt, q_mt0, q_setix, q_augs, q_aug, q_nsl, q_onone, q_osome, q_gsl, q_raise, q_raiseF, q_try, q_lc, q_lc2, q_yes, q_wipe0, q_wipe, q_xf, q_I, q_I0, q_U, q_add, q_addT, q_addL, q_addR, q_onL, q_onSt, q_onSl, q_onSs, q_onSrct, q_onSrcl, q_eqI, q_eqB, q_eqS, q_eqN, q_isN, q_ix, q_ixL, q_in, q_len, q_sum, q_max, q_min, q_max2, q_min2, q_abs, q_int, q_tupof, q_lstof, q_sort, q_rep, q_cat, q_isi, q_isis, q_setat, q_onC, q_append, q_pop, q_popAt, q_reverse, q_insert, q_sp1, q_sp2, q_sp3, q_sp4, q_at0, q_atS, q_st0, q_stS, q_iteT, q_iteF, q_isB, q_gCntT])
      refine lc_inv (fun i acc M' => M' = M2 ∧ acc = ((tabR n (tG ns)).take i).map D.tup) (fun _ _ _ _ _ => trivial) ?_ ?_ ⟨rfl, rfl⟩
      · rintro i acc M' d' hd ⟨rfl, rfl⟩ N hN
        rw [List.getElem?_map] at hd
        cases hp : ps[i]? with
        | none => rw [hp] at hd; cases hd
        | some p =>
          rw [hp] at hd
          cases hd
          have hi : i < n := by
            have := (List.getElem?_eq_some_iff.mp hp).1
            rw [t2.len, tabR_len] at this; exact this
          (try dsimp only [q_op, q_un, q_var, q_c, q_nil, q_cons, q_tup, q_frz, q_cel, q_lst, q_test, q_onB, q_and, q_or, q_not, q_andV, q_orV, q_notV, q_if, q_chain, q_next, q_seq, q_drop, q_ret, q_retF, q_retN, q_sif, q_break, q_cont, q_name, q_dnil, q_dcons, q_dtup, q_asg, q_set, q_par, q_for, q_range1, q_range2, q_iseq, q_ienum, q_call, q_cb, q_ncb, q_nop, q_lenset, q_mt, q_mt0, q_setix, q_augs, q_aug, q_nsl, q_onone, q_osome, q_gsl, q_raise, q_raiseF, q_try, q_lc, q_lc2, q_yes, q_wipe0, q_wipe, q_xf, q_I, q_I0, q_U, q_add, q_addT, q_addL, q_addR, q_onL, q_onSt, q_onSl, q_onSs, q_onSrct, q_onSrcl, q_eqI, q_eqB, q_eqS, q_eqN, q_isN, q_ix, q_ixL, q_in, q_len, q_sum, q_max, q_min, q_max2, q_min2, q_abs, q_int, q_tupof, q_lstof, q_sort, q_rep, q_cat, q_isi, q_isis, q_setat, q_onC, q_append, q_pop, q_popAt, q_reverse, q_insert, q_sp1, q_sp2, q_sp3, q_sp4, q_at0, q_atS, q_st0, q_stS, q_iteT, q_iteF, q_isB, q_gCntT])
          rw [if_pos rfl]
          have hpM := t2.at_ i p _ hp (tabR_get hi)
          refine RowD.onS (RowD.ref hpM) ⟨by rw [sz]; simp [tabR_len]; omega, ?_⟩
          refine hN _ _ ⟨rfl, ?_⟩
          have hi' : i < (tabR n (tG ns)).length := by rw [tabR_len]; exact hi
          rw [List.take_succ_eq_append_getElem hi', List.map_append]
          congr 1
          have := tabR_get (T := tG ns) hi
          rw [List.getElem?_eq_getElem hi'] at this
          simp only [Option.some.injEq] at this
          rw [this]
          rfl
      · rintro acc M' ⟨rfl, rfl⟩
        rw [List.take_of_length_le (by rw [List.length_map, t2.len]; exact Nat.le_refl _)]
        refine ret_drop (MemUp.trans (MemUp.add m0) t2.up) ?_
        have e : (tabR n (tG ns)).map D.tup = (leadsT ns n).map fun r => .tup (iD r) := by
          unfold tabR leadsT rowR
          rw [List.map_map, List.map_map]
          apply List.map_congr_left
          intro a _
          show D.tup ((List.range n).map fun b => D.int (tG ns a b)) = D.tup (List.map D.int ((List.range n).map fun b => if a = b then (0 : Int) else leadF ns ((a : Nat) : Int) ((b : Nat) : Int)))
          rw [List.map_map]
          rfl
        rw [e]
        exact q
    · refine ⟨⟨_, _, _, _, rfl⟩, ?_⟩
      have := t.under (o := .lst (rowR n fun _ => 0)) nm
      simpa using this
end
section
variable {K : PySem.W.Frag}
theorem b__law_take : ∀ d0 d1 M Q E, sp__law_take K [d0, d1] M Q E → g__law_take K { nx := fun _ M => Q .non M, rt := Q, ex := fun x _ M => E x M } [some d0, some d1] M := by
  rintro d0 d1 M Q E ⟨p, n, rfl, rfl, hn, ⟨xs, hM⟩, q⟩
  unfold g__law_take
  (try dsimp only [q_op, q_un, q_var, q_c, q_nil, q_cons, q_tup, q_frz, q_cel, q_lst, q_test, q_onB, q_and, q_or, q_not, q_andV, q_orV, q_notV, q_if, q_chain, q_next, q_seq, q_drop, q_ret, q_retF, q_retN, q_sif, q_break, q_cont, q_name, q_dnil, q_dcons, q_dtup, q_asg, q_set, q_par, q_for, q_range1, q_range2, q_iseq, q_ienum, q_call, q_cb, q_ncb, q_nop, q_lenset, q_mt, q_mt0, q_setix, q_augs, q_aug, q_nsl, q_onone, q_osome, q_gsl, q_raise, q_raiseF, q_try, q_lc, q_lc2, q_yes, q_wipe0, q_wipe, q_xf, q_I, q_I0, q_U, q_add, q_addT, q_addL, q_addR, q_onL, q_onSt, q_onSl, q_onSs, q_onSrct, q_onSrcl, q_eqI, q_eqB, q_eqS, q_eqN, q_isN, q_ix, q_ixL, q_in, q_len, q_sum, q_max, q_min, q_max2, q_min2, q_abs, q_int, q_tupof, q_lstof, q_sort, q_rep, q_cat, q_isi, q_isis, q_setat, q_onC, q_append, q_pop, q_popAt, q_reverse, q_insert, q_sp1, q_sp2, q_sp3, q_sp4, q_at0, q_atS, q_st0, q_stS, q_iteT, q_iteF, q_isB, q_gCntT])
  refine RowD.onS (RowD.ref hM) ?_
  (try dsimp only [q_op, q_un, q_var, q_c, q_nil, q_cons, q_tup, q_frz, q_cel, q_lst, q_test, q_onB, q_and, q_or, q_not, q_andV, q_orV, q_notV, q_if, q_chain, q_next, q_seq, q_drop, q_ret, q_retF, q_retN, q_sif, q_break, q_cont, q_name, q_dnil, q_dcons, q_dtup, q_asg, q_set, q_par, q_for, q_range1, q_range2, q_iseq, q_ienum, q_call, q_cb, q_ncb, q_nop, q_lenset, q_mt, q_mt0, q_setix, q_augs, q_aug, q_nsl, q_onone, q_osome, q_gsl, q_raise, q_raiseF, q_try, q_lc, q_lc2, q_yes, q_wipe0, q_wipe, q_xf, q_I, q_I0, q_U, q_add, q_addT, q_addL, q_addR, q_onL, q_onSt, q_onSl, q_onSs, q_onSrct, q_onSrcl, q_eqI, q_eqB, q_eqS, q_eqN, q_isN, q_ix, q_ixL, q_in, q_len, q_sum, q_max, q_min, q_max2, q_min2, q_abs, q_int, q_tupof, q_lstof, q_sort, q_rep, q_cat, q_isi, q_isis, q_setat, q_onC, q_append, q_pop, q_popAt, q_reverse, q_insert, q_sp1, q_sp2, q_sp3, q_sp4, q_at0, q_atS, q_st0, q_stS, q_iteT, q_iteF, q_isB, q_gCntT])
  by_cases h : xs = []
  · subst h
    rw [if_pos (by decide)]
    have := q 0 [] (by omega) hn
    rw [mset_id hM] at this
    exact this
  · have hl : 0 < xs.length := List.length_pos_iff.mpr h
    rw [if_neg (by simp; omega)]
    refine ⟨onL_ref hM trivial, _, hM, .int (xs.getD (xs.length - 1) 0), ?_, ?_⟩
    · simp [List.getD, show xs.length - 1 < xs.length by omega]
    · (try dsimp only [q_op, q_un, q_var, q_c, q_nil, q_cons, q_tup, q_frz, q_cel, q_lst, q_test, q_onB, q_and, q_or, q_not, q_andV, q_orV, q_notV, q_if, q_chain, q_next, q_seq, q_drop, q_ret, q_retF, q_retN, q_sif, q_break, q_cont, q_name, q_dnil, q_dcons, q_dtup, q_asg, q_set, q_par, q_for, q_range1, q_range2, q_iseq, q_ienum, q_call, q_cb, q_ncb, q_nop, q_lenset, q_mt, q_mt0, q_setix, q_augs, q_aug, q_nsl, q_onone, q_osome, q_gsl, q_raise, q_raiseF, q_try, q_lc, q_lc2, q_yes, q_wipe0, q_wipe, q_xf, q_I, q_I0, q_U, q_add, q_addT, q_addL, q_addR, q_onL, q_onSt, q_onSl, q_onSs, q_onSrct, q_onSrcl, q_eqI, q_eqB, q_eqS, q_eqN, q_isN, q_ix, q_ixL, q_in, q_len, q_sum, q_max, q_min, q_max2, q_min2, q_abs, q_int, q_tupof, q_lstof, q_sort, q_rep, q_cat, q_isi, q_isis, q_setat, q_onC, q_append, q_pop, q_popAt, q_reverse, q_insert, q_sp1, q_sp2, q_sp3, q_sp4, q_at0, q_atS, q_st0, q_stS, q_iteT, q_iteF, q_isB, q_gCntT])
      refine ⟨hn, ?_⟩
      have e : (iD xs).dropLast = iD xs.dropLast := by
        rw [List.dropLast_eq_take, List.dropLast_eq_take]
        simp [List.map_take]
      rw [e]
      exact q _ _ (Int.emod_nonneg _ (by omega)) (Int.emod_lt_of_pos _ hn)
theorem cmulw {i j : Int} (hi : i.natAbs < 2 ^ 64) (hj : j.natAbs < 2 ^ 64) : CMulW i j := by
  unfold CMulW
  have key : ∀ x : Nat, x < 2 ^ 64 → x.log2 < 64 ∨ x = 0 := fun x hx => by
    by_cases z : x = 0
    · exact .inr z
    · exact .inl ((Nat.log2_lt z).mpr hx)
  have l0 : Nat.log2 0 = 0 := by decide
  rcases key _ hi with h1 | h1 <;> rcases key _ hj with h2 | h2
  · omega
  · rw [h2, l0]; omega
  · rw [h1, l0]; omega
  · rw [h1, h2, l0]; omega
theorem cpow18 : CPow 10 18 := by unfold CPow; decide
theorem cdiv30 {y : Int} : CDivW y 30 := by unfold CDivW; decide
theorem iD_snoc (xs : List Int) (x : Int) : iD xs ++ [D.int x] = iD (xs ++ [x]) := by simp
theorem b__law_draws : ∀ d0 M Q E, sp__law_draws K [d0] M Q E → g__law_draws K { nx := fun _ M => Q .non M, rt := Q, ex := fun x _ M => E x M } [some d0, none, none, none, none, none] M := by
  rintro d0 M Q E ⟨ns, rfl, q⟩
  unfold g__law_draws
  (try dsimp only [q_op, q_un, q_var, q_c, q_nil, q_cons, q_tup, q_frz, q_cel, q_lst, q_test, q_onB, q_and, q_or, q_not, q_andV, q_orV, q_notV, q_if, q_chain, q_next, q_seq, q_drop, q_ret, q_retF, q_retN, q_sif, q_break, q_cont, q_name, q_dnil, q_dcons, q_dtup, q_asg, q_set, q_par, q_for, q_range1, q_range2, q_iseq, q_ienum, q_call, q_cb, q_ncb, q_nop, q_lenset, q_mt, q_mt0, q_setix, q_augs, q_aug, q_nsl, q_onone, q_osome, q_gsl, q_raise, q_raiseF, q_try, q_lc, q_lc2, q_yes, q_wipe0, q_wipe, q_xf, q_I, q_I0, q_U, q_add, q_addT, q_addL, q_addR, q_onL, q_onSt, q_onSl, q_onSs, q_onSrct, q_onSrcl, q_eqI, q_eqB, q_eqS, q_eqN, q_isN, q_ix, q_ixL, q_in, q_len, q_sum, q_max, q_min, q_max2, q_min2, q_abs, q_int, q_tupof, q_lstof, q_sort, q_rep, q_cat, q_isi, q_isis, q_setat, q_onC, q_append, q_pop, q_popAt, q_reverse, q_insert, q_sp1, q_sp2, q_sp3, q_sp4, q_at0, q_atS, q_st0, q_stS, q_iteT, q_iteF, q_isB, q_gCntT])
  refine ⟨Nat.zero_le _, fun p hp => ?_⟩
  (try dsimp only [q_op, q_un, q_var, q_c, q_nil, q_cons, q_tup, q_frz, q_cel, q_lst, q_test, q_onB, q_and, q_or, q_not, q_andV, q_orV, q_notV, q_if, q_chain, q_next, q_seq, q_drop, q_ret, q_retF, q_retN, q_sif, q_break, q_cont, q_name, q_dnil, q_dcons, q_dtup, q_asg, q_set, q_par, q_for, q_range1, q_range2, q_iseq, q_ienum, q_call, q_cb, q_ncb, q_nop, q_lenset, q_mt, q_mt0, q_setix, q_augs, q_aug, q_nsl, q_onone, q_osome, q_gsl, q_raise, q_raiseF, q_try, q_lc, q_lc2, q_yes, q_wipe0, q_wipe, q_xf, q_I, q_I0, q_U, q_add, q_addT, q_addL, q_addR, q_onL, q_onSt, q_onSl, q_onSs, q_onSrct, q_onSrcl, q_eqI, q_eqB, q_eqS, q_eqN, q_isN, q_ix, q_ixL, q_in, q_len, q_sum, q_max, q_min, q_max2, q_min2, q_abs, q_int, q_tupof, q_lstof, q_sort, q_rep, q_cat, q_isi, q_isis, q_setat, q_onC, q_append, q_pop, q_popAt, q_reverse, q_insert, q_sp1, q_sp2, q_sp3, q_sp4, q_at0, q_atS, q_st0, q_stS, q_iteT, q_iteF, q_isB, q_gCntT])
  refine ⟨⟨by omega, by omega⟩, ?_⟩
  refine loop_rg0 (fun i ρ M' => (∃ a b c e, ρ = [some (.scr ns), some (.ref p), a, b, c, e]) ∧ ∃ xs : List Int, xs.length ≤ 48 * i ∧ M' = mset M p (.lst (iD xs))) ?_ ?_ ⟨⟨_, _, _, _, rfl⟩, [], Nat.zero_le _, rfl⟩
  · rintro i ρ M' hi ⟨⟨a, b, c, e, rfl⟩, xs, hx, rfl⟩ Nx hN
    have hin : i < ns.length := by simp at hi; omega
    have hi63 : i < 63 := by simp at hi; omega
    (try dsimp only [q_op, q_un, q_var, q_c, q_nil, q_cons, q_tup, q_frz, q_cel, q_lst, q_test, q_onB, q_and, q_or, q_not, q_andV, q_orV, q_notV, q_if, q_chain, q_next, q_seq, q_drop, q_ret, q_retF, q_retN, q_sif, q_break, q_cont, q_name, q_dnil, q_dcons, q_dtup, q_asg, q_set, q_par, q_for, q_range1, q_range2, q_iseq, q_ienum, q_call, q_cb, q_ncb, q_nop, q_lenset, q_mt, q_mt0, q_setix, q_augs, q_aug, q_nsl, q_onone, q_osome, q_gsl, q_raise, q_raiseF, q_try, q_lc, q_lc2, q_yes, q_wipe0, q_wipe, q_xf, q_I, q_I0, q_U, q_add, q_addT, q_addL, q_addR, q_onL, q_onSt, q_onSl, q_onSs, q_onSrct, q_onSrcl, q_eqI, q_eqB, q_eqS, q_eqN, q_isN, q_ix, q_ixL, q_in, q_len, q_sum, q_max, q_min, q_max2, q_min2, q_abs, q_int, q_tupof, q_lstof, q_sort, q_rep, q_cat, q_isi, q_isis, q_setat, q_onC, q_append, q_pop, q_popAt, q_reverse, q_insert, q_sp1, q_sp2, q_sp3, q_sp4, q_at0, q_atS, q_st0, q_stS, q_iteT, q_iteF, q_isB, q_gCntT])
    refine ⟨_, atI_iD hin, ?_⟩
    (try dsimp only [q_op, q_un, q_var, q_c, q_nil, q_cons, q_tup, q_frz, q_cel, q_lst, q_test, q_onB, q_and, q_or, q_not, q_andV, q_orV, q_notV, q_if, q_chain, q_next, q_seq, q_drop, q_ret, q_retF, q_retN, q_sif, q_break, q_cont, q_name, q_dnil, q_dcons, q_dtup, q_asg, q_set, q_par, q_for, q_range1, q_range2, q_iseq, q_ienum, q_call, q_cb, q_ncb, q_nop, q_lenset, q_mt, q_mt0, q_setix, q_augs, q_aug, q_nsl, q_onone, q_osome, q_gsl, q_raise, q_raiseF, q_try, q_lc, q_lc2, q_yes, q_wipe0, q_wipe, q_xf, q_I, q_I0, q_U, q_add, q_addT, q_addL, q_addR, q_onL, q_onSt, q_onSl, q_onSs, q_onSrct, q_onSrcl, q_eqI, q_eqB, q_eqS, q_eqN, q_isN, q_ix, q_ixL, q_in, q_len, q_sum, q_max, q_min, q_max2, q_min2, q_abs, q_int, q_tupof, q_lstof, q_sort, q_rep, q_cat, q_isi, q_isis, q_setat, q_onC, q_append, q_pop, q_popAt, q_reverse, q_insert, q_sp1, q_sp2, q_sp3, q_sp4, q_at0, q_atS, q_st0, q_stS, q_iteT, q_iteF, q_isB, q_gCntT])
    generalize ns.getD i 0 = z0
    have body : ∀ z : Int, 0 ≤ z → (sIf (gTest (gOp dGe (gVar 3) (gOp dPow (gC (.int 10)) (gC (.int 18))))) (sFor (iRange1 (aCons (gC (.int 48)) aNil)) (dName 4) (sIf (gTest (gOp dGt (gVar 3) (gC (.int 0)))) (sSeq (sDrop (gMt dAppend (gVar 1) (aCons (gOp dMod (gCB dInt (aCons (gVar 3) aNil)) (gC (.int 30))) aNil)))
        (sSet 3 (gOp dFdiv (gVar 3) (gC (.int 30))))) sNext)) (sSeq (sSet 5 (gOp dMod (gCB dInt (aCons (gOp dAdd (gOp dAdd (gOp dMul (gVar 3) (gC (.int 62089911))) (gOp dMul (gVar 2) (gC (.int 104729)))) (gC (.int 17))) aNil)) (gC (.int 2147483629))))
        (sFor (iRange1 (aCons (gC (.int 6)) aNil)) (dName 4) (sSeq (sSet 5 (gOp dMod (gCB dInt (aCons (gOp dAdd (gOp dAdd (gOp dAdd (gOp dMul (gVar 5) (gVar 5)) (gOp dMul (gVar 4) (gC (.int 7919)))) (gOp dMul (gVar 2) (gC (.int 31)))) (gC (.int 3))) aNil)) (gC (.int 2147483587))))
        (sDrop (gMt dAppend (gVar 1) (aCons (gVar 5) aNil)))))))
        { nx := Nx, rt := Q, bk := Nx, ct := Nx, ex := fun x _ M => E x M } [some (.scr ns), some (.ref p), some (.int (i : Nat)), some (.int z), c, e] (mset M p (.lst (iD xs))) := by
      intro z hz
      (try dsimp only [q_op, q_un, q_var, q_c, q_nil, q_cons, q_tup, q_frz, q_cel, q_lst, q_test, q_onB, q_and, q_or, q_not, q_andV, q_orV, q_notV, q_if, q_chain, q_next, q_seq, q_drop, q_ret, q_retF, q_retN, q_sif, q_break, q_cont, q_name, q_dnil, q_dcons, q_dtup, q_asg, q_set, q_par, q_for, q_range1, q_range2, q_iseq, q_ienum, q_call, q_cb, q_ncb, q_nop, q_lenset, q_mt, q_mt0, q_setix, q_augs, q_aug, q_nsl, q_onone, q_osome, q_gsl, q_raise, q_raiseF, q_try, q_lc, q_lc2, q_yes, q_wipe0, q_wipe, q_xf, q_I, q_I0, q_U, q_add, q_addT, q_addL, q_addR, q_onL, q_onSt, q_onSl, q_onSs, q_onSrct, q_onSrcl, q_eqI, q_eqB, q_eqS, q_eqN, q_isN, q_ix, q_ixL, q_in, q_len, q_sum, q_max, q_min, q_max2, q_min2, q_abs, q_int, q_tupof, q_lstof, q_sort, q_rep, q_cat, q_isi, q_isis, q_setat, q_onC, q_append, q_pop, q_popAt, q_reverse, q_insert, q_sp1, q_sp2, q_sp3, q_sp4, q_at0, q_atS, q_st0, q_stS, q_iteT, q_iteF, q_isB, q_gCntT])
      refine ⟨cpow18, ?_⟩
      by_cases h : (10 : Int) ^ (18 : Int).toNat ≤ z
      · rw [if_pos (by simpa using h)]
        refine ⟨by decide, ?_⟩
        refine loop_rg0 (fun t ρ M' => (∃ y c e, ρ = [some (.scr ns), some (.ref p), some (.int (i : Nat)), some (.int y), c, e]) ∧ ∃ ys : List Int, ys.length ≤ 48 * i + t ∧ M' = mset M p (.lst (iD ys))) ?_ ?_ ⟨⟨_, _, _, rfl⟩, xs, by omega, rfl⟩
        · rintro t ρ M' ht ⟨⟨y, c', e', rfl⟩, ys, hy, rfl⟩ Nt hNt
          (try dsimp only [q_op, q_un, q_var, q_c, q_nil, q_cons, q_tup, q_frz, q_cel, q_lst, q_test, q_onB, q_and, q_or, q_not, q_andV, q_orV, q_notV, q_if, q_chain, q_next, q_seq, q_drop, q_ret, q_retF, q_retN, q_sif, q_break, q_cont, q_name, q_dnil, q_dcons, q_dtup, q_asg, q_set, q_par, q_for, q_range1, q_range2, q_iseq, q_ienum, q_call, q_cb, q_ncb, q_nop, q_lenset, q_mt, q_mt0, q_setix, q_augs, q_aug, q_nsl, q_onone, q_osome, q_gsl, q_raise, q_raiseF, q_try, q_lc, q_lc2, q_yes, q_wipe0, q_wipe, q_xf, q_I, q_I0, q_U, q_add, q_addT, q_addL, q_addR, q_onL, q_onSt, q_onSl, q_onSs, q_onSrct, q_onSrcl, q_eqI, q_eqB, q_eqS, q_eqN, q_isN, q_ix, q_ixL, q_in, q_len, q_sum, q_max, q_min, q_max2, q_min2, q_abs, q_int, q_tupof, q_lstof, q_sort, q_rep, q_cat, q_isi, q_isis, q_setat, q_onC, q_append, q_pop, q_popAt, q_reverse, q_insert, q_sp1, q_sp2, q_sp3, q_sp4, q_at0, q_atS, q_st0, q_stS, q_iteT, q_iteF, q_isB, q_gCntT])
          by_cases hp0 : 0 < y
          · rw [if_pos (by simpa using hp0)]
            have ht48 : t < 48 := by simpa using ht
            refine ⟨onL_ref mset_same trivial, by decide, _, mset_same, by rw [sz, List.length_map]; omega, ?_⟩
            refine ⟨cdiv30, ?_⟩
            refine hNt _ _ ⟨⟨_, _, _, rfl⟩, ys ++ [y % 30], by simp; omega, ?_⟩
            rw [mset_mset, iD_snoc]
          · rw [if_neg (by simpa using hp0)]
            exact hNt _ _ ⟨⟨_, _, _, rfl⟩, ys, by omega, rfl⟩
        · rintro ρ M' ⟨⟨y, c', e', rfl⟩, ys, hy, rfl⟩
          refine hN _ _ ⟨⟨_, _, _, _, rfl⟩, ys, ?_, rfl⟩
          have : (48 : Int).toNat = 48 := rfl
          omega
      · rw [if_neg (by simpa using h)]
        have h' : z < 10 ^ 18 := by
          have : (10 : Int) ^ (18 : Int).toNat = 10 ^ 18 := rfl
          omega
        refine ⟨cmulw (by omega) (by decide), cmulw (by omega) (by decide), by decide, ?_⟩
        refine ⟨by decide, ?_⟩
        refine loop_rg0 (fun t ρ M' => (∃ y c, ρ = [some (.scr ns), some (.ref p), some (.int (i : Nat)), some (.int z), c, some (.int y)] ∧ 0 ≤ y ∧ y < 2147483629) ∧ ∃ ys : List Int, ys.length ≤ 48 * i + t ∧ M' = mset M p (.lst (iD ys))) ?_ ?_ ⟨⟨_, _, rfl, Int.emod_nonneg _ (by decide), Int.emod_lt_of_pos _ (by decide)⟩, xs, by omega, rfl⟩
        · rintro t ρ M' ht ⟨⟨y, c', rfl, y1, y2⟩, ys, hy, rfl⟩ Nt hNt
          have ht6 : t < 6 := by simpa using ht
          (try dsimp only [q_op, q_un, q_var, q_c, q_nil, q_cons, q_tup, q_frz, q_cel, q_lst, q_test, q_onB, q_and, q_or, q_not, q_andV, q_orV, q_notV, q_if, q_chain, q_next, q_seq, q_drop, q_ret, q_retF, q_retN, q_sif, q_break, q_cont, q_name, q_dnil, q_dcons, q_dtup, q_asg, q_set, q_par, q_for, q_range1, q_range2, q_iseq, q_ienum, q_call, q_cb, q_ncb, q_nop, q_lenset, q_mt, q_mt0, q_setix, q_augs, q_aug, q_nsl, q_onone, q_osome, q_gsl, q_raise, q_raiseF, q_try, q_lc, q_lc2, q_yes, q_wipe0, q_wipe, q_xf, q_I, q_I0, q_U, q_add, q_addT, q_addL, q_addR, q_onL, q_onSt, q_onSl, q_onSs, q_onSrct, q_onSrcl, q_eqI, q_eqB, q_eqS, q_eqN, q_isN, q_ix, q_ixL, q_in, q_len, q_sum, q_max, q_min, q_max2, q_min2, q_abs, q_int, q_tupof, q_lstof, q_sort, q_rep, q_cat, q_isi, q_isis, q_setat, q_onC, q_append, q_pop, q_popAt, q_reverse, q_insert, q_sp1, q_sp2, q_sp3, q_sp4, q_at0, q_atS, q_st0, q_stS, q_iteT, q_iteF, q_isB, q_gCntT])
          refine ⟨cmulw (by omega) (by omega), cmulw (by omega) (by decide), cmulw (by omega) (by decide), by decide, ?_⟩
          refine ⟨onL_ref mset_same trivial, _, mset_same, by rw [sz, List.length_map]; omega, ?_⟩
          refine hNt _ _ ⟨⟨_, _, rfl, Int.emod_nonneg _ (by decide), ?_⟩, ys ++ [(y * y + (t : Int) * 7919 + (i : Int) * 31 + 3) % 2147483587], by simp; omega, ?_⟩
          · exact Int.lt_trans (Int.emod_lt_of_pos _ (by decide)) (by decide)
          · rw [mset_mset, iD_snoc]
        · rintro ρ M' ⟨⟨y, c', rfl, _⟩, ys, hy, rfl⟩
          refine hN _ _ ⟨⟨_, _, _, _, rfl⟩, ys, ?_, rfl⟩
          have : (6 : Int).toNat = 6 := rfl
          omega
    by_cases hneg : z0 < 0
    · rw [if_pos (by simpa using hneg)]
      exact body _ (by omega)
    · rw [if_neg (by simpa using hneg)]
      exact body _ (by omega)
  · rintro ρ M' ⟨⟨a, b, c, e, rfl⟩, xs, hx, rfl⟩
    (try dsimp only [q_op, q_un, q_var, q_c, q_nil, q_cons, q_tup, q_frz, q_cel, q_lst, q_test, q_onB, q_and, q_or, q_not, q_andV, q_orV, q_notV, q_if, q_chain, q_next, q_seq, q_drop, q_ret, q_retF, q_retN, q_sif, q_break, q_cont, q_name, q_dnil, q_dcons, q_dtup, q_asg, q_set, q_par, q_for, q_range1, q_range2, q_iseq, q_ienum, q_call, q_cb, q_ncb, q_nop, q_lenset, q_mt, q_mt0, q_setix, q_augs, q_aug, q_nsl, q_onone, q_osome, q_gsl, q_raise, q_raiseF, q_try, q_lc, q_lc2, q_yes, q_wipe0, q_wipe, q_xf, q_I, q_I0, q_U, q_add, q_addT, q_addL, q_addR, q_onL, q_onSt, q_onSl, q_onSs, q_onSrct, q_onSrcl, q_eqI, q_eqB, q_eqS, q_eqN, q_isN, q_ix, q_ixL, q_in, q_len, q_sum, q_max, q_min, q_max2, q_min2, q_abs, q_int, q_tupof, q_lstof, q_sort, q_rep, q_cat, q_isi, q_isis, q_setat, q_onC, q_append, q_pop, q_popAt, q_reverse, q_insert, q_sp1, q_sp2, q_sp3, q_sp4, q_at0, q_atS, q_st0, q_stS, q_iteT, q_iteF, q_isB, q_gCntT])
    refine ⟨onL_ref mset_same trivial, _, mset_same, ?_⟩
    rw [mset_mset]
    have : (iD xs).reverse = iD xs.reverse := by simp
    rw [this]
    exact q p _ hp
/-- the pool after a draw, own cells beside it -/
theorem pool_take {M0 M : Mem} {p : Addr} {xs ys : List Int} {ps : List Addr} {rows : List (List D)} (t : TabAt (mset M0 p (.lst (iD xs))) M ps rows) : TabAt (mset M0 p (.lst (iD ys))) (mset M p (.lst (iD ys))) ps rows := by
  have h := t.notin (p := p) (.inl (by rw [mset_same]; exact fun z => nomatch z))
  have := t.under (o := .lst (iD ys)) h
  rwa [mset_mset] at this
theorem pool_is {M0 M : Mem} {p : Addr} {xs : List Int} {ps : List Addr} {rows : List (List D)} (t : TabAt (mset M0 p (.lst (iD xs))) M ps rows) : Pool M p := ⟨xs, t.keep mset_same⟩
theorem tab_one {M0 M : Mem} {p : Addr} {r : List D} (t : TabAt M0 M [p] [r]) : M p = some (.lst r) := t.at_ 0 p r rfl rfl
theorem b__law_word : ∀ d0 d1 d2 M Q E, sp__law_word K [d0, d1, d2] M Q E → g__law_word K { nx := fun _ M => Q .non M, rt := Q, ex := fun x _ M => E x M } [some d0, some d1, some d2, none, none, none] M := by
  rintro d0 d1 d2 M Q E ⟨p, n, m, rfl, rfl, rfl, h1, h2, h3, h4, ⟨xs0, hM⟩, q⟩
  unfold g__law_word
  (try dsimp only [q_op, q_un, q_var, q_c, q_nil, q_cons, q_tup, q_frz, q_cel, q_lst, q_test, q_onB, q_and, q_or, q_not, q_andV, q_orV, q_notV, q_if, q_chain, q_next, q_seq, q_drop, q_ret, q_retF, q_retN, q_sif, q_break, q_cont, q_name, q_dnil, q_dcons, q_dtup, q_asg, q_set, q_par, q_for, q_range1, q_range2, q_iseq, q_ienum, q_call, q_cb, q_ncb, q_nop, q_lenset, q_mt, q_mt0, q_setix, q_augs, q_aug, q_nsl, q_onone, q_osome, q_gsl, q_raise, q_raiseF, q_try, q_lc, q_lc2, q_yes, q_wipe0, q_wipe, q_xf, q_I, q_I0, q_U, q_add, q_addT, q_addL, q_addR, q_onL, q_onSt, q_onSl, q_onSs, q_onSrct, q_onSrcl, q_eqI, q_eqB, q_eqS, q_eqN, q_isN, q_ix, q_ixL, q_in, q_len, q_sum, q_max, q_min, q_max2, q_min2, q_abs, q_int, q_tupof, q_lstof, q_sort, q_rep, q_cat, q_isi, q_isis, q_setat, q_onC, q_append, q_pop, q_popAt, q_reverse, q_insert, q_sp1, q_sp2, q_sp3, q_sp4, q_at0, q_atS, q_st0, q_stS, q_iteT, q_iteF, q_isB, q_gCntT])
  refine ⟨⟨by omega, by omega⟩, ?_⟩
  unfold rgD
  refine lc_map (fun i : Nat => D.int (0 + (i : Nat))) (fun i => .int (i : Nat)) trivial _ (fun i hi k hk => ?_) dName_mono rfl (by rw [sz]; simp; omega) ?_
  · (try dsimp only [q_op, q_un, q_var, q_c, q_nil, q_cons, q_tup, q_frz, q_cel, q_lst, q_test, q_onB, q_and, q_or, q_not, q_andV, q_orV, q_notV, q_if, q_chain, q_next, q_seq, q_drop, q_ret, q_retF, q_retN, q_sif, q_break, q_cont, q_name, q_dnil, q_dcons, q_dtup, q_asg, q_set, q_par, q_for, q_range1, q_range2, q_iseq, q_ienum, q_call, q_cb, q_ncb, q_nop, q_lenset, q_mt, q_mt0, q_setix, q_augs, q_aug, q_nsl, q_onone, q_osome, q_gsl, q_raise, q_raiseF, q_try, q_lc, q_lc2, q_yes, q_wipe0, q_wipe, q_xf, q_I, q_I0, q_U, q_add, q_addT, q_addL, q_addR, q_onL, q_onSt, q_onSl, q_onSs, q_onSrct, q_onSrcl, q_eqI, q_eqB, q_eqS, q_eqN, q_isN, q_ix, q_ixL, q_in, q_len, q_sum, q_max, q_min, q_max2, q_min2, q_abs, q_int, q_tupof, q_lstof, q_sort, q_rep, q_cat, q_isi, q_isis, q_setat, q_onC, q_append, q_pop, q_popAt, q_reverse, q_insert, q_sp1, q_sp2, q_sp3, q_sp4, q_at0, q_atS, q_st0, q_stS, q_iteT, q_iteF, q_isB, q_gCntT])
    rw [show (0 : Int) + (i : Nat) = (i : Nat) by omega]
    exact ⟨rfl, hk⟩
  · intro o ho
    have t0 : TabAt (mset M p (.lst (iD xs0))) (mset M o (.lst ((List.range ((n : Nat) : Int).toNat).map fun i => D.int (i : Nat)))) [o] [(List.range ((n : Nat) : Int).toNat).map fun i => D.int (i : Nat)] := by
      rw [mset_id hM]
      exact TabAt.nil.push ho
    rw [Int.toNat_natCast] at t0 ⊢
    have e0 : ((List.range n).map fun i => D.int (i : Nat)) = iD ((List.range n).map fun i => ((i : Nat) : Int)) := by
      show _ = List.map D.int _
      rw [List.map_map]; rfl
    rw [e0] at t0 ⊢
    generalize mset M o (.lst (iD ((List.range n).map fun i => ((i : Nat) : Int)))) = M1 at *
    have G0 : GoodW n ((List.range n).map fun i => ((i : Nat) : Int)) ∧ ((List.range n).map fun i => ((i : Nat) : Int)).length ≤ n := by
      refine ⟨⟨h1, h2, by simp; omega, fun a ha => ?_, fun k hk => List.mem_map.mpr ⟨k, by simpa using hk, rfl⟩⟩, by simp⟩
      obtain ⟨j, hj, rfl⟩ := List.mem_map.mp ha
      have : j < n := by simpa using hj
      omega
    dsimp only [sp__law_take, q_op, q_un, q_var, q_c, q_nil, q_cons, q_tup, q_frz, q_cel, q_lst, q_test, q_onB, q_and, q_or, q_not, q_andV, q_orV, q_notV, q_if, q_chain, q_next, q_seq, q_drop, q_ret, q_retF, q_retN, q_sif, q_break, q_cont, q_name, q_dnil, q_dcons, q_dtup, q_asg, q_set, q_par, q_for, q_range1, q_range2, q_iseq, q_ienum, q_call, q_cb, q_ncb, q_nop, q_lenset, q_mt, q_mt0, q_setix, q_augs, q_aug, q_nsl, q_onone, q_osome, q_gsl, q_raise, q_raiseF, q_try, q_lc, q_lc2, q_yes, q_wipe0, q_wipe, q_xf, q_I, q_I0, q_U, q_add, q_addT, q_addL, q_addR, q_onL, q_onSt, q_onSl, q_onSs, q_onSrct, q_onSrcl, q_eqI, q_eqB, q_eqS, q_eqN, q_isN, q_ix, q_ixL, q_in, q_len, q_sum, q_max, q_min, q_max2, q_min2, q_abs, q_int, q_tupof, q_lstof, q_sort, q_rep, q_cat, q_isi, q_isis, q_setat, q_onC, q_append, q_pop, q_popAt, q_reverse, q_insert, q_sp1, q_sp2, q_sp3, q_sp4, q_at0, q_atS, q_st0, q_stS, q_iteT, q_iteF, q_isB, q_gCntT]
    refine ⟨p, m, rfl, rfl, h3, pool_is t0, fun r ys r0 r1 => ?_⟩
    have t1 := pool_take (ys := ys) t0
    refine ⟨⟨by omega, by omega⟩, ?_⟩
    refine loop_rg0 (fun i ρ M' => (∃ a b, ρ = [some (.ref p), some (.int (n : Nat)), some (.int m), some (.ref o), a, b]) ∧ ∃ (ns xs : List Int), TabAt (mset M p (.lst (iD xs))) M' [o] [iD ns] ∧ GoodW n ns ∧ ns.length ≤ n + i) ?_ ?_ ⟨⟨_, _, rfl⟩, _, _, t1, G0.1, by omega⟩
    · rintro i ρ M' hi ⟨⟨a, b, rfl⟩, ns, xs, t, G, hl⟩ Nx hN
      have hi64 : i < 64 := by omega
      (try dsimp only [q_op, q_un, q_var, q_c, q_nil, q_cons, q_tup, q_frz, q_cel, q_lst, q_test, q_onB, q_and, q_or, q_not, q_andV, q_orV, q_notV, q_if, q_chain, q_next, q_seq, q_drop, q_ret, q_retF, q_retN, q_sif, q_break, q_cont, q_name, q_dnil, q_dcons, q_dtup, q_asg, q_set, q_par, q_for, q_range1, q_range2, q_iseq, q_ienum, q_call, q_cb, q_ncb, q_nop, q_lenset, q_mt, q_mt0, q_setix, q_augs, q_aug, q_nsl, q_onone, q_osome, q_gsl, q_raise, q_raiseF, q_try, q_lc, q_lc2, q_yes, q_wipe0, q_wipe, q_xf, q_I, q_I0, q_U, q_add, q_addT, q_addL, q_addR, q_onL, q_onSt, q_onSl, q_onSs, q_onSrct, q_onSrcl, q_eqI, q_eqB, q_eqS, q_eqN, q_isN, q_ix, q_ixL, q_in, q_len, q_sum, q_max, q_min, q_max2, q_min2, q_abs, q_int, q_tupof, q_lstof, q_sort, q_rep, q_cat, q_isi, q_isis, q_setat, q_onC, q_append, q_pop, q_popAt, q_reverse, q_insert, q_sp1, q_sp2, q_sp3, q_sp4, q_at0, q_atS, q_st0, q_stS, q_iteT, q_iteF, q_isB, q_gCntT])
      have ho' := tab_one t
      refine ⟨onL_ref ho' trivial, ?_⟩
      refine RowD.onS (RowD.ref ho') ?_
      refine ⟨p, ((ns.length : Nat) : Int) + 1, rfl, by simp, by omega, pool_is t, fun r ys r0 r1 => ?_⟩
      have t2 := pool_take (ys := ys) t
      refine ⟨p, n, rfl, rfl, by omega, pool_is t2, fun l zs l0 l1 => ?_⟩
      have t3 := pool_take (ys := zs) t2
      refine ⟨_, tab_one t3, ⟨by rw [sz, List.length_map]; omega, r0, by omega⟩, ?_⟩
      have t4 := t3.set (r := (iD ns).take r.toNat ++ [D.int l] ++ (iD ns).drop r.toNat) (i := 0) (p := o) rfl
      have e : (iD ns).take r.toNat ++ [D.int l] ++ (iD ns).drop r.toNat = iD (ns.take r.toNat ++ [l] ++ ns.drop r.toNat) := by
        simp [List.map_take, List.map_drop]
      rw [e] at t4 ⊢
      have hlen : (ns.take r.toNat ++ [l] ++ ns.drop r.toNat).length = ns.length + 1 := by
        simp; omega
      have hmem : ∀ x, x ∈ ns.take r.toNat ++ [l] ++ ns.drop r.toNat ↔ x = l ∨ x ∈ ns := fun x => by
        have hx : x ∈ ns ↔ x ∈ ns.take r.toNat ∨ x ∈ ns.drop r.toNat := by
          rw [← List.mem_append, List.take_append_drop]
        rw [hx]
        simp only [List.mem_append, List.mem_singleton]
        constructor
        · rintro ((h | h) | h)
          · exact .inr (.inl h)
          · exact .inl h
          · exact .inr (.inr h)
        · rintro (h | h | h)
          · exact .inl (.inr h)
          · exact .inl (.inl h)
          · exact .inr h
      refine hN _ _ ⟨⟨_, _, rfl⟩, _, _, t4, ⟨h1, h2, by omega, fun a ha => ?_, fun k hk => (hmem _).mpr (.inr (G.2.2.2.2 k hk))⟩, by omega⟩
      rcases (hmem a).mp ha with z | z
      · rw [z]; exact ⟨l0, l1⟩
      · exact G.2.2.2.1 a z
    · rintro ρ M' ⟨⟨a, b, rfl⟩, ns, xs, t, G, hl⟩
      (try dsimp only [q_op, q_un, q_var, q_c, q_nil, q_cons, q_tup, q_frz, q_cel, q_lst, q_test, q_onB, q_and, q_or, q_not, q_andV, q_orV, q_notV, q_if, q_chain, q_next, q_seq, q_drop, q_ret, q_retF, q_retN, q_sif, q_break, q_cont, q_name, q_dnil, q_dcons, q_dtup, q_asg, q_set, q_par, q_for, q_range1, q_range2, q_iseq, q_ienum, q_call, q_cb, q_ncb, q_nop, q_lenset, q_mt, q_mt0, q_setix, q_augs, q_aug, q_nsl, q_onone, q_osome, q_gsl, q_raise, q_raiseF, q_try, q_lc, q_lc2, q_yes, q_wipe0, q_wipe, q_xf, q_I, q_I0, q_U, q_add, q_addT, q_addL, q_addR, q_onL, q_onSt, q_onSl, q_onSs, q_onSrct, q_onSrcl, q_eqI, q_eqB, q_eqS, q_eqN, q_isN, q_ix, q_ixL, q_in, q_len, q_sum, q_max, q_min, q_max2, q_min2, q_abs, q_int, q_tupof, q_lstof, q_sort, q_rep, q_cat, q_isi, q_isis, q_setat, q_onC, q_append, q_pop, q_popAt, q_reverse, q_insert, q_sp1, q_sp2, q_sp3, q_sp4, q_at0, q_atS, q_st0, q_stS, q_iteT, q_iteF, q_isB, q_gCntT])
      exact ret_lst t.up (t.new o (by simp)) (tab_one t) (q ns xs G (by omega))
theorem b__law_mixed_word : ∀ d0 d1 M Q E, sp__law_mixed_word K [d0, d1] M Q E → g__law_mixed_word K { nx := fun _ M => Q .non M, rt := Q, ex := fun x _ M => E x M } [some d0, some d1, none, none, none] M := by
  rintro d0 d1 M Q E ⟨p, ns, rfl, rfl, hl, ⟨xs0, hM⟩, q⟩
  unfold g__law_mixed_word
  (try dsimp only [q_op, q_un, q_var, q_c, q_nil, q_cons, q_tup, q_frz, q_cel, q_lst, q_test, q_onB, q_and, q_or, q_not, q_andV, q_orV, q_notV, q_if, q_chain, q_next, q_seq, q_drop, q_ret, q_retF, q_retN, q_sif, q_break, q_cont, q_name, q_dnil, q_dcons, q_dtup, q_asg, q_set, q_par, q_for, q_range1, q_range2, q_iseq, q_ienum, q_call, q_cb, q_ncb, q_nop, q_lenset, q_mt, q_mt0, q_setix, q_augs, q_aug, q_nsl, q_onone, q_osome, q_gsl, q_raise, q_raiseF, q_try, q_lc, q_lc2, q_yes, q_wipe0, q_wipe, q_xf, q_I, q_I0, q_U, q_add, q_addT, q_addL, q_addR, q_onL, q_onSt, q_onSl, q_onSs, q_onSrct, q_onSrcl, q_eqI, q_eqB, q_eqS, q_eqN, q_isN, q_ix, q_ixL, q_in, q_len, q_sum, q_max, q_min, q_max2, q_min2, q_abs, q_int, q_tupof, q_lstof, q_sort, q_rep, q_cat, q_isi, q_isis, q_setat, q_onC, q_append, q_pop, q_popAt, q_reverse, q_insert, q_sp1, q_sp2, q_sp3, q_sp4, q_at0, q_atS, q_st0, q_stS, q_iteT, q_iteF, q_isB, q_gCntT])
  intro a ha
  have t0 : TabAt (mset M p (.lst (iD xs0))) (mset M a (.lst (iD ns))) [a] [iD ns] := by
    rw [mset_id hM]
    exact TabAt.nil.push ha
  refine ⟨Nat.zero_le _, fun b hb => ?_⟩
  have t1 := t0.push (r := []) hb
  generalize mset (mset M a (.lst (iD ns))) b (.lst []) = M1 at *
  (try dsimp only [q_op, q_un, q_var, q_c, q_nil, q_cons, q_tup, q_frz, q_cel, q_lst, q_test, q_onB, q_and, q_or, q_not, q_andV, q_orV, q_notV, q_if, q_chain, q_next, q_seq, q_drop, q_ret, q_retF, q_retN, q_sif, q_break, q_cont, q_name, q_dnil, q_dcons, q_dtup, q_asg, q_set, q_par, q_for, q_range1, q_range2, q_iseq, q_ienum, q_call, q_cb, q_ncb, q_nop, q_lenset, q_mt, q_mt0, q_setix, q_augs, q_aug, q_nsl, q_onone, q_osome, q_gsl, q_raise, q_raiseF, q_try, q_lc, q_lc2, q_yes, q_wipe0, q_wipe, q_xf, q_I, q_I0, q_U, q_add, q_addT, q_addL, q_addR, q_onL, q_onSt, q_onSl, q_onSs, q_onSrct, q_onSrcl, q_eqI, q_eqB, q_eqS, q_eqN, q_isN, q_ix, q_ixL, q_in, q_len, q_sum, q_max, q_min, q_max2, q_min2, q_abs, q_int, q_tupof, q_lstof, q_sort, q_rep, q_cat, q_isi, q_isis, q_setat, q_onC, q_append, q_pop, q_popAt, q_reverse, q_insert, q_sp1, q_sp2, q_sp3, q_sp4, q_at0, q_atS, q_st0, q_stS, q_iteT, q_iteF, q_isB, q_gCntT])
  refine ⟨⟨by omega, by simp; omega⟩, ?_⟩
  refine loop_rg0 (fun i ρ M' => (∃ c, ρ = [some (.ref p), some (.lst (iD ns)), some (.ref a), some (.ref b), c]) ∧ ∃ (xs ls ms : List Int), TabAt (mset M p (.lst (iD xs))) M' [a, b] [iD ls, iD ms] ∧ (ls ++ ms).Perm ns ∧ ms.length = i) ?_ ?_ ⟨⟨_, rfl⟩, xs0, ns, [], t1, by simp, rfl⟩
  · rintro i ρ M' hi ⟨⟨c, rfl⟩, xs, ls, ms, t, hp, hm⟩ Nx hN
    have hi' : i < ns.length := by simpa using hi
    have hlen := hp.length_eq
    rw [List.length_append] at hlen
    have hls : 0 < ls.length := by omega
    dsimp only [q_op, q_un, q_var, q_c, q_nil, q_cons, q_tup, q_frz, q_cel, q_lst, q_test, q_onB, q_and, q_or, q_not, q_andV, q_orV, q_notV, q_if, q_chain, q_next, q_seq, q_drop, q_ret, q_retF, q_retN, q_sif, q_break, q_cont, q_name, q_dnil, q_dcons, q_dtup, q_asg, q_set, q_par, q_for, q_range1, q_range2, q_iseq, q_ienum, q_call, q_cb, q_ncb, q_nop, q_lenset, q_mt, q_mt0, q_setix, q_augs, q_aug, q_nsl, q_onone, q_osome, q_gsl, q_raise, q_raiseF, q_try, q_lc, q_lc2, q_yes, q_wipe0, q_wipe, q_xf, q_I, q_I0, q_U, q_add, q_addT, q_addL, q_addR, q_onL, q_onSt, q_onSl, q_onSs, q_onSrct, q_onSrcl, q_eqI, q_eqB, q_eqS, q_eqN, q_isN, q_ix, q_ixL, q_in, q_len, q_sum, q_max, q_min, q_max2, q_min2, q_abs, q_int, q_tupof, q_lstof, q_sort, q_rep, q_cat, q_isi, q_isis, q_setat, q_onC, q_append, q_pop, q_popAt, q_reverse, q_insert, q_sp1, q_sp2, q_sp3, q_sp4, q_at0, q_atS, q_st0, q_stS, q_iteT, q_iteF, q_isB, q_gCntT, sp__law_take]
    have ea : M' a = some (.lst (iD ls)) := t.at_ 0 a _ rfl rfl
    have eb : M' b = some (.lst (iD ms)) := t.at_ 1 b _ rfl rfl
    refine ⟨onL_ref eb trivial, onL_ref ea trivial, RowD.onS (RowD.ref ea) ?_⟩
    refine ⟨p, ((ls.length : Nat) : Int), rfl, by simp, by omega, pool_is t, fun r ys r0 r1 => ?_⟩
    have t2 := pool_take (ys := ys) t
    generalize mset M' p (.lst (iD ys)) = M2 at *
    have ea : M2 a = some (.lst (iD ls)) := t2.at_ 0 a _ rfl rfl
    obtain ⟨k, rfl⟩ : ∃ k : Nat, r = (k : Int) := ⟨r.toNat, by omega⟩
    have hk : k < ls.length := by omega
    refine ⟨_, ea, ⟨by omega, by omega⟩, k, .int (ls.getD k 0), ?_, ?_, ?_⟩
    · unfold seqIndex?
      simp only [show ¬ ((k : Int) < 0) from by omega, if_false]
      rw [if_pos (by simp; omega)]
      simp
    · simp [List.getD, hk]
    · have t3 := t2.set (r := (iD ls).eraseIdx k) (i := 0) (p := a) rfl
      have ee : (iD ls).eraseIdx k = iD (ls.eraseIdx k) := by
        rw [List.eraseIdx_eq_take_drop_succ, List.eraseIdx_eq_take_drop_succ]
        simp [List.map_take, List.map_drop]
      rw [ee] at t3 ⊢
      generalize mset M2 a (.lst (iD (ls.eraseIdx k))) = M3 at *
      have eb : M3 b = some (.lst (iD ms)) := t3.at_ 1 b _ rfl rfl
      refine ⟨_, eb, by rw [sz, List.length_map]; omega, ?_⟩
      have t4 := t3.set (r := iD ms ++ [D.int (ls.getD k 0)]) (i := 1) (p := b) rfl
      rw [iD_snoc] at t4 ⊢
      refine hN _ _ ⟨⟨_, rfl⟩, _, _, _, t4, ?_, by simp [hm]⟩
      refine List.Perm.trans ?_ hp
      have hg : ls.getD k 0 = ls[k] := by simp [List.getD, hk]
      rw [hg, ← List.append_assoc]
      have h1 : (ls.eraseIdx k ++ ms ++ [ls[k]]).Perm (ls[k] :: ls.eraseIdx k ++ ms) := by
        have := List.perm_append_comm (l₁ := ls.eraseIdx k ++ ms) (l₂ := [ls[k]])
        simpa using this
      refine h1.trans (List.Perm.append_right ms ?_)
      rw [List.eraseIdx_eq_take_drop_succ]
      have h2 : ls = ls.take k ++ ls[k] :: ls.drop (k + 1) := by
        rw [← List.drop_eq_getElem_cons hk, List.take_append_drop]
      have h3 : (ls[k] :: (ls.take k ++ ls.drop (k + 1))).Perm (ls.take k ++ ls[k] :: ls.drop (k + 1)) := List.perm_middle.symm
      exact h3.trans (by rw [← h2])
  · rintro ρ M' ⟨⟨c, rfl⟩, xs, ls, ms, t, hp, hm⟩
    have hz : ls = [] := by
      have := hp.length_eq
      rw [List.length_append, hm] at this
      have e : ((iD ns).length : Int).toNat = ns.length := by simp
      rw [e] at this
      exact List.eq_nil_of_length_eq_zero (by omega)
    subst hz
    (try dsimp only [q_op, q_un, q_var, q_c, q_nil, q_cons, q_tup, q_frz, q_cel, q_lst, q_test, q_onB, q_and, q_or, q_not, q_andV, q_orV, q_notV, q_if, q_chain, q_next, q_seq, q_drop, q_ret, q_retF, q_retN, q_sif, q_break, q_cont, q_name, q_dnil, q_dcons, q_dtup, q_asg, q_set, q_par, q_for, q_range1, q_range2, q_iseq, q_ienum, q_call, q_cb, q_ncb, q_nop, q_lenset, q_mt, q_mt0, q_setix, q_augs, q_aug, q_nsl, q_onone, q_osome, q_gsl, q_raise, q_raiseF, q_try, q_lc, q_lc2, q_yes, q_wipe0, q_wipe, q_xf, q_I, q_I0, q_U, q_add, q_addT, q_addL, q_addR, q_onL, q_onSt, q_onSl, q_onSs, q_onSrct, q_onSrcl, q_eqI, q_eqB, q_eqS, q_eqN, q_isN, q_ix, q_ixL, q_in, q_len, q_sum, q_max, q_min, q_max2, q_min2, q_abs, q_int, q_tupof, q_lstof, q_sort, q_rep, q_cat, q_isi, q_isis, q_setat, q_onC, q_append, q_pop, q_popAt, q_reverse, q_insert, q_sp1, q_sp2, q_sp3, q_sp4, q_at0, q_atS, q_st0, q_stS, q_iteT, q_iteF, q_isB, q_gCntT])
    refine ret_lst t.up (t.new b (by simp)) (t.at_ 1 b _ rfl rfl) (q ms xs (by simpa using hp))
end
section
variable {K : PySem.W.Frag}
theorem within_use {M : Mem} {v : D} {nm : Str} {lo hi : Int} {E : DXK} {k k' : Prop} (h : ∀ i : Int, v = .int i → lo ≤ i → i ≤ hi → k → k') : within K M v nm lo hi E k → within K M v nm lo hi E k' := by
  rintro ⟨a, b⟩
  refine ⟨a, ?_⟩
  split
  · rename_i c
    rw [if_pos c] at b
    cases v <;> first
      | (cases c; done)
      | (rename_i i
         unfold inR at c
         simp only [Bool.and_eq_true, decide_eq_true_eq] at c
         exact h i rfl c.1 c.2 b)
  · rename_i c; rw [if_neg c] at b; exact b
theorem cut_take {α : Type} (xs : List α) {i : Nat} (h : i ≤ xs.length) : DL.cutD xs none (some ((i : Nat) : Int)) = xs.take i := by
  unfold DL.cutD
  rw [HT.sIx_none, HT.sIx_nat]
  simp
theorem cut_drop {α : Type} (xs : List α) (i : Nat) : DL.cutD xs (some ((i : Nat) : Int)) none = xs.drop i := by
  unfold DL.cutD
  rw [HT.sIx_none, HT.sIx_nat]
  rcases Nat.le_total i xs.length with h | h
  · rw [Nat.min_eq_left h]
    exact List.take_of_length_le (by simp)
  · rw [Nat.min_eq_right h, List.drop_of_length_le h, List.drop_of_length_le (Nat.le_refl _), List.take_nil]
theorem b_exchanged : ∀ d0 d1 M Q E, sp_exchanged K [d0, d1] M Q E → g_exchanged K { nx := fun _ M => Q .non M, rt := Q, ex := fun x _ M => E x M } [some d0, some d1] M := by
  rintro d0 d1 M Q E ⟨ns, i, rfl, rfl, hi, hl, q⟩
  unfold g_exchanged
  (try dsimp only [q_op, q_un, q_var, q_c, q_nil, q_cons, q_tup, q_frz, q_cel, q_lst, q_test, q_onB, q_and, q_or, q_not, q_andV, q_orV, q_notV, q_if, q_chain, q_next, q_seq, q_drop, q_ret, q_retF, q_retN, q_sif, q_break, q_cont, q_name, q_dnil, q_dcons, q_dtup, q_asg, q_set, q_par, q_for, q_range1, q_range2, q_iseq, q_ienum, q_call, q_cb, q_ncb, q_nop, q_lenset, q_mt, q_mt0, q_setix, q_augs, q_aug, q_nsl, q_onone, q_osome, q_gsl, q_raise, q_raiseF, q_try, q_lc, q_lc2, q_yes, q_wipe0, q_wipe, q_xf, q_I, q_I0, q_U, q_add, q_addT, q_addL, q_addR, q_onL, q_onSt, q_onSl, q_onSs, q_onSrct, q_onSrcl, q_eqI, q_eqB, q_eqS, q_eqN, q_isN, q_ix, q_ixL, q_in, q_len, q_sum, q_max, q_min, q_max2, q_min2, q_abs, q_int, q_tupof, q_lstof, q_sort, q_rep, q_cat, q_isi, q_isis, q_setat, q_onC, q_append, q_pop, q_popAt, q_reverse, q_insert, q_sp1, q_sp2, q_sp3, q_sp4, q_at0, q_atS, q_st0, q_stS, q_iteT, q_iteF, q_isB, q_gCntT])
  refine ⟨_, by rw [show ((i : Nat) : Int) + 1 = ((i + 1 : Nat) : Int) by omega]; exact atI_iD hi, _, atI_iD (by omega), ?_⟩
  refine ⟨by rw [sz]; show 2 ≤ 16777216; decide, ?_⟩
  unfold slD
  dsimp only
  rw [cut_take _ (by simp; omega), show ((i : Nat) : Int) + 2 = ((i + 2 : Nat) : Int) by omega, cut_drop]
  (try dsimp only [q_op, q_un, q_var, q_c, q_nil, q_cons, q_tup, q_frz, q_cel, q_lst, q_test, q_onB, q_and, q_or, q_not, q_andV, q_orV, q_notV, q_if, q_chain, q_next, q_seq, q_drop, q_ret, q_retF, q_retN, q_sif, q_break, q_cont, q_name, q_dnil, q_dcons, q_dtup, q_asg, q_set, q_par, q_for, q_range1, q_range2, q_iseq, q_ienum, q_call, q_cb, q_ncb, q_nop, q_lenset, q_mt, q_mt0, q_setix, q_augs, q_aug, q_nsl, q_onone, q_osome, q_gsl, q_raise, q_raiseF, q_try, q_lc, q_lc2, q_yes, q_wipe0, q_wipe, q_xf, q_I, q_I0, q_U, q_add, q_addT, q_addL, q_addR, q_onL, q_onSt, q_onSl, q_onSs, q_onSrct, q_onSrcl, q_eqI, q_eqB, q_eqS, q_eqN, q_isN, q_ix, q_ixL, q_in, q_len, q_sum, q_max, q_min, q_max2, q_min2, q_abs, q_int, q_tupof, q_lstof, q_sort, q_rep, q_cat, q_isi, q_isis, q_setat, q_onC, q_append, q_pop, q_popAt, q_reverse, q_insert, q_sp1, q_sp2, q_sp3, q_sp4, q_at0, q_atS, q_st0, q_stS, q_iteT, q_iteF, q_isB, q_gCntT])
  refine ⟨by rw [sz]; simp; omega, by rw [sz]; simp; omega, ?_⟩
  have e : List.take i (iD ns) ++ [D.int (ns.getD (i + 1) 0), D.int (ns.getD i 0)] ++ List.drop (i + 2) (iD ns) = iD (exchI ns i) := by
    unfold exchI
    simp [List.map_take, List.map_drop]
  rw [e]
  exact q
theorem places_range (ns : List Int) (i : Int) : ((List.range ns.length).filterMap fun k => if ns.getD k 0 = i then some (k : Int) else none) = placesOf ns i := by
  unfold placesOf
  rw [placesFrom_eq]
  have e : ns.zipIdx 0 = (List.range ns.length).map fun k => (ns.getD k 0, k) := by
    refine List.ext_getElem (by simp) fun k h1 h2 => ?_
    have hk : k < ns.length := by simpa using h1
    simp [List.getD, hk]
  rw [e, List.filterMap_map]
  rfl
end
section
variable {K : PySem.W.Frag}
theorem b_check_word : ∀ d0 d1 M Q E, sp_check_word K [d0, d1] M Q E → g_check_word K { nx := fun _ M => Q .non M, rt := Q, ex := fun x _ M => E x M } [some d0, some d1] M := by
  rintro d0 d1 M Q E ⟨n, rfl, h1, h⟩
  unfold g_check_word
  dsimp only [q_op, q_un, q_var, q_c, q_nil, q_cons, q_tup, q_frz, q_cel, q_lst, q_test, q_onB, q_and, q_or, q_not, q_andV, q_orV, q_notV, q_if, q_chain, q_next, q_seq, q_drop, q_ret, q_retF, q_retN, q_sif, q_break, q_cont, q_name, q_dnil, q_dcons, q_dtup, q_asg, q_set, q_par, q_for, q_range1, q_range2, q_iseq, q_ienum, q_call, q_cb, q_ncb, q_nop, q_lenset, q_mt, q_mt0, q_setix, q_augs, q_aug, q_nsl, q_onone, q_osome, q_gsl, q_raise, q_raiseF, q_try, q_lc, q_lc2, q_yes, q_wipe0, q_wipe, q_xf, q_I, q_I0, q_U, q_add, q_addT, q_addL, q_addR, q_onL, q_onSt, q_onSl, q_onSs, q_onSrct, q_onSrcl, q_eqI, q_eqB, q_eqS, q_eqN, q_isN, q_ix, q_ixL, q_in, q_len, q_sum, q_max, q_min, q_max2, q_min2, q_abs, q_int, q_tupof, q_lstof, q_sort, q_rep, q_cat, q_isi, q_isis, q_setat, q_onC, q_append, q_pop, q_popAt, q_reverse, q_insert, q_sp1, q_sp2, q_sp3, q_sp4, q_at0, q_atS, q_st0, q_stS, q_iteT, q_iteF, q_isB, q_gCntT, sp_check_int, sp_letters_of]
  refine ⟨n, 1, rfl, rfl, h1, ?_⟩
  (try dsimp only [q_op, q_un, q_var, q_c, q_nil, q_cons, q_tup, q_frz, q_cel, q_lst, q_test, q_onB, q_and, q_or, q_not, q_andV, q_orV, q_notV, q_if, q_chain, q_next, q_seq, q_drop, q_ret, q_retF, q_retN, q_sif, q_break, q_cont, q_name, q_dnil, q_dcons, q_dtup, q_asg, q_set, q_par, q_for, q_range1, q_range2, q_iseq, q_ienum, q_call, q_cb, q_ncb, q_nop, q_lenset, q_mt, q_mt0, q_setix, q_augs, q_aug, q_nsl, q_onone, q_osome, q_gsl, q_raise, q_raiseF, q_try, q_lc, q_lc2, q_yes, q_wipe0, q_wipe, q_xf, q_I, q_I0, q_U, q_add, q_addT, q_addL, q_addR, q_onL, q_onSt, q_onSl, q_onSs, q_onSrct, q_onSrcl, q_eqI, q_eqB, q_eqS, q_eqN, q_isN, q_ix, q_ixL, q_in, q_len, q_sum, q_max, q_min, q_max2, q_min2, q_abs, q_int, q_tupof, q_lstof, q_sort, q_rep, q_cat, q_isi, q_isis, q_setat, q_onC, q_append, q_pop, q_popAt, q_reverse, q_insert, q_sp1, q_sp2, q_sp3, q_sp4, q_at0, q_atS, q_st0, q_stS, q_iteT, q_iteF, q_isB, q_gCntT])
  refine ⟨n, rfl, ?_⟩
  rcases h with h | ⟨xs, row, flat, hl, q⟩
  · exact .inl h
  · refine .inr ⟨xs, row, flat, hl, ?_⟩
    dsimp only at q ⊢
    cases he : letE n xs with
    | some p => rw [he] at q; exact q
    | none =>
      rw [he] at q
      rw [(letE_none he).1]
      exact q
/-- a word over two dice -/
theorem two_good {xs : List D} (h : letE 2 xs = none) (hl : xs.length < 4000) : GoodW 2 (intsOf xs) := by
  obtain ⟨h1, h2, h3⟩ := letE_none h
  have hlen : (intsOf xs).length ≤ xs.length := List.length_filterMap_le _ _
  refine ⟨by decide, by decide, by omega, fun a ha => h2 a ha, fun k hk => ?_⟩
  have key : ∀ a : Int, (∀ b ∈ intsOf xs, b = a) → False := fun a hb => by
    have : (ddup (intsOf xs)).length ≤ [a].length := nodup_le (ddup_nodup _) fun k hk => by
      have := hb k ((ddup_mem k _).mp hk)
      simp [this]
    simp at this
    omega
  apply Classical.byContradiction
  intro hn
  have : k = 0 ∨ k = 1 := by omega
  rcases this with rfl | rfl
  · refine key 1 fun b hb => ?_
    have := h2 b hb
    have : b ≠ 0 := fun z => hn (by subst z; exact hb)
    omega
  · refine key 0 fun b hb => ?_
    have := h2 b hb
    have : b ≠ 1 := fun z => hn (by subst z; exact hb)
    omega
theorem wordC_use {M : Mem} {d : D} {E : DXK} {k k' : List Int → Prop} (h : ∀ ns, GoodW 2 ns → k ns → k' ns) : wordC K M d 2 E k → wordC K M d 2 E k' := by
  rintro (z | ⟨xs, r, f, l, q⟩)
  · exact .inl z
  · refine .inr ⟨xs, r, f, l, ?_⟩
    dsimp only at q ⊢
    cases he : letE 2 xs with
    | some p => rw [he] at q; exact q
    | none => rw [he] at q; exact h _ (two_good he l) q
end
end LW

namespace LW
open PySem PySem.Spec PyProof.Rows L2 DL
def quadD (c : Int × Int × Int × Int) : D := .tup [.int c.1, .int c.2.1, .int c.2.2.1, .int c.2.2.2]
/-- the cell that an exchange at a turns -/
def flipF (w : List Int) (a : Nat) : Int × Int × Int × Int :=
  if w.getD a 0 < w.getD (a + 1) 0 then (w.getD a 0, w.getD (a + 1) 0, ((w.take a).count (w.getD a 0) : Nat), ((w.take a).count (w.getD (a + 1) 0) : Nat))
  else (w.getD (a + 1) 0, w.getD a 0, ((w.take a).count (w.getD (a + 1) 0) : Nat), ((w.take a).count (w.getD a 0) : Nat))
section
variable {K : PySem.W.Frag}
/-- the cells of the pair i, j as quads -/
def quadsF (one two : List Int) (i j : Int) : List (Int × Int × Int × Int) := (cellsF one two i j).map fun c => (i, j, c.1, c.2.1)
def rowA (one two : List Int) (i k : Nat) : List (Int × Int × Int × Int) := (List.range k).flatMap fun j => quadsF one two ((i : Nat) : Int) ((i + 1 + j : Nat) : Int)
theorem allCells_eq (one two : List Int) (n : Nat) : allCells one two n = (List.range n).flatMap fun i => rowA one two i (n - (i + 1)) := by
  unfold allCells pairsF
  rw [List.flatMap_assoc]
  congr 1
  funext i
  unfold rowA
  rw [List.flatMap_map]
  rfl
theorem quads_len {one : List Int} (two : List Int) (i j : Int) (h : one.length < 64) : (quadsF one two i j).length ≤ 3969 := by
  unfold quadsF
  rw [List.length_map]
  have h1 := rows_len one two i j (placesOf one j).length (placesOf one i).length
  have c1 : (placesOf one i).length ≤ 63 := by rw [placesOf_len]; exact Nat.le_trans List.count_le_length (by omega)
  have c2 : (placesOf one j).length ≤ 63 := by rw [placesOf_len]; exact Nat.le_trans List.count_le_length (by omega)
  have h3 : (placesOf one i).length * (placesOf one j).length ≤ 63 * 63 := Nat.mul_le_mul c1 c2
  have e : cellsF one two i j = (List.range (placesOf one i).length).flatMap fun x => rowC one two i j x (placesOf one j).length := rfl
  rw [e]
  omega
theorem rowA_succ (one two : List Int) (i k : Nat) : rowA one two i (k + 1) = rowA one two i k ++ quadsF one two ((i : Nat) : Int) ((i + 1 + k : Nat) : Int) := by
  unfold rowA
  rw [List.range_succ, List.flatMap_append]
  simp
theorem rowA_len {one : List Int} (two : List Int) (i : Nat) (h : one.length < 64) : ∀ k : Nat, (rowA one two i k).length ≤ k * 3969
  | 0 => by simp [rowA]
  | k + 1 => by
    rw [rowA_succ, List.length_append]
    have h1 := rowA_len two i h k
    have h2 := quads_len two ((i : Nat) : Int) ((i + 1 + k : Nat) : Int) h
    omega
theorem rowsA_succ (one two : List Int) (n x : Nat) : ((List.range (x + 1)).flatMap fun i => rowA one two i (n - (i + 1))) = ((List.range x).flatMap fun i => rowA one two i (n - (i + 1))) ++ rowA one two x (n - (x + 1)) := by
  rw [List.range_succ, List.flatMap_append]
  simp
theorem rowsA_len {one : List Int} (two : List Int) (h : one.length < 64) {n : Nat} (hn : n ≤ 64) : ∀ x : Nat, ((List.range x).flatMap fun i => rowA one two i (n - (i + 1))).length ≤ x * 254016
  | 0 => by simp
  | x + 1 => by
    rw [rowsA_succ, List.length_append]
    have h1 := rowsA_len two h hn x
    have h2 := rowA_len two x h (n - (x + 1))
    omega
end
section
variable {K : PySem.W.Frag}
theorem count_fm (h : Int) : ∀ l : List Int, (l.filterMap fun c => if c = h then some (D.int c) else none).length = l.count h
  | [] => rfl
  | c :: l => by
    by_cases z : c = h
    · subst z; rw [List.filterMap_cons_some (b := D.int c) (by simp), List.length_cons, count_fm c l, List.count_cons_self]
    · rw [List.filterMap_cons_none (by simp [z]), count_fm h l, List.count_cons_of_ne z]
end
section
variable {K : PySem.W.Frag}
theorem exchI_len {w : List Int} {i : Nat} (h : i + 1 < w.length) : (exchI w i).length = w.length := by
  unfold exchI; simp; omega
theorem exchI_get {w : List Int} {i : Nat} (h : i + 1 < w.length) (k : Nat) : (exchI w i).getD k 0 = if k = i then w.getD (i + 1) 0 else if k = i + 1 then w.getD i 0 else w.getD k 0 := by
  unfold exchI
  rw [List.append_assoc]
  simp only [List.getD_eq_getElem?_getD]
  have ht : (w.take i).length = i := by simp; omega
  rw [List.getElem?_append, ht]
  by_cases c1 : k < i
  · rw [if_pos c1, if_neg (by omega), if_neg (by omega), List.getElem?_take_of_lt c1]
  · rw [if_neg c1]
    by_cases c2 : k = i
    · subst c2; rw [if_pos rfl, Nat.sub_self]; rfl
    · rw [if_neg c2]
      by_cases c3 : k = i + 1
      · subst c3; rw [if_pos rfl, show i + 1 - i = 1 by omega]; rfl
      · rw [if_neg c3, show k - i = (k - i - 2) + 2 by omega]
        show (List.drop (i + 2) w)[k - i - 2]?.getD 0 = _
        rw [List.getElem?_drop, show i + 2 + (k - i - 2) = k by omega]
theorem spots_eq {w : List Int} {i : Nat} (h : i + 1 < w.length) (hne : w.getD i 0 ≠ w.getD (i + 1) 0) :
    ((List.range w.length).filterMap fun k => if w.getD k 0 ≠ (exchI w i).getD k 0 then some (D.int (k : Nat)) else none) = [.int (i : Nat), .int ((i : Nat) + 1)] := by
  obtain ⟨m, hm⟩ : ∃ m, w.length = i + (2 + m) := ⟨w.length - (i + 2), by omega⟩
  rw [hm, List.range_add, List.range_add]
  simp only [List.map_append, List.map_map, List.filterMap_append, List.filterMap_map]
  have n1 : (List.range i).filterMap (fun k => if w.getD k 0 ≠ (exchI w i).getD k 0 then some (D.int (k : Nat)) else none) = [] := by
    rw [List.filterMap_eq_nil_iff]
    intro k hk
    have : k < i := by simpa using hk
    rw [exchI_get h, if_neg (c := k = i) (by omega), if_neg (c := k = i + 1) (by omega)]
    simp
  have n2 : (List.range m).filterMap ((fun k => if w.getD k 0 ≠ (exchI w i).getD k 0 then some (D.int (k : Nat)) else none) ∘ ((fun x => i + x) ∘ fun x => 2 + x)) = [] := by
    rw [List.filterMap_eq_nil_iff]
    intro k hk
    simp only [Function.comp]
    rw [exchI_get h, if_neg (c := i + (2 + k) = i) (by omega), if_neg (c := i + (2 + k) = i + 1) (by omega)]
    simp
  rw [n1, n2]
  have r2 : List.range 2 = [0, 1] := by decide
  rw [r2]
  have a0 : ((fun k => if w.getD k 0 ≠ (exchI w i).getD k 0 then some (D.int (k : Nat)) else none) ∘ fun x => i + x) 0 = some (.int (i : Nat)) := by
    simp only [Function.comp]
    rw [exchI_get h, if_pos (c := i + 0 = i) (by omega), Nat.add_zero, if_pos hne]
  have a1 : ((fun k => if w.getD k 0 ≠ (exchI w i).getD k 0 then some (D.int (k : Nat)) else none) ∘ fun x => i + x) 1 = some (.int ((i : Nat) + 1)) := by
    simp only [Function.comp]
    rw [exchI_get h, if_neg (c := i + 1 = i) (by omega), if_pos (c := i + 1 = i + 1) rfl, if_pos (Ne.symm hne)]
    rfl
  rw [List.filterMap_cons_some a0, List.filterMap_cons_some a1]
  rfl
end
section
variable {K : PySem.W.Frag}
theorem sort_mem {one two : List Int} (h : sortI one = sortI two) (x : Int) : x ∈ one ↔ x ∈ two := by
  rw [← (sortI_perm one).mem_iff, h, (sortI_perm two).mem_iff]
theorem top_le {one two : List Int} (h : ∀ x ∈ one, x ∈ two) : topI one ≤ topI two := by
  rcases (foldl_max one 0).2.2 with z | z
  · show one.foldl max 0 ≤ _
    rw [z]; exact topI_nn two
  · exact (foldl_max two 0).2.1 _ (h _ z)
theorem sort_top {one two : List Int} (h : sortI one = sortI two) : topI one = topI two :=
  Int.le_antisymm (top_le fun x hx => (sort_mem h x).mp hx) (top_le fun x hx => (sort_mem h x).mpr hx)
theorem goalsF_len (two : List Int) : ∀ (l m : List Int), (goalsF two m l).length = l.length
  | [], _ => rfl
  | c :: l, m => by
    unfold goalsF
    rw [List.length_cons, goalsF_len two l, List.length_cons]
theorem goalsF_snoc (two : List Int) (c : Int) : ∀ (l m : List Int), goalsF two m (l ++ [c]) = goalsF two m l ++ [(placesOf two c).getD ((m ++ l).count c) 0]
  | [], m => by simp [goalsF]
  | a :: l, m => by
    rw [List.cons_append]
    unfold goalsF
    rw [goalsF_snoc two c l (m ++ [a])]
    simp
end
section
variable {K : PySem.W.Frag}
theorem q_subT {ga gb : DE} {d : D} {ρ : Dv} {M : Mem} {Q : Dv → Mem → Prop} : dSubT ga gb d ρ M Q = ga E0 ρ M fun o M1 => gb E0 ρ M1 fun i M2 => dSetIx o i d M2 fun M3 => Q ρ M3 := rfl
theorem tups_snoc (ws : List (List Int)) (w : List Int) : tups ws ++ [.tup (iD w)] = tups (ws ++ [w]) := by
  unfold tups; rw [List.map_append]; rfl
theorem tups_last {ws : List (List Int)} (h : ws ≠ []) : atI (tups ws) (-1) = some (.tup (iD (ws.getLastD []))) := by
  rcases List.eq_nil_or_concat ws with z | ⟨l, w, z⟩
  · exact absurd z h
  · rw [z, List.concat_eq_append]
    unfold atI ixN tups
    simp [List.getLastD_eq_getLast?]
    rw [if_pos (show (1 : Int) ≤ (l.length : Int) + 1 by omega), show (-1 + ((l.length : Int) + 1)).toNat = l.length by omega]
    simp
theorem exchI_set {g : List Int} {i : Nat} (h : i + 1 < g.length) : ((iD g).set i (.int (g.getD (i + 1) 0))).set (i + 1) (.int (g.getD i 0)) = iD (exchI g i) := by
  have e : (g.set i (g.getD (i + 1) 0)).set (i + 1) (g.getD i 0) = exchI g i := by
    refine List.ext_getElem (by rw [exchI_len h]; simp) fun k h1 h2 => ?_
    have hk : k < g.length := by simpa using h1
    have := exchI_get h k
    simp only [List.getD, List.getElem?_eq_getElem h2, Option.getD_some] at this
    rw [this, List.getElem_set, List.getElem_set]
    by_cases c1 : i + 1 = k
    · subst c1
      rw [if_pos rfl, if_neg (by omega), if_pos rfl]
      rfl
    · rw [if_neg c1]
      by_cases c2 : i = k
      · subst c2; rw [if_pos rfl, if_pos rfl]; rfl
      · rw [if_neg c2, if_neg (by omega), if_neg (by omega)]
        simp [hk]
  rw [← e]
  simp [List.map_set]
end
section
variable {K : PySem.W.Frag}
theorem tups_len (ws : List (List Int)) : (tups ws).length = ws.length := List.length_map _
theorem tups_at {ws : List (List Int)} {i : Nat} (h : i < ws.length) : atI (tups ws) ((i : Nat) : Int) = some (.tup (iD (ws.getD i []))) := by
  rw [DL.atI_nat (by rw [tups_len]; exact h)]
  simp [tups, List.getD, h]
end
/-! ### the plain law: places, goals and cells under an exchange -/
theorem placesFrom_snoc (i c : Int) : ∀ (l : List Int) (k : Nat), placesFrom i (l ++ [c]) k = placesFrom i l k ++ (if c = i then [((k + l.length : Nat) : Int)] else [])
  | [], k => by
    show placesFrom i [c] k = _
    unfold placesFrom placesFrom
    simp
  | a :: l, k => by
    rw [List.cons_append]
    unfold placesFrom
    rw [placesFrom_snoc i c l (k + 1), List.length_cons, show k + 1 + l.length = k + (l.length + 1) by omega]
    split <;> simp
theorem placesOf_snoc (l : List Int) (c i : Int) : placesOf (l ++ [c]) i = placesOf l i ++ (if c = i then [((l.length : Nat) : Int)] else []) := by
  unfold placesOf
  rw [placesFrom_snoc, Nat.zero_add]
/-- the x-th place of a letter -/
theorem placesOf_at (w : List Int) (p : Nat) (hp : p < w.length) : (placesOf w (w.getD p 0)).getD ((w.take p).count (w.getD p 0)) 0 = p := by
  have key : ∀ (m l : List Int), (placesOf (l ++ m) (w.getD p 0)).take (placesOf l (w.getD p 0)).length = placesOf l (w.getD p 0) := by
    intro m
    induction m with
    | nil => intro l; simp
    | cons c m ih =>
      intro l
      have := ih (l ++ [c])
      rw [List.append_assoc, List.singleton_append] at this
      rw [placesOf_snoc] at this
      have h2 := congrArg (List.take (placesOf l (w.getD p 0)).length) this
      rw [List.take_take, List.take_left, Nat.min_eq_left (by simp)] at h2
      exact h2
  have hw : w = w.take (p + 1) ++ w.drop (p + 1) := (List.take_append_drop _ _).symm
  have hs : w.take (p + 1) = w.take p ++ [w.getD p 0] := by
    rw [List.take_succ]; simp [List.getD, hp]
  have h := key (w.drop (p + 1)) (w.take (p + 1))
  rw [← hw] at h
  have h3 : placesOf (w.take (p + 1)) (w.getD p 0) = placesOf (w.take p) (w.getD p 0) ++ [(p : Int)] := by
    rw [hs, placesOf_snoc, if_pos rfl, List.length_take, Nat.min_eq_left (Nat.le_of_lt hp)]
  rw [h3] at h
  have hl : (placesOf (w.take p) (w.getD p 0)).length = (w.take p).count (w.getD p 0) := placesOf_len _ _
  have h4 := congrArg (fun l : List Int => l.getD ((w.take p).count (w.getD p 0)) 0) h
  clear hs key h
  generalize w.getD p 0 = c at *
  simp only [List.getD_eq_getElem?_getD] at h4 ⊢
  rw [List.getElem?_take_of_lt (by simp [hl]), List.getElem?_append_right (by omega), hl, Nat.sub_self] at h4
  simpa using h4
theorem placesFrom_append (i : Int) (m : List Int) : ∀ (l : List Int) (k : Nat), placesFrom i (l ++ m) k = placesFrom i l k ++ placesFrom i m (k + l.length)
  | [], k => by simp [placesFrom]
  | a :: l, k => by
    have e1 : placesFrom i (a :: (l ++ m)) k = if a = i then (k : Int) :: placesFrom i (l ++ m) (k + 1) else placesFrom i (l ++ m) (k + 1) := rfl
    have e2 : placesFrom i (a :: l) k = if a = i then (k : Int) :: placesFrom i l (k + 1) else placesFrom i l (k + 1) := rfl
    rw [List.cons_append, e1, e2, placesFrom_append i m l (k + 1), List.length_cons, show k + 1 + l.length = k + (l.length + 1) by omega]
    split <;> simp
theorem placesFrom_rng (i : Int) : ∀ (l : List Int) (k : Nat), ∀ x ∈ placesFrom i l k, (k : Int) ≤ x ∧ x < (k + l.length : Nat)
  | [], k, x, h => by simp [placesFrom] at h
  | a :: l, k, x, h => by
    unfold placesFrom at h
    have ih := placesFrom_rng i l (k + 1)
    split at h
    · rcases List.mem_cons.mp h with z | z
      · rw [z, List.length_cons]; omega
      · have := ih x z; rw [List.length_cons]; omega
    · have := ih x h; rw [List.length_cons]; omega
/-- a and a + 1 exchanged -/
def tau (a : Nat) (x : Int) : Int := if x = a then (a : Int) + 1 else if x = (a : Int) + 1 then a else x
theorem split_at {w : List Int} {a : Nat} (h : a + 1 < w.length) : w = w.take a ++ ([w.getD a 0, w.getD (a + 1) 0] ++ w.drop (a + 2)) := by
  have e1 : w = w.take a ++ w.drop a := (List.take_append_drop _ _).symm
  have e2 : w.drop a = w.getD a 0 :: w.getD (a + 1) 0 :: w.drop (a + 2) := by
    rw [List.drop_eq_getElem_cons (by omega), List.drop_eq_getElem_cons h]
    simp [List.getD, h, show a < w.length by omega]
  rw [e2] at e1
  exact e1
theorem places_exch {w : List Int} {a : Nat} (h : a + 1 < w.length) (hne : w.getD a 0 ≠ w.getD (a + 1) 0) (e : Int) : placesOf (exchI w a) e = (placesOf w e).map (tau a) := by
  have hs := split_at h
  have hx : exchI w a = w.take a ++ ([w.getD (a + 1) 0, w.getD a 0] ++ w.drop (a + 2)) := by unfold exchI; rw [List.append_assoc]
  have hl : (w.take a).length = a := by simp; omega
  generalize w.getD a 0 = c at *
  generalize w.getD (a + 1) 0 = d at *
  rw [hx]
  conv => rhs; rw [hs]
  unfold placesOf
  simp only [placesFrom_append, hl, List.map_append, Nat.zero_add]
  have m1 : (placesFrom e (w.take a) 0).map (tau a) = placesFrom e (w.take a) 0 := by
    refine (List.map_congr_left fun x hx => ?_).trans (List.map_id _)
    have := placesFrom_rng e _ _ x hx
    rw [hl] at this
    unfold tau
    rw [if_neg (by omega), if_neg (by omega)]
    rfl
  have m2 : (placesFrom e (w.drop (a + 2)) (a + 2)).map (tau a) = placesFrom e (w.drop (a + 2)) (a + 2) := by
    refine (List.map_congr_left fun x hx => ?_).trans (List.map_id _)
    have := placesFrom_rng e _ _ x hx
    unfold tau
    rw [if_neg (by omega), if_neg (by omega)]
    rfl
  have m3 : placesFrom e [d, c] a = (placesFrom e [c, d] a).map (tau a) := by
    simp only [placesFrom]
    by_cases z1 : c = e
    · have z2 : d ≠ e := fun y => hne (z1.trans y.symm)
      simp [z1, z2, tau]
    · by_cases z2 : d = e
      · simp [z1, z2, tau]; try omega
      · simp [z1, z2]
  rw [m1, m3]
  simp only [List.length_cons, List.length_nil]
  rw [m2]
theorem goalsF_append (two : List Int) (l2 : List Int) : ∀ (l m : List Int), goalsF two m (l ++ l2) = goalsF two m l ++ goalsF two (m ++ l) l2
  | [], m => by simp [goalsF]
  | c :: l, m => by
    have e1 : ∀ l, goalsF two m (c :: l) = (placesOf two c).getD (m.count c) 0 :: goalsF two (m ++ [c]) l := fun _ => rfl
    rw [List.cons_append, e1, e1, goalsF_append two l2 l (m ++ [c]), List.cons_append, List.append_assoc, List.singleton_append]
theorem goalsF_perm (two : List Int) {m m' : List Int} (h : m.Perm m') : ∀ l : List Int, goalsF two m l = goalsF two m' l := fun l => by
  induction l generalizing m m' with
  | nil => rfl
  | cons c l ih =>
    unfold goalsF
    rw [h.count_eq c, ih (h.append_right [c])]
/-- the goals of the exchanged word -/
theorem goals_exch {w two : List Int} {a : Nat} (h : a + 1 < w.length) (hne : w.getD a 0 ≠ w.getD (a + 1) 0) : goalsI (exchI w a) two = exchI (goalsI w two) a := by
  have hs := split_at h
  have hx : exchI w a = w.take a ++ ([w.getD (a + 1) 0, w.getD a 0] ++ w.drop (a + 2)) := by unfold exchI; rw [List.append_assoc]
  have hl : (w.take a).length = a := by simp; omega
  generalize w.getD a 0 = c at *
  generalize w.getD (a + 1) 0 = d at *
  have hne' : d ≠ c := fun z => hne z.symm
  have cnt : ∀ (u : List Int) (x y : Int), x ≠ y → (u ++ [x]).count y = u.count y := fun u x y z => by
    rw [List.count_append, List.count_singleton]; simp [z]
  have e1 : goalsI w two = goalsF two [] (w.take a) ++ ([(placesOf two c).getD ((w.take a).count c) 0, (placesOf two d).getD ((w.take a).count d) 0] ++ goalsF two (w.take a ++ [c, d]) (w.drop (a + 2))) := by
    unfold goalsI
    conv => lhs; rw [hs]
    rw [goalsF_append, goalsF_append, List.nil_append]
    simp only [goalsF]
    rw [cnt _ _ _ hne]
  have e2 : goalsI (exchI w a) two = goalsF two [] (w.take a) ++ ([(placesOf two d).getD ((w.take a).count d) 0, (placesOf two c).getD ((w.take a).count c) 0] ++ goalsF two (w.take a ++ [c, d]) (w.drop (a + 2))) := by
    unfold goalsI
    rw [hx, goalsF_append, goalsF_append, List.nil_append]
    simp only [goalsF]
    rw [cnt _ _ _ hne']
    rw [goalsF_perm two (show (w.take a ++ [d, c]).Perm (w.take a ++ [c, d]) from List.Perm.append_left _ (List.Perm.swap c d []))]
  rw [e2, e1]
  have hg : (goalsF two [] (w.take a)).length = a := by rw [goalsF_len, hl]
  generalize goalsF two [] (w.take a) = G at *
  generalize goalsF two (w.take a ++ [c, d]) (w.drop (a + 2)) = H
  unfold exchI
  subst hg
  simp [List.getD_eq_getElem?_getD, List.drop_append]
abbrev Cell := Int × Int × Int × Int
def diffC (w two : List Int) (q : Cell) : Bool := decide (posF w q.1 q.2.2.1.toNat < posF w q.2.1 q.2.2.2.toNat) != decide (posF two q.1 q.2.2.1.toNat < posF two q.2.1 q.2.2.2.toNat)
def candP (w : List Int) (i j : Int) : List Cell := (List.range (w.count i)).flatMap fun x : Nat => (List.range (w.count j)).map fun y : Nat => (i, j, ((x : Nat) : Int), ((y : Nat) : Int))
def candF (w : List Int) (n : Nat) : List Cell := (pairsF n).flatMap fun p => candP w p.1 p.2
theorem cellAt_diff (w two : List Int) (i j : Int) (x y : Nat) : (cellAt (placesOf w i) (placesOf w j) (placesOf two i) (placesOf two j) x y).map (fun c => ((i, j, c.1, c.2.1) : Cell)) = if diffC w two (i, j, ((x : Nat) : Int), ((y : Nat) : Int)) = true then some (i, j, ((x : Nat) : Int), ((y : Nat) : Int)) else none := by
  have e : diffC w two (i, j, ((x : Nat) : Int), ((y : Nat) : Int)) = (decide ((placesOf w i).getD x 0 < (placesOf w j).getD y 0) != decide ((placesOf two i).getD x 0 < (placesOf two j).getD y 0)) := rfl
  rw [e]
  show Option.map _ (if decide ((placesOf w i).getD x 0 < (placesOf w j).getD y 0) = decide ((placesOf two i).getD x 0 < (placesOf two j).getD y 0) then none else some ((x : Int), (y : Int), decide ((placesOf w i).getD x 0 < (placesOf w j).getD y 0))) = _
  generalize decide ((placesOf w i).getD x 0 < (placesOf w j).getD y 0) = A
  generalize decide ((placesOf two i).getD x 0 < (placesOf two j).getD y 0) = B
  cases A <;> cases B <;> rfl
theorem quads_filter (w two : List Int) (i j : Int) : quadsF w two i j = (candP w i j).filter (diffC w two) := by
  unfold quadsF cellsF candP
  rw [List.map_flatMap, List.filter_flatMap, placesOf_len, placesOf_len]
  congr 1
  funext x
  rw [List.map_filterMap, List.filter_map, ← List.filterMap_eq_filter, List.map_filterMap]
  congr 1
  funext y
  rw [cellAt_diff]
  simp only [Function.comp, Option.guard]
  by_cases h : diffC w two (i, j, ((x : Nat) : Int), ((y : Nat) : Int)) = true
  · rw [if_pos h]; split
    · rfl
    · rename_i z; exact absurd h z
  · rw [if_neg h]; split
    · rename_i z; exact absurd z h
    · rfl
theorem allCells_filter (w two : List Int) (n : Nat) : allCells w two n = (candF w n).filter (diffC w two) := by
  unfold allCells candF
  rw [List.filter_flatMap]
  congr 1
  funext p
  exact quads_filter w two p.1 p.2
theorem candP_nodup (w : List Int) (i j : Int) : (candP w i j).Nodup := by
  unfold candP List.Nodup
  rw [List.pairwise_flatMap]
  refine ⟨fun x _ => ?_, ?_⟩
  · rw [List.pairwise_map]
    refine List.Pairwise.imp ?_ List.nodup_range
    intro a b hab z
    simp at z
    exact hab (by omega)
  · refine List.Pairwise.imp ?_ List.nodup_range
    intro a b hab p hp q hq z
    obtain ⟨_, _, rfl⟩ := List.mem_map.mp hp
    obtain ⟨_, _, rfl⟩ := List.mem_map.mp hq
    simp at z
    exact hab (by omega)
theorem pairsF_nodup (n : Nat) : (pairsF n).Nodup := by
  unfold pairsF List.Nodup
  rw [List.pairwise_flatMap]
  refine ⟨fun x _ => ?_, ?_⟩
  · rw [List.pairwise_map]
    refine List.Pairwise.imp ?_ List.nodup_range
    intro a b hab z
    simp at z
    omega
  · refine List.Pairwise.imp ?_ List.nodup_range
    intro a b hab p hp q hq z
    obtain ⟨_, _, rfl⟩ := List.mem_map.mp hp
    obtain ⟨_, _, rfl⟩ := List.mem_map.mp hq
    simp at z
    omega
theorem candF_nodup (w : List Int) (n : Nat) : (candF w n).Nodup := by
  unfold candF List.Nodup
  rw [List.pairwise_flatMap]
  refine ⟨fun p _ => candP_nodup w p.1 p.2, ?_⟩
  refine List.Pairwise.imp ?_ (pairsF_nodup n)
  intro a b hab p hp q hq z
  unfold candP at hp hq
  obtain ⟨_, _, hp⟩ := List.mem_flatMap.mp hp
  obtain ⟨_, _, hq⟩ := List.mem_flatMap.mp hq
  obtain ⟨_, _, rfl⟩ := List.mem_map.mp hp
  obtain ⟨_, _, rfl⟩ := List.mem_map.mp hq
  simp at z
  exact hab (Prod.ext z.1 z.2.1)
theorem placesFrom_inv (i : Int) : ∀ (l : List Int) (k x : Nat) (p : Int), (placesFrom i l k)[x]? = some p → ∃ m : Nat, p = ((k + m : Nat) : Int) ∧ m < l.length ∧ l.getD m 0 = i ∧ (l.take m).count i = x
  | [], k, x, p, h => by simp [placesFrom] at h
  | a :: l, k, x, p, h => by
    have e2 : placesFrom i (a :: l) k = if a = i then (k : Int) :: placesFrom i l (k + 1) else placesFrom i l (k + 1) := rfl
    rw [e2] at h
    by_cases c : a = i
    · rw [if_pos c] at h
      cases x with
      | zero =>
        refine ⟨0, ?_, by simp, by simpa using c, by simp⟩
        simp at h
        simp [← h]
      | succ x =>
        rw [List.getElem?_cons_succ] at h
        obtain ⟨m, h1, h2, h3, h4⟩ := placesFrom_inv i l (k + 1) x p h
        refine ⟨m + 1, by rw [h1]; omega, by simp; omega, by simpa using h3, ?_⟩
        rw [List.take_succ_cons, List.count_cons, h4]
        simp [c]
    · rw [if_neg c] at h
      obtain ⟨m, h1, h2, h3, h4⟩ := placesFrom_inv i l (k + 1) x p h
      refine ⟨m + 1, by rw [h1]; omega, by simp; omega, by simpa using h3, ?_⟩
      rw [List.take_succ_cons, List.count_cons, h4]
      simp [c]
/-- the place of a letter's turn, and back -/
theorem posF_inv {w : List Int} {i : Int} {x : Nat} (h : x < w.count i) : ∃ m : Nat, posF w i x = (m : Int) ∧ m < w.length ∧ w.getD m 0 = i ∧ (w.take m).count i = x := by
  have hl : x < (placesOf w i).length := by rw [placesOf_len]; exact h
  obtain ⟨m, h1, h2⟩ := placesFrom_inv i w 0 x ((placesOf w i)[x]) (List.getElem?_eq_getElem hl)
  refine ⟨m, ?_, h2⟩
  unfold posF
  rw [List.getD_eq_getElem?_getD, List.getElem?_eq_getElem hl]
  rw [Nat.zero_add] at h1
  exact h1
theorem posF_exch {w : List Int} {a : Nat} (h : a + 1 < w.length) (hne : w.getD a 0 ≠ w.getD (a + 1) 0) {i : Int} {x : Nat} (hx : x < w.count i) : posF (exchI w a) i x = tau a (posF w i x) := by
  have hl : x < (placesOf w i).length := by rw [placesOf_len]; exact hx
  unfold posF
  rw [places_exch h hne]
  simp [List.getD_eq_getElem?_getD, hl]
theorem goals_at {w two : List Int} {p : Nat} (h : p < w.length) : (goalsI w two).getD p 0 = posF two (w.getD p 0) ((w.take p).count (w.getD p 0)) := by
  have e : w = w.take p ++ w.getD p 0 :: w.drop (p + 1) := by
    have e1 : w = w.take p ++ w.drop p := (List.take_append_drop _ _).symm
    rw [List.drop_eq_getElem_cons h] at e1
    simpa [List.getD, h] using e1
  have hl : (w.take p).length = p := by simp; omega
  unfold goalsI posF
  conv => lhs; rw [e]
  rw [goalsF_append, List.getD_eq_getElem?_getD, List.getElem?_append_right (by rw [goalsF_len, hl]; exact Nat.le_refl _), goalsF_len, hl, Nat.sub_self, List.nil_append]
  rfl
/-- an exchange of unlike neighbours turns one cell -/
theorem diff_exch {w two : List Int} {a : Nat} (h : a + 1 < w.length) (hne : w.getD a 0 ≠ w.getD (a + 1) 0) {i j : Int} (hij : i < j) {x y : Nat} (hx : x < w.count i) (hy : y < w.count j) :
    diffC (exchI w a) two (i, j, (x : Int), (y : Int)) = if ((i, j, (x : Int), (y : Int)) : Cell) = flipF w a then !diffC w two (i, j, (x : Int), (y : Int)) else diffC w two (i, j, (x : Int), (y : Int)) := by
  obtain ⟨p, p1, p2, p3, p4⟩ := posF_inv hx
  obtain ⟨q, q1, q2, q3, q4⟩ := posF_inv hy
  have e0 : diffC (exchI w a) two (i, j, (x : Int), (y : Int)) = (decide (posF (exchI w a) i x < posF (exchI w a) j y) != decide (posF two i x < posF two j y)) := rfl
  have e1 : diffC w two (i, j, (x : Int), (y : Int)) = (decide (posF w i x < posF w j y) != decide (posF two i x < posF two j y)) := rfl
  rw [e0, e1, posF_exch h hne hx, posF_exch h hne hy, p1, q1]
  have hpq : p ≠ q := fun z => by rw [z, q3] at p3; omega
  generalize decide (posF two i x < posF two j y) = B
  have ht : (w.take (a + 1)) = w.take a ++ [w.getD a 0] := by
    rw [List.take_succ]; simp [List.getD, show a < w.length by omega]
  have hc1 : (w.take (a + 1)).count (w.getD (a + 1) 0) = (w.take a).count (w.getD (a + 1) 0) := by
    rw [ht, List.count_append, List.count_singleton, if_neg (by simpa using hne), Nat.add_zero]
  by_cases c1 : p = a ∧ q = a + 1
  · obtain ⟨rfl, rfl⟩ := c1
    have hq : (w.take p).count j = y := by rw [← q4, ← q3, hc1]
    have hf : flipF w p = (i, j, (x : Int), (y : Int)) := by
      unfold flipF
      rw [p3, q3, if_pos hij, p4, hq]
    rw [hf, if_pos rfl]
    have z1 : decide (tau p (p : Nat) < tau p ((p + 1 : Nat) : Int)) = false := by unfold tau; simp; omega
    have z2 : decide (((p : Nat) : Int) < ((p + 1 : Nat) : Int)) = true := by simp; omega
    rw [z1, z2]; cases B <;> rfl
  · by_cases c2 : p = a + 1 ∧ q = a
    · obtain ⟨rfl, rfl⟩ := c2
      have hq : (w.take q).count i = x := by rw [← p4, ← p3, hc1]
      have hf : flipF w q = (i, j, (x : Int), (y : Int)) := by
        unfold flipF
        rw [p3, q3, if_neg (by omega), q4, hq]
      rw [hf, if_pos rfl]
      have z1 : decide (tau q ((q + 1 : Nat) : Int) < tau q (q : Nat)) = true := by unfold tau; simp; omega
      have z2 : decide (((q + 1 : Nat) : Int) < ((q : Nat) : Int)) = false := by simp; omega
      rw [z1, z2]; cases B <;> rfl
    · have hn : ((i, j, (x : Int), (y : Int)) : Cell) ≠ flipF w a := fun z => by
        unfold flipF at z
        split at z
        · simp only [Prod.mk.injEq] at z
          obtain ⟨z1, z2, z3, z4⟩ := z
          apply c1
          have a1 := placesOf_at w a (by omega)
          have a2 := placesOf_at w (a + 1) h
          rw [← z1] at a1
          rw [hc1, ← z2] at a2
          have b1 : posF w i x = a := by unfold posF; rw [show x = (w.take a).count i by rw [← z1] at z3; omega]; exact a1
          have b2 : posF w j y = ((a + 1 : Nat) : Int) := by unfold posF; rw [show y = (w.take a).count j by rw [← z2] at z4; omega]; exact a2
          omega
        · simp only [Prod.mk.injEq] at z
          obtain ⟨z1, z2, z3, z4⟩ := z
          apply c2
          have a1 := placesOf_at w a (by omega)
          have a2 := placesOf_at w (a + 1) h
          rw [← z2] at a1
          rw [hc1, ← z1] at a2
          have b1 : posF w j y = a := by unfold posF; rw [show y = (w.take a).count j by rw [← z2] at z4; omega]; exact a1
          have b2 : posF w i x = ((a + 1 : Nat) : Int) := by unfold posF; rw [show x = (w.take a).count i by rw [← z1] at z3; omega]; exact a2
          omega
      rw [if_neg hn]
      have : (tau a (p : Nat) < tau a (q : Nat)) ↔ ((p : Int) < (q : Int)) := by
        unfold tau
        split <;> split <;> (try split) <;> (try split) <;> omega
      simp only [this]
/-! ### leads under an exchange -/
theorem leadF_diff {m1 m2 : List Int} (h : m1.Perm m2) (x y : Int) : ∀ u : List Int, leadF (u ++ m1) x y - leadF (u ++ m2) x y = leadF m1 x y - leadF m2 x y
  | [] => rfl
  | c :: u => by
    have ih := leadF_diff h x y u
    have e : ∀ l : List Int, leadF (c :: l) x y = leadF l x y + (if c = x then -(l.count y : Int) else 0) + (if c = y then (l.count x : Int) else 0) := fun _ => rfl
    have hp : (u ++ m1).Perm (u ++ m2) := List.Perm.append_left u h
    rw [List.cons_append, List.cons_append, e, e, hp.count_eq x, hp.count_eq y]
    omega
theorem leadF_exch {w : List Int} {a : Nat} (h : a + 1 < w.length) (hne : w.getD a 0 ≠ w.getD (a + 1) 0) {x y : Int} (hxy : x ≠ y) :
    leadF (exchI w a) x y = leadF w x y + (if x = w.getD a 0 ∧ y = w.getD (a + 1) 0 then 2 else 0) - (if x = w.getD (a + 1) 0 ∧ y = w.getD a 0 then 2 else 0) := by
  have hs := split_at h
  have hx : exchI w a = w.take a ++ ([w.getD (a + 1) 0, w.getD a 0] ++ w.drop (a + 2)) := by unfold exchI; rw [List.append_assoc]
  generalize w.getD a 0 = c at *
  generalize w.getD (a + 1) 0 = d at *
  have hp : ([d, c] ++ w.drop (a + 2)).Perm ([c, d] ++ w.drop (a + 2)) := List.Perm.swap c d _
  have hd := leadF_diff hp x y (w.take a)
  rw [← hx, ← hs] at hd
  generalize w.drop (a + 2) = v at *
  have e : ∀ (c : Int) (l : List Int), leadF (c :: l) x y = leadF l x y + (if c = x then -(l.count y : Int) else 0) + (if c = y then (l.count x : Int) else 0) := fun _ _ => rfl
  have l1 : leadF ([d, c] ++ v) x y = leadF v x y + (if c = x then -(v.count y : Int) else 0) + (if c = y then (v.count x : Int) else 0) + (if d = x then -((c :: v).count y : Int) else 0) + (if d = y then ((c :: v).count x : Int) else 0) := by
    show leadF (d :: c :: v) x y = _
    rw [e, e]
  have l2 : leadF ([c, d] ++ v) x y = leadF v x y + (if d = x then -(v.count y : Int) else 0) + (if d = y then (v.count x : Int) else 0) + (if c = x then -((d :: v).count y : Int) else 0) + (if c = y then ((d :: v).count x : Int) else 0) := by
    show leadF (c :: d :: v) x y = _
    rw [e, e]
  have k1 : ((c :: v).count y : Int) = v.count y + if c = y then 1 else 0 := by
    rw [List.count_cons]; by_cases z : c = y <;> simp [z]
  have k2 : ((c :: v).count x : Int) = v.count x + if c = x then 1 else 0 := by
    rw [List.count_cons]; by_cases z : c = x <;> simp [z]
  have k3 : ((d :: v).count y : Int) = v.count y + if d = y then 1 else 0 := by
    rw [List.count_cons]; by_cases z : d = y <;> simp [z]
  have k4 : ((d :: v).count x : Int) = v.count x + if d = x then 1 else 0 := by
    rw [List.count_cons]; by_cases z : d = x <;> simp [z]
  rw [l1, l2, k1, k2, k3, k4] at hd
  by_cases z1 : c = x
  · by_cases z2 : d = y
    · have n1 : ¬ c = y := fun q => hxy (z1.symm.trans q)
      have n2 : ¬ d = x := fun q => hne (z1.trans q.symm)
      simp only [z1, z2, if_true, if_false, and_self] at hd ⊢
      simp only [hxy, Ne.symm hxy, if_false, and_false, false_and] at hd ⊢
      omega
    · have n1 : ¬ c = y := fun q => hxy (z1.symm.trans q)
      have n2 : ¬ d = x := fun q => hne (z1.trans q.symm)
      have n3 : ¬ (x = c ∧ y = d) := fun q => z2 q.2.symm
      have n4 : ¬ (x = d ∧ y = c) := fun q => n2 q.1.symm
      simp only [z1, z2, n1, n2, if_true, if_false] at hd
      rw [if_neg n3, if_neg n4]
      omega
  · have n3 : ¬ (x = c ∧ y = d) := fun q => z1 q.1.symm
    rw [if_neg n3]
    by_cases z2 : d = x
    · by_cases z3 : c = y
      · have n1 : ¬ d = y := fun q => hxy (z2.symm.trans q)
        rw [if_pos ⟨z2.symm, z3.symm⟩]
        simp only [z1, z2, z3, n1, if_true, if_false] at hd
        simp only [hxy, Ne.symm hxy, if_false] at hd
        omega
      · rw [if_neg fun q => z3 q.2.symm]
        have n1 : ¬ d = y := fun q => hxy (z2.symm.trans q)
        simp only [z1, z2, z3, n1, if_true, if_false] at hd
        simp only [hxy, Ne.symm hxy, if_false] at hd
        omega
    · rw [if_neg fun q => z2 q.1.symm]
      simp only [z1, z2, if_false] at hd
      split at hd <;> split at hd <;> omega
/-! ### the way of exchanges -/
theorem sort_perm {l m : List Int} (h : l.Perm m) : sortI l = sortI m := sorted_uniq ((sortI_perm l).trans (h.trans (sortI_perm m).symm)) (sortI_sorted l) (sortI_sorted m)
theorem perm_sort {l m : List Int} (h : sortI l = sortI m) : l.Perm m := (sortI_perm l).symm.trans (by rw [h]; exact sortI_perm m)
theorem exchI_perm {w : List Int} {a : Nat} (h : a + 1 < w.length) : (exchI w a).Perm w := by
  have hs := split_at h
  have hx : exchI w a = w.take a ++ ([w.getD (a + 1) 0, w.getD a 0] ++ w.drop (a + 2)) := by unfold exchI; rw [List.append_assoc]
  rw [hx]
  conv => rhs; rw [hs]
  exact List.Perm.append_left _ (List.Perm.swap _ _ _)
/-- one exchange that the way takes -/
def stepR (two w w' : List Int) : Prop := ∃ a, a + 1 < w.length ∧ w.getD a 0 ≠ w.getD (a + 1) 0 ∧ w' = exchI w a ∧ (goalsI w two).getD (a + 1) 0 < (goalsI w two).getD a 0
def chainR (two : List Int) : List Int → List (List Int) → Prop
  | _, [] => True
  | w, v :: l => stepR two w v ∧ chainR two v l
theorem chainR_app {two : List Int} : ∀ (l : List (List Int)) (w : List Int) (m : List (List Int)), chainR two w l → chainR two (l.getLastD w) m → chainR two w (l ++ m)
  | [], w, m, _, h => h
  | v :: l, w, m, h, g => ⟨h.1, chainR_app l v m h.2 (by rwa [List.getLastD_cons] at g)⟩
theorem getLastD_app (m : List (List Int)) : ∀ (l : List (List Int)) (w : List Int), (l ++ m).getLastD w = m.getLastD (l.getLastD w)
  | [], w => rfl
  | v :: l, w => by
    rw [List.cons_append, List.getLastD_cons, List.getLastD_cons]
    exact getLastD_app m l v
theorem take_count_lt {w : List Int} {p : Nat} (h : p < w.length) : (w.take p).count (w.getD p 0) < w.count (w.getD p 0) := by
  have e : w = w.take p ++ w.getD p 0 :: w.drop (p + 1) := by
    have e1 : w = w.take p ++ w.drop p := (List.take_append_drop _ _).symm
    rw [List.drop_eq_getElem_cons h] at e1
    simpa [List.getD, h] using e1
  have : w.count (w.getD p 0) = (w.take p ++ w.getD p 0 :: w.drop (p + 1)).count (w.getD p 0) := by rw [← e]
  rw [this, List.count_append, List.count_cons_self]
  omega
theorem goal_val {w two : List Int} (hs : sortI w = sortI two) {p : Nat} (h : p < w.length) : ∃ m : Nat, (goalsI w two).getD p 0 = (m : Int) ∧ m < two.length ∧ two.getD m 0 = w.getD p 0 ∧ (two.take m).count (w.getD p 0) = (w.take p).count (w.getD p 0) := by
  rw [goals_at h]
  exact posF_inv (by rw [← sort_count hs]; exact take_count_lt h)
theorem goals_same {w two : List Int} (hs : sortI w = sortI two) {p q : Nat} (hp : p < w.length) (hq : q < w.length) (h : (goalsI w two).getD p 0 = (goalsI w two).getD q 0) : p = q := by
  obtain ⟨m, m1, m2, m3, m4⟩ := goal_val hs hp
  obtain ⟨m', n1, n2, n3, n4⟩ := goal_val hs hq
  have e : m = m' := by omega
  subst e
  have e2 : w.getD p 0 = w.getD q 0 := by rw [← m3, n3]
  have a1 := placesOf_at w p hp
  have a2 := placesOf_at w q hq
  rw [← e2] at a2 n4
  rw [← n4, m4, a1] at a2
  omega
theorem count_take_le (two : List Int) (c : Int) {m n : Nat} (h : m ≤ n) : (two.take m).count c ≤ (two.take n).count c := by
  have := (List.take_sublist m (two.take n)).count_le c
  rwa [List.take_take, Nat.min_eq_left h] at this
theorem goals_rise {w two : List Int} (hs : sortI w = sortI two) {a : Nat} (h : a + 1 < w.length) (he : w.getD a 0 = w.getD (a + 1) 0) : (goalsI w two).getD a 0 < (goalsI w two).getD (a + 1) 0 := by
  obtain ⟨m, m1, m2, m3, m4⟩ := goal_val hs (p := a) (by omega)
  obtain ⟨m', n1, n2, n3, n4⟩ := goal_val hs h
  have ht : (w.take (a + 1)) = w.take a ++ [w.getD a 0] := by
    rw [List.take_succ]; simp [List.getD, show a < w.length by omega]
  rw [← he, ht, List.count_append, List.count_singleton, if_pos (by simp)] at n4
  rw [m1, n1]
  have : ¬ m' ≤ m := fun z => by
    have := count_take_le two (w.getD a 0) z
    omega
  omega
theorem sink_ok {two : List Int} : ∀ (a : Nat) (w : List Int), sortI w = sortI two → a < w.length →
    (sinkI a (goalsI w two) w).1 = goalsI ((sinkI a (goalsI w two) w).2.getLastD w) two ∧ chainR two w (sinkI a (goalsI w two) w).2 ∧ sortI ((sinkI a (goalsI w two) w).2.getLastD w) = sortI two
  | 0, w, hs, _ => ⟨rfl, trivial, hs⟩
  | a + 1, w, hs, h => by
    unfold sinkI
    by_cases c : (goalsI w two).getD (a + 1) 0 < (goalsI w two).getD a 0
    · rw [if_pos c]
      have hne : w.getD a 0 ≠ w.getD (a + 1) 0 := fun z => by
        have := goals_rise hs h z
        omega
      have hs2 : sortI (exchI w a) = sortI two := (sort_perm (exchI_perm h)).trans hs
      have ih := sink_ok a (exchI w a) hs2 (by rw [exchI_len h]; omega)
      rw [goals_exch h hne] at ih
      dsimp only
      rw [List.getLastD_cons]
      exact ⟨ih.1, ⟨⟨a, h, hne, rfl, c⟩, ih.2.1⟩, ih.2.2⟩
    · rw [if_neg c]
      exact ⟨rfl, trivial, hs⟩
theorem sink_len : ∀ (a : Nat) (g w : List Int), a < g.length → (sinkI a g w).1.length = g.length
  | 0, g, w, _ => rfl
  | a + 1, g, w, h => by
    unfold sinkI
    split
    · dsimp only
      rw [sink_len a _ _ (by rw [exchI_len h]; omega), exchI_len h]
    · rfl
theorem sink_sorted {e : Nat} : ∀ (a : Nat) (g w : List Int), a ≤ e → e < g.length → (∀ i j, i < j → j ≤ e → j ≠ a → g.getD i 0 ≤ g.getD j 0) → ∀ i j, i < j → j ≤ e → (sinkI a g w).1.getD i 0 ≤ (sinkI a g w).1.getD j 0
  | 0, g, w, _, _, h => fun i j hij hj => h i j hij hj (by omega)
  | a + 1, g, w, ha, he, h => by
    unfold sinkI
    by_cases c : g.getD (a + 1) 0 < g.getD a 0
    · rw [if_pos c]
      have hl : a + 1 < g.length := by omega
      refine sink_sorted a (exchI g a) (exchI w a) (by omega) (by rw [exchI_len hl]; exact he) fun i j hij hj hja => ?_
      rw [exchI_get hl, exchI_get hl, if_neg hja]
      by_cases c1 : j = a + 1
      · rw [if_pos c1]
        by_cases c2 : i = a
        · rw [if_pos c2]; omega
        · rw [if_neg c2, if_neg (by omega)]
          exact h i a (by omega) (by omega) (by omega)
      · rw [if_neg c1]
        by_cases c2 : i = a
        · rw [if_pos c2]
          exact h (a + 1) j (by omega) hj c1
        · rw [if_neg c2]
          by_cases c3 : i = a + 1
          · rw [if_pos c3]
            exact h a j (by omega) hj c1
          · rw [if_neg c3]
            exact h i j hij hj c1
    · rw [if_neg c]
      intro i j hij hj
      dsimp only
      by_cases c1 : j = a + 1
      · subst c1
        by_cases c2 : i = a
        · subst c2; omega
        · have := h i a (by omega) (by omega) (by omega)
          omega
      · exact h i j hij hj c1
theorem goals_end {w two : List Int} (hs : sortI w = sortI two) (h : ∀ i j, i < j → j < w.length → (goalsI w two).getD i 0 ≤ (goalsI w two).getD j 0) : w = two := by
  have hl : w.length = two.length := (perm_sort hs).length_eq
  have st : ∀ i j, i < j → j < w.length → (goalsI w two).getD i 0 < (goalsI w two).getD j 0 := fun i j hij hj => by
    have h1 := h i j hij hj
    have h2 : (goalsI w two).getD i 0 ≠ (goalsI w two).getD j 0 := fun z => by
      have := goals_same hs (by omega) hj z
      omega
    omega
  have up : ∀ k p, p + k < w.length → (goalsI w two).getD p 0 + k ≤ (goalsI w two).getD (p + k) 0 := fun k => by
    induction k with
    | zero => intro p _; simp
    | succ k ih =>
      intro p hp
      have h1 := ih p (by omega)
      have h2 := st (p + k) (p + (k + 1)) (by omega) hp
      omega
  refine List.ext_getElem hl fun p h1 h2 => ?_
  obtain ⟨m, m1, m2, m3, m4⟩ := goal_val hs h1
  have k1 := up p 0 (by omega)
  rw [Nat.zero_add, m1] at k1
  obtain ⟨m', n1, n2, _⟩ := goal_val hs (p := 0) (by omega)
  rw [n1] at k1
  have k2 := up (w.length - 1 - p) p (by omega)
  rw [show p + (w.length - 1 - p) = w.length - 1 by omega, m1] at k2
  obtain ⟨m'', l1, l2, _⟩ := goal_val hs (p := w.length - 1) (by omega)
  rw [l1] at k2
  have e : m = p := by omega
  rw [e] at m3
  simpa [List.getD, h1, h2] using m3.symm
theorem way_fold {one two : List Int} (hs : sortI one = sortI two) : ∀ k : Nat, k < one.length → ∃ ws, ((List.range k).foldl (fun s k => wayStep s (k + 1)) (goalsI one two, [one])).2 = one :: ws ∧
    ((List.range k).foldl (fun s k => wayStep s (k + 1)) (goalsI one two, [one])).1 = goalsI (ws.getLastD one) two ∧ chainR two one ws ∧ sortI (ws.getLastD one) = sortI two ∧ ∀ i j, i < j → j ≤ k → (goalsI (ws.getLastD one) two).getD i 0 ≤ (goalsI (ws.getLastD one) two).getD j 0
  | 0, _ => ⟨[], rfl, rfl, trivial, hs, fun i j h1 h2 => by omega⟩
  | k + 1, h => by
    obtain ⟨ws, e2, e1, hc, hs2, hso⟩ := way_fold hs k (by omega)
    rw [List.range_succ, List.foldl_append]
    generalize (List.range k).foldl (fun s k => wayStep s (k + 1)) (goalsI one two, [one]) = s at *
    obtain ⟨s1, s2⟩ := s
    dsimp only at e1 e2
    subst e1 e2
    have hl : (ws.getLastD one).length = one.length := (perm_sort (hs2.trans hs.symm)).length_eq
    have ok := sink_ok (k + 1) (ws.getLastD one) hs2 (by omega)
    have so := sink_sorted (e := k + 1) (k + 1) (goalsI (ws.getLastD one) two) (ws.getLastD one) (Nat.le_refl _) (by rw [show (goalsI (ws.getLastD one) two).length = _ from goalsF_len two _ []]; omega) fun i j h1 h2 h3 => hso i j h1 (by omega)
    rw [ok.1] at so
    refine ⟨ws ++ (sinkI (k + 1) (goalsI (ws.getLastD one) two) (ws.getLastD one)).2, ?_, ?_, chainR_app _ _ _ hc ok.2.1, ?_, ?_⟩
    · show (wayStep (goalsI (ws.getLastD one) two, one :: ws) (k + 1)).2 = _
      unfold wayStep
      dsimp only
      rw [List.getLastD_cons]
      rfl
    · show (wayStep (goalsI (ws.getLastD one) two, one :: ws) (k + 1)).1 = _
      unfold wayStep
      dsimp only
      rw [List.getLastD_cons, getLastD_app]
      exact ok.1
    · rw [getLastD_app]; exact ok.2.2
    · rw [getLastD_app]; exact so
theorem way_ok {one two : List Int} (hs : sortI one = sortI two) (h : 0 < one.length) : ∃ ws, wayI one two = one :: ws ∧ chainR two one ws ∧ ws.getLastD one = two := by
  obtain ⟨ws, e2, _, hc, hs2, hso⟩ := way_fold hs (one.length - 1) (by omega)
  have hl : (ws.getLastD one).length = one.length := (perm_sort (hs2.trans hs.symm)).length_eq
  exact ⟨ws, e2, hc, goals_end hs2 fun i j h1 h2 => hso i j h1 (by omega)⟩
/-! ### cells along the way -/
theorem pairsF_mem {n i j : Nat} (hij : i < j) (hj : j < n) : (((i : Nat) : Int), ((j : Nat) : Int)) ∈ pairsF n := by
  unfold pairsF
  refine List.mem_flatMap.mpr ⟨i, List.mem_range.mpr (by omega), List.mem_map.mpr ⟨j - (i + 1), List.mem_range.mpr (by omega), ?_⟩⟩
  rw [show i + 1 + (j - (i + 1)) = j by omega]
theorem pairsF_inv {n : Nat} {p : Int × Int} (h : p ∈ pairsF n) : ∃ i j : Nat, i < j ∧ j < n ∧ p = (((i : Nat) : Int), ((j : Nat) : Int)) := by
  unfold pairsF at h
  obtain ⟨i, hi, h⟩ := List.mem_flatMap.mp h
  obtain ⟨j, hj, rfl⟩ := List.mem_map.mp h
  rw [List.mem_range] at hi hj
  exact ⟨i, i + 1 + j, by omega, by omega, rfl⟩
theorem candF_mem {w : List Int} {n i j x y : Nat} (hij : i < j) (hj : j < n) (hx : x < w.count ((i : Nat) : Int)) (hy : y < w.count ((j : Nat) : Int)) : ((((i : Nat) : Int), ((j : Nat) : Int), ((x : Nat) : Int), ((y : Nat) : Int)) : Cell) ∈ candF w n := by
  unfold candF
  refine List.mem_flatMap.mpr ⟨_, pairsF_mem hij hj, ?_⟩
  unfold candP
  exact List.mem_flatMap.mpr ⟨x, List.mem_range.mpr hx, List.mem_map.mpr ⟨y, List.mem_range.mpr hy, rfl⟩⟩
theorem candF_inv {w : List Int} {n : Nat} {q : Cell} (h : q ∈ candF w n) : ∃ i j x y : Nat, i < j ∧ j < n ∧ x < w.count ((i : Nat) : Int) ∧ y < w.count ((j : Nat) : Int) ∧ q = (((i : Nat) : Int), ((j : Nat) : Int), ((x : Nat) : Int), ((y : Nat) : Int)) := by
  unfold candF at h
  obtain ⟨p, hp, h⟩ := List.mem_flatMap.mp h
  obtain ⟨i, j, h1, h2, rfl⟩ := pairsF_inv hp
  unfold candP at h
  obtain ⟨x, hx, h⟩ := List.mem_flatMap.mp h
  obtain ⟨y, hy, rfl⟩ := List.mem_map.mp h
  rw [List.mem_range] at hx hy
  exact ⟨i, j, x, y, h1, h2, hx, hy, rfl⟩
theorem candF_congr {w v : List Int} (h : sortI w = sortI v) (n : Nat) : candF w n = candF v n := by
  unfold candF candP
  simp only [sort_count h]
theorem take_succ_at {w : List Int} {a : Nat} (h : a < w.length) : w.take (a + 1) = w.take a ++ [w.getD a 0] := by
  rw [List.take_succ]; simp [List.getD, h]
/-- the cell that an exchange turns -/
theorem flip_spec {w : List Int} {a : Nat} (h : a + 1 < w.length) (hne : w.getD a 0 ≠ w.getD (a + 1) 0) :
    ∃ (c d : Int) (x y : Nat), flipF w a = (c, d, (x : Int), (y : Int)) ∧ c < d ∧ x < w.count c ∧ y < w.count d ∧
      ((c = w.getD a 0 ∧ d = w.getD (a + 1) 0 ∧ x = (w.take a).count (w.getD a 0) ∧ y = (w.take (a + 1)).count (w.getD (a + 1) 0)) ∨ (c = w.getD (a + 1) 0 ∧ d = w.getD a 0 ∧ x = (w.take (a + 1)).count (w.getD (a + 1) 0) ∧ y = (w.take a).count (w.getD a 0))) := by
  have hc1 : (w.take (a + 1)).count (w.getD (a + 1) 0) = (w.take a).count (w.getD (a + 1) 0) := by
    rw [take_succ_at (by omega), List.count_append, List.count_singleton, if_neg (by simpa using hne), Nat.add_zero]
  have t1 := take_count_lt (w := w) (p := a) (by omega)
  have t2 := take_count_lt (w := w) (p := a + 1) h
  unfold flipF
  by_cases c : w.getD a 0 < w.getD (a + 1) 0
  · rw [if_pos c]
    exact ⟨_, _, _, _, rfl, c, t1, by rw [← hc1]; exact t2, .inl ⟨rfl, rfl, rfl, hc1.symm⟩⟩
  · rw [if_neg c]
    exact ⟨_, _, _, _, rfl, by omega, by rw [← hc1]; exact t2, t1, .inr ⟨rfl, rfl, hc1.symm, rfl⟩⟩
theorem flip_diff {w two : List Int} {a : Nat} (h : a + 1 < w.length) (hne : w.getD a 0 ≠ w.getD (a + 1) 0) :
    diffC w two (flipF w a) = !decide ((goalsI w two).getD a 0 < (goalsI w two).getD (a + 1) 0) ∨ diffC w two (flipF w a) = decide ((goalsI w two).getD (a + 1) 0 < (goalsI w two).getD a 0) := by
  obtain ⟨c, d, x, y, e, hcd, hx, hy, hh⟩ := flip_spec h hne
  have a1 := placesOf_at w a (by omega)
  have a2 := placesOf_at w (a + 1) h
  have g1 := goals_at (w := w) (two := two) (p := a) (by omega)
  have g2 := goals_at (w := w) (two := two) (p := a + 1) h
  have e1 : diffC w two (c, d, (x : Int), (y : Int)) = (decide (posF w c x < posF w d y) != decide (posF two c x < posF two d y)) := rfl
  rw [e, e1]
  rcases hh with ⟨rfl, rfl, rfl, rfl⟩ | ⟨rfl, rfl, rfl, rfl⟩
  · left
    rw [← g1, ← g2]
    unfold posF
    rw [a1, a2, decide_eq_true (by omega : ((a : Nat) : Int) < ((a + 1 : Nat) : Int))]
    simp
  · right
    rw [← g1, ← g2]
    unfold posF
    rw [a1, a2, decide_eq_false (by omega : ¬ ((a + 1 : Nat) : Int) < ((a : Nat) : Int))]
    simp
theorem good_le {n : Nat} {w v : List Int} (G : GoodW n w) (h : sortI w = sortI v) : GoodW n v := by
  have hp := perm_sort h
  exact ⟨G.1, G.2.1, by rw [← hp.length_eq]; exact G.2.2.1, fun a ha => G.2.2.2.1 a (hp.mem_iff.mpr ha), fun k hk => hp.mem_iff.mp (G.2.2.2.2 k hk)⟩
theorem flip_cand {n : Nat} {w : List Int} (G : GoodW n w) {a : Nat} (h : a + 1 < w.length) (hne : w.getD a 0 ≠ w.getD (a + 1) 0) : flipF w a ∈ candF w n := by
  obtain ⟨c, d, x, y, e, hcd, hx, hy, _⟩ := flip_spec h hne
  rw [e]
  have hc : c ∈ w := List.count_pos_iff.mp (by omega)
  have hd : d ∈ w := List.count_pos_iff.mp (by omega)
  have c1 := G.2.2.2.1 c hc
  have d1 := G.2.2.2.1 d hd
  obtain ⟨i, rfl⟩ : ∃ i : Nat, c = (i : Int) := ⟨c.toNat, by omega⟩
  obtain ⟨j, rfl⟩ : ∃ j : Nat, d = (j : Int) := ⟨d.toNat, by omega⟩
  exact candF_mem (by omega) (by omega) hx hy
/-- an exchange turns just one cell among the candidates -/
theorem diff_step {n : Nat} {w two : List Int} {a : Nat} (h : a + 1 < w.length) (hne : w.getD a 0 ≠ w.getD (a + 1) 0) {q : Cell} (hq : q ∈ candF w n) :
    diffC (exchI w a) two q = if q = flipF w a then !diffC w two q else diffC w two q := by
  obtain ⟨i, j, x, y, h1, h2, h3, h4, rfl⟩ := candF_inv hq
  exact diff_exch h hne (by omega) h3 h4
theorem cells_step {n : Nat} {w two : List Int} {a : Nat} (G : GoodW n w) (h : a + 1 < w.length) (hne : w.getD a 0 ≠ w.getD (a + 1) 0) (hg : (goalsI w two).getD (a + 1) 0 < (goalsI w two).getD a 0) :
    flipF w a ∈ allCells w two n ∧ allCells (exchI w a) two n = (allCells w two n).erase (flipF w a) := by
  have hd : diffC w two (flipF w a) = true := by
    rcases flip_diff (two := two) h hne with z | z
    · rw [z, decide_eq_false (by omega)]; rfl
    · rw [z, decide_eq_true hg]
  have hm : flipF w a ∈ allCells w two n := by
    rw [allCells_filter]
    exact List.mem_filter.mpr ⟨flip_cand G h hne, hd⟩
  refine ⟨hm, ?_⟩
  rw [allCells_filter, allCells_filter, candF_congr (sort_perm (exchI_perm h)) n]
  have nd : ((candF w n).filter (diffC w two)).Nodup := (candF_nodup w n).filter _
  rw [nd.erase_eq_filter, List.filter_filter]
  refine List.filter_congr fun q hq => ?_
  rw [diff_step h hne hq]
  by_cases c : q = flipF w a
  · rw [if_pos c, c, hd]; simp
  · rw [if_neg c]
    have : (q != flipF w a) = true := by simpa using c
    rw [this, Bool.true_and]
theorem cells_same {n : Nat} {w : List Int} : allCells w w n = [] := by
  rw [allCells_filter, List.filter_eq_nil_iff]
  intro q _
  unfold diffC
  simp
theorem chain_len {n : Nat} {two : List Int} : ∀ (ws : List (List Int)) (w : List Int), GoodW n w → chainR two w ws → ws.getLastD w = two → ws.length = (allCells w two n).length
  | [], w, _, _, h => by
    have : w = two := h
    rw [this, cells_same]
    rfl
  | v :: l, w, G, hc, h => by
    obtain ⟨⟨a, h1, h2, rfl, h4⟩, hc⟩ := hc
    rw [List.getLastD_cons] at h
    have ih := chain_len l _ (good_le G (sort_perm (exchI_perm h1)).symm) hc h
    obtain ⟨m, e⟩ := cells_step G h1 h2 h4
    rw [List.length_cons, ih, e, List.length_erase_of_mem m]
    have := List.length_pos_of_mem m
    omega
theorem chain_get {two : List Int} : ∀ (ws : List (List Int)) (w : List Int), chainR two w ws → ∀ s, s < ws.length → stepR two ((w :: ws).getD s []) ((w :: ws).getD (s + 1) [])
  | [], w, _, s, h => by simp at h
  | v :: l, w, hc, 0, h => by simpa [List.getD] using hc.1
  | v :: l, w, hc, s + 1, h => by
    have := chain_get l v hc.2 s (by simpa using h)
    simpa [List.getD] using this
theorem chain_drop {two : List Int} : ∀ (ws : List (List Int)) (w : List Int), chainR two w ws → ∀ s, s ≤ ws.length → chainR two ((w :: ws).getD s []) (ws.drop s) ∧ (ws.drop s).getLastD ((w :: ws).getD s []) = ws.getLastD w
  | ws, w, hc, 0, h => by simpa [List.getD] using hc
  | [], w, hc, s + 1, h => by simp at h
  | v :: l, w, hc, s + 1, h => by
    have := chain_drop l v hc.2 s (by simpa using h)
    rw [List.getLastD_cons]
    simpa [List.getD] using this
theorem chain_sort {two : List Int} : ∀ (ws : List (List Int)) (w : List Int), chainR two w ws → ∀ s, s ≤ ws.length → sortI ((w :: ws).getD s []) = sortI w
  | ws, w, hc, 0, h => by simp [List.getD]
  | [], w, hc, s + 1, h => by simp at h
  | v :: l, w, hc, s + 1, h => by
    have := chain_sort l v hc.2 s (by simpa using h)
    obtain ⟨a, h1, h2, rfl, h4⟩ := hc.1
    rw [sort_perm (exchI_perm h1)] at this
    simpa [List.getD] using this
theorem top_good {n : Nat} {ns : List Int} (G : GoodW n ns) : topI ns + 1 = n := by
  obtain ⟨h1, h2, h3, h4, h5⟩ := G
  obtain ⟨f1, f2, f3⟩ := foldl_max ns 0
  have a1 : topI ns < n := by
    rcases f3 with z | z
    · unfold topI; rw [z]; omega
    · exact (h4 _ z).2
  have a2 := f2 _ (h5 (n - 1) (by omega))
  unfold topI at a1 ⊢
  omega
theorem plain_good {n : Nat} {ns : List Int} (G : GoodW n ns) : plainE (iD ns) = none := by
  unfold plainE
  rw [intsOf_iD, show 1 + topI ns = (n : Int) by have := top_good G; omega]
  exact good_let G
theorem plainC_good {K : PySem.W.Frag} {M : Mem} {d : D} {E : DXK} {k : List Int → Prop} {n : Nat} {ns : List Int} (G : GoodW n ns) (r : RowD M d (iD ns)) (h : k ns) : plainC K M d E k := by
  refine .inr ⟨iD ns, r, flat_iD ns, by simpa using G.2.2.1, ?_⟩
  show (match plainE (iD ns) with | some p => E (xBW K p) M | none => k (intsOf (iD ns)))
  rw [plain_good G, intsOf_iD]
  exact h
theorem alikeC_good {K : PySem.W.Frag} {M : Mem} {a b : D} {E : DXK} {k : List Int → List Int → Prop} {n m : Nat} {one two : List Int} (G1 : GoodW n one) (G2 : GoodW m two) (r1 : RowD M a (iD one)) (r2 : RowD M b (iD two)) (hs : sortI one = sortI two) (h : k one two) : alikeC K M a b E k := by
  refine plainC_good G1 r1 (plainC_good G2 r2 ?_)
  have hl : one.length = two.length := by
    have h1 := (sortI_perm one).length_eq
    have h2 := (sortI_perm two).length_eq
    rw [hs] at h1; omega
  rw [if_neg (by omega), if_neg (by simpa using hs)]
  exact h
theorem sum_len {α β : Type} (f : α → List β) : ∀ l : List α, (l.map fun p => ((f p).length : Int)).sum = ((l.flatMap f).length : Int)
  | [] => rfl
  | a :: l => by
    rw [List.map_cons, List.sum_cons, sum_len f l, List.flatMap_cons, List.length_append]
    push_cast; rfl
theorem total_cells {n : Nat} {one two : List Int} (G : GoodW n one) : totalF one two = ((allCells one two n).length : Int) := by
  unfold totalF allCells
  rw [show (topI one + 1).toNat = n by have := top_good G; omega, ← sum_len]
  congr 1
  apply List.map_congr_left
  intro p _
  rw [List.length_map]
theorem way_law {n : Nat} {one two : List Int} (G : GoodW n one) (hs : sortI one = sortI two) : ∃ ws, wayI one two = one :: ws ∧ chainR two one ws ∧ ws.getLastD one = two ∧ totalF one two = (ws.length : Int) ∧ ws.length = (allCells one two n).length := by
  have hpos : 0 < one.length := List.length_pos_of_mem (G.2.2.2.2 0 (by have := G.1; omega))
  obtain ⟨ws, e, hc, hl⟩ := way_ok hs hpos
  have := chain_len ws one G hc hl
  exact ⟨ws, e, hc, hl, by rw [total_cells G, this], this⟩
/-! ### distances -/
theorem total_sym {n : Nat} {one two : List Int} (G : GoodW n one) (hs : sortI one = sortI two) : totalF two one = totalF one two := by
  rw [total_cells G, total_cells (good_le G hs), allCells_filter, allCells_filter, candF_congr hs n]
  congr 2
  refine List.filter_congr fun q _ => ?_
  unfold diffC
  exact Bool.xor_comm _ _
theorem total_tri {n : Nat} {one two three : List Int} (G : GoodW n one) (hs : sortI one = sortI two) (hs2 : sortI two = sortI three) : totalF one three ≤ totalF one two + totalF two three := by
  rw [total_cells G, total_cells G, total_cells (good_le G hs), allCells_filter, allCells_filter, allCells_filter, candF_congr hs n]
  have key : ∀ l : List Cell, (l.filter (diffC one three)).length ≤ (l.filter (diffC one two)).length + (l.filter (diffC two three)).length := fun l => by
    induction l with
    | nil => simp
    | cons q l ih =>
      have : diffC one three q = (diffC one two q != diffC two three q) := by
        unfold diffC
        generalize decide (posF one q.1 q.2.2.1.toNat < posF one q.2.1 q.2.2.2.toNat) = A
        generalize decide (posF two q.1 q.2.2.1.toNat < posF two q.2.1 q.2.2.2.toNat) = B
        generalize decide (posF three q.1 q.2.2.1.toNat < posF three q.2.1 q.2.2.2.toNat) = C
        cases A <;> cases B <;> cases C <;> rfl
      rw [List.filter_cons, List.filter_cons, List.filter_cons, this]
      cases diffC one two q <;> cases diffC two three q <;> simp <;> omega
  have := key (candF two n)
  omega
theorem total_nn {n : Nat} {one two : List Int} (G : GoodW n one) : 0 ≤ totalF one two := by rw [total_cells G]; omega
theorem total_step {n : Nat} {w two : List Int} {a : Nat} (G : GoodW n w) (h : a + 1 < w.length) (hne : w.getD a 0 ≠ w.getD (a + 1) 0) : totalF (exchI w a) two ≤ totalF w two + 1 := by
  have hp := sort_perm (exchI_perm h)
  rw [total_cells G, total_cells (good_le G hp.symm), allCells_filter, allCells_filter, candF_congr hp n]
  have e : (candF w n).filter (diffC (exchI w a) two) = (candF w n).filter (fun q => if q = flipF w a then !diffC w two q else diffC w two q) := List.filter_congr fun q hq => diff_step h hne hq
  rw [e]
  have key : ∀ l : List Cell, l.Nodup → (l.filter (fun q => if q = flipF w a then !diffC w two q else diffC w two q)).length ≤ (l.filter (diffC w two)).length + (if flipF w a ∈ l then 1 else 0) := fun l => by
    induction l with
    | nil => simp
    | cons q l ih =>
      intro nd
      obtain ⟨n1, n2⟩ := List.nodup_cons.mp nd
      have ih := ih n2
      rw [List.filter_cons, List.filter_cons]
      by_cases c : q = flipF w a
      · subst c
        rw [if_neg n1] at ih
        rw [if_pos (List.mem_cons_self), if_pos rfl]
        cases diffC w two (flipF w a) <;> simp <;> omega
      · rw [if_neg c]
        have : (if flipF w a ∈ q :: l then 1 else 0) = (if flipF w a ∈ l then 1 else 0) := by
          simp [Ne.symm c]
        rw [this]
        cases diffC w two q <;> simp <;> omega
  have := key _ (candF_nodup w n)
  split at this <;> omega
theorem chain_dist {n : Nat} {two : List Int} : ∀ (ws : List (List Int)) (w v : List Int), GoodW n w → chainR two w ws → ∀ s, s ≤ ws.length → totalF ((w :: ws).getD s []) v ≤ totalF w v + s
  | ws, w, v, G, hc, 0, h => by simp [List.getD]
  | [], w, v, G, hc, s + 1, h => by simp at h
  | u :: l, w, v, G, hc, s + 1, h => by
    obtain ⟨⟨a, h1, h2, rfl, h4⟩, hc⟩ := hc
    have ih := chain_dist l _ v (good_le G (sort_perm (exchI_perm h1)).symm) hc s (by simpa using h)
    have := total_step (two := v) G h1 h2
    have e : (w :: exchI w a :: l).getD (s + 1) [] = (exchI w a :: l).getD s [] := by simp [List.getD]
    rw [e]
    omega
theorem total_self {n : Nat} {w : List Int} (G : GoodW n w) : totalF w w = 0 := by rw [total_cells G, cells_same]; rfl
/-- the word behind s exchanges -/
theorem half_law {n : Nat} {one two : List Int} (G : GoodW n one) (hs : sortI one = sortI two) {s : Nat} (h : (s : Int) ≤ totalF one two) :
    sortI ((wayI one two).getD s []) = sortI one ∧ totalF one ((wayI one two).getD s []) = s ∧ totalF ((wayI one two).getD s []) two = totalF one two - s := by
  obtain ⟨ws, e, hc, hl, ht, _⟩ := way_law G hs
  rw [e]
  have hsl : s ≤ ws.length := by omega
  have h1 := chain_sort ws one hc s hsl
  have Gh := good_le G h1.symm
  have h2 := chain_drop ws one hc s hsl
  have h3 := chain_len _ _ Gh h2.1 (h2.2.trans hl)
  have h4 : totalF ((one :: ws).getD s []) two = totalF one two - s := by
    rw [total_cells Gh, ← h3, List.length_drop, ht]; omega
  refine ⟨h1, ?_, h4⟩
  have h5 := chain_dist ws one one G hc s hsl
  rw [total_self G, total_sym G h1.symm] at h5
  have h6 := total_tri G h1.symm (h1.trans hs)
  omega
theorem total_zero {n : Nat} {one two : List Int} (G : GoodW n one) (hs : sortI one = sortI two) : totalF one two = 0 ↔ one = two := by
  constructor
  · intro z
    obtain ⟨ws, e, hc, hl, ht, _⟩ := way_law G hs
    have : ws = [] := List.eq_nil_of_length_eq_zero (by omega)
    rw [this] at hl
    exact hl
  · rintro rfl
    exact total_self G
theorem way_first {n : Nat} {one two : List Int} (G : GoodW n one) (hs : sortI one = sortI two) : (wayI one two).getD 0 [] = one := by
  obtain ⟨ws, e, hc, hl, ht, _⟩ := way_law G hs
  rw [e]; rfl
theorem way_last {n : Nat} {one two : List Int} (G : GoodW n one) (hs : sortI one = sortI two) : (wayI one two).getD (totalF one two).toNat [] = two := by
  have h := total_nn (two := two) G
  obtain ⟨h1, h2, h3⟩ := half_law G hs (s := (totalF one two).toNat) (by omega)
  have : totalF ((wayI one two).getD (totalF one two).toNat []) two = 0 := by omega
  exact (total_zero (good_le G h1.symm) (h1.trans hs)).mp this
theorem way_len {n : Nat} {one two : List Int} (G : GoodW n one) (hs : sortI one = sortI two) : ((wayI one two).length : Int) = totalF one two + 1 := by
  obtain ⟨ws, e, hc, hl, ht, _⟩ := way_law G hs
  rw [e, ht, List.length_cons]; omega
section
variable {K : PySem.W.Frag}
theorem if_f {c : Bool} {A B : Prop} (h : c = false) (b : B) : if c = true then A else B := by rw [h, if_neg Bool.false_ne_true]; exact b
theorem if_t {c : Bool} {A B : Prop} (h : c = true) (a : A) : if c = true then A else B := by rw [h, if_pos rfl]; exact a
theorem leadsT_tab (ns : List Int) (n : Nat) (f : List D → D) : ((leadsT ns n).map fun r => f (iD r)) = (tabR n (tG ns)).map f := by
  unfold leadsT tabR rowR
  rw [List.map_map, List.map_map]
  apply List.map_congr_left
  intro a _
  show f (List.map D.int (List.map _ _)) = f _
  rw [List.map_map]
  rfl
theorem and_skip {c : Bool} {A B R : Prop} (hR : R) (h1 : c = true → R → A) (h2 : R → B) : if c = true then A else B := by
  split
  · rename_i h; exact h1 h hR
  · exact h2 hR
def tq (c : Cell) : PySem.W.Tup Int := ⟨[c.1, c.2.1, c.2.2.1, c.2.2.2]⟩
theorem map_tq (l : List Cell) : (l.map tq).map DatD.d = l.map quadD := by rw [List.map_map]; rfl
theorem tq_inj {a b : Cell} (h : tq a = tq b) : a = b := by
  have := congrArg PySem.W.Tup.items h
  obtain ⟨a1, a2, a3, a4⟩ := a
  obtain ⟨b1, b2, b3, b4⟩ := b
  simpa [tq] using this
theorem erase_tq (f : Cell) : ∀ l : List Cell, (l.map tq).erase (tq f) = (l.erase f).map tq
  | [] => rfl
  | a :: l => by
    rw [List.map_cons, List.erase_cons, List.erase_cons]
    by_cases h : a = f
    · subst h; simp
    · have : ¬ (tq a == tq f) = true := by simpa using fun z => h (tq_inj z)
      rw [if_neg this, if_neg (by simpa using h), List.map_cons, erase_tq f l]
theorem tG_exch {w : List Int} {a x y : Nat} (h : a + 1 < w.length) (hx : w.getD a 0 = (x : Int)) (hy : w.getD (a + 1) 0 = (y : Int)) (hxy : x ≠ y) (i j : Nat) :
    tG (exchI w a) i j = if i = y ∧ j = x then (if y = x ∧ x = y then tG w x y + 2 else tG w y x) - 2 else if i = x ∧ j = y then tG w x y + 2 else tG w i j := by
  have hne : w.getD a 0 ≠ w.getD (a + 1) 0 := by rw [hx, hy]; omega
  rw [if_neg (show ¬(y = x ∧ x = y) from fun z => hxy z.2)]
  unfold tG
  by_cases e : i = j
  · subst e
    rw [if_pos rfl, if_neg (show ¬(i = y ∧ i = x) by omega), if_neg (show ¬(i = x ∧ i = y) by omega)]
    simp
  · rw [if_neg e, leadF_exch h hne (by omega), hx, hy]
    by_cases c1 : i = y ∧ j = x
    · obtain ⟨e1, e2⟩ := c1
      subst e1 e2
      repeat' split
      all_goals omega
    · rw [if_neg c1]
      by_cases c2 : i = x ∧ j = y
      · obtain ⟨e1, e2⟩ := c2
        subst e1 e2
        repeat' split
        all_goals omega
      · rw [if_neg c2]
        repeat' split
        all_goals omega
theorem leadsT_len (v : List Int) (n : Nat) : (leadsT v n).length = n := by unfold leadsT; simp
theorem leadsT_row (v : List Int) {k n : Nat} (h : k < n) : iD ((leadsT v n).getD k []) = rowR n (tG v k) ∧ ((leadsT v n).getD k []).length = n := by
  have e : (leadsT v n).getD k [] = (List.range n).map fun b => if k = b then (0 : Int) else leadF v ((k : Nat) : Int) ((b : Nat) : Int) := by
    unfold leadsT; simp [List.getD, h]
  rw [e]
  refine ⟨?_, by simp⟩
  show List.map D.int (List.map _ _) = _
  rw [List.map_map]
  rfl
theorem plain_leads (v : List Int) (n : Nat) : plainN 9 (.tup ((leadsT v n).map fun r => .tup (iD r))) = true :=
  show List.all _ (plainN 8) = true from plainN_map (n := 8) (v := fun r => .tup (iD r)) (fun r => plainN_ints (n := 7) r) _
end
section
variable {K : PySem.W.Frag}
end
end LW

namespace LW
open PySem PySem.Spec PyProof.Rows L2 DL
/-! ### counting -/
theorem cnt_congr {f g : Nat → Nat → Bool} {z o : Nat} (h : ∀ x y, x < z → y < o → f x y = g x y) : cnt f z o = cnt g z o := by
  unfold cnt
  congr 1
  apply List.map_congr_left
  intro x hx
  congr 1
  exact List.filter_congr fun y hy => h x y (List.mem_range.mp hx) (List.mem_range.mp hy)
theorem cnt_succ (f : Nat → Nat → Bool) (z o : Nat) : cnt f (z + 1) o = cnt f z o + ((List.range o).filter (f z)).length := by
  unfold cnt
  rw [List.range_succ, List.map_append, List.sum_append]
  simp
theorem cnt_none (z o : Nat) : cnt (fun _ _ => false) z o = 0 := by
  induction z with
  | zero => rfl
  | succ z ih => rw [cnt_succ, ih]; simp
theorem row_add {f g h : Nat → Bool} : ∀ l : List Nat, (∀ y ∈ l, f y = (g y || h y) ∧ (g y && h y) = false) → (l.filter f).length = (l.filter g).length + (l.filter h).length
  | [], _ => rfl
  | y :: l, H => by
    have ih := row_add l fun y hy => H y (List.mem_cons_of_mem _ hy)
    obtain ⟨h1, h2⟩ := H y (by simp)
    rw [List.filter_cons, List.filter_cons, List.filter_cons, h1]
    cases hg : g y <;> cases hh : h y <;> rw [hg, hh] at h2 <;> simp_all <;> omega
theorem cnt_add {f g h : Nat → Nat → Bool} {o : Nat} : ∀ z : Nat, (∀ x y, x < z → y < o → f x y = (g x y || h x y) ∧ (g x y && h x y) = false) → cnt f z o = cnt g z o + cnt h z o
  | 0, _ => rfl
  | z + 1, H => by
    rw [cnt_succ, cnt_succ, cnt_succ, cnt_add z fun x y hx hy => H x y (by omega) hy, row_add (List.range o) fun y hy => H z y (by omega) (List.mem_range.mp hy)]
    omega
theorem row_one {o y0 : Nat} (hy : y0 < o) : ((List.range o).filter fun y => decide (y = y0)).length = 1 := by
  induction o with
  | zero => omega
  | succ o ih =>
    rw [List.range_succ, List.filter_append, List.length_append]
    by_cases c : y0 = o
    · subst c
      have : (List.range y0).filter (fun y => decide (y = y0)) = [] := List.filter_eq_nil_iff.mpr fun y hy => by
        have := List.mem_range.mp hy
        simp; omega
      rw [this]; simp
    · rw [ih (by omega)]
      have : ¬ o = y0 := fun z => c z.symm
      simp [this]
theorem cnt_one {x0 y0 o : Nat} (hy : y0 < o) : ∀ z : Nat, x0 < z → cnt (fun x y => decide (x = x0) && decide (y = y0)) z o = 1
  | 0, h => by omega
  | z + 1, h => by
    rw [cnt_succ]
    by_cases c : x0 = z
    · subst c
      have e1 : cnt (fun x y => decide (x = x0) && decide (y = y0)) x0 o = 0 := by
        rw [← cnt_none x0 o]
        refine cnt_congr fun x y hx _ => ?_
        have : ¬ x = x0 := by omega
        simp [this]
      have e2 : (List.range o).filter (fun y => decide (x0 = x0) && decide (y = y0)) = (List.range o).filter fun y => decide (y = y0) := List.filter_congr fun y _ => by simp
      rw [e1, e2, row_one hy]
    · rw [cnt_one hy z (by omega)]
      have : (List.range o).filter (fun y => decide (z = x0) && decide (y = y0)) = [] := List.filter_eq_nil_iff.mpr fun y _ => by
        have : ¬ z = x0 := fun q => c q.symm
        simp [this]
      rw [this]; rfl
theorem cnt_upd {f g : Nat → Nat → Bool} {z o x0 y0 : Nat} (hx : x0 < z) (hy : y0 < o) (h : ∀ x y, x < z → y < o → ¬(x = x0 ∧ y = y0) → f x y = g x y) (h1 : f x0 y0 = true) (h2 : g x0 y0 = false) : cnt f z o = cnt g z o + 1 := by
  rw [← cnt_one (x0 := x0) hy z hx]
  refine cnt_add z fun x y hx' hy' => ?_
  by_cases c : x = x0 ∧ y = y0
  · obtain ⟨rfl, rfl⟩ := c
    rw [h1, h2]; simp
  · rw [h x y hx' hy' c]
    have : (decide (x = x0) && decide (y = y0)) = false := by
      by_cases c1 : x = x0
      · have c2 : ¬ y = y0 := fun q => c ⟨c1, q⟩
        simp [c2]
      · simp [c1]
    rw [this]; simp
theorem cnt_pos {f : Nat → Nat → Bool} {o : Nat} : ∀ z : Nat, 0 < cnt f z o → ∃ x y, x < z ∧ y < o ∧ f x y = true
  | 0, h => absurd h (show ¬ 0 < cnt f 0 o from Nat.lt_irrefl 0)
  | z + 1, h => by
    rw [cnt_succ] at h
    by_cases c : 0 < cnt f z o
    · obtain ⟨x, y, h1, h2, h3⟩ := cnt_pos z c
      exact ⟨x, y, by omega, h2, h3⟩
    · obtain ⟨y, hy⟩ := List.exists_mem_of_length_pos (show 0 < ((List.range o).filter (f z)).length by omega)
      obtain ⟨h1, h2⟩ := List.mem_filter.mp hy
      exact ⟨z, y, by omega, List.mem_range.mp h1, h2⟩
theorem cnt_le (f : Nat → Nat → Bool) (o : Nat) : ∀ z : Nat, cnt f z o ≤ z * o
  | 0 => by show 0 ≤ _; omega
  | z + 1 => by
    have := cnt_le f o z
    have h2 := List.length_filter_le (f z) (List.range o)
    rw [List.length_range] at h2
    rw [cnt_succ, Nat.succ_mul]
    omega
theorem cnt_lt {f : Nat → Nat → Bool} {z o x y : Nat} (hx : x < z) (hy : y < o) (h : f x y = true) : 0 < cnt f z o := by
  by_cases c : 0 < cnt f z o
  · exact c
  · have := cnt_upd (f := f) (g := fun a b => f a b && !(decide (a = x) && decide (b = y))) hx hy (fun a b _ _ hn => by
      have : (decide (a = x) && decide (b = y)) = false := by
        by_cases c1 : a = x
        · have c2 : ¬ b = y := fun q => hn ⟨c1, q⟩
          simp [c2]
        · simp [c1]
      rw [this]; simp) h (by simp)
    omega
/-! ### cells of two words -/
section
variable {w two : List Int} {lo : Int} {a : Nat}
theorem let2 (G : GoodW 2 w) {i : Nat} (h : i < w.length) : w.getD i 0 = 0 ∨ w.getD i 0 = 1 := by
  have m : w.getD i 0 ∈ w := by
    have := List.getElem_mem (l := w) h
    simpa [List.getD, h] using this
  have := G.2.2.2.1 _ m
  omega
theorem ahead_exch (h : a + 1 < w.length) (hne : w.getD a 0 ≠ w.getD (a + 1) 0) {x y : Nat} (hx : x < w.count 0) (hy : y < w.count 1) :
    aheadB (exchI w a) x y = if ((0, 1, (x : Int), (y : Int)) : Cell) = flipF w a then !aheadB w x y else aheadB w x y := by
  have := diff_exch (two := w) h hne (i := 0) (j := 1) (by decide) hx hy
  have e0 : diffC (exchI w a) w (0, 1, (x : Int), (y : Int)) = (aheadB (exchI w a) x y != aheadB w x y) := rfl
  have e1 : diffC w w (0, 1, (x : Int), (y : Int)) = (aheadB w x y != aheadB w x y) := rfl
  rw [e0, e1] at this
  by_cases c : ((0, 1, (x : Int), (y : Int)) : Cell) = flipF w a
  · rw [if_pos c] at this ⊢
    cases h1 : aheadB (exchI w a) x y <;> cases h2 : aheadB w x y <;> simp_all
  · rw [if_neg c] at this ⊢
    cases h1 : aheadB (exchI w a) x y <;> cases h2 : aheadB w x y <;> simp_all
/-- the cell that a turn turns -/
theorem turn_step (G : GoodW 2 w) (hlo : lo = 0 ∨ lo = 1) (ht : turnAt two lo w a) : ∃ x0 y0, x0 < w.count 0 ∧ y0 < w.count 1 ∧ aheadB w x0 y0 = decide (lo = 0) ∧ aheadB two x0 y0 = !decide (lo = 0) ∧
    ∀ x y, x < w.count 0 → y < w.count 1 → aheadB (exchI w a) x y = if x = x0 ∧ y = y0 then aheadB two x0 y0 else aheadB w x y := by
  obtain ⟨h, h0, h1, hg⟩ := ht
  have hne : w.getD a 0 ≠ w.getD (a + 1) 0 := by rw [h0]; exact fun z => h1 z.symm
  have l2 := let2 G h
  obtain ⟨c, d, x, y, e, hcd, hx, hy, hh⟩ := flip_spec h hne
  have a1 := placesOf_at w a (by omega)
  have a2 := placesOf_at w (a + 1) h
  have g1 := goals_at (w := w) (two := two) (p := a) (by omega)
  have g2 := goals_at (w := w) (two := two) (p := a + 1) h
  have b1 : lo = 0 → w.getD a 0 = 0 ∧ w.getD (a + 1) 0 = 1 := fun z => by omega
  have b2 : lo = 1 → w.getD a 0 = 1 ∧ w.getD (a + 1) 0 = 0 := fun z => by omega
  have key : c = 0 ∧ d = 1 ∧ aheadB w x y = decide (lo = 0) ∧ aheadB two x y = !decide (lo = 0) := by
    rcases hlo with rfl | rfl
    · obtain ⟨p1, p2⟩ := b1 rfl
      rw [p1] at a1 g1
      rw [p2] at a2 g2
      rcases hh with ⟨k1, k2, k3, k4⟩ | ⟨k1, k2, k3, k4⟩
      · rw [p1] at k1 k3
        rw [p2] at k2 k4
        rw [← k3] at a1 g1
        rw [← k4] at a2 g2
        refine ⟨k1, k2, ?_, ?_⟩
        · unfold aheadB posF
          rw [a1, a2]; simp; omega
        · unfold aheadB
          rw [← g1, ← g2, decide_eq_false (by omega)]; rfl
      · omega
    · obtain ⟨p1, p2⟩ := b2 rfl
      rw [p1] at a1 g1
      rw [p2] at a2 g2
      rcases hh with ⟨k1, k2, k3, k4⟩ | ⟨k1, k2, k3, k4⟩
      · omega
      · rw [p2] at k1 k3
        rw [p1] at k2 k4
        rw [← k3] at a2 g2
        rw [← k4] at a1 g1
        refine ⟨k1, k2, ?_, ?_⟩
        · unfold aheadB posF
          rw [a1, a2]; simp; omega
        · unfold aheadB
          rw [← g1, ← g2, decide_eq_true (by omega)]; rfl
  obtain ⟨rfl, rfl, k1, k2⟩ := key
  refine ⟨x, y, hx, hy, k1, k2, fun x' y' hx' hy' => ?_⟩
  rw [ahead_exch h hne hx' hy', e]
  by_cases cc : x' = x ∧ y' = y
  · obtain ⟨rfl, rfl⟩ := cc
    rw [if_pos rfl, if_pos ⟨rfl, rfl⟩, k1, k2]
  · rw [if_neg cc, if_neg]
    intro z
    simp only [Prod.mk.injEq] at z
    exact cc ⟨by omega, by omega⟩
theorem goals_far (hs : sortI w = sortI two) {p q : Nat} (hpq : p < q) (hq : q < w.length) (he : w.getD p 0 = w.getD q 0) : (goalsI w two).getD p 0 < (goalsI w two).getD q 0 := by
  obtain ⟨m, m1, m2, m3, m4⟩ := goal_val hs (p := p) (by omega)
  obtain ⟨m', n1, n2, n3, n4⟩ := goal_val hs hq
  have ht := take_succ_at (w := w) (a := p) (by omega)
  have c1 : (w.take (p + 1)).count (w.getD p 0) = (w.take p).count (w.getD p 0) + 1 := by
    rw [ht, List.count_append, List.count_singleton, if_pos (by simp)]
  have c2 := count_take_le w (w.getD p 0) (show p + 1 ≤ q by omega)
  rw [← he] at n4
  rw [m1, n1]
  have : ¬ m' ≤ m := fun z => by
    have := count_take_le two (w.getD p 0) z
    omega
  omega
theorem inv_adj (G : GoodW 2 w) (hs : sortI w = sortI two) : ∀ d p q : Nat, q = p + d + 1 → q < w.length → w.getD p 0 = lo → w.getD q 0 ≠ lo → (goalsI w two).getD q 0 < (goalsI w two).getD p 0 → ∃ a, turnAt two lo w a
  | 0, p, q, e, hq, h0, h1, hg => by subst e; exact ⟨p, hq, h0, h1, hg⟩
  | d + 1, p, q, e, hq, h0, h1, hg => by
    by_cases c : w.getD (p + 1) 0 = lo
    · have := goals_far hs (p := p) (q := p + 1) (by omega) (by omega) (by rw [h0, c])
      exact inv_adj G hs d (p + 1) q (by omega) hq c h1 (by omega)
    · have e2 : w.getD (p + 1) 0 = w.getD q 0 := by
        have l0 := let2 G (show p < w.length by omega)
        have l1 := let2 G (show p + 1 < w.length by omega)
        have l2 := let2 G hq
        omega
      have := goals_far hs (p := p + 1) (q := q) (by omega) hq e2
      exact ⟨p, by omega, h0, c, by omega⟩
theorem goal_of (hs : sortI w = sortI two) {i : Int} {x : Nat} (h : x < w.count i) : ∃ p : Nat, p < w.length ∧ w.getD p 0 = i ∧ posF w i x = p ∧ (goalsI w two).getD p 0 = posF two i x := by
  obtain ⟨p, h1, h2, h3, h4⟩ := posF_inv h
  refine ⟨p, h2, h3, h1, ?_⟩
  rw [goals_at h2, h3, h4]
theorem turn_ex (G : GoodW 2 w) (hs : sortI w = sortI two) {x y : Nat} (hx : x < w.count 0) (hy : y < w.count 1) (hd : aheadB w x y ≠ aheadB two x y) : ∃ a, turnAt two (if aheadB w x y = true then 0 else 1) w a := by
  obtain ⟨p, p1, p2, p3, p4⟩ := goal_of hs hx
  obtain ⟨q, q1, q2, q3, q4⟩ := goal_of hs hy
  have hpq : p ≠ q := fun z => by subst z; omega
  have hgg : (goalsI w two).getD p 0 ≠ (goalsI w two).getD q 0 := fun z => hpq (goals_same hs p1 q1 z)
  unfold aheadB at hd ⊢
  rw [p3, q3, ← p4, ← q4] at hd
  rw [p3, q3]
  by_cases c : (p : Int) < (q : Int)
  · rw [if_pos (by simpa using c)]
    rw [decide_eq_true c] at hd
    have : ¬ (goalsI w two).getD p 0 < (goalsI w two).getD q 0 := fun z => hd (by rw [decide_eq_true z])
    exact inv_adj G hs (q - p - 1) p q (by omega) q1 p2 (by omega) (by omega)
  · rw [if_neg (by simpa using c)]
    rw [decide_eq_false c] at hd
    have : (goalsI w two).getD p 0 < (goalsI w two).getD q 0 := by
      by_cases z : (goalsI w two).getD p 0 < (goalsI w two).getD q 0
      · exact z
      · exact absurd (by rw [decide_eq_false z]) hd
    exact inv_adj G hs (p - q - 1) q p (by omega) p1 q2 (by omega) this
end
end LW

namespace LW
open PySem PySem.Spec PyProof.Rows L2 DL
section
variable {w two v r : List Int} {lo : Int} {a : Nat}
theorem turn_facts (G : GoodW 2 w) (hs : sortI w = sortI two) (hlo : lo = 0 ∨ lo = 1) (h : turnR two lo w v) {x y : Nat} (hx : x < w.count 0) (hy : y < w.count 1) (e1 : aheadB w x y = decide (lo = 0)) (e2 : aheadB two x y = !decide (lo = 0)) :
    ∃ x0 y0, x0 < w.count 0 ∧ y0 < w.count 1 ∧ sortI v = sortI w ∧ aheadB w x0 y0 = decide (lo = 0) ∧ aheadB two x0 y0 = !decide (lo = 0) ∧
    (∀ x y, x < w.count 0 → y < w.count 1 → aheadB v x y = if x = x0 ∧ y = y0 then aheadB two x0 y0 else aheadB w x y) ∧ leadF v 0 1 = leadF w 0 1 + (if lo = 0 then 2 else -2) := by
  rcases h with ⟨a, ht, rfl⟩ | ⟨hn, _⟩
  · obtain ⟨x0, y0, k1, k2, k3, k4, k5⟩ := turn_step G hlo ht
    obtain ⟨h, h0, h1, hg⟩ := ht
    have hne : w.getD a 0 ≠ w.getD (a + 1) 0 := by rw [h0]; exact fun z => h1 z.symm
    have l2 := let2 G h
    refine ⟨x0, y0, k1, k2, sort_perm (exchI_perm h), k3, k4, k5, ?_⟩
    rw [leadF_exch h hne (by decide)]
    rcases hlo with rfl | rfl
    · rw [if_pos (⟨h0.symm, by omega⟩ : (0 : Int) = w.getD a 0 ∧ (1 : Int) = w.getD (a + 1) 0), if_neg (by omega), if_pos rfl]; omega
    · rw [if_neg (by omega), if_pos (⟨by omega, h0.symm⟩ : (0 : Int) = w.getD (a + 1) 0 ∧ (1 : Int) = w.getD a 0), if_neg (by decide)]; omega
  · have := turn_ex G hs hx hy (by rw [e1, e2]; cases decide (lo = 0) <;> simp)
    rw [e1] at this
    rcases hlo with rfl | rfl
    · obtain ⟨a, ha⟩ := this
      exact absurd ha (hn a)
    · obtain ⟨a, ha⟩ := this
      exact absurd ha (hn a)
structure Pair1 (two w r : List Int) : Prop where
  sort : sortI r = sortI w
  more : moreC r two + 1 = moreC w two
  less : lessC r two + 1 = lessC w two
  m1 : moreC w r = 1
  l1 : lessC w r = 1
  lead : leadF r 0 1 = leadF w 0 1
  to : ∀ x y, x < w.count 0 → y < w.count 1 → aheadB w x y = aheadB two x y → aheadB r x y = aheadB two x y
theorem pair_step (G : GoodW 2 w) (hs : sortI w = sortI two) (hm : 0 < moreC w two) (hl : 0 < lessC w two) (h : pairR two w r) : Pair1 two w r := by
  obtain ⟨v, t1, t2⟩ := h
  obtain ⟨x, y, hx, hy, hxy⟩ := cnt_pos _ hm
  simp only [Bool.and_eq_true, Bool.not_eq_true'] at hxy
  obtain ⟨x1, y1, a1, a2, a3, a4, a5, a6, a7⟩ := turn_facts G hs (.inl rfl) t1 hx hy (by rw [hxy.1]; rfl) (by rw [hxy.2]; rfl)
  have a4 : aheadB w x1 y1 = true := a4
  have a5 : aheadB two x1 y1 = false := a5
  have Gv : GoodW 2 v := good_le G a3.symm
  have c0 := sort_count a3 0
  have c1 := sort_count a3 1
  -- the first count
  have more1 : moreC w two = moreC v two + 1 := by
    unfold moreC
    rw [c0, c1]
    refine cnt_upd a1 a2 (fun x y hx hy hn => ?_) (by rw [a4, a5]; rfl) (by rw [a5, a6 x1 y1 a1 a2, if_pos ⟨rfl, rfl⟩, a5]; rfl)
    rw [a6 x y hx hy, if_neg hn]
  have less1 : lessC v two = lessC w two := by
    unfold lessC
    rw [c0, c1]
    refine cnt_congr fun x y hx hy => ?_
    rw [a6 x y hx hy]
    by_cases hn : x = x1 ∧ y = y1
    · obtain ⟨rfl, rfl⟩ := hn
      rw [if_pos ⟨rfl, rfl⟩, a5]; rfl
    · rw [if_neg hn]
  obtain ⟨x', y', hx', hy', hxy'⟩ := cnt_pos _ (show 0 < lessC v two by rw [less1]; exact hl)
  simp only [Bool.and_eq_true, Bool.not_eq_true'] at hxy'
  obtain ⟨x2, y2, b1, b2, b3, b4, b5, b6, b7⟩ := turn_facts Gv (a3.trans hs) (.inr rfl) t2 hx' hy' (by rw [hxy'.2]; rfl) (by rw [hxy'.1]; rfl)
  have b4 : aheadB v x2 y2 = false := b4
  have b5 : aheadB two x2 y2 = true := b5
  have d0 := sort_count b3 0
  have d1 := sort_count b3 1
  rw [c0] at b1
  rw [c1] at b2
  rw [c0, c1] at b6
  have hne : ¬ (x1 = x2 ∧ y1 = y2) := fun z => by rw [z.1, z.2, b5] at a5; cases a5
  have w2 : aheadB w x2 y2 = false := by
    have := a6 x2 y2 b1 b2
    rw [if_neg fun z => hne ⟨z.1.symm, z.2.symm⟩] at this
    rw [← this]; exact b4
  -- all of r
  have ar : ∀ x y, x < w.count 0 → y < w.count 1 → aheadB r x y = if x = x2 ∧ y = y2 then true else if x = x1 ∧ y = y1 then false else aheadB w x y := fun x y hx hy => by
    rw [b6 x y hx hy]
    by_cases hn : x = x2 ∧ y = y2
    · rw [if_pos hn, if_pos hn, b5]
    · rw [if_neg hn, if_neg hn, a6 x y hx hy, a5]
  refine ⟨b3.trans a3, ?_, ?_, ?_, ?_, by rw [b7, a7, if_pos rfl, if_neg (by decide)]; omega, fun x y hx hy he => ?_⟩
  · rw [more1]
    congr 1
    unfold moreC
    rw [d0, d1, c0, c1]
    refine cnt_congr fun x y hx hy => ?_
    rw [b6 x y hx hy]
    by_cases hn : x = x2 ∧ y = y2
    · obtain ⟨rfl, rfl⟩ := hn
      rw [if_pos ⟨rfl, rfl⟩, b5]; simp
    · rw [if_neg hn]
  · rw [← less1]
    unfold lessC
    rw [d0, d1, c0, c1]
    refine (cnt_upd b1 b2 (fun x y hx hy hn => ?_) (by rw [b4, b5]; rfl) (by rw [b5, b6 x2 y2 b1 b2, if_pos ⟨rfl, rfl⟩, b5]; rfl)).symm
    rw [b6 x y hx hy, if_neg hn]
  · unfold moreC
    have e := cnt_none (w.count 0) (w.count 1)
    rw [cnt_upd (f := fun x y => aheadB w x y && !aheadB r x y) (g := fun _ _ => false) a1 a2 (fun x y hx hy hn => ?_) ?_ rfl, e]
    · rw [ar x1 y1 a1 a2, if_neg hne, if_pos ⟨rfl, rfl⟩, a4]; rfl
    · rw [ar x y hx hy]
      by_cases c : x = x2 ∧ y = y2
      · rw [if_pos c]; simp
      · rw [if_neg c, if_neg hn]; simp
  · unfold lessC
    have e := cnt_none (w.count 0) (w.count 1)
    rw [cnt_upd (f := fun x y => aheadB r x y && !aheadB w x y) (g := fun _ _ => false) b1 b2 (fun x y hx hy hn => ?_) ?_ rfl, e]
    · rw [ar x2 y2 b1 b2, if_pos ⟨rfl, rfl⟩, w2]; rfl
    · rw [ar x y hx hy, if_neg hn]
      by_cases c : x = x1 ∧ y = y1
      · rw [if_pos c]; simp
      · rw [if_neg c]; simp
  · rw [ar x y hx hy]
    by_cases c : x = x2 ∧ y = y2
    · rw [if_pos c, c.1, c.2, b5]
    · rw [if_neg c]
      by_cases c' : x = x1 ∧ y = y1
      · rw [if_pos c', c'.1, c'.2, a5]
      · rw [if_neg c', he]
/-- what stands behind s paired moves -/
structure Way1 (two w u : List Int) (s m : Nat) : Prop where
  sort : sortI u = sortI w
  more : moreC u two = m - s
  less : lessC u two = m - s
  lead : leadF u 0 1 = leadF w 0 1
  to : ∀ x y, x < w.count 0 → y < w.count 1 → aheadB w x y = aheadB two x y → aheadB u x y = aheadB two x y
theorem way1 {m : Nat} : ∀ (ws : List (List Int)) (w : List Int), GoodW 2 w → sortI w = sortI two → moreC w two = m → lessC w two = m → chainP two w ws → ws.length = m → ∀ s, s ≤ m → Way1 two w ((w :: ws).getD s []) s m
  | ws, w, G, hs, hm, hl, hc, hlen, 0, _ => ⟨rfl, hm, hl, rfl, fun _ _ _ _ h => h⟩
  | [], w, G, hs, hm, hl, hc, hlen, s + 1, h => by subst hlen; simp at h
  | v :: l, w, G, hs, hm, hl, hc, hlen, s + 1, h => by
    have p := pair_step G hs (by omega) (by omega) hc.1
    have e : (w :: v :: l).getD (s + 1) [] = (v :: l).getD s [] := by simp [List.getD]
    have ih := way1 (m := m - 1) l v (good_le G p.sort.symm) (p.sort.trans hs) (by have := p.more; omega) (by have := p.less; omega) hc.2 (by rw [List.length_cons] at hlen; omega) s (by omega)
    rw [e]
    refine ⟨ih.sort.trans p.sort, by rw [ih.more]; omega, by rw [ih.less]; omega, ih.lead.trans p.lead, fun x y hx hy he => ?_⟩
    exact ih.to x y (by rw [sort_count p.sort]; exact hx) (by rw [sort_count p.sort]; exact hy) (p.to x y hx hy he)
theorem way1_step {m : Nat} : ∀ (ws : List (List Int)) (w : List Int), chainP two w ws → ∀ s, s < ws.length → pairR two ((w :: ws).getD s []) ((w :: ws).getD (s + 1) [])
  | [], w, hc, s, h => by simp at h
  | v :: l, w, hc, 0, h => by simpa [List.getD] using hc.1
  | v :: l, w, hc, s + 1, h => by
    have := way1_step (m := m) l v hc.2 s (by simpa using h)
    simpa [List.getD] using this
/-- back to the first word -/
theorem way1_back {m s : Nat} {u : List Int} (G : GoodW 2 w) (hs : sortI w = sortI two) (hm : moreC w two = m) (hl : lessC w two = m) (h : Way1 two w u s m) (hsm : s ≤ m) : moreC u w = s ∧ lessC u w = s := by
  have c0 := sort_count h.sort 0
  have c1 := sort_count h.sort 1
  have k1 : moreC w two = lessC u w + moreC u two := by
    unfold moreC lessC
    rw [c0, c1]
    refine cnt_add _ fun x y hx hy => ?_
    have := h.to x y hx hy
    cases e1 : aheadB w x y <;> cases e2 : aheadB two x y <;> cases e3 : aheadB u x y <;> simp_all
  have k2 : lessC w two = moreC u w + lessC u two := by
    unfold moreC lessC
    rw [c0, c1]
    refine cnt_add _ fun x y hx hy => ?_
    have := h.to x y hx hy
    cases e1 : aheadB w x y <;> cases e2 : aheadB two x y <;> cases e3 : aheadB u x y <;> simp_all
  have a := h.more
  have b := h.less
  omega
theorem same_none {u v : List Int} (G : GoodW 2 u) (hs : sortI u = sortI v) (h1 : moreC u v = 0) (h2 : lessC u v = 0) : u = v := by
  have e : ∀ x y, x < u.count 0 → y < u.count 1 → aheadB u x y = aheadB v x y := fun x y hx hy => by
    cases e1 : aheadB u x y <;> cases e2 : aheadB v x y
    · rfl
    · have := cnt_lt (f := fun x y => aheadB v x y && !aheadB u x y) hx hy (by rw [e1, e2]; rfl)
      unfold lessC at h2; omega
    · have := cnt_lt (f := fun x y => aheadB u x y && !aheadB v x y) hx hy (by rw [e1, e2]; rfl)
      unfold moreC at h1; omega
    · rfl
  have : totalF u v = 0 := by
    rw [total_cells G, allCells_filter, List.filter_eq_nil_iff.mpr fun q hq => ?_]
    · rfl
    · obtain ⟨i, j, x, y, hij, hj, hx, hy, rfl⟩ := candF_inv hq
      have : i = 0 ∧ j = 1 := by omega
      obtain ⟨rfl, rfl⟩ := this
      have e1 : diffC u v (((0 : Nat) : Int), ((1 : Nat) : Int), (x : Int), (y : Int)) = (aheadB u x y != aheadB v x y) := rfl
      rw [e1, e x y hx hy]
      simp
  exact (total_zero G hs).mp this
end
end LW

namespace LW
open PySem PySem.Spec PyProof.Rows L2 DL
/-! the plain law: leads and exchanges -/
def hRow (p : Int) (qs : List Int) : Int := (qs.map fun q => if q < p then (1 : Int) else 0).sum
def hS (ps qs : List Int) : Int := (ps.map fun p => hRow p qs).sum
theorem hRow_none {p : Int} : ∀ {qs : List Int}, (∀ q ∈ qs, p ≤ q) → hRow p qs = 0
  | [], _ => rfl
  | q :: qs, h => by
    have ih := hRow_none (qs := qs) fun x hx => h x (List.mem_cons_of_mem _ hx)
    have := h q (by simp)
    unfold hRow at ih ⊢
    rw [List.map_cons, List.sum_cons, ih, if_neg (by omega)]
    rfl
theorem hS_cons_q {q : Int} {qs : List Int} : ∀ {ps : List Int}, (∀ p ∈ ps, q < p) → hS ps (q :: qs) = hS ps qs + ps.length
  | [], _ => rfl
  | p :: ps, h => by
    have ih := hS_cons_q (q := q) (qs := qs) (ps := ps) fun x hx => h x (List.mem_cons_of_mem _ hx)
    have := h p (by simp)
    unfold hS at ih ⊢
    rw [List.map_cons, List.sum_cons, List.map_cons, List.sum_cons, ih, List.length_cons]
    have e : hRow p (q :: qs) = 1 + hRow p qs := by
      unfold hRow
      rw [List.map_cons, List.sum_cons, if_pos this]
    rw [e]
    push_cast
    omega
theorem placesFrom_ge (i : Int) : ∀ (l : List Int) (k : Nat), ∀ p ∈ placesFrom i l k, (k : Int) ≤ p
  | [], _, p, h => by cases h
  | a :: l, k, p, h => by
    unfold placesFrom at h
    split at h
    · rcases List.mem_cons.mp h with z | z
      · omega
      · have := placesFrom_ge i l (k + 1) p z
        omega
    · have := placesFrom_ge i l (k + 1) p h
      omega
theorem lead_hS {i j : Int} (h : i ≠ j) : ∀ (l : List Int) (k : Nat), leadF l i j = 2 * hS (placesFrom i l k) (placesFrom j l k) - (l.count i : Int) * (l.count j : Int)
  | [], _ => rfl
  | c :: l, k => by
    have ih := lead_hS h l (k + 1)
    unfold leadF placesFrom
    by_cases h1 : c = i
    · subst h1
      rw [if_pos rfl, if_neg h, if_pos rfl, if_neg h, List.count_cons_self, List.count_cons_of_ne h]
      have e : hS ((k : Int) :: placesFrom c l (k + 1)) (placesFrom j l (k + 1)) = hS (placesFrom c l (k + 1)) (placesFrom j l (k + 1)) := by
        unfold hS
        rw [List.map_cons, List.sum_cons, hRow_none fun q hq => ?_]
        · omega
        · have := placesFrom_ge j l (k + 1) q hq
          omega
      rw [e, ih]
      push_cast
      rw [Int.add_mul]
      omega
    · by_cases h2 : c = j
      · subst h2
        rw [if_neg h1, if_pos rfl, if_neg h1, if_pos rfl, List.count_cons_self, List.count_cons_of_ne h1]
        rw [hS_cons_q fun p hp => ?_, placesFrom_len, ih]
        · push_cast
          have := Int.mul_add (l.count i : Int) (l.count c : Int) 1
          omega
        · have := placesFrom_ge i l (k + 1) p hp
          omega
      · rw [if_neg h1, if_neg h2, if_neg h1, if_neg h2, List.count_cons_of_ne h1, List.count_cons_of_ne h2, ih]
        omega
/-- sums over places -/
def S1 (n : Nat) (f : Nat → Int) : Int := ((List.range n).map f).sum
theorem S1_succ (n : Nat) (f : Nat → Int) : S1 (n + 1) f = S1 n f + f n := by
  unfold S1
  rw [List.range_succ, List.map_append, List.sum_append]
  simp
theorem S1_congr {n : Nat} {f g : Nat → Int} (h : ∀ x, x < n → f x = g x) : S1 n f = S1 n g := by
  induction n with
  | zero => rfl
  | succ n ih => rw [S1_succ, S1_succ, ih fun x hx => h x (by omega), h n (by omega)]
theorem S1_sub (n : Nat) (f g : Nat → Int) : S1 n f - S1 n g = S1 n fun x => f x - g x := by
  induction n with
  | zero => rfl
  | succ n ih => rw [S1_succ, S1_succ, S1_succ, ← ih]; omega
theorem sum_range (l : List Int) (f : Int → Int) : (l.map f).sum = S1 l.length fun x => f (l.getD x 0) := by
  unfold S1
  congr 1
  apply List.ext_getElem
  · simp
  · intro k h1 h2
    have : k < l.length := by simpa using h1
    simp [List.getD, this]
theorem filt_len {α : Type} (f : α → Bool) : ∀ l : List α, ((l.filter f).length : Int) = (l.map fun a => if f a = true then (1 : Int) else 0).sum
  | [] => rfl
  | a :: l => by
    have ih := filt_len f l
    rw [List.map_cons, List.sum_cons, ← ih, List.filter_cons]
    split
    · rename_i h; rw [List.length_cons]; push_cast; omega
    · omega

theorem cnt_S1 (f : Nat → Nat → Bool) (o : Nat) : ∀ z : Nat, (cnt f z o : Int) = S1 z fun x => S1 o fun y => if f x y = true then 1 else 0
  | 0 => rfl
  | z + 1 => by
    rw [cnt_succ, S1_succ, ← cnt_S1 f o z]
    push_cast
    congr 1
    rw [filt_len]
    rfl
theorem S1_one (f : Nat → Int) : ∀ n : Nat, (∀ x, x < n → f x = 1) → S1 n f = n
  | 0, _ => rfl
  | n + 1, h => by
    rw [S1_succ, S1_one f n fun x hx => h x (by omega), h n (by omega)]; push_cast; rfl
theorem S1_const (c : Int) : ∀ n : Nat, S1 n (fun _ => c) = n * c
  | 0 => by show (0 : Int) = ((0 : Nat) : Int) * c; simp
  | n + 1 => by
    rw [S1_succ, S1_const c n]; push_cast; rw [Int.add_mul]; omega
theorem S1_add (n : Nat) (f g : Nat → Int) : S1 n f + S1 n g = S1 n fun x => f x + g x := by
  induction n with
  | zero => rfl
  | succ n ih => rw [S1_succ, S1_succ, S1_succ, ← ih]; omega
/-- the lead, by what stands ahead -/
theorem lead_ahead (w : List Int) : leadF w 0 1 = (w.count 0 : Int) * (w.count 1 : Int) - 2 * (aheadN w : Int) := by
  have l1 := lead_hS (i := 0) (j := 1) (by decide) w 0
  have hh : hS (placesOf w 0) (placesOf w 1) = S1 (w.count 0) fun x => S1 (w.count 1) fun y => if (placesOf w 1).getD y 0 < (placesOf w 0).getD x 0 then (1 : Int) else 0 := by
    unfold hS
    rw [sum_range, placesOf_len]
    apply S1_congr
    intro x _
    unfold hRow
    rw [sum_range, placesOf_len]
  have key : hS (placesOf w 0) (placesOf w 1) + (aheadN w : Int) = (w.count 0 : Int) * (w.count 1 : Int) := by
    unfold aheadN
    rw [hh, cnt_S1, S1_add]
    rw [← S1_const]
    apply S1_congr
    intro x hx
    rw [S1_add]
    refine S1_one _ _ fun y hy => ?_
    have n1 : posF w 0 x ≠ posF w 1 y := fun z => by
      obtain ⟨p, p1, p2, p3, _⟩ := posF_inv hx
      obtain ⟨q, q1, q2, q3, _⟩ := posF_inv hy
      rw [p1, q1] at z
      have : p = q := by omega
      subst this
      omega
    unfold posF at n1
    unfold aheadB posF
    by_cases c : (placesOf w 0).getD x 0 < (placesOf w 1).getD y 0
    · rw [if_neg (by omega), decide_eq_true c, if_pos rfl]; omega
    · rw [if_pos (by omega), decide_eq_false c, if_neg (by decide)]; omega
  unfold placesOf at key
  omega
theorem ahead_le (w : List Int) : (aheadN w : Int) ≤ (w.count 0 : Int) * (w.count 1 : Int) := by
  have := cnt_le (aheadB w) (w.count 1) (w.count 0)
  unfold aheadN
  have h5 : ((w.count 0 * w.count 1 : Nat) : Int) = (w.count 0 : Int) * (w.count 1 : Int) := by push_cast; rfl
  omega
theorem same_lone {w : List Int} (G : GoodW 2 w) : sameB w = !loneB w := by
  have h1 := lead_ahead w
  have h2 := ahead_le w
  have p0 : 0 < w.count 0 := List.count_pos_iff.mpr (G.2.2.2.2 0 (by decide))
  have p1 : 0 < w.count 1 := List.count_pos_iff.mpr (G.2.2.2.2 1 (by decide))
  have e : ((w.count 0 : Int) * (w.count 1 : Int) + leadF w 0 1) / 2 = (w.count 0 : Int) * (w.count 1 : Int) - aheadN w := by omega
  unfold sameB loneB
  rw [e]
  generalize (w.count 0 : Int) * (w.count 1 : Int) = P at *
  by_cases c1 : (w.count 0 : Int) = 1
  · rw [decide_eq_true c1, decide_eq_false (by omega)]; simp
  · rw [decide_eq_false c1, decide_eq_true (by omega : (w.count 0 : Int) > 1)]
    by_cases c2 : (w.count 1 : Int) = 1
    · rw [decide_eq_true c2, decide_eq_false (by omega)]; simp
    · rw [decide_eq_false c2, decide_eq_true (by omega : (w.count 1 : Int) > 1)]
      by_cases c3 : (aheadN w : Int) < 2
      · rw [decide_eq_true c3, decide_eq_false (by omega : ¬ P - (aheadN w : Int) < P - 1)]; simp
      · rw [decide_eq_false c3, decide_eq_true (by omega : P - (aheadN w : Int) < P - 1)]
        by_cases c4 : (aheadN w : Int) > P - 2
        · rw [decide_eq_true c4, decide_eq_false (by omega)]; rfl
        · rw [decide_eq_false c4, decide_eq_true (by omega)]; rfl
theorem more_less {w v : List Int} (hs : sortI w = sortI v) : (moreC w v : Int) - (lessC w v : Int) = (aheadN w : Int) - (aheadN v : Int) := by
  have c0 := sort_count hs 0
  have c1 := sort_count hs 1
  have k1 : aheadN w = cnt (fun x y => aheadB w x y && aheadB v x y) (w.count 0) (w.count 1) + moreC w v := by
    unfold aheadN moreC
    refine cnt_add _ fun x y hx hy => ?_
    cases e1 : aheadB w x y <;> cases e2 : aheadB v x y <;> simp
  have k2 : aheadN v = cnt (fun x y => aheadB w x y && aheadB v x y) (w.count 0) (w.count 1) + lessC w v := by
    unfold aheadN lessC
    rw [← c0, ← c1]
    refine cnt_add _ fun x y hx hy => ?_
    cases e1 : aheadB w x y <;> cases e2 : aheadB v x y <;> simp
  omega
theorem lead_iff {w v : List Int} (hs : sortI w = sortI v) : leadF w 0 1 = leadF v 0 1 ↔ moreC w v = lessC w v := by
  have h1 := lead_ahead w
  have h2 := lead_ahead v
  have h3 := more_less hs
  rw [← sort_count hs 0, ← sort_count hs 1] at h2
  omega
theorem lead_anti (a b : Int) (h : a ≠ b) : ∀ w : List Int, leadF w b a = - leadF w a b
  | [] => rfl
  | c :: w => by
    have ih := lead_anti a b h w
    have e : ∀ x y : Int, leadF (c :: w) x y = leadF w x y + (if c = x then -(w.count y : Int) else 0) + (if c = y then (w.count x : Int) else 0) := fun _ _ => rfl
    rw [e, e, ih]
    by_cases h1 : c = a
    · have h2 : ¬ c = b := fun z => h (h1.symm.trans z)
      rw [if_neg h2, if_pos h1, if_pos h1, if_neg h2]; omega
    · rw [if_neg h1]
      by_cases h2 : c = b
      · rw [if_pos h2, if_pos h2, if_neg h1]; omega
      · rw [if_neg h2, if_neg h2, if_neg h1]; omega
theorem leadsT_two (w : List Int) : leadsT w 2 = [[0, leadF w 0 1], [-leadF w 0 1, 0]] := by
  rw [← lead_anti 0 1 (by decide)]
  rfl
theorem leadsT_iff (w v : List Int) : leadsT w 2 = leadsT v 2 ↔ leadF w 0 1 = leadF v 0 1 := by
  rw [leadsT_two, leadsT_two]
  constructor
  · intro h
    simp only [List.cons.injEq] at h
    exact h.1.2.1
  · intro h; rw [h]
/-- a word with another one of its lead -/
theorem same_of {w v : List Int} (G : GoodW 2 w) (hs : sortI w = sortI v) (hm : 0 < moreC w v) (hl : 0 < lessC w v) : sameB w = true := by
  obtain ⟨x1, y1, a1, a2, a3⟩ := cnt_pos _ hm
  obtain ⟨x2, y2, b1, b2, b3⟩ := cnt_pos _ hl
  simp only [Bool.and_eq_true, Bool.not_eq_true'] at a3 b3
  -- places rise
  have rise : ∀ (u : List Int) (i : Int) (x x' : Nat), x < x' → x' < u.count i → posF u i x < posF u i x' := fun u i x x' h1 h2 => by
    obtain ⟨p, p1, p2, p3, p4⟩ := posF_inv (w := u) (i := i) (x := x) (by omega)
    obtain ⟨q, q1, q2, q3, q4⟩ := posF_inv h2
    rw [p1, q1]
    have : ¬ q ≤ p := fun z => by
      have := count_take_le u i z
      omega
    omega
  have le : ∀ (u : List Int) (i : Int) (x x' : Nat), x ≤ x' → x' < u.count i → posF u i x ≤ posF u i x' := fun u i x x' h1 h2 => by
    rcases Nat.lt_or_eq_of_le h1 with z | z
    · exact Int.le_of_lt (rise u i x x' z h2)
    · subst z; exact Int.le_refl _
  have mono : ∀ u : List Int, u.count 0 = w.count 0 → u.count 1 = w.count 1 → ∀ x y x' y', x' ≤ x → y ≤ y' → x < w.count 0 → y' < w.count 1 → aheadB u x y = true → aheadB u x' y' = true := fun u c0 c1 x y x' y' h1 h2 h3 h4 h => by
    unfold aheadB at h ⊢
    have h := of_decide_eq_true h
    have := le u 0 x' x h1 (by omega)
    have := le u 1 y y' h2 (by omega)
    exact decide_eq_true (by omega)
  have mw := mono w rfl rfl
  have mv := mono v (sort_count hs 0).symm (sort_count hs 1).symm
  have no : ∀ {b : Bool}, b = true → b = false → False := fun h1 h2 => by rw [h1] at h2; cases h2
  have n1 : ¬ (x1 = x2 ∧ y1 = y2) := fun z => no b3.1 (by rw [← z.1, ← z.2]; exact a3.2)
  have z1 : ¬ w.count 0 = 1 := fun z => by
    have : x1 = 0 ∧ x2 = 0 := by omega
    obtain ⟨rfl, rfl⟩ := this
    rcases Nat.lt_or_ge y1 y2 with c | c
    · exact no (mw 0 y1 0 y2 (Nat.le_refl _) (by omega) a1 b2 a3.1) b3.2
    · exact no (mv 0 y2 0 y1 (Nat.le_refl _) c a1 a2 b3.1) a3.2
  have z2 : ¬ w.count 1 = 1 := fun z => by
    have : y1 = 0 ∧ y2 = 0 := by omega
    obtain ⟨rfl, rfl⟩ := this
    rcases Nat.lt_or_ge x1 x2 with c | c
    · exact no (mv x2 0 x1 0 (by omega) (Nat.le_refl _) b1 a2 b3.1) a3.2
    · exact no (mw x1 0 x2 0 c (Nat.le_refl _) a1 b2 a3.1) b3.2
  -- two cells ahead, two behind
  have lw : aheadB w 0 (w.count 1 - 1) = true := mw x1 y1 0 _ (by omega) (by omega) a1 (by omega) a3.1
  have lv : aheadB v 0 (w.count 1 - 1) = true := mv x2 y2 0 _ (by omega) (by omega) b1 (by omega) b3.1
  have hw : aheadB w (w.count 0 - 1) 0 = false := by
    cases c : aheadB w (w.count 0 - 1) 0
    · rfl
    · exact (no (mw (w.count 0 - 1) 0 x2 y2 (by omega) (by omega) (by omega) b2 c) b3.2).elim
  have two_ahead : 2 ≤ aheadN w := by
    unfold aheadN
    have := cnt_upd (f := aheadB w) (g := fun x y => aheadB w x y && !(decide (x = x1) && decide (y = y1))) a1 a2 (fun x y _ _ hn => by
      have : (decide (x = x1) && decide (y = y1)) = false := by
        by_cases c1 : x = x1
        · have c2 : ¬ y = y1 := fun q => hn ⟨c1, q⟩
          simp [c2]
        · simp [c1]
      rw [this]; simp) a3.1 (by simp)
    have h2 := cnt_lt (f := fun x y => aheadB w x y && !(decide (x = x1) && decide (y = y1))) (show 0 < w.count 0 by omega) (show w.count 1 - 1 < w.count 1 by omega) (by
      have : ¬ (0 = x1 ∧ w.count 1 - 1 = y1) := fun z => no lv (by rw [z.1, z.2]; exact a3.2)
      rw [lw]
      by_cases c1 : 0 = x1
      · have c2 : ¬ w.count 1 - 1 = y1 := fun q => this ⟨c1, q⟩
        simp [c2]
      · simp [c1])
    omega
  have two_behind : (aheadN w : Int) ≤ (w.count 0 : Int) * (w.count 1 : Int) - 2 := by
    have tot : cnt (aheadB w) (w.count 0) (w.count 1) + cnt (fun x y => !aheadB w x y) (w.count 0) (w.count 1) = cnt (fun _ _ => true) (w.count 0) (w.count 1) := (cnt_add _ fun x y _ _ => by cases aheadB w x y <;> simp).symm
    have := cnt_le (fun _ _ => true) (w.count 1) (w.count 0)
    have k1 := cnt_upd (f := fun x y => !aheadB w x y) (g := fun x y => !aheadB w x y && !(decide (x = x2) && decide (y = y2))) b1 b2 (fun x y _ _ hn => by
      have : (decide (x = x2) && decide (y = y2)) = false := by
        by_cases c1 : x = x2
        · have c2 : ¬ y = y2 := fun q => hn ⟨c1, q⟩
          simp [c2]
        · simp [c1]
      rw [this]; simp) (by rw [b3.2]; rfl) (by simp)
    have k2 := cnt_lt (f := fun x y => !aheadB w x y && !(decide (x = x2) && decide (y = y2))) (show w.count 0 - 1 < w.count 0 by omega) (show 0 < w.count 1 by omega) (by
      have : ¬ (w.count 0 - 1 = x2 ∧ 0 = y2) := fun z => by
        have := mv x2 y2 x1 y1 (by omega) (by omega) b1 a2 b3.1
        exact no this a3.2
      rw [hw]
      by_cases c1 : w.count 0 - 1 = x2
      · have c2 : ¬ 0 = y2 := fun q => this ⟨c1, q⟩
        simp [c2]
      · simp [c1])
    unfold aheadN
    have h5 : ((w.count 0 * w.count 1 : Nat) : Int) = (w.count 0 : Int) * (w.count 1 : Int) := by push_cast; rfl
    omega
  rw [same_lone G]
  unfold loneB
  rw [decide_eq_false (by omega), decide_eq_false (by omega), decide_eq_false (by omega), decide_eq_false (by omega)]
  rfl
end LW

namespace LW
open PySem PySem.Spec PyProof.Rows L2 DL
theorem fm_filter {α β : Type} (g : α → Option β) (p : β → Bool) : ∀ l : List α, ((l.filterMap g).filter p).length = (l.filter fun y => (g y).any p).length
  | [] => rfl
  | y :: l => by
    have ih := fm_filter g p l
    rw [List.filterMap_cons]
    cases h : g y with
    | none =>
      dsimp only
      rw [ih, List.filter_cons, h]
      simp
    | some b =>
      dsimp only
      rw [List.filter_cons, List.filter_cons, h]
      cases hp : p b <;> simp [hp, ih]
theorem cells_flag (one two : List Int) (p : Int × Int × Bool → Bool) : ((cellsF one two 0 1).filter p).length = cnt (fun x y => (cellAt (placesOf one 0) (placesOf one 1) (placesOf two 0) (placesOf two 1) x y).any p) (one.count 0) (one.count 1) := by
  unfold cellsF cnt
  rw [List.filter_flatMap, List.length_flatMap, placesOf_len, placesOf_len]
  congr 1
  apply List.map_congr_left
  intro x _
  exact fm_filter _ _ _
theorem cells_more (one two : List Int) : ((cellsF one two 0 1).filter fun c => c.2.2).length = moreC one two := by
  rw [cells_flag]
  unfold moreC
  refine cnt_congr fun x y _ _ => ?_
  have e : cellAt (placesOf one 0) (placesOf one 1) (placesOf two 0) (placesOf two 1) x y = if aheadB one x y = aheadB two x y then none else some ((x : Int), (y : Int), aheadB one x y) := rfl
  rw [e]
  cases aheadB one x y <;> cases aheadB two x y <;> rfl
theorem cells_all (one two : List Int) : (cellsF one two 0 1).length = moreC one two + lessC one two := by
  have h := cells_flag one two fun _ => true
  rw [List.filter_eq_self.mpr fun _ _ => rfl] at h
  rw [h]
  unfold moreC lessC
  refine cnt_add _ fun x y _ _ => ?_
  have e : cellAt (placesOf one 0) (placesOf one 1) (placesOf two 0) (placesOf two 1) x y = if aheadB one x y = aheadB two x y then none else some ((x : Int), (y : Int), aheadB one x y) := rfl
  rw [e]
  cases aheadB one x y <;> cases aheadB two x y <;> simp
theorem more_le {one : List Int} (two : List Int) (h : one.length < 4000) : moreC one two ≤ 16000000 ∧ lessC one two ≤ 16000000 := by
  have c0 := List.count_le_length (a := (0 : Int)) (l := one)
  have c1 := List.count_le_length (a := (1 : Int)) (l := one)
  have := Nat.mul_le_mul (show one.count 0 ≤ 4000 by omega) (show one.count 1 ≤ 4000 by omega)
  have a := cnt_le (fun x y => aheadB one x y && !aheadB two x y) (one.count 1) (one.count 0)
  have b := cnt_le (fun x y => aheadB two x y && !aheadB one x y) (one.count 1) (one.count 0)
  unfold moreC lessC
  omega
section
variable {K : PySem.W.Frag}
theorem b_words_of_two : ∀ d0 d1 M Q E, sp_words_of_two K [d0, d1] M Q E → g_words_of_two K { nx := fun _ M => Q .non M, rt := Q, ex := fun x _ M => E x M } [some d0, some d1] M := by
  rintro d0 d1 M Q E h
  have h : twoC K M d0 d1 (fun x M => E x M) fun one two => Q (.tup [.tup (iD one), .tup (iD two)]) M := h
  unfold g_words_of_two
  dsimp only [q_op, q_un, q_var, q_c, q_nil, q_cons, q_tup, q_frz, q_cel, q_lst, q_test, q_onB, q_and, q_or, q_not, q_andV, q_orV, q_notV, q_if, q_chain, q_next, q_seq, q_drop, q_ret, q_retF, q_retN, q_sif, q_break, q_cont, q_name, q_dnil, q_dcons, q_dtup, q_asg, q_set, q_par, q_for, q_range1, q_range2, q_iseq, q_ienum, q_call, q_cb, q_ncb, q_nop, q_lenset, q_mt, q_mt0, q_setix, q_augs, q_aug, q_nsl, q_onone, q_osome, q_gsl, q_raise, q_raiseF, q_try, q_lc, q_lc2, q_yes, q_wipe0, q_wipe, q_xf, q_I, q_I0, q_U, q_add, q_addT, q_addL, q_addR, q_onL, q_onSt, q_onSl, q_onSs, q_onSrct, q_onSrcl, q_eqI, q_eqB, q_eqS, q_eqN, q_isN, q_ix, q_ixL, q_in, q_len, q_sum, q_max, q_min, q_max2, q_min2, q_abs, q_int, q_tupof, q_lstof, q_sort, q_rep, q_cat, q_isi, q_isis, q_setat, q_onC, q_append, q_pop, q_popAt, q_reverse, q_insert, q_sp1, q_sp2, q_sp3, q_sp4, q_at0, q_atS, q_st0, q_stS, q_iteT, q_iteF, q_isB, q_gCntT, sp_check_word, sp_alike_words]
  refine ⟨2, rfl, by decide, wordC_use (fun one G h => ⟨2, rfl, by decide, wordC_use (fun two G2 h => ?_) h⟩) h⟩
  refine plainC_good G RowD.tup (plainC_good G2 RowD.tup ?_)
  exact h
theorem b_moves_between : ∀ d0 d1 M Q E, sp_moves_between K [d0, d1] M Q E → g_moves_between K { nx := fun _ M => Q .non M, rt := Q, ex := fun x _ M => E x M } [some d0, some d1, none, none, none, none, none] M := by
  rintro d0 d1 M Q E ⟨one, two, rfl, rfl, G, hs, q⟩
  have hl := G.2.2.1
  unfold g_moves_between
  dsimp only [q_op, q_un, q_var, q_c, q_nil, q_cons, q_tup, q_frz, q_cel, q_lst, q_test, q_onB, q_and, q_or, q_not, q_andV, q_orV, q_notV, q_if, q_chain, q_next, q_seq, q_drop, q_ret, q_retF, q_retN, q_sif, q_break, q_cont, q_name, q_dnil, q_dcons, q_dtup, q_asg, q_set, q_par, q_for, q_range1, q_range2, q_iseq, q_ienum, q_call, q_cb, q_ncb, q_nop, q_lenset, q_mt, q_mt0, q_setix, q_augs, q_aug, q_nsl, q_onone, q_osome, q_gsl, q_raise, q_raiseF, q_try, q_lc, q_lc2, q_yes, q_wipe0, q_wipe, q_xf, q_I, q_I0, q_U, q_add, q_addT, q_addL, q_addR, q_onL, q_onSt, q_onSl, q_onSs, q_onSrct, q_onSrcl, q_eqI, q_eqB, q_eqS, q_eqN, q_isN, q_ix, q_ixL, q_in, q_len, q_sum, q_max, q_min, q_max2, q_min2, q_abs, q_int, q_tupof, q_lstof, q_sort, q_rep, q_cat, q_isi, q_isis, q_setat, q_onC, q_append, q_pop, q_popAt, q_reverse, q_insert, q_sp1, q_sp2, q_sp3, q_sp4, q_at0, q_atS, q_st0, q_stS, q_iteT, q_iteF, q_isB, q_gCntT, sp_sided_cells]
  refine ⟨one, two, 0, 1, RowD.tup, RowD.tup, rfl, rfl, hl, hs, ?_⟩
  have hcl := cells_all one two
  have hml := more_le two hl
  have hc2 := cells_len one two 0 1 hl
  refine lc_map cellD (fun c => .bl c.2.2) trivial _ (fun c hc k hk => ?_) dT3_mono rfl (by rw [sz]; omega) ?_
  · unfold cellD
    (try dsimp only [q_op, q_un, q_var, q_c, q_nil, q_cons, q_tup, q_frz, q_cel, q_lst, q_test, q_onB, q_and, q_or, q_not, q_andV, q_orV, q_notV, q_if, q_chain, q_next, q_seq, q_drop, q_ret, q_retF, q_retN, q_sif, q_break, q_cont, q_name, q_dnil, q_dcons, q_dtup, q_asg, q_set, q_par, q_for, q_range1, q_range2, q_iseq, q_ienum, q_call, q_cb, q_ncb, q_nop, q_lenset, q_mt, q_mt0, q_setix, q_augs, q_aug, q_nsl, q_onone, q_osome, q_gsl, q_raise, q_raiseF, q_try, q_lc, q_lc2, q_yes, q_wipe0, q_wipe, q_xf, q_I, q_I0, q_U, q_add, q_addT, q_addL, q_addR, q_onL, q_onSt, q_onSl, q_onSs, q_onSrct, q_onSrcl, q_eqI, q_eqB, q_eqS, q_eqN, q_isN, q_ix, q_ixL, q_in, q_len, q_sum, q_max, q_min, q_max2, q_min2, q_abs, q_int, q_tupof, q_lstof, q_sort, q_rep, q_cat, q_isi, q_isis, q_setat, q_onC, q_append, q_pop, q_popAt, q_reverse, q_insert, q_sp1, q_sp2, q_sp3, q_sp4, q_at0, q_atS, q_st0, q_stS, q_iteT, q_iteF, q_isB, q_gCntT])
    exact ⟨rfl, rfl, rfl, hk⟩
  (try dsimp only [q_op, q_un, q_var, q_c, q_nil, q_cons, q_tup, q_frz, q_cel, q_lst, q_test, q_onB, q_and, q_or, q_not, q_andV, q_orV, q_notV, q_if, q_chain, q_next, q_seq, q_drop, q_ret, q_retF, q_retN, q_sif, q_break, q_cont, q_name, q_dnil, q_dcons, q_dtup, q_asg, q_set, q_par, q_for, q_range1, q_range2, q_iseq, q_ienum, q_call, q_cb, q_ncb, q_nop, q_lenset, q_mt, q_mt0, q_setix, q_augs, q_aug, q_nsl, q_onone, q_osome, q_gsl, q_raise, q_raiseF, q_try, q_lc, q_lc2, q_yes, q_wipe0, q_wipe, q_xf, q_I, q_I0, q_U, q_add, q_addT, q_addL, q_addR, q_onL, q_onSt, q_onSl, q_onSs, q_onSrct, q_onSrcl, q_eqI, q_eqB, q_eqS, q_eqN, q_isN, q_ix, q_ixL, q_in, q_len, q_sum, q_max, q_min, q_max2, q_min2, q_abs, q_int, q_tupof, q_lstof, q_sort, q_rep, q_cat, q_isi, q_isis, q_setat, q_onC, q_append, q_pop, q_popAt, q_reverse, q_insert, q_sp1, q_sp2, q_sp3, q_sp4, q_at0, q_atS, q_st0, q_stS, q_iteT, q_iteF, q_isB, q_gCntT])
  have e1 : ((cellsF one two 0 1).map fun c => D.bl c.2.2) = ((cellsF one two 0 1).map fun c => c.2.2).map D.bl := by rw [List.map_map]; rfl
  rw [e1]
  refine lc_still D.bl (fun b => if b = true then some (.bl b) else none) trivial _ [] (fun b hb N acc hz hN => ?_) (by rw [sz]; simp; omega) ?_
  · (try dsimp only [q_op, q_un, q_var, q_c, q_nil, q_cons, q_tup, q_frz, q_cel, q_lst, q_test, q_onB, q_and, q_or, q_not, q_andV, q_orV, q_notV, q_if, q_chain, q_next, q_seq, q_drop, q_ret, q_retF, q_retN, q_sif, q_break, q_cont, q_name, q_dnil, q_dcons, q_dtup, q_asg, q_set, q_par, q_for, q_range1, q_range2, q_iseq, q_ienum, q_call, q_cb, q_ncb, q_nop, q_lenset, q_mt, q_mt0, q_setix, q_augs, q_aug, q_nsl, q_onone, q_osome, q_gsl, q_raise, q_raiseF, q_try, q_lc, q_lc2, q_yes, q_wipe0, q_wipe, q_xf, q_I, q_I0, q_U, q_add, q_addT, q_addL, q_addR, q_onL, q_onSt, q_onSl, q_onSs, q_onSrct, q_onSrcl, q_eqI, q_eqB, q_eqS, q_eqN, q_isN, q_ix, q_ixL, q_in, q_len, q_sum, q_max, q_min, q_max2, q_min2, q_abs, q_int, q_tupof, q_lstof, q_sort, q_rep, q_cat, q_isi, q_isis, q_setat, q_onC, q_append, q_pop, q_popAt, q_reverse, q_insert, q_sp1, q_sp2, q_sp3, q_sp4, q_at0, q_atS, q_st0, q_stS, q_iteT, q_iteF, q_isB, q_gCntT])
    cases b
    · simpa using hN
    · exact ⟨hz, hN⟩
  have e2 : (([] : List D) ++ List.filterMap (fun b => if b = true then some (D.bl b) else none) (List.map (fun c => c.2.2) (cellsF one two 0 1))).length = moreC one two := by
    rw [List.nil_append, ← cells_more, ← List.length_map (as := (cellsF one two 0 1).filter fun c => c.2.2) (fun c => c)]
    generalize cellsF one two 0 1 = l
    induction l with
    | nil => rfl
    | cons c l ih =>
      rw [List.map_cons, List.filterMap_cons, List.filter_cons]
      cases h : c.2.2 <;> simp [ih] <;> simpa using ih
  rw [e2, List.length_map, List.length_map, hcl]
  unfold movesD at q
  refine ⟨cmulw (by omega) (by omega), ?_⟩
  by_cases c : moreC one two = lessC one two
  · rw [if_pos c] at q
    rw [if_neg (by simp; omega)]
    exact q
  · rw [if_neg c] at q
    rw [if_pos (by simp; omega)]
    exact q
theorem b_paired_moves : ∀ d0 d1 M Q E, sp_paired_moves K [d0, d1] M Q E → g_paired_moves K { nx := fun _ M => Q .non M, rt := Q, ex := fun x _ M => E x M } [some d0, some d1, none, none] M := by
  rintro d0 d1 M Q E h
  have h : twoC K M d0 d1 (fun x M => E x M) fun one two => Q (movesD one two) M := h
  unfold g_paired_moves
  dsimp only [q_op, q_un, q_var, q_c, q_nil, q_cons, q_tup, q_frz, q_cel, q_lst, q_test, q_onB, q_and, q_or, q_not, q_andV, q_orV, q_notV, q_if, q_chain, q_next, q_seq, q_drop, q_ret, q_retF, q_retN, q_sif, q_break, q_cont, q_name, q_dnil, q_dcons, q_dtup, q_asg, q_set, q_par, q_for, q_range1, q_range2, q_iseq, q_ienum, q_call, q_cb, q_ncb, q_nop, q_lenset, q_mt, q_mt0, q_setix, q_augs, q_aug, q_nsl, q_onone, q_osome, q_gsl, q_raise, q_raiseF, q_try, q_lc, q_lc2, q_yes, q_wipe0, q_wipe, q_xf, q_I, q_I0, q_U, q_add, q_addT, q_addL, q_addR, q_onL, q_onSt, q_onSl, q_onSs, q_onSrct, q_onSrcl, q_eqI, q_eqB, q_eqS, q_eqN, q_isN, q_ix, q_ixL, q_in, q_len, q_sum, q_max, q_min, q_max2, q_min2, q_abs, q_int, q_tupof, q_lstof, q_sort, q_rep, q_cat, q_isi, q_isis, q_setat, q_onC, q_append, q_pop, q_popAt, q_reverse, q_insert, q_sp1, q_sp2, q_sp3, q_sp4, q_at0, q_atS, q_st0, q_stS, q_iteT, q_iteF, q_isB, q_gCntT, sp_words_of_two, sp_moves_between]
  refine wordC_use (fun one G h => wordC_use (fun two G2 h => ?_) h) h
  by_cases c : one.length ≠ two.length
  · rw [if_pos c] at h ⊢; exact h
  rw [if_neg c] at h ⊢
  by_cases c2 : sortI one ≠ sortI two
  · rw [if_pos c2] at h ⊢; exact h
  rw [if_neg c2] at h ⊢
  exact ⟨rfl, rfl, one, two, rfl, rfl, G, by simpa using c2, h⟩
theorem chainP_snoc {two r : List Int} : ∀ (l : List (List Int)) (w : List Int), chainP two w l → pairR two (l.getLastD w) r → chainP two w (l ++ [r])
  | [], w, _, h => ⟨h, trivial⟩
  | v :: l, w, h, g => ⟨h.1, chainP_snoc l v h.2 (by rwa [List.getLastD_cons] at g)⟩
theorem turn_sort {two w r : List Int} {lo : Int} (h : turnR two lo w r) : sortI r = sortI w := by
  rcases h with ⟨a, ht, rfl⟩ | ⟨_, rfl⟩
  · exact sort_perm (exchI_perm ht.1)
  · rfl
theorem b_paired_way : ∀ d0 d1 M Q E, sp_paired_way K [d0, d1] M Q E → g_paired_way K { nx := fun _ M => Q .non M, rt := Q, ex := fun x _ M => E x M } [some d0, some d1, none, none, none, none, none] M := by
  rintro d0 d1 M Q E h
  have h : twoC K M d0 d1 (fun x M => E x M) fun one two => if moreC one two = lessC one two then ∀ ws, chainP two one ws → ws.length = moreC one two → Q (.lst (tups (one :: ws))) M else Q .non M := h
  unfold g_paired_way
  dsimp only [q_op, q_un, q_var, q_c, q_nil, q_cons, q_tup, q_frz, q_cel, q_lst, q_test, q_onB, q_and, q_or, q_not, q_andV, q_orV, q_notV, q_if, q_chain, q_next, q_seq, q_drop, q_ret, q_retF, q_retN, q_sif, q_break, q_cont, q_name, q_dnil, q_dcons, q_dtup, q_asg, q_set, q_par, q_for, q_range1, q_range2, q_iseq, q_ienum, q_call, q_cb, q_ncb, q_nop, q_lenset, q_mt, q_mt0, q_setix, q_augs, q_aug, q_nsl, q_onone, q_osome, q_gsl, q_raise, q_raiseF, q_try, q_lc, q_lc2, q_yes, q_wipe0, q_wipe, q_xf, q_I, q_I0, q_U, q_add, q_addT, q_addL, q_addR, q_onL, q_onSt, q_onSl, q_onSs, q_onSrct, q_onSrcl, q_eqI, q_eqB, q_eqS, q_eqN, q_isN, q_ix, q_ixL, q_in, q_len, q_sum, q_max, q_min, q_max2, q_min2, q_abs, q_int, q_tupof, q_lstof, q_sort, q_rep, q_cat, q_isi, q_isis, q_setat, q_onC, q_append, q_pop, q_popAt, q_reverse, q_insert, q_sp1, q_sp2, q_sp3, q_sp4, q_at0, q_atS, q_st0, q_stS, q_iteT, q_iteF, q_isB, q_gCntT, sp_words_of_two, sp_moves_between]
  refine wordC_use (fun one G h => wordC_use (fun two G2 h => ?_) h) h
  by_cases c : one.length ≠ two.length
  · rw [if_pos c] at h ⊢; exact h
  rw [if_neg c] at h ⊢
  by_cases c2 : sortI one ≠ sortI two
  · rw [if_pos c2] at h ⊢; exact h
  rw [if_neg c2] at h ⊢
  have hs : sortI one = sortI two := by simpa using c2
  refine ⟨rfl, rfl, one, two, rfl, rfl, G, hs, ?_⟩
  unfold movesD
  by_cases c3 : moreC one two = lessC one two
  · rw [if_pos c3] at h ⊢
    have hml := more_le two G.2.2.1
    (try dsimp only [q_op, q_un, q_var, q_c, q_nil, q_cons, q_tup, q_frz, q_cel, q_lst, q_test, q_onB, q_and, q_or, q_not, q_andV, q_orV, q_notV, q_if, q_chain, q_next, q_seq, q_drop, q_ret, q_retF, q_retN, q_sif, q_break, q_cont, q_name, q_dnil, q_dcons, q_dtup, q_asg, q_set, q_par, q_for, q_range1, q_range2, q_iseq, q_ienum, q_call, q_cb, q_ncb, q_nop, q_lenset, q_mt, q_mt0, q_setix, q_augs, q_aug, q_nsl, q_onone, q_osome, q_gsl, q_raise, q_raiseF, q_try, q_lc, q_lc2, q_yes, q_wipe0, q_wipe, q_xf, q_I, q_I0, q_U, q_add, q_addT, q_addL, q_addR, q_onL, q_onSt, q_onSl, q_onSs, q_onSrct, q_onSrcl, q_eqI, q_eqB, q_eqS, q_eqN, q_isN, q_ix, q_ixL, q_in, q_len, q_sum, q_max, q_min, q_max2, q_min2, q_abs, q_int, q_tupof, q_lstof, q_sort, q_rep, q_cat, q_isi, q_isis, q_setat, q_onC, q_append, q_pop, q_popAt, q_reverse, q_insert, q_sp1, q_sp2, q_sp3, q_sp4, q_at0, q_atS, q_st0, q_stS, q_iteT, q_iteF, q_isB, q_gCntT])
    rw [if_neg (show ¬ (DL.isNon (.int ((moreC one two : Nat) : Int)) = true) from Bool.false_ne_true)]
    refine ⟨by rw [sz]; show 1 ≤ 16777216; decide, fun p hp => ?_⟩
    have t0 : TabAt M (mset M p (.lst (tups [one]))) [p] [tups [one]] := TabAt.nil.push hp
    refine ⟨by omega, ?_⟩
    rw [Int.toNat_natCast]
    refine loop_rg0 (fun s ρ M' => (∃ a, ρ = [some d0, some d1, some (.tup (iD one)), some (.tup (iD two)), some (.int (moreC one two : Nat)), some (.ref p), a]) ∧ ∃ ws, TabAt M M' [p] [tups (one :: ws)] ∧ chainP two one ws ∧ ws.length = s ∧ sortI (ws.getLastD one) = sortI one) ?_ ?_ ⟨⟨_, rfl⟩, [], t0, trivial, rfl, rfl⟩
    · rintro s ρ M' hsl ⟨⟨a, rfl⟩, ws, t, hc, hlen, hso⟩ Nx hN
      have hM := tab_one t
      (try dsimp only [q_op, q_un, q_var, q_c, q_nil, q_cons, q_tup, q_frz, q_cel, q_lst, q_test, q_onB, q_and, q_or, q_not, q_andV, q_orV, q_notV, q_if, q_chain, q_next, q_seq, q_drop, q_ret, q_retF, q_retN, q_sif, q_break, q_cont, q_name, q_dnil, q_dcons, q_dtup, q_asg, q_set, q_par, q_for, q_range1, q_range2, q_iseq, q_ienum, q_call, q_cb, q_ncb, q_nop, q_lenset, q_mt, q_mt0, q_setix, q_augs, q_aug, q_nsl, q_onone, q_osome, q_gsl, q_raise, q_raiseF, q_try, q_lc, q_lc2, q_yes, q_wipe0, q_wipe, q_xf, q_I, q_I0, q_U, q_add, q_addT, q_addL, q_addR, q_onL, q_onSt, q_onSl, q_onSs, q_onSrct, q_onSrcl, q_eqI, q_eqB, q_eqS, q_eqN, q_isN, q_ix, q_ixL, q_in, q_len, q_sum, q_max, q_min, q_max2, q_min2, q_abs, q_int, q_tupof, q_lstof, q_sort, q_rep, q_cat, q_isi, q_isis, q_setat, q_onC, q_append, q_pop, q_popAt, q_reverse, q_insert, q_sp1, q_sp2, q_sp3, q_sp4, q_at0, q_atS, q_st0, q_stS, q_iteT, q_iteF, q_isB, q_gCntT])
      refine ⟨onL_ref hM trivial, RowD.onS (RowD.ref hM) ⟨_, tups_last (ws := one :: ws) (by simp), ?_⟩⟩
      rw [List.getLastD_cons]
      dsimp only [sp_turned_towards, q_op, q_un, q_var, q_c, q_nil, q_cons, q_tup, q_frz, q_cel, q_lst, q_test, q_onB, q_and, q_or, q_not, q_andV, q_orV, q_notV, q_if, q_chain, q_next, q_seq, q_drop, q_ret, q_retF, q_retN, q_sif, q_break, q_cont, q_name, q_dnil, q_dcons, q_dtup, q_asg, q_set, q_par, q_for, q_range1, q_range2, q_iseq, q_ienum, q_call, q_cb, q_ncb, q_nop, q_lenset, q_mt, q_mt0, q_setix, q_augs, q_aug, q_nsl, q_onone, q_osome, q_gsl, q_raise, q_raiseF, q_try, q_lc, q_lc2, q_yes, q_wipe0, q_wipe, q_xf, q_I, q_I0, q_U, q_add, q_addT, q_addL, q_addR, q_onL, q_onSt, q_onSl, q_onSs, q_onSrct, q_onSrcl, q_eqI, q_eqB, q_eqS, q_eqN, q_isN, q_ix, q_ixL, q_in, q_len, q_sum, q_max, q_min, q_max2, q_min2, q_abs, q_int, q_tupof, q_lstof, q_sort, q_rep, q_cat, q_isi, q_isis, q_setat, q_onC, q_append, q_pop, q_popAt, q_reverse, q_insert, q_sp1, q_sp2, q_sp3, q_sp4, q_at0, q_atS, q_st0, q_stS, q_iteT, q_iteF, q_isB, q_gCntT]
      refine ⟨_, two, 0, rfl, rfl, rfl, .inl rfl, good_le G hso.symm, hso.trans hs, fun v tv => ?_⟩
      have hv := turn_sort tv
      refine ⟨v, two, 1, rfl, rfl, rfl, .inr rfl, good_le G (hv.trans hso).symm, (hv.trans hso).trans hs, fun r tr => ?_⟩
      have hr := turn_sort tr
      refine ⟨_, hM, by rw [sz, tups_len, List.length_cons]; omega, ?_⟩
      have t2 := t.set (r := tups (one :: ws) ++ [.tup (iD r)]) (i := 0) (p := p) rfl
      rw [tups_snoc] at t2 ⊢
      refine hN _ _ ⟨⟨_, rfl⟩, ws ++ [r], t2, chainP_snoc ws one hc ⟨v, tv, tr⟩, by rw [List.length_append, hlen]; rfl, ?_⟩
      have : (ws ++ [r]).getLastD one = r := by simp [List.getLastD_eq_getLast?]
      rw [this]
      exact hr.trans (hv.trans hso)
    · rintro ρ M' ⟨⟨a, rfl⟩, ws, t, hc, hlen, hso⟩
      (try dsimp only [q_op, q_un, q_var, q_c, q_nil, q_cons, q_tup, q_frz, q_cel, q_lst, q_test, q_onB, q_and, q_or, q_not, q_andV, q_orV, q_notV, q_if, q_chain, q_next, q_seq, q_drop, q_ret, q_retF, q_retN, q_sif, q_break, q_cont, q_name, q_dnil, q_dcons, q_dtup, q_asg, q_set, q_par, q_for, q_range1, q_range2, q_iseq, q_ienum, q_call, q_cb, q_ncb, q_nop, q_lenset, q_mt, q_mt0, q_setix, q_augs, q_aug, q_nsl, q_onone, q_osome, q_gsl, q_raise, q_raiseF, q_try, q_lc, q_lc2, q_yes, q_wipe0, q_wipe, q_xf, q_I, q_I0, q_U, q_add, q_addT, q_addL, q_addR, q_onL, q_onSt, q_onSl, q_onSs, q_onSrct, q_onSrcl, q_eqI, q_eqB, q_eqS, q_eqN, q_isN, q_ix, q_ixL, q_in, q_len, q_sum, q_max, q_min, q_max2, q_min2, q_abs, q_int, q_tupof, q_lstof, q_sort, q_rep, q_cat, q_isi, q_isis, q_setat, q_onC, q_append, q_pop, q_popAt, q_reverse, q_insert, q_sp1, q_sp2, q_sp3, q_sp4, q_at0, q_atS, q_st0, q_stS, q_iteT, q_iteF, q_isB, q_gCntT])
      exact ret_lst t.up hp (tab_one t) (h ws hc hlen)
  · rw [if_neg c3] at h ⊢
    (try dsimp only [q_op, q_un, q_var, q_c, q_nil, q_cons, q_tup, q_frz, q_cel, q_lst, q_test, q_onB, q_and, q_or, q_not, q_andV, q_orV, q_notV, q_if, q_chain, q_next, q_seq, q_drop, q_ret, q_retF, q_retN, q_sif, q_break, q_cont, q_name, q_dnil, q_dcons, q_dtup, q_asg, q_set, q_par, q_for, q_range1, q_range2, q_iseq, q_ienum, q_call, q_cb, q_ncb, q_nop, q_lenset, q_mt, q_mt0, q_setix, q_augs, q_aug, q_nsl, q_onone, q_osome, q_gsl, q_raise, q_raiseF, q_try, q_lc, q_lc2, q_yes, q_wipe0, q_wipe, q_xf, q_I, q_I0, q_U, q_add, q_addT, q_addL, q_addR, q_onL, q_onSt, q_onSl, q_onSs, q_onSrct, q_onSrcl, q_eqI, q_eqB, q_eqS, q_eqN, q_isN, q_ix, q_ixL, q_in, q_len, q_sum, q_max, q_min, q_max2, q_min2, q_abs, q_int, q_tupof, q_lstof, q_sort, q_rep, q_cat, q_isi, q_isis, q_setat, q_onC, q_append, q_pop, q_popAt, q_reverse, q_insert, q_sp1, q_sp2, q_sp3, q_sp4, q_at0, q_atS, q_st0, q_stS, q_iteT, q_iteF, q_isB, q_gCntT])
    rw [if_pos (by rfl)]
    exact ret_drop MemUp.refl h
theorem b_same_lead : ∀ d0 M Q E, sp_same_lead K [d0] M Q E → g_same_lead K { nx := fun _ M => Q .non M, rt := Q, ex := fun x _ M => E x M } [some d0, none, none, none, none] M := by
  rintro d0 M Q E h
  have h : wordC K M d0 2 (fun x M => E x M) fun w => Q (.bl (sameB w)) M := h
  unfold g_same_lead
  dsimp only [q_op, q_un, q_var, q_c, q_nil, q_cons, q_tup, q_frz, q_cel, q_lst, q_test, q_onB, q_and, q_or, q_not, q_andV, q_orV, q_notV, q_if, q_chain, q_next, q_seq, q_drop, q_ret, q_retF, q_retN, q_sif, q_break, q_cont, q_name, q_dnil, q_dcons, q_dtup, q_asg, q_set, q_par, q_for, q_range1, q_range2, q_iseq, q_ienum, q_call, q_cb, q_ncb, q_nop, q_lenset, q_mt, q_mt0, q_setix, q_augs, q_aug, q_nsl, q_onone, q_osome, q_gsl, q_raise, q_raiseF, q_try, q_lc, q_lc2, q_yes, q_wipe0, q_wipe, q_xf, q_I, q_I0, q_U, q_add, q_addT, q_addL, q_addR, q_onL, q_onSt, q_onSl, q_onSs, q_onSrct, q_onSrcl, q_eqI, q_eqB, q_eqS, q_eqN, q_isN, q_ix, q_ixL, q_in, q_len, q_sum, q_max, q_min, q_max2, q_min2, q_abs, q_int, q_tupof, q_lstof, q_sort, q_rep, q_cat, q_isi, q_isis, q_setat, q_onC, q_append, q_pop, q_popAt, q_reverse, q_insert, q_sp1, q_sp2, q_sp3, q_sp4, q_at0, q_atS, q_st0, q_stS, q_iteT, q_iteF, q_isB, q_gCntT, sp_check_word, sp_word_table]
  refine ⟨2, rfl, by decide, wordC_use (fun w G h => ?_) h⟩
  (try dsimp only [q_op, q_un, q_var, q_c, q_nil, q_cons, q_tup, q_frz, q_cel, q_lst, q_test, q_onB, q_and, q_or, q_not, q_andV, q_orV, q_notV, q_if, q_chain, q_next, q_seq, q_drop, q_ret, q_retF, q_retN, q_sif, q_break, q_cont, q_name, q_dnil, q_dcons, q_dtup, q_asg, q_set, q_par, q_for, q_range1, q_range2, q_iseq, q_ienum, q_call, q_cb, q_ncb, q_nop, q_lenset, q_mt, q_mt0, q_setix, q_augs, q_aug, q_nsl, q_onone, q_osome, q_gsl, q_raise, q_raiseF, q_try, q_lc, q_lc2, q_yes, q_wipe0, q_wipe, q_xf, q_I, q_I0, q_U, q_add, q_addT, q_addL, q_addR, q_onL, q_onSt, q_onSl, q_onSs, q_onSrct, q_onSrcl, q_eqI, q_eqB, q_eqS, q_eqN, q_isN, q_ix, q_ixL, q_in, q_len, q_sum, q_max, q_min, q_max2, q_min2, q_abs, q_int, q_tupof, q_lstof, q_sort, q_rep, q_cat, q_isi, q_isis, q_setat, q_onC, q_append, q_pop, q_popAt, q_reverse, q_insert, q_sp1, q_sp2, q_sp3, q_sp4, q_at0, q_atS, q_st0, q_stS, q_iteT, q_iteF, q_isB, q_gCntT])
  have hl := G.2.2.1
  have c0 : w.count 0 ≤ w.length := List.count_le_length
  have c1 : w.count 1 ≤ w.length := List.count_le_length
  refine ⟨iD w, rfl, w, 0, rfl, rfl, iD w, rfl, w, 1, rfl, rfl, cmulw (by omega) (by omega), 2, w, rfl, RowD.tup, G, ?_⟩
  rw [leadsT_two]
  refine ⟨_, rfl, _, rfl, ?_⟩
  (try dsimp only [q_op, q_un, q_var, q_c, q_nil, q_cons, q_tup, q_frz, q_cel, q_lst, q_test, q_onB, q_and, q_or, q_not, q_andV, q_orV, q_notV, q_if, q_chain, q_next, q_seq, q_drop, q_ret, q_retF, q_retN, q_sif, q_break, q_cont, q_name, q_dnil, q_dcons, q_dtup, q_asg, q_set, q_par, q_for, q_range1, q_range2, q_iseq, q_ienum, q_call, q_cb, q_ncb, q_nop, q_lenset, q_mt, q_mt0, q_setix, q_augs, q_aug, q_nsl, q_onone, q_osome, q_gsl, q_raise, q_raiseF, q_try, q_lc, q_lc2, q_yes, q_wipe0, q_wipe, q_xf, q_I, q_I0, q_U, q_add, q_addT, q_addL, q_addR, q_onL, q_onSt, q_onSl, q_onSs, q_onSrct, q_onSrcl, q_eqI, q_eqB, q_eqS, q_eqN, q_isN, q_ix, q_ixL, q_in, q_len, q_sum, q_max, q_min, q_max2, q_min2, q_abs, q_int, q_tupof, q_lstof, q_sort, q_rep, q_cat, q_isi, q_isis, q_setat, q_onC, q_append, q_pop, q_popAt, q_reverse, q_insert, q_sp1, q_sp2, q_sp3, q_sp4, q_at0, q_atS, q_st0, q_stS, q_iteT, q_iteF, q_isB, q_gCntT])
  refine ⟨by unfold CDivW; decide, ?_⟩
  unfold sameB at h
  have e0 : decide ((w.count 0 : Int) > 1) = decide (1 < (w.count 0 : Int)) := rfl
  have e1 : decide ((w.count 1 : Int) > 1) = decide (1 < (w.count 1 : Int)) := rfl
  rw [e0, e1] at h
  cases q0 : decide (1 < (w.count 0 : Int)) with
  | false =>
    rw [q0, Bool.false_and] at h
    exact if_f (by rfl) h
  | true =>
    rw [q0, Bool.true_and] at h
    refine if_t (by rfl) ?_
    cases q1 : decide (1 < (w.count 1 : Int)) with
    | false =>
      rw [q1, Bool.false_and] at h
      exact if_f (by rfl) h
    | true =>
      rw [q1, Bool.true_and] at h
      refine if_t (by rfl) ?_
      cases q2 : decide (1 < ((w.count 0 : Int) * (w.count 1 : Int) + leadF w 0 1) / 2) with
      | false =>
        rw [q2, Bool.false_and] at h
        exact if_f (by rfl) h
      | true =>
        rw [q2, Bool.true_and] at h
        refine if_t (by rfl) ?_
        exact ⟨cmulw (by omega) (by omega), h⟩
end
end LW

namespace LW
open PySem PySem.Spec PyProof.Rows L2 DL
section
variable {K : PySem.W.Frag}
theorem sort_length {w v : List Int} (h : sortI w = sortI v) : w.length = v.length := by
  have a := (sortI_perm w).length_eq
  have b := (sortI_perm v).length_eq
  rw [← a, ← b, h]
theorem take_one {w : List Int} {s : Nat} (h : s < w.length) : w.take (s + 1) = w.take s ++ [w.getD s 0] := by
  rw [List.take_succ, List.getD_eq_getElem?_getD, List.getElem?_eq_getElem h]
  rfl
theorem take_two (w : List Int) {s : Nat} (h : s < w.length) (z : Int) : (w.take (s + 1)).count z = (w.take s).count z + if w.getD s 0 = z then 1 else 0 := by
  rw [take_one h, List.count_append, List.count_singleton]
  by_cases c : w.getD s 0 = z
  · rw [if_pos c, if_pos (by simpa using c)]
  · rw [if_neg c, if_neg (by simpa using c)]
theorem turn_iff {w two : List Int} {lo : Int} {s : Nat} (G : GoodW 2 w) (hs : sortI w = sortI two) (h : s + 1 < w.length) (hlo : lo = 0 ∨ lo = 1) (h0 : w.getD s 0 = lo) (h1 : w.getD (s + 1) 0 ≠ lo) :
    (w.take s).count 0 < two.count 0 ∧ (w.take s).count 1 < two.count 1 ∧ (decide (posF two 1 ((w.take s).count 1) < posF two 0 ((w.take s).count 0)) = decide (lo = 0) ↔ turnAt two lo w s) := by
  have l2 := let2 G h
  have g1 := goals_at (w := w) (two := two) (p := s) (by omega)
  have g2 := goals_at (w := w) (two := two) (p := s + 1) h
  have k1 := take_count_lt (w := w) (p := s) (by omega)
  have k2 := take_count_lt (w := w) (p := s + 1) h
  have e0 : (w.take (s + 1)).count (w.getD (s + 1) 0) = (w.take s).count (w.getD (s + 1) 0) := by
    have := take_two w (s := s) (by omega) (w.getD (s + 1) 0)
    rw [h0, if_neg (fun z => h1 z.symm)] at this
    exact this
  have s0 := sort_count hs 0
  have s1 := sort_count hs 1
  rw [h0] at g1 k1
  rw [e0] at g2 k2
  have key : ∀ i j x y, i ≠ j → x < two.count i → y < two.count j → posF two i x ≠ posF two j y := fun i j x y hij hx hy z => by
    obtain ⟨p, p1, p2, p3, _⟩ := posF_inv hx
    obtain ⟨q, q1, q2, q3, _⟩ := posF_inv hy
    have : p = q := by omega
    subst this
    exact hij (p3.symm.trans q3)
  unfold turnAt
  rcases hlo with rfl | rfl
  · have e1 : w.getD (s + 1) 0 = 1 := by omega
    rw [e1] at g2 k2 ⊢
    rw [h0]
    rw [g1, g2]
    refine ⟨by omega, by omega, ?_⟩
    constructor
    · intro z
      refine ⟨h, rfl, by decide, ?_⟩
      simpa using z
    · rintro ⟨_, _, _, z⟩
      simpa using z
  · have e1 : w.getD (s + 1) 0 = 0 := by omega
    rw [e1] at g2 k2 ⊢
    rw [h0]
    rw [g1, g2]
    have kk := key 0 1 ((w.take s).count 0) ((w.take s).count 1) (by decide) (by omega) (by omega)
    refine ⟨by omega, by omega, ?_⟩
    constructor
    · intro z
      refine ⟨h, rfl, by decide, ?_⟩
      have z' : ¬ posF two 1 ((w.take s).count 1) < posF two 0 ((w.take s).count 0) := by simpa using z
      omega
    · rintro ⟨_, _, _, z⟩
      have z' : ¬ posF two 1 ((w.take s).count 1) < posF two 0 ((w.take s).count 0) := by omega
      simpa using z'
theorem atI_places {two : List Int} {i : Int} {x : Nat} (h : x < two.count i) : atI (iD (placesOf two i)) ((x : Nat) : Int) = some (.int (posF two i x)) := atI_iD (by rw [placesOf_len]; exact h)
theorem b_turned_towards : ∀ d0 d1 d2 M Q E, sp_turned_towards K [d0, d1, d2] M Q E → g_turned_towards K { nx := fun _ M => Q .non M, rt := Q, ex := fun x _ M => E x M } [some d0, some d1, some d2, none, none, none, none, none] M := by
  rintro d0 d1 d2 M Q E ⟨w, two, lo, rfl, rfl, rfl, hlo, G, hs, q⟩
  have hl := G.2.2.1
  have hl2 : two.length = w.length := (sort_length hs).symm
  unfold g_turned_towards
  dsimp only [q_op, q_un, q_var, q_c, q_nil, q_cons, q_tup, q_frz, q_cel, q_lst, q_test, q_onB, q_and, q_or, q_not, q_andV, q_orV, q_notV, q_if, q_chain, q_next, q_seq, q_drop, q_ret, q_retF, q_retN, q_sif, q_break, q_cont, q_name, q_dnil, q_dcons, q_dtup, q_asg, q_set, q_par, q_for, q_range1, q_range2, q_iseq, q_ienum, q_call, q_cb, q_ncb, q_nop, q_lenset, q_mt, q_mt0, q_setix, q_augs, q_aug, q_nsl, q_onone, q_osome, q_gsl, q_raise, q_raiseF, q_try, q_lc, q_lc2, q_yes, q_wipe0, q_wipe, q_xf, q_I, q_I0, q_U, q_add, q_addT, q_addL, q_addR, q_onL, q_onSt, q_onSl, q_onSs, q_onSrct, q_onSrcl, q_eqI, q_eqB, q_eqS, q_eqN, q_isN, q_ix, q_ixL, q_in, q_len, q_sum, q_max, q_min, q_max2, q_min2, q_abs, q_int, q_tupof, q_lstof, q_sort, q_rep, q_cat, q_isi, q_isis, q_setat, q_onC, q_append, q_pop, q_popAt, q_reverse, q_insert, q_sp1, q_sp2, q_sp3, q_sp4, q_at0, q_atS, q_st0, q_stS, q_iteT, q_iteF, q_isB, q_gCntT, sp_places_of, sp_exchanged]
  refine ⟨two, 0, RowD.tup, rfl, by omega, two, 1, RowD.tup, rfl, by omega, ?_⟩
  (try dsimp only [q_op, q_un, q_var, q_c, q_nil, q_cons, q_tup, q_frz, q_cel, q_lst, q_test, q_onB, q_and, q_or, q_not, q_andV, q_orV, q_notV, q_if, q_chain, q_next, q_seq, q_drop, q_ret, q_retF, q_retN, q_sif, q_break, q_cont, q_name, q_dnil, q_dcons, q_dtup, q_asg, q_set, q_par, q_for, q_range1, q_range2, q_iseq, q_ienum, q_call, q_cb, q_ncb, q_nop, q_lenset, q_mt, q_mt0, q_setix, q_augs, q_aug, q_nsl, q_onone, q_osome, q_gsl, q_raise, q_raiseF, q_try, q_lc, q_lc2, q_yes, q_wipe0, q_wipe, q_xf, q_I, q_I0, q_U, q_add, q_addT, q_addL, q_addR, q_onL, q_onSt, q_onSl, q_onSs, q_onSrct, q_onSrcl, q_eqI, q_eqB, q_eqS, q_eqN, q_isN, q_ix, q_ixL, q_in, q_len, q_sum, q_max, q_min, q_max2, q_min2, q_abs, q_int, q_tupof, q_lstof, q_sort, q_rep, q_cat, q_isi, q_isis, q_setat, q_onC, q_append, q_pop, q_popAt, q_reverse, q_insert, q_sp1, q_sp2, q_sp3, q_sp4, q_at0, q_atS, q_st0, q_stS, q_iteT, q_iteF, q_isB, q_gCntT])
  refine ⟨by rw [sz]; decide, fun p hp => ?_⟩
  have t0 : TabAt M (mset M p (.lst (iD [0, 0]))) [p] [iD [0, 0]] := TabAt.nil.push hp
  have e : (((iD w).length : Int) - 1).toNat = w.length - 1 := by rw [List.length_map]; omega
  refine ⟨⟨by omega, by rw [List.length_map]; omega⟩, ?_⟩
  rw [e]
  refine loop_rg0 (fun s ρ M' => (∃ a b, ρ = [some (.tup (iD w)), some (.tup (iD two)), some (.int lo), some (.lst (iD (placesOf two 0))), some (.lst (iD (placesOf two 1))), some (.ref p), a, b]) ∧
    TabAt M M' [p] [iD [((w.take s).count 0 : Nat), ((w.take s).count 1 : Nat)]] ∧ ∀ a < s, ¬ turnAt two lo w a) ?_ ?_ ⟨⟨_, _, rfl⟩, t0, fun a h => absurd h (Nat.not_lt_zero _)⟩
  · rintro s ρ M' hsl ⟨⟨a, b, rfl⟩, t, hno⟩ Nx hN
    have hM := tab_one t
    have hs1 : s + 1 < w.length := by omega
    have l1 := let2 G (show s < w.length by omega)
    have e0 := take_two w (s := s) (by omega) 0
    have e1 := take_two w (s := s) (by omega) 1
    (try dsimp only [q_op, q_un, q_var, q_c, q_nil, q_cons, q_tup, q_frz, q_cel, q_lst, q_test, q_onB, q_and, q_or, q_not, q_andV, q_orV, q_notV, q_if, q_chain, q_next, q_seq, q_drop, q_ret, q_retF, q_retN, q_sif, q_break, q_cont, q_name, q_dnil, q_dcons, q_dtup, q_asg, q_set, q_par, q_for, q_range1, q_range2, q_iseq, q_ienum, q_call, q_cb, q_ncb, q_nop, q_lenset, q_mt, q_mt0, q_setix, q_augs, q_aug, q_nsl, q_onone, q_osome, q_gsl, q_raise, q_raiseF, q_try, q_lc, q_lc2, q_yes, q_wipe0, q_wipe, q_xf, q_I, q_I0, q_U, q_add, q_addT, q_addL, q_addR, q_onL, q_onSt, q_onSl, q_onSs, q_onSrct, q_onSrcl, q_eqI, q_eqB, q_eqS, q_eqN, q_isN, q_ix, q_ixL, q_in, q_len, q_sum, q_max, q_min, q_max2, q_min2, q_abs, q_int, q_tupof, q_lstof, q_sort, q_rep, q_cat, q_isi, q_isis, q_setat, q_onC, q_append, q_pop, q_popAt, q_reverse, q_insert, q_sp1, q_sp2, q_sp3, q_sp4, q_at0, q_atS, q_st0, q_stS, q_iteT, q_iteF, q_isB, q_gCntT])
    refine ⟨_, atI_iD (by omega), ?_⟩
    (try dsimp only [q_op, q_un, q_var, q_c, q_nil, q_cons, q_tup, q_frz, q_cel, q_lst, q_test, q_onB, q_and, q_or, q_not, q_andV, q_orV, q_notV, q_if, q_chain, q_next, q_seq, q_drop, q_ret, q_retF, q_retN, q_sif, q_break, q_cont, q_name, q_dnil, q_dcons, q_dtup, q_asg, q_set, q_par, q_for, q_range1, q_range2, q_iseq, q_ienum, q_call, q_cb, q_ncb, q_nop, q_lenset, q_mt, q_mt0, q_setix, q_augs, q_aug, q_nsl, q_onone, q_osome, q_gsl, q_raise, q_raiseF, q_try, q_lc, q_lc2, q_yes, q_wipe0, q_wipe, q_xf, q_I, q_I0, q_U, q_add, q_addT, q_addL, q_addR, q_onL, q_onSt, q_onSl, q_onSs, q_onSrct, q_onSrcl, q_eqI, q_eqB, q_eqS, q_eqN, q_isN, q_ix, q_ixL, q_in, q_len, q_sum, q_max, q_min, q_max2, q_min2, q_abs, q_int, q_tupof, q_lstof, q_sort, q_rep, q_cat, q_isi, q_isis, q_setat, q_onC, q_append, q_pop, q_popAt, q_reverse, q_insert, q_sp1, q_sp2, q_sp3, q_sp4, q_at0, q_atS, q_st0, q_stS, q_iteT, q_iteF, q_isB, q_gCntT])
    by_cases ht : turnAt two lo w s
    · obtain ⟨f1, f2, f3⟩ := turn_iff G hs hs1 hlo ht.2.1 ht.2.2.1
      refine if_t (by simpa using ht.2.1) ⟨_, atI_iD hs1, ?_⟩
      (try dsimp only [q_op, q_un, q_var, q_c, q_nil, q_cons, q_tup, q_frz, q_cel, q_lst, q_test, q_onB, q_and, q_or, q_not, q_andV, q_orV, q_notV, q_if, q_chain, q_next, q_seq, q_drop, q_ret, q_retF, q_retN, q_sif, q_break, q_cont, q_name, q_dnil, q_dcons, q_dtup, q_asg, q_set, q_par, q_for, q_range1, q_range2, q_iseq, q_ienum, q_call, q_cb, q_ncb, q_nop, q_lenset, q_mt, q_mt0, q_setix, q_augs, q_aug, q_nsl, q_onone, q_osome, q_gsl, q_raise, q_raiseF, q_try, q_lc, q_lc2, q_yes, q_wipe0, q_wipe, q_xf, q_I, q_I0, q_U, q_add, q_addT, q_addL, q_addR, q_onL, q_onSt, q_onSl, q_onSs, q_onSrct, q_onSrcl, q_eqI, q_eqB, q_eqS, q_eqN, q_isN, q_ix, q_ixL, q_in, q_len, q_sum, q_max, q_min, q_max2, q_min2, q_abs, q_int, q_tupof, q_lstof, q_sort, q_rep, q_cat, q_isi, q_isis, q_setat, q_onC, q_append, q_pop, q_popAt, q_reverse, q_insert, q_sp1, q_sp2, q_sp3, q_sp4, q_at0, q_atS, q_st0, q_stS, q_iteT, q_iteF, q_isB, q_gCntT])
      refine if_t (by simpa using ht.2.2.1) (RowD.onS (RowD.ref hM) ⟨_, rfl, ?_⟩)
      (try dsimp only [q_op, q_un, q_var, q_c, q_nil, q_cons, q_tup, q_frz, q_cel, q_lst, q_test, q_onB, q_and, q_or, q_not, q_andV, q_orV, q_notV, q_if, q_chain, q_next, q_seq, q_drop, q_ret, q_retF, q_retN, q_sif, q_break, q_cont, q_name, q_dnil, q_dcons, q_dtup, q_asg, q_set, q_par, q_for, q_range1, q_range2, q_iseq, q_ienum, q_call, q_cb, q_ncb, q_nop, q_lenset, q_mt, q_mt0, q_setix, q_augs, q_aug, q_nsl, q_onone, q_osome, q_gsl, q_raise, q_raiseF, q_try, q_lc, q_lc2, q_yes, q_wipe0, q_wipe, q_xf, q_I, q_I0, q_U, q_add, q_addT, q_addL, q_addR, q_onL, q_onSt, q_onSl, q_onSs, q_onSrct, q_onSrcl, q_eqI, q_eqB, q_eqS, q_eqN, q_isN, q_ix, q_ixL, q_in, q_len, q_sum, q_max, q_min, q_max2, q_min2, q_abs, q_int, q_tupof, q_lstof, q_sort, q_rep, q_cat, q_isi, q_isis, q_setat, q_onC, q_append, q_pop, q_popAt, q_reverse, q_insert, q_sp1, q_sp2, q_sp3, q_sp4, q_at0, q_atS, q_st0, q_stS, q_iteT, q_iteF, q_isB, q_gCntT])
      refine ⟨_, atI_places f1, RowD.onS (RowD.ref hM) ⟨_, rfl, ?_⟩⟩
      (try dsimp only [q_op, q_un, q_var, q_c, q_nil, q_cons, q_tup, q_frz, q_cel, q_lst, q_test, q_onB, q_and, q_or, q_not, q_andV, q_orV, q_notV, q_if, q_chain, q_next, q_seq, q_drop, q_ret, q_retF, q_retN, q_sif, q_break, q_cont, q_name, q_dnil, q_dcons, q_dtup, q_asg, q_set, q_par, q_for, q_range1, q_range2, q_iseq, q_ienum, q_call, q_cb, q_ncb, q_nop, q_lenset, q_mt, q_mt0, q_setix, q_augs, q_aug, q_nsl, q_onone, q_osome, q_gsl, q_raise, q_raiseF, q_try, q_lc, q_lc2, q_yes, q_wipe0, q_wipe, q_xf, q_I, q_I0, q_U, q_add, q_addT, q_addL, q_addR, q_onL, q_onSt, q_onSl, q_onSs, q_onSrct, q_onSrcl, q_eqI, q_eqB, q_eqS, q_eqN, q_isN, q_ix, q_ixL, q_in, q_len, q_sum, q_max, q_min, q_max2, q_min2, q_abs, q_int, q_tupof, q_lstof, q_sort, q_rep, q_cat, q_isi, q_isis, q_setat, q_onC, q_append, q_pop, q_popAt, q_reverse, q_insert, q_sp1, q_sp2, q_sp3, q_sp4, q_at0, q_atS, q_st0, q_stS, q_iteT, q_iteF, q_isB, q_gCntT])
      refine ⟨_, atI_places f2, ?_⟩
      (try dsimp only [q_op, q_un, q_var, q_c, q_nil, q_cons, q_tup, q_frz, q_cel, q_lst, q_test, q_onB, q_and, q_or, q_not, q_andV, q_orV, q_notV, q_if, q_chain, q_next, q_seq, q_drop, q_ret, q_retF, q_retN, q_sif, q_break, q_cont, q_name, q_dnil, q_dcons, q_dtup, q_asg, q_set, q_par, q_for, q_range1, q_range2, q_iseq, q_ienum, q_call, q_cb, q_ncb, q_nop, q_lenset, q_mt, q_mt0, q_setix, q_augs, q_aug, q_nsl, q_onone, q_osome, q_gsl, q_raise, q_raiseF, q_try, q_lc, q_lc2, q_yes, q_wipe0, q_wipe, q_xf, q_I, q_I0, q_U, q_add, q_addT, q_addL, q_addR, q_onL, q_onSt, q_onSl, q_onSs, q_onSrct, q_onSrcl, q_eqI, q_eqB, q_eqS, q_eqN, q_isN, q_ix, q_ixL, q_in, q_len, q_sum, q_max, q_min, q_max2, q_min2, q_abs, q_int, q_tupof, q_lstof, q_sort, q_rep, q_cat, q_isi, q_isis, q_setat, q_onC, q_append, q_pop, q_popAt, q_reverse, q_insert, q_sp1, q_sp2, q_sp3, q_sp4, q_at0, q_atS, q_st0, q_stS, q_iteT, q_iteF, q_isB, q_gCntT])
      refine if_t (by simpa using f3.mpr ht) ⟨w, s, rfl, rfl, hs1, hl, ?_⟩
      exact ret_drop t.up (q _ (.inl ⟨s, ht, rfl⟩))
    refine and_skip ?_ (fun hc hR => ?_) (fun hR => if_f (by rfl) hR)
    · have hno' : ∀ a, a < s + 1 → ¬ turnAt two lo w a := fun a ha => by
        by_cases z : a = s
        · rw [z]; exact ht
        · exact hno a (by omega)
      refine RowD.onS (RowD.ref hM) ?_
      rcases l1 with l1 | l1
      · rw [l1] at e0 e1 ⊢
        refine ⟨_, rfl, ?_⟩
        (try dsimp only [q_op, q_un, q_var, q_c, q_nil, q_cons, q_tup, q_frz, q_cel, q_lst, q_test, q_onB, q_and, q_or, q_not, q_andV, q_orV, q_notV, q_if, q_chain, q_next, q_seq, q_drop, q_ret, q_retF, q_retN, q_sif, q_break, q_cont, q_name, q_dnil, q_dcons, q_dtup, q_asg, q_set, q_par, q_for, q_range1, q_range2, q_iseq, q_ienum, q_call, q_cb, q_ncb, q_nop, q_lenset, q_mt, q_mt0, q_setix, q_augs, q_aug, q_nsl, q_onone, q_osome, q_gsl, q_raise, q_raiseF, q_try, q_lc, q_lc2, q_yes, q_wipe0, q_wipe, q_xf, q_I, q_I0, q_U, q_add, q_addT, q_addL, q_addR, q_onL, q_onSt, q_onSl, q_onSs, q_onSrct, q_onSrcl, q_eqI, q_eqB, q_eqS, q_eqN, q_isN, q_ix, q_ixL, q_in, q_len, q_sum, q_max, q_min, q_max2, q_min2, q_abs, q_int, q_tupof, q_lstof, q_sort, q_rep, q_cat, q_isi, q_isis, q_setat, q_onC, q_append, q_pop, q_popAt, q_reverse, q_insert, q_sp1, q_sp2, q_sp3, q_sp4, q_at0, q_atS, q_st0, q_stS, q_iteT, q_iteF, q_isB, q_gCntT])
        refine ⟨_, hM, 0, rfl, hN _ _ ⟨⟨_, _, rfl⟩, ?_, hno'⟩⟩
        have t2 := t.set (r := iD [((w.take (s + 1)).count 0 : Nat), ((w.take (s + 1)).count 1 : Nat)]) (i := 0) (p := p) rfl
        rw [e0, e1] at t2 ⊢
        exact t2
      · rw [l1] at e0 e1 ⊢
        refine ⟨_, rfl, ?_⟩
        (try dsimp only [q_op, q_un, q_var, q_c, q_nil, q_cons, q_tup, q_frz, q_cel, q_lst, q_test, q_onB, q_and, q_or, q_not, q_andV, q_orV, q_notV, q_if, q_chain, q_next, q_seq, q_drop, q_ret, q_retF, q_retN, q_sif, q_break, q_cont, q_name, q_dnil, q_dcons, q_dtup, q_asg, q_set, q_par, q_for, q_range1, q_range2, q_iseq, q_ienum, q_call, q_cb, q_ncb, q_nop, q_lenset, q_mt, q_mt0, q_setix, q_augs, q_aug, q_nsl, q_onone, q_osome, q_gsl, q_raise, q_raiseF, q_try, q_lc, q_lc2, q_yes, q_wipe0, q_wipe, q_xf, q_I, q_I0, q_U, q_add, q_addT, q_addL, q_addR, q_onL, q_onSt, q_onSl, q_onSs, q_onSrct, q_onSrcl, q_eqI, q_eqB, q_eqS, q_eqN, q_isN, q_ix, q_ixL, q_in, q_len, q_sum, q_max, q_min, q_max2, q_min2, q_abs, q_int, q_tupof, q_lstof, q_sort, q_rep, q_cat, q_isi, q_isis, q_setat, q_onC, q_append, q_pop, q_popAt, q_reverse, q_insert, q_sp1, q_sp2, q_sp3, q_sp4, q_at0, q_atS, q_st0, q_stS, q_iteT, q_iteF, q_isB, q_gCntT])
        refine ⟨_, hM, 1, rfl, hN _ _ ⟨⟨_, _, rfl⟩, ?_, hno'⟩⟩
        have t2 := t.set (r := iD [((w.take (s + 1)).count 0 : Nat), ((w.take (s + 1)).count 1 : Nat)]) (i := 0) (p := p) rfl
        rw [e0, e1] at t2 ⊢
        exact t2
    · refine ⟨_, atI_iD hs1, ?_⟩
      (try dsimp only [q_op, q_un, q_var, q_c, q_nil, q_cons, q_tup, q_frz, q_cel, q_lst, q_test, q_onB, q_and, q_or, q_not, q_andV, q_orV, q_notV, q_if, q_chain, q_next, q_seq, q_drop, q_ret, q_retF, q_retN, q_sif, q_break, q_cont, q_name, q_dnil, q_dcons, q_dtup, q_asg, q_set, q_par, q_for, q_range1, q_range2, q_iseq, q_ienum, q_call, q_cb, q_ncb, q_nop, q_lenset, q_mt, q_mt0, q_setix, q_augs, q_aug, q_nsl, q_onone, q_osome, q_gsl, q_raise, q_raiseF, q_try, q_lc, q_lc2, q_yes, q_wipe0, q_wipe, q_xf, q_I, q_I0, q_U, q_add, q_addT, q_addL, q_addR, q_onL, q_onSt, q_onSl, q_onSs, q_onSrct, q_onSrcl, q_eqI, q_eqB, q_eqS, q_eqN, q_isN, q_ix, q_ixL, q_in, q_len, q_sum, q_max, q_min, q_max2, q_min2, q_abs, q_int, q_tupof, q_lstof, q_sort, q_rep, q_cat, q_isi, q_isis, q_setat, q_onC, q_append, q_pop, q_popAt, q_reverse, q_insert, q_sp1, q_sp2, q_sp3, q_sp4, q_at0, q_atS, q_st0, q_stS, q_iteT, q_iteF, q_isB, q_gCntT])
      refine and_skip hR (fun hd hR => ?_) (fun hR => hR)
      obtain ⟨f1, f2, f3⟩ := turn_iff G hs hs1 hlo (by simpa using hc) (by simpa using hd)
      refine RowD.onS (RowD.ref hM) ⟨_, rfl, ?_⟩
      (try dsimp only [q_op, q_un, q_var, q_c, q_nil, q_cons, q_tup, q_frz, q_cel, q_lst, q_test, q_onB, q_and, q_or, q_not, q_andV, q_orV, q_notV, q_if, q_chain, q_next, q_seq, q_drop, q_ret, q_retF, q_retN, q_sif, q_break, q_cont, q_name, q_dnil, q_dcons, q_dtup, q_asg, q_set, q_par, q_for, q_range1, q_range2, q_iseq, q_ienum, q_call, q_cb, q_ncb, q_nop, q_lenset, q_mt, q_mt0, q_setix, q_augs, q_aug, q_nsl, q_onone, q_osome, q_gsl, q_raise, q_raiseF, q_try, q_lc, q_lc2, q_yes, q_wipe0, q_wipe, q_xf, q_I, q_I0, q_U, q_add, q_addT, q_addL, q_addR, q_onL, q_onSt, q_onSl, q_onSs, q_onSrct, q_onSrcl, q_eqI, q_eqB, q_eqS, q_eqN, q_isN, q_ix, q_ixL, q_in, q_len, q_sum, q_max, q_min, q_max2, q_min2, q_abs, q_int, q_tupof, q_lstof, q_sort, q_rep, q_cat, q_isi, q_isis, q_setat, q_onC, q_append, q_pop, q_popAt, q_reverse, q_insert, q_sp1, q_sp2, q_sp3, q_sp4, q_at0, q_atS, q_st0, q_stS, q_iteT, q_iteF, q_isB, q_gCntT])
      refine ⟨_, atI_places f1, RowD.onS (RowD.ref hM) ⟨_, rfl, ?_⟩⟩
      (try dsimp only [q_op, q_un, q_var, q_c, q_nil, q_cons, q_tup, q_frz, q_cel, q_lst, q_test, q_onB, q_and, q_or, q_not, q_andV, q_orV, q_notV, q_if, q_chain, q_next, q_seq, q_drop, q_ret, q_retF, q_retN, q_sif, q_break, q_cont, q_name, q_dnil, q_dcons, q_dtup, q_asg, q_set, q_par, q_for, q_range1, q_range2, q_iseq, q_ienum, q_call, q_cb, q_ncb, q_nop, q_lenset, q_mt, q_mt0, q_setix, q_augs, q_aug, q_nsl, q_onone, q_osome, q_gsl, q_raise, q_raiseF, q_try, q_lc, q_lc2, q_yes, q_wipe0, q_wipe, q_xf, q_I, q_I0, q_U, q_add, q_addT, q_addL, q_addR, q_onL, q_onSt, q_onSl, q_onSs, q_onSrct, q_onSrcl, q_eqI, q_eqB, q_eqS, q_eqN, q_isN, q_ix, q_ixL, q_in, q_len, q_sum, q_max, q_min, q_max2, q_min2, q_abs, q_int, q_tupof, q_lstof, q_sort, q_rep, q_cat, q_isi, q_isis, q_setat, q_onC, q_append, q_pop, q_popAt, q_reverse, q_insert, q_sp1, q_sp2, q_sp3, q_sp4, q_at0, q_atS, q_st0, q_stS, q_iteT, q_iteF, q_isB, q_gCntT])
      refine ⟨_, atI_places f2, ?_⟩
      (try dsimp only [q_op, q_un, q_var, q_c, q_nil, q_cons, q_tup, q_frz, q_cel, q_lst, q_test, q_onB, q_and, q_or, q_not, q_andV, q_orV, q_notV, q_if, q_chain, q_next, q_seq, q_drop, q_ret, q_retF, q_retN, q_sif, q_break, q_cont, q_name, q_dnil, q_dcons, q_dtup, q_asg, q_set, q_par, q_for, q_range1, q_range2, q_iseq, q_ienum, q_call, q_cb, q_ncb, q_nop, q_lenset, q_mt, q_mt0, q_setix, q_augs, q_aug, q_nsl, q_onone, q_osome, q_gsl, q_raise, q_raiseF, q_try, q_lc, q_lc2, q_yes, q_wipe0, q_wipe, q_xf, q_I, q_I0, q_U, q_add, q_addT, q_addL, q_addR, q_onL, q_onSt, q_onSl, q_onSs, q_onSrct, q_onSrcl, q_eqI, q_eqB, q_eqS, q_eqN, q_isN, q_ix, q_ixL, q_in, q_len, q_sum, q_max, q_min, q_max2, q_min2, q_abs, q_int, q_tupof, q_lstof, q_sort, q_rep, q_cat, q_isi, q_isis, q_setat, q_onC, q_append, q_pop, q_popAt, q_reverse, q_insert, q_sp1, q_sp2, q_sp3, q_sp4, q_at0, q_atS, q_st0, q_stS, q_iteT, q_iteF, q_isB, q_gCntT])
      exact if_f (by simpa using fun z => ht (f3.mp (by simpa using z))) hR
  · rintro ρ M' ⟨⟨a, b, rfl⟩, t, hno⟩
    (try dsimp only [q_op, q_un, q_var, q_c, q_nil, q_cons, q_tup, q_frz, q_cel, q_lst, q_test, q_onB, q_and, q_or, q_not, q_andV, q_orV, q_notV, q_if, q_chain, q_next, q_seq, q_drop, q_ret, q_retF, q_retN, q_sif, q_break, q_cont, q_name, q_dnil, q_dcons, q_dtup, q_asg, q_set, q_par, q_for, q_range1, q_range2, q_iseq, q_ienum, q_call, q_cb, q_ncb, q_nop, q_lenset, q_mt, q_mt0, q_setix, q_augs, q_aug, q_nsl, q_onone, q_osome, q_gsl, q_raise, q_raiseF, q_try, q_lc, q_lc2, q_yes, q_wipe0, q_wipe, q_xf, q_I, q_I0, q_U, q_add, q_addT, q_addL, q_addR, q_onL, q_onSt, q_onSl, q_onSs, q_onSrct, q_onSrcl, q_eqI, q_eqB, q_eqS, q_eqN, q_isN, q_ix, q_ixL, q_in, q_len, q_sum, q_max, q_min, q_max2, q_min2, q_abs, q_int, q_tupof, q_lstof, q_sort, q_rep, q_cat, q_isi, q_isis, q_setat, q_onC, q_append, q_pop, q_popAt, q_reverse, q_insert, q_sp1, q_sp2, q_sp3, q_sp4, q_at0, q_atS, q_st0, q_stS, q_iteT, q_iteF, q_isB, q_gCntT])
    refine ret_drop t.up (q w (.inr ⟨fun a ha => ?_, rfl⟩))
    exact hno a (by have := ha.1; omega) ha
end
end LW

namespace LW
open PySem PySem.Spec PyProof.Rows L2 DL
section
variable {K : PySem.W.Frag}
theorem rg0 (n : Nat) : rgD 0 n = (List.range n).map fun k => D.int ((k : Nat) : Int) := by
  unfold rgD
  simp
def rowB (w : List Int) (k : Int) : List D := (placesOf w 1).map fun q => .bl (decide (k < q))
def gridD (w : List Int) (s : Nat) : List D := (List.range s).filterMap fun k => if w.getD k 0 = 0 then some (D.lst (rowB w (k : Nat))) else none
theorem gridD_succ (w : List Int) (s : Nat) : gridD w (s + 1) = gridD w s ++ (if w.getD s 0 = 0 then [D.lst (rowB w (s : Nat))] else []) := by
  unfold gridD
  rw [List.range_succ, List.filterMap_append]
  by_cases c : w.getD s 0 = 0
  · rw [if_pos c, List.filterMap_cons_some (by rw [if_pos c])]
    rfl
  · rw [if_neg c, List.filterMap_cons_none (by rw [if_neg c])]
    rfl
theorem gridD_len (w : List Int) (s : Nat) : (gridD w s).length ≤ s := by
  unfold gridD
  have := List.length_filterMap_le (fun k => if w.getD k 0 = 0 then some (D.lst (rowB w (k : Nat))) else none) (List.range s)
  simpa using this
theorem gridD_end (w : List Int) : gridD w w.length = (gridF w).map fun r => .lst (r.map D.bl) := by
  unfold gridD gridF
  rw [← places_range w 0, List.map_map, List.map_filterMap]
  congr 1
  funext k
  by_cases c : w.getD k 0 = 0
  · rw [if_pos c, if_pos c]
    unfold rowB
    show some _ = some _
    simp only [Function.comp, List.map_map]
    rfl
  · rw [if_neg c, if_neg c]
    rfl
theorem rowB_range (w : List Int) (s : Int) : ((List.range w.length).filterMap fun k => if w.getD k 0 = 1 then some (D.bl (decide (s < ((k : Nat) : Int)))) else none) = rowB w s := by
  unfold rowB
  rw [← places_range w 1, List.map_filterMap]
  congr 1
  funext k
  by_cases c : w.getD k 0 = 1
  · rw [if_pos c, if_pos c]
    rfl
  · rw [if_neg c, if_neg c]
    rfl
theorem b__law_grid : ∀ d0 M Q E, sp__law_grid K [d0] M Q E → g__law_grid K { nx := fun _ M => Q .non M, rt := Q, ex := fun x _ M => E x M } [some d0, none, none, none] M := by
  rintro d0 M Q E ⟨w, hr, hl, q⟩
  unfold g__law_grid
  dsimp only [q_op, q_un, q_var, q_c, q_nil, q_cons, q_tup, q_frz, q_cel, q_lst, q_test, q_onB, q_and, q_or, q_not, q_andV, q_orV, q_notV, q_if, q_chain, q_next, q_seq, q_drop, q_ret, q_retF, q_retN, q_sif, q_break, q_cont, q_name, q_dnil, q_dcons, q_dtup, q_asg, q_set, q_par, q_for, q_range1, q_range2, q_iseq, q_ienum, q_call, q_cb, q_ncb, q_nop, q_lenset, q_mt, q_mt0, q_setix, q_augs, q_aug, q_nsl, q_onone, q_osome, q_gsl, q_raise, q_raiseF, q_try, q_lc, q_lc2, q_yes, q_wipe0, q_wipe, q_xf, q_I, q_I0, q_U, q_add, q_addT, q_addL, q_addR, q_onL, q_onSt, q_onSl, q_onSs, q_onSrct, q_onSrcl, q_eqI, q_eqB, q_eqS, q_eqN, q_isN, q_ix, q_ixL, q_in, q_len, q_sum, q_max, q_min, q_max2, q_min2, q_abs, q_int, q_tupof, q_lstof, q_sort, q_rep, q_cat, q_isi, q_isis, q_setat, q_onC, q_append, q_pop, q_popAt, q_reverse, q_insert, q_sp1, q_sp2, q_sp3, q_sp4, q_at0, q_atS, q_st0, q_stS, q_iteT, q_iteF, q_isB, q_gCntT]
  refine ⟨Nat.zero_le _, fun p hp => ?_⟩
  have hr' : RowD (mset M p (.lst [])) d0 (iD w) := (MemUp.add hp).row hr
  refine hr'.onS ⟨⟨by omega, by rw [List.length_map]; omega⟩, ?_⟩
  have e : (((iD w).length : Int)).toNat = w.length := by simp
  rw [e]
  refine loop_rg0 (fun s ρ M' => (∃ a b, ρ = [some d0, some (.ref p), a, b]) ∧ TabAt M M' [p] [gridD w s]) ?_ ?_ ⟨⟨_, _, rfl⟩, TabAt.nil.push hp⟩
  · rintro s ρ M' hsl ⟨⟨a, b, rfl⟩, t⟩ Nx hN
    have hM := tab_one t
    have hr2 : RowD M' d0 (iD w) := t.up.row hr
    have hg := gridD_len w s
    have t2 := t.set (r := gridD w (s + 1)) (i := 0) (p := p) rfl
    rw [gridD_succ] at t2
    (try dsimp only [q_op, q_un, q_var, q_c, q_nil, q_cons, q_tup, q_frz, q_cel, q_lst, q_test, q_onB, q_and, q_or, q_not, q_andV, q_orV, q_notV, q_if, q_chain, q_next, q_seq, q_drop, q_ret, q_retF, q_retN, q_sif, q_break, q_cont, q_name, q_dnil, q_dcons, q_dtup, q_asg, q_set, q_par, q_for, q_range1, q_range2, q_iseq, q_ienum, q_call, q_cb, q_ncb, q_nop, q_lenset, q_mt, q_mt0, q_setix, q_augs, q_aug, q_nsl, q_onone, q_osome, q_gsl, q_raise, q_raiseF, q_try, q_lc, q_lc2, q_yes, q_wipe0, q_wipe, q_xf, q_I, q_I0, q_U, q_add, q_addT, q_addL, q_addR, q_onL, q_onSt, q_onSl, q_onSs, q_onSrct, q_onSrcl, q_eqI, q_eqB, q_eqS, q_eqN, q_isN, q_ix, q_ixL, q_in, q_len, q_sum, q_max, q_min, q_max2, q_min2, q_abs, q_int, q_tupof, q_lstof, q_sort, q_rep, q_cat, q_isi, q_isis, q_setat, q_onC, q_append, q_pop, q_popAt, q_reverse, q_insert, q_sp1, q_sp2, q_sp3, q_sp4, q_at0, q_atS, q_st0, q_stS, q_iteT, q_iteF, q_isB, q_gCntT])
    refine hr2.onS ⟨_, atI_iD hsl, ?_⟩
    (try dsimp only [q_op, q_un, q_var, q_c, q_nil, q_cons, q_tup, q_frz, q_cel, q_lst, q_test, q_onB, q_and, q_or, q_not, q_andV, q_orV, q_notV, q_if, q_chain, q_next, q_seq, q_drop, q_ret, q_retF, q_retN, q_sif, q_break, q_cont, q_name, q_dnil, q_dcons, q_dtup, q_asg, q_set, q_par, q_for, q_range1, q_range2, q_iseq, q_ienum, q_call, q_cb, q_ncb, q_nop, q_lenset, q_mt, q_mt0, q_setix, q_augs, q_aug, q_nsl, q_onone, q_osome, q_gsl, q_raise, q_raiseF, q_try, q_lc, q_lc2, q_yes, q_wipe0, q_wipe, q_xf, q_I, q_I0, q_U, q_add, q_addT, q_addL, q_addR, q_onL, q_onSt, q_onSl, q_onSs, q_onSrct, q_onSrcl, q_eqI, q_eqB, q_eqS, q_eqN, q_isN, q_ix, q_ixL, q_in, q_len, q_sum, q_max, q_min, q_max2, q_min2, q_abs, q_int, q_tupof, q_lstof, q_sort, q_rep, q_cat, q_isi, q_isis, q_setat, q_onC, q_append, q_pop, q_popAt, q_reverse, q_insert, q_sp1, q_sp2, q_sp3, q_sp4, q_at0, q_atS, q_st0, q_stS, q_iteT, q_iteF, q_isB, q_gCntT])
    by_cases c : w.getD s 0 = 0
    · rw [if_pos c] at t2
      refine if_t (by simpa using c) ⟨onL_ref hM trivial, hr2.onS ⟨⟨by omega, by rw [List.length_map]; omega⟩, ?_⟩⟩
      rw [e, rg0]
      refine lc_still (fun k : Nat => D.int ((k : Nat) : Int)) (fun k => if w.getD k 0 = 1 then some (.bl (decide ((s : Int) < ((k : Nat) : Int)))) else none) trivial _ [] (fun k hk N acc hz hK => ?_) (by rw [sz]; simp; omega) ?_
      · have hk' : k < w.length := by simpa using hk
        (try dsimp only [q_op, q_un, q_var, q_c, q_nil, q_cons, q_tup, q_frz, q_cel, q_lst, q_test, q_onB, q_and, q_or, q_not, q_andV, q_orV, q_notV, q_if, q_chain, q_next, q_seq, q_drop, q_ret, q_retF, q_retN, q_sif, q_break, q_cont, q_name, q_dnil, q_dcons, q_dtup, q_asg, q_set, q_par, q_for, q_range1, q_range2, q_iseq, q_ienum, q_call, q_cb, q_ncb, q_nop, q_lenset, q_mt, q_mt0, q_setix, q_augs, q_aug, q_nsl, q_onone, q_osome, q_gsl, q_raise, q_raiseF, q_try, q_lc, q_lc2, q_yes, q_wipe0, q_wipe, q_xf, q_I, q_I0, q_U, q_add, q_addT, q_addL, q_addR, q_onL, q_onSt, q_onSl, q_onSs, q_onSrct, q_onSrcl, q_eqI, q_eqB, q_eqS, q_eqN, q_isN, q_ix, q_ixL, q_in, q_len, q_sum, q_max, q_min, q_max2, q_min2, q_abs, q_int, q_tupof, q_lstof, q_sort, q_rep, q_cat, q_isi, q_isis, q_setat, q_onC, q_append, q_pop, q_popAt, q_reverse, q_insert, q_sp1, q_sp2, q_sp3, q_sp4, q_at0, q_atS, q_st0, q_stS, q_iteT, q_iteF, q_isB, q_gCntT])
        refine hr2.onS ⟨_, atI_iD hk', ?_⟩
        (try dsimp only [q_op, q_un, q_var, q_c, q_nil, q_cons, q_tup, q_frz, q_cel, q_lst, q_test, q_onB, q_and, q_or, q_not, q_andV, q_orV, q_notV, q_if, q_chain, q_next, q_seq, q_drop, q_ret, q_retF, q_retN, q_sif, q_break, q_cont, q_name, q_dnil, q_dcons, q_dtup, q_asg, q_set, q_par, q_for, q_range1, q_range2, q_iseq, q_ienum, q_call, q_cb, q_ncb, q_nop, q_lenset, q_mt, q_mt0, q_setix, q_augs, q_aug, q_nsl, q_onone, q_osome, q_gsl, q_raise, q_raiseF, q_try, q_lc, q_lc2, q_yes, q_wipe0, q_wipe, q_xf, q_I, q_I0, q_U, q_add, q_addT, q_addL, q_addR, q_onL, q_onSt, q_onSl, q_onSs, q_onSrct, q_onSrcl, q_eqI, q_eqB, q_eqS, q_eqN, q_isN, q_ix, q_ixL, q_in, q_len, q_sum, q_max, q_min, q_max2, q_min2, q_abs, q_int, q_tupof, q_lstof, q_sort, q_rep, q_cat, q_isi, q_isis, q_setat, q_onC, q_append, q_pop, q_popAt, q_reverse, q_insert, q_sp1, q_sp2, q_sp3, q_sp4, q_at0, q_atS, q_st0, q_stS, q_iteT, q_iteF, q_isB, q_gCntT])
        by_cases c : w.getD k 0 = 1
        · rw [if_pos (by simpa using c)]
          rw [if_pos c] at hK
          exact ⟨hz, hK⟩
        · rw [if_neg (by simpa using c)]
          rw [if_neg c] at hK
          simpa using hK
      · rw [List.nil_append, rowB_range]
        (try dsimp only [q_op, q_un, q_var, q_c, q_nil, q_cons, q_tup, q_frz, q_cel, q_lst, q_test, q_onB, q_and, q_or, q_not, q_andV, q_orV, q_notV, q_if, q_chain, q_next, q_seq, q_drop, q_ret, q_retF, q_retN, q_sif, q_break, q_cont, q_name, q_dnil, q_dcons, q_dtup, q_asg, q_set, q_par, q_for, q_range1, q_range2, q_iseq, q_ienum, q_call, q_cb, q_ncb, q_nop, q_lenset, q_mt, q_mt0, q_setix, q_augs, q_aug, q_nsl, q_onone, q_osome, q_gsl, q_raise, q_raiseF, q_try, q_lc, q_lc2, q_yes, q_wipe0, q_wipe, q_xf, q_I, q_I0, q_U, q_add, q_addT, q_addL, q_addR, q_onL, q_onSt, q_onSl, q_onSs, q_onSrct, q_onSrcl, q_eqI, q_eqB, q_eqS, q_eqN, q_isN, q_ix, q_ixL, q_in, q_len, q_sum, q_max, q_min, q_max2, q_min2, q_abs, q_int, q_tupof, q_lstof, q_sort, q_rep, q_cat, q_isi, q_isis, q_setat, q_onC, q_append, q_pop, q_popAt, q_reverse, q_insert, q_sp1, q_sp2, q_sp3, q_sp4, q_at0, q_atS, q_st0, q_stS, q_iteT, q_iteF, q_isB, q_gCntT])
        refine ⟨_, hM, by rw [sz]; omega, ?_⟩
        refine hN _ _ ⟨⟨_, _, rfl⟩, ?_⟩
        rw [gridD_succ, if_pos c]
        exact t2
    · refine if_f (by simpa using c) (hN _ _ ⟨⟨_, _, rfl⟩, ?_⟩)
      rw [gridD_succ, if_neg c, List.append_nil]
      exact t
  · rintro ρ M' ⟨⟨a, b, rfl⟩, t⟩
    (try dsimp only [q_op, q_un, q_var, q_c, q_nil, q_cons, q_tup, q_frz, q_cel, q_lst, q_test, q_onB, q_and, q_or, q_not, q_andV, q_orV, q_notV, q_if, q_chain, q_next, q_seq, q_drop, q_ret, q_retF, q_retN, q_sif, q_break, q_cont, q_name, q_dnil, q_dcons, q_dtup, q_asg, q_set, q_par, q_for, q_range1, q_range2, q_iseq, q_ienum, q_call, q_cb, q_ncb, q_nop, q_lenset, q_mt, q_mt0, q_setix, q_augs, q_aug, q_nsl, q_onone, q_osome, q_gsl, q_raise, q_raiseF, q_try, q_lc, q_lc2, q_yes, q_wipe0, q_wipe, q_xf, q_I, q_I0, q_U, q_add, q_addT, q_addL, q_addR, q_onL, q_onSt, q_onSl, q_onSs, q_onSrct, q_onSrcl, q_eqI, q_eqB, q_eqS, q_eqN, q_isN, q_ix, q_ixL, q_in, q_len, q_sum, q_max, q_min, q_max2, q_min2, q_abs, q_int, q_tupof, q_lstof, q_sort, q_rep, q_cat, q_isi, q_isis, q_setat, q_onC, q_append, q_pop, q_popAt, q_reverse, q_insert, q_sp1, q_sp2, q_sp3, q_sp4, q_at0, q_atS, q_st0, q_stS, q_iteT, q_iteF, q_isB, q_gCntT])
    rw [gridD_end] at t
    exact ret_lst t.up hp (tab_one t) q
theorem list_range (l : List Int) : l = (List.range l.length).map fun x => l.getD x 0 := by
  refine List.ext_getElem (by simp) fun i h1 h2 => ?_
  rw [List.getElem_map, List.getElem_range, List.getD_eq_getElem?_getD, List.getElem?_eq_getElem h1]
  rfl
def bRow (w : List Int) (x : Nat) : List D := (List.range (w.count 1)).map fun y => .bl (aheadB w x y)
def bGrid (w : List Int) : List D := (List.range (w.count 0)).map fun x => .lst (bRow w x)
theorem grid_b (w : List Int) : ((gridF w).map fun r => D.lst (r.map D.bl)) = bGrid w := by
  unfold gridF bGrid
  have e := list_range (placesOf w 0)
  rw [placesOf_len] at e
  rw [List.map_map, e, List.map_map]
  refine List.map_congr_left fun x hx => ?_
  have e2 := list_range (placesOf w 1)
  rw [placesOf_len] at e2
  show D.lst _ = D.lst _
  congr 1
  show List.map D.bl (List.map _ (placesOf w 1)) = _
  rw [e2, List.map_map, List.map_map]
  rfl
theorem atI_map {α : Type} (f : Nat → α) {n x : Nat} (h : x < n) : atI ((List.range n).map f) ((x : Nat) : Int) = some (f x) := by
  exact L2.atI_nat (by simp [h])
def fS (w v : List Int) (x y : Nat) : Bool := aheadB w x y && !aheadB v x y
theorem filt_succ (f : Nat → Bool) (y : Nat) : ((List.range (y + 1)).filter f).length = ((List.range y).filter f).length + if f y = true then 1 else 0 := by
  rw [List.range_succ, List.filter_append, List.length_append]
  by_cases c : f y = true
  · simp [c]
  · simp [c]
theorem b__law_sides : ∀ d0 d1 M Q E, sp__law_sides K [d0, d1] M Q E → g__law_sides K { nx := fun _ M => Q .non M, rt := Q, ex := fun x _ M => E x M } [some d0, some d1, none, none, none, none, none, none] M := by
  rintro d0 d1 M Q E ⟨w, v, hr, hr2, hl, hs, q⟩
  have z0 : w.count 0 ≤ w.length := List.count_le_length
  have z1 : w.count 1 ≤ w.length := List.count_le_length
  have s0 := sort_count hs 0
  have s1 := sort_count hs 1
  unfold g__law_sides
  dsimp only [q_op, q_un, q_var, q_c, q_nil, q_cons, q_tup, q_frz, q_cel, q_lst, q_test, q_onB, q_and, q_or, q_not, q_andV, q_orV, q_notV, q_if, q_chain, q_next, q_seq, q_drop, q_ret, q_retF, q_retN, q_sif, q_break, q_cont, q_name, q_dnil, q_dcons, q_dtup, q_asg, q_set, q_par, q_for, q_range1, q_range2, q_iseq, q_ienum, q_call, q_cb, q_ncb, q_nop, q_lenset, q_mt, q_mt0, q_setix, q_augs, q_aug, q_nsl, q_onone, q_osome, q_gsl, q_raise, q_raiseF, q_try, q_lc, q_lc2, q_yes, q_wipe0, q_wipe, q_xf, q_I, q_I0, q_U, q_add, q_addT, q_addL, q_addR, q_onL, q_onSt, q_onSl, q_onSs, q_onSrct, q_onSrcl, q_eqI, q_eqB, q_eqS, q_eqN, q_isN, q_ix, q_ixL, q_in, q_len, q_sum, q_max, q_min, q_max2, q_min2, q_abs, q_int, q_tupof, q_lstof, q_sort, q_rep, q_cat, q_isi, q_isis, q_setat, q_onC, q_append, q_pop, q_popAt, q_reverse, q_insert, q_sp1, q_sp2, q_sp3, q_sp4, q_at0, q_atS, q_st0, q_stS, q_iteT, q_iteF, q_isB, q_gCntT, sp__law_grid]
  refine ⟨w, hr, hl, v, hr2, by rw [← sort_length hs]; exact hl, ?_⟩
  (try dsimp only [q_op, q_un, q_var, q_c, q_nil, q_cons, q_tup, q_frz, q_cel, q_lst, q_test, q_onB, q_and, q_or, q_not, q_andV, q_orV, q_notV, q_if, q_chain, q_next, q_seq, q_drop, q_ret, q_retF, q_retN, q_sif, q_break, q_cont, q_name, q_dnil, q_dcons, q_dtup, q_asg, q_set, q_par, q_for, q_range1, q_range2, q_iseq, q_ienum, q_call, q_cb, q_ncb, q_nop, q_lenset, q_mt, q_mt0, q_setix, q_augs, q_aug, q_nsl, q_onone, q_osome, q_gsl, q_raise, q_raiseF, q_try, q_lc, q_lc2, q_yes, q_wipe0, q_wipe, q_xf, q_I, q_I0, q_U, q_add, q_addT, q_addL, q_addR, q_onL, q_onSt, q_onSl, q_onSs, q_onSrct, q_onSrcl, q_eqI, q_eqB, q_eqS, q_eqN, q_isN, q_ix, q_ixL, q_in, q_len, q_sum, q_max, q_min, q_max2, q_min2, q_abs, q_int, q_tupof, q_lstof, q_sort, q_rep, q_cat, q_isi, q_isis, q_setat, q_onC, q_append, q_pop, q_popAt, q_reverse, q_insert, q_sp1, q_sp2, q_sp3, q_sp4, q_at0, q_atS, q_st0, q_stS, q_iteT, q_iteF, q_isB, q_gCntT])
  rw [grid_b, grid_b]
  have lz : (bGrid w).length = w.count 0 := by unfold bGrid; simp
  rw [lz, Int.toNat_natCast]
  refine ⟨⟨by omega, by omega⟩, ?_⟩
  refine loop_rg0 (fun s ρ M' => (∃ a b, ρ = [some d0, some d1, some (.lst (bGrid w)), some (.lst (bGrid v)), some (.int (cnt (fS w v) s (w.count 1) : Nat)), some (.int (cnt (fS v w) s (w.count 1) : Nat)), a, b]) ∧ M' = M) ?_ ?_ ⟨⟨_, _, rfl⟩, rfl⟩
  · rintro x ρ M' hx ⟨⟨a, b, rfl⟩, rfl⟩ Nx hN
    have gx : atI (bGrid w) ((x : Nat) : Int) = some (.lst (bRow w x)) := atI_map _ hx
    have gx2 : atI (bGrid v) ((x : Nat) : Int) = some (.lst (bRow v x)) := atI_map _ (by omega)
    have lr : (bRow w x).length = w.count 1 := by unfold bRow; simp
    (try dsimp only [q_op, q_un, q_var, q_c, q_nil, q_cons, q_tup, q_frz, q_cel, q_lst, q_test, q_onB, q_and, q_or, q_not, q_andV, q_orV, q_notV, q_if, q_chain, q_next, q_seq, q_drop, q_ret, q_retF, q_retN, q_sif, q_break, q_cont, q_name, q_dnil, q_dcons, q_dtup, q_asg, q_set, q_par, q_for, q_range1, q_range2, q_iseq, q_ienum, q_call, q_cb, q_ncb, q_nop, q_lenset, q_mt, q_mt0, q_setix, q_augs, q_aug, q_nsl, q_onone, q_osome, q_gsl, q_raise, q_raiseF, q_try, q_lc, q_lc2, q_yes, q_wipe0, q_wipe, q_xf, q_I, q_I0, q_U, q_add, q_addT, q_addL, q_addR, q_onL, q_onSt, q_onSl, q_onSs, q_onSrct, q_onSrcl, q_eqI, q_eqB, q_eqS, q_eqN, q_isN, q_ix, q_ixL, q_in, q_len, q_sum, q_max, q_min, q_max2, q_min2, q_abs, q_int, q_tupof, q_lstof, q_sort, q_rep, q_cat, q_isi, q_isis, q_setat, q_onC, q_append, q_pop, q_popAt, q_reverse, q_insert, q_sp1, q_sp2, q_sp3, q_sp4, q_at0, q_atS, q_st0, q_stS, q_iteT, q_iteF, q_isB, q_gCntT])
    refine ⟨_, gx, ?_⟩
    (try dsimp only [q_op, q_un, q_var, q_c, q_nil, q_cons, q_tup, q_frz, q_cel, q_lst, q_test, q_onB, q_and, q_or, q_not, q_andV, q_orV, q_notV, q_if, q_chain, q_next, q_seq, q_drop, q_ret, q_retF, q_retN, q_sif, q_break, q_cont, q_name, q_dnil, q_dcons, q_dtup, q_asg, q_set, q_par, q_for, q_range1, q_range2, q_iseq, q_ienum, q_call, q_cb, q_ncb, q_nop, q_lenset, q_mt, q_mt0, q_setix, q_augs, q_aug, q_nsl, q_onone, q_osome, q_gsl, q_raise, q_raiseF, q_try, q_lc, q_lc2, q_yes, q_wipe0, q_wipe, q_xf, q_I, q_I0, q_U, q_add, q_addT, q_addL, q_addR, q_onL, q_onSt, q_onSl, q_onSs, q_onSrct, q_onSrcl, q_eqI, q_eqB, q_eqS, q_eqN, q_isN, q_ix, q_ixL, q_in, q_len, q_sum, q_max, q_min, q_max2, q_min2, q_abs, q_int, q_tupof, q_lstof, q_sort, q_rep, q_cat, q_isi, q_isis, q_setat, q_onC, q_append, q_pop, q_popAt, q_reverse, q_insert, q_sp1, q_sp2, q_sp3, q_sp4, q_at0, q_atS, q_st0, q_stS, q_iteT, q_iteF, q_isB, q_gCntT])
    rw [lr, Int.toNat_natCast]
    refine ⟨⟨by omega, by omega⟩, ?_⟩
    refine loop_rg0 (fun s ρ M2 => (∃ b, ρ = [some d0, some d1, some (.lst (bGrid w)), some (.lst (bGrid v)), some (.int ((cnt (fS w v) x (w.count 1) + ((List.range s).filter (fS w v x)).length : Nat) : Int)), some (.int ((cnt (fS v w) x (w.count 1) + ((List.range s).filter (fS v w x)).length : Nat) : Int)), some (.int (x : Nat)), b]) ∧ M2 = M') ?_ ?_ ⟨⟨_, rfl⟩, rfl⟩
    · rintro y ρ M2 hy ⟨⟨b, rfl⟩, rfl⟩ Ny hK
      have gy : atI (bRow w x) ((y : Nat) : Int) = some (.bl (aheadB w x y)) := atI_map _ hy
      have gy2 : atI (bRow v x) ((y : Nat) : Int) = some (.bl (aheadB v x y)) := atI_map _ (by omega)
      have fin := hK [some d0, some d1, some (.lst (bGrid w)), some (.lst (bGrid v)), some (.int ((cnt (fS w v) x (w.count 1) + ((List.range (y + 1)).filter (fS w v x)).length : Nat) : Int)), some (.int ((cnt (fS v w) x (w.count 1) + ((List.range (y + 1)).filter (fS v w x)).length : Nat) : Int)), some (.int (x : Nat)), some (.int (y : Nat))] M2 ⟨⟨_, rfl⟩, rfl⟩
      rw [filt_succ, filt_succ] at fin
      have f1 : fS w v x y = (aheadB w x y && !aheadB v x y) := rfl
      have f2 : fS v w x y = (aheadB v x y && !aheadB w x y) := rfl
      rw [f1, f2] at fin
      (try dsimp only [q_op, q_un, q_var, q_c, q_nil, q_cons, q_tup, q_frz, q_cel, q_lst, q_test, q_onB, q_and, q_or, q_not, q_andV, q_orV, q_notV, q_if, q_chain, q_next, q_seq, q_drop, q_ret, q_retF, q_retN, q_sif, q_break, q_cont, q_name, q_dnil, q_dcons, q_dtup, q_asg, q_set, q_par, q_for, q_range1, q_range2, q_iseq, q_ienum, q_call, q_cb, q_ncb, q_nop, q_lenset, q_mt, q_mt0, q_setix, q_augs, q_aug, q_nsl, q_onone, q_osome, q_gsl, q_raise, q_raiseF, q_try, q_lc, q_lc2, q_yes, q_wipe0, q_wipe, q_xf, q_I, q_I0, q_U, q_add, q_addT, q_addL, q_addR, q_onL, q_onSt, q_onSl, q_onSs, q_onSrct, q_onSrcl, q_eqI, q_eqB, q_eqS, q_eqN, q_isN, q_ix, q_ixL, q_in, q_len, q_sum, q_max, q_min, q_max2, q_min2, q_abs, q_int, q_tupof, q_lstof, q_sort, q_rep, q_cat, q_isi, q_isis, q_setat, q_onC, q_append, q_pop, q_popAt, q_reverse, q_insert, q_sp1, q_sp2, q_sp3, q_sp4, q_at0, q_atS, q_st0, q_stS, q_iteT, q_iteF, q_isB, q_gCntT])
      refine ⟨_, gx, _, gy, ?_⟩
      cases h1 : aheadB w x y <;> cases h2 : aheadB v x y <;> rw [h1] at gy fin <;> rw [h2] at gy2 fin
      · (try dsimp only [q_op, q_un, q_var, q_c, q_nil, q_cons, q_tup, q_frz, q_cel, q_lst, q_test, q_onB, q_and, q_or, q_not, q_andV, q_orV, q_notV, q_if, q_chain, q_next, q_seq, q_drop, q_ret, q_retF, q_retN, q_sif, q_break, q_cont, q_name, q_dnil, q_dcons, q_dtup, q_asg, q_set, q_par, q_for, q_range1, q_range2, q_iseq, q_ienum, q_call, q_cb, q_ncb, q_nop, q_lenset, q_mt, q_mt0, q_setix, q_augs, q_aug, q_nsl, q_onone, q_osome, q_gsl, q_raise, q_raiseF, q_try, q_lc, q_lc2, q_yes, q_wipe0, q_wipe, q_xf, q_I, q_I0, q_U, q_add, q_addT, q_addL, q_addR, q_onL, q_onSt, q_onSl, q_onSs, q_onSrct, q_onSrcl, q_eqI, q_eqB, q_eqS, q_eqN, q_isN, q_ix, q_ixL, q_in, q_len, q_sum, q_max, q_min, q_max2, q_min2, q_abs, q_int, q_tupof, q_lstof, q_sort, q_rep, q_cat, q_isi, q_isis, q_setat, q_onC, q_append, q_pop, q_popAt, q_reverse, q_insert, q_sp1, q_sp2, q_sp3, q_sp4, q_at0, q_atS, q_st0, q_stS, q_iteT, q_iteF, q_isB, q_gCntT])
        refine if_f (by rfl) (if_f (by rfl) ⟨_, gx2, _, gy2, ?_⟩)
        (try dsimp only [q_op, q_un, q_var, q_c, q_nil, q_cons, q_tup, q_frz, q_cel, q_lst, q_test, q_onB, q_and, q_or, q_not, q_andV, q_orV, q_notV, q_if, q_chain, q_next, q_seq, q_drop, q_ret, q_retF, q_retN, q_sif, q_break, q_cont, q_name, q_dnil, q_dcons, q_dtup, q_asg, q_set, q_par, q_for, q_range1, q_range2, q_iseq, q_ienum, q_call, q_cb, q_ncb, q_nop, q_lenset, q_mt, q_mt0, q_setix, q_augs, q_aug, q_nsl, q_onone, q_osome, q_gsl, q_raise, q_raiseF, q_try, q_lc, q_lc2, q_yes, q_wipe0, q_wipe, q_xf, q_I, q_I0, q_U, q_add, q_addT, q_addL, q_addR, q_onL, q_onSt, q_onSl, q_onSs, q_onSrct, q_onSrcl, q_eqI, q_eqB, q_eqS, q_eqN, q_isN, q_ix, q_ixL, q_in, q_len, q_sum, q_max, q_min, q_max2, q_min2, q_abs, q_int, q_tupof, q_lstof, q_sort, q_rep, q_cat, q_isi, q_isis, q_setat, q_onC, q_append, q_pop, q_popAt, q_reverse, q_insert, q_sp1, q_sp2, q_sp3, q_sp4, q_at0, q_atS, q_st0, q_stS, q_iteT, q_iteF, q_isB, q_gCntT])
        exact if_f (by rfl) (if_f (by rfl) fin)
      · (try dsimp only [q_op, q_un, q_var, q_c, q_nil, q_cons, q_tup, q_frz, q_cel, q_lst, q_test, q_onB, q_and, q_or, q_not, q_andV, q_orV, q_notV, q_if, q_chain, q_next, q_seq, q_drop, q_ret, q_retF, q_retN, q_sif, q_break, q_cont, q_name, q_dnil, q_dcons, q_dtup, q_asg, q_set, q_par, q_for, q_range1, q_range2, q_iseq, q_ienum, q_call, q_cb, q_ncb, q_nop, q_lenset, q_mt, q_mt0, q_setix, q_augs, q_aug, q_nsl, q_onone, q_osome, q_gsl, q_raise, q_raiseF, q_try, q_lc, q_lc2, q_yes, q_wipe0, q_wipe, q_xf, q_I, q_I0, q_U, q_add, q_addT, q_addL, q_addR, q_onL, q_onSt, q_onSl, q_onSs, q_onSrct, q_onSrcl, q_eqI, q_eqB, q_eqS, q_eqN, q_isN, q_ix, q_ixL, q_in, q_len, q_sum, q_max, q_min, q_max2, q_min2, q_abs, q_int, q_tupof, q_lstof, q_sort, q_rep, q_cat, q_isi, q_isis, q_setat, q_onC, q_append, q_pop, q_popAt, q_reverse, q_insert, q_sp1, q_sp2, q_sp3, q_sp4, q_at0, q_atS, q_st0, q_stS, q_iteT, q_iteF, q_isB, q_gCntT])
        refine if_f (by rfl) (if_f (by rfl) ⟨_, gx2, _, gy2, ?_⟩)
        (try dsimp only [q_op, q_un, q_var, q_c, q_nil, q_cons, q_tup, q_frz, q_cel, q_lst, q_test, q_onB, q_and, q_or, q_not, q_andV, q_orV, q_notV, q_if, q_chain, q_next, q_seq, q_drop, q_ret, q_retF, q_retN, q_sif, q_break, q_cont, q_name, q_dnil, q_dcons, q_dtup, q_asg, q_set, q_par, q_for, q_range1, q_range2, q_iseq, q_ienum, q_call, q_cb, q_ncb, q_nop, q_lenset, q_mt, q_mt0, q_setix, q_augs, q_aug, q_nsl, q_onone, q_osome, q_gsl, q_raise, q_raiseF, q_try, q_lc, q_lc2, q_yes, q_wipe0, q_wipe, q_xf, q_I, q_I0, q_U, q_add, q_addT, q_addL, q_addR, q_onL, q_onSt, q_onSl, q_onSs, q_onSrct, q_onSrcl, q_eqI, q_eqB, q_eqS, q_eqN, q_isN, q_ix, q_ixL, q_in, q_len, q_sum, q_max, q_min, q_max2, q_min2, q_abs, q_int, q_tupof, q_lstof, q_sort, q_rep, q_cat, q_isi, q_isis, q_setat, q_onC, q_append, q_pop, q_popAt, q_reverse, q_insert, q_sp1, q_sp2, q_sp3, q_sp4, q_at0, q_atS, q_st0, q_stS, q_iteT, q_iteF, q_isB, q_gCntT])
        refine if_t (by rfl) ⟨_, gx, _, gy, ?_⟩
        (try dsimp only [q_op, q_un, q_var, q_c, q_nil, q_cons, q_tup, q_frz, q_cel, q_lst, q_test, q_onB, q_and, q_or, q_not, q_andV, q_orV, q_notV, q_if, q_chain, q_next, q_seq, q_drop, q_ret, q_retF, q_retN, q_sif, q_break, q_cont, q_name, q_dnil, q_dcons, q_dtup, q_asg, q_set, q_par, q_for, q_range1, q_range2, q_iseq, q_ienum, q_call, q_cb, q_ncb, q_nop, q_lenset, q_mt, q_mt0, q_setix, q_augs, q_aug, q_nsl, q_onone, q_osome, q_gsl, q_raise, q_raiseF, q_try, q_lc, q_lc2, q_yes, q_wipe0, q_wipe, q_xf, q_I, q_I0, q_U, q_add, q_addT, q_addL, q_addR, q_onL, q_onSt, q_onSl, q_onSs, q_onSrct, q_onSrcl, q_eqI, q_eqB, q_eqS, q_eqN, q_isN, q_ix, q_ixL, q_in, q_len, q_sum, q_max, q_min, q_max2, q_min2, q_abs, q_int, q_tupof, q_lstof, q_sort, q_rep, q_cat, q_isi, q_isis, q_setat, q_onC, q_append, q_pop, q_popAt, q_reverse, q_insert, q_sp1, q_sp2, q_sp3, q_sp4, q_at0, q_atS, q_st0, q_stS, q_iteT, q_iteF, q_isB, q_gCntT])
        exact if_t (by rfl) fin
      · (try dsimp only [q_op, q_un, q_var, q_c, q_nil, q_cons, q_tup, q_frz, q_cel, q_lst, q_test, q_onB, q_and, q_or, q_not, q_andV, q_orV, q_notV, q_if, q_chain, q_next, q_seq, q_drop, q_ret, q_retF, q_retN, q_sif, q_break, q_cont, q_name, q_dnil, q_dcons, q_dtup, q_asg, q_set, q_par, q_for, q_range1, q_range2, q_iseq, q_ienum, q_call, q_cb, q_ncb, q_nop, q_lenset, q_mt, q_mt0, q_setix, q_augs, q_aug, q_nsl, q_onone, q_osome, q_gsl, q_raise, q_raiseF, q_try, q_lc, q_lc2, q_yes, q_wipe0, q_wipe, q_xf, q_I, q_I0, q_U, q_add, q_addT, q_addL, q_addR, q_onL, q_onSt, q_onSl, q_onSs, q_onSrct, q_onSrcl, q_eqI, q_eqB, q_eqS, q_eqN, q_isN, q_ix, q_ixL, q_in, q_len, q_sum, q_max, q_min, q_max2, q_min2, q_abs, q_int, q_tupof, q_lstof, q_sort, q_rep, q_cat, q_isi, q_isis, q_setat, q_onC, q_append, q_pop, q_popAt, q_reverse, q_insert, q_sp1, q_sp2, q_sp3, q_sp4, q_at0, q_atS, q_st0, q_stS, q_iteT, q_iteF, q_isB, q_gCntT])
        refine if_t (by rfl) ⟨_, gx2, _, gy2, ?_⟩
        (try dsimp only [q_op, q_un, q_var, q_c, q_nil, q_cons, q_tup, q_frz, q_cel, q_lst, q_test, q_onB, q_and, q_or, q_not, q_andV, q_orV, q_notV, q_if, q_chain, q_next, q_seq, q_drop, q_ret, q_retF, q_retN, q_sif, q_break, q_cont, q_name, q_dnil, q_dcons, q_dtup, q_asg, q_set, q_par, q_for, q_range1, q_range2, q_iseq, q_ienum, q_call, q_cb, q_ncb, q_nop, q_lenset, q_mt, q_mt0, q_setix, q_augs, q_aug, q_nsl, q_onone, q_osome, q_gsl, q_raise, q_raiseF, q_try, q_lc, q_lc2, q_yes, q_wipe0, q_wipe, q_xf, q_I, q_I0, q_U, q_add, q_addT, q_addL, q_addR, q_onL, q_onSt, q_onSl, q_onSs, q_onSrct, q_onSrcl, q_eqI, q_eqB, q_eqS, q_eqN, q_isN, q_ix, q_ixL, q_in, q_len, q_sum, q_max, q_min, q_max2, q_min2, q_abs, q_int, q_tupof, q_lstof, q_sort, q_rep, q_cat, q_isi, q_isis, q_setat, q_onC, q_append, q_pop, q_popAt, q_reverse, q_insert, q_sp1, q_sp2, q_sp3, q_sp4, q_at0, q_atS, q_st0, q_stS, q_iteT, q_iteF, q_isB, q_gCntT])
        refine if_t (by rfl) ⟨_, gx2, _, gy2, ?_⟩
        (try dsimp only [q_op, q_un, q_var, q_c, q_nil, q_cons, q_tup, q_frz, q_cel, q_lst, q_test, q_onB, q_and, q_or, q_not, q_andV, q_orV, q_notV, q_if, q_chain, q_next, q_seq, q_drop, q_ret, q_retF, q_retN, q_sif, q_break, q_cont, q_name, q_dnil, q_dcons, q_dtup, q_asg, q_set, q_par, q_for, q_range1, q_range2, q_iseq, q_ienum, q_call, q_cb, q_ncb, q_nop, q_lenset, q_mt, q_mt0, q_setix, q_augs, q_aug, q_nsl, q_onone, q_osome, q_gsl, q_raise, q_raiseF, q_try, q_lc, q_lc2, q_yes, q_wipe0, q_wipe, q_xf, q_I, q_I0, q_U, q_add, q_addT, q_addL, q_addR, q_onL, q_onSt, q_onSl, q_onSs, q_onSrct, q_onSrcl, q_eqI, q_eqB, q_eqS, q_eqN, q_isN, q_ix, q_ixL, q_in, q_len, q_sum, q_max, q_min, q_max2, q_min2, q_abs, q_int, q_tupof, q_lstof, q_sort, q_rep, q_cat, q_isi, q_isis, q_setat, q_onC, q_append, q_pop, q_popAt, q_reverse, q_insert, q_sp1, q_sp2, q_sp3, q_sp4, q_at0, q_atS, q_st0, q_stS, q_iteT, q_iteF, q_isB, q_gCntT])
        exact if_f (by rfl) (if_f (by rfl) fin)
      · (try dsimp only [q_op, q_un, q_var, q_c, q_nil, q_cons, q_tup, q_frz, q_cel, q_lst, q_test, q_onB, q_and, q_or, q_not, q_andV, q_orV, q_notV, q_if, q_chain, q_next, q_seq, q_drop, q_ret, q_retF, q_retN, q_sif, q_break, q_cont, q_name, q_dnil, q_dcons, q_dtup, q_asg, q_set, q_par, q_for, q_range1, q_range2, q_iseq, q_ienum, q_call, q_cb, q_ncb, q_nop, q_lenset, q_mt, q_mt0, q_setix, q_augs, q_aug, q_nsl, q_onone, q_osome, q_gsl, q_raise, q_raiseF, q_try, q_lc, q_lc2, q_yes, q_wipe0, q_wipe, q_xf, q_I, q_I0, q_U, q_add, q_addT, q_addL, q_addR, q_onL, q_onSt, q_onSl, q_onSs, q_onSrct, q_onSrcl, q_eqI, q_eqB, q_eqS, q_eqN, q_isN, q_ix, q_ixL, q_in, q_len, q_sum, q_max, q_min, q_max2, q_min2, q_abs, q_int, q_tupof, q_lstof, q_sort, q_rep, q_cat, q_isi, q_isis, q_setat, q_onC, q_append, q_pop, q_popAt, q_reverse, q_insert, q_sp1, q_sp2, q_sp3, q_sp4, q_at0, q_atS, q_st0, q_stS, q_iteT, q_iteF, q_isB, q_gCntT])
        refine if_t (by rfl) ⟨_, gx2, _, gy2, ?_⟩
        (try dsimp only [q_op, q_un, q_var, q_c, q_nil, q_cons, q_tup, q_frz, q_cel, q_lst, q_test, q_onB, q_and, q_or, q_not, q_andV, q_orV, q_notV, q_if, q_chain, q_next, q_seq, q_drop, q_ret, q_retF, q_retN, q_sif, q_break, q_cont, q_name, q_dnil, q_dcons, q_dtup, q_asg, q_set, q_par, q_for, q_range1, q_range2, q_iseq, q_ienum, q_call, q_cb, q_ncb, q_nop, q_lenset, q_mt, q_mt0, q_setix, q_augs, q_aug, q_nsl, q_onone, q_osome, q_gsl, q_raise, q_raiseF, q_try, q_lc, q_lc2, q_yes, q_wipe0, q_wipe, q_xf, q_I, q_I0, q_U, q_add, q_addT, q_addL, q_addR, q_onL, q_onSt, q_onSl, q_onSs, q_onSrct, q_onSrcl, q_eqI, q_eqB, q_eqS, q_eqN, q_isN, q_ix, q_ixL, q_in, q_len, q_sum, q_max, q_min, q_max2, q_min2, q_abs, q_int, q_tupof, q_lstof, q_sort, q_rep, q_cat, q_isi, q_isis, q_setat, q_onC, q_append, q_pop, q_popAt, q_reverse, q_insert, q_sp1, q_sp2, q_sp3, q_sp4, q_at0, q_atS, q_st0, q_stS, q_iteT, q_iteF, q_isB, q_gCntT])
        refine if_f (by rfl) ⟨_, gx2, _, gy2, ?_⟩
        (try dsimp only [q_op, q_un, q_var, q_c, q_nil, q_cons, q_tup, q_frz, q_cel, q_lst, q_test, q_onB, q_and, q_or, q_not, q_andV, q_orV, q_notV, q_if, q_chain, q_next, q_seq, q_drop, q_ret, q_retF, q_retN, q_sif, q_break, q_cont, q_name, q_dnil, q_dcons, q_dtup, q_asg, q_set, q_par, q_for, q_range1, q_range2, q_iseq, q_ienum, q_call, q_cb, q_ncb, q_nop, q_lenset, q_mt, q_mt0, q_setix, q_augs, q_aug, q_nsl, q_onone, q_osome, q_gsl, q_raise, q_raiseF, q_try, q_lc, q_lc2, q_yes, q_wipe0, q_wipe, q_xf, q_I, q_I0, q_U, q_add, q_addT, q_addL, q_addR, q_onL, q_onSt, q_onSl, q_onSs, q_onSrct, q_onSrcl, q_eqI, q_eqB, q_eqS, q_eqN, q_isN, q_ix, q_ixL, q_in, q_len, q_sum, q_max, q_min, q_max2, q_min2, q_abs, q_int, q_tupof, q_lstof, q_sort, q_rep, q_cat, q_isi, q_isis, q_setat, q_onC, q_append, q_pop, q_popAt, q_reverse, q_insert, q_sp1, q_sp2, q_sp3, q_sp4, q_at0, q_atS, q_st0, q_stS, q_iteT, q_iteF, q_isB, q_gCntT])
        refine if_t (by rfl) ⟨_, gx, _, gy, ?_⟩
        (try dsimp only [q_op, q_un, q_var, q_c, q_nil, q_cons, q_tup, q_frz, q_cel, q_lst, q_test, q_onB, q_and, q_or, q_not, q_andV, q_orV, q_notV, q_if, q_chain, q_next, q_seq, q_drop, q_ret, q_retF, q_retN, q_sif, q_break, q_cont, q_name, q_dnil, q_dcons, q_dtup, q_asg, q_set, q_par, q_for, q_range1, q_range2, q_iseq, q_ienum, q_call, q_cb, q_ncb, q_nop, q_lenset, q_mt, q_mt0, q_setix, q_augs, q_aug, q_nsl, q_onone, q_osome, q_gsl, q_raise, q_raiseF, q_try, q_lc, q_lc2, q_yes, q_wipe0, q_wipe, q_xf, q_I, q_I0, q_U, q_add, q_addT, q_addL, q_addR, q_onL, q_onSt, q_onSl, q_onSs, q_onSrct, q_onSrcl, q_eqI, q_eqB, q_eqS, q_eqN, q_isN, q_ix, q_ixL, q_in, q_len, q_sum, q_max, q_min, q_max2, q_min2, q_abs, q_int, q_tupof, q_lstof, q_sort, q_rep, q_cat, q_isi, q_isis, q_setat, q_onC, q_append, q_pop, q_popAt, q_reverse, q_insert, q_sp1, q_sp2, q_sp3, q_sp4, q_at0, q_atS, q_st0, q_stS, q_iteT, q_iteF, q_isB, q_gCntT])
        exact if_f (by rfl) fin
    · rintro ρ M2 ⟨⟨b, rfl⟩, rfl⟩
      exact hN _ _ ⟨⟨some (.int (x : Nat)), b, by rw [cnt_succ, cnt_succ]⟩, rfl⟩
  · rintro ρ M' ⟨⟨a, b, rfl⟩, rfl⟩
    (try dsimp only [q_op, q_un, q_var, q_c, q_nil, q_cons, q_tup, q_frz, q_cel, q_lst, q_test, q_onB, q_and, q_or, q_not, q_andV, q_orV, q_notV, q_if, q_chain, q_next, q_seq, q_drop, q_ret, q_retF, q_retN, q_sif, q_break, q_cont, q_name, q_dnil, q_dcons, q_dtup, q_asg, q_set, q_par, q_for, q_range1, q_range2, q_iseq, q_ienum, q_call, q_cb, q_ncb, q_nop, q_lenset, q_mt, q_mt0, q_setix, q_augs, q_aug, q_nsl, q_onone, q_osome, q_gsl, q_raise, q_raiseF, q_try, q_lc, q_lc2, q_yes, q_wipe0, q_wipe, q_xf, q_I, q_I0, q_U, q_add, q_addT, q_addL, q_addR, q_onL, q_onSt, q_onSl, q_onSs, q_onSrct, q_onSrcl, q_eqI, q_eqB, q_eqS, q_eqN, q_isN, q_ix, q_ixL, q_in, q_len, q_sum, q_max, q_min, q_max2, q_min2, q_abs, q_int, q_tupof, q_lstof, q_sort, q_rep, q_cat, q_isi, q_isis, q_setat, q_onC, q_append, q_pop, q_popAt, q_reverse, q_insert, q_sp1, q_sp2, q_sp3, q_sp4, q_at0, q_atS, q_st0, q_stS, q_iteT, q_iteF, q_isB, q_gCntT])
    exact ⟨by rw [sz]; show 2 ≤ 16777216; omega, q⟩
theorem fm_len {α β : Type} (p : α → Bool) (g : α → β) : ∀ l : List α, (l.filterMap fun y => if p y = true then some (g y) else none).length = (l.filter p).length
  | [] => rfl
  | x :: l => by
    have ih := fm_len p g l
    cases c : p x
    · rw [List.filterMap_cons_none (by rw [c]; rfl), List.filter_cons_of_neg (by rw [c]; decide)]
      exact ih
    · rw [List.filterMap_cons_some (by rw [c]; rfl), List.filter_cons_of_pos c, List.length_cons, List.length_cons, ih]
theorem sum_cast {α : Type} (f : α → Nat) : ∀ l : List α, (l.map fun x => ((f x : Nat) : Int)).sum = (((l.map f).sum : Nat) : Int)
  | [] => rfl
  | x :: l => by
    rw [List.map_cons, List.sum_cons, List.map_cons, List.sum_cons, sum_cast f l]
    omega
theorem b__law_lone : ∀ d0 M Q E, sp__law_lone K [d0] M Q E → g__law_lone K { nx := fun _ M => Q .non M, rt := Q, ex := fun x _ M => E x M } [some d0, none, none, none, none, none, none] M := by
  rintro d0 M Q E ⟨w, hr, G, q⟩
  unfold g__law_lone
  dsimp only [q_op, q_un, q_var, q_c, q_nil, q_cons, q_tup, q_frz, q_cel, q_lst, q_test, q_onB, q_and, q_or, q_not, q_andV, q_orV, q_notV, q_if, q_chain, q_next, q_seq, q_drop, q_ret, q_retF, q_retN, q_sif, q_break, q_cont, q_name, q_dnil, q_dcons, q_dtup, q_asg, q_set, q_par, q_for, q_range1, q_range2, q_iseq, q_ienum, q_call, q_cb, q_ncb, q_nop, q_lenset, q_mt, q_mt0, q_setix, q_augs, q_aug, q_nsl, q_onone, q_osome, q_gsl, q_raise, q_raiseF, q_try, q_lc, q_lc2, q_yes, q_wipe0, q_wipe, q_xf, q_I, q_I0, q_U, q_add, q_addT, q_addL, q_addR, q_onL, q_onSt, q_onSl, q_onSs, q_onSrct, q_onSrcl, q_eqI, q_eqB, q_eqS, q_eqN, q_isN, q_ix, q_ixL, q_in, q_len, q_sum, q_max, q_min, q_max2, q_min2, q_abs, q_int, q_tupof, q_lstof, q_sort, q_rep, q_cat, q_isi, q_isis, q_setat, q_onC, q_append, q_pop, q_popAt, q_reverse, q_insert, q_sp1, q_sp2, q_sp3, q_sp4, q_at0, q_atS, q_st0, q_stS, q_iteT, q_iteF, q_isB, q_gCntT, sp__law_grid]
  refine ⟨w, hr, G.2.2.1, ?_⟩
  (try dsimp only [q_op, q_un, q_var, q_c, q_nil, q_cons, q_tup, q_frz, q_cel, q_lst, q_test, q_onB, q_and, q_or, q_not, q_andV, q_orV, q_notV, q_if, q_chain, q_next, q_seq, q_drop, q_ret, q_retF, q_retN, q_sif, q_break, q_cont, q_name, q_dnil, q_dcons, q_dtup, q_asg, q_set, q_par, q_for, q_range1, q_range2, q_iseq, q_ienum, q_call, q_cb, q_ncb, q_nop, q_lenset, q_mt, q_mt0, q_setix, q_augs, q_aug, q_nsl, q_onone, q_osome, q_gsl, q_raise, q_raiseF, q_try, q_lc, q_lc2, q_yes, q_wipe0, q_wipe, q_xf, q_I, q_I0, q_U, q_add, q_addT, q_addL, q_addR, q_onL, q_onSt, q_onSl, q_onSs, q_onSrct, q_onSrcl, q_eqI, q_eqB, q_eqS, q_eqN, q_isN, q_ix, q_ixL, q_in, q_len, q_sum, q_max, q_min, q_max2, q_min2, q_abs, q_int, q_tupof, q_lstof, q_sort, q_rep, q_cat, q_isi, q_isis, q_setat, q_onC, q_append, q_pop, q_popAt, q_reverse, q_insert, q_sp1, q_sp2, q_sp3, q_sp4, q_at0, q_atS, q_st0, q_stS, q_iteT, q_iteF, q_isB, q_gCntT])
  have z0 : w.count 0 ≤ w.length := List.count_le_length
  have z1 : w.count 1 ≤ w.length := List.count_le_length
  have hl := G.2.2.1
  have p0 : 0 < w.count 0 := List.count_pos_iff.mpr (G.2.2.2.2 0 (by decide))
  rw [grid_b]
  have lz : (bGrid w).length = w.count 0 := by unfold bGrid; simp
  have lr : (bRow w 0).length = w.count 1 := by unfold bRow; simp
  have gx : atI (bGrid w) 0 = some (.lst (bRow w 0)) := atI_map (x := 0) _ p0
  refine ⟨_, gx, ?_⟩
  (try dsimp only [q_op, q_un, q_var, q_c, q_nil, q_cons, q_tup, q_frz, q_cel, q_lst, q_test, q_onB, q_and, q_or, q_not, q_andV, q_orV, q_notV, q_if, q_chain, q_next, q_seq, q_drop, q_ret, q_retF, q_retN, q_sif, q_break, q_cont, q_name, q_dnil, q_dcons, q_dtup, q_asg, q_set, q_par, q_for, q_range1, q_range2, q_iseq, q_ienum, q_call, q_cb, q_ncb, q_nop, q_lenset, q_mt, q_mt0, q_setix, q_augs, q_aug, q_nsl, q_onone, q_osome, q_gsl, q_raise, q_raiseF, q_try, q_lc, q_lc2, q_yes, q_wipe0, q_wipe, q_xf, q_I, q_I0, q_U, q_add, q_addT, q_addL, q_addR, q_onL, q_onSt, q_onSl, q_onSs, q_onSrct, q_onSrcl, q_eqI, q_eqB, q_eqS, q_eqN, q_isN, q_ix, q_ixL, q_in, q_len, q_sum, q_max, q_min, q_max2, q_min2, q_abs, q_int, q_tupof, q_lstof, q_sort, q_rep, q_cat, q_isi, q_isis, q_setat, q_onC, q_append, q_pop, q_popAt, q_reverse, q_insert, q_sp1, q_sp2, q_sp3, q_sp4, q_at0, q_atS, q_st0, q_stS, q_iteT, q_iteF, q_isB, q_gCntT])
  rw [lz, lr]
  refine lc_map (fun x : Nat => D.lst (bRow w x)) (fun x => .int ((((List.range (w.count 1)).filter (aheadB w x)).length : Nat) : Int)) trivial _ (fun x hx k hk => ?_) (fun d ρ M Q Q' h q => h _ _ q) rfl (by rw [sz]; simp; omega) ?_
  · (try dsimp only [q_op, q_un, q_var, q_c, q_nil, q_cons, q_tup, q_frz, q_cel, q_lst, q_test, q_onB, q_and, q_or, q_not, q_andV, q_orV, q_notV, q_if, q_chain, q_next, q_seq, q_drop, q_ret, q_retF, q_retN, q_sif, q_break, q_cont, q_name, q_dnil, q_dcons, q_dtup, q_asg, q_set, q_par, q_for, q_range1, q_range2, q_iseq, q_ienum, q_call, q_cb, q_ncb, q_nop, q_lenset, q_mt, q_mt0, q_setix, q_augs, q_aug, q_nsl, q_onone, q_osome, q_gsl, q_raise, q_raiseF, q_try, q_lc, q_lc2, q_yes, q_wipe0, q_wipe, q_xf, q_I, q_I0, q_U, q_add, q_addT, q_addL, q_addR, q_onL, q_onSt, q_onSl, q_onSs, q_onSrct, q_onSrcl, q_eqI, q_eqB, q_eqS, q_eqN, q_isN, q_ix, q_ixL, q_in, q_len, q_sum, q_max, q_min, q_max2, q_min2, q_abs, q_int, q_tupof, q_lstof, q_sort, q_rep, q_cat, q_isi, q_isis, q_setat, q_onC, q_append, q_pop, q_popAt, q_reverse, q_insert, q_sp1, q_sp2, q_sp3, q_sp4, q_at0, q_atS, q_st0, q_stS, q_iteT, q_iteF, q_isB, q_gCntT])
    refine ⟨rfl, ?_⟩
    refine lc_still (fun y : Nat => D.bl (aheadB w x y)) (fun y => if aheadB w x y = true then some (D.bl true) else none) trivial _ [] (fun y hy N acc hz hN => ?_) (by rw [sz]; simp; omega) ?_
    · (try dsimp only [q_op, q_un, q_var, q_c, q_nil, q_cons, q_tup, q_frz, q_cel, q_lst, q_test, q_onB, q_and, q_or, q_not, q_andV, q_orV, q_notV, q_if, q_chain, q_next, q_seq, q_drop, q_ret, q_retF, q_retN, q_sif, q_break, q_cont, q_name, q_dnil, q_dcons, q_dtup, q_asg, q_set, q_par, q_for, q_range1, q_range2, q_iseq, q_ienum, q_call, q_cb, q_ncb, q_nop, q_lenset, q_mt, q_mt0, q_setix, q_augs, q_aug, q_nsl, q_onone, q_osome, q_gsl, q_raise, q_raiseF, q_try, q_lc, q_lc2, q_yes, q_wipe0, q_wipe, q_xf, q_I, q_I0, q_U, q_add, q_addT, q_addL, q_addR, q_onL, q_onSt, q_onSl, q_onSs, q_onSrct, q_onSrcl, q_eqI, q_eqB, q_eqS, q_eqN, q_isN, q_ix, q_ixL, q_in, q_len, q_sum, q_max, q_min, q_max2, q_min2, q_abs, q_int, q_tupof, q_lstof, q_sort, q_rep, q_cat, q_isi, q_isis, q_setat, q_onC, q_append, q_pop, q_popAt, q_reverse, q_insert, q_sp1, q_sp2, q_sp3, q_sp4, q_at0, q_atS, q_st0, q_stS, q_iteT, q_iteF, q_isB, q_gCntT])
      cases c : aheadB w x y
      · rw [c] at hN
        exact if_f (by rfl) (by simpa using hN)
      · rw [c] at hN
        exact if_t (by rfl) ⟨hz, hN⟩
    · rw [List.nil_append, fm_len]
      exact hk
  · refine ⟨(List.range (w.count 0)).map fun x => ((((List.range (w.count 1)).filter (aheadB w x)).length : Nat) : Int), by rw [List.map_map]; rfl, ?_⟩
    rw [sum_cast]
    have ea : ((List.range (w.count 0)).map fun x => ((List.range (w.count 1)).filter (aheadB w x)).length).sum = aheadN w := rfl
    rw [ea]
    unfold loneB at q
    cases q0 : decide ((w.count 0 : Int) = 1) with
    | true =>
      rw [q0, Bool.true_or] at q
      exact if_t (by rfl) q
    | false =>
      rw [q0, Bool.false_or] at q
      refine if_f (by rfl) ?_
      cases q1 : decide ((w.count 1 : Int) = 1) with
      | true =>
        rw [q1, Bool.true_or] at q
        exact if_t (by rfl) q
      | false =>
        rw [q1, Bool.false_or] at q
        refine if_f (by rfl) ?_
        cases q2 : decide ((aheadN w : Int) < 2) with
        | true =>
          rw [q2, Bool.true_or] at q
          exact if_t (by rfl) q
        | false =>
          rw [q2, Bool.false_or] at q
          exact if_f (by rfl) ⟨cmulw (by omega) (by omega), q⟩
end
end LW

namespace LW
open PySem PySem.Spec PyProof.Rows L2 DL
section
variable {K : PySem.W.Frag}
theorem fm_ite {α β : Type} (p : α → Bool) (g : α → β) : ∀ l : List α, (l.filterMap fun y => if p y = true then some (g y) else none) = (l.filter p).map g
  | [] => rfl
  | x :: l => by
    have ih := fm_ite p g l
    cases c : p x
    · rw [List.filterMap_cons_none (by rw [c]; rfl), List.filter_cons_of_neg (by rw [c]; decide), ih]
    · rw [List.filterMap_cons_some (by rw [c]; rfl), List.filter_cons_of_pos c, List.map_cons, ih]
theorem set_exch {ns : List Int} {k : Nat} (h : k + 1 < ns.length) {x y : Int} (hx : ns.getD k 0 = x) (hy : ns.getD (k + 1) 0 = y) : ((iD ns).set k (.int y)).set (k + 1) (.int x) = iD (exchI ns k) := by
  have e1 : ((iD ns).set k (.int y)).set (k + 1) (.int x) = iD ((ns.set k y).set (k + 1) x) := by
    unfold iD
    rw [List.map_set, List.map_set]
  rw [e1]
  congr 1
  refine List.ext_getElem (by rw [exchI_len h]; simp) fun i h1 h2 => ?_
  have e2 : (exchI ns k)[i] = (exchI ns k).getD i 0 := by
    rw [List.getD_eq_getElem?_getD, List.getElem?_eq_getElem h2]
    rfl
  have hi : i < ns.length := by rw [exchI_len h] at h2; exact h2
  have e3 : ns[i] = ns.getD i 0 := by
    rw [List.getD_eq_getElem?_getD, List.getElem?_eq_getElem hi]
    rfl
  rw [e2, exchI_get h, List.getElem_set, List.getElem_set, hx, hy, e3]
  by_cases c1 : k + 1 = i
  · rw [if_pos c1, if_neg (by omega), if_pos c1.symm]
  · rw [if_neg c1]
    by_cases c2 : k = i
    · rw [if_pos c2, if_pos c2.symm]
    · rw [if_neg c2, if_neg (fun z => c2 z.symm), if_neg (fun z => c1 z.symm)]
/-- where a letter x stands ahead of a letter y, but at place no -/
def spotsF (x y : Int) (no : Option Nat) (ns : List Int) : List Nat := (List.range (ns.length - 1)).filter fun k => !decide (some k = no) && (decide (ns.getD k 0 = x) && decide (ns.getD (k + 1) 0 = y))
theorem spots_mem {x y : Int} {no : Option Nat} {ns : List Int} {k : Nat} (h : k ∈ spotsF x y no ns) : k + 1 < ns.length ∧ ns.getD k 0 = x ∧ ns.getD (k + 1) 0 = y := by
  unfold spotsF at h
  obtain ⟨h1, h2⟩ := List.mem_filter.mp h
  have := List.mem_range.mp h1
  simp only [Bool.and_eq_true, decide_eq_true_eq] at h2
  exact ⟨by omega, h2.2.1, h2.2.2⟩
theorem spots_len (x y : Int) (no : Option Nat) (ns : List Int) : (spotsF x y no ns).length ≤ ns.length := by
  unfold spotsF
  have := List.length_filter_le (fun k => !decide (some k = no) && (decide (ns.getD k 0 = x) && decide (ns.getD (k + 1) 0 = y))) (List.range (ns.length - 1))
  rw [List.length_range] at this
  omega
theorem b__law_moved : ∀ d0 d1 M Q E, sp__law_moved K [d0, d1] M Q E → g__law_moved K { nx := fun _ M => Q .non M, rt := Q, ex := fun x _ M => E x M } [some d0, some d1, none, none, none, none, none] M := by
  rintro d0 d1 M Q E ⟨p, ns, rfl, rfl, hl, ⟨xs0, hM⟩, q⟩
  have q0 : Q (.lst (iD ns)) M := by
    have := q ns xs0 (List.Perm.refl _)
    rw [mset_id hM] at this
    exact this
  have e : (((iD ns).length : Int) - 1).toNat = ns.length - 1 := by rw [List.length_map]; omega
  unfold g__law_moved
  dsimp only [q_op, q_un, q_var, q_c, q_nil, q_cons, q_tup, q_frz, q_cel, q_lst, q_test, q_onB, q_and, q_or, q_not, q_andV, q_orV, q_notV, q_if, q_chain, q_next, q_seq, q_drop, q_ret, q_retF, q_retN, q_sif, q_break, q_cont, q_name, q_dnil, q_dcons, q_dtup, q_asg, q_set, q_par, q_for, q_range1, q_range2, q_iseq, q_ienum, q_call, q_cb, q_ncb, q_nop, q_lenset, q_mt, q_mt0, q_setix, q_augs, q_aug, q_nsl, q_onone, q_osome, q_gsl, q_raise, q_raiseF, q_try, q_lc, q_lc2, q_yes, q_wipe0, q_wipe, q_xf, q_I, q_I0, q_U, q_add, q_addT, q_addL, q_addR, q_onL, q_onSt, q_onSl, q_onSs, q_onSrct, q_onSrcl, q_eqI, q_eqB, q_eqS, q_eqN, q_isN, q_ix, q_ixL, q_in, q_len, q_sum, q_max, q_min, q_max2, q_min2, q_abs, q_int, q_tupof, q_lstof, q_sort, q_rep, q_cat, q_isi, q_isis, q_setat, q_onC, q_append, q_pop, q_popAt, q_reverse, q_insert, q_sp1, q_sp2, q_sp3, q_sp4, q_at0, q_atS, q_st0, q_stS, q_iteT, q_iteF, q_isB, q_gCntT, sp__law_take]
  refine ⟨⟨by omega, by rw [List.length_map]; omega⟩, ?_⟩
  rw [e, rg0]
  refine lc_still (fun k : Nat => D.int ((k : Nat) : Int)) (fun k => if (!decide (some k = none) && (decide (ns.getD k 0 = 0) && decide (ns.getD (k + 1) 0 = 1))) = true then some (.int ((k : Nat) : Int)) else none) trivial _ [] (fun k hk N acc hz hN => ?_) (by rw [sz]; simp; omega) ?_
  · have hk' : k < ns.length - 1 := by simpa using hk
    (try dsimp only [q_op, q_un, q_var, q_c, q_nil, q_cons, q_tup, q_frz, q_cel, q_lst, q_test, q_onB, q_and, q_or, q_not, q_andV, q_orV, q_notV, q_if, q_chain, q_next, q_seq, q_drop, q_ret, q_retF, q_retN, q_sif, q_break, q_cont, q_name, q_dnil, q_dcons, q_dtup, q_asg, q_set, q_par, q_for, q_range1, q_range2, q_iseq, q_ienum, q_call, q_cb, q_ncb, q_nop, q_lenset, q_mt, q_mt0, q_setix, q_augs, q_aug, q_nsl, q_onone, q_osome, q_gsl, q_raise, q_raiseF, q_try, q_lc, q_lc2, q_yes, q_wipe0, q_wipe, q_xf, q_I, q_I0, q_U, q_add, q_addT, q_addL, q_addR, q_onL, q_onSt, q_onSl, q_onSs, q_onSrct, q_onSrcl, q_eqI, q_eqB, q_eqS, q_eqN, q_isN, q_ix, q_ixL, q_in, q_len, q_sum, q_max, q_min, q_max2, q_min2, q_abs, q_int, q_tupof, q_lstof, q_sort, q_rep, q_cat, q_isi, q_isis, q_setat, q_onC, q_append, q_pop, q_popAt, q_reverse, q_insert, q_sp1, q_sp2, q_sp3, q_sp4, q_at0, q_atS, q_st0, q_stS, q_iteT, q_iteF, q_isB, q_gCntT])
    refine ⟨_, atI_iD (by omega), ?_⟩
    (try dsimp only [q_op, q_un, q_var, q_c, q_nil, q_cons, q_tup, q_frz, q_cel, q_lst, q_test, q_onB, q_and, q_or, q_not, q_andV, q_orV, q_notV, q_if, q_chain, q_next, q_seq, q_drop, q_ret, q_retF, q_retN, q_sif, q_break, q_cont, q_name, q_dnil, q_dcons, q_dtup, q_asg, q_set, q_par, q_for, q_range1, q_range2, q_iseq, q_ienum, q_call, q_cb, q_ncb, q_nop, q_lenset, q_mt, q_mt0, q_setix, q_augs, q_aug, q_nsl, q_onone, q_osome, q_gsl, q_raise, q_raiseF, q_try, q_lc, q_lc2, q_yes, q_wipe0, q_wipe, q_xf, q_I, q_I0, q_U, q_add, q_addT, q_addL, q_addR, q_onL, q_onSt, q_onSl, q_onSs, q_onSrct, q_onSrcl, q_eqI, q_eqB, q_eqS, q_eqN, q_isN, q_ix, q_ixL, q_in, q_len, q_sum, q_max, q_min, q_max2, q_min2, q_abs, q_int, q_tupof, q_lstof, q_sort, q_rep, q_cat, q_isi, q_isis, q_setat, q_onC, q_append, q_pop, q_popAt, q_reverse, q_insert, q_sp1, q_sp2, q_sp3, q_sp4, q_at0, q_atS, q_st0, q_stS, q_iteT, q_iteF, q_isB, q_gCntT])
    by_cases c0 : ns.getD k 0 = 0
    · refine if_t (decide_eq_true c0) ⟨_, atI_iD (i := k + 1) (by omega), ?_⟩
      (try dsimp only [q_op, q_un, q_var, q_c, q_nil, q_cons, q_tup, q_frz, q_cel, q_lst, q_test, q_onB, q_and, q_or, q_not, q_andV, q_orV, q_notV, q_if, q_chain, q_next, q_seq, q_drop, q_ret, q_retF, q_retN, q_sif, q_break, q_cont, q_name, q_dnil, q_dcons, q_dtup, q_asg, q_set, q_par, q_for, q_range1, q_range2, q_iseq, q_ienum, q_call, q_cb, q_ncb, q_nop, q_lenset, q_mt, q_mt0, q_setix, q_augs, q_aug, q_nsl, q_onone, q_osome, q_gsl, q_raise, q_raiseF, q_try, q_lc, q_lc2, q_yes, q_wipe0, q_wipe, q_xf, q_I, q_I0, q_U, q_add, q_addT, q_addL, q_addR, q_onL, q_onSt, q_onSl, q_onSs, q_onSrct, q_onSrcl, q_eqI, q_eqB, q_eqS, q_eqN, q_isN, q_ix, q_ixL, q_in, q_len, q_sum, q_max, q_min, q_max2, q_min2, q_abs, q_int, q_tupof, q_lstof, q_sort, q_rep, q_cat, q_isi, q_isis, q_setat, q_onC, q_append, q_pop, q_popAt, q_reverse, q_insert, q_sp1, q_sp2, q_sp3, q_sp4, q_at0, q_atS, q_st0, q_stS, q_iteT, q_iteF, q_isB, q_gCntT])
      by_cases c1 : ns.getD (k + 1) 0 = 1
      · rw [if_pos (by rw [decide_eq_true c0, decide_eq_true c1]; rfl)] at hN
        exact if_t (decide_eq_true c1) ⟨hz, hN⟩
      · rw [if_neg (by rw [decide_eq_false c1]; simp)] at hN
        exact if_f (decide_eq_false c1) (by simpa using hN)
    · rw [if_neg (by rw [decide_eq_false c0]; simp)] at hN
      exact if_f (decide_eq_false c0) (if_f (by rfl) (by simpa using hN))
  · rw [List.nil_append, fm_ite]
    (try dsimp only [q_op, q_un, q_var, q_c, q_nil, q_cons, q_tup, q_frz, q_cel, q_lst, q_test, q_onB, q_and, q_or, q_not, q_andV, q_orV, q_notV, q_if, q_chain, q_next, q_seq, q_drop, q_ret, q_retF, q_retN, q_sif, q_break, q_cont, q_name, q_dnil, q_dcons, q_dtup, q_asg, q_set, q_par, q_for, q_range1, q_range2, q_iseq, q_ienum, q_call, q_cb, q_ncb, q_nop, q_lenset, q_mt, q_mt0, q_setix, q_augs, q_aug, q_nsl, q_onone, q_osome, q_gsl, q_raise, q_raiseF, q_try, q_lc, q_lc2, q_yes, q_wipe0, q_wipe, q_xf, q_I, q_I0, q_U, q_add, q_addT, q_addL, q_addR, q_onL, q_onSt, q_onSl, q_onSs, q_onSrct, q_onSrcl, q_eqI, q_eqB, q_eqS, q_eqN, q_isN, q_ix, q_ixL, q_in, q_len, q_sum, q_max, q_min, q_max2, q_min2, q_abs, q_int, q_tupof, q_lstof, q_sort, q_rep, q_cat, q_isi, q_isis, q_setat, q_onC, q_append, q_pop, q_popAt, q_reverse, q_insert, q_sp1, q_sp2, q_sp3, q_sp4, q_at0, q_atS, q_st0, q_stS, q_iteT, q_iteF, q_isB, q_gCntT])
    have es : (List.map (fun k : Nat => D.int ((k : Nat) : Int)) (spotsF 0 1 none ns)) = (List.map (fun k : Nat => D.int ((k : Nat) : Int)) (List.filter (fun k => !decide (some k = none) && (decide (ns.getD k 0 = 0) && decide (ns.getD (k + 1) 0 = 1))) (List.range (ns.length - 1)))) := rfl
    rw [← es]
    have sl := spots_len 0 1 none ns
    have t0 : TabAt (mset M p (.lst (iD xs0))) M [] [] := by
      rw [mset_id hM]
      exact TabAt.nil
    rw [List.length_map]
    by_cases cs : (spotsF 0 1 none ns).length = 0
    · exact if_t (decide_eq_true (by omega)) (ret_drop MemUp.refl q0)
    refine if_f (decide_eq_false (by omega)) ⟨p, _, rfl, rfl, by omega, ⟨xs0, hM⟩, fun r ys r0 r1 => ?_⟩
    obtain ⟨k, rfl⟩ : ∃ k : Nat, r = (k : Int) := ⟨r.toNat, by omega⟩
    have hk : k < (spotsF 0 1 none ns).length := by omega
    have mk := spots_mem (List.getElem_mem hk)
    have t1 := pool_take (ys := ys) t0
    have q1 : Q (.lst (iD ns)) (mset M p (.lst (iD ys))) := q ns ys (List.Perm.refl _)
    (try dsimp only [q_op, q_un, q_var, q_c, q_nil, q_cons, q_tup, q_frz, q_cel, q_lst, q_test, q_onB, q_and, q_or, q_not, q_andV, q_orV, q_notV, q_if, q_chain, q_next, q_seq, q_drop, q_ret, q_retF, q_retN, q_sif, q_break, q_cont, q_name, q_dnil, q_dcons, q_dtup, q_asg, q_set, q_par, q_for, q_range1, q_range2, q_iseq, q_ienum, q_call, q_cb, q_ncb, q_nop, q_lenset, q_mt, q_mt0, q_setix, q_augs, q_aug, q_nsl, q_onone, q_osome, q_gsl, q_raise, q_raiseF, q_try, q_lc, q_lc2, q_yes, q_wipe0, q_wipe, q_xf, q_I, q_I0, q_U, q_add, q_addT, q_addL, q_addR, q_onL, q_onSt, q_onSl, q_onSs, q_onSrct, q_onSrcl, q_eqI, q_eqB, q_eqS, q_eqN, q_isN, q_ix, q_ixL, q_in, q_len, q_sum, q_max, q_min, q_max2, q_min2, q_abs, q_int, q_tupof, q_lstof, q_sort, q_rep, q_cat, q_isi, q_isis, q_setat, q_onC, q_append, q_pop, q_popAt, q_reverse, q_insert, q_sp1, q_sp2, q_sp3, q_sp4, q_at0, q_atS, q_st0, q_stS, q_iteT, q_iteF, q_isB, q_gCntT])
    refine ⟨_, L2.atI_nat (v := D.int (((spotsF 0 1 none ns)[k] : Nat) : Int)) (by rw [List.getElem?_map, List.getElem?_eq_getElem hk]; rfl), fun c hc => ?_⟩
    generalize (spotsF 0 1 none ns)[k] = s at mk ⊢
    obtain ⟨m1, m2, m3⟩ := mk
    have t2 := t1.push (r := iD ns) hc
    have e0 : mset (mset M p (.lst (iD ys))) c (.lst (iD ns)) c = some (.lst (iD ns)) := mset_same
    have t3 := t2.set (r := (iD ns).set s (.int 1)) (i := 0) (p := c) rfl
    have t4 := t3.set (r := ((iD ns).set s (.int 1)).set (s + 1) (.int 0)) (i := 0) (p := c) rfl
    rw [set_exch m1 m2 m3] at t4
    refine ⟨_, e0, s, by rw [List.length_map]; exact ixN_nat (by omega), ?_⟩
    (try dsimp only [q_op, q_un, q_var, q_c, q_nil, q_cons, q_tup, q_frz, q_cel, q_lst, q_test, q_onB, q_and, q_or, q_not, q_andV, q_orV, q_notV, q_if, q_chain, q_next, q_seq, q_drop, q_ret, q_retF, q_retN, q_sif, q_break, q_cont, q_name, q_dnil, q_dcons, q_dtup, q_asg, q_set, q_par, q_for, q_range1, q_range2, q_iseq, q_ienum, q_call, q_cb, q_ncb, q_nop, q_lenset, q_mt, q_mt0, q_setix, q_augs, q_aug, q_nsl, q_onone, q_osome, q_gsl, q_raise, q_raiseF, q_try, q_lc, q_lc2, q_yes, q_wipe0, q_wipe, q_xf, q_I, q_I0, q_U, q_add, q_addT, q_addL, q_addR, q_onL, q_onSt, q_onSl, q_onSs, q_onSrct, q_onSrcl, q_eqI, q_eqB, q_eqS, q_eqN, q_isN, q_ix, q_ixL, q_in, q_len, q_sum, q_max, q_min, q_max2, q_min2, q_abs, q_int, q_tupof, q_lstof, q_sort, q_rep, q_cat, q_isi, q_isis, q_setat, q_onC, q_append, q_pop, q_popAt, q_reverse, q_insert, q_sp1, q_sp2, q_sp3, q_sp4, q_at0, q_atS, q_st0, q_stS, q_iteT, q_iteF, q_isB, q_gCntT])
    refine ⟨_, mset_same, s + 1, by rw [List.length_set, List.length_map]; exact ixN_nat (i := s + 1) m1, ?_⟩
    rw [set_exch m1 m2 m3]
    have el := exchI_len m1
    have ep := exchI_perm m1
    generalize hM5 : mset (mset (mset (mset M p (.lst (iD ys))) c (.lst (iD ns))) c (.lst ((iD ns).set s (.int 1)))) c (.lst (iD (exchI ns s))) = M5 at *
    generalize hu : exchI ns s = u at *
    have hc5 : M5 c = some (.lst (iD u)) := tab_one t4
    have e5 : (((iD u).length : Int) - 1).toNat = u.length - 1 := by rw [List.length_map]; omega
    refine RowD.onS (RowD.ref hc5) ⟨⟨by omega, by rw [List.length_map]; omega⟩, ?_⟩
    rw [e5, rg0]
    refine lc_still (fun k : Nat => D.int ((k : Nat) : Int)) (fun k => if (!decide (some k = some s) && (decide (u.getD k 0 = 1) && decide (u.getD (k + 1) 0 = 0))) = true then some (.int ((k : Nat) : Int)) else none) trivial _ [] (fun k hk N acc hz hN => ?_) (by rw [sz]; simp; omega) ?_
    · have hk' : k < u.length - 1 := by simpa using hk
      (try dsimp only [q_op, q_un, q_var, q_c, q_nil, q_cons, q_tup, q_frz, q_cel, q_lst, q_test, q_onB, q_and, q_or, q_not, q_andV, q_orV, q_notV, q_if, q_chain, q_next, q_seq, q_drop, q_ret, q_retF, q_retN, q_sif, q_break, q_cont, q_name, q_dnil, q_dcons, q_dtup, q_asg, q_set, q_par, q_for, q_range1, q_range2, q_iseq, q_ienum, q_call, q_cb, q_ncb, q_nop, q_lenset, q_mt, q_mt0, q_setix, q_augs, q_aug, q_nsl, q_onone, q_osome, q_gsl, q_raise, q_raiseF, q_try, q_lc, q_lc2, q_yes, q_wipe0, q_wipe, q_xf, q_I, q_I0, q_U, q_add, q_addT, q_addL, q_addR, q_onL, q_onSt, q_onSl, q_onSs, q_onSrct, q_onSrcl, q_eqI, q_eqB, q_eqS, q_eqN, q_isN, q_ix, q_ixL, q_in, q_len, q_sum, q_max, q_min, q_max2, q_min2, q_abs, q_int, q_tupof, q_lstof, q_sort, q_rep, q_cat, q_isi, q_isis, q_setat, q_onC, q_append, q_pop, q_popAt, q_reverse, q_insert, q_sp1, q_sp2, q_sp3, q_sp4, q_at0, q_atS, q_st0, q_stS, q_iteT, q_iteF, q_isB, q_gCntT])
      by_cases c9 : k = s
      · rw [if_neg (by rw [decide_eq_true (congrArg some c9)]; simp)] at hN
        refine if_f ?_ (if_f (by rfl) (by simpa using hN))
        rw [c9, decide_eq_true rfl]
        rfl
      refine if_t ?_ ?_
      · rw [decide_eq_false (by omega)]
        rfl
      refine RowD.onS (RowD.ref hc5) ⟨_, atI_iD (by omega), ?_⟩
      (try dsimp only [q_op, q_un, q_var, q_c, q_nil, q_cons, q_tup, q_frz, q_cel, q_lst, q_test, q_onB, q_and, q_or, q_not, q_andV, q_orV, q_notV, q_if, q_chain, q_next, q_seq, q_drop, q_ret, q_retF, q_retN, q_sif, q_break, q_cont, q_name, q_dnil, q_dcons, q_dtup, q_asg, q_set, q_par, q_for, q_range1, q_range2, q_iseq, q_ienum, q_call, q_cb, q_ncb, q_nop, q_lenset, q_mt, q_mt0, q_setix, q_augs, q_aug, q_nsl, q_onone, q_osome, q_gsl, q_raise, q_raiseF, q_try, q_lc, q_lc2, q_yes, q_wipe0, q_wipe, q_xf, q_I, q_I0, q_U, q_add, q_addT, q_addL, q_addR, q_onL, q_onSt, q_onSl, q_onSs, q_onSrct, q_onSrcl, q_eqI, q_eqB, q_eqS, q_eqN, q_isN, q_ix, q_ixL, q_in, q_len, q_sum, q_max, q_min, q_max2, q_min2, q_abs, q_int, q_tupof, q_lstof, q_sort, q_rep, q_cat, q_isi, q_isis, q_setat, q_onC, q_append, q_pop, q_popAt, q_reverse, q_insert, q_sp1, q_sp2, q_sp3, q_sp4, q_at0, q_atS, q_st0, q_stS, q_iteT, q_iteF, q_isB, q_gCntT])
      have c9' : decide (some k = some s) = false := decide_eq_false fun z => c9 (Option.some.inj z)
      by_cases c0 : u.getD k 0 = 1
      · refine if_t (decide_eq_true c0) (RowD.onS (RowD.ref hc5) ⟨_, atI_iD (i := k + 1) (by omega), ?_⟩)
        (try dsimp only [q_op, q_un, q_var, q_c, q_nil, q_cons, q_tup, q_frz, q_cel, q_lst, q_test, q_onB, q_and, q_or, q_not, q_andV, q_orV, q_notV, q_if, q_chain, q_next, q_seq, q_drop, q_ret, q_retF, q_retN, q_sif, q_break, q_cont, q_name, q_dnil, q_dcons, q_dtup, q_asg, q_set, q_par, q_for, q_range1, q_range2, q_iseq, q_ienum, q_call, q_cb, q_ncb, q_nop, q_lenset, q_mt, q_mt0, q_setix, q_augs, q_aug, q_nsl, q_onone, q_osome, q_gsl, q_raise, q_raiseF, q_try, q_lc, q_lc2, q_yes, q_wipe0, q_wipe, q_xf, q_I, q_I0, q_U, q_add, q_addT, q_addL, q_addR, q_onL, q_onSt, q_onSl, q_onSs, q_onSrct, q_onSrcl, q_eqI, q_eqB, q_eqS, q_eqN, q_isN, q_ix, q_ixL, q_in, q_len, q_sum, q_max, q_min, q_max2, q_min2, q_abs, q_int, q_tupof, q_lstof, q_sort, q_rep, q_cat, q_isi, q_isis, q_setat, q_onC, q_append, q_pop, q_popAt, q_reverse, q_insert, q_sp1, q_sp2, q_sp3, q_sp4, q_at0, q_atS, q_st0, q_stS, q_iteT, q_iteF, q_isB, q_gCntT])
        by_cases c1 : u.getD (k + 1) 0 = 0
        · rw [if_pos (by rw [c9', decide_eq_true c0, decide_eq_true c1]; rfl)] at hN
          exact if_t (decide_eq_true c1) ⟨hz, hN⟩
        · rw [if_neg (by rw [decide_eq_false c1]; simp)] at hN
          exact if_f (decide_eq_false c1) (by simpa using hN)
      · rw [if_neg (by rw [decide_eq_false c0]; simp)] at hN
        exact if_f (decide_eq_false c0) (if_f (by rfl) (by simpa using hN))
    · rw [List.nil_append, fm_ite]
      have es : (List.map (fun k : Nat => D.int ((k : Nat) : Int)) (spotsF 1 0 (some s) u)) = (List.map (fun k : Nat => D.int ((k : Nat) : Int)) (List.filter (fun k => !decide (some k = some s) && (decide (u.getD k 0 = 1) && decide (u.getD (k + 1) 0 = 0))) (List.range (u.length - 1)))) := rfl
      rw [← es]
      have sl := spots_len 1 0 (some s) u
      rw [List.length_map]
      by_cases cs : (spotsF 1 0 (some s) u).length = 0
      · exact if_t (decide_eq_true (by omega)) (ret_drop t4.up q1)
      refine if_f (decide_eq_false (by omega)) ⟨p, _, rfl, rfl, by omega, pool_is t4, fun r zs r0 r1 => ?_⟩
      obtain ⟨k2, rfl⟩ : ∃ k : Nat, r = (k : Int) := ⟨r.toNat, by omega⟩
      have hk : k2 < (spotsF 1 0 (some s) u).length := by omega
      have mk := spots_mem (List.getElem_mem hk)
      have t5 := pool_take (ys := zs) t4
      (try dsimp only [q_op, q_un, q_var, q_c, q_nil, q_cons, q_tup, q_frz, q_cel, q_lst, q_test, q_onB, q_and, q_or, q_not, q_andV, q_orV, q_notV, q_if, q_chain, q_next, q_seq, q_drop, q_ret, q_retF, q_retN, q_sif, q_break, q_cont, q_name, q_dnil, q_dcons, q_dtup, q_asg, q_set, q_par, q_for, q_range1, q_range2, q_iseq, q_ienum, q_call, q_cb, q_ncb, q_nop, q_lenset, q_mt, q_mt0, q_setix, q_augs, q_aug, q_nsl, q_onone, q_osome, q_gsl, q_raise, q_raiseF, q_try, q_lc, q_lc2, q_yes, q_wipe0, q_wipe, q_xf, q_I, q_I0, q_U, q_add, q_addT, q_addL, q_addR, q_onL, q_onSt, q_onSl, q_onSs, q_onSrct, q_onSrcl, q_eqI, q_eqB, q_eqS, q_eqN, q_isN, q_ix, q_ixL, q_in, q_len, q_sum, q_max, q_min, q_max2, q_min2, q_abs, q_int, q_tupof, q_lstof, q_sort, q_rep, q_cat, q_isi, q_isis, q_setat, q_onC, q_append, q_pop, q_popAt, q_reverse, q_insert, q_sp1, q_sp2, q_sp3, q_sp4, q_at0, q_atS, q_st0, q_stS, q_iteT, q_iteF, q_isB, q_gCntT])
      refine ⟨_, L2.atI_nat (v := D.int (((spotsF 1 0 (some s) u)[k2] : Nat) : Int)) (by rw [List.getElem?_map, List.getElem?_eq_getElem hk]; rfl), ?_⟩
      generalize (spotsF 1 0 (some s) u)[k2] = v at mk ⊢
      obtain ⟨v1, v2, v3⟩ := mk
      generalize mset M5 p (.lst (iD zs)) = M6 at *
      have t6 := t5.set (r := (iD u).set v (.int 0)) (i := 0) (p := c) rfl
      have t7 := t6.set (r := ((iD u).set v (.int 0)).set (v + 1) (.int 1)) (i := 0) (p := c) rfl
      rw [set_exch v1 v2 v3] at t7
      (try dsimp only [q_op, q_un, q_var, q_c, q_nil, q_cons, q_tup, q_frz, q_cel, q_lst, q_test, q_onB, q_and, q_or, q_not, q_andV, q_orV, q_notV, q_if, q_chain, q_next, q_seq, q_drop, q_ret, q_retF, q_retN, q_sif, q_break, q_cont, q_name, q_dnil, q_dcons, q_dtup, q_asg, q_set, q_par, q_for, q_range1, q_range2, q_iseq, q_ienum, q_call, q_cb, q_ncb, q_nop, q_lenset, q_mt, q_mt0, q_setix, q_augs, q_aug, q_nsl, q_onone, q_osome, q_gsl, q_raise, q_raiseF, q_try, q_lc, q_lc2, q_yes, q_wipe0, q_wipe, q_xf, q_I, q_I0, q_U, q_add, q_addT, q_addL, q_addR, q_onL, q_onSt, q_onSl, q_onSs, q_onSrct, q_onSrcl, q_eqI, q_eqB, q_eqS, q_eqN, q_isN, q_ix, q_ixL, q_in, q_len, q_sum, q_max, q_min, q_max2, q_min2, q_abs, q_int, q_tupof, q_lstof, q_sort, q_rep, q_cat, q_isi, q_isis, q_setat, q_onC, q_append, q_pop, q_popAt, q_reverse, q_insert, q_sp1, q_sp2, q_sp3, q_sp4, q_at0, q_atS, q_st0, q_stS, q_iteT, q_iteF, q_isB, q_gCntT])
      refine ⟨_, tab_one t5, v, by rw [List.length_map]; exact ixN_nat (by omega), ?_⟩
      (try dsimp only [q_op, q_un, q_var, q_c, q_nil, q_cons, q_tup, q_frz, q_cel, q_lst, q_test, q_onB, q_and, q_or, q_not, q_andV, q_orV, q_notV, q_if, q_chain, q_next, q_seq, q_drop, q_ret, q_retF, q_retN, q_sif, q_break, q_cont, q_name, q_dnil, q_dcons, q_dtup, q_asg, q_set, q_par, q_for, q_range1, q_range2, q_iseq, q_ienum, q_call, q_cb, q_ncb, q_nop, q_lenset, q_mt, q_mt0, q_setix, q_augs, q_aug, q_nsl, q_onone, q_osome, q_gsl, q_raise, q_raiseF, q_try, q_lc, q_lc2, q_yes, q_wipe0, q_wipe, q_xf, q_I, q_I0, q_U, q_add, q_addT, q_addL, q_addR, q_onL, q_onSt, q_onSl, q_onSs, q_onSrct, q_onSrcl, q_eqI, q_eqB, q_eqS, q_eqN, q_isN, q_ix, q_ixL, q_in, q_len, q_sum, q_max, q_min, q_max2, q_min2, q_abs, q_int, q_tupof, q_lstof, q_sort, q_rep, q_cat, q_isi, q_isis, q_setat, q_onC, q_append, q_pop, q_popAt, q_reverse, q_insert, q_sp1, q_sp2, q_sp3, q_sp4, q_at0, q_atS, q_st0, q_stS, q_iteT, q_iteF, q_isB, q_gCntT])
      refine ⟨_, mset_same, v + 1, by rw [List.length_set, List.length_map]; exact ixN_nat (i := v + 1) v1, ?_⟩
      rw [set_exch v1 v2 v3]
      exact ret_lst t7.up (t7.new c (by simp)) (tab_one t7) (q _ zs ((exchI_perm v1).trans ep))
theorem b__law_same_holds : ∀ d0 M Q E, sp__law_same_holds K [d0] M Q E → g__law_same_holds K { nx := fun _ M => Q .non M, rt := Q, ex := fun x _ M => E x M } [some d0, none] M := by
  rintro d0 M Q E ⟨w, hr, G, q⟩
  unfold g__law_same_holds
  dsimp only [q_op, q_un, q_var, q_c, q_nil, q_cons, q_tup, q_frz, q_cel, q_lst, q_test, q_onB, q_and, q_or, q_not, q_andV, q_orV, q_notV, q_if, q_chain, q_next, q_seq, q_drop, q_ret, q_retF, q_retN, q_sif, q_break, q_cont, q_name, q_dnil, q_dcons, q_dtup, q_asg, q_set, q_par, q_for, q_range1, q_range2, q_iseq, q_ienum, q_call, q_cb, q_ncb, q_nop, q_lenset, q_mt, q_mt0, q_setix, q_augs, q_aug, q_nsl, q_onone, q_osome, q_gsl, q_raise, q_raiseF, q_try, q_lc, q_lc2, q_yes, q_wipe0, q_wipe, q_xf, q_I, q_I0, q_U, q_add, q_addT, q_addL, q_addR, q_onL, q_onSt, q_onSl, q_onSs, q_onSrct, q_onSrcl, q_eqI, q_eqB, q_eqS, q_eqN, q_isN, q_ix, q_ixL, q_in, q_len, q_sum, q_max, q_min, q_max2, q_min2, q_abs, q_int, q_tupof, q_lstof, q_sort, q_rep, q_cat, q_isi, q_isis, q_setat, q_onC, q_append, q_pop, q_popAt, q_reverse, q_insert, q_sp1, q_sp2, q_sp3, q_sp4, q_at0, q_atS, q_st0, q_stS, q_iteT, q_iteF, q_isB, q_gCntT, sp_same_lead, sp__law_lone]
  refine wordC_good G hr ?_
  (try dsimp only [q_op, q_un, q_var, q_c, q_nil, q_cons, q_tup, q_frz, q_cel, q_lst, q_test, q_onB, q_and, q_or, q_not, q_andV, q_orV, q_notV, q_if, q_chain, q_next, q_seq, q_drop, q_ret, q_retF, q_retN, q_sif, q_break, q_cont, q_name, q_dnil, q_dcons, q_dtup, q_asg, q_set, q_par, q_for, q_range1, q_range2, q_iseq, q_ienum, q_call, q_cb, q_ncb, q_nop, q_lenset, q_mt, q_mt0, q_setix, q_augs, q_aug, q_nsl, q_onone, q_osome, q_gsl, q_raise, q_raiseF, q_try, q_lc, q_lc2, q_yes, q_wipe0, q_wipe, q_xf, q_I, q_I0, q_U, q_add, q_addT, q_addL, q_addR, q_onL, q_onSt, q_onSl, q_onSs, q_onSrct, q_onSrcl, q_eqI, q_eqB, q_eqS, q_eqN, q_isN, q_ix, q_ixL, q_in, q_len, q_sum, q_max, q_min, q_max2, q_min2, q_abs, q_int, q_tupof, q_lstof, q_sort, q_rep, q_cat, q_isi, q_isis, q_setat, q_onC, q_append, q_pop, q_popAt, q_reverse, q_insert, q_sp1, q_sp2, q_sp3, q_sp4, q_at0, q_atS, q_st0, q_stS, q_iteT, q_iteF, q_isB, q_gCntT])
  refine ⟨_, _, rfl, rfl, ?_⟩
  (try dsimp only [q_op, q_un, q_var, q_c, q_nil, q_cons, q_tup, q_frz, q_cel, q_lst, q_test, q_onB, q_and, q_or, q_not, q_andV, q_orV, q_notV, q_if, q_chain, q_next, q_seq, q_drop, q_ret, q_retF, q_retN, q_sif, q_break, q_cont, q_name, q_dnil, q_dcons, q_dtup, q_asg, q_set, q_par, q_for, q_range1, q_range2, q_iseq, q_ienum, q_call, q_cb, q_ncb, q_nop, q_lenset, q_mt, q_mt0, q_setix, q_augs, q_aug, q_nsl, q_onone, q_osome, q_gsl, q_raise, q_raiseF, q_try, q_lc, q_lc2, q_yes, q_wipe0, q_wipe, q_xf, q_I, q_I0, q_U, q_add, q_addT, q_addL, q_addR, q_onL, q_onSt, q_onSl, q_onSs, q_onSrct, q_onSrcl, q_eqI, q_eqB, q_eqS, q_eqN, q_isN, q_ix, q_ixL, q_in, q_len, q_sum, q_max, q_min, q_max2, q_min2, q_abs, q_int, q_tupof, q_lstof, q_sort, q_rep, q_cat, q_isi, q_isis, q_setat, q_onC, q_append, q_pop, q_popAt, q_reverse, q_insert, q_sp1, q_sp2, q_sp3, q_sp4, q_at0, q_atS, q_st0, q_stS, q_iteT, q_iteF, q_isB, q_gCntT])
  refine if_t (by rfl) ⟨w, hr, G, ?_⟩
  rw [same_lone G, decide_eq_true rfl]
  exact q
end
end LW

namespace LW
open PySem PySem.Spec PyProof.Rows L2 DL
section
variable {P : Program} {w : World} {K : PySem.W.Frag} {mg : Str → Option Value} {base : Heap}
theorem wordC_imp {M : Mem} {d : D} {n : Int} {E E' : DXK} {k k' : List Int → Prop} (h1 : ∀ x, E x M → E' x M) (h2 : ∀ ns, k ns → k' ns) : wordC K M d n E k → wordC K M d n E' k' := by
  rintro (⟨t, a, b, c, e⟩ | ⟨xs, a, b, c, e⟩)
  · exact .inl ⟨t, a, b, c, h1 _ e⟩
  · refine .inr ⟨xs, a, b, c, ?_⟩
    cases z : letE n xs with
    | some p => simp only [z] at e ⊢; exact h1 _ e
    | none => simp only [z] at e ⊢; exact h2 _ e
theorem twoC_imp {M : Mem} {a b : D} {E E' : DXK} {k k' : List Int → List Int → Prop} (h1 : ∀ x, E x M → E' x M) (h2 : ∀ one two, k one two → k' one two) : twoC K M a b E k → twoC K M a b E' k' :=
  wordC_imp h1 fun one => wordC_imp h1 fun two z => by
    split
    · rename_i c; rw [if_pos c] at z; exact h1 _ z
    · rename_i c
      rw [if_neg c] at z
      split
      · rename_i c2; rw [if_pos c2] at z; exact h1 _ z
      · rename_i c2; rw [if_neg c2] at z; exact h2 _ _ z
theorem b__law_told (T : Tx K mg) : ∀ d0 d1 d2 M Q E, sp__law_told K [d0, d1, d2] M Q E → g__law_told K { nx := fun _ M => Q .non M, rt := Q, ex := fun x _ M => E x M } [some d0, some d1, some d2, none, none] M := by
  rintro d0 d1 d2 M Q E h
  unfold g__law_told
  dsimp only [q_op, q_un, q_var, q_c, q_nil, q_cons, q_tup, q_frz, q_cel, q_lst, q_test, q_onB, q_and, q_or, q_not, q_andV, q_orV, q_notV, q_if, q_chain, q_next, q_seq, q_drop, q_ret, q_retF, q_retN, q_sif, q_break, q_cont, q_name, q_dnil, q_dcons, q_dtup, q_asg, q_set, q_par, q_for, q_range1, q_range2, q_iseq, q_ienum, q_call, q_cb, q_ncb, q_nop, q_lenset, q_mt, q_mt0, q_setix, q_augs, q_aug, q_nsl, q_onone, q_osome, q_gsl, q_raise, q_raiseF, q_try, q_lc, q_lc2, q_yes, q_wipe0, q_wipe, q_xf, q_I, q_I0, q_U, q_add, q_addT, q_addL, q_addR, q_onL, q_onSt, q_onSl, q_onSs, q_onSrct, q_onSrcl, q_eqI, q_eqB, q_eqS, q_eqN, q_isN, q_ix, q_ixL, q_in, q_len, q_sum, q_max, q_min, q_max2, q_min2, q_abs, q_int, q_tupof, q_lstof, q_sort, q_rep, q_cat, q_isi, q_isis, q_setat, q_onC, q_append, q_pop, q_popAt, q_reverse, q_insert, q_sp1, q_sp2, q_sp3, q_sp4, q_at0, q_atS, q_st0, q_stS, q_iteT, q_iteF, q_isB, q_gCntT, sp_paired_moves, sp_paired_way, sp_same_lead]
  refine ⟨by rw [sz]; show 1 ≤ 16777216; decide, ?_⟩
  have hx : ∀ (x : DX) (y : D), toldX K Q x M → dHds K { nx := sRet (gVar 3) { nx := fun _ M => Q .non M, rt := Q, ex := fun x _ M => E x M }, rt := Q, ex := fun x _ M => E x M }
      [(Value.ref (He.ga K "BadWord"), some 4, fun a cls d fs => (sSet 3 (gFrz (nLst (aCons (gC (.str "word")) (aCons (gXf a cls d (He.ga K "BadWord") "place" (gVar 4)) aNil)))))), (Value.ref (He.ga K "OtherSize"), some 4, fun a cls d fs => (sSet 3 (gFrz (nLst (aCons (gC (.str "size")) (aCons (gXf a cls d (He.ga K "OtherSize") "first" (gVar 4)) (aCons (gXf a cls d (He.ga K "OtherSize") "second" (gVar 4)) aNil))))))), (Value.ref (He.ga K "DiceError"), none, fun a cls d fs => (sSet 3 (gFrz (nLst (aCons (gC (.str "other")) aNil)))))]
      x [some d0, some d1, some d2, some y, none] M := by
    rintro x y (⟨p, rfl, q⟩ | ⟨a, b, rfl, q⟩)
    · refine ⟨true, T.x_BadWord_BadWord, fun _ a d hd => ?_, fun z => nomatch z⟩
      (try dsimp only [q_op, q_un, q_var, q_c, q_nil, q_cons, q_tup, q_frz, q_cel, q_lst, q_test, q_onB, q_and, q_or, q_not, q_andV, q_orV, q_notV, q_if, q_chain, q_next, q_seq, q_drop, q_ret, q_retF, q_retN, q_sif, q_break, q_cont, q_name, q_dnil, q_dcons, q_dtup, q_asg, q_set, q_par, q_for, q_range1, q_range2, q_iseq, q_ienum, q_call, q_cb, q_ncb, q_nop, q_lenset, q_mt, q_mt0, q_setix, q_augs, q_aug, q_nsl, q_onone, q_osome, q_gsl, q_raise, q_raiseF, q_try, q_lc, q_lc2, q_yes, q_wipe0, q_wipe, q_xf, q_I, q_I0, q_U, q_add, q_addT, q_addL, q_addR, q_onL, q_onSt, q_onSl, q_onSs, q_onSrct, q_onSrcl, q_eqI, q_eqB, q_eqS, q_eqN, q_isN, q_ix, q_ixL, q_in, q_len, q_sum, q_max, q_min, q_max2, q_min2, q_abs, q_int, q_tupof, q_lstof, q_sort, q_rep, q_cat, q_isi, q_isis, q_setat, q_onC, q_append, q_pop, q_popAt, q_reverse, q_insert, q_sp1, q_sp2, q_sp3, q_sp4, q_at0, q_atS, q_st0, q_stS, q_iteT, q_iteF, q_isB, q_gCntT])
      refine ⟨rfl, _, .int p, rfl, by simp [xBW, exOf, List.lookup], ?_⟩
      exact ⟨by rw [sz]; show 2 ≤ 16777216; decide, q⟩
    · refine ⟨false, T.x_OtherSize_BadWord, (fun z => nomatch z), fun _ => ⟨true, T.x_OtherSize_OtherSize, fun _ e d hd => ?_, (fun z => nomatch z)⟩⟩
      (try dsimp only [q_op, q_un, q_var, q_c, q_nil, q_cons, q_tup, q_frz, q_cel, q_lst, q_test, q_onB, q_and, q_or, q_not, q_andV, q_orV, q_notV, q_if, q_chain, q_next, q_seq, q_drop, q_ret, q_retF, q_retN, q_sif, q_break, q_cont, q_name, q_dnil, q_dcons, q_dtup, q_asg, q_set, q_par, q_for, q_range1, q_range2, q_iseq, q_ienum, q_call, q_cb, q_ncb, q_nop, q_lenset, q_mt, q_mt0, q_setix, q_augs, q_aug, q_nsl, q_onone, q_osome, q_gsl, q_raise, q_raiseF, q_try, q_lc, q_lc2, q_yes, q_wipe0, q_wipe, q_xf, q_I, q_I0, q_U, q_add, q_addT, q_addL, q_addR, q_onL, q_onSt, q_onSl, q_onSs, q_onSrct, q_onSrcl, q_eqI, q_eqB, q_eqS, q_eqN, q_isN, q_ix, q_ixL, q_in, q_len, q_sum, q_max, q_min, q_max2, q_min2, q_abs, q_int, q_tupof, q_lstof, q_sort, q_rep, q_cat, q_isi, q_isis, q_setat, q_onC, q_append, q_pop, q_popAt, q_reverse, q_insert, q_sp1, q_sp2, q_sp3, q_sp4, q_at0, q_atS, q_st0, q_stS, q_iteT, q_iteF, q_isB, q_gCntT])
      have ne : (("first" : Str) == ("second" : Str)) = false := by decide +kernel
      refine ⟨rfl, _, .int a, rfl, by simp [xOS, exOf, List.lookup, ne], ?_⟩
      refine ⟨rfl, _, .int b, rfl, by simp [xOS, exOf, List.lookup], ?_⟩
      exact ⟨by rw [sz]; show 3 ≤ 16777216; decide, q⟩
  rcases h with ⟨rfl | rfl, h⟩ | ⟨rfl, h⟩
  · (try dsimp only [q_op, q_un, q_var, q_c, q_nil, q_cons, q_tup, q_frz, q_cel, q_lst, q_test, q_onB, q_and, q_or, q_not, q_andV, q_orV, q_notV, q_if, q_chain, q_next, q_seq, q_drop, q_ret, q_retF, q_retN, q_sif, q_break, q_cont, q_name, q_dnil, q_dcons, q_dtup, q_asg, q_set, q_par, q_for, q_range1, q_range2, q_iseq, q_ienum, q_call, q_cb, q_ncb, q_nop, q_lenset, q_mt, q_mt0, q_setix, q_augs, q_aug, q_nsl, q_onone, q_osome, q_gsl, q_raise, q_raiseF, q_try, q_lc, q_lc2, q_yes, q_wipe0, q_wipe, q_xf, q_I, q_I0, q_U, q_add, q_addT, q_addL, q_addR, q_onL, q_onSt, q_onSl, q_onSs, q_onSrct, q_onSrcl, q_eqI, q_eqB, q_eqS, q_eqN, q_isN, q_ix, q_ixL, q_in, q_len, q_sum, q_max, q_min, q_max2, q_min2, q_abs, q_int, q_tupof, q_lstof, q_sort, q_rep, q_cat, q_isi, q_isis, q_setat, q_onC, q_append, q_pop, q_popAt, q_reverse, q_insert, q_sp1, q_sp2, q_sp3, q_sp4, q_at0, q_atS, q_st0, q_stS, q_iteT, q_iteF, q_isB, q_gCntT])
    rw [if_pos (by decide)]
    exact twoC_imp (fun x hx' => hx x _ hx') (fun _ _ z => z.elim) h
  · (try dsimp only [q_op, q_un, q_var, q_c, q_nil, q_cons, q_tup, q_frz, q_cel, q_lst, q_test, q_onB, q_and, q_or, q_not, q_andV, q_orV, q_notV, q_if, q_chain, q_next, q_seq, q_drop, q_ret, q_retF, q_retN, q_sif, q_break, q_cont, q_name, q_dnil, q_dcons, q_dtup, q_asg, q_set, q_par, q_for, q_range1, q_range2, q_iseq, q_ienum, q_call, q_cb, q_ncb, q_nop, q_lenset, q_mt, q_mt0, q_setix, q_augs, q_aug, q_nsl, q_onone, q_osome, q_gsl, q_raise, q_raiseF, q_try, q_lc, q_lc2, q_yes, q_wipe0, q_wipe, q_xf, q_I, q_I0, q_U, q_add, q_addT, q_addL, q_addR, q_onL, q_onSt, q_onSl, q_onSs, q_onSrct, q_onSrcl, q_eqI, q_eqB, q_eqS, q_eqN, q_isN, q_ix, q_ixL, q_in, q_len, q_sum, q_max, q_min, q_max2, q_min2, q_abs, q_int, q_tupof, q_lstof, q_sort, q_rep, q_cat, q_isi, q_isis, q_setat, q_onC, q_append, q_pop, q_popAt, q_reverse, q_insert, q_sp1, q_sp2, q_sp3, q_sp4, q_at0, q_atS, q_st0, q_stS, q_iteT, q_iteF, q_isB, q_gCntT])
    rw [if_neg (by decide), if_pos (by decide)]
    exact twoC_imp (fun x hx' => hx x _ hx') (fun _ _ z => z.elim) h
  · (try dsimp only [q_op, q_un, q_var, q_c, q_nil, q_cons, q_tup, q_frz, q_cel, q_lst, q_test, q_onB, q_and, q_or, q_not, q_andV, q_orV, q_notV, q_if, q_chain, q_next, q_seq, q_drop, q_ret, q_retF, q_retN, q_sif, q_break, q_cont, q_name, q_dnil, q_dcons, q_dtup, q_asg, q_set, q_par, q_for, q_range1, q_range2, q_iseq, q_ienum, q_call, q_cb, q_ncb, q_nop, q_lenset, q_mt, q_mt0, q_setix, q_augs, q_aug, q_nsl, q_onone, q_osome, q_gsl, q_raise, q_raiseF, q_try, q_lc, q_lc2, q_yes, q_wipe0, q_wipe, q_xf, q_I, q_I0, q_U, q_add, q_addT, q_addL, q_addR, q_onL, q_onSt, q_onSl, q_onSs, q_onSrct, q_onSrcl, q_eqI, q_eqB, q_eqS, q_eqN, q_isN, q_ix, q_ixL, q_in, q_len, q_sum, q_max, q_min, q_max2, q_min2, q_abs, q_int, q_tupof, q_lstof, q_sort, q_rep, q_cat, q_isi, q_isis, q_setat, q_onC, q_append, q_pop, q_popAt, q_reverse, q_insert, q_sp1, q_sp2, q_sp3, q_sp4, q_at0, q_atS, q_st0, q_stS, q_iteT, q_iteF, q_isB, q_gCntT])
    rw [if_neg (by decide), if_neg (by decide), if_pos (by decide)]
    exact wordC_imp (fun x hx' => hx x _ hx') (fun _ z => z.elim) h
end
section
variable {K : PySem.W.Frag}
theorem twoC_good {M : Mem} {a b : D} {E : DXK} {k : List Int → List Int → Prop} {w v : List Int} (G : GoodW 2 w) (hs : sortI w = sortI v) (r : RowD M a (iD w)) (r2 : RowD M b (iD v)) (h : k w v) : twoC K M a b E k := by
  refine wordC_good G r (wordC_good (good_le G hs) r2 ?_)
  have := sort_length hs
  rw [if_neg (by simp [this]), if_neg (by simp [hs])]
  exact h
theorem way_end {w v : List Int} {ws : List (List Int)} (G : GoodW 2 w) (hs : sortI w = sortI v) (c : moreC w v = lessC w v) (hc : chainP v w ws) (hlen : ws.length = moreC w v) : (w :: ws).getD (moreC w v) [] = v := by
  have W := way1 ws w G hs rfl c.symm hc hlen (moreC w v) (Nat.le_refl _)
  exact same_none (good_le G W.sort.symm) (W.sort.trans hs) (by have := W.more; omega) (by have := W.less; omega)
theorem more_flip {w v : List Int} (hs : sortI w = sortI v) : moreC v w = lessC w v ∧ lessC v w = moreC w v := by
  unfold moreC lessC
  rw [sort_count hs 0, sort_count hs 1]
  exact ⟨rfl, rfl⟩
theorem b__law_way_holds : ∀ d0 d1 M Q E, sp__law_way_holds K [d0, d1] M Q E → g__law_way_holds K { nx := fun _ M => Q .non M, rt := Q, ex := fun x _ M => E x M } [some d0, some d1, none, none, none, none, none, none] M := by
  rintro d0 d1 M Q E ⟨w, v, hr, hr2, G, hs, q⟩
  have Gv := good_le G hs
  have hl := G.2.2.1
  unfold g__law_way_holds
  dsimp only [q_op, q_un, q_var, q_c, q_nil, q_cons, q_tup, q_frz, q_cel, q_lst, q_test, q_onB, q_and, q_or, q_not, q_andV, q_orV, q_notV, q_if, q_chain, q_next, q_seq, q_drop, q_ret, q_retF, q_retN, q_sif, q_break, q_cont, q_name, q_dnil, q_dcons, q_dtup, q_asg, q_set, q_par, q_for, q_range1, q_range2, q_iseq, q_ienum, q_call, q_cb, q_ncb, q_nop, q_lenset, q_mt, q_mt0, q_setix, q_augs, q_aug, q_nsl, q_onone, q_osome, q_gsl, q_raise, q_raiseF, q_try, q_lc, q_lc2, q_yes, q_wipe0, q_wipe, q_xf, q_I, q_I0, q_U, q_add, q_addT, q_addL, q_addR, q_onL, q_onSt, q_onSl, q_onSs, q_onSrct, q_onSrcl, q_eqI, q_eqB, q_eqS, q_eqN, q_isN, q_ix, q_ixL, q_in, q_len, q_sum, q_max, q_min, q_max2, q_min2, q_abs, q_int, q_tupof, q_lstof, q_sort, q_rep, q_cat, q_isi, q_isis, q_setat, q_onC, q_append, q_pop, q_popAt, q_reverse, q_insert, q_sp1, q_sp2, q_sp3, q_sp4, q_at0, q_atS, q_st0, q_stS, q_iteT, q_iteF, q_isB, q_gCntT, sp__law_sides, sp_paired_moves, sp_paired_way, sp_word_table, sp__law_int, sp_same_lead]
  refine ⟨w, v, hr, hr2, hl, hs, ?_⟩
  refine twoC_good G hs hr hr2 ?_
  refine twoC_good G hs hr hr2 ?_
  by_cases c : moreC w v = lessC w v
  · rw [if_pos c]
    intro ws hc hlen
    have em : movesD w v = .int (moreC w v : Nat) := if_pos c
    rw [em, ← c]
    have hm := more_le v hl
    have W1 := way1 ws w G hs rfl c.symm hc hlen
    have lw : (w :: ws).length = moreC w v + 1 := by rw [List.length_cons, hlen]
    (try dsimp only [q_op, q_un, q_var, q_c, q_nil, q_cons, q_tup, q_frz, q_cel, q_lst, q_test, q_onB, q_and, q_or, q_not, q_andV, q_orV, q_notV, q_if, q_chain, q_next, q_seq, q_drop, q_ret, q_retF, q_retN, q_sif, q_break, q_cont, q_name, q_dnil, q_dcons, q_dtup, q_asg, q_set, q_par, q_for, q_range1, q_range2, q_iseq, q_ienum, q_call, q_cb, q_ncb, q_nop, q_lenset, q_mt, q_mt0, q_setix, q_augs, q_aug, q_nsl, q_onone, q_osome, q_gsl, q_raise, q_raiseF, q_try, q_lc, q_lc2, q_yes, q_wipe0, q_wipe, q_xf, q_I, q_I0, q_U, q_add, q_addT, q_addL, q_addR, q_onL, q_onSt, q_onSl, q_onSs, q_onSrct, q_onSrcl, q_eqI, q_eqB, q_eqS, q_eqN, q_isN, q_ix, q_ixL, q_in, q_len, q_sum, q_max, q_min, q_max2, q_min2, q_abs, q_int, q_tupof, q_lstof, q_sort, q_rep, q_cat, q_isi, q_isis, q_setat, q_onC, q_append, q_pop, q_popAt, q_reverse, q_insert, q_sp1, q_sp2, q_sp3, q_sp4, q_at0, q_atS, q_st0, q_stS, q_iteT, q_iteF, q_isB, q_gCntT])
    refine ⟨_, rfl, _, rfl, ?_⟩
    (try dsimp only [q_op, q_un, q_var, q_c, q_nil, q_cons, q_tup, q_frz, q_cel, q_lst, q_test, q_onB, q_and, q_or, q_not, q_andV, q_orV, q_notV, q_if, q_chain, q_next, q_seq, q_drop, q_ret, q_retF, q_retN, q_sif, q_break, q_cont, q_name, q_dnil, q_dcons, q_dtup, q_asg, q_set, q_par, q_for, q_range1, q_range2, q_iseq, q_ienum, q_call, q_cb, q_ncb, q_nop, q_lenset, q_mt, q_mt0, q_setix, q_augs, q_aug, q_nsl, q_onone, q_osome, q_gsl, q_raise, q_raiseF, q_try, q_lc, q_lc2, q_yes, q_wipe0, q_wipe, q_xf, q_I, q_I0, q_U, q_add, q_addT, q_addL, q_addR, q_onL, q_onSt, q_onSl, q_onSs, q_onSrct, q_onSrcl, q_eqI, q_eqB, q_eqS, q_eqN, q_isN, q_ix, q_ixL, q_in, q_len, q_sum, q_max, q_min, q_max2, q_min2, q_abs, q_int, q_tupof, q_lstof, q_sort, q_rep, q_cat, q_isi, q_isis, q_setat, q_onC, q_append, q_pop, q_popAt, q_reverse, q_insert, q_sp1, q_sp2, q_sp3, q_sp4, q_at0, q_atS, q_st0, q_stS, q_iteT, q_iteF, q_isB, q_gCntT])
    refine if_f (by simp) ⟨.int, rfl, if_f (by rfl) ⟨_, rfl, ?_⟩⟩
    (try dsimp only [q_op, q_un, q_var, q_c, q_nil, q_cons, q_tup, q_frz, q_cel, q_lst, q_test, q_onB, q_and, q_or, q_not, q_andV, q_orV, q_notV, q_if, q_chain, q_next, q_seq, q_drop, q_ret, q_retF, q_retN, q_sif, q_break, q_cont, q_name, q_dnil, q_dcons, q_dtup, q_asg, q_set, q_par, q_for, q_range1, q_range2, q_iseq, q_ienum, q_call, q_cb, q_ncb, q_nop, q_lenset, q_mt, q_mt0, q_setix, q_augs, q_aug, q_nsl, q_onone, q_osome, q_gsl, q_raise, q_raiseF, q_try, q_lc, q_lc2, q_yes, q_wipe0, q_wipe, q_xf, q_I, q_I0, q_U, q_add, q_addT, q_addL, q_addR, q_onL, q_onSt, q_onSl, q_onSs, q_onSrct, q_onSrcl, q_eqI, q_eqB, q_eqS, q_eqN, q_isN, q_ix, q_ixL, q_in, q_len, q_sum, q_max, q_min, q_max2, q_min2, q_abs, q_int, q_tupof, q_lstof, q_sort, q_rep, q_cat, q_isi, q_isis, q_setat, q_onC, q_append, q_pop, q_popAt, q_reverse, q_insert, q_sp1, q_sp2, q_sp3, q_sp4, q_at0, q_atS, q_st0, q_stS, q_iteT, q_iteF, q_isB, q_gCntT])
    refine if_f (by simp) ⟨.list, true, rfl, rfl, ?_⟩
    (try dsimp only [q_op, q_un, q_var, q_c, q_nil, q_cons, q_tup, q_frz, q_cel, q_lst, q_test, q_onB, q_and, q_or, q_not, q_andV, q_orV, q_notV, q_if, q_chain, q_next, q_seq, q_drop, q_ret, q_retF, q_retN, q_sif, q_break, q_cont, q_name, q_dnil, q_dcons, q_dtup, q_asg, q_set, q_par, q_for, q_range1, q_range2, q_iseq, q_ienum, q_call, q_cb, q_ncb, q_nop, q_lenset, q_mt, q_mt0, q_setix, q_augs, q_aug, q_nsl, q_onone, q_osome, q_gsl, q_raise, q_raiseF, q_try, q_lc, q_lc2, q_yes, q_wipe0, q_wipe, q_xf, q_I, q_I0, q_U, q_add, q_addT, q_addL, q_addR, q_onL, q_onSt, q_onSl, q_onSs, q_onSrct, q_onSrcl, q_eqI, q_eqB, q_eqS, q_eqN, q_isN, q_ix, q_ixL, q_in, q_len, q_sum, q_max, q_min, q_max2, q_min2, q_abs, q_int, q_tupof, q_lstof, q_sort, q_rep, q_cat, q_isi, q_isis, q_setat, q_onC, q_append, q_pop, q_popAt, q_reverse, q_insert, q_sp1, q_sp2, q_sp3, q_sp4, q_at0, q_atS, q_st0, q_stS, q_iteT, q_iteF, q_isB, q_gCntT])
    refine if_f (by rfl) (if_f (by rw [tups_len, lw]; simp) ⟨_, tups_at (i := 0) (by omega), hr.onS ?_⟩)
    refine eq_tupI _ _ ?_
    (try dsimp only [q_op, q_un, q_var, q_c, q_nil, q_cons, q_tup, q_frz, q_cel, q_lst, q_test, q_onB, q_and, q_or, q_not, q_andV, q_orV, q_notV, q_if, q_chain, q_next, q_seq, q_drop, q_ret, q_retF, q_retN, q_sif, q_break, q_cont, q_name, q_dnil, q_dcons, q_dtup, q_asg, q_set, q_par, q_for, q_range1, q_range2, q_iseq, q_ienum, q_call, q_cb, q_ncb, q_nop, q_lenset, q_mt, q_mt0, q_setix, q_augs, q_aug, q_nsl, q_onone, q_osome, q_gsl, q_raise, q_raiseF, q_try, q_lc, q_lc2, q_yes, q_wipe0, q_wipe, q_xf, q_I, q_I0, q_U, q_add, q_addT, q_addL, q_addR, q_onL, q_onSt, q_onSl, q_onSs, q_onSrct, q_onSrcl, q_eqI, q_eqB, q_eqS, q_eqN, q_isN, q_ix, q_ixL, q_in, q_len, q_sum, q_max, q_min, q_max2, q_min2, q_abs, q_int, q_tupof, q_lstof, q_sort, q_rep, q_cat, q_isi, q_isis, q_setat, q_onC, q_append, q_pop, q_popAt, q_reverse, q_insert, q_sp1, q_sp2, q_sp3, q_sp4, q_at0, q_atS, q_st0, q_stS, q_iteT, q_iteF, q_isB, q_gCntT])
    refine if_f (by simp) ⟨_, tups_at (i := moreC w v) (by omega), hr2.onS ?_⟩
    rw [way_end G hs c hc hlen]
    refine eq_tupI _ _ ?_
    (try dsimp only [q_op, q_un, q_var, q_c, q_nil, q_cons, q_tup, q_frz, q_cel, q_lst, q_test, q_onB, q_and, q_or, q_not, q_andV, q_orV, q_notV, q_if, q_chain, q_next, q_seq, q_drop, q_ret, q_retF, q_retN, q_sif, q_break, q_cont, q_name, q_dnil, q_dcons, q_dtup, q_asg, q_set, q_par, q_for, q_range1, q_range2, q_iseq, q_ienum, q_call, q_cb, q_ncb, q_nop, q_lenset, q_mt, q_mt0, q_setix, q_augs, q_aug, q_nsl, q_onone, q_osome, q_gsl, q_raise, q_raiseF, q_try, q_lc, q_lc2, q_yes, q_wipe0, q_wipe, q_xf, q_I, q_I0, q_U, q_add, q_addT, q_addL, q_addR, q_onL, q_onSt, q_onSl, q_onSs, q_onSrct, q_onSrcl, q_eqI, q_eqB, q_eqS, q_eqN, q_isN, q_ix, q_ixL, q_in, q_len, q_sum, q_max, q_min, q_max2, q_min2, q_abs, q_int, q_tupof, q_lstof, q_sort, q_rep, q_cat, q_isi, q_isis, q_setat, q_onC, q_append, q_pop, q_popAt, q_reverse, q_insert, q_sp1, q_sp2, q_sp3, q_sp4, q_at0, q_atS, q_st0, q_stS, q_iteT, q_iteF, q_isB, q_gCntT])
    refine if_f (by simp) ⟨⟨by omega, by omega⟩, ?_⟩
    rw [Int.toNat_natCast]
    refine loop_rg0 (fun s ρ M' => (∃ a b c, ρ = [some d0, some d1, some (.lst [.int (moreC w v : Nat), .int (moreC w v : Nat)]), some (.int (moreC w v : Nat)), some (.lst (tups (w :: ws))), a, b, c]) ∧ M' = M) ?_ ?_ ⟨⟨_, _, _, rfl⟩, rfl⟩
    · rintro s ρ M' hsl ⟨⟨a, b, c', rfl⟩, rfl⟩ Nx hN
      have g0 := tups_at (ws := w :: ws) (i := s) (by omega)
      have g1 : atI (tups (w :: ws)) ((s : Nat) + 1 : Int) = some (.tup (iD ((w :: ws).getD (s + 1) []))) := by
        rw [show ((s : Nat) : Int) + 1 = ((s + 1 : Nat) : Int) by omega]
        exact tups_at (by omega)
      have U := W1 s (by omega)
      have R := W1 (s + 1) (by omega)
      have st := way1_step (m := 0) ws w hc s (by omega)
      generalize hu : (w :: ws).getD s [] = u at *
      generalize hv : (w :: ws).getD (s + 1) [] = r at *
      have Gu : GoodW 2 u := good_le G U.sort.symm
      have Gr : GoodW 2 r := good_le G R.sort.symm
      have us : sortI u = sortI v := U.sort.trans hs
      have rs : sortI r = sortI v := R.sort.trans hs
      have u1 := U.more
      have u2 := U.less
      have r1 := R.more
      have r2 := R.less
      have P1 := pair_step Gu us (by omega) (by omega) st
      have lu := sort_length U.sort
      have lr := sort_length R.sort
      have nx : Nx [some d0, some d1, some (.lst [.int (moreC w v : Nat), .int (moreC w v : Nat)]), some (.int (moreC w v : Nat)), some (.lst (tups (w :: ws))), some (.int (s : Nat)), some (.tup (iD u)), some (.tup (iD r))] M' := hN _ _ ⟨⟨_, _, _, rfl⟩, rfl⟩
      (try dsimp only [q_op, q_un, q_var, q_c, q_nil, q_cons, q_tup, q_frz, q_cel, q_lst, q_test, q_onB, q_and, q_or, q_not, q_andV, q_orV, q_notV, q_if, q_chain, q_next, q_seq, q_drop, q_ret, q_retF, q_retN, q_sif, q_break, q_cont, q_name, q_dnil, q_dcons, q_dtup, q_asg, q_set, q_par, q_for, q_range1, q_range2, q_iseq, q_ienum, q_call, q_cb, q_ncb, q_nop, q_lenset, q_mt, q_mt0, q_setix, q_augs, q_aug, q_nsl, q_onone, q_osome, q_gsl, q_raise, q_raiseF, q_try, q_lc, q_lc2, q_yes, q_wipe0, q_wipe, q_xf, q_I, q_I0, q_U, q_add, q_addT, q_addL, q_addR, q_onL, q_onSt, q_onSl, q_onSs, q_onSrct, q_onSrcl, q_eqI, q_eqB, q_eqS, q_eqN, q_isN, q_ix, q_ixL, q_in, q_len, q_sum, q_max, q_min, q_max2, q_min2, q_abs, q_int, q_tupof, q_lstof, q_sort, q_rep, q_cat, q_isi, q_isis, q_setat, q_onC, q_append, q_pop, q_popAt, q_reverse, q_insert, q_sp1, q_sp2, q_sp3, q_sp4, q_at0, q_atS, q_st0, q_stS, q_iteT, q_iteF, q_isB, q_gCntT])
      refine ⟨_, g0, _, g1, ?_⟩
      refine ⟨.tuple, true, rfl, rfl, ?_⟩
      (try dsimp only [q_op, q_un, q_var, q_c, q_nil, q_cons, q_tup, q_frz, q_cel, q_lst, q_test, q_onB, q_and, q_or, q_not, q_andV, q_orV, q_notV, q_if, q_chain, q_next, q_seq, q_drop, q_ret, q_retF, q_retN, q_sif, q_break, q_cont, q_name, q_dnil, q_dcons, q_dtup, q_asg, q_set, q_par, q_for, q_range1, q_range2, q_iseq, q_ienum, q_call, q_cb, q_ncb, q_nop, q_lenset, q_mt, q_mt0, q_setix, q_augs, q_aug, q_nsl, q_onone, q_osome, q_gsl, q_raise, q_raiseF, q_try, q_lc, q_lc2, q_yes, q_wipe0, q_wipe, q_xf, q_I, q_I0, q_U, q_add, q_addT, q_addL, q_addR, q_onL, q_onSt, q_onSl, q_onSs, q_onSrct, q_onSrcl, q_eqI, q_eqB, q_eqS, q_eqN, q_isN, q_ix, q_ixL, q_in, q_len, q_sum, q_max, q_min, q_max2, q_min2, q_abs, q_int, q_tupof, q_lstof, q_sort, q_rep, q_cat, q_isi, q_isis, q_setat, q_onC, q_append, q_pop, q_popAt, q_reverse, q_insert, q_sp1, q_sp2, q_sp3, q_sp4, q_at0, q_atS, q_st0, q_stS, q_iteT, q_iteF, q_isB, q_gCntT])
      refine if_f (by rfl) (hr.onS ?_)
      refine if_f (by simp [lr]) ⟨r, rfl, hr.onS ⟨w, rfl, ?_⟩⟩
      refine eq_lstI (sortI r) (sortI w) (.inl rfl) (.inl rfl) ?_
      rw [decide_eq_true R.sort]
      (try dsimp only [q_op, q_un, q_var, q_c, q_nil, q_cons, q_tup, q_frz, q_cel, q_lst, q_test, q_onB, q_and, q_or, q_not, q_andV, q_orV, q_notV, q_if, q_chain, q_next, q_seq, q_drop, q_ret, q_retF, q_retN, q_sif, q_break, q_cont, q_name, q_dnil, q_dcons, q_dtup, q_asg, q_set, q_par, q_for, q_range1, q_range2, q_iseq, q_ienum, q_call, q_cb, q_ncb, q_nop, q_lenset, q_mt, q_mt0, q_setix, q_augs, q_aug, q_nsl, q_onone, q_osome, q_gsl, q_raise, q_raiseF, q_try, q_lc, q_lc2, q_yes, q_wipe0, q_wipe, q_xf, q_I, q_I0, q_U, q_add, q_addT, q_addL, q_addR, q_onL, q_onSt, q_onSl, q_onSs, q_onSrct, q_onSrcl, q_eqI, q_eqB, q_eqS, q_eqN, q_isN, q_ix, q_ixL, q_in, q_len, q_sum, q_max, q_min, q_max2, q_min2, q_abs, q_int, q_tupof, q_lstof, q_sort, q_rep, q_cat, q_isi, q_isis, q_setat, q_onC, q_append, q_pop, q_popAt, q_reverse, q_insert, q_sp1, q_sp2, q_sp3, q_sp4, q_at0, q_atS, q_st0, q_stS, q_iteT, q_iteF, q_isB, q_gCntT])
      refine if_f (by rfl) ⟨u, r, RowD.tup, RowD.tup, by omega, us.trans rs.symm, by rw [sz]; show 2 ≤ 16777216; omega, ?_⟩
      rw [P1.m1, P1.l1]
      refine eq_lstI [1, 1] [1, 1] (.inl rfl) (.inl rfl) ?_
      rw [decide_eq_true rfl]
      (try dsimp only [q_op, q_un, q_var, q_c, q_nil, q_cons, q_tup, q_frz, q_cel, q_lst, q_test, q_onB, q_and, q_or, q_not, q_andV, q_orV, q_notV, q_if, q_chain, q_next, q_seq, q_drop, q_ret, q_retF, q_retN, q_sif, q_break, q_cont, q_name, q_dnil, q_dcons, q_dtup, q_asg, q_set, q_par, q_for, q_range1, q_range2, q_iseq, q_ienum, q_call, q_cb, q_ncb, q_nop, q_lenset, q_mt, q_mt0, q_setix, q_augs, q_aug, q_nsl, q_onone, q_osome, q_gsl, q_raise, q_raiseF, q_try, q_lc, q_lc2, q_yes, q_wipe0, q_wipe, q_xf, q_I, q_I0, q_U, q_add, q_addT, q_addL, q_addR, q_onL, q_onSt, q_onSl, q_onSs, q_onSrct, q_onSrcl, q_eqI, q_eqB, q_eqS, q_eqN, q_isN, q_ix, q_ixL, q_in, q_len, q_sum, q_max, q_min, q_max2, q_min2, q_abs, q_int, q_tupof, q_lstof, q_sort, q_rep, q_cat, q_isi, q_isis, q_setat, q_onC, q_append, q_pop, q_popAt, q_reverse, q_insert, q_sp1, q_sp2, q_sp3, q_sp4, q_at0, q_atS, q_st0, q_stS, q_iteT, q_iteF, q_isB, q_gCntT])
      refine if_f (by rfl) ⟨r, v, RowD.tup, hr2, by omega, rs, by rw [sz]; show 2 ≤ 16777216; omega, ?_⟩
      have e3 : ((moreC w v : Nat) : Int) - (s : Nat) - 1 = ((moreC w v - (s + 1) : Nat) : Int) := by omega
      rw [r1, r2, e3]
      refine eq_lstI [((moreC w v - (s + 1) : Nat) : Int), ((moreC w v - (s + 1) : Nat) : Int)] [((moreC w v - (s + 1) : Nat) : Int), ((moreC w v - (s + 1) : Nat) : Int)] (.inl rfl) (.inl rfl) ?_
      rw [decide_eq_true rfl]
      (try dsimp only [q_op, q_un, q_var, q_c, q_nil, q_cons, q_tup, q_frz, q_cel, q_lst, q_test, q_onB, q_and, q_or, q_not, q_andV, q_orV, q_notV, q_if, q_chain, q_next, q_seq, q_drop, q_ret, q_retF, q_retN, q_sif, q_break, q_cont, q_name, q_dnil, q_dcons, q_dtup, q_asg, q_set, q_par, q_for, q_range1, q_range2, q_iseq, q_ienum, q_call, q_cb, q_ncb, q_nop, q_lenset, q_mt, q_mt0, q_setix, q_augs, q_aug, q_nsl, q_onone, q_osome, q_gsl, q_raise, q_raiseF, q_try, q_lc, q_lc2, q_yes, q_wipe0, q_wipe, q_xf, q_I, q_I0, q_U, q_add, q_addT, q_addL, q_addR, q_onL, q_onSt, q_onSl, q_onSs, q_onSrct, q_onSrcl, q_eqI, q_eqB, q_eqS, q_eqN, q_isN, q_ix, q_ixL, q_in, q_len, q_sum, q_max, q_min, q_max2, q_min2, q_abs, q_int, q_tupof, q_lstof, q_sort, q_rep, q_cat, q_isi, q_isis, q_setat, q_onC, q_append, q_pop, q_popAt, q_reverse, q_insert, q_sp1, q_sp2, q_sp3, q_sp4, q_at0, q_atS, q_st0, q_stS, q_iteT, q_iteF, q_isB, q_gCntT])
      refine if_f (by rfl) ?_
      refine and_skip nx (fun _ nx => ?_) (fun nx => if_f (by rfl) nx)
      refine wordC_good Gu RowD.tup ?_
      rw [same_of Gu us (by omega) (by omega)]
      (try dsimp only [q_op, q_un, q_var, q_c, q_nil, q_cons, q_tup, q_frz, q_cel, q_lst, q_test, q_onB, q_and, q_or, q_not, q_andV, q_orV, q_notV, q_if, q_chain, q_next, q_seq, q_drop, q_ret, q_retF, q_retN, q_sif, q_break, q_cont, q_name, q_dnil, q_dcons, q_dtup, q_asg, q_set, q_par, q_for, q_range1, q_range2, q_iseq, q_ienum, q_call, q_cb, q_ncb, q_nop, q_lenset, q_mt, q_mt0, q_setix, q_augs, q_aug, q_nsl, q_onone, q_osome, q_gsl, q_raise, q_raiseF, q_try, q_lc, q_lc2, q_yes, q_wipe0, q_wipe, q_xf, q_I, q_I0, q_U, q_add, q_addT, q_addL, q_addR, q_onL, q_onSt, q_onSl, q_onSs, q_onSrct, q_onSrcl, q_eqI, q_eqB, q_eqS, q_eqN, q_isN, q_ix, q_ixL, q_in, q_len, q_sum, q_max, q_min, q_max2, q_min2, q_abs, q_int, q_tupof, q_lstof, q_sort, q_rep, q_cat, q_isi, q_isis, q_setat, q_onC, q_append, q_pop, q_popAt, q_reverse, q_insert, q_sp1, q_sp2, q_sp3, q_sp4, q_at0, q_atS, q_st0, q_stS, q_iteT, q_iteF, q_isB, q_gCntT])
      refine if_f (by rfl) ⟨2, r, rfl, RowD.tup, Gr, 2, w, rfl, hr, G, ?_⟩
      rw [leadsT_two, leadsT_two, R.lead]
      refine eq_datD (α := PySem.W.Tup (PySem.W.Tup Int)) ⟨[⟨[0, leadF w 0 1]⟩, ⟨[-leadF w 0 1, 0]⟩]⟩ ⟨[⟨[0, leadF w 0 1]⟩, ⟨[-leadF w 0 1, 0]⟩]⟩ ?_
      rw [decide_eq_true rfl]
      (try dsimp only [q_op, q_un, q_var, q_c, q_nil, q_cons, q_tup, q_frz, q_cel, q_lst, q_test, q_onB, q_and, q_or, q_not, q_andV, q_orV, q_notV, q_if, q_chain, q_next, q_seq, q_drop, q_ret, q_retF, q_retN, q_sif, q_break, q_cont, q_name, q_dnil, q_dcons, q_dtup, q_asg, q_set, q_par, q_for, q_range1, q_range2, q_iseq, q_ienum, q_call, q_cb, q_ncb, q_nop, q_lenset, q_mt, q_mt0, q_setix, q_augs, q_aug, q_nsl, q_onone, q_osome, q_gsl, q_raise, q_raiseF, q_try, q_lc, q_lc2, q_yes, q_wipe0, q_wipe, q_xf, q_I, q_I0, q_U, q_add, q_addT, q_addL, q_addR, q_onL, q_onSt, q_onSl, q_onSs, q_onSrct, q_onSrcl, q_eqI, q_eqB, q_eqS, q_eqN, q_isN, q_ix, q_ixL, q_in, q_len, q_sum, q_max, q_min, q_max2, q_min2, q_abs, q_int, q_tupof, q_lstof, q_sort, q_rep, q_cat, q_isi, q_isis, q_setat, q_onC, q_append, q_pop, q_popAt, q_reverse, q_insert, q_sp1, q_sp2, q_sp3, q_sp4, q_at0, q_atS, q_st0, q_stS, q_iteT, q_iteF, q_isB, q_gCntT])
      exact if_f (by rfl) nx
    · rintro ρ M' ⟨⟨a, b, c', rfl⟩, rfl⟩
      (try dsimp only [q_op, q_un, q_var, q_c, q_nil, q_cons, q_tup, q_frz, q_cel, q_lst, q_test, q_onB, q_and, q_or, q_not, q_andV, q_orV, q_notV, q_if, q_chain, q_next, q_seq, q_drop, q_ret, q_retF, q_retN, q_sif, q_break, q_cont, q_name, q_dnil, q_dcons, q_dtup, q_asg, q_set, q_par, q_for, q_range1, q_range2, q_iseq, q_ienum, q_call, q_cb, q_ncb, q_nop, q_lenset, q_mt, q_mt0, q_setix, q_augs, q_aug, q_nsl, q_onone, q_osome, q_gsl, q_raise, q_raiseF, q_try, q_lc, q_lc2, q_yes, q_wipe0, q_wipe, q_xf, q_I, q_I0, q_U, q_add, q_addT, q_addL, q_addR, q_onL, q_onSt, q_onSl, q_onSs, q_onSrct, q_onSrcl, q_eqI, q_eqB, q_eqS, q_eqN, q_isN, q_ix, q_ixL, q_in, q_len, q_sum, q_max, q_min, q_max2, q_min2, q_abs, q_int, q_tupof, q_lstof, q_sort, q_rep, q_cat, q_isi, q_isis, q_setat, q_onC, q_append, q_pop, q_popAt, q_reverse, q_insert, q_sp1, q_sp2, q_sp3, q_sp4, q_at0, q_atS, q_st0, q_stS, q_iteT, q_iteF, q_isB, q_gCntT])
      have e2 : ((moreC w v : Nat) : Int) / 2 = ((moreC w v / 2 : Nat) : Int) := by omega
      have fin : twoC K M' d1 d0 (fun x M => E x M) fun one two => dEq (movesD one two) (.int (moreC w v : Nat)) M' Q := by
        refine twoC_good Gv hs.symm hr2 hr ?_
        obtain ⟨f1, f2⟩ := more_flip hs
        have em2 : movesD v w = .int (moreC w v : Nat) := by
          unfold movesD
          rw [f1, f2, if_pos c.symm, c]
        rw [em2]
        (try dsimp only [q_op, q_un, q_var, q_c, q_nil, q_cons, q_tup, q_frz, q_cel, q_lst, q_test, q_onB, q_and, q_or, q_not, q_andV, q_orV, q_notV, q_if, q_chain, q_next, q_seq, q_drop, q_ret, q_retF, q_retN, q_sif, q_break, q_cont, q_name, q_dnil, q_dcons, q_dtup, q_asg, q_set, q_par, q_for, q_range1, q_range2, q_iseq, q_ienum, q_call, q_cb, q_ncb, q_nop, q_lenset, q_mt, q_mt0, q_setix, q_augs, q_aug, q_nsl, q_onone, q_osome, q_gsl, q_raise, q_raiseF, q_try, q_lc, q_lc2, q_yes, q_wipe0, q_wipe, q_xf, q_I, q_I0, q_U, q_add, q_addT, q_addL, q_addR, q_onL, q_onSt, q_onSl, q_onSs, q_onSrct, q_onSrcl, q_eqI, q_eqB, q_eqS, q_eqN, q_isN, q_ix, q_ixL, q_in, q_len, q_sum, q_max, q_min, q_max2, q_min2, q_abs, q_int, q_tupof, q_lstof, q_sort, q_rep, q_cat, q_isi, q_isis, q_setat, q_onC, q_append, q_pop, q_popAt, q_reverse, q_insert, q_sp1, q_sp2, q_sp3, q_sp4, q_at0, q_atS, q_st0, q_stS, q_iteT, q_iteF, q_isB, q_gCntT])
        rw [decide_eq_true rfl]
        exact q
      refine and_skip fin (fun h1 fin => ?_) (fun h => if_f (by rfl) h)
      have h1' : 1 < moreC w v := by have := of_decide_eq_true h1; omega
      have U := W1 (moreC w v / 2) (by omega)
      have bk := way1_back G hs rfl c.symm U (by omega)
      have g0 := tups_at (ws := w :: ws) (i := moreC w v / 2) (by omega)
      refine ⟨by unfold CDivW; decide, ?_⟩
      rw [e2]
      refine ⟨_, g0, _, tups_at (i := 0) (by omega), ?_⟩
      refine twoC_good (good_le G U.sort.symm) U.sort RowD.tup RowD.tup ?_
      refine ⟨by unfold CDivW; decide, ?_⟩
      have em2 : movesD ((w :: ws).getD (moreC w v / 2) []) w = .int ((moreC w v / 2 : Nat) : Int) := by
        unfold movesD
        rw [bk.1, bk.2, if_pos rfl]
      show dNe (movesD ((w :: ws).getD (moreC w v / 2) []) w) _ _ _
      rw [em2]
      (try dsimp only [q_op, q_un, q_var, q_c, q_nil, q_cons, q_tup, q_frz, q_cel, q_lst, q_test, q_onB, q_and, q_or, q_not, q_andV, q_orV, q_notV, q_if, q_chain, q_next, q_seq, q_drop, q_ret, q_retF, q_retN, q_sif, q_break, q_cont, q_name, q_dnil, q_dcons, q_dtup, q_asg, q_set, q_par, q_for, q_range1, q_range2, q_iseq, q_ienum, q_call, q_cb, q_ncb, q_nop, q_lenset, q_mt, q_mt0, q_setix, q_augs, q_aug, q_nsl, q_onone, q_osome, q_gsl, q_raise, q_raiseF, q_try, q_lc, q_lc2, q_yes, q_wipe0, q_wipe, q_xf, q_I, q_I0, q_U, q_add, q_addT, q_addL, q_addR, q_onL, q_onSt, q_onSl, q_onSs, q_onSrct, q_onSrcl, q_eqI, q_eqB, q_eqS, q_eqN, q_isN, q_ix, q_ixL, q_in, q_len, q_sum, q_max, q_min, q_max2, q_min2, q_abs, q_int, q_tupof, q_lstof, q_sort, q_rep, q_cat, q_isi, q_isis, q_setat, q_onC, q_append, q_pop, q_popAt, q_reverse, q_insert, q_sp1, q_sp2, q_sp3, q_sp4, q_at0, q_atS, q_st0, q_stS, q_iteT, q_iteF, q_isB, q_gCntT])
      exact if_f (by simp) fin
  · rw [if_neg c]
    have em : movesD w v = .non := if_neg c
    rw [em]
    (try dsimp only [q_op, q_un, q_var, q_c, q_nil, q_cons, q_tup, q_frz, q_cel, q_lst, q_test, q_onB, q_and, q_or, q_not, q_andV, q_orV, q_notV, q_if, q_chain, q_next, q_seq, q_drop, q_ret, q_retF, q_retN, q_sif, q_break, q_cont, q_name, q_dnil, q_dcons, q_dtup, q_asg, q_set, q_par, q_for, q_range1, q_range2, q_iseq, q_ienum, q_call, q_cb, q_ncb, q_nop, q_lenset, q_mt, q_mt0, q_setix, q_augs, q_aug, q_nsl, q_onone, q_osome, q_gsl, q_raise, q_raiseF, q_try, q_lc, q_lc2, q_yes, q_wipe0, q_wipe, q_xf, q_I, q_I0, q_U, q_add, q_addT, q_addL, q_addR, q_onL, q_onSt, q_onSl, q_onSs, q_onSrct, q_onSrcl, q_eqI, q_eqB, q_eqS, q_eqN, q_isN, q_ix, q_ixL, q_in, q_len, q_sum, q_max, q_min, q_max2, q_min2, q_abs, q_int, q_tupof, q_lstof, q_sort, q_rep, q_cat, q_isi, q_isis, q_setat, q_onC, q_append, q_pop, q_popAt, q_reverse, q_insert, q_sp1, q_sp2, q_sp3, q_sp4, q_at0, q_atS, q_st0, q_stS, q_iteT, q_iteF, q_isB, q_gCntT])
    refine ⟨_, rfl, _, rfl, ?_⟩
    (try dsimp only [q_op, q_un, q_var, q_c, q_nil, q_cons, q_tup, q_frz, q_cel, q_lst, q_test, q_onB, q_and, q_or, q_not, q_andV, q_orV, q_notV, q_if, q_chain, q_next, q_seq, q_drop, q_ret, q_retF, q_retN, q_sif, q_break, q_cont, q_name, q_dnil, q_dcons, q_dtup, q_asg, q_set, q_par, q_for, q_range1, q_range2, q_iseq, q_ienum, q_call, q_cb, q_ncb, q_nop, q_lenset, q_mt, q_mt0, q_setix, q_augs, q_aug, q_nsl, q_onone, q_osome, q_gsl, q_raise, q_raiseF, q_try, q_lc, q_lc2, q_yes, q_wipe0, q_wipe, q_xf, q_I, q_I0, q_U, q_add, q_addT, q_addL, q_addR, q_onL, q_onSt, q_onSl, q_onSs, q_onSrct, q_onSrcl, q_eqI, q_eqB, q_eqS, q_eqN, q_isN, q_ix, q_ixL, q_in, q_len, q_sum, q_max, q_min, q_max2, q_min2, q_abs, q_int, q_tupof, q_lstof, q_sort, q_rep, q_cat, q_isi, q_isis, q_setat, q_onC, q_append, q_pop, q_popAt, q_reverse, q_insert, q_sp1, q_sp2, q_sp3, q_sp4, q_at0, q_atS, q_st0, q_stS, q_iteT, q_iteF, q_isB, q_gCntT])
    refine if_t (by simp; omega) (if_t (by rfl) (if_t (by rfl) ⟨2, w, rfl, hr, G, 2, v, rfl, hr2, Gv, ?_⟩))
    rw [leadsT_two, leadsT_two]
    refine eq_datD (α := PySem.W.Tup (PySem.W.Tup Int)) ⟨[⟨[0, leadF w 0 1]⟩, ⟨[-leadF w 0 1, 0]⟩]⟩ ⟨[⟨[0, leadF v 0 1]⟩, ⟨[-leadF v 0 1, 0]⟩]⟩ ?_
    rw [decide_eq_false (fun z => ?_)]
    · exact q
    · have z1 := congrArg PySem.W.Tup.items z
      refine c ((lead_iff hs).mp ?_)
      simp at z1
      exact z1
end
end LW

namespace LW
open PySem PySem.Spec PyProof.Rows L2 DL
def midW (s h : Nat) : List Int := List.replicate s 0 ++ List.replicate (2 * h) 1 ++ List.replicate s 0
def outW (s h : Nat) : List Int := List.replicate h 1 ++ List.replicate (2 * s) 0 ++ List.replicate h 1
def good2 (l : List Int) : Bool := decide (l.length < 4000) && (l.all (fun a => a == 0 || a == 1) && (l.contains 0 && l.contains 1))
theorem good2_ok {l : List Int} (h : good2 l = true) : GoodW 2 l := by
  unfold good2 at h
  simp only [Bool.and_eq_true, decide_eq_true_eq, List.all_eq_true, Bool.or_eq_true, beq_iff_eq, List.contains_iff_mem] at h
  refine ⟨by decide, by decide, h.1, fun a ha => ?_, fun k hk => ?_⟩
  · rcases h.2.1 a ha with z | z <;> rw [z] <;> decide
  · have : k = 0 ∨ k = 1 := by omega
    rcases this with z | z
    · rw [z]; exact h.2.2.1
    · rw [z]; exact h.2.2.2
def longB (s h : Nat) : Bool := good2 (midW s h) && (decide (sortI (midW s h) = sortI (outW s h)) && (decide (moreC (midW s h) (outW s h) = s * h) && decide (lessC (midW s h) (outW s h) = s * h)))
theorem long_all : ((List.range 8).all fun s => (List.range 8).all fun h => longB (s + 1) (h + 1)) = true := by decide +kernel
theorem long_one {s h : Nat} (hs : 1 ≤ s) (hs8 : s ≤ 8) (hh : 1 ≤ h) (hh8 : h ≤ 8) : longB s h = true := by
  have := List.all_eq_true.mp (List.all_eq_true.mp long_all (s - 1) (List.mem_range.mpr (by omega))) (h - 1) (List.mem_range.mpr (by omega))
  rw [Nat.sub_add_cancel hs, Nat.sub_add_cancel hh] at this
  exact this
end LW

namespace LW
open PySem PySem.Spec PyProof.Rows L2 DL
section
variable {K : PySem.W.Frag}
theorem rep_map (n : Nat) (a : Int) : ((List.range n).map fun _ : Nat => D.int a) = iD (List.replicate n a) := by
  unfold iD
  rw [List.map_replicate]
  induction n with
  | zero => rfl
  | succ n ih => rw [List.range_succ, List.map_append, ih, List.replicate_succ']; rfl
theorem lc_rep {ρw : Dv} {M : Mem} {Q : List D → Mem → Prop} {i : Nat} (n : Nat) (a : Int) (hn : n < 16777216) (q : Q (iD (List.replicate n a)) M) : lcD (fun _ => True) (dName i) gYes (gC (.int a)) ρw (rgD 0 n) [] M Q := by
  rw [rg0]
  refine lc_map (fun k : Nat => D.int ((k : Nat) : Int)) (fun _ => .int a) trivial _ (fun x hx k hk => ⟨rfl, hk⟩) (fun d ρ M Q Q' h q => h _ _ q) rfl (by rw [sz]; simp; omega) ?_
  rw [rep_map]
  exact q
theorem add_ll {a b : List D} {M : Mem} {Q : DVK} (h : a.length + b.length ≤ 16777216) (q : Q (.lst (a ++ b)) M) : dAdd (.lst a) (.lst b) M Q := ⟨by rw [sz]; exact h, q⟩
theorem b__law_long_holds : ∀ d0 M Q E, sp__law_long_holds K [d0] M Q E → g__law_long_holds K { nx := fun _ M => Q .non M, rt := Q, ex := fun x _ M => E x M } [some d0, none, none, none, none, none, none, none, none] M := by
  rintro d0 M Q E ⟨p, rfl, ⟨xs0, hM⟩, q⟩
  unfold g__law_long_holds
  dsimp only [q_op, q_un, q_var, q_c, q_nil, q_cons, q_tup, q_frz, q_cel, q_lst, q_test, q_onB, q_and, q_or, q_not, q_andV, q_orV, q_notV, q_if, q_chain, q_next, q_seq, q_drop, q_ret, q_retF, q_retN, q_sif, q_break, q_cont, q_name, q_dnil, q_dcons, q_dtup, q_asg, q_set, q_par, q_for, q_range1, q_range2, q_iseq, q_ienum, q_call, q_cb, q_ncb, q_nop, q_lenset, q_mt, q_mt0, q_setix, q_augs, q_aug, q_nsl, q_onone, q_osome, q_gsl, q_raise, q_raiseF, q_try, q_lc, q_lc2, q_yes, q_wipe0, q_wipe, q_xf, q_I, q_I0, q_U, q_add, q_addT, q_addL, q_addR, q_onL, q_onSt, q_onSl, q_onSs, q_onSrct, q_onSrcl, q_eqI, q_eqB, q_eqS, q_eqN, q_isN, q_ix, q_ixL, q_in, q_len, q_sum, q_max, q_min, q_max2, q_min2, q_abs, q_int, q_tupof, q_lstof, q_sort, q_rep, q_cat, q_isi, q_isis, q_setat, q_onC, q_append, q_pop, q_popAt, q_reverse, q_insert, q_sp1, q_sp2, q_sp3, q_sp4, q_at0, q_atS, q_st0, q_stS, q_iteT, q_iteF, q_isB, q_gCntT, sp__law_take]
  have t0 : TabAt (mset M p (.lst (iD xs0))) M [] [] := by
    rw [mset_id hM]
    exact TabAt.nil
  refine ⟨p, _, rfl, rfl, by decide, ⟨xs0, hM⟩, fun r ys r0 r1 => ?_⟩
  have t1 := pool_take (ys := ys) t0
  obtain ⟨S, hS, hS1, hS8⟩ : ∃ S : Nat, 1 + r = (S : Int) ∧ 1 ≤ S ∧ S ≤ 8 := ⟨(1 + r).toNat, by omega, by omega, by omega⟩
  (try dsimp only [q_op, q_un, q_var, q_c, q_nil, q_cons, q_tup, q_frz, q_cel, q_lst, q_test, q_onB, q_and, q_or, q_not, q_andV, q_orV, q_notV, q_if, q_chain, q_next, q_seq, q_drop, q_ret, q_retF, q_retN, q_sif, q_break, q_cont, q_name, q_dnil, q_dcons, q_dtup, q_asg, q_set, q_par, q_for, q_range1, q_range2, q_iseq, q_ienum, q_call, q_cb, q_ncb, q_nop, q_lenset, q_mt, q_mt0, q_setix, q_augs, q_aug, q_nsl, q_onone, q_osome, q_gsl, q_raise, q_raiseF, q_try, q_lc, q_lc2, q_yes, q_wipe0, q_wipe, q_xf, q_I, q_I0, q_U, q_add, q_addT, q_addL, q_addR, q_onL, q_onSt, q_onSl, q_onSs, q_onSrct, q_onSrcl, q_eqI, q_eqB, q_eqS, q_eqN, q_isN, q_ix, q_ixL, q_in, q_len, q_sum, q_max, q_min, q_max2, q_min2, q_abs, q_int, q_tupof, q_lstof, q_sort, q_rep, q_cat, q_isi, q_isis, q_setat, q_onC, q_append, q_pop, q_popAt, q_reverse, q_insert, q_sp1, q_sp2, q_sp3, q_sp4, q_at0, q_atS, q_st0, q_stS, q_iteT, q_iteF, q_isB, q_gCntT])
  rw [hS]
  refine ⟨p, _, rfl, rfl, by decide, pool_is t1, fun r' zs r0 r1 => ?_⟩
  have t2 := pool_take (ys := zs) t1
  rw [mset_mset] at t2 ⊢
  obtain ⟨R, hR, hR1, hR8⟩ : ∃ S : Nat, 1 + r' = (S : Int) ∧ 1 ≤ S ∧ S ≤ 8 := ⟨(1 + r').toNat, by omega, by omega, by omega⟩
  rw [hR]
  have e2 : (2 * (R : Int)) = ((2 * R : Nat) : Int) := by omega
  have e3 : (2 * (S : Int)) = ((2 * S : Nat) : Int) := by omega
  rw [e2, e3]
  rw [Int.toNat_natCast, Int.toNat_natCast, Int.toNat_natCast, Int.toNat_natCast]
  refine ⟨⟨by omega, by omega⟩, lc_rep S 0 (by omega) ?_⟩
  refine ⟨cmulw (by omega) (by omega), ⟨by omega, by omega⟩, lc_rep (2 * R) 1 (by omega) (add_ll (by simp; omega) ?_)⟩
  refine ⟨⟨by omega, by omega⟩, lc_rep S 0 (by omega) (add_ll (by simp; omega) ?_)⟩
  refine ⟨⟨by omega, by omega⟩, lc_rep R 1 (by omega) ?_⟩
  refine ⟨cmulw (by omega) (by omega), ⟨by omega, by omega⟩, lc_rep (2 * S) 0 (by omega) (add_ll (by simp; omega) ?_)⟩
  refine ⟨⟨by omega, by omega⟩, lc_rep R 1 (by omega) (add_ll (by simp; omega) ?_)⟩
  have em : iD (List.replicate S 0) ++ iD (List.replicate (2 * R) 1) ++ iD (List.replicate S 0) = iD (midW S R) := by unfold midW; simp
  have eo : iD (List.replicate R 1) ++ iD (List.replicate (2 * S) 0) ++ iD (List.replicate R 1) = iD (outW S R) := by unfold outW; simp
  rw [em, eo]
  have hL := long_one hS1 hS8 hR1 hR8
  unfold longB at hL
  simp only [Bool.and_eq_true, decide_eq_true_eq] at hL
  obtain ⟨hg, hs, hmo, hle⟩ := hL
  have G := good2_ok hg
  have Gv := good_le G hs
  have hl := G.2.2.1
  have hb : S * R ≤ 8 * 8 := Nat.mul_le_mul hS8 hR8
  have hb1 : 1 ≤ S * R := Nat.mul_le_mul hS1 hR1
  have ep : (S : Int) * (R : Int) = ((S * R : Nat) : Int) := by simp
  have q' : ∀ us : List Int, Q (.bl true) (mset (mset M p (.lst (iD zs))) p (.lst (iD us))) := fun us => by rw [mset_mset]; exact q us
  have hp := pool_is t2
  generalize mset M p (.lst (iD zs)) = M2 at *
  generalize midW S R = w at *
  generalize outW S R = v at *
  rw [ep]
  generalize S * R = m at *
  dsimp only [q_op, q_un, q_var, q_c, q_nil, q_cons, q_tup, q_frz, q_cel, q_lst, q_test, q_onB, q_and, q_or, q_not, q_andV, q_orV, q_notV, q_if, q_chain, q_next, q_seq, q_drop, q_ret, q_retF, q_retN, q_sif, q_break, q_cont, q_name, q_dnil, q_dcons, q_dtup, q_asg, q_set, q_par, q_for, q_range1, q_range2, q_iseq, q_ienum, q_call, q_cb, q_ncb, q_nop, q_lenset, q_mt, q_mt0, q_setix, q_augs, q_aug, q_nsl, q_onone, q_osome, q_gsl, q_raise, q_raiseF, q_try, q_lc, q_lc2, q_yes, q_wipe0, q_wipe, q_xf, q_I, q_I0, q_U, q_add, q_addT, q_addL, q_addR, q_onL, q_onSt, q_onSl, q_onSs, q_onSrct, q_onSrcl, q_eqI, q_eqB, q_eqS, q_eqN, q_isN, q_ix, q_ixL, q_in, q_len, q_sum, q_max, q_min, q_max2, q_min2, q_abs, q_int, q_tupof, q_lstof, q_sort, q_rep, q_cat, q_isi, q_isis, q_setat, q_onC, q_append, q_pop, q_popAt, q_reverse, q_insert, q_sp1, q_sp2, q_sp3, q_sp4, q_at0, q_atS, q_st0, q_stS, q_iteT, q_iteF, q_isB, q_gCntT, sp_paired_way, sp_paired_moves, sp__law_sides, sp__law_same_holds]
  refine ⟨cmulw (by omega) (by omega), ?_⟩
  refine twoC_good G hs RowD.lst RowD.lst ?_
  rw [if_pos (hmo.trans hle.symm)]
  intro ws hc hlen
  have W1 := way1 ws w G hs hmo hle hc (hlen.trans hmo)
  have lw : (w :: ws).length = m + 1 := by rw [List.length_cons, hlen, hmo]
  have we := way_end G hs (hmo.trans hle.symm) hc hlen
  rw [hmo] at we hlen
  refine ⟨.list, true, rfl, rfl, ?_⟩
  (try dsimp only [q_op, q_un, q_var, q_c, q_nil, q_cons, q_tup, q_frz, q_cel, q_lst, q_test, q_onB, q_and, q_or, q_not, q_andV, q_orV, q_notV, q_if, q_chain, q_next, q_seq, q_drop, q_ret, q_retF, q_retN, q_sif, q_break, q_cont, q_name, q_dnil, q_dcons, q_dtup, q_asg, q_set, q_par, q_for, q_range1, q_range2, q_iseq, q_ienum, q_call, q_cb, q_ncb, q_nop, q_lenset, q_mt, q_mt0, q_setix, q_augs, q_aug, q_nsl, q_onone, q_osome, q_gsl, q_raise, q_raiseF, q_try, q_lc, q_lc2, q_yes, q_wipe0, q_wipe, q_xf, q_I, q_I0, q_U, q_add, q_addT, q_addL, q_addR, q_onL, q_onSt, q_onSl, q_onSs, q_onSrct, q_onSrcl, q_eqI, q_eqB, q_eqS, q_eqN, q_isN, q_ix, q_ixL, q_in, q_len, q_sum, q_max, q_min, q_max2, q_min2, q_abs, q_int, q_tupof, q_lstof, q_sort, q_rep, q_cat, q_isi, q_isis, q_setat, q_onC, q_append, q_pop, q_popAt, q_reverse, q_insert, q_sp1, q_sp2, q_sp3, q_sp4, q_at0, q_atS, q_st0, q_stS, q_iteT, q_iteF, q_isB, q_gCntT])
  refine if_f (by rfl) (if_f (by rw [tups_len, lw]; simp) ⟨_, tups_at (i := 0) (by omega), ?_⟩)
  refine eq_tupI _ _ ?_
  (try dsimp only [q_op, q_un, q_var, q_c, q_nil, q_cons, q_tup, q_frz, q_cel, q_lst, q_test, q_onB, q_and, q_or, q_not, q_andV, q_orV, q_notV, q_if, q_chain, q_next, q_seq, q_drop, q_ret, q_retF, q_retN, q_sif, q_break, q_cont, q_name, q_dnil, q_dcons, q_dtup, q_asg, q_set, q_par, q_for, q_range1, q_range2, q_iseq, q_ienum, q_call, q_cb, q_ncb, q_nop, q_lenset, q_mt, q_mt0, q_setix, q_augs, q_aug, q_nsl, q_onone, q_osome, q_gsl, q_raise, q_raiseF, q_try, q_lc, q_lc2, q_yes, q_wipe0, q_wipe, q_xf, q_I, q_I0, q_U, q_add, q_addT, q_addL, q_addR, q_onL, q_onSt, q_onSl, q_onSs, q_onSrct, q_onSrcl, q_eqI, q_eqB, q_eqS, q_eqN, q_isN, q_ix, q_ixL, q_in, q_len, q_sum, q_max, q_min, q_max2, q_min2, q_abs, q_int, q_tupof, q_lstof, q_sort, q_rep, q_cat, q_isi, q_isis, q_setat, q_onC, q_append, q_pop, q_popAt, q_reverse, q_insert, q_sp1, q_sp2, q_sp3, q_sp4, q_at0, q_atS, q_st0, q_stS, q_iteT, q_iteF, q_isB, q_gCntT])
  refine if_f (by simp) ⟨_, tups_at (i := m) (by omega), ?_⟩
  rw [we]
  refine eq_tupI _ _ ?_
  (try dsimp only [q_op, q_un, q_var, q_c, q_nil, q_cons, q_tup, q_frz, q_cel, q_lst, q_test, q_onB, q_and, q_or, q_not, q_andV, q_orV, q_notV, q_if, q_chain, q_next, q_seq, q_drop, q_ret, q_retF, q_retN, q_sif, q_break, q_cont, q_name, q_dnil, q_dcons, q_dtup, q_asg, q_set, q_par, q_for, q_range1, q_range2, q_iseq, q_ienum, q_call, q_cb, q_ncb, q_nop, q_lenset, q_mt, q_mt0, q_setix, q_augs, q_aug, q_nsl, q_onone, q_osome, q_gsl, q_raise, q_raiseF, q_try, q_lc, q_lc2, q_yes, q_wipe0, q_wipe, q_xf, q_I, q_I0, q_U, q_add, q_addT, q_addL, q_addR, q_onL, q_onSt, q_onSl, q_onSs, q_onSrct, q_onSrcl, q_eqI, q_eqB, q_eqS, q_eqN, q_isN, q_ix, q_ixL, q_in, q_len, q_sum, q_max, q_min, q_max2, q_min2, q_abs, q_int, q_tupof, q_lstof, q_sort, q_rep, q_cat, q_isi, q_isis, q_setat, q_onC, q_append, q_pop, q_popAt, q_reverse, q_insert, q_sp1, q_sp2, q_sp3, q_sp4, q_at0, q_atS, q_st0, q_stS, q_iteT, q_iteF, q_isB, q_gCntT])
  refine if_f (by simp) ?_
  refine twoC_good Gv hs.symm RowD.lst RowD.lst ?_
  obtain ⟨f1, f2⟩ := more_flip hs
  have em2 : movesD v w = .int (m : Nat) := by
    unfold movesD
    rw [f1, f2, hmo, hle, if_pos rfl]
  rw [em2]
  (try dsimp only [q_op, q_un, q_var, q_c, q_nil, q_cons, q_tup, q_frz, q_cel, q_lst, q_test, q_onB, q_and, q_or, q_not, q_andV, q_orV, q_notV, q_if, q_chain, q_next, q_seq, q_drop, q_ret, q_retF, q_retN, q_sif, q_break, q_cont, q_name, q_dnil, q_dcons, q_dtup, q_asg, q_set, q_par, q_for, q_range1, q_range2, q_iseq, q_ienum, q_call, q_cb, q_ncb, q_nop, q_lenset, q_mt, q_mt0, q_setix, q_augs, q_aug, q_nsl, q_onone, q_osome, q_gsl, q_raise, q_raiseF, q_try, q_lc, q_lc2, q_yes, q_wipe0, q_wipe, q_xf, q_I, q_I0, q_U, q_add, q_addT, q_addL, q_addR, q_onL, q_onSt, q_onSl, q_onSs, q_onSrct, q_onSrcl, q_eqI, q_eqB, q_eqS, q_eqN, q_isN, q_ix, q_ixL, q_in, q_len, q_sum, q_max, q_min, q_max2, q_min2, q_abs, q_int, q_tupof, q_lstof, q_sort, q_rep, q_cat, q_isi, q_isis, q_setat, q_onC, q_append, q_pop, q_popAt, q_reverse, q_insert, q_sp1, q_sp2, q_sp3, q_sp4, q_at0, q_atS, q_st0, q_stS, q_iteT, q_iteF, q_isB, q_gCntT])
  refine if_f (by simp) ⟨p, _, rfl, rfl, by omega, hp, fun s us s0 s1 => ?_⟩
  obtain ⟨s, rfl⟩ : ∃ k : Nat, s = (k : Int) := ⟨s.toNat, by omega⟩
  have q1 := q' us
  generalize mset M2 p (.lst (iD us)) = M3 at *
  have g0 := tups_at (ws := w :: ws) (i := s) (by omega)
  have g1 : atI (tups (w :: ws)) ((s : Nat) + 1 : Int) = some (.tup (iD ((w :: ws).getD (s + 1) []))) := by
    rw [show ((s : Nat) : Int) + 1 = ((s + 1 : Nat) : Int) by omega]
    exact tups_at (by omega)
  have U := W1 s (by omega)
  have R := W1 (s + 1) (by omega)
  have st := way1_step (m := 0) ws w hc s (by omega)
  generalize hu : (w :: ws).getD s [] = u at *
  generalize hv : (w :: ws).getD (s + 1) [] = r at *
  have Gu : GoodW 2 u := good_le G U.sort.symm
  have us : sortI u = sortI v := U.sort.trans hs
  have rs : sortI r = sortI v := R.sort.trans hs
  have u1 := U.more
  have u2 := U.less
  have P1 := pair_step Gu us (by omega) (by omega) st
  have lu := sort_length U.sort
  have lr := sort_length R.sort
  refine ⟨_, g0, _, g1, u, r, RowD.tup, RowD.tup, by omega, us.trans rs.symm, by rw [sz]; show 2 ≤ 16777216; omega, ?_⟩
  rw [P1.m1, P1.l1]
  refine eq_lstI [1, 1] [1, 1] (.inl rfl) (.inl rfl) ?_
  rw [decide_eq_true rfl]
  (try dsimp only [q_op, q_un, q_var, q_c, q_nil, q_cons, q_tup, q_frz, q_cel, q_lst, q_test, q_onB, q_and, q_or, q_not, q_andV, q_orV, q_notV, q_if, q_chain, q_next, q_seq, q_drop, q_ret, q_retF, q_retN, q_sif, q_break, q_cont, q_name, q_dnil, q_dcons, q_dtup, q_asg, q_set, q_par, q_for, q_range1, q_range2, q_iseq, q_ienum, q_call, q_cb, q_ncb, q_nop, q_lenset, q_mt, q_mt0, q_setix, q_augs, q_aug, q_nsl, q_onone, q_osome, q_gsl, q_raise, q_raiseF, q_try, q_lc, q_lc2, q_yes, q_wipe0, q_wipe, q_xf, q_I, q_I0, q_U, q_add, q_addT, q_addL, q_addR, q_onL, q_onSt, q_onSl, q_onSs, q_onSrct, q_onSrcl, q_eqI, q_eqB, q_eqS, q_eqN, q_isN, q_ix, q_ixL, q_in, q_len, q_sum, q_max, q_min, q_max2, q_min2, q_abs, q_int, q_tupof, q_lstof, q_sort, q_rep, q_cat, q_isi, q_isis, q_setat, q_onC, q_append, q_pop, q_popAt, q_reverse, q_insert, q_sp1, q_sp2, q_sp3, q_sp4, q_at0, q_atS, q_st0, q_stS, q_iteT, q_iteF, q_isB, q_gCntT])
  refine if_f (by rfl) ⟨_, g0, u, v, RowD.tup, RowD.lst, by omega, us, by rw [sz]; show 2 ≤ 16777216; omega, ?_⟩
  have e3 : ((m : Nat) : Int) - (s : Nat) = ((m - s : Nat) : Int) := by omega
  rw [u1, u2, e3]
  refine eq_lstI [((m - s : Nat) : Int), ((m - s : Nat) : Int)] [((m - s : Nat) : Int), ((m - s : Nat) : Int)] (.inl rfl) (.inl rfl) ?_
  rw [decide_eq_true rfl]
  (try dsimp only [q_op, q_un, q_var, q_c, q_nil, q_cons, q_tup, q_frz, q_cel, q_lst, q_test, q_onB, q_and, q_or, q_not, q_andV, q_orV, q_notV, q_if, q_chain, q_next, q_seq, q_drop, q_ret, q_retF, q_retN, q_sif, q_break, q_cont, q_name, q_dnil, q_dcons, q_dtup, q_asg, q_set, q_par, q_for, q_range1, q_range2, q_iseq, q_ienum, q_call, q_cb, q_ncb, q_nop, q_lenset, q_mt, q_mt0, q_setix, q_augs, q_aug, q_nsl, q_onone, q_osome, q_gsl, q_raise, q_raiseF, q_try, q_lc, q_lc2, q_yes, q_wipe0, q_wipe, q_xf, q_I, q_I0, q_U, q_add, q_addT, q_addL, q_addR, q_onL, q_onSt, q_onSl, q_onSs, q_onSrct, q_onSrcl, q_eqI, q_eqB, q_eqS, q_eqN, q_isN, q_ix, q_ixL, q_in, q_len, q_sum, q_max, q_min, q_max2, q_min2, q_abs, q_int, q_tupof, q_lstof, q_sort, q_rep, q_cat, q_isi, q_isis, q_setat, q_onC, q_append, q_pop, q_popAt, q_reverse, q_insert, q_sp1, q_sp2, q_sp3, q_sp4, q_at0, q_atS, q_st0, q_stS, q_iteT, q_iteF, q_isB, q_gCntT])
  refine if_f (by rfl) ⟨w, RowD.lst, G, ?_⟩
  refine if_t (by rfl) ⟨_, g0, u, RowD.tup, Gu, q1⟩
end
end LW

namespace LW
open PySem PySem.Spec PyProof.Rows L2 DL
def edgeW (z o : Nat) (rev : Bool) : List Int := if rev = true then List.replicate o 1 ++ List.replicate z 0 else List.replicate z 0 ++ List.replicate o 1
def edgeA (z o : Nat) (rev : Bool) : Nat := (if rev = true then o else z) - 1
def edgeB (z o : Nat) (rev : Bool) : Bool := good2 (edgeW z o rev) && (good2 (exchI (edgeW z o rev) (edgeA z o rev)) && (decide (edgeA z o rev + 1 < (edgeW z o rev).length) && (decide (((List.range ((edgeW z o rev).length - 1)).filter fun k => decide ((edgeW z o rev).getD k 0 ≠ (edgeW z o rev).getD (k + 1) 0)) = [edgeA z o rev])
  && (!sameB (edgeW z o rev) && !sameB (exchI (edgeW z o rev) (edgeA z o rev))))))
theorem edge_all : ((List.range 6).all fun z => (List.range 6).all fun o => edgeB (z + 1) (o + 1) true && edgeB (z + 1) (o + 1) false) = true := by decide +kernel
theorem edge_one {z o : Nat} (hz : 1 ≤ z) (hz6 : z ≤ 6) (ho : 1 ≤ o) (ho6 : o ≤ 6) (rev : Bool) : edgeB z o rev = true := by
  have := List.all_eq_true.mp (List.all_eq_true.mp edge_all (z - 1) (List.mem_range.mpr (by omega))) (o - 1) (List.mem_range.mpr (by omega))
  rw [Nat.sub_add_cancel hz, Nat.sub_add_cancel ho, Bool.and_eq_true] at this
  cases rev
  · exact this.2
  · exact this.1
theorem mu_pool {A B : Mem} {p : Addr} {x y : MO} (u : MemUp (mset A p x) B) : MemUp (mset A p y) (mset B p y) := fun b o h => by
  by_cases c : b = p
  · subst c
    rw [mset_same] at h ⊢
    exact h
  · rw [mset_ne c] at h ⊢
    exact u b o (by rw [mset_ne c]; exact h)
theorem more_self (w : List Int) : moreC w w = 0 ∧ lessC w w = 0 := by
  have e : (fun x y : Nat => aheadB w x y && !aheadB w x y) = fun _ _ => false := by
    funext x y
    simp
  unfold moreC lessC
  rw [e, cnt_none]
  exact ⟨rfl, rfl⟩
section
variable {K : PySem.W.Frag}
theorem edges_tail {M M3 : Mem} {p p3 : Addr} {us w : List Int} {Q : DVK} {E : DXK} {a1 a2 a4 a5 a6 : Option D} (q : ∀ xs : List Int, Q (.bl true) (mset M p (.lst (iD xs)))) (u : MemUp (mset M p (.lst (iD us))) M3) (hw : M3 p3 = some (.lst (iD w))) (G : GoodW 2 w) (hb : sameB w = false) :
  (sSeq (sIf (gOr (gTest (gOp (dIsB fun b => !b) (gCall (sp_same_lead K) (aCons (gVar 3) aNil)) (gC (.bl false)))) (gTest (gOp dNe (gCall (sp_paired_way K) (aCons (gVar 3) (aCons (gVar 3) aNil))) (gFrz (nLst (aCons (gCB dTupleOf (aCons (gVar 3) aNil)) aNil)))))) (sRetF (gC (.bl false))) sNext)
    (sSeq (sSet 7 (gCel (nCB nListOf (aCons (gVar 3) aNil))))
    (sSeq (sDrop (gMt0 dReverse (gVar 7)))
    (sSeq (sIf (gOr (gNot (gTest (gCall (sp__law_same_holds K) (aCons (gVar 7) aNil)))) (gNot (gTest (gCall (sp__law_way_holds K) (aCons (gVar 3) (aCons (gVar 7) aNil)))))) (sRetF (gC (.bl false))) sNext)
    (sRetF (gCall (sp__law_long_holds K) (aCons (gVar 0) aNil))))))) { nx := fun _ M => Q .non M, rt := Q, ex := fun x _ M => E x M } [some (.ref p), a1, a2, some (.ref p3), a4, a5, a6, none] M3 := by
  have hl := G.2.2.1
  have hr := RowD.ref hw
  dsimp only [q_op, q_un, q_var, q_c, q_nil, q_cons, q_tup, q_frz, q_cel, q_lst, q_test, q_onB, q_and, q_or, q_not, q_andV, q_orV, q_notV, q_if, q_chain, q_next, q_seq, q_drop, q_ret, q_retF, q_retN, q_sif, q_break, q_cont, q_name, q_dnil, q_dcons, q_dtup, q_asg, q_set, q_par, q_for, q_range1, q_range2, q_iseq, q_ienum, q_call, q_cb, q_ncb, q_nop, q_lenset, q_mt, q_mt0, q_setix, q_augs, q_aug, q_nsl, q_onone, q_osome, q_gsl, q_raise, q_raiseF, q_try, q_lc, q_lc2, q_yes, q_wipe0, q_wipe, q_xf, q_I, q_I0, q_U, q_add, q_addT, q_addL, q_addR, q_onL, q_onSt, q_onSl, q_onSs, q_onSrct, q_onSrcl, q_eqI, q_eqB, q_eqS, q_eqN, q_isN, q_ix, q_ixL, q_in, q_len, q_sum, q_max, q_min, q_max2, q_min2, q_abs, q_int, q_tupof, q_lstof, q_sort, q_rep, q_cat, q_isi, q_isis, q_setat, q_onC, q_append, q_pop, q_popAt, q_reverse, q_insert, q_sp1, q_sp2, q_sp3, q_sp4, q_at0, q_atS, q_st0, q_stS, q_iteT, q_iteF, q_isB, q_gCntT, sp_same_lead, sp_paired_way, sp__law_same_holds, sp__law_way_holds, sp__law_long_holds]
  refine wordC_good G hr ?_
  rw [hb]
  (try dsimp only [q_op, q_un, q_var, q_c, q_nil, q_cons, q_tup, q_frz, q_cel, q_lst, q_test, q_onB, q_and, q_or, q_not, q_andV, q_orV, q_notV, q_if, q_chain, q_next, q_seq, q_drop, q_ret, q_retF, q_retN, q_sif, q_break, q_cont, q_name, q_dnil, q_dcons, q_dtup, q_asg, q_set, q_par, q_for, q_range1, q_range2, q_iseq, q_ienum, q_call, q_cb, q_ncb, q_nop, q_lenset, q_mt, q_mt0, q_setix, q_augs, q_aug, q_nsl, q_onone, q_osome, q_gsl, q_raise, q_raiseF, q_try, q_lc, q_lc2, q_yes, q_wipe0, q_wipe, q_xf, q_I, q_I0, q_U, q_add, q_addT, q_addL, q_addR, q_onL, q_onSt, q_onSl, q_onSs, q_onSrct, q_onSrcl, q_eqI, q_eqB, q_eqS, q_eqN, q_isN, q_ix, q_ixL, q_in, q_len, q_sum, q_max, q_min, q_max2, q_min2, q_abs, q_int, q_tupof, q_lstof, q_sort, q_rep, q_cat, q_isi, q_isis, q_setat, q_onC, q_append, q_pop, q_popAt, q_reverse, q_insert, q_sp1, q_sp2, q_sp3, q_sp4, q_at0, q_atS, q_st0, q_stS, q_iteT, q_iteF, q_isB, q_gCntT])
  refine if_f (by rfl) (twoC_good G rfl hr hr ?_)
  obtain ⟨m0, l0⟩ := more_self w
  rw [if_pos (m0.trans l0.symm), m0]
  intro ws hc hlen
  have hws : ws = [] := List.eq_nil_of_length_eq_zero hlen
  subst hws
  refine hr.onS ⟨by rw [sz]; show 1 ≤ 16777216; omega, ?_⟩
  refine eq_dat (α := List (PySem.W.Tup Int)) [⟨w⟩] [⟨w⟩] (vw_row (.inl rfl)) (vw_row (.inl rfl)) ?_
  rw [decide_eq_true rfl]
  (try dsimp only [q_op, q_un, q_var, q_c, q_nil, q_cons, q_tup, q_frz, q_cel, q_lst, q_test, q_onB, q_and, q_or, q_not, q_andV, q_orV, q_notV, q_if, q_chain, q_next, q_seq, q_drop, q_ret, q_retF, q_retN, q_sif, q_break, q_cont, q_name, q_dnil, q_dcons, q_dtup, q_asg, q_set, q_par, q_for, q_range1, q_range2, q_iseq, q_ienum, q_call, q_cb, q_ncb, q_nop, q_lenset, q_mt, q_mt0, q_setix, q_augs, q_aug, q_nsl, q_onone, q_osome, q_gsl, q_raise, q_raiseF, q_try, q_lc, q_lc2, q_yes, q_wipe0, q_wipe, q_xf, q_I, q_I0, q_U, q_add, q_addT, q_addL, q_addR, q_onL, q_onSt, q_onSl, q_onSs, q_onSrct, q_onSrcl, q_eqI, q_eqB, q_eqS, q_eqN, q_isN, q_ix, q_ixL, q_in, q_len, q_sum, q_max, q_min, q_max2, q_min2, q_abs, q_int, q_tupof, q_lstof, q_sort, q_rep, q_cat, q_isi, q_isis, q_setat, q_onC, q_append, q_pop, q_popAt, q_reverse, q_insert, q_sp1, q_sp2, q_sp3, q_sp4, q_at0, q_atS, q_st0, q_stS, q_iteT, q_iteF, q_isB, q_gCntT])
  refine if_f (by rfl) (hr.onS fun c hc => ⟨onL_ref mset_same trivial, _, mset_same, w.reverse, ?_, ?_, ?_⟩)
  · rw [← List.map_reverse]
    exact RowD.ref mset_same
  · exact good_le G (sort_perm (List.reverse_perm w).symm)
  have up : MemUp M3 (mset (mset M3 c (.lst (iD w))) c (.lst (iD w).reverse)) := MemUp.set (MemUp.add hc) hc
  rw [← List.map_reverse] at up ⊢
  have hr2 : RowD (mset (mset M3 c (.lst (iD w))) c (.lst (iD w.reverse))) (.ref c) (iD w.reverse) := RowD.ref mset_same
  generalize mset (mset M3 c (.lst (iD w))) c (.lst (iD w.reverse)) = M5 at *
  refine if_f (by rfl) ⟨w, w.reverse, up.row hr, hr2, G, sort_perm (List.reverse_perm w).symm, ?_⟩
  have u5 := u.trans up
  refine if_f (by rfl) ⟨p, rfl, ⟨us, u5 _ _ mset_same⟩, fun xs => ?_⟩
  exact ret_drop (mu_pool u5) (q xs)
theorem edges_mid {M M3 : Mem} {p p3 : Addr} {us : List Int} {z o : Nat} {rev : Bool} {Q : DVK} {E : DXK} {a1 a2 a4 : Option D} (q : ∀ xs : List Int, Q (.bl true) (mset M p (.lst (iD xs)))) (t : TabAt (mset M p (.lst (iD us))) M3 [p3] [iD (edgeW z o rev)]) (hB : edgeB z o rev = true) :
  (sSeq (sIf (gTest (gOp dEq (gCall (sp__law_take K) (aCons (gVar 0) (aCons (gC (.int 2)) aNil))) (gC (.int 1)))) (sSeq (sSet 5 (gOp dIx (gFrz (nLc (iRange1 (aCons (gOp dSub (gCB dLen (aCons (gVar 3) aNil)) (gC (.int 1))) aNil)) (dName 6) (gTest (gOp dNe (gOp dIx (gVar 3) (gVar 6)) (gOp dIx (gVar 3) (gOp dAdd (gVar 6) (gC (.int 1)))))) (gVar 6) [6])) (gC (.int 0))))
    (sSet 3 (gCel (nOp nCat (gOp dAdd (gSl (gVar 3) oNone (oSome (gVar 5))) (gFrz (nLst (aCons (gOp dIx (gVar 3) (gOp dAdd (gVar 5) (gC (.int 1)))) (aCons (gOp dIx (gVar 3) (gVar 5)) aNil))))) (gSl (gVar 3) (oSome (gOp dAdd (gVar 5) (gC (.int 2)))) oNone))))) sNext)
    (sSeq (sIf (gOr (gTest (gOp (dIsB fun b => !b) (gCall (sp_same_lead K) (aCons (gVar 3) aNil)) (gC (.bl false)))) (gTest (gOp dNe (gCall (sp_paired_way K) (aCons (gVar 3) (aCons (gVar 3) aNil))) (gFrz (nLst (aCons (gCB dTupleOf (aCons (gVar 3) aNil)) aNil)))))) (sRetF (gC (.bl false))) sNext)
    (sSeq (sSet 7 (gCel (nCB nListOf (aCons (gVar 3) aNil))))
    (sSeq (sDrop (gMt0 dReverse (gVar 7)))
    (sSeq (sIf (gOr (gNot (gTest (gCall (sp__law_same_holds K) (aCons (gVar 7) aNil)))) (gNot (gTest (gCall (sp__law_way_holds K) (aCons (gVar 3) (aCons (gVar 7) aNil)))))) (sRetF (gC (.bl false))) sNext)
    (sRetF (gCall (sp__law_long_holds K) (aCons (gVar 0) aNil)))))))) { nx := fun _ M => Q .non M, rt := Q, ex := fun x _ M => E x M } [some (.ref p), a1, a2, some (.ref p3), a4, none, none, none] M3 := by
  have tl := fun (M3 : Mem) (p3 : Addr) (us w : List Int) (a1 a2 a4 a5 a6 : Option D) => edges_tail (K := K) (M := M) (M3 := M3) (p := p) (p3 := p3) (us := us) (w := w) (Q := Q) (E := E) (a1 := a1) (a2 := a2) (a4 := a4) (a5 := a5) (a6 := a6) q
  generalize hT : (sSeq (sIf (gOr (gTest (gOp (dIsB fun b => !b) (gCall (sp_same_lead K) (aCons (gVar 3) aNil)) (gC (.bl false)))) (gTest (gOp dNe (gCall (sp_paired_way K) (aCons (gVar 3) (aCons (gVar 3) aNil))) (gFrz (nLst (aCons (gCB dTupleOf (aCons (gVar 3) aNil)) aNil)))))) (sRetF (gC (.bl false))) sNext)
    (sSeq (sSet 7 (gCel (nCB nListOf (aCons (gVar 3) aNil))))
    (sSeq (sDrop (gMt0 dReverse (gVar 7)))
    (sSeq (sIf (gOr (gNot (gTest (gCall (sp__law_same_holds K) (aCons (gVar 7) aNil)))) (gNot (gTest (gCall (sp__law_way_holds K) (aCons (gVar 3) (aCons (gVar 7) aNil)))))) (sRetF (gC (.bl false))) sNext)
    (sRetF (gCall (sp__law_long_holds K) (aCons (gVar 0) aNil))))))) = TL at *
  unfold edgeB at hB
  simp only [Bool.and_eq_true, decide_eq_true_eq, Bool.not_eq_true'] at hB
  obtain ⟨g1, g2, hlt, hf, s1, s2⟩ := hB
  have G := good2_ok g1
  have G2 := good2_ok g2
  generalize edgeW z o rev = w at *
  generalize edgeA z o rev = at' at *
  have hl := G.2.2.1
  dsimp only [q_op, q_un, q_var, q_c, q_nil, q_cons, q_tup, q_frz, q_cel, q_lst, q_test, q_onB, q_and, q_or, q_not, q_andV, q_orV, q_notV, q_if, q_chain, q_next, q_seq, q_drop, q_ret, q_retF, q_retN, q_sif, q_break, q_cont, q_name, q_dnil, q_dcons, q_dtup, q_asg, q_set, q_par, q_for, q_range1, q_range2, q_iseq, q_ienum, q_call, q_cb, q_ncb, q_nop, q_lenset, q_mt, q_mt0, q_setix, q_augs, q_aug, q_nsl, q_onone, q_osome, q_gsl, q_raise, q_raiseF, q_try, q_lc, q_lc2, q_yes, q_wipe0, q_wipe, q_xf, q_I, q_I0, q_U, q_add, q_addT, q_addL, q_addR, q_onL, q_onSt, q_onSl, q_onSs, q_onSrct, q_onSrcl, q_eqI, q_eqB, q_eqS, q_eqN, q_isN, q_ix, q_ixL, q_in, q_len, q_sum, q_max, q_min, q_max2, q_min2, q_abs, q_int, q_tupof, q_lstof, q_sort, q_rep, q_cat, q_isi, q_isis, q_setat, q_onC, q_append, q_pop, q_popAt, q_reverse, q_insert, q_sp1, q_sp2, q_sp3, q_sp4, q_at0, q_atS, q_st0, q_stS, q_iteT, q_iteF, q_isB, q_gCntT, sp__law_take]
  refine ⟨p, _, rfl, rfl, by decide, pool_is t, fun r vs r0 r1 => ?_⟩
  have t2 := pool_take (ys := vs) t
  generalize mset M3 p (.lst (iD vs)) = M4 at *
  have h4 := tab_one t2
  by_cases c : r = 1
  · have e : (((iD w).length : Int) - 1).toNat = w.length - 1 := by rw [List.length_map]; omega
    refine if_t (decide_eq_true c) (RowD.onS (RowD.ref h4) ⟨⟨by omega, by rw [List.length_map]; omega⟩, ?_⟩)
    rw [e, rg0]
    refine lc_still (fun k : Nat => D.int ((k : Nat) : Int)) (fun k => if decide (w.getD k 0 ≠ w.getD (k + 1) 0) = true then some (.int ((k : Nat) : Int)) else none) trivial _ [] (fun k hk N acc hz hN => ?_) (by rw [sz]; simp; omega) ?_
    · have hk' : k < w.length - 1 := by simpa using hk
      (try dsimp only [q_op, q_un, q_var, q_c, q_nil, q_cons, q_tup, q_frz, q_cel, q_lst, q_test, q_onB, q_and, q_or, q_not, q_andV, q_orV, q_notV, q_if, q_chain, q_next, q_seq, q_drop, q_ret, q_retF, q_retN, q_sif, q_break, q_cont, q_name, q_dnil, q_dcons, q_dtup, q_asg, q_set, q_par, q_for, q_range1, q_range2, q_iseq, q_ienum, q_call, q_cb, q_ncb, q_nop, q_lenset, q_mt, q_mt0, q_setix, q_augs, q_aug, q_nsl, q_onone, q_osome, q_gsl, q_raise, q_raiseF, q_try, q_lc, q_lc2, q_yes, q_wipe0, q_wipe, q_xf, q_I, q_I0, q_U, q_add, q_addT, q_addL, q_addR, q_onL, q_onSt, q_onSl, q_onSs, q_onSrct, q_onSrcl, q_eqI, q_eqB, q_eqS, q_eqN, q_isN, q_ix, q_ixL, q_in, q_len, q_sum, q_max, q_min, q_max2, q_min2, q_abs, q_int, q_tupof, q_lstof, q_sort, q_rep, q_cat, q_isi, q_isis, q_setat, q_onC, q_append, q_pop, q_popAt, q_reverse, q_insert, q_sp1, q_sp2, q_sp3, q_sp4, q_at0, q_atS, q_st0, q_stS, q_iteT, q_iteF, q_isB, q_gCntT])
      refine RowD.onS (RowD.ref h4) ⟨_, atI_iD (by omega), RowD.onS (RowD.ref h4) ⟨_, atI_iD (i := k + 1) (by omega), ?_⟩⟩
      (try dsimp only [q_op, q_un, q_var, q_c, q_nil, q_cons, q_tup, q_frz, q_cel, q_lst, q_test, q_onB, q_and, q_or, q_not, q_andV, q_orV, q_notV, q_if, q_chain, q_next, q_seq, q_drop, q_ret, q_retF, q_retN, q_sif, q_break, q_cont, q_name, q_dnil, q_dcons, q_dtup, q_asg, q_set, q_par, q_for, q_range1, q_range2, q_iseq, q_ienum, q_call, q_cb, q_ncb, q_nop, q_lenset, q_mt, q_mt0, q_setix, q_augs, q_aug, q_nsl, q_onone, q_osome, q_gsl, q_raise, q_raiseF, q_try, q_lc, q_lc2, q_yes, q_wipe0, q_wipe, q_xf, q_I, q_I0, q_U, q_add, q_addT, q_addL, q_addR, q_onL, q_onSt, q_onSl, q_onSs, q_onSrct, q_onSrcl, q_eqI, q_eqB, q_eqS, q_eqN, q_isN, q_ix, q_ixL, q_in, q_len, q_sum, q_max, q_min, q_max2, q_min2, q_abs, q_int, q_tupof, q_lstof, q_sort, q_rep, q_cat, q_isi, q_isis, q_setat, q_onC, q_append, q_pop, q_popAt, q_reverse, q_insert, q_sp1, q_sp2, q_sp3, q_sp4, q_at0, q_atS, q_st0, q_stS, q_iteT, q_iteF, q_isB, q_gCntT])
      by_cases c1 : w.getD k 0 = w.getD (k + 1) 0
      · rw [if_neg (by rw [decide_eq_false (fun z => z c1)]; simp)] at hN
        exact if_f (by rw [decide_eq_true c1]; rfl) (by simpa using hN)
      · rw [if_pos (decide_eq_true c1)] at hN
        exact if_t (by rw [decide_eq_false c1]; rfl) ⟨hz, hN⟩
    · rw [List.nil_append, fm_ite, hf]
      refine ⟨_, rfl, ?_⟩
      (try dsimp only [q_op, q_un, q_var, q_c, q_nil, q_cons, q_tup, q_frz, q_cel, q_lst, q_test, q_onB, q_and, q_or, q_not, q_andV, q_orV, q_notV, q_if, q_chain, q_next, q_seq, q_drop, q_ret, q_retF, q_retN, q_sif, q_break, q_cont, q_name, q_dnil, q_dcons, q_dtup, q_asg, q_set, q_par, q_for, q_range1, q_range2, q_iseq, q_ienum, q_call, q_cb, q_ncb, q_nop, q_lenset, q_mt, q_mt0, q_setix, q_augs, q_aug, q_nsl, q_onone, q_osome, q_gsl, q_raise, q_raiseF, q_try, q_lc, q_lc2, q_yes, q_wipe0, q_wipe, q_xf, q_I, q_I0, q_U, q_add, q_addT, q_addL, q_addR, q_onL, q_onSt, q_onSl, q_onSs, q_onSrct, q_onSrcl, q_eqI, q_eqB, q_eqS, q_eqN, q_isN, q_ix, q_ixL, q_in, q_len, q_sum, q_max, q_min, q_max2, q_min2, q_abs, q_int, q_tupof, q_lstof, q_sort, q_rep, q_cat, q_isi, q_isis, q_setat, q_onC, q_append, q_pop, q_popAt, q_reverse, q_insert, q_sp1, q_sp2, q_sp3, q_sp4, q_at0, q_atS, q_st0, q_stS, q_iteT, q_iteF, q_isB, q_gCntT])
      have sl : ∀ lo hi (Q : DVK), Q (.lst (cutD (iD w) lo hi)) M4 → slD (.ref p3) lo hi M4 Q := fun lo hi Q q => onL_ref h4 q
      have ll : ∀ {xs : List D} {k : List D → Prop}, k xs → onL M4 (.lst xs) k := fun q => q
      have c1 : cutD (iD w) none (some ((at' : Nat) : Int)) = iD (w.take at') := by
        rw [cut_take _ (by rw [List.length_map]; omega)]
        unfold iD
        rw [List.map_take]
      have c2 : cutD (iD w) (some ((at' : Nat) + 2 : Int)) none = iD (w.drop (at' + 2)) := by
        rw [show ((at' : Nat) : Int) + 2 = ((at' + 2 : Nat) : Int) by omega, cut_drop]
        unfold iD
        rw [List.map_drop]
      refine sl _ _ _ (RowD.onS (RowD.ref h4) ⟨_, atI_iD (i := at' + 1) hlt, RowD.onS (RowD.ref h4) ⟨_, atI_iD (by omega), by rw [sz]; show 2 ≤ 16777216; omega, ?_⟩⟩)
      rw [c1]
      refine add_ll (by simp; omega) (sl _ _ _ (ll (ll ⟨by rw [c2, sz]; simp; omega, fun c hc => ?_⟩)))
      rw [c2]
      have em : iD (w.take at') ++ [D.int (w.getD (at' + 1) 0), D.int (w.getD at' 0)] ++ iD (w.drop (at' + 2)) = iD (exchI w at') := by unfold exchI; simp
      rw [em]
      have t3 := t2.push (r := iD (exchI w at')) hc
      exact tl _ c vs (exchI w at') _ _ _ _ _ t3.up mset_same G2 s2
  · exact if_f (decide_eq_false c) (tl M4 p3 vs w _ _ _ _ _ t2.up h4 G s1)
theorem b__law_edges_hold : ∀ d0 M Q E, sp__law_edges_hold K [d0] M Q E → g__law_edges_hold K { nx := fun _ M => Q .non M, rt := Q, ex := fun x _ M => E x M } [some d0, none, none, none, none, none, none, none] M := by
  rintro d0 M Q E ⟨p, rfl, ⟨xs0, hM⟩, q⟩
  have tl := fun (M3 : Mem) (p3 : Addr) (us : List Int) (z o : Nat) (rev : Bool) (a1 a2 a4 : Option D) => edges_mid (K := K) (M := M) (M3 := M3) (p := p) (p3 := p3) (us := us) (z := z) (o := o) (rev := rev) (Q := Q) (E := E) (a1 := a1) (a2 := a2) (a4 := a4) q
  unfold g__law_edges_hold
  generalize hT : (sSeq (sIf (gTest (gOp dEq (gCall (sp__law_take K) (aCons (gVar 0) (aCons (gC (.int 2)) aNil))) (gC (.int 1)))) (sSeq (sSet 5 (gOp dIx (gFrz (nLc (iRange1 (aCons (gOp dSub (gCB dLen (aCons (gVar 3) aNil)) (gC (.int 1))) aNil)) (dName 6) (gTest (gOp dNe (gOp dIx (gVar 3) (gVar 6)) (gOp dIx (gVar 3) (gOp dAdd (gVar 6) (gC (.int 1)))))) (gVar 6) [6])) (gC (.int 0))))
    (sSet 3 (gCel (nOp nCat (gOp dAdd (gSl (gVar 3) oNone (oSome (gVar 5))) (gFrz (nLst (aCons (gOp dIx (gVar 3) (gOp dAdd (gVar 5) (gC (.int 1)))) (aCons (gOp dIx (gVar 3) (gVar 5)) aNil))))) (gSl (gVar 3) (oSome (gOp dAdd (gVar 5) (gC (.int 2)))) oNone))))) sNext)
    (sSeq (sIf (gOr (gTest (gOp (dIsB fun b => !b) (gCall (sp_same_lead K) (aCons (gVar 3) aNil)) (gC (.bl false)))) (gTest (gOp dNe (gCall (sp_paired_way K) (aCons (gVar 3) (aCons (gVar 3) aNil))) (gFrz (nLst (aCons (gCB dTupleOf (aCons (gVar 3) aNil)) aNil)))))) (sRetF (gC (.bl false))) sNext)
    (sSeq (sSet 7 (gCel (nCB nListOf (aCons (gVar 3) aNil))))
    (sSeq (sDrop (gMt0 dReverse (gVar 7)))
    (sSeq (sIf (gOr (gNot (gTest (gCall (sp__law_same_holds K) (aCons (gVar 7) aNil)))) (gNot (gTest (gCall (sp__law_way_holds K) (aCons (gVar 3) (aCons (gVar 7) aNil)))))) (sRetF (gC (.bl false))) sNext)
    (sRetF (gCall (sp__law_long_holds K) (aCons (gVar 0) aNil)))))))) = TL at *
  dsimp only [q_op, q_un, q_var, q_c, q_nil, q_cons, q_tup, q_frz, q_cel, q_lst, q_test, q_onB, q_and, q_or, q_not, q_andV, q_orV, q_notV, q_if, q_chain, q_next, q_seq, q_drop, q_ret, q_retF, q_retN, q_sif, q_break, q_cont, q_name, q_dnil, q_dcons, q_dtup, q_asg, q_set, q_par, q_for, q_range1, q_range2, q_iseq, q_ienum, q_call, q_cb, q_ncb, q_nop, q_lenset, q_mt, q_mt0, q_setix, q_augs, q_aug, q_nsl, q_onone, q_osome, q_gsl, q_raise, q_raiseF, q_try, q_lc, q_lc2, q_yes, q_wipe0, q_wipe, q_xf, q_I, q_I0, q_U, q_add, q_addT, q_addL, q_addR, q_onL, q_onSt, q_onSl, q_onSs, q_onSrct, q_onSrcl, q_eqI, q_eqB, q_eqS, q_eqN, q_isN, q_ix, q_ixL, q_in, q_len, q_sum, q_max, q_min, q_max2, q_min2, q_abs, q_int, q_tupof, q_lstof, q_sort, q_rep, q_cat, q_isi, q_isis, q_setat, q_onC, q_append, q_pop, q_popAt, q_reverse, q_insert, q_sp1, q_sp2, q_sp3, q_sp4, q_at0, q_atS, q_st0, q_stS, q_iteT, q_iteF, q_isB, q_gCntT, sp__law_take]
  have t0 : TabAt (mset M p (.lst (iD xs0))) M [] [] := by
    rw [mset_id hM]
    exact TabAt.nil
  refine ⟨p, _, rfl, rfl, by decide, ⟨xs0, hM⟩, fun r ys r0 r1 => ?_⟩
  have t1 := pool_take (ys := ys) t0
  obtain ⟨z, hz, hz1, hz6⟩ : ∃ S : Nat, 1 + r = (S : Int) ∧ 1 ≤ S ∧ S ≤ 6 := ⟨(1 + r).toNat, by omega, by omega, by omega⟩
  (try dsimp only [q_op, q_un, q_var, q_c, q_nil, q_cons, q_tup, q_frz, q_cel, q_lst, q_test, q_onB, q_and, q_or, q_not, q_andV, q_orV, q_notV, q_if, q_chain, q_next, q_seq, q_drop, q_ret, q_retF, q_retN, q_sif, q_break, q_cont, q_name, q_dnil, q_dcons, q_dtup, q_asg, q_set, q_par, q_for, q_range1, q_range2, q_iseq, q_ienum, q_call, q_cb, q_ncb, q_nop, q_lenset, q_mt, q_mt0, q_setix, q_augs, q_aug, q_nsl, q_onone, q_osome, q_gsl, q_raise, q_raiseF, q_try, q_lc, q_lc2, q_yes, q_wipe0, q_wipe, q_xf, q_I, q_I0, q_U, q_add, q_addT, q_addL, q_addR, q_onL, q_onSt, q_onSl, q_onSs, q_onSrct, q_onSrcl, q_eqI, q_eqB, q_eqS, q_eqN, q_isN, q_ix, q_ixL, q_in, q_len, q_sum, q_max, q_min, q_max2, q_min2, q_abs, q_int, q_tupof, q_lstof, q_sort, q_rep, q_cat, q_isi, q_isis, q_setat, q_onC, q_append, q_pop, q_popAt, q_reverse, q_insert, q_sp1, q_sp2, q_sp3, q_sp4, q_at0, q_atS, q_st0, q_stS, q_iteT, q_iteF, q_isB, q_gCntT])
  rw [hz]
  refine ⟨p, _, rfl, rfl, by decide, pool_is t1, fun r' zs r0 r1 => ?_⟩
  have t2 := pool_take (ys := zs) t1
  rw [mset_mset] at t2 ⊢
  obtain ⟨o, ho, ho1, ho6⟩ : ∃ S : Nat, 1 + r' = (S : Int) ∧ 1 ≤ S ∧ S ≤ 6 := ⟨(1 + r').toNat, by omega, by omega, by omega⟩
  rw [ho]
  rw [Int.toNat_natCast, Int.toNat_natCast]
  refine ⟨⟨by omega, by omega⟩, lc_rep z 0 (by omega) ?_⟩
  refine ⟨⟨by omega, by omega⟩, lc_rep o 1 (by omega) ?_⟩
  (try dsimp only [q_op, q_un, q_var, q_c, q_nil, q_cons, q_tup, q_frz, q_cel, q_lst, q_test, q_onB, q_and, q_or, q_not, q_andV, q_orV, q_notV, q_if, q_chain, q_next, q_seq, q_drop, q_ret, q_retF, q_retN, q_sif, q_break, q_cont, q_name, q_dnil, q_dcons, q_dtup, q_asg, q_set, q_par, q_for, q_range1, q_range2, q_iseq, q_ienum, q_call, q_cb, q_ncb, q_nop, q_lenset, q_mt, q_mt0, q_setix, q_augs, q_aug, q_nsl, q_onone, q_osome, q_gsl, q_raise, q_raiseF, q_try, q_lc, q_lc2, q_yes, q_wipe0, q_wipe, q_xf, q_I, q_I0, q_U, q_add, q_addT, q_addL, q_addR, q_onL, q_onSt, q_onSl, q_onSs, q_onSrct, q_onSrcl, q_eqI, q_eqB, q_eqS, q_eqN, q_isN, q_ix, q_ixL, q_in, q_len, q_sum, q_max, q_min, q_max2, q_min2, q_abs, q_int, q_tupof, q_lstof, q_sort, q_rep, q_cat, q_isi, q_isis, q_setat, q_onC, q_append, q_pop, q_popAt, q_reverse, q_insert, q_sp1, q_sp2, q_sp3, q_sp4, q_at0, q_atS, q_st0, q_stS, q_iteT, q_iteF, q_isB, q_gCntT])
  refine ⟨by rw [sz]; simp; omega, fun c hc => ?_⟩
  have em : iD (List.replicate z 0) ++ iD (List.replicate o 1) = iD (edgeW z o false) := by unfold edgeW; simp
  rw [em]
  have t3 := t2.push (r := iD (edgeW z o false)) hc
  refine ⟨p, _, rfl, rfl, by decide, pool_is t3, fun r us r0 r1 => ?_⟩
  have t4 := pool_take (ys := us) t3
  generalize mset (mset (mset M p (.lst (iD zs))) c (.lst (iD (edgeW z o false)))) p (.lst (iD us)) = M4 at *
  have h4 := tab_one t4
  by_cases cr : r = 1
  · refine if_t (decide_eq_true cr) ⟨onL_ref h4 trivial, _, h4, ?_⟩
    have er : (iD (edgeW z o false)).reverse = iD (edgeW z o true) := by unfold edgeW; simp
    have t5 := t4.set (r := (iD (edgeW z o false)).reverse) (i := 0) (p := c) rfl
    rw [er] at t5 ⊢
    exact tl _ _ us z o true _ _ _ t5 (edge_one hz1 hz6 ho1 ho6 true)
  · exact if_f (decide_eq_false cr) (tl _ _ us z o false _ _ _ t4 (edge_one hz1 hz6 ho1 ho6 false))
end
end LW

namespace LW
open PySem PySem.Spec PyProof.Rows L2 DL
section
variable {K : PySem.W.Frag}
theorem badAt_app {n : Int} {rest : List D} : ∀ (l : List Int) (k : Nat), (∀ a ∈ l, 0 ≤ a ∧ a < n) → badAt n (iD l ++ rest) k = badAt n rest (k + l.length)
  | [], k, _ => rfl
  | a :: l, k, h => by
    have ha := h a List.mem_cons_self
    have ih := badAt_app (n := n) (rest := rest) l (k + 1) (fun b hb => h b (List.mem_cons_of_mem _ hb))
    show badAt n (D.int a :: (iD l ++ rest)) k = _
    rw [badAt_cons, if_pos (by unfold goodL; simp; exact ha), ih, List.length_cons]
    congr 1
    omega
def BadW (K : PySem.W.Frag) (M : Mem) (a : D) (p : Int) : Prop := ∀ (E : DXK) (k : List Int → Prop), E (xBW K p) M → wordC K M a 2 E k
theorem badW_row {M : Mem} {a : D} {xs : List D} {p : Int} (r : RowD M a xs) (f : xs.all flatD = true) (h : xs.length < 4000) (e : letE 2 xs = some p) : BadW K M a p := fun E k q => by
  refine .inr ⟨xs, r, f, h, ?_⟩
  simp only [e]
  exact q
theorem told_first {M : Mem} {a b : D} {p : Int} {Q : DVK} {E : DXK} {n : Nat} (hn : n < 3) (h : BadW K M a p) (q : Q (.lst [.str "word", .int p]) M) : sp__law_told K [.int (n : Nat), a, b] M Q E := by
  have qx : toldX K Q (xBW K p) M := .inl ⟨p, rfl, q⟩
  have : n = 0 ∨ n = 1 ∨ n = 2 := by omega
  rcases this with rfl | rfl | rfl
  · exact .inl ⟨.inl rfl, h _ _ qx⟩
  · exact .inl ⟨.inr rfl, h _ _ qx⟩
  · exact .inr ⟨rfl, h _ _ qx⟩
theorem told_two {M : Mem} {a b : D} {Q : DVK} {E : DXK} {n : Nat} {w : List Int} (hn : n < 2) (G : GoodW 2 w) (r : RowD M a (iD w)) (h : wordC K M b 2 (toldX K Q) fun v => if w.length ≠ v.length then toldX K Q (xOS K w.length v.length) M else if sortI w ≠ sortI v then toldX K Q (xBW K (-3)) M else False) : sp__law_told K [.int (n : Nat), a, b] M Q E := by
  have : n = 0 ∨ n = 1 := by omega
  rcases this with rfl | rfl
  · exact .inl ⟨.inl rfl, wordC_good G r h⟩
  · exact .inl ⟨.inr rfl, wordC_good G r h⟩
theorem told_second {M : Mem} {a b : D} {p : Int} {Q : DVK} {E : DXK} {n : Nat} {w : List Int} (hn : n < 2) (G : GoodW 2 w) (r : RowD M a (iD w)) (h : BadW K M b p) (q : Q (.lst [.str "word", .int p]) M) : sp__law_told K [.int (n : Nat), a, b] M Q E :=
  told_two hn G r (h _ _ (.inl ⟨p, rfl, q⟩))
theorem told_size {M : Mem} {a b : D} {Q : DVK} {E : DXK} {n : Nat} {w v : List Int} (hn : n < 2) (G : GoodW 2 w) (r : RowD M a (iD w)) (G2 : GoodW 2 v) (r2 : RowD M b (iD v)) (h : w.length ≠ v.length) (q : Q (.lst [.str "size", .int w.length, .int v.length]) M) : sp__law_told K [.int (n : Nat), a, b] M Q E :=
  told_two hn G r (wordC_good G2 r2 (by rw [if_pos h]; exact .inr ⟨_, _, rfl, q⟩))
theorem told_unlike {M : Mem} {a b : D} {Q : DVK} {E : DXK} {n : Nat} {w v : List Int} (hn : n < 2) (G : GoodW 2 w) (r : RowD M a (iD w)) (G2 : GoodW 2 v) (r2 : RowD M b (iD v)) (h : w.length = v.length) (h2 : sortI w ≠ sortI v) (q : Q (.lst [.str "word", .int (-3)]) M) : sp__law_told K [.int (n : Nat), a, b] M Q E :=
  told_two hn G r (wordC_good G2 r2 (by rw [if_neg (by simp [h]), if_pos h2]; exact .inl ⟨_, rfl, q⟩))
theorem good_snoc {w : List Int} {a : Int} (G : GoodW 2 w) (h : w.length < 3999) (ha : a = 0 ∨ a = 1) : GoodW 2 (w ++ [a]) := by
  refine ⟨G.1, G.2.1, by rw [List.length_append]; show w.length + 1 < 4000; omega, fun x hx => ?_, fun k hk => List.mem_append_left _ (G.2.2.2.2 k hk)⟩
  rcases List.mem_append.mp hx with z | z
  · exact G.2.2.2.1 x z
  · rw [List.mem_singleton.mp z]
    rcases ha with rfl | rfl <;> decide
theorem pl_word (p : Int) : plainN 9 (.lst [.str "word", .int p]) = true := by
  have : PyData.strOk ("word" : Str) = true := by decide +kernel
  simp [plainN, this]
theorem pl_size (p q : Int) : plainN 9 (.lst [.str "size", .int p, .int q]) = true := by
  have : PyData.strOk ("size" : Str) = true := by decide +kernel
  simp [plainN, this]
theorem b__law_refuses : ∀ d0 d1 M Q E, sp__law_refuses K [d0, d1] M Q E → g__law_refuses K { nx := fun _ M => Q .non M, rt := Q, ex := fun x _ M => E x M } [some d0, some d1, none, none, none, none, none] M := by
  rintro d0 d1 M Q E ⟨p, ns, rfl, G, rfl, hl, hpool, q⟩
  unfold g__law_refuses
  dsimp only [q_op, q_un, q_var, q_c, q_nil, q_cons, q_tup, q_frz, q_cel, q_lst, q_test, q_onB, q_and, q_or, q_not, q_andV, q_orV, q_notV, q_if, q_chain, q_next, q_seq, q_drop, q_ret, q_retF, q_retN, q_sif, q_break, q_cont, q_name, q_dnil, q_dcons, q_dtup, q_asg, q_set, q_par, q_for, q_range1, q_range2, q_iseq, q_ienum, q_call, q_cb, q_ncb, q_nop, q_lenset, q_mt, q_mt0, q_setix, q_augs, q_aug, q_nsl, q_onone, q_osome, q_gsl, q_raise, q_raiseF, q_try, q_lc, q_lc2, q_yes, q_wipe0, q_wipe, q_xf, q_I, q_I0, q_U, q_add, q_addT, q_addL, q_addR, q_onL, q_onSt, q_onSl, q_onSs, q_onSrct, q_onSrcl, q_eqI, q_eqB, q_eqS, q_eqN, q_isN, q_ix, q_ixL, q_in, q_len, q_sum, q_max, q_min, q_max2, q_min2, q_abs, q_int, q_tupof, q_lstof, q_sort, q_rep, q_cat, q_isi, q_isis, q_setat, q_onC, q_append, q_pop, q_popAt, q_reverse, q_insert, q_sp1, q_sp2, q_sp3, q_sp4, q_at0, q_atS, q_st0, q_stS, q_iteT, q_iteF, q_isB, q_gCntT, sp__law_take]
  refine ⟨p, _, rfl, rfl, by omega, hpool, fun r xs r0 r1 => ?_⟩
  obtain ⟨i, rfl⟩ : ∃ k : Nat, r = (k : Int) := ⟨r.toNat, by omega⟩
  have hi : i ≤ ns.length := by rw [List.length_map] at r1; omega
  have sl : ∀ lo hi (M : Mem) (Q : DVK), Q (.lst (cutD (iD ns) lo hi)) M → slD (.lst (iD ns)) lo hi M Q := fun lo hi M Q q => q
  have c1 : cutD (iD ns) none (some ((i : Nat) : Int)) = iD (ns.take i) := by
    rw [cut_take _ (by rw [List.length_map]; omega)]
    unfold iD
    rw [List.map_take]
  have c2 : cutD (iD ns) (some ((i : Nat) : Int)) none = iD (ns.drop i) := by
    rw [cut_drop]
    unfold iD
    rw [List.map_drop]
  (try dsimp only [q_op, q_un, q_var, q_c, q_nil, q_cons, q_tup, q_frz, q_cel, q_lst, q_test, q_onB, q_and, q_or, q_not, q_andV, q_orV, q_notV, q_if, q_chain, q_next, q_seq, q_drop, q_ret, q_retF, q_retN, q_sif, q_break, q_cont, q_name, q_dnil, q_dcons, q_dtup, q_asg, q_set, q_par, q_for, q_range1, q_range2, q_iseq, q_ienum, q_call, q_cb, q_ncb, q_nop, q_lenset, q_mt, q_mt0, q_setix, q_augs, q_aug, q_nsl, q_onone, q_osome, q_gsl, q_raise, q_raiseF, q_try, q_lc, q_lc2, q_yes, q_wipe0, q_wipe, q_xf, q_I, q_I0, q_U, q_add, q_addT, q_addL, q_addR, q_onL, q_onSt, q_onSl, q_onSs, q_onSrct, q_onSrcl, q_eqI, q_eqB, q_eqS, q_eqN, q_isN, q_ix, q_ixL, q_in, q_len, q_sum, q_max, q_min, q_max2, q_min2, q_abs, q_int, q_tupof, q_lstof, q_sort, q_rep, q_cat, q_isi, q_isis, q_setat, q_onC, q_append, q_pop, q_popAt, q_reverse, q_insert, q_sp1, q_sp2, q_sp3, q_sp4, q_at0, q_atS, q_st0, q_stS, q_iteT, q_iteF, q_isB, q_gCntT])
  refine sl _ _ _ _ ⟨by rw [sz]; show 5 ≤ 16777216; omega, p, 5, rfl, rfl, by decide, ⟨xs, mset_same⟩, fun u ys u0 u1 => ?_⟩
  rw [mset_mset]
  obtain ⟨e, e1, e2, e3⟩ : ∃ e, atI [D.int 2, D.non, D.bl true, D.int (-1), D.str "1"] u = some e ∧ flatD e = true ∧ goodL 2 e = false := by
    have : u = 0 ∨ u = 1 ∨ u = 2 ∨ u = 3 ∨ u = 4 := by omega
    rcases this with rfl | rfl | rfl | rfl | rfl
    · exact ⟨_, rfl, rfl, by decide⟩
    · exact ⟨_, rfl, rfl, rfl⟩
    · exact ⟨_, rfl, rfl, rfl⟩
    · exact ⟨_, rfl, rfl, by decide⟩
    · exact ⟨_, rfl, rfl, rfl⟩
  refine ⟨e, e1, by rw [sz]; show 1 ≤ 16777216; omega, ?_⟩
  rw [c1]
  refine add_ll (by simp; omega) (sl _ _ _ _ ?_)
  rw [c2]
  refine add_ll (by simp; omega) ⟨by rw [sz]; show 3 ≤ 16777216; omega, p, 3, rfl, rfl, by decide, ⟨ys, mset_same⟩, fun v zs v0 v1 => ?_⟩
  rw [mset_mset]
  obtain ⟨sh, h1, t, h2, h3, h4⟩ : ∃ sh, atI [D.non, D.int 1, D.str "01"] v = some sh ∧ ∃ t, (∀ M, kdOf M sh = some t) ∧ t ≠ .tuple ∧ t ≠ .list := by
    have : v = 0 ∨ v = 1 ∨ v = 2 := by omega
    rcases this with rfl | rfl | rfl
    · exact ⟨_, rfl, .none, fun _ => rfl, by decide, by decide⟩
    · exact ⟨_, rfl, .int, fun _ => rfl, by decide, by decide⟩
    · exact ⟨_, rfl, .str, fun _ => rfl, by decide, by decide⟩
  refine ⟨sh, h1, by rw [sz]; show 2 ≤ 16777216; omega, by rw [sz]; show 1 ≤ 16777216; omega, by rw [sz]; show 0 ≤ 16777216; omega, by rw [sz]; show 3 ≤ 16777216; omega, p, 3, rfl, rfl, by decide, ⟨zs, mset_same⟩, fun x us x0 x1 => ?_⟩
  rw [mset_mset]
  obtain ⟨l, l1, l2, l3⟩ : ∃ l : List Int, atI [D.lst [D.int 0, D.int 0], D.lst [D.int 1], D.lst []] x = some (.lst (iD l)) ∧ letE 2 (iD l) = some (-2) ∧ l.length < 4000 := by
    have : x = 0 ∨ x = 1 ∨ x = 2 := by omega
    rcases this with rfl | rfl | rfl
    · exact ⟨[0, 0], rfl, by decide, by decide⟩
    · exact ⟨[1], rfl, by decide, by decide⟩
    · exact ⟨[], rfl, by decide, by decide⟩
  refine ⟨_, l1, ?_⟩
  have q1 := q us
  generalize mset M p (.lst (iD us)) = M1 at *
  have hw : BadW K M1 (.lst (iD (ns.take i) ++ [e] ++ iD (ns.drop i))) (i : Nat) := by
    refine badW_row RowD.lst ?_ (by simp; omega) ?_
    · rw [List.all_append, List.all_append, flat_iD, flat_iD, List.all_cons, e2]
      rfl
    · unfold letE
      rw [List.append_assoc, badAt_app (n := 2) _ _ (fun a ha => G.2.2.2.1 a (List.mem_of_mem_take ha))]
      show (match badAt 2 (e :: iD (ns.drop i)) (0 + (ns.take i).length) with | some p => some p | none => _) = _
      rw [badAt_cons, e3, if_neg Bool.false_ne_true, List.length_take, Nat.min_eq_left hi, Nat.zero_add]
  have hsh : BadW K M1 sh (-1) := fun E k q => .inl ⟨t, h2 M1, h3, h4, q⟩
  have hlo : BadW K M1 (.lst (iD l)) (-2) := badW_row RowD.lst (flat_iD l) (by rw [List.length_map]; exact l3) l2
  generalize iD (ns.take i) ++ [e] ++ iD (ns.drop i) = wr at *
  refine ⟨by decide, ?_⟩
  refine loop_rg0 (fun s ρ M' => (∃ a, ρ = [some (.ref p), some (.lst (iD ns)), some (.int (i : Nat)), some (.lst wr), some sh, some (.lst (iD l)), a]) ∧ M' = M1) ?_ ?_ ⟨⟨_, rfl⟩, rfl⟩
  · rintro s ρ M' hs ⟨⟨a, rfl⟩, rfl⟩ Nx hN
    have hs : s < 3 := by simpa using hs
    (try dsimp only [q_op, q_un, q_var, q_c, q_nil, q_cons, q_tup, q_frz, q_cel, q_lst, q_test, q_onB, q_and, q_or, q_not, q_andV, q_orV, q_notV, q_if, q_chain, q_next, q_seq, q_drop, q_ret, q_retF, q_retN, q_sif, q_break, q_cont, q_name, q_dnil, q_dcons, q_dtup, q_asg, q_set, q_par, q_for, q_range1, q_range2, q_iseq, q_ienum, q_call, q_cb, q_ncb, q_nop, q_lenset, q_mt, q_mt0, q_setix, q_augs, q_aug, q_nsl, q_onone, q_osome, q_gsl, q_raise, q_raiseF, q_try, q_lc, q_lc2, q_yes, q_wipe0, q_wipe, q_xf, q_I, q_I0, q_U, q_add, q_addT, q_addL, q_addR, q_onL, q_onSt, q_onSl, q_onSs, q_onSrct, q_onSrcl, q_eqI, q_eqB, q_eqS, q_eqN, q_isN, q_ix, q_ixL, q_in, q_len, q_sum, q_max, q_min, q_max2, q_min2, q_abs, q_int, q_tupof, q_lstof, q_sort, q_rep, q_cat, q_isi, q_isis, q_setat, q_onC, q_append, q_pop, q_popAt, q_reverse, q_insert, q_sp1, q_sp2, q_sp3, q_sp4, q_at0, q_atS, q_st0, q_stS, q_iteT, q_iteF, q_isB, q_gCntT])
    refine told_first hs hw ⟨by rw [sz]; show 2 ≤ 16777216; omega, eq_self rfl (pl_word _) ?_⟩
    (try dsimp only [q_op, q_un, q_var, q_c, q_nil, q_cons, q_tup, q_frz, q_cel, q_lst, q_test, q_onB, q_and, q_or, q_not, q_andV, q_orV, q_notV, q_if, q_chain, q_next, q_seq, q_drop, q_ret, q_retF, q_retN, q_sif, q_break, q_cont, q_name, q_dnil, q_dcons, q_dtup, q_asg, q_set, q_par, q_for, q_range1, q_range2, q_iseq, q_ienum, q_call, q_cb, q_ncb, q_nop, q_lenset, q_mt, q_mt0, q_setix, q_augs, q_aug, q_nsl, q_onone, q_osome, q_gsl, q_raise, q_raiseF, q_try, q_lc, q_lc2, q_yes, q_wipe0, q_wipe, q_xf, q_I, q_I0, q_U, q_add, q_addT, q_addL, q_addR, q_onL, q_onSt, q_onSl, q_onSs, q_onSrct, q_onSrcl, q_eqI, q_eqB, q_eqS, q_eqN, q_isN, q_ix, q_ixL, q_in, q_len, q_sum, q_max, q_min, q_max2, q_min2, q_abs, q_int, q_tupof, q_lstof, q_sort, q_rep, q_cat, q_isi, q_isis, q_setat, q_onC, q_append, q_pop, q_popAt, q_reverse, q_insert, q_sp1, q_sp2, q_sp3, q_sp4, q_at0, q_atS, q_st0, q_stS, q_iteT, q_iteF, q_isB, q_gCntT])
    refine if_f (by rfl) (told_first hs hsh ⟨by rw [sz]; show 2 ≤ 16777216; omega, eq_self rfl (pl_word _) ?_⟩)
    (try dsimp only [q_op, q_un, q_var, q_c, q_nil, q_cons, q_tup, q_frz, q_cel, q_lst, q_test, q_onB, q_and, q_or, q_not, q_andV, q_orV, q_notV, q_if, q_chain, q_next, q_seq, q_drop, q_ret, q_retF, q_retN, q_sif, q_break, q_cont, q_name, q_dnil, q_dcons, q_dtup, q_asg, q_set, q_par, q_for, q_range1, q_range2, q_iseq, q_ienum, q_call, q_cb, q_ncb, q_nop, q_lenset, q_mt, q_mt0, q_setix, q_augs, q_aug, q_nsl, q_onone, q_osome, q_gsl, q_raise, q_raiseF, q_try, q_lc, q_lc2, q_yes, q_wipe0, q_wipe, q_xf, q_I, q_I0, q_U, q_add, q_addT, q_addL, q_addR, q_onL, q_onSt, q_onSl, q_onSs, q_onSrct, q_onSrcl, q_eqI, q_eqB, q_eqS, q_eqN, q_isN, q_ix, q_ixL, q_in, q_len, q_sum, q_max, q_min, q_max2, q_min2, q_abs, q_int, q_tupof, q_lstof, q_sort, q_rep, q_cat, q_isi, q_isis, q_setat, q_onC, q_append, q_pop, q_popAt, q_reverse, q_insert, q_sp1, q_sp2, q_sp3, q_sp4, q_at0, q_atS, q_st0, q_stS, q_iteT, q_iteF, q_isB, q_gCntT])
    refine if_f (by rfl) (told_first hs hlo ⟨by rw [sz]; show 2 ≤ 16777216; omega, eq_self rfl (pl_word _) ?_⟩)
    (try dsimp only [q_op, q_un, q_var, q_c, q_nil, q_cons, q_tup, q_frz, q_cel, q_lst, q_test, q_onB, q_and, q_or, q_not, q_andV, q_orV, q_notV, q_if, q_chain, q_next, q_seq, q_drop, q_ret, q_retF, q_retN, q_sif, q_break, q_cont, q_name, q_dnil, q_dcons, q_dtup, q_asg, q_set, q_par, q_for, q_range1, q_range2, q_iseq, q_ienum, q_call, q_cb, q_ncb, q_nop, q_lenset, q_mt, q_mt0, q_setix, q_augs, q_aug, q_nsl, q_onone, q_osome, q_gsl, q_raise, q_raiseF, q_try, q_lc, q_lc2, q_yes, q_wipe0, q_wipe, q_xf, q_I, q_I0, q_U, q_add, q_addT, q_addL, q_addR, q_onL, q_onSt, q_onSl, q_onSs, q_onSrct, q_onSrcl, q_eqI, q_eqB, q_eqS, q_eqN, q_isN, q_ix, q_ixL, q_in, q_len, q_sum, q_max, q_min, q_max2, q_min2, q_abs, q_int, q_tupof, q_lstof, q_sort, q_rep, q_cat, q_isi, q_isis, q_setat, q_onC, q_append, q_pop, q_popAt, q_reverse, q_insert, q_sp1, q_sp2, q_sp3, q_sp4, q_at0, q_atS, q_st0, q_stS, q_iteT, q_iteF, q_isB, q_gCntT])
    exact if_f (by rfl) (hN _ _ ⟨⟨_, rfl⟩, rfl⟩)
  · rintro ρ M' ⟨⟨a, rfl⟩, rfl⟩
    (try dsimp only [q_op, q_un, q_var, q_c, q_nil, q_cons, q_tup, q_frz, q_cel, q_lst, q_test, q_onB, q_and, q_or, q_not, q_andV, q_orV, q_notV, q_if, q_chain, q_next, q_seq, q_drop, q_ret, q_retF, q_retN, q_sif, q_break, q_cont, q_name, q_dnil, q_dcons, q_dtup, q_asg, q_set, q_par, q_for, q_range1, q_range2, q_iseq, q_ienum, q_call, q_cb, q_ncb, q_nop, q_lenset, q_mt, q_mt0, q_setix, q_augs, q_aug, q_nsl, q_onone, q_osome, q_gsl, q_raise, q_raiseF, q_try, q_lc, q_lc2, q_yes, q_wipe0, q_wipe, q_xf, q_I, q_I0, q_U, q_add, q_addT, q_addL, q_addR, q_onL, q_onSt, q_onSl, q_onSs, q_onSrct, q_onSrcl, q_eqI, q_eqB, q_eqS, q_eqN, q_isN, q_ix, q_ixL, q_in, q_len, q_sum, q_max, q_min, q_max2, q_min2, q_abs, q_int, q_tupof, q_lstof, q_sort, q_rep, q_cat, q_isi, q_isis, q_setat, q_onC, q_append, q_pop, q_popAt, q_reverse, q_insert, q_sp1, q_sp2, q_sp3, q_sp4, q_at0, q_atS, q_st0, q_stS, q_iteT, q_iteF, q_isB, q_gCntT])
    refine ⟨by decide, ?_⟩
    refine loop_rg0 (fun s ρ M2 => (∃ a, ρ = [some (.ref p), some (.lst (iD ns)), some (.int (i : Nat)), some (.lst wr), some sh, some (.lst (iD l)), a]) ∧ M2 = M') ?_ ?_ ⟨⟨_, rfl⟩, rfl⟩
    · rintro s ρ M2 hs ⟨⟨a, rfl⟩, rfl⟩ Nx hN
      have hs : s < 2 := by simpa using hs
      have n1 : iD ns ++ [D.int 1] = iD (ns ++ [1]) := by simp
      have n0 : iD ns ++ [D.int 0] = iD (ns ++ [0]) := by simp
      have G1 := good_snoc G (by omega) (.inr rfl)
      have G0 := good_snoc G (by omega) (.inl rfl)
      (try dsimp only [q_op, q_un, q_var, q_c, q_nil, q_cons, q_tup, q_frz, q_cel, q_lst, q_test, q_onB, q_and, q_or, q_not, q_andV, q_orV, q_notV, q_if, q_chain, q_next, q_seq, q_drop, q_ret, q_retF, q_retN, q_sif, q_break, q_cont, q_name, q_dnil, q_dcons, q_dtup, q_asg, q_set, q_par, q_for, q_range1, q_range2, q_iseq, q_ienum, q_call, q_cb, q_ncb, q_nop, q_lenset, q_mt, q_mt0, q_setix, q_augs, q_aug, q_nsl, q_onone, q_osome, q_gsl, q_raise, q_raiseF, q_try, q_lc, q_lc2, q_yes, q_wipe0, q_wipe, q_xf, q_I, q_I0, q_U, q_add, q_addT, q_addL, q_addR, q_onL, q_onSt, q_onSl, q_onSs, q_onSrct, q_onSrcl, q_eqI, q_eqB, q_eqS, q_eqN, q_isN, q_ix, q_ixL, q_in, q_len, q_sum, q_max, q_min, q_max2, q_min2, q_abs, q_int, q_tupof, q_lstof, q_sort, q_rep, q_cat, q_isi, q_isis, q_setat, q_onC, q_append, q_pop, q_popAt, q_reverse, q_insert, q_sp1, q_sp2, q_sp3, q_sp4, q_at0, q_atS, q_st0, q_stS, q_iteT, q_iteF, q_isB, q_gCntT])
      refine told_second hs G RowD.lst hw ⟨by rw [sz]; show 2 ≤ 16777216; omega, eq_self rfl (pl_word _) ?_⟩
      (try dsimp only [q_op, q_un, q_var, q_c, q_nil, q_cons, q_tup, q_frz, q_cel, q_lst, q_test, q_onB, q_and, q_or, q_not, q_andV, q_orV, q_notV, q_if, q_chain, q_next, q_seq, q_drop, q_ret, q_retF, q_retN, q_sif, q_break, q_cont, q_name, q_dnil, q_dcons, q_dtup, q_asg, q_set, q_par, q_for, q_range1, q_range2, q_iseq, q_ienum, q_call, q_cb, q_ncb, q_nop, q_lenset, q_mt, q_mt0, q_setix, q_augs, q_aug, q_nsl, q_onone, q_osome, q_gsl, q_raise, q_raiseF, q_try, q_lc, q_lc2, q_yes, q_wipe0, q_wipe, q_xf, q_I, q_I0, q_U, q_add, q_addT, q_addL, q_addR, q_onL, q_onSt, q_onSl, q_onSs, q_onSrct, q_onSrcl, q_eqI, q_eqB, q_eqS, q_eqN, q_isN, q_ix, q_ixL, q_in, q_len, q_sum, q_max, q_min, q_max2, q_min2, q_abs, q_int, q_tupof, q_lstof, q_sort, q_rep, q_cat, q_isi, q_isis, q_setat, q_onC, q_append, q_pop, q_popAt, q_reverse, q_insert, q_sp1, q_sp2, q_sp3, q_sp4, q_at0, q_atS, q_st0, q_stS, q_iteT, q_iteF, q_isB, q_gCntT])
      refine if_f (by rfl) (told_second hs G RowD.lst hlo ⟨by rw [sz]; show 2 ≤ 16777216; omega, eq_self rfl (pl_word _) ?_⟩)
      (try dsimp only [q_op, q_un, q_var, q_c, q_nil, q_cons, q_tup, q_frz, q_cel, q_lst, q_test, q_onB, q_and, q_or, q_not, q_andV, q_orV, q_notV, q_if, q_chain, q_next, q_seq, q_drop, q_ret, q_retF, q_retN, q_sif, q_break, q_cont, q_name, q_dnil, q_dcons, q_dtup, q_asg, q_set, q_par, q_for, q_range1, q_range2, q_iseq, q_ienum, q_call, q_cb, q_ncb, q_nop, q_lenset, q_mt, q_mt0, q_setix, q_augs, q_aug, q_nsl, q_onone, q_osome, q_gsl, q_raise, q_raiseF, q_try, q_lc, q_lc2, q_yes, q_wipe0, q_wipe, q_xf, q_I, q_I0, q_U, q_add, q_addT, q_addL, q_addR, q_onL, q_onSt, q_onSl, q_onSs, q_onSrct, q_onSrcl, q_eqI, q_eqB, q_eqS, q_eqN, q_isN, q_ix, q_ixL, q_in, q_len, q_sum, q_max, q_min, q_max2, q_min2, q_abs, q_int, q_tupof, q_lstof, q_sort, q_rep, q_cat, q_isi, q_isis, q_setat, q_onC, q_append, q_pop, q_popAt, q_reverse, q_insert, q_sp1, q_sp2, q_sp3, q_sp4, q_at0, q_atS, q_st0, q_stS, q_iteT, q_iteF, q_isB, q_gCntT])
      refine if_f (by rfl) ⟨by rw [sz]; show 1 ≤ 16777216; omega, add_ll (by simp; omega) ?_⟩
      rw [n1]
      refine told_size hs G RowD.lst G1 RowD.lst (by simp) ⟨by rw [sz]; show 3 ≤ 16777216; omega, eq_self (by simp) (pl_size _ _) ?_⟩
      (try dsimp only [q_op, q_un, q_var, q_c, q_nil, q_cons, q_tup, q_frz, q_cel, q_lst, q_test, q_onB, q_and, q_or, q_not, q_andV, q_orV, q_notV, q_if, q_chain, q_next, q_seq, q_drop, q_ret, q_retF, q_retN, q_sif, q_break, q_cont, q_name, q_dnil, q_dcons, q_dtup, q_asg, q_set, q_par, q_for, q_range1, q_range2, q_iseq, q_ienum, q_call, q_cb, q_ncb, q_nop, q_lenset, q_mt, q_mt0, q_setix, q_augs, q_aug, q_nsl, q_onone, q_osome, q_gsl, q_raise, q_raiseF, q_try, q_lc, q_lc2, q_yes, q_wipe0, q_wipe, q_xf, q_I, q_I0, q_U, q_add, q_addT, q_addL, q_addR, q_onL, q_onSt, q_onSl, q_onSs, q_onSrct, q_onSrcl, q_eqI, q_eqB, q_eqS, q_eqN, q_isN, q_ix, q_ixL, q_in, q_len, q_sum, q_max, q_min, q_max2, q_min2, q_abs, q_int, q_tupof, q_lstof, q_sort, q_rep, q_cat, q_isi, q_isis, q_setat, q_onC, q_append, q_pop, q_popAt, q_reverse, q_insert, q_sp1, q_sp2, q_sp3, q_sp4, q_at0, q_atS, q_st0, q_stS, q_iteT, q_iteF, q_isB, q_gCntT])
      refine if_f (by rfl) ⟨by rw [sz]; show 1 ≤ 16777216; omega, add_ll (by simp; omega) ?_⟩
      refine ⟨by rw [sz]; show 1 ≤ 16777216; omega, add_ll (by simp; omega) ?_⟩
      rw [n0, n1]
      refine told_unlike hs G0 RowD.lst G1 RowD.lst (by simp) (fun z => ?_) ⟨by rw [sz]; show 2 ≤ 16777216; omega, eq_self rfl (pl_word _) ?_⟩
      · have z1 := sort_count z 0
        rw [List.count_append, List.count_append] at z1
        have k1 : List.count (0 : Int) [0] = 1 := by decide
        have k2 : List.count (0 : Int) [1] = 0 := by decide
        omega
      · (try dsimp only [q_op, q_un, q_var, q_c, q_nil, q_cons, q_tup, q_frz, q_cel, q_lst, q_test, q_onB, q_and, q_or, q_not, q_andV, q_orV, q_notV, q_if, q_chain, q_next, q_seq, q_drop, q_ret, q_retF, q_retN, q_sif, q_break, q_cont, q_name, q_dnil, q_dcons, q_dtup, q_asg, q_set, q_par, q_for, q_range1, q_range2, q_iseq, q_ienum, q_call, q_cb, q_ncb, q_nop, q_lenset, q_mt, q_mt0, q_setix, q_augs, q_aug, q_nsl, q_onone, q_osome, q_gsl, q_raise, q_raiseF, q_try, q_lc, q_lc2, q_yes, q_wipe0, q_wipe, q_xf, q_I, q_I0, q_U, q_add, q_addT, q_addL, q_addR, q_onL, q_onSt, q_onSl, q_onSs, q_onSrct, q_onSrcl, q_eqI, q_eqB, q_eqS, q_eqN, q_isN, q_ix, q_ixL, q_in, q_len, q_sum, q_max, q_min, q_max2, q_min2, q_abs, q_int, q_tupof, q_lstof, q_sort, q_rep, q_cat, q_isi, q_isis, q_setat, q_onC, q_append, q_pop, q_popAt, q_reverse, q_insert, q_sp1, q_sp2, q_sp3, q_sp4, q_at0, q_atS, q_st0, q_stS, q_iteT, q_iteF, q_isB, q_gCntT])
        exact if_f (by rfl) (hN _ _ ⟨⟨_, rfl⟩, rfl⟩)
    · rintro ρ M2 ⟨⟨a, rfl⟩, rfl⟩
      (try dsimp only [q_op, q_un, q_var, q_c, q_nil, q_cons, q_tup, q_frz, q_cel, q_lst, q_test, q_onB, q_and, q_or, q_not, q_andV, q_orV, q_notV, q_if, q_chain, q_next, q_seq, q_drop, q_ret, q_retF, q_retN, q_sif, q_break, q_cont, q_name, q_dnil, q_dcons, q_dtup, q_asg, q_set, q_par, q_for, q_range1, q_range2, q_iseq, q_ienum, q_call, q_cb, q_ncb, q_nop, q_lenset, q_mt, q_mt0, q_setix, q_augs, q_aug, q_nsl, q_onone, q_osome, q_gsl, q_raise, q_raiseF, q_try, q_lc, q_lc2, q_yes, q_wipe0, q_wipe, q_xf, q_I, q_I0, q_U, q_add, q_addT, q_addL, q_addR, q_onL, q_onSt, q_onSl, q_onSs, q_onSrct, q_onSrcl, q_eqI, q_eqB, q_eqS, q_eqN, q_isN, q_ix, q_ixL, q_in, q_len, q_sum, q_max, q_min, q_max2, q_min2, q_abs, q_int, q_tupof, q_lstof, q_sort, q_rep, q_cat, q_isi, q_isis, q_setat, q_onC, q_append, q_pop, q_popAt, q_reverse, q_insert, q_sp1, q_sp2, q_sp3, q_sp4, q_at0, q_atS, q_st0, q_stS, q_iteT, q_iteF, q_isB, q_gCntT])
      exact q1
theorem b_law : ∀ d0 M Q E, sp_law K [d0] M Q E → g_law K { nx := fun _ M => Q .non M, rt := Q, ex := fun x _ M => E x M } [some d0, none, none, none, none, none, none] M := by
  rintro d0 M Q E ⟨ns, rfl, q⟩
  unfold g_law
  dsimp only [q_op, q_un, q_var, q_c, q_nil, q_cons, q_tup, q_frz, q_cel, q_lst, q_test, q_onB, q_and, q_or, q_not, q_andV, q_orV, q_notV, q_if, q_chain, q_next, q_seq, q_drop, q_ret, q_retF, q_retN, q_sif, q_break, q_cont, q_name, q_dnil, q_dcons, q_dtup, q_asg, q_set, q_par, q_for, q_range1, q_range2, q_iseq, q_ienum, q_call, q_cb, q_ncb, q_nop, q_lenset, q_mt, q_mt0, q_setix, q_augs, q_aug, q_nsl, q_onone, q_osome, q_gsl, q_raise, q_raiseF, q_try, q_lc, q_lc2, q_yes, q_wipe0, q_wipe, q_xf, q_I, q_I0, q_U, q_add, q_addT, q_addL, q_addR, q_onL, q_onSt, q_onSl, q_onSs, q_onSrct, q_onSrcl, q_eqI, q_eqB, q_eqS, q_eqN, q_isN, q_ix, q_ixL, q_in, q_len, q_sum, q_max, q_min, q_max2, q_min2, q_abs, q_int, q_tupof, q_lstof, q_sort, q_rep, q_cat, q_isi, q_isis, q_setat, q_onC, q_append, q_pop, q_popAt, q_reverse, q_insert, q_sp1, q_sp2, q_sp3, q_sp4, q_at0, q_atS, q_st0, q_stS, q_iteT, q_iteF, q_isB, q_gCntT, sp__law_draws, sp__law_take, sp__law_word, sp__law_moved, sp__law_mixed_word, sp__law_way_holds, sp__law_same_holds, sp__law_edges_hold, sp__law_refuses]
  refine ⟨ns, rfl, fun p xs0 hp => ?_⟩
  refine ⟨p, 2, 12, rfl, rfl, rfl, by decide, by decide, by decide, by decide, ⟨_, mset_same⟩, fun w xs G hl => ?_⟩
  have hl : w.length < 14 := by omega
  have hp1 : Pool (mset (mset M p (.lst (iD xs0))) p (.lst (iD xs))) p := ⟨_, mset_same⟩
  generalize mset (mset M p (.lst (iD xs0))) p (.lst (iD xs)) = M1 at *
  refine ⟨p, 5, rfl, rfl, by decide, hp1, fun r ys r0 r1 => ⟨⟨by omega, by omega⟩, ?_⟩⟩
  have hp2 : Pool (mset M1 p (.lst (iD ys))) p := ⟨_, mset_same⟩
  generalize mset M1 p (.lst (iD ys)) = M2 at *
  refine loop_rg0 (fun s ρ M' => (∃ a o, ρ = [some (.scr ns), some (.ref p), some (.lst (iD w)), some (.lst (iD o)), a, none, none] ∧ o.Perm w) ∧ Pool M' p) ?_ ?_ ⟨⟨_, w, rfl, List.Perm.refl _⟩, hp2⟩
  · rintro s ρ M' hs ⟨⟨a, o, rfl, ho⟩, hp3⟩ Nx hN
    have el := ho.length_eq
    (try dsimp only [q_op, q_un, q_var, q_c, q_nil, q_cons, q_tup, q_frz, q_cel, q_lst, q_test, q_onB, q_and, q_or, q_not, q_andV, q_orV, q_notV, q_if, q_chain, q_next, q_seq, q_drop, q_ret, q_retF, q_retN, q_sif, q_break, q_cont, q_name, q_dnil, q_dcons, q_dtup, q_asg, q_set, q_par, q_for, q_range1, q_range2, q_iseq, q_ienum, q_call, q_cb, q_ncb, q_nop, q_lenset, q_mt, q_mt0, q_setix, q_augs, q_aug, q_nsl, q_onone, q_osome, q_gsl, q_raise, q_raiseF, q_try, q_lc, q_lc2, q_yes, q_wipe0, q_wipe, q_xf, q_I, q_I0, q_U, q_add, q_addT, q_addL, q_addR, q_onL, q_onSt, q_onSl, q_onSs, q_onSrct, q_onSrcl, q_eqI, q_eqB, q_eqS, q_eqN, q_isN, q_ix, q_ixL, q_in, q_len, q_sum, q_max, q_min, q_max2, q_min2, q_abs, q_int, q_tupof, q_lstof, q_sort, q_rep, q_cat, q_isi, q_isis, q_setat, q_onC, q_append, q_pop, q_popAt, q_reverse, q_insert, q_sp1, q_sp2, q_sp3, q_sp4, q_at0, q_atS, q_st0, q_stS, q_iteT, q_iteF, q_isB, q_gCntT])
    refine ⟨p, o, rfl, rfl, by omega, hp3, fun ms zs hm => hN _ _ ⟨⟨_, ms, rfl, hm.trans ho⟩, _, mset_same⟩⟩
  · rintro ρ M' ⟨⟨a, o, rfl, ho⟩, hp3⟩
    have el := ho.length_eq
    have so : sortI o = sortI w := sort_perm ho
    have Go := good_le G so.symm
    (try dsimp only [q_op, q_un, q_var, q_c, q_nil, q_cons, q_tup, q_frz, q_cel, q_lst, q_test, q_onB, q_and, q_or, q_not, q_andV, q_orV, q_notV, q_if, q_chain, q_next, q_seq, q_drop, q_ret, q_retF, q_retN, q_sif, q_break, q_cont, q_name, q_dnil, q_dcons, q_dtup, q_asg, q_set, q_par, q_for, q_range1, q_range2, q_iseq, q_ienum, q_call, q_cb, q_ncb, q_nop, q_lenset, q_mt, q_mt0, q_setix, q_augs, q_aug, q_nsl, q_onone, q_osome, q_gsl, q_raise, q_raiseF, q_try, q_lc, q_lc2, q_yes, q_wipe0, q_wipe, q_xf, q_I, q_I0, q_U, q_add, q_addT, q_addL, q_addR, q_onL, q_onSt, q_onSl, q_onSs, q_onSrct, q_onSrcl, q_eqI, q_eqB, q_eqS, q_eqN, q_isN, q_ix, q_ixL, q_in, q_len, q_sum, q_max, q_min, q_max2, q_min2, q_abs, q_int, q_tupof, q_lstof, q_sort, q_rep, q_cat, q_isi, q_isis, q_setat, q_onC, q_append, q_pop, q_popAt, q_reverse, q_insert, q_sp1, q_sp2, q_sp3, q_sp4, q_at0, q_atS, q_st0, q_stS, q_iteT, q_iteF, q_isB, q_gCntT])
    refine ⟨p, w, rfl, rfl, by omega, hp3, fun t zs ht => ?_⟩
    have st : sortI t = sortI w := sort_perm ht
    have Gt := good_le G st.symm
    have hp4 : Pool (mset M' p (.lst (iD zs))) p := ⟨_, mset_same⟩
    generalize mset M' p (.lst (iD zs)) = M3 at *
    refine ⟨by rw [sz]; show 3 ≤ 16777216; omega, w, o, RowD.lst, RowD.lst, G, so.symm, ?_⟩
    refine if_f (by rfl) ⟨o, t, RowD.tup, RowD.lst, Go, so.trans st.symm, ?_⟩
    refine if_f (by rfl) ⟨w, RowD.lst, G, ?_⟩
    refine if_f (by rfl) ⟨t, RowD.tup, Gt, ?_⟩
    refine if_f (by rfl) ⟨p, 3, rfl, rfl, by decide, hp4, fun u us u0 u1 => ?_⟩
    have hp5 : Pool (mset M3 p (.lst (iD us))) p := ⟨_, mset_same⟩
    generalize mset M3 p (.lst (iD us)) = M4 at *
    have fin : ∀ M5 : Mem, Pool M5 p → [D.lst (iD w), D.lst (iD o), D.lst (iD t)].length ≤ sizeLine ∧
        dEq (D.lst [D.lst (iD w), D.lst (iD o), D.lst (iD t)]) (D.lst [D.lst (iD w), D.lst (iD o), D.lst (iD t)]) M5
          fun d M1 =>
          onB
            (fun c M1 =>
              if c = true then
                ∃ p_1 ns,
                  D.ref p = D.ref p_1 ∧
                    GoodW 2 ns ∧
                      D.lst (iD w) = D.lst (iD ns) ∧
                        ns.length < 2000 ∧ Pool M1 p_1 ∧ ∀ (xs : List Int), Q (D.bl true) (mset M1 p_1 (MO.lst (iD xs)))
              else Q (D.bl false) M1)
            M1 d := fun M5 h5 => by
      refine ⟨by rw [sz]; show 3 ≤ 16777216; omega, ?_⟩
      refine eq_dat (α := List (List Int)) [w, o, t] [w, o, t] (.lst (.cons (vw_row .lst) (.cons (vw_row .lst) (.cons (vw_row .lst) .nil)))) (.lst (.cons (vw_row .lst) (.cons (vw_row .lst) (.cons (vw_row .lst) .nil)))) ?_
      rw [decide_eq_true rfl]
      (try dsimp only [q_op, q_un, q_var, q_c, q_nil, q_cons, q_tup, q_frz, q_cel, q_lst, q_test, q_onB, q_and, q_or, q_not, q_andV, q_orV, q_notV, q_if, q_chain, q_next, q_seq, q_drop, q_ret, q_retF, q_retN, q_sif, q_break, q_cont, q_name, q_dnil, q_dcons, q_dtup, q_asg, q_set, q_par, q_for, q_range1, q_range2, q_iseq, q_ienum, q_call, q_cb, q_ncb, q_nop, q_lenset, q_mt, q_mt0, q_setix, q_augs, q_aug, q_nsl, q_onone, q_osome, q_gsl, q_raise, q_raiseF, q_try, q_lc, q_lc2, q_yes, q_wipe0, q_wipe, q_xf, q_I, q_I0, q_U, q_add, q_addT, q_addL, q_addR, q_onL, q_onSt, q_onSl, q_onSs, q_onSrct, q_onSrcl, q_eqI, q_eqB, q_eqS, q_eqN, q_isN, q_ix, q_ixL, q_in, q_len, q_sum, q_max, q_min, q_max2, q_min2, q_abs, q_int, q_tupof, q_lstof, q_sort, q_rep, q_cat, q_isi, q_isis, q_setat, q_onC, q_append, q_pop, q_popAt, q_reverse, q_insert, q_sp1, q_sp2, q_sp3, q_sp4, q_at0, q_atS, q_st0, q_stS, q_iteT, q_iteF, q_isB, q_gCntT])
      exact if_t (by rfl) ⟨p, w, rfl, G, rfl, by omega, h5, fun xs => q _⟩
    by_cases c : u = 1
    · exact if_t (decide_eq_true c) ⟨p, rfl, hp5, fun vs => if_f (by rfl) (fin _ ⟨_, mset_same⟩)⟩
    · exact if_f (decide_eq_false c) (if_f (by rfl) (fin _ hp5))
end
end LW

namespace LW
open PySem PySem.Spec PyProof.Rows L2 DL
theorem ok_law {P : Program} {w : World} {K : PySem.W.Frag} {mg : Str → Option Value} {base : Heap} (T : Tx K mg) : OkD P w K mg base 10 "law" ["_law_script"] (sp_law K) := by
  have C__law_draws := w__law_draws (P := P) (w := w) (base := base) T  (fun _ _ _ _ h => len_sp1 h) b__law_draws
  have C__law_take := w__law_take (P := P) (w := w) (base := base) T  (fun _ _ _ _ h => len_sp2 h) b__law_take
  have C__law_word := w__law_word (P := P) (w := w) (base := base) T C__law_take (fun _ _ _ _ h => len_sp3 h) b__law_word
  have C__law_mixed_word := w__law_mixed_word (P := P) (w := w) (base := base) T C__law_take (fun _ _ _ _ h => len_sp2 h) b__law_mixed_word
  have C__law_moved := w__law_moved (P := P) (w := w) (base := base) T C__law_take (fun _ _ _ _ h => len_sp2 h) b__law_moved
  have C_is_row := w_is_row (P := P) (w := w) (base := base) T  (fun _ _ _ _ h => len_sp1 h) b_is_row
  have C_is_int := w_is_int (P := P) (w := w) (base := base) T  (fun _ _ _ _ h => len_sp1 h) b_is_int
  have C_letters_of := w_letters_of (P := P) (w := w) (base := base) T C_is_row C_is_int (fun _ _ _ _ h => len_sp2 h) b_letters_of
  have C_plain_word := w_plain_word (P := P) (w := w) (base := base) T C_letters_of C_is_row C_is_int (fun _ _ _ _ h => len_sp1 h) b_plain_word
  have C_alike_words := w_alike_words (P := P) (w := w) (base := base) T C_plain_word (fun _ _ _ _ h => len_sp2 h) b_alike_words
  have C_check_int := w_check_int (P := P) (w := w) (base := base) T C_is_int (fun _ _ _ _ h => len_sp3 h) b_check_int
  have C_check_word := w_check_word (P := P) (w := w) (base := base) T C_check_int C_letters_of (fun _ _ _ _ h => len_sp2 h) b_check_word
  have C_words_of_two := w_words_of_two (P := P) (w := w) (base := base) T C_alike_words C_check_word (fun _ _ _ _ h => len_sp2 h) b_words_of_two
  have C_places_of := w_places_of (P := P) (w := w) (base := base) T  (fun _ _ _ _ h => len_sp2 h) b_places_of
  have C_sided_cells := w_sided_cells (P := P) (w := w) (base := base) T C_places_of (fun _ _ _ _ h => len_sp4 h) b_sided_cells
  have C_moves_between := w_moves_between (P := P) (w := w) (base := base) T C_sided_cells (fun _ _ _ _ h => len_sp2 h) b_moves_between
  have C_paired_moves := w_paired_moves (P := P) (w := w) (base := base) T C_words_of_two C_moves_between (fun _ _ _ _ h => len_sp2 h) b_paired_moves
  have C_exchanged := w_exchanged (P := P) (w := w) (base := base) T  (fun _ _ _ _ h => len_sp2 h) b_exchanged
  have C_turned_towards := w_turned_towards (P := P) (w := w) (base := base) T C_places_of C_exchanged (fun _ _ _ _ h => len_sp3 h) b_turned_towards
  have C_paired_way := w_paired_way (P := P) (w := w) (base := base) T C_words_of_two C_moves_between C_turned_towards (fun _ _ _ _ h => len_sp2 h) b_paired_way
  have C_word_table := w_word_table (P := P) (w := w) (base := base) T C_check_word (fun _ _ _ _ h => len_sp2 h) b_word_table
  have C_same_lead := w_same_lead (P := P) (w := w) (base := base) T C_check_word C_word_table (fun _ _ _ _ h => len_sp1 h) b_same_lead
  have C__law_told := w__law_told (P := P) (w := w) (base := base) T C_paired_moves C_paired_way C_same_lead (fun _ _ _ _ h => len_sp3 h) (b__law_told T)
  have C__law_refuses := w__law_refuses (P := P) (w := w) (base := base) T C__law_take C__law_told (fun _ _ _ _ h => len_sp2 h) b__law_refuses
  have C__law_grid := w__law_grid (P := P) (w := w) (base := base) T  (fun _ _ _ _ h => len_sp1 h) b__law_grid
  have C__law_sides := w__law_sides (P := P) (w := w) (base := base) T C__law_grid (fun _ _ _ _ h => len_sp2 h) b__law_sides
  have C__law_int := w__law_int (P := P) (w := w) (base := base) T  (fun _ _ _ _ h => len_sp1 h) b__law_int
  have C__law_way_holds := w__law_way_holds (P := P) (w := w) (base := base) T C__law_sides C_paired_moves C_paired_way C__law_int C_word_table C_same_lead (fun _ _ _ _ h => len_sp2 h) b__law_way_holds
  have C__law_lone := w__law_lone (P := P) (w := w) (base := base) T C__law_grid (fun _ _ _ _ h => len_sp1 h) b__law_lone
  have C__law_same_holds := w__law_same_holds (P := P) (w := w) (base := base) T C_same_lead C__law_lone (fun _ _ _ _ h => len_sp1 h) b__law_same_holds
  have C__law_long_holds := w__law_long_holds (P := P) (w := w) (base := base) T C_paired_way C__law_take C__law_same_holds C_paired_moves C__law_sides (fun _ _ _ _ h => len_sp1 h) b__law_long_holds
  have C__law_edges_hold := w__law_edges_hold (P := P) (w := w) (base := base) T C__law_long_holds C__law_take C_same_lead C_paired_way C__law_same_holds C__law_way_holds (fun _ _ _ _ h => len_sp1 h) b__law_edges_hold
  exact w_law (P := P) (w := w) (base := base) T C__law_draws C__law_word C__law_mixed_word C__law_take C__law_moved C__law_refuses C__law_way_holds C__law_same_holds C__law_edges_hold (fun _ _ _ _ h => len_sp1 h) b_law
end LW
open PySem PySem.W PySem.Calls PyProof.Rows
set_option maxRecDepth 100000 in
set_option maxHeartbeats 0 in
theorem PySem.Challenge.cw_dicewins_k16_whole_words_of_one_lead_holds : PySem.Challenge.rw_dicewins_k16_whole_words_of_one_lead.Holds := by
  w_on; o_law
  refine HandSHeadRun.head_any (r := OpenLaw.row PySem.Challenge.rw_dicewins_k16_whole_words_of_one_lead) (q := view (OpenLaw.row PySem.Challenge.rw_dicewins_k16_whole_words_of_one_lead).prog [43]) (H := LW.hk) (ob := LW.ob) (M := 4000) (loose := LW.loose) (d := HandSHeadRun.topDef (OpenLaw.row PySem.Challenge.rw_dicewins_k16_whole_words_of_one_lead).prog 43) (kwd := []) LW.ob_eq
    (by kernel_rfl) (fun s => by kernel_rfl) LW.run (by kernel_rfl) (by kernel_rfl) (by kernel_rfl) (by rfl) (by first | assumption | decide +kernel) (by decide +kernel) ⟨rfl, rfl, rfl, rfl, rfl, by decide +kernel⟩ ?hw ?hc
  case hw => w_witness2
  case hc =>
    refine DL.walk_ofW (l := PySem.Challenge.rw_dicewins_k16_whole_words_of_one_lead) (n := 63) (k := 10) (x := "_law_script") rfl (by decide) (by kernel_rfl) ⟨rfl, by decide, by decide⟩ ?F
    intro w mg fa h Y G hmg0
    obtain ⟨K, KX, c⟩ := Y
    have hmg : mg ("law" : PySem.Str) = some (.ref fa) := by
      have e : (HandSHeadRun.topDef (OpenLaw.row PySem.Challenge.rw_dicewins_k16_whole_words_of_one_lead).prog 43).name = ("law" : PySem.Str) := by kernel_rfl
      rw [← e]
      exact hmg0
    have T := LW.tx_of KX G c
    have e := hmg.symm.trans T.g_law
    cases e
    obtain ⟨fd, F⟩ := T.F_law
    obtain ⟨oc, od, sl, lk⟩ := DL.fun_lk F
    have hb := DL.fun_bindsA (ps := ["_law_script"]) F fun _ _ _ _ _ _ us hl => match us, hl with | [_], _ => rfl
    refine ⟨K, fd, LW.sp_law K, KX, fun s u => hb s [u] rfl, fun ns => ⟨ns, rfl, fun _ => rfl⟩, fun base _ _ => ?_⟩
    obtain ⟨fd2, F2, _, _, _, oc2, od2, sl2, lk2⟩ := LW.ok_law (P := (PySem.Challenge.rw_dicewins_k16_whole_words_of_one_lead).prog) (w := w) (base := base) T
    rw [lk] at lk2
    cases lk2
    exact F2
#print axioms PySem.Challenge.cw_dicewins_k16_whole_words_of_one_lead_holds

