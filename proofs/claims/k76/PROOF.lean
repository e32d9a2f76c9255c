import PyProof.Rows.All
import Wide.All
import OpenK.AllK
import Wide.FinOn
import HandS.ForMost
import HandS.ForExc
import HandS.Wide
import HandS.IsInst
import HandS.Conv
import HandS.SortInts
import HandS.More
import HandS.TupAny
import HandS.TupSets
import HandS.SetFor
import HandS.Zip
import HandS.Rev
import KE.GoesMore
import KE.DataMinMax
import KE.KStateDown
import HandS.Head0
import HandS.Head1
import HandS.Head2
import HandS.HeadEnd
import HandS.HeadHook1
import HandS.HeadHook2
import HandS.HeadHook3
import HandS.HeadHook4
import HandS.HeadNt
import HandS.ExcInit
import HandS.ExcField
import HandS.ExcIs
import HandS.TryMany
import KE.Datum
import HandS.Deep
import HandS.Style
import KE.DataFind
import PyProof.P3Eq
import HandS.Star
import HandS.TupMul
import KE.KTupSum
import KE.GoesRaise
import HandS.Property
import HandS.ClsMeth
import PySem.Challenge.RW_dicewins_k76_standing_over_for_many_thro
set_option Elab.async false
set_option linter.all false
set_option maxRecDepth 100000
/-! DL1: deep values over the hand layer. A deep value D stands for a Python value with all that it holds; lists that are still being changed lie in a store M. -/
namespace DL
open PySem PySem.Spec L2

inductive D where
  | non | bl (b : Bool) | int (i : Int) | str (x : Str) | ty (n : String) | ref (a : Addr)
  | tup (xs : List D) | lst (xs : List D) | scr (ns : List Int)
  | obj (C : Addr) (fs : List (Str × D))
  | xo (a : Addr) (d : Option Addr) (fs : List (Str × D))

/-- the dict of an exception -/
def XdAt (H : Hp) (d : Option Addr) (gs : List (Str × V)) : Prop := match d with
  | some dd => H dd = some (.xd gs)
  | none => gs = []
/-- what lies in the store -/
inductive MO where
  | lst (xs : List D)
  | ins (C : Addr) (fs : List (Str × D))
abbrev Mem := Addr → Option MO
def mset (M : Mem) (a : Addr) (o : MO) : Mem := fun b => if b = a then some o else M b
theorem mset_same {M : Mem} {a : Addr} {o : MO} : mset M a o a = some o := by unfold mset; rw [if_pos rfl]
theorem mset_ne {M : Mem} {a b : Addr} {o : MO} (h : b ≠ a) : mset M a o b = M b := by unfold mset; rw [if_neg h]
theorem mset_mset {M : Mem} {a : Addr} {o u : MO} : mset (mset M a o) a u = mset M a u := by
  funext b
  unfold mset
  split <;> rfl

/-- a tuple that stands in the heap, or in the written part -/
def TupAt (K : PySem.W.Frag) (H : Hp) (a : Addr) (vs : List V) : Prop := H a = some (.tup vs) ∨
  ∃ (o : Obj) (its : Array Value) (n : Nat), K.lookup a = some o ∧ o.cls = .type "tuple" ∧ o.data = .seq its n ∧ its.size ≤ sizeLine ∧ Vals vs its.toList
theorem TupAt.sq {K : PySem.W.Frag} {H : Hp} {a : Addr} {vs : List V} (h : TupAt K H a vs) : SqT K H a vs := h.imp (fun h => .inl h) fun h => h

/-! ### deep value d is shown by v in the heap H; F: the frozen addresses -/
mutual
def Rp (K : PySem.W.Frag) (F : Addr → Prop) (H : Hp) : D → V → Prop
  | .non, v => v = .non
  | .bl b, v => v = .bl b
  | .int i, v => v = .int i
  | .str x, v => v = .str x
  | .ty n, v => v = .ty n
  | .ref a, v => v = .ref a
  | .tup ds, v => ∃ a vs, v = .ref a ∧ TupAt K H a vs ∧ Rps K F H ds vs
  | .lst ds, v => ∃ a vs, v = .ref a ∧ H a = some (.lst vs) ∧ F a ∧ Rps K F H ds vs
  | .scr ns, v => ∃ a, v = .ref a ∧ ((∃ o, H a = some (.frz o (.lst (ns.map V.int)))) ∨ ∀ H', SqL K H' a (ns.map V.int))
  | .obj C fs, v => ∃ a dx gs, v = .ref a ∧ H a = some (.ins C dx gs) ∧ F a ∧ Rpf K F H fs gs
  | .xo a d fs, v => v = .ref a ∧ ∃ gs, XdAt H d gs ∧ Rpf K F H fs gs
def Rps (K : PySem.W.Frag) (F : Addr → Prop) (H : Hp) : List D → List V → Prop
  | [], vs => vs = []
  | d :: ds, vs => ∃ v r, vs = v :: r ∧ Rp K F H d v ∧ Rps K F H ds r
def Rpf (K : PySem.W.Frag) (F : Addr → Prop) (H : Hp) : List (Str × D) → List (Str × V) → Prop
  | [], vs => vs = []
  | p :: ds, vs => ∃ v r, vs = (p.1, v) :: r ∧ Rp K F H p.2 v ∧ Rpf K F H ds r
end

/-- all that is frozen stays, and more may come -/
structure ExtW (F : Addr → Prop) (H : Hp) (F' : Addr → Prop) (H' : Hp) : Prop where
  mono : ∀ a, F a → F' a
  fro : ∀ a o, F a → H a = some o → H' a = some o
  tup : ∀ a xs, H a = some (.tup xs) → H' a = some (.tup xs)
  frz : ∀ a o u, H a = some (.frz o u) → H' a = some (.frz o u)
  xd : ∀ a fs, H a = some (.xd fs) → H' a = some (.xd fs)
/-- .. and what the store does not tell stays as it is -/
structure Ext (F : Addr → Prop) (H : Hp) (M : Mem) (F' : Addr → Prop) (H' : Hp) (M' : Mem) : Prop extends ExtW F H F' H' where
  frame : ∀ a o, H a = some o → M a = none → H' a = some o
  dom : ∀ a, M' a ≠ none → M a ≠ none ∨ H a = none
  new : ∀ a, F' a → F a ∨ M a ≠ none ∨ H a = none
instance {F F' : Addr → Prop} {H H' : Hp} {M M' : Mem} : CoeOut (Ext F H M F' H' M') (ExtW F H F' H') := ⟨Ext.toExtW⟩
theorem ExtW.refl (F : Addr → Prop) (H : Hp) : ExtW F H F H := ⟨fun _ h => h, fun _ _ _ h => h, fun _ _ h => h, fun _ _ _ h => h, fun _ _ h => h⟩
theorem ExtW.trans {F F1 F2 : Addr → Prop} {H H1 H2 : Hp} (a : ExtW F H F1 H1) (b : ExtW F1 H1 F2 H2) : ExtW F H F2 H2 :=
  ⟨fun x h => b.mono x (a.mono x h), fun x o f h => b.fro x o (a.mono x f) (a.fro x o f h), fun x xs h => b.tup x xs (a.tup x xs h), fun x o u h => b.frz x o u (a.frz x o u h), fun x fs h => b.xd x fs (a.xd x fs h)⟩
theorem Ext.refl (F : Addr → Prop) (H : Hp) (M : Mem) : Ext F H M F H M := ⟨ExtW.refl F H, fun _ _ h _ => h, fun _ h => .inl h, fun _ h => .inl h⟩
theorem Ext.trans {F F1 F2 : Addr → Prop} {H H1 H2 : Hp} {M M1 M2 : Mem} (a : Ext F H M F1 H1 M1) (b : Ext F1 H1 M1 F2 H2 M2) : Ext F H M F2 H2 M2 := by
  have n1 : ∀ x o, H x = some o → M x = none → M1 x = none := fun x o h n => by
    cases q : M1 x with
    | none => rfl
    | some u => exact ((a.dom x (by rw [q]; exact fun z => nomatch z)).elim (fun z => z n) fun z => by rw [h] at z; cases z).elim
  have w : ∀ x, H1 x = none → M x ≠ none ∨ H x = none := fun x z => by
    cases q : H x with
    | none => exact .inr rfl
    | some o =>
      refine .inl fun n => ?_
      rw [a.frame x o q n] at z
      cases z
  exact ⟨a.toExtW.trans b.toExtW, fun x o h n => b.frame x o (a.frame x o h n) (n1 x o h n), fun x h => (b.dom x h).elim (a.dom x) (w x), fun x h => (b.new x h).elim (a.new x) fun z => .inr (z.elim (a.dom x) (w x))⟩
theorem Ext.was {F F1 : Addr → Prop} {H H1 : Hp} {M M1 : Mem} (a : Ext F H M F1 H1 M1) {p : Addr} (hp : H1 p = none) : M p ≠ none ∨ H p = none := by
  cases q : H p with
  | none => exact .inr rfl
  | some o =>
    refine .inl fun n => ?_
    rw [a.frame p o q n] at hp
    cases hp
/-- a new object is laid at p -/
theorem Ext.laid {F F' : Addr → Prop} {H : Hp} {M : Mem} {p : Addr} {o : HO} (hp : H p = none) (hF : ∀ a, F a → F' a) (hN : ∀ a, F' a → F a ∨ a = p := by intro a h; exact .inl h) : Ext F H M F' (upd H p o) M :=
  ⟨⟨hF, fun a u f h => by rw [upd_ne (ne_of_none h hp)]; exact h, fun a u h => by rw [upd_ne (ne_of_none h hp)]; exact h, fun a u w h => by rw [upd_ne (ne_of_none h hp)]; exact h, fun a u h => by rw [upd_ne (ne_of_none h hp)]; exact h⟩,
   fun a u h _ => by rw [upd_ne (ne_of_none h hp)]; exact h, fun _ h => .inl h, fun a h => (hN a h).imp (fun z => z) fun z => .inr (by rw [z]; exact hp)⟩
/-- what is not frozen and no tuple .. is changed -/
theorem ExtW.write {F : Addr → Prop} {H : Hp} {p : Addr} {o o' : HO} (hp : H p = some o) (hF : ¬ F p) (h1 : ∀ xs, o ≠ .tup xs) (h2 : ∀ u w, o ≠ .frz u w) (h3 : ∀ fs, o ≠ .xd fs) : ExtW F H F (upd H p o') :=
  ⟨fun _ h => h, fun a u f h => by rw [upd_ne (show a ≠ p from fun e => hF (by rw [← e]; exact f))]; exact h,
   fun a u h => by rw [upd_ne (fun e => by subst e; rw [hp] at h; exact h1 _ (Option.some.inj h))]; exact h,
   fun a u w h => by rw [upd_ne (fun e => by subst e; rw [hp] at h; exact h2 _ _ (Option.some.inj h))]; exact h,
   fun a u h => by rw [upd_ne (fun e => by subst e; rw [hp] at h; exact h3 _ (Option.some.inj h))]; exact h⟩
/-- a cell of the store is changed -/
theorem Ext.write {F : Addr → Prop} {H : Hp} {M M' : Mem} {p : Addr} {o o' : HO} (hp : H p = some o) (hF : ¬ F p) (hM : M p ≠ none) (hM' : ∀ a, M' a ≠ none → M a ≠ none) (h1 : ∀ xs, o ≠ .tup xs) (h2 : ∀ u w, o ≠ .frz u w) (h3 : ∀ fs, o ≠ .xd fs) : Ext F H M F (upd H p o') M' :=
  ⟨ExtW.write hp hF h1 h2 h3, fun a u h n => by rw [upd_ne (show a ≠ p from fun e => hM (by rw [← e]; exact n))]; exact h, fun a h => .inl (hM' a h), fun a h => .inl h⟩
theorem ExtW.grow {F F' : Addr → Prop} {H : Hp} (hF : ∀ a, F a → F' a) : ExtW F H F' H := ⟨hF, fun _ _ _ h => h, fun _ _ h => h, fun _ _ _ h => h, fun _ _ h => h⟩
theorem Ext.grow {F F' : Addr → Prop} {H : Hp} {M M' : Mem} (hF : ∀ a, F a → F' a) (hM : ∀ a, M' a ≠ none → M a ≠ none ∨ H a = none) (hN : ∀ a, F' a → F a ∨ M a ≠ none ∨ H a = none) : Ext F H M F' H M' := ⟨ExtW.grow hF, fun _ _ h _ => h, hM, hN⟩

section
variable {K : PySem.W.Frag} {F F' : Addr → Prop} {H H' : Hp} {M M' : Mem}
theorem ExtW.tupAt (x : ExtW F H F' H') {a : Addr} {vs : List V} (h : TupAt K H a vs) : TupAt K H' a vs := h.imp (x.tup _ _) fun h => h
theorem ExtW.sqT (x : ExtW F H F' H') {a : Addr} {vs : List V} (h : SqT K H a vs) : SqT K H' a vs := by
  rcases h with (h | ⟨o, h⟩) | h
  · exact .inl (.inl (x.tup _ _ h))
  · exact .inl (.inr ⟨o, x.frz _ _ _ h⟩)
  · exact .inr h
theorem ExtW.rd (x : ExtW F H F' H') {a : Addr} {u : HO} (f : F a) (h : Rd H a u) : Rd H' a u := by
  rcases h with h | ⟨o, h⟩
  · exact .inl (x.fro _ _ f h)
  · exact .inr ⟨o, x.fro _ _ f h⟩
mutual
theorem Rp.mono (x : ExtW F H F' H') : ∀ (d : D) (v : V), Rp K F H d v → Rp K F' H' d v
  | .non, v, h => by unfold Rp at h ⊢; exact h
  | .bl b, v, h => by unfold Rp at h ⊢; exact h
  | .int b, v, h => by unfold Rp at h ⊢; exact h
  | .str b, v, h => by unfold Rp at h ⊢; exact h
  | .ty b, v, h => by unfold Rp at h ⊢; exact h
  | .ref b, v, h => by unfold Rp at h ⊢; exact h
  | .tup ds, v, h => by
    unfold Rp at h ⊢
    obtain ⟨a, vs, e, q, r⟩ := h
    exact ⟨a, vs, e, x.tupAt q, Rps.mono x ds vs r⟩
  | .lst ds, v, h => by
    unfold Rp at h ⊢
    obtain ⟨a, vs, e, q, f, r⟩ := h
    exact ⟨a, vs, e, x.fro _ _ f q, x.mono _ f, Rps.mono x ds vs r⟩
  | .scr ns, v, h => by
    unfold Rp at h ⊢
    obtain ⟨a, e, q⟩ := h
    exact ⟨a, e, q.imp (fun ⟨o, q⟩ => ⟨o, x.frz _ _ _ q⟩) fun q => q⟩
  | .obj C fs, v, h => by
    unfold Rp at h ⊢
    obtain ⟨a, dx, gs, e, q, f, r⟩ := h
    exact ⟨a, dx, gs, e, x.fro _ _ f q, x.mono _ f, Rpf.mono x fs gs r⟩
  | .xo a d fs, v, h => by
    unfold Rp at h ⊢
    obtain ⟨e, gs, q, r⟩ := h
    refine ⟨e, gs, ?_, Rpf.mono x fs gs r⟩
    cases d with
    | none => exact q
    | some dd => exact x.xd _ _ q
theorem Rps.mono (x : ExtW F H F' H') : ∀ (ds : List D) (vs : List V), Rps K F H ds vs → Rps K F' H' ds vs
  | [], vs, h => by unfold Rps at h ⊢; exact h
  | d :: ds, vs, h => by
    unfold Rps at h ⊢
    obtain ⟨v, r, e, h1, h2⟩ := h
    exact ⟨v, r, e, Rp.mono x d v h1, Rps.mono x ds r h2⟩
theorem Rpf.mono (x : ExtW F H F' H') : ∀ (ds : List (Str × D)) (vs : List (Str × V)), Rpf K F H ds vs → Rpf K F' H' ds vs
  | [], vs, h => by unfold Rpf at h ⊢; exact h
  | p :: ds, vs, h => by
    unfold Rpf at h ⊢
    obtain ⟨v, r, e, h1, h2⟩ := h
    exact ⟨v, r, e, Rp.mono x p.2 v h1, Rpf.mono x ds r h2⟩
end
theorem Rps.nil : Rps K F H [] [] := by unfold Rps; rfl
theorem Rps.cons {d : D} {ds : List D} {v : V} {vs : List V} (h : Rp K F H d v) (t : Rps K F H ds vs) : Rps K F H (d :: ds) (v :: vs) := by
  unfold Rps
  exact ⟨v, vs, rfl, h, t⟩
theorem Rps.length : ∀ {ds : List D} {vs : List V}, Rps K F H ds vs → vs.length = ds.length
  | [], vs, h => by unfold Rps at h; subst h; rfl
  | d :: ds, vs, h => by
    unfold Rps at h
    obtain ⟨v, r, rfl, _, h2⟩ := h
    rw [List.length_cons, List.length_cons, Rps.length h2]
theorem Rps.append : ∀ {ds es : List D} {vs ws : List V}, Rps K F H ds vs → Rps K F H es ws → Rps K F H (ds ++ es) (vs ++ ws)
  | [], es, vs, ws, h, g => by unfold Rps at h; subst h; exact g
  | d :: ds, es, vs, ws, h, g => by
    unfold Rps at h
    obtain ⟨v, r, rfl, h1, h2⟩ := h
    exact Rps.cons h1 (Rps.append h2 g)
theorem Rps.get : ∀ {ds : List D} {vs : List V} {i : Nat} {d : D}, Rps K F H ds vs → ds[i]? = some d → ∃ v, vs[i]? = some v ∧ Rp K F H d v
  | [], vs, i, d, h, e => by simp at e
  | d :: ds, vs, 0, x, h, e => by
    unfold Rps at h
    obtain ⟨v, r, rfl, h1, h2⟩ := h
    simp at e
    subst e
    exact ⟨v, by simp, h1⟩
  | d :: ds, vs, i + 1, x, h, e => by
    unfold Rps at h
    obtain ⟨v, r, rfl, h1, h2⟩ := h
    obtain ⟨w, a, b⟩ := Rps.get (i := i) (d := x) h2 (by simpa using e)
    exact ⟨w, by simpa using a, b⟩
theorem Rps.rget : ∀ {ds : List D} {vs : List V} {i : Nat} {v : V}, Rps K F H ds vs → vs[i]? = some v → ∃ d, ds[i]? = some d ∧ Rp K F H d v
  | [], vs, i, d, h, e => by unfold Rps at h; subst h; simp at e
  | d :: ds, vs, 0, x, h, e => by
    unfold Rps at h
    obtain ⟨v, r, rfl, h1, h2⟩ := h
    simp at e
    subst e
    exact ⟨d, by simp, h1⟩
  | d :: ds, vs, i + 1, x, h, e => by
    unfold Rps at h
    obtain ⟨v, r, rfl, h1, h2⟩ := h
    obtain ⟨w, a, b⟩ := Rps.rget (i := i) (v := x) h2 (by simpa using e)
    exact ⟨w, by simpa using a, b⟩
theorem Rps.set : ∀ {ds : List D} {vs : List V} {d : D} {v : V} (i : Nat), Rps K F H ds vs → Rp K F H d v → Rps K F H (ds.set i d) (vs.set i v)
  | [], vs, d, v, i, h, g => by unfold Rps at h; subst h; exact Rps.nil
  | c :: ds, vs, d, v, 0, h, g => by
    unfold Rps at h
    obtain ⟨w, r, rfl, h1, h2⟩ := h
    exact Rps.cons g h2
  | c :: ds, vs, d, v, i + 1, h, g => by
    unfold Rps at h
    obtain ⟨w, r, rfl, h1, h2⟩ := h
    exact Rps.cons h1 (Rps.set i h2 g)
theorem Rps.take : ∀ {ds : List D} {vs : List V} (n : Nat), Rps K F H ds vs → Rps K F H (ds.take n) (vs.take n)
  | ds, vs, 0, h => by simp [Rps.nil]
  | [], vs, n + 1, h => by unfold Rps at h; subst h; exact Rps.nil
  | c :: ds, vs, n + 1, h => by
    unfold Rps at h
    obtain ⟨w, r, rfl, h1, h2⟩ := h
    exact Rps.cons h1 (Rps.take n h2)
theorem Rps.drop : ∀ {ds : List D} {vs : List V} (n : Nat), Rps K F H ds vs → Rps K F H (ds.drop n) (vs.drop n)
  | ds, vs, 0, h => by simpa using h
  | [], vs, n + 1, h => by unfold Rps at h; subst h; exact Rps.nil
  | c :: ds, vs, n + 1, h => by
    unfold Rps at h
    obtain ⟨w, r, rfl, h1, h2⟩ := h
    exact Rps.drop n h2
theorem Rps.reverse : ∀ {ds : List D} {vs : List V}, Rps K F H ds vs → Rps K F H ds.reverse vs.reverse
  | [], vs, h => by unfold Rps at h; subst h; exact Rps.nil
  | c :: ds, vs, h => by
    unfold Rps at h
    obtain ⟨w, r, rfl, h1, h2⟩ := h
    rw [List.reverse_cons, List.reverse_cons]
    exact Rps.append (Rps.reverse h2) (Rps.cons h1 Rps.nil)
theorem Rps.eraseIdx : ∀ {ds : List D} {vs : List V} (i : Nat), Rps K F H ds vs → Rps K F H (ds.eraseIdx i) (vs.eraseIdx i)
  | [], vs, i, h => by unfold Rps at h; subst h; exact Rps.nil
  | c :: ds, vs, 0, h => by
    unfold Rps at h
    obtain ⟨w, r, rfl, h1, h2⟩ := h
    exact h2
  | c :: ds, vs, i + 1, h => by
    unfold Rps at h
    obtain ⟨w, r, rfl, h1, h2⟩ := h
    exact Rps.cons h1 (Rps.eraseIdx i h2)
theorem Rps.rep {ds : List D} {vs : List V} (h : Rps K F H ds vs) : ∀ n : Nat, Rps K F H (List.replicate n ds).flatten (List.replicate n vs).flatten
  | 0 => by simpa using Rps.nil
  | n + 1 => by
    rw [List.replicate_succ, List.replicate_succ, List.flatten_cons, List.flatten_cons]
    exact Rps.append h (Rps.rep h n)
theorem Rps.map_of {α : Type} {f : α → D} {g : α → V} (h : ∀ a, Rp K F H (f a) (g a)) : ∀ xs : List α, Rps K F H (xs.map f) (xs.map g)
  | [] => Rps.nil
  | x :: xs => Rps.cons (h x) (Rps.map_of h xs)
theorem Rp.int {i : Int} : Rp K F H (.int i) (.int i) := by unfold Rp; rfl
theorem Rp.bl {i : Bool} : Rp K F H (.bl i) (.bl i) := by unfold Rp; rfl
theorem Rp.str {i : Str} : Rp K F H (.str i) (.str i) := by unfold Rp; rfl
theorem Rp.non : Rp K F H .non .non := by unfold Rp; rfl
theorem Rp.ty {n : String} : Rp K F H (.ty n) (.ty n) := by unfold Rp; rfl
theorem Rp.ref {a : Addr} : Rp K F H (.ref a) (.ref a) := by unfold Rp; rfl
theorem Rp.ints : ∀ {ns : List Int} {vs : List V}, Rps K F H (ns.map D.int) vs → vs = ns.map V.int
  | [], vs, h => by
    unfold Rps at h
    exact h
  | n :: ns, vs, h => by
    rw [List.map_cons] at h
    unfold Rps at h
    obtain ⟨v, r, rfl, h1, h2⟩ := h
    unfold Rp at h1
    subst h1
    rw [Rp.ints h2, List.map_cons]
end

/-- the store is held -/
def MoOk (K : PySem.W.Frag) (F : Addr → Prop) (H : Hp) (a : Addr) : MO → Prop
  | .lst ds => ∃ vs, H a = some (.lst vs) ∧ Rps K F H ds vs
  | .ins C fs => ∃ dx gs, H a = some (.ins C dx gs) ∧ Rpf K F H fs gs
structure MemOk (K : PySem.W.Frag) (F : Addr → Prop) (H : Hp) (M : Mem) : Prop where
  fok : ∀ a, F a → H a ≠ none
  at_ : ∀ a o, M a = some o → ¬ F a ∧ MoOk K F H a o
theorem MoOk.stay {K : PySem.W.Frag} {F F' : Addr → Prop} {H H' : Hp} {a : Addr} {o : MO} (h : MoOk K F H a o) (x : ExtW F H F' H') (e : ∀ u, H a = some u → H' a = some u) : MoOk K F' H' a o := by
  cases o with
  | lst ds =>
    obtain ⟨vs, h1, h2⟩ := h
    exact ⟨vs, e _ h1, Rps.mono x ds vs h2⟩
  | ins C fs =>
    obtain ⟨dx, gs, h1, h2⟩ := h
    exact ⟨dx, gs, e _ h1, Rpf.mono x fs gs h2⟩
theorem MoOk.some {K : PySem.W.Frag} {F : Addr → Prop} {H : Hp} {a : Addr} {o : MO} (h : MoOk K F H a o) : ∃ u, H a = some u := by
  cases o with
  | lst ds => obtain ⟨vs, h1, h2⟩ := h; exact ⟨_, h1⟩
  | ins C fs => obtain ⟨dx, gs, h1, h2⟩ := h; exact ⟨_, h1⟩
section
variable {K : PySem.W.Frag} {F : Addr → Prop} {H : Hp} {M : Mem} {p : Addr}
theorem MemOk.fresh (m : MemOk K F H M) (hp : H p = none) : ¬ F p ∧ M p = none := by
  refine ⟨fun f => m.fok p f hp, ?_⟩
  cases e : M p with
  | none => rfl
  | some o =>
    obtain ⟨u, h⟩ := (m.at_ p o e).2.some
    rw [hp] at h
    cases h
/-- something frozen comes at p -/
theorem MemOk.frz (m : MemOk K F H M) (hp : H p = none) (o : HO) : MemOk K (fun a => F a ∨ a = p) (upd H p o) M := by
  have x : ExtW F H (fun a => F a ∨ a = p) (upd H p o) := (Ext.laid (M := M) hp (fun a h => .inl h) fun a h => h).toExtW
  refine ⟨fun a f => ?_, fun a u e => ?_⟩
  · by_cases z : a = p
    · subst z; rw [upd_same]; exact fun q => nomatch q
    · rw [upd_ne z]
      exact m.fok a (f.resolve_right z)
  · obtain ⟨n, q⟩ := m.at_ a u e
    have z : a ≠ p := fun z => by subst z; rw [(m.fresh hp).2] at e; cases e
    exact ⟨fun f => f.elim n z, q.stay x fun w h => by rw [upd_ne z]; exact h⟩
/-- something comes at p that is nowhere told -/
theorem MemOk.aside (m : MemOk K F H M) (hp : H p = none) (o : HO) : MemOk K F (upd H p o) M := by
  have x : ExtW F H F (upd H p o) := (Ext.laid (M := M) hp fun a h => h).toExtW
  refine ⟨fun a f => ?_, fun a u e => ?_⟩
  · have z : a ≠ p := fun z => by subst z; exact m.fok a f hp
    rw [upd_ne z]
    exact m.fok a f
  · obtain ⟨n, q⟩ := m.at_ a u e
    have z : a ≠ p := fun z => by subst z; rw [(m.fresh hp).2] at e; cases e
    exact ⟨n, q.stay x fun w h => by rw [upd_ne z]; exact h⟩
/-- a cell of the store is changed -/
theorem MemOk.set (m : MemOk K F H M) {o' : MO} {u u' : HO} (hp : H p = some u) (nF : ¬ F p) (x : ExtW F H F (upd H p u')) (q : MoOk K F (upd H p u') p o') : MemOk K F (upd H p u') (mset M p o') := by
  refine ⟨fun a f => ?_, fun a w e => ?_⟩
  · have z : a ≠ p := fun z => nF (z ▸ f)
    rw [upd_ne z]
    exact m.fok a f
  · by_cases z : a = p
    · subst z
      rw [mset_same] at e
      cases e
      exact ⟨nF, q⟩
    · rw [mset_ne z] at e
      obtain ⟨n, r⟩ := m.at_ a w e
      exact ⟨n, r.stay x fun w h => by rw [upd_ne z]; exact h⟩
/-- a new cell -/
theorem MemOk.add (m : MemOk K F H M) {o : MO} (nF : ¬ F p) (q : MoOk K F H p o) : MemOk K F H (mset M p o) := by
  refine ⟨m.fok, fun a w e => ?_⟩
  by_cases z : a = p
  · subst z
    rw [mset_same] at e
    cases e
    exact ⟨nF, q⟩
  · rw [mset_ne z] at e
    exact m.at_ a w e
/-- less is told -/
theorem MemOk.sub (m : MemOk K F H M) {M' : Mem} (h : ∀ a o, M' a = some o → M a = some o) : MemOk K F H M' := ⟨m.fok, fun a o e => m.at_ a o (h a o e)⟩
end

/-! ### the frame -/
abbrev Dv := List (Option D)
def EnvOk (K : PySem.W.Frag) (F : Addr → Prop) (H : Hp) (ρ : Dv) (σ : St) : Prop := ∀ (i : Nat) (d : D), ρ[i]? = some (some d) → ∃ v, σ[i]? = some (some v) ∧ Rp K F H d v
theorem EnvOk.mono {K : PySem.W.Frag} {F F' : Addr → Prop} {H H' : Hp} {ρ : Dv} {σ : St} (h : EnvOk K F H ρ σ) (x : ExtW F H F' H') : EnvOk K F' H' ρ σ := fun i d e => by
  obtain ⟨v, h1, h2⟩ := h i d e
  exact ⟨v, h1, Rp.mono x d v h2⟩
structure Sta (K : PySem.W.Frag) (F : Addr → Prop) (H : Hp) (ρ : Dv) (M : Mem) (σ : St) : Prop where
  env : EnvOk K F H ρ σ
  mem : MemOk K F H M
  len : ρ.length = σ.length
theorem Sta.next {K : PySem.W.Frag} {F F' : Addr → Prop} {H H' : Hp} {ρ : Dv} {M M' : Mem} {σ : St} (s : Sta K F H ρ M σ) (x : ExtW F H F' H') (m : MemOk K F' H' M') : Sta K F' H' ρ M' σ := ⟨s.env.mono x, m, s.len⟩
theorem EnvOk.set {K : PySem.W.Frag} {F : Addr → Prop} {H : Hp} {ρ : Dv} {σ : St} {d : D} {v : V} (h : EnvOk K F H ρ σ) (hl : ρ.length = σ.length) (i : Nat) (r : Rp K F H d v) : EnvOk K F H (ρ.set i (some d)) (σ.set i (some v)) := fun j e he => by
  by_cases z : i = j
  · subst z
    by_cases hi : i < ρ.length
    · rw [List.getElem?_set_self hi] at he
      cases he
      exact ⟨v, by rw [List.getElem?_set_self (hl ▸ hi)], r⟩
    · rw [List.getElem?_eq_none (by simpa using hi)] at he
      cases he
  · rw [List.getElem?_set_ne z] at he
    obtain ⟨w, h1, h2⟩ := h j e he
    exact ⟨w, by rw [List.getElem?_set_ne z]; exact h1, h2⟩
theorem Sta.set {K : PySem.W.Frag} {F : Addr → Prop} {H : Hp} {ρ : Dv} {M : Mem} {σ : St} {d : D} {v : V} (s : Sta K F H ρ M σ) (i : Nat) (r : Rp K F H d v) : Sta K F H (ρ.set i (some d)) M (σ.set i (some v)) :=
  ⟨s.env.set s.len i r, s.mem, by rw [List.length_set, List.length_set]; exact s.len⟩
/-- less of the frame is told -/
def Below (ρ' ρ : Dv) : Prop := ρ'.length = ρ.length ∧ ∀ (i : Nat) (d : D), ρ'[i]? = some (some d) → ρ[i]? = some (some d)
theorem Sta.below {K : PySem.W.Frag} {F : Addr → Prop} {H : Hp} {ρ ρ' : Dv} {M : Mem} {σ : St} (s : Sta K F H ρ M σ) (b : Below ρ' ρ) : Sta K F H ρ' M σ := ⟨fun i d e => s.env i d (b.2 i d e), s.mem, b.1.trans s.len⟩

/-! ### an exception, deep -/
structure DX where
  cls : Value
  fs : List (Str × D)
def RpX (K : PySem.W.Frag) (F : Addr → Prop) (H : Hp) (x : DX) (cls : Value) (d : Option Addr) : Prop :=
  cls = x.cls ∧ ((x.fs = [] ∧ d = none) ∨ ∃ dd gs, d = some dd ∧ H dd = some (.xd gs) ∧ Rpf K F H x.fs gs)
theorem RpX.mono {K : PySem.W.Frag} {F F' : Addr → Prop} {H H' : Hp} {x : DX} {cls : Value} {d : Option Addr} (h : RpX K F H x cls d) (e : ExtW F H F' H') : RpX K F' H' x cls d := by
  obtain ⟨h1, h2⟩ := h
  refine ⟨h1, h2.elim .inl fun ⟨dd, gs, a, b, c⟩ => .inr ⟨dd, gs, a, e.xd _ _ b, Rpf.mono e _ _ c⟩⟩

abbrev DXK := DX → Mem → Prop
abbrev DVK := D → Mem → Prop
/-- deep readings: E: what is wanted of an exception -/
abbrev DE := DXK → Dv → Mem → DVK → Prop
abbrev DT := DXK → Dv → Mem → (Bool → Mem → Prop) → Prop
abbrev DA := DXK → Dv → Mem → (List D → Mem → Prop) → Prop
structure DEnds where
  nx : Dv → Mem → Prop
  rt : D → Mem → Prop
  bk : Dv → Mem → Prop := fun _ _ => False
  ct : Dv → Mem → Prop := fun _ _ => False
  ex : DX → Dv → Mem → Prop := fun _ _ _ => False
abbrev DS := DEnds → Dv → Mem → Prop

/-- the wish W of exceptions (of the context) takes those that E wants -/
def XOk (K : PySem.W.Frag) (F : Addr → Prop) (H : Hp) (M : Mem) (E : DXK) (W : WX) (σ : St) : Prop := ∀ F' H' M' x cls d, Ext F H M F' H' M' → MemOk K F' H' M' → RpX K F' H' x cls d → E x M' → W cls d σ H'
def VOk (K : PySem.W.Frag) (F : Addr → Prop) (H : Hp) (M : Mem) (Q' : DVK) (Q : VK) : Prop := ∀ F' H' M' d v, Ext F H M F' H' M' → MemOk K F' H' M' → Rp K F' H' d v → Q' d M' → Q v H'
def BOk (K : PySem.W.Frag) (F : Addr → Prop) (H : Hp) (M : Mem) (Q' : Bool → Mem → Prop) (Q : Bool → Hp → Prop) : Prop := ∀ F' H' M' b, Ext F H M F' H' M' → MemOk K F' H' M' → Q' b M' → Q b H'
def AOk (K : PySem.W.Frag) (F : Addr → Prop) (H : Hp) (M : Mem) (Q' : List D → Mem → Prop) (Q : List V → Hp → Prop) : Prop := ∀ F' H' M' ds vs, Ext F H M F' H' M' → MemOk K F' H' M' → Rps K F' H' ds vs → Q' ds M' → Q vs H'
def SOk (K : PySem.W.Frag) (F : Addr → Prop) (H : Hp) (M : Mem) (Q' : Dv → Mem → Prop) (Q : St → Hp → Prop) : Prop := ∀ F' H' ρ' M' σ', Ext F H M F' H' M' → Sta K F' H' ρ' M' σ' → Q' ρ' M' → Q σ' H'
def SXOk (K : PySem.W.Frag) (F : Addr → Prop) (H : Hp) (M : Mem) (E : DX → Dv → Mem → Prop) (W : WX) : Prop := ∀ F' H' ρ' M' σ' x cls d, Ext F H M F' H' M' → Sta K F' H' ρ' M' σ' → RpX K F' H' x cls d → E x ρ' M' → W cls d σ' H'
structure EOk (K : PySem.W.Frag) (F : Addr → Prop) (H : Hp) (M : Mem) (E' : DEnds) (E : Ends) (W : WX) : Prop where
  nx : SOk K F H M E'.nx E.nx
  rt : VOk K F H M E'.rt E.rt
  bk : SOk K F H M E'.bk E.bk
  ct : SOk K F H M E'.ct E.ct
  ex : SXOk K F H M E'.ex W
section
variable {K : PySem.W.Frag} {F F' : Addr → Prop} {H H' : Hp} {M M' : Mem}
theorem XOk.next {E : DXK} {W : WX} {σ : St} (h : XOk K F H M E W σ) (x : Ext F H M F' H' M') : XOk K F' H' M' E W σ := fun F2 H2 M2 y c d e => h F2 H2 M2 y c d (x.trans e)
theorem VOk.next {Q' : DVK} {Q : VK} (h : VOk K F H M Q' Q) (x : Ext F H M F' H' M') : VOk K F' H' M' Q' Q := fun F2 H2 M2 d v e => h F2 H2 M2 d v (x.trans e)
theorem BOk.next {Q' : Bool → Mem → Prop} {Q : Bool → Hp → Prop} (h : BOk K F H M Q' Q) (x : Ext F H M F' H' M') : BOk K F' H' M' Q' Q := fun F2 H2 M2 b e => h F2 H2 M2 b (x.trans e)
theorem AOk.next {Q' : List D → Mem → Prop} {Q : List V → Hp → Prop} (h : AOk K F H M Q' Q) (x : Ext F H M F' H' M') : AOk K F' H' M' Q' Q := fun F2 H2 M2 b v e => h F2 H2 M2 b v (x.trans e)
theorem SOk.next {Q' : Dv → Mem → Prop} {Q : St → Hp → Prop} (h : SOk K F H M Q' Q) (x : Ext F H M F' H' M') : SOk K F' H' M' Q' Q := fun F2 H2 r M2 s e => h F2 H2 r M2 s (x.trans e)
theorem SXOk.next {E : DX → Dv → Mem → Prop} {W : WX} (h : SXOk K F H M E W) (x : Ext F H M F' H' M') : SXOk K F' H' M' E W := fun F2 H2 r M2 s y c d e => h F2 H2 r M2 s y c d (x.trans e)
theorem EOk.next {E' : DEnds} {E : Ends} {W : WX} (h : EOk K F H M E' E W) (x : Ext F H M F' H' M') : EOk K F' H' M' E' E W := ⟨h.nx.next x, h.rt.next x, h.bk.next x, h.ct.next x, h.ex.next x⟩
/-- an expression's exceptions within a statement -/
theorem SXOk.at_ {E : DX → Dv → Mem → Prop} {W : WX} {ρ : Dv} {σ : St} (h : SXOk K F H M E W) (s : Sta K F H ρ M σ) : XOk K F H M (fun x M => E x ρ M) W σ := fun F2 H2 M2 y c d e m r q => h F2 H2 ρ M2 σ y c d e (s.next e m) r q
end

/-! ### the judgements: those of the hand layer at readings made of deep ones -/
def tG (K : PySem.W.Frag) (W : WX) (g : DE) : TE := fun σ H Q => ∃ F ρ M E Q', Sta K F H ρ M σ ∧ XOk K F H M E W σ ∧ VOk K F H M Q' Q ∧ g E ρ M Q'
def tGt (K : PySem.W.Frag) (W : WX) (g : DT) : TT := fun σ H Q => ∃ F ρ M E Q', Sta K F H ρ M σ ∧ XOk K F H M E W σ ∧ BOk K F H M Q' Q ∧ g E ρ M Q'
def tGa (K : PySem.W.Frag) (W : WX) (g : DA) : TA := fun σ H Q => ∃ F ρ M E Q', Sta K F H ρ M σ ∧ XOk K F H M E W σ ∧ AOk K F H M Q' Q ∧ g E ρ M Q'
def tGs (K : PySem.W.Frag) (W : WX) (g : DS) : TS := fun E σ H => ∃ F ρ M E', Sta K F H ρ M σ ∧ EOk K F H M E' E W ∧ g E' ρ M
def FE (K : PySem.W.Frag) (X : Cx) (W : WX) (e : Expr) (g : DE) : Prop := PE X e (tG K W g)
def FT (K : PySem.W.Frag) (X : Cx) (W : WX) (e : Expr) (g : DT) : Prop := PT X e (tGt K W g)
def FW (K : PySem.W.Frag) (X : Cx) (W : WX) (e : Expr) (g : DT) : Prop := PW X e (tGt K W g)
def FA (K : PySem.W.Frag) (X : Cx) (W : WX) (es : List Expr) (g : DA) : Prop := PA X es (tGa K W g)
def FS (K : PySem.W.Frag) (X : Cx) (W : WX) (st : Stmt) (g : DS) : Prop := PS X st (tGs K W g)
def FSs (K : PySem.W.Frag) (X : Cx) (W : WX) (st : List Stmt) (g : DS) : Prop := PSs X st (tGs K W g)
theorem PE.imp {X : Cx} {e : Expr} {t t' : TE} (h : PE X e t) (i : ∀ σ H Q, t' σ H Q → t σ H Q) : PE X e t' := ⟨fun pins s σ H Q I q => h.run pins s σ H Q I (i σ H Q q)⟩
theorem PT.imp {X : Cx} {e : Expr} {t t' : TT} (h : PT X e t) (i : ∀ σ H Q, t' σ H Q → t σ H Q) : PT X e t' := ⟨fun pins s σ H Q I q => h.run pins s σ H Q I (i σ H Q q)⟩
theorem PW.imp {X : Cx} {e : Expr} {t t' : TT} (h : PW X e t) (i : ∀ σ H Q, t' σ H Q → t σ H Q) : PW X e t' := ⟨fun w pins s σ H Q I q => h.run w pins s σ H Q I (i σ H Q q)⟩
theorem PA.imp {X : Cx} {e : List Expr} {t t' : TA} (h : PA X e t) (i : ∀ σ H Q, t' σ H Q → t σ H Q) : PA X e t' := ⟨fun w pins s σ H Q I q => h.run w pins s σ H Q I (i σ H Q q)⟩
theorem PS.imp {X : Cx} {e : Stmt} {t t' : TS} (h : PS X e t) (i : ∀ D σ H, t' D σ H → t D σ H) : PS X e t' := ⟨fun pins s σ H D I q => h.run pins s σ H D I (i D σ H q)⟩
theorem PSs.imp {X : Cx} {e : List Stmt} {t t' : TS} (h : PSs X e t) (i : ∀ D σ H, t' D σ H → t D σ H) : PSs X e t' := ⟨fun pins s σ H D I q => h.run pins s σ H D I (i D σ H q)⟩
end DL

/-! DL2: expressions, deep. -/
namespace DL
open PySem PySem.Spec L2

def IE (K : PySem.W.Frag) (W : WX) (g : DE) (t : TE) : Prop := ∀ F H ρ M σ E Q' Q, Sta K F H ρ M σ → XOk K F H M E W σ → VOk K F H M Q' Q → g E ρ M Q' → t σ H Q
section
variable {K : PySem.W.Frag} {X : Cx} {W : WX} {F : Addr → Prop} {H : Hp} {ρ : Dv} {M : Mem} {σ : St} {E : DXK} {ga gb gc : DE} {a b c e : Expr} {pos : Pos}

theorem tG_mk {g : DE} {Q' : DVK} {Q : VK} (s : Sta K F H ρ M σ) (x : XOk K F H M E W σ) (q : VOk K F H M Q' Q) (h : g E ρ M Q') : tG K W g σ H Q := ⟨F, ρ, M, E, Q', s, x, q, h⟩
theorem tGt_mk {g : DT} {Q' : Bool → Mem → Prop} {Q : Bool → Hp → Prop} (s : Sta K F H ρ M σ) (x : XOk K F H M E W σ) (q : BOk K F H M Q' Q) (h : g E ρ M Q') : tGt K W g σ H Q := ⟨F, ρ, M, E, Q', s, x, q, h⟩
/-- two expressions, one behind the other -/
theorem two {R' : D → D → Mem → Prop} {R : V → V → Hp → Prop} (s : Sta K F H ρ M σ) (x : XOk K F H M E W σ) (h : ga E ρ M fun d M1 => gb E ρ M1 fun e M2 => R' d e M2)
    (k : ∀ F2 H2 M2 d e v u, Ext F H M F2 H2 M2 → MemOk K F2 H2 M2 → Rp K F2 H2 d v → Rp K F2 H2 e u → R' d e M2 → R v u H2) : tG K W ga σ H fun v H1 => tG K W gb σ H1 fun u H2 => R v u H2 :=
  tG_mk s x (fun F1 H1 M1 d v e1 m1 r1 h1 => tG_mk (s.next e1 m1) (x.next e1) (fun F2 H2 M2 e u e2 m2 r2 h2 => k F2 H2 M2 d e v u (e1.trans e2) m2 (Rp.mono e2 _ _ r1) r2 h2) h1) h

/-! ### operators by deep values -/
abbrev DR1 := D → Mem → DVK → Prop
abbrev DR2 := D → D → Mem → DVK → Prop
abbrev DRs := List D → Mem → DVK → Prop
def rG (K : PySem.W.Frag) (rd : DR2) : R2 := fun x y H Q => ∃ F M d e Q', MemOk K F H M ∧ Rp K F H d x ∧ Rp K F H e y ∧ VOk K F H M Q' Q ∧ rd d e M Q'
def rG1 (K : PySem.W.Frag) (rd : DR1) : V → Hp → VK → Prop := fun x H Q => ∃ F M d Q', MemOk K F H M ∧ Rp K F H d x ∧ VOk K F H M Q' Q ∧ rd d M Q'
def rGs (K : PySem.W.Frag) (rd : DRs) : List V → Hp → VK → Prop := fun xs H Q => ∃ F M ds Q', MemOk K F H M ∧ Rps K F H ds xs ∧ VOk K F H M Q' Q ∧ rd ds M Q'
def OpD (K : PySem.W.Frag) (X : Cx) (f : Value → Value → Sem Value) (rd : DR2) : Prop := OpR X f (rG K rd)
def IxD (K : PySem.W.Frag) (X : Cx) (rd : DR2) : Prop := IxR X (rG K rd)
def UnD (K : PySem.W.Frag) (X : Cx) (f : Value → Sem Value) (rd : DR1) : Prop := UnR X f (rG1 K rd)
def CallD (K : PySem.W.Frag) (X : Cx) (f : Value) (rd : DRs) : Prop := CallR X f (rGs K rd)
theorem OpR.imp {f : Value → Value → Sem Value} {r r' : R2} (h : OpR X f r) (i : ∀ x y H Q, r' x y H Q → r x y H Q) : OpR X f r' := fun pins s σ H x y v u Q I rx ry q => h pins s σ H x y v u Q I rx ry (i x y H Q q)
theorem IxR.imp {r r' : R2} (h : IxR X r) (i : ∀ x y H Q, r' x y H Q → r x y H Q) : IxR X r' := fun va sl pins s σ H x y v u Q I rx ry q => h va sl pins s σ H x y v u Q I rx ry (i x y H Q q)
theorem UnR.imp {f : Value → Sem Value} {r r' : V → Hp → VK → Prop} (h : UnR X f r) (i : ∀ x H Q, r' x H Q → r x H Q) : UnR X f r' := fun pins s σ H x v Q I rx q => h pins s σ H x v Q I rx (i x H Q q)
theorem CallR.imp {f : Value} {r r' : List V → Hp → VK → Prop} (h : CallR X f r) (i : ∀ x H Q, r' x H Q → r x H Q) : CallR X f r' := fun pins s σ H x v Q I rx q => h pins s σ H x v Q I rx (i x H Q q)

def gOp (rd : DR2) (ga gb : DE) : DE := fun E ρ M Q => ga E ρ M fun x M1 => gb E ρ M1 fun y M2 => rd x y M2 Q
def gUn (rd : DR1) (ga : DE) : DE := fun E ρ M Q => ga E ρ M fun x M1 => rd x M1 Q
theorem op_im {rd : DR2} : ∀ σ H Q, tG K W (gOp rd ga gb) σ H Q → tOp (rG K rd) (tG K W ga) (tG K W gb) σ H Q := fun σ H Q ⟨F, ρ, M, E, Q', s, x, q, h⟩ =>
  two (R := fun v u H2 => rG K rd v u H2 Q) s x h fun F2 H2 M2 d e v u e2 m2 r1 r2 h2 => ⟨F2, M2, d, e, Q', m2, r1, r2, q.next e2, h2⟩
theorem fe_op {op : Operator} {rd : DR2} (ho : OpD K X (binaryOp op) rd) (ha : FE K X W a ga) (hb : FE K X W b gb) : FE K X W (.BinOp a op b pos) (gOp rd ga gb) := PE.imp (pe_op ho ha hb) op_im
theorem fe_ix {rd : DR2} (ho : IxD K X rd) (ha : FE K X W a ga) (hb : FE K X W b gb) (hs : PlainIx b) : FE K X W (.Subscript a b pos) (gOp rd ga gb) := PE.imp (pe_ix ho ha hb hs) op_im
theorem fe_cmp {op : CmpOp} {rd : DR2} (ho : OpD K X (compareOp op) rd) (ha : FE K X W a ga) (hb : FE K X W b gb) (hm : behindInMarks op b = false) : FE K X W (.Compare a [op] [b] pos) (gOp rd ga gb) := PE.imp (pe_cmpR ho ha hb hm) op_im
theorem fe_un {op : UnaryOp} {rd : DR1} (ho : UnD K X (unaryOp op) rd) (ha : FE K X W a ga) : FE K X W (.UnaryOp op a pos) (gUn rd ga) :=
  PE.imp (pe_un ho ha) fun σ H Q ⟨F, ρ, M, E, Q', s, x, q, h⟩ => tG_mk s x (fun F1 H1 M1 d v e1 m1 r1 h1 => (⟨F1, M1, d, Q', m1, r1, q.next e1, h1⟩ : rG1 K rd v H1 Q)) h

/-! ### names, constants -/
def gVar (i : Nat) : DE := fun _ ρ M Q => match ρ[i]? with
  | some (some d) => Q d M
  | _ => False
theorem gVar_eq {i : Nat} {Q : DVK} {d : D} (e : ρ[i]? = some (some d)) (h : Q d M) : gVar i E ρ M Q := by
  unfold gVar
  rw [e]
  exact h
theorem fv (i : Nat) {x : Str} (hN : X.N[i]? = some x := by rfl) (hv : Vis X.env.scope x := by first | exact Or.inl rfl | exact Or.inr (Or.inl rfl) | exact Or.inr (Or.inr rfl)) (hd : (x == ("__debug__" : Str)) = false := by decide)
    (hcd : (x == ("__classdict__" : Str)) = false := by decide) : FE K X W (.Name x pos) (gVar i) :=
  PE.imp (pe_var hN hv hd hcd) fun σ H Q ⟨F, ρ, M, E, Q', s, x, q, h⟩ => by
    unfold gVar at h
    split at h
    · rename_i d e
      obtain ⟨v, h1, r⟩ := s.env i d e
      exact ⟨v, h1, q F H M d v (Ext.refl _ _ _) s.mem r h⟩
    · exact h.elim
def gC (d : D) : DE := fun _ _ M Q => Q d M
theorem tC_im {d : D} {v : V} (r : ∀ F H, Rp K F H d v) : ∀ σ H Q, tG K W (gC d) σ H Q → tC v σ H Q := fun σ H Q ⟨F, ρ, M, E, Q', s, x, q, h⟩ => q F H M d v (Ext.refl _ _ _) s.mem (r F H) h
theorem fe_int {i : Int} {j} : FE K X W (.Constant (.int i) j pos) (gC (.int i)) := PE.imp pe_int (tC_im fun _ _ => Rp.int)
theorem fe_bl {i : Bool} {j} : FE K X W (.Constant (.bool i) j pos) (gC (.bl i)) := PE.imp pe_bl (tC_im fun _ _ => Rp.bl)
theorem fe_non {j} : FE K X W (.Constant .none j pos) (gC .non) := PE.imp pe_non (tC_im fun _ _ => Rp.non)
theorem fe_str {i : Str} {j} : FE K X W (.Constant (.str i) j pos) (gC (.str i)) := PE.imp pe_str (tC_im fun _ _ => Rp.str)
/-- a built-in type as a value -/
theorem fe_ty {x : Str} {n : String} (hg : Gl X x) (hm : X.mg x = none) (hv : bootBuiltins x = some (.type n)) (hn : x ≠ "__name__" := by decide) (hd : (x == ("__debug__" : Str)) = false := by decide) : FE K X W (.Name x pos) (gC (.ty n)) :=
  PE.imp (pe_bltn (v := .ty n) hg hm hv rfl hn hd) (tC_im fun _ _ => Rp.ty)
/-- an own class or def as a value -/
theorem fe_own {x : Str} {c : Addr} (hg : Gl X x) (hm : X.mg x = some (.ref c)) (hd : (x == ("__debug__" : Str)) = false := by decide) : FE K X W (.Name x pos) (gC (.ref c)) :=
  PE.imp (pe_glob (v := .ref c) hg hm rfl hd) (tC_im fun _ _ => Rp.ref)

/-! ### argument lists, displays -/
def aNil : DA := fun _ _ M Q => Q [] M
def aCons (ga : DE) (gr : DA) : DA := fun E ρ M Q => ga E ρ M fun d M1 => gr E ρ M1 fun ds M2 => Q (d :: ds) M2
theorem fa_nil : FA K X W [] aNil := PA.imp pa_nil fun σ H Q ⟨F, ρ, M, E, Q', s, x, q, h⟩ => q F H M [] [] (Ext.refl _ _ _) s.mem Rps.nil h
theorem fa_cons {es : List Expr} {gr : DA} (ha : FE K X W e ga) (hr : FA K X W es gr) (hs : starEach (e :: es) X.env = (false, eval e X.env) :: starEach es X.env := by rfl) : FA K X W (e :: es) (aCons ga gr) :=
  PA.imp (pa_cons ha hr hs) fun σ H Q ⟨F, ρ, M, E, Q', s, x, q, h⟩ =>
    tG_mk s x (fun F1 H1 M1 d v e1 m1 r1 h1 => (⟨F1, ρ, M1, E, _, s.next e1 m1, x.next e1, fun F2 H2 M2 ds vs e2 m2 r2 h2 => q F2 H2 M2 (d :: ds) (v :: vs) (e1.trans e2) m2 (Rps.cons (Rp.mono e2 _ _ r1) r2) h2, h1⟩ : tGa K W gr σ H1 _)) h
def gTup (g : DA) : DE := fun E ρ M Q => g E ρ M fun ds M1 => ds.length ≤ sizeLine ∧ Q (.tup ds) M1
theorem fe_tup {es : List Expr} {g : DA} {x1} (h : FA K X W es g) : FE K X W (.Tuple es x1 pos) (gTup g) :=
  PE.imp (pe_tup h) fun σ H Q ⟨F, ρ, M, E, Q', s, x, q, h⟩ => ⟨F, ρ, M, E, _, s, x, fun F1 H1 M1 ds vs e1 m1 r1 h1 => by
    obtain ⟨hl, h1⟩ := h1
    refine ⟨by rw [r1.length]; exact hl, fun p hp => q _ (upd H1 p (.tup vs)) M1 (.tup ds) (.ref p) (e1.trans (Ext.laid hp fun _ z => z)) (m1.aside hp _) ?_ h1⟩
    unfold Rp
    exact ⟨p, vs, rfl, .inl upd_same, Rps.mono (Ext.laid (M := M1) hp fun _ z => z).toExtW _ _ r1⟩, h⟩

/-! ### new lists: frozen at once, or kept in the store -/
abbrev DN := DXK → Dv → Mem → (List D → Mem → Prop) → Prop
def tN (K : PySem.W.Frag) (W : WX) (g : DN) : TE := fun σ H Q => ∃ F ρ M E Q', Sta K F H ρ M σ ∧ XOk K F H M E W σ ∧
  (∀ F' H' M' ds vs p, Ext F H M F' H' M' → MemOk K F' H' M' → (M p ≠ none ∨ H p = none) → H' p = some (.lst vs) → ¬ F' p → M' p = none → Rps K F' H' ds vs → Q' ds M' → Q (.ref p) H') ∧ g E ρ M Q'
def FN (K : PySem.W.Frag) (X : Cx) (W : WX) (e : Expr) (g : DN) : Prop := PE X e (tN K W g)
def gFrz (g : DN) : DE := fun E ρ M Q => g E ρ M fun ds M1 => Q (.lst ds) M1
def gCel (g : DN) : DE := fun E ρ M Q => g E ρ M fun ds M1 => ∀ p, M1 p = none → Q (.ref p) (mset M1 p (.lst ds))
theorem MemOk.freeze {H' : Hp} {F' : Addr → Prop} {M' : Mem} {p : Addr} {u : HO} (m : MemOk K F' H' M') (hp : H' p = some u) (n : M' p = none) : MemOk K (fun a => F' a ∨ a = p) H' M' := by
  refine ⟨fun a f => f.elim (m.fok a) fun z => ?_, fun a o e => ?_⟩
  · rw [z, hp]
    exact fun q => nomatch q
  · obtain ⟨h1, h2⟩ := m.at_ a o e
    exact ⟨fun f => f.elim h1 fun z => (by rw [z, n] at e; cases e), h2.stay (ExtW.grow fun _ z => Or.inl z) fun _ z => z⟩
theorem Ext.frzAt {F' : Addr → Prop} {H' : Hp} {M' : Mem} {p : Addr} (e : Ext F H M F' H' M') (wp : M p ≠ none ∨ H p = none) : Ext F H M (fun a => F' a ∨ a = p) H' M' :=
  ⟨⟨fun a f => .inl (e.mono a f), e.fro, e.tup, e.frz, e.xd⟩, e.frame, e.dom, fun a h => h.elim (e.new a) fun z => .inr (by rw [z]; exact wp)⟩
theorem frz_im {g : DN} : ∀ σ H Q, tG K W (gFrz g) σ H Q → tN K W g σ H Q := fun σ H Q ⟨F, ρ, M, E, Q', s, x, q, h⟩ => ⟨F, ρ, M, E, _, s, x, fun F' H' M' ds vs p e m wp hp nF nM r h' => by
  refine q (fun a => F' a ∨ a = p) H' M' (.lst ds) (.ref p) (e.frzAt wp) (m.freeze hp nM) ?_ h'
  unfold Rp
  exact ⟨p, vs, rfl, hp, .inr rfl, Rps.mono (ExtW.grow fun _ z => .inl z) _ _ r⟩, h⟩
theorem Ext.cell {F' : Addr → Prop} {H' : Hp} {M' : Mem} {p : Addr} {o : MO} (e : Ext F H M F' H' M') (wp : M p ≠ none ∨ H p = none) : Ext F H M F' H' (mset M' p o) :=
  ⟨e.toExtW, e.frame, fun a h => (by
    by_cases z : a = p
    · rw [z]; exact wp
    · rw [mset_ne z] at h; exact e.dom a h), e.new⟩
theorem cel_im {g : DN} : ∀ σ H Q, tG K W (gCel g) σ H Q → tN K W g σ H Q := fun σ H Q ⟨F, ρ, M, E, Q', s, x, q, h⟩ => ⟨F, ρ, M, E, _, s, x, fun F' H' M' ds vs p e m wp hp nF nM r h' => by
  refine q F' H' (mset M' p (.lst ds)) (.ref p) (.ref p) (e.cell wp) (m.add nF ⟨vs, hp, r⟩) ?_ (h' p nM)
  unfold Rp
  rfl, h⟩
theorem FN.frz {g : DN} (h : FN K X W e g) : FE K X W e (gFrz g) := PE.imp h frz_im
theorem FN.cel {g : DN} (h : FN K X W e g) : FE K X W e (gCel g) := PE.imp h cel_im
def nLst (g : DA) : DN := fun E ρ M Q => g E ρ M fun ds M1 => ds.length ≤ sizeLine ∧ Q ds M1
/-- what a new list at p is -/
theorem newL {F1 : Addr → Prop} {H1 : Hp} {M1 : Mem} {ds : List D} {vs : List V} {Q : VK} {Q' : List D → Mem → Prop} {p : Addr} (e1 : Ext F H M F1 H1 M1) (m1 : MemOk K F1 H1 M1) (r1 : Rps K F1 H1 ds vs) (hp : H1 p = none)
    (q : ∀ F' H' M' ds vs p, Ext F H M F' H' M' → MemOk K F' H' M' → (M p ≠ none ∨ H p = none) → H' p = some (.lst vs) → ¬ F' p → M' p = none → Rps K F' H' ds vs → Q' ds M' → Q (.ref p) H') (h : Q' ds M1) : Q (.ref p) (upd H1 p (.lst vs)) :=
  q F1 (upd H1 p (.lst vs)) M1 ds vs p (e1.trans (Ext.laid hp fun _ z => z)) (m1.aside hp _) (e1.was hp) upd_same (m1.fresh hp).1 (m1.fresh hp).2 (Rps.mono (Ext.laid (M := M1) hp fun _ z => z).toExtW _ _ r1) h
theorem fn_lst {es : List Expr} {g : DA} (h : FA K X W es g) : FN K X W (.List es pos) (nLst g) :=
  PE.imp (pe_lst h) fun σ H Q ⟨F, ρ, M, E, Q', s, x, q, h⟩ => ⟨F, ρ, M, E, _, s, x, fun F1 H1 M1 ds vs e1 m1 r1 h1 => by
    obtain ⟨hl, h1⟩ := h1
    exact ⟨by rw [r1.length]; exact hl, fun p hp => newL e1 m1 r1 hp q h1⟩, h⟩

/-! ### tests -/
def onB (Q : Bool → Mem → Prop) (M : Mem) : D → Prop
  | .bl b => Q b M
  | _ => False
def gTest (g : DE) : DT := fun E ρ M Q => g E ρ M fun d M1 => onB Q M1 d
theorem test_bl {d : D} {v : V} {Q' : Bool → Mem → Prop} (r : Rp K F H d v) (h : onB Q' M d) : ∃ b, v = .bl b ∧ Q' b M := by
  cases d with
  | bl b => unfold Rp at r; exact ⟨b, r, h⟩
  | _ => exact h.elim
theorem ft_cmp {op : CmpOp} {rd : DR2} (ho : OpD K X (compareOp op) rd) (ha : FE K X W a ga) (hb : FE K X W b gb) (hm : behindInMarks op b = false) : FT K X W (.Compare a [op] [b] pos) (gTest (gOp rd ga gb)) :=
  PT.imp (pt_cmpR ho ha hb hm) fun σ H Q ⟨F, ρ, M, E, Q', s, x, q, h⟩ => op_im σ H _ (tG_mk s x (fun F1 H1 M1 d v e1 m1 r1 h1 => by
    obtain ⟨b, e, h2⟩ := test_bl r1 h1
    exact ⟨b, e, q F1 H1 M1 b e1 m1 h2⟩) h)
theorem ft_val {g : DE} (h : FE K X W e g) (he : ∀ whole, isTrue e X.env whole = (do let v ← whole; standAt e.pos; holding [v] (truthy v)) := by intro _; rfl) : FT K X W e (gTest g) :=
  PT.imp (pt_val h he) fun σ H Q ⟨F, ρ, M, E, Q', s, x, q, h⟩ => tG_mk s x (fun F1 H1 M1 d v e1 m1 r1 h1 => by
    obtain ⟨b, e, h2⟩ := test_bl r1 h1
    exact ⟨b, e, q F1 H1 M1 b e1 m1 h2⟩) h
def gAnd (ta tb : DT) : DT := fun E ρ M Q => ta E ρ M fun c M1 => if c = true then tb E ρ M1 Q else Q false M1
def gOr (ta tb : DT) : DT := fun E ρ M Q => ta E ρ M fun c M1 => if c = true then Q true M1 else tb E ρ M1 Q
def gNot (t : DT) : DT := fun E ρ M Q => t E ρ M fun c M1 => Q (!c) M1
variable {ta tb : DT} {rest : List Expr}
theorem fw_and1 (h : FT K X W a ta) : FW K X W (.BoolOp .And [a] pos) ta := pw_and1 h
theorem fw_or1 (h : FT K X W a ta) : FW K X W (.BoolOp .Or [a] pos) ta := pw_or1 h
theorem fw_and (ha : FT K X W a ta) (hb : FW K X W (.BoolOp .And (b :: rest) pos) tb) : FW K X W (.BoolOp .And (a :: b :: rest) pos) (gAnd ta tb) :=
  PW.imp (pw_and ha hb) fun σ H Q ⟨F, ρ, M, E, Q', s, x, q, h⟩ => tGt_mk s x (fun F1 H1 M1 c e1 m1 h1 => by
    cases c with
    | true => rw [if_pos rfl] at h1 ⊢; exact tGt_mk (s.next e1 m1) (x.next e1) (q.next e1) h1
    | false => rw [if_neg Bool.false_ne_true] at h1 ⊢; exact q F1 H1 M1 _ e1 m1 h1) h
theorem fw_or (ha : FT K X W a ta) (hb : FW K X W (.BoolOp .Or (b :: rest) pos) tb) : FW K X W (.BoolOp .Or (a :: b :: rest) pos) (gOr ta tb) :=
  PW.imp (pw_or ha hb) fun σ H Q ⟨F, ρ, M, E, Q', s, x, q, h⟩ => tGt_mk s x (fun F1 H1 M1 c e1 m1 h1 => by
    cases c with
    | true => rw [if_pos rfl] at h1 ⊢; exact q F1 H1 M1 _ e1 m1 h1
    | false => rw [if_neg Bool.false_ne_true] at h1 ⊢; exact tGt_mk (s.next e1 m1) (x.next e1) (q.next e1) h1) h
theorem FW.ft (h : FW K X W e ta) : FT K X W e ta := PW.pt h
theorem ft_not (h : FT K X W a ta) : FT K X W (.UnaryOp .Not a pos) (gNot ta) :=
  PT.imp (pt_not h) fun σ H Q ⟨F, ρ, M, E, Q', s, x, q, h⟩ => tGt_mk s x (fun F1 H1 M1 c e1 m1 h1 => q F1 H1 M1 _ e1 m1 h1) h

/-! ### and, or, not, if as values -/
def gAndV (ga gb : DE) : DE := fun E ρ M Q => ga E ρ M fun d M1 => onB (fun c M1 => if c = true then gb E ρ M1 Q else Q (.bl false) M1) M1 d
def gOrV (ga gb : DE) : DE := fun E ρ M Q => ga E ρ M fun d M1 => onB (fun c M1 => if c = true then Q (.bl true) M1 else gb E ρ M1 Q) M1 d
def gNotV (ga : DE) : DE := fun E ρ M Q => ga E ρ M fun d M1 => onB (fun c M1 => Q (.bl (!c)) M1) M1 d
theorem fe_one {op} (h : FE K X W a ga) : FE K X W (.BoolOp op [a] pos) ga := pe_one h
theorem fe_and (ha : FE K X W a ga) (hb : FE K X W (.BoolOp .And (b :: rest) pos) gb) : FE K X W (.BoolOp .And (a :: b :: rest) pos) (gAndV ga gb) :=
  PE.imp (pe_and ha hb) fun σ H Q ⟨F, ρ, M, E, Q', s, x, q, h⟩ => tG_mk s x (fun F1 H1 M1 d v e1 m1 r1 h1 => by
    obtain ⟨c, r1, h1⟩ := test_bl r1 h1
    refine ⟨c, r1, ?_⟩
    cases c with
    | true => rw [if_pos rfl] at h1 ⊢; exact tG_mk (s.next e1 m1) (x.next e1) (q.next e1) h1
    | false => rw [if_neg Bool.false_ne_true] at h1 ⊢; exact q F1 H1 M1 _ _ e1 m1 Rp.bl h1) h
theorem fe_or (ha : FE K X W a ga) (hb : FE K X W (.BoolOp .Or (b :: rest) pos) gb) : FE K X W (.BoolOp .Or (a :: b :: rest) pos) (gOrV ga gb) :=
  PE.imp (pe_or ha hb) fun σ H Q ⟨F, ρ, M, E, Q', s, x, q, h⟩ => tG_mk s x (fun F1 H1 M1 d v e1 m1 r1 h1 => by
    obtain ⟨c, r1, h1⟩ := test_bl r1 h1
    refine ⟨c, r1, ?_⟩
    cases c with
    | true => rw [if_pos rfl] at h1 ⊢; exact q F1 H1 M1 _ _ e1 m1 Rp.bl h1
    | false => rw [if_neg Bool.false_ne_true] at h1 ⊢; exact tG_mk (s.next e1 m1) (x.next e1) (q.next e1) h1) h
theorem fe_not (ha : FE K X W a ga) : FE K X W (.UnaryOp .Not a pos) (gNotV ga) :=
  PE.imp (pe_not ha) fun σ H Q ⟨F, ρ, M, E, Q', s, x, q, h⟩ => tG_mk s x (fun F1 H1 M1 d v e1 m1 r1 h1 => by
    obtain ⟨c, r1, h1⟩ := test_bl r1 h1
    exact ⟨c, r1, q F1 H1 M1 _ _ e1 m1 Rp.bl h1⟩) h
def gIf (t : DT) (ga gb : DE) : DE := fun E ρ M Q => t E ρ M fun c M1 => if c = true then ga E ρ M1 Q else gb E ρ M1 Q
theorem fe_if (hc : FT K X W c ta) (ha : FE K X W a ga) (hb : FE K X W b gb) : FE K X W (.IfExp c a b pos) (gIf ta ga gb) :=
  PE.imp (pe_ifExp hc ha hb) fun σ H Q ⟨F, ρ, M, E, Q', s, x, q, h⟩ => tGt_mk s x (fun F1 H1 M1 c e1 m1 h1 => by
    cases c with
    | true => rw [if_pos rfl] at h1 ⊢; exact tG_mk (s.next e1 m1) (x.next e1) (q.next e1) h1
    | false => rw [if_neg Bool.false_ne_true] at h1 ⊢; exact tG_mk (s.next e1 m1) (x.next e1) (q.next e1) h1) h
/-- a op1 b op2 c -/
def gChain (r r' : DR2) (ga gb gc : DE) : DE := fun E ρ M Q => ga E ρ M fun x M1 => gb E ρ M1 fun y M2 => r x y M2 fun z M3 => onB (fun k M3 => if k = true then gc E ρ M3 fun w M4 => r' y w M4 Q else Q (.bl false) M3) M3 z
theorem chain_im {r r' : DR2} : ∀ σ H Q, tG K W (gChain r r' ga gb gc) σ H Q → tChain (rG K r) (rG K r') (tG K W ga) (tG K W gb) (tG K W gc) σ H Q := fun σ H Q ⟨F, ρ, M, E, Q', s, x, q, h⟩ =>
  tG_mk s x (fun F1 H1 M1 d v e1 m1 r1 h1 => tG_mk (s.next e1 m1) (x.next e1) (fun F2 H2 M2 d2 v2 e2 m2 r2 h2 => ⟨F2, M2, d, d2, _, m2, Rp.mono e2 _ _ r1, r2, fun F3 H3 M3 d3 v3 e3 m3 r3 h3 => by
    have e13 := (e1.trans e2).trans e3
    obtain ⟨k, r3, h3⟩ := test_bl r3 h3
    refine ⟨k, r3, ?_⟩
    cases k with
    | true => rw [if_pos rfl] at h3 ⊢; exact tG_mk (s.next e13 m3) (x.next e13) (fun F4 H4 M4 d4 v4 e4 m4 r4 h4 => (⟨F4, M4, d2, d4, Q', m4, Rp.mono (e3.trans e4) _ _ r2, r4, q.next (e13.trans e4), h4⟩ : rG K r' v2 v4 H4 Q)) h3
    | false => rw [if_neg Bool.false_ne_true] at h3 ⊢; exact q F3 H3 M3 _ _ e13 m3 Rp.bl h3, h2⟩) h1) h
theorem fe_chain {op op' : CmpOp} {r r' : DR2} (ho : OpD K X (compareOp op) r) (ho' : OpD K X (compareOp op') r') (ha : FE K X W a ga) (hb : FE K X W b gb) (hc : FE K X W c gc)
    (hm : lastMarks [op, op'] [b, c] = false := by with_unfolding_all rfl) : FE K X W (.Compare a [op, op'] [b, c] pos) (gChain r r' ga gb gc) := PE.imp (pe_chain ho ho' ha hb hc hm) chain_im
theorem ft_chain {op op' : CmpOp} {r r' : DR2} (ho : OpD K X (compareOp op) r) (ho' : OpD K X (compareOp op') r') (ha : FE K X W a ga) (hb : FE K X W b gb) (hc : FE K X W c gc)
    (hm : lastMarks [op, op'] [b, c] = false := by with_unfolding_all rfl) : FT K X W (.Compare a [op, op'] [b, c] pos) (gTest (gChain r r' ga gb gc)) :=
  PT.imp (pt_chain ho ho' ha hb hc hm) fun σ H Q ⟨F, ρ, M, E, Q', s, x, q, h⟩ => chain_im σ H _ (tG_mk s x (fun F1 H1 M1 d v e1 m1 r1 h1 => by
    obtain ⟨b, e, h2⟩ := test_bl r1 h1
    exact ⟨b, e, q F1 H1 M1 b e1 m1 h2⟩) h)
end
end DL

/-! DL3: statements, targets, loops, comprehensions, deep. -/
namespace DL
open PySem PySem.Spec L2

section
variable {K : PySem.W.Frag} {X : Cx} {W : WX} {F : Addr → Prop} {H : Hp} {ρ : Dv} {M : Mem} {σ : L2.St} {E : DXK} {ga gb gc : DE} {a b c e : Expr} {pos : Pos} {s1 st : Stmt} {rest : List Stmt} {t u : DS}

theorem tGs_mk {g : DS} {E' : DEnds} {D : Ends} (s : Sta K F H ρ M σ) (x : EOk K F H M E' D W) (h : g E' ρ M) : tGs K W g D σ H := ⟨F, ρ, M, E', s, x, h⟩

/-! ### blocks -/
def sNext : DS := fun E ρ M => E.nx ρ M
def sSeq (t u : DS) : DS := fun E ρ M => t { E with nx := u E } ρ M
theorem EOk.withNx {E' : DEnds} {D : Ends} {Q' : Dv → Mem → Prop} {Q : L2.St → Hp → Prop} (x : EOk K F H M E' D W) (q : SOk K F H M Q' Q) : EOk K F H M { E' with nx := Q' } { D with nx := Q } W := ⟨q, x.rt, x.bk, x.ct, x.ex⟩
theorem fss_nil : FSs K X W [] sNext := PSs.imp pss_nil fun D σ H ⟨F, ρ, M, E', s, x, h⟩ => x.nx F H ρ M σ (Ext.refl _ _ _) s h
theorem fss_cons (h1 : FS K X W st t) (h2 : FSs K X W rest u) : FSs K X W (st :: rest) (sSeq t u) :=
  PSs.imp (pss_cons h1 h2) fun D σ H ⟨F, ρ, M, E', s, x, h⟩ => tGs_mk s (x.withNx fun F' H' ρ' M' σ' e s' h' => tGs_mk s' (x.next e) h') h
theorem fss_one (h1 : FS K X W st t) : FSs K X W [st] t := pss_one h1
/-- behind st only Mid is known -/
def sCut (t u : DS) : DS := fun E ρ M => ∃ Mid : Dv → Mem → Prop, t { E with nx := Mid } ρ M ∧ ∀ ρ' M', Mid ρ' M' → u E ρ' M'
theorem fss_cut (h1 : FS K X W st t) (h2 : FSs K X W rest u) : FSs K X W (st :: rest) (sCut t u) :=
  PSs.imp (pss_cons h1 h2) fun D σ H ⟨F, ρ, M, E', s, x, Mid, h, k⟩ => tGs_mk s (x.withNx fun F' H' ρ' M' σ' e s' h' => tGs_mk s' (x.next e) (k _ _ h')) h

/-! ### freezing -/
mutual
inductive Fz (M : Mem) (S : Addr → Prop) : D → D → Prop
  | refl (d : D) : Fz M S d d
  | ref {a : Addr} {ds ds' : List D} : S a → M a = some (.lst ds) → Fzs M S ds ds' → Fz M S (.ref a) (.lst ds')
  | tup {ds ds' : List D} : Fzs M S ds ds' → Fz M S (.tup ds) (.tup ds')
  | lst {ds ds' : List D} : Fzs M S ds ds' → Fz M S (.lst ds) (.lst ds')
inductive Fzs (M : Mem) (S : Addr → Prop) : List D → List D → Prop
  | refl (ds : List D) : Fzs M S ds ds
  | cons {d d' : D} {ds ds' : List D} : Fz M S d d' → Fzs M S ds ds' → Fzs M S (d :: ds) (d' :: ds')
end
theorem Ext.or {S : Addr → Prop} {M' : Mem} (h : ∀ a, M' a ≠ none → M a ≠ none) (hS : ∀ a, S a → M a ≠ none) : Ext F H M (fun a => F a ∨ S a) H M' := Ext.grow (fun _ z => .inl z) (fun a z => .inl (h a z)) fun a z => z.imp (fun z => z) fun z => .inl (hS a z)
theorem Ext.orS {S : Addr → Prop} : ExtW F H (fun a => F a ∨ S a) H := ExtW.grow fun _ z => .inl z
mutual
theorem Fz.rp {S : Addr → Prop} (m : MemOk K F H M) : ∀ {d d' : D} {v : V}, Fz M S d d' → Rp K F H d v → Rp K (fun a => F a ∨ S a) H d' v
  | _, _, v, .refl d, r => Rp.mono Ext.orS _ _ r
  | _, _, v, .ref (a := a) hS hM f, r => by
    obtain ⟨vs, h1, h2⟩ := (m.at_ a _ hM).2
    unfold Rp at r ⊢
    exact ⟨a, vs, r, h1, .inr hS, Fzs.rp m f h2⟩
  | _, _, v, .tup f, r => by
    unfold Rp at r ⊢
    obtain ⟨a, vs, e, q, rr⟩ := r
    exact ⟨a, vs, e, q, Fzs.rp m f rr⟩
  | _, _, v, .lst f, r => by
    unfold Rp at r ⊢
    obtain ⟨a, vs, e, q, fa, rr⟩ := r
    exact ⟨a, vs, e, q, .inl fa, Fzs.rp m f rr⟩
theorem Fzs.rp {S : Addr → Prop} (m : MemOk K F H M) : ∀ {ds ds' : List D} {vs : List V}, Fzs M S ds ds' → Rps K F H ds vs → Rps K (fun a => F a ∨ S a) H ds' vs
  | _, _, v, .refl d, r => Rps.mono Ext.orS _ _ r
  | _, _, vs, .cons f g, r => by
    unfold Rps at r ⊢
    obtain ⟨v, w, e, h1, h2⟩ := r
    exact ⟨v, w, e, Fz.rp m f h1, Fzs.rp m g h2⟩
end
/-- the lists at S are frozen, the store told is M' -/
def MemFz (M M' : Mem) (S : Addr → Prop) : Prop := (∀ a, S a → M a ≠ none) ∧ ∀ a o, M' a = some o → ¬ S a ∧ M a = some o
theorem MemFz.dom {M' : Mem} {S : Addr → Prop} (z : MemFz M M' S) : ∀ a, M' a ≠ none → M a ≠ none := fun a h n => by
  cases q : M' a with
  | none => exact h q
  | some o => rw [(z.2 a o q).2] at n; cases n
theorem MemFz.ok {M' : Mem} {S : Addr → Prop} (z : MemFz M M' S) (m : MemOk K F H M) : MemOk K (fun a => F a ∨ S a) H M' := by
  refine ⟨fun a f => f.elim (m.fok a) fun s => ?_, fun a o e => ?_⟩
  · cases q : M a with
    | none => exact absurd q (z.1 a s)
    | some o =>
      obtain ⟨u, h⟩ := (m.at_ a o q).2.some
      rw [h]
      exact fun y => nomatch y
  · obtain ⟨n, e'⟩ := z.2 a o e
    obtain ⟨n2, q⟩ := m.at_ a o e'
    exact ⟨fun f => f.elim n2 n, q.stay Ext.orS fun _ y => y⟩

/-! ### simple statements -/
def sDrop (g : DE) : DS := fun E ρ M => g (fun x M => E.ex x ρ M) ρ M fun _ M1 => E.nx ρ M1
theorem fs_expr (he : FE K X W e ga) (hs : swapsWith e none pos.line X.env = pure false := by rfl) : FS K X W (.Expr e pos) (sDrop ga) :=
  PS.imp (ps_expr he hs) fun D σ H ⟨F, ρ, M, E', s, x, h⟩ => tG_mk s (x.ex.at_ s) (fun F1 H1 M1 d v e1 m1 r1 h1 => x.nx F1 H1 ρ M1 σ e1 (s.next e1 m1) h1) h
def sRet (g : DE) : DS := fun E ρ M => g (fun x M => E.ex x ρ M) ρ M E.rt
theorem fs_ret (he : FE K X W e ga) : FS K X W (.Return (some e) pos) (sRet ga) :=
  PS.imp (ps_ret he) fun D σ H ⟨F, ρ, M, E', s, x, h⟩ => tG_mk s (x.ex.at_ s) x.rt h
/-- return e, some lists of the store frozen -/
def sRetF (g : DE) : DS := fun E ρ M => g (fun x M => E.ex x ρ M) ρ M fun d M1 => ∃ d' M2 S, Fz M1 S d d' ∧ MemFz M1 M2 S ∧ E.rt d' M2
theorem fs_retF (he : FE K X W e ga) : FS K X W (.Return (some e) pos) (sRetF ga) :=
  PS.imp (ps_ret he) fun D σ H ⟨F, ρ, M, E', s, x, h⟩ => tG_mk s (x.ex.at_ s) (fun F1 H1 M1 d v e1 m1 r1 ⟨d', M2, S, f, z, h1⟩ => x.rt _ H1 M2 d' v (e1.trans (Ext.or z.dom z.1)) (z.ok m1) (f.rp m1 r1) h1) h
def sRetN : DS := fun E _ M => E.rt .non M
theorem fs_retN : FS K X W (.Return none pos) sRetN := PS.imp ps_retN fun D σ H ⟨F, ρ, M, E', s, x, h⟩ => x.rt F H M .non .non (Ext.refl _ _ _) s.mem Rp.non h
def sIf (c : DT) (t u : DS) : DS := fun E ρ M => c (fun x M => E.ex x ρ M) ρ M fun k M1 => if k = true then t E ρ M1 else u E ρ M1
theorem fs_if {c : Expr} {gc : DT} {p q : List Stmt} (hc : FT K X W c gc) (ha : FSs K X W p t) (hb : FSs K X W q u) : FS K X W (.If c p q pos) (sIf gc t u) :=
  PS.imp (ps_if hc ha hb) fun D σ H ⟨F, ρ, M, E', s, x, h⟩ => tGt_mk s (x.ex.at_ s) (fun F1 H1 M1 k e1 m1 h1 => by
    cases k with
    | true => rw [if_pos rfl] at h1 ⊢; exact tGs_mk (s.next e1 m1) (x.next e1) h1
    | false => rw [if_neg Bool.false_ne_true] at h1 ⊢; exact tGs_mk (s.next e1 m1) (x.next e1) h1) h
theorem fs_pass : FS K X W (.Pass pos) sNext := PS.imp ps_pass fun D σ H ⟨F, ρ, M, E', s, x, h⟩ => x.nx F H ρ M σ (Ext.refl _ _ _) s h
def sBreak : DS := fun E ρ M => E.bk ρ M
def sCont : DS := fun E ρ M => E.ct ρ M
theorem fs_break : FS K X W (.Break pos) sBreak := PS.imp ps_break fun D σ H ⟨F, ρ, M, E', s, x, h⟩ => x.bk F H ρ M σ (Ext.refl _ _ _) s h
theorem fs_continue : FS K X W (.Continue pos) sCont := PS.imp ps_continue fun D σ H ⟨F, ρ, M, E', s, x, h⟩ => x.ct F H ρ M σ (Ext.refl _ _ _) s h

/-! ### targets -/
def Chg (vs : List Nat) (σ σ' : L2.St) : Prop := σ'.length = σ.length ∧ ∀ j, j ∉ vs → σ'[j]? = σ[j]?
theorem Chg.refl (vs : List Nat) (σ : L2.St) : Chg vs σ σ := ⟨rfl, fun _ _ => rfl⟩
theorem Chg.trans {vs : List Nat} {σ σ1 σ2 : L2.St} (a : Chg vs σ σ1) (b : Chg vs σ1 σ2) : Chg vs σ σ2 := ⟨b.1.trans a.1, fun j h => (b.2 j h).trans (a.2 j h)⟩
theorem Chg.set {vs : List Nat} {σ : L2.St} {i : Nat} {v : Option V} (h : i ∈ vs) : Chg vs σ (σ.set i v) := ⟨List.length_set, fun j hj => by rw [List.getElem?_set_ne (show i ≠ j from fun z => hj (by rw [← z]; exact h))]⟩
theorem wipe_get {σ : L2.St} {j : Nat} : ∀ {vs : List Nat}, j ∈ vs → j < σ.length → (wipe σ vs)[j]? = some none
  | v :: vs, h, hl => by
    unfold wipe
    by_cases z : v = j
    · subst z
      rw [List.getElem?_set_self (by rw [wipe_length]; exact hl)]
    · rw [List.getElem?_set_ne z]
      exact wipe_get ((List.mem_cons.mp h).resolve_left fun q => z q.symm) hl
theorem wipe_not {σ : L2.St} {j : Nat} : ∀ {vs : List Nat}, j ∉ vs → (wipe σ vs)[j]? = σ[j]?
  | [], h => rfl
  | v :: vs, h => by
    unfold wipe
    rw [List.getElem?_set_ne (fun q => h (by simp [q])), wipe_not fun q => h (List.mem_cons_of_mem _ q)]
theorem Chg.wipe {vs ws : List Nat} {σ σ' : L2.St} (c : Chg vs σ σ') (hs : ∀ i ∈ vs, i ∈ ws) : L2.wipe σ' ws = L2.wipe σ ws := by
  apply List.ext_getElem?
  intro j
  by_cases hj : j ∈ ws
  · by_cases hl : j < σ.length
    · rw [wipe_get hj hl, wipe_get hj (by rw [c.1]; exact hl)]
    · rw [List.getElem?_eq_none (by rw [wipe_length, c.1]; omega), List.getElem?_eq_none (by rw [wipe_length]; omega)]
  · rw [wipe_not hj, wipe_not hj]
    exact c.2 j fun q => hj (hs j q)
theorem wipe_wipe {σ : L2.St} {ws : List Nat} : L2.wipe (L2.wipe σ ws) ws = L2.wipe σ ws := by
  apply List.ext_getElem?
  intro j
  by_cases hj : j ∈ ws
  · by_cases hl : j < σ.length
    · rw [wipe_get hj hl, wipe_get hj (by rw [wipe_length]; exact hl)]
    · rw [List.getElem?_eq_none (by rw [wipe_length, wipe_length]; omega), List.getElem?_eq_none (by rw [wipe_length]; omega)]
  · rw [wipe_not hj]
abbrev DG := D → Dv → Mem → (Dv → Mem → Prop) → Prop
abbrev DGs := List D → Dv → Mem → (Dv → Mem → Prop) → Prop
def gG (K : PySem.W.Frag) (vs : List Nat) (dg : DG) : TG := fun v σ H Q => ∃ F ρ M d Q', Sta K F H ρ M σ ∧ Rp K F H d v ∧ (∀ F' H' ρ' M' σ', Ext F H M F' H' M' → Sta K F' H' ρ' M' σ' → Chg vs σ σ' → Q' ρ' M' → Q σ' H') ∧ dg d ρ M Q'
def gGs (K : PySem.W.Frag) (vs : List Nat) (dg : DGs) : TGs := fun xs σ H Q => ∃ F ρ M ds Q', Sta K F H ρ M σ ∧ Rps K F H ds xs ∧ (∀ F' H' ρ' M' σ', Ext F H M F' H' M' → Sta K F' H' ρ' M' σ' → Chg vs σ σ' → Q' ρ' M' → Q σ' H') ∧ dg ds ρ M Q'
def FG (K : PySem.W.Frag) (X : Cx) (tg : Expr) (vs : List Nat) (dg : DG) : Prop := PG X tg (gG K vs dg)
def FGs (K : PySem.W.Frag) (X : Cx) (ts : List Expr) (vs : List Nat) (dg : DGs) : Prop := PGs X ts (gGs K vs dg)
theorem PG.imp {tg : Expr} {t t' : TG} (h : PG X tg t) (i : ∀ v σ H Q, t' v σ H Q → t v σ H Q) : PG X tg t' := ⟨fun pins s σ H x u Q I r q => h.run pins s σ H x u Q I r (i x σ H Q q)⟩
theorem PGs.imp {ts : List Expr} {t t' : TGs} (h : PGs X ts t) (i : ∀ v σ H Q, t' v σ H Q → t v σ H Q) : PGs X ts t' := ⟨fun pins s σ H x u Q I r q => h.run pins s σ H x u Q I r (i x σ H Q q)⟩
def dName (i : Nat) : DG := fun d ρ M Q => Q (ρ.set i (some d)) M
theorem fg_name {vs : List Nat} (i : Nat) {x : Str} (hN : X.N.Nodup) (hi : X.N[i]? = some x := by rfl) (hx : Loc X.env.scope x := by first | exact Or.inl rfl | exact Or.inr rfl) (hv : i ∈ vs := by decide)
    (hf : X.fn x = true ∨ X.env.scope.names.lookup x = some .local := by first | exact .inl rfl | exact .inr rfl | assumption) : FG K X (.Name x pos) vs (dName i) :=
  PG.imp (pg_name hN hi hx hf) fun v σ H Q ⟨F, ρ, M, d, Q', s, r, q, h⟩ => q F H _ M _ (Ext.refl _ _ _) (s.set i r) (Chg.set hv) h
def dNil : DGs := fun ds ρ M Q => ds = [] ∧ Q ρ M
def dCons (g : DG) (gs : DGs) : DGs
  | [], _, _, _ => False
  | d :: ds, ρ, M, Q => g d ρ M fun ρ' M' => gs ds ρ' M' Q
theorem fgs_nil {vs : List Nat} : FGs K X [] vs dNil := PGs.imp pgs_nil fun v σ H Q ⟨F, ρ, M, ds, Q', s, r, q, e, h⟩ => by
  subst e
  unfold Rps at r
  exact ⟨r, q F H ρ M σ (Ext.refl _ _ _) s (Chg.refl _ _) h⟩
theorem fgs_cons {vs : List Nat} {es : List Expr} {g : DG} {gs : DGs} (h1 : FG K X e vs g) (h2 : FGs K X es vs gs)
    (hs : (assignEach (e :: es) X.env).map (·.2) = assign e X.env :: (assignEach es X.env).map (·.2) := by rfl) : FGs K X (e :: es) vs (dCons g gs) := PGs.imp (pgs_cons h1 h2 hs) fun xs σ H Q ⟨F, ρ, M, ds, Q', s, r, q, h⟩ => by
  cases ds with
  | nil => exact h.elim
  | cons d ds =>
    unfold Rps at r
    obtain ⟨v, w, e, r1, r2⟩ := r
    exact ⟨v, w, e, F, ρ, M, d, _, s, r1, fun F1 H1 ρ1 M1 σ1 e1 s1 c1 h1 => (⟨F1, ρ1, M1, ds, Q', s1, Rps.mono e1 _ _ r2, fun F2 H2 ρ2 M2 σ2 e2 s2 c2 h2 => q F2 H2 ρ2 M2 σ2 (e1.trans e2) s2 (c1.trans c2) h2, h1⟩ : gGs K vs gs w σ1 H1 Q), h⟩
def dTup (n : Nat) (gs : DGs) : DG
  | .tup ds, ρ, M, Q => ds.length = n ∧ gs ds ρ M Q
  | _, _, _, _ => False
theorem fg_tup {vs : List Nat} {es : List Expr} {k : Nat} {gs : DGs} {n : Nat} (hc : X.calm = true) (hK : X.K = K) (h : FGs K X es vs gs) (hn : (assignEach es X.env).length = n := by rfl) (hst : (assignEach es X.env).findIdx? (·.1) = none := by rfl) : FG K X (.Tuple es k pos) vs (dTup n gs) := by
  subst hK
  refine PG.imp (pg_tup (n := n) hc h hn hst) fun v σ H Q ⟨F, ρ, M, d, Q', s, r, q, h⟩ => ?_
  cases d with
  | tup ds =>
    unfold Rp at r
    obtain ⟨a, vs', e, q1, r1⟩ := r
    exact ⟨a, vs', e, q1.sq, r1.length.trans h.1, F, ρ, M, ds, Q', s, r1, q, h.2⟩
  | _ => exact h.elim

/-! ### assignments -/
def sAsg (g : DE) (dg : DG) : DS := fun E ρ M => g (fun x M => E.ex x ρ M) ρ M fun d M1 => dg d ρ M1 E.nx
def sSet (i : Nat) (g : DE) : DS := fun E ρ M => g (fun x M => E.ex x ρ M) ρ M fun d M1 => E.nx (ρ.set i (some d)) M1
theorem asg_im {vs : List Nat} {dg : DG} : ∀ D σ H, tGs K W (sAsg ga dg) D σ H → tAsg (tG K W ga) (gG K vs dg) D σ H := fun D σ H ⟨F, ρ, M, E', s, x, h⟩ =>
  tG_mk s (x.ex.at_ s) (fun F1 H1 M1 d v e1 m1 r1 h1 => (⟨F1, ρ, M1, d, _, s.next e1 m1, r1, fun F2 H2 ρ2 M2 σ2 e2 s2 _ h2 => x.nx F2 H2 ρ2 M2 σ2 (e1.trans e2) s2 h2, h1⟩ : gG K vs dg v σ H1 D.nx)) h
theorem fs_set (i : Nat) {x : Str} {pos' : Pos} (hN : X.N.Nodup) (he : FE K X W e ga) (hi : X.N[i]? = some x := by rfl) (hx : Loc X.env.scope x := by first | exact Or.inl rfl | exact Or.inr rfl) (hs : swapsWith e (some (.Name x pos')) pos.line X.env = pure false := by rfl)
    (hf : X.fn x = true ∨ X.env.scope.names.lookup x = some .local := by first | exact .inl rfl | exact .inr rfl) : FS K X W (.Assign [.Name x pos'] e pos) (sSet i ga) :=
  PS.imp (ps_set hN hi hx he hs hf) fun D σ H ⟨F, ρ, M, E', s, x, h⟩ => tG_mk s (x.ex.at_ s) (fun F1 H1 M1 d v e1 m1 r1 h1 => x.nx F1 H1 _ M1 _ e1 ((s.next e1 m1).set i r1) h1) h
theorem fs_asg {tg : Expr} {vs : List Nat} {dg : DG} (he : FE K X W e ga) (hg : FG K X tg vs dg) (hs : swapsWithSole [tg] e pos.line X.env = pure false := by rfl) (hw : swappedStores [tg] e X.env = pure none := by rfl) (h1 : (assignEach [tg] X.env).map (·.2) = [assign tg X.env] := by rfl) : FS K X W (.Assign [tg] e pos) (sAsg ga dg) :=
  PS.imp (ps_asg he hg hs hw (by first | exact h1 | assumption)) asg_im
def sPar (i j : Nat) (g : DA) : DS := fun E ρ M => g (fun x M => E.ex x ρ M) ρ M fun ds M1 => match ds with
  | [d, e] => E.nx ((ρ.set i (some d)).set j (some e)) M1
  | _ => False
theorem fs_par (i j : Nat) {x y : Str} {px py pt : Pos} {kt k2 pt2} {g : DA} (hN : X.N.Nodup) (ha : FA K X W [a, b] g) (hc : X.calm = true := by rfl) (hi : X.N[i]? = some x := by rfl) (hj : X.N[j]? = some y := by rfl) (hij : i ≠ j := by decide)
    (hx : X.env.scope.names.lookup x = some .local := by rfl) (hy : X.env.scope.names.lookup y = some .local := by rfl)
    (hw : swappedStores [.Tuple [.Name x px, .Name y py] kt pt] (.Tuple [a, b] k2 pt2) X.env = pure (some [x, y]) := by rfl) : FS K X W (.Assign [.Tuple [.Name x px, .Name y py] kt pt] (.Tuple [a, b] k2 pt2) pos) (sPar i j g) :=
  PS.imp (ps_par hc hN hi hj hij hx hy ha hw) fun D σ H ⟨F, ρ, M, E', s, x, h⟩ => (⟨F, ρ, M, _, _, s, x.ex.at_ s, fun F1 H1 M1 ds vs e1 m1 r1 h1 => by
    match ds, h1 with
    | [d, e], h1 =>
      unfold Rps Rps at r1
      obtain ⟨v, w, rfl, q1, u, w', rfl, q2, q3⟩ := r1
      unfold Rps at q3
      subst q3
      exact ⟨v, u, rfl, x.nx F1 H1 _ M1 _ e1 (((s.next e1 m1).set i q1).set j q2) h1⟩, h⟩ : tGa K W g σ H _)

/-! ### what a for walks -/
structure Src where
  items : List D
  ok : Mem → Prop
/-- the iterator J gives the items, as long as the store is ok -/
def SrcOk (K : PySem.W.Frag) (F : Addr → Prop) (H : Hp) (J : It) (src : Src) : Prop := ∀ F' H' M', ExtW F H F' H' → MemOk K F' H' M' → src.ok M' → ∀ i : Nat,
  (∀ d, src.items[i]? = some d → J.go i H' ∧ ∀ x H2, J.yld i H' x H2 → ∃ F2, Ext F' H' M' F2 H2 M' ∧ MemOk K F2 H2 M' ∧ Rp K F2 H2 d x) ∧ (src.items.length ≤ i → J.stop i H')
abbrev DI := DXK → Dv → Mem → (Src → Mem → Prop) → Prop
def tGi (K : PySem.W.Frag) (W : WX) (gi : DI) : TI := fun σ H R => ∃ F ρ M E R', Sta K F H ρ M σ ∧ XOk K F H M E W σ ∧ (∀ F' H' M' J src, Ext F H M F' H' M' → MemOk K F' H' M' → SrcOk K F' H' J src → R' src M' → R J H') ∧ gi E ρ M R'
def FI (K : PySem.W.Frag) (X : Cx) (W : WX) (tg iter : Expr) (gi : DI) : Prop := PI X tg iter (tGi K W gi)
theorem PI.imp {tg iter : Expr} {t t' : TI} (h : PI X tg iter t) (i : ∀ σ H R, t' σ H R → t σ H R) : PI X tg iter t' := ⟨fun pins s σ H R I q => h.run pins s σ H R I (i σ H R q)⟩
/-- the items of what is a sequence -/
def srcOf (M : Mem) : D → Option Src
  | .lst ds => some ⟨ds, fun _ => True⟩
  | .tup ds => some ⟨ds, fun _ => True⟩
  | .scr ns => some ⟨ns.map D.int, fun _ => True⟩
  | .ref a => match M a with
    | some (.lst ds) => some ⟨ds, fun M' => M' a = some (.lst ds)⟩
    | _ => none
  | _ => none
def onSrc (M : Mem) (d : D) (R : Src → Mem → Prop) : Prop := match srcOf M d with
  | some s => R s M
  | none => False
/-! lists -/
theorem src_list {a0 : Addr} {items : List D} {ok : Mem → Prop} (h : ∀ F' H' M', ExtW F H F' H' → MemOk K F' H' M' → ok M' → ∃ vs, SqL K H' a0 vs ∧ Rps K F' H' items vs) : SrcOk K F H (Itl K a0) ⟨items, ok⟩ := fun F' H' M' e m o i => by
  obtain ⟨vs, q, r⟩ := h F' H' M' e m o
  refine ⟨fun d hd => ?_, fun hl => ⟨vs, q, by rw [r.length]; exact hl⟩⟩
  obtain ⟨v, hv, rv⟩ := r.get hd
  refine ⟨⟨vs, v, q, hv⟩, fun x H2 y => ?_⟩
  obtain ⟨rfl, y⟩ := y
  have z := y vs q
  rw [hv] at z
  cases z
  exact ⟨F', Ext.refl _ _ _, m, rv⟩
theorem src_tup {a0 : Addr} {items : List D} {ok : Mem → Prop} (h : ∀ F' H' M', ExtW F H F' H' → MemOk K F' H' M' → ok M' → ∃ vs, SqT K H' a0 vs ∧ Rps K F' H' items vs) : SrcOk K F H (Itt K a0) ⟨items, ok⟩ := fun F' H' M' e m o i => by
  obtain ⟨vs, q, r⟩ := h F' H' M' e m o
  refine ⟨fun d hd => ?_, fun hl => ⟨vs, q, by rw [r.length]; exact hl⟩⟩
  obtain ⟨v, hv, rv⟩ := r.get hd
  refine ⟨⟨vs, v, q, hv⟩, fun x H2 y => ?_⟩
  obtain ⟨rfl, y⟩ := y
  have z := y vs q
  rw [hv] at z
  cases z
  exact ⟨F', Ext.refl _ _ _, m, rv⟩
/-- what the heap has of a deep sequence: a list or a tuple, now and later -/
inductive SeqK | l | t
def SeqAt (K : PySem.W.Frag) (F : Addr → Prop) (H : Hp) (k : SeqK) (a : Addr) (src : Src) : Prop := ∀ F' H' M', ExtW F H F' H' → MemOk K F' H' M' → src.ok M' → ∃ vs, (match k with | .l => SqL K H' a vs | .t => TupAt K H' a vs) ∧ Rps K F' H' src.items vs
theorem src_at {d : D} {v : V} {src : Src} (m : MemOk K F H M) (r : Rp K F H d v) (h : srcOf M d = some src) : src.ok M ∧ ∃ k a, v = .ref a ∧ SeqAt K F H k a src := by
  cases d with
  | lst ds =>
    cases h
    unfold Rp at r
    obtain ⟨a, vs, e, q, f, rr⟩ := r
    exact ⟨True.intro, .l, a, e, fun F' H' M' x _ _ => ⟨vs, SqL.of (x.fro _ _ f q), Rps.mono x _ _ rr⟩⟩
  | tup ds =>
    cases h
    unfold Rp at r
    obtain ⟨a, vs, e, q, rr⟩ := r
    exact ⟨True.intro, .t, a, e, fun F' H' M' x _ _ => ⟨vs, x.tupAt q, Rps.mono x _ _ rr⟩⟩
  | scr ns =>
    cases h
    unfold Rp at r
    obtain ⟨a, e, q⟩ := r
    refine ⟨True.intro, .l, a, e, fun F' H' M' x _ _ => ⟨ns.map V.int, ?_, Rps.map_of (fun _ => Rp.int) ns⟩⟩
    rcases q with ⟨o, q⟩ | q
    · exact .inl (.inr ⟨o, x.frz _ _ _ q⟩)
    · exact q H'
  | ref a =>
    have h' : (match M a with | some (.lst ds) => some (⟨ds, fun M' => M' a = some (.lst ds)⟩ : Src) | _ => none) = some src := h
    cases q : M a with
    | none => rw [q] at h'; cases h'
    | some o =>
      rw [q] at h'
      cases o with
      | ins C fs => cases h'
      | lst ds =>
        cases h'
        unfold Rp at r
        exact ⟨q, .l, a, r, fun F' H' M' x m' e' => by
          obtain ⟨vs, h1, h2⟩ := (m'.at_ a _ e').2
          exact ⟨vs, SqL.of h1, h2⟩⟩
  | _ => cases h
/-- the items of a range -/
def rgD (lo : Int) (n : Nat) : List D := (List.range n).map fun i => D.int (lo + (i : Nat))
theorem src_range {lo : Int} {n : Nat} : SrcOk K F H (Itr lo n) ⟨rgD lo n, fun _ => True⟩ := fun F' H' M' e m o i => by
  refine ⟨fun d hd => ?_, fun hl => (by have z : (rgD lo n).length ≤ i := hl; rw [rgD, List.length_map, List.length_range] at z; exact z)⟩
  have hi : i < n := by
    have := (List.getElem?_eq_some_iff.mp hd).1
    simpa [rgD] using this
  refine ⟨hi, fun x H2 y => ?_⟩
  obtain ⟨rfl, rfl⟩ := y
  have z : (rgD lo n)[i]? = some (.int (lo + (i : Nat))) := by simp [rgD, hi]
  have hd' : (rgD lo n)[i]? = some d := hd
  rw [z] at hd'
  cases hd'
  exact ⟨F', Ext.refl _ _ _, m, Rp.int⟩
def iRange1 (g : DA) : DI := fun E ρ M R => g E ρ M fun ds M1 => match ds with
  | [.int j] => (-(2 ^ 62) ≤ j ∧ j < 2 ^ 62) ∧ R ⟨rgD 0 j.toNat, fun _ => True⟩ M1
  | _ => False
def iRange2 (g : DA) : DI := fun E ρ M R => g E ρ M fun ds M1 => match ds with
  | [.int i, .int j] => (-(2 ^ 62) ≤ i ∧ i < 2 ^ 62 ∧ -(2 ^ 62) ≤ j ∧ j < 2 ^ 62) ∧ R ⟨rgD i (j - i).toNat, fun _ => True⟩ M1
  | _ => False
theorem Rps.one {d : D} {vs : List V} (r : Rps K F H [d] vs) : ∃ v, vs = [v] ∧ Rp K F H d v := by
  unfold Rps at r
  obtain ⟨v, w, rfl, h1, h2⟩ := r
  unfold Rps at h2
  subst h2
  exact ⟨v, rfl, h1⟩
theorem Rps.two {d e : D} {vs : List V} (r : Rps K F H [d, e] vs) : ∃ v w, vs = [v, w] ∧ Rp K F H d v ∧ Rp K F H e w := by
  unfold Rps at r
  obtain ⟨v, w, rfl, h1, h2⟩ := r
  obtain ⟨u, rfl, h3⟩ := Rps.one h2
  exact ⟨v, u, rfl, h1, h3⟩
theorem fi_range1 {tg : Expr} {p : Pos} {g : DA} (hg : Gl X "range") (hm : X.mg "range" = none) (ha : FA K X W [a] g) (hs : starEach [a] X.env = [(false, eval a X.env)] := by rfl) : FI K X W tg (.Call (.Name "range" p) [a] [] pos) (iRange1 g) :=
  PI.imp (pi_range1 hg hm ha hs) fun σ H R ⟨F, ρ, M, E, R', s, x, q, h⟩ => (⟨F, ρ, M, E, _, s, x, fun F1 H1 M1 ds vs e1 m1 r1 h1 => by
    match ds, h1 with
    | [.int j], h1 =>
      obtain ⟨v, rfl, rv⟩ := r1.one
      unfold Rp at rv
      subst rv
      exact ⟨j, rfl, h1.1.1, h1.1.2, q F1 H1 M1 _ _ e1 m1 src_range h1.2⟩, h⟩ : tGa K W g σ H _)
theorem fi_range2 {tg : Expr} {p : Pos} {g : DA} (hg : Gl X "range") (hm : X.mg "range" = none) (ha : FA K X W [a, b] g) (hs : starEach [a, b] X.env = [(false, eval a X.env), (false, eval b X.env)] := by rfl) (hs2 : starEach [b] X.env = [(false, eval b X.env)] := by rfl) :
    FI K X W tg (.Call (.Name "range" p) [a, b] [] pos) (iRange2 g) :=
  PI.imp (pi_range2 hg hm ha hs hs2) fun σ H R ⟨F, ρ, M, E, R', s, x, q, h⟩ => (⟨F, ρ, M, E, _, s, x, fun F1 H1 M1 ds vs e1 m1 r1 h1 => by
    match ds, h1 with
    | [.int i, .int j], h1 =>
      obtain ⟨v, w, rfl, rv, rw'⟩ := r1.two
      unfold Rp at rv rw'
      subst rv rw'
      exact ⟨i, j, rfl, h1.1, q F1 H1 M1 _ _ e1 m1 src_range h1.2⟩, h⟩ : tGa K W g σ H _)

/-! ### for -/
def loopD (ok : Mem → Prop) (dg : DG) (gb : DS) (E : DEnds) : List D → Dv → Mem → Prop
  | [], ρ, M => ok M ∧ E.nx ρ M
  | d :: ds, ρ, M => ok M ∧ dg d ρ M fun ρ' M' => gb { E with nx := loopD ok dg gb E ds, ct := loopD ok dg gb E ds, bk := E.nx } ρ' M'
def sFor (gi : DI) (dg : DG) (gb : DS) : DS := fun E ρ M => gi (fun x M => E.ex x ρ M) ρ M fun src M1 => loopD src.ok dg gb E src.items ρ M1
theorem fs_for {tg iter : Expr} {body : List Stmt} {gi : DI} {vs : List Nat} {dg : DG} {gb : DS} (hp : PassesOwn (model X.prog X.w) X.A X.env X.xe) (hc : X.calm = true) (hi : FI K X W tg iter gi) (hg : FG K X tg vs dg) (hb : FSs K X W body gb)
    (hs : ∀ x, foldedSetIterable iter X.env x = pure x := by intro _; rfl) : FS K X W (.For tg iter body [] pos) (sFor gi dg gb) := by
  refine PS.imp (ps_for hp hc hi hg hb hs) fun D σ H ⟨F, ρ, M, E', s, x, h⟩ => (⟨F, ρ, M, _, _, s, x.ex.at_ s, fun F1 H1 M1 J src e1 m1 so h1 => ?_, h⟩ : tGi K W gi σ H _)
  refine ⟨fun i m σ2 H2 => ∃ F2 ρ2 M2, Ext F1 H1 M1 F2 H2 M2 ∧ Sta K F2 H2 ρ2 M2 σ2 ∧ i ≤ src.items.length ∧ m = src.items.length - i ∧ loopD src.ok dg gb E' (src.items.drop i) ρ2 M2, ⟨src.items.length, F1, ρ, M1, Ext.refl _ _ _, s.next e1 m1, Nat.zero_le _, rfl, h1⟩, ?_⟩
  rintro i m σ2 H2 ⟨F2, ρ2, M2, e2, s2, hl, rfl, h2⟩
  by_cases hlt : i < src.items.length
  · rw [List.drop_eq_getElem_cons hlt] at h2
    unfold loopD at h2
    obtain ⟨o, h2⟩ := h2
    obtain ⟨go, yl⟩ := (so F2 H2 M2 e2 s2.mem o i).1 src.items[i] (by simp [hlt])
    refine .inr ⟨go, fun σ3 H3 => ∃ F3 ρ3 M3, Ext F1 H1 M1 F3 H3 M3 ∧ Sta K F3 H3 ρ3 M3 σ3 ∧ loopD src.ok dg gb E' (src.items.drop (i + 1)) ρ3 M3, ?_, fun v H3 y => ?_⟩
    · rintro σ3 H3 ⟨F3, ρ3, M3, e3, s3, h3⟩
      exact ⟨src.items.length - (i + 1), by omega, F3, ρ3, M3, e3, s3, hlt, rfl, h3⟩
    · obtain ⟨F3, e3, m3, r3⟩ := yl v H3 y
      refine ⟨F3, ρ2, M2, _, _, s2.next e3 m3, r3, fun F4 H4 ρ4 M4 σ4 e4 s4 _ h4 => ?_, h2⟩
      have e14 := e2.trans (e3.trans e4)
      have x4 := x.next (e1.trans e14)
      refine tGs_mk (E' := { E' with nx := loopD src.ok dg gb E' (src.items.drop (i + 1)), ct := loopD src.ok dg gb E' (src.items.drop (i + 1)), bk := E'.nx }) s4 ⟨fun F5 H5 ρ5 M5 σ5 e5 s5 h5 => ⟨F5, ρ5, M5, e14.trans e5, s5, h5⟩, x4.rt, x4.nx, fun F5 H5 ρ5 M5 σ5 e5 s5 h5 => ⟨F5, ρ5, M5, e14.trans e5, s5, h5⟩, x4.ex⟩ h4
  · have z : i = src.items.length := by omega
    subst z
    rw [List.drop_length] at h2
    unfold loopD at h2
    exact .inl ⟨(so F2 H2 M2 e2 s2.mem h2.1 _).2 (Nat.le_refl _), x.nx F2 H2 ρ2 M2 σ2 (e1.trans e2) s2 h2.2⟩
/-- a loop by an invariant -/
theorem loop_inv {ok : Mem → Prop} {dg : DG} {gb : DS} {E : DEnds} (P : Nat → Dv → Mem → Prop) {items : List D} (hok : ∀ i ρ M, i ≤ items.length → P i ρ M → ok M)
    (hs : ∀ i ρ M d, items[i]? = some d → P i ρ M → dg d ρ M fun ρ' M' => ∀ Nx : Dv → Mem → Prop, (∀ ρ M, P (i + 1) ρ M → Nx ρ M) → gb { E with nx := Nx, ct := Nx, bk := E.nx } ρ' M')
    (mono : ∀ d ρ M (Q Q' : Dv → Mem → Prop), (∀ ρ M, Q ρ M → Q' ρ M) → dg d ρ M Q → dg d ρ M Q')
    (hd : ∀ ρ M, P items.length ρ M → E.nx ρ M) {ρ : Dv} {M : Mem} (h0 : P 0 ρ M) : loopD ok dg gb E items ρ M := by
  have key : ∀ k i ρ M, i + k = items.length → P i ρ M → loopD ok dg gb E (items.drop i) ρ M := by
    intro k
    induction k with
    | zero =>
      intro i ρ M e p
      have z : i = items.length := by omega
      subst z
      rw [List.drop_length]
      unfold loopD
      exact ⟨hok _ _ _ (Nat.le_refl _) p, hd _ _ p⟩
    | succ k ih =>
      intro i ρ M e p
      have hlt : i < items.length := by omega
      rw [List.drop_eq_getElem_cons hlt]
      unfold loopD
      refine ⟨hok _ _ _ (by omega) p, mono _ _ _ _ _ (fun ρ' M' q => q _ fun ρ2 M2 p2 => ih (i + 1) ρ2 M2 (by omega) p2) (hs i ρ M _ (by simp [hlt]) p)⟩
  have := key items.length 0 ρ M (by omega) h0
  simpa using this
theorem dName_mono {i : Nat} : ∀ d ρ M (Q Q' : Dv → Mem → Prop), (∀ ρ M, Q ρ M → Q' ρ M) → dName i d ρ M Q → dName i d ρ M Q' := fun _ _ _ _ _ k h => k _ _ h

/-! ### while -/
def sWhile (c : DT) (gb : DS) : DS := fun E ρ M => ∃ P : Nat → Dv → Mem → Prop, (∃ m, P m ρ M) ∧ ∀ m ρ M, P m ρ M → c (fun x M => E.ex x ρ M) ρ M fun k M1 =>
  if k = true then gb { E with nx := fun ρ' M' => ∃ m', m' < m ∧ P m' ρ' M', ct := fun ρ' M' => ∃ m', m' < m ∧ P m' ρ' M', bk := E.nx } ρ M1 else E.nx ρ M1
theorem fs_while {c : Expr} {body : List Stmt} {gc : DT} {gb : DS} (hp : PassesOwn (model X.prog X.w) X.A X.env X.xe) (hc : FT K X W c gc) (hb : FSs K X W body gb) : FS K X W (.While c body [] pos) (sWhile gc gb) := by
  refine PS.imp (ps_while hp hc hb) fun D σ H ⟨F, ρ, M, E', s, x, P, ⟨m0, p0⟩, h⟩ => ?_
  refine ⟨fun m σ2 H2 => ∃ F2 ρ2 M2, Ext F H M F2 H2 M2 ∧ Sta K F2 H2 ρ2 M2 σ2 ∧ P m ρ2 M2, ⟨m0, F, ρ, M, Ext.refl _ _ _, s, p0⟩, ?_⟩
  rintro m σ2 H2 ⟨F2, ρ2, M2, e2, s2, p2⟩
  refine tGt_mk s2 ((x.next e2).ex.at_ s2) (fun F3 H3 M3 k e3 m3 h3 => ?_) (h m ρ2 M2 p2)
  cases k with
  | true =>
    rw [if_pos rfl] at h3 ⊢
    have e23 := e2.trans e3
    have x4 := x.next e23
    refine ⟨fun σ4 H4 => ∃ m', m' < m ∧ ∃ F4 ρ4 M4, Ext F H M F4 H4 M4 ∧ Sta K F4 H4 ρ4 M4 σ4 ∧ P m' ρ4 M4, fun σ4 H4 q => q, tGs_mk (E' := { E' with nx := fun ρ' M' => ∃ m', m' < m ∧ P m' ρ' M', ct := fun ρ' M' => ∃ m', m' < m ∧ P m' ρ' M', bk := E'.nx }) (s2.next e3 m3) ⟨fun F5 H5 ρ5 M5 σ5 e5 s5 ⟨m', l, p⟩ => ⟨m', l, F5, ρ5, M5, e23.trans e5, s5, p⟩, x4.rt, x4.nx, fun F5 H5 ρ5 M5 σ5 e5 s5 ⟨m', l, p⟩ => ⟨m', l, F5, ρ5, M5, e23.trans e5, s5, p⟩, x4.ex⟩ h3⟩
  | false =>
    rw [if_neg Bool.false_ne_true] at h3 ⊢
    exact x.nx F3 H3 ρ2 M3 σ2 (e2.trans e3) (s2.next e3 m3) h3
end
end DL

/-! DL4: list comprehensions, deep. -/
namespace DL
open PySem PySem.Spec L2

abbrev W0 : WX := fun _ _ _ _ => False
abbrev E0 : DXK := fun _ _ => False
def wipeD (ρ : Dv) : List Nat → Dv
  | [] => ρ
  | v :: vs => (wipeD ρ vs).set v none
theorem wipeD_length (ρ : Dv) : ∀ vs : List Nat, (wipeD ρ vs).length = ρ.length
  | [] => rfl
  | v :: vs => by unfold wipeD; rw [List.length_set, wipeD_length ρ vs]
theorem wipeD_some {ρ : Dv} {i : Nat} {d : D} : ∀ {vs : List Nat}, (wipeD ρ vs)[i]? = some (some d) → i ∉ vs ∧ ρ[i]? = some (some d)
  | [], h => ⟨by simp, h⟩
  | v :: vs, h => by
    unfold wipeD at h
    by_cases z : v = i
    · subst z
      by_cases hl : v < (wipeD ρ vs).length
      · rw [List.getElem?_set_self hl] at h; cases h
      · rw [List.getElem?_eq_none (by simpa using hl)] at h; cases h
    · rw [List.getElem?_set_ne z] at h
      obtain ⟨h1, h2⟩ := wipeD_some h
      exact ⟨fun q => (List.mem_cons.mp q).elim (fun y => z y.symm) h1, h2⟩
section
variable {K : PySem.W.Frag} {X : Cx} {W : WX} {F : Addr → Prop} {H : Hp} {ρ : Dv} {M : Mem} {σ : L2.St}
theorem EnvOk.wipe (h : EnvOk K F H ρ σ) (vs : List Nat) : EnvOk K F H (wipeD ρ vs) (L2.wipe σ vs) := fun i d e => by
  obtain ⟨h1, h2⟩ := wipeD_some e
  obtain ⟨v, h3, h4⟩ := h i d h2
  exact ⟨v, by rw [wipe_not h1]; exact h3, h4⟩
theorem x0 : XOk K F H M E0 W0 σ := fun _ _ _ _ _ _ _ _ _ h => h

/-- a list at p that nobody knows of is changed -/
theorem ExtW.wr {p : Addr} {vs : List V} {o : HO} (hp : H p = some (.lst vs)) (nF : ¬ F p) : ExtW F H F (upd H p o) :=
  ExtW.write hp nF (fun _ z => nomatch z) (fun _ _ z => nomatch z) fun _ z => nomatch z
theorem Ext.side {F' : Addr → Prop} {H' : Hp} {M' : Mem} {p : Addr} {o : HO} (e : Ext F H M F' H' M') (hp : H p = none) : Ext F H M F' (upd H' p o) M' :=
  have ne : ∀ {a : Addr} {u : HO}, H a = some u → upd H' p o a = H' a := fun h => upd_ne (ne_of_none h hp)
  ⟨⟨e.mono, fun a u f h => by rw [ne h]; exact e.fro a u f h, fun a u h => by rw [ne h]; exact e.tup a u h, fun a u w h => by rw [ne h]; exact e.frz a u w h, fun a u h => by rw [ne h]; exact e.xd a u h⟩,
   fun a u h n => by rw [ne h]; exact e.frame a u h n, e.dom, e.new⟩
theorem MemOk.side {p : Addr} {vs : List V} {o : HO} (m : MemOk K F H M) (hp : H p = some (.lst vs)) (nF : ¬ F p) (nM : M p = none) : MemOk K F (upd H p o) M := by
  refine ⟨fun a f => ?_, fun a u e => ?_⟩
  · have z : a ≠ p := fun z => nF (by rw [← z]; exact f)
    rw [upd_ne z]
    exact m.fok a f
  · obtain ⟨n, q⟩ := m.at_ a u e
    have z : a ≠ p := fun z => by rw [z, nM] at e; cases e
    exact ⟨n, q.stay (ExtW.wr hp nF) fun w h => by rw [upd_ne z]; exact h⟩

/-- the tests of a clause -/
def FTs (K : PySem.W.Frag) (X : Cx) (W : WX) (ifs : List Expr) (g : DT) : Prop := PTs X ifs (tGt K W g)
theorem PTs.imp {X : Cx} {e : List Expr} {t t' : TT} (h : PTs X e t) (i : ∀ σ H Q, t' σ H Q → t σ H Q) : PTs X e t' := ⟨fun pins s σ H Q I q => h.run pins s σ H Q I (i σ H Q q)⟩
def gYes : DT := fun _ _ M Q => Q true M
theorem fts_nil : FTs K X W [] gYes := PTs.imp pts_nil fun σ H Q ⟨F, ρ, M, E, Q', s, x, q, h⟩ => q F H M true (Ext.refl _ _ _) s.mem h
theorem fts_one {c : Expr} {g : DT} (h : FT K X W c g) : FTs K X W [c] g := pts_one h

/-- what a comprehension's one clause does: acc is what has been made -/
def lcD (ok : Mem → Prop) (dg : DG) (tt : DT) (te : DE) (ρw : Dv) : List D → List D → Mem → (List D → Mem → Prop) → Prop
  | [], acc, M, Q => ok M ∧ Q acc M
  | d :: ds, acc, M, Q => ok M ∧ dg d ρw M fun ρ1 M1 => tt E0 ρ1 M1 fun b M2 =>
      if b = true then te E0 ρ1 M2 fun y M3 => acc.length < sizeLine ∧ lcD ok dg tt te ρw ds (acc ++ [y]) M3 Q else lcD ok dg tt te ρw ds acc M2 Q
def nLc (gi : DI) (dg : DG) (tt : DT) (te : DE) (vs : List Nat) : DN := fun E ρ M Q => gi E ρ M fun src M1 => lcD src.ok dg tt te (wipeD ρ vs) src.items [] M1 Q

/-- how the new list at p stands: known to nobody -/
structure Side (K : PySem.W.Frag) (F : Addr → Prop) (H : Hp) (M : Mem) (p : Addr) (acc : List D) : Prop where
  mem : MemOk K F H M
  at_ : ∃ vs, H p = some (.lst vs) ∧ Rps K F H acc vs
  nF : ¬ F p
  nM : M p = none
theorem Side.next {F' : Addr → Prop} {H' : Hp} {M' : Mem} {p : Addr} {acc : List D} (s : Side K F H M p acc) (e : Ext F H M F' H' M') (m : MemOk K F' H' M') : Side K F' H' M' p acc := by
  obtain ⟨vs, h1, h2⟩ := s.at_
  refine ⟨m, ⟨vs, e.frame _ _ h1 s.nM, Rps.mono e _ _ h2⟩, fun f => ?_, ?_⟩
  · rcases e.new p f with z | z | z
    · exact s.nF z
    · exact z s.nM
    · rw [h1] at z; cases z
  · cases q : M' p with
    | none => rfl
    | some o =>
      rcases e.dom p (by rw [q]; exact fun z => nomatch z) with z | z
      · exact absurd s.nM z
      · rw [h1] at z; cases z
theorem Side.more {p : Addr} {acc : List D} {d : D} {v : V} (s : Side K F H M p acc) (r : Rp K F H d v) : ∃ vs, H p = some (.lst vs) ∧ vs.length = acc.length ∧ Side K F (upd H p (.lst (vs ++ [v]))) M p (acc ++ [d]) := by
  obtain ⟨vs, h1, h2⟩ := s.at_
  have w : ExtW F H F (upd H p (.lst (vs ++ [v]))) := ExtW.wr h1 s.nF
  exact ⟨vs, h1, h2.length, s.mem.side h1 s.nF s.nM, ⟨vs ++ [v], upd_same, Rps.append (Rps.mono w _ _ h2) (Rps.cons (Rp.mono w _ _ r) Rps.nil)⟩, s.nF, s.nM⟩

/-- one clause's loop, from what the heap is at its start (Fs, Hs, Ms); F1 H1 M1: ahead of the new list at p -/
theorem lc_loop {J : It} {src : Src} {vs ws : List Nat} {dg : DG} {tt : DT} {te : DE} {F1 : Addr → Prop} {H1 Hs : Hp} {M1 Ms : Mem} {Fs : Addr → Prop} {p : Addr} {ρw : Dv} {σw : L2.St} {acc0 : List D} {Q' : List D → Mem → Prop} {Qe : Hp → Prop}
    (so : SrcOk K Fs Hs J src) (hs : ∀ i ∈ vs, i ∈ ws) (hw : L2.wipe σw ws = σw) (hp : H1 p = none) (es : Ext F1 H1 M1 Fs Hs Ms) (env : EnvOk K Fs Hs ρw σw) (hl : ρw.length = σw.length) (sd : Side K Fs Hs Ms p acc0)
    (q : ∀ F' H' M' acc, Ext F1 H1 M1 F' H' M' → ExtW Fs Hs F' H' → Side K F' H' M' p acc → Q' acc M' → Qe H') (h : lcD src.ok dg tt te ρw src.items acc0 Ms Q') :
    ∃ Wv : Nat → Nat → Hp → Prop, (∃ m, Wv 0 m Hs) ∧ ∀ i m H, Wv i m H → (J.stop i H ∧ Qe H) ∨ (J.go i H ∧ ∃ Nx : Hp → Prop, (∀ H', Nx H' → ∃ m', m' < m ∧ Wv (i + 1) m' H') ∧
      ∀ x H', J.yld i H x H' → gG K vs dg x σw H' fun σ2 H2 => L2.wipe σ2 ws = σw ∧ tGt K W0 tt σ2 H2 fun b H3 =>
        if b = true then tG K W0 te σ2 H3 fun y H4 => ∃ acc, H4 p = some (.lst acc) ∧ acc.length < sizeLine ∧ Nx (upd H4 p (.lst (acc ++ [y]))) else Nx H3) := by
  refine ⟨fun i m H2 => ∃ F2 M2 acc, Ext F1 H1 M1 F2 H2 M2 ∧ ExtW Fs Hs F2 H2 ∧ Side K F2 H2 M2 p acc ∧ i ≤ src.items.length ∧ m = src.items.length - i ∧ lcD src.ok dg tt te ρw (src.items.drop i) acc M2 Q', ⟨src.items.length, Fs, Ms, acc0, es, ExtW.refl _ _, sd, Nat.zero_le _, rfl, h⟩, ?_⟩
  rintro i m H2 ⟨F2, M2, acc, e2, n2, s2, hl2, rfl, h2⟩
  by_cases hlt : i < src.items.length
  · rw [List.drop_eq_getElem_cons hlt] at h2
    unfold lcD at h2
    obtain ⟨o, h2⟩ := h2
    obtain ⟨go, yl⟩ := (so F2 H2 M2 n2 s2.mem o i).1 src.items[i] (by simp [hlt])
    refine .inr ⟨go, fun H3 => ∃ F3 M3 acc, Ext F1 H1 M1 F3 H3 M3 ∧ ExtW Fs Hs F3 H3 ∧ Side K F3 H3 M3 p acc ∧ lcD src.ok dg tt te ρw (src.items.drop (i + 1)) acc M3 Q', ?_, fun v H3 y => ?_⟩
    · rintro H3 ⟨F3, M3, acc3, e3, n3, s3, h3⟩
      exact ⟨src.items.length - (i + 1), by omega, F3, M3, acc3, e3, n3, s3, hlt, rfl, h3⟩
    · obtain ⟨F3, e3, m3, r3⟩ := yl v H3 y
      refine ⟨F3, ρw, M2, _, _, ⟨env.mono (n2.trans e3.toExtW), m3, hl⟩, r3, fun F4 H4 ρ4 M4 σ4 e4 s4 c4 h4 => ?_, h2⟩
      have e24 := e3.trans e4
      refine ⟨(c4.wipe hs).trans hw, F4, ρ4, M4, E0, _, s4, x0, fun F5 H5 M5 b e5 m5 h5 => ?_, h4⟩
      have e25 := e24.trans e5
      cases b with
      | false =>
        have h5' : lcD src.ok dg tt te ρw (src.items.drop (i + 1)) acc M5 Q' := h5
        exact iteF ⟨F5, M5, acc, e2.trans e25, n2.trans e25.toExtW, s2.next e25 m5, h5'⟩
      | true =>
        have h5' := (if_pos rfl).mp h5
        refine iteT (tG_mk (s4.next e5 m5) x0 (fun F6 H6 M6 d v6 e6 m6 r6 ⟨hz, h6⟩ => ?_) h5')
        have e26 := e25.trans e6
        obtain ⟨us, g1, g2, g3⟩ := (s2.next e26 m6).more r6
        exact ⟨us, g1, by rw [g2]; exact hz, F6, M6, acc ++ [d], (e2.trans e26).side hp, (n2.trans e26.toExtW).trans (ExtW.wr g1 (s2.next e26 m6).nF), g3, h6⟩
  · have z : i = src.items.length := by omega
    subst z
    rw [List.drop_length] at h2
    unfold lcD at h2
    exact .inl ⟨(so F2 H2 M2 n2 s2.mem h2.1 _).2 (Nat.le_refl _), q F2 H2 M2 acc e2 n2 s2 h2.2⟩

theorem Side.start {p : Addr} (m : MemOk K F H M) (hp : H p = none) : Side K F (upd H p (.lst [])) M p [] := ⟨m.aside hp _, ⟨[], upd_same, Rps.nil⟩, (m.fresh hp).1, (m.fresh hp).2⟩
theorem lc_im {gi : DI} {dg : DG} {tt : DT} {te : DE} {vs ws : List Nat} (hs : ∀ i ∈ vs, i ∈ ws) : ∀ σ H Q, tN K W (nLc gi dg tt te ws) σ H Q → tLc (tGi K W gi) (gG K vs dg) (tGt K W0 tt) (tG K W0 te) ws σ H Q := fun σ H Q ⟨F, ρ, M, E, Q', s, x, q, h⟩ => by
  refine ⟨F, ρ, M, E, _, s, x, fun F1 H1 M1 J src e1 m1 so h1 p hp => ?_, h⟩
  have s1 := s.next e1 m1
  have l1 : Ext F1 H1 M1 F1 (upd H1 p (.lst [])) M1 := Ext.laid hp fun _ z => z
  refine lc_loop (fun F' H' M' e => so F' H' M' (l1.toExtW.trans e)) hs wipe_wipe hp l1 ((s1.env.mono l1).wipe ws) (by rw [wipeD_length, wipe_length]; exact s1.len) (Side.start m1 hp) (fun F2 H2 M2 acc e2 n2 s2 h2 => ?_) h1
  obtain ⟨us, g1, g2⟩ := s2.at_
  exact q F2 H2 M2 acc us p (e1.trans e2) s2.mem (e1.was hp) g1 s2.nF s2.nM g2 h2
variable {elt tg iter tg1 iter1 : Expr} {ifs ifs1 : List Expr} {scope : Scope} {own : List (Str × Nat)} {pos : Pos} {gi gi1 : DI} {vs vs1 : List Nat} {dg dg1 : DG} {tt tt1 : DT} {te : DE}
theorem fn_lc (hN : X.N.Nodup) (hi : FI K X W tg iter gi) (ok : BlkOk X.N X.env.scope scope own)
    (hg : ∀ (s : Shared) (H : Hp) (C : Addr) (cl : List (Str × Addr)) (fp : List Addr), FG K (X.blk s H scope (compEnvC scope cl C X.env) fp) tg vs dg) (ht : ∀ (s : Shared) (H : Hp) (C : Addr) (cl : List (Str × Addr)) (fp : List Addr), FTs K (X.blk s H scope (compEnvC scope cl C X.env) fp) W0 ifs tt)
    (he : ∀ (s : Shared) (H : Hp) (C : Addr) (cl : List (Str × Addr)) (fp : List Addr), FE K (X.blk s H scope (compEnvC scope cl C X.env) fp) W0 elt te) (hv : ∀ i ∈ vs, i ∈ own.map (·.2) := by decide) (hc : X.calm = true := by rfl) (hs : ∀ x, foldedSetIterable iter X.env x = pure x := by intro _; rfl) :
    FN K X W (.ListComp elt [⟨tg, iter, ifs, 0⟩] scope pos) (nLc gi dg tt te (own.map (·.2))) := PE.imp (pe_lc hc hN hi ok hg ht he hs) (lc_im hv)
/-- name = [..]: the list frozen (fz) or kept in the store -/
theorem fs_setLc (i : Nat) {y : Str} {py spos : Pos} {g : DE} (hN : X.N.Nodup) (hi : FI K X W tg iter gi) (ok : BlkOk X.N X.env.scope scope own)
    (hg : ∀ (s : Shared) (H : Hp) (C : Addr) (cl : List (Str × Addr)) (fp : List Addr), FG K (X.blk s H scope (compEnvC scope cl C X.env) fp) tg vs dg) (ht : ∀ (s : Shared) (H : Hp) (C : Addr) (cl : List (Str × Addr)) (fp : List Addr), FTs K (X.blk s H scope (compEnvC scope cl C X.env) fp) W0 ifs tt)
    (he : ∀ (s : Shared) (H : Hp) (C : Addr) (cl : List (Str × Addr)) (fp : List Addr), FE K (X.blk s H scope (compEnvC scope cl C X.env) fp) W0 elt te) (hz : ∀ σ H Q, tG K W g σ H Q → tN K W (nLc gi dg tt te (own.map (·.2))) σ H Q)
    (hv : ∀ i ∈ vs, i ∈ own.map (·.2) := by decide) (hc : X.calm = true := by rfl) (hs : ∀ x, foldedSetIterable iter X.env x = pure x := by intro _; rfl)
    (hy : X.N[i]? = some y := by rfl) (hyl : X.env.scope.names.lookup y = some .local := by rfl) (hsw : swapsWith (.ListComp elt [⟨tg, iter, ifs, 0⟩] scope pos) (some (.Name y py)) spos.line X.env = pure true := by exact sw_true rfl rfl rfl (by decide +kernel)) :
    FS K X W (.Assign [.Name y py] (.ListComp elt [⟨tg, iter, ifs, 0⟩] scope pos) spos) (sSet i g) :=
  PS.imp (ps_setLc hc hN hy hyl hsw hi ok hg ht he hs) fun D σ H ⟨F, ρ, M, E', s, x, h⟩ => lc_im hv σ H _ (hz σ H _ (tG_mk s (x.ex.at_ s) (fun F1 H1 M1 d v e1 m1 r1 h1 => x.nx F1 H1 _ M1 _ e1 ((s.next e1 m1).set i r1) h1) h))

/-! two clauses -/
def lcD2 (ok : Mem → Prop) (dg : DG) (tt : DT) (gi1 : DI) (dg1 : DG) (tt1 : DT) (te : DE) (vs1 : List Nat) (ρw : Dv) : List D → List D → Mem → (List D → Mem → Prop) → Prop
  | [], acc, M, Q => ok M ∧ Q acc M
  | d :: ds, acc, M, Q => ok M ∧ dg d ρw M fun ρ1 M1 => tt E0 ρ1 M1 fun b M2 =>
      if b = true then gi1 E0 ρ1 M2 fun src1 M3 => lcD src1.ok dg1 tt1 te (wipeD ρ1 vs1) src1.items acc M3 fun acc' M4 => lcD2 ok dg tt gi1 dg1 tt1 te vs1 ρw ds acc' M4 Q else lcD2 ok dg tt gi1 dg1 tt1 te vs1 ρw ds acc M2 Q
def nLc2 (gi : DI) (dg : DG) (tt : DT) (gi1 : DI) (dg1 : DG) (tt1 : DT) (te : DE) (vs vs1 : List Nat) : DN := fun E ρ M Q => gi E ρ M fun src M1 => lcD2 src.ok dg tt gi1 dg1 tt1 te vs1 (wipeD ρ vs) src.items [] M1 Q
theorem lc2_im {ws ws1 : List Nat} (hs : ∀ i ∈ vs, i ∈ ws) (hs1 : ∀ i ∈ vs1, i ∈ ws1) : ∀ σ H Q, tN K W (nLc2 gi dg tt gi1 dg1 tt1 te ws ws1) σ H Q → tLc2 (tGi K W gi) (gG K vs dg) (tGt K W0 tt) (tGi K W0 gi1) (gG K vs1 dg1) (tGt K W0 tt1) (tG K W0 te) ws ws1 σ H Q := fun σ H Q ⟨F, ρ, M, E, Q', s, x, q, h⟩ => by
  refine ⟨F, ρ, M, E, _, s, x, fun F1 H1 M1 J src e1 m1 so h1 p hp => ?_, h⟩
  have s1 := s.next e1 m1
  have l1 : Ext F1 H1 M1 F1 (upd H1 p (.lst [])) M1 := Ext.laid hp fun _ z => z
  have hl : (wipeD ρ ws).length = (L2.wipe σ ws).length := by rw [wipeD_length, wipe_length]; exact s1.len
  refine ⟨fun i m H2 => ∃ F2 M2 acc, Ext F1 H1 M1 F2 H2 M2 ∧ ExtW F1 H1 F2 H2 ∧ Side K F2 H2 M2 p acc ∧ i ≤ src.items.length ∧ m = src.items.length - i ∧ lcD2 src.ok dg tt gi1 dg1 tt1 te ws1 (wipeD ρ ws) (src.items.drop i) acc M2 Q',
    ⟨src.items.length, F1, M1, [], l1, l1.toExtW, Side.start m1 hp, Nat.zero_le _, rfl, h1⟩, ?_⟩
  rintro i m H2 ⟨F2, M2, acc, e2, n2, s2, hl2, rfl, h2⟩
  by_cases hlt : i < src.items.length
  · rw [List.drop_eq_getElem_cons hlt] at h2
    unfold lcD2 at h2
    obtain ⟨o, h2⟩ := h2
    obtain ⟨go, yl⟩ := (so F2 H2 M2 n2 s2.mem o i).1 src.items[i] (by simp [hlt])
    refine .inr ⟨go, fun H3 => ∃ F3 M3 acc, Ext F1 H1 M1 F3 H3 M3 ∧ ExtW F1 H1 F3 H3 ∧ Side K F3 H3 M3 p acc ∧ lcD2 src.ok dg tt gi1 dg1 tt1 te ws1 (wipeD ρ ws) (src.items.drop (i + 1)) acc M3 Q', ?_, fun v H3 y => ?_⟩
    · rintro H3 ⟨F3, M3, acc3, e3, n3, s3, h3⟩
      exact ⟨src.items.length - (i + 1), by omega, F3, M3, acc3, e3, n3, s3, hlt, rfl, h3⟩
    · obtain ⟨F3, e3, m3, r3⟩ := yl v H3 y
      refine ⟨F3, wipeD ρ ws, M2, _, _, ⟨(s1.env.wipe ws).mono (n2.trans e3.toExtW), m3, hl⟩, r3, fun F4 H4 ρ4 M4 σ4 e4 s4 c4 h4 => ?_, h2⟩
      have e24 := e3.trans e4
      refine ⟨(c4.wipe hs).trans wipe_wipe, F4, ρ4, M4, E0, _, s4, x0, fun F5 H5 M5 b e5 m5 h5 => ?_, h4⟩
      have e25 := e24.trans e5
      cases b with
      | false =>
        have h5' : lcD2 src.ok dg tt gi1 dg1 tt1 te ws1 (wipeD ρ ws) (src.items.drop (i + 1)) acc M5 Q' := h5
        exact iteF ⟨F5, M5, acc, e2.trans e25, n2.trans e25.toExtW, s2.next e25 m5, h5'⟩
      | true =>
        have h5' := (if_pos rfl).mp h5
        have s5 := s4.next e5 m5
        refine iteT ⟨F5, ρ4, M5, E0, _, s5, x0, fun F6 H6 M6 J1 src1 e6 m6 so1 h6 => ?_, h5'⟩
        have e26 := e25.trans e6
        have s6 := s5.next e6 m6
        -- the inner clause: its loop is lc_loop's, the new list known to nobody
        exact lc_loop so1 hs1 wipe_wipe hp (e2.trans e26) (s6.env.wipe ws1) (by rw [wipeD_length, wipe_length]; exact s6.len) (s2.next e26 m6) (fun F7 H7 M7 acc7 e7 w7 s7 h7 => ⟨F7, M7, acc7, e7, (n2.trans e26.toExtW).trans w7, s7, h7⟩) h6
  · have z : i = src.items.length := by omega
    subst z
    rw [List.drop_length] at h2
    unfold lcD2 at h2
    obtain ⟨us, g1, g2⟩ := s2.at_
    exact .inl ⟨(so F2 H2 M2 n2 s2.mem h2.1 _).2 (Nat.le_refl _), q F2 H2 M2 acc us p (e1.trans e2) s2.mem (e1.was hp) g1 s2.nF s2.nM g2 h2.2⟩
theorem fn_lc2 (hN : X.N.Nodup) (hi : FI K X W tg iter gi) (ok : BlkOk X.N X.env.scope scope own) {ws1 : List Nat}
    (hg : ∀ (s : Shared) (H : Hp) (C : Addr) (cl : List (Str × Addr)) (fp : List Addr), FG K (X.blk s H scope (compEnvC scope cl C X.env) fp) tg vs dg) (ht : ∀ (s : Shared) (H : Hp) (C : Addr) (cl : List (Str × Addr)) (fp : List Addr), FTs K (X.blk s H scope (compEnvC scope cl C X.env) fp) W0 ifs tt)
    (hi1 : ∀ (s : Shared) (H : Hp) (C : Addr) (cl : List (Str × Addr)) (fp : List Addr), FI K (X.blk s H scope (compEnvC scope cl C X.env) fp) W0 tg1 iter1 gi1)
    (hg1 : ∀ (s : Shared) (H : Hp) (C : Addr) (cl : List (Str × Addr)) (fp : List Addr), FG K (X.blk s H scope (compEnvC scope cl C X.env) fp) tg1 vs1 dg1) (ht1 : ∀ (s : Shared) (H : Hp) (C : Addr) (cl : List (Str × Addr)) (fp : List Addr), FTs K (X.blk s H scope (compEnvC scope cl C X.env) fp) W0 ifs1 tt1)
    (he : ∀ (s : Shared) (H : Hp) (C : Addr) (cl : List (Str × Addr)) (fp : List Addr), FE K (X.blk s H scope (compEnvC scope cl C X.env) fp) W0 elt te) (hv : ∀ i ∈ vs, i ∈ own.map (·.2) := by decide) (hv1 : ∀ i ∈ vs1, i ∈ ws1 := by decide) (hw1 : ∀ i ∈ ws1, i ∈ own.map (·.2) := by decide)
    (hc : X.calm = true := by rfl) (hs : ∀ x, foldedSetIterable iter X.env x = pure x := by intro _; rfl) (hs1 : ∀ env x, foldedSetIterable iter1 env x = pure x := by intro _ _; rfl) :
    FN K X W (.ListComp elt [⟨tg, iter, ifs, 0⟩, ⟨tg1, iter1, ifs1, 0⟩] scope pos) (nLc2 gi dg tt gi1 dg1 tt1 te (own.map (·.2)) ws1) := PE.imp (pe_lc2 hc hN hi ok hw1 hg ht hi1 hg1 ht1 he hs hs1) (lc2_im hv hv1)
end
end DL

/-! DL5: operators, built-in functions, methods of lists, stores, by deep values. -/
namespace DL
open PySem PySem.Spec L2

section
variable {K : PySem.W.Frag} {X : Cx} {W : WX} {F : Addr → Prop} {H : Hp} {ρ : Dv} {M : Mem} {σ : L2.St}
/-! ### views -/
/-- the items of a list, frozen or in the store -/
def asL (M : Mem) : D → Option (List D)
  | .lst ds => some ds
  | .ref a => match M a with
    | some (.lst ds) => some ds
    | _ => none
  | _ => none
def onL (M : Mem) (d : D) (k : List D → Prop) : Prop := match asL M d with
  | some ds => k ds
  | none => False
theorem onL_ref {a : Addr} {ds : List D} {k : List D → Prop} (e : M a = some (.lst ds)) (h : k ds) : onL M (.ref a) k := by
  unfold onL asL
  simp only [e]
  exact h
theorem onL_lst {ds : List D} {k : List D → Prop} (h : k ds) : onL M (.lst ds) k := h
theorem onL_at {d : D} {v : V} {k : List D → Prop} (m : MemOk K F H M) (r : Rp K F H d v) (h : onL M d k) : ∃ ds a vs, asL M d = some ds ∧ k ds ∧ v = .ref a ∧ H a = some (.lst vs) ∧ Rps K F H ds vs := by
  unfold onL at h
  cases q : asL M d with
  | none => rw [q] at h; exact h.elim
  | some ds =>
    rw [q] at h
    have h' : k ds := h
    cases d with
    | lst es =>
      have q' : some es = some ds := q
      cases q'
      unfold Rp at r
      obtain ⟨a, vs, e, h1, _, h2⟩ := r
      exact ⟨_, a, vs, rfl, h', e, h1, h2⟩
    | ref a =>
      have q' : (match M a with | some (.lst ds) => some ds | _ => none) = some ds := q
      cases z : M a with
      | none => rw [z] at q'; cases q'
      | some o =>
        rw [z] at q'
        cases o with
        | ins C fs => cases q'
        | lst es =>
          cases q'
          obtain ⟨vs, h1, h2⟩ := (m.at_ a _ z).2
          unfold Rp at r
          exact ⟨ds, a, vs, rfl, h', r, h1, h2⟩
    | _ => cases q
/-- the items of a sequence and what it is in the heap -/
def onS (M : Mem) (d : D) (k : List D → Prop) : Prop := match srcOf M d with
  | some s => k s.items
  | none => False
theorem onS_ref {a : Addr} {ds : List D} {k : List D → Prop} (e : M a = some (.lst ds)) (h : k ds) : onS M (.ref a) k := by
  unfold onS srcOf
  simp only [e]
  exact h
theorem onS_at {d : D} {v : V} {k : List D → Prop} (m : MemOk K F H M) (r : Rp K F H d v) (h : onS M d k) : ∃ ds a vs, k ds ∧ v = .ref a ∧ (SqL K H a vs ∨ TupAt K H a vs) ∧ Rps K F H ds vs := by
  unfold onS at h
  cases q : srcOf M d with
  | none => rw [q] at h; exact h.elim
  | some s =>
    rw [q] at h
    obtain ⟨o, kk, a, e, sa⟩ := src_at m r q
    obtain ⟨vs, h1, h2⟩ := sa F H M (ExtW.refl _ _) m o
    refine ⟨s.items, a, vs, h, e, ?_, h2⟩
    cases kk with
    | l => exact .inl h1
    | t => exact .inr h1

/-! ### ints -/
def dI (C : Int → Int → Prop) (g : Int → Int → D) : DR2
  | .int i, .int j, M, Q => C i j ∧ Q (g i j) M
  | _, _, _, _ => False
def dI0 (g : Int → Int → D) : DR2
  | .int i, .int j, M, Q => Q (g i j) M
  | _, _, _, _ => False
theorem Rp.int_inv {i : Int} {v : V} (r : Rp K F H (.int i) v) : v = .int i := by unfold Rp at r; exact r
theorem Rp.bl_inv {i : Bool} {v : V} (r : Rp K F H (.bl i) v) : v = .bl i := by unfold Rp at r; exact r
theorem od_I {f : Value → Value → Sem Value} {C : Int → Int → Prop} {g : Int → Int → D} {g' : Int → Int → V} (h : OpR X f (rI C g')) (hg : ∀ i j F H, Rp K F H (g i j) (g' i j)) : OpD K X f (dI C g) :=
  OpR.imp h fun x y H Q ⟨F, M, d, e, Q', m, r1, r2, q, h⟩ => by
    cases d with
    | int i =>
      cases e with
      | int j => exact ⟨i, j, r1.int_inv, r2.int_inv, h.1, q F H M _ _ (Ext.refl _ _ _) m (hg i j F H) h.2⟩
      | _ => exact h.elim
    | _ => exact h.elim
theorem od_I0 {f : Value → Value → Sem Value} {g : Int → Int → D} {g' : Int → Int → V} (h : OpR X f (rI0 g')) (hg : ∀ i j F H, Rp K F H (g i j) (g' i j)) : OpD K X f (dI0 g) :=
  OpR.imp h fun x y H Q ⟨F, M, d, e, Q', m, r1, r2, q, h⟩ => by
    cases d with
    | int i =>
      cases e with
      | int j => exact ⟨i, j, r1.int_inv, r2.int_inv, q F H M _ _ (Ext.refl _ _ _) m (hg i j F H) h⟩
      | _ => exact h.elim
    | _ => exact h.elim
abbrev dAddI : DR2 := dI0 fun i j => .int (i + j)
abbrev dSub : DR2 := dI0 fun i j => .int (i - j)
abbrev dMul : DR2 := dI CMulW fun i j => .int (i * j)
abbrev dFdiv : DR2 := dI CDivW fun i j => .int (i / j)
abbrev dMod : DR2 := dI (fun _ j => 0 < j) fun i j => .int (i % j)
abbrev dPow : DR2 := dI CPow fun i j => .int (i ^ j.toNat)
abbrev dLt : DR2 := dI0 fun i j => .bl (decide (i < j))
abbrev dLe : DR2 := dI0 fun i j => .bl (decide (i ≤ j))
abbrev dGt : DR2 := dI0 fun i j => .bl (decide (j < i))
abbrev dGe : DR2 := dI0 fun i j => .bl (decide (j ≤ i))
theorem od_addI : OpD K X (binaryOp .Add) dAddI := od_I0 op_add fun _ _ _ _ => Rp.int
theorem od_sub : OpD K X (binaryOp .Sub) dSub := od_I0 op_sub fun _ _ _ _ => Rp.int
theorem od_mul : OpD K X (binaryOp .Mult) dMul := od_I op_mulW fun _ _ _ _ => Rp.int
theorem od_fdiv : OpD K X (binaryOp .FloorDiv) dFdiv := od_I op_fdivW fun _ _ _ _ => Rp.int
theorem od_mod : OpD K X (binaryOp .Mod) dMod := od_I op_mod fun _ _ _ _ => Rp.int
theorem od_pow : OpD K X (binaryOp .Pow) dPow := od_I op_pow fun _ _ _ _ => Rp.int
theorem od_lt : OpD K X (compareOp .Lt) dLt := od_I0 op_lt fun _ _ _ _ => Rp.bl
theorem od_le : OpD K X (compareOp .LtE) dLe := od_I0 op_le fun _ _ _ _ => Rp.bl
theorem od_gt : OpD K X (compareOp .Gt) dGt := od_I0 op_gt fun _ _ _ _ => Rp.bl
theorem od_ge : OpD K X (compareOp .GtE) dGe := od_I0 op_ge fun _ _ _ _ => Rp.bl
def dU (g : Int → D) : DR1
  | .int i, M, Q => Q (g i) M
  | _, _, _ => False
abbrev dNeg : DR1 := dU fun i => .int (-i)
theorem ud_neg : UnD K X (unaryOp .USub) dNeg := UnR.imp un_neg fun x H Q ⟨F, M, d, Q', m, r, q, h⟩ => by
  cases d with
  | int i => exact ⟨i, r.int_inv, q F H M _ _ (Ext.refl _ _ _) m Rp.int h⟩
  | _ => exact h.elim

/-! ### + of lists and tuples -/
/-- an operator whose outcome is a new list -/
def rN (K : PySem.W.Frag) (rd : D → D → Mem → (List D → Mem → Prop) → Prop) : R2 := fun x y H Q => ∃ F M d e Q', MemOk K F H M ∧ Rp K F H d x ∧ Rp K F H e y ∧
  (∀ F' H' M' ds vs p, Ext F H M F' H' M' → MemOk K F' H' M' → (M p ≠ none ∨ H p = none) → H' p = some (.lst vs) → ¬ F' p → M' p = none → Rps K F' H' ds vs → Q' ds M' → Q (.ref p) H') ∧ rd d e M Q'
abbrev DRN2 := D → D → Mem → (List D → Mem → Prop) → Prop
def OpN (K : PySem.W.Frag) (X : Cx) (f : Value → Value → Sem Value) (rd : DRN2) : Prop := OpR X f (rN K rd)
def nOp (rd : DRN2) (ga gb : DE) : DN := fun E ρ M Q => ga E ρ M fun x M1 => gb E ρ M1 fun y M2 => rd x y M2 Q
theorem fn_op {op : Operator} {a b : Expr} {ga gb : DE} {pos : Pos} {rd : DRN2} (ho : OpN K X (binaryOp op) rd) (ha : FE K X W a ga) (hb : FE K X W b gb) : FN K X W (.BinOp a op b pos) (nOp rd ga gb) :=
  PE.imp (pe_op ho ha hb) fun σ H Q ⟨F, ρ, M, E, Q', s, x, q, h⟩ => two (R := fun v u H2 => rN K rd v u H2 Q) s x h fun F2 H2 M2 d e v u e2 m2 r1 r2 h2 => ⟨F2, M2, d, e, Q', m2, r1, r2,
    fun F3 H3 M3 ds vs p e3 m3 wp => q F3 H3 M3 ds vs p (e2.trans e3) m3 (wp.elim (fun z => e2.dom p z) fun z => e2.was z), h2⟩
def nCat : DRN2 := fun x y M Q => onL M x fun a => onL M y fun b => a.length + b.length ≤ sizeLine ∧ Q (a ++ b) M
theorem on_cat : OpN K X (binaryOp .Add) nCat := OpR.imp op_cat fun x y H Q ⟨F, M, d, e, Q', m, r1, r2, q, h⟩ => by
  obtain ⟨as, a, vs, _, h, rfl, ha, ra⟩ := onL_at m r1 h
  obtain ⟨bs, b, ws, _, h, rfl, hb, rb⟩ := onL_at m r2 h
  refine ⟨a, b, vs, ws, rfl, rfl, ha, hb, by rw [ra.length, rb.length]; exact h.1, fun p hp => ?_⟩
  exact newL (Ext.refl _ _ _) m (Rps.append ra rb) hp q h.2
def nRep : DRN2 := fun x y M Q => onL M x fun a => match y with
  | .int k => (-(2 ^ 63) ≤ k ∧ k < 2 ^ 63 ∧ a.length * k.toNat ≤ sizeLine) ∧ Q (List.replicate k.toNat a).flatten M
  | _ => False
theorem on_rep : OpN K X (binaryOp .Mult) nRep := OpR.imp op_rep fun x y H Q ⟨F, M, d, e, Q', m, r1, r2, q, h⟩ => by
  obtain ⟨as, a, vs, _, h, rfl, ha, ra⟩ := onL_at m r1 h
  cases e with
  | int k =>
    obtain ⟨⟨h1, h2, h3⟩, h⟩ := h
    exact ⟨a, k, vs, rfl, r2.int_inv, ha, h1, h2, by rw [ra.length]; exact h3, fun p hp => newL (Ext.refl _ _ _) m (ra.rep k.toNat) hp q h⟩
  | _ => exact h.elim
/-- + of ints, of lists (the new list frozen), of tuples, of texts -/
def dAdd : DR2
  | .int i, .int j, M, Q => Q (.int (i + j)) M
  | .tup a, .tup b, M, Q => a.length + b.length ≤ sizeLine ∧ Q (.tup (a ++ b)) M
  | .str a, .str b, M, Q => a.length + b.length ≤ sizeLine ∧ Q (.str (a ++ b)) M
  | .lst a, y, M, Q => onL M y fun b => a.length + b.length ≤ sizeLine ∧ Q (.lst (a ++ b)) M
  | .ref r, y, M, Q => onL M (.ref r) fun a => onL M y fun b => a.length + b.length ≤ sizeLine ∧ Q (.lst (a ++ b)) M
  | _, _, _, _ => False
theorem newF {F1 : Addr → Prop} {H1 : Hp} {M1 : Mem} {ds : List D} {vs : List V} {Q : VK} {Q' : DVK} {p : Addr} (e1 : Ext F H M F1 H1 M1) (m1 : MemOk K F1 H1 M1) (r1 : Rps K F1 H1 ds vs) (hp : H1 p = none) (q : VOk K F H M Q' Q) (h : Q' (.lst ds) M1) : Q (.ref p) (upd H1 p (.lst vs)) :=
  newL (Q' := fun ds M => Q' (.lst ds) M) e1 m1 r1 hp (fun F' H' M' ds vs p e m wp hp nF nM r h' => by
    refine q (fun a => F' a ∨ a = p) H' M' (.lst ds) (.ref p) (e.frzAt wp) (m.freeze hp nM) ?_ h'
    unfold Rp
    exact ⟨p, vs, rfl, hp, .inr rfl, Rps.mono (ExtW.grow fun _ z => .inl z) _ _ r⟩) h
theorem newT {F1 : Addr → Prop} {H1 : Hp} {M1 : Mem} {ds : List D} {vs : List V} {Q : VK} {Q' : DVK} {p : Addr} (e1 : Ext F H M F1 H1 M1) (m1 : MemOk K F1 H1 M1) (r1 : Rps K F1 H1 ds vs) (hp : H1 p = none) (q : VOk K F H M Q' Q) (h : Q' (.tup ds) M1) : Q (.ref p) (upd H1 p (.tup vs)) := by
  refine q F1 (upd H1 p (.tup vs)) M1 (.tup ds) (.ref p) (e1.trans (Ext.laid hp fun _ z => z)) (m1.aside hp _) ?_ h
  unfold Rp
  exact ⟨p, vs, rfl, .inl upd_same, Rps.mono (Ext.laid (M := M1) hp fun _ z => z).toExtW _ _ r1⟩
theorem od_add (hK : X.K = K) : OpD K X (binaryOp .Add) dAdd := by
  subst hK
  refine OpR.imp (OpR.or op_add (OpR.or op_cat (OpR.or op_catA op_add_str))) fun x y H Q ⟨F, M, d, e, Q', m, r1, r2, q, h⟩ => ?_
  have lists : ∀ {d : D}, (onL M d fun a => onL M e fun b => a.length + b.length ≤ sizeLine ∧ Q' (.lst (a ++ b)) M) → Rp X.K F H d x → rCat x y H Q := fun {d} h r1 => by
    obtain ⟨as, a, vs, _, h, rfl, ha, ra⟩ := onL_at m r1 h
    obtain ⟨bs, b, ws, _, h, rfl, hb, rb⟩ := onL_at m r2 h
    exact ⟨a, b, vs, ws, rfl, rfl, ha, hb, by rw [ra.length, rb.length]; exact h.1, fun p hp => newF (Ext.refl _ _ _) m (Rps.append ra rb) hp q h.2⟩
  cases d with
  | int i =>
    cases e with
    | int j => exact .inl ⟨i, j, r1.int_inv, r2.int_inv, q F H M _ _ (Ext.refl _ _ _) m Rp.int h⟩
    | _ => exact h.elim
  | str i =>
    cases e with
    | str j =>
      unfold Rp at r1 r2
      exact .inr (.inr (.inr ⟨i, j, r1, r2, h.1, q F H M _ _ (Ext.refl _ _ _) m Rp.str h.2⟩))
    | _ => exact h.elim
  | tup as =>
    cases e with
    | tup bs =>
      obtain ⟨h2, h3⟩ := h
      have rr1 := r1
      have rr2 := r2
      unfold Rp at r1 r2
      obtain ⟨a, vs, rfl, qa, ra⟩ := r1
      obtain ⟨b, ws, rfl, qb, rb⟩ := r2
      have nil : ∀ {ds : List D} {us : List V}, Rps X.K F H ds us → us = [] → ds = [] := fun {ds us} r z => by
        have := r.length
        rw [z] at this
        exact List.eq_nil_of_length_eq_zero this.symm
      refine .inr (.inr (.inl ⟨a, b, vs, ws, rfl, rfl, qa.sq, qb.sq, by rw [ra.length, rb.length]; exact h2, fun z => ?_, fun _ z => ?_, fun _ _ p hp => newT (Ext.refl _ _ _) m (Rps.append ra rb) hp q h3⟩))
      · rw [nil ra z, List.nil_append] at h3
        exact q F H M _ _ (Ext.refl _ _ _) m rr2 h3
      · rw [nil rb z, List.append_nil] at h3
        exact q F H M _ _ (Ext.refl _ _ _) m rr1 h3
    | _ => exact h.elim
  | lst as =>
    refine .inr (.inl (lists (d := .lst as) ?_ r1))
    cases e <;> exact h
  | ref a =>
    refine .inr (.inl (lists (d := .ref a) ?_ r1))
    cases e <;> exact h
  | _ => cases e <;> exact h.elim

/-! ### == and != -/
mutual
/-- the plain data that a deep value is, lists of the store read -/
inductive Vw (M : Mem) : D → PyData → Prop
  | non : Vw M .non .none
  | bl (b : Bool) : Vw M (.bl b) (.bool b)
  | int (i : Int) : Vw M (.int i) (.int i)
  | str (x : Str) : Vw M (.str x) (.str x)
  | tup {ds : List D} {ps : List PyData} : Vws M ds ps → Vw M (.tup ds) (.tuple ps)
  | lst {ds : List D} {ps : List PyData} : Vws M ds ps → Vw M (.lst ds) (.list ps)
  | ref {a : Addr} {ds : List D} {ps : List PyData} : M a = some (.lst ds) → Vws M ds ps → Vw M (.ref a) (.list ps)
inductive Vws (M : Mem) : List D → List PyData → Prop
  | nil : Vws M [] []
  | cons {d : D} {p : PyData} {ds : List D} {ps : List PyData} : Vw M d p → Vws M ds ps → Vws M (d :: ds) (p :: ps)
end
mutual
theorem Vw.dp (m : MemOk K F H M) : ∀ {d : D} {p : PyData} {v : V}, Vw M d p → Rp K F H d v → Dp K H v p
  | _, _, v, .non, r => by unfold Rp at r; subst r; exact Dp.non
  | _, _, v, .bl b, r => by unfold Rp at r; subst r; exact Dp.bl b
  | _, _, v, .int b, r => by unfold Rp at r; subst r; exact Dp.int b
  | _, _, v, .str b, r => by unfold Rp at r; subst r; exact Dp.str b
  | _, _, v, .tup h, r => by
    unfold Rp at r
    obtain ⟨a, vs, rfl, q, rr⟩ := r
    exact Dp.tup q.sq (Vws.dp m h rr)
  | _, _, v, .lst h, r => by
    unfold Rp at r
    obtain ⟨a, vs, rfl, q, _, rr⟩ := r
    exact Dp.lst (SqL.of q) (Vws.dp m h rr)
  | _, _, v, .ref e h, r => by
    obtain ⟨vs, h1, h2⟩ := (m.at_ _ _ e).2
    unfold Rp at r
    subst r
    exact Dp.lst (SqL.of h1) (Vws.dp m h h2)
theorem Vws.dp (m : MemOk K F H M) : ∀ {ds : List D} {ps : List PyData} {vs : List V}, Vws M ds ps → Rps K F H ds vs → DpAll K H vs ps
  | _, _, vs, .nil, r => by unfold Rps at r; subst r; exact DpAll.nil
  | _, _, vs, .cons h t, r => by
    unfold Rps at r
    obtain ⟨v, w, rfl, r1, r2⟩ := r
    exact DpAll.cons (Vw.dp m h r1) (Vws.dp m t r2)
end
theorem Vws.map {α : Type} {f : α → D} {g : α → PyData} (h : ∀ a, Vw M (f a) (g a)) : ∀ xs : List α, Vws M (xs.map f) (xs.map g)
  | [] => .nil
  | x :: xs => .cons (h x) (Vws.map h xs)
/-- two scalars -/
def eqS : D → D → Option Bool
  | .int i, .int j => some (decide (i = j))
  | .bl i, .bl j => some (decide (i = j))
  | .str i, .str j => some (decide (i = j))
  | .non, .non => some true
  | .non, .int _ => some false
  | .int _, .non => some false
  | _, _ => none
def dEqG (f : Bool → Bool) : DR2 := fun x y M Q => match eqS x y with
  | some b => Q (.bl (f b)) M
  | none => ∃ p q, Vw M x p ∧ Vw M y q ∧ SeqAt.shaped p = true ∧ SeqAt.shaped q = true ∧ Q (.bl (f (PyData.eqv p q))) M
abbrev dEq : DR2 := dEqG fun b => b
abbrev dNe : DR2 := dEqG fun b => !b
theorem eqS_at {d e : D} {x y : V} {b : Bool} (r1 : Rp K F H d x) (r2 : Rp K F H e y) (h : eqS d e = some b) : scal x y = true ∧ decide (x = y) = b := by
  cases d <;> cases e <;> first
    | (cases h; done)
    | (unfold Rp at r1 r2
       subst r1 r2
       cases h
       exact ⟨rfl, by simp⟩)
theorem od_eq (hK : X.K = K) (hu : X.A.units + 64 < cLine) : OpD K X (compareOp .Eq) dEq := by
  subst hK
  refine OpR.imp (OpR.or op_eq (op_eqD hu)) fun x y H Q ⟨F, M, d, e, Q', m, r1, r2, q, h⟩ => ?_
  unfold dEq dEqG at h
  cases z : eqS d e with
  | some b =>
    rw [z] at h
    obtain ⟨h1, h2⟩ := eqS_at r1 r2 z
    refine .inl ⟨h1, ?_⟩
    rw [h2]
    exact q F H M _ _ (Ext.refl _ _ _) m Rp.bl h
  | none =>
    rw [z] at h
    obtain ⟨p, p', v1, v2, s1, s2, h⟩ := h
    exact .inr ⟨p, p', v1.dp m r1, v2.dp m r2, s1, s2, q F H M _ _ (Ext.refl _ _ _) m Rp.bl h⟩
theorem od_ne (hK : X.K = K) (hu : X.A.units + 64 < cLine) : OpD K X (compareOp .NotEq) dNe := by
  subst hK
  refine OpR.imp (OpR.or op_ne (op_neD hu)) fun x y H Q ⟨F, M, d, e, Q', m, r1, r2, q, h⟩ => ?_
  unfold dNe dEqG at h
  cases z : eqS d e with
  | some b =>
    rw [z] at h
    obtain ⟨h1, h2⟩ := eqS_at r1 r2 z
    refine .inl ⟨h1, ?_⟩
    rw [h2]
    exact q F H M _ _ (Ext.refl _ _ _) m Rp.bl h
  | none =>
    rw [z] at h
    obtain ⟨p, p', v1, v2, s1, s2, h⟩ := h
    exact .inr ⟨p, p', v1.dp m r1, v2.dp m r2, s1, s2, q F H M _ _ (Ext.refl _ _ _) m Rp.bl h⟩
/-! is None -/
def isNon : D → Bool
  | .non => true
  | _ => false
def dIsN (f : Bool → Bool) : DR2
  | x, .non, M, Q => Q (.bl (f (isNon x))) M
  | _, _, _, _ => False
theorem isNon_at {d : D} {x : V} (r : Rp K F H d x) : decide (x = .non) = isNon d := by
  cases d <;> unfold Rp at r <;> first
    | (subst r; rfl)
    | (obtain ⟨a, vs, rfl, _⟩ := r; rfl)
    | (obtain ⟨a, dx, gs, rfl, _⟩ := r; rfl)
    | (obtain ⟨a, rfl, _⟩ := r; rfl)
    | (obtain ⟨rfl, _⟩ := r; rfl)
theorem od_isN : OpD K X (compareOp .Is) (dIsN fun b => b) := OpR.imp op_isN fun x y H Q ⟨F, M, d, e, Q', m, r1, r2, q, h⟩ => by
  cases e with
  | non =>
    unfold Rp at r2
    refine ⟨r2, ?_⟩
    rw [isNon_at r1]
    exact q F H M _ _ (Ext.refl _ _ _) m Rp.bl h
  | _ => exact h.elim
theorem od_notN : OpD K X (compareOp .IsNot) (dIsN fun b => !b) := OpR.imp op_notN fun x y H Q ⟨F, M, d, e, Q', m, r1, r2, q, h⟩ => by
  cases e with
  | non =>
    unfold Rp at r2
    refine ⟨r2, ?_⟩
    rw [isNon_at r1]
    exact q F H M _ _ (Ext.refl _ _ _) m Rp.bl h
  | _ => exact h.elim

/-! ### subscripts -/
def dIx : DR2
  | x, .int i, M, Q => onS M x fun ds => ∃ d, atI ds i = some d ∧ Q d M
  | _, _, _, _ => False
theorem atI_rps {ds : List D} {vs : List V} {i : Int} {d : D} (r : Rps K F H ds vs) (h : atI ds i = some d) : ∃ v, atI vs i = some v ∧ Rp K F H d v := by
  unfold atI at h ⊢
  rw [r.length]
  cases e : ixN ds.length i with
  | none => rw [e] at h; cases h
  | some j =>
    rw [e] at h
    exact r.get h
theorem xd_ix (hK : X.K = K) : IxD K X dIx := by
  subst hK
  refine IxR.imp (ix_list.or ix_tup) fun x y H Q ⟨F, M, d, e, Q', m, r1, r2, q, h⟩ => ?_
  cases e with
  | int i =>
    have h' : onS M d fun ds => ∃ d', atI ds i = some d' ∧ Q' d' M := h
    obtain ⟨ds, a, vs, ⟨d', h1, h2⟩, rfl, k, r⟩ := onS_at m r1 h'
    obtain ⟨v, h3, h4⟩ := atI_rps r h1
    have fin := q F H M _ _ (Ext.refl _ _ _) m h4 h2
    exact k.imp (fun k => ⟨a, vs, i, v, rfl, r2.int_inv, k, h3, fin⟩) fun k => ⟨a, vs, i, v, rfl, r2.int_inv, k.sq, h3, fin⟩
  | _ => exact h.elim
end
end DL

/-! DL6: slices, methods of lists, stores, calls, built-ins. -/
namespace DL
open PySem PySem.Spec L2

section
variable {K : PySem.W.Frag} {X : Cx} {W : WX} {F : Addr → Prop} {H : Hp} {ρ : Dv} {M : Mem} {σ : L2.St} {a b e o : Expr} {ga gb gc : DE} {pos cpos apos : Pos}
/-! ### slices -/
abbrev DO := DXK → Dv → Mem → (Option Int → Mem → Prop) → Prop
def tGo (K : PySem.W.Frag) (W : WX) (g : DO) : TO := fun σ H Q => ∃ F ρ M E Q', Sta K F H ρ M σ ∧ XOk K F H M E W σ ∧ (∀ F' H' M' i, Ext F H M F' H' M' → MemOk K F' H' M' → Q' i M' → Q i H') ∧ g E ρ M Q'
def FO (K : PySem.W.Frag) (X : Cx) (W : WX) (e : Option Expr) (g : DO) : Prop := PO X e (tGo K W g)
theorem PO.imp {e : Option Expr} {t t' : TO} (h : PO X e t) (i : ∀ σ H Q, t' σ H Q → t σ H Q) : PO X e t' := ⟨fun pins s σ H Q I q => h.run pins s σ H Q I (i σ H Q q)⟩
def oNone : DO := fun _ _ M Q => Q none M
def oSome (g : DE) : DO := fun E ρ M Q => g E ρ M fun d M1 => match d with
  | .int i => Q (some i) M1
  | _ => False
theorem fo_none : FO K X W none oNone := PO.imp po_none fun σ H Q ⟨F, ρ, M, E, Q', s, x, q, h⟩ => q F H M none (Ext.refl _ _ _) s.mem h
theorem fo_some (he : FE K X W e ga) : FO K X W (some e) (oSome ga) := PO.imp (po_some he) fun σ H Q ⟨F, ρ, M, E, Q', s, x, q, h⟩ => tG_mk s x (fun F1 H1 M1 d v e1 m1 r1 h1 => by
  cases d with
  | int i => exact ⟨i, r1.int_inv, q F1 H1 M1 _ e1 m1 h1⟩
  | _ => exact h1.elim) h
def cutD {α : Type} (xs : List α) (lo hi : Option Int) : List α := (xs.drop (HT.sIx xs.length 0 lo)).take (HT.sIx xs.length xs.length hi - HT.sIx xs.length 0 lo)
theorem cutD_rps {ds : List D} {vs : List V} (r : Rps K F H ds vs) (lo hi : Option Int) : Rps K F H (cutD ds lo hi) (cutV vs lo hi) := by
  unfold cutD cutV
  rw [r.length]
  exact (r.drop _).take _
def nSl (g : DE) (gl gh : DO) : DN := fun E ρ M Q => g E ρ M fun x M1 => gl E ρ M1 fun l M2 => gh E ρ M2 fun h M3 => onL M3 x fun ds => Q (cutD ds l h) M3
theorem fn_slice {lo hi : Option Expr} {gl gh : DO} {p2 : Pos} (hK : X.K = K) (he : FE K X W e ga) (hl : FO K X W lo gl) (hh : FO K X W hi gh) : FN K X W (.Subscript e (.Slice lo hi none p2) pos) (nSl ga gl gh) := by
  subst hK
  refine PE.imp (pe_slice sl_list he hl hh) fun σ H Q ⟨F, ρ, M, E, Q', s, x, q, h⟩ => tG_mk s x (fun F1 H1 M1 d v e1 m1 r1 h1 => ⟨F1, ρ, M1, E, _, s.next e1 m1, x.next e1, fun F2 H2 M2 i e2 m2 h2 => ⟨F2, ρ, M2, E, _, (s.next e1 m1).next e2 m2, (x.next e1).next e2, fun F3 H3 M3 j e3 m3 h3 => ?_, h2⟩, h1⟩) h
  obtain ⟨ds, l, vs, _, h4, rfl, hv, rv⟩ := onL_at m3 (Rp.mono (e2.trans e3).toExtW _ _ r1) h3
  exact ⟨l, vs, rfl, SqL.of hv, fun p hp => newL ((e1.trans e2).trans e3) m3 (cutD_rps rv i j) hp q h4⟩
/-- a cut of a list (frozen) or of a tuple -/
def gSl (g : DE) (gl gh : DO) : DE := fun E ρ M Q => g E ρ M fun x M1 => gl E ρ M1 fun l M2 => gh E ρ M2 fun h M3 => match x with
  | .tup ds => Q (.tup (cutD ds l h)) M3
  | x => onL M3 x fun ds => Q (.lst (cutD ds l h)) M3
theorem fe_slice {lo hi : Option Expr} {gl gh : DO} {p2 : Pos} (hK : X.K = K) (he : FE K X W e ga) (hl : FO K X W lo gl) (hh : FO K X W hi gh) : FE K X W (.Subscript e (.Slice lo hi none p2) pos) (gSl ga gl gh) := by
  subst hK
  refine PE.imp (pe_slice (SlR.or sl_list sl_tupA) he hl hh) fun σ H Q ⟨F, ρ, M, E, Q', s, x, q, h⟩ => tG_mk s x (fun F1 H1 M1 d v e1 m1 r1 h1 => ⟨F1, ρ, M1, E, _, s.next e1 m1, x.next e1, fun F2 H2 M2 i e2 m2 h2 => ⟨F2, ρ, M2, E, _, (s.next e1 m1).next e2 m2, (x.next e1).next e2, fun F3 H3 M3 j e3 m3 h3 => ?_, h2⟩, h1⟩) h
  have r3 := Rp.mono (e2.trans e3).toExtW _ _ r1
  have e03 := (e1.trans e2).trans e3
  cases d with
  | tup ds =>
    have rr3 := r3
    unfold Rp at r3
    obtain ⟨l, vs, rfl, hv, rv⟩ := r3
    refine .inr ⟨l, vs, rfl, hv.sq, fun z => ?_, fun _ p hp => newT e03 m3 (cutD_rps rv i j) hp q h3⟩
    have e : cutD ds i j = ds := by
      rw [rv.length] at z
      unfold cutD
      rw [z.1, z.2]
      simp
    have h3' : Q' (.tup (cutD ds i j)) M3 := h3
    rw [e] at h3'
    exact q F3 H3 M3 _ _ e03 m3 rr3 h3'
  | lst ds =>
    obtain ⟨ds, l, vs, _, h4, rfl, hv, rv⟩ := onL_at m3 r3 h3
    exact .inl ⟨l, vs, rfl, SqL.of hv, fun p hp => newF e03 m3 (cutD_rps rv i j) hp q h4⟩
  | ref r =>
    obtain ⟨ds, l, vs, _, h4, rfl, hv, rv⟩ := onL_at m3 r3 h3
    exact .inl ⟨l, vs, rfl, SqL.of hv, fun p hp => newF e03 m3 (cutD_rps rv i j) hp q h4⟩
  | _ => exact h3.elim

/-! ### methods of lists -/
abbrev DRm := D → List D → Mem → DVK → Prop
def rGm (K : PySem.W.Frag) (rd : DRm) : V → List V → Hp → VK → Prop := fun x xs H Q => ∃ F M d ds Q', MemOk K F H M ∧ Rp K F H d x ∧ Rps K F H ds xs ∧ VOk K F H M Q' Q ∧ rd d ds M Q'
def MtD (K : PySem.W.Frag) (X : Cx) (id : String) (rd : DRm) : Prop := MtR X id (rGm K rd)
theorem MtR.imp {id : String} {r r' : V → List V → Hp → VK → Prop} (h : MtR X id r) (i : ∀ x xs H Q, r' x xs H Q → r x xs H Q) : MtR X id r' := fun pins s σ H x xs v us Q I rx rv q => h pins s σ H x xs v us Q I rx rv (i x xs H Q q)
/-- o.name(..) of a list -/
def gMt (rd : DRm) (go : DE) (g : DA) : DE := fun E ρ M Q => go E ρ M fun x M1 => (onL M1 x fun _ => True) ∧ g E ρ M1 fun ds M2 => rd x ds M2 Q
def gMt0 (rd : DRm) (go : DE) : DE := fun E ρ M Q => go E ρ M fun x M1 => (onL M1 x fun _ => True) ∧ rd x [] M1 Q
theorem fe_mt {es : List Expr} {name : Str} {id : String} {rd : DRm} {g : DA} (hK : X.K = K) (slot : Slot "list" name id) (hty : typeOf (.builtin id) = pure (.type "method_descriptor")) (hm : MtD K X id rd) (ho : FE K X W o ga) (ha : FA K X W (e :: es) g)
    (hbase : attributeBase o name X.env (eval o X.env) = eval o X.env := by rfl)
    (hfew : ((backTo cpos (starEach (e :: es) X.env)).all (fun x => !x.1) && (backToKw cpos (keywordEach [] X.env)).all (fun x => x.1.isSome)
      && decide ((e :: es).length + ([] : List Keyword).length + (if ([] : List Keyword).isEmpty then 0 else 1) < 30)) = true := by rfl)
    (hline : (apos.endLine == cpos.line) = true := by rfl) (hs : starEach (e :: es) X.env = (false, eval e X.env) :: starEach es X.env := by rfl) (hpl : (backTo cpos (starEach es X.env)).any (·.1) = false := by rfl) :
    FE K X W (.Call (.Attribute o name apos) (e :: es) [] cpos) (gMt rd ga g) := by
  subst hK
  refine PE.imp (pe_bm PySem.F.plainAttrs_list slot hty hm ho ha hbase hfew hline hs hpl) fun σ H Q ⟨F, ρ, M, E, Q', s, x, q, h⟩ => tG_mk s x (fun F1 H1 M1 d v e1 m1 r1 ⟨h0, h1⟩ => ?_) h
  obtain ⟨ds, l, vs, _, _, rfl, hv, rv⟩ := onL_at m1 r1 h0
  exact ⟨.inl ⟨rfl, vs, SqL.of hv⟩, F1, ρ, M1, E, _, s.next e1 m1, x.next e1, fun F2 H2 M2 ds2 vs2 e2 m2 r2 h2 => (⟨F2, M2, d, ds2, Q', m2, Rp.mono e2.toExtW _ _ r1, r2, q.next (e1.trans e2), h2⟩ : rGm X.K rd _ _ H2 Q), h1⟩
theorem fe_mt0 {name : Str} {id : String} {rd : DRm} (hK : X.K = K) (slot : Slot "list" name id) (hty : typeOf (.builtin id) = pure (.type "method_descriptor")) (hm : MtD K X id rd) (ho : FE K X W o ga)
    (hbase : attributeBase o name X.env (eval o X.env) = eval o X.env := by rfl) (hline : (apos.endLine == cpos.line) = true := by rfl) : FE K X W (.Call (.Attribute o name apos) [] [] cpos) (gMt0 rd ga) := by
  subst hK
  refine PE.imp (pe_bm0 PySem.F.plainAttrs_list slot hty hm ho hbase hline) fun σ H Q ⟨F, ρ, M, E, Q', s, x, q, h⟩ => tG_mk s x (fun F1 H1 M1 d v e1 m1 r1 ⟨h0, h1⟩ => ?_) h
  obtain ⟨ds, l, vs, _, _, rfl, hv, rv⟩ := onL_at m1 r1 h0
  exact ⟨.inl ⟨rfl, vs, SqL.of hv⟩, F1, M1, d, [], Q', m1, r1, Rps.nil, q.next e1, h1⟩
/-- the list at a cell of the store -/
def onC (M : Mem) (d : D) (k : Addr → List D → Prop) : Prop := match d with
  | .ref a => ∃ ds, M a = some (.lst ds) ∧ k a ds
  | _ => False
theorem onC_at {d : D} {v : V} {k : Addr → List D → Prop} (m : MemOk K F H M) (r : Rp K F H d v) (h : onC M d k) : ∃ a ds vs, d = .ref a ∧ v = .ref a ∧ M a = some (.lst ds) ∧ ¬ F a ∧ H a = some (.lst vs) ∧ Rps K F H ds vs ∧ k a ds := by
  cases d with
  | ref a =>
    obtain ⟨ds, e, h⟩ := h
    obtain ⟨n, vs, h1, h2⟩ := m.at_ a _ e
    unfold Rp at r
    exact ⟨a, ds, vs, rfl, r, e, n, h1, h2, h⟩
  | _ => exact h.elim
/-- a list of the store is changed to what shows ds' -/
theorem chL {a : Addr} {ds ds' : List D} {vs vs' : List V} {u : V} {d : D} {Q : VK} {Q' : DVK} (m : MemOk K F H M) (e : M a = some (.lst ds)) (n : ¬ F a) (hv : H a = some (.lst vs)) (r : Rps K F H ds' vs') (q : VOk K F H M Q' Q) (hd : ∀ H', ExtW F H F H' → Rp K F H' d u)
    (h : Q' d (mset M a (.lst ds'))) : Q u (upd H a (.lst vs')) := by
  have w : ExtW F H F (upd H a (.lst vs')) := ExtW.wr hv n
  have hM : M a ≠ none := by rw [e]; exact fun z => nomatch z
  refine q F _ (mset M a (.lst ds')) d u (Ext.write hv n hM (fun b z => ?_) (fun _ z => nomatch z) (fun _ _ z => nomatch z) fun _ z => nomatch z) (m.set hv n w ⟨vs', upd_same, Rps.mono w _ _ r⟩) (hd _ w) h
  by_cases y : b = a
  · rw [y]; exact hM
  · rw [mset_ne y] at z; exact z
def dAppend : DRm := fun x ds M Q => match ds with
  | [d] => onC M x fun a xs => xs.length < sizeLine ∧ Q .non (mset M a (.lst (xs ++ [d])))
  | _ => False
theorem md_append : MtD K X "list.append" dAppend := MtR.imp mt_append fun x xs H Q ⟨F, M, d, ds, Q', m, r, rs, q, h⟩ => by
  match ds, h with
  | [y], h =>
    obtain ⟨w, rfl, rw'⟩ := rs.one
    obtain ⟨a, es, vs, rfl, rfl, e, n, hv, rv, hz, h⟩ := onC_at m r h
    exact ⟨a, vs, w, rfl, rfl, hv, by rw [rv.length]; exact hz, chL m e n hv (Rps.append rv (Rps.cons rw' Rps.nil)) q (fun _ _ => Rp.non) h⟩
def dPop : DRm := fun x ds M Q => match ds with
  | [] => onC M x fun a xs => ∃ y, xs[xs.length - 1]? = some y ∧ Q y (mset M a (.lst xs.dropLast))
  | [.int i] => onC M x fun a xs => (-(2 ^ 63) ≤ i ∧ i < 2 ^ 63) ∧ ∃ k y, seqIndex? i xs.length = some k ∧ xs[k]? = some y ∧ Q y (mset M a (.lst (xs.eraseIdx k)))
  | _ => False
theorem Rps.dropLast {ds : List D} {vs : List V} (r : Rps K F H ds vs) : Rps K F H ds.dropLast vs.dropLast := by
  rw [List.dropLast_eq_take, List.dropLast_eq_take, r.length]
  exact r.take _
theorem md_pop : MtD K X "list.pop" dPop := MtR.imp (MtR.or mt_pop mt_popAt) fun x xs H Q ⟨F, M, d, ds, Q', m, r, rs, q, h⟩ => by
  match ds, h with
  | [], h =>
    unfold Rps at rs
    subst rs
    obtain ⟨a, es, vs, rfl, rfl, e, n, hv, rv, y, hy, h⟩ := onC_at m r h
    obtain ⟨w, hw, rw'⟩ := rv.get hy
    exact .inl ⟨a, vs, w, rfl, rfl, hv, by rw [rv.length]; exact hw, chL m e n hv rv.dropLast q (fun _ z => Rp.mono z _ _ rw') h⟩
  | [.int i], h =>
    obtain ⟨w, rfl, rw'⟩ := rs.one
    obtain ⟨a, es, vs, rfl, rfl, e, n, hv, rv, ⟨h1, h2⟩, k, y, hk, hy, h⟩ := onC_at m r h
    obtain ⟨u, hu, ru⟩ := rv.get hy
    exact .inr ⟨a, vs, i, k, u, rfl, by rw [rw'.int_inv], hv, h1, h2, by rw [rv.length]; exact hk, hu, chL m e n hv (rv.eraseIdx k) q (fun _ z => Rp.mono z _ _ ru) h⟩
def dReverse : DRm := fun x ds M Q => match ds with
  | [] => onC M x fun a xs => Q .non (mset M a (.lst xs.reverse))
  | _ => False
theorem md_reverse : MtD K X "list.reverse" dReverse := MtR.imp mt_reverse fun x xs H Q ⟨F, M, d, ds, Q', m, r, rs, q, h⟩ => by
  match ds, h with
  | [], h =>
    unfold Rps at rs
    subst rs
    obtain ⟨a, es, vs, rfl, rfl, e, n, hv, rv, h⟩ := onC_at m r h
    exact ⟨a, vs, rfl, rfl, hv, chL m e n hv rv.reverse q (fun _ _ => Rp.non) h⟩
def dInsert : DRm := fun x ds M Q => match ds with
  | [.int i, d] => onC M x fun a xs => (xs.length < sizeLine ∧ 0 ≤ i ∧ i < 2 ^ 63) ∧ Q .non (mset M a (.lst (xs.take i.toNat ++ [d] ++ xs.drop i.toNat)))
  | _ => False
theorem md_insert : MtD K X "list.insert" dInsert := MtR.imp mt_insert fun x xs H Q ⟨F, M, d, ds, Q', m, r, rs, q, h⟩ => by
  match ds, h with
  | [.int i, y], h =>
    obtain ⟨v, w, rfl, r1, r2⟩ := rs.two
    obtain ⟨a, es, vs, rfl, rfl, e, n, hv, rv, ⟨hz, h0, h1⟩, h⟩ := onC_at m r h
    exact ⟨a, vs, i, w, rfl, by rw [r1.int_inv], hv, by rw [rv.length]; exact hz, h0, h1, chL m e n hv (((rv.take _).append (Rps.cons r2 Rps.nil)).append (rv.drop _)) q (fun _ _ => Rp.non) h⟩

/-! ### stores -/
def dSetIx : D → D → D → Mem → (Mem → Prop) → Prop
  | o, .int i, v, M, Q => onC M o fun a xs => ∃ j, ixN xs.length i = some j ∧ Q (mset M a (.lst (xs.set j v)))
  | _, _, _, _, _ => False
def tSetG (K : PySem.W.Frag) : TSet := fun o i v H Q => ∃ F M d e f Q', MemOk K F H M ∧ Rp K F H d o ∧ Rp K F H e i ∧ Rp K F H f v ∧ (∀ F' H' M', Ext F H M F' H' M' → MemOk K F' H' M' → Q' M' → Q H') ∧ dSetIx d e f M Q'
theorem set_ix : PSet X (tSetG K) := fun pins s σ H o i v ov iv u Q I ro ri rv h => set_list pins s σ H o i v ov iv u Q I ro ri rv (by
  obtain ⟨F, M, d, e, f, Q', m, r1, r2, r3, q, h⟩ := h
  cases e with
  | int k =>
    have h' : onC M d fun a xs => ∃ j, ixN xs.length k = some j ∧ Q' (mset M a (.lst (xs.set j f))) := h
    obtain ⟨a, es, vs, rfl, rfl, e, n, hv, rv, j, hj, h⟩ := onC_at m r1 h'
    have w : ExtW F H F (upd H a (.lst (vs.set j v))) := ExtW.wr hv n
    have hM : M a ≠ none := by rw [e]; exact fun z => nomatch z
    refine ⟨a, vs, k, j, rfl, r2.int_inv, hv, by rw [rv.length]; exact hj, q F _ (mset M a (.lst (es.set j f))) (Ext.write hv n hM (fun b z => ?_) (fun _ z => nomatch z) (fun _ _ z => nomatch z) fun _ z => nomatch z) (m.set hv n w ⟨_, upd_same, Rps.mono w _ _ (rv.set j r3)⟩) h⟩
    by_cases y : b = a
    · rw [y]; exact hM
    · rw [mset_ne y] at z; exact z
  | _ => exact h.elim)
/-- o[i] = v -/
def sSetIx (g go gi : DE) : DS := fun E ρ M => g (fun x M => E.ex x ρ M) ρ M fun v M1 => go (fun x M => E.ex x ρ M) ρ M1 fun o M2 => gi (fun x M => E.ex x ρ M) ρ M2 fun i M3 => dSetIx o i v M3 fun M4 => E.nx ρ M4
theorem fs_setIx {i : Expr} {p2 : Pos} (hv : FE K X W e ga) (ho : FE K X W o gb) (hi : FE K X W i gc) (hs : swapsWithSole [.Subscript o i p2] e pos.line X.env = pure false := by rfl) (hw : swappedStores [.Subscript o i p2] e X.env = pure none := by rfl)
    (h1 : (assignEach [.Subscript o i p2] X.env).map (·.2) = [assign (.Subscript o i p2) X.env] := by rfl)
    (ha : ∀ v, assign (.Subscript o i p2) X.env v = (do
      let ov ← holding [v] (eval o X.env)
      let iv ← holding [v, ov] (eval i X.env)
      standAt p2
      holding [v, ov, iv] (setItem ov iv v)
      release [v, ov, iv] []) := by intro _; rfl) : FS K X W (.Assign [.Subscript o i p2] e pos) (sSetIx ga gb gc) :=
  PS.imp (ps_asg hv (pg_sub ho hi (set_ix (K := K)) ha) hs hw h1) fun D σ H ⟨F, ρ, M, E', s, x, h⟩ => tG_mk s (x.ex.at_ s) (fun F1 H1 M1 d v e1 m1 r1 h1 =>
    two (R := fun o i H3 => tSetG K o i v H3 fun H4 => D.nx σ H4) (s.next e1 m1) ((x.ex.at_ s).next e1) h1 fun F2 H2 M2 d2 e2 v2 u2 x2 m2 r2 r3 h2 => ⟨F2, M2, d2, e2, d, _, m2, r2, r3, Rp.mono x2.toExtW _ _ r1, fun F3 H3 M3 x3 m3 h3 => x.nx F3 H3 ρ M3 σ (e1.trans (x2.trans x3)) (s.next (e1.trans (x2.trans x3)).toExtW m3) h3, h2⟩) h

/-! ### calls of defs -/
abbrev SpD := List D → Mem → DVK → DXK → Prop
def liftSp (K : PySem.W.Frag) (sp : SpD) : Sp := fun vs H Q E => ∃ F M ds Q' E', MemOk K F H M ∧ Rps K F H ds vs ∧ VOk K F H M Q' Q ∧ (∀ F' H' M' x cls d, Ext F H M F' H' M' → MemOk K F' H' M' → RpX K F' H' x cls d → E' x M' → E cls d H') ∧ sp ds M Q' E'
/-- a def that keeps a deep promise -/
abbrev FnD (P : Program) (w : World) (K : PySem.W.Frag) (mg : Str → Option Value) (base : Heap) (k : Nat) (f : Addr) (fd : FuncData) (ps : List Str) (sp : SpD) : Prop := FnOk P w K mg base (L2.CX P w) k f fd ps (liftSp K sp)
def gCall (sp : SpD) (g : DA) : DE := fun E ρ M Q => g E ρ M fun ds M1 => sp ds M1 Q E
theorem call_im {sp : SpD} {g : DA} : ∀ σ H Q, tG K W (gCall sp g) σ H Q → tCallS (liftSp K sp) (WE W) (tGa K W g) σ H Q := fun σ H Q ⟨F, ρ, M, E, Q', s, x, q, h⟩ =>
  (⟨F, ρ, M, E, _, s, x, fun F1 H1 M1 ds vs e1 m1 r1 h1 => (⟨F1, M1, ds, Q', E, m1, r1, q.next e1, x.next e1, h1⟩ : liftSp K sp vs H1 Q _), h⟩ : tGa K W g σ H _)
theorem fe_call {k : Nat} {f : Addr} {fd : FuncData} {ps : List Str} {sp : SpD} {x : Str} {p : Pos} {es : List Expr} {g : DA} (C : FnD X.prog X.w K X.mg X.base k f fd ps sp) (hr : Room k X.A) (tk : Takes X W) (hm : X.mg x = some (.ref f)) (hk : PySem.W.keepIn K (.ref f) = true) (hb : Binds K fd ps []) (ha : FA K X W (e :: es) g)
    (hK : X.K = K := by rfl) (hg : Gl X x := by rfl) (hdb : (x == ("__debug__" : Str)) = false := by decide) (he : starEach (e :: es) X.env = (false, eval e X.env) :: starEach es X.env := by rfl) (hpl : (backTo pos (starEach es X.env)).any (·.1) = false := by rfl) :
    FE K X W (.Call (.Name x p) (e :: es) [] pos) (gCall sp g) := by
  subst hK
  exact PE.imp (pe_callS C hr hg hm hk hb (fun σ => passAt tk σ) ha hdb he hpl) call_im

/-! ### built-in functions and types -/
def gCB (rd : DRs) (g : DA) : DE := fun E ρ M Q => g E ρ M fun ds M1 => rd ds M1 Q
theorem cb_im {rd : DRs} {g : DA} : ∀ σ H Q, tG K W (gCB rd g) σ H Q → tCB (rGs K rd) (tGa K W g) σ H Q := fun σ H Q ⟨F, ρ, M, E, Q', s, x, q, h⟩ =>
  (⟨F, ρ, M, E, _, s, x, fun F1 H1 M1 ds vs e1 m1 r1 h1 => (⟨F1, M1, ds, Q', m1, r1, q.next e1, h1⟩ : rGs K rd vs H1 Q), h⟩ : tGa K W g σ H _)
theorem fe_cb {rd : DRs} {id : String} {x : Str} {p : Pos} {es : List Expr} {g : DA} (hc : CallD K X (.builtin id) rd) (hm : X.mg x = none) (hv : bootBuiltins x = some (.builtin id)) (ha : FA K X W (e :: es) g) (hg : Gl X x := by rfl) (hn : x ≠ "__name__" := by decide) (hdb : (x == ("__debug__" : Str)) = false := by decide)
    (he : starEach (e :: es) X.env = (false, eval e X.env) :: starEach es X.env := by rfl) (hpl : (backTo pos (starEach es X.env)).any (·.1) = false := by rfl) : FE K X W (.Call (.Name x p) (e :: es) [] pos) (gCB rd g) := PE.imp (pe_callB hc hg hm hv ha hn hdb he hpl) cb_im
theorem fe_ct {rd : DRs} {T : String} {x : Str} {p : Pos} {es : List Expr} {g : DA} (hc : CallD K X (.type T) rd) (hm : X.mg x = none) (hv : bootBuiltins x = some (.type T)) (ha : FA K X W (e :: es) g) (hg : Gl X x := by rfl) (hn : x ≠ "__name__" := by decide) (hdb : (x == ("__debug__" : Str)) = false := by decide)
    (he : starEach (e :: es) X.env = (false, eval e X.env) :: starEach es X.env := by rfl) (hpl : (backTo pos (starEach es X.env)).any (·.1) = false := by rfl) : FE K X W (.Call (.Name x p) (e :: es) [] pos) (gCB rd g) := PE.imp (pe_callTy hc hg hm hv ha hn hdb he hpl) cb_im
def dLen : DRs := fun ds M Q => match ds with
  | [x] => onS M x fun xs => Q (.int xs.length) M
  | _ => False
theorem cd_len (hK : X.K = K) : CallD K X (.builtin "len") dLen := by
  subst hK
  refine CallR.imp call_len_seq fun xs H Q ⟨F, M, ds, Q', m, r, q, h⟩ => ?_
  match ds, h with
  | [d], h =>
    obtain ⟨v, rfl, rv⟩ := r.one
    have h' : onS M d fun xs => Q' (.int xs.length) M := h
    obtain ⟨es, a, vs, h, rfl, k, r⟩ := onS_at m rv h'
    exact ⟨a, vs, rfl, k.imp (fun z => z) TupAt.sq, by rw [r.length]; exact q F H M _ _ (Ext.refl _ _ _) m Rp.int h⟩
/-- list(xs): new -/
def rNs (K : PySem.W.Frag) (rd : List D → Mem → (List D → Mem → Prop) → Prop) : List V → Hp → VK → Prop := fun xs H Q => ∃ F M ds Q', MemOk K F H M ∧ Rps K F H ds xs ∧
  (∀ F' H' M' ds vs p, Ext F H M F' H' M' → MemOk K F' H' M' → (M p ≠ none ∨ H p = none) → H' p = some (.lst vs) → ¬ F' p → M' p = none → Rps K F' H' ds vs → Q' ds M' → Q (.ref p) H') ∧ rd ds M Q'
def nCB (rd : List D → Mem → (List D → Mem → Prop) → Prop) (g : DA) : DN := fun E ρ M Q => g E ρ M fun ds M1 => rd ds M1 Q
theorem nb_im {rd : List D → Mem → (List D → Mem → Prop) → Prop} {g : DA} : ∀ σ H Q, tN K W (nCB rd g) σ H Q → tCB (rNs K rd) (tGa K W g) σ H Q := fun σ H Q ⟨F, ρ, M, E, Q', s, x, q, h⟩ =>
  (⟨F, ρ, M, E, _, s, x, fun F1 H1 M1 ds vs e1 m1 r1 h1 => (⟨F1, M1, ds, Q', m1, r1, fun F3 H3 M3 ds vs p e3 m3 wp => q F3 H3 M3 ds vs p (e1.trans e3) m3 (wp.elim (fun z => e1.dom p z) fun z => e1.was z), h1⟩ : rNs K rd vs H1 Q), h⟩ : tGa K W g σ H _)
theorem fn_cb {rd : List D → Mem → (List D → Mem → Prop) → Prop} {id : String} {x : Str} {p : Pos} {es : List Expr} {g : DA} (hc : CallR X (.builtin id) (rNs K rd)) (hm : X.mg x = none) (hv : bootBuiltins x = some (.builtin id)) (ha : FA K X W (e :: es) g) (hg : Gl X x := by rfl) (hn : x ≠ "__name__" := by decide) (hdb : (x == ("__debug__" : Str)) = false := by decide)
    (he : starEach (e :: es) X.env = (false, eval e X.env) :: starEach es X.env := by rfl) (hpl : (backTo pos (starEach es X.env)).any (·.1) = false := by rfl) : FN K X W (.Call (.Name x p) (e :: es) [] pos) (nCB rd g) := PE.imp (pe_callB hc hg hm hv ha hn hdb he hpl) nb_im
theorem fn_ct {rd : List D → Mem → (List D → Mem → Prop) → Prop} {T : String} {x : Str} {p : Pos} {es : List Expr} {g : DA} (hc : CallR X (.type T) (rNs K rd)) (hm : X.mg x = none) (hv : bootBuiltins x = some (.type T)) (ha : FA K X W (e :: es) g) (hg : Gl X x := by rfl) (hn : x ≠ "__name__" := by decide) (hdb : (x == ("__debug__" : Str)) = false := by decide)
    (he : starEach (e :: es) X.env = (false, eval e X.env) :: starEach es X.env := by rfl) (hpl : (backTo pos (starEach es X.env)).any (·.1) = false := by rfl) : FN K X W (.Call (.Name x p) (e :: es) [] pos) (nCB rd g) := PE.imp (pe_callTy hc hg hm hv ha hn hdb he hpl) nb_im
def nListOf : List D → Mem → (List D → Mem → Prop) → Prop := fun ds M Q => match ds with
  | [x] => onS M x fun xs => Q xs M
  | _ => False
theorem cn_list (hK : X.K = K) : CallR X (.type "list") (rNs K nListOf) := by
  subst hK
  refine CallR.imp call_list_of fun xs H Q ⟨F, M, ds, Q', m, r, q, h⟩ => ?_
  match ds, h with
  | [d], h =>
    obtain ⟨v, rfl, rv⟩ := r.one
    have h' : onS M d fun xs => Q' xs M := h
    obtain ⟨es, a, vs, h, rfl, k, r⟩ := onS_at m rv h'
    exact ⟨a, vs, rfl, k.imp (fun z => z) TupAt.sq, fun p hp => newL (Ext.refl _ _ _) m r hp q h⟩
def dTupleOf : DRs := fun ds M Q => match ds with
  | [x] => onS M x fun xs => Q (.tup xs) M
  | _ => False
theorem cd_tuple (hK : X.K = K) : CallD K X (.type "tuple") dTupleOf := by
  subst hK
  refine CallR.imp call_tuple_of fun xs H Q ⟨F, M, ds, Q', m, r, q, h⟩ => ?_
  match ds, h with
  | [d], h =>
    obtain ⟨v, rfl, rv⟩ := r.one
    have h' : onS M d fun xs => Q' (.tup xs) M := h
    obtain ⟨es, a, vs, h, rfl, k, rr⟩ := onS_at m rv h'
    refine ⟨a, vs, rfl, k.imp (fun k => ⟨k, fun p hp => newT (Ext.refl _ _ _) m rr hp q h⟩) fun k => ⟨k.sq, q F H M _ _ (Ext.refl _ _ _) m ?_ h⟩⟩
    unfold Rp
    exact ⟨a, vs, rfl, k, rr⟩
def dSum : DRs := fun ds M Q => match ds with
  | [x] => onL M x fun xs => ∃ ns : List Int, xs = ns.map D.int ∧ Q (.int ns.sum) M
  | _ => False
theorem cd_sum (hK : X.K = K) (hc : X.calm = true) : CallD K X (.builtin "sum") dSum := by
  subst hK
  refine CallR.imp (cr_sum hc) fun xs H Q ⟨F, M, ds, Q', m, r, q, h⟩ => ?_
  match ds, h with
  | [d], h =>
    obtain ⟨v, rfl, rv⟩ := r.one
    obtain ⟨es, a, vs, _, ⟨ns, rfl, h⟩, rfl, k, rr⟩ := onL_at m rv h
    have z := Rp.ints rr
    subst z
    exact ⟨a, ns, rfl, SqL.of k, q F H M _ _ (Ext.refl _ _ _) m Rp.int h⟩
/-- abs, int of an int -/
def dAbs : DRs := fun ds M Q => match ds with
  | [.int i] => Q (.int (if i < 0 then -i else i)) M
  | _ => False
theorem cd_abs : CallD K X (.builtin "abs") dAbs := CallR.imp call_abs fun xs H Q ⟨F, M, ds, Q', m, r, q, h⟩ => by
  match ds, h with
  | [.int i], h =>
    obtain ⟨v, rfl, rv⟩ := r.one
    exact ⟨i, by rw [rv.int_inv], q F H M _ _ (Ext.refl _ _ _) m Rp.int h⟩
def dInt : DRs := fun ds M Q => match ds with
  | [.int i] => Q (.int i) M
  | [.bl b] => Q (.int (if b = true then 1 else 0)) M
  | _ => False
theorem cd_int : CallD K X (.type "int") dInt := CallR.imp call_int1 fun xs H Q ⟨F, M, ds, Q', m, r, q, h⟩ => by
  match ds, h with
  | [.int i], h =>
    obtain ⟨v, rfl, rv⟩ := r.one
    exact .inl ⟨i, by rw [rv.int_inv], q F H M _ _ (Ext.refl _ _ _) m Rp.int h⟩
  | [.bl b], h =>
    obtain ⟨v, rfl, rv⟩ := r.one
    exact .inr ⟨b, by rw [rv.bl_inv], q F H M _ _ (Ext.refl _ _ _) m Rp.int h⟩
/-! isinstance -/
inductive Kd | none | bool | int | str | tuple | list
  deriving DecidableEq
def Kd.name : Kd → String
  | .none => "NoneType" | .bool => "bool" | .int => "int" | .str => "str" | .tuple => "tuple" | .list => "list"
def kdOf (M : Mem) : D → Option Kd
  | .non => some .none
  | .bl _ => some .bool
  | .int _ => some .int
  | .str _ => some .str
  | .tup _ => some .tuple
  | .lst _ => some .list
  | .scr _ => some .list
  | .ref a => match M a with
    | some (.lst _) => some .list
    | _ => none
  | _ => none
theorem ty_of {d : D} {v : V} {k : Kd} (m : MemOk K F H M) (r : Rp K F H d v) (h : kdOf M d = some k) : TyX K H v (.type k.name) := by
  cases d with
  | non => cases h; unfold Rp at r; subst r; exact .base .non
  | bl b => cases h; unfold Rp at r; subst r; exact .base (.bl b)
  | int b => cases h; unfold Rp at r; subst r; exact .base (.int b)
  | str b => cases h; unfold Rp at r; subst r; exact .base (.str b)
  | tup ds =>
    cases h
    unfold Rp at r
    obtain ⟨a, vs, rfl, q, _⟩ := r
    rcases q with q | ⟨o, its, n, q1, q2, _⟩
    · exact .base (.tup q)
    · exact .kTuple q1 q2
  | lst ds =>
    cases h
    unfold Rp at r
    obtain ⟨a, vs, rfl, q, _⟩ := r
    exact .base (.lst q)
  | ref a =>
    have h' : (match M a with | some (.lst _) => some Kd.list | _ => none) = some k := h
    cases z : M a with
    | none => rw [z] at h'; cases h'
    | some o =>
      rw [z] at h'
      cases o with
      | ins C fs => cases h'
      | lst es =>
        cases h'
        obtain ⟨vs, h1, h2⟩ := (m.at_ a _ z).2
        unfold Rp at r
        subst r
        exact .base (.lst h1)
  | scr ns =>
    cases h
    unfold Rp at r
    obtain ⟨a, rfl, q⟩ := r
    rcases q with ⟨o, q⟩ | q
    · exact .base (.frz q)
    · rcases q H with (q1 | ⟨o, q1⟩) | ⟨o, its, n, q1, q2, _⟩
      · exact .base (.lst q1)
      · exact .base (.frz q1)
      · exact .kList q1 q2
  | _ => cases h
def isK (k : Kd) (n : String) : Option Bool := if n = "int" then some (k == .int || k == .bool) else if n = "bool" then some (k == .bool) else if n = "list" then some (k == .list) else if n = "tuple" then some (k == .tuple) else if n = "str" then some (k == .str) else none
theorem isK_ok {k : Kd} {n : String} {b : Bool} (h : isK k n = some b) : PySem.W.kitOne K (.type k.name) (.type n) = some b := by
  unfold isK at h
  have fin : ∀ {n : String} {b : Bool}, kitB k.name n = some b → PySem.W.kitOne K (.type k.name) (.type n) = some b := fun h => kit_ty h
  split at h
  · subst_vars; cases h; apply fin; cases k <;> decide +kernel
  split at h
  · subst_vars; cases h; apply fin; cases k <;> decide +kernel
  split at h
  · subst_vars; cases h; apply fin; cases k <;> decide +kernel
  split at h
  · subst_vars; cases h; apply fin; cases k <;> decide +kernel
  split at h
  · subst_vars; cases h; apply fin; cases k <;> decide +kernel
  · cases h
def isKs (k : Kd) : List D → Option Bool
  | [] => some false
  | .ty n :: ds => match isK k n with
    | some true => some true
    | some false => isKs k ds
    | none => none
  | _ :: _ => none
def dIsi : DRs := fun ds M Q => match ds with
  | [x, .ty n] => ∃ k b, kdOf M x = some k ∧ isK k n = some b ∧ Q (.bl b) M
  | [x, .tup ts] => ∃ k b, kdOf M x = some k ∧ isKs k ts = some b ∧ (∃ ns : List String, ts = ns.map D.ty) ∧ Q (.bl b) M
  | _ => False
theorem isKs_ok {k : Kd} : ∀ {ns : List String} {b : Bool}, isKs k (ns.map D.ty) = some b → PySem.W.kitAny K (.type k.name) (ns.map Value.type) = some b
  | [], b, h => by cases h; exact kitAny_nil
  | n :: ns, b, h => by
    have h' : (match isK k n with | some true => some true | some false => isKs k (ns.map D.ty) | none => none) = some b := h
    cases z : isK k n with
    | none => rw [z] at h'; cases h'
    | some c =>
      rw [z] at h'
      cases c with
      | true => cases h'; exact kitAny_cons (isK_ok z) (fun q => nomatch q) fun _ => rfl
      | false => exact kitAny_cons (isK_ok z) (fun _ => isKs_ok h') fun q => nomatch q
theorem Rp.ty_inv {n : String} {v : V} (r : Rp K F H (.ty n) v) : v = .ty n := by unfold Rp at r; exact r
theorem Rp.tys : ∀ {ns : List String} {vs : List V}, Rps K F H (ns.map D.ty) vs → vs = ns.map V.ty
  | [], vs, h => by unfold Rps at h; exact h
  | n :: ns, vs, h => by
    rw [List.map_cons] at h
    unfold Rps at h
    obtain ⟨v, r, rfl, h1, h2⟩ := h
    rw [h1.ty_inv, Rp.tys h2, List.map_cons]
theorem cls_tys : ∀ ns : List String, Paired ClsV (ns.map V.ty) (ns.map Value.type)
  | [] => .nil
  | n :: ns => .cons (.ty n) (cls_tys ns)
end
end DL

/-! DL7: isinstance, min, max, sorted, len(set(..)), in, op=, enumerate. -/
namespace DL
open PySem PySem.Spec L2

section
variable {K : PySem.W.Frag} {X : Cx} {W : WX} {F : Addr → Prop} {H : Hp} {ρ : Dv} {M : Mem} {σ : L2.St} {a b e o : Expr} {ga gb gc : DE} {pos cpos apos : Pos}
theorem cd_isi (hK : X.K = K) : CallD K X (.builtin "isinstance") dIsi := by
  subst hK
  refine CallR.imp (CallR.or call_isi (CallR.or call_isiT call_isiK)) fun xs H Q ⟨F, M, ds, Q', m, r, q, h⟩ => ?_
  match ds, h with
  | [x, .ty n], h =>
    obtain ⟨k, b, h1, h2, h⟩ := h
    obtain ⟨v, w, rfl, r1, r2⟩ := r.two
    exact .inl ⟨v, .ty n, _, _, b, by rw [r2.ty_inv], .ty n, ty_of m r1 h1, isK_ok h2, q F H M _ _ (Ext.refl _ _ _) m Rp.bl h⟩
  | [x, .tup ts], h =>
    obtain ⟨k, b, h1, h2, ⟨ns, rfl⟩, h⟩ := h
    obtain ⟨v, w, rfl, r1, r2⟩ := r.two
    unfold Rp at r2
    obtain ⟨a, vs, rfl, qa, ra⟩ := r2
    have z := Rp.tys ra
    subst z
    have fin := q F H M _ _ (Ext.refl _ _ _) m Rp.bl h
    rcases qa with qa | ⟨ob, its, n, q1, q2, q3, q4, q5⟩
    · exact .inr (.inl ⟨v, a, _, _, _, b, rfl, qa, cls_tys ns, ty_of m r1 h1, isKs_ok h2, fin⟩)
    · obtain ⟨c, dd, dt, sl⟩ := ob
      simp only at q2 q3
      subst q2 q3
      have e5 : its.toList = ns.map Value.type := by
        have := ClsV.all (cls_tys ns) q5
        exact this
      refine .inr (.inr ⟨v, a, dd, ns.map Value.type, n, sl, _, b, rfl, ?_, ty_of m r1 h1, isKs_ok h2, fin⟩)
      rw [← e5]
      exact q1
end
end DL

/-! DL7b: model rules that the hand layer lacks: sorted and max of a tuple, enumerate of a tuple. -/
namespace DLM
open PySem PyProof.Rows SrtO Srt
section
variable {prog : Program} {w : World} {A : Around} {E : Value → Shared → Prop} {s : Shared}
/-- the items of a tuple, gathered for a sort -/
theorem gather_tuple {l : Addr} {vs : List Value} {Q : List Value → Shared → Prop} (ht : s.heap.IsTuple l vs.toArray) (hsz : vs.length ≤ sizeLine)
    (h : Q vs { s with heap := (s.heap.push (seqObj "list" #[] 0)).update s.heap.objs.size (Obj.mapSeq (· ++ vs.toArray)) }) : wpAny (model prog w) A (collect (.ref l)) Q E s := by
  obtain ⟨o, ho, hc, n, hd⟩ := id ht
  unfold collect; refine wpAny_bind (wpAny_runValue (codeAny_builtin entry_proto_collect' ?_))
  show wpAny _ _ (do again (.builtin "list.__iadd__" ⟨[← newList [], .ref l], []⟩)) _ _ s; refine wpAny_bind (wpAny_newList (wpAny_pure ⟨Code.quiet_builtin _ (by decide +kernel), codeAny_builtin entry_list_iadd' ?_⟩))
  show wpAny _ _ (Builtin.List.listExtendWith (.ref s.heap.objs.size) (.ref l) (.ref s.heap.objs.size)) _ _ { s with heap := s.heap.push (seqObj "list" #[] 0) }; unfold Builtin.List.listExtendWith
  have ho2 : (s.heap.push (seqObj "list" #[] 0)).get? l = some o := Heap.get?_push_of_some _ ho
  refine wpAny_bind (wpAny_typeOf (T := "tuple") ⟨o, ho2, hc⟩ ?_)
  have hty : (Value.type "tuple" == Value.type "tuple") = true := by rfl
  rw [if_pos (by rw [hty]; simp)]
  refine wpAny_bind (listItems_at ho2 hd ?_); refine wpAny_bind (listItems_at (xs := #[]) (n := 0) (Heap.get?_push_size _ rfl) rfl ?_)
  rw [if_neg (by simp)]
  refine wpAny_bind (listUpdate_at (xs := #[]) (n := 0) (Heap.get?_push_size _ rfl) rfl ?_ (Nat.zero_le _) (by show (#[] ++ vs.toArray).size ≤ sizeLine + 1; simp only [Array.size_append, List.size_toArray, List.length_nil]; omega)); refine wpAny_pure ?_
  show wpAny (model prog w) A (do let o ← load s.heap.objs.size; match o.data with | .seq xs _ => pure xs.toList | _ => unsupported "internal:collect") Q E { s with heap := (s.heap.push (seqObj "list" #[] 0)).update s.heap.objs.size (Obj.mapSeq (· ++ vs.toArray)) }
  refine wpAny_bind (wpAny_load (get?_update_seq (Heap.get?_push_size _ rfl) _) ?_); show wpAny _ _ (pure ((#[] : Array Value) ++ vs.toArray).toList) Q E _
  rw [show ((#[] : Array Value) ++ vs.toArray).toList = vs by simp]; exact wpAny_pure h
theorem sorted_tup {l : Addr} {vs : List Value} {ltv : Value → Value → Bool} {Q : Value → Shared → Prop} (O : Swo ltv) (ht : s.heap.IsTuple l vs.toArray) (hz : vs.length ≤ sizeLine)
    (hS : 2 ≤ vs.length → ∀ (h₁ : Heap) (a : Addr), SortableO prog w A.in1.in1 { s with heap := h₁ } a vs ltv)
    (h : ∀ out : List Value, Srtd ltv out → Stb ltv out vs → Q (.ref (s.heap.objs.size + 1)) { s with heap := sortedAll s.heap vs out.toArray }) : wpAny (model prog w) A (call (.builtin "sorted") [.ref l]) Q E s := by
  refine Calls.call_function_entry kind_sorted plain_sorted entry_sorted (args_sorted1 _) ?_; unfold Builtin.«sorted»
  refine wpAny_bind (m := checkCount "sorted" 1 1 _) (wpAny_pure ?_); refine wpAny_bind (gather_tuple ht hz ?_); refine wpAny_bind (wpAny_newList ?_ hz)
  have hsz : ((s.heap.push (seqObj "list" #[] 0)).update s.heap.objs.size (Obj.mapSeq (· ++ vs.toArray))).objs.size = s.heap.objs.size + 1 := by (rw [Heap.size_update, size_push'])
  have hoL : (((s.heap.push (seqObj "list" #[] 0)).update s.heap.objs.size (Obj.mapSeq (· ++ vs.toArray))).push (seqObj "list" vs.toArray 0)).get? (s.heap.objs.size + 1) = some (seqObj "list" vs.toArray 0) := by (rw [← hsz]; exact Heap.get?_push_size _ rfl)
  show wpAny _ _ _ _ _ { s with heap := ((s.heap.push (seqObj "list" #[] 0)).update s.heap.objs.size (Obj.mapSeq (· ++ vs.toArray))).push (seqObj "list" vs.toArray 0) }; rw [hsz]
  refine wpAny_bind (wpAny_holding (wpAny_call_entry slot_list_sort ⟨_, hoL, rfl⟩ entry_list_sort (list_sort_ord O hoL hz (fun h2 => hS h2 _ _) fun out hs hb => ⟨_, rfl, ?_⟩) (args_list_sort _))); exact wpAny_pure ⟨_, rfl, h out hs hb⟩
theorem nextOf_tup_end {it t : Addr} {i : Nat} {items : Array Value} {Q : Value → Shared → Prop} (hh : A.handled = none) (hit : s.heap.IsTupleIter it t i) (ht : s.heap.IsTuple t items) (hx : items.size ≤ i)
    (hE : ∀ h' e, Heap.ExtBut it s.heap h' → (∃ o, h'.get? e = some o ∧ o.cls = .type "StopIteration") → E (.ref e) { s with heap := h' }) : wpAny (model prog w) A (Builtin.SmallTypes.nextOf (.ref it)) Q E s :=
  wpAny_nextOf_tuple_end hh hit ht (Array.getElem?_eq_none hx) hE
theorem enum_end {e it t : Addr} {i : Nat} {items : Array Value} {old : Value} {Q : Option Value → Shared → Prop} (hh : A.handled = none) (he : IsEnum s.heap e it ((i : Nat) : Int) old) (hit : s.heap.IsTupleIter it t i) (ht : s.heap.IsTuple t items) (hne : t ≠ it) (hx : items.size ≤ i)
    (hQ : ∀ h', Heap.ExtBut it s.heap h' → Q none { s with heap := h' }) : wpAny (model prog w) A (pyNext (.ref e)) Q E s := by
  have D : Draws prog w A.in1 it [it, t] i (fun _ _ => True) (fun j h => j = i ∧ h.IsTupleIter it t i ∧ h.IsTuple t items) :=
    { live := fun _ _ st => (let ⟨o, ho, _⟩ := st.2.1; ⟨o, ho⟩)
      frame := fun _ _ _ st hk => ⟨st.1, st.2.1.at fun o e => hk it (by simp) o e, st.2.2.at fun o e => hk t (by simp) o e⟩
      item := fun j s Q E hj st _ => absurd hj (by rw [st.1]; exact Nat.lt_irrefl _)
      done := fun s Q E st hE => nextOf_tup_end (A := A.in1) hh st.2.1 st.2.2 hx hE }
  exact wpAny_pyNext_enum_endD D he ⟨rfl, hit, ht⟩ hQ
theorem meets_enum_tup (l : Addr) (items : Array Value) (n : Nat) (dct : Option Addr) (sl : Array (Option Value)) :
    Meets (Builtin.«enumerate.__new__» ⟨[.type "enumerate", .ref l], []⟩) (fun _ R s => s.heap.get? l = some { cls := .type "tuple", dict := dct, data := .seq items n, slots := sl } ∧
      R (.ok (.ret (.ref (s.heap.push { cls := .type "tuple_iterator", data := .fields #[.ref l, .int 0 0] }).objs.size))) { s with heap := (s.heap.push { cls := .type "tuple_iterator", data := .fields #[.ref l, .int 0 0] }).push { cls := .type "enumerate", data := .fields #[.none, .bool false, .ref s.heap.objs.size, rawInt 0, .none, .none] } }) :=
  .of_wp fun prog w A R s h => by
    obtain ⟨hp, g, d, tk, os⟩ := s; obtain ⟨hl, h⟩ := h; have hsub := sub_enumerate
    have hL : Heap.IsTuple (Shared.heap ⟨hp, g, d, tk, os⟩) l items := ⟨_, hl, rfl, n, rfl⟩
    wp_walk using AutoSeq1.wpAny_loadPart' hl; refine wpAny_stack_any fun st => wpAny_pure ?_
    split
    · rename_i c _ _ _ _ _
      cases (c == Value.type "enumerate") <;> (wp_walk using AutoSeq1.wpAny_loadPart' hl, wpAny_pyIter_tuple hL; exact ⟨_, rfl, h⟩)
    · (wp_walk using AutoSeq1.wpAny_loadPart' hl, wpAny_pyIter_tuple hL; exact ⟨_, rfl, h⟩)
theorem call_enum_tup {l : Addr} {items : Array Value} {Q : Value → Shared → Prop} (hL : s.heap.IsTuple l items)
    (h : ∀ h', IsEnum h' (s.heap.objs.size + 1) s.heap.objs.size 0 .none → h'.IsTupleIter s.heap.objs.size l 0 → h'.objs.size = s.heap.objs.size + 2 → (∀ b o, s.heap.get? b = some o → h'.get? b = some o) → Q (.ref (s.heap.objs.size + 1)) { s with heap := h' }) :
    wpAny (model prog w) A (call (.type "enumerate") [.ref l]) Q E s := by
  obtain ⟨⟨c, dct, dt, sl⟩, hl, hc, n, hd⟩ := hL
  replace hc : c = .type "tuple" := hc; replace hd : dt = .seq items n := hd; subst hc hd
  refine callType_new F.called_enumerate (by decide) (F.typeCall_enumerate_1 _) (F.newCall_enumerate_1 _) (fun obj => F.args_object_init_2 obj _) F.entry_enumerate_new (meets_enum_tup l items n dct sl) ⟨hl, ?_⟩
  have hz : (s.heap.push { cls := .type "tuple_iterator", data := .fields #[.ref l, .int 0 0] }).objs.size = s.heap.objs.size + 1 := Heap.size_push ..
  show _ ∧ _; rw [hz]
  have he : IsEnum ((s.heap.push { cls := .type "tuple_iterator", data := .fields #[.ref l, .int 0 0] }).push { cls := .type "enumerate", data := .fields #[.none, .bool false, .ref s.heap.objs.size, rawInt 0, .none, .none] }) (s.heap.objs.size + 1) s.heap.objs.size 0 .none := by
    have := Heap.get?_push_size (s.heap.push { cls := .type "tuple_iterator", data := .fields #[.ref l, .int 0 0] }) (o := { cls := .type "enumerate", data := .fields #[.none, .bool false, .ref s.heap.objs.size, rawInt 0, .none, .none] }) rfl
    rw [hz] at this; exact this
  refine ⟨⟨_, he, rfl⟩, h _ he ⟨_, Heap.get?_push_of_some _ (Heap.get?_push_size _ rfl), rfl, rfl⟩ (by rw [Heap.size_push, hz]) fun b o x => Heap.get?_push_of_some _ (Heap.get?_push_of_some _ x)⟩
end
end DLM
namespace DL
open PySem PySem.Spec L2
section
variable {X : Cx}
def rSortT (K : PySem.W.Frag) : List V → Hp → VK → Prop := fun vs H Q => ∃ (a : Addr) (ns : List Int), vs = [V.ref a] ∧ SqT K H a (ns.map V.int) ∧ ∀ (ns' : List Int) (p : Addr), ns'.Perm ns → ns'.Pairwise (· ≤ ·) → H p = none → Q (.ref p) (upd H p (.lst (ns'.map V.int)))
theorem cr_sortT : CallR X (.builtin "sorted") (rSortT X.K) := by
  intro pins s σ H vs us Q I r h
  obtain ⟨a, ns, rfl, hs, q⟩ := h
  obtain ⟨its, rv, hl, hz⟩ := I.tuple hs
  rw [Vals.ref1 r]
  have hi := rv.ints
  refine DLM.sorted_tup SrtO.swo_int (show s.heap.IsTuple a its.toArray from hl) (by rw [← rv.length]; exact hz) (fun h2 h₁ a' => SrtO.ints_sortable hi h2) fun out h1 h2 => ?_
  obtain ⟨k1, k2, k3⟩ := SrtO.ints_out hi h1 h2
  obtain ⟨ep, he'⟩ := PyProof.Rows.sortedAll_at s.heap its out.toArray
  refine ⟨.ref _, upd H (s.heap.objs.size + 1) (.lst ((out.map SrtO.iv).map V.int)), I.laid (t' := s.toks) (fun _ _ => PyProof.Rows.sortedAll_old) (Nat.le_succ _) ⟨?_, out, ep, vals_of_ints k1, he'⟩, rfl, q _ _ k2 k3 (I.hok.fresh (Nat.le_succ _))⟩
  rw [List.length_map, k2.length_eq, ← List.length_map (f := V.int)]; exact hz
def rMaxT (K : PySem.W.Frag) : List V → Hp → VK → Prop := fun vs H Q => ∃ (a : Addr) (n : Int) (ns : List Int), vs = [V.ref a] ∧ SqT K H a ((n :: ns).map V.int) ∧ Q (.int (ns.foldl max n)) H
def rMinT (K : PySem.W.Frag) : List V → Hp → VK → Prop := fun vs H Q => ∃ (a : Addr) (n : Int) (ns : List Int), vs = [V.ref a] ∧ SqT K H a ((n :: ns).map V.int) ∧ Q (.int (ns.foldl min n)) H
theorem depth_ints : ∀ ns : List Int, PyData.depthAll (ns.map PyData.int) = 0
  | [] => rfl
  | n :: ns => by rw [List.map_cons]; unfold PyData.depthAll; rw [depth_ints ns]; rfl
theorem alike_ints (ns : List Int) : PySem.W.AlikeAll (ns.map PyData.int) := by
  refine ⟨fun x hx y hy => ?_, fun x hx => ?_⟩
  · obtain ⟨i, _, rfl⟩ := List.mem_map.mp hx
    obtain ⟨j, _, rfl⟩ := List.mem_map.mp hy
    rfl
  · obtain ⟨i, _, rfl⟩ := List.mem_map.mp hx
    exact fun z => nomatch z
theorem dp_ints (K : PySem.W.Frag) (H : Hp) : ∀ ns : List Int, DpAll K H (ns.map V.int) (ns.map PyData.int)
  | [] => .nil
  | n :: ns => .cons (.int n) (dp_ints K H ns)
theorem cr_maxT (hc : X.calm = true) (hu : X.A.units + 64 < cLine) : CallR X (.builtin "max") (rMaxT X.K) := by
  intro pins s σ H vs us Q I r h
  obtain ⟨a, n, ns, rfl, hs, q⟩ := h
  obtain ⟨its, rv, hl, hz⟩ := I.tuple hs
  rw [Vals.ref1 r]
  obtain ⟨as, hr⟩ := Dp.readsAll I _ _ its (dp_ints X.K H (n :: ns)) rv
  refine PySem.W.max_tuple_data (I.ok.hd hc) (show s.heap.IsTuple a its.toArray from hl) hr (alike_ints (n :: ns)) (by have z := depth_ints (n :: ns); rw [List.map_cons] at z; rw [z]; omega) fun i v h' tk bs hv rd hk => ?_
  rw [PySem.W.maxD_ints] at rd
  cases rd with
  | int _ t => exact ⟨.int _, H, I.kept hk, ⟨_, rfl⟩, q⟩
theorem cr_minT (hc : X.calm = true) (hu : X.A.units + 64 < cLine) : CallR X (.builtin "min") (rMinT X.K) := by
  intro pins s σ H vs us Q I r h
  obtain ⟨a, n, ns, rfl, hs, q⟩ := h
  obtain ⟨its, rv, hl, hz⟩ := I.tuple hs
  rw [Vals.ref1 r]
  obtain ⟨as, hr⟩ := Dp.readsAll I _ _ its (dp_ints X.K H (n :: ns)) rv
  refine PySem.W.min_tuple_data (I.ok.hd hc) (show s.heap.IsTuple a its.toArray from hl) hr (alike_ints (n :: ns)) (by have z := depth_ints (n :: ns); rw [List.map_cons] at z; rw [z]; omega) fun i v h' tk bs hv rd hk => ?_
  rw [PySem.W.minD_ints] at rd
  cases rd with
  | int _ t => exact ⟨.int _, H, I.kept hk, ⟨_, rfl⟩, q⟩

/-! ### len(set(xs)), xs a list or a tuple of ints -/
def tLenSetA (K : PySem.W.Frag) (ta : TE) : TE := fun σ H Q => ta σ H fun x H1 => ∃ (l : Addr) (ns : List Int), x = V.ref l ∧ (SqL K H1 l (ns.map V.int) ∨ SqT K H1 l (ns.map V.int)) ∧ ns.length < 4000 ∧ ∀ out : List Int, out.Nodup → (∀ k, k ∈ out ↔ k ∈ ns) → Q (.int out.length) H1
theorem firstMet_nd (f : Nat → Int) : ∀ i, (PyProof.Rows.firstMet f i).Nodup
  | 0 => by rw [PyProof.Rows.firstMet_zero]; exact List.nodup_nil
  | i + 1 => by
    rw [PyProof.Rows.firstMet_succ]
    have ih := firstMet_nd f i
    unfold PyProof.Rows.step_dedup
    split
    · exact ih
    · rename_i h
      rw [List.nodup_append]
      refine ⟨ih, by simp, fun a ha b hb => ?_⟩
      rw [List.mem_singleton] at hb
      intro e
      apply h
      rw [List.any_eq_true]
      exact ⟨a, ha, by rw [e, hb]; exact beq_self_eq_true _⟩
theorem pe_lenSetA {a : Expr} {ta : TE} {p p2 q pos : Pos} (hc : X.calm = true) (hg : Gl X "len") (hm : X.mg "len" = none) (hg2 : Gl X "set") (hm2 : X.mg "set" = none) (ha : PE X a ta)
    (na : starEach [a] X.env = (false, eval a X.env) :: starEach [] X.env := by rfl) : PE X (.Call (.Name "len" p) [.Call (.Name "set" p2) [a] [] q] [] pos) (tLenSetA X.K ta) := by
  refine ⟨fun pins s σ H Q I h => ?_⟩
  refine PyProof.Rows.Call_ (ld_blt I hg hm PySem.boot_len (PyProof.Rows.callWith_builtin1 (PyProof.Rows.args_cons ?_ rfl) rfl rfl))
  refine PyProof.Rows.Call_ (ld_blt I hg2 hm2 PyProof.Rows.boot_set (PyProof.Rows.callWith_type1 (PyProof.Rows.args_cons (thn (ha.run pins s σ H _ I h) fun v s1 ⟨x, H1, I1, r1, q1⟩ => PyProof.Rows.args_nil ?_) na) na rfl))
  obtain ⟨l, ns, rfl, hq, h1, q1⟩ := q1
  cases r1
  rcases hq with hq | hq
  · obtain ⟨its, r, pl, hz⟩ := I1.list hq
    have hl : its.toArray.size = ns.length := by rw [List.size_toArray, ← r.length, List.length_map]
    refine PySem.call_set_list (I1.ok.hd hc) pl.isList (ns := ns) (by simpa using r.ints) (by rw [hl]; unfold scanBound; omega) fun h' tk hS hk => ?_
    rw [hl] at hS
    refine PyProof.Rows.args_nil ?_
    obtain ⟨o, es, ep, t, ho, hex, hd, _, _, _, hf, hn⟩ := hS
    have I2 : Inv X pins σ H1 { s1 with heap := h', toks := tk } := I1.kept fun b o e => hk b o (Heap.lt_size e) e
    have hle := PyProof.Rows.firstMet_length_le (fun i => ns.getD i 0) ns.length
    refine call_len_set ho hex hd hf (by rw [hn]; omega) ⟨.int (PyProof.Rows.firstMet (fun i => ns.getD i 0) ns.length).length, H1, I2.tok _, ⟨_, by rw [hn]⟩, q1 _ (firstMet_nd _ _) fun k => ?_⟩
    have e1 := PyProof.Rows.firstMet_any (fun i => ns.getD i 0) ns.length k
    have e2 : (List.range ns.length).map (fun i => ns.getD i 0) = ns := by
      apply List.ext_getElem
      · simp
      · intro i h1 h2
        simp [List.getD, List.getElem?_eq_getElem h2]
    rw [e2] at e1
    have e3 : ∀ l : List Int, l.any (· == k) = true ↔ k ∈ l := fun l => by simp
    rw [← e3, ← e3, e1]
  · obtain ⟨its, r, pl, hz⟩ := I1.tuple hq
    refine call_set_tupI ns (I1.ok.hd hc) (show s1.heap.IsTuple l its.toArray from pl) (by simpa using r.ints) (by unfold scanBound; omega) fun h' tk c hS hcn hk => ?_
    refine PyProof.Rows.args_nil ?_
    obtain ⟨o, es, ep, t, ho, hex, hd, _, nd, mem, hsz, hf, hn, _⟩ := hS
    have I2 : Inv X pins σ H1 { s1 with heap := h', toks := tk } := I1.kept hk
    refine call_len_set ho hex hd hf (by rw [hn]; omega) ⟨.int (es.toList.map keyOf).length, H1, I2.tok _, ⟨_, by rw [List.length_map, Array.length_toList]⟩, q1 _ nd fun k => ?_⟩
    rw [← mem k, decide_eq_true_eq]

/-! ### enumerate of a tuple -/
/-- the tuple at a, its items in new pairs -/
def IteT (K : PySem.W.Frag) (a : Addr) : It :=
  ⟨fun i H => ∃ (xs : List V) (x : V), SqT K H a xs ∧ xs[i]? = some x, fun i H v H' => ∃ T x, v = .ref T ∧ H T = none ∧ H' = upd H T (.tup [.int (i : Nat), x]) ∧ ∀ xs, SqT K H a xs → xs[i]? = some x, fun i H => ∃ xs : List V, SqT K H a xs ∧ xs.length ≤ i⟩
theorem turn_enumT {P : Program} {w : World} {K : PySem.W.Frag} {elts : List Expr} {kk : Nat} {tpos : Pos} (a e it : Addr) (hea : a ≠ it) (hef : e ≠ a) :
    Turn P w K (.Tuple elts kk tpos) (IteT K a) [e, it] e (fun i h => (∃ old, IsEnum h e it ((i : Nat) : Int) old) ∧ h.IsTupleIter it a i ∧ e ≠ it) where
  mem := List.mem_cons_self
  obj := fun i h st b hb => by
    obtain ⟨⟨old, he⟩, ⟨o, ho, hc, hd⟩, _⟩ := st
    rcases List.mem_cons.mp hb with z | z
    · rw [z]; exact ⟨_, he, fun v q => nomatch q⟩
    · rw [List.mem_singleton.mp z]; exact ⟨o, ho, fun v q => by rw [hd] at q; cases q⟩
  keep := fun i h h' st k => let ⟨⟨old, he⟩, ⟨o, ho, r⟩, hne⟩ := st; ⟨⟨old, k e List.mem_cons_self _ he⟩, ⟨o, k it (List.mem_cons_of_mem _ List.mem_cons_self) o ho, r⟩, hne⟩
  item := by
    intro X hP hw hK hc i pins s σ H E I hf st hg
    subst hP hw hK
    obtain ⟨⟨old, he⟩, hit, hne⟩ := st
    obtain ⟨xs, x, hq, hx⟩ := hg
    obtain ⟨its, rv, p, hz⟩ := I.tuple hq
    obtain ⟨u, hu, ru⟩ := rv.get hx
    have hel : e < s.heap.objs.size := Heap.lt_size he
    have hil : it < s.heap.objs.size := (by obtain ⟨_, q, _⟩ := hit; exact Heap.lt_size q)
    have lt : i < its.toArray.size := (List.getElem?_eq_some_iff.mp hu).1
    refine wpAny_pyNext_enum_itemD (Draws.tuple (prog := X.prog) (w := X.w) (A := X.A.in1) (I.ok.hd hc) it a hea its.toArray) he ⟨hit, p⟩ lt hne (by simp [hne, hef]) fun y h' tk hy ho hst' hT hsz hk => ?_
    have ey : y = u := Option.some.inj (hy.symm.trans (by simpa using hu))
    subst ey
    refine ⟨_, rfl, wpAny_letOwnedTupleGo_enum (s := { s with heap := h', toks := tk + 1 }) ho fun h2 he' sb => ?_⟩
    have hT2 : h2.get? s.heap.objs.size = some { cls := .type "tuple", data := .seq #[.int i tk, y] } := (sb.2 _ (Nat.ne_of_gt hel)).trans hT
    have fr : H s.heap.objs.size = none := I.hok.fresh (Nat.le_refl _)
    have new : ObjOk X.prog X.w (upd H s.heap.objs.size (.tup [.int (i : Nat), x])) h2 s.heap.objs.size (.tup [.int (i : Nat), x]) := ⟨(by show 2 ≤ sizeLine; decide), [.int i tk, y], .cons ⟨_, rfl⟩ (.cons ru .nil), ⟨_, hT2, rfl, _, rfl⟩⟩
    have I1 : Inv X pins σ (upd H s.heap.objs.size (.tup [.int (i : Nat), x])) { s with heap := h2, toks := tk + 1 } := I.turnedNew (ch := [e, it]) (fun b ob hb q => (sb.2 b (fun z => hb (by simp [z]))).trans (hk b ob (fun z => hb (by simp [z])) (fun z => hb (by simp [z])) q)) hf (Nat.le_refl _) new
    obtain ⟨⟨oi, hoi, ri⟩, _⟩ := hst'
    refine ⟨.ref s.heap.objs.size, _, I1, rfl, ⟨_, x, rfl, fr, rfl, fun ys hy => by rw [I.tuple_inj hy hq]; exact hx⟩, ⟨⟨y, he'⟩, ⟨oi, (sb.2 it (Ne.symm hne)).trans hoi, ri⟩, hne⟩, fun b hb => ?_⟩
    have hb' : b < s.heap.objs.size := by
      rcases List.mem_cons.mp hb with z | z
      · rw [z]; exact hel
      · rw [List.mem_singleton.mp z]; exact hil
    rw [upd_ne (Nat.ne_of_lt hb')]; exact (hf b hb).1
  done := by
    intro X hP hw hK hc i pins s σ H E I hf st hg
    subst hP hw hK
    obtain ⟨⟨old, he⟩, hit, hne⟩ := st
    obtain ⟨xs, hq, hx⟩ := hg
    obtain ⟨its, rv, p, hz⟩ := I.tuple hq
    have D := Draws.tuple (prog := X.prog) (w := X.w) (A := X.A.in1) (I.ok.hd hc) it a hea its.toArray
    obtain ⟨f0, f1, f2, f3, f4, f5⟩ := hf it (List.mem_cons_of_mem _ List.mem_cons_self)
    exact DLM.enum_end (I.ok.hd hc) he hit p hea (by rw [List.size_toArray, ← rv.length]; exact hx) fun h' eb => ⟨rfl, I.turned (t' := s.toks) (fun b o hb q => eb b o hb q) f0 f1 f3 f4 f5⟩
  self := fun A i s Q E st h => let ⟨⟨_, he⟩, _⟩ := st; wpAny_pyIter_enum he h

section
variable {X : Cx}
/-- enumerate(xs): over a list or a tuple -/
def iEnumA (K : PySem.W.Frag) (ta : TA) : TI := fun σ H R => ta σ H fun vs H1 => ∃ a xs, vs = [.ref a] ∧ ((SqL K H1 a xs ∧ R (Ite K a) H1) ∨ (SqT K H1 a xs ∧ R (IteT K a) H1))
theorem pi_enumA {e : Expr} {ta : TA} {p pos tpos : Pos} {elts : List Expr} {kk : Nat} (hg : Gl X "enumerate") (hm : X.mg "enumerate" = none) (ha : PA X [e] ta) (hs : starEach [e] X.env = [(false, eval e X.env)] := by rfl) :
    PI X (.Tuple elts kk tpos) (.Call (.Name "enumerate" p) [e] [] pos) (iEnumA X.K ta) := by
  refine ⟨fun pins s σ H R I h => PyProof.Rows.Call_ (ld_blt I hg hm PyProof.Rows.boot_enumerate (PyProof.Rows.callWith_type1 (thn (ha.run pos pins s σ H _ I h) fun us s1 ⟨vs, H1, I1, r1, q1⟩ => ?_) hs rfl))⟩
  obtain ⟨a, xs, rfl, q⟩ := q1
  cases r1 with
  | cons r rr =>
    cases rr
    cases r
    have fp : ∀ b ∈ [s1.heap.objs.size + 1, s1.heap.objs.size], s1.heap.objs.size ≤ b := fun b hb => by
      rcases List.mem_cons.mp hb with z | z
      · rw [z]; exact Nat.le_succ _
      · rw [List.mem_singleton.mp z]; exact Nat.le_refl _
    rcases q with ⟨hq, q⟩ | ⟨hq, q⟩
    · obtain ⟨its, rv, p', hz⟩ := I1.list hq
      refine call_enumerate_list p'.isList fun h' he hit hsz hk => wpAny_pyIter_enum he ?_
      exact ⟨s1.heap.objs.size + 1, [s1.heap.objs.size + 1, s1.heap.objs.size], _, _, H1, rfl, I1.kept (t' := s1.toks) hk, turn_enum a (s1.heap.objs.size + 1) s1.heap.objs.size, ⟨⟨.none, he⟩, hit, Nat.succ_ne_self _⟩, fun b hb => I1.fpOk (fp b hb) (I1.hok.fresh (fp b hb)), q⟩
    · obtain ⟨its, rv, p', hz⟩ := I1.tuple hq
      have hlt : a < s1.heap.objs.size := (by obtain ⟨o, e, _⟩ := p'; exact Heap.lt_size e)
      refine DLM.call_enum_tup (show s1.heap.IsTuple a its.toArray from p') fun h' he hit hsz hk => wpAny_pyIter_enum he ?_
      exact ⟨s1.heap.objs.size + 1, [s1.heap.objs.size + 1, s1.heap.objs.size], _, _, H1, rfl, I1.kept (t' := s1.toks) hk, turn_enumT a (s1.heap.objs.size + 1) s1.heap.objs.size (Nat.ne_of_lt hlt) (Nat.ne_of_gt (Nat.lt_succ_of_lt hlt)), ⟨⟨.none, he⟩, hit, Nat.succ_ne_self _⟩, fun b hb => I1.fpOk (fp b hb) (I1.hok.fresh (fp b hb)), q⟩
/-- for x in xs, xs a list or a tuple -/
def iSeq (K : PySem.W.Frag) (tl : TE) : TI := fun σ H R => tl σ H fun x H1 => ∃ a, x = .ref a ∧ (((∃ xs, SqL K H1 a xs) ∧ R (Itl K a) H1) ∨ ((∃ xs, SqT K H1 a xs) ∧ R (Itt K a) H1))
theorem pi_seq {tg l : Expr} {tl : TE} (hl : PE X l tl) : PI X tg l (iSeq X.K tl) := by
  refine ⟨fun pins s σ H R I h => thn (hl.run pins s σ H _ I h) fun v s1 ⟨x, H1, I1, r1, q1⟩ => ?_⟩
  obtain ⟨a, rfl, q⟩ := q1
  cases r1
  have fp : ∀ b ∈ [s1.heap.objs.size], FpOk X pins H1 b := fun b hb => by
    rw [List.mem_singleton.mp hb]
    exact I1.fpOk (Nat.le_refl _) (I1.hok.fresh (Nat.le_refl _))
  rcases q with ⟨⟨xs, hq⟩, q⟩ | ⟨⟨xs, hq⟩, q⟩
  · obtain ⟨its, rv, p, hz⟩ := I1.list hq
    exact PySem.wpAny_pyIter_list p.isList ⟨s1.heap.objs.size, [s1.heap.objs.size], _, _, H1, rfl, I1.kept (t' := s1.toks) fun b o e => Heap.get?_push_of_some _ e, turn_list a _, ⟨_, Heap.get?_push_size _ rfl, rfl, rfl⟩, fp, q⟩
  · obtain ⟨its, rv, p, hz⟩ := I1.tuple hq
    exact PySem.wpAny_pyIter_tuple (show s1.heap.IsTuple a its.toArray from p) ⟨s1.heap.objs.size, [s1.heap.objs.size], _, _, H1, rfl, I1.kept (t' := s1.toks) fun b o e => Heap.get?_push_of_some _ e, turn_tuple a _, ⟨_, Heap.get?_push_size _ rfl, rfl, rfl⟩, fp, q⟩
end
end
end DL

/-! DLH: what the head tells of an own exception class. -/
namespace DL
open PySem PySem.Spec PyProof.Rows L2
section
variable (K : PySem.W.Frag)
/-- the class object at C is an exception class over ValueError with a dict -/
def exClsB (C : Addr) : Bool := match K.lookup C with
  | some ⟨.type "type", _, .cls cd, sl⟩ => (match cd.mro, sl.toList with
    | .ref D :: bm, [_, _, _, _, some (.builtin n), _] => D == C && (n == "ValueError.__new__" && (!cd.hasDel && (cd.hasDict && PySem.HandSPX.refsVE bm)))
    | _, _ => false)
  | _ => false
def exB (x : Str) (fs : List Str) (ini : Bool) : Bool :=
  exClsB K (He.ga K x) && (decide (PySem.W.findIn K (.ref (He.ga K x)) "__setattr__" = some (some (.builtin "object.__setattr__"))) && (decide (PySem.W.subIn K (.ref (He.ga K x)) (.type "BaseException") = some true) &&
  (decide (PySem.W.typeIn K (.ref (He.ga K x)) = some (.type "type")) && (PySem.W.keepIn K (.ref (He.ga K x)) && (xfB K (He.ga K x) && (fs.all (fun f => decide (PySem.W.findIn K (.ref (He.ga K x)) f = some none)) &&
  ((!ini || (decide (PySem.W.findIn K (.ref (He.ga K x)) "__init__" = some (some (.ref (He.ma K (He.ga K x) "__init__")))) && decide (PySem.W.typeIn K (.ref (He.ma K (He.ga K x) "__init__")) = some (.type "function")))) &&
  (decide (PySem.W.findIn K (.ref (He.ga K x)) "__class__" = some (some (.builtin "object.__class__"))) && (decide (PySem.W.specialIn K (.builtin "object.__class__") "__get__" = some (some (.builtin "getset_descriptor.__get__"))) &&
  (decide (PySem.W.takesIn K (.builtin "object.__class__") = some true) && decide (PySem.W.mroIn K (He.ga K x) (.type "object") = some true)))))))))))
def exmB (x y : Str) (b : Bool) : Bool := decide (PySem.W.exmOne K (.ref (He.ga K x)) (.ref (He.ga K y)) = some b)
def isiB (x y : Str) (b : Bool) : Bool := decide (PySem.W.kitOne K (.ref (He.ga K x)) (.ref (He.ga K y)) = some b)
end
variable {K : PySem.W.Frag}
theorem exCls_ok {C : Addr} (q : exClsB K C = true) : ∃ nm qn N bs bm sn sub ab col dd k0 k1 k2 k3 k5, K.lookup C = some (excClassObj nm qn C N bs bm true sn sub ab col dd k0 k1 k2 k3 k5 "ValueError.__new__") ∧ PySem.HandSPX.refsVE bm = true := by
  unfold exClsB at q
  split at q
  · rename_i dd cd sl ho
    split at q
    · rename_i D bm k0 k1 k2 k3 n k5 hm hs
      simp only [Bool.and_eq_true, beq_iff_eq, Bool.not_eq_true'] at q
      obtain ⟨rfl, rfl, hdel, hd, ht⟩ := q
      obtain ⟨nm, bs, mro, ns, qn, hd', sn, sub, ab, col, del⟩ := cd
      dsimp only at hm hdel hd
      subst hm hdel hd
      have hsl : sl = #[k0, k1, k2, k3, some (.builtin "ValueError.__new__"), k5] := by
        obtain ⟨l⟩ := sl
        simp only at hs
        rw [hs]
      subst hsl
      exact ⟨nm, qn, ns, bs, bm, sn, sub, ab, col, dd, k0, k1, k2, k3, k5, ho, ht⟩
    · cases q
  · cases q
/-- all that is asked of an own exception class -/
structure ExCls (K : PySem.W.Frag) (C : Addr) (fs : List Str) : Prop where
  ox : OexC K C
  xf : XfC K C
  no : ∀ f ∈ fs, PySem.W.findIn K (.ref C) f = some none
  is : ExcC K C
theorem exB_ok {x : Str} {fs : List Str} {ini : Bool} (q : exB K x fs ini = true) : ExCls K (He.ga K x) fs ∧ (ini = true → PySem.W.findIn K (.ref (He.ga K x)) "__init__" = some (some (.ref (He.ma K (He.ga K x) "__init__"))) ∧ PySem.W.typeIn K (.ref (He.ma K (He.ga K x) "__init__")) = some (.type "function")) := by
  unfold exB at q
  simp only [Bool.and_eq_true, decide_eq_true_eq] at q
  obtain ⟨h1, h2, h3, h4, h5, h6, h7, h8, h9, h10, h11, h12⟩ := q
  have z := xfB_ok h6
  refine ⟨⟨⟨exCls_ok h1, h2, h3, h4, h5⟩, z, fun f hf => of_decide_eq_true (List.all_eq_true.mp h7 f hf), ⟨z.ga, z.gg, h3, z.hdC, h9, h10, h11, h12⟩⟩, fun e => ?_⟩
  subst e
  simpa using h8
theorem exmB_ok {x y : Str} {b : Bool} (q : exmB K x y b = true) : PySem.W.exmOne K (.ref (He.ga K x)) (.ref (He.ga K y)) = some b := of_decide_eq_true q
theorem isiB_ok {x y : Str} {b : Bool} (q : isiB K x y b = true) : PySem.W.kitOne K (.ref (He.ga K x)) (.ref (He.ga K y)) = some b := of_decide_eq_true q
end DL

/-! DL8: for over sequences, enumerate, sorted, max, min, in, op=. -/
namespace DL
open PySem PySem.Spec L2

section
variable {K : PySem.W.Frag} {X : Cx} {W : WX} {F : Addr → Prop} {H : Hp} {ρ : Dv} {M : Mem} {σ : L2.St} {a b e o : Expr} {ga gb gc gd : DE} {pos cpos apos : Pos}
/-! ### for x in xs -/
def iSeqD (g : DE) : DI := fun E ρ M R => g E ρ M fun d M1 => onSrc M1 d R
theorem fi_seq {tg : Expr} (hK : X.K = K) (ha : FE K X W a ga) : FI K X W tg a (iSeqD ga) := by
  subst hK
  refine PI.imp (pi_seq ha) fun σ H R ⟨F, ρ, M, E, R', s, x, q, h⟩ => tG_mk s x (fun F1 H1 M1 d v e1 m1 r1 h1 => ?_) h
  unfold onSrc at h1
  cases z : srcOf M1 d with
  | none => rw [z] at h1; exact h1.elim
  | some src =>
    rw [z] at h1
    obtain ⟨o, k, a, e, sa⟩ := src_at m1 r1 z
    refine ⟨a, e, ?_⟩
    obtain ⟨vs, h2, h3⟩ := sa F1 H1 M1 (ExtW.refl _ _) m1 o
    cases k with
    | l => exact .inl ⟨⟨vs, h2⟩, q F1 H1 M1 _ src e1 m1 (src_list (items := src.items) (ok := src.ok) fun F' H' M' x m o => sa F' H' M' x m o) h1⟩
    | t => exact .inr ⟨⟨vs, TupAt.sq h2⟩, q F1 H1 M1 _ src e1 m1 (src_tup (items := src.items) (ok := src.ok) fun F' H' M' x m o => (by obtain ⟨vs, h1, h2⟩ := sa F' H' M' x m o; exact ⟨vs, TupAt.sq h1, h2⟩)) h1⟩
/-! enumerate -/
def enD (ds : List D) : List D := ds.zipIdx.map fun p => D.tup [.int (p.2 : Nat), p.1]
theorem enD_get {ds : List D} {i : Nat} {d : D} (h : (enD ds)[i]? = some d) : ∃ x, ds[i]? = some x ∧ d = .tup [.int (i : Nat), x] := by
  unfold enD at h
  rw [List.getElem?_map, List.getElem?_zipIdx] at h
  cases z : ds[i]? with
  | none => rw [z] at h; cases h
  | some x => rw [z] at h; simp at h; exact ⟨x, rfl, h.symm⟩
theorem enD_length (ds : List D) : (enD ds).length = ds.length := by unfold enD; simp
theorem src_enum {a0 : Addr} {items : List D} {ok : Mem → Prop} (h : ∀ F' H' M', ExtW F H F' H' → MemOk K F' H' M' → ok M' → ∃ vs, SqL K H' a0 vs ∧ Rps K F' H' items vs) : SrcOk K F H (Ite K a0) ⟨enD items, ok⟩ := fun F' H' M' e m o i => by
  obtain ⟨vs, q, r⟩ := h F' H' M' e m o
  refine ⟨fun d hd => ?_, fun hl => ⟨vs, q, by rw [r.length, ← enD_length]; exact hl⟩⟩
  obtain ⟨x, hx, rfl⟩ := enD_get hd
  obtain ⟨v, hv, rv⟩ := r.get hx
  refine ⟨⟨vs, v, q, hv⟩, fun y H2 yy => ?_⟩
  obtain ⟨T, u, rfl, hT, rfl, y2⟩ := yy
  have z := y2 vs q
  rw [hv] at z
  cases z
  have l : Ext F' H' M' F' (upd H' T (.tup [.int (i : Nat), v])) M' := Ext.laid hT fun _ z => z
  refine ⟨F', l, m.aside hT _, ?_⟩
  unfold Rp
  exact ⟨T, _, rfl, .inl upd_same, .cons Rp.int (.cons (Rp.mono l _ _ rv) .nil)⟩
theorem src_enumT {a0 : Addr} {items : List D} {ok : Mem → Prop} (h : ∀ F' H' M', ExtW F H F' H' → MemOk K F' H' M' → ok M' → ∃ vs, SqT K H' a0 vs ∧ Rps K F' H' items vs) : SrcOk K F H (IteT K a0) ⟨enD items, ok⟩ := fun F' H' M' e m o i => by
  obtain ⟨vs, q, r⟩ := h F' H' M' e m o
  refine ⟨fun d hd => ?_, fun hl => ⟨vs, q, by rw [r.length, ← enD_length]; exact hl⟩⟩
  obtain ⟨x, hx, rfl⟩ := enD_get hd
  obtain ⟨v, hv, rv⟩ := r.get hx
  refine ⟨⟨vs, v, q, hv⟩, fun y H2 yy => ?_⟩
  obtain ⟨T, u, rfl, hT, rfl, y2⟩ := yy
  have z := y2 vs q
  rw [hv] at z
  cases z
  have l : Ext F' H' M' F' (upd H' T (.tup [.int (i : Nat), v])) M' := Ext.laid hT fun _ z => z
  refine ⟨F', l, m.aside hT _, ?_⟩
  unfold Rp
  exact ⟨T, _, rfl, .inl upd_same, .cons Rp.int (.cons (Rp.mono l _ _ rv) .nil)⟩
def iEnumD (g : DA) : DI := fun E ρ M R => g E ρ M fun ds M1 => match ds with
  | [d] => onSrc M1 d fun s M2 => R ⟨enD s.items, s.ok⟩ M2
  | _ => False
theorem fi_enum {p tpos : Pos} {elts : List Expr} {kk : Nat} {g : DA} (hK : X.K = K) (hm : X.mg "enumerate" = none) (ha : FA K X W [a] g) (hg : Gl X "enumerate" := by rfl) (hs : starEach [a] X.env = [(false, eval a X.env)] := by rfl) :
    FI K X W (.Tuple elts kk tpos) (.Call (.Name "enumerate" p) [a] [] pos) (iEnumD g) := by
  subst hK
  refine PI.imp (pi_enumA hg hm ha hs) fun σ H R ⟨F, ρ, M, E, R', s, x, q, h⟩ => (⟨F, ρ, M, E, _, s, x, fun F1 H1 M1 ds vs e1 m1 r1 h1 => ?_, h⟩ : tGa X.K W g σ H _)
  match ds, h1 with
  | [d], h1 =>
    obtain ⟨v, rfl, rv1⟩ := r1.one
    have h2 : onSrc M1 d fun s M2 => R' ⟨enD s.items, s.ok⟩ M2 := h1
    unfold onSrc at h2
    cases z : srcOf M1 d with
    | none => rw [z] at h2; exact h2.elim
    | some src =>
      rw [z] at h2
      obtain ⟨o, k, a, rfl, sa⟩ := src_at m1 rv1 z
      obtain ⟨vs, h3, h4⟩ := sa F1 H1 M1 (ExtW.refl _ _) m1 o
      refine ⟨a, vs, rfl, ?_⟩
      cases k with
      | l => exact .inl ⟨h3, q F1 H1 M1 _ _ e1 m1 (src_enum (items := src.items) (ok := src.ok) fun F' H' M' x m o => sa F' H' M' x m o) h2⟩
      | t => exact .inr ⟨TupAt.sq h3, q F1 H1 M1 _ _ e1 m1 (src_enumT (items := src.items) (ok := src.ok) fun F' H' M' x m o => (by obtain ⟨vs, h1, h2⟩ := sa F' H' M' x m o; exact ⟨vs, TupAt.sq h1, h2⟩)) h2⟩

/-! ### sorted, max, min, len(set()) -/
def insI (a : Int) : List Int → List Int
  | [] => [a]
  | b :: l => if a ≤ b then a :: b :: l else b :: insI a l
def sortI : List Int → List Int
  | [] => []
  | a :: l => insI a (sortI l)
theorem insI_perm (a : Int) : ∀ l, (insI a l).Perm (a :: l)
  | [] => .refl _
  | b :: l => by
    unfold insI
    split
    · exact .refl _
    · exact ((insI_perm a l).cons b).trans (List.Perm.swap a b l)
theorem sortI_perm : ∀ l, (sortI l).Perm l
  | [] => .refl _
  | a :: l => (insI_perm a _).trans ((sortI_perm l).cons a)
theorem insI_sorted (a : Int) : ∀ {l : List Int}, l.Pairwise (· ≤ ·) → (insI a l).Pairwise (· ≤ ·)
  | [], _ => by simp [insI]
  | b :: l, h => by
    unfold insI
    rw [List.pairwise_cons] at h
    split
    · rename_i c
      rw [List.pairwise_cons, List.pairwise_cons]
      refine ⟨fun x hx => ?_, h.1, h.2⟩
      rcases List.mem_cons.mp hx with z | z
      · omega
      · have := h.1 x z; omega
    · rename_i c
      rw [List.pairwise_cons]
      refine ⟨fun x hx => ?_, insI_sorted a h.2⟩
      rcases List.mem_cons.mp ((insI_perm a l).mem_iff.mp hx) with z | z
      · omega
      · exact h.1 x z
theorem sortI_sorted : ∀ l, (sortI l).Pairwise (· ≤ ·)
  | [] => .nil
  | a :: l => insI_sorted a (sortI_sorted l)
theorem sorted_uniq : ∀ {l m : List Int}, l.Perm m → l.Pairwise (· ≤ ·) → m.Pairwise (· ≤ ·) → l = m
  | [], m, p, _, _ => p.nil_eq
  | a :: l, [], p, _, _ => absurd p.length_eq (by simp)
  | a :: l, b :: m, p, h1, h2 => by
    rw [List.pairwise_cons] at h1 h2
    have e : a = b := by
      have x1 : a ∈ b :: m := p.mem_iff.mp (by simp)
      have x2 : b ∈ a :: l := p.mem_iff.mpr (by simp)
      rcases List.mem_cons.mp x1 with z | z
      · exact z
      · rcases List.mem_cons.mp x2 with y | y
        · exact y.symm
        · have := h1.1 b y; have := h2.1 a z; omega
    subst e
    rw [sorted_uniq (List.Perm.cons_inv p) h1.2 h2.2]
def nSortOf : List D → Mem → (List D → Mem → Prop) → Prop := fun ds M Q => match ds with
  | [x] => onS M x fun xs => ∃ ns : List Int, xs = ns.map D.int ∧ Q ((sortI ns).map D.int) M
  | _ => False
theorem rps_ints : ∀ ns : List Int, Rps K F H (ns.map D.int) (ns.map V.int) := Rps.map_of fun _ => Rp.int
theorem cn_sorted (hK : X.K = K) : CallR X (.builtin "sorted") (rNs K nSortOf) := by
  subst hK
  refine CallR.imp (CallR.or cr_sortedI cr_sortT) fun xs H Q ⟨F, M, ds, Q', m, r, q, h⟩ => ?_
  match ds, h with
  | [d], h =>
    obtain ⟨v, rfl, rv⟩ := r.one
    have h' : onS M d fun xs => ∃ ns : List Int, xs = ns.map D.int ∧ Q' ((sortI ns).map D.int) M := h
    obtain ⟨es, a, vs, ⟨ns, rfl, h⟩, rfl, k, r⟩ := onS_at m rv h'
    have z := Rp.ints r
    subst z
    have fin : ∀ (ns' : List Int) (p : Addr), ns'.Perm ns → ns'.Pairwise (· ≤ ·) → H p = none → Q (.ref p) (upd H p (.lst (ns'.map V.int))) := fun ns' p h1 h2 hp => by
      have e : ns' = sortI ns := sorted_uniq (h1.trans (sortI_perm ns).symm) h2 (sortI_sorted ns)
      subst e
      exact newL (Ext.refl _ _ _) m (rps_ints _) hp q h
    exact k.imp (fun k => ⟨a, ns, rfl, k, fin⟩) fun k => ⟨a, ns, rfl, k.sq, fin⟩
theorem foldl_max : ∀ (ns : List Int) (n : Int), n ≤ ns.foldl max n ∧ (∀ y ∈ ns, y ≤ ns.foldl max n) ∧ (ns.foldl max n = n ∨ ns.foldl max n ∈ ns)
  | [], n => ⟨Int.le_refl _, by simp, .inl rfl⟩
  | a :: ns, n => by
    obtain ⟨h1, h2, h3⟩ := foldl_max ns (max n a)
    rw [List.foldl_cons]
    refine ⟨by omega, fun y hy => ?_, ?_⟩
    · rcases List.mem_cons.mp hy with z | z
      · omega
      · exact h2 y z
    · rcases h3 with z | z
      · rw [z]
        rcases Int.le_total n a with y | y
        · right; simp; omega
        · left; omega
      · right; exact List.mem_cons_of_mem _ z
theorem foldl_min : ∀ (ns : List Int) (n : Int), ns.foldl min n ≤ n ∧ (∀ y ∈ ns, ns.foldl min n ≤ y) ∧ (ns.foldl min n = n ∨ ns.foldl min n ∈ ns)
  | [], n => ⟨Int.le_refl _, by simp, .inl rfl⟩
  | a :: ns, n => by
    obtain ⟨h1, h2, h3⟩ := foldl_min ns (min n a)
    rw [List.foldl_cons]
    refine ⟨by omega, fun y hy => ?_, ?_⟩
    · rcases List.mem_cons.mp hy with z | z
      · omega
      · exact h2 y z
    · rcases h3 with z | z
      · rw [z]
        rcases Int.le_total n a with y | y
        · left; omega
        · right; simp; omega
      · right; exact List.mem_cons_of_mem _ z
def dMax : DRs := fun ds M Q => match ds with
  | [x] => onS M x fun xs => ∃ (n : Int) (ns : List Int), xs = (n :: ns).map D.int ∧ Q (.int (ns.foldl max n)) M
  | [.int i, .int j] => Q (.int (max i j)) M
  | _ => False
def dMin : DRs := fun ds M Q => match ds with
  | [x] => onS M x fun xs => ∃ (n : Int) (ns : List Int), xs = (n :: ns).map D.int ∧ Q (.int (ns.foldl min n)) M
  | [.int i, .int j] => Q (.int (min i j)) M
  | _ => False
theorem cd_max (hK : X.K = K) (hc : X.calm = true) (hu : X.A.units + 64 < cLine) : CallD K X (.builtin "max") dMax := by
  subst hK
  refine CallR.imp (CallR.or (cr_max hc) (CallR.or (cr_maxT hc hu) (call_max2 hc))) fun xs H Q ⟨F, M, ds, Q', m, r, q, h⟩ => ?_
  match ds, h with
  | [d], h =>
    obtain ⟨v, rfl, rv⟩ := r.one
    have h' : onS M d fun xs => ∃ (n : Int) (ns : List Int), xs = (n :: ns).map D.int ∧ Q' (.int (ns.foldl max n)) M := by
      cases d <;> exact h
    obtain ⟨es, a, vs, ⟨n, ns, rfl, h⟩, rfl, k, r⟩ := onS_at m rv h'
    have z := Rp.ints r
    subst z
    rcases k with k | k
    · refine .inl ⟨a, n :: ns, rfl, k, by simp, fun y hy1 hy2 => ?_⟩
      obtain ⟨f1, f2, f3⟩ := foldl_max ns n
      have e : y = ns.foldl max n := by
        have t1 : ns.foldl max n ≤ y := hy2 _ (by rcases f3 with f3 | f3; · rw [f3]; simp
                                                  · exact List.mem_cons_of_mem _ f3)
        have t2 : y ≤ ns.foldl max n := by
          rcases List.mem_cons.mp hy1 with z | z
          · omega
          · exact f2 y z
        omega
      subst e
      exact q F H M _ _ (Ext.refl _ _ _) m Rp.int h
    · exact .inr (.inl ⟨a, n, ns, rfl, k.sq, q F H M _ _ (Ext.refl _ _ _) m Rp.int h⟩)
  | [.int i, .int j], h =>
    obtain ⟨v, w, rfl, r1, r2⟩ := r.two
    refine .inr (.inr ⟨i, j, by rw [r1.int_inv, r2.int_inv], ?_⟩)
    have e : (if j > i then j else i) = max i j := by
      split <;> omega
    rw [e]
    exact q F H M _ _ (Ext.refl _ _ _) m Rp.int h
theorem cd_min (hK : X.K = K) (hc : X.calm = true) (hu : X.A.units + 64 < cLine) : CallD K X (.builtin "min") dMin := by
  subst hK
  refine CallR.imp (CallR.or (cr_min hc) (CallR.or (cr_minT hc hu) (call_min2 hc))) fun xs H Q ⟨F, M, ds, Q', m, r, q, h⟩ => ?_
  match ds, h with
  | [d], h =>
    obtain ⟨v, rfl, rv⟩ := r.one
    have h' : onS M d fun xs => ∃ (n : Int) (ns : List Int), xs = (n :: ns).map D.int ∧ Q' (.int (ns.foldl min n)) M := by
      cases d <;> exact h
    obtain ⟨es, a, vs, ⟨n, ns, rfl, h⟩, rfl, k, r⟩ := onS_at m rv h'
    have z := Rp.ints r
    subst z
    rcases k with k | k
    · refine .inl ⟨a, n :: ns, rfl, k, by simp, fun y hy1 hy2 => ?_⟩
      obtain ⟨f1, f2, f3⟩ := foldl_min ns n
      have e : y = ns.foldl min n := by
        have t1 : y ≤ ns.foldl min n := hy2 _ (by rcases f3 with f3 | f3; · rw [f3]; simp
                                                  · exact List.mem_cons_of_mem _ f3)
        have t2 : ns.foldl min n ≤ y := by
          rcases List.mem_cons.mp hy1 with z | z
          · omega
          · exact f2 y z
        omega
      subst e
      exact q F H M _ _ (Ext.refl _ _ _) m Rp.int h
    · exact .inr (.inl ⟨a, n, ns, rfl, k.sq, q F H M _ _ (Ext.refl _ _ _) m Rp.int h⟩)
  | [.int i, .int j], h =>
    obtain ⟨v, w, rfl, r1, r2⟩ := r.two
    refine .inr (.inr ⟨i, j, by rw [r1.int_inv, r2.int_inv], ?_⟩)
    have e : (if j < i then j else i) = min i j := by
      split <;> omega
    rw [e]
    exact q F H M _ _ (Ext.refl _ _ _) m Rp.int h
def ddup : List Int → List Int
  | [] => []
  | a :: l => if l.contains a then ddup l else a :: ddup l
theorem ddup_mem (k : Int) : ∀ l, k ∈ ddup l ↔ k ∈ l
  | [] => by simp [ddup]
  | a :: l => by
    unfold ddup
    split
    · rename_i h
      have h : a ∈ l := by simpa using h
      rw [ddup_mem k l, List.mem_cons]
      exact ⟨.inr, fun z => z.elim (fun z => by rw [z]; exact h) fun z => z⟩
    · rw [List.mem_cons, List.mem_cons, ddup_mem k l]
theorem ddup_nodup : ∀ l, (ddup l).Nodup
  | [] => List.nodup_nil
  | a :: l => by
    unfold ddup
    split
    · exact ddup_nodup l
    · rename_i h
      rw [List.nodup_cons, ddup_mem]
      exact ⟨by simpa using h, ddup_nodup l⟩
theorem nodup_le : ∀ {l m : List Int}, l.Nodup → (∀ k ∈ l, k ∈ m) → l.length ≤ m.length
  | [], m, _, _ => Nat.zero_le _
  | a :: l, m, h, s => by
    rw [List.nodup_cons] at h
    have ha : a ∈ m := s a (by simp)
    have := nodup_le (m := m.erase a) h.2 fun k hk => (List.mem_erase_of_ne (show k ≠ a from fun z => h.1 (by rw [← z]; exact hk))).mpr (s k (List.mem_cons_of_mem _ hk))
    rw [List.length_erase_of_mem ha] at this
    have : 0 < m.length := List.length_pos_of_mem ha
    rw [List.length_cons]
    omega
theorem ddup_len {l m : List Int} (h : l.Nodup) (s : ∀ k, k ∈ l ↔ k ∈ m) : l.length = (ddup m).length :=
  Nat.le_antisymm (nodup_le h fun k hk => (ddup_mem k m).mpr ((s k).mp hk)) (nodup_le (ddup_nodup m) fun k hk => (s k).mpr ((ddup_mem k m).mp hk))
def gLenSet (g : DE) : DE := fun E ρ M Q => g E ρ M fun d M1 => onS M1 d fun xs => ∃ ns : List Int, xs = ns.map D.int ∧ ns.length < 4000 ∧ Q (.int (ddup ns).length) M1
theorem fe_lenSet {p p2 q : Pos} (hK : X.K = K) (hm : X.mg "len" = none) (hm2 : X.mg "set" = none) (ha : FE K X W a ga) (hc : X.calm = true := by rfl) (hg : Gl X "len" := by rfl) (hg2 : Gl X "set" := by rfl)
    (na : starEach [a] X.env = (false, eval a X.env) :: starEach [] X.env := by rfl) : FE K X W (.Call (.Name "len" p) [.Call (.Name "set" p2) [a] [] q] [] pos) (gLenSet ga) := by
  subst hK
  refine PE.imp (pe_lenSetA hc hg hm hg2 hm2 ha na) fun σ H Q ⟨F, ρ, M, E, Q', s, x, q, h⟩ => tG_mk s x (fun F1 H1 M1 d v e1 m1 r1 h1 => ?_) h
  obtain ⟨es, a, vs, ⟨ns, rfl, hl, h⟩, rfl, k, r⟩ := onS_at m1 r1 h1
  have z := Rp.ints r
  subst z
  refine ⟨a, ns, rfl, k.imp (fun k => k) TupAt.sq, hl, fun out n s => ?_⟩
  rw [ddup_len n s]
  exact q F1 H1 M1 _ _ e1 m1 Rp.int h

/-! ### in, not in -/
def flatD : D → Bool
  | .non => true
  | .bl _ => true
  | .int _ => true
  | .str _ => true
  | _ => false
def eqFD : D → D → Bool
  | .non, .non => true
  | .bl a, .bl b => a == b
  | .bl a, .int b => (if a then 1 else 0) == b
  | .int a, .bl b => a == (if b then 1 else 0)
  | .int a, .int b => a == b
  | .str a, .str b => a == b
  | _, _ => false
def inD (x : D) (xs : List D) : Bool := xs.any fun y => eqFD y x
theorem flat_at {d : D} {v : V} (r : Rp K F H d v) (h : flatD d = true) : flatV v = true := by
  cases d <;> first | (cases h; done) | (unfold Rp at r; subst r; rfl)
theorem eqF_at {d e : D} {v u : V} (r : Rp K F H d v) (r2 : Rp K F H e u) (h : flatD d = true) (h2 : flatD e = true) : eqV v u = eqFD d e := by
  cases d <;> first
    | (cases h; done)
    | (cases e <;> first
        | (cases h2; done)
        | (unfold Rp at r r2; subst r r2; rfl))
theorem inF_at {d : D} {v : V} (r : Rp K F H d v) (h : flatD d = true) : ∀ {ds : List D} {vs : List V}, Rps K F H ds vs → ds.all flatD = true → vs.all flatV = true ∧ inV v vs = inD d ds
  | [], vs, r2, _ => by unfold Rps at r2; subst r2; exact ⟨rfl, rfl⟩
  | e :: ds, vs, r2, h2 => by
    unfold Rps at r2
    obtain ⟨u, w, rfl, r3, r4⟩ := r2
    rw [List.all_cons, Bool.and_eq_true] at h2
    obtain ⟨i1, i2⟩ := inF_at r h r4 h2.2
    refine ⟨by rw [List.all_cons, flat_at r3 h2.1, i1]; rfl, ?_⟩
    unfold inV inD at i2 ⊢
    rw [List.any_cons, List.any_cons, i2, eqF_at r3 r h2.1 h]
def dInG (neg : Bool) : DR2 := fun x y M Q => onS M y fun xs => flatD x = true ∧ xs.all flatD = true ∧ Q (.bl (if neg then !inD x xs else inD x xs)) M
abbrev dIn : DR2 := dInG false
abbrev dNotIn : DR2 := dInG true
theorem in_im {neg : Bool} : ∀ x y H Q, rG K (dInG neg) x y H Q → rIn K neg x y H Q := fun x y H Q ⟨F, M, d, e, Q', m, r1, r2, q, h⟩ => by
  obtain ⟨ds, a, vs, ⟨h1, h2, h3⟩, rfl, k, r⟩ := onS_at m r2 h
  obtain ⟨i1, i2⟩ := inF_at r1 h1 r h2
  refine ⟨a, vs, rfl, k.imp (fun k => k) TupAt.sq, flat_at r1 h1, i1, ?_⟩
  rw [i2]
  exact q F H M _ _ (Ext.refl _ _ _) m Rp.bl h3
theorem od_in (hK : X.K = K) : OpD K X (compareOp .In) dIn := by subst hK; exact OpR.imp op_in_seq in_im
theorem od_notIn (hK : X.K = K) : OpD K X (compareOp .NotIn) dNotIn := by subst hK; exact OpR.imp op_notIn_seq in_im

/-! ### op= -/
def IpD (K : PySem.W.Frag) (X : Cx) (op : Operator) (rd : DR2) : Prop := PIp X op (rG K rd)
theorem id_add : IpD K X .Add dAddI := fun pins s σ H x y v u Q I r1 r2 ⟨F, M, d, e, Q', m, d1, d2, q, h⟩ => by
  cases d with
  | int i =>
    cases e with
    | int j => exact ip_add pins s σ H x y v u Q I r1 r2 ⟨i, j, d1.int_inv, d2.int_inv, q F H M _ _ (Ext.refl _ _ _) m Rp.int h⟩
    | _ => exact h.elim
  | _ => exact h.elim
theorem id_sub : IpD K X .Sub dSub := fun pins s σ H x y v u Q I r1 r2 ⟨F, M, d, e, Q', m, d1, d2, q, h⟩ => by
  cases d with
  | int i =>
    cases e with
    | int j => exact ip_sub pins s σ H x y v u Q I r1 r2 ⟨i, j, d1.int_inv, d2.int_inv, q F H M _ _ (Ext.refl _ _ _) m Rp.int h⟩
    | _ => exact h.elim
  | _ => exact h.elim
def sAug (i : Nat) (g : DE) (rd : DR2) : DS := fun E ρ M => match ρ[i]? with
  | some (some d) => g (fun x M => E.ex x ρ M) ρ M fun y M1 => rd d y M1 fun z M2 => E.nx (ρ.set i (some z)) M2
  | _ => False
theorem fs_aug (i : Nat) {x : Str} {op : Operator} {rd : DR2} {p' : Pos} (hN : X.N.Nodup) (ho : IpD K X op rd) (he : FE K X W e ga) (hi : X.N[i]? = some x := by rfl) (hx : Loc X.env.scope x := by first | exact Or.inl rfl | exact Or.inr rfl)
    (hf : X.fn x = true ∨ X.env.scope.names.lookup x = some .local := by first | exact .inl rfl | exact .inr rfl) : FS K X W (.AugAssign (.Name x p') op e pos) (sAug i ga rd) :=
  PS.imp (ps_aug hN hi hx he ho hf) fun D σ H ⟨F, ρ, M, E', s, x, h⟩ => by
    unfold sAug at h
    split at h
    · rename_i d ed
      obtain ⟨v, e1, r⟩ := s.env i d ed
      refine ⟨v, e1, tG_mk s (x.ex.at_ s) (fun F1 H1 M1 y u f1 m1 r1 h1 => ?_) h⟩
      exact ⟨F1, M1, d, y, _, m1, Rp.mono f1.toExtW _ _ r, r1, fun F2 H2 M2 z w f2 m2 r2 h2 => x.nx F2 H2 _ M2 _ (f1.trans f2) ((s.next (f1.trans f2).toExtW m2).set i r2) h2, h1⟩
    · exact h.elim
theorem get_list : PGet X (rIxL X.K) := fun pins s σ H o i ov iv Q I r1 r2 ⟨p, xs, k, z, e1, e2, hq, he, q⟩ => by
  subst e1; subst e2
  cases r1
  obtain ⟨t, rfl⟩ := r2
  obtain ⟨its, r, pl, hz⟩ := I.list hq
  obtain ⟨j, h1, h2, h3, h4, h5⟩ := atI_get he
  obtain ⟨w, ew, rw'⟩ := r.get h2
  have hl := r.length
  have hn := line63
  have fin : EP X pins σ Q w s := ⟨z, H, I, rw', q⟩
  by_cases h0 : 0 ≤ k
  · have hj : k.toNat = j := by
      rw [seqIndex_of h0 h5] at h1; exact Option.some.inj h1
    exact PySem.wpAny_getItem_list pl.isList h0 (by omega) (by rw [hj]; simpa using ew) fin
  · have hj : (k + (its.toArray.size : Int)).toNat = j := by
      rw [seqIndex_neg (by omega) h4] at h1; rw [List.size_toArray, ← hl]; exact Option.some.inj h1
    exact PySem.wpAny_getItem_list_neg pl.isList (by omega) (by rw [List.size_toArray]; omega) (by omega) (by rw [hj]; simpa using ew) fin
def dIxL : DR2
  | x, .int i, M, Q => onL M x fun ds => ∃ d, atI ds i = some d ∧ Q d M
  | _, _, _, _ => False
theorem getd_list (hK : X.K = K) : PGet X (rG K dIxL) := by
  subst hK
  refine fun pins s σ H o i ov iv Q I r1 r2 ⟨F, M, d, e, Q', m, d1, d2, q, h⟩ => get_list pins s σ H o i ov iv Q I r1 r2 ?_
  cases e with
  | int k =>
    have h' : onL M d fun ds => ∃ y, atI ds k = some y ∧ Q' y M := h
    obtain ⟨ds, a, vs, _, ⟨y, h1, h2⟩, rfl, hv, r⟩ := onL_at m d1 h'
    obtain ⟨v, h3, h4⟩ := atI_rps r h1
    exact ⟨a, vs, k, v, rfl, d2.int_inv, SqL.of hv, h3, q F H M _ _ (Ext.refl _ _ _) m h4 h2⟩
  | _ => exact h.elim
/-- o[i] op= e -/
def sAugS (go gi ge : DE) (rd : DR2) : DS := fun E ρ M => go (fun x M => E.ex x ρ M) ρ M fun o M1 => gi (fun x M => E.ex x ρ M) ρ M1 fun i M2 => dIxL o i M2 fun x M3 => ge (fun x M => E.ex x ρ M) ρ M3 fun y M4 => rd x y M4 fun z M5 => dSetIx o i z M5 fun M6 => E.nx ρ M6
theorem fs_augS {i : Expr} {op : Operator} {rd : DR2} {tpos : Pos} (hK : X.K = K) (hp : IpD K X op rd) (ho : FE K X W o ga) (hi : FE K X W i gb) (he : FE K X W e gc)
    (ha : ∀ ov iv new, augStore i ov iv new = (do holding [new, ov, iv] (setItem ov iv new); release [new, ov, iv] []; pure .next) := by intros; rfl) : FS K X W (.AugAssign (.Subscript o i tpos) op e pos) (sAugS ga gb gc rd) :=
  PS.imp (ps_augS ho hi (getd_list hK) he hp (set_ix (K := K)) ha) fun D σ H ⟨F, ρ, M, E', s, x, h⟩ =>
    tG_mk s (x.ex.at_ s) (fun F1 H1 M1 d1 v1 e1 m1 r1 h1 => tG_mk (s.next e1.toExtW m1) ((x.ex.at_ s).next e1) (fun F2 H2 M2 d2 v2 e2 m2 r2 h2 =>
      ⟨F2, M2, d1, d2, _, m2, Rp.mono e2.toExtW _ _ r1, r2, fun F3 H3 M3 d3 v3 e3 m3 r3 h3 =>
        tG_mk (s.next ((e1.trans e2).trans e3).toExtW m3) ((x.ex.at_ s).next ((e1.trans e2).trans e3)) (fun F4 H4 M4 d4 v4 e4 m4 r4 h4 =>
          ⟨F4, M4, d3, d4, _, m4, Rp.mono e4.toExtW _ _ r3, r4, fun F5 H5 M5 d5 v5 e5 m5 r5 h5 =>
            ⟨F5, M5, d1, d2, d5, _, m5, Rp.mono (((e2.trans e3).trans e4).trans e5).toExtW _ _ r1, Rp.mono ((e3.trans e4).trans e5).toExtW _ _ r2, r5, fun F6 H6 M6 e6 m6 h6 =>
              x.nx F6 H6 ρ M6 σ (((((e1.trans e2).trans e3).trans e4).trans e5).trans e6) (s.next (((((e1.trans e2).trans e3).trans e4).trans e5).trans e6).toExtW m6) h6, h5⟩, h4⟩) h3, h2⟩) h1) h
end
section
variable {K : PySem.W.Frag} {X : Cx} {W : WX} {elt tg iter tg1 iter1 : Expr} {ifs ifs1 : List Expr} {scope : Scope} {own : List (Str × Nat)} {pos : Pos} {gi gi1 : DI} {vs vs1 : List Nat} {dg dg1 : DG} {tt tt1 : DT} {te : DE}
theorem fs_setLc2 (i : Nat) {y : Str} {py spos : Pos} {g : DE} (hN : X.N.Nodup) (hi : FI K X W tg iter gi) (ok : BlkOk X.N X.env.scope scope own) {ws1 : List Nat}
    (hg : ∀ (s : Shared) (H : Hp) (C : Addr) (cl : List (Str × Addr)) (fp : List Addr), FG K (X.blk s H scope (compEnvC scope cl C X.env) fp) tg vs dg) (ht : ∀ (s : Shared) (H : Hp) (C : Addr) (cl : List (Str × Addr)) (fp : List Addr), FTs K (X.blk s H scope (compEnvC scope cl C X.env) fp) W0 ifs tt)
    (hi1 : ∀ (s : Shared) (H : Hp) (C : Addr) (cl : List (Str × Addr)) (fp : List Addr), FI K (X.blk s H scope (compEnvC scope cl C X.env) fp) W0 tg1 iter1 gi1)
    (hg1 : ∀ (s : Shared) (H : Hp) (C : Addr) (cl : List (Str × Addr)) (fp : List Addr), FG K (X.blk s H scope (compEnvC scope cl C X.env) fp) tg1 vs1 dg1) (ht1 : ∀ (s : Shared) (H : Hp) (C : Addr) (cl : List (Str × Addr)) (fp : List Addr), FTs K (X.blk s H scope (compEnvC scope cl C X.env) fp) W0 ifs1 tt1)
    (he : ∀ (s : Shared) (H : Hp) (C : Addr) (cl : List (Str × Addr)) (fp : List Addr), FE K (X.blk s H scope (compEnvC scope cl C X.env) fp) W0 elt te) (hz : ∀ σ H Q, tG K W g σ H Q → tN K W (nLc2 gi dg tt gi1 dg1 tt1 te (own.map (·.2)) ws1) σ H Q)
    (hv : ∀ i ∈ vs, i ∈ own.map (·.2) := by decide) (hv1 : ∀ i ∈ vs1, i ∈ ws1 := by decide) (hw1 : ∀ i ∈ ws1, i ∈ own.map (·.2) := by decide)
    (hc : X.calm = true := by rfl) (hs : ∀ x, foldedSetIterable iter X.env x = pure x := by intro _; rfl) (hs1 : ∀ env x, foldedSetIterable iter1 env x = pure x := by intro _ _; rfl)
    (hy : X.N[i]? = some y := by rfl) (hyl : X.env.scope.names.lookup y = some .local := by rfl) (hsw : swapsWith (.ListComp elt [⟨tg, iter, ifs, 0⟩, ⟨tg1, iter1, ifs1, 0⟩] scope pos) (some (.Name y py)) spos.line X.env = pure true := by exact sw_true rfl rfl rfl (by decide +kernel)) :
    FS K X W (.Assign [.Name y py] (.ListComp elt [⟨tg, iter, ifs, 0⟩, ⟨tg1, iter1, ifs1, 0⟩] scope pos) spos) (sSet i g) :=
  PS.imp (ps_setLc2 hc hN hy hyl hsw hi ok hw1 hg ht hi1 hg1 ht1 he hs hs1) fun D σ H ⟨F, ρ, M, E', s, x, h⟩ => lc2_im hv hv1 σ H _ (hz σ H _ (tG_mk s (x.ex.at_ s) (fun F1 H1 M1 d v e1 m1 r1 h1 => x.nx F1 H1 _ M1 _ e1 ((s.next e1 m1).set i r1) h1) h))
end
end DL

set_option maxHeartbeats 2000000
/-! DL9: own exceptions: __init__, raise, try, fields, isinstance. -/
namespace L2
open PySem PySem.Spec PyProof.Rows
/-- what the clauses wish, each with or without a name (the slot) -/
def wMix (K : PySem.W.Frag) (Wout : WX) (D : Ends) : List (Value × Option Nat × (Addr → Value → Option Addr → TS)) → WX
  | [] => Wout
  | (c, oi, ts) :: r => fun cls d σ H => ∃ b, PySem.W.exmOne K cls c = some b ∧ (b = true → ∀ a, H a = none → match oi with
      | none => ts a cls d D σ H
      | some i => ts a cls d { nx := fun σ' H' => D.nx (σ'.set i none) H', rt := D.rt, bk := fun σ' H' => D.bk (σ'.set i none) H', ct := fun σ' H' => D.ct (σ'.set i none) H' } (σ.set i (some (.ref a))) H) ∧ (b = false → wMix K Wout D r cls d σ H)
inductive HdMix (X : Cx) : List ExceptHandler → List (Value × Option Nat × (Addr → Value → Option Addr → TS)) → Prop
  | nil : HdMix X [] []
  | un {x : Str} {c : Value} {ts : Addr → Value → Option Addr → TS} {b₀ : Stmt} {suite : List Stmt} {np pos' : Pos} {hds : List ExceptHandler} {l : List (Value × Option Nat × (Addr → Value → Option Addr → TS))} (hc : Names X x c)
      (hsu : ∀ (a : Addr) (oe : Obj) (cls : Value) (d : Option Addr) (pn : List (Addr × Obj)), Zc cls d oe → (∃ vs, oe.data = .fields vs) → PSs (X.suite a ((a, oe) :: pn)) (b₀ :: suite) (ts a cls d)) (r : HdMix X hds l) :
      HdMix X (.ExceptHandler (some (.Name x np)) none (b₀ :: suite) pos' :: hds) ((c, none, ts) :: l)
  | as (i : Nat) {x n : Str} {c : Value} {ts : Addr → Value → Option Addr → TS} {b₀ : Stmt} {suite : List Stmt} {np pos' : Pos} {hds : List ExceptHandler} {l : List (Value × Option Nat × (Addr → Value → Option Addr → TS))} (hc : Names X x c) (hi : X.N[i]? = some n) (hln : X.env.kindOf n = some .local)
      (hsu : ∀ (a : Addr) (oe : Obj) (cls : Value) (d : Option Addr) (pn : List (Addr × Obj)), Zc cls d oe → (∃ vs, oe.data = .fields vs) → PSs (X.suite a ((a, oe) :: pn)) (b₀ :: suite) (ts a cls d)) (r : HdMix X hds l) :
      HdMix X (.ExceptHandler (some (.Name x np)) (some n) (b₀ :: suite) pos' :: hds) ((c, some i, ts) :: l)
section
variable {X : Cx} {body : List Stmt} {h₀ : ExceptHandler} {hds : List ExceptHandler} {l : List (Value × Option Nat × (Addr → Value → Option Addr → TS))} {pos : Pos} {tb : WX → TS} {Wout : WX}
theorem ps_try_mix (hs : X.stack = X.env :: X.outer) (hf : X.env.frame = some X.env.locals) (hN : X.N.Nodup) (tk : Takes X Wout) (hb : ∀ (W : WX) (pn : List (Addr × Obj)) (xe : Value → Shared → Prop), Takes (X.tr pn xe) W → PassesOwn (model X.prog X.w) X.A X.env xe → PSs (X.tr pn xe) body (tb W))
    (hh : HdMix X (h₀ :: hds) l) : PS X (.Try body (h₀ :: hds) [] [] pos) (fun D σ H => tb (wMix X.K Wout D l) D σ H) := by
  refine ⟨fun pins s σ H D I h => ?_⟩; have ok := I.ok
  have hfr : X.A.frames = some (X.env :: X.outer) := by (rw [ok.frames, hs])
  refine wpAny_Try_except (wpAny_mono ((hb (wMix X.K Wout D l) (X.pn ++ pins) (fun e s₁ => wpAny (model X.prog X.w) X.A (noteFrame e X.env) (fun _ s₂ => wpAny (model X.prog X.w) X.A (setFlight e none) (fun _ s₃ =>
    wpAny (model X.prog X.w) X.A (handleBy e X.env (h₀ :: hds)) (SP X pins D) X.xe s₃) X.xe s₂) X.xe s₁) (fun u s' xx => ?_) PassesOwn.looking).run [] s σ H D (I.toTry _) h) (fun f s1 hsp => ?_) (fun e s1 he => he))
  · obtain ⟨a, B, sI, pins', σ', H', cls, d, rfl, J', nb, up, sky, na, os, ag, w⟩ := xx; have J : Inv X pins σ' H' sI := J'.ofTry ok
    have sky' : Sky B (X.env :: X.outer) a (Zc cls d) X.env.locals s'.heap := by (rw [← hs]; exact sky)
    show wpAny (model X.prog X.w) X.A (noteFrame (.ref a) X.env) _ _ _; refine Sky.land Zc.steady hfr hf sky' fun h3 fl3 up3 => ?_
    have J3 : Inv X pins σ' H' { s' with heap := h3 } := J.landed nb fl3.1 (up.trans up3) os ag; obtain ⟨oe3, vs3, he3, hz3, hd3⟩ := fl3.there
    have nfr : a ∉ frs (X.env :: X.outer) := fun hm => by (obtain ⟨_, o', e', hnf⟩ := fl3.2.2.1.mem hm; rw [he3] at e'; cases e'; exact hnf _ hd3)
    have nL : a ≠ X.env.locals := fun z => nfr (List.mem_filterMap.mpr ⟨X.env, List.mem_cons_self, by (rw [hf, z])⟩)
    have nF : a ∉ X.fs := fun hm => by (obtain ⟨e, he, q⟩ := List.mem_filterMap.mp hm; exact nfr (List.mem_filterMap.mpr ⟨e, List.mem_cons_of_mem _ he, q⟩))
    have S3 := J3.suite he3 hd3 na nL nF
    have LT : PySem.W.Looks (model X.prog X.w) h3 (typeOf (.ref a)) cls := fun A Q E s k q => wpAny_typeOf_ref (k _ _ he3) (by (rw [hz3.1]; exact q))
    have test : ∀ {x : Str} {c : Value} {np : Pos} {Q : Value → Shared → Prop} {E : Value → Shared → Prop}, Names X x c → Q c { s' with heap := h3 } → wpAny (model X.prog X.w) (X.A.mark (some (.ref a))) (eval (.Name x np) X.env) Q E { s' with heap := h3 } := fun {x c np Q E} hc q => by
      (obtain ⟨hg, hdbg, hm | ⟨hm, hv, hnn⟩⟩ := hc)
      · (exact ld_glob (X := X.suite a ((a, oe3) :: (X.pn ++ pins))) S3 hg hm q hdbg)
      · (exact ld_blt (X := X.suite a ((a, oe3) :: (X.pn ++ pins))) S3 hg hm hv q hnn hdbg)
    have go : ∀ {hds' : List ExceptHandler} {l' : List (Value × Option Nat × (Addr → Value → Option Addr → TS))}, HdMix X hds' l' → wMix X.K Wout D l' cls d σ' H' → wpAny (model X.prog X.w) X.A (handleBy (.ref a) X.env hds') (SP X pins D) X.xe { s' with heap := h3 } := by
      intro hds' l' hk
      induction hk with
      | nil =>
        intro w; refine wpAny_handleBy_nil ?_
        obtain ⟨k1, k2, k3, oe, vs, T, oT, ts', he, hz, hd, h1, hr⟩ := id fl3; unfold PySem.passOn
        refine wpAny_bind (wpAny_field he hd h1 ?_); rw [if_neg (show ¬ ((Value.ref T == Value.none) = true) from by simp)]
        have fin : wpAny (model X.prog X.w) X.A (setFlight (.ref a) X.env.frame) (fun _ s4 => wpAny (model X.prog X.w) X.A (throw (.ref a) : Sem Flow) (SP X pins D) X.xe s4) X.xe { s' with heap := h3 } := by
          rw [hf]; refine HandSPX.setFlight_upZ fl3 fun h4 hh4 up4 => wpAny_throw (tk _ _ ?_)
          exact ⟨a, B, sI, pins, σ', H', cls, d, rfl, J, nb, (up.trans up3).trans up4, .inr (.inr (by (rw [hs]; exact hh4))), na, os, ag, w⟩
        first | exact wpAny_bind (wpAny_pure (wpAny_bind fin)) | exact wpAny_bind fin
      | @un x c ts b₀ suite np pos' hds2 l2 hc hsu r ih =>
        intro w; obtain ⟨b, hb1, hyes, hno⟩ := w
        have LM := PySem.W.exm_one (M := model X.prog X.w) (J3.kIn) LT hb1; refine wpAny_handleBy_cons (codeAny_handlers_test ?_) (by intro q; cases q)
        refine test hc (LM.here ?_)
        cases b with
        | true =>
          refine codeAny_handlers_suite (HandSPX.lands_againZ fl3 fun h4 fl4 up4 => ?_)
          have J4 : Inv X pins σ' H' { s' with heap := h4 } := J.landed nb fl4.1 ((up.trans up3).trans up4) os ag; obtain ⟨oe4, vs4, he4, hz4, hd4⟩ := fl4.there
          have S4 := J4.suite he4 hd4 na nL nF; refine wpAny_mono ((hsu a oe4 cls d (X.pn ++ pins) hz4 ⟨_, hd4⟩).run [] _ _ H' _ S4 (hyes rfl a na)) (fun f s6 hsp => ?_) (fun _ _ z => False.elim z)
          cases f with
          | next => (obtain ⟨σ6, H6, S6, q6⟩ := hsp; exact ⟨_, _, S6.unsuite ok, q6⟩)
          | brk => (obtain ⟨σ6, H6, S6, q6⟩ := hsp; exact ⟨_, _, S6.unsuite ok, q6⟩)
          | cont => (obtain ⟨σ6, H6, S6, q6⟩ := hsp; exact ⟨_, _, S6.unsuite ok, q6⟩)
          | ret u => (obtain ⟨v6, σ6, H6, S6, r6, q6⟩ := hsp; exact ⟨_, _, _, S6.unsuite ok, r6, q6⟩)
        | false => (show wpAny _ X.A (handleBy (.ref a) X.env hds2) _ _ _; exact ih (hno rfl))
      | @as i x n c ts b₀ suite np pos' hds2 l2 hc hi hln hsu r ih =>
        intro w; obtain ⟨b, hb1, hyes, hno⟩ := w
        have LM := PySem.W.exm_one (M := model X.prog X.w) (J3.kIn) LT hb1; refine wpAny_handleBy_cons (codeAny_handlers_test ?_) (by intro q; cases q)
        refine test hc (LM.here ?_)
        cases b with
        | true =>
          refine codeAny_handlers_suite_as (HandSPX.lands_againZ fl3 fun h4 fl4 up4 => ?_)
          have J4 : Inv X pins σ' H' { s' with heap := h4 } := J.landed nb fl4.1 ((up.trans up3).trans up4) os ag; obtain ⟨oe4, vs4, he4, hz4, hd4⟩ := fl4.there
          have S4 := J4.suite he4 hd4 na nL nF; refine store_ok (X := X.suite a ((a, oe4) :: (X.pn ++ pins))) (v := .ref a) S4 hN hi (.inl hln) rfl (fun s5 S5 => ?_) (.inr hln)
          refine wpAny_mono ((hsu a oe4 cls d (X.pn ++ pins) hz4 ⟨_, hd4⟩).run [] s5 _ H' _ S5 (hyes rfl a na)) (fun f s6 hsp => ?_) (fun _ _ z => False.elim z)
          have end_ : ∀ {σ6 : St} {H6 : Hp} {Q : Shared → Prop}, Inv (X.suite a ((a, oe4) :: (X.pn ++ pins))) [] σ6 H6 s6 → (∀ s7, Inv X pins (σ6.set i none) H6 s7 → Q s7) → wpAny (model X.prog X.w) X.A (do bindName X.env n .none; unbindBehindTheSuite X.env n pos') (fun _ s7 => Q s7) X.xe s6 :=
            fun {σ6 H6 Q} S6 hq => gone_ok (S6.unsuite ok) hN hi hln hq
          cases f with
          | next => (obtain ⟨σ6, H6, S6, q6⟩ := hsp; exact end_ S6 fun s7 J7 => ⟨_, _, J7, q6⟩)
          | brk => (obtain ⟨σ6, H6, S6, q6⟩ := hsp; exact end_ S6 fun s7 J7 => ⟨_, _, J7, q6⟩)
          | cont => (obtain ⟨σ6, H6, S6, q6⟩ := hsp; exact end_ S6 fun s7 J7 => ⟨_, _, J7, q6⟩)
          | ret u => (obtain ⟨v6, σ6, H6, S6, r6, q6⟩ := hsp; exact end_ S6 fun s7 J7 => ⟨_, _, _, J7, r6, q6⟩)
        | false => (show wpAny _ X.A (handleBy (.ref a) X.env hds2) _ _ _; exact ih (hno rfl))
    exact go hh w
  · cases f with
    | next => (obtain ⟨σ', H', J', q⟩ := hsp; exact wpAny_execs_nil ⟨σ', H', J'.ofTry ok, q⟩)
    | brk => (obtain ⟨σ', H', J', q⟩ := hsp; exact ⟨σ', H', J'.ofTry ok, q⟩)
    | cont => (obtain ⟨σ', H', J', q⟩ := hsp; exact ⟨σ', H', J'.ofTry ok, q⟩)
    | ret u => (obtain ⟨v, σ', H', J', r, q⟩ := hsp; exact ⟨v, σ', H', J'.ofTry ok, r, q⟩)
end
end L2
namespace DL
open PySem PySem.Spec PyProof.Rows L2
/-! ### __init__ -/
/-- what __init__ of an own exception class keeps: its fields are fs, in the order of its parameters -/
def spInit (C : Addr) (fs : List Str) : Sp := fun vs H Q _ => ∃ (a : Addr) (ws : List V), vs = .ref a :: ws ∧ ws.length = fs.length ∧ H a = some (exo a C none) ∧
  ∀ (dx : Addr) (H' : Hp), H dx = none → dx ≠ a → H' a = some (exo a C (some dx)) → H' dx = some (exd dx (fs.zip ws).reverse) → (∀ b, b ≠ a → b ≠ dx → H' b = H b) → Q .non H'
section
variable {P : Program} {w : World} {K : PySem.W.Frag} {mg : Str → Option Value} {base : Heap} {C f : Addr} {fd : FuncData}
theorem init1 {st : Stmt} {qual f1 : Str} {N ps : List Str} {p1 p2 p3 p4 : Pos} {n0 n1 : Str} (F : Fun K "__init__" qual st f fd) (T : ExCls K C [f1]) (S : FnScope N ps (defScope st)) (hps : ps.length = 2) (h0 : N = [n0, n1])
    (hb : defBody st = [.Assign [.Attribute (.Name n0 p1) f1 p2] (.Name n1 p3) p4]) (hv0 : (defScope st).names.lookup n0 = some .local) (hv1 : (defScope st).names.lookup n1 = some .local) (hd0 : (n0 == ("__debug__" : Str)) = false) (hd1 : (n1 == ("__debug__" : Str)) = false)
    (hc0 : (n0 == ("__classdict__" : Str)) = false) (hc1 : (n1 == ("__classdict__" : Str)) = false) : FnOk P w K mg base (L2.CX P w) 1 f fd ps (spInit C [f1]) := by
  subst h0
  refine F.okX S (fun vs H Q E h => ?_) (fun cdv A outer s H vs Q E hr h => ?_)
  · obtain ⟨a, ws, rfl, hl, _⟩ := h
    rw [hps, List.length_cons, hl]
    rfl
  · obtain ⟨a, ws, rfl, hl, ha, k⟩ := h
    rw [hb]
    match ws, hl with
    | [y], _ =>
      refine ⟨_, pss_one (ps_ost (pe_var (i := 0) rfl (Or.inl hv0) hd0 hc0) (pe_var (i := 1) rfl (Or.inl hv1) hd1 hc1)), y, rfl, V.ref a, rfl, a, C, rfl, T.ox, T.no _ (by simp), .inl ⟨ha, fun dx h1 h2 => k dx _ h1 h2 upd_same ?_ fun b b1 b2 => ?_⟩⟩
      · rw [upd_ne h2]; exact upd_same
      · rw [upd_ne b1, upd_ne b2]
theorem init2 {st : Stmt} {qual f1 f2 : Str} {N ps : List Str} {p1 p2 p3 p4 q1 q2 q3 q4 : Pos} {n0 n1 n2 : Str} (F : Fun K "__init__" qual st f fd) (T : ExCls K C [f1, f2]) (S : FnScope N ps (defScope st)) (hps : ps.length = 3) (h0 : N = [n0, n1, n2])
    (hb : defBody st = [.Assign [.Attribute (.Name n0 p1) f1 p2] (.Name n1 p3) p4, .Assign [.Attribute (.Name n0 q1) f2 q2] (.Name n2 q3) q4]) (hv0 : (defScope st).names.lookup n0 = some .local) (hv1 : (defScope st).names.lookup n1 = some .local) (hv2 : (defScope st).names.lookup n2 = some .local)
    (hd0 : (n0 == ("__debug__" : Str)) = false) (hd1 : (n1 == ("__debug__" : Str)) = false) (hd2 : (n2 == ("__debug__" : Str)) = false)
    (hc0 : (n0 == ("__classdict__" : Str)) = false) (hc1 : (n1 == ("__classdict__" : Str)) = false) (hc2 : (n2 == ("__classdict__" : Str)) = false) : FnOk P w K mg base (L2.CX P w) 1 f fd ps (spInit C [f1, f2]) := by
  subst h0
  refine F.okX S (fun vs H Q E h => ?_) (fun cdv A outer s H vs Q E hr h => ?_)
  · obtain ⟨a, ws, rfl, hl, _⟩ := h
    rw [hps, List.length_cons, hl]
    rfl
  · obtain ⟨a, ws, rfl, hl, ha, k⟩ := h
    rw [hb]
    match ws, hl with
    | [y, z], _ =>
      refine ⟨_, pss_cons (ps_ost (pe_var (i := 0) rfl (Or.inl hv0) hd0 hc0) (pe_var (i := 1) rfl (Or.inl hv1) hd1 hc1)) (pss_one (ps_ost (pe_var (i := 0) rfl (Or.inl hv0) hd0 hc0) (pe_var (i := 2) rfl (Or.inl hv2) hd2 hc2))), y, rfl, V.ref a, rfl, a, C, rfl, T.ox, T.no _ (by simp), .inl ⟨ha, fun dx h1 h2 => ?_⟩⟩
      refine ⟨z, rfl, V.ref a, rfl, a, C, rfl, T.ox, T.no _ (by simp), .inr ⟨dx, [(f1, y)], upd_same, ?_, ?_, k dx _ h1 h2 ?_ ?_ fun b b1 b2 => ?_⟩⟩
      · rw [upd_ne h2]; exact upd_same
      · show 1 ≤ 900; decide
      · rw [upd_ne (Ne.symm h2)]; exact upd_same
      · exact upd_same
      · rw [upd_ne b2, upd_ne b1, upd_ne b2]
end

/-! ### raise C(..) -/
section
variable {K : PySem.W.Frag} {X : Cx} {W : WX} {F : Addr → Prop} {H : Hp} {ρ : Dv} {M : Mem} {σ : L2.St} {a b e o : Expr} {ga gb gc gd : DE} {pos cpos apos : Pos}
theorem Rpf.append : ∀ {ds es : List (Str × D)} {vs ws : List (Str × V)}, Rpf K F H ds vs → Rpf K F H es ws → Rpf K F H (ds ++ es) (vs ++ ws)
  | [], es, vs, ws, h, g => by unfold Rpf at h; subst h; exact g
  | d :: ds, es, vs, ws, h, g => by
    unfold Rpf at h
    obtain ⟨v, r, rfl, h1, h2⟩ := h
    rw [List.cons_append, List.cons_append]
    unfold Rpf
    exact ⟨v, _, rfl, h1, Rpf.append h2 g⟩
theorem Rpf.nil : Rpf K F H [] [] := by unfold Rpf; rfl
theorem Rpf.one {f : Str} {d : D} {v : V} (h : Rp K F H d v) : Rpf K F H [(f, d)] [(f, v)] := by
  unfold Rpf
  exact ⟨v, [], rfl, h, .nil⟩
theorem Rpf.zipRev : ∀ {fs : List Str} {ds : List D} {vs : List V}, Rps K F H ds vs → Rpf K F H (fs.zip ds).reverse (fs.zip vs).reverse
  | [], ds, vs, h => by simp [Rpf.nil]
  | f :: fs, [], vs, h => by unfold Rps at h; subst h; simp [Rpf.nil]
  | f :: fs, d :: ds, vs, h => by
    unfold Rps at h
    obtain ⟨v, r, rfl, h1, h2⟩ := h
    rw [List.zip_cons_cons, List.zip_cons_cons, List.reverse_cons, List.reverse_cons]
    exact Rpf.append (Rpf.zipRev h2) (.one h1)
theorem Rpf.look : ∀ {ds : List (Str × D)} {vs : List (Str × V)} {f : Str} {d : D}, Rpf K F H ds vs → ds.lookup f = some d → ∃ v, vs.lookup f = some v ∧ Rp K F H d v
  | [], vs, f, d, h, e => by cases e
  | (g, d0) :: ds, vs, f, d, h, e => by
    unfold Rpf at h
    obtain ⟨v, r, rfl, h1, h2⟩ := h
    show ∃ w, List.lookup f ((g, v) :: r) = some w ∧ _
    rw [List.lookup] at e ⊢
    cases z : f == g with
    | true =>
      rw [z] at e
      cases e
      exact ⟨v, rfl, h1⟩
    | false =>
      rw [z] at e
      exact Rpf.look h2 e
def exOf (C : Addr) (fs : List Str) (ds : List D) : DX := ⟨.ref C, (fs.zip ds).reverse⟩
def sRaise (C : Addr) (fs : List Str) (g : DA) : DS := fun E ρ M => g (fun x M => E.ex x ρ M) ρ M fun ds M1 => ds.length = fs.length ∧ E.ex (exOf C fs ds) ρ M1
/-- raise C(..), the store told less behind -/
def sRaiseF (C : Addr) (fs : List Str) (g : DA) : DS := fun E ρ M => g (fun x M => E.ex x ρ M) ρ M fun ds M1 => ds.length = fs.length ∧ ∃ M2, (∀ a o, M2 a = some o → M1 a = some o) ∧ E.ex (exOf C fs ds) ρ M2
theorem fs_raiseF {k : Nat} {C fI : Addr} {fd : FuncData} {fs ps : List Str} {x : Str} {p pos2 : Pos} {es : List Expr} {g : DA} (hc : X.calm = true) (T : ExCls K C fs) (hsm : fs.length ≤ 1000) (iC : PySem.W.findIn K (.ref C) "__init__" = some (some (.ref fI))) (tI : PySem.W.typeIn K (.ref fI) = some (.type "function"))
    (F1 : FnOk X.prog X.w K X.mg X.base (L2.CX X.prog X.w) k fI fd ps (spInit C fs)) (hr : Room (k + 1) X.A) (hb : Binds K fd ps []) (tk : Takes X W) (hm : X.mg x = some (.ref C)) (ha : FA K X W (e :: es) g)
    (hK : X.K = K := by rfl) (hg : Gl X x := by rfl) (hdb : (x == ("__debug__" : Str)) = false := by decide) (he : starEach (e :: es) X.env = (false, eval e X.env) :: starEach es X.env := by rfl) (hpl : (backTo pos (starEach es X.env)).any (·.1) = false := by rfl) :
    FS K X W (.Raise (some (.Call (.Name x p) (e :: es) [] pos)) none pos2) (sRaiseF C fs g) := by
  subst hK
  refine PS.imp (ps_raise hc tk (pmk_oex (ds := []) (dvs := []) T.ox iC tI F1 hr hb .nil passL hg hm ha hdb he hpl)) fun D σ H ⟨F, ρ, M, E', s, y, h⟩ => (⟨F, ρ, M, _, _, s, y.ex.at_ s, fun F1 H1 M1 ds vs e1 m1 r1 h1 => ?_, h⟩ : tGa X.K W g σ H _)
  obtain ⟨hl, M2, hM2, h1⟩ := h1
  have hl2 : vs.length = fs.length := r1.length.trans hl
  refine ⟨by omega, fun a na => ⟨a, vs ++ [], rfl, by simpa using hl2, upd_same, fun dx H' n1 n2 z1 z2 z3 => ⟨rfl, dx, _, z1, z2, by rw [upd_ne n2] at n1; exact n1, ?_⟩⟩⟩
  rw [upd_ne n2] at n1
  have eH : upd (del H' a) dx (.xd (fs.zip (vs ++ [])).reverse) = upd H1 dx (.xd (fs.zip vs).reverse) := by
    rw [List.append_nil]
    funext b
    by_cases hb : b = dx
    · rw [hb, upd_same, upd_same]
    · rw [upd_ne hb, upd_ne hb]
      by_cases ha : b = a
      · rw [ha, del_same, na]
      · rw [del_ne ha, z3 b ha hb, upd_ne ha]
  rw [eH]
  have l : Ext F1 H1 M1 F1 (upd H1 dx (.xd (fs.zip vs).reverse)) M1 := Ext.laid n1 fun _ z => z
  have l2 : Ext F1 H1 M1 F1 (upd H1 dx (.xd (fs.zip vs).reverse)) M2 := ⟨l.toExtW, l.frame, fun b hb => .inl fun z => (by
    cases q : M2 b with
    | none => exact hb q
    | some o => rw [hM2 b o q] at z; cases z), l.new⟩
  exact y.ex F1 _ ρ M2 σ (exOf C fs ds) _ _ (e1.trans l2) (s.next (e1.trans l2).toExtW ((m1.aside n1 _).sub hM2)) ⟨rfl, .inr ⟨dx, _, rfl, upd_same, Rpf.zipRev (Rps.mono l.toExtW _ _ r1)⟩⟩ h1
theorem fs_raise {k : Nat} {C fI : Addr} {fd : FuncData} {fs ps : List Str} {x : Str} {p pos2 : Pos} {es : List Expr} {g : DA} (hc : X.calm = true) (T : ExCls K C fs) (hsm : fs.length ≤ 1000) (iC : PySem.W.findIn K (.ref C) "__init__" = some (some (.ref fI))) (tI : PySem.W.typeIn K (.ref fI) = some (.type "function"))
    (F1 : FnOk X.prog X.w K X.mg X.base (L2.CX X.prog X.w) k fI fd ps (spInit C fs)) (hr : Room (k + 1) X.A) (hb : Binds K fd ps []) (tk : Takes X W) (hm : X.mg x = some (.ref C)) (ha : FA K X W (e :: es) g)
    (hK : X.K = K := by rfl) (hg : Gl X x := by rfl) (hdb : (x == ("__debug__" : Str)) = false := by decide) (he : starEach (e :: es) X.env = (false, eval e X.env) :: starEach es X.env := by rfl) (hpl : (backTo pos (starEach es X.env)).any (·.1) = false := by rfl) :
    FS K X W (.Raise (some (.Call (.Name x p) (e :: es) [] pos)) none pos2) (sRaise C fs g) := by
  subst hK
  refine PS.imp (ps_raise hc tk (pmk_oex (ds := []) (dvs := []) T.ox iC tI F1 hr hb .nil passL hg hm ha hdb he hpl)) fun D σ H ⟨F, ρ, M, E', s, y, h⟩ => (⟨F, ρ, M, _, _, s, y.ex.at_ s, fun F1 H1 M1 ds vs e1 m1 r1 h1 => ?_, h⟩ : tGa X.K W g σ H _)
  obtain ⟨hl, h1⟩ := h1
  have hl2 : vs.length = fs.length := r1.length.trans hl
  refine ⟨by omega, fun a na => ⟨a, vs ++ [], rfl, by simpa using hl2, upd_same, fun dx H' n1 n2 z1 z2 z3 => ⟨rfl, dx, _, z1, z2, by rw [upd_ne n2] at n1; exact n1, ?_⟩⟩⟩
  rw [upd_ne n2] at n1
  have eH : upd (del H' a) dx (.xd (fs.zip (vs ++ [])).reverse) = upd H1 dx (.xd (fs.zip vs).reverse) := by
    rw [List.append_nil]
    funext b
    by_cases hb : b = dx
    · rw [hb, upd_same, upd_same]
    · rw [upd_ne hb, upd_ne hb]
      by_cases ha : b = a
      · rw [ha, del_same, na]
      · rw [del_ne ha, z3 b ha hb, upd_ne ha]
  rw [eH]
  have l : Ext F1 H1 M1 F1 (upd H1 dx (.xd (fs.zip vs).reverse)) M1 := Ext.laid n1 fun _ z => z
  exact y.ex F1 _ ρ M1 σ (exOf C fs ds) _ _ (e1.trans l) (s.next (e1.trans l).toExtW (m1.aside n1 _)) ⟨rfl, .inr ⟨dx, _, rfl, upd_same, Rpf.zipRev (Rps.mono l.toExtW _ _ r1)⟩⟩ h1

/-! ### try -/
abbrev DH := Value × Option Nat × (Addr → Value → Option Addr → List (Str × D) → DS)
/-- what the clauses make of an exception -/
def dHds (K : PySem.W.Frag) (E : DEnds) : List DH → DX → Dv → Mem → Prop
  | [], x, ρ, M => E.ex x ρ M
  | (c, oi, ts) :: r, x, ρ, M => ∃ b, PySem.W.exmOne K x.cls c = some b ∧ (b = true → ∀ (a : Addr) (d : Option Addr), (d = none → x.fs = []) → match oi with
      | none => ts a x.cls d x.fs { E with ex := fun _ _ _ => False } ρ M
      | some i => ts a x.cls d x.fs { nx := fun ρ' M' => E.nx (ρ'.set i none) M', rt := E.rt, bk := fun ρ' M' => E.bk (ρ'.set i none) M', ct := fun ρ' M' => E.ct (ρ'.set i none) M', ex := fun _ _ _ => False } (ρ.set i (some (.xo a d x.fs))) M) ∧ (b = false → dHds K E r x ρ M)
def sTry (K : PySem.W.Frag) (tb : DS) (hs : List DH) : DS := fun E ρ M => tb { E with ex := dHds K E hs } ρ M
inductive HdD (K : PySem.W.Frag) (X : Cx) : List ExceptHandler → List DH → Prop
  | nil : HdD K X [] []
  | un {x : Str} {c : Value} {ts : Addr → Value → Option Addr → List (Str × D) → DS} {b₀ : Stmt} {suite : List Stmt} {np pos' : Pos} {hds : List ExceptHandler} {l : List DH} (hc : Names X x c)
      (hsu : ∀ (a : Addr) (oe : Obj) (cls : Value) (d : Option Addr) (fs : List (Str × D)) (pn : List (Addr × Obj)), Zc cls d oe → (∃ vs, oe.data = .fields vs) → FSs K (X.suite a ((a, oe) :: pn)) W0 (b₀ :: suite) (ts a cls d fs)) (r : HdD K X hds l) :
      HdD K X (.ExceptHandler (some (.Name x np)) none (b₀ :: suite) pos' :: hds) ((c, none, ts) :: l)
  | as (i : Nat) {x n : Str} {c : Value} {ts : Addr → Value → Option Addr → List (Str × D) → DS} {b₀ : Stmt} {suite : List Stmt} {np pos' : Pos} {hds : List ExceptHandler} {l : List DH} (hc : Names X x c) (hi : X.N[i]? = some n) (hln : X.env.kindOf n = some .local)
      (hsu : ∀ (a : Addr) (oe : Obj) (cls : Value) (d : Option Addr) (fs : List (Str × D)) (pn : List (Addr × Obj)), Zc cls d oe → (∃ vs, oe.data = .fields vs) → FSs K (X.suite a ((a, oe) :: pn)) W0 (b₀ :: suite) (ts a cls d fs)) (r : HdD K X hds l) :
      HdD K X (.ExceptHandler (some (.Name x np)) (some n) (b₀ :: suite) pos' :: hds) ((c, some i, ts) :: l)
/-- the suites, their exception's fields not yet known -/
def upH (K : PySem.W.Frag) (l : List DH) : List (Value × Option Nat × (Addr → Value → Option Addr → TS)) := l.map fun p => (p.1, p.2.1, fun a cls d D σ H => ∃ fs, tGs K W0 (p.2.2 a cls d fs) D σ H)
theorem PSs.some {st : List Stmt} {t : List (Str × D) → TS} (h : ∀ fs, PSs X st (t fs)) : PSs X st fun D σ H => ∃ fs, t fs D σ H := ⟨fun pins s σ H D I ⟨fs, q⟩ => (h fs).run pins s σ H D I q⟩
theorem HdD.up {hds : List ExceptHandler} {l : List DH} (h : HdD K X hds l) : HdMix X hds (upH K l) := by
  induction h with
  | nil => exact .nil
  | un hc hsu r ih => exact .un hc (fun a oe cls d pn hz hf => PSs.some fun fs => hsu a oe cls d fs pn hz hf) ih
  | as i hc hi hln hsu r ih => exact .as i hc hi hln (fun a oe cls d pn hz hf => PSs.some fun fs => hsu a oe cls d fs pn hz hf) ih
theorem EnvOk.gone {i : Nat} (h : EnvOk K F H ρ σ) : EnvOk K F H (ρ.set i none) (σ.set i none) := fun j d e => by
  by_cases z : i = j
  · subst z
    by_cases hi : i < ρ.length
    · rw [List.getElem?_set_self hi] at e; cases e
    · rw [List.getElem?_eq_none (by simpa using hi)] at e; cases e
  · rw [List.getElem?_set_ne z] at e ⊢
    exact h j d e
theorem Sta.gone {i : Nat} (s : Sta K F H ρ M σ) : Sta K F H (ρ.set i none) M (σ.set i none) := ⟨s.env.gone, s.mem, by rw [List.length_set, List.length_set]; exact s.len⟩
theorem RpX.xo {x : DX} {cls : Value} {d : Option Addr} {a : Addr} (h : RpX K F H x cls d) : Rp K F H (.xo a d x.fs) (.ref a) := by
  unfold Rp
  refine ⟨rfl, ?_⟩
  obtain ⟨_, h | ⟨dd, gs, h1, h2, h3⟩⟩ := h
  · rw [h.1, h.2]; exact ⟨[], rfl, .nil⟩
  · subst h1; exact ⟨gs, h2, h3⟩
theorem RpX.fs0 {x : DX} {cls : Value} {d : Option Addr} (h : RpX K F H x cls d) : d = none → x.fs = [] := fun e => by
  obtain ⟨_, h | ⟨dd, gs, h1, h2, h3⟩⟩ := h
  · exact h.1
  · rw [h1] at e; cases e
theorem sx0 {F : Addr → Prop} {H : Hp} {M : Mem} : SXOk K F H M (fun _ _ _ => False) W0 := fun _ _ _ _ _ _ _ _ _ _ _ z => z
theorem hds_at {E : DEnds} {D : Ends} : ∀ {l : List DH} {F : Addr → Prop} {H : Hp} {M : Mem} {ρ : Dv} {σ : L2.St} {x : DX} {cls : Value} {d : Option Addr}, EOk K F H M E D W → Sta K F H ρ M σ → RpX K F H x cls d → dHds K E l x ρ M → wMix K W D (upH K l) cls d σ H
  | [], F, H, M, ρ, σ, x, cls, d, y, s, r, h => y.ex F H ρ M σ x cls d (Ext.refl _ _ _) s r h
  | (c, oi, ts) :: l, F, H, M, ρ, σ, x, cls, d, y, s, r, h => by
    obtain ⟨b, h1, h2, h3⟩ := h
    have ec := r.1
    refine ⟨b, by rw [ec]; exact h1, fun e a na => ?_, fun e => hds_at y s r (h3 e)⟩
    have h2 := h2 e a d r.fs0
    subst ec
    cases oi with
    | none => exact ⟨x.fs, tGs_mk (E' := { E with ex := fun _ _ _ => False }) s ⟨y.nx, y.rt, y.bk, y.ct, sx0⟩ h2⟩
    | some i =>
      refine ⟨x.fs, tGs_mk (E' := { nx := fun ρ' M' => E.nx (ρ'.set i none) M', rt := E.rt, bk := fun ρ' M' => E.bk (ρ'.set i none) M', ct := fun ρ' M' => E.ct (ρ'.set i none) M', ex := fun _ _ _ => False }) (s.set i r.xo) ⟨fun F' H' ρ' M' σ' e' s' q => y.nx F' H' _ M' _ e' s'.gone q, y.rt, fun F' H' ρ' M' σ' e' s' q => y.bk F' H' _ M' _ e' s'.gone q, fun F' H' ρ' M' σ' e' s' q => y.ct F' H' _ M' _ e' s'.gone q, sx0⟩ h2⟩
theorem fs_try {body : List Stmt} {h₀ : ExceptHandler} {hds : List ExceptHandler} {l : List DH} {tb : DS} (hN : X.N.Nodup) (tk : Takes X W)
    (hb : ∀ (W : WX) (pn : List (Addr × Obj)) (xe : Value → Shared → Prop), Takes (X.tr pn xe) W → PassesOwn (model X.prog X.w) X.A X.env xe → FSs K (X.tr pn xe) W body tb) (hh : HdD K X (h₀ :: hds) l)
    (hK : X.K = K := by rfl) (hs : X.stack = X.env :: X.outer := by rfl) (hf : X.env.frame = some X.env.locals := by rfl) : FS K X W (.Try body (h₀ :: hds) [] [] pos) (sTry K tb l) := by
  subst hK
  exact PS.imp (ps_try_mix hs hf hN tk (fun W pn xe t p => hb W pn xe t p) hh.up) fun D σ H ⟨F, ρ, M, E', s, y, h⟩ =>
    tGs_mk (E' := { E' with ex := dHds X.K E' l }) s ⟨y.nx, y.rt, y.bk, y.ct, fun F' H' ρ' M' σ' x cls d e' s' r q => hds_at (y.next e') s' r q⟩ h

/-! ### the caught error's fields, isinstance of it -/
/-- e.f, e the error of the suite (at a, its class at C, its dict d) -/
def gXf (a : Addr) (cls : Value) (d : Option Addr) (C : Addr) (f : Str) (g : DE) : DE := fun E ρ M Q => g E ρ M fun y M1 => cls = .ref C ∧ ∃ fs z, y = .xo a d fs ∧ fs.lookup f = some z ∧ Q z M1
theorem fe_xf {a C : Addr} {oe : Obj} {cls : Value} {d : Option Addr} {pn : List (Addr × Obj)} {e : Expr} {n : Str} {fs : List Str} (hK : X.K = K) (T : ExCls K C fs) (hz : Zc cls d oe) (hf : ∃ vs, oe.data = .fields vs) (hn : n ∈ fs) (he : FE K (X.suite a ((a, oe) :: pn)) W e ga)
    (hb : attributeBase e n X.env (eval e X.env) = eval e X.env := by rfl) : FE K (X.suite a ((a, oe) :: pn)) W (.Attribute e n pos) (gXf a cls d C n ga) := by
  subst hK
  refine PE.imp (pe_xf T.xf (T.no n hn) hz hf he hb) fun σ H Q ⟨F, ρ, M, E, Q', s, x, q, h⟩ => tG_mk s x (fun F1 H1 M1 y v e1 m1 r1 h1 => ?_) h
  obtain ⟨ec, fs, z, rfl, hl, h1⟩ := h1
  unfold Rp at r1
  obtain ⟨rfl, gs, r2, r3⟩ := r1
  obtain ⟨w, hw, rw'⟩ := Rpf.look r3 hl
  cases d with
  | none =>
    have r2' : gs = [] := r2
    subst r2'
    cases hw
  | some dd => exact ⟨rfl, ec, dd, gs, w, rfl, r2, hw, q F1 H1 M1 _ _ e1 m1 rw' h1⟩
end
end DL
namespace DLM
open PySem PySem.W PySem.Spec PySem.Calls PyProof.Rows
section
variable {prog : Program} {w : World} {A : Around} {E : Value → Shared → Prop} {s : Shared} {K : Frag} {x D : Addr} {ox : Obj} {od : Option Obj}
theorem fo_data {C : Addr} {name : Str} {a g : Value} (hc : (clsIn K C).isSome = true) (ha : findIn K (.ref C) name = some (some a)) (hg : specialIn K a "__get__" = some (some g)) (ht : takesIn K a = some true) : findObj K C od name = some (.bind g a) := by
  (obtain ⟨cd, hc⟩ := Option.isSome_iff_exists.mp hc; unfold findObj; rw [hc, Option.bind_some, ha, Option.bind_some]; simp [hg, ht])
theorem kin_cls (hga : findIn K (.ref D) "__getattribute__" = some (some (.builtin "BaseException.__getattribute__"))) (hgt : findIn K (.ref D) "__getattr__" = some none) (hsub : subIn K (.ref D) (.type "BaseException") = some true) (hdct : hasDictIn K D = true)
    (ha : findIn K (.ref D) "__class__" = some (some (.builtin "object.__class__"))) (hn : specialIn K (.builtin "object.__class__") "__get__" = some (some (.builtin "getset_descriptor.__get__"))) (htk : takesIn K (.builtin "object.__class__") = some true) (hm : mroIn K D (.type "object") = some true)
    {Q : Option Value → Shared → Prop} (X : K.In s.heap) (I : InstAt s.heap x ox D od) (h : Q (some (.ref D)) { s with toks := s.toks + 1 }) : wpAny (model prog w) A (getAttr? (.ref x) "__class__") Q E s := by
  have hf : findObj K D od "__class__" = some (.bind (.builtin "getset_descriptor.__get__") (.builtin "object.__class__")) := fo_data (by (obtain ⟨cd, hc, _⟩ := any_some hdct; rw [hc]; rfl)) ha hn htk
  obtain ⟨hp, g, d, t, os⟩ := s; have L0 := I.type (M := model prog w)
  have L1 := looks_findIn (M := model prog w) X hga; have L2 := looks_findIn (M := model prog w) X hgt
  have L3 := looks_find (M := model prog w) X I hf; have sub : Looks (model prog w) hp (isInstance (.ref x) (.type "BaseException")) true := L0.andThen (looks_subIn X hsub)
  have hx0 : (false && onTheHeap (Value.builtin "BaseException.__getattribute__")) = false := by rfl
  have hx2 : (Value.builtin "BaseException.__getattribute__" == Value.builtin "object.__getattribute__") = false := by (decide +kernel)
  have hx1 : (onTheHeap (Value.ref D) && Value.builtin "BaseException.__getattribute__" == Value.builtin "object.__getattribute__") = false := by (rw [hx2]; rfl)
  unfold getAttr? getAttrBy? getAttrBy; refine wpAny_bind (wpAny_mkText (wpAny_bind (wpAny_attempt (wpAny_holding (wpAny_bind (L0.at (wpAny_bind (L1.at ?_))))))))
  show wpAny _ _ (if (onTheHeap (Value.ref D) && Value.builtin "BaseException.__getattribute__" == Value.builtin "object.__getattribute__") = true then _ else _) _ _ _; rw [hx1, if_neg Bool.false_ne_true]
  unfold getAttrByItsOwn hookBefore; refine wpAny_bind ?_; rw [if_pos (show onTheHeap (Value.ref D) = true from rfl)]
  refine L2.at (wpAny_bind (wpAny_attempt (wpAny_holding ?_))); unfold callGetattribute
  rw [hx0, if_neg Bool.false_ne_true]; unfold boundAndCalled; rw [PySem.F.excAttr_ValueError.ga.bind (.ref x)]
  refine wpAny_bind (wpAny_pure ?_); show wpAny _ _ (call (.builtin "BaseException.__getattribute__") [.ref x, .str "__class__" t]) _ _ _
  refine wpAny_call (codeAny_call_builtin PySem.F.excAttr_ValueError.ga.plain PySem.F.entry_bexc_ga (@check_slot (model prog w) _ _ ⟨hp, g, d, t + 1, os⟩ "BaseException.__getattribute__" "BaseException" "__getattribute__" (.ref x) [.str "__class__" t] [] _ (by decide +kernel) (by decide +kernel) sub (PySem.F.args_bexc_ga (.ref x) (.str "__class__" t)) ?_))
  unfold Builtin.«object.__getattribute__»; refine wpAny_bind (wpAny_of_eq (a := ((Value.ref x : Value), [Value.str "__class__" t])) (by first | rfl | (simp only [slotArgs]; rfl)) ?_)
  refine wpAny_bind (wpAny_pure (wpAny_bind (L0.at (wpAny_bind (L3.at ?_))))); show wpAny _ _ (holding [Value.builtin "object.__class__"] (call (.builtin "getset_descriptor.__get__") [.builtin "object.__class__", .ref x, .ref D]) >>= ret) _ _ _
  refine wpAny_bind (wpAny_holding (wpAny_call (class_get (s := ⟨hp, g, d, t + 1, os⟩) (ox := ox) (od := od) X I hm (wpAny_pure ?_)))); show wpAny _ _ (handedOut (.ref D)) _ _ _
  rw [handedOut_of (v := .ref D) rfl]; first | exact wpAny_pure (wpAny_pure h) | exact wpAny_pure h | exact wpAny_pure (wpAny_bind (wpAny_pure (wpAny_pure h)))
theorem kitx_exc (C : L2.ExcC K D) : KitX K (.ref x) (.ref D) (fun h => InstAt h x ox D od) where
  ty := fun _ _ _ I => I.type
  it := fun _ _ X _ => by
    obtain ⟨cdD, hcD, _⟩ := any_some C.hd; unfold clsIn at hcD
    split at hcD
    · (rename_i c' d' cd' sl' ho; intro A' Q' E' s' k q; unfold isType loadHead; exact wpAny_bind (wpAny_loadPart (k _ _ (X _ _ ho)) (wpAny_pure q)))
    · cases hcD
  ne := fun h tp dd its n sl X htp => by
    obtain ⟨cdD, hcD, _⟩ := any_some C.hd; refine Bool.eq_false_iff.mpr fun q => ?_
    have e : D = tp := Value.ref.inj (beq_iff_eq.mp q); subst e; unfold clsIn at hcD
    split at hcD
    · (rename_i c' d' cd' sl' ho; have z := (X _ _ ho).symm.trans htp; cases z)
    · cases hcD
  ca := fun X I k => kin_cls C.hg C.hk C.hs C.hd C.ha C.hn C.ht C.hm X I k
end
end DLM
namespace DL
open PySem PySem.Spec PyProof.Rows L2
/-- isinstance(e, c), e the error that the suite holds, its dict d -/
def rIsX (K : PySem.W.Frag) (D a : Addr) (d : Option Addr) : List V → Hp → VK → Prop := fun xs H Q => ∃ (c : V) (cv : Value) (b : Bool), xs = [.ref a, c] ∧ (∀ u, RelV c u → u = cv) ∧ PySem.W.kitOne K (.ref D) cv = some b ∧ (∀ dd, d = some dd → ∃ fs, H dd = some (.xd fs)) ∧ Q (.bl b) H
theorem call_isX {X : Cx} {a D : Addr} {oe : Obj} {d : Option Addr} {pn : List (Addr × Obj)} (C : ExcC X.K D) (hz : Zc (.ref D) d oe) (hf : ∃ vs, oe.data = .fields vs) : CallR (X.suite a ((a, oe) :: pn)) (.builtin "isinstance") (rIsX X.K D a d) := by
  intro pins s σ H xs us Q I r h
  obtain ⟨c, cv, b, rfl, hcv, e, hd, q⟩ := h
  cases r with
  | cons rx rr =>
    cases rr with
    | cons rt rr =>
      cases rr; cases rx
      have ec := hcv _ rt; subst ec
      obtain ⟨hget, _⟩ := I.pin (a, oe) (List.mem_append.mpr (.inl List.mem_cons_self)); obtain ⟨vs, hv⟩ := hf
      obtain ⟨oc, od, oda, osl⟩ := oe; obtain ⟨h1, h2⟩ := hz
      dsimp only at h1 h2 hv; subst h1 h2 hv
      cases od with
      | none => (have J : PySem.W.InstAt s.heap a ⟨.ref D, none, .fields vs, osl⟩ D none := ⟨hget, rfl, rfl, trivial⟩; exact PySem.W.kia_one (DLM.kitx_exc C) I.kIn J e (fun z => nomatch z) fun tk => ⟨.bl b, H, I.kept (t' := tk) fun _ _ z => z, rfl, q⟩)
      | some dd =>
        obtain ⟨fs, hx⟩ := hd dd rfl
        have hx' : ObjOk X.prog X.w H s.heap dd (.xd fs) := I.hok dd _ hx
        obtain ⟨mA, hns, hr⟩ := hx'; obtain ⟨o2, ho, hl⟩ := lookIn_ns hns
        have J : PySem.W.InstAt s.heap a ⟨.ref D, some dd, .fields vs, osl⟩ D (some o2) := ⟨hget, rfl, rfl, ho⟩
        exact PySem.W.kia_one (DLM.kitx_exc C) I.kIn J e (fun z => nomatch z) fun tk => ⟨.bl b, H, I.kept (t' := tk) fun _ _ z => z, rfl, q⟩
section
variable {K : PySem.W.Frag} {X : Cx} {W : WX}
def dIsX (K : PySem.W.Frag) (cls : Value) (a : Addr) (d : Option Addr) (D : Addr) : DRs := fun ds M Q => match ds with
  | [y, .ref c] => cls = .ref D ∧ (∃ fs, y = .xo a d fs) ∧ ∃ b, PySem.W.kitOne K (.ref D) (.ref c) = some b ∧ Q (.bl b) M
  | _ => False
theorem cd_isX {a D : Addr} {oe : Obj} {cls : Value} {d : Option Addr} {pn : List (Addr × Obj)} (hK : X.K = K) (C : ExcC K D) (hz : Zc cls d oe) (hf : ∃ vs, oe.data = .fields vs) : CallD K (X.suite a ((a, oe) :: pn)) (.builtin "isinstance") (dIsX K cls a d D) := by
  subst hK
  intro pins s σ H xs us Q I r h
  obtain ⟨F, M, ds, Q', m, rr, q, h⟩ := h
  match ds, h with
  | [y, .ref c], h =>
    obtain ⟨rfl, ⟨fs, rfl⟩, b, e, h⟩ := h
    obtain ⟨v, w, rfl, r1, r2⟩ := rr.two
    unfold Rp at r1 r2
    obtain ⟨rfl, gs, r3, r4⟩ := r1
    subst r2
    refine call_isX C hz hf pins s σ H _ us Q I r ⟨.ref c, .ref c, b, rfl, fun u z => z, e, fun dd ed => ?_, q F H M _ _ (Ext.refl _ _ _) m Rp.bl h⟩
    subst ed
    exact ⟨gs, r3⟩
end

/-! ### a def by its body -/
/-- the frame at a def's start -/
def startD (n : Nat) (ds : List D) : Dv := ds.map some ++ List.replicate (n - ds.length) none
theorem startD_ok {K : PySem.W.Frag} {F : Addr → Prop} {H : Hp} {N : List Str} {ds : List D} {vs : List V} (r : Rps K F H ds vs) (hl : ds.length ≤ N.length) : EnvOk K F H (startD N.length ds) (L2.start N vs) ∧ (startD N.length ds).length = (L2.start N vs).length := by
  have e := r.length
  constructor
  · intro i d h
    unfold startD at h
    by_cases hi : i < ds.length
    · rw [List.getElem?_append_left (by simpa using hi), List.getElem?_map] at h
      cases z : ds[i]? with
      | none => rw [z] at h; cases h
      | some d' =>
        rw [z] at h
        cases h
        obtain ⟨v, hv, rv⟩ := r.get z
        refine ⟨v, ?_, rv⟩
        unfold L2.start
        rw [List.getElem?_append_left (by simp; omega), List.getElem?_map, hv]
        rfl
    · rw [List.getElem?_append_right (by simpa using hi), List.getElem?_replicate] at h
      split at h <;> cases h
  · unfold startD L2.start
    simp [e]
section
variable {P : Program} {w : World} {K : PySem.W.Frag} {mg : Str → Option Value} {base : Heap}
/-- THE RULE for a def -/
theorem dl_def {x qual : Str} {st : Stmt} {f : Addr} {fd : FuncData} {N ps : List Str} {k : Nat} {sp : SpD} (Fn : Fun K x qual st f fd) (S : FnScope N ps (defScope st)) (len : ∀ ds M Q E, sp ds M Q E → ds.length = ps.length) (g : DS)
    (hN : ps.length ≤ N.length)
    (hw : ∀ (cdv : Value) (A : Around) (outer : List Env) (s : Shared) (H : Hp) (E : XK), Room k (A.deeper (envOfC qual (defScope st) s.heap.objs.size f cdv)) → FSs K (cxOf (L2.CX P w) P w K mg base N qual (defScope st) f cdv A outer s H E) (fun cls d _ H => E cls d H) (defBody st) g)
    (hg : ∀ ds M Q E, sp ds M Q E → g { nx := fun _ M => Q .non M, rt := Q, ex := fun x _ M => E x M } (startD N.length ds) M) : FnD P w K mg base (k + 1) f fd ps sp := by
  refine Fn.okX S (fun vs H Q E h => ?_) (fun cdv A outer s H vs Q E hr h => ⟨_, hw cdv A outer s H E hr, ?_⟩)
  · obtain ⟨F, M, ds, Q', E', m, r, _, _, h⟩ := h
    rw [r.length]
    exact len _ _ _ _ h
  · obtain ⟨F, M, ds, Q', E', m, r, q, y, h⟩ := h
    obtain ⟨s1, s2⟩ := startD_ok (N := N) r (by rw [len _ _ _ _ h]; exact hN)
    refine tGs_mk (E' := { nx := fun _ M => Q' .non M, rt := Q', ex := fun x _ M => E' x M }) ⟨s1, m, s2⟩ ⟨fun F' H' ρ' M' σ' e' s' h' => q F' H' M' .non .non e' s'.mem Rp.non h', q, fun _ _ _ _ _ _ _ z => z.elim, fun _ _ _ _ _ _ _ z => z.elim, fun F' H' ρ' M' σ' x cls d e' s' r' h' => y F' H' M' x cls d e' s'.mem r' h'⟩ (hg ds M Q' E' h)
end
end DL

/-! DLA: promises by name, plain words for the readings' proofs. -/
namespace DL
open PySem PySem.Spec PyProof.Rows L2
/-! ### promises by the number of arguments -/
def sp1 (f : D → Mem → DVK → DXK → Prop) : SpD
  | [a], M, Q, E => f a M Q E
  | _, _, _, _ => False
def sp2 (f : D → D → Mem → DVK → DXK → Prop) : SpD
  | [a, b], M, Q, E => f a b M Q E
  | _, _, _, _ => False
def sp3 (f : D → D → D → Mem → DVK → DXK → Prop) : SpD
  | [a, b, c], M, Q, E => f a b c M Q E
  | _, _, _, _ => False
def sp4 (f : D → D → D → D → Mem → DVK → DXK → Prop) : SpD
  | [a, b, c, d], M, Q, E => f a b c d M Q E
  | _, _, _, _ => False
def sp5 (f : D → D → D → D → D → Mem → DVK → DXK → Prop) : SpD
  | [a, b, c, d, e], M, Q, E => f a b c d e M Q E
  | _, _, _, _ => False
theorem sp1_at {f} {ds : List D} {M : Mem} {Q : DVK} {E : DXK} (h : sp1 f ds M Q E) : ∃ a, ds = [a] ∧ f a M Q E := by
  unfold sp1 at h
  split at h
  · exact ⟨_, rfl, h⟩
  · exact h.elim
theorem sp2_at {f} {ds : List D} {M : Mem} {Q : DVK} {E : DXK} (h : sp2 f ds M Q E) : ∃ a b, ds = [a, b] ∧ f a b M Q E := by
  unfold sp2 at h
  split at h
  · exact ⟨_, _, rfl, h⟩
  · exact h.elim
theorem sp3_at {f} {ds : List D} {M : Mem} {Q : DVK} {E : DXK} (h : sp3 f ds M Q E) : ∃ a b c, ds = [a, b, c] ∧ f a b c M Q E := by
  unfold sp3 at h
  split at h
  · exact ⟨_, _, _, rfl, h⟩
  · exact h.elim
theorem sp4_at {f} {ds : List D} {M : Mem} {Q : DVK} {E : DXK} (h : sp4 f ds M Q E) : ∃ a b c d, ds = [a, b, c, d] ∧ f a b c d M Q E := by
  unfold sp4 at h
  split at h
  · exact ⟨_, _, _, _, rfl, h⟩
  · exact h.elim
theorem sp5_at {f} {ds : List D} {M : Mem} {Q : DVK} {E : DXK} (h : sp5 f ds M Q E) : ∃ a b c d e, ds = [a, b, c, d, e] ∧ f a b c d e M Q E := by
  unfold sp5 at h
  split at h
  · exact ⟨_, _, _, _, _, rfl, h⟩
  · exact h.elim
theorem len_sp1 {f} {ds : List D} {M : Mem} {Q : DVK} {E : DXK} (h : sp1 f ds M Q E) : ds.length = 1 := by obtain ⟨_, rfl, _⟩ := sp1_at h; rfl
theorem len_sp2 {f} {ds : List D} {M : Mem} {Q : DVK} {E : DXK} (h : sp2 f ds M Q E) : ds.length = 2 := by obtain ⟨_, _, rfl, _⟩ := sp2_at h; rfl
theorem len_sp3 {f} {ds : List D} {M : Mem} {Q : DVK} {E : DXK} (h : sp3 f ds M Q E) : ds.length = 3 := by obtain ⟨_, _, _, rfl, _⟩ := sp3_at h; rfl
theorem len_sp4 {f} {ds : List D} {M : Mem} {Q : DVK} {E : DXK} (h : sp4 f ds M Q E) : ds.length = 4 := by obtain ⟨_, _, _, _, rfl, _⟩ := sp4_at h; rfl
theorem len_sp5 {f} {ds : List D} {M : Mem} {Q : DVK} {E : DXK} (h : sp5 f ds M Q E) : ds.length = 5 := by obtain ⟨_, _, _, _, _, rfl, _⟩ := sp5_at h; rfl
/-- a def of the top keeps its promise -/
def OkD (P : Program) (w : World) (K : PySem.W.Frag) (mg : Str → Option Value) (base : Heap) (k : Nat) (x : Str) (ps : List Str) (sp : SpD) : Prop :=
  ∃ fd, FnD P w K mg base k (He.ga K x) fd ps sp ∧ Binds K fd ps [] ∧ PySem.W.keepIn K (.ref (He.ga K x)) = true ∧ mg x = some (.ref (He.ga K x)) ∧ ∃ oc od sl, K.lookup (He.ga K x) = some ⟨oc, od, .func fd, sl⟩
section
variable {K : PySem.W.Frag} {X : Cx} {W : WX} {e : Expr} {pos : Pos}
theorem fe_callO {k : Nat} {ps : List Str} {sp : SpD} {x : Str} {p : Pos} {es : List Expr} {g : DA} (C : OkD X.prog X.w K X.mg X.base k x ps sp) (hr : Room k X.A) (tk : Takes X W) (ha : FA K X W (e :: es) g)
    (hK : X.K = K := by rfl) (hg : Gl X x := by rfl) (hdb : (x == ("__debug__" : Str)) = false := by decide) (he : starEach (e :: es) X.env = (false, eval e X.env) :: starEach es X.env := by rfl) (hpl : (backTo pos (starEach es X.env)).any (·.1) = false := by rfl) :
    FE K X W (.Call (.Name x p) (e :: es) [] pos) (gCall sp g) := by
  obtain ⟨fd, F, b, kp, m, _⟩ := C
  exact fe_call F hr tk m kp b ha hK hg hdb he hpl
/-- an own exception class, its __init__ kept -/
def OkX (P : Program) (w : World) (K : PySem.W.Frag) (mg : Str → Option Value) (base : Heap) (x : Str) (fs ps : List Str) : Prop :=
  ∃ fd, ExCls K (He.ga K x) fs ∧ fs.length ≤ 1000 ∧ PySem.W.findIn K (.ref (He.ga K x)) "__init__" = some (some (.ref (He.ma K (He.ga K x) "__init__"))) ∧ PySem.W.typeIn K (.ref (He.ma K (He.ga K x) "__init__")) = some (.type "function") ∧
    FnOk P w K mg base (L2.CX P w) 1 (He.ma K (He.ga K x) "__init__") fd ps (spInit (He.ga K x) fs) ∧ Binds K fd ps [] ∧ mg x = some (.ref (He.ga K x))
theorem fs_raiseO {fs ps : List Str} {x : Str} {p pos2 : Pos} {es : List Expr} {g : DA} (C : OkX X.prog X.w K X.mg X.base x fs ps) (hr : Room 2 X.A) (tk : Takes X W) (ha : FA K X W (e :: es) g)
    (hc : X.calm = true := by rfl) (hK : X.K = K := by rfl) (hg : Gl X x := by rfl) (hdb : (x == ("__debug__" : Str)) = false := by decide) (he : starEach (e :: es) X.env = (false, eval e X.env) :: starEach es X.env := by rfl) (hpl : (backTo pos (starEach es X.env)).any (·.1) = false := by rfl) :
    FS K X W (.Raise (some (.Call (.Name x p) (e :: es) [] pos)) none pos2) (sRaise (He.ga K x) fs g) := by
  obtain ⟨fd, T, hs, i1, i2, F, b, m⟩ := C
  exact fs_raise hc T hs i1 i2 F hr b tk m ha hK hg hdb he hpl
theorem fs_raiseOF {fs ps : List Str} {x : Str} {p pos2 : Pos} {es : List Expr} {g : DA} (C : OkX X.prog X.w K X.mg X.base x fs ps) (hr : Room 2 X.A) (tk : Takes X W) (ha : FA K X W (e :: es) g)
    (hc : X.calm = true := by rfl) (hK : X.K = K := by rfl) (hg : Gl X x := by rfl) (hdb : (x == ("__debug__" : Str)) = false := by decide) (he : starEach (e :: es) X.env = (false, eval e X.env) :: starEach es X.env := by rfl) (hpl : (backTo pos (starEach es X.env)).any (·.1) = false := by rfl) :
    FS K X W (.Raise (some (.Call (.Name x p) (e :: es) [] pos)) none pos2) (sRaiseF (He.ga K x) fs g) := by
  obtain ⟨fd, T, hs, i1, i2, F, b, m⟩ := C
  exact fs_raiseF hc T hs i1 i2 F hr b tk m ha hK hg hdb he hpl
theorem hu64 {k : Nat} {A : Around} (hr : Room k A) : A.units + 64 < cLine := by have := hr.un; omega
theorem names_g {x : Str} {c : Addr} (m : X.mg x = some (.ref c)) (hg : Gl X x := by rfl) (hdb : (x == ("__debug__" : Str)) = false := by decide) : Names X x (.ref c) := ⟨hg, hdb, .inl m⟩
end

theorem fun_lk {K : PySem.W.Frag} {x qual : Str} {st : Stmt} {f : Addr} {fd : FuncData} (F : Fun K x qual st f fd) : ∃ oc od sl, K.lookup f = some ⟨oc, od, .func fd, sl⟩ := by
  obtain ⟨oc, od, kV, doc, pm, an, cdv, ct, osl, _, l, _⟩ := F.ex
  exact ⟨oc, od, osl, l⟩
theorem fun_bindsA {K : PySem.W.Frag} {x qual : Str} {st : Stmt} {f : Addr} {fd : FuncData} {ps : List Str} (F : Fun K x qual st f fd)
    (h : ∀ (kV doc pm : Value) (an : Option Addr) (cdv ct : Value) (us : List Value), us.length = ps.length → bindArgs (PySem.W.fnOf x qual (defArgs st) (defBody st) (defScope st) .none kV doc pm an cdv ct) ⟨us, []⟩ = pure (ps.zip us)) (s : Shared) (us : List Value) (hu : us.length = ps.length) : BindsTo s fd ⟨us, []⟩ (ps.zip us) := by
  obtain ⟨oc, od, kV, doc, pm, an, cdv, ct, osl, e, _, _⟩ := F.ex
  subst e
  exact .of_eq (h kV doc pm an cdv ct us hu)
/-- THE END: the law's def keeps its promise at every script -/
theorem walk_ofW {l : PySem.W.OpenLaw} {n k : Nat} {q : Program} {loose : List Str} {XP : (Str → Option Value) → Heap → Prop} {YP : World → Heap → Prop} {d : DefRec} {x : Str} (hn : l.most = some n) (hn2 : n ≤ sizeLine) (hdf : d.params.defaults = []) (hr : Room k callerA)
    (F : ∀ (w : World) (mg : Str → Option Value) (fa : Addr) (h : Heap), YP w h → h.Ns mainGlobals mg → mg d.name = some (.ref fa) → ∃ (K : PySem.W.Frag) (fd : FuncData) (sp : SpD), K.In h ∧ (∀ (s : Shared) (u : Value), BindsTo s fd ⟨[u], []⟩ [(x, u)]) ∧
      (∀ ns : List Int, sp [.scr ns] (fun _ => none) (fun d _ => d = .bl true) fun _ _ => False) ∧ ∀ base : Heap, K.In base → base.Ns mainGlobals mg → FnD l.prog w K mg base k fa fd [x] sp) : PySem.W.WalkO q loose XP YP l.row.toRowW d [] (fun f vs => PySem.call f vs) := by
  refine Att.attach_call hn hdf fun w s₀ s₁ mg mb fa o pm cd doc a vs ns G Y ho hd hcd hmg hobj hints hlen hg => ?_; obtain ⟨K, fd, sp, KX, hb, hsp, hF⟩ := F w mg fa _ Y G.T.g hmg
  refine law_call KX G.T.g G.T.b G.T.builtins G.T.nolimit hg hobj hints (Nat.le_trans hlen hn2) hr hF hb (fun H hO hS => ?_) fun H e s' z => ?_
  · refine ⟨fun _ => False, fun _ => none, [.scr ns], fun d _ => d = .bl true, fun _ _ => False, ⟨fun _ f => f.elim, fun a o e => by cases e⟩, .cons ?_ .nil, fun F' H' M' d v _ _ r e => ?_, fun _ _ _ _ _ _ _ _ _ z => z.elim, hsp ns⟩
    · unfold Rp
      refine ⟨a, rfl, ?_⟩
      rcases hS with (h | ⟨o, h⟩) | h
      · rcases hO a with z | ⟨o, xs, z⟩
        · rw [z] at h; cases h
        · rw [z] at h; cases h
      · exact .inl ⟨o, h⟩
      · exact .inr fun H' => .inr h
    · subst e
      exact r.bl_inv
  · obtain ⟨_, _, _, _, _, _, _, _, _, _, _, _, z⟩ := z
    exact z.elim

/-! ### the built-in names -/
theorem bt_len : bootBuiltins "len" = some (.builtin "len") := by decide +kernel
theorem bt_sum : bootBuiltins "sum" = some (.builtin "sum") := by decide +kernel
theorem bt_max : bootBuiltins "max" = some (.builtin "max") := by decide +kernel
theorem bt_min : bootBuiltins "min" = some (.builtin "min") := by decide +kernel
theorem bt_abs : bootBuiltins "abs" = some (.builtin "abs") := by decide +kernel
theorem bt_sorted : bootBuiltins "sorted" = some (.builtin "sorted") := by decide +kernel
theorem bt_isinstance : bootBuiltins "isinstance" = some (.builtin "isinstance") := by decide +kernel
theorem bt_any : bootBuiltins "any" = some (.builtin "any") := by decide +kernel
theorem bt_all : bootBuiltins "all" = some (.builtin "all") := by decide +kernel
theorem bt_int : bootBuiltins "int" = some (.type "int") := by decide +kernel
theorem bt_list : bootBuiltins "list" = some (.type "list") := by decide +kernel
theorem bt_tuple : bootBuiltins "tuple" = some (.type "tuple") := by decide +kernel
theorem bt_bool : bootBuiltins "bool" = some (.type "bool") := by decide +kernel
theorem bt_str : bootBuiltins "str" = some (.type "str") := by decide +kernel
theorem bt_set : bootBuiltins "set" = some (.type "set") := by decide +kernel
theorem bt_range : bootBuiltins "range" = some (.type "range") := by decide +kernel

/-! ### rows: a sequence however it is held -/
def RowD (M : Mem) (d : D) (xs : List D) : Prop := d = .tup xs ∨ d = .lst xs ∨ ∃ a, d = .ref a ∧ M a = some (.lst xs)
def LstD (M : Mem) (d : D) (xs : List D) : Prop := d = .lst xs ∨ ∃ a, d = .ref a ∧ M a = some (.lst xs)
section
variable {M : Mem} {d : D} {xs : List D}
theorem LstD.row (h : LstD M d xs) : RowD M d xs := .inr h
theorem RowD.tup : RowD M (.tup xs) xs := .inl rfl
theorem RowD.lst : RowD M (.lst xs) xs := .inr (.inl rfl)
theorem RowD.ref {a : Addr} (h : M a = some (.lst xs)) : RowD M (.ref a) xs := .inr (.inr ⟨a, rfl, h⟩)
theorem LstD.lst : LstD M (.lst xs) xs := .inl rfl
theorem LstD.ref {a : Addr} (h : M a = some (.lst xs)) : LstD M (.ref a) xs := .inr ⟨a, rfl, h⟩
theorem RowD.src (h : RowD M d xs) : ∃ ok : Mem → Prop, srcOf M d = some ⟨xs, ok⟩ ∧ ok M ∧ ∀ M', RowD M' d xs → ok M' := by
  rcases h with rfl | rfl | ⟨a, rfl, h⟩
  · exact ⟨fun _ => True, rfl, trivial, fun _ _ => trivial⟩
  · exact ⟨fun _ => True, rfl, trivial, fun _ _ => trivial⟩
  · refine ⟨fun M' => M' a = some (.lst xs), ?_, h, fun M' h' => ?_⟩
    · unfold srcOf; simp only [h]
    · rcases h' with z | z | ⟨b, z, h'⟩
      · cases z
      · cases z
      · cases z; exact h'
theorem RowD.onS (h : RowD M d xs) {k : List D → Prop} (q : k xs) : onS M d k := by
  obtain ⟨ok, e, _⟩ := h.src
  unfold DL.onS
  rw [e]
  exact q
theorem RowD.onSrc (h : RowD M d xs) {R : Src → Mem → Prop} (q : ∀ ok : Mem → Prop, ok M → (∀ M', RowD M' d xs → ok M') → R ⟨xs, ok⟩ M) : onSrc M d R := by
  obtain ⟨ok, e, o, oo⟩ := h.src
  unfold DL.onSrc
  rw [e]
  exact q ok o oo
theorem LstD.onL (h : LstD M d xs) {k : List D → Prop} (q : k xs) : onL M d k := by
  rcases h with rfl | ⟨a, rfl, h⟩
  · exact onL_lst q
  · exact onL_ref h q
theorem RowD.kd (h : RowD M d xs) : kdOf M d = some .tuple ∨ kdOf M d = some .list := by
  rcases h with rfl | rfl | ⟨a, rfl, h⟩
  · exact .inl rfl
  · exact .inr rfl
  · refine .inr ?_
    unfold kdOf; simp only [h]
theorem LstD.kd (h : LstD M d xs) : kdOf M d = some .list := by
  rcases h with rfl | ⟨a, rfl, h⟩
  · rfl
  · unfold kdOf; simp only [h]
theorem mset_id {a : Addr} {o : MO} (h : M a = some o) : mset M a o = M := by
  funext b
  unfold mset
  split
  · rename_i e; rw [e, h]
  · rfl
theorem mset_comm {a b : Addr} {o u : MO} (h : a ≠ b) : mset (mset M a o) b u = mset (mset M b u) a o := by
  funext c
  unfold mset
  split
  · split
    · rename_i e1 e2; exact absurd (e2.symm.trans e1) h
    · rfl
  · rfl
/-- cells come beside -/
def MemUp (M M' : Mem) : Prop := ∀ a o, M a = some o → M' a = some o
theorem MemUp.refl : MemUp M M := fun _ _ h => h
theorem MemUp.trans {M M1 M2 : Mem} (a : MemUp M M1) (b : MemUp M1 M2) : MemUp M M2 := fun c o h => b c o (a c o h)
theorem MemUp.add {M : Mem} {a : Addr} {o : MO} (h : M a = none) : MemUp M (mset M a o) := fun b u e => by
  rw [mset_ne (fun z => by rw [z, h] at e; cases e)]; exact e
theorem MemUp.set {M M' : Mem} {a : Addr} {o : MO} (u : MemUp M M') (h : M a = none) : MemUp M (mset M' a o) := fun b w e => by
  rw [mset_ne (fun z => by rw [z, h] at e; cases e)]; exact u b w e
theorem MemUp.row {M' : Mem} (u : MemUp M M') (h : RowD M d xs) : RowD M' d xs := h.imp (fun z => z) fun h => h.imp (fun z => z) fun ⟨a, e, z⟩ => ⟨a, e, u _ _ z⟩
theorem MemUp.lst {M' : Mem} (u : MemUp M M') (h : LstD M d xs) : LstD M' d xs := h.imp (fun z => z) fun ⟨a, e, z⟩ => ⟨a, e, u _ _ z⟩
theorem MemUp.free {M' : Mem} (u : MemUp M M') {a : Addr} (h : M' a = none) : M a = none := by
  cases q : M a with
  | none => rfl
  | some o => rw [u a o q] at h; cases h
/-- the store told less, nothing frozen -/
theorem MemUp.fz {M' : Mem} (u : MemUp M M') : MemFz M' M fun _ => False := ⟨fun _ z => z.elim, fun a o h => ⟨fun z => z, u a o h⟩⟩
/-- .. one list frozen -/
theorem MemUp.fz1 {M' : Mem} (u : MemUp M M') {a : Addr} {o : MO} (h : M a = none) (h' : M' a = some o) : MemFz M' M fun b => b = a :=
  ⟨fun b z => (by rw [show b = a from z, h']; intro q; cases q), fun b o hb => ⟨fun z => (by rw [show b = a from z, h] at hb; cases hb), u b o hb⟩⟩
end
/-- an answer given as it is, cells of one's own let go -/
theorem ret_drop {M M' : Mem} {d : D} {Q : D → Mem → Prop} (u : MemUp M M') (q : Q d M) : ∃ d' M2 S, Fz M' S d d' ∧ MemFz M' M2 S ∧ Q d' M2 := ⟨d, M, _, .refl d, u.fz, q⟩
/-- a list of one's own given frozen -/
theorem ret_lst {M M' : Mem} {a : Addr} {xs : List D} {Q : D → Mem → Prop} (u : MemUp M M') (h : M a = none) (h' : M' a = some (.lst xs)) (q : Q (.lst xs) M) : ∃ d' M2 S, Fz M' S (.ref a) d' ∧ MemFz M' M2 S ∧ Q d' M2 :=
  ⟨.lst xs, M, fun b => b = a, .ref rfl h' (.refl xs), u.fz1 h h', q⟩
/-- a comprehension's clause in a still store: each item gives none or one -/
theorem lc_still {ok : Mem → Prop} {dg : DG} {tt : DT} {te : DE} {ρw : Dv} {M : Mem} {Q : List D → Mem → Prop} {α : Type} (v : α → D) (f : α → Option D) (ho : ok M) :
    ∀ (xs : List α) (acc : List D), (∀ x ∈ xs, ∀ (N : List D → Mem → Prop) (acc : List D), acc.length < sizeLine → N (acc ++ (f x).toList) M → dg (v x) ρw M fun ρ1 M1 => tt E0 ρ1 M1 fun b M2 => if b = true then te E0 ρ1 M2 fun y M3 => acc.length < sizeLine ∧ N (acc ++ [y]) M3 else N acc M2) →
      acc.length + xs.length < sizeLine → Q (acc ++ xs.filterMap f) M → lcD ok dg tt te ρw (xs.map v) acc M Q
  | [], acc, _, _, q => by
    unfold lcD
    simp only [List.filterMap_nil, List.append_nil] at q
    exact ⟨ho, q⟩
  | x :: xs, acc, h, hl, q => by
    rw [List.map_cons]
    unfold lcD
    rw [List.length_cons] at hl
    refine ⟨ho, h x (by simp) (fun l M' => lcD ok dg tt te ρw (xs.map v) l M' Q) acc (by omega) ?_⟩
    refine lc_still v f ho xs _ (fun y hy => h y (List.mem_cons_of_mem _ hy)) ?_ ?_
    · cases z : f x with
      | none => simp; omega
      | some y => simp; omega
    · cases z : f x with
      | none => rw [List.filterMap_cons_none z] at q; simpa using q
      | some y => rw [List.filterMap_cons_some z] at q; simpa using q
end DL

/-! DLB: the readings, applied: equations (all by rfl). -/
namespace DL
open PySem PySem.Spec L2
/-- a cut of a list (frozen) or of a tuple -/
def slD (x : D) (l h : Option Int) (M : Mem) (Q : DVK) : Prop := match x with
  | .tup ds => Q (.tup (cutD ds l h)) M
  | x => onL M x fun ds => Q (.lst (cutD ds l h)) M
section
variable {K : PySem.W.Frag} {E : DXK} {ρ : Dv} {M : Mem} {Q : DVK} {QL : List D → Mem → Prop} {QB : Bool → Mem → Prop} {R : Src → Mem → Prop} {D' : DEnds} {QO : Option Int → Mem → Prop} {QE : Dv → Mem → Prop}
variable {ga gb gc : DE} {g gr : DA} {n : DN} {ta tb : DT} {t u : DS} {rd r r' : DR2} {gi : DI} {dg : DG} {gs : DGs} {gl gh : DO}
theorem q_op : gOp rd ga gb E ρ M Q = ga E ρ M fun x M1 => gb E ρ M1 fun y M2 => rd x y M2 Q := rfl
theorem q_un {r1 : DR1} : gUn r1 ga E ρ M Q = ga E ρ M fun x M1 => r1 x M1 Q := rfl
theorem q_var {i : Nat} : gVar i E ρ M Q = match ρ[i]? with
  | some (some d) => Q d M
  | _ => False := rfl
theorem q_c {d : D} : gC d E ρ M Q = Q d M := rfl
theorem q_nil : aNil E ρ M QL = QL [] M := rfl
theorem q_cons : aCons ga gr E ρ M QL = ga E ρ M fun d M1 => gr E ρ M1 fun ds M2 => QL (d :: ds) M2 := rfl
theorem q_tup : gTup g E ρ M Q = g E ρ M fun ds M1 => ds.length ≤ sizeLine ∧ Q (.tup ds) M1 := rfl
theorem q_frz : gFrz n E ρ M Q = n E ρ M fun ds M1 => Q (.lst ds) M1 := rfl
theorem q_cel : gCel n E ρ M Q = n E ρ M fun ds M1 => ∀ p, M1 p = none → Q (.ref p) (mset M1 p (.lst ds)) := rfl
theorem q_lst : nLst g E ρ M QL = g E ρ M fun ds M1 => ds.length ≤ sizeLine ∧ QL ds M1 := rfl
theorem q_test : gTest ga E ρ M QB = ga E ρ M fun d M1 => onB QB M1 d := rfl
theorem q_onB {b : Bool} : onB QB M (.bl b) = QB b M := rfl
theorem q_and : gAnd ta tb E ρ M QB = ta E ρ M fun c M1 => if c = true then tb E ρ M1 QB else QB false M1 := rfl
theorem q_or : gOr ta tb E ρ M QB = ta E ρ M fun c M1 => if c = true then QB true M1 else tb E ρ M1 QB := rfl
theorem q_not : gNot ta E ρ M QB = ta E ρ M fun c M1 => QB (!c) M1 := rfl
theorem q_andV : gAndV ga gb E ρ M Q = ga E ρ M fun d M1 => onB (fun c M1 => if c = true then gb E ρ M1 Q else Q (.bl false) M1) M1 d := rfl
theorem q_orV : gOrV ga gb E ρ M Q = ga E ρ M fun d M1 => onB (fun c M1 => if c = true then Q (.bl true) M1 else gb E ρ M1 Q) M1 d := rfl
theorem q_notV : gNotV ga E ρ M Q = ga E ρ M fun d M1 => onB (fun c M1 => Q (.bl (!c)) M1) M1 d := rfl
theorem q_if : gIf ta ga gb E ρ M Q = ta E ρ M fun c M1 => if c = true then ga E ρ M1 Q else gb E ρ M1 Q := rfl
theorem q_chain : gChain r r' ga gb gc E ρ M Q = ga E ρ M fun x M1 => gb E ρ M1 fun y M2 => r x y M2 fun z M3 => onB (fun k M3 => if k = true then gc E ρ M3 fun w M4 => r' y w M4 Q else Q (.bl false) M3) M3 z := rfl
theorem q_next : sNext D' ρ M = D'.nx ρ M := rfl
theorem q_seq : sSeq t u D' ρ M = t { D' with nx := u D' } ρ M := rfl
theorem q_drop : sDrop ga D' ρ M = ga (fun x M => D'.ex x ρ M) ρ M fun _ M1 => D'.nx ρ M1 := rfl
theorem q_ret : sRet ga D' ρ M = ga (fun x M => D'.ex x ρ M) ρ M D'.rt := rfl
theorem q_retF : sRetF ga D' ρ M = ga (fun x M => D'.ex x ρ M) ρ M fun d M1 => ∃ d' M2 S, Fz M1 S d d' ∧ MemFz M1 M2 S ∧ D'.rt d' M2 := rfl
theorem q_retN : sRetN D' ρ M = D'.rt .non M := rfl
theorem q_sif : sIf ta t u D' ρ M = ta (fun x M => D'.ex x ρ M) ρ M fun k M1 => if k = true then t D' ρ M1 else u D' ρ M1 := rfl
theorem q_break : sBreak D' ρ M = D'.bk ρ M := rfl
theorem q_cont : sCont D' ρ M = D'.ct ρ M := rfl
theorem q_name {i : Nat} {d : D} : dName i d ρ M QE = QE (ρ.set i (some d)) M := rfl
theorem q_dnil {ds : List D} : dNil ds ρ M QE = (ds = [] ∧ QE ρ M) := rfl
theorem q_dcons {d : D} {ds : List D} : dCons dg gs (d :: ds) ρ M QE = dg d ρ M fun ρ' M' => gs ds ρ' M' QE := rfl
theorem q_dtup {k : Nat} {ds : List D} : dTup k gs (.tup ds) ρ M QE = (ds.length = k ∧ gs ds ρ M QE) := rfl
theorem q_asg : sAsg ga dg D' ρ M = ga (fun x M => D'.ex x ρ M) ρ M fun d M1 => dg d ρ M1 D'.nx := rfl
theorem q_set {i : Nat} : sSet i ga D' ρ M = ga (fun x M => D'.ex x ρ M) ρ M fun d M1 => D'.nx (ρ.set i (some d)) M1 := rfl
theorem q_par {i j : Nat} : sPar i j g D' ρ M = g (fun x M => D'.ex x ρ M) ρ M fun ds M1 => match ds with
  | [d, e] => D'.nx ((ρ.set i (some d)).set j (some e)) M1
  | _ => False := rfl
theorem q_for {gb : DS} : sFor gi dg gb D' ρ M = gi (fun x M => D'.ex x ρ M) ρ M fun src M1 => loopD src.ok dg gb D' src.items ρ M1 := rfl
theorem q_range1 : iRange1 g E ρ M R = g E ρ M fun ds M1 => match ds with
  | [.int j] => (-(2 ^ 62) ≤ j ∧ j < 2 ^ 62) ∧ R ⟨rgD 0 j.toNat, fun _ => True⟩ M1
  | _ => False := rfl
theorem q_range2 : iRange2 g E ρ M R = g E ρ M fun ds M1 => match ds with
  | [.int i, .int j] => (-(2 ^ 62) ≤ i ∧ i < 2 ^ 62 ∧ -(2 ^ 62) ≤ j ∧ j < 2 ^ 62) ∧ R ⟨rgD i (j - i).toNat, fun _ => True⟩ M1
  | _ => False := rfl
theorem q_iseq : iSeqD ga E ρ M R = ga E ρ M fun d M1 => onSrc M1 d R := rfl
theorem q_ienum : iEnumD g E ρ M R = g E ρ M fun ds M1 => match ds with
  | [d] => onSrc M1 d fun s M2 => R ⟨enD s.items, s.ok⟩ M2
  | _ => False := rfl
theorem q_call {sp : SpD} : gCall sp g E ρ M Q = g E ρ M fun ds M1 => sp ds M1 Q E := rfl
theorem q_cb {rs : DRs} : gCB rs g E ρ M Q = g E ρ M fun ds M1 => rs ds M1 Q := rfl
theorem q_ncb {rs : List D → Mem → (List D → Mem → Prop) → Prop} : nCB rs g E ρ M QL = g E ρ M fun ds M1 => rs ds M1 QL := rfl
theorem q_nop {rn : DRN2} : nOp rn ga gb E ρ M QL = ga E ρ M fun x M1 => gb E ρ M1 fun y M2 => rn x y M2 QL := rfl
theorem q_lenset : gLenSet ga E ρ M Q = ga E ρ M fun d M1 => onS M1 d fun xs => ∃ ns : List Int, xs = ns.map D.int ∧ ns.length < 4000 ∧ Q (.int (ddup ns).length) M1 := rfl
theorem q_mt {rm : DRm} : gMt rm ga g E ρ M Q = ga E ρ M fun x M1 => (onL M1 x fun _ => True) ∧ g E ρ M1 fun ds M2 => rm x ds M2 Q := rfl
theorem q_mt0 {rm : DRm} : gMt0 rm ga E ρ M Q = ga E ρ M fun x M1 => (onL M1 x fun _ => True) ∧ rm x [] M1 Q := rfl
theorem q_setix : sSetIx ga gb gc D' ρ M = ga (fun x M => D'.ex x ρ M) ρ M fun v M1 => gb (fun x M => D'.ex x ρ M) ρ M1 fun o M2 => gc (fun x M => D'.ex x ρ M) ρ M2 fun i M3 => dSetIx o i v M3 fun M4 => D'.nx ρ M4 := rfl
theorem q_augs : sAugS ga gb gc rd D' ρ M = ga (fun x M => D'.ex x ρ M) ρ M fun o M1 => gb (fun x M => D'.ex x ρ M) ρ M1 fun i M2 => dIxL o i M2 fun x M3 => gc (fun x M => D'.ex x ρ M) ρ M3 fun y M4 => rd x y M4 fun z M5 => dSetIx o i z M5 fun M6 => D'.nx ρ M6 := rfl
theorem q_aug {i : Nat} : sAug i ga rd D' ρ M = match ρ[i]? with
  | some (some d) => ga (fun x M => D'.ex x ρ M) ρ M fun y M1 => rd d y M1 fun z M2 => D'.nx (ρ.set i (some z)) M2
  | _ => False := rfl
theorem q_nsl : nSl ga gl gh E ρ M QL = ga E ρ M fun x M1 => gl E ρ M1 fun l M2 => gh E ρ M2 fun h M3 => onL M3 x fun ds => QL (cutD ds l h) M3 := rfl
theorem q_onone : oNone E ρ M QO = QO none M := rfl
theorem q_osome : oSome ga E ρ M QO = ga E ρ M fun d M1 => match d with
  | .int i => QO (some i) M1
  | _ => False := rfl
theorem q_gsl : gSl ga gl gh E ρ M Q = ga E ρ M fun x M1 => gl E ρ M1 fun l M2 => gh E ρ M2 fun h M3 => slD x l h M3 Q := rfl
theorem q_raise {C : Addr} {fs : List Str} : sRaise C fs g D' ρ M = g (fun x M => D'.ex x ρ M) ρ M fun ds M1 => ds.length = fs.length ∧ D'.ex (exOf C fs ds) ρ M1 := rfl
theorem q_raiseF {C : Addr} {fs : List Str} : sRaiseF C fs g D' ρ M = g (fun x M => D'.ex x ρ M) ρ M fun ds M1 => ds.length = fs.length ∧ ∃ M2, (∀ a o, M2 a = some o → M1 a = some o) ∧ D'.ex (exOf C fs ds) ρ M2 := rfl
theorem q_try {hs : List DH} : sTry K t hs D' ρ M = t { D' with ex := dHds K D' hs } ρ M := rfl
theorem q_lc {tt : DT} {te : DE} {vs : List Nat} : nLc gi dg tt te vs E ρ M QL = gi E ρ M fun src M1 => lcD src.ok dg tt te (wipeD ρ vs) src.items [] M1 QL := rfl
theorem q_lc2 {gi1 : DI} {dg1 : DG} {tt tt1 : DT} {te : DE} {vs vs1 : List Nat} : nLc2 gi dg tt gi1 dg1 tt1 te vs vs1 E ρ M QL = gi E ρ M fun src M1 => lcD2 src.ok dg tt gi1 dg1 tt1 te vs1 (wipeD ρ vs) src.items [] M1 QL := rfl
theorem q_yes : gYes E ρ M QB = QB true M := rfl
theorem q_wipe0 : wipeD ρ [] = ρ := rfl
theorem q_wipe {v : Nat} {vs : List Nat} : wipeD ρ (v :: vs) = (wipeD ρ vs).set v none := rfl
theorem q_xf {a C : Addr} {cls : Value} {d : Option Addr} {f : Str} : gXf a cls d C f ga E ρ M Q = ga E ρ M fun y M1 => cls = .ref C ∧ ∃ fs z, y = .xo a d fs ∧ fs.lookup f = some z ∧ Q z M1 := rfl
/-! operators -/
theorem q_I {C : Int → Int → Prop} {f : Int → Int → D} {i j : Int} : dI C f (.int i) (.int j) M Q = (C i j ∧ Q (f i j) M) := rfl
theorem q_I0 {f : Int → Int → D} {i j : Int} : dI0 f (.int i) (.int j) M Q = Q (f i j) M := rfl
theorem q_U {f : Int → D} {i : Int} : dU f (.int i) M Q = Q (f i) M := rfl
theorem q_add {i j : Int} : dAdd (.int i) (.int j) M Q = Q (.int (i + j)) M := rfl
theorem q_addT {a b : List D} : dAdd (.tup a) (.tup b) M Q = (a.length + b.length ≤ sizeLine ∧ Q (.tup (a ++ b)) M) := rfl
theorem q_addL {a : List D} {y : D} : dAdd (.lst a) y M Q = onL M y fun b => a.length + b.length ≤ sizeLine ∧ Q (.lst (a ++ b)) M := by cases y <;> rfl
theorem q_addR {a : Addr} {y : D} : dAdd (.ref a) y M Q = onL M (.ref a) fun a => onL M y fun b => a.length + b.length ≤ sizeLine ∧ Q (.lst (a ++ b)) M := by cases y <;> rfl
theorem q_onL {xs : List D} {k : List D → Prop} : onL M (.lst xs) k = k xs := rfl
theorem q_onSt {xs : List D} {k : List D → Prop} : onS M (.tup xs) k = k xs := rfl
theorem q_onSl {xs : List D} {k : List D → Prop} : onS M (.lst xs) k = k xs := rfl
theorem q_onSs {ns : List Int} {k : List D → Prop} : onS M (.scr ns) k = k (ns.map D.int) := rfl
theorem q_onSrct {xs : List D} : onSrc M (.tup xs) R = R ⟨xs, fun _ => True⟩ M := rfl
theorem q_onSrcl {xs : List D} : onSrc M (.lst xs) R = R ⟨xs, fun _ => True⟩ M := rfl
theorem q_eqI {f : Bool → Bool} {i j : Int} : dEqG f (.int i) (.int j) M Q = Q (.bl (f (decide (i = j)))) M := rfl
theorem q_eqB {f : Bool → Bool} {i j : Bool} : dEqG f (.bl i) (.bl j) M Q = Q (.bl (f (decide (i = j)))) M := rfl
theorem q_eqS {f : Bool → Bool} {i j : Str} : dEqG f (.str i) (.str j) M Q = Q (.bl (f (decide (i = j)))) M := rfl
theorem q_eqN {f : Bool → Bool} : dEqG f .non .non M Q = Q (.bl (f true)) M := rfl
theorem q_isN {f : Bool → Bool} {x : D} : dIsN f x .non M Q = Q (.bl (f (isNon x))) M := rfl
theorem q_ix {x : D} {i : Int} : dIx x (.int i) M Q = onS M x fun ds => ∃ d, atI ds i = some d ∧ Q d M := rfl
theorem q_ixL {x : D} {i : Int} : dIxL x (.int i) M Q = onL M x fun ds => ∃ d, atI ds i = some d ∧ Q d M := rfl
theorem q_in {neg : Bool} {x y : D} : dInG neg x y M Q = onS M y fun xs => flatD x = true ∧ xs.all flatD = true ∧ Q (.bl (if neg then !inD x xs else inD x xs)) M := rfl
theorem q_len {x : D} : dLen [x] M Q = onS M x fun xs => Q (.int xs.length) M := rfl
theorem q_sum {x : D} : dSum [x] M Q = onL M x fun xs => ∃ ns : List Int, xs = ns.map D.int ∧ Q (.int ns.sum) M := rfl
theorem q_max {x : D} : dMax [x] M Q = onS M x fun xs => ∃ (n : Int) (ns : List Int), xs = (n :: ns).map D.int ∧ Q (.int (ns.foldl max n)) M := by cases x <;> rfl
theorem q_min {x : D} : dMin [x] M Q = onS M x fun xs => ∃ (n : Int) (ns : List Int), xs = (n :: ns).map D.int ∧ Q (.int (ns.foldl min n)) M := by cases x <;> rfl
theorem q_max2 {i j : Int} : dMax [.int i, .int j] M Q = Q (.int (max i j)) M := rfl
theorem q_min2 {i j : Int} : dMin [.int i, .int j] M Q = Q (.int (min i j)) M := rfl
theorem q_abs {i : Int} : dAbs [.int i] M Q = Q (.int (if i < 0 then -i else i)) M := rfl
theorem q_int {i : Int} : dInt [.int i] M Q = Q (.int i) M := rfl
theorem q_intB {b : Bool} : dInt [.bl b] M Q = Q (.int (if b = true then 1 else 0)) M := rfl
theorem q_tupof {x : D} : dTupleOf [x] M Q = onS M x fun xs => Q (.tup xs) M := rfl
theorem q_lstof {x : D} : nListOf [x] M QL = onS M x fun xs => QL xs M := rfl
theorem q_sort {x : D} : nSortOf [x] M QL = onS M x fun xs => ∃ ns : List Int, xs = ns.map D.int ∧ QL ((sortI ns).map D.int) M := rfl
theorem q_rep {x : D} {k : Int} : nRep x (.int k) M QL = onL M x fun a => (-(2 ^ 63) ≤ k ∧ k < 2 ^ 63 ∧ a.length * k.toNat ≤ sizeLine) ∧ QL (List.replicate k.toNat a).flatten M := rfl
theorem q_cat {x y : D} : nCat x y M QL = onL M x fun a => onL M y fun b => a.length + b.length ≤ sizeLine ∧ QL (a ++ b) M := rfl
theorem q_isi {x : D} {nm : String} : dIsi [x, .ty nm] M Q = ∃ k b, kdOf M x = some k ∧ isK k nm = some b ∧ Q (.bl b) M := by cases x <;> rfl
theorem q_isis {x : D} {ts : List D} : dIsi [x, .tup ts] M Q = ∃ k b, kdOf M x = some k ∧ isKs k ts = some b ∧ (∃ ns : List String, ts = ns.map D.ty) ∧ Q (.bl b) M := by cases x <;> rfl
theorem q_setat {o v : D} {i : Int} {k : Mem → Prop} : dSetIx o (.int i) v M k = onC M o fun a xs => ∃ j, ixN xs.length i = some j ∧ k (mset M a (.lst (xs.set j v))) := rfl
theorem q_onC {a : Addr} {k : Addr → List D → Prop} : onC M (.ref a) k = ∃ ds, M a = some (.lst ds) ∧ k a ds := rfl
theorem q_append {x d : D} : dAppend x [d] M Q = onC M x fun a xs => xs.length < sizeLine ∧ Q .non (mset M a (.lst (xs ++ [d]))) := rfl
theorem q_pop {x : D} : dPop x [] M Q = onC M x fun a xs => ∃ y, xs[xs.length - 1]? = some y ∧ Q y (mset M a (.lst xs.dropLast)) := rfl
theorem q_popAt {x : D} {i : Int} : dPop x [.int i] M Q = onC M x fun a xs => (-(2 ^ 63) ≤ i ∧ i < 2 ^ 63) ∧ ∃ k y, seqIndex? i xs.length = some k ∧ xs[k]? = some y ∧ Q y (mset M a (.lst (xs.eraseIdx k))) := rfl
theorem q_reverse {x : D} : dReverse x [] M Q = onC M x fun a xs => Q .non (mset M a (.lst xs.reverse)) := rfl
theorem q_insert {x d : D} {i : Int} : dInsert x [.int i, d] M Q = onC M x fun a xs => (xs.length < sizeLine ∧ 0 ≤ i ∧ i < 2 ^ 63) ∧ Q .non (mset M a (.lst (xs.take i.toNat ++ [d] ++ xs.drop i.toNat))) := rfl
theorem q_sp1 {f : D → Mem → DVK → DXK → Prop} {a : D} : sp1 f [a] M Q E = f a M Q E := rfl
theorem q_sp2 {f : D → D → Mem → DVK → DXK → Prop} {a b : D} : sp2 f [a, b] M Q E = f a b M Q E := rfl
theorem q_sp3 {f : D → D → D → Mem → DVK → DXK → Prop} {a b c : D} : sp3 f [a, b, c] M Q E = f a b c M Q E := rfl
theorem q_sp4 {f : D → D → D → D → Mem → DVK → DXK → Prop} {a b c d : D} : sp4 f [a, b, c, d] M Q E = f a b c d M Q E := rfl
theorem q_at0 {α : Type} {a : α} {l : List α} : (a :: l)[0]? = some a := rfl
theorem q_atS {α : Type} {a : α} {l : List α} {i : Nat} : (a :: l)[i + 1]? = l[i]? := rfl
theorem q_st0 {α : Type} {a b : α} {l : List α} : (a :: l).set 0 b = b :: l := rfl
theorem q_stS {α : Type} {a b : α} {l : List α} {i : Nat} : (a :: l).set (i + 1) b = a :: l.set i b := rfl
theorem q_iteT {A B : Prop} : (if true = true then A else B) = A := if_pos rfl
theorem q_iteF {A B : Prop} : (if false = true then A else B) = B := if_neg Bool.false_ne_true
end
end DL

/-! DLC: == of typed data; comprehensions and loops in plain words. -/
namespace DL
open PySem PySem.Spec L2
/-- α's values as deep values -/
class DatD (α : Type) [DecidableEq α] extends PySem.W.Datum α where
  d : α → D
  vw : ∀ M a, Vw M (d a) (toD a)
  lay : ∀ a, (toD a).canLay0 = true
instance : DatD Int where
  d := .int
  vw _ a := .int a
  lay _ := rfl
instance : DatD Bool where
  d := .bl
  vw _ a := .bl a
  lay _ := rfl
section
variable {α β : Type} [DecidableEq α] [DatD α] [DecidableEq β] [DatD β] {M : Mem} {Q : DVK}
theorem vws_map (M : Mem) : ∀ xs : List α, Vws M (xs.map DatD.d) (xs.map PySem.W.Datum.toD)
  | [] => .nil
  | x :: xs => .cons (DatD.vw M x) (vws_map M xs)
theorem lay_map : ∀ xs : List α, PyData.canLayAll0 (xs.map PySem.W.Datum.toD) = true
  | [] => rfl
  | x :: xs => by
    rw [List.map_cons]
    unfold PyData.canLayAll0
    rw [DatD.lay x, lay_map xs]
    rfl
instance : DatD (List α) where
  d xs := .lst (xs.map DatD.d)
  vw M xs := .lst (vws_map M xs)
  lay xs := by
    show PyData.canLay0 (.list (xs.map PySem.W.Datum.toD)) = true
    unfold PyData.canLay0
    exact lay_map xs
instance : DatD (PySem.W.Tup α) where
  d xs := .tup (xs.items.map DatD.d)
  vw M xs := .tup (vws_map M xs.items)
  lay xs := by
    show PyData.canLay0 (.tuple (xs.items.map PySem.W.Datum.toD)) = true
    unfold PyData.canLay0
    exact lay_map xs.items
instance : DatD (α × β) where
  d p := .tup [DatD.d p.1, DatD.d p.2]
  vw M p := .tup (.cons (DatD.vw M p.1) (.cons (DatD.vw M p.2) .nil))
  lay p := by
    show PyData.canLay0 (.tuple [PySem.W.Datum.toD p.1, PySem.W.Datum.toD p.2]) = true
    unfold PyData.canLay0 PyData.canLayAll0 PyData.canLayAll0 PyData.canLayAll0
    rw [DatD.lay p.1, DatD.lay p.2]
    rfl
theorem shaped_d (a : α) (hd : PySem.W.Datum.depth α ≤ 64) : SeqAt.shaped (PySem.W.Datum.toD a) = true := by
  unfold SeqAt.shaped
  rw [DatD.lay a]
  have := PySem.W.Datum.depth_le a
  simp
  omega
/-- == of two values of one type -/
theorem eq_dat {f : Bool → Bool} {x y : D} (a b : α) (hx : Vw M x (PySem.W.Datum.toD a)) (hy : Vw M y (PySem.W.Datum.toD b)) (q : Q (.bl (f (decide (a = b)))) M) (hs : eqS x y = none := by rfl) (hd : PySem.W.Datum.depth α ≤ 64 := by decide) : dEqG f x y M Q := by
  unfold dEqG
  rw [hs]
  exact ⟨_, _, hx, hy, shaped_d a hd, shaped_d b hd, by rw [PySem.W.Datum.eqv]; exact q⟩
theorem eq_datD {f : Bool → Bool} (a b : α) (q : Q (.bl (f (decide (a = b)))) M) (hs : eqS (DatD.d a) (DatD.d b) = none := by rfl) (hd : PySem.W.Datum.depth α ≤ 64 := by decide) : dEqG f (DatD.d a) (DatD.d b) M Q := eq_dat a b (DatD.vw M a) (DatD.vw M b) q hs hd
theorem vw_row {d : D} {xs : List α} (h : LstD M d (xs.map DatD.d)) : Vw M d (PySem.W.Datum.toD xs) := by
  rcases h with rfl | ⟨a, rfl, h⟩
  · exact DatD.vw M xs
  · exact .ref h (vws_map M xs)
end
section
variable {ok : Mem → Prop} {dg : DG} {tt : DT} {te : DE} {ρw : Dv} {M : Mem} {Q : List D → Mem → Prop}
/-- a comprehension's clause over deep items, the store still -/
theorem lc_stillD (f : D → Option D) (ho : ok M) (xs acc : List D) (h : ∀ x ∈ xs, ∀ (N : List D → Mem → Prop) (acc : List D), acc.length < sizeLine → N (acc ++ (f x).toList) M → dg x ρw M fun ρ1 M1 => tt E0 ρ1 M1 fun b M2 => if b = true then te E0 ρ1 M2 fun y M3 => acc.length < sizeLine ∧ N (acc ++ [y]) M3 else N acc M2)
    (hl : acc.length + xs.length < sizeLine) (q : Q (acc ++ xs.filterMap f) M) : lcD ok dg tt te ρw xs acc M Q := by
  have := lc_still (ok := ok) (dg := dg) (tt := tt) (te := te) (ρw := ρw) (Q := Q) (fun d : D => d) f ho xs acc h hl q
  simpa using this
/-- .. over any items, each giving one -/
theorem lc_map {α : Type} (v : α → D) (f : α → D) (ho : ok M) (xs : List α) (h : ∀ x ∈ xs, ∀ k : D → Mem → Prop, k (f x) M → dg (v x) ρw M fun ρ1 M1 => tt E0 ρ1 M1 fun b M2 => b = true ∧ te E0 ρ1 M2 k)
    (mono : ∀ d ρ M (Q Q' : Dv → Mem → Prop), (∀ ρ M, Q ρ M → Q' ρ M) → dg d ρ M Q → dg d ρ M Q') (hy : tt = gYes) (hl : xs.length < sizeLine) (q : Q (xs.map f) M) : lcD ok dg tt te ρw (xs.map v) [] M Q := by
  subst hy
  refine lc_still v (fun x => some (f x)) ho xs [] (fun x hx N acc hz hN => ?_) (by simpa using hl) (by simpa using q)
  have := h x hx (fun y M3 => acc.length < sizeLine ∧ N (acc ++ [y]) M3) ⟨hz, by simpa using hN⟩
  exact mono _ _ _ _ _ (fun ρ1 M1 z => (by
    obtain ⟨z1, z2⟩ := z
    show if true = true then te E0 ρ1 M1 (fun y M3 => acc.length < sizeLine ∧ N (acc ++ [y]) M3) else N acc M1
    rw [if_pos rfl]
    exact z2)) this
end
theorem sz : sizeLine = 16777216 := sizeLine_eq
/-! ### loops in plain words -/
theorem rgD_get {lo : Int} {n i : Nat} {d : D} (h : (rgD lo n)[i]? = some d) : i < n ∧ d = .int (lo + (i : Nat)) := by
  unfold rgD at h
  rw [List.getElem?_map] at h
  by_cases hx : i < n
  · rw [List.getElem?_range hx] at h
    cases h
    exact ⟨hx, rfl⟩
  · rw [List.getElem?_eq_none (by simpa using hx)] at h
    cases h
theorem rgD_len {lo : Int} {n : Nat} : (rgD lo n).length = n := by unfold rgD; simp
section
variable {ok : Mem → Prop} {dg : DG} {gb : DS} {E : DEnds} {ρ : Dv} {M : Mem}
/-- for x in range(lo, ..) -/
theorem loop_rg {lo : Int} {n i : Nat} (P : Nat → Dv → Mem → Prop) (hs : ∀ x ρ M, x < n → P x ρ M → ∀ Nx : Dv → Mem → Prop, (∀ ρ M, P (x + 1) ρ M → Nx ρ M) → gb { E with nx := Nx, ct := Nx, bk := E.nx } (ρ.set i (some (.int (lo + (x : Nat))))) M)
    (hd : ∀ ρ M, P n ρ M → E.nx ρ M) (h0 : P 0 ρ M) : loopD (fun _ => True) (dName i) gb E (rgD lo n) ρ M := by
  refine loop_inv P (fun _ _ _ _ _ => trivial) (fun x ρ M d h p => ?_) dName_mono (fun ρ M p => hd ρ M (by rw [rgD_len] at p; exact p)) h0
  obtain ⟨hx, rfl⟩ := rgD_get h
  exact hs x ρ M hx p
theorem loop_rg0 {n i : Nat} (P : Nat → Dv → Mem → Prop) (hs : ∀ (x : Nat) ρ M, x < n → P x ρ M → ∀ Nx : Dv → Mem → Prop, (∀ ρ M, P (x + 1) ρ M → Nx ρ M) → gb { E with nx := Nx, ct := Nx, bk := E.nx } (ρ.set i (some (.int (x : Nat)))) M)
    (hd : ∀ ρ M, P n ρ M → E.nx ρ M) (h0 : P 0 ρ M) : loopD (fun _ => True) (dName i) gb E (rgD 0 n) ρ M :=
  loop_rg P (fun x ρ M hx p Nx hN => by
    have := hs x ρ M hx p Nx hN
    rw [show (0 : Int) + (x : Nat) = (x : Nat) by omega]
    exact this) hd h0
/-- for x in xs, the items told by α -/
theorem loop_map {α : Type} {i : Nat} (v : α → D) (xs : List α) (P : Nat → Dv → Mem → Prop) (hok : ∀ i ρ M, i ≤ xs.length → P i ρ M → ok M) (hs : ∀ k x ρ M, xs[k]? = some x → P k ρ M → ∀ Nx : Dv → Mem → Prop, (∀ ρ M, P (k + 1) ρ M → Nx ρ M) → gb { E with nx := Nx, ct := Nx, bk := E.nx } (ρ.set i (some (v x))) M)
    (hd : ∀ ρ M, P xs.length ρ M → E.nx ρ M) (h0 : P 0 ρ M) : loopD ok (dName i) gb E (xs.map v) ρ M := by
  refine loop_inv P (fun i ρ M h => hok i ρ M (by simpa using h)) (fun k ρ M d h p => ?_) dName_mono (fun ρ M p => hd ρ M (by simpa using p)) h0
  rw [List.getElem?_map] at h
  cases z : xs[k]? with
  | none => rw [z] at h; cases h
  | some x =>
    rw [z] at h
    cases h
    exact hs k x ρ M z p
/-- a comprehension's clause, the store changing -/
theorem lc_inv {tt : DT} {te : DE} {ρw : Dv} {Q : List D → Mem → Prop} {items : List D} (P : Nat → List D → Mem → Prop) (hok : ∀ i acc M, i ≤ items.length → P i acc M → ok M)
    (hs : ∀ i acc M d, items[i]? = some d → P i acc M → ∀ N : List D → Mem → Prop, (∀ acc M, P (i + 1) acc M → N acc M) → dg d ρw M fun ρ1 M1 => tt E0 ρ1 M1 fun b M2 => if b = true then te E0 ρ1 M2 fun y M3 => acc.length < sizeLine ∧ N (acc ++ [y]) M3 else N acc M2)
    (hd : ∀ acc M, P items.length acc M → Q acc M) {acc : List D} {M : Mem} (h0 : P 0 acc M) : lcD ok dg tt te ρw items acc M Q := by
  have key : ∀ k i acc M, i + k = items.length → P i acc M → lcD ok dg tt te ρw (items.drop i) acc M Q := by
    intro k
    induction k with
    | zero =>
      intro i acc M e p
      have z : i = items.length := by omega
      subst z
      rw [List.drop_length]
      unfold lcD
      exact ⟨hok _ _ _ (Nat.le_refl _) p, hd _ _ p⟩
    | succ k ih =>
      intro i acc M e p
      have hlt : i < items.length := by omega
      rw [List.drop_eq_getElem_cons hlt]
      unfold lcD
      exact ⟨hok _ _ _ (by omega) p, hs i acc M _ (by simp [hlt]) p (fun acc M => lcD ok dg tt te ρw (items.drop (i + 1)) acc M Q) fun acc M p2 => ih (i + 1) acc M (by omega) p2⟩
  have := key items.length 0 acc M (by omega) h0
  simpa using this
end
theorem dTup_mono {n : Nat} {gs : DGs} (h : ∀ ds ρ M (Q Q' : Dv → Mem → Prop), (∀ ρ M, Q ρ M → Q' ρ M) → gs ds ρ M Q → gs ds ρ M Q') : ∀ d ρ M (Q Q' : Dv → Mem → Prop), (∀ ρ M, Q ρ M → Q' ρ M) → dTup n gs d ρ M Q → dTup n gs d ρ M Q' := fun d ρ M Q Q' k z => by
  cases d <;> first | exact z.elim | exact ⟨z.1, h _ _ _ _ _ k z.2⟩
theorem dNil_mono : ∀ ds ρ M (Q Q' : Dv → Mem → Prop), (∀ ρ M, Q ρ M → Q' ρ M) → dNil ds ρ M Q → dNil ds ρ M Q' := fun ds ρ M Q Q' k z => ⟨z.1, k _ _ z.2⟩
theorem dCons_mono {g : DG} {gs : DGs} (h1 : ∀ d ρ M (Q Q' : Dv → Mem → Prop), (∀ ρ M, Q ρ M → Q' ρ M) → g d ρ M Q → g d ρ M Q') (h2 : ∀ ds ρ M (Q Q' : Dv → Mem → Prop), (∀ ρ M, Q ρ M → Q' ρ M) → gs ds ρ M Q → gs ds ρ M Q') : ∀ ds ρ M (Q Q' : Dv → Mem → Prop), (∀ ρ M, Q ρ M → Q' ρ M) → dCons g gs ds ρ M Q → dCons g gs ds ρ M Q' := fun ds ρ M Q Q' k z => by
  cases ds with
  | nil => exact z.elim
  | cons d ds => exact h1 _ _ _ _ _ (fun ρ M y => h2 _ _ _ _ _ k y) z
/-- two names -/
theorem dT2_mono {n i j : Nat} : ∀ d ρ M (Q Q' : Dv → Mem → Prop), (∀ ρ M, Q ρ M → Q' ρ M) → dTup n (dCons (dName i) (dCons (dName j) dNil)) d ρ M Q → dTup n (dCons (dName i) (dCons (dName j) dNil)) d ρ M Q' := dTup_mono (dCons_mono dName_mono (dCons_mono dName_mono dNil_mono))
/-! ### a table: cells of one's own -/
structure TabAt (M0 M : Mem) (ps : List Addr) (rows : List (List D)) : Prop where
  len : ps.length = rows.length
  nd : ps.Nodup
  new : ∀ p ∈ ps, M0 p = none
  at_ : ∀ (i : Nat) (p : Addr) (r : List D), ps[i]? = some p → rows[i]? = some r → M p = some (.lst r)
  out : ∀ b, b ∉ ps → M b = M0 b
section
variable {M0 M : Mem} {ps : List Addr} {rows : List (List D)} {p : Addr} {r : List D}
theorem TabAt.nil : TabAt M0 M0 [] [] := ⟨rfl, List.nodup_nil, by simp, by simp, fun _ _ => rfl⟩
theorem TabAt.up (t : TabAt M0 M ps rows) : MemUp M0 M := fun a o h => by
  rw [t.out a fun z => by rw [t.new a z] at h; cases h]; exact h
theorem TabAt.push (t : TabAt M0 M ps rows) (hp : M p = none) : TabAt M0 (mset M p (.lst r)) (ps ++ [p]) (rows ++ [r]) := by
  have hn : p ∉ ps := fun z => by
    obtain ⟨i, hi, e⟩ := List.getElem_of_mem z
    have := t.at_ i p (rows[i]'(by rw [← t.len]; exact hi)) (by rw [List.getElem?_eq_getElem hi, e]) (List.getElem?_eq_getElem _)
    rw [hp] at this; cases this
  have h0 : M0 p = none := by rw [← t.out p hn]; exact hp
  refine ⟨by simp [t.len], ?_, ?_, fun i q r' h1 h2 => ?_, fun b hb => ?_⟩
  · rw [List.nodup_append]
    exact ⟨t.nd, by simp, fun a ha b hb => by rw [List.mem_singleton.mp hb]; exact fun z => hn (by rw [← z]; exact ha)⟩
  · intro q hq
    rcases List.mem_append.mp hq with z | z
    · exact t.new q z
    · rw [List.mem_singleton.mp z]; exact h0
  · by_cases hi : i < ps.length
    · rw [List.getElem?_append_left hi] at h1
      rw [List.getElem?_append_left (by rw [← t.len]; exact hi)] at h2
      rw [mset_ne fun z => hn (by rw [← z]; exact List.mem_of_getElem? h1)]
      exact t.at_ i q r' h1 h2
    · rw [List.getElem?_append_right (by omega)] at h1
      rw [List.getElem?_append_right (by rw [← t.len]; omega)] at h2
      rw [← t.len] at h2
      cases z : i - ps.length with
      | zero => rw [z] at h1 h2; cases h1; cases h2; exact mset_same
      | succ k => rw [z] at h1; cases h1
  · have hb1 : b ∉ ps := fun z => hb (by simp [z])
    have hb2 : b ≠ p := fun z => hb (by simp [z])
    rw [mset_ne hb2]; exact t.out b hb1
theorem nd_inj {l : List Addr} (h : l.Nodup) {i j : Nat} (hi : i < l.length) (hj : j < l.length) (e : l[i] = l[j]) : i = j := by
  have p := List.pairwise_iff_getElem.mp h
  rcases Nat.lt_trichotomy i j with z | z | z
  · exact absurd e (p i j hi hj z)
  · exact z
  · exact absurd e.symm (p j i hj hi z)
theorem TabAt.set {i : Nat} (t : TabAt M0 M ps rows) (hp : ps[i]? = some p) : TabAt M0 (mset M p (.lst r)) ps (rows.set i r) := by
  refine ⟨by simp [t.len], t.nd, t.new, fun j q r' h1 h2 => ?_, fun b hb => ?_⟩
  · by_cases e : i = j
    · subst e
      rw [h1] at hp
      cases hp
      have hi : i < rows.length := by rw [← t.len]; exact (List.getElem?_eq_some_iff.mp h1).1
      rw [List.getElem?_set_self hi] at h2
      cases h2
      exact mset_same
    · rw [List.getElem?_set_ne e] at h2
      have : q ≠ p := fun z => by
        subst z
        obtain ⟨h3, h4⟩ := List.getElem?_eq_some_iff.mp h1
        obtain ⟨h5, h6⟩ := List.getElem?_eq_some_iff.mp hp
        exact e (nd_inj t.nd h5 h3 (h6.trans h4.symm))
      rw [mset_ne this]
      exact t.at_ j q r' h1 h2
  · have : b ≠ p := fun z => hb (by rw [z]; exact List.mem_of_getElem? hp)
    rw [mset_ne this]; exact t.out b hb
theorem TabAt.row {i : Nat} (t : TabAt M0 M ps rows) (hi : i < rows.length) : M (ps[i]'(by rw [t.len]; exact hi)) = some (.lst rows[i]) := t.at_ i _ _ (List.getElem?_eq_getElem _) (List.getElem?_eq_getElem _)
end
theorem TabAt.notin {M0 M : Mem} {ps : List Addr} {rows : List (List D)} {p : Addr} (t : TabAt M0 M ps rows) (h : M0 p ≠ none ∨ M p = none) : p ∉ ps := fun z => by
  rcases h with h | h
  · exact h (t.new p z)
  · obtain ⟨i, hi, e⟩ := List.getElem_of_mem z
    have := t.at_ i p (rows[i]'(by rw [← t.len]; exact hi)) (by rw [List.getElem?_eq_getElem hi, e]) (List.getElem?_eq_getElem _)
    rw [h] at this; cases this
/-- beside the table a cell is changed (or laid) -/
theorem TabAt.under {M0 M : Mem} {ps : List Addr} {rows : List (List D)} {p : Addr} {o : MO} (t : TabAt M0 M ps rows) (h : p ∉ ps) : TabAt (mset M0 p o) (mset M p o) ps rows := by
  refine ⟨t.len, t.nd, fun q hq => ?_, fun i q r h1 h2 => ?_, fun b hb => ?_⟩
  · rw [mset_ne fun z => h (by rw [← z]; exact hq)]; exact t.new q hq
  · rw [mset_ne fun z => h (by rw [← z]; exact List.mem_of_getElem? h1)]; exact t.at_ i q r h1 h2
  · by_cases z : b = p
    · rw [z, mset_same, mset_same]
    · rw [mset_ne z, mset_ne z]; exact t.out b hb
theorem TabAt.keep {M0 M : Mem} {ps : List Addr} {rows : List (List D)} {p : Addr} {o : MO} (t : TabAt M0 M ps rows) (h : M0 p = some o) : M p = some o := t.up p o h
/-! ### rows and tables of numbers -/
def rowR (n : Nat) (f : Nat → Int) : List D := (List.range n).map fun b => D.int (f b)
theorem rowR_len {n : Nat} {f : Nat → Int} : (rowR n f).length = n := by unfold rowR; simp
theorem rowR_congr {n : Nat} {f g : Nat → Int} (h : ∀ b, b < n → f b = g b) : rowR n f = rowR n g := by
  unfold rowR
  apply List.map_congr_left
  intro b hb
  rw [h b (by simpa using hb)]
theorem rowR_set {n : Nat} {f : Nat → Int} {b : Nat} {v : Int} : (rowR n f).set b (.int v) = rowR n fun b' => if b' = b then v else f b' := by
  unfold rowR
  apply List.ext_getElem?
  intro j
  by_cases e2 : b = j
  · subst e2
    by_cases hb : b < n
    · rw [List.getElem?_set_self (by simpa using hb)]
      simp [hb]
    · rw [List.getElem?_eq_none (by simpa using hb), List.getElem?_eq_none (by simpa using hb)]
  · rw [List.getElem?_set_ne e2]
    simp only [List.getElem?_map]
    cases z : (List.range n)[j]? with
    | none => rfl
    | some k =>
      have : k = j := by
        obtain ⟨h1, h2⟩ := List.getElem?_eq_some_iff.mp z
        rw [List.getElem_range] at h2; exact h2.symm
      subst this
      simp [Ne.symm e2]
theorem ixN_nat {n i : Nat} (h : i < n) : ixN n ((i : Nat) : Int) = some i := by
  unfold ixN
  rw [if_pos (by omega), if_pos (by omega)]
  simp
theorem atI_nat {α : Type} {xs : List α} {i : Nat} (h : i < xs.length) : atI xs ((i : Nat) : Int) = some xs[i] := by
  unfold atI
  rw [ixN_nat h]
  simp [h]
theorem atI_rowR {n : Nat} {f : Nat → Int} {i : Nat} (h : i < n) : atI (rowR n f) ((i : Nat) : Int) = some (.int (f i)) := by
  rw [atI_nat (by rw [rowR_len]; exact h)]
  unfold rowR
  simp
/-- an n by n table of numbers -/
def tabR (n : Nat) (T : Nat → Nat → Int) : List (List D) := (List.range n).map fun a => rowR n (T a)
theorem tabR_len {n : Nat} {T : Nat → Nat → Int} : (tabR n T).length = n := by unfold tabR; simp
theorem tabR_get {n : Nat} {T : Nat → Nat → Int} {a : Nat} (h : a < n) : (tabR n T)[a]? = some (rowR n (T a)) := by unfold tabR; simp [h]
theorem tabR_congr {n : Nat} {T T' : Nat → Nat → Int} (h : ∀ a, a < n → ∀ b, b < n → T a b = T' a b) : tabR n T = tabR n T' := by
  unfold tabR
  apply List.map_congr_left
  intro a ha
  exact rowR_congr (h a (by simpa using ha))
theorem tabR_set {n : Nat} {T : Nat → Nat → Int} {a b : Nat} {v : Int} (ha : a < n) : (tabR n T).set a ((rowR n (T a)).set b (.int v)) = tabR n fun a' b' => if a' = a ∧ b' = b then v else T a' b' := by
  unfold tabR
  rw [rowR_set]
  apply List.ext_getElem?
  intro i
  by_cases e : a = i
  · subst e
    rw [List.getElem?_set_self (by simpa using ha)]
    simp only [List.getElem?_map, List.getElem?_range ha, Option.map_some]
    congr 1
    apply rowR_congr
    intro b' _
    simp
  · rw [List.getElem?_set_ne e]
    simp only [List.getElem?_map]
    cases z : (List.range n)[i]? with
    | none => rfl
    | some k =>
      have : k = i := by
        obtain ⟨h1, h2⟩ := List.getElem?_eq_some_iff.mp z
        rw [List.getElem_range] at h2; exact h2.symm
      subst this
      simp only [Option.map_some]
      congr 1
      apply rowR_congr
      intro b' _
      simp [Ne.symm e]
section
variable {M0 M : Mem} {ps : List Addr} {n : Nat} {T : Nat → Nat → Int}
theorem TabAt.cell {a : Nat} (t : TabAt M0 M ps (tabR n T)) (h : a < n) : ∃ p, ps[a]? = some p ∧ M p = some (.lst (rowR n (T a))) := by
  have hl : a < ps.length := by rw [t.len, tabR_len]; exact h
  exact ⟨ps[a], List.getElem?_eq_getElem hl, t.at_ a _ _ (List.getElem?_eq_getElem hl) (tabR_get h)⟩
theorem refs_at {a : Nat} {p : Addr} (h : ps[a]? = some p) : atI (ps.map D.ref) ((a : Nat) : Int) = some (.ref p) := by
  obtain ⟨h1, h2⟩ := List.getElem?_eq_some_iff.mp h
  rw [atI_nat (by simpa using h1)]
  simp [h2]
end
end DL

/-! DLD: subscripts as targets, three names at once, extend, count, in (data). -/
namespace DLM
open PySem PySem.Spec PyProof.Rows L2
section
variable {X : Cx}
/-- l.remove(x): items that are data -/
def rRemD (K : PySem.W.Frag) : V → List V → Hp → VK → Prop := fun x xs H Q => ∃ (a : Addr) (vs : List V) (y : V) (d : PyData) (ds : List PyData) (j : Nat) (z : PyData), x = V.ref a ∧ xs = [y] ∧ H a = some (.lst vs) ∧ DpAll K H vs ds ∧ Dp K H y d ∧ SeqAt.shaped (.list ds) = true ∧ SeqAt.shaped d = true ∧
  ds[j]? = some z ∧ PyData.eqv z d = true ∧ (∀ (m : Nat) (z' : PyData), m < j → ds[m]? = some z' → PyData.eqv z' d = false) ∧ Q .non (upd H a (.lst (vs.eraseIdx j)))
theorem eraseIdx_v : ∀ {vs : List V} {us : List Value} (i : Nat), Vals vs us → Vals (vs.eraseIdx i) (us.eraseIdx i)
  | _, _, i, .nil => .nil
  | _, _, 0, .cons _ t => t
  | _, _, i + 1, .cons r t => .cons r (eraseIdx_v i t)
theorem mt_removeD (hu : X.A.units + 65 < cLine) : MtR X "list.remove" (rRemD X.K) := by
  intro pins s σ H x xs v us Q I rx rxs h; obtain ⟨a, vs, y, d, ds, j, z, rfl, rfl, hH, ha, hy, sl, sd, hz, hzj, hno, q⟩ := h
  cases rx
  obtain ⟨uy, rfl, ry⟩ := rxs.one; obtain ⟨bs, r1⟩ := Dp.reads I d y uy hy ry
  have hxs : PyData.canLayAll0 ds = true := SeqAt.canLay_of_shaped sl; have hroom : X.A.units + 1 + min (PyData.depthAll ds) d.depth < cLine := room_in_shaped sd hu
  obtain ⟨zl, its, n, rv, hl, e⟩ := I.lstM hH; obtain ⟨as, h4⟩ := Dp.readsAll I ds _ its ha rv
  have hn : its.length = ds.length := SeqAt.ReadsAll.length ds its as h4; have hmap : its.map (SeqAt.readOf s.heap) = ds := SeqAt.readsAll_map ds its as hxs h4
  have hvl := rv.length; obtain ⟨hjd, _⟩ := List.getElem?_eq_some_iff.mp hz
  have hjl : j < its.length := by omega
  have at_ : ∀ (m : Nat) (hm : m < its.toArray.size) (z' : PyData), ds[m]? = some z' → SeqAt.readOf s.heap its.toArray[m] = z' := fun m hm z' hz' => by
    have hml : m < its.length := by simpa using hm
    rw [← hmap, List.getElem?_map, List.getElem?_eq_getElem hml] at hz'; have e1 : SeqAt.readOf s.heap its[m] = z' := Option.some.inj hz'
    simpa using e1
  refine call_meets PySem.F.slot_list_remove ⟨_, e, rfl⟩ PySem.F.entry_list_remove (PySem.F.args_list_remove_2 _ _) (SeqAt.list_removeAt a its.toArray n none #[] uy (fun u => PyData.eqv (SeqAt.readOf s.heap u) d) j (by simpa using hjl) ?_ ?_ (by rw [List.size_toArray]; omega)) ⟨e, SeqAt.items_eqAt (vs := its.toArray) (show ReadsAll s.heap its.toArray.toList ds as from h4) r1 hxs (SeqAt.canLay_of_shaped sd) hroom, ?_⟩
  · show PyData.eqv (SeqAt.readOf s.heap its.toArray[j]) d = true; rw [at_ j (by simpa using hjl) z hz]; exact hzj
  · intro m hm hmj; have hmd : m < ds.length := by omega
    have hz' : ds[m]? = some ds[m] := List.getElem?_eq_getElem hmd; show PyData.eqv (SeqAt.readOf s.heap its.toArray[m]) d = false
    rw [at_ m hm _ hz']; exact hno m _ hmj hz'
  · refine ⟨.non, _, I.lset (its' := its.eraseIdx j) (t' := s.toks) hH e ?_ (eraseIdx_v j rv) ?_, rfl, q⟩
    · show its.toArray.eraseIdxIfInBounds j = (its.eraseIdx j).toArray; rw [List.eraseIdxIfInBounds_toArray]
    · have := List.length_eraseIdx_le vs j; omega
end
end DLM
namespace DL
open PySem PySem.Spec L2
section
variable {K : PySem.W.Frag} {X : Cx} {W : WX} {F : Addr → Prop} {H : Hp} {ρ : Dv} {M : Mem} {σ : L2.St} {a b c e o : Expr} {ga gb gc : DE} {pos : Pos}
theorem hu65 {k : Nat} {A : Around} (hr : Room k A) : A.units + 65 < cLine := by have := hr.un; omega
theorem xe0 {W : WX} : XOk K F H M E0 W σ := fun _ _ _ _ _ _ _ _ _ z => z.elim
/-- o[i] as a target -/
def dSubT (ga gb : DE) : DG := fun d ρ M Q => ga E0 ρ M fun o M1 => gb E0 ρ M1 fun i M2 => dSetIx o i d M2 fun M3 => Q ρ M3
theorem fg_sub {vs : List Nat} {i : Expr} {p2 : Pos} (ho : FE K X W o ga) (hi : FE K X W i gb)
    (ha : ∀ v, assign (.Subscript o i p2) X.env v = (do
      let ov ← holding [v] (eval o X.env)
      let iv ← holding [v, ov] (eval i X.env)
      standAt p2
      holding [v, ov, iv] (setItem ov iv v)
      release [v, ov, iv] []) := by intro _; rfl) : FG K X (.Subscript o i p2) vs (dSubT ga gb) :=
  PG.imp (pg_sub ho hi (set_ix (K := K)) ha) fun v σ H Q ⟨F, ρ, M, d, Q', s, r, q, h⟩ =>
    tG_mk s xe0 (fun F1 H1 M1 d1 v1 e1 m1 r1 h1 => tG_mk (s.next e1.toExtW m1) xe0 (fun F2 H2 M2 d2 v2 e2 m2 r2 h2 =>
      ⟨F2, M2, d1, d2, d, _, m2, Rp.mono e2.toExtW _ _ r1, r2, Rp.mono (e1.trans e2).toExtW _ _ r, fun F3 H3 M3 e3 m3 h3 =>
        q F3 H3 ρ M3 σ ((e1.trans e2).trans e3) (s.next ((e1.trans e2).trans e3).toExtW m3) (Chg.refl _ _) h3, h2⟩) h1) h
def sPar3 (i j l : Nat) (g : DA) : DS := fun E ρ M => g (fun x M => E.ex x ρ M) ρ M fun ds M1 => match ds with
  | [d, e, f] => E.nx (((ρ.set i (some d)).set j (some e)).set l (some f)) M1
  | _ => False
theorem fs_par3 (i j l : Nat) {x y z : Str} {px py pz pt : Pos} {kt k2 pt2} {g : DA} (hN : X.N.Nodup) (ha : FA K X W [a, b, c] g) (hc : X.calm = true := by rfl) (hi : X.N[i]? = some x := by rfl) (hj : X.N[j]? = some y := by rfl) (hl : X.N[l]? = some z := by rfl) (hij : i ≠ j := by decide) (hil : i ≠ l := by decide) (hjl : j ≠ l := by decide)
    (hx : X.env.scope.names.lookup x = some .local := by rfl) (hy : X.env.scope.names.lookup y = some .local := by rfl) (hz : X.env.scope.names.lookup z = some .local := by rfl)
    (hw : swappedStores [.Tuple [.Name x px, .Name y py, .Name z pz] kt pt] (.Tuple [a, b, c] k2 pt2) X.env = pure (some [x, y, z]) := by rfl)
    (hs : swapsWithSole [.Tuple [.Name x px, .Name y py, .Name z pz] kt pt] (.Tuple [a, b, c] k2 pt2) pos.line X.env = pure false := by rfl) : FS K X W (.Assign [.Tuple [.Name x px, .Name y py, .Name z pz] kt pt] (.Tuple [a, b, c] k2 pt2) pos) (sPar3 i j l g) :=
  PS.imp (ps_par3 hc hN hi hj hl hij hil hjl hx hy hz ha hw hs) fun D σ H ⟨F, ρ, M, E', s, x, h⟩ => (⟨F, ρ, M, _, _, s, x.ex.at_ s, fun F1 H1 M1 ds vs e1 m1 r1 h1 => by
    match ds, h1 with
    | [d, e, f], h1 =>
      unfold Rps Rps Rps at r1
      obtain ⟨v, w, rfl, q1, u, w', rfl, q2, t, w2, rfl, q3, q4⟩ := r1
      unfold Rps at q4
      subst q4
      exact ⟨v, u, t, rfl, x.nx F1 H1 _ M1 _ e1 ((((s.next e1 m1).set i q1).set j q2).set l q3) h1⟩, h⟩ : tGa K W g σ H _)
def dCount : DRm := fun x ds M Q => match ds with
  | [.int k] => onL M x fun xs => ∃ ns : List Int, xs = ns.map D.int ∧ Q (.int (ns.count k : Nat)) M
  | _ => False
theorem md_count : MtD X.K X "list.count" dCount := MtR.imp mt_lcount fun x xs H Q ⟨F, M, d, ds, Q', m, r, rs, q, h⟩ => by
  match ds, h with
  | [.int k], h =>
    obtain ⟨w, rfl, rw'⟩ := rs.one
    have h' : onL M d fun xs => ∃ ns : List Int, xs = ns.map D.int ∧ Q' (.int (ns.count k : Nat)) M := h
    obtain ⟨es, a, vs, _, ⟨ns, rfl, h⟩, rfl, hv, rr⟩ := onL_at m r h'
    have z := Rp.ints rr
    subst z
    exact ⟨a, ns, k, rfl, by rw [rw'.int_inv], SqL.of hv, q F H M _ _ (Ext.refl _ _ _) m Rp.int h⟩
/-- in, not in: data -/
def dInDG (neg : Bool) : DR2 := fun x y M Q => ∃ d ds, Vw M x d ∧ Vw M y (.list ds) ∧ SeqAt.shaped d = true ∧ SeqAt.shaped (.list ds) = true ∧ Q (.bl (if neg then !ds.any (fun z => PyData.eqv z d) else ds.any fun z => PyData.eqv z d)) M
theorem od_inD (hK : X.K = K) (hu : X.A.units + 65 < cLine) : OpD K X (compareOp .In) (dInDG false) := by
  subst hK
  exact OpR.imp (op_inD hu) fun x y H Q ⟨F, M, d, e, Q', m, r1, r2, q, p, ps, v1, v2, s1, s2, h⟩ => ⟨p, ps, v1.dp m r1, v2.dp m r2, s1, s2, q F H M _ _ (Ext.refl _ _ _) m Rp.bl h⟩
theorem od_notInD (hK : X.K = K) (hu : X.A.units + 65 < cLine) : OpD K X (compareOp .NotIn) (dInDG true) := by
  subst hK
  exact OpR.imp (op_notInD hu) fun x y H Q ⟨F, M, d, e, Q', m, r1, r2, q, p, ps, v1, v2, s1, s2, h⟩ => ⟨p, ps, v1.dp m r1, v2.dp m r2, s1, s2, q F H M _ _ (Ext.refl _ _ _) m Rp.bl h⟩
end
section
variable {K : PySem.W.Frag} {X : Cx}
theorem Vws.get : ∀ {M : Mem} {ds : List D} {ps : List PyData}, Vws M ds ps → ds.length = ps.length
  | _, _, _, .nil => rfl
  | _, _, _, .cons _ t => by rw [List.length_cons, List.length_cons, Vws.get t]
/-- x.remove(y), the first place told -/
def dRemove : DRm := fun x ds M Q => match ds with
  | [y] => onC M x fun a xs => ∃ (d : PyData) (ps : List PyData) (j : Nat) (z : PyData), Vw M y d ∧ Vws M xs ps ∧ SeqAt.shaped (.list ps) = true ∧ SeqAt.shaped d = true ∧ ps[j]? = some z ∧ PyData.eqv z d = true ∧ (∀ (m : Nat) (z' : PyData), m < j → ps[m]? = some z' → PyData.eqv z' d = false) ∧ Q .non (mset M a (.lst (xs.eraseIdx j)))
  | _ => False
theorem md_remove (hK : X.K = K) (hu : X.A.units + 65 < cLine) : MtD K X "list.remove" dRemove := by
  subst hK
  refine MtR.imp (DLM.mt_removeD hu) fun x xs H Q ⟨F, M, d, ds, Q', m, r, rs, q, h⟩ => ?_
  match ds, h with
  | [y], h =>
    obtain ⟨w, rfl, rw'⟩ := rs.one
    obtain ⟨a, es, vs, rfl, rfl, e, n, hv, rv, p, ps, j, z, v1, v2, s1, s2, hz, he, hno, h⟩ := onC_at m r h
    exact ⟨a, vs, w, p, ps, j, z, rfl, rfl, hv, v2.dp m rv, v1.dp m rw', s1, s2, hz, he, hno, chL m e n hv (rv.eraseIdx j) q (fun _ _ => Rp.non) h⟩
end
section
variable {α : Type} [DecidableEq α] [DatD α] {M : Mem} {Q : DVK}
theorem in_dat {neg : Bool} {x y : D} (a : α) (xs : List α) (hx : Vw M x (PySem.W.Datum.toD a)) (hy : LstD M y (xs.map DatD.d)) (q : Q (.bl (if neg then !decide (a ∈ xs) else decide (a ∈ xs))) M) (hd : PySem.W.Datum.depth (List α) ≤ 64 := by decide) (hd1 : PySem.W.Datum.depth α ≤ 64 := by decide) : dInDG neg x y M Q := by
  refine ⟨_, xs.map PySem.W.Datum.toD, hx, vw_row hy, shaped_d a hd1, shaped_d (α := List α) xs hd, ?_⟩
  rw [PySem.W.any_datum]
  exact q
end
/-! ### x is True -/
section
variable {K : PySem.W.Frag} {X : Cx}
def dIsB (f : Bool → Bool) : DR2
  | .bl a, .bl b, M, Q => Q (.bl (f (decide (a = b)))) M
  | _, _, _, _ => False
theorem q_isB {f : Bool → Bool} {a b : Bool} {M : Mem} {Q : DVK} : dIsB f (.bl a) (.bl b) M Q = Q (.bl (f (decide (a = b)))) M := rfl
theorem od_isB : OpD K X (compareOp .Is) (dIsB fun b => b) := OpR.imp op_isBl fun x y H Q ⟨F, M, d, e, Q', m, r1, r2, q, h⟩ => by
  match d, e, h with
  | .bl a, .bl b, h =>
    unfold Rp at r1 r2
    exact ⟨a, b, r1, r2, q F H M _ _ (Ext.refl _ _ _) m Rp.bl h⟩
theorem od_notB : OpD K X (compareOp .IsNot) (dIsB fun b => !b) := OpR.imp op_notBl fun x y H Q ⟨F, M, d, e, Q', m, r1, r2, q, h⟩ => by
  match d, e, h with
  | .bl a, .bl b, h =>
    unfold Rp at r1 r2
    exact ⟨a, b, r1, r2, q F H M _ _ (Ext.refl _ _ _) m Rp.bl h⟩
end
/-! ### zip -/
def isTup : D → Bool
  | .tup _ => true
  | _ => false
section
variable {K : PySem.W.Frag} {X : Cx} {W : WX} {F : Addr → Prop} {H : Hp} {M : Mem} {a b : Expr}
theorem src_at2 {d : D} {v : V} {src : Src} (m : MemOk K F H M) (r : Rp K F H d v) (h : srcOf M d = some src) : src.ok M ∧ ∃ a, v = .ref a ∧ SeqAt K F H (if isTup d then .t else .l) a src := by
  cases d with
  | lst ds =>
    cases h
    unfold Rp at r
    obtain ⟨a, vs, e, q, f, rr⟩ := r
    exact ⟨True.intro, a, e, fun F' H' M' x _ _ => ⟨vs, SqL.of (x.fro _ _ f q), Rps.mono x _ _ rr⟩⟩
  | tup ds =>
    cases h
    unfold Rp at r
    obtain ⟨a, vs, e, q, rr⟩ := r
    exact ⟨True.intro, a, e, fun F' H' M' x _ _ => ⟨vs, x.tupAt q, Rps.mono x _ _ rr⟩⟩
  | scr ns =>
    obtain ⟨o, k, a, e, s⟩ := src_at m r h
    cases h
    unfold Rp at r
    obtain ⟨a, e, q⟩ := r
    refine ⟨True.intro, a, e, fun F' H' M' x _ _ => ⟨ns.map V.int, ?_, Rps.map_of (fun _ => Rp.int) ns⟩⟩
    rcases q with ⟨o, q⟩ | q
    · exact .inl (.inr ⟨o, x.frz _ _ _ q⟩)
    · exact q H'
  | ref a =>
    have h' : (match M a with | some (.lst ds) => some (⟨ds, fun M' => M' a = some (.lst ds)⟩ : Src) | _ => none) = some src := h
    cases q : M a with
    | none => rw [q] at h'; cases h'
    | some o =>
      rw [q] at h'
      cases o with
      | ins C fs => cases h'
      | lst ds =>
        cases h'
        unfold Rp at r
        exact ⟨q, a, r, fun F' H' M' x m' e' => by
          obtain ⟨vs, h1, h2⟩ := (m'.at_ a _ e').2
          exact ⟨vs, SqL.of h1, h2⟩⟩
  | _ => cases h
def zipD (xs ys : List D) : List D := (xs.zip ys).map fun p => .tup [p.1, p.2]
theorem zipD_get {xs ys : List D} {i : Nat} {d : D} (h : (zipD xs ys)[i]? = some d) : ∃ x y, xs[i]? = some x ∧ ys[i]? = some y ∧ d = .tup [x, y] := by
  unfold zipD at h
  rw [List.getElem?_map] at h
  cases z : (xs.zip ys)[i]? with
  | none => rw [z] at h; cases h
  | some p =>
    rw [z] at h
    cases h
    rw [List.getElem?_zip_eq_some] at z
    exact ⟨p.1, p.2, z.1, z.2, rfl⟩
theorem zipD_len {xs ys : List D} : (zipD xs ys).length = min xs.length ys.length := by unfold zipD; simp
def iZipD (g : DA) : DI := fun E ρ M R => g E ρ M fun ds M1 => match ds with
  | [x, y] => onSrc M1 x fun s _ => onSrc M1 y fun t _ => isTup x = isTup y ∧ R ⟨zipD s.items t.items, fun M' => s.ok M' ∧ t.ok M'⟩ M1
  | _ => False
theorem fi_zip {p tpos pos : Pos} {elts : List Expr} {kk : Nat} {g : DA} (hK : X.K = K) (hm : X.mg "zip" = none) (ha : FA K X W [a, b] g) (hg : Gl X "zip" := by rfl)
    (hs : starEach [a, b] X.env = (false, eval a X.env) :: starEach [b] X.env := by rfl) (hpl : (backTo pos (starEach [b] X.env)).any (·.1) = false := by rfl) :
    FI K X W (.Tuple elts kk tpos) (.Call (.Name "zip" p) [a, b] [] pos) (iZipD g) := by
  subst hK
  refine PI.imp (RZ.pi_zipA hg hm ha hs hpl) fun σ H R ⟨F, ρ, M, E, R', s, x, q, h⟩ => (⟨F, ρ, M, E, _, s, x, fun F1 H1 M1 ds vs e1 m1 r1 h1 => ?_, h⟩ : tGa X.K W g σ H _)
  match ds, h1 with
  | [d, e], h1 =>
    obtain ⟨v, w, rfl, rv, rw'⟩ := r1.two
    have h2 : onSrc M1 d fun s _ => onSrc M1 e fun t _ => isTup d = isTup e ∧ R' ⟨zipD s.items t.items, fun M' => s.ok M' ∧ t.ok M'⟩ M1 := h1
    unfold onSrc at h2
    cases z1 : srcOf M1 d with
    | none => rw [z1] at h2; exact h2.elim
    | some sd =>
      cases z2 : srcOf M1 e with
      | none => rw [z1, z2] at h2; exact h2.elim
      | some se =>
        rw [z1, z2] at h2
        obtain ⟨hk, h2⟩ := h2
        obtain ⟨o1, a1, rfl, s1⟩ := src_at2 m1 rv z1
        obtain ⟨o2, a2, rfl, s2⟩ := src_at2 m1 rw' z2
        rw [← hk] at s2
        obtain ⟨us1, h3, h4⟩ := s1 F1 H1 M1 (ExtW.refl _ _) m1 o1
        obtain ⟨us2, h5, h6⟩ := s2 F1 H1 M1 (ExtW.refl _ _) m1 o2
        refine ⟨a1, a2, us1, us2, rfl, ?_⟩
        cases ht : isTup d with
        | false =>
          rw [ht] at s1 s2 h3 h5
          refine .inl ⟨h3, h5, q F1 H1 M1 _ _ e1 m1 (fun F' H' M' x m o i => ?_) h2⟩
          obtain ⟨ws1, k1, k2⟩ := s1 F' H' M' x m o.1
          obtain ⟨ws2, k3, k4⟩ := s2 F' H' M' x m o.2
          refine ⟨fun y hy => ?_, fun hl => ⟨ws1, ws2, k1, k3, ?_⟩⟩
          · obtain ⟨x1, x2, g1, g2, rfl⟩ := zipD_get hy
            obtain ⟨v1, hv1, rv1⟩ := k2.get g1
            obtain ⟨v2, hv2, rv2⟩ := k4.get g2
            refine ⟨⟨ws1, ws2, v1, v2, k1, k3, hv1, hv2⟩, fun y2 H2 yy => ?_⟩
            obtain ⟨T, u1, u2, rfl, hT, rfl, j1, j2⟩ := yy
            have e3 := j1 ws1 k1
            have e4 := j2 ws2 k3
            rw [hv1] at e3
            rw [hv2] at e4
            cases e3
            cases e4
            have l : Ext F' H' M' F' (upd H' T (.tup [v1, v2])) M' := Ext.laid hT fun _ z => z
            refine ⟨F', l, m.aside hT _, ?_⟩
            unfold Rp
            exact ⟨T, _, rfl, .inl upd_same, .cons (Rp.mono l _ _ rv1) (.cons (Rp.mono l _ _ rv2) .nil)⟩
          · have hl' : (zipD sd.items se.items).length ≤ i := hl
            rw [zipD_len] at hl'
            rw [k2.length, k4.length]
            omega
        | true =>
          rw [ht] at s1 s2 h3 h5
          refine .inr ⟨TupAt.sq h3, TupAt.sq h5, q F1 H1 M1 _ _ e1 m1 (fun F' H' M' x m o i => ?_) h2⟩
          obtain ⟨ws1, k1, k2⟩ := s1 F' H' M' x m o.1
          obtain ⟨ws2, k3, k4⟩ := s2 F' H' M' x m o.2
          have k1 := TupAt.sq k1
          have k3 := TupAt.sq k3
          refine ⟨fun y hy => ?_, fun hl => ⟨ws1, ws2, k1, k3, ?_⟩⟩
          · obtain ⟨x1, x2, g1, g2, rfl⟩ := zipD_get hy
            obtain ⟨v1, hv1, rv1⟩ := k2.get g1
            obtain ⟨v2, hv2, rv2⟩ := k4.get g2
            refine ⟨⟨ws1, ws2, v1, v2, k1, k3, hv1, hv2⟩, fun y2 H2 yy => ?_⟩
            obtain ⟨T, u1, u2, rfl, hT, rfl, j1, j2⟩ := yy
            have e3 := j1 ws1 k1
            have e4 := j2 ws2 k3
            rw [hv1] at e3
            rw [hv2] at e4
            cases e3
            cases e4
            have l : Ext F' H' M' F' (upd H' T (.tup [v1, v2])) M' := Ext.laid hT fun _ z => z
            refine ⟨F', l, m.aside hT _, ?_⟩
            unfold Rp
            exact ⟨T, _, rfl, .inl upd_same, .cons (Rp.mono l _ _ rv1) (.cons (Rp.mono l _ _ rv2) .nil)⟩
          · have hl' : (zipD sd.items se.items).length ≤ i := hl
            rw [zipD_len] at hl'
            rw [k2.length, k4.length]
            omega
end
end DL

/-! DLE: == of plain deep values -/
namespace DL
open PySem PySem.Spec L2
mutual
def toP : D → PyData
  | .non => .none
  | .bl b => .bool b
  | .int i => .int i
  | .str x => .str x
  | .tup xs => .tuple (toPs xs)
  | .lst xs => .list (toPs xs)
  | .scr _ => .none
  | .ty _ => .none
  | .ref _ => .none
  | .obj _ _ => .none
  | .xo _ _ _ => .none
def toPs : List D → List PyData
  | [] => []
  | x :: xs => toP x :: toPs xs
end
/-- plain, to a depth -/
def plainN : Nat → D → Bool
  | _, .non => true
  | _, .bl _ => true
  | _, .int _ => true
  | _, .str x => PyData.strOk x
  | n + 1, .tup xs => xs.all (plainN n)
  | n + 1, .lst xs => xs.all (plainN n)
  | _, _ => false
theorem vws_toP {M : Mem} : ∀ {ds : List D}, (∀ d ∈ ds, Vw M d (toP d)) → Vws M ds (toPs ds)
  | [], _ => by unfold toPs; exact .nil
  | d :: ds, h => by
    unfold toPs
    exact .cons (h d (by simp)) (vws_toP fun x hx => h x (List.mem_cons_of_mem _ hx))
theorem vw_toP {M : Mem} : ∀ (n : Nat) {d : D}, plainN n d = true → Vw M d (toP d)
  | n, .non, _ => by unfold toP; exact .non
  | n, .bl b, _ => by unfold toP; exact .bl b
  | n, .int b, _ => by unfold toP; exact .int b
  | n, .str b, _ => by unfold toP; exact .str b
  | n + 1, .tup xs, h => by
    unfold toP
    have h' : ∀ d ∈ xs, plainN n d = true := List.all_eq_true.mp h
    exact .tup (vws_toP fun d hd => vw_toP n (h' d hd))
  | n + 1, .lst xs, h => by
    unfold toP
    have h' : ∀ d ∈ xs, plainN n d = true := List.all_eq_true.mp h
    exact .lst (vws_toP fun d hd => vw_toP n (h' d hd))
  | 0, .tup _, h => by simp [plainN] at h
  | 0, .lst _, h => by simp [plainN] at h
  | n, .scr _, h => by cases n <;> simp [plainN] at h
  | n, .ty _, h => by cases n <;> simp [plainN] at h
  | n, .ref _, h => by cases n <;> simp [plainN] at h
  | n, .obj _ _, h => by cases n <;> simp [plainN] at h
  | n, .xo _ _ _, h => by cases n <;> simp [plainN] at h
theorem lays_toP {n : Nat} : ∀ {ds : List D}, (∀ d ∈ ds, (toP d).canLay0 = true ∧ (toP d).depth ≤ n) → PyData.canLayAll0 (toPs ds) = true ∧ PyData.depthAll (toPs ds) ≤ n
  | [], _ => by unfold toPs; simp [PyData.canLayAll0, PyData.depthAll]
  | d :: ds, h => by
    have ih := lays_toP (n := n) (ds := ds) fun x hx => h x (List.mem_cons_of_mem _ hx)
    have h1 := h d (by simp)
    unfold toPs
    simp only [PyData.canLayAll0, PyData.depthAll, h1.1, ih.1, Bool.and_self, true_and]
    have a := h1.2
    have b := ih.2
    omega
theorem lay_toP : ∀ (n : Nat) {d : D}, plainN n d = true → (toP d).canLay0 = true ∧ (toP d).depth ≤ n
  | n, .non, _ => by unfold toP; simp [PyData.canLay0, PyData.depth]
  | n, .bl b, _ => by unfold toP; simp [PyData.canLay0, PyData.depth]
  | n, .int b, _ => by unfold toP; simp [PyData.canLay0, PyData.depth]
  | n, .str b, h => by unfold plainN at h; unfold toP; simp [PyData.canLay0, PyData.depth, h]
  | n + 1, .tup xs, h => by
    unfold toP
    have h' : ∀ d ∈ xs, plainN n d = true := List.all_eq_true.mp h
    have q := lays_toP (n := n) fun d hd => lay_toP n (h' d hd)
    simp only [PyData.canLay0, PyData.depth, q.1, true_and]
    have := q.2
    omega
  | n + 1, .lst xs, h => by
    unfold toP
    have h' : ∀ d ∈ xs, plainN n d = true := List.all_eq_true.mp h
    have q := lays_toP (n := n) fun d hd => lay_toP n (h' d hd)
    simp only [PyData.canLay0, PyData.depth, q.1, true_and]
    have := q.2
    omega
  | 0, .tup _, h => by simp [plainN] at h
  | 0, .lst _, h => by simp [plainN] at h
  | n, .scr _, h => by cases n <;> simp [plainN] at h
  | n, .ty _, h => by cases n <;> simp [plainN] at h
  | n, .ref _, h => by cases n <;> simp [plainN] at h
  | n, .obj _ _, h => by cases n <;> simp [plainN] at h
  | n, .xo _ _ _, h => by cases n <;> simp [plainN] at h
theorem shaped_toP {n : Nat} {d : D} (h : plainN n d = true) (hn : n ≤ 64) : SeqAt.shaped (toP d) = true := by
  have := lay_toP n h
  unfold SeqAt.shaped
  rw [this.1]
  simp
  omega
section
variable {M : Mem} {Q : DVK} {f : Bool → Bool}
/-- two views of the same data are equal -/
theorem eq_view {x y : D} {p : PyData} (hx : Vw M x p) (hy : Vw M y p) (hs : SeqAt.shaped p = true) (q : Q (.bl (f true)) M) : dEqG f x y M Q := by
  unfold dEqG
  have e := SeqAt.eqv_refl p (SeqAt.canLay_of_shaped hs)
  cases hx <;> cases hy <;> first
    | exact ⟨_, _, by assumption, by assumption, hs, hs, by rw [e]; exact q⟩
    | (simp only [eqS, decide_true]; exact q)
    | exact ⟨_, _, .tup (by assumption), .tup (by assumption), hs, hs, by rw [e]; exact q⟩
    | exact ⟨_, _, .lst (by assumption), .lst (by assumption), hs, hs, by rw [e]; exact q⟩
    | exact ⟨_, _, .ref (by assumption) (by assumption), .lst (by assumption), hs, hs, by rw [e]; exact q⟩
    | exact ⟨_, _, .lst (by assumption), .ref (by assumption) (by assumption), hs, hs, by rw [e]; exact q⟩
    | exact ⟨_, _, .ref (by assumption) (by assumption), .ref (by assumption) (by assumption), hs, hs, by rw [e]; exact q⟩
/-- equal values -/
theorem eq_self {x y : D} (e : x = y) (h : plainN 9 y = true) (q : Q (.bl (f true)) M) : dEqG f x y M Q := by
  subst e
  exact eq_view (vw_toP 9 h) (vw_toP 9 h) (shaped_toP h (by decide)) q
/-- a list of the store, or a frozen one -/
theorem vw_lst {d : D} {xs : List D} {n : Nat} (h : LstD M d xs) (hp : plainN (n + 1) (.lst xs) = true) : Vw M d (toP (.lst xs)) := by
  rcases h with rfl | ⟨a, rfl, h⟩
  · exact vw_toP _ hp
  · have h' : ∀ d ∈ xs, plainN n d = true := List.all_eq_true.mp hp
    unfold toP
    exact .ref h (vws_toP fun d hd => vw_toP n (h' d hd))
theorem eq_lists {x y : D} {xs ys : List D} (hx : LstD M x xs) (hy : LstD M y ys) (e : xs = ys) (hp : plainN 9 (.lst ys) = true) (q : Q (.bl (f true)) M) : dEqG f x y M Q := by
  subst e
  exact eq_view (vw_lst hx hp) (vw_lst hy hp) (shaped_toP hp (by decide)) q
/-- ==, of two tuples of ints -/
theorem eq_tupI (a b : List Int) (q : Q (.bl (f (decide (a = b)))) M) : dEqG f (.tup (a.map D.int)) (.tup (b.map D.int)) M Q := by
  refine eq_datD (α := PySem.W.Tup Int) ⟨a⟩ ⟨b⟩ ?_
  have e2 : ((⟨a⟩ : PySem.W.Tup Int) = ⟨b⟩) ↔ a = b := by
    constructor
    · intro h; exact congrArg PySem.W.Tup.items h
    · intro h; rw [h]
  rw [decide_eq_decide.mpr e2]
  exact q
theorem eq_lstI {x y : D} (a b : List Int) (hx : LstD M x (a.map D.int)) (hy : LstD M y (b.map D.int)) (q : Q (.bl (f (decide (a = b)))) M) (hs : eqS x y = none := by rfl) : dEqG f x y M Q :=
  eq_dat (α := List Int) a b (vw_row hx) (vw_row hy) q hs
end
section
variable {α : Type} [DecidableEq α] [DatD α] {M : Mem} {Q : DVK}
theorem onC_ref {p : Addr} {xs : List D} {k : Addr → List D → Prop} (h : M p = some (.lst xs)) (q : k p xs) : onC M (.ref p) k := ⟨xs, h, q⟩
theorem remove_dat {p : Addr} {y : D} (a : α) (xs : List α) (h : a ∈ xs) (hp : M p = some (.lst (xs.map DatD.d))) (hy : Vw M y (PySem.W.Datum.toD a)) (q : Q .non (mset M p (.lst ((xs.erase a).map DatD.d)))) (hd : PySem.W.Datum.depth (List α) ≤ 64 := by decide) (hd1 : PySem.W.Datum.depth α ≤ 64 := by decide) : dRemove (.ref p) [y] M Q := by
  obtain ⟨l, r, e, hl⟩ := List.eq_append_cons_of_mem h
  unfold dRemove
  dsimp only
  refine onC_ref hp ⟨_, xs.map PySem.W.Datum.toD, l.length, PySem.W.Datum.toD a, hy, vws_map M xs, shaped_d (α := List α) xs hd, shaped_d a hd1, ?_, ?_, fun m z' hm hz => ?_, ?_⟩
  · rw [e, List.getElem?_map, List.getElem?_append_right (Nat.le_refl _)]
    simp
  · rw [PySem.W.Datum.eqv]; simp
  · rw [e, List.getElem?_map, List.getElem?_append_left hm, List.getElem?_eq_getElem hm] at hz
    cases hz
    rw [PySem.W.Datum.eqv]
    have : l[m] ≠ a := fun z => hl (by rw [← z]; exact List.getElem_mem hm)
    simpa using this
  · have e2 : (xs.map DatD.d).eraseIdx l.length = (xs.erase a).map DatD.d := by
      rw [e, List.erase_append_right _ hl, List.erase_cons_head, List.map_append, List.map_append, List.eraseIdx_append_of_length_le (by simp)]
      simp
    rw [e2]
    exact q
end
theorem plainN_ints {n : Nat} : ∀ ns : List Int, (ns.map D.int).all (plainN n) = true
  | [] => rfl
  | a :: ns => by
    rw [List.map_cons, List.all_cons, plainN_ints ns]
    cases n <;> rfl
theorem plainN_bls {n : Nat} : ∀ ns : List Bool, (ns.map D.bl).all (plainN n) = true
  | [] => rfl
  | a :: ns => by
    rw [List.map_cons, List.all_cons, plainN_bls ns]
    cases n <;> rfl
theorem plainN_map {α : Type} {n : Nat} {v : α → D} (h : ∀ a, plainN n (v a) = true) : ∀ ns : List α, (ns.map v).all (plainN n) = true
  | [] => rfl
  | a :: ns => by
    rw [List.map_cons, List.all_cons, plainN_map h ns, h a]
    rfl
end DL

/-! DLF: all, any of a list of bools; defs with *args, called with plain arguments -/
namespace DL
open PySem PySem.Spec PyProof.Rows L2
section
variable {K : PySem.W.Frag} {X : Cx}
theorem Rps.bls {F : Addr → Prop} {H : Hp} : ∀ {bs : List Bool} {vs : List V}, Rps K F H (bs.map D.bl) vs → vs = bs.map V.bl
  | [], vs, h => by
    unfold Rps at h
    exact h
  | n :: ns, vs, h => by
    rw [List.map_cons] at h
    unfold Rps at h
    obtain ⟨v, r, rfl, h1, h2⟩ := h
    unfold Rp at h1
    subst h1
    rw [Rps.bls h2, List.map_cons]
def dAll : DRs := fun ds M Q => match ds with
  | [x] => onL M x fun xs => ∃ bs : List Bool, xs = bs.map D.bl ∧ Q (.bl (bs.all id)) M
  | _ => False
theorem cd_all (hK : X.K = K) (hc : X.calm = true) : CallD K X (.builtin "all") dAll := by
  subst hK
  refine CallR.imp (cr_all hc) fun xs H Q ⟨F, M, ds, Q', m, r, q, h⟩ => ?_
  match ds, h with
  | [d], h =>
    obtain ⟨v, rfl, rv⟩ := r.one
    obtain ⟨es, a, vs, _, ⟨bs, rfl, h⟩, rfl, k, rr⟩ := onL_at m rv h
    have z := Rps.bls rr
    subst z
    exact ⟨a, bs, rfl, SqL.of k, q F H M _ _ (Ext.refl _ _ _) m Rp.bl h⟩
def dAny : DRs := fun ds M Q => match ds with
  | [x] => onL M x fun xs => ∃ bs : List Bool, xs = bs.map D.bl ∧ Q (.bl (bs.any id)) M
  | _ => False
theorem cd_any (hK : X.K = K) (hc : X.calm = true) : CallD K X (.builtin "any") dAny := by
  subst hK
  refine CallR.imp (cr_any hc) fun xs H Q ⟨F, M, ds, Q', m, r, q, h⟩ => ?_
  match ds, h with
  | [d], h =>
    obtain ⟨v, rfl, rv⟩ := r.one
    obtain ⟨es, a, vs, _, ⟨bs, rfl, h⟩, rfl, k, rr⟩ := onL_at m rv h
    have z := Rps.bls rr
    subst z
    exact ⟨a, bs, rfl, SqL.of k, q F H M _ _ (Ext.refl _ _ _) m Rp.bl h⟩
end
/-! ### def f(a, .., *v) -/
/-- n arguments and the rest as a tuple -/
def spV (n : Nat) (sp : SpD) : SpD := fun ds M Q E => n ≤ ds.length ∧ ds.length ≤ sizeLine ∧ sp (ds.take n ++ [.tup (ds.drop n)]) M Q E
abbrev FnV (P : Program) (w : World) (K : PySem.W.Frag) (mg : Str → Option Value) (base : Heap) (k : Nat) (f : Addr) (n : Nat) (sp : SpD) : Prop := FnR P w K mg base (L2.CX P w) k f (liftSp K (spV n sp))
def OkV (P : Program) (w : World) (K : PySem.W.Frag) (mg : Str → Option Value) (base : Heap) (k : Nat) (x : Str) (n : Nat) (sp : SpD) : Prop :=
  FnV P w K mg base k (He.ga K x) n sp ∧ PySem.W.keepIn K (.ref (He.ga K x)) = true ∧ mg x = some (.ref (He.ga K x))
section
variable {K : PySem.W.Frag} {X : Cx} {W : WX} {e : Expr} {pos : Pos}
theorem fe_callV {k n : Nat} {sp : SpD} {x : Str} {p : Pos} {es : List Expr} {g : DA} (C : OkV X.prog X.w K X.mg X.base k x n sp) (hr : Room k X.A) (tk : Takes X W) (ha : FA K X W (e :: es) g)
    (hK : X.K = K := by rfl) (hg : Gl X x := by rfl) (hdb : (x == ("__debug__" : Str)) = false := by decide) (he : starEach (e :: es) X.env = (false, eval e X.env) :: starEach es X.env := by rfl) (hpl : (backTo pos (starEach es X.env)).any (·.1) = false := by rfl) :
    FE K X W (.Call (.Name x p) (e :: es) [] pos) (gCall (spV n sp) g) := by
  subst hK
  obtain ⟨F, kp, m⟩ := C
  have P1 : PE X (.Call (.Name x p) (e :: es) [] pos) (tCallS (liftSp X.K (spV n sp)) (WE W) (tGa X.K W g)) := by
    refine ⟨fun pins s σ H Q I h => ?_⟩
    refine wpAny_Call_Name_kw (ld_glob I hg m ?_ hdb)
    refine PySem.W.callWith_K (h₀ := X.base) I.ok.mod.kin kp (thn (ha.run pos pins s σ H _ I h) fun us s1 ⟨vs, H1, I1, r, q⟩ => ⟨I1.kIn, ?_⟩) he hpl
    refine wpAny_call (codeAny_mono (F X.A X.stack s1 H1 us vs Q (WE W σ) hr I1.env0 r q) fun r s' hq => ?_)
    cases r with
    | error e => exact passAt tk σ pins H1 s1 e s' I1 hq
    | ok fl =>
      cases fl with
      | ret u => exact I1.after hq
      | next => exact False.elim hq
      | brk => exact False.elim hq
      | cont => exact False.elim hq
  exact PE.imp P1 call_im
end
section
variable {P : Program} {w : World} {K : PySem.W.Frag} {mg : Str → Option Value} {base : Heap}
theorem Rps.split {F : Addr → Prop} {H : Hp} {ds : List D} {vs : List V} (h : Rps K F H ds vs) (n : Nat) : Rps K F H (ds.take n) (vs.take n) ∧ Rps K F H (ds.drop n) (vs.drop n) := ⟨h.take n, h.drop n⟩
/-- THE RULE for such a def -/
theorem dl_defV {x qual pv : Str} {st : Stmt} {f : Addr} {fd : FuncData} {N ps : List Str} {k : Nat} {sp : SpD} (Fn : Fun K x qual st f fd) (S : FnScope N (ps ++ [pv]) (defScope st)) (len : ∀ ds M Q E, sp ds M Q E → ds.length = (ps ++ [pv]).length) (g : DS)
    (hN : (ps ++ [pv]).length ≤ N.length)
    (hb : ∀ (kV doc pm : Value) (an : Option Addr) (cdv ct : Value) (us rest : List Value), us.length = ps.length → bindArgs (PySem.W.fnOf x qual (defArgs st) (defBody st) (defScope st) .none kV doc pm an cdv ct) ⟨us ++ rest, []⟩ = (newTuple rest >>= fun t => pure (ps.zip us ++ [(pv, t)])))
    (hw : ∀ (cdv : Value) (A : Around) (outer : List Env) (s : Shared) (H : Hp) (E : XK), Room k (A.deeper (envOfC qual (defScope st) s.heap.objs.size f cdv)) → FSs K (cxOf (L2.CX P w) P w K mg base N qual (defScope st) f cdv A outer s H E) (fun cls d _ H => E cls d H) (defBody st) g)
    (hg : ∀ ds M Q E, sp ds M Q E → g { nx := fun _ M => Q .non M, rt := Q, ex := fun x _ M => E x M } (startD N.length ds) M) : FnV P w K mg base (k + 1) f ps.length sp := by
  obtain ⟨oc, od, kV, doc, pm, an, cdv, ct, osl, rfl, lk, hcd⟩ := Fn.ex
  refine FnR.imp (StX.fn_star (sp := liftSp K sp) lk hcd S StX.cxUp (fun us rest hl => hb kV doc pm an cdv ct us rest hl) (fun A outer s H vs Q E hr h => ⟨_, hw cdv A outer s H E hr, ?_⟩)) fun vs H Q E h => ?_
  · obtain ⟨F, M, ds, Q', E', m, r, q, y, h⟩ := h
    obtain ⟨s1, s2⟩ := startD_ok (N := N) r (by rw [len _ _ _ _ h]; exact hN)
    refine tGs_mk (E' := { nx := fun _ M => Q' .non M, rt := Q', ex := fun x _ M => E' x M }) ⟨s1, m, s2⟩ ⟨fun F' H' ρ' M' σ' e' s' h' => q F' H' M' .non .non e' s'.mem Rp.non h', q, fun _ _ _ _ _ _ _ z => z.elim, fun _ _ _ _ _ _ _ z => z.elim, fun F' H' ρ' M' σ' x cls d e' s' r' h' => y F' H' M' x cls d e' s'.mem r' h'⟩ (hg ds M Q' E' h)
  · obtain ⟨F, M, ds, Q', E', m, r, q, y, h1, h2, h3⟩ := h
    have hl := r.length
    refine ⟨vs.take ps.length, vs.drop ps.length, (List.take_append_drop _ _).symm, by rw [List.length_take]; omega, by rw [List.length_drop]; omega, fun p hp => ?_⟩
    have ex : Ext F H M F (upd H p (.tup (vs.drop ps.length))) M := Ext.laid hp fun _ z => z
    refine ⟨F, M, ds.take ps.length ++ [.tup (ds.drop ps.length)], Q', E', m.aside hp _, ?_, q.next ex, fun F' H' M' x cls d e' m' r' z => y F' H' M' x cls d (ex.trans e') m' r' z, h3⟩
    refine Rps.append (Rps.mono ex.toExtW _ _ (r.take _)) (Rps.cons ?_ Rps.nil)
    unfold Rp
    exact ⟨p, _, rfl, .inl upd_same, Rps.mono ex.toExtW _ _ (r.drop _)⟩
end
end DL

set_option maxHeartbeats 4000000
/-! DLG: tuple * int for any count -/
namespace DL
open PySem PySem.Spec PyProof.Rows L2
theorem tuple_mul1 (l : Addr) (items : Array Value) (n : Nat) (dd : Option Addr) (sl : Array (Option Value)) (u : Tok) :
    Meets (Builtin.«tuple.__mul__» ⟨[.ref l, .int 1 u], []⟩) (fun _ R s => s.heap.get? l = some { cls := .type "tuple", dict := dd, data := .seq items n, slots := sl } ∧ R (.ok (.ret (Value.ref l))) s) :=
  .of_wp fun prog w A R s h => by
    obtain ⟨hp, g, d, tk, os⟩ := s
    obtain ⟨hl, h⟩ := h
    have f1 := AutoSeq1.idx_int
    have c1 : (items.isEmpty || (1 : Int) == 1) = true := by simp
    wp_walk using wpAny_loadPart' hl
    repeat (first
      | (refine wpAny_ite_false (decide_eq_false (by decide)) ?_; wp_walk using wpAny_loadPart' hl)
      | (refine wpAny_ite_true (decide_eq_true c1) ?_; wp_walk using wpAny_loadPart' hl)
      | (refine wpAny_ite_true (decide_eq_true rfl) ?_; wp_walk using wpAny_loadPart' hl))
    exact ⟨_, rfl, h⟩
theorem tuple_mul0 (l : Addr) (items : Array Value) (n : Nat) (dd : Option Addr) (sl : Array (Option Value)) (x : Int) (u : Tok) (c0 : (decide (x < -(2 ^ 63)) || decide (x ≥ 2 ^ 63)) = false) (c1 : (items.isEmpty || x == 1) = false) (c2 : (decide (x ≤ 0) || items.isEmpty) = true) :
    Meets (Builtin.«tuple.__mul__» ⟨[.ref l, .int x u], []⟩) (fun _ R s => s.heap.get? l = some { cls := .type "tuple", dict := dd, data := .seq items n, slots := sl } ∧
      R (.ok (.ret (Value.ref s.heap.objs.size))) { s with heap := s.heap.push { cls := Value.type "tuple", data := Data.seq #[] }, toks := s.toks }) :=
  .of_wp fun prog w A R s h => by
    obtain ⟨hp, g, d, tk, os⟩ := s
    obtain ⟨hl, h⟩ := h
    have f1 := AutoSeq1.idx_int
    wp_walk using wpAny_loadPart' hl
    repeat (first
      | (refine wpAny_ite_false (decide_eq_false (by rw [c0]; exact Bool.false_ne_true)) ?_; wp_walk using wpAny_loadPart' hl)
      | (refine wpAny_ite_false (decide_eq_false (by rw [c1]; exact Bool.false_ne_true)) ?_; wp_walk using wpAny_loadPart' hl)
      | (refine wpAny_ite_true (decide_eq_true c2) ?_; wp_walk using wpAny_loadPart' hl))
    exact ⟨_, rfl, h⟩
section
variable {X : Cx}
def rRepT0 (K : PySem.W.Frag) : R2 := fun x y H Q => ∃ l k xs, x = .ref l ∧ y = .int k ∧ SqT K H l xs ∧ xs ≠ [] ∧ -(2 ^ 63) ≤ k ∧ k ≤ 0 ∧ ∀ p, H p = none → Q (.ref p) (upd H p (.tup []))
def rRepT1 (K : PySem.W.Frag) : R2 := fun x y H Q => ∃ l xs, x = .ref l ∧ y = .int 1 ∧ SqT K H l xs ∧ Q (.ref l) H
theorem op_repT0 : OpR X (binaryOp .Mult) (rRepT0 X.K) := by
  intro pins s σ H x y v u Q I rx ry h
  obtain ⟨l, k, xs, rfl, rfl, hT, hne, h1, h2, q⟩ := h
  cases rx
  obtain ⟨t, rfl⟩ := ry
  obtain ⟨its, r, ⟨⟨cls, dd, data, sl⟩, ho, hc, n, hd⟩, hs⟩ := I.tuple hT
  simp only at hc hd
  subst hc hd
  have hle : its.length = xs.length := r.length.symm
  have hn : its ≠ [] := fun e => hne (by
    rw [e] at hle
    exact List.eq_nil_of_length_eq_zero hle.symm)
  have hi : its.toArray.isEmpty = false := by
    cases its with
    | nil => exact absurd rfl hn
    | cons a b => rfl
  have c0 : (decide (k < -(2 ^ 63)) || decide (k ≥ 2 ^ 63)) = false := by
    rw [decide_eq_false (by omega), decide_eq_false (by omega)] <;> rfl
  have c1 : (its.toArray.isEmpty || k == 1) = false := by
    rw [hi, Bool.false_or]
    exact beq_eq_false_iff_ne.mpr (by omega)
  have c2 : (decide (k ≤ 0) || its.toArray.isEmpty) = true := by
    rw [decide_eq_true h2]; rfl
  refine wpAny_binaryOp_repeat_ref (T := "tuple") (U := "int") (by decide) ⟨_, ho, rfl⟩ (fun s' => typeIs_int s' k t) noFill_tuple_mul F.fills_int_mul F.slot_int_rmul repeat_tuple F.slot_int_index.lookup
    (call_meets F.slot_int_rmul (typeIs_int s k t) F.entry_int_rmul (F.args_int_rmul_2 _ _) (int_rmul_tuple k t l its.toArray n dd sl)
      ⟨ho, rfl, ⟨_, ho, rfl⟩, call_meets F.slot_tuple_mul ⟨_, ho, rfl⟩ F.entry_tuple_mul (F.args_tuple_mul_2 _ _) (tuple_mul0 l its.toArray n dd sl k t c0 c1 c2) ⟨ho, ?_⟩⟩)
  refine ⟨.ref s.heap.objs.size, _, I.laid (t' := s.toks) (o := .tup []) (fun b ob q => Heap.get?_push_of_some _ q) (Nat.le_refl _) ?_, rfl, q _ (I.hok.fresh (Nat.le_refl _))⟩
  exact ⟨Nat.zero_le _, [], .nil, IsTup.new _ _⟩
theorem op_repT1 : OpR X (binaryOp .Mult) (rRepT1 X.K) := by
  intro pins s σ H x y v u Q I rx ry h
  obtain ⟨l, xs, rfl, rfl, hT, q⟩ := h
  cases rx
  obtain ⟨t, rfl⟩ := ry
  obtain ⟨its, r, ⟨⟨cls, dd, data, sl⟩, ho, hc, n, hd⟩, hs⟩ := I.tuple hT
  simp only at hc hd
  subst hc hd
  refine wpAny_binaryOp_repeat_ref (T := "tuple") (U := "int") (by decide) ⟨_, ho, rfl⟩ (fun s' => typeIs_int s' 1 t) noFill_tuple_mul F.fills_int_mul F.slot_int_rmul repeat_tuple F.slot_int_index.lookup
    (call_meets F.slot_int_rmul (typeIs_int s 1 t) F.entry_int_rmul (F.args_int_rmul_2 _ _) (int_rmul_tuple 1 t l its.toArray n dd sl)
      ⟨ho, rfl, ⟨_, ho, rfl⟩, call_meets F.slot_tuple_mul ⟨_, ho, rfl⟩ F.entry_tuple_mul (F.args_tuple_mul_2 _ _) (tuple_mul1 l its.toArray n dd sl t) ⟨ho, ?_⟩⟩)
  exact ⟨.ref l, H, I, rfl, q⟩
end
section
variable {K : PySem.W.Frag} {X : Cx}
/-- (x, ..) * k -/
def dRepT : DR2 := fun x y M Q => match x, y with
  | .tup xs, .int k => (xs ≠ [] ∧ -(2 ^ 63) ≤ k ∧ k ≤ 1000 ∧ xs.length ≤ 1000) ∧ Q (.tup (List.replicate k.toNat xs).flatten) M
  | _, _ => False
theorem OpR.two {f : Value → Value → Sem Value} {r1 r2 r3 : R2} (h1 : OpR X f r1) (h2 : OpR X f r2) (h3 : OpR X f r3) : OpR X f (fun x y H Q => r1 x y H Q ∨ r2 x y H Q ∨ r3 x y H Q) := by
  intro pins s σ H x y v u Q I rx ry h
  rcases h with h | h | h
  · exact h1 pins s σ H x y v u Q I rx ry h
  · exact h2 pins s σ H x y v u Q I rx ry h
  · exact h3 pins s σ H x y v u Q I rx ry h
theorem od_repT (hK : X.K = K) : OpD K X (binaryOp .Mult) dRepT := by
  subst hK
  refine OpR.imp (OpR.two op_repT op_repT0 op_repT1) fun x y H Q ⟨F, M, d, e, Q', m, r1, r2, q, h⟩ => ?_
  match d, e, h with
  | .tup ds, .int k, h =>
    obtain ⟨⟨hne, h1, h2, h3⟩, h⟩ := h
    have hy := r2.int_inv
    unfold Rp at r1
    obtain ⟨a, vs, rfl, t, rr⟩ := r1
    have hl := rr.length
    have hv : vs ≠ [] := fun z => hne (by
      rw [z] at hl
      exact List.eq_nil_of_length_eq_zero hl.symm)
    by_cases c0 : k ≤ 0
    · refine .inr (.inl ⟨a, k, vs, rfl, hy, t.sq, hv, h1, c0, fun p hp => ?_⟩)
      have ex : Ext F H M F (upd H p (.tup [])) M := Ext.laid hp fun _ z => z
      refine q _ _ M _ (.ref p) ex (m.aside hp _) ?_ h
      have e0 : k.toNat = 0 := by omega
      rw [e0]
      unfold Rp
      exact ⟨p, [], rfl, .inl upd_same, Rps.nil⟩
    · by_cases c1 : k = 1
      · subst c1
        refine .inr (.inr ⟨a, vs, rfl, hy, t.sq, ?_⟩)
        refine q _ _ M _ (.ref a) (Ext.refl _ _ _) m ?_ h
        have e0 : (List.replicate (1 : Int).toNat ds).flatten = ds := by
          show ([ds] : List (List D)).flatten = ds
          simp
        rw [e0]
        unfold Rp
        exact ⟨a, vs, rfl, t, rr⟩
      · refine .inl ⟨a, k, vs, rfl, hy, t.sq, hv, by omega, h2, by omega, fun p hp => ?_⟩
        have ex : Ext F H M F (upd H p (.tup (List.replicate k.toNat vs).flatten)) M := Ext.laid hp fun _ z => z
        refine q _ _ M _ (.ref p) ex (m.aside hp _) ?_ h
        unfold Rp
        exact ⟨p, _, rfl, .inl upd_same, Rps.mono ex.toExtW _ _ (rr.rep k.toNat)⟩
end
/-! ### sum of a list or a tuple of ints -/
def rSumT (K : PySem.W.Frag) : List V → Hp → VK → Prop := fun vs H Q => ∃ (a : Addr) (ns : List Int), vs = [V.ref a] ∧ SqT K H a (ns.map V.int) ∧ Q (.int ns.sum) H
theorem cr_sumT {X : Cx} (hc : X.calm = true) : CallR X (.builtin "sum") (rSumT X.K) := by
  intro pins s σ H vs us Q I r h
  obtain ⟨a, ns, rfl, hs, q⟩ := h
  obtain ⟨its, rv, hl, hz⟩ := I.tuple hs
  rw [Vals.ref1 r]
  have hi := ints_of_vals rv
  obtain ⟨xs, e⟩ := hi.allInts.items
  have hn : numsOf (intItems xs).toList = ns := by rw [← e]; exact hi.numsOf
  rw [nums_intItems] at hn
  have hl : s.heap.IsTuple a its.toArray := hl
  rw [e] at hl
  refine PySem.W.ktm_sumG (I.ok.hd hc) hl fun h' tk t' hk => ?_
  rw [preSum_eq, List.take_of_length_le (by simp), hn]
  exact ⟨.int _, H, I.kept hk, ⟨_, rfl⟩, q⟩
def dSumS : DRs := fun ds M Q => match ds with
  | [x] => onS M x fun xs => ∃ ns : List Int, xs = ns.map D.int ∧ Q (.int ns.sum) M
  | _ => False
theorem cd_sumS {K : PySem.W.Frag} {X : Cx} (hK : X.K = K) (hc : X.calm = true) : CallD K X (.builtin "sum") dSumS := by
  subst hK
  refine CallR.imp (show CallR X (.builtin "sum") (fun vs H Q => rSum X.K vs H Q ∨ rSumT X.K vs H Q) from fun pins s σ H vs us Q I r h => h.elim (fun h => cr_sum hc pins s σ H vs us Q I r h) fun h => cr_sumT hc pins s σ H vs us Q I r h) fun xs H Q ⟨F, M, ds, Q', m, r, q, h⟩ => ?_
  match ds, h with
  | [d], h =>
    obtain ⟨v, rfl, rv⟩ := r.one
    have h' : onS M d fun xs => ∃ ns : List Int, xs = ns.map D.int ∧ Q' (.int ns.sum) M := h
    obtain ⟨es, a, vs, ⟨ns, rfl, h⟩, rfl, k, rr⟩ := onS_at m rv h'
    have z := Rp.ints rr
    subst z
    rcases k with k | k
    · exact .inl ⟨a, ns, rfl, k, q F H M _ _ (Ext.refl _ _ _) m Rp.int h⟩
    · exact .inr ⟨a, ns, rfl, k.sq, q F H M _ _ (Ext.refl _ _ _) m Rp.int h⟩
theorem q_sumS {x : D} {M : Mem} {Q : DVK} : dSumS [x] M Q = onS M x fun xs => ∃ ns : List Int, xs = ns.map D.int ∧ Q (.int ns.sum) M := rfl
theorem q_all {x : D} {M : Mem} {Q : DVK} : dAll [x] M Q = onL M x fun xs => ∃ bs : List Bool, xs = bs.map D.bl ∧ Q (.bl (bs.all id)) M := rfl
theorem q_any {x : D} {M : Mem} {Q : DVK} : dAny [x] M Q = onL M x fun xs => ∃ bs : List Bool, xs = bs.map D.bl ∧ Q (.bl (bs.any id)) M := rfl
theorem q_repT {xs : List D} {k : Int} {M : Mem} {Q : DVK} : dRepT (.tup xs) (.int k) M Q = ((xs ≠ [] ∧ -(2 ^ 63) ≤ k ∧ k ≤ 1000 ∧ xs.length ≤ 1000) ∧ Q (.tup (List.replicate k.toNat xs).flatten) M) := rfl
theorem q_spV {n : Nat} {sp : SpD} {ds : List D} {M : Mem} {Q : DVK} {E : DXK} : spV n sp ds M Q E = (n ≤ ds.length ∧ ds.length ≤ sizeLine ∧ sp (ds.take n ++ [.tup (ds.drop n)]) M Q E) := rfl
end DL

set_option maxHeartbeats 2000000
/-! DLI: an exception out of a call in a comprehension's element. -/
namespace DLX
open PySem PySem.Spec PyProof.Rows L2
/-- what the block owes of an exception of one of its calls -/
theorem block_lets {X : Cx} {W : WX} {C : Addr} {ce : Env} {u : Value} {s1 : Shared} (tk : Takes X W) (fr : X.stack = X.env :: X.outer) (fl : X.env.frame = some X.env.locals) (hce : ce.frame = X.env.frame) (hC : ce.locals = C)
    (hfp : ∀ H : Hp, H C = none → FpOk X [] H C) (hx : XE X (fun c d σ H => W c d σ H ∧ H C = none) u s1) (hn : ∃ m, s1.heap.Ns C m) :
    notedBy (model X.prog X.w) X.A ce (CompFails (model X.prog X.w) X.A X.xe ce) u s1 := by
  obtain ⟨a, B, sI, pins, σ, H, cls, d, rfl, I, nb, up, sky, na, os, ag, w, hHC⟩ := hx
  obtain ⟨m, hn⟩ := hn
  have ffr : X.A.frames = some (X.env :: X.outer) := by rw [← fr]; exact I.ok.frames
  show wpAny (model X.prog X.w) X.A (noteFrame (.ref a) ce) _ _ s1
  rw [noteFrame_env _ hce]
  have goal : ∀ h1 : Heap, HandSPX.HeldZ B X.stack a (Zc cls d) X.env.locals h1 → s1.heap.UpToSlots h1 → CompFails (model X.prog X.w) X.A X.xe ce (.ref a) { s1 with heap := h1 } := by
    intro h1 hh up1
    have hn1 : h1.Ns C m := hn.upToSlots up1
    refine ⟨m, by rw [hC]; exact hn1, fun h2 m2 hn2 sb => ?_⟩
    rw [hC] at hn2 sb
    have sb2 : ∀ b, b ≠ C → h2.get? b = h1.get? b := sb.2
    obtain ⟨st1, bn, ff1, oe, vs, T, oT, ts, he, hz, hd, hT1, hnT, hTe, hT, hdT, h3⟩ := hh
    obtain ⟨oC, es, ep, hoC, hdC, _⟩ := id hn1
    have neq : ∀ {b : Addr} {o : Obj} {fs : Array Value}, h1.get? b = some o → o.data = .fields fs → b ≠ C := fun hb hf z => by
      rw [z, hoC] at hb
      cases hb
      rw [hdC] at hf
      cases hf
    have aC := neq he hd
    have TC := neq hT hdT
    obtain ⟨G, g1, g2⟩ := restrict B fun b => decide (b ≠ C)
    obtain ⟨GI, i1, i2⟩ := restrict sI.heap fun b => decide (b ≠ C)
    have gC : G.get? C = none := g2 C (by simp)
    have iC : GI.get? C = none := i2 C (by simp)
    have gB : ∀ b, b ≠ C → G.get? b = B.get? b := fun b hb => g1 b (by simpa using hb)
    have iB : ∀ b, b ≠ C → GI.get? b = sI.heap.get? b := fun b hb => i1 b (by simpa using hb)
    have gne : ∀ {b : Addr} {o : Obj}, G.get? b = some o → b ≠ C ∧ B.get? b = some o := fun {b o} hb => by
      have z : b ≠ C := fun z => by rw [z, gC] at hb; cases hb
      exact ⟨z, by rw [← gB b z]; exact hb⟩
    have ine : ∀ {b : Addr} {o : Obj}, GI.get? b = some o → b ≠ C ∧ sI.heap.get? b = some o := fun {b o} hb => by
      have z : b ≠ C := fun z => by rw [z, iC] at hb; cases hb
      exact ⟨z, by rw [← iB b z]; exact hb⟩
    have ff2 : h2.FunFrames G X.stack := by
      have q : h2.FunFrames B X.stack := Heap.FunFrames.sameBut sb hn2 ff1
      refine funFrames_none q fun L hL => ?_
      cases z : G.get? L with
      | none => rfl
      | some o =>
        have y := (q.mem hL).1
        rw [(gne z).2] at y
        cases y
    have held2 : HandSPX.HeldZ G X.stack a (Zc cls d) X.env.locals h2 := by
      refine ⟨fun b o hb => ?_, by rw [gB a aC]; exact bn, ff2, oe, vs, T, oT, ts, by rw [sb2 a aC]; exact he, hz, hd, hT1, by rw [gB T TC]; exact hnT, hTe, by rw [sb2 T TC]; exact hT, hdT, h3⟩
      obtain ⟨z1, z2⟩ := gne hb
      rw [sb2 b z1]
      exact st1 b o z2
    have he2 : h2.get? a = some oe := by rw [sb2 a aC]; exact he
    unfold PySem.passOn
    refine wpAny_bind (wpAny_field he2 hd hT1 ?_)
    have tb : ¬ ((Value.ref T == Value.none) = true) := by simp
    rw [if_neg tb, hce, fl]
    refine wpAny_bind (HandSPX.setFlight_onZ held2 fun hE k3 up3 => wpAny_throw ?_)
    have I1 : Inv X [] σ H sI := I.pins_of fun p hp => nomatch hp
    obtain ⟨f0, f1, f2, f3, f4, f5⟩ := hfp H hHC
    have I2 : Inv X [] σ H { sI with heap := GI, toks := sI.toks } := I1.turned (t' := sI.toks) (fun b o hb e => (iB b hb).trans e) f0 f1 f3 f4 f5
    refine tk _ _ ⟨a, G, { sI with heap := GI, toks := sI.toks }, [], σ, H, cls, d, rfl, I2, fun b o hb hs => ?_, fun b o hb hnf => ?_, .inr (.inr k3), na, os, ag, w⟩
    · obtain ⟨z1, z2⟩ := ine hb
      rw [gB b z1]
      exact nb b o z2 hs
    · obtain ⟨z1, z2⟩ := ine hb
      obtain ⟨s2, y2⟩ := up b o z2 hnf
      obtain ⟨s3, y3⟩ := up1 b _ y2 hnf
      have y4 : h2.get? b = some { o with slots := s3 } := by rw [sb2 b z1]; exact y3
      have up4 : h2.UpToSlots hE := up3
      obtain ⟨sl, y5⟩ := up4 b _ y4 hnf
      exact ⟨sl, y5⟩
  rcases sky with ⟨k1, k2, k3, oe, vs, k4, k5, k6, k7⟩ | k | k
  · rw [fr] at k3
    exact HandSPX.look_newZ Zc.steady ffr k3 fl k4 k1 k2 k6 k7 k5 fun h1 hh up1 => goal h1 (by rw [fr]; exact hh) up1
  · rw [fr] at k
    exact HandSPX.looks_onZ Zc.steady ffr fl k fun h1 hh up1 => goal h1 (by rw [fr]; exact hh) up1
  · exact HandSPX.againZ fl k.2.2.2 (goal s1.heap k (Heap.UpToSlots.refl _))
theorem ends_err {M : Model} {A : Around} {E : Value → Shared → Prop} {use : Option (Value → Sem Unit)} {Q : Value → Shared → Prop} {acc : Value} {ce : Env} {x : Value} {s : Shared} (h : CompFails M A E ce x s) : compEnds M A E use Q acc ce (.error x) s := by
  cases use <;> exact h
/-- a call in the block's element may let out what W takes -/
abbrev CallsMay (X : Cx) (W : WX) (σ : L2.St) (Y : Cx) : Prop := ∀ σ1 : L2.St, PassesAt (L2.CX X.prog X.w) Y σ1 fun cls d H => W cls d σ H
theorem calls_may {X : Cx} {W : WX} {pins : List (Addr × Obj)} {σ : L2.St} {H0 : Hp} {s0 : Shared} {ce : Env} {scope : Scope} {fp : List Addr} {R : Value → Shared → Prop} (tk : Takes X W) (fr : X.stack = X.env :: X.outer) (fl : X.env.frame = some X.env.locals)
    (hce : ce.frame = X.env.frame) (hC : ce.locals = s0.heap.objs.size) (I0 : Inv X pins σ H0 s0) (hfp : ∀ b ∈ fp, FpOk X pins H0 b)
    (hR : ∀ u s1, notedBy (model X.prog X.w) X.A ce (CompFails (model X.prog X.w) X.A X.xe ce) u s1 → R u s1) : CallsMay X W σ ((X.blk s0 H0 scope ce fp).wish R) := by
  intro σ1 pins1 H1 s1 u s2 I1 c
  have J : Inv X pins σ H1 s1 := I0.call' (ch := fp) I1.os I1.base I1.hok I1.bare fun b hb => by
    obtain ⟨_, k1, _, k3, k4, k5⟩ := hfp b hb
    exact ⟨k3, k1, k4, k5⟩
  have big : s0.heap.objs.size ≤ s0.heap.objs.size := Nat.le_refl _
  have HC : H1 s0.heap.objs.size = none := by
    have z : H1 ce.locals = none := I1.free
    rwa [hC] at z
  obtain ⟨m, hm, _⟩ := I1.loc
  have hm1 : s1.heap.Ns s0.heap.objs.size m := by
    have z : s1.heap.Ns ce.locals m := hm
    rwa [hC] at z
  obtain ⟨oC, es, ep, hoC, hdC⟩ := id hm1
  have I0e : Inv X [] σ H0 s0 := I0.pins_of fun p hp => nomatch hp
  have nost : s0.heap.objs.size ∉ frs X.stack := by
    obtain ⟨_, k1, k2, _⟩ := I0e.fpOk (H' := H1) big HC
    rw [fr]
    intro z
    unfold frs at z
    rw [List.filterMap_cons, fl] at z
    rcases List.mem_cons.mp z with y | y
    · exact k1 y
    · exact k2 y
  obtain ⟨a, B, H2, cls, d, ea, f1, hok, ub, na, os, ag, he⟩ := c
  have inB : B.get? s0.heap.objs.size = some oC := ub.keep _ _ hoC HC nost
  have in2 : s2.heap.get? s0.heap.objs.size = some oC := f1.1 _ _ inB
  have H2C : H2 s0.heap.objs.size = none := ub.free _ _ hoC HC
  have c2 : L2.CX X.prog X.w X.stack H1 s1 (fun cls d H => W cls d σ H ∧ H s0.heap.objs.size = none) u s2 := ⟨a, B, H2, cls, d, ea, f1, hok, ub, na, os, ag, he, H2C⟩
  refine hR _ _ (block_lets tk fr fl hce hC (fun H h => I0e.fpOk big h) (XE.of_call J (fun _ _ _ h => h) c2) ⟨m, ?_⟩)
  exact ⟨oC, es, ep, in2, hdC⟩
section
variable {X : Cx} {W : WX}
theorem lcX_core {pins : List (Addr × Obj)} {s : Shared} {σ : L2.St} {H : Hp} {Q : VK} {elt tg iter : Expr} {ifs : List Expr} {scope : Scope} {own : List (Str × Nat)} {pos pos' : Pos} {wi : TI} {g : TG} {tt : TT} {te : TE} {use : Option (Value → Sem Unit)} {Qf : Value → Shared → Prop}
    (tk : Takes X W) (fr : X.stack = X.env :: X.outer) (fl : X.env.frame = some X.env.locals) (hc : X.calm = true) (hN : X.N.Nodup) (I : Inv X pins σ H s) (hi : PI X tg iter wi) (ok : BlkOk X.N X.env.scope scope own)
    (hg : ∀ (s : Shared) (H : Hp) (C : Addr) (cl : List (Str × Addr)) (fp : List Addr), PG (X.blk s H scope (compEnvC scope cl C X.env) fp) tg g)
    (ht : ∀ (s : Shared) (H : Hp) (C : Addr) (cl : List (Str × Addr)) (fp : List Addr), PTs (X.blk s H scope (compEnvC scope cl C X.env) fp) ifs tt)
    (he : ∀ (s : Shared) (H : Hp) (C : Addr) (cl : List (Str × Addr)) (fp : List Addr) (R : Value → Shared → Prop), CallsMay X W σ ((X.blk s H scope (compEnvC scope cl C X.env) fp).wish R) → PE ((X.blk s H scope (compEnvC scope cl C X.env) fp).wish R) elt te)
    (hs : ∀ x, foldedSetIterable iter X.env x = pure x) (h : tLc wi g tt te (own.map (·.2)) σ H Q)
    (hEnd : ∀ D C ce s' m H', Inv X pins σ H' s' → Q (.ref D) H' → s'.heap.Ns C m → FpOk X pins H' C → ce.locals = C → compEnds (model X.prog X.w) X.A X.xe use Qf (.ref D) ce (.ok .next) s') :
    wpAny (model X.prog X.w) X.A (comprehension (.ListComp elt [⟨tg, iter, ifs, 0⟩] scope pos) scope X.env pos' (newList []) false (eval iter X.env) use) Qf X.xe s := by
  have cells : ∀ y ∈ scope.names, y.2 = .free → ∃ c, X.env.cells.lookup y.1 = some c := fun y hy e => I.ok.has _ (ok.free y hy e)
  refine comprehension_at (use := use) rfl hs (closure_ok cells) ok.kind (fun y hy e => (ok.uniq y hy).trans (by rw [e])) ?_
  refine thn (hi.run pins s σ H _ I h) fun xv s1 hx => thn hx fun itv s2 h2 => ?_
  obtain ⟨it, fp, tn, J, H2, rfl, I2, T, st2, f2, q⟩ := h2
  refine wpAny_newObj_type (newEnv_comp ?_) (by show 0 ≤ sizeLine; exact Nat.zero_le _)
  generalize hD : s2.heap.objs.size = D
  have HD : H2 D = none := I2.hok.fresh (Nat.le_of_eq hD)
  obtain ⟨Wv, ⟨m0, w0⟩, turn⟩ := q D HD
  generalize e3 : ({ s2 with heap := s2.heap.push { cls := .type "list", data := .seq ([] : List Value).toArray } } : Shared) = s3
  have hp3 : s3.heap = s2.heap.push { cls := .type "list", data := .seq ([] : List Value).toArray } := by rw [← e3]
  have I3 : Inv X pins σ (upd H2 D (.lst [])) s3 := by
    subst e3
    refine I2.laid (t' := s2.toks) (fun b o e => Heap.get?_push_of_some _ e) (Nat.le_of_eq hD) ⟨Nat.zero_le _, [], 0, .nil, ?_⟩
    subst hD
    exact Heap.get?_push_size _ rfl
  have small : ∀ b ∈ fp, b < s2.heap.objs.size := fun b hb => by
    obtain ⟨o, e, _⟩ := T.obj _ _ st2 b hb
    exact Heap.lt_size e
  have f3 : ∀ b ∈ fp, FpOk X pins (upd H2 D (.lst [])) b ∧ b < s3.heap.objs.size := fun b hb => by
    have lt := small b hb
    have nD : b ≠ D := by rw [← hD]; exact Nat.ne_of_lt lt
    exact ⟨⟨(upd_ne nD).trans (f2 b hb).1, (f2 b hb).2⟩, by rw [hp3, Heap.size_push]; exact Nat.lt_succ_of_lt lt⟩
  have st3 : tn 0 s3.heap := T.keep _ _ _ st2 fun b _ o e => by rw [hp3]; exact Heap.get?_push_of_some _ e
  have I4 := block_start I3 ok hN f3
  have pg := hg s3 (upd H2 D (.lst [])) s3.heap.objs.size (cellsFrom (s3.heap.objs.size + 1) scope.names (cloFrom X.env.cells scope.names [])) fp
  have pt := ht s3 (upd H2 D (.lst [])) s3.heap.objs.size (cellsFrom (s3.heap.objs.size + 1) scope.names (cloFrom X.env.cells scope.names [])) fp
  have pe0 := he s3 (upd H2 D (.lst [])) s3.heap.objs.size (cellsFrom (s3.heap.objs.size + 1) scope.names (cloFrom X.env.cells scope.names [])) fp
  generalize ece : compEnvC scope (cellsFrom (s3.heap.objs.size + 1) scope.names (cloFrom X.env.cells scope.names [])) s3.heap.objs.size X.env = ce at I4 pg pt pe0
  have cL : ce.locals = s3.heap.objs.size := by subst ece; rfl
  have cF : ce.frame = X.env.frame := by subst ece; rfl
  show codeAny _ _ (.compStart (.ListComp elt [⟨tg, iter, ifs, 0⟩] scope pos) 0 (.ref it) (.ref D) (compEnvC scope (cellsFrom (s3.heap.objs.size + 1) scope.names (cloFrom X.env.cells scope.names [])) s3.heap.objs.size X.env))
    (compEnds (model X.prog X.w) X.A X.xe use Qf (.ref D) (compEnvC scope (cellsFrom (s3.heap.objs.size + 1) scope.names (cloFrom X.env.cells scope.names [])) s3.heap.objs.size X.env)) { s3 with heap := pushCells (s3.heap.push { cls := .type "dict", data := .dict #[] }) scope.names }
  rw [ece]
  have clear : ∀ b ∈ fp, (upd H2 D (.lst [])) b = none := fun b hb => (f3 b hb).1.1
  generalize hH3 : upd H2 D (.lst []) = H3 at I3 I4 pg pt pe0 w0 clear f3
  have pe := pe0 _ (calls_may tk fr fl cF cL I3 (fun b hb => (f3 b hb).1) (R := notedBy (model X.prog X.w) X.A ce fun e s' => compEnds (model X.prog X.w) X.A X.xe use Qf (.ref D) ce (.error e) s') fun u s1 z => wpAny_mono z (fun _ _ y => ends_err y) fun _ _ y => ends_err y)
  generalize e4 : ({ s3 with heap := pushCells (s3.heap.push { cls := .type "dict", data := .dict #[] }) scope.names } : Shared) = s4 at I4 ⊢
  have st4 : tn 0 s4.heap := T.keep _ _ _ st3 fun b _ o e => by subst e4; exact pushCells_keeps _ _ _ _ (Heap.get?_push_of_some _ e)
  have foot : ∀ {σ' : L2.St} {H' : Hp} {s' : Shared}, Inv (X.blk s3 H3 scope ce fp) [] σ' H' s' → (∀ b ∈ fp, H' b = none) → ∀ b ∈ fp, FpOk (X.blk s3 H3 scope ce fp) [] H' b := fun {σ' H' s'} I' hn b hb =>
    ⟨hn b hb, (I'.ok.exf b hb).1, I'.ok.exfs b hb, .inl hb, (I'.ok.exf b hb).2, fun p hp => nomatch hp⟩
  have loop : codeAny (model X.prog X.w) X.A (.compLoop (.ListComp elt [⟨tg, iter, ifs, 0⟩] scope pos) 0 (.ref it) (.ref D) ce) (compEnds (model X.prog X.w) X.A X.xe use Qf (.ref D) ce) s4 := by
    refine compLoop_any (fun n s' => ∃ i H', Inv (X.blk s3 H3 scope ce fp) [] (wipe σ (own.map (·.2))) H' s' ∧ tn i s'.heap ∧ (∀ b ∈ fp, H' b = none) ∧ Wv i n H') ?_ m0 ⟨0, H3, I4, st4, clear, w0⟩
    rintro n s5 ⟨i, H5, I5, st5, n5, w5⟩
    rcases turn i n H5 w5 with ⟨stop, qq⟩ | ⟨go, Nx, hNx, step⟩
    · have td := T.done (X.blk s3 H3 scope ce fp) rfl rfl rfl hc i [] s5 _ H5 (fun _ _ => False) I5 (foot I5 n5) st5 stop
      refine thnF td fun r s6 ⟨hr, I6⟩ => ?_
      subst hr
      have I7 : Inv X pins σ H5 s6 := I3.call' (ch := fp) I6.os I6.base I6.hok I6.bare fun b hb => by
        obtain ⟨_, k1, _, k3, k4, k5⟩ := (f3 b hb).1
        exact ⟨k3, k1, k4, k5⟩
      have nC : H5 s3.heap.objs.size = none := by
        have z : H5 ce.locals = none := I6.free
        rwa [cL] at z
      obtain ⟨m, hm, _⟩ := I6.loc
      have hm : s6.heap.Ns ce.locals m := hm
      rw [cL] at hm
      exact hEnd D _ ce s6 m H5 I7 qq hm (I3.fpOk (Nat.le_refl _) nC) cL
    · have ti := T.item (X.blk s3 H3 scope ce fp) rfl rfl rfl hc i [] s5 _ H5 (fun _ _ => False) I5 (foot I5 n5) st5 go
      refine thnF ti fun r s6 ⟨u, hr, h6⟩ => ?_
      subst hr
      refine thnF h6 fun _ s7 ⟨x, H7, I7, r7, y7, st7, n7⟩ => ?_
      have I7' := I7.pinned (foot I7 n7) (T.obj _ _ st7)
      refine thnF (pg.run _ s7 _ H7 x u _ I7' r7 (step x H7 y7)) fun _ s8 ⟨σ8, H8, I8, hw8, q8⟩ => ?_
      refine thnF (pt.run _ s8 σ8 H8 _ I8 q8) fun b s9 ⟨H9, I9, q9⟩ => ?_
      have fin : ∀ {s' : Shared} {H' : Hp}, Inv (X.blk s3 H3 scope ce fp) ([] ++ pinsAt fp s7.heap) σ8 H' s' → Nx H' → ∃ m, m < n ∧ ∃ i H', Inv (X.blk s3 H3 scope ce fp) [] (wipe σ (own.map (·.2))) H' s' ∧ tn i s'.heap ∧ (∀ b ∈ fp, H' b = none) ∧ Wv i m H' := fun {s' H'} I' nx => by
        obtain ⟨m', hm, w'⟩ := hNx H' nx
        have held : ∀ b ∈ fp, ∀ o, s7.heap.get? b = some o → s'.heap.get? b = some o ∧ H' b = none := fun b hb o e => by
          have z := I'.pin (b, o) (List.mem_append_right _ (List.mem_append_right _ (mem_pinsAt hb e)))
          exact ⟨z.1, z.2.1⟩
        have len8 : (wipe σ (own.map (·.2))).length = σ8.length := by rw [← hw8]; exact wipe_length _ _
        refine ⟨m', hm, i + 1, H', (I'.unpinned (pins := [])).weak len8 (fun j v e => by rw [← hw8] at e; exact (wipe_some e).1), T.keep _ _ _ st7 fun b hb o e => (held b hb o e).1, fun b hb => ?_, w'⟩
        obtain ⟨o, e, _⟩ := T.obj _ _ st7 b hb
        exact (held b hb o e).2
      cases b with
      | false =>
        simp only [Bool.false_eq_true, if_false] at q9 ⊢
        exact fin I9 q9
      | true =>
        simp only [if_true] at q9 ⊢
        refine wpAny_mono (pe.run _ s9 σ8 H9 _ (I9.wish _) q9) (fun z s10 hz => ?_) fun _ _ hz => hz
        obtain ⟨yv, H10, I10, r10, acc, hD10, hz10, nx⟩ := hz
        exact app_ok (X := X.blk s3 H3 scope ce fp) I10.unwish hD10 hz10 r10 fun s11 I11 => fin I11 nx
  exact codeAny_compStart_list loop (T.self X.A 0 _ _ _ st4 loop)
end
section
variable {X : Cx} {W : WX} {elt tg iter : Expr} {ifs : List Expr} {scope : Scope} {own : List (Str × Nat)} {pos spos py : Pos} {wi : TI} {g : TG} {tt : TT} {te : L2.St → TE}
/-- the comprehension as a value; its element's calls may raise -/
theorem pe_lcX (tk : Takes X W) (fr : X.stack = X.env :: X.outer) (fl : X.env.frame = some X.env.locals) (hc : X.calm = true) (hN : X.N.Nodup) (hi : PI X tg iter wi) (ok : BlkOk X.N X.env.scope scope own)
    (hg : ∀ (s : Shared) (H : Hp) (C : Addr) (cl : List (Str × Addr)) (fp : List Addr), PG (X.blk s H scope (compEnvC scope cl C X.env) fp) tg g)
    (ht : ∀ (s : Shared) (H : Hp) (C : Addr) (cl : List (Str × Addr)) (fp : List Addr), PTs (X.blk s H scope (compEnvC scope cl C X.env) fp) ifs tt)
    (he : ∀ (σ : L2.St) (s : Shared) (H : Hp) (C : Addr) (cl : List (Str × Addr)) (fp : List Addr) (R : Value → Shared → Prop), CallsMay X W σ ((X.blk s H scope (compEnvC scope cl C X.env) fp).wish R) → PE ((X.blk s H scope (compEnvC scope cl C X.env) fp).wish R) elt (te σ))
    (hs : ∀ x, foldedSetIterable iter X.env x = pure x) : PE X (.ListComp elt [⟨tg, iter, ifs, 0⟩] scope pos) (fun σ => tLc wi g tt (te σ) (own.map (·.2)) σ) := by
  refine ⟨fun pins s σ H Q I hq => ?_⟩
  rw [eval_ListComp]
  refine lcX_core tk fr fl hc hN I hi ok hg ht (he σ) hs hq fun D C ce s2 m H2 I2 q hn ff hC => ?_
  subst hC
  obtain ⟨g0, g1, g2, g3, g4, g5⟩ := ff
  exact ⟨m, hn, fun h3 sb => ⟨.ref D, H2, I2.turned (t' := s2.toks) (fun b o hb e => (sb.2 b hb).trans e) g0 g1 g3 g4 g5, rfl, q⟩⟩
/-- y = the comprehension -/
theorem ps_setLcX {i : Nat} {y : Str} (tk : Takes X W) (fr : X.stack = X.env :: X.outer) (fl : X.env.frame = some X.env.locals) (hc : X.calm = true) (hN : X.N.Nodup) (hy : X.N[i]? = some y) (hyl : X.env.scope.names.lookup y = some .local)
    (hsw : swapsWith (.ListComp elt [⟨tg, iter, ifs, 0⟩] scope pos) (some (.Name y py)) spos.line X.env = pure true) (hi : PI X tg iter wi) (ok : BlkOk X.N X.env.scope scope own)
    (hg : ∀ (s : Shared) (H : Hp) (C : Addr) (cl : List (Str × Addr)) (fp : List Addr), PG (X.blk s H scope (compEnvC scope cl C X.env) fp) tg g)
    (ht : ∀ (s : Shared) (H : Hp) (C : Addr) (cl : List (Str × Addr)) (fp : List Addr), PTs (X.blk s H scope (compEnvC scope cl C X.env) fp) ifs tt)
    (he : ∀ (σ : L2.St) (s : Shared) (H : Hp) (C : Addr) (cl : List (Str × Addr)) (fp : List Addr) (R : Value → Shared → Prop), CallsMay X W σ ((X.blk s H scope (compEnvC scope cl C X.env) fp).wish R) → PE ((X.blk s H scope (compEnvC scope cl C X.env) fp).wish R) elt (te σ))
    (hs : ∀ x, foldedSetIterable iter X.env x = pure x) : PS X (.Assign [.Name y py] (.ListComp elt [⟨tg, iter, ifs, 0⟩] scope pos) spos) (tAsg (fun σ => tLc wi g tt (te σ) (own.map (·.2)) σ) (gName i)) := by
  refine ⟨fun pins s σ H D I hq => ?_⟩
  rw [exec_Assign_Name_used _ _ _ _ hsw]
  refine wpAny_bind (wpAny_standAt (wpAny_bind ?_))
  show wpAny (model X.prog X.w) X.A (comprehension (.ListComp elt [⟨tg, iter, ifs, 0⟩] scope pos) scope X.env (firstIterPos [⟨tg, iter, ifs, 0⟩] pos) (newList []) false (eval iter X.env) (some (assign (.Name y py) X.env)) >>= fun _ => _) _ _ s
  have hq : tLc wi g tt (te σ) (own.map (·.2)) σ H (fun x H1 => gName i x σ H1 D.nx) := hq
  refine wpAny_bind (thn (lcX_core (Qf := fun _ s2 => SP X pins D .next s2) tk fr fl hc hN I hi ok hg ht (he σ) hs hq fun L C ce s2 m H2 I2 q hn ff hC => ?_) fun _ s2 h2 => wpAny_pure (wpAny_pure h2))
  subst hC
  show wpAny _ _ (assign (.Name y py) X.env (.ref L)) _ _ _
  refine wpAny_assign_Name (store_ok2 (v := V.ref L) I2 hN hy (.inl hyl) rfl (fun s3 I3 ⟨a, sb, ha⟩ => ?_) (.inr hyl))
  obtain ⟨g0, g1, g2, g3, g4, g5⟩ := ff
  have na : ce.locals ≠ a := by
    rcases ha with z | z
    · rw [z]; exact g1
    · exact fun e => g4 y a z e.symm
  exact ⟨m, hn.sameBut sb na, fun h4 sb4 => ⟨_, H2, I3.turned (t' := s3.toks) (fun b o hb e => (sb4.2 b hb).trans e) g0 g1 g3 g4 g5, q⟩⟩
end
end DLX
namespace DL
open PySem PySem.Spec L2 DLX
section
variable {K : PySem.W.Frag} {X : Cx} {W : WX} {F : Addr → Prop} {H : Hp} {ρ : Dv} {M : Mem} {σ : L2.St}
/-- what W takes, whatever the block's own names hold -/
abbrev Wb (W : WX) (σ : L2.St) : WX := fun cls d _ H => W cls d σ H
def nLcX (gi : DI) (dg : DG) (tt : DT) (te : DE) (vs : List Nat) : DN := fun E ρ M Q => gi E ρ M fun src M1 => lcD src.ok dg tt (fun _ => te E) (wipeD ρ vs) src.items [] M1 Q
theorem lc_loopX {J : It} {src : Src} {vs ws : List Nat} {dg : DG} {tt : DT} {te : DE} {F1 : Addr → Prop} {H1 Hs : Hp} {M1 Ms : Mem} {Fs : Addr → Prop} {p : Addr} {ρw : Dv} {σw : L2.St} {acc0 : List D} {Q' : List D → Mem → Prop} {Qe : Hp → Prop} {E : DXK} {V : WX}
    (hx : ∀ F' H' M' σ', Ext F1 H1 M1 F' H' M' → XOk K F' H' M' E V σ') (so : SrcOk K Fs Hs J src) (hs : ∀ i ∈ vs, i ∈ ws) (hw : L2.wipe σw ws = σw) (hp : H1 p = none) (es : Ext F1 H1 M1 Fs Hs Ms) (env : EnvOk K Fs Hs ρw σw) (hl : ρw.length = σw.length) (sd : Side K Fs Hs Ms p acc0)
    (q : ∀ F' H' M' acc, Ext F1 H1 M1 F' H' M' → ExtW Fs Hs F' H' → Side K F' H' M' p acc → Q' acc M' → Qe H') (h : lcD src.ok dg tt (fun _ => te E) ρw src.items acc0 Ms Q') :
    ∃ Wv : Nat → Nat → Hp → Prop, (∃ m, Wv 0 m Hs) ∧ ∀ i m H, Wv i m H → (J.stop i H ∧ Qe H) ∨ (J.go i H ∧ ∃ Nx : Hp → Prop, (∀ H', Nx H' → ∃ m', m' < m ∧ Wv (i + 1) m' H') ∧
      ∀ x H', J.yld i H x H' → gG K vs dg x σw H' fun σ2 H2 => L2.wipe σ2 ws = σw ∧ tGt K W0 tt σ2 H2 fun b H3 =>
        if b = true then tG K V te σ2 H3 fun y H4 => ∃ acc, H4 p = some (.lst acc) ∧ acc.length < sizeLine ∧ Nx (upd H4 p (.lst (acc ++ [y]))) else Nx H3) := by
  refine ⟨fun i m H2 => ∃ F2 M2 acc, Ext F1 H1 M1 F2 H2 M2 ∧ ExtW Fs Hs F2 H2 ∧ Side K F2 H2 M2 p acc ∧ i ≤ src.items.length ∧ m = src.items.length - i ∧ lcD src.ok dg tt (fun _ => te E) ρw (src.items.drop i) acc M2 Q', ⟨src.items.length, Fs, Ms, acc0, es, ExtW.refl _ _, sd, Nat.zero_le _, rfl, h⟩, ?_⟩
  rintro i m H2 ⟨F2, M2, acc, e2, n2, s2, hl2, rfl, h2⟩
  by_cases hlt : i < src.items.length
  · rw [List.drop_eq_getElem_cons hlt] at h2
    unfold lcD at h2
    obtain ⟨o, h2⟩ := h2
    obtain ⟨go, yl⟩ := (so F2 H2 M2 n2 s2.mem o i).1 src.items[i] (by simp [hlt])
    refine .inr ⟨go, fun H3 => ∃ F3 M3 acc, Ext F1 H1 M1 F3 H3 M3 ∧ ExtW Fs Hs F3 H3 ∧ Side K F3 H3 M3 p acc ∧ lcD src.ok dg tt (fun _ => te E) ρw (src.items.drop (i + 1)) acc M3 Q', ?_, fun v H3 y => ?_⟩
    · rintro H3 ⟨F3, M3, acc3, e3, n3, s3, h3⟩
      exact ⟨src.items.length - (i + 1), by omega, F3, M3, acc3, e3, n3, s3, hlt, rfl, h3⟩
    · obtain ⟨F3, e3, m3, r3⟩ := yl v H3 y
      refine ⟨F3, ρw, M2, _, _, ⟨env.mono (n2.trans e3.toExtW), m3, hl⟩, r3, fun F4 H4 ρ4 M4 σ4 e4 s4 c4 h4 => ?_, h2⟩
      have e24 := e3.trans e4
      refine ⟨(c4.wipe hs).trans hw, F4, ρ4, M4, E0, _, s4, x0, fun F5 H5 M5 b e5 m5 h5 => ?_, h4⟩
      have e25 := e24.trans e5
      cases b with
      | false =>
        have h5' : lcD src.ok dg tt (fun _ => te E) ρw (src.items.drop (i + 1)) acc M5 Q' := h5
        exact iteF ⟨F5, M5, acc, e2.trans e25, n2.trans e25.toExtW, s2.next e25 m5, h5'⟩
      | true =>
        have h5' := (if_pos rfl).mp h5
        refine iteT (tG_mk (s4.next e5 m5) (hx _ _ _ _ (e2.trans e25)) (fun F6 H6 M6 d v6 e6 m6 r6 ⟨hz, h6⟩ => ?_) h5')
        have e26 := e25.trans e6
        obtain ⟨us, g1, g2, g3⟩ := (s2.next e26 m6).more r6
        exact ⟨us, g1, by rw [g2]; exact hz, F6, M6, acc ++ [d], (e2.trans e26).side hp, (n2.trans e26.toExtW).trans (ExtW.wr g1 (s2.next e26 m6).nF), g3, h6⟩
  · have z : i = src.items.length := by omega
    subst z
    rw [List.drop_length] at h2
    unfold lcD at h2
    exact .inl ⟨(so F2 H2 M2 n2 s2.mem h2.1 _).2 (Nat.le_refl _), q F2 H2 M2 acc e2 n2 s2 h2.2⟩
theorem lcX_im {gi : DI} {dg : DG} {tt : DT} {te : DE} {vs ws : List Nat} (hs : ∀ i ∈ vs, i ∈ ws) : ∀ σ H Q, tN K W (nLcX gi dg tt te ws) σ H Q → tLc (tGi K W gi) (gG K vs dg) (tGt K W0 tt) (tG K (Wb W σ) te) ws σ H Q := fun σ H Q ⟨F, ρ, M, E, Q', s, x, q, h⟩ => by
  refine ⟨F, ρ, M, E, _, s, x, fun F1 H1 M1 J src e1 m1 so h1 p hp => ?_, h⟩
  have s1 := s.next e1 m1
  have l1 : Ext F1 H1 M1 F1 (upd H1 p (.lst [])) M1 := Ext.laid hp fun _ z => z
  refine lc_loopX (E := E) (V := Wb W σ) (fun F' H' M' σ' e' => (x.next e1).next e') (fun F' H' M' e => so F' H' M' (l1.toExtW.trans e)) hs wipe_wipe hp l1 ((s1.env.mono l1).wipe ws) (by rw [wipeD_length, wipe_length]; exact s1.len) (Side.start m1 hp) (fun F2 H2 M2 acc e2 n2 s2 h2 => ?_) h1
  obtain ⟨us, g1, g2⟩ := s2.at_
  exact q F2 H2 M2 acc us p (e1.trans e2) s2.mem (e1.was hp) g1 s2.nF s2.nM g2 h2
variable {elt tg iter : Expr} {ifs : List Expr} {scope : Scope} {own : List (Str × Nat)} {pos : Pos} {gi : DI} {vs : List Nat} {dg : DG} {tt : DT} {te : DE}
theorem fn_lcX (tk : Takes X W) (hN : X.N.Nodup) (hi : FI K X W tg iter gi) (ok : BlkOk X.N X.env.scope scope own)
    (hg : ∀ (s : Shared) (H : Hp) (C : Addr) (cl : List (Str × Addr)) (fp : List Addr), FG K (X.blk s H scope (compEnvC scope cl C X.env) fp) tg vs dg) (ht : ∀ (s : Shared) (H : Hp) (C : Addr) (cl : List (Str × Addr)) (fp : List Addr), FTs K (X.blk s H scope (compEnvC scope cl C X.env) fp) W0 ifs tt)
    (he : ∀ (σ : L2.St) (s : Shared) (H : Hp) (C : Addr) (cl : List (Str × Addr)) (fp : List Addr) (R : Value → Shared → Prop), CallsMay X W σ ((X.blk s H scope (compEnvC scope cl C X.env) fp).wish R) → FE K ((X.blk s H scope (compEnvC scope cl C X.env) fp).wish R) (Wb W σ) elt te)
    (hv : ∀ i ∈ vs, i ∈ own.map (·.2) := by decide) (hc : X.calm = true := by rfl) (hs : ∀ x, foldedSetIterable iter X.env x = pure x := by intro _; rfl) (fr : X.stack = X.env :: X.outer := by rfl) (fl : X.env.frame = some X.env.locals := by rfl) :
    FN K X W (.ListComp elt [⟨tg, iter, ifs, 0⟩] scope pos) (nLcX gi dg tt te (own.map (·.2))) := PE.imp (pe_lcX tk fr fl hc hN hi ok hg ht he hs) (lcX_im hv)
theorem fs_setLcX (tk : Takes X W) (i : Nat) {y : Str} {py spos : Pos} {g : DE} (hN : X.N.Nodup) (hi : FI K X W tg iter gi) (ok : BlkOk X.N X.env.scope scope own)
    (hg : ∀ (s : Shared) (H : Hp) (C : Addr) (cl : List (Str × Addr)) (fp : List Addr), FG K (X.blk s H scope (compEnvC scope cl C X.env) fp) tg vs dg) (ht : ∀ (s : Shared) (H : Hp) (C : Addr) (cl : List (Str × Addr)) (fp : List Addr), FTs K (X.blk s H scope (compEnvC scope cl C X.env) fp) W0 ifs tt)
    (he : ∀ (σ : L2.St) (s : Shared) (H : Hp) (C : Addr) (cl : List (Str × Addr)) (fp : List Addr) (R : Value → Shared → Prop), CallsMay X W σ ((X.blk s H scope (compEnvC scope cl C X.env) fp).wish R) → FE K ((X.blk s H scope (compEnvC scope cl C X.env) fp).wish R) (Wb W σ) elt te)
    (hz : ∀ σ H Q, tG K W g σ H Q → tN K W (nLcX gi dg tt te (own.map (·.2))) σ H Q)
    (hv : ∀ i ∈ vs, i ∈ own.map (·.2) := by decide) (hc : X.calm = true := by rfl) (hs : ∀ x, foldedSetIterable iter X.env x = pure x := by intro _; rfl) (fr : X.stack = X.env :: X.outer := by rfl) (fl : X.env.frame = some X.env.locals := by rfl)
    (hy : X.N[i]? = some y := by rfl) (hyl : X.env.scope.names.lookup y = some .local := by rfl) (hsw : swapsWith (.ListComp elt [⟨tg, iter, ifs, 0⟩] scope pos) (some (.Name y py)) spos.line X.env = pure true := by exact sw_true rfl rfl rfl (by decide +kernel)) :
    FS K X W (.Assign [.Name y py] (.ListComp elt [⟨tg, iter, ifs, 0⟩] scope pos) spos) (sSet i g) :=
  PS.imp (ps_setLcX tk fr fl hc hN hy hyl hsw hi ok hg ht he hs) fun D σ H ⟨F, ρ, M, E', s, x, h⟩ => lcX_im hv σ H _ (hz σ H _ (tG_mk s (x.ex.at_ s) (fun F1 H1 M1 d v e1 m1 r1 h1 => x.nx F1 H1 _ M1 _ e1 ((s.next e1 m1).set i r1) h1) h))
/-- a call in such an element -/
theorem fe_callPO {Y : Cx} {V : WX} {k : Nat} {ps : List Str} {sp : SpD} {x : Str} {p : Pos} {e : Expr} {es : List Expr} {g : DA} (C : OkD Y.prog Y.w K Y.mg Y.base k x ps sp) (hr : Room k Y.A) (pa : ∀ σ1 : L2.St, PassesAt (L2.CX Y.prog Y.w) Y σ1 (WE V σ1)) (ha : FA K Y V (e :: es) g)
    (hK : Y.K = K := by rfl) (hg : Gl Y x := by rfl) (hdb : (x == ("__debug__" : Str)) = false := by decide) (he : starEach (e :: es) Y.env = (false, eval e Y.env) :: starEach es Y.env := by rfl) (hpl : (backTo pos (starEach es Y.env)).any (·.1) = false := by rfl) :
    FE K Y V (.Call (.Name x p) (e :: es) [] pos) (gCall sp g) := by
  obtain ⟨fd, Fd, b, kp, m, _⟩ := C
  subst hK
  exact PE.imp (pe_callS Fd hr hg m kp b pa ha hdb he hpl) call_im
theorem q_nLcX {gi : DI} {dg : DG} {tt : DT} {te : DE} {vs : List Nat} {E : DXK} {ρ : Dv} {M : Mem} {Q : List D → Mem → Prop} : nLcX gi dg tt te vs E ρ M Q = gi E ρ M (fun src M1 => lcD src.ok dg tt (fun _ => te E) (wipeD ρ vs) src.items [] M1 Q) := rfl
/-- ahead of a statement: the list that the i-th name holds is frozen -/
def sFz (i : Nat) (g : DS) : DS := fun E ρ M => ∃ d d' M2 S, ρ[i]? = some (some d) ∧ Fz M S d d' ∧ MemFz M M2 S ∧ g E (ρ.set i (some d')) M2
theorem q_sFz {i : Nat} {g : DS} {E : DEnds} {ρ : Dv} {M : Mem} : sFz i g E ρ M = (∃ d d' M2 S, ρ[i]? = some (some d) ∧ Fz M S d d' ∧ MemFz M M2 S ∧ g E (ρ.set i (some d')) M2) := rfl
theorem fs_fz (i : Nat) {st : Stmt} {g : DS} (h : FS K X W st g) : FS K X W st (sFz i g) := PS.imp h fun D σ H ⟨F, ρ, M, E', s, x, d, d', M2, S, e, f, z, h1⟩ => by
  have ex := Ext.or (F := F) (H := H) z.dom z.1
  obtain ⟨v, hv, rv⟩ := s.env i d e
  have r1 := f.rp s.mem rv
  have s2 := (s.next ex.toExtW (z.ok s.mem)).set i r1
  have e2 : σ.set i (some v) = σ := by
    refine List.ext_getElem? fun j => ?_
    by_cases c : i = j
    · subst c
      rw [hv]
      by_cases l : i < σ.length
      · rw [List.getElem?_set_self l]
      · rw [List.getElem?_eq_none (by omega)] at hv
        cases hv
    · rw [List.getElem?_set_ne c]
  rw [e2] at s2
  exact tGs_mk s2 (x.next ex) h1
end
end DL

/-! DLJ: own plain classes: made, their fields read and stored, their methods, instances called. -/
namespace DL
open PySem PySem.Spec L2
/-- fields with one stored -/
def putD (f : Str) (d : D) : List (Str × D) → List (Str × D)
  | [] => [(f, d)]
  | (g, x) :: r => if g = f then (g, d) :: r else (g, x) :: putD f d r
section
variable {K : PySem.W.Frag} {F : Addr → Prop} {H : Hp}
theorem Rpf.put {f : Str} {d : D} {v : V} (hd : Rp K F H d v) : ∀ {ds : List (Str × D)} {vs : List (Str × V)}, Rpf K F H ds vs → Rpf K F H (putD f d ds) (putF f v vs)
  | [], vs, h => by
    unfold Rpf at h
    subst h
    exact Rpf.one hd
  | (g, x) :: ds, vs, h => by
    unfold Rpf at h
    obtain ⟨w, r, rfl, h1, h2⟩ := h
    unfold putD putF
    by_cases c : g = f
    · rw [if_pos c, if_pos c]
      unfold Rpf
      exact ⟨v, r, rfl, hd, h2⟩
    · rw [if_neg c, if_neg c]
      unfold Rpf
      exact ⟨w, _, rfl, h1, Rpf.put hd h2⟩
theorem Rpf.len : ∀ {ds : List (Str × D)} {vs : List (Str × V)}, Rpf K F H ds vs → ds.length = vs.length
  | [], vs, h => by unfold Rpf at h; subst h; rfl
  | d :: ds, vs, h => by
    unfold Rpf at h
    obtain ⟨v, r, rfl, h1, h2⟩ := h
    rw [List.length_cons, List.length_cons, Rpf.len h2]
theorem Rpf.none : ∀ {ds : List (Str × D)} {vs : List (Str × V)} {f : Str}, Rpf K F H ds vs → ds.lookup f = none → vs.lookup f = none
  | [], vs, f, h, e => by unfold Rpf at h; subst h; rfl
  | (g, d) :: ds, vs, f, h, e => by
    unfold Rpf at h
    obtain ⟨v, r, rfl, h1, h2⟩ := h
    rw [List.lookup] at e ⊢
    cases z : f == g with
    | true => rw [z] at e; cases e
    | false => rw [z] at e; exact Rpf.none h2 e
end
/-- x is an instance of C with these fields, frozen or a cell -/
def InsD (M : Mem) (x : D) (C : Addr) (fs : List (Str × D)) : Prop := x = .obj C fs ∨ ∃ a, x = .ref a ∧ M a = some (.ins C fs)
theorem InsD.at_ {K : PySem.W.Frag} {F : Addr → Prop} {H : Hp} {M : Mem} {x : D} {C : Addr} {fs : List (Str × D)} {v : V} (h : InsD M x C fs) (m : MemOk K F H M) (r : Rp K F H x v) : ∃ a dx gs, v = .ref a ∧ H a = some (.ins C dx gs) ∧ Rpf K F H fs gs := by
  rcases h with rfl | ⟨a, rfl, hm⟩
  · unfold Rp at r
    obtain ⟨a, dx, gs, rfl, ha, _, rf⟩ := r
    exact ⟨a, dx, gs, rfl, ha, rf⟩
  · unfold Rp at r
    obtain ⟨dx, gs, ha, rf⟩ := (m.at_ a _ hm).2
    exact ⟨a, dx, gs, r, ha, rf⟩
/-- x.f -/
def gFld (K : PySem.W.Frag) (f : Str) (g : DE) : DE := fun E ρ M Q => g E ρ M fun x M1 => ∃ C fs d, InsD M1 x C fs ∧ Cls K C ∧ NoAttr K C f ∧ fs.lookup f = some d ∧ Q d M1
/-- x.f = v -/
def sFldD (K : PySem.W.Frag) (f : Str) (g go : DE) : DS := fun E ρ M => g (fun x M => E.ex x ρ M) ρ M fun v M1 => go (fun x M => E.ex x ρ M) ρ M1 fun o M2 => ∃ a C fs, o = .ref a ∧ M2 a = some (.ins C fs) ∧ Cls K C ∧ NoAttr K C f ∧ fs.length < 1000 ∧ E.nx ρ (mset M2 a (.ins C (putD f v fs)))
/-- the store without a -/
def mdel (M : Mem) (a : Addr) : Mem := fun b => if b = a then none else M b
theorem mdel_mset {M : Mem} {a : Addr} {o : MO} (h : M a = none) : mdel (mset M a o) a = M := by
  funext b
  unfold mdel mset
  by_cases c : b = a
  · rw [if_pos c, c, h]
  · rw [if_neg c, if_neg c]
/-- an instance is made and frozen -/
def gMake (C : Addr) (sp : SpD) (g : DA) : DE := fun E ρ M Q => g E ρ M fun ds M1 => ∀ x, M1 x = none → sp (.ref x :: ds) (mset M1 x (.ins C [])) (fun v M2 => v = .non ∧ ∃ fs, M2 x = some (.ins C fs) ∧ Q (.obj C fs) (mdel M2 x)) E
/-- f(e, ..), f an instance of C -/
def gCallI (C : Addr) (sp : SpD) (gf : DE) (g : DA) : DE := fun E ρ M Q => gf E ρ M fun y M1 => (∃ fs, InsD M1 y C fs) ∧ g E ρ M1 fun ds M2 => (∃ fs, InsD M2 y C fs) ∧ sp (y :: ds) M2 Q E
/-- o.m(e, ..) -/
def gMeth (C : Addr) (m : Str) (sp : SpD) (gf : DE) (g : DA) : DE := fun E ρ M Q => gf E ρ M fun y M1 => (∃ fs, InsD M1 y C fs ∧ fs.lookup m = none) ∧ g E ρ M1 fun ds M2 => sp (y :: ds) M2 Q E
/-- a def of a class -/
abbrev FnM (P : Program) (w : World) (K : PySem.W.Frag) (mg : Str → Option Value) (base : Heap) (k : Nat) (f : Addr) (sp : SpD) : Prop := FnR P w K mg base (L2.CX P w) k f (liftSp K sp)
section
variable {K : PySem.W.Frag} {X : Cx} {W : WX} {e o : Expr} {ga gb : DE} {pos : Pos}
theorem fe_fld {f : Str} (he : FE K X W e ga) (hK : X.K = K := by rfl) (hb : attributeBase e f X.env (eval e X.env) = eval e X.env := by rfl) : FE K X W (.Attribute e f pos) (gFld K f ga) := by
  subst hK
  refine PE.imp (pe_fld he hb) fun σ H Q ⟨F, ρ, M, E, Q', s, x, q, h⟩ => tG_mk s x (fun F1 H1 M1 d v e1 m1 r1 h1 => ?_) h
  obtain ⟨C, fs, d', hi, c, n, l, q1⟩ := h1
  obtain ⟨a, dx, gs, rfl, ha, rf⟩ := hi.at_ m1 r1
  obtain ⟨w, lw, rw'⟩ := Rpf.look rf l
  exact ⟨a, C, dx, gs, w, rfl, ha, c, n, lw, q F1 H1 M1 _ _ e1 m1 rw' q1⟩
theorem fs_fld {f : Str} {pos' : Pos} (hv : FE K X W e ga) (ho : FE K X W o gb) (hK : X.K = K := by rfl) (hs : swapsWith e (some (.Attribute o f pos')) pos.line X.env = pure false := by rfl) : FS K X W (.Assign [.Attribute o f pos'] e pos) (sFldD K f ga gb) := by
  subst hK
  refine PS.imp (ps_fld ho hv hs) fun D σ H ⟨F, ρ, M, E', s, x, h⟩ => tG_mk s (x.ex.at_ s) (fun F1 H1 M1 d v e1 m1 r1 h1 => tG_mk (s.next e1 m1) ((x.ex.at_ s).next e1) (fun F2 H2 M2 d2 v2 e2 m2 r2 h2 => ?_) h1) h
  obtain ⟨a, C, fs, rfl, hm, c, n, l, q1⟩ := h2
  obtain ⟨dx, gs, ha, rf⟩ := (m2.at_ a _ hm).2
  have nF := (m2.at_ a _ hm).1
  unfold Rp at r2
  refine ⟨a, C, dx, gs, r2, ha, c, n, by rw [← rf.len]; exact l, ?_⟩
  have hM : M2 a ≠ none := by rw [hm]; exact fun z => nomatch z
  have w : ExtW F2 H2 F2 (upd H2 a (.ins C dx (putF f v gs))) := ExtW.write ha nF (fun _ z => nomatch z) (fun _ _ z => nomatch z) fun _ z => nomatch z
  have e3 : Ext F2 H2 M2 F2 (upd H2 a (.ins C dx (putF f v gs))) (mset M2 a (.ins C (putD f d fs))) := Ext.write ha nF hM (fun b z => by
    by_cases y : b = a
    · rw [y]; exact hM
    · rw [mset_ne y] at z; exact z) (fun _ z => nomatch z) (fun _ _ z => nomatch z) fun _ z => nomatch z
  have m3 : MemOk X.K F2 (upd H2 a (.ins C dx (putF f v gs))) (mset M2 a (.ins C (putD f d fs))) := by
    refine ⟨fun b fb => ?_, fun b u eb => ?_⟩
    · have z : b ≠ a := fun z => nF (by rw [← z]; exact fb)
      rw [upd_ne z]
      exact m2.fok b fb
    · by_cases z : b = a
      · subst z
        rw [mset_same] at eb
        cases eb
        exact ⟨nF, dx, _, upd_same, Rpf.mono w _ _ (Rpf.put (Rp.mono e2.toExtW _ _ r1) rf)⟩
      · rw [mset_ne z] at eb
        obtain ⟨h1, h2⟩ := m2.at_ b u eb
        exact ⟨h1, h2.stay w fun u' hu => by rw [upd_ne z]; exact hu⟩
  exact x.nx F2 _ ρ _ σ (e1.trans (e2.trans e3)) (s.next (e1.trans (e2.trans e3)).toExtW m3) q1
/-- an instance of C is laid at x, its dict at dx -/
theorem Ext.made {F : Addr → Prop} {H : Hp} {M : Mem} {C x dx : Addr} (m : MemOk K F H M) (hx : H x = none) (hd : H dx = none) (n : dx ≠ x) : Ext F H M F (upd (upd H dx (.own x)) x (.ins C dx [])) (mset M x (.ins C [])) ∧ MemOk K F (upd (upd H dx (.own x)) x (.ins C dx [])) (mset M x (.ins C [])) := by
  have e1 : Ext F H M F (upd H dx (.own x)) M := Ext.laid hd fun _ z => z
  have m1 := m.aside hd (.own x)
  have hx1 : (upd H dx (.own x)) x = none := by rw [upd_ne (Ne.symm n)]; exact hx
  have e2 : Ext F (upd H dx (.own x)) M F (upd (upd H dx (.own x)) x (.ins C dx [])) M := Ext.laid hx1 fun _ z => z
  have m2 := m1.aside hx1 (.ins C dx [])
  have fr := m1.fresh hx1
  exact ⟨(e1.trans e2).cell (.inr hx), m2.add fr.1 ⟨dx, [], upd_same, Rpf.nil⟩⟩
theorem fe_make {k : Nat} {x : Str} {C f : Addr} {sp : SpD} {p : Pos} {es : List Expr} {g : DA} (Mc : Mk K C f) (Fi : FnM X.prog X.w K X.mg X.base k f sp) (hr : Room (k + 1) X.A) (tk : Takes X W) (hm : X.mg x = some (.ref C)) (ha : FA K X W (e :: es) g)
    (hK : X.K = K := by rfl) (hg : Gl X x := by rfl) (hdb : (x == ("__debug__" : Str)) = false := by decide) (he : starEach (e :: es) X.env = (false, eval e X.env) :: starEach es X.env := by rfl) (hpl : (backTo pos (starEach es X.env)).any (·.1) = false := by rfl) :
    FE K X W (.Call (.Name x p) (e :: es) [] pos) (gMake C sp g) := by
  subst hK
  refine ⟨fun pins s σ H Q I h => ?_⟩
  obtain ⟨F, ρ, M, E, Q', st, xo, q, h⟩ := h
  refine wpAny_Call_Name_kw (ld_glob I hg hm ?_ hdb)
  have hA : tGa X.K W g σ H fun vs H1 => ∃ F1 M1 ds, Ext F H M F1 H1 M1 ∧ MemOk X.K F1 H1 M1 ∧ Rps X.K F1 H1 ds vs ∧ ∀ y, M1 y = none → sp (.ref y :: ds) (mset M1 y (.ins C [])) (fun v M2 => v = .non ∧ ∃ fs, M2 y = some (.ins C fs) ∧ Q' (.obj C fs) (mdel M2 y)) E :=
    ⟨F, ρ, M, E, _, st, xo, fun F1 H1 M1 ds vs e1 m1 r1 h1 => ⟨F1, M1, ds, e1, m1, r1, h1⟩, h⟩
  refine PySem.W.callWith_K (h₀ := X.base) I.ok.mod.kin Mc.kp (thn (ha.run pos pins s σ H _ I hA) fun us s1 ⟨vs, H1, I1, r, F1, M1, ds, e1, m1, r1, q1⟩ => ⟨I1.kIn, ?_⟩) he hpl
  have n1 : H1 (s1.heap.objs.size + 1) = none := I1.hok.fresh (Nat.le_succ _)
  have n2 : H1 s1.heap.objs.size = none := I1.hok.fresh (Nat.le_refl _)
  have n3 : s1.heap.objs.size ≠ s1.heap.objs.size + 1 := Nat.ne_of_lt (Nat.lt_succ_self _)
  have I2 := Inv.made (C := C) I1
  obtain ⟨e2, m2⟩ := Ext.made (C := C) m1 n1 n2 n3
  have hq := q1 (s1.heap.objs.size + 1) (m1.fresh n1).2
  have lift : liftSp X.K sp (V.ref (s1.heap.objs.size + 1) :: vs) (upd (upd H1 s1.heap.objs.size (.own (s1.heap.objs.size + 1))) (s1.heap.objs.size + 1) (.ins C s1.heap.objs.size [])) (fun v H2 => v = .non ∧ Q (.ref (s1.heap.objs.size + 1)) H2) (WE W σ) := by
    refine ⟨F1, _, .ref _ :: ds, _, E, m2, Rps.cons Rp.ref (Rps.mono e2.toExtW _ _ r1), fun F' H' M' d v e3 m3 r3 h3 => ?_, (xo.next (e1.trans e2)), hq⟩
    obtain ⟨rfl, fs, hx, h3⟩ := h3
    unfold Rp at r3
    refine ⟨r3, ?_⟩
    obtain ⟨nF, dx, gs, hH, rf⟩ := m3.at_ _ _ hx
    have hM3 : M' (s1.heap.objs.size + 1) ≠ none := by rw [hx]; exact fun z => nomatch z
    have m4 : MemOk X.K (fun a => F' a ∨ a = s1.heap.objs.size + 1) H' (mdel M' (s1.heap.objs.size + 1)) := by
      refine ⟨fun b fb => fb.elim (m3.fok b) (fun z => (by rw [z, hH]; exact fun y => nomatch y)), fun b u eb => ?_⟩
      unfold mdel at eb
      by_cases z : b = s1.heap.objs.size + 1
      · rw [if_pos z] at eb; cases eb
      · rw [if_neg z] at eb
        obtain ⟨h1, h2⟩ := m3.at_ b u eb
        exact ⟨fun fb => fb.elim h1 z, h2.stay (ExtW.grow fun _ z => Or.inl z) fun _ z => z⟩
    have e4 : Ext F' H' M' (fun a => F' a ∨ a = s1.heap.objs.size + 1) H' (mdel M' (s1.heap.objs.size + 1)) := Ext.grow (fun _ z => .inl z) (fun b z => .inl (by
      unfold mdel at z
      by_cases y : b = s1.heap.objs.size + 1
      · rw [if_pos y] at z; exact absurd rfl z
      · rw [if_neg y] at z; exact z)) (fun b z => z.imp (fun z => z) fun z => .inl (by rw [z]; exact hM3))
    refine q _ H' _ _ _ (e1.trans (e2.trans (e3.trans e4))) m4 ?_ h3
    unfold Rp
    exact ⟨_, dx, gs, rfl, hH, .inr rfl, Rpf.mono (ExtW.grow fun _ z => .inl z) _ _ rf⟩
  have r2 : Vals (V.ref (s1.heap.objs.size + 1) :: vs) (Value.ref (s1.heap.objs.size + 1) :: us) := .cons rfl r
  refine wpAny_call (make_map (f := f) I1.kIn Mc.makes Mc.init (beq_iff_eq.mp Mc.fn) (codeAny_mono (Fi _ X.stack _ _ (Value.ref (s1.heap.objs.size + 1) :: us) _ _ (WE W σ) (hr.make C us []) (I2.env0.make C us []) r2 lift) fun r s' hq' => ?_))
  cases r with
  | error e => exact passAt tk σ pins _ _ e s' I2 hq'
  | ok fl =>
    cases fl with
    | ret u =>
      obtain ⟨v, H', I3, rv, ev, q3⟩ := I2.after hq'
      subst ev
      exact ⟨rv, ⟨V.ref (s1.heap.objs.size + 1), H', I3, rfl, q3⟩⟩
    | next => exact False.elim hq'
    | brk => exact False.elim hq'
    | cont => exact False.elim hq'
theorem run_fnRS {k : Nat} {f : Addr} {sp : Sp} {pins : List (Addr × Obj)} {σ : L2.St} {H : Hp} {s : Shared} {Q : VK} {us : List Value} {vs : List V} (F : FnR X.prog X.w X.K X.mg X.base (L2.CX X.prog X.w) k f sp) (hr : Room k X.A) (tk : Takes X W) (I : Inv X pins σ H s) (r : Vals vs us) (h : sp vs H Q (WE W σ)) :
    codeAny (model X.prog X.w) X.A (.call (.ref f) ⟨us, []⟩) (fun r s' => match r with | .ok (.ret v) => EP X pins σ Q v s' | .ok _ => False | .error e => X.xe e s') s := by
  refine codeAny_mono (F X.A X.stack s H us vs Q (WE W σ) hr I.env0 r h) fun r s' hq => ?_
  cases r with
  | error e => exact passAt tk σ pins H s e s' I hq
  | ok fl =>
    cases fl with
    | ret u => exact I.after hq
    | next => exact False.elim hq
    | brk => exact False.elim hq
    | cont => exact False.elim hq
theorem fe_callI {k : Nat} {C c : Addr} {sp : SpD} {fe : Expr} {gf : DE} {es : List Expr} {g : DA} (hf : FE K X W fe gf) (cc : StX.CallO K C c) (Fi : FnM X.prog X.w K X.mg X.base k c sp) (hr : Room k X.A) (tk : Takes X W) (ha : FA K X W (e :: es) g) (hK : X.K = K := by rfl)
    (ht : eval (.Call fe (e :: es) [] pos) X.env = (do callWith pos (← eval fe X.env) [] (backTo pos (starEach (e :: es) X.env)) (backToKw pos (keywordEach [] X.env))) := by rfl)
    (he : starEach (e :: es) X.env = (false, eval e X.env) :: starEach es X.env := by rfl) (hpl : (backTo pos (starEach es X.env)).any (·.1) = false := by rfl) : FE K X W (.Call fe (e :: es) [] pos) (gCallI C sp gf g) := by
  subst hK
  refine ⟨fun pins s σ H Q I h => ?_⟩
  obtain ⟨F, ρ, M, E, Q', st, xo, q, h⟩ := h
  have hF : tG X.K W gf σ H fun y H1 => ∃ a, y = V.ref a ∧ tGa X.K W g σ H1 fun vs H2 => StX.InsC X H2 a C ∧ liftSp X.K sp (V.ref a :: vs) H2 Q (WE W σ) := by
    refine tG_mk st xo (fun F1 H1 M1 d v e1 m1 r1 h1 => ?_) h
    obtain ⟨⟨fs, hi⟩, h1⟩ := h1
    obtain ⟨a, dx, gs, rfl, _, _⟩ := hi.at_ m1 r1
    refine ⟨a, rfl, F1, ρ, M1, E, _, st.next e1 m1, xo.next e1, fun F2 H2 M2 ds vs e2 m2 r2 h2 => ?_, h1⟩
    obtain ⟨⟨fs2, hi2⟩, h2⟩ := h2
    have r1' := Rp.mono e2.toExtW _ _ r1
    obtain ⟨a', dx', gs', ea, ha', _⟩ := hi2.at_ m2 r1'
    cases ea
    exact ⟨.inr ⟨dx', gs', ha'⟩, F2, M2, d :: ds, Q', E, m2, Rps.cons r1' r2, q.next (e1.trans e2), xo.next (e1.trans e2), h2⟩
  refine PyProof.Rows.Call_ (thn (hf.run pins s σ H _ I hF) fun u s1 ⟨y, H1, I1, ry, a, ey, qA⟩ => ?_) ht
  subst ey
  obtain rfl : u = Value.ref a := ry
  refine StX.callO_with (thn (ha.run pos pins s1 σ H1 _ I1 qA) fun us s2 ⟨vs, H2, I2, r, hi, q2⟩ => ?_) he hpl
  obtain ⟨ox, od, J, hd⟩ := StX.insC_at I2 hi
  exact ⟨⟨C, ox, od, J, hd⟩, wpAny_call (PySem.W.kco_code I2.kIn J hd cc.at_ cc.fn cc.fi (run_fnRS (us := .ref a :: us) (vs := .ref a :: vs) Fi hr tk I2 (.cons rfl r) q2))⟩
theorem fe_meth {k : Nat} {C f : Addr} {m : Str} {sp : SpD} {es : List Expr} {g : DA} {apos : Pos} {pl : Sem Bool} (ho : FE K X W o ga) (c : Cls K C) (hm : Meth K C m f) (Fi : FnM X.prog X.w K X.mg X.base k f sp) (hr : Room k X.A) (tk : Takes X W) (ha : FA K X W (e :: es) g) (hK : X.K = K := by rfl)
    (hst : starEach (e :: es) X.env = (false, eval e X.env) :: starEach es X.env := by rfl) (hpl : (backTo pos (starEach es X.env)).any (·.1) = false := by rfl)
    (ht : eval (.Call (.Attribute o m apos) (e :: es) [] pos) X.env = (do
      let ov ← eval o X.env
      standAt apos.atName
      let (f, first) ← holding [ov] (getMethod ov m pl)
      callWith pos f first (backTo pos (starEach (e :: es) X.env)) (backToKw pos (keywordEach [] X.env))) := by rfl) : FE K X W (.Call (.Attribute o m apos) (e :: es) [] pos) (gMeth C m sp ga g) := by
  subst hK
  refine ⟨fun pins s σ H Q I h => ?_⟩
  obtain ⟨F, ρ, M, E, Q', st, xo, q, h⟩ := h
  have hF : tG X.K W ga σ H fun y H1 => ∃ a dx fs, y = V.ref a ∧ H1 a = some (.ins C dx fs) ∧ fs.lookup m = none ∧ tGa X.K W g σ H1 fun vs H2 => liftSp X.K sp (V.ref a :: vs) H2 Q (WE W σ) := by
    refine tG_mk st xo (fun F1 H1 M1 d v e1 m1 r1 h1 => ?_) h
    obtain ⟨⟨fs, hi, hn⟩, h1⟩ := h1
    obtain ⟨a, dx, gs, rfl, ha, rf⟩ := hi.at_ m1 r1
    refine ⟨a, dx, gs, rfl, ha, rf.none hn, F1, ρ, M1, E, _, st.next e1 m1, xo.next e1, fun F2 H2 M2 ds vs e2 m2 r2 h2 => ?_, h1⟩
    exact ⟨F2, M2, d :: ds, Q', E, m2, Rps.cons (Rp.mono e2.toExtW _ _ r1) r2, q.next (e1.trans e2), xo.next (e1.trans e2), h2⟩
  refine PySem.W.methodCall_KW (pl := pl) (thn (ho.run pins s σ H _ I hF) fun u s1 ⟨y, H1, I1, ry, a, dx, fs, ey, ea, l, qA⟩ => ?_) ht
  subst ey
  obtain rfl : u = Value.ref a := ry
  refine getmeth_ok I1 ea c hm l ?_
  refine PySem.W.callWith_K (first := [.ref a]) (h₀ := X.base) I.ok.mod.kin hm.kp (thn (ha.run pos pins s1 σ H1 _ I1 qA) fun us s2 ⟨vs, H2, I2, r, q2⟩ => ⟨I2.kIn, ?_⟩) hst hpl
  exact wpAny_call (run_fnRS (us := .ref a :: us) (vs := .ref a :: vs) Fi hr tk I2 (.cons rfl r) q2)
/-- a number of the module -/
theorem fe_glob {x : Str} {i : Int} (h : ∃ t, X.mg x = some (.int i t)) (hg : Gl X x := by rfl) (hdb : (x == ("__debug__" : Str)) = false := by decide) : FE K X W (.Name x pos) (gC (.int i)) := by
  obtain ⟨t, h⟩ := h
  exact PE.imp (pe_glob (v := .int i) hg h ⟨t, rfl⟩ hdb) (tC_im fun _ _ => Rp.int)
end
/-- what the head asks of a class: it is plain, made by its own __init__; no attribute of these names; these methods -/
def clB (K : PySem.W.Frag) (x : Str) (fs ms : List Str) : Bool := (He.Fa.cls x).ok K && ((He.Fa.mkr x).ok K && (fs.all (fun f => (He.Fa.noat x f).ok K) && ms.all fun m => (He.Fa.meth x m).ok K && PySem.W.fnIn K (He.ma K (He.ga K x) m)))
structure ClsD (K : PySem.W.Frag) (x : Str) (fs ms : List Str) : Prop where
  cls : Cls K (He.ga K x)
  mkr : Mk K (He.ga K x) (He.ma K (He.ga K x) "__init__")
  no : ∀ f ∈ fs, NoAttr K (He.ga K x) f
  meth : ∀ m ∈ ms, Meth K (He.ga K x) m (He.ma K (He.ga K x) m)
  call : ("__call__" : Str) ∈ ms → StX.CallO K (He.ga K x) (He.ma K (He.ga K x) "__call__")
theorem clB_ok {K : PySem.W.Frag} {x : Str} {fs ms : List Str} (q : clB K x fs ms = true) : ClsD K x fs ms := by
  unfold clB at q
  simp only [Bool.and_eq_true, List.all_eq_true] at q
  obtain ⟨h1, h2, h3, h4⟩ := q
  refine ⟨He.cls_ok h1, He.mkr_ok h2, fun f hf => He.noat_ok (h3 f hf), fun m hm => He.meth_ok (h4 m hm).1, fun hm => ?_⟩
  have z := He.meth_ok (h4 _ hm).1
  exact ⟨z.at_, z.fn, (h4 _ hm).2⟩
end DL

/-! DLK: x[::-1] of a list or a tuple. -/
namespace DL
open PySem PySem.Spec L2 PyProof.Rows
section
variable {prog : Program} {w : World} {A : Around} {E : Value → Shared → Prop} {s : Shared}
theorem rev_places (n : Nat) : Builtin.Slice.slicePlaces ((n : Int) - 1) (-1) (-1) = n := by
  unfold Builtin.Slice.slicePlaces
  rw [if_neg (by decide)]
  by_cases c : ((n : Int) - 1) > -1
  · rw [if_pos c]
    have : ((n : Int) - 1 - -1 - 1) / (- -1) = (n : Int) - 1 := by
      rw [show (- -1 : Int) = 1 by rfl, Int.ediv_one]
      omega
    rw [this]
    omega
  · rw [if_neg c]
    omega
theorem rev_adjust (n : Int) : Builtin.Slice.sliceAdjust none none (-1) n = (n - 1, -1) := by
  unfold Builtin.Slice.sliceAdjust
  simp
theorem rev_pick (xs : Array Value) : ((List.range xs.size).filterMap fun (k : Nat) => xs[(((xs.size : Int) - 1) + (k : Int) * (-1)).toNat]?).toArray = xs.toList.reverse.toArray := by
  congr 1
  have e : ((List.range xs.size).filterMap fun (k : Nat) => xs[(((xs.size : Int) - 1) + (k : Int) * (-1)).toNat]?) = (List.range xs.size).filterMap fun k => xs.toList.reverse[k]? := by
    have cg : ∀ (l : List Nat) (f g : Nat → Option Value), (∀ k ∈ l, f k = g k) → l.filterMap f = l.filterMap g := fun l f g => by
      induction l with
      | nil => intro _; rfl
      | cons a l ih =>
        intro h
        rw [List.filterMap_cons, List.filterMap_cons, h a List.mem_cons_self, ih fun k hk => h k (List.mem_cons_of_mem _ hk)]
    refine cg _ _ _ fun k hk => ?_
    have hk := List.mem_range.mp hk
    rw [List.getElem?_reverse (by simpa using hk)]
    rw [show (((xs.size : Int) - 1) + (k : Int) * (-1)).toNat = xs.toList.length - 1 - k by simp; omega]
    simp
  rw [e]
  have : ∀ l : List Value, ((List.range l.length).filterMap fun k => l[k]?) = l := fun l => by
    refine List.ext_getElem? fun i => ?_
    have e2 : ((List.range l.length).filterMap fun k => l[k]?) = (List.range l.length).pmap (fun k (h : k < l.length) => l[k]) (fun k hk => List.mem_range.mp hk) := by
      have key : ∀ (ks : List Nat) (h : ∀ k ∈ ks, k < l.length), (ks.filterMap fun k => l[k]?) = ks.pmap (fun k (h : k < l.length) => l[k]) h := fun ks => by
        induction ks with
        | nil => intro h; rfl
        | cons k ks ih =>
          intro h
          rw [List.filterMap_cons_some (List.getElem?_eq_getElem (h k List.mem_cons_self)), ih fun j hj => h j (List.mem_cons_of_mem _ hj)]
          rfl
      exact key _ _
    rw [e2]
    by_cases c : i < l.length
    · rw [List.getElem?_eq_getElem (by simpa using c), List.getElem?_eq_getElem c, List.getElem_pmap]
      simp
    · rw [List.getElem?_eq_none (by simpa using c), List.getElem?_eq_none (by omega)]
  have z := this xs.toList.reverse
  rw [List.length_reverse, Array.length_toList] at z
  exact z
theorem sliceApplied_rev {sl : Addr} {vs : Value} {n : Nat} {Q : Int × Int × Nat → Shared → Prop} (hs : s.heap.IsSliceOf sl .none .none vs) (ps : IsPart vs (some (-1)))
    (h : Q ((n : Int) - 1, -1, n) s) : wpAny (model prog w) A (Builtin.Slice.sliceApplied (.ref sl) (pure (n : Int))) Q E s := by
  obtain ⟨os, hos, hcs, hds⟩ := id hs
  unfold Builtin.Slice.sliceApplied Builtin.Slice.sliceFields
  refine wpAny_bind (wpAny_bind (wpAny_field hos hds (x := .none) rfl (wpAny_bind (wpAny_field hos hds (x := .none) rfl (wpAny_bind (wpAny_field hos hds (x := vs) rfl (wpAny_pure ?_)))))))
  refine wpAny_bind (HT.slicePart_ ps ?_)
  show wpAny _ _ (if ((-1 : Int) == 0) = true then _ else _) _ _ s
  rw [if_neg (by decide)]
  refine wpAny_bind (HT.slicePart_ .none (wpAny_bind (HT.slicePart_ .none (wpAny_bind (wpAny_pure ?_)))))
  show wpAny _ _ (match Builtin.Slice.sliceAdjust none none (-1) (n : Int) with | (lo, hi) => pure (lo, (-1 : Int), Builtin.Slice.slicePlaces lo hi (-1))) _ _ s
  rw [rev_adjust]
  show wpAny _ _ (pure ((n : Int) - 1, (-1 : Int), Builtin.Slice.slicePlaces ((n : Int) - 1) (-1) (-1))) _ _ s
  rw [rev_places]
  exact wpAny_pure h
theorem getItem_tuple_rev {t sl : Addr} {items : Array Value} {vs : Value} {Q : Value → Shared → Prop} (ht : IsTup s.heap t items) (hs : s.heap.IsSliceOf sl .none .none vs) (ps : IsPart vs (some (-1)))
    (h : Q (.ref s.heap.objs.size) { s with heap := s.heap.push { cls := .type "tuple", data := .seq items.toList.reverse.toArray } })
    (hsz : items.size ≤ sizeLine) : wpAny (model prog w) A (getItem (.ref t) (.ref sl)) Q E s := by
  have htake : sizeOk (.seq items.toList.reverse.toArray) := by
    show items.toList.reverse.toArray.size ≤ sizeLine
    rw [List.size_toArray, List.length_reverse, Array.length_toList]
    exact hsz
  obtain ⟨os, hos, hcs, hds⟩ := id hs
  have hTs : s.TypeIs (.ref sl) "slice" := ⟨os, hos, hcs⟩
  unfold getItem
  try with_reducible refine wpAny_holding ?_
  first | refine wpAny_bind (wpAny_pure ?_) | skip
  refine wpAny_bind (wpAny_sequenceKey ht.typeIs (by decide) ?_)
  refine wpAny_bind (wpAny_callSpecial?_slot (name := Str.ofString "__getitem__") ht.typeIs PyProof.Rows.slot_tuple_getitem
    (wpAny_call_entry PyProof.Rows.slot_tuple_getitem ht.typeIs entry_tuple_getitem ?_ (args_tuple_getitem _ _)))
  show wpAny _ _ (Builtin.Tuple.tupleItemsOf (.ref t) >>= _) _ _ s
  refine wpAny_bind (tupleItemsOf_ ht ?_)
  refine wpAny_bind (wpAny_typeOf hTs ?_)
  rw [if_pos (by decide)]
  refine wpAny_bind (sliceApplied_rev hs ps ?_)
  show wpAny _ _ (if (((items.size : Int) - 1 == 0) && ((-1 : Int) == 1) && (items.size == items.size)) = true then _ else _) _ _ s
  rw [if_neg (by rw [show ((-1 : Int) == 1) = false from rfl, Bool.and_false, Bool.false_and]; exact Bool.false_ne_true), rev_pick]
  first
    | exact wpAny_bind (m := Builtin.Tuple.tupleExact _) (wpAny_newObj_type (wpAny_pure ⟨_, rfl, wpAny_pure h⟩) htake)
    | exact wpAny_bind (m := Builtin.Tuple.tupleExact _) (wpAny_newObj_type (wpAny_bind (wpAny_pure (wpAny_pure ⟨_, rfl, wpAny_pure h⟩))) htake)
    | exact wpAny_bind (wpAny_bind (m := Builtin.Tuple.tupleExact _) (wpAny_newObj_type (wpAny_pure (wpAny_pure ⟨_, rfl, wpAny_pure h⟩)) htake))
    | exact wpAny_bind (wpAny_bind (m := Builtin.Tuple.tupleExact _) (wpAny_newObj_type (wpAny_pure ⟨_, rfl, wpAny_pure h⟩) htake))
end
section
variable {K : PySem.W.Frag} {X : Cx} {W : WX} {e : Expr} {ga : DE}
def tRevA (K : PySem.W.Frag) (te : TE) : TE := fun σ H Q => te σ H fun x H1 => (∃ a xs, x = .ref a ∧ SqL K H1 a xs ∧ ∀ p, H1 p = none → Q (.ref p) (upd H1 p (.lst xs.reverse))) ∨ ∃ a xs, x = .ref a ∧ SqT K H1 a xs ∧ ∀ p, H1 p = none → Q (.ref p) (upd H1 p (.tup xs.reverse))
theorem pe_revA {te : TE} {k : Nat} {p1 p2 p3 pos : Pos} (he : PE X e te) : PE X (.Subscript e (.Slice none none (some (.UnaryOp .USub (.Constant (.int 1) k p1) p2)) p3) pos) (tRevA X.K te) := by
  refine ⟨fun pins s σ H Q I h => ?_⟩
  refine Subscript_ (thn (he.run pins s σ H _ I h) fun v s1 ⟨x, H1, I1, r1, q1⟩ => ?_)
  have hst : PO X (some (.UnaryOp .USub (.Constant (.int 1) k p1) p2)) (tPart (tUn (rU fun i => .int (-i)) (tC (.int 1)))) := po_some (pe_un un_neg pe_int)
  refine wpAny_Slice (thn (po_none.run pins s1 σ H1 (fun o H2 => o = none ∧ H2 = H1) I1 ⟨rfl, rfl⟩) fun vl s2 ⟨l, H2, I2, pl, el, e2⟩ => ?_)
  subst el e2
  refine thn (po_none.run pins s2 σ H2 (fun o H3 => o = none ∧ H3 = H2) I2 ⟨rfl, rfl⟩) fun vu s3 ⟨u, H3, I3, pu, eu, e3⟩ => ?_
  subst eu e3
  refine thn (hst.run pins s3 σ H3 (fun o H4 => o = some (-1) ∧ H4 = H3) I3 ⟨1, rfl, -1, rfl, rfl, rfl⟩) fun vs s4 ⟨o, H4, I4, ps, eo, e4⟩ => ?_
  subst eo e4
  have I5 : Inv X pins σ H4 { s4 with heap := s4.heap.push { cls := .type "slice", data := .fields #[vl, vu, vs] } } := I4.kept (t' := s4.toks) fun b ob q => Heap.get?_push_of_some _ q
  rcases q1 with ⟨a, xs, ex, hx, q⟩ | ⟨a, xs, ex, hx, q⟩
  · subst ex
    cases r1
    obtain ⟨its, r, ht, hz⟩ := I5.list hx
    have hlen := r.length
    show wpAny (model X.prog X.w) X.A (subscriptTail e (.Slice none none (some (.UnaryOp .USub (.Constant (.int 1) k p1) p2)) p3) (.ref a) (.ref s4.heap.objs.size)) (EP X pins σ Q) X.xe { s4 with heap := s4.heap.push { cls := .type "slice", data := .fields #[vl, vu, vs] } }
    refine tail_any (ops := [.ref a, .ref s4.heap.objs.size]) ht.isList.typeIs (PySem.slot_list_getitem.lookup) ?_ (by with_unfolding_all rfl)
    refine wpAny_getItem_list_slice ht.isList (Heap.IsSliceOf.new _ vl vu vs) pl pu ps (by decide) ?_ (by rw [List.size_toArray]; omega)
    rw [PySem.W.krv_pick]
    refine ⟨.ref _, _, I5.laid (t' := s4.toks) (o := .lst xs.reverse) (fun b ob q => Heap.get?_push_of_some _ q) (Nat.le_refl _) ?_, rfl, q _ (I5.hok.fresh (Nat.le_refl _))⟩
    exact ⟨by rw [List.length_reverse]; exact hz, _, 0, r.reverse, Heap.get?_push_size _ rfl⟩
  · subst ex
    cases r1
    cases pl
    cases pu
    obtain ⟨its, r, ht, hz⟩ := I5.tuple hx
    have hlen := r.length
    show wpAny (model X.prog X.w) X.A (subscriptTail e (.Slice none none (some (.UnaryOp .USub (.Constant (.int 1) k p1) p2)) p3) (.ref a) (.ref s4.heap.objs.size)) (EP X pins σ Q) X.xe { s4 with heap := s4.heap.push { cls := .type "slice", data := .fields #[.none, .none, vs] } }
    refine tail_any (ops := [.ref a, .ref s4.heap.objs.size]) ht.typeIs (PyProof.Rows.slot_tuple_getitem.lookup) ?_ (by with_unfolding_all rfl)
    refine getItem_tuple_rev ht (Heap.IsSliceOf.new _ .none .none vs) ps ?_ (by rw [List.size_toArray]; omega)
    refine ⟨.ref _, _, I5.laid (t' := s4.toks) (o := .tup xs.reverse) (fun b ob q => Heap.get?_push_of_some _ q) (Nat.le_refl _) ?_, rfl, q _ (I5.hok.fresh (Nat.le_refl _))⟩
    exact ⟨by rw [List.length_reverse]; exact hz, _, r.reverse, IsTup.new _ _⟩
/-- x[::-1] -/
def gRev (g : DE) : DE := fun E ρ M Q => g E ρ M fun x M1 => match x with
  | .tup ds => Q (.tup ds.reverse) M1
  | x => onL M1 x fun ds => Q (.lst ds.reverse) M1
theorem fe_rev {k : Nat} {p1 p2 p3 pos : Pos} (he : FE K X W e ga) (hK : X.K = K := by rfl) : FE K X W (.Subscript e (.Slice none none (some (.UnaryOp .USub (.Constant (.int 1) k p1) p2)) p3) pos) (gRev ga) := by
  subst hK
  refine PE.imp (pe_revA he) fun σ H Q ⟨F, ρ, M, E, Q', s, x, q, h⟩ => tG_mk s x (fun F1 H1 M1 d v e1 m1 r1 h1 => ?_) h
  cases d with
  | tup ds =>
    unfold Rp at r1
    obtain ⟨l, vs, rfl, hv, rv⟩ := r1
    exact .inr ⟨l, vs, rfl, hv.sq, fun p hp => newT e1 m1 rv.reverse hp q h1⟩
  | lst ds =>
    obtain ⟨ds, l, vs, _, h4, rfl, hv, rv⟩ := onL_at m1 r1 h1
    exact .inl ⟨l, vs, rfl, SqL.of hv, fun p hp => newF e1 m1 rv.reverse hp q h4⟩
  | ref r =>
    obtain ⟨ds, l, vs, _, h4, rfl, hv, rv⟩ := onL_at m1 r1 h1
    exact .inl ⟨l, vs, rfl, SqL.of hv, fun p hp => newF e1 m1 rv.reverse hp q h4⟩
  | _ => exact h1.elim
end
section
variable {K : PySem.W.Frag} {E : DXK} {E2 : DEnds} {ρ : Dv} {M : Mem} {Q : DVK} {f m : Str} {C : Addr} {sp : SpD} {g go gf : DE} {ga : DA} {ds : List D}
theorem q_gFld : gFld K f g E ρ M Q = g E ρ M (fun x M1 => ∃ C fs d, InsD M1 x C fs ∧ Cls K C ∧ NoAttr K C f ∧ fs.lookup f = some d ∧ Q d M1) := rfl
theorem q_sFldD : sFldD K f g go E2 ρ M = g (fun x M => E2.ex x ρ M) ρ M (fun v M1 => go (fun x M => E2.ex x ρ M) ρ M1 fun o M2 => ∃ a C fs, o = .ref a ∧ M2 a = some (.ins C fs) ∧ Cls K C ∧ NoAttr K C f ∧ fs.length < 1000 ∧ E2.nx ρ (mset M2 a (.ins C (putD f v fs)))) := rfl
theorem q_gMake : gMake C sp ga E ρ M Q = ga E ρ M (fun ds M1 => ∀ x, M1 x = none → sp (.ref x :: ds) (mset M1 x (.ins C [])) (fun v M2 => v = .non ∧ ∃ fs, M2 x = some (.ins C fs) ∧ Q (.obj C fs) (mdel M2 x)) E) := rfl
theorem q_gCallI : gCallI C sp gf ga E ρ M Q = gf E ρ M (fun y M1 => (∃ fs, InsD M1 y C fs) ∧ ga E ρ M1 fun ds M2 => (∃ fs, InsD M2 y C fs) ∧ sp (y :: ds) M2 Q E) := rfl
theorem q_gMeth : gMeth C m sp gf ga E ρ M Q = gf E ρ M (fun y M1 => (∃ fs, InsD M1 y C fs ∧ fs.lookup m = none) ∧ ga E ρ M1 fun ds M2 => sp (y :: ds) M2 Q E) := rfl
theorem q_gRev : gRev g E ρ M Q = g E ρ M (fun x M1 => match x with
  | .tup ds => Q (.tup ds.reverse) M1
  | x => onL M1 x fun ds => Q (.lst ds.reverse) M1) := rfl
end
/-- a def of a class, as a def by positions -/
theorem fnM_of {P : Program} {w : World} {K : PySem.W.Frag} {mg : Str → Option Value} {base : Heap} {k : Nat} {f : Addr} {fd : FuncData} {ps : List Str} {sp : SpD} (F : FnD P w K mg base k f fd ps sp) (b : Binds K fd ps []) : FnM P w K mg base k f sp :=
  FnR.imp (F.raw b .nil) fun vs H Q E h => by rw [List.append_nil]; exact h
end DL

set_option maxHeartbeats 0
namespace LW
open PySem PySem.Spec PyProof.Rows L2 DL
def top (i : Nat) : Stmt := PySem.Challenge.pw_dicewins_k76_standing_over_for_many_thro.main.body.getD i (.Pass ⟨0, 0, 0, 0⟩)
abbrev s_is_int : Stmt := top 6
abbrev s_is_row : Stmt := top 7
abbrev s_check_within : Stmt := top 8
abbrev s_common_divisor : Stmt := top 9
abbrev s_die_of : Stmt := top 11
abbrev s_two_dice : Stmt := top 12
abbrev s_running : Stmt := top 13
abbrev s_belows : Stmt := top 14
abbrev s_stands_over : Stmt := top 15
abbrev s_lowest : Stmt := top 17
abbrev s_count_wins : Stmt := top 19
abbrev s_count_lead : Stmt := top 20
abbrev s_lead : Stmt := top 21
abbrev s_chance : Stmt := top 22
abbrev s_power_of : Stmt := top 25
abbrev s_greatest_die : Stmt := top 26
abbrev s_least_die : Stmt := top 27
abbrev s_chance_of_two : Stmt := top 30
abbrev s__law_draws : Stmt := top 32
abbrev s__law_take : Stmt := top 33
abbrev s__law_int : Stmt := top 34
abbrev s__law_divisor : Stmt := top 35
abbrev s__law_is_fraction : Stmt := top 36
abbrev s__law_same_worth : Stmt := top 37
abbrev s__law_at_most : Stmt := top 38
abbrev s__law_die : Stmt := top 39
abbrev s__law_dice : Stmt := top 40
abbrev s__law_lead : Stmt := top 41
abbrev s__law_over : Stmt := top 42
abbrev s__law_power : Stmt := top 43
abbrev s__law_most : Stmt := top 44
abbrev s__law_pair : Stmt := top 45
abbrev s__law_sign : Stmt := top 46
abbrev s__law_wins : Stmt := top 47
abbrev s__law_stands : Stmt := top 48
abbrev s__law_count_right : Stmt := top 49
abbrev s__law_rising : Stmt := top 50
abbrev s__law_two_right : Stmt := top 51
abbrev s__law_refusal : Stmt := top 52
abbrev s__law_refuses : Stmt := top 53
abbrev s_law : Stmt := top 54
abbrev s_BadNumber_init : Stmt := inClass (top 2) 0
abbrev s_BadDie_init : Stmt := inClass (top 3) 0
abbrev s_OtherSize_init : Stmt := inClass (top 4) 0
abbrev s_Greatest_init : Stmt := inClass (top 28) 0
abbrev s_Greatest_call : Stmt := inClass (top 28) 1
abbrev s_Least_init : Stmt := inClass (top 29) 0
abbrev s_Least_call : Stmt := inClass (top 29) 1
def d_is_int : He.DefD := ⟨("is_int", none), "is_int", "is_int", defArgs s_is_int, defBody s_is_int, defScope s_is_int, [], []⟩
def d_is_row : He.DefD := ⟨("is_row", none), "is_row", "is_row", defArgs s_is_row, defBody s_is_row, defScope s_is_row, [], []⟩
def d_check_within : He.DefD := ⟨("check_within", none), "check_within", "check_within", defArgs s_check_within, defBody s_check_within, defScope s_check_within, [], []⟩
def d_common_divisor : He.DefD := ⟨("common_divisor", none), "common_divisor", "common_divisor", defArgs s_common_divisor, defBody s_common_divisor, defScope s_common_divisor, [], []⟩
def d_die_of : He.DefD := ⟨("die_of", none), "die_of", "die_of", defArgs s_die_of, defBody s_die_of, defScope s_die_of, [], []⟩
def d_two_dice : He.DefD := ⟨("two_dice", none), "two_dice", "two_dice", defArgs s_two_dice, defBody s_two_dice, defScope s_two_dice, [], []⟩
def d_running : He.DefD := ⟨("running", none), "running", "running", defArgs s_running, defBody s_running, defScope s_running, [], []⟩
def d_belows : He.DefD := ⟨("belows", none), "belows", "belows", defArgs s_belows, defBody s_belows, defScope s_belows, [], []⟩
def d_stands_over : He.DefD := ⟨("stands_over", none), "stands_over", "stands_over", defArgs s_stands_over, defBody s_stands_over, defScope s_stands_over, [], []⟩
def d_lowest : He.DefD := ⟨("lowest", none), "lowest", "lowest", defArgs s_lowest, defBody s_lowest, defScope s_lowest, [], []⟩
def d_count_wins : He.DefD := ⟨("count_wins", none), "count_wins", "count_wins", defArgs s_count_wins, defBody s_count_wins, defScope s_count_wins, [], []⟩
def d_count_lead : He.DefD := ⟨("count_lead", none), "count_lead", "count_lead", defArgs s_count_lead, defBody s_count_lead, defScope s_count_lead, [], []⟩
def d_lead : He.DefD := ⟨("lead", none), "lead", "lead", defArgs s_lead, defBody s_lead, defScope s_lead, [], []⟩
def d_chance : He.DefD := ⟨("chance", none), "chance", "chance", defArgs s_chance, defBody s_chance, defScope s_chance, [], []⟩
def d_power_of : He.DefD := ⟨("power_of", none), "power_of", "power_of", defArgs s_power_of, defBody s_power_of, defScope s_power_of, [], []⟩
def d_greatest_die : He.DefD := ⟨("greatest_die", none), "greatest_die", "greatest_die", defArgs s_greatest_die, defBody s_greatest_die, defScope s_greatest_die, [], []⟩
def d_least_die : He.DefD := ⟨("least_die", none), "least_die", "least_die", defArgs s_least_die, defBody s_least_die, defScope s_least_die, [], []⟩
def d_chance_of_two : He.DefD := ⟨("chance_of_two", none), "chance_of_two", "chance_of_two", defArgs s_chance_of_two, defBody s_chance_of_two, defScope s_chance_of_two, [], []⟩
def d__law_draws : He.DefD := ⟨("_law_draws", none), "_law_draws", "_law_draws", defArgs s__law_draws, defBody s__law_draws, defScope s__law_draws, [], []⟩
def d__law_take : He.DefD := ⟨("_law_take", none), "_law_take", "_law_take", defArgs s__law_take, defBody s__law_take, defScope s__law_take, [], []⟩
def d__law_int : He.DefD := ⟨("_law_int", none), "_law_int", "_law_int", defArgs s__law_int, defBody s__law_int, defScope s__law_int, [], []⟩
def d__law_divisor : He.DefD := ⟨("_law_divisor", none), "_law_divisor", "_law_divisor", defArgs s__law_divisor, defBody s__law_divisor, defScope s__law_divisor, [], []⟩
def d__law_is_fraction : He.DefD := ⟨("_law_is_fraction", none), "_law_is_fraction", "_law_is_fraction", defArgs s__law_is_fraction, defBody s__law_is_fraction, defScope s__law_is_fraction, [], []⟩
def d__law_same_worth : He.DefD := ⟨("_law_same_worth", none), "_law_same_worth", "_law_same_worth", defArgs s__law_same_worth, defBody s__law_same_worth, defScope s__law_same_worth, [], []⟩
def d__law_at_most : He.DefD := ⟨("_law_at_most", none), "_law_at_most", "_law_at_most", defArgs s__law_at_most, defBody s__law_at_most, defScope s__law_at_most, [], []⟩
def d__law_die : He.DefD := ⟨("_law_die", none), "_law_die", "_law_die", defArgs s__law_die, defBody s__law_die, defScope s__law_die, [], []⟩
def d__law_dice : He.DefD := ⟨("_law_dice", none), "_law_dice", "_law_dice", defArgs s__law_dice, defBody s__law_dice, defScope s__law_dice, [], []⟩
def d__law_lead : He.DefD := ⟨("_law_lead", none), "_law_lead", "_law_lead", defArgs s__law_lead, defBody s__law_lead, defScope s__law_lead, [], []⟩
def d__law_over : He.DefD := ⟨("_law_over", none), "_law_over", "_law_over", defArgs s__law_over, defBody s__law_over, defScope s__law_over, [], []⟩
def d__law_power : He.DefD := ⟨("_law_power", none), "_law_power", "_law_power", defArgs s__law_power, defBody s__law_power, defScope s__law_power, [], []⟩
def d__law_most : He.DefD := ⟨("_law_most", none), "_law_most", "_law_most", defArgs s__law_most, defBody s__law_most, defScope s__law_most, [], []⟩
def d__law_pair : He.DefD := ⟨("_law_pair", none), "_law_pair", "_law_pair", defArgs s__law_pair, defBody s__law_pair, defScope s__law_pair, [], []⟩
def d__law_sign : He.DefD := ⟨("_law_sign", none), "_law_sign", "_law_sign", defArgs s__law_sign, defBody s__law_sign, defScope s__law_sign, [], []⟩
def d__law_wins : He.DefD := ⟨("_law_wins", none), "_law_wins", "_law_wins", defArgs s__law_wins, defBody s__law_wins, defScope s__law_wins, [], []⟩
def d__law_stands : He.DefD := ⟨("_law_stands", none), "_law_stands", "_law_stands", defArgs s__law_stands, defBody s__law_stands, defScope s__law_stands, [], []⟩
def d__law_count_right : He.DefD := ⟨("_law_count_right", none), "_law_count_right", "_law_count_right", defArgs s__law_count_right, defBody s__law_count_right, defScope s__law_count_right, [], []⟩
def d__law_rising : He.DefD := ⟨("_law_rising", none), "_law_rising", "_law_rising", defArgs s__law_rising, defBody s__law_rising, defScope s__law_rising, [], []⟩
def d__law_two_right : He.DefD := ⟨("_law_two_right", none), "_law_two_right", "_law_two_right", defArgs s__law_two_right, defBody s__law_two_right, defScope s__law_two_right, [], []⟩
def d__law_refusal : He.DefD := ⟨("_law_refusal", none), "_law_refusal", "_law_refusal", defArgs s__law_refusal, defBody s__law_refusal, defScope s__law_refusal, [], []⟩
def d__law_refuses : He.DefD := ⟨("_law_refuses", none), "_law_refuses", "_law_refuses", defArgs s__law_refuses, defBody s__law_refuses, defScope s__law_refuses, [], []⟩
def d_law : He.DefD := ⟨("law", none), "law", "law", defArgs s_law, defBody s_law, defScope s_law, [], []⟩
def d_BadNumber_init : He.DefD := ⟨("BadNumber", some "__init__"), "__init__", "BadNumber.__init__", defArgs s_BadNumber_init, defBody s_BadNumber_init, defScope s_BadNumber_init, [], []⟩
def d_BadDie_init : He.DefD := ⟨("BadDie", some "__init__"), "__init__", "BadDie.__init__", defArgs s_BadDie_init, defBody s_BadDie_init, defScope s_BadDie_init, [], []⟩
def d_OtherSize_init : He.DefD := ⟨("OtherSize", some "__init__"), "__init__", "OtherSize.__init__", defArgs s_OtherSize_init, defBody s_OtherSize_init, defScope s_OtherSize_init, [], []⟩
def d_Greatest_init : He.DefD := ⟨("Greatest", some "__init__"), "__init__", "Greatest.__init__", defArgs s_Greatest_init, defBody s_Greatest_init, defScope s_Greatest_init, [], []⟩
def d_Greatest_call : He.DefD := ⟨("Greatest", some "__call__"), "__call__", "Greatest.__call__", defArgs s_Greatest_call, defBody s_Greatest_call, defScope s_Greatest_call, [], []⟩
def d_Least_init : He.DefD := ⟨("Least", some "__init__"), "__init__", "Least.__init__", defArgs s_Least_init, defBody s_Least_init, defScope s_Least_init, [], []⟩
def d_Least_call : He.DefD := ⟨("Least", some "__call__"), "__call__", "Least.__call__", defArgs s_Least_call, defBody s_Least_call, defScope s_Least_call, [], []⟩
def fn : List He.DefD := [d_is_int, d_is_row, d_check_within, d_common_divisor, d_die_of, d_two_dice, d_running, d_belows, d_stands_over, d_lowest, d_count_wins, d_count_lead, d_lead, d_chance, d_power_of, d_greatest_die, d_least_die, d_chance_of_two, d__law_draws, d__law_take, d__law_int, d__law_divisor, d__law_is_fraction, d__law_same_worth, d__law_at_most, d__law_die, d__law_dice, d__law_lead, d__law_over, d__law_power, d__law_most, d__law_pair, d__law_sign, d__law_wins, d__law_stands, d__law_count_right, d__law_rising, d__law_two_right, d__law_refusal, d__law_refuses, d_law, d_BadNumber_init, d_BadDie_init, d_OtherSize_init, d_Greatest_init, d_Greatest_call, d_Least_init, d_Least_call]
def fa0 : List He.Fa := [.glo "is_int", .glo "is_row", .glo "check_within", .glo "common_divisor", .glo "die_of", .glo "two_dice", .glo "running", .glo "belows", .glo "stands_over", .glo "lowest", .glo "count_wins", .glo "count_lead", .glo "lead", .glo "chance", .glo "power_of", .glo "greatest_die", .glo "least_die", .glo "chance_of_two", .glo "_law_draws", .glo "_law_take", .glo "_law_int", .glo "_law_divisor", .glo "_law_is_fraction", .glo "_law_same_worth"]
def fa1 : List He.Fa := [.glo "_law_at_most", .glo "_law_die", .glo "_law_dice", .glo "_law_lead", .glo "_law_over", .glo "_law_power", .glo "_law_most", .glo "_law_pair", .glo "_law_sign", .glo "_law_wins", .glo "_law_stands", .glo "_law_count_right", .glo "_law_rising", .glo "_law_two_right", .glo "_law_refusal", .glo "_law_refuses", .glo "law", .glo "DiceError", .glo "BadNumber", .glo "BadDie", .glo "OtherSize", .glo "Greatest", .glo "Least", .free "ValueError"]
def fa2 : List He.Fa := [.free "abs", .free "all", .free "bool", .free "enumerate", .free "int", .free "isinstance", .free "len", .free "list", .free "min", .free "range", .free "sum", .free "tuple", .free "zip", .int "MOST_THROWS" 4000]
def fa : List He.Fa := fa0 ++ fa1 ++ fa2
def ex0 (K : PySem.W.Frag) : Bool := DL.exB K "DiceError" [] false && (DL.exB K "BadNumber" ["name"] true && (DL.exB K "BadDie" ["place"] true && (DL.exB K "OtherSize" ["first", "second"] true && (DL.exmB K "DiceError" "DiceError" true && (DL.exmB K "DiceError" "BadNumber" false && (DL.exmB K "DiceError" "BadDie" false && (DL.exmB K "DiceError" "OtherSize" false && (DL.isiB K "DiceError" "DiceError" true && (DL.isiB K "DiceError" "BadNumber" false && (DL.isiB K "DiceError" "BadDie" false && (DL.isiB K "DiceError" "OtherSize" false && (DL.exmB K "BadNumber" "DiceError" true && (DL.exmB K "BadNumber" "BadNumber" true && (DL.exmB K "BadNumber" "BadDie" false && (DL.exmB K "BadNumber" "OtherSize" false && (DL.isiB K "BadNumber" "DiceError" true && (DL.isiB K "BadNumber" "BadNumber" true && (DL.isiB K "BadNumber" "BadDie" false && (DL.isiB K "BadNumber" "OtherSize" false && (DL.exmB K "BadDie" "DiceError" true && (DL.exmB K "BadDie" "BadNumber" false && (DL.exmB K "BadDie" "BadDie" true && (DL.exmB K "BadDie" "OtherSize" false)))))))))))))))))))))))
def ex1 (K : PySem.W.Frag) : Bool := DL.isiB K "BadDie" "DiceError" true && (DL.isiB K "BadDie" "BadNumber" false && (DL.isiB K "BadDie" "BadDie" true && (DL.isiB K "BadDie" "OtherSize" false && (DL.exmB K "OtherSize" "DiceError" true && (DL.exmB K "OtherSize" "BadNumber" false && (DL.exmB K "OtherSize" "BadDie" false && (DL.exmB K "OtherSize" "OtherSize" true && (DL.isiB K "OtherSize" "DiceError" true && (DL.isiB K "OtherSize" "BadNumber" false && (DL.isiB K "OtherSize" "BadDie" false && (DL.isiB K "OtherSize" "OtherSize" true && (DL.clB K "Greatest" ["count"] ["__call__"] && (DL.clB K "Least" ["count"] ["__call__"])))))))))))))
def ex (K : PySem.W.Frag) : Bool := ex0 K && ex1 K
def loose0 : List PySem.Str := ["DiceError", "BadNumber", "BadDie", "OtherSize", "is_int", "is_row", "check_within", "common_divisor", "die_of", "two_dice", "running", "belows", "stands_over", "lowest", "count_wins", "count_lead", "lead", "chance", "MOST_THROWS", "power_of", "greatest_die", "least_die", "Greatest", "Least"]
def loose1 : List PySem.Str := ["chance_of_two", "_law_draws", "_law_take", "_law_int", "_law_divisor", "_law_is_fraction", "_law_same_worth", "_law_at_most", "_law_die", "_law_dice", "_law_lead", "_law_over", "_law_power", "_law_most", "_law_pair", "_law_sign", "_law_wins", "_law_stands", "_law_count_right", "_law_rising", "_law_two_right", "_law_refusal", "_law_refuses"]
def loose : List PySem.Str := loose0 ++ loose1
abbrev R : PySem.W.OpenRow := PySem.W.OpenLaw.row PySem.Challenge.rw_dicewins_k76_standing_over_for_many_thro
abbrev hk : PySem.W.Hook := He.hookX 4 fa fn [] [] ex
def ob (s : PySem.W.SharedT) : He.AlX := He.obsX 4 fa fn [] [] ex (HandSHeadRun.getT s)
theorem ob_eq (s : PySem.W.SharedT) : ob s = hk.obs s.abs := He.obsX_eq (HandSHeadRun.getT_eq s)
theorem run (w : World) : HandSHeadRun.RunEq R (PySem.W.view R.prog [54]) hk ob 4000 loose w := by
  intro os
  kernel_rfl
end LW

namespace LW
open PySem PySem.Spec PyProof.Rows L2 DL
abbrev iD (ns : List Int) : List D := ns.map D.int
def nb (n : Nat) (x : Int) : Prop := x.natAbs < 2 ^ n
def inI : D → Option Int
  | .int i => some i
  | _ => none
def intsOf (xs : List D) : List Int := xs.filterMap inI
def kindB : D → Bool
  | .non => true
  | .bl _ => true
  | .int _ => true
  | .str _ => true
  | .tup _ => true
  | .lst _ => true
  | _ => false
def Pool (M : Mem) (p : Addr) : Prop := ∃ xs : List Int, M p = some (.lst (iD xs))
def xBN (K : PySem.W.Frag) (s : Str) : DX := exOf (He.ga K "BadNumber") ["name"] [.str s]
def xBD (K : PySem.W.Frag) (p : Int) : DX := exOf (He.ga K "BadDie") ["place"] [.int p]
def xOS (K : PySem.W.Frag) (a b : Int) : DX := exOf (He.ga K "OtherSize") ["first", "second"] [.int a, .int b]
/-- a row of any things, or no row -/
def rowK (M : Mem) (d : D) (bad : Prop) (k : List D → Prop) : Prop := (∃ t, kdOf M d = some t ∧ t ≠ .tuple ∧ t ≠ .list ∧ bad) ∨ ∃ xs, RowD M d xs ∧ xs.all kindB = true ∧ xs.length < 1000 ∧ (∀ a ∈ intsOf xs, nb 300 a) ∧ k xs
def geD (lo : Int) : D → Bool
  | .int a => decide (lo ≤ a)
  | _ => false
def badAt : List D → Nat → Option Int
  | [], _ => none
  | x :: xs, i => if geD 0 x then badAt xs (i + 1) else some (i : Nat)
/-- what die_of tells against a row -/
def dieE (xs : List D) : Option Int := match badAt xs 0 with
  | some p => some p
  | none => if (intsOf xs).sum = 0 then some (-1) else none
def dieC (K : PySem.W.Frag) (M : Mem) (d : D) (E : DXK) (k : List Int → Prop) : Prop := rowK M d (E (xBD K (-1)) M) fun xs => match dieE xs with
  | some p => E (xBD K p) M
  | none => k (intsOf xs)
def twoC (K : PySem.W.Frag) (M : Mem) (a b : D) (E : DXK) (k : List Int → List Int → Prop) : Prop := dieC K M a E fun one => dieC K M b E fun other =>
  if one.length ≠ other.length then E (xOS K one.length other.length) M else k one other
/-- an integer within a .. b; of at least a -/
def withinC (K : PySem.W.Frag) (M : Mem) (v : D) (nm : Str) (a b : Int) (E : DXK) (k : Int → Prop) : Prop := (∃ i, v = .int i ∧ a ≤ i ∧ i ≤ b ∧ k i) ∨ (kindB v = true ∧ (∀ i, v = .int i → ¬ (a ≤ i ∧ i ≤ b)) ∧ E (xBN K nm) M)
def fromC (K : PySem.W.Frag) (M : Mem) (v : D) (nm : Str) (a : Int) (E : DXK) (k : Int → Prop) : Prop := (∃ i, v = .int i ∧ a ≤ i ∧ k i) ∨ (kindB v = true ∧ (∀ i, v = .int i → ¬ a ≤ i) ∧ E (xBN K nm) M)
def S1 (n : Nat) (f : Nat → Int) : Int := ((List.range n).map f).sum
def pre (l : List Int) (i : Nat) : Int := (l.take i).sum
def winsI (a b : List Int) : Int := S1 a.length fun i => a.getD i 0 * pre b i
def tiesI (a b : List Int) : Int := S1 a.length fun i => a.getD i 0 * b.getD i 0
def leadI (a b : List Int) : Int := winsI a b - winsI b a
def runL (a : List Int) : List Int := (List.range (a.length + 1)).map (pre a)
def gcdL (ns : List Int) : Nat := ns.foldl (fun g a => Nat.gcd g a.natAbs) 0
def lo (t b : Int) : Int × Int := (t / (Int.gcd t b : Int), b / (Int.gcd t b : Int))
def frD (t b : Int) : D := .tup [.int (lo t b).1, .int (lo t b).2]
def sp_is_int (K : PySem.W.Frag) : SpD := sp1 fun d M Q E => ∃ k, kdOf M d = some k ∧ Q (.bl (k == .int)) M
def sp_is_row (K : PySem.W.Frag) : SpD := sp1 fun d M Q E => ∃ k, kdOf M d = some k ∧ Q (.bl (k == .tuple || k == .list)) M
def sp_check_within (K : PySem.W.Frag) : SpD := sp4 fun v n l h M Q E => ∃ (nm : Str) (a b : Int), n = .str nm ∧ l = .int a ∧ h = .int b ∧ withinC K M v nm a b E fun _ => Q v M
def sp_common_divisor (K : PySem.W.Frag) : SpD := sp1 fun r M Q E => ∃ ns : List Int, RowD M r (iD ns) ∧ (∀ a ∈ ns, nb 4000 a) ∧ Q (.int (gcdL ns : Nat)) M
def sp_die_of (K : PySem.W.Frag) : SpD := sp1 fun d M Q E => dieC K M d E fun ns => Q (.tup (iD ns)) M
def sp_two_dice (K : PySem.W.Frag) : SpD := sp2 fun a b M Q E => twoC K M a b E fun one other => Q (.tup [.tup (iD one), .tup (iD other)]) M
def sp_running (K : PySem.W.Frag) : SpD := sp1 fun r M Q E => ∃ ns : List Int, RowD M r (iD ns) ∧ ns.length < 1000 ∧ Q (.tup (iD (runL ns))) M
def sp_belows (K : PySem.W.Frag) : SpD := sp1 fun d M Q E => dieC K M d E fun row => Q (.tup (iD (runL row))) M
def sp_lowest (K : PySem.W.Frag) : SpD := sp2 fun t b M Q E => ∃ t' b' : Int, t = .int t' ∧ b = .int b' ∧ 0 < b' ∧ nb 3000 t' ∧ nb 3000 b' ∧ Q (frD t' b') M
/-- two checked dice -/
def Dies (a b : D) (one other : List Int) : Prop := a = .tup (iD one) ∧ b = .tup (iD other) ∧ one.length = other.length ∧ one.length < 1000 ∧ (∀ x ∈ one, nb 300 x) ∧ ∀ x ∈ other, nb 300 x
def sp_count_wins (K : PySem.W.Frag) : SpD := sp2 fun a b M Q E => ∃ one other, Dies a b one other ∧ Q (.int (winsI one other)) M
def sp_count_lead (K : PySem.W.Frag) : SpD := sp2 fun a b M Q E => ∃ one other, Dies a b one other ∧ Q (.int (leadI one other)) M
def sp_lead (K : PySem.W.Frag) : SpD := sp2 fun a b M Q E => twoC K M a b E fun one other => Q (.int (leadI one other)) M
def sp_chance (K : PySem.W.Frag) : SpD := sp2 fun a b M Q E => twoC K M a b E fun one other => Q (frD (winsI one other) (one.sum * other.sum)) M
def sp__law_draws (K : PySem.W.Frag) : SpD := sp1 fun d M Q E => ∃ ns : List Int, d = .scr ns ∧ ∀ p xs, M p = none → Q (.ref p) (mset M p (.lst (iD xs)))
def sp__law_take (K : PySem.W.Frag) : SpD := sp2 fun d m M Q E => ∃ (p : Addr) (n : Int), d = .ref p ∧ m = .int n ∧ 0 < n ∧ Pool M p ∧ ∀ (r : Int) (xs : List Int), 0 ≤ r → r < n → Q (.int r) (mset M p (.lst (iD xs)))
def sp__law_int (K : PySem.W.Frag) : SpD := sp1 fun d M Q E => ∃ k, kdOf M d = some k ∧ Q (.bl (k == .int)) M
def sp__law_divisor (K : PySem.W.Frag) : SpD := sp2 fun a b M Q E => ∃ x y : Int, a = .int x ∧ b = .int y ∧ 0 ≤ y ∧ nb 1500 y ∧ Q (.int (Int.gcd x y : Nat)) M
def sp__law_is_fraction (K : PySem.W.Frag) : SpD := sp1 fun v M Q E => ∃ t b : Int, v = frD t b ∧ 0 < b ∧ nb 1400 b ∧ Q (.bl true) M
def sp__law_same_worth (K : PySem.W.Frag) : SpD := sp2 fun x y M Q E => ∃ a b c d : Int, x = .tup [.int a, .int b] ∧ y = .tup [.int c, .int d] ∧ nb 1500 a ∧ nb 1500 b ∧ nb 1500 c ∧ nb 1500 d ∧ Q (.bl (decide (a * d = c * b))) M
def sp__law_die (K : PySem.W.Frag) : SpD := sp2 fun d m M Q E => ∃ (p : Addr) (n : Nat), d = .ref p ∧ m = .int (n : Nat) ∧ 1 ≤ n ∧ n ≤ 7 ∧ Pool M p ∧ ∀ row xs : List Int, row.length = n → (∀ a ∈ row, 0 ≤ a ∧ a ≤ 3) → 0 < row.sum → Q (.lst (iD row)) (mset M p (.lst (iD xs)))
/-! the law's own -/
/-- one stands over other -/
def overB (a b : List Int) : Bool := (List.range (a.length + 1)).all fun j => decide (b.sum * pre a j ≤ a.sum * pre b j)
/-- the die of the greatest of n throws -/
def mostL (a : List Int) (n : Nat) : List Int := (List.range a.length).map fun i => pre a (i + 1) ^ n - pre a i ^ n
def leastL (a : List Int) (n : Nat) : List Int := (mostL a.reverse n).reverse
/-- a row of numbers from 0 on, not all 0, small -/
def Good (M : Mem) (d : D) (row : List Int) : Prop := RowD M d (iD row) ∧ row.length < 1000 ∧ (∀ a ∈ row, 0 ≤ a) ∧ 0 < row.sum ∧ row.sum < 2 ^ 60
def CntOk (row : List Int) (n : Nat) : Prop := 1 ≤ n ∧ n ≤ 9 ∧ row.sum ^ n < 2 ^ 250
def sp_stands_over (K : PySem.W.Frag) : SpD := sp2 fun a b M Q E => twoC K M a b E fun one other => Q (.bl (overB one other)) M
def sp_power_of (K : PySem.W.Frag) : SpD := sp2 fun x n M Q E => ∃ (i : Int) (k : Nat), x = .int i ∧ n = .int (k : Nat) ∧ k ≤ 9 ∧ nb 300 i ∧ Q (.int (i ^ k)) M
def sp_greatest_die (K : PySem.W.Frag) : SpD := sp2 fun d c M Q E => (∃ row n, Good M d row ∧ CntOk row n ∧ c = .int (n : Nat) ∧ Q (.tup (iD (mostL row n))) M) ∨ dieC K M d E fun _ => withinC K M c "count" 1 4000 E fun _ => False
def sp_least_die (K : PySem.W.Frag) : SpD := sp2 fun d c M Q E => ∃ row n, Good M d row ∧ CntOk row n ∧ c = .int (n : Nat) ∧ Q (.tup (iD (leastL row n))) M
def sp_Greatest_init (K : PySem.W.Frag) : SpD := sp2 fun self c M Q E => ∃ x, self = .ref x ∧ M x = some (.ins (He.ga K "Greatest") []) ∧ withinC K M c "count" 1 4000 E fun n => Q .non (mset M x (.ins (He.ga K "Greatest") [("count", .int n)]))
def sp_Least_init (K : PySem.W.Frag) : SpD := sp2 fun self c M Q E => ∃ x, self = .ref x ∧ M x = some (.ins (He.ga K "Least") []) ∧ withinC K M c "count" 1 4000 E fun n => Q .non (mset M x (.ins (He.ga K "Least") [("count", .int n)]))
def sp_Greatest_call (K : PySem.W.Frag) : SpD := sp2 fun self d M Q E => ∃ row n, self = .obj (He.ga K "Greatest") [("count", .int (n : Nat))] ∧ Good M d row ∧ CntOk row n ∧ Q (.tup (iD (mostL row n))) M
def sp_Least_call (K : PySem.W.Frag) : SpD := sp2 fun self d M Q E => ∃ row n, self = .obj (He.ga K "Least") [("count", .int (n : Nat))] ∧ Good M d row ∧ CntOk row n ∧ Q (.tup (iD (leastL row n))) M
def sp_chance_of_two (K : PySem.W.Frag) : SpD := sp4 fun a c b o M Q E =>
  (∃ one other n m, Good M a one ∧ Good M b other ∧ CntOk one n ∧ CntOk other m ∧ c = .int (n : Nat) ∧ o = .int (m : Nat) ∧ if one.length ≠ other.length then E (xOS K one.length other.length) M else Q (frD (winsI (mostL one n) (mostL other m)) (one.sum ^ n * other.sum ^ m)) M) ∨
  (∃ one n, Good M a one ∧ CntOk one n ∧ c = .int (n : Nat) ∧ dieC K M b E fun _ => withinC K M o "other" 1 4000 E fun _ => False) ∨
  dieC K M a E fun _ => withinC K M c "count" 1 4000 E fun _ => False
/-- two dice of the law -/
def Pair (M : Mem) (a b : D) (one other : List Int) : Prop := Good M a one ∧ Good M b other ∧ one.length = other.length
def sp__law_at_most (K : PySem.W.Frag) : SpD := sp2 fun x y M Q E => ∃ a b c d : Int, x = .tup [.int a, .int b] ∧ y = .tup [.int c, .int d] ∧ nb 1500 a ∧ nb 1500 b ∧ nb 1500 c ∧ nb 1500 d ∧ Q (.bl (decide (a * d ≤ c * b))) M
def DiceR (n : Nat) (rs : List (List Int)) : Prop := ∀ r ∈ rs, r.length = n ∧ (∀ a ∈ r, 0 ≤ a ∧ a ≤ 12) ∧ 0 < r.sum
def sp__law_dice (K : PySem.W.Frag) : SpD := sp3 fun d m r M Q E => ∃ (p : Addr) (n : Nat), d = .ref p ∧ m = .int 2 ∧ r = .int (n : Nat) ∧ 1 ≤ n ∧ n ≤ 7 ∧ Pool M p ∧
  ∀ (rs : List (List Int)) (xs : List Int), rs.length = 2 → DiceR n rs → Q (.lst (rs.map fun r => .lst (iD r))) (mset M p (.lst (iD xs)))
/-- small numbers of a row -/
def Rows2 (M : Mem) (a b : D) (one other : List Int) : Prop := RowD M a (iD one) ∧ RowD M b (iD other) ∧ one.length = other.length ∧ one.length < 1000 ∧ (∀ x ∈ one, nb 300 x) ∧ ∀ x ∈ other, nb 300 x
def sp__law_lead (K : PySem.W.Frag) : SpD := sp2 fun a b M Q E => ∃ one other, Rows2 M a b one other ∧ Q (.int (leadI one other)) M
def sp__law_over (K : PySem.W.Frag) : SpD := sp2 fun a b M Q E => ∃ one other, Rows2 M a b one other ∧ Q (.bl (overB one other)) M
def sp__law_wins (K : PySem.W.Frag) : SpD := sp2 fun a b M Q E => ∃ one other, Rows2 M a b one other ∧ Q (.int (winsI one other)) M
def sp__law_power (K : PySem.W.Frag) : SpD := sp2 fun x n M Q E => ∃ (i : Int) (k : Nat), x = .int i ∧ n = .int (k : Nat) ∧ k ≤ 100 ∧ nb 300 i ∧ Q (.int (i ^ k)) M
def sp__law_most (K : PySem.W.Frag) : SpD := sp2 fun d c M Q E => ∃ (row : List Int) (n : Nat), RowD M d (iD row) ∧ row.length < 1000 ∧ (∀ j, nb 300 (pre row j)) ∧ n ≤ 9 ∧ c = .int (n : Nat) ∧ Q (.lst (iD (mostL row n))) M
def sp__law_sign (K : PySem.W.Frag) : SpD := sp1 fun x M Q E => ∃ i : Int, x = .int i ∧ Q (.int (if 0 < i then 1 else if i < 0 then -1 else 0)) M
def sp__law_stands (K : PySem.W.Frag) : SpD := sp3 fun a b u M Q E => ∃ one other v, Rows2 M a b one other ∧ (∀ x ∈ one, 0 ≤ x) ∧ (∀ x ∈ other, 0 ≤ x) ∧ 0 < one.sum ∧ 0 < other.sum ∧ u = .bl v ∧ Q (.bl (overB one other == v)) M
/-- two drawn dice -/
def Drawn (a b : List Int) : Prop := 1 ≤ a.length ∧ a.length ≤ 7 ∧ a.length = b.length ∧ (∀ x ∈ a, 0 ≤ x) ∧ (∀ x ∈ b, 0 ≤ x) ∧ 0 < a.sum ∧ 0 < b.sum ∧ a.sum ≤ 100 ∧ b.sum ≤ 100
def sp__law_pair (K : PySem.W.Frag) : SpD := sp1 fun d M Q E => ∃ p, d = .ref p ∧ Pool M p ∧ ∀ a b xs : List Int, Drawn a b → Q (.lst [.lst (iD a), .lst (iD b)]) (mset M p (.lst (iD xs)))
def sp__law_count_right (K : PySem.W.Frag) : SpD := sp3 fun a b c M Q E => ∃ (one other : List Int) (n : Nat), a = .lst (iD one) ∧ b = .lst (iD other) ∧ c = .int (n : Nat) ∧ Drawn one other ∧ 1 ≤ n ∧ n ≤ 9 ∧ Q (.bl true) M
def sp__law_rising (K : PySem.W.Frag) : SpD := sp2 fun a b M Q E => ∃ one other : List Int, a = .lst (iD one) ∧ b = .lst (iD other) ∧ Drawn one other ∧ Q (.bl true) M
def sp__law_two_right (K : PySem.W.Frag) : SpD := sp4 fun a c b o M Q E => ∃ (one other : List Int) (n m : Nat), a = .lst (iD one) ∧ b = .lst (iD other) ∧ c = .int (n : Nat) ∧ o = .int (m : Nat) ∧ Drawn one other ∧ 1 ≤ n ∧ n ≤ 9 ∧ 1 ≤ m ∧ m ≤ 9 ∧ Q (.bl true) M
def toldX (K : PySem.W.Frag) (Q : DVK) : DXK := fun x M => (∃ p, x = xBD K p ∧ Q (.lst [.str "die", .int p, .int 0]) M) ∨ (∃ s, x = xBN K s ∧ Q (.lst [.str "number", .str s, .int 0]) M) ∨ ∃ a b, x = xOS K a b ∧ Q (.lst [.str "size", .int a, .int b]) M
def sp__law_refusal (K : PySem.W.Frag) : SpD := sp4 fun a c b o M Q E =>
  (∃ one other n m, Good M a one ∧ Good M b other ∧ CntOk one n ∧ CntOk other m ∧ c = .int (n : Nat) ∧ o = .int (m : Nat) ∧ one.length ≠ other.length ∧ Q (.lst [.str "size", .int one.length, .int other.length]) M) ∨
  (∃ one n, Good M a one ∧ CntOk one n ∧ c = .int (n : Nat) ∧ dieC K M b (toldX K Q) fun _ => withinC K M o "other" 1 4000 (toldX K Q) fun _ => False) ∨
  dieC K M a (toldX K Q) fun _ => withinC K M c "count" 1 4000 (toldX K Q) fun _ => False
def sp__law_refuses (K : PySem.W.Frag) : SpD := sp3 fun d a b M Q E => ∃ p one other, d = .ref p ∧ a = .lst (iD one) ∧ b = .lst (iD other) ∧ Drawn one other ∧ Pool M p ∧ ∀ xs : List Int, Q (.bl true) (mset M p (.lst (iD xs)))
def sp_law (K : PySem.W.Frag) : SpD := sp1 fun d M Q E => ∃ ns : List Int, d = .scr ns ∧ ∀ M', Q (.bl true) M'
end LW

set_option maxHeartbeats 0
namespace LW
open PySem PySem.Spec PyProof.Rows L2 DL
/-- what the head tells -/
structure Tx (K : PySem.W.Frag) (mg : Str → Option Value) : Prop where
  g_is_int : mg "is_int" = some (.ref (He.ga K "is_int"))
  F_is_int : ∃ fd, Fun K "is_int" "is_int" s_is_int (He.ga K "is_int") fd
  g_is_row : mg "is_row" = some (.ref (He.ga K "is_row"))
  F_is_row : ∃ fd, Fun K "is_row" "is_row" s_is_row (He.ga K "is_row") fd
  g_check_within : mg "check_within" = some (.ref (He.ga K "check_within"))
  F_check_within : ∃ fd, Fun K "check_within" "check_within" s_check_within (He.ga K "check_within") fd
  g_common_divisor : mg "common_divisor" = some (.ref (He.ga K "common_divisor"))
  F_common_divisor : ∃ fd, Fun K "common_divisor" "common_divisor" s_common_divisor (He.ga K "common_divisor") fd
  g_die_of : mg "die_of" = some (.ref (He.ga K "die_of"))
  F_die_of : ∃ fd, Fun K "die_of" "die_of" s_die_of (He.ga K "die_of") fd
  g_two_dice : mg "two_dice" = some (.ref (He.ga K "two_dice"))
  F_two_dice : ∃ fd, Fun K "two_dice" "two_dice" s_two_dice (He.ga K "two_dice") fd
  g_running : mg "running" = some (.ref (He.ga K "running"))
  F_running : ∃ fd, Fun K "running" "running" s_running (He.ga K "running") fd
  g_belows : mg "belows" = some (.ref (He.ga K "belows"))
  F_belows : ∃ fd, Fun K "belows" "belows" s_belows (He.ga K "belows") fd
  g_stands_over : mg "stands_over" = some (.ref (He.ga K "stands_over"))
  F_stands_over : ∃ fd, Fun K "stands_over" "stands_over" s_stands_over (He.ga K "stands_over") fd
  g_lowest : mg "lowest" = some (.ref (He.ga K "lowest"))
  F_lowest : ∃ fd, Fun K "lowest" "lowest" s_lowest (He.ga K "lowest") fd
  g_count_wins : mg "count_wins" = some (.ref (He.ga K "count_wins"))
  F_count_wins : ∃ fd, Fun K "count_wins" "count_wins" s_count_wins (He.ga K "count_wins") fd
  g_count_lead : mg "count_lead" = some (.ref (He.ga K "count_lead"))
  F_count_lead : ∃ fd, Fun K "count_lead" "count_lead" s_count_lead (He.ga K "count_lead") fd
  g_lead : mg "lead" = some (.ref (He.ga K "lead"))
  F_lead : ∃ fd, Fun K "lead" "lead" s_lead (He.ga K "lead") fd
  g_chance : mg "chance" = some (.ref (He.ga K "chance"))
  F_chance : ∃ fd, Fun K "chance" "chance" s_chance (He.ga K "chance") fd
  g_power_of : mg "power_of" = some (.ref (He.ga K "power_of"))
  F_power_of : ∃ fd, Fun K "power_of" "power_of" s_power_of (He.ga K "power_of") fd
  g_greatest_die : mg "greatest_die" = some (.ref (He.ga K "greatest_die"))
  F_greatest_die : ∃ fd, Fun K "greatest_die" "greatest_die" s_greatest_die (He.ga K "greatest_die") fd
  g_least_die : mg "least_die" = some (.ref (He.ga K "least_die"))
  F_least_die : ∃ fd, Fun K "least_die" "least_die" s_least_die (He.ga K "least_die") fd
  g_chance_of_two : mg "chance_of_two" = some (.ref (He.ga K "chance_of_two"))
  F_chance_of_two : ∃ fd, Fun K "chance_of_two" "chance_of_two" s_chance_of_two (He.ga K "chance_of_two") fd
  g__law_draws : mg "_law_draws" = some (.ref (He.ga K "_law_draws"))
  F__law_draws : ∃ fd, Fun K "_law_draws" "_law_draws" s__law_draws (He.ga K "_law_draws") fd
  g__law_take : mg "_law_take" = some (.ref (He.ga K "_law_take"))
  F__law_take : ∃ fd, Fun K "_law_take" "_law_take" s__law_take (He.ga K "_law_take") fd
  g__law_int : mg "_law_int" = some (.ref (He.ga K "_law_int"))
  F__law_int : ∃ fd, Fun K "_law_int" "_law_int" s__law_int (He.ga K "_law_int") fd
  g__law_divisor : mg "_law_divisor" = some (.ref (He.ga K "_law_divisor"))
  F__law_divisor : ∃ fd, Fun K "_law_divisor" "_law_divisor" s__law_divisor (He.ga K "_law_divisor") fd
  g__law_is_fraction : mg "_law_is_fraction" = some (.ref (He.ga K "_law_is_fraction"))
  F__law_is_fraction : ∃ fd, Fun K "_law_is_fraction" "_law_is_fraction" s__law_is_fraction (He.ga K "_law_is_fraction") fd
  g__law_same_worth : mg "_law_same_worth" = some (.ref (He.ga K "_law_same_worth"))
  F__law_same_worth : ∃ fd, Fun K "_law_same_worth" "_law_same_worth" s__law_same_worth (He.ga K "_law_same_worth") fd
  g__law_at_most : mg "_law_at_most" = some (.ref (He.ga K "_law_at_most"))
  F__law_at_most : ∃ fd, Fun K "_law_at_most" "_law_at_most" s__law_at_most (He.ga K "_law_at_most") fd
  g__law_die : mg "_law_die" = some (.ref (He.ga K "_law_die"))
  F__law_die : ∃ fd, Fun K "_law_die" "_law_die" s__law_die (He.ga K "_law_die") fd
  g__law_dice : mg "_law_dice" = some (.ref (He.ga K "_law_dice"))
  F__law_dice : ∃ fd, Fun K "_law_dice" "_law_dice" s__law_dice (He.ga K "_law_dice") fd
  g__law_lead : mg "_law_lead" = some (.ref (He.ga K "_law_lead"))
  F__law_lead : ∃ fd, Fun K "_law_lead" "_law_lead" s__law_lead (He.ga K "_law_lead") fd
  g__law_over : mg "_law_over" = some (.ref (He.ga K "_law_over"))
  F__law_over : ∃ fd, Fun K "_law_over" "_law_over" s__law_over (He.ga K "_law_over") fd
  g__law_power : mg "_law_power" = some (.ref (He.ga K "_law_power"))
  F__law_power : ∃ fd, Fun K "_law_power" "_law_power" s__law_power (He.ga K "_law_power") fd
  g__law_most : mg "_law_most" = some (.ref (He.ga K "_law_most"))
  F__law_most : ∃ fd, Fun K "_law_most" "_law_most" s__law_most (He.ga K "_law_most") fd
  g__law_pair : mg "_law_pair" = some (.ref (He.ga K "_law_pair"))
  F__law_pair : ∃ fd, Fun K "_law_pair" "_law_pair" s__law_pair (He.ga K "_law_pair") fd
  g__law_sign : mg "_law_sign" = some (.ref (He.ga K "_law_sign"))
  F__law_sign : ∃ fd, Fun K "_law_sign" "_law_sign" s__law_sign (He.ga K "_law_sign") fd
  g__law_wins : mg "_law_wins" = some (.ref (He.ga K "_law_wins"))
  F__law_wins : ∃ fd, Fun K "_law_wins" "_law_wins" s__law_wins (He.ga K "_law_wins") fd
  g__law_stands : mg "_law_stands" = some (.ref (He.ga K "_law_stands"))
  F__law_stands : ∃ fd, Fun K "_law_stands" "_law_stands" s__law_stands (He.ga K "_law_stands") fd
  g__law_count_right : mg "_law_count_right" = some (.ref (He.ga K "_law_count_right"))
  F__law_count_right : ∃ fd, Fun K "_law_count_right" "_law_count_right" s__law_count_right (He.ga K "_law_count_right") fd
  g__law_rising : mg "_law_rising" = some (.ref (He.ga K "_law_rising"))
  F__law_rising : ∃ fd, Fun K "_law_rising" "_law_rising" s__law_rising (He.ga K "_law_rising") fd
  g__law_two_right : mg "_law_two_right" = some (.ref (He.ga K "_law_two_right"))
  F__law_two_right : ∃ fd, Fun K "_law_two_right" "_law_two_right" s__law_two_right (He.ga K "_law_two_right") fd
  g__law_refusal : mg "_law_refusal" = some (.ref (He.ga K "_law_refusal"))
  F__law_refusal : ∃ fd, Fun K "_law_refusal" "_law_refusal" s__law_refusal (He.ga K "_law_refusal") fd
  g__law_refuses : mg "_law_refuses" = some (.ref (He.ga K "_law_refuses"))
  F__law_refuses : ∃ fd, Fun K "_law_refuses" "_law_refuses" s__law_refuses (He.ga K "_law_refuses") fd
  g_law : mg "law" = some (.ref (He.ga K "law"))
  F_law : ∃ fd, Fun K "law" "law" s_law (He.ga K "law") fd
  g_Greatest : mg "Greatest" = some (.ref (He.ga K "Greatest"))
  c_Greatest : ClsD K "Greatest" ["count"] ["__call__"]
  F_Greatest_init : ∃ fd, Fun K "__init__" "Greatest.__init__" s_Greatest_init (He.ma K (He.ga K "Greatest") "__init__") fd
  F_Greatest_call : ∃ fd, Fun K "__call__" "Greatest.__call__" s_Greatest_call (He.ma K (He.ga K "Greatest") "__call__") fd
  g_Least : mg "Least" = some (.ref (He.ga K "Least"))
  c_Least : ClsD K "Least" ["count"] ["__call__"]
  F_Least_init : ∃ fd, Fun K "__init__" "Least.__init__" s_Least_init (He.ma K (He.ga K "Least") "__init__") fd
  F_Least_call : ∃ fd, Fun K "__call__" "Least.__call__" s_Least_call (He.ma K (He.ga K "Least") "__call__") fd
  c_MOST_THROWS : ∃ t, mg "MOST_THROWS" = some (.int 4000 t)
  g_DiceError : mg "DiceError" = some (.ref (He.ga K "DiceError"))
  e_DiceError : ExCls K (He.ga K "DiceError") []
  x_DiceError_DiceError : PySem.W.exmOne K (.ref (He.ga K "DiceError")) (.ref (He.ga K "DiceError")) = some true
  k_DiceError_DiceError : PySem.W.kitOne K (.ref (He.ga K "DiceError")) (.ref (He.ga K "DiceError")) = some true
  x_DiceError_BadNumber : PySem.W.exmOne K (.ref (He.ga K "DiceError")) (.ref (He.ga K "BadNumber")) = some false
  k_DiceError_BadNumber : PySem.W.kitOne K (.ref (He.ga K "DiceError")) (.ref (He.ga K "BadNumber")) = some false
  x_DiceError_BadDie : PySem.W.exmOne K (.ref (He.ga K "DiceError")) (.ref (He.ga K "BadDie")) = some false
  k_DiceError_BadDie : PySem.W.kitOne K (.ref (He.ga K "DiceError")) (.ref (He.ga K "BadDie")) = some false
  x_DiceError_OtherSize : PySem.W.exmOne K (.ref (He.ga K "DiceError")) (.ref (He.ga K "OtherSize")) = some false
  k_DiceError_OtherSize : PySem.W.kitOne K (.ref (He.ga K "DiceError")) (.ref (He.ga K "OtherSize")) = some false
  g_BadNumber : mg "BadNumber" = some (.ref (He.ga K "BadNumber"))
  F_BadNumber_init : ∃ fd, Fun K "__init__" "BadNumber.__init__" s_BadNumber_init (He.ma K (He.ga K "BadNumber") "__init__") fd
  i_BadNumber : PySem.W.findIn K (.ref (He.ga K "BadNumber")) "__init__" = some (some (.ref (He.ma K (He.ga K "BadNumber") "__init__"))) ∧ PySem.W.typeIn K (.ref (He.ma K (He.ga K "BadNumber") "__init__")) = some (.type "function")
  e_BadNumber : ExCls K (He.ga K "BadNumber") ["name"]
  x_BadNumber_DiceError : PySem.W.exmOne K (.ref (He.ga K "BadNumber")) (.ref (He.ga K "DiceError")) = some true
  k_BadNumber_DiceError : PySem.W.kitOne K (.ref (He.ga K "BadNumber")) (.ref (He.ga K "DiceError")) = some true
  x_BadNumber_BadNumber : PySem.W.exmOne K (.ref (He.ga K "BadNumber")) (.ref (He.ga K "BadNumber")) = some true
  k_BadNumber_BadNumber : PySem.W.kitOne K (.ref (He.ga K "BadNumber")) (.ref (He.ga K "BadNumber")) = some true
  x_BadNumber_BadDie : PySem.W.exmOne K (.ref (He.ga K "BadNumber")) (.ref (He.ga K "BadDie")) = some false
  k_BadNumber_BadDie : PySem.W.kitOne K (.ref (He.ga K "BadNumber")) (.ref (He.ga K "BadDie")) = some false
  x_BadNumber_OtherSize : PySem.W.exmOne K (.ref (He.ga K "BadNumber")) (.ref (He.ga K "OtherSize")) = some false
  k_BadNumber_OtherSize : PySem.W.kitOne K (.ref (He.ga K "BadNumber")) (.ref (He.ga K "OtherSize")) = some false
  g_BadDie : mg "BadDie" = some (.ref (He.ga K "BadDie"))
  F_BadDie_init : ∃ fd, Fun K "__init__" "BadDie.__init__" s_BadDie_init (He.ma K (He.ga K "BadDie") "__init__") fd
  i_BadDie : PySem.W.findIn K (.ref (He.ga K "BadDie")) "__init__" = some (some (.ref (He.ma K (He.ga K "BadDie") "__init__"))) ∧ PySem.W.typeIn K (.ref (He.ma K (He.ga K "BadDie") "__init__")) = some (.type "function")
  e_BadDie : ExCls K (He.ga K "BadDie") ["place"]
  x_BadDie_DiceError : PySem.W.exmOne K (.ref (He.ga K "BadDie")) (.ref (He.ga K "DiceError")) = some true
  k_BadDie_DiceError : PySem.W.kitOne K (.ref (He.ga K "BadDie")) (.ref (He.ga K "DiceError")) = some true
  x_BadDie_BadNumber : PySem.W.exmOne K (.ref (He.ga K "BadDie")) (.ref (He.ga K "BadNumber")) = some false
  k_BadDie_BadNumber : PySem.W.kitOne K (.ref (He.ga K "BadDie")) (.ref (He.ga K "BadNumber")) = some false
  x_BadDie_BadDie : PySem.W.exmOne K (.ref (He.ga K "BadDie")) (.ref (He.ga K "BadDie")) = some true
  k_BadDie_BadDie : PySem.W.kitOne K (.ref (He.ga K "BadDie")) (.ref (He.ga K "BadDie")) = some true
  x_BadDie_OtherSize : PySem.W.exmOne K (.ref (He.ga K "BadDie")) (.ref (He.ga K "OtherSize")) = some false
  k_BadDie_OtherSize : PySem.W.kitOne K (.ref (He.ga K "BadDie")) (.ref (He.ga K "OtherSize")) = some false
  g_OtherSize : mg "OtherSize" = some (.ref (He.ga K "OtherSize"))
  F_OtherSize_init : ∃ fd, Fun K "__init__" "OtherSize.__init__" s_OtherSize_init (He.ma K (He.ga K "OtherSize") "__init__") fd
  i_OtherSize : PySem.W.findIn K (.ref (He.ga K "OtherSize")) "__init__" = some (some (.ref (He.ma K (He.ga K "OtherSize") "__init__"))) ∧ PySem.W.typeIn K (.ref (He.ma K (He.ga K "OtherSize") "__init__")) = some (.type "function")
  e_OtherSize : ExCls K (He.ga K "OtherSize") ["first", "second"]
  x_OtherSize_DiceError : PySem.W.exmOne K (.ref (He.ga K "OtherSize")) (.ref (He.ga K "DiceError")) = some true
  k_OtherSize_DiceError : PySem.W.kitOne K (.ref (He.ga K "OtherSize")) (.ref (He.ga K "DiceError")) = some true
  x_OtherSize_BadNumber : PySem.W.exmOne K (.ref (He.ga K "OtherSize")) (.ref (He.ga K "BadNumber")) = some false
  k_OtherSize_BadNumber : PySem.W.kitOne K (.ref (He.ga K "OtherSize")) (.ref (He.ga K "BadNumber")) = some false
  x_OtherSize_BadDie : PySem.W.exmOne K (.ref (He.ga K "OtherSize")) (.ref (He.ga K "BadDie")) = some false
  k_OtherSize_BadDie : PySem.W.kitOne K (.ref (He.ga K "OtherSize")) (.ref (He.ga K "BadDie")) = some false
  x_OtherSize_OtherSize : PySem.W.exmOne K (.ref (He.ga K "OtherSize")) (.ref (He.ga K "OtherSize")) = some true
  k_OtherSize_OtherSize : PySem.W.kitOne K (.ref (He.ga K "OtherSize")) (.ref (He.ga K "OtherSize")) = some true
  n_ValueError : mg "ValueError" = none
  n_abs : mg "abs" = none
  n_all : mg "all" = none
  n_bool : mg "bool" = none
  n_enumerate : mg "enumerate" = none
  n_int : mg "int" = none
  n_isinstance : mg "isinstance" = none
  n_len : mg "len" = none
  n_list : mg "list" = none
  n_min : mg "min" = none
  n_range : mg "range" = none
  n_sum : mg "sum" = none
  n_tuple : mg "tuple" = none
  n_zip : mg "zip" = none
theorem tx_of {w : World} {h : Heap} {K : PySem.W.Frag} {mg : Str → Option Value} (X : K.In h) (G : h.Ns mainGlobals mg) (c : He.SaysX fa fn [] [] ex w h K) : Tx K mg := by
  have hex := c.more
  have D := c.t.d
  unfold ex ex0 ex1 at hex
  simp only [Bool.and_eq_true] at hex
  obtain ⟨⟨h0, h1, h2, h3, h4, h5, h6, h7, h8, h9, h10, h11, h12, h13, h14, h15, h16, h17, h18, h19, h20, h21, h22, h23⟩, ⟨h24, h25, h26, h27, h28, h29, h30, h31, h32, h33, h34, h35, h36, h37⟩⟩ := hex
  exact {
    g_is_int := He.glo_ok X G (D.fact 0 rfl),
    F_is_int := by obtain ⟨fd, F⟩ := D.def_ 0 (d := d_is_int) rfl; exact ⟨fd, He5.fun_of F⟩,
    g_is_row := He.glo_ok X G (D.fact 1 rfl),
    F_is_row := by obtain ⟨fd, F⟩ := D.def_ 1 (d := d_is_row) rfl; exact ⟨fd, He5.fun_of F⟩,
    g_check_within := He.glo_ok X G (D.fact 2 rfl),
    F_check_within := by obtain ⟨fd, F⟩ := D.def_ 2 (d := d_check_within) rfl; exact ⟨fd, He5.fun_of F⟩,
    g_common_divisor := He.glo_ok X G (D.fact 3 rfl),
    F_common_divisor := by obtain ⟨fd, F⟩ := D.def_ 3 (d := d_common_divisor) rfl; exact ⟨fd, He5.fun_of F⟩,
    g_die_of := He.glo_ok X G (D.fact 4 rfl),
    F_die_of := by obtain ⟨fd, F⟩ := D.def_ 4 (d := d_die_of) rfl; exact ⟨fd, He5.fun_of F⟩,
    g_two_dice := He.glo_ok X G (D.fact 5 rfl),
    F_two_dice := by obtain ⟨fd, F⟩ := D.def_ 5 (d := d_two_dice) rfl; exact ⟨fd, He5.fun_of F⟩,
    g_running := He.glo_ok X G (D.fact 6 rfl),
    F_running := by obtain ⟨fd, F⟩ := D.def_ 6 (d := d_running) rfl; exact ⟨fd, He5.fun_of F⟩,
    g_belows := He.glo_ok X G (D.fact 7 rfl),
    F_belows := by obtain ⟨fd, F⟩ := D.def_ 7 (d := d_belows) rfl; exact ⟨fd, He5.fun_of F⟩,
    g_stands_over := He.glo_ok X G (D.fact 8 rfl),
    F_stands_over := by obtain ⟨fd, F⟩ := D.def_ 8 (d := d_stands_over) rfl; exact ⟨fd, He5.fun_of F⟩,
    g_lowest := He.glo_ok X G (D.fact 9 rfl),
    F_lowest := by obtain ⟨fd, F⟩ := D.def_ 9 (d := d_lowest) rfl; exact ⟨fd, He5.fun_of F⟩,
    g_count_wins := He.glo_ok X G (D.fact 10 rfl),
    F_count_wins := by obtain ⟨fd, F⟩ := D.def_ 10 (d := d_count_wins) rfl; exact ⟨fd, He5.fun_of F⟩,
    g_count_lead := He.glo_ok X G (D.fact 11 rfl),
    F_count_lead := by obtain ⟨fd, F⟩ := D.def_ 11 (d := d_count_lead) rfl; exact ⟨fd, He5.fun_of F⟩,
    g_lead := He.glo_ok X G (D.fact 12 rfl),
    F_lead := by obtain ⟨fd, F⟩ := D.def_ 12 (d := d_lead) rfl; exact ⟨fd, He5.fun_of F⟩,
    g_chance := He.glo_ok X G (D.fact 13 rfl),
    F_chance := by obtain ⟨fd, F⟩ := D.def_ 13 (d := d_chance) rfl; exact ⟨fd, He5.fun_of F⟩,
    g_power_of := He.glo_ok X G (D.fact 14 rfl),
    F_power_of := by obtain ⟨fd, F⟩ := D.def_ 14 (d := d_power_of) rfl; exact ⟨fd, He5.fun_of F⟩,
    g_greatest_die := He.glo_ok X G (D.fact 15 rfl),
    F_greatest_die := by obtain ⟨fd, F⟩ := D.def_ 15 (d := d_greatest_die) rfl; exact ⟨fd, He5.fun_of F⟩,
    g_least_die := He.glo_ok X G (D.fact 16 rfl),
    F_least_die := by obtain ⟨fd, F⟩ := D.def_ 16 (d := d_least_die) rfl; exact ⟨fd, He5.fun_of F⟩,
    g_chance_of_two := He.glo_ok X G (D.fact 17 rfl),
    F_chance_of_two := by obtain ⟨fd, F⟩ := D.def_ 17 (d := d_chance_of_two) rfl; exact ⟨fd, He5.fun_of F⟩,
    g__law_draws := He.glo_ok X G (D.fact 18 rfl),
    F__law_draws := by obtain ⟨fd, F⟩ := D.def_ 18 (d := d__law_draws) rfl; exact ⟨fd, He5.fun_of F⟩,
    g__law_take := He.glo_ok X G (D.fact 19 rfl),
    F__law_take := by obtain ⟨fd, F⟩ := D.def_ 19 (d := d__law_take) rfl; exact ⟨fd, He5.fun_of F⟩,
    g__law_int := He.glo_ok X G (D.fact 20 rfl),
    F__law_int := by obtain ⟨fd, F⟩ := D.def_ 20 (d := d__law_int) rfl; exact ⟨fd, He5.fun_of F⟩,
    g__law_divisor := He.glo_ok X G (D.fact 21 rfl),
    F__law_divisor := by obtain ⟨fd, F⟩ := D.def_ 21 (d := d__law_divisor) rfl; exact ⟨fd, He5.fun_of F⟩,
    g__law_is_fraction := He.glo_ok X G (D.fact 22 rfl),
    F__law_is_fraction := by obtain ⟨fd, F⟩ := D.def_ 22 (d := d__law_is_fraction) rfl; exact ⟨fd, He5.fun_of F⟩,
    g__law_same_worth := He.glo_ok X G (D.fact 23 rfl),
    F__law_same_worth := by obtain ⟨fd, F⟩ := D.def_ 23 (d := d__law_same_worth) rfl; exact ⟨fd, He5.fun_of F⟩,
    g__law_at_most := He.glo_ok X G (D.fact 24 rfl),
    F__law_at_most := by obtain ⟨fd, F⟩ := D.def_ 24 (d := d__law_at_most) rfl; exact ⟨fd, He5.fun_of F⟩,
    g__law_die := He.glo_ok X G (D.fact 25 rfl),
    F__law_die := by obtain ⟨fd, F⟩ := D.def_ 25 (d := d__law_die) rfl; exact ⟨fd, He5.fun_of F⟩,
    g__law_dice := He.glo_ok X G (D.fact 26 rfl),
    F__law_dice := by obtain ⟨fd, F⟩ := D.def_ 26 (d := d__law_dice) rfl; exact ⟨fd, He5.fun_of F⟩,
    g__law_lead := He.glo_ok X G (D.fact 27 rfl),
    F__law_lead := by obtain ⟨fd, F⟩ := D.def_ 27 (d := d__law_lead) rfl; exact ⟨fd, He5.fun_of F⟩,
    g__law_over := He.glo_ok X G (D.fact 28 rfl),
    F__law_over := by obtain ⟨fd, F⟩ := D.def_ 28 (d := d__law_over) rfl; exact ⟨fd, He5.fun_of F⟩,
    g__law_power := He.glo_ok X G (D.fact 29 rfl),
    F__law_power := by obtain ⟨fd, F⟩ := D.def_ 29 (d := d__law_power) rfl; exact ⟨fd, He5.fun_of F⟩,
    g__law_most := He.glo_ok X G (D.fact 30 rfl),
    F__law_most := by obtain ⟨fd, F⟩ := D.def_ 30 (d := d__law_most) rfl; exact ⟨fd, He5.fun_of F⟩,
    g__law_pair := He.glo_ok X G (D.fact 31 rfl),
    F__law_pair := by obtain ⟨fd, F⟩ := D.def_ 31 (d := d__law_pair) rfl; exact ⟨fd, He5.fun_of F⟩,
    g__law_sign := He.glo_ok X G (D.fact 32 rfl),
    F__law_sign := by obtain ⟨fd, F⟩ := D.def_ 32 (d := d__law_sign) rfl; exact ⟨fd, He5.fun_of F⟩,
    g__law_wins := He.glo_ok X G (D.fact 33 rfl),
    F__law_wins := by obtain ⟨fd, F⟩ := D.def_ 33 (d := d__law_wins) rfl; exact ⟨fd, He5.fun_of F⟩,
    g__law_stands := He.glo_ok X G (D.fact 34 rfl),
    F__law_stands := by obtain ⟨fd, F⟩ := D.def_ 34 (d := d__law_stands) rfl; exact ⟨fd, He5.fun_of F⟩,
    g__law_count_right := He.glo_ok X G (D.fact 35 rfl),
    F__law_count_right := by obtain ⟨fd, F⟩ := D.def_ 35 (d := d__law_count_right) rfl; exact ⟨fd, He5.fun_of F⟩,
    g__law_rising := He.glo_ok X G (D.fact 36 rfl),
    F__law_rising := by obtain ⟨fd, F⟩ := D.def_ 36 (d := d__law_rising) rfl; exact ⟨fd, He5.fun_of F⟩,
    g__law_two_right := He.glo_ok X G (D.fact 37 rfl),
    F__law_two_right := by obtain ⟨fd, F⟩ := D.def_ 37 (d := d__law_two_right) rfl; exact ⟨fd, He5.fun_of F⟩,
    g__law_refusal := He.glo_ok X G (D.fact 38 rfl),
    F__law_refusal := by obtain ⟨fd, F⟩ := D.def_ 38 (d := d__law_refusal) rfl; exact ⟨fd, He5.fun_of F⟩,
    g__law_refuses := He.glo_ok X G (D.fact 39 rfl),
    F__law_refuses := by obtain ⟨fd, F⟩ := D.def_ 39 (d := d__law_refuses) rfl; exact ⟨fd, He5.fun_of F⟩,
    g_law := He.glo_ok X G (D.fact 40 rfl),
    F_law := by obtain ⟨fd, F⟩ := D.def_ 40 (d := d_law) rfl; exact ⟨fd, He5.fun_of F⟩,
    g_Greatest := He.glo_ok X G (D.fact 45 rfl),
    c_Greatest := clB_ok h36,
    F_Greatest_init := by obtain ⟨fd, F⟩ := D.def_ 44 (d := d_Greatest_init) rfl; exact ⟨fd, He5.fun_of F⟩,
    F_Greatest_call := by obtain ⟨fd, F⟩ := D.def_ 45 (d := d_Greatest_call) rfl; exact ⟨fd, He5.fun_of F⟩,
    g_Least := He.glo_ok X G (D.fact 46 rfl),
    c_Least := clB_ok h37,
    F_Least_init := by obtain ⟨fd, F⟩ := D.def_ 46 (d := d_Least_init) rfl; exact ⟨fd, He5.fun_of F⟩,
    F_Least_call := by obtain ⟨fd, F⟩ := D.def_ 47 (d := d_Least_call) rfl; exact ⟨fd, He5.fun_of F⟩,
    c_MOST_THROWS := He.int_ok X G (D.fact 61 rfl),
    g_DiceError := He.glo_ok X G (D.fact 41 rfl),
    e_DiceError := (exB_ok h0).1,
    x_DiceError_DiceError := exmB_ok h4,
    k_DiceError_DiceError := isiB_ok h8,
    x_DiceError_BadNumber := exmB_ok h5,
    k_DiceError_BadNumber := isiB_ok h9,
    x_DiceError_BadDie := exmB_ok h6,
    k_DiceError_BadDie := isiB_ok h10,
    x_DiceError_OtherSize := exmB_ok h7,
    k_DiceError_OtherSize := isiB_ok h11,
    g_BadNumber := He.glo_ok X G (D.fact 42 rfl),
    F_BadNumber_init := by obtain ⟨fd, F⟩ := D.def_ 41 (d := d_BadNumber_init) rfl; exact ⟨fd, He5.fun_of F⟩,
    i_BadNumber := (exB_ok h1).2 rfl,
    e_BadNumber := (exB_ok h1).1,
    x_BadNumber_DiceError := exmB_ok h12,
    k_BadNumber_DiceError := isiB_ok h16,
    x_BadNumber_BadNumber := exmB_ok h13,
    k_BadNumber_BadNumber := isiB_ok h17,
    x_BadNumber_BadDie := exmB_ok h14,
    k_BadNumber_BadDie := isiB_ok h18,
    x_BadNumber_OtherSize := exmB_ok h15,
    k_BadNumber_OtherSize := isiB_ok h19,
    g_BadDie := He.glo_ok X G (D.fact 43 rfl),
    F_BadDie_init := by obtain ⟨fd, F⟩ := D.def_ 42 (d := d_BadDie_init) rfl; exact ⟨fd, He5.fun_of F⟩,
    i_BadDie := (exB_ok h2).2 rfl,
    e_BadDie := (exB_ok h2).1,
    x_BadDie_DiceError := exmB_ok h20,
    k_BadDie_DiceError := isiB_ok h24,
    x_BadDie_BadNumber := exmB_ok h21,
    k_BadDie_BadNumber := isiB_ok h25,
    x_BadDie_BadDie := exmB_ok h22,
    k_BadDie_BadDie := isiB_ok h26,
    x_BadDie_OtherSize := exmB_ok h23,
    k_BadDie_OtherSize := isiB_ok h27,
    g_OtherSize := He.glo_ok X G (D.fact 44 rfl),
    F_OtherSize_init := by obtain ⟨fd, F⟩ := D.def_ 43 (d := d_OtherSize_init) rfl; exact ⟨fd, He5.fun_of F⟩,
    i_OtherSize := (exB_ok h3).2 rfl,
    e_OtherSize := (exB_ok h3).1,
    x_OtherSize_DiceError := exmB_ok h28,
    k_OtherSize_DiceError := isiB_ok h32,
    x_OtherSize_BadNumber := exmB_ok h29,
    k_OtherSize_BadNumber := isiB_ok h33,
    x_OtherSize_BadDie := exmB_ok h30,
    k_OtherSize_BadDie := isiB_ok h34,
    x_OtherSize_OtherSize := exmB_ok h31,
    k_OtherSize_OtherSize := isiB_ok h35,
    n_ValueError := He.free_ok X G (D.fact 47 rfl),
    n_abs := He.free_ok X G (D.fact 48 rfl),
    n_all := He.free_ok X G (D.fact 49 rfl),
    n_bool := He.free_ok X G (D.fact 50 rfl),
    n_enumerate := He.free_ok X G (D.fact 51 rfl),
    n_int := He.free_ok X G (D.fact 52 rfl),
    n_isinstance := He.free_ok X G (D.fact 53 rfl),
    n_len := He.free_ok X G (D.fact 54 rfl),
    n_list := He.free_ok X G (D.fact 55 rfl),
    n_min := He.free_ok X G (D.fact 56 rfl),
    n_range := He.free_ok X G (D.fact 57 rfl),
    n_sum := He.free_ok X G (D.fact 58 rfl),
    n_tuple := He.free_ok X G (D.fact 59 rfl),
    n_zip := He.free_ok X G (D.fact 60 rfl) }
section
variable {P : Program} {w : World} {K : PySem.W.Frag} {mg : Str → Option Value} {base : Heap}
theorem C_BadNumber (T : Tx K mg) : OkX P w K mg base "BadNumber" ["name"] ["self", "name"] := by
  obtain ⟨fd, F⟩ := T.F_BadNumber_init
  refine ⟨fd, T.e_BadNumber, by decide, T.i_BadNumber.1, T.i_BadNumber.2, init1 (N := ["self", "name"]) F T.e_BadNumber ⟨rfl, rfl, rfl, by decide +kernel, rfl, by decide +kernel, by decide +kernel⟩ rfl rfl rfl rfl rfl (by decide) (by decide) (by decide) (by decide), F.binds fun _ _ _ _ _ _ us hl => match us, hl with | [_, _], _ => rfl, T.g_BadNumber⟩
theorem C_BadDie (T : Tx K mg) : OkX P w K mg base "BadDie" ["place"] ["self", "place"] := by
  obtain ⟨fd, F⟩ := T.F_BadDie_init
  refine ⟨fd, T.e_BadDie, by decide, T.i_BadDie.1, T.i_BadDie.2, init1 (N := ["self", "place"]) F T.e_BadDie ⟨rfl, rfl, rfl, by decide +kernel, rfl, by decide +kernel, by decide +kernel⟩ rfl rfl rfl rfl rfl (by decide) (by decide) (by decide) (by decide), F.binds fun _ _ _ _ _ _ us hl => match us, hl with | [_, _], _ => rfl, T.g_BadDie⟩
theorem C_OtherSize (T : Tx K mg) : OkX P w K mg base "OtherSize" ["first", "second"] ["self", "first", "second"] := by
  obtain ⟨fd, F⟩ := T.F_OtherSize_init
  refine ⟨fd, T.e_OtherSize, by decide, T.i_OtherSize.1, T.i_OtherSize.2, init2 (N := ["self", "first", "second"]) F T.e_OtherSize ⟨rfl, rfl, rfl, by decide +kernel, rfl, by decide +kernel, by decide +kernel⟩ rfl rfl rfl rfl rfl rfl (by decide) (by decide) (by decide) (by decide) (by decide) (by decide), F.binds fun _ _ _ _ _ _ us hl => match us, hl with | [_, _, _], _ => rfl, T.g_OtherSize⟩
/-! is_int -/
def g_is_int (K : PySem.W.Frag) : DS :=
  (sRet (gAndV (gCB dIsi (aCons (gVar 0) (aCons (gC (.ty "int")) aNil))) (gNotV (gCB dIsi (aCons (gVar 0) (aCons (gC (.ty "bool")) aNil))))))
theorem sc_is_int : FnScope ["value"] ["value"] (defScope s_is_int) := ⟨rfl, rfl, rfl, by decide +kernel, rfl, by decide +kernel, by decide +kernel⟩
theorem w_is_int (T : Tx K mg)  (len : ∀ ds M Q E, sp_is_int K ds M Q E → ds.length = 1)
    (hb : ∀ d0 M Q E, sp_is_int K [d0] M Q E → g_is_int K { nx := fun _ M => Q .non M, rt := Q, ex := fun x _ M => E x M } [some d0] M) : OkD P w K mg base 1 "is_int" ["value"] (sp_is_int K) := by
  obtain ⟨fd, F⟩ := T.F_is_int
  refine ⟨fd, dl_def F sc_is_int (by intro ds M Q E h; exact len ds M Q E h) (g_is_int K) (by decide) (fun cdv A outer s H E hr => ?_) (fun ds M Q E h => ?_), F.binds fun _ _ _ _ _ _ us hl => match us, hl with | [_], _ => rfl, F.kp, T.g_is_int, fun_lk F⟩
  · exact
   (fss_one (fs_ret (fe_and (fe_cb (cd_isi rfl) T.n_isinstance bt_isinstance (fa_cons (fv 0) (fa_cons (fe_ty rfl T.n_int bt_int) fa_nil))) (fe_one (fe_not (fe_cb (cd_isi rfl) T.n_isinstance bt_isinstance (fa_cons (fv 0) (fa_cons (fe_ty rfl T.n_bool bt_bool) fa_nil))))))))
  · match ds, len _ _ _ _ h with
    | [d0], _ => exact hb d0 M Q E h
/-! is_row -/
def g_is_row (K : PySem.W.Frag) : DS :=
  (sRet (gCB dIsi (aCons (gVar 0) (aCons (gTup (aCons (gC (.ty "list")) (aCons (gC (.ty "tuple")) aNil))) aNil))))
theorem sc_is_row : FnScope ["value"] ["value"] (defScope s_is_row) := ⟨rfl, rfl, rfl, by decide +kernel, rfl, by decide +kernel, by decide +kernel⟩
theorem w_is_row (T : Tx K mg)  (len : ∀ ds M Q E, sp_is_row K ds M Q E → ds.length = 1)
    (hb : ∀ d0 M Q E, sp_is_row K [d0] M Q E → g_is_row K { nx := fun _ M => Q .non M, rt := Q, ex := fun x _ M => E x M } [some d0] M) : OkD P w K mg base 1 "is_row" ["value"] (sp_is_row K) := by
  obtain ⟨fd, F⟩ := T.F_is_row
  refine ⟨fd, dl_def F sc_is_row (by intro ds M Q E h; exact len ds M Q E h) (g_is_row K) (by decide) (fun cdv A outer s H E hr => ?_) (fun ds M Q E h => ?_), F.binds fun _ _ _ _ _ _ us hl => match us, hl with | [_], _ => rfl, F.kp, T.g_is_row, fun_lk F⟩
  · exact
   (fss_one (fs_ret (fe_cb (cd_isi rfl) T.n_isinstance bt_isinstance (fa_cons (fv 0) (fa_cons (fe_tup (fa_cons (fe_ty rfl T.n_list bt_list) (fa_cons (fe_ty rfl T.n_tuple bt_tuple) fa_nil))) fa_nil)))))
  · match ds, len _ _ _ _ h with
    | [d0], _ => exact hb d0 M Q E h
/-! check_within -/
def g_check_within (K : PySem.W.Frag) : DS :=
  (sSeq (sIf (gOr (gNot (gTest (gCall (sp_is_int K) (aCons (gVar 0) aNil)))) (gOr (gTest (gOp dLt (gVar 0) (gVar 2))) (gTest (gOp dGt (gVar 0) (gVar 3))))) (sRaise (He.ga K "BadNumber") ["name"] (aCons (gVar 1) aNil)) sNext)
    (sRet (gVar 0)))
theorem sc_check_within : FnScope ["value", "name", "low", "high"] ["value", "name", "low", "high"] (defScope s_check_within) := ⟨rfl, rfl, rfl, by decide +kernel, rfl, by decide +kernel, by decide +kernel⟩
theorem w_check_within (T : Tx K mg) (C_is_int : OkD P w K mg base 1 "is_int" ["value"] (sp_is_int K)) (len : ∀ ds M Q E, sp_check_within K ds M Q E → ds.length = 4)
    (hb : ∀ d0 d1 d2 d3 M Q E, sp_check_within K [d0, d1, d2, d3] M Q E → g_check_within K { nx := fun _ M => Q .non M, rt := Q, ex := fun x _ M => E x M } [some d0, some d1, some d2, some d3] M) : OkD P w K mg base 3 "check_within" ["value", "name", "low", "high"] (sp_check_within K) := by
  obtain ⟨fd, F⟩ := T.F_check_within
  have C_BadNumber := C_BadNumber (P := P) (w := w) (base := base) T
  refine ⟨fd, dl_def F sc_check_within (by intro ds M Q E h; exact len ds M Q E h) (g_check_within K) (by decide) (fun cdv A outer s H E hr => ?_) (fun ds M Q E h => ?_), F.binds fun _ _ _ _ _ _ us hl => match us, hl with | [_, _, _, _], _ => rfl, F.kp, T.g_check_within, fun_lk F⟩
  · exact
   (fss_cons (fs_if (FW.ft (fw_or (ft_not (ft_val (fe_callO C_is_int (hr.mono (by decide)) (takes_of rfl rfl rfl rfl) (fa_cons (fv 0) fa_nil)))) (fw_or (ft_cmp (od_lt) (fv 0) (fv 2) (nomark _)) (fw_or1 (ft_cmp (od_gt) (fv 0) (fv 3) (nomark _)))))) (fss_one (fs_raiseO C_BadNumber (hr.mono (by decide)) (takes_of rfl rfl rfl rfl) (fa_cons (fv 1) fa_nil))) fss_nil)
    (fss_one (fs_ret (fv 0))))
  · match ds, len _ _ _ _ h with
    | [d0, d1, d2, d3], _ => exact hb d0 d1 d2 d3 M Q E h
/-! common_divisor -/
def g_common_divisor (K : PySem.W.Frag) : DS :=
  (sSeq (sSet 1 (gC (.int 0)))
    (sSeq (sFor (iSeqD (gVar 0)) (dName 2) (sSeq (sSet 3 (gCB dAbs (aCons (gVar 2) aNil)))
    (sWhile (gTest (gOp dGt (gVar 3) (gC (.int 0)))) (sPar 1 3 (aCons (gVar 3) (aCons (gOp dMod (gVar 1) (gVar 3)) aNil))))))
    (sRet (gVar 1))))
theorem sc_common_divisor : FnScope ["row", "divisor", "entry", "remainder"] ["row"] (defScope s_common_divisor) := ⟨rfl, rfl, rfl, by decide +kernel, rfl, by decide +kernel, by decide +kernel⟩
theorem w_common_divisor (T : Tx K mg)  (len : ∀ ds M Q E, sp_common_divisor K ds M Q E → ds.length = 1)
    (hb : ∀ d0 M Q E, sp_common_divisor K [d0] M Q E → g_common_divisor K { nx := fun _ M => Q .non M, rt := Q, ex := fun x _ M => E x M } [some d0, none, none, none] M) : OkD P w K mg base 1 "common_divisor" ["row"] (sp_common_divisor K) := by
  obtain ⟨fd, F⟩ := T.F_common_divisor
  refine ⟨fd, dl_def F sc_common_divisor (by intro ds M Q E h; exact len ds M Q E h) (g_common_divisor K) (by decide) (fun cdv A outer s H E hr => ?_) (fun ds M Q E h => ?_), F.binds fun _ _ _ _ _ _ us hl => match us, hl with | [_], _ => rfl, F.kp, T.g_common_divisor, fun_lk F⟩
  · exact
   (fss_cons (fs_set 1 sc_common_divisor.nd fe_int)
    (fss_cons (fs_for (passes_of rfl) rfl (fi_seq rfl (fv 0)) (fg_name (vs := [2]) 2 sc_common_divisor.nd) (fss_cons (fs_set 3 sc_common_divisor.nd (fe_cb (cd_abs) T.n_abs bt_abs (fa_cons (fv 2) fa_nil)))
    (fss_one (fs_while (passes_of rfl) (ft_cmp (od_gt) (fv 3) fe_int (nomark _)) (fss_one (fs_par 1 3 sc_common_divisor.nd (fa_cons (fv 3) (fa_cons (fe_op (od_mod) (fv 1) (fv 3)) fa_nil))))))))
    (fss_one (fs_ret (fv 1)))))
  · match ds, len _ _ _ _ h with
    | [d0], _ => exact hb d0 M Q E h
/-! die_of -/
def g_die_of (K : PySem.W.Frag) : DS :=
  (sSeq (sIf (gNot (gTest (gCall (sp_is_row K) (aCons (gVar 0) aNil)))) (sRaise (He.ga K "BadDie") ["place"] (aCons (gUn dNeg (gC (.int 1))) aNil)) sNext)
    (sSeq (sFor (iEnumD (aCons (gVar 0) aNil)) (dTup 2 (dCons (dName 1) (dCons (dName 2) dNil))) (sIf (gOr (gNot (gTest (gCall (sp_is_int K) (aCons (gVar 2) aNil)))) (gTest (gOp dLt (gVar 2) (gC (.int 0))))) (sRaise (He.ga K "BadDie") ["place"] (aCons (gVar 1) aNil)) sNext))
    (sSeq (sIf (gTest (gOp dEq (gCB dSumS (aCons (gVar 0) aNil)) (gC (.int 0)))) (sRaise (He.ga K "BadDie") ["place"] (aCons (gUn dNeg (gC (.int 1))) aNil)) sNext)
    (sRet (gCB dTupleOf (aCons (gVar 0) aNil))))))
theorem sc_die_of : FnScope ["row", "place", "entry"] ["row"] (defScope s_die_of) := ⟨rfl, rfl, rfl, by decide +kernel, rfl, by decide +kernel, by decide +kernel⟩
theorem w_die_of (T : Tx K mg) (C_is_row : OkD P w K mg base 1 "is_row" ["value"] (sp_is_row K)) (C_is_int : OkD P w K mg base 1 "is_int" ["value"] (sp_is_int K)) (len : ∀ ds M Q E, sp_die_of K ds M Q E → ds.length = 1)
    (hb : ∀ d0 M Q E, sp_die_of K [d0] M Q E → g_die_of K { nx := fun _ M => Q .non M, rt := Q, ex := fun x _ M => E x M } [some d0, none, none] M) : OkD P w K mg base 3 "die_of" ["row"] (sp_die_of K) := by
  obtain ⟨fd, F⟩ := T.F_die_of
  have C_BadDie := C_BadDie (P := P) (w := w) (base := base) T
  refine ⟨fd, dl_def F sc_die_of (by intro ds M Q E h; exact len ds M Q E h) (g_die_of K) (by decide) (fun cdv A outer s H E hr => ?_) (fun ds M Q E h => ?_), F.binds fun _ _ _ _ _ _ us hl => match us, hl with | [_], _ => rfl, F.kp, T.g_die_of, fun_lk F⟩
  · exact
   (fss_cons (fs_if (ft_not (ft_val (fe_callO C_is_row (hr.mono (by decide)) (takes_of rfl rfl rfl rfl) (fa_cons (fv 0) fa_nil)))) (fss_one (fs_raiseO C_BadDie (hr.mono (by decide)) (takes_of rfl rfl rfl rfl) (fa_cons (fe_un ud_neg fe_int) fa_nil))) fss_nil)
    (fss_cons (fs_for (passes_of rfl) rfl (fi_enum rfl T.n_enumerate (fa_cons (fv 0) fa_nil)) (fg_tup rfl rfl (fgs_cons (fg_name (vs := [1, 2]) 1 sc_die_of.nd) (fgs_cons (fg_name (vs := [1, 2]) 2 sc_die_of.nd) (fgs_nil (vs := [1, 2]))))) (fss_one (fs_if (FW.ft (fw_or (ft_not (ft_val (fe_callO C_is_int (hr.mono (by decide)) (takes_of rfl rfl rfl rfl) (fa_cons (fv 2) fa_nil)))) (fw_or1 (ft_cmp (od_lt) (fv 2) fe_int (nomark _))))) (fss_one (fs_raiseO C_BadDie (hr.mono (by decide)) (takes_of rfl rfl rfl rfl) (fa_cons (fv 1) fa_nil))) fss_nil)))
    (fss_cons (fs_if (ft_cmp (od_eq rfl (hu64 hr)) (fe_cb (cd_sumS rfl rfl) T.n_sum bt_sum (fa_cons (fv 0) fa_nil)) fe_int (nomark _)) (fss_one (fs_raiseO C_BadDie (hr.mono (by decide)) (takes_of rfl rfl rfl rfl) (fa_cons (fe_un ud_neg fe_int) fa_nil))) fss_nil)
    (fss_one (fs_ret (fe_ct (cd_tuple rfl) T.n_tuple bt_tuple (fa_cons (fv 0) fa_nil)))))))
  · match ds, len _ _ _ _ h with
    | [d0], _ => exact hb d0 M Q E h
/-! two_dice -/
def g_two_dice (K : PySem.W.Frag) : DS :=
  (sSeq (sSet 2 (gCall (sp_die_of K) (aCons (gVar 0) aNil)))
    (sSeq (sSet 3 (gCall (sp_die_of K) (aCons (gVar 1) aNil)))
    (sSeq (sIf (gTest (gOp dNe (gCB dLen (aCons (gVar 2) aNil)) (gCB dLen (aCons (gVar 3) aNil)))) (sRaise (He.ga K "OtherSize") ["first", "second"] (aCons (gCB dLen (aCons (gVar 2) aNil)) (aCons (gCB dLen (aCons (gVar 3) aNil)) aNil))) sNext)
    (sRet (gTup (aCons (gVar 2) (aCons (gVar 3) aNil)))))))
theorem sc_two_dice : FnScope ["first", "second", "one", "other"] ["first", "second"] (defScope s_two_dice) := ⟨rfl, rfl, rfl, by decide +kernel, rfl, by decide +kernel, by decide +kernel⟩
theorem w_two_dice (T : Tx K mg) (C_die_of : OkD P w K mg base 3 "die_of" ["row"] (sp_die_of K)) (len : ∀ ds M Q E, sp_two_dice K ds M Q E → ds.length = 2)
    (hb : ∀ d0 d1 M Q E, sp_two_dice K [d0, d1] M Q E → g_two_dice K { nx := fun _ M => Q .non M, rt := Q, ex := fun x _ M => E x M } [some d0, some d1, none, none] M) : OkD P w K mg base 4 "two_dice" ["first", "second"] (sp_two_dice K) := by
  obtain ⟨fd, F⟩ := T.F_two_dice
  have C_OtherSize := C_OtherSize (P := P) (w := w) (base := base) T
  refine ⟨fd, dl_def F sc_two_dice (by intro ds M Q E h; exact len ds M Q E h) (g_two_dice K) (by decide) (fun cdv A outer s H E hr => ?_) (fun ds M Q E h => ?_), F.binds fun _ _ _ _ _ _ us hl => match us, hl with | [_, _], _ => rfl, F.kp, T.g_two_dice, fun_lk F⟩
  · exact
   (fss_cons (fs_set 2 sc_two_dice.nd (fe_callO C_die_of (hr.mono (by decide)) (takes_of rfl rfl rfl rfl) (fa_cons (fv 0) fa_nil)))
    (fss_cons (fs_set 3 sc_two_dice.nd (fe_callO C_die_of (hr.mono (by decide)) (takes_of rfl rfl rfl rfl) (fa_cons (fv 1) fa_nil)))
    (fss_cons (fs_if (ft_cmp (od_ne rfl (hu64 hr)) (fe_cb (cd_len rfl) T.n_len bt_len (fa_cons (fv 2) fa_nil)) (fe_cb (cd_len rfl) T.n_len bt_len (fa_cons (fv 3) fa_nil)) (nomark _)) (fss_one (fs_raiseO C_OtherSize (hr.mono (by decide)) (takes_of rfl rfl rfl rfl) (fa_cons (fe_cb (cd_len rfl) T.n_len bt_len (fa_cons (fv 2) fa_nil)) (fa_cons (fe_cb (cd_len rfl) T.n_len bt_len (fa_cons (fv 3) fa_nil)) fa_nil)))) fss_nil)
    (fss_one (fs_ret (fe_tup (fa_cons (fv 2) (fa_cons (fv 3) fa_nil))))))))
  · match ds, len _ _ _ _ h with
    | [d0, d1], _ => exact hb d0 d1 M Q E h
/-! running -/
def g_running (K : PySem.W.Frag) : DS :=
  (sSeq (sSet 1 (gCel (nLst (aCons (gC (.int 0)) aNil))))
    (sSeq (sFor (iSeqD (gVar 0)) (dName 2) (sDrop (gMt dAppend (gVar 1) (aCons (gOp dAdd (gOp dIx (gVar 1) (gUn dNeg (gC (.int 1)))) (gVar 2)) aNil))))
    (sRetF (gCB dTupleOf (aCons (gVar 1) aNil)))))
theorem sc_running : FnScope ["row", "sums", "entry"] ["row"] (defScope s_running) := ⟨rfl, rfl, rfl, by decide +kernel, rfl, by decide +kernel, by decide +kernel⟩
theorem w_running (T : Tx K mg)  (len : ∀ ds M Q E, sp_running K ds M Q E → ds.length = 1)
    (hb : ∀ d0 M Q E, sp_running K [d0] M Q E → g_running K { nx := fun _ M => Q .non M, rt := Q, ex := fun x _ M => E x M } [some d0, none, none] M) : OkD P w K mg base 1 "running" ["row"] (sp_running K) := by
  obtain ⟨fd, F⟩ := T.F_running
  refine ⟨fd, dl_def F sc_running (by intro ds M Q E h; exact len ds M Q E h) (g_running K) (by decide) (fun cdv A outer s H E hr => ?_) (fun ds M Q E h => ?_), F.binds fun _ _ _ _ _ _ us hl => match us, hl with | [_], _ => rfl, F.kp, T.g_running, fun_lk F⟩
  · exact
   (fss_cons (fs_set 1 sc_running.nd (FN.cel (fn_lst (fa_cons fe_int fa_nil))))
    (fss_cons (fs_for (passes_of rfl) rfl (fi_seq rfl (fv 0)) (fg_name (vs := [2]) 2 sc_running.nd) (fss_one (fs_expr (fe_mt rfl (PySem.F.slot_list_append) PySem.F.type_list_append md_append (fv 1) (fa_cons (fe_op (od_add rfl) (fe_ix (xd_ix rfl) (fv 1) (fe_un ud_neg fe_int) (fun _ _ => rfl)) (fv 2)) fa_nil)))))
    (fss_one (fs_retF (fe_ct (cd_tuple rfl) T.n_tuple bt_tuple (fa_cons (fv 1) fa_nil))))))
  · match ds, len _ _ _ _ h with
    | [d0], _ => exact hb d0 M Q E h
/-! belows -/
def g_belows (K : PySem.W.Frag) : DS :=
  (sRet (gCall (sp_running K) (aCons (gCall (sp_die_of K) (aCons (gVar 0) aNil)) aNil)))
theorem sc_belows : FnScope ["die"] ["die"] (defScope s_belows) := ⟨rfl, rfl, rfl, by decide +kernel, rfl, by decide +kernel, by decide +kernel⟩
theorem w_belows (T : Tx K mg) (C_running : OkD P w K mg base 1 "running" ["row"] (sp_running K)) (C_die_of : OkD P w K mg base 3 "die_of" ["row"] (sp_die_of K)) (len : ∀ ds M Q E, sp_belows K ds M Q E → ds.length = 1)
    (hb : ∀ d0 M Q E, sp_belows K [d0] M Q E → g_belows K { nx := fun _ M => Q .non M, rt := Q, ex := fun x _ M => E x M } [some d0] M) : OkD P w K mg base 4 "belows" ["die"] (sp_belows K) := by
  obtain ⟨fd, F⟩ := T.F_belows
  refine ⟨fd, dl_def F sc_belows (by intro ds M Q E h; exact len ds M Q E h) (g_belows K) (by decide) (fun cdv A outer s H E hr => ?_) (fun ds M Q E h => ?_), F.binds fun _ _ _ _ _ _ us hl => match us, hl with | [_], _ => rfl, F.kp, T.g_belows, fun_lk F⟩
  · exact
   (fss_one (fs_ret (fe_callO C_running (hr.mono (by decide)) (takes_of rfl rfl rfl rfl) (fa_cons (fe_callO C_die_of (hr.mono (by decide)) (takes_of rfl rfl rfl rfl) (fa_cons (fv 0) fa_nil)) fa_nil))))
  · match ds, len _ _ _ _ h with
    | [d0], _ => exact hb d0 M Q E h
/-! stands_over -/
def g_stands_over (K : PySem.W.Frag) : DS :=
  (sSeq (sAsg (gCall (sp_two_dice K) (aCons (gVar 0) (aCons (gVar 1) aNil))) (dTup 2 (dCons (dName 2) (dCons (dName 3) dNil))))
    (sSeq (sAsg (gTup (aCons (gCB dSumS (aCons (gVar 2) aNil)) (aCons (gCB dSumS (aCons (gVar 3) aNil)) aNil))) (dTup 2 (dCons (dName 4) (dCons (dName 5) dNil))))
    (sRet (gCB dAll (aCons (gFrz (nLc (iZipD (aCons (gCall (sp_running K) (aCons (gVar 2) aNil)) (aCons (gCall (sp_running K) (aCons (gVar 3) aNil)) aNil))) (dTup 2 (dCons (dName 6) (dCons (dName 7) dNil))) gYes (gOp dLe (gOp dMul (gVar 5) (gVar 6)) (gOp dMul (gVar 4) (gVar 7))) [6, 7])) aNil)))))
theorem sc_stands_over : FnScope ["first", "second", "one", "other", "here", "there", "mine", "theirs"] ["first", "second"] (defScope s_stands_over) := ⟨rfl, rfl, rfl, by decide +kernel, rfl, by decide +kernel, by decide +kernel⟩
theorem w_stands_over (T : Tx K mg) (C_two_dice : OkD P w K mg base 4 "two_dice" ["first", "second"] (sp_two_dice K)) (C_running : OkD P w K mg base 1 "running" ["row"] (sp_running K)) (len : ∀ ds M Q E, sp_stands_over K ds M Q E → ds.length = 2)
    (hb : ∀ d0 d1 M Q E, sp_stands_over K [d0, d1] M Q E → g_stands_over K { nx := fun _ M => Q .non M, rt := Q, ex := fun x _ M => E x M } [some d0, some d1, none, none, none, none, none, none] M) : OkD P w K mg base 5 "stands_over" ["first", "second"] (sp_stands_over K) := by
  obtain ⟨fd, F⟩ := T.F_stands_over
  refine ⟨fd, dl_def F sc_stands_over (by intro ds M Q E h; exact len ds M Q E h) (g_stands_over K) (by decide) (fun cdv A outer s H E hr => ?_) (fun ds M Q E h => ?_), F.binds fun _ _ _ _ _ _ us hl => match us, hl with | [_, _], _ => rfl, F.kp, T.g_stands_over, fun_lk F⟩
  · exact
   (fss_cons (fs_asg (fe_callO C_two_dice (hr.mono (by decide)) (takes_of rfl rfl rfl rfl) (fa_cons (fv 0) (fa_cons (fv 1) fa_nil))) (fg_tup rfl rfl (fgs_cons (fg_name (vs := [2, 3]) 2 sc_stands_over.nd) (fgs_cons (fg_name (vs := [2, 3]) 3 sc_stands_over.nd) (fgs_nil (vs := [2, 3]))))))
    (fss_cons (fs_asg (fe_tup (fa_cons (fe_cb (cd_sumS rfl rfl) T.n_sum bt_sum (fa_cons (fv 2) fa_nil)) (fa_cons (fe_cb (cd_sumS rfl rfl) T.n_sum bt_sum (fa_cons (fv 3) fa_nil)) fa_nil))) (fg_tup rfl rfl (fgs_cons (fg_name (vs := [4, 5]) 4 sc_stands_over.nd) (fgs_cons (fg_name (vs := [4, 5]) 5 sc_stands_over.nd) (fgs_nil (vs := [4, 5]))))))
    (fss_one (fs_ret (fe_cb (cd_all rfl rfl) T.n_all bt_all (fa_cons (FN.frz (fn_lc (own := [("mine", 6), ("theirs", 7)]) sc_stands_over.nd (fi_zip rfl T.n_zip (fa_cons (fe_callO C_running (hr.mono (by decide)) (takes_of rfl rfl rfl rfl) (fa_cons (fv 2) fa_nil)) (fa_cons (fe_callO C_running (hr.mono (by decide)) (takes_of rfl rfl rfl rfl) (fa_cons (fv 3) fa_nil)) fa_nil))) (blkOk_by (by kernel_rfl)) (fun s H C cl fp => (fg_tup rfl rfl (fgs_cons (fg_name (vs := [6, 7]) 6 sc_stands_over.nd) (fgs_cons (fg_name (vs := [6, 7]) 7 sc_stands_over.nd) (fgs_nil (vs := [6, 7])))))) (fun s H C cl fp => fts_nil) (fun s H C cl fp => (fe_cmp (od_le) (fe_op (od_mul) (fv 5) (fv 6)) (fe_op (od_mul) (fv 4) (fv 7)) (nomark _))))) fa_nil))))))
  · match ds, len _ _ _ _ h with
    | [d0, d1], _ => exact hb d0 d1 M Q E h
/-! lowest -/
def g_lowest (K : PySem.W.Frag) : DS :=
  (sSeq (sSet 2 (gCall (sp_common_divisor K) (aCons (gTup (aCons (gVar 0) (aCons (gVar 1) aNil))) aNil)))
    (sRet (gTup (aCons (gOp dFdiv (gVar 0) (gVar 2)) (aCons (gOp dFdiv (gVar 1) (gVar 2)) aNil)))))
theorem sc_lowest : FnScope ["top", "bottom", "divisor"] ["top", "bottom"] (defScope s_lowest) := ⟨rfl, rfl, rfl, by decide +kernel, rfl, by decide +kernel, by decide +kernel⟩
theorem w_lowest (T : Tx K mg) (C_common_divisor : OkD P w K mg base 1 "common_divisor" ["row"] (sp_common_divisor K)) (len : ∀ ds M Q E, sp_lowest K ds M Q E → ds.length = 2)
    (hb : ∀ d0 d1 M Q E, sp_lowest K [d0, d1] M Q E → g_lowest K { nx := fun _ M => Q .non M, rt := Q, ex := fun x _ M => E x M } [some d0, some d1, none] M) : OkD P w K mg base 2 "lowest" ["top", "bottom"] (sp_lowest K) := by
  obtain ⟨fd, F⟩ := T.F_lowest
  refine ⟨fd, dl_def F sc_lowest (by intro ds M Q E h; exact len ds M Q E h) (g_lowest K) (by decide) (fun cdv A outer s H E hr => ?_) (fun ds M Q E h => ?_), F.binds fun _ _ _ _ _ _ us hl => match us, hl with | [_, _], _ => rfl, F.kp, T.g_lowest, fun_lk F⟩
  · exact
   (fss_cons (fs_set 2 sc_lowest.nd (fe_callO C_common_divisor (hr.mono (by decide)) (takes_of rfl rfl rfl rfl) (fa_cons (fe_tup (fa_cons (fv 0) (fa_cons (fv 1) fa_nil))) fa_nil)))
    (fss_one (fs_ret (fe_tup (fa_cons (fe_op (od_fdiv) (fv 0) (fv 2)) (fa_cons (fe_op (od_fdiv) (fv 1) (fv 2)) fa_nil))))))
  · match ds, len _ _ _ _ h with
    | [d0, d1], _ => exact hb d0 d1 M Q E h
/-! count_wins -/
def g_count_wins (K : PySem.W.Frag) : DS :=
  (sSeq (sSet 2 (gC (.int 0)))
    (sSeq (sSet 3 (gC (.int 0)))
    (sSeq (sFor (iZipD (aCons (gVar 0) (aCons (gVar 1) aNil))) (dTup 2 (dCons (dName 4) (dCons (dName 5) dNil))) (sSeq (sSet 2 (gOp dAdd (gVar 2) (gOp dMul (gVar 4) (gVar 3))))
    (sSet 3 (gOp dAdd (gVar 3) (gVar 5)))))
    (sRet (gVar 2)))))
theorem sc_count_wins : FnScope ["one", "other", "total", "lower", "mine", "theirs"] ["one", "other"] (defScope s_count_wins) := ⟨rfl, rfl, rfl, by decide +kernel, rfl, by decide +kernel, by decide +kernel⟩
theorem w_count_wins (T : Tx K mg)  (len : ∀ ds M Q E, sp_count_wins K ds M Q E → ds.length = 2)
    (hb : ∀ d0 d1 M Q E, sp_count_wins K [d0, d1] M Q E → g_count_wins K { nx := fun _ M => Q .non M, rt := Q, ex := fun x _ M => E x M } [some d0, some d1, none, none, none, none] M) : OkD P w K mg base 1 "count_wins" ["one", "other"] (sp_count_wins K) := by
  obtain ⟨fd, F⟩ := T.F_count_wins
  refine ⟨fd, dl_def F sc_count_wins (by intro ds M Q E h; exact len ds M Q E h) (g_count_wins K) (by decide) (fun cdv A outer s H E hr => ?_) (fun ds M Q E h => ?_), F.binds fun _ _ _ _ _ _ us hl => match us, hl with | [_, _], _ => rfl, F.kp, T.g_count_wins, fun_lk F⟩
  · exact
   (fss_cons (fs_set 2 sc_count_wins.nd fe_int)
    (fss_cons (fs_set 3 sc_count_wins.nd fe_int)
    (fss_cons (fs_for (passes_of rfl) rfl (fi_zip rfl T.n_zip (fa_cons (fv 0) (fa_cons (fv 1) fa_nil))) (fg_tup rfl rfl (fgs_cons (fg_name (vs := [4, 5]) 4 sc_count_wins.nd) (fgs_cons (fg_name (vs := [4, 5]) 5 sc_count_wins.nd) (fgs_nil (vs := [4, 5]))))) (fss_cons (fs_set 2 sc_count_wins.nd (fe_op (od_add rfl) (fv 2) (fe_op (od_mul) (fv 4) (fv 3))))
    (fss_one (fs_set 3 sc_count_wins.nd (fe_op (od_add rfl) (fv 3) (fv 5))))))
    (fss_one (fs_ret (fv 2))))))
  · match ds, len _ _ _ _ h with
    | [d0, d1], _ => exact hb d0 d1 M Q E h
/-! count_lead -/
def g_count_lead (K : PySem.W.Frag) : DS :=
  (sSeq (sSet 2 (gC (.int 0)))
    (sSeq (sSet 3 (gC (.int 0)))
    (sSeq (sSet 4 (gC (.int 0)))
    (sSeq (sFor (iZipD (aCons (gVar 0) (aCons (gVar 1) aNil))) (dTup 2 (dCons (dName 5) (dCons (dName 6) dNil))) (sSeq (sSet 2 (gOp dSub (gOp dAdd (gVar 2) (gOp dMul (gVar 5) (gVar 4))) (gOp dMul (gVar 6) (gVar 3))))
    (sSeq (sSet 3 (gOp dAdd (gVar 3) (gVar 5)))
    (sSet 4 (gOp dAdd (gVar 4) (gVar 6))))))
    (sRet (gVar 2))))))
theorem sc_count_lead : FnScope ["one", "other", "total", "mine_lower", "theirs_lower", "mine", "theirs"] ["one", "other"] (defScope s_count_lead) := ⟨rfl, rfl, rfl, by decide +kernel, rfl, by decide +kernel, by decide +kernel⟩
theorem w_count_lead (T : Tx K mg)  (len : ∀ ds M Q E, sp_count_lead K ds M Q E → ds.length = 2)
    (hb : ∀ d0 d1 M Q E, sp_count_lead K [d0, d1] M Q E → g_count_lead K { nx := fun _ M => Q .non M, rt := Q, ex := fun x _ M => E x M } [some d0, some d1, none, none, none, none, none] M) : OkD P w K mg base 1 "count_lead" ["one", "other"] (sp_count_lead K) := by
  obtain ⟨fd, F⟩ := T.F_count_lead
  refine ⟨fd, dl_def F sc_count_lead (by intro ds M Q E h; exact len ds M Q E h) (g_count_lead K) (by decide) (fun cdv A outer s H E hr => ?_) (fun ds M Q E h => ?_), F.binds fun _ _ _ _ _ _ us hl => match us, hl with | [_, _], _ => rfl, F.kp, T.g_count_lead, fun_lk F⟩
  · exact
   (fss_cons (fs_set 2 sc_count_lead.nd fe_int)
    (fss_cons (fs_set 3 sc_count_lead.nd fe_int)
    (fss_cons (fs_set 4 sc_count_lead.nd fe_int)
    (fss_cons (fs_for (passes_of rfl) rfl (fi_zip rfl T.n_zip (fa_cons (fv 0) (fa_cons (fv 1) fa_nil))) (fg_tup rfl rfl (fgs_cons (fg_name (vs := [5, 6]) 5 sc_count_lead.nd) (fgs_cons (fg_name (vs := [5, 6]) 6 sc_count_lead.nd) (fgs_nil (vs := [5, 6]))))) (fss_cons (fs_set 2 sc_count_lead.nd (fe_op (od_sub) (fe_op (od_add rfl) (fv 2) (fe_op (od_mul) (fv 5) (fv 4))) (fe_op (od_mul) (fv 6) (fv 3))))
    (fss_cons (fs_set 3 sc_count_lead.nd (fe_op (od_add rfl) (fv 3) (fv 5)))
    (fss_one (fs_set 4 sc_count_lead.nd (fe_op (od_add rfl) (fv 4) (fv 6)))))))
    (fss_one (fs_ret (fv 2)))))))
  · match ds, len _ _ _ _ h with
    | [d0, d1], _ => exact hb d0 d1 M Q E h
/-! lead -/
def g_lead (K : PySem.W.Frag) : DS :=
  (sSeq (sAsg (gCall (sp_two_dice K) (aCons (gVar 0) (aCons (gVar 1) aNil))) (dTup 2 (dCons (dName 2) (dCons (dName 3) dNil))))
    (sRet (gCall (sp_count_lead K) (aCons (gVar 2) (aCons (gVar 3) aNil)))))
theorem sc_lead : FnScope ["first", "second", "one", "other"] ["first", "second"] (defScope s_lead) := ⟨rfl, rfl, rfl, by decide +kernel, rfl, by decide +kernel, by decide +kernel⟩
theorem w_lead (T : Tx K mg) (C_two_dice : OkD P w K mg base 4 "two_dice" ["first", "second"] (sp_two_dice K)) (C_count_lead : OkD P w K mg base 1 "count_lead" ["one", "other"] (sp_count_lead K)) (len : ∀ ds M Q E, sp_lead K ds M Q E → ds.length = 2)
    (hb : ∀ d0 d1 M Q E, sp_lead K [d0, d1] M Q E → g_lead K { nx := fun _ M => Q .non M, rt := Q, ex := fun x _ M => E x M } [some d0, some d1, none, none] M) : OkD P w K mg base 5 "lead" ["first", "second"] (sp_lead K) := by
  obtain ⟨fd, F⟩ := T.F_lead
  refine ⟨fd, dl_def F sc_lead (by intro ds M Q E h; exact len ds M Q E h) (g_lead K) (by decide) (fun cdv A outer s H E hr => ?_) (fun ds M Q E h => ?_), F.binds fun _ _ _ _ _ _ us hl => match us, hl with | [_, _], _ => rfl, F.kp, T.g_lead, fun_lk F⟩
  · exact
   (fss_cons (fs_asg (fe_callO C_two_dice (hr.mono (by decide)) (takes_of rfl rfl rfl rfl) (fa_cons (fv 0) (fa_cons (fv 1) fa_nil))) (fg_tup rfl rfl (fgs_cons (fg_name (vs := [2, 3]) 2 sc_lead.nd) (fgs_cons (fg_name (vs := [2, 3]) 3 sc_lead.nd) (fgs_nil (vs := [2, 3]))))))
    (fss_one (fs_ret (fe_callO C_count_lead (hr.mono (by decide)) (takes_of rfl rfl rfl rfl) (fa_cons (fv 2) (fa_cons (fv 3) fa_nil))))))
  · match ds, len _ _ _ _ h with
    | [d0, d1], _ => exact hb d0 d1 M Q E h
/-! chance -/
def g_chance (K : PySem.W.Frag) : DS :=
  (sSeq (sAsg (gCall (sp_two_dice K) (aCons (gVar 0) (aCons (gVar 1) aNil))) (dTup 2 (dCons (dName 2) (dCons (dName 3) dNil))))
    (sRet (gCall (sp_lowest K) (aCons (gCall (sp_count_wins K) (aCons (gVar 2) (aCons (gVar 3) aNil))) (aCons (gOp dMul (gCB dSumS (aCons (gVar 2) aNil)) (gCB dSumS (aCons (gVar 3) aNil))) aNil)))))
theorem sc_chance : FnScope ["first", "second", "one", "other"] ["first", "second"] (defScope s_chance) := ⟨rfl, rfl, rfl, by decide +kernel, rfl, by decide +kernel, by decide +kernel⟩
theorem w_chance (T : Tx K mg) (C_two_dice : OkD P w K mg base 4 "two_dice" ["first", "second"] (sp_two_dice K)) (C_lowest : OkD P w K mg base 2 "lowest" ["top", "bottom"] (sp_lowest K)) (C_count_wins : OkD P w K mg base 1 "count_wins" ["one", "other"] (sp_count_wins K)) (len : ∀ ds M Q E, sp_chance K ds M Q E → ds.length = 2)
    (hb : ∀ d0 d1 M Q E, sp_chance K [d0, d1] M Q E → g_chance K { nx := fun _ M => Q .non M, rt := Q, ex := fun x _ M => E x M } [some d0, some d1, none, none] M) : OkD P w K mg base 5 "chance" ["first", "second"] (sp_chance K) := by
  obtain ⟨fd, F⟩ := T.F_chance
  refine ⟨fd, dl_def F sc_chance (by intro ds M Q E h; exact len ds M Q E h) (g_chance K) (by decide) (fun cdv A outer s H E hr => ?_) (fun ds M Q E h => ?_), F.binds fun _ _ _ _ _ _ us hl => match us, hl with | [_, _], _ => rfl, F.kp, T.g_chance, fun_lk F⟩
  · exact
   (fss_cons (fs_asg (fe_callO C_two_dice (hr.mono (by decide)) (takes_of rfl rfl rfl rfl) (fa_cons (fv 0) (fa_cons (fv 1) fa_nil))) (fg_tup rfl rfl (fgs_cons (fg_name (vs := [2, 3]) 2 sc_chance.nd) (fgs_cons (fg_name (vs := [2, 3]) 3 sc_chance.nd) (fgs_nil (vs := [2, 3]))))))
    (fss_one (fs_ret (fe_callO C_lowest (hr.mono (by decide)) (takes_of rfl rfl rfl rfl) (fa_cons (fe_callO C_count_wins (hr.mono (by decide)) (takes_of rfl rfl rfl rfl) (fa_cons (fv 2) (fa_cons (fv 3) fa_nil))) (fa_cons (fe_op (od_mul) (fe_cb (cd_sumS rfl rfl) T.n_sum bt_sum (fa_cons (fv 2) fa_nil)) (fe_cb (cd_sumS rfl rfl) T.n_sum bt_sum (fa_cons (fv 3) fa_nil))) fa_nil))))))
  · match ds, len _ _ _ _ h with
    | [d0, d1], _ => exact hb d0 d1 M Q E h
/-! power_of -/
def g_power_of (K : PySem.W.Frag) : DS :=
  (sSeq (sPar3 2 3 4 (aCons (gC (.int 1)) (aCons (gVar 0) (aCons (gVar 1) aNil))))
    (sSeq (sWhile (gTest (gOp dGt (gVar 4) (gC (.int 0)))) (sSeq (sIf (gTest (gOp dEq (gOp dMod (gVar 4) (gC (.int 2))) (gC (.int 1)))) (sSet 2 (gOp dMul (gVar 2) (gVar 3))) sNext)
    (sPar 3 4 (aCons (gOp dMul (gVar 3) (gVar 3)) (aCons (gOp dFdiv (gVar 4) (gC (.int 2))) aNil)))))
    (sRet (gVar 2))))
theorem sc_power_of : FnScope ["number", "count", "result", "square", "left"] ["number", "count"] (defScope s_power_of) := ⟨rfl, rfl, rfl, by decide +kernel, rfl, by decide +kernel, by decide +kernel⟩
theorem w_power_of (T : Tx K mg)  (len : ∀ ds M Q E, sp_power_of K ds M Q E → ds.length = 2)
    (hb : ∀ d0 d1 M Q E, sp_power_of K [d0, d1] M Q E → g_power_of K { nx := fun _ M => Q .non M, rt := Q, ex := fun x _ M => E x M } [some d0, some d1, none, none, none] M) : OkD P w K mg base 1 "power_of" ["number", "count"] (sp_power_of K) := by
  obtain ⟨fd, F⟩ := T.F_power_of
  refine ⟨fd, dl_def F sc_power_of (by intro ds M Q E h; exact len ds M Q E h) (g_power_of K) (by decide) (fun cdv A outer s H E hr => ?_) (fun ds M Q E h => ?_), F.binds fun _ _ _ _ _ _ us hl => match us, hl with | [_, _], _ => rfl, F.kp, T.g_power_of, fun_lk F⟩
  · exact
   (fss_cons (fs_par3 2 3 4 sc_power_of.nd (fa_cons fe_int (fa_cons (fv 0) (fa_cons (fv 1) fa_nil))))
    (fss_cons (fs_while (passes_of rfl) (ft_cmp (od_gt) (fv 4) fe_int (nomark _)) (fss_cons (fs_if (ft_cmp (od_eq rfl (hu64 hr)) (fe_op (od_mod) (fv 4) fe_int) fe_int (nomark _)) (fss_one (fs_set 2 sc_power_of.nd (fe_op (od_mul) (fv 2) (fv 3)))) fss_nil)
    (fss_one (fs_par 3 4 sc_power_of.nd (fa_cons (fe_op (od_mul) (fv 3) (fv 3)) (fa_cons (fe_op (od_fdiv) (fv 4) fe_int) fa_nil))))))
    (fss_one (fs_ret (fv 2)))))
  · match ds, len _ _ _ _ h with
    | [d0, d1], _ => exact hb d0 d1 M Q E h
/-! greatest_die -/
def g_greatest_die (K : PySem.W.Frag) : DS :=
  (sSeq (sSet 2 (gCall (sp_belows K) (aCons (gVar 0) aNil)))
    (sSeq (sDrop (gCall (sp_check_within K) (aCons (gVar 1) (aCons (gC (.str "count")) (aCons (gC (.int 1)) (aCons (gC (.int 4000)) aNil))))))
    (sSeq (sSet 3 (gFrz (nLc (iSeqD (gVar 2)) (dName 4) gYes (gCall (sp_power_of K) (aCons (gVar 4) (aCons (gVar 1) aNil))) [4])))
    (sRet (gCB dTupleOf (aCons (gFrz (nLc (iRange1 (aCons (gCB dLen (aCons (gVar 0) aNil)) aNil)) (dName 5) gYes (gOp dSub (gOp dIx (gVar 3) (gOp dAdd (gVar 5) (gC (.int 1)))) (gOp dIx (gVar 3) (gVar 5))) [5])) aNil))))))
theorem sc_greatest_die : FnScope ["die", "count", "heights", "powers", "height", "at"] ["die", "count"] (defScope s_greatest_die) := ⟨rfl, rfl, rfl, by decide +kernel, rfl, by decide +kernel, by decide +kernel⟩
theorem w_greatest_die (T : Tx K mg) (C_belows : OkD P w K mg base 4 "belows" ["die"] (sp_belows K)) (C_check_within : OkD P w K mg base 3 "check_within" ["value", "name", "low", "high"] (sp_check_within K)) (C_power_of : OkD P w K mg base 1 "power_of" ["number", "count"] (sp_power_of K)) (len : ∀ ds M Q E, sp_greatest_die K ds M Q E → ds.length = 2)
    (hb : ∀ d0 d1 M Q E, sp_greatest_die K [d0, d1] M Q E → g_greatest_die K { nx := fun _ M => Q .non M, rt := Q, ex := fun x _ M => E x M } [some d0, some d1, none, none, none, none] M) : OkD P w K mg base 5 "greatest_die" ["die", "count"] (sp_greatest_die K) := by
  obtain ⟨fd, F⟩ := T.F_greatest_die
  refine ⟨fd, dl_def F sc_greatest_die (by intro ds M Q E h; exact len ds M Q E h) (g_greatest_die K) (by decide) (fun cdv A outer s H E hr => ?_) (fun ds M Q E h => ?_), F.binds fun _ _ _ _ _ _ us hl => match us, hl with | [_, _], _ => rfl, F.kp, T.g_greatest_die, fun_lk F⟩
  · exact
   (fss_cons (fs_set 2 sc_greatest_die.nd (fe_callO C_belows (hr.mono (by decide)) (takes_of rfl rfl rfl rfl) (fa_cons (fv 0) fa_nil)))
    (fss_cons (fs_expr (fe_callO C_check_within (hr.mono (by decide)) (takes_of rfl rfl rfl rfl) (fa_cons (fv 1) (fa_cons fe_str (fa_cons fe_int (fa_cons (fe_glob T.c_MOST_THROWS) fa_nil))))))
    (fss_cons (fs_set 3 sc_greatest_die.nd (FN.frz (fn_lc (own := [("height", 4)]) sc_greatest_die.nd (fi_seq rfl (fv 2)) (blkOk_by (by kernel_rfl)) (fun s H C cl fp => (fg_name (vs := [4]) 4 sc_greatest_die.nd)) (fun s H C cl fp => fts_nil) (fun s H C cl fp => (fe_callO C_power_of (hr.mono (by decide)) takes0 (fa_cons (fv 4) (fa_cons (fv 1) fa_nil)))))))
    (fss_one (fs_ret (fe_ct (cd_tuple rfl) T.n_tuple bt_tuple (fa_cons (FN.frz (fn_lc (own := [("at", 5)]) sc_greatest_die.nd (fi_range1 (by rfl) T.n_range (fa_cons (fe_cb (cd_len rfl) T.n_len bt_len (fa_cons (fv 0) fa_nil)) fa_nil)) (blkOk_by (by kernel_rfl)) (fun s H C cl fp => (fg_name (vs := [5]) 5 sc_greatest_die.nd)) (fun s H C cl fp => fts_nil) (fun s H C cl fp => (fe_op (od_sub) (fe_ix (xd_ix rfl) (fv 3) (fe_op (od_add rfl) (fv 5) fe_int) (fun _ _ => rfl)) (fe_ix (xd_ix rfl) (fv 3) (fv 5) (fun _ _ => rfl)))))) fa_nil)))))))
  · match ds, len _ _ _ _ h with
    | [d0, d1], _ => exact hb d0 d1 M Q E h
/-! least_die -/
def g_least_die (K : PySem.W.Frag) : DS :=
  (sSeq (sSet 2 (gCall (sp_die_of K) (aCons (gVar 0) aNil)))
    (sRet (gRev (gCall (sp_greatest_die K) (aCons (gRev (gVar 2)) (aCons (gVar 1) aNil))))))
theorem sc_least_die : FnScope ["die", "count", "row"] ["die", "count"] (defScope s_least_die) := ⟨rfl, rfl, rfl, by decide +kernel, rfl, by decide +kernel, by decide +kernel⟩
theorem w_least_die (T : Tx K mg) (C_die_of : OkD P w K mg base 3 "die_of" ["row"] (sp_die_of K)) (C_greatest_die : OkD P w K mg base 5 "greatest_die" ["die", "count"] (sp_greatest_die K)) (len : ∀ ds M Q E, sp_least_die K ds M Q E → ds.length = 2)
    (hb : ∀ d0 d1 M Q E, sp_least_die K [d0, d1] M Q E → g_least_die K { nx := fun _ M => Q .non M, rt := Q, ex := fun x _ M => E x M } [some d0, some d1, none] M) : OkD P w K mg base 6 "least_die" ["die", "count"] (sp_least_die K) := by
  obtain ⟨fd, F⟩ := T.F_least_die
  refine ⟨fd, dl_def F sc_least_die (by intro ds M Q E h; exact len ds M Q E h) (g_least_die K) (by decide) (fun cdv A outer s H E hr => ?_) (fun ds M Q E h => ?_), F.binds fun _ _ _ _ _ _ us hl => match us, hl with | [_, _], _ => rfl, F.kp, T.g_least_die, fun_lk F⟩
  · exact
   (fss_cons (fs_set 2 sc_least_die.nd (fe_callO C_die_of (hr.mono (by decide)) (takes_of rfl rfl rfl rfl) (fa_cons (fv 0) fa_nil)))
    (fss_one (fs_ret (fe_rev (fe_callO C_greatest_die (hr.mono (by decide)) (takes_of rfl rfl rfl rfl) (fa_cons (fe_rev (fv 2)) (fa_cons (fv 1) fa_nil)))))))
  · match ds, len _ _ _ _ h with
    | [d0, d1], _ => exact hb d0 d1 M Q E h
/-! chance_of_two -/
def g_chance_of_two (K : PySem.W.Frag) : DS :=
  (sSeq (sSet 4 (gCall (sp_greatest_die K) (aCons (gVar 0) (aCons (gVar 1) aNil))))
    (sSeq (sSet 5 (gCall (sp_die_of K) (aCons (gVar 2) aNil)))
    (sSeq (sDrop (gCall (sp_check_within K) (aCons (gVar 3) (aCons (gC (.str "other")) (aCons (gC (.int 1)) (aCons (gC (.int 4000)) aNil))))))
    (sRet (gCall (sp_chance K) (aCons (gVar 4) (aCons (gCall (sp_greatest_die K) (aCons (gVar 5) (aCons (gVar 3) aNil))) aNil)))))))
theorem sc_chance_of_two : FnScope ["a", "count", "b", "other", "one", "row"] ["a", "count", "b", "other"] (defScope s_chance_of_two) := ⟨rfl, rfl, rfl, by decide +kernel, rfl, by decide +kernel, by decide +kernel⟩
theorem w_chance_of_two (T : Tx K mg) (C_greatest_die : OkD P w K mg base 5 "greatest_die" ["die", "count"] (sp_greatest_die K)) (C_die_of : OkD P w K mg base 3 "die_of" ["row"] (sp_die_of K)) (C_check_within : OkD P w K mg base 3 "check_within" ["value", "name", "low", "high"] (sp_check_within K)) (C_chance : OkD P w K mg base 5 "chance" ["first", "second"] (sp_chance K)) (len : ∀ ds M Q E, sp_chance_of_two K ds M Q E → ds.length = 4)
    (hb : ∀ d0 d1 d2 d3 M Q E, sp_chance_of_two K [d0, d1, d2, d3] M Q E → g_chance_of_two K { nx := fun _ M => Q .non M, rt := Q, ex := fun x _ M => E x M } [some d0, some d1, some d2, some d3, none, none] M) : OkD P w K mg base 6 "chance_of_two" ["a", "count", "b", "other"] (sp_chance_of_two K) := by
  obtain ⟨fd, F⟩ := T.F_chance_of_two
  refine ⟨fd, dl_def F sc_chance_of_two (by intro ds M Q E h; exact len ds M Q E h) (g_chance_of_two K) (by decide) (fun cdv A outer s H E hr => ?_) (fun ds M Q E h => ?_), F.binds fun _ _ _ _ _ _ us hl => match us, hl with | [_, _, _, _], _ => rfl, F.kp, T.g_chance_of_two, fun_lk F⟩
  · exact
   (fss_cons (fs_set 4 sc_chance_of_two.nd (fe_callO C_greatest_die (hr.mono (by decide)) (takes_of rfl rfl rfl rfl) (fa_cons (fv 0) (fa_cons (fv 1) fa_nil))))
    (fss_cons (fs_set 5 sc_chance_of_two.nd (fe_callO C_die_of (hr.mono (by decide)) (takes_of rfl rfl rfl rfl) (fa_cons (fv 2) fa_nil)))
    (fss_cons (fs_expr (fe_callO C_check_within (hr.mono (by decide)) (takes_of rfl rfl rfl rfl) (fa_cons (fv 3) (fa_cons fe_str (fa_cons fe_int (fa_cons (fe_glob T.c_MOST_THROWS) fa_nil))))))
    (fss_one (fs_ret (fe_callO C_chance (hr.mono (by decide)) (takes_of rfl rfl rfl rfl) (fa_cons (fv 4) (fa_cons (fe_callO C_greatest_die (hr.mono (by decide)) (takes_of rfl rfl rfl rfl) (fa_cons (fv 5) (fa_cons (fv 3) fa_nil))) fa_nil))))))))
  · match ds, len _ _ _ _ h with
    | [d0, d1, d2, d3], _ => exact hb d0 d1 d2 d3 M Q E h
/-! _law_draws -/
def g__law_draws (K : PySem.W.Frag) : DS :=
  (sSeq (sSet 1 (gCel (nLst aNil)))
    (sSeq (sFor (iRange1 (aCons (gCB dMin (aCons (gCB dLen (aCons (gVar 0) aNil)) (aCons (gC (.int 63)) aNil))) aNil)) (dName 2) (sSeq (sSet 3 (gCB dInt (aCons (gOp dIx (gVar 0) (gVar 2)) aNil)))
    (sSeq (sIf (gTest (gOp dLt (gVar 3) (gC (.int 0)))) (sSet 3 (gOp dSub (gC (.int 5)) (gVar 3))) sNext)
    (sIf (gTest (gOp dGe (gVar 3) (gOp dPow (gC (.int 10)) (gC (.int 18))))) (sFor (iRange1 (aCons (gC (.int 48)) aNil)) (dName 4) (sIf (gTest (gOp dGt (gVar 3) (gC (.int 0)))) (sSeq (sDrop (gMt dAppend (gVar 1) (aCons (gOp dMod (gCB dInt (aCons (gVar 3) aNil)) (gC (.int 30))) aNil)))
    (sSet 3 (gOp dFdiv (gVar 3) (gC (.int 30))))) sNext)) (sSeq (sSet 5 (gOp dMod (gCB dInt (aCons (gOp dAdd (gOp dAdd (gOp dMul (gVar 3) (gC (.int 62089911))) (gOp dMul (gVar 2) (gC (.int 104729)))) (gC (.int 17))) aNil)) (gC (.int 2147483629))))
    (sFor (iRange1 (aCons (gC (.int 6)) aNil)) (dName 4) (sSeq (sSet 5 (gOp dMod (gCB dInt (aCons (gOp dAdd (gOp dAdd (gOp dAdd (gOp dMul (gVar 5) (gVar 5)) (gOp dMul (gVar 4) (gC (.int 7919)))) (gOp dMul (gVar 2) (gC (.int 31)))) (gC (.int 3))) aNil)) (gC (.int 2147483587))))
    (sDrop (gMt dAppend (gVar 1) (aCons (gVar 5) aNil))))))))))
    (sSeq (sDrop (gMt0 dReverse (gVar 1)))
    (sRet (gVar 1)))))
theorem sc__law_draws : FnScope ["_law_script", "_law_drawn", "_law_at", "_law_cell", "_law_turn", "_law_state"] ["_law_script"] (defScope s__law_draws) := ⟨rfl, rfl, rfl, by decide +kernel, rfl, by decide +kernel, by decide +kernel⟩
theorem w__law_draws (T : Tx K mg)  (len : ∀ ds M Q E, sp__law_draws K ds M Q E → ds.length = 1)
    (hb : ∀ d0 M Q E, sp__law_draws K [d0] M Q E → g__law_draws K { nx := fun _ M => Q .non M, rt := Q, ex := fun x _ M => E x M } [some d0, none, none, none, none, none] M) : OkD P w K mg base 1 "_law_draws" ["_law_script"] (sp__law_draws K) := by
  obtain ⟨fd, F⟩ := T.F__law_draws
  refine ⟨fd, dl_def F sc__law_draws (by intro ds M Q E h; exact len ds M Q E h) (g__law_draws K) (by decide) (fun cdv A outer s H E hr => ?_) (fun ds M Q E h => ?_), F.binds fun _ _ _ _ _ _ us hl => match us, hl with | [_], _ => rfl, F.kp, T.g__law_draws, fun_lk F⟩
  · exact
   (fss_cons (fs_set 1 sc__law_draws.nd (FN.cel (fn_lst fa_nil)))
    (fss_cons (fs_for (passes_of rfl) rfl (fi_range1 (by rfl) T.n_range (fa_cons (fe_cb (cd_min rfl rfl (hu64 hr)) T.n_min bt_min (fa_cons (fe_cb (cd_len rfl) T.n_len bt_len (fa_cons (fv 0) fa_nil)) (fa_cons fe_int fa_nil))) fa_nil)) (fg_name (vs := [2]) 2 sc__law_draws.nd) (fss_cons (fs_set 3 sc__law_draws.nd (fe_ct (cd_int) T.n_int bt_int (fa_cons (fe_ix (xd_ix rfl) (fv 0) (fv 2) (fun _ _ => rfl)) fa_nil)))
    (fss_cons (fs_if (ft_cmp (od_lt) (fv 3) fe_int (nomark _)) (fss_one (fs_set 3 sc__law_draws.nd (fe_op (od_sub) fe_int (fv 3)))) fss_nil)
    (fss_one (fs_if (ft_cmp (od_ge) (fv 3) (fe_op (od_pow) fe_int fe_int) (nomark _)) (fss_one (fs_for (passes_of rfl) rfl (fi_range1 (by rfl) T.n_range (fa_cons fe_int fa_nil)) (fg_name (vs := [4]) 4 sc__law_draws.nd) (fss_one (fs_if (ft_cmp (od_gt) (fv 3) fe_int (nomark _)) (fss_cons (fs_expr (fe_mt rfl (PySem.F.slot_list_append) PySem.F.type_list_append md_append (fv 1) (fa_cons (fe_op (od_mod) (fe_ct (cd_int) T.n_int bt_int (fa_cons (fv 3) fa_nil)) fe_int) fa_nil)))
    (fss_one (fs_set 3 sc__law_draws.nd (fe_op (od_fdiv) (fv 3) fe_int)))) fss_nil)))) (fss_cons (fs_set 5 sc__law_draws.nd (fe_op (od_mod) (fe_ct (cd_int) T.n_int bt_int (fa_cons (fe_op (od_add rfl) (fe_op (od_add rfl) (fe_op (od_mul) (fv 3) fe_int) (fe_op (od_mul) (fv 2) fe_int)) fe_int) fa_nil)) fe_int))
    (fss_one (fs_for (passes_of rfl) rfl (fi_range1 (by rfl) T.n_range (fa_cons fe_int fa_nil)) (fg_name (vs := [4]) 4 sc__law_draws.nd) (fss_cons (fs_set 5 sc__law_draws.nd (fe_op (od_mod) (fe_ct (cd_int) T.n_int bt_int (fa_cons (fe_op (od_add rfl) (fe_op (od_add rfl) (fe_op (od_add rfl) (fe_op (od_mul) (fv 5) (fv 5)) (fe_op (od_mul) (fv 4) fe_int)) (fe_op (od_mul) (fv 2) fe_int)) fe_int) fa_nil)) fe_int))
    (fss_one (fs_expr (fe_mt rfl (PySem.F.slot_list_append) PySem.F.type_list_append md_append (fv 1) (fa_cons (fv 5) fa_nil)))))))))))))
    (fss_cons (fs_expr (fe_mt0 rfl (PySem.F.slot_list_reverse) PySem.F.type_list_reverse md_reverse (fv 1)))
    (fss_one (fs_ret (fv 1))))))
  · match ds, len _ _ _ _ h with
    | [d0], _ => exact hb d0 M Q E h
/-! _law_take -/
def g__law_take (K : PySem.W.Frag) : DS :=
  (sSeq (sIf (gTest (gOp dEq (gCB dLen (aCons (gVar 0) aNil)) (gC (.int 0)))) (sRet (gC (.int 0))) sNext)
    (sRet (gOp dMod (gCB dInt (aCons (gMt0 dPop (gVar 0)) aNil)) (gVar 1))))
theorem sc__law_take : FnScope ["_law_drawn", "_law_many"] ["_law_drawn", "_law_many"] (defScope s__law_take) := ⟨rfl, rfl, rfl, by decide +kernel, rfl, by decide +kernel, by decide +kernel⟩
theorem w__law_take (T : Tx K mg)  (len : ∀ ds M Q E, sp__law_take K ds M Q E → ds.length = 2)
    (hb : ∀ d0 d1 M Q E, sp__law_take K [d0, d1] M Q E → g__law_take K { nx := fun _ M => Q .non M, rt := Q, ex := fun x _ M => E x M } [some d0, some d1] M) : OkD P w K mg base 1 "_law_take" ["_law_drawn", "_law_many"] (sp__law_take K) := by
  obtain ⟨fd, F⟩ := T.F__law_take
  refine ⟨fd, dl_def F sc__law_take (by intro ds M Q E h; exact len ds M Q E h) (g__law_take K) (by decide) (fun cdv A outer s H E hr => ?_) (fun ds M Q E h => ?_), F.binds fun _ _ _ _ _ _ us hl => match us, hl with | [_, _], _ => rfl, F.kp, T.g__law_take, fun_lk F⟩
  · exact
   (fss_cons (fs_if (ft_cmp (od_eq rfl (hu64 hr)) (fe_cb (cd_len rfl) T.n_len bt_len (fa_cons (fv 0) fa_nil)) fe_int (nomark _)) (fss_one (fs_ret fe_int)) fss_nil)
    (fss_one (fs_ret (fe_op (od_mod) (fe_ct (cd_int) T.n_int bt_int (fa_cons (fe_mt0 rfl (PySem.F.slot_list_pop) PySem.F.type_list_pop md_pop (fv 0)) fa_nil)) (fv 1)))))
  · match ds, len _ _ _ _ h with
    | [d0, d1], _ => exact hb d0 d1 M Q E h
/-! _law_int -/
def g__law_int (K : PySem.W.Frag) : DS :=
  (sRet (gAndV (gCB dIsi (aCons (gVar 0) (aCons (gC (.ty "int")) aNil))) (gNotV (gCB dIsi (aCons (gVar 0) (aCons (gC (.ty "bool")) aNil))))))
theorem sc__law_int : FnScope ["_law_value"] ["_law_value"] (defScope s__law_int) := ⟨rfl, rfl, rfl, by decide +kernel, rfl, by decide +kernel, by decide +kernel⟩
theorem w__law_int (T : Tx K mg)  (len : ∀ ds M Q E, sp__law_int K ds M Q E → ds.length = 1)
    (hb : ∀ d0 M Q E, sp__law_int K [d0] M Q E → g__law_int K { nx := fun _ M => Q .non M, rt := Q, ex := fun x _ M => E x M } [some d0] M) : OkD P w K mg base 1 "_law_int" ["_law_value"] (sp__law_int K) := by
  obtain ⟨fd, F⟩ := T.F__law_int
  refine ⟨fd, dl_def F sc__law_int (by intro ds M Q E h; exact len ds M Q E h) (g__law_int K) (by decide) (fun cdv A outer s H E hr => ?_) (fun ds M Q E h => ?_), F.binds fun _ _ _ _ _ _ us hl => match us, hl with | [_], _ => rfl, F.kp, T.g__law_int, fun_lk F⟩
  · exact
   (fss_one (fs_ret (fe_and (fe_cb (cd_isi rfl) T.n_isinstance bt_isinstance (fa_cons (fv 0) (fa_cons (fe_ty rfl T.n_int bt_int) fa_nil))) (fe_one (fe_not (fe_cb (cd_isi rfl) T.n_isinstance bt_isinstance (fa_cons (fv 0) (fa_cons (fe_ty rfl T.n_bool bt_bool) fa_nil))))))))
  · match ds, len _ _ _ _ h with
    | [d0], _ => exact hb d0 M Q E h
/-! _law_divisor -/
def g__law_divisor (K : PySem.W.Frag) : DS :=
  (sSeq (sFor (iRange1 (aCons (gC (.int 4000)) aNil)) (dName 2) (sSeq (sIf (gTest (gOp dEq (gVar 1) (gC (.int 0)))) (sRet (gCB dAbs (aCons (gVar 0) aNil))) sNext)
    (sSeq (sSet 3 (gOp dMod (gCB dInt (aCons (gVar 0) aNil)) (gVar 1)))
    (sSeq (sSet 0 (gVar 1))
    (sSet 1 (gVar 3))))))
    (sRet (gC (.int 1))))
theorem sc__law_divisor : FnScope ["_law_one", "_law_other", "_law_turn", "_law_rest"] ["_law_one", "_law_other"] (defScope s__law_divisor) := ⟨rfl, rfl, rfl, by decide +kernel, rfl, by decide +kernel, by decide +kernel⟩
theorem w__law_divisor (T : Tx K mg)  (len : ∀ ds M Q E, sp__law_divisor K ds M Q E → ds.length = 2)
    (hb : ∀ d0 d1 M Q E, sp__law_divisor K [d0, d1] M Q E → g__law_divisor K { nx := fun _ M => Q .non M, rt := Q, ex := fun x _ M => E x M } [some d0, some d1, none, none] M) : OkD P w K mg base 1 "_law_divisor" ["_law_one", "_law_other"] (sp__law_divisor K) := by
  obtain ⟨fd, F⟩ := T.F__law_divisor
  refine ⟨fd, dl_def F sc__law_divisor (by intro ds M Q E h; exact len ds M Q E h) (g__law_divisor K) (by decide) (fun cdv A outer s H E hr => ?_) (fun ds M Q E h => ?_), F.binds fun _ _ _ _ _ _ us hl => match us, hl with | [_, _], _ => rfl, F.kp, T.g__law_divisor, fun_lk F⟩
  · exact
   (fss_cons (fs_for (passes_of rfl) rfl (fi_range1 (by rfl) T.n_range (fa_cons fe_int fa_nil)) (fg_name (vs := [2]) 2 sc__law_divisor.nd) (fss_cons (fs_if (ft_cmp (od_eq rfl (hu64 hr)) (fv 1) fe_int (nomark _)) (fss_one (fs_ret (fe_cb (cd_abs) T.n_abs bt_abs (fa_cons (fv 0) fa_nil)))) fss_nil)
    (fss_cons (fs_set 3 sc__law_divisor.nd (fe_op (od_mod) (fe_ct (cd_int) T.n_int bt_int (fa_cons (fv 0) fa_nil)) (fv 1)))
    (fss_cons (fs_set 0 sc__law_divisor.nd (fv 1))
    (fss_one (fs_set 1 sc__law_divisor.nd (fv 3)))))))
    (fss_one (fs_ret fe_int)))
  · match ds, len _ _ _ _ h with
    | [d0, d1], _ => exact hb d0 d1 M Q E h
/-! _law_is_fraction -/
def g__law_is_fraction (K : PySem.W.Frag) : DS :=
  (sSeq (sIf (gOr (gNot (gTest (gCB dIsi (aCons (gVar 0) (aCons (gC (.ty "tuple")) aNil))))) (gTest (gOp dNe (gCB dLen (aCons (gVar 0) aNil)) (gC (.int 2))))) (sRet (gC (.bl false))) sNext)
    (sSeq (sIf (gOr (gNot (gTest (gCall (sp__law_int K) (aCons (gOp dIx (gVar 0) (gC (.int 0))) aNil)))) (gOr (gNot (gTest (gCall (sp__law_int K) (aCons (gOp dIx (gVar 0) (gC (.int 1))) aNil)))) (gTest (gOp dLt (gOp dIx (gVar 0) (gC (.int 1))) (gC (.int 1)))))) (sRet (gC (.bl false))) sNext)
    (sRet (gOp dEq (gCall (sp__law_divisor K) (aCons (gOp dIx (gVar 0) (gC (.int 0))) (aCons (gOp dIx (gVar 0) (gC (.int 1))) aNil))) (gC (.int 1))))))
theorem sc__law_is_fraction : FnScope ["_law_value"] ["_law_value"] (defScope s__law_is_fraction) := ⟨rfl, rfl, rfl, by decide +kernel, rfl, by decide +kernel, by decide +kernel⟩
theorem w__law_is_fraction (T : Tx K mg) (C__law_divisor : OkD P w K mg base 1 "_law_divisor" ["_law_one", "_law_other"] (sp__law_divisor K)) (C__law_int : OkD P w K mg base 1 "_law_int" ["_law_value"] (sp__law_int K)) (len : ∀ ds M Q E, sp__law_is_fraction K ds M Q E → ds.length = 1)
    (hb : ∀ d0 M Q E, sp__law_is_fraction K [d0] M Q E → g__law_is_fraction K { nx := fun _ M => Q .non M, rt := Q, ex := fun x _ M => E x M } [some d0] M) : OkD P w K mg base 2 "_law_is_fraction" ["_law_value"] (sp__law_is_fraction K) := by
  obtain ⟨fd, F⟩ := T.F__law_is_fraction
  refine ⟨fd, dl_def F sc__law_is_fraction (by intro ds M Q E h; exact len ds M Q E h) (g__law_is_fraction K) (by decide) (fun cdv A outer s H E hr => ?_) (fun ds M Q E h => ?_), F.binds fun _ _ _ _ _ _ us hl => match us, hl with | [_], _ => rfl, F.kp, T.g__law_is_fraction, fun_lk F⟩
  · exact
   (fss_cons (fs_if (FW.ft (fw_or (ft_not (ft_val (fe_cb (cd_isi rfl) T.n_isinstance bt_isinstance (fa_cons (fv 0) (fa_cons (fe_ty rfl T.n_tuple bt_tuple) fa_nil))))) (fw_or1 (ft_cmp (od_ne rfl (hu64 hr)) (fe_cb (cd_len rfl) T.n_len bt_len (fa_cons (fv 0) fa_nil)) fe_int (nomark _))))) (fss_one (fs_ret fe_bl)) fss_nil)
    (fss_cons (fs_if (FW.ft (fw_or (ft_not (ft_val (fe_callO C__law_int (hr.mono (by decide)) (takes_of rfl rfl rfl rfl) (fa_cons (fe_ix (xd_ix rfl) (fv 0) fe_int (fun _ _ => rfl)) fa_nil)))) (fw_or (ft_not (ft_val (fe_callO C__law_int (hr.mono (by decide)) (takes_of rfl rfl rfl rfl) (fa_cons (fe_ix (xd_ix rfl) (fv 0) fe_int (fun _ _ => rfl)) fa_nil)))) (fw_or1 (ft_cmp (od_lt) (fe_ix (xd_ix rfl) (fv 0) fe_int (fun _ _ => rfl)) fe_int (nomark _)))))) (fss_one (fs_ret fe_bl)) fss_nil)
    (fss_one (fs_ret (fe_cmp (od_eq rfl (hu64 hr)) (fe_callO C__law_divisor (hr.mono (by decide)) (takes_of rfl rfl rfl rfl) (fa_cons (fe_ix (xd_ix rfl) (fv 0) fe_int (fun _ _ => rfl)) (fa_cons (fe_ix (xd_ix rfl) (fv 0) fe_int (fun _ _ => rfl)) fa_nil))) fe_int (nomark _))))))
  · match ds, len _ _ _ _ h with
    | [d0], _ => exact hb d0 M Q E h
/-! _law_same_worth -/
def g__law_same_worth (K : PySem.W.Frag) : DS :=
  (sRet (gOp dEq (gOp dMul (gOp dIx (gVar 0) (gC (.int 0))) (gOp dIx (gVar 1) (gC (.int 1)))) (gOp dMul (gOp dIx (gVar 1) (gC (.int 0))) (gOp dIx (gVar 0) (gC (.int 1))))))
theorem sc__law_same_worth : FnScope ["_law_one", "_law_other"] ["_law_one", "_law_other"] (defScope s__law_same_worth) := ⟨rfl, rfl, rfl, by decide +kernel, rfl, by decide +kernel, by decide +kernel⟩
theorem w__law_same_worth (T : Tx K mg)  (len : ∀ ds M Q E, sp__law_same_worth K ds M Q E → ds.length = 2)
    (hb : ∀ d0 d1 M Q E, sp__law_same_worth K [d0, d1] M Q E → g__law_same_worth K { nx := fun _ M => Q .non M, rt := Q, ex := fun x _ M => E x M } [some d0, some d1] M) : OkD P w K mg base 1 "_law_same_worth" ["_law_one", "_law_other"] (sp__law_same_worth K) := by
  obtain ⟨fd, F⟩ := T.F__law_same_worth
  refine ⟨fd, dl_def F sc__law_same_worth (by intro ds M Q E h; exact len ds M Q E h) (g__law_same_worth K) (by decide) (fun cdv A outer s H E hr => ?_) (fun ds M Q E h => ?_), F.binds fun _ _ _ _ _ _ us hl => match us, hl with | [_, _], _ => rfl, F.kp, T.g__law_same_worth, fun_lk F⟩
  · exact
   (fss_one (fs_ret (fe_cmp (od_eq rfl (hu64 hr)) (fe_op (od_mul) (fe_ix (xd_ix rfl) (fv 0) fe_int (fun _ _ => rfl)) (fe_ix (xd_ix rfl) (fv 1) fe_int (fun _ _ => rfl))) (fe_op (od_mul) (fe_ix (xd_ix rfl) (fv 1) fe_int (fun _ _ => rfl)) (fe_ix (xd_ix rfl) (fv 0) fe_int (fun _ _ => rfl))) (nomark _))))
  · match ds, len _ _ _ _ h with
    | [d0, d1], _ => exact hb d0 d1 M Q E h
/-! _law_at_most -/
def g__law_at_most (K : PySem.W.Frag) : DS :=
  (sRet (gOp dLe (gOp dMul (gOp dIx (gVar 0) (gC (.int 0))) (gOp dIx (gVar 1) (gC (.int 1)))) (gOp dMul (gOp dIx (gVar 1) (gC (.int 0))) (gOp dIx (gVar 0) (gC (.int 1))))))
theorem sc__law_at_most : FnScope ["_law_one", "_law_other"] ["_law_one", "_law_other"] (defScope s__law_at_most) := ⟨rfl, rfl, rfl, by decide +kernel, rfl, by decide +kernel, by decide +kernel⟩
theorem w__law_at_most (T : Tx K mg)  (len : ∀ ds M Q E, sp__law_at_most K ds M Q E → ds.length = 2)
    (hb : ∀ d0 d1 M Q E, sp__law_at_most K [d0, d1] M Q E → g__law_at_most K { nx := fun _ M => Q .non M, rt := Q, ex := fun x _ M => E x M } [some d0, some d1] M) : OkD P w K mg base 1 "_law_at_most" ["_law_one", "_law_other"] (sp__law_at_most K) := by
  obtain ⟨fd, F⟩ := T.F__law_at_most
  refine ⟨fd, dl_def F sc__law_at_most (by intro ds M Q E h; exact len ds M Q E h) (g__law_at_most K) (by decide) (fun cdv A outer s H E hr => ?_) (fun ds M Q E h => ?_), F.binds fun _ _ _ _ _ _ us hl => match us, hl with | [_, _], _ => rfl, F.kp, T.g__law_at_most, fun_lk F⟩
  · exact
   (fss_one (fs_ret (fe_cmp (od_le) (fe_op (od_mul) (fe_ix (xd_ix rfl) (fv 0) fe_int (fun _ _ => rfl)) (fe_ix (xd_ix rfl) (fv 1) fe_int (fun _ _ => rfl))) (fe_op (od_mul) (fe_ix (xd_ix rfl) (fv 1) fe_int (fun _ _ => rfl)) (fe_ix (xd_ix rfl) (fv 0) fe_int (fun _ _ => rfl))) (nomark _))))
  · match ds, len _ _ _ _ h with
    | [d0, d1], _ => exact hb d0 d1 M Q E h
/-! _law_die -/
def g__law_die (K : PySem.W.Frag) : DS :=
  (sSeq (sSet 2 (gCel (nLst aNil)))
    (sSeq (sFor (iRange1 (aCons (gVar 1) aNil)) (dName 3) (sDrop (gMt dAppend (gVar 2) (aCons (gOp dIx (gFrz (nLst (aCons (gC (.int 1)) (aCons (gC (.int 0)) (aCons (gC (.int 2)) (aCons (gC (.int 0)) (aCons (gC (.int 1)) (aCons (gC (.int 3)) (aCons (gC (.int 0)) (aCons (gC (.int 0)) (aCons (gC (.int 1)) (aCons (gC (.int 0)) aNil)))))))))))) (gCall (sp__law_take K) (aCons (gVar 0) (aCons (gC (.int 10)) aNil)))) aNil))))
    (sSeq (sIf (gTest (gOp dEq (gCB dSumS (aCons (gVar 2) aNil)) (gC (.int 0)))) (sSetIx (gC (.int 1)) (gVar 2) (gCall (sp__law_take K) (aCons (gVar 0) (aCons (gVar 1) aNil)))) sNext)
    (sRetF (gVar 2)))))
theorem sc__law_die : FnScope ["_law_drawn", "_law_ranks", "_law_row", "_law_rank"] ["_law_drawn", "_law_ranks"] (defScope s__law_die) := ⟨rfl, rfl, rfl, by decide +kernel, rfl, by decide +kernel, by decide +kernel⟩
theorem w__law_die (T : Tx K mg) (C__law_take : OkD P w K mg base 1 "_law_take" ["_law_drawn", "_law_many"] (sp__law_take K)) (len : ∀ ds M Q E, sp__law_die K ds M Q E → ds.length = 2)
    (hb : ∀ d0 d1 M Q E, sp__law_die K [d0, d1] M Q E → g__law_die K { nx := fun _ M => Q .non M, rt := Q, ex := fun x _ M => E x M } [some d0, some d1, none, none] M) : OkD P w K mg base 2 "_law_die" ["_law_drawn", "_law_ranks"] (sp__law_die K) := by
  obtain ⟨fd, F⟩ := T.F__law_die
  refine ⟨fd, dl_def F sc__law_die (by intro ds M Q E h; exact len ds M Q E h) (g__law_die K) (by decide) (fun cdv A outer s H E hr => ?_) (fun ds M Q E h => ?_), F.binds fun _ _ _ _ _ _ us hl => match us, hl with | [_, _], _ => rfl, F.kp, T.g__law_die, fun_lk F⟩
  · exact
   (fss_cons (fs_set 2 sc__law_die.nd (FN.cel (fn_lst fa_nil)))
    (fss_cons (fs_for (passes_of rfl) rfl (fi_range1 (by rfl) T.n_range (fa_cons (fv 1) fa_nil)) (fg_name (vs := [3]) 3 sc__law_die.nd) (fss_one (fs_expr (fe_mt rfl (PySem.F.slot_list_append) PySem.F.type_list_append md_append (fv 2) (fa_cons (fe_ix (xd_ix rfl) (FN.frz (fn_lst (fa_cons fe_int (fa_cons fe_int (fa_cons fe_int (fa_cons fe_int (fa_cons fe_int (fa_cons fe_int (fa_cons fe_int (fa_cons fe_int (fa_cons fe_int (fa_cons fe_int fa_nil)))))))))))) (fe_callO C__law_take (hr.mono (by decide)) (takes_of rfl rfl rfl rfl) (fa_cons (fv 0) (fa_cons fe_int fa_nil))) (fun _ _ => rfl)) fa_nil)))))
    (fss_cons (fs_if (ft_cmp (od_eq rfl (hu64 hr)) (fe_cb (cd_sumS rfl rfl) T.n_sum bt_sum (fa_cons (fv 2) fa_nil)) fe_int (nomark _)) (fss_one (fs_setIx fe_int (fv 2) (fe_callO C__law_take (hr.mono (by decide)) (takes_of rfl rfl rfl rfl) (fa_cons (fv 0) (fa_cons (fv 1) fa_nil))))) fss_nil)
    (fss_one (fs_retF (fv 2))))))
  · match ds, len _ _ _ _ h with
    | [d0, d1], _ => exact hb d0 d1 M Q E h
/-! _law_dice -/
def g__law_dice (K : PySem.W.Frag) : DS :=
  (sSeq (sSet 3 (gCel (nLst aNil)))
    (sSeq (sFor (iRange1 (aCons (gVar 1) aNil)) (dName 4) (sSeq (sSet 5 (gCall (sp__law_take K) (aCons (gVar 0) (aCons (gC (.int 9)) aNil))))
    (sSeq (sSet 6 (gCall (sp__law_die K) (aCons (gVar 0) (aCons (gVar 2) aNil))))
    (sSeq (sIf (gAnd (gTest (gOp dEq (gVar 5) (gC (.int 8)))) (gTest (gOp dGt (gVar 4) (gC (.int 0))))) (sSet 6 (gCel (nLc (iSeqD (gOp dIx (gVar 3) (gOp dSub (gVar 4) (gC (.int 1))))) (dName 7) gYes (gOp dMul (gC (.int 2)) (gVar 7)) [7]))) sNext)
    (sSeq (sIf (gAnd (gTest (gOp dEq (gVar 5) (gC (.int 7)))) (gTest (gOp dGt (gVar 4) (gC (.int 0))))) (sSeq (sSet 6 (gCel (nOp nCat (gFrz (nLst (aCons (gC (.int 0)) aNil))) (gSl (gOp dIx (gVar 3) (gOp dSub (gVar 4) (gC (.int 1)))) oNone (oSome (gOp dSub (gVar 2) (gC (.int 1))))))))
    (sSetIx (gOp dAdd (gOp dIx (gVar 6) (gOp dSub (gVar 2) (gC (.int 1)))) (gOp dIx (gOp dIx (gVar 3) (gOp dSub (gVar 4) (gC (.int 1)))) (gOp dSub (gVar 2) (gC (.int 1))))) (gVar 6) (gOp dSub (gVar 2) (gC (.int 1))))) sNext)
    (sSeq (sIf (gTest (gOp dEq (gVar 5) (gC (.int 6)))) (sSeq (sSet 6 (gCel (nLc (iRange1 (aCons (gVar 2) aNil)) (dName 8) gYes (gC (.int 0)) [8])))
    (sSetIx (gC (.int 1)) (gVar 6) (gCall (sp__law_take K) (aCons (gVar 0) (aCons (gVar 2) aNil))))) sNext)
    (sFz 6 (sDrop (gMt dAppend (gVar 3) (aCons (gVar 6) aNil))))))))))
    (sRetF (gVar 3))))
theorem sc__law_dice : FnScope ["_law_drawn", "_law_many", "_law_ranks", "_law_dice_here", "_law_number", "_law_word", "_law_row", "_law_entry", "_law_rank"] ["_law_drawn", "_law_many", "_law_ranks"] (defScope s__law_dice) := ⟨rfl, rfl, rfl, by decide +kernel, rfl, by decide +kernel, by decide +kernel⟩
theorem w__law_dice (T : Tx K mg) (C__law_take : OkD P w K mg base 1 "_law_take" ["_law_drawn", "_law_many"] (sp__law_take K)) (C__law_die : OkD P w K mg base 2 "_law_die" ["_law_drawn", "_law_ranks"] (sp__law_die K)) (len : ∀ ds M Q E, sp__law_dice K ds M Q E → ds.length = 3)
    (hb : ∀ d0 d1 d2 M Q E, sp__law_dice K [d0, d1, d2] M Q E → g__law_dice K { nx := fun _ M => Q .non M, rt := Q, ex := fun x _ M => E x M } [some d0, some d1, some d2, none, none, none, none, none, none] M) : OkD P w K mg base 3 "_law_dice" ["_law_drawn", "_law_many", "_law_ranks"] (sp__law_dice K) := by
  obtain ⟨fd, F⟩ := T.F__law_dice
  refine ⟨fd, dl_def F sc__law_dice (by intro ds M Q E h; exact len ds M Q E h) (g__law_dice K) (by decide) (fun cdv A outer s H E hr => ?_) (fun ds M Q E h => ?_), F.binds fun _ _ _ _ _ _ us hl => match us, hl with | [_, _, _], _ => rfl, F.kp, T.g__law_dice, fun_lk F⟩
  · exact
   (fss_cons (fs_set 3 sc__law_dice.nd (FN.cel (fn_lst fa_nil)))
    (fss_cons (fs_for (passes_of rfl) rfl (fi_range1 (by rfl) T.n_range (fa_cons (fv 1) fa_nil)) (fg_name (vs := [4]) 4 sc__law_dice.nd) (fss_cons (fs_set 5 sc__law_dice.nd (fe_callO C__law_take (hr.mono (by decide)) (takes_of rfl rfl rfl rfl) (fa_cons (fv 0) (fa_cons fe_int fa_nil))))
    (fss_cons (fs_set 6 sc__law_dice.nd (fe_callO C__law_die (hr.mono (by decide)) (takes_of rfl rfl rfl rfl) (fa_cons (fv 0) (fa_cons (fv 2) fa_nil))))
    (fss_cons (fs_if (FW.ft (fw_and (ft_cmp (od_eq rfl (hu64 hr)) (fv 5) fe_int (nomark _)) (fw_and1 (ft_cmp (od_gt) (fv 4) fe_int (nomark _))))) (fss_one (fs_setLc (own := [("_law_entry", 7)]) 6 sc__law_dice.nd (fi_seq rfl (fe_ix (xd_ix rfl) (fv 3) (fe_op (od_sub) (fv 4) fe_int) (fun _ _ => rfl))) (blkOk_by (by kernel_rfl)) (fun s H C cl fp => (fg_name (vs := [7]) 7 sc__law_dice.nd)) (fun s H C cl fp => fts_nil) (fun s H C cl fp => (fe_op (od_mul) fe_int (fv 7))) cel_im)) fss_nil)
    (fss_cons (fs_if (FW.ft (fw_and (ft_cmp (od_eq rfl (hu64 hr)) (fv 5) fe_int (nomark _)) (fw_and1 (ft_cmp (od_gt) (fv 4) fe_int (nomark _))))) (fss_cons (fs_set 6 sc__law_dice.nd (FN.cel (fn_op on_cat (FN.frz (fn_lst (fa_cons fe_int fa_nil))) (fe_slice rfl (fe_ix (xd_ix rfl) (fv 3) (fe_op (od_sub) (fv 4) fe_int) (fun _ _ => rfl)) fo_none (fo_some (fe_op (od_sub) (fv 2) fe_int))))))
    (fss_one (fs_setIx (fe_op (od_add rfl) (fe_ix (xd_ix rfl) (fv 6) (fe_op (od_sub) (fv 2) fe_int) (fun _ _ => rfl)) (fe_ix (xd_ix rfl) (fe_ix (xd_ix rfl) (fv 3) (fe_op (od_sub) (fv 4) fe_int) (fun _ _ => rfl)) (fe_op (od_sub) (fv 2) fe_int) (fun _ _ => rfl))) (fv 6) (fe_op (od_sub) (fv 2) fe_int)))) fss_nil)
    (fss_cons (fs_if (ft_cmp (od_eq rfl (hu64 hr)) (fv 5) fe_int (nomark _)) (fss_cons (fs_setLc (own := [("_law_rank", 8)]) 6 sc__law_dice.nd (fi_range1 (by rfl) T.n_range (fa_cons (fv 2) fa_nil)) (blkOk_by (by kernel_rfl)) (fun s H C cl fp => (fg_name (vs := [8]) 8 sc__law_dice.nd)) (fun s H C cl fp => fts_nil) (fun s H C cl fp => fe_int) cel_im)
    (fss_one (fs_setIx fe_int (fv 6) (fe_callO C__law_take (hr.mono (by decide)) (takes_of rfl rfl rfl rfl) (fa_cons (fv 0) (fa_cons (fv 2) fa_nil)))))) fss_nil)
    (fss_one (fs_fz 6 (fs_expr (fe_mt rfl (PySem.F.slot_list_append) PySem.F.type_list_append md_append (fv 3) (fa_cons (fv 6) fa_nil)))))))))))
    (fss_one (fs_retF (fv 3)))))
  · match ds, len _ _ _ _ h with
    | [d0, d1, d2], _ => exact hb d0 d1 d2 M Q E h
/-! _law_lead -/
def g__law_lead (K : PySem.W.Frag) : DS :=
  (sSeq (sSet 2 (gC (.int 0)))
    (sSeq (sSet 3 (gC (.int 0)))
    (sSeq (sSet 4 (gCB dSumS (aCons (gVar 1) aNil)))
    (sSeq (sFor (iRange1 (aCons (gCB dLen (aCons (gVar 0) aNil)) aNil)) (dName 5) (sSeq (sAug 2 (gOp dMul (gOp dIx (gVar 0) (gVar 5)) (gOp dSub (gOp dAdd (gOp dMul (gC (.int 2)) (gVar 3)) (gOp dIx (gVar 1) (gVar 5))) (gVar 4))) dAddI)
    (sAug 3 (gOp dIx (gVar 1) (gVar 5)) dAddI)))
    (sRet (gVar 2))))))
theorem sc__law_lead : FnScope ["_law_one", "_law_other", "_law_led", "_law_under", "_law_total", "_law_rank"] ["_law_one", "_law_other"] (defScope s__law_lead) := ⟨rfl, rfl, rfl, by decide +kernel, rfl, by decide +kernel, by decide +kernel⟩
theorem w__law_lead (T : Tx K mg)  (len : ∀ ds M Q E, sp__law_lead K ds M Q E → ds.length = 2)
    (hb : ∀ d0 d1 M Q E, sp__law_lead K [d0, d1] M Q E → g__law_lead K { nx := fun _ M => Q .non M, rt := Q, ex := fun x _ M => E x M } [some d0, some d1, none, none, none, none] M) : OkD P w K mg base 1 "_law_lead" ["_law_one", "_law_other"] (sp__law_lead K) := by
  obtain ⟨fd, F⟩ := T.F__law_lead
  refine ⟨fd, dl_def F sc__law_lead (by intro ds M Q E h; exact len ds M Q E h) (g__law_lead K) (by decide) (fun cdv A outer s H E hr => ?_) (fun ds M Q E h => ?_), F.binds fun _ _ _ _ _ _ us hl => match us, hl with | [_, _], _ => rfl, F.kp, T.g__law_lead, fun_lk F⟩
  · exact
   (fss_cons (fs_set 2 sc__law_lead.nd fe_int)
    (fss_cons (fs_set 3 sc__law_lead.nd fe_int)
    (fss_cons (fs_set 4 sc__law_lead.nd (fe_cb (cd_sumS rfl rfl) T.n_sum bt_sum (fa_cons (fv 1) fa_nil)))
    (fss_cons (fs_for (passes_of rfl) rfl (fi_range1 (by rfl) T.n_range (fa_cons (fe_cb (cd_len rfl) T.n_len bt_len (fa_cons (fv 0) fa_nil)) fa_nil)) (fg_name (vs := [5]) 5 sc__law_lead.nd) (fss_cons (fs_aug 2 sc__law_lead.nd id_add (fe_op (od_mul) (fe_ix (xd_ix rfl) (fv 0) (fv 5) (fun _ _ => rfl)) (fe_op (od_sub) (fe_op (od_add rfl) (fe_op (od_mul) fe_int (fv 3)) (fe_ix (xd_ix rfl) (fv 1) (fv 5) (fun _ _ => rfl))) (fv 4))))
    (fss_one (fs_aug 3 sc__law_lead.nd id_add (fe_ix (xd_ix rfl) (fv 1) (fv 5) (fun _ _ => rfl))))))
    (fss_one (fs_ret (fv 2)))))))
  · match ds, len _ _ _ _ h with
    | [d0, d1], _ => exact hb d0 d1 M Q E h
/-! _law_over -/
def g__law_over (K : PySem.W.Frag) : DS :=
  (sSeq (sFor (iRange1 (aCons (gOp dAdd (gCB dLen (aCons (gVar 0) aNil)) (gC (.int 1))) aNil)) (dName 2) (sIf (gTest (gOp dGt (gOp dMul (gCB dSumS (aCons (gVar 1) aNil)) (gCB dSumS (aCons (gSl (gVar 0) oNone (oSome (gVar 2))) aNil))) (gOp dMul (gCB dSumS (aCons (gVar 0) aNil)) (gCB dSumS (aCons (gSl (gVar 1) oNone (oSome (gVar 2))) aNil))))) (sRet (gC (.bl false))) sNext))
    (sRet (gC (.bl true))))
theorem sc__law_over : FnScope ["_law_one", "_law_other", "_law_gap"] ["_law_one", "_law_other"] (defScope s__law_over) := ⟨rfl, rfl, rfl, by decide +kernel, rfl, by decide +kernel, by decide +kernel⟩
theorem w__law_over (T : Tx K mg)  (len : ∀ ds M Q E, sp__law_over K ds M Q E → ds.length = 2)
    (hb : ∀ d0 d1 M Q E, sp__law_over K [d0, d1] M Q E → g__law_over K { nx := fun _ M => Q .non M, rt := Q, ex := fun x _ M => E x M } [some d0, some d1, none] M) : OkD P w K mg base 1 "_law_over" ["_law_one", "_law_other"] (sp__law_over K) := by
  obtain ⟨fd, F⟩ := T.F__law_over
  refine ⟨fd, dl_def F sc__law_over (by intro ds M Q E h; exact len ds M Q E h) (g__law_over K) (by decide) (fun cdv A outer s H E hr => ?_) (fun ds M Q E h => ?_), F.binds fun _ _ _ _ _ _ us hl => match us, hl with | [_, _], _ => rfl, F.kp, T.g__law_over, fun_lk F⟩
  · exact
   (fss_cons (fs_for (passes_of rfl) rfl (fi_range1 (by rfl) T.n_range (fa_cons (fe_op (od_add rfl) (fe_cb (cd_len rfl) T.n_len bt_len (fa_cons (fv 0) fa_nil)) fe_int) fa_nil)) (fg_name (vs := [2]) 2 sc__law_over.nd) (fss_one (fs_if (ft_cmp (od_gt) (fe_op (od_mul) (fe_cb (cd_sumS rfl rfl) T.n_sum bt_sum (fa_cons (fv 1) fa_nil)) (fe_cb (cd_sumS rfl rfl) T.n_sum bt_sum (fa_cons (fe_slice rfl (fv 0) fo_none (fo_some (fv 2))) fa_nil))) (fe_op (od_mul) (fe_cb (cd_sumS rfl rfl) T.n_sum bt_sum (fa_cons (fv 0) fa_nil)) (fe_cb (cd_sumS rfl rfl) T.n_sum bt_sum (fa_cons (fe_slice rfl (fv 1) fo_none (fo_some (fv 2))) fa_nil))) (nomark _)) (fss_one (fs_ret fe_bl)) fss_nil)))
    (fss_one (fs_ret fe_bl)))
  · match ds, len _ _ _ _ h with
    | [d0, d1], _ => exact hb d0 d1 M Q E h
/-! _law_power -/
def g__law_power (K : PySem.W.Frag) : DS :=
  (sSeq (sSet 2 (gC (.int 1)))
    (sSeq (sFor (iRange1 (aCons (gVar 1) aNil)) (dName 3) (sSet 2 (gOp dMul (gVar 2) (gVar 0))))
    (sRet (gVar 2))))
theorem sc__law_power : FnScope ["_law_number", "_law_count", "_law_made", "_law_turn"] ["_law_number", "_law_count"] (defScope s__law_power) := ⟨rfl, rfl, rfl, by decide +kernel, rfl, by decide +kernel, by decide +kernel⟩
theorem w__law_power (T : Tx K mg)  (len : ∀ ds M Q E, sp__law_power K ds M Q E → ds.length = 2)
    (hb : ∀ d0 d1 M Q E, sp__law_power K [d0, d1] M Q E → g__law_power K { nx := fun _ M => Q .non M, rt := Q, ex := fun x _ M => E x M } [some d0, some d1, none, none] M) : OkD P w K mg base 1 "_law_power" ["_law_number", "_law_count"] (sp__law_power K) := by
  obtain ⟨fd, F⟩ := T.F__law_power
  refine ⟨fd, dl_def F sc__law_power (by intro ds M Q E h; exact len ds M Q E h) (g__law_power K) (by decide) (fun cdv A outer s H E hr => ?_) (fun ds M Q E h => ?_), F.binds fun _ _ _ _ _ _ us hl => match us, hl with | [_, _], _ => rfl, F.kp, T.g__law_power, fun_lk F⟩
  · exact
   (fss_cons (fs_set 2 sc__law_power.nd fe_int)
    (fss_cons (fs_for (passes_of rfl) rfl (fi_range1 (by rfl) T.n_range (fa_cons (fv 1) fa_nil)) (fg_name (vs := [3]) 3 sc__law_power.nd) (fss_one (fs_set 2 sc__law_power.nd (fe_op (od_mul) (fv 2) (fv 0)))))
    (fss_one (fs_ret (fv 2)))))
  · match ds, len _ _ _ _ h with
    | [d0, d1], _ => exact hb d0 d1 M Q E h
/-! _law_most -/
def g__law_most (K : PySem.W.Frag) : DS :=
  (sSeq (sSet 2 (gCel (nLst aNil)))
    (sSeq (sSet 3 (gC (.int 0)))
    (sSeq (sFor (iSeqD (gVar 0)) (dName 4) (sSeq (sDrop (gMt dAppend (gVar 2) (aCons (gOp dSub (gCall (sp__law_power K) (aCons (gOp dAdd (gVar 3) (gVar 4)) (aCons (gVar 1) aNil))) (gCall (sp__law_power K) (aCons (gVar 3) (aCons (gVar 1) aNil)))) aNil)))
    (sAug 3 (gVar 4) dAddI)))
    (sRetF (gVar 2)))))
theorem sc__law_most : FnScope ["_law_die_here", "_law_count", "_law_made", "_law_under", "_law_entry"] ["_law_die_here", "_law_count"] (defScope s__law_most) := ⟨rfl, rfl, rfl, by decide +kernel, rfl, by decide +kernel, by decide +kernel⟩
theorem w__law_most (T : Tx K mg) (C__law_power : OkD P w K mg base 1 "_law_power" ["_law_number", "_law_count"] (sp__law_power K)) (len : ∀ ds M Q E, sp__law_most K ds M Q E → ds.length = 2)
    (hb : ∀ d0 d1 M Q E, sp__law_most K [d0, d1] M Q E → g__law_most K { nx := fun _ M => Q .non M, rt := Q, ex := fun x _ M => E x M } [some d0, some d1, none, none, none] M) : OkD P w K mg base 2 "_law_most" ["_law_die_here", "_law_count"] (sp__law_most K) := by
  obtain ⟨fd, F⟩ := T.F__law_most
  refine ⟨fd, dl_def F sc__law_most (by intro ds M Q E h; exact len ds M Q E h) (g__law_most K) (by decide) (fun cdv A outer s H E hr => ?_) (fun ds M Q E h => ?_), F.binds fun _ _ _ _ _ _ us hl => match us, hl with | [_, _], _ => rfl, F.kp, T.g__law_most, fun_lk F⟩
  · exact
   (fss_cons (fs_set 2 sc__law_most.nd (FN.cel (fn_lst fa_nil)))
    (fss_cons (fs_set 3 sc__law_most.nd fe_int)
    (fss_cons (fs_for (passes_of rfl) rfl (fi_seq rfl (fv 0)) (fg_name (vs := [4]) 4 sc__law_most.nd) (fss_cons (fs_expr (fe_mt rfl (PySem.F.slot_list_append) PySem.F.type_list_append md_append (fv 2) (fa_cons (fe_op (od_sub) (fe_callO C__law_power (hr.mono (by decide)) (takes_of rfl rfl rfl rfl) (fa_cons (fe_op (od_add rfl) (fv 3) (fv 4)) (fa_cons (fv 1) fa_nil))) (fe_callO C__law_power (hr.mono (by decide)) (takes_of rfl rfl rfl rfl) (fa_cons (fv 3) (fa_cons (fv 1) fa_nil)))) fa_nil)))
    (fss_one (fs_aug 3 sc__law_most.nd id_add (fv 4)))))
    (fss_one (fs_retF (fv 2))))))
  · match ds, len _ _ _ _ h with
    | [d0, d1], _ => exact hb d0 d1 M Q E h
/-! _law_pair -/
def g__law_pair (K : PySem.W.Frag) : DS :=
  (sSeq (sSet 1 (gCall (sp__law_take K) (aCons (gVar 0) (aCons (gC (.int 8)) aNil))))
    (sSeq (sSet 2 (gOp dIx (gFrz (nLst (aCons (gC (.int 4)) (aCons (gC (.int 3)) (aCons (gC (.int 5)) (aCons (gC (.int 2)) (aCons (gC (.int 6)) (aCons (gC (.int 7)) (aCons (gC (.int 1)) aNil))))))))) (gCall (sp__law_take K) (aCons (gVar 0) (aCons (gC (.int 7)) aNil)))))
    (sSeq (sIf (gTest (gOp dEq (gVar 1) (gC (.int 1)))) (sSeq (sSet 3 (gOp dAdd (gC (.int 1)) (gCall (sp__law_take K) (aCons (gVar 0) (aCons (gC (.int 5)) aNil)))))
    (sSeq (sSet 4 (gOp dAdd (gOp dAdd (gVar 3) (gC (.int 1))) (gCall (sp__law_take K) (aCons (gVar 0) (aCons (gC (.int 4)) aNil)))))
    (sRetF (gFrz (nLst (aCons (gFrz (nLst (aCons (gVar 3) (aCons (gC (.int 0)) (aCons (gOp dSub (gVar 4) (gVar 3)) aNil))))) (aCons (gFrz (nLst (aCons (gC (.int 0)) (aCons (gVar 4) (aCons (gC (.int 0)) aNil))))) aNil))))))) sNext)
    (sSeq (sIf (gTest (gOp dEq (gVar 1) (gC (.int 2)))) (sSeq (sSet 5 (gCall (sp__law_die K) (aCons (gVar 0) (aCons (gVar 2) aNil))))
    (sSeq (sSet 6 (gOp dAdd (gC (.int 1)) (gCall (sp__law_take K) (aCons (gVar 0) (aCons (gC (.int 3)) aNil)))))
    (sRetF (gFrz (nLst (aCons (gVar 5) (aCons (gFrz (nLc (iSeqD (gVar 5)) (dName 7) gYes (gOp dMul (gVar 6) (gVar 7)) [7])) aNil))))))) sNext)
    (sSeq (sIf (gTest (gOp dEq (gVar 1) (gC (.int 3)))) (sSeq (sSet 8 (gCall (sp__law_die K) (aCons (gVar 0) (aCons (gVar 2) aNil))))
    (sSeq (sSet 9 (gCel (nCB nListOf (aCons (gVar 8) aNil))))
    (sSeq (sSet 10 (gFrz (nLc (iRange2 (aCons (gC (.int 1)) (aCons (gVar 2) aNil))) (dName 11) (gTest (gOp dGt (gOp dIx (gVar 8) (gVar 11)) (gC (.int 0)))) (gVar 11) [11])))
    (sSeq (sIf (gTest (gOp dGt (gCB dLen (aCons (gVar 10) aNil)) (gC (.int 0)))) (sSeq (sSet 11 (gOp dIx (gVar 10) (gCall (sp__law_take K) (aCons (gVar 0) (aCons (gCB dLen (aCons (gVar 10) aNil)) aNil)))))
    (sSeq (sSetIx (gOp dSub (gOp dIx (gVar 9) (gVar 11)) (gC (.int 1))) (gVar 9) (gVar 11))
    (sSetIx (gOp dAdd (gOp dIx (gVar 9) (gOp dSub (gVar 11) (gC (.int 1)))) (gC (.int 1))) (gVar 9) (gOp dSub (gVar 11) (gC (.int 1)))))) sNext)
    (sRetF (gFrz (nLst (aCons (gVar 8) (aCons (gVar 9) aNil))))))))) sNext)
    (sSeq (sIf (gTest (gOp dEq (gVar 1) (gC (.int 4)))) (sSeq (sSet 3 (gOp dAdd (gC (.int 1)) (gCall (sp__law_take K) (aCons (gVar 0) (aCons (gC (.int 3)) aNil)))))
    (sRetF (gFrz (nLst (aCons (gFrz (nLst (aCons (gVar 3) (aCons (gC (.int 0)) (aCons (gC (.int 0)) (aCons (gOp dAdd (gC (.int 1)) (gCall (sp__law_take K) (aCons (gVar 0) (aCons (gC (.int 3)) aNil)))) aNil)))))) (aCons (gFrz (nLst (aCons (gC (.int 0)) (aCons (gOp dAdd (gC (.int 1)) (gCall (sp__law_take K) (aCons (gVar 0) (aCons (gC (.int 2)) aNil)))) (aCons (gVar 3) (aCons (gC (.int 0)) aNil)))))) aNil)))))) sNext)
    (sRetF (gCall (sp__law_dice K) (aCons (gVar 0) (aCons (gC (.int 2)) (aCons (gVar 2) aNil)))))))))))
theorem sc__law_pair : FnScope ["_law_drawn", "_law_kind", "_law_ranks", "_law_part", "_law_faces", "_law_die_here", "_law_times", "_law_entry", "_law_upper", "_law_lower", "_law_held", "_law_rank"] ["_law_drawn"] (defScope s__law_pair) := ⟨rfl, rfl, rfl, by decide +kernel, rfl, by decide +kernel, by decide +kernel⟩
theorem w__law_pair (T : Tx K mg) (C__law_take : OkD P w K mg base 1 "_law_take" ["_law_drawn", "_law_many"] (sp__law_take K)) (C__law_dice : OkD P w K mg base 3 "_law_dice" ["_law_drawn", "_law_many", "_law_ranks"] (sp__law_dice K)) (C__law_die : OkD P w K mg base 2 "_law_die" ["_law_drawn", "_law_ranks"] (sp__law_die K)) (len : ∀ ds M Q E, sp__law_pair K ds M Q E → ds.length = 1)
    (hb : ∀ d0 M Q E, sp__law_pair K [d0] M Q E → g__law_pair K { nx := fun _ M => Q .non M, rt := Q, ex := fun x _ M => E x M } [some d0, none, none, none, none, none, none, none, none, none, none, none] M) : OkD P w K mg base 4 "_law_pair" ["_law_drawn"] (sp__law_pair K) := by
  obtain ⟨fd, F⟩ := T.F__law_pair
  refine ⟨fd, dl_def F sc__law_pair (by intro ds M Q E h; exact len ds M Q E h) (g__law_pair K) (by decide) (fun cdv A outer s H E hr => ?_) (fun ds M Q E h => ?_), F.binds fun _ _ _ _ _ _ us hl => match us, hl with | [_], _ => rfl, F.kp, T.g__law_pair, fun_lk F⟩
  · exact
   (fss_cons (fs_set 1 sc__law_pair.nd (fe_callO C__law_take (hr.mono (by decide)) (takes_of rfl rfl rfl rfl) (fa_cons (fv 0) (fa_cons fe_int fa_nil))))
    (fss_cons (fs_set 2 sc__law_pair.nd (fe_ix (xd_ix rfl) (FN.frz (fn_lst (fa_cons fe_int (fa_cons fe_int (fa_cons fe_int (fa_cons fe_int (fa_cons fe_int (fa_cons fe_int (fa_cons fe_int fa_nil))))))))) (fe_callO C__law_take (hr.mono (by decide)) (takes_of rfl rfl rfl rfl) (fa_cons (fv 0) (fa_cons fe_int fa_nil))) (fun _ _ => rfl)))
    (fss_cons (fs_if (ft_cmp (od_eq rfl (hu64 hr)) (fv 1) fe_int (nomark _)) (fss_cons (fs_set 3 sc__law_pair.nd (fe_op (od_add rfl) fe_int (fe_callO C__law_take (hr.mono (by decide)) (takes_of rfl rfl rfl rfl) (fa_cons (fv 0) (fa_cons fe_int fa_nil)))))
    (fss_cons (fs_set 4 sc__law_pair.nd (fe_op (od_add rfl) (fe_op (od_add rfl) (fv 3) fe_int) (fe_callO C__law_take (hr.mono (by decide)) (takes_of rfl rfl rfl rfl) (fa_cons (fv 0) (fa_cons fe_int fa_nil)))))
    (fss_one (fs_retF (FN.frz (fn_lst (fa_cons (FN.frz (fn_lst (fa_cons (fv 3) (fa_cons fe_int (fa_cons (fe_op (od_sub) (fv 4) (fv 3)) fa_nil))))) (fa_cons (FN.frz (fn_lst (fa_cons fe_int (fa_cons (fv 4) (fa_cons fe_int fa_nil))))) fa_nil)))))))) fss_nil)
    (fss_cons (fs_if (ft_cmp (od_eq rfl (hu64 hr)) (fv 1) fe_int (nomark _)) (fss_cons (fs_set 5 sc__law_pair.nd (fe_callO C__law_die (hr.mono (by decide)) (takes_of rfl rfl rfl rfl) (fa_cons (fv 0) (fa_cons (fv 2) fa_nil))))
    (fss_cons (fs_set 6 sc__law_pair.nd (fe_op (od_add rfl) fe_int (fe_callO C__law_take (hr.mono (by decide)) (takes_of rfl rfl rfl rfl) (fa_cons (fv 0) (fa_cons fe_int fa_nil)))))
    (fss_one (fs_retF (FN.frz (fn_lst (fa_cons (fv 5) (fa_cons (FN.frz (fn_lc (own := [("_law_entry", 7)]) sc__law_pair.nd (fi_seq rfl (fv 5)) (blkOk_by (by kernel_rfl)) (fun s H C cl fp => (fg_name (vs := [7]) 7 sc__law_pair.nd)) (fun s H C cl fp => fts_nil) (fun s H C cl fp => (fe_op (od_mul) (fv 6) (fv 7))))) fa_nil)))))))) fss_nil)
    (fss_cons (fs_if (ft_cmp (od_eq rfl (hu64 hr)) (fv 1) fe_int (nomark _)) (fss_cons (fs_set 8 sc__law_pair.nd (fe_callO C__law_die (hr.mono (by decide)) (takes_of rfl rfl rfl rfl) (fa_cons (fv 0) (fa_cons (fv 2) fa_nil))))
    (fss_cons (fs_set 9 sc__law_pair.nd (FN.cel (fn_ct (cn_list rfl) T.n_list bt_list (fa_cons (fv 8) fa_nil))))
    (fss_cons (fs_setLc (own := [("_law_rank", 11)]) 10 sc__law_pair.nd (fi_range2 (by rfl) T.n_range (fa_cons fe_int (fa_cons (fv 2) fa_nil))) (blkOk_by (by kernel_rfl)) (fun s H C cl fp => (fg_name (vs := [11]) 11 sc__law_pair.nd)) (fun s H C cl fp => (fts_one (ft_cmp (od_gt) (fe_ix (xd_ix rfl) (fv 8) (fv 11) (fun _ _ => rfl)) fe_int (nomark _)))) (fun s H C cl fp => (fv 11)) frz_im)
    (fss_cons (fs_if (ft_cmp (od_gt) (fe_cb (cd_len rfl) T.n_len bt_len (fa_cons (fv 10) fa_nil)) fe_int (nomark _)) (fss_cons (fs_set 11 sc__law_pair.nd (fe_ix (xd_ix rfl) (fv 10) (fe_callO C__law_take (hr.mono (by decide)) (takes_of rfl rfl rfl rfl) (fa_cons (fv 0) (fa_cons (fe_cb (cd_len rfl) T.n_len bt_len (fa_cons (fv 10) fa_nil)) fa_nil))) (fun _ _ => rfl)))
    (fss_cons (fs_setIx (fe_op (od_sub) (fe_ix (xd_ix rfl) (fv 9) (fv 11) (fun _ _ => rfl)) fe_int) (fv 9) (fv 11))
    (fss_one (fs_setIx (fe_op (od_add rfl) (fe_ix (xd_ix rfl) (fv 9) (fe_op (od_sub) (fv 11) fe_int) (fun _ _ => rfl)) fe_int) (fv 9) (fe_op (od_sub) (fv 11) fe_int))))) fss_nil)
    (fss_one (fs_retF (FN.frz (fn_lst (fa_cons (fv 8) (fa_cons (fv 9) fa_nil)))))))))) fss_nil)
    (fss_cons (fs_if (ft_cmp (od_eq rfl (hu64 hr)) (fv 1) fe_int (nomark _)) (fss_cons (fs_set 3 sc__law_pair.nd (fe_op (od_add rfl) fe_int (fe_callO C__law_take (hr.mono (by decide)) (takes_of rfl rfl rfl rfl) (fa_cons (fv 0) (fa_cons fe_int fa_nil)))))
    (fss_one (fs_retF (FN.frz (fn_lst (fa_cons (FN.frz (fn_lst (fa_cons (fv 3) (fa_cons fe_int (fa_cons fe_int (fa_cons (fe_op (od_add rfl) fe_int (fe_callO C__law_take (hr.mono (by decide)) (takes_of rfl rfl rfl rfl) (fa_cons (fv 0) (fa_cons fe_int fa_nil)))) fa_nil)))))) (fa_cons (FN.frz (fn_lst (fa_cons fe_int (fa_cons (fe_op (od_add rfl) fe_int (fe_callO C__law_take (hr.mono (by decide)) (takes_of rfl rfl rfl rfl) (fa_cons (fv 0) (fa_cons fe_int fa_nil)))) (fa_cons (fv 3) (fa_cons fe_int fa_nil)))))) fa_nil))))))) fss_nil)
    (fss_one (fs_retF (fe_callO C__law_dice (hr.mono (by decide)) (takes_of rfl rfl rfl rfl) (fa_cons (fv 0) (fa_cons fe_int (fa_cons (fv 2) fa_nil))))))))))))
  · match ds, len _ _ _ _ h with
    | [d0], _ => exact hb d0 M Q E h
/-! _law_sign -/
def g__law_sign (K : PySem.W.Frag) : DS :=
  (sRet (gOp dSub (gCB dInt (aCons (gOp dGt (gVar 0) (gC (.int 0))) aNil)) (gCB dInt (aCons (gOp dLt (gVar 0) (gC (.int 0))) aNil))))
theorem sc__law_sign : FnScope ["_law_led"] ["_law_led"] (defScope s__law_sign) := ⟨rfl, rfl, rfl, by decide +kernel, rfl, by decide +kernel, by decide +kernel⟩
theorem w__law_sign (T : Tx K mg)  (len : ∀ ds M Q E, sp__law_sign K ds M Q E → ds.length = 1)
    (hb : ∀ d0 M Q E, sp__law_sign K [d0] M Q E → g__law_sign K { nx := fun _ M => Q .non M, rt := Q, ex := fun x _ M => E x M } [some d0] M) : OkD P w K mg base 1 "_law_sign" ["_law_led"] (sp__law_sign K) := by
  obtain ⟨fd, F⟩ := T.F__law_sign
  refine ⟨fd, dl_def F sc__law_sign (by intro ds M Q E h; exact len ds M Q E h) (g__law_sign K) (by decide) (fun cdv A outer s H E hr => ?_) (fun ds M Q E h => ?_), F.binds fun _ _ _ _ _ _ us hl => match us, hl with | [_], _ => rfl, F.kp, T.g__law_sign, fun_lk F⟩
  · exact
   (fss_one (fs_ret (fe_op (od_sub) (fe_ct (cd_int) T.n_int bt_int (fa_cons (fe_cmp (od_gt) (fv 0) fe_int (nomark _)) fa_nil)) (fe_ct (cd_int) T.n_int bt_int (fa_cons (fe_cmp (od_lt) (fv 0) fe_int (nomark _)) fa_nil)))))
  · match ds, len _ _ _ _ h with
    | [d0], _ => exact hb d0 M Q E h
/-! _law_wins -/
def g__law_wins (K : PySem.W.Frag) : DS :=
  (sSeq (sSet 2 (gC (.int 0)))
    (sSeq (sSet 3 (gC (.int 0)))
    (sSeq (sFor (iRange1 (aCons (gCB dLen (aCons (gVar 0) aNil)) aNil)) (dName 4) (sSeq (sAug 2 (gOp dMul (gOp dIx (gVar 0) (gVar 4)) (gVar 3)) dAddI)
    (sAug 3 (gOp dIx (gVar 1) (gVar 4)) dAddI)))
    (sRet (gVar 2)))))
theorem sc__law_wins : FnScope ["_law_one", "_law_other", "_law_won", "_law_under", "_law_rank"] ["_law_one", "_law_other"] (defScope s__law_wins) := ⟨rfl, rfl, rfl, by decide +kernel, rfl, by decide +kernel, by decide +kernel⟩
theorem w__law_wins (T : Tx K mg)  (len : ∀ ds M Q E, sp__law_wins K ds M Q E → ds.length = 2)
    (hb : ∀ d0 d1 M Q E, sp__law_wins K [d0, d1] M Q E → g__law_wins K { nx := fun _ M => Q .non M, rt := Q, ex := fun x _ M => E x M } [some d0, some d1, none, none, none] M) : OkD P w K mg base 1 "_law_wins" ["_law_one", "_law_other"] (sp__law_wins K) := by
  obtain ⟨fd, F⟩ := T.F__law_wins
  refine ⟨fd, dl_def F sc__law_wins (by intro ds M Q E h; exact len ds M Q E h) (g__law_wins K) (by decide) (fun cdv A outer s H E hr => ?_) (fun ds M Q E h => ?_), F.binds fun _ _ _ _ _ _ us hl => match us, hl with | [_, _], _ => rfl, F.kp, T.g__law_wins, fun_lk F⟩
  · exact
   (fss_cons (fs_set 2 sc__law_wins.nd fe_int)
    (fss_cons (fs_set 3 sc__law_wins.nd fe_int)
    (fss_cons (fs_for (passes_of rfl) rfl (fi_range1 (by rfl) T.n_range (fa_cons (fe_cb (cd_len rfl) T.n_len bt_len (fa_cons (fv 0) fa_nil)) fa_nil)) (fg_name (vs := [4]) 4 sc__law_wins.nd) (fss_cons (fs_aug 2 sc__law_wins.nd id_add (fe_op (od_mul) (fe_ix (xd_ix rfl) (fv 0) (fv 4) (fun _ _ => rfl)) (fv 3)))
    (fss_one (fs_aug 3 sc__law_wins.nd id_add (fe_ix (xd_ix rfl) (fv 1) (fv 4) (fun _ _ => rfl))))))
    (fss_one (fs_ret (fv 2))))))
  · match ds, len _ _ _ _ h with
    | [d0, d1], _ => exact hb d0 d1 M Q E h
/-! _law_stands -/
def g__law_stands (K : PySem.W.Frag) : DS :=
  (sSeq (sSet 3 (gCall (sp_stands_over K) (aCons (gVar 0) (aCons (gVar 1) aNil))))
    (sRet (gAndV (gOrV (gOp (dIsB fun b => b) (gVar 3) (gC (.bl true))) (gOp (dIsB fun b => b) (gVar 3) (gC (.bl false)))) (gOp dEq (gVar 3) (gVar 2)))))
theorem sc__law_stands : FnScope ["_law_one", "_law_other", "_law_due", "_law_told"] ["_law_one", "_law_other", "_law_due"] (defScope s__law_stands) := ⟨rfl, rfl, rfl, by decide +kernel, rfl, by decide +kernel, by decide +kernel⟩
theorem w__law_stands (T : Tx K mg) (C_stands_over : OkD P w K mg base 5 "stands_over" ["first", "second"] (sp_stands_over K)) (len : ∀ ds M Q E, sp__law_stands K ds M Q E → ds.length = 3)
    (hb : ∀ d0 d1 d2 M Q E, sp__law_stands K [d0, d1, d2] M Q E → g__law_stands K { nx := fun _ M => Q .non M, rt := Q, ex := fun x _ M => E x M } [some d0, some d1, some d2, none] M) : OkD P w K mg base 6 "_law_stands" ["_law_one", "_law_other", "_law_due"] (sp__law_stands K) := by
  obtain ⟨fd, F⟩ := T.F__law_stands
  refine ⟨fd, dl_def F sc__law_stands (by intro ds M Q E h; exact len ds M Q E h) (g__law_stands K) (by decide) (fun cdv A outer s H E hr => ?_) (fun ds M Q E h => ?_), F.binds fun _ _ _ _ _ _ us hl => match us, hl with | [_, _, _], _ => rfl, F.kp, T.g__law_stands, fun_lk F⟩
  · exact
   (fss_cons (fs_set 3 sc__law_stands.nd (fe_callO C_stands_over (hr.mono (by decide)) (takes_of rfl rfl rfl rfl) (fa_cons (fv 0) (fa_cons (fv 1) fa_nil))))
    (fss_one (fs_ret (fe_and (fe_or (fe_cmp (od_isB) (fv 3) fe_bl (nomark _)) (fe_one (fe_cmp (od_isB) (fv 3) fe_bl (nomark _)))) (fe_one (fe_cmp (od_eq rfl (hu64 hr)) (fv 3) (fv 2) (nomark _)))))))
  · match ds, len _ _ _ _ h with
    | [d0, d1, d2], _ => exact hb d0 d1 d2 M Q E h
/-! _law_count_right -/
def g__law_count_right (K : PySem.W.Frag) : DS :=
  (sSeq (sSet 3 (gMake (He.ga K "Greatest") (sp_Greatest_init K) (aCons (gVar 2) aNil)))
    (sSeq (sSet 4 (gMake (He.ga K "Least") (sp_Least_init K) (aCons (gVar 2) aNil)))
    (sSeq (sIf (gOr (gTest (gOp dNe (gFld K "count" (gVar 3)) (gVar 2))) (gTest (gOp dNe (gFld K "count" (gVar 4)) (gVar 2)))) (sRet (gC (.bl false))) sNext)
    (sSeq (sSet 5 (gFrz (nLst (aCons (gCallI (He.ga K "Greatest") (sp_Greatest_call K) (gVar 3) (aCons (gVar 0) aNil)) (aCons (gCallI (He.ga K "Greatest") (sp_Greatest_call K) (gVar 3) (aCons (gCB dTupleOf (aCons (gVar 1) aNil)) aNil)) aNil)))))
    (sSeq (sSet 6 (gFrz (nLst (aCons (gCallI (He.ga K "Least") (sp_Least_call K) (gVar 4) (aCons (gVar 0) aNil)) (aCons (gCallI (He.ga K "Least") (sp_Least_call K) (gVar 4) (aCons (gCB dTupleOf (aCons (gVar 1) aNil)) aNil)) aNil)))))
    (sSeq (sIf (gOr (gTest (gOp dNe (gFrz (nCB nListOf (aCons (gOp dIx (gVar 5) (gC (.int 0))) aNil))) (gCall (sp__law_most K) (aCons (gVar 0) (aCons (gVar 2) aNil))))) (gTest (gOp dNe (gFrz (nCB nListOf (aCons (gOp dIx (gVar 5) (gC (.int 1))) aNil))) (gCall (sp__law_most K) (aCons (gVar 1) (aCons (gVar 2) aNil)))))) (sRet (gC (.bl false))) sNext)
    (sSeq (sIf (gOr (gTest (gOp dNe (gFrz (nCB nListOf (aCons (gOp dIx (gVar 6) (gC (.int 0))) aNil))) (gRev (gCall (sp__law_most K) (aCons (gRev (gVar 0)) (aCons (gVar 2) aNil)))))) (gTest (gOp dNe (gFrz (nCB nListOf (aCons (gOp dIx (gVar 6) (gC (.int 1))) aNil))) (gRev (gCall (sp__law_most K) (aCons (gRev (gVar 1)) (aCons (gVar 2) aNil))))))) (sRet (gC (.bl false))) sNext)
    (sSeq (sIf (gOr (gTest (gOp dNe (gOp dIx (gVar 5) (gC (.int 0))) (gCall (sp_greatest_die K) (aCons (gVar 0) (aCons (gVar 2) aNil))))) (gTest (gOp dNe (gOp dIx (gVar 6) (gC (.int 1))) (gCall (sp_least_die K) (aCons (gVar 1) (aCons (gVar 2) aNil)))))) (sRet (gC (.bl false))) sNext)
    (sSeq (sSet 7 (gCall (sp__law_over K) (aCons (gVar 0) (aCons (gVar 1) aNil))))
    (sSeq (sSet 8 (gCall (sp__law_over K) (aCons (gVar 1) (aCons (gVar 0) aNil))))
    (sSeq (sFor (iSeqD (gFrz (nLst (aCons (gVar 5) (aCons (gVar 6) aNil))))) (dName 9) (sSeq (sIf (gOr (gNot (gTest (gCB dIsi (aCons (gOp dIx (gVar 9) (gC (.int 0))) (aCons (gC (.ty "tuple")) aNil))))) (gNot (gTest (gCB dIsi (aCons (gOp dIx (gVar 9) (gC (.int 1))) (aCons (gC (.ty "tuple")) aNil)))))) (sRet (gC (.bl false))) sNext)
    (sSeq (sIf (gOr (gNot (gTest (gCall (sp__law_stands K) (aCons (gOp dIx (gVar 9) (gC (.int 0))) (aCons (gOp dIx (gVar 9) (gC (.int 1))) (aCons (gVar 7) aNil)))))) (gNot (gTest (gCall (sp__law_stands K) (aCons (gOp dIx (gVar 9) (gC (.int 1))) (aCons (gOp dIx (gVar 9) (gC (.int 0))) (aCons (gVar 8) aNil))))))) (sRet (gC (.bl false))) sNext)
    (sSeq (sSet 10 (gCall (sp_lead K) (aCons (gOp dIx (gVar 9) (gC (.int 0))) (aCons (gOp dIx (gVar 9) (gC (.int 1))) aNil))))
    (sSeq (sIf (gOr (gTest (gOp dNe (gVar 10) (gCall (sp__law_lead K) (aCons (gOp dIx (gVar 9) (gC (.int 0))) (aCons (gOp dIx (gVar 9) (gC (.int 1))) aNil))))) (gAnd (gTest (gVar 7)) (gTest (gOp dNe (gCall (sp__law_sign K) (aCons (gVar 10) aNil)) (gOp dSub (gC (.int 1)) (gCB dInt (aCons (gVar 8) aNil))))))) (sRet (gC (.bl false))) sNext)
    (sIf (gAnd (gTest (gVar 8)) (gTest (gOp dNe (gCall (sp__law_sign K) (aCons (gVar 10) aNil)) (gOp dSub (gCB dInt (aCons (gVar 7) aNil)) (gC (.int 1)))))) (sRet (gC (.bl false))) sNext))))))
    (sSeq (sIf (gOr (gTest (gOp dGt (gVar 2) (gC (.int 6)))) (gTest (gOp dGt (gCall (sp__law_power K) (aCons (gCB dSumS (aCons (gVar 0) aNil)) (aCons (gOp dMul (gVar 2) (gVar 2)) aNil))) (gOp dPow (gC (.int 10)) (gC (.int 60)))))) (sRet (gC (.bl true))) sNext)
    (sRet (gAndV (gCall (sp__law_stands K) (aCons (gCallI (He.ga K "Greatest") (sp_Greatest_call K) (gVar 3) (aCons (gCallI (He.ga K "Greatest") (sp_Greatest_call K) (gVar 3) (aCons (gVar 0) aNil)) aNil)) (aCons (gCallI (He.ga K "Greatest") (sp_Greatest_call K) (gVar 3) (aCons (gVar 0) aNil)) (aCons (gC (.bl true)) aNil)))) (gCall (sp__law_stands K) (aCons (gCallI (He.ga K "Least") (sp_Least_call K) (gVar 4) (aCons (gVar 0) aNil)) (aCons (gCallI (He.ga K "Least") (sp_Least_call K) (gVar 4) (aCons (gCallI (He.ga K "Least") (sp_Least_call K) (gVar 4) (aCons (gVar 0) aNil)) aNil)) (aCons (gC (.bl true)) aNil))))))))))))))))))
theorem sc__law_count_right : FnScope ["_law_one", "_law_other", "_law_count", "_law_made", "_law_lowest", "_law_high", "_law_low", "_law_over_here", "_law_under", "_law_pair_here", "_law_led"] ["_law_one", "_law_other", "_law_count"] (defScope s__law_count_right) := ⟨rfl, rfl, rfl, by decide +kernel, rfl, by decide +kernel, by decide +kernel⟩
theorem w__law_count_right (T : Tx K mg) (C_Greatest_init : FnM P w K mg base 4 (He.ma K (He.ga K "Greatest") "__init__") (sp_Greatest_init K)) (C_Least_init : FnM P w K mg base 4 (He.ma K (He.ga K "Least") "__init__") (sp_Least_init K)) (C__law_over : OkD P w K mg base 1 "_law_over" ["_law_one", "_law_other"] (sp__law_over K)) (C_Greatest_call : FnM P w K mg base 6 (He.ma K (He.ga K "Greatest") "__call__") (sp_Greatest_call K)) (C_Least_call : FnM P w K mg base 7 (He.ma K (He.ga K "Least") "__call__") (sp_Least_call K)) (C_lead : OkD P w K mg base 5 "lead" ["first", "second"] (sp_lead K)) (C__law_stands : OkD P w K mg base 6 "_law_stands" ["_law_one", "_law_other", "_law_due"] (sp__law_stands K)) (C__law_most : OkD P w K mg base 2 "_law_most" ["_law_die_here", "_law_count"] (sp__law_most K)) (C_greatest_die : OkD P w K mg base 5 "greatest_die" ["die", "count"] (sp_greatest_die K)) (C_least_die : OkD P w K mg base 6 "least_die" ["die", "count"] (sp_least_die K)) (C__law_power : OkD P w K mg base 1 "_law_power" ["_law_number", "_law_count"] (sp__law_power K)) (C__law_lead : OkD P w K mg base 1 "_law_lead" ["_law_one", "_law_other"] (sp__law_lead K)) (C__law_sign : OkD P w K mg base 1 "_law_sign" ["_law_led"] (sp__law_sign K)) (len : ∀ ds M Q E, sp__law_count_right K ds M Q E → ds.length = 3)
    (hb : ∀ d0 d1 d2 M Q E, sp__law_count_right K [d0, d1, d2] M Q E → g__law_count_right K { nx := fun _ M => Q .non M, rt := Q, ex := fun x _ M => E x M } [some d0, some d1, some d2, none, none, none, none, none, none, none, none] M) : OkD P w K mg base 8 "_law_count_right" ["_law_one", "_law_other", "_law_count"] (sp__law_count_right K) := by
  obtain ⟨fd, F⟩ := T.F__law_count_right
  refine ⟨fd, dl_def F sc__law_count_right (by intro ds M Q E h; exact len ds M Q E h) (g__law_count_right K) (by decide) (fun cdv A outer s H E hr => ?_) (fun ds M Q E h => ?_), F.binds fun _ _ _ _ _ _ us hl => match us, hl with | [_, _, _], _ => rfl, F.kp, T.g__law_count_right, fun_lk F⟩
  · exact
   (fss_cons (fs_set 3 sc__law_count_right.nd (fe_make T.c_Greatest.mkr C_Greatest_init (hr.mono (by decide)) (takes_of rfl rfl rfl rfl) T.g_Greatest (fa_cons (fv 2) fa_nil)))
    (fss_cons (fs_set 4 sc__law_count_right.nd (fe_make T.c_Least.mkr C_Least_init (hr.mono (by decide)) (takes_of rfl rfl rfl rfl) T.g_Least (fa_cons (fv 2) fa_nil)))
    (fss_cons (fs_if (FW.ft (fw_or (ft_cmp (od_ne rfl (hu64 hr)) (fe_fld (fv 3)) (fv 2) (nomark _)) (fw_or1 (ft_cmp (od_ne rfl (hu64 hr)) (fe_fld (fv 4)) (fv 2) (nomark _))))) (fss_one (fs_ret fe_bl)) fss_nil)
    (fss_cons (fs_set 5 sc__law_count_right.nd (FN.frz (fn_lst (fa_cons (fe_callI (fv 3) (T.c_Greatest.call (by decide)) C_Greatest_call (hr.mono (by decide)) (takes_of rfl rfl rfl rfl) (fa_cons (fv 0) fa_nil)) (fa_cons (fe_callI (fv 3) (T.c_Greatest.call (by decide)) C_Greatest_call (hr.mono (by decide)) (takes_of rfl rfl rfl rfl) (fa_cons (fe_ct (cd_tuple rfl) T.n_tuple bt_tuple (fa_cons (fv 1) fa_nil)) fa_nil)) fa_nil)))))
    (fss_cons (fs_set 6 sc__law_count_right.nd (FN.frz (fn_lst (fa_cons (fe_callI (fv 4) (T.c_Least.call (by decide)) C_Least_call (hr.mono (by decide)) (takes_of rfl rfl rfl rfl) (fa_cons (fv 0) fa_nil)) (fa_cons (fe_callI (fv 4) (T.c_Least.call (by decide)) C_Least_call (hr.mono (by decide)) (takes_of rfl rfl rfl rfl) (fa_cons (fe_ct (cd_tuple rfl) T.n_tuple bt_tuple (fa_cons (fv 1) fa_nil)) fa_nil)) fa_nil)))))
    (fss_cons (fs_if (FW.ft (fw_or (ft_cmp (od_ne rfl (hu64 hr)) (FN.frz (fn_ct (cn_list rfl) T.n_list bt_list (fa_cons (fe_ix (xd_ix rfl) (fv 5) fe_int (fun _ _ => rfl)) fa_nil))) (fe_callO C__law_most (hr.mono (by decide)) (takes_of rfl rfl rfl rfl) (fa_cons (fv 0) (fa_cons (fv 2) fa_nil))) (nomark _)) (fw_or1 (ft_cmp (od_ne rfl (hu64 hr)) (FN.frz (fn_ct (cn_list rfl) T.n_list bt_list (fa_cons (fe_ix (xd_ix rfl) (fv 5) fe_int (fun _ _ => rfl)) fa_nil))) (fe_callO C__law_most (hr.mono (by decide)) (takes_of rfl rfl rfl rfl) (fa_cons (fv 1) (fa_cons (fv 2) fa_nil))) (nomark _))))) (fss_one (fs_ret fe_bl)) fss_nil)
    (fss_cons (fs_if (FW.ft (fw_or (ft_cmp (od_ne rfl (hu64 hr)) (FN.frz (fn_ct (cn_list rfl) T.n_list bt_list (fa_cons (fe_ix (xd_ix rfl) (fv 6) fe_int (fun _ _ => rfl)) fa_nil))) (fe_rev (fe_callO C__law_most (hr.mono (by decide)) (takes_of rfl rfl rfl rfl) (fa_cons (fe_rev (fv 0)) (fa_cons (fv 2) fa_nil)))) (nomark _)) (fw_or1 (ft_cmp (od_ne rfl (hu64 hr)) (FN.frz (fn_ct (cn_list rfl) T.n_list bt_list (fa_cons (fe_ix (xd_ix rfl) (fv 6) fe_int (fun _ _ => rfl)) fa_nil))) (fe_rev (fe_callO C__law_most (hr.mono (by decide)) (takes_of rfl rfl rfl rfl) (fa_cons (fe_rev (fv 1)) (fa_cons (fv 2) fa_nil)))) (nomark _))))) (fss_one (fs_ret fe_bl)) fss_nil)
    (fss_cons (fs_if (FW.ft (fw_or (ft_cmp (od_ne rfl (hu64 hr)) (fe_ix (xd_ix rfl) (fv 5) fe_int (fun _ _ => rfl)) (fe_callO C_greatest_die (hr.mono (by decide)) (takes_of rfl rfl rfl rfl) (fa_cons (fv 0) (fa_cons (fv 2) fa_nil))) (nomark _)) (fw_or1 (ft_cmp (od_ne rfl (hu64 hr)) (fe_ix (xd_ix rfl) (fv 6) fe_int (fun _ _ => rfl)) (fe_callO C_least_die (hr.mono (by decide)) (takes_of rfl rfl rfl rfl) (fa_cons (fv 1) (fa_cons (fv 2) fa_nil))) (nomark _))))) (fss_one (fs_ret fe_bl)) fss_nil)
    (fss_cons (fs_set 7 sc__law_count_right.nd (fe_callO C__law_over (hr.mono (by decide)) (takes_of rfl rfl rfl rfl) (fa_cons (fv 0) (fa_cons (fv 1) fa_nil))))
    (fss_cons (fs_set 8 sc__law_count_right.nd (fe_callO C__law_over (hr.mono (by decide)) (takes_of rfl rfl rfl rfl) (fa_cons (fv 1) (fa_cons (fv 0) fa_nil))))
    (fss_cons (fs_for (passes_of rfl) rfl (fi_seq rfl (FN.frz (fn_lst (fa_cons (fv 5) (fa_cons (fv 6) fa_nil))))) (fg_name (vs := [9]) 9 sc__law_count_right.nd) (fss_cons (fs_if (FW.ft (fw_or (ft_not (ft_val (fe_cb (cd_isi rfl) T.n_isinstance bt_isinstance (fa_cons (fe_ix (xd_ix rfl) (fv 9) fe_int (fun _ _ => rfl)) (fa_cons (fe_ty rfl T.n_tuple bt_tuple) fa_nil))))) (fw_or1 (ft_not (ft_val (fe_cb (cd_isi rfl) T.n_isinstance bt_isinstance (fa_cons (fe_ix (xd_ix rfl) (fv 9) fe_int (fun _ _ => rfl)) (fa_cons (fe_ty rfl T.n_tuple bt_tuple) fa_nil)))))))) (fss_one (fs_ret fe_bl)) fss_nil)
    (fss_cons (fs_if (FW.ft (fw_or (ft_not (ft_val (fe_callO C__law_stands (hr.mono (by decide)) (takes_of rfl rfl rfl rfl) (fa_cons (fe_ix (xd_ix rfl) (fv 9) fe_int (fun _ _ => rfl)) (fa_cons (fe_ix (xd_ix rfl) (fv 9) fe_int (fun _ _ => rfl)) (fa_cons (fv 7) fa_nil)))))) (fw_or1 (ft_not (ft_val (fe_callO C__law_stands (hr.mono (by decide)) (takes_of rfl rfl rfl rfl) (fa_cons (fe_ix (xd_ix rfl) (fv 9) fe_int (fun _ _ => rfl)) (fa_cons (fe_ix (xd_ix rfl) (fv 9) fe_int (fun _ _ => rfl)) (fa_cons (fv 8) fa_nil))))))))) (fss_one (fs_ret fe_bl)) fss_nil)
    (fss_cons (fs_set 10 sc__law_count_right.nd (fe_callO C_lead (hr.mono (by decide)) (takes_of rfl rfl rfl rfl) (fa_cons (fe_ix (xd_ix rfl) (fv 9) fe_int (fun _ _ => rfl)) (fa_cons (fe_ix (xd_ix rfl) (fv 9) fe_int (fun _ _ => rfl)) fa_nil))))
    (fss_cons (fs_if (FW.ft (fw_or (ft_cmp (od_ne rfl (hu64 hr)) (fv 10) (fe_callO C__law_lead (hr.mono (by decide)) (takes_of rfl rfl rfl rfl) (fa_cons (fe_ix (xd_ix rfl) (fv 9) fe_int (fun _ _ => rfl)) (fa_cons (fe_ix (xd_ix rfl) (fv 9) fe_int (fun _ _ => rfl)) fa_nil))) (nomark _)) (fw_or1 (FW.ft (fw_and (ft_val (fv 7)) (fw_and1 (ft_cmp (od_ne rfl (hu64 hr)) (fe_callO C__law_sign (hr.mono (by decide)) (takes_of rfl rfl rfl rfl) (fa_cons (fv 10) fa_nil)) (fe_op (od_sub) fe_int (fe_ct (cd_int) T.n_int bt_int (fa_cons (fv 8) fa_nil))) (nomark _)))))))) (fss_one (fs_ret fe_bl)) fss_nil)
    (fss_one (fs_if (FW.ft (fw_and (ft_val (fv 8)) (fw_and1 (ft_cmp (od_ne rfl (hu64 hr)) (fe_callO C__law_sign (hr.mono (by decide)) (takes_of rfl rfl rfl rfl) (fa_cons (fv 10) fa_nil)) (fe_op (od_sub) (fe_ct (cd_int) T.n_int bt_int (fa_cons (fv 7) fa_nil)) fe_int) (nomark _))))) (fss_one (fs_ret fe_bl)) fss_nil)))))))
    (fss_cons (fs_if (FW.ft (fw_or (ft_cmp (od_gt) (fv 2) fe_int (nomark _)) (fw_or1 (ft_cmp (od_gt) (fe_callO C__law_power (hr.mono (by decide)) (takes_of rfl rfl rfl rfl) (fa_cons (fe_cb (cd_sumS rfl rfl) T.n_sum bt_sum (fa_cons (fv 0) fa_nil)) (fa_cons (fe_op (od_mul) (fv 2) (fv 2)) fa_nil))) (fe_op (od_pow) fe_int fe_int) (nomark _))))) (fss_one (fs_ret fe_bl)) fss_nil)
    (fss_one (fs_ret (fe_and (fe_callO C__law_stands (hr.mono (by decide)) (takes_of rfl rfl rfl rfl) (fa_cons (fe_callI (fv 3) (T.c_Greatest.call (by decide)) C_Greatest_call (hr.mono (by decide)) (takes_of rfl rfl rfl rfl) (fa_cons (fe_callI (fv 3) (T.c_Greatest.call (by decide)) C_Greatest_call (hr.mono (by decide)) (takes_of rfl rfl rfl rfl) (fa_cons (fv 0) fa_nil)) fa_nil)) (fa_cons (fe_callI (fv 3) (T.c_Greatest.call (by decide)) C_Greatest_call (hr.mono (by decide)) (takes_of rfl rfl rfl rfl) (fa_cons (fv 0) fa_nil)) (fa_cons fe_bl fa_nil)))) (fe_one (fe_callO C__law_stands (hr.mono (by decide)) (takes_of rfl rfl rfl rfl) (fa_cons (fe_callI (fv 4) (T.c_Least.call (by decide)) C_Least_call (hr.mono (by decide)) (takes_of rfl rfl rfl rfl) (fa_cons (fv 0) fa_nil)) (fa_cons (fe_callI (fv 4) (T.c_Least.call (by decide)) C_Least_call (hr.mono (by decide)) (takes_of rfl rfl rfl rfl) (fa_cons (fe_callI (fv 4) (T.c_Least.call (by decide)) C_Least_call (hr.mono (by decide)) (takes_of rfl rfl rfl rfl) (fa_cons (fv 0) fa_nil)) fa_nil)) (fa_cons fe_bl fa_nil))))))))))))))))))))
  · match ds, len _ _ _ _ h with
    | [d0, d1, d2], _ => exact hb d0 d1 d2 M Q E h
/-! _law_rising -/
def g__law_rising (K : PySem.W.Frag) : DS :=
  (sSeq (sSet 2 (gTup (aCons (gC (.int 0)) (aCons (gC (.int 1)) aNil))))
    (sSeq (sFor (iRange2 (aCons (gC (.int 1)) (aCons (gC (.int 5)) aNil))) (dName 3) (sSeq (sSet 4 (gCall (sp_chance_of_two K) (aCons (gVar 0) (aCons (gVar 3) (aCons (gVar 1) (aCons (gC (.int 1)) aNil))))))
    (sSeq (sSet 5 (gOp dMul (gCall (sp__law_power K) (aCons (gCB dSumS (aCons (gVar 0) aNil)) (aCons (gVar 3) aNil))) (gCB dSumS (aCons (gVar 1) aNil))))
    (sSeq (sIf (gOr (gNot (gTest (gCall (sp__law_is_fraction K) (aCons (gVar 4) aNil)))) (gNot (gTest (gCall (sp__law_same_worth K) (aCons (gVar 4) (aCons (gTup (aCons (gCall (sp__law_wins K) (aCons (gCall (sp__law_most K) (aCons (gVar 0) (aCons (gVar 3) aNil))) (aCons (gVar 1) aNil))) (aCons (gVar 5) aNil))) aNil)))))) (sRet (gC (.bl false))) sNext)
    (sSeq (sIf (gNot (gTest (gCall (sp__law_at_most K) (aCons (gVar 2) (aCons (gVar 4) aNil))))) (sRet (gC (.bl false))) sNext)
    (sSeq (sSet 2 (gVar 4))
    (sSeq (sIf (gNot (gTest (gCall (sp__law_stands K) (aCons (gCall (sp_greatest_die K) (aCons (gVar 0) (aCons (gOp dAdd (gVar 3) (gC (.int 1))) aNil))) (aCons (gCall (sp_greatest_die K) (aCons (gVar 0) (aCons (gVar 3) aNil))) (aCons (gC (.bl true)) aNil)))))) (sRet (gC (.bl false))) sNext)
    (sIf (gNot (gTest (gCall (sp__law_stands K) (aCons (gCall (sp_least_die K) (aCons (gVar 0) (aCons (gVar 3) aNil))) (aCons (gCall (sp_least_die K) (aCons (gVar 0) (aCons (gOp dAdd (gVar 3) (gC (.int 1))) aNil))) (aCons (gC (.bl true)) aNil)))))) (sRet (gC (.bl false))) sNext))))))))
    (sRet (gC (.bl true)))))
theorem sc__law_rising : FnScope ["_law_one", "_law_other", "_law_before", "_law_count", "_law_told", "_law_whole"] ["_law_one", "_law_other"] (defScope s__law_rising) := ⟨rfl, rfl, rfl, by decide +kernel, rfl, by decide +kernel, by decide +kernel⟩
theorem w__law_rising (T : Tx K mg) (C_chance_of_two : OkD P w K mg base 6 "chance_of_two" ["a", "count", "b", "other"] (sp_chance_of_two K)) (C__law_power : OkD P w K mg base 1 "_law_power" ["_law_number", "_law_count"] (sp__law_power K)) (C__law_at_most : OkD P w K mg base 1 "_law_at_most" ["_law_one", "_law_other"] (sp__law_at_most K)) (C__law_stands : OkD P w K mg base 6 "_law_stands" ["_law_one", "_law_other", "_law_due"] (sp__law_stands K)) (C__law_is_fraction : OkD P w K mg base 2 "_law_is_fraction" ["_law_value"] (sp__law_is_fraction K)) (C__law_same_worth : OkD P w K mg base 1 "_law_same_worth" ["_law_one", "_law_other"] (sp__law_same_worth K)) (C_greatest_die : OkD P w K mg base 5 "greatest_die" ["die", "count"] (sp_greatest_die K)) (C_least_die : OkD P w K mg base 6 "least_die" ["die", "count"] (sp_least_die K)) (C__law_wins : OkD P w K mg base 1 "_law_wins" ["_law_one", "_law_other"] (sp__law_wins K)) (C__law_most : OkD P w K mg base 2 "_law_most" ["_law_die_here", "_law_count"] (sp__law_most K)) (len : ∀ ds M Q E, sp__law_rising K ds M Q E → ds.length = 2)
    (hb : ∀ d0 d1 M Q E, sp__law_rising K [d0, d1] M Q E → g__law_rising K { nx := fun _ M => Q .non M, rt := Q, ex := fun x _ M => E x M } [some d0, some d1, none, none, none, none] M) : OkD P w K mg base 7 "_law_rising" ["_law_one", "_law_other"] (sp__law_rising K) := by
  obtain ⟨fd, F⟩ := T.F__law_rising
  refine ⟨fd, dl_def F sc__law_rising (by intro ds M Q E h; exact len ds M Q E h) (g__law_rising K) (by decide) (fun cdv A outer s H E hr => ?_) (fun ds M Q E h => ?_), F.binds fun _ _ _ _ _ _ us hl => match us, hl with | [_, _], _ => rfl, F.kp, T.g__law_rising, fun_lk F⟩
  · exact
   (fss_cons (fs_set 2 sc__law_rising.nd (fe_tup (fa_cons fe_int (fa_cons fe_int fa_nil))))
    (fss_cons (fs_for (passes_of rfl) rfl (fi_range2 (by rfl) T.n_range (fa_cons fe_int (fa_cons fe_int fa_nil))) (fg_name (vs := [3]) 3 sc__law_rising.nd) (fss_cons (fs_set 4 sc__law_rising.nd (fe_callO C_chance_of_two (hr.mono (by decide)) (takes_of rfl rfl rfl rfl) (fa_cons (fv 0) (fa_cons (fv 3) (fa_cons (fv 1) (fa_cons fe_int fa_nil))))))
    (fss_cons (fs_set 5 sc__law_rising.nd (fe_op (od_mul) (fe_callO C__law_power (hr.mono (by decide)) (takes_of rfl rfl rfl rfl) (fa_cons (fe_cb (cd_sumS rfl rfl) T.n_sum bt_sum (fa_cons (fv 0) fa_nil)) (fa_cons (fv 3) fa_nil))) (fe_cb (cd_sumS rfl rfl) T.n_sum bt_sum (fa_cons (fv 1) fa_nil))))
    (fss_cons (fs_if (FW.ft (fw_or (ft_not (ft_val (fe_callO C__law_is_fraction (hr.mono (by decide)) (takes_of rfl rfl rfl rfl) (fa_cons (fv 4) fa_nil)))) (fw_or1 (ft_not (ft_val (fe_callO C__law_same_worth (hr.mono (by decide)) (takes_of rfl rfl rfl rfl) (fa_cons (fv 4) (fa_cons (fe_tup (fa_cons (fe_callO C__law_wins (hr.mono (by decide)) (takes_of rfl rfl rfl rfl) (fa_cons (fe_callO C__law_most (hr.mono (by decide)) (takes_of rfl rfl rfl rfl) (fa_cons (fv 0) (fa_cons (fv 3) fa_nil))) (fa_cons (fv 1) fa_nil))) (fa_cons (fv 5) fa_nil))) fa_nil)))))))) (fss_one (fs_ret fe_bl)) fss_nil)
    (fss_cons (fs_if (ft_not (ft_val (fe_callO C__law_at_most (hr.mono (by decide)) (takes_of rfl rfl rfl rfl) (fa_cons (fv 2) (fa_cons (fv 4) fa_nil))))) (fss_one (fs_ret fe_bl)) fss_nil)
    (fss_cons (fs_set 2 sc__law_rising.nd (fv 4))
    (fss_cons (fs_if (ft_not (ft_val (fe_callO C__law_stands (hr.mono (by decide)) (takes_of rfl rfl rfl rfl) (fa_cons (fe_callO C_greatest_die (hr.mono (by decide)) (takes_of rfl rfl rfl rfl) (fa_cons (fv 0) (fa_cons (fe_op (od_add rfl) (fv 3) fe_int) fa_nil))) (fa_cons (fe_callO C_greatest_die (hr.mono (by decide)) (takes_of rfl rfl rfl rfl) (fa_cons (fv 0) (fa_cons (fv 3) fa_nil))) (fa_cons fe_bl fa_nil)))))) (fss_one (fs_ret fe_bl)) fss_nil)
    (fss_one (fs_if (ft_not (ft_val (fe_callO C__law_stands (hr.mono (by decide)) (takes_of rfl rfl rfl rfl) (fa_cons (fe_callO C_least_die (hr.mono (by decide)) (takes_of rfl rfl rfl rfl) (fa_cons (fv 0) (fa_cons (fv 3) fa_nil))) (fa_cons (fe_callO C_least_die (hr.mono (by decide)) (takes_of rfl rfl rfl rfl) (fa_cons (fv 0) (fa_cons (fe_op (od_add rfl) (fv 3) fe_int) fa_nil))) (fa_cons fe_bl fa_nil)))))) (fss_one (fs_ret fe_bl)) fss_nil)))))))))
    (fss_one (fs_ret fe_bl))))
  · match ds, len _ _ _ _ h with
    | [d0, d1], _ => exact hb d0 d1 M Q E h
/-! _law_two_right -/
def g__law_two_right (K : PySem.W.Frag) : DS :=
  (sSeq (sSet 4 (gCall (sp_chance_of_two K) (aCons (gVar 0) (aCons (gVar 1) (aCons (gVar 2) (aCons (gVar 3) aNil))))))
    (sSeq (sSet 5 (gCall (sp__law_most K) (aCons (gVar 0) (aCons (gVar 1) aNil))))
    (sSeq (sSet 6 (gCall (sp__law_most K) (aCons (gVar 2) (aCons (gVar 3) aNil))))
    (sRet (gAndV (gCall (sp__law_is_fraction K) (aCons (gVar 4) aNil)) (gCall (sp__law_same_worth K) (aCons (gVar 4) (aCons (gTup (aCons (gCall (sp__law_wins K) (aCons (gVar 5) (aCons (gVar 6) aNil))) (aCons (gOp dMul (gCB dSumS (aCons (gVar 5) aNil)) (gCB dSumS (aCons (gVar 6) aNil))) aNil))) aNil))))))))
theorem sc__law_two_right : FnScope ["_law_one", "_law_count", "_law_other", "_law_turns", "_law_told", "_law_high", "_law_there"] ["_law_one", "_law_count", "_law_other", "_law_turns"] (defScope s__law_two_right) := ⟨rfl, rfl, rfl, by decide +kernel, rfl, by decide +kernel, by decide +kernel⟩
theorem w__law_two_right (T : Tx K mg) (C_chance_of_two : OkD P w K mg base 6 "chance_of_two" ["a", "count", "b", "other"] (sp_chance_of_two K)) (C__law_most : OkD P w K mg base 2 "_law_most" ["_law_die_here", "_law_count"] (sp__law_most K)) (C__law_is_fraction : OkD P w K mg base 2 "_law_is_fraction" ["_law_value"] (sp__law_is_fraction K)) (C__law_same_worth : OkD P w K mg base 1 "_law_same_worth" ["_law_one", "_law_other"] (sp__law_same_worth K)) (C__law_wins : OkD P w K mg base 1 "_law_wins" ["_law_one", "_law_other"] (sp__law_wins K)) (len : ∀ ds M Q E, sp__law_two_right K ds M Q E → ds.length = 4)
    (hb : ∀ d0 d1 d2 d3 M Q E, sp__law_two_right K [d0, d1, d2, d3] M Q E → g__law_two_right K { nx := fun _ M => Q .non M, rt := Q, ex := fun x _ M => E x M } [some d0, some d1, some d2, some d3, none, none, none] M) : OkD P w K mg base 7 "_law_two_right" ["_law_one", "_law_count", "_law_other", "_law_turns"] (sp__law_two_right K) := by
  obtain ⟨fd, F⟩ := T.F__law_two_right
  refine ⟨fd, dl_def F sc__law_two_right (by intro ds M Q E h; exact len ds M Q E h) (g__law_two_right K) (by decide) (fun cdv A outer s H E hr => ?_) (fun ds M Q E h => ?_), F.binds fun _ _ _ _ _ _ us hl => match us, hl with | [_, _, _, _], _ => rfl, F.kp, T.g__law_two_right, fun_lk F⟩
  · exact
   (fss_cons (fs_set 4 sc__law_two_right.nd (fe_callO C_chance_of_two (hr.mono (by decide)) (takes_of rfl rfl rfl rfl) (fa_cons (fv 0) (fa_cons (fv 1) (fa_cons (fv 2) (fa_cons (fv 3) fa_nil))))))
    (fss_cons (fs_set 5 sc__law_two_right.nd (fe_callO C__law_most (hr.mono (by decide)) (takes_of rfl rfl rfl rfl) (fa_cons (fv 0) (fa_cons (fv 1) fa_nil))))
    (fss_cons (fs_set 6 sc__law_two_right.nd (fe_callO C__law_most (hr.mono (by decide)) (takes_of rfl rfl rfl rfl) (fa_cons (fv 2) (fa_cons (fv 3) fa_nil))))
    (fss_one (fs_ret (fe_and (fe_callO C__law_is_fraction (hr.mono (by decide)) (takes_of rfl rfl rfl rfl) (fa_cons (fv 4) fa_nil)) (fe_one (fe_callO C__law_same_worth (hr.mono (by decide)) (takes_of rfl rfl rfl rfl) (fa_cons (fv 4) (fa_cons (fe_tup (fa_cons (fe_callO C__law_wins (hr.mono (by decide)) (takes_of rfl rfl rfl rfl) (fa_cons (fv 5) (fa_cons (fv 6) fa_nil))) (fa_cons (fe_op (od_mul) (fe_cb (cd_sumS rfl rfl) T.n_sum bt_sum (fa_cons (fv 5) fa_nil)) (fe_cb (cd_sumS rfl rfl) T.n_sum bt_sum (fa_cons (fv 6) fa_nil))) fa_nil))) fa_nil))))))))))
  · match ds, len _ _ _ _ h with
    | [d0, d1, d2, d3], _ => exact hb d0 d1 d2 d3 M Q E h
/-! _law_refusal -/
def g__law_refusal (K : PySem.W.Frag) : DS :=
  (sSeq (sSet 4 (gFrz (nLst (aCons (gC (.str "nothing")) (aCons (gC (.int 0)) (aCons (gC (.int 0)) aNil))))))
    (sSeq (sTry K (sDrop (gCall (sp_chance_of_two K) (aCons (gVar 0) (aCons (gVar 1) (aCons (gVar 2) (aCons (gVar 3) aNil)))))) [(Value.ref (He.ga K "BadDie"), some 5, fun a cls d fs => (sSet 4 (gFrz (nLst (aCons (gC (.str "die")) (aCons (gXf a cls d (He.ga K "BadDie") "place" (gVar 5)) (aCons (gC (.int 0)) aNil))))))), (Value.ref (He.ga K "BadNumber"), some 5, fun a cls d fs => (sSet 4 (gFrz (nLst (aCons (gC (.str "number")) (aCons (gXf a cls d (He.ga K "BadNumber") "name" (gVar 5)) (aCons (gC (.int 0)) aNil))))))), (Value.ref (He.ga K "OtherSize"), some 5, fun a cls d fs => (sSet 4 (gFrz (nLst (aCons (gC (.str "size")) (aCons (gXf a cls d (He.ga K "OtherSize") "first" (gVar 5)) (aCons (gXf a cls d (He.ga K "OtherSize") "second" (gVar 5)) aNil))))))), (Value.ref (He.ga K "DiceError"), some 5, fun a cls d fs => (sSet 4 (gFrz (nLst (aCons (gC (.str "other")) (aCons (gC (.int 0)) (aCons (gC (.int 0)) aNil)))))))])
    (sRet (gVar 4))))
theorem sc__law_refusal : FnScope ["_law_one", "_law_count", "_law_other", "_law_turns", "_law_told", "error"] ["_law_one", "_law_count", "_law_other", "_law_turns"] (defScope s__law_refusal) := ⟨rfl, rfl, rfl, by decide +kernel, rfl, by decide +kernel, by decide +kernel⟩
theorem w__law_refusal (T : Tx K mg) (C_chance_of_two : OkD P w K mg base 6 "chance_of_two" ["a", "count", "b", "other"] (sp_chance_of_two K)) (len : ∀ ds M Q E, sp__law_refusal K ds M Q E → ds.length = 4)
    (hb : ∀ d0 d1 d2 d3 M Q E, sp__law_refusal K [d0, d1, d2, d3] M Q E → g__law_refusal K { nx := fun _ M => Q .non M, rt := Q, ex := fun x _ M => E x M } [some d0, some d1, some d2, some d3, none, none] M) : OkD P w K mg base 7 "_law_refusal" ["_law_one", "_law_count", "_law_other", "_law_turns"] (sp__law_refusal K) := by
  obtain ⟨fd, F⟩ := T.F__law_refusal
  refine ⟨fd, dl_def F sc__law_refusal (by intro ds M Q E h; exact len ds M Q E h) (g__law_refusal K) (by decide) (fun cdv A outer s H E hr => ?_) (fun ds M Q E h => ?_), F.binds fun _ _ _ _ _ _ us hl => match us, hl with | [_, _, _, _], _ => rfl, F.kp, T.g__law_refusal, fun_lk F⟩
  · exact
   (fss_cons (fs_set 4 sc__law_refusal.nd (FN.frz (fn_lst (fa_cons fe_str (fa_cons fe_int (fa_cons fe_int fa_nil))))))
    (fss_cons (fs_try sc__law_refusal.nd (takes_of rfl rfl rfl rfl) (fun W pn xe tk' po' => (fss_one (fs_expr (fe_callO C_chance_of_two (hr.mono (by decide)) tk' (fa_cons (fv 0) (fa_cons (fv 1) (fa_cons (fv 2) (fa_cons (fv 3) fa_nil))))))))
      (.as 5 (names_g T.g_BadDie) rfl rfl (fun a oe cls d fs pn hz hf => (fss_one (fs_set 4 sc__law_refusal.nd (FN.frz (fn_lst (fa_cons fe_str (fa_cons (fe_xf rfl T.e_BadDie hz hf (by decide) (fv 5)) (fa_cons fe_int fa_nil))))))))
      (.as 5 (names_g T.g_BadNumber) rfl rfl (fun a oe cls d fs pn hz hf => (fss_one (fs_set 4 sc__law_refusal.nd (FN.frz (fn_lst (fa_cons fe_str (fa_cons (fe_xf rfl T.e_BadNumber hz hf (by decide) (fv 5)) (fa_cons fe_int fa_nil))))))))
      (.as 5 (names_g T.g_OtherSize) rfl rfl (fun a oe cls d fs pn hz hf => (fss_one (fs_set 4 sc__law_refusal.nd (FN.frz (fn_lst (fa_cons fe_str (fa_cons (fe_xf rfl T.e_OtherSize hz hf (by decide) (fv 5)) (fa_cons (fe_xf rfl T.e_OtherSize hz hf (by decide) (fv 5)) fa_nil))))))))
      (.as 5 (names_g T.g_DiceError) rfl rfl (fun a oe cls d fs pn hz hf => (fss_one (fs_set 4 sc__law_refusal.nd (FN.frz (fn_lst (fa_cons fe_str (fa_cons fe_int (fa_cons fe_int fa_nil))))))))
      .nil)))))
    (fss_one (fs_ret (fv 4)))))
  · match ds, len _ _ _ _ h with
    | [d0, d1, d2, d3], _ => exact hb d0 d1 d2 d3 M Q E h
/-! _law_refuses -/
def g__law_refuses (K : PySem.W.Frag) : DS :=
  (sSeq (sSet 3 (gCB dLen (aCons (gVar 1) aNil)))
    (sSeq (sSet 4 (gOp dIx (gFrz (nLst (aCons (gC (.int 0)) (aCons (gUn dNeg (gC (.int 1))) (aCons (gC (.int 4001)) (aCons (gC .non) (aCons (gC (.bl true)) (aCons (gC (.str "2")) aNil)))))))) (gCall (sp__law_take K) (aCons (gVar 0) (aCons (gC (.int 6)) aNil)))))
    (sSeq (sSet 5 (gFrz (nLst (aCons (gFrz (nLst (aCons (gFrz (nLst aNil)) (aCons (gUn dNeg (gC (.int 1))) aNil)))) (aCons (gFrz (nLst (aCons (gC .non) (aCons (gUn dNeg (gC (.int 1))) aNil)))) (aCons (gFrz (nLst (aCons (gOp dAdd (gVar 1) (gFrz (nLst (aCons (gUn dNeg (gC (.int 2))) aNil)))) (aCons (gVar 3) aNil)))) (aCons (gFrz (nLst (aCons (gFrz (nLc (iRange1 (aCons (gVar 3) aNil)) (dName 6) gYes (gC (.int 0)) [6])) (aCons (gUn dNeg (gC (.int 1))) aNil)))) aNil)))))))
    (sSeq (sSet 7 (gOp dIx (gVar 5) (gCall (sp__law_take K) (aCons (gVar 0) (aCons (gC (.int 4)) aNil)))))
    (sSeq (sIf (gTest (gOp dNe (gCall (sp__law_refusal K) (aCons (gOp dIx (gVar 7) (gC (.int 0))) (aCons (gVar 4) (aCons (gOp dIx (gVar 7) (gC (.int 0))) (aCons (gVar 4) aNil))))) (gFrz (nLst (aCons (gC (.str "die")) (aCons (gOp dIx (gVar 7) (gC (.int 1))) (aCons (gC (.int 0)) aNil))))))) (sRetF (gC (.bl false))) sNext)
    (sSeq (sIf (gTest (gOp dNe (gCall (sp__law_refusal K) (aCons (gVar 1) (aCons (gC (.int 2)) (aCons (gOp dIx (gVar 7) (gC (.int 0))) (aCons (gVar 4) aNil))))) (gFrz (nLst (aCons (gC (.str "die")) (aCons (gOp dIx (gVar 7) (gC (.int 1))) (aCons (gC (.int 0)) aNil))))))) (sRetF (gC (.bl false))) sNext)
    (sSeq (sIf (gTest (gOp dNe (gCall (sp__law_refusal K) (aCons (gVar 1) (aCons (gVar 4) (aCons (gOp dIx (gVar 7) (gC (.int 0))) (aCons (gVar 4) aNil))))) (gFrz (nLst (aCons (gC (.str "number")) (aCons (gC (.str "count")) (aCons (gC (.int 0)) aNil))))))) (sRetF (gC (.bl false))) sNext)
    (sSeq (sIf (gTest (gOp dNe (gCall (sp__law_refusal K) (aCons (gVar 1) (aCons (gC (.int 2)) (aCons (gOp dAdd (gVar 2) (gFrz (nLst (aCons (gC (.int 1)) aNil)))) (aCons (gVar 4) aNil))))) (gFrz (nLst (aCons (gC (.str "number")) (aCons (gC (.str "other")) (aCons (gC (.int 0)) aNil))))))) (sRetF (gC (.bl false))) sNext)
    (sSeq (sIf (gTest (gOp dNe (gCall (sp__law_refusal K) (aCons (gVar 1) (aCons (gC (.int 3)) (aCons (gOp dAdd (gVar 2) (gFrz (nLst (aCons (gC (.int 1)) aNil)))) (aCons (gC (.int 1)) aNil))))) (gFrz (nLst (aCons (gC (.str "size")) (aCons (gVar 3) (aCons (gOp dAdd (gVar 3) (gC (.int 1))) aNil))))))) (sRetF (gC (.bl false))) sNext)
    (sSeq (sSet 8 (gCel (nLst aNil)))
    (sSeq (sFor (iRange1 (aCons (gC (.int 2)) aNil)) (dName 9) (sSeq (sSet 10 (gC (.str "nothing")))
    (sSeq (sTry K (sSeq (sIf (gTest (gOp dEq (gVar 9) (gC (.int 0)))) (sDrop (gMake (He.ga K "Greatest") (sp_Greatest_init K) (aCons (gVar 4) aNil))) sNext)
    (sIf (gTest (gOp dEq (gVar 9) (gC (.int 1)))) (sDrop (gMake (He.ga K "Least") (sp_Least_init K) (aCons (gVar 4) aNil))) sNext)) [(Value.ref (He.ga K "BadNumber"), some 11, fun a cls d fs => (sSet 10 (gXf a cls d (He.ga K "BadNumber") "name" (gVar 11)))), (Value.ref (He.ga K "DiceError"), some 11, fun a cls d fs => (sSet 10 (gC (.str "other"))))])
    (sDrop (gMt dAppend (gVar 8) (aCons (gVar 10) aNil))))))
    (sRetF (gOp dEq (gVar 8) (gFrz (nLst (aCons (gC (.str "count")) (aCons (gC (.str "count")) aNil)))))))))))))))))
theorem sc__law_refuses : FnScope ["_law_drawn", "_law_one", "_law_other", "_law_size", "_law_bad", "_law_wrong", "_law_rank", "_law_thing", "_law_told", "_law_word", "_law_name", "error"] ["_law_drawn", "_law_one", "_law_other"] (defScope s__law_refuses) := ⟨rfl, rfl, rfl, by decide +kernel, rfl, by decide +kernel, by decide +kernel⟩
theorem w__law_refuses (T : Tx K mg) (C__law_take : OkD P w K mg base 1 "_law_take" ["_law_drawn", "_law_many"] (sp__law_take K)) (C__law_refusal : OkD P w K mg base 7 "_law_refusal" ["_law_one", "_law_count", "_law_other", "_law_turns"] (sp__law_refusal K)) (C_Greatest_init : FnM P w K mg base 4 (He.ma K (He.ga K "Greatest") "__init__") (sp_Greatest_init K)) (C_Least_init : FnM P w K mg base 4 (He.ma K (He.ga K "Least") "__init__") (sp_Least_init K)) (len : ∀ ds M Q E, sp__law_refuses K ds M Q E → ds.length = 3)
    (hb : ∀ d0 d1 d2 M Q E, sp__law_refuses K [d0, d1, d2] M Q E → g__law_refuses K { nx := fun _ M => Q .non M, rt := Q, ex := fun x _ M => E x M } [some d0, some d1, some d2, none, none, none, none, none, none, none, none, none] M) : OkD P w K mg base 8 "_law_refuses" ["_law_drawn", "_law_one", "_law_other"] (sp__law_refuses K) := by
  obtain ⟨fd, F⟩ := T.F__law_refuses
  refine ⟨fd, dl_def F sc__law_refuses (by intro ds M Q E h; exact len ds M Q E h) (g__law_refuses K) (by decide) (fun cdv A outer s H E hr => ?_) (fun ds M Q E h => ?_), F.binds fun _ _ _ _ _ _ us hl => match us, hl with | [_, _, _], _ => rfl, F.kp, T.g__law_refuses, fun_lk F⟩
  · exact
   (fss_cons (fs_set 3 sc__law_refuses.nd (fe_cb (cd_len rfl) T.n_len bt_len (fa_cons (fv 1) fa_nil)))
    (fss_cons (fs_set 4 sc__law_refuses.nd (fe_ix (xd_ix rfl) (FN.frz (fn_lst (fa_cons fe_int (fa_cons (fe_un ud_neg fe_int) (fa_cons fe_int (fa_cons fe_non (fa_cons fe_bl (fa_cons fe_str fa_nil)))))))) (fe_callO C__law_take (hr.mono (by decide)) (takes_of rfl rfl rfl rfl) (fa_cons (fv 0) (fa_cons fe_int fa_nil))) (fun _ _ => rfl)))
    (fss_cons (fs_set 5 sc__law_refuses.nd (FN.frz (fn_lst (fa_cons (FN.frz (fn_lst (fa_cons (FN.frz (fn_lst fa_nil)) (fa_cons (fe_un ud_neg fe_int) fa_nil)))) (fa_cons (FN.frz (fn_lst (fa_cons fe_non (fa_cons (fe_un ud_neg fe_int) fa_nil)))) (fa_cons (FN.frz (fn_lst (fa_cons (fe_op (od_add rfl) (fv 1) (FN.frz (fn_lst (fa_cons (fe_un ud_neg fe_int) fa_nil)))) (fa_cons (fv 3) fa_nil)))) (fa_cons (FN.frz (fn_lst (fa_cons (FN.frz (fn_lc (own := [("_law_rank", 6)]) sc__law_refuses.nd (fi_range1 (by rfl) T.n_range (fa_cons (fv 3) fa_nil)) (blkOk_by (by kernel_rfl)) (fun s H C cl fp => (fg_name (vs := [6]) 6 sc__law_refuses.nd)) (fun s H C cl fp => fts_nil) (fun s H C cl fp => fe_int))) (fa_cons (fe_un ud_neg fe_int) fa_nil)))) fa_nil)))))))
    (fss_cons (fs_set 7 sc__law_refuses.nd (fe_ix (xd_ix rfl) (fv 5) (fe_callO C__law_take (hr.mono (by decide)) (takes_of rfl rfl rfl rfl) (fa_cons (fv 0) (fa_cons fe_int fa_nil))) (fun _ _ => rfl)))
    (fss_cons (fs_if (ft_cmp (od_ne rfl (hu64 hr)) (fe_callO C__law_refusal (hr.mono (by decide)) (takes_of rfl rfl rfl rfl) (fa_cons (fe_ix (xd_ix rfl) (fv 7) fe_int (fun _ _ => rfl)) (fa_cons (fv 4) (fa_cons (fe_ix (xd_ix rfl) (fv 7) fe_int (fun _ _ => rfl)) (fa_cons (fv 4) fa_nil))))) (FN.frz (fn_lst (fa_cons fe_str (fa_cons (fe_ix (xd_ix rfl) (fv 7) fe_int (fun _ _ => rfl)) (fa_cons fe_int fa_nil))))) (nomark _)) (fss_one (fs_retF fe_bl)) fss_nil)
    (fss_cons (fs_if (ft_cmp (od_ne rfl (hu64 hr)) (fe_callO C__law_refusal (hr.mono (by decide)) (takes_of rfl rfl rfl rfl) (fa_cons (fv 1) (fa_cons fe_int (fa_cons (fe_ix (xd_ix rfl) (fv 7) fe_int (fun _ _ => rfl)) (fa_cons (fv 4) fa_nil))))) (FN.frz (fn_lst (fa_cons fe_str (fa_cons (fe_ix (xd_ix rfl) (fv 7) fe_int (fun _ _ => rfl)) (fa_cons fe_int fa_nil))))) (nomark _)) (fss_one (fs_retF fe_bl)) fss_nil)
    (fss_cons (fs_if (ft_cmp (od_ne rfl (hu64 hr)) (fe_callO C__law_refusal (hr.mono (by decide)) (takes_of rfl rfl rfl rfl) (fa_cons (fv 1) (fa_cons (fv 4) (fa_cons (fe_ix (xd_ix rfl) (fv 7) fe_int (fun _ _ => rfl)) (fa_cons (fv 4) fa_nil))))) (FN.frz (fn_lst (fa_cons fe_str (fa_cons fe_str (fa_cons fe_int fa_nil))))) (nomark _)) (fss_one (fs_retF fe_bl)) fss_nil)
    (fss_cons (fs_if (ft_cmp (od_ne rfl (hu64 hr)) (fe_callO C__law_refusal (hr.mono (by decide)) (takes_of rfl rfl rfl rfl) (fa_cons (fv 1) (fa_cons fe_int (fa_cons (fe_op (od_add rfl) (fv 2) (FN.frz (fn_lst (fa_cons fe_int fa_nil)))) (fa_cons (fv 4) fa_nil))))) (FN.frz (fn_lst (fa_cons fe_str (fa_cons fe_str (fa_cons fe_int fa_nil))))) (nomark _)) (fss_one (fs_retF fe_bl)) fss_nil)
    (fss_cons (fs_if (ft_cmp (od_ne rfl (hu64 hr)) (fe_callO C__law_refusal (hr.mono (by decide)) (takes_of rfl rfl rfl rfl) (fa_cons (fv 1) (fa_cons fe_int (fa_cons (fe_op (od_add rfl) (fv 2) (FN.frz (fn_lst (fa_cons fe_int fa_nil)))) (fa_cons fe_int fa_nil))))) (FN.frz (fn_lst (fa_cons fe_str (fa_cons (fv 3) (fa_cons (fe_op (od_add rfl) (fv 3) fe_int) fa_nil))))) (nomark _)) (fss_one (fs_retF fe_bl)) fss_nil)
    (fss_cons (fs_set 8 sc__law_refuses.nd (FN.cel (fn_lst fa_nil)))
    (fss_cons (fs_for (passes_of rfl) rfl (fi_range1 (by rfl) T.n_range (fa_cons fe_int fa_nil)) (fg_name (vs := [9]) 9 sc__law_refuses.nd) (fss_cons (fs_set 10 sc__law_refuses.nd fe_str)
    (fss_cons (fs_try sc__law_refuses.nd (takes_of rfl rfl rfl rfl) (fun W pn xe tk' po' => (fss_cons (fs_if (ft_cmp (od_eq rfl (hu64 hr)) (fv 9) fe_int (nomark _)) (fss_one (fs_expr (fe_make T.c_Greatest.mkr C_Greatest_init (hr.mono (by decide)) tk' T.g_Greatest (fa_cons (fv 4) fa_nil)))) fss_nil)
    (fss_one (fs_if (ft_cmp (od_eq rfl (hu64 hr)) (fv 9) fe_int (nomark _)) (fss_one (fs_expr (fe_make T.c_Least.mkr C_Least_init (hr.mono (by decide)) tk' T.g_Least (fa_cons (fv 4) fa_nil)))) fss_nil))))
      (.as 11 (names_g T.g_BadNumber) rfl rfl (fun a oe cls d fs pn hz hf => (fss_one (fs_set 10 sc__law_refuses.nd (fe_xf rfl T.e_BadNumber hz hf (by decide) (fv 11)))))
      (.as 11 (names_g T.g_DiceError) rfl rfl (fun a oe cls d fs pn hz hf => (fss_one (fs_set 10 sc__law_refuses.nd fe_str)))
      .nil)))
    (fss_one (fs_expr (fe_mt rfl (PySem.F.slot_list_append) PySem.F.type_list_append md_append (fv 8) (fa_cons (fv 10) fa_nil)))))))
    (fss_one (fs_retF (fe_cmp (od_eq rfl (hu64 hr)) (fv 8) (FN.frz (fn_lst (fa_cons fe_str (fa_cons fe_str fa_nil)))) (nomark _)))))))))))))))
  · match ds, len _ _ _ _ h with
    | [d0, d1, d2], _ => exact hb d0 d1 d2 M Q E h
/-! law -/
def g_law (K : PySem.W.Frag) : DS :=
  (sSeq (sSet 1 (gCall (sp__law_draws K) (aCons (gVar 0) aNil)))
    (sSeq (sSet 2 (gCall (sp__law_pair K) (aCons (gVar 1) aNil)))
    (sSeq (sSet 3 (gOp dIx (gVar 2) (gC (.int 0))))
    (sSeq (sSet 4 (gOp dIx (gVar 2) (gC (.int 1))))
    (sSeq (sSet 5 (gFrz (nLst (aCons (gCB dTupleOf (aCons (gVar 3) aNil)) (aCons (gCB dTupleOf (aCons (gVar 4) aNil)) aNil)))))
    (sSeq (sIf (gOr (gNot (gTest (gCall (sp__law_stands K) (aCons (gVar 3) (aCons (gVar 4) (aCons (gCall (sp__law_over K) (aCons (gVar 3) (aCons (gVar 4) aNil))) aNil)))))) (gNot (gTest (gCall (sp__law_stands K) (aCons (gVar 4) (aCons (gVar 3) (aCons (gCall (sp__law_over K) (aCons (gVar 4) (aCons (gVar 3) aNil))) aNil))))))) (sRet (gC (.bl false))) sNext)
    (sSeq (sFor (iSeqD (gFrz (nLst (aCons (gC (.int 1)) (aCons (gOp dAdd (gC (.int 2)) (gCall (sp__law_take K) (aCons (gVar 1) (aCons (gC (.int 8)) aNil)))) aNil))))) (dName 6) (sIf (gNot (gTest (gCall (sp__law_count_right K) (aCons (gVar 3) (aCons (gVar 4) (aCons (gVar 6) aNil)))))) (sRet (gC (.bl false))) sNext))
    (sSeq (sIf (gNot (gTest (gCall (sp__law_rising K) (aCons (gVar 3) (aCons (gVar 4) aNil))))) (sRet (gC (.bl false))) sNext)
    (sSeq (sIf (gNot (gTest (gCall (sp__law_two_right K) (aCons (gVar 3) (aCons (gOp dAdd (gC (.int 1)) (gCall (sp__law_take K) (aCons (gVar 1) (aCons (gC (.int 6)) aNil)))) (aCons (gVar 4) (aCons (gOp dAdd (gC (.int 1)) (gCall (sp__law_take K) (aCons (gVar 1) (aCons (gC (.int 6)) aNil)))) aNil))))))) (sRet (gC (.bl false))) sNext)
    (sRet (gAndV (gCall (sp__law_refuses K) (aCons (gVar 1) (aCons (gVar 3) (aCons (gVar 4) aNil)))) (gOp dEq (gFrz (nLst (aCons (gCB dTupleOf (aCons (gVar 3) aNil)) (aCons (gCB dTupleOf (aCons (gVar 4) aNil)) aNil)))) (gVar 5)))))))))))))
theorem sc_law : FnScope ["_law_script", "_law_drawn", "_law_pair_here", "_law_one", "_law_other", "_law_kept", "_law_count"] ["_law_script"] (defScope s_law) := ⟨rfl, rfl, rfl, by decide +kernel, rfl, by decide +kernel, by decide +kernel⟩
theorem w_law (T : Tx K mg) (C__law_draws : OkD P w K mg base 1 "_law_draws" ["_law_script"] (sp__law_draws K)) (C__law_pair : OkD P w K mg base 4 "_law_pair" ["_law_drawn"] (sp__law_pair K)) (C__law_rising : OkD P w K mg base 7 "_law_rising" ["_law_one", "_law_other"] (sp__law_rising K)) (C__law_two_right : OkD P w K mg base 7 "_law_two_right" ["_law_one", "_law_count", "_law_other", "_law_turns"] (sp__law_two_right K)) (C__law_refuses : OkD P w K mg base 8 "_law_refuses" ["_law_drawn", "_law_one", "_law_other"] (sp__law_refuses K)) (C__law_stands : OkD P w K mg base 6 "_law_stands" ["_law_one", "_law_other", "_law_due"] (sp__law_stands K)) (C__law_take : OkD P w K mg base 1 "_law_take" ["_law_drawn", "_law_many"] (sp__law_take K)) (C__law_count_right : OkD P w K mg base 8 "_law_count_right" ["_law_one", "_law_other", "_law_count"] (sp__law_count_right K)) (C__law_over : OkD P w K mg base 1 "_law_over" ["_law_one", "_law_other"] (sp__law_over K)) (len : ∀ ds M Q E, sp_law K ds M Q E → ds.length = 1)
    (hb : ∀ d0 M Q E, sp_law K [d0] M Q E → g_law K { nx := fun _ M => Q .non M, rt := Q, ex := fun x _ M => E x M } [some d0, none, none, none, none, none, none] M) : OkD P w K mg base 9 "law" ["_law_script"] (sp_law K) := by
  obtain ⟨fd, F⟩ := T.F_law
  refine ⟨fd, dl_def F sc_law (by intro ds M Q E h; exact len ds M Q E h) (g_law K) (by decide) (fun cdv A outer s H E hr => ?_) (fun ds M Q E h => ?_), F.binds fun _ _ _ _ _ _ us hl => match us, hl with | [_], _ => rfl, F.kp, T.g_law, fun_lk F⟩
  · exact
   (fss_cons (fs_set 1 sc_law.nd (fe_callO C__law_draws (hr.mono (by decide)) (takes_of rfl rfl rfl rfl) (fa_cons (fv 0) fa_nil)))
    (fss_cons (fs_set 2 sc_law.nd (fe_callO C__law_pair (hr.mono (by decide)) (takes_of rfl rfl rfl rfl) (fa_cons (fv 1) fa_nil)))
    (fss_cons (fs_set 3 sc_law.nd (fe_ix (xd_ix rfl) (fv 2) fe_int (fun _ _ => rfl)))
    (fss_cons (fs_set 4 sc_law.nd (fe_ix (xd_ix rfl) (fv 2) fe_int (fun _ _ => rfl)))
    (fss_cons (fs_set 5 sc_law.nd (FN.frz (fn_lst (fa_cons (fe_ct (cd_tuple rfl) T.n_tuple bt_tuple (fa_cons (fv 3) fa_nil)) (fa_cons (fe_ct (cd_tuple rfl) T.n_tuple bt_tuple (fa_cons (fv 4) fa_nil)) fa_nil)))))
    (fss_cons (fs_if (FW.ft (fw_or (ft_not (ft_val (fe_callO C__law_stands (hr.mono (by decide)) (takes_of rfl rfl rfl rfl) (fa_cons (fv 3) (fa_cons (fv 4) (fa_cons (fe_callO C__law_over (hr.mono (by decide)) (takes_of rfl rfl rfl rfl) (fa_cons (fv 3) (fa_cons (fv 4) fa_nil))) fa_nil)))))) (fw_or1 (ft_not (ft_val (fe_callO C__law_stands (hr.mono (by decide)) (takes_of rfl rfl rfl rfl) (fa_cons (fv 4) (fa_cons (fv 3) (fa_cons (fe_callO C__law_over (hr.mono (by decide)) (takes_of rfl rfl rfl rfl) (fa_cons (fv 4) (fa_cons (fv 3) fa_nil))) fa_nil))))))))) (fss_one (fs_ret fe_bl)) fss_nil)
    (fss_cons (fs_for (passes_of rfl) rfl (fi_seq rfl (FN.frz (fn_lst (fa_cons fe_int (fa_cons (fe_op (od_add rfl) fe_int (fe_callO C__law_take (hr.mono (by decide)) (takes_of rfl rfl rfl rfl) (fa_cons (fv 1) (fa_cons fe_int fa_nil)))) fa_nil))))) (fg_name (vs := [6]) 6 sc_law.nd) (fss_one (fs_if (ft_not (ft_val (fe_callO C__law_count_right (hr.mono (by decide)) (takes_of rfl rfl rfl rfl) (fa_cons (fv 3) (fa_cons (fv 4) (fa_cons (fv 6) fa_nil)))))) (fss_one (fs_ret fe_bl)) fss_nil)))
    (fss_cons (fs_if (ft_not (ft_val (fe_callO C__law_rising (hr.mono (by decide)) (takes_of rfl rfl rfl rfl) (fa_cons (fv 3) (fa_cons (fv 4) fa_nil))))) (fss_one (fs_ret fe_bl)) fss_nil)
    (fss_cons (fs_if (ft_not (ft_val (fe_callO C__law_two_right (hr.mono (by decide)) (takes_of rfl rfl rfl rfl) (fa_cons (fv 3) (fa_cons (fe_op (od_add rfl) fe_int (fe_callO C__law_take (hr.mono (by decide)) (takes_of rfl rfl rfl rfl) (fa_cons (fv 1) (fa_cons fe_int fa_nil)))) (fa_cons (fv 4) (fa_cons (fe_op (od_add rfl) fe_int (fe_callO C__law_take (hr.mono (by decide)) (takes_of rfl rfl rfl rfl) (fa_cons (fv 1) (fa_cons fe_int fa_nil)))) fa_nil))))))) (fss_one (fs_ret fe_bl)) fss_nil)
    (fss_one (fs_ret (fe_and (fe_callO C__law_refuses (hr.mono (by decide)) (takes_of rfl rfl rfl rfl) (fa_cons (fv 1) (fa_cons (fv 3) (fa_cons (fv 4) fa_nil)))) (fe_one (fe_cmp (od_eq rfl (hu64 hr)) (FN.frz (fn_lst (fa_cons (fe_ct (cd_tuple rfl) T.n_tuple bt_tuple (fa_cons (fv 3) fa_nil)) (fa_cons (fe_ct (cd_tuple rfl) T.n_tuple bt_tuple (fa_cons (fv 4) fa_nil)) fa_nil)))) (fv 5) (nomark _)))))))))))))))
  · match ds, len _ _ _ _ h with
    | [d0], _ => exact hb d0 M Q E h
/-! Greatest_init -/
def g_Greatest_init (K : PySem.W.Frag) : DS :=
  (sSeq (sDrop (gCall (sp_check_within K) (aCons (gVar 1) (aCons (gC (.str "count")) (aCons (gC (.int 1)) (aCons (gC (.int 4000)) aNil))))))
    (sFldD K "count" (gVar 1) (gVar 0)))
theorem sc_Greatest_init : FnScope ["self", "count"] ["self", "count"] (defScope s_Greatest_init) := ⟨rfl, rfl, rfl, by decide +kernel, rfl, by decide +kernel, by decide +kernel⟩
theorem w_Greatest_init (T : Tx K mg) (C_check_within : OkD P w K mg base 3 "check_within" ["value", "name", "low", "high"] (sp_check_within K)) (len : ∀ ds M Q E, sp_Greatest_init K ds M Q E → ds.length = 2)
    (hb : ∀ d0 d1 M Q E, sp_Greatest_init K [d0, d1] M Q E → g_Greatest_init K { nx := fun _ M => Q .non M, rt := Q, ex := fun x _ M => E x M } [some d0, some d1] M) : FnM P w K mg base 4 (He.ma K (He.ga K "Greatest") "__init__") (sp_Greatest_init K) := by
  obtain ⟨fd, F⟩ := T.F_Greatest_init
  refine fnM_of (dl_def F sc_Greatest_init (by intro ds M Q E h; exact len ds M Q E h) (g_Greatest_init K) (by decide) (fun cdv A outer s H E hr => ?_) (fun ds M Q E h => ?_)) (F.binds fun _ _ _ _ _ _ us hl => match us, hl with | [_, _], _ => rfl)
  · exact
   (fss_cons (fs_expr (fe_callO C_check_within (hr.mono (by decide)) (takes_of rfl rfl rfl rfl) (fa_cons (fv 1) (fa_cons fe_str (fa_cons fe_int (fa_cons (fe_glob T.c_MOST_THROWS) fa_nil))))))
    (fss_one (fs_fld (fv 1) (fv 0))))
  · match ds, len _ _ _ _ h with
    | [d0, d1], _ => exact hb d0 d1 M Q E h
/-! Greatest_call -/
def g_Greatest_call (K : PySem.W.Frag) : DS :=
  (sRet (gCall (sp_greatest_die K) (aCons (gVar 1) (aCons (gFld K "count" (gVar 0)) aNil))))
theorem sc_Greatest_call : FnScope ["self", "die"] ["self", "die"] (defScope s_Greatest_call) := ⟨rfl, rfl, rfl, by decide +kernel, rfl, by decide +kernel, by decide +kernel⟩
theorem w_Greatest_call (T : Tx K mg) (C_greatest_die : OkD P w K mg base 5 "greatest_die" ["die", "count"] (sp_greatest_die K)) (len : ∀ ds M Q E, sp_Greatest_call K ds M Q E → ds.length = 2)
    (hb : ∀ d0 d1 M Q E, sp_Greatest_call K [d0, d1] M Q E → g_Greatest_call K { nx := fun _ M => Q .non M, rt := Q, ex := fun x _ M => E x M } [some d0, some d1] M) : FnM P w K mg base 6 (He.ma K (He.ga K "Greatest") "__call__") (sp_Greatest_call K) := by
  obtain ⟨fd, F⟩ := T.F_Greatest_call
  refine fnM_of (dl_def F sc_Greatest_call (by intro ds M Q E h; exact len ds M Q E h) (g_Greatest_call K) (by decide) (fun cdv A outer s H E hr => ?_) (fun ds M Q E h => ?_)) (F.binds fun _ _ _ _ _ _ us hl => match us, hl with | [_, _], _ => rfl)
  · exact
   (fss_one (fs_ret (fe_callO C_greatest_die (hr.mono (by decide)) (takes_of rfl rfl rfl rfl) (fa_cons (fv 1) (fa_cons (fe_fld (fv 0)) fa_nil)))))
  · match ds, len _ _ _ _ h with
    | [d0, d1], _ => exact hb d0 d1 M Q E h
/-! Least_init -/
def g_Least_init (K : PySem.W.Frag) : DS :=
  (sSeq (sDrop (gCall (sp_check_within K) (aCons (gVar 1) (aCons (gC (.str "count")) (aCons (gC (.int 1)) (aCons (gC (.int 4000)) aNil))))))
    (sFldD K "count" (gVar 1) (gVar 0)))
theorem sc_Least_init : FnScope ["self", "count"] ["self", "count"] (defScope s_Least_init) := ⟨rfl, rfl, rfl, by decide +kernel, rfl, by decide +kernel, by decide +kernel⟩
theorem w_Least_init (T : Tx K mg) (C_check_within : OkD P w K mg base 3 "check_within" ["value", "name", "low", "high"] (sp_check_within K)) (len : ∀ ds M Q E, sp_Least_init K ds M Q E → ds.length = 2)
    (hb : ∀ d0 d1 M Q E, sp_Least_init K [d0, d1] M Q E → g_Least_init K { nx := fun _ M => Q .non M, rt := Q, ex := fun x _ M => E x M } [some d0, some d1] M) : FnM P w K mg base 4 (He.ma K (He.ga K "Least") "__init__") (sp_Least_init K) := by
  obtain ⟨fd, F⟩ := T.F_Least_init
  refine fnM_of (dl_def F sc_Least_init (by intro ds M Q E h; exact len ds M Q E h) (g_Least_init K) (by decide) (fun cdv A outer s H E hr => ?_) (fun ds M Q E h => ?_)) (F.binds fun _ _ _ _ _ _ us hl => match us, hl with | [_, _], _ => rfl)
  · exact
   (fss_cons (fs_expr (fe_callO C_check_within (hr.mono (by decide)) (takes_of rfl rfl rfl rfl) (fa_cons (fv 1) (fa_cons fe_str (fa_cons fe_int (fa_cons (fe_glob T.c_MOST_THROWS) fa_nil))))))
    (fss_one (fs_fld (fv 1) (fv 0))))
  · match ds, len _ _ _ _ h with
    | [d0, d1], _ => exact hb d0 d1 M Q E h
/-! Least_call -/
def g_Least_call (K : PySem.W.Frag) : DS :=
  (sRet (gCall (sp_least_die K) (aCons (gVar 1) (aCons (gFld K "count" (gVar 0)) aNil))))
theorem sc_Least_call : FnScope ["self", "die"] ["self", "die"] (defScope s_Least_call) := ⟨rfl, rfl, rfl, by decide +kernel, rfl, by decide +kernel, by decide +kernel⟩
theorem w_Least_call (T : Tx K mg) (C_least_die : OkD P w K mg base 6 "least_die" ["die", "count"] (sp_least_die K)) (len : ∀ ds M Q E, sp_Least_call K ds M Q E → ds.length = 2)
    (hb : ∀ d0 d1 M Q E, sp_Least_call K [d0, d1] M Q E → g_Least_call K { nx := fun _ M => Q .non M, rt := Q, ex := fun x _ M => E x M } [some d0, some d1] M) : FnM P w K mg base 7 (He.ma K (He.ga K "Least") "__call__") (sp_Least_call K) := by
  obtain ⟨fd, F⟩ := T.F_Least_call
  refine fnM_of (dl_def F sc_Least_call (by intro ds M Q E h; exact len ds M Q E h) (g_Least_call K) (by decide) (fun cdv A outer s H E hr => ?_) (fun ds M Q E h => ?_)) (F.binds fun _ _ _ _ _ _ us hl => match us, hl with | [_, _], _ => rfl)
  · exact
   (fss_one (fs_ret (fe_callO C_least_die (hr.mono (by decide)) (takes_of rfl rfl rfl rfl) (fa_cons (fv 1) (fa_cons (fe_fld (fv 0)) fa_nil)))))
  · match ds, len _ _ _ _ h with
    | [d0, d1], _ => exact hb d0 d1 M Q E h
end
end LW

namespace LW
open PySem PySem.Spec PyProof.Rows L2 DL
/-! plain law: sums -/
theorem S1_zero (f : Nat → Int) : S1 0 f = 0 := rfl
theorem S1_succ (n : Nat) (f : Nat → Int) : S1 (n + 1) f = S1 n f + f n := by
  unfold S1
  rw [List.range_succ, List.map_append, List.sum_append]
  simp
theorem S1_congr {n : Nat} {f g : Nat → Int} (h : ∀ x, x < n → f x = g x) : S1 n f = S1 n g := by
  induction n with
  | zero => rfl
  | succ n ih => rw [S1_succ, S1_succ, ih fun x hx => h x (by omega), h n (by omega)]
theorem S1_add (n : Nat) (f g : Nat → Int) : S1 n (fun x => f x + g x) = S1 n f + S1 n g := by
  induction n with
  | zero => rfl
  | succ n ih => rw [S1_succ, S1_succ, S1_succ, ih]; omega
theorem S1_mul (n : Nat) (c : Int) (f : Nat → Int) : S1 n (fun x => c * f x) = c * S1 n f := by
  induction n with
  | zero => rw [S1_zero, S1_zero, Int.mul_zero]
  | succ n ih => rw [S1_succ, S1_succ, ih, Int.mul_add]
theorem pre_zero (l : List Int) : pre l 0 = 0 := rfl
theorem pre_succ (l : List Int) (i : Nat) : pre l (i + 1) = pre l i + l.getD i 0 := by
  unfold pre
  rw [List.take_succ, List.sum_append, List.getD_eq_getElem?_getD]
  cases l[i]? <;> simp
theorem pre_all (l : List Int) {n : Nat} (h : l.length ≤ n) : pre l n = l.sum := by
  unfold pre
  rw [List.take_of_length_le h]
theorem sum_S1 (l : List Int) : l.sum = S1 l.length fun i => l.getD i 0 := by
  have key : ∀ n, pre l n = S1 n fun i => l.getD i 0 := fun n => by
    induction n with
    | zero => rfl
    | succ n ih => rw [pre_succ, S1_succ, ih]
  rw [← key, pre_all l (Nat.le_refl _)]
/-- all pairs: above, level, below -/
theorem all_pairs (a b : List Int) (n : Nat) : (S1 n fun i => a.getD i 0 * pre b i) + (S1 n fun i => a.getD i 0 * b.getD i 0) + (S1 n fun i => b.getD i 0 * pre a i) = pre a n * pre b n := by
  induction n with
  | zero => rw [S1_zero, S1_zero, S1_zero, pre_zero, Int.zero_mul]; rfl
  | succ n ih =>
    rw [S1_succ, S1_succ, S1_succ, pre_succ, pre_succ, Int.add_mul, Int.mul_add, Int.mul_add, ← ih, Int.mul_comm (pre a n) (b.getD n 0)]
    omega
theorem whole {a b : List Int} (h : a.length = b.length) : winsI a b + tiesI a b + winsI b a = a.sum * b.sum := by
  have := all_pairs a b a.length
  rw [pre_all a (Nat.le_refl _), pre_all b (by omega)] at this
  unfold winsI tiesI
  rw [← h]
  exact this
theorem ties_comm {a b : List Int} (h : a.length = b.length) : tiesI a b = tiesI b a := by
  unfold tiesI
  rw [h]
  exact S1_congr fun x _ => Int.mul_comm _ _
/-- the gap's worth -/
def gW (b : List Int) (i : Nat) : Int := pre b i + pre b (i + 1) - b.sum
theorem lead_gW {a b : List Int} (h : a.length = b.length) : leadI a b = S1 a.length fun i => a.getD i 0 * gW b i := by
  have w := whole h
  have e : (S1 a.length fun i => a.getD i 0 * gW b i) = 2 * winsI a b + tiesI a b - a.sum * b.sum := by
    have e1 : (S1 a.length fun i => a.getD i 0 * gW b i) = (S1 a.length fun i => 2 * (a.getD i 0 * pre b i)) + (S1 a.length fun i => a.getD i 0 * b.getD i 0) + S1 a.length fun i => (-b.sum) * a.getD i 0 := by
      rw [← S1_add, ← S1_add]
      refine S1_congr fun x _ => ?_
      unfold gW
      rw [pre_succ]
      have : a.getD x 0 * (pre b x + (pre b x + b.getD x 0) - b.sum) = a.getD x 0 * pre b x + (a.getD x 0 * pre b x + a.getD x 0 * b.getD x 0) - a.getD x 0 * b.sum := by
        rw [Int.mul_sub, Int.mul_add, Int.mul_add]
      rw [this, Int.neg_mul, Int.mul_comm b.sum]
      omega
    rw [e1, S1_mul, S1_mul, ← sum_S1]
    unfold winsI tiesI
    rw [Int.neg_mul, Int.mul_comm b.sum]
    omega
  rw [e]
  unfold leadI
  omega
theorem lead_neg (a b : List Int) : leadI b a = - leadI a b := by unfold leadI; omega
/-! leads of changed dice -/
theorem getD_map (l : List Int) (f : Int → Int) (hf : f 0 = 0) (i : Nat) : (l.map f).getD i 0 = f (l.getD i 0) := by
  rw [List.getD_eq_getElem?_getD, List.getD_eq_getElem?_getD, List.getElem?_map]
  cases l[i]? with
  | none => exact hf.symm
  | some x => rfl
theorem pre_map (l : List Int) (c : Int) (i : Nat) : pre (l.map fun x => c * x) i = c * pre l i := by
  induction i with
  | zero => rw [pre_zero, pre_zero, Int.mul_zero]
  | succ i ih => rw [pre_succ, pre_succ, ih, getD_map _ (fun x => c * x) (Int.mul_zero c), Int.mul_add]
theorem sum_map (l : List Int) (c : Int) : (l.map fun x => c * x).sum = c * l.sum := by
  have := pre_map l c l.length
  rw [pre_all _ (by simp), pre_all _ (Nat.le_refl _)] at this
  exact this
theorem wins_map (a b : List Int) (c d : Int) : winsI (a.map fun x => c * x) (b.map fun x => d * x) = c * d * winsI a b := by
  unfold winsI
  rw [List.length_map, ← S1_mul]
  refine S1_congr fun x _ => ?_
  rw [pre_map, getD_map _ (fun x => c * x) (Int.mul_zero c)]
  rw [Int.mul_assoc, Int.mul_assoc]
  congr 1
  rw [← Int.mul_assoc, Int.mul_comm (a.getD x 0) d, Int.mul_assoc]
theorem lead_map (a b : List Int) (c d : Int) : leadI (a.map fun x => c * x) (b.map fun x => d * x) = c * d * leadI a b := by
  unfold leadI
  rw [wins_map, wins_map, Int.mul_comm d c, Int.mul_sub]
theorem map_one (a : List Int) : (a.map fun x => 1 * x) = a := by simp
theorem lead_self (a : List Int) : leadI a a = 0 := by unfold leadI; omega
theorem lead_times (a : List Int) (c : Int) : leadI a (a.map fun x => c * x) = 0 := by
  have := lead_map a a 1 c
  rw [map_one, lead_self, Int.mul_zero] at this
  exact this
theorem S1_set {l : List Int} {n r : Nat} (hr : r < l.length) (v : Int) (g : Nat → Int) : (S1 n fun i => (l.set r v).getD i 0 * g i) = (S1 n fun i => l.getD i 0 * g i) + if r < n then (v - l.getD r 0) * g r else 0 := by
  induction n with
  | zero => rfl
  | succ n ih =>
    rw [S1_succ, S1_succ, ih]
    have e : (l.set r v).getD n 0 = if r = n then v else l.getD n 0 := by
      rw [List.getD_eq_getElem?_getD, List.getD_eq_getElem?_getD, List.getElem?_set]
      by_cases c : r = n
      · subst c
        rw [if_pos rfl, if_pos hr, if_pos rfl]
        rfl
      · rw [if_neg c, if_neg c]
    rw [e]
    by_cases c : r = n
    · subst c
      rw [if_pos rfl, if_neg (by omega), if_pos (by omega), Int.sub_mul]
      omega
    · rw [if_neg c]
      by_cases c2 : r < n
      · rw [if_pos c2, if_pos (by omega)]
        omega
      · rw [if_neg c2, if_neg (by omega)]
        omega
theorem getD_set {l : List Int} {r i : Nat} {v : Int} (hr : r < l.length) : (l.set r v).getD i 0 = if r = i then v else l.getD i 0 := by
  rw [List.getD_eq_getElem?_getD, List.getD_eq_getElem?_getD, List.getElem?_set]
  by_cases c : r = i
  · subst c
    rw [if_pos rfl, if_pos hr, if_pos rfl]
    rfl
  · rw [if_neg c, if_neg c]
/-! plain law: sizes of numbers -/
theorem nb_mono {n m : Nat} {x : Int} (h : nb n x) (l : n ≤ m) : nb m x := Nat.lt_of_lt_of_le h (Nat.pow_le_pow_right (by decide) l)
theorem nb_mul {a b : Nat} {x y : Int} (hx : nb a x) (hy : nb b y) : nb (a + b) (x * y) := by
  unfold nb at *
  rw [Int.natAbs_mul, Nat.pow_add]
  exact Nat.mul_lt_mul'' hx hy
theorem nb_add {n : Nat} {x y : Int} (hx : nb n x) (hy : nb n y) : nb (n + 1) (x + y) := by
  unfold nb at *
  have := Int.natAbs_add_le x y
  rw [Nat.pow_succ]
  omega
theorem nb_neg {n : Nat} {x : Int} (h : nb n x) : nb n (-x) := by
  unfold nb at *
  rw [Int.natAbs_neg]
  exact h
theorem nb_sub {n : Nat} {x y : Int} (hx : nb n x) (hy : nb n y) : nb (n + 1) (x - y) := nb_add hx (nb_neg hy)
theorem nb_zero (n : Nat) : nb n 0 := Nat.two_pow_pos n
theorem nb_S1 {n k m : Nat} {f : Nat → Int} (h : ∀ i, i < m → nb n (f i)) (hk : m ≤ 2 ^ k) : nb (n + k) (S1 m f) := by
  have key : ∀ j, j ≤ m → (S1 j f).natAbs + j ≤ j * 2 ^ n := fun j hj => by
    induction j with
    | zero => rw [S1_zero]; simp
    | succ j ih =>
      have := ih (by omega)
      have h1 := h j (by omega)
      have h2 := Int.natAbs_add_le (S1 j f) (f j)
      unfold nb at h1
      rw [S1_succ, Nat.succ_mul]
      omega
  have := key m (Nat.le_refl _)
  unfold nb
  by_cases z : m = 0
  · subst z
    rw [S1_zero]
    exact Nat.two_pow_pos _
  · rw [Nat.pow_add, Nat.mul_comm]
    have h2 := Nat.mul_le_mul_right (2 ^ n) hk
    omega
theorem nb_getD {n : Nat} {l : List Int} (h : ∀ x ∈ l, nb n x) (i : Nat) : nb n (l.getD i 0) := by
  rw [List.getD_eq_getElem?_getD]
  cases e : l[i]? with
  | none => exact nb_zero n
  | some x => exact h x (List.mem_of_getElem? e)
theorem nb_pre {n : Nat} {l : List Int} (h : ∀ x ∈ l, nb n x) {i : Nat} (hi : i ≤ 1024) : nb (n + 10) (pre l i) := by
  have e : pre l i = S1 i fun j => l.getD j 0 := by
    induction i with
    | zero => rfl
    | succ i ih => rw [pre_succ, S1_succ, ih (by omega)]
  rw [e]
  exact nb_S1 (fun j _ => nb_getD h j) hi
theorem nb_sum {n : Nat} {l : List Int} (h : ∀ x ∈ l, nb n x) (hl : l.length ≤ 1024) : nb (n + 10) l.sum := by
  have := nb_pre h hl
  rw [pre_all l (Nat.le_refl _)] at this
  exact this
theorem log_nb {n : Nat} {x : Int} (h : nb n x) : x.natAbs.log2 ≤ n := by
  by_cases z : x.natAbs = 0
  · rw [z]
    exact Nat.zero_le _
  · exact Nat.le_of_lt ((Nat.log2_lt z).mpr h)
theorem cmul {a b : Nat} {x y : Int} (hx : nb a x) (hy : nb b y) (h : a + b < 1000000 := by omega) : CMulW x y := by
  unfold CMulW
  have := log_nb hx
  have := log_nb hy
  omega
theorem cdiv {n : Nat} {x y : Int} (h0 : 0 < y) (hy : nb n y) (h : n < 9000 := by omega) : CDivW x y := ⟨h0, Nat.lt_of_le_of_lt (log_nb hy) h⟩
/-! gcd -/
theorem gcdL_snoc (l : List Int) (a : Int) : gcdL (l ++ [a]) = Nat.gcd (gcdL l) a.natAbs := by
  unfold gcdL
  rw [List.foldl_append]
  rfl
theorem gcdL_two (t b : Int) : gcdL [t, b] = Int.gcd t b := by
  show Nat.gcd (Nat.gcd 0 t.natAbs) b.natAbs = _
  rw [Nat.gcd_zero_left]
  rfl
theorem fold_dvd : ∀ (l : List Int) (g : Nat), (l.foldl (fun g a => Nat.gcd g a.natAbs) g ∣ g) ∧ ∀ a ∈ l, l.foldl (fun g a => Nat.gcd g a.natAbs) g ∣ a.natAbs
  | [], g => ⟨Nat.dvd_refl _, fun _ h => nomatch h⟩
  | x :: l, g => by
    obtain ⟨h1, h2⟩ := fold_dvd l (Nat.gcd g x.natAbs)
    rw [List.foldl_cons]
    refine ⟨Nat.dvd_trans h1 (Nat.gcd_dvd_left _ _), fun a ha => ?_⟩
    rcases List.mem_cons.mp ha with rfl | ha
    · exact Nat.dvd_trans h1 (Nat.gcd_dvd_right _ _)
    · exact h2 a ha
theorem gcdL_dvd {l : List Int} {a : Int} (h : a ∈ l) : (gcdL l : Int) ∣ a := Int.ofNat_dvd_left.mpr ((fold_dvd l 0).2 a h)
theorem gcdL_pos {l : List Int} {a : Int} (h : a ∈ l) (ha : a ≠ 0) : 0 < gcdL l := by
  rcases Nat.eq_zero_or_pos (gcdL l) with z | z
  · have := gcdL_dvd h
    rw [z] at this
    exact absurd (Int.zero_dvd.mp this) ha
  · exact z
/-! lowest terms -/
theorem g_pos {t b : Int} (h : 0 < b) : 0 < Int.gcd t b := Int.gcd_pos_of_ne_zero_right _ (by omega)
theorem lo_top (t b : Int) : (lo t b).1 * (Int.gcd t b : Int) = t := Int.ediv_mul_cancel (Int.gcd_dvd_left ..)
theorem lo_bot (t b : Int) : (lo t b).2 * (Int.gcd t b : Int) = b := Int.ediv_mul_cancel (Int.gcd_dvd_right ..)
theorem lo_pos {t b : Int} (h : 0 < b) : 0 < (lo t b).2 := by
  have e := lo_bot t b
  have g : (0 : Int) < (Int.gcd t b : Int) := by have := g_pos (t := t) h; omega
  exact Int.pos_of_mul_pos_left (by rw [e]; exact h) g
theorem lo_cross (t b : Int) : (lo t b).1 * b = t * (lo t b).2 := by
  have e1 := lo_top t b
  have e2 := lo_bot t b
  calc (lo t b).1 * b = (lo t b).1 * ((lo t b).2 * (Int.gcd t b : Int)) := by rw [e2]
    _ = (lo t b).1 * (Int.gcd t b : Int) * (lo t b).2 := by rw [Int.mul_comm (lo t b).2, Int.mul_assoc]
    _ = t * (lo t b).2 := by rw [e1]
theorem lo_gcd {t b : Int} (h : 0 < b) : Int.gcd (lo t b).1 (lo t b).2 = 1 := by
  have g := g_pos (t := t) h
  have e : Int.gcd ((lo t b).1 * (Int.gcd t b : Int)) ((lo t b).2 * (Int.gcd t b : Int)) = Int.gcd t b := by rw [lo_top, lo_bot]
  rw [Int.gcd_mul_right] at e
  have e2 : ((Int.gcd t b : Nat) : Int).natAbs = Int.gcd t b := Int.natAbs_natCast _
  rw [e2] at e
  exact Nat.eq_of_mul_eq_mul_right g (by rw [e, Nat.one_mul])
theorem cop_uniq {u v u' v' : Int} (h : 0 < v) (h' : 0 < v') (c : Int.gcd u v = 1) (c' : Int.gcd u' v' = 1) (e : u * v' = u' * v) : u = u' ∧ v = v' := by
  have d1 : v.natAbs ∣ v'.natAbs := by
    have : v ∣ u * v' := by rw [e]; exact Int.dvd_mul_left _ _
    have := Int.natAbs_dvd_natAbs.mpr this
    rw [Int.natAbs_mul] at this
    exact Nat.Coprime.dvd_of_dvd_mul_left (Nat.coprime_comm.mp c) this
  have d2 : v'.natAbs ∣ v.natAbs := by
    have : v' ∣ u' * v := by rw [← e]; exact Int.dvd_mul_left _ _
    have := Int.natAbs_dvd_natAbs.mpr this
    rw [Int.natAbs_mul] at this
    exact Nat.Coprime.dvd_of_dvd_mul_left (Nat.coprime_comm.mp c') this
  have e1 := Nat.dvd_antisymm d1 d2
  have e2 : v = v' := by omega
  subst e2
  exact ⟨Int.eq_of_mul_eq_mul_right (by omega) e, rfl⟩
theorem lo_uniq {t b t' b' : Int} (h : 0 < b) (h' : 0 < b') (e : t * b' = t' * b) : lo t b = lo t' b' := by
  have c1 := lo_cross t b
  have c2 := lo_cross t' b'
  have key : (lo t b).1 * (lo t' b').2 = (lo t' b').1 * (lo t b).2 := by
    have z : b * b' ≠ 0 := Int.ne_of_gt (Int.mul_pos h h')
    refine Int.eq_of_mul_eq_mul_right z ?_
    calc (lo t b).1 * (lo t' b').2 * (b * b') = ((lo t b).1 * b) * ((lo t' b').2 * b') := by rw [Int.mul_assoc, Int.mul_assoc, Int.mul_left_comm (lo t' b').2]
      _ = (t * (lo t b).2) * ((lo t' b').2 * b') := by rw [c1]
      _ = (t * b') * ((lo t b).2 * (lo t' b').2) := by rw [Int.mul_assoc, Int.mul_assoc, Int.mul_comm (lo t' b').2 b', Int.mul_left_comm (lo t b).2]
      _ = (t' * b) * ((lo t b).2 * (lo t' b').2) := by rw [e]
      _ = (t' * (lo t' b').2) * ((lo t b).2 * b) := by rw [Int.mul_assoc, Int.mul_assoc, Int.mul_comm (lo t b).2 b, Int.mul_left_comm (lo t' b').2, Int.mul_comm (lo t b).2 (lo t' b').2]
      _ = ((lo t' b').1 * b') * ((lo t b).2 * b) := by rw [c2]
      _ = (lo t' b').1 * (lo t b).2 * (b * b') := by rw [Int.mul_assoc, Int.mul_assoc, Int.mul_left_comm b', Int.mul_comm b' b]
  obtain ⟨k1, k2⟩ := cop_uniq (lo_pos h) (lo_pos h') (lo_gcd h) (lo_gcd h') key
  exact Prod.ext k1 k2
theorem lo_one (t : Int) : lo t 1 = (t, 1) := by
  unfold lo
  rw [Int.gcd_one]
  simp
theorem lo_self {t b : Int} (h : Int.gcd t b = 1) : lo t b = (t, b) := by
  unfold lo
  rw [h]
  simp
theorem lo_lo {t b : Int} (h : 0 < b) : lo (lo t b).1 (lo t b).2 = lo t b := lo_self (lo_gcd h)
theorem abs_le_mul {x g : Int} (h : 0 < g) : x.natAbs ≤ (x * g).natAbs := by
  rw [Int.natAbs_mul]
  exact Nat.le_mul_of_pos_right _ (by omega)
theorem lo_nb1 {n : Nat} {t b : Int} (h : 0 < b) (ht : nb n t) : nb n (lo t b).1 := by
  have g : (0 : Int) < (Int.gcd t b : Int) := by have := g_pos (t := t) h; omega
  have := abs_le_mul (x := (lo t b).1) g
  rw [lo_top] at this
  exact Nat.lt_of_le_of_lt this ht
theorem lo_nb2 {n : Nat} {t b : Int} (h : 0 < b) (hb : nb n b) : nb n (lo t b).2 := by
  have g : (0 : Int) < (Int.gcd t b : Int) := by have := g_pos (t := t) h; omega
  have := abs_le_mul (x := (lo t b).2) g
  rw [lo_bot] at this
  exact Nat.lt_of_le_of_lt this hb
theorem frD_uniq {t b t' b' : Int} (h : 0 < b) (h' : 0 < b') (e : t * b' = t' * b) : frD t b = frD t' b' := by
  unfold frD
  rw [lo_uniq h h' e]
end LW

namespace LW
open PySem PySem.Spec PyProof.Rows L2 DL
section
variable {K : PySem.W.Frag}
theorem b_is_int : ∀ d0 M Q E, sp_is_int K [d0] M Q E → g_is_int K { nx := fun _ M => Q .non M, rt := Q, ex := fun x _ M => E x M } [some d0] M := by
  rintro d0 M Q E ⟨k, h, q⟩
  unfold g_is_int
  (try dsimp only [q_op, q_un, q_var, q_c, q_nil, q_cons, q_tup, q_frz, q_cel, q_lst, q_test, q_onB, q_and, q_or, q_not, q_andV, q_orV, q_notV, q_if, q_chain, q_next, q_seq, q_drop, q_ret, q_retF, q_retN, q_sif, q_break, q_cont, q_name, q_dnil, q_dcons, q_dtup, q_asg, q_set, q_par, q_for, q_range1, q_range2, q_iseq, q_ienum, q_call, q_cb, q_ncb, q_nop, q_lenset, q_mt, q_mt0, q_setix, q_augs, q_aug, q_nsl, q_onone, q_osome, q_gsl, q_raise, q_raiseF, q_try, q_lc, q_lc2, q_yes, q_wipe0, q_wipe, q_xf, q_I, q_I0, q_U, q_add, q_addT, q_addL, q_addR, q_onL, q_onSt, q_onSl, q_onSs, q_onSrct, q_onSrcl, q_eqI, q_eqB, q_eqS, q_eqN, q_isN, q_ix, q_ixL, q_in, q_len, q_sum, q_max, q_min, q_max2, q_min2, q_abs, q_int, q_intB, q_tupof, q_lstof, q_sort, q_rep, q_cat, q_isi, q_isis, q_setat, q_onC, q_append, q_pop, q_popAt, q_reverse, q_insert, q_sp1, q_sp2, q_sp3, q_sp4, q_at0, q_atS, q_st0, q_stS, q_iteT, q_iteF, q_isB, q_sumS, q_all, q_any, q_repT, q_spV, q_nLcX, q_sFz, q_gFld, q_sFldD, q_gMake, q_gCallI, q_gMeth, q_gRev])
  refine ⟨k, _, h, rfl, ?_⟩
  (try dsimp only [q_op, q_un, q_var, q_c, q_nil, q_cons, q_tup, q_frz, q_cel, q_lst, q_test, q_onB, q_and, q_or, q_not, q_andV, q_orV, q_notV, q_if, q_chain, q_next, q_seq, q_drop, q_ret, q_retF, q_retN, q_sif, q_break, q_cont, q_name, q_dnil, q_dcons, q_dtup, q_asg, q_set, q_par, q_for, q_range1, q_range2, q_iseq, q_ienum, q_call, q_cb, q_ncb, q_nop, q_lenset, q_mt, q_mt0, q_setix, q_augs, q_aug, q_nsl, q_onone, q_osome, q_gsl, q_raise, q_raiseF, q_try, q_lc, q_lc2, q_yes, q_wipe0, q_wipe, q_xf, q_I, q_I0, q_U, q_add, q_addT, q_addL, q_addR, q_onL, q_onSt, q_onSl, q_onSs, q_onSrct, q_onSrcl, q_eqI, q_eqB, q_eqS, q_eqN, q_isN, q_ix, q_ixL, q_in, q_len, q_sum, q_max, q_min, q_max2, q_min2, q_abs, q_int, q_intB, q_tupof, q_lstof, q_sort, q_rep, q_cat, q_isi, q_isis, q_setat, q_onC, q_append, q_pop, q_popAt, q_reverse, q_insert, q_sp1, q_sp2, q_sp3, q_sp4, q_at0, q_atS, q_st0, q_stS, q_iteT, q_iteF, q_isB, q_sumS, q_all, q_any, q_repT, q_spV, q_nLcX, q_sFz, q_gFld, q_sFldD, q_gMake, q_gCallI, q_gMeth, q_gRev])
  cases k
  all_goals first
    | (rw [if_neg (by decide)]; exact q)
    | (rw [if_pos (by decide)]; exact ⟨_, _, h, rfl, q⟩)
theorem b__law_int : ∀ d0 M Q E, sp__law_int K [d0] M Q E → g__law_int K { nx := fun _ M => Q .non M, rt := Q, ex := fun x _ M => E x M } [some d0] M := b_is_int (K := K)
theorem b_is_row : ∀ d0 M Q E, sp_is_row K [d0] M Q E → g_is_row K { nx := fun _ M => Q .non M, rt := Q, ex := fun x _ M => E x M } [some d0] M := by
  rintro d0 M Q E ⟨k, h, q⟩
  refine ⟨by show 2 ≤ sizeLine; decide, k, _, h, ?_, ⟨["list", "tuple"], rfl⟩, q⟩
  cases k <;> decide +kernel
theorem b__law_take : ∀ d0 d1 M Q E, sp__law_take K [d0, d1] M Q E → g__law_take K { nx := fun _ M => Q .non M, rt := Q, ex := fun x _ M => E x M } [some d0, some d1] M := by
  rintro d0 d1 M Q E ⟨p, n, rfl, rfl, hn, ⟨xs, hM⟩, q⟩
  unfold g__law_take
  (try dsimp only [q_op, q_un, q_var, q_c, q_nil, q_cons, q_tup, q_frz, q_cel, q_lst, q_test, q_onB, q_and, q_or, q_not, q_andV, q_orV, q_notV, q_if, q_chain, q_next, q_seq, q_drop, q_ret, q_retF, q_retN, q_sif, q_break, q_cont, q_name, q_dnil, q_dcons, q_dtup, q_asg, q_set, q_par, q_for, q_range1, q_range2, q_iseq, q_ienum, q_call, q_cb, q_ncb, q_nop, q_lenset, q_mt, q_mt0, q_setix, q_augs, q_aug, q_nsl, q_onone, q_osome, q_gsl, q_raise, q_raiseF, q_try, q_lc, q_lc2, q_yes, q_wipe0, q_wipe, q_xf, q_I, q_I0, q_U, q_add, q_addT, q_addL, q_addR, q_onL, q_onSt, q_onSl, q_onSs, q_onSrct, q_onSrcl, q_eqI, q_eqB, q_eqS, q_eqN, q_isN, q_ix, q_ixL, q_in, q_len, q_sum, q_max, q_min, q_max2, q_min2, q_abs, q_int, q_intB, q_tupof, q_lstof, q_sort, q_rep, q_cat, q_isi, q_isis, q_setat, q_onC, q_append, q_pop, q_popAt, q_reverse, q_insert, q_sp1, q_sp2, q_sp3, q_sp4, q_at0, q_atS, q_st0, q_stS, q_iteT, q_iteF, q_isB, q_sumS, q_all, q_any, q_repT, q_spV, q_nLcX, q_sFz, q_gFld, q_sFldD, q_gMake, q_gCallI, q_gMeth, q_gRev])
  refine RowD.onS (RowD.ref hM) ?_
  (try dsimp only [q_op, q_un, q_var, q_c, q_nil, q_cons, q_tup, q_frz, q_cel, q_lst, q_test, q_onB, q_and, q_or, q_not, q_andV, q_orV, q_notV, q_if, q_chain, q_next, q_seq, q_drop, q_ret, q_retF, q_retN, q_sif, q_break, q_cont, q_name, q_dnil, q_dcons, q_dtup, q_asg, q_set, q_par, q_for, q_range1, q_range2, q_iseq, q_ienum, q_call, q_cb, q_ncb, q_nop, q_lenset, q_mt, q_mt0, q_setix, q_augs, q_aug, q_nsl, q_onone, q_osome, q_gsl, q_raise, q_raiseF, q_try, q_lc, q_lc2, q_yes, q_wipe0, q_wipe, q_xf, q_I, q_I0, q_U, q_add, q_addT, q_addL, q_addR, q_onL, q_onSt, q_onSl, q_onSs, q_onSrct, q_onSrcl, q_eqI, q_eqB, q_eqS, q_eqN, q_isN, q_ix, q_ixL, q_in, q_len, q_sum, q_max, q_min, q_max2, q_min2, q_abs, q_int, q_intB, q_tupof, q_lstof, q_sort, q_rep, q_cat, q_isi, q_isis, q_setat, q_onC, q_append, q_pop, q_popAt, q_reverse, q_insert, q_sp1, q_sp2, q_sp3, q_sp4, q_at0, q_atS, q_st0, q_stS, q_iteT, q_iteF, q_isB, q_sumS, q_all, q_any, q_repT, q_spV, q_nLcX, q_sFz, q_gFld, q_sFldD, q_gMake, q_gCallI, q_gMeth, q_gRev])
  by_cases h : xs = []
  · subst h
    rw [if_pos (by decide)]
    have := q 0 [] (by omega) hn
    rw [mset_id hM] at this
    exact this
  · have hl : 0 < xs.length := List.length_pos_iff.mpr h
    rw [if_neg (by simp; omega)]
    refine ⟨onL_ref hM trivial, _, hM, .int (xs.getD (xs.length - 1) 0), ?_, ?_⟩
    · simp [List.getD, show xs.length - 1 < xs.length by omega]
    · (try dsimp only [q_op, q_un, q_var, q_c, q_nil, q_cons, q_tup, q_frz, q_cel, q_lst, q_test, q_onB, q_and, q_or, q_not, q_andV, q_orV, q_notV, q_if, q_chain, q_next, q_seq, q_drop, q_ret, q_retF, q_retN, q_sif, q_break, q_cont, q_name, q_dnil, q_dcons, q_dtup, q_asg, q_set, q_par, q_for, q_range1, q_range2, q_iseq, q_ienum, q_call, q_cb, q_ncb, q_nop, q_lenset, q_mt, q_mt0, q_setix, q_augs, q_aug, q_nsl, q_onone, q_osome, q_gsl, q_raise, q_raiseF, q_try, q_lc, q_lc2, q_yes, q_wipe0, q_wipe, q_xf, q_I, q_I0, q_U, q_add, q_addT, q_addL, q_addR, q_onL, q_onSt, q_onSl, q_onSs, q_onSrct, q_onSrcl, q_eqI, q_eqB, q_eqS, q_eqN, q_isN, q_ix, q_ixL, q_in, q_len, q_sum, q_max, q_min, q_max2, q_min2, q_abs, q_int, q_intB, q_tupof, q_lstof, q_sort, q_rep, q_cat, q_isi, q_isis, q_setat, q_onC, q_append, q_pop, q_popAt, q_reverse, q_insert, q_sp1, q_sp2, q_sp3, q_sp4, q_at0, q_atS, q_st0, q_stS, q_iteT, q_iteF, q_isB, q_sumS, q_all, q_any, q_repT, q_spV, q_nLcX, q_sFz, q_gFld, q_sFldD, q_gMake, q_gCallI, q_gMeth, q_gRev])
      refine ⟨hn, ?_⟩
      have e : (iD xs).dropLast = iD xs.dropLast := by
        rw [List.dropLast_eq_take, List.dropLast_eq_take]
        simp [List.map_take]
      rw [e]
      exact q _ _ (Int.emod_nonneg _ (by omega)) (Int.emod_lt_of_pos _ hn)
theorem kind_kd {M : Mem} {d : D} (h : kindB d = true) : ∃ k, kdOf M d = some k ∧ ((k == .int) = true ↔ ∃ i, d = .int i) := by
  cases d <;> first
    | (cases h; done)
    | exact ⟨_, rfl, by constructor <;> (intro z; first | (cases z; done) | (obtain ⟨_, z⟩ := z; cases z; done) | rfl | exact ⟨_, rfl⟩)⟩
theorem if_f {c : Bool} {A B : Prop} (h : c = false) (b : B) : if c = true then A else B := by rw [h, if_neg Bool.false_ne_true]; exact b
theorem if_t {c : Bool} {A B : Prop} (h : c = true) (a : A) : if c = true then A else B := by rw [h, if_pos rfl]; exact a
theorem and_skip {c : Bool} {A B R : Prop} (hR : R) (h1 : c = true → R → A) (h2 : R → B) : if c = true then A else B := by
  cases c
  · rw [if_neg Bool.false_ne_true]; exact h2 hR
  · rw [if_pos rfl]; exact h1 rfl hR
theorem b_check_within : ∀ d0 d1 d2 d3 M Q E, sp_check_within K [d0, d1, d2, d3] M Q E → g_check_within K { nx := fun _ M => Q .non M, rt := Q, ex := fun x _ M => E x M } [some d0, some d1, some d2, some d3] M := by
  rintro d0 d1 d2 d3 M Q E ⟨nm, a, b, rfl, rfl, rfl, h⟩
  unfold g_check_within
  dsimp only [q_op, q_un, q_var, q_c, q_nil, q_cons, q_tup, q_frz, q_cel, q_lst, q_test, q_onB, q_and, q_or, q_not, q_andV, q_orV, q_notV, q_if, q_chain, q_next, q_seq, q_drop, q_ret, q_retF, q_retN, q_sif, q_break, q_cont, q_name, q_dnil, q_dcons, q_dtup, q_asg, q_set, q_par, q_for, q_range1, q_range2, q_iseq, q_ienum, q_call, q_cb, q_ncb, q_nop, q_lenset, q_mt, q_mt0, q_setix, q_augs, q_aug, q_nsl, q_onone, q_osome, q_gsl, q_raise, q_raiseF, q_try, q_lc, q_lc2, q_yes, q_wipe0, q_wipe, q_xf, q_I, q_I0, q_U, q_add, q_addT, q_addL, q_addR, q_onL, q_onSt, q_onSl, q_onSs, q_onSrct, q_onSrcl, q_eqI, q_eqB, q_eqS, q_eqN, q_isN, q_ix, q_ixL, q_in, q_len, q_sum, q_max, q_min, q_max2, q_min2, q_abs, q_int, q_intB, q_tupof, q_lstof, q_sort, q_rep, q_cat, q_isi, q_isis, q_setat, q_onC, q_append, q_pop, q_popAt, q_reverse, q_insert, q_sp1, q_sp2, q_sp3, q_sp4, q_at0, q_atS, q_st0, q_stS, q_iteT, q_iteF, q_isB, q_sumS, q_all, q_any, q_repT, q_spV, q_nLcX, q_sFz, q_gFld, q_sFldD, q_gMake, q_gCallI, q_gMeth, q_gRev, sp_is_int]
  rcases h with ⟨i, rfl, hi, hi2, q⟩ | ⟨hk, hn, q⟩
  · refine ⟨.int, rfl, ?_⟩
    (try dsimp only [q_op, q_un, q_var, q_c, q_nil, q_cons, q_tup, q_frz, q_cel, q_lst, q_test, q_onB, q_and, q_or, q_not, q_andV, q_orV, q_notV, q_if, q_chain, q_next, q_seq, q_drop, q_ret, q_retF, q_retN, q_sif, q_break, q_cont, q_name, q_dnil, q_dcons, q_dtup, q_asg, q_set, q_par, q_for, q_range1, q_range2, q_iseq, q_ienum, q_call, q_cb, q_ncb, q_nop, q_lenset, q_mt, q_mt0, q_setix, q_augs, q_aug, q_nsl, q_onone, q_osome, q_gsl, q_raise, q_raiseF, q_try, q_lc, q_lc2, q_yes, q_wipe0, q_wipe, q_xf, q_I, q_I0, q_U, q_add, q_addT, q_addL, q_addR, q_onL, q_onSt, q_onSl, q_onSs, q_onSrct, q_onSrcl, q_eqI, q_eqB, q_eqS, q_eqN, q_isN, q_ix, q_ixL, q_in, q_len, q_sum, q_max, q_min, q_max2, q_min2, q_abs, q_int, q_intB, q_tupof, q_lstof, q_sort, q_rep, q_cat, q_isi, q_isis, q_setat, q_onC, q_append, q_pop, q_popAt, q_reverse, q_insert, q_sp1, q_sp2, q_sp3, q_sp4, q_at0, q_atS, q_st0, q_stS, q_iteT, q_iteF, q_isB, q_sumS, q_all, q_any, q_repT, q_spV, q_nLcX, q_sFz, q_gFld, q_sFldD, q_gMake, q_gCallI, q_gMeth, q_gRev])
    exact if_f (by rfl) (if_f (decide_eq_false (by omega)) (if_f (decide_eq_false (by omega)) q))
  · obtain ⟨k, kx, ki⟩ := kind_kd (M := M) hk
    refine ⟨k, kx, ?_⟩
    (try dsimp only [q_op, q_un, q_var, q_c, q_nil, q_cons, q_tup, q_frz, q_cel, q_lst, q_test, q_onB, q_and, q_or, q_not, q_andV, q_orV, q_notV, q_if, q_chain, q_next, q_seq, q_drop, q_ret, q_retF, q_retN, q_sif, q_break, q_cont, q_name, q_dnil, q_dcons, q_dtup, q_asg, q_set, q_par, q_for, q_range1, q_range2, q_iseq, q_ienum, q_call, q_cb, q_ncb, q_nop, q_lenset, q_mt, q_mt0, q_setix, q_augs, q_aug, q_nsl, q_onone, q_osome, q_gsl, q_raise, q_raiseF, q_try, q_lc, q_lc2, q_yes, q_wipe0, q_wipe, q_xf, q_I, q_I0, q_U, q_add, q_addT, q_addL, q_addR, q_onL, q_onSt, q_onSl, q_onSs, q_onSrct, q_onSrcl, q_eqI, q_eqB, q_eqS, q_eqN, q_isN, q_ix, q_ixL, q_in, q_len, q_sum, q_max, q_min, q_max2, q_min2, q_abs, q_int, q_intB, q_tupof, q_lstof, q_sort, q_rep, q_cat, q_isi, q_isis, q_setat, q_onC, q_append, q_pop, q_popAt, q_reverse, q_insert, q_sp1, q_sp2, q_sp3, q_sp4, q_at0, q_atS, q_st0, q_stS, q_iteT, q_iteF, q_isB, q_sumS, q_all, q_any, q_repT, q_spV, q_nLcX, q_sFz, q_gFld, q_sFldD, q_gMake, q_gCallI, q_gMeth, q_gRev])
    cases hki : (k == Kd.int) with
    | false => exact if_t (by rfl) (if_t (by rfl) ⟨rfl, q⟩)
    | true =>
      obtain ⟨i, rfl⟩ := ki.mp hki
      refine if_f (by rfl) ?_
      (try dsimp only [q_op, q_un, q_var, q_c, q_nil, q_cons, q_tup, q_frz, q_cel, q_lst, q_test, q_onB, q_and, q_or, q_not, q_andV, q_orV, q_notV, q_if, q_chain, q_next, q_seq, q_drop, q_ret, q_retF, q_retN, q_sif, q_break, q_cont, q_name, q_dnil, q_dcons, q_dtup, q_asg, q_set, q_par, q_for, q_range1, q_range2, q_iseq, q_ienum, q_call, q_cb, q_ncb, q_nop, q_lenset, q_mt, q_mt0, q_setix, q_augs, q_aug, q_nsl, q_onone, q_osome, q_gsl, q_raise, q_raiseF, q_try, q_lc, q_lc2, q_yes, q_wipe0, q_wipe, q_xf, q_I, q_I0, q_U, q_add, q_addT, q_addL, q_addR, q_onL, q_onSt, q_onSl, q_onSs, q_onSrct, q_onSrcl, q_eqI, q_eqB, q_eqS, q_eqN, q_isN, q_ix, q_ixL, q_in, q_len, q_sum, q_max, q_min, q_max2, q_min2, q_abs, q_int, q_intB, q_tupof, q_lstof, q_sort, q_rep, q_cat, q_isi, q_isis, q_setat, q_onC, q_append, q_pop, q_popAt, q_reverse, q_insert, q_sp1, q_sp2, q_sp3, q_sp4, q_at0, q_atS, q_st0, q_stS, q_iteT, q_iteF, q_isB, q_sumS, q_all, q_any, q_repT, q_spV, q_nLcX, q_sFz, q_gFld, q_sFldD, q_gMake, q_gCallI, q_gMeth, q_gRev])
      have hn' := hn i rfl
      by_cases h0 : i < a
      · exact if_t (decide_eq_true h0) (if_t (by rfl) ⟨rfl, q⟩)
      · exact if_f (decide_eq_false h0) (if_t (decide_eq_true (by omega)) ⟨rfl, q⟩)
theorem badAt_cons {x : D} {xs : List D} {i : Nat} : badAt (x :: xs) i = if geD 0 x then badAt xs (i + 1) else some (i : Nat) := rfl
theorem badAt_drop {xs : List D} {i : Nat} {x : D} (h : xs[i]? = some x) : badAt (xs.drop i) i = if geD 0 x then badAt (xs.drop (i + 1)) (i + 1) else some (i : Nat) := by
  obtain ⟨hi, e⟩ := List.getElem?_eq_some_iff.mp h
  rw [List.drop_eq_getElem_cons hi, badAt_cons, e]
theorem badAt_ints : ∀ {xs : List D} {i : Nat}, badAt xs i = none → xs = iD (intsOf xs) ∧ ∀ a ∈ intsOf xs, 0 ≤ a
  | [], i, _ => ⟨rfl, by intro a h; cases h⟩
  | x :: xs, i, h => by
    rw [badAt_cons] at h
    split at h
    · rename_i g
      obtain ⟨h1, h2⟩ := badAt_ints h
      cases x <;> first
        | (cases g; done)
        | (rename_i a
           unfold geD at g
           simp only [decide_eq_true_eq] at g
           have e : intsOf (.int a :: xs) = a :: intsOf xs := rfl
           rw [e]
           refine ⟨by show D.int a :: xs = D.int a :: iD (intsOf xs); rw [← h1], fun b hb => ?_⟩
           rcases List.mem_cons.mp hb with z | z
           · rw [z]; exact g
           · exact h2 b z)
    · cases h
theorem not_row {t : Kd} (h1 : t ≠ .tuple) (h2 : t ≠ .list) : (t == Kd.tuple || t == Kd.list) = false := by
  cases t <;> first | rfl | (exact absurd rfl h1) | exact absurd rfl h2
theorem row_kd {M : Mem} {d : D} {xs : List D} (row : RowD M d xs) : ∃ k, kdOf M d = some k ∧ (k == Kd.tuple || k == .list) = true := by
  rcases row.kd with z | z
  · exact ⟨_, z, rfl⟩
  · exact ⟨_, z, rfl⟩
theorem tup2_mono {i j n : Nat} : ∀ d ρ M (Q Q' : Dv → Mem → Prop), (∀ ρ M, Q ρ M → Q' ρ M) → dTup n (dCons (dName i) (dCons (dName j) dNil)) d ρ M Q → dTup n (dCons (dName i) (dCons (dName j) dNil)) d ρ M Q' := by
  intro d ρ M' Q1 Q2 k h
  cases d <;> first
    | exact h.elim
    | (rename_i ds
       obtain ⟨h1, h2⟩ := h
       refine ⟨h1, ?_⟩
       match ds, h2 with
       | [a, b], h2 => exact ⟨h2.1, k _ _ h2.2⟩)
theorem b_die_of : ∀ d0 M Q E, sp_die_of K [d0] M Q E → g_die_of K { nx := fun _ M => Q .non M, rt := Q, ex := fun x _ M => E x M } [some d0, none, none] M := by
  rintro d0 M Q E h
  have h : dieC K M d0 (fun x M => E x M) fun ns => Q (.tup (iD ns)) M := h
  unfold g_die_of
  dsimp only [q_op, q_un, q_var, q_c, q_nil, q_cons, q_tup, q_frz, q_cel, q_lst, q_test, q_onB, q_and, q_or, q_not, q_andV, q_orV, q_notV, q_if, q_chain, q_next, q_seq, q_drop, q_ret, q_retF, q_retN, q_sif, q_break, q_cont, q_name, q_dnil, q_dcons, q_dtup, q_asg, q_set, q_par, q_for, q_range1, q_range2, q_iseq, q_ienum, q_call, q_cb, q_ncb, q_nop, q_lenset, q_mt, q_mt0, q_setix, q_augs, q_aug, q_nsl, q_onone, q_osome, q_gsl, q_raise, q_raiseF, q_try, q_lc, q_lc2, q_yes, q_wipe0, q_wipe, q_xf, q_I, q_I0, q_U, q_add, q_addT, q_addL, q_addR, q_onL, q_onSt, q_onSl, q_onSs, q_onSrct, q_onSrcl, q_eqI, q_eqB, q_eqS, q_eqN, q_isN, q_ix, q_ixL, q_in, q_len, q_sum, q_max, q_min, q_max2, q_min2, q_abs, q_int, q_intB, q_tupof, q_lstof, q_sort, q_rep, q_cat, q_isi, q_isis, q_setat, q_onC, q_append, q_pop, q_popAt, q_reverse, q_insert, q_sp1, q_sp2, q_sp3, q_sp4, q_at0, q_atS, q_st0, q_stS, q_iteT, q_iteF, q_isB, q_sumS, q_all, q_any, q_repT, q_spV, q_nLcX, q_sFz, q_gFld, q_sFldD, q_gMake, q_gCallI, q_gMeth, q_gRev, sp_is_row]
  rcases h with ⟨t, hk, h1, h2, q⟩ | ⟨xs, row, flat, hl, hnb, q⟩
  · refine ⟨t, hk, ?_⟩
    (try dsimp only [q_op, q_un, q_var, q_c, q_nil, q_cons, q_tup, q_frz, q_cel, q_lst, q_test, q_onB, q_and, q_or, q_not, q_andV, q_orV, q_notV, q_if, q_chain, q_next, q_seq, q_drop, q_ret, q_retF, q_retN, q_sif, q_break, q_cont, q_name, q_dnil, q_dcons, q_dtup, q_asg, q_set, q_par, q_for, q_range1, q_range2, q_iseq, q_ienum, q_call, q_cb, q_ncb, q_nop, q_lenset, q_mt, q_mt0, q_setix, q_augs, q_aug, q_nsl, q_onone, q_osome, q_gsl, q_raise, q_raiseF, q_try, q_lc, q_lc2, q_yes, q_wipe0, q_wipe, q_xf, q_I, q_I0, q_U, q_add, q_addT, q_addL, q_addR, q_onL, q_onSt, q_onSl, q_onSs, q_onSrct, q_onSrcl, q_eqI, q_eqB, q_eqS, q_eqN, q_isN, q_ix, q_ixL, q_in, q_len, q_sum, q_max, q_min, q_max2, q_min2, q_abs, q_int, q_intB, q_tupof, q_lstof, q_sort, q_rep, q_cat, q_isi, q_isis, q_setat, q_onC, q_append, q_pop, q_popAt, q_reverse, q_insert, q_sp1, q_sp2, q_sp3, q_sp4, q_at0, q_atS, q_st0, q_stS, q_iteT, q_iteF, q_isB, q_sumS, q_all, q_any, q_repT, q_spV, q_nLcX, q_sFz, q_gFld, q_sFldD, q_gMake, q_gCallI, q_gMeth, q_gRev])
    exact if_t (by rw [not_row h1 h2]; rfl) ⟨rfl, q⟩
  obtain ⟨k, hk1, hk2⟩ := row_kd row
  refine ⟨k, hk1, ?_⟩
  (try dsimp only [q_op, q_un, q_var, q_c, q_nil, q_cons, q_tup, q_frz, q_cel, q_lst, q_test, q_onB, q_and, q_or, q_not, q_andV, q_orV, q_notV, q_if, q_chain, q_next, q_seq, q_drop, q_ret, q_retF, q_retN, q_sif, q_break, q_cont, q_name, q_dnil, q_dcons, q_dtup, q_asg, q_set, q_par, q_for, q_range1, q_range2, q_iseq, q_ienum, q_call, q_cb, q_ncb, q_nop, q_lenset, q_mt, q_mt0, q_setix, q_augs, q_aug, q_nsl, q_onone, q_osome, q_gsl, q_raise, q_raiseF, q_try, q_lc, q_lc2, q_yes, q_wipe0, q_wipe, q_xf, q_I, q_I0, q_U, q_add, q_addT, q_addL, q_addR, q_onL, q_onSt, q_onSl, q_onSs, q_onSrct, q_onSrcl, q_eqI, q_eqB, q_eqS, q_eqN, q_isN, q_ix, q_ixL, q_in, q_len, q_sum, q_max, q_min, q_max2, q_min2, q_abs, q_int, q_intB, q_tupof, q_lstof, q_sort, q_rep, q_cat, q_isi, q_isis, q_setat, q_onC, q_append, q_pop, q_popAt, q_reverse, q_insert, q_sp1, q_sp2, q_sp3, q_sp4, q_at0, q_atS, q_st0, q_stS, q_iteT, q_iteF, q_isB, q_sumS, q_all, q_any, q_repT, q_spV, q_nLcX, q_sFz, q_gFld, q_sFldD, q_gMake, q_gCallI, q_gMeth, q_gRev])
  refine if_f (by rw [hk2]; rfl) ?_
  refine row.onSrc fun ok ho ho2 => ?_
  refine loop_inv (fun i ρ M' => M' = M ∧ (∃ a b, ρ = [some d0, a, b]) ∧ badAt xs 0 = badAt (xs.drop i) i) ?_ ?_ ?_ ?_ ?_
  · rintro i ρ M' _ ⟨rfl, _⟩; exact ho
  · rintro i ρ M' d hd ⟨rfl, ⟨a, b, rfl⟩, e⟩
    obtain ⟨x, hx, rfl⟩ := enD_get hd
    (try dsimp only [q_op, q_un, q_var, q_c, q_nil, q_cons, q_tup, q_frz, q_cel, q_lst, q_test, q_onB, q_and, q_or, q_not, q_andV, q_orV, q_notV, q_if, q_chain, q_next, q_seq, q_drop, q_ret, q_retF, q_retN, q_sif, q_break, q_cont, q_name, q_dnil, q_dcons, q_dtup, q_asg, q_set, q_par, q_for, q_range1, q_range2, q_iseq, q_ienum, q_call, q_cb, q_ncb, q_nop, q_lenset, q_mt, q_mt0, q_setix, q_augs, q_aug, q_nsl, q_onone, q_osome, q_gsl, q_raise, q_raiseF, q_try, q_lc, q_lc2, q_yes, q_wipe0, q_wipe, q_xf, q_I, q_I0, q_U, q_add, q_addT, q_addL, q_addR, q_onL, q_onSt, q_onSl, q_onSs, q_onSrct, q_onSrcl, q_eqI, q_eqB, q_eqS, q_eqN, q_isN, q_ix, q_ixL, q_in, q_len, q_sum, q_max, q_min, q_max2, q_min2, q_abs, q_int, q_intB, q_tupof, q_lstof, q_sort, q_rep, q_cat, q_isi, q_isis, q_setat, q_onC, q_append, q_pop, q_popAt, q_reverse, q_insert, q_sp1, q_sp2, q_sp3, q_sp4, q_at0, q_atS, q_st0, q_stS, q_iteT, q_iteF, q_isB, q_sumS, q_all, q_any, q_repT, q_spV, q_nLcX, q_sFz, q_gFld, q_sFldD, q_gMake, q_gCallI, q_gMeth, q_gRev])
    refine ⟨rfl, ?_⟩
    (try dsimp only [q_op, q_un, q_var, q_c, q_nil, q_cons, q_tup, q_frz, q_cel, q_lst, q_test, q_onB, q_and, q_or, q_not, q_andV, q_orV, q_notV, q_if, q_chain, q_next, q_seq, q_drop, q_ret, q_retF, q_retN, q_sif, q_break, q_cont, q_name, q_dnil, q_dcons, q_dtup, q_asg, q_set, q_par, q_for, q_range1, q_range2, q_iseq, q_ienum, q_call, q_cb, q_ncb, q_nop, q_lenset, q_mt, q_mt0, q_setix, q_augs, q_aug, q_nsl, q_onone, q_osome, q_gsl, q_raise, q_raiseF, q_try, q_lc, q_lc2, q_yes, q_wipe0, q_wipe, q_xf, q_I, q_I0, q_U, q_add, q_addT, q_addL, q_addR, q_onL, q_onSt, q_onSl, q_onSs, q_onSrct, q_onSrcl, q_eqI, q_eqB, q_eqS, q_eqN, q_isN, q_ix, q_ixL, q_in, q_len, q_sum, q_max, q_min, q_max2, q_min2, q_abs, q_int, q_intB, q_tupof, q_lstof, q_sort, q_rep, q_cat, q_isi, q_isis, q_setat, q_onC, q_append, q_pop, q_popAt, q_reverse, q_insert, q_sp1, q_sp2, q_sp3, q_sp4, q_at0, q_atS, q_st0, q_stS, q_iteT, q_iteF, q_isB, q_sumS, q_all, q_any, q_repT, q_spV, q_nLcX, q_sFz, q_gFld, q_sFldD, q_gMake, q_gCallI, q_gMeth, q_gRev])
    refine ⟨rfl, fun Nx hN => ?_⟩
    have fx : kindB x = true := List.all_eq_true.mp flat x (List.mem_of_getElem? hx)
    obtain ⟨k2, kx, ki⟩ := kind_kd (M := M') fx
    rw [badAt_drop hx] at e
    dsimp only [q_op, q_un, q_var, q_c, q_nil, q_cons, q_tup, q_frz, q_cel, q_lst, q_test, q_onB, q_and, q_or, q_not, q_andV, q_orV, q_notV, q_if, q_chain, q_next, q_seq, q_drop, q_ret, q_retF, q_retN, q_sif, q_break, q_cont, q_name, q_dnil, q_dcons, q_dtup, q_asg, q_set, q_par, q_for, q_range1, q_range2, q_iseq, q_ienum, q_call, q_cb, q_ncb, q_nop, q_lenset, q_mt, q_mt0, q_setix, q_augs, q_aug, q_nsl, q_onone, q_osome, q_gsl, q_raise, q_raiseF, q_try, q_lc, q_lc2, q_yes, q_wipe0, q_wipe, q_xf, q_I, q_I0, q_U, q_add, q_addT, q_addL, q_addR, q_onL, q_onSt, q_onSl, q_onSs, q_onSrct, q_onSrcl, q_eqI, q_eqB, q_eqS, q_eqN, q_isN, q_ix, q_ixL, q_in, q_len, q_sum, q_max, q_min, q_max2, q_min2, q_abs, q_int, q_intB, q_tupof, q_lstof, q_sort, q_rep, q_cat, q_isi, q_isis, q_setat, q_onC, q_append, q_pop, q_popAt, q_reverse, q_insert, q_sp1, q_sp2, q_sp3, q_sp4, q_at0, q_atS, q_st0, q_stS, q_iteT, q_iteF, q_isB, q_sumS, q_all, q_any, q_repT, q_spV, q_nLcX, q_sFz, q_gFld, q_sFldD, q_gMake, q_gCallI, q_gMeth, q_gRev, sp_is_int]
    refine ⟨k2, kx, ?_⟩
    (try dsimp only [q_op, q_un, q_var, q_c, q_nil, q_cons, q_tup, q_frz, q_cel, q_lst, q_test, q_onB, q_and, q_or, q_not, q_andV, q_orV, q_notV, q_if, q_chain, q_next, q_seq, q_drop, q_ret, q_retF, q_retN, q_sif, q_break, q_cont, q_name, q_dnil, q_dcons, q_dtup, q_asg, q_set, q_par, q_for, q_range1, q_range2, q_iseq, q_ienum, q_call, q_cb, q_ncb, q_nop, q_lenset, q_mt, q_mt0, q_setix, q_augs, q_aug, q_nsl, q_onone, q_osome, q_gsl, q_raise, q_raiseF, q_try, q_lc, q_lc2, q_yes, q_wipe0, q_wipe, q_xf, q_I, q_I0, q_U, q_add, q_addT, q_addL, q_addR, q_onL, q_onSt, q_onSl, q_onSs, q_onSrct, q_onSrcl, q_eqI, q_eqB, q_eqS, q_eqN, q_isN, q_ix, q_ixL, q_in, q_len, q_sum, q_max, q_min, q_max2, q_min2, q_abs, q_int, q_intB, q_tupof, q_lstof, q_sort, q_rep, q_cat, q_isi, q_isis, q_setat, q_onC, q_append, q_pop, q_popAt, q_reverse, q_insert, q_sp1, q_sp2, q_sp3, q_sp4, q_at0, q_atS, q_st0, q_stS, q_iteT, q_iteF, q_isB, q_sumS, q_all, q_any, q_repT, q_spV, q_nLcX, q_sFz, q_gFld, q_sFldD, q_gMake, q_gCallI, q_gMeth, q_gRev])
    cases hki : (k2 == Kd.int) with
    | false =>
      refine if_t (by rfl) (if_t (by rfl) ⟨rfl, ?_⟩)
      have g : geD 0 x = false := by
        cases x <;> first | rfl | (rw [hki] at ki; exact absurd (ki.mpr ⟨_, rfl⟩) (by simp))
      rw [g] at e
      unfold dieE at q
      rw [e] at q
      exact q
    | true =>
      obtain ⟨a', rfl⟩ := ki.mp hki
      refine if_f (by rfl) ?_
      (try dsimp only [q_op, q_un, q_var, q_c, q_nil, q_cons, q_tup, q_frz, q_cel, q_lst, q_test, q_onB, q_and, q_or, q_not, q_andV, q_orV, q_notV, q_if, q_chain, q_next, q_seq, q_drop, q_ret, q_retF, q_retN, q_sif, q_break, q_cont, q_name, q_dnil, q_dcons, q_dtup, q_asg, q_set, q_par, q_for, q_range1, q_range2, q_iseq, q_ienum, q_call, q_cb, q_ncb, q_nop, q_lenset, q_mt, q_mt0, q_setix, q_augs, q_aug, q_nsl, q_onone, q_osome, q_gsl, q_raise, q_raiseF, q_try, q_lc, q_lc2, q_yes, q_wipe0, q_wipe, q_xf, q_I, q_I0, q_U, q_add, q_addT, q_addL, q_addR, q_onL, q_onSt, q_onSl, q_onSs, q_onSrct, q_onSrcl, q_eqI, q_eqB, q_eqS, q_eqN, q_isN, q_ix, q_ixL, q_in, q_len, q_sum, q_max, q_min, q_max2, q_min2, q_abs, q_int, q_intB, q_tupof, q_lstof, q_sort, q_rep, q_cat, q_isi, q_isis, q_setat, q_onC, q_append, q_pop, q_popAt, q_reverse, q_insert, q_sp1, q_sp2, q_sp3, q_sp4, q_at0, q_atS, q_st0, q_stS, q_iteT, q_iteF, q_isB, q_sumS, q_all, q_any, q_repT, q_spV, q_nLcX, q_sFz, q_gFld, q_sFldD, q_gMake, q_gCallI, q_gMeth, q_gRev])
      by_cases h0 : a' < 0
      · refine if_t (decide_eq_true h0) ⟨rfl, ?_⟩
        have g : geD 0 (.int a') = false := decide_eq_false (by omega)
        rw [g] at e
        unfold dieE at q
        rw [e] at q
        exact q
      · refine if_f (decide_eq_false h0) (hN _ _ ⟨rfl, ⟨_, _, rfl⟩, ?_⟩)
        have g : geD 0 (.int a') = true := decide_eq_true (by omega)
        rw [g] at e
        exact e
  · exact tup2_mono
  · rintro ρ M' ⟨rfl, ⟨a, b, rfl⟩, e⟩
    rw [show xs.drop (enD xs).length = [] by rw [enD_length, List.drop_length]] at e
    have hb : badAt xs 0 = none := e
    have hi := badAt_ints hb
    (try dsimp only [q_op, q_un, q_var, q_c, q_nil, q_cons, q_tup, q_frz, q_cel, q_lst, q_test, q_onB, q_and, q_or, q_not, q_andV, q_orV, q_notV, q_if, q_chain, q_next, q_seq, q_drop, q_ret, q_retF, q_retN, q_sif, q_break, q_cont, q_name, q_dnil, q_dcons, q_dtup, q_asg, q_set, q_par, q_for, q_range1, q_range2, q_iseq, q_ienum, q_call, q_cb, q_ncb, q_nop, q_lenset, q_mt, q_mt0, q_setix, q_augs, q_aug, q_nsl, q_onone, q_osome, q_gsl, q_raise, q_raiseF, q_try, q_lc, q_lc2, q_yes, q_wipe0, q_wipe, q_xf, q_I, q_I0, q_U, q_add, q_addT, q_addL, q_addR, q_onL, q_onSt, q_onSl, q_onSs, q_onSrct, q_onSrcl, q_eqI, q_eqB, q_eqS, q_eqN, q_isN, q_ix, q_ixL, q_in, q_len, q_sum, q_max, q_min, q_max2, q_min2, q_abs, q_int, q_intB, q_tupof, q_lstof, q_sort, q_rep, q_cat, q_isi, q_isis, q_setat, q_onC, q_append, q_pop, q_popAt, q_reverse, q_insert, q_sp1, q_sp2, q_sp3, q_sp4, q_at0, q_atS, q_st0, q_stS, q_iteT, q_iteF, q_isB, q_sumS, q_all, q_any, q_repT, q_spV, q_nLcX, q_sFz, q_gFld, q_sFldD, q_gMake, q_gCallI, q_gMeth, q_gRev])
    refine row.onS ⟨intsOf xs, hi.1, ?_⟩
    (try dsimp only [q_op, q_un, q_var, q_c, q_nil, q_cons, q_tup, q_frz, q_cel, q_lst, q_test, q_onB, q_and, q_or, q_not, q_andV, q_orV, q_notV, q_if, q_chain, q_next, q_seq, q_drop, q_ret, q_retF, q_retN, q_sif, q_break, q_cont, q_name, q_dnil, q_dcons, q_dtup, q_asg, q_set, q_par, q_for, q_range1, q_range2, q_iseq, q_ienum, q_call, q_cb, q_ncb, q_nop, q_lenset, q_mt, q_mt0, q_setix, q_augs, q_aug, q_nsl, q_onone, q_osome, q_gsl, q_raise, q_raiseF, q_try, q_lc, q_lc2, q_yes, q_wipe0, q_wipe, q_xf, q_I, q_I0, q_U, q_add, q_addT, q_addL, q_addR, q_onL, q_onSt, q_onSl, q_onSs, q_onSrct, q_onSrcl, q_eqI, q_eqB, q_eqS, q_eqN, q_isN, q_ix, q_ixL, q_in, q_len, q_sum, q_max, q_min, q_max2, q_min2, q_abs, q_int, q_intB, q_tupof, q_lstof, q_sort, q_rep, q_cat, q_isi, q_isis, q_setat, q_onC, q_append, q_pop, q_popAt, q_reverse, q_insert, q_sp1, q_sp2, q_sp3, q_sp4, q_at0, q_atS, q_st0, q_stS, q_iteT, q_iteF, q_isB, q_sumS, q_all, q_any, q_repT, q_spV, q_nLcX, q_sFz, q_gFld, q_sFldD, q_gMake, q_gCallI, q_gMeth, q_gRev])
    unfold dieE at q
    rw [hb] at q
    dsimp only at q
    by_cases c : (intsOf xs).sum = 0
    · rw [if_pos c] at q
      exact if_t (decide_eq_true c) ⟨rfl, q⟩
    · rw [if_neg c] at q
      refine if_f (decide_eq_false c) (row.onS ?_)
      rw [hi.1]
      exact q
  · exact ⟨rfl, ⟨_, _, rfl⟩, rfl⟩
end
section
variable {K : PySem.W.Frag}
theorem pool_take {M0 M : Mem} {p : Addr} {xs ys : List Int} {ps : List Addr} {rows : List (List D)} (t : TabAt (mset M0 p (.lst (iD xs))) M ps rows) : TabAt (mset M0 p (.lst (iD ys))) (mset M p (.lst (iD ys))) ps rows := by
  have h := t.notin (p := p) (.inl (by rw [mset_same]; exact fun z => nomatch z))
  have := t.under (o := .lst (iD ys)) h
  rwa [mset_mset] at this
theorem pool_is {M0 M : Mem} {p : Addr} {xs : List Int} {ps : List Addr} {rows : List (List D)} (t : TabAt (mset M0 p (.lst (iD xs))) M ps rows) : Pool M p := ⟨xs, t.keep mset_same⟩
theorem tab_one {M0 M : Mem} {p : Addr} {r : List D} (t : TabAt M0 M [p] [r]) : M p = some (.lst r) := t.at_ 0 p r rfl rfl
theorem atI_iD {ns : List Int} {i : Nat} (h : i < ns.length) : atI (iD ns) ((i : Nat) : Int) = some (.int (ns.getD i 0)) := by
  rw [atI_nat (by simpa using h)]
  simp [List.getD, h]
theorem rg0 (n : Nat) : rgD 0 n = (List.range n).map fun k => D.int ((k : Nat) : Int) := by
  unfold rgD
  simp
theorem rep_map (n : Nat) (a : Int) : ((List.range n).map fun _ : Nat => D.int a) = iD (List.replicate n a) := by
  unfold iD
  rw [List.map_replicate]
  induction n with
  | zero => rfl
  | succ n ih => rw [List.range_succ, List.map_append, ih, List.replicate_succ']; rfl
theorem lc_rep {ρw : Dv} {M : Mem} {Q : List D → Mem → Prop} {i : Nat} (n : Nat) (a : Int) (hn : n < 16777216) (q : Q (iD (List.replicate n a)) M) : lcD (fun _ => True) (dName i) gYes (gC (.int a)) ρw (rgD 0 n) [] M Q := by
  rw [rg0]
  refine lc_map (fun k : Nat => D.int ((k : Nat) : Int)) (fun _ => .int a) trivial _ (fun x hx k hk => ⟨rfl, hk⟩) (fun d ρ M Q Q' h q => h _ _ q) rfl (by rw [sz]; simp; omega) ?_
  rw [rep_map]
  exact q
theorem add_ll {a b : List D} {M : Mem} {Q : DVK} (h : a.length + b.length ≤ 16777216) (q : Q (.lst (a ++ b)) M) : dAdd (.lst a) (.lst b) M Q := ⟨by rw [sz]; exact h, q⟩
def DieOk (ns : List Int) : Prop := ns.length < 1000 ∧ (∀ a ∈ ns, 0 ≤ a ∧ nb 300 a) ∧ 0 < ns.sum
theorem intsOf_iD : ∀ ns : List Int, intsOf (iD ns) = ns
  | [] => rfl
  | n :: ns => by
    show n :: intsOf (iD ns) = n :: ns
    rw [intsOf_iD ns]
theorem kind_iD : ∀ ns : List Int, (iD ns).all kindB = true
  | [] => rfl
  | n :: ns => by
    show (kindB (.int n) && (iD ns).all kindB) = true
    rw [kind_iD ns]
    rfl
theorem sum_nn : ∀ {l : List Int}, (∀ a ∈ l, 0 ≤ a) → 0 ≤ l.sum
  | [], _ => Int.le_refl 0
  | a :: l, h => by
    have h1 := h a List.mem_cons_self
    have h2 := sum_nn (l := l) fun b hb => h b (List.mem_cons_of_mem _ hb)
    rw [List.sum_cons]
    omega
theorem badAt_good : ∀ {ns : List Int} {i : Nat}, (∀ a ∈ ns, 0 ≤ a) → badAt (iD ns) i = none
  | [], _, _ => rfl
  | a :: l, i, h => by
    show badAt (D.int a :: iD l) i = none
    rw [badAt_cons, if_pos (show geD 0 (.int a) = true from decide_eq_true (h a List.mem_cons_self))]
    exact badAt_good fun b hb => h b (List.mem_cons_of_mem _ hb)
theorem dieE_none {xs : List D} (h : dieE xs = none) : xs = iD (intsOf xs) ∧ (∀ a ∈ intsOf xs, 0 ≤ a) ∧ 0 < (intsOf xs).sum := by
  unfold dieE at h
  cases z : badAt xs 0 with
  | some p => rw [z] at h; cases h
  | none =>
    rw [z] at h
    dsimp only at h
    split at h
    · cases h
    · have := badAt_ints z
      have h3 := sum_nn this.2
      exact ⟨this.1, this.2, by omega⟩
theorem dieE_good {ns : List Int} (h : ∀ a ∈ ns, 0 ≤ a) (hs : 0 < ns.sum) : dieE (iD ns) = none := by
  unfold dieE
  rw [badAt_good h]
  dsimp only
  rw [intsOf_iD, if_neg (by omega)]
theorem ok_of {xs : List D} (h : dieE xs = none) (hl : xs.length < 1000) (hn : ∀ a ∈ intsOf xs, nb 300 a) : DieOk (intsOf xs) := by
  obtain ⟨h1, h2, h3⟩ := dieE_none h
  have : (intsOf xs).length ≤ xs.length := List.length_filterMap_le _ _
  exact ⟨by omega, fun a ha => ⟨h2 a ha, hn a ha⟩, h3⟩
theorem dieC_imp {M : Mem} {d : D} {E E' : DXK} {k k' : List Int → Prop} (h1 : ∀ x, E x M → E' x M) (h : ∀ ns, DieOk ns → k ns → k' ns) : dieC K M d E k → dieC K M d E' k' := by
  rintro (⟨t, a, b, c, e⟩ | ⟨xs, a, b, c, n, e⟩)
  · exact .inl ⟨t, a, b, c, h1 _ e⟩
  · refine .inr ⟨xs, a, b, c, n, ?_⟩
    cases z : dieE xs with
    | some p => simp only [z] at e ⊢; exact h1 _ e
    | none => simp only [z] at e ⊢; exact h _ (ok_of z c n) e
theorem dieC_use {M : Mem} {d : D} {E : DXK} {k k' : List Int → Prop} (h : ∀ ns, DieOk ns → k ns → k' ns) : dieC K M d E k → dieC K M d E k' := dieC_imp (fun _ z => z) h
theorem dieC_good {M : Mem} {d : D} {E : DXK} {k : List Int → Prop} {ns : List Int} (G : DieOk ns) (r : RowD M d (iD ns)) (h : k ns) : dieC K M d E k := by
  refine .inr ⟨iD ns, r, kind_iD ns, by rw [List.length_map]; exact G.1, fun a ha => (G.2.1 a (by rw [← intsOf_iD ns]; exact ha)).2, ?_⟩
  simp only [dieE_good (fun a ha => (G.2.1 a ha).1) G.2.2, intsOf_iD]
  exact h
theorem twoC_imp {M : Mem} {a b : D} {E E' : DXK} {k k' : List Int → List Int → Prop} (h1 : ∀ x, E x M → E' x M) (h : ∀ one other, DieOk one → DieOk other → one.length = other.length → k one other → k' one other) : twoC K M a b E k → twoC K M a b E' k' :=
  dieC_imp h1 fun one G => dieC_imp h1 fun other G2 z => by
    by_cases c : one.length ≠ other.length
    · rw [if_pos c] at z ⊢; exact h1 _ z
    · rw [if_neg c] at z ⊢; exact h _ _ G G2 (by omega) z
theorem twoC_use {M : Mem} {a b : D} {E : DXK} {k k' : List Int → List Int → Prop} (h : ∀ one other, DieOk one → DieOk other → one.length = other.length → k one other → k' one other) : twoC K M a b E k → twoC K M a b E k' := twoC_imp (fun _ z => z) h
theorem twoC_good {M : Mem} {a b : D} {E : DXK} {k : List Int → List Int → Prop} {one other : List Int} (G : DieOk one) (G2 : DieOk other) (r : RowD M a (iD one)) (r2 : RowD M b (iD other)) (hl : one.length = other.length) (h : k one other) : twoC K M a b E k := by
  refine dieC_good G r (dieC_good G2 r2 ?_)
  rw [if_neg (by simp [hl])]
  exact h
theorem withinC_imp {M : Mem} {v : D} {nm : Str} {a b : Int} {E E' : DXK} {k k' : Int → Prop} (h1 : ∀ x, E x M → E' x M) (h : ∀ i, v = .int i → a ≤ i → i ≤ b → k i → k' i) : withinC K M v nm a b E k → withinC K M v nm a b E' k' := by
  rintro (⟨i, e, l, u, q⟩ | ⟨c, n, q⟩)
  · exact .inl ⟨i, e, l, u, h i e l u q⟩
  · exact .inr ⟨c, n, h1 _ q⟩
theorem fromC_imp {M : Mem} {v : D} {nm : Str} {a : Int} {E E' : DXK} {k k' : Int → Prop} (h1 : ∀ x, E x M → E' x M) (h : ∀ i, v = .int i → a ≤ i → k i → k' i) : fromC K M v nm a E k → fromC K M v nm a E' k' := by
  rintro (⟨i, e, l, q⟩ | ⟨c, n, q⟩)
  · exact .inl ⟨i, e, l, h i e l q⟩
  · exact .inr ⟨c, n, h1 _ q⟩
theorem b_two_dice : ∀ d0 d1 M Q E, sp_two_dice K [d0, d1] M Q E → g_two_dice K { nx := fun _ M => Q .non M, rt := Q, ex := fun x _ M => E x M } [some d0, some d1, none, none] M := by
  rintro d0 d1 M Q E h
  have h : twoC K M d0 d1 (fun x M => E x M) fun one other => Q (.tup [.tup (iD one), .tup (iD other)]) M := h
  unfold g_two_dice
  dsimp only [q_op, q_un, q_var, q_c, q_nil, q_cons, q_tup, q_frz, q_cel, q_lst, q_test, q_onB, q_and, q_or, q_not, q_andV, q_orV, q_notV, q_if, q_chain, q_next, q_seq, q_drop, q_ret, q_retF, q_retN, q_sif, q_break, q_cont, q_name, q_dnil, q_dcons, q_dtup, q_asg, q_set, q_par, q_for, q_range1, q_range2, q_iseq, q_ienum, q_call, q_cb, q_ncb, q_nop, q_lenset, q_mt, q_mt0, q_setix, q_augs, q_aug, q_nsl, q_onone, q_osome, q_gsl, q_raise, q_raiseF, q_try, q_lc, q_lc2, q_yes, q_wipe0, q_wipe, q_xf, q_I, q_I0, q_U, q_add, q_addT, q_addL, q_addR, q_onL, q_onSt, q_onSl, q_onSs, q_onSrct, q_onSrcl, q_eqI, q_eqB, q_eqS, q_eqN, q_isN, q_ix, q_ixL, q_in, q_len, q_sum, q_max, q_min, q_max2, q_min2, q_abs, q_int, q_intB, q_tupof, q_lstof, q_sort, q_rep, q_cat, q_isi, q_isis, q_setat, q_onC, q_append, q_pop, q_popAt, q_reverse, q_insert, q_sp1, q_sp2, q_sp3, q_sp4, q_at0, q_atS, q_st0, q_stS, q_iteT, q_iteF, q_isB, q_sumS, q_all, q_any, q_repT, q_spV, q_nLcX, q_sFz, q_gFld, q_sFldD, q_gMake, q_gCallI, q_gMeth, q_gRev, sp_die_of]
  refine dieC_use (fun one G h => dieC_use (fun other G2 h => ?_) h) h
  (try dsimp only [q_op, q_un, q_var, q_c, q_nil, q_cons, q_tup, q_frz, q_cel, q_lst, q_test, q_onB, q_and, q_or, q_not, q_andV, q_orV, q_notV, q_if, q_chain, q_next, q_seq, q_drop, q_ret, q_retF, q_retN, q_sif, q_break, q_cont, q_name, q_dnil, q_dcons, q_dtup, q_asg, q_set, q_par, q_for, q_range1, q_range2, q_iseq, q_ienum, q_call, q_cb, q_ncb, q_nop, q_lenset, q_mt, q_mt0, q_setix, q_augs, q_aug, q_nsl, q_onone, q_osome, q_gsl, q_raise, q_raiseF, q_try, q_lc, q_lc2, q_yes, q_wipe0, q_wipe, q_xf, q_I, q_I0, q_U, q_add, q_addT, q_addL, q_addR, q_onL, q_onSt, q_onSl, q_onSs, q_onSrct, q_onSrcl, q_eqI, q_eqB, q_eqS, q_eqN, q_isN, q_ix, q_ixL, q_in, q_len, q_sum, q_max, q_min, q_max2, q_min2, q_abs, q_int, q_intB, q_tupof, q_lstof, q_sort, q_rep, q_cat, q_isi, q_isis, q_setat, q_onC, q_append, q_pop, q_popAt, q_reverse, q_insert, q_sp1, q_sp2, q_sp3, q_sp4, q_at0, q_atS, q_st0, q_stS, q_iteT, q_iteF, q_isB, q_sumS, q_all, q_any, q_repT, q_spV, q_nLcX, q_sFz, q_gFld, q_sFldD, q_gMake, q_gCallI, q_gMeth, q_gRev])
  by_cases c : one.length ≠ other.length
  · rw [if_pos c] at h
    refine if_t (by simp; omega) ⟨rfl, ?_⟩
    simp only [List.length_map]
    exact h
  · rw [if_neg c] at h
    exact if_f (by simp; omega) ⟨by rw [sz]; show 2 ≤ 16777216; omega, h⟩
theorem cut_take {α : Type} (xs : List α) {i : Nat} (h : i ≤ xs.length) : DL.cutD xs none (some ((i : Nat) : Int)) = xs.take i := by
  unfold DL.cutD
  have e1 : HT.sIx xs.length 0 none = 0 := rfl
  have e2 : HT.sIx xs.length xs.length (some ((i : Nat) : Int)) = i := by rw [HT.sIx_nat]; omega
  rw [e1, e2]
  simp
theorem cut_drop {α : Type} (xs : List α) (i : Nat) : DL.cutD xs (some ((i : Nat) : Int)) none = xs.drop i := by
  unfold DL.cutD
  have e1 : HT.sIx xs.length 0 (some ((i : Nat) : Int)) = min i xs.length := HT.sIx_nat ..
  have e2 : HT.sIx xs.length xs.length none = xs.length := rfl
  rw [e1, e2]
  by_cases c : i ≤ xs.length
  · rw [Nat.min_eq_left c, List.take_of_length_le (by rw [List.length_drop]; omega)]
  · rw [Nat.min_eq_right (by omega), List.drop_of_length_le (Nat.le_refl _), List.drop_of_length_le (by omega)]
    simp
theorem atI_last {α : Type} (l : List α) (x : α) : atI (l ++ [x]) (-1) = some x := by
  have e : ixN (l ++ [x]).length (-1) = some l.length := by
    unfold ixN
    rw [List.length_append, List.length_singleton, if_neg (by omega), if_pos (by omega)]
    congr 1
    omega
  unfold atI
  rw [e]
  simp
theorem b_running : ∀ d0 M Q E, sp_running K [d0] M Q E → g_running K { nx := fun _ M => Q .non M, rt := Q, ex := fun x _ M => E x M } [some d0, none, none] M := by
  rintro d0 M Q E ⟨ns, row, hl, q⟩
  unfold g_running
  dsimp only [q_op, q_un, q_var, q_c, q_nil, q_cons, q_tup, q_frz, q_cel, q_lst, q_test, q_onB, q_and, q_or, q_not, q_andV, q_orV, q_notV, q_if, q_chain, q_next, q_seq, q_drop, q_ret, q_retF, q_retN, q_sif, q_break, q_cont, q_name, q_dnil, q_dcons, q_dtup, q_asg, q_set, q_par, q_for, q_range1, q_range2, q_iseq, q_ienum, q_call, q_cb, q_ncb, q_nop, q_lenset, q_mt, q_mt0, q_setix, q_augs, q_aug, q_nsl, q_onone, q_osome, q_gsl, q_raise, q_raiseF, q_try, q_lc, q_lc2, q_yes, q_wipe0, q_wipe, q_xf, q_I, q_I0, q_U, q_add, q_addT, q_addL, q_addR, q_onL, q_onSt, q_onSl, q_onSs, q_onSrct, q_onSrcl, q_eqI, q_eqB, q_eqS, q_eqN, q_isN, q_ix, q_ixL, q_in, q_len, q_sum, q_max, q_min, q_max2, q_min2, q_abs, q_int, q_intB, q_tupof, q_lstof, q_sort, q_rep, q_cat, q_isi, q_isis, q_setat, q_onC, q_append, q_pop, q_popAt, q_reverse, q_insert, q_sp1, q_sp2, q_sp3, q_sp4, q_at0, q_atS, q_st0, q_stS, q_iteT, q_iteF, q_isB, q_sumS, q_all, q_any, q_repT, q_spV, q_nLcX, q_sFz, q_gFld, q_sFldD, q_gMake, q_gCallI, q_gMeth, q_gRev]
  refine ⟨by rw [sz]; show 1 ≤ 16777216; omega, fun p hp => ?_⟩
  have t0 : TabAt M (mset M p (.lst (iD ((List.range 0).map (pre ns) ++ [pre ns 0])))) [p] [iD ((List.range 0).map (pre ns) ++ [pre ns 0])] := TabAt.nil.push hp
  have row' : RowD (mset M p (.lst (iD ((List.range 0).map (pre ns) ++ [pre ns 0])))) d0 (iD ns) := t0.up.row row
  show onSrc (mset M p (.lst (iD ((List.range 0).map (pre ns) ++ [pre ns 0])))) d0 _
  refine row'.onSrc fun ok ho ho2 => ?_
  refine loop_map D.int ns (fun s ρ M' => (∃ a, ρ = [some d0, some (.ref p), a]) ∧ TabAt M M' [p] [iD ((List.range s).map (pre ns) ++ [pre ns s])]) (fun i ρ M' _ ⟨_, t⟩ => ho2 _ (t.up.row row)) ?_ ?_ ⟨⟨_, rfl⟩, t0⟩
  · rintro s x ρ M' hx ⟨⟨a, rfl⟩, t⟩ Nx hN
    have hM := tab_one t
    have hs := (List.getElem?_eq_some_iff.mp hx).1
    have ex : ns.getD s 0 = x := by rw [List.getD_eq_getElem?_getD, hx]; rfl
    have t2 := t.set (r := iD ((List.range (s + 1)).map (pre ns) ++ [pre ns (s + 1)])) (i := 0) (p := p) rfl
    (try dsimp only [q_op, q_un, q_var, q_c, q_nil, q_cons, q_tup, q_frz, q_cel, q_lst, q_test, q_onB, q_and, q_or, q_not, q_andV, q_orV, q_notV, q_if, q_chain, q_next, q_seq, q_drop, q_ret, q_retF, q_retN, q_sif, q_break, q_cont, q_name, q_dnil, q_dcons, q_dtup, q_asg, q_set, q_par, q_for, q_range1, q_range2, q_iseq, q_ienum, q_call, q_cb, q_ncb, q_nop, q_lenset, q_mt, q_mt0, q_setix, q_augs, q_aug, q_nsl, q_onone, q_osome, q_gsl, q_raise, q_raiseF, q_try, q_lc, q_lc2, q_yes, q_wipe0, q_wipe, q_xf, q_I, q_I0, q_U, q_add, q_addT, q_addL, q_addR, q_onL, q_onSt, q_onSl, q_onSs, q_onSrct, q_onSrcl, q_eqI, q_eqB, q_eqS, q_eqN, q_isN, q_ix, q_ixL, q_in, q_len, q_sum, q_max, q_min, q_max2, q_min2, q_abs, q_int, q_intB, q_tupof, q_lstof, q_sort, q_rep, q_cat, q_isi, q_isis, q_setat, q_onC, q_append, q_pop, q_popAt, q_reverse, q_insert, q_sp1, q_sp2, q_sp3, q_sp4, q_at0, q_atS, q_st0, q_stS, q_iteT, q_iteF, q_isB, q_sumS, q_all, q_any, q_repT, q_spV, q_nLcX, q_sFz, q_gFld, q_sFldD, q_gMake, q_gCallI, q_gMeth, q_gRev])
    refine ⟨onL_ref hM trivial, RowD.onS (RowD.ref hM) ⟨.int (pre ns s), ?_, ?_⟩⟩
    · rw [show iD ((List.range s).map (pre ns) ++ [pre ns s]) = iD ((List.range s).map (pre ns)) ++ [D.int (pre ns s)] by simp]
      exact atI_last _ _
    (try dsimp only [q_op, q_un, q_var, q_c, q_nil, q_cons, q_tup, q_frz, q_cel, q_lst, q_test, q_onB, q_and, q_or, q_not, q_andV, q_orV, q_notV, q_if, q_chain, q_next, q_seq, q_drop, q_ret, q_retF, q_retN, q_sif, q_break, q_cont, q_name, q_dnil, q_dcons, q_dtup, q_asg, q_set, q_par, q_for, q_range1, q_range2, q_iseq, q_ienum, q_call, q_cb, q_ncb, q_nop, q_lenset, q_mt, q_mt0, q_setix, q_augs, q_aug, q_nsl, q_onone, q_osome, q_gsl, q_raise, q_raiseF, q_try, q_lc, q_lc2, q_yes, q_wipe0, q_wipe, q_xf, q_I, q_I0, q_U, q_add, q_addT, q_addL, q_addR, q_onL, q_onSt, q_onSl, q_onSs, q_onSrct, q_onSrcl, q_eqI, q_eqB, q_eqS, q_eqN, q_isN, q_ix, q_ixL, q_in, q_len, q_sum, q_max, q_min, q_max2, q_min2, q_abs, q_int, q_intB, q_tupof, q_lstof, q_sort, q_rep, q_cat, q_isi, q_isis, q_setat, q_onC, q_append, q_pop, q_popAt, q_reverse, q_insert, q_sp1, q_sp2, q_sp3, q_sp4, q_at0, q_atS, q_st0, q_stS, q_iteT, q_iteF, q_isB, q_sumS, q_all, q_any, q_repT, q_spV, q_nLcX, q_sFz, q_gFld, q_sFldD, q_gMake, q_gCallI, q_gMeth, q_gRev])
    refine ⟨_, hM, by rw [sz]; simp; omega, ?_⟩
    have e : iD ((List.range s).map (pre ns) ++ [pre ns s]) ++ [D.int (pre ns s + x)] = iD ((List.range (s + 1)).map (pre ns) ++ [pre ns (s + 1)]) := by
      rw [List.range_succ, pre_succ, ex]
      simp
    rw [e]
    exact hN _ _ ⟨⟨_, rfl⟩, t2⟩
  · rintro ρ M' ⟨⟨a, rfl⟩, t⟩
    have hM := tab_one t
    (try dsimp only [q_op, q_un, q_var, q_c, q_nil, q_cons, q_tup, q_frz, q_cel, q_lst, q_test, q_onB, q_and, q_or, q_not, q_andV, q_orV, q_notV, q_if, q_chain, q_next, q_seq, q_drop, q_ret, q_retF, q_retN, q_sif, q_break, q_cont, q_name, q_dnil, q_dcons, q_dtup, q_asg, q_set, q_par, q_for, q_range1, q_range2, q_iseq, q_ienum, q_call, q_cb, q_ncb, q_nop, q_lenset, q_mt, q_mt0, q_setix, q_augs, q_aug, q_nsl, q_onone, q_osome, q_gsl, q_raise, q_raiseF, q_try, q_lc, q_lc2, q_yes, q_wipe0, q_wipe, q_xf, q_I, q_I0, q_U, q_add, q_addT, q_addL, q_addR, q_onL, q_onSt, q_onSl, q_onSs, q_onSrct, q_onSrcl, q_eqI, q_eqB, q_eqS, q_eqN, q_isN, q_ix, q_ixL, q_in, q_len, q_sum, q_max, q_min, q_max2, q_min2, q_abs, q_int, q_intB, q_tupof, q_lstof, q_sort, q_rep, q_cat, q_isi, q_isis, q_setat, q_onC, q_append, q_pop, q_popAt, q_reverse, q_insert, q_sp1, q_sp2, q_sp3, q_sp4, q_at0, q_atS, q_st0, q_stS, q_iteT, q_iteF, q_isB, q_sumS, q_all, q_any, q_repT, q_spV, q_nLcX, q_sFz, q_gFld, q_sFldD, q_gMake, q_gCallI, q_gMeth, q_gRev])
    refine RowD.onS (RowD.ref hM) ?_
    have e : (List.range ns.length).map (pre ns) ++ [pre ns ns.length] = runL ns := by
      unfold runL
      rw [List.range_succ, List.map_append]
      rfl
    rw [e]
    exact ret_drop t.up q
theorem b_belows : ∀ d0 M Q E, sp_belows K [d0] M Q E → g_belows K { nx := fun _ M => Q .non M, rt := Q, ex := fun x _ M => E x M } [some d0] M := by
  rintro d0 M Q E h
  have h : dieC K M d0 (fun x M => E x M) fun row => Q (.tup (iD (runL row))) M := h
  unfold g_belows
  dsimp only [q_op, q_un, q_var, q_c, q_nil, q_cons, q_tup, q_frz, q_cel, q_lst, q_test, q_onB, q_and, q_or, q_not, q_andV, q_orV, q_notV, q_if, q_chain, q_next, q_seq, q_drop, q_ret, q_retF, q_retN, q_sif, q_break, q_cont, q_name, q_dnil, q_dcons, q_dtup, q_asg, q_set, q_par, q_for, q_range1, q_range2, q_iseq, q_ienum, q_call, q_cb, q_ncb, q_nop, q_lenset, q_mt, q_mt0, q_setix, q_augs, q_aug, q_nsl, q_onone, q_osome, q_gsl, q_raise, q_raiseF, q_try, q_lc, q_lc2, q_yes, q_wipe0, q_wipe, q_xf, q_I, q_I0, q_U, q_add, q_addT, q_addL, q_addR, q_onL, q_onSt, q_onSl, q_onSs, q_onSrct, q_onSrcl, q_eqI, q_eqB, q_eqS, q_eqN, q_isN, q_ix, q_ixL, q_in, q_len, q_sum, q_max, q_min, q_max2, q_min2, q_abs, q_int, q_intB, q_tupof, q_lstof, q_sort, q_rep, q_cat, q_isi, q_isis, q_setat, q_onC, q_append, q_pop, q_popAt, q_reverse, q_insert, q_sp1, q_sp2, q_sp3, q_sp4, q_at0, q_atS, q_st0, q_stS, q_iteT, q_iteF, q_isB, q_sumS, q_all, q_any, q_repT, q_spV, q_nLcX, q_sFz, q_gFld, q_sFldD, q_gMake, q_gCallI, q_gMeth, q_gRev, sp_die_of, sp_running]
  exact dieC_use (fun row G h => ⟨row, RowD.tup, G.1, h⟩) h
end
section
variable {K : PySem.W.Frag}
theorem zip_get {one other : List Int} {i : Nat} {d : D} (h : (zipD (iD one) (iD other))[i]? = some d) : i < one.length ∧ i < other.length ∧ d = .tup [.int (one.getD i 0), .int (other.getD i 0)] := by
  obtain ⟨x, y, hx, hy, rfl⟩ := zipD_get h
  rw [List.getElem?_map] at hx hy
  cases e1 : one[i]? with
  | none => rw [e1] at hx; cases hx
  | some a =>
    cases e2 : other[i]? with
    | none => rw [e2] at hy; cases hy
    | some b =>
      rw [e1] at hx
      rw [e2] at hy
      cases hx
      cases hy
      refine ⟨(List.getElem?_eq_some_iff.mp e1).1, (List.getElem?_eq_some_iff.mp e2).1, ?_⟩
      rw [List.getD_eq_getElem?_getD, List.getD_eq_getElem?_getD, e1, e2]
      rfl
theorem zip_on {M : Mem} {one other : List Int} {R : Src → Mem → Prop} (h : R ⟨zipD (iD one) (iD other), fun _ => True ∧ True⟩ M) : onSrc M (.tup (iD one)) fun s _ => onSrc M (.tup (iD other)) fun t _ => isTup (.tup (iD one)) = isTup (.tup (iD other)) ∧ R ⟨zipD s.items t.items, fun M' => s.ok M' ∧ t.ok M'⟩ M := ⟨rfl, h⟩
theorem b_count_wins : ∀ d0 d1 M Q E, sp_count_wins K [d0, d1] M Q E → g_count_wins K { nx := fun _ M => Q .non M, rt := Q, ex := fun x _ M => E x M } [some d0, some d1, none, none, none, none] M := by
  rintro d0 d1 M Q E ⟨one, other, ⟨rfl, rfl, hl, hl2, h1, h2⟩, q⟩
  unfold g_count_wins
  dsimp only [q_op, q_un, q_var, q_c, q_nil, q_cons, q_tup, q_frz, q_cel, q_lst, q_test, q_onB, q_and, q_or, q_not, q_andV, q_orV, q_notV, q_if, q_chain, q_next, q_seq, q_drop, q_ret, q_retF, q_retN, q_sif, q_break, q_cont, q_name, q_dnil, q_dcons, q_dtup, q_asg, q_set, q_par, q_for, q_range1, q_range2, q_iseq, q_ienum, q_call, q_cb, q_ncb, q_nop, q_lenset, q_mt, q_mt0, q_setix, q_augs, q_aug, q_nsl, q_onone, q_osome, q_gsl, q_raise, q_raiseF, q_try, q_lc, q_lc2, q_yes, q_wipe0, q_wipe, q_xf, q_I, q_I0, q_U, q_add, q_addT, q_addL, q_addR, q_onL, q_onSt, q_onSl, q_onSs, q_onSrct, q_onSrcl, q_eqI, q_eqB, q_eqS, q_eqN, q_isN, q_ix, q_ixL, q_in, q_len, q_sum, q_max, q_min, q_max2, q_min2, q_abs, q_int, q_intB, q_tupof, q_lstof, q_sort, q_rep, q_cat, q_isi, q_isis, q_setat, q_onC, q_append, q_pop, q_popAt, q_reverse, q_insert, q_sp1, q_sp2, q_sp3, q_sp4, q_at0, q_atS, q_st0, q_stS, q_iteT, q_iteF, q_isB, q_sumS, q_all, q_any, q_repT, q_spV, q_nLcX, q_sFz, q_gFld, q_sFldD, q_gMake, q_gCallI, q_gMeth, q_gRev, iZipD]
  refine ⟨rfl, ?_⟩
  refine loop_inv (fun s ρ M' => (∃ a b, ρ = [some (.tup (iD one)), some (.tup (iD other)), some (.int (S1 s fun i => one.getD i 0 * pre other i)), some (.int (pre other s)), a, b]) ∧ M' = M) ?_ ?_ tup2_mono ?_ ⟨⟨_, _, rfl⟩, rfl⟩
  · intros; exact ⟨trivial, trivial⟩
  · rintro s ρ M' d hd ⟨⟨a, b, rfl⟩, rfl⟩
    obtain ⟨i1, i2, rfl⟩ := zip_get hd
    (try dsimp only [q_op, q_un, q_var, q_c, q_nil, q_cons, q_tup, q_frz, q_cel, q_lst, q_test, q_onB, q_and, q_or, q_not, q_andV, q_orV, q_notV, q_if, q_chain, q_next, q_seq, q_drop, q_ret, q_retF, q_retN, q_sif, q_break, q_cont, q_name, q_dnil, q_dcons, q_dtup, q_asg, q_set, q_par, q_for, q_range1, q_range2, q_iseq, q_ienum, q_call, q_cb, q_ncb, q_nop, q_lenset, q_mt, q_mt0, q_setix, q_augs, q_aug, q_nsl, q_onone, q_osome, q_gsl, q_raise, q_raiseF, q_try, q_lc, q_lc2, q_yes, q_wipe0, q_wipe, q_xf, q_I, q_I0, q_U, q_add, q_addT, q_addL, q_addR, q_onL, q_onSt, q_onSl, q_onSs, q_onSrct, q_onSrcl, q_eqI, q_eqB, q_eqS, q_eqN, q_isN, q_ix, q_ixL, q_in, q_len, q_sum, q_max, q_min, q_max2, q_min2, q_abs, q_int, q_intB, q_tupof, q_lstof, q_sort, q_rep, q_cat, q_isi, q_isis, q_setat, q_onC, q_append, q_pop, q_popAt, q_reverse, q_insert, q_sp1, q_sp2, q_sp3, q_sp4, q_at0, q_atS, q_st0, q_stS, q_iteT, q_iteF, q_isB, q_sumS, q_all, q_any, q_repT, q_spV, q_nLcX, q_sFz, q_gFld, q_sFldD, q_gMake, q_gCallI, q_gMeth, q_gRev])
    refine ⟨rfl, rfl, fun Nx hN => ?_⟩
    (try dsimp only [q_op, q_un, q_var, q_c, q_nil, q_cons, q_tup, q_frz, q_cel, q_lst, q_test, q_onB, q_and, q_or, q_not, q_andV, q_orV, q_notV, q_if, q_chain, q_next, q_seq, q_drop, q_ret, q_retF, q_retN, q_sif, q_break, q_cont, q_name, q_dnil, q_dcons, q_dtup, q_asg, q_set, q_par, q_for, q_range1, q_range2, q_iseq, q_ienum, q_call, q_cb, q_ncb, q_nop, q_lenset, q_mt, q_mt0, q_setix, q_augs, q_aug, q_nsl, q_onone, q_osome, q_gsl, q_raise, q_raiseF, q_try, q_lc, q_lc2, q_yes, q_wipe0, q_wipe, q_xf, q_I, q_I0, q_U, q_add, q_addT, q_addL, q_addR, q_onL, q_onSt, q_onSl, q_onSs, q_onSrct, q_onSrcl, q_eqI, q_eqB, q_eqS, q_eqN, q_isN, q_ix, q_ixL, q_in, q_len, q_sum, q_max, q_min, q_max2, q_min2, q_abs, q_int, q_intB, q_tupof, q_lstof, q_sort, q_rep, q_cat, q_isi, q_isis, q_setat, q_onC, q_append, q_pop, q_popAt, q_reverse, q_insert, q_sp1, q_sp2, q_sp3, q_sp4, q_at0, q_atS, q_st0, q_stS, q_iteT, q_iteF, q_isB, q_sumS, q_all, q_any, q_repT, q_spV, q_nLcX, q_sFz, q_gFld, q_sFldD, q_gMake, q_gCallI, q_gMeth, q_gRev])
    refine ⟨cmul (nb_getD h1 s) (nb_pre h2 (by omega)), ?_⟩
    have := hN [some (.tup (iD one)), some (.tup (iD other)), some (.int (S1 (s + 1) fun i => one.getD i 0 * pre other i)), some (.int (pre other (s + 1))), some (.int (one.getD s 0)), some (.int (other.getD s 0))] M' ⟨⟨_, _, rfl⟩, rfl⟩
    rw [S1_succ, pre_succ] at this
    exact this
  · rintro ρ M' ⟨⟨a, b, rfl⟩, rfl⟩
    (try dsimp only [q_op, q_un, q_var, q_c, q_nil, q_cons, q_tup, q_frz, q_cel, q_lst, q_test, q_onB, q_and, q_or, q_not, q_andV, q_orV, q_notV, q_if, q_chain, q_next, q_seq, q_drop, q_ret, q_retF, q_retN, q_sif, q_break, q_cont, q_name, q_dnil, q_dcons, q_dtup, q_asg, q_set, q_par, q_for, q_range1, q_range2, q_iseq, q_ienum, q_call, q_cb, q_ncb, q_nop, q_lenset, q_mt, q_mt0, q_setix, q_augs, q_aug, q_nsl, q_onone, q_osome, q_gsl, q_raise, q_raiseF, q_try, q_lc, q_lc2, q_yes, q_wipe0, q_wipe, q_xf, q_I, q_I0, q_U, q_add, q_addT, q_addL, q_addR, q_onL, q_onSt, q_onSl, q_onSs, q_onSrct, q_onSrcl, q_eqI, q_eqB, q_eqS, q_eqN, q_isN, q_ix, q_ixL, q_in, q_len, q_sum, q_max, q_min, q_max2, q_min2, q_abs, q_int, q_intB, q_tupof, q_lstof, q_sort, q_rep, q_cat, q_isi, q_isis, q_setat, q_onC, q_append, q_pop, q_popAt, q_reverse, q_insert, q_sp1, q_sp2, q_sp3, q_sp4, q_at0, q_atS, q_st0, q_stS, q_iteT, q_iteF, q_isB, q_sumS, q_all, q_any, q_repT, q_spV, q_nLcX, q_sFz, q_gFld, q_sFldD, q_gMake, q_gCallI, q_gMeth, q_gRev])
    have e : (zipD (iD one) (iD other)).length = one.length := by rw [zipD_len, List.length_map, List.length_map]; omega
    rw [e]
    exact q
theorem b_count_lead : ∀ d0 d1 M Q E, sp_count_lead K [d0, d1] M Q E → g_count_lead K { nx := fun _ M => Q .non M, rt := Q, ex := fun x _ M => E x M } [some d0, some d1, none, none, none, none, none] M := by
  rintro d0 d1 M Q E ⟨one, other, ⟨rfl, rfl, hl, hl2, h1, h2⟩, q⟩
  unfold g_count_lead
  dsimp only [q_op, q_un, q_var, q_c, q_nil, q_cons, q_tup, q_frz, q_cel, q_lst, q_test, q_onB, q_and, q_or, q_not, q_andV, q_orV, q_notV, q_if, q_chain, q_next, q_seq, q_drop, q_ret, q_retF, q_retN, q_sif, q_break, q_cont, q_name, q_dnil, q_dcons, q_dtup, q_asg, q_set, q_par, q_for, q_range1, q_range2, q_iseq, q_ienum, q_call, q_cb, q_ncb, q_nop, q_lenset, q_mt, q_mt0, q_setix, q_augs, q_aug, q_nsl, q_onone, q_osome, q_gsl, q_raise, q_raiseF, q_try, q_lc, q_lc2, q_yes, q_wipe0, q_wipe, q_xf, q_I, q_I0, q_U, q_add, q_addT, q_addL, q_addR, q_onL, q_onSt, q_onSl, q_onSs, q_onSrct, q_onSrcl, q_eqI, q_eqB, q_eqS, q_eqN, q_isN, q_ix, q_ixL, q_in, q_len, q_sum, q_max, q_min, q_max2, q_min2, q_abs, q_int, q_intB, q_tupof, q_lstof, q_sort, q_rep, q_cat, q_isi, q_isis, q_setat, q_onC, q_append, q_pop, q_popAt, q_reverse, q_insert, q_sp1, q_sp2, q_sp3, q_sp4, q_at0, q_atS, q_st0, q_stS, q_iteT, q_iteF, q_isB, q_sumS, q_all, q_any, q_repT, q_spV, q_nLcX, q_sFz, q_gFld, q_sFldD, q_gMake, q_gCallI, q_gMeth, q_gRev, iZipD]
  refine ⟨rfl, ?_⟩
  refine loop_inv (fun s ρ M' => (∃ a b, ρ = [some (.tup (iD one)), some (.tup (iD other)), some (.int ((S1 s fun i => one.getD i 0 * pre other i) - S1 s fun i => other.getD i 0 * pre one i)), some (.int (pre one s)), some (.int (pre other s)), a, b]) ∧ M' = M) ?_ ?_ tup2_mono ?_ ⟨⟨_, _, rfl⟩, rfl⟩
  · intros; exact ⟨trivial, trivial⟩
  · rintro s ρ M' d hd ⟨⟨a, b, rfl⟩, rfl⟩
    obtain ⟨i1, i2, rfl⟩ := zip_get hd
    (try dsimp only [q_op, q_un, q_var, q_c, q_nil, q_cons, q_tup, q_frz, q_cel, q_lst, q_test, q_onB, q_and, q_or, q_not, q_andV, q_orV, q_notV, q_if, q_chain, q_next, q_seq, q_drop, q_ret, q_retF, q_retN, q_sif, q_break, q_cont, q_name, q_dnil, q_dcons, q_dtup, q_asg, q_set, q_par, q_for, q_range1, q_range2, q_iseq, q_ienum, q_call, q_cb, q_ncb, q_nop, q_lenset, q_mt, q_mt0, q_setix, q_augs, q_aug, q_nsl, q_onone, q_osome, q_gsl, q_raise, q_raiseF, q_try, q_lc, q_lc2, q_yes, q_wipe0, q_wipe, q_xf, q_I, q_I0, q_U, q_add, q_addT, q_addL, q_addR, q_onL, q_onSt, q_onSl, q_onSs, q_onSrct, q_onSrcl, q_eqI, q_eqB, q_eqS, q_eqN, q_isN, q_ix, q_ixL, q_in, q_len, q_sum, q_max, q_min, q_max2, q_min2, q_abs, q_int, q_intB, q_tupof, q_lstof, q_sort, q_rep, q_cat, q_isi, q_isis, q_setat, q_onC, q_append, q_pop, q_popAt, q_reverse, q_insert, q_sp1, q_sp2, q_sp3, q_sp4, q_at0, q_atS, q_st0, q_stS, q_iteT, q_iteF, q_isB, q_sumS, q_all, q_any, q_repT, q_spV, q_nLcX, q_sFz, q_gFld, q_sFldD, q_gMake, q_gCallI, q_gMeth, q_gRev])
    refine ⟨rfl, rfl, fun Nx hN => ?_⟩
    (try dsimp only [q_op, q_un, q_var, q_c, q_nil, q_cons, q_tup, q_frz, q_cel, q_lst, q_test, q_onB, q_and, q_or, q_not, q_andV, q_orV, q_notV, q_if, q_chain, q_next, q_seq, q_drop, q_ret, q_retF, q_retN, q_sif, q_break, q_cont, q_name, q_dnil, q_dcons, q_dtup, q_asg, q_set, q_par, q_for, q_range1, q_range2, q_iseq, q_ienum, q_call, q_cb, q_ncb, q_nop, q_lenset, q_mt, q_mt0, q_setix, q_augs, q_aug, q_nsl, q_onone, q_osome, q_gsl, q_raise, q_raiseF, q_try, q_lc, q_lc2, q_yes, q_wipe0, q_wipe, q_xf, q_I, q_I0, q_U, q_add, q_addT, q_addL, q_addR, q_onL, q_onSt, q_onSl, q_onSs, q_onSrct, q_onSrcl, q_eqI, q_eqB, q_eqS, q_eqN, q_isN, q_ix, q_ixL, q_in, q_len, q_sum, q_max, q_min, q_max2, q_min2, q_abs, q_int, q_intB, q_tupof, q_lstof, q_sort, q_rep, q_cat, q_isi, q_isis, q_setat, q_onC, q_append, q_pop, q_popAt, q_reverse, q_insert, q_sp1, q_sp2, q_sp3, q_sp4, q_at0, q_atS, q_st0, q_stS, q_iteT, q_iteF, q_isB, q_sumS, q_all, q_any, q_repT, q_spV, q_nLcX, q_sFz, q_gFld, q_sFldD, q_gMake, q_gCallI, q_gMeth, q_gRev])
    refine ⟨cmul (nb_getD h1 s) (nb_pre h2 (by omega)), cmul (nb_getD h2 s) (nb_pre h1 (by omega)), ?_⟩
    have := hN [some (.tup (iD one)), some (.tup (iD other)), some (.int ((S1 (s + 1) fun i => one.getD i 0 * pre other i) - S1 (s + 1) fun i => other.getD i 0 * pre one i)), some (.int (pre one (s + 1))), some (.int (pre other (s + 1))), some (.int (one.getD s 0)), some (.int (other.getD s 0))] M' ⟨⟨_, _, rfl⟩, rfl⟩
    rw [S1_succ, S1_succ, pre_succ, pre_succ] at this
    have e : ∀ x y z w : Int, x + y - (z + w) = x - z + y - w := by intros; omega
    rw [e] at this
    exact this
  · rintro ρ M' ⟨⟨a, b, rfl⟩, rfl⟩
    (try dsimp only [q_op, q_un, q_var, q_c, q_nil, q_cons, q_tup, q_frz, q_cel, q_lst, q_test, q_onB, q_and, q_or, q_not, q_andV, q_orV, q_notV, q_if, q_chain, q_next, q_seq, q_drop, q_ret, q_retF, q_retN, q_sif, q_break, q_cont, q_name, q_dnil, q_dcons, q_dtup, q_asg, q_set, q_par, q_for, q_range1, q_range2, q_iseq, q_ienum, q_call, q_cb, q_ncb, q_nop, q_lenset, q_mt, q_mt0, q_setix, q_augs, q_aug, q_nsl, q_onone, q_osome, q_gsl, q_raise, q_raiseF, q_try, q_lc, q_lc2, q_yes, q_wipe0, q_wipe, q_xf, q_I, q_I0, q_U, q_add, q_addT, q_addL, q_addR, q_onL, q_onSt, q_onSl, q_onSs, q_onSrct, q_onSrcl, q_eqI, q_eqB, q_eqS, q_eqN, q_isN, q_ix, q_ixL, q_in, q_len, q_sum, q_max, q_min, q_max2, q_min2, q_abs, q_int, q_intB, q_tupof, q_lstof, q_sort, q_rep, q_cat, q_isi, q_isis, q_setat, q_onC, q_append, q_pop, q_popAt, q_reverse, q_insert, q_sp1, q_sp2, q_sp3, q_sp4, q_at0, q_atS, q_st0, q_stS, q_iteT, q_iteF, q_isB, q_sumS, q_all, q_any, q_repT, q_spV, q_nLcX, q_sFz, q_gFld, q_sFldD, q_gMake, q_gCallI, q_gMeth, q_gRev])
    have e : (zipD (iD one) (iD other)).length = one.length := by rw [zipD_len, List.length_map, List.length_map]; omega
    rw [e]
    unfold leadI winsI at q
    rw [← hl] at q
    exact q
theorem dies {one other : List Int} (G : DieOk one) (G2 : DieOk other) (hl : one.length = other.length) : Dies (.tup (iD one)) (.tup (iD other)) one other := ⟨rfl, rfl, hl, G.1, fun x hx => (G.2.1 x hx).2, fun x hx => (G2.2.1 x hx).2⟩
theorem b_lead : ∀ d0 d1 M Q E, sp_lead K [d0, d1] M Q E → g_lead K { nx := fun _ M => Q .non M, rt := Q, ex := fun x _ M => E x M } [some d0, some d1, none, none] M := by
  rintro d0 d1 M Q E h
  unfold g_lead
  dsimp only [q_op, q_un, q_var, q_c, q_nil, q_cons, q_tup, q_frz, q_cel, q_lst, q_test, q_onB, q_and, q_or, q_not, q_andV, q_orV, q_notV, q_if, q_chain, q_next, q_seq, q_drop, q_ret, q_retF, q_retN, q_sif, q_break, q_cont, q_name, q_dnil, q_dcons, q_dtup, q_asg, q_set, q_par, q_for, q_range1, q_range2, q_iseq, q_ienum, q_call, q_cb, q_ncb, q_nop, q_lenset, q_mt, q_mt0, q_setix, q_augs, q_aug, q_nsl, q_onone, q_osome, q_gsl, q_raise, q_raiseF, q_try, q_lc, q_lc2, q_yes, q_wipe0, q_wipe, q_xf, q_I, q_I0, q_U, q_add, q_addT, q_addL, q_addR, q_onL, q_onSt, q_onSl, q_onSs, q_onSrct, q_onSrcl, q_eqI, q_eqB, q_eqS, q_eqN, q_isN, q_ix, q_ixL, q_in, q_len, q_sum, q_max, q_min, q_max2, q_min2, q_abs, q_int, q_intB, q_tupof, q_lstof, q_sort, q_rep, q_cat, q_isi, q_isis, q_setat, q_onC, q_append, q_pop, q_popAt, q_reverse, q_insert, q_sp1, q_sp2, q_sp3, q_sp4, q_at0, q_atS, q_st0, q_stS, q_iteT, q_iteF, q_isB, q_sumS, q_all, q_any, q_repT, q_spV, q_nLcX, q_sFz, q_gFld, q_sFldD, q_gMake, q_gCallI, q_gMeth, q_gRev, sp_two_dice, sp_count_lead]
  exact twoC_use (fun one other G G2 hl h => ⟨rfl, rfl, one, other, dies G G2 hl, h⟩) h
end
section
variable {K : PySem.W.Frag}
theorem abs_D (x : Int) : (if x < 0 then -x else x) = ((x.natAbs : Nat) : Int) := by split <;> omega
theorem b_common_divisor : ∀ d0 M Q E, sp_common_divisor K [d0] M Q E → g_common_divisor K { nx := fun _ M => Q .non M, rt := Q, ex := fun x _ M => E x M } [some d0, none, none, none] M := by
  rintro d0 M Q E ⟨ns, row, hn, q⟩
  unfold g_common_divisor
  dsimp only [q_op, q_un, q_var, q_c, q_nil, q_cons, q_tup, q_frz, q_cel, q_lst, q_test, q_onB, q_and, q_or, q_not, q_andV, q_orV, q_notV, q_if, q_chain, q_next, q_seq, q_drop, q_ret, q_retF, q_retN, q_sif, q_break, q_cont, q_name, q_dnil, q_dcons, q_dtup, q_asg, q_set, q_par, q_for, q_range1, q_range2, q_iseq, q_ienum, q_call, q_cb, q_ncb, q_nop, q_lenset, q_mt, q_mt0, q_setix, q_augs, q_aug, q_nsl, q_onone, q_osome, q_gsl, q_raise, q_raiseF, q_try, q_lc, q_lc2, q_yes, q_wipe0, q_wipe, q_xf, q_I, q_I0, q_U, q_add, q_addT, q_addL, q_addR, q_onL, q_onSt, q_onSl, q_onSs, q_onSrct, q_onSrcl, q_eqI, q_eqB, q_eqS, q_eqN, q_isN, q_ix, q_ixL, q_in, q_len, q_sum, q_max, q_min, q_max2, q_min2, q_abs, q_int, q_intB, q_tupof, q_lstof, q_sort, q_rep, q_cat, q_isi, q_isis, q_setat, q_onC, q_append, q_pop, q_popAt, q_reverse, q_insert, q_sp1, q_sp2, q_sp3, q_sp4, q_at0, q_atS, q_st0, q_stS, q_iteT, q_iteF, q_isB, q_sumS, q_all, q_any, q_repT, q_spV, q_nLcX, q_sFz, q_gFld, q_sFldD, q_gMake, q_gCallI, q_gMeth, q_gRev]
  show onSrc M d0 _
  refine row.onSrc fun ok ho ho2 => ?_
  refine loop_map D.int ns (fun s ρ M' => (∃ a b, ρ = [some d0, some (.int (gcdL (ns.take s) : Nat)), a, b]) ∧ M' = M) (fun i ρ M' _ ⟨_, e⟩ => by rw [e]; exact ho) ?_ ?_ ⟨⟨_, _, rfl⟩, rfl⟩
  · rintro s x ρ M' hx ⟨⟨a, b, rfl⟩, rfl⟩ Nx hN
    have hs := (List.getElem?_eq_some_iff.mp hx).1
    have nx := hn x (List.mem_of_getElem? hx)
    have et : ns.take (s + 1) = ns.take s ++ [x] := by rw [List.take_succ, hx]; rfl
    (try dsimp only [q_op, q_un, q_var, q_c, q_nil, q_cons, q_tup, q_frz, q_cel, q_lst, q_test, q_onB, q_and, q_or, q_not, q_andV, q_orV, q_notV, q_if, q_chain, q_next, q_seq, q_drop, q_ret, q_retF, q_retN, q_sif, q_break, q_cont, q_name, q_dnil, q_dcons, q_dtup, q_asg, q_set, q_par, q_for, q_range1, q_range2, q_iseq, q_ienum, q_call, q_cb, q_ncb, q_nop, q_lenset, q_mt, q_mt0, q_setix, q_augs, q_aug, q_nsl, q_onone, q_osome, q_gsl, q_raise, q_raiseF, q_try, q_lc, q_lc2, q_yes, q_wipe0, q_wipe, q_xf, q_I, q_I0, q_U, q_add, q_addT, q_addL, q_addR, q_onL, q_onSt, q_onSl, q_onSs, q_onSrct, q_onSrcl, q_eqI, q_eqB, q_eqS, q_eqN, q_isN, q_ix, q_ixL, q_in, q_len, q_sum, q_max, q_min, q_max2, q_min2, q_abs, q_int, q_intB, q_tupof, q_lstof, q_sort, q_rep, q_cat, q_isi, q_isis, q_setat, q_onC, q_append, q_pop, q_popAt, q_reverse, q_insert, q_sp1, q_sp2, q_sp3, q_sp4, q_at0, q_atS, q_st0, q_stS, q_iteT, q_iteF, q_isB, q_sumS, q_all, q_any, q_repT, q_spV, q_nLcX, q_sFz, q_gFld, q_sFldD, q_gMake, q_gCallI, q_gMeth, q_gRev])
    rw [abs_D]
    refine ⟨fun m ρ M2 => (∃ d r : Nat, ρ = [some d0, some (.int (d : Nat)), some (.int x), some (.int (r : Nat))] ∧ Nat.gcd d r = Nat.gcd (gcdL (ns.take s)) x.natAbs ∧ r = m ∧ nb 4000 (r : Nat)) ∧ M2 = M', ⟨x.natAbs, ⟨_, _, rfl, rfl, rfl, ?_⟩, rfl⟩, ?_⟩
    · unfold nb
      rw [Int.natAbs_natCast]
      exact nx
    rintro m ρ M2 ⟨⟨d, r, rfl, hg, rfl, hr⟩, rfl⟩
    (try dsimp only [q_op, q_un, q_var, q_c, q_nil, q_cons, q_tup, q_frz, q_cel, q_lst, q_test, q_onB, q_and, q_or, q_not, q_andV, q_orV, q_notV, q_if, q_chain, q_next, q_seq, q_drop, q_ret, q_retF, q_retN, q_sif, q_break, q_cont, q_name, q_dnil, q_dcons, q_dtup, q_asg, q_set, q_par, q_for, q_range1, q_range2, q_iseq, q_ienum, q_call, q_cb, q_ncb, q_nop, q_lenset, q_mt, q_mt0, q_setix, q_augs, q_aug, q_nsl, q_onone, q_osome, q_gsl, q_raise, q_raiseF, q_try, q_lc, q_lc2, q_yes, q_wipe0, q_wipe, q_xf, q_I, q_I0, q_U, q_add, q_addT, q_addL, q_addR, q_onL, q_onSt, q_onSl, q_onSs, q_onSrct, q_onSrcl, q_eqI, q_eqB, q_eqS, q_eqN, q_isN, q_ix, q_ixL, q_in, q_len, q_sum, q_max, q_min, q_max2, q_min2, q_abs, q_int, q_intB, q_tupof, q_lstof, q_sort, q_rep, q_cat, q_isi, q_isis, q_setat, q_onC, q_append, q_pop, q_popAt, q_reverse, q_insert, q_sp1, q_sp2, q_sp3, q_sp4, q_at0, q_atS, q_st0, q_stS, q_iteT, q_iteF, q_isB, q_sumS, q_all, q_any, q_repT, q_spV, q_nLcX, q_sFz, q_gFld, q_sFldD, q_gMake, q_gCallI, q_gMeth, q_gRev])
    by_cases c : r = 0
    · subst c
      refine if_f (by rfl) (hN _ _ ⟨⟨some (.int x), some (.int ((0 : Nat) : Int)), ?_⟩, rfl⟩)
      rw [et, gcdL_snoc, ← hg, Nat.gcd_zero_right]
    · refine if_t (decide_eq_true (by omega)) ⟨by omega, d % r, Nat.mod_lt _ (by omega), ⟨r, d % r, rfl, ?_, rfl, ?_⟩, rfl⟩
      · rw [← hg, Nat.gcd_comm d r, Nat.gcd_rec r d, Nat.gcd_comm]
      · unfold nb at *
        rw [Int.natAbs_natCast] at hr ⊢
        have := Nat.mod_lt d (show r > 0 by omega)
        omega
  · rintro ρ M' ⟨⟨a, b, rfl⟩, rfl⟩
    rw [List.take_length]
    (try dsimp only [q_op, q_un, q_var, q_c, q_nil, q_cons, q_tup, q_frz, q_cel, q_lst, q_test, q_onB, q_and, q_or, q_not, q_andV, q_orV, q_notV, q_if, q_chain, q_next, q_seq, q_drop, q_ret, q_retF, q_retN, q_sif, q_break, q_cont, q_name, q_dnil, q_dcons, q_dtup, q_asg, q_set, q_par, q_for, q_range1, q_range2, q_iseq, q_ienum, q_call, q_cb, q_ncb, q_nop, q_lenset, q_mt, q_mt0, q_setix, q_augs, q_aug, q_nsl, q_onone, q_osome, q_gsl, q_raise, q_raiseF, q_try, q_lc, q_lc2, q_yes, q_wipe0, q_wipe, q_xf, q_I, q_I0, q_U, q_add, q_addT, q_addL, q_addR, q_onL, q_onSt, q_onSl, q_onSs, q_onSrct, q_onSrcl, q_eqI, q_eqB, q_eqS, q_eqN, q_isN, q_ix, q_ixL, q_in, q_len, q_sum, q_max, q_min, q_max2, q_min2, q_abs, q_int, q_intB, q_tupof, q_lstof, q_sort, q_rep, q_cat, q_isi, q_isis, q_setat, q_onC, q_append, q_pop, q_popAt, q_reverse, q_insert, q_sp1, q_sp2, q_sp3, q_sp4, q_at0, q_atS, q_st0, q_stS, q_iteT, q_iteF, q_isB, q_sumS, q_all, q_any, q_repT, q_spV, q_nLcX, q_sFz, q_gFld, q_sFldD, q_gMake, q_gCallI, q_gMeth, q_gRev])
    exact q
theorem nb_gcd {n : Nat} {t b : Int} (h : 0 < b) (hb : nb n b) : nb n (Int.gcd t b : Nat) := by
  have : Int.gcd t b ≤ b.natAbs := Nat.gcd_le_right _ (by omega)
  unfold nb at *
  rw [Int.natAbs_natCast]
  omega
theorem b_lowest : ∀ d0 d1 M Q E, sp_lowest K [d0, d1] M Q E → g_lowest K { nx := fun _ M => Q .non M, rt := Q, ex := fun x _ M => E x M } [some d0, some d1, none] M := by
  rintro d0 d1 M Q E ⟨t, b, rfl, rfl, hb, n1, n2, q⟩
  unfold g_lowest
  dsimp only [q_op, q_un, q_var, q_c, q_nil, q_cons, q_tup, q_frz, q_cel, q_lst, q_test, q_onB, q_and, q_or, q_not, q_andV, q_orV, q_notV, q_if, q_chain, q_next, q_seq, q_drop, q_ret, q_retF, q_retN, q_sif, q_break, q_cont, q_name, q_dnil, q_dcons, q_dtup, q_asg, q_set, q_par, q_for, q_range1, q_range2, q_iseq, q_ienum, q_call, q_cb, q_ncb, q_nop, q_lenset, q_mt, q_mt0, q_setix, q_augs, q_aug, q_nsl, q_onone, q_osome, q_gsl, q_raise, q_raiseF, q_try, q_lc, q_lc2, q_yes, q_wipe0, q_wipe, q_xf, q_I, q_I0, q_U, q_add, q_addT, q_addL, q_addR, q_onL, q_onSt, q_onSl, q_onSs, q_onSrct, q_onSrcl, q_eqI, q_eqB, q_eqS, q_eqN, q_isN, q_ix, q_ixL, q_in, q_len, q_sum, q_max, q_min, q_max2, q_min2, q_abs, q_int, q_intB, q_tupof, q_lstof, q_sort, q_rep, q_cat, q_isi, q_isis, q_setat, q_onC, q_append, q_pop, q_popAt, q_reverse, q_insert, q_sp1, q_sp2, q_sp3, q_sp4, q_at0, q_atS, q_st0, q_stS, q_iteT, q_iteF, q_isB, q_sumS, q_all, q_any, q_repT, q_spV, q_nLcX, q_sFz, q_gFld, q_sFldD, q_gMake, q_gCallI, q_gMeth, q_gRev, sp_common_divisor]
  have g0 : (0 : Int) < (Int.gcd t b : Nat) := by have := g_pos (t := t) hb; omega
  refine ⟨by rw [sz]; show 2 ≤ 16777216; omega, [t, b], RowD.tup, fun a ha => ?_, ?_⟩
  · rcases List.mem_cons.mp ha with rfl | ha
    · exact nb_mono n1 (by decide)
    · rw [List.mem_singleton.mp ha]
      exact nb_mono n2 (by decide)
  rw [gcdL_two]
  (try dsimp only [q_op, q_un, q_var, q_c, q_nil, q_cons, q_tup, q_frz, q_cel, q_lst, q_test, q_onB, q_and, q_or, q_not, q_andV, q_orV, q_notV, q_if, q_chain, q_next, q_seq, q_drop, q_ret, q_retF, q_retN, q_sif, q_break, q_cont, q_name, q_dnil, q_dcons, q_dtup, q_asg, q_set, q_par, q_for, q_range1, q_range2, q_iseq, q_ienum, q_call, q_cb, q_ncb, q_nop, q_lenset, q_mt, q_mt0, q_setix, q_augs, q_aug, q_nsl, q_onone, q_osome, q_gsl, q_raise, q_raiseF, q_try, q_lc, q_lc2, q_yes, q_wipe0, q_wipe, q_xf, q_I, q_I0, q_U, q_add, q_addT, q_addL, q_addR, q_onL, q_onSt, q_onSl, q_onSs, q_onSrct, q_onSrcl, q_eqI, q_eqB, q_eqS, q_eqN, q_isN, q_ix, q_ixL, q_in, q_len, q_sum, q_max, q_min, q_max2, q_min2, q_abs, q_int, q_intB, q_tupof, q_lstof, q_sort, q_rep, q_cat, q_isi, q_isis, q_setat, q_onC, q_append, q_pop, q_popAt, q_reverse, q_insert, q_sp1, q_sp2, q_sp3, q_sp4, q_at0, q_atS, q_st0, q_stS, q_iteT, q_iteF, q_isB, q_sumS, q_all, q_any, q_repT, q_spV, q_nLcX, q_sFz, q_gFld, q_sFldD, q_gMake, q_gCallI, q_gMeth, q_gRev])
  exact ⟨cdiv g0 (nb_gcd hb n2), cdiv g0 (nb_gcd hb n2), by rw [sz]; show 2 ≤ 16777216; omega, q⟩
theorem euc_step {x y : Nat} (h : y < x) (h0 : 0 < y) : x % y < y ∧ 2 * (y * (x % y)) < x * y := by
  have h1 := Nat.mod_lt x h0
  have h2 : x % y + y ≤ x := by
    have e := Nat.div_add_mod x y
    have hd : 1 ≤ x / y := (Nat.le_div_iff_mul_le h0).mpr (by omega)
    have := Nat.mul_le_mul_left y hd
    omega
  refine ⟨h1, ?_⟩
  have h3 : 2 * (x % y) < x := by omega
  calc 2 * (y * (x % y)) = (2 * (x % y)) * y := by rw [Nat.mul_comm y, Nat.mul_assoc]
    _ < x * y := Nat.mul_lt_mul_of_pos_right h3 h0
theorem b__law_divisor : ∀ d0 d1 M Q E, sp__law_divisor K [d0, d1] M Q E → g__law_divisor K { nx := fun _ M => Q .non M, rt := Q, ex := fun x _ M => E x M } [some d0, some d1, none, none] M := by
  rintro d0 d1 M Q E ⟨x, y, rfl, rfl, hy, hn, q⟩
  unfold g__law_divisor
  dsimp only [q_op, q_un, q_var, q_c, q_nil, q_cons, q_tup, q_frz, q_cel, q_lst, q_test, q_onB, q_and, q_or, q_not, q_andV, q_orV, q_notV, q_if, q_chain, q_next, q_seq, q_drop, q_ret, q_retF, q_retN, q_sif, q_break, q_cont, q_name, q_dnil, q_dcons, q_dtup, q_asg, q_set, q_par, q_for, q_range1, q_range2, q_iseq, q_ienum, q_call, q_cb, q_ncb, q_nop, q_lenset, q_mt, q_mt0, q_setix, q_augs, q_aug, q_nsl, q_onone, q_osome, q_gsl, q_raise, q_raiseF, q_try, q_lc, q_lc2, q_yes, q_wipe0, q_wipe, q_xf, q_I, q_I0, q_U, q_add, q_addT, q_addL, q_addR, q_onL, q_onSt, q_onSl, q_onSs, q_onSrct, q_onSrcl, q_eqI, q_eqB, q_eqS, q_eqN, q_isN, q_ix, q_ixL, q_in, q_len, q_sum, q_max, q_min, q_max2, q_min2, q_abs, q_int, q_intB, q_tupof, q_lstof, q_sort, q_rep, q_cat, q_isi, q_isis, q_setat, q_onC, q_append, q_pop, q_popAt, q_reverse, q_insert, q_sp1, q_sp2, q_sp3, q_sp4, q_at0, q_atS, q_st0, q_stS, q_iteT, q_iteF, q_isB, q_sumS, q_all, q_any, q_repT, q_spV, q_nLcX, q_sFz, q_gFld, q_sFldD, q_gMake, q_gCallI, q_gMeth, q_gRev]
  refine ⟨by decide, ?_⟩
  rw [show ((4000 : Int).toNat) = 4000 by rfl]
  refine loop_rg0 (fun s ρ M' => (∃ (u v : Int) (a b : Option D), ρ = [some (.int u), some (.int v), a, b] ∧ Int.gcd u v = Int.gcd x y ∧ ((s = 0 ∧ u = x ∧ v = y) ∨ ∃ m n : Nat, u = m ∧ v = n ∧ 1 ≤ s ∧ s ≤ 3001 ∧ n < m ∧ m * n < 2 ^ (3001 - s) ∧ m < 2 ^ 1500)) ∧ M' = M) ?_ ?_ ⟨⟨x, y, none, none, rfl, rfl, .inl ⟨rfl, rfl, rfl⟩⟩, rfl⟩
  · rintro s ρ M' hs ⟨⟨u, v, a, b, rfl, hg, hc⟩, rfl⟩ Nx hN
    (try dsimp only [q_op, q_un, q_var, q_c, q_nil, q_cons, q_tup, q_frz, q_cel, q_lst, q_test, q_onB, q_and, q_or, q_not, q_andV, q_orV, q_notV, q_if, q_chain, q_next, q_seq, q_drop, q_ret, q_retF, q_retN, q_sif, q_break, q_cont, q_name, q_dnil, q_dcons, q_dtup, q_asg, q_set, q_par, q_for, q_range1, q_range2, q_iseq, q_ienum, q_call, q_cb, q_ncb, q_nop, q_lenset, q_mt, q_mt0, q_setix, q_augs, q_aug, q_nsl, q_onone, q_osome, q_gsl, q_raise, q_raiseF, q_try, q_lc, q_lc2, q_yes, q_wipe0, q_wipe, q_xf, q_I, q_I0, q_U, q_add, q_addT, q_addL, q_addR, q_onL, q_onSt, q_onSl, q_onSs, q_onSrct, q_onSrcl, q_eqI, q_eqB, q_eqS, q_eqN, q_isN, q_ix, q_ixL, q_in, q_len, q_sum, q_max, q_min, q_max2, q_min2, q_abs, q_int, q_intB, q_tupof, q_lstof, q_sort, q_rep, q_cat, q_isi, q_isis, q_setat, q_onC, q_append, q_pop, q_popAt, q_reverse, q_insert, q_sp1, q_sp2, q_sp3, q_sp4, q_at0, q_atS, q_st0, q_stS, q_iteT, q_iteF, q_isB, q_sumS, q_all, q_any, q_repT, q_spV, q_nLcX, q_sFz, q_gFld, q_sFldD, q_gMake, q_gCallI, q_gMeth, q_gRev])
    have hv : 0 ≤ v := by
      rcases hc with ⟨_, _, rfl⟩ | ⟨m, n, _, rfl, _⟩
      · exact hy
      · omega
    by_cases c : v = 0
    · refine if_t (decide_eq_true c) ?_
      rw [abs_D]
      have : u.natAbs = Int.gcd x y := by rw [← hg, c, Int.gcd_zero_right]
      rw [this]
      exact q
    · refine if_f (decide_eq_false c) ?_
      (try dsimp only [q_op, q_un, q_var, q_c, q_nil, q_cons, q_tup, q_frz, q_cel, q_lst, q_test, q_onB, q_and, q_or, q_not, q_andV, q_orV, q_notV, q_if, q_chain, q_next, q_seq, q_drop, q_ret, q_retF, q_retN, q_sif, q_break, q_cont, q_name, q_dnil, q_dcons, q_dtup, q_asg, q_set, q_par, q_for, q_range1, q_range2, q_iseq, q_ienum, q_call, q_cb, q_ncb, q_nop, q_lenset, q_mt, q_mt0, q_setix, q_augs, q_aug, q_nsl, q_onone, q_osome, q_gsl, q_raise, q_raiseF, q_try, q_lc, q_lc2, q_yes, q_wipe0, q_wipe, q_xf, q_I, q_I0, q_U, q_add, q_addT, q_addL, q_addR, q_onL, q_onSt, q_onSl, q_onSs, q_onSrct, q_onSrcl, q_eqI, q_eqB, q_eqS, q_eqN, q_isN, q_ix, q_ixL, q_in, q_len, q_sum, q_max, q_min, q_max2, q_min2, q_abs, q_int, q_intB, q_tupof, q_lstof, q_sort, q_rep, q_cat, q_isi, q_isis, q_setat, q_onC, q_append, q_pop, q_popAt, q_reverse, q_insert, q_sp1, q_sp2, q_sp3, q_sp4, q_at0, q_atS, q_st0, q_stS, q_iteT, q_iteF, q_isB, q_sumS, q_all, q_any, q_repT, q_spV, q_nLcX, q_sFz, q_gFld, q_sFldD, q_gMake, q_gCallI, q_gMeth, q_gRev])
      refine ⟨by omega, hN _ _ ⟨⟨v, u % v, _, _, rfl, ?_, ?_⟩, rfl⟩⟩
      · rw [← hg, Int.gcd_comm u v, Int.emod_def]
        first
          | rw [Int.gcd_sub_mul_left_right]
          | rw [Int.gcd_sub_mul_right_right]
          | (rw [Int.mul_comm]; rw [Int.gcd_sub_mul_left_right])
          | (rw [Int.mul_comm]; rw [Int.gcd_sub_mul_right_right])
      · obtain ⟨n, rfl⟩ : ∃ n : Nat, v = (n : Int) := ⟨v.toNat, by omega⟩
        rcases hc with ⟨rfl, rfl, rfl⟩ | ⟨m, n', rfl, e, h1, h2, h3, h4, h5⟩
        · have h0 := Int.emod_nonneg u (show (n : Int) ≠ 0 by omega)
          have h1 := Int.emod_lt_of_pos u (show (0 : Int) < n by omega)
          unfold nb at hn
          rw [Int.natAbs_natCast] at hn
          refine .inr ⟨n, (u % (n : Int)).toNat, rfl, by omega, by omega, by omega, by omega, ?_, hn⟩
          have h2 : (u % (n : Int)).toNat < 2 ^ 1500 := by omega
          calc n * (u % (n : Int)).toNat < 2 ^ 1500 * 2 ^ 1500 := Nat.mul_lt_mul'' hn h2
            _ = 2 ^ (3001 - (0 + 1)) := by rw [← Nat.pow_add]
        · have en : n' = n := by omega
          subst en
          have h0 : 0 < n' := by omega
          obtain ⟨k1, k2⟩ := euc_step h3 h0
          have hs2 : s < 3001 := by
            refine Classical.byContradiction fun z => ?_
            have z2 : 3001 - s = 0 := by omega
            rw [z2] at h4
            have := Nat.mul_pos (show 0 < m by omega) h0
            omega
          refine .inr ⟨n', m % n', rfl, rfl, by omega, by omega, k1, ?_, by omega⟩
          have e2 : 2 ^ (3001 - s) = 2 ^ (3001 - (s + 1)) * 2 := by rw [← Nat.pow_succ]; congr 1; omega
          rw [e2] at h4
          omega
  · rintro ρ M' ⟨⟨u, v, a, b, rfl, hg, hc⟩, rfl⟩
    rcases hc with ⟨z, _⟩ | ⟨_, _, _, _, _, z, _⟩
    · exact absurd z (by decide)
    · exact absurd z (by decide)
theorem b__law_is_fraction : ∀ d0 M Q E, sp__law_is_fraction K [d0] M Q E → g__law_is_fraction K { nx := fun _ M => Q .non M, rt := Q, ex := fun x _ M => E x M } [some d0] M := by
  rintro d0 M Q E ⟨t, b, rfl, hb, hn, q⟩
  have hp := lo_pos (t := t) hb
  unfold g__law_is_fraction frD
  dsimp only [q_op, q_un, q_var, q_c, q_nil, q_cons, q_tup, q_frz, q_cel, q_lst, q_test, q_onB, q_and, q_or, q_not, q_andV, q_orV, q_notV, q_if, q_chain, q_next, q_seq, q_drop, q_ret, q_retF, q_retN, q_sif, q_break, q_cont, q_name, q_dnil, q_dcons, q_dtup, q_asg, q_set, q_par, q_for, q_range1, q_range2, q_iseq, q_ienum, q_call, q_cb, q_ncb, q_nop, q_lenset, q_mt, q_mt0, q_setix, q_augs, q_aug, q_nsl, q_onone, q_osome, q_gsl, q_raise, q_raiseF, q_try, q_lc, q_lc2, q_yes, q_wipe0, q_wipe, q_xf, q_I, q_I0, q_U, q_add, q_addT, q_addL, q_addR, q_onL, q_onSt, q_onSl, q_onSs, q_onSrct, q_onSrcl, q_eqI, q_eqB, q_eqS, q_eqN, q_isN, q_ix, q_ixL, q_in, q_len, q_sum, q_max, q_min, q_max2, q_min2, q_abs, q_int, q_intB, q_tupof, q_lstof, q_sort, q_rep, q_cat, q_isi, q_isis, q_setat, q_onC, q_append, q_pop, q_popAt, q_reverse, q_insert, q_sp1, q_sp2, q_sp3, q_sp4, q_at0, q_atS, q_st0, q_stS, q_iteT, q_iteF, q_isB, q_sumS, q_all, q_any, q_repT, q_spV, q_nLcX, q_sFz, q_gFld, q_sFldD, q_gMake, q_gCallI, q_gMeth, q_gRev, sp__law_int, sp__law_divisor]
  refine ⟨.tuple, true, rfl, rfl, ?_⟩
  (try dsimp only [q_op, q_un, q_var, q_c, q_nil, q_cons, q_tup, q_frz, q_cel, q_lst, q_test, q_onB, q_and, q_or, q_not, q_andV, q_orV, q_notV, q_if, q_chain, q_next, q_seq, q_drop, q_ret, q_retF, q_retN, q_sif, q_break, q_cont, q_name, q_dnil, q_dcons, q_dtup, q_asg, q_set, q_par, q_for, q_range1, q_range2, q_iseq, q_ienum, q_call, q_cb, q_ncb, q_nop, q_lenset, q_mt, q_mt0, q_setix, q_augs, q_aug, q_nsl, q_onone, q_osome, q_gsl, q_raise, q_raiseF, q_try, q_lc, q_lc2, q_yes, q_wipe0, q_wipe, q_xf, q_I, q_I0, q_U, q_add, q_addT, q_addL, q_addR, q_onL, q_onSt, q_onSl, q_onSs, q_onSrct, q_onSrcl, q_eqI, q_eqB, q_eqS, q_eqN, q_isN, q_ix, q_ixL, q_in, q_len, q_sum, q_max, q_min, q_max2, q_min2, q_abs, q_int, q_intB, q_tupof, q_lstof, q_sort, q_rep, q_cat, q_isi, q_isis, q_setat, q_onC, q_append, q_pop, q_popAt, q_reverse, q_insert, q_sp1, q_sp2, q_sp3, q_sp4, q_at0, q_atS, q_st0, q_stS, q_iteT, q_iteF, q_isB, q_sumS, q_all, q_any, q_repT, q_spV, q_nLcX, q_sFz, q_gFld, q_sFldD, q_gMake, q_gCallI, q_gMeth, q_gRev])
  refine if_f (by rfl) (if_f (by rfl) ⟨_, rfl, .int, rfl, ?_⟩)
  (try dsimp only [q_op, q_un, q_var, q_c, q_nil, q_cons, q_tup, q_frz, q_cel, q_lst, q_test, q_onB, q_and, q_or, q_not, q_andV, q_orV, q_notV, q_if, q_chain, q_next, q_seq, q_drop, q_ret, q_retF, q_retN, q_sif, q_break, q_cont, q_name, q_dnil, q_dcons, q_dtup, q_asg, q_set, q_par, q_for, q_range1, q_range2, q_iseq, q_ienum, q_call, q_cb, q_ncb, q_nop, q_lenset, q_mt, q_mt0, q_setix, q_augs, q_aug, q_nsl, q_onone, q_osome, q_gsl, q_raise, q_raiseF, q_try, q_lc, q_lc2, q_yes, q_wipe0, q_wipe, q_xf, q_I, q_I0, q_U, q_add, q_addT, q_addL, q_addR, q_onL, q_onSt, q_onSl, q_onSs, q_onSrct, q_onSrcl, q_eqI, q_eqB, q_eqS, q_eqN, q_isN, q_ix, q_ixL, q_in, q_len, q_sum, q_max, q_min, q_max2, q_min2, q_abs, q_int, q_intB, q_tupof, q_lstof, q_sort, q_rep, q_cat, q_isi, q_isis, q_setat, q_onC, q_append, q_pop, q_popAt, q_reverse, q_insert, q_sp1, q_sp2, q_sp3, q_sp4, q_at0, q_atS, q_st0, q_stS, q_iteT, q_iteF, q_isB, q_sumS, q_all, q_any, q_repT, q_spV, q_nLcX, q_sFz, q_gFld, q_sFldD, q_gMake, q_gCallI, q_gMeth, q_gRev])
  refine if_f (by rfl) ⟨_, rfl, .int, rfl, ?_⟩
  (try dsimp only [q_op, q_un, q_var, q_c, q_nil, q_cons, q_tup, q_frz, q_cel, q_lst, q_test, q_onB, q_and, q_or, q_not, q_andV, q_orV, q_notV, q_if, q_chain, q_next, q_seq, q_drop, q_ret, q_retF, q_retN, q_sif, q_break, q_cont, q_name, q_dnil, q_dcons, q_dtup, q_asg, q_set, q_par, q_for, q_range1, q_range2, q_iseq, q_ienum, q_call, q_cb, q_ncb, q_nop, q_lenset, q_mt, q_mt0, q_setix, q_augs, q_aug, q_nsl, q_onone, q_osome, q_gsl, q_raise, q_raiseF, q_try, q_lc, q_lc2, q_yes, q_wipe0, q_wipe, q_xf, q_I, q_I0, q_U, q_add, q_addT, q_addL, q_addR, q_onL, q_onSt, q_onSl, q_onSs, q_onSrct, q_onSrcl, q_eqI, q_eqB, q_eqS, q_eqN, q_isN, q_ix, q_ixL, q_in, q_len, q_sum, q_max, q_min, q_max2, q_min2, q_abs, q_int, q_intB, q_tupof, q_lstof, q_sort, q_rep, q_cat, q_isi, q_isis, q_setat, q_onC, q_append, q_pop, q_popAt, q_reverse, q_insert, q_sp1, q_sp2, q_sp3, q_sp4, q_at0, q_atS, q_st0, q_stS, q_iteT, q_iteF, q_isB, q_sumS, q_all, q_any, q_repT, q_spV, q_nLcX, q_sFz, q_gFld, q_sFldD, q_gMake, q_gCallI, q_gMeth, q_gRev])
  refine if_f (by rfl) ⟨_, rfl, ?_⟩
  (try dsimp only [q_op, q_un, q_var, q_c, q_nil, q_cons, q_tup, q_frz, q_cel, q_lst, q_test, q_onB, q_and, q_or, q_not, q_andV, q_orV, q_notV, q_if, q_chain, q_next, q_seq, q_drop, q_ret, q_retF, q_retN, q_sif, q_break, q_cont, q_name, q_dnil, q_dcons, q_dtup, q_asg, q_set, q_par, q_for, q_range1, q_range2, q_iseq, q_ienum, q_call, q_cb, q_ncb, q_nop, q_lenset, q_mt, q_mt0, q_setix, q_augs, q_aug, q_nsl, q_onone, q_osome, q_gsl, q_raise, q_raiseF, q_try, q_lc, q_lc2, q_yes, q_wipe0, q_wipe, q_xf, q_I, q_I0, q_U, q_add, q_addT, q_addL, q_addR, q_onL, q_onSt, q_onSl, q_onSs, q_onSrct, q_onSrcl, q_eqI, q_eqB, q_eqS, q_eqN, q_isN, q_ix, q_ixL, q_in, q_len, q_sum, q_max, q_min, q_max2, q_min2, q_abs, q_int, q_intB, q_tupof, q_lstof, q_sort, q_rep, q_cat, q_isi, q_isis, q_setat, q_onC, q_append, q_pop, q_popAt, q_reverse, q_insert, q_sp1, q_sp2, q_sp3, q_sp4, q_at0, q_atS, q_st0, q_stS, q_iteT, q_iteF, q_isB, q_sumS, q_all, q_any, q_repT, q_spV, q_nLcX, q_sFz, q_gFld, q_sFldD, q_gMake, q_gCallI, q_gMeth, q_gRev])
  refine if_f (decide_eq_false (by omega)) ⟨_, rfl, _, rfl, _, _, rfl, rfl, by omega, nb_mono (lo_nb2 hb hn) (by decide), ?_⟩
  rw [lo_gcd hb]
  (try dsimp only [q_op, q_un, q_var, q_c, q_nil, q_cons, q_tup, q_frz, q_cel, q_lst, q_test, q_onB, q_and, q_or, q_not, q_andV, q_orV, q_notV, q_if, q_chain, q_next, q_seq, q_drop, q_ret, q_retF, q_retN, q_sif, q_break, q_cont, q_name, q_dnil, q_dcons, q_dtup, q_asg, q_set, q_par, q_for, q_range1, q_range2, q_iseq, q_ienum, q_call, q_cb, q_ncb, q_nop, q_lenset, q_mt, q_mt0, q_setix, q_augs, q_aug, q_nsl, q_onone, q_osome, q_gsl, q_raise, q_raiseF, q_try, q_lc, q_lc2, q_yes, q_wipe0, q_wipe, q_xf, q_I, q_I0, q_U, q_add, q_addT, q_addL, q_addR, q_onL, q_onSt, q_onSl, q_onSs, q_onSrct, q_onSrcl, q_eqI, q_eqB, q_eqS, q_eqN, q_isN, q_ix, q_ixL, q_in, q_len, q_sum, q_max, q_min, q_max2, q_min2, q_abs, q_int, q_intB, q_tupof, q_lstof, q_sort, q_rep, q_cat, q_isi, q_isis, q_setat, q_onC, q_append, q_pop, q_popAt, q_reverse, q_insert, q_sp1, q_sp2, q_sp3, q_sp4, q_at0, q_atS, q_st0, q_stS, q_iteT, q_iteF, q_isB, q_sumS, q_all, q_any, q_repT, q_spV, q_nLcX, q_sFz, q_gFld, q_sFldD, q_gMake, q_gCallI, q_gMeth, q_gRev])
  exact q
theorem b__law_same_worth : ∀ d0 d1 M Q E, sp__law_same_worth K [d0, d1] M Q E → g__law_same_worth K { nx := fun _ M => Q .non M, rt := Q, ex := fun x _ M => E x M } [some d0, some d1] M := by
  rintro d0 d1 M Q E ⟨a, b, c, d, rfl, rfl, n1, n2, n3, n4, q⟩
  unfold g__law_same_worth
  dsimp only [q_op, q_un, q_var, q_c, q_nil, q_cons, q_tup, q_frz, q_cel, q_lst, q_test, q_onB, q_and, q_or, q_not, q_andV, q_orV, q_notV, q_if, q_chain, q_next, q_seq, q_drop, q_ret, q_retF, q_retN, q_sif, q_break, q_cont, q_name, q_dnil, q_dcons, q_dtup, q_asg, q_set, q_par, q_for, q_range1, q_range2, q_iseq, q_ienum, q_call, q_cb, q_ncb, q_nop, q_lenset, q_mt, q_mt0, q_setix, q_augs, q_aug, q_nsl, q_onone, q_osome, q_gsl, q_raise, q_raiseF, q_try, q_lc, q_lc2, q_yes, q_wipe0, q_wipe, q_xf, q_I, q_I0, q_U, q_add, q_addT, q_addL, q_addR, q_onL, q_onSt, q_onSl, q_onSs, q_onSrct, q_onSrcl, q_eqI, q_eqB, q_eqS, q_eqN, q_isN, q_ix, q_ixL, q_in, q_len, q_sum, q_max, q_min, q_max2, q_min2, q_abs, q_int, q_intB, q_tupof, q_lstof, q_sort, q_rep, q_cat, q_isi, q_isis, q_setat, q_onC, q_append, q_pop, q_popAt, q_reverse, q_insert, q_sp1, q_sp2, q_sp3, q_sp4, q_at0, q_atS, q_st0, q_stS, q_iteT, q_iteF, q_isB, q_sumS, q_all, q_any, q_repT, q_spV, q_nLcX, q_sFz, q_gFld, q_sFldD, q_gMake, q_gCallI, q_gMeth, q_gRev]
  refine ⟨_, rfl, _, rfl, ?_⟩
  (try dsimp only [q_op, q_un, q_var, q_c, q_nil, q_cons, q_tup, q_frz, q_cel, q_lst, q_test, q_onB, q_and, q_or, q_not, q_andV, q_orV, q_notV, q_if, q_chain, q_next, q_seq, q_drop, q_ret, q_retF, q_retN, q_sif, q_break, q_cont, q_name, q_dnil, q_dcons, q_dtup, q_asg, q_set, q_par, q_for, q_range1, q_range2, q_iseq, q_ienum, q_call, q_cb, q_ncb, q_nop, q_lenset, q_mt, q_mt0, q_setix, q_augs, q_aug, q_nsl, q_onone, q_osome, q_gsl, q_raise, q_raiseF, q_try, q_lc, q_lc2, q_yes, q_wipe0, q_wipe, q_xf, q_I, q_I0, q_U, q_add, q_addT, q_addL, q_addR, q_onL, q_onSt, q_onSl, q_onSs, q_onSrct, q_onSrcl, q_eqI, q_eqB, q_eqS, q_eqN, q_isN, q_ix, q_ixL, q_in, q_len, q_sum, q_max, q_min, q_max2, q_min2, q_abs, q_int, q_intB, q_tupof, q_lstof, q_sort, q_rep, q_cat, q_isi, q_isis, q_setat, q_onC, q_append, q_pop, q_popAt, q_reverse, q_insert, q_sp1, q_sp2, q_sp3, q_sp4, q_at0, q_atS, q_st0, q_stS, q_iteT, q_iteF, q_isB, q_sumS, q_all, q_any, q_repT, q_spV, q_nLcX, q_sFz, q_gFld, q_sFldD, q_gMake, q_gCallI, q_gMeth, q_gRev])
  refine ⟨cmul n1 n4, _, rfl, _, rfl, ?_⟩
  (try dsimp only [q_op, q_un, q_var, q_c, q_nil, q_cons, q_tup, q_frz, q_cel, q_lst, q_test, q_onB, q_and, q_or, q_not, q_andV, q_orV, q_notV, q_if, q_chain, q_next, q_seq, q_drop, q_ret, q_retF, q_retN, q_sif, q_break, q_cont, q_name, q_dnil, q_dcons, q_dtup, q_asg, q_set, q_par, q_for, q_range1, q_range2, q_iseq, q_ienum, q_call, q_cb, q_ncb, q_nop, q_lenset, q_mt, q_mt0, q_setix, q_augs, q_aug, q_nsl, q_onone, q_osome, q_gsl, q_raise, q_raiseF, q_try, q_lc, q_lc2, q_yes, q_wipe0, q_wipe, q_xf, q_I, q_I0, q_U, q_add, q_addT, q_addL, q_addR, q_onL, q_onSt, q_onSl, q_onSs, q_onSrct, q_onSrcl, q_eqI, q_eqB, q_eqS, q_eqN, q_isN, q_ix, q_ixL, q_in, q_len, q_sum, q_max, q_min, q_max2, q_min2, q_abs, q_int, q_intB, q_tupof, q_lstof, q_sort, q_rep, q_cat, q_isi, q_isis, q_setat, q_onC, q_append, q_pop, q_popAt, q_reverse, q_insert, q_sp1, q_sp2, q_sp3, q_sp4, q_at0, q_atS, q_st0, q_stS, q_iteT, q_iteF, q_isB, q_sumS, q_all, q_any, q_repT, q_spV, q_nLcX, q_sFz, q_gFld, q_sFldD, q_gMake, q_gCallI, q_gMeth, q_gRev])
  exact ⟨cmul n3 n2, q⟩
end
section
variable {K : PySem.W.Frag}
theorem nb_wins {n : Nat} {a b : List Int} (h1 : ∀ x ∈ a, nb n x) (h2 : ∀ x ∈ b, nb n x) (hl : a.length < 1000) (hl2 : b.length < 1000) : nb (n + (n + 10) + 10) (winsI a b) := nb_S1 (fun i hi => nb_mul (nb_getD h1 i) (nb_pre h2 (by omega))) (by omega)
theorem b_chance : ∀ d0 d1 M Q E, sp_chance K [d0, d1] M Q E → g_chance K { nx := fun _ M => Q .non M, rt := Q, ex := fun x _ M => E x M } [some d0, some d1, none, none] M := by
  rintro d0 d1 M Q E h
  have h : twoC K M d0 d1 (fun x M => E x M) fun one other => Q (frD (winsI one other) (one.sum * other.sum)) M := h
  unfold g_chance
  dsimp only [q_op, q_un, q_var, q_c, q_nil, q_cons, q_tup, q_frz, q_cel, q_lst, q_test, q_onB, q_and, q_or, q_not, q_andV, q_orV, q_notV, q_if, q_chain, q_next, q_seq, q_drop, q_ret, q_retF, q_retN, q_sif, q_break, q_cont, q_name, q_dnil, q_dcons, q_dtup, q_asg, q_set, q_par, q_for, q_range1, q_range2, q_iseq, q_ienum, q_call, q_cb, q_ncb, q_nop, q_lenset, q_mt, q_mt0, q_setix, q_augs, q_aug, q_nsl, q_onone, q_osome, q_gsl, q_raise, q_raiseF, q_try, q_lc, q_lc2, q_yes, q_wipe0, q_wipe, q_xf, q_I, q_I0, q_U, q_add, q_addT, q_addL, q_addR, q_onL, q_onSt, q_onSl, q_onSs, q_onSrct, q_onSrcl, q_eqI, q_eqB, q_eqS, q_eqN, q_isN, q_ix, q_ixL, q_in, q_len, q_sum, q_max, q_min, q_max2, q_min2, q_abs, q_int, q_intB, q_tupof, q_lstof, q_sort, q_rep, q_cat, q_isi, q_isis, q_setat, q_onC, q_append, q_pop, q_popAt, q_reverse, q_insert, q_sp1, q_sp2, q_sp3, q_sp4, q_at0, q_atS, q_st0, q_stS, q_iteT, q_iteF, q_isB, q_sumS, q_all, q_any, q_repT, q_spV, q_nLcX, q_sFz, q_gFld, q_sFldD, q_gMake, q_gCallI, q_gMeth, q_gRev, sp_two_dice, sp_count_wins, sp_lowest]
  refine twoC_use (fun one other G G2 hl q => ?_) h
  have n1 := fun x hx => (G.2.1 x hx).2
  have n2 := fun x hx => (G2.2.1 x hx).2
  have s1 := nb_sum n1 (by have := G.1; omega)
  have s2 := nb_sum n2 (by have := G2.1; omega)
  refine ⟨rfl, rfl, one, other, dies G G2 hl, one, rfl, other, rfl, ?_⟩
  (try dsimp only [q_op, q_un, q_var, q_c, q_nil, q_cons, q_tup, q_frz, q_cel, q_lst, q_test, q_onB, q_and, q_or, q_not, q_andV, q_orV, q_notV, q_if, q_chain, q_next, q_seq, q_drop, q_ret, q_retF, q_retN, q_sif, q_break, q_cont, q_name, q_dnil, q_dcons, q_dtup, q_asg, q_set, q_par, q_for, q_range1, q_range2, q_iseq, q_ienum, q_call, q_cb, q_ncb, q_nop, q_lenset, q_mt, q_mt0, q_setix, q_augs, q_aug, q_nsl, q_onone, q_osome, q_gsl, q_raise, q_raiseF, q_try, q_lc, q_lc2, q_yes, q_wipe0, q_wipe, q_xf, q_I, q_I0, q_U, q_add, q_addT, q_addL, q_addR, q_onL, q_onSt, q_onSl, q_onSs, q_onSrct, q_onSrcl, q_eqI, q_eqB, q_eqS, q_eqN, q_isN, q_ix, q_ixL, q_in, q_len, q_sum, q_max, q_min, q_max2, q_min2, q_abs, q_int, q_intB, q_tupof, q_lstof, q_sort, q_rep, q_cat, q_isi, q_isis, q_setat, q_onC, q_append, q_pop, q_popAt, q_reverse, q_insert, q_sp1, q_sp2, q_sp3, q_sp4, q_at0, q_atS, q_st0, q_stS, q_iteT, q_iteF, q_isB, q_sumS, q_all, q_any, q_repT, q_spV, q_nLcX, q_sFz, q_gFld, q_sFldD, q_gMake, q_gCallI, q_gMeth, q_gRev])
  exact ⟨cmul s1 s2, _, _, rfl, rfl, Int.mul_pos G.2.2 G2.2.2, nb_mono (nb_wins n1 n2 G.1 G2.1) (by decide), nb_mono (nb_mul s1 s2) (by decide), q⟩
end
section
variable {K : PySem.W.Frag}
theorem cmulw {i j : Int} (hi : i.natAbs < 2 ^ 64) (hj : j.natAbs < 2 ^ 64) : CMulW i j := by
  unfold CMulW
  have key : ∀ x : Nat, x < 2 ^ 64 → x.log2 < 64 ∨ x = 0 := fun x hx => by
    by_cases z : x = 0
    · exact .inr z
    · exact .inl ((Nat.log2_lt z).mpr hx)
  have l0 : Nat.log2 0 = 0 := by decide
  rcases key _ hi with h1 | h1 <;> rcases key _ hj with h2 | h2
  · omega
  · rw [h2, l0]; omega
  · rw [h1, l0]; omega
  · rw [h1, h2, l0]; omega
theorem cpow18 : CPow 10 18 := by unfold CPow; decide
theorem cdiv30 {y : Int} : CDivW y 30 := by unfold CDivW; decide
theorem iD_snoc (xs : List Int) (x : Int) : iD xs ++ [D.int x] = iD (xs ++ [x]) := by simp
theorem b__law_draws : ∀ d0 M Q E, sp__law_draws K [d0] M Q E → g__law_draws K { nx := fun _ M => Q .non M, rt := Q, ex := fun x _ M => E x M } [some d0, none, none, none, none, none] M := by
  rintro d0 M Q E ⟨ns, rfl, q⟩
  unfold g__law_draws
  (try dsimp only [q_op, q_un, q_var, q_c, q_nil, q_cons, q_tup, q_frz, q_cel, q_lst, q_test, q_onB, q_and, q_or, q_not, q_andV, q_orV, q_notV, q_if, q_chain, q_next, q_seq, q_drop, q_ret, q_retF, q_retN, q_sif, q_break, q_cont, q_name, q_dnil, q_dcons, q_dtup, q_asg, q_set, q_par, q_for, q_range1, q_range2, q_iseq, q_ienum, q_call, q_cb, q_ncb, q_nop, q_lenset, q_mt, q_mt0, q_setix, q_augs, q_aug, q_nsl, q_onone, q_osome, q_gsl, q_raise, q_raiseF, q_try, q_lc, q_lc2, q_yes, q_wipe0, q_wipe, q_xf, q_I, q_I0, q_U, q_add, q_addT, q_addL, q_addR, q_onL, q_onSt, q_onSl, q_onSs, q_onSrct, q_onSrcl, q_eqI, q_eqB, q_eqS, q_eqN, q_isN, q_ix, q_ixL, q_in, q_len, q_sum, q_max, q_min, q_max2, q_min2, q_abs, q_int, q_intB, q_tupof, q_lstof, q_sort, q_rep, q_cat, q_isi, q_isis, q_setat, q_onC, q_append, q_pop, q_popAt, q_reverse, q_insert, q_sp1, q_sp2, q_sp3, q_sp4, q_at0, q_atS, q_st0, q_stS, q_iteT, q_iteF, q_isB, q_sumS, q_all, q_any, q_repT, q_spV, q_nLcX, q_sFz, q_gFld, q_sFldD, q_gMake, q_gCallI, q_gMeth, q_gRev])
  refine ⟨Nat.zero_le _, fun p hp => ?_⟩
  (try dsimp only [q_op, q_un, q_var, q_c, q_nil, q_cons, q_tup, q_frz, q_cel, q_lst, q_test, q_onB, q_and, q_or, q_not, q_andV, q_orV, q_notV, q_if, q_chain, q_next, q_seq, q_drop, q_ret, q_retF, q_retN, q_sif, q_break, q_cont, q_name, q_dnil, q_dcons, q_dtup, q_asg, q_set, q_par, q_for, q_range1, q_range2, q_iseq, q_ienum, q_call, q_cb, q_ncb, q_nop, q_lenset, q_mt, q_mt0, q_setix, q_augs, q_aug, q_nsl, q_onone, q_osome, q_gsl, q_raise, q_raiseF, q_try, q_lc, q_lc2, q_yes, q_wipe0, q_wipe, q_xf, q_I, q_I0, q_U, q_add, q_addT, q_addL, q_addR, q_onL, q_onSt, q_onSl, q_onSs, q_onSrct, q_onSrcl, q_eqI, q_eqB, q_eqS, q_eqN, q_isN, q_ix, q_ixL, q_in, q_len, q_sum, q_max, q_min, q_max2, q_min2, q_abs, q_int, q_intB, q_tupof, q_lstof, q_sort, q_rep, q_cat, q_isi, q_isis, q_setat, q_onC, q_append, q_pop, q_popAt, q_reverse, q_insert, q_sp1, q_sp2, q_sp3, q_sp4, q_at0, q_atS, q_st0, q_stS, q_iteT, q_iteF, q_isB, q_sumS, q_all, q_any, q_repT, q_spV, q_nLcX, q_sFz, q_gFld, q_sFldD, q_gMake, q_gCallI, q_gMeth, q_gRev])
  refine ⟨⟨by omega, by omega⟩, ?_⟩
  refine loop_rg0 (fun i ρ M' => (∃ a b c e, ρ = [some (.scr ns), some (.ref p), a, b, c, e]) ∧ ∃ xs : List Int, xs.length ≤ 48 * i ∧ M' = mset M p (.lst (iD xs))) ?_ ?_ ⟨⟨_, _, _, _, rfl⟩, [], Nat.zero_le _, rfl⟩
  · rintro i ρ M' hi ⟨⟨a, b, c, e, rfl⟩, xs, hx, rfl⟩ Nx hN
    have hin : i < ns.length := by simp at hi; omega
    have hi63 : i < 63 := by simp at hi; omega
    (try dsimp only [q_op, q_un, q_var, q_c, q_nil, q_cons, q_tup, q_frz, q_cel, q_lst, q_test, q_onB, q_and, q_or, q_not, q_andV, q_orV, q_notV, q_if, q_chain, q_next, q_seq, q_drop, q_ret, q_retF, q_retN, q_sif, q_break, q_cont, q_name, q_dnil, q_dcons, q_dtup, q_asg, q_set, q_par, q_for, q_range1, q_range2, q_iseq, q_ienum, q_call, q_cb, q_ncb, q_nop, q_lenset, q_mt, q_mt0, q_setix, q_augs, q_aug, q_nsl, q_onone, q_osome, q_gsl, q_raise, q_raiseF, q_try, q_lc, q_lc2, q_yes, q_wipe0, q_wipe, q_xf, q_I, q_I0, q_U, q_add, q_addT, q_addL, q_addR, q_onL, q_onSt, q_onSl, q_onSs, q_onSrct, q_onSrcl, q_eqI, q_eqB, q_eqS, q_eqN, q_isN, q_ix, q_ixL, q_in, q_len, q_sum, q_max, q_min, q_max2, q_min2, q_abs, q_int, q_intB, q_tupof, q_lstof, q_sort, q_rep, q_cat, q_isi, q_isis, q_setat, q_onC, q_append, q_pop, q_popAt, q_reverse, q_insert, q_sp1, q_sp2, q_sp3, q_sp4, q_at0, q_atS, q_st0, q_stS, q_iteT, q_iteF, q_isB, q_sumS, q_all, q_any, q_repT, q_spV, q_nLcX, q_sFz, q_gFld, q_sFldD, q_gMake, q_gCallI, q_gMeth, q_gRev])
    refine ⟨_, atI_iD hin, ?_⟩
    (try dsimp only [q_op, q_un, q_var, q_c, q_nil, q_cons, q_tup, q_frz, q_cel, q_lst, q_test, q_onB, q_and, q_or, q_not, q_andV, q_orV, q_notV, q_if, q_chain, q_next, q_seq, q_drop, q_ret, q_retF, q_retN, q_sif, q_break, q_cont, q_name, q_dnil, q_dcons, q_dtup, q_asg, q_set, q_par, q_for, q_range1, q_range2, q_iseq, q_ienum, q_call, q_cb, q_ncb, q_nop, q_lenset, q_mt, q_mt0, q_setix, q_augs, q_aug, q_nsl, q_onone, q_osome, q_gsl, q_raise, q_raiseF, q_try, q_lc, q_lc2, q_yes, q_wipe0, q_wipe, q_xf, q_I, q_I0, q_U, q_add, q_addT, q_addL, q_addR, q_onL, q_onSt, q_onSl, q_onSs, q_onSrct, q_onSrcl, q_eqI, q_eqB, q_eqS, q_eqN, q_isN, q_ix, q_ixL, q_in, q_len, q_sum, q_max, q_min, q_max2, q_min2, q_abs, q_int, q_intB, q_tupof, q_lstof, q_sort, q_rep, q_cat, q_isi, q_isis, q_setat, q_onC, q_append, q_pop, q_popAt, q_reverse, q_insert, q_sp1, q_sp2, q_sp3, q_sp4, q_at0, q_atS, q_st0, q_stS, q_iteT, q_iteF, q_isB, q_sumS, q_all, q_any, q_repT, q_spV, q_nLcX, q_sFz, q_gFld, q_sFldD, q_gMake, q_gCallI, q_gMeth, q_gRev])
    generalize ns.getD i 0 = z0
    have body : ∀ z : Int, 0 ≤ z → (sIf (gTest (gOp dGe (gVar 3) (gOp dPow (gC (.int 10)) (gC (.int 18))))) (sFor (iRange1 (aCons (gC (.int 48)) aNil)) (dName 4) (sIf (gTest (gOp dGt (gVar 3) (gC (.int 0)))) (sSeq (sDrop (gMt dAppend (gVar 1) (aCons (gOp dMod (gCB dInt (aCons (gVar 3) aNil)) (gC (.int 30))) aNil)))
        (sSet 3 (gOp dFdiv (gVar 3) (gC (.int 30))))) sNext)) (sSeq (sSet 5 (gOp dMod (gCB dInt (aCons (gOp dAdd (gOp dAdd (gOp dMul (gVar 3) (gC (.int 62089911))) (gOp dMul (gVar 2) (gC (.int 104729)))) (gC (.int 17))) aNil)) (gC (.int 2147483629))))
        (sFor (iRange1 (aCons (gC (.int 6)) aNil)) (dName 4) (sSeq (sSet 5 (gOp dMod (gCB dInt (aCons (gOp dAdd (gOp dAdd (gOp dAdd (gOp dMul (gVar 5) (gVar 5)) (gOp dMul (gVar 4) (gC (.int 7919)))) (gOp dMul (gVar 2) (gC (.int 31)))) (gC (.int 3))) aNil)) (gC (.int 2147483587))))
        (sDrop (gMt dAppend (gVar 1) (aCons (gVar 5) aNil)))))))
        { nx := Nx, rt := Q, bk := Nx, ct := Nx, ex := fun x _ M => E x M } [some (.scr ns), some (.ref p), some (.int (i : Nat)), some (.int z), c, e] (mset M p (.lst (iD xs))) := by
      intro z hz
      (try dsimp only [q_op, q_un, q_var, q_c, q_nil, q_cons, q_tup, q_frz, q_cel, q_lst, q_test, q_onB, q_and, q_or, q_not, q_andV, q_orV, q_notV, q_if, q_chain, q_next, q_seq, q_drop, q_ret, q_retF, q_retN, q_sif, q_break, q_cont, q_name, q_dnil, q_dcons, q_dtup, q_asg, q_set, q_par, q_for, q_range1, q_range2, q_iseq, q_ienum, q_call, q_cb, q_ncb, q_nop, q_lenset, q_mt, q_mt0, q_setix, q_augs, q_aug, q_nsl, q_onone, q_osome, q_gsl, q_raise, q_raiseF, q_try, q_lc, q_lc2, q_yes, q_wipe0, q_wipe, q_xf, q_I, q_I0, q_U, q_add, q_addT, q_addL, q_addR, q_onL, q_onSt, q_onSl, q_onSs, q_onSrct, q_onSrcl, q_eqI, q_eqB, q_eqS, q_eqN, q_isN, q_ix, q_ixL, q_in, q_len, q_sum, q_max, q_min, q_max2, q_min2, q_abs, q_int, q_intB, q_tupof, q_lstof, q_sort, q_rep, q_cat, q_isi, q_isis, q_setat, q_onC, q_append, q_pop, q_popAt, q_reverse, q_insert, q_sp1, q_sp2, q_sp3, q_sp4, q_at0, q_atS, q_st0, q_stS, q_iteT, q_iteF, q_isB, q_sumS, q_all, q_any, q_repT, q_spV, q_nLcX, q_sFz, q_gFld, q_sFldD, q_gMake, q_gCallI, q_gMeth, q_gRev])
      refine ⟨cpow18, ?_⟩
      by_cases h : (10 : Int) ^ (18 : Int).toNat ≤ z
      · rw [if_pos (by simpa using h)]
        refine ⟨by decide, ?_⟩
        refine loop_rg0 (fun t ρ M' => (∃ y c e, ρ = [some (.scr ns), some (.ref p), some (.int (i : Nat)), some (.int y), c, e]) ∧ ∃ ys : List Int, ys.length ≤ 48 * i + t ∧ M' = mset M p (.lst (iD ys))) ?_ ?_ ⟨⟨_, _, _, rfl⟩, xs, by omega, rfl⟩
        · rintro t ρ M' ht ⟨⟨y, c', e', rfl⟩, ys, hy, rfl⟩ Nt hNt
          (try dsimp only [q_op, q_un, q_var, q_c, q_nil, q_cons, q_tup, q_frz, q_cel, q_lst, q_test, q_onB, q_and, q_or, q_not, q_andV, q_orV, q_notV, q_if, q_chain, q_next, q_seq, q_drop, q_ret, q_retF, q_retN, q_sif, q_break, q_cont, q_name, q_dnil, q_dcons, q_dtup, q_asg, q_set, q_par, q_for, q_range1, q_range2, q_iseq, q_ienum, q_call, q_cb, q_ncb, q_nop, q_lenset, q_mt, q_mt0, q_setix, q_augs, q_aug, q_nsl, q_onone, q_osome, q_gsl, q_raise, q_raiseF, q_try, q_lc, q_lc2, q_yes, q_wipe0, q_wipe, q_xf, q_I, q_I0, q_U, q_add, q_addT, q_addL, q_addR, q_onL, q_onSt, q_onSl, q_onSs, q_onSrct, q_onSrcl, q_eqI, q_eqB, q_eqS, q_eqN, q_isN, q_ix, q_ixL, q_in, q_len, q_sum, q_max, q_min, q_max2, q_min2, q_abs, q_int, q_intB, q_tupof, q_lstof, q_sort, q_rep, q_cat, q_isi, q_isis, q_setat, q_onC, q_append, q_pop, q_popAt, q_reverse, q_insert, q_sp1, q_sp2, q_sp3, q_sp4, q_at0, q_atS, q_st0, q_stS, q_iteT, q_iteF, q_isB, q_sumS, q_all, q_any, q_repT, q_spV, q_nLcX, q_sFz, q_gFld, q_sFldD, q_gMake, q_gCallI, q_gMeth, q_gRev])
          by_cases hp0 : 0 < y
          · rw [if_pos (by simpa using hp0)]
            have ht48 : t < 48 := by simpa using ht
            refine ⟨onL_ref mset_same trivial, by decide, _, mset_same, by rw [sz, List.length_map]; omega, ?_⟩
            refine ⟨cdiv30, ?_⟩
            refine hNt _ _ ⟨⟨_, _, _, rfl⟩, ys ++ [y % 30], by simp; omega, ?_⟩
            rw [mset_mset, iD_snoc]
          · rw [if_neg (by simpa using hp0)]
            exact hNt _ _ ⟨⟨_, _, _, rfl⟩, ys, by omega, rfl⟩
        · rintro ρ M' ⟨⟨y, c', e', rfl⟩, ys, hy, rfl⟩
          refine hN _ _ ⟨⟨_, _, _, _, rfl⟩, ys, ?_, rfl⟩
          have : (48 : Int).toNat = 48 := rfl
          omega
      · rw [if_neg (by simpa using h)]
        have h' : z < 10 ^ 18 := by
          have : (10 : Int) ^ (18 : Int).toNat = 10 ^ 18 := rfl
          omega
        refine ⟨cmulw (by omega) (by decide), cmulw (by omega) (by decide), by decide, ?_⟩
        refine ⟨by decide, ?_⟩
        refine loop_rg0 (fun t ρ M' => (∃ y c, ρ = [some (.scr ns), some (.ref p), some (.int (i : Nat)), some (.int z), c, some (.int y)] ∧ 0 ≤ y ∧ y < 2147483629) ∧ ∃ ys : List Int, ys.length ≤ 48 * i + t ∧ M' = mset M p (.lst (iD ys))) ?_ ?_ ⟨⟨_, _, rfl, Int.emod_nonneg _ (by decide), Int.emod_lt_of_pos _ (by decide)⟩, xs, by omega, rfl⟩
        · rintro t ρ M' ht ⟨⟨y, c', rfl, y1, y2⟩, ys, hy, rfl⟩ Nt hNt
          have ht6 : t < 6 := by simpa using ht
          (try dsimp only [q_op, q_un, q_var, q_c, q_nil, q_cons, q_tup, q_frz, q_cel, q_lst, q_test, q_onB, q_and, q_or, q_not, q_andV, q_orV, q_notV, q_if, q_chain, q_next, q_seq, q_drop, q_ret, q_retF, q_retN, q_sif, q_break, q_cont, q_name, q_dnil, q_dcons, q_dtup, q_asg, q_set, q_par, q_for, q_range1, q_range2, q_iseq, q_ienum, q_call, q_cb, q_ncb, q_nop, q_lenset, q_mt, q_mt0, q_setix, q_augs, q_aug, q_nsl, q_onone, q_osome, q_gsl, q_raise, q_raiseF, q_try, q_lc, q_lc2, q_yes, q_wipe0, q_wipe, q_xf, q_I, q_I0, q_U, q_add, q_addT, q_addL, q_addR, q_onL, q_onSt, q_onSl, q_onSs, q_onSrct, q_onSrcl, q_eqI, q_eqB, q_eqS, q_eqN, q_isN, q_ix, q_ixL, q_in, q_len, q_sum, q_max, q_min, q_max2, q_min2, q_abs, q_int, q_intB, q_tupof, q_lstof, q_sort, q_rep, q_cat, q_isi, q_isis, q_setat, q_onC, q_append, q_pop, q_popAt, q_reverse, q_insert, q_sp1, q_sp2, q_sp3, q_sp4, q_at0, q_atS, q_st0, q_stS, q_iteT, q_iteF, q_isB, q_sumS, q_all, q_any, q_repT, q_spV, q_nLcX, q_sFz, q_gFld, q_sFldD, q_gMake, q_gCallI, q_gMeth, q_gRev])
          refine ⟨cmulw (by omega) (by omega), cmulw (by omega) (by decide), cmulw (by omega) (by decide), by decide, ?_⟩
          refine ⟨onL_ref mset_same trivial, _, mset_same, by rw [sz, List.length_map]; omega, ?_⟩
          refine hNt _ _ ⟨⟨_, _, rfl, Int.emod_nonneg _ (by decide), ?_⟩, ys ++ [(y * y + (t : Int) * 7919 + (i : Int) * 31 + 3) % 2147483587], by simp; omega, ?_⟩
          · exact Int.lt_trans (Int.emod_lt_of_pos _ (by decide)) (by decide)
          · rw [mset_mset, iD_snoc]
        · rintro ρ M' ⟨⟨y, c', rfl, _⟩, ys, hy, rfl⟩
          refine hN _ _ ⟨⟨_, _, _, _, rfl⟩, ys, ?_, rfl⟩
          have : (6 : Int).toNat = 6 := rfl
          omega
    by_cases hneg : z0 < 0
    · rw [if_pos (by simpa using hneg)]
      exact body _ (by omega)
    · rw [if_neg (by simpa using hneg)]
      exact body _ (by omega)
  · rintro ρ M' ⟨⟨a, b, c, e, rfl⟩, xs, hx, rfl⟩
    (try dsimp only [q_op, q_un, q_var, q_c, q_nil, q_cons, q_tup, q_frz, q_cel, q_lst, q_test, q_onB, q_and, q_or, q_not, q_andV, q_orV, q_notV, q_if, q_chain, q_next, q_seq, q_drop, q_ret, q_retF, q_retN, q_sif, q_break, q_cont, q_name, q_dnil, q_dcons, q_dtup, q_asg, q_set, q_par, q_for, q_range1, q_range2, q_iseq, q_ienum, q_call, q_cb, q_ncb, q_nop, q_lenset, q_mt, q_mt0, q_setix, q_augs, q_aug, q_nsl, q_onone, q_osome, q_gsl, q_raise, q_raiseF, q_try, q_lc, q_lc2, q_yes, q_wipe0, q_wipe, q_xf, q_I, q_I0, q_U, q_add, q_addT, q_addL, q_addR, q_onL, q_onSt, q_onSl, q_onSs, q_onSrct, q_onSrcl, q_eqI, q_eqB, q_eqS, q_eqN, q_isN, q_ix, q_ixL, q_in, q_len, q_sum, q_max, q_min, q_max2, q_min2, q_abs, q_int, q_intB, q_tupof, q_lstof, q_sort, q_rep, q_cat, q_isi, q_isis, q_setat, q_onC, q_append, q_pop, q_popAt, q_reverse, q_insert, q_sp1, q_sp2, q_sp3, q_sp4, q_at0, q_atS, q_st0, q_stS, q_iteT, q_iteF, q_isB, q_sumS, q_all, q_any, q_repT, q_spV, q_nLcX, q_sFz, q_gFld, q_sFldD, q_gMake, q_gCallI, q_gMeth, q_gRev])
    refine ⟨onL_ref mset_same trivial, _, mset_same, ?_⟩
    rw [mset_mset]
    have : (iD xs).reverse = iD xs.reverse := by simp
    rw [this]
    exact q p _ hp
end
section
variable {K : PySem.W.Frag}
theorem le_sum : ∀ {l : List Int} {a : Int}, (∀ x ∈ l, 0 ≤ x) → a ∈ l → a ≤ l.sum
  | x :: l, a, h, ha => by
    have h1 := h x List.mem_cons_self
    have h2 := sum_nn (l := l) fun b hb => h b (List.mem_cons_of_mem _ hb)
    rw [List.sum_cons]
    rcases List.mem_cons.mp ha with rfl | ha
    · omega
    · have := le_sum (l := l) (fun b hb => h b (List.mem_cons_of_mem _ hb)) ha
      omega
theorem b__law_die : ∀ d0 d1 M Q E, sp__law_die K [d0, d1] M Q E → g__law_die K { nx := fun _ M => Q .non M, rt := Q, ex := fun x _ M => E x M } [some d0, some d1, none, none] M := by
  rintro d0 d1 M Q E ⟨p, n, rfl, rfl, n1, n7, ⟨xs0, hM⟩, q⟩
  unfold g__law_die
  dsimp only [q_op, q_un, q_var, q_c, q_nil, q_cons, q_tup, q_frz, q_cel, q_lst, q_test, q_onB, q_and, q_or, q_not, q_andV, q_orV, q_notV, q_if, q_chain, q_next, q_seq, q_drop, q_ret, q_retF, q_retN, q_sif, q_break, q_cont, q_name, q_dnil, q_dcons, q_dtup, q_asg, q_set, q_par, q_for, q_range1, q_range2, q_iseq, q_ienum, q_call, q_cb, q_ncb, q_nop, q_lenset, q_mt, q_mt0, q_setix, q_augs, q_aug, q_nsl, q_onone, q_osome, q_gsl, q_raise, q_raiseF, q_try, q_lc, q_lc2, q_yes, q_wipe0, q_wipe, q_xf, q_I, q_I0, q_U, q_add, q_addT, q_addL, q_addR, q_onL, q_onSt, q_onSl, q_onSs, q_onSrct, q_onSrcl, q_eqI, q_eqB, q_eqS, q_eqN, q_isN, q_ix, q_ixL, q_in, q_len, q_sum, q_max, q_min, q_max2, q_min2, q_abs, q_int, q_intB, q_tupof, q_lstof, q_sort, q_rep, q_cat, q_isi, q_isis, q_setat, q_onC, q_append, q_pop, q_popAt, q_reverse, q_insert, q_sp1, q_sp2, q_sp3, q_sp4, q_at0, q_atS, q_st0, q_stS, q_iteT, q_iteF, q_isB, q_sumS, q_all, q_any, q_repT, q_spV, q_nLcX, q_sFz, q_gFld, q_sFldD, q_gMake, q_gCallI, q_gMeth, q_gRev, sp__law_take]
  refine ⟨Nat.zero_le _, fun c hc => ?_⟩
  have t0 : TabAt (mset M p (.lst (iD xs0))) (mset M c (.lst (iD []))) [c] [iD []] := by
    rw [mset_id hM]
    exact TabAt.nil.push hc
  refine ⟨⟨by omega, by omega⟩, ?_⟩
  rw [Int.toNat_natCast]
  refine loop_rg0 (fun s ρ M' => (∃ a, ρ = [some (.ref p), some (.int (n : Nat)), some (.ref c), a]) ∧ ∃ (xs row : List Int), TabAt (mset M p (.lst (iD xs))) M' [c] [iD row] ∧ row.length = s ∧ ∀ a ∈ row, 0 ≤ a ∧ a ≤ 3) ?_ ?_ ⟨⟨_, rfl⟩, xs0, [], t0, rfl, (fun _ h => nomatch h)⟩
  · rintro s ρ M' hs ⟨⟨a, rfl⟩, xs, row, t, hl, hr⟩ Nx hN
    have hM2 := tab_one t
    (try dsimp only [q_op, q_un, q_var, q_c, q_nil, q_cons, q_tup, q_frz, q_cel, q_lst, q_test, q_onB, q_and, q_or, q_not, q_andV, q_orV, q_notV, q_if, q_chain, q_next, q_seq, q_drop, q_ret, q_retF, q_retN, q_sif, q_break, q_cont, q_name, q_dnil, q_dcons, q_dtup, q_asg, q_set, q_par, q_for, q_range1, q_range2, q_iseq, q_ienum, q_call, q_cb, q_ncb, q_nop, q_lenset, q_mt, q_mt0, q_setix, q_augs, q_aug, q_nsl, q_onone, q_osome, q_gsl, q_raise, q_raiseF, q_try, q_lc, q_lc2, q_yes, q_wipe0, q_wipe, q_xf, q_I, q_I0, q_U, q_add, q_addT, q_addL, q_addR, q_onL, q_onSt, q_onSl, q_onSs, q_onSrct, q_onSrcl, q_eqI, q_eqB, q_eqS, q_eqN, q_isN, q_ix, q_ixL, q_in, q_len, q_sum, q_max, q_min, q_max2, q_min2, q_abs, q_int, q_intB, q_tupof, q_lstof, q_sort, q_rep, q_cat, q_isi, q_isis, q_setat, q_onC, q_append, q_pop, q_popAt, q_reverse, q_insert, q_sp1, q_sp2, q_sp3, q_sp4, q_at0, q_atS, q_st0, q_stS, q_iteT, q_iteF, q_isB, q_sumS, q_all, q_any, q_repT, q_spV, q_nLcX, q_sFz, q_gFld, q_sFldD, q_gMake, q_gCallI, q_gMeth, q_gRev])
    refine ⟨onL_ref hM2 trivial, by rw [sz]; show 10 ≤ 16777216; omega, p, 10, rfl, rfl, by decide, pool_is t, fun r ys r0 r1 => ?_⟩
    have t2 := pool_take (ys := ys) t
    obtain ⟨v, hv, v0, v3⟩ : ∃ v : Int, atI [D.int 1, D.int 0, D.int 2, D.int 0, D.int 1, D.int 3, D.int 0, D.int 0, D.int 1, D.int 0] r = some (.int v) ∧ 0 ≤ v ∧ v ≤ 3 := by
      have : r = 0 ∨ r = 1 ∨ r = 2 ∨ r = 3 ∨ r = 4 ∨ r = 5 ∨ r = 6 ∨ r = 7 ∨ r = 8 ∨ r = 9 := by omega
      rcases this with rfl | rfl | rfl | rfl | rfl | rfl | rfl | rfl | rfl | rfl <;> exact ⟨_, rfl, by decide, by decide⟩
    refine ⟨_, hv, ?_⟩
    (try dsimp only [q_op, q_un, q_var, q_c, q_nil, q_cons, q_tup, q_frz, q_cel, q_lst, q_test, q_onB, q_and, q_or, q_not, q_andV, q_orV, q_notV, q_if, q_chain, q_next, q_seq, q_drop, q_ret, q_retF, q_retN, q_sif, q_break, q_cont, q_name, q_dnil, q_dcons, q_dtup, q_asg, q_set, q_par, q_for, q_range1, q_range2, q_iseq, q_ienum, q_call, q_cb, q_ncb, q_nop, q_lenset, q_mt, q_mt0, q_setix, q_augs, q_aug, q_nsl, q_onone, q_osome, q_gsl, q_raise, q_raiseF, q_try, q_lc, q_lc2, q_yes, q_wipe0, q_wipe, q_xf, q_I, q_I0, q_U, q_add, q_addT, q_addL, q_addR, q_onL, q_onSt, q_onSl, q_onSs, q_onSrct, q_onSrcl, q_eqI, q_eqB, q_eqS, q_eqN, q_isN, q_ix, q_ixL, q_in, q_len, q_sum, q_max, q_min, q_max2, q_min2, q_abs, q_int, q_intB, q_tupof, q_lstof, q_sort, q_rep, q_cat, q_isi, q_isis, q_setat, q_onC, q_append, q_pop, q_popAt, q_reverse, q_insert, q_sp1, q_sp2, q_sp3, q_sp4, q_at0, q_atS, q_st0, q_stS, q_iteT, q_iteF, q_isB, q_sumS, q_all, q_any, q_repT, q_spV, q_nLcX, q_sFz, q_gFld, q_sFldD, q_gMake, q_gCallI, q_gMeth, q_gRev])
    refine ⟨_, tab_one t2, by rw [sz, List.length_map]; omega, ?_⟩
    have t3 := t2.set (r := iD row ++ [D.int v]) (i := 0) (p := c) rfl
    rw [iD_snoc] at t3 ⊢
    refine hN _ _ ⟨⟨_, rfl⟩, ys, row ++ [v], t3, by rw [List.length_append, hl]; rfl, fun a ha => ?_⟩
    rcases List.mem_append.mp ha with ha | ha
    · exact hr a ha
    · rw [List.mem_singleton.mp ha]; exact ⟨v0, v3⟩
  · rintro ρ M' ⟨⟨a, rfl⟩, xs, row, t, hl, hr⟩
    have hM2 := tab_one t
    have hn := sum_nn (l := row) fun a ha => (hr a ha).1
    (try dsimp only [q_op, q_un, q_var, q_c, q_nil, q_cons, q_tup, q_frz, q_cel, q_lst, q_test, q_onB, q_and, q_or, q_not, q_andV, q_orV, q_notV, q_if, q_chain, q_next, q_seq, q_drop, q_ret, q_retF, q_retN, q_sif, q_break, q_cont, q_name, q_dnil, q_dcons, q_dtup, q_asg, q_set, q_par, q_for, q_range1, q_range2, q_iseq, q_ienum, q_call, q_cb, q_ncb, q_nop, q_lenset, q_mt, q_mt0, q_setix, q_augs, q_aug, q_nsl, q_onone, q_osome, q_gsl, q_raise, q_raiseF, q_try, q_lc, q_lc2, q_yes, q_wipe0, q_wipe, q_xf, q_I, q_I0, q_U, q_add, q_addT, q_addL, q_addR, q_onL, q_onSt, q_onSl, q_onSs, q_onSrct, q_onSrcl, q_eqI, q_eqB, q_eqS, q_eqN, q_isN, q_ix, q_ixL, q_in, q_len, q_sum, q_max, q_min, q_max2, q_min2, q_abs, q_int, q_intB, q_tupof, q_lstof, q_sort, q_rep, q_cat, q_isi, q_isis, q_setat, q_onC, q_append, q_pop, q_popAt, q_reverse, q_insert, q_sp1, q_sp2, q_sp3, q_sp4, q_at0, q_atS, q_st0, q_stS, q_iteT, q_iteF, q_isB, q_sumS, q_all, q_any, q_repT, q_spV, q_nLcX, q_sFz, q_gFld, q_sFldD, q_gMake, q_gCallI, q_gMeth, q_gRev])
    refine RowD.onS (RowD.ref hM2) ⟨row, rfl, ?_⟩
    (try dsimp only [q_op, q_un, q_var, q_c, q_nil, q_cons, q_tup, q_frz, q_cel, q_lst, q_test, q_onB, q_and, q_or, q_not, q_andV, q_orV, q_notV, q_if, q_chain, q_next, q_seq, q_drop, q_ret, q_retF, q_retN, q_sif, q_break, q_cont, q_name, q_dnil, q_dcons, q_dtup, q_asg, q_set, q_par, q_for, q_range1, q_range2, q_iseq, q_ienum, q_call, q_cb, q_ncb, q_nop, q_lenset, q_mt, q_mt0, q_setix, q_augs, q_aug, q_nsl, q_onone, q_osome, q_gsl, q_raise, q_raiseF, q_try, q_lc, q_lc2, q_yes, q_wipe0, q_wipe, q_xf, q_I, q_I0, q_U, q_add, q_addT, q_addL, q_addR, q_onL, q_onSt, q_onSl, q_onSs, q_onSrct, q_onSrcl, q_eqI, q_eqB, q_eqS, q_eqN, q_isN, q_ix, q_ixL, q_in, q_len, q_sum, q_max, q_min, q_max2, q_min2, q_abs, q_int, q_intB, q_tupof, q_lstof, q_sort, q_rep, q_cat, q_isi, q_isis, q_setat, q_onC, q_append, q_pop, q_popAt, q_reverse, q_insert, q_sp1, q_sp2, q_sp3, q_sp4, q_at0, q_atS, q_st0, q_stS, q_iteT, q_iteF, q_isB, q_sumS, q_all, q_any, q_repT, q_spV, q_nLcX, q_sFz, q_gFld, q_sFldD, q_gMake, q_gCallI, q_gMeth, q_gRev])
    by_cases cs : row.sum = 0
    · refine if_t (decide_eq_true cs) ⟨p, _, rfl, rfl, by omega, pool_is t, fun r ys r0 r1 => ?_⟩
      have t2 := pool_take (ys := ys) t
      obtain ⟨k, rfl⟩ : ∃ k : Nat, r = (k : Int) := ⟨r.toNat, by omega⟩
      have hk : k < row.length := by omega
      (try dsimp only [q_op, q_un, q_var, q_c, q_nil, q_cons, q_tup, q_frz, q_cel, q_lst, q_test, q_onB, q_and, q_or, q_not, q_andV, q_orV, q_notV, q_if, q_chain, q_next, q_seq, q_drop, q_ret, q_retF, q_retN, q_sif, q_break, q_cont, q_name, q_dnil, q_dcons, q_dtup, q_asg, q_set, q_par, q_for, q_range1, q_range2, q_iseq, q_ienum, q_call, q_cb, q_ncb, q_nop, q_lenset, q_mt, q_mt0, q_setix, q_augs, q_aug, q_nsl, q_onone, q_osome, q_gsl, q_raise, q_raiseF, q_try, q_lc, q_lc2, q_yes, q_wipe0, q_wipe, q_xf, q_I, q_I0, q_U, q_add, q_addT, q_addL, q_addR, q_onL, q_onSt, q_onSl, q_onSs, q_onSrct, q_onSrcl, q_eqI, q_eqB, q_eqS, q_eqN, q_isN, q_ix, q_ixL, q_in, q_len, q_sum, q_max, q_min, q_max2, q_min2, q_abs, q_int, q_intB, q_tupof, q_lstof, q_sort, q_rep, q_cat, q_isi, q_isis, q_setat, q_onC, q_append, q_pop, q_popAt, q_reverse, q_insert, q_sp1, q_sp2, q_sp3, q_sp4, q_at0, q_atS, q_st0, q_stS, q_iteT, q_iteF, q_isB, q_sumS, q_all, q_any, q_repT, q_spV, q_nLcX, q_sFz, q_gFld, q_sFldD, q_gMake, q_gCallI, q_gMeth, q_gRev])
      refine ⟨_, tab_one t2, k, by rw [List.length_map]; exact ixN_nat hk, ?_⟩
      have t3 := t2.set (r := (iD row).set k (.int 1)) (i := 0) (p := c) rfl
      have es : (iD row).set k (.int 1) = iD (row.set k 1) := by unfold iD; rw [List.map_set]
      rw [es] at t3 ⊢
      have hr2 : ∀ a ∈ row.set k 1, 0 ≤ a ∧ a ≤ 3 := fun a ha => by
        rcases List.mem_or_eq_of_mem_set ha with ha | rfl
        · exact hr a ha
        · decide
      have hm : (1 : Int) ∈ row.set k 1 := List.mem_set hk 1
      have := le_sum (fun a ha => (hr2 a ha).1) hm
      exact ret_lst t3.up (t3.new c (by simp)) (tab_one t3) (q _ ys (by rw [List.length_set]; exact hl) hr2 (by omega))
    · exact if_f (decide_eq_false cs) (ret_lst t.up (t.new c (by simp)) hM2 (q _ xs hl hr (by omega)))
end
end LW

namespace LW
open PySem PySem.Spec PyProof.Rows L2 DL
/-! plain law: powers -/
theorem pow_le {x y : Int} (hx : 0 ≤ x) (h : x ≤ y) : ∀ n : Nat, x ^ n ≤ y ^ n
  | 0 => by rw [Int.pow_zero, Int.pow_zero]; exact Int.le_refl _
  | n + 1 => by
    rw [Int.pow_succ, Int.pow_succ]
    have h1 := pow_le hx h n
    have h2 : 0 ≤ x ^ n := Int.pow_nonneg hx
    exact Int.le_trans (Int.mul_le_mul_of_nonneg_right h1 hx) (Int.mul_le_mul_of_nonneg_left h (Int.le_trans h2 h1))
theorem pow_lt {x y : Int} (hx : 0 ≤ x) (h : x < y) : ∀ n : Nat, 1 ≤ n → x ^ n < y ^ n
  | 0, h1 => absurd h1 (by decide)
  | n + 1, _ => by
    rw [Int.pow_succ, Int.pow_succ]
    have h1 := pow_le hx (Int.le_of_lt h) n
    have h3 : 0 < y ^ n := Int.pow_pos (by omega)
    exact Int.lt_of_le_of_lt (Int.mul_le_mul_of_nonneg_right h1 hx) (Int.mul_lt_mul_of_pos_left h h3)
theorem pow_iff {x y : Int} {n : Nat} (hx : 0 ≤ x) (hy : 0 ≤ y) (hn : 1 ≤ n) : x ^ n ≤ y ^ n ↔ x ≤ y :=
  ⟨fun h => Int.not_lt.mp fun z => by have := pow_lt hy z n hn; omega, fun h => pow_le hx h n⟩
theorem pow_mono {x : Int} (hx : 1 ≤ x) {n m : Nat} (h : n ≤ m) : x ^ n ≤ x ^ m := by
  obtain ⟨k, rfl⟩ := Nat.exists_eq_add_of_le h
  rw [Int.pow_add]
  have h1 : 0 < x ^ n := Int.pow_pos (by omega)
  have h2 : 1 ≤ x ^ k := by
    have := pow_le (x := 1) (by decide) hx k
    rwa [Int.one_pow] at this
  have := Int.mul_le_mul_of_nonneg_left h2 (Int.le_of_lt h1)
  omega
/-! sums of rows from 0 on -/
def Nn (a : List Int) : Prop := ∀ x ∈ a, 0 ≤ x
theorem Nn.getD {a : List Int} (h : Nn a) (i : Nat) : 0 ≤ a.getD i 0 := by
  rw [List.getD_eq_getElem?_getD]
  cases z : a[i]? with
  | none => exact Int.le_refl _
  | some x => exact h x (List.mem_of_getElem? z)
theorem pre_mono {a : List Int} (h : Nn a) {i j : Nat} (hij : i ≤ j) : pre a i ≤ pre a j := by
  induction j with
  | zero => rw [show i = 0 by omega]; exact Int.le_refl _
  | succ j ih =>
    by_cases c : i = j + 1
    · rw [c]; exact Int.le_refl _
    · have := ih (by omega)
      have g := h.getD j
      rw [pre_succ]
      omega
theorem pre_nn {a : List Int} (h : Nn a) (i : Nat) : 0 ≤ pre a i := by
  have := pre_mono h (Nat.zero_le i)
  rwa [pre_zero] at this
theorem pre_le {a : List Int} (h : Nn a) (i : Nat) : pre a i ≤ a.sum := by
  by_cases c : i ≤ a.length
  · have := pre_mono h c
    rwa [pre_all a (Nat.le_refl _)] at this
  · rw [pre_all a (by omega)]; exact Int.le_refl _
/-! the greatest of n throws -/
theorem most_len (a : List Int) (n : Nat) : (mostL a n).length = a.length := by unfold mostL; simp
theorem most_get {a : List Int} {n i : Nat} (h : i < a.length) : (mostL a n).getD i 0 = pre a (i + 1) ^ n - pre a i ^ n := by
  unfold mostL
  rw [List.getD_eq_getElem?_getD, List.getElem?_map, List.getElem?_range h]
  rfl
theorem most_pre {a : List Int} {n : Nat} (hn : 1 ≤ n) : ∀ {j : Nat}, j ≤ a.length → pre (mostL a n) j = pre a j ^ n
  | 0, _ => by rw [pre_zero, pre_zero, Int.zero_pow (by omega)]
  | j + 1, h => by
    rw [pre_succ, most_pre hn (j := j) (by omega), most_get (by omega)]
    omega
theorem most_sum {a : List Int} {n : Nat} (hn : 1 ≤ n) : (mostL a n).sum = a.sum ^ n := by
  rw [← pre_all (mostL a n) (n := a.length) (by rw [most_len]; exact Nat.le_refl _), most_pre hn (Nat.le_refl _), pre_all a (Nat.le_refl _)]
theorem most_nn {a : List Int} (h : Nn a) (n : Nat) : Nn (mostL a n) := fun x hx => by
  unfold mostL at hx
  obtain ⟨i, _, rfl⟩ := List.mem_map.mp hx
  have := pow_le (pre_nn h i) (pre_mono h (show i ≤ i + 1 by omega)) n
  omega
/-! turned rows -/
theorem pre_rev (a : List Int) {j : Nat} (h : j ≤ a.length) : pre a.reverse j = a.sum - pre a (a.length - j) := by
  unfold pre
  rw [List.take_reverse]
  have e1 : a.sum = (a.take (a.length - j)).sum + (a.drop (a.length - j)).sum := by rw [← List.sum_append, List.take_append_drop]
  have e2 : ∀ l : List Int, l.reverse.sum = l.sum := fun l => by
    induction l with
    | nil => rfl
    | cons x l ih => rw [List.reverse_cons, List.sum_append, ih, List.sum_cons, List.sum_cons, List.sum_nil]; omega
  rw [e2]
  omega
theorem sum_rev (l : List Int) : l.reverse.sum = l.sum := by
  induction l with
  | nil => rfl
  | cons x l ih => rw [List.reverse_cons, List.sum_append, ih, List.sum_cons, List.sum_cons, List.sum_nil]; omega
theorem Nn.reverse {a : List Int} (h : Nn a) : Nn a.reverse := fun x hx => h x (List.mem_reverse.mp hx)
/-! standing over -/
theorem over_iff {a b : List Int} : overB a b = true ↔ ∀ j, j ≤ a.length → b.sum * pre a j ≤ a.sum * pre b j := by
  unfold overB
  rw [List.all_eq_true]
  constructor
  · intro h j hj
    exact of_decide_eq_true (h j (List.mem_range.mpr (by omega)))
  · intro h j hj
    have := List.mem_range.mp hj
    exact decide_eq_true (h j (by omega))
theorem over_ext {a b c d : List Int} (hl : a.length = c.length) (h : ∀ j, j ≤ a.length → (b.sum * pre a j ≤ a.sum * pre b j ↔ d.sum * pre c j ≤ c.sum * pre d j)) : overB a b = overB c d := by
  refine Bool.eq_iff_iff.mpr ?_
  rw [over_iff, over_iff, ← hl]
  exact ⟨fun z j hj => (h j hj).mp (z j hj), fun z j hj => (h j hj).mpr (z j hj)⟩
theorem over_most {a b : List Int} {n : Nat} (hn : 1 ≤ n) (ha : Nn a) (hb : Nn b) (hl : a.length = b.length) : overB (mostL a n) (mostL b n) = overB a b := by
  refine over_ext (most_len a n) fun j hj => ?_
  rw [most_len] at hj
  rw [most_sum hn, most_sum hn, most_pre hn hj, most_pre hn (by omega), ← Int.mul_pow, ← Int.mul_pow]
  exact pow_iff (Int.mul_nonneg (by rw [← pre_all b (Nat.le_refl _)]; exact pre_nn hb _) (pre_nn ha j)) (Int.mul_nonneg (by rw [← pre_all a (Nat.le_refl _)]; exact pre_nn ha _) (pre_nn hb j)) hn
theorem over_rev {a b : List Int} (hl : a.length = b.length) : overB a.reverse b.reverse = overB b a := by
  have key : ∀ {a b : List Int}, a.length = b.length → overB b a = true → overB a.reverse b.reverse = true := fun {a b} hl h => by
    rw [over_iff] at h ⊢
    intro j hj
    rw [List.length_reverse] at hj
    rw [sum_rev, sum_rev, pre_rev a hj, pre_rev b (by omega), Int.mul_sub, Int.mul_sub]
    have := h (b.length - j) (by omega)
    rw [hl]
    have e : b.sum * a.sum = a.sum * b.sum := Int.mul_comm _ _
    omega
  refine Bool.eq_iff_iff.mpr ⟨fun h => ?_, key hl⟩
  have := key (a := b.reverse) (b := a.reverse) (by simp [hl]) h
  rwa [List.reverse_reverse, List.reverse_reverse] at this
theorem least_len (a : List Int) (n : Nat) : (leastL a n).length = a.length := by unfold leastL; rw [List.length_reverse, most_len, List.length_reverse]
theorem least_sum {a : List Int} {n : Nat} (hn : 1 ≤ n) : (leastL a n).sum = a.sum ^ n := by unfold leastL; rw [sum_rev, most_sum hn, sum_rev]
theorem least_nn {a : List Int} (h : Nn a) (n : Nat) : Nn (leastL a n) := (most_nn h.reverse n).reverse
theorem over_least {a b : List Int} {n : Nat} (hn : 1 ≤ n) (ha : Nn a) (hb : Nn b) (hl : a.length = b.length) : overB (leastL a n) (leastL b n) = overB a b := by
  unfold leastL
  rw [over_rev (by rw [most_len, most_len, List.length_reverse, List.length_reverse, hl]), over_most hn hb.reverse ha.reverse (by rw [List.length_reverse, List.length_reverse, hl]), over_rev hl.symm]
/-- more throws stand over fewer -/
theorem over_more {a : List Int} {n m : Nat} (hn : 1 ≤ n) (h : n ≤ m) (ha : Nn a) (hs : 0 < a.sum) : overB (mostL a m) (mostL a n) = true := by
  rw [over_iff]
  intro j hj
  rw [most_len] at hj
  rw [most_sum hn, most_sum (by omega : 1 ≤ m), most_pre hn hj, most_pre (by omega : 1 ≤ m) hj]
  obtain ⟨k, rfl⟩ := Nat.exists_eq_add_of_le h
  rw [Int.pow_add, Int.pow_add]
  have h1 := pow_le (pre_nn ha j) (pre_le ha j) k
  have h2 : 0 ≤ a.sum ^ n * pre a j ^ n := Int.mul_nonneg (Int.pow_nonneg (by omega)) (Int.pow_nonneg (pre_nn ha j))
  have := Int.mul_le_mul_of_nonneg_left h1 h2
  rw [show a.sum ^ n * (pre a j ^ n * pre a j ^ k) = a.sum ^ n * pre a j ^ n * pre a j ^ k by ac_rfl, show a.sum ^ n * a.sum ^ k * pre a j ^ n = a.sum ^ n * pre a j ^ n * a.sum ^ k by ac_rfl]
  exact this
theorem most_most {a : List Int} {n m : Nat} (hn : 1 ≤ n) (hm : 1 ≤ m) : mostL (mostL a n) m = mostL a (n * m) := by
  unfold mostL
  rw [show ((List.range a.length).map fun i => pre a (i + 1) ^ n - pre a i ^ n) = mostL a n from rfl, most_len]
  refine List.map_congr_left fun i hi => ?_
  have hi := List.mem_range.mp hi
  rw [most_pre hn (by omega), most_pre hn (by omega), ← Int.pow_mul, ← Int.pow_mul]
theorem least_less {a : List Int} {n m : Nat} (hn : 1 ≤ n) (h : n ≤ m) (ha : Nn a) (hs : 0 < a.sum) : overB (leastL a n) (leastL a m) = true := by
  unfold leastL
  rw [over_rev (by rw [most_len, most_len])]
  exact over_more hn h ha.reverse (by rw [sum_rev]; exact hs)
theorem least_least {a : List Int} {n m : Nat} (hn : 1 ≤ n) (hm : 1 ≤ m) : leastL (leastL a n) m = leastL a (n * m) := by
  unfold leastL
  rw [List.reverse_reverse, most_most hn hm]
end LW

namespace LW
open PySem PySem.Spec PyProof.Rows L2 DL
theorem S1_nn {n : Nat} {f : Nat → Int} (h : ∀ i, i < n → 0 ≤ f i) : 0 ≤ S1 n f := by
  induction n with
  | zero => exact Int.le_refl _
  | succ n ih =>
    rw [S1_succ]
    have := ih fun i hi => h i (by omega)
    have := h n (by omega)
    omega
theorem S1_pos {n k : Nat} {f : Nat → Int} (h : ∀ i, i < n → 0 ≤ f i) (hk : k < n) (h0 : 0 < f k) : 0 < S1 n f := by
  induction n with
  | zero => omega
  | succ n ih =>
    rw [S1_succ]
    by_cases c : k = n
    · subst c
      have := S1_nn (n := k) (f := f) fun i hi => h i (by omega)
      omega
    · have := ih (fun i hi => h i (by omega)) (by omega)
      have := h n (by omega)
      omega
/-- how much more of other lies below gap j -/
def gapD (a b : List Int) (j : Nat) : Int := a.sum * pre b j - b.sum * pre a j
theorem lead_gaps {a b : List Int} (hl : a.length = b.length) : b.sum * leadI a b = S1 b.length fun i => b.getD i 0 * (gapD a b i + gapD a b (i + 1)) := by
  have h1 := lead_gW hl.symm
  have h2 := lead_gW (rfl : b.length = b.length)
  rw [lead_self] at h2
  have h3 := lead_neg b a
  have e : (S1 b.length fun i => b.getD i 0 * (gapD a b i + gapD a b (i + 1))) = S1 b.length fun i => a.sum * (b.getD i 0 * gW b i) + (-b.sum) * (b.getD i 0 * gW a i) := S1_congr fun i _ => by
    unfold gapD gW
    have e1 : a.sum * (b.getD i 0 * (pre b i + pre b (i + 1) - b.sum)) = b.getD i 0 * (a.sum * pre b i + a.sum * pre b (i + 1) - a.sum * b.sum) := by
      rw [show a.sum * (b.getD i 0 * (pre b i + pre b (i + 1) - b.sum)) = b.getD i 0 * (a.sum * (pre b i + pre b (i + 1) - b.sum)) by ac_rfl, Int.mul_sub a.sum, Int.mul_add a.sum]
    have e2 : (-b.sum) * (b.getD i 0 * (pre a i + pre a (i + 1) - a.sum)) = b.getD i 0 * (a.sum * b.sum - b.sum * pre a i - b.sum * pre a (i + 1)) := by
      rw [show (-b.sum) * (b.getD i 0 * (pre a i + pre a (i + 1) - a.sum)) = b.getD i 0 * ((-b.sum) * (pre a i + pre a (i + 1) - a.sum)) by ac_rfl]
      congr 1
      rw [Int.mul_sub, Int.mul_add, Int.neg_mul, Int.neg_mul, Int.neg_mul, Int.mul_comm a.sum b.sum]
      omega
    rw [e1, e2, ← Int.mul_add]
    congr 1
    omega
  rw [e, S1_add, S1_mul, S1_mul, ← h2, ← h1, Int.mul_zero, Int.neg_mul, h3, Int.mul_neg]
  omega
theorem over_gap {a b : List Int} : overB a b = true ↔ ∀ j, j ≤ a.length → 0 ≤ gapD a b j := by
  rw [over_iff]
  unfold gapD
  exact ⟨fun h j hj => by have := h j hj; omega, fun h j hj => by have := h j hj; omega⟩
theorem gap_neg (a b : List Int) (j : Nat) : gapD b a j = - gapD a b j := by
  unfold gapD
  omega
theorem lead_over {a b : List Int} (hl : a.length = b.length) (ha : Nn a) (hb : Nn b) (h0 : 0 < b.sum) (h : overB a b = true) : 0 ≤ leadI a b ∧ (overB b a = false → 0 < leadI a b) ∧ (overB b a = true → leadI a b = 0) := by
  have e := lead_gaps hl
  rw [over_gap] at h
  have nn : ∀ i, i < b.length → 0 ≤ b.getD i 0 * (gapD a b i + gapD a b (i + 1)) := fun i hi => Int.mul_nonneg (hb.getD i) (by
    have := h i (by omega)
    have := h (i + 1) (by omega)
    omega)
  have s0 := S1_nn nn
  rw [← e] at s0
  have l0 : 0 ≤ leadI a b := Int.not_lt.mp fun z => by
    have := Int.mul_neg_of_pos_of_neg h0 z
    omega
  refine ⟨l0, fun hn => ?_, fun ho => ?_⟩
  · have hx : ∃ j, j ≤ a.length ∧ 0 < gapD a b j := Classical.byContradiction fun z => by
      have : overB b a = true := over_gap.mpr fun j hj => by
        rw [gap_neg]
        have h9 : ¬ 0 < gapD a b j := fun w => z ⟨j, by omega, w⟩
        omega
      rw [this] at hn
      cases hn
    obtain ⟨j, hj, hj0, hm⟩ : ∃ j, j ≤ a.length ∧ 0 < gapD a b j ∧ ∀ i, i < j → gapD a b i = 0 := by
      obtain ⟨j, hj, h1⟩ := hx
      induction j using Nat.strongRecOn with
      | ind j ih =>
        by_cases c : ∃ i, i < j ∧ 0 < gapD a b i
        · obtain ⟨i, h2, h3⟩ := c
          exact ih i h2 (by omega) h3
        · refine ⟨j, hj, h1, fun i hi => ?_⟩
          have h2 := h i (by omega)
          have h3 : ¬ 0 < gapD a b i := fun w => c ⟨i, hi, w⟩
          omega
    have g0 : gapD a b 0 = 0 := by unfold gapD; rw [pre_zero, pre_zero, Int.mul_zero, Int.mul_zero]; rfl
    obtain ⟨k, rfl⟩ : ∃ k, j = k + 1 := ⟨j - 1, by
      have : j ≠ 0 := fun z => by rw [z, g0] at hj0; exact absurd hj0 (by decide)
      omega⟩
    have hk := hm k (by omega)
    have hb0 : 0 < b.getD k 0 := Int.not_le.mp fun z => by
      have bz : b.getD k 0 = 0 := by have := hb.getD k; omega
      unfold gapD at hk hj0
      rw [pre_succ, pre_succ, bz, Int.add_zero, Int.mul_add] at hj0
      have := Int.mul_nonneg (Int.le_of_lt h0) (ha.getD k)
      omega
    have p := S1_pos nn (k := k) (by omega) (Int.mul_pos hb0 (by omega))
    rw [← e] at p
    exact Int.not_le.mp fun z => by
      have := Int.mul_nonpos_of_nonneg_of_nonpos (Int.le_of_lt h0) z
      omega
  · rw [over_gap] at ho
    have z : (S1 b.length fun i => b.getD i 0 * (gapD a b i + gapD a b (i + 1))) = S1 b.length fun i => 0 * (0 : Int) := S1_congr fun i hi => by
      have h1 := h i (by omega)
      have h2 := h (i + 1) (by omega)
      have h3 := ho i (by omega)
      have h4 := ho (i + 1) (by omega)
      rw [gap_neg] at h3 h4
      rw [show gapD a b i + gapD a b (i + 1) = 0 by omega, Int.mul_zero, Int.mul_zero]
    rw [z, S1_mul, Int.zero_mul] at e
    rcases Int.mul_eq_zero.mp e with h | h
    · omega
    · exact h
theorem wins_other {a b : List Int} (hl : a.length = b.length) : winsI a b = S1 b.length fun j => b.getD j 0 * (a.sum - pre a (j + 1)) := by
  have w := whole hl
  have e : (S1 b.length fun j => b.getD j 0 * (a.sum - pre a (j + 1))) = S1 b.length fun j => a.sum * b.getD j 0 + (-1) * (b.getD j 0 * pre a j) + (-1) * (a.getD j 0 * b.getD j 0) := S1_congr fun j _ => by
    rw [pre_succ, Int.mul_sub, Int.mul_add, Int.mul_comm a.sum, Int.mul_comm (a.getD j 0)]
    omega
  rw [e, S1_add, S1_add, S1_mul, S1_mul, S1_mul, ← sum_S1]
  have e1 : winsI b a = S1 b.length fun j => b.getD j 0 * pre a j := rfl
  have e2 : tiesI a b = S1 b.length fun j => a.getD j 0 * b.getD j 0 := by unfold tiesI; rw [hl]
  rw [← e1, ← e2]
  omega
theorem wins_over {a c b : List Int} (hl : a.length = b.length) (hc : c.length = b.length) (hb : Nn b) (h : overB c a = true) : c.sum * winsI a b ≤ a.sum * winsI c b := by
  rw [over_iff] at h
  rw [wins_other hl, wins_other hc, ← S1_mul, ← S1_mul]
  have : 0 ≤ S1 b.length fun j => b.getD j 0 * (c.sum * pre a (j + 1) - a.sum * pre c (j + 1)) := S1_nn fun j hj => Int.mul_nonneg (hb.getD j) (by
    have := h (j + 1) (by omega)
    omega)
  have e : (S1 b.length fun j => a.sum * (b.getD j 0 * (c.sum - pre c (j + 1)))) = (S1 b.length fun j => c.sum * (b.getD j 0 * (a.sum - pre a (j + 1)))) + S1 b.length fun j => b.getD j 0 * (c.sum * pre a (j + 1) - a.sum * pre c (j + 1)) := by
    rw [← S1_add]
    refine S1_congr fun j _ => ?_
    rw [show a.sum * (b.getD j 0 * (c.sum - pre c (j + 1))) = b.getD j 0 * (a.sum * (c.sum - pre c (j + 1))) by ac_rfl, show c.sum * (b.getD j 0 * (a.sum - pre a (j + 1))) = b.getD j 0 * (c.sum * (a.sum - pre a (j + 1))) by ac_rfl, ← Int.mul_add]
    congr 1
    rw [Int.mul_sub, Int.mul_sub, Int.mul_comm c.sum a.sum]
    omega
  omega
end LW

namespace LW
open PySem PySem.Spec PyProof.Rows L2 DL
section
variable {K : PySem.W.Frag} {mg : Str → Option Value}
theorem runL_len (a : List Int) : (runL a).length = a.length + 1 := by unfold runL; simp
theorem runL_get {a : List Int} {j : Nat} (h : j ≤ a.length) : (runL a).getD j 0 = pre a j := by
  unfold runL
  rw [List.getD_eq_getElem?_getD, List.getElem?_map, List.getElem?_range (by omega)]
  rfl
theorem zip_range (one other : List Int) (hl : one.length = other.length) : zipD (iD one) (iD other) = (List.range one.length).map fun i => D.tup [.int (one.getD i 0), .int (other.getD i 0)] := by
  have e : (zipD (iD one) (iD other)).length = one.length := by rw [zipD_len, List.length_map, List.length_map]; omega
  refine List.ext_getElem (by rw [e]; simp) fun i h1 h2 => ?_
  have := (zip_get (List.getElem?_eq_getElem h1)).2.2
  rw [this]
  simp
theorem b_stands_over : ∀ d0 d1 M Q E, sp_stands_over K [d0, d1] M Q E → g_stands_over K { nx := fun _ M => Q .non M, rt := Q, ex := fun x _ M => E x M } [some d0, some d1, none, none, none, none, none, none] M := by
  rintro d0 d1 M Q E h
  have h : twoC K M d0 d1 (fun x M => E x M) fun one other => Q (.bl (overB one other)) M := h
  unfold g_stands_over
  dsimp only [q_op, q_un, q_var, q_c, q_nil, q_cons, q_tup, q_frz, q_cel, q_lst, q_test, q_onB, q_and, q_or, q_not, q_andV, q_orV, q_notV, q_if, q_chain, q_next, q_seq, q_drop, q_ret, q_retF, q_retN, q_sif, q_break, q_cont, q_name, q_dnil, q_dcons, q_dtup, q_asg, q_set, q_par, q_for, q_range1, q_range2, q_iseq, q_ienum, q_call, q_cb, q_ncb, q_nop, q_lenset, q_mt, q_mt0, q_setix, q_augs, q_aug, q_nsl, q_onone, q_osome, q_gsl, q_raise, q_raiseF, q_try, q_lc, q_lc2, q_yes, q_wipe0, q_wipe, q_xf, q_I, q_I0, q_U, q_add, q_addT, q_addL, q_addR, q_onL, q_onSt, q_onSl, q_onSs, q_onSrct, q_onSrcl, q_eqI, q_eqB, q_eqS, q_eqN, q_isN, q_ix, q_ixL, q_in, q_len, q_sum, q_max, q_min, q_max2, q_min2, q_abs, q_int, q_intB, q_tupof, q_lstof, q_sort, q_rep, q_cat, q_isi, q_isis, q_setat, q_onC, q_append, q_pop, q_popAt, q_reverse, q_insert, q_sp1, q_sp2, q_sp3, q_sp4, q_at0, q_atS, q_st0, q_stS, q_iteT, q_iteF, q_isB, q_sumS, q_all, q_any, q_repT, q_spV, q_nLcX, q_sFz, q_gFld, q_sFldD, q_gMake, q_gCallI, q_gMeth, q_gRev, sp_two_dice, sp_running, iZipD]
  refine twoC_use (fun one other G G2 hl q => ?_) h
  have n1 := fun x hx => (G.2.1 x hx).2
  have n2 := fun x hx => (G2.2.1 x hx).2
  have s1 := nb_sum n1 (by have := G.1; omega)
  have s2 := nb_sum n2 (by have := G2.1; omega)
  refine ⟨rfl, rfl, one, rfl, other, rfl, by rw [sz]; show 2 ≤ 16777216; omega, rfl, rfl, one, RowD.tup, G.1, other, RowD.tup, G2.1, rfl, ?_⟩
  rw [zip_range _ _ (by rw [runL_len, runL_len, hl]), runL_len]
  refine lc_map (fun i : Nat => D.tup [.int ((runL one).getD i 0), .int ((runL other).getD i 0)]) (fun i => .bl (decide (other.sum * pre one i ≤ one.sum * pre other i))) ⟨trivial, trivial⟩ _ (fun i hi k hk => ?_) tup2_mono rfl (by rw [sz]; simp; have := G.1; omega) ?_
  · have hi := List.mem_range.mp hi
    rw [runL_get (by omega), runL_get (by omega)]
    refine ⟨rfl, rfl, rfl, ?_⟩
    (try dsimp only [q_op, q_un, q_var, q_c, q_nil, q_cons, q_tup, q_frz, q_cel, q_lst, q_test, q_onB, q_and, q_or, q_not, q_andV, q_orV, q_notV, q_if, q_chain, q_next, q_seq, q_drop, q_ret, q_retF, q_retN, q_sif, q_break, q_cont, q_name, q_dnil, q_dcons, q_dtup, q_asg, q_set, q_par, q_for, q_range1, q_range2, q_iseq, q_ienum, q_call, q_cb, q_ncb, q_nop, q_lenset, q_mt, q_mt0, q_setix, q_augs, q_aug, q_nsl, q_onone, q_osome, q_gsl, q_raise, q_raiseF, q_try, q_lc, q_lc2, q_yes, q_wipe0, q_wipe, q_xf, q_I, q_I0, q_U, q_add, q_addT, q_addL, q_addR, q_onL, q_onSt, q_onSl, q_onSs, q_onSrct, q_onSrcl, q_eqI, q_eqB, q_eqS, q_eqN, q_isN, q_ix, q_ixL, q_in, q_len, q_sum, q_max, q_min, q_max2, q_min2, q_abs, q_int, q_intB, q_tupof, q_lstof, q_sort, q_rep, q_cat, q_isi, q_isis, q_setat, q_onC, q_append, q_pop, q_popAt, q_reverse, q_insert, q_sp1, q_sp2, q_sp3, q_sp4, q_at0, q_atS, q_st0, q_stS, q_iteT, q_iteF, q_isB, q_sumS, q_all, q_any, q_repT, q_spV, q_nLcX, q_sFz, q_gFld, q_sFldD, q_gMake, q_gCallI, q_gMeth, q_gRev])
    have := G.1
    exact ⟨cmul s2 (nb_pre n1 (by omega)), cmul s1 (nb_pre n2 (by omega)), hk⟩
  · refine ⟨(List.range (one.length + 1)).map fun i => decide (other.sum * pre one i ≤ one.sum * pre other i), by rw [List.map_map]; rfl, ?_⟩
    rw [List.all_map]
    exact q
theorem nb_pow {n : Nat} {x : Int} (h : nb n x) : ∀ k : Nat, nb (n * k + 1) (x ^ k)
  | 0 => by rw [Int.pow_zero, Nat.mul_zero]; unfold nb; decide
  | k + 1 => by
    rw [Int.pow_succ]
    have := nb_mul (nb_pow h k) h
    rw [show n * (k + 1) + 1 = n * k + 1 + n by rw [Nat.mul_succ]; omega]
    exact this
theorem b_power_of : ∀ d0 d1 M Q E, sp_power_of K [d0, d1] M Q E → g_power_of K { nx := fun _ M => Q .non M, rt := Q, ex := fun x _ M => E x M } [some d0, some d1, none, none, none] M := by
  rintro d0 d1 M Q E ⟨i, k, rfl, rfl, hk, hi, q⟩
  unfold g_power_of
  dsimp only [q_op, q_un, q_var, q_c, q_nil, q_cons, q_tup, q_frz, q_cel, q_lst, q_test, q_onB, q_and, q_or, q_not, q_andV, q_orV, q_notV, q_if, q_chain, q_next, q_seq, q_drop, q_ret, q_retF, q_retN, q_sif, q_break, q_cont, q_name, q_dnil, q_dcons, q_dtup, q_asg, q_set, q_par, q_for, q_range1, q_range2, q_iseq, q_ienum, q_call, q_cb, q_ncb, q_nop, q_lenset, q_mt, q_mt0, q_setix, q_augs, q_aug, q_nsl, q_onone, q_osome, q_gsl, q_raise, q_raiseF, q_try, q_lc, q_lc2, q_yes, q_wipe0, q_wipe, q_xf, q_I, q_I0, q_U, q_add, q_addT, q_addL, q_addR, q_onL, q_onSt, q_onSl, q_onSs, q_onSrct, q_onSrcl, q_eqI, q_eqB, q_eqS, q_eqN, q_isN, q_ix, q_ixL, q_in, q_len, q_sum, q_max, q_min, q_max2, q_min2, q_abs, q_int, q_intB, q_tupof, q_lstof, q_sort, q_rep, q_cat, q_isi, q_isis, q_setat, q_onC, q_append, q_pop, q_popAt, q_reverse, q_insert, q_sp1, q_sp2, q_sp3, q_sp4, q_at0, q_atS, q_st0, q_stS, q_iteT, q_iteF, q_isB, q_sumS, q_all, q_any, q_repT, q_spV, q_nLcX, q_sFz, q_gFld, q_sFldD, q_gMake, q_gCallI, q_gMeth, q_gRev, sPar3]
  refine ⟨fun m ρ M2 => (∃ (r s : Int) (l a c : Nat), ρ = [some (.int i), some (.int (k : Nat)), some (.int r), some (.int s), some (.int (l : Nat))] ∧ r * s ^ l = i ^ k ∧ l = m ∧ nb a s ∧ nb c r ∧ c + a * l ≤ 2702) ∧ M2 = M, ⟨k, ⟨1, i, k, 300, 1, rfl, by rw [Int.one_mul], rfl, hi, by unfold nb; decide, by omega⟩, rfl⟩, ?_⟩
  rintro m ρ M2 ⟨⟨r, s, l, a, c, rfl, e, rfl, hs, hr, hb⟩, rfl⟩
  (try dsimp only [q_op, q_un, q_var, q_c, q_nil, q_cons, q_tup, q_frz, q_cel, q_lst, q_test, q_onB, q_and, q_or, q_not, q_andV, q_orV, q_notV, q_if, q_chain, q_next, q_seq, q_drop, q_ret, q_retF, q_retN, q_sif, q_break, q_cont, q_name, q_dnil, q_dcons, q_dtup, q_asg, q_set, q_par, q_for, q_range1, q_range2, q_iseq, q_ienum, q_call, q_cb, q_ncb, q_nop, q_lenset, q_mt, q_mt0, q_setix, q_augs, q_aug, q_nsl, q_onone, q_osome, q_gsl, q_raise, q_raiseF, q_try, q_lc, q_lc2, q_yes, q_wipe0, q_wipe, q_xf, q_I, q_I0, q_U, q_add, q_addT, q_addL, q_addR, q_onL, q_onSt, q_onSl, q_onSs, q_onSrct, q_onSrcl, q_eqI, q_eqB, q_eqS, q_eqN, q_isN, q_ix, q_ixL, q_in, q_len, q_sum, q_max, q_min, q_max2, q_min2, q_abs, q_int, q_intB, q_tupof, q_lstof, q_sort, q_rep, q_cat, q_isi, q_isis, q_setat, q_onC, q_append, q_pop, q_popAt, q_reverse, q_insert, q_sp1, q_sp2, q_sp3, q_sp4, q_at0, q_atS, q_st0, q_stS, q_iteT, q_iteF, q_isB, q_sumS, q_all, q_any, q_repT, q_spV, q_nLcX, q_sFz, q_gFld, q_sFldD, q_gMake, q_gCallI, q_gMeth, q_gRev])
  by_cases c0 : l = 0
  · subst c0
    refine if_f (by rfl) ?_
    (try dsimp only [q_op, q_un, q_var, q_c, q_nil, q_cons, q_tup, q_frz, q_cel, q_lst, q_test, q_onB, q_and, q_or, q_not, q_andV, q_orV, q_notV, q_if, q_chain, q_next, q_seq, q_drop, q_ret, q_retF, q_retN, q_sif, q_break, q_cont, q_name, q_dnil, q_dcons, q_dtup, q_asg, q_set, q_par, q_for, q_range1, q_range2, q_iseq, q_ienum, q_call, q_cb, q_ncb, q_nop, q_lenset, q_mt, q_mt0, q_setix, q_augs, q_aug, q_nsl, q_onone, q_osome, q_gsl, q_raise, q_raiseF, q_try, q_lc, q_lc2, q_yes, q_wipe0, q_wipe, q_xf, q_I, q_I0, q_U, q_add, q_addT, q_addL, q_addR, q_onL, q_onSt, q_onSl, q_onSs, q_onSrct, q_onSrcl, q_eqI, q_eqB, q_eqS, q_eqN, q_isN, q_ix, q_ixL, q_in, q_len, q_sum, q_max, q_min, q_max2, q_min2, q_abs, q_int, q_intB, q_tupof, q_lstof, q_sort, q_rep, q_cat, q_isi, q_isis, q_setat, q_onC, q_append, q_pop, q_popAt, q_reverse, q_insert, q_sp1, q_sp2, q_sp3, q_sp4, q_at0, q_atS, q_st0, q_stS, q_iteT, q_iteF, q_isB, q_sumS, q_all, q_any, q_repT, q_spV, q_nLcX, q_sFz, q_gFld, q_sFldD, q_gMake, q_gCallI, q_gMeth, q_gRev])
    rw [Int.pow_zero, Int.mul_one] at e
    rw [e]
    exact q
  have al : a ≤ a * l := Nat.le_mul_of_pos_right a (by omega)
  refine if_t (decide_eq_true (by omega)) ?_
  (try dsimp only [q_op, q_un, q_var, q_c, q_nil, q_cons, q_tup, q_frz, q_cel, q_lst, q_test, q_onB, q_and, q_or, q_not, q_andV, q_orV, q_notV, q_if, q_chain, q_next, q_seq, q_drop, q_ret, q_retF, q_retN, q_sif, q_break, q_cont, q_name, q_dnil, q_dcons, q_dtup, q_asg, q_set, q_par, q_for, q_range1, q_range2, q_iseq, q_ienum, q_call, q_cb, q_ncb, q_nop, q_lenset, q_mt, q_mt0, q_setix, q_augs, q_aug, q_nsl, q_onone, q_osome, q_gsl, q_raise, q_raiseF, q_try, q_lc, q_lc2, q_yes, q_wipe0, q_wipe, q_xf, q_I, q_I0, q_U, q_add, q_addT, q_addL, q_addR, q_onL, q_onSt, q_onSl, q_onSs, q_onSrct, q_onSrcl, q_eqI, q_eqB, q_eqS, q_eqN, q_isN, q_ix, q_ixL, q_in, q_len, q_sum, q_max, q_min, q_max2, q_min2, q_abs, q_int, q_intB, q_tupof, q_lstof, q_sort, q_rep, q_cat, q_isi, q_isis, q_setat, q_onC, q_append, q_pop, q_popAt, q_reverse, q_insert, q_sp1, q_sp2, q_sp3, q_sp4, q_at0, q_atS, q_st0, q_stS, q_iteT, q_iteF, q_isB, q_sumS, q_all, q_any, q_repT, q_spV, q_nLcX, q_sFz, q_gFld, q_sFldD, q_gMake, q_gCallI, q_gMeth, q_gRev])
  have cd : CDivW ((l : Nat) : Int) 2 := cdiv (n := 2) (by decide) (by unfold nb; decide)
  have el : ((l : Nat) : Int) / 2 = ((l / 2 : Nat) : Int) := by omega
  have ep : s ^ (l / 2 + l / 2) = (s * s) ^ (l / 2) := by rw [Int.pow_add, Int.mul_pow]
  rw [el]
  by_cases c2 : l % 2 = 1
  · refine ⟨by decide, if_t (decide_eq_true (by omega)) ⟨cmul hr hs, cmul hs hs, cd, l / 2, by omega, ⟨r * s, s * s, l / 2, a + a, c + a, rfl, ?_, rfl, nb_mul hs hs, nb_mul hr hs, ?_⟩, rfl⟩⟩
    · rw [← ep, ← e, Int.mul_assoc, Int.mul_comm s, ← Int.pow_succ, show (l / 2 + l / 2).succ = l by omega]
    · have : (a + a) * (l / 2) = a * (l / 2 + l / 2) := by rw [Nat.add_mul, Nat.mul_add]
      have h2 : a * l = a * (l / 2 + l / 2) + a := by
        rw [← Nat.mul_succ]
        congr 1
        omega
      omega
  · refine ⟨by decide, if_f (decide_eq_false (by omega)) ⟨cmul hs hs, cd, l / 2, by omega, ⟨r, s * s, l / 2, a + a, c, rfl, ?_, rfl, nb_mul hs hs, hr, ?_⟩, rfl⟩⟩
    · rw [← ep, ← e, show l / 2 + l / 2 = l by omega]
    · have : (a + a) * (l / 2) = a * (l / 2 + l / 2) := by rw [Nat.add_mul, Nat.mul_add]
      rw [this, show l / 2 + l / 2 = l by omega]
      exact hb
theorem Good.ok {M : Mem} {d : D} {row : List Int} (g : Good M d row) : RowD M d (iD row) ∧ DieOk row := by
  obtain ⟨r, h1, h2, h3, h4⟩ := g
  refine ⟨r, h1, fun a ha => ⟨h2 a ha, ?_⟩, h3⟩
  have h5 := h2 a ha
  have h6 := le_sum h2 ha
  exact nb_mono (show nb 60 a by unfold nb; omega) (by decide)
theorem nb_mostpre {row : List Int} {n : Nat} (g : ∀ a ∈ row, 0 ≤ a) (h60 : row.sum < 2 ^ 60) (j : Nat) : nb 60 (pre row j) := by
  have h1 := pre_nn g j
  have h2 := pre_le g j
  unfold nb
  omega
theorem b_greatest_die : ∀ d0 d1 M Q E, sp_greatest_die K [d0, d1] M Q E → g_greatest_die K { nx := fun _ M => Q .non M, rt := Q, ex := fun x _ M => E x M } [some d0, some d1, none, none, none, none] M := by
  rintro d0 d1 M Q E h
  unfold g_greatest_die
  dsimp only [q_op, q_un, q_var, q_c, q_nil, q_cons, q_tup, q_frz, q_cel, q_lst, q_test, q_onB, q_and, q_or, q_not, q_andV, q_orV, q_notV, q_if, q_chain, q_next, q_seq, q_drop, q_ret, q_retF, q_retN, q_sif, q_break, q_cont, q_name, q_dnil, q_dcons, q_dtup, q_asg, q_set, q_par, q_for, q_range1, q_range2, q_iseq, q_ienum, q_call, q_cb, q_ncb, q_nop, q_lenset, q_mt, q_mt0, q_setix, q_augs, q_aug, q_nsl, q_onone, q_osome, q_gsl, q_raise, q_raiseF, q_try, q_lc, q_lc2, q_yes, q_wipe0, q_wipe, q_xf, q_I, q_I0, q_U, q_add, q_addT, q_addL, q_addR, q_onL, q_onSt, q_onSl, q_onSs, q_onSrct, q_onSrcl, q_eqI, q_eqB, q_eqS, q_eqN, q_isN, q_ix, q_ixL, q_in, q_len, q_sum, q_max, q_min, q_max2, q_min2, q_abs, q_int, q_intB, q_tupof, q_lstof, q_sort, q_rep, q_cat, q_isi, q_isis, q_setat, q_onC, q_append, q_pop, q_popAt, q_reverse, q_insert, q_sp1, q_sp2, q_sp3, q_sp4, q_at0, q_atS, q_st0, q_stS, q_iteT, q_iteF, q_isB, q_sumS, q_all, q_any, q_repT, q_spV, q_nLcX, q_sFz, q_gFld, q_sFldD, q_gMake, q_gCallI, q_gMeth, q_gRev, sp_belows, sp_check_within, sp_power_of]
  rcases h with ⟨row, n, g, ⟨n1, n9, big⟩, rfl, q⟩ | h
  · obtain ⟨R, G⟩ := g.ok
    have L := G.1
    refine dieC_good G R ⟨_, _, _, rfl, rfl, rfl, .inl ⟨_, rfl, by omega, by omega, ?_⟩⟩
    refine lc_map D.int (fun x => .int (x ^ n)) trivial _ (fun x hx k hk => ?_) (fun d ρ M Q Q' h q => h _ _ q) rfl (by rw [sz, runL_len]; omega) ?_
    · obtain ⟨j, _, rfl⟩ := List.mem_map.mp hx
      (try dsimp only [q_op, q_un, q_var, q_c, q_nil, q_cons, q_tup, q_frz, q_cel, q_lst, q_test, q_onB, q_and, q_or, q_not, q_andV, q_orV, q_notV, q_if, q_chain, q_next, q_seq, q_drop, q_ret, q_retF, q_retN, q_sif, q_break, q_cont, q_name, q_dnil, q_dcons, q_dtup, q_asg, q_set, q_par, q_for, q_range1, q_range2, q_iseq, q_ienum, q_call, q_cb, q_ncb, q_nop, q_lenset, q_mt, q_mt0, q_setix, q_augs, q_aug, q_nsl, q_onone, q_osome, q_gsl, q_raise, q_raiseF, q_try, q_lc, q_lc2, q_yes, q_wipe0, q_wipe, q_xf, q_I, q_I0, q_U, q_add, q_addT, q_addL, q_addR, q_onL, q_onSt, q_onSl, q_onSs, q_onSrct, q_onSrcl, q_eqI, q_eqB, q_eqS, q_eqN, q_isN, q_ix, q_ixL, q_in, q_len, q_sum, q_max, q_min, q_max2, q_min2, q_abs, q_int, q_intB, q_tupof, q_lstof, q_sort, q_rep, q_cat, q_isi, q_isis, q_setat, q_onC, q_append, q_pop, q_popAt, q_reverse, q_insert, q_sp1, q_sp2, q_sp3, q_sp4, q_at0, q_atS, q_st0, q_stS, q_iteT, q_iteF, q_isB, q_sumS, q_all, q_any, q_repT, q_spV, q_nLcX, q_sFz, q_gFld, q_sFldD, q_gMake, q_gCallI, q_gMeth, q_gRev])
      exact ⟨rfl, _, n, rfl, rfl, n9, nb_mono (nb_mostpre (n := n) g.2.2.1 g.2.2.2.2 j) (by decide), hk⟩
    rw [show ((runL row).map fun x => D.int (x ^ n)) = iD ((runL row).map fun x => x ^ n) by unfold iD; rw [List.map_map]; rfl]
    refine R.onS ?_
    rw [List.length_map]
    refine ⟨⟨by omega, by omega⟩, ?_⟩
    rw [Int.toNat_natCast, rg0]
    have gp : ∀ j, j ≤ row.length → ((runL row).map fun x => x ^ n).getD j 0 = pre row j ^ n := fun j hj => by
      rw [List.getD_eq_getElem?_getD, List.getElem?_map]
      unfold runL
      rw [List.getElem?_map, List.getElem?_range (by omega)]
      rfl
    have lp : ((runL row).map fun x => x ^ n).length = row.length + 1 := by rw [List.length_map, runL_len]
    refine lc_map (fun k : Nat => D.int ((k : Nat) : Int)) (fun i => .int (pre row (i + 1) ^ n - pre row i ^ n)) trivial _ (fun i hi k hk => ?_) (fun d ρ M Q Q' h q => h _ _ q) rfl (by rw [sz]; simp; omega) ?_
    · have hi := List.mem_range.mp hi
      (try dsimp only [q_op, q_un, q_var, q_c, q_nil, q_cons, q_tup, q_frz, q_cel, q_lst, q_test, q_onB, q_and, q_or, q_not, q_andV, q_orV, q_notV, q_if, q_chain, q_next, q_seq, q_drop, q_ret, q_retF, q_retN, q_sif, q_break, q_cont, q_name, q_dnil, q_dcons, q_dtup, q_asg, q_set, q_par, q_for, q_range1, q_range2, q_iseq, q_ienum, q_call, q_cb, q_ncb, q_nop, q_lenset, q_mt, q_mt0, q_setix, q_augs, q_aug, q_nsl, q_onone, q_osome, q_gsl, q_raise, q_raiseF, q_try, q_lc, q_lc2, q_yes, q_wipe0, q_wipe, q_xf, q_I, q_I0, q_U, q_add, q_addT, q_addL, q_addR, q_onL, q_onSt, q_onSl, q_onSs, q_onSrct, q_onSrcl, q_eqI, q_eqB, q_eqS, q_eqN, q_isN, q_ix, q_ixL, q_in, q_len, q_sum, q_max, q_min, q_max2, q_min2, q_abs, q_int, q_intB, q_tupof, q_lstof, q_sort, q_rep, q_cat, q_isi, q_isis, q_setat, q_onC, q_append, q_pop, q_popAt, q_reverse, q_insert, q_sp1, q_sp2, q_sp3, q_sp4, q_at0, q_atS, q_st0, q_stS, q_iteT, q_iteF, q_isB, q_sumS, q_all, q_any, q_repT, q_spV, q_nLcX, q_sFz, q_gFld, q_sFldD, q_gMake, q_gCallI, q_gMeth, q_gRev])
      refine ⟨rfl, ?_⟩
      refine ⟨_, atI_iD (i := i + 1) (by omega), ?_⟩
      (try dsimp only [q_op, q_un, q_var, q_c, q_nil, q_cons, q_tup, q_frz, q_cel, q_lst, q_test, q_onB, q_and, q_or, q_not, q_andV, q_orV, q_notV, q_if, q_chain, q_next, q_seq, q_drop, q_ret, q_retF, q_retN, q_sif, q_break, q_cont, q_name, q_dnil, q_dcons, q_dtup, q_asg, q_set, q_par, q_for, q_range1, q_range2, q_iseq, q_ienum, q_call, q_cb, q_ncb, q_nop, q_lenset, q_mt, q_mt0, q_setix, q_augs, q_aug, q_nsl, q_onone, q_osome, q_gsl, q_raise, q_raiseF, q_try, q_lc, q_lc2, q_yes, q_wipe0, q_wipe, q_xf, q_I, q_I0, q_U, q_add, q_addT, q_addL, q_addR, q_onL, q_onSt, q_onSl, q_onSs, q_onSrct, q_onSrcl, q_eqI, q_eqB, q_eqS, q_eqN, q_isN, q_ix, q_ixL, q_in, q_len, q_sum, q_max, q_min, q_max2, q_min2, q_abs, q_int, q_intB, q_tupof, q_lstof, q_sort, q_rep, q_cat, q_isi, q_isis, q_setat, q_onC, q_append, q_pop, q_popAt, q_reverse, q_insert, q_sp1, q_sp2, q_sp3, q_sp4, q_at0, q_atS, q_st0, q_stS, q_iteT, q_iteF, q_isB, q_sumS, q_all, q_any, q_repT, q_spV, q_nLcX, q_sFz, q_gFld, q_sFldD, q_gMake, q_gCallI, q_gMeth, q_gRev])
      refine ⟨_, atI_iD (by omega), ?_⟩
      rw [gp _ (by omega), gp _ (by omega)]
      exact hk
    · rw [show ((List.range row.length).map fun i => D.int (pre row (i + 1) ^ n - pre row i ^ n)) = iD (mostL row n) by unfold mostL iD; rw [List.map_map]; rfl]
      exact q
  · exact dieC_use (fun row G h => ⟨_, _, _, rfl, rfl, rfl, withinC_imp (fun _ z => z) (fun i e l u f => f.elim) h⟩) h
theorem iD_rev (l : List Int) : (iD l).reverse = iD l.reverse := by unfold iD; rw [List.map_reverse]
theorem b_least_die : ∀ d0 d1 M Q E, sp_least_die K [d0, d1] M Q E → g_least_die K { nx := fun _ M => Q .non M, rt := Q, ex := fun x _ M => E x M } [some d0, some d1, none] M := by
  rintro d0 d1 M Q E ⟨row, n, g, ⟨n1, n9, big⟩, rfl, q⟩
  unfold g_least_die
  dsimp only [q_op, q_un, q_var, q_c, q_nil, q_cons, q_tup, q_frz, q_cel, q_lst, q_test, q_onB, q_and, q_or, q_not, q_andV, q_orV, q_notV, q_if, q_chain, q_next, q_seq, q_drop, q_ret, q_retF, q_retN, q_sif, q_break, q_cont, q_name, q_dnil, q_dcons, q_dtup, q_asg, q_set, q_par, q_for, q_range1, q_range2, q_iseq, q_ienum, q_call, q_cb, q_ncb, q_nop, q_lenset, q_mt, q_mt0, q_setix, q_augs, q_aug, q_nsl, q_onone, q_osome, q_gsl, q_raise, q_raiseF, q_try, q_lc, q_lc2, q_yes, q_wipe0, q_wipe, q_xf, q_I, q_I0, q_U, q_add, q_addT, q_addL, q_addR, q_onL, q_onSt, q_onSl, q_onSs, q_onSrct, q_onSrcl, q_eqI, q_eqB, q_eqS, q_eqN, q_isN, q_ix, q_ixL, q_in, q_len, q_sum, q_max, q_min, q_max2, q_min2, q_abs, q_int, q_intB, q_tupof, q_lstof, q_sort, q_rep, q_cat, q_isi, q_isis, q_setat, q_onC, q_append, q_pop, q_popAt, q_reverse, q_insert, q_sp1, q_sp2, q_sp3, q_sp4, q_at0, q_atS, q_st0, q_stS, q_iteT, q_iteF, q_isB, q_sumS, q_all, q_any, q_repT, q_spV, q_nLcX, q_sFz, q_gFld, q_sFldD, q_gMake, q_gCallI, q_gMeth, q_gRev, sp_die_of, sp_greatest_die]
  obtain ⟨R, G⟩ := g.ok
  refine dieC_good G R (.inl ⟨row.reverse, n, ⟨?_, by rw [List.length_reverse]; exact G.1, fun a ha => g.2.2.1 a (List.mem_reverse.mp ha), by rw [sum_rev]; exact G.2.2, by rw [sum_rev]; exact g.2.2.2.2⟩, ⟨n1, n9, by rw [sum_rev]; exact big⟩, rfl, ?_⟩)
  · rw [iD_rev]
    exact RowD.tup
  · rw [iD_rev]
    exact q
theorem b_Greatest_init (T : Tx K mg) : ∀ d0 d1 M Q E, sp_Greatest_init K [d0, d1] M Q E → g_Greatest_init K { nx := fun _ M => Q .non M, rt := Q, ex := fun x _ M => E x M } [some d0, some d1] M := by
  rintro d0 d1 M Q E ⟨x, rfl, hx, h⟩
  unfold g_Greatest_init
  dsimp only [q_op, q_un, q_var, q_c, q_nil, q_cons, q_tup, q_frz, q_cel, q_lst, q_test, q_onB, q_and, q_or, q_not, q_andV, q_orV, q_notV, q_if, q_chain, q_next, q_seq, q_drop, q_ret, q_retF, q_retN, q_sif, q_break, q_cont, q_name, q_dnil, q_dcons, q_dtup, q_asg, q_set, q_par, q_for, q_range1, q_range2, q_iseq, q_ienum, q_call, q_cb, q_ncb, q_nop, q_lenset, q_mt, q_mt0, q_setix, q_augs, q_aug, q_nsl, q_onone, q_osome, q_gsl, q_raise, q_raiseF, q_try, q_lc, q_lc2, q_yes, q_wipe0, q_wipe, q_xf, q_I, q_I0, q_U, q_add, q_addT, q_addL, q_addR, q_onL, q_onSt, q_onSl, q_onSs, q_onSrct, q_onSrcl, q_eqI, q_eqB, q_eqS, q_eqN, q_isN, q_ix, q_ixL, q_in, q_len, q_sum, q_max, q_min, q_max2, q_min2, q_abs, q_int, q_intB, q_tupof, q_lstof, q_sort, q_rep, q_cat, q_isi, q_isis, q_setat, q_onC, q_append, q_pop, q_popAt, q_reverse, q_insert, q_sp1, q_sp2, q_sp3, q_sp4, q_at0, q_atS, q_st0, q_stS, q_iteT, q_iteF, q_isB, q_sumS, q_all, q_any, q_repT, q_spV, q_nLcX, q_sFz, q_gFld, q_sFldD, q_gMake, q_gCallI, q_gMeth, q_gRev, sp_check_within]
  refine ⟨_, _, _, rfl, rfl, rfl, withinC_imp (fun _ z => z) (fun i e l u q => ?_) h⟩
  subst e
  exact ⟨x, _, _, rfl, hx, T.c_Greatest.cls, T.c_Greatest.no _ (by simp), by decide, q⟩
theorem b_Least_init (T : Tx K mg) : ∀ d0 d1 M Q E, sp_Least_init K [d0, d1] M Q E → g_Least_init K { nx := fun _ M => Q .non M, rt := Q, ex := fun x _ M => E x M } [some d0, some d1] M := by
  rintro d0 d1 M Q E ⟨x, rfl, hx, h⟩
  unfold g_Least_init
  dsimp only [q_op, q_un, q_var, q_c, q_nil, q_cons, q_tup, q_frz, q_cel, q_lst, q_test, q_onB, q_and, q_or, q_not, q_andV, q_orV, q_notV, q_if, q_chain, q_next, q_seq, q_drop, q_ret, q_retF, q_retN, q_sif, q_break, q_cont, q_name, q_dnil, q_dcons, q_dtup, q_asg, q_set, q_par, q_for, q_range1, q_range2, q_iseq, q_ienum, q_call, q_cb, q_ncb, q_nop, q_lenset, q_mt, q_mt0, q_setix, q_augs, q_aug, q_nsl, q_onone, q_osome, q_gsl, q_raise, q_raiseF, q_try, q_lc, q_lc2, q_yes, q_wipe0, q_wipe, q_xf, q_I, q_I0, q_U, q_add, q_addT, q_addL, q_addR, q_onL, q_onSt, q_onSl, q_onSs, q_onSrct, q_onSrcl, q_eqI, q_eqB, q_eqS, q_eqN, q_isN, q_ix, q_ixL, q_in, q_len, q_sum, q_max, q_min, q_max2, q_min2, q_abs, q_int, q_intB, q_tupof, q_lstof, q_sort, q_rep, q_cat, q_isi, q_isis, q_setat, q_onC, q_append, q_pop, q_popAt, q_reverse, q_insert, q_sp1, q_sp2, q_sp3, q_sp4, q_at0, q_atS, q_st0, q_stS, q_iteT, q_iteF, q_isB, q_sumS, q_all, q_any, q_repT, q_spV, q_nLcX, q_sFz, q_gFld, q_sFldD, q_gMake, q_gCallI, q_gMeth, q_gRev, sp_check_within]
  refine ⟨_, _, _, rfl, rfl, rfl, withinC_imp (fun _ z => z) (fun i e l u q => ?_) h⟩
  subst e
  exact ⟨x, _, _, rfl, hx, T.c_Least.cls, T.c_Least.no _ (by simp), by decide, q⟩
theorem b_Greatest_call (T : Tx K mg) : ∀ d0 d1 M Q E, sp_Greatest_call K [d0, d1] M Q E → g_Greatest_call K { nx := fun _ M => Q .non M, rt := Q, ex := fun x _ M => E x M } [some d0, some d1] M := by
  rintro d0 d1 M Q E ⟨row, n, rfl, g, c, q⟩
  unfold g_Greatest_call
  dsimp only [q_op, q_un, q_var, q_c, q_nil, q_cons, q_tup, q_frz, q_cel, q_lst, q_test, q_onB, q_and, q_or, q_not, q_andV, q_orV, q_notV, q_if, q_chain, q_next, q_seq, q_drop, q_ret, q_retF, q_retN, q_sif, q_break, q_cont, q_name, q_dnil, q_dcons, q_dtup, q_asg, q_set, q_par, q_for, q_range1, q_range2, q_iseq, q_ienum, q_call, q_cb, q_ncb, q_nop, q_lenset, q_mt, q_mt0, q_setix, q_augs, q_aug, q_nsl, q_onone, q_osome, q_gsl, q_raise, q_raiseF, q_try, q_lc, q_lc2, q_yes, q_wipe0, q_wipe, q_xf, q_I, q_I0, q_U, q_add, q_addT, q_addL, q_addR, q_onL, q_onSt, q_onSl, q_onSs, q_onSrct, q_onSrcl, q_eqI, q_eqB, q_eqS, q_eqN, q_isN, q_ix, q_ixL, q_in, q_len, q_sum, q_max, q_min, q_max2, q_min2, q_abs, q_int, q_intB, q_tupof, q_lstof, q_sort, q_rep, q_cat, q_isi, q_isis, q_setat, q_onC, q_append, q_pop, q_popAt, q_reverse, q_insert, q_sp1, q_sp2, q_sp3, q_sp4, q_at0, q_atS, q_st0, q_stS, q_iteT, q_iteF, q_isB, q_sumS, q_all, q_any, q_repT, q_spV, q_nLcX, q_sFz, q_gFld, q_sFldD, q_gMake, q_gCallI, q_gMeth, q_gRev, sp_greatest_die]
  exact ⟨_, _, _, .inl rfl, T.c_Greatest.cls, T.c_Greatest.no _ (by simp), rfl, .inl ⟨row, n, g, c, rfl, q⟩⟩
theorem b_Least_call (T : Tx K mg) : ∀ d0 d1 M Q E, sp_Least_call K [d0, d1] M Q E → g_Least_call K { nx := fun _ M => Q .non M, rt := Q, ex := fun x _ M => E x M } [some d0, some d1] M := by
  rintro d0 d1 M Q E ⟨row, n, rfl, g, c, q⟩
  unfold g_Least_call
  dsimp only [q_op, q_un, q_var, q_c, q_nil, q_cons, q_tup, q_frz, q_cel, q_lst, q_test, q_onB, q_and, q_or, q_not, q_andV, q_orV, q_notV, q_if, q_chain, q_next, q_seq, q_drop, q_ret, q_retF, q_retN, q_sif, q_break, q_cont, q_name, q_dnil, q_dcons, q_dtup, q_asg, q_set, q_par, q_for, q_range1, q_range2, q_iseq, q_ienum, q_call, q_cb, q_ncb, q_nop, q_lenset, q_mt, q_mt0, q_setix, q_augs, q_aug, q_nsl, q_onone, q_osome, q_gsl, q_raise, q_raiseF, q_try, q_lc, q_lc2, q_yes, q_wipe0, q_wipe, q_xf, q_I, q_I0, q_U, q_add, q_addT, q_addL, q_addR, q_onL, q_onSt, q_onSl, q_onSs, q_onSrct, q_onSrcl, q_eqI, q_eqB, q_eqS, q_eqN, q_isN, q_ix, q_ixL, q_in, q_len, q_sum, q_max, q_min, q_max2, q_min2, q_abs, q_int, q_intB, q_tupof, q_lstof, q_sort, q_rep, q_cat, q_isi, q_isis, q_setat, q_onC, q_append, q_pop, q_popAt, q_reverse, q_insert, q_sp1, q_sp2, q_sp3, q_sp4, q_at0, q_atS, q_st0, q_stS, q_iteT, q_iteF, q_isB, q_sumS, q_all, q_any, q_repT, q_spV, q_nLcX, q_sFz, q_gFld, q_sFldD, q_gMake, q_gCallI, q_gMeth, q_gRev, sp_least_die]
  exact ⟨_, _, _, .inl rfl, T.c_Least.cls, T.c_Least.no _ (by simp), rfl, row, n, g, c, rfl, q⟩
theorem most_ok {row : List Int} {n : Nat} (h1 : row.length < 1000) (h2 : ∀ a ∈ row, 0 ≤ a) (h3 : 0 < row.sum) (c : CntOk row n) : DieOk (mostL row n) := by
  have nn := most_nn h2 n
  have ms := most_sum (a := row) c.1
  refine ⟨by rw [most_len]; exact h1, fun a ha => ⟨nn a ha, ?_⟩, by rw [ms]; exact Int.pow_pos h3⟩
  have h5 := nn a ha
  have h6 := le_sum nn ha
  rw [ms] at h6
  have h7 := c.2.2
  exact nb_mono (show nb 250 a by unfold nb; omega) (by decide)
theorem b_chance_of_two : ∀ d0 d1 d2 d3 M Q E, sp_chance_of_two K [d0, d1, d2, d3] M Q E → g_chance_of_two K { nx := fun _ M => Q .non M, rt := Q, ex := fun x _ M => E x M } [some d0, some d1, some d2, some d3, none, none] M := by
  rintro d0 d1 d2 d3 M Q E h
  unfold g_chance_of_two
  dsimp only [q_op, q_un, q_var, q_c, q_nil, q_cons, q_tup, q_frz, q_cel, q_lst, q_test, q_onB, q_and, q_or, q_not, q_andV, q_orV, q_notV, q_if, q_chain, q_next, q_seq, q_drop, q_ret, q_retF, q_retN, q_sif, q_break, q_cont, q_name, q_dnil, q_dcons, q_dtup, q_asg, q_set, q_par, q_for, q_range1, q_range2, q_iseq, q_ienum, q_call, q_cb, q_ncb, q_nop, q_lenset, q_mt, q_mt0, q_setix, q_augs, q_aug, q_nsl, q_onone, q_osome, q_gsl, q_raise, q_raiseF, q_try, q_lc, q_lc2, q_yes, q_wipe0, q_wipe, q_xf, q_I, q_I0, q_U, q_add, q_addT, q_addL, q_addR, q_onL, q_onSt, q_onSl, q_onSs, q_onSrct, q_onSrcl, q_eqI, q_eqB, q_eqS, q_eqN, q_isN, q_ix, q_ixL, q_in, q_len, q_sum, q_max, q_min, q_max2, q_min2, q_abs, q_int, q_intB, q_tupof, q_lstof, q_sort, q_rep, q_cat, q_isi, q_isis, q_setat, q_onC, q_append, q_pop, q_popAt, q_reverse, q_insert, q_sp1, q_sp2, q_sp3, q_sp4, q_at0, q_atS, q_st0, q_stS, q_iteT, q_iteF, q_isB, q_sumS, q_all, q_any, q_repT, q_spV, q_nLcX, q_sFz, q_gFld, q_sFldD, q_gMake, q_gCallI, q_gMeth, q_gRev, sp_greatest_die, sp_die_of, sp_check_within, sp_chance]
  rcases h with ⟨one, other, n, m, g1, g2, c1, c2, rfl, rfl, h⟩ | ⟨one, n, g1, c1, rfl, h⟩ | h
  · obtain ⟨R2, G2⟩ := g2.ok
    refine .inl ⟨one, n, g1, c1, rfl, dieC_good G2 R2 ⟨_, _, _, rfl, rfl, rfl, .inl ⟨_, rfl, by have := c2.1; omega, by have := c2.2.1; omega, .inl ⟨other, m, ⟨RowD.tup, g2.2⟩, c2, rfl, ?_⟩⟩⟩⟩
    have M1 := most_ok g1.2.1 g1.2.2.1 g1.2.2.2.1 c1
    have M2 := most_ok g2.2.1 g2.2.2.1 g2.2.2.2.1 c2
    refine dieC_good M1 RowD.tup (dieC_good M2 RowD.tup ?_)
    rw [most_len, most_len]
    dsimp only
    rw [most_sum c1.1, most_sum c2.1]
    exact h
  · exact .inl ⟨one, n, g1, c1, rfl, dieC_use (fun row G h => ⟨_, _, _, rfl, rfl, rfl, withinC_imp (fun _ z => z) (fun i e l u f => f.elim) h⟩) h⟩
  · exact .inr (dieC_use (fun row G h => withinC_imp (fun _ z => z) (fun i e l u f => f.elim) h) h)
end
end LW

namespace LW
open PySem PySem.Spec PyProof.Rows L2 DL
section
variable {K : PySem.W.Frag} {mg : Str → Option Value}
theorem b__law_at_most : ∀ d0 d1 M Q E, sp__law_at_most K [d0, d1] M Q E → g__law_at_most K { nx := fun _ M => Q .non M, rt := Q, ex := fun x _ M => E x M } [some d0, some d1] M := by
  rintro d0 d1 M Q E ⟨a, b, c, d, rfl, rfl, h1, h2, h3, h4, q⟩
  unfold g__law_at_most
  dsimp only [q_op, q_un, q_var, q_c, q_nil, q_cons, q_tup, q_frz, q_cel, q_lst, q_test, q_onB, q_and, q_or, q_not, q_andV, q_orV, q_notV, q_if, q_chain, q_next, q_seq, q_drop, q_ret, q_retF, q_retN, q_sif, q_break, q_cont, q_name, q_dnil, q_dcons, q_dtup, q_asg, q_set, q_par, q_for, q_range1, q_range2, q_iseq, q_ienum, q_call, q_cb, q_ncb, q_nop, q_lenset, q_mt, q_mt0, q_setix, q_augs, q_aug, q_nsl, q_onone, q_osome, q_gsl, q_raise, q_raiseF, q_try, q_lc, q_lc2, q_yes, q_wipe0, q_wipe, q_xf, q_I, q_I0, q_U, q_add, q_addT, q_addL, q_addR, q_onL, q_onSt, q_onSl, q_onSs, q_onSrct, q_onSrcl, q_eqI, q_eqB, q_eqS, q_eqN, q_isN, q_ix, q_ixL, q_in, q_len, q_sum, q_max, q_min, q_max2, q_min2, q_abs, q_int, q_intB, q_tupof, q_lstof, q_sort, q_rep, q_cat, q_isi, q_isis, q_setat, q_onC, q_append, q_pop, q_popAt, q_reverse, q_insert, q_sp1, q_sp2, q_sp3, q_sp4, q_at0, q_atS, q_st0, q_stS, q_iteT, q_iteF, q_isB, q_sumS, q_all, q_any, q_repT, q_spV, q_nLcX, q_sFz, q_gFld, q_sFldD, q_gMake, q_gCallI, q_gMeth, q_gRev]
  refine ⟨_, rfl, _, rfl, ?_⟩
  (try dsimp only [q_op, q_un, q_var, q_c, q_nil, q_cons, q_tup, q_frz, q_cel, q_lst, q_test, q_onB, q_and, q_or, q_not, q_andV, q_orV, q_notV, q_if, q_chain, q_next, q_seq, q_drop, q_ret, q_retF, q_retN, q_sif, q_break, q_cont, q_name, q_dnil, q_dcons, q_dtup, q_asg, q_set, q_par, q_for, q_range1, q_range2, q_iseq, q_ienum, q_call, q_cb, q_ncb, q_nop, q_lenset, q_mt, q_mt0, q_setix, q_augs, q_aug, q_nsl, q_onone, q_osome, q_gsl, q_raise, q_raiseF, q_try, q_lc, q_lc2, q_yes, q_wipe0, q_wipe, q_xf, q_I, q_I0, q_U, q_add, q_addT, q_addL, q_addR, q_onL, q_onSt, q_onSl, q_onSs, q_onSrct, q_onSrcl, q_eqI, q_eqB, q_eqS, q_eqN, q_isN, q_ix, q_ixL, q_in, q_len, q_sum, q_max, q_min, q_max2, q_min2, q_abs, q_int, q_intB, q_tupof, q_lstof, q_sort, q_rep, q_cat, q_isi, q_isis, q_setat, q_onC, q_append, q_pop, q_popAt, q_reverse, q_insert, q_sp1, q_sp2, q_sp3, q_sp4, q_at0, q_atS, q_st0, q_stS, q_iteT, q_iteF, q_isB, q_sumS, q_all, q_any, q_repT, q_spV, q_nLcX, q_sFz, q_gFld, q_sFldD, q_gMake, q_gCallI, q_gMeth, q_gRev])
  refine ⟨cmul h1 h4, _, rfl, _, rfl, ?_⟩
  (try dsimp only [q_op, q_un, q_var, q_c, q_nil, q_cons, q_tup, q_frz, q_cel, q_lst, q_test, q_onB, q_and, q_or, q_not, q_andV, q_orV, q_notV, q_if, q_chain, q_next, q_seq, q_drop, q_ret, q_retF, q_retN, q_sif, q_break, q_cont, q_name, q_dnil, q_dcons, q_dtup, q_asg, q_set, q_par, q_for, q_range1, q_range2, q_iseq, q_ienum, q_call, q_cb, q_ncb, q_nop, q_lenset, q_mt, q_mt0, q_setix, q_augs, q_aug, q_nsl, q_onone, q_osome, q_gsl, q_raise, q_raiseF, q_try, q_lc, q_lc2, q_yes, q_wipe0, q_wipe, q_xf, q_I, q_I0, q_U, q_add, q_addT, q_addL, q_addR, q_onL, q_onSt, q_onSl, q_onSs, q_onSrct, q_onSrcl, q_eqI, q_eqB, q_eqS, q_eqN, q_isN, q_ix, q_ixL, q_in, q_len, q_sum, q_max, q_min, q_max2, q_min2, q_abs, q_int, q_intB, q_tupof, q_lstof, q_sort, q_rep, q_cat, q_isi, q_isis, q_setat, q_onC, q_append, q_pop, q_popAt, q_reverse, q_insert, q_sp1, q_sp2, q_sp3, q_sp4, q_at0, q_atS, q_st0, q_stS, q_iteT, q_iteF, q_isB, q_sumS, q_all, q_any, q_repT, q_spV, q_nLcX, q_sFz, q_gFld, q_sFldD, q_gMake, q_gCallI, q_gMeth, q_gRev])
  exact ⟨cmul h3 h2, q⟩
theorem b__law_lead : ∀ d0 d1 M Q E, sp__law_lead K [d0, d1] M Q E → g__law_lead K { nx := fun _ M => Q .non M, rt := Q, ex := fun x _ M => E x M } [some d0, some d1, none, none, none, none] M := by
  rintro d0 d1 M Q E ⟨one, other, ⟨r1, r2, hl, L, n1, n2⟩, q⟩
  unfold g__law_lead
  dsimp only [q_op, q_un, q_var, q_c, q_nil, q_cons, q_tup, q_frz, q_cel, q_lst, q_test, q_onB, q_and, q_or, q_not, q_andV, q_orV, q_notV, q_if, q_chain, q_next, q_seq, q_drop, q_ret, q_retF, q_retN, q_sif, q_break, q_cont, q_name, q_dnil, q_dcons, q_dtup, q_asg, q_set, q_par, q_for, q_range1, q_range2, q_iseq, q_ienum, q_call, q_cb, q_ncb, q_nop, q_lenset, q_mt, q_mt0, q_setix, q_augs, q_aug, q_nsl, q_onone, q_osome, q_gsl, q_raise, q_raiseF, q_try, q_lc, q_lc2, q_yes, q_wipe0, q_wipe, q_xf, q_I, q_I0, q_U, q_add, q_addT, q_addL, q_addR, q_onL, q_onSt, q_onSl, q_onSs, q_onSrct, q_onSrcl, q_eqI, q_eqB, q_eqS, q_eqN, q_isN, q_ix, q_ixL, q_in, q_len, q_sum, q_max, q_min, q_max2, q_min2, q_abs, q_int, q_intB, q_tupof, q_lstof, q_sort, q_rep, q_cat, q_isi, q_isis, q_setat, q_onC, q_append, q_pop, q_popAt, q_reverse, q_insert, q_sp1, q_sp2, q_sp3, q_sp4, q_at0, q_atS, q_st0, q_stS, q_iteT, q_iteF, q_isB, q_sumS, q_all, q_any, q_repT, q_spV, q_nLcX, q_sFz, q_gFld, q_sFldD, q_gMake, q_gCallI, q_gMeth, q_gRev]
  refine r2.onS ⟨other, rfl, r1.onS ⟨⟨by rw [List.length_map]; omega, by rw [List.length_map]; omega⟩, ?_⟩⟩
  rw [List.length_map, Int.toNat_natCast]
  refine loop_rg0 (fun s ρ M' => (∃ a, ρ = [some d0, some d1, some (.int (S1 s fun i => one.getD i 0 * gW other i)), some (.int (pre other s)), some (.int other.sum), a]) ∧ M' = M) ?_ ?_ ⟨⟨_, rfl⟩, rfl⟩
  · rintro s ρ M' hs ⟨⟨a, rfl⟩, rfl⟩ Nx hN
    (try dsimp only [q_op, q_un, q_var, q_c, q_nil, q_cons, q_tup, q_frz, q_cel, q_lst, q_test, q_onB, q_and, q_or, q_not, q_andV, q_orV, q_notV, q_if, q_chain, q_next, q_seq, q_drop, q_ret, q_retF, q_retN, q_sif, q_break, q_cont, q_name, q_dnil, q_dcons, q_dtup, q_asg, q_set, q_par, q_for, q_range1, q_range2, q_iseq, q_ienum, q_call, q_cb, q_ncb, q_nop, q_lenset, q_mt, q_mt0, q_setix, q_augs, q_aug, q_nsl, q_onone, q_osome, q_gsl, q_raise, q_raiseF, q_try, q_lc, q_lc2, q_yes, q_wipe0, q_wipe, q_xf, q_I, q_I0, q_U, q_add, q_addT, q_addL, q_addR, q_onL, q_onSt, q_onSl, q_onSs, q_onSrct, q_onSrcl, q_eqI, q_eqB, q_eqS, q_eqN, q_isN, q_ix, q_ixL, q_in, q_len, q_sum, q_max, q_min, q_max2, q_min2, q_abs, q_int, q_intB, q_tupof, q_lstof, q_sort, q_rep, q_cat, q_isi, q_isis, q_setat, q_onC, q_append, q_pop, q_popAt, q_reverse, q_insert, q_sp1, q_sp2, q_sp3, q_sp4, q_at0, q_atS, q_st0, q_stS, q_iteT, q_iteF, q_isB, q_sumS, q_all, q_any, q_repT, q_spV, q_nLcX, q_sFz, q_gFld, q_sFldD, q_gMake, q_gCallI, q_gMeth, q_gRev])
    refine r1.onS ⟨_, atI_iD (by omega), ?_⟩
    (try dsimp only [q_op, q_un, q_var, q_c, q_nil, q_cons, q_tup, q_frz, q_cel, q_lst, q_test, q_onB, q_and, q_or, q_not, q_andV, q_orV, q_notV, q_if, q_chain, q_next, q_seq, q_drop, q_ret, q_retF, q_retN, q_sif, q_break, q_cont, q_name, q_dnil, q_dcons, q_dtup, q_asg, q_set, q_par, q_for, q_range1, q_range2, q_iseq, q_ienum, q_call, q_cb, q_ncb, q_nop, q_lenset, q_mt, q_mt0, q_setix, q_augs, q_aug, q_nsl, q_onone, q_osome, q_gsl, q_raise, q_raiseF, q_try, q_lc, q_lc2, q_yes, q_wipe0, q_wipe, q_xf, q_I, q_I0, q_U, q_add, q_addT, q_addL, q_addR, q_onL, q_onSt, q_onSl, q_onSs, q_onSrct, q_onSrcl, q_eqI, q_eqB, q_eqS, q_eqN, q_isN, q_ix, q_ixL, q_in, q_len, q_sum, q_max, q_min, q_max2, q_min2, q_abs, q_int, q_intB, q_tupof, q_lstof, q_sort, q_rep, q_cat, q_isi, q_isis, q_setat, q_onC, q_append, q_pop, q_popAt, q_reverse, q_insert, q_sp1, q_sp2, q_sp3, q_sp4, q_at0, q_atS, q_st0, q_stS, q_iteT, q_iteF, q_isB, q_sumS, q_all, q_any, q_repT, q_spV, q_nLcX, q_sFz, q_gFld, q_sFldD, q_gMake, q_gCallI, q_gMeth, q_gRev])
    refine ⟨cmul (show nb 2 2 by unfold nb; decide) (nb_pre n2 (by omega)), r2.onS ⟨_, atI_iD (by omega), ?_⟩⟩
    (try dsimp only [q_op, q_un, q_var, q_c, q_nil, q_cons, q_tup, q_frz, q_cel, q_lst, q_test, q_onB, q_and, q_or, q_not, q_andV, q_orV, q_notV, q_if, q_chain, q_next, q_seq, q_drop, q_ret, q_retF, q_retN, q_sif, q_break, q_cont, q_name, q_dnil, q_dcons, q_dtup, q_asg, q_set, q_par, q_for, q_range1, q_range2, q_iseq, q_ienum, q_call, q_cb, q_ncb, q_nop, q_lenset, q_mt, q_mt0, q_setix, q_augs, q_aug, q_nsl, q_onone, q_osome, q_gsl, q_raise, q_raiseF, q_try, q_lc, q_lc2, q_yes, q_wipe0, q_wipe, q_xf, q_I, q_I0, q_U, q_add, q_addT, q_addL, q_addR, q_onL, q_onSt, q_onSl, q_onSs, q_onSrct, q_onSrcl, q_eqI, q_eqB, q_eqS, q_eqN, q_isN, q_ix, q_ixL, q_in, q_len, q_sum, q_max, q_min, q_max2, q_min2, q_abs, q_int, q_intB, q_tupof, q_lstof, q_sort, q_rep, q_cat, q_isi, q_isis, q_setat, q_onC, q_append, q_pop, q_popAt, q_reverse, q_insert, q_sp1, q_sp2, q_sp3, q_sp4, q_at0, q_atS, q_st0, q_stS, q_iteT, q_iteF, q_isB, q_sumS, q_all, q_any, q_repT, q_spV, q_nLcX, q_sFz, q_gFld, q_sFldD, q_gMake, q_gCallI, q_gMeth, q_gRev])
    refine ⟨cmul (nb_getD n1 s) (nb_sub (n := 401) (nb_add (n := 400) (nb_mono (nb_mul (show nb 2 2 by unfold nb; decide) (nb_pre n2 (i := s) (by omega))) (by decide)) (nb_mono (nb_getD n2 s) (by decide))) (nb_mono (nb_sum n2 (by omega)) (by decide))), r2.onS ⟨_, atI_iD (by omega), ?_⟩⟩
    (try dsimp only [q_op, q_un, q_var, q_c, q_nil, q_cons, q_tup, q_frz, q_cel, q_lst, q_test, q_onB, q_and, q_or, q_not, q_andV, q_orV, q_notV, q_if, q_chain, q_next, q_seq, q_drop, q_ret, q_retF, q_retN, q_sif, q_break, q_cont, q_name, q_dnil, q_dcons, q_dtup, q_asg, q_set, q_par, q_for, q_range1, q_range2, q_iseq, q_ienum, q_call, q_cb, q_ncb, q_nop, q_lenset, q_mt, q_mt0, q_setix, q_augs, q_aug, q_nsl, q_onone, q_osome, q_gsl, q_raise, q_raiseF, q_try, q_lc, q_lc2, q_yes, q_wipe0, q_wipe, q_xf, q_I, q_I0, q_U, q_add, q_addT, q_addL, q_addR, q_onL, q_onSt, q_onSl, q_onSs, q_onSrct, q_onSrcl, q_eqI, q_eqB, q_eqS, q_eqN, q_isN, q_ix, q_ixL, q_in, q_len, q_sum, q_max, q_min, q_max2, q_min2, q_abs, q_int, q_intB, q_tupof, q_lstof, q_sort, q_rep, q_cat, q_isi, q_isis, q_setat, q_onC, q_append, q_pop, q_popAt, q_reverse, q_insert, q_sp1, q_sp2, q_sp3, q_sp4, q_at0, q_atS, q_st0, q_stS, q_iteT, q_iteF, q_isB, q_sumS, q_all, q_any, q_repT, q_spV, q_nLcX, q_sFz, q_gFld, q_sFldD, q_gMake, q_gCallI, q_gMeth, q_gRev])
    have := hN [some d0, some d1, some (.int (S1 (s + 1) fun i => one.getD i 0 * gW other i)), some (.int (pre other (s + 1))), some (.int other.sum), some (.int (s : Nat))] M' ⟨⟨_, rfl⟩, rfl⟩
    rw [S1_succ] at this
    unfold gW at this
    rw [pre_succ, show pre other s + (pre other s + other.getD s 0) - other.sum = 2 * pre other s + other.getD s 0 - other.sum by omega] at this
    exact this
  · rintro ρ M' ⟨⟨a, rfl⟩, rfl⟩
    (try dsimp only [q_op, q_un, q_var, q_c, q_nil, q_cons, q_tup, q_frz, q_cel, q_lst, q_test, q_onB, q_and, q_or, q_not, q_andV, q_orV, q_notV, q_if, q_chain, q_next, q_seq, q_drop, q_ret, q_retF, q_retN, q_sif, q_break, q_cont, q_name, q_dnil, q_dcons, q_dtup, q_asg, q_set, q_par, q_for, q_range1, q_range2, q_iseq, q_ienum, q_call, q_cb, q_ncb, q_nop, q_lenset, q_mt, q_mt0, q_setix, q_augs, q_aug, q_nsl, q_onone, q_osome, q_gsl, q_raise, q_raiseF, q_try, q_lc, q_lc2, q_yes, q_wipe0, q_wipe, q_xf, q_I, q_I0, q_U, q_add, q_addT, q_addL, q_addR, q_onL, q_onSt, q_onSl, q_onSs, q_onSrct, q_onSrcl, q_eqI, q_eqB, q_eqS, q_eqN, q_isN, q_ix, q_ixL, q_in, q_len, q_sum, q_max, q_min, q_max2, q_min2, q_abs, q_int, q_intB, q_tupof, q_lstof, q_sort, q_rep, q_cat, q_isi, q_isis, q_setat, q_onC, q_append, q_pop, q_popAt, q_reverse, q_insert, q_sp1, q_sp2, q_sp3, q_sp4, q_at0, q_atS, q_st0, q_stS, q_iteT, q_iteF, q_isB, q_sumS, q_all, q_any, q_repT, q_spV, q_nLcX, q_sFz, q_gFld, q_sFldD, q_gMake, q_gCallI, q_gMeth, q_gRev])
    rw [lead_gW hl] at q
    exact q
theorem b__law_wins : ∀ d0 d1 M Q E, sp__law_wins K [d0, d1] M Q E → g__law_wins K { nx := fun _ M => Q .non M, rt := Q, ex := fun x _ M => E x M } [some d0, some d1, none, none, none] M := by
  rintro d0 d1 M Q E ⟨one, other, ⟨r1, r2, hl, L, n1, n2⟩, q⟩
  unfold g__law_wins
  dsimp only [q_op, q_un, q_var, q_c, q_nil, q_cons, q_tup, q_frz, q_cel, q_lst, q_test, q_onB, q_and, q_or, q_not, q_andV, q_orV, q_notV, q_if, q_chain, q_next, q_seq, q_drop, q_ret, q_retF, q_retN, q_sif, q_break, q_cont, q_name, q_dnil, q_dcons, q_dtup, q_asg, q_set, q_par, q_for, q_range1, q_range2, q_iseq, q_ienum, q_call, q_cb, q_ncb, q_nop, q_lenset, q_mt, q_mt0, q_setix, q_augs, q_aug, q_nsl, q_onone, q_osome, q_gsl, q_raise, q_raiseF, q_try, q_lc, q_lc2, q_yes, q_wipe0, q_wipe, q_xf, q_I, q_I0, q_U, q_add, q_addT, q_addL, q_addR, q_onL, q_onSt, q_onSl, q_onSs, q_onSrct, q_onSrcl, q_eqI, q_eqB, q_eqS, q_eqN, q_isN, q_ix, q_ixL, q_in, q_len, q_sum, q_max, q_min, q_max2, q_min2, q_abs, q_int, q_intB, q_tupof, q_lstof, q_sort, q_rep, q_cat, q_isi, q_isis, q_setat, q_onC, q_append, q_pop, q_popAt, q_reverse, q_insert, q_sp1, q_sp2, q_sp3, q_sp4, q_at0, q_atS, q_st0, q_stS, q_iteT, q_iteF, q_isB, q_sumS, q_all, q_any, q_repT, q_spV, q_nLcX, q_sFz, q_gFld, q_sFldD, q_gMake, q_gCallI, q_gMeth, q_gRev]
  refine r1.onS ⟨⟨by rw [List.length_map]; omega, by rw [List.length_map]; omega⟩, ?_⟩
  rw [List.length_map, Int.toNat_natCast]
  refine loop_rg0 (fun s ρ M' => (∃ a, ρ = [some d0, some d1, some (.int (S1 s fun i => one.getD i 0 * pre other i)), some (.int (pre other s)), a]) ∧ M' = M) ?_ ?_ ⟨⟨_, rfl⟩, rfl⟩
  · rintro s ρ M' hs ⟨⟨a, rfl⟩, rfl⟩ Nx hN
    (try dsimp only [q_op, q_un, q_var, q_c, q_nil, q_cons, q_tup, q_frz, q_cel, q_lst, q_test, q_onB, q_and, q_or, q_not, q_andV, q_orV, q_notV, q_if, q_chain, q_next, q_seq, q_drop, q_ret, q_retF, q_retN, q_sif, q_break, q_cont, q_name, q_dnil, q_dcons, q_dtup, q_asg, q_set, q_par, q_for, q_range1, q_range2, q_iseq, q_ienum, q_call, q_cb, q_ncb, q_nop, q_lenset, q_mt, q_mt0, q_setix, q_augs, q_aug, q_nsl, q_onone, q_osome, q_gsl, q_raise, q_raiseF, q_try, q_lc, q_lc2, q_yes, q_wipe0, q_wipe, q_xf, q_I, q_I0, q_U, q_add, q_addT, q_addL, q_addR, q_onL, q_onSt, q_onSl, q_onSs, q_onSrct, q_onSrcl, q_eqI, q_eqB, q_eqS, q_eqN, q_isN, q_ix, q_ixL, q_in, q_len, q_sum, q_max, q_min, q_max2, q_min2, q_abs, q_int, q_intB, q_tupof, q_lstof, q_sort, q_rep, q_cat, q_isi, q_isis, q_setat, q_onC, q_append, q_pop, q_popAt, q_reverse, q_insert, q_sp1, q_sp2, q_sp3, q_sp4, q_at0, q_atS, q_st0, q_stS, q_iteT, q_iteF, q_isB, q_sumS, q_all, q_any, q_repT, q_spV, q_nLcX, q_sFz, q_gFld, q_sFldD, q_gMake, q_gCallI, q_gMeth, q_gRev])
    refine r1.onS ⟨_, atI_iD (by omega), ?_⟩
    (try dsimp only [q_op, q_un, q_var, q_c, q_nil, q_cons, q_tup, q_frz, q_cel, q_lst, q_test, q_onB, q_and, q_or, q_not, q_andV, q_orV, q_notV, q_if, q_chain, q_next, q_seq, q_drop, q_ret, q_retF, q_retN, q_sif, q_break, q_cont, q_name, q_dnil, q_dcons, q_dtup, q_asg, q_set, q_par, q_for, q_range1, q_range2, q_iseq, q_ienum, q_call, q_cb, q_ncb, q_nop, q_lenset, q_mt, q_mt0, q_setix, q_augs, q_aug, q_nsl, q_onone, q_osome, q_gsl, q_raise, q_raiseF, q_try, q_lc, q_lc2, q_yes, q_wipe0, q_wipe, q_xf, q_I, q_I0, q_U, q_add, q_addT, q_addL, q_addR, q_onL, q_onSt, q_onSl, q_onSs, q_onSrct, q_onSrcl, q_eqI, q_eqB, q_eqS, q_eqN, q_isN, q_ix, q_ixL, q_in, q_len, q_sum, q_max, q_min, q_max2, q_min2, q_abs, q_int, q_intB, q_tupof, q_lstof, q_sort, q_rep, q_cat, q_isi, q_isis, q_setat, q_onC, q_append, q_pop, q_popAt, q_reverse, q_insert, q_sp1, q_sp2, q_sp3, q_sp4, q_at0, q_atS, q_st0, q_stS, q_iteT, q_iteF, q_isB, q_sumS, q_all, q_any, q_repT, q_spV, q_nLcX, q_sFz, q_gFld, q_sFldD, q_gMake, q_gCallI, q_gMeth, q_gRev])
    refine ⟨cmul (nb_getD n1 s) (nb_pre n2 (by omega)), r2.onS ⟨_, atI_iD (by omega), ?_⟩⟩
    (try dsimp only [q_op, q_un, q_var, q_c, q_nil, q_cons, q_tup, q_frz, q_cel, q_lst, q_test, q_onB, q_and, q_or, q_not, q_andV, q_orV, q_notV, q_if, q_chain, q_next, q_seq, q_drop, q_ret, q_retF, q_retN, q_sif, q_break, q_cont, q_name, q_dnil, q_dcons, q_dtup, q_asg, q_set, q_par, q_for, q_range1, q_range2, q_iseq, q_ienum, q_call, q_cb, q_ncb, q_nop, q_lenset, q_mt, q_mt0, q_setix, q_augs, q_aug, q_nsl, q_onone, q_osome, q_gsl, q_raise, q_raiseF, q_try, q_lc, q_lc2, q_yes, q_wipe0, q_wipe, q_xf, q_I, q_I0, q_U, q_add, q_addT, q_addL, q_addR, q_onL, q_onSt, q_onSl, q_onSs, q_onSrct, q_onSrcl, q_eqI, q_eqB, q_eqS, q_eqN, q_isN, q_ix, q_ixL, q_in, q_len, q_sum, q_max, q_min, q_max2, q_min2, q_abs, q_int, q_intB, q_tupof, q_lstof, q_sort, q_rep, q_cat, q_isi, q_isis, q_setat, q_onC, q_append, q_pop, q_popAt, q_reverse, q_insert, q_sp1, q_sp2, q_sp3, q_sp4, q_at0, q_atS, q_st0, q_stS, q_iteT, q_iteF, q_isB, q_sumS, q_all, q_any, q_repT, q_spV, q_nLcX, q_sFz, q_gFld, q_sFldD, q_gMake, q_gCallI, q_gMeth, q_gRev])
    have := hN [some d0, some d1, some (.int (S1 (s + 1) fun i => one.getD i 0 * pre other i)), some (.int (pre other (s + 1))), some (.int (s : Nat))] M' ⟨⟨_, rfl⟩, rfl⟩
    rw [S1_succ, pre_succ] at this
    exact this
  · rintro ρ M' ⟨⟨a, rfl⟩, rfl⟩
    (try dsimp only [q_op, q_un, q_var, q_c, q_nil, q_cons, q_tup, q_frz, q_cel, q_lst, q_test, q_onB, q_and, q_or, q_not, q_andV, q_orV, q_notV, q_if, q_chain, q_next, q_seq, q_drop, q_ret, q_retF, q_retN, q_sif, q_break, q_cont, q_name, q_dnil, q_dcons, q_dtup, q_asg, q_set, q_par, q_for, q_range1, q_range2, q_iseq, q_ienum, q_call, q_cb, q_ncb, q_nop, q_lenset, q_mt, q_mt0, q_setix, q_augs, q_aug, q_nsl, q_onone, q_osome, q_gsl, q_raise, q_raiseF, q_try, q_lc, q_lc2, q_yes, q_wipe0, q_wipe, q_xf, q_I, q_I0, q_U, q_add, q_addT, q_addL, q_addR, q_onL, q_onSt, q_onSl, q_onSs, q_onSrct, q_onSrcl, q_eqI, q_eqB, q_eqS, q_eqN, q_isN, q_ix, q_ixL, q_in, q_len, q_sum, q_max, q_min, q_max2, q_min2, q_abs, q_int, q_intB, q_tupof, q_lstof, q_sort, q_rep, q_cat, q_isi, q_isis, q_setat, q_onC, q_append, q_pop, q_popAt, q_reverse, q_insert, q_sp1, q_sp2, q_sp3, q_sp4, q_at0, q_atS, q_st0, q_stS, q_iteT, q_iteF, q_isB, q_sumS, q_all, q_any, q_repT, q_spV, q_nLcX, q_sFz, q_gFld, q_sFldD, q_gMake, q_gCallI, q_gMeth, q_gRev])
    exact q
theorem row_sl {M : Mem} {d : D} {xs : List D} {lo hi : Option Int} {Q : DVK} (r : RowD M d xs) (q : ∀ d', RowD M d' (cutD xs lo hi) → Q d' M) : slD d lo hi M Q := by
  rcases r with rfl | rfl | ⟨a, rfl, h⟩
  · exact q _ RowD.tup
  · exact q _ RowD.lst
  · exact onL_ref h (q _ RowD.lst)
theorem cut_iD {xs : List Int} {i : Nat} (h : i ≤ xs.length) : cutD (iD xs) none (some ((i : Nat) : Int)) = iD (xs.take i) := by
  rw [cut_take _ (by rw [List.length_map]; exact h)]
  unfold iD
  rw [List.map_take]
theorem b__law_over : ∀ d0 d1 M Q E, sp__law_over K [d0, d1] M Q E → g__law_over K { nx := fun _ M => Q .non M, rt := Q, ex := fun x _ M => E x M } [some d0, some d1, none] M := by
  rintro d0 d1 M Q E ⟨one, other, ⟨r1, r2, hl, L, n1, n2⟩, q⟩
  unfold g__law_over
  dsimp only [q_op, q_un, q_var, q_c, q_nil, q_cons, q_tup, q_frz, q_cel, q_lst, q_test, q_onB, q_and, q_or, q_not, q_andV, q_orV, q_notV, q_if, q_chain, q_next, q_seq, q_drop, q_ret, q_retF, q_retN, q_sif, q_break, q_cont, q_name, q_dnil, q_dcons, q_dtup, q_asg, q_set, q_par, q_for, q_range1, q_range2, q_iseq, q_ienum, q_call, q_cb, q_ncb, q_nop, q_lenset, q_mt, q_mt0, q_setix, q_augs, q_aug, q_nsl, q_onone, q_osome, q_gsl, q_raise, q_raiseF, q_try, q_lc, q_lc2, q_yes, q_wipe0, q_wipe, q_xf, q_I, q_I0, q_U, q_add, q_addT, q_addL, q_addR, q_onL, q_onSt, q_onSl, q_onSs, q_onSrct, q_onSrcl, q_eqI, q_eqB, q_eqS, q_eqN, q_isN, q_ix, q_ixL, q_in, q_len, q_sum, q_max, q_min, q_max2, q_min2, q_abs, q_int, q_intB, q_tupof, q_lstof, q_sort, q_rep, q_cat, q_isi, q_isis, q_setat, q_onC, q_append, q_pop, q_popAt, q_reverse, q_insert, q_sp1, q_sp2, q_sp3, q_sp4, q_at0, q_atS, q_st0, q_stS, q_iteT, q_iteF, q_isB, q_sumS, q_all, q_any, q_repT, q_spV, q_nLcX, q_sFz, q_gFld, q_sFldD, q_gMake, q_gCallI, q_gMeth, q_gRev]
  refine r1.onS ⟨⟨by rw [List.length_map]; omega, by rw [List.length_map]; omega⟩, ?_⟩
  rw [List.length_map, show ((one.length : Int) + 1).toNat = one.length + 1 by omega]
  refine loop_rg0 (fun s ρ M' => (∃ a, ρ = [some d0, some d1, a]) ∧ M' = M ∧ ∀ j, j < s → other.sum * pre one j ≤ one.sum * pre other j) ?_ ?_ ⟨⟨_, rfl⟩, rfl, (fun _ h => absurd h (Nat.not_lt_zero _))⟩
  · rintro s ρ M' hs ⟨⟨a, rfl⟩, rfl, hall⟩ Nx hN
    (try dsimp only [q_op, q_un, q_var, q_c, q_nil, q_cons, q_tup, q_frz, q_cel, q_lst, q_test, q_onB, q_and, q_or, q_not, q_andV, q_orV, q_notV, q_if, q_chain, q_next, q_seq, q_drop, q_ret, q_retF, q_retN, q_sif, q_break, q_cont, q_name, q_dnil, q_dcons, q_dtup, q_asg, q_set, q_par, q_for, q_range1, q_range2, q_iseq, q_ienum, q_call, q_cb, q_ncb, q_nop, q_lenset, q_mt, q_mt0, q_setix, q_augs, q_aug, q_nsl, q_onone, q_osome, q_gsl, q_raise, q_raiseF, q_try, q_lc, q_lc2, q_yes, q_wipe0, q_wipe, q_xf, q_I, q_I0, q_U, q_add, q_addT, q_addL, q_addR, q_onL, q_onSt, q_onSl, q_onSs, q_onSrct, q_onSrcl, q_eqI, q_eqB, q_eqS, q_eqN, q_isN, q_ix, q_ixL, q_in, q_len, q_sum, q_max, q_min, q_max2, q_min2, q_abs, q_int, q_intB, q_tupof, q_lstof, q_sort, q_rep, q_cat, q_isi, q_isis, q_setat, q_onC, q_append, q_pop, q_popAt, q_reverse, q_insert, q_sp1, q_sp2, q_sp3, q_sp4, q_at0, q_atS, q_st0, q_stS, q_iteT, q_iteF, q_isB, q_sumS, q_all, q_any, q_repT, q_spV, q_nLcX, q_sFz, q_gFld, q_sFldD, q_gMake, q_gCallI, q_gMeth, q_gRev])
    refine r2.onS ⟨other, rfl, row_sl r1 fun d2 h2 => ?_⟩
    rw [cut_iD (by omega)] at h2
    refine h2.onS ⟨_, rfl, ?_⟩
    (try dsimp only [q_op, q_un, q_var, q_c, q_nil, q_cons, q_tup, q_frz, q_cel, q_lst, q_test, q_onB, q_and, q_or, q_not, q_andV, q_orV, q_notV, q_if, q_chain, q_next, q_seq, q_drop, q_ret, q_retF, q_retN, q_sif, q_break, q_cont, q_name, q_dnil, q_dcons, q_dtup, q_asg, q_set, q_par, q_for, q_range1, q_range2, q_iseq, q_ienum, q_call, q_cb, q_ncb, q_nop, q_lenset, q_mt, q_mt0, q_setix, q_augs, q_aug, q_nsl, q_onone, q_osome, q_gsl, q_raise, q_raiseF, q_try, q_lc, q_lc2, q_yes, q_wipe0, q_wipe, q_xf, q_I, q_I0, q_U, q_add, q_addT, q_addL, q_addR, q_onL, q_onSt, q_onSl, q_onSs, q_onSrct, q_onSrcl, q_eqI, q_eqB, q_eqS, q_eqN, q_isN, q_ix, q_ixL, q_in, q_len, q_sum, q_max, q_min, q_max2, q_min2, q_abs, q_int, q_intB, q_tupof, q_lstof, q_sort, q_rep, q_cat, q_isi, q_isis, q_setat, q_onC, q_append, q_pop, q_popAt, q_reverse, q_insert, q_sp1, q_sp2, q_sp3, q_sp4, q_at0, q_atS, q_st0, q_stS, q_iteT, q_iteF, q_isB, q_sumS, q_all, q_any, q_repT, q_spV, q_nLcX, q_sFz, q_gFld, q_sFldD, q_gMake, q_gCallI, q_gMeth, q_gRev])
    refine ⟨cmul (nb_sum n2 (by omega)) (nb_pre n1 (i := s) (by omega)), r1.onS ⟨one, rfl, row_sl r2 fun d3 h3 => ?_⟩⟩
    rw [cut_iD (by omega)] at h3
    refine h3.onS ⟨_, rfl, ?_⟩
    (try dsimp only [q_op, q_un, q_var, q_c, q_nil, q_cons, q_tup, q_frz, q_cel, q_lst, q_test, q_onB, q_and, q_or, q_not, q_andV, q_orV, q_notV, q_if, q_chain, q_next, q_seq, q_drop, q_ret, q_retF, q_retN, q_sif, q_break, q_cont, q_name, q_dnil, q_dcons, q_dtup, q_asg, q_set, q_par, q_for, q_range1, q_range2, q_iseq, q_ienum, q_call, q_cb, q_ncb, q_nop, q_lenset, q_mt, q_mt0, q_setix, q_augs, q_aug, q_nsl, q_onone, q_osome, q_gsl, q_raise, q_raiseF, q_try, q_lc, q_lc2, q_yes, q_wipe0, q_wipe, q_xf, q_I, q_I0, q_U, q_add, q_addT, q_addL, q_addR, q_onL, q_onSt, q_onSl, q_onSs, q_onSrct, q_onSrcl, q_eqI, q_eqB, q_eqS, q_eqN, q_isN, q_ix, q_ixL, q_in, q_len, q_sum, q_max, q_min, q_max2, q_min2, q_abs, q_int, q_intB, q_tupof, q_lstof, q_sort, q_rep, q_cat, q_isi, q_isis, q_setat, q_onC, q_append, q_pop, q_popAt, q_reverse, q_insert, q_sp1, q_sp2, q_sp3, q_sp4, q_at0, q_atS, q_st0, q_stS, q_iteT, q_iteF, q_isB, q_sumS, q_all, q_any, q_repT, q_spV, q_nLcX, q_sFz, q_gFld, q_sFldD, q_gMake, q_gCallI, q_gMeth, q_gRev])
    refine ⟨cmul (nb_sum n1 (by omega)) (nb_pre n2 (i := s) (by omega)), ?_⟩
    by_cases c : one.sum * pre other s < other.sum * pre one s
    · refine if_t (decide_eq_true c) ?_
      have : overB one other = false := by
        cases z : overB one other with
        | false => rfl
        | true =>
          have := over_iff.mp z s (by omega)
          omega
      rw [this] at q
      exact q
    · refine if_f (decide_eq_false c) (hN _ _ ⟨⟨_, rfl⟩, rfl, fun j hj => ?_⟩)
      by_cases e : j = s
      · subst e; omega
      · exact hall j (by omega)
  · rintro ρ M' ⟨⟨a, rfl⟩, rfl, hall⟩
    (try dsimp only [q_op, q_un, q_var, q_c, q_nil, q_cons, q_tup, q_frz, q_cel, q_lst, q_test, q_onB, q_and, q_or, q_not, q_andV, q_orV, q_notV, q_if, q_chain, q_next, q_seq, q_drop, q_ret, q_retF, q_retN, q_sif, q_break, q_cont, q_name, q_dnil, q_dcons, q_dtup, q_asg, q_set, q_par, q_for, q_range1, q_range2, q_iseq, q_ienum, q_call, q_cb, q_ncb, q_nop, q_lenset, q_mt, q_mt0, q_setix, q_augs, q_aug, q_nsl, q_onone, q_osome, q_gsl, q_raise, q_raiseF, q_try, q_lc, q_lc2, q_yes, q_wipe0, q_wipe, q_xf, q_I, q_I0, q_U, q_add, q_addT, q_addL, q_addR, q_onL, q_onSt, q_onSl, q_onSs, q_onSrct, q_onSrcl, q_eqI, q_eqB, q_eqS, q_eqN, q_isN, q_ix, q_ixL, q_in, q_len, q_sum, q_max, q_min, q_max2, q_min2, q_abs, q_int, q_intB, q_tupof, q_lstof, q_sort, q_rep, q_cat, q_isi, q_isis, q_setat, q_onC, q_append, q_pop, q_popAt, q_reverse, q_insert, q_sp1, q_sp2, q_sp3, q_sp4, q_at0, q_atS, q_st0, q_stS, q_iteT, q_iteF, q_isB, q_sumS, q_all, q_any, q_repT, q_spV, q_nLcX, q_sFz, q_gFld, q_sFldD, q_gMake, q_gCallI, q_gMeth, q_gRev])
    rw [over_iff.mpr fun j hj => hall j (by omega)] at q
    exact q
theorem b__law_power : ∀ d0 d1 M Q E, sp__law_power K [d0, d1] M Q E → g__law_power K { nx := fun _ M => Q .non M, rt := Q, ex := fun x _ M => E x M } [some d0, some d1, none, none] M := by
  rintro d0 d1 M Q E ⟨i, k, rfl, rfl, hk, hi, q⟩
  unfold g__law_power
  dsimp only [q_op, q_un, q_var, q_c, q_nil, q_cons, q_tup, q_frz, q_cel, q_lst, q_test, q_onB, q_and, q_or, q_not, q_andV, q_orV, q_notV, q_if, q_chain, q_next, q_seq, q_drop, q_ret, q_retF, q_retN, q_sif, q_break, q_cont, q_name, q_dnil, q_dcons, q_dtup, q_asg, q_set, q_par, q_for, q_range1, q_range2, q_iseq, q_ienum, q_call, q_cb, q_ncb, q_nop, q_lenset, q_mt, q_mt0, q_setix, q_augs, q_aug, q_nsl, q_onone, q_osome, q_gsl, q_raise, q_raiseF, q_try, q_lc, q_lc2, q_yes, q_wipe0, q_wipe, q_xf, q_I, q_I0, q_U, q_add, q_addT, q_addL, q_addR, q_onL, q_onSt, q_onSl, q_onSs, q_onSrct, q_onSrcl, q_eqI, q_eqB, q_eqS, q_eqN, q_isN, q_ix, q_ixL, q_in, q_len, q_sum, q_max, q_min, q_max2, q_min2, q_abs, q_int, q_intB, q_tupof, q_lstof, q_sort, q_rep, q_cat, q_isi, q_isis, q_setat, q_onC, q_append, q_pop, q_popAt, q_reverse, q_insert, q_sp1, q_sp2, q_sp3, q_sp4, q_at0, q_atS, q_st0, q_stS, q_iteT, q_iteF, q_isB, q_sumS, q_all, q_any, q_repT, q_spV, q_nLcX, q_sFz, q_gFld, q_sFldD, q_gMake, q_gCallI, q_gMeth, q_gRev]
  refine ⟨⟨by omega, by omega⟩, ?_⟩
  rw [Int.toNat_natCast]
  refine loop_rg0 (fun s ρ M' => (∃ a, ρ = [some (.int i), some (.int (k : Nat)), some (.int (i ^ s)), a]) ∧ M' = M) ?_ ?_ ⟨⟨none, by rw [Int.pow_zero]⟩, rfl⟩
  · rintro s ρ M' hs ⟨⟨a, rfl⟩, rfl⟩ Nx hN
    (try dsimp only [q_op, q_un, q_var, q_c, q_nil, q_cons, q_tup, q_frz, q_cel, q_lst, q_test, q_onB, q_and, q_or, q_not, q_andV, q_orV, q_notV, q_if, q_chain, q_next, q_seq, q_drop, q_ret, q_retF, q_retN, q_sif, q_break, q_cont, q_name, q_dnil, q_dcons, q_dtup, q_asg, q_set, q_par, q_for, q_range1, q_range2, q_iseq, q_ienum, q_call, q_cb, q_ncb, q_nop, q_lenset, q_mt, q_mt0, q_setix, q_augs, q_aug, q_nsl, q_onone, q_osome, q_gsl, q_raise, q_raiseF, q_try, q_lc, q_lc2, q_yes, q_wipe0, q_wipe, q_xf, q_I, q_I0, q_U, q_add, q_addT, q_addL, q_addR, q_onL, q_onSt, q_onSl, q_onSs, q_onSrct, q_onSrcl, q_eqI, q_eqB, q_eqS, q_eqN, q_isN, q_ix, q_ixL, q_in, q_len, q_sum, q_max, q_min, q_max2, q_min2, q_abs, q_int, q_intB, q_tupof, q_lstof, q_sort, q_rep, q_cat, q_isi, q_isis, q_setat, q_onC, q_append, q_pop, q_popAt, q_reverse, q_insert, q_sp1, q_sp2, q_sp3, q_sp4, q_at0, q_atS, q_st0, q_stS, q_iteT, q_iteF, q_isB, q_sumS, q_all, q_any, q_repT, q_spV, q_nLcX, q_sFz, q_gFld, q_sFldD, q_gMake, q_gCallI, q_gMeth, q_gRev])
    refine ⟨cmul (nb_mono (nb_pow hi s) (m := 30001) (by omega)) hi, ?_⟩
    rw [← Int.pow_succ]
    exact hN _ _ ⟨⟨_, rfl⟩, rfl⟩
  · rintro ρ M' ⟨⟨a, rfl⟩, rfl⟩
    (try dsimp only [q_op, q_un, q_var, q_c, q_nil, q_cons, q_tup, q_frz, q_cel, q_lst, q_test, q_onB, q_and, q_or, q_not, q_andV, q_orV, q_notV, q_if, q_chain, q_next, q_seq, q_drop, q_ret, q_retF, q_retN, q_sif, q_break, q_cont, q_name, q_dnil, q_dcons, q_dtup, q_asg, q_set, q_par, q_for, q_range1, q_range2, q_iseq, q_ienum, q_call, q_cb, q_ncb, q_nop, q_lenset, q_mt, q_mt0, q_setix, q_augs, q_aug, q_nsl, q_onone, q_osome, q_gsl, q_raise, q_raiseF, q_try, q_lc, q_lc2, q_yes, q_wipe0, q_wipe, q_xf, q_I, q_I0, q_U, q_add, q_addT, q_addL, q_addR, q_onL, q_onSt, q_onSl, q_onSs, q_onSrct, q_onSrcl, q_eqI, q_eqB, q_eqS, q_eqN, q_isN, q_ix, q_ixL, q_in, q_len, q_sum, q_max, q_min, q_max2, q_min2, q_abs, q_int, q_intB, q_tupof, q_lstof, q_sort, q_rep, q_cat, q_isi, q_isis, q_setat, q_onC, q_append, q_pop, q_popAt, q_reverse, q_insert, q_sp1, q_sp2, q_sp3, q_sp4, q_at0, q_atS, q_st0, q_stS, q_iteT, q_iteF, q_isB, q_sumS, q_all, q_any, q_repT, q_spV, q_nLcX, q_sFz, q_gFld, q_sFldD, q_gMake, q_gCallI, q_gMeth, q_gRev])
    exact q
theorem b__law_most : ∀ d0 d1 M Q E, sp__law_most K [d0, d1] M Q E → g__law_most K { nx := fun _ M => Q .non M, rt := Q, ex := fun x _ M => E x M } [some d0, some d1, none, none, none] M := by
  rintro d0 d1 M Q E ⟨row, n, r, L, hp, hn, rfl, q⟩
  unfold g__law_most
  dsimp only [q_op, q_un, q_var, q_c, q_nil, q_cons, q_tup, q_frz, q_cel, q_lst, q_test, q_onB, q_and, q_or, q_not, q_andV, q_orV, q_notV, q_if, q_chain, q_next, q_seq, q_drop, q_ret, q_retF, q_retN, q_sif, q_break, q_cont, q_name, q_dnil, q_dcons, q_dtup, q_asg, q_set, q_par, q_for, q_range1, q_range2, q_iseq, q_ienum, q_call, q_cb, q_ncb, q_nop, q_lenset, q_mt, q_mt0, q_setix, q_augs, q_aug, q_nsl, q_onone, q_osome, q_gsl, q_raise, q_raiseF, q_try, q_lc, q_lc2, q_yes, q_wipe0, q_wipe, q_xf, q_I, q_I0, q_U, q_add, q_addT, q_addL, q_addR, q_onL, q_onSt, q_onSl, q_onSs, q_onSrct, q_onSrcl, q_eqI, q_eqB, q_eqS, q_eqN, q_isN, q_ix, q_ixL, q_in, q_len, q_sum, q_max, q_min, q_max2, q_min2, q_abs, q_int, q_intB, q_tupof, q_lstof, q_sort, q_rep, q_cat, q_isi, q_isis, q_setat, q_onC, q_append, q_pop, q_popAt, q_reverse, q_insert, q_sp1, q_sp2, q_sp3, q_sp4, q_at0, q_atS, q_st0, q_stS, q_iteT, q_iteF, q_isB, q_sumS, q_all, q_any, q_repT, q_spV, q_nLcX, q_sFz, q_gFld, q_sFldD, q_gMake, q_gCallI, q_gMeth, q_gRev, sp__law_power]
  refine ⟨Nat.zero_le _, fun c hc => ?_⟩
  have t0 : TabAt M (mset M c (.lst (iD []))) [c] [iD []] := TabAt.nil.push hc
  show onSrc (mset M c (.lst (iD []))) d0 _
  refine (t0.up.row r).onSrc fun ok ho ho2 => ?_
  refine loop_map D.int row (fun s ρ M' => (∃ a, ρ = [some d0, some (.int (n : Nat)), some (.ref c), some (.int (pre row s)), a]) ∧ TabAt M M' [c] [iD ((List.range s).map fun i => pre row (i + 1) ^ n - pre row i ^ n)]) (fun i ρ M' _ ⟨_, t⟩ => ho2 _ (t.up.row r)) ?_ ?_ ⟨⟨_, rfl⟩, t0⟩
  · rintro s x ρ M' hx ⟨⟨a, rfl⟩, t⟩ Nx hN
    have hs := (List.getElem?_eq_some_iff.mp hx).1
    have ex : row.getD s 0 = x := by rw [List.getD_eq_getElem?_getD, hx]; rfl
    have hM := tab_one t
    (try dsimp only [q_op, q_un, q_var, q_c, q_nil, q_cons, q_tup, q_frz, q_cel, q_lst, q_test, q_onB, q_and, q_or, q_not, q_andV, q_orV, q_notV, q_if, q_chain, q_next, q_seq, q_drop, q_ret, q_retF, q_retN, q_sif, q_break, q_cont, q_name, q_dnil, q_dcons, q_dtup, q_asg, q_set, q_par, q_for, q_range1, q_range2, q_iseq, q_ienum, q_call, q_cb, q_ncb, q_nop, q_lenset, q_mt, q_mt0, q_setix, q_augs, q_aug, q_nsl, q_onone, q_osome, q_gsl, q_raise, q_raiseF, q_try, q_lc, q_lc2, q_yes, q_wipe0, q_wipe, q_xf, q_I, q_I0, q_U, q_add, q_addT, q_addL, q_addR, q_onL, q_onSt, q_onSl, q_onSs, q_onSrct, q_onSrcl, q_eqI, q_eqB, q_eqS, q_eqN, q_isN, q_ix, q_ixL, q_in, q_len, q_sum, q_max, q_min, q_max2, q_min2, q_abs, q_int, q_intB, q_tupof, q_lstof, q_sort, q_rep, q_cat, q_isi, q_isis, q_setat, q_onC, q_append, q_pop, q_popAt, q_reverse, q_insert, q_sp1, q_sp2, q_sp3, q_sp4, q_at0, q_atS, q_st0, q_stS, q_iteT, q_iteF, q_isB, q_sumS, q_all, q_any, q_repT, q_spV, q_nLcX, q_sFz, q_gFld, q_sFldD, q_gMake, q_gCallI, q_gMeth, q_gRev])
    have e1 : pre row s + x = pre row (s + 1) := by rw [pre_succ, ex]
    rw [e1]
    refine ⟨onL_ref hM trivial, _, n, rfl, rfl, by omega, hp _, _, n, rfl, rfl, by omega, hp _, ?_⟩
    (try dsimp only [q_op, q_un, q_var, q_c, q_nil, q_cons, q_tup, q_frz, q_cel, q_lst, q_test, q_onB, q_and, q_or, q_not, q_andV, q_orV, q_notV, q_if, q_chain, q_next, q_seq, q_drop, q_ret, q_retF, q_retN, q_sif, q_break, q_cont, q_name, q_dnil, q_dcons, q_dtup, q_asg, q_set, q_par, q_for, q_range1, q_range2, q_iseq, q_ienum, q_call, q_cb, q_ncb, q_nop, q_lenset, q_mt, q_mt0, q_setix, q_augs, q_aug, q_nsl, q_onone, q_osome, q_gsl, q_raise, q_raiseF, q_try, q_lc, q_lc2, q_yes, q_wipe0, q_wipe, q_xf, q_I, q_I0, q_U, q_add, q_addT, q_addL, q_addR, q_onL, q_onSt, q_onSl, q_onSs, q_onSrct, q_onSrcl, q_eqI, q_eqB, q_eqS, q_eqN, q_isN, q_ix, q_ixL, q_in, q_len, q_sum, q_max, q_min, q_max2, q_min2, q_abs, q_int, q_intB, q_tupof, q_lstof, q_sort, q_rep, q_cat, q_isi, q_isis, q_setat, q_onC, q_append, q_pop, q_popAt, q_reverse, q_insert, q_sp1, q_sp2, q_sp3, q_sp4, q_at0, q_atS, q_st0, q_stS, q_iteT, q_iteF, q_isB, q_sumS, q_all, q_any, q_repT, q_spV, q_nLcX, q_sFz, q_gFld, q_sFldD, q_gMake, q_gCallI, q_gMeth, q_gRev])
    refine ⟨_, hM, by rw [sz]; simp; omega, ?_⟩
    have t3 := t.set (r := iD ((List.range s).map fun i => pre row (i + 1) ^ n - pre row i ^ n) ++ [D.int (pre row (s + 1) ^ n - pre row s ^ n)]) (i := 0) (p := c) rfl
    have e2 : iD ((List.range s).map fun i => pre row (i + 1) ^ n - pre row i ^ n) ++ [D.int (pre row (s + 1) ^ n - pre row s ^ n)] = iD ((List.range (s + 1)).map fun i => pre row (i + 1) ^ n - pre row i ^ n) := by
      rw [iD_snoc, List.range_succ, List.map_append]
      rfl
    rw [e2] at t3 ⊢
    exact hN _ _ ⟨⟨_, rfl⟩, t3⟩
  · rintro ρ M' ⟨⟨a, rfl⟩, t⟩
    (try dsimp only [q_op, q_un, q_var, q_c, q_nil, q_cons, q_tup, q_frz, q_cel, q_lst, q_test, q_onB, q_and, q_or, q_not, q_andV, q_orV, q_notV, q_if, q_chain, q_next, q_seq, q_drop, q_ret, q_retF, q_retN, q_sif, q_break, q_cont, q_name, q_dnil, q_dcons, q_dtup, q_asg, q_set, q_par, q_for, q_range1, q_range2, q_iseq, q_ienum, q_call, q_cb, q_ncb, q_nop, q_lenset, q_mt, q_mt0, q_setix, q_augs, q_aug, q_nsl, q_onone, q_osome, q_gsl, q_raise, q_raiseF, q_try, q_lc, q_lc2, q_yes, q_wipe0, q_wipe, q_xf, q_I, q_I0, q_U, q_add, q_addT, q_addL, q_addR, q_onL, q_onSt, q_onSl, q_onSs, q_onSrct, q_onSrcl, q_eqI, q_eqB, q_eqS, q_eqN, q_isN, q_ix, q_ixL, q_in, q_len, q_sum, q_max, q_min, q_max2, q_min2, q_abs, q_int, q_intB, q_tupof, q_lstof, q_sort, q_rep, q_cat, q_isi, q_isis, q_setat, q_onC, q_append, q_pop, q_popAt, q_reverse, q_insert, q_sp1, q_sp2, q_sp3, q_sp4, q_at0, q_atS, q_st0, q_stS, q_iteT, q_iteF, q_isB, q_sumS, q_all, q_any, q_repT, q_spV, q_nLcX, q_sFz, q_gFld, q_sFldD, q_gMake, q_gCallI, q_gMeth, q_gRev])
    exact ret_lst t.up (t.new c (by simp)) (tab_one t) q
theorem b__law_sign : ∀ d0 M Q E, sp__law_sign K [d0] M Q E → g__law_sign K { nx := fun _ M => Q .non M, rt := Q, ex := fun x _ M => E x M } [some d0] M := by
  rintro d0 M Q E ⟨i, rfl, q⟩
  unfold g__law_sign
  dsimp only [q_op, q_un, q_var, q_c, q_nil, q_cons, q_tup, q_frz, q_cel, q_lst, q_test, q_onB, q_and, q_or, q_not, q_andV, q_orV, q_notV, q_if, q_chain, q_next, q_seq, q_drop, q_ret, q_retF, q_retN, q_sif, q_break, q_cont, q_name, q_dnil, q_dcons, q_dtup, q_asg, q_set, q_par, q_for, q_range1, q_range2, q_iseq, q_ienum, q_call, q_cb, q_ncb, q_nop, q_lenset, q_mt, q_mt0, q_setix, q_augs, q_aug, q_nsl, q_onone, q_osome, q_gsl, q_raise, q_raiseF, q_try, q_lc, q_lc2, q_yes, q_wipe0, q_wipe, q_xf, q_I, q_I0, q_U, q_add, q_addT, q_addL, q_addR, q_onL, q_onSt, q_onSl, q_onSs, q_onSrct, q_onSrcl, q_eqI, q_eqB, q_eqS, q_eqN, q_isN, q_ix, q_ixL, q_in, q_len, q_sum, q_max, q_min, q_max2, q_min2, q_abs, q_int, q_intB, q_tupof, q_lstof, q_sort, q_rep, q_cat, q_isi, q_isis, q_setat, q_onC, q_append, q_pop, q_popAt, q_reverse, q_insert, q_sp1, q_sp2, q_sp3, q_sp4, q_at0, q_atS, q_st0, q_stS, q_iteT, q_iteF, q_isB, q_sumS, q_all, q_any, q_repT, q_spV, q_nLcX, q_sFz, q_gFld, q_sFldD, q_gMake, q_gCallI, q_gMeth, q_gRev]
  by_cases c1 : 0 < i
  · rw [if_pos c1] at q
    rw [decide_eq_true c1, decide_eq_false (show ¬ i < 0 by omega), if_pos rfl, if_neg Bool.false_ne_true]
    exact q
  · by_cases c2 : i < 0
    · rw [if_neg c1, if_pos c2] at q
      rw [decide_eq_false c1, decide_eq_true c2, if_neg Bool.false_ne_true, if_pos rfl]
      exact q
    · rw [if_neg c1, if_neg c2] at q
      rw [decide_eq_false c1, decide_eq_false c2, if_neg Bool.false_ne_true]
      exact q
theorem b__law_stands : ∀ d0 d1 d2 M Q E, sp__law_stands K [d0, d1, d2] M Q E → g__law_stands K { nx := fun _ M => Q .non M, rt := Q, ex := fun x _ M => E x M } [some d0, some d1, some d2, none] M := by
  rintro d0 d1 d2 M Q E ⟨one, other, v, ⟨r1, r2, hl, L, n1, n2⟩, p1, p2, s1, s2, rfl, q⟩
  unfold g__law_stands
  dsimp only [q_op, q_un, q_var, q_c, q_nil, q_cons, q_tup, q_frz, q_cel, q_lst, q_test, q_onB, q_and, q_or, q_not, q_andV, q_orV, q_notV, q_if, q_chain, q_next, q_seq, q_drop, q_ret, q_retF, q_retN, q_sif, q_break, q_cont, q_name, q_dnil, q_dcons, q_dtup, q_asg, q_set, q_par, q_for, q_range1, q_range2, q_iseq, q_ienum, q_call, q_cb, q_ncb, q_nop, q_lenset, q_mt, q_mt0, q_setix, q_augs, q_aug, q_nsl, q_onone, q_osome, q_gsl, q_raise, q_raiseF, q_try, q_lc, q_lc2, q_yes, q_wipe0, q_wipe, q_xf, q_I, q_I0, q_U, q_add, q_addT, q_addL, q_addR, q_onL, q_onSt, q_onSl, q_onSs, q_onSrct, q_onSrcl, q_eqI, q_eqB, q_eqS, q_eqN, q_isN, q_ix, q_ixL, q_in, q_len, q_sum, q_max, q_min, q_max2, q_min2, q_abs, q_int, q_intB, q_tupof, q_lstof, q_sort, q_rep, q_cat, q_isi, q_isis, q_setat, q_onC, q_append, q_pop, q_popAt, q_reverse, q_insert, q_sp1, q_sp2, q_sp3, q_sp4, q_at0, q_atS, q_st0, q_stS, q_iteT, q_iteF, q_isB, q_sumS, q_all, q_any, q_repT, q_spV, q_nLcX, q_sFz, q_gFld, q_sFldD, q_gMake, q_gCallI, q_gMeth, q_gRev, sp_stands_over]
  refine twoC_good ⟨L, fun a ha => ⟨p1 a ha, n1 a ha⟩, s1⟩ ⟨by omega, fun a ha => ⟨p2 a ha, n2 a ha⟩, s2⟩ r1 r2 hl ?_
  (try dsimp only [q_op, q_un, q_var, q_c, q_nil, q_cons, q_tup, q_frz, q_cel, q_lst, q_test, q_onB, q_and, q_or, q_not, q_andV, q_orV, q_notV, q_if, q_chain, q_next, q_seq, q_drop, q_ret, q_retF, q_retN, q_sif, q_break, q_cont, q_name, q_dnil, q_dcons, q_dtup, q_asg, q_set, q_par, q_for, q_range1, q_range2, q_iseq, q_ienum, q_call, q_cb, q_ncb, q_nop, q_lenset, q_mt, q_mt0, q_setix, q_augs, q_aug, q_nsl, q_onone, q_osome, q_gsl, q_raise, q_raiseF, q_try, q_lc, q_lc2, q_yes, q_wipe0, q_wipe, q_xf, q_I, q_I0, q_U, q_add, q_addT, q_addL, q_addR, q_onL, q_onSt, q_onSl, q_onSs, q_onSrct, q_onSrcl, q_eqI, q_eqB, q_eqS, q_eqN, q_isN, q_ix, q_ixL, q_in, q_len, q_sum, q_max, q_min, q_max2, q_min2, q_abs, q_int, q_intB, q_tupof, q_lstof, q_sort, q_rep, q_cat, q_isi, q_isis, q_setat, q_onC, q_append, q_pop, q_popAt, q_reverse, q_insert, q_sp1, q_sp2, q_sp3, q_sp4, q_at0, q_atS, q_st0, q_stS, q_iteT, q_iteF, q_isB, q_sumS, q_all, q_any, q_repT, q_spV, q_nLcX, q_sFz, q_gFld, q_sFldD, q_gMake, q_gCallI, q_gMeth, q_gRev])
  have e : (overB one other == v) = decide (overB one other = v) := rfl
  rw [e] at q
  clear e
  generalize overB one other = o at q ⊢
  cases o with
  | true => exact if_t (by rfl) (if_t (by rfl) q)
  | false => exact if_f (by rfl) (if_t (by rfl) q)
end
end LW

namespace LW
open PySem PySem.Spec PyProof.Rows L2 DL
section
variable {K : PySem.W.Frag} {mg : Str → Option Value}
def bdr : Nat → Int
  | 0 => 3
  | 1 => 3
  | 2 => 6
  | _ => 12
/-- drawn dice so far -/
def DiceB (n s : Nat) (rs : List (List Int)) : Prop := ∀ r ∈ rs, r.length = n ∧ (∀ a ∈ r, 0 ≤ a ∧ a ≤ bdr s) ∧ 0 < r.sum
theorem bdr_up {s : Nat} (h : s < 3) : bdr s ≤ bdr (s + 1) := by
  have : s = 0 ∨ s = 1 ∨ s = 2 := by omega
  rcases this with rfl | rfl | rfl <;> decide
theorem bdr_two {s : Nat} (h : s < 3) (h0 : 0 < s) : 2 * bdr s ≤ bdr (s + 1) := by
  have : s = 1 ∨ s = 2 := by omega
  rcases this with rfl | rfl <;> decide
theorem bdr_3 (s : Nat) : 3 ≤ bdr s := by
  match s with
  | 0 => decide
  | 1 => decide
  | 2 => decide
  | s + 3 => show (3 : Int) ≤ 12; decide
theorem sum_set {l : List Int} {r : Nat} (hr : r < l.length) (v : Int) : (l.set r v).sum = l.sum + (v - l.getD r 0) := by
  have e1 : ∀ l : List Int, l.sum = S1 l.length fun i => l.getD i 0 * 1 := fun l => by
    rw [sum_S1]
    exact S1_congr fun i _ => (Int.mul_one _).symm
  rw [e1 (l.set r v), e1 l, List.length_set, S1_set hr, if_pos hr, Int.mul_one]
theorem DiceB.snoc {n s : Nat} {rs : List (List Int)} {r : List Int} (h : DiceB n s rs) (hs : s < 3) (hl : r.length = n) (ha : ∀ a ∈ r, 0 ≤ a ∧ a ≤ bdr (s + 1)) (h0 : 0 < r.sum) : DiceB n (s + 1) (rs ++ [r]) := fun x hx => by
  rcases List.mem_append.mp hx with hx | hx
  · obtain ⟨a, b, c⟩ := h x hx
    exact ⟨a, fun y hy => ⟨(b y hy).1, Int.le_trans (b y hy).2 (bdr_up hs)⟩, c⟩
  · rw [List.mem_singleton.mp hx]
    exact ⟨hl, ha, h0⟩
/-- a die moved up by one face, the top two faces as one -/
def upD (n : Nat) (r : List Int) : List Int := (([0] ++ r.take (n - 1)) : List Int).set (n - 1) ((([0] ++ r.take (n - 1)) : List Int).getD (n - 1) 0 + r.getD (n - 1) 0)
theorem upD_ok {n : Nat} {r : List Int} {b : Int} (hn : 1 ≤ n) (hl : r.length = n) (ha : ∀ a ∈ r, 0 ≤ a ∧ a ≤ b) : (upD n r).length = n ∧ (∀ a ∈ upD n r, 0 ≤ a ∧ a ≤ 2 * b) ∧ (upD n r).sum = r.sum := by
  have l0 : (([0] ++ r.take (n - 1)) : List Int).length = n := by
    rw [List.length_append, List.length_take, List.length_singleton]
    omega
  have g : ∀ (l : List Int) (k : Nat), (∀ a ∈ l, 0 ≤ a ∧ a ≤ b) → k < l.length → 0 ≤ l.getD k 0 ∧ l.getD k 0 ≤ b := fun l k h hk => by
    rw [List.getD_eq_getElem?_getD, List.getElem?_eq_getElem hk]
    exact h _ (List.getElem_mem hk)
  have gl := g r (n - 1) ha (by omega)
  have m0 : ∀ a ∈ (([0] ++ r.take (n - 1)) : List Int), 0 ≤ a ∧ a ≤ b := fun a h => by
    rcases List.mem_append.mp h with h | h
    · rw [List.mem_singleton.mp h]
      omega
    · exact ha a (List.mem_of_mem_take h)
  have g2 := g _ (n - 1) m0 (by omega)
  refine ⟨by unfold upD; rw [List.length_set, l0], fun a h => ?_, ?_⟩
  · unfold upD at h
    rcases List.mem_or_eq_of_mem_set h with h | rfl
    · have := m0 a h
      omega
    · omega
  · unfold upD
    rw [sum_set (by omega)]
    have e : (([0] ++ r.take (n - 1)) : List Int).sum = (r.take (n - 1)).sum := by
      rw [List.sum_append]
      show 0 + _ = _
      omega
    have e2 : r.sum = pre r (n - 1) + r.getD (n - 1) 0 := by
      rw [← pre_succ, pre_all r (by omega)]
    rw [e, e2]
    unfold pre
    omega
theorem b__law_dice : ∀ d0 d1 d2 M Q E, sp__law_dice K [d0, d1, d2] M Q E → g__law_dice K { nx := fun _ M => Q .non M, rt := Q, ex := fun x _ M => E x M } [some d0, some d1, some d2, none, none, none, none, none, none] M := by
  rintro d0 d1 d2 M Q E ⟨p, n, rfl, rfl, rfl, n1, n7, ⟨xs0, hM⟩, q⟩
  unfold g__law_dice
  dsimp only [q_op, q_un, q_var, q_c, q_nil, q_cons, q_tup, q_frz, q_cel, q_lst, q_test, q_onB, q_and, q_or, q_not, q_andV, q_orV, q_notV, q_if, q_chain, q_next, q_seq, q_drop, q_ret, q_retF, q_retN, q_sif, q_break, q_cont, q_name, q_dnil, q_dcons, q_dtup, q_asg, q_set, q_par, q_for, q_range1, q_range2, q_iseq, q_ienum, q_call, q_cb, q_ncb, q_nop, q_lenset, q_mt, q_mt0, q_setix, q_augs, q_aug, q_nsl, q_onone, q_osome, q_gsl, q_raise, q_raiseF, q_try, q_lc, q_lc2, q_yes, q_wipe0, q_wipe, q_xf, q_I, q_I0, q_U, q_add, q_addT, q_addL, q_addR, q_onL, q_onSt, q_onSl, q_onSs, q_onSrct, q_onSrcl, q_eqI, q_eqB, q_eqS, q_eqN, q_isN, q_ix, q_ixL, q_in, q_len, q_sum, q_max, q_min, q_max2, q_min2, q_abs, q_int, q_intB, q_tupof, q_lstof, q_sort, q_rep, q_cat, q_isi, q_isis, q_setat, q_onC, q_append, q_pop, q_popAt, q_reverse, q_insert, q_sp1, q_sp2, q_sp3, q_sp4, q_at0, q_atS, q_st0, q_stS, q_iteT, q_iteF, q_isB, q_sumS, q_all, q_any, q_repT, q_spV, q_nLcX, q_sFz, q_gFld, q_sFldD, q_gMake, q_gCallI, q_gMeth, q_gRev, sp__law_take, sp__law_die]
  refine ⟨Nat.zero_le _, fun c hc => ?_⟩
  have hcp : c ≠ p := fun e => by rw [e, hM] at hc; cases hc
  have e0 : ∀ (xs ys : List Int) (o : MO), mset (mset (mset M p (.lst (iD xs))) c o) p (.lst (iD ys)) = mset (mset M p (.lst (iD ys))) c o := fun xs ys o => by
    rw [mset_comm (Ne.symm hcp), mset_mset, mset_comm hcp]
  refine ⟨⟨by omega, by omega⟩, ?_⟩
  refine loop_rg0 (n := 2) (fun s ρ M' => (∃ a5 a6, ∃ xs : List Int, ∃ rs : List (List Int), (∃ a4, ρ = [some (.ref p), some (.int 2), some (.int (n : Nat)), some (.ref c), a4, a5, a6, none, none]) ∧ M' = mset (mset M p (.lst (iD xs))) c (.lst (rs.map fun r => .lst (iD r))) ∧ rs.length = s ∧ DiceB n s rs)) ?_ ?_ ⟨_, _, xs0, [], ⟨_, rfl⟩, by rw [mset_id hM]; rfl, rfl, (fun _ h => nomatch h)⟩
  · rintro s ρ M' hs ⟨a5, a6, xs, rs, ⟨a4, rfl⟩, rfl, hl, hD⟩ Nx hN
    have hs : s < 3 := by omega
    generalize hT : sFz 6 (sDrop (gMt dAppend (gVar 3) (aCons (gVar 6) aNil))) = TL
    have swap : ∀ us, mset (mset M p (.lst (iD us))) c (.lst (rs.map fun r => .lst (iD r))) = mset (mset M c (.lst (rs.map fun r => .lst (iD r)))) p (.lst (iD us)) := fun us => mset_comm (Ne.symm hcp)
    have hB0 : mset M c (.lst (rs.map fun r => .lst (iD r))) c = some (.lst (rs.map fun r => .lst (iD r))) := mset_same
    have app : ∀ us (r' : List Int), mset (mset (mset M c (.lst (rs.map fun r => .lst (iD r)))) p (.lst (iD us))) c (.lst ((rs.map fun r => .lst (iD r)) ++ [.lst (iD r')])) = mset (mset M p (.lst (iD us))) c (.lst ((rs ++ [r']).map fun r => .lst (iD r))) := fun us r' => by
      rw [mset_comm (Ne.symm hcp), mset_mset, List.map_append, mset_comm hcp]
      rfl
    rw [swap]
    generalize mset M c (.lst (rs.map fun r => .lst (iD r))) = N0 at *
    have hB : ∀ us, mset N0 p (.lst (iD us)) c = some (.lst (rs.map fun r => .lst (iD r))) := fun us => by rw [mset_ne hcp]; exact hB0
    have fin : ∀ (d : D) (r' : List Int) (M5 : Mem) (us : List Int) (x : Int), (∃ S, Fz M5 S d (.lst (iD r')) ∧ MemFz M5 (mset N0 p (.lst (iD us))) S) → r'.length = n → (∀ a ∈ r', 0 ≤ a ∧ a ≤ bdr (s + 1)) → 0 < r'.sum →
        TL { nx := Nx, rt := Q, bk := sRetF (gVar 3) { nx := fun x M => Q D.non M, rt := Q, ex := fun x x_1 M => E x M }, ct := Nx, ex := fun x x_1 M => E x M } [some (.ref p), some (.int 2), some (.int (n : Nat)), some (.ref c), some (.int (s : Nat)), some (.int x), some d, none, none] M5 := by
      rintro d r' M5 us x ⟨S, f1, f2⟩ h1 h2 h3
      rw [← hT]
      refine ⟨d, .lst (iD r'), mset N0 p (.lst (iD us)), S, rfl, f1, f2, ?_⟩
      (try dsimp only [q_op, q_un, q_var, q_c, q_nil, q_cons, q_tup, q_frz, q_cel, q_lst, q_test, q_onB, q_and, q_or, q_not, q_andV, q_orV, q_notV, q_if, q_chain, q_next, q_seq, q_drop, q_ret, q_retF, q_retN, q_sif, q_break, q_cont, q_name, q_dnil, q_dcons, q_dtup, q_asg, q_set, q_par, q_for, q_range1, q_range2, q_iseq, q_ienum, q_call, q_cb, q_ncb, q_nop, q_lenset, q_mt, q_mt0, q_setix, q_augs, q_aug, q_nsl, q_onone, q_osome, q_gsl, q_raise, q_raiseF, q_try, q_lc, q_lc2, q_yes, q_wipe0, q_wipe, q_xf, q_I, q_I0, q_U, q_add, q_addT, q_addL, q_addR, q_onL, q_onSt, q_onSl, q_onSs, q_onSrct, q_onSrcl, q_eqI, q_eqB, q_eqS, q_eqN, q_isN, q_ix, q_ixL, q_in, q_len, q_sum, q_max, q_min, q_max2, q_min2, q_abs, q_int, q_intB, q_tupof, q_lstof, q_sort, q_rep, q_cat, q_isi, q_isis, q_setat, q_onC, q_append, q_pop, q_popAt, q_reverse, q_insert, q_sp1, q_sp2, q_sp3, q_sp4, q_at0, q_atS, q_st0, q_stS, q_iteT, q_iteF, q_isB, q_sumS, q_all, q_any, q_repT, q_spV, q_nLcX, q_sFz, q_gFld, q_sFldD, q_gMake, q_gCallI, q_gMeth, q_gRev])
      refine ⟨onL_ref (hB us) trivial, _, hB us, by rw [sz, List.length_map]; omega, ?_⟩
      rw [app]
      exact hN _ _ ⟨_, _, us, rs ++ [r'], ⟨_, rfl⟩, rfl, by rw [List.length_append, hl]; rfl, hD.snoc hs h1 h2 h3⟩
    have finF : ∀ (r' : List Int) (us : List Int) (x : Int), r'.length = n → (∀ a ∈ r', 0 ≤ a ∧ a ≤ 3) → 0 < r'.sum →
        TL { nx := Nx, rt := Q, bk := sRetF (gVar 3) { nx := fun x M => Q D.non M, rt := Q, ex := fun x x_1 M => E x M }, ct := Nx, ex := fun x x_1 M => E x M } [some (.ref p), some (.int 2), some (.int (n : Nat)), some (.ref c), some (.int (s : Nat)), some (.int x), some (.lst (iD r')), none, none] (mset N0 p (.lst (iD us))) := fun r' us x h1 h2 h3 =>
      fin _ r' _ us x ⟨_, Fz.refl _, MemUp.refl.fz⟩ h1 (fun a ha => ⟨(h2 a ha).1, Int.le_trans (h2 a ha).2 (bdr_3 _)⟩) h3
    have finR : ∀ (cc : Addr) (r' : List Int) (M5 : Mem) (us : List Int) (x : Int), TabAt (mset N0 p (.lst (iD us))) M5 [cc] [iD r'] → r'.length = n → (∀ a ∈ r', 0 ≤ a ∧ a ≤ bdr (s + 1)) → 0 < r'.sum →
        TL { nx := Nx, rt := Q, bk := sRetF (gVar 3) { nx := fun x M => Q D.non M, rt := Q, ex := fun x x_1 M => E x M }, ct := Nx, ex := fun x x_1 M => E x M } [some (.ref p), some (.int 2), some (.int (n : Nat)), some (.ref c), some (.int (s : Nat)), some (.int x), some (.ref cc), none, none] M5 := fun cc r' M5 us x t h1 h2 h3 =>
      fin _ r' _ us x ⟨fun b => b = cc, .ref rfl (tab_one t) (Fzs.refl _), t.up.fz1 (t.new cc (by simp)) (tab_one t)⟩ h1 h2 h3
    clear fin
    (try dsimp only [q_op, q_un, q_var, q_c, q_nil, q_cons, q_tup, q_frz, q_cel, q_lst, q_test, q_onB, q_and, q_or, q_not, q_andV, q_orV, q_notV, q_if, q_chain, q_next, q_seq, q_drop, q_ret, q_retF, q_retN, q_sif, q_break, q_cont, q_name, q_dnil, q_dcons, q_dtup, q_asg, q_set, q_par, q_for, q_range1, q_range2, q_iseq, q_ienum, q_call, q_cb, q_ncb, q_nop, q_lenset, q_mt, q_mt0, q_setix, q_augs, q_aug, q_nsl, q_onone, q_osome, q_gsl, q_raise, q_raiseF, q_try, q_lc, q_lc2, q_yes, q_wipe0, q_wipe, q_xf, q_I, q_I0, q_U, q_add, q_addT, q_addL, q_addR, q_onL, q_onSt, q_onSl, q_onSs, q_onSrct, q_onSrcl, q_eqI, q_eqB, q_eqS, q_eqN, q_isN, q_ix, q_ixL, q_in, q_len, q_sum, q_max, q_min, q_max2, q_min2, q_abs, q_int, q_intB, q_tupof, q_lstof, q_sort, q_rep, q_cat, q_isi, q_isis, q_setat, q_onC, q_append, q_pop, q_popAt, q_reverse, q_insert, q_sp1, q_sp2, q_sp3, q_sp4, q_at0, q_atS, q_st0, q_stS, q_iteT, q_iteF, q_isB, q_sumS, q_all, q_any, q_repT, q_spV, q_nLcX, q_sFz, q_gFld, q_sFldD, q_gMake, q_gCallI, q_gMeth, q_gRev])
    refine ⟨p, 9, rfl, rfl, by decide, ⟨xs, mset_same⟩, fun r ys r0 r1 => ?_⟩
    rw [mset_mset]
    refine ⟨p, n, rfl, rfl, n1, n7, ⟨ys, mset_same⟩, fun row zs rl ra rs0 => ?_⟩
    rw [mset_mset]
    have hB := hB zs
    obtain ⟨prev, hp1, hp2, hp3, hp4⟩ : ∃ prev : List Int, (0 < s → atI (rs.map fun r => D.lst (iD r)) ((s : Int) - 1) = some (.lst (iD prev))) ∧ (0 < s → prev.length = n) ∧ (0 < s → ∀ a ∈ prev, 0 ≤ a ∧ a ≤ bdr s) ∧ (0 < s → 0 < prev.sum) := by
      by_cases c0 : 0 < s
      · have hk : s - 1 < rs.length := by omega
        obtain ⟨a, b, d⟩ := hD _ (List.getElem_mem hk)
        refine ⟨rs[s - 1], fun _ => ?_, fun _ => a, fun _ => b, fun _ => d⟩
        rw [show (s : Int) - 1 = ((s - 1 : Nat) : Int) by omega]
        exact L2.atI_nat (by rw [List.getElem?_map, List.getElem?_eq_getElem hk]; rfl)
      · exact ⟨[], fun h => absurd h c0, fun h => absurd h c0, fun h => absurd h c0, fun h => absurd h c0⟩
    by_cases c8 : r = 8
    · by_cases c0 : 0 < s
      · have hp1 := hp1 c0
        have hp2 := hp2 c0
        have hp3 := hp3 c0
        have hp4 := hp4 c0
        refine if_t (decide_eq_true c8) (if_t (decide_eq_true (by omega)) (RowD.onS (RowD.ref hB) ⟨_, hp1, RowD.lst.onSrc fun ok ho ho2 => ?_⟩))
        refine lc_map D.int (fun x => .int (2 * x)) ho _ (fun x hx k hk => ?_) (fun d ρ M Q Q' h q => h _ _ q) rfl (by rw [sz]; omega) ?_
        · (try dsimp only [q_op, q_un, q_var, q_c, q_nil, q_cons, q_tup, q_frz, q_cel, q_lst, q_test, q_onB, q_and, q_or, q_not, q_andV, q_orV, q_notV, q_if, q_chain, q_next, q_seq, q_drop, q_ret, q_retF, q_retN, q_sif, q_break, q_cont, q_name, q_dnil, q_dcons, q_dtup, q_asg, q_set, q_par, q_for, q_range1, q_range2, q_iseq, q_ienum, q_call, q_cb, q_ncb, q_nop, q_lenset, q_mt, q_mt0, q_setix, q_augs, q_aug, q_nsl, q_onone, q_osome, q_gsl, q_raise, q_raiseF, q_try, q_lc, q_lc2, q_yes, q_wipe0, q_wipe, q_xf, q_I, q_I0, q_U, q_add, q_addT, q_addL, q_addR, q_onL, q_onSt, q_onSl, q_onSs, q_onSrct, q_onSrcl, q_eqI, q_eqB, q_eqS, q_eqN, q_isN, q_ix, q_ixL, q_in, q_len, q_sum, q_max, q_min, q_max2, q_min2, q_abs, q_int, q_intB, q_tupof, q_lstof, q_sort, q_rep, q_cat, q_isi, q_isis, q_setat, q_onC, q_append, q_pop, q_popAt, q_reverse, q_insert, q_sp1, q_sp2, q_sp3, q_sp4, q_at0, q_atS, q_st0, q_stS, q_iteT, q_iteF, q_isB, q_sumS, q_all, q_any, q_repT, q_spV, q_nLcX, q_sFz, q_gFld, q_sFldD, q_gMake, q_gCallI, q_gMeth, q_gRev])
          have := hp3 x hx
          have b2 : bdr s ≤ 12 := by
            have : s = 0 ∨ s = 1 ∨ s = 2 := by omega
            rcases this with rfl | rfl | rfl <;> decide
          exact ⟨rfl, cmul (show nb 2 2 by unfold nb; decide) (show nb 4 x by unfold nb; omega), hk⟩
        rw [show (prev.map fun x => D.int (2 * x)) = iD (prev.map fun x => 2 * x) by unfold iD; rw [List.map_map]; rfl]
        intro cc hcc
        have t0 : TabAt (mset N0 p (.lst (iD zs))) (mset (mset N0 p (.lst (iD zs))) cc (.lst (iD (prev.map fun x => 2 * x)))) [cc] [iD (prev.map fun x => 2 * x)] := TabAt.nil.push hcc
        refine if_f (decide_eq_false (by omega)) (if_f (by rfl) (if_f (decide_eq_false (by omega)) (finR cc _ _ zs _ t0 (by rw [List.length_map]; exact hp2) (fun a ha => ?_) (by rw [sum_map]; omega))))
        obtain ⟨x, hx, rfl⟩ := List.mem_map.mp ha
        have := hp3 x hx
        have := bdr_two hs c0
        omega
      · refine if_t (decide_eq_true c8) (if_f (decide_eq_false (by omega)) (if_f (decide_eq_false (by omega)) (if_f (by rfl) (if_f (decide_eq_false (by omega)) (finF row zs _ rl ra rs0)))))
    · refine if_f (decide_eq_false c8) (if_f (by rfl) ?_)
      by_cases c7 : r = 7
      · by_cases c0 : 0 < s
        · have hp1 := hp1 c0
          have hp2 := hp2 c0
          have hp3 := hp3 c0
          have hp4 := hp4 c0
          have sl : ∀ lo hi (M : Mem) (Q : DVK), Q (.lst (cutD (iD prev) lo hi)) M → slD (.lst (iD prev)) lo hi M Q := fun lo hi M Q q => q
          have c1 : cutD (iD prev) none (some ((n : Int) - 1)) = iD (prev.take (n - 1)) := by
            rw [show (n : Int) - 1 = ((n - 1 : Nat) : Int) by omega, cut_take _ (by rw [List.length_map]; omega)]
            unfold iD
            rw [List.map_take]
          have ll : ∀ {M : Mem} {xs : List D} {k : List D → Prop}, k xs → onL M (.lst xs) k := fun q => q
          refine if_t (decide_eq_true c7) (if_t (decide_eq_true (by omega)) ⟨by rw [sz]; show 1 ≤ 16777216; omega, RowD.onS (RowD.ref hB) ⟨_, hp1, sl _ _ _ _ (ll ⟨by rw [c1, sz, List.length_map, List.length_take]; show 1 + _ ≤ _; omega, fun cc hcc => ?_⟩)⟩⟩)
          rw [c1, show [D.int 0] ++ iD (prev.take (n - 1)) = iD ([0] ++ prev.take (n - 1)) by rfl]
          have t0 : TabAt (mset N0 p (.lst (iD zs))) (mset (mset N0 p (.lst (iD zs))) cc (.lst (iD ([0] ++ prev.take (n - 1))))) [cc] [iD ([0] ++ prev.take (n - 1))] := TabAt.nil.push hcc
          have l0 : (([0] ++ prev.take (n - 1)) : List Int).length = n := by
            rw [List.length_append, List.length_take, List.length_singleton]
            omega
          have hn1 : (n : Int) - 1 = ((n - 1 : Nat) : Int) := by omega
          rw [hn1]
          refine RowD.onS (RowD.ref mset_same) ⟨_, atI_iD (by omega), RowD.onS (RowD.ref (t0.keep hB)) ⟨_, hp1, RowD.lst.onS ⟨_, atI_iD (by omega), ?_⟩⟩⟩
          (try dsimp only [q_op, q_un, q_var, q_c, q_nil, q_cons, q_tup, q_frz, q_cel, q_lst, q_test, q_onB, q_and, q_or, q_not, q_andV, q_orV, q_notV, q_if, q_chain, q_next, q_seq, q_drop, q_ret, q_retF, q_retN, q_sif, q_break, q_cont, q_name, q_dnil, q_dcons, q_dtup, q_asg, q_set, q_par, q_for, q_range1, q_range2, q_iseq, q_ienum, q_call, q_cb, q_ncb, q_nop, q_lenset, q_mt, q_mt0, q_setix, q_augs, q_aug, q_nsl, q_onone, q_osome, q_gsl, q_raise, q_raiseF, q_try, q_lc, q_lc2, q_yes, q_wipe0, q_wipe, q_xf, q_I, q_I0, q_U, q_add, q_addT, q_addL, q_addR, q_onL, q_onSt, q_onSl, q_onSs, q_onSrct, q_onSrcl, q_eqI, q_eqB, q_eqS, q_eqN, q_isN, q_ix, q_ixL, q_in, q_len, q_sum, q_max, q_min, q_max2, q_min2, q_abs, q_int, q_intB, q_tupof, q_lstof, q_sort, q_rep, q_cat, q_isi, q_isis, q_setat, q_onC, q_append, q_pop, q_popAt, q_reverse, q_insert, q_sp1, q_sp2, q_sp3, q_sp4, q_at0, q_atS, q_st0, q_stS, q_iteT, q_iteF, q_isB, q_sumS, q_all, q_any, q_repT, q_spV, q_nLcX, q_sFz, q_gFld, q_sFldD, q_gMake, q_gCallI, q_gMeth, q_gRev])
          refine ⟨_, tab_one t0, n - 1, by rw [List.length_map]; exact ixN_nat (by omega), ?_⟩
          have t1 := t0.set (r := (iD ([0] ++ prev.take (n - 1))).set (n - 1) (.int ((([0] ++ prev.take (n - 1)) : List Int).getD (n - 1) 0 + prev.getD (n - 1) 0))) (i := 0) (p := cc) rfl
          have es : (iD ([0] ++ prev.take (n - 1))).set (n - 1) (.int ((([0] ++ prev.take (n - 1)) : List Int).getD (n - 1) 0 + prev.getD (n - 1) 0)) = iD (upD n prev) := by unfold upD iD; rw [List.map_set]
          rw [es] at t1 ⊢
          obtain ⟨u1, u2, u3⟩ := upD_ok n1 hp2 hp3
          have := bdr_two hs c0
          exact if_f (decide_eq_false (by omega)) (finR cc _ _ zs _ t1 u1 (fun a ha => by have := u2 a ha; omega) (by omega))
        · exact if_t (decide_eq_true c7) (if_f (decide_eq_false (by omega)) (if_f (decide_eq_false (by omega)) (finF row zs _ rl ra rs0)))
      · refine if_f (decide_eq_false c7) (if_f (by rfl) ?_)
        by_cases c6 : r = 6
        · refine if_t (decide_eq_true c6) ⟨⟨by omega, by omega⟩, ?_⟩
          rw [Int.toNat_natCast]
          refine lc_rep n 0 (by omega) fun cc hcc => ?_
          have t0 : TabAt (mset N0 p (.lst (iD zs))) (mset (mset N0 p (.lst (iD zs))) cc (.lst (iD (List.replicate n 0)))) [cc] [iD (List.replicate n 0)] := TabAt.nil.push hcc
          refine ⟨p, _, rfl, rfl, by omega, pool_is t0, fun r us r0 r1 => ?_⟩
          have t1 := pool_take (ys := us) t0
          obtain ⟨k, rfl⟩ : ∃ k : Nat, r = (k : Int) := ⟨r.toNat, by omega⟩
          have hk : k < n := by omega
          refine ⟨_, tab_one t1, k, by rw [List.length_map, List.length_replicate]; exact ixN_nat hk, ?_⟩
          have t2 := t1.set (r := (iD (List.replicate n 0)).set k (.int 1)) (i := 0) (p := cc) rfl
          have es : (iD (List.replicate n 0)).set k (.int 1) = iD ((List.replicate n 0).set k 1) := by unfold iD; rw [List.map_set]
          rw [es] at t2 ⊢
          have h4 : ∀ w ∈ (List.replicate n (0 : Int)).set k 1, 0 ≤ w ∧ w ≤ bdr (s + 1) := fun w hw => by
            have := bdr_3 (s + 1)
            rcases List.mem_or_eq_of_mem_set hw with hw | rfl
            · rw [List.eq_of_mem_replicate hw]; omega
            · omega
          have := le_sum (fun a ha => (h4 a ha).1) (List.mem_set (show k < (List.replicate n (0 : Int)).length by rw [List.length_replicate]; exact hk) 1)
          exact finR cc _ _ us _ t2 (by rw [List.length_set, List.length_replicate]) h4 (by omega)
        · exact if_f (decide_eq_false c6) (finF row zs _ rl ra rs0)
  · rintro ρ M' ⟨a5, a6, xs, rs, ⟨a4, rfl⟩, rfl, hl, hD⟩
    (try dsimp only [q_op, q_un, q_var, q_c, q_nil, q_cons, q_tup, q_frz, q_cel, q_lst, q_test, q_onB, q_and, q_or, q_not, q_andV, q_orV, q_notV, q_if, q_chain, q_next, q_seq, q_drop, q_ret, q_retF, q_retN, q_sif, q_break, q_cont, q_name, q_dnil, q_dcons, q_dtup, q_asg, q_set, q_par, q_for, q_range1, q_range2, q_iseq, q_ienum, q_call, q_cb, q_ncb, q_nop, q_lenset, q_mt, q_mt0, q_setix, q_augs, q_aug, q_nsl, q_onone, q_osome, q_gsl, q_raise, q_raiseF, q_try, q_lc, q_lc2, q_yes, q_wipe0, q_wipe, q_xf, q_I, q_I0, q_U, q_add, q_addT, q_addL, q_addR, q_onL, q_onSt, q_onSl, q_onSs, q_onSrct, q_onSrcl, q_eqI, q_eqB, q_eqS, q_eqN, q_isN, q_ix, q_ixL, q_in, q_len, q_sum, q_max, q_min, q_max2, q_min2, q_abs, q_int, q_intB, q_tupof, q_lstof, q_sort, q_rep, q_cat, q_isi, q_isis, q_setat, q_onC, q_append, q_pop, q_popAt, q_reverse, q_insert, q_sp1, q_sp2, q_sp3, q_sp4, q_at0, q_atS, q_st0, q_stS, q_iteT, q_iteF, q_isB, q_sumS, q_all, q_any, q_repT, q_spV, q_nLcX, q_sFz, q_gFld, q_sFldD, q_gMake, q_gCallI, q_gMeth, q_gRev])
    have hc2 : mset M p (.lst (iD xs)) c = none := by rw [mset_ne hcp]; exact hc
    have t : TabAt (mset M p (.lst (iD xs))) (mset (mset M p (.lst (iD xs))) c (.lst (rs.map fun r => .lst (iD r)))) [c] [rs.map fun r => .lst (iD r)] := TabAt.nil.push hc2
    exact ret_lst t.up hc2 (tab_one t) (q rs xs hl fun r hr => by
      obtain ⟨h1, h2, h3⟩ := hD r hr
      exact ⟨h1, fun a ha => ⟨(h2 a ha).1, Int.le_trans (h2 a ha).2 (by decide)⟩, h3⟩)
end
end LW

namespace LW
open PySem PySem.Spec PyProof.Rows L2 DL
section
variable {K : PySem.W.Frag} {mg : Str → Option Value}
theorem sum_le {b : Int} : ∀ {l : List Int}, (∀ a ∈ l, a ≤ b) → l.sum ≤ b * (l.length : Nat)
  | [], _ => by simp
  | x :: l, h => by
    have ih := sum_le (l := l) fun a ha => h a (List.mem_cons_of_mem _ ha)
    have := h x List.mem_cons_self
    rw [List.sum_cons, List.length_cons, Int.natCast_succ, Int.mul_add, Int.mul_one]
    omega
theorem drawn_of {a b : List Int} {n : Nat} {c : Int} (n1 : 1 ≤ n) (n7 : n ≤ 7) (la : a.length = n) (lb : b.length = n) (ha : ∀ x ∈ a, 0 ≤ x ∧ x ≤ c) (hb : ∀ x ∈ b, 0 ≤ x ∧ x ≤ c) (sa : 0 < a.sum) (sb : 0 < b.sum) (hc : 0 ≤ c ∧ c ≤ 14) : Drawn a b := by
  have h1 := sum_le fun x hx => (ha x hx).2
  have h2 := sum_le fun x hx => (hb x hx).2
  rw [la] at h1
  rw [lb] at h2
  have h3 : c * (n : Nat) ≤ 14 * 7 := by
    have h4 := Int.mul_le_mul_of_nonneg_right hc.2 (show (0 : Int) ≤ (n : Nat) by omega)
    omega
  exact ⟨by omega, by omega, by omega, fun x hx => (ha x hx).1, fun x hx => (hb x hx).1, sa, sb, by omega, by omega⟩
theorem fm_ite {α β : Type} (p : α → Bool) (g : α → β) : ∀ l : List α, (l.filterMap fun y => if p y = true then some (g y) else none) = (l.filter p).map g
  | [] => rfl
  | x :: l => by
    have ih := fm_ite p g l
    cases c : p x
    · rw [List.filterMap_cons_none (by rw [c]; rfl), List.filter_cons_of_neg (by rw [c]; decide), ih]
    · rw [List.filterMap_cons_some (by rw [c]; rfl), List.filter_cons_of_pos c, List.map_cons, ih]
theorem rg1 (n : Nat) : rgD 1 n = (List.range n).map fun k => D.int ((1 + k : Nat) : Int) := by
  unfold rgD
  refine List.map_congr_left fun k _ => ?_
  rw [Int.natCast_add]
  rfl
theorem b__law_pair : ∀ d0 M Q E, sp__law_pair K [d0] M Q E → g__law_pair K { nx := fun _ M => Q .non M, rt := Q, ex := fun x _ M => E x M } [some d0, none, none, none, none, none, none, none, none, none, none, none] M := by
  rintro d0 M Q E ⟨p, rfl, hp, q⟩
  unfold g__law_pair
  generalize hT1 : (sSeq (sIf (gTest (gOp dEq (gVar 1) (gC (.int 3)))) _ _) _ : DS) = T1
  dsimp only [q_op, q_un, q_var, q_c, q_nil, q_cons, q_tup, q_frz, q_cel, q_lst, q_test, q_onB, q_and, q_or, q_not, q_andV, q_orV, q_notV, q_if, q_chain, q_next, q_seq, q_drop, q_ret, q_retF, q_retN, q_sif, q_break, q_cont, q_name, q_dnil, q_dcons, q_dtup, q_asg, q_set, q_par, q_for, q_range1, q_range2, q_iseq, q_ienum, q_call, q_cb, q_ncb, q_nop, q_lenset, q_mt, q_mt0, q_setix, q_augs, q_aug, q_nsl, q_onone, q_osome, q_gsl, q_raise, q_raiseF, q_try, q_lc, q_lc2, q_yes, q_wipe0, q_wipe, q_xf, q_I, q_I0, q_U, q_add, q_addT, q_addL, q_addR, q_onL, q_onSt, q_onSl, q_onSs, q_onSrct, q_onSrcl, q_eqI, q_eqB, q_eqS, q_eqN, q_isN, q_ix, q_ixL, q_in, q_len, q_sum, q_max, q_min, q_max2, q_min2, q_abs, q_int, q_intB, q_tupof, q_lstof, q_sort, q_rep, q_cat, q_isi, q_isis, q_setat, q_onC, q_append, q_pop, q_popAt, q_reverse, q_insert, q_sp1, q_sp2, q_sp3, q_sp4, q_at0, q_atS, q_st0, q_stS, q_iteT, q_iteF, q_isB, q_sumS, q_all, q_any, q_repT, q_spV, q_nLcX, q_sFz, q_gFld, q_sFldD, q_gMake, q_gCallI, q_gMeth, q_gRev, sp__law_take, sp__law_die]
  refine ⟨p, 8, rfl, rfl, by decide, hp, fun kd xs k0 k1 => ?_⟩
  have hp1 : Pool (mset M p (.lst (iD xs))) p := ⟨xs, mset_same⟩
  refine ⟨by rw [sz]; show 7 ≤ 16777216; omega, p, 7, rfl, rfl, by decide, hp1, fun r ys r0 r1 => ?_⟩
  rw [mset_mset]
  have l2 : ∀ x y : D, [x, y].length ≤ sizeLine := fun x y => by rw [sz]; show 2 ≤ 16777216; omega
  obtain ⟨n, hn, n1, n7⟩ : ∃ n : Nat, atI [D.int 4, D.int 3, D.int 5, D.int 2, D.int 6, D.int 7, D.int 1] r = some (.int (n : Nat)) ∧ 1 ≤ n ∧ n ≤ 7 := by
    have : r = 0 ∨ r = 1 ∨ r = 2 ∨ r = 3 ∨ r = 4 ∨ r = 5 ∨ r = 6 := by omega
    rcases this with rfl | rfl | rfl | rfl | rfl | rfl | rfl
    · exact ⟨4, rfl, by decide, by decide⟩
    · exact ⟨3, rfl, by decide, by decide⟩
    · exact ⟨5, rfl, by decide, by decide⟩
    · exact ⟨2, rfl, by decide, by decide⟩
    · exact ⟨6, rfl, by decide, by decide⟩
    · exact ⟨7, rfl, by decide, by decide⟩
    · exact ⟨1, rfl, by decide, by decide⟩
  refine ⟨_, hn, ?_⟩
  (try dsimp only [q_op, q_un, q_var, q_c, q_nil, q_cons, q_tup, q_frz, q_cel, q_lst, q_test, q_onB, q_and, q_or, q_not, q_andV, q_orV, q_notV, q_if, q_chain, q_next, q_seq, q_drop, q_ret, q_retF, q_retN, q_sif, q_break, q_cont, q_name, q_dnil, q_dcons, q_dtup, q_asg, q_set, q_par, q_for, q_range1, q_range2, q_iseq, q_ienum, q_call, q_cb, q_ncb, q_nop, q_lenset, q_mt, q_mt0, q_setix, q_augs, q_aug, q_nsl, q_onone, q_osome, q_gsl, q_raise, q_raiseF, q_try, q_lc, q_lc2, q_yes, q_wipe0, q_wipe, q_xf, q_I, q_I0, q_U, q_add, q_addT, q_addL, q_addR, q_onL, q_onSt, q_onSl, q_onSs, q_onSrct, q_onSrcl, q_eqI, q_eqB, q_eqS, q_eqN, q_isN, q_ix, q_ixL, q_in, q_len, q_sum, q_max, q_min, q_max2, q_min2, q_abs, q_int, q_intB, q_tupof, q_lstof, q_sort, q_rep, q_cat, q_isi, q_isis, q_setat, q_onC, q_append, q_pop, q_popAt, q_reverse, q_insert, q_sp1, q_sp2, q_sp3, q_sp4, q_at0, q_atS, q_st0, q_stS, q_iteT, q_iteF, q_isB, q_sumS, q_all, q_any, q_repT, q_spV, q_nLcX, q_sFz, q_gFld, q_sFldD, q_gMake, q_gCallI, q_gMeth, q_gRev])
  have l3 : ∀ x y z : D, [x, y, z].length ≤ sizeLine := fun x y z => by rw [sz]; show 3 ≤ 16777216; omega
  have dr : ∀ (us a b : List Int), Drawn a b → ∃ d' M2 S, Fz (mset M p (.lst (iD us))) S (.lst [.lst (iD a), .lst (iD b)]) d' ∧ MemFz (mset M p (.lst (iD us))) M2 S ∧ Q d' M2 := fun us a b h => ret_drop MemUp.refl (q a b us h)
  by_cases k1' : kd = 1
  · refine if_t (decide_eq_true k1') ⟨p, 5, rfl, rfl, by decide, ⟨ys, mset_same⟩, fun r zs r0 r1 => ⟨p, 4, rfl, rfl, by decide, ⟨zs, mset_same⟩, fun r' us s0 s1 => ⟨l3 _ _ _, l3 _ _ _, l2 _ _, ?_⟩⟩⟩
    rw [mset_mset, mset_mset]
    refine dr us [1 + r, 0, 1 + r + 1 + r' - (1 + r)] [0, 1 + r + 1 + r', 0] (drawn_of (n := 3) (c := 14) (by decide) (by decide) rfl rfl (fun x hx => ?_) (fun x hx => ?_) (by simp; omega) (by simp; omega) (by decide))
    · simp at hx
      omega
    · simp at hx
      omega
  refine if_f (decide_eq_false k1') ?_
  by_cases k2' : kd = 2
  · refine if_t (decide_eq_true k2') ⟨p, n, rfl, rfl, n1, n7, ⟨ys, mset_same⟩, fun row zs rl ra rs0 => ⟨p, 3, rfl, rfl, by decide, ⟨zs, mset_same⟩, fun r us s0 s1 => ?_⟩⟩
    rw [mset_mset, mset_mset]
    have nr : nb 2 (1 + r) := by unfold nb; omega
    refine lc_map D.int (fun x => .int ((1 + r) * x)) trivial _ (fun x hx k hk => ?_) (fun d ρ M Q Q' h q => h _ _ q) rfl (by rw [sz]; omega) ?_
    · have := ra x hx
      (try dsimp only [q_op, q_un, q_var, q_c, q_nil, q_cons, q_tup, q_frz, q_cel, q_lst, q_test, q_onB, q_and, q_or, q_not, q_andV, q_orV, q_notV, q_if, q_chain, q_next, q_seq, q_drop, q_ret, q_retF, q_retN, q_sif, q_break, q_cont, q_name, q_dnil, q_dcons, q_dtup, q_asg, q_set, q_par, q_for, q_range1, q_range2, q_iseq, q_ienum, q_call, q_cb, q_ncb, q_nop, q_lenset, q_mt, q_mt0, q_setix, q_augs, q_aug, q_nsl, q_onone, q_osome, q_gsl, q_raise, q_raiseF, q_try, q_lc, q_lc2, q_yes, q_wipe0, q_wipe, q_xf, q_I, q_I0, q_U, q_add, q_addT, q_addL, q_addR, q_onL, q_onSt, q_onSl, q_onSs, q_onSrct, q_onSrcl, q_eqI, q_eqB, q_eqS, q_eqN, q_isN, q_ix, q_ixL, q_in, q_len, q_sum, q_max, q_min, q_max2, q_min2, q_abs, q_int, q_intB, q_tupof, q_lstof, q_sort, q_rep, q_cat, q_isi, q_isis, q_setat, q_onC, q_append, q_pop, q_popAt, q_reverse, q_insert, q_sp1, q_sp2, q_sp3, q_sp4, q_at0, q_atS, q_st0, q_stS, q_iteT, q_iteF, q_isB, q_sumS, q_all, q_any, q_repT, q_spV, q_nLcX, q_sFz, q_gFld, q_sFldD, q_gMake, q_gCallI, q_gMeth, q_gRev])
      exact ⟨rfl, cmul nr (show nb 2 x by unfold nb; omega), hk⟩
    rw [show (row.map fun x => D.int ((1 + r) * x)) = iD (row.map fun x => (1 + r) * x) by unfold iD; rw [List.map_map]; rfl]
    refine ⟨l2 _ _, dr us row (row.map fun x => (1 + r) * x) (drawn_of n1 n7 rl (by rw [List.length_map]; exact rl) (c := 9) (fun x hx => ?_) (fun x hx => ?_) rs0 (by rw [sum_map]; exact Int.mul_pos (by omega) rs0) (by decide))⟩
    · have := ra x hx
      omega
    · obtain ⟨y, hy, rfl⟩ := List.mem_map.mp hx
      have := ra y hy
      have h1 : (1 + r) * y ≤ 3 * 3 := Int.mul_le_mul (by omega) this.2 this.1 (by decide)
      exact ⟨Int.mul_nonneg (by omega) this.1, h1⟩
  refine if_f (decide_eq_false k2') ?_
  rw [← hT1]
  generalize hT2 : (sSeq (sIf (gTest (gOp dEq (gVar 1) (gC (.int 4)))) _ _) _ : DS) = T2
  (try dsimp only [q_op, q_un, q_var, q_c, q_nil, q_cons, q_tup, q_frz, q_cel, q_lst, q_test, q_onB, q_and, q_or, q_not, q_andV, q_orV, q_notV, q_if, q_chain, q_next, q_seq, q_drop, q_ret, q_retF, q_retN, q_sif, q_break, q_cont, q_name, q_dnil, q_dcons, q_dtup, q_asg, q_set, q_par, q_for, q_range1, q_range2, q_iseq, q_ienum, q_call, q_cb, q_ncb, q_nop, q_lenset, q_mt, q_mt0, q_setix, q_augs, q_aug, q_nsl, q_onone, q_osome, q_gsl, q_raise, q_raiseF, q_try, q_lc, q_lc2, q_yes, q_wipe0, q_wipe, q_xf, q_I, q_I0, q_U, q_add, q_addT, q_addL, q_addR, q_onL, q_onSt, q_onSl, q_onSs, q_onSrct, q_onSrcl, q_eqI, q_eqB, q_eqS, q_eqN, q_isN, q_ix, q_ixL, q_in, q_len, q_sum, q_max, q_min, q_max2, q_min2, q_abs, q_int, q_intB, q_tupof, q_lstof, q_sort, q_rep, q_cat, q_isi, q_isis, q_setat, q_onC, q_append, q_pop, q_popAt, q_reverse, q_insert, q_sp1, q_sp2, q_sp3, q_sp4, q_at0, q_atS, q_st0, q_stS, q_iteT, q_iteF, q_isB, q_sumS, q_all, q_any, q_repT, q_spV, q_nLcX, q_sFz, q_gFld, q_sFldD, q_gMake, q_gCallI, q_gMeth, q_gRev])
  by_cases k3' : kd = 3
  · refine if_t (decide_eq_true k3') ?_
    dsimp only [sp__law_die, sp__law_take]
    refine ⟨p, n, rfl, rfl, n1, n7, ⟨ys, mset_same⟩, fun row zs rl ra rs0 => ?_⟩
    rw [mset_mset]
    refine RowD.lst.onS fun c hc => ⟨⟨by omega, by omega, by omega, by omega⟩, ?_⟩
    have t0 : TabAt (mset M p (.lst (iD zs))) (mset (mset M p (.lst (iD zs))) c (.lst (iD row))) [c] [iD row] := TabAt.nil.push hc
    have n28 : ∀ x ∈ row, nb 28 x := fun x hx => by
      have := ra x hx
      exact nb_mono (show nb 2 x by unfold nb; omega) (by decide)
    rw [show ((n : Int) - 1).toNat = n - 1 by omega, rg1]
    refine lc_still (fun k : Nat => D.int ((1 + k : Nat) : Int)) (fun k => if decide (0 < row.getD (1 + k) 0) = true then some (.int ((1 + k : Nat) : Int)) else none) trivial _ [] (fun k hk N acc hz hN => ?_) (by rw [sz]; simp; omega) ?_
    · have hk' : k < n - 1 := by simpa using hk
      (try dsimp only [q_op, q_un, q_var, q_c, q_nil, q_cons, q_tup, q_frz, q_cel, q_lst, q_test, q_onB, q_and, q_or, q_not, q_andV, q_orV, q_notV, q_if, q_chain, q_next, q_seq, q_drop, q_ret, q_retF, q_retN, q_sif, q_break, q_cont, q_name, q_dnil, q_dcons, q_dtup, q_asg, q_set, q_par, q_for, q_range1, q_range2, q_iseq, q_ienum, q_call, q_cb, q_ncb, q_nop, q_lenset, q_mt, q_mt0, q_setix, q_augs, q_aug, q_nsl, q_onone, q_osome, q_gsl, q_raise, q_raiseF, q_try, q_lc, q_lc2, q_yes, q_wipe0, q_wipe, q_xf, q_I, q_I0, q_U, q_add, q_addT, q_addL, q_addR, q_onL, q_onSt, q_onSl, q_onSs, q_onSrct, q_onSrcl, q_eqI, q_eqB, q_eqS, q_eqN, q_isN, q_ix, q_ixL, q_in, q_len, q_sum, q_max, q_min, q_max2, q_min2, q_abs, q_int, q_intB, q_tupof, q_lstof, q_sort, q_rep, q_cat, q_isi, q_isis, q_setat, q_onC, q_append, q_pop, q_popAt, q_reverse, q_insert, q_sp1, q_sp2, q_sp3, q_sp4, q_at0, q_atS, q_st0, q_stS, q_iteT, q_iteF, q_isB, q_sumS, q_all, q_any, q_repT, q_spV, q_nLcX, q_sFz, q_gFld, q_sFldD, q_gMake, q_gCallI, q_gMeth, q_gRev])
      refine ⟨_, atI_iD (by omega), ?_⟩
      (try dsimp only [q_op, q_un, q_var, q_c, q_nil, q_cons, q_tup, q_frz, q_cel, q_lst, q_test, q_onB, q_and, q_or, q_not, q_andV, q_orV, q_notV, q_if, q_chain, q_next, q_seq, q_drop, q_ret, q_retF, q_retN, q_sif, q_break, q_cont, q_name, q_dnil, q_dcons, q_dtup, q_asg, q_set, q_par, q_for, q_range1, q_range2, q_iseq, q_ienum, q_call, q_cb, q_ncb, q_nop, q_lenset, q_mt, q_mt0, q_setix, q_augs, q_aug, q_nsl, q_onone, q_osome, q_gsl, q_raise, q_raiseF, q_try, q_lc, q_lc2, q_yes, q_wipe0, q_wipe, q_xf, q_I, q_I0, q_U, q_add, q_addT, q_addL, q_addR, q_onL, q_onSt, q_onSl, q_onSs, q_onSrct, q_onSrcl, q_eqI, q_eqB, q_eqS, q_eqN, q_isN, q_ix, q_ixL, q_in, q_len, q_sum, q_max, q_min, q_max2, q_min2, q_abs, q_int, q_intB, q_tupof, q_lstof, q_sort, q_rep, q_cat, q_isi, q_isis, q_setat, q_onC, q_append, q_pop, q_popAt, q_reverse, q_insert, q_sp1, q_sp2, q_sp3, q_sp4, q_at0, q_atS, q_st0, q_stS, q_iteT, q_iteF, q_isB, q_sumS, q_all, q_any, q_repT, q_spV, q_nLcX, q_sFz, q_gFld, q_sFldD, q_gMake, q_gCallI, q_gMeth, q_gRev])
      by_cases c0 : 0 < row.getD (1 + k) 0
      · rw [if_pos (decide_eq_true c0)] at hN
        exact if_t (decide_eq_true c0) ⟨hz, hN⟩
      · rw [if_neg (by rw [decide_eq_false c0]; simp)] at hN
        exact if_f (decide_eq_false c0) (by simpa using hN)
    rw [List.nil_append, fm_ite]
    (try dsimp only [q_op, q_un, q_var, q_c, q_nil, q_cons, q_tup, q_frz, q_cel, q_lst, q_test, q_onB, q_and, q_or, q_not, q_andV, q_orV, q_notV, q_if, q_chain, q_next, q_seq, q_drop, q_ret, q_retF, q_retN, q_sif, q_break, q_cont, q_name, q_dnil, q_dcons, q_dtup, q_asg, q_set, q_par, q_for, q_range1, q_range2, q_iseq, q_ienum, q_call, q_cb, q_ncb, q_nop, q_lenset, q_mt, q_mt0, q_setix, q_augs, q_aug, q_nsl, q_onone, q_osome, q_gsl, q_raise, q_raiseF, q_try, q_lc, q_lc2, q_yes, q_wipe0, q_wipe, q_xf, q_I, q_I0, q_U, q_add, q_addT, q_addL, q_addR, q_onL, q_onSt, q_onSl, q_onSs, q_onSrct, q_onSrcl, q_eqI, q_eqB, q_eqS, q_eqN, q_isN, q_ix, q_ixL, q_in, q_len, q_sum, q_max, q_min, q_max2, q_min2, q_abs, q_int, q_intB, q_tupof, q_lstof, q_sort, q_rep, q_cat, q_isi, q_isis, q_setat, q_onC, q_append, q_pop, q_popAt, q_reverse, q_insert, q_sp1, q_sp2, q_sp3, q_sp4, q_at0, q_atS, q_st0, q_stS, q_iteT, q_iteF, q_isB, q_sumS, q_all, q_any, q_repT, q_spV, q_nLcX, q_sFz, q_gFld, q_sFldD, q_gMake, q_gCallI, q_gMeth, q_gRev])
    have sm : ∀ k ∈ (List.range (n - 1)).filter fun k => decide (0 < row.getD (1 + k) 0), 1 + k < n ∧ 0 < row.getD (1 + k) 0 := fun k hk => by
      obtain ⟨h1, h2⟩ := List.mem_filter.mp hk
      have := List.mem_range.mp h1
      exact ⟨by omega, of_decide_eq_true h2⟩
    generalize (List.range (n - 1)).filter (fun k => decide (0 < row.getD (1 + k) 0)) = sp at *
    rw [List.length_map]
    have fin : ∀ (us low : List Int) (M5 : Mem), TabAt (mset M p (.lst (iD us))) M5 [c] [iD low] → Drawn row low → [D.lst (iD row), D.ref c].length ≤ sizeLine ∧ ∃ d' M2 S, Fz M5 S (.lst [.lst (iD row), .ref c]) d' ∧ MemFz M5 M2 S ∧ Q d' M2 := fun us low M5 t h =>
      ⟨l2 _ _, .lst [.lst (iD row), .lst (iD low)], mset M p (.lst (iD us)), fun b => b = c, .lst (.cons (.refl _) (.cons (.ref rfl (tab_one t) (Fzs.refl _)) (Fzs.refl _))), t.up.fz1 (t.new c (by simp)) (tab_one t), q _ _ us h⟩
    have ra9 : ∀ x ∈ row, 0 ≤ x ∧ x ≤ 9 := fun x hx => by have := ra x hx; omega
    by_cases cs : sp.length = 0
    · exact if_f (decide_eq_false (by omega)) (fin zs row _ t0 (drawn_of n1 n7 rl rl ra9 ra9 rs0 rs0 (by decide)))
    refine if_t (decide_eq_true (by omega)) ⟨p, _, rfl, rfl, by omega, pool_is t0, fun r us r0 r1 => ?_⟩
    obtain ⟨k, rfl⟩ : ∃ k : Nat, r = (k : Int) := ⟨r.toNat, by omega⟩
    have hk : k < sp.length := by omega
    obtain ⟨m1, m2⟩ := sm _ (List.getElem_mem hk)
    have t1 := pool_take (ys := us) t0
    refine ⟨_, L2.atI_nat (v := D.int ((1 + sp[k] : Nat) : Int)) (by rw [List.getElem?_map, List.getElem?_eq_getElem hk]; rfl), ?_⟩
    generalize sp[k] = s at m1 m2 ⊢
    (try dsimp only [q_op, q_un, q_var, q_c, q_nil, q_cons, q_tup, q_frz, q_cel, q_lst, q_test, q_onB, q_and, q_or, q_not, q_andV, q_orV, q_notV, q_if, q_chain, q_next, q_seq, q_drop, q_ret, q_retF, q_retN, q_sif, q_break, q_cont, q_name, q_dnil, q_dcons, q_dtup, q_asg, q_set, q_par, q_for, q_range1, q_range2, q_iseq, q_ienum, q_call, q_cb, q_ncb, q_nop, q_lenset, q_mt, q_mt0, q_setix, q_augs, q_aug, q_nsl, q_onone, q_osome, q_gsl, q_raise, q_raiseF, q_try, q_lc, q_lc2, q_yes, q_wipe0, q_wipe, q_xf, q_I, q_I0, q_U, q_add, q_addT, q_addL, q_addR, q_onL, q_onSt, q_onSl, q_onSs, q_onSrct, q_onSrcl, q_eqI, q_eqB, q_eqS, q_eqN, q_isN, q_ix, q_ixL, q_in, q_len, q_sum, q_max, q_min, q_max2, q_min2, q_abs, q_int, q_intB, q_tupof, q_lstof, q_sort, q_rep, q_cat, q_isi, q_isis, q_setat, q_onC, q_append, q_pop, q_popAt, q_reverse, q_insert, q_sp1, q_sp2, q_sp3, q_sp4, q_at0, q_atS, q_st0, q_stS, q_iteT, q_iteF, q_isB, q_sumS, q_all, q_any, q_repT, q_spV, q_nLcX, q_sFz, q_gFld, q_sFldD, q_gMake, q_gCallI, q_gMeth, q_gRev])
    rw [show ((1 + s : Nat) : Int) - 1 = ((s : Nat) : Int) by omega]
    refine RowD.onS (RowD.ref (tab_one t1)) ⟨_, atI_iD (by omega), ?_⟩
    (try dsimp only [q_op, q_un, q_var, q_c, q_nil, q_cons, q_tup, q_frz, q_cel, q_lst, q_test, q_onB, q_and, q_or, q_not, q_andV, q_orV, q_notV, q_if, q_chain, q_next, q_seq, q_drop, q_ret, q_retF, q_retN, q_sif, q_break, q_cont, q_name, q_dnil, q_dcons, q_dtup, q_asg, q_set, q_par, q_for, q_range1, q_range2, q_iseq, q_ienum, q_call, q_cb, q_ncb, q_nop, q_lenset, q_mt, q_mt0, q_setix, q_augs, q_aug, q_nsl, q_onone, q_osome, q_gsl, q_raise, q_raiseF, q_try, q_lc, q_lc2, q_yes, q_wipe0, q_wipe, q_xf, q_I, q_I0, q_U, q_add, q_addT, q_addL, q_addR, q_onL, q_onSt, q_onSl, q_onSs, q_onSrct, q_onSrcl, q_eqI, q_eqB, q_eqS, q_eqN, q_isN, q_ix, q_ixL, q_in, q_len, q_sum, q_max, q_min, q_max2, q_min2, q_abs, q_int, q_intB, q_tupof, q_lstof, q_sort, q_rep, q_cat, q_isi, q_isis, q_setat, q_onC, q_append, q_pop, q_popAt, q_reverse, q_insert, q_sp1, q_sp2, q_sp3, q_sp4, q_at0, q_atS, q_st0, q_stS, q_iteT, q_iteF, q_isB, q_sumS, q_all, q_any, q_repT, q_spV, q_nLcX, q_sFz, q_gFld, q_sFldD, q_gMake, q_gCallI, q_gMeth, q_gRev])
    refine ⟨_, tab_one t1, 1 + s, by rw [List.length_map]; exact ixN_nat (by omega), ?_⟩
    have es : ∀ (l : List Int) (i : Nat) (v : Int), (iD l).set i (.int v) = iD (l.set i v) := fun l i v => by unfold iD; rw [List.map_set]
    have t2 := t1.set (r := iD (row.set (1 + s) (row.getD (1 + s) 0 - 1))) (i := 0) (p := c) rfl
    rw [es]
    have g3 : ∀ (l : List Int) (k : Nat), (∀ x ∈ l, 0 ≤ x ∧ x ≤ 3) → 0 ≤ l.getD k 0 ∧ l.getD k 0 ≤ 3 := fun l k h => by
      rw [List.getD_eq_getElem?_getD]
      cases z : l[k]? with
      | none => exact ⟨by decide, by decide⟩
      | some x => exact h x (List.mem_of_getElem? z)
    have ga := g3 row (1 + s) ra
    have h1 : ∀ x ∈ row.set (1 + s) (row.getD (1 + s) 0 - 1), 0 ≤ x ∧ x ≤ 3 := fun x hx => by
      rcases List.mem_or_eq_of_mem_set hx with hx | rfl
      · exact ra x hx
      · omega
    have l1 : (row.set (1 + s) (row.getD (1 + s) 0 - 1)).length = n := by rw [List.length_set]; exact rl
    have s1 : (row.set (1 + s) (row.getD (1 + s) 0 - 1)).sum = row.sum - 1 := by rw [sum_set (by omega)]; omega
    generalize row.set (1 + s) (row.getD (1 + s) 0 - 1) = row1 at *
    refine RowD.onS (RowD.ref mset_same) ⟨_, atI_iD (by omega), ?_⟩
    (try dsimp only [q_op, q_un, q_var, q_c, q_nil, q_cons, q_tup, q_frz, q_cel, q_lst, q_test, q_onB, q_and, q_or, q_not, q_andV, q_orV, q_notV, q_if, q_chain, q_next, q_seq, q_drop, q_ret, q_retF, q_retN, q_sif, q_break, q_cont, q_name, q_dnil, q_dcons, q_dtup, q_asg, q_set, q_par, q_for, q_range1, q_range2, q_iseq, q_ienum, q_call, q_cb, q_ncb, q_nop, q_lenset, q_mt, q_mt0, q_setix, q_augs, q_aug, q_nsl, q_onone, q_osome, q_gsl, q_raise, q_raiseF, q_try, q_lc, q_lc2, q_yes, q_wipe0, q_wipe, q_xf, q_I, q_I0, q_U, q_add, q_addT, q_addL, q_addR, q_onL, q_onSt, q_onSl, q_onSs, q_onSrct, q_onSrcl, q_eqI, q_eqB, q_eqS, q_eqN, q_isN, q_ix, q_ixL, q_in, q_len, q_sum, q_max, q_min, q_max2, q_min2, q_abs, q_int, q_intB, q_tupof, q_lstof, q_sort, q_rep, q_cat, q_isi, q_isis, q_setat, q_onC, q_append, q_pop, q_popAt, q_reverse, q_insert, q_sp1, q_sp2, q_sp3, q_sp4, q_at0, q_atS, q_st0, q_stS, q_iteT, q_iteF, q_isB, q_sumS, q_all, q_any, q_repT, q_spV, q_nLcX, q_sFz, q_gFld, q_sFldD, q_gMake, q_gCallI, q_gMeth, q_gRev])
    refine ⟨_, mset_same, s, by rw [List.length_map]; exact ixN_nat (by omega), ?_⟩
    have t3 := t2.set (r := iD (row1.set s (row1.getD s 0 + 1))) (i := 0) (p := c) rfl
    rw [es]
    have gb := g3 row1 s h1
    refine fin us _ _ t3 (drawn_of n1 n7 rl (by rw [List.length_set]; exact l1) ra9 (fun x hx => ?_) rs0 (by rw [sum_set (by omega)]; omega) (by decide))
    rcases List.mem_or_eq_of_mem_set hx with hx | rfl
    · have := h1 x hx
      omega
    · omega
  refine if_f (decide_eq_false k3') ?_
  rw [← hT2]
  (try dsimp only [q_op, q_un, q_var, q_c, q_nil, q_cons, q_tup, q_frz, q_cel, q_lst, q_test, q_onB, q_and, q_or, q_not, q_andV, q_orV, q_notV, q_if, q_chain, q_next, q_seq, q_drop, q_ret, q_retF, q_retN, q_sif, q_break, q_cont, q_name, q_dnil, q_dcons, q_dtup, q_asg, q_set, q_par, q_for, q_range1, q_range2, q_iseq, q_ienum, q_call, q_cb, q_ncb, q_nop, q_lenset, q_mt, q_mt0, q_setix, q_augs, q_aug, q_nsl, q_onone, q_osome, q_gsl, q_raise, q_raiseF, q_try, q_lc, q_lc2, q_yes, q_wipe0, q_wipe, q_xf, q_I, q_I0, q_U, q_add, q_addT, q_addL, q_addR, q_onL, q_onSt, q_onSl, q_onSs, q_onSrct, q_onSrcl, q_eqI, q_eqB, q_eqS, q_eqN, q_isN, q_ix, q_ixL, q_in, q_len, q_sum, q_max, q_min, q_max2, q_min2, q_abs, q_int, q_intB, q_tupof, q_lstof, q_sort, q_rep, q_cat, q_isi, q_isis, q_setat, q_onC, q_append, q_pop, q_popAt, q_reverse, q_insert, q_sp1, q_sp2, q_sp3, q_sp4, q_at0, q_atS, q_st0, q_stS, q_iteT, q_iteF, q_isB, q_sumS, q_all, q_any, q_repT, q_spV, q_nLcX, q_sFz, q_gFld, q_sFldD, q_gMake, q_gCallI, q_gMeth, q_gRev])
  by_cases k4' : kd = 4
  · refine if_t (decide_eq_true k4') ?_
    dsimp only [sp__law_take]
    have l4 : ∀ x y z w : D, [x, y, z, w].length ≤ sizeLine := fun x y z w => by rw [sz]; show 4 ≤ 16777216; omega
    refine ⟨p, 3, rfl, rfl, by decide, ⟨ys, mset_same⟩, fun r zs r0 r1 => ?_⟩
    (try dsimp only [q_op, q_un, q_var, q_c, q_nil, q_cons, q_tup, q_frz, q_cel, q_lst, q_test, q_onB, q_and, q_or, q_not, q_andV, q_orV, q_notV, q_if, q_chain, q_next, q_seq, q_drop, q_ret, q_retF, q_retN, q_sif, q_break, q_cont, q_name, q_dnil, q_dcons, q_dtup, q_asg, q_set, q_par, q_for, q_range1, q_range2, q_iseq, q_ienum, q_call, q_cb, q_ncb, q_nop, q_lenset, q_mt, q_mt0, q_setix, q_augs, q_aug, q_nsl, q_onone, q_osome, q_gsl, q_raise, q_raiseF, q_try, q_lc, q_lc2, q_yes, q_wipe0, q_wipe, q_xf, q_I, q_I0, q_U, q_add, q_addT, q_addL, q_addR, q_onL, q_onSt, q_onSl, q_onSs, q_onSrct, q_onSrcl, q_eqI, q_eqB, q_eqS, q_eqN, q_isN, q_ix, q_ixL, q_in, q_len, q_sum, q_max, q_min, q_max2, q_min2, q_abs, q_int, q_intB, q_tupof, q_lstof, q_sort, q_rep, q_cat, q_isi, q_isis, q_setat, q_onC, q_append, q_pop, q_popAt, q_reverse, q_insert, q_sp1, q_sp2, q_sp3, q_sp4, q_at0, q_atS, q_st0, q_stS, q_iteT, q_iteF, q_isB, q_sumS, q_all, q_any, q_repT, q_spV, q_nLcX, q_sFz, q_gFld, q_sFldD, q_gMake, q_gCallI, q_gMeth, q_gRev])
    refine ⟨p, 3, rfl, rfl, by decide, ⟨zs, mset_same⟩, fun r2 us s0 s1 => ?_⟩
    (try dsimp only [q_op, q_un, q_var, q_c, q_nil, q_cons, q_tup, q_frz, q_cel, q_lst, q_test, q_onB, q_and, q_or, q_not, q_andV, q_orV, q_notV, q_if, q_chain, q_next, q_seq, q_drop, q_ret, q_retF, q_retN, q_sif, q_break, q_cont, q_name, q_dnil, q_dcons, q_dtup, q_asg, q_set, q_par, q_for, q_range1, q_range2, q_iseq, q_ienum, q_call, q_cb, q_ncb, q_nop, q_lenset, q_mt, q_mt0, q_setix, q_augs, q_aug, q_nsl, q_onone, q_osome, q_gsl, q_raise, q_raiseF, q_try, q_lc, q_lc2, q_yes, q_wipe0, q_wipe, q_xf, q_I, q_I0, q_U, q_add, q_addT, q_addL, q_addR, q_onL, q_onSt, q_onSl, q_onSs, q_onSrct, q_onSrcl, q_eqI, q_eqB, q_eqS, q_eqN, q_isN, q_ix, q_ixL, q_in, q_len, q_sum, q_max, q_min, q_max2, q_min2, q_abs, q_int, q_intB, q_tupof, q_lstof, q_sort, q_rep, q_cat, q_isi, q_isis, q_setat, q_onC, q_append, q_pop, q_popAt, q_reverse, q_insert, q_sp1, q_sp2, q_sp3, q_sp4, q_at0, q_atS, q_st0, q_stS, q_iteT, q_iteF, q_isB, q_sumS, q_all, q_any, q_repT, q_spV, q_nLcX, q_sFz, q_gFld, q_sFldD, q_gMake, q_gCallI, q_gMeth, q_gRev])
    refine ⟨l4 _ _ _ _, p, 2, rfl, rfl, by decide, ⟨us, mset_same⟩, fun r3 vs u0 u1 => ?_⟩
    (try dsimp only [q_op, q_un, q_var, q_c, q_nil, q_cons, q_tup, q_frz, q_cel, q_lst, q_test, q_onB, q_and, q_or, q_not, q_andV, q_orV, q_notV, q_if, q_chain, q_next, q_seq, q_drop, q_ret, q_retF, q_retN, q_sif, q_break, q_cont, q_name, q_dnil, q_dcons, q_dtup, q_asg, q_set, q_par, q_for, q_range1, q_range2, q_iseq, q_ienum, q_call, q_cb, q_ncb, q_nop, q_lenset, q_mt, q_mt0, q_setix, q_augs, q_aug, q_nsl, q_onone, q_osome, q_gsl, q_raise, q_raiseF, q_try, q_lc, q_lc2, q_yes, q_wipe0, q_wipe, q_xf, q_I, q_I0, q_U, q_add, q_addT, q_addL, q_addR, q_onL, q_onSt, q_onSl, q_onSs, q_onSrct, q_onSrcl, q_eqI, q_eqB, q_eqS, q_eqN, q_isN, q_ix, q_ixL, q_in, q_len, q_sum, q_max, q_min, q_max2, q_min2, q_abs, q_int, q_intB, q_tupof, q_lstof, q_sort, q_rep, q_cat, q_isi, q_isis, q_setat, q_onC, q_append, q_pop, q_popAt, q_reverse, q_insert, q_sp1, q_sp2, q_sp3, q_sp4, q_at0, q_atS, q_st0, q_stS, q_iteT, q_iteF, q_isB, q_sumS, q_all, q_any, q_repT, q_spV, q_nLcX, q_sFz, q_gFld, q_sFldD, q_gMake, q_gCallI, q_gMeth, q_gRev])
    refine ⟨l4 _ _ _ _, l2 _ _, ?_⟩
    rw [mset_mset, mset_mset, mset_mset]
    refine dr vs [1 + r, 0, 0, 1 + r2] [0, 1 + r3, 1 + r, 0] (drawn_of (n := 4) (c := 14) (by decide) (by decide) rfl rfl (fun x hx => ?_) (fun x hx => ?_) (by simp; omega) (by simp; omega) (by decide))
    · simp at hx
      omega
    · simp at hx
      omega
  · refine if_f (decide_eq_false k4') ?_
    dsimp only [sp__law_dice]
    refine ⟨p, n, rfl, rfl, rfl, n1, n7, ⟨ys, mset_same⟩, fun rs zs hl hD => ?_⟩
    rw [mset_mset]
    obtain ⟨a, b, rfl⟩ : ∃ a b, rs = [a, b] := by
      match rs, hl with
      | [a, b], _ => exact ⟨a, b, rfl⟩
    obtain ⟨a1, a2, a3⟩ := hD a (by simp)
    obtain ⟨b1, b2, b3⟩ := hD b (by simp)
    exact dr zs a b (drawn_of n1 n7 a1 b1 a2 b2 a3 b3 (by decide))
end
end LW

namespace LW
open PySem PySem.Spec PyProof.Rows L2 DL
section
variable {K : PySem.W.Frag} {mg : Str → Option Value}
/-- what is small enough -/
theorem pow_small {x : Int} {n : Nat} (h0 : 0 ≤ x) (h : x ≤ 100) (hn : n ≤ 9) : x ^ n < 2 ^ 60 := by
  have h1 := pow_le h0 h n
  have h2 := pow_mono (x := 100) (by decide) hn
  have h3 : (100 : Int) ^ 9 < 2 ^ 60 := by decide
  omega
theorem Drawn.symm {a b : List Int} (d : Drawn a b) : Drawn b a := by
  obtain ⟨h1, h2, h3, h4, h5, h6, h7, h8, h9⟩ := d
  exact ⟨by omega, by omega, h3.symm, h5, h4, h7, h6, h9, h8⟩
theorem Drawn.good {a b : List Int} (d : Drawn a b) {M : Mem} {e : D} (r : RowD M e (iD a)) : Good M e a := by
  obtain ⟨h1, h2, h3, h4, h5, h6, h7, h8, h9⟩ := d
  exact ⟨r, by omega, h4, h6, by omega⟩
theorem Drawn.cnt {a b : List Int} (d : Drawn a b) {n : Nat} (h1 : 1 ≤ n) (h2 : n ≤ 9) : CntOk a n := by
  have := pow_small (n := n) (show 0 ≤ a.sum by have := d.2.2.2.2.2.1; omega) d.2.2.2.2.2.2.2.1 h2
  exact ⟨h1, h2, by omega⟩
theorem nn_nb {l : List Int} {n : Nat} (h : Nn l) (hs : l.sum < 2 ^ n) : ∀ x ∈ l, nb n x := fun x hx => by
  have h1 := h x hx
  have h2 := le_sum h hx
  have h3 : ((2 ^ n : Nat) : Int) = (2 : Int) ^ n := by simp
  unfold nb
  omega
theorem rows2 {M : Mem} {a b : D} {one other : List Int} (r1 : RowD M a (iD one)) (r2 : RowD M b (iD other)) (hl : one.length = other.length) (L : one.length < 1000) (p1 : Nn one) (p2 : Nn other) (s1 : one.sum < 2 ^ 250) (s2 : other.sum < 2 ^ 250) : Rows2 M a b one other :=
  ⟨r1, r2, hl, L, fun x hx => nb_mono (nn_nb p1 s1 x hx) (by decide), fun x hx => nb_mono (nn_nb p2 s2 x hx) (by decide)⟩
theorem b__law_count_right (T : Tx K mg) : ∀ d0 d1 d2 M Q E, sp__law_count_right K [d0, d1, d2] M Q E → g__law_count_right K { nx := fun _ M => Q .non M, rt := Q, ex := fun x _ M => E x M } [some d0, some d1, some d2, none, none, none, none, none, none, none, none] M := by
  rintro d0 d1 d2 M Q E ⟨one, other, n, rfl, rfl, rfl, d, n1, n9, q⟩
  have p1 : Nn one := d.2.2.2.1
  have p2 : Nn other := d.2.2.2.2.1
  have hl : one.length = other.length := d.2.2.1
  have L : one.length < 1000 := by have := d.2.1; omega
  have c1 := d.cnt n1 n9
  have c2 := d.symm.cnt n1 n9
  have l2 : ∀ x y : D, [x, y].length ≤ sizeLine := fun x y => by rw [sz]; show 2 ≤ 16777216; omega
  unfold g__law_count_right
  generalize hT1 : (sSeq (sIf (gOr (gTest (gOp dNe (gFrz (nCB nListOf (aCons (gOp dIx (gVar 5) (gC (.int 0))) aNil))) _)) _) _ _) _ : DS) = T1
  dsimp only [q_op, q_un, q_var, q_c, q_nil, q_cons, q_tup, q_frz, q_cel, q_lst, q_test, q_onB, q_and, q_or, q_not, q_andV, q_orV, q_notV, q_if, q_chain, q_next, q_seq, q_drop, q_ret, q_retF, q_retN, q_sif, q_break, q_cont, q_name, q_dnil, q_dcons, q_dtup, q_asg, q_set, q_par, q_for, q_range1, q_range2, q_iseq, q_ienum, q_call, q_cb, q_ncb, q_nop, q_lenset, q_mt, q_mt0, q_setix, q_augs, q_aug, q_nsl, q_onone, q_osome, q_gsl, q_raise, q_raiseF, q_try, q_lc, q_lc2, q_yes, q_wipe0, q_wipe, q_xf, q_I, q_I0, q_U, q_add, q_addT, q_addL, q_addR, q_onL, q_onSt, q_onSl, q_onSs, q_onSrct, q_onSrcl, q_eqI, q_eqB, q_eqS, q_eqN, q_isN, q_ix, q_ixL, q_in, q_len, q_sum, q_max, q_min, q_max2, q_min2, q_abs, q_int, q_intB, q_tupof, q_lstof, q_sort, q_rep, q_cat, q_isi, q_isis, q_setat, q_onC, q_append, q_pop, q_popAt, q_reverse, q_insert, q_sp1, q_sp2, q_sp3, q_sp4, q_at0, q_atS, q_st0, q_stS, q_iteT, q_iteF, q_isB, q_sumS, q_all, q_any, q_repT, q_spV, q_nLcX, q_sFz, q_gFld, q_sFldD, q_gMake, q_gCallI, q_gMeth, q_gRev, sp_Greatest_init, sp_Least_init, sp_Greatest_call, sp_Least_call]
  refine fun x hx => ⟨x, rfl, mset_same, .inl ⟨_, rfl, by omega, by omega, rfl, _, mset_same, ?_⟩⟩
  rw [mset_mset, mdel_mset hx]
  refine fun y hy => ⟨y, rfl, mset_same, .inl ⟨_, rfl, by omega, by omega, rfl, _, mset_same, ?_⟩⟩
  rw [mset_mset, mdel_mset hy]
  refine ⟨_, _, _, .inl rfl, T.c_Greatest.cls, T.c_Greatest.no _ (by simp), rfl, ?_⟩
  (try dsimp only [q_op, q_un, q_var, q_c, q_nil, q_cons, q_tup, q_frz, q_cel, q_lst, q_test, q_onB, q_and, q_or, q_not, q_andV, q_orV, q_notV, q_if, q_chain, q_next, q_seq, q_drop, q_ret, q_retF, q_retN, q_sif, q_break, q_cont, q_name, q_dnil, q_dcons, q_dtup, q_asg, q_set, q_par, q_for, q_range1, q_range2, q_iseq, q_ienum, q_call, q_cb, q_ncb, q_nop, q_lenset, q_mt, q_mt0, q_setix, q_augs, q_aug, q_nsl, q_onone, q_osome, q_gsl, q_raise, q_raiseF, q_try, q_lc, q_lc2, q_yes, q_wipe0, q_wipe, q_xf, q_I, q_I0, q_U, q_add, q_addT, q_addL, q_addR, q_onL, q_onSt, q_onSl, q_onSs, q_onSrct, q_onSrcl, q_eqI, q_eqB, q_eqS, q_eqN, q_isN, q_ix, q_ixL, q_in, q_len, q_sum, q_max, q_min, q_max2, q_min2, q_abs, q_int, q_intB, q_tupof, q_lstof, q_sort, q_rep, q_cat, q_isi, q_isis, q_setat, q_onC, q_append, q_pop, q_popAt, q_reverse, q_insert, q_sp1, q_sp2, q_sp3, q_sp4, q_at0, q_atS, q_st0, q_stS, q_iteT, q_iteF, q_isB, q_sumS, q_all, q_any, q_repT, q_spV, q_nLcX, q_sFz, q_gFld, q_sFldD, q_gMake, q_gCallI, q_gMeth, q_gRev])
  refine if_f (by rw [decide_eq_true rfl]; rfl) ⟨_, _, _, .inl rfl, T.c_Least.cls, T.c_Least.no _ (by simp), rfl, ?_⟩
  (try dsimp only [q_op, q_un, q_var, q_c, q_nil, q_cons, q_tup, q_frz, q_cel, q_lst, q_test, q_onB, q_and, q_or, q_not, q_andV, q_orV, q_notV, q_if, q_chain, q_next, q_seq, q_drop, q_ret, q_retF, q_retN, q_sif, q_break, q_cont, q_name, q_dnil, q_dcons, q_dtup, q_asg, q_set, q_par, q_for, q_range1, q_range2, q_iseq, q_ienum, q_call, q_cb, q_ncb, q_nop, q_lenset, q_mt, q_mt0, q_setix, q_augs, q_aug, q_nsl, q_onone, q_osome, q_gsl, q_raise, q_raiseF, q_try, q_lc, q_lc2, q_yes, q_wipe0, q_wipe, q_xf, q_I, q_I0, q_U, q_add, q_addT, q_addL, q_addR, q_onL, q_onSt, q_onSl, q_onSs, q_onSrct, q_onSrcl, q_eqI, q_eqB, q_eqS, q_eqN, q_isN, q_ix, q_ixL, q_in, q_len, q_sum, q_max, q_min, q_max2, q_min2, q_abs, q_int, q_intB, q_tupof, q_lstof, q_sort, q_rep, q_cat, q_isi, q_isis, q_setat, q_onC, q_append, q_pop, q_popAt, q_reverse, q_insert, q_sp1, q_sp2, q_sp3, q_sp4, q_at0, q_atS, q_st0, q_stS, q_iteT, q_iteF, q_isB, q_sumS, q_all, q_any, q_repT, q_spV, q_nLcX, q_sFz, q_gFld, q_sFldD, q_gMake, q_gCallI, q_gMeth, q_gRev])
  refine if_f (by rw [decide_eq_true rfl]; rfl) ⟨⟨_, .inl rfl⟩, ⟨_, .inl rfl⟩, one, n, rfl, d.good RowD.lst, c1, ⟨_, .inl rfl⟩, ⟨_, .inl rfl⟩, other, n, rfl, d.symm.good RowD.tup, c2, l2 _ _, ?_⟩
  refine ⟨⟨_, .inl rfl⟩, ⟨_, .inl rfl⟩, one, n, rfl, d.good RowD.lst, c1, ⟨_, .inl rfl⟩, ⟨_, .inl rfl⟩, other, n, rfl, d.symm.good RowD.tup, c2, l2 _ _, ?_⟩
  rw [← hT1]
  generalize hT2 : (sSeq (sSet 7 _) _ : DS) = T2
  dsimp only [q_op, q_un, q_var, q_c, q_nil, q_cons, q_tup, q_frz, q_cel, q_lst, q_test, q_onB, q_and, q_or, q_not, q_andV, q_orV, q_notV, q_if, q_chain, q_next, q_seq, q_drop, q_ret, q_retF, q_retN, q_sif, q_break, q_cont, q_name, q_dnil, q_dcons, q_dtup, q_asg, q_set, q_par, q_for, q_range1, q_range2, q_iseq, q_ienum, q_call, q_cb, q_ncb, q_nop, q_lenset, q_mt, q_mt0, q_setix, q_augs, q_aug, q_nsl, q_onone, q_osome, q_gsl, q_raise, q_raiseF, q_try, q_lc, q_lc2, q_yes, q_wipe0, q_wipe, q_xf, q_I, q_I0, q_U, q_add, q_addT, q_addL, q_addR, q_onL, q_onSt, q_onSl, q_onSs, q_onSrct, q_onSrcl, q_eqI, q_eqB, q_eqS, q_eqN, q_isN, q_ix, q_ixL, q_in, q_len, q_sum, q_max, q_min, q_max2, q_min2, q_abs, q_int, q_intB, q_tupof, q_lstof, q_sort, q_rep, q_cat, q_isi, q_isis, q_setat, q_onC, q_append, q_pop, q_popAt, q_reverse, q_insert, q_sp1, q_sp2, q_sp3, q_sp4, q_at0, q_atS, q_st0, q_stS, q_iteT, q_iteF, q_isB, q_sumS, q_all, q_any, q_repT, q_spV, q_nLcX, q_sFz, q_gFld, q_sFldD, q_gMake, q_gCallI, q_gMeth, q_gRev, sp__law_most, sp_greatest_die, sp_least_die]
  have pp1 : ∀ j, nb 300 (pre one j) := fun j => nb_mono (nb_mostpre (n := n) p1 (by have := d.2.2.2.2.2.2.2.1; omega) j) (by decide)
  have pp2 : ∀ j, nb 300 (pre other j) := fun j => nb_mono (nb_mostpre (n := n) p2 (by have := d.2.2.2.2.2.2.2.2; omega) j) (by decide)
  have pr1 : ∀ j, nb 300 (pre one.reverse j) := fun j => nb_mono (nb_mostpre (n := n) p1.reverse (by rw [sum_rev]; have := d.2.2.2.2.2.2.2.1; omega) j) (by decide)
  have pr2 : ∀ j, nb 300 (pre other.reverse j) := fun j => nb_mono (nb_mostpre (n := n) p2.reverse (by rw [sum_rev]; have := d.2.2.2.2.2.2.2.2; omega) j) (by decide)
  refine ⟨_, rfl, RowD.tup.onS ⟨one, n, RowD.lst, L, pp1, n9, rfl, eq_lstI _ _ (.inl rfl) (.inl rfl) ?_⟩⟩
  rw [decide_eq_true rfl]
  (try dsimp only [q_op, q_un, q_var, q_c, q_nil, q_cons, q_tup, q_frz, q_cel, q_lst, q_test, q_onB, q_and, q_or, q_not, q_andV, q_orV, q_notV, q_if, q_chain, q_next, q_seq, q_drop, q_ret, q_retF, q_retN, q_sif, q_break, q_cont, q_name, q_dnil, q_dcons, q_dtup, q_asg, q_set, q_par, q_for, q_range1, q_range2, q_iseq, q_ienum, q_call, q_cb, q_ncb, q_nop, q_lenset, q_mt, q_mt0, q_setix, q_augs, q_aug, q_nsl, q_onone, q_osome, q_gsl, q_raise, q_raiseF, q_try, q_lc, q_lc2, q_yes, q_wipe0, q_wipe, q_xf, q_I, q_I0, q_U, q_add, q_addT, q_addL, q_addR, q_onL, q_onSt, q_onSl, q_onSs, q_onSrct, q_onSrcl, q_eqI, q_eqB, q_eqS, q_eqN, q_isN, q_ix, q_ixL, q_in, q_len, q_sum, q_max, q_min, q_max2, q_min2, q_abs, q_int, q_intB, q_tupof, q_lstof, q_sort, q_rep, q_cat, q_isi, q_isis, q_setat, q_onC, q_append, q_pop, q_popAt, q_reverse, q_insert, q_sp1, q_sp2, q_sp3, q_sp4, q_at0, q_atS, q_st0, q_stS, q_iteT, q_iteF, q_isB, q_sumS, q_all, q_any, q_repT, q_spV, q_nLcX, q_sFz, q_gFld, q_sFldD, q_gMake, q_gCallI, q_gMeth, q_gRev])
  refine if_f (by rfl) ⟨_, rfl, RowD.tup.onS ⟨other, n, RowD.lst, by omega, pp2, n9, rfl, eq_lstI _ _ (.inl rfl) (.inl rfl) ?_⟩⟩
  rw [decide_eq_true rfl]
  (try dsimp only [q_op, q_un, q_var, q_c, q_nil, q_cons, q_tup, q_frz, q_cel, q_lst, q_test, q_onB, q_and, q_or, q_not, q_andV, q_orV, q_notV, q_if, q_chain, q_next, q_seq, q_drop, q_ret, q_retF, q_retN, q_sif, q_break, q_cont, q_name, q_dnil, q_dcons, q_dtup, q_asg, q_set, q_par, q_for, q_range1, q_range2, q_iseq, q_ienum, q_call, q_cb, q_ncb, q_nop, q_lenset, q_mt, q_mt0, q_setix, q_augs, q_aug, q_nsl, q_onone, q_osome, q_gsl, q_raise, q_raiseF, q_try, q_lc, q_lc2, q_yes, q_wipe0, q_wipe, q_xf, q_I, q_I0, q_U, q_add, q_addT, q_addL, q_addR, q_onL, q_onSt, q_onSl, q_onSs, q_onSrct, q_onSrcl, q_eqI, q_eqB, q_eqS, q_eqN, q_isN, q_ix, q_ixL, q_in, q_len, q_sum, q_max, q_min, q_max2, q_min2, q_abs, q_int, q_intB, q_tupof, q_lstof, q_sort, q_rep, q_cat, q_isi, q_isis, q_setat, q_onC, q_append, q_pop, q_popAt, q_reverse, q_insert, q_sp1, q_sp2, q_sp3, q_sp4, q_at0, q_atS, q_st0, q_stS, q_iteT, q_iteF, q_isB, q_sumS, q_all, q_any, q_repT, q_spV, q_nLcX, q_sFz, q_gFld, q_sFldD, q_gMake, q_gCallI, q_gMeth, q_gRev])
  refine if_f (by rfl) ⟨_, rfl, RowD.tup.onS ⟨one.reverse, n, by rw [iD_rev]; exact RowD.lst, by rw [List.length_reverse]; exact L, pr1, n9, rfl, eq_lstI (leastL one n) (leastL one n) (.inl rfl) (.inl (by rw [iD_rev]; rfl)) ?_⟩⟩
  rw [decide_eq_true rfl]
  (try dsimp only [q_op, q_un, q_var, q_c, q_nil, q_cons, q_tup, q_frz, q_cel, q_lst, q_test, q_onB, q_and, q_or, q_not, q_andV, q_orV, q_notV, q_if, q_chain, q_next, q_seq, q_drop, q_ret, q_retF, q_retN, q_sif, q_break, q_cont, q_name, q_dnil, q_dcons, q_dtup, q_asg, q_set, q_par, q_for, q_range1, q_range2, q_iseq, q_ienum, q_call, q_cb, q_ncb, q_nop, q_lenset, q_mt, q_mt0, q_setix, q_augs, q_aug, q_nsl, q_onone, q_osome, q_gsl, q_raise, q_raiseF, q_try, q_lc, q_lc2, q_yes, q_wipe0, q_wipe, q_xf, q_I, q_I0, q_U, q_add, q_addT, q_addL, q_addR, q_onL, q_onSt, q_onSl, q_onSs, q_onSrct, q_onSrcl, q_eqI, q_eqB, q_eqS, q_eqN, q_isN, q_ix, q_ixL, q_in, q_len, q_sum, q_max, q_min, q_max2, q_min2, q_abs, q_int, q_intB, q_tupof, q_lstof, q_sort, q_rep, q_cat, q_isi, q_isis, q_setat, q_onC, q_append, q_pop, q_popAt, q_reverse, q_insert, q_sp1, q_sp2, q_sp3, q_sp4, q_at0, q_atS, q_st0, q_stS, q_iteT, q_iteF, q_isB, q_sumS, q_all, q_any, q_repT, q_spV, q_nLcX, q_sFz, q_gFld, q_sFldD, q_gMake, q_gCallI, q_gMeth, q_gRev])
  refine if_f (by rfl) ⟨_, rfl, RowD.tup.onS ⟨other.reverse, n, by rw [iD_rev]; exact RowD.lst, by rw [List.length_reverse]; omega, pr2, n9, rfl, eq_lstI (leastL other n) (leastL other n) (.inl rfl) (.inl (by rw [iD_rev]; rfl)) ?_⟩⟩
  rw [decide_eq_true rfl]
  (try dsimp only [q_op, q_un, q_var, q_c, q_nil, q_cons, q_tup, q_frz, q_cel, q_lst, q_test, q_onB, q_and, q_or, q_not, q_andV, q_orV, q_notV, q_if, q_chain, q_next, q_seq, q_drop, q_ret, q_retF, q_retN, q_sif, q_break, q_cont, q_name, q_dnil, q_dcons, q_dtup, q_asg, q_set, q_par, q_for, q_range1, q_range2, q_iseq, q_ienum, q_call, q_cb, q_ncb, q_nop, q_lenset, q_mt, q_mt0, q_setix, q_augs, q_aug, q_nsl, q_onone, q_osome, q_gsl, q_raise, q_raiseF, q_try, q_lc, q_lc2, q_yes, q_wipe0, q_wipe, q_xf, q_I, q_I0, q_U, q_add, q_addT, q_addL, q_addR, q_onL, q_onSt, q_onSl, q_onSs, q_onSrct, q_onSrcl, q_eqI, q_eqB, q_eqS, q_eqN, q_isN, q_ix, q_ixL, q_in, q_len, q_sum, q_max, q_min, q_max2, q_min2, q_abs, q_int, q_intB, q_tupof, q_lstof, q_sort, q_rep, q_cat, q_isi, q_isis, q_setat, q_onC, q_append, q_pop, q_popAt, q_reverse, q_insert, q_sp1, q_sp2, q_sp3, q_sp4, q_at0, q_atS, q_st0, q_stS, q_iteT, q_iteF, q_isB, q_sumS, q_all, q_any, q_repT, q_spV, q_nLcX, q_sFz, q_gFld, q_sFldD, q_gMake, q_gCallI, q_gMeth, q_gRev])
  refine if_f (by rfl) ⟨_, rfl, .inl ⟨one, n, d.good RowD.lst, c1, rfl, eq_tupI _ _ ?_⟩⟩
  rw [decide_eq_true rfl]
  (try dsimp only [q_op, q_un, q_var, q_c, q_nil, q_cons, q_tup, q_frz, q_cel, q_lst, q_test, q_onB, q_and, q_or, q_not, q_andV, q_orV, q_notV, q_if, q_chain, q_next, q_seq, q_drop, q_ret, q_retF, q_retN, q_sif, q_break, q_cont, q_name, q_dnil, q_dcons, q_dtup, q_asg, q_set, q_par, q_for, q_range1, q_range2, q_iseq, q_ienum, q_call, q_cb, q_ncb, q_nop, q_lenset, q_mt, q_mt0, q_setix, q_augs, q_aug, q_nsl, q_onone, q_osome, q_gsl, q_raise, q_raiseF, q_try, q_lc, q_lc2, q_yes, q_wipe0, q_wipe, q_xf, q_I, q_I0, q_U, q_add, q_addT, q_addL, q_addR, q_onL, q_onSt, q_onSl, q_onSs, q_onSrct, q_onSrcl, q_eqI, q_eqB, q_eqS, q_eqN, q_isN, q_ix, q_ixL, q_in, q_len, q_sum, q_max, q_min, q_max2, q_min2, q_abs, q_int, q_intB, q_tupof, q_lstof, q_sort, q_rep, q_cat, q_isi, q_isis, q_setat, q_onC, q_append, q_pop, q_popAt, q_reverse, q_insert, q_sp1, q_sp2, q_sp3, q_sp4, q_at0, q_atS, q_st0, q_stS, q_iteT, q_iteF, q_isB, q_sumS, q_all, q_any, q_repT, q_spV, q_nLcX, q_sFz, q_gFld, q_sFldD, q_gMake, q_gCallI, q_gMeth, q_gRev])
  refine if_f (by rfl) ⟨_, rfl, other, n, d.symm.good RowD.lst, c2, rfl, eq_tupI _ _ ?_⟩
  rw [decide_eq_true rfl]
  (try dsimp only [q_op, q_un, q_var, q_c, q_nil, q_cons, q_tup, q_frz, q_cel, q_lst, q_test, q_onB, q_and, q_or, q_not, q_andV, q_orV, q_notV, q_if, q_chain, q_next, q_seq, q_drop, q_ret, q_retF, q_retN, q_sif, q_break, q_cont, q_name, q_dnil, q_dcons, q_dtup, q_asg, q_set, q_par, q_for, q_range1, q_range2, q_iseq, q_ienum, q_call, q_cb, q_ncb, q_nop, q_lenset, q_mt, q_mt0, q_setix, q_augs, q_aug, q_nsl, q_onone, q_osome, q_gsl, q_raise, q_raiseF, q_try, q_lc, q_lc2, q_yes, q_wipe0, q_wipe, q_xf, q_I, q_I0, q_U, q_add, q_addT, q_addL, q_addR, q_onL, q_onSt, q_onSl, q_onSs, q_onSrct, q_onSrcl, q_eqI, q_eqB, q_eqS, q_eqN, q_isN, q_ix, q_ixL, q_in, q_len, q_sum, q_max, q_min, q_max2, q_min2, q_abs, q_int, q_intB, q_tupof, q_lstof, q_sort, q_rep, q_cat, q_isi, q_isis, q_setat, q_onC, q_append, q_pop, q_popAt, q_reverse, q_insert, q_sp1, q_sp2, q_sp3, q_sp4, q_at0, q_atS, q_st0, q_stS, q_iteT, q_iteF, q_isB, q_sumS, q_all, q_any, q_repT, q_spV, q_nLcX, q_sFz, q_gFld, q_sFldD, q_gMake, q_gCallI, q_gMeth, q_gRev])
  refine if_f (by rfl) ?_
  rw [← hT2]
  dsimp only [q_op, q_un, q_var, q_c, q_nil, q_cons, q_tup, q_frz, q_cel, q_lst, q_test, q_onB, q_and, q_or, q_not, q_andV, q_orV, q_notV, q_if, q_chain, q_next, q_seq, q_drop, q_ret, q_retF, q_retN, q_sif, q_break, q_cont, q_name, q_dnil, q_dcons, q_dtup, q_asg, q_set, q_par, q_for, q_range1, q_range2, q_iseq, q_ienum, q_call, q_cb, q_ncb, q_nop, q_lenset, q_mt, q_mt0, q_setix, q_augs, q_aug, q_nsl, q_onone, q_osome, q_gsl, q_raise, q_raiseF, q_try, q_lc, q_lc2, q_yes, q_wipe0, q_wipe, q_xf, q_I, q_I0, q_U, q_add, q_addT, q_addL, q_addR, q_onL, q_onSt, q_onSl, q_onSs, q_onSrct, q_onSrcl, q_eqI, q_eqB, q_eqS, q_eqN, q_isN, q_ix, q_ixL, q_in, q_len, q_sum, q_max, q_min, q_max2, q_min2, q_abs, q_int, q_intB, q_tupof, q_lstof, q_sort, q_rep, q_cat, q_isi, q_isis, q_setat, q_onC, q_append, q_pop, q_popAt, q_reverse, q_insert, q_sp1, q_sp2, q_sp3, q_sp4, q_at0, q_atS, q_st0, q_stS, q_iteT, q_iteF, q_isB, q_sumS, q_all, q_any, q_repT, q_spV, q_nLcX, q_sFz, q_gFld, q_sFldD, q_gMake, q_gCallI, q_gMeth, q_gRev, sp__law_over]
  have su1 : one.sum < 2 ^ 250 := by have := d.2.2.2.2.2.2.2.1; omega
  have su2 : other.sum < 2 ^ 250 := by have := d.2.2.2.2.2.2.2.2; omega
  refine ⟨one, other, rows2 RowD.lst RowD.lst hl L p1 p2 su1 su2, other, one, rows2 RowD.lst RowD.lst hl.symm (by omega) p2 p1 su2 su1, l2 _ _, ?_⟩
  have H1 := most_len one n
  have H2 := most_len other n
  have H3 := least_len one n
  have H4 := least_len other n
  have q1 := most_nn p1 n
  have q2 := most_nn p2 n
  have q3 := least_nn p1 n
  have q4 := least_nn p2 n
  have t1 := most_sum (a := one) n1
  have t2 := most_sum (a := other) n1
  have t3 := least_sum (a := one) n1
  have t4 := least_sum (a := other) n1
  have u1 : 0 < one.sum ^ n := Int.pow_pos d.2.2.2.2.2.1
  have u2 : 0 < other.sum ^ n := Int.pow_pos d.2.2.2.2.2.2.1
  have v1 := c1.2.2
  have v2 := c2.2.2
  have o1 := over_most n1 p1 p2 hl
  have o2 := over_most n1 p2 p1 hl.symm
  have o3 := over_least n1 p1 p2 hl
  have o4 := over_least n1 p2 p1 hl.symm
  -- the two pairs, alike
  have pairs : ∀ pr ∈ [(mostL one n, mostL other n), (leastL one n, leastL other n)], pr.1.length = pr.2.length ∧ pr.1.length < 1000 ∧ Nn pr.1 ∧ Nn pr.2 ∧ 0 < pr.1.sum ∧ 0 < pr.2.sum ∧ pr.1.sum < 2 ^ 250 ∧ pr.2.sum < 2 ^ 250 ∧ overB pr.1 pr.2 = overB one other ∧ overB pr.2 pr.1 = overB other one := fun pr hp => by
    rcases List.mem_cons.mp hp with rfl | hp
    · exact ⟨by dsimp only; omega, by dsimp only; omega, q1, q2, by dsimp only; omega, by dsimp only; omega, by dsimp only; omega, by dsimp only; omega, o1, o2⟩
    · rw [List.mem_singleton.mp hp]
      exact ⟨by dsimp only; omega, by dsimp only; omega, q3, q4, by dsimp only; omega, by dsimp only; omega, by dsimp only; omega, by dsimp only; omega, o3, o4⟩
  refine loop_map (fun pr : List Int × List Int => D.lst [.tup (iD pr.1), .tup (iD pr.2)]) [(mostL one n, mostL other n), (leastL one n, leastL other n)] (fun s ρ M' => (∃ a b, ρ = [some (.lst (iD one)), some (.lst (iD other)), some (.int (n : Nat)), some (.obj (He.ga K "Greatest") [("count", .int (n : Nat))]), some (.obj (He.ga K "Least") [("count", .int (n : Nat))]), some (.lst [.tup (iD (mostL one n)), .tup (iD (mostL other n))]), some (.lst [.tup (iD (leastL one n)), .tup (iD (leastL other n))]), some (.bl (overB one other)), some (.bl (overB other one)), a, b]) ∧ M' = M) (fun _ _ _ _ _ => trivial) ?_ ?_ ⟨⟨_, _, rfl⟩, rfl⟩
  · rintro s ⟨u, v⟩ ρ M' hpr ⟨⟨a, b, rfl⟩, rfl⟩ Nx hN
    obtain ⟨k1, k2, k3, k4, k5, k6, k7, k8, k9, k10⟩ := pairs _ (List.mem_of_getElem? hpr)
    dsimp only at k1 k2 k3 k4 k5 k6 k7 k8 k9 k10
    (try dsimp only [q_op, q_un, q_var, q_c, q_nil, q_cons, q_tup, q_frz, q_cel, q_lst, q_test, q_onB, q_and, q_or, q_not, q_andV, q_orV, q_notV, q_if, q_chain, q_next, q_seq, q_drop, q_ret, q_retF, q_retN, q_sif, q_break, q_cont, q_name, q_dnil, q_dcons, q_dtup, q_asg, q_set, q_par, q_for, q_range1, q_range2, q_iseq, q_ienum, q_call, q_cb, q_ncb, q_nop, q_lenset, q_mt, q_mt0, q_setix, q_augs, q_aug, q_nsl, q_onone, q_osome, q_gsl, q_raise, q_raiseF, q_try, q_lc, q_lc2, q_yes, q_wipe0, q_wipe, q_xf, q_I, q_I0, q_U, q_add, q_addT, q_addL, q_addR, q_onL, q_onSt, q_onSl, q_onSs, q_onSrct, q_onSrcl, q_eqI, q_eqB, q_eqS, q_eqN, q_isN, q_ix, q_ixL, q_in, q_len, q_sum, q_max, q_min, q_max2, q_min2, q_abs, q_int, q_intB, q_tupof, q_lstof, q_sort, q_rep, q_cat, q_isi, q_isis, q_setat, q_onC, q_append, q_pop, q_popAt, q_reverse, q_insert, q_sp1, q_sp2, q_sp3, q_sp4, q_at0, q_atS, q_st0, q_stS, q_iteT, q_iteF, q_isB, q_sumS, q_all, q_any, q_repT, q_spV, q_nLcX, q_sFz, q_gFld, q_sFldD, q_gMake, q_gCallI, q_gMeth, q_gRev])
    dsimp only [q_op, q_un, q_var, q_c, q_nil, q_cons, q_tup, q_frz, q_cel, q_lst, q_test, q_onB, q_and, q_or, q_not, q_andV, q_orV, q_notV, q_if, q_chain, q_next, q_seq, q_drop, q_ret, q_retF, q_retN, q_sif, q_break, q_cont, q_name, q_dnil, q_dcons, q_dtup, q_asg, q_set, q_par, q_for, q_range1, q_range2, q_iseq, q_ienum, q_call, q_cb, q_ncb, q_nop, q_lenset, q_mt, q_mt0, q_setix, q_augs, q_aug, q_nsl, q_onone, q_osome, q_gsl, q_raise, q_raiseF, q_try, q_lc, q_lc2, q_yes, q_wipe0, q_wipe, q_xf, q_I, q_I0, q_U, q_add, q_addT, q_addL, q_addR, q_onL, q_onSt, q_onSl, q_onSs, q_onSrct, q_onSrcl, q_eqI, q_eqB, q_eqS, q_eqN, q_isN, q_ix, q_ixL, q_in, q_len, q_sum, q_max, q_min, q_max2, q_min2, q_abs, q_int, q_intB, q_tupof, q_lstof, q_sort, q_rep, q_cat, q_isi, q_isis, q_setat, q_onC, q_append, q_pop, q_popAt, q_reverse, q_insert, q_sp1, q_sp2, q_sp3, q_sp4, q_at0, q_atS, q_st0, q_stS, q_iteT, q_iteF, q_isB, q_sumS, q_all, q_any, q_repT, q_spV, q_nLcX, q_sFz, q_gFld, q_sFldD, q_gMake, q_gCallI, q_gMeth, q_gRev, sp__law_stands, sp_lead, sp__law_lead, sp__law_sign]
    refine ⟨_, rfl, .tuple, true, rfl, rfl, ?_⟩
    (try dsimp only [q_op, q_un, q_var, q_c, q_nil, q_cons, q_tup, q_frz, q_cel, q_lst, q_test, q_onB, q_and, q_or, q_not, q_andV, q_orV, q_notV, q_if, q_chain, q_next, q_seq, q_drop, q_ret, q_retF, q_retN, q_sif, q_break, q_cont, q_name, q_dnil, q_dcons, q_dtup, q_asg, q_set, q_par, q_for, q_range1, q_range2, q_iseq, q_ienum, q_call, q_cb, q_ncb, q_nop, q_lenset, q_mt, q_mt0, q_setix, q_augs, q_aug, q_nsl, q_onone, q_osome, q_gsl, q_raise, q_raiseF, q_try, q_lc, q_lc2, q_yes, q_wipe0, q_wipe, q_xf, q_I, q_I0, q_U, q_add, q_addT, q_addL, q_addR, q_onL, q_onSt, q_onSl, q_onSs, q_onSrct, q_onSrcl, q_eqI, q_eqB, q_eqS, q_eqN, q_isN, q_ix, q_ixL, q_in, q_len, q_sum, q_max, q_min, q_max2, q_min2, q_abs, q_int, q_intB, q_tupof, q_lstof, q_sort, q_rep, q_cat, q_isi, q_isis, q_setat, q_onC, q_append, q_pop, q_popAt, q_reverse, q_insert, q_sp1, q_sp2, q_sp3, q_sp4, q_at0, q_atS, q_st0, q_stS, q_iteT, q_iteF, q_isB, q_sumS, q_all, q_any, q_repT, q_spV, q_nLcX, q_sFz, q_gFld, q_sFldD, q_gMake, q_gCallI, q_gMeth, q_gRev])
    refine if_f (by rfl) ⟨_, rfl, .tuple, true, rfl, rfl, ?_⟩
    (try dsimp only [q_op, q_un, q_var, q_c, q_nil, q_cons, q_tup, q_frz, q_cel, q_lst, q_test, q_onB, q_and, q_or, q_not, q_andV, q_orV, q_notV, q_if, q_chain, q_next, q_seq, q_drop, q_ret, q_retF, q_retN, q_sif, q_break, q_cont, q_name, q_dnil, q_dcons, q_dtup, q_asg, q_set, q_par, q_for, q_range1, q_range2, q_iseq, q_ienum, q_call, q_cb, q_ncb, q_nop, q_lenset, q_mt, q_mt0, q_setix, q_augs, q_aug, q_nsl, q_onone, q_osome, q_gsl, q_raise, q_raiseF, q_try, q_lc, q_lc2, q_yes, q_wipe0, q_wipe, q_xf, q_I, q_I0, q_U, q_add, q_addT, q_addL, q_addR, q_onL, q_onSt, q_onSl, q_onSs, q_onSrct, q_onSrcl, q_eqI, q_eqB, q_eqS, q_eqN, q_isN, q_ix, q_ixL, q_in, q_len, q_sum, q_max, q_min, q_max2, q_min2, q_abs, q_int, q_intB, q_tupof, q_lstof, q_sort, q_rep, q_cat, q_isi, q_isis, q_setat, q_onC, q_append, q_pop, q_popAt, q_reverse, q_insert, q_sp1, q_sp2, q_sp3, q_sp4, q_at0, q_atS, q_st0, q_stS, q_iteT, q_iteF, q_isB, q_sumS, q_all, q_any, q_repT, q_spV, q_nLcX, q_sFz, q_gFld, q_sFldD, q_gMake, q_gCallI, q_gMeth, q_gRev])
    have RR := rows2 (M := M') (a := .tup (iD u)) (b := .tup (iD v)) RowD.tup RowD.tup k1 k2 k3 k4 k7 k8
    have RR2 := rows2 (M := M') (a := .tup (iD v)) (b := .tup (iD u)) RowD.tup RowD.tup k1.symm (by omega) k4 k3 k8 k7
    refine if_f (by rfl) ⟨_, rfl, _, rfl, u, v, overB one other, RR, k3, k4, k5, k6, rfl, ?_⟩
    rw [k9]
    (try dsimp only [q_op, q_un, q_var, q_c, q_nil, q_cons, q_tup, q_frz, q_cel, q_lst, q_test, q_onB, q_and, q_or, q_not, q_andV, q_orV, q_notV, q_if, q_chain, q_next, q_seq, q_drop, q_ret, q_retF, q_retN, q_sif, q_break, q_cont, q_name, q_dnil, q_dcons, q_dtup, q_asg, q_set, q_par, q_for, q_range1, q_range2, q_iseq, q_ienum, q_call, q_cb, q_ncb, q_nop, q_lenset, q_mt, q_mt0, q_setix, q_augs, q_aug, q_nsl, q_onone, q_osome, q_gsl, q_raise, q_raiseF, q_try, q_lc, q_lc2, q_yes, q_wipe0, q_wipe, q_xf, q_I, q_I0, q_U, q_add, q_addT, q_addL, q_addR, q_onL, q_onSt, q_onSl, q_onSs, q_onSrct, q_onSrcl, q_eqI, q_eqB, q_eqS, q_eqN, q_isN, q_ix, q_ixL, q_in, q_len, q_sum, q_max, q_min, q_max2, q_min2, q_abs, q_int, q_intB, q_tupof, q_lstof, q_sort, q_rep, q_cat, q_isi, q_isis, q_setat, q_onC, q_append, q_pop, q_popAt, q_reverse, q_insert, q_sp1, q_sp2, q_sp3, q_sp4, q_at0, q_atS, q_st0, q_stS, q_iteT, q_iteF, q_isB, q_sumS, q_all, q_any, q_repT, q_spV, q_nLcX, q_sFz, q_gFld, q_sFldD, q_gMake, q_gCallI, q_gMeth, q_gRev])
    refine if_f (by simp) ⟨_, rfl, _, rfl, v, u, overB other one, RR2, k4, k3, k6, k5, rfl, ?_⟩
    rw [k10]
    (try dsimp only [q_op, q_un, q_var, q_c, q_nil, q_cons, q_tup, q_frz, q_cel, q_lst, q_test, q_onB, q_and, q_or, q_not, q_andV, q_orV, q_notV, q_if, q_chain, q_next, q_seq, q_drop, q_ret, q_retF, q_retN, q_sif, q_break, q_cont, q_name, q_dnil, q_dcons, q_dtup, q_asg, q_set, q_par, q_for, q_range1, q_range2, q_iseq, q_ienum, q_call, q_cb, q_ncb, q_nop, q_lenset, q_mt, q_mt0, q_setix, q_augs, q_aug, q_nsl, q_onone, q_osome, q_gsl, q_raise, q_raiseF, q_try, q_lc, q_lc2, q_yes, q_wipe0, q_wipe, q_xf, q_I, q_I0, q_U, q_add, q_addT, q_addL, q_addR, q_onL, q_onSt, q_onSl, q_onSs, q_onSrct, q_onSrcl, q_eqI, q_eqB, q_eqS, q_eqN, q_isN, q_ix, q_ixL, q_in, q_len, q_sum, q_max, q_min, q_max2, q_min2, q_abs, q_int, q_intB, q_tupof, q_lstof, q_sort, q_rep, q_cat, q_isi, q_isis, q_setat, q_onC, q_append, q_pop, q_popAt, q_reverse, q_insert, q_sp1, q_sp2, q_sp3, q_sp4, q_at0, q_atS, q_st0, q_stS, q_iteT, q_iteF, q_isB, q_sumS, q_all, q_any, q_repT, q_spV, q_nLcX, q_sFz, q_gFld, q_sFldD, q_gMake, q_gCallI, q_gMeth, q_gRev])
    refine if_f (by simp) ⟨_, rfl, _, rfl, twoC_good ⟨k2, fun x hx => ⟨k3 x hx, RR.2.2.2.2.1 x hx⟩, k5⟩ ⟨by omega, fun x hx => ⟨k4 x hx, RR.2.2.2.2.2 x hx⟩, k6⟩ RowD.tup RowD.tup k1 ⟨_, rfl, _, rfl, u, v, RR, ?_⟩⟩
    (try dsimp only [q_op, q_un, q_var, q_c, q_nil, q_cons, q_tup, q_frz, q_cel, q_lst, q_test, q_onB, q_and, q_or, q_not, q_andV, q_orV, q_notV, q_if, q_chain, q_next, q_seq, q_drop, q_ret, q_retF, q_retN, q_sif, q_break, q_cont, q_name, q_dnil, q_dcons, q_dtup, q_asg, q_set, q_par, q_for, q_range1, q_range2, q_iseq, q_ienum, q_call, q_cb, q_ncb, q_nop, q_lenset, q_mt, q_mt0, q_setix, q_augs, q_aug, q_nsl, q_onone, q_osome, q_gsl, q_raise, q_raiseF, q_try, q_lc, q_lc2, q_yes, q_wipe0, q_wipe, q_xf, q_I, q_I0, q_U, q_add, q_addT, q_addL, q_addR, q_onL, q_onSt, q_onSl, q_onSs, q_onSrct, q_onSrcl, q_eqI, q_eqB, q_eqS, q_eqN, q_isN, q_ix, q_ixL, q_in, q_len, q_sum, q_max, q_min, q_max2, q_min2, q_abs, q_int, q_intB, q_tupof, q_lstof, q_sort, q_rep, q_cat, q_isi, q_isis, q_setat, q_onC, q_append, q_pop, q_popAt, q_reverse, q_insert, q_sp1, q_sp2, q_sp3, q_sp4, q_at0, q_atS, q_st0, q_stS, q_iteT, q_iteF, q_isB, q_sumS, q_all, q_any, q_repT, q_spV, q_nLcX, q_sFz, q_gFld, q_sFldD, q_gMake, q_gCallI, q_gMeth, q_gRev])
    have fin := hN [some (.lst (iD one)), some (.lst (iD other)), some (.int (n : Nat)), some (.obj (He.ga K "Greatest") [("count", .int (n : Nat))]), some (.obj (He.ga K "Least") [("count", .int (n : Nat))]), some (.lst [.tup (iD (mostL one n)), .tup (iD (mostL other n))]), some (.lst [.tup (iD (leastL one n)), .tup (iD (leastL other n))]), some (.bl (overB one other)), some (.bl (overB other one)), some (.lst [.tup (iD u), .tup (iD v)]), some (.int (leadI u v))] M' ⟨⟨_, _, rfl⟩, rfl⟩
    have A := lead_over k1 k3 k4 k6
    have B := lead_over k1.symm k4 k3 k5
    rw [k9, k10] at A B
    have f1 : overB one other = true → overB other one = false → 0 < leadI u v := fun h => (A h).2.1
    have f2 : overB one other = true → overB other one = true → leadI u v = 0 := fun h => (A h).2.2
    have f3 : overB one other = false → overB other one = true → leadI u v < 0 := fun h1 h2 => by
      have := (B h2).2.1 h1
      rw [lead_neg] at this
      omega
    clear A B k9 k10 RR RR2 pairs o1 o2 o3 o4 hpr hN
    refine if_f (by rw [decide_eq_true rfl]; rfl) ?_
    generalize leadI u v = ℓ at *
    generalize overB one other = o at *
    generalize overB other one = w at *
    cases o with
    | true =>
      cases w with
      | true =>
        have z := f2 rfl rfl
        subst z
        exact if_t rfl ⟨_, rfl, if_f (by rfl) (if_t rfl ⟨_, rfl, if_f (by rfl) fin⟩)⟩
      | false => exact if_t rfl ⟨_, rfl, if_f (by rw [if_pos (f1 rfl rfl)]; rfl) (if_f rfl (if_f rfl fin))⟩
    | false =>
      cases w with
      | true => exact if_f rfl (if_f rfl (if_t rfl ⟨_, rfl, if_f (by rw [if_neg (by have := f3 rfl rfl; omega), if_pos (f3 rfl rfl)]; rfl) fin⟩))
      | false => exact if_f rfl (if_f rfl (if_f rfl (if_f rfl fin)))
  · rintro ρ M' ⟨⟨a, b, rfl⟩, rfl⟩
    generalize hT3 : (sRet (gAndV _ _) : DS) = T3
    (try dsimp only [q_op, q_un, q_var, q_c, q_nil, q_cons, q_tup, q_frz, q_cel, q_lst, q_test, q_onB, q_and, q_or, q_not, q_andV, q_orV, q_notV, q_if, q_chain, q_next, q_seq, q_drop, q_ret, q_retF, q_retN, q_sif, q_break, q_cont, q_name, q_dnil, q_dcons, q_dtup, q_asg, q_set, q_par, q_for, q_range1, q_range2, q_iseq, q_ienum, q_call, q_cb, q_ncb, q_nop, q_lenset, q_mt, q_mt0, q_setix, q_augs, q_aug, q_nsl, q_onone, q_osome, q_gsl, q_raise, q_raiseF, q_try, q_lc, q_lc2, q_yes, q_wipe0, q_wipe, q_xf, q_I, q_I0, q_U, q_add, q_addT, q_addL, q_addR, q_onL, q_onSt, q_onSl, q_onSs, q_onSrct, q_onSrcl, q_eqI, q_eqB, q_eqS, q_eqN, q_isN, q_ix, q_ixL, q_in, q_len, q_sum, q_max, q_min, q_max2, q_min2, q_abs, q_int, q_intB, q_tupof, q_lstof, q_sort, q_rep, q_cat, q_isi, q_isis, q_setat, q_onC, q_append, q_pop, q_popAt, q_reverse, q_insert, q_sp1, q_sp2, q_sp3, q_sp4, q_at0, q_atS, q_st0, q_stS, q_iteT, q_iteF, q_isB, q_sumS, q_all, q_any, q_repT, q_spV, q_nLcX, q_sFz, q_gFld, q_sFldD, q_gMake, q_gCallI, q_gMeth, q_gRev])
    by_cases c6 : 6 < n
    · exact if_t (decide_eq_true (by omega)) (if_t rfl q)
    have nn : n * n ≤ 36 := Nat.mul_le_mul (show n ≤ 6 by omega) (show n ≤ 6 by omega)
    refine if_f (decide_eq_false (by omega)) ⟨one, rfl, cmul (a := 4) (b := 4) (by unfold nb; omega) (by unfold nb; omega), ?_⟩
    dsimp only [sp__law_power]
    refine ⟨one.sum, n * n, rfl, rfl, by omega, nb_mono (show nb 7 one.sum by have := d.2.2.2.2.2.1; have := d.2.2.2.2.2.2.2.1; unfold nb; omega) (by decide), by unfold CPow; decide, ?_⟩
    (try dsimp only [q_op, q_un, q_var, q_c, q_nil, q_cons, q_tup, q_frz, q_cel, q_lst, q_test, q_onB, q_and, q_or, q_not, q_andV, q_orV, q_notV, q_if, q_chain, q_next, q_seq, q_drop, q_ret, q_retF, q_retN, q_sif, q_break, q_cont, q_name, q_dnil, q_dcons, q_dtup, q_asg, q_set, q_par, q_for, q_range1, q_range2, q_iseq, q_ienum, q_call, q_cb, q_ncb, q_nop, q_lenset, q_mt, q_mt0, q_setix, q_augs, q_aug, q_nsl, q_onone, q_osome, q_gsl, q_raise, q_raiseF, q_try, q_lc, q_lc2, q_yes, q_wipe0, q_wipe, q_xf, q_I, q_I0, q_U, q_add, q_addT, q_addL, q_addR, q_onL, q_onSt, q_onSl, q_onSs, q_onSrct, q_onSrcl, q_eqI, q_eqB, q_eqS, q_eqN, q_isN, q_ix, q_ixL, q_in, q_len, q_sum, q_max, q_min, q_max2, q_min2, q_abs, q_int, q_intB, q_tupof, q_lstof, q_sort, q_rep, q_cat, q_isi, q_isis, q_setat, q_onC, q_append, q_pop, q_popAt, q_reverse, q_insert, q_sp1, q_sp2, q_sp3, q_sp4, q_at0, q_atS, q_st0, q_stS, q_iteT, q_iteF, q_isB, q_sumS, q_all, q_any, q_repT, q_spV, q_nLcX, q_sFz, q_gFld, q_sFldD, q_gMake, q_gCallI, q_gMeth, q_gRev])
    by_cases c7 : (10 : Int) ^ Int.toNat 60 < one.sum ^ (n * n)
    · exact if_t (decide_eq_true c7) q
    refine if_f (decide_eq_false c7) ?_
    rw [← hT3]
    dsimp only [q_op, q_un, q_var, q_c, q_nil, q_cons, q_tup, q_frz, q_cel, q_lst, q_test, q_onB, q_and, q_or, q_not, q_andV, q_orV, q_notV, q_if, q_chain, q_next, q_seq, q_drop, q_ret, q_retF, q_retN, q_sif, q_break, q_cont, q_name, q_dnil, q_dcons, q_dtup, q_asg, q_set, q_par, q_for, q_range1, q_range2, q_iseq, q_ienum, q_call, q_cb, q_ncb, q_nop, q_lenset, q_mt, q_mt0, q_setix, q_augs, q_aug, q_nsl, q_onone, q_osome, q_gsl, q_raise, q_raiseF, q_try, q_lc, q_lc2, q_yes, q_wipe0, q_wipe, q_xf, q_I, q_I0, q_U, q_add, q_addT, q_addL, q_addR, q_onL, q_onSt, q_onSl, q_onSs, q_onSrct, q_onSrcl, q_eqI, q_eqB, q_eqS, q_eqN, q_isN, q_ix, q_ixL, q_in, q_len, q_sum, q_max, q_min, q_max2, q_min2, q_abs, q_int, q_intB, q_tupof, q_lstof, q_sort, q_rep, q_cat, q_isi, q_isis, q_setat, q_onC, q_append, q_pop, q_popAt, q_reverse, q_insert, q_sp1, q_sp2, q_sp3, q_sp4, q_at0, q_atS, q_st0, q_stS, q_iteT, q_iteF, q_isB, q_sumS, q_all, q_any, q_repT, q_spV, q_nLcX, q_sFz, q_gFld, q_sFldD, q_gMake, q_gCallI, q_gMeth, q_gRev, sp_Greatest_call, sp_Least_call, sp__law_stands]
    have e60 : (10 : Int) ^ Int.toNat 60 < 2 ^ 250 := by decide
    have sq : (one.sum ^ n) ^ n = one.sum ^ (n * n) := (Int.pow_mul ..).symm
    have ps := pow_small (n := n) (show 0 ≤ one.sum by have := d.2.2.2.2.2.1; omega) d.2.2.2.2.2.2.2.1 n9
    have g1 : Good M' (.tup (iD (mostL one n))) (mostL one n) := ⟨RowD.tup, by omega, q1, by omega, by omega⟩
    have g2 : Good M' (.tup (iD (leastL one n))) (leastL one n) := ⟨RowD.tup, by omega, q3, by omega, by omega⟩
    have cc1 : CntOk (mostL one n) n := ⟨n1, n9, by rw [t1, sq]; omega⟩
    have cc2 : CntOk (leastL one n) n := ⟨n1, n9, by rw [t3, sq]; omega⟩
    have p0 : 0 < one.sum ^ (n * n) := Int.pow_pos d.2.2.2.2.2.1
    have z1 : (mostL (mostL one n) n).sum = one.sum ^ (n * n) := by rw [most_sum n1, t1, sq]
    have z2 : (leastL (leastL one n) n).sum = one.sum ^ (n * n) := by rw [least_sum n1, t3, sq]
    have y1 := most_len (mostL one n) n
    have y2 := least_len (leastL one n) n
    refine ⟨⟨_, .inl rfl⟩, ⟨_, .inl rfl⟩, ⟨_, .inl rfl⟩, one, n, rfl, d.good RowD.lst, c1, ⟨_, .inl rfl⟩, mostL one n, n, rfl, g1, cc1, ⟨_, .inl rfl⟩, ⟨_, .inl rfl⟩, one, n, rfl, d.good RowD.lst, c1, ?_⟩
    refine ⟨mostL (mostL one n) n, mostL one n, true, rows2 RowD.tup RowD.tup y1 (by omega) (most_nn q1 n) q1 (by omega) (by omega), most_nn q1 n, q1, by omega, by omega, rfl, ?_⟩
    rw [most_most n1 n1, over_more n1 (Nat.le_mul_of_pos_right n n1) p1 d.2.2.2.2.2.1]
    (try dsimp only [q_op, q_un, q_var, q_c, q_nil, q_cons, q_tup, q_frz, q_cel, q_lst, q_test, q_onB, q_and, q_or, q_not, q_andV, q_orV, q_notV, q_if, q_chain, q_next, q_seq, q_drop, q_ret, q_retF, q_retN, q_sif, q_break, q_cont, q_name, q_dnil, q_dcons, q_dtup, q_asg, q_set, q_par, q_for, q_range1, q_range2, q_iseq, q_ienum, q_call, q_cb, q_ncb, q_nop, q_lenset, q_mt, q_mt0, q_setix, q_augs, q_aug, q_nsl, q_onone, q_osome, q_gsl, q_raise, q_raiseF, q_try, q_lc, q_lc2, q_yes, q_wipe0, q_wipe, q_xf, q_I, q_I0, q_U, q_add, q_addT, q_addL, q_addR, q_onL, q_onSt, q_onSl, q_onSs, q_onSrct, q_onSrcl, q_eqI, q_eqB, q_eqS, q_eqN, q_isN, q_ix, q_ixL, q_in, q_len, q_sum, q_max, q_min, q_max2, q_min2, q_abs, q_int, q_intB, q_tupof, q_lstof, q_sort, q_rep, q_cat, q_isi, q_isis, q_setat, q_onC, q_append, q_pop, q_popAt, q_reverse, q_insert, q_sp1, q_sp2, q_sp3, q_sp4, q_at0, q_atS, q_st0, q_stS, q_iteT, q_iteF, q_isB, q_sumS, q_all, q_any, q_repT, q_spV, q_nLcX, q_sFz, q_gFld, q_sFldD, q_gMake, q_gCallI, q_gMeth, q_gRev])
    refine if_t (by rfl) ⟨⟨_, .inl rfl⟩, ⟨_, .inl rfl⟩, one, n, rfl, d.good RowD.lst, c1, ⟨_, .inl rfl⟩, ⟨_, .inl rfl⟩, ⟨_, .inl rfl⟩, one, n, rfl, d.good RowD.lst, c1, ⟨_, .inl rfl⟩, leastL one n, n, rfl, g2, cc2, ?_⟩
    refine ⟨leastL one n, leastL (leastL one n) n, true, rows2 RowD.tup RowD.tup y2.symm (by omega) q3 (least_nn q3 n) (by omega) (by omega), q3, least_nn q3 n, by omega, by omega, rfl, ?_⟩
    rw [least_least n1 n1, least_less n1 (Nat.le_mul_of_pos_right n n1) p1 d.2.2.2.2.2.1]
    exact q
end
end LW

namespace LW
open PySem PySem.Spec PyProof.Rows L2 DL
section
variable {K : PySem.W.Frag} {mg : Str → Option Value}
theorem frac_le {t b u v : Int} (hb : 0 < b) (hv : 0 < v) (h : t * v ≤ u * b) : (lo t b).1 * (lo u v).2 ≤ (lo u v).1 * (lo t b).2 := by
  have g1 : (0 : Int) < (Int.gcd t b : Nat) := by have := g_pos (t := t) hb; omega
  have g2 : (0 : Int) < (Int.gcd u v : Nat) := by have := g_pos (t := u) hv; omega
  have e1 := lo_top t b
  have e2 := lo_bot t b
  have e3 := lo_top u v
  have e4 := lo_bot u v
  generalize (lo t b).1 = x at *
  generalize (lo t b).2 = y at *
  generalize (lo u v).1 = z at *
  generalize (lo u v).2 = w at *
  generalize ((Int.gcd t b : Nat) : Int) = g at *
  generalize ((Int.gcd u v : Nat) : Int) = k at *
  rw [← e1, ← e2, ← e3, ← e4] at h
  rw [show x * g * (w * k) = x * w * (g * k) by ac_rfl, show z * k * (y * g) = z * y * (g * k) by ac_rfl] at h
  exact Int.le_of_mul_le_mul_right h (Int.mul_pos g1 g2)
/-- wins of the greatest of n throws, and of how many -/
theorem chance_up {one other : List Int} {n : Nat} (d : Drawn one other) (n1 : 1 ≤ n) : winsI (mostL one n) other * (one.sum ^ (n + 1) * other.sum) ≤ winsI (mostL one (n + 1)) other * (one.sum ^ n * other.sum) := by
  have h := wins_over (a := mostL one n) (c := mostL one (n + 1)) (b := other) (by rw [most_len]; exact d.2.2.1) (by rw [most_len]; exact d.2.2.1) d.2.2.2.2.1 (over_more n1 (Nat.le_succ n) d.2.2.2.1 d.2.2.2.2.2.1)
  rw [most_sum n1, most_sum (by omega : 1 ≤ n + 1)] at h
  have := Int.mul_le_mul_of_nonneg_right h (Int.le_of_lt d.2.2.2.2.2.2.1)
  rw [show winsI (mostL one n) other * (one.sum ^ (n + 1) * other.sum) = one.sum ^ (n + 1) * winsI (mostL one n) other * other.sum by ac_rfl, show winsI (mostL one (n + 1)) other * (one.sum ^ n * other.sum) = one.sum ^ n * winsI (mostL one (n + 1)) other * other.sum by ac_rfl]
  exact this
theorem most_one (a : List Int) : mostL a 1 = a := by
  refine List.ext_getElem (most_len a 1) fun i h1 h2 => ?_
  have := most_get (a := a) (n := 1) (i := i) h2
  rw [Int.pow_succ, Int.pow_zero, Int.one_mul, Int.pow_succ, Int.pow_zero, Int.one_mul, pre_succ] at this
  rw [List.getD_eq_getElem?_getD, List.getElem?_eq_getElem h1, List.getD_eq_getElem?_getD, List.getElem?_eq_getElem h2] at this
  show (mostL a 1)[i] = a[i]
  have e : (some (mostL a 1)[i]).getD 0 = (mostL a 1)[i] := rfl
  have e2 : (some a[i]).getD 0 = a[i] := rfl
  rw [e, e2] at this
  omega
theorem wins_nn {a b : List Int} (ha : Nn a) (hb : Nn b) : 0 ≤ winsI a b := S1_nn fun i _ => Int.mul_nonneg (ha.getD i) (pre_nn hb i)
/-- how great these are -/
theorem win_nb {one other : List Int} {n m : Nat} (d : Drawn one other) (n1 : 1 ≤ n) (n9 : n ≤ 9) (m1 : 1 ≤ m) (m9 : m ≤ 9) : nb 200 (winsI (mostL one n) (mostL other m)) ∧ nb 200 (one.sum ^ n * other.sum ^ m) ∧ 0 < one.sum ^ n * other.sum ^ m := by
  have c1 := pow_small (n := n) (show 0 ≤ one.sum by have := d.2.2.2.2.2.1; omega) d.2.2.2.2.2.2.2.1 n9
  have c2 := pow_small (n := m) (show 0 ≤ other.sum by have := d.2.2.2.2.2.2.1; omega) d.2.2.2.2.2.2.2.2 m9
  have p1 : 0 < one.sum ^ n := Int.pow_pos d.2.2.2.2.2.1
  have p2 : 0 < other.sum ^ m := Int.pow_pos d.2.2.2.2.2.2.1
  have x1 : ∀ x ∈ mostL one n, nb 60 x := nn_nb (most_nn d.2.2.2.1 n) (by rw [most_sum n1]; exact c1)
  have x2 : ∀ x ∈ mostL other m, nb 60 x := nn_nb (most_nn d.2.2.2.2.1 m) (by rw [most_sum m1]; exact c2)
  have l1 := most_len one n
  have l2 := most_len other m
  have := d.2.1
  have := d.2.2.1
  refine ⟨nb_mono (nb_wins x1 x2 (by omega) (by omega)) (by decide), nb_mono (nb_mul (show nb 60 (one.sum ^ n) by unfold nb; omega) (show nb 60 (other.sum ^ m) by unfold nb; omega)) (by decide), Int.mul_pos p1 p2⟩
theorem b__law_two_right : ∀ d0 d1 d2 d3 M Q E, sp__law_two_right K [d0, d1, d2, d3] M Q E → g__law_two_right K { nx := fun _ M => Q .non M, rt := Q, ex := fun x _ M => E x M } [some d0, some d1, some d2, some d3, none, none, none] M := by
  rintro d0 d1 d2 d3 M Q E ⟨one, other, n, m, rfl, rfl, rfl, rfl, d, n1, n9, m1, m9, q⟩
  have p1 : Nn one := d.2.2.2.1
  have p2 : Nn other := d.2.2.2.2.1
  have hl : one.length = other.length := d.2.2.1
  have L : one.length < 1000 := by have := d.2.1; omega
  have pp1 : ∀ j, nb 300 (pre one j) := fun j => nb_mono (nb_mostpre (n := n) p1 (by have := d.2.2.2.2.2.2.2.1; omega) j) (by decide)
  have pp2 : ∀ j, nb 300 (pre other j) := fun j => nb_mono (nb_mostpre (n := n) p2 (by have := d.2.2.2.2.2.2.2.2; omega) j) (by decide)
  obtain ⟨w1, w2, w3⟩ := win_nb d n1 n9 m1 m9
  have l1 := most_len one n
  have l2 := most_len other m
  have c1 := d.cnt n1 n9
  have c2 := d.symm.cnt m1 m9
  unfold g__law_two_right
  dsimp only [q_op, q_un, q_var, q_c, q_nil, q_cons, q_tup, q_frz, q_cel, q_lst, q_test, q_onB, q_and, q_or, q_not, q_andV, q_orV, q_notV, q_if, q_chain, q_next, q_seq, q_drop, q_ret, q_retF, q_retN, q_sif, q_break, q_cont, q_name, q_dnil, q_dcons, q_dtup, q_asg, q_set, q_par, q_for, q_range1, q_range2, q_iseq, q_ienum, q_call, q_cb, q_ncb, q_nop, q_lenset, q_mt, q_mt0, q_setix, q_augs, q_aug, q_nsl, q_onone, q_osome, q_gsl, q_raise, q_raiseF, q_try, q_lc, q_lc2, q_yes, q_wipe0, q_wipe, q_xf, q_I, q_I0, q_U, q_add, q_addT, q_addL, q_addR, q_onL, q_onSt, q_onSl, q_onSs, q_onSrct, q_onSrcl, q_eqI, q_eqB, q_eqS, q_eqN, q_isN, q_ix, q_ixL, q_in, q_len, q_sum, q_max, q_min, q_max2, q_min2, q_abs, q_int, q_intB, q_tupof, q_lstof, q_sort, q_rep, q_cat, q_isi, q_isis, q_setat, q_onC, q_append, q_pop, q_popAt, q_reverse, q_insert, q_sp1, q_sp2, q_sp3, q_sp4, q_at0, q_atS, q_st0, q_stS, q_iteT, q_iteF, q_isB, q_sumS, q_all, q_any, q_repT, q_spV, q_nLcX, q_sFz, q_gFld, q_sFldD, q_gMake, q_gCallI, q_gMeth, q_gRev, sp_chance_of_two, sp__law_most, sp__law_is_fraction, sp__law_same_worth, sp__law_wins]
  refine .inl ⟨one, other, n, m, d.good RowD.lst, d.symm.good RowD.lst, c1, c2, rfl, rfl, ?_⟩
  rw [if_neg (by omega)]
  refine ⟨one, n, RowD.lst, L, pp1, n9, rfl, other, m, RowD.lst, by omega, pp2, m9, rfl, _, _, rfl, w3, nb_mono w2 (by decide), ?_⟩
  (try dsimp only [q_op, q_un, q_var, q_c, q_nil, q_cons, q_tup, q_frz, q_cel, q_lst, q_test, q_onB, q_and, q_or, q_not, q_andV, q_orV, q_notV, q_if, q_chain, q_next, q_seq, q_drop, q_ret, q_retF, q_retN, q_sif, q_break, q_cont, q_name, q_dnil, q_dcons, q_dtup, q_asg, q_set, q_par, q_for, q_range1, q_range2, q_iseq, q_ienum, q_call, q_cb, q_ncb, q_nop, q_lenset, q_mt, q_mt0, q_setix, q_augs, q_aug, q_nsl, q_onone, q_osome, q_gsl, q_raise, q_raiseF, q_try, q_lc, q_lc2, q_yes, q_wipe0, q_wipe, q_xf, q_I, q_I0, q_U, q_add, q_addT, q_addL, q_addR, q_onL, q_onSt, q_onSl, q_onSs, q_onSrct, q_onSrcl, q_eqI, q_eqB, q_eqS, q_eqN, q_isN, q_ix, q_ixL, q_in, q_len, q_sum, q_max, q_min, q_max2, q_min2, q_abs, q_int, q_intB, q_tupof, q_lstof, q_sort, q_rep, q_cat, q_isi, q_isis, q_setat, q_onC, q_append, q_pop, q_popAt, q_reverse, q_insert, q_sp1, q_sp2, q_sp3, q_sp4, q_at0, q_atS, q_st0, q_stS, q_iteT, q_iteF, q_isB, q_sumS, q_all, q_any, q_repT, q_spV, q_nLcX, q_sFz, q_gFld, q_sFldD, q_gMake, q_gCallI, q_gMeth, q_gRev])
  refine if_t (by rfl) ⟨mostL one n, mostL other m, rows2 RowD.lst RowD.lst (by omega) (by omega) (most_nn p1 n) (most_nn p2 m) (by rw [most_sum n1]; exact c1.2.2) (by rw [most_sum m1]; exact c2.2.2), _, rfl, _, rfl, ?_⟩
  rw [most_sum n1, most_sum m1]
  have sm1 := pow_small (n := n) (show 0 ≤ one.sum by have := d.2.2.2.2.2.1; omega) d.2.2.2.2.2.2.2.1 n9
  have sm2 := pow_small (n := m) (show 0 ≤ other.sum by have := d.2.2.2.2.2.2.1; omega) d.2.2.2.2.2.2.2.2 m9
  have k1 : 0 < one.sum ^ n := Int.pow_pos d.2.2.2.2.2.1
  have k2 : 0 < other.sum ^ m := Int.pow_pos d.2.2.2.2.2.2.1
  refine ⟨cmul (a := 60) (b := 60) (by unfold nb; omega) (by unfold nb; omega), by rw [sz]; show 2 ≤ 16777216; omega, (lo _ _).1, (lo _ _).2, _, _, rfl, rfl, nb_mono (lo_nb1 w3 w1) (by decide), nb_mono (lo_nb2 w3 w2) (by decide), nb_mono w1 (by decide), nb_mono w2 (by decide), ?_⟩
  rw [decide_eq_true (lo_cross _ _)]
  exact q
theorem b__law_rising : ∀ d0 d1 M Q E, sp__law_rising K [d0, d1] M Q E → g__law_rising K { nx := fun _ M => Q .non M, rt := Q, ex := fun x _ M => E x M } [some d0, some d1, none, none, none, none] M := by
  rintro d0 d1 M Q E ⟨one, other, rfl, rfl, d, q⟩
  have p1 : Nn one := d.2.2.2.1
  have p2 : Nn other := d.2.2.2.2.1
  have hl : one.length = other.length := d.2.2.1
  have L : one.length < 1000 := by have := d.2.1; omega
  have pp1 : ∀ j, nb 300 (pre one j) := fun j => nb_mono (nb_mostpre (n := 1) p1 (by have := d.2.2.2.2.2.2.2.1; omega) j) (by decide)
  have l2 : ∀ x y : D, [x, y].length ≤ sizeLine := fun x y => by rw [sz]; show 2 ≤ 16777216; omega
  unfold g__law_rising
  dsimp only [q_op, q_un, q_var, q_c, q_nil, q_cons, q_tup, q_frz, q_cel, q_lst, q_test, q_onB, q_and, q_or, q_not, q_andV, q_orV, q_notV, q_if, q_chain, q_next, q_seq, q_drop, q_ret, q_retF, q_retN, q_sif, q_break, q_cont, q_name, q_dnil, q_dcons, q_dtup, q_asg, q_set, q_par, q_for, q_range1, q_range2, q_iseq, q_ienum, q_call, q_cb, q_ncb, q_nop, q_lenset, q_mt, q_mt0, q_setix, q_augs, q_aug, q_nsl, q_onone, q_osome, q_gsl, q_raise, q_raiseF, q_try, q_lc, q_lc2, q_yes, q_wipe0, q_wipe, q_xf, q_I, q_I0, q_U, q_add, q_addT, q_addL, q_addR, q_onL, q_onSt, q_onSl, q_onSs, q_onSrct, q_onSrcl, q_eqI, q_eqB, q_eqS, q_eqN, q_isN, q_ix, q_ixL, q_in, q_len, q_sum, q_max, q_min, q_max2, q_min2, q_abs, q_int, q_intB, q_tupof, q_lstof, q_sort, q_rep, q_cat, q_isi, q_isis, q_setat, q_onC, q_append, q_pop, q_popAt, q_reverse, q_insert, q_sp1, q_sp2, q_sp3, q_sp4, q_at0, q_atS, q_st0, q_stS, q_iteT, q_iteF, q_isB, q_sumS, q_all, q_any, q_repT, q_spV, q_nLcX, q_sFz, q_gFld, q_sFldD, q_gMake, q_gCallI, q_gMeth, q_gRev]
  refine ⟨l2 _ _, ⟨by decide, by decide, by decide, by decide⟩, ?_⟩
  refine loop_rg (n := 4) (fun s ρ M' => (∃ (u v : Int) (a b c : Option D), ρ = [some (.lst (iD one)), some (.lst (iD other)), some (.tup [.int u, .int v]), a, b, c] ∧ nb 1500 u ∧ nb 1500 v ∧ ∀ x y : Int, frD (winsI (mostL one (s + 1)) other) (one.sum ^ (s + 1) * other.sum) = .tup [.int x, .int y] → u * y ≤ x * v) ∧ M' = M) ?_ ?_ ⟨⟨0, 1, none, none, none, rfl, nb_zero _, nb_mono (show nb 1 1 by unfold nb; decide) (by decide), fun x y e => ?_⟩, rfl⟩
  · rintro s ρ M' hs ⟨⟨u, v, a, b, c, rfl, nu, nv, up⟩, rfl⟩ Nx hN
    (try dsimp only [q_op, q_un, q_var, q_c, q_nil, q_cons, q_tup, q_frz, q_cel, q_lst, q_test, q_onB, q_and, q_or, q_not, q_andV, q_orV, q_notV, q_if, q_chain, q_next, q_seq, q_drop, q_ret, q_retF, q_retN, q_sif, q_break, q_cont, q_name, q_dnil, q_dcons, q_dtup, q_asg, q_set, q_par, q_for, q_range1, q_range2, q_iseq, q_ienum, q_call, q_cb, q_ncb, q_nop, q_lenset, q_mt, q_mt0, q_setix, q_augs, q_aug, q_nsl, q_onone, q_osome, q_gsl, q_raise, q_raiseF, q_try, q_lc, q_lc2, q_yes, q_wipe0, q_wipe, q_xf, q_I, q_I0, q_U, q_add, q_addT, q_addL, q_addR, q_onL, q_onSt, q_onSl, q_onSs, q_onSrct, q_onSrcl, q_eqI, q_eqB, q_eqS, q_eqN, q_isN, q_ix, q_ixL, q_in, q_len, q_sum, q_max, q_min, q_max2, q_min2, q_abs, q_int, q_intB, q_tupof, q_lstof, q_sort, q_rep, q_cat, q_isi, q_isis, q_setat, q_onC, q_append, q_pop, q_popAt, q_reverse, q_insert, q_sp1, q_sp2, q_sp3, q_sp4, q_at0, q_atS, q_st0, q_stS, q_iteT, q_iteF, q_isB, q_sumS, q_all, q_any, q_repT, q_spV, q_nLcX, q_sFz, q_gFld, q_sFldD, q_gMake, q_gCallI, q_gMeth, q_gRev])
    dsimp only [q_op, q_un, q_var, q_c, q_nil, q_cons, q_tup, q_frz, q_cel, q_lst, q_test, q_onB, q_and, q_or, q_not, q_andV, q_orV, q_notV, q_if, q_chain, q_next, q_seq, q_drop, q_ret, q_retF, q_retN, q_sif, q_break, q_cont, q_name, q_dnil, q_dcons, q_dtup, q_asg, q_set, q_par, q_for, q_range1, q_range2, q_iseq, q_ienum, q_call, q_cb, q_ncb, q_nop, q_lenset, q_mt, q_mt0, q_setix, q_augs, q_aug, q_nsl, q_onone, q_osome, q_gsl, q_raise, q_raiseF, q_try, q_lc, q_lc2, q_yes, q_wipe0, q_wipe, q_xf, q_I, q_I0, q_U, q_add, q_addT, q_addL, q_addR, q_onL, q_onSt, q_onSl, q_onSs, q_onSrct, q_onSrcl, q_eqI, q_eqB, q_eqS, q_eqN, q_isN, q_ix, q_ixL, q_in, q_len, q_sum, q_max, q_min, q_max2, q_min2, q_abs, q_int, q_intB, q_tupof, q_lstof, q_sort, q_rep, q_cat, q_isi, q_isis, q_setat, q_onC, q_append, q_pop, q_popAt, q_reverse, q_insert, q_sp1, q_sp2, q_sp3, q_sp4, q_at0, q_atS, q_st0, q_stS, q_iteT, q_iteF, q_isB, q_sumS, q_all, q_any, q_repT, q_spV, q_nLcX, q_sFz, q_gFld, q_sFldD, q_gMake, q_gCallI, q_gMeth, q_gRev, sp_chance_of_two, sp__law_most, sp__law_is_fraction, sp__law_same_worth, sp__law_wins, sp__law_power, sp__law_at_most]
    have e1 : (1 : Int) + (s : Nat) = ((s + 1 : Nat) : Int) := by omega
    have o1 : other.sum ^ 1 = other.sum := by rw [Int.pow_succ, Int.pow_zero, Int.one_mul]
    obtain ⟨w1, w2, w3⟩ := win_nb d (n := s + 1) (m := 1) (by omega) (by omega) (by decide) (by decide)
    rw [most_one] at w1
    rw [o1] at w2 w3
    have c1 := d.cnt (n := s + 1) (by omega) (by omega)
    have sm1 := pow_small (n := s + 1) (show 0 ≤ one.sum by have := d.2.2.2.2.2.1; omega) d.2.2.2.2.2.2.2.1 (by omega)
    have k1 : 0 < one.sum ^ (s + 1) := Int.pow_pos d.2.2.2.2.2.1
    have sb := d.2.2.2.2.2.2.2.2
    have sa := d.2.2.2.2.2.2.2.1
    have s0 := d.2.2.2.2.2.1
    have s0' := d.2.2.2.2.2.2.1
    have ml := most_len one (s + 1)
    rw [e1]
    refine .inl ⟨one, other, s + 1, 1, d.good RowD.lst, d.symm.good RowD.lst, c1, d.symm.cnt (by decide) (by decide), rfl, rfl, ?_⟩
    rw [if_neg (by omega), most_one, o1]
    refine ⟨one, rfl, one.sum, s + 1, rfl, rfl, by omega, nb_mono (show nb 7 one.sum by unfold nb; omega) (by decide), other, rfl, cmul (a := 60) (b := 7) (by unfold nb; omega) (by unfold nb; omega), _, _, rfl, w3, nb_mono w2 (by decide), if_f (by rfl) ?_⟩
    refine ⟨one, s + 1, RowD.lst, L, pp1, by omega, rfl, mostL one (s + 1), other, rows2 RowD.lst RowD.lst (by omega) (by omega) (most_nn p1 _) p2 (by rw [most_sum (by omega)]; exact c1.2.2) (by omega), l2 _ _, (lo _ _).1, (lo _ _).2, _, _, rfl, rfl, nb_mono (lo_nb1 w3 w1) (by decide), nb_mono (lo_nb2 w3 w2) (by decide), nb_mono w1 (by decide), nb_mono w2 (by decide), ?_⟩
    rw [decide_eq_true (lo_cross _ _)]
    (try dsimp only [q_op, q_un, q_var, q_c, q_nil, q_cons, q_tup, q_frz, q_cel, q_lst, q_test, q_onB, q_and, q_or, q_not, q_andV, q_orV, q_notV, q_if, q_chain, q_next, q_seq, q_drop, q_ret, q_retF, q_retN, q_sif, q_break, q_cont, q_name, q_dnil, q_dcons, q_dtup, q_asg, q_set, q_par, q_for, q_range1, q_range2, q_iseq, q_ienum, q_call, q_cb, q_ncb, q_nop, q_lenset, q_mt, q_mt0, q_setix, q_augs, q_aug, q_nsl, q_onone, q_osome, q_gsl, q_raise, q_raiseF, q_try, q_lc, q_lc2, q_yes, q_wipe0, q_wipe, q_xf, q_I, q_I0, q_U, q_add, q_addT, q_addL, q_addR, q_onL, q_onSt, q_onSl, q_onSs, q_onSrct, q_onSrcl, q_eqI, q_eqB, q_eqS, q_eqN, q_isN, q_ix, q_ixL, q_in, q_len, q_sum, q_max, q_min, q_max2, q_min2, q_abs, q_int, q_intB, q_tupof, q_lstof, q_sort, q_rep, q_cat, q_isi, q_isis, q_setat, q_onC, q_append, q_pop, q_popAt, q_reverse, q_insert, q_sp1, q_sp2, q_sp3, q_sp4, q_at0, q_atS, q_st0, q_stS, q_iteT, q_iteF, q_isB, q_sumS, q_all, q_any, q_repT, q_spV, q_nLcX, q_sFz, q_gFld, q_sFldD, q_gMake, q_gCallI, q_gMeth, q_gRev])
    refine if_f (by rfl) ⟨u, v, _, _, rfl, rfl, nu, nv, nb_mono (lo_nb1 w3 w1) (by decide), nb_mono (lo_nb2 w3 w2) (by decide), ?_⟩
    rw [decide_eq_true (up _ _ rfl)]
    (try dsimp only [q_op, q_un, q_var, q_c, q_nil, q_cons, q_tup, q_frz, q_cel, q_lst, q_test, q_onB, q_and, q_or, q_not, q_andV, q_orV, q_notV, q_if, q_chain, q_next, q_seq, q_drop, q_ret, q_retF, q_retN, q_sif, q_break, q_cont, q_name, q_dnil, q_dcons, q_dtup, q_asg, q_set, q_par, q_for, q_range1, q_range2, q_iseq, q_ienum, q_call, q_cb, q_ncb, q_nop, q_lenset, q_mt, q_mt0, q_setix, q_augs, q_aug, q_nsl, q_onone, q_osome, q_gsl, q_raise, q_raiseF, q_try, q_lc, q_lc2, q_yes, q_wipe0, q_wipe, q_xf, q_I, q_I0, q_U, q_add, q_addT, q_addL, q_addR, q_onL, q_onSt, q_onSl, q_onSs, q_onSrct, q_onSrcl, q_eqI, q_eqB, q_eqS, q_eqN, q_isN, q_ix, q_ixL, q_in, q_len, q_sum, q_max, q_min, q_max2, q_min2, q_abs, q_int, q_intB, q_tupof, q_lstof, q_sort, q_rep, q_cat, q_isi, q_isis, q_setat, q_onC, q_append, q_pop, q_popAt, q_reverse, q_insert, q_sp1, q_sp2, q_sp3, q_sp4, q_at0, q_atS, q_st0, q_stS, q_iteT, q_iteF, q_isB, q_sumS, q_all, q_any, q_repT, q_spV, q_nLcX, q_sFz, q_gFld, q_sFldD, q_gMake, q_gCallI, q_gMeth, q_gRev])
    refine if_f (by rfl) ?_
    rw [show ((s + 1 : Nat) : Int) + 1 = ((s + 1 + 1 : Nat) : Int) by omega]
    dsimp only [q_op, q_un, q_var, q_c, q_nil, q_cons, q_tup, q_frz, q_cel, q_lst, q_test, q_onB, q_and, q_or, q_not, q_andV, q_orV, q_notV, q_if, q_chain, q_next, q_seq, q_drop, q_ret, q_retF, q_retN, q_sif, q_break, q_cont, q_name, q_dnil, q_dcons, q_dtup, q_asg, q_set, q_par, q_for, q_range1, q_range2, q_iseq, q_ienum, q_call, q_cb, q_ncb, q_nop, q_lenset, q_mt, q_mt0, q_setix, q_augs, q_aug, q_nsl, q_onone, q_osome, q_gsl, q_raise, q_raiseF, q_try, q_lc, q_lc2, q_yes, q_wipe0, q_wipe, q_xf, q_I, q_I0, q_U, q_add, q_addT, q_addL, q_addR, q_onL, q_onSt, q_onSl, q_onSs, q_onSrct, q_onSrcl, q_eqI, q_eqB, q_eqS, q_eqN, q_isN, q_ix, q_ixL, q_in, q_len, q_sum, q_max, q_min, q_max2, q_min2, q_abs, q_int, q_intB, q_tupof, q_lstof, q_sort, q_rep, q_cat, q_isi, q_isis, q_setat, q_onC, q_append, q_pop, q_popAt, q_reverse, q_insert, q_sp1, q_sp2, q_sp3, q_sp4, q_at0, q_atS, q_st0, q_stS, q_iteT, q_iteF, q_isB, q_sumS, q_all, q_any, q_repT, q_spV, q_nLcX, q_sFz, q_gFld, q_sFldD, q_gMake, q_gCallI, q_gMeth, q_gRev, sp_greatest_die, sp_least_die, sp__law_stands]
    have c2 := d.cnt (n := s + 1 + 1) (by omega) (by omega)
    have ml2 := most_len one (s + 1 + 1)
    have ll := least_len one (s + 1)
    have ll2 := least_len one (s + 1 + 1)
    have t1 := most_sum (a := one) (n := s + 1) (by omega)
    have t2 := most_sum (a := one) (n := s + 1 + 1) (by omega)
    have t3 := least_sum (a := one) (n := s + 1) (by omega)
    have t4 := least_sum (a := one) (n := s + 1 + 1) (by omega)
    have v1 := c1.2.2
    have v2 := c2.2.2
    have k2 : 0 < one.sum ^ (s + 1 + 1) := Int.pow_pos s0
    refine .inl ⟨one, s + 1 + 1, d.good RowD.lst, c2, rfl, .inl ⟨one, s + 1, d.good RowD.lst, c1, rfl, mostL one (s + 1 + 1), mostL one (s + 1), true, rows2 RowD.tup RowD.tup (by omega) (by omega) (most_nn p1 _) (most_nn p1 _) (by omega) (by omega), most_nn p1 _, most_nn p1 _, by omega, by omega, rfl, ?_⟩⟩
    rw [over_more (by omega) (Nat.le_succ (s + 1)) p1 s0]
    (try dsimp only [q_op, q_un, q_var, q_c, q_nil, q_cons, q_tup, q_frz, q_cel, q_lst, q_test, q_onB, q_and, q_or, q_not, q_andV, q_orV, q_notV, q_if, q_chain, q_next, q_seq, q_drop, q_ret, q_retF, q_retN, q_sif, q_break, q_cont, q_name, q_dnil, q_dcons, q_dtup, q_asg, q_set, q_par, q_for, q_range1, q_range2, q_iseq, q_ienum, q_call, q_cb, q_ncb, q_nop, q_lenset, q_mt, q_mt0, q_setix, q_augs, q_aug, q_nsl, q_onone, q_osome, q_gsl, q_raise, q_raiseF, q_try, q_lc, q_lc2, q_yes, q_wipe0, q_wipe, q_xf, q_I, q_I0, q_U, q_add, q_addT, q_addL, q_addR, q_onL, q_onSt, q_onSl, q_onSs, q_onSrct, q_onSrcl, q_eqI, q_eqB, q_eqS, q_eqN, q_isN, q_ix, q_ixL, q_in, q_len, q_sum, q_max, q_min, q_max2, q_min2, q_abs, q_int, q_intB, q_tupof, q_lstof, q_sort, q_rep, q_cat, q_isi, q_isis, q_setat, q_onC, q_append, q_pop, q_popAt, q_reverse, q_insert, q_sp1, q_sp2, q_sp3, q_sp4, q_at0, q_atS, q_st0, q_stS, q_iteT, q_iteF, q_isB, q_sumS, q_all, q_any, q_repT, q_spV, q_nLcX, q_sFz, q_gFld, q_sFldD, q_gMake, q_gCallI, q_gMeth, q_gRev])
    refine if_f (by rfl) ⟨one, s + 1, d.good RowD.lst, c1, rfl, one, s + 1 + 1, d.good RowD.lst, c2, rfl, leastL one (s + 1), leastL one (s + 1 + 1), true, rows2 RowD.tup RowD.tup (by omega) (by omega) (least_nn p1 _) (least_nn p1 _) (by omega) (by omega), least_nn p1 _, least_nn p1 _, by omega, by omega, rfl, ?_⟩
    rw [least_less (by omega) (Nat.le_succ (s + 1)) p1 s0]
    (try dsimp only [q_op, q_un, q_var, q_c, q_nil, q_cons, q_tup, q_frz, q_cel, q_lst, q_test, q_onB, q_and, q_or, q_not, q_andV, q_orV, q_notV, q_if, q_chain, q_next, q_seq, q_drop, q_ret, q_retF, q_retN, q_sif, q_break, q_cont, q_name, q_dnil, q_dcons, q_dtup, q_asg, q_set, q_par, q_for, q_range1, q_range2, q_iseq, q_ienum, q_call, q_cb, q_ncb, q_nop, q_lenset, q_mt, q_mt0, q_setix, q_augs, q_aug, q_nsl, q_onone, q_osome, q_gsl, q_raise, q_raiseF, q_try, q_lc, q_lc2, q_yes, q_wipe0, q_wipe, q_xf, q_I, q_I0, q_U, q_add, q_addT, q_addL, q_addR, q_onL, q_onSt, q_onSl, q_onSs, q_onSrct, q_onSrcl, q_eqI, q_eqB, q_eqS, q_eqN, q_isN, q_ix, q_ixL, q_in, q_len, q_sum, q_max, q_min, q_max2, q_min2, q_abs, q_int, q_intB, q_tupof, q_lstof, q_sort, q_rep, q_cat, q_isi, q_isis, q_setat, q_onC, q_append, q_pop, q_popAt, q_reverse, q_insert, q_sp1, q_sp2, q_sp3, q_sp4, q_at0, q_atS, q_st0, q_stS, q_iteT, q_iteF, q_isB, q_sumS, q_all, q_any, q_repT, q_spV, q_nLcX, q_sFz, q_gFld, q_sFldD, q_gMake, q_gCallI, q_gMeth, q_gRev])
    refine if_f (by rfl) (hN _ _ ⟨⟨(lo (winsI (mostL one (s + 1)) other) (one.sum ^ (s + 1) * other.sum)).1, (lo (winsI (mostL one (s + 1)) other) (one.sum ^ (s + 1) * other.sum)).2, _, _, _, rfl, nb_mono (lo_nb1 w3 w1) (by decide), nb_mono (lo_nb2 w3 w2) (by decide), fun x y e => ?_⟩, rfl⟩)
    unfold frD at e
    injection e with e
    injection e with e1 e2
    injection e1 with e1
    injection e2 with e2
    injection e2 with e2
    rw [← e1, ← e2]
    exact frac_le w3 (Int.mul_pos k2 s0') (chance_up d (by omega))
  · rintro ρ M' ⟨⟨u, v, a, b, c, rfl, nu, nv, up⟩, rfl⟩
    (try dsimp only [q_op, q_un, q_var, q_c, q_nil, q_cons, q_tup, q_frz, q_cel, q_lst, q_test, q_onB, q_and, q_or, q_not, q_andV, q_orV, q_notV, q_if, q_chain, q_next, q_seq, q_drop, q_ret, q_retF, q_retN, q_sif, q_break, q_cont, q_name, q_dnil, q_dcons, q_dtup, q_asg, q_set, q_par, q_for, q_range1, q_range2, q_iseq, q_ienum, q_call, q_cb, q_ncb, q_nop, q_lenset, q_mt, q_mt0, q_setix, q_augs, q_aug, q_nsl, q_onone, q_osome, q_gsl, q_raise, q_raiseF, q_try, q_lc, q_lc2, q_yes, q_wipe0, q_wipe, q_xf, q_I, q_I0, q_U, q_add, q_addT, q_addL, q_addR, q_onL, q_onSt, q_onSl, q_onSs, q_onSrct, q_onSrcl, q_eqI, q_eqB, q_eqS, q_eqN, q_isN, q_ix, q_ixL, q_in, q_len, q_sum, q_max, q_min, q_max2, q_min2, q_abs, q_int, q_intB, q_tupof, q_lstof, q_sort, q_rep, q_cat, q_isi, q_isis, q_setat, q_onC, q_append, q_pop, q_popAt, q_reverse, q_insert, q_sp1, q_sp2, q_sp3, q_sp4, q_at0, q_atS, q_st0, q_stS, q_iteT, q_iteF, q_isB, q_sumS, q_all, q_any, q_repT, q_spV, q_nLcX, q_sFz, q_gFld, q_sFldD, q_gMake, q_gCallI, q_gMeth, q_gRev])
    exact q
  · have w := wins_nn (most_nn p1 (0 + 1)) p2
    unfold frD at e
    injection e with e
    injection e with e1 e2
    injection e1 with e1
    rw [Int.zero_mul, Int.mul_one, ← e1]
    exact Int.ediv_nonneg w (by omega)
end
end LW

namespace LW
open PySem PySem.Spec PyProof.Rows L2 DL
section
variable {K : PySem.W.Frag} {mg : Str → Option Value}
theorem b__law_refusal (T : Tx K mg) : ∀ d0 d1 d2 d3 M Q E, sp__law_refusal K [d0, d1, d2, d3] M Q E → g__law_refusal K { nx := fun _ M => Q .non M, rt := Q, ex := fun x _ M => E x M } [some d0, some d1, some d2, some d3, none, none] M := by
  rintro d0 d1 d2 d3 M Q E h
  unfold g__law_refusal
  dsimp only [q_op, q_un, q_var, q_c, q_nil, q_cons, q_tup, q_frz, q_cel, q_lst, q_test, q_onB, q_and, q_or, q_not, q_andV, q_orV, q_notV, q_if, q_chain, q_next, q_seq, q_drop, q_ret, q_retF, q_retN, q_sif, q_break, q_cont, q_name, q_dnil, q_dcons, q_dtup, q_asg, q_set, q_par, q_for, q_range1, q_range2, q_iseq, q_ienum, q_call, q_cb, q_ncb, q_nop, q_lenset, q_mt, q_mt0, q_setix, q_augs, q_aug, q_nsl, q_onone, q_osome, q_gsl, q_raise, q_raiseF, q_try, q_lc, q_lc2, q_yes, q_wipe0, q_wipe, q_xf, q_I, q_I0, q_U, q_add, q_addT, q_addL, q_addR, q_onL, q_onSt, q_onSl, q_onSs, q_onSrct, q_onSrcl, q_eqI, q_eqB, q_eqS, q_eqN, q_isN, q_ix, q_ixL, q_in, q_len, q_sum, q_max, q_min, q_max2, q_min2, q_abs, q_int, q_intB, q_tupof, q_lstof, q_sort, q_rep, q_cat, q_isi, q_isis, q_setat, q_onC, q_append, q_pop, q_popAt, q_reverse, q_insert, q_sp1, q_sp2, q_sp3, q_sp4, q_at0, q_atS, q_st0, q_stS, q_iteT, q_iteF, q_isB, q_sumS, q_all, q_any, q_repT, q_spV, q_nLcX, q_sFz, q_gFld, q_sFldD, q_gMake, q_gCallI, q_gMeth, q_gRev, sp_chance_of_two]
  have l3 : ∀ x y z : D, [x, y, z].length ≤ sizeLine := fun x y z => by rw [sz]; show 3 ≤ 16777216; omega
  refine ⟨l3 _ _ _, ?_⟩
  have hx : ∀ (x : DX) (y : D), toldX K Q x M → dHds K { nx := sRet (gVar 4) { nx := fun _ M => Q .non M, rt := Q, ex := fun x _ M => E x M }, rt := Q, ex := fun x _ M => E x M }
      [(Value.ref (He.ga K "BadDie"), some 5, fun a cls d fs => (sSet 4 (gFrz (nLst (aCons (gC (.str "die")) (aCons (gXf a cls d (He.ga K "BadDie") "place" (gVar 5)) (aCons (gC (.int 0)) aNil))))))), (Value.ref (He.ga K "BadNumber"), some 5, fun a cls d fs => (sSet 4 (gFrz (nLst (aCons (gC (.str "number")) (aCons (gXf a cls d (He.ga K "BadNumber") "name" (gVar 5)) (aCons (gC (.int 0)) aNil))))))), (Value.ref (He.ga K "OtherSize"), some 5, fun a cls d fs => (sSet 4 (gFrz (nLst (aCons (gC (.str "size")) (aCons (gXf a cls d (He.ga K "OtherSize") "first" (gVar 5)) (aCons (gXf a cls d (He.ga K "OtherSize") "second" (gVar 5)) aNil))))))), (Value.ref (He.ga K "DiceError"), some 5, fun a cls d fs => (sSet 4 (gFrz (nLst (aCons (gC (.str "other")) (aCons (gC (.int 0)) (aCons (gC (.int 0)) aNil)))))))]
      x [some d0, some d1, some d2, some d3, some y, none] M := by
    rintro x y (⟨p, rfl, q⟩ | ⟨s, rfl, q⟩ | ⟨a, b, rfl, q⟩)
    · refine ⟨true, T.x_BadDie_BadDie, fun _ a d hd => ?_, (fun z => nomatch z)⟩
      (try dsimp only [q_op, q_un, q_var, q_c, q_nil, q_cons, q_tup, q_frz, q_cel, q_lst, q_test, q_onB, q_and, q_or, q_not, q_andV, q_orV, q_notV, q_if, q_chain, q_next, q_seq, q_drop, q_ret, q_retF, q_retN, q_sif, q_break, q_cont, q_name, q_dnil, q_dcons, q_dtup, q_asg, q_set, q_par, q_for, q_range1, q_range2, q_iseq, q_ienum, q_call, q_cb, q_ncb, q_nop, q_lenset, q_mt, q_mt0, q_setix, q_augs, q_aug, q_nsl, q_onone, q_osome, q_gsl, q_raise, q_raiseF, q_try, q_lc, q_lc2, q_yes, q_wipe0, q_wipe, q_xf, q_I, q_I0, q_U, q_add, q_addT, q_addL, q_addR, q_onL, q_onSt, q_onSl, q_onSs, q_onSrct, q_onSrcl, q_eqI, q_eqB, q_eqS, q_eqN, q_isN, q_ix, q_ixL, q_in, q_len, q_sum, q_max, q_min, q_max2, q_min2, q_abs, q_int, q_intB, q_tupof, q_lstof, q_sort, q_rep, q_cat, q_isi, q_isis, q_setat, q_onC, q_append, q_pop, q_popAt, q_reverse, q_insert, q_sp1, q_sp2, q_sp3, q_sp4, q_at0, q_atS, q_st0, q_stS, q_iteT, q_iteF, q_isB, q_sumS, q_all, q_any, q_repT, q_spV, q_nLcX, q_sFz, q_gFld, q_sFldD, q_gMake, q_gCallI, q_gMeth, q_gRev])
      refine ⟨rfl, _, .int p, rfl, by simp [xBD, exOf, List.lookup], l3 _ _ _, q⟩
    · refine ⟨false, T.x_BadNumber_BadDie, (fun z => nomatch z), fun _ => ⟨true, T.x_BadNumber_BadNumber, fun _ e d hd => ?_, (fun z => nomatch z)⟩⟩
      (try dsimp only [q_op, q_un, q_var, q_c, q_nil, q_cons, q_tup, q_frz, q_cel, q_lst, q_test, q_onB, q_and, q_or, q_not, q_andV, q_orV, q_notV, q_if, q_chain, q_next, q_seq, q_drop, q_ret, q_retF, q_retN, q_sif, q_break, q_cont, q_name, q_dnil, q_dcons, q_dtup, q_asg, q_set, q_par, q_for, q_range1, q_range2, q_iseq, q_ienum, q_call, q_cb, q_ncb, q_nop, q_lenset, q_mt, q_mt0, q_setix, q_augs, q_aug, q_nsl, q_onone, q_osome, q_gsl, q_raise, q_raiseF, q_try, q_lc, q_lc2, q_yes, q_wipe0, q_wipe, q_xf, q_I, q_I0, q_U, q_add, q_addT, q_addL, q_addR, q_onL, q_onSt, q_onSl, q_onSs, q_onSrct, q_onSrcl, q_eqI, q_eqB, q_eqS, q_eqN, q_isN, q_ix, q_ixL, q_in, q_len, q_sum, q_max, q_min, q_max2, q_min2, q_abs, q_int, q_intB, q_tupof, q_lstof, q_sort, q_rep, q_cat, q_isi, q_isis, q_setat, q_onC, q_append, q_pop, q_popAt, q_reverse, q_insert, q_sp1, q_sp2, q_sp3, q_sp4, q_at0, q_atS, q_st0, q_stS, q_iteT, q_iteF, q_isB, q_sumS, q_all, q_any, q_repT, q_spV, q_nLcX, q_sFz, q_gFld, q_sFldD, q_gMake, q_gCallI, q_gMeth, q_gRev])
      refine ⟨rfl, _, .str s, rfl, by simp [xBN, exOf, List.lookup], l3 _ _ _, q⟩
    · refine ⟨false, T.x_OtherSize_BadDie, (fun z => nomatch z), fun _ => ⟨false, T.x_OtherSize_BadNumber, (fun z => nomatch z), fun _ => ⟨true, T.x_OtherSize_OtherSize, fun _ e d hd => ?_, (fun z => nomatch z)⟩⟩⟩
      (try dsimp only [q_op, q_un, q_var, q_c, q_nil, q_cons, q_tup, q_frz, q_cel, q_lst, q_test, q_onB, q_and, q_or, q_not, q_andV, q_orV, q_notV, q_if, q_chain, q_next, q_seq, q_drop, q_ret, q_retF, q_retN, q_sif, q_break, q_cont, q_name, q_dnil, q_dcons, q_dtup, q_asg, q_set, q_par, q_for, q_range1, q_range2, q_iseq, q_ienum, q_call, q_cb, q_ncb, q_nop, q_lenset, q_mt, q_mt0, q_setix, q_augs, q_aug, q_nsl, q_onone, q_osome, q_gsl, q_raise, q_raiseF, q_try, q_lc, q_lc2, q_yes, q_wipe0, q_wipe, q_xf, q_I, q_I0, q_U, q_add, q_addT, q_addL, q_addR, q_onL, q_onSt, q_onSl, q_onSs, q_onSrct, q_onSrcl, q_eqI, q_eqB, q_eqS, q_eqN, q_isN, q_ix, q_ixL, q_in, q_len, q_sum, q_max, q_min, q_max2, q_min2, q_abs, q_int, q_intB, q_tupof, q_lstof, q_sort, q_rep, q_cat, q_isi, q_isis, q_setat, q_onC, q_append, q_pop, q_popAt, q_reverse, q_insert, q_sp1, q_sp2, q_sp3, q_sp4, q_at0, q_atS, q_st0, q_stS, q_iteT, q_iteF, q_isB, q_sumS, q_all, q_any, q_repT, q_spV, q_nLcX, q_sFz, q_gFld, q_sFldD, q_gMake, q_gCallI, q_gMeth, q_gRev])
      have ne : (("first" : Str) == ("second" : Str)) = false := by decide +kernel
      refine ⟨rfl, _, .int a, rfl, by simp [xOS, exOf, List.lookup, ne], ?_⟩
      refine ⟨rfl, _, .int b, rfl, by simp [xOS, exOf, List.lookup], l3 _ _ _, q⟩
  rcases h with ⟨one, other, n, m, g1, g2, c1, c2, rfl, rfl, hl, q⟩ | ⟨one, n, g1, c1, rfl, h⟩ | h
  · refine .inl ⟨one, other, n, m, g1, g2, c1, c2, rfl, rfl, ?_⟩
    rw [if_pos hl]
    exact hx _ _ (.inr (.inr ⟨_, _, rfl, q⟩))
  · exact .inr (.inl ⟨one, n, g1, c1, rfl, dieC_imp (fun x hx' => hx x _ hx') (fun row G z => withinC_imp (fun x hx' => hx x _ hx') (fun _ _ _ _ z => z.elim) z) h⟩)
  · exact .inr (.inr (dieC_imp (fun x hx' => hx x _ hx') (fun row G z => withinC_imp (fun x hx' => hx x _ hx') (fun _ _ _ _ z => z.elim) z) h))
end
end LW

namespace LW
open PySem PySem.Spec PyProof.Rows L2 DL
section
variable {K : PySem.W.Frag} {mg : Str → Option Value}
theorem pl_die (p : Int) : plainN 9 (.lst [.str "die", .int p, .int 0]) = true := by
  have : PyData.strOk ("die" : Str) = true := by decide +kernel
  simp [plainN, this]
theorem pl_num (s : Str) (h : PyData.strOk s = true) : plainN 9 (.lst [.str "number", .str s, .int 0]) = true := by
  have : PyData.strOk ("number" : Str) = true := by decide +kernel
  simp [plainN, this, h]
theorem pl_size (p q : Int) : plainN 9 (.lst [.str "size", .int p, .int q]) = true := by
  have : PyData.strOk ("size" : Str) = true := by decide +kernel
  simp [plainN, this]
theorem badAt_app {rest : List D} : ∀ (l : List Int) (k : Nat), (∀ a ∈ l, 0 ≤ a) → badAt (iD l ++ rest) k = badAt rest (k + l.length)
  | [], k, _ => rfl
  | a :: l, k, h => by
    have ih := badAt_app (rest := rest) l (k + 1) (fun b hb => h b (List.mem_cons_of_mem _ hb))
    show badAt (D.int a :: (iD l ++ rest)) k = _
    rw [badAt_cons, if_pos (show geD 0 (.int a) = true from decide_eq_true (h a List.mem_cons_self)), ih, List.length_cons]
    congr 1
    omega
theorem b__law_refuses (T : Tx K mg) : ∀ d0 d1 d2 M Q E, sp__law_refuses K [d0, d1, d2] M Q E → g__law_refuses K { nx := fun _ M => Q .non M, rt := Q, ex := fun x _ M => E x M } [some d0, some d1, some d2, none, none, none, none, none, none, none, none, none] M := by
  rintro d0 d1 d2 M Q E ⟨p, one, other, rfl, rfl, rfl, d, hp, q⟩
  have p1 : Nn one := d.2.2.2.1
  have p2 : Nn other := d.2.2.2.2.1
  have hl : one.length = other.length := d.2.2.1
  have L : one.length ≤ 7 := d.2.1
  have l1 : ∀ x : D, [x].length ≤ sizeLine := fun x => by rw [sz]; show 1 ≤ 16777216; omega
  have l2 : ∀ x y : D, [x, y].length ≤ sizeLine := fun x y => by rw [sz]; show 2 ≤ 16777216; omega
  have l3 : ∀ x y z : D, [x, y, z].length ≤ sizeLine := fun x y z => by rw [sz]; show 3 ≤ 16777216; omega
  unfold g__law_refuses
  generalize hT1 : (sSeq (sSet 8 _) _ : DS) = T1
  dsimp only [q_op, q_un, q_var, q_c, q_nil, q_cons, q_tup, q_frz, q_cel, q_lst, q_test, q_onB, q_and, q_or, q_not, q_andV, q_orV, q_notV, q_if, q_chain, q_next, q_seq, q_drop, q_ret, q_retF, q_retN, q_sif, q_break, q_cont, q_name, q_dnil, q_dcons, q_dtup, q_asg, q_set, q_par, q_for, q_range1, q_range2, q_iseq, q_ienum, q_call, q_cb, q_ncb, q_nop, q_lenset, q_mt, q_mt0, q_setix, q_augs, q_aug, q_nsl, q_onone, q_osome, q_gsl, q_raise, q_raiseF, q_try, q_lc, q_lc2, q_yes, q_wipe0, q_wipe, q_xf, q_I, q_I0, q_U, q_add, q_addT, q_addL, q_addR, q_onL, q_onSt, q_onSl, q_onSs, q_onSrct, q_onSrcl, q_eqI, q_eqB, q_eqS, q_eqN, q_isN, q_ix, q_ixL, q_in, q_len, q_sum, q_max, q_min, q_max2, q_min2, q_abs, q_int, q_intB, q_tupof, q_lstof, q_sort, q_rep, q_cat, q_isi, q_isis, q_setat, q_onC, q_append, q_pop, q_popAt, q_reverse, q_insert, q_sp1, q_sp2, q_sp3, q_sp4, q_at0, q_atS, q_st0, q_stS, q_iteT, q_iteF, q_isB, q_sumS, q_all, q_any, q_repT, q_spV, q_nLcX, q_sFz, q_gFld, q_sFldD, q_gMake, q_gCallI, q_gMeth, q_gRev, sp__law_take]
  rw [List.length_map]
  refine ⟨by rw [sz]; show 6 ≤ 16777216; omega, p, 6, rfl, rfl, by decide, hp, fun r xs r0 r1 => ?_⟩
  obtain ⟨bd, hbd, b1, b2⟩ : ∃ g, atI [D.int 0, D.int (-1), D.int 4001, D.non, D.bl true, D.str "2"] r = some g ∧ kindB g = true ∧ ∀ i, g = .int i → ¬ (1 ≤ i ∧ i ≤ 4000) := by
    have : r = 0 ∨ r = 1 ∨ r = 2 ∨ r = 3 ∨ r = 4 ∨ r = 5 := by omega
    rcases this with rfl | rfl | rfl | rfl | rfl | rfl
    · exact ⟨_, rfl, rfl, fun i e => by cases e; omega⟩
    · exact ⟨_, rfl, rfl, fun i e => by cases e; omega⟩
    · exact ⟨_, rfl, rfl, fun i e => by cases e; omega⟩
    all_goals exact ⟨_, rfl, rfl, fun i e => nomatch e⟩
  refine ⟨_, hbd, ?_⟩
  (try dsimp only [q_op, q_un, q_var, q_c, q_nil, q_cons, q_tup, q_frz, q_cel, q_lst, q_test, q_onB, q_and, q_or, q_not, q_andV, q_orV, q_notV, q_if, q_chain, q_next, q_seq, q_drop, q_ret, q_retF, q_retN, q_sif, q_break, q_cont, q_name, q_dnil, q_dcons, q_dtup, q_asg, q_set, q_par, q_for, q_range1, q_range2, q_iseq, q_ienum, q_call, q_cb, q_ncb, q_nop, q_lenset, q_mt, q_mt0, q_setix, q_augs, q_aug, q_nsl, q_onone, q_osome, q_gsl, q_raise, q_raiseF, q_try, q_lc, q_lc2, q_yes, q_wipe0, q_wipe, q_xf, q_I, q_I0, q_U, q_add, q_addT, q_addL, q_addR, q_onL, q_onSt, q_onSl, q_onSs, q_onSrct, q_onSrcl, q_eqI, q_eqB, q_eqS, q_eqN, q_isN, q_ix, q_ixL, q_in, q_len, q_sum, q_max, q_min, q_max2, q_min2, q_abs, q_int, q_intB, q_tupof, q_lstof, q_sort, q_rep, q_cat, q_isi, q_isis, q_setat, q_onC, q_append, q_pop, q_popAt, q_reverse, q_insert, q_sp1, q_sp2, q_sp3, q_sp4, q_at0, q_atS, q_st0, q_stS, q_iteT, q_iteF, q_isB, q_sumS, q_all, q_any, q_repT, q_spV, q_nLcX, q_sFz, q_gFld, q_sFldD, q_gMake, q_gCallI, q_gMeth, q_gRev])
  have add2 : ∀ (l : List Int) (v : Int), iD l ++ [D.int v] = iD (l ++ [v]) := fun l v => iD_snoc l v
  refine ⟨Nat.zero_le _, l2 _ _, l2 _ _, l1 _, add_ll (by simp; omega) ⟨l2 _ _, ⟨by omega, by omega⟩, ?_⟩⟩
  rw [Int.toNat_natCast]
  refine lc_rep one.length 0 (by omega) ⟨l2 _ _, by rw [sz]; show 4 ≤ 16777216; omega, p, 4, rfl, rfl, by decide, ⟨xs, mset_same⟩, fun r ys r0 r1 => ?_⟩
  rw [mset_mset]
  have qf : ∀ zs : List Int, Q (.bl true) (mset M p (.lst (iD zs))) := q
  obtain ⟨t, pl, ht, hbad⟩ : ∃ (t : D) (pl : Int), atI [D.lst [D.lst [], D.int (-1)], D.lst [D.non, D.int (-1)], D.lst [D.lst (iD one ++ [D.int (-2)]), D.int (one.length : Int)], D.lst [D.lst (iD (List.replicate one.length 0)), D.int (-1)]] r = some (.lst [t, .int pl]) ∧ ∀ (M : Mem) (E : DXK) (k : List Int → Prop), E (xBD K pl) M → dieC K M t E k := by
    have : r = 0 ∨ r = 1 ∨ r = 2 ∨ r = 3 := by omega
    rcases this with rfl | rfl | rfl | rfl
    · refine ⟨_, _, rfl, fun M E k h => .inr ⟨[], RowD.lst, rfl, by decide, (fun _ h => nomatch h), ?_⟩⟩
      exact h
    · exact ⟨_, _, rfl, fun M E k h => .inl ⟨.none, rfl, by decide, by decide, h⟩⟩
    · refine ⟨_, _, rfl, fun M E k h => .inr ⟨_, RowD.lst, by rw [List.all_append, kind_iD]; rfl, by simp; omega, fun a ha => ?_, ?_⟩⟩
      · rw [add2, intsOf_iD] at ha
        rcases List.mem_append.mp ha with ha | ha
        · exact nb_mono (nn_nb (n := 60) p1 (by have := d.2.2.2.2.2.2.2.1; omega) a ha) (by decide)
        · rw [List.mem_singleton.mp ha]; exact nb_mono (show nb 2 (-2) by unfold nb; decide) (by decide)
      · have e : dieE (iD one ++ [D.int (-2)]) = some ((one.length : Nat) : Int) := by
          unfold dieE
          rw [badAt_app _ _ p1, Nat.zero_add]
          rfl
        simp only [e]
        exact h
    · refine ⟨_, _, rfl, fun M E k h => .inr ⟨_, RowD.lst, kind_iD _, by simp; omega, fun a ha => ?_, ?_⟩⟩
      · rw [intsOf_iD] at ha
        rw [List.eq_of_mem_replicate ha]
        exact nb_zero _
      · have e : dieE (iD (List.replicate one.length 0)) = some (-1) := by
          unfold dieE
          rw [badAt_good (fun a ha => by rw [List.eq_of_mem_replicate ha]; exact Int.le_refl _)]
          dsimp only
          rw [intsOf_iD, if_pos]
          have : ∀ n : Nat, (List.replicate n (0 : Int)).sum = 0 := fun n => by
            induction n with
            | zero => rfl
            | succ n ih => rw [List.replicate_succ, List.sum_cons, ih]; rfl
          exact this _
        simp only [e]
        exact h
  refine ⟨_, ht, ?_⟩
  have qy := qf ys
  generalize mset M p (.lst (iD ys)) = M1 at *
  obtain ⟨_, G⟩ := (d.good (M := M1) (e := .lst (iD one)) RowD.lst).ok
  have c2 := d.cnt (n := 2) (by decide) (by decide)
  have c3 := d.cnt (n := 3) (by decide) (by decide)
  have so := d.2.2.2.2.2.2.2.2
  have so0 := d.2.2.2.2.2.2.1
  have sl : (other ++ [1]).sum = other.sum + 1 := by rw [List.sum_append]; rfl
  have e5 : (((other ++ [1]).length : Nat) : Int) = (one.length : Int) + 1 := by simp; omega
  have gl : ∀ M : Mem, Good M (.lst (iD (other ++ [1]))) (other ++ [1]) := fun M => ⟨RowD.lst, by simp; omega, fun a ha => by
    rcases List.mem_append.mp ha with ha | ha
    · exact p2 a ha
    · rw [List.mem_singleton.mp ha]; decide, by omega, by omega⟩
  have cl : CntOk (other ++ [1]) 1 := ⟨by decide, by decide, by rw [sl, Int.pow_succ, Int.pow_zero, Int.one_mul]; omega⟩
  obtain ⟨_, Gl⟩ := (gl M1).ok
  dsimp only [sp__law_refusal]
  refine ⟨_, rfl, ⟨_, rfl, .inr (.inr (hbad _ _ _ (.inl ⟨pl, rfl, ⟨_, rfl, l3 _ _ _, eq_self rfl (pl_die _) ?_⟩⟩)))⟩⟩
  (try dsimp only [q_op, q_un, q_var, q_c, q_nil, q_cons, q_tup, q_frz, q_cel, q_lst, q_test, q_onB, q_and, q_or, q_not, q_andV, q_orV, q_notV, q_if, q_chain, q_next, q_seq, q_drop, q_ret, q_retF, q_retN, q_sif, q_break, q_cont, q_name, q_dnil, q_dcons, q_dtup, q_asg, q_set, q_par, q_for, q_range1, q_range2, q_iseq, q_ienum, q_call, q_cb, q_ncb, q_nop, q_lenset, q_mt, q_mt0, q_setix, q_augs, q_aug, q_nsl, q_onone, q_osome, q_gsl, q_raise, q_raiseF, q_try, q_lc, q_lc2, q_yes, q_wipe0, q_wipe, q_xf, q_I, q_I0, q_U, q_add, q_addT, q_addL, q_addR, q_onL, q_onSt, q_onSl, q_onSs, q_onSrct, q_onSrcl, q_eqI, q_eqB, q_eqS, q_eqN, q_isN, q_ix, q_ixL, q_in, q_len, q_sum, q_max, q_min, q_max2, q_min2, q_abs, q_int, q_intB, q_tupof, q_lstof, q_sort, q_rep, q_cat, q_isi, q_isis, q_setat, q_onC, q_append, q_pop, q_popAt, q_reverse, q_insert, q_sp1, q_sp2, q_sp3, q_sp4, q_at0, q_atS, q_st0, q_stS, q_iteT, q_iteF, q_isB, q_sumS, q_all, q_any, q_repT, q_spV, q_nLcX, q_sFz, q_gFld, q_sFldD, q_gMake, q_gCallI, q_gMeth, q_gRev])
  refine if_f (by rfl) (⟨_, rfl, .inr (.inl ⟨one, 2, d.good RowD.lst, c2, rfl, hbad _ _ _ (.inl ⟨pl, rfl, ⟨_, rfl, l3 _ _ _, eq_self rfl (pl_die _) ?_⟩⟩)⟩)⟩)
  (try dsimp only [q_op, q_un, q_var, q_c, q_nil, q_cons, q_tup, q_frz, q_cel, q_lst, q_test, q_onB, q_and, q_or, q_not, q_andV, q_orV, q_notV, q_if, q_chain, q_next, q_seq, q_drop, q_ret, q_retF, q_retN, q_sif, q_break, q_cont, q_name, q_dnil, q_dcons, q_dtup, q_asg, q_set, q_par, q_for, q_range1, q_range2, q_iseq, q_ienum, q_call, q_cb, q_ncb, q_nop, q_lenset, q_mt, q_mt0, q_setix, q_augs, q_aug, q_nsl, q_onone, q_osome, q_gsl, q_raise, q_raiseF, q_try, q_lc, q_lc2, q_yes, q_wipe0, q_wipe, q_xf, q_I, q_I0, q_U, q_add, q_addT, q_addL, q_addR, q_onL, q_onSt, q_onSl, q_onSs, q_onSrct, q_onSrcl, q_eqI, q_eqB, q_eqS, q_eqN, q_isN, q_ix, q_ixL, q_in, q_len, q_sum, q_max, q_min, q_max2, q_min2, q_abs, q_int, q_intB, q_tupof, q_lstof, q_sort, q_rep, q_cat, q_isi, q_isis, q_setat, q_onC, q_append, q_pop, q_popAt, q_reverse, q_insert, q_sp1, q_sp2, q_sp3, q_sp4, q_at0, q_atS, q_st0, q_stS, q_iteT, q_iteF, q_isB, q_sumS, q_all, q_any, q_repT, q_spV, q_nLcX, q_sFz, q_gFld, q_sFldD, q_gMake, q_gCallI, q_gMeth, q_gRev])
  refine if_f (by rfl) (⟨_, rfl, .inr (.inr (dieC_good G RowD.lst (.inr ⟨b1, b2, .inr (.inl ⟨_, rfl, l3 _ _ _, eq_self rfl (pl_num _ (by decide +kernel)) ?_⟩)⟩)))⟩)
  (try dsimp only [q_op, q_un, q_var, q_c, q_nil, q_cons, q_tup, q_frz, q_cel, q_lst, q_test, q_onB, q_and, q_or, q_not, q_andV, q_orV, q_notV, q_if, q_chain, q_next, q_seq, q_drop, q_ret, q_retF, q_retN, q_sif, q_break, q_cont, q_name, q_dnil, q_dcons, q_dtup, q_asg, q_set, q_par, q_for, q_range1, q_range2, q_iseq, q_ienum, q_call, q_cb, q_ncb, q_nop, q_lenset, q_mt, q_mt0, q_setix, q_augs, q_aug, q_nsl, q_onone, q_osome, q_gsl, q_raise, q_raiseF, q_try, q_lc, q_lc2, q_yes, q_wipe0, q_wipe, q_xf, q_I, q_I0, q_U, q_add, q_addT, q_addL, q_addR, q_onL, q_onSt, q_onSl, q_onSs, q_onSrct, q_onSrcl, q_eqI, q_eqB, q_eqS, q_eqN, q_isN, q_ix, q_ixL, q_in, q_len, q_sum, q_max, q_min, q_max2, q_min2, q_abs, q_int, q_intB, q_tupof, q_lstof, q_sort, q_rep, q_cat, q_isi, q_isis, q_setat, q_onC, q_append, q_pop, q_popAt, q_reverse, q_insert, q_sp1, q_sp2, q_sp3, q_sp4, q_at0, q_atS, q_st0, q_stS, q_iteT, q_iteF, q_isB, q_sumS, q_all, q_any, q_repT, q_spV, q_nLcX, q_sFz, q_gFld, q_sFldD, q_gMake, q_gCallI, q_gMeth, q_gRev])
  refine if_f (by rfl) ⟨l1 _, add_ll (by simp; omega) ?_⟩
  rw [add2]
  refine .inr (.inl ⟨one, 2, d.good RowD.lst, c2, rfl, dieC_good Gl RowD.lst (.inr ⟨b1, b2, .inr (.inl ⟨_, rfl, l3 _ _ _, eq_self rfl (pl_num _ (by decide +kernel)) ?_⟩)⟩)⟩)
  (try dsimp only [q_op, q_un, q_var, q_c, q_nil, q_cons, q_tup, q_frz, q_cel, q_lst, q_test, q_onB, q_and, q_or, q_not, q_andV, q_orV, q_notV, q_if, q_chain, q_next, q_seq, q_drop, q_ret, q_retF, q_retN, q_sif, q_break, q_cont, q_name, q_dnil, q_dcons, q_dtup, q_asg, q_set, q_par, q_for, q_range1, q_range2, q_iseq, q_ienum, q_call, q_cb, q_ncb, q_nop, q_lenset, q_mt, q_mt0, q_setix, q_augs, q_aug, q_nsl, q_onone, q_osome, q_gsl, q_raise, q_raiseF, q_try, q_lc, q_lc2, q_yes, q_wipe0, q_wipe, q_xf, q_I, q_I0, q_U, q_add, q_addT, q_addL, q_addR, q_onL, q_onSt, q_onSl, q_onSs, q_onSrct, q_onSrcl, q_eqI, q_eqB, q_eqS, q_eqN, q_isN, q_ix, q_ixL, q_in, q_len, q_sum, q_max, q_min, q_max2, q_min2, q_abs, q_int, q_intB, q_tupof, q_lstof, q_sort, q_rep, q_cat, q_isi, q_isis, q_setat, q_onC, q_append, q_pop, q_popAt, q_reverse, q_insert, q_sp1, q_sp2, q_sp3, q_sp4, q_at0, q_atS, q_st0, q_stS, q_iteT, q_iteF, q_isB, q_sumS, q_all, q_any, q_repT, q_spV, q_nLcX, q_sFz, q_gFld, q_sFldD, q_gMake, q_gCallI, q_gMeth, q_gRev])
  refine if_f (by rfl) ⟨l1 _, add_ll (by simp; omega) ?_⟩
  rw [add2]
  refine .inl ⟨one, other ++ [1], 3, 1, d.good RowD.lst, gl _, c3, cl, rfl, rfl, by omega, l3 _ _ _, eq_self (by rw [e5]) (pl_size _ _) ?_⟩
  (try dsimp only [q_op, q_un, q_var, q_c, q_nil, q_cons, q_tup, q_frz, q_cel, q_lst, q_test, q_onB, q_and, q_or, q_not, q_andV, q_orV, q_notV, q_if, q_chain, q_next, q_seq, q_drop, q_ret, q_retF, q_retN, q_sif, q_break, q_cont, q_name, q_dnil, q_dcons, q_dtup, q_asg, q_set, q_par, q_for, q_range1, q_range2, q_iseq, q_ienum, q_call, q_cb, q_ncb, q_nop, q_lenset, q_mt, q_mt0, q_setix, q_augs, q_aug, q_nsl, q_onone, q_osome, q_gsl, q_raise, q_raiseF, q_try, q_lc, q_lc2, q_yes, q_wipe0, q_wipe, q_xf, q_I, q_I0, q_U, q_add, q_addT, q_addL, q_addR, q_onL, q_onSt, q_onSl, q_onSs, q_onSrct, q_onSrcl, q_eqI, q_eqB, q_eqS, q_eqN, q_isN, q_ix, q_ixL, q_in, q_len, q_sum, q_max, q_min, q_max2, q_min2, q_abs, q_int, q_intB, q_tupof, q_lstof, q_sort, q_rep, q_cat, q_isi, q_isis, q_setat, q_onC, q_append, q_pop, q_popAt, q_reverse, q_insert, q_sp1, q_sp2, q_sp3, q_sp4, q_at0, q_atS, q_st0, q_stS, q_iteT, q_iteF, q_isB, q_sumS, q_all, q_any, q_repT, q_spV, q_nLcX, q_sFz, q_gFld, q_sFldD, q_gMake, q_gCallI, q_gMeth, q_gRev])
  refine if_f (by rfl) ?_
  rw [← hT1]
  dsimp only [q_op, q_un, q_var, q_c, q_nil, q_cons, q_tup, q_frz, q_cel, q_lst, q_test, q_onB, q_and, q_or, q_not, q_andV, q_orV, q_notV, q_if, q_chain, q_next, q_seq, q_drop, q_ret, q_retF, q_retN, q_sif, q_break, q_cont, q_name, q_dnil, q_dcons, q_dtup, q_asg, q_set, q_par, q_for, q_range1, q_range2, q_iseq, q_ienum, q_call, q_cb, q_ncb, q_nop, q_lenset, q_mt, q_mt0, q_setix, q_augs, q_aug, q_nsl, q_onone, q_osome, q_gsl, q_raise, q_raiseF, q_try, q_lc, q_lc2, q_yes, q_wipe0, q_wipe, q_xf, q_I, q_I0, q_U, q_add, q_addT, q_addL, q_addR, q_onL, q_onSt, q_onSl, q_onSs, q_onSrct, q_onSrcl, q_eqI, q_eqB, q_eqS, q_eqN, q_isN, q_ix, q_ixL, q_in, q_len, q_sum, q_max, q_min, q_max2, q_min2, q_abs, q_int, q_intB, q_tupof, q_lstof, q_sort, q_rep, q_cat, q_isi, q_isis, q_setat, q_onC, q_append, q_pop, q_popAt, q_reverse, q_insert, q_sp1, q_sp2, q_sp3, q_sp4, q_at0, q_atS, q_st0, q_stS, q_iteT, q_iteF, q_isB, q_sumS, q_all, q_any, q_repT, q_spV, q_nLcX, q_sFz, q_gFld, q_sFldD, q_gMake, q_gCallI, q_gMeth, q_gRev, sp_Greatest_init, sp_Least_init]
  refine ⟨Nat.zero_le _, fun c hc => ⟨⟨by decide, by decide⟩, ?_⟩⟩
  rw [show Int.toNat 2 = 2 from rfl]
  refine loop_rg0 (fun s ρ M' => (∃ a b e, ρ = [some (.ref p), some (.lst (iD one)), some (.lst (iD other)), some (.int (one.length : Nat)), some bd, some (.lst [D.lst [D.lst [], D.int (-1)], D.lst [D.non, D.int (-1)], D.lst [D.lst (iD one ++ [D.int (-2)]), D.int (one.length : Int)], D.lst [D.lst (iD (List.replicate one.length 0)), D.int (-1)]]), e, some (.lst [t, .int pl]), some (.ref c), a, b, none]) ∧ MemUp M1 M' ∧ M' c = some (.lst (List.replicate s (.str "count")))) ?_ ?_ ⟨⟨_, _, _, rfl⟩, MemUp.add hc, mset_same⟩
  · rintro s ρ M' hs ⟨⟨a, b, e, rfl⟩, up, hM⟩ Nx hN
    (try dsimp only [q_op, q_un, q_var, q_c, q_nil, q_cons, q_tup, q_frz, q_cel, q_lst, q_test, q_onB, q_and, q_or, q_not, q_andV, q_orV, q_notV, q_if, q_chain, q_next, q_seq, q_drop, q_ret, q_retF, q_retN, q_sif, q_break, q_cont, q_name, q_dnil, q_dcons, q_dtup, q_asg, q_set, q_par, q_for, q_range1, q_range2, q_iseq, q_ienum, q_call, q_cb, q_ncb, q_nop, q_lenset, q_mt, q_mt0, q_setix, q_augs, q_aug, q_nsl, q_onone, q_osome, q_gsl, q_raise, q_raiseF, q_try, q_lc, q_lc2, q_yes, q_wipe0, q_wipe, q_xf, q_I, q_I0, q_U, q_add, q_addT, q_addL, q_addR, q_onL, q_onSt, q_onSl, q_onSs, q_onSrct, q_onSrcl, q_eqI, q_eqB, q_eqS, q_eqN, q_isN, q_ix, q_ixL, q_in, q_len, q_sum, q_max, q_min, q_max2, q_min2, q_abs, q_int, q_intB, q_tupof, q_lstof, q_sort, q_rep, q_cat, q_isi, q_isis, q_setat, q_onC, q_append, q_pop, q_popAt, q_reverse, q_insert, q_sp1, q_sp2, q_sp3, q_sp4, q_at0, q_atS, q_st0, q_stS, q_iteT, q_iteF, q_isB, q_sumS, q_all, q_any, q_repT, q_spV, q_nLcX, q_sFz, q_gFld, q_sFldD, q_gMake, q_gCallI, q_gMeth, q_gRev])
    have step : ∀ (x : Addr) (o : MO), M' x = none → MemUp M1 (mset M' x o) ∧ mset M' x o c = some (.lst (List.replicate s (.str "count"))) := fun x o hx => ⟨up.trans (MemUp.add hx), by rw [mset_ne (fun z => by rw [z, hx] at hM; cases hM)]; exact hM⟩
    have er : List.replicate s (D.str "count") ++ [.str "count"] = List.replicate (s + 1) (D.str "count") := List.replicate_succ'.symm
    have c01 : s = 0 ∨ s = 1 := by omega
    rcases c01 with rfl | rfl
    · refine if_t (by rfl) fun x hx => ⟨x, rfl, mset_same, .inr ⟨b1, b2, true, T.x_BadNumber_BadNumber, (fun _ a d hd => ?_), (fun z => nomatch z)⟩⟩
      obtain ⟨u2, h2⟩ := step x (.ins (He.ga K "Greatest") []) hx
      (try dsimp only [q_op, q_un, q_var, q_c, q_nil, q_cons, q_tup, q_frz, q_cel, q_lst, q_test, q_onB, q_and, q_or, q_not, q_andV, q_orV, q_notV, q_if, q_chain, q_next, q_seq, q_drop, q_ret, q_retF, q_retN, q_sif, q_break, q_cont, q_name, q_dnil, q_dcons, q_dtup, q_asg, q_set, q_par, q_for, q_range1, q_range2, q_iseq, q_ienum, q_call, q_cb, q_ncb, q_nop, q_lenset, q_mt, q_mt0, q_setix, q_augs, q_aug, q_nsl, q_onone, q_osome, q_gsl, q_raise, q_raiseF, q_try, q_lc, q_lc2, q_yes, q_wipe0, q_wipe, q_xf, q_I, q_I0, q_U, q_add, q_addT, q_addL, q_addR, q_onL, q_onSt, q_onSl, q_onSs, q_onSrct, q_onSrcl, q_eqI, q_eqB, q_eqS, q_eqN, q_isN, q_ix, q_ixL, q_in, q_len, q_sum, q_max, q_min, q_max2, q_min2, q_abs, q_int, q_intB, q_tupof, q_lstof, q_sort, q_rep, q_cat, q_isi, q_isis, q_setat, q_onC, q_append, q_pop, q_popAt, q_reverse, q_insert, q_sp1, q_sp2, q_sp3, q_sp4, q_at0, q_atS, q_st0, q_stS, q_iteT, q_iteF, q_isB, q_sumS, q_all, q_any, q_repT, q_spV, q_nLcX, q_sFz, q_gFld, q_sFldD, q_gMake, q_gCallI, q_gMeth, q_gRev])
      refine ⟨rfl, _, .str "count", rfl, by simp [xBN, exOf, List.lookup], onL_ref h2 trivial, _, h2, by rw [sz]; simp, ?_⟩
      rw [er]
      exact hN _ _ ⟨⟨_, _, _, rfl⟩, u2.set hc, mset_same⟩
    · refine if_f (by rfl) (if_t (by rfl) fun x hx => ⟨x, rfl, mset_same, .inr ⟨b1, b2, true, T.x_BadNumber_BadNumber, (fun _ a d hd => ?_), (fun z => nomatch z)⟩⟩)
      obtain ⟨u2, h2⟩ := step x (.ins (He.ga K "Least") []) hx
      (try dsimp only [q_op, q_un, q_var, q_c, q_nil, q_cons, q_tup, q_frz, q_cel, q_lst, q_test, q_onB, q_and, q_or, q_not, q_andV, q_orV, q_notV, q_if, q_chain, q_next, q_seq, q_drop, q_ret, q_retF, q_retN, q_sif, q_break, q_cont, q_name, q_dnil, q_dcons, q_dtup, q_asg, q_set, q_par, q_for, q_range1, q_range2, q_iseq, q_ienum, q_call, q_cb, q_ncb, q_nop, q_lenset, q_mt, q_mt0, q_setix, q_augs, q_aug, q_nsl, q_onone, q_osome, q_gsl, q_raise, q_raiseF, q_try, q_lc, q_lc2, q_yes, q_wipe0, q_wipe, q_xf, q_I, q_I0, q_U, q_add, q_addT, q_addL, q_addR, q_onL, q_onSt, q_onSl, q_onSs, q_onSrct, q_onSrcl, q_eqI, q_eqB, q_eqS, q_eqN, q_isN, q_ix, q_ixL, q_in, q_len, q_sum, q_max, q_min, q_max2, q_min2, q_abs, q_int, q_intB, q_tupof, q_lstof, q_sort, q_rep, q_cat, q_isi, q_isis, q_setat, q_onC, q_append, q_pop, q_popAt, q_reverse, q_insert, q_sp1, q_sp2, q_sp3, q_sp4, q_at0, q_atS, q_st0, q_stS, q_iteT, q_iteF, q_isB, q_sumS, q_all, q_any, q_repT, q_spV, q_nLcX, q_sFz, q_gFld, q_sFldD, q_gMake, q_gCallI, q_gMeth, q_gRev])
      refine ⟨rfl, _, .str "count", rfl, by simp [xBN, exOf, List.lookup], onL_ref h2 trivial, _, h2, by rw [sz]; simp, ?_⟩
      rw [er]
      exact hN _ _ ⟨⟨_, _, _, rfl⟩, u2.set hc, mset_same⟩
  · rintro ρ M' ⟨⟨a, b, e, rfl⟩, up, hM⟩
    (try dsimp only [q_op, q_un, q_var, q_c, q_nil, q_cons, q_tup, q_frz, q_cel, q_lst, q_test, q_onB, q_and, q_or, q_not, q_andV, q_orV, q_notV, q_if, q_chain, q_next, q_seq, q_drop, q_ret, q_retF, q_retN, q_sif, q_break, q_cont, q_name, q_dnil, q_dcons, q_dtup, q_asg, q_set, q_par, q_for, q_range1, q_range2, q_iseq, q_ienum, q_call, q_cb, q_ncb, q_nop, q_lenset, q_mt, q_mt0, q_setix, q_augs, q_aug, q_nsl, q_onone, q_osome, q_gsl, q_raise, q_raiseF, q_try, q_lc, q_lc2, q_yes, q_wipe0, q_wipe, q_xf, q_I, q_I0, q_U, q_add, q_addT, q_addL, q_addR, q_onL, q_onSt, q_onSl, q_onSs, q_onSrct, q_onSrcl, q_eqI, q_eqB, q_eqS, q_eqN, q_isN, q_ix, q_ixL, q_in, q_len, q_sum, q_max, q_min, q_max2, q_min2, q_abs, q_int, q_intB, q_tupof, q_lstof, q_sort, q_rep, q_cat, q_isi, q_isis, q_setat, q_onC, q_append, q_pop, q_popAt, q_reverse, q_insert, q_sp1, q_sp2, q_sp3, q_sp4, q_at0, q_atS, q_st0, q_stS, q_iteT, q_iteF, q_isB, q_sumS, q_all, q_any, q_repT, q_spV, q_nLcX, q_sFz, q_gFld, q_sFldD, q_gMake, q_gCallI, q_gMeth, q_gRev])
    refine ⟨l2 _ _, eq_lists (.inr ⟨c, rfl, hM⟩) (.inl rfl) rfl ?_ ?_⟩
    · have : PyData.strOk ("count" : Str) = true := by decide +kernel
      simp [plainN, this]
    · exact ret_drop up qy
end
end LW

namespace LW
open PySem PySem.Spec PyProof.Rows L2 DL
section
variable {K : PySem.W.Frag} {mg : Str → Option Value}
theorem b_law : ∀ d0 M Q E, sp_law K [d0] M Q E → g_law K { nx := fun _ M => Q .non M, rt := Q, ex := fun x _ M => E x M } [some d0, none, none, none, none, none, none] M := by
  rintro d0 M Q E ⟨ns, rfl, q⟩
  unfold g_law
  dsimp only [q_op, q_un, q_var, q_c, q_nil, q_cons, q_tup, q_frz, q_cel, q_lst, q_test, q_onB, q_and, q_or, q_not, q_andV, q_orV, q_notV, q_if, q_chain, q_next, q_seq, q_drop, q_ret, q_retF, q_retN, q_sif, q_break, q_cont, q_name, q_dnil, q_dcons, q_dtup, q_asg, q_set, q_par, q_for, q_range1, q_range2, q_iseq, q_ienum, q_call, q_cb, q_ncb, q_nop, q_lenset, q_mt, q_mt0, q_setix, q_augs, q_aug, q_nsl, q_onone, q_osome, q_gsl, q_raise, q_raiseF, q_try, q_lc, q_lc2, q_yes, q_wipe0, q_wipe, q_xf, q_I, q_I0, q_U, q_add, q_addT, q_addL, q_addR, q_onL, q_onSt, q_onSl, q_onSs, q_onSrct, q_onSrcl, q_eqI, q_eqB, q_eqS, q_eqN, q_isN, q_ix, q_ixL, q_in, q_len, q_sum, q_max, q_min, q_max2, q_min2, q_abs, q_int, q_intB, q_tupof, q_lstof, q_sort, q_rep, q_cat, q_isi, q_isis, q_setat, q_onC, q_append, q_pop, q_popAt, q_reverse, q_insert, q_sp1, q_sp2, q_sp3, q_sp4, q_at0, q_atS, q_st0, q_stS, q_iteT, q_iteF, q_isB, q_sumS, q_all, q_any, q_repT, q_spV, q_nLcX, q_sFz, q_gFld, q_sFldD, q_gMake, q_gCallI, q_gMeth, q_gRev, sp__law_draws, sp__law_pair, sp__law_stands, sp__law_over, sp__law_take]
  have l2 : ∀ x y : D, [x, y].length ≤ sizeLine := fun x y => by rw [sz]; show 2 ≤ 16777216; omega
  refine ⟨ns, rfl, fun p xs0 hp => ⟨p, rfl, ⟨_, mset_same⟩, fun one other xs d => ?_⟩⟩
  rw [mset_mset]
  have hP : Pool (mset M p (.lst (iD xs))) p := ⟨_, mset_same⟩
  generalize mset M p (.lst (iD xs)) = M1 at *
  have p1 : Nn one := d.2.2.2.1
  have p2 : Nn other := d.2.2.2.2.1
  have hl : one.length = other.length := d.2.2.1
  have L : one.length ≤ 7 := d.2.1
  have s1 := d.2.2.2.2.2.1
  have s2 := d.2.2.2.2.2.2.1
  have b1 := d.2.2.2.2.2.2.2.1
  have b2 := d.2.2.2.2.2.2.2.2
  have R1 : ∀ M, Rows2 M (.lst (iD one)) (.lst (iD other)) one other := fun M => rows2 RowD.lst RowD.lst hl (by omega) p1 p2 (by omega) (by omega)
  have R2 : ∀ M, Rows2 M (.lst (iD other)) (.lst (iD one)) other one := fun M => rows2 RowD.lst RowD.lst hl.symm (by omega) p2 p1 (by omega) (by omega)
  refine ⟨_, rfl, _, rfl, l2 _ _, one, other, R1 _, one, other, _, R1 _, p1, p2, s1, s2, rfl, ?_⟩
  (try dsimp only [q_op, q_un, q_var, q_c, q_nil, q_cons, q_tup, q_frz, q_cel, q_lst, q_test, q_onB, q_and, q_or, q_not, q_andV, q_orV, q_notV, q_if, q_chain, q_next, q_seq, q_drop, q_ret, q_retF, q_retN, q_sif, q_break, q_cont, q_name, q_dnil, q_dcons, q_dtup, q_asg, q_set, q_par, q_for, q_range1, q_range2, q_iseq, q_ienum, q_call, q_cb, q_ncb, q_nop, q_lenset, q_mt, q_mt0, q_setix, q_augs, q_aug, q_nsl, q_onone, q_osome, q_gsl, q_raise, q_raiseF, q_try, q_lc, q_lc2, q_yes, q_wipe0, q_wipe, q_xf, q_I, q_I0, q_U, q_add, q_addT, q_addL, q_addR, q_onL, q_onSt, q_onSl, q_onSs, q_onSrct, q_onSrcl, q_eqI, q_eqB, q_eqS, q_eqN, q_isN, q_ix, q_ixL, q_in, q_len, q_sum, q_max, q_min, q_max2, q_min2, q_abs, q_int, q_intB, q_tupof, q_lstof, q_sort, q_rep, q_cat, q_isi, q_isis, q_setat, q_onC, q_append, q_pop, q_popAt, q_reverse, q_insert, q_sp1, q_sp2, q_sp3, q_sp4, q_at0, q_atS, q_st0, q_stS, q_iteT, q_iteF, q_isB, q_sumS, q_all, q_any, q_repT, q_spV, q_nLcX, q_sFz, q_gFld, q_sFldD, q_gMake, q_gCallI, q_gMeth, q_gRev])
  refine if_f (by simp) ⟨other, one, R2 _, other, one, _, R2 _, p2, p1, s2, s1, rfl, ?_⟩
  (try dsimp only [q_op, q_un, q_var, q_c, q_nil, q_cons, q_tup, q_frz, q_cel, q_lst, q_test, q_onB, q_and, q_or, q_not, q_andV, q_orV, q_notV, q_if, q_chain, q_next, q_seq, q_drop, q_ret, q_retF, q_retN, q_sif, q_break, q_cont, q_name, q_dnil, q_dcons, q_dtup, q_asg, q_set, q_par, q_for, q_range1, q_range2, q_iseq, q_ienum, q_call, q_cb, q_ncb, q_nop, q_lenset, q_mt, q_mt0, q_setix, q_augs, q_aug, q_nsl, q_onone, q_osome, q_gsl, q_raise, q_raiseF, q_try, q_lc, q_lc2, q_yes, q_wipe0, q_wipe, q_xf, q_I, q_I0, q_U, q_add, q_addT, q_addL, q_addR, q_onL, q_onSt, q_onSl, q_onSs, q_onSrct, q_onSrcl, q_eqI, q_eqB, q_eqS, q_eqN, q_isN, q_ix, q_ixL, q_in, q_len, q_sum, q_max, q_min, q_max2, q_min2, q_abs, q_int, q_intB, q_tupof, q_lstof, q_sort, q_rep, q_cat, q_isi, q_isis, q_setat, q_onC, q_append, q_pop, q_popAt, q_reverse, q_insert, q_sp1, q_sp2, q_sp3, q_sp4, q_at0, q_atS, q_st0, q_stS, q_iteT, q_iteF, q_isB, q_sumS, q_all, q_any, q_repT, q_spV, q_nLcX, q_sFz, q_gFld, q_sFldD, q_gMake, q_gCallI, q_gMeth, q_gRev])
  refine if_f (by simp) ⟨p, 8, rfl, rfl, by decide, hP, fun r zs r0 r1 => ?_⟩
  (try dsimp only [q_op, q_un, q_var, q_c, q_nil, q_cons, q_tup, q_frz, q_cel, q_lst, q_test, q_onB, q_and, q_or, q_not, q_andV, q_orV, q_notV, q_if, q_chain, q_next, q_seq, q_drop, q_ret, q_retF, q_retN, q_sif, q_break, q_cont, q_name, q_dnil, q_dcons, q_dtup, q_asg, q_set, q_par, q_for, q_range1, q_range2, q_iseq, q_ienum, q_call, q_cb, q_ncb, q_nop, q_lenset, q_mt, q_mt0, q_setix, q_augs, q_aug, q_nsl, q_onone, q_osome, q_gsl, q_raise, q_raiseF, q_try, q_lc, q_lc2, q_yes, q_wipe0, q_wipe, q_xf, q_I, q_I0, q_U, q_add, q_addT, q_addL, q_addR, q_onL, q_onSt, q_onSl, q_onSs, q_onSrct, q_onSrcl, q_eqI, q_eqB, q_eqS, q_eqN, q_isN, q_ix, q_ixL, q_in, q_len, q_sum, q_max, q_min, q_max2, q_min2, q_abs, q_int, q_intB, q_tupof, q_lstof, q_sort, q_rep, q_cat, q_isi, q_isis, q_setat, q_onC, q_append, q_pop, q_popAt, q_reverse, q_insert, q_sp1, q_sp2, q_sp3, q_sp4, q_at0, q_atS, q_st0, q_stS, q_iteT, q_iteF, q_isB, q_sumS, q_all, q_any, q_repT, q_spV, q_nLcX, q_sFz, q_gFld, q_sFldD, q_gMake, q_gCallI, q_gMeth, q_gRev])
  have hP2 : Pool (mset M1 p (.lst (iD zs))) p := ⟨zs, mset_same⟩
  generalize mset M1 p (.lst (iD zs)) = M2 at *
  refine ⟨l2 _ _, ?_⟩
  refine loop_map D.int [1, 2 + r] (fun s ρ M' => (∃ a, ρ = [some (.scr ns), some (.ref p), some (.lst [.lst (iD one), .lst (iD other)]), some (.lst (iD one)), some (.lst (iD other)), some (.lst [.tup (iD one), .tup (iD other)]), a]) ∧ M' = M2) (fun _ _ _ _ _ => trivial) ?_ ?_ ⟨⟨_, rfl⟩, rfl⟩
  · rintro s x ρ M' hx ⟨⟨a, rfl⟩, rfl⟩ Nx hN
    have hx := List.mem_of_getElem? hx
    have h19 : 1 ≤ x ∧ x ≤ 9 := by
      rcases List.mem_cons.mp hx with rfl | hx
      · decide
      · rw [List.mem_singleton.mp hx]; omega
    obtain ⟨n, rfl⟩ : ∃ n : Nat, x = (n : Int) := ⟨x.toNat, by omega⟩
    (try dsimp only [q_op, q_un, q_var, q_c, q_nil, q_cons, q_tup, q_frz, q_cel, q_lst, q_test, q_onB, q_and, q_or, q_not, q_andV, q_orV, q_notV, q_if, q_chain, q_next, q_seq, q_drop, q_ret, q_retF, q_retN, q_sif, q_break, q_cont, q_name, q_dnil, q_dcons, q_dtup, q_asg, q_set, q_par, q_for, q_range1, q_range2, q_iseq, q_ienum, q_call, q_cb, q_ncb, q_nop, q_lenset, q_mt, q_mt0, q_setix, q_augs, q_aug, q_nsl, q_onone, q_osome, q_gsl, q_raise, q_raiseF, q_try, q_lc, q_lc2, q_yes, q_wipe0, q_wipe, q_xf, q_I, q_I0, q_U, q_add, q_addT, q_addL, q_addR, q_onL, q_onSt, q_onSl, q_onSs, q_onSrct, q_onSrcl, q_eqI, q_eqB, q_eqS, q_eqN, q_isN, q_ix, q_ixL, q_in, q_len, q_sum, q_max, q_min, q_max2, q_min2, q_abs, q_int, q_intB, q_tupof, q_lstof, q_sort, q_rep, q_cat, q_isi, q_isis, q_setat, q_onC, q_append, q_pop, q_popAt, q_reverse, q_insert, q_sp1, q_sp2, q_sp3, q_sp4, q_at0, q_atS, q_st0, q_stS, q_iteT, q_iteF, q_isB, q_sumS, q_all, q_any, q_repT, q_spV, q_nLcX, q_sFz, q_gFld, q_sFldD, q_gMake, q_gCallI, q_gMeth, q_gRev])
    dsimp only [sp__law_count_right]
    refine ⟨one, other, n, rfl, rfl, rfl, d, by omega, by omega, ?_⟩
    (try dsimp only [q_op, q_un, q_var, q_c, q_nil, q_cons, q_tup, q_frz, q_cel, q_lst, q_test, q_onB, q_and, q_or, q_not, q_andV, q_orV, q_notV, q_if, q_chain, q_next, q_seq, q_drop, q_ret, q_retF, q_retN, q_sif, q_break, q_cont, q_name, q_dnil, q_dcons, q_dtup, q_asg, q_set, q_par, q_for, q_range1, q_range2, q_iseq, q_ienum, q_call, q_cb, q_ncb, q_nop, q_lenset, q_mt, q_mt0, q_setix, q_augs, q_aug, q_nsl, q_onone, q_osome, q_gsl, q_raise, q_raiseF, q_try, q_lc, q_lc2, q_yes, q_wipe0, q_wipe, q_xf, q_I, q_I0, q_U, q_add, q_addT, q_addL, q_addR, q_onL, q_onSt, q_onSl, q_onSs, q_onSrct, q_onSrcl, q_eqI, q_eqB, q_eqS, q_eqN, q_isN, q_ix, q_ixL, q_in, q_len, q_sum, q_max, q_min, q_max2, q_min2, q_abs, q_int, q_intB, q_tupof, q_lstof, q_sort, q_rep, q_cat, q_isi, q_isis, q_setat, q_onC, q_append, q_pop, q_popAt, q_reverse, q_insert, q_sp1, q_sp2, q_sp3, q_sp4, q_at0, q_atS, q_st0, q_stS, q_iteT, q_iteF, q_isB, q_sumS, q_all, q_any, q_repT, q_spV, q_nLcX, q_sFz, q_gFld, q_sFldD, q_gMake, q_gCallI, q_gMeth, q_gRev])
    exact if_f (by rfl) (hN _ _ ⟨⟨_, rfl⟩, rfl⟩)
  · rintro ρ M' ⟨⟨a, rfl⟩, rfl⟩
    (try dsimp only [q_op, q_un, q_var, q_c, q_nil, q_cons, q_tup, q_frz, q_cel, q_lst, q_test, q_onB, q_and, q_or, q_not, q_andV, q_orV, q_notV, q_if, q_chain, q_next, q_seq, q_drop, q_ret, q_retF, q_retN, q_sif, q_break, q_cont, q_name, q_dnil, q_dcons, q_dtup, q_asg, q_set, q_par, q_for, q_range1, q_range2, q_iseq, q_ienum, q_call, q_cb, q_ncb, q_nop, q_lenset, q_mt, q_mt0, q_setix, q_augs, q_aug, q_nsl, q_onone, q_osome, q_gsl, q_raise, q_raiseF, q_try, q_lc, q_lc2, q_yes, q_wipe0, q_wipe, q_xf, q_I, q_I0, q_U, q_add, q_addT, q_addL, q_addR, q_onL, q_onSt, q_onSl, q_onSs, q_onSrct, q_onSrcl, q_eqI, q_eqB, q_eqS, q_eqN, q_isN, q_ix, q_ixL, q_in, q_len, q_sum, q_max, q_min, q_max2, q_min2, q_abs, q_int, q_intB, q_tupof, q_lstof, q_sort, q_rep, q_cat, q_isi, q_isis, q_setat, q_onC, q_append, q_pop, q_popAt, q_reverse, q_insert, q_sp1, q_sp2, q_sp3, q_sp4, q_at0, q_atS, q_st0, q_stS, q_iteT, q_iteF, q_isB, q_sumS, q_all, q_any, q_repT, q_spV, q_nLcX, q_sFz, q_gFld, q_sFldD, q_gMake, q_gCallI, q_gMeth, q_gRev])
    dsimp only [sp__law_rising, sp__law_two_right, sp__law_refuses]
    refine ⟨one, other, rfl, rfl, d, ?_⟩
    (try dsimp only [q_op, q_un, q_var, q_c, q_nil, q_cons, q_tup, q_frz, q_cel, q_lst, q_test, q_onB, q_and, q_or, q_not, q_andV, q_orV, q_notV, q_if, q_chain, q_next, q_seq, q_drop, q_ret, q_retF, q_retN, q_sif, q_break, q_cont, q_name, q_dnil, q_dcons, q_dtup, q_asg, q_set, q_par, q_for, q_range1, q_range2, q_iseq, q_ienum, q_call, q_cb, q_ncb, q_nop, q_lenset, q_mt, q_mt0, q_setix, q_augs, q_aug, q_nsl, q_onone, q_osome, q_gsl, q_raise, q_raiseF, q_try, q_lc, q_lc2, q_yes, q_wipe0, q_wipe, q_xf, q_I, q_I0, q_U, q_add, q_addT, q_addL, q_addR, q_onL, q_onSt, q_onSl, q_onSs, q_onSrct, q_onSrcl, q_eqI, q_eqB, q_eqS, q_eqN, q_isN, q_ix, q_ixL, q_in, q_len, q_sum, q_max, q_min, q_max2, q_min2, q_abs, q_int, q_intB, q_tupof, q_lstof, q_sort, q_rep, q_cat, q_isi, q_isis, q_setat, q_onC, q_append, q_pop, q_popAt, q_reverse, q_insert, q_sp1, q_sp2, q_sp3, q_sp4, q_at0, q_atS, q_st0, q_stS, q_iteT, q_iteF, q_isB, q_sumS, q_all, q_any, q_repT, q_spV, q_nLcX, q_sFz, q_gFld, q_sFldD, q_gMake, q_gCallI, q_gMeth, q_gRev])
    refine if_f (by rfl) ⟨p, 6, rfl, rfl, by decide, hP2, fun r2 us r0 r1 => ?_⟩
    (try dsimp only [q_op, q_un, q_var, q_c, q_nil, q_cons, q_tup, q_frz, q_cel, q_lst, q_test, q_onB, q_and, q_or, q_not, q_andV, q_orV, q_notV, q_if, q_chain, q_next, q_seq, q_drop, q_ret, q_retF, q_retN, q_sif, q_break, q_cont, q_name, q_dnil, q_dcons, q_dtup, q_asg, q_set, q_par, q_for, q_range1, q_range2, q_iseq, q_ienum, q_call, q_cb, q_ncb, q_nop, q_lenset, q_mt, q_mt0, q_setix, q_augs, q_aug, q_nsl, q_onone, q_osome, q_gsl, q_raise, q_raiseF, q_try, q_lc, q_lc2, q_yes, q_wipe0, q_wipe, q_xf, q_I, q_I0, q_U, q_add, q_addT, q_addL, q_addR, q_onL, q_onSt, q_onSl, q_onSs, q_onSrct, q_onSrcl, q_eqI, q_eqB, q_eqS, q_eqN, q_isN, q_ix, q_ixL, q_in, q_len, q_sum, q_max, q_min, q_max2, q_min2, q_abs, q_int, q_intB, q_tupof, q_lstof, q_sort, q_rep, q_cat, q_isi, q_isis, q_setat, q_onC, q_append, q_pop, q_popAt, q_reverse, q_insert, q_sp1, q_sp2, q_sp3, q_sp4, q_at0, q_atS, q_st0, q_stS, q_iteT, q_iteF, q_isB, q_sumS, q_all, q_any, q_repT, q_spV, q_nLcX, q_sFz, q_gFld, q_sFldD, q_gMake, q_gCallI, q_gMeth, q_gRev])
    refine ⟨p, 6, rfl, rfl, by decide, ⟨us, mset_same⟩, fun r3 vs s0 s1' => ?_⟩
    (try dsimp only [q_op, q_un, q_var, q_c, q_nil, q_cons, q_tup, q_frz, q_cel, q_lst, q_test, q_onB, q_and, q_or, q_not, q_andV, q_orV, q_notV, q_if, q_chain, q_next, q_seq, q_drop, q_ret, q_retF, q_retN, q_sif, q_break, q_cont, q_name, q_dnil, q_dcons, q_dtup, q_asg, q_set, q_par, q_for, q_range1, q_range2, q_iseq, q_ienum, q_call, q_cb, q_ncb, q_nop, q_lenset, q_mt, q_mt0, q_setix, q_augs, q_aug, q_nsl, q_onone, q_osome, q_gsl, q_raise, q_raiseF, q_try, q_lc, q_lc2, q_yes, q_wipe0, q_wipe, q_xf, q_I, q_I0, q_U, q_add, q_addT, q_addL, q_addR, q_onL, q_onSt, q_onSl, q_onSs, q_onSrct, q_onSrcl, q_eqI, q_eqB, q_eqS, q_eqN, q_isN, q_ix, q_ixL, q_in, q_len, q_sum, q_max, q_min, q_max2, q_min2, q_abs, q_int, q_intB, q_tupof, q_lstof, q_sort, q_rep, q_cat, q_isi, q_isis, q_setat, q_onC, q_append, q_pop, q_popAt, q_reverse, q_insert, q_sp1, q_sp2, q_sp3, q_sp4, q_at0, q_atS, q_st0, q_stS, q_iteT, q_iteF, q_isB, q_sumS, q_all, q_any, q_repT, q_spV, q_nLcX, q_sFz, q_gFld, q_sFldD, q_gMake, q_gCallI, q_gMeth, q_gRev])
    rw [mset_mset]
    obtain ⟨n, hn⟩ : ∃ n : Nat, 1 + r2 = (n : Int) := ⟨(1 + r2).toNat, by omega⟩
    obtain ⟨m, hm⟩ : ∃ m : Nat, 1 + r3 = (m : Int) := ⟨(1 + r3).toNat, by omega⟩
    rw [hn, hm]
    refine ⟨one, other, n, m, rfl, rfl, rfl, rfl, d, by omega, by omega, by omega, by omega, ?_⟩
    (try dsimp only [q_op, q_un, q_var, q_c, q_nil, q_cons, q_tup, q_frz, q_cel, q_lst, q_test, q_onB, q_and, q_or, q_not, q_andV, q_orV, q_notV, q_if, q_chain, q_next, q_seq, q_drop, q_ret, q_retF, q_retN, q_sif, q_break, q_cont, q_name, q_dnil, q_dcons, q_dtup, q_asg, q_set, q_par, q_for, q_range1, q_range2, q_iseq, q_ienum, q_call, q_cb, q_ncb, q_nop, q_lenset, q_mt, q_mt0, q_setix, q_augs, q_aug, q_nsl, q_onone, q_osome, q_gsl, q_raise, q_raiseF, q_try, q_lc, q_lc2, q_yes, q_wipe0, q_wipe, q_xf, q_I, q_I0, q_U, q_add, q_addT, q_addL, q_addR, q_onL, q_onSt, q_onSl, q_onSs, q_onSrct, q_onSrcl, q_eqI, q_eqB, q_eqS, q_eqN, q_isN, q_ix, q_ixL, q_in, q_len, q_sum, q_max, q_min, q_max2, q_min2, q_abs, q_int, q_intB, q_tupof, q_lstof, q_sort, q_rep, q_cat, q_isi, q_isis, q_setat, q_onC, q_append, q_pop, q_popAt, q_reverse, q_insert, q_sp1, q_sp2, q_sp3, q_sp4, q_at0, q_atS, q_st0, q_stS, q_iteT, q_iteF, q_isB, q_sumS, q_all, q_any, q_repT, q_spV, q_nLcX, q_sFz, q_gFld, q_sFldD, q_gMake, q_gCallI, q_gMeth, q_gRev])
    refine if_f (by rfl) ⟨p, one, other, rfl, rfl, rfl, d, ⟨vs, mset_same⟩, fun ws => ?_⟩
    (try dsimp only [q_op, q_un, q_var, q_c, q_nil, q_cons, q_tup, q_frz, q_cel, q_lst, q_test, q_onB, q_and, q_or, q_not, q_andV, q_orV, q_notV, q_if, q_chain, q_next, q_seq, q_drop, q_ret, q_retF, q_retN, q_sif, q_break, q_cont, q_name, q_dnil, q_dcons, q_dtup, q_asg, q_set, q_par, q_for, q_range1, q_range2, q_iseq, q_ienum, q_call, q_cb, q_ncb, q_nop, q_lenset, q_mt, q_mt0, q_setix, q_augs, q_aug, q_nsl, q_onone, q_osome, q_gsl, q_raise, q_raiseF, q_try, q_lc, q_lc2, q_yes, q_wipe0, q_wipe, q_xf, q_I, q_I0, q_U, q_add, q_addT, q_addL, q_addR, q_onL, q_onSt, q_onSl, q_onSs, q_onSrct, q_onSrcl, q_eqI, q_eqB, q_eqS, q_eqN, q_isN, q_ix, q_ixL, q_in, q_len, q_sum, q_max, q_min, q_max2, q_min2, q_abs, q_int, q_intB, q_tupof, q_lstof, q_sort, q_rep, q_cat, q_isi, q_isis, q_setat, q_onC, q_append, q_pop, q_popAt, q_reverse, q_insert, q_sp1, q_sp2, q_sp3, q_sp4, q_at0, q_atS, q_st0, q_stS, q_iteT, q_iteF, q_isB, q_sumS, q_all, q_any, q_repT, q_spV, q_nLcX, q_sFz, q_gFld, q_sFldD, q_gMake, q_gCallI, q_gMeth, q_gRev])
    refine if_t (by rfl) ⟨l2 _ _, eq_self rfl ?_ ?_⟩
    · have pt : ∀ l : List Int, plainN 8 (.tup (iD l)) = true := fun l => List.all_eq_true.mpr fun x hx => by
        obtain ⟨i, _, rfl⟩ := List.mem_map.mp hx
        rfl
      exact List.all_eq_true.mpr fun x hx => by
        rcases List.mem_cons.mp hx with rfl | hx
        · exact pt _
        · rw [List.mem_singleton.mp hx]; exact pt _
    · exact q _
end
end LW

namespace LW
open PySem PySem.Spec PyProof.Rows L2 DL
theorem ok_law {P : Program} {w : World} {K : PySem.W.Frag} {mg : Str → Option Value} {base : Heap} (T : Tx K mg) : OkD P w K mg base 9 "law" ["_law_script"] (sp_law K) := by
  have C__law_draws := w__law_draws (P := P) (w := w) (base := base) T  (fun _ _ _ _ h => len_sp1 h) b__law_draws
  have C__law_take := w__law_take (P := P) (w := w) (base := base) T  (fun _ _ _ _ h => len_sp2 h) b__law_take
  have C__law_die := w__law_die (P := P) (w := w) (base := base) T C__law_take (fun _ _ _ _ h => len_sp2 h) b__law_die
  have C__law_dice := w__law_dice (P := P) (w := w) (base := base) T C__law_take C__law_die (fun _ _ _ _ h => len_sp3 h) b__law_dice
  have C__law_pair := w__law_pair (P := P) (w := w) (base := base) T C__law_take C__law_dice C__law_die (fun _ _ _ _ h => len_sp1 h) b__law_pair
  have C_running := w_running (P := P) (w := w) (base := base) T  (fun _ _ _ _ h => len_sp1 h) b_running
  have C_is_row := w_is_row (P := P) (w := w) (base := base) T  (fun _ _ _ _ h => len_sp1 h) b_is_row
  have C_is_int := w_is_int (P := P) (w := w) (base := base) T  (fun _ _ _ _ h => len_sp1 h) b_is_int
  have C_die_of := w_die_of (P := P) (w := w) (base := base) T C_is_row C_is_int (fun _ _ _ _ h => len_sp1 h) b_die_of
  have C_belows := w_belows (P := P) (w := w) (base := base) T C_running C_die_of (fun _ _ _ _ h => len_sp1 h) b_belows
  have C_check_within := w_check_within (P := P) (w := w) (base := base) T C_is_int (fun _ _ _ _ h => len_sp4 h) b_check_within
  have C_power_of := w_power_of (P := P) (w := w) (base := base) T  (fun _ _ _ _ h => len_sp2 h) b_power_of
  have C_greatest_die := w_greatest_die (P := P) (w := w) (base := base) T C_belows C_check_within C_power_of (fun _ _ _ _ h => len_sp2 h) b_greatest_die
  have C_two_dice := w_two_dice (P := P) (w := w) (base := base) T C_die_of (fun _ _ _ _ h => len_sp2 h) b_two_dice
  have C_common_divisor := w_common_divisor (P := P) (w := w) (base := base) T  (fun _ _ _ _ h => len_sp1 h) b_common_divisor
  have C_lowest := w_lowest (P := P) (w := w) (base := base) T C_common_divisor (fun _ _ _ _ h => len_sp2 h) b_lowest
  have C_count_wins := w_count_wins (P := P) (w := w) (base := base) T  (fun _ _ _ _ h => len_sp2 h) b_count_wins
  have C_chance := w_chance (P := P) (w := w) (base := base) T C_two_dice C_lowest C_count_wins (fun _ _ _ _ h => len_sp2 h) b_chance
  have C_chance_of_two := w_chance_of_two (P := P) (w := w) (base := base) T C_greatest_die C_die_of C_check_within C_chance (fun _ _ _ _ h => len_sp4 h) b_chance_of_two
  have C__law_power := w__law_power (P := P) (w := w) (base := base) T  (fun _ _ _ _ h => len_sp2 h) b__law_power
  have C__law_at_most := w__law_at_most (P := P) (w := w) (base := base) T  (fun _ _ _ _ h => len_sp2 h) b__law_at_most
  have C_stands_over := w_stands_over (P := P) (w := w) (base := base) T C_two_dice C_running (fun _ _ _ _ h => len_sp2 h) b_stands_over
  have C__law_stands := w__law_stands (P := P) (w := w) (base := base) T C_stands_over (fun _ _ _ _ h => len_sp3 h) b__law_stands
  have C__law_divisor := w__law_divisor (P := P) (w := w) (base := base) T  (fun _ _ _ _ h => len_sp2 h) b__law_divisor
  have C__law_int := w__law_int (P := P) (w := w) (base := base) T  (fun _ _ _ _ h => len_sp1 h) b__law_int
  have C__law_is_fraction := w__law_is_fraction (P := P) (w := w) (base := base) T C__law_divisor C__law_int (fun _ _ _ _ h => len_sp1 h) b__law_is_fraction
  have C__law_same_worth := w__law_same_worth (P := P) (w := w) (base := base) T  (fun _ _ _ _ h => len_sp2 h) b__law_same_worth
  have C_least_die := w_least_die (P := P) (w := w) (base := base) T C_die_of C_greatest_die (fun _ _ _ _ h => len_sp2 h) b_least_die
  have C__law_wins := w__law_wins (P := P) (w := w) (base := base) T  (fun _ _ _ _ h => len_sp2 h) b__law_wins
  have C__law_most := w__law_most (P := P) (w := w) (base := base) T C__law_power (fun _ _ _ _ h => len_sp2 h) b__law_most
  have C__law_rising := w__law_rising (P := P) (w := w) (base := base) T C_chance_of_two C__law_power C__law_at_most C__law_stands C__law_is_fraction C__law_same_worth C_greatest_die C_least_die C__law_wins C__law_most (fun _ _ _ _ h => len_sp2 h) b__law_rising
  have C__law_two_right := w__law_two_right (P := P) (w := w) (base := base) T C_chance_of_two C__law_most C__law_is_fraction C__law_same_worth C__law_wins (fun _ _ _ _ h => len_sp4 h) b__law_two_right
  have C__law_refusal := w__law_refusal (P := P) (w := w) (base := base) T C_chance_of_two (fun _ _ _ _ h => len_sp4 h) (b__law_refusal T)
  have C_Greatest_init := w_Greatest_init (P := P) (w := w) (base := base) T C_check_within (fun _ _ _ _ h => len_sp2 h) (b_Greatest_init T)
  have C_Least_init := w_Least_init (P := P) (w := w) (base := base) T C_check_within (fun _ _ _ _ h => len_sp2 h) (b_Least_init T)
  have C__law_refuses := w__law_refuses (P := P) (w := w) (base := base) T C__law_take C__law_refusal C_Greatest_init C_Least_init (fun _ _ _ _ h => len_sp3 h) (b__law_refuses T)
  have C__law_over := w__law_over (P := P) (w := w) (base := base) T  (fun _ _ _ _ h => len_sp2 h) b__law_over
  have C_Greatest_call := w_Greatest_call (P := P) (w := w) (base := base) T C_greatest_die (fun _ _ _ _ h => len_sp2 h) (b_Greatest_call T)
  have C_Least_call := w_Least_call (P := P) (w := w) (base := base) T C_least_die (fun _ _ _ _ h => len_sp2 h) (b_Least_call T)
  have C_count_lead := w_count_lead (P := P) (w := w) (base := base) T  (fun _ _ _ _ h => len_sp2 h) b_count_lead
  have C_lead := w_lead (P := P) (w := w) (base := base) T C_two_dice C_count_lead (fun _ _ _ _ h => len_sp2 h) b_lead
  have C__law_lead := w__law_lead (P := P) (w := w) (base := base) T  (fun _ _ _ _ h => len_sp2 h) b__law_lead
  have C__law_sign := w__law_sign (P := P) (w := w) (base := base) T  (fun _ _ _ _ h => len_sp1 h) b__law_sign
  have C__law_count_right := w__law_count_right (P := P) (w := w) (base := base) T C_Greatest_init C_Least_init C__law_over C_Greatest_call C_Least_call C_lead C__law_stands C__law_most C_greatest_die C_least_die C__law_power C__law_lead C__law_sign (fun _ _ _ _ h => len_sp3 h) (b__law_count_right T)
  exact w_law (P := P) (w := w) (base := base) T C__law_draws C__law_pair C__law_rising C__law_two_right C__law_refuses C__law_stands C__law_take C__law_count_right C__law_over (fun _ _ _ _ h => len_sp1 h) b_law
end LW
open PySem PySem.W PySem.Calls PyProof.Rows
set_option maxRecDepth 100000 in
set_option maxHeartbeats 0 in
theorem PySem.Challenge.cw_dicewins_k76_standing_over_for_many_thro_holds : PySem.Challenge.rw_dicewins_k76_standing_over_for_many_thro.Holds := by
  w_on; o_law
  refine HandSHeadRun.head_any (r := OpenLaw.row PySem.Challenge.rw_dicewins_k76_standing_over_for_many_thro) (q := view (OpenLaw.row PySem.Challenge.rw_dicewins_k76_standing_over_for_many_thro).prog [54]) (H := LW.hk) (ob := LW.ob) (M := 4000) (loose := LW.loose) (d := HandSHeadRun.topDef (OpenLaw.row PySem.Challenge.rw_dicewins_k76_standing_over_for_many_thro).prog 54) (kwd := []) LW.ob_eq
    (by kernel_rfl) (fun s => by kernel_rfl) LW.run (by kernel_rfl) (by kernel_rfl) (by kernel_rfl) (by rfl) (by first | assumption | decide +kernel) (by decide +kernel) ⟨rfl, rfl, rfl, rfl, rfl, by decide +kernel⟩ ?hw ?hc
  case hw => w_witness2
  case hc =>
    refine DL.walk_ofW (l := PySem.Challenge.rw_dicewins_k76_standing_over_for_many_thro) (n := 63) (k := 9) (x := "_law_script") rfl (by decide) (by kernel_rfl) ⟨rfl, by decide, by decide⟩ ?F
    intro w mg fa h Y G hmg0
    obtain ⟨K, KX, c⟩ := Y
    have hmg : mg ("law" : PySem.Str) = some (.ref fa) := by
      have e : (HandSHeadRun.topDef (OpenLaw.row PySem.Challenge.rw_dicewins_k76_standing_over_for_many_thro).prog 54).name = ("law" : PySem.Str) := by kernel_rfl
      rw [← e]
      exact hmg0
    have T := LW.tx_of KX G c
    have e := hmg.symm.trans T.g_law
    cases e
    obtain ⟨fd, F⟩ := T.F_law
    obtain ⟨oc, od, sl, lk⟩ := DL.fun_lk F
    have hb := DL.fun_bindsA (ps := ["_law_script"]) F fun _ _ _ _ _ _ us hl => match us, hl with | [_], _ => rfl
    refine ⟨K, fd, LW.sp_law K, KX, fun s u => hb s [u] rfl, fun ns => ⟨ns, rfl, fun _ => rfl⟩, fun base _ _ => ?_⟩
    obtain ⟨fd2, F2, _, _, _, oc2, od2, sl2, lk2⟩ := LW.ok_law (P := (PySem.Challenge.rw_dicewins_k76_standing_over_for_many_thro).prog) (w := w) (base := base) T
    rw [lk] at lk2
    cases lk2
    exact F2
#print axioms PySem.Challenge.cw_dicewins_k76_standing_over_for_many_thro_holds

