import PyProof.Rows.All
import Wide.All
import OpenK.AllK
import Wide.FinOn
import HandS.ForMost
import HandS.ForExc
import HandS.Slots
import HandS.Wide
import HandS.IsInst
import HandS.Conv
import HandS.SortInts
import HandS.More
import HandS.TupAny
import HandS.TupSets
import HandS.SetFor
import HandS.Zip
import HandS.Rev
import KE.GoesMore
import KE.DataMinMax
import KE.KStateDown
import HandS.Head0
import HandS.Head1
import HandS.Head2
import HandS.HeadEnd
import HandS.HeadHook1
import HandS.HeadHook2
import HandS.HeadHook3
import HandS.HeadHook4
import HandS.HeadNt
import HandS.ExcInit
import HandS.ExcField
import HandS.ExcIs
import HandS.TryMany
import KE.Datum
import HandS.Deep
import HandS.Style
import KE.DataFind
import PyProof.P3Eq
import HandS.Star
import HandS.TupMul
import KE.KTupSum
import KE.GoesRaise
import HandS.Property
import HandS.ClsMeth
import HandS.OwnIter
import HandS.IterVal
import HandS.SlotsOwn
import HandS.WideBits
import KE.KUnpack
import HandS.Defaults
import KE.KOpsOwn
import HandS.RevTup
import HandS.Iter
import PyProof.InstEq
import KE.KDictZip
import PyProof.P3In
import PyProof.ReprRoads
import PyProof.ReprLen
import HandS.RaiseMore
import PySem.Challenge.RW_dicewins_k52_chains_rests_raised_cut_bac
import PyProof.Rows.ReprShort
set_option Elab.async false
set_option linter.all false
set_option maxRecDepth 100000
namespace DL
open PySem PySem.Spec L2

inductive D where
  | non | bl (b : Bool) | int (i : Int) | str (x : Str) | ty (n : String) | ref (a : Addr)
  | tup (xs : List D) | lst (xs : List D) | scr (ns : List Int)
  | obj (C : Addr) (fs : List (Str × D))
  | xo (a : Addr) (d : Option Addr) (fs : List (Str × D))
  | sob (C : Addr) (d : D)

def XdAt (H : Hp) (d : Option Addr) (gs : List (Str × V)) : Prop := match d with
  | some dd => H dd = some (.xd gs)
  | none => gs = []
inductive MO where
  | lst (xs : List D)
  | ins (C : Addr) (fs : List (Str × D))
  | own (x : Addr)
  | sln (C dx : Addr)
  | slt (C dx : Addr) (d : D)
abbrev Mem := Addr → Option MO
def mset (M : Mem) (a : Addr) (o : MO) : Mem := fun b => if b = a then some o else M b
theorem mset_same {M : Mem} {a : Addr} {o : MO} : mset M a o a = some o := by unfold mset; rw [if_pos rfl]
theorem mset_ne {M : Mem} {a b : Addr} {o : MO} (h : b ≠ a) : mset M a o b = M b := by unfold mset; rw [if_neg h]
theorem mset_mset {M : Mem} {a : Addr} {o u : MO} : mset (mset M a o) a u = mset M a u := by
  funext b
  unfold mset
  split <;> rfl

def TupAt (K : PySem.W.Frag) (H : Hp) (a : Addr) (vs : List V) : Prop := H a = some (.tup vs) ∨
  ∃ (o : Obj) (its : Array Value) (n : Nat), K.lookup a = some o ∧ o.cls = .type "tuple" ∧ o.data = .seq its n ∧ its.size ≤ sizeLine ∧ Vals vs its.toList
theorem TupAt.sq {K : PySem.W.Frag} {H : Hp} {a : Addr} {vs : List V} (h : TupAt K H a vs) : SqT K H a vs := h.imp (fun h => .inl h) fun h => h

mutual
def Rp (K : PySem.W.Frag) (F : Addr → Prop) (H : Hp) : D → V → Prop
  | .non, v => v = .non
  | .bl b, v => v = .bl b
  | .int i, v => v = .int i
  | .str x, v => v = .str x
  | .ty n, v => v = .ty n
  | .ref a, v => v = .ref a
  | .tup ds, v => ∃ a vs, v = .ref a ∧ TupAt K H a vs ∧ Rps K F H ds vs
  | .lst ds, v => ∃ a vs, v = .ref a ∧ H a = some (.lst vs) ∧ F a ∧ Rps K F H ds vs
  | .scr ns, v => ∃ a, v = .ref a ∧ ((∃ o, H a = some (.frz o (.lst (ns.map V.int)))) ∨ ∀ H', SqL K H' a (ns.map V.int))
  | .obj C fs, v => ∃ a dx gs, v = .ref a ∧ H a = some (.ins C dx gs) ∧ F a ∧ Rpf K F H fs gs
  | .xo a d fs, v => v = .ref a ∧ ∃ gs, XdAt H d gs ∧ Rpf K F H fs gs
  | .sob C d, v => ∃ a dx w, v = .ref a ∧ H a = some (SlX.SlO a C dx [some w]) ∧ F a ∧ H dx = some (.xd []) ∧ Rp K F H d w
def Rps (K : PySem.W.Frag) (F : Addr → Prop) (H : Hp) : List D → List V → Prop
  | [], vs => vs = []
  | d :: ds, vs => ∃ v r, vs = v :: r ∧ Rp K F H d v ∧ Rps K F H ds r
def Rpf (K : PySem.W.Frag) (F : Addr → Prop) (H : Hp) : List (Str × D) → List (Str × V) → Prop
  | [], vs => vs = []
  | p :: ds, vs => ∃ v r, vs = (p.1, v) :: r ∧ Rp K F H p.2 v ∧ Rpf K F H ds r
end

structure ExtW (F : Addr → Prop) (H : Hp) (F' : Addr → Prop) (H' : Hp) : Prop where
  mono : ∀ a, F a → F' a
  fro : ∀ a o, F a → H a = some o → H' a = some o
  tup : ∀ a xs, H a = some (.tup xs) → H' a = some (.tup xs)
  frz : ∀ a o u, H a = some (.frz o u) → H' a = some (.frz o u)
  xd : ∀ a fs, H a = some (.xd fs) → H' a = some (.xd fs)
structure Ext (F : Addr → Prop) (H : Hp) (M : Mem) (F' : Addr → Prop) (H' : Hp) (M' : Mem) : Prop extends ExtW F H F' H' where
  frame : ∀ a o, H a = some o → M a = none → H' a = some o
  dom : ∀ a, M' a ≠ none → M a ≠ none ∨ H a = none
  new : ∀ a, F' a → F a ∨ M a ≠ none ∨ H a = none
instance {F F' : Addr → Prop} {H H' : Hp} {M M' : Mem} : CoeOut (Ext F H M F' H' M') (ExtW F H F' H') := ⟨Ext.toExtW⟩
theorem ExtW.refl (F : Addr → Prop) (H : Hp) : ExtW F H F H := ⟨fun _ h => h, fun _ _ _ h => h, fun _ _ h => h, fun _ _ _ h => h, fun _ _ h => h⟩
theorem ExtW.trans {F F1 F2 : Addr → Prop} {H H1 H2 : Hp} (a : ExtW F H F1 H1) (b : ExtW F1 H1 F2 H2) : ExtW F H F2 H2 :=
  ⟨fun x h => b.mono x (a.mono x h), fun x o f h => b.fro x o (a.mono x f) (a.fro x o f h), fun x xs h => b.tup x xs (a.tup x xs h), fun x o u h => b.frz x o u (a.frz x o u h), fun x fs h => b.xd x fs (a.xd x fs h)⟩
theorem Ext.refl (F : Addr → Prop) (H : Hp) (M : Mem) : Ext F H M F H M := ⟨ExtW.refl F H, fun _ _ h _ => h, fun _ h => .inl h, fun _ h => .inl h⟩
theorem Ext.trans {F F1 F2 : Addr → Prop} {H H1 H2 : Hp} {M M1 M2 : Mem} (a : Ext F H M F1 H1 M1) (b : Ext F1 H1 M1 F2 H2 M2) : Ext F H M F2 H2 M2 := by
  have n1 : ∀ x o, H x = some o → M x = none → M1 x = none := fun x o h n => by
    cases q : M1 x with
    | none => rfl
    | some u => exact ((a.dom x (by rw [q]; exact fun z => nomatch z)).elim (fun z => z n) fun z => by rw [h] at z; cases z).elim
  have w : ∀ x, H1 x = none → M x ≠ none ∨ H x = none := fun x z => by
    cases q : H x with
    | none => exact .inr rfl
    | some o =>
      refine .inl fun n => ?_
      rw [a.frame x o q n] at z
      cases z
  exact ⟨a.toExtW.trans b.toExtW, fun x o h n => b.frame x o (a.frame x o h n) (n1 x o h n), fun x h => (b.dom x h).elim (a.dom x) (w x), fun x h => (b.new x h).elim (a.new x) fun z => .inr (z.elim (a.dom x) (w x))⟩
theorem Ext.was {F F1 : Addr → Prop} {H H1 : Hp} {M M1 : Mem} (a : Ext F H M F1 H1 M1) {p : Addr} (hp : H1 p = none) : M p ≠ none ∨ H p = none := by
  cases q : H p with
  | none => exact .inr rfl
  | some o =>
    refine .inl fun n => ?_
    rw [a.frame p o q n] at hp
    cases hp
theorem Ext.laid {F F' : Addr → Prop} {H : Hp} {M : Mem} {p : Addr} {o : HO} (hp : H p = none) (hF : ∀ a, F a → F' a) (hN : ∀ a, F' a → F a ∨ a = p := by intro a h; exact .inl h) : Ext F H M F' (upd H p o) M :=
  ⟨⟨hF, fun a u f h => by rw [upd_ne (ne_of_none h hp)]; exact h, fun a u h => by rw [upd_ne (ne_of_none h hp)]; exact h, fun a u w h => by rw [upd_ne (ne_of_none h hp)]; exact h, fun a u h => by rw [upd_ne (ne_of_none h hp)]; exact h⟩,
   fun a u h _ => by rw [upd_ne (ne_of_none h hp)]; exact h, fun _ h => .inl h, fun a h => (hN a h).imp (fun z => z) fun z => .inr (by rw [z]; exact hp)⟩
theorem ExtW.write {F : Addr → Prop} {H : Hp} {p : Addr} {o o' : HO} (hp : H p = some o) (hF : ¬ F p) (h1 : ∀ xs, o ≠ .tup xs) (h2 : ∀ u w, o ≠ .frz u w) (h3 : ∀ fs, o ≠ .xd fs) : ExtW F H F (upd H p o') :=
  ⟨fun _ h => h, fun a u f h => by rw [upd_ne (show a ≠ p from fun e => hF (by rw [← e]; exact f))]; exact h,
   fun a u h => by rw [upd_ne (fun e => by subst e; rw [hp] at h; exact h1 _ (Option.some.inj h))]; exact h,
   fun a u w h => by rw [upd_ne (fun e => by subst e; rw [hp] at h; exact h2 _ _ (Option.some.inj h))]; exact h,
   fun a u h => by rw [upd_ne (fun e => by subst e; rw [hp] at h; exact h3 _ (Option.some.inj h))]; exact h⟩
theorem Ext.write {F : Addr → Prop} {H : Hp} {M M' : Mem} {p : Addr} {o o' : HO} (hp : H p = some o) (hF : ¬ F p) (hM : M p ≠ none) (hM' : ∀ a, M' a ≠ none → M a ≠ none) (h1 : ∀ xs, o ≠ .tup xs) (h2 : ∀ u w, o ≠ .frz u w) (h3 : ∀ fs, o ≠ .xd fs) : Ext F H M F (upd H p o') M' :=
  ⟨ExtW.write hp hF h1 h2 h3, fun a u h n => by rw [upd_ne (show a ≠ p from fun e => hM (by rw [← e]; exact n))]; exact h, fun a h => .inl (hM' a h), fun a h => .inl h⟩
theorem ExtW.grow {F F' : Addr → Prop} {H : Hp} (hF : ∀ a, F a → F' a) : ExtW F H F' H := ⟨hF, fun _ _ _ h => h, fun _ _ h => h, fun _ _ _ h => h, fun _ _ h => h⟩
theorem Ext.grow {F F' : Addr → Prop} {H : Hp} {M M' : Mem} (hF : ∀ a, F a → F' a) (hM : ∀ a, M' a ≠ none → M a ≠ none ∨ H a = none) (hN : ∀ a, F' a → F a ∨ M a ≠ none ∨ H a = none) : Ext F H M F' H M' := ⟨ExtW.grow hF, fun _ _ h _ => h, hM, hN⟩

section
variable {K : PySem.W.Frag} {F F' : Addr → Prop} {H H' : Hp} {M M' : Mem}
theorem ExtW.tupAt (x : ExtW F H F' H') {a : Addr} {vs : List V} (h : TupAt K H a vs) : TupAt K H' a vs := h.imp (x.tup _ _) fun h => h
theorem ExtW.rd (x : ExtW F H F' H') {a : Addr} {u : HO} (f : F a) (h : Rd H a u) : Rd H' a u := by
  rcases h with h | ⟨o, h⟩
  · exact .inl (x.fro _ _ f h)
  · exact .inr ⟨o, x.fro _ _ f h⟩
mutual
theorem Rp.mono (x : ExtW F H F' H') : ∀ (d : D) (v : V), Rp K F H d v → Rp K F' H' d v
  | .non, v, h => by unfold Rp at h ⊢; exact h
  | .bl b, v, h => by unfold Rp at h ⊢; exact h
  | .int b, v, h => by unfold Rp at h ⊢; exact h
  | .str b, v, h => by unfold Rp at h ⊢; exact h
  | .ty b, v, h => by unfold Rp at h ⊢; exact h
  | .ref b, v, h => by unfold Rp at h ⊢; exact h
  | .tup ds, v, h => by
    unfold Rp at h ⊢
    obtain ⟨a, vs, e, q, r⟩ := h
    exact ⟨a, vs, e, x.tupAt q, Rps.mono x ds vs r⟩
  | .lst ds, v, h => by
    unfold Rp at h ⊢
    obtain ⟨a, vs, e, q, f, r⟩ := h
    exact ⟨a, vs, e, x.fro _ _ f q, x.mono _ f, Rps.mono x ds vs r⟩
  | .scr ns, v, h => by
    unfold Rp at h ⊢
    obtain ⟨a, e, q⟩ := h
    exact ⟨a, e, q.imp (fun ⟨o, q⟩ => ⟨o, x.frz _ _ _ q⟩) fun q => q⟩
  | .obj C fs, v, h => by
    unfold Rp at h ⊢
    obtain ⟨a, dx, gs, e, q, f, r⟩ := h
    exact ⟨a, dx, gs, e, x.fro _ _ f q, x.mono _ f, Rpf.mono x fs gs r⟩
  | .xo a d fs, v, h => by
    unfold Rp at h ⊢
    obtain ⟨e, gs, q, r⟩ := h
    refine ⟨e, gs, ?_, Rpf.mono x fs gs r⟩
    cases d with
    | none => exact q
    | some dd => exact x.xd _ _ q
  | .sob C d, v, h => by
    unfold Rp at h ⊢
    obtain ⟨a, dx, w, e, q, f, q2, r⟩ := h
    exact ⟨a, dx, w, e, x.fro _ _ f q, x.mono _ f, x.xd _ _ q2, Rp.mono x d w r⟩
theorem Rps.mono (x : ExtW F H F' H') : ∀ (ds : List D) (vs : List V), Rps K F H ds vs → Rps K F' H' ds vs
  | [], vs, h => by unfold Rps at h ⊢; exact h
  | d :: ds, vs, h => by
    unfold Rps at h ⊢
    obtain ⟨v, r, e, h1, h2⟩ := h
    exact ⟨v, r, e, Rp.mono x d v h1, Rps.mono x ds r h2⟩
theorem Rpf.mono (x : ExtW F H F' H') : ∀ (ds : List (Str × D)) (vs : List (Str × V)), Rpf K F H ds vs → Rpf K F' H' ds vs
  | [], vs, h => by unfold Rpf at h ⊢; exact h
  | p :: ds, vs, h => by
    unfold Rpf at h ⊢
    obtain ⟨v, r, e, h1, h2⟩ := h
    exact ⟨v, r, e, Rp.mono x p.2 v h1, Rpf.mono x ds r h2⟩
end
theorem Rps.nil : Rps K F H [] [] := by unfold Rps; rfl
theorem Rps.cons {d : D} {ds : List D} {v : V} {vs : List V} (h : Rp K F H d v) (t : Rps K F H ds vs) : Rps K F H (d :: ds) (v :: vs) := by
  unfold Rps
  exact ⟨v, vs, rfl, h, t⟩
theorem Rps.length : ∀ {ds : List D} {vs : List V}, Rps K F H ds vs → vs.length = ds.length
  | [], vs, h => by unfold Rps at h; subst h; rfl
  | d :: ds, vs, h => by
    unfold Rps at h
    obtain ⟨v, r, rfl, _, h2⟩ := h
    rw [List.length_cons, List.length_cons, Rps.length h2]
theorem Rps.append : ∀ {ds es : List D} {vs ws : List V}, Rps K F H ds vs → Rps K F H es ws → Rps K F H (ds ++ es) (vs ++ ws)
  | [], es, vs, ws, h, g => by unfold Rps at h; subst h; exact g
  | d :: ds, es, vs, ws, h, g => by
    unfold Rps at h
    obtain ⟨v, r, rfl, h1, h2⟩ := h
    exact Rps.cons h1 (Rps.append h2 g)
theorem Rps.get : ∀ {ds : List D} {vs : List V} {i : Nat} {d : D}, Rps K F H ds vs → ds[i]? = some d → ∃ v, vs[i]? = some v ∧ Rp K F H d v
  | [], vs, i, d, h, e => by simp at e
  | d :: ds, vs, 0, x, h, e => by
    unfold Rps at h
    obtain ⟨v, r, rfl, h1, h2⟩ := h
    simp at e
    subst e
    exact ⟨v, by simp, h1⟩
  | d :: ds, vs, i + 1, x, h, e => by
    unfold Rps at h
    obtain ⟨v, r, rfl, h1, h2⟩ := h
    obtain ⟨w, a, b⟩ := Rps.get (i := i) (d := x) h2 (by simpa using e)
    exact ⟨w, by simpa using a, b⟩
theorem Rps.set : ∀ {ds : List D} {vs : List V} {d : D} {v : V} (i : Nat), Rps K F H ds vs → Rp K F H d v → Rps K F H (ds.set i d) (vs.set i v)
  | [], vs, d, v, i, h, g => by unfold Rps at h; subst h; exact Rps.nil
  | c :: ds, vs, d, v, 0, h, g => by
    unfold Rps at h
    obtain ⟨w, r, rfl, h1, h2⟩ := h
    exact Rps.cons g h2
  | c :: ds, vs, d, v, i + 1, h, g => by
    unfold Rps at h
    obtain ⟨w, r, rfl, h1, h2⟩ := h
    exact Rps.cons h1 (Rps.set i h2 g)
theorem Rps.take : ∀ {ds : List D} {vs : List V} (n : Nat), Rps K F H ds vs → Rps K F H (ds.take n) (vs.take n)
  | ds, vs, 0, h => by simp [Rps.nil]
  | [], vs, n + 1, h => by unfold Rps at h; subst h; exact Rps.nil
  | c :: ds, vs, n + 1, h => by
    unfold Rps at h
    obtain ⟨w, r, rfl, h1, h2⟩ := h
    exact Rps.cons h1 (Rps.take n h2)
theorem Rps.drop : ∀ {ds : List D} {vs : List V} (n : Nat), Rps K F H ds vs → Rps K F H (ds.drop n) (vs.drop n)
  | ds, vs, 0, h => by simpa using h
  | [], vs, n + 1, h => by unfold Rps at h; subst h; exact Rps.nil
  | c :: ds, vs, n + 1, h => by
    unfold Rps at h
    obtain ⟨w, r, rfl, h1, h2⟩ := h
    exact Rps.drop n h2
theorem Rps.reverse : ∀ {ds : List D} {vs : List V}, Rps K F H ds vs → Rps K F H ds.reverse vs.reverse
  | [], vs, h => by unfold Rps at h; subst h; exact Rps.nil
  | c :: ds, vs, h => by
    unfold Rps at h
    obtain ⟨w, r, rfl, h1, h2⟩ := h
    rw [List.reverse_cons, List.reverse_cons]
    exact Rps.append (Rps.reverse h2) (Rps.cons h1 Rps.nil)
theorem Rps.eraseIdx : ∀ {ds : List D} {vs : List V} (i : Nat), Rps K F H ds vs → Rps K F H (ds.eraseIdx i) (vs.eraseIdx i)
  | [], vs, i, h => by unfold Rps at h; subst h; exact Rps.nil
  | c :: ds, vs, 0, h => by
    unfold Rps at h
    obtain ⟨w, r, rfl, h1, h2⟩ := h
    exact h2
  | c :: ds, vs, i + 1, h => by
    unfold Rps at h
    obtain ⟨w, r, rfl, h1, h2⟩ := h
    exact Rps.cons h1 (Rps.eraseIdx i h2)
theorem Rps.map_of {α : Type} {f : α → D} {g : α → V} (h : ∀ a, Rp K F H (f a) (g a)) : ∀ xs : List α, Rps K F H (xs.map f) (xs.map g)
  | [] => Rps.nil
  | x :: xs => Rps.cons (h x) (Rps.map_of h xs)
theorem Rp.int {i : Int} : Rp K F H (.int i) (.int i) := by unfold Rp; rfl
theorem Rp.bl {i : Bool} : Rp K F H (.bl i) (.bl i) := by unfold Rp; rfl
theorem Rp.str {i : Str} : Rp K F H (.str i) (.str i) := by unfold Rp; rfl
theorem Rp.non : Rp K F H .non .non := by unfold Rp; rfl
theorem Rp.ty {n : String} : Rp K F H (.ty n) (.ty n) := by unfold Rp; rfl
theorem Rp.ref {a : Addr} : Rp K F H (.ref a) (.ref a) := by unfold Rp; rfl
theorem Rp.ints : ∀ {ns : List Int} {vs : List V}, Rps K F H (ns.map D.int) vs → vs = ns.map V.int
  | [], vs, h => by
    unfold Rps at h
    exact h
  | n :: ns, vs, h => by
    rw [List.map_cons] at h
    unfold Rps at h
    obtain ⟨v, r, rfl, h1, h2⟩ := h
    unfold Rp at h1
    subst h1
    rw [Rp.ints h2, List.map_cons]
end

def MoOk (K : PySem.W.Frag) (F : Addr → Prop) (H : Hp) (a : Addr) : MO → Prop
  | .lst ds => ∃ vs, H a = some (.lst vs) ∧ Rps K F H ds vs
  | .ins C fs => ∃ dx gs, H a = some (.ins C dx gs) ∧ Rpf K F H fs gs
  | .own x => H a = some (.own x)
  | .sln C dx => H a = some (.ins C dx []) ∧ dx ≠ a
  | .slt C dx d => ∃ w, H a = some (SlX.SlO a C dx [some w]) ∧ H dx = some (.xd []) ∧ Rp K F H d w
structure MemOk (K : PySem.W.Frag) (F : Addr → Prop) (H : Hp) (M : Mem) : Prop where
  fok : ∀ a, F a → H a ≠ none
  at_ : ∀ a o, M a = some o → ¬ F a ∧ MoOk K F H a o
theorem MoOk.stay {K : PySem.W.Frag} {F F' : Addr → Prop} {H H' : Hp} {a : Addr} {o : MO} (h : MoOk K F H a o) (x : ExtW F H F' H') (e : ∀ u, H a = some u → H' a = some u) : MoOk K F' H' a o := by
  cases o with
  | lst ds =>
    obtain ⟨vs, h1, h2⟩ := h
    exact ⟨vs, e _ h1, Rps.mono x ds vs h2⟩
  | ins C fs =>
    obtain ⟨dx, gs, h1, h2⟩ := h
    exact ⟨dx, gs, e _ h1, Rpf.mono x fs gs h2⟩
  | own y => exact e _ h
  | sln C dx => exact ⟨e _ h.1, h.2⟩
  | slt C dx d =>
    obtain ⟨w, h1, n, h2⟩ := h
    exact ⟨w, e _ h1, x.xd _ _ n, Rp.mono x d w h2⟩
theorem MoOk.some {K : PySem.W.Frag} {F : Addr → Prop} {H : Hp} {a : Addr} {o : MO} (h : MoOk K F H a o) : ∃ u, H a = some u := by
  cases o with
  | lst ds => obtain ⟨vs, h1, h2⟩ := h; exact ⟨_, h1⟩
  | ins C fs => obtain ⟨dx, gs, h1, h2⟩ := h; exact ⟨_, h1⟩
  | own y => exact ⟨_, h⟩
  | sln C dx => exact ⟨_, h.1⟩
  | slt C dx d => obtain ⟨w, h1, _⟩ := h; exact ⟨_, h1⟩
section
variable {K : PySem.W.Frag} {F : Addr → Prop} {H : Hp} {M : Mem} {p : Addr}
theorem MemOk.fresh (m : MemOk K F H M) (hp : H p = none) : ¬ F p ∧ M p = none := by
  refine ⟨fun f => m.fok p f hp, ?_⟩
  cases e : M p with
  | none => rfl
  | some o =>
    obtain ⟨u, h⟩ := (m.at_ p o e).2.some
    rw [hp] at h
    cases h
theorem MemOk.frz (m : MemOk K F H M) (hp : H p = none) (o : HO) : MemOk K (fun a => F a ∨ a = p) (upd H p o) M := by
  have x : ExtW F H (fun a => F a ∨ a = p) (upd H p o) := (Ext.laid (M := M) hp (fun a h => .inl h) fun a h => h).toExtW
  refine ⟨fun a f => ?_, fun a u e => ?_⟩
  · by_cases z : a = p
    · subst z; rw [upd_same]; exact fun q => nomatch q
    · rw [upd_ne z]
      exact m.fok a (f.resolve_right z)
  · obtain ⟨n, q⟩ := m.at_ a u e
    have z : a ≠ p := fun z => by subst z; rw [(m.fresh hp).2] at e; cases e
    exact ⟨fun f => f.elim n z, q.stay x fun w h => by rw [upd_ne z]; exact h⟩
theorem MemOk.aside (m : MemOk K F H M) (hp : H p = none) (o : HO) : MemOk K F (upd H p o) M := by
  have x : ExtW F H F (upd H p o) := (Ext.laid (M := M) hp fun a h => h).toExtW
  refine ⟨fun a f => ?_, fun a u e => ?_⟩
  · have z : a ≠ p := fun z => by subst z; exact m.fok a f hp
    rw [upd_ne z]
    exact m.fok a f
  · obtain ⟨n, q⟩ := m.at_ a u e
    have z : a ≠ p := fun z => by subst z; rw [(m.fresh hp).2] at e; cases e
    exact ⟨n, q.stay x fun w h => by rw [upd_ne z]; exact h⟩
theorem MemOk.set (m : MemOk K F H M) {o' : MO} {u u' : HO} (hp : H p = some u) (nF : ¬ F p) (x : ExtW F H F (upd H p u')) (q : MoOk K F (upd H p u') p o') : MemOk K F (upd H p u') (mset M p o') := by
  refine ⟨fun a f => ?_, fun a w e => ?_⟩
  · have z : a ≠ p := fun z => nF (z ▸ f)
    rw [upd_ne z]
    exact m.fok a f
  · by_cases z : a = p
    · subst z
      rw [mset_same] at e
      cases e
      exact ⟨nF, q⟩
    · rw [mset_ne z] at e
      obtain ⟨n, r⟩ := m.at_ a w e
      exact ⟨n, r.stay x fun w h => by rw [upd_ne z]; exact h⟩
theorem MemOk.add (m : MemOk K F H M) {o : MO} (nF : ¬ F p) (q : MoOk K F H p o) : MemOk K F H (mset M p o) := by
  refine ⟨m.fok, fun a w e => ?_⟩
  by_cases z : a = p
  · subst z
    rw [mset_same] at e
    cases e
    exact ⟨nF, q⟩
  · rw [mset_ne z] at e
    exact m.at_ a w e
theorem MemOk.sub (m : MemOk K F H M) {M' : Mem} (h : ∀ a o, M' a = some o → M a = some o) : MemOk K F H M' := ⟨m.fok, fun a o e => m.at_ a o (h a o e)⟩
end

abbrev Dv := List (Option D)
def EnvOk (K : PySem.W.Frag) (F : Addr → Prop) (H : Hp) (ρ : Dv) (σ : St) : Prop := ∀ (i : Nat) (d : D), ρ[i]? = some (some d) → ∃ v, σ[i]? = some (some v) ∧ Rp K F H d v
theorem EnvOk.mono {K : PySem.W.Frag} {F F' : Addr → Prop} {H H' : Hp} {ρ : Dv} {σ : St} (h : EnvOk K F H ρ σ) (x : ExtW F H F' H') : EnvOk K F' H' ρ σ := fun i d e => by
  obtain ⟨v, h1, h2⟩ := h i d e
  exact ⟨v, h1, Rp.mono x d v h2⟩
structure Sta (K : PySem.W.Frag) (F : Addr → Prop) (H : Hp) (ρ : Dv) (M : Mem) (σ : St) : Prop where
  env : EnvOk K F H ρ σ
  mem : MemOk K F H M
  len : ρ.length = σ.length
theorem Sta.next {K : PySem.W.Frag} {F F' : Addr → Prop} {H H' : Hp} {ρ : Dv} {M M' : Mem} {σ : St} (s : Sta K F H ρ M σ) (x : ExtW F H F' H') (m : MemOk K F' H' M') : Sta K F' H' ρ M' σ := ⟨s.env.mono x, m, s.len⟩
theorem EnvOk.set {K : PySem.W.Frag} {F : Addr → Prop} {H : Hp} {ρ : Dv} {σ : St} {d : D} {v : V} (h : EnvOk K F H ρ σ) (hl : ρ.length = σ.length) (i : Nat) (r : Rp K F H d v) : EnvOk K F H (ρ.set i (some d)) (σ.set i (some v)) := fun j e he => by
  by_cases z : i = j
  · subst z
    by_cases hi : i < ρ.length
    · rw [List.getElem?_set_self hi] at he
      cases he
      exact ⟨v, by rw [List.getElem?_set_self (hl ▸ hi)], r⟩
    · rw [List.getElem?_eq_none (by simpa using hi)] at he
      cases he
  · rw [List.getElem?_set_ne z] at he
    obtain ⟨w, h1, h2⟩ := h j e he
    exact ⟨w, by rw [List.getElem?_set_ne z]; exact h1, h2⟩
theorem Sta.set {K : PySem.W.Frag} {F : Addr → Prop} {H : Hp} {ρ : Dv} {M : Mem} {σ : St} {d : D} {v : V} (s : Sta K F H ρ M σ) (i : Nat) (r : Rp K F H d v) : Sta K F H (ρ.set i (some d)) M (σ.set i (some v)) :=
  ⟨s.env.set s.len i r, s.mem, by rw [List.length_set, List.length_set]; exact s.len⟩
structure DX where
  cls : Value
  fs : List (Str × D)
def RpX (K : PySem.W.Frag) (F : Addr → Prop) (H : Hp) (x : DX) (cls : Value) (d : Option Addr) : Prop :=
  cls = x.cls ∧ ((x.fs = [] ∧ d = none) ∨ ∃ dd gs, d = some dd ∧ H dd = some (.xd gs) ∧ Rpf K F H x.fs gs)
theorem RpX.mono {K : PySem.W.Frag} {F F' : Addr → Prop} {H H' : Hp} {x : DX} {cls : Value} {d : Option Addr} (h : RpX K F H x cls d) (e : ExtW F H F' H') : RpX K F' H' x cls d := by
  obtain ⟨h1, h2⟩ := h
  refine ⟨h1, h2.elim .inl fun ⟨dd, gs, a, b, c⟩ => .inr ⟨dd, gs, a, e.xd _ _ b, Rpf.mono e _ _ c⟩⟩

abbrev DXK := DX → Mem → Prop
abbrev DVK := D → Mem → Prop
abbrev DE := DXK → Dv → Mem → DVK → Prop
abbrev DT := DXK → Dv → Mem → (Bool → Mem → Prop) → Prop
abbrev DA := DXK → Dv → Mem → (List D → Mem → Prop) → Prop
structure DEnds where
  nx : Dv → Mem → Prop
  rt : D → Mem → Prop
  bk : Dv → Mem → Prop := fun _ _ => False
  ct : Dv → Mem → Prop := fun _ _ => False
  ex : DX → Dv → Mem → Prop := fun _ _ _ => False
abbrev DS := DEnds → Dv → Mem → Prop

def XOk (K : PySem.W.Frag) (F : Addr → Prop) (H : Hp) (M : Mem) (E : DXK) (W : WX) (σ : St) : Prop := ∀ F' H' M' x cls d, Ext F H M F' H' M' → MemOk K F' H' M' → RpX K F' H' x cls d → E x M' → W cls d σ H'
def VOk (K : PySem.W.Frag) (F : Addr → Prop) (H : Hp) (M : Mem) (Q' : DVK) (Q : VK) : Prop := ∀ F' H' M' d v, Ext F H M F' H' M' → MemOk K F' H' M' → Rp K F' H' d v → Q' d M' → Q v H'
def BOk (K : PySem.W.Frag) (F : Addr → Prop) (H : Hp) (M : Mem) (Q' : Bool → Mem → Prop) (Q : Bool → Hp → Prop) : Prop := ∀ F' H' M' b, Ext F H M F' H' M' → MemOk K F' H' M' → Q' b M' → Q b H'
def AOk (K : PySem.W.Frag) (F : Addr → Prop) (H : Hp) (M : Mem) (Q' : List D → Mem → Prop) (Q : List V → Hp → Prop) : Prop := ∀ F' H' M' ds vs, Ext F H M F' H' M' → MemOk K F' H' M' → Rps K F' H' ds vs → Q' ds M' → Q vs H'
def SOk (K : PySem.W.Frag) (F : Addr → Prop) (H : Hp) (M : Mem) (Q' : Dv → Mem → Prop) (Q : St → Hp → Prop) : Prop := ∀ F' H' ρ' M' σ', Ext F H M F' H' M' → Sta K F' H' ρ' M' σ' → Q' ρ' M' → Q σ' H'
def SXOk (K : PySem.W.Frag) (F : Addr → Prop) (H : Hp) (M : Mem) (E : DX → Dv → Mem → Prop) (W : WX) : Prop := ∀ F' H' ρ' M' σ' x cls d, Ext F H M F' H' M' → Sta K F' H' ρ' M' σ' → RpX K F' H' x cls d → E x ρ' M' → W cls d σ' H'
structure EOk (K : PySem.W.Frag) (F : Addr → Prop) (H : Hp) (M : Mem) (E' : DEnds) (E : Ends) (W : WX) : Prop where
  nx : SOk K F H M E'.nx E.nx
  rt : VOk K F H M E'.rt E.rt
  bk : SOk K F H M E'.bk E.bk
  ct : SOk K F H M E'.ct E.ct
  ex : SXOk K F H M E'.ex W
section
variable {K : PySem.W.Frag} {F F' : Addr → Prop} {H H' : Hp} {M M' : Mem}
theorem XOk.next {E : DXK} {W : WX} {σ : St} (h : XOk K F H M E W σ) (x : Ext F H M F' H' M') : XOk K F' H' M' E W σ := fun F2 H2 M2 y c d e => h F2 H2 M2 y c d (x.trans e)
theorem VOk.next {Q' : DVK} {Q : VK} (h : VOk K F H M Q' Q) (x : Ext F H M F' H' M') : VOk K F' H' M' Q' Q := fun F2 H2 M2 d v e => h F2 H2 M2 d v (x.trans e)
theorem BOk.next {Q' : Bool → Mem → Prop} {Q : Bool → Hp → Prop} (h : BOk K F H M Q' Q) (x : Ext F H M F' H' M') : BOk K F' H' M' Q' Q := fun F2 H2 M2 b e => h F2 H2 M2 b (x.trans e)
theorem AOk.next {Q' : List D → Mem → Prop} {Q : List V → Hp → Prop} (h : AOk K F H M Q' Q) (x : Ext F H M F' H' M') : AOk K F' H' M' Q' Q := fun F2 H2 M2 b v e => h F2 H2 M2 b v (x.trans e)
theorem SOk.next {Q' : Dv → Mem → Prop} {Q : St → Hp → Prop} (h : SOk K F H M Q' Q) (x : Ext F H M F' H' M') : SOk K F' H' M' Q' Q := fun F2 H2 r M2 s e => h F2 H2 r M2 s (x.trans e)
theorem SXOk.next {E : DX → Dv → Mem → Prop} {W : WX} (h : SXOk K F H M E W) (x : Ext F H M F' H' M') : SXOk K F' H' M' E W := fun F2 H2 r M2 s y c d e => h F2 H2 r M2 s y c d (x.trans e)
theorem EOk.next {E' : DEnds} {E : Ends} {W : WX} (h : EOk K F H M E' E W) (x : Ext F H M F' H' M') : EOk K F' H' M' E' E W := ⟨h.nx.next x, h.rt.next x, h.bk.next x, h.ct.next x, h.ex.next x⟩
theorem SXOk.at_ {E : DX → Dv → Mem → Prop} {W : WX} {ρ : Dv} {σ : St} (h : SXOk K F H M E W) (s : Sta K F H ρ M σ) : XOk K F H M (fun x M => E x ρ M) W σ := fun F2 H2 M2 y c d e m r q => h F2 H2 ρ M2 σ y c d e (s.next e m) r q
end

def tG (K : PySem.W.Frag) (W : WX) (g : DE) : TE := fun σ H Q => ∃ F ρ M E Q', Sta K F H ρ M σ ∧ XOk K F H M E W σ ∧ VOk K F H M Q' Q ∧ g E ρ M Q'
def tGt (K : PySem.W.Frag) (W : WX) (g : DT) : TT := fun σ H Q => ∃ F ρ M E Q', Sta K F H ρ M σ ∧ XOk K F H M E W σ ∧ BOk K F H M Q' Q ∧ g E ρ M Q'
def tGa (K : PySem.W.Frag) (W : WX) (g : DA) : TA := fun σ H Q => ∃ F ρ M E Q', Sta K F H ρ M σ ∧ XOk K F H M E W σ ∧ AOk K F H M Q' Q ∧ g E ρ M Q'
def tGs (K : PySem.W.Frag) (W : WX) (g : DS) : TS := fun E σ H => ∃ F ρ M E', Sta K F H ρ M σ ∧ EOk K F H M E' E W ∧ g E' ρ M
def FE (K : PySem.W.Frag) (X : Cx) (W : WX) (e : Expr) (g : DE) : Prop := PE X e (tG K W g)
def FT (K : PySem.W.Frag) (X : Cx) (W : WX) (e : Expr) (g : DT) : Prop := PT X e (tGt K W g)
def FW (K : PySem.W.Frag) (X : Cx) (W : WX) (e : Expr) (g : DT) : Prop := PW X e (tGt K W g)
def FA (K : PySem.W.Frag) (X : Cx) (W : WX) (es : List Expr) (g : DA) : Prop := PA X es (tGa K W g)
def FS (K : PySem.W.Frag) (X : Cx) (W : WX) (st : Stmt) (g : DS) : Prop := PS X st (tGs K W g)
def FSs (K : PySem.W.Frag) (X : Cx) (W : WX) (st : List Stmt) (g : DS) : Prop := PSs X st (tGs K W g)
theorem PE.imp {X : Cx} {e : Expr} {t t' : TE} (h : PE X e t) (i : ∀ σ H Q, t' σ H Q → t σ H Q) : PE X e t' := ⟨fun pins s σ H Q I q => h.run pins s σ H Q I (i σ H Q q)⟩
theorem PT.imp {X : Cx} {e : Expr} {t t' : TT} (h : PT X e t) (i : ∀ σ H Q, t' σ H Q → t σ H Q) : PT X e t' := ⟨fun pins s σ H Q I q => h.run pins s σ H Q I (i σ H Q q)⟩
theorem PW.imp {X : Cx} {e : Expr} {t t' : TT} (h : PW X e t) (i : ∀ σ H Q, t' σ H Q → t σ H Q) : PW X e t' := ⟨fun w pins s σ H Q I q => h.run w pins s σ H Q I (i σ H Q q)⟩
theorem PA.imp {X : Cx} {e : List Expr} {t t' : TA} (h : PA X e t) (i : ∀ σ H Q, t' σ H Q → t σ H Q) : PA X e t' := ⟨fun w pins s σ H Q I q => h.run w pins s σ H Q I (i σ H Q q)⟩
theorem PS.imp {X : Cx} {e : Stmt} {t t' : TS} (h : PS X e t) (i : ∀ D σ H, t' D σ H → t D σ H) : PS X e t' := ⟨fun pins s σ H D I q => h.run pins s σ H D I (i D σ H q)⟩
theorem PSs.imp {X : Cx} {e : List Stmt} {t t' : TS} (h : PSs X e t) (i : ∀ D σ H, t' D σ H → t D σ H) : PSs X e t' := ⟨fun pins s σ H D I q => h.run pins s σ H D I (i D σ H q)⟩
end DL

namespace DL
open PySem PySem.Spec L2

section
variable {K : PySem.W.Frag} {X : Cx} {W : WX} {F : Addr → Prop} {H : Hp} {ρ : Dv} {M : Mem} {σ : St} {E : DXK} {ga gb gc : DE} {a b c e : Expr} {pos : Pos}

theorem tG_mk {g : DE} {Q' : DVK} {Q : VK} (s : Sta K F H ρ M σ) (x : XOk K F H M E W σ) (q : VOk K F H M Q' Q) (h : g E ρ M Q') : tG K W g σ H Q := ⟨F, ρ, M, E, Q', s, x, q, h⟩
theorem tGt_mk {g : DT} {Q' : Bool → Mem → Prop} {Q : Bool → Hp → Prop} (s : Sta K F H ρ M σ) (x : XOk K F H M E W σ) (q : BOk K F H M Q' Q) (h : g E ρ M Q') : tGt K W g σ H Q := ⟨F, ρ, M, E, Q', s, x, q, h⟩
theorem two {R' : D → D → Mem → Prop} {R : V → V → Hp → Prop} (s : Sta K F H ρ M σ) (x : XOk K F H M E W σ) (h : ga E ρ M fun d M1 => gb E ρ M1 fun e M2 => R' d e M2)
    (k : ∀ F2 H2 M2 d e v u, Ext F H M F2 H2 M2 → MemOk K F2 H2 M2 → Rp K F2 H2 d v → Rp K F2 H2 e u → R' d e M2 → R v u H2) : tG K W ga σ H fun v H1 => tG K W gb σ H1 fun u H2 => R v u H2 :=
  tG_mk s x (fun F1 H1 M1 d v e1 m1 r1 h1 => tG_mk (s.next e1 m1) (x.next e1) (fun F2 H2 M2 e u e2 m2 r2 h2 => k F2 H2 M2 d e v u (e1.trans e2) m2 (Rp.mono e2 _ _ r1) r2 h2) h1) h

abbrev DR1 := D → Mem → DVK → Prop
abbrev DR2 := D → D → Mem → DVK → Prop
abbrev DRs := List D → Mem → DVK → Prop
def rG (K : PySem.W.Frag) (rd : DR2) : R2 := fun x y H Q => ∃ F M d e Q', MemOk K F H M ∧ Rp K F H d x ∧ Rp K F H e y ∧ VOk K F H M Q' Q ∧ rd d e M Q'
def rG1 (K : PySem.W.Frag) (rd : DR1) : V → Hp → VK → Prop := fun x H Q => ∃ F M d Q', MemOk K F H M ∧ Rp K F H d x ∧ VOk K F H M Q' Q ∧ rd d M Q'
def rGs (K : PySem.W.Frag) (rd : DRs) : List V → Hp → VK → Prop := fun xs H Q => ∃ F M ds Q', MemOk K F H M ∧ Rps K F H ds xs ∧ VOk K F H M Q' Q ∧ rd ds M Q'
def OpD (K : PySem.W.Frag) (X : Cx) (f : Value → Value → Sem Value) (rd : DR2) : Prop := OpR X f (rG K rd)
def IxD (K : PySem.W.Frag) (X : Cx) (rd : DR2) : Prop := IxR X (rG K rd)
def UnD (K : PySem.W.Frag) (X : Cx) (f : Value → Sem Value) (rd : DR1) : Prop := UnR X f (rG1 K rd)
def CallD (K : PySem.W.Frag) (X : Cx) (f : Value) (rd : DRs) : Prop := CallR X f (rGs K rd)
theorem OpR.imp {f : Value → Value → Sem Value} {r r' : R2} (h : OpR X f r) (i : ∀ x y H Q, r' x y H Q → r x y H Q) : OpR X f r' := fun pins s σ H x y v u Q I rx ry q => h pins s σ H x y v u Q I rx ry (i x y H Q q)
theorem IxR.imp {r r' : R2} (h : IxR X r) (i : ∀ x y H Q, r' x y H Q → r x y H Q) : IxR X r' := fun va sl pins s σ H x y v u Q I rx ry q => h va sl pins s σ H x y v u Q I rx ry (i x y H Q q)
theorem UnR.imp {f : Value → Sem Value} {r r' : V → Hp → VK → Prop} (h : UnR X f r) (i : ∀ x H Q, r' x H Q → r x H Q) : UnR X f r' := fun pins s σ H x v Q I rx q => h pins s σ H x v Q I rx (i x H Q q)
theorem CallR.imp {f : Value} {r r' : List V → Hp → VK → Prop} (h : CallR X f r) (i : ∀ x H Q, r' x H Q → r x H Q) : CallR X f r' := fun pins s σ H x v Q I rx q => h pins s σ H x v Q I rx (i x H Q q)

def gOp (rd : DR2) (ga gb : DE) : DE := fun E ρ M Q => ga E ρ M fun x M1 => gb E ρ M1 fun y M2 => rd x y M2 Q
def gUn (rd : DR1) (ga : DE) : DE := fun E ρ M Q => ga E ρ M fun x M1 => rd x M1 Q
theorem op_im {rd : DR2} : ∀ σ H Q, tG K W (gOp rd ga gb) σ H Q → tOp (rG K rd) (tG K W ga) (tG K W gb) σ H Q := fun σ H Q ⟨F, ρ, M, E, Q', s, x, q, h⟩ =>
  two (R := fun v u H2 => rG K rd v u H2 Q) s x h fun F2 H2 M2 d e v u e2 m2 r1 r2 h2 => ⟨F2, M2, d, e, Q', m2, r1, r2, q.next e2, h2⟩
theorem fe_op {op : Operator} {rd : DR2} (ho : OpD K X (binaryOp op) rd) (ha : FE K X W a ga) (hb : FE K X W b gb) : FE K X W (.BinOp a op b pos) (gOp rd ga gb) := PE.imp (pe_op ho ha hb) op_im
theorem fe_ix {rd : DR2} (ho : IxD K X rd) (ha : FE K X W a ga) (hb : FE K X W b gb) (hs : PlainIx b) : FE K X W (.Subscript a b pos) (gOp rd ga gb) := PE.imp (pe_ix ho ha hb hs) op_im
theorem fe_cmp {op : CmpOp} {rd : DR2} (ho : OpD K X (compareOp op) rd) (ha : FE K X W a ga) (hb : FE K X W b gb) (hm : behindInMarks op b = false) : FE K X W (.Compare a [op] [b] pos) (gOp rd ga gb) := PE.imp (pe_cmpR ho ha hb hm) op_im
theorem fe_un {op : UnaryOp} {rd : DR1} (ho : UnD K X (unaryOp op) rd) (ha : FE K X W a ga) : FE K X W (.UnaryOp op a pos) (gUn rd ga) :=
  PE.imp (pe_un ho ha) fun σ H Q ⟨F, ρ, M, E, Q', s, x, q, h⟩ => tG_mk s x (fun F1 H1 M1 d v e1 m1 r1 h1 => (⟨F1, M1, d, Q', m1, r1, q.next e1, h1⟩ : rG1 K rd v H1 Q)) h

def gVar (i : Nat) : DE := fun _ ρ M Q => match ρ[i]? with
  | some (some d) => Q d M
  | _ => False
theorem fv (i : Nat) {x : Str} (hN : X.N[i]? = some x := by rfl) (hv : Vis X.env.scope x := by first | exact Or.inl rfl | exact Or.inr (Or.inl rfl) | exact Or.inr (Or.inr rfl)) (hd : (x == ("__debug__" : Str)) = false := by decide)
    (hcd : (x == ("__classdict__" : Str)) = false := by decide) : FE K X W (.Name x pos) (gVar i) :=
  PE.imp (pe_var hN hv hd hcd) fun σ H Q ⟨F, ρ, M, E, Q', s, x, q, h⟩ => by
    unfold gVar at h
    split at h
    · rename_i d e
      obtain ⟨v, h1, r⟩ := s.env i d e
      exact ⟨v, h1, q F H M d v (Ext.refl _ _ _) s.mem r h⟩
    · exact h.elim
def gC (d : D) : DE := fun _ _ M Q => Q d M
theorem tC_im {d : D} {v : V} (r : ∀ F H, Rp K F H d v) : ∀ σ H Q, tG K W (gC d) σ H Q → tC v σ H Q := fun σ H Q ⟨F, ρ, M, E, Q', s, x, q, h⟩ => q F H M d v (Ext.refl _ _ _) s.mem (r F H) h
theorem fe_int {i : Int} {j} : FE K X W (.Constant (.int i) j pos) (gC (.int i)) := PE.imp pe_int (tC_im fun _ _ => Rp.int)
theorem fe_bl {i : Bool} {j} : FE K X W (.Constant (.bool i) j pos) (gC (.bl i)) := PE.imp pe_bl (tC_im fun _ _ => Rp.bl)
theorem fe_non {j} : FE K X W (.Constant .none j pos) (gC .non) := PE.imp pe_non (tC_im fun _ _ => Rp.non)
theorem fe_str {i : Str} {j} : FE K X W (.Constant (.str i) j pos) (gC (.str i)) := PE.imp pe_str (tC_im fun _ _ => Rp.str)
theorem fe_ty {x : Str} {n : String} (hg : Gl X x) (hm : X.mg x = none) (hv : bootBuiltins x = some (.type n)) (hn : x ≠ "__name__" := by decide) (hd : (x == ("__debug__" : Str)) = false := by decide) : FE K X W (.Name x pos) (gC (.ty n)) :=
  PE.imp (pe_bltn (v := .ty n) hg hm hv rfl hn hd) (tC_im fun _ _ => Rp.ty)
theorem fe_own {x : Str} {c : Addr} (hg : Gl X x) (hm : X.mg x = some (.ref c)) (hd : (x == ("__debug__" : Str)) = false := by decide) : FE K X W (.Name x pos) (gC (.ref c)) :=
  PE.imp (pe_glob (v := .ref c) hg hm rfl hd) (tC_im fun _ _ => Rp.ref)

def aNil : DA := fun _ _ M Q => Q [] M
def aCons (ga : DE) (gr : DA) : DA := fun E ρ M Q => ga E ρ M fun d M1 => gr E ρ M1 fun ds M2 => Q (d :: ds) M2
theorem fa_nil : FA K X W [] aNil := PA.imp pa_nil fun σ H Q ⟨F, ρ, M, E, Q', s, x, q, h⟩ => q F H M [] [] (Ext.refl _ _ _) s.mem Rps.nil h
theorem fa_cons {es : List Expr} {gr : DA} (ha : FE K X W e ga) (hr : FA K X W es gr) (hs : starEach (e :: es) X.env = (false, eval e X.env) :: starEach es X.env := by rfl) : FA K X W (e :: es) (aCons ga gr) :=
  PA.imp (pa_cons ha hr hs) fun σ H Q ⟨F, ρ, M, E, Q', s, x, q, h⟩ =>
    tG_mk s x (fun F1 H1 M1 d v e1 m1 r1 h1 => (⟨F1, ρ, M1, E, _, s.next e1 m1, x.next e1, fun F2 H2 M2 ds vs e2 m2 r2 h2 => q F2 H2 M2 (d :: ds) (v :: vs) (e1.trans e2) m2 (Rps.cons (Rp.mono e2 _ _ r1) r2) h2, h1⟩ : tGa K W gr σ H1 _)) h
def gTup (g : DA) : DE := fun E ρ M Q => g E ρ M fun ds M1 => ds.length ≤ sizeLine ∧ Q (.tup ds) M1
theorem fe_tup {es : List Expr} {g : DA} {x1} (h : FA K X W es g) : FE K X W (.Tuple es x1 pos) (gTup g) :=
  PE.imp (pe_tup h) fun σ H Q ⟨F, ρ, M, E, Q', s, x, q, h⟩ => ⟨F, ρ, M, E, _, s, x, fun F1 H1 M1 ds vs e1 m1 r1 h1 => by
    obtain ⟨hl, h1⟩ := h1
    refine ⟨by rw [r1.length]; exact hl, fun p hp => q _ (upd H1 p (.tup vs)) M1 (.tup ds) (.ref p) (e1.trans (Ext.laid hp fun _ z => z)) (m1.aside hp _) ?_ h1⟩
    unfold Rp
    exact ⟨p, vs, rfl, .inl upd_same, Rps.mono (Ext.laid (M := M1) hp fun _ z => z).toExtW _ _ r1⟩, h⟩

abbrev DN := DXK → Dv → Mem → (List D → Mem → Prop) → Prop
def tN (K : PySem.W.Frag) (W : WX) (g : DN) : TE := fun σ H Q => ∃ F ρ M E Q', Sta K F H ρ M σ ∧ XOk K F H M E W σ ∧
  (∀ F' H' M' ds vs p, Ext F H M F' H' M' → MemOk K F' H' M' → (M p ≠ none ∨ H p = none) → H' p = some (.lst vs) → ¬ F' p → M' p = none → Rps K F' H' ds vs → Q' ds M' → Q (.ref p) H') ∧ g E ρ M Q'
def FN (K : PySem.W.Frag) (X : Cx) (W : WX) (e : Expr) (g : DN) : Prop := PE X e (tN K W g)
def gFrz (g : DN) : DE := fun E ρ M Q => g E ρ M fun ds M1 => Q (.lst ds) M1
def gCel (g : DN) : DE := fun E ρ M Q => g E ρ M fun ds M1 => ∀ p, M1 p = none → Q (.ref p) (mset M1 p (.lst ds))
theorem MemOk.freeze {H' : Hp} {F' : Addr → Prop} {M' : Mem} {p : Addr} {u : HO} (m : MemOk K F' H' M') (hp : H' p = some u) (n : M' p = none) : MemOk K (fun a => F' a ∨ a = p) H' M' := by
  refine ⟨fun a f => f.elim (m.fok a) fun z => ?_, fun a o e => ?_⟩
  · rw [z, hp]
    exact fun q => nomatch q
  · obtain ⟨h1, h2⟩ := m.at_ a o e
    exact ⟨fun f => f.elim h1 fun z => (by rw [z, n] at e; cases e), h2.stay (ExtW.grow fun _ z => Or.inl z) fun _ z => z⟩
theorem Ext.frzAt {F' : Addr → Prop} {H' : Hp} {M' : Mem} {p : Addr} (e : Ext F H M F' H' M') (wp : M p ≠ none ∨ H p = none) : Ext F H M (fun a => F' a ∨ a = p) H' M' :=
  ⟨⟨fun a f => .inl (e.mono a f), e.fro, e.tup, e.frz, e.xd⟩, e.frame, e.dom, fun a h => h.elim (e.new a) fun z => .inr (by rw [z]; exact wp)⟩
theorem frz_im {g : DN} : ∀ σ H Q, tG K W (gFrz g) σ H Q → tN K W g σ H Q := fun σ H Q ⟨F, ρ, M, E, Q', s, x, q, h⟩ => ⟨F, ρ, M, E, _, s, x, fun F' H' M' ds vs p e m wp hp nF nM r h' => by
  refine q (fun a => F' a ∨ a = p) H' M' (.lst ds) (.ref p) (e.frzAt wp) (m.freeze hp nM) ?_ h'
  unfold Rp
  exact ⟨p, vs, rfl, hp, .inr rfl, Rps.mono (ExtW.grow fun _ z => .inl z) _ _ r⟩, h⟩
theorem Ext.cell {F' : Addr → Prop} {H' : Hp} {M' : Mem} {p : Addr} {o : MO} (e : Ext F H M F' H' M') (wp : M p ≠ none ∨ H p = none) : Ext F H M F' H' (mset M' p o) :=
  ⟨e.toExtW, e.frame, fun a h => (by
    by_cases z : a = p
    · rw [z]; exact wp
    · rw [mset_ne z] at h; exact e.dom a h), e.new⟩
theorem cel_im {g : DN} : ∀ σ H Q, tG K W (gCel g) σ H Q → tN K W g σ H Q := fun σ H Q ⟨F, ρ, M, E, Q', s, x, q, h⟩ => ⟨F, ρ, M, E, _, s, x, fun F' H' M' ds vs p e m wp hp nF nM r h' => by
  refine q F' H' (mset M' p (.lst ds)) (.ref p) (.ref p) (e.cell wp) (m.add nF ⟨vs, hp, r⟩) ?_ (h' p nM)
  unfold Rp
  rfl, h⟩
theorem FN.frz {g : DN} (h : FN K X W e g) : FE K X W e (gFrz g) := PE.imp h frz_im
theorem FN.cel {g : DN} (h : FN K X W e g) : FE K X W e (gCel g) := PE.imp h cel_im
def nLst (g : DA) : DN := fun E ρ M Q => g E ρ M fun ds M1 => ds.length ≤ sizeLine ∧ Q ds M1
theorem newL {F1 : Addr → Prop} {H1 : Hp} {M1 : Mem} {ds : List D} {vs : List V} {Q : VK} {Q' : List D → Mem → Prop} {p : Addr} (e1 : Ext F H M F1 H1 M1) (m1 : MemOk K F1 H1 M1) (r1 : Rps K F1 H1 ds vs) (hp : H1 p = none)
    (q : ∀ F' H' M' ds vs p, Ext F H M F' H' M' → MemOk K F' H' M' → (M p ≠ none ∨ H p = none) → H' p = some (.lst vs) → ¬ F' p → M' p = none → Rps K F' H' ds vs → Q' ds M' → Q (.ref p) H') (h : Q' ds M1) : Q (.ref p) (upd H1 p (.lst vs)) :=
  q F1 (upd H1 p (.lst vs)) M1 ds vs p (e1.trans (Ext.laid hp fun _ z => z)) (m1.aside hp _) (e1.was hp) upd_same (m1.fresh hp).1 (m1.fresh hp).2 (Rps.mono (Ext.laid (M := M1) hp fun _ z => z).toExtW _ _ r1) h
theorem fn_lst {es : List Expr} {g : DA} (h : FA K X W es g) : FN K X W (.List es pos) (nLst g) :=
  PE.imp (pe_lst h) fun σ H Q ⟨F, ρ, M, E, Q', s, x, q, h⟩ => ⟨F, ρ, M, E, _, s, x, fun F1 H1 M1 ds vs e1 m1 r1 h1 => by
    obtain ⟨hl, h1⟩ := h1
    exact ⟨by rw [r1.length]; exact hl, fun p hp => newL e1 m1 r1 hp q h1⟩, h⟩

def onB (Q : Bool → Mem → Prop) (M : Mem) : D → Prop
  | .bl b => Q b M
  | _ => False
def gTest (g : DE) : DT := fun E ρ M Q => g E ρ M fun d M1 => onB Q M1 d
theorem test_bl {d : D} {v : V} {Q' : Bool → Mem → Prop} (r : Rp K F H d v) (h : onB Q' M d) : ∃ b, v = .bl b ∧ Q' b M := by
  cases d with
  | bl b => unfold Rp at r; exact ⟨b, r, h⟩
  | _ => exact h.elim
theorem ft_cmp {op : CmpOp} {rd : DR2} (ho : OpD K X (compareOp op) rd) (ha : FE K X W a ga) (hb : FE K X W b gb) (hm : behindInMarks op b = false) : FT K X W (.Compare a [op] [b] pos) (gTest (gOp rd ga gb)) :=
  PT.imp (pt_cmpR ho ha hb hm) fun σ H Q ⟨F, ρ, M, E, Q', s, x, q, h⟩ => op_im σ H _ (tG_mk s x (fun F1 H1 M1 d v e1 m1 r1 h1 => by
    obtain ⟨b, e, h2⟩ := test_bl r1 h1
    exact ⟨b, e, q F1 H1 M1 b e1 m1 h2⟩) h)
theorem ft_val {g : DE} (h : FE K X W e g) (he : ∀ whole, isTrue e X.env whole = (do let v ← whole; standAt e.pos; holding [v] (truthy v)) := by intro _; rfl) : FT K X W e (gTest g) :=
  PT.imp (pt_val h he) fun σ H Q ⟨F, ρ, M, E, Q', s, x, q, h⟩ => tG_mk s x (fun F1 H1 M1 d v e1 m1 r1 h1 => by
    obtain ⟨b, e, h2⟩ := test_bl r1 h1
    exact ⟨b, e, q F1 H1 M1 b e1 m1 h2⟩) h
def gAnd (ta tb : DT) : DT := fun E ρ M Q => ta E ρ M fun c M1 => if c = true then tb E ρ M1 Q else Q false M1
def gOr (ta tb : DT) : DT := fun E ρ M Q => ta E ρ M fun c M1 => if c = true then Q true M1 else tb E ρ M1 Q
def gNot (t : DT) : DT := fun E ρ M Q => t E ρ M fun c M1 => Q (!c) M1
variable {ta tb : DT} {rest : List Expr}
theorem fw_and1 (h : FT K X W a ta) : FW K X W (.BoolOp .And [a] pos) ta := pw_and1 h
theorem fw_or1 (h : FT K X W a ta) : FW K X W (.BoolOp .Or [a] pos) ta := pw_or1 h
theorem fw_and (ha : FT K X W a ta) (hb : FW K X W (.BoolOp .And (b :: rest) pos) tb) : FW K X W (.BoolOp .And (a :: b :: rest) pos) (gAnd ta tb) :=
  PW.imp (pw_and ha hb) fun σ H Q ⟨F, ρ, M, E, Q', s, x, q, h⟩ => tGt_mk s x (fun F1 H1 M1 c e1 m1 h1 => by
    cases c with
    | true => rw [if_pos rfl] at h1 ⊢; exact tGt_mk (s.next e1 m1) (x.next e1) (q.next e1) h1
    | false => rw [if_neg Bool.false_ne_true] at h1 ⊢; exact q F1 H1 M1 _ e1 m1 h1) h
theorem fw_or (ha : FT K X W a ta) (hb : FW K X W (.BoolOp .Or (b :: rest) pos) tb) : FW K X W (.BoolOp .Or (a :: b :: rest) pos) (gOr ta tb) :=
  PW.imp (pw_or ha hb) fun σ H Q ⟨F, ρ, M, E, Q', s, x, q, h⟩ => tGt_mk s x (fun F1 H1 M1 c e1 m1 h1 => by
    cases c with
    | true => rw [if_pos rfl] at h1 ⊢; exact q F1 H1 M1 _ e1 m1 h1
    | false => rw [if_neg Bool.false_ne_true] at h1 ⊢; exact tGt_mk (s.next e1 m1) (x.next e1) (q.next e1) h1) h
theorem FW.ft (h : FW K X W e ta) : FT K X W e ta := PW.pt h
theorem ft_not (h : FT K X W a ta) : FT K X W (.UnaryOp .Not a pos) (gNot ta) :=
  PT.imp (pt_not h) fun σ H Q ⟨F, ρ, M, E, Q', s, x, q, h⟩ => tGt_mk s x (fun F1 H1 M1 c e1 m1 h1 => q F1 H1 M1 _ e1 m1 h1) h

def gAndV (ga gb : DE) : DE := fun E ρ M Q => ga E ρ M fun d M1 => onB (fun c M1 => if c = true then gb E ρ M1 Q else Q (.bl false) M1) M1 d
def gOrV (ga gb : DE) : DE := fun E ρ M Q => ga E ρ M fun d M1 => onB (fun c M1 => if c = true then Q (.bl true) M1 else gb E ρ M1 Q) M1 d
def gNotV (ga : DE) : DE := fun E ρ M Q => ga E ρ M fun d M1 => onB (fun c M1 => Q (.bl (!c)) M1) M1 d
theorem fe_one {op} (h : FE K X W a ga) : FE K X W (.BoolOp op [a] pos) ga := pe_one h
theorem fe_and (ha : FE K X W a ga) (hb : FE K X W (.BoolOp .And (b :: rest) pos) gb) : FE K X W (.BoolOp .And (a :: b :: rest) pos) (gAndV ga gb) :=
  PE.imp (pe_and ha hb) fun σ H Q ⟨F, ρ, M, E, Q', s, x, q, h⟩ => tG_mk s x (fun F1 H1 M1 d v e1 m1 r1 h1 => by
    obtain ⟨c, r1, h1⟩ := test_bl r1 h1
    refine ⟨c, r1, ?_⟩
    cases c with
    | true => rw [if_pos rfl] at h1 ⊢; exact tG_mk (s.next e1 m1) (x.next e1) (q.next e1) h1
    | false => rw [if_neg Bool.false_ne_true] at h1 ⊢; exact q F1 H1 M1 _ _ e1 m1 Rp.bl h1) h
theorem fe_not (ha : FE K X W a ga) : FE K X W (.UnaryOp .Not a pos) (gNotV ga) :=
  PE.imp (pe_not ha) fun σ H Q ⟨F, ρ, M, E, Q', s, x, q, h⟩ => tG_mk s x (fun F1 H1 M1 d v e1 m1 r1 h1 => by
    obtain ⟨c, r1, h1⟩ := test_bl r1 h1
    exact ⟨c, r1, q F1 H1 M1 _ _ e1 m1 Rp.bl h1⟩) h
def gIf (t : DT) (ga gb : DE) : DE := fun E ρ M Q => t E ρ M fun c M1 => if c = true then ga E ρ M1 Q else gb E ρ M1 Q
def gChain (r r' : DR2) (ga gb gc : DE) : DE := fun E ρ M Q => ga E ρ M fun x M1 => gb E ρ M1 fun y M2 => r x y M2 fun z M3 => onB (fun k M3 => if k = true then gc E ρ M3 fun w M4 => r' y w M4 Q else Q (.bl false) M3) M3 z
end
end DL

namespace DL
open PySem PySem.Spec L2

section
variable {K : PySem.W.Frag} {X : Cx} {W : WX} {F : Addr → Prop} {H : Hp} {ρ : Dv} {M : Mem} {σ : L2.St} {E : DXK} {ga gb gc : DE} {a b c e : Expr} {pos : Pos} {s1 st : Stmt} {rest : List Stmt} {t u : DS}

theorem tGs_mk {g : DS} {E' : DEnds} {D : Ends} (s : Sta K F H ρ M σ) (x : EOk K F H M E' D W) (h : g E' ρ M) : tGs K W g D σ H := ⟨F, ρ, M, E', s, x, h⟩

def sNext : DS := fun E ρ M => E.nx ρ M
def sSeq (t u : DS) : DS := fun E ρ M => t { E with nx := u E } ρ M
theorem EOk.withNx {E' : DEnds} {D : Ends} {Q' : Dv → Mem → Prop} {Q : L2.St → Hp → Prop} (x : EOk K F H M E' D W) (q : SOk K F H M Q' Q) : EOk K F H M { E' with nx := Q' } { D with nx := Q } W := ⟨q, x.rt, x.bk, x.ct, x.ex⟩
theorem fss_nil : FSs K X W [] sNext := PSs.imp pss_nil fun D σ H ⟨F, ρ, M, E', s, x, h⟩ => x.nx F H ρ M σ (Ext.refl _ _ _) s h
theorem fss_cons (h1 : FS K X W st t) (h2 : FSs K X W rest u) : FSs K X W (st :: rest) (sSeq t u) :=
  PSs.imp (pss_cons h1 h2) fun D σ H ⟨F, ρ, M, E', s, x, h⟩ => tGs_mk s (x.withNx fun F' H' ρ' M' σ' e s' h' => tGs_mk s' (x.next e) h') h
theorem fss_one (h1 : FS K X W st t) : FSs K X W [st] t := pss_one h1
mutual
inductive Fz (M : Mem) (S : Addr → Prop) : D → D → Prop
  | refl (d : D) : Fz M S d d
  | ref {a : Addr} {ds ds' : List D} : S a → M a = some (.lst ds) → Fzs M S ds ds' → Fz M S (.ref a) (.lst ds')
  | tup {ds ds' : List D} : Fzs M S ds ds' → Fz M S (.tup ds) (.tup ds')
  | lst {ds ds' : List D} : Fzs M S ds ds' → Fz M S (.lst ds) (.lst ds')
inductive Fzs (M : Mem) (S : Addr → Prop) : List D → List D → Prop
  | refl (ds : List D) : Fzs M S ds ds
  | cons {d d' : D} {ds ds' : List D} : Fz M S d d' → Fzs M S ds ds' → Fzs M S (d :: ds) (d' :: ds')
end
theorem Ext.or {S : Addr → Prop} {M' : Mem} (h : ∀ a, M' a ≠ none → M a ≠ none) (hS : ∀ a, S a → M a ≠ none) : Ext F H M (fun a => F a ∨ S a) H M' := Ext.grow (fun _ z => .inl z) (fun a z => .inl (h a z)) fun a z => z.imp (fun z => z) fun z => .inl (hS a z)
theorem Ext.orS {S : Addr → Prop} : ExtW F H (fun a => F a ∨ S a) H := ExtW.grow fun _ z => .inl z
mutual
theorem Fz.rp {S : Addr → Prop} (m : MemOk K F H M) : ∀ {d d' : D} {v : V}, Fz M S d d' → Rp K F H d v → Rp K (fun a => F a ∨ S a) H d' v
  | _, _, v, .refl d, r => Rp.mono Ext.orS _ _ r
  | _, _, v, .ref (a := a) hS hM f, r => by
    obtain ⟨vs, h1, h2⟩ := (m.at_ a _ hM).2
    unfold Rp at r ⊢
    exact ⟨a, vs, r, h1, .inr hS, Fzs.rp m f h2⟩
  | _, _, v, .tup f, r => by
    unfold Rp at r ⊢
    obtain ⟨a, vs, e, q, rr⟩ := r
    exact ⟨a, vs, e, q, Fzs.rp m f rr⟩
  | _, _, v, .lst f, r => by
    unfold Rp at r ⊢
    obtain ⟨a, vs, e, q, fa, rr⟩ := r
    exact ⟨a, vs, e, q, .inl fa, Fzs.rp m f rr⟩
theorem Fzs.rp {S : Addr → Prop} (m : MemOk K F H M) : ∀ {ds ds' : List D} {vs : List V}, Fzs M S ds ds' → Rps K F H ds vs → Rps K (fun a => F a ∨ S a) H ds' vs
  | _, _, v, .refl d, r => Rps.mono Ext.orS _ _ r
  | _, _, vs, .cons f g, r => by
    unfold Rps at r ⊢
    obtain ⟨v, w, e, h1, h2⟩ := r
    exact ⟨v, w, e, Fz.rp m f h1, Fzs.rp m g h2⟩
end
def MemFz (M M' : Mem) (S : Addr → Prop) : Prop := (∀ a, S a → M a ≠ none) ∧ ∀ a o, M' a = some o → ¬ S a ∧ M a = some o
theorem MemFz.dom {M' : Mem} {S : Addr → Prop} (z : MemFz M M' S) : ∀ a, M' a ≠ none → M a ≠ none := fun a h n => by
  cases q : M' a with
  | none => exact h q
  | some o => rw [(z.2 a o q).2] at n; cases n
theorem MemFz.ok {M' : Mem} {S : Addr → Prop} (z : MemFz M M' S) (m : MemOk K F H M) : MemOk K (fun a => F a ∨ S a) H M' := by
  refine ⟨fun a f => f.elim (m.fok a) fun s => ?_, fun a o e => ?_⟩
  · cases q : M a with
    | none => exact absurd q (z.1 a s)
    | some o =>
      obtain ⟨u, h⟩ := (m.at_ a o q).2.some
      rw [h]
      exact fun y => nomatch y
  · obtain ⟨n, e'⟩ := z.2 a o e
    obtain ⟨n2, q⟩ := m.at_ a o e'
    exact ⟨fun f => f.elim n2 n, q.stay Ext.orS fun _ y => y⟩

def sDrop (g : DE) : DS := fun E ρ M => g (fun x M => E.ex x ρ M) ρ M fun _ M1 => E.nx ρ M1
theorem fs_expr (he : FE K X W e ga) (hs : swapsWith e none pos.line X.env = pure false := by rfl) : FS K X W (.Expr e pos) (sDrop ga) :=
  PS.imp (ps_expr he hs) fun D σ H ⟨F, ρ, M, E', s, x, h⟩ => tG_mk s (x.ex.at_ s) (fun F1 H1 M1 d v e1 m1 r1 h1 => x.nx F1 H1 ρ M1 σ e1 (s.next e1 m1) h1) h
def sRet (g : DE) : DS := fun E ρ M => g (fun x M => E.ex x ρ M) ρ M E.rt
theorem fs_ret (he : FE K X W e ga) : FS K X W (.Return (some e) pos) (sRet ga) :=
  PS.imp (ps_ret he) fun D σ H ⟨F, ρ, M, E', s, x, h⟩ => tG_mk s (x.ex.at_ s) x.rt h
def sRetF (g : DE) : DS := fun E ρ M => g (fun x M => E.ex x ρ M) ρ M fun d M1 => ∃ d' M2 S, Fz M1 S d d' ∧ MemFz M1 M2 S ∧ E.rt d' M2
theorem fs_retF (he : FE K X W e ga) : FS K X W (.Return (some e) pos) (sRetF ga) :=
  PS.imp (ps_ret he) fun D σ H ⟨F, ρ, M, E', s, x, h⟩ => tG_mk s (x.ex.at_ s) (fun F1 H1 M1 d v e1 m1 r1 ⟨d', M2, S, f, z, h1⟩ => x.rt _ H1 M2 d' v (e1.trans (Ext.or z.dom z.1)) (z.ok m1) (f.rp m1 r1) h1) h
def sRetN : DS := fun E _ M => E.rt .non M
def sIf (c : DT) (t u : DS) : DS := fun E ρ M => c (fun x M => E.ex x ρ M) ρ M fun k M1 => if k = true then t E ρ M1 else u E ρ M1
theorem fs_if {c : Expr} {gc : DT} {p q : List Stmt} (hc : FT K X W c gc) (ha : FSs K X W p t) (hb : FSs K X W q u) : FS K X W (.If c p q pos) (sIf gc t u) :=
  PS.imp (ps_if hc ha hb) fun D σ H ⟨F, ρ, M, E', s, x, h⟩ => tGt_mk s (x.ex.at_ s) (fun F1 H1 M1 k e1 m1 h1 => by
    cases k with
    | true => rw [if_pos rfl] at h1 ⊢; exact tGs_mk (s.next e1 m1) (x.next e1) h1
    | false => rw [if_neg Bool.false_ne_true] at h1 ⊢; exact tGs_mk (s.next e1 m1) (x.next e1) h1) h
def sBreak : DS := fun E ρ M => E.bk ρ M
def sCont : DS := fun E ρ M => E.ct ρ M
theorem fs_break : FS K X W (.Break pos) sBreak := PS.imp ps_break fun D σ H ⟨F, ρ, M, E', s, x, h⟩ => x.bk F H ρ M σ (Ext.refl _ _ _) s h
def Chg (vs : List Nat) (σ σ' : L2.St) : Prop := σ'.length = σ.length ∧ ∀ j, j ∉ vs → σ'[j]? = σ[j]?
theorem Chg.refl (vs : List Nat) (σ : L2.St) : Chg vs σ σ := ⟨rfl, fun _ _ => rfl⟩
theorem Chg.trans {vs : List Nat} {σ σ1 σ2 : L2.St} (a : Chg vs σ σ1) (b : Chg vs σ1 σ2) : Chg vs σ σ2 := ⟨b.1.trans a.1, fun j h => (b.2 j h).trans (a.2 j h)⟩
theorem Chg.set {vs : List Nat} {σ : L2.St} {i : Nat} {v : Option V} (h : i ∈ vs) : Chg vs σ (σ.set i v) := ⟨List.length_set, fun j hj => by rw [List.getElem?_set_ne (show i ≠ j from fun z => hj (by rw [← z]; exact h))]⟩
theorem wipe_get {σ : L2.St} {j : Nat} : ∀ {vs : List Nat}, j ∈ vs → j < σ.length → (wipe σ vs)[j]? = some none
  | v :: vs, h, hl => by
    unfold wipe
    by_cases z : v = j
    · subst z
      rw [List.getElem?_set_self (by rw [wipe_length]; exact hl)]
    · rw [List.getElem?_set_ne z]
      exact wipe_get ((List.mem_cons.mp h).resolve_left fun q => z q.symm) hl
theorem wipe_not {σ : L2.St} {j : Nat} : ∀ {vs : List Nat}, j ∉ vs → (wipe σ vs)[j]? = σ[j]?
  | [], h => rfl
  | v :: vs, h => by
    unfold wipe
    rw [List.getElem?_set_ne (fun q => h (by simp [q])), wipe_not fun q => h (List.mem_cons_of_mem _ q)]
theorem Chg.wipe {vs ws : List Nat} {σ σ' : L2.St} (c : Chg vs σ σ') (hs : ∀ i ∈ vs, i ∈ ws) : L2.wipe σ' ws = L2.wipe σ ws := by
  apply List.ext_getElem?
  intro j
  by_cases hj : j ∈ ws
  · by_cases hl : j < σ.length
    · rw [wipe_get hj hl, wipe_get hj (by rw [c.1]; exact hl)]
    · rw [List.getElem?_eq_none (by rw [wipe_length, c.1]; omega), List.getElem?_eq_none (by rw [wipe_length]; omega)]
  · rw [wipe_not hj, wipe_not hj]
    exact c.2 j fun q => hj (hs j q)
theorem wipe_wipe {σ : L2.St} {ws : List Nat} : L2.wipe (L2.wipe σ ws) ws = L2.wipe σ ws := by
  apply List.ext_getElem?
  intro j
  by_cases hj : j ∈ ws
  · by_cases hl : j < σ.length
    · rw [wipe_get hj hl, wipe_get hj (by rw [wipe_length]; exact hl)]
    · rw [List.getElem?_eq_none (by rw [wipe_length, wipe_length]; omega), List.getElem?_eq_none (by rw [wipe_length]; omega)]
  · rw [wipe_not hj]
abbrev DG := D → Dv → Mem → (Dv → Mem → Prop) → Prop
abbrev DGs := List D → Dv → Mem → (Dv → Mem → Prop) → Prop
def gG (K : PySem.W.Frag) (vs : List Nat) (dg : DG) : TG := fun v σ H Q => ∃ F ρ M d Q', Sta K F H ρ M σ ∧ Rp K F H d v ∧ (∀ F' H' ρ' M' σ', Ext F H M F' H' M' → Sta K F' H' ρ' M' σ' → Chg vs σ σ' → Q' ρ' M' → Q σ' H') ∧ dg d ρ M Q'
def gGs (K : PySem.W.Frag) (vs : List Nat) (dg : DGs) : TGs := fun xs σ H Q => ∃ F ρ M ds Q', Sta K F H ρ M σ ∧ Rps K F H ds xs ∧ (∀ F' H' ρ' M' σ', Ext F H M F' H' M' → Sta K F' H' ρ' M' σ' → Chg vs σ σ' → Q' ρ' M' → Q σ' H') ∧ dg ds ρ M Q'
def FG (K : PySem.W.Frag) (X : Cx) (tg : Expr) (vs : List Nat) (dg : DG) : Prop := PG X tg (gG K vs dg)
def FGs (K : PySem.W.Frag) (X : Cx) (ts : List Expr) (vs : List Nat) (dg : DGs) : Prop := PGs X ts (gGs K vs dg)
theorem PG.imp {tg : Expr} {t t' : TG} (h : PG X tg t) (i : ∀ v σ H Q, t' v σ H Q → t v σ H Q) : PG X tg t' := ⟨fun pins s σ H x u Q I r q => h.run pins s σ H x u Q I r (i x σ H Q q)⟩
theorem PGs.imp {ts : List Expr} {t t' : TGs} (h : PGs X ts t) (i : ∀ v σ H Q, t' v σ H Q → t v σ H Q) : PGs X ts t' := ⟨fun pins s σ H x u Q I r q => h.run pins s σ H x u Q I r (i x σ H Q q)⟩
def dName (i : Nat) : DG := fun d ρ M Q => Q (ρ.set i (some d)) M
theorem fg_name {vs : List Nat} (i : Nat) {x : Str} (hN : X.N.Nodup) (hi : X.N[i]? = some x := by rfl) (hx : Loc X.env.scope x := by first | exact Or.inl rfl | exact Or.inr rfl) (hv : i ∈ vs := by decide)
    (hf : X.fn x = true ∨ X.env.scope.names.lookup x = some .local := by first | exact .inl rfl | exact .inr rfl | assumption) : FG K X (.Name x pos) vs (dName i) :=
  PG.imp (pg_name hN hi hx hf) fun v σ H Q ⟨F, ρ, M, d, Q', s, r, q, h⟩ => q F H _ M _ (Ext.refl _ _ _) (s.set i r) (Chg.set hv) h
def dNil : DGs := fun ds ρ M Q => ds = [] ∧ Q ρ M
def dCons (g : DG) (gs : DGs) : DGs
  | [], _, _, _ => False
  | d :: ds, ρ, M, Q => g d ρ M fun ρ' M' => gs ds ρ' M' Q
theorem fgs_nil {vs : List Nat} : FGs K X [] vs dNil := PGs.imp pgs_nil fun v σ H Q ⟨F, ρ, M, ds, Q', s, r, q, e, h⟩ => by
  subst e
  unfold Rps at r
  exact ⟨r, q F H ρ M σ (Ext.refl _ _ _) s (Chg.refl _ _) h⟩
theorem fgs_cons {vs : List Nat} {es : List Expr} {g : DG} {gs : DGs} (h1 : FG K X e vs g) (h2 : FGs K X es vs gs)
    (hs : (assignEach (e :: es) X.env).map (·.2) = assign e X.env :: (assignEach es X.env).map (·.2) := by rfl) : FGs K X (e :: es) vs (dCons g gs) := PGs.imp (pgs_cons h1 h2 hs) fun xs σ H Q ⟨F, ρ, M, ds, Q', s, r, q, h⟩ => by
  cases ds with
  | nil => exact h.elim
  | cons d ds =>
    unfold Rps at r
    obtain ⟨v, w, e, r1, r2⟩ := r
    exact ⟨v, w, e, F, ρ, M, d, _, s, r1, fun F1 H1 ρ1 M1 σ1 e1 s1 c1 h1 => (⟨F1, ρ1, M1, ds, Q', s1, Rps.mono e1 _ _ r2, fun F2 H2 ρ2 M2 σ2 e2 s2 c2 h2 => q F2 H2 ρ2 M2 σ2 (e1.trans e2) s2 (c1.trans c2) h2, h1⟩ : gGs K vs gs w σ1 H1 Q), h⟩
def dTup (n : Nat) (gs : DGs) : DG
  | .tup ds, ρ, M, Q => ds.length = n ∧ gs ds ρ M Q
  | _, _, _, _ => False
theorem fg_tup {vs : List Nat} {es : List Expr} {k : Nat} {gs : DGs} {n : Nat} (hc : X.calm = true) (hK : X.K = K) (h : FGs K X es vs gs) (hn : (assignEach es X.env).length = n := by rfl) (hst : (assignEach es X.env).findIdx? (·.1) = none := by rfl) : FG K X (.Tuple es k pos) vs (dTup n gs) := by
  subst hK
  refine PG.imp (pg_tup (n := n) hc h hn hst) fun v σ H Q ⟨F, ρ, M, d, Q', s, r, q, h⟩ => ?_
  cases d with
  | tup ds =>
    unfold Rp at r
    obtain ⟨a, vs', e, q1, r1⟩ := r
    exact ⟨a, vs', e, q1.sq, r1.length.trans h.1, F, ρ, M, ds, Q', s, r1, q, h.2⟩
  | _ => exact h.elim

def sAsg (g : DE) (dg : DG) : DS := fun E ρ M => g (fun x M => E.ex x ρ M) ρ M fun d M1 => dg d ρ M1 E.nx
def sSet (i : Nat) (g : DE) : DS := fun E ρ M => g (fun x M => E.ex x ρ M) ρ M fun d M1 => E.nx (ρ.set i (some d)) M1
theorem asg_im {vs : List Nat} {dg : DG} : ∀ D σ H, tGs K W (sAsg ga dg) D σ H → tAsg (tG K W ga) (gG K vs dg) D σ H := fun D σ H ⟨F, ρ, M, E', s, x, h⟩ =>
  tG_mk s (x.ex.at_ s) (fun F1 H1 M1 d v e1 m1 r1 h1 => (⟨F1, ρ, M1, d, _, s.next e1 m1, r1, fun F2 H2 ρ2 M2 σ2 e2 s2 _ h2 => x.nx F2 H2 ρ2 M2 σ2 (e1.trans e2) s2 h2, h1⟩ : gG K vs dg v σ H1 D.nx)) h
theorem fs_set (i : Nat) {x : Str} {pos' : Pos} (hN : X.N.Nodup) (he : FE K X W e ga) (hi : X.N[i]? = some x := by rfl) (hx : Loc X.env.scope x := by first | exact Or.inl rfl | exact Or.inr rfl) (hs : swapsWith e (some (.Name x pos')) pos.line X.env = pure false := by rfl)
    (hf : X.fn x = true ∨ X.env.scope.names.lookup x = some .local := by first | exact .inl rfl | exact .inr rfl) : FS K X W (.Assign [.Name x pos'] e pos) (sSet i ga) :=
  PS.imp (ps_set hN hi hx he hs hf) fun D σ H ⟨F, ρ, M, E', s, x, h⟩ => tG_mk s (x.ex.at_ s) (fun F1 H1 M1 d v e1 m1 r1 h1 => x.nx F1 H1 _ M1 _ e1 ((s.next e1 m1).set i r1) h1) h
theorem fs_asg {tg : Expr} {vs : List Nat} {dg : DG} (he : FE K X W e ga) (hg : FG K X tg vs dg) (hs : swapsWithSole [tg] e pos.line X.env = pure false := by rfl) (hw : swappedStores [tg] e X.env = pure none := by rfl) (h1 : (assignEach [tg] X.env).map (·.2) = [assign tg X.env] := by rfl) : FS K X W (.Assign [tg] e pos) (sAsg ga dg) :=
  PS.imp (ps_asg he hg hs hw (by first | exact h1 | assumption)) asg_im
def sPar (i j : Nat) (g : DA) : DS := fun E ρ M => g (fun x M => E.ex x ρ M) ρ M fun ds M1 => match ds with
  | [d, e] => E.nx ((ρ.set i (some d)).set j (some e)) M1
  | _ => False
theorem fs_par (i j : Nat) {x y : Str} {px py pt : Pos} {kt k2 pt2} {g : DA} (hN : X.N.Nodup) (ha : FA K X W [a, b] g) (hc : X.calm = true := by rfl) (hi : X.N[i]? = some x := by rfl) (hj : X.N[j]? = some y := by rfl) (hij : i ≠ j := by decide)
    (hx : X.env.scope.names.lookup x = some .local := by rfl) (hy : X.env.scope.names.lookup y = some .local := by rfl)
    (hw : swappedStores [.Tuple [.Name x px, .Name y py] kt pt] (.Tuple [a, b] k2 pt2) X.env = pure (some [x, y]) := by rfl) : FS K X W (.Assign [.Tuple [.Name x px, .Name y py] kt pt] (.Tuple [a, b] k2 pt2) pos) (sPar i j g) :=
  PS.imp (ps_par hc hN hi hj hij hx hy ha hw) fun D σ H ⟨F, ρ, M, E', s, x, h⟩ => (⟨F, ρ, M, _, _, s, x.ex.at_ s, fun F1 H1 M1 ds vs e1 m1 r1 h1 => by
    match ds, h1 with
    | [d, e], h1 =>
      unfold Rps Rps at r1
      obtain ⟨v, w, rfl, q1, u, w', rfl, q2, q3⟩ := r1
      unfold Rps at q3
      subst q3
      exact ⟨v, u, rfl, x.nx F1 H1 _ M1 _ e1 (((s.next e1 m1).set i q1).set j q2) h1⟩, h⟩ : tGa K W g σ H _)

structure Src where
  items : List D
  ok : Mem → Prop
def SrcOk (K : PySem.W.Frag) (F : Addr → Prop) (H : Hp) (J : It) (src : Src) : Prop := ∀ F' H' M', ExtW F H F' H' → MemOk K F' H' M' → src.ok M' → ∀ i : Nat,
  (∀ d, src.items[i]? = some d → J.go i H' ∧ ∀ x H2, J.yld i H' x H2 → ∃ F2, Ext F' H' M' F2 H2 M' ∧ MemOk K F2 H2 M' ∧ Rp K F2 H2 d x) ∧ (src.items.length ≤ i → J.stop i H')
abbrev DI := DXK → Dv → Mem → (Src → Mem → Prop) → Prop
def tGi (K : PySem.W.Frag) (W : WX) (gi : DI) : TI := fun σ H R => ∃ F ρ M E R', Sta K F H ρ M σ ∧ XOk K F H M E W σ ∧ (∀ F' H' M' J src, Ext F H M F' H' M' → MemOk K F' H' M' → SrcOk K F' H' J src → R' src M' → R J H') ∧ gi E ρ M R'
def FI (K : PySem.W.Frag) (X : Cx) (W : WX) (tg iter : Expr) (gi : DI) : Prop := PI X tg iter (tGi K W gi)
theorem PI.imp {tg iter : Expr} {t t' : TI} (h : PI X tg iter t) (i : ∀ σ H R, t' σ H R → t σ H R) : PI X tg iter t' := ⟨fun pins s σ H R I q => h.run pins s σ H R I (i σ H R q)⟩
def srcOf (M : Mem) : D → Option Src
  | .lst ds => some ⟨ds, fun _ => True⟩
  | .tup ds => some ⟨ds, fun _ => True⟩
  | .scr ns => some ⟨ns.map D.int, fun _ => True⟩
  | .ref a => match M a with
    | some (.lst ds) => some ⟨ds, fun M' => M' a = some (.lst ds)⟩
    | _ => none
  | _ => none
def onSrc (M : Mem) (d : D) (R : Src → Mem → Prop) : Prop := match srcOf M d with
  | some s => R s M
  | none => False
theorem src_list {a0 : Addr} {items : List D} {ok : Mem → Prop} (h : ∀ F' H' M', ExtW F H F' H' → MemOk K F' H' M' → ok M' → ∃ vs, SqL K H' a0 vs ∧ Rps K F' H' items vs) : SrcOk K F H (Itl K a0) ⟨items, ok⟩ := fun F' H' M' e m o i => by
  obtain ⟨vs, q, r⟩ := h F' H' M' e m o
  refine ⟨fun d hd => ?_, fun hl => ⟨vs, q, by rw [r.length]; exact hl⟩⟩
  obtain ⟨v, hv, rv⟩ := r.get hd
  refine ⟨⟨vs, v, q, hv⟩, fun x H2 y => ?_⟩
  obtain ⟨rfl, y⟩ := y
  have z := y vs q
  rw [hv] at z
  cases z
  exact ⟨F', Ext.refl _ _ _, m, rv⟩
theorem src_tup {a0 : Addr} {items : List D} {ok : Mem → Prop} (h : ∀ F' H' M', ExtW F H F' H' → MemOk K F' H' M' → ok M' → ∃ vs, SqT K H' a0 vs ∧ Rps K F' H' items vs) : SrcOk K F H (Itt K a0) ⟨items, ok⟩ := fun F' H' M' e m o i => by
  obtain ⟨vs, q, r⟩ := h F' H' M' e m o
  refine ⟨fun d hd => ?_, fun hl => ⟨vs, q, by rw [r.length]; exact hl⟩⟩
  obtain ⟨v, hv, rv⟩ := r.get hd
  refine ⟨⟨vs, v, q, hv⟩, fun x H2 y => ?_⟩
  obtain ⟨rfl, y⟩ := y
  have z := y vs q
  rw [hv] at z
  cases z
  exact ⟨F', Ext.refl _ _ _, m, rv⟩
inductive SeqK | l | t
def SeqAt (K : PySem.W.Frag) (F : Addr → Prop) (H : Hp) (k : SeqK) (a : Addr) (src : Src) : Prop := ∀ F' H' M', ExtW F H F' H' → MemOk K F' H' M' → src.ok M' → ∃ vs, (match k with | .l => SqL K H' a vs | .t => TupAt K H' a vs) ∧ Rps K F' H' src.items vs
theorem src_at {d : D} {v : V} {src : Src} (m : MemOk K F H M) (r : Rp K F H d v) (h : srcOf M d = some src) : src.ok M ∧ ∃ k a, v = .ref a ∧ SeqAt K F H k a src := by
  cases d with
  | lst ds =>
    cases h
    unfold Rp at r
    obtain ⟨a, vs, e, q, f, rr⟩ := r
    exact ⟨True.intro, .l, a, e, fun F' H' M' x _ _ => ⟨vs, SqL.of (x.fro _ _ f q), Rps.mono x _ _ rr⟩⟩
  | tup ds =>
    cases h
    unfold Rp at r
    obtain ⟨a, vs, e, q, rr⟩ := r
    exact ⟨True.intro, .t, a, e, fun F' H' M' x _ _ => ⟨vs, x.tupAt q, Rps.mono x _ _ rr⟩⟩
  | scr ns =>
    cases h
    unfold Rp at r
    obtain ⟨a, e, q⟩ := r
    refine ⟨True.intro, .l, a, e, fun F' H' M' x _ _ => ⟨ns.map V.int, ?_, Rps.map_of (fun _ => Rp.int) ns⟩⟩
    rcases q with ⟨o, q⟩ | q
    · exact .inl (.inr ⟨o, x.frz _ _ _ q⟩)
    · exact q H'
  | ref a =>
    have h' : (match M a with | some (.lst ds) => some (⟨ds, fun M' => M' a = some (.lst ds)⟩ : Src) | _ => none) = some src := h
    cases q : M a with
    | none => rw [q] at h'; cases h'
    | some o =>
      rw [q] at h'
      cases o with
      | ins C fs => cases h'
      | own y => cases h'
      | sln C dx => cases h'
      | slt C dx d => cases h'
      | lst ds =>
        cases h'
        unfold Rp at r
        exact ⟨q, .l, a, r, fun F' H' M' x m' e' => by
          obtain ⟨vs, h1, h2⟩ := (m'.at_ a _ e').2
          exact ⟨vs, SqL.of h1, h2⟩⟩
  | _ => cases h
def rgD (lo : Int) (n : Nat) : List D := (List.range n).map fun i => D.int (lo + (i : Nat))
theorem src_range {lo : Int} {n : Nat} : SrcOk K F H (Itr lo n) ⟨rgD lo n, fun _ => True⟩ := fun F' H' M' e m o i => by
  refine ⟨fun d hd => ?_, fun hl => (by have z : (rgD lo n).length ≤ i := hl; rw [rgD, List.length_map, List.length_range] at z; exact z)⟩
  have hi : i < n := by
    have := (List.getElem?_eq_some_iff.mp hd).1
    simpa [rgD] using this
  refine ⟨hi, fun x H2 y => ?_⟩
  obtain ⟨rfl, rfl⟩ := y
  have z : (rgD lo n)[i]? = some (.int (lo + (i : Nat))) := by simp [rgD, hi]
  have hd' : (rgD lo n)[i]? = some d := hd
  rw [z] at hd'
  cases hd'
  exact ⟨F', Ext.refl _ _ _, m, Rp.int⟩
def iRange1 (g : DA) : DI := fun E ρ M R => g E ρ M fun ds M1 => match ds with
  | [.int j] => (-(2 ^ 62) ≤ j ∧ j < 2 ^ 62) ∧ R ⟨rgD 0 j.toNat, fun _ => True⟩ M1
  | _ => False
def iRange2 (g : DA) : DI := fun E ρ M R => g E ρ M fun ds M1 => match ds with
  | [.int i, .int j] => (-(2 ^ 62) ≤ i ∧ i < 2 ^ 62 ∧ -(2 ^ 62) ≤ j ∧ j < 2 ^ 62) ∧ R ⟨rgD i (j - i).toNat, fun _ => True⟩ M1
  | _ => False
theorem Rps.one {d : D} {vs : List V} (r : Rps K F H [d] vs) : ∃ v, vs = [v] ∧ Rp K F H d v := by
  unfold Rps at r
  obtain ⟨v, w, rfl, h1, h2⟩ := r
  unfold Rps at h2
  subst h2
  exact ⟨v, rfl, h1⟩
theorem Rps.two {d e : D} {vs : List V} (r : Rps K F H [d, e] vs) : ∃ v w, vs = [v, w] ∧ Rp K F H d v ∧ Rp K F H e w := by
  unfold Rps at r
  obtain ⟨v, w, rfl, h1, h2⟩ := r
  obtain ⟨u, rfl, h3⟩ := Rps.one h2
  exact ⟨v, u, rfl, h1, h3⟩
theorem fi_range1 {tg : Expr} {p : Pos} {g : DA} (hg : Gl X "range") (hm : X.mg "range" = none) (ha : FA K X W [a] g) (hs : starEach [a] X.env = [(false, eval a X.env)] := by rfl) : FI K X W tg (.Call (.Name "range" p) [a] [] pos) (iRange1 g) :=
  PI.imp (pi_range1 hg hm ha hs) fun σ H R ⟨F, ρ, M, E, R', s, x, q, h⟩ => (⟨F, ρ, M, E, _, s, x, fun F1 H1 M1 ds vs e1 m1 r1 h1 => by
    match ds, h1 with
    | [.int j], h1 =>
      obtain ⟨v, rfl, rv⟩ := r1.one
      unfold Rp at rv
      subst rv
      exact ⟨j, rfl, h1.1.1, h1.1.2, q F1 H1 M1 _ _ e1 m1 src_range h1.2⟩, h⟩ : tGa K W g σ H _)
def loopD (ok : Mem → Prop) (dg : DG) (gb : DS) (E : DEnds) : List D → Dv → Mem → Prop
  | [], ρ, M => ok M ∧ E.nx ρ M
  | d :: ds, ρ, M => ok M ∧ dg d ρ M fun ρ' M' => gb { E with nx := loopD ok dg gb E ds, ct := loopD ok dg gb E ds, bk := E.nx } ρ' M'
def sFor (gi : DI) (dg : DG) (gb : DS) : DS := fun E ρ M => gi (fun x M => E.ex x ρ M) ρ M fun src M1 => loopD src.ok dg gb E src.items ρ M1
theorem fs_for {tg iter : Expr} {body : List Stmt} {gi : DI} {vs : List Nat} {dg : DG} {gb : DS} (hp : PassesOwn (model X.prog X.w) X.A X.env X.xe) (hc : X.calm = true) (hi : FI K X W tg iter gi) (hg : FG K X tg vs dg) (hb : FSs K X W body gb)
    (hs : ∀ x, foldedSetIterable iter X.env x = pure x := by intro _; rfl) : FS K X W (.For tg iter body [] pos) (sFor gi dg gb) := by
  refine PS.imp (ps_for hp hc hi hg hb hs) fun D σ H ⟨F, ρ, M, E', s, x, h⟩ => (⟨F, ρ, M, _, _, s, x.ex.at_ s, fun F1 H1 M1 J src e1 m1 so h1 => ?_, h⟩ : tGi K W gi σ H _)
  refine ⟨fun i m σ2 H2 => ∃ F2 ρ2 M2, Ext F1 H1 M1 F2 H2 M2 ∧ Sta K F2 H2 ρ2 M2 σ2 ∧ i ≤ src.items.length ∧ m = src.items.length - i ∧ loopD src.ok dg gb E' (src.items.drop i) ρ2 M2, ⟨src.items.length, F1, ρ, M1, Ext.refl _ _ _, s.next e1 m1, Nat.zero_le _, rfl, h1⟩, ?_⟩
  rintro i m σ2 H2 ⟨F2, ρ2, M2, e2, s2, hl, rfl, h2⟩
  by_cases hlt : i < src.items.length
  · rw [List.drop_eq_getElem_cons hlt] at h2
    unfold loopD at h2
    obtain ⟨o, h2⟩ := h2
    obtain ⟨go, yl⟩ := (so F2 H2 M2 e2 s2.mem o i).1 src.items[i] (by simp [hlt])
    refine .inr ⟨go, fun σ3 H3 => ∃ F3 ρ3 M3, Ext F1 H1 M1 F3 H3 M3 ∧ Sta K F3 H3 ρ3 M3 σ3 ∧ loopD src.ok dg gb E' (src.items.drop (i + 1)) ρ3 M3, ?_, fun v H3 y => ?_⟩
    · rintro σ3 H3 ⟨F3, ρ3, M3, e3, s3, h3⟩
      exact ⟨src.items.length - (i + 1), by omega, F3, ρ3, M3, e3, s3, hlt, rfl, h3⟩
    · obtain ⟨F3, e3, m3, r3⟩ := yl v H3 y
      refine ⟨F3, ρ2, M2, _, _, s2.next e3 m3, r3, fun F4 H4 ρ4 M4 σ4 e4 s4 _ h4 => ?_, h2⟩
      have e14 := e2.trans (e3.trans e4)
      have x4 := x.next (e1.trans e14)
      refine tGs_mk (E' := { E' with nx := loopD src.ok dg gb E' (src.items.drop (i + 1)), ct := loopD src.ok dg gb E' (src.items.drop (i + 1)), bk := E'.nx }) s4 ⟨fun F5 H5 ρ5 M5 σ5 e5 s5 h5 => ⟨F5, ρ5, M5, e14.trans e5, s5, h5⟩, x4.rt, x4.nx, fun F5 H5 ρ5 M5 σ5 e5 s5 h5 => ⟨F5, ρ5, M5, e14.trans e5, s5, h5⟩, x4.ex⟩ h4
  · have z : i = src.items.length := by omega
    subst z
    rw [List.drop_length] at h2
    unfold loopD at h2
    exact .inl ⟨(so F2 H2 M2 e2 s2.mem h2.1 _).2 (Nat.le_refl _), x.nx F2 H2 ρ2 M2 σ2 (e1.trans e2) s2 h2.2⟩
theorem loop_inv {ok : Mem → Prop} {dg : DG} {gb : DS} {E : DEnds} (P : Nat → Dv → Mem → Prop) {items : List D} (hok : ∀ i ρ M, i ≤ items.length → P i ρ M → ok M)
    (hs : ∀ i ρ M d, items[i]? = some d → P i ρ M → dg d ρ M fun ρ' M' => ∀ Nx : Dv → Mem → Prop, (∀ ρ M, P (i + 1) ρ M → Nx ρ M) → gb { E with nx := Nx, ct := Nx, bk := E.nx } ρ' M')
    (mono : ∀ d ρ M (Q Q' : Dv → Mem → Prop), (∀ ρ M, Q ρ M → Q' ρ M) → dg d ρ M Q → dg d ρ M Q')
    (hd : ∀ ρ M, P items.length ρ M → E.nx ρ M) {ρ : Dv} {M : Mem} (h0 : P 0 ρ M) : loopD ok dg gb E items ρ M := by
  have key : ∀ k i ρ M, i + k = items.length → P i ρ M → loopD ok dg gb E (items.drop i) ρ M := by
    intro k
    induction k with
    | zero =>
      intro i ρ M e p
      have z : i = items.length := by omega
      subst z
      rw [List.drop_length]
      unfold loopD
      exact ⟨hok _ _ _ (Nat.le_refl _) p, hd _ _ p⟩
    | succ k ih =>
      intro i ρ M e p
      have hlt : i < items.length := by omega
      rw [List.drop_eq_getElem_cons hlt]
      unfold loopD
      refine ⟨hok _ _ _ (by omega) p, mono _ _ _ _ _ (fun ρ' M' q => q _ fun ρ2 M2 p2 => ih (i + 1) ρ2 M2 (by omega) p2) (hs i ρ M _ (by simp [hlt]) p)⟩
  have := key items.length 0 ρ M (by omega) h0
  simpa using this
theorem dName_mono {i : Nat} : ∀ d ρ M (Q Q' : Dv → Mem → Prop), (∀ ρ M, Q ρ M → Q' ρ M) → dName i d ρ M Q → dName i d ρ M Q' := fun _ _ _ _ _ k h => k _ _ h

def sWhile (c : DT) (gb : DS) : DS := fun E ρ M => ∃ P : Nat → Dv → Mem → Prop, (∃ m, P m ρ M) ∧ ∀ m ρ M, P m ρ M → c (fun x M => E.ex x ρ M) ρ M fun k M1 =>
  if k = true then gb { E with nx := fun ρ' M' => ∃ m', m' < m ∧ P m' ρ' M', ct := fun ρ' M' => ∃ m', m' < m ∧ P m' ρ' M', bk := E.nx } ρ M1 else E.nx ρ M1
theorem fs_while {c : Expr} {body : List Stmt} {gc : DT} {gb : DS} (hp : PassesOwn (model X.prog X.w) X.A X.env X.xe) (hc : FT K X W c gc) (hb : FSs K X W body gb) : FS K X W (.While c body [] pos) (sWhile gc gb) := by
  refine PS.imp (ps_while hp hc hb) fun D σ H ⟨F, ρ, M, E', s, x, P, ⟨m0, p0⟩, h⟩ => ?_
  refine ⟨fun m σ2 H2 => ∃ F2 ρ2 M2, Ext F H M F2 H2 M2 ∧ Sta K F2 H2 ρ2 M2 σ2 ∧ P m ρ2 M2, ⟨m0, F, ρ, M, Ext.refl _ _ _, s, p0⟩, ?_⟩
  rintro m σ2 H2 ⟨F2, ρ2, M2, e2, s2, p2⟩
  refine tGt_mk s2 ((x.next e2).ex.at_ s2) (fun F3 H3 M3 k e3 m3 h3 => ?_) (h m ρ2 M2 p2)
  cases k with
  | true =>
    rw [if_pos rfl] at h3 ⊢
    have e23 := e2.trans e3
    have x4 := x.next e23
    refine ⟨fun σ4 H4 => ∃ m', m' < m ∧ ∃ F4 ρ4 M4, Ext F H M F4 H4 M4 ∧ Sta K F4 H4 ρ4 M4 σ4 ∧ P m' ρ4 M4, fun σ4 H4 q => q, tGs_mk (E' := { E' with nx := fun ρ' M' => ∃ m', m' < m ∧ P m' ρ' M', ct := fun ρ' M' => ∃ m', m' < m ∧ P m' ρ' M', bk := E'.nx }) (s2.next e3 m3) ⟨fun F5 H5 ρ5 M5 σ5 e5 s5 ⟨m', l, p⟩ => ⟨m', l, F5, ρ5, M5, e23.trans e5, s5, p⟩, x4.rt, x4.nx, fun F5 H5 ρ5 M5 σ5 e5 s5 ⟨m', l, p⟩ => ⟨m', l, F5, ρ5, M5, e23.trans e5, s5, p⟩, x4.ex⟩ h3⟩
  | false =>
    rw [if_neg Bool.false_ne_true] at h3 ⊢
    exact x.nx F3 H3 ρ2 M3 σ2 (e2.trans e3) (s2.next e3 m3) h3
end
end DL

namespace DL
open PySem PySem.Spec L2

abbrev W0 : WX := fun _ _ _ _ => False
abbrev E0 : DXK := fun _ _ => False
def wipeD (ρ : Dv) : List Nat → Dv
  | [] => ρ
  | v :: vs => (wipeD ρ vs).set v none
theorem wipeD_length (ρ : Dv) : ∀ vs : List Nat, (wipeD ρ vs).length = ρ.length
  | [] => rfl
  | v :: vs => by unfold wipeD; rw [List.length_set, wipeD_length ρ vs]
theorem wipeD_some {ρ : Dv} {i : Nat} {d : D} : ∀ {vs : List Nat}, (wipeD ρ vs)[i]? = some (some d) → i ∉ vs ∧ ρ[i]? = some (some d)
  | [], h => ⟨by simp, h⟩
  | v :: vs, h => by
    unfold wipeD at h
    by_cases z : v = i
    · subst z
      by_cases hl : v < (wipeD ρ vs).length
      · rw [List.getElem?_set_self hl] at h; cases h
      · rw [List.getElem?_eq_none (by simpa using hl)] at h; cases h
    · rw [List.getElem?_set_ne z] at h
      obtain ⟨h1, h2⟩ := wipeD_some h
      exact ⟨fun q => (List.mem_cons.mp q).elim (fun y => z y.symm) h1, h2⟩
section
variable {K : PySem.W.Frag} {X : Cx} {W : WX} {F : Addr → Prop} {H : Hp} {ρ : Dv} {M : Mem} {σ : L2.St}
theorem EnvOk.wipe (h : EnvOk K F H ρ σ) (vs : List Nat) : EnvOk K F H (wipeD ρ vs) (L2.wipe σ vs) := fun i d e => by
  obtain ⟨h1, h2⟩ := wipeD_some e
  obtain ⟨v, h3, h4⟩ := h i d h2
  exact ⟨v, by rw [wipe_not h1]; exact h3, h4⟩
theorem x0 : XOk K F H M E0 W0 σ := fun _ _ _ _ _ _ _ _ _ h => h

theorem ExtW.wr {p : Addr} {vs : List V} {o : HO} (hp : H p = some (.lst vs)) (nF : ¬ F p) : ExtW F H F (upd H p o) :=
  ExtW.write hp nF (fun _ z => nomatch z) (fun _ _ z => nomatch z) fun _ z => nomatch z
theorem Ext.side {F' : Addr → Prop} {H' : Hp} {M' : Mem} {p : Addr} {o : HO} (e : Ext F H M F' H' M') (hp : H p = none) : Ext F H M F' (upd H' p o) M' :=
  have ne : ∀ {a : Addr} {u : HO}, H a = some u → upd H' p o a = H' a := fun h => upd_ne (ne_of_none h hp)
  ⟨⟨e.mono, fun a u f h => by rw [ne h]; exact e.fro a u f h, fun a u h => by rw [ne h]; exact e.tup a u h, fun a u w h => by rw [ne h]; exact e.frz a u w h, fun a u h => by rw [ne h]; exact e.xd a u h⟩,
   fun a u h n => by rw [ne h]; exact e.frame a u h n, e.dom, e.new⟩
theorem MemOk.side {p : Addr} {vs : List V} {o : HO} (m : MemOk K F H M) (hp : H p = some (.lst vs)) (nF : ¬ F p) (nM : M p = none) : MemOk K F (upd H p o) M := by
  refine ⟨fun a f => ?_, fun a u e => ?_⟩
  · have z : a ≠ p := fun z => nF (by rw [← z]; exact f)
    rw [upd_ne z]
    exact m.fok a f
  · obtain ⟨n, q⟩ := m.at_ a u e
    have z : a ≠ p := fun z => by rw [z, nM] at e; cases e
    exact ⟨n, q.stay (ExtW.wr hp nF) fun w h => by rw [upd_ne z]; exact h⟩

def FTs (K : PySem.W.Frag) (X : Cx) (W : WX) (ifs : List Expr) (g : DT) : Prop := PTs X ifs (tGt K W g)
theorem PTs.imp {X : Cx} {e : List Expr} {t t' : TT} (h : PTs X e t) (i : ∀ σ H Q, t' σ H Q → t σ H Q) : PTs X e t' := ⟨fun pins s σ H Q I q => h.run pins s σ H Q I (i σ H Q q)⟩
def gYes : DT := fun _ _ M Q => Q true M
theorem fts_nil : FTs K X W [] gYes := PTs.imp pts_nil fun σ H Q ⟨F, ρ, M, E, Q', s, x, q, h⟩ => q F H M true (Ext.refl _ _ _) s.mem h
def lcD (ok : Mem → Prop) (dg : DG) (tt : DT) (te : DE) (ρw : Dv) : List D → List D → Mem → (List D → Mem → Prop) → Prop
  | [], acc, M, Q => ok M ∧ Q acc M
  | d :: ds, acc, M, Q => ok M ∧ dg d ρw M fun ρ1 M1 => tt E0 ρ1 M1 fun b M2 =>
      if b = true then te E0 ρ1 M2 fun y M3 => acc.length < sizeLine ∧ lcD ok dg tt te ρw ds (acc ++ [y]) M3 Q else lcD ok dg tt te ρw ds acc M2 Q
def nLc (gi : DI) (dg : DG) (tt : DT) (te : DE) (vs : List Nat) : DN := fun E ρ M Q => gi E ρ M fun src M1 => lcD src.ok dg tt te (wipeD ρ vs) src.items [] M1 Q

structure Side (K : PySem.W.Frag) (F : Addr → Prop) (H : Hp) (M : Mem) (p : Addr) (acc : List D) : Prop where
  mem : MemOk K F H M
  at_ : ∃ vs, H p = some (.lst vs) ∧ Rps K F H acc vs
  nF : ¬ F p
  nM : M p = none
theorem Side.next {F' : Addr → Prop} {H' : Hp} {M' : Mem} {p : Addr} {acc : List D} (s : Side K F H M p acc) (e : Ext F H M F' H' M') (m : MemOk K F' H' M') : Side K F' H' M' p acc := by
  obtain ⟨vs, h1, h2⟩ := s.at_
  refine ⟨m, ⟨vs, e.frame _ _ h1 s.nM, Rps.mono e _ _ h2⟩, fun f => ?_, ?_⟩
  · rcases e.new p f with z | z | z
    · exact s.nF z
    · exact z s.nM
    · rw [h1] at z; cases z
  · cases q : M' p with
    | none => rfl
    | some o =>
      rcases e.dom p (by rw [q]; exact fun z => nomatch z) with z | z
      · exact absurd s.nM z
      · rw [h1] at z; cases z
theorem Side.more {p : Addr} {acc : List D} {d : D} {v : V} (s : Side K F H M p acc) (r : Rp K F H d v) : ∃ vs, H p = some (.lst vs) ∧ vs.length = acc.length ∧ Side K F (upd H p (.lst (vs ++ [v]))) M p (acc ++ [d]) := by
  obtain ⟨vs, h1, h2⟩ := s.at_
  have w : ExtW F H F (upd H p (.lst (vs ++ [v]))) := ExtW.wr h1 s.nF
  exact ⟨vs, h1, h2.length, s.mem.side h1 s.nF s.nM, ⟨vs ++ [v], upd_same, Rps.append (Rps.mono w _ _ h2) (Rps.cons (Rp.mono w _ _ r) Rps.nil)⟩, s.nF, s.nM⟩

theorem lc_loop {J : It} {src : Src} {vs ws : List Nat} {dg : DG} {tt : DT} {te : DE} {F1 : Addr → Prop} {H1 Hs : Hp} {M1 Ms : Mem} {Fs : Addr → Prop} {p : Addr} {ρw : Dv} {σw : L2.St} {acc0 : List D} {Q' : List D → Mem → Prop} {Qe : Hp → Prop}
    (so : SrcOk K Fs Hs J src) (hs : ∀ i ∈ vs, i ∈ ws) (hw : L2.wipe σw ws = σw) (hp : H1 p = none) (es : Ext F1 H1 M1 Fs Hs Ms) (env : EnvOk K Fs Hs ρw σw) (hl : ρw.length = σw.length) (sd : Side K Fs Hs Ms p acc0)
    (q : ∀ F' H' M' acc, Ext F1 H1 M1 F' H' M' → ExtW Fs Hs F' H' → Side K F' H' M' p acc → Q' acc M' → Qe H') (h : lcD src.ok dg tt te ρw src.items acc0 Ms Q') :
    ∃ Wv : Nat → Nat → Hp → Prop, (∃ m, Wv 0 m Hs) ∧ ∀ i m H, Wv i m H → (J.stop i H ∧ Qe H) ∨ (J.go i H ∧ ∃ Nx : Hp → Prop, (∀ H', Nx H' → ∃ m', m' < m ∧ Wv (i + 1) m' H') ∧
      ∀ x H', J.yld i H x H' → gG K vs dg x σw H' fun σ2 H2 => L2.wipe σ2 ws = σw ∧ tGt K W0 tt σ2 H2 fun b H3 =>
        if b = true then tG K W0 te σ2 H3 fun y H4 => ∃ acc, H4 p = some (.lst acc) ∧ acc.length < sizeLine ∧ Nx (upd H4 p (.lst (acc ++ [y]))) else Nx H3) := by
  refine ⟨fun i m H2 => ∃ F2 M2 acc, Ext F1 H1 M1 F2 H2 M2 ∧ ExtW Fs Hs F2 H2 ∧ Side K F2 H2 M2 p acc ∧ i ≤ src.items.length ∧ m = src.items.length - i ∧ lcD src.ok dg tt te ρw (src.items.drop i) acc M2 Q', ⟨src.items.length, Fs, Ms, acc0, es, ExtW.refl _ _, sd, Nat.zero_le _, rfl, h⟩, ?_⟩
  rintro i m H2 ⟨F2, M2, acc, e2, n2, s2, hl2, rfl, h2⟩
  by_cases hlt : i < src.items.length
  · rw [List.drop_eq_getElem_cons hlt] at h2
    unfold lcD at h2
    obtain ⟨o, h2⟩ := h2
    obtain ⟨go, yl⟩ := (so F2 H2 M2 n2 s2.mem o i).1 src.items[i] (by simp [hlt])
    refine .inr ⟨go, fun H3 => ∃ F3 M3 acc, Ext F1 H1 M1 F3 H3 M3 ∧ ExtW Fs Hs F3 H3 ∧ Side K F3 H3 M3 p acc ∧ lcD src.ok dg tt te ρw (src.items.drop (i + 1)) acc M3 Q', ?_, fun v H3 y => ?_⟩
    · rintro H3 ⟨F3, M3, acc3, e3, n3, s3, h3⟩
      exact ⟨src.items.length - (i + 1), by omega, F3, M3, acc3, e3, n3, s3, hlt, rfl, h3⟩
    · obtain ⟨F3, e3, m3, r3⟩ := yl v H3 y
      refine ⟨F3, ρw, M2, _, _, ⟨env.mono (n2.trans e3.toExtW), m3, hl⟩, r3, fun F4 H4 ρ4 M4 σ4 e4 s4 c4 h4 => ?_, h2⟩
      have e24 := e3.trans e4
      refine ⟨(c4.wipe hs).trans hw, F4, ρ4, M4, E0, _, s4, x0, fun F5 H5 M5 b e5 m5 h5 => ?_, h4⟩
      have e25 := e24.trans e5
      cases b with
      | false =>
        have h5' : lcD src.ok dg tt te ρw (src.items.drop (i + 1)) acc M5 Q' := h5
        exact iteF ⟨F5, M5, acc, e2.trans e25, n2.trans e25.toExtW, s2.next e25 m5, h5'⟩
      | true =>
        have h5' := (if_pos rfl).mp h5
        refine iteT (tG_mk (s4.next e5 m5) x0 (fun F6 H6 M6 d v6 e6 m6 r6 ⟨hz, h6⟩ => ?_) h5')
        have e26 := e25.trans e6
        obtain ⟨us, g1, g2, g3⟩ := (s2.next e26 m6).more r6
        exact ⟨us, g1, by rw [g2]; exact hz, F6, M6, acc ++ [d], (e2.trans e26).side hp, (n2.trans e26.toExtW).trans (ExtW.wr g1 (s2.next e26 m6).nF), g3, h6⟩
  · have z : i = src.items.length := by omega
    subst z
    rw [List.drop_length] at h2
    unfold lcD at h2
    exact .inl ⟨(so F2 H2 M2 n2 s2.mem h2.1 _).2 (Nat.le_refl _), q F2 H2 M2 acc e2 n2 s2 h2.2⟩

theorem Side.start {p : Addr} (m : MemOk K F H M) (hp : H p = none) : Side K F (upd H p (.lst [])) M p [] := ⟨m.aside hp _, ⟨[], upd_same, Rps.nil⟩, (m.fresh hp).1, (m.fresh hp).2⟩
theorem lc_im {gi : DI} {dg : DG} {tt : DT} {te : DE} {vs ws : List Nat} (hs : ∀ i ∈ vs, i ∈ ws) : ∀ σ H Q, tN K W (nLc gi dg tt te ws) σ H Q → tLc (tGi K W gi) (gG K vs dg) (tGt K W0 tt) (tG K W0 te) ws σ H Q := fun σ H Q ⟨F, ρ, M, E, Q', s, x, q, h⟩ => by
  refine ⟨F, ρ, M, E, _, s, x, fun F1 H1 M1 J src e1 m1 so h1 p hp => ?_, h⟩
  have s1 := s.next e1 m1
  have l1 : Ext F1 H1 M1 F1 (upd H1 p (.lst [])) M1 := Ext.laid hp fun _ z => z
  refine lc_loop (fun F' H' M' e => so F' H' M' (l1.toExtW.trans e)) hs wipe_wipe hp l1 ((s1.env.mono l1).wipe ws) (by rw [wipeD_length, wipe_length]; exact s1.len) (Side.start m1 hp) (fun F2 H2 M2 acc e2 n2 s2 h2 => ?_) h1
  obtain ⟨us, g1, g2⟩ := s2.at_
  exact q F2 H2 M2 acc us p (e1.trans e2) s2.mem (e1.was hp) g1 s2.nF s2.nM g2 h2
variable {elt tg iter tg1 iter1 : Expr} {ifs ifs1 : List Expr} {scope : Scope} {own : List (Str × Nat)} {pos : Pos} {gi gi1 : DI} {vs vs1 : List Nat} {dg dg1 : DG} {tt tt1 : DT} {te : DE}
theorem fn_lc (hN : X.N.Nodup) (hi : FI K X W tg iter gi) (ok : BlkOk X.N X.env.scope scope own)
    (hg : ∀ (s : Shared) (H : Hp) (C : Addr) (cl : List (Str × Addr)) (fp : List Addr), FG K (X.blk s H scope (compEnvC scope cl C X.env) fp) tg vs dg) (ht : ∀ (s : Shared) (H : Hp) (C : Addr) (cl : List (Str × Addr)) (fp : List Addr), FTs K (X.blk s H scope (compEnvC scope cl C X.env) fp) W0 ifs tt)
    (he : ∀ (s : Shared) (H : Hp) (C : Addr) (cl : List (Str × Addr)) (fp : List Addr), FE K (X.blk s H scope (compEnvC scope cl C X.env) fp) W0 elt te) (hv : ∀ i ∈ vs, i ∈ own.map (·.2) := by decide) (hc : X.calm = true := by rfl) (hs : ∀ x, foldedSetIterable iter X.env x = pure x := by intro _; rfl) :
    FN K X W (.ListComp elt [⟨tg, iter, ifs, 0⟩] scope pos) (nLc gi dg tt te (own.map (·.2))) := PE.imp (pe_lc hc hN hi ok hg ht he hs) (lc_im hv)
theorem fs_setLc (i : Nat) {y : Str} {py spos : Pos} {g : DE} (hN : X.N.Nodup) (hi : FI K X W tg iter gi) (ok : BlkOk X.N X.env.scope scope own)
    (hg : ∀ (s : Shared) (H : Hp) (C : Addr) (cl : List (Str × Addr)) (fp : List Addr), FG K (X.blk s H scope (compEnvC scope cl C X.env) fp) tg vs dg) (ht : ∀ (s : Shared) (H : Hp) (C : Addr) (cl : List (Str × Addr)) (fp : List Addr), FTs K (X.blk s H scope (compEnvC scope cl C X.env) fp) W0 ifs tt)
    (he : ∀ (s : Shared) (H : Hp) (C : Addr) (cl : List (Str × Addr)) (fp : List Addr), FE K (X.blk s H scope (compEnvC scope cl C X.env) fp) W0 elt te) (hz : ∀ σ H Q, tG K W g σ H Q → tN K W (nLc gi dg tt te (own.map (·.2))) σ H Q)
    (hv : ∀ i ∈ vs, i ∈ own.map (·.2) := by decide) (hc : X.calm = true := by rfl) (hs : ∀ x, foldedSetIterable iter X.env x = pure x := by intro _; rfl)
    (hy : X.N[i]? = some y := by rfl) (hyl : X.env.scope.names.lookup y = some .local := by rfl) (hsw : swapsWith (.ListComp elt [⟨tg, iter, ifs, 0⟩] scope pos) (some (.Name y py)) spos.line X.env = pure true := by exact sw_true rfl rfl rfl (by decide +kernel)) :
    FS K X W (.Assign [.Name y py] (.ListComp elt [⟨tg, iter, ifs, 0⟩] scope pos) spos) (sSet i g) :=
  PS.imp (ps_setLc hc hN hy hyl hsw hi ok hg ht he hs) fun D σ H ⟨F, ρ, M, E', s, x, h⟩ => lc_im hv σ H _ (hz σ H _ (tG_mk s (x.ex.at_ s) (fun F1 H1 M1 d v e1 m1 r1 h1 => x.nx F1 H1 _ M1 _ e1 ((s.next e1 m1).set i r1) h1) h))

def lcD2 (ok : Mem → Prop) (dg : DG) (tt : DT) (gi1 : DI) (dg1 : DG) (tt1 : DT) (te : DE) (vs1 : List Nat) (ρw : Dv) : List D → List D → Mem → (List D → Mem → Prop) → Prop
  | [], acc, M, Q => ok M ∧ Q acc M
  | d :: ds, acc, M, Q => ok M ∧ dg d ρw M fun ρ1 M1 => tt E0 ρ1 M1 fun b M2 =>
      if b = true then gi1 E0 ρ1 M2 fun src1 M3 => lcD src1.ok dg1 tt1 te (wipeD ρ1 vs1) src1.items acc M3 fun acc' M4 => lcD2 ok dg tt gi1 dg1 tt1 te vs1 ρw ds acc' M4 Q else lcD2 ok dg tt gi1 dg1 tt1 te vs1 ρw ds acc M2 Q
def nLc2 (gi : DI) (dg : DG) (tt : DT) (gi1 : DI) (dg1 : DG) (tt1 : DT) (te : DE) (vs vs1 : List Nat) : DN := fun E ρ M Q => gi E ρ M fun src M1 => lcD2 src.ok dg tt gi1 dg1 tt1 te vs1 (wipeD ρ vs) src.items [] M1 Q
end
end DL

namespace DL
open PySem PySem.Spec L2

section
variable {K : PySem.W.Frag} {X : Cx} {W : WX} {F : Addr → Prop} {H : Hp} {ρ : Dv} {M : Mem} {σ : L2.St}
def asL (M : Mem) : D → Option (List D)
  | .lst ds => some ds
  | .ref a => match M a with
    | some (.lst ds) => some ds
    | _ => none
  | _ => none
def onL (M : Mem) (d : D) (k : List D → Prop) : Prop := match asL M d with
  | some ds => k ds
  | none => False
theorem onL_ref {a : Addr} {ds : List D} {k : List D → Prop} (e : M a = some (.lst ds)) (h : k ds) : onL M (.ref a) k := by
  unfold onL asL
  simp only [e]
  exact h
theorem onL_lst {ds : List D} {k : List D → Prop} (h : k ds) : onL M (.lst ds) k := h
theorem onL_at {d : D} {v : V} {k : List D → Prop} (m : MemOk K F H M) (r : Rp K F H d v) (h : onL M d k) : ∃ ds a vs, asL M d = some ds ∧ k ds ∧ v = .ref a ∧ H a = some (.lst vs) ∧ Rps K F H ds vs := by
  unfold onL at h
  cases q : asL M d with
  | none => rw [q] at h; exact h.elim
  | some ds =>
    rw [q] at h
    have h' : k ds := h
    cases d with
    | lst es =>
      have q' : some es = some ds := q
      cases q'
      unfold Rp at r
      obtain ⟨a, vs, e, h1, _, h2⟩ := r
      exact ⟨_, a, vs, rfl, h', e, h1, h2⟩
    | ref a =>
      have q' : (match M a with | some (.lst ds) => some ds | _ => none) = some ds := q
      cases z : M a with
      | none => rw [z] at q'; cases q'
      | some o =>
        rw [z] at q'
        cases o with
        | ins C fs => cases q'
        | own y => cases q'
        | sln C dx => cases q'
        | slt C dx d => cases q'
        | lst es =>
          cases q'
          obtain ⟨vs, h1, h2⟩ := (m.at_ a _ z).2
          unfold Rp at r
          exact ⟨ds, a, vs, rfl, h', r, h1, h2⟩
    | _ => cases q
def onS (M : Mem) (d : D) (k : List D → Prop) : Prop := match srcOf M d with
  | some s => k s.items
  | none => False
theorem onS_ref {a : Addr} {ds : List D} {k : List D → Prop} (e : M a = some (.lst ds)) (h : k ds) : onS M (.ref a) k := by
  unfold onS srcOf
  simp only [e]
  exact h
theorem onS_at {d : D} {v : V} {k : List D → Prop} (m : MemOk K F H M) (r : Rp K F H d v) (h : onS M d k) : ∃ ds a vs, k ds ∧ v = .ref a ∧ (SqL K H a vs ∨ TupAt K H a vs) ∧ Rps K F H ds vs := by
  unfold onS at h
  cases q : srcOf M d with
  | none => rw [q] at h; exact h.elim
  | some s =>
    rw [q] at h
    obtain ⟨o, kk, a, e, sa⟩ := src_at m r q
    obtain ⟨vs, h1, h2⟩ := sa F H M (ExtW.refl _ _) m o
    refine ⟨s.items, a, vs, h, e, ?_, h2⟩
    cases kk with
    | l => exact .inl h1
    | t => exact .inr h1

def dI (C : Int → Int → Prop) (g : Int → Int → D) : DR2
  | .int i, .int j, M, Q => C i j ∧ Q (g i j) M
  | _, _, _, _ => False
def dI0 (g : Int → Int → D) : DR2
  | .int i, .int j, M, Q => Q (g i j) M
  | _, _, _, _ => False
theorem Rp.int_inv {i : Int} {v : V} (r : Rp K F H (.int i) v) : v = .int i := by unfold Rp at r; exact r
theorem Rp.bl_inv {i : Bool} {v : V} (r : Rp K F H (.bl i) v) : v = .bl i := by unfold Rp at r; exact r
theorem od_I {f : Value → Value → Sem Value} {C : Int → Int → Prop} {g : Int → Int → D} {g' : Int → Int → V} (h : OpR X f (rI C g')) (hg : ∀ i j F H, Rp K F H (g i j) (g' i j)) : OpD K X f (dI C g) :=
  OpR.imp h fun x y H Q ⟨F, M, d, e, Q', m, r1, r2, q, h⟩ => by
    cases d with
    | int i =>
      cases e with
      | int j => exact ⟨i, j, r1.int_inv, r2.int_inv, h.1, q F H M _ _ (Ext.refl _ _ _) m (hg i j F H) h.2⟩
      | _ => exact h.elim
    | _ => exact h.elim
theorem od_I0 {f : Value → Value → Sem Value} {g : Int → Int → D} {g' : Int → Int → V} (h : OpR X f (rI0 g')) (hg : ∀ i j F H, Rp K F H (g i j) (g' i j)) : OpD K X f (dI0 g) :=
  OpR.imp h fun x y H Q ⟨F, M, d, e, Q', m, r1, r2, q, h⟩ => by
    cases d with
    | int i =>
      cases e with
      | int j => exact ⟨i, j, r1.int_inv, r2.int_inv, q F H M _ _ (Ext.refl _ _ _) m (hg i j F H) h⟩
      | _ => exact h.elim
    | _ => exact h.elim
abbrev dSub : DR2 := dI0 fun i j => .int (i - j)
abbrev dMul : DR2 := dI CMulW fun i j => .int (i * j)
abbrev dFdiv : DR2 := dI CDivW fun i j => .int (i / j)
abbrev dMod : DR2 := dI (fun _ j => 0 < j) fun i j => .int (i % j)
abbrev dPow : DR2 := dI CPow fun i j => .int (i ^ j.toNat)
abbrev dLt : DR2 := dI0 fun i j => .bl (decide (i < j))
abbrev dLe : DR2 := dI0 fun i j => .bl (decide (i ≤ j))
abbrev dGt : DR2 := dI0 fun i j => .bl (decide (j < i))
abbrev dGe : DR2 := dI0 fun i j => .bl (decide (j ≤ i))
theorem od_sub : OpD K X (binaryOp .Sub) dSub := od_I0 op_sub fun _ _ _ _ => Rp.int
theorem od_mul : OpD K X (binaryOp .Mult) dMul := od_I op_mulW fun _ _ _ _ => Rp.int
theorem od_fdiv : OpD K X (binaryOp .FloorDiv) dFdiv := od_I op_fdivW fun _ _ _ _ => Rp.int
theorem od_mod : OpD K X (binaryOp .Mod) dMod := od_I op_mod fun _ _ _ _ => Rp.int
theorem od_pow : OpD K X (binaryOp .Pow) dPow := od_I op_pow fun _ _ _ _ => Rp.int
theorem od_lt : OpD K X (compareOp .Lt) dLt := od_I0 op_lt fun _ _ _ _ => Rp.bl
theorem od_le : OpD K X (compareOp .LtE) dLe := od_I0 op_le fun _ _ _ _ => Rp.bl
theorem od_gt : OpD K X (compareOp .Gt) dGt := od_I0 op_gt fun _ _ _ _ => Rp.bl
theorem od_ge : OpD K X (compareOp .GtE) dGe := od_I0 op_ge fun _ _ _ _ => Rp.bl
def dU (g : Int → D) : DR1
  | .int i, M, Q => Q (g i) M
  | _, _, _ => False
abbrev dNeg : DR1 := dU fun i => .int (-i)
theorem ud_neg : UnD K X (unaryOp .USub) dNeg := UnR.imp un_neg fun x H Q ⟨F, M, d, Q', m, r, q, h⟩ => by
  cases d with
  | int i => exact ⟨i, r.int_inv, q F H M _ _ (Ext.refl _ _ _) m Rp.int h⟩
  | _ => exact h.elim

abbrev DRN2 := D → D → Mem → (List D → Mem → Prop) → Prop
def nOp (rd : DRN2) (ga gb : DE) : DN := fun E ρ M Q => ga E ρ M fun x M1 => gb E ρ M1 fun y M2 => rd x y M2 Q
def nCat : DRN2 := fun x y M Q => onL M x fun a => onL M y fun b => a.length + b.length ≤ sizeLine ∧ Q (a ++ b) M
def nRep : DRN2 := fun x y M Q => onL M x fun a => match y with
  | .int k => (-(2 ^ 63) ≤ k ∧ k < 2 ^ 63 ∧ a.length * k.toNat ≤ sizeLine) ∧ Q (List.replicate k.toNat a).flatten M
  | _ => False
def dAdd : DR2
  | .int i, .int j, M, Q => Q (.int (i + j)) M
  | .tup a, .tup b, M, Q => a.length + b.length ≤ sizeLine ∧ Q (.tup (a ++ b)) M
  | .str a, .str b, M, Q => a.length + b.length ≤ sizeLine ∧ Q (.str (a ++ b)) M
  | .lst a, y, M, Q => onL M y fun b => a.length + b.length ≤ sizeLine ∧ Q (.lst (a ++ b)) M
  | .ref r, y, M, Q => onL M (.ref r) fun a => onL M y fun b => a.length + b.length ≤ sizeLine ∧ Q (.lst (a ++ b)) M
  | _, _, _, _ => False
theorem newF {F1 : Addr → Prop} {H1 : Hp} {M1 : Mem} {ds : List D} {vs : List V} {Q : VK} {Q' : DVK} {p : Addr} (e1 : Ext F H M F1 H1 M1) (m1 : MemOk K F1 H1 M1) (r1 : Rps K F1 H1 ds vs) (hp : H1 p = none) (q : VOk K F H M Q' Q) (h : Q' (.lst ds) M1) : Q (.ref p) (upd H1 p (.lst vs)) :=
  newL (Q' := fun ds M => Q' (.lst ds) M) e1 m1 r1 hp (fun F' H' M' ds vs p e m wp hp nF nM r h' => by
    refine q (fun a => F' a ∨ a = p) H' M' (.lst ds) (.ref p) (e.frzAt wp) (m.freeze hp nM) ?_ h'
    unfold Rp
    exact ⟨p, vs, rfl, hp, .inr rfl, Rps.mono (ExtW.grow fun _ z => .inl z) _ _ r⟩) h
theorem newT {F1 : Addr → Prop} {H1 : Hp} {M1 : Mem} {ds : List D} {vs : List V} {Q : VK} {Q' : DVK} {p : Addr} (e1 : Ext F H M F1 H1 M1) (m1 : MemOk K F1 H1 M1) (r1 : Rps K F1 H1 ds vs) (hp : H1 p = none) (q : VOk K F H M Q' Q) (h : Q' (.tup ds) M1) : Q (.ref p) (upd H1 p (.tup vs)) := by
  refine q F1 (upd H1 p (.tup vs)) M1 (.tup ds) (.ref p) (e1.trans (Ext.laid hp fun _ z => z)) (m1.aside hp _) ?_ h
  unfold Rp
  exact ⟨p, vs, rfl, .inl upd_same, Rps.mono (Ext.laid (M := M1) hp fun _ z => z).toExtW _ _ r1⟩
theorem od_add (hK : X.K = K) : OpD K X (binaryOp .Add) dAdd := by
  subst hK
  refine OpR.imp (OpR.or op_add (OpR.or op_cat (OpR.or op_catA op_add_str))) fun x y H Q ⟨F, M, d, e, Q', m, r1, r2, q, h⟩ => ?_
  have lists : ∀ {d : D}, (onL M d fun a => onL M e fun b => a.length + b.length ≤ sizeLine ∧ Q' (.lst (a ++ b)) M) → Rp X.K F H d x → rCat x y H Q := fun {d} h r1 => by
    obtain ⟨as, a, vs, _, h, rfl, ha, ra⟩ := onL_at m r1 h
    obtain ⟨bs, b, ws, _, h, rfl, hb, rb⟩ := onL_at m r2 h
    exact ⟨a, b, vs, ws, rfl, rfl, ha, hb, by rw [ra.length, rb.length]; exact h.1, fun p hp => newF (Ext.refl _ _ _) m (Rps.append ra rb) hp q h.2⟩
  cases d with
  | int i =>
    cases e with
    | int j => exact .inl ⟨i, j, r1.int_inv, r2.int_inv, q F H M _ _ (Ext.refl _ _ _) m Rp.int h⟩
    | _ => exact h.elim
  | str i =>
    cases e with
    | str j =>
      unfold Rp at r1 r2
      exact .inr (.inr (.inr ⟨i, j, r1, r2, h.1, q F H M _ _ (Ext.refl _ _ _) m Rp.str h.2⟩))
    | _ => exact h.elim
  | tup as =>
    cases e with
    | tup bs =>
      obtain ⟨h2, h3⟩ := h
      have rr1 := r1
      have rr2 := r2
      unfold Rp at r1 r2
      obtain ⟨a, vs, rfl, qa, ra⟩ := r1
      obtain ⟨b, ws, rfl, qb, rb⟩ := r2
      have nil : ∀ {ds : List D} {us : List V}, Rps X.K F H ds us → us = [] → ds = [] := fun {ds us} r z => by
        have := r.length
        rw [z] at this
        exact List.eq_nil_of_length_eq_zero this.symm
      refine .inr (.inr (.inl ⟨a, b, vs, ws, rfl, rfl, qa.sq, qb.sq, by rw [ra.length, rb.length]; exact h2, fun z => ?_, fun _ z => ?_, fun _ _ p hp => newT (Ext.refl _ _ _) m (Rps.append ra rb) hp q h3⟩))
      · rw [nil ra z, List.nil_append] at h3
        exact q F H M _ _ (Ext.refl _ _ _) m rr2 h3
      · rw [nil rb z, List.append_nil] at h3
        exact q F H M _ _ (Ext.refl _ _ _) m rr1 h3
    | _ => exact h.elim
  | lst as =>
    refine .inr (.inl (lists (d := .lst as) ?_ r1))
    cases e <;> exact h
  | ref a =>
    refine .inr (.inl (lists (d := .ref a) ?_ r1))
    cases e <;> exact h
  | _ => cases e <;> exact h.elim

mutual
inductive Vw (M : Mem) : D → PyData → Prop
  | non : Vw M .non .none
  | bl (b : Bool) : Vw M (.bl b) (.bool b)
  | int (i : Int) : Vw M (.int i) (.int i)
  | str (x : Str) : Vw M (.str x) (.str x)
  | tup {ds : List D} {ps : List PyData} : Vws M ds ps → Vw M (.tup ds) (.tuple ps)
  | lst {ds : List D} {ps : List PyData} : Vws M ds ps → Vw M (.lst ds) (.list ps)
  | ref {a : Addr} {ds : List D} {ps : List PyData} : M a = some (.lst ds) → Vws M ds ps → Vw M (.ref a) (.list ps)
inductive Vws (M : Mem) : List D → List PyData → Prop
  | nil : Vws M [] []
  | cons {d : D} {p : PyData} {ds : List D} {ps : List PyData} : Vw M d p → Vws M ds ps → Vws M (d :: ds) (p :: ps)
end
mutual
theorem Vw.dp (m : MemOk K F H M) : ∀ {d : D} {p : PyData} {v : V}, Vw M d p → Rp K F H d v → Dp K H v p
  | _, _, v, .non, r => by unfold Rp at r; subst r; exact Dp.non
  | _, _, v, .bl b, r => by unfold Rp at r; subst r; exact Dp.bl b
  | _, _, v, .int b, r => by unfold Rp at r; subst r; exact Dp.int b
  | _, _, v, .str b, r => by unfold Rp at r; subst r; exact Dp.str b
  | _, _, v, .tup h, r => by
    unfold Rp at r
    obtain ⟨a, vs, rfl, q, rr⟩ := r
    exact Dp.tup q.sq (Vws.dp m h rr)
  | _, _, v, .lst h, r => by
    unfold Rp at r
    obtain ⟨a, vs, rfl, q, _, rr⟩ := r
    exact Dp.lst (SqL.of q) (Vws.dp m h rr)
  | _, _, v, .ref e h, r => by
    obtain ⟨vs, h1, h2⟩ := (m.at_ _ _ e).2
    unfold Rp at r
    subst r
    exact Dp.lst (SqL.of h1) (Vws.dp m h h2)
theorem Vws.dp (m : MemOk K F H M) : ∀ {ds : List D} {ps : List PyData} {vs : List V}, Vws M ds ps → Rps K F H ds vs → DpAll K H vs ps
  | _, _, vs, .nil, r => by unfold Rps at r; subst r; exact DpAll.nil
  | _, _, vs, .cons h t, r => by
    unfold Rps at r
    obtain ⟨v, w, rfl, r1, r2⟩ := r
    exact DpAll.cons (Vw.dp m h r1) (Vws.dp m t r2)
end
theorem Vws.map {α : Type} {f : α → D} {g : α → PyData} (h : ∀ a, Vw M (f a) (g a)) : ∀ xs : List α, Vws M (xs.map f) (xs.map g)
  | [] => .nil
  | x :: xs => .cons (h x) (Vws.map h xs)
def eqS : D → D → Option Bool
  | .int i, .int j => some (decide (i = j))
  | .bl i, .bl j => some (decide (i = j))
  | .str i, .str j => some (decide (i = j))
  | .non, .non => some true
  | .non, .int _ => some false
  | .int _, .non => some false
  | _, _ => none
def dEqG (f : Bool → Bool) : DR2 := fun x y M Q => match eqS x y with
  | some b => Q (.bl (f b)) M
  | none => ∃ p q, Vw M x p ∧ Vw M y q ∧ SeqAt.shaped p = true ∧ SeqAt.shaped q = true ∧ Q (.bl (f (PyData.eqv p q))) M
abbrev dEq : DR2 := dEqG fun b => b
abbrev dNe : DR2 := dEqG fun b => !b
theorem eqS_at {d e : D} {x y : V} {b : Bool} (r1 : Rp K F H d x) (r2 : Rp K F H e y) (h : eqS d e = some b) : scal x y = true ∧ decide (x = y) = b := by
  cases d <;> cases e <;> first
    | (cases h; done)
    | (unfold Rp at r1 r2
       subst r1 r2
       cases h
       exact ⟨rfl, by simp⟩)
theorem od_eq (hK : X.K = K) (hu : X.A.units + 64 < cLine) : OpD K X (compareOp .Eq) dEq := by
  subst hK
  refine OpR.imp (OpR.or op_eq (op_eqD hu)) fun x y H Q ⟨F, M, d, e, Q', m, r1, r2, q, h⟩ => ?_
  unfold dEq dEqG at h
  cases z : eqS d e with
  | some b =>
    rw [z] at h
    obtain ⟨h1, h2⟩ := eqS_at r1 r2 z
    refine .inl ⟨h1, ?_⟩
    rw [h2]
    exact q F H M _ _ (Ext.refl _ _ _) m Rp.bl h
  | none =>
    rw [z] at h
    obtain ⟨p, p', v1, v2, s1, s2, h⟩ := h
    exact .inr ⟨p, p', v1.dp m r1, v2.dp m r2, s1, s2, q F H M _ _ (Ext.refl _ _ _) m Rp.bl h⟩
theorem od_ne (hK : X.K = K) (hu : X.A.units + 64 < cLine) : OpD K X (compareOp .NotEq) dNe := by
  subst hK
  refine OpR.imp (OpR.or op_ne (op_neD hu)) fun x y H Q ⟨F, M, d, e, Q', m, r1, r2, q, h⟩ => ?_
  unfold dNe dEqG at h
  cases z : eqS d e with
  | some b =>
    rw [z] at h
    obtain ⟨h1, h2⟩ := eqS_at r1 r2 z
    refine .inl ⟨h1, ?_⟩
    rw [h2]
    exact q F H M _ _ (Ext.refl _ _ _) m Rp.bl h
  | none =>
    rw [z] at h
    obtain ⟨p, p', v1, v2, s1, s2, h⟩ := h
    exact .inr ⟨p, p', v1.dp m r1, v2.dp m r2, s1, s2, q F H M _ _ (Ext.refl _ _ _) m Rp.bl h⟩
def isNon : D → Bool
  | .non => true
  | _ => false
def dIsN (f : Bool → Bool) : DR2
  | x, .non, M, Q => Q (.bl (f (isNon x))) M
  | _, _, _, _ => False
theorem isNon_at {d : D} {x : V} (r : Rp K F H d x) : decide (x = .non) = isNon d := by
  cases d <;> unfold Rp at r <;> first
    | (subst r; rfl)
    | (obtain ⟨a, vs, rfl, _⟩ := r; rfl)
    | (obtain ⟨a, dx, gs, rfl, _⟩ := r; rfl)
    | (obtain ⟨a, rfl, _⟩ := r; rfl)
    | (obtain ⟨rfl, _⟩ := r; rfl)
theorem od_isN : OpD K X (compareOp .Is) (dIsN fun b => b) := OpR.imp op_isN fun x y H Q ⟨F, M, d, e, Q', m, r1, r2, q, h⟩ => by
  cases e with
  | non =>
    unfold Rp at r2
    refine ⟨r2, ?_⟩
    rw [isNon_at r1]
    exact q F H M _ _ (Ext.refl _ _ _) m Rp.bl h
  | _ => exact h.elim
theorem od_notN : OpD K X (compareOp .IsNot) (dIsN fun b => !b) := OpR.imp op_notN fun x y H Q ⟨F, M, d, e, Q', m, r1, r2, q, h⟩ => by
  cases e with
  | non =>
    unfold Rp at r2
    refine ⟨r2, ?_⟩
    rw [isNon_at r1]
    exact q F H M _ _ (Ext.refl _ _ _) m Rp.bl h
  | _ => exact h.elim

def dIx : DR2
  | x, .int i, M, Q => onS M x fun ds => ∃ d, atI ds i = some d ∧ Q d M
  | _, _, _, _ => False
theorem atI_rps {ds : List D} {vs : List V} {i : Int} {d : D} (r : Rps K F H ds vs) (h : atI ds i = some d) : ∃ v, atI vs i = some v ∧ Rp K F H d v := by
  unfold atI at h ⊢
  rw [r.length]
  cases e : ixN ds.length i with
  | none => rw [e] at h; cases h
  | some j =>
    rw [e] at h
    exact r.get h
theorem xd_ix (hK : X.K = K) : IxD K X dIx := by
  subst hK
  refine IxR.imp (ix_list.or ix_tup) fun x y H Q ⟨F, M, d, e, Q', m, r1, r2, q, h⟩ => ?_
  cases e with
  | int i =>
    have h' : onS M d fun ds => ∃ d', atI ds i = some d' ∧ Q' d' M := h
    obtain ⟨ds, a, vs, ⟨d', h1, h2⟩, rfl, k, r⟩ := onS_at m r1 h'
    obtain ⟨v, h3, h4⟩ := atI_rps r h1
    have fin := q F H M _ _ (Ext.refl _ _ _) m h4 h2
    exact k.imp (fun k => ⟨a, vs, i, v, rfl, r2.int_inv, k, h3, fin⟩) fun k => ⟨a, vs, i, v, rfl, r2.int_inv, k.sq, h3, fin⟩
  | _ => exact h.elim
end
end DL

namespace DL
open PySem PySem.Spec L2

section
variable {K : PySem.W.Frag} {X : Cx} {W : WX} {F : Addr → Prop} {H : Hp} {ρ : Dv} {M : Mem} {σ : L2.St} {a b e o : Expr} {ga gb gc : DE} {pos cpos apos : Pos}
abbrev DO := DXK → Dv → Mem → (Option Int → Mem → Prop) → Prop
def tGo (K : PySem.W.Frag) (W : WX) (g : DO) : TO := fun σ H Q => ∃ F ρ M E Q', Sta K F H ρ M σ ∧ XOk K F H M E W σ ∧ (∀ F' H' M' i, Ext F H M F' H' M' → MemOk K F' H' M' → Q' i M' → Q i H') ∧ g E ρ M Q'
def FO (K : PySem.W.Frag) (X : Cx) (W : WX) (e : Option Expr) (g : DO) : Prop := PO X e (tGo K W g)
theorem PO.imp {e : Option Expr} {t t' : TO} (h : PO X e t) (i : ∀ σ H Q, t' σ H Q → t σ H Q) : PO X e t' := ⟨fun pins s σ H Q I q => h.run pins s σ H Q I (i σ H Q q)⟩
def oNone : DO := fun _ _ M Q => Q none M
def oSome (g : DE) : DO := fun E ρ M Q => g E ρ M fun d M1 => match d with
  | .int i => Q (some i) M1
  | _ => False
theorem fo_none : FO K X W none oNone := PO.imp po_none fun σ H Q ⟨F, ρ, M, E, Q', s, x, q, h⟩ => q F H M none (Ext.refl _ _ _) s.mem h
theorem fo_some (he : FE K X W e ga) : FO K X W (some e) (oSome ga) := PO.imp (po_some he) fun σ H Q ⟨F, ρ, M, E, Q', s, x, q, h⟩ => tG_mk s x (fun F1 H1 M1 d v e1 m1 r1 h1 => by
  cases d with
  | int i => exact ⟨i, r1.int_inv, q F1 H1 M1 _ e1 m1 h1⟩
  | _ => exact h1.elim) h
def cutD {α : Type} (xs : List α) (lo hi : Option Int) : List α := (xs.drop (HT.sIx xs.length 0 lo)).take (HT.sIx xs.length xs.length hi - HT.sIx xs.length 0 lo)
theorem cutD_rps {ds : List D} {vs : List V} (r : Rps K F H ds vs) (lo hi : Option Int) : Rps K F H (cutD ds lo hi) (cutV vs lo hi) := by
  unfold cutD cutV
  rw [r.length]
  exact (r.drop _).take _
def nSl (g : DE) (gl gh : DO) : DN := fun E ρ M Q => g E ρ M fun x M1 => gl E ρ M1 fun l M2 => gh E ρ M2 fun h M3 => onL M3 x fun ds => Q (cutD ds l h) M3
def gSl (g : DE) (gl gh : DO) : DE := fun E ρ M Q => g E ρ M fun x M1 => gl E ρ M1 fun l M2 => gh E ρ M2 fun h M3 => match x with
  | .tup ds => Q (.tup (cutD ds l h)) M3
  | x => onL M3 x fun ds => Q (.lst (cutD ds l h)) M3
theorem fe_slice {lo hi : Option Expr} {gl gh : DO} {p2 : Pos} (hK : X.K = K) (he : FE K X W e ga) (hl : FO K X W lo gl) (hh : FO K X W hi gh) : FE K X W (.Subscript e (.Slice lo hi none p2) pos) (gSl ga gl gh) := by
  subst hK
  refine PE.imp (pe_slice (SlR.or sl_list sl_tupA) he hl hh) fun σ H Q ⟨F, ρ, M, E, Q', s, x, q, h⟩ => tG_mk s x (fun F1 H1 M1 d v e1 m1 r1 h1 => ⟨F1, ρ, M1, E, _, s.next e1 m1, x.next e1, fun F2 H2 M2 i e2 m2 h2 => ⟨F2, ρ, M2, E, _, (s.next e1 m1).next e2 m2, (x.next e1).next e2, fun F3 H3 M3 j e3 m3 h3 => ?_, h2⟩, h1⟩) h
  have r3 := Rp.mono (e2.trans e3).toExtW _ _ r1
  have e03 := (e1.trans e2).trans e3
  cases d with
  | tup ds =>
    have rr3 := r3
    unfold Rp at r3
    obtain ⟨l, vs, rfl, hv, rv⟩ := r3
    refine .inr ⟨l, vs, rfl, hv.sq, fun z => ?_, fun _ p hp => newT e03 m3 (cutD_rps rv i j) hp q h3⟩
    have e : cutD ds i j = ds := by
      rw [rv.length] at z
      unfold cutD
      rw [z.1, z.2]
      simp
    have h3' : Q' (.tup (cutD ds i j)) M3 := h3
    rw [e] at h3'
    exact q F3 H3 M3 _ _ e03 m3 rr3 h3'
  | lst ds =>
    obtain ⟨ds, l, vs, _, h4, rfl, hv, rv⟩ := onL_at m3 r3 h3
    exact .inl ⟨l, vs, rfl, SqL.of hv, fun p hp => newF e03 m3 (cutD_rps rv i j) hp q h4⟩
  | ref r =>
    obtain ⟨ds, l, vs, _, h4, rfl, hv, rv⟩ := onL_at m3 r3 h3
    exact .inl ⟨l, vs, rfl, SqL.of hv, fun p hp => newF e03 m3 (cutD_rps rv i j) hp q h4⟩
  | _ => exact h3.elim

abbrev DRm := D → List D → Mem → DVK → Prop
def rGm (K : PySem.W.Frag) (rd : DRm) : V → List V → Hp → VK → Prop := fun x xs H Q => ∃ F M d ds Q', MemOk K F H M ∧ Rp K F H d x ∧ Rps K F H ds xs ∧ VOk K F H M Q' Q ∧ rd d ds M Q'
def MtD (K : PySem.W.Frag) (X : Cx) (id : String) (rd : DRm) : Prop := MtR X id (rGm K rd)
theorem MtR.imp {id : String} {r r' : V → List V → Hp → VK → Prop} (h : MtR X id r) (i : ∀ x xs H Q, r' x xs H Q → r x xs H Q) : MtR X id r' := fun pins s σ H x xs v us Q I rx rv q => h pins s σ H x xs v us Q I rx rv (i x xs H Q q)
def gMt (rd : DRm) (go : DE) (g : DA) : DE := fun E ρ M Q => go E ρ M fun x M1 => (onL M1 x fun _ => True) ∧ g E ρ M1 fun ds M2 => rd x ds M2 Q
def gMt0 (rd : DRm) (go : DE) : DE := fun E ρ M Q => go E ρ M fun x M1 => (onL M1 x fun _ => True) ∧ rd x [] M1 Q
theorem fe_mt {es : List Expr} {name : Str} {id : String} {rd : DRm} {g : DA} (hK : X.K = K) (slot : Slot "list" name id) (hty : typeOf (.builtin id) = pure (.type "method_descriptor")) (hm : MtD K X id rd) (ho : FE K X W o ga) (ha : FA K X W (e :: es) g)
    (hbase : attributeBase o name X.env (eval o X.env) = eval o X.env := by rfl)
    (hfew : ((backTo cpos (starEach (e :: es) X.env)).all (fun x => !x.1) && (backToKw cpos (keywordEach [] X.env)).all (fun x => x.1.isSome)
      && decide ((e :: es).length + ([] : List Keyword).length + (if ([] : List Keyword).isEmpty then 0 else 1) < 30)) = true := by rfl)
    (hline : (apos.endLine == cpos.line) = true := by rfl) (hs : starEach (e :: es) X.env = (false, eval e X.env) :: starEach es X.env := by rfl) (hpl : (backTo cpos (starEach es X.env)).any (·.1) = false := by rfl) :
    FE K X W (.Call (.Attribute o name apos) (e :: es) [] cpos) (gMt rd ga g) := by
  subst hK
  refine PE.imp (pe_bm PySem.F.plainAttrs_list slot hty hm ho ha hbase hfew hline hs hpl) fun σ H Q ⟨F, ρ, M, E, Q', s, x, q, h⟩ => tG_mk s x (fun F1 H1 M1 d v e1 m1 r1 ⟨h0, h1⟩ => ?_) h
  obtain ⟨ds, l, vs, _, _, rfl, hv, rv⟩ := onL_at m1 r1 h0
  exact ⟨.inl ⟨rfl, vs, SqL.of hv⟩, F1, ρ, M1, E, _, s.next e1 m1, x.next e1, fun F2 H2 M2 ds2 vs2 e2 m2 r2 h2 => (⟨F2, M2, d, ds2, Q', m2, Rp.mono e2.toExtW _ _ r1, r2, q.next (e1.trans e2), h2⟩ : rGm X.K rd _ _ H2 Q), h1⟩
theorem fe_mt0 {name : Str} {id : String} {rd : DRm} (hK : X.K = K) (slot : Slot "list" name id) (hty : typeOf (.builtin id) = pure (.type "method_descriptor")) (hm : MtD K X id rd) (ho : FE K X W o ga)
    (hbase : attributeBase o name X.env (eval o X.env) = eval o X.env := by rfl) (hline : (apos.endLine == cpos.line) = true := by rfl) : FE K X W (.Call (.Attribute o name apos) [] [] cpos) (gMt0 rd ga) := by
  subst hK
  refine PE.imp (pe_bm0 PySem.F.plainAttrs_list slot hty hm ho hbase hline) fun σ H Q ⟨F, ρ, M, E, Q', s, x, q, h⟩ => tG_mk s x (fun F1 H1 M1 d v e1 m1 r1 ⟨h0, h1⟩ => ?_) h
  obtain ⟨ds, l, vs, _, _, rfl, hv, rv⟩ := onL_at m1 r1 h0
  exact ⟨.inl ⟨rfl, vs, SqL.of hv⟩, F1, M1, d, [], Q', m1, r1, Rps.nil, q.next e1, h1⟩
def onC (M : Mem) (d : D) (k : Addr → List D → Prop) : Prop := match d with
  | .ref a => ∃ ds, M a = some (.lst ds) ∧ k a ds
  | _ => False
theorem onC_at {d : D} {v : V} {k : Addr → List D → Prop} (m : MemOk K F H M) (r : Rp K F H d v) (h : onC M d k) : ∃ a ds vs, d = .ref a ∧ v = .ref a ∧ M a = some (.lst ds) ∧ ¬ F a ∧ H a = some (.lst vs) ∧ Rps K F H ds vs ∧ k a ds := by
  cases d with
  | ref a =>
    obtain ⟨ds, e, h⟩ := h
    obtain ⟨n, vs, h1, h2⟩ := m.at_ a _ e
    unfold Rp at r
    exact ⟨a, ds, vs, rfl, r, e, n, h1, h2, h⟩
  | _ => exact h.elim
theorem chL {a : Addr} {ds ds' : List D} {vs vs' : List V} {u : V} {d : D} {Q : VK} {Q' : DVK} (m : MemOk K F H M) (e : M a = some (.lst ds)) (n : ¬ F a) (hv : H a = some (.lst vs)) (r : Rps K F H ds' vs') (q : VOk K F H M Q' Q) (hd : ∀ H', ExtW F H F H' → Rp K F H' d u)
    (h : Q' d (mset M a (.lst ds'))) : Q u (upd H a (.lst vs')) := by
  have w : ExtW F H F (upd H a (.lst vs')) := ExtW.wr hv n
  have hM : M a ≠ none := by rw [e]; exact fun z => nomatch z
  refine q F _ (mset M a (.lst ds')) d u (Ext.write hv n hM (fun b z => ?_) (fun _ z => nomatch z) (fun _ _ z => nomatch z) fun _ z => nomatch z) (m.set hv n w ⟨vs', upd_same, Rps.mono w _ _ r⟩) (hd _ w) h
  by_cases y : b = a
  · rw [y]; exact hM
  · rw [mset_ne y] at z; exact z
def dAppend : DRm := fun x ds M Q => match ds with
  | [d] => onC M x fun a xs => xs.length < sizeLine ∧ Q .non (mset M a (.lst (xs ++ [d])))
  | _ => False
theorem md_append : MtD K X "list.append" dAppend := MtR.imp mt_append fun x xs H Q ⟨F, M, d, ds, Q', m, r, rs, q, h⟩ => by
  match ds, h with
  | [y], h =>
    obtain ⟨w, rfl, rw'⟩ := rs.one
    obtain ⟨a, es, vs, rfl, rfl, e, n, hv, rv, hz, h⟩ := onC_at m r h
    exact ⟨a, vs, w, rfl, rfl, hv, by rw [rv.length]; exact hz, chL m e n hv (Rps.append rv (Rps.cons rw' Rps.nil)) q (fun _ _ => Rp.non) h⟩
def dPop : DRm := fun x ds M Q => match ds with
  | [] => onC M x fun a xs => ∃ y, xs[xs.length - 1]? = some y ∧ Q y (mset M a (.lst xs.dropLast))
  | [.int i] => onC M x fun a xs => (-(2 ^ 63) ≤ i ∧ i < 2 ^ 63) ∧ ∃ k y, seqIndex? i xs.length = some k ∧ xs[k]? = some y ∧ Q y (mset M a (.lst (xs.eraseIdx k)))
  | _ => False
theorem Rps.dropLast {ds : List D} {vs : List V} (r : Rps K F H ds vs) : Rps K F H ds.dropLast vs.dropLast := by
  rw [List.dropLast_eq_take, List.dropLast_eq_take, r.length]
  exact r.take _
theorem md_pop : MtD K X "list.pop" dPop := MtR.imp (MtR.or mt_pop mt_popAt) fun x xs H Q ⟨F, M, d, ds, Q', m, r, rs, q, h⟩ => by
  match ds, h with
  | [], h =>
    unfold Rps at rs
    subst rs
    obtain ⟨a, es, vs, rfl, rfl, e, n, hv, rv, y, hy, h⟩ := onC_at m r h
    obtain ⟨w, hw, rw'⟩ := rv.get hy
    exact .inl ⟨a, vs, w, rfl, rfl, hv, by rw [rv.length]; exact hw, chL m e n hv rv.dropLast q (fun _ z => Rp.mono z _ _ rw') h⟩
  | [.int i], h =>
    obtain ⟨w, rfl, rw'⟩ := rs.one
    obtain ⟨a, es, vs, rfl, rfl, e, n, hv, rv, ⟨h1, h2⟩, k, y, hk, hy, h⟩ := onC_at m r h
    obtain ⟨u, hu, ru⟩ := rv.get hy
    exact .inr ⟨a, vs, i, k, u, rfl, by rw [rw'.int_inv], hv, h1, h2, by rw [rv.length]; exact hk, hu, chL m e n hv (rv.eraseIdx k) q (fun _ z => Rp.mono z _ _ ru) h⟩
def dReverse : DRm := fun x ds M Q => match ds with
  | [] => onC M x fun a xs => Q .non (mset M a (.lst xs.reverse))
  | _ => False
theorem md_reverse : MtD K X "list.reverse" dReverse := MtR.imp mt_reverse fun x xs H Q ⟨F, M, d, ds, Q', m, r, rs, q, h⟩ => by
  match ds, h with
  | [], h =>
    unfold Rps at rs
    subst rs
    obtain ⟨a, es, vs, rfl, rfl, e, n, hv, rv, h⟩ := onC_at m r h
    exact ⟨a, vs, rfl, rfl, hv, chL m e n hv rv.reverse q (fun _ _ => Rp.non) h⟩
def dInsert : DRm := fun x ds M Q => match ds with
  | [.int i, d] => onC M x fun a xs => (xs.length < sizeLine ∧ 0 ≤ i ∧ i < 2 ^ 63) ∧ Q .non (mset M a (.lst (xs.take i.toNat ++ [d] ++ xs.drop i.toNat)))
  | _ => False
def dSetIx : D → D → D → Mem → (Mem → Prop) → Prop
  | o, .int i, v, M, Q => onC M o fun a xs => ∃ j, ixN xs.length i = some j ∧ Q (mset M a (.lst (xs.set j v)))
  | _, _, _, _, _ => False
def sSetIx (g go gi : DE) : DS := fun E ρ M => g (fun x M => E.ex x ρ M) ρ M fun v M1 => go (fun x M => E.ex x ρ M) ρ M1 fun o M2 => gi (fun x M => E.ex x ρ M) ρ M2 fun i M3 => dSetIx o i v M3 fun M4 => E.nx ρ M4
abbrev SpD := List D → Mem → DVK → DXK → Prop
def liftSp (K : PySem.W.Frag) (sp : SpD) : Sp := fun vs H Q E => ∃ F M ds Q' E', MemOk K F H M ∧ Rps K F H ds vs ∧ VOk K F H M Q' Q ∧ (∀ F' H' M' x cls d, Ext F H M F' H' M' → MemOk K F' H' M' → RpX K F' H' x cls d → E' x M' → E cls d H') ∧ sp ds M Q' E'
abbrev FnD (P : Program) (w : World) (K : PySem.W.Frag) (mg : Str → Option Value) (base : Heap) (k : Nat) (f : Addr) (fd : FuncData) (ps : List Str) (sp : SpD) : Prop := FnOk P w K mg base (L2.CX P w) k f fd ps (liftSp K sp)
def gCall (sp : SpD) (g : DA) : DE := fun E ρ M Q => g E ρ M fun ds M1 => sp ds M1 Q E
theorem call_im {sp : SpD} {g : DA} : ∀ σ H Q, tG K W (gCall sp g) σ H Q → tCallS (liftSp K sp) (WE W) (tGa K W g) σ H Q := fun σ H Q ⟨F, ρ, M, E, Q', s, x, q, h⟩ =>
  (⟨F, ρ, M, E, _, s, x, fun F1 H1 M1 ds vs e1 m1 r1 h1 => (⟨F1, M1, ds, Q', E, m1, r1, q.next e1, x.next e1, h1⟩ : liftSp K sp vs H1 Q _), h⟩ : tGa K W g σ H _)
theorem fe_call {k : Nat} {f : Addr} {fd : FuncData} {ps : List Str} {sp : SpD} {x : Str} {p : Pos} {es : List Expr} {g : DA} (C : FnD X.prog X.w K X.mg X.base k f fd ps sp) (hr : Room k X.A) (tk : Takes X W) (hm : X.mg x = some (.ref f)) (hk : PySem.W.keepIn K (.ref f) = true) (hb : Binds K fd ps []) (ha : FA K X W (e :: es) g)
    (hK : X.K = K := by rfl) (hg : Gl X x := by rfl) (hdb : (x == ("__debug__" : Str)) = false := by decide) (he : starEach (e :: es) X.env = (false, eval e X.env) :: starEach es X.env := by rfl) (hpl : (backTo pos (starEach es X.env)).any (·.1) = false := by rfl) :
    FE K X W (.Call (.Name x p) (e :: es) [] pos) (gCall sp g) := by
  subst hK
  exact PE.imp (pe_callS C hr hg hm hk hb (fun σ => passAt tk σ) ha hdb he hpl) call_im

def gCB (rd : DRs) (g : DA) : DE := fun E ρ M Q => g E ρ M fun ds M1 => rd ds M1 Q
theorem cb_im {rd : DRs} {g : DA} : ∀ σ H Q, tG K W (gCB rd g) σ H Q → tCB (rGs K rd) (tGa K W g) σ H Q := fun σ H Q ⟨F, ρ, M, E, Q', s, x, q, h⟩ =>
  (⟨F, ρ, M, E, _, s, x, fun F1 H1 M1 ds vs e1 m1 r1 h1 => (⟨F1, M1, ds, Q', m1, r1, q.next e1, h1⟩ : rGs K rd vs H1 Q), h⟩ : tGa K W g σ H _)
theorem fe_cb {rd : DRs} {id : String} {x : Str} {p : Pos} {es : List Expr} {g : DA} (hc : CallD K X (.builtin id) rd) (hm : X.mg x = none) (hv : bootBuiltins x = some (.builtin id)) (ha : FA K X W (e :: es) g) (hg : Gl X x := by rfl) (hn : x ≠ "__name__" := by decide) (hdb : (x == ("__debug__" : Str)) = false := by decide)
    (he : starEach (e :: es) X.env = (false, eval e X.env) :: starEach es X.env := by rfl) (hpl : (backTo pos (starEach es X.env)).any (·.1) = false := by rfl) : FE K X W (.Call (.Name x p) (e :: es) [] pos) (gCB rd g) := PE.imp (pe_callB hc hg hm hv ha hn hdb he hpl) cb_im
theorem fe_ct {rd : DRs} {T : String} {x : Str} {p : Pos} {es : List Expr} {g : DA} (hc : CallD K X (.type T) rd) (hm : X.mg x = none) (hv : bootBuiltins x = some (.type T)) (ha : FA K X W (e :: es) g) (hg : Gl X x := by rfl) (hn : x ≠ "__name__" := by decide) (hdb : (x == ("__debug__" : Str)) = false := by decide)
    (he : starEach (e :: es) X.env = (false, eval e X.env) :: starEach es X.env := by rfl) (hpl : (backTo pos (starEach es X.env)).any (·.1) = false := by rfl) : FE K X W (.Call (.Name x p) (e :: es) [] pos) (gCB rd g) := PE.imp (pe_callTy hc hg hm hv ha hn hdb he hpl) cb_im
def dLen : DRs := fun ds M Q => match ds with
  | [x] => onS M x fun xs => Q (.int xs.length) M
  | _ => False
theorem cd_len (hK : X.K = K) : CallD K X (.builtin "len") dLen := by
  subst hK
  refine CallR.imp call_len_seq fun xs H Q ⟨F, M, ds, Q', m, r, q, h⟩ => ?_
  match ds, h with
  | [d], h =>
    obtain ⟨v, rfl, rv⟩ := r.one
    have h' : onS M d fun xs => Q' (.int xs.length) M := h
    obtain ⟨es, a, vs, h, rfl, k, r⟩ := onS_at m rv h'
    exact ⟨a, vs, rfl, k.imp (fun z => z) TupAt.sq, by rw [r.length]; exact q F H M _ _ (Ext.refl _ _ _) m Rp.int h⟩
def rNs (K : PySem.W.Frag) (rd : List D → Mem → (List D → Mem → Prop) → Prop) : List V → Hp → VK → Prop := fun xs H Q => ∃ F M ds Q', MemOk K F H M ∧ Rps K F H ds xs ∧
  (∀ F' H' M' ds vs p, Ext F H M F' H' M' → MemOk K F' H' M' → (M p ≠ none ∨ H p = none) → H' p = some (.lst vs) → ¬ F' p → M' p = none → Rps K F' H' ds vs → Q' ds M' → Q (.ref p) H') ∧ rd ds M Q'
def nCB (rd : List D → Mem → (List D → Mem → Prop) → Prop) (g : DA) : DN := fun E ρ M Q => g E ρ M fun ds M1 => rd ds M1 Q
theorem nb_im {rd : List D → Mem → (List D → Mem → Prop) → Prop} {g : DA} : ∀ σ H Q, tN K W (nCB rd g) σ H Q → tCB (rNs K rd) (tGa K W g) σ H Q := fun σ H Q ⟨F, ρ, M, E, Q', s, x, q, h⟩ =>
  (⟨F, ρ, M, E, _, s, x, fun F1 H1 M1 ds vs e1 m1 r1 h1 => (⟨F1, M1, ds, Q', m1, r1, fun F3 H3 M3 ds vs p e3 m3 wp => q F3 H3 M3 ds vs p (e1.trans e3) m3 (wp.elim (fun z => e1.dom p z) fun z => e1.was z), h1⟩ : rNs K rd vs H1 Q), h⟩ : tGa K W g σ H _)
theorem fn_ct {rd : List D → Mem → (List D → Mem → Prop) → Prop} {T : String} {x : Str} {p : Pos} {es : List Expr} {g : DA} (hc : CallR X (.type T) (rNs K rd)) (hm : X.mg x = none) (hv : bootBuiltins x = some (.type T)) (ha : FA K X W (e :: es) g) (hg : Gl X x := by rfl) (hn : x ≠ "__name__" := by decide) (hdb : (x == ("__debug__" : Str)) = false := by decide)
    (he : starEach (e :: es) X.env = (false, eval e X.env) :: starEach es X.env := by rfl) (hpl : (backTo pos (starEach es X.env)).any (·.1) = false := by rfl) : FN K X W (.Call (.Name x p) (e :: es) [] pos) (nCB rd g) := PE.imp (pe_callTy hc hg hm hv ha hn hdb he hpl) nb_im
def nListOf : List D → Mem → (List D → Mem → Prop) → Prop := fun ds M Q => match ds with
  | [x] => onS M x fun xs => Q xs M
  | _ => False
theorem cn_list (hK : X.K = K) : CallR X (.type "list") (rNs K nListOf) := by
  subst hK
  refine CallR.imp call_list_of fun xs H Q ⟨F, M, ds, Q', m, r, q, h⟩ => ?_
  match ds, h with
  | [d], h =>
    obtain ⟨v, rfl, rv⟩ := r.one
    have h' : onS M d fun xs => Q' xs M := h
    obtain ⟨es, a, vs, h, rfl, k, r⟩ := onS_at m rv h'
    exact ⟨a, vs, rfl, k.imp (fun z => z) TupAt.sq, fun p hp => newL (Ext.refl _ _ _) m r hp q h⟩
def dTupleOf : DRs := fun ds M Q => match ds with
  | [x] => onS M x fun xs => Q (.tup xs) M
  | _ => False
theorem cd_tuple (hK : X.K = K) : CallD K X (.type "tuple") dTupleOf := by
  subst hK
  refine CallR.imp call_tuple_of fun xs H Q ⟨F, M, ds, Q', m, r, q, h⟩ => ?_
  match ds, h with
  | [d], h =>
    obtain ⟨v, rfl, rv⟩ := r.one
    have h' : onS M d fun xs => Q' (.tup xs) M := h
    obtain ⟨es, a, vs, h, rfl, k, rr⟩ := onS_at m rv h'
    refine ⟨a, vs, rfl, k.imp (fun k => ⟨k, fun p hp => newT (Ext.refl _ _ _) m rr hp q h⟩) fun k => ⟨k.sq, q F H M _ _ (Ext.refl _ _ _) m ?_ h⟩⟩
    unfold Rp
    exact ⟨a, vs, rfl, k, rr⟩
def dSum : DRs := fun ds M Q => match ds with
  | [x] => onL M x fun xs => ∃ ns : List Int, xs = ns.map D.int ∧ Q (.int ns.sum) M
  | _ => False
def dAbs : DRs := fun ds M Q => match ds with
  | [.int i] => Q (.int (if i < 0 then -i else i)) M
  | _ => False
theorem cd_abs : CallD K X (.builtin "abs") dAbs := CallR.imp call_abs fun xs H Q ⟨F, M, ds, Q', m, r, q, h⟩ => by
  match ds, h with
  | [.int i], h =>
    obtain ⟨v, rfl, rv⟩ := r.one
    exact ⟨i, by rw [rv.int_inv], q F H M _ _ (Ext.refl _ _ _) m Rp.int h⟩
def dInt : DRs := fun ds M Q => match ds with
  | [.int i] => Q (.int i) M
  | [.bl b] => Q (.int (if b = true then 1 else 0)) M
  | _ => False
theorem cd_int : CallD K X (.type "int") dInt := CallR.imp call_int1 fun xs H Q ⟨F, M, ds, Q', m, r, q, h⟩ => by
  match ds, h with
  | [.int i], h =>
    obtain ⟨v, rfl, rv⟩ := r.one
    exact .inl ⟨i, by rw [rv.int_inv], q F H M _ _ (Ext.refl _ _ _) m Rp.int h⟩
  | [.bl b], h =>
    obtain ⟨v, rfl, rv⟩ := r.one
    exact .inr ⟨b, by rw [rv.bl_inv], q F H M _ _ (Ext.refl _ _ _) m Rp.int h⟩
inductive Kd | none | bool | int | str | tuple | list
  deriving DecidableEq
def Kd.name : Kd → String
  | .none => "NoneType" | .bool => "bool" | .int => "int" | .str => "str" | .tuple => "tuple" | .list => "list"
def kdOf (M : Mem) : D → Option Kd
  | .non => some .none
  | .bl _ => some .bool
  | .int _ => some .int
  | .str _ => some .str
  | .tup _ => some .tuple
  | .lst _ => some .list
  | .scr _ => some .list
  | .ref a => match M a with
    | some (.lst _) => some .list
    | _ => none
  | _ => none
theorem ty_of {d : D} {v : V} {k : Kd} (m : MemOk K F H M) (r : Rp K F H d v) (h : kdOf M d = some k) : TyX K H v (.type k.name) := by
  cases d with
  | non => cases h; unfold Rp at r; subst r; exact .base .non
  | bl b => cases h; unfold Rp at r; subst r; exact .base (.bl b)
  | int b => cases h; unfold Rp at r; subst r; exact .base (.int b)
  | str b => cases h; unfold Rp at r; subst r; exact .base (.str b)
  | tup ds =>
    cases h
    unfold Rp at r
    obtain ⟨a, vs, rfl, q, _⟩ := r
    rcases q with q | ⟨o, its, n, q1, q2, _⟩
    · exact .base (.tup q)
    · exact .kTuple q1 q2
  | lst ds =>
    cases h
    unfold Rp at r
    obtain ⟨a, vs, rfl, q, _⟩ := r
    exact .base (.lst q)
  | ref a =>
    have h' : (match M a with | some (.lst _) => some Kd.list | _ => none) = some k := h
    cases z : M a with
    | none => rw [z] at h'; cases h'
    | some o =>
      rw [z] at h'
      cases o with
      | ins C fs => cases h'
      | own y => cases h'
      | sln C dx => cases h'
      | slt C dx d => cases h'
      | lst es =>
        cases h'
        obtain ⟨vs, h1, h2⟩ := (m.at_ a _ z).2
        unfold Rp at r
        subst r
        exact .base (.lst h1)
  | scr ns =>
    cases h
    unfold Rp at r
    obtain ⟨a, rfl, q⟩ := r
    rcases q with ⟨o, q⟩ | q
    · exact .base (.frz q)
    · rcases q H with (q1 | ⟨o, q1⟩) | ⟨o, its, n, q1, q2, _⟩
      · exact .base (.lst q1)
      · exact .base (.frz q1)
      · exact .kList q1 q2
  | _ => cases h
def isK (k : Kd) (n : String) : Option Bool := if n = "int" then some (k == .int || k == .bool) else if n = "bool" then some (k == .bool) else if n = "list" then some (k == .list) else if n = "tuple" then some (k == .tuple) else if n = "str" then some (k == .str) else none
theorem isK_ok {k : Kd} {n : String} {b : Bool} (h : isK k n = some b) : PySem.W.kitOne K (.type k.name) (.type n) = some b := by
  unfold isK at h
  have fin : ∀ {n : String} {b : Bool}, kitB k.name n = some b → PySem.W.kitOne K (.type k.name) (.type n) = some b := fun h => kit_ty h
  split at h
  · subst_vars; cases h; apply fin; cases k <;> decide +kernel
  split at h
  · subst_vars; cases h; apply fin; cases k <;> decide +kernel
  split at h
  · subst_vars; cases h; apply fin; cases k <;> decide +kernel
  split at h
  · subst_vars; cases h; apply fin; cases k <;> decide +kernel
  split at h
  · subst_vars; cases h; apply fin; cases k <;> decide +kernel
  · cases h
def isKs (k : Kd) : List D → Option Bool
  | [] => some false
  | .ty n :: ds => match isK k n with
    | some true => some true
    | some false => isKs k ds
    | none => none
  | _ :: _ => none
def dIsi : DRs := fun ds M Q => match ds with
  | [x, .ty n] => ∃ k b, kdOf M x = some k ∧ isK k n = some b ∧ Q (.bl b) M
  | [x, .tup ts] => ∃ k b, kdOf M x = some k ∧ isKs k ts = some b ∧ (∃ ns : List String, ts = ns.map D.ty) ∧ Q (.bl b) M
  | _ => False
theorem isKs_ok {k : Kd} : ∀ {ns : List String} {b : Bool}, isKs k (ns.map D.ty) = some b → PySem.W.kitAny K (.type k.name) (ns.map Value.type) = some b
  | [], b, h => by cases h; exact kitAny_nil
  | n :: ns, b, h => by
    have h' : (match isK k n with | some true => some true | some false => isKs k (ns.map D.ty) | none => none) = some b := h
    cases z : isK k n with
    | none => rw [z] at h'; cases h'
    | some c =>
      rw [z] at h'
      cases c with
      | true => cases h'; exact kitAny_cons (isK_ok z) (fun q => nomatch q) fun _ => rfl
      | false => exact kitAny_cons (isK_ok z) (fun _ => isKs_ok h') fun q => nomatch q
theorem Rp.ty_inv {n : String} {v : V} (r : Rp K F H (.ty n) v) : v = .ty n := by unfold Rp at r; exact r
theorem Rp.tys : ∀ {ns : List String} {vs : List V}, Rps K F H (ns.map D.ty) vs → vs = ns.map V.ty
  | [], vs, h => by unfold Rps at h; exact h
  | n :: ns, vs, h => by
    rw [List.map_cons] at h
    unfold Rps at h
    obtain ⟨v, r, rfl, h1, h2⟩ := h
    rw [h1.ty_inv, Rp.tys h2, List.map_cons]
theorem cls_tys : ∀ ns : List String, Paired ClsV (ns.map V.ty) (ns.map Value.type)
  | [] => .nil
  | n :: ns => .cons (.ty n) (cls_tys ns)
end
end DL

namespace DL
open PySem PySem.Spec L2

section
variable {K : PySem.W.Frag} {X : Cx} {W : WX} {F : Addr → Prop} {H : Hp} {ρ : Dv} {M : Mem} {σ : L2.St} {a b e o : Expr} {ga gb gc : DE} {pos cpos apos : Pos}
theorem cd_isi (hK : X.K = K) : CallD K X (.builtin "isinstance") dIsi := by
  subst hK
  refine CallR.imp (CallR.or call_isi (CallR.or call_isiT call_isiK)) fun xs H Q ⟨F, M, ds, Q', m, r, q, h⟩ => ?_
  match ds, h with
  | [x, .ty n], h =>
    obtain ⟨k, b, h1, h2, h⟩ := h
    obtain ⟨v, w, rfl, r1, r2⟩ := r.two
    exact .inl ⟨v, .ty n, _, _, b, by rw [r2.ty_inv], .ty n, ty_of m r1 h1, isK_ok h2, q F H M _ _ (Ext.refl _ _ _) m Rp.bl h⟩
  | [x, .tup ts], h =>
    obtain ⟨k, b, h1, h2, ⟨ns, rfl⟩, h⟩ := h
    obtain ⟨v, w, rfl, r1, r2⟩ := r.two
    unfold Rp at r2
    obtain ⟨a, vs, rfl, qa, ra⟩ := r2
    have z := Rp.tys ra
    subst z
    have fin := q F H M _ _ (Ext.refl _ _ _) m Rp.bl h
    rcases qa with qa | ⟨ob, its, n, q1, q2, q3, q4, q5⟩
    · exact .inr (.inl ⟨v, a, _, _, _, b, rfl, qa, cls_tys ns, ty_of m r1 h1, isKs_ok h2, fin⟩)
    · obtain ⟨c, dd, dt, sl⟩ := ob
      simp only at q2 q3
      subst q2 q3
      have e5 : its.toList = ns.map Value.type := by
        have := ClsV.all (cls_tys ns) q5
        exact this
      refine .inr (.inr ⟨v, a, dd, ns.map Value.type, n, sl, _, b, rfl, ?_, ty_of m r1 h1, isKs_ok h2, fin⟩)
      rw [← e5]
      exact q1
end
end DL

namespace DLM
open PySem PyProof.Rows SrtO Srt
section
variable {prog : Program} {w : World} {A : Around} {E : Value → Shared → Prop} {s : Shared}
end
end DLM
namespace DL
open PySem PySem.Spec L2
section
variable {X : Cx}
def rMinT (K : PySem.W.Frag) : List V → Hp → VK → Prop := fun vs H Q => ∃ (a : Addr) (n : Int) (ns : List Int), vs = [V.ref a] ∧ SqT K H a ((n :: ns).map V.int) ∧ Q (.int (ns.foldl min n)) H
theorem depth_ints : ∀ ns : List Int, PyData.depthAll (ns.map PyData.int) = 0
  | [] => rfl
  | n :: ns => by rw [List.map_cons]; unfold PyData.depthAll; rw [depth_ints ns]; rfl
theorem alike_ints (ns : List Int) : PySem.W.AlikeAll (ns.map PyData.int) := by
  refine ⟨fun x hx y hy => ?_, fun x hx => ?_⟩
  · obtain ⟨i, _, rfl⟩ := List.mem_map.mp hx
    obtain ⟨j, _, rfl⟩ := List.mem_map.mp hy
    rfl
  · obtain ⟨i, _, rfl⟩ := List.mem_map.mp hx
    exact fun z => nomatch z
theorem dp_ints (K : PySem.W.Frag) (H : Hp) : ∀ ns : List Int, DpAll K H (ns.map V.int) (ns.map PyData.int)
  | [] => .nil
  | n :: ns => .cons (.int n) (dp_ints K H ns)
theorem cr_minT (hc : X.calm = true) (hu : X.A.units + 64 < cLine) : CallR X (.builtin "min") (rMinT X.K) := by
  intro pins s σ H vs us Q I r h
  obtain ⟨a, n, ns, rfl, hs, q⟩ := h
  obtain ⟨its, rv, hl, hz⟩ := I.tuple hs
  rw [Vals.ref1 r]
  obtain ⟨as, hr⟩ := Dp.readsAll I _ _ its (dp_ints X.K H (n :: ns)) rv
  refine PySem.W.min_tuple_data (I.ok.hd hc) (show s.heap.IsTuple a its.toArray from hl) hr (alike_ints (n :: ns)) (by have z := depth_ints (n :: ns); rw [List.map_cons] at z; rw [z]; omega) fun i v h' tk bs hv rd hk => ?_
  rw [PySem.W.minD_ints] at rd
  cases rd with
  | int _ t => exact ⟨.int _, H, I.kept hk, ⟨_, rfl⟩, q⟩

section
variable {X : Cx}
def iSeq (K : PySem.W.Frag) (tl : TE) : TI := fun σ H R => tl σ H fun x H1 => ∃ a, x = .ref a ∧ (((∃ xs, SqL K H1 a xs) ∧ R (Itl K a) H1) ∨ ((∃ xs, SqT K H1 a xs) ∧ R (Itt K a) H1))
theorem pi_seq {tg l : Expr} {tl : TE} (hl : PE X l tl) : PI X tg l (iSeq X.K tl) := by
  refine ⟨fun pins s σ H R I h => thn (hl.run pins s σ H _ I h) fun v s1 ⟨x, H1, I1, r1, q1⟩ => ?_⟩
  obtain ⟨a, rfl, q⟩ := q1
  cases r1
  have fp : ∀ b ∈ [s1.heap.objs.size], FpOk X pins H1 b := fun b hb => by
    rw [List.mem_singleton.mp hb]
    exact I1.fpOk (Nat.le_refl _) (I1.hok.fresh (Nat.le_refl _))
  rcases q with ⟨⟨xs, hq⟩, q⟩ | ⟨⟨xs, hq⟩, q⟩
  · obtain ⟨its, rv, p, hz⟩ := I1.list hq
    exact PySem.wpAny_pyIter_list p.isList ⟨s1.heap.objs.size, [s1.heap.objs.size], _, _, H1, rfl, I1.kept (t' := s1.toks) fun b o e => Heap.get?_push_of_some _ e, turn_list a _, ⟨_, Heap.get?_push_size _ rfl, rfl, rfl⟩, fp, q⟩
  · obtain ⟨its, rv, p, hz⟩ := I1.tuple hq
    exact PySem.wpAny_pyIter_tuple (show s1.heap.IsTuple a its.toArray from p) ⟨s1.heap.objs.size, [s1.heap.objs.size], _, _, H1, rfl, I1.kept (t' := s1.toks) fun b o e => Heap.get?_push_of_some _ e, turn_tuple a _, ⟨_, Heap.get?_push_size _ rfl, rfl, rfl⟩, fp, q⟩
end
end
end DL

namespace DL
open PySem PySem.Spec PyProof.Rows L2
section
variable (K : PySem.W.Frag)
def exClsB (C : Addr) : Bool := match K.lookup C with
  | some ⟨.type "type", _, .cls cd, sl⟩ => (match cd.mro, sl.toList with
    | .ref D :: bm, [_, _, _, _, some (.builtin n), _] => D == C && (n == "ValueError.__new__" && (!cd.hasDel && (cd.hasDict && PySem.HandSPX.refsVE bm)))
    | _, _ => false)
  | _ => false
def exB (x : Str) (fs : List Str) (ini : Bool) : Bool :=
  exClsB K (He.ga K x) && (decide (PySem.W.findIn K (.ref (He.ga K x)) "__setattr__" = some (some (.builtin "object.__setattr__"))) && (decide (PySem.W.subIn K (.ref (He.ga K x)) (.type "BaseException") = some true) &&
  (decide (PySem.W.typeIn K (.ref (He.ga K x)) = some (.type "type")) && (PySem.W.keepIn K (.ref (He.ga K x)) && (xfB K (He.ga K x) && (fs.all (fun f => decide (PySem.W.findIn K (.ref (He.ga K x)) f = some none)) &&
  ((!ini || (decide (PySem.W.findIn K (.ref (He.ga K x)) "__init__" = some (some (.ref (He.ma K (He.ga K x) "__init__")))) && decide (PySem.W.typeIn K (.ref (He.ma K (He.ga K x) "__init__")) = some (.type "function")))) &&
  (decide (PySem.W.findIn K (.ref (He.ga K x)) "__class__" = some (some (.builtin "object.__class__"))) && (decide (PySem.W.specialIn K (.builtin "object.__class__") "__get__" = some (some (.builtin "getset_descriptor.__get__"))) &&
  (decide (PySem.W.takesIn K (.builtin "object.__class__") = some true) && decide (PySem.W.mroIn K (He.ga K x) (.type "object") = some true)))))))))))
def exmB (x y : Str) (b : Bool) : Bool := decide (PySem.W.exmOne K (.ref (He.ga K x)) (.ref (He.ga K y)) = some b)
def isiB (x y : Str) (b : Bool) : Bool := decide (PySem.W.kitOne K (.ref (He.ga K x)) (.ref (He.ga K y)) = some b)
end
variable {K : PySem.W.Frag}
theorem exCls_ok {C : Addr} (q : exClsB K C = true) : ∃ nm qn N bs bm sn sub ab col dd k0 k1 k2 k3 k5, K.lookup C = some (excClassObj nm qn C N bs bm true sn sub ab col dd k0 k1 k2 k3 k5 "ValueError.__new__") ∧ PySem.HandSPX.refsVE bm = true := by
  unfold exClsB at q
  split at q
  · rename_i dd cd sl ho
    split at q
    · rename_i D bm k0 k1 k2 k3 n k5 hm hs
      simp only [Bool.and_eq_true, beq_iff_eq, Bool.not_eq_true'] at q
      obtain ⟨rfl, rfl, hdel, hd, ht⟩ := q
      obtain ⟨nm, bs, mro, ns, qn, hd', sn, sub, ab, col, del⟩ := cd
      dsimp only at hm hdel hd
      subst hm hdel hd
      have hsl : sl = #[k0, k1, k2, k3, some (.builtin "ValueError.__new__"), k5] := by
        obtain ⟨l⟩ := sl
        simp only at hs
        rw [hs]
      subst hsl
      exact ⟨nm, qn, ns, bs, bm, sn, sub, ab, col, dd, k0, k1, k2, k3, k5, ho, ht⟩
    · cases q
  · cases q
structure ExCls (K : PySem.W.Frag) (C : Addr) (fs : List Str) : Prop where
  ox : OexC K C
  xf : XfC K C
  no : ∀ f ∈ fs, PySem.W.findIn K (.ref C) f = some none
  is : ExcC K C
theorem exB_ok {x : Str} {fs : List Str} {ini : Bool} (q : exB K x fs ini = true) : ExCls K (He.ga K x) fs ∧ (ini = true → PySem.W.findIn K (.ref (He.ga K x)) "__init__" = some (some (.ref (He.ma K (He.ga K x) "__init__"))) ∧ PySem.W.typeIn K (.ref (He.ma K (He.ga K x) "__init__")) = some (.type "function")) := by
  unfold exB at q
  simp only [Bool.and_eq_true, decide_eq_true_eq] at q
  obtain ⟨h1, h2, h3, h4, h5, h6, h7, h8, h9, h10, h11, h12⟩ := q
  have z := xfB_ok h6
  refine ⟨⟨⟨exCls_ok h1, h2, h3, h4, h5⟩, z, fun f hf => of_decide_eq_true (List.all_eq_true.mp h7 f hf), ⟨z.ga, z.gg, h3, z.hdC, h9, h10, h11, h12⟩⟩, fun e => ?_⟩
  subst e
  simpa using h8
theorem exmB_ok {x y : Str} {b : Bool} (q : exmB K x y b = true) : PySem.W.exmOne K (.ref (He.ga K x)) (.ref (He.ga K y)) = some b := of_decide_eq_true q
theorem isiB_ok {x y : Str} {b : Bool} (q : isiB K x y b = true) : PySem.W.kitOne K (.ref (He.ga K x)) (.ref (He.ga K y)) = some b := of_decide_eq_true q
end DL

namespace DL
open PySem PySem.Spec L2

section
variable {K : PySem.W.Frag} {X : Cx} {W : WX} {F : Addr → Prop} {H : Hp} {ρ : Dv} {M : Mem} {σ : L2.St} {a b e o : Expr} {ga gb gc gd : DE} {pos cpos apos : Pos}
def iSeqD (g : DE) : DI := fun E ρ M R => g E ρ M fun d M1 => onSrc M1 d R
theorem fi_seq {tg : Expr} (hK : X.K = K) (ha : FE K X W a ga) : FI K X W tg a (iSeqD ga) := by
  subst hK
  refine PI.imp (pi_seq ha) fun σ H R ⟨F, ρ, M, E, R', s, x, q, h⟩ => tG_mk s x (fun F1 H1 M1 d v e1 m1 r1 h1 => ?_) h
  unfold onSrc at h1
  cases z : srcOf M1 d with
  | none => rw [z] at h1; exact h1.elim
  | some src =>
    rw [z] at h1
    obtain ⟨o, k, a, e, sa⟩ := src_at m1 r1 z
    refine ⟨a, e, ?_⟩
    obtain ⟨vs, h2, h3⟩ := sa F1 H1 M1 (ExtW.refl _ _) m1 o
    cases k with
    | l => exact .inl ⟨⟨vs, h2⟩, q F1 H1 M1 _ src e1 m1 (src_list (items := src.items) (ok := src.ok) fun F' H' M' x m o => sa F' H' M' x m o) h1⟩
    | t => exact .inr ⟨⟨vs, TupAt.sq h2⟩, q F1 H1 M1 _ src e1 m1 (src_tup (items := src.items) (ok := src.ok) fun F' H' M' x m o => (by obtain ⟨vs, h1, h2⟩ := sa F' H' M' x m o; exact ⟨vs, TupAt.sq h1, h2⟩)) h1⟩
def enD (ds : List D) : List D := ds.zipIdx.map fun p => D.tup [.int (p.2 : Nat), p.1]
def iEnumD (g : DA) : DI := fun E ρ M R => g E ρ M fun ds M1 => match ds with
  | [d] => onSrc M1 d fun s M2 => R ⟨enD s.items, s.ok⟩ M2
  | _ => False
def insI (a : Int) : List Int → List Int
  | [] => [a]
  | b :: l => if a ≤ b then a :: b :: l else b :: insI a l
def sortI : List Int → List Int
  | [] => []
  | a :: l => insI a (sortI l)
def nSortOf : List D → Mem → (List D → Mem → Prop) → Prop := fun ds M Q => match ds with
  | [x] => onS M x fun xs => ∃ ns : List Int, xs = ns.map D.int ∧ Q ((sortI ns).map D.int) M
  | _ => False
theorem foldl_min : ∀ (ns : List Int) (n : Int), ns.foldl min n ≤ n ∧ (∀ y ∈ ns, ns.foldl min n ≤ y) ∧ (ns.foldl min n = n ∨ ns.foldl min n ∈ ns)
  | [], n => ⟨Int.le_refl _, by simp, .inl rfl⟩
  | a :: ns, n => by
    obtain ⟨h1, h2, h3⟩ := foldl_min ns (min n a)
    rw [List.foldl_cons]
    refine ⟨by omega, fun y hy => ?_, ?_⟩
    · rcases List.mem_cons.mp hy with z | z
      · omega
      · exact h2 y z
    · rcases h3 with z | z
      · rw [z]
        rcases Int.le_total n a with y | y
        · left; omega
        · right; simp; omega
      · right; exact List.mem_cons_of_mem _ z
def dMax : DRs := fun ds M Q => match ds with
  | [x] => onS M x fun xs => ∃ (n : Int) (ns : List Int), xs = (n :: ns).map D.int ∧ Q (.int (ns.foldl max n)) M
  | [.int i, .int j] => Q (.int (max i j)) M
  | _ => False
def dMin : DRs := fun ds M Q => match ds with
  | [x] => onS M x fun xs => ∃ (n : Int) (ns : List Int), xs = (n :: ns).map D.int ∧ Q (.int (ns.foldl min n)) M
  | [.int i, .int j] => Q (.int (min i j)) M
  | _ => False
theorem cd_min (hK : X.K = K) (hc : X.calm = true) (hu : X.A.units + 64 < cLine) : CallD K X (.builtin "min") dMin := by
  subst hK
  refine CallR.imp (CallR.or (cr_min hc) (CallR.or (cr_minT hc hu) (call_min2 hc))) fun xs H Q ⟨F, M, ds, Q', m, r, q, h⟩ => ?_
  match ds, h with
  | [d], h =>
    obtain ⟨v, rfl, rv⟩ := r.one
    have h' : onS M d fun xs => ∃ (n : Int) (ns : List Int), xs = (n :: ns).map D.int ∧ Q' (.int (ns.foldl min n)) M := by
      cases d <;> exact h
    obtain ⟨es, a, vs, ⟨n, ns, rfl, h⟩, rfl, k, r⟩ := onS_at m rv h'
    have z := Rp.ints r
    subst z
    rcases k with k | k
    · refine .inl ⟨a, n :: ns, rfl, k, by simp, fun y hy1 hy2 => ?_⟩
      obtain ⟨f1, f2, f3⟩ := foldl_min ns n
      have e : y = ns.foldl min n := by
        have t1 : y ≤ ns.foldl min n := hy2 _ (by rcases f3 with f3 | f3; · rw [f3]; simp
                                                  · exact List.mem_cons_of_mem _ f3)
        have t2 : ns.foldl min n ≤ y := by
          rcases List.mem_cons.mp hy1 with z | z
          · omega
          · exact f2 y z
        omega
      subst e
      exact q F H M _ _ (Ext.refl _ _ _) m Rp.int h
    · exact .inr (.inl ⟨a, n, ns, rfl, k.sq, q F H M _ _ (Ext.refl _ _ _) m Rp.int h⟩)
  | [.int i, .int j], h =>
    obtain ⟨v, w, rfl, r1, r2⟩ := r.two
    refine .inr (.inr ⟨i, j, by rw [r1.int_inv, r2.int_inv], ?_⟩)
    have e : (if j < i then j else i) = min i j := by
      split <;> omega
    rw [e]
    exact q F H M _ _ (Ext.refl _ _ _) m Rp.int h
def ddup : List Int → List Int
  | [] => []
  | a :: l => if l.contains a then ddup l else a :: ddup l
def gLenSet (g : DE) : DE := fun E ρ M Q => g E ρ M fun d M1 => onS M1 d fun xs => ∃ ns : List Int, xs = ns.map D.int ∧ ns.length < 4000 ∧ Q (.int (ddup ns).length) M1
def flatD : D → Bool
  | .non => true
  | .bl _ => true
  | .int _ => true
  | .str _ => true
  | _ => false
def eqFD : D → D → Bool
  | .non, .non => true
  | .bl a, .bl b => a == b
  | .bl a, .int b => (if a then 1 else 0) == b
  | .int a, .bl b => a == (if b then 1 else 0)
  | .int a, .int b => a == b
  | .str a, .str b => a == b
  | _, _ => false
def inD (x : D) (xs : List D) : Bool := xs.any fun y => eqFD y x
def dInG (neg : Bool) : DR2 := fun x y M Q => onS M y fun xs => flatD x = true ∧ xs.all flatD = true ∧ Q (.bl (if neg then !inD x xs else inD x xs)) M
def sAug (i : Nat) (g : DE) (rd : DR2) : DS := fun E ρ M => match ρ[i]? with
  | some (some d) => g (fun x M => E.ex x ρ M) ρ M fun y M1 => rd d y M1 fun z M2 => E.nx (ρ.set i (some z)) M2
  | _ => False
def dIxL : DR2
  | x, .int i, M, Q => onL M x fun ds => ∃ d, atI ds i = some d ∧ Q d M
  | _, _, _, _ => False
def sAugS (go gi ge : DE) (rd : DR2) : DS := fun E ρ M => go (fun x M => E.ex x ρ M) ρ M fun o M1 => gi (fun x M => E.ex x ρ M) ρ M1 fun i M2 => dIxL o i M2 fun x M3 => ge (fun x M => E.ex x ρ M) ρ M3 fun y M4 => rd x y M4 fun z M5 => dSetIx o i z M5 fun M6 => E.nx ρ M6
end
section
variable {K : PySem.W.Frag} {X : Cx} {W : WX} {elt tg iter tg1 iter1 : Expr} {ifs ifs1 : List Expr} {scope : Scope} {own : List (Str × Nat)} {pos : Pos} {gi gi1 : DI} {vs vs1 : List Nat} {dg dg1 : DG} {tt tt1 : DT} {te : DE}
end
end DL

set_option maxHeartbeats 2000000
namespace L2
open PySem PySem.Spec PyProof.Rows
def wMix (K : PySem.W.Frag) (Wout : WX) (D : Ends) : List (Value × Option Nat × (Addr → Value → Option Addr → TS)) → WX
  | [] => Wout
  | (c, oi, ts) :: r => fun cls d σ H => ∃ b, PySem.W.exmOne K cls c = some b ∧ (b = true → ∀ a, H a = none → match oi with
      | none => ts a cls d D σ H
      | some i => ts a cls d { nx := fun σ' H' => D.nx (σ'.set i none) H', rt := D.rt, bk := fun σ' H' => D.bk (σ'.set i none) H', ct := fun σ' H' => D.ct (σ'.set i none) H' } (σ.set i (some (.ref a))) H) ∧ (b = false → wMix K Wout D r cls d σ H)
inductive HdMix (X : Cx) : List ExceptHandler → List (Value × Option Nat × (Addr → Value → Option Addr → TS)) → Prop
  | nil : HdMix X [] []
  | un {x : Str} {c : Value} {ts : Addr → Value → Option Addr → TS} {b₀ : Stmt} {suite : List Stmt} {np pos' : Pos} {hds : List ExceptHandler} {l : List (Value × Option Nat × (Addr → Value → Option Addr → TS))} (hc : Names X x c)
      (hsu : ∀ (a : Addr) (oe : Obj) (cls : Value) (d : Option Addr) (pn : List (Addr × Obj)), Zc cls d oe → (∃ vs, oe.data = .fields vs) → PSs (X.suite a ((a, oe) :: pn)) (b₀ :: suite) (ts a cls d)) (r : HdMix X hds l) :
      HdMix X (.ExceptHandler (some (.Name x np)) none (b₀ :: suite) pos' :: hds) ((c, none, ts) :: l)
  | as (i : Nat) {x n : Str} {c : Value} {ts : Addr → Value → Option Addr → TS} {b₀ : Stmt} {suite : List Stmt} {np pos' : Pos} {hds : List ExceptHandler} {l : List (Value × Option Nat × (Addr → Value → Option Addr → TS))} (hc : Names X x c) (hi : X.N[i]? = some n) (hln : X.env.kindOf n = some .local)
      (hsu : ∀ (a : Addr) (oe : Obj) (cls : Value) (d : Option Addr) (pn : List (Addr × Obj)), Zc cls d oe → (∃ vs, oe.data = .fields vs) → PSs (X.suite a ((a, oe) :: pn)) (b₀ :: suite) (ts a cls d)) (r : HdMix X hds l) :
      HdMix X (.ExceptHandler (some (.Name x np)) (some n) (b₀ :: suite) pos' :: hds) ((c, some i, ts) :: l)
section
variable {X : Cx} {body : List Stmt} {h₀ : ExceptHandler} {hds : List ExceptHandler} {l : List (Value × Option Nat × (Addr → Value → Option Addr → TS))} {pos : Pos} {tb : WX → TS} {Wout : WX}
theorem ps_try_mix (hs : X.stack = X.env :: X.outer) (hf : X.env.frame = some X.env.locals) (hN : X.N.Nodup) (tk : Takes X Wout) (hb : ∀ (W : WX) (pn : List (Addr × Obj)) (xe : Value → Shared → Prop), Takes (X.tr pn xe) W → PassesOwn (model X.prog X.w) X.A X.env xe → PSs (X.tr pn xe) body (tb W))
    (hh : HdMix X (h₀ :: hds) l) : PS X (.Try body (h₀ :: hds) [] [] pos) (fun D σ H => tb (wMix X.K Wout D l) D σ H) := by
  refine ⟨fun pins s σ H D I h => ?_⟩; have ok := I.ok
  have hfr : X.A.frames = some (X.env :: X.outer) := by (rw [ok.frames, hs])
  refine wpAny_Try_except (wpAny_mono ((hb (wMix X.K Wout D l) (X.pn ++ pins) (fun e s₁ => wpAny (model X.prog X.w) X.A (noteFrame e X.env) (fun _ s₂ => wpAny (model X.prog X.w) X.A (setFlight e none) (fun _ s₃ =>
    wpAny (model X.prog X.w) X.A (handleBy e X.env (h₀ :: hds)) (SP X pins D) X.xe s₃) X.xe s₂) X.xe s₁) (fun u s' xx => ?_) PassesOwn.looking).run [] s σ H D (I.toTry _) h) (fun f s1 hsp => ?_) (fun e s1 he => he))
  · obtain ⟨a, B, sI, pins', σ', H', cls, d, rfl, J', nb, up, sky, na, os, ag, w⟩ := xx; have J : Inv X pins σ' H' sI := J'.ofTry ok
    have sky' : Sky B (X.env :: X.outer) a (Zc cls d) X.env.locals s'.heap := by (rw [← hs]; exact sky)
    show wpAny (model X.prog X.w) X.A (noteFrame (.ref a) X.env) _ _ _; refine Sky.land Zc.steady hfr hf sky' fun h3 fl3 up3 => ?_
    have J3 : Inv X pins σ' H' { s' with heap := h3 } := J.landed nb fl3.1 (up.trans up3) os ag; obtain ⟨oe3, vs3, he3, hz3, hd3⟩ := fl3.there
    have nfr : a ∉ frs (X.env :: X.outer) := fun hm => by (obtain ⟨_, o', e', hnf⟩ := fl3.2.2.1.mem hm; rw [he3] at e'; cases e'; exact hnf _ hd3)
    have nL : a ≠ X.env.locals := fun z => nfr (List.mem_filterMap.mpr ⟨X.env, List.mem_cons_self, by (rw [hf, z])⟩)
    have nF : a ∉ X.fs := fun hm => by (obtain ⟨e, he, q⟩ := List.mem_filterMap.mp hm; exact nfr (List.mem_filterMap.mpr ⟨e, List.mem_cons_of_mem _ he, q⟩))
    have S3 := J3.suite he3 hd3 na nL nF
    have LT : PySem.W.Looks (model X.prog X.w) h3 (typeOf (.ref a)) cls := fun A Q E s k q => wpAny_typeOf_ref (k _ _ he3) (by (rw [hz3.1]; exact q))
    have test : ∀ {x : Str} {c : Value} {np : Pos} {Q : Value → Shared → Prop} {E : Value → Shared → Prop}, Names X x c → Q c { s' with heap := h3 } → wpAny (model X.prog X.w) (X.A.mark (some (.ref a))) (eval (.Name x np) X.env) Q E { s' with heap := h3 } := fun {x c np Q E} hc q => by
      (obtain ⟨hg, hdbg, hm | ⟨hm, hv, hnn⟩⟩ := hc)
      · (exact ld_glob (X := X.suite a ((a, oe3) :: (X.pn ++ pins))) S3 hg hm q hdbg)
      · (exact ld_blt (X := X.suite a ((a, oe3) :: (X.pn ++ pins))) S3 hg hm hv q hnn hdbg)
    have go : ∀ {hds' : List ExceptHandler} {l' : List (Value × Option Nat × (Addr → Value → Option Addr → TS))}, HdMix X hds' l' → wMix X.K Wout D l' cls d σ' H' → wpAny (model X.prog X.w) X.A (handleBy (.ref a) X.env hds') (SP X pins D) X.xe { s' with heap := h3 } := by
      intro hds' l' hk
      induction hk with
      | nil =>
        intro w; refine wpAny_handleBy_nil ?_
        obtain ⟨k1, k2, k3, oe, vs, T, oT, ts', he, hz, hd, h1, hr⟩ := id fl3; unfold PySem.passOn
        refine wpAny_bind (wpAny_field he hd h1 ?_); rw [if_neg (show ¬ ((Value.ref T == Value.none) = true) from by simp)]
        have fin : wpAny (model X.prog X.w) X.A (setFlight (.ref a) X.env.frame) (fun _ s4 => wpAny (model X.prog X.w) X.A (throw (.ref a) : Sem Flow) (SP X pins D) X.xe s4) X.xe { s' with heap := h3 } := by
          rw [hf]; refine HandSPX.setFlight_upZ fl3 fun h4 hh4 up4 => wpAny_throw (tk _ _ ?_)
          exact ⟨a, B, sI, pins, σ', H', cls, d, rfl, J, nb, (up.trans up3).trans up4, .inr (.inr (by (rw [hs]; exact hh4))), na, os, ag, w⟩
        first | exact wpAny_bind (wpAny_pure (wpAny_bind fin)) | exact wpAny_bind fin
      | @un x c ts b₀ suite np pos' hds2 l2 hc hsu r ih =>
        intro w; obtain ⟨b, hb1, hyes, hno⟩ := w
        have LM := PySem.W.exm_one (M := model X.prog X.w) (J3.kIn) LT hb1; refine wpAny_handleBy_cons (codeAny_handlers_test ?_) (by intro q; cases q)
        refine test hc (LM.here ?_)
        cases b with
        | true =>
          refine codeAny_handlers_suite (HandSPX.lands_againZ fl3 fun h4 fl4 up4 => ?_)
          have J4 : Inv X pins σ' H' { s' with heap := h4 } := J.landed nb fl4.1 ((up.trans up3).trans up4) os ag; obtain ⟨oe4, vs4, he4, hz4, hd4⟩ := fl4.there
          have S4 := J4.suite he4 hd4 na nL nF; refine wpAny_mono ((hsu a oe4 cls d (X.pn ++ pins) hz4 ⟨_, hd4⟩).run [] _ _ H' _ S4 (hyes rfl a na)) (fun f s6 hsp => ?_) (fun _ _ z => False.elim z)
          cases f with
          | next => (obtain ⟨σ6, H6, S6, q6⟩ := hsp; exact ⟨_, _, S6.unsuite ok, q6⟩)
          | brk => (obtain ⟨σ6, H6, S6, q6⟩ := hsp; exact ⟨_, _, S6.unsuite ok, q6⟩)
          | cont => (obtain ⟨σ6, H6, S6, q6⟩ := hsp; exact ⟨_, _, S6.unsuite ok, q6⟩)
          | ret u => (obtain ⟨v6, σ6, H6, S6, r6, q6⟩ := hsp; exact ⟨_, _, _, S6.unsuite ok, r6, q6⟩)
        | false => (show wpAny _ X.A (handleBy (.ref a) X.env hds2) _ _ _; exact ih (hno rfl))
      | @as i x n c ts b₀ suite np pos' hds2 l2 hc hi hln hsu r ih =>
        intro w; obtain ⟨b, hb1, hyes, hno⟩ := w
        have LM := PySem.W.exm_one (M := model X.prog X.w) (J3.kIn) LT hb1; refine wpAny_handleBy_cons (codeAny_handlers_test ?_) (by intro q; cases q)
        refine test hc (LM.here ?_)
        cases b with
        | true =>
          refine codeAny_handlers_suite_as (HandSPX.lands_againZ fl3 fun h4 fl4 up4 => ?_)
          have J4 : Inv X pins σ' H' { s' with heap := h4 } := J.landed nb fl4.1 ((up.trans up3).trans up4) os ag; obtain ⟨oe4, vs4, he4, hz4, hd4⟩ := fl4.there
          have S4 := J4.suite he4 hd4 na nL nF; refine store_ok (X := X.suite a ((a, oe4) :: (X.pn ++ pins))) (v := .ref a) S4 hN hi (.inl hln) rfl (fun s5 S5 => ?_) (.inr hln)
          refine wpAny_mono ((hsu a oe4 cls d (X.pn ++ pins) hz4 ⟨_, hd4⟩).run [] s5 _ H' _ S5 (hyes rfl a na)) (fun f s6 hsp => ?_) (fun _ _ z => False.elim z)
          have end_ : ∀ {σ6 : St} {H6 : Hp} {Q : Shared → Prop}, Inv (X.suite a ((a, oe4) :: (X.pn ++ pins))) [] σ6 H6 s6 → (∀ s7, Inv X pins (σ6.set i none) H6 s7 → Q s7) → wpAny (model X.prog X.w) X.A (do bindName X.env n .none; unbindBehindTheSuite X.env n pos') (fun _ s7 => Q s7) X.xe s6 :=
            fun {σ6 H6 Q} S6 hq => gone_ok (S6.unsuite ok) hN hi hln hq
          cases f with
          | next => (obtain ⟨σ6, H6, S6, q6⟩ := hsp; exact end_ S6 fun s7 J7 => ⟨_, _, J7, q6⟩)
          | brk => (obtain ⟨σ6, H6, S6, q6⟩ := hsp; exact end_ S6 fun s7 J7 => ⟨_, _, J7, q6⟩)
          | cont => (obtain ⟨σ6, H6, S6, q6⟩ := hsp; exact end_ S6 fun s7 J7 => ⟨_, _, J7, q6⟩)
          | ret u => (obtain ⟨v6, σ6, H6, S6, r6, q6⟩ := hsp; exact end_ S6 fun s7 J7 => ⟨_, _, _, J7, r6, q6⟩)
        | false => (show wpAny _ X.A (handleBy (.ref a) X.env hds2) _ _ _; exact ih (hno rfl))
    exact go hh w
  · cases f with
    | next => (obtain ⟨σ', H', J', q⟩ := hsp; exact wpAny_execs_nil ⟨σ', H', J'.ofTry ok, q⟩)
    | brk => (obtain ⟨σ', H', J', q⟩ := hsp; exact ⟨σ', H', J'.ofTry ok, q⟩)
    | cont => (obtain ⟨σ', H', J', q⟩ := hsp; exact ⟨σ', H', J'.ofTry ok, q⟩)
    | ret u => (obtain ⟨v, σ', H', J', r, q⟩ := hsp; exact ⟨v, σ', H', J'.ofTry ok, r, q⟩)
end
end L2
namespace DL
open PySem PySem.Spec PyProof.Rows L2
def spInit (C : Addr) (fs : List Str) : Sp := fun vs H Q _ => ∃ (a : Addr) (ws : List V), vs = .ref a :: ws ∧ ws.length = fs.length ∧ H a = some (exo a C none) ∧
  ∀ (dx : Addr) (H' : Hp), H dx = none → dx ≠ a → H' a = some (exo a C (some dx)) → H' dx = some (exd dx (fs.zip ws).reverse) → (∀ b, b ≠ a → b ≠ dx → H' b = H b) → Q .non H'
section
variable {P : Program} {w : World} {K : PySem.W.Frag} {mg : Str → Option Value} {base : Heap} {C f : Addr} {fd : FuncData}
theorem init1 {st : Stmt} {qual f1 : Str} {N ps : List Str} {p1 p2 p3 p4 : Pos} {n0 n1 : Str} (F : Fun K "__init__" qual st f fd) (T : ExCls K C [f1]) (S : FnScope N ps (defScope st)) (hps : ps.length = 2) (h0 : N = [n0, n1])
    (hb : defBody st = [.Assign [.Attribute (.Name n0 p1) f1 p2] (.Name n1 p3) p4]) (hv0 : (defScope st).names.lookup n0 = some .local) (hv1 : (defScope st).names.lookup n1 = some .local) (hd0 : (n0 == ("__debug__" : Str)) = false) (hd1 : (n1 == ("__debug__" : Str)) = false)
    (hc0 : (n0 == ("__classdict__" : Str)) = false) (hc1 : (n1 == ("__classdict__" : Str)) = false) : FnOk P w K mg base (L2.CX P w) 1 f fd ps (spInit C [f1]) := by
  subst h0
  refine F.okX S (fun vs H Q E h => ?_) (fun cdv A outer s H vs Q E hr h => ?_)
  · obtain ⟨a, ws, rfl, hl, _⟩ := h
    rw [hps, List.length_cons, hl]
    rfl
  · obtain ⟨a, ws, rfl, hl, ha, k⟩ := h
    rw [hb]
    match ws, hl with
    | [y], _ =>
      refine ⟨_, pss_one (ps_ost (pe_var (i := 0) rfl (Or.inl hv0) hd0 hc0) (pe_var (i := 1) rfl (Or.inl hv1) hd1 hc1)), y, rfl, V.ref a, rfl, a, C, rfl, T.ox, T.no _ (by simp), .inl ⟨ha, fun dx h1 h2 => k dx _ h1 h2 upd_same ?_ fun b b1 b2 => ?_⟩⟩
      · rw [upd_ne h2]; exact upd_same
      · rw [upd_ne b1, upd_ne b2]
end

section
variable {K : PySem.W.Frag} {X : Cx} {W : WX} {F : Addr → Prop} {H : Hp} {ρ : Dv} {M : Mem} {σ : L2.St} {a b e o : Expr} {ga gb gc gd : DE} {pos cpos apos : Pos}
theorem Rpf.append : ∀ {ds es : List (Str × D)} {vs ws : List (Str × V)}, Rpf K F H ds vs → Rpf K F H es ws → Rpf K F H (ds ++ es) (vs ++ ws)
  | [], es, vs, ws, h, g => by unfold Rpf at h; subst h; exact g
  | d :: ds, es, vs, ws, h, g => by
    unfold Rpf at h
    obtain ⟨v, r, rfl, h1, h2⟩ := h
    rw [List.cons_append, List.cons_append]
    unfold Rpf
    exact ⟨v, _, rfl, h1, Rpf.append h2 g⟩
theorem Rpf.nil : Rpf K F H [] [] := by unfold Rpf; rfl
theorem Rpf.one {f : Str} {d : D} {v : V} (h : Rp K F H d v) : Rpf K F H [(f, d)] [(f, v)] := by
  unfold Rpf
  exact ⟨v, [], rfl, h, .nil⟩
theorem Rpf.zipRev : ∀ {fs : List Str} {ds : List D} {vs : List V}, Rps K F H ds vs → Rpf K F H (fs.zip ds).reverse (fs.zip vs).reverse
  | [], ds, vs, h => by simp [Rpf.nil]
  | f :: fs, [], vs, h => by unfold Rps at h; subst h; simp [Rpf.nil]
  | f :: fs, d :: ds, vs, h => by
    unfold Rps at h
    obtain ⟨v, r, rfl, h1, h2⟩ := h
    rw [List.zip_cons_cons, List.zip_cons_cons, List.reverse_cons, List.reverse_cons]
    exact Rpf.append (Rpf.zipRev h2) (.one h1)
theorem Rpf.look : ∀ {ds : List (Str × D)} {vs : List (Str × V)} {f : Str} {d : D}, Rpf K F H ds vs → ds.lookup f = some d → ∃ v, vs.lookup f = some v ∧ Rp K F H d v
  | [], vs, f, d, h, e => by cases e
  | (g, d0) :: ds, vs, f, d, h, e => by
    unfold Rpf at h
    obtain ⟨v, r, rfl, h1, h2⟩ := h
    show ∃ w, List.lookup f ((g, v) :: r) = some w ∧ _
    rw [List.lookup] at e ⊢
    cases z : f == g with
    | true =>
      rw [z] at e
      cases e
      exact ⟨v, rfl, h1⟩
    | false =>
      rw [z] at e
      exact Rpf.look h2 e
def exOf (C : Addr) (fs : List Str) (ds : List D) : DX := ⟨.ref C, (fs.zip ds).reverse⟩
def sRaise (C : Addr) (fs : List Str) (g : DA) : DS := fun E ρ M => g (fun x M => E.ex x ρ M) ρ M fun ds M1 => ds.length = fs.length ∧ E.ex (exOf C fs ds) ρ M1
def sRaiseF (C : Addr) (fs : List Str) (g : DA) : DS := fun E ρ M => g (fun x M => E.ex x ρ M) ρ M fun ds M1 => ds.length = fs.length ∧ ∃ M2, (∀ a o, M2 a = some o → M1 a = some o) ∧ E.ex (exOf C fs ds) ρ M2
theorem fs_raise {k : Nat} {C fI : Addr} {fd : FuncData} {fs ps : List Str} {x : Str} {p pos2 : Pos} {es : List Expr} {g : DA} (hc : X.calm = true) (T : ExCls K C fs) (hsm : fs.length ≤ 1000) (iC : PySem.W.findIn K (.ref C) "__init__" = some (some (.ref fI))) (tI : PySem.W.typeIn K (.ref fI) = some (.type "function"))
    (F1 : FnOk X.prog X.w K X.mg X.base (L2.CX X.prog X.w) k fI fd ps (spInit C fs)) (hr : Room (k + 1) X.A) (hb : Binds K fd ps []) (tk : Takes X W) (hm : X.mg x = some (.ref C)) (ha : FA K X W (e :: es) g)
    (hK : X.K = K := by rfl) (hg : Gl X x := by rfl) (hdb : (x == ("__debug__" : Str)) = false := by decide) (he : starEach (e :: es) X.env = (false, eval e X.env) :: starEach es X.env := by rfl) (hpl : (backTo pos (starEach es X.env)).any (·.1) = false := by rfl) :
    FS K X W (.Raise (some (.Call (.Name x p) (e :: es) [] pos)) none pos2) (sRaise C fs g) := by
  subst hK
  refine PS.imp (ps_raise hc tk (pmk_oex (ds := []) (dvs := []) T.ox iC tI F1 hr hb .nil passL hg hm ha hdb he hpl)) fun D σ H ⟨F, ρ, M, E', s, y, h⟩ => (⟨F, ρ, M, _, _, s, y.ex.at_ s, fun F1 H1 M1 ds vs e1 m1 r1 h1 => ?_, h⟩ : tGa X.K W g σ H _)
  obtain ⟨hl, h1⟩ := h1
  have hl2 : vs.length = fs.length := r1.length.trans hl
  refine ⟨by omega, fun a na => ⟨a, vs ++ [], rfl, by simpa using hl2, upd_same, fun dx H' n1 n2 z1 z2 z3 => ⟨rfl, dx, _, z1, z2, by rw [upd_ne n2] at n1; exact n1, ?_⟩⟩⟩
  rw [upd_ne n2] at n1
  have eH : upd (del H' a) dx (.xd (fs.zip (vs ++ [])).reverse) = upd H1 dx (.xd (fs.zip vs).reverse) := by
    rw [List.append_nil]
    funext b
    by_cases hb : b = dx
    · rw [hb, upd_same, upd_same]
    · rw [upd_ne hb, upd_ne hb]
      by_cases ha : b = a
      · rw [ha, del_same, na]
      · rw [del_ne ha, z3 b ha hb, upd_ne ha]
  rw [eH]
  have l : Ext F1 H1 M1 F1 (upd H1 dx (.xd (fs.zip vs).reverse)) M1 := Ext.laid n1 fun _ z => z
  exact y.ex F1 _ ρ M1 σ (exOf C fs ds) _ _ (e1.trans l) (s.next (e1.trans l).toExtW (m1.aside n1 _)) ⟨rfl, .inr ⟨dx, _, rfl, upd_same, Rpf.zipRev (Rps.mono l.toExtW _ _ r1)⟩⟩ h1

abbrev DH := Value × Option Nat × (Addr → Value → Option Addr → List (Str × D) → DS)
def dHds (K : PySem.W.Frag) (E : DEnds) : List DH → DX → Dv → Mem → Prop
  | [], x, ρ, M => E.ex x ρ M
  | (c, oi, ts) :: r, x, ρ, M => ∃ b, PySem.W.exmOne K x.cls c = some b ∧ (b = true → ∀ (a : Addr) (d : Option Addr), (d = none → x.fs = []) → match oi with
      | none => ts a x.cls d x.fs { E with ex := fun _ _ _ => False } ρ M
      | some i => ts a x.cls d x.fs { nx := fun ρ' M' => E.nx (ρ'.set i none) M', rt := E.rt, bk := fun ρ' M' => E.bk (ρ'.set i none) M', ct := fun ρ' M' => E.ct (ρ'.set i none) M', ex := fun _ _ _ => False } (ρ.set i (some (.xo a d x.fs))) M) ∧ (b = false → dHds K E r x ρ M)
def sTry (K : PySem.W.Frag) (tb : DS) (hs : List DH) : DS := fun E ρ M => tb { E with ex := dHds K E hs } ρ M
inductive HdD (K : PySem.W.Frag) (X : Cx) : List ExceptHandler → List DH → Prop
  | nil : HdD K X [] []
  | un {x : Str} {c : Value} {ts : Addr → Value → Option Addr → List (Str × D) → DS} {b₀ : Stmt} {suite : List Stmt} {np pos' : Pos} {hds : List ExceptHandler} {l : List DH} (hc : Names X x c)
      (hsu : ∀ (a : Addr) (oe : Obj) (cls : Value) (d : Option Addr) (fs : List (Str × D)) (pn : List (Addr × Obj)), Zc cls d oe → (∃ vs, oe.data = .fields vs) → FSs K (X.suite a ((a, oe) :: pn)) W0 (b₀ :: suite) (ts a cls d fs)) (r : HdD K X hds l) :
      HdD K X (.ExceptHandler (some (.Name x np)) none (b₀ :: suite) pos' :: hds) ((c, none, ts) :: l)
  | as (i : Nat) {x n : Str} {c : Value} {ts : Addr → Value → Option Addr → List (Str × D) → DS} {b₀ : Stmt} {suite : List Stmt} {np pos' : Pos} {hds : List ExceptHandler} {l : List DH} (hc : Names X x c) (hi : X.N[i]? = some n) (hln : X.env.kindOf n = some .local)
      (hsu : ∀ (a : Addr) (oe : Obj) (cls : Value) (d : Option Addr) (fs : List (Str × D)) (pn : List (Addr × Obj)), Zc cls d oe → (∃ vs, oe.data = .fields vs) → FSs K (X.suite a ((a, oe) :: pn)) W0 (b₀ :: suite) (ts a cls d fs)) (r : HdD K X hds l) :
      HdD K X (.ExceptHandler (some (.Name x np)) (some n) (b₀ :: suite) pos' :: hds) ((c, some i, ts) :: l)
def upH (K : PySem.W.Frag) (l : List DH) : List (Value × Option Nat × (Addr → Value → Option Addr → TS)) := l.map fun p => (p.1, p.2.1, fun a cls d D σ H => ∃ fs, tGs K W0 (p.2.2 a cls d fs) D σ H)
theorem PSs.some {st : List Stmt} {t : List (Str × D) → TS} (h : ∀ fs, PSs X st (t fs)) : PSs X st fun D σ H => ∃ fs, t fs D σ H := ⟨fun pins s σ H D I ⟨fs, q⟩ => (h fs).run pins s σ H D I q⟩
theorem HdD.up {hds : List ExceptHandler} {l : List DH} (h : HdD K X hds l) : HdMix X hds (upH K l) := by
  induction h with
  | nil => exact .nil
  | un hc hsu r ih => exact .un hc (fun a oe cls d pn hz hf => PSs.some fun fs => hsu a oe cls d fs pn hz hf) ih
  | as i hc hi hln hsu r ih => exact .as i hc hi hln (fun a oe cls d pn hz hf => PSs.some fun fs => hsu a oe cls d fs pn hz hf) ih
theorem EnvOk.gone {i : Nat} (h : EnvOk K F H ρ σ) : EnvOk K F H (ρ.set i none) (σ.set i none) := fun j d e => by
  by_cases z : i = j
  · subst z
    by_cases hi : i < ρ.length
    · rw [List.getElem?_set_self hi] at e; cases e
    · rw [List.getElem?_eq_none (by simpa using hi)] at e; cases e
  · rw [List.getElem?_set_ne z] at e ⊢
    exact h j d e
theorem Sta.gone {i : Nat} (s : Sta K F H ρ M σ) : Sta K F H (ρ.set i none) M (σ.set i none) := ⟨s.env.gone, s.mem, by rw [List.length_set, List.length_set]; exact s.len⟩
theorem RpX.xo {x : DX} {cls : Value} {d : Option Addr} {a : Addr} (h : RpX K F H x cls d) : Rp K F H (.xo a d x.fs) (.ref a) := by
  unfold Rp
  refine ⟨rfl, ?_⟩
  obtain ⟨_, h | ⟨dd, gs, h1, h2, h3⟩⟩ := h
  · rw [h.1, h.2]; exact ⟨[], rfl, .nil⟩
  · subst h1; exact ⟨gs, h2, h3⟩
theorem RpX.fs0 {x : DX} {cls : Value} {d : Option Addr} (h : RpX K F H x cls d) : d = none → x.fs = [] := fun e => by
  obtain ⟨_, h | ⟨dd, gs, h1, h2, h3⟩⟩ := h
  · exact h.1
  · rw [h1] at e; cases e
theorem sx0 {F : Addr → Prop} {H : Hp} {M : Mem} : SXOk K F H M (fun _ _ _ => False) W0 := fun _ _ _ _ _ _ _ _ _ _ _ z => z
theorem hds_at {E : DEnds} {D : Ends} : ∀ {l : List DH} {F : Addr → Prop} {H : Hp} {M : Mem} {ρ : Dv} {σ : L2.St} {x : DX} {cls : Value} {d : Option Addr}, EOk K F H M E D W → Sta K F H ρ M σ → RpX K F H x cls d → dHds K E l x ρ M → wMix K W D (upH K l) cls d σ H
  | [], F, H, M, ρ, σ, x, cls, d, y, s, r, h => y.ex F H ρ M σ x cls d (Ext.refl _ _ _) s r h
  | (c, oi, ts) :: l, F, H, M, ρ, σ, x, cls, d, y, s, r, h => by
    obtain ⟨b, h1, h2, h3⟩ := h
    have ec := r.1
    refine ⟨b, by rw [ec]; exact h1, fun e a na => ?_, fun e => hds_at y s r (h3 e)⟩
    have h2 := h2 e a d r.fs0
    subst ec
    cases oi with
    | none => exact ⟨x.fs, tGs_mk (E' := { E with ex := fun _ _ _ => False }) s ⟨y.nx, y.rt, y.bk, y.ct, sx0⟩ h2⟩
    | some i =>
      refine ⟨x.fs, tGs_mk (E' := { nx := fun ρ' M' => E.nx (ρ'.set i none) M', rt := E.rt, bk := fun ρ' M' => E.bk (ρ'.set i none) M', ct := fun ρ' M' => E.ct (ρ'.set i none) M', ex := fun _ _ _ => False }) (s.set i r.xo) ⟨fun F' H' ρ' M' σ' e' s' q => y.nx F' H' _ M' _ e' s'.gone q, y.rt, fun F' H' ρ' M' σ' e' s' q => y.bk F' H' _ M' _ e' s'.gone q, fun F' H' ρ' M' σ' e' s' q => y.ct F' H' _ M' _ e' s'.gone q, sx0⟩ h2⟩
theorem fs_try {body : List Stmt} {h₀ : ExceptHandler} {hds : List ExceptHandler} {l : List DH} {tb : DS} (hN : X.N.Nodup) (tk : Takes X W)
    (hb : ∀ (W : WX) (pn : List (Addr × Obj)) (xe : Value → Shared → Prop), Takes (X.tr pn xe) W → PassesOwn (model X.prog X.w) X.A X.env xe → FSs K (X.tr pn xe) W body tb) (hh : HdD K X (h₀ :: hds) l)
    (hK : X.K = K := by rfl) (hs : X.stack = X.env :: X.outer := by rfl) (hf : X.env.frame = some X.env.locals := by rfl) : FS K X W (.Try body (h₀ :: hds) [] [] pos) (sTry K tb l) := by
  subst hK
  exact PS.imp (ps_try_mix hs hf hN tk (fun W pn xe t p => hb W pn xe t p) hh.up) fun D σ H ⟨F, ρ, M, E', s, y, h⟩ =>
    tGs_mk (E' := { E' with ex := dHds X.K E' l }) s ⟨y.nx, y.rt, y.bk, y.ct, fun F' H' ρ' M' σ' x cls d e' s' r q => hds_at (y.next e') s' r q⟩ h

def gXf (a : Addr) (cls : Value) (d : Option Addr) (C : Addr) (f : Str) (g : DE) : DE := fun E ρ M Q => g E ρ M fun y M1 => cls = .ref C ∧ ∃ fs z, y = .xo a d fs ∧ fs.lookup f = some z ∧ Q z M1
theorem fe_xf {a C : Addr} {oe : Obj} {cls : Value} {d : Option Addr} {pn : List (Addr × Obj)} {e : Expr} {n : Str} {fs : List Str} (hK : X.K = K) (T : ExCls K C fs) (hz : Zc cls d oe) (hf : ∃ vs, oe.data = .fields vs) (hn : n ∈ fs) (he : FE K (X.suite a ((a, oe) :: pn)) W e ga)
    (hb : attributeBase e n X.env (eval e X.env) = eval e X.env := by rfl) : FE K (X.suite a ((a, oe) :: pn)) W (.Attribute e n pos) (gXf a cls d C n ga) := by
  subst hK
  refine PE.imp (pe_xf T.xf (T.no n hn) hz hf he hb) fun σ H Q ⟨F, ρ, M, E, Q', s, x, q, h⟩ => tG_mk s x (fun F1 H1 M1 y v e1 m1 r1 h1 => ?_) h
  obtain ⟨ec, fs, z, rfl, hl, h1⟩ := h1
  unfold Rp at r1
  obtain ⟨rfl, gs, r2, r3⟩ := r1
  obtain ⟨w, hw, rw'⟩ := Rpf.look r3 hl
  cases d with
  | none =>
    have r2' : gs = [] := r2
    subst r2'
    cases hw
  | some dd => exact ⟨rfl, ec, dd, gs, w, rfl, r2, hw, q F1 H1 M1 _ _ e1 m1 rw' h1⟩
end
end DL
namespace DLM
open PySem PySem.W PySem.Spec PySem.Calls PyProof.Rows
section
variable {prog : Program} {w : World} {A : Around} {E : Value → Shared → Prop} {s : Shared} {K : Frag} {x D : Addr} {ox : Obj} {od : Option Obj}
theorem fo_data {C : Addr} {name : Str} {a g : Value} (hc : (clsIn K C).isSome = true) (ha : findIn K (.ref C) name = some (some a)) (hg : specialIn K a "__get__" = some (some g)) (ht : takesIn K a = some true) : findObj K C od name = some (.bind g a) := by
  (obtain ⟨cd, hc⟩ := Option.isSome_iff_exists.mp hc; unfold findObj; rw [hc, Option.bind_some, ha, Option.bind_some]; simp [hg, ht])
theorem kin_cls (hga : findIn K (.ref D) "__getattribute__" = some (some (.builtin "BaseException.__getattribute__"))) (hgt : findIn K (.ref D) "__getattr__" = some none) (hsub : subIn K (.ref D) (.type "BaseException") = some true) (hdct : hasDictIn K D = true)
    (ha : findIn K (.ref D) "__class__" = some (some (.builtin "object.__class__"))) (hn : specialIn K (.builtin "object.__class__") "__get__" = some (some (.builtin "getset_descriptor.__get__"))) (htk : takesIn K (.builtin "object.__class__") = some true) (hm : mroIn K D (.type "object") = some true)
    {Q : Option Value → Shared → Prop} (X : K.In s.heap) (I : InstAt s.heap x ox D od) (h : Q (some (.ref D)) { s with toks := s.toks + 1 }) : wpAny (model prog w) A (getAttr? (.ref x) "__class__") Q E s := by
  have hf : findObj K D od "__class__" = some (.bind (.builtin "getset_descriptor.__get__") (.builtin "object.__class__")) := fo_data (by (obtain ⟨cd, hc, _⟩ := any_some hdct; rw [hc]; rfl)) ha hn htk
  obtain ⟨hp, g, d, t, os⟩ := s; have L0 := I.type (M := model prog w)
  have L1 := looks_findIn (M := model prog w) X hga; have L2 := looks_findIn (M := model prog w) X hgt
  have L3 := looks_find (M := model prog w) X I hf; have sub : Looks (model prog w) hp (isInstance (.ref x) (.type "BaseException")) true := L0.andThen (looks_subIn X hsub)
  have hx0 : (false && onTheHeap (Value.builtin "BaseException.__getattribute__")) = false := by rfl
  have hx2 : (Value.builtin "BaseException.__getattribute__" == Value.builtin "object.__getattribute__") = false := by (decide +kernel)
  have hx1 : (onTheHeap (Value.ref D) && Value.builtin "BaseException.__getattribute__" == Value.builtin "object.__getattribute__") = false := by (rw [hx2]; rfl)
  unfold getAttr? getAttrBy? getAttrBy; refine wpAny_bind (wpAny_mkText (wpAny_bind (wpAny_attempt (wpAny_holding (wpAny_bind (L0.at (wpAny_bind (L1.at ?_))))))))
  show wpAny _ _ (if (onTheHeap (Value.ref D) && Value.builtin "BaseException.__getattribute__" == Value.builtin "object.__getattribute__") = true then _ else _) _ _ _; rw [hx1, if_neg Bool.false_ne_true]
  unfold getAttrByItsOwn hookBefore; refine wpAny_bind ?_; rw [if_pos (show onTheHeap (Value.ref D) = true from rfl)]
  refine L2.at (wpAny_bind (wpAny_attempt (wpAny_holding ?_))); unfold callGetattribute
  rw [hx0, if_neg Bool.false_ne_true]; unfold boundAndCalled; rw [PySem.F.excAttr_ValueError.ga.bind (.ref x)]
  refine wpAny_bind (wpAny_pure ?_); show wpAny _ _ (call (.builtin "BaseException.__getattribute__") [.ref x, .str "__class__" t]) _ _ _
  refine wpAny_call (codeAny_call_builtin PySem.F.excAttr_ValueError.ga.plain PySem.F.entry_bexc_ga (@check_slot (model prog w) _ _ ⟨hp, g, d, t + 1, os⟩ "BaseException.__getattribute__" "BaseException" "__getattribute__" (.ref x) [.str "__class__" t] [] _ (by decide +kernel) (by decide +kernel) sub (PySem.F.args_bexc_ga (.ref x) (.str "__class__" t)) ?_))
  unfold Builtin.«object.__getattribute__»; refine wpAny_bind (wpAny_of_eq (a := ((Value.ref x : Value), [Value.str "__class__" t])) (by first | rfl | (simp only [slotArgs]; rfl)) ?_)
  refine wpAny_bind (wpAny_pure (wpAny_bind (L0.at (wpAny_bind (L3.at ?_))))); show wpAny _ _ (holding [Value.builtin "object.__class__"] (call (.builtin "getset_descriptor.__get__") [.builtin "object.__class__", .ref x, .ref D]) >>= ret) _ _ _
  refine wpAny_bind (wpAny_holding (wpAny_call (class_get (s := ⟨hp, g, d, t + 1, os⟩) (ox := ox) (od := od) X I hm (wpAny_pure ?_)))); show wpAny _ _ (handedOut (.ref D)) _ _ _
  rw [handedOut_of (v := .ref D) rfl]; first | exact wpAny_pure (wpAny_pure h) | exact wpAny_pure h | exact wpAny_pure (wpAny_bind (wpAny_pure (wpAny_pure h)))
theorem kitx_exc (C : L2.ExcC K D) : KitX K (.ref x) (.ref D) (fun h => InstAt h x ox D od) where
  ty := fun _ _ _ I => I.type
  it := fun _ _ X _ => by
    obtain ⟨cdD, hcD, _⟩ := any_some C.hd; unfold clsIn at hcD
    split at hcD
    · (rename_i c' d' cd' sl' ho; intro A' Q' E' s' k q; unfold isType loadHead; exact wpAny_bind (wpAny_loadPart (k _ _ (X _ _ ho)) (wpAny_pure q)))
    · cases hcD
  ne := fun h tp dd its n sl X htp => by
    obtain ⟨cdD, hcD, _⟩ := any_some C.hd; refine Bool.eq_false_iff.mpr fun q => ?_
    have e : D = tp := Value.ref.inj (beq_iff_eq.mp q); subst e; unfold clsIn at hcD
    split at hcD
    · (rename_i c' d' cd' sl' ho; have z := (X _ _ ho).symm.trans htp; cases z)
    · cases hcD
  ca := fun X I k => kin_cls C.hg C.hk C.hs C.hd C.ha C.hn C.ht C.hm X I k
end
end DLM
namespace DL
open PySem PySem.Spec PyProof.Rows L2
def rIsX (K : PySem.W.Frag) (D a : Addr) (d : Option Addr) : List V → Hp → VK → Prop := fun xs H Q => ∃ (c : V) (cv : Value) (b : Bool), xs = [.ref a, c] ∧ (∀ u, RelV c u → u = cv) ∧ PySem.W.kitOne K (.ref D) cv = some b ∧ (∀ dd, d = some dd → ∃ fs, H dd = some (.xd fs)) ∧ Q (.bl b) H
theorem call_isX {X : Cx} {a D : Addr} {oe : Obj} {d : Option Addr} {pn : List (Addr × Obj)} (C : ExcC X.K D) (hz : Zc (.ref D) d oe) (hf : ∃ vs, oe.data = .fields vs) : CallR (X.suite a ((a, oe) :: pn)) (.builtin "isinstance") (rIsX X.K D a d) := by
  intro pins s σ H xs us Q I r h
  obtain ⟨c, cv, b, rfl, hcv, e, hd, q⟩ := h
  cases r with
  | cons rx rr =>
    cases rr with
    | cons rt rr =>
      cases rr; cases rx
      have ec := hcv _ rt; subst ec
      obtain ⟨hget, _⟩ := I.pin (a, oe) (List.mem_append.mpr (.inl List.mem_cons_self)); obtain ⟨vs, hv⟩ := hf
      obtain ⟨oc, od, oda, osl⟩ := oe; obtain ⟨h1, h2⟩ := hz
      dsimp only at h1 h2 hv; subst h1 h2 hv
      cases od with
      | none => (have J : PySem.W.InstAt s.heap a ⟨.ref D, none, .fields vs, osl⟩ D none := ⟨hget, rfl, rfl, trivial⟩; exact PySem.W.kia_one (DLM.kitx_exc C) I.kIn J e (fun z => nomatch z) fun tk => ⟨.bl b, H, I.kept (t' := tk) fun _ _ z => z, rfl, q⟩)
      | some dd =>
        obtain ⟨fs, hx⟩ := hd dd rfl
        have hx' : ObjOk X.prog X.w H s.heap dd (.xd fs) := I.hok dd _ hx
        obtain ⟨mA, hns, hr⟩ := hx'; obtain ⟨o2, ho, hl⟩ := lookIn_ns hns
        have J : PySem.W.InstAt s.heap a ⟨.ref D, some dd, .fields vs, osl⟩ D (some o2) := ⟨hget, rfl, rfl, ho⟩
        exact PySem.W.kia_one (DLM.kitx_exc C) I.kIn J e (fun z => nomatch z) fun tk => ⟨.bl b, H, I.kept (t' := tk) fun _ _ z => z, rfl, q⟩
section
variable {K : PySem.W.Frag} {X : Cx} {W : WX}
def dIsX (K : PySem.W.Frag) (cls : Value) (a : Addr) (d : Option Addr) (D : Addr) : DRs := fun ds M Q => match ds with
  | [y, .ref c] => cls = .ref D ∧ (∃ fs, y = .xo a d fs) ∧ ∃ b, PySem.W.kitOne K (.ref D) (.ref c) = some b ∧ Q (.bl b) M
  | _ => False
theorem cd_isX {a D : Addr} {oe : Obj} {cls : Value} {d : Option Addr} {pn : List (Addr × Obj)} (hK : X.K = K) (C : ExcC K D) (hz : Zc cls d oe) (hf : ∃ vs, oe.data = .fields vs) : CallD K (X.suite a ((a, oe) :: pn)) (.builtin "isinstance") (dIsX K cls a d D) := by
  subst hK
  intro pins s σ H xs us Q I r h
  obtain ⟨F, M, ds, Q', m, rr, q, h⟩ := h
  match ds, h with
  | [y, .ref c], h =>
    obtain ⟨rfl, ⟨fs, rfl⟩, b, e, h⟩ := h
    obtain ⟨v, w, rfl, r1, r2⟩ := rr.two
    unfold Rp at r1 r2
    obtain ⟨rfl, gs, r3, r4⟩ := r1
    subst r2
    refine call_isX C hz hf pins s σ H _ us Q I r ⟨.ref c, .ref c, b, rfl, fun u z => z, e, fun dd ed => ?_, q F H M _ _ (Ext.refl _ _ _) m Rp.bl h⟩
    subst ed
    exact ⟨gs, r3⟩
end

def startD (n : Nat) (ds : List D) : Dv := ds.map some ++ List.replicate (n - ds.length) none
theorem startD_ok {K : PySem.W.Frag} {F : Addr → Prop} {H : Hp} {N : List Str} {ds : List D} {vs : List V} (r : Rps K F H ds vs) (hl : ds.length ≤ N.length) : EnvOk K F H (startD N.length ds) (L2.start N vs) ∧ (startD N.length ds).length = (L2.start N vs).length := by
  have e := r.length
  constructor
  · intro i d h
    unfold startD at h
    by_cases hi : i < ds.length
    · rw [List.getElem?_append_left (by simpa using hi), List.getElem?_map] at h
      cases z : ds[i]? with
      | none => rw [z] at h; cases h
      | some d' =>
        rw [z] at h
        cases h
        obtain ⟨v, hv, rv⟩ := r.get z
        refine ⟨v, ?_, rv⟩
        unfold L2.start
        rw [List.getElem?_append_left (by simp; omega), List.getElem?_map, hv]
        rfl
    · rw [List.getElem?_append_right (by simpa using hi), List.getElem?_replicate] at h
      split at h <;> cases h
  · unfold startD L2.start
    simp [e]
section
variable {P : Program} {w : World} {K : PySem.W.Frag} {mg : Str → Option Value} {base : Heap}
theorem dl_def {x qual : Str} {st : Stmt} {f : Addr} {fd : FuncData} {N ps : List Str} {k : Nat} {sp : SpD} (Fn : Fun K x qual st f fd) (S : FnScope N ps (defScope st)) (len : ∀ ds M Q E, sp ds M Q E → ds.length = ps.length) (g : DS)
    (hN : ps.length ≤ N.length)
    (hw : ∀ (cdv : Value) (A : Around) (outer : List Env) (s : Shared) (H : Hp) (E : XK), Room k (A.deeper (envOfC qual (defScope st) s.heap.objs.size f cdv)) → FSs K (cxOf (L2.CX P w) P w K mg base N qual (defScope st) f cdv A outer s H E) (fun cls d _ H => E cls d H) (defBody st) g)
    (hg : ∀ ds M Q E, sp ds M Q E → g { nx := fun _ M => Q .non M, rt := Q, ex := fun x _ M => E x M } (startD N.length ds) M) : FnD P w K mg base (k + 1) f fd ps sp := by
  refine Fn.okX S (fun vs H Q E h => ?_) (fun cdv A outer s H vs Q E hr h => ⟨_, hw cdv A outer s H E hr, ?_⟩)
  · obtain ⟨F, M, ds, Q', E', m, r, _, _, h⟩ := h
    rw [r.length]
    exact len _ _ _ _ h
  · obtain ⟨F, M, ds, Q', E', m, r, q, y, h⟩ := h
    obtain ⟨s1, s2⟩ := startD_ok (N := N) r (by rw [len _ _ _ _ h]; exact hN)
    refine tGs_mk (E' := { nx := fun _ M => Q' .non M, rt := Q', ex := fun x _ M => E' x M }) ⟨s1, m, s2⟩ ⟨fun F' H' ρ' M' σ' e' s' h' => q F' H' M' .non .non e' s'.mem Rp.non h', q, fun _ _ _ _ _ _ _ z => z.elim, fun _ _ _ _ _ _ _ z => z.elim, fun F' H' ρ' M' σ' x cls d e' s' r' h' => y F' H' M' x cls d e' s'.mem r' h'⟩ (hg ds M Q' E' h)
end
end DL

namespace DL
open PySem PySem.Spec PyProof.Rows L2
def sp1 (f : D → Mem → DVK → DXK → Prop) : SpD
  | [a], M, Q, E => f a M Q E
  | _, _, _, _ => False
def sp2 (f : D → D → Mem → DVK → DXK → Prop) : SpD
  | [a, b], M, Q, E => f a b M Q E
  | _, _, _, _ => False
def sp3 (f : D → D → D → Mem → DVK → DXK → Prop) : SpD
  | [a, b, c], M, Q, E => f a b c M Q E
  | _, _, _, _ => False
def sp4 (f : D → D → D → D → Mem → DVK → DXK → Prop) : SpD
  | [a, b, c, d], M, Q, E => f a b c d M Q E
  | _, _, _, _ => False
theorem sp1_at {f} {ds : List D} {M : Mem} {Q : DVK} {E : DXK} (h : sp1 f ds M Q E) : ∃ a, ds = [a] ∧ f a M Q E := by
  unfold sp1 at h
  split at h
  · exact ⟨_, rfl, h⟩
  · exact h.elim
theorem sp2_at {f} {ds : List D} {M : Mem} {Q : DVK} {E : DXK} (h : sp2 f ds M Q E) : ∃ a b, ds = [a, b] ∧ f a b M Q E := by
  unfold sp2 at h
  split at h
  · exact ⟨_, _, rfl, h⟩
  · exact h.elim
theorem sp3_at {f} {ds : List D} {M : Mem} {Q : DVK} {E : DXK} (h : sp3 f ds M Q E) : ∃ a b c, ds = [a, b, c] ∧ f a b c M Q E := by
  unfold sp3 at h
  split at h
  · exact ⟨_, _, _, rfl, h⟩
  · exact h.elim
theorem len_sp1 {f} {ds : List D} {M : Mem} {Q : DVK} {E : DXK} (h : sp1 f ds M Q E) : ds.length = 1 := by obtain ⟨_, rfl, _⟩ := sp1_at h; rfl
theorem len_sp2 {f} {ds : List D} {M : Mem} {Q : DVK} {E : DXK} (h : sp2 f ds M Q E) : ds.length = 2 := by obtain ⟨_, _, rfl, _⟩ := sp2_at h; rfl
theorem len_sp3 {f} {ds : List D} {M : Mem} {Q : DVK} {E : DXK} (h : sp3 f ds M Q E) : ds.length = 3 := by obtain ⟨_, _, _, rfl, _⟩ := sp3_at h; rfl
def OkD (P : Program) (w : World) (K : PySem.W.Frag) (mg : Str → Option Value) (base : Heap) (k : Nat) (x : Str) (ps : List Str) (sp : SpD) : Prop :=
  ∃ fd, FnD P w K mg base k (He.ga K x) fd ps sp ∧ Binds K fd ps [] ∧ PySem.W.keepIn K (.ref (He.ga K x)) = true ∧ mg x = some (.ref (He.ga K x)) ∧ ∃ oc od sl, K.lookup (He.ga K x) = some ⟨oc, od, .func fd, sl⟩
section
variable {K : PySem.W.Frag} {X : Cx} {W : WX} {e : Expr} {pos : Pos}
theorem fe_callO {k : Nat} {ps : List Str} {sp : SpD} {x : Str} {p : Pos} {es : List Expr} {g : DA} (C : OkD X.prog X.w K X.mg X.base k x ps sp) (hr : Room k X.A) (tk : Takes X W) (ha : FA K X W (e :: es) g)
    (hK : X.K = K := by rfl) (hg : Gl X x := by rfl) (hdb : (x == ("__debug__" : Str)) = false := by decide) (he : starEach (e :: es) X.env = (false, eval e X.env) :: starEach es X.env := by rfl) (hpl : (backTo pos (starEach es X.env)).any (·.1) = false := by rfl) :
    FE K X W (.Call (.Name x p) (e :: es) [] pos) (gCall sp g) := by
  obtain ⟨fd, F, b, kp, m, _⟩ := C
  exact fe_call F hr tk m kp b ha hK hg hdb he hpl
def OkX (P : Program) (w : World) (K : PySem.W.Frag) (mg : Str → Option Value) (base : Heap) (x : Str) (fs ps : List Str) : Prop :=
  ∃ fd, ExCls K (He.ga K x) fs ∧ fs.length ≤ 1000 ∧ PySem.W.findIn K (.ref (He.ga K x)) "__init__" = some (some (.ref (He.ma K (He.ga K x) "__init__"))) ∧ PySem.W.typeIn K (.ref (He.ma K (He.ga K x) "__init__")) = some (.type "function") ∧
    FnOk P w K mg base (L2.CX P w) 1 (He.ma K (He.ga K x) "__init__") fd ps (spInit (He.ga K x) fs) ∧ Binds K fd ps [] ∧ mg x = some (.ref (He.ga K x))
theorem fs_raiseO {fs ps : List Str} {x : Str} {p pos2 : Pos} {es : List Expr} {g : DA} (C : OkX X.prog X.w K X.mg X.base x fs ps) (hr : Room 2 X.A) (tk : Takes X W) (ha : FA K X W (e :: es) g)
    (hc : X.calm = true := by rfl) (hK : X.K = K := by rfl) (hg : Gl X x := by rfl) (hdb : (x == ("__debug__" : Str)) = false := by decide) (he : starEach (e :: es) X.env = (false, eval e X.env) :: starEach es X.env := by rfl) (hpl : (backTo pos (starEach es X.env)).any (·.1) = false := by rfl) :
    FS K X W (.Raise (some (.Call (.Name x p) (e :: es) [] pos)) none pos2) (sRaise (He.ga K x) fs g) := by
  obtain ⟨fd, T, hs, i1, i2, F, b, m⟩ := C
  exact fs_raise hc T hs i1 i2 F hr b tk m ha hK hg hdb he hpl
theorem hu64 {k : Nat} {A : Around} (hr : Room k A) : A.units + 64 < cLine := by have := hr.un; omega
theorem names_g {x : Str} {c : Addr} (m : X.mg x = some (.ref c)) (hg : Gl X x := by rfl) (hdb : (x == ("__debug__" : Str)) = false := by decide) : Names X x (.ref c) := ⟨hg, hdb, .inl m⟩
end

theorem fun_lk {K : PySem.W.Frag} {x qual : Str} {st : Stmt} {f : Addr} {fd : FuncData} (F : Fun K x qual st f fd) : ∃ oc od sl, K.lookup f = some ⟨oc, od, .func fd, sl⟩ := by
  obtain ⟨oc, od, kV, doc, pm, an, cdv, ct, osl, _, l, _⟩ := F.ex
  exact ⟨oc, od, osl, l⟩
theorem fun_bindsA {K : PySem.W.Frag} {x qual : Str} {st : Stmt} {f : Addr} {fd : FuncData} {ps : List Str} (F : Fun K x qual st f fd)
    (h : ∀ (kV doc pm : Value) (an : Option Addr) (cdv ct : Value) (us : List Value), us.length = ps.length → bindArgs (PySem.W.fnOf x qual (defArgs st) (defBody st) (defScope st) .none kV doc pm an cdv ct) ⟨us, []⟩ = pure (ps.zip us)) (s : Shared) (us : List Value) (hu : us.length = ps.length) : BindsTo s fd ⟨us, []⟩ (ps.zip us) := by
  obtain ⟨oc, od, kV, doc, pm, an, cdv, ct, osl, e, _, _⟩ := F.ex
  subst e
  exact .of_eq (h kV doc pm an cdv ct us hu)
theorem walk_ofW {l : PySem.W.OpenLaw} {n k : Nat} {q : Program} {loose : List Str} {XP : (Str → Option Value) → Heap → Prop} {YP : World → Heap → Prop} {d : DefRec} {x : Str} (hn : l.most = some n) (hn2 : n ≤ sizeLine) (hdf : d.params.defaults = []) (hr : Room k callerA)
    (F : ∀ (w : World) (mg : Str → Option Value) (fa : Addr) (h : Heap), YP w h → h.Ns mainGlobals mg → mg d.name = some (.ref fa) → ∃ (K : PySem.W.Frag) (fd : FuncData) (sp : SpD), K.In h ∧ (∀ (s : Shared) (u : Value), BindsTo s fd ⟨[u], []⟩ [(x, u)]) ∧
      (∀ ns : List Int, sp [.scr ns] (fun _ => none) (fun d _ => d = .bl true) fun _ _ => False) ∧ ∀ base : Heap, K.In base → base.Ns mainGlobals mg → FnD l.prog w K mg base k fa fd [x] sp) : PySem.W.WalkO q loose XP YP l.row.toRowW d [] (fun f vs => PySem.call f vs) := by
  refine Att.attach_call hn hdf fun w s₀ s₁ mg mb fa o pm cd doc a vs ns G Y ho hd hcd hmg hobj hints hlen hg => ?_; obtain ⟨K, fd, sp, KX, hb, hsp, hF⟩ := F w mg fa _ Y G.T.g hmg
  refine law_call KX G.T.g G.T.b G.T.builtins G.T.nolimit hg hobj hints (Nat.le_trans hlen hn2) hr hF hb (fun H hO hS => ?_) fun H e s' z => ?_
  · refine ⟨fun _ => False, fun _ => none, [.scr ns], fun d _ => d = .bl true, fun _ _ => False, ⟨fun _ f => f.elim, fun a o e => by cases e⟩, .cons ?_ .nil, fun F' H' M' d v _ _ r e => ?_, fun _ _ _ _ _ _ _ _ _ z => z.elim, hsp ns⟩
    · unfold Rp
      refine ⟨a, rfl, ?_⟩
      rcases hS with (h | ⟨o, h⟩) | h
      · rcases hO a with z | ⟨o, xs, z⟩
        · rw [z] at h; cases h
        · rw [z] at h; cases h
      · exact .inl ⟨o, h⟩
      · exact .inr fun H' => .inr h
    · subst e
      exact r.bl_inv
  · obtain ⟨_, _, _, _, _, _, _, _, _, _, _, _, z⟩ := z
    exact z.elim

theorem bt_len : bootBuiltins "len" = some (.builtin "len") := by decide +kernel
theorem bt_min : bootBuiltins "min" = some (.builtin "min") := by decide +kernel
theorem bt_abs : bootBuiltins "abs" = some (.builtin "abs") := by decide +kernel
theorem bt_isinstance : bootBuiltins "isinstance" = some (.builtin "isinstance") := by decide +kernel
theorem bt_int : bootBuiltins "int" = some (.type "int") := by decide +kernel
theorem bt_list : bootBuiltins "list" = some (.type "list") := by decide +kernel
theorem bt_tuple : bootBuiltins "tuple" = some (.type "tuple") := by decide +kernel
theorem bt_bool : bootBuiltins "bool" = some (.type "bool") := by decide +kernel
def RowD (M : Mem) (d : D) (xs : List D) : Prop := d = .tup xs ∨ d = .lst xs ∨ ∃ a, d = .ref a ∧ M a = some (.lst xs)
def LstD (M : Mem) (d : D) (xs : List D) : Prop := d = .lst xs ∨ ∃ a, d = .ref a ∧ M a = some (.lst xs)
section
variable {M : Mem} {d : D} {xs : List D}
theorem LstD.row (h : LstD M d xs) : RowD M d xs := .inr h
theorem RowD.tup : RowD M (.tup xs) xs := .inl rfl
theorem RowD.lst : RowD M (.lst xs) xs := .inr (.inl rfl)
theorem RowD.ref {a : Addr} (h : M a = some (.lst xs)) : RowD M (.ref a) xs := .inr (.inr ⟨a, rfl, h⟩)
theorem LstD.lst : LstD M (.lst xs) xs := .inl rfl
theorem LstD.ref {a : Addr} (h : M a = some (.lst xs)) : LstD M (.ref a) xs := .inr ⟨a, rfl, h⟩
theorem RowD.src (h : RowD M d xs) : ∃ ok : Mem → Prop, srcOf M d = some ⟨xs, ok⟩ ∧ ok M ∧ ∀ M', RowD M' d xs → ok M' := by
  rcases h with rfl | rfl | ⟨a, rfl, h⟩
  · exact ⟨fun _ => True, rfl, trivial, fun _ _ => trivial⟩
  · exact ⟨fun _ => True, rfl, trivial, fun _ _ => trivial⟩
  · refine ⟨fun M' => M' a = some (.lst xs), ?_, h, fun M' h' => ?_⟩
    · unfold srcOf; simp only [h]
    · rcases h' with z | z | ⟨b, z, h'⟩
      · cases z
      · cases z
      · cases z; exact h'
theorem RowD.onS (h : RowD M d xs) {k : List D → Prop} (q : k xs) : onS M d k := by
  obtain ⟨ok, e, _⟩ := h.src
  unfold DL.onS
  rw [e]
  exact q
theorem RowD.onSrc (h : RowD M d xs) {R : Src → Mem → Prop} (q : ∀ ok : Mem → Prop, ok M → (∀ M', RowD M' d xs → ok M') → R ⟨xs, ok⟩ M) : onSrc M d R := by
  obtain ⟨ok, e, o, oo⟩ := h.src
  unfold DL.onSrc
  rw [e]
  exact q ok o oo
theorem LstD.onL (h : LstD M d xs) {k : List D → Prop} (q : k xs) : onL M d k := by
  rcases h with rfl | ⟨a, rfl, h⟩
  · exact onL_lst q
  · exact onL_ref h q
theorem RowD.kd (h : RowD M d xs) : kdOf M d = some .tuple ∨ kdOf M d = some .list := by
  rcases h with rfl | rfl | ⟨a, rfl, h⟩
  · exact .inl rfl
  · exact .inr rfl
  · refine .inr ?_
    unfold kdOf; simp only [h]
theorem LstD.kd (h : LstD M d xs) : kdOf M d = some .list := by
  rcases h with rfl | ⟨a, rfl, h⟩
  · rfl
  · unfold kdOf; simp only [h]
theorem mset_id {a : Addr} {o : MO} (h : M a = some o) : mset M a o = M := by
  funext b
  unfold mset
  split
  · rename_i e; rw [e, h]
  · rfl
def MemUp (M M' : Mem) : Prop := ∀ a o, M a = some o → M' a = some o
theorem MemUp.refl : MemUp M M := fun _ _ h => h
theorem MemUp.trans {M M1 M2 : Mem} (a : MemUp M M1) (b : MemUp M1 M2) : MemUp M M2 := fun c o h => b c o (a c o h)
theorem MemUp.add {M : Mem} {a : Addr} {o : MO} (h : M a = none) : MemUp M (mset M a o) := fun b u e => by
  rw [mset_ne (fun z => by rw [z, h] at e; cases e)]; exact e
theorem MemUp.set {M M' : Mem} {a : Addr} {o : MO} (u : MemUp M M') (h : M a = none) : MemUp M (mset M' a o) := fun b w e => by
  rw [mset_ne (fun z => by rw [z, h] at e; cases e)]; exact u b w e
theorem MemUp.row {M' : Mem} (u : MemUp M M') (h : RowD M d xs) : RowD M' d xs := h.imp (fun z => z) fun h => h.imp (fun z => z) fun ⟨a, e, z⟩ => ⟨a, e, u _ _ z⟩
theorem MemUp.lst {M' : Mem} (u : MemUp M M') (h : LstD M d xs) : LstD M' d xs := h.imp (fun z => z) fun ⟨a, e, z⟩ => ⟨a, e, u _ _ z⟩
theorem MemUp.free {M' : Mem} (u : MemUp M M') {a : Addr} (h : M' a = none) : M a = none := by
  cases q : M a with
  | none => rfl
  | some o => rw [u a o q] at h; cases h
theorem MemUp.fz {M' : Mem} (u : MemUp M M') : MemFz M' M fun _ => False := ⟨fun _ z => z.elim, fun a o h => ⟨fun z => z, u a o h⟩⟩
theorem MemUp.fz1 {M' : Mem} (u : MemUp M M') {a : Addr} {o : MO} (h : M a = none) (h' : M' a = some o) : MemFz M' M fun b => b = a :=
  ⟨fun b z => (by rw [show b = a from z, h']; intro q; cases q), fun b o hb => ⟨fun z => (by rw [show b = a from z, h] at hb; cases hb), u b o hb⟩⟩
end
theorem ret_drop {M M' : Mem} {d : D} {Q : D → Mem → Prop} (u : MemUp M M') (q : Q d M) : ∃ d' M2 S, Fz M' S d d' ∧ MemFz M' M2 S ∧ Q d' M2 := ⟨d, M, _, .refl d, u.fz, q⟩
theorem ret_lst {M M' : Mem} {a : Addr} {xs : List D} {Q : D → Mem → Prop} (u : MemUp M M') (h : M a = none) (h' : M' a = some (.lst xs)) (q : Q (.lst xs) M) : ∃ d' M2 S, Fz M' S (.ref a) d' ∧ MemFz M' M2 S ∧ Q d' M2 :=
  ⟨.lst xs, M, fun b => b = a, .ref rfl h' (.refl xs), u.fz1 h h', q⟩
theorem lc_still {ok : Mem → Prop} {dg : DG} {tt : DT} {te : DE} {ρw : Dv} {M : Mem} {Q : List D → Mem → Prop} {α : Type} (v : α → D) (f : α → Option D) (ho : ok M) :
    ∀ (xs : List α) (acc : List D), (∀ x ∈ xs, ∀ (N : List D → Mem → Prop) (acc : List D), acc.length < sizeLine → N (acc ++ (f x).toList) M → dg (v x) ρw M fun ρ1 M1 => tt E0 ρ1 M1 fun b M2 => if b = true then te E0 ρ1 M2 fun y M3 => acc.length < sizeLine ∧ N (acc ++ [y]) M3 else N acc M2) →
      acc.length + xs.length < sizeLine → Q (acc ++ xs.filterMap f) M → lcD ok dg tt te ρw (xs.map v) acc M Q
  | [], acc, _, _, q => by
    unfold lcD
    simp only [List.filterMap_nil, List.append_nil] at q
    exact ⟨ho, q⟩
  | x :: xs, acc, h, hl, q => by
    rw [List.map_cons]
    unfold lcD
    rw [List.length_cons] at hl
    refine ⟨ho, h x (by simp) (fun l M' => lcD ok dg tt te ρw (xs.map v) l M' Q) acc (by omega) ?_⟩
    refine lc_still v f ho xs _ (fun y hy => h y (List.mem_cons_of_mem _ hy)) ?_ ?_
    · cases z : f x with
      | none => simp; omega
      | some y => simp; omega
    · cases z : f x with
      | none => rw [List.filterMap_cons_none z] at q; simpa using q
      | some y => rw [List.filterMap_cons_some z] at q; simpa using q
end DL

namespace DL
open PySem PySem.Spec L2
def slD (x : D) (l h : Option Int) (M : Mem) (Q : DVK) : Prop := match x with
  | .tup ds => Q (.tup (cutD ds l h)) M
  | x => onL M x fun ds => Q (.lst (cutD ds l h)) M
section
variable {K : PySem.W.Frag} {E : DXK} {ρ : Dv} {M : Mem} {Q : DVK} {QL : List D → Mem → Prop} {QB : Bool → Mem → Prop} {R : Src → Mem → Prop} {D' : DEnds} {QO : Option Int → Mem → Prop} {QE : Dv → Mem → Prop}
variable {ga gb gc : DE} {g gr : DA} {n : DN} {ta tb : DT} {t u : DS} {rd r r' : DR2} {gi : DI} {dg : DG} {gs : DGs} {gl gh : DO}
theorem q_op : gOp rd ga gb E ρ M Q = ga E ρ M fun x M1 => gb E ρ M1 fun y M2 => rd x y M2 Q := rfl
theorem q_un {r1 : DR1} : gUn r1 ga E ρ M Q = ga E ρ M fun x M1 => r1 x M1 Q := rfl
theorem q_var {i : Nat} : gVar i E ρ M Q = match ρ[i]? with
  | some (some d) => Q d M
  | _ => False := rfl
theorem q_c {d : D} : gC d E ρ M Q = Q d M := rfl
theorem q_nil : aNil E ρ M QL = QL [] M := rfl
theorem q_cons : aCons ga gr E ρ M QL = ga E ρ M fun d M1 => gr E ρ M1 fun ds M2 => QL (d :: ds) M2 := rfl
theorem q_tup : gTup g E ρ M Q = g E ρ M fun ds M1 => ds.length ≤ sizeLine ∧ Q (.tup ds) M1 := rfl
theorem q_frz : gFrz n E ρ M Q = n E ρ M fun ds M1 => Q (.lst ds) M1 := rfl
theorem q_cel : gCel n E ρ M Q = n E ρ M fun ds M1 => ∀ p, M1 p = none → Q (.ref p) (mset M1 p (.lst ds)) := rfl
theorem q_lst : nLst g E ρ M QL = g E ρ M fun ds M1 => ds.length ≤ sizeLine ∧ QL ds M1 := rfl
theorem q_test : gTest ga E ρ M QB = ga E ρ M fun d M1 => onB QB M1 d := rfl
theorem q_onB {b : Bool} : onB QB M (.bl b) = QB b M := rfl
theorem q_and : gAnd ta tb E ρ M QB = ta E ρ M fun c M1 => if c = true then tb E ρ M1 QB else QB false M1 := rfl
theorem q_or : gOr ta tb E ρ M QB = ta E ρ M fun c M1 => if c = true then QB true M1 else tb E ρ M1 QB := rfl
theorem q_not : gNot ta E ρ M QB = ta E ρ M fun c M1 => QB (!c) M1 := rfl
theorem q_andV : gAndV ga gb E ρ M Q = ga E ρ M fun d M1 => onB (fun c M1 => if c = true then gb E ρ M1 Q else Q (.bl false) M1) M1 d := rfl
theorem q_orV : gOrV ga gb E ρ M Q = ga E ρ M fun d M1 => onB (fun c M1 => if c = true then Q (.bl true) M1 else gb E ρ M1 Q) M1 d := rfl
theorem q_notV : gNotV ga E ρ M Q = ga E ρ M fun d M1 => onB (fun c M1 => Q (.bl (!c)) M1) M1 d := rfl
theorem q_if : gIf ta ga gb E ρ M Q = ta E ρ M fun c M1 => if c = true then ga E ρ M1 Q else gb E ρ M1 Q := rfl
theorem q_chain : gChain r r' ga gb gc E ρ M Q = ga E ρ M fun x M1 => gb E ρ M1 fun y M2 => r x y M2 fun z M3 => onB (fun k M3 => if k = true then gc E ρ M3 fun w M4 => r' y w M4 Q else Q (.bl false) M3) M3 z := rfl
theorem q_next : sNext D' ρ M = D'.nx ρ M := rfl
theorem q_seq : sSeq t u D' ρ M = t { D' with nx := u D' } ρ M := rfl
theorem q_drop : sDrop ga D' ρ M = ga (fun x M => D'.ex x ρ M) ρ M fun _ M1 => D'.nx ρ M1 := rfl
theorem q_ret : sRet ga D' ρ M = ga (fun x M => D'.ex x ρ M) ρ M D'.rt := rfl
theorem q_retF : sRetF ga D' ρ M = ga (fun x M => D'.ex x ρ M) ρ M fun d M1 => ∃ d' M2 S, Fz M1 S d d' ∧ MemFz M1 M2 S ∧ D'.rt d' M2 := rfl
theorem q_retN : sRetN D' ρ M = D'.rt .non M := rfl
theorem q_sif : sIf ta t u D' ρ M = ta (fun x M => D'.ex x ρ M) ρ M fun k M1 => if k = true then t D' ρ M1 else u D' ρ M1 := rfl
theorem q_break : sBreak D' ρ M = D'.bk ρ M := rfl
theorem q_cont : sCont D' ρ M = D'.ct ρ M := rfl
theorem q_name {i : Nat} {d : D} : dName i d ρ M QE = QE (ρ.set i (some d)) M := rfl
theorem q_dnil {ds : List D} : dNil ds ρ M QE = (ds = [] ∧ QE ρ M) := rfl
theorem q_dcons {d : D} {ds : List D} : dCons dg gs (d :: ds) ρ M QE = dg d ρ M fun ρ' M' => gs ds ρ' M' QE := rfl
theorem q_dtup {k : Nat} {ds : List D} : dTup k gs (.tup ds) ρ M QE = (ds.length = k ∧ gs ds ρ M QE) := rfl
theorem q_asg : sAsg ga dg D' ρ M = ga (fun x M => D'.ex x ρ M) ρ M fun d M1 => dg d ρ M1 D'.nx := rfl
theorem q_set {i : Nat} : sSet i ga D' ρ M = ga (fun x M => D'.ex x ρ M) ρ M fun d M1 => D'.nx (ρ.set i (some d)) M1 := rfl
theorem q_par {i j : Nat} : sPar i j g D' ρ M = g (fun x M => D'.ex x ρ M) ρ M fun ds M1 => match ds with
  | [d, e] => D'.nx ((ρ.set i (some d)).set j (some e)) M1
  | _ => False := rfl
theorem q_for {gb : DS} : sFor gi dg gb D' ρ M = gi (fun x M => D'.ex x ρ M) ρ M fun src M1 => loopD src.ok dg gb D' src.items ρ M1 := rfl
theorem q_range1 : iRange1 g E ρ M R = g E ρ M fun ds M1 => match ds with
  | [.int j] => (-(2 ^ 62) ≤ j ∧ j < 2 ^ 62) ∧ R ⟨rgD 0 j.toNat, fun _ => True⟩ M1
  | _ => False := rfl
theorem q_range2 : iRange2 g E ρ M R = g E ρ M fun ds M1 => match ds with
  | [.int i, .int j] => (-(2 ^ 62) ≤ i ∧ i < 2 ^ 62 ∧ -(2 ^ 62) ≤ j ∧ j < 2 ^ 62) ∧ R ⟨rgD i (j - i).toNat, fun _ => True⟩ M1
  | _ => False := rfl
theorem q_iseq : iSeqD ga E ρ M R = ga E ρ M fun d M1 => onSrc M1 d R := rfl
theorem q_ienum : iEnumD g E ρ M R = g E ρ M fun ds M1 => match ds with
  | [d] => onSrc M1 d fun s M2 => R ⟨enD s.items, s.ok⟩ M2
  | _ => False := rfl
theorem q_call {sp : SpD} : gCall sp g E ρ M Q = g E ρ M fun ds M1 => sp ds M1 Q E := rfl
theorem q_cb {rs : DRs} : gCB rs g E ρ M Q = g E ρ M fun ds M1 => rs ds M1 Q := rfl
theorem q_ncb {rs : List D → Mem → (List D → Mem → Prop) → Prop} : nCB rs g E ρ M QL = g E ρ M fun ds M1 => rs ds M1 QL := rfl
theorem q_nop {rn : DRN2} : nOp rn ga gb E ρ M QL = ga E ρ M fun x M1 => gb E ρ M1 fun y M2 => rn x y M2 QL := rfl
theorem q_lenset : gLenSet ga E ρ M Q = ga E ρ M fun d M1 => onS M1 d fun xs => ∃ ns : List Int, xs = ns.map D.int ∧ ns.length < 4000 ∧ Q (.int (ddup ns).length) M1 := rfl
theorem q_mt {rm : DRm} : gMt rm ga g E ρ M Q = ga E ρ M fun x M1 => (onL M1 x fun _ => True) ∧ g E ρ M1 fun ds M2 => rm x ds M2 Q := rfl
theorem q_mt0 {rm : DRm} : gMt0 rm ga E ρ M Q = ga E ρ M fun x M1 => (onL M1 x fun _ => True) ∧ rm x [] M1 Q := rfl
theorem q_setix : sSetIx ga gb gc D' ρ M = ga (fun x M => D'.ex x ρ M) ρ M fun v M1 => gb (fun x M => D'.ex x ρ M) ρ M1 fun o M2 => gc (fun x M => D'.ex x ρ M) ρ M2 fun i M3 => dSetIx o i v M3 fun M4 => D'.nx ρ M4 := rfl
theorem q_augs : sAugS ga gb gc rd D' ρ M = ga (fun x M => D'.ex x ρ M) ρ M fun o M1 => gb (fun x M => D'.ex x ρ M) ρ M1 fun i M2 => dIxL o i M2 fun x M3 => gc (fun x M => D'.ex x ρ M) ρ M3 fun y M4 => rd x y M4 fun z M5 => dSetIx o i z M5 fun M6 => D'.nx ρ M6 := rfl
theorem q_aug {i : Nat} : sAug i ga rd D' ρ M = match ρ[i]? with
  | some (some d) => ga (fun x M => D'.ex x ρ M) ρ M fun y M1 => rd d y M1 fun z M2 => D'.nx (ρ.set i (some z)) M2
  | _ => False := rfl
theorem q_nsl : nSl ga gl gh E ρ M QL = ga E ρ M fun x M1 => gl E ρ M1 fun l M2 => gh E ρ M2 fun h M3 => onL M3 x fun ds => QL (cutD ds l h) M3 := rfl
theorem q_onone : oNone E ρ M QO = QO none M := rfl
theorem q_osome : oSome ga E ρ M QO = ga E ρ M fun d M1 => match d with
  | .int i => QO (some i) M1
  | _ => False := rfl
theorem q_gsl : gSl ga gl gh E ρ M Q = ga E ρ M fun x M1 => gl E ρ M1 fun l M2 => gh E ρ M2 fun h M3 => slD x l h M3 Q := rfl
theorem q_raise {C : Addr} {fs : List Str} : sRaise C fs g D' ρ M = g (fun x M => D'.ex x ρ M) ρ M fun ds M1 => ds.length = fs.length ∧ D'.ex (exOf C fs ds) ρ M1 := rfl
theorem q_raiseF {C : Addr} {fs : List Str} : sRaiseF C fs g D' ρ M = g (fun x M => D'.ex x ρ M) ρ M fun ds M1 => ds.length = fs.length ∧ ∃ M2, (∀ a o, M2 a = some o → M1 a = some o) ∧ D'.ex (exOf C fs ds) ρ M2 := rfl
theorem q_try {hs : List DH} : sTry K t hs D' ρ M = t { D' with ex := dHds K D' hs } ρ M := rfl
theorem q_lc {tt : DT} {te : DE} {vs : List Nat} : nLc gi dg tt te vs E ρ M QL = gi E ρ M fun src M1 => lcD src.ok dg tt te (wipeD ρ vs) src.items [] M1 QL := rfl
theorem q_lc2 {gi1 : DI} {dg1 : DG} {tt tt1 : DT} {te : DE} {vs vs1 : List Nat} : nLc2 gi dg tt gi1 dg1 tt1 te vs vs1 E ρ M QL = gi E ρ M fun src M1 => lcD2 src.ok dg tt gi1 dg1 tt1 te vs1 (wipeD ρ vs) src.items [] M1 QL := rfl
theorem q_yes : gYes E ρ M QB = QB true M := rfl
theorem q_wipe0 : wipeD ρ [] = ρ := rfl
theorem q_wipe {v : Nat} {vs : List Nat} : wipeD ρ (v :: vs) = (wipeD ρ vs).set v none := rfl
theorem q_xf {a C : Addr} {cls : Value} {d : Option Addr} {f : Str} : gXf a cls d C f ga E ρ M Q = ga E ρ M fun y M1 => cls = .ref C ∧ ∃ fs z, y = .xo a d fs ∧ fs.lookup f = some z ∧ Q z M1 := rfl
theorem q_I {C : Int → Int → Prop} {f : Int → Int → D} {i j : Int} : dI C f (.int i) (.int j) M Q = (C i j ∧ Q (f i j) M) := rfl
theorem q_I0 {f : Int → Int → D} {i j : Int} : dI0 f (.int i) (.int j) M Q = Q (f i j) M := rfl
theorem q_U {f : Int → D} {i : Int} : dU f (.int i) M Q = Q (f i) M := rfl
theorem q_add {i j : Int} : dAdd (.int i) (.int j) M Q = Q (.int (i + j)) M := rfl
theorem q_addT {a b : List D} : dAdd (.tup a) (.tup b) M Q = (a.length + b.length ≤ sizeLine ∧ Q (.tup (a ++ b)) M) := rfl
theorem q_addL {a : List D} {y : D} : dAdd (.lst a) y M Q = onL M y fun b => a.length + b.length ≤ sizeLine ∧ Q (.lst (a ++ b)) M := by cases y <;> rfl
theorem q_addR {a : Addr} {y : D} : dAdd (.ref a) y M Q = onL M (.ref a) fun a => onL M y fun b => a.length + b.length ≤ sizeLine ∧ Q (.lst (a ++ b)) M := by cases y <;> rfl
theorem q_onL {xs : List D} {k : List D → Prop} : onL M (.lst xs) k = k xs := rfl
theorem q_onSt {xs : List D} {k : List D → Prop} : onS M (.tup xs) k = k xs := rfl
theorem q_onSl {xs : List D} {k : List D → Prop} : onS M (.lst xs) k = k xs := rfl
theorem q_onSs {ns : List Int} {k : List D → Prop} : onS M (.scr ns) k = k (ns.map D.int) := rfl
theorem q_onSrct {xs : List D} : onSrc M (.tup xs) R = R ⟨xs, fun _ => True⟩ M := rfl
theorem q_onSrcl {xs : List D} : onSrc M (.lst xs) R = R ⟨xs, fun _ => True⟩ M := rfl
theorem q_eqI {f : Bool → Bool} {i j : Int} : dEqG f (.int i) (.int j) M Q = Q (.bl (f (decide (i = j)))) M := rfl
theorem q_eqB {f : Bool → Bool} {i j : Bool} : dEqG f (.bl i) (.bl j) M Q = Q (.bl (f (decide (i = j)))) M := rfl
theorem q_eqS {f : Bool → Bool} {i j : Str} : dEqG f (.str i) (.str j) M Q = Q (.bl (f (decide (i = j)))) M := rfl
theorem q_eqN {f : Bool → Bool} : dEqG f .non .non M Q = Q (.bl (f true)) M := rfl
theorem q_isN {f : Bool → Bool} {x : D} : dIsN f x .non M Q = Q (.bl (f (isNon x))) M := rfl
theorem q_ix {x : D} {i : Int} : dIx x (.int i) M Q = onS M x fun ds => ∃ d, atI ds i = some d ∧ Q d M := rfl
theorem q_ixL {x : D} {i : Int} : dIxL x (.int i) M Q = onL M x fun ds => ∃ d, atI ds i = some d ∧ Q d M := rfl
theorem q_in {neg : Bool} {x y : D} : dInG neg x y M Q = onS M y fun xs => flatD x = true ∧ xs.all flatD = true ∧ Q (.bl (if neg then !inD x xs else inD x xs)) M := rfl
theorem q_len {x : D} : dLen [x] M Q = onS M x fun xs => Q (.int xs.length) M := rfl
theorem q_sum {x : D} : dSum [x] M Q = onL M x fun xs => ∃ ns : List Int, xs = ns.map D.int ∧ Q (.int ns.sum) M := rfl
theorem q_max {x : D} : dMax [x] M Q = onS M x fun xs => ∃ (n : Int) (ns : List Int), xs = (n :: ns).map D.int ∧ Q (.int (ns.foldl max n)) M := by cases x <;> rfl
theorem q_min {x : D} : dMin [x] M Q = onS M x fun xs => ∃ (n : Int) (ns : List Int), xs = (n :: ns).map D.int ∧ Q (.int (ns.foldl min n)) M := by cases x <;> rfl
theorem q_max2 {i j : Int} : dMax [.int i, .int j] M Q = Q (.int (max i j)) M := rfl
theorem q_min2 {i j : Int} : dMin [.int i, .int j] M Q = Q (.int (min i j)) M := rfl
theorem q_abs {i : Int} : dAbs [.int i] M Q = Q (.int (if i < 0 then -i else i)) M := rfl
theorem q_int {i : Int} : dInt [.int i] M Q = Q (.int i) M := rfl
theorem q_intB {b : Bool} : dInt [.bl b] M Q = Q (.int (if b = true then 1 else 0)) M := rfl
theorem q_tupof {x : D} : dTupleOf [x] M Q = onS M x fun xs => Q (.tup xs) M := rfl
theorem q_lstof {x : D} : nListOf [x] M QL = onS M x fun xs => QL xs M := rfl
theorem q_sort {x : D} : nSortOf [x] M QL = onS M x fun xs => ∃ ns : List Int, xs = ns.map D.int ∧ QL ((sortI ns).map D.int) M := rfl
theorem q_rep {x : D} {k : Int} : nRep x (.int k) M QL = onL M x fun a => (-(2 ^ 63) ≤ k ∧ k < 2 ^ 63 ∧ a.length * k.toNat ≤ sizeLine) ∧ QL (List.replicate k.toNat a).flatten M := rfl
theorem q_cat {x y : D} : nCat x y M QL = onL M x fun a => onL M y fun b => a.length + b.length ≤ sizeLine ∧ QL (a ++ b) M := rfl
theorem q_isi {x : D} {nm : String} : dIsi [x, .ty nm] M Q = ∃ k b, kdOf M x = some k ∧ isK k nm = some b ∧ Q (.bl b) M := by cases x <;> rfl
theorem q_isis {x : D} {ts : List D} : dIsi [x, .tup ts] M Q = ∃ k b, kdOf M x = some k ∧ isKs k ts = some b ∧ (∃ ns : List String, ts = ns.map D.ty) ∧ Q (.bl b) M := by cases x <;> rfl
theorem q_setat {o v : D} {i : Int} {k : Mem → Prop} : dSetIx o (.int i) v M k = onC M o fun a xs => ∃ j, ixN xs.length i = some j ∧ k (mset M a (.lst (xs.set j v))) := rfl
theorem q_onC {a : Addr} {k : Addr → List D → Prop} : onC M (.ref a) k = ∃ ds, M a = some (.lst ds) ∧ k a ds := rfl
theorem q_append {x d : D} : dAppend x [d] M Q = onC M x fun a xs => xs.length < sizeLine ∧ Q .non (mset M a (.lst (xs ++ [d]))) := rfl
theorem q_pop {x : D} : dPop x [] M Q = onC M x fun a xs => ∃ y, xs[xs.length - 1]? = some y ∧ Q y (mset M a (.lst xs.dropLast)) := rfl
theorem q_popAt {x : D} {i : Int} : dPop x [.int i] M Q = onC M x fun a xs => (-(2 ^ 63) ≤ i ∧ i < 2 ^ 63) ∧ ∃ k y, seqIndex? i xs.length = some k ∧ xs[k]? = some y ∧ Q y (mset M a (.lst (xs.eraseIdx k))) := rfl
theorem q_reverse {x : D} : dReverse x [] M Q = onC M x fun a xs => Q .non (mset M a (.lst xs.reverse)) := rfl
theorem q_insert {x d : D} {i : Int} : dInsert x [.int i, d] M Q = onC M x fun a xs => (xs.length < sizeLine ∧ 0 ≤ i ∧ i < 2 ^ 63) ∧ Q .non (mset M a (.lst (xs.take i.toNat ++ [d] ++ xs.drop i.toNat))) := rfl
theorem q_sp1 {f : D → Mem → DVK → DXK → Prop} {a : D} : sp1 f [a] M Q E = f a M Q E := rfl
theorem q_sp2 {f : D → D → Mem → DVK → DXK → Prop} {a b : D} : sp2 f [a, b] M Q E = f a b M Q E := rfl
theorem q_sp3 {f : D → D → D → Mem → DVK → DXK → Prop} {a b c : D} : sp3 f [a, b, c] M Q E = f a b c M Q E := rfl
theorem q_sp4 {f : D → D → D → D → Mem → DVK → DXK → Prop} {a b c d : D} : sp4 f [a, b, c, d] M Q E = f a b c d M Q E := rfl
theorem q_at0 {α : Type} {a : α} {l : List α} : (a :: l)[0]? = some a := rfl
theorem q_atS {α : Type} {a : α} {l : List α} {i : Nat} : (a :: l)[i + 1]? = l[i]? := rfl
theorem q_st0 {α : Type} {a b : α} {l : List α} : (a :: l).set 0 b = b :: l := rfl
theorem q_stS {α : Type} {a b : α} {l : List α} {i : Nat} : (a :: l).set (i + 1) b = a :: l.set i b := rfl
theorem q_iteT {A B : Prop} : (if true = true then A else B) = A := if_pos rfl
theorem q_iteF {A B : Prop} : (if false = true then A else B) = B := if_neg Bool.false_ne_true
end
end DL

namespace DL
open PySem PySem.Spec L2
class DatD (α : Type) [DecidableEq α] extends PySem.W.Datum α where
  d : α → D
  vw : ∀ M a, Vw M (d a) (toD a)
  lay : ∀ a, (toD a).canLay0 = true
instance : DatD Int where
  d := .int
  vw _ a := .int a
  lay _ := rfl
instance : DatD Bool where
  d := .bl
  vw _ a := .bl a
  lay _ := rfl
section
variable {α β : Type} [DecidableEq α] [DatD α] [DecidableEq β] [DatD β] {M : Mem} {Q : DVK}
theorem vws_map (M : Mem) : ∀ xs : List α, Vws M (xs.map DatD.d) (xs.map PySem.W.Datum.toD)
  | [] => .nil
  | x :: xs => .cons (DatD.vw M x) (vws_map M xs)
theorem lay_map : ∀ xs : List α, PyData.canLayAll0 (xs.map PySem.W.Datum.toD) = true
  | [] => rfl
  | x :: xs => by
    rw [List.map_cons]
    unfold PyData.canLayAll0
    rw [DatD.lay x, lay_map xs]
    rfl
instance : DatD (List α) where
  d xs := .lst (xs.map DatD.d)
  vw M xs := .lst (vws_map M xs)
  lay xs := by
    show PyData.canLay0 (.list (xs.map PySem.W.Datum.toD)) = true
    unfold PyData.canLay0
    exact lay_map xs
instance : DatD (PySem.W.Tup α) where
  d xs := .tup (xs.items.map DatD.d)
  vw M xs := .tup (vws_map M xs.items)
  lay xs := by
    show PyData.canLay0 (.tuple (xs.items.map PySem.W.Datum.toD)) = true
    unfold PyData.canLay0
    exact lay_map xs.items
instance : DatD (α × β) where
  d p := .tup [DatD.d p.1, DatD.d p.2]
  vw M p := .tup (.cons (DatD.vw M p.1) (.cons (DatD.vw M p.2) .nil))
  lay p := by
    show PyData.canLay0 (.tuple [PySem.W.Datum.toD p.1, PySem.W.Datum.toD p.2]) = true
    unfold PyData.canLay0 PyData.canLayAll0 PyData.canLayAll0 PyData.canLayAll0
    rw [DatD.lay p.1, DatD.lay p.2]
    rfl
end
section
variable {ok : Mem → Prop} {dg : DG} {tt : DT} {te : DE} {ρw : Dv} {M : Mem} {Q : List D → Mem → Prop}
theorem lc_map {α : Type} (v : α → D) (f : α → D) (ho : ok M) (xs : List α) (h : ∀ x ∈ xs, ∀ k : D → Mem → Prop, k (f x) M → dg (v x) ρw M fun ρ1 M1 => tt E0 ρ1 M1 fun b M2 => b = true ∧ te E0 ρ1 M2 k)
    (mono : ∀ d ρ M (Q Q' : Dv → Mem → Prop), (∀ ρ M, Q ρ M → Q' ρ M) → dg d ρ M Q → dg d ρ M Q') (hy : tt = gYes) (hl : xs.length < sizeLine) (q : Q (xs.map f) M) : lcD ok dg tt te ρw (xs.map v) [] M Q := by
  subst hy
  refine lc_still v (fun x => some (f x)) ho xs [] (fun x hx N acc hz hN => ?_) (by simpa using hl) (by simpa using q)
  have := h x hx (fun y M3 => acc.length < sizeLine ∧ N (acc ++ [y]) M3) ⟨hz, by simpa using hN⟩
  exact mono _ _ _ _ _ (fun ρ1 M1 z => (by
    obtain ⟨z1, z2⟩ := z
    show if true = true then te E0 ρ1 M1 (fun y M3 => acc.length < sizeLine ∧ N (acc ++ [y]) M3) else N acc M1
    rw [if_pos rfl]
    exact z2)) this
end
theorem sz : sizeLine = 16777216 := sizeLine_eq
theorem rgD_get {lo : Int} {n i : Nat} {d : D} (h : (rgD lo n)[i]? = some d) : i < n ∧ d = .int (lo + (i : Nat)) := by
  unfold rgD at h
  rw [List.getElem?_map] at h
  by_cases hx : i < n
  · rw [List.getElem?_range hx] at h
    cases h
    exact ⟨hx, rfl⟩
  · rw [List.getElem?_eq_none (by simpa using hx)] at h
    cases h
theorem rgD_len {lo : Int} {n : Nat} : (rgD lo n).length = n := by unfold rgD; simp
section
variable {ok : Mem → Prop} {dg : DG} {gb : DS} {E : DEnds} {ρ : Dv} {M : Mem}
theorem loop_rg {lo : Int} {n i : Nat} (P : Nat → Dv → Mem → Prop) (hs : ∀ x ρ M, x < n → P x ρ M → ∀ Nx : Dv → Mem → Prop, (∀ ρ M, P (x + 1) ρ M → Nx ρ M) → gb { E with nx := Nx, ct := Nx, bk := E.nx } (ρ.set i (some (.int (lo + (x : Nat))))) M)
    (hd : ∀ ρ M, P n ρ M → E.nx ρ M) (h0 : P 0 ρ M) : loopD (fun _ => True) (dName i) gb E (rgD lo n) ρ M := by
  refine loop_inv P (fun _ _ _ _ _ => trivial) (fun x ρ M d h p => ?_) dName_mono (fun ρ M p => hd ρ M (by rw [rgD_len] at p; exact p)) h0
  obtain ⟨hx, rfl⟩ := rgD_get h
  exact hs x ρ M hx p
theorem loop_rg0 {n i : Nat} (P : Nat → Dv → Mem → Prop) (hs : ∀ (x : Nat) ρ M, x < n → P x ρ M → ∀ Nx : Dv → Mem → Prop, (∀ ρ M, P (x + 1) ρ M → Nx ρ M) → gb { E with nx := Nx, ct := Nx, bk := E.nx } (ρ.set i (some (.int (x : Nat)))) M)
    (hd : ∀ ρ M, P n ρ M → E.nx ρ M) (h0 : P 0 ρ M) : loopD (fun _ => True) (dName i) gb E (rgD 0 n) ρ M :=
  loop_rg P (fun x ρ M hx p Nx hN => by
    have := hs x ρ M hx p Nx hN
    rw [show (0 : Int) + (x : Nat) = (x : Nat) by omega]
    exact this) hd h0
theorem loop_map {α : Type} {i : Nat} (v : α → D) (xs : List α) (P : Nat → Dv → Mem → Prop) (hok : ∀ i ρ M, i ≤ xs.length → P i ρ M → ok M) (hs : ∀ k x ρ M, xs[k]? = some x → P k ρ M → ∀ Nx : Dv → Mem → Prop, (∀ ρ M, P (k + 1) ρ M → Nx ρ M) → gb { E with nx := Nx, ct := Nx, bk := E.nx } (ρ.set i (some (v x))) M)
    (hd : ∀ ρ M, P xs.length ρ M → E.nx ρ M) (h0 : P 0 ρ M) : loopD ok (dName i) gb E (xs.map v) ρ M := by
  refine loop_inv P (fun i ρ M h => hok i ρ M (by simpa using h)) (fun k ρ M d h p => ?_) dName_mono (fun ρ M p => hd ρ M (by simpa using p)) h0
  rw [List.getElem?_map] at h
  cases z : xs[k]? with
  | none => rw [z] at h; cases h
  | some x =>
    rw [z] at h
    cases h
    exact hs k x ρ M z p
theorem lc_inv {tt : DT} {te : DE} {ρw : Dv} {Q : List D → Mem → Prop} {items : List D} (P : Nat → List D → Mem → Prop) (hok : ∀ i acc M, i ≤ items.length → P i acc M → ok M)
    (hs : ∀ i acc M d, items[i]? = some d → P i acc M → ∀ N : List D → Mem → Prop, (∀ acc M, P (i + 1) acc M → N acc M) → dg d ρw M fun ρ1 M1 => tt E0 ρ1 M1 fun b M2 => if b = true then te E0 ρ1 M2 fun y M3 => acc.length < sizeLine ∧ N (acc ++ [y]) M3 else N acc M2)
    (hd : ∀ acc M, P items.length acc M → Q acc M) {acc : List D} {M : Mem} (h0 : P 0 acc M) : lcD ok dg tt te ρw items acc M Q := by
  have key : ∀ k i acc M, i + k = items.length → P i acc M → lcD ok dg tt te ρw (items.drop i) acc M Q := by
    intro k
    induction k with
    | zero =>
      intro i acc M e p
      have z : i = items.length := by omega
      subst z
      rw [List.drop_length]
      unfold lcD
      exact ⟨hok _ _ _ (Nat.le_refl _) p, hd _ _ p⟩
    | succ k ih =>
      intro i acc M e p
      have hlt : i < items.length := by omega
      rw [List.drop_eq_getElem_cons hlt]
      unfold lcD
      exact ⟨hok _ _ _ (by omega) p, hs i acc M _ (by simp [hlt]) p (fun acc M => lcD ok dg tt te ρw (items.drop (i + 1)) acc M Q) fun acc M p2 => ih (i + 1) acc M (by omega) p2⟩
  have := key items.length 0 acc M (by omega) h0
  simpa using this
end
structure TabAt (M0 M : Mem) (ps : List Addr) (rows : List (List D)) : Prop where
  len : ps.length = rows.length
  nd : ps.Nodup
  new : ∀ p ∈ ps, M0 p = none
  at_ : ∀ (i : Nat) (p : Addr) (r : List D), ps[i]? = some p → rows[i]? = some r → M p = some (.lst r)
  out : ∀ b, b ∉ ps → M b = M0 b
section
variable {M0 M : Mem} {ps : List Addr} {rows : List (List D)} {p : Addr} {r : List D}
theorem TabAt.nil : TabAt M0 M0 [] [] := ⟨rfl, List.nodup_nil, by simp, by simp, fun _ _ => rfl⟩
theorem TabAt.up (t : TabAt M0 M ps rows) : MemUp M0 M := fun a o h => by
  rw [t.out a fun z => by rw [t.new a z] at h; cases h]; exact h
theorem TabAt.push (t : TabAt M0 M ps rows) (hp : M p = none) : TabAt M0 (mset M p (.lst r)) (ps ++ [p]) (rows ++ [r]) := by
  have hn : p ∉ ps := fun z => by
    obtain ⟨i, hi, e⟩ := List.getElem_of_mem z
    have := t.at_ i p (rows[i]'(by rw [← t.len]; exact hi)) (by rw [List.getElem?_eq_getElem hi, e]) (List.getElem?_eq_getElem _)
    rw [hp] at this; cases this
  have h0 : M0 p = none := by rw [← t.out p hn]; exact hp
  refine ⟨by simp [t.len], ?_, ?_, fun i q r' h1 h2 => ?_, fun b hb => ?_⟩
  · rw [List.nodup_append]
    exact ⟨t.nd, by simp, fun a ha b hb => by rw [List.mem_singleton.mp hb]; exact fun z => hn (by rw [← z]; exact ha)⟩
  · intro q hq
    rcases List.mem_append.mp hq with z | z
    · exact t.new q z
    · rw [List.mem_singleton.mp z]; exact h0
  · by_cases hi : i < ps.length
    · rw [List.getElem?_append_left hi] at h1
      rw [List.getElem?_append_left (by rw [← t.len]; exact hi)] at h2
      rw [mset_ne fun z => hn (by rw [← z]; exact List.mem_of_getElem? h1)]
      exact t.at_ i q r' h1 h2
    · rw [List.getElem?_append_right (by omega)] at h1
      rw [List.getElem?_append_right (by rw [← t.len]; omega)] at h2
      rw [← t.len] at h2
      cases z : i - ps.length with
      | zero => rw [z] at h1 h2; cases h1; cases h2; exact mset_same
      | succ k => rw [z] at h1; cases h1
  · have hb1 : b ∉ ps := fun z => hb (by simp [z])
    have hb2 : b ≠ p := fun z => hb (by simp [z])
    rw [mset_ne hb2]; exact t.out b hb1
theorem nd_inj {l : List Addr} (h : l.Nodup) {i j : Nat} (hi : i < l.length) (hj : j < l.length) (e : l[i] = l[j]) : i = j := by
  have p := List.pairwise_iff_getElem.mp h
  rcases Nat.lt_trichotomy i j with z | z | z
  · exact absurd e (p i j hi hj z)
  · exact z
  · exact absurd e.symm (p j i hj hi z)
theorem TabAt.set {i : Nat} (t : TabAt M0 M ps rows) (hp : ps[i]? = some p) : TabAt M0 (mset M p (.lst r)) ps (rows.set i r) := by
  refine ⟨by simp [t.len], t.nd, t.new, fun j q r' h1 h2 => ?_, fun b hb => ?_⟩
  · by_cases e : i = j
    · subst e
      rw [h1] at hp
      cases hp
      have hi : i < rows.length := by rw [← t.len]; exact (List.getElem?_eq_some_iff.mp h1).1
      rw [List.getElem?_set_self hi] at h2
      cases h2
      exact mset_same
    · rw [List.getElem?_set_ne e] at h2
      have : q ≠ p := fun z => by
        subst z
        obtain ⟨h3, h4⟩ := List.getElem?_eq_some_iff.mp h1
        obtain ⟨h5, h6⟩ := List.getElem?_eq_some_iff.mp hp
        exact e (nd_inj t.nd h5 h3 (h6.trans h4.symm))
      rw [mset_ne this]
      exact t.at_ j q r' h1 h2
  · have : b ≠ p := fun z => hb (by rw [z]; exact List.mem_of_getElem? hp)
    rw [mset_ne this]; exact t.out b hb
theorem TabAt.row {i : Nat} (t : TabAt M0 M ps rows) (hi : i < rows.length) : M (ps[i]'(by rw [t.len]; exact hi)) = some (.lst rows[i]) := t.at_ i _ _ (List.getElem?_eq_getElem _) (List.getElem?_eq_getElem _)
end
theorem TabAt.under {M0 M : Mem} {ps : List Addr} {rows : List (List D)} {p : Addr} {o : MO} (t : TabAt M0 M ps rows) (h : p ∉ ps) : TabAt (mset M0 p o) (mset M p o) ps rows := by
  refine ⟨t.len, t.nd, fun q hq => ?_, fun i q r h1 h2 => ?_, fun b hb => ?_⟩
  · rw [mset_ne fun z => h (by rw [← z]; exact hq)]; exact t.new q hq
  · rw [mset_ne fun z => h (by rw [← z]; exact List.mem_of_getElem? h1)]; exact t.at_ i q r h1 h2
  · by_cases z : b = p
    · rw [z, mset_same, mset_same]
    · rw [mset_ne z, mset_ne z]; exact t.out b hb
theorem TabAt.keep {M0 M : Mem} {ps : List Addr} {rows : List (List D)} {p : Addr} {o : MO} (t : TabAt M0 M ps rows) (h : M0 p = some o) : M p = some o := t.up p o h
def rowR (n : Nat) (f : Nat → Int) : List D := (List.range n).map fun b => D.int (f b)
theorem ixN_nat {n i : Nat} (h : i < n) : ixN n ((i : Nat) : Int) = some i := by
  unfold ixN
  rw [if_pos (by omega), if_pos (by omega)]
  simp
theorem atI_nat {α : Type} {xs : List α} {i : Nat} (h : i < xs.length) : atI xs ((i : Nat) : Int) = some xs[i] := by
  unfold atI
  rw [ixN_nat h]
  simp [h]
def tabR (n : Nat) (T : Nat → Nat → Int) : List (List D) := (List.range n).map fun a => rowR n (T a)
theorem tabR_len {n : Nat} {T : Nat → Nat → Int} : (tabR n T).length = n := by unfold tabR; simp
theorem tabR_get {n : Nat} {T : Nat → Nat → Int} {a : Nat} (h : a < n) : (tabR n T)[a]? = some (rowR n (T a)) := by unfold tabR; simp [h]
section
variable {M0 M : Mem} {ps : List Addr} {n : Nat} {T : Nat → Nat → Int}
theorem TabAt.cell {a : Nat} (t : TabAt M0 M ps (tabR n T)) (h : a < n) : ∃ p, ps[a]? = some p ∧ M p = some (.lst (rowR n (T a))) := by
  have hl : a < ps.length := by rw [t.len, tabR_len]; exact h
  exact ⟨ps[a], List.getElem?_eq_getElem hl, t.at_ a _ _ (List.getElem?_eq_getElem hl) (tabR_get h)⟩
end
end DL

namespace DLM
open PySem PySem.Spec PyProof.Rows L2
section
variable {X : Cx}
end
end DLM
namespace DL
open PySem PySem.Spec L2
section
variable {K : PySem.W.Frag} {X : Cx} {W : WX} {F : Addr → Prop} {H : Hp} {ρ : Dv} {M : Mem} {σ : L2.St} {a b c e o : Expr} {ga gb gc : DE} {pos : Pos}
end
section
variable {K : PySem.W.Frag} {X : Cx}
theorem Vws.get : ∀ {M : Mem} {ds : List D} {ps : List PyData}, Vws M ds ps → ds.length = ps.length
  | _, _, _, .nil => rfl
  | _, _, _, .cons _ t => by rw [List.length_cons, List.length_cons, Vws.get t]
end
section
variable {α : Type} [DecidableEq α] [DatD α] {M : Mem} {Q : DVK}
end
section
variable {K : PySem.W.Frag} {X : Cx}
def dIsB (f : Bool → Bool) : DR2
  | .bl a, .bl b, M, Q => Q (.bl (f (decide (a = b)))) M
  | _, _, _, _ => False
theorem q_isB {f : Bool → Bool} {a b : Bool} {M : Mem} {Q : DVK} : dIsB f (.bl a) (.bl b) M Q = Q (.bl (f (decide (a = b)))) M := rfl
end
section
variable {K : PySem.W.Frag} {X : Cx} {W : WX} {F : Addr → Prop} {H : Hp} {M : Mem} {a b : Expr}
def zipD (xs ys : List D) : List D := (xs.zip ys).map fun p => .tup [p.1, p.2]
end
end DL

namespace DL
open PySem PySem.Spec L2
mutual
def toP : D → PyData
  | .non => .none
  | .bl b => .bool b
  | .int i => .int i
  | .str x => .str x
  | .tup xs => .tuple (toPs xs)
  | .lst xs => .list (toPs xs)
  | .scr _ => .none
  | .ty _ => .none
  | .ref _ => .none
  | .obj _ _ => .none
  | .xo _ _ _ => .none
  | .sob _ _ => .none
def toPs : List D → List PyData
  | [] => []
  | x :: xs => toP x :: toPs xs
end
def plainN : Nat → D → Bool
  | _, .non => true
  | _, .bl _ => true
  | _, .int _ => true
  | _, .str x => PyData.strOk x
  | n + 1, .tup xs => xs.all (plainN n)
  | n + 1, .lst xs => xs.all (plainN n)
  | _, _ => false
theorem vws_toP {M : Mem} : ∀ {ds : List D}, (∀ d ∈ ds, Vw M d (toP d)) → Vws M ds (toPs ds)
  | [], _ => by unfold toPs; exact .nil
  | d :: ds, h => by
    unfold toPs
    exact .cons (h d (by simp)) (vws_toP fun x hx => h x (List.mem_cons_of_mem _ hx))
theorem vw_toP {M : Mem} : ∀ (n : Nat) {d : D}, plainN n d = true → Vw M d (toP d)
  | n, .non, _ => by unfold toP; exact .non
  | n, .bl b, _ => by unfold toP; exact .bl b
  | n, .int b, _ => by unfold toP; exact .int b
  | n, .str b, _ => by unfold toP; exact .str b
  | n + 1, .tup xs, h => by
    unfold toP
    have h' : ∀ d ∈ xs, plainN n d = true := List.all_eq_true.mp h
    exact .tup (vws_toP fun d hd => vw_toP n (h' d hd))
  | n + 1, .lst xs, h => by
    unfold toP
    have h' : ∀ d ∈ xs, plainN n d = true := List.all_eq_true.mp h
    exact .lst (vws_toP fun d hd => vw_toP n (h' d hd))
  | 0, .tup _, h => by simp [plainN] at h
  | 0, .lst _, h => by simp [plainN] at h
  | n, .scr _, h => by cases n <;> simp [plainN] at h
  | n, .ty _, h => by cases n <;> simp [plainN] at h
  | n, .ref _, h => by cases n <;> simp [plainN] at h
  | n, .obj _ _, h => by cases n <;> simp [plainN] at h
  | n, .xo _ _ _, h => by cases n <;> simp [plainN] at h
  | n, .sob _ _, h => by cases n <;> simp [plainN] at h
theorem lays_toP {n : Nat} : ∀ {ds : List D}, (∀ d ∈ ds, (toP d).canLay0 = true ∧ (toP d).depth ≤ n) → PyData.canLayAll0 (toPs ds) = true ∧ PyData.depthAll (toPs ds) ≤ n
  | [], _ => by unfold toPs; simp [PyData.canLayAll0, PyData.depthAll]
  | d :: ds, h => by
    have ih := lays_toP (n := n) (ds := ds) fun x hx => h x (List.mem_cons_of_mem _ hx)
    have h1 := h d (by simp)
    unfold toPs
    simp only [PyData.canLayAll0, PyData.depthAll, h1.1, ih.1, Bool.and_self, true_and]
    have a := h1.2
    have b := ih.2
    omega
theorem lay_toP : ∀ (n : Nat) {d : D}, plainN n d = true → (toP d).canLay0 = true ∧ (toP d).depth ≤ n
  | n, .non, _ => by unfold toP; simp [PyData.canLay0, PyData.depth]
  | n, .bl b, _ => by unfold toP; simp [PyData.canLay0, PyData.depth]
  | n, .int b, _ => by unfold toP; simp [PyData.canLay0, PyData.depth]
  | n, .str b, h => by unfold plainN at h; unfold toP; simp [PyData.canLay0, PyData.depth, h]
  | n + 1, .tup xs, h => by
    unfold toP
    have h' : ∀ d ∈ xs, plainN n d = true := List.all_eq_true.mp h
    have q := lays_toP (n := n) fun d hd => lay_toP n (h' d hd)
    simp only [PyData.canLay0, PyData.depth, q.1, true_and]
    have := q.2
    omega
  | n + 1, .lst xs, h => by
    unfold toP
    have h' : ∀ d ∈ xs, plainN n d = true := List.all_eq_true.mp h
    have q := lays_toP (n := n) fun d hd => lay_toP n (h' d hd)
    simp only [PyData.canLay0, PyData.depth, q.1, true_and]
    have := q.2
    omega
  | 0, .tup _, h => by simp [plainN] at h
  | 0, .lst _, h => by simp [plainN] at h
  | n, .scr _, h => by cases n <;> simp [plainN] at h
  | n, .ty _, h => by cases n <;> simp [plainN] at h
  | n, .ref _, h => by cases n <;> simp [plainN] at h
  | n, .obj _ _, h => by cases n <;> simp [plainN] at h
  | n, .xo _ _ _, h => by cases n <;> simp [plainN] at h
  | n, .sob _ _, h => by cases n <;> simp [plainN] at h
theorem shaped_toP {n : Nat} {d : D} (h : plainN n d = true) (hn : n ≤ 64) : SeqAt.shaped (toP d) = true := by
  have := lay_toP n h
  unfold SeqAt.shaped
  rw [this.1]
  simp
  omega
section
variable {M : Mem} {Q : DVK} {f : Bool → Bool}
theorem eq_view {x y : D} {p : PyData} (hx : Vw M x p) (hy : Vw M y p) (hs : SeqAt.shaped p = true) (q : Q (.bl (f true)) M) : dEqG f x y M Q := by
  unfold dEqG
  have e := SeqAt.eqv_refl p (SeqAt.canLay_of_shaped hs)
  cases hx <;> cases hy <;> first
    | exact ⟨_, _, by assumption, by assumption, hs, hs, by rw [e]; exact q⟩
    | (simp only [eqS, decide_true]; exact q)
    | exact ⟨_, _, .tup (by assumption), .tup (by assumption), hs, hs, by rw [e]; exact q⟩
    | exact ⟨_, _, .lst (by assumption), .lst (by assumption), hs, hs, by rw [e]; exact q⟩
    | exact ⟨_, _, .ref (by assumption) (by assumption), .lst (by assumption), hs, hs, by rw [e]; exact q⟩
    | exact ⟨_, _, .lst (by assumption), .ref (by assumption) (by assumption), hs, hs, by rw [e]; exact q⟩
    | exact ⟨_, _, .ref (by assumption) (by assumption), .ref (by assumption) (by assumption), hs, hs, by rw [e]; exact q⟩
theorem eq_self {x y : D} (e : x = y) (h : plainN 9 y = true) (q : Q (.bl (f true)) M) : dEqG f x y M Q := by
  subst e
  exact eq_view (vw_toP 9 h) (vw_toP 9 h) (shaped_toP h (by decide)) q
end
section
variable {α : Type} [DecidableEq α] [DatD α] {M : Mem} {Q : DVK}
end
end DL

namespace DL
open PySem PySem.Spec PyProof.Rows L2
section
variable {K : PySem.W.Frag} {X : Cx}
def dAll : DRs := fun ds M Q => match ds with
  | [x] => onL M x fun xs => ∃ bs : List Bool, xs = bs.map D.bl ∧ Q (.bl (bs.all id)) M
  | _ => False
def dAny : DRs := fun ds M Q => match ds with
  | [x] => onL M x fun xs => ∃ bs : List Bool, xs = bs.map D.bl ∧ Q (.bl (bs.any id)) M
  | _ => False
end
def spV (n : Nat) (sp : SpD) : SpD := fun ds M Q E => n ≤ ds.length ∧ ds.length ≤ sizeLine ∧ sp (ds.take n ++ [.tup (ds.drop n)]) M Q E
section
variable {K : PySem.W.Frag} {X : Cx} {W : WX} {e : Expr} {pos : Pos}
end
section
variable {P : Program} {w : World} {K : PySem.W.Frag} {mg : Str → Option Value} {base : Heap}
theorem Rps.split {F : Addr → Prop} {H : Hp} {ds : List D} {vs : List V} (h : Rps K F H ds vs) (n : Nat) : Rps K F H (ds.take n) (vs.take n) ∧ Rps K F H (ds.drop n) (vs.drop n) := ⟨h.take n, h.drop n⟩
end
end DL

set_option maxHeartbeats 4000000
namespace DL
open PySem PySem.Spec PyProof.Rows L2
section
variable {X : Cx}
end
section
variable {K : PySem.W.Frag} {X : Cx}
def dRepT : DR2 := fun x y M Q => match x, y with
  | .tup xs, .int k => (xs ≠ [] ∧ -(2 ^ 63) ≤ k ∧ k ≤ 1000 ∧ xs.length ≤ 1000) ∧ Q (.tup (List.replicate k.toNat xs).flatten) M
  | _, _ => False
theorem OpR.two {f : Value → Value → Sem Value} {r1 r2 r3 : R2} (h1 : OpR X f r1) (h2 : OpR X f r2) (h3 : OpR X f r3) : OpR X f (fun x y H Q => r1 x y H Q ∨ r2 x y H Q ∨ r3 x y H Q) := by
  intro pins s σ H x y v u Q I rx ry h
  rcases h with h | h | h
  · exact h1 pins s σ H x y v u Q I rx ry h
  · exact h2 pins s σ H x y v u Q I rx ry h
  · exact h3 pins s σ H x y v u Q I rx ry h
end
def dSumS : DRs := fun ds M Q => match ds with
  | [x] => onS M x fun xs => ∃ ns : List Int, xs = ns.map D.int ∧ Q (.int ns.sum) M
  | _ => False
theorem q_sumS {x : D} {M : Mem} {Q : DVK} : dSumS [x] M Q = onS M x fun xs => ∃ ns : List Int, xs = ns.map D.int ∧ Q (.int ns.sum) M := rfl
theorem q_all {x : D} {M : Mem} {Q : DVK} : dAll [x] M Q = onL M x fun xs => ∃ bs : List Bool, xs = bs.map D.bl ∧ Q (.bl (bs.all id)) M := rfl
theorem q_any {x : D} {M : Mem} {Q : DVK} : dAny [x] M Q = onL M x fun xs => ∃ bs : List Bool, xs = bs.map D.bl ∧ Q (.bl (bs.any id)) M := rfl
theorem q_repT {xs : List D} {k : Int} {M : Mem} {Q : DVK} : dRepT (.tup xs) (.int k) M Q = ((xs ≠ [] ∧ -(2 ^ 63) ≤ k ∧ k ≤ 1000 ∧ xs.length ≤ 1000) ∧ Q (.tup (List.replicate k.toNat xs).flatten) M) := rfl
theorem q_spV {n : Nat} {sp : SpD} {ds : List D} {M : Mem} {Q : DVK} {E : DXK} : spV n sp ds M Q E = (n ≤ ds.length ∧ ds.length ≤ sizeLine ∧ sp (ds.take n ++ [.tup (ds.drop n)]) M Q E) := rfl
end DL

set_option maxHeartbeats 2000000
namespace DLX
open PySem PySem.Spec PyProof.Rows L2
theorem block_lets {X : Cx} {W : WX} {C : Addr} {ce : Env} {u : Value} {s1 : Shared} (tk : Takes X W) (fr : X.stack = X.env :: X.outer) (fl : X.env.frame = some X.env.locals) (hce : ce.frame = X.env.frame) (hC : ce.locals = C)
    (hfp : ∀ H : Hp, H C = none → FpOk X [] H C) (hx : XE X (fun c d σ H => W c d σ H ∧ H C = none) u s1) (hn : ∃ m, s1.heap.Ns C m) :
    notedBy (model X.prog X.w) X.A ce (CompFails (model X.prog X.w) X.A X.xe ce) u s1 := by
  obtain ⟨a, B, sI, pins, σ, H, cls, d, rfl, I, nb, up, sky, na, os, ag, w, hHC⟩ := hx
  obtain ⟨m, hn⟩ := hn
  have ffr : X.A.frames = some (X.env :: X.outer) := by rw [← fr]; exact I.ok.frames
  show wpAny (model X.prog X.w) X.A (noteFrame (.ref a) ce) _ _ s1
  rw [noteFrame_env _ hce]
  have goal : ∀ h1 : Heap, HandSPX.HeldZ B X.stack a (Zc cls d) X.env.locals h1 → s1.heap.UpToSlots h1 → CompFails (model X.prog X.w) X.A X.xe ce (.ref a) { s1 with heap := h1 } := by
    intro h1 hh up1
    have hn1 : h1.Ns C m := hn.upToSlots up1
    refine ⟨m, by rw [hC]; exact hn1, fun h2 m2 hn2 sb => ?_⟩
    rw [hC] at hn2 sb
    have sb2 : ∀ b, b ≠ C → h2.get? b = h1.get? b := sb.2
    obtain ⟨st1, bn, ff1, oe, vs, T, oT, ts, he, hz, hd, hT1, hnT, hTe, hT, hdT, h3⟩ := hh
    obtain ⟨oC, es, ep, hoC, hdC, _⟩ := id hn1
    have neq : ∀ {b : Addr} {o : Obj} {fs : Array Value}, h1.get? b = some o → o.data = .fields fs → b ≠ C := fun hb hf z => by
      rw [z, hoC] at hb
      cases hb
      rw [hdC] at hf
      cases hf
    have aC := neq he hd
    have TC := neq hT hdT
    obtain ⟨G, g1, g2⟩ := restrict B fun b => decide (b ≠ C)
    obtain ⟨GI, i1, i2⟩ := restrict sI.heap fun b => decide (b ≠ C)
    have gC : G.get? C = none := g2 C (by simp)
    have iC : GI.get? C = none := i2 C (by simp)
    have gB : ∀ b, b ≠ C → G.get? b = B.get? b := fun b hb => g1 b (by simpa using hb)
    have iB : ∀ b, b ≠ C → GI.get? b = sI.heap.get? b := fun b hb => i1 b (by simpa using hb)
    have gne : ∀ {b : Addr} {o : Obj}, G.get? b = some o → b ≠ C ∧ B.get? b = some o := fun {b o} hb => by
      have z : b ≠ C := fun z => by rw [z, gC] at hb; cases hb
      exact ⟨z, by rw [← gB b z]; exact hb⟩
    have ine : ∀ {b : Addr} {o : Obj}, GI.get? b = some o → b ≠ C ∧ sI.heap.get? b = some o := fun {b o} hb => by
      have z : b ≠ C := fun z => by rw [z, iC] at hb; cases hb
      exact ⟨z, by rw [← iB b z]; exact hb⟩
    have ff2 : h2.FunFrames G X.stack := by
      have q : h2.FunFrames B X.stack := Heap.FunFrames.sameBut sb hn2 ff1
      refine funFrames_none q fun L hL => ?_
      cases z : G.get? L with
      | none => rfl
      | some o =>
        have y := (q.mem hL).1
        rw [(gne z).2] at y
        cases y
    have held2 : HandSPX.HeldZ G X.stack a (Zc cls d) X.env.locals h2 := by
      refine ⟨fun b o hb => ?_, by rw [gB a aC]; exact bn, ff2, oe, vs, T, oT, ts, by rw [sb2 a aC]; exact he, hz, hd, hT1, by rw [gB T TC]; exact hnT, hTe, by rw [sb2 T TC]; exact hT, hdT, h3⟩
      obtain ⟨z1, z2⟩ := gne hb
      rw [sb2 b z1]
      exact st1 b o z2
    have he2 : h2.get? a = some oe := by rw [sb2 a aC]; exact he
    unfold PySem.passOn
    refine wpAny_bind (wpAny_field he2 hd hT1 ?_)
    have tb : ¬ ((Value.ref T == Value.none) = true) := by simp
    rw [if_neg tb, hce, fl]
    refine wpAny_bind (HandSPX.setFlight_onZ held2 fun hE k3 up3 => wpAny_throw ?_)
    have I1 : Inv X [] σ H sI := I.pins_of fun p hp => nomatch hp
    obtain ⟨f0, f1, f2, f3, f4, f5⟩ := hfp H hHC
    have I2 : Inv X [] σ H { sI with heap := GI, toks := sI.toks } := I1.turned (t' := sI.toks) (fun b o hb e => (iB b hb).trans e) f0 f1 f3 f4 f5
    refine tk _ _ ⟨a, G, { sI with heap := GI, toks := sI.toks }, [], σ, H, cls, d, rfl, I2, fun b o hb hs => ?_, fun b o hb hnf => ?_, .inr (.inr k3), na, os, ag, w⟩
    · obtain ⟨z1, z2⟩ := ine hb
      rw [gB b z1]
      exact nb b o z2 hs
    · obtain ⟨z1, z2⟩ := ine hb
      obtain ⟨s2, y2⟩ := up b o z2 hnf
      obtain ⟨s3, y3⟩ := up1 b _ y2 hnf
      have y4 : h2.get? b = some { o with slots := s3 } := by rw [sb2 b z1]; exact y3
      have up4 : h2.UpToSlots hE := up3
      obtain ⟨sl, y5⟩ := up4 b _ y4 hnf
      exact ⟨sl, y5⟩
  rcases sky with ⟨k1, k2, k3, oe, vs, k4, k5, k6, k7⟩ | k | k
  · rw [fr] at k3
    exact HandSPX.look_newZ Zc.steady ffr k3 fl k4 k1 k2 k6 k7 k5 fun h1 hh up1 => goal h1 (by rw [fr]; exact hh) up1
  · rw [fr] at k
    exact HandSPX.looks_onZ Zc.steady ffr fl k fun h1 hh up1 => goal h1 (by rw [fr]; exact hh) up1
  · exact HandSPX.againZ fl k.2.2.2 (goal s1.heap k (Heap.UpToSlots.refl _))
theorem ends_err {M : Model} {A : Around} {E : Value → Shared → Prop} {use : Option (Value → Sem Unit)} {Q : Value → Shared → Prop} {acc : Value} {ce : Env} {x : Value} {s : Shared} (h : CompFails M A E ce x s) : compEnds M A E use Q acc ce (.error x) s := by
  cases use <;> exact h
abbrev CallsMay (X : Cx) (W : WX) (σ : L2.St) (Y : Cx) : Prop := ∀ σ1 : L2.St, PassesAt (L2.CX X.prog X.w) Y σ1 fun cls d H => W cls d σ H
theorem calls_may {X : Cx} {W : WX} {pins : List (Addr × Obj)} {σ : L2.St} {H0 : Hp} {s0 : Shared} {ce : Env} {scope : Scope} {fp : List Addr} {R : Value → Shared → Prop} (tk : Takes X W) (fr : X.stack = X.env :: X.outer) (fl : X.env.frame = some X.env.locals)
    (hce : ce.frame = X.env.frame) (hC : ce.locals = s0.heap.objs.size) (I0 : Inv X pins σ H0 s0) (hfp : ∀ b ∈ fp, FpOk X pins H0 b)
    (hR : ∀ u s1, notedBy (model X.prog X.w) X.A ce (CompFails (model X.prog X.w) X.A X.xe ce) u s1 → R u s1) : CallsMay X W σ ((X.blk s0 H0 scope ce fp).wish R) := by
  intro σ1 pins1 H1 s1 u s2 I1 c
  have J : Inv X pins σ H1 s1 := I0.call' (ch := fp) I1.os I1.base I1.hok I1.bare fun b hb => by
    obtain ⟨_, k1, _, k3, k4, k5⟩ := hfp b hb
    exact ⟨k3, k1, k4, k5⟩
  have big : s0.heap.objs.size ≤ s0.heap.objs.size := Nat.le_refl _
  have HC : H1 s0.heap.objs.size = none := by
    have z : H1 ce.locals = none := I1.free
    rwa [hC] at z
  obtain ⟨m, hm, _⟩ := I1.loc
  have hm1 : s1.heap.Ns s0.heap.objs.size m := by
    have z : s1.heap.Ns ce.locals m := hm
    rwa [hC] at z
  obtain ⟨oC, es, ep, hoC, hdC⟩ := id hm1
  have I0e : Inv X [] σ H0 s0 := I0.pins_of fun p hp => nomatch hp
  have nost : s0.heap.objs.size ∉ frs X.stack := by
    obtain ⟨_, k1, k2, _⟩ := I0e.fpOk (H' := H1) big HC
    rw [fr]
    intro z
    unfold frs at z
    rw [List.filterMap_cons, fl] at z
    rcases List.mem_cons.mp z with y | y
    · exact k1 y
    · exact k2 y
  obtain ⟨a, B, H2, cls, d, ea, f1, hok, ub, na, os, ag, he⟩ := c
  have inB : B.get? s0.heap.objs.size = some oC := ub.keep _ _ hoC HC nost
  have in2 : s2.heap.get? s0.heap.objs.size = some oC := f1.1 _ _ inB
  have H2C : H2 s0.heap.objs.size = none := ub.free _ _ hoC HC
  have c2 : L2.CX X.prog X.w X.stack H1 s1 (fun cls d H => W cls d σ H ∧ H s0.heap.objs.size = none) u s2 := ⟨a, B, H2, cls, d, ea, f1, hok, ub, na, os, ag, he, H2C⟩
  refine hR _ _ (block_lets tk fr fl hce hC (fun H h => I0e.fpOk big h) (XE.of_call J (fun _ _ _ h => h) c2) ⟨m, ?_⟩)
  exact ⟨oC, es, ep, in2, hdC⟩
section
variable {X : Cx} {W : WX}
theorem lcX_core {pins : List (Addr × Obj)} {s : Shared} {σ : L2.St} {H : Hp} {Q : VK} {elt tg iter : Expr} {ifs : List Expr} {scope : Scope} {own : List (Str × Nat)} {pos pos' : Pos} {wi : TI} {g : TG} {tt : TT} {te : TE} {use : Option (Value → Sem Unit)} {Qf : Value → Shared → Prop}
    (tk : Takes X W) (fr : X.stack = X.env :: X.outer) (fl : X.env.frame = some X.env.locals) (hc : X.calm = true) (hN : X.N.Nodup) (I : Inv X pins σ H s) (hi : PI X tg iter wi) (ok : BlkOk X.N X.env.scope scope own)
    (hg : ∀ (s : Shared) (H : Hp) (C : Addr) (cl : List (Str × Addr)) (fp : List Addr), PG (X.blk s H scope (compEnvC scope cl C X.env) fp) tg g)
    (ht : ∀ (s : Shared) (H : Hp) (C : Addr) (cl : List (Str × Addr)) (fp : List Addr), PTs (X.blk s H scope (compEnvC scope cl C X.env) fp) ifs tt)
    (he : ∀ (s : Shared) (H : Hp) (C : Addr) (cl : List (Str × Addr)) (fp : List Addr) (R : Value → Shared → Prop), CallsMay X W σ ((X.blk s H scope (compEnvC scope cl C X.env) fp).wish R) → PE ((X.blk s H scope (compEnvC scope cl C X.env) fp).wish R) elt te)
    (hs : ∀ x, foldedSetIterable iter X.env x = pure x) (h : tLc wi g tt te (own.map (·.2)) σ H Q)
    (hEnd : ∀ D C ce s' m H', Inv X pins σ H' s' → Q (.ref D) H' → s'.heap.Ns C m → FpOk X pins H' C → ce.locals = C → compEnds (model X.prog X.w) X.A X.xe use Qf (.ref D) ce (.ok .next) s') :
    wpAny (model X.prog X.w) X.A (comprehension (.ListComp elt [⟨tg, iter, ifs, 0⟩] scope pos) scope X.env pos' (newList []) false (eval iter X.env) use) Qf X.xe s := by
  have cells : ∀ y ∈ scope.names, y.2 = .free → ∃ c, X.env.cells.lookup y.1 = some c := fun y hy e => I.ok.has _ (ok.free y hy e)
  refine comprehension_at (use := use) rfl hs (closure_ok cells) ok.kind (fun y hy e => (ok.uniq y hy).trans (by rw [e])) ?_
  refine thn (hi.run pins s σ H _ I h) fun xv s1 hx => thn hx fun itv s2 h2 => ?_
  obtain ⟨it, fp, tn, J, H2, rfl, I2, T, st2, f2, q⟩ := h2
  refine wpAny_newObj_type (newEnv_comp ?_) (by show 0 ≤ sizeLine; exact Nat.zero_le _)
  generalize hD : s2.heap.objs.size = D
  have HD : H2 D = none := I2.hok.fresh (Nat.le_of_eq hD)
  obtain ⟨Wv, ⟨m0, w0⟩, turn⟩ := q D HD
  generalize e3 : ({ s2 with heap := s2.heap.push { cls := .type "list", data := .seq ([] : List Value).toArray } } : Shared) = s3
  have hp3 : s3.heap = s2.heap.push { cls := .type "list", data := .seq ([] : List Value).toArray } := by rw [← e3]
  have I3 : Inv X pins σ (upd H2 D (.lst [])) s3 := by
    subst e3
    refine I2.laid (t' := s2.toks) (fun b o e => Heap.get?_push_of_some _ e) (Nat.le_of_eq hD) ⟨Nat.zero_le _, [], 0, .nil, ?_⟩
    subst hD
    exact Heap.get?_push_size _ rfl
  have small : ∀ b ∈ fp, b < s2.heap.objs.size := fun b hb => by
    obtain ⟨o, e, _⟩ := T.obj _ _ st2 b hb
    exact Heap.lt_size e
  have f3 : ∀ b ∈ fp, FpOk X pins (upd H2 D (.lst [])) b ∧ b < s3.heap.objs.size := fun b hb => by
    have lt := small b hb
    have nD : b ≠ D := by rw [← hD]; exact Nat.ne_of_lt lt
    exact ⟨⟨(upd_ne nD).trans (f2 b hb).1, (f2 b hb).2⟩, by rw [hp3, Heap.size_push]; exact Nat.lt_succ_of_lt lt⟩
  have st3 : tn 0 s3.heap := T.keep _ _ _ st2 fun b _ o e => by rw [hp3]; exact Heap.get?_push_of_some _ e
  have I4 := block_start I3 ok hN f3
  have pg := hg s3 (upd H2 D (.lst [])) s3.heap.objs.size (cellsFrom (s3.heap.objs.size + 1) scope.names (cloFrom X.env.cells scope.names [])) fp
  have pt := ht s3 (upd H2 D (.lst [])) s3.heap.objs.size (cellsFrom (s3.heap.objs.size + 1) scope.names (cloFrom X.env.cells scope.names [])) fp
  have pe0 := he s3 (upd H2 D (.lst [])) s3.heap.objs.size (cellsFrom (s3.heap.objs.size + 1) scope.names (cloFrom X.env.cells scope.names [])) fp
  generalize ece : compEnvC scope (cellsFrom (s3.heap.objs.size + 1) scope.names (cloFrom X.env.cells scope.names [])) s3.heap.objs.size X.env = ce at I4 pg pt pe0
  have cL : ce.locals = s3.heap.objs.size := by subst ece; rfl
  have cF : ce.frame = X.env.frame := by subst ece; rfl
  show codeAny _ _ (.compStart (.ListComp elt [⟨tg, iter, ifs, 0⟩] scope pos) 0 (.ref it) (.ref D) (compEnvC scope (cellsFrom (s3.heap.objs.size + 1) scope.names (cloFrom X.env.cells scope.names [])) s3.heap.objs.size X.env))
    (compEnds (model X.prog X.w) X.A X.xe use Qf (.ref D) (compEnvC scope (cellsFrom (s3.heap.objs.size + 1) scope.names (cloFrom X.env.cells scope.names [])) s3.heap.objs.size X.env)) { s3 with heap := pushCells (s3.heap.push { cls := .type "dict", data := .dict #[] }) scope.names }
  rw [ece]
  have clear : ∀ b ∈ fp, (upd H2 D (.lst [])) b = none := fun b hb => (f3 b hb).1.1
  generalize hH3 : upd H2 D (.lst []) = H3 at I3 I4 pg pt pe0 w0 clear f3
  have pe := pe0 _ (calls_may tk fr fl cF cL I3 (fun b hb => (f3 b hb).1) (R := notedBy (model X.prog X.w) X.A ce fun e s' => compEnds (model X.prog X.w) X.A X.xe use Qf (.ref D) ce (.error e) s') fun u s1 z => wpAny_mono z (fun _ _ y => ends_err y) fun _ _ y => ends_err y)
  generalize e4 : ({ s3 with heap := pushCells (s3.heap.push { cls := .type "dict", data := .dict #[] }) scope.names } : Shared) = s4 at I4 ⊢
  have st4 : tn 0 s4.heap := T.keep _ _ _ st3 fun b _ o e => by subst e4; exact pushCells_keeps _ _ _ _ (Heap.get?_push_of_some _ e)
  have foot : ∀ {σ' : L2.St} {H' : Hp} {s' : Shared}, Inv (X.blk s3 H3 scope ce fp) [] σ' H' s' → (∀ b ∈ fp, H' b = none) → ∀ b ∈ fp, FpOk (X.blk s3 H3 scope ce fp) [] H' b := fun {σ' H' s'} I' hn b hb =>
    ⟨hn b hb, (I'.ok.exf b hb).1, I'.ok.exfs b hb, .inl hb, (I'.ok.exf b hb).2, fun p hp => nomatch hp⟩
  have loop : codeAny (model X.prog X.w) X.A (.compLoop (.ListComp elt [⟨tg, iter, ifs, 0⟩] scope pos) 0 (.ref it) (.ref D) ce) (compEnds (model X.prog X.w) X.A X.xe use Qf (.ref D) ce) s4 := by
    refine compLoop_any (fun n s' => ∃ i H', Inv (X.blk s3 H3 scope ce fp) [] (wipe σ (own.map (·.2))) H' s' ∧ tn i s'.heap ∧ (∀ b ∈ fp, H' b = none) ∧ Wv i n H') ?_ m0 ⟨0, H3, I4, st4, clear, w0⟩
    rintro n s5 ⟨i, H5, I5, st5, n5, w5⟩
    rcases turn i n H5 w5 with ⟨stop, qq⟩ | ⟨go, Nx, hNx, step⟩
    · have td := T.done (X.blk s3 H3 scope ce fp) rfl rfl rfl hc i [] s5 _ H5 (fun _ _ => False) I5 (foot I5 n5) st5 stop
      refine thnF td fun r s6 ⟨hr, I6⟩ => ?_
      subst hr
      have I7 : Inv X pins σ H5 s6 := I3.call' (ch := fp) I6.os I6.base I6.hok I6.bare fun b hb => by
        obtain ⟨_, k1, _, k3, k4, k5⟩ := (f3 b hb).1
        exact ⟨k3, k1, k4, k5⟩
      have nC : H5 s3.heap.objs.size = none := by
        have z : H5 ce.locals = none := I6.free
        rwa [cL] at z
      obtain ⟨m, hm, _⟩ := I6.loc
      have hm : s6.heap.Ns ce.locals m := hm
      rw [cL] at hm
      exact hEnd D _ ce s6 m H5 I7 qq hm (I3.fpOk (Nat.le_refl _) nC) cL
    · have ti := T.item (X.blk s3 H3 scope ce fp) rfl rfl rfl hc i [] s5 _ H5 (fun _ _ => False) I5 (foot I5 n5) st5 go
      refine thnF ti fun r s6 ⟨u, hr, h6⟩ => ?_
      subst hr
      refine thnF h6 fun _ s7 ⟨x, H7, I7, r7, y7, st7, n7⟩ => ?_
      have I7' := I7.pinned (foot I7 n7) (T.obj _ _ st7)
      refine thnF (pg.run _ s7 _ H7 x u _ I7' r7 (step x H7 y7)) fun _ s8 ⟨σ8, H8, I8, hw8, q8⟩ => ?_
      refine thnF (pt.run _ s8 σ8 H8 _ I8 q8) fun b s9 ⟨H9, I9, q9⟩ => ?_
      have fin : ∀ {s' : Shared} {H' : Hp}, Inv (X.blk s3 H3 scope ce fp) ([] ++ pinsAt fp s7.heap) σ8 H' s' → Nx H' → ∃ m, m < n ∧ ∃ i H', Inv (X.blk s3 H3 scope ce fp) [] (wipe σ (own.map (·.2))) H' s' ∧ tn i s'.heap ∧ (∀ b ∈ fp, H' b = none) ∧ Wv i m H' := fun {s' H'} I' nx => by
        obtain ⟨m', hm, w'⟩ := hNx H' nx
        have held : ∀ b ∈ fp, ∀ o, s7.heap.get? b = some o → s'.heap.get? b = some o ∧ H' b = none := fun b hb o e => by
          have z := I'.pin (b, o) (List.mem_append_right _ (List.mem_append_right _ (mem_pinsAt hb e)))
          exact ⟨z.1, z.2.1⟩
        have len8 : (wipe σ (own.map (·.2))).length = σ8.length := by rw [← hw8]; exact wipe_length _ _
        refine ⟨m', hm, i + 1, H', (I'.unpinned (pins := [])).weak len8 (fun j v e => by rw [← hw8] at e; exact (wipe_some e).1), T.keep _ _ _ st7 fun b hb o e => (held b hb o e).1, fun b hb => ?_, w'⟩
        obtain ⟨o, e, _⟩ := T.obj _ _ st7 b hb
        exact (held b hb o e).2
      cases b with
      | false =>
        simp only [Bool.false_eq_true, if_false] at q9 ⊢
        exact fin I9 q9
      | true =>
        simp only [if_true] at q9 ⊢
        refine wpAny_mono (pe.run _ s9 σ8 H9 _ (I9.wish _) q9) (fun z s10 hz => ?_) fun _ _ hz => hz
        obtain ⟨yv, H10, I10, r10, acc, hD10, hz10, nx⟩ := hz
        exact app_ok (X := X.blk s3 H3 scope ce fp) I10.unwish hD10 hz10 r10 fun s11 I11 => fin I11 nx
  exact codeAny_compStart_list loop (T.self X.A 0 _ _ _ st4 loop)
end
section
variable {X : Cx} {W : WX} {elt tg iter : Expr} {ifs : List Expr} {scope : Scope} {own : List (Str × Nat)} {pos spos py : Pos} {wi : TI} {g : TG} {tt : TT} {te : L2.St → TE}
theorem pe_lcX (tk : Takes X W) (fr : X.stack = X.env :: X.outer) (fl : X.env.frame = some X.env.locals) (hc : X.calm = true) (hN : X.N.Nodup) (hi : PI X tg iter wi) (ok : BlkOk X.N X.env.scope scope own)
    (hg : ∀ (s : Shared) (H : Hp) (C : Addr) (cl : List (Str × Addr)) (fp : List Addr), PG (X.blk s H scope (compEnvC scope cl C X.env) fp) tg g)
    (ht : ∀ (s : Shared) (H : Hp) (C : Addr) (cl : List (Str × Addr)) (fp : List Addr), PTs (X.blk s H scope (compEnvC scope cl C X.env) fp) ifs tt)
    (he : ∀ (σ : L2.St) (s : Shared) (H : Hp) (C : Addr) (cl : List (Str × Addr)) (fp : List Addr) (R : Value → Shared → Prop), CallsMay X W σ ((X.blk s H scope (compEnvC scope cl C X.env) fp).wish R) → PE ((X.blk s H scope (compEnvC scope cl C X.env) fp).wish R) elt (te σ))
    (hs : ∀ x, foldedSetIterable iter X.env x = pure x) : PE X (.ListComp elt [⟨tg, iter, ifs, 0⟩] scope pos) (fun σ => tLc wi g tt (te σ) (own.map (·.2)) σ) := by
  refine ⟨fun pins s σ H Q I hq => ?_⟩
  rw [eval_ListComp]
  refine lcX_core tk fr fl hc hN I hi ok hg ht (he σ) hs hq fun D C ce s2 m H2 I2 q hn ff hC => ?_
  subst hC
  obtain ⟨g0, g1, g2, g3, g4, g5⟩ := ff
  exact ⟨m, hn, fun h3 sb => ⟨.ref D, H2, I2.turned (t' := s2.toks) (fun b o hb e => (sb.2 b hb).trans e) g0 g1 g3 g4 g5, rfl, q⟩⟩
end
end DLX
namespace DL
open PySem PySem.Spec L2 DLX
section
variable {K : PySem.W.Frag} {X : Cx} {W : WX} {F : Addr → Prop} {H : Hp} {ρ : Dv} {M : Mem} {σ : L2.St}
abbrev Wb (W : WX) (σ : L2.St) : WX := fun cls d _ H => W cls d σ H
def nLcX (gi : DI) (dg : DG) (tt : DT) (te : DE) (vs : List Nat) : DN := fun E ρ M Q => gi E ρ M fun src M1 => lcD src.ok dg tt (fun _ => te E) (wipeD ρ vs) src.items [] M1 Q
theorem lc_loopX {J : It} {src : Src} {vs ws : List Nat} {dg : DG} {tt : DT} {te : DE} {F1 : Addr → Prop} {H1 Hs : Hp} {M1 Ms : Mem} {Fs : Addr → Prop} {p : Addr} {ρw : Dv} {σw : L2.St} {acc0 : List D} {Q' : List D → Mem → Prop} {Qe : Hp → Prop} {E : DXK} {V : WX}
    (hx : ∀ F' H' M' σ', Ext F1 H1 M1 F' H' M' → XOk K F' H' M' E V σ') (so : SrcOk K Fs Hs J src) (hs : ∀ i ∈ vs, i ∈ ws) (hw : L2.wipe σw ws = σw) (hp : H1 p = none) (es : Ext F1 H1 M1 Fs Hs Ms) (env : EnvOk K Fs Hs ρw σw) (hl : ρw.length = σw.length) (sd : Side K Fs Hs Ms p acc0)
    (q : ∀ F' H' M' acc, Ext F1 H1 M1 F' H' M' → ExtW Fs Hs F' H' → Side K F' H' M' p acc → Q' acc M' → Qe H') (h : lcD src.ok dg tt (fun _ => te E) ρw src.items acc0 Ms Q') :
    ∃ Wv : Nat → Nat → Hp → Prop, (∃ m, Wv 0 m Hs) ∧ ∀ i m H, Wv i m H → (J.stop i H ∧ Qe H) ∨ (J.go i H ∧ ∃ Nx : Hp → Prop, (∀ H', Nx H' → ∃ m', m' < m ∧ Wv (i + 1) m' H') ∧
      ∀ x H', J.yld i H x H' → gG K vs dg x σw H' fun σ2 H2 => L2.wipe σ2 ws = σw ∧ tGt K W0 tt σ2 H2 fun b H3 =>
        if b = true then tG K V te σ2 H3 fun y H4 => ∃ acc, H4 p = some (.lst acc) ∧ acc.length < sizeLine ∧ Nx (upd H4 p (.lst (acc ++ [y]))) else Nx H3) := by
  refine ⟨fun i m H2 => ∃ F2 M2 acc, Ext F1 H1 M1 F2 H2 M2 ∧ ExtW Fs Hs F2 H2 ∧ Side K F2 H2 M2 p acc ∧ i ≤ src.items.length ∧ m = src.items.length - i ∧ lcD src.ok dg tt (fun _ => te E) ρw (src.items.drop i) acc M2 Q', ⟨src.items.length, Fs, Ms, acc0, es, ExtW.refl _ _, sd, Nat.zero_le _, rfl, h⟩, ?_⟩
  rintro i m H2 ⟨F2, M2, acc, e2, n2, s2, hl2, rfl, h2⟩
  by_cases hlt : i < src.items.length
  · rw [List.drop_eq_getElem_cons hlt] at h2
    unfold lcD at h2
    obtain ⟨o, h2⟩ := h2
    obtain ⟨go, yl⟩ := (so F2 H2 M2 n2 s2.mem o i).1 src.items[i] (by simp [hlt])
    refine .inr ⟨go, fun H3 => ∃ F3 M3 acc, Ext F1 H1 M1 F3 H3 M3 ∧ ExtW Fs Hs F3 H3 ∧ Side K F3 H3 M3 p acc ∧ lcD src.ok dg tt (fun _ => te E) ρw (src.items.drop (i + 1)) acc M3 Q', ?_, fun v H3 y => ?_⟩
    · rintro H3 ⟨F3, M3, acc3, e3, n3, s3, h3⟩
      exact ⟨src.items.length - (i + 1), by omega, F3, M3, acc3, e3, n3, s3, hlt, rfl, h3⟩
    · obtain ⟨F3, e3, m3, r3⟩ := yl v H3 y
      refine ⟨F3, ρw, M2, _, _, ⟨env.mono (n2.trans e3.toExtW), m3, hl⟩, r3, fun F4 H4 ρ4 M4 σ4 e4 s4 c4 h4 => ?_, h2⟩
      have e24 := e3.trans e4
      refine ⟨(c4.wipe hs).trans hw, F4, ρ4, M4, E0, _, s4, x0, fun F5 H5 M5 b e5 m5 h5 => ?_, h4⟩
      have e25 := e24.trans e5
      cases b with
      | false =>
        have h5' : lcD src.ok dg tt (fun _ => te E) ρw (src.items.drop (i + 1)) acc M5 Q' := h5
        exact iteF ⟨F5, M5, acc, e2.trans e25, n2.trans e25.toExtW, s2.next e25 m5, h5'⟩
      | true =>
        have h5' := (if_pos rfl).mp h5
        refine iteT (tG_mk (s4.next e5 m5) (hx _ _ _ _ (e2.trans e25)) (fun F6 H6 M6 d v6 e6 m6 r6 ⟨hz, h6⟩ => ?_) h5')
        have e26 := e25.trans e6
        obtain ⟨us, g1, g2, g3⟩ := (s2.next e26 m6).more r6
        exact ⟨us, g1, by rw [g2]; exact hz, F6, M6, acc ++ [d], (e2.trans e26).side hp, (n2.trans e26.toExtW).trans (ExtW.wr g1 (s2.next e26 m6).nF), g3, h6⟩
  · have z : i = src.items.length := by omega
    subst z
    rw [List.drop_length] at h2
    unfold lcD at h2
    exact .inl ⟨(so F2 H2 M2 n2 s2.mem h2.1 _).2 (Nat.le_refl _), q F2 H2 M2 acc e2 n2 s2 h2.2⟩
theorem lcX_im {gi : DI} {dg : DG} {tt : DT} {te : DE} {vs ws : List Nat} (hs : ∀ i ∈ vs, i ∈ ws) : ∀ σ H Q, tN K W (nLcX gi dg tt te ws) σ H Q → tLc (tGi K W gi) (gG K vs dg) (tGt K W0 tt) (tG K (Wb W σ) te) ws σ H Q := fun σ H Q ⟨F, ρ, M, E, Q', s, x, q, h⟩ => by
  refine ⟨F, ρ, M, E, _, s, x, fun F1 H1 M1 J src e1 m1 so h1 p hp => ?_, h⟩
  have s1 := s.next e1 m1
  have l1 : Ext F1 H1 M1 F1 (upd H1 p (.lst [])) M1 := Ext.laid hp fun _ z => z
  refine lc_loopX (E := E) (V := Wb W σ) (fun F' H' M' σ' e' => (x.next e1).next e') (fun F' H' M' e => so F' H' M' (l1.toExtW.trans e)) hs wipe_wipe hp l1 ((s1.env.mono l1).wipe ws) (by rw [wipeD_length, wipe_length]; exact s1.len) (Side.start m1 hp) (fun F2 H2 M2 acc e2 n2 s2 h2 => ?_) h1
  obtain ⟨us, g1, g2⟩ := s2.at_
  exact q F2 H2 M2 acc us p (e1.trans e2) s2.mem (e1.was hp) g1 s2.nF s2.nM g2 h2
variable {elt tg iter : Expr} {ifs : List Expr} {scope : Scope} {own : List (Str × Nat)} {pos : Pos} {gi : DI} {vs : List Nat} {dg : DG} {tt : DT} {te : DE}
theorem fn_lcX (tk : Takes X W) (hN : X.N.Nodup) (hi : FI K X W tg iter gi) (ok : BlkOk X.N X.env.scope scope own)
    (hg : ∀ (s : Shared) (H : Hp) (C : Addr) (cl : List (Str × Addr)) (fp : List Addr), FG K (X.blk s H scope (compEnvC scope cl C X.env) fp) tg vs dg) (ht : ∀ (s : Shared) (H : Hp) (C : Addr) (cl : List (Str × Addr)) (fp : List Addr), FTs K (X.blk s H scope (compEnvC scope cl C X.env) fp) W0 ifs tt)
    (he : ∀ (σ : L2.St) (s : Shared) (H : Hp) (C : Addr) (cl : List (Str × Addr)) (fp : List Addr) (R : Value → Shared → Prop), CallsMay X W σ ((X.blk s H scope (compEnvC scope cl C X.env) fp).wish R) → FE K ((X.blk s H scope (compEnvC scope cl C X.env) fp).wish R) (Wb W σ) elt te)
    (hv : ∀ i ∈ vs, i ∈ own.map (·.2) := by decide) (hc : X.calm = true := by rfl) (hs : ∀ x, foldedSetIterable iter X.env x = pure x := by intro _; rfl) (fr : X.stack = X.env :: X.outer := by rfl) (fl : X.env.frame = some X.env.locals := by rfl) :
    FN K X W (.ListComp elt [⟨tg, iter, ifs, 0⟩] scope pos) (nLcX gi dg tt te (own.map (·.2))) := PE.imp (pe_lcX tk fr fl hc hN hi ok hg ht he hs) (lcX_im hv)
theorem fe_callPO {Y : Cx} {V : WX} {k : Nat} {ps : List Str} {sp : SpD} {x : Str} {p : Pos} {e : Expr} {es : List Expr} {g : DA} (C : OkD Y.prog Y.w K Y.mg Y.base k x ps sp) (hr : Room k Y.A) (pa : ∀ σ1 : L2.St, PassesAt (L2.CX Y.prog Y.w) Y σ1 (WE V σ1)) (ha : FA K Y V (e :: es) g)
    (hK : Y.K = K := by rfl) (hg : Gl Y x := by rfl) (hdb : (x == ("__debug__" : Str)) = false := by decide) (he : starEach (e :: es) Y.env = (false, eval e Y.env) :: starEach es Y.env := by rfl) (hpl : (backTo pos (starEach es Y.env)).any (·.1) = false := by rfl) :
    FE K Y V (.Call (.Name x p) (e :: es) [] pos) (gCall sp g) := by
  obtain ⟨fd, Fd, b, kp, m, _⟩ := C
  subst hK
  exact PE.imp (pe_callS Fd hr hg m kp b pa ha hdb he hpl) call_im
theorem q_nLcX {gi : DI} {dg : DG} {tt : DT} {te : DE} {vs : List Nat} {E : DXK} {ρ : Dv} {M : Mem} {Q : List D → Mem → Prop} : nLcX gi dg tt te vs E ρ M Q = gi E ρ M (fun src M1 => lcD src.ok dg tt (fun _ => te E) (wipeD ρ vs) src.items [] M1 Q) := rfl
def sFz (i : Nat) (g : DS) : DS := fun E ρ M => ∃ d d' M2 S, ρ[i]? = some (some d) ∧ Fz M S d d' ∧ MemFz M M2 S ∧ g E (ρ.set i (some d')) M2
theorem q_sFz {i : Nat} {g : DS} {E : DEnds} {ρ : Dv} {M : Mem} : sFz i g E ρ M = (∃ d d' M2 S, ρ[i]? = some (some d) ∧ Fz M S d d' ∧ MemFz M M2 S ∧ g E (ρ.set i (some d')) M2) := rfl
end
end DL

namespace DL
open PySem PySem.Spec L2
def putD (f : Str) (d : D) : List (Str × D) → List (Str × D)
  | [] => [(f, d)]
  | (g, x) :: r => if g = f then (g, d) :: r else (g, x) :: putD f d r
section
variable {K : PySem.W.Frag} {F : Addr → Prop} {H : Hp}
theorem Rpf.put {f : Str} {d : D} {v : V} (hd : Rp K F H d v) : ∀ {ds : List (Str × D)} {vs : List (Str × V)}, Rpf K F H ds vs → Rpf K F H (putD f d ds) (putF f v vs)
  | [], vs, h => by
    unfold Rpf at h
    subst h
    exact Rpf.one hd
  | (g, x) :: ds, vs, h => by
    unfold Rpf at h
    obtain ⟨w, r, rfl, h1, h2⟩ := h
    unfold putD putF
    by_cases c : g = f
    · rw [if_pos c, if_pos c]
      unfold Rpf
      exact ⟨v, r, rfl, hd, h2⟩
    · rw [if_neg c, if_neg c]
      unfold Rpf
      exact ⟨w, _, rfl, h1, Rpf.put hd h2⟩
theorem Rpf.len : ∀ {ds : List (Str × D)} {vs : List (Str × V)}, Rpf K F H ds vs → ds.length = vs.length
  | [], vs, h => by unfold Rpf at h; subst h; rfl
  | d :: ds, vs, h => by
    unfold Rpf at h
    obtain ⟨v, r, rfl, h1, h2⟩ := h
    rw [List.length_cons, List.length_cons, Rpf.len h2]
theorem Rpf.none : ∀ {ds : List (Str × D)} {vs : List (Str × V)} {f : Str}, Rpf K F H ds vs → ds.lookup f = none → vs.lookup f = none
  | [], vs, f, h, e => by unfold Rpf at h; subst h; rfl
  | (g, d) :: ds, vs, f, h, e => by
    unfold Rpf at h
    obtain ⟨v, r, rfl, h1, h2⟩ := h
    rw [List.lookup] at e ⊢
    cases z : f == g with
    | true => rw [z] at e; cases e
    | false => rw [z] at e; exact Rpf.none h2 e
end
def InsD (M : Mem) (x : D) (C : Addr) (fs : List (Str × D)) : Prop := x = .obj C fs ∨ ∃ a, x = .ref a ∧ M a = some (.ins C fs)
theorem InsD.at_ {K : PySem.W.Frag} {F : Addr → Prop} {H : Hp} {M : Mem} {x : D} {C : Addr} {fs : List (Str × D)} {v : V} (h : InsD M x C fs) (m : MemOk K F H M) (r : Rp K F H x v) : ∃ a dx gs, v = .ref a ∧ H a = some (.ins C dx gs) ∧ Rpf K F H fs gs := by
  rcases h with rfl | ⟨a, rfl, hm⟩
  · unfold Rp at r
    obtain ⟨a, dx, gs, rfl, ha, _, rf⟩ := r
    exact ⟨a, dx, gs, rfl, ha, rf⟩
  · unfold Rp at r
    obtain ⟨dx, gs, ha, rf⟩ := (m.at_ a _ hm).2
    exact ⟨a, dx, gs, r, ha, rf⟩
def gFld (K : PySem.W.Frag) (f : Str) (g : DE) : DE := fun E ρ M Q => g E ρ M fun x M1 => ∃ C fs d, InsD M1 x C fs ∧ Cls K C ∧ NoAttr K C f ∧ fs.lookup f = some d ∧ Q d M1
def sFldD (K : PySem.W.Frag) (f : Str) (g go : DE) : DS := fun E ρ M => g (fun x M => E.ex x ρ M) ρ M fun v M1 => go (fun x M => E.ex x ρ M) ρ M1 fun o M2 => ∃ a C fs, o = .ref a ∧ M2 a = some (.ins C fs) ∧ Cls K C ∧ NoAttr K C f ∧ fs.length < 1000 ∧ E.nx ρ (mset M2 a (.ins C (putD f v fs)))
def mdel (M : Mem) (a : Addr) : Mem := fun b => if b = a then none else M b
def gMake (C : Addr) (sp : SpD) (g : DA) : DE := fun E ρ M Q => g E ρ M fun ds M1 => ∀ x, M1 x = none → sp (.ref x :: ds) (mset M1 x (.ins C [])) (fun v M2 => v = .non ∧ ∃ fs, M2 x = some (.ins C fs) ∧ Q (.obj C fs) (mdel M2 x)) E
def gCallI (C : Addr) (sp : SpD) (gf : DE) (g : DA) : DE := fun E ρ M Q => gf E ρ M fun y M1 => (∃ fs, InsD M1 y C fs) ∧ g E ρ M1 fun ds M2 => (∃ fs, InsD M2 y C fs) ∧ sp (y :: ds) M2 Q E
def gMeth (C : Addr) (m : Str) (sp : SpD) (gf : DE) (g : DA) : DE := fun E ρ M Q => gf E ρ M fun y M1 => (∃ fs, InsD M1 y C fs ∧ fs.lookup m = none) ∧ g E ρ M1 fun ds M2 => sp (y :: ds) M2 Q E
section
variable {K : PySem.W.Frag} {X : Cx} {W : WX} {e o : Expr} {ga gb : DE} {pos : Pos}
theorem Ext.made {F : Addr → Prop} {H : Hp} {M : Mem} {C x dx : Addr} (m : MemOk K F H M) (hx : H x = none) (hd : H dx = none) (n : dx ≠ x) : Ext F H M F (upd (upd H dx (.own x)) x (.ins C dx [])) (mset M x (.ins C [])) ∧ MemOk K F (upd (upd H dx (.own x)) x (.ins C dx [])) (mset M x (.ins C [])) := by
  have e1 : Ext F H M F (upd H dx (.own x)) M := Ext.laid hd fun _ z => z
  have m1 := m.aside hd (.own x)
  have hx1 : (upd H dx (.own x)) x = none := by rw [upd_ne (Ne.symm n)]; exact hx
  have e2 : Ext F (upd H dx (.own x)) M F (upd (upd H dx (.own x)) x (.ins C dx [])) M := Ext.laid hx1 fun _ z => z
  have m2 := m1.aside hx1 (.ins C dx [])
  have fr := m1.fresh hx1
  exact ⟨(e1.trans e2).cell (.inr hx), m2.add fr.1 ⟨dx, [], upd_same, Rpf.nil⟩⟩
end
end DL

namespace DL
open PySem PySem.Spec L2 PyProof.Rows
section
variable {prog : Program} {w : World} {A : Around} {E : Value → Shared → Prop} {s : Shared}
end
section
variable {K : PySem.W.Frag} {X : Cx} {W : WX} {e : Expr} {ga : DE}
def gRev (g : DE) : DE := fun E ρ M Q => g E ρ M fun x M1 => match x with
  | .tup ds => Q (.tup ds.reverse) M1
  | x => onL M1 x fun ds => Q (.lst ds.reverse) M1
end
section
variable {K : PySem.W.Frag} {E : DXK} {E2 : DEnds} {ρ : Dv} {M : Mem} {Q : DVK} {f m : Str} {C : Addr} {sp : SpD} {g go gf : DE} {ga : DA} {ds : List D}
theorem q_gFld : gFld K f g E ρ M Q = g E ρ M (fun x M1 => ∃ C fs d, InsD M1 x C fs ∧ Cls K C ∧ NoAttr K C f ∧ fs.lookup f = some d ∧ Q d M1) := rfl
theorem q_sFldD : sFldD K f g go E2 ρ M = g (fun x M => E2.ex x ρ M) ρ M (fun v M1 => go (fun x M => E2.ex x ρ M) ρ M1 fun o M2 => ∃ a C fs, o = .ref a ∧ M2 a = some (.ins C fs) ∧ Cls K C ∧ NoAttr K C f ∧ fs.length < 1000 ∧ E2.nx ρ (mset M2 a (.ins C (putD f v fs)))) := rfl
theorem q_gMake : gMake C sp ga E ρ M Q = ga E ρ M (fun ds M1 => ∀ x, M1 x = none → sp (.ref x :: ds) (mset M1 x (.ins C [])) (fun v M2 => v = .non ∧ ∃ fs, M2 x = some (.ins C fs) ∧ Q (.obj C fs) (mdel M2 x)) E) := rfl
theorem q_gCallI : gCallI C sp gf ga E ρ M Q = gf E ρ M (fun y M1 => (∃ fs, InsD M1 y C fs) ∧ ga E ρ M1 fun ds M2 => (∃ fs, InsD M2 y C fs) ∧ sp (y :: ds) M2 Q E) := rfl
theorem q_gMeth : gMeth C m sp gf ga E ρ M Q = gf E ρ M (fun y M1 => (∃ fs, InsD M1 y C fs ∧ fs.lookup m = none) ∧ ga E ρ M1 fun ds M2 => sp (y :: ds) M2 Q E) := rfl
end
end DL

namespace DL
open PySem PySem.Spec L2 PyProof.Rows ItX
structure IsiC (K : PySem.W.Frag) (C : Addr) : Prop where
  cl : Cls K C
  ha : PySem.W.findIn K (.ref C) "__class__" = some (some (.builtin "object.__class__"))
  hn : PySem.W.specialIn K (.builtin "object.__class__") "__get__" = some (some (.builtin "getset_descriptor.__get__"))
  htk : PySem.W.takesIn K (.builtin "object.__class__") = some true
  hm : PySem.W.mroIn K C (.type "object") = some true
def dIsO (K : PySem.W.Frag) : DRs := fun ds M Q => match ds with
  | [x, .ref C] => (∃ k b, kdOf M x = some k ∧ PySem.W.kitOne K (.type k.name) (.ref C) = some b ∧ Q (.bl b) M) ∨ ∃ C' fs b, InsD M x C' fs ∧ IsiC K C' ∧ PySem.W.kitOne K (.ref C') (.ref C) = some b ∧ Q (.bl b) M
  | _ => False
section
variable {K : PySem.W.Frag} {X : Cx} {W : WX} {e o : Expr} {ga gb : DE} {pos : Pos}
end
section
variable {X : Cx} {tg e : Expr} {te : TE}
end
def iOwnF (C : Addr) (f : Str) (g : DE) : DI := fun E ρ M R => g E ρ M fun x M1 => ∃ fs ds, InsD M1 x C fs ∧ fs.lookup f = some (.tup ds) ∧ R ⟨ds, fun _ => True⟩ M1
section
variable {K : PySem.W.Frag} {X : Cx} {W : WX} {tg e : Expr} {ga : DE}
end
section
variable {K : PySem.W.Frag} {E : DXK} {ρ : Dv} {M : Mem} {Q : DVK} {R : Src → Mem → Prop} {C : Addr} {f : Str} {g : DE} {x : D}
theorem q_iOwnF : iOwnF C f g E ρ M R = g E ρ M (fun x M1 => ∃ fs ds, InsD M1 x C fs ∧ fs.lookup f = some (.tup ds) ∧ R ⟨ds, fun _ => True⟩ M1) := rfl
theorem q_isO : dIsO K [x, .ref C] M Q = ((∃ k b, kdOf M x = some k ∧ PySem.W.kitOne K (.type k.name) (.ref C) = some b ∧ Q (.bl b) M) ∨ ∃ C' fs b, InsD M x C' fs ∧ IsiC K C' ∧ PySem.W.kitOne K (.ref C') (.ref C) = some b ∧ Q (.bl b) M) := rfl
end
end DL

namespace DL
open PySem PySem.Spec L2 PyProof.Rows
section
variable {prog : Program} {w : World} {A : Around} {E : Value → Shared → Prop} {s : Shared} {K : PySem.W.Frag} {x C f : Addr} {ox : Obj} {od : Option Obj}
end
section
variable {X : Cx} {C g : Addr} {k : Nat} {sp : Sp}
end
def dLenO (C : Addr) (sp : SpD) : DRs := fun ds M Q => match ds with
  | [x] => (∃ fs, InsD M x C fs) ∧ sp [x] M (fun z M' => ∃ i : Int, z = .int i ∧ 0 ≤ i ∧ i < 2 ^ 63 ∧ Q (.int i) M') (fun _ _ => False)
  | _ => False
def dModN : DR2 := dI (fun _ j => j ≠ 0) fun i j => .int (i.fmod j)
def dDivmod : DRs := fun ds M Q => match ds with
  | [.int i, .int j] => CDivP i j ∧ Q (.tup [.int (i / j), .int (i % j)]) M
  | _ => False
def gIxI (C : Addr) (sp : SpD) (gf gi : DE) : DE := fun E ρ M Q => gf E ρ M fun y M1 => gi E ρ M1 fun i M2 => (∃ fs, InsD M2 y C fs) ∧ sp [y, i] M2 Q E
section
variable {K : PySem.W.Frag} {X : Cx} {W : WX} {a b : Expr} {ga gb : DE} {pos : Pos}
end
section
variable {K : PySem.W.Frag} {E : DXK} {ρ : Dv} {M : Mem} {Q : DVK} {C : Addr} {sp : SpD} {gf gi : DE} {x : D} {i j : Int}
theorem q_gIxI : gIxI C sp gf gi E ρ M Q = gf E ρ M (fun y M1 => gi E ρ M1 fun i M2 => (∃ fs, InsD M2 y C fs) ∧ sp [y, i] M2 Q E) := rfl
theorem q_lenO : dLenO C sp [x] M Q = ((∃ fs, InsD M x C fs) ∧ sp [x] M (fun z M' => ∃ i : Int, z = .int i ∧ 0 ≤ i ∧ i < 2 ^ 63 ∧ Q (.int i) M') (fun _ _ => False)) := rfl
theorem q_modN : dModN (.int i) (.int j) M Q = (j ≠ 0 ∧ Q (.int (i.fmod j)) M) := rfl
theorem q_divmod : dDivmod [.int i, .int j] M Q = (CDivP i j ∧ Q (.tup [.int (i / j), .int (i % j)]) M) := rfl
end
end DL

namespace DL
open PySem PySem.Spec L2 PyProof.Rows
def gSMeth (sp : SpD) (g : DA) : DE := fun E ρ M Q => g E ρ M fun ds M1 => sp ds M1 Q E
section
variable {K : PySem.W.Frag} {X : Cx} {W : WX} {e : Expr} {pos : Pos}
end
section
variable {E : DXK} {ρ : Dv} {M : Mem} {Q : DVK} {sp : SpD} {g : DA}
theorem q_gSMeth : gSMeth sp g E ρ M Q = g E ρ M (fun ds M1 => sp ds M1 Q E) := rfl
end
structure SaysY (fa : List He.Fa) (fn : List He.DefD) (fs : List He5.DefA) (ex : PySem.W.Frag → Bool) (w : World) (K : PySem.W.Frag) : Prop where
  t : He.SaysT fa fn [] w K
  more : ex K = true
  oks : (fs.all fun d => d.ok K) = true
  vals : (fs.map fun d => He5.fnA K (d.at_ K)) = fs.map He5.DefA.val
theorem SaysY.def_ {fa : List He.Fa} {fn : List He.DefD} {fs : List He5.DefA} {ex : PySem.W.Frag → Bool} {w : World} {K : PySem.W.Frag} (c : SaysY fa fn fs ex w K) (i : Nat) {d : He5.DefA} (h : fs[i]? = some d := by rfl) : ∃ fd, L2.FunD K d.name d.qual d.params d.body d.scope (d.dvs K) (d.kws K) (d.at_ K) fd := by
  have e2 : (fs.map fun d => He5.fnA K (d.at_ K))[i]? = (fs.map He5.DefA.val)[i]? := by rw [c.vals]
  rw [List.getElem?_map, List.getElem?_map, h] at e2
  exact He5.DefA.funD (Option.some.inj e2) (List.all_eq_true.mp c.oks d (List.mem_of_getElem? h))
end DL

namespace L2
open PySem PySem.Spec PyProof.Rows
section
variable {X : Cx} {pos : Pos}
end
end L2
namespace DL
open PySem PySem.Spec L2 PyProof.Rows
section
variable {K : PySem.W.Frag} {X : Cx} {W : WX} {pos : Pos}
def dTupA (n : Nat) (gs : DGs) : DG := fun d ρ M Q => match d with
  | .tup ds => ds.length = n ∧ gs ds ρ M Q
  | d => onL M d fun ds => ds.length = n ∧ gs ds ρ M Q
end
section
variable {ρ : Dv} {M : Mem} {QE : Dv → Mem → Prop} {gs : DGs}
theorem q_dtupA {k : Nat} {ds : List D} : dTupA k gs (.tup ds) ρ M QE = (ds.length = k ∧ gs ds ρ M QE) := rfl
theorem q_dtupAL {k : Nat} {ds : List D} : dTupA k gs (.lst ds) ρ M QE = (ds.length = k ∧ gs ds ρ M QE) := rfl
end
def revQ (x : D) (M : Mem) (Q : DVK) : Prop := match x with
  | .tup ds => Q (.tup ds.reverse) M
  | x => onL M x fun ds => Q (.lst ds.reverse) M
theorem q_gRevD {g : DE} {E : DXK} {ρ : Dv} {M : Mem} {Q : DVK} : gRev g E ρ M Q = g E ρ M fun x M1 => revQ x M1 Q := rfl
theorem q_revT {ds : List D} {M : Mem} {Q : DVK} : revQ (.tup ds) M Q = Q (.tup ds.reverse) M := rfl
theorem q_revL {ds : List D} {M : Mem} {Q : DVK} : revQ (.lst ds) M Q = Q (.lst ds.reverse) M := rfl
end DL

namespace DL
open PySem PySem.Spec L2 PyProof.Rows
section
variable {X : Cx} {C g : Addr} {k : Nat} {sp : Sp}
end
def dEqO (C : Addr) (sp : SpD) : DR2 := fun x y M Q => (∃ fs, InsD M x C fs) ∧ (∃ gs, InsD M y C gs) ∧ sp [x, y] M Q (fun _ _ => False)
section
variable {K : PySem.W.Frag} {X : Cx} {W : WX} {pos : Pos}
end
def gCallKw (n m : Nat) (sp : SpD) (g gk : DA) : DE := fun E ρ M Q => g E ρ M fun ds M1 => gk E ρ M1 fun zs M2 => ds.length = n ∧ zs.length = m ∧ sp (ds ++ zs) M2 Q E
section
variable {K : PySem.W.Frag} {X : Cx} {W : WX} {pos : Pos} {ga : DE} {e : Expr}
theorem PK.imp {kws : List Keyword} {t t' : TA} (h : PK X kws t) (i : ∀ σ H Q, t' σ H Q → t σ H Q) : PK X kws t' := ⟨fun pos pins s σ H Q I q => h.run pos pins s σ H Q I (i σ H Q q)⟩
end
section
variable {E : DXK} {ρ : Dv} {M : Mem} {Q : DVK} {sp : SpD} {g gk : DA} {n m : Nat} {C : Addr} {x y : D}
theorem q_gCallKw : gCallKw n m sp g gk E ρ M Q = g E ρ M (fun ds M1 => gk E ρ M1 fun zs M2 => ds.length = n ∧ zs.length = m ∧ sp (ds ++ zs) M2 Q E) := rfl
theorem q_eqO : dEqO C sp x y M Q = ((∃ fs, InsD M x C fs) ∧ (∃ gs, InsD M y C gs) ∧ sp [x, y] M Q (fun _ _ => False)) := rfl
end
end DL

namespace DL
open PySem PySem.Spec L2 PyProof.Rows
def gCallVS (n : Nat) (sp : SpD) (g : DE) : DE := fun E ρ M Q => g E ρ M fun x M1 => onS M1 x fun xs => spV n sp xs M1 Q E
section
variable {K : PySem.W.Frag} {X : Cx} {W : WX} {e : Expr} {pos : Pos}
theorem q_gCallVS {n : Nat} {sp : SpD} {g : DE} {E : DXK} {ρ : Dv} {M : Mem} {Q : DVK} : gCallVS n sp g E ρ M Q = g E ρ M fun x M1 => onS M1 x fun xs => spV n sp xs M1 Q E := rfl
end
end DL

namespace DL
open PySem PySem.Spec L2 PyProof.Rows
def gOpO (C : Addr) (sp : SpD) (ga gb : DE) : DE := fun E ρ M Q => ga E ρ M fun x M1 => gb E ρ M1 fun y M2 => (∃ fs, InsD M2 x C fs) ∧ (∃ gs, InsD M2 y C gs) ∧ sp [x, y] M2 Q E
def gUnO (C : Addr) (sp : SpD) (ga : DE) : DE := fun E ρ M Q => ga E ρ M fun x M1 => (∃ fs, InsD M1 x C fs) ∧ sp [x] M1 Q E
section
variable {K : PySem.W.Frag} {X : Cx} {W : WX} {a b : Expr} {ga gb : DE} {pos : Pos}
theorem q_gOpO {C : Addr} {sp : SpD} {E : DXK} {ρ : Dv} {M : Mem} {Q : DVK} : gOpO C sp ga gb E ρ M Q = ga E ρ M fun x M1 => gb E ρ M1 fun y M2 => (∃ fs, InsD M2 x C fs) ∧ (∃ gs, InsD M2 y C gs) ∧ sp [x, y] M2 Q E := rfl
theorem q_gUnO {C : Addr} {sp : SpD} {E : DXK} {ρ : Dv} {M : Mem} {Q : DVK} : gUnO C sp ga E ρ M Q = ga E ρ M fun x M1 => (∃ fs, InsD M1 x C fs) ∧ sp [x] M1 Q E := rfl
end
end DL

namespace DL
open PySem PySem.Spec PyProof.Rows L2 RZ
def ItB (b : Bool) (h : Heap) (it l : Addr) (i : Nat) : Prop := if b then h.IsTupleIter it l i else h.IsListIter it l i
def SqB (K : PySem.W.Frag) (b : Bool) (H : Hp) (a : Addr) (xs : List V) : Prop := if b then SqT K H a xs else SqL K H a xs
theorem ItB.obj {b : Bool} {h : Heap} {it l : Addr} {i : Nat} (x : ItB b h it l i) : ∃ o, h.get? it = some o ∧ ∃ fs, o.data = .fields fs := by
  cases b
  · obtain ⟨o, e, _, d⟩ := (x : h.IsListIter it l i); exact ⟨o, e, _, d⟩
  · obtain ⟨o, e, _, d⟩ := (x : h.IsTupleIter it l i); exact ⟨o, e, _, d⟩
theorem ItB.at {b : Bool} {h h' : Heap} {it l : Addr} {i : Nat} (x : ItB b h it l i) (k : ∀ o, h.get? it = some o → h'.get? it = some o) : ItB b h' it l i := by
  cases b
  · exact Heap.IsListIter.at (x : h.IsListIter it l i) k
  · exact Heap.IsTupleIter.at (x : h.IsTupleIter it l i) k
section
variable {K : PySem.W.Frag} {X : Cx} {W : WX} {a b : Expr}
end
end DL

namespace DL
open PySem PySem.Spec L2 PyProof.Rows
def gCMeth (C : Addr) (sp : SpD) (g : DA) : DE := fun E ρ M Q => g E ρ M fun ds M1 => sp (.ref C :: ds) M1 Q E
def gMakeV (C : Addr) (sp : SpD) (gf : DE) (g : DA) : DE := fun E ρ M Q => gf E ρ M fun y M0 => y = .ref C ∧ g E ρ M0 fun ds M1 => ∀ x, M1 x = none → sp (.ref x :: ds) (mset M1 x (.ins C [])) (fun v M2 => v = .non ∧ ∃ fs, M2 x = some (.ins C fs) ∧ Q (.obj C fs) (mdel M2 x)) E
section
variable {K : PySem.W.Frag} {X : Cx} {W : WX} {e : Expr} {pos : Pos}
end
section
variable {E : DXK} {ρ : Dv} {M : Mem} {Q : DVK} {C : Addr} {sp : SpD} {gf : DE} {g : DA}
theorem q_gCMeth : gCMeth C sp g E ρ M Q = g E ρ M (fun ds M1 => sp (.ref C :: ds) M1 Q E) := rfl
theorem q_gMakeV : gMakeV C sp gf g E ρ M Q = gf E ρ M (fun y M0 => y = .ref C ∧ g E ρ M0 fun ds M1 => ∀ x, M1 x = none → sp (.ref x :: ds) (mset M1 x (.ins C [])) (fun v M2 => v = .non ∧ ∃ fs, M2 x = some (.ins C fs) ∧ Q (.obj C fs) (mdel M2 x)) E) := rfl
end
end DL

namespace DL
open PySem PySem.Spec L2 PyProof.Rows
def InsS (M : Mem) (x : D) (C : Addr) (d : D) : Prop := x = .sob C d ∨ ∃ a dx, x = .ref a ∧ M a = some (.slt C dx d)
theorem InsS.at_ {K : PySem.W.Frag} {F : Addr → Prop} {H : Hp} {M : Mem} {x : D} {C : Addr} {d : D} {v : V} (h : InsS M x C d) (m : MemOk K F H M) (r : Rp K F H x v) : ∃ a dx w, v = .ref a ∧ SlX.Slt H a C dx [some w] ∧ Rp K F H d w := by
  rcases h with rfl | ⟨a, dx, rfl, hm⟩
  · unfold Rp at r
    obtain ⟨a, dx, w, rfl, ha, _, hd, rf⟩ := r
    exact ⟨a, dx, w, rfl, .inr ⟨ha, hd⟩, rf⟩
  · unfold Rp at r
    obtain ⟨w, ha, hd, rf⟩ := (m.at_ a _ hm).2
    exact ⟨a, dx, w, r, .inr ⟨ha, hd⟩, rf⟩
def gSlot (K : PySem.W.Frag) (f : Str) (g : DE) : DE := fun E ρ M Q => g E ρ M fun x M1 => ∃ C p d, InsS M1 x C d ∧ SlX.SCls K C ∧ SlX.Slot1 K C f p 0 ∧ Q d M1
def sSlot (K : PySem.W.Frag) (f : Str) (g go : DE) : DS := fun E ρ M => g (fun x M => E.ex x ρ M) ρ M fun v M1 => go (fun x M => E.ex x ρ M) ρ M1 fun o M2 => ∃ a C dx p, o = .ref a ∧ M2 a = some (.sln C dx) ∧ M2 dx = some (.own a) ∧ SlX.SCls K C ∧ SlX.Slot1 K C f p 0 ∧ E.nx ρ (mdel (mset M2 a (.slt C dx v)) dx)
def gMakeS (C : Addr) (sp : SpD) (g : DA) : DE := fun E ρ M Q => g E ρ M fun ds M1 => ∀ x dx, M1 x = none → M1 dx = none → dx ≠ x → sp (.ref x :: ds) (mset (mset M1 dx (.own x)) x (.sln C dx)) (fun v M2 => v = .non ∧ ∃ d, M2 x = some (.slt C dx d) ∧ Q (.sob C d) (mdel M2 x)) (fun e M2 => E e (mdel (mdel M2 x) dx))
def gMethS (C : Addr) (sp : SpD) (gf : DE) (g : DA) : DE := fun E ρ M Q => gf E ρ M fun y M1 => (∃ d, InsS M1 y C d) ∧ g E ρ M1 fun ds M2 => sp (y :: ds) M2 Q E
structure IsiS (K : PySem.W.Frag) (C : Addr) : Prop where
  cl : SlX.SCls K C
  is_ : SlX.SIsi K C
def dIsS (K : PySem.W.Frag) : DRs := fun ds M Q => match ds with
  | [x, .ref C] => dIsO K [x, .ref C] M Q ∨ ∃ C' d b, InsS M x C' d ∧ IsiS K C' ∧ PySem.W.kitOne K (.ref C') (.ref C) = some b ∧ Q (.bl b) M
  | _ => False
section
variable {K : PySem.W.Frag} {X : Cx} {W : WX} {e o : Expr} {ga gb : DE} {pos : Pos}
theorem MemOk.del {F : Addr → Prop} {H : Hp} {M : Mem} {a : Addr} (m : MemOk K F H M) : MemOk K F H (mdel M a) := ⟨m.fok, fun b o e => by
  unfold mdel at e
  by_cases z : b = a
  · rw [if_pos z] at e; cases e
  · rw [if_neg z] at e; exact m.at_ b o e⟩
theorem Ext.del {F : Addr → Prop} {H : Hp} {M : Mem} {a : Addr} : Ext F H M F H (mdel M a) := Ext.grow (fun _ z => z) (fun b z => .inl (by
  unfold mdel at z
  by_cases y : b = a
  · rw [if_pos y] at z; exact absurd rfl z
  · rw [if_neg y] at z; exact z)) fun _ z => .inl z
end
section
variable {K : PySem.W.Frag} {E : DXK} {E2 : DEnds} {ρ : Dv} {M : Mem} {Q : DVK} {C : Addr} {sp : SpD} {gf ga go : DE} {g : DA} {f : Str} {x : D}
theorem q_gSlot : gSlot K f ga E ρ M Q = ga E ρ M (fun x M1 => ∃ C p d, InsS M1 x C d ∧ SlX.SCls K C ∧ SlX.Slot1 K C f p 0 ∧ Q d M1) := rfl
theorem q_gMakeS : gMakeS C sp g E ρ M Q = g E ρ M (fun ds M1 => ∀ x dx, M1 x = none → M1 dx = none → dx ≠ x → sp (.ref x :: ds) (mset (mset M1 dx (.own x)) x (.sln C dx)) (fun v M2 => v = .non ∧ ∃ d, M2 x = some (.slt C dx d) ∧ Q (.sob C d) (mdel M2 x)) (fun e M2 => E e (mdel (mdel M2 x) dx))) := rfl
theorem q_sSlot : sSlot K f ga go E2 ρ M = ga (fun x M => E2.ex x ρ M) ρ M (fun v M1 => go (fun x M => E2.ex x ρ M) ρ M1 fun o M2 => ∃ a C dx p, o = .ref a ∧ M2 a = some (.sln C dx) ∧ M2 dx = some (.own a) ∧ SlX.SCls K C ∧ SlX.Slot1 K C f p 0 ∧ E2.nx ρ (mdel (mset M2 a (.slt C dx v)) dx)) := rfl
theorem q_gMethS : gMethS C sp gf g E ρ M Q = gf E ρ M (fun y M1 => (∃ d, InsS M1 y C d) ∧ g E ρ M1 fun ds M2 => sp (y :: ds) M2 Q E) := rfl
theorem q_isS : dIsS K [x, .ref C] M Q = (dIsO K [x, .ref C] M Q ∨ ∃ C' d b, InsS M x C' d ∧ IsiS K C' ∧ PySem.W.kitOne K (.ref C') (.ref C) = some b ∧ Q (.bl b) M) := rfl
end
end DL

namespace L2
open PySem PySem.Spec PyProof.Rows
abbrev BodyT := St → Hp → (Hp → Prop) → Prop
def lvT (J : It) (g : TG) (tt : TT) (bd : BodyT) (vs : List Nat) (σ : St) (H1 : Hp) (N0 : Hp → Prop) : Prop :=
  ∃ W : Nat → Nat → Hp → Prop, (∃ m, W 0 m H1) ∧ ∀ i m H, W i m H → (J.stop i H ∧ N0 H) ∨ (J.go i H ∧ ∃ Nx : Hp → Prop, (∀ H', Nx H' → ∃ m', m' < m ∧ W (i + 1) m' H') ∧
    ∀ x H', J.yld i H x H' → g x (wipe σ vs) H' fun σ2 H2 => wipe σ2 vs = wipe σ vs ∧ tt σ2 H2 fun b H3 => if b = true then bd σ2 H3 Nx else Nx H3)
def testsOf (ifs : List Expr) (env : Env) : Sem Bool := forIn ifs true fun c r => if r = true then do let ok ← isTrue c env (eval c env); pure (ForInStep.yield ok) else pure (ForInStep.yield r)
def CkOk (Y : Cx) (ck : Sem Fin → Sem Fin) (bd : BodyT) (vin : List Nat) : Prop :=
  ∀ (pins : List (Addr × Obj)) (s : Shared) (σ : St) (H : Hp) (Nx : Hp → Prop) (cont : Sem Fin) (R : Fin → Shared → Prop) (E : Value → Shared → Prop), Inv Y pins σ H s → bd σ H Nx →
    (∀ s' H', Inv Y pins (wipe σ vin) H' s' → Nx H' → wpAny (model Y.prog Y.w) Y.A cont R E s') → wpAny (model Y.prog Y.w) Y.A (ck cont) R E s
section
variable {Y : Cx}
theorem wipe_not {σ : St} {i : Nat} : ∀ {vs : List Nat}, i ∉ vs → (wipe σ vs)[i]? = σ[i]?
  | [], _ => rfl
  | v :: vs, h => by
    unfold wipe
    rw [List.getElem?_set_ne (fun e => h (by rw [e]; exact List.mem_cons_self))]
    exact wipe_not fun m => h (List.mem_cons_of_mem _ m)
theorem lv_run {elt : Expr} {gens : List Comprehension} {scope : Scope} {pos ip : Pos} {k : Nat} {acc : Value} {t : Expr} {ifs : List Expr} {g : TG} {tt : TT} {bd : BodyT} {ck : Sem Fin → Sem Fin} {vs vin : List Nat} {J : It} {fp : List Addr} {it : Addr} {tn : Nat → Heap → Prop}
    (hc : Y.calm = true) (hx : ∀ v s, Y.xe v s → False) (T : Turn Y.prog Y.w Y.K t J fp it tn) (pg : PG Y t g) (pt : PTs Y ifs tt) (hk : CkOk Y ck bd vin) (hv : ∀ i ∈ vin, i ∈ vs)
    (ht : compTurn (.ListComp elt gens scope pos) k (.ref it) acc Y.env = (do
      standAt ip
      match ← pyNext (.ref it) with
      | none => pure (.done .next)
      | some v => do
        letOwnedTupleGo t (.ref it) v
        assign t Y.env v
        let ok ← testsOf ifs Y.env
        if ok = true then ck (again (.compLoop (.ListComp elt gens scope pos) k (.ref it) acc Y.env)) else again (.compLoop (.ListComp elt gens scope pos) k (.ref it) acc Y.env)))
    {pins : List (Addr × Obj)} {σ : St} {H : Hp} {s : Shared} {N0 : Hp → Prop} {R : Result → Shared → Prop} (I : Inv Y pins (wipe σ vs) H s) (st : tn 0 s.heap) (f : ∀ b ∈ fp, FpOk Y pins H b) (h : lvT J g tt bd vs σ H N0)
    (hR : ∀ s' H', Inv Y pins (wipe σ vs) H' s' → N0 H' → R (.ok .next) s') : codeAny (model Y.prog Y.w) Y.A (.compLoop (.ListComp elt gens scope pos) k (.ref it) acc Y.env) R s := by
  obtain ⟨W, ⟨m0, w0⟩, turn⟩ := h
  have noE : ∀ {α : Type} {c : Sem α} {Q Q' : α → Shared → Prop} {E : Value → Shared → Prop} {s : Shared}, wpAny (model Y.prog Y.w) Y.A c Q Y.xe s → (∀ a s, Q a s → Q' a s) → wpAny (model Y.prog Y.w) Y.A c Q' E s := fun z q => wpAny_mono z q fun v s e => (hx v s e).elim
  refine codeAny_loop rfl (fun n s' => ∃ i H', Inv Y pins (wipe σ vs) H' s' ∧ tn i s'.heap ∧ (∀ b ∈ fp, H' b = none) ∧ W i n H') (fun n s1 hI => ?_) m0 ⟨0, H, I, st, fun b hb => (f b hb).1, w0⟩
  obtain ⟨i, H1, I1, st1, n1, w1⟩ := hI
  show wpAny _ Y.A ((compTurn (.ListComp elt gens scope pos) k (.ref it) acc Y.env).onRaise (fun x => do noteFrame x Y.env; theTreesLotGoes x)) _ _ s1
  refine wpAny_noted ?_
  rw [ht]
  have stat : ∀ b ∈ fp, FpOk Y pins H1 b := fun b hb => ⟨n1 b hb, (f b hb).2⟩
  rcases turn i n H1 w1 with ⟨stop, z⟩ | ⟨go, Nx, hNx, step⟩
  · refine wpAny_bind (wpAny_standAt (wpAny_bind (thnF (T.done Y rfl rfl rfl hc i pins s1 _ H1 (fun _ _ => False) I1 stat st1 stop) fun r s2 ⟨hr, I2⟩ => ?_)))
    subst hr
    exact wpAny_pure (hR s2 H1 I2 z)
  refine wpAny_bind (wpAny_standAt (wpAny_bind (thnF (T.item Y rfl rfl rfl hc i pins s1 _ H1 (fun _ _ => False) I1 stat st1 go) fun r s2 ⟨u, hr, h2⟩ => ?_)))
  subst hr
  refine wpAny_bind (thnF h2 fun _ s3 ⟨x, H3, I3, r3, y3, st3, n3⟩ => ?_)
  have I3' := I3.pinned (fun b hb => ⟨n3 b hb, (f b hb).2⟩) (T.obj _ _ st3)
  refine wpAny_bind (noE (pg.run _ s3 _ H3 x u _ I3' r3 (step x H3 y3)) fun _ s4 ⟨σ4, H4, I4, hw, q4⟩ => ?_)
  refine wpAny_bind (noE (pt.run _ s4 σ4 H4 _ I4 q4) fun b s5 ⟨H5, I5, q5⟩ => ?_)
  have fin : ∀ {σ5 : St} {s' : Shared} {H' : Hp}, Inv Y (pins ++ pinsAt fp s3.heap) σ5 H' s' → (wipe σ vs).length = σ5.length → (∀ (j : Nat) v, (wipe σ vs)[j]? = some (some v) → σ5[j]? = some (some v)) → Nx H' →
      ∃ m, m < n ∧ ∃ i H', Inv Y pins (wipe σ vs) H' s' ∧ tn i s'.heap ∧ (∀ b ∈ fp, H' b = none) ∧ W i m H' := fun {σ5 s' H'} I' hl hk nx => by
    obtain ⟨m', hm, w'⟩ := hNx H' nx
    have pin' : ∀ b ∈ fp, ∀ o, s3.heap.get? b = some o → s'.heap.get? b = some o ∧ H' b = none := fun b hb o e =>
      let z := I'.pin (b, o) (List.mem_append_right _ (List.mem_append_right _ (mem_pinsAt hb e)))
      ⟨z.1, z.2.1⟩
    refine ⟨m', hm, i + 1, H', I'.unpinned.weak hl hk, T.keep _ _ _ st3 fun b hb o e => (pin' b hb o e).1, fun b hb => ?_, w'⟩
    obtain ⟨o, e, _⟩ := T.obj _ _ st3 b hb
    exact (pin' b hb o e).2
  have hl : (wipe σ vs).length = σ4.length := by rw [← hw, wipe_length]
  cases b with
  | false =>
    rw [if_neg Bool.false_ne_true] at q5 ⊢
    exact wpAny_pure ⟨rfl, fin I5 hl (fun j v e => by rw [← hw] at e; exact (wipe_some e).1) q5⟩
  | true =>
    rw [if_pos rfl] at q5 ⊢
    refine hk _ s5 σ4 H5 Nx _ _ _ I5 q5 fun s6 H6 I6 nx => wpAny_pure ⟨rfl, fin I6 (hl.trans (wipe_length σ4 vin).symm) (fun j v e => ?_) nx⟩
    rw [← hw] at e
    obtain ⟨e1, e2⟩ := wipe_some e
    rw [wipe_not fun z => e2 (hv j z)]
    exact e1
end
section
variable {X : Cx} {elt tg iter : Expr} {ifs : List Expr} {rest : List Comprehension} {scope : Scope} {own : List (Str × Nat)} {pos : Pos} {wi : TI} {g : TG} {tt : TT} {bd : Addr → BodyT} {vin : List Nat} {ck : Addr → Env → Sem Fin → Sem Fin}
end
end L2
namespace DL
open PySem PySem.Spec L2
section
variable {K : PySem.W.Frag} {X : Cx} {W : WX} {F : Addr → Prop} {H : Hp} {ρ : Dv} {M : Mem} {σ : L2.St}
variable {elt tg iter tg1 iter1 tg2 iter2 : Expr} {ifs ifs1 ifs2 : List Expr} {scope : Scope} {own : List (Str × Nat)} {pos : Pos} {gi gi1 gi2 : DI} {vs vs1 vs2 : List Nat} {dg dg1 dg2 : DG} {tt tt1 tt2 : DT} {te : DE}
def lcD3 (ok : Mem → Prop) (dg : DG) (tt : DT) (gi1 : DI) (dg1 : DG) (tt1 : DT) (gi2 : DI) (dg2 : DG) (tt2 : DT) (te : DE) (vs1 vs2 : List Nat) (ρw : Dv) : List D → List D → Mem → (List D → Mem → Prop) → Prop
  | [], acc, M, Q => ok M ∧ Q acc M
  | d :: ds, acc, M, Q => ok M ∧ dg d ρw M fun ρ1 M1 => tt E0 ρ1 M1 fun b M2 =>
      if b = true then gi1 E0 ρ1 M2 fun src1 M3 => lcD2 src1.ok dg1 tt1 gi2 dg2 tt2 te vs2 (wipeD ρ1 vs1) src1.items acc M3 fun acc' M4 => lcD3 ok dg tt gi1 dg1 tt1 gi2 dg2 tt2 te vs1 vs2 ρw ds acc' M4 Q else lcD3 ok dg tt gi1 dg1 tt1 gi2 dg2 tt2 te vs1 vs2 ρw ds acc M2 Q
def nLc3 (gi : DI) (dg : DG) (tt : DT) (gi1 : DI) (dg1 : DG) (tt1 : DT) (gi2 : DI) (dg2 : DG) (tt2 : DT) (te : DE) (vs vs1 vs2 : List Nat) : DN := fun E ρ M Q => gi E ρ M fun src M1 => lcD3 src.ok dg tt gi1 dg1 tt1 gi2 dg2 tt2 te vs1 vs2 (wipeD ρ vs) src.items [] M1 Q
theorem q_lc3 {E : DXK} {QL : List D → Mem → Prop} : nLc3 gi dg tt gi1 dg1 tt1 gi2 dg2 tt2 te vs vs1 vs2 E ρ M QL = gi E ρ M (fun src M1 => lcD3 src.ok dg tt gi1 dg1 tt1 gi2 dg2 tt2 te vs1 vs2 (wipeD ρ vs) src.items [] M1 QL) := rfl
end
end DL

namespace DL
open PySem PySem.Spec L2 PyProof.Rows
section
variable {K : PySem.W.Frag} {X : Cx} {W : WX} {F : Addr → Prop} {H : Hp} {M : Mem} {e : Expr}
def onT (Q : Bool → Mem → Prop) (M : Mem) : D → Prop
  | .bl b => Q b M
  | .int i => Q (i != 0) M
  | .non => Q false M
  | .str s => s.length ≤ sizeLine ∧ Q ((s.length : Int) != 0) M
  | d => onS M d fun ds => Q (!ds.isEmpty) M
def gTru (g : DE) : DT := fun E ρ M Q => g E ρ M fun d M1 => onT Q M1 d
theorem q_tru {g : DE} {E : DXK} {ρ : Dv} {QB : Bool → Mem → Prop} : gTru g E ρ M QB = g E ρ M fun d M1 => onT QB M1 d := rfl
theorem q_onTl {xs : List D} {QB : Bool → Mem → Prop} : onT QB M (.lst xs) = QB (!xs.isEmpty) M := rfl
theorem q_onTt {xs : List D} {QB : Bool → Mem → Prop} : onT QB M (.tup xs) = QB (!xs.isEmpty) M := rfl
theorem q_onTb {b : Bool} {QB : Bool → Mem → Prop} : onT QB M (.bl b) = QB b M := rfl
theorem q_onTi {i : Int} {QB : Bool → Mem → Prop} : onT QB M (.int i) = QB (i != 0) M := rfl
theorem q_onTn {QB : Bool → Mem → Prop} : onT QB M .non = QB false M := rfl
end
end DL

set_option maxHeartbeats 1000000
namespace RT
open PySem PySem.Spec PyProof.Rows
section
variable {prog : Program} {w : World} {A : Around} {E : Value → Shared → Prop} {s : Shared}
theorem list_init_rev {R : Result → Shared → Prop} {it l : Addr} {items : Array Value} (hh : A.handled = none) (hit : s.heap.IsRevIter it l ((items.size : Int) - 1)) (hl : s.heap.IsList l items) (hne : l ≠ it) (hn : items.size ≤ sizeLine)
    (S : Addr) (hSi : S ≠ it) (hSl : S ≠ l) (hS : s.heap.get? S = some { cls := .type "list", data := .seq #[] })
    (hR : ∀ h' tk acc' c', (∀ b o, b ≠ S → b ≠ it → s.heap.get? b = some o → h'.get? b = some o) → h'.get? S = some { cls := .type "list", dict := none, data := .seq acc' c', slots := #[] } →
      ItemsOf (fun i v => items[items.size - 1 - i]? = some v) acc' items.size → R (.ok (.ret .none)) { s with heap := h', toks := tk }) :
    wpAny (model prog w) A.in1 (Builtin.«list.__init__» ⟨[.ref S, .ref it], []⟩)
      (fun fin s' => match fin with | .done f => R (.ok f) s' | .again c' => c'.quiet = true ∧ codeAny (model prog w) A c' R s') (fun e s' => R (.error e) s') s := by
  have W := (Walks.listRev (prog := prog) (w := w) (A := A.in1) hh it l hne items).toS
  have hSf : S ∉ [it, l] := by simp only [List.mem_cons, List.not_mem_nil, or_false, not_or]; exact ⟨hSi, hSl⟩
  show wpAny _ A.in1 (do let old ← Builtin.List.listItems (.ref S); Builtin.List.listUpdate (.ref S) (fun _ => #[]); letGo old.toList.reverse; Builtin.List.listExtendWith (.ref S) (.ref it) .none) _ _ s
  refine wpAny_bind ?_
  unfold Builtin.List.listItems
  refine wpAny_bind (wpAny_seqItems hS rfl (wpAny_pure ?_))
  show wpAny _ A.in1 (updateSeq S (fun _ => #[]) >>= fun _ => letGo (#[] : Array Value).toList.reverse >>= fun _ => Builtin.List.listExtendWith (.ref S) (.ref it) .none) _ _ s
  refine wpAny_bind (wpAny_updateSeq hS rfl ?_)
  have hS₂ := Heap.get?_update_self (Obj.mapSeq (fun _ => (#[] : Array Value))) hS rfl
  have oth : ∀ b o, b ≠ S → s.heap.get? b = some o → (s.heap.update S (Obj.mapSeq (fun _ => (#[] : Array Value)))).get? b = some o :=
    fun b o hb e => (Heap.get?_update_other _ _ (Ne.symm hb)).trans e
  refine wpAny_bind (wpAny_letGo ?_)
  generalize hh2 : s.heap.update S (Obj.mapSeq (fun _ => (#[] : Array Value))) = h2 at hS₂ oth ⊢
  have hit1 : h2.IsRevIter it l ((items.size : Int) - 1) := hit.at fun o e => oth _ _ (Ne.symm hSi) e
  have hl1 : h2.IsList l items := by
    obtain ⟨o, ho, r⟩ := hl
    exact ⟨o, oth _ _ (Ne.symm hSl) ho, r⟩
  have hT : ({ s with heap := h2 } : Shared).TypeIs (.ref it) "list_reverseiterator" := Heap.IsRevIter.typeIs (s := { s with heap := h2 }) hit1
  have h1 : Builtin.List.listSameRef (.ref S) (.ref it) = false := by simp [Builtin.List.listSameRef, hSi]
  unfold Builtin.List.listExtendWith
  refine wpAny_bind (wpAny_typeOf hT ?_)
  rw [if_neg (by rw [h1]; decide)]
  refine wpAny_bind (wpAny_pyIter_revIter (s := { s with heap := h2 }) hit1 ?_)
  refine wpAny_bind (wpAny_holding ?_)
  unfold Builtin.List.listLengthHint
  refine wpAny_bind (wpAny_specialOf hT nolen_lri ?_)
  show wpAny _ A.in1 (specialOf (Value.ref it) (Str.ofString "__length_hint__") >>= _) _ _ _
  refine wpAny_bind (wpAny_specialOf hT hint_lri ?_)
  generalize hid : ("list_reverseiterator.__length_hint__" : String) = id0
  wp_delta
  rw [show splitId id0 = some ("list_reverseiterator", "__length_hint__") from by subst hid; decide +kernel]
  subst hid
  refine wpAny_bind (wpAny_isInstance (b := true) hT (by rw [isSubtype_type]; kernel_rfl) ?_)
  refine wpAny_pure ?_
  rw [if_neg (by decide)]
  have e0 : ((items.size : Nat) : Int) - 1 - ((0 : Nat) : Int) = (items.size : Int) - 1 := by omega
  refine wpAny_pure ⟨plainId_quiet F.plain_extend_loop _, codeAny_extend_loopS W hn _ hSf _ items.size 0 _ _ _ rfl (Nat.zero_le _) ⟨Nat.zero_le _, by rw [e0]; exact hit1, hl1⟩ hS₂ (ItemsOf.nil _) fun s' acc' c' hm hS' hacc => ?_⟩
  rw [Moved.eq_with hm]
  refine hR s'.heap s'.toks acc' c' (fun b o hb1 hb2 e => hm.heap b o (fun hmem => ?_) (oth b o hb1 e)) hS' hacc
  rcases List.mem_cons.mp hmem with e' | hmem
  · exact hb1 e'
  · exact hb2 (List.mem_singleton.mp hmem)
theorem call_list_rev {it l : Addr} {items : Array Value} {Q : Value → Shared → Prop} (hh : A.handled = none) (hit : s.heap.IsRevIter it l ((items.size : Int) - 1)) (hl : s.heap.IsList l items) (hne : l ≠ it) (hn : items.size ≤ sizeLine)
    (hQ : ∀ h' tk acc' c', (∀ b o, b ≠ it → s.heap.get? b = some o → h'.get? b = some o) → h'.get? s.heap.objs.size = some { cls := .type "list", dict := none, data := .seq acc' c', slots := #[] } →
      ItemsOf (fun i v => items[items.size - 1 - i]? = some v) acc' items.size → Q (.ref s.heap.objs.size) { s with heap := h', toks := tk }) :
    wpAny (model prog w) A (call (.type "list") [.ref it]) Q E s := by
  obtain ⟨oi, hoi, _⟩ := id hit
  obtain ⟨ol, hol, _⟩ := id hl
  refine callType_codes (Q₁ := fun obj s₁ => obj = .ref s.heap.objs.size ∧ s₁ = { s with heap := s.heap.push { cls := .type "list", data := .seq #[] } }) F.called_list (F.typeCall_list_1 _) F.entry_list_init
    (code_list_new _ ⟨rfl, rfl⟩) fun obj s₁ h₁ => ?_
  obtain ⟨rfl, rfl⟩ := h₁
  have hS : (s.heap.push { cls := .type "list", data := .seq #[] }).get? s.heap.objs.size = some { cls := .type "list", data := .seq #[] } := Heap.get?_push_size _ rfl
  refine ⟨⟨_, hS, rfl⟩, F.args_list_init_2 _ _, list_init_rev (A := A.in1) hh (hit.at fun o e => Heap.get?_push_of_some _ e) (hl.push _) hne hn _ (Nat.ne_of_gt (Heap.lt_size hoi)) (Nat.ne_of_gt (Heap.lt_size hol)) hS fun h' tk acc' c' hk hS' hacc => ?_⟩
  exact ⟨rfl, hQ h' tk acc' c' (fun b o hb e => hk b o (Nat.ne_of_lt (Heap.lt_size e)) hb (Heap.get?_push_of_some _ e)) hS' hacc⟩
end
end RT
namespace L2
open PySem PySem.Spec PyProof.Rows RT
section
variable {X : Cx}
def tLstRev (K : PySem.W.Frag) (te : TE) : TE := fun σ H Q => te σ H fun v H1 => ∃ (a : Addr) (xs : List V), v = .ref a ∧ SqL K H1 a xs ∧ ∀ q, H1 q = none → Q (.ref q) (upd H1 q (.lst xs.reverse))
theorem pe_lstRev {e : Expr} {te : TE} {p p2 pos pos2 : Pos} (hc : X.calm = true) (hg : Gl X "list") (hm : X.mg "list" = none) (hg2 : Gl X "reversed") (hm2 : X.mg "reversed" = none) (he : PE X e te)
    (hs : starEach [e] X.env = (false, eval e X.env) :: starEach [] X.env := by rfl)
    (hs2 : starEach [.Call (.Name "reversed" p2) [e] [] pos2] X.env = (false, eval (.Call (.Name "reversed" p2) [e] [] pos2) X.env) :: starEach [] X.env := by rfl) :
    PE X (.Call (.Name "list" p) [.Call (.Name "reversed" p2) [e] [] pos2] [] pos) (tLstRev X.K te) := by
  refine ⟨fun pins s σ H Q I h => ?_⟩
  refine Call_ (ld_blt I hg hm boot_list (PyProof.Rows.callWith_type1 (args_cons (Call_ (ld_blt I hg2 hm2 PyProof.Rows.boot_reversed (PyProof.Rows.callWith_type1 (args_cons (thn (he.run pins s σ H _ I h) fun u s1 ⟨v, H1, I1, r1, q1⟩ => args_nil ?_) hs) hs rfl))) hs2) hs2 rfl))
  obtain ⟨a, xs, ev, hq, q⟩ := q1
  subst ev
  obtain rfl : u = Value.ref a := r1
  obtain ⟨its, rv, p', hz⟩ := I1.list hq
  refine call_reversed_list p'.isList (args_nil ?_)
  have k0 : ∀ b o, s1.heap.get? b = some o → (s1.heap.push (revObj a ((its.toArray.size : Int) - 1))).get? b = some o := fun b o e => Heap.get?_push_of_some _ e
  have I2 : Inv X pins σ H1 { s1 with heap := s1.heap.push (revObj a ((its.toArray.size : Int) - 1)) } := I1.kept (t' := s1.toks) k0
  obtain ⟨f0, f1, f2, f3, f4, f5⟩ := I1.fpOk (H' := H1) (b := s1.heap.objs.size) (Nat.le_refl _) (I1.hok.fresh (Nat.le_refl _))
  have hl := p'.isList
  obtain ⟨ol, hol, _⟩ := id hl
  have hne : a ≠ s1.heap.objs.size := Nat.ne_of_lt (Heap.lt_size hol)
  have hn : its.toArray.size ≤ sizeLine := by rw [List.size_toArray, ← rv.length]; exact hz
  have hgt : s1.heap.objs.size ≤ (s1.heap.push (revObj a ((its.toArray.size : Int) - 1))).objs.size := by simp [Heap.push]
  refine call_list_rev (s := { s1 with heap := s1.heap.push (revObj a ((its.toArray.size : Int) - 1)) }) (I1.ok.hd hc) ⟨_, Heap.get?_push_size _ rfl, rfl, rfl⟩ (hl.push _) hne hn fun h' tk acc c' hk e' hi => ?_
  refine ⟨.ref (s1.heap.push (revObj a ((its.toArray.size : Int) - 1))).objs.size, upd H1 (s1.heap.push (revObj a ((its.toArray.size : Int) - 1))).objs.size (.lst xs.reverse), I2.turnedNew (t' := tk) (ch := [s1.heap.objs.size]) (fun b o hb e => hk b o (fun z => hb (by simp [z])) e) (fun b hb => ?_) (Nat.le_refl _) (show ObjOk X.prog X.w _ _ _ (.lst xs.reverse) from ⟨by rw [List.length_reverse]; exact hz, acc.toList, c', vals_rev rv hi, ?_⟩), rfl, q _ (I1.hok.fresh hgt)⟩
  · rw [List.mem_singleton.mp hb]
    exact ⟨f0, f1, f2, f3, f4, f5⟩
  · rw [Array.toArray_toList]
    exact e'
end
end L2
namespace DL
open PySem PySem.Spec L2 PyProof.Rows
section
variable {K : PySem.W.Frag} {X : Cx} {W : WX} {e : Expr} {pos pos2 p p2 : Pos}
def nLstRev (g : DE) : DN := fun E ρ M Q => g E ρ M fun d M1 => onL M1 d fun xs => Q xs.reverse M1
theorem fn_lstRev {g : DE} (hK : X.K = K) (hm : X.mg "list" = none) (hm2 : X.mg "reversed" = none) (he : FE K X W e g) (hc : X.calm = true := by rfl) (hg : Gl X "list" := by rfl) (hg2 : Gl X "reversed" := by rfl)
    (hs : starEach [e] X.env = (false, eval e X.env) :: starEach [] X.env := by rfl)
    (hs2 : starEach [.Call (.Name "reversed" p2) [e] [] pos2] X.env = (false, eval (.Call (.Name "reversed" p2) [e] [] pos2) X.env) :: starEach [] X.env := by rfl) :
    FN K X W (.Call (.Name "list" p) [.Call (.Name "reversed" p2) [e] [] pos2] [] pos) (nLstRev g) :=
  PE.imp (pe_lstRev hc hg hm hg2 hm2 he hs hs2) fun σ H Q ⟨F, ρ, M, E, Q', s, x, q, h⟩ => tG_mk s x (fun F1 H1 M1 d v e1 m1 r1 h1 => by
    obtain ⟨ds, a, vs, _, h2, rfl, hv, rr⟩ := onL_at m1 r1 h1
    exact ⟨a, vs, rfl, by rw [hK]; exact SqL.of hv, fun p hp => newL e1 m1 rr.reverse hp q h2⟩) h
theorem q_lstRev {g : DE} {E : DXK} {ρ : Dv} {M : Mem} {QL : List D → Mem → Prop} : nLstRev g E ρ M QL = g E ρ M fun d M1 => onL M1 d fun xs => QL xs.reverse M1 := rfl
def nLstRg1 (g : DE) : DN := fun E ρ M Q => g E ρ M fun d M1 => match d with
  | .int n => (-(2 ^ 62) ≤ n ∧ n ≤ 16777216) ∧ Q (rgD 0 n.toNat) M1
  | _ => False
def nLstRg2 (ga gb : DE) : DN := fun E ρ M Q => ga E ρ M fun x M1 => gb E ρ M1 fun y M2 => match x, y with
  | .int i, .int j => (0 ≤ i ∧ i ≤ 16777216 ∧ 0 ≤ j ∧ j ≤ 16777216) ∧ Q (rgD i (j - i).toNat) M2
  | _, _ => False
theorem q_lstRg2 {ga gb : DE} {E : DXK} {ρ : Dv} {M : Mem} {QL : List D → Mem → Prop} : nLstRg2 ga gb E ρ M QL = ga E ρ M fun x M1 => gb E ρ M1 fun y M2 => match x, y with
  | .int i, .int j => (0 ≤ i ∧ i ≤ 16777216 ∧ 0 ≤ j ∧ j ≤ 16777216) ∧ QL (rgD i (j - i).toNat) M2
  | _, _ => False := rfl
theorem q_lstRg1 {g : DE} {E : DXK} {ρ : Dv} {M : Mem} {QL : List D → Mem → Prop} : nLstRg1 g E ρ M QL = g E ρ M fun d M1 => match d with
  | .int n => (-(2 ^ 62) ≤ n ∧ n ≤ 16777216) ∧ QL (rgD 0 n.toNat) M1
  | _ => False := rfl
end
end DL
namespace DL
open PySem PySem.Spec L2 PyProof.Rows
section
variable {α : Type} [DecidableEq α] [DatD α] {M : Mem} {Q : DVK}
end
end DL

namespace DL
open PySem PySem.Spec L2 PyProof.Rows
section
variable {prog : Program} {w : World} {A : Around} {E : Value → Shared → Prop} {s : Shared} {K : PySem.W.Frag} {x C f : Addr} {ox : Obj} {od : Option Obj}
end
def gProp (C : Addr) (sp : SpD) (ga : DE) : DE := fun E ρ M Q => ga E ρ M fun x M1 => (∃ fs, InsD M1 x C fs) ∧ sp [x] M1 Q fun _ _ => False
section
variable {K : PySem.W.Frag} {X : Cx} {W : WX} {e : Expr} {ga : DE} {pos : Pos}
end
theorem q_prop {C : Addr} {sp : SpD} {ga : DE} {E : DXK} {ρ : Dv} {M : Mem} {Q : DVK} : gProp C sp ga E ρ M Q = ga E ρ M fun x M1 => (∃ fs, InsD M1 x C fs) ∧ sp [x] M1 Q fun _ _ => False := rfl
section
variable {X : Cx} {C g : Addr} {k : Nat} {sp : Sp}
end
def dInO (f : Bool → Bool) (C : Addr) (sp : SpD) : DR2 := fun x y M Q => (∃ gs, InsD M y C gs) ∧ sp [y, x] M (fun z M' => ∃ c : Bool, z = .bl c ∧ Q (.bl (f c)) M') (fun _ _ => False)
section
variable {K : PySem.W.Frag} {X : Cx} {W : WX} {pos : Pos}
end
theorem q_inO {f : Bool → Bool} {C : Addr} {sp : SpD} {x y : D} {M : Mem} {Q : DVK} : dInO f C sp x y M Q = ((∃ gs, InsD M y C gs) ∧ sp [y, x] M (fun z M' => ∃ c : Bool, z = .bl c ∧ Q (.bl (f c)) M') (fun _ _ => False)) := rfl
end DL

namespace DL
open PySem PySem.Spec L2 PyProof.Rows
section
variable {prog : Program} {w : World} {A : Around} {E : Value → Shared → Prop} {s : Shared} {K : PySem.W.Frag} {x C f : Addr} {ox : Obj} {od : Option Obj} {h₀ : Heap} {Lv : Addr → Prop} {m : Nat}
end
def gOpL (C : Addr) (sp : SpD) (ga gb : DE) : DE := fun E ρ M Q => ga E ρ M fun x M1 => gb E ρ M1 fun y M2 => (∃ fs, InsD M2 x C fs) ∧ onL M2 y (fun _ => True) ∧ sp [x, y] M2 Q E
section
variable {K : PySem.W.Frag} {X : Cx} {W : WX} {a b : Expr} {ga gb : DE} {pos : Pos}
end
theorem q_gOpL {C : Addr} {sp : SpD} {ga gb : DE} {E : DXK} {ρ : Dv} {M : Mem} {Q : DVK} : gOpL C sp ga gb E ρ M Q = ga E ρ M fun x M1 => gb E ρ M1 fun y M2 => (∃ fs, InsD M2 x C fs) ∧ onL M2 y (fun _ => True) ∧ sp [x, y] M2 Q E := rfl
end DL

namespace DL
open PySem PySem.Spec L2 PyProof.Rows
section
variable {prog : Program} {w : World} {A : Around} {E : Value → Shared → Prop} {s : Shared} {K : PySem.W.Frag} {x C f : Addr} {ox : Obj} {od : Option Obj}
end
section
variable {X : Cx} {C g : Addr} {k : Nat} {sp : Sp}
end
def dNeO (C : Addr) (sp : SpD) : DR2 := fun x y M Q => (∃ fs, InsD M x C fs) ∧ (∃ gs, InsD M y C gs) ∧ sp [x, y] M (fun z M' => ∃ c : Bool, z = .bl c ∧ Q (.bl (!c)) M') (fun _ _ => False)
section
variable {K : PySem.W.Frag} {X : Cx} {W : WX} {pos : Pos}
end
theorem q_neO {C : Addr} {sp : SpD} {x y : D} {M : Mem} {Q : DVK} : dNeO C sp x y M Q = ((∃ fs, InsD M x C fs) ∧ (∃ gs, InsD M y C gs) ∧ sp [x, y] M (fun z M' => ∃ c : Bool, z = .bl c ∧ Q (.bl (!c)) M') (fun _ _ => False)) := rfl
end DL

namespace DL
open PySem PySem.Spec L2 PyProof.Rows
def gOpN (C : Addr) (sp : SpD) (ga gb : DE) : DE := fun E ρ M Q => ga E ρ M fun x M1 => gb E ρ M1 fun y M2 => (∃ fs, InsD M2 x C fs) ∧ (∃ n : Int, y = .int n) ∧ sp [x, y] M2 Q E
section
variable {K : PySem.W.Frag} {X : Cx} {W : WX} {a b : Expr} {ga gb : DE} {pos : Pos}
end
theorem q_gOpN {C : Addr} {sp : SpD} {ga gb : DE} {E : DXK} {ρ : Dv} {M : Mem} {Q : DVK} : gOpN C sp ga gb E ρ M Q = ga E ρ M fun x M1 => gb E ρ M1 fun y M2 => (∃ fs, InsD M2 x C fs) ∧ (∃ n : Int, y = .int n) ∧ sp [x, y] M2 Q E := rfl
end DL

set_option maxHeartbeats 1000000
namespace PySem
open Sem (wp)
section
variable {prog : Program} {w : World} {A : Around} {E : Value → Shared → Prop} {s : Shared} {z TI TO T i1 i2 : Addr} {fp1 fp2 : List Addr} {n1 n2 i : Nat} {P1 P2 : Nat → Value → Prop} {St1 St2 : Nat → Heap → Prop} {f : Bool} {oT : Obj}
end
end PySem
namespace DL
open PySem PySem.Spec PyProof.Rows L2 RZ
def ZSt (z TI TO i1 i2 a b S : Addr) (p q : Bool) (i : Nat) (h : Heap) : Prop := IsTupOf2 h TI (.ref i1) (.ref i2) ∧ ItB p h i1 a i ∧ ItB q h i2 b i ∧ (∃ o, h.get? TO = some o) ∧
  ((IsZip h z TI TO .none ∧ ∃ x y, IsTupOf2 h TO x y) ∨ ∃ T f oT, IsZipHeld h z TI TO T f ∧ h.get? T = some oT ∧ T ≠ z ∧ T ≠ TO ∧ T ≠ i1 ∧ T ≠ i2 ∧ T ≠ S)
theorem ZSt.keep {z TI TO i1 i2 a b S : Addr} {p q : Bool} {i : Nat} {h h' : Heap} (st : ZSt z TI TO i1 i2 a b S p q i h) (nz : S ≠ z) (nTI : S ≠ TI) (nTO : S ≠ TO) (ni1 : S ≠ i1) (ni2 : S ≠ i2)
    (k : ∀ c o, c ≠ S → h.get? c = some o → h'.get? c = some o) : ZSt z TI TO i1 i2 a b S p q i h' := by
  obtain ⟨hTI, h1, h2, ⟨oo, hoo⟩, hz⟩ := st
  refine ⟨k _ _ nTI.symm hTI, h1.at fun o e => k _ _ ni1.symm e, h2.at fun o e => k _ _ ni2.symm e, ⟨oo, k _ _ nTO.symm hoo⟩, ?_⟩
  rcases hz with ⟨hz, x, y, hTO⟩ | ⟨T, f, oT, hz, hT, r1, r2, r3, r4, r5⟩
  · exact .inl ⟨k _ _ nz.symm hz, x, y, k _ _ nTO.symm hTO⟩
  · exact .inr ⟨T, f, oT, k _ _ nz.symm hz, k _ _ r5 hT, r1, r2, r3, r4, r5⟩
section
variable {prog : Program} {w : World} {A : Around} {E : Value → Shared → Prop} {s : Shared} {z TI TO i1 i2 a b S : Addr} {p q : Bool} {i : Nat} {xs ys : Array Value}
end
inductive ZPrs : Hp → List V → List V → List Addr → Hp → Prop
  | nil {H : Hp} {xs ys : List V} : (xs = [] ∨ ys = []) → ZPrs H xs ys [] H
  | cons {H H' : Hp} {x y : V} {xs ys : List V} {T : Addr} {Ts : List Addr} : H T = none → ZPrs (upd H T (.tup [x, y])) xs ys Ts H' → ZPrs H (x :: xs) (y :: ys) (T :: Ts) H'
theorem SqB.upd {K : PySem.W.Frag} {b : Bool} {H : Hp} {a T : Addr} {xs : List V} {o : HO} (h : SqB K b H a xs) (hT : H T = none) : SqB K b (upd H T o) a xs := by
  cases b
  · exact SqL.ext (show SqL K H a xs from h) (L2.Ext.upd hT)
  · exact SqT.ext (show SqT K H a xs from h) (L2.Ext.upd hT)
section
variable {X : Cx} {z TI TO i1 i2 a b S : Addr} {p q : Bool} {pins : List (Addr × Obj)} {σ : L2.St}
theorem ZPrs.len {H H' : Hp} {xs ys : List V} {Ts : List Addr} (h : ZPrs H xs ys Ts H') : Ts.length ≤ xs.length := by
  induction h with
  | nil _ => exact Nat.zero_le _
  | cons _ _ ih => simpa using ih
end
def nLstZip (g : DA) : DN := fun E ρ M Q => g E ρ M fun ds M1 => match ds with
  | [x, y] => onSrc M1 x fun s _ => onSrc M1 y fun t _ => Q (zipD s.items t.items) M1
  | _ => False
section
variable {K : PySem.W.Frag} {X : Cx} {W : WX} {a b : Expr} {pos pos2 p p2 : Pos}
theorem q_lstZip {g : DA} {E : DXK} {ρ : Dv} {M : Mem} {QL : List D → Mem → Prop} : nLstZip g E ρ M QL = g E ρ M fun ds M1 => match ds with
  | [x, y] => onSrc M1 x fun s _ => onSrc M1 y fun t _ => QL (zipD s.items t.items) M1
  | _ => False := rfl
end
end DL

namespace L2
open PySem PySem.Spec PyProof.Rows
end L2
namespace DL
open PySem PySem.Spec L2
section
variable {M : Mem} {Q : DVK} {α : Type} [DecidableEq α] [DatD α]
end
end DL

namespace L2
open PySem PySem.Spec PyProof.Rows
def rRepr (K : PySem.W.Frag) : List V → Hp → VK → Prop := fun xs H Q => ∃ x d, xs = [x] ∧ Dp K H x d ∧ SeqAt.shaped d = true ∧ d.showable = true ∧ d.shown.length ≤ sizeLine ∧ ((∃ i, d = .int i) ∨ ∃ ps, d = .tuple ps ∨ d = .list ps) ∧ Q (.str d.shown) H
theorem call_repr {X : Cx} (hg : X.A.guards = some []) (hu : X.A.units + 66 < cLine) : CallR X (.builtin "repr") (rRepr X.K) := by
  intro pins s σ H xs us Q I r h
  obtain ⟨x, d, rfl, hd, hs, hw, hz, hk, q⟩ := h
  obtain ⟨u, rfl, rv⟩ : ∃ u, us = [u] ∧ RelV x u := by
    cases r with
    | cons a b => cases b; exact ⟨_, rfl, a⟩
  obtain ⟨as, rd⟩ := Dp.reads I d x u hd rv
  have hn := PyData.hasDict_of_canLay d (SeqAt.canLay_of_shaped hs)
  have hdp := SeqAt.depth_of_shaped hs
  rcases hk with ⟨i, rfl⟩ | ⟨ps, hk⟩
  · cases rd with
    | int _ t =>
      refine PySem.P.repr_of_int (of_decide_eq_true hw) ⟨.str (toString i), H, I.tok _, ⟨_, rfl⟩, q⟩
  · obtain ⟨a, rfl⟩ : ∃ a, u = .ref a := by
      rcases hk with rfl | rfl
      · cases rd with | tuple => exact ⟨_, rfl⟩
      · cases rd with | list => exact ⟨_, rfl⟩
    exact PySem.repr_of_reads' rd hw (PyData.noDict_hsm hn) hg (by omega) (fun _ _ e => e) (fun h' u tk hk => ⟨.str d.shown, H, I.kept hk, ⟨_, rfl⟩, q⟩) hz
end L2
namespace DL
open PySem PySem.Spec L2
def dRepr : DRs := fun ds M Q => match ds with
  | [x] => ∃ p, Vw M x p ∧ SeqAt.shaped p = true ∧ p.showable = true ∧ p.shown.length ≤ sizeLine ∧ ((∃ i, p = .int i) ∨ ∃ ps, p = .tuple ps ∨ p = .list ps) ∧ Q (.str p.shown) M
  | _ => False
theorem cd_repr {X : Cx} {K : PySem.W.Frag} (hK : X.K = K) (hg : X.A.guards = some []) (hu : X.A.units + 66 < cLine) : CallD K X (.builtin "repr") dRepr := by
  subst hK
  refine CallR.imp (call_repr hg hu) fun xs H Q ⟨F, M, ds, Q', m, r, q, h⟩ => ?_
  match ds, h with
  | [d], h =>
    obtain ⟨v, rfl, rv⟩ := r.one
    obtain ⟨p, h1, h2, h3, h4, h5, h6⟩ := h
    exact ⟨v, p, rfl, h1.dp m rv, h2, h3, h4, h5, q F H M _ _ (Ext.refl _ _ _) m Rp.str h6⟩
theorem bt_repr : bootBuiltins "repr" = some (.builtin "repr") := by decide +kernel
theorem hu66 {k : Nat} {A : Around} (hr : Room k A) : A.units + 66 < cLine := by have := hr.un; omega
end DL
namespace L2
open PySem PySem.Spec PyProof.Rows
structure FnG (P : Program) (w : World) (K : PySem.W.Frag) (mg : Str → Option Value) (base : Heap) (CX : CXT) (k : Nat) (f : Addr) (fd : FuncData) (ps : List Str) (sp : Sp) : Prop where
  lenG : ∀ vs H Q E, sp vs H Q E → vs.length = ps.length
  runG : ∀ (A : Around) (outer : List Env) (s : Shared) (H : Hp) (args : Args) (us : List Value) (vs : List V) (Q : VK) (E : XK), A.guards = some [] → Room k A → Env0 P w K mg base A outer s H → BindsTo s fd args (ps.zip us) → Vals vs us → sp vs H Q E →
    codeAny (model P w) A (.call (.ref f) args) (CR CX outer P w H s Q E) s
theorem end_of {CX : CXT} {P : Program} {w : World} {K : PySem.W.Frag} {mg : Str → Option Value} {base : Heap} {N : List Str} {qual : Str} {scope : Scope} {f : Addr} {cd : Value} {A : Around} {outer : List Env} {s : Shared} {H : Hp} {Q : VK} {E : XK} {s' : Shared} {σ' : St} {H' : Hp} {v : V} {u : Value}
    (J : Inv (cxOf CX P w K mg base N qual scope f cd A outer s H E) [] σ' H' s') (r : RelV v u) (q : Q v H') : CE outer P w H s Q u s' := ⟨v, H', J.os, J.bare, J.base, J.hok, r, q⟩
theorem fnG_of {CX : CXT} {P : Program} {w : World} {K : PySem.W.Frag} {mg : Str → Option Value} {base : Heap} {k : Nat} {x qual : Str} {st : Stmt} {f : Addr} {fd : FuncData} {N ps : List Str} {sp : Sp} (F : Fun K x qual st f fd) (S : FnScope N ps (defScope st))
    (len : ∀ vs H Q E, sp vs H Q E → vs.length = ps.length)
    (hbody : ∀ (cdv : Value) (A : Around) (outer : List Env) (s : Shared) (H : Hp) (vs : List V) (Q : VK) (E : XK), A.guards = some [] → Room k (A.deeper (envOfC qual (defScope st) s.heap.objs.size f cdv)) → sp vs H Q E →
      ∃ t, PSs (cxOf CX P w K mg base N qual (defScope st) f cdv A outer s H E) (defBody st) t ∧ t { nx := fun _ H' => Q .non H', rt := Q } (start N vs) H) : FnG P w K mg base CX (k + 1) f fd ps sp := by
  obtain ⟨oc, od, kV, doc, pm, an, cdv, ct, osl, rfl, lk, hcd⟩ := F.ex
  refine ⟨len, fun A outer s H args us vs Q E gu hr e0 hb r hsp => ?_⟩
  have keep : ∀ b o, base.get? b = some o → s.heap.get? b = some o := fun b o e => (e0.bs b o e).1
  have KX := e0.mod.kin.keeps keep
  have names : ∀ y ∈ ps.zip us, (defScope st).names.lookup y.1 = some .local ∨ ((defScope st).names.lookup y.1 = some .cell ∧ ((cellsFrom (s.heap.objs.size + 1) (defScope st).names []).lookup y.1).isSome = true) := by
    rintro ⟨n, v⟩ hy
    have := S.par n (List.of_mem_zip hy).1
    exact this.imp (fun q => q) fun q => ⟨q, PySem.W.cellsFrom_some _ _ _ (.inl q)⟩
  refine codeAny_call_function hr.depth (KX _ _ lk) rfl S.co S.gen rfl (PySem.W.codeRec_of KX hcd) (hb _ _ _ _ (wpAny_newFunctionEnv_cells S.kind names ?_))
  rintro env rfl s1 x
  obtain ⟨t, ht, hq⟩ := hbody cdv A outer s H vs Q E gu (hr.deeper _) hsp
  have I : Inv (cxOf CX P w K mg base N qual (defScope st) f cdv A outer s H E) [] (start N vs) H s1 := inv_start S hr.hd e0 (len _ _ _ _ hsp) r x
  refine ⟨(e0.mod.nolimit.keeps keep).keeps x.toInCall.keep, codeAny_func (wpAny_mono (ht.run [] s1 (start N vs) H _ I hq) (fun fl s' hs => ?_) fun e s' hs => hs)⟩
  match fl, hs with
  | .ret u, ⟨v, σ', H', J, rv, q⟩ => exact end_of J rv q
  | .next, ⟨σ', H', J, q⟩ => exact end_of (v := V.non) (u := Value.none) J rfl q
  | .brk, ⟨_, _, _, q⟩ => exact q.elim
  | .cont, ⟨_, _, _, q⟩ => exact q.elim
section
variable {X : Cx} {CX : CXT} {k : Nat} {f : Addr} {fd : FuncData} {ps : List Str} {sp : Sp} {E : St → XK} {x : Str} {p pos : Pos} {e : Expr} {es : List Expr} {t : TA}
theorem pe_callG (F : FnG X.prog X.w X.K X.mg X.base CX k f fd ps sp) (gu : X.A.guards = some []) (hr : Room k X.A) (hg : Gl X x) (hm : X.mg x = some (.ref f)) (hk : PySem.W.keepIn X.K (.ref f) = true) (hb : Binds X.K fd ps []) (hx : ∀ σ, PassesAt CX X σ (E σ))
    (ha : PA X (e :: es) t) (hdb : (x == ("__debug__" : Str)) = false := by decide) (he : starEach (e :: es) X.env = (false, eval e X.env) :: starEach es X.env := by rfl) (hpl : (backTo pos (starEach es X.env)).any (·.1) = false := by rfl) :
    PE X (.Call (.Name x p) (e :: es) [] pos) (tCallS sp E t) := by
  refine ⟨fun pins s σ H Q I h => wpAny_Call_Name_kw (ld_glob I hg hm (PySem.W.callWith_K (h₀ := X.base) I.ok.mod.kin hk (thn (ha.run pos pins s σ H _ I h) fun us s1 ⟨vs, H1, I1, r, q⟩ => ⟨I1.kIn, ?_⟩) he hpl) hdb)⟩
  have hl : us.length = ps.length := by rw [← r.length]; exact F.lenG _ _ _ _ q
  refine wpAny_call (codeAny_mono (F.runG X.A X.stack s1 H1 ⟨us, []⟩ us vs Q (E σ) gu hr I1.env0 (by have z := hb s1 us I1.kIn (by rw [List.append_nil]; exact hl); rw [List.append_nil] at z; exact z) r q) fun r s' hq => ?_)
  match r, hq with
  | .error e, hq => exact hx σ pins H1 s1 e s' I1 hq
  | .ok (.ret u), hq => exact I1.after hq
end
end L2
namespace L2
open PySem PySem.Spec PyProof.Rows
theorem start_at {P : Program} {w : World} {K : PySem.W.Frag} {mg mb : Str → Option Value} {a : Addr} {s₁ : Shared} {vs : List Value} {ns : List Int}
    (KX : K.In s₁.heap) (hns : s₁.heap.Ns mainGlobals mg) (hb : s₁.heap.Ns builtinsNs mb) (hbb : ∀ x : Str, x ≠ "__name__" → mb x = bootBuiltins x) (hlim : s₁.heap.NoLimit) (hg : s₁.gens = #[])
    (ha : s₁.heap.get? a = some { cls := .type "list", data := .seq vs.toArray }) (hi : IntsAre vs ns) (hl : ns.length ≤ sizeLine) :
    ∃ H : Hp, Only H ∧ SqL K H a (ns.map V.int) ∧ HOk P w H s₁.heap ∧ K.In (hidT s₁.heap H) ∧ (hidT s₁.heap H).Ns mainGlobals mg ∧ Env0 P w K mg (hidT s₁.heap H) callerA [] s₁ H := by
  have rv := vals_ints hi
  have lv := hi.length
  -- H tells of nothing but the script
  have all : ∀ H : Hp, Only H → SqL K H a (ns.map V.int) → HOk P w H s₁.heap → (∀ b, H b ≠ none → b = a ∧ K.lookup a = none) → ∃ H : Hp, Only H ∧ SqL K H a (ns.map V.int) ∧ HOk P w H s₁.heap ∧ K.In (hidT s₁.heap H) ∧ (hidT s₁.heap H).Ns mainGlobals mg ∧ Env0 P w K mg (hidT s₁.heap H) callerA [] s₁ H := by
    intro H o q k h
    have free : ∀ {b : Addr} {x : Obj}, s₁.heap.get? b = some x → (b = a → K.lookup a = none → False) → (hidT s₁.heap H).get? b = some x := fun {b x} e n => hidT_get e (by
      cases z : H b with
      | none => rfl
      | some u =>
        obtain ⟨e1, e2⟩ := h b (by rw [z]; exact fun y => nomatch y)
        exact (n e1 e2).elim)
    have dict : ∀ {b : Addr} {x : Obj} {es : Array DictEntry} {ep : Nat}, s₁.heap.get? b = some x → x.data = .dict es ep → (hidT s₁.heap H).get? b = some x := fun {b x es ep} e d => free e fun e1 _ => by
      rw [e1, ha] at e
      cases e
      exact nomatch d
    have ns' : ∀ {b : Addr} {m : Str → Option Value}, s₁.heap.Ns b m → (hidT s₁.heap H).Ns b m := fun {b m} ⟨x, es, ep, e, d, r⟩ => ⟨x, es, ep, dict e d, d, r⟩
    have kin : K.In (hidT s₁.heap H) := fun b x e => free (KX b x e) fun e1 e2 => by rw [e1, e2] at e; exact nomatch e
    obtain ⟨mc, l1, l2⟩ := hlim
    exact ⟨H, o, q, k, kin, ns' hns, rfl, ⟨kin, ns' hns, ⟨mb, ns' hb, hbb⟩, ⟨mc, ns' l1, l2⟩⟩, fun b x e => of_hidT e, Nat.le_of_eq (hidT_size _ _), trivial, fun b hb => (List.not_mem_nil hb).elim, k, .of_eq hg⟩
  cases hk : K.lookup a with
  | some x =>
    have e := KX a x hk
    rw [ha] at e
    cases e
    exact all (fun _ => none) (fun _ => .inl rfl) (.inr ⟨_, vs.toArray, _, hk, rfl, rfl, rfl, by rw [List.size_toArray, lv]; exact hl, by simpa using rv⟩) (fun b u z => nomatch z) fun b z => (z rfl).elim
  | none =>
    refine all (fun b => if b = a then some (.frz { cls := .type "list", data := .seq vs.toArray } (.lst (ns.map V.int))) else none) (fun b => ?_) (.inl (.inr ⟨_, if_pos rfl⟩)) (fun b u z => ?_) fun b z => ?_
    · by_cases c : b = a
      · exact .inr ⟨_, _, if_pos c⟩
      · exact .inl (if_neg c)
    · by_cases c : b = a
      · cases (if_pos c).symm.trans z
        subst c
        exact ⟨ha, by rw [List.length_map]; exact hl, vs, _, rv, ha⟩
      · exact nomatch (if_neg c).symm.trans z
    · by_cases c : b = a
      · exact ⟨c, hk⟩
      · exact (z (if_neg c)).elim
theorem law_callG {P : Program} {w : World} {K : PySem.W.Frag} {mg mb : Str → Option Value} {CX : CXT} {k : Nat} {fa a : Addr} {fd : FuncData} {x : Str} {sp : Sp} {s₁ : Shared} {vs : List Value} {ns : List Int}
    (KX : K.In s₁.heap) (hns : s₁.heap.Ns mainGlobals mg) (hb : s₁.heap.Ns builtinsNs mb) (hbb : ∀ x : Str, x ≠ "__name__" → mb x = bootBuiltins x) (hlim : s₁.heap.NoLimit) (hg : s₁.gens = #[])
    (ha : s₁.heap.get? a = some { cls := .type "list", data := .seq vs.toArray }) (hi : IntsAre vs ns) (hl : ns.length ≤ sizeLine) (hr : Room k callerA)
    (F : ∀ base : Heap, K.In base → base.Ns mainGlobals mg → FnG P w K mg base CX k fa fd [x] sp) (hbind : ∀ (s : Shared) (u : Value), BindsTo s fd ⟨[u], []⟩ [(x, u)])
    (hsp : ∀ H : Hp, Only H → SqL K H a (ns.map V.int) → sp [.ref a] H (fun v _ => v = .bl true) fun _ _ _ => False) (hCX : ∀ H e s', CX [] H s₁ (fun _ _ _ => False) e s' → False) :
    codeAny (model P w) callerA (.call (.ref fa) ⟨[.ref a], []⟩) (fun r s' => r = .ok (.ret (.bool true)) ∧ OldK s₁.heap s'.heap ∧ s'.os = s₁.os ∧ AllBare s'.gens) s₁ := by
  obtain ⟨H, o, q, ok, kin, hn, e0⟩ := start_at (P := P) (w := w) KX hns hb hbb hlim hg ha hi hl
  refine codeAny_mono ((F _ kin hn).runG callerA [] s₁ H ⟨[.ref a], []⟩ [.ref a] [.ref a] _ _ rfl hr e0 (hbind s₁ (.ref a)) (.cons rfl .nil) (hsp H o q)) fun r s' h => ?_
  match r, h with
  | .error e, h => exact (hCX H e s' h).elim
  | .ok (.ret u), ⟨v, H', os, bare, un, ok', r', q⟩ =>
    have q : v = .bl true := q
    subst q
    obtain rfl : u = Value.bool true := r'
    refine ⟨rfl, OldK.of_keep fun b x e => ?_, os, bare⟩
    rcases o b with z | ⟨ob, xs, z⟩
    · exact un.keep b x e z List.not_mem_nil List.not_mem_nil
    · have z2 := un.frzs b ob _ z
      have e1 := (ok b _ z).1
      rw [e] at e1
      cases e1
      exact (ok' b _ z2).1
end L2
namespace DL
open PySem PySem.Spec PyProof.Rows L2
section
variable {P : Program} {w : World} {K : PySem.W.Frag} {mg : Str → Option Value} {base : Heap}
abbrev FnDG (P : Program) (w : World) (K : PySem.W.Frag) (mg : Str → Option Value) (base : Heap) (k : Nat) (f : Addr) (fd : FuncData) (ps : List Str) (sp : SpD) : Prop := FnG P w K mg base (L2.CX P w) k f fd ps (liftSp K sp)
theorem dl_defG {x qual : Str} {st : Stmt} {f : Addr} {fd : FuncData} {N ps : List Str} {k : Nat} {sp : SpD} (Fn : Fun K x qual st f fd) (S : FnScope N ps (defScope st)) (len : ∀ ds M Q E, sp ds M Q E → ds.length = ps.length) (g : DS)
    (hN : ps.length ≤ N.length)
    (hw : ∀ (cdv : Value) (A : Around) (outer : List Env) (s : Shared) (H : Hp) (E : XK), A.guards = some [] → Room k (A.deeper (envOfC qual (defScope st) s.heap.objs.size f cdv)) → FSs K (cxOf (L2.CX P w) P w K mg base N qual (defScope st) f cdv A outer s H E) (fun cls d _ H => E cls d H) (defBody st) g)
    (hg : ∀ ds M Q E, sp ds M Q E → g { nx := fun _ M => Q .non M, rt := Q, ex := fun x _ M => E x M } (startD N.length ds) M) : FnDG P w K mg base (k + 1) f fd ps sp := by
  refine fnG_of Fn S (fun vs H Q E h => ?_) (fun cdv A outer s H vs Q E gu hr h => ⟨_, hw cdv A outer s H E gu hr, ?_⟩)
  · obtain ⟨F, M, ds, Q', E', m, r, _, _, h⟩ := h
    rw [r.length]
    exact len _ _ _ _ h
  · obtain ⟨F, M, ds, Q', E', m, r, q, y, h⟩ := h
    obtain ⟨s1, s2⟩ := startD_ok (N := N) r (by rw [len _ _ _ _ h]; exact hN)
    exact tGs_mk (E' := { nx := fun _ M => Q' .non M, rt := Q', ex := fun x _ M => E' x M }) ⟨s1, m, s2⟩ ⟨fun F' H' ρ' M' σ' e' s' h' => q F' H' M' .non .non e' s'.mem Rp.non h', q, fun _ _ _ _ _ _ _ z => z.elim, fun _ _ _ _ _ _ _ z => z.elim, fun F' H' ρ' M' σ' x cls d e' s' r' h' => y F' H' M' x cls d e' s'.mem r' h'⟩ (hg ds M Q' E' h)
def OkDG (P : Program) (w : World) (K : PySem.W.Frag) (mg : Str → Option Value) (base : Heap) (k : Nat) (x : Str) (ps : List Str) (sp : SpD) : Prop :=
  ∃ fd, FnDG P w K mg base k (He.ga K x) fd ps sp ∧ Binds K fd ps [] ∧ PySem.W.keepIn K (.ref (He.ga K x)) = true ∧ mg x = some (.ref (He.ga K x)) ∧ ∃ oc od sl, K.lookup (He.ga K x) = some ⟨oc, od, .func fd, sl⟩
end
section
variable {X : Cx} {K : PySem.W.Frag} {W : WX} {pos : Pos} {e : Expr}
theorem fe_callOG {k : Nat} {ps : List Str} {sp : SpD} {x : Str} {p : Pos} {es : List Expr} {g : DA} (C : OkDG X.prog X.w K X.mg X.base k x ps sp) (gu : X.A.guards = some []) (hr : Room k X.A) (tk : Takes X W) (ha : FA K X W (e :: es) g)
    (hK : X.K = K := by rfl) (hg : Gl X x := by rfl) (hdb : (x == ("__debug__" : Str)) = false := by decide) (he : starEach (e :: es) X.env = (false, eval e X.env) :: starEach es X.env := by rfl) (hpl : (backTo pos (starEach es X.env)).any (·.1) = false := by rfl) :
    FE K X W (.Call (.Name x p) (e :: es) [] pos) (gCall sp g) := by
  obtain ⟨fd, F, b, kp, m, _⟩ := C
  subst hK
  exact PE.imp (pe_callG F gu hr hg m kp b (fun σ => passAt tk σ) ha hdb he hpl) call_im
end
theorem walk_ofG {l : PySem.W.OpenLaw} {n k : Nat} {q : Program} {loose : List Str} {XP : (Str → Option Value) → Heap → Prop} {YP : World → Heap → Prop} {d : DefRec} {x : Str} (hn : l.most = some n) (hn2 : n ≤ sizeLine) (hdf : d.params.defaults = []) (hr : Room k callerA)
    (F : ∀ (w : World) (mg : Str → Option Value) (fa : Addr) (h : Heap), YP w h → h.Ns mainGlobals mg → mg d.name = some (.ref fa) → ∃ (K : PySem.W.Frag) (fd : FuncData) (sp : SpD), K.In h ∧ (∀ (s : Shared) (u : Value), BindsTo s fd ⟨[u], []⟩ [(x, u)]) ∧
      (∀ ns : List Int, sp [.scr ns] (fun _ => none) (fun d _ => d = .bl true) fun _ _ => False) ∧ ∀ base : Heap, K.In base → base.Ns mainGlobals mg → FnDG l.prog w K mg base k fa fd [x] sp) : PySem.W.WalkO q loose XP YP l.row.toRowW d [] (fun f vs => PySem.call f vs) := by
  refine Att.attach_call hn hdf fun w s₀ s₁ mg mb fa o pm cd doc a vs ns G Y ho hd hcd hmg hobj hints hlen hg => ?_; obtain ⟨K, fd, sp, KX, hb, hsp, hF⟩ := F w mg fa _ Y G.T.g hmg
  refine law_callG KX G.T.g G.T.b G.T.builtins G.T.nolimit hg hobj hints (Nat.le_trans hlen hn2) hr hF hb (fun H hO hS => ?_) fun H e s' z => ?_
  · refine ⟨fun _ => False, fun _ => none, [.scr ns], fun d _ => d = .bl true, fun _ _ => False, ⟨fun _ f => f.elim, fun a o e => by cases e⟩, .cons ?_ .nil, fun F' H' M' d v _ _ r e => ?_, fun _ _ _ _ _ _ _ _ _ z => z.elim, hsp ns⟩
    · unfold Rp
      refine ⟨a, rfl, ?_⟩
      rcases hS with (h | ⟨o, h⟩) | h
      · rcases hO a with z | ⟨o, xs, z⟩
        · rw [z] at h; cases h
        · rw [z] at h; cases h
      · exact .inl ⟨o, h⟩
      · exact .inr fun H' => .inr h
    · subst e
      exact r.bl_inv
  · obtain ⟨_, _, _, _, _, _, _, _, _, _, _, _, z⟩ := z
    exact z.elim
end DL
namespace DL
open PySem PySem.Spec PyProof.Rows L2
def dIsXT (K : PySem.W.Frag) (cls : Value) (a : Addr) (d : Option Addr) (D : Addr) : DRs := fun ds M Q => match ds with
  | [y, .ty n] => cls = .ref D ∧ (∃ fs, y = .xo a d fs) ∧ ∃ b, PySem.W.kitOne K (.ref D) (.type n) = some b ∧ Q (.bl b) M
  | _ => False
theorem cd_isXT {X : Cx} {K : PySem.W.Frag} {a D : Addr} {oe : Obj} {cls : Value} {d : Option Addr} {pn : List (Addr × Obj)} (hK : X.K = K) (C : ExcC K D) (hz : Zc cls d oe) (hf : ∃ vs, oe.data = .fields vs) : CallD K (X.suite a ((a, oe) :: pn)) (.builtin "isinstance") (dIsXT K cls a d D) := by
  subst hK
  intro pins s σ H xs us Q I r h
  obtain ⟨F, M, ds, Q', m, rr, q, h⟩ := h
  match ds, h with
  | [y, .ty n], h =>
    obtain ⟨rfl, ⟨fs, rfl⟩, b, e, h⟩ := h
    obtain ⟨v, w, rfl, r1, r2⟩ := rr.two
    unfold Rp at r1 r2
    obtain ⟨rfl, gs, r3, r4⟩ := r1
    subst r2
    refine call_isX C hz hf pins s σ H _ us Q I r ⟨.ty n, .type n, b, rfl, fun u z => z, e, fun dd ed => ?_, q F H M _ _ (Ext.refl _ _ _) m Rp.bl h⟩
    subst ed
    exact ⟨gs, r3⟩
theorem bt_ValueError : bootBuiltins "ValueError" = some (.type "ValueError") := by decide +kernel
def isvB (K : PySem.W.Frag) (x : Str) (n : String) (b : Bool) : Bool := decide (PySem.W.kitOne K (.ref (He.ga K x)) (.type n) = some b)
theorem isvB_ok {K : PySem.W.Frag} {x : Str} {n : String} {b : Bool} (q : isvB K x n b = true) : PySem.W.kitOne K (.ref (He.ga K x)) (.type n) = some b := of_decide_eq_true q
theorem q_repr {M : Mem} {Q : DVK} {x : D} : dRepr [x] M Q = (∃ p, Vw M x p ∧ SeqAt.shaped p = true ∧ p.showable = true ∧ p.shown.length ≤ sizeLine ∧ ((∃ i, p = .int i) ∨ ∃ ps, p = .tuple ps ∨ p = .list ps) ∧ Q (.str p.shown) M) := rfl
theorem q_isXT {K : PySem.W.Frag} {cls : Value} {a D : Addr} {d : Option Addr} {y : DL.D} {n : String} {M : Mem} {Q : DVK} : dIsXT K cls a d D [y, .ty n] M Q = (cls = .ref D ∧ (∃ fs, y = .xo a d fs) ∧ ∃ b, PySem.W.kitOne K (.ref D) (.type n) = some b ∧ Q (.bl b) M) := rfl
end DL

set_option maxHeartbeats 0
namespace LW
open PySem PySem.Spec PyProof.Rows L2 DL
def top (i : Nat) : Stmt := PySem.Challenge.pw_dicewins_k52_chains_rests_raised_cut_bac.main.body.getD i (.Pass ⟨0, 0, 0, 0⟩)
abbrev s_is_int : Stmt := top 5
abbrev s_is_row : Stmt := top 6
abbrev s_common_divisor : Stmt := top 7
abbrev s_lowest : Stmt := top 9
abbrev s_fraction : Stmt := top 10
abbrev s_told_chance : Stmt := top 11
abbrev s_both_fractions : Stmt := top 12
abbrev s_taken_off : Stmt := top 13
abbrev s_divided : Stmt := top 14
abbrev s__chances_of : Stmt := top 16
abbrev s_rests : Stmt := top 17
abbrev s_closes_at : Stmt := top 18
abbrev s_rest_of : Stmt := top 19
abbrev s__law_draws : Stmt := top 21
abbrev s__law_take : Stmt := top 22
abbrev s__law_int : Stmt := top 23
abbrev s__law_divisor : Stmt := top 24
abbrev s__law_is_fraction : Stmt := top 25
abbrev s__law_same_worth : Stmt := top 26
abbrev s__law_at_most : Stmt := top 27
abbrev s__law_chance : Stmt := top 28
abbrev s__law_closes : Stmt := top 29
abbrev s__law_loss : Stmt := top 30
abbrev s__law_pair : Stmt := top 31
abbrev s__law_losses : Stmt := top 32
abbrev s__law_rests_due : Stmt := top 33
abbrev s__law_tells : Stmt := top 34
abbrev s__law_closed_by : Stmt := top 35
abbrev s__law_raised : Stmt := top 36
abbrev s__law_longer : Stmt := top 37
abbrev s__law_forced : Stmt := top 38
abbrev s__law_quarters : Stmt := top 39
abbrev s__law_back : Stmt := top 40
abbrev s__law_backwards : Stmt := top 41
abbrev s__law_cut : Stmt := top 42
abbrev s__law_edge : Stmt := top 43
abbrev s__law_refusal : Stmt := top 44
abbrev s__law_refuses : Stmt := top 45
abbrev s_law : Stmt := top 46
abbrev s_BadNumber_init : Stmt := inClass (top 2) 0
abbrev s_TooMany_init : Stmt := inClass (top 3) 0
def d_is_int : He.DefD := ⟨("is_int", none), "is_int", "is_int", defArgs s_is_int, defBody s_is_int, defScope s_is_int, [], []⟩
def d_is_row : He.DefD := ⟨("is_row", none), "is_row", "is_row", defArgs s_is_row, defBody s_is_row, defScope s_is_row, [], []⟩
def d_common_divisor : He.DefD := ⟨("common_divisor", none), "common_divisor", "common_divisor", defArgs s_common_divisor, defBody s_common_divisor, defScope s_common_divisor, [], []⟩
def d_lowest : He.DefD := ⟨("lowest", none), "lowest", "lowest", defArgs s_lowest, defBody s_lowest, defScope s_lowest, [], []⟩
def d_fraction : He.DefD := ⟨("fraction", none), "fraction", "fraction", defArgs s_fraction, defBody s_fraction, defScope s_fraction, [], []⟩
def d_told_chance : He.DefD := ⟨("told_chance", none), "told_chance", "told_chance", defArgs s_told_chance, defBody s_told_chance, defScope s_told_chance, [], []⟩
def d_both_fractions : He.DefD := ⟨("both_fractions", none), "both_fractions", "both_fractions", defArgs s_both_fractions, defBody s_both_fractions, defScope s_both_fractions, [], []⟩
def d_taken_off : He.DefD := ⟨("taken_off", none), "taken_off", "taken_off", defArgs s_taken_off, defBody s_taken_off, defScope s_taken_off, [], []⟩
def d_divided : He.DefD := ⟨("divided", none), "divided", "divided", defArgs s_divided, defBody s_divided, defScope s_divided, [], []⟩
def d__chances_of : He.DefD := ⟨("_chances_of", none), "_chances_of", "_chances_of", defArgs s__chances_of, defBody s__chances_of, defScope s__chances_of, [], []⟩
def d_rests : He.DefD := ⟨("rests", none), "rests", "rests", defArgs s_rests, defBody s_rests, defScope s_rests, [], []⟩
def d_closes_at : He.DefD := ⟨("closes_at", none), "closes_at", "closes_at", defArgs s_closes_at, defBody s_closes_at, defScope s_closes_at, [], []⟩
def d_rest_of : He.DefD := ⟨("rest_of", none), "rest_of", "rest_of", defArgs s_rest_of, defBody s_rest_of, defScope s_rest_of, [], []⟩
def d__law_draws : He.DefD := ⟨("_law_draws", none), "_law_draws", "_law_draws", defArgs s__law_draws, defBody s__law_draws, defScope s__law_draws, [], []⟩
def d__law_take : He.DefD := ⟨("_law_take", none), "_law_take", "_law_take", defArgs s__law_take, defBody s__law_take, defScope s__law_take, [], []⟩
def d__law_int : He.DefD := ⟨("_law_int", none), "_law_int", "_law_int", defArgs s__law_int, defBody s__law_int, defScope s__law_int, [], []⟩
def d__law_divisor : He.DefD := ⟨("_law_divisor", none), "_law_divisor", "_law_divisor", defArgs s__law_divisor, defBody s__law_divisor, defScope s__law_divisor, [], []⟩
def d__law_is_fraction : He.DefD := ⟨("_law_is_fraction", none), "_law_is_fraction", "_law_is_fraction", defArgs s__law_is_fraction, defBody s__law_is_fraction, defScope s__law_is_fraction, [], []⟩
def d__law_same_worth : He.DefD := ⟨("_law_same_worth", none), "_law_same_worth", "_law_same_worth", defArgs s__law_same_worth, defBody s__law_same_worth, defScope s__law_same_worth, [], []⟩
def d__law_at_most : He.DefD := ⟨("_law_at_most", none), "_law_at_most", "_law_at_most", defArgs s__law_at_most, defBody s__law_at_most, defScope s__law_at_most, [], []⟩
def d__law_chance : He.DefD := ⟨("_law_chance", none), "_law_chance", "_law_chance", defArgs s__law_chance, defBody s__law_chance, defScope s__law_chance, [], []⟩
def d__law_closes : He.DefD := ⟨("_law_closes", none), "_law_closes", "_law_closes", defArgs s__law_closes, defBody s__law_closes, defScope s__law_closes, [], []⟩
def d__law_loss : He.DefD := ⟨("_law_loss", none), "_law_loss", "_law_loss", defArgs s__law_loss, defBody s__law_loss, defScope s__law_loss, [], []⟩
def d__law_pair : He.DefD := ⟨("_law_pair", none), "_law_pair", "_law_pair", defArgs s__law_pair, defBody s__law_pair, defScope s__law_pair, [], []⟩
def d__law_losses : He.DefD := ⟨("_law_losses", none), "_law_losses", "_law_losses", defArgs s__law_losses, defBody s__law_losses, defScope s__law_losses, [], []⟩
def d__law_rests_due : He.DefD := ⟨("_law_rests_due", none), "_law_rests_due", "_law_rests_due", defArgs s__law_rests_due, defBody s__law_rests_due, defScope s__law_rests_due, [], []⟩
def d__law_tells : He.DefD := ⟨("_law_tells", none), "_law_tells", "_law_tells", defArgs s__law_tells, defBody s__law_tells, defScope s__law_tells, [], []⟩
def d__law_closed_by : He.DefD := ⟨("_law_closed_by", none), "_law_closed_by", "_law_closed_by", defArgs s__law_closed_by, defBody s__law_closed_by, defScope s__law_closed_by, [], []⟩
def d__law_raised : He.DefD := ⟨("_law_raised", none), "_law_raised", "_law_raised", defArgs s__law_raised, defBody s__law_raised, defScope s__law_raised, [], []⟩
def d__law_longer : He.DefD := ⟨("_law_longer", none), "_law_longer", "_law_longer", defArgs s__law_longer, defBody s__law_longer, defScope s__law_longer, [], []⟩
def d__law_forced : He.DefD := ⟨("_law_forced", none), "_law_forced", "_law_forced", defArgs s__law_forced, defBody s__law_forced, defScope s__law_forced, [], []⟩
def d__law_quarters : He.DefD := ⟨("_law_quarters", none), "_law_quarters", "_law_quarters", defArgs s__law_quarters, defBody s__law_quarters, defScope s__law_quarters, [], []⟩
def d__law_back : He.DefD := ⟨("_law_back", none), "_law_back", "_law_back", defArgs s__law_back, defBody s__law_back, defScope s__law_back, [], []⟩
def d__law_backwards : He.DefD := ⟨("_law_backwards", none), "_law_backwards", "_law_backwards", defArgs s__law_backwards, defBody s__law_backwards, defScope s__law_backwards, [], []⟩
def d__law_cut : He.DefD := ⟨("_law_cut", none), "_law_cut", "_law_cut", defArgs s__law_cut, defBody s__law_cut, defScope s__law_cut, [], []⟩
def d__law_edge : He.DefD := ⟨("_law_edge", none), "_law_edge", "_law_edge", defArgs s__law_edge, defBody s__law_edge, defScope s__law_edge, [], []⟩
def d__law_refusal : He.DefD := ⟨("_law_refusal", none), "_law_refusal", "_law_refusal", defArgs s__law_refusal, defBody s__law_refusal, defScope s__law_refusal, [], []⟩
def d__law_refuses : He.DefD := ⟨("_law_refuses", none), "_law_refuses", "_law_refuses", defArgs s__law_refuses, defBody s__law_refuses, defScope s__law_refuses, [], []⟩
def d_law : He.DefD := ⟨("law", none), "law", "law", defArgs s_law, defBody s_law, defScope s_law, [], []⟩
def d_BadNumber_init : He.DefD := ⟨("BadNumber", some "__init__"), "__init__", "BadNumber.__init__", defArgs s_BadNumber_init, defBody s_BadNumber_init, defScope s_BadNumber_init, [], []⟩
def d_TooMany_init : He.DefD := ⟨("TooMany", some "__init__"), "__init__", "TooMany.__init__", defArgs s_TooMany_init, defBody s_TooMany_init, defScope s_TooMany_init, [], []⟩
def fn : List He.DefD := [d_is_int, d_is_row, d_common_divisor, d_lowest, d_fraction, d_told_chance, d_both_fractions, d_taken_off, d_divided, d__chances_of, d_rests, d_closes_at, d_rest_of, d__law_draws, d__law_take, d__law_int, d__law_divisor, d__law_is_fraction, d__law_same_worth, d__law_at_most, d__law_chance, d__law_closes, d__law_loss, d__law_pair, d__law_losses, d__law_rests_due, d__law_tells, d__law_closed_by, d__law_raised, d__law_longer, d__law_forced, d__law_quarters, d__law_back, d__law_backwards, d__law_cut, d__law_edge, d__law_refusal, d__law_refuses, d_law, d_BadNumber_init, d_TooMany_init]
def fa0 : List He.Fa := [.glo "is_int", .glo "is_row", .glo "common_divisor", .glo "lowest", .glo "fraction", .glo "told_chance", .glo "both_fractions", .glo "taken_off", .glo "divided", .glo "_chances_of", .glo "rests", .glo "closes_at", .glo "rest_of", .glo "_law_draws", .glo "_law_take", .glo "_law_int", .glo "_law_divisor", .glo "_law_is_fraction", .glo "_law_same_worth", .glo "_law_at_most", .glo "_law_chance", .glo "_law_closes", .glo "_law_loss", .glo "_law_pair"]
def fa1 : List He.Fa := [.glo "_law_losses", .glo "_law_rests_due", .glo "_law_tells", .glo "_law_closed_by", .glo "_law_raised", .glo "_law_longer", .glo "_law_forced", .glo "_law_quarters", .glo "_law_back", .glo "_law_backwards", .glo "_law_cut", .glo "_law_edge", .glo "_law_refusal", .glo "_law_refuses", .glo "law", .glo "DiceError", .glo "BadNumber", .glo "TooMany", .free "ValueError", .free "abs", .free "bool", .free "int", .free "isinstance", .free "len"]
def fa2 : List He.Fa := [.free "list", .free "min", .free "range", .free "repr", .free "reversed", .free "tuple"]
def fa : List He.Fa := fa0 ++ fa1 ++ fa2
def ex0 (K : PySem.W.Frag) : Bool := DL.exB K "DiceError" [] false && (DL.exB K "BadNumber" ["name"] true && (DL.exB K "TooMany" ["name"] true && (DL.exmB K "DiceError" "DiceError" true && (DL.exmB K "DiceError" "BadNumber" false && (DL.exmB K "DiceError" "TooMany" false && (DL.isiB K "DiceError" "DiceError" true && (DL.isiB K "DiceError" "BadNumber" false && (DL.isiB K "DiceError" "TooMany" false && (DL.exmB K "BadNumber" "DiceError" true && (DL.exmB K "BadNumber" "BadNumber" true && (DL.exmB K "BadNumber" "TooMany" false && (DL.isiB K "BadNumber" "DiceError" true && (DL.isiB K "BadNumber" "BadNumber" true && (DL.isiB K "BadNumber" "TooMany" false && (DL.exmB K "TooMany" "DiceError" true && (DL.exmB K "TooMany" "BadNumber" false && (DL.exmB K "TooMany" "TooMany" true && (DL.isiB K "TooMany" "DiceError" true && (DL.isiB K "TooMany" "BadNumber" false && (DL.isiB K "TooMany" "TooMany" true && (DL.isvB K "DiceError" "ValueError" true && (DL.isvB K "BadNumber" "ValueError" true && (DL.isvB K "TooMany" "ValueError" true)))))))))))))))))))))))
def ex (K : PySem.W.Frag) : Bool := ex0 K
def loose0 : List PySem.Str := ["DiceError", "BadNumber", "TooMany", "is_int", "is_row", "common_divisor", "lowest", "fraction", "told_chance", "both_fractions", "taken_off", "divided", "_chances_of", "rests", "closes_at", "rest_of", "_law_draws", "_law_take", "_law_int", "_law_divisor", "_law_is_fraction", "_law_same_worth", "_law_at_most", "_law_chance"]
def loose1 : List PySem.Str := ["_law_closes", "_law_loss", "_law_pair", "_law_losses", "_law_rests_due", "_law_tells", "_law_closed_by", "_law_raised", "_law_longer", "_law_forced", "_law_quarters", "_law_back", "_law_backwards", "_law_cut", "_law_edge", "_law_refusal", "_law_refuses"]
def loose : List PySem.Str := loose0 ++ loose1
abbrev R : PySem.W.OpenRow := PySem.W.OpenLaw.row PySem.Challenge.rw_dicewins_k52_chains_rests_raised_cut_bac
abbrev hk : PySem.W.Hook := He.hookX 4 fa fn [] [] ex
def ob (s : PySem.W.SharedT) : He.AlX := He.obsX 4 fa fn [] [] ex (HandSHeadRun.getT s)
theorem ob_eq (s : PySem.W.SharedT) : ob s = hk.obs s.abs := He.obsX_eq (HandSHeadRun.getT_eq s)
theorem run (w : World) : HandSHeadRun.RunEq R (PySem.W.view R.prog [46]) hk ob 12000 loose w := by
  intro os
  kernel_rfl
end LW

namespace LW
open PySem PySem.Spec PyProof.Rows L2 DL
abbrev iD (ns : List Int) : List D := ns.map D.int
def nb (n : Nat) (x : Int) : Prop := x.natAbs < 2 ^ n
def kindB : D → Bool
  | .non => true
  | .bl _ => true
  | .int _ => true
  | .str _ => true
  | .tup _ => true
  | .lst _ => true
  | _ => false
def Pool (M : Mem) (p : Addr) : Prop := ∃ xs : List Int, M p = some (.lst (iD xs))
def xBN (K : PySem.W.Frag) (s : Str) : DX := exOf (He.ga K "BadNumber") ["name"] [.str s]
def gcdL (ns : List Int) : Nat := ns.foldl (fun g a => Nat.gcd g a.natAbs) 0
def lo (t b : Int) : Int × Int := (t / (Int.gcd t b : Int), b / (Int.gcd t b : Int))
def frD (t b : Int) : D := .tup [.int (lo t b).1, .int (lo t b).2]
def fracC (K : PySem.W.Frag) (M : Mem) (v : D) (nm : Str) (E : DXK) (k : Int → Int → Prop) : Prop := (∃ t, v = .int t ∧ nb 1000 t ∧ k t 1) ∨ (∃ t b, RowD M v [.int t, .int b] ∧ 1 ≤ b ∧ nb 1000 t ∧ nb 1000 b ∧ k t b) ∨
  ((∀ t, v ≠ .int t) ∧ ((∃ t, kdOf M v = some t ∧ t ≠ .int ∧ t ≠ .tuple ∧ t ≠ .list) ∨ (∃ xs, RowD M v xs ∧ xs.length ≠ 2) ∨ ∃ x y, RowD M v [x, y] ∧ kindB x = true ∧ kindB y = true ∧ ¬ ∃ t b : Int, x = .int t ∧ y = .int b ∧ 1 ≤ b) ∧ E (xBN K nm) M)
def twoF (K : PySem.W.Frag) (M : Mem) (a b : D) (E : DXK) (k : Int → Int → Int → Int → Prop) : Prop := fracC K M a "first" E fun t b' => fracC K M b "second" E fun u v => k t b' u v
def sp_is_int (K : PySem.W.Frag) : SpD := sp1 fun d M Q E => ∃ k, kdOf M d = some k ∧ Q (.bl (k == .int)) M
def sp_is_row (K : PySem.W.Frag) : SpD := sp1 fun d M Q E => ∃ k, kdOf M d = some k ∧ Q (.bl (k == .tuple || k == .list)) M
def sp_common_divisor (K : PySem.W.Frag) : SpD := sp1 fun r M Q E => ∃ ns : List Int, RowD M r (iD ns) ∧ (∀ a ∈ ns, nb 4000 a) ∧ Q (.int (gcdL ns : Nat)) M
def sp_lowest (K : PySem.W.Frag) : SpD := sp2 fun t b M Q E => ∃ t' b' : Int, t = .int t' ∧ b = .int b' ∧ 0 < b' ∧ nb 3000 t' ∧ nb 3000 b' ∧ Q (frD t' b') M
def sp_fraction (K : PySem.W.Frag) : SpD := sp2 fun v n M Q E => ∃ nm : Str, n = .str nm ∧ fracC K M v nm E fun t b => Q (frD t b) M
def sp_both_fractions (K : PySem.W.Frag) : SpD := sp2 fun a b M Q E => twoF K M a b E fun t b u v => Q (.tup [.int (lo t b).1, .int (lo t b).2, .int (lo u v).1, .int (lo u v).2]) M
def sp_taken_off (K : PySem.W.Frag) : SpD := sp2 fun a b M Q E => twoF K M a b E fun t b u v => Q (frD (t * v - u * b) (b * v)) M
def sp_divided (K : PySem.W.Frag) : SpD := sp2 fun a b M Q E => twoF K M a b E fun t b u v => if u = 0 then E (xBN K "divisor") M else if u < 0 then Q (frD (-t * v) (-u * b)) M else Q (frD (t * v) (u * b)) M
def sp__law_draws (K : PySem.W.Frag) : SpD := sp1 fun d M Q E => ∃ ns : List Int, d = .scr ns ∧ ∀ p xs, M p = none → Q (.ref p) (mset M p (.lst (iD xs)))
def sp__law_take (K : PySem.W.Frag) : SpD := sp2 fun d m M Q E => ∃ (p : Addr) (n : Int), d = .ref p ∧ m = .int n ∧ 0 < n ∧ Pool M p ∧ ∀ (r : Int) (xs : List Int), 0 ≤ r → r < n → Q (.int r) (mset M p (.lst (iD xs)))
def sp__law_int (K : PySem.W.Frag) : SpD := sp1 fun d M Q E => ∃ k, kdOf M d = some k ∧ Q (.bl (k == .int)) M
def sp__law_divisor (K : PySem.W.Frag) : SpD := sp2 fun a b M Q E => ∃ x y : Int, a = .int x ∧ b = .int y ∧ 0 ≤ y ∧ nb 1500 y ∧ Q (.int (Int.gcd x y : Nat)) M
def sp__law_is_fraction (K : PySem.W.Frag) : SpD := sp1 fun v M Q E => ∃ t b : Int, v = frD t b ∧ 0 < b ∧ nb 1400 b ∧ Q (.bl true) M
def sp__law_same_worth (K : PySem.W.Frag) : SpD := sp2 fun x y M Q E => ∃ a b c d : Int, x = .tup [.int a, .int b] ∧ y = .tup [.int c, .int d] ∧ nb 1500 a ∧ nb 1500 b ∧ nb 1500 c ∧ nb 1500 d ∧ Q (.bl (decide (a * d = c * b))) M
def chanceC (K : PySem.W.Frag) (M : Mem) (v : D) (nm : Str) (E : DXK) (k : Int → Int → Prop) : Prop := fracC K M v nm E fun t b => if t < 0 ∨ b < t then E (xBN K nm) M else k t b
def sp_told_chance (K : PySem.W.Frag) : SpD := sp2 fun v n M Q E => ∃ nm : Str, n = .str nm ∧ chanceC K M v nm E fun t b => Q (frD t b) M
def sp__law_at_most (K : PySem.W.Frag) : SpD := sp2 fun x y M Q E => ∃ a b c d : Int, x = .tup [.int a, .int b] ∧ y = .tup [.int c, .int d] ∧ nb 1500 a ∧ nb 1500 b ∧ nb 1500 c ∧ nb 1500 d ∧ Q (.bl (decide (a * d ≤ c * b))) M
abbrev PP := Int × Int
def prD (c : PP) : D := .tup [.int c.1, .int c.2]
def frP (c : PP) : D := frD c.1 c.2
def nxt (c r : PP) : PP := (c.2 * r.1 - c.1 * r.2, c.2 * r.1)
def restsF : List PP → PP → List PP
  | [], r => [r]
  | c :: cs, r => if 0 < r.1 then r :: restsF cs (nxt c r) else [r]
def finF : List PP → PP → PP
  | [], r => r
  | c :: cs, r => if 0 < r.1 then finF cs (nxt c r) else r
def restsL (cs : List PP) : List PP := restsF cs (1, 1)
def finL (cs : List PP) : PP := finF cs (1, 1)
def cloL (cs : List PP) : Option Nat := if (finL cs).1 ≤ 0 then some ((restsL cs).length - 1) else none
def cloD (cs : List PP) : D := match cloL cs with
  | some n => .int (n : Nat)
  | none => .non
def rofD (cs : List PP) : D := if (finL cs).1 ≤ 0 then .non else frP (finL cs)
def ChOk (c : PP) : Prop := 0 ≤ c.1 ∧ c.1 ≤ c.2 ∧ 1 ≤ c.2 ∧ c.2 ≤ 1000000
def ChsOk (cs : List PP) : Prop := cs.length ≤ 17 ∧ ∀ c ∈ cs, ChOk c
def chsC (K : PySem.W.Frag) (M : Mem) (E : DXK) : List D → (List PP → Prop) → Prop
  | [], k => k []
  | d :: ds, k => chanceC K M d "losses" E fun t b => chsC K M E ds fun cs => k ((t, b) :: cs)
def lossC (K : PySem.W.Frag) (M : Mem) (d : D) (E : DXK) (k : List PP → Prop) : Prop :=
  (∃ t, kdOf M d = some t ∧ t ≠ .tuple ∧ t ≠ .list ∧ E (xBN K "losses") M) ∨ ∃ ds, RowD M d ds ∧ ds.length ≤ 17 ∧ chsC K M E ds fun cs => ChsOk cs ∧ k cs
def sp__chances_of (K : PySem.W.Frag) : SpD := sp3 fun d n l M Q E => n = .str "losses" ∧ l = .int 0 ∧ lossC K M d E fun cs => Q (.tup (cs.map frP)) M
def sp_rests (K : PySem.W.Frag) : SpD := sp1 fun d M Q E => lossC K M d E fun cs => Q (.tup ((restsL cs).map frP)) M
def sp_closes_at (K : PySem.W.Frag) : SpD := sp1 fun d M Q E => lossC K M d E fun cs => Q (cloD cs) M
def sp_rest_of (K : PySem.W.Frag) : SpD := sp1 fun d M Q E => lossC K M d E fun cs => Q (rofD cs) M
inductive Ls where
  | i (x : Int)
  | t (a b : Int)
  | l (a b : Int)
def Ls.d : Ls → D
  | .i x => .int x
  | .t a b => .tup [.int a, .int b]
  | .l a b => .lst [.int a, .int b]
def Ls.c : Ls → PP
  | .i x => (x, 1)
  | .t a b => (a, b)
  | .l a b => (a, b)
def LsOk (ls : List Ls) : Prop := ls.length ≤ 16 ∧ ∀ l ∈ ls, ChOk l.c
abbrev lsD (ls : List Ls) : D := .lst (ls.map Ls.d)
abbrev lsC (ls : List Ls) : List PP := ls.map Ls.c
def sp__law_chance (K : PySem.W.Frag) : SpD := sp1 fun d M Q E => ∃ p, d = .ref p ∧ Pool M p ∧ ∀ (c : PP) (xs : List Int), 0 ≤ c.1 → c.1 ≤ c.2 → 1 ≤ c.2 → c.2 ≤ 13 → Q (prD c) (mset M p (.lst (iD xs)))
def sp__law_loss (K : PySem.W.Frag) : SpD := sp1 fun d M Q E => ∃ p, d = .ref p ∧ Pool M p ∧ ∀ (l : Ls) (xs : List Int), ChOk l.c → Q l.d (mset M p (.lst (iD xs)))
def sp__law_losses (K : PySem.W.Frag) : SpD := sp1 fun d M Q E => ∃ p, d = .ref p ∧ Pool M p ∧ ∀ (ls : List Ls) (xs : List Int), LsOk ls → Q (lsD ls) (mset M p (.lst (iD xs)))
def sp__law_pair (K : PySem.W.Frag) : SpD := sp1 fun d M Q E => ∃ l : Ls, d = l.d ∧ Q (prD l.c) M
def sp__law_rests_due (K : PySem.W.Frag) : SpD := sp1 fun d M Q E => ∃ cs, d = .lst (cs.map prD) ∧ ChsOk cs ∧ Q (.lst ((restsL cs).map prD)) M
def cloI : List PP → Int → Int → Int → Nat → Option Nat
  | [], _, _, _, _ => none
  | c :: cs, bef, now, bot, i => if c.2 * now - c.1 * bot * bef ≤ 0 then some (i + 1) else cloI cs now (c.2 * now - c.1 * bot * bef) c.2 (i + 1)
def optD : Option Nat → D
  | some n => .int (n : Nat)
  | none => .non
def sp__law_closes (K : PySem.W.Frag) : SpD := sp1 fun d M Q E => ∃ cs, d = .lst (cs.map prD) ∧ ChsOk cs ∧ Q (optD (cloI cs 1 1 1 0)) M
def sp__law_tells (K : PySem.W.Frag) : SpD := sp1 fun d M Q E => ∃ ls, d = lsD ls ∧ LsOk ls ∧ Q (.bl true) M
def byB (cs : List PP) (k : Int) : Bool := match cloL cs with
  | some n => decide (((n : Nat) : Int) ≤ k)
  | none => false
def sp__law_closed_by (K : PySem.W.Frag) : SpD := sp2 fun d k M Q E => ∃ (ls : List Ls) (n : Int), d = lsD ls ∧ ls.length ≤ 17 ∧ (∀ l ∈ ls, ChOk l.c) ∧ k = .int n ∧ Q (.bl (byB (lsC ls) n)) M
def sp__law_raised (K : PySem.W.Frag) : SpD := sp3 fun d k w M Q E => ∃ ls, ∃ n : Nat, ∃ i : Int, d = lsD ls ∧ LsOk ls ∧ k = .int (n : Nat) ∧ n < ls.length ∧ w = .int i ∧ 0 ≤ i ∧ i < 3 ∧ Q (.bl true) M
def sp__law_longer (K : PySem.W.Frag) : SpD := sp2 fun d e M Q E => ∃ (ls : List Ls) (l : Ls), d = lsD ls ∧ LsOk ls ∧ e = l.d ∧ ChOk l.c ∧ Q (.bl true) M
def sp__law_forced (K : PySem.W.Frag) : SpD := sp1 fun d M Q E => ∃ ls, d = lsD ls ∧ LsOk ls ∧ Q (.bl true) M
def sp__law_quarters (K : PySem.W.Frag) : SpD := sp1 fun d M Q E => ∃ n : Nat, d = .int (n : Nat) ∧ n ≤ 16 ∧ Q (.bl true) M
def sp__law_back (K : PySem.W.Frag) : SpD := sp1 fun d M Q E => ∃ ds, d = .lst ds ∧ Q (.lst ds.reverse) M
def sp__law_backwards (K : PySem.W.Frag) : SpD := sp1 fun d M Q E => ∃ ls, d = lsD ls ∧ LsOk ls ∧ Q (.bl true) M
def sp__law_cut (K : PySem.W.Frag) : SpD := sp2 fun d k M Q E => ∃ ls, ∃ n : Nat, d = lsD ls ∧ LsOk ls ∧ k = .int (n : Nat) ∧ n < ls.length ∧ Q (.bl true) M
def sp__law_edge (K : PySem.W.Frag) : SpD := sp1 fun d M Q E => ∃ p, d = .ref p ∧ Pool M p ∧ ∀ xs : List Int, Q (.bl true) (mset M p (.lst (iD xs)))
def refX (K : PySem.W.Frag) (Q : DVK) : DXK := fun x M => ∃ s, x = xBN K s ∧ Q (.lst [.str "number", .str s, .bl true]) M
def sp__law_refusal (K : PySem.W.Frag) : SpD := sp2 fun w d M Q E => ∃ i : Int, w = .int i ∧ 0 ≤ i ∧ i < 3 ∧ lossC K M d (refX K Q) fun _ => Q (.lst [.str "nothing", .str "", .bl false]) M
def sp__law_refuses (K : PySem.W.Frag) : SpD := sp2 fun d e M Q E => ∃ p ls, d = .ref p ∧ Pool M p ∧ e = lsD ls ∧ LsOk ls ∧ ∀ xs : List Int, Q (.bl true) (mset M p (.lst (iD xs)))
def sp_law (K : PySem.W.Frag) : SpD := sp1 fun d M Q E => ∃ ns : List Int, d = .scr ns ∧ ∀ M', Q (.bl true) M'
end LW

set_option maxHeartbeats 0
namespace LW
open PySem PySem.Spec PyProof.Rows L2 DL
structure Tx (K : PySem.W.Frag) (mg : Str → Option Value) : Prop where
  g_is_int : mg "is_int" = some (.ref (He.ga K "is_int"))
  F_is_int : ∃ fd, Fun K "is_int" "is_int" s_is_int (He.ga K "is_int") fd
  g_is_row : mg "is_row" = some (.ref (He.ga K "is_row"))
  F_is_row : ∃ fd, Fun K "is_row" "is_row" s_is_row (He.ga K "is_row") fd
  g_common_divisor : mg "common_divisor" = some (.ref (He.ga K "common_divisor"))
  F_common_divisor : ∃ fd, Fun K "common_divisor" "common_divisor" s_common_divisor (He.ga K "common_divisor") fd
  g_lowest : mg "lowest" = some (.ref (He.ga K "lowest"))
  F_lowest : ∃ fd, Fun K "lowest" "lowest" s_lowest (He.ga K "lowest") fd
  g_fraction : mg "fraction" = some (.ref (He.ga K "fraction"))
  F_fraction : ∃ fd, Fun K "fraction" "fraction" s_fraction (He.ga K "fraction") fd
  g_told_chance : mg "told_chance" = some (.ref (He.ga K "told_chance"))
  F_told_chance : ∃ fd, Fun K "told_chance" "told_chance" s_told_chance (He.ga K "told_chance") fd
  g_both_fractions : mg "both_fractions" = some (.ref (He.ga K "both_fractions"))
  F_both_fractions : ∃ fd, Fun K "both_fractions" "both_fractions" s_both_fractions (He.ga K "both_fractions") fd
  g_taken_off : mg "taken_off" = some (.ref (He.ga K "taken_off"))
  F_taken_off : ∃ fd, Fun K "taken_off" "taken_off" s_taken_off (He.ga K "taken_off") fd
  g_divided : mg "divided" = some (.ref (He.ga K "divided"))
  F_divided : ∃ fd, Fun K "divided" "divided" s_divided (He.ga K "divided") fd
  g__chances_of : mg "_chances_of" = some (.ref (He.ga K "_chances_of"))
  F__chances_of : ∃ fd, Fun K "_chances_of" "_chances_of" s__chances_of (He.ga K "_chances_of") fd
  g_rests : mg "rests" = some (.ref (He.ga K "rests"))
  F_rests : ∃ fd, Fun K "rests" "rests" s_rests (He.ga K "rests") fd
  g_closes_at : mg "closes_at" = some (.ref (He.ga K "closes_at"))
  F_closes_at : ∃ fd, Fun K "closes_at" "closes_at" s_closes_at (He.ga K "closes_at") fd
  g_rest_of : mg "rest_of" = some (.ref (He.ga K "rest_of"))
  F_rest_of : ∃ fd, Fun K "rest_of" "rest_of" s_rest_of (He.ga K "rest_of") fd
  g__law_draws : mg "_law_draws" = some (.ref (He.ga K "_law_draws"))
  F__law_draws : ∃ fd, Fun K "_law_draws" "_law_draws" s__law_draws (He.ga K "_law_draws") fd
  g__law_take : mg "_law_take" = some (.ref (He.ga K "_law_take"))
  F__law_take : ∃ fd, Fun K "_law_take" "_law_take" s__law_take (He.ga K "_law_take") fd
  g__law_int : mg "_law_int" = some (.ref (He.ga K "_law_int"))
  F__law_int : ∃ fd, Fun K "_law_int" "_law_int" s__law_int (He.ga K "_law_int") fd
  g__law_divisor : mg "_law_divisor" = some (.ref (He.ga K "_law_divisor"))
  F__law_divisor : ∃ fd, Fun K "_law_divisor" "_law_divisor" s__law_divisor (He.ga K "_law_divisor") fd
  g__law_is_fraction : mg "_law_is_fraction" = some (.ref (He.ga K "_law_is_fraction"))
  F__law_is_fraction : ∃ fd, Fun K "_law_is_fraction" "_law_is_fraction" s__law_is_fraction (He.ga K "_law_is_fraction") fd
  g__law_same_worth : mg "_law_same_worth" = some (.ref (He.ga K "_law_same_worth"))
  F__law_same_worth : ∃ fd, Fun K "_law_same_worth" "_law_same_worth" s__law_same_worth (He.ga K "_law_same_worth") fd
  g__law_at_most : mg "_law_at_most" = some (.ref (He.ga K "_law_at_most"))
  F__law_at_most : ∃ fd, Fun K "_law_at_most" "_law_at_most" s__law_at_most (He.ga K "_law_at_most") fd
  g__law_chance : mg "_law_chance" = some (.ref (He.ga K "_law_chance"))
  F__law_chance : ∃ fd, Fun K "_law_chance" "_law_chance" s__law_chance (He.ga K "_law_chance") fd
  g__law_closes : mg "_law_closes" = some (.ref (He.ga K "_law_closes"))
  F__law_closes : ∃ fd, Fun K "_law_closes" "_law_closes" s__law_closes (He.ga K "_law_closes") fd
  g__law_loss : mg "_law_loss" = some (.ref (He.ga K "_law_loss"))
  F__law_loss : ∃ fd, Fun K "_law_loss" "_law_loss" s__law_loss (He.ga K "_law_loss") fd
  g__law_pair : mg "_law_pair" = some (.ref (He.ga K "_law_pair"))
  F__law_pair : ∃ fd, Fun K "_law_pair" "_law_pair" s__law_pair (He.ga K "_law_pair") fd
  g__law_losses : mg "_law_losses" = some (.ref (He.ga K "_law_losses"))
  F__law_losses : ∃ fd, Fun K "_law_losses" "_law_losses" s__law_losses (He.ga K "_law_losses") fd
  g__law_rests_due : mg "_law_rests_due" = some (.ref (He.ga K "_law_rests_due"))
  F__law_rests_due : ∃ fd, Fun K "_law_rests_due" "_law_rests_due" s__law_rests_due (He.ga K "_law_rests_due") fd
  g__law_tells : mg "_law_tells" = some (.ref (He.ga K "_law_tells"))
  F__law_tells : ∃ fd, Fun K "_law_tells" "_law_tells" s__law_tells (He.ga K "_law_tells") fd
  g__law_closed_by : mg "_law_closed_by" = some (.ref (He.ga K "_law_closed_by"))
  F__law_closed_by : ∃ fd, Fun K "_law_closed_by" "_law_closed_by" s__law_closed_by (He.ga K "_law_closed_by") fd
  g__law_raised : mg "_law_raised" = some (.ref (He.ga K "_law_raised"))
  F__law_raised : ∃ fd, Fun K "_law_raised" "_law_raised" s__law_raised (He.ga K "_law_raised") fd
  g__law_longer : mg "_law_longer" = some (.ref (He.ga K "_law_longer"))
  F__law_longer : ∃ fd, Fun K "_law_longer" "_law_longer" s__law_longer (He.ga K "_law_longer") fd
  g__law_forced : mg "_law_forced" = some (.ref (He.ga K "_law_forced"))
  F__law_forced : ∃ fd, Fun K "_law_forced" "_law_forced" s__law_forced (He.ga K "_law_forced") fd
  g__law_quarters : mg "_law_quarters" = some (.ref (He.ga K "_law_quarters"))
  F__law_quarters : ∃ fd, Fun K "_law_quarters" "_law_quarters" s__law_quarters (He.ga K "_law_quarters") fd
  g__law_back : mg "_law_back" = some (.ref (He.ga K "_law_back"))
  F__law_back : ∃ fd, Fun K "_law_back" "_law_back" s__law_back (He.ga K "_law_back") fd
  g__law_backwards : mg "_law_backwards" = some (.ref (He.ga K "_law_backwards"))
  F__law_backwards : ∃ fd, Fun K "_law_backwards" "_law_backwards" s__law_backwards (He.ga K "_law_backwards") fd
  g__law_cut : mg "_law_cut" = some (.ref (He.ga K "_law_cut"))
  F__law_cut : ∃ fd, Fun K "_law_cut" "_law_cut" s__law_cut (He.ga K "_law_cut") fd
  g__law_edge : mg "_law_edge" = some (.ref (He.ga K "_law_edge"))
  F__law_edge : ∃ fd, Fun K "_law_edge" "_law_edge" s__law_edge (He.ga K "_law_edge") fd
  g__law_refusal : mg "_law_refusal" = some (.ref (He.ga K "_law_refusal"))
  F__law_refusal : ∃ fd, Fun K "_law_refusal" "_law_refusal" s__law_refusal (He.ga K "_law_refusal") fd
  g__law_refuses : mg "_law_refuses" = some (.ref (He.ga K "_law_refuses"))
  F__law_refuses : ∃ fd, Fun K "_law_refuses" "_law_refuses" s__law_refuses (He.ga K "_law_refuses") fd
  g_law : mg "law" = some (.ref (He.ga K "law"))
  F_law : ∃ fd, Fun K "law" "law" s_law (He.ga K "law") fd
  g_DiceError : mg "DiceError" = some (.ref (He.ga K "DiceError"))
  e_DiceError : ExCls K (He.ga K "DiceError") []
  x_DiceError_DiceError : PySem.W.exmOne K (.ref (He.ga K "DiceError")) (.ref (He.ga K "DiceError")) = some true
  k_DiceError_DiceError : PySem.W.kitOne K (.ref (He.ga K "DiceError")) (.ref (He.ga K "DiceError")) = some true
  x_DiceError_BadNumber : PySem.W.exmOne K (.ref (He.ga K "DiceError")) (.ref (He.ga K "BadNumber")) = some false
  k_DiceError_BadNumber : PySem.W.kitOne K (.ref (He.ga K "DiceError")) (.ref (He.ga K "BadNumber")) = some false
  x_DiceError_TooMany : PySem.W.exmOne K (.ref (He.ga K "DiceError")) (.ref (He.ga K "TooMany")) = some false
  k_DiceError_TooMany : PySem.W.kitOne K (.ref (He.ga K "DiceError")) (.ref (He.ga K "TooMany")) = some false
  kv_DiceError : PySem.W.kitOne K (.ref (He.ga K "DiceError")) (.type "ValueError") = some true
  g_BadNumber : mg "BadNumber" = some (.ref (He.ga K "BadNumber"))
  F_BadNumber_init : ∃ fd, Fun K "__init__" "BadNumber.__init__" s_BadNumber_init (He.ma K (He.ga K "BadNumber") "__init__") fd
  i_BadNumber : PySem.W.findIn K (.ref (He.ga K "BadNumber")) "__init__" = some (some (.ref (He.ma K (He.ga K "BadNumber") "__init__"))) ∧ PySem.W.typeIn K (.ref (He.ma K (He.ga K "BadNumber") "__init__")) = some (.type "function")
  e_BadNumber : ExCls K (He.ga K "BadNumber") ["name"]
  x_BadNumber_DiceError : PySem.W.exmOne K (.ref (He.ga K "BadNumber")) (.ref (He.ga K "DiceError")) = some true
  k_BadNumber_DiceError : PySem.W.kitOne K (.ref (He.ga K "BadNumber")) (.ref (He.ga K "DiceError")) = some true
  x_BadNumber_BadNumber : PySem.W.exmOne K (.ref (He.ga K "BadNumber")) (.ref (He.ga K "BadNumber")) = some true
  k_BadNumber_BadNumber : PySem.W.kitOne K (.ref (He.ga K "BadNumber")) (.ref (He.ga K "BadNumber")) = some true
  x_BadNumber_TooMany : PySem.W.exmOne K (.ref (He.ga K "BadNumber")) (.ref (He.ga K "TooMany")) = some false
  k_BadNumber_TooMany : PySem.W.kitOne K (.ref (He.ga K "BadNumber")) (.ref (He.ga K "TooMany")) = some false
  kv_BadNumber : PySem.W.kitOne K (.ref (He.ga K "BadNumber")) (.type "ValueError") = some true
  g_TooMany : mg "TooMany" = some (.ref (He.ga K "TooMany"))
  F_TooMany_init : ∃ fd, Fun K "__init__" "TooMany.__init__" s_TooMany_init (He.ma K (He.ga K "TooMany") "__init__") fd
  i_TooMany : PySem.W.findIn K (.ref (He.ga K "TooMany")) "__init__" = some (some (.ref (He.ma K (He.ga K "TooMany") "__init__"))) ∧ PySem.W.typeIn K (.ref (He.ma K (He.ga K "TooMany") "__init__")) = some (.type "function")
  e_TooMany : ExCls K (He.ga K "TooMany") ["name"]
  x_TooMany_DiceError : PySem.W.exmOne K (.ref (He.ga K "TooMany")) (.ref (He.ga K "DiceError")) = some true
  k_TooMany_DiceError : PySem.W.kitOne K (.ref (He.ga K "TooMany")) (.ref (He.ga K "DiceError")) = some true
  x_TooMany_BadNumber : PySem.W.exmOne K (.ref (He.ga K "TooMany")) (.ref (He.ga K "BadNumber")) = some false
  k_TooMany_BadNumber : PySem.W.kitOne K (.ref (He.ga K "TooMany")) (.ref (He.ga K "BadNumber")) = some false
  x_TooMany_TooMany : PySem.W.exmOne K (.ref (He.ga K "TooMany")) (.ref (He.ga K "TooMany")) = some true
  k_TooMany_TooMany : PySem.W.kitOne K (.ref (He.ga K "TooMany")) (.ref (He.ga K "TooMany")) = some true
  kv_TooMany : PySem.W.kitOne K (.ref (He.ga K "TooMany")) (.type "ValueError") = some true
  n_ValueError : mg "ValueError" = none
  n_abs : mg "abs" = none
  n_bool : mg "bool" = none
  n_int : mg "int" = none
  n_isinstance : mg "isinstance" = none
  n_len : mg "len" = none
  n_list : mg "list" = none
  n_min : mg "min" = none
  n_range : mg "range" = none
  n_repr : mg "repr" = none
  n_reversed : mg "reversed" = none
  n_tuple : mg "tuple" = none
theorem tx_of {w : World} {h : Heap} {K : PySem.W.Frag} {mg : Str → Option Value} (X : K.In h) (G : h.Ns mainGlobals mg) (c : He.SaysX fa fn [] [] ex w h K) : Tx K mg := by
  have hex := c.more
  have D := c.t.d
  unfold ex ex0 at hex
  simp only [Bool.and_eq_true] at hex
  obtain ⟨h0, h1, h2, h3, h4, h5, h6, h7, h8, h9, h10, h11, h12, h13, h14, h15, h16, h17, h18, h19, h20, h21, h22, h23⟩ := hex
  exact {
    g_is_int := He.glo_ok X G (D.fact 0 rfl),
    F_is_int := by obtain ⟨fd, F⟩ := D.def_ 0 (d := d_is_int) rfl; exact ⟨fd, He5.fun_of F⟩,
    g_is_row := He.glo_ok X G (D.fact 1 rfl),
    F_is_row := by obtain ⟨fd, F⟩ := D.def_ 1 (d := d_is_row) rfl; exact ⟨fd, He5.fun_of F⟩,
    g_common_divisor := He.glo_ok X G (D.fact 2 rfl),
    F_common_divisor := by obtain ⟨fd, F⟩ := D.def_ 2 (d := d_common_divisor) rfl; exact ⟨fd, He5.fun_of F⟩,
    g_lowest := He.glo_ok X G (D.fact 3 rfl),
    F_lowest := by obtain ⟨fd, F⟩ := D.def_ 3 (d := d_lowest) rfl; exact ⟨fd, He5.fun_of F⟩,
    g_fraction := He.glo_ok X G (D.fact 4 rfl),
    F_fraction := by obtain ⟨fd, F⟩ := D.def_ 4 (d := d_fraction) rfl; exact ⟨fd, He5.fun_of F⟩,
    g_told_chance := He.glo_ok X G (D.fact 5 rfl),
    F_told_chance := by obtain ⟨fd, F⟩ := D.def_ 5 (d := d_told_chance) rfl; exact ⟨fd, He5.fun_of F⟩,
    g_both_fractions := He.glo_ok X G (D.fact 6 rfl),
    F_both_fractions := by obtain ⟨fd, F⟩ := D.def_ 6 (d := d_both_fractions) rfl; exact ⟨fd, He5.fun_of F⟩,
    g_taken_off := He.glo_ok X G (D.fact 7 rfl),
    F_taken_off := by obtain ⟨fd, F⟩ := D.def_ 7 (d := d_taken_off) rfl; exact ⟨fd, He5.fun_of F⟩,
    g_divided := He.glo_ok X G (D.fact 8 rfl),
    F_divided := by obtain ⟨fd, F⟩ := D.def_ 8 (d := d_divided) rfl; exact ⟨fd, He5.fun_of F⟩,
    g__chances_of := He.glo_ok X G (D.fact 9 rfl),
    F__chances_of := by obtain ⟨fd, F⟩ := D.def_ 9 (d := d__chances_of) rfl; exact ⟨fd, He5.fun_of F⟩,
    g_rests := He.glo_ok X G (D.fact 10 rfl),
    F_rests := by obtain ⟨fd, F⟩ := D.def_ 10 (d := d_rests) rfl; exact ⟨fd, He5.fun_of F⟩,
    g_closes_at := He.glo_ok X G (D.fact 11 rfl),
    F_closes_at := by obtain ⟨fd, F⟩ := D.def_ 11 (d := d_closes_at) rfl; exact ⟨fd, He5.fun_of F⟩,
    g_rest_of := He.glo_ok X G (D.fact 12 rfl),
    F_rest_of := by obtain ⟨fd, F⟩ := D.def_ 12 (d := d_rest_of) rfl; exact ⟨fd, He5.fun_of F⟩,
    g__law_draws := He.glo_ok X G (D.fact 13 rfl),
    F__law_draws := by obtain ⟨fd, F⟩ := D.def_ 13 (d := d__law_draws) rfl; exact ⟨fd, He5.fun_of F⟩,
    g__law_take := He.glo_ok X G (D.fact 14 rfl),
    F__law_take := by obtain ⟨fd, F⟩ := D.def_ 14 (d := d__law_take) rfl; exact ⟨fd, He5.fun_of F⟩,
    g__law_int := He.glo_ok X G (D.fact 15 rfl),
    F__law_int := by obtain ⟨fd, F⟩ := D.def_ 15 (d := d__law_int) rfl; exact ⟨fd, He5.fun_of F⟩,
    g__law_divisor := He.glo_ok X G (D.fact 16 rfl),
    F__law_divisor := by obtain ⟨fd, F⟩ := D.def_ 16 (d := d__law_divisor) rfl; exact ⟨fd, He5.fun_of F⟩,
    g__law_is_fraction := He.glo_ok X G (D.fact 17 rfl),
    F__law_is_fraction := by obtain ⟨fd, F⟩ := D.def_ 17 (d := d__law_is_fraction) rfl; exact ⟨fd, He5.fun_of F⟩,
    g__law_same_worth := He.glo_ok X G (D.fact 18 rfl),
    F__law_same_worth := by obtain ⟨fd, F⟩ := D.def_ 18 (d := d__law_same_worth) rfl; exact ⟨fd, He5.fun_of F⟩,
    g__law_at_most := He.glo_ok X G (D.fact 19 rfl),
    F__law_at_most := by obtain ⟨fd, F⟩ := D.def_ 19 (d := d__law_at_most) rfl; exact ⟨fd, He5.fun_of F⟩,
    g__law_chance := He.glo_ok X G (D.fact 20 rfl),
    F__law_chance := by obtain ⟨fd, F⟩ := D.def_ 20 (d := d__law_chance) rfl; exact ⟨fd, He5.fun_of F⟩,
    g__law_closes := He.glo_ok X G (D.fact 21 rfl),
    F__law_closes := by obtain ⟨fd, F⟩ := D.def_ 21 (d := d__law_closes) rfl; exact ⟨fd, He5.fun_of F⟩,
    g__law_loss := He.glo_ok X G (D.fact 22 rfl),
    F__law_loss := by obtain ⟨fd, F⟩ := D.def_ 22 (d := d__law_loss) rfl; exact ⟨fd, He5.fun_of F⟩,
    g__law_pair := He.glo_ok X G (D.fact 23 rfl),
    F__law_pair := by obtain ⟨fd, F⟩ := D.def_ 23 (d := d__law_pair) rfl; exact ⟨fd, He5.fun_of F⟩,
    g__law_losses := He.glo_ok X G (D.fact 24 rfl),
    F__law_losses := by obtain ⟨fd, F⟩ := D.def_ 24 (d := d__law_losses) rfl; exact ⟨fd, He5.fun_of F⟩,
    g__law_rests_due := He.glo_ok X G (D.fact 25 rfl),
    F__law_rests_due := by obtain ⟨fd, F⟩ := D.def_ 25 (d := d__law_rests_due) rfl; exact ⟨fd, He5.fun_of F⟩,
    g__law_tells := He.glo_ok X G (D.fact 26 rfl),
    F__law_tells := by obtain ⟨fd, F⟩ := D.def_ 26 (d := d__law_tells) rfl; exact ⟨fd, He5.fun_of F⟩,
    g__law_closed_by := He.glo_ok X G (D.fact 27 rfl),
    F__law_closed_by := by obtain ⟨fd, F⟩ := D.def_ 27 (d := d__law_closed_by) rfl; exact ⟨fd, He5.fun_of F⟩,
    g__law_raised := He.glo_ok X G (D.fact 28 rfl),
    F__law_raised := by obtain ⟨fd, F⟩ := D.def_ 28 (d := d__law_raised) rfl; exact ⟨fd, He5.fun_of F⟩,
    g__law_longer := He.glo_ok X G (D.fact 29 rfl),
    F__law_longer := by obtain ⟨fd, F⟩ := D.def_ 29 (d := d__law_longer) rfl; exact ⟨fd, He5.fun_of F⟩,
    g__law_forced := He.glo_ok X G (D.fact 30 rfl),
    F__law_forced := by obtain ⟨fd, F⟩ := D.def_ 30 (d := d__law_forced) rfl; exact ⟨fd, He5.fun_of F⟩,
    g__law_quarters := He.glo_ok X G (D.fact 31 rfl),
    F__law_quarters := by obtain ⟨fd, F⟩ := D.def_ 31 (d := d__law_quarters) rfl; exact ⟨fd, He5.fun_of F⟩,
    g__law_back := He.glo_ok X G (D.fact 32 rfl),
    F__law_back := by obtain ⟨fd, F⟩ := D.def_ 32 (d := d__law_back) rfl; exact ⟨fd, He5.fun_of F⟩,
    g__law_backwards := He.glo_ok X G (D.fact 33 rfl),
    F__law_backwards := by obtain ⟨fd, F⟩ := D.def_ 33 (d := d__law_backwards) rfl; exact ⟨fd, He5.fun_of F⟩,
    g__law_cut := He.glo_ok X G (D.fact 34 rfl),
    F__law_cut := by obtain ⟨fd, F⟩ := D.def_ 34 (d := d__law_cut) rfl; exact ⟨fd, He5.fun_of F⟩,
    g__law_edge := He.glo_ok X G (D.fact 35 rfl),
    F__law_edge := by obtain ⟨fd, F⟩ := D.def_ 35 (d := d__law_edge) rfl; exact ⟨fd, He5.fun_of F⟩,
    g__law_refusal := He.glo_ok X G (D.fact 36 rfl),
    F__law_refusal := by obtain ⟨fd, F⟩ := D.def_ 36 (d := d__law_refusal) rfl; exact ⟨fd, He5.fun_of F⟩,
    g__law_refuses := He.glo_ok X G (D.fact 37 rfl),
    F__law_refuses := by obtain ⟨fd, F⟩ := D.def_ 37 (d := d__law_refuses) rfl; exact ⟨fd, He5.fun_of F⟩,
    g_law := He.glo_ok X G (D.fact 38 rfl),
    F_law := by obtain ⟨fd, F⟩ := D.def_ 38 (d := d_law) rfl; exact ⟨fd, He5.fun_of F⟩,
    g_DiceError := He.glo_ok X G (D.fact 39 rfl),
    e_DiceError := (exB_ok h0).1,
    x_DiceError_DiceError := exmB_ok h3,
    k_DiceError_DiceError := isiB_ok h6,
    x_DiceError_BadNumber := exmB_ok h4,
    k_DiceError_BadNumber := isiB_ok h7,
    x_DiceError_TooMany := exmB_ok h5,
    k_DiceError_TooMany := isiB_ok h8,
    kv_DiceError := isvB_ok h21,
    g_BadNumber := He.glo_ok X G (D.fact 40 rfl),
    F_BadNumber_init := by obtain ⟨fd, F⟩ := D.def_ 39 (d := d_BadNumber_init) rfl; exact ⟨fd, He5.fun_of F⟩,
    i_BadNumber := (exB_ok h1).2 rfl,
    e_BadNumber := (exB_ok h1).1,
    x_BadNumber_DiceError := exmB_ok h9,
    k_BadNumber_DiceError := isiB_ok h12,
    x_BadNumber_BadNumber := exmB_ok h10,
    k_BadNumber_BadNumber := isiB_ok h13,
    x_BadNumber_TooMany := exmB_ok h11,
    k_BadNumber_TooMany := isiB_ok h14,
    kv_BadNumber := isvB_ok h22,
    g_TooMany := He.glo_ok X G (D.fact 41 rfl),
    F_TooMany_init := by obtain ⟨fd, F⟩ := D.def_ 40 (d := d_TooMany_init) rfl; exact ⟨fd, He5.fun_of F⟩,
    i_TooMany := (exB_ok h2).2 rfl,
    e_TooMany := (exB_ok h2).1,
    x_TooMany_DiceError := exmB_ok h15,
    k_TooMany_DiceError := isiB_ok h18,
    x_TooMany_BadNumber := exmB_ok h16,
    k_TooMany_BadNumber := isiB_ok h19,
    x_TooMany_TooMany := exmB_ok h17,
    k_TooMany_TooMany := isiB_ok h20,
    kv_TooMany := isvB_ok h23,
    n_ValueError := He.free_ok X G (D.fact 42 rfl),
    n_abs := He.free_ok X G (D.fact 43 rfl),
    n_bool := He.free_ok X G (D.fact 44 rfl),
    n_int := He.free_ok X G (D.fact 45 rfl),
    n_isinstance := He.free_ok X G (D.fact 46 rfl),
    n_len := He.free_ok X G (D.fact 47 rfl),
    n_list := He.free_ok X G (D.fact 48 rfl),
    n_min := He.free_ok X G (D.fact 49 rfl),
    n_range := He.free_ok X G (D.fact 50 rfl),
    n_repr := He.free_ok X G (D.fact 51 rfl),
    n_reversed := He.free_ok X G (D.fact 52 rfl),
    n_tuple := He.free_ok X G (D.fact 53 rfl) }
section
variable {P : Program} {w : World} {K : PySem.W.Frag} {mg : Str → Option Value} {base : Heap}
theorem C_BadNumber (T : Tx K mg) : OkX P w K mg base "BadNumber" ["name"] ["self", "name"] := by
  obtain ⟨fd, F⟩ := T.F_BadNumber_init
  refine ⟨fd, T.e_BadNumber, by decide, T.i_BadNumber.1, T.i_BadNumber.2, init1 (N := ["self", "name"]) F T.e_BadNumber ⟨rfl, rfl, rfl, by decide +kernel, rfl, by decide +kernel, by decide +kernel⟩ rfl rfl rfl rfl rfl (by decide) (by decide) (by decide) (by decide), F.binds fun _ _ _ _ _ _ us hl => match us, hl with | [_, _], _ => rfl, T.g_BadNumber⟩
def g_is_int (K : PySem.W.Frag) : DS :=
  (sRet (gAndV (gCB dIsi (aCons (gVar 0) (aCons (gC (.ty "int")) aNil))) (gNotV (gCB dIsi (aCons (gVar 0) (aCons (gC (.ty "bool")) aNil))))))
theorem sc_is_int : FnScope ["value"] ["value"] (defScope s_is_int) := ⟨rfl, rfl, rfl, by decide +kernel, rfl, by decide +kernel, by decide +kernel⟩
theorem w_is_int (T : Tx K mg)  (len : ∀ ds M Q E, sp_is_int K ds M Q E → ds.length = 1)
    (hb : ∀ d0 M Q E, sp_is_int K [d0] M Q E → g_is_int K { nx := fun _ M => Q .non M, rt := Q, ex := fun x _ M => E x M } [some d0] M) : OkD P w K mg base 1 "is_int" ["value"] (sp_is_int K) := by
  obtain ⟨fd, F⟩ := T.F_is_int
  refine ⟨fd, dl_def F sc_is_int (by intro ds M Q E h; exact len ds M Q E h) (g_is_int K) (by decide) (fun cdv A outer s H E hr => ?_) (fun ds M Q E h => ?_), F.binds fun _ _ _ _ _ _ us hl => match us, hl with | [_], _ => rfl, F.kp, T.g_is_int, fun_lk F⟩
  · exact
   (fss_one (fs_ret (fe_and (fe_cb (cd_isi rfl) T.n_isinstance bt_isinstance (fa_cons (fv 0) (fa_cons (fe_ty rfl T.n_int bt_int) fa_nil))) (fe_one (fe_not (fe_cb (cd_isi rfl) T.n_isinstance bt_isinstance (fa_cons (fv 0) (fa_cons (fe_ty rfl T.n_bool bt_bool) fa_nil))))))))
  · match ds, len _ _ _ _ h with
    | [d0], _ => exact hb d0 M Q E h
def g_is_row (K : PySem.W.Frag) : DS :=
  (sRet (gCB dIsi (aCons (gVar 0) (aCons (gTup (aCons (gC (.ty "list")) (aCons (gC (.ty "tuple")) aNil))) aNil))))
theorem sc_is_row : FnScope ["value"] ["value"] (defScope s_is_row) := ⟨rfl, rfl, rfl, by decide +kernel, rfl, by decide +kernel, by decide +kernel⟩
theorem w_is_row (T : Tx K mg)  (len : ∀ ds M Q E, sp_is_row K ds M Q E → ds.length = 1)
    (hb : ∀ d0 M Q E, sp_is_row K [d0] M Q E → g_is_row K { nx := fun _ M => Q .non M, rt := Q, ex := fun x _ M => E x M } [some d0] M) : OkD P w K mg base 1 "is_row" ["value"] (sp_is_row K) := by
  obtain ⟨fd, F⟩ := T.F_is_row
  refine ⟨fd, dl_def F sc_is_row (by intro ds M Q E h; exact len ds M Q E h) (g_is_row K) (by decide) (fun cdv A outer s H E hr => ?_) (fun ds M Q E h => ?_), F.binds fun _ _ _ _ _ _ us hl => match us, hl with | [_], _ => rfl, F.kp, T.g_is_row, fun_lk F⟩
  · exact
   (fss_one (fs_ret (fe_cb (cd_isi rfl) T.n_isinstance bt_isinstance (fa_cons (fv 0) (fa_cons (fe_tup (fa_cons (fe_ty rfl T.n_list bt_list) (fa_cons (fe_ty rfl T.n_tuple bt_tuple) fa_nil))) fa_nil)))))
  · match ds, len _ _ _ _ h with
    | [d0], _ => exact hb d0 M Q E h
def g_common_divisor (K : PySem.W.Frag) : DS :=
  (sSeq (sSet 1 (gC (.int 0)))
    (sSeq (sFor (iSeqD (gVar 0)) (dName 2) (sSeq (sSet 3 (gCB dAbs (aCons (gVar 2) aNil)))
    (sWhile (gTest (gOp dGt (gVar 3) (gC (.int 0)))) (sPar 1 3 (aCons (gVar 3) (aCons (gOp dMod (gVar 1) (gVar 3)) aNil))))))
    (sRet (gVar 1))))
theorem sc_common_divisor : FnScope ["row", "divisor", "entry", "remainder"] ["row"] (defScope s_common_divisor) := ⟨rfl, rfl, rfl, by decide +kernel, rfl, by decide +kernel, by decide +kernel⟩
theorem w_common_divisor (T : Tx K mg)  (len : ∀ ds M Q E, sp_common_divisor K ds M Q E → ds.length = 1)
    (hb : ∀ d0 M Q E, sp_common_divisor K [d0] M Q E → g_common_divisor K { nx := fun _ M => Q .non M, rt := Q, ex := fun x _ M => E x M } [some d0, none, none, none] M) : OkD P w K mg base 1 "common_divisor" ["row"] (sp_common_divisor K) := by
  obtain ⟨fd, F⟩ := T.F_common_divisor
  refine ⟨fd, dl_def F sc_common_divisor (by intro ds M Q E h; exact len ds M Q E h) (g_common_divisor K) (by decide) (fun cdv A outer s H E hr => ?_) (fun ds M Q E h => ?_), F.binds fun _ _ _ _ _ _ us hl => match us, hl with | [_], _ => rfl, F.kp, T.g_common_divisor, fun_lk F⟩
  · exact
   (fss_cons (fs_set 1 sc_common_divisor.nd fe_int)
    (fss_cons (fs_for (passes_of rfl) rfl (fi_seq rfl (fv 0)) (fg_name (vs := [2]) 2 sc_common_divisor.nd) (fss_cons (fs_set 3 sc_common_divisor.nd (fe_cb (cd_abs) T.n_abs bt_abs (fa_cons (fv 2) fa_nil)))
    (fss_one (fs_while (passes_of rfl) (ft_cmp (od_gt) (fv 3) fe_int (nomark _)) (fss_one (fs_par 1 3 sc_common_divisor.nd (fa_cons (fv 3) (fa_cons (fe_op (od_mod) (fv 1) (fv 3)) fa_nil))))))))
    (fss_one (fs_ret (fv 1)))))
  · match ds, len _ _ _ _ h with
    | [d0], _ => exact hb d0 M Q E h
def g_lowest (K : PySem.W.Frag) : DS :=
  (sSeq (sSet 2 (gCall (sp_common_divisor K) (aCons (gTup (aCons (gVar 0) (aCons (gVar 1) aNil))) aNil)))
    (sRet (gTup (aCons (gOp dFdiv (gVar 0) (gVar 2)) (aCons (gOp dFdiv (gVar 1) (gVar 2)) aNil)))))
theorem sc_lowest : FnScope ["top", "bottom", "divisor"] ["top", "bottom"] (defScope s_lowest) := ⟨rfl, rfl, rfl, by decide +kernel, rfl, by decide +kernel, by decide +kernel⟩
theorem w_lowest (T : Tx K mg) (C_common_divisor : OkD P w K mg base 1 "common_divisor" ["row"] (sp_common_divisor K)) (len : ∀ ds M Q E, sp_lowest K ds M Q E → ds.length = 2)
    (hb : ∀ d0 d1 M Q E, sp_lowest K [d0, d1] M Q E → g_lowest K { nx := fun _ M => Q .non M, rt := Q, ex := fun x _ M => E x M } [some d0, some d1, none] M) : OkD P w K mg base 2 "lowest" ["top", "bottom"] (sp_lowest K) := by
  obtain ⟨fd, F⟩ := T.F_lowest
  refine ⟨fd, dl_def F sc_lowest (by intro ds M Q E h; exact len ds M Q E h) (g_lowest K) (by decide) (fun cdv A outer s H E hr => ?_) (fun ds M Q E h => ?_), F.binds fun _ _ _ _ _ _ us hl => match us, hl with | [_, _], _ => rfl, F.kp, T.g_lowest, fun_lk F⟩
  · exact
   (fss_cons (fs_set 2 sc_lowest.nd (fe_callO C_common_divisor (hr.mono (by decide)) (takes_of rfl rfl rfl rfl) (fa_cons (fe_tup (fa_cons (fv 0) (fa_cons (fv 1) fa_nil))) fa_nil)))
    (fss_one (fs_ret (fe_tup (fa_cons (fe_op (od_fdiv) (fv 0) (fv 2)) (fa_cons (fe_op (od_fdiv) (fv 1) (fv 2)) fa_nil))))))
  · match ds, len _ _ _ _ h with
    | [d0, d1], _ => exact hb d0 d1 M Q E h
def g_fraction (K : PySem.W.Frag) : DS :=
  (sSeq (sIf (gTest (gCall (sp_is_int K) (aCons (gVar 0) aNil))) (sRet (gTup (aCons (gVar 0) (aCons (gC (.int 1)) aNil)))) sNext)
    (sSeq (sIf (gOr (gNot (gTest (gCall (sp_is_row K) (aCons (gVar 0) aNil)))) (gTest (gOp dNe (gCB dLen (aCons (gVar 0) aNil)) (gC (.int 2))))) (sRaise (He.ga K "BadNumber") ["name"] (aCons (gVar 1) aNil)) sNext)
    (sSeq (sPar 2 3 (aCons (gOp dIx (gVar 0) (gC (.int 0))) (aCons (gOp dIx (gVar 0) (gC (.int 1))) aNil)))
    (sSeq (sIf (gOr (gNot (gTest (gCall (sp_is_int K) (aCons (gVar 2) aNil)))) (gOr (gNot (gTest (gCall (sp_is_int K) (aCons (gVar 3) aNil)))) (gTest (gOp dLt (gVar 3) (gC (.int 1)))))) (sRaise (He.ga K "BadNumber") ["name"] (aCons (gVar 1) aNil)) sNext)
    (sRet (gCall (sp_lowest K) (aCons (gVar 2) (aCons (gVar 3) aNil))))))))
theorem sc_fraction : FnScope ["value", "name", "top", "bottom"] ["value", "name"] (defScope s_fraction) := ⟨rfl, rfl, rfl, by decide +kernel, rfl, by decide +kernel, by decide +kernel⟩
theorem w_fraction (T : Tx K mg) (C_is_int : OkD P w K mg base 1 "is_int" ["value"] (sp_is_int K)) (C_lowest : OkD P w K mg base 2 "lowest" ["top", "bottom"] (sp_lowest K)) (C_is_row : OkD P w K mg base 1 "is_row" ["value"] (sp_is_row K)) (len : ∀ ds M Q E, sp_fraction K ds M Q E → ds.length = 2)
    (hb : ∀ d0 d1 M Q E, sp_fraction K [d0, d1] M Q E → g_fraction K { nx := fun _ M => Q .non M, rt := Q, ex := fun x _ M => E x M } [some d0, some d1, none, none] M) : OkD P w K mg base 3 "fraction" ["value", "name"] (sp_fraction K) := by
  obtain ⟨fd, F⟩ := T.F_fraction
  have C_BadNumber := C_BadNumber (P := P) (w := w) (base := base) T
  refine ⟨fd, dl_def F sc_fraction (by intro ds M Q E h; exact len ds M Q E h) (g_fraction K) (by decide) (fun cdv A outer s H E hr => ?_) (fun ds M Q E h => ?_), F.binds fun _ _ _ _ _ _ us hl => match us, hl with | [_, _], _ => rfl, F.kp, T.g_fraction, fun_lk F⟩
  · exact
   (fss_cons (fs_if (ft_val (fe_callO C_is_int (hr.mono (by decide)) (takes_of rfl rfl rfl rfl) (fa_cons (fv 0) fa_nil))) (fss_one (fs_ret (fe_tup (fa_cons (fv 0) (fa_cons fe_int fa_nil))))) fss_nil)
    (fss_cons (fs_if (FW.ft (fw_or (ft_not (ft_val (fe_callO C_is_row (hr.mono (by decide)) (takes_of rfl rfl rfl rfl) (fa_cons (fv 0) fa_nil)))) (fw_or1 (ft_cmp (od_ne rfl (hu64 hr)) (fe_cb (cd_len rfl) T.n_len bt_len (fa_cons (fv 0) fa_nil)) fe_int (nomark _))))) (fss_one (fs_raiseO C_BadNumber (hr.mono (by decide)) (takes_of rfl rfl rfl rfl) (fa_cons (fv 1) fa_nil))) fss_nil)
    (fss_cons (fs_par 2 3 sc_fraction.nd (fa_cons (fe_ix (xd_ix rfl) (fv 0) fe_int (fun _ _ => rfl)) (fa_cons (fe_ix (xd_ix rfl) (fv 0) fe_int (fun _ _ => rfl)) fa_nil)))
    (fss_cons (fs_if (FW.ft (fw_or (ft_not (ft_val (fe_callO C_is_int (hr.mono (by decide)) (takes_of rfl rfl rfl rfl) (fa_cons (fv 2) fa_nil)))) (fw_or (ft_not (ft_val (fe_callO C_is_int (hr.mono (by decide)) (takes_of rfl rfl rfl rfl) (fa_cons (fv 3) fa_nil)))) (fw_or1 (ft_cmp (od_lt) (fv 3) fe_int (nomark _)))))) (fss_one (fs_raiseO C_BadNumber (hr.mono (by decide)) (takes_of rfl rfl rfl rfl) (fa_cons (fv 1) fa_nil))) fss_nil)
    (fss_one (fs_ret (fe_callO C_lowest (hr.mono (by decide)) (takes_of rfl rfl rfl rfl) (fa_cons (fv 2) (fa_cons (fv 3) fa_nil)))))))))
  · match ds, len _ _ _ _ h with
    | [d0, d1], _ => exact hb d0 d1 M Q E h
def g_told_chance (K : PySem.W.Frag) : DS :=
  (sSeq (sAsg (gCall (sp_fraction K) (aCons (gVar 0) (aCons (gVar 1) aNil))) (dTup 2 (dCons (dName 2) (dCons (dName 3) dNil))))
    (sSeq (sIf (gOr (gTest (gOp dLt (gVar 2) (gC (.int 0)))) (gTest (gOp dGt (gVar 2) (gVar 3)))) (sRaise (He.ga K "BadNumber") ["name"] (aCons (gVar 1) aNil)) sNext)
    (sRet (gTup (aCons (gVar 2) (aCons (gVar 3) aNil))))))
theorem sc_told_chance : FnScope ["value", "name", "top", "bottom"] ["value", "name"] (defScope s_told_chance) := ⟨rfl, rfl, rfl, by decide +kernel, rfl, by decide +kernel, by decide +kernel⟩
theorem w_told_chance (T : Tx K mg) (C_fraction : OkD P w K mg base 3 "fraction" ["value", "name"] (sp_fraction K)) (len : ∀ ds M Q E, sp_told_chance K ds M Q E → ds.length = 2)
    (hb : ∀ d0 d1 M Q E, sp_told_chance K [d0, d1] M Q E → g_told_chance K { nx := fun _ M => Q .non M, rt := Q, ex := fun x _ M => E x M } [some d0, some d1, none, none] M) : OkD P w K mg base 4 "told_chance" ["value", "name"] (sp_told_chance K) := by
  obtain ⟨fd, F⟩ := T.F_told_chance
  have C_BadNumber := C_BadNumber (P := P) (w := w) (base := base) T
  refine ⟨fd, dl_def F sc_told_chance (by intro ds M Q E h; exact len ds M Q E h) (g_told_chance K) (by decide) (fun cdv A outer s H E hr => ?_) (fun ds M Q E h => ?_), F.binds fun _ _ _ _ _ _ us hl => match us, hl with | [_, _], _ => rfl, F.kp, T.g_told_chance, fun_lk F⟩
  · exact
   (fss_cons (fs_asg (fe_callO C_fraction (hr.mono (by decide)) (takes_of rfl rfl rfl rfl) (fa_cons (fv 0) (fa_cons (fv 1) fa_nil))) (fg_tup rfl rfl (fgs_cons (fg_name (vs := [2, 3]) 2 sc_told_chance.nd) (fgs_cons (fg_name (vs := [2, 3]) 3 sc_told_chance.nd) (fgs_nil (vs := [2, 3]))))))
    (fss_cons (fs_if (FW.ft (fw_or (ft_cmp (od_lt) (fv 2) fe_int (nomark _)) (fw_or1 (ft_cmp (od_gt) (fv 2) (fv 3) (nomark _))))) (fss_one (fs_raiseO C_BadNumber (hr.mono (by decide)) (takes_of rfl rfl rfl rfl) (fa_cons (fv 1) fa_nil))) fss_nil)
    (fss_one (fs_ret (fe_tup (fa_cons (fv 2) (fa_cons (fv 3) fa_nil)))))))
  · match ds, len _ _ _ _ h with
    | [d0, d1], _ => exact hb d0 d1 M Q E h
def g_both_fractions (K : PySem.W.Frag) : DS :=
  (sSeq (sAsg (gCall (sp_fraction K) (aCons (gVar 0) (aCons (gC (.str "first")) aNil))) (dTup 2 (dCons (dName 2) (dCons (dName 3) dNil))))
    (sSeq (sAsg (gCall (sp_fraction K) (aCons (gVar 1) (aCons (gC (.str "second")) aNil))) (dTup 2 (dCons (dName 4) (dCons (dName 5) dNil))))
    (sRet (gTup (aCons (gVar 2) (aCons (gVar 3) (aCons (gVar 4) (aCons (gVar 5) aNil))))))))
theorem sc_both_fractions : FnScope ["first", "second", "top", "bottom", "other", "under"] ["first", "second"] (defScope s_both_fractions) := ⟨rfl, rfl, rfl, by decide +kernel, rfl, by decide +kernel, by decide +kernel⟩
theorem w_both_fractions (T : Tx K mg) (C_fraction : OkD P w K mg base 3 "fraction" ["value", "name"] (sp_fraction K)) (len : ∀ ds M Q E, sp_both_fractions K ds M Q E → ds.length = 2)
    (hb : ∀ d0 d1 M Q E, sp_both_fractions K [d0, d1] M Q E → g_both_fractions K { nx := fun _ M => Q .non M, rt := Q, ex := fun x _ M => E x M } [some d0, some d1, none, none, none, none] M) : OkD P w K mg base 4 "both_fractions" ["first", "second"] (sp_both_fractions K) := by
  obtain ⟨fd, F⟩ := T.F_both_fractions
  refine ⟨fd, dl_def F sc_both_fractions (by intro ds M Q E h; exact len ds M Q E h) (g_both_fractions K) (by decide) (fun cdv A outer s H E hr => ?_) (fun ds M Q E h => ?_), F.binds fun _ _ _ _ _ _ us hl => match us, hl with | [_, _], _ => rfl, F.kp, T.g_both_fractions, fun_lk F⟩
  · exact
   (fss_cons (fs_asg (fe_callO C_fraction (hr.mono (by decide)) (takes_of rfl rfl rfl rfl) (fa_cons (fv 0) (fa_cons fe_str fa_nil))) (fg_tup rfl rfl (fgs_cons (fg_name (vs := [2, 3]) 2 sc_both_fractions.nd) (fgs_cons (fg_name (vs := [2, 3]) 3 sc_both_fractions.nd) (fgs_nil (vs := [2, 3]))))))
    (fss_cons (fs_asg (fe_callO C_fraction (hr.mono (by decide)) (takes_of rfl rfl rfl rfl) (fa_cons (fv 1) (fa_cons fe_str fa_nil))) (fg_tup rfl rfl (fgs_cons (fg_name (vs := [4, 5]) 4 sc_both_fractions.nd) (fgs_cons (fg_name (vs := [4, 5]) 5 sc_both_fractions.nd) (fgs_nil (vs := [4, 5]))))))
    (fss_one (fs_ret (fe_tup (fa_cons (fv 2) (fa_cons (fv 3) (fa_cons (fv 4) (fa_cons (fv 5) fa_nil)))))))))
  · match ds, len _ _ _ _ h with
    | [d0, d1], _ => exact hb d0 d1 M Q E h
def g_taken_off (K : PySem.W.Frag) : DS :=
  (sSeq (sAsg (gCall (sp_both_fractions K) (aCons (gVar 0) (aCons (gVar 1) aNil))) (dTup 4 (dCons (dName 2) (dCons (dName 3) (dCons (dName 4) (dCons (dName 5) dNil))))))
    (sRet (gCall (sp_lowest K) (aCons (gOp dSub (gOp dMul (gVar 2) (gVar 5)) (gOp dMul (gVar 4) (gVar 3))) (aCons (gOp dMul (gVar 3) (gVar 5)) aNil)))))
theorem sc_taken_off : FnScope ["first", "second", "top", "bottom", "other", "under"] ["first", "second"] (defScope s_taken_off) := ⟨rfl, rfl, rfl, by decide +kernel, rfl, by decide +kernel, by decide +kernel⟩
theorem w_taken_off (T : Tx K mg) (C_both_fractions : OkD P w K mg base 4 "both_fractions" ["first", "second"] (sp_both_fractions K)) (C_lowest : OkD P w K mg base 2 "lowest" ["top", "bottom"] (sp_lowest K)) (len : ∀ ds M Q E, sp_taken_off K ds M Q E → ds.length = 2)
    (hb : ∀ d0 d1 M Q E, sp_taken_off K [d0, d1] M Q E → g_taken_off K { nx := fun _ M => Q .non M, rt := Q, ex := fun x _ M => E x M } [some d0, some d1, none, none, none, none] M) : OkD P w K mg base 5 "taken_off" ["first", "second"] (sp_taken_off K) := by
  obtain ⟨fd, F⟩ := T.F_taken_off
  refine ⟨fd, dl_def F sc_taken_off (by intro ds M Q E h; exact len ds M Q E h) (g_taken_off K) (by decide) (fun cdv A outer s H E hr => ?_) (fun ds M Q E h => ?_), F.binds fun _ _ _ _ _ _ us hl => match us, hl with | [_, _], _ => rfl, F.kp, T.g_taken_off, fun_lk F⟩
  · exact
   (fss_cons (fs_asg (fe_callO C_both_fractions (hr.mono (by decide)) (takes_of rfl rfl rfl rfl) (fa_cons (fv 0) (fa_cons (fv 1) fa_nil))) (fg_tup rfl rfl (fgs_cons (fg_name (vs := [2, 3, 4, 5]) 2 sc_taken_off.nd) (fgs_cons (fg_name (vs := [2, 3, 4, 5]) 3 sc_taken_off.nd) (fgs_cons (fg_name (vs := [2, 3, 4, 5]) 4 sc_taken_off.nd) (fgs_cons (fg_name (vs := [2, 3, 4, 5]) 5 sc_taken_off.nd) (fgs_nil (vs := [2, 3, 4, 5]))))))))
    (fss_one (fs_ret (fe_callO C_lowest (hr.mono (by decide)) (takes_of rfl rfl rfl rfl) (fa_cons (fe_op (od_sub) (fe_op (od_mul) (fv 2) (fv 5)) (fe_op (od_mul) (fv 4) (fv 3))) (fa_cons (fe_op (od_mul) (fv 3) (fv 5)) fa_nil))))))
  · match ds, len _ _ _ _ h with
    | [d0, d1], _ => exact hb d0 d1 M Q E h
def g_divided (K : PySem.W.Frag) : DS :=
  (sSeq (sAsg (gCall (sp_both_fractions K) (aCons (gVar 0) (aCons (gVar 1) aNil))) (dTup 4 (dCons (dName 2) (dCons (dName 3) (dCons (dName 4) (dCons (dName 5) dNil))))))
    (sSeq (sIf (gTest (gOp dEq (gVar 4) (gC (.int 0)))) (sRaise (He.ga K "BadNumber") ["name"] (aCons (gC (.str "divisor")) aNil)) sNext)
    (sSeq (sIf (gTest (gOp dLt (gVar 4) (gC (.int 0)))) (sRet (gCall (sp_lowest K) (aCons (gOp dMul (gUn dNeg (gVar 2)) (gVar 5)) (aCons (gOp dMul (gUn dNeg (gVar 4)) (gVar 3)) aNil)))) sNext)
    (sRet (gCall (sp_lowest K) (aCons (gOp dMul (gVar 2) (gVar 5)) (aCons (gOp dMul (gVar 4) (gVar 3)) aNil)))))))
theorem sc_divided : FnScope ["first", "second", "top", "bottom", "other", "under"] ["first", "second"] (defScope s_divided) := ⟨rfl, rfl, rfl, by decide +kernel, rfl, by decide +kernel, by decide +kernel⟩
theorem w_divided (T : Tx K mg) (C_both_fractions : OkD P w K mg base 4 "both_fractions" ["first", "second"] (sp_both_fractions K)) (C_lowest : OkD P w K mg base 2 "lowest" ["top", "bottom"] (sp_lowest K)) (len : ∀ ds M Q E, sp_divided K ds M Q E → ds.length = 2)
    (hb : ∀ d0 d1 M Q E, sp_divided K [d0, d1] M Q E → g_divided K { nx := fun _ M => Q .non M, rt := Q, ex := fun x _ M => E x M } [some d0, some d1, none, none, none, none] M) : OkD P w K mg base 5 "divided" ["first", "second"] (sp_divided K) := by
  obtain ⟨fd, F⟩ := T.F_divided
  have C_BadNumber := C_BadNumber (P := P) (w := w) (base := base) T
  refine ⟨fd, dl_def F sc_divided (by intro ds M Q E h; exact len ds M Q E h) (g_divided K) (by decide) (fun cdv A outer s H E hr => ?_) (fun ds M Q E h => ?_), F.binds fun _ _ _ _ _ _ us hl => match us, hl with | [_, _], _ => rfl, F.kp, T.g_divided, fun_lk F⟩
  · exact
   (fss_cons (fs_asg (fe_callO C_both_fractions (hr.mono (by decide)) (takes_of rfl rfl rfl rfl) (fa_cons (fv 0) (fa_cons (fv 1) fa_nil))) (fg_tup rfl rfl (fgs_cons (fg_name (vs := [2, 3, 4, 5]) 2 sc_divided.nd) (fgs_cons (fg_name (vs := [2, 3, 4, 5]) 3 sc_divided.nd) (fgs_cons (fg_name (vs := [2, 3, 4, 5]) 4 sc_divided.nd) (fgs_cons (fg_name (vs := [2, 3, 4, 5]) 5 sc_divided.nd) (fgs_nil (vs := [2, 3, 4, 5]))))))))
    (fss_cons (fs_if (ft_cmp (od_eq rfl (hu64 hr)) (fv 4) fe_int (nomark _)) (fss_one (fs_raiseO C_BadNumber (hr.mono (by decide)) (takes_of rfl rfl rfl rfl) (fa_cons fe_str fa_nil))) fss_nil)
    (fss_cons (fs_if (ft_cmp (od_lt) (fv 4) fe_int (nomark _)) (fss_one (fs_ret (fe_callO C_lowest (hr.mono (by decide)) (takes_of rfl rfl rfl rfl) (fa_cons (fe_op (od_mul) (fe_un ud_neg (fv 2)) (fv 5)) (fa_cons (fe_op (od_mul) (fe_un ud_neg (fv 4)) (fv 3)) fa_nil))))) fss_nil)
    (fss_one (fs_ret (fe_callO C_lowest (hr.mono (by decide)) (takes_of rfl rfl rfl rfl) (fa_cons (fe_op (od_mul) (fv 2) (fv 5)) (fa_cons (fe_op (od_mul) (fv 4) (fv 3)) fa_nil))))))))
  · match ds, len _ _ _ _ h with
    | [d0, d1], _ => exact hb d0 d1 M Q E h
def g__chances_of (K : PySem.W.Frag) : DS :=
  (sSeq (sIf (gOr (gNot (gTest (gCall (sp_is_row K) (aCons (gVar 0) aNil)))) (gTest (gOp dLt (gCB dLen (aCons (gVar 0) aNil)) (gVar 2)))) (sRaise (He.ga K "BadNumber") ["name"] (aCons (gVar 1) aNil)) sNext)
    (sRet (gCB dTupleOf (aCons (gFrz (nLcX (iSeqD (gVar 0)) (dName 3) gYes (gCall (sp_told_chance K) (aCons (gVar 3) (aCons (gVar 1) aNil))) [3])) aNil))))
theorem sc__chances_of : FnScope ["row", "name", "least", "value"] ["row", "name", "least"] (defScope s__chances_of) := ⟨rfl, rfl, rfl, by decide +kernel, rfl, by decide +kernel, by decide +kernel⟩
theorem w__chances_of (T : Tx K mg) (C_is_row : OkD P w K mg base 1 "is_row" ["value"] (sp_is_row K)) (C_told_chance : OkD P w K mg base 4 "told_chance" ["value", "name"] (sp_told_chance K)) (len : ∀ ds M Q E, sp__chances_of K ds M Q E → ds.length = 3)
    (hb : ∀ d0 d1 d2 M Q E, sp__chances_of K [d0, d1, d2] M Q E → g__chances_of K { nx := fun _ M => Q .non M, rt := Q, ex := fun x _ M => E x M } [some d0, some d1, some d2, none] M) : OkD P w K mg base 5 "_chances_of" ["row", "name", "least"] (sp__chances_of K) := by
  obtain ⟨fd, F⟩ := T.F__chances_of
  have C_BadNumber := C_BadNumber (P := P) (w := w) (base := base) T
  refine ⟨fd, dl_def F sc__chances_of (by intro ds M Q E h; exact len ds M Q E h) (g__chances_of K) (by decide) (fun cdv A outer s H E hr => ?_) (fun ds M Q E h => ?_), F.binds fun _ _ _ _ _ _ us hl => match us, hl with | [_, _, _], _ => rfl, F.kp, T.g__chances_of, fun_lk F⟩
  · exact
   (fss_cons (fs_if (FW.ft (fw_or (ft_not (ft_val (fe_callO C_is_row (hr.mono (by decide)) (takes_of rfl rfl rfl rfl) (fa_cons (fv 0) fa_nil)))) (fw_or1 (ft_cmp (od_lt) (fe_cb (cd_len rfl) T.n_len bt_len (fa_cons (fv 0) fa_nil)) (fv 2) (nomark _))))) (fss_one (fs_raiseO C_BadNumber (hr.mono (by decide)) (takes_of rfl rfl rfl rfl) (fa_cons (fv 1) fa_nil))) fss_nil)
    (fss_one (fs_ret (fe_ct (cd_tuple rfl) T.n_tuple bt_tuple (fa_cons (FN.frz (fn_lcX (own := [("value", 3)]) (takes_of rfl rfl rfl rfl) sc__chances_of.nd (fi_seq rfl (fv 0)) (blkOk_by (by kernel_rfl)) (fun s H C cl fp => (fg_name (vs := [3]) 3 sc__chances_of.nd)) (fun s H C cl fp => fts_nil) (fun σ s H C cl fp R cm => (fe_callPO C_told_chance (hr.mono (by decide)) (fun σ1 => cm σ1) (fa_cons (fv 3) (fa_cons (fv 1) fa_nil)))))) fa_nil)))))
  · match ds, len _ _ _ _ h with
    | [d0, d1, d2], _ => exact hb d0 d1 d2 M Q E h
def g_rests (K : PySem.W.Frag) : DS :=
  (sSeq (sSet 1 (gCall (sp__chances_of K) (aCons (gVar 0) (aCons (gC (.str "losses")) (aCons (gC (.int 0)) aNil)))))
    (sSeq (sSet 2 (gCel (nLst (aCons (gTup (aCons (gC (.int 1)) (aCons (gC (.int 1)) aNil))) aNil))))
    (sSeq (sFor (iSeqD (gVar 1)) (dName 3) (sSeq (sDrop (gMt dAppend (gVar 2) (aCons (gCall (sp_taken_off K) (aCons (gTup (aCons (gC (.int 1)) (aCons (gC (.int 1)) aNil))) (aCons (gCall (sp_divided K) (aCons (gVar 3) (aCons (gOp dIx (gVar 2) (gUn dNeg (gC (.int 1)))) aNil))) aNil))) aNil)))
    (sIf (gTest (gOp dLe (gOp dIx (gOp dIx (gVar 2) (gUn dNeg (gC (.int 1)))) (gC (.int 0))) (gC (.int 0)))) sBreak sNext)))
    (sRetF (gCB dTupleOf (aCons (gVar 2) aNil))))))
theorem sc_rests : FnScope ["losses", "told", "made", "loss"] ["losses"] (defScope s_rests) := ⟨rfl, rfl, rfl, by decide +kernel, rfl, by decide +kernel, by decide +kernel⟩
theorem w_rests (T : Tx K mg) (C__chances_of : OkD P w K mg base 5 "_chances_of" ["row", "name", "least"] (sp__chances_of K)) (C_taken_off : OkD P w K mg base 5 "taken_off" ["first", "second"] (sp_taken_off K)) (C_divided : OkD P w K mg base 5 "divided" ["first", "second"] (sp_divided K)) (len : ∀ ds M Q E, sp_rests K ds M Q E → ds.length = 1)
    (hb : ∀ d0 M Q E, sp_rests K [d0] M Q E → g_rests K { nx := fun _ M => Q .non M, rt := Q, ex := fun x _ M => E x M } [some d0, none, none, none] M) : OkD P w K mg base 6 "rests" ["losses"] (sp_rests K) := by
  obtain ⟨fd, F⟩ := T.F_rests
  refine ⟨fd, dl_def F sc_rests (by intro ds M Q E h; exact len ds M Q E h) (g_rests K) (by decide) (fun cdv A outer s H E hr => ?_) (fun ds M Q E h => ?_), F.binds fun _ _ _ _ _ _ us hl => match us, hl with | [_], _ => rfl, F.kp, T.g_rests, fun_lk F⟩
  · exact
   (fss_cons (fs_set 1 sc_rests.nd (fe_callO C__chances_of (hr.mono (by decide)) (takes_of rfl rfl rfl rfl) (fa_cons (fv 0) (fa_cons fe_str (fa_cons fe_int fa_nil)))))
    (fss_cons (fs_set 2 sc_rests.nd (FN.cel (fn_lst (fa_cons (fe_tup (fa_cons fe_int (fa_cons fe_int fa_nil))) fa_nil))))
    (fss_cons (fs_for (passes_of rfl) rfl (fi_seq rfl (fv 1)) (fg_name (vs := [3]) 3 sc_rests.nd) (fss_cons (fs_expr (fe_mt rfl (PySem.F.slot_list_append) PySem.F.type_list_append md_append (fv 2) (fa_cons (fe_callO C_taken_off (hr.mono (by decide)) (takes_of rfl rfl rfl rfl) (fa_cons (fe_tup (fa_cons fe_int (fa_cons fe_int fa_nil))) (fa_cons (fe_callO C_divided (hr.mono (by decide)) (takes_of rfl rfl rfl rfl) (fa_cons (fv 3) (fa_cons (fe_ix (xd_ix rfl) (fv 2) (fe_un ud_neg fe_int) (fun _ _ => rfl)) fa_nil))) fa_nil))) fa_nil)))
    (fss_one (fs_if (ft_cmp (od_le) (fe_ix (xd_ix rfl) (fe_ix (xd_ix rfl) (fv 2) (fe_un ud_neg fe_int) (fun _ _ => rfl)) fe_int (fun _ _ => rfl)) fe_int (nomark _)) (fss_one fs_break) fss_nil))))
    (fss_one (fs_retF (fe_ct (cd_tuple rfl) T.n_tuple bt_tuple (fa_cons (fv 2) fa_nil)))))))
  · match ds, len _ _ _ _ h with
    | [d0], _ => exact hb d0 M Q E h
def g_closes_at (K : PySem.W.Frag) : DS :=
  (sSeq (sSet 1 (gCall (sp_rests K) (aCons (gVar 0) aNil)))
    (sSeq (sIf (gTest (gOp dLe (gOp dIx (gOp dIx (gVar 1) (gUn dNeg (gC (.int 1)))) (gC (.int 0))) (gC (.int 0)))) (sRet (gOp dSub (gCB dLen (aCons (gVar 1) aNil)) (gC (.int 1)))) sNext)
    (sRet (gC .non))))
theorem sc_closes_at : FnScope ["losses", "made"] ["losses"] (defScope s_closes_at) := ⟨rfl, rfl, rfl, by decide +kernel, rfl, by decide +kernel, by decide +kernel⟩
theorem w_closes_at (T : Tx K mg) (C_rests : OkD P w K mg base 6 "rests" ["losses"] (sp_rests K)) (len : ∀ ds M Q E, sp_closes_at K ds M Q E → ds.length = 1)
    (hb : ∀ d0 M Q E, sp_closes_at K [d0] M Q E → g_closes_at K { nx := fun _ M => Q .non M, rt := Q, ex := fun x _ M => E x M } [some d0, none] M) : OkD P w K mg base 7 "closes_at" ["losses"] (sp_closes_at K) := by
  obtain ⟨fd, F⟩ := T.F_closes_at
  refine ⟨fd, dl_def F sc_closes_at (by intro ds M Q E h; exact len ds M Q E h) (g_closes_at K) (by decide) (fun cdv A outer s H E hr => ?_) (fun ds M Q E h => ?_), F.binds fun _ _ _ _ _ _ us hl => match us, hl with | [_], _ => rfl, F.kp, T.g_closes_at, fun_lk F⟩
  · exact
   (fss_cons (fs_set 1 sc_closes_at.nd (fe_callO C_rests (hr.mono (by decide)) (takes_of rfl rfl rfl rfl) (fa_cons (fv 0) fa_nil)))
    (fss_cons (fs_if (ft_cmp (od_le) (fe_ix (xd_ix rfl) (fe_ix (xd_ix rfl) (fv 1) (fe_un ud_neg fe_int) (fun _ _ => rfl)) fe_int (fun _ _ => rfl)) fe_int (nomark _)) (fss_one (fs_ret (fe_op (od_sub) (fe_cb (cd_len rfl) T.n_len bt_len (fa_cons (fv 1) fa_nil)) fe_int))) fss_nil)
    (fss_one (fs_ret fe_non))))
  · match ds, len _ _ _ _ h with
    | [d0], _ => exact hb d0 M Q E h
def g_rest_of (K : PySem.W.Frag) : DS :=
  (sSeq (sSet 1 (gCall (sp_rests K) (aCons (gVar 0) aNil)))
    (sSeq (sIf (gTest (gOp dLe (gOp dIx (gOp dIx (gVar 1) (gUn dNeg (gC (.int 1)))) (gC (.int 0))) (gC (.int 0)))) (sRet (gC .non)) sNext)
    (sRet (gOp dIx (gVar 1) (gUn dNeg (gC (.int 1)))))))
theorem sc_rest_of : FnScope ["losses", "made"] ["losses"] (defScope s_rest_of) := ⟨rfl, rfl, rfl, by decide +kernel, rfl, by decide +kernel, by decide +kernel⟩
theorem w_rest_of (T : Tx K mg) (C_rests : OkD P w K mg base 6 "rests" ["losses"] (sp_rests K)) (len : ∀ ds M Q E, sp_rest_of K ds M Q E → ds.length = 1)
    (hb : ∀ d0 M Q E, sp_rest_of K [d0] M Q E → g_rest_of K { nx := fun _ M => Q .non M, rt := Q, ex := fun x _ M => E x M } [some d0, none] M) : OkD P w K mg base 7 "rest_of" ["losses"] (sp_rest_of K) := by
  obtain ⟨fd, F⟩ := T.F_rest_of
  refine ⟨fd, dl_def F sc_rest_of (by intro ds M Q E h; exact len ds M Q E h) (g_rest_of K) (by decide) (fun cdv A outer s H E hr => ?_) (fun ds M Q E h => ?_), F.binds fun _ _ _ _ _ _ us hl => match us, hl with | [_], _ => rfl, F.kp, T.g_rest_of, fun_lk F⟩
  · exact
   (fss_cons (fs_set 1 sc_rest_of.nd (fe_callO C_rests (hr.mono (by decide)) (takes_of rfl rfl rfl rfl) (fa_cons (fv 0) fa_nil)))
    (fss_cons (fs_if (ft_cmp (od_le) (fe_ix (xd_ix rfl) (fe_ix (xd_ix rfl) (fv 1) (fe_un ud_neg fe_int) (fun _ _ => rfl)) fe_int (fun _ _ => rfl)) fe_int (nomark _)) (fss_one (fs_ret fe_non)) fss_nil)
    (fss_one (fs_ret (fe_ix (xd_ix rfl) (fv 1) (fe_un ud_neg fe_int) (fun _ _ => rfl))))))
  · match ds, len _ _ _ _ h with
    | [d0], _ => exact hb d0 M Q E h
def g__law_draws (K : PySem.W.Frag) : DS :=
  (sSeq (sSet 1 (gCel (nLst aNil)))
    (sSeq (sFor (iRange1 (aCons (gCB dMin (aCons (gCB dLen (aCons (gVar 0) aNil)) (aCons (gC (.int 63)) aNil))) aNil)) (dName 2) (sSeq (sSet 3 (gCB dInt (aCons (gOp dIx (gVar 0) (gVar 2)) aNil)))
    (sSeq (sIf (gTest (gOp dLt (gVar 3) (gC (.int 0)))) (sSet 3 (gOp dSub (gC (.int 5)) (gVar 3))) sNext)
    (sIf (gTest (gOp dGe (gVar 3) (gOp dPow (gC (.int 10)) (gC (.int 18))))) (sFor (iRange1 (aCons (gC (.int 48)) aNil)) (dName 4) (sIf (gTest (gOp dGt (gVar 3) (gC (.int 0)))) (sSeq (sDrop (gMt dAppend (gVar 1) (aCons (gOp dMod (gCB dInt (aCons (gVar 3) aNil)) (gC (.int 30))) aNil)))
    (sSet 3 (gOp dFdiv (gVar 3) (gC (.int 30))))) sNext)) (sSeq (sSet 5 (gOp dMod (gCB dInt (aCons (gOp dAdd (gOp dAdd (gOp dMul (gVar 3) (gC (.int 62089911))) (gOp dMul (gVar 2) (gC (.int 104729)))) (gC (.int 17))) aNil)) (gC (.int 2147483629))))
    (sFor (iRange1 (aCons (gC (.int 6)) aNil)) (dName 4) (sSeq (sSet 5 (gOp dMod (gCB dInt (aCons (gOp dAdd (gOp dAdd (gOp dAdd (gOp dMul (gVar 5) (gVar 5)) (gOp dMul (gVar 4) (gC (.int 7919)))) (gOp dMul (gVar 2) (gC (.int 31)))) (gC (.int 3))) aNil)) (gC (.int 2147483587))))
    (sDrop (gMt dAppend (gVar 1) (aCons (gVar 5) aNil))))))))))
    (sSeq (sDrop (gMt0 dReverse (gVar 1)))
    (sRet (gVar 1)))))
theorem sc__law_draws : FnScope ["_law_script", "_law_drawn", "_law_at", "_law_cell", "_law_turn", "_law_state"] ["_law_script"] (defScope s__law_draws) := ⟨rfl, rfl, rfl, by decide +kernel, rfl, by decide +kernel, by decide +kernel⟩
theorem w__law_draws (T : Tx K mg)  (len : ∀ ds M Q E, sp__law_draws K ds M Q E → ds.length = 1)
    (hb : ∀ d0 M Q E, sp__law_draws K [d0] M Q E → g__law_draws K { nx := fun _ M => Q .non M, rt := Q, ex := fun x _ M => E x M } [some d0, none, none, none, none, none] M) : OkD P w K mg base 1 "_law_draws" ["_law_script"] (sp__law_draws K) := by
  obtain ⟨fd, F⟩ := T.F__law_draws
  refine ⟨fd, dl_def F sc__law_draws (by intro ds M Q E h; exact len ds M Q E h) (g__law_draws K) (by decide) (fun cdv A outer s H E hr => ?_) (fun ds M Q E h => ?_), F.binds fun _ _ _ _ _ _ us hl => match us, hl with | [_], _ => rfl, F.kp, T.g__law_draws, fun_lk F⟩
  · exact
   (fss_cons (fs_set 1 sc__law_draws.nd (FN.cel (fn_lst fa_nil)))
    (fss_cons (fs_for (passes_of rfl) rfl (fi_range1 (by rfl) T.n_range (fa_cons (fe_cb (cd_min rfl rfl (hu64 hr)) T.n_min bt_min (fa_cons (fe_cb (cd_len rfl) T.n_len bt_len (fa_cons (fv 0) fa_nil)) (fa_cons fe_int fa_nil))) fa_nil)) (fg_name (vs := [2]) 2 sc__law_draws.nd) (fss_cons (fs_set 3 sc__law_draws.nd (fe_ct (cd_int) T.n_int bt_int (fa_cons (fe_ix (xd_ix rfl) (fv 0) (fv 2) (fun _ _ => rfl)) fa_nil)))
    (fss_cons (fs_if (ft_cmp (od_lt) (fv 3) fe_int (nomark _)) (fss_one (fs_set 3 sc__law_draws.nd (fe_op (od_sub) fe_int (fv 3)))) fss_nil)
    (fss_one (fs_if (ft_cmp (od_ge) (fv 3) (fe_op (od_pow) fe_int fe_int) (nomark _)) (fss_one (fs_for (passes_of rfl) rfl (fi_range1 (by rfl) T.n_range (fa_cons fe_int fa_nil)) (fg_name (vs := [4]) 4 sc__law_draws.nd) (fss_one (fs_if (ft_cmp (od_gt) (fv 3) fe_int (nomark _)) (fss_cons (fs_expr (fe_mt rfl (PySem.F.slot_list_append) PySem.F.type_list_append md_append (fv 1) (fa_cons (fe_op (od_mod) (fe_ct (cd_int) T.n_int bt_int (fa_cons (fv 3) fa_nil)) fe_int) fa_nil)))
    (fss_one (fs_set 3 sc__law_draws.nd (fe_op (od_fdiv) (fv 3) fe_int)))) fss_nil)))) (fss_cons (fs_set 5 sc__law_draws.nd (fe_op (od_mod) (fe_ct (cd_int) T.n_int bt_int (fa_cons (fe_op (od_add rfl) (fe_op (od_add rfl) (fe_op (od_mul) (fv 3) fe_int) (fe_op (od_mul) (fv 2) fe_int)) fe_int) fa_nil)) fe_int))
    (fss_one (fs_for (passes_of rfl) rfl (fi_range1 (by rfl) T.n_range (fa_cons fe_int fa_nil)) (fg_name (vs := [4]) 4 sc__law_draws.nd) (fss_cons (fs_set 5 sc__law_draws.nd (fe_op (od_mod) (fe_ct (cd_int) T.n_int bt_int (fa_cons (fe_op (od_add rfl) (fe_op (od_add rfl) (fe_op (od_add rfl) (fe_op (od_mul) (fv 5) (fv 5)) (fe_op (od_mul) (fv 4) fe_int)) (fe_op (od_mul) (fv 2) fe_int)) fe_int) fa_nil)) fe_int))
    (fss_one (fs_expr (fe_mt rfl (PySem.F.slot_list_append) PySem.F.type_list_append md_append (fv 1) (fa_cons (fv 5) fa_nil)))))))))))))
    (fss_cons (fs_expr (fe_mt0 rfl (PySem.F.slot_list_reverse) PySem.F.type_list_reverse md_reverse (fv 1)))
    (fss_one (fs_ret (fv 1))))))
  · match ds, len _ _ _ _ h with
    | [d0], _ => exact hb d0 M Q E h
def g__law_take (K : PySem.W.Frag) : DS :=
  (sSeq (sIf (gTest (gOp dEq (gCB dLen (aCons (gVar 0) aNil)) (gC (.int 0)))) (sRet (gC (.int 0))) sNext)
    (sRet (gOp dMod (gCB dInt (aCons (gMt0 dPop (gVar 0)) aNil)) (gVar 1))))
theorem sc__law_take : FnScope ["_law_drawn", "_law_many"] ["_law_drawn", "_law_many"] (defScope s__law_take) := ⟨rfl, rfl, rfl, by decide +kernel, rfl, by decide +kernel, by decide +kernel⟩
theorem w__law_take (T : Tx K mg)  (len : ∀ ds M Q E, sp__law_take K ds M Q E → ds.length = 2)
    (hb : ∀ d0 d1 M Q E, sp__law_take K [d0, d1] M Q E → g__law_take K { nx := fun _ M => Q .non M, rt := Q, ex := fun x _ M => E x M } [some d0, some d1] M) : OkD P w K mg base 1 "_law_take" ["_law_drawn", "_law_many"] (sp__law_take K) := by
  obtain ⟨fd, F⟩ := T.F__law_take
  refine ⟨fd, dl_def F sc__law_take (by intro ds M Q E h; exact len ds M Q E h) (g__law_take K) (by decide) (fun cdv A outer s H E hr => ?_) (fun ds M Q E h => ?_), F.binds fun _ _ _ _ _ _ us hl => match us, hl with | [_, _], _ => rfl, F.kp, T.g__law_take, fun_lk F⟩
  · exact
   (fss_cons (fs_if (ft_cmp (od_eq rfl (hu64 hr)) (fe_cb (cd_len rfl) T.n_len bt_len (fa_cons (fv 0) fa_nil)) fe_int (nomark _)) (fss_one (fs_ret fe_int)) fss_nil)
    (fss_one (fs_ret (fe_op (od_mod) (fe_ct (cd_int) T.n_int bt_int (fa_cons (fe_mt0 rfl (PySem.F.slot_list_pop) PySem.F.type_list_pop md_pop (fv 0)) fa_nil)) (fv 1)))))
  · match ds, len _ _ _ _ h with
    | [d0, d1], _ => exact hb d0 d1 M Q E h
def g__law_int (K : PySem.W.Frag) : DS :=
  (sRet (gAndV (gCB dIsi (aCons (gVar 0) (aCons (gC (.ty "int")) aNil))) (gNotV (gCB dIsi (aCons (gVar 0) (aCons (gC (.ty "bool")) aNil))))))
theorem sc__law_int : FnScope ["_law_value"] ["_law_value"] (defScope s__law_int) := ⟨rfl, rfl, rfl, by decide +kernel, rfl, by decide +kernel, by decide +kernel⟩
theorem w__law_int (T : Tx K mg)  (len : ∀ ds M Q E, sp__law_int K ds M Q E → ds.length = 1)
    (hb : ∀ d0 M Q E, sp__law_int K [d0] M Q E → g__law_int K { nx := fun _ M => Q .non M, rt := Q, ex := fun x _ M => E x M } [some d0] M) : OkD P w K mg base 1 "_law_int" ["_law_value"] (sp__law_int K) := by
  obtain ⟨fd, F⟩ := T.F__law_int
  refine ⟨fd, dl_def F sc__law_int (by intro ds M Q E h; exact len ds M Q E h) (g__law_int K) (by decide) (fun cdv A outer s H E hr => ?_) (fun ds M Q E h => ?_), F.binds fun _ _ _ _ _ _ us hl => match us, hl with | [_], _ => rfl, F.kp, T.g__law_int, fun_lk F⟩
  · exact
   (fss_one (fs_ret (fe_and (fe_cb (cd_isi rfl) T.n_isinstance bt_isinstance (fa_cons (fv 0) (fa_cons (fe_ty rfl T.n_int bt_int) fa_nil))) (fe_one (fe_not (fe_cb (cd_isi rfl) T.n_isinstance bt_isinstance (fa_cons (fv 0) (fa_cons (fe_ty rfl T.n_bool bt_bool) fa_nil))))))))
  · match ds, len _ _ _ _ h with
    | [d0], _ => exact hb d0 M Q E h
def g__law_divisor (K : PySem.W.Frag) : DS :=
  (sSeq (sFor (iRange1 (aCons (gC (.int 4000)) aNil)) (dName 2) (sSeq (sIf (gTest (gOp dEq (gVar 1) (gC (.int 0)))) (sRet (gCB dAbs (aCons (gVar 0) aNil))) sNext)
    (sSeq (sSet 3 (gOp dMod (gCB dInt (aCons (gVar 0) aNil)) (gVar 1)))
    (sSeq (sSet 0 (gVar 1))
    (sSet 1 (gVar 3))))))
    (sRet (gC (.int 1))))
theorem sc__law_divisor : FnScope ["_law_one", "_law_other", "_law_turn", "_law_rest"] ["_law_one", "_law_other"] (defScope s__law_divisor) := ⟨rfl, rfl, rfl, by decide +kernel, rfl, by decide +kernel, by decide +kernel⟩
theorem w__law_divisor (T : Tx K mg)  (len : ∀ ds M Q E, sp__law_divisor K ds M Q E → ds.length = 2)
    (hb : ∀ d0 d1 M Q E, sp__law_divisor K [d0, d1] M Q E → g__law_divisor K { nx := fun _ M => Q .non M, rt := Q, ex := fun x _ M => E x M } [some d0, some d1, none, none] M) : OkD P w K mg base 1 "_law_divisor" ["_law_one", "_law_other"] (sp__law_divisor K) := by
  obtain ⟨fd, F⟩ := T.F__law_divisor
  refine ⟨fd, dl_def F sc__law_divisor (by intro ds M Q E h; exact len ds M Q E h) (g__law_divisor K) (by decide) (fun cdv A outer s H E hr => ?_) (fun ds M Q E h => ?_), F.binds fun _ _ _ _ _ _ us hl => match us, hl with | [_, _], _ => rfl, F.kp, T.g__law_divisor, fun_lk F⟩
  · exact
   (fss_cons (fs_for (passes_of rfl) rfl (fi_range1 (by rfl) T.n_range (fa_cons fe_int fa_nil)) (fg_name (vs := [2]) 2 sc__law_divisor.nd) (fss_cons (fs_if (ft_cmp (od_eq rfl (hu64 hr)) (fv 1) fe_int (nomark _)) (fss_one (fs_ret (fe_cb (cd_abs) T.n_abs bt_abs (fa_cons (fv 0) fa_nil)))) fss_nil)
    (fss_cons (fs_set 3 sc__law_divisor.nd (fe_op (od_mod) (fe_ct (cd_int) T.n_int bt_int (fa_cons (fv 0) fa_nil)) (fv 1)))
    (fss_cons (fs_set 0 sc__law_divisor.nd (fv 1))
    (fss_one (fs_set 1 sc__law_divisor.nd (fv 3)))))))
    (fss_one (fs_ret fe_int)))
  · match ds, len _ _ _ _ h with
    | [d0, d1], _ => exact hb d0 d1 M Q E h
def g__law_is_fraction (K : PySem.W.Frag) : DS :=
  (sSeq (sIf (gOr (gNot (gTest (gCB dIsi (aCons (gVar 0) (aCons (gC (.ty "tuple")) aNil))))) (gTest (gOp dNe (gCB dLen (aCons (gVar 0) aNil)) (gC (.int 2))))) (sRet (gC (.bl false))) sNext)
    (sSeq (sIf (gOr (gNot (gTest (gCall (sp__law_int K) (aCons (gOp dIx (gVar 0) (gC (.int 0))) aNil)))) (gOr (gNot (gTest (gCall (sp__law_int K) (aCons (gOp dIx (gVar 0) (gC (.int 1))) aNil)))) (gTest (gOp dLt (gOp dIx (gVar 0) (gC (.int 1))) (gC (.int 1)))))) (sRet (gC (.bl false))) sNext)
    (sRet (gOp dEq (gCall (sp__law_divisor K) (aCons (gOp dIx (gVar 0) (gC (.int 0))) (aCons (gOp dIx (gVar 0) (gC (.int 1))) aNil))) (gC (.int 1))))))
theorem sc__law_is_fraction : FnScope ["_law_value"] ["_law_value"] (defScope s__law_is_fraction) := ⟨rfl, rfl, rfl, by decide +kernel, rfl, by decide +kernel, by decide +kernel⟩
theorem w__law_is_fraction (T : Tx K mg) (C__law_divisor : OkD P w K mg base 1 "_law_divisor" ["_law_one", "_law_other"] (sp__law_divisor K)) (C__law_int : OkD P w K mg base 1 "_law_int" ["_law_value"] (sp__law_int K)) (len : ∀ ds M Q E, sp__law_is_fraction K ds M Q E → ds.length = 1)
    (hb : ∀ d0 M Q E, sp__law_is_fraction K [d0] M Q E → g__law_is_fraction K { nx := fun _ M => Q .non M, rt := Q, ex := fun x _ M => E x M } [some d0] M) : OkD P w K mg base 2 "_law_is_fraction" ["_law_value"] (sp__law_is_fraction K) := by
  obtain ⟨fd, F⟩ := T.F__law_is_fraction
  refine ⟨fd, dl_def F sc__law_is_fraction (by intro ds M Q E h; exact len ds M Q E h) (g__law_is_fraction K) (by decide) (fun cdv A outer s H E hr => ?_) (fun ds M Q E h => ?_), F.binds fun _ _ _ _ _ _ us hl => match us, hl with | [_], _ => rfl, F.kp, T.g__law_is_fraction, fun_lk F⟩
  · exact
   (fss_cons (fs_if (FW.ft (fw_or (ft_not (ft_val (fe_cb (cd_isi rfl) T.n_isinstance bt_isinstance (fa_cons (fv 0) (fa_cons (fe_ty rfl T.n_tuple bt_tuple) fa_nil))))) (fw_or1 (ft_cmp (od_ne rfl (hu64 hr)) (fe_cb (cd_len rfl) T.n_len bt_len (fa_cons (fv 0) fa_nil)) fe_int (nomark _))))) (fss_one (fs_ret fe_bl)) fss_nil)
    (fss_cons (fs_if (FW.ft (fw_or (ft_not (ft_val (fe_callO C__law_int (hr.mono (by decide)) (takes_of rfl rfl rfl rfl) (fa_cons (fe_ix (xd_ix rfl) (fv 0) fe_int (fun _ _ => rfl)) fa_nil)))) (fw_or (ft_not (ft_val (fe_callO C__law_int (hr.mono (by decide)) (takes_of rfl rfl rfl rfl) (fa_cons (fe_ix (xd_ix rfl) (fv 0) fe_int (fun _ _ => rfl)) fa_nil)))) (fw_or1 (ft_cmp (od_lt) (fe_ix (xd_ix rfl) (fv 0) fe_int (fun _ _ => rfl)) fe_int (nomark _)))))) (fss_one (fs_ret fe_bl)) fss_nil)
    (fss_one (fs_ret (fe_cmp (od_eq rfl (hu64 hr)) (fe_callO C__law_divisor (hr.mono (by decide)) (takes_of rfl rfl rfl rfl) (fa_cons (fe_ix (xd_ix rfl) (fv 0) fe_int (fun _ _ => rfl)) (fa_cons (fe_ix (xd_ix rfl) (fv 0) fe_int (fun _ _ => rfl)) fa_nil))) fe_int (nomark _))))))
  · match ds, len _ _ _ _ h with
    | [d0], _ => exact hb d0 M Q E h
def g__law_same_worth (K : PySem.W.Frag) : DS :=
  (sRet (gOp dEq (gOp dMul (gOp dIx (gVar 0) (gC (.int 0))) (gOp dIx (gVar 1) (gC (.int 1)))) (gOp dMul (gOp dIx (gVar 1) (gC (.int 0))) (gOp dIx (gVar 0) (gC (.int 1))))))
theorem sc__law_same_worth : FnScope ["_law_one", "_law_other"] ["_law_one", "_law_other"] (defScope s__law_same_worth) := ⟨rfl, rfl, rfl, by decide +kernel, rfl, by decide +kernel, by decide +kernel⟩
theorem w__law_same_worth (T : Tx K mg)  (len : ∀ ds M Q E, sp__law_same_worth K ds M Q E → ds.length = 2)
    (hb : ∀ d0 d1 M Q E, sp__law_same_worth K [d0, d1] M Q E → g__law_same_worth K { nx := fun _ M => Q .non M, rt := Q, ex := fun x _ M => E x M } [some d0, some d1] M) : OkD P w K mg base 1 "_law_same_worth" ["_law_one", "_law_other"] (sp__law_same_worth K) := by
  obtain ⟨fd, F⟩ := T.F__law_same_worth
  refine ⟨fd, dl_def F sc__law_same_worth (by intro ds M Q E h; exact len ds M Q E h) (g__law_same_worth K) (by decide) (fun cdv A outer s H E hr => ?_) (fun ds M Q E h => ?_), F.binds fun _ _ _ _ _ _ us hl => match us, hl with | [_, _], _ => rfl, F.kp, T.g__law_same_worth, fun_lk F⟩
  · exact
   (fss_one (fs_ret (fe_cmp (od_eq rfl (hu64 hr)) (fe_op (od_mul) (fe_ix (xd_ix rfl) (fv 0) fe_int (fun _ _ => rfl)) (fe_ix (xd_ix rfl) (fv 1) fe_int (fun _ _ => rfl))) (fe_op (od_mul) (fe_ix (xd_ix rfl) (fv 1) fe_int (fun _ _ => rfl)) (fe_ix (xd_ix rfl) (fv 0) fe_int (fun _ _ => rfl))) (nomark _))))
  · match ds, len _ _ _ _ h with
    | [d0, d1], _ => exact hb d0 d1 M Q E h
def g__law_at_most (K : PySem.W.Frag) : DS :=
  (sRet (gOp dLe (gOp dMul (gOp dIx (gVar 0) (gC (.int 0))) (gOp dIx (gVar 1) (gC (.int 1)))) (gOp dMul (gOp dIx (gVar 1) (gC (.int 0))) (gOp dIx (gVar 0) (gC (.int 1))))))
theorem sc__law_at_most : FnScope ["_law_one", "_law_other"] ["_law_one", "_law_other"] (defScope s__law_at_most) := ⟨rfl, rfl, rfl, by decide +kernel, rfl, by decide +kernel, by decide +kernel⟩
theorem w__law_at_most (T : Tx K mg)  (len : ∀ ds M Q E, sp__law_at_most K ds M Q E → ds.length = 2)
    (hb : ∀ d0 d1 M Q E, sp__law_at_most K [d0, d1] M Q E → g__law_at_most K { nx := fun _ M => Q .non M, rt := Q, ex := fun x _ M => E x M } [some d0, some d1] M) : OkD P w K mg base 1 "_law_at_most" ["_law_one", "_law_other"] (sp__law_at_most K) := by
  obtain ⟨fd, F⟩ := T.F__law_at_most
  refine ⟨fd, dl_def F sc__law_at_most (by intro ds M Q E h; exact len ds M Q E h) (g__law_at_most K) (by decide) (fun cdv A outer s H E hr => ?_) (fun ds M Q E h => ?_), F.binds fun _ _ _ _ _ _ us hl => match us, hl with | [_, _], _ => rfl, F.kp, T.g__law_at_most, fun_lk F⟩
  · exact
   (fss_one (fs_ret (fe_cmp (od_le) (fe_op (od_mul) (fe_ix (xd_ix rfl) (fv 0) fe_int (fun _ _ => rfl)) (fe_ix (xd_ix rfl) (fv 1) fe_int (fun _ _ => rfl))) (fe_op (od_mul) (fe_ix (xd_ix rfl) (fv 1) fe_int (fun _ _ => rfl)) (fe_ix (xd_ix rfl) (fv 0) fe_int (fun _ _ => rfl))) (nomark _))))
  · match ds, len _ _ _ _ h with
    | [d0, d1], _ => exact hb d0 d1 M Q E h
def g__law_chance (K : PySem.W.Frag) : DS :=
  (sSeq (sSet 1 (gFrz (nLst (aCons (gTup (aCons (gC (.int 1)) (aCons (gC (.int 2)) aNil))) (aCons (gTup (aCons (gC (.int 2)) (aCons (gC (.int 3)) aNil))) (aCons (gTup (aCons (gC (.int 1)) (aCons (gC (.int 2)) aNil))) (aCons (gTup (aCons (gC (.int 3)) (aCons (gC (.int 5)) aNil))) (aCons (gTup (aCons (gC (.int 3)) (aCons (gC (.int 4)) aNil))) (aCons (gTup (aCons (gC (.int 1)) (aCons (gC (.int 3)) aNil))) (aCons (gTup (aCons (gC (.int 5)) (aCons (gC (.int 8)) aNil))) (aCons (gTup (aCons (gC (.int 0)) (aCons (gC (.int 1)) aNil))) (aCons (gTup (aCons (gC (.int 1)) (aCons (gC (.int 1)) aNil))) (aCons (gTup (aCons (gC (.int 8)) (aCons (gC (.int 13)) aNil))) (aCons (gTup (aCons (gC (.int 7)) (aCons (gC (.int 10)) aNil))) (aCons (gTup (aCons (gC (.int 2)) (aCons (gC (.int 5)) aNil))) aNil)))))))))))))))
    (sSeq (sSet 2 (gCall (sp__law_take K) (aCons (gVar 0) (aCons (gC (.int 14)) aNil))))
    (sSeq (sIf (gTest (gOp dLt (gVar 2) (gC (.int 12)))) (sRet (gOp dIx (gVar 1) (gVar 2))) sNext)
    (sSeq (sSet 3 (gOp dAdd (gC (.int 2)) (gCall (sp__law_take K) (aCons (gVar 0) (aCons (gC (.int 11)) aNil)))))
    (sRet (gTup (aCons (gCall (sp__law_take K) (aCons (gVar 0) (aCons (gOp dAdd (gVar 3) (gC (.int 1))) aNil))) (aCons (gVar 3) aNil))))))))
theorem sc__law_chance : FnScope ["_law_drawn", "_law_menu", "_law_word", "_law_bottom"] ["_law_drawn"] (defScope s__law_chance) := ⟨rfl, rfl, rfl, by decide +kernel, rfl, by decide +kernel, by decide +kernel⟩
theorem w__law_chance (T : Tx K mg) (C__law_take : OkD P w K mg base 1 "_law_take" ["_law_drawn", "_law_many"] (sp__law_take K)) (len : ∀ ds M Q E, sp__law_chance K ds M Q E → ds.length = 1)
    (hb : ∀ d0 M Q E, sp__law_chance K [d0] M Q E → g__law_chance K { nx := fun _ M => Q .non M, rt := Q, ex := fun x _ M => E x M } [some d0, none, none, none] M) : OkD P w K mg base 2 "_law_chance" ["_law_drawn"] (sp__law_chance K) := by
  obtain ⟨fd, F⟩ := T.F__law_chance
  refine ⟨fd, dl_def F sc__law_chance (by intro ds M Q E h; exact len ds M Q E h) (g__law_chance K) (by decide) (fun cdv A outer s H E hr => ?_) (fun ds M Q E h => ?_), F.binds fun _ _ _ _ _ _ us hl => match us, hl with | [_], _ => rfl, F.kp, T.g__law_chance, fun_lk F⟩
  · exact
   (fss_cons (fs_set 1 sc__law_chance.nd (FN.frz (fn_lst (fa_cons (fe_tup (fa_cons fe_int (fa_cons fe_int fa_nil))) (fa_cons (fe_tup (fa_cons fe_int (fa_cons fe_int fa_nil))) (fa_cons (fe_tup (fa_cons fe_int (fa_cons fe_int fa_nil))) (fa_cons (fe_tup (fa_cons fe_int (fa_cons fe_int fa_nil))) (fa_cons (fe_tup (fa_cons fe_int (fa_cons fe_int fa_nil))) (fa_cons (fe_tup (fa_cons fe_int (fa_cons fe_int fa_nil))) (fa_cons (fe_tup (fa_cons fe_int (fa_cons fe_int fa_nil))) (fa_cons (fe_tup (fa_cons fe_int (fa_cons fe_int fa_nil))) (fa_cons (fe_tup (fa_cons fe_int (fa_cons fe_int fa_nil))) (fa_cons (fe_tup (fa_cons fe_int (fa_cons fe_int fa_nil))) (fa_cons (fe_tup (fa_cons fe_int (fa_cons fe_int fa_nil))) (fa_cons (fe_tup (fa_cons fe_int (fa_cons fe_int fa_nil))) fa_nil)))))))))))))))
    (fss_cons (fs_set 2 sc__law_chance.nd (fe_callO C__law_take (hr.mono (by decide)) (takes_of rfl rfl rfl rfl) (fa_cons (fv 0) (fa_cons fe_int fa_nil))))
    (fss_cons (fs_if (ft_cmp (od_lt) (fv 2) fe_int (nomark _)) (fss_one (fs_ret (fe_ix (xd_ix rfl) (fv 1) (fv 2) (fun _ _ => rfl)))) fss_nil)
    (fss_cons (fs_set 3 sc__law_chance.nd (fe_op (od_add rfl) fe_int (fe_callO C__law_take (hr.mono (by decide)) (takes_of rfl rfl rfl rfl) (fa_cons (fv 0) (fa_cons fe_int fa_nil)))))
    (fss_one (fs_ret (fe_tup (fa_cons (fe_callO C__law_take (hr.mono (by decide)) (takes_of rfl rfl rfl rfl) (fa_cons (fv 0) (fa_cons (fe_op (od_add rfl) (fv 3) fe_int) fa_nil))) (fa_cons (fv 3) fa_nil)))))))))
  · match ds, len _ _ _ _ h with
    | [d0], _ => exact hb d0 M Q E h
def g__law_closes (K : PySem.W.Frag) : DS :=
  (sSeq (sSet 1 (gC (.int 1)))
    (sSeq (sSet 2 (gC (.int 1)))
    (sSeq (sSet 3 (gC (.int 1)))
    (sSeq (sFor (iRange1 (aCons (gCB dLen (aCons (gVar 0) aNil)) aNil)) (dName 4) (sSeq (sSet 5 (gOp dSub (gOp dMul (gOp dIx (gOp dIx (gVar 0) (gVar 4)) (gC (.int 1))) (gVar 2)) (gOp dMul (gOp dMul (gOp dIx (gOp dIx (gVar 0) (gVar 4)) (gC (.int 0))) (gVar 3)) (gVar 1))))
    (sSeq (sSet 1 (gVar 2))
    (sSeq (sSet 2 (gVar 5))
    (sSeq (sSet 3 (gOp dIx (gOp dIx (gVar 0) (gVar 4)) (gC (.int 1))))
    (sIf (gTest (gOp dLe (gVar 2) (gC (.int 0)))) (sRet (gOp dAdd (gVar 4) (gC (.int 1)))) sNext))))))
    (sRet (gC .non))))))
theorem sc__law_closes : FnScope ["_law_losses_here", "_law_before", "_law_now", "_law_bottom", "_law_at", "_law_after"] ["_law_losses_here"] (defScope s__law_closes) := ⟨rfl, rfl, rfl, by decide +kernel, rfl, by decide +kernel, by decide +kernel⟩
theorem w__law_closes (T : Tx K mg)  (len : ∀ ds M Q E, sp__law_closes K ds M Q E → ds.length = 1)
    (hb : ∀ d0 M Q E, sp__law_closes K [d0] M Q E → g__law_closes K { nx := fun _ M => Q .non M, rt := Q, ex := fun x _ M => E x M } [some d0, none, none, none, none, none] M) : OkD P w K mg base 1 "_law_closes" ["_law_losses_here"] (sp__law_closes K) := by
  obtain ⟨fd, F⟩ := T.F__law_closes
  refine ⟨fd, dl_def F sc__law_closes (by intro ds M Q E h; exact len ds M Q E h) (g__law_closes K) (by decide) (fun cdv A outer s H E hr => ?_) (fun ds M Q E h => ?_), F.binds fun _ _ _ _ _ _ us hl => match us, hl with | [_], _ => rfl, F.kp, T.g__law_closes, fun_lk F⟩
  · exact
   (fss_cons (fs_set 1 sc__law_closes.nd fe_int)
    (fss_cons (fs_set 2 sc__law_closes.nd fe_int)
    (fss_cons (fs_set 3 sc__law_closes.nd fe_int)
    (fss_cons (fs_for (passes_of rfl) rfl (fi_range1 (by rfl) T.n_range (fa_cons (fe_cb (cd_len rfl) T.n_len bt_len (fa_cons (fv 0) fa_nil)) fa_nil)) (fg_name (vs := [4]) 4 sc__law_closes.nd) (fss_cons (fs_set 5 sc__law_closes.nd (fe_op (od_sub) (fe_op (od_mul) (fe_ix (xd_ix rfl) (fe_ix (xd_ix rfl) (fv 0) (fv 4) (fun _ _ => rfl)) fe_int (fun _ _ => rfl)) (fv 2)) (fe_op (od_mul) (fe_op (od_mul) (fe_ix (xd_ix rfl) (fe_ix (xd_ix rfl) (fv 0) (fv 4) (fun _ _ => rfl)) fe_int (fun _ _ => rfl)) (fv 3)) (fv 1))))
    (fss_cons (fs_set 1 sc__law_closes.nd (fv 2))
    (fss_cons (fs_set 2 sc__law_closes.nd (fv 5))
    (fss_cons (fs_set 3 sc__law_closes.nd (fe_ix (xd_ix rfl) (fe_ix (xd_ix rfl) (fv 0) (fv 4) (fun _ _ => rfl)) fe_int (fun _ _ => rfl)))
    (fss_one (fs_if (ft_cmp (od_le) (fv 2) fe_int (nomark _)) (fss_one (fs_ret (fe_op (od_add rfl) (fv 4) fe_int))) fss_nil)))))))
    (fss_one (fs_ret fe_non))))))
  · match ds, len _ _ _ _ h with
    | [d0], _ => exact hb d0 M Q E h
def g__law_loss (K : PySem.W.Frag) : DS :=
  (sSeq (sSet 1 (gCall (sp__law_chance K) (aCons (gVar 0) aNil)))
    (sSeq (sSet 2 (gCall (sp__law_take K) (aCons (gVar 0) (aCons (gC (.int 9)) aNil))))
    (sSeq (sIf (gTest (gOp dEq (gVar 2) (gC (.int 8)))) (sRet (gTup (aCons (gOp dAdd (gC (.int 333333)) (gOp dMul (gCall (sp__law_take K) (aCons (gVar 0) (aCons (gC (.int 30)) aNil))) (gC (.int 20011)))) (aCons (gC (.int 999983)) aNil)))) sNext)
    (sSeq (sIf (gTest (gOp dEq (gVar 2) (gC (.int 7)))) (sRet (gFrz (nLst (aCons (gOp dMul (gOp dIx (gVar 1) (gC (.int 0))) (gC (.int 3))) (aCons (gOp dMul (gOp dIx (gVar 1) (gC (.int 1))) (gC (.int 3))) aNil))))) sNext)
    (sSeq (sIf (gTest (gOp dEq (gOp dIx (gVar 1) (gC (.int 1))) (gC (.int 1)))) (sRet (gOp dIx (gVar 1) (gC (.int 0)))) sNext)
    (sRet (gVar 1)))))))
theorem sc__law_loss : FnScope ["_law_drawn", "_law_told", "_law_word"] ["_law_drawn"] (defScope s__law_loss) := ⟨rfl, rfl, rfl, by decide +kernel, rfl, by decide +kernel, by decide +kernel⟩
theorem w__law_loss (T : Tx K mg) (C__law_chance : OkD P w K mg base 2 "_law_chance" ["_law_drawn"] (sp__law_chance K)) (C__law_take : OkD P w K mg base 1 "_law_take" ["_law_drawn", "_law_many"] (sp__law_take K)) (len : ∀ ds M Q E, sp__law_loss K ds M Q E → ds.length = 1)
    (hb : ∀ d0 M Q E, sp__law_loss K [d0] M Q E → g__law_loss K { nx := fun _ M => Q .non M, rt := Q, ex := fun x _ M => E x M } [some d0, none, none] M) : OkD P w K mg base 3 "_law_loss" ["_law_drawn"] (sp__law_loss K) := by
  obtain ⟨fd, F⟩ := T.F__law_loss
  refine ⟨fd, dl_def F sc__law_loss (by intro ds M Q E h; exact len ds M Q E h) (g__law_loss K) (by decide) (fun cdv A outer s H E hr => ?_) (fun ds M Q E h => ?_), F.binds fun _ _ _ _ _ _ us hl => match us, hl with | [_], _ => rfl, F.kp, T.g__law_loss, fun_lk F⟩
  · exact
   (fss_cons (fs_set 1 sc__law_loss.nd (fe_callO C__law_chance (hr.mono (by decide)) (takes_of rfl rfl rfl rfl) (fa_cons (fv 0) fa_nil)))
    (fss_cons (fs_set 2 sc__law_loss.nd (fe_callO C__law_take (hr.mono (by decide)) (takes_of rfl rfl rfl rfl) (fa_cons (fv 0) (fa_cons fe_int fa_nil))))
    (fss_cons (fs_if (ft_cmp (od_eq rfl (hu64 hr)) (fv 2) fe_int (nomark _)) (fss_one (fs_ret (fe_tup (fa_cons (fe_op (od_add rfl) fe_int (fe_op (od_mul) (fe_callO C__law_take (hr.mono (by decide)) (takes_of rfl rfl rfl rfl) (fa_cons (fv 0) (fa_cons fe_int fa_nil))) fe_int)) (fa_cons fe_int fa_nil))))) fss_nil)
    (fss_cons (fs_if (ft_cmp (od_eq rfl (hu64 hr)) (fv 2) fe_int (nomark _)) (fss_one (fs_ret (FN.frz (fn_lst (fa_cons (fe_op (od_mul) (fe_ix (xd_ix rfl) (fv 1) fe_int (fun _ _ => rfl)) fe_int) (fa_cons (fe_op (od_mul) (fe_ix (xd_ix rfl) (fv 1) fe_int (fun _ _ => rfl)) fe_int) fa_nil)))))) fss_nil)
    (fss_cons (fs_if (ft_cmp (od_eq rfl (hu64 hr)) (fe_ix (xd_ix rfl) (fv 1) fe_int (fun _ _ => rfl)) fe_int (nomark _)) (fss_one (fs_ret (fe_ix (xd_ix rfl) (fv 1) fe_int (fun _ _ => rfl)))) fss_nil)
    (fss_one (fs_ret (fv 1))))))))
  · match ds, len _ _ _ _ h with
    | [d0], _ => exact hb d0 M Q E h
def g__law_pair (K : PySem.W.Frag) : DS :=
  (sSeq (sIf (gTest (gCall (sp__law_int K) (aCons (gVar 0) aNil))) (sRet (gTup (aCons (gVar 0) (aCons (gC (.int 1)) aNil)))) sNext)
    (sRet (gTup (aCons (gOp dIx (gVar 0) (gC (.int 0))) (aCons (gOp dIx (gVar 0) (gC (.int 1))) aNil)))))
theorem sc__law_pair : FnScope ["_law_loss_here"] ["_law_loss_here"] (defScope s__law_pair) := ⟨rfl, rfl, rfl, by decide +kernel, rfl, by decide +kernel, by decide +kernel⟩
theorem w__law_pair (T : Tx K mg) (C__law_int : OkD P w K mg base 1 "_law_int" ["_law_value"] (sp__law_int K)) (len : ∀ ds M Q E, sp__law_pair K ds M Q E → ds.length = 1)
    (hb : ∀ d0 M Q E, sp__law_pair K [d0] M Q E → g__law_pair K { nx := fun _ M => Q .non M, rt := Q, ex := fun x _ M => E x M } [some d0] M) : OkD P w K mg base 2 "_law_pair" ["_law_loss_here"] (sp__law_pair K) := by
  obtain ⟨fd, F⟩ := T.F__law_pair
  refine ⟨fd, dl_def F sc__law_pair (by intro ds M Q E h; exact len ds M Q E h) (g__law_pair K) (by decide) (fun cdv A outer s H E hr => ?_) (fun ds M Q E h => ?_), F.binds fun _ _ _ _ _ _ us hl => match us, hl with | [_], _ => rfl, F.kp, T.g__law_pair, fun_lk F⟩
  · exact
   (fss_cons (fs_if (ft_val (fe_callO C__law_int (hr.mono (by decide)) (takes_of rfl rfl rfl rfl) (fa_cons (fv 0) fa_nil))) (fss_one (fs_ret (fe_tup (fa_cons (fv 0) (fa_cons fe_int fa_nil))))) fss_nil)
    (fss_one (fs_ret (fe_tup (fa_cons (fe_ix (xd_ix rfl) (fv 0) fe_int (fun _ _ => rfl)) (fa_cons (fe_ix (xd_ix rfl) (fv 0) fe_int (fun _ _ => rfl)) fa_nil))))))
  · match ds, len _ _ _ _ h with
    | [d0], _ => exact hb d0 M Q E h
def g__law_losses (K : PySem.W.Frag) : DS :=
  (sSeq (sSet 1 (gOp dIx (gFrz (nLst (aCons (gC (.int 3)) (aCons (gC (.int 2)) (aCons (gC (.int 0)) (aCons (gC (.int 4)) (aCons (gC (.int 5)) (aCons (gC (.int 1)) (aCons (gC (.int 6)) (aCons (gC (.int 8)) (aCons (gC (.int 3)) (aCons (gC (.int 16)) aNil)))))))))))) (gCall (sp__law_take K) (aCons (gVar 0) (aCons (gC (.int 10)) aNil)))))
    (sSeq (sSet 2 (gCall (sp__law_take K) (aCons (gVar 0) (aCons (gC (.int 7)) aNil))))
    (sSeq (sSet 3 (gFrz (nLc (iRange1 (aCons (gVar 1) aNil)) (dName 4) gYes (gCall (sp__law_loss K) (aCons (gVar 0) aNil)) [4])))
    (sSeq (sSet 5 (gCall (sp__law_take K) (aCons (gVar 0) (aCons (gOp dAdd (gVar 1) (gC (.int 1))) aNil))))
    (sSeq (sIf (gTest (gOp dEq (gVar 2) (gC (.int 1)))) (sSeq (sSet 6 (gCall (sp__law_chance K) (aCons (gVar 0) aNil)))
    (sSeq (sSet 3 (gOp dAdd (gOp dAdd (gSl (gVar 3) oNone (oSome (gVar 5))) (gFrz (nLst (aCons (gVar 6) (aCons (gTup (aCons (gOp dSub (gOp dIx (gVar 6) (gC (.int 1))) (gOp dIx (gVar 6) (gC (.int 0)))) (aCons (gOp dIx (gVar 6) (gC (.int 1))) aNil))) aNil))))) (gSl (gVar 3) (oSome (gVar 5)) oNone)))
    (sSet 3 (gSl (gVar 3) oNone (oSome (gC (.int 16))))))) sNext)
    (sSeq (sIf (gTest (gOp dEq (gVar 2) (gC (.int 2)))) (sSet 3 (gFrz (nLc (iRange1 (aCons (gC (.int 16)) aNil)) (dName 4) gYes (gTup (aCons (gC (.int 1)) (aCons (gOp dAdd (gC (.int 4)) (gOp dMul (gCall (sp__law_take K) (aCons (gVar 0) (aCons (gC (.int 2)) aNil))) (gCall (sp__law_take K) (aCons (gVar 0) (aCons (gC (.int 5)) aNil))))) aNil))) [4]))) sNext)
    (sSeq (sIf (gTest (gOp dEq (gVar 2) (gC (.int 3)))) (sSeq (sSet 3 (gOp dAdd (gOp dAdd (gSl (gVar 3) oNone (oSome (gVar 5))) (gFrz (nLst (aCons (gC (.int 1)) aNil)))) (gSl (gVar 3) (oSome (gVar 5)) oNone)))
    (sSet 3 (gSl (gVar 3) oNone (oSome (gC (.int 16)))))) sNext)
    (sSeq (sIf (gTest (gOp dEq (gVar 2) (gC (.int 4)))) (sSeq (sSet 7 (gCall (sp__law_chance K) (aCons (gVar 0) aNil)))
    (sSet 3 (gFrz (nLc (iRange1 (aCons (gVar 1) aNil)) (dName 4) gYes (gVar 7) [4])))) sNext)
    (sRet (gVar 3))))))))))
theorem sc__law_losses : FnScope ["_law_drawn", "_law_many", "_law_kind", "_law_losses_here", "_law_at", "_law_place", "_law_told", "_law_first"] ["_law_drawn"] (defScope s__law_losses) := ⟨rfl, rfl, rfl, by decide +kernel, rfl, by decide +kernel, by decide +kernel⟩
theorem w__law_losses (T : Tx K mg) (C__law_take : OkD P w K mg base 1 "_law_take" ["_law_drawn", "_law_many"] (sp__law_take K)) (C__law_loss : OkD P w K mg base 3 "_law_loss" ["_law_drawn"] (sp__law_loss K)) (C__law_chance : OkD P w K mg base 2 "_law_chance" ["_law_drawn"] (sp__law_chance K)) (len : ∀ ds M Q E, sp__law_losses K ds M Q E → ds.length = 1)
    (hb : ∀ d0 M Q E, sp__law_losses K [d0] M Q E → g__law_losses K { nx := fun _ M => Q .non M, rt := Q, ex := fun x _ M => E x M } [some d0, none, none, none, none, none, none, none] M) : OkD P w K mg base 4 "_law_losses" ["_law_drawn"] (sp__law_losses K) := by
  obtain ⟨fd, F⟩ := T.F__law_losses
  refine ⟨fd, dl_def F sc__law_losses (by intro ds M Q E h; exact len ds M Q E h) (g__law_losses K) (by decide) (fun cdv A outer s H E hr => ?_) (fun ds M Q E h => ?_), F.binds fun _ _ _ _ _ _ us hl => match us, hl with | [_], _ => rfl, F.kp, T.g__law_losses, fun_lk F⟩
  · exact
   (fss_cons (fs_set 1 sc__law_losses.nd (fe_ix (xd_ix rfl) (FN.frz (fn_lst (fa_cons fe_int (fa_cons fe_int (fa_cons fe_int (fa_cons fe_int (fa_cons fe_int (fa_cons fe_int (fa_cons fe_int (fa_cons fe_int (fa_cons fe_int (fa_cons fe_int fa_nil)))))))))))) (fe_callO C__law_take (hr.mono (by decide)) (takes_of rfl rfl rfl rfl) (fa_cons (fv 0) (fa_cons fe_int fa_nil))) (fun _ _ => rfl)))
    (fss_cons (fs_set 2 sc__law_losses.nd (fe_callO C__law_take (hr.mono (by decide)) (takes_of rfl rfl rfl rfl) (fa_cons (fv 0) (fa_cons fe_int fa_nil))))
    (fss_cons (fs_setLc (own := [("_law_at", 4)]) 3 sc__law_losses.nd (fi_range1 (by rfl) T.n_range (fa_cons (fv 1) fa_nil)) (blkOk_by (by kernel_rfl)) (fun s H C cl fp => (fg_name (vs := [4]) 4 sc__law_losses.nd)) (fun s H C cl fp => fts_nil) (fun s H C cl fp => (fe_callO C__law_loss (hr.mono (by decide)) takes0 (fa_cons (fv 0) fa_nil))) frz_im)
    (fss_cons (fs_set 5 sc__law_losses.nd (fe_callO C__law_take (hr.mono (by decide)) (takes_of rfl rfl rfl rfl) (fa_cons (fv 0) (fa_cons (fe_op (od_add rfl) (fv 1) fe_int) fa_nil))))
    (fss_cons (fs_if (ft_cmp (od_eq rfl (hu64 hr)) (fv 2) fe_int (nomark _)) (fss_cons (fs_set 6 sc__law_losses.nd (fe_callO C__law_chance (hr.mono (by decide)) (takes_of rfl rfl rfl rfl) (fa_cons (fv 0) fa_nil)))
    (fss_cons (fs_set 3 sc__law_losses.nd (fe_op (od_add rfl) (fe_op (od_add rfl) (fe_slice rfl (fv 3) fo_none (fo_some (fv 5))) (FN.frz (fn_lst (fa_cons (fv 6) (fa_cons (fe_tup (fa_cons (fe_op (od_sub) (fe_ix (xd_ix rfl) (fv 6) fe_int (fun _ _ => rfl)) (fe_ix (xd_ix rfl) (fv 6) fe_int (fun _ _ => rfl))) (fa_cons (fe_ix (xd_ix rfl) (fv 6) fe_int (fun _ _ => rfl)) fa_nil))) fa_nil))))) (fe_slice rfl (fv 3) (fo_some (fv 5)) fo_none)))
    (fss_one (fs_set 3 sc__law_losses.nd (fe_slice rfl (fv 3) fo_none (fo_some fe_int)))))) fss_nil)
    (fss_cons (fs_if (ft_cmp (od_eq rfl (hu64 hr)) (fv 2) fe_int (nomark _)) (fss_one (fs_setLc (own := [("_law_at", 4)]) 3 sc__law_losses.nd (fi_range1 (by rfl) T.n_range (fa_cons fe_int fa_nil)) (blkOk_by (by kernel_rfl)) (fun s H C cl fp => (fg_name (vs := [4]) 4 sc__law_losses.nd)) (fun s H C cl fp => fts_nil) (fun s H C cl fp => (fe_tup (fa_cons fe_int (fa_cons (fe_op (od_add rfl) fe_int (fe_op (od_mul) (fe_callO C__law_take (hr.mono (by decide)) takes0 (fa_cons (fv 0) (fa_cons fe_int fa_nil))) (fe_callO C__law_take (hr.mono (by decide)) takes0 (fa_cons (fv 0) (fa_cons fe_int fa_nil))))) fa_nil)))) frz_im)) fss_nil)
    (fss_cons (fs_if (ft_cmp (od_eq rfl (hu64 hr)) (fv 2) fe_int (nomark _)) (fss_cons (fs_set 3 sc__law_losses.nd (fe_op (od_add rfl) (fe_op (od_add rfl) (fe_slice rfl (fv 3) fo_none (fo_some (fv 5))) (FN.frz (fn_lst (fa_cons fe_int fa_nil)))) (fe_slice rfl (fv 3) (fo_some (fv 5)) fo_none)))
    (fss_one (fs_set 3 sc__law_losses.nd (fe_slice rfl (fv 3) fo_none (fo_some fe_int))))) fss_nil)
    (fss_cons (fs_if (ft_cmp (od_eq rfl (hu64 hr)) (fv 2) fe_int (nomark _)) (fss_cons (fs_set 7 sc__law_losses.nd (fe_callO C__law_chance (hr.mono (by decide)) (takes_of rfl rfl rfl rfl) (fa_cons (fv 0) fa_nil)))
    (fss_one (fs_setLc (own := [("_law_at", 4)]) 3 sc__law_losses.nd (fi_range1 (by rfl) T.n_range (fa_cons (fv 1) fa_nil)) (blkOk_by (by kernel_rfl)) (fun s H C cl fp => (fg_name (vs := [4]) 4 sc__law_losses.nd)) (fun s H C cl fp => fts_nil) (fun s H C cl fp => (fv 7)) frz_im))) fss_nil)
    (fss_one (fs_ret (fv 3)))))))))))
  · match ds, len _ _ _ _ h with
    | [d0], _ => exact hb d0 M Q E h
def g__law_rests_due (K : PySem.W.Frag) : DS :=
  (sSeq (sSet 1 (gCel (nLst (aCons (gTup (aCons (gC (.int 1)) (aCons (gC (.int 1)) aNil))) aNil))))
    (sSeq (sFor (iSeqD (gVar 0)) (dName 2) (sSeq (sSet 3 (gOp dIx (gVar 1) (gOp dSub (gCB dLen (aCons (gVar 1) aNil)) (gC (.int 1)))))
    (sIf (gTest (gOp dGt (gOp dIx (gVar 3) (gC (.int 0))) (gC (.int 0)))) (sDrop (gMt dAppend (gVar 1) (aCons (gTup (aCons (gOp dSub (gOp dMul (gOp dIx (gVar 2) (gC (.int 1))) (gOp dIx (gVar 3) (gC (.int 0)))) (gOp dMul (gOp dIx (gVar 2) (gC (.int 0))) (gOp dIx (gVar 3) (gC (.int 1))))) (aCons (gOp dMul (gOp dIx (gVar 2) (gC (.int 1))) (gOp dIx (gVar 3) (gC (.int 0)))) aNil))) aNil))) sNext)))
    (sRetF (gVar 1))))
theorem sc__law_rests_due : FnScope ["_law_pairs", "_law_made", "_law_pair_here", "_law_last"] ["_law_pairs"] (defScope s__law_rests_due) := ⟨rfl, rfl, rfl, by decide +kernel, rfl, by decide +kernel, by decide +kernel⟩
theorem w__law_rests_due (T : Tx K mg)  (len : ∀ ds M Q E, sp__law_rests_due K ds M Q E → ds.length = 1)
    (hb : ∀ d0 M Q E, sp__law_rests_due K [d0] M Q E → g__law_rests_due K { nx := fun _ M => Q .non M, rt := Q, ex := fun x _ M => E x M } [some d0, none, none, none] M) : OkD P w K mg base 1 "_law_rests_due" ["_law_pairs"] (sp__law_rests_due K) := by
  obtain ⟨fd, F⟩ := T.F__law_rests_due
  refine ⟨fd, dl_def F sc__law_rests_due (by intro ds M Q E h; exact len ds M Q E h) (g__law_rests_due K) (by decide) (fun cdv A outer s H E hr => ?_) (fun ds M Q E h => ?_), F.binds fun _ _ _ _ _ _ us hl => match us, hl with | [_], _ => rfl, F.kp, T.g__law_rests_due, fun_lk F⟩
  · exact
   (fss_cons (fs_set 1 sc__law_rests_due.nd (FN.cel (fn_lst (fa_cons (fe_tup (fa_cons fe_int (fa_cons fe_int fa_nil))) fa_nil))))
    (fss_cons (fs_for (passes_of rfl) rfl (fi_seq rfl (fv 0)) (fg_name (vs := [2]) 2 sc__law_rests_due.nd) (fss_cons (fs_set 3 sc__law_rests_due.nd (fe_ix (xd_ix rfl) (fv 1) (fe_op (od_sub) (fe_cb (cd_len rfl) T.n_len bt_len (fa_cons (fv 1) fa_nil)) fe_int) (fun _ _ => rfl)))
    (fss_one (fs_if (ft_cmp (od_gt) (fe_ix (xd_ix rfl) (fv 3) fe_int (fun _ _ => rfl)) fe_int (nomark _)) (fss_one (fs_expr (fe_mt rfl (PySem.F.slot_list_append) PySem.F.type_list_append md_append (fv 1) (fa_cons (fe_tup (fa_cons (fe_op (od_sub) (fe_op (od_mul) (fe_ix (xd_ix rfl) (fv 2) fe_int (fun _ _ => rfl)) (fe_ix (xd_ix rfl) (fv 3) fe_int (fun _ _ => rfl))) (fe_op (od_mul) (fe_ix (xd_ix rfl) (fv 2) fe_int (fun _ _ => rfl)) (fe_ix (xd_ix rfl) (fv 3) fe_int (fun _ _ => rfl)))) (fa_cons (fe_op (od_mul) (fe_ix (xd_ix rfl) (fv 2) fe_int (fun _ _ => rfl)) (fe_ix (xd_ix rfl) (fv 3) fe_int (fun _ _ => rfl))) fa_nil))) fa_nil)))) fss_nil))))
    (fss_one (fs_retF (fv 1)))))
  · match ds, len _ _ _ _ h with
    | [d0], _ => exact hb d0 M Q E h
def g__law_tells (K : PySem.W.Frag) : DS :=
  (sSeq (sSet 1 (gFrz (nLc (iSeqD (gVar 0)) (dName 2) gYes (gCall (sp__law_pair K) (aCons (gVar 2) aNil)) [2])))
    (sSeq (sSet 3 (gCall (sp__law_rests_due K) (aCons (gVar 1) aNil)))
    (sSeq (sSet 4 (gFrz (nLc (iSeqD (gVar 0)) (dName 2) gYes (gCB dRepr (aCons (gVar 2) aNil)) [2])))
    (sSeq (sSet 5 (gCall (sp_rests K) (aCons (gVar 0) aNil)))
    (sSeq (sIf (gOr (gNot (gTest (gCB dIsi (aCons (gVar 5) (aCons (gC (.ty "tuple")) aNil))))) (gTest (gOp dNe (gCB dLen (aCons (gVar 5) aNil)) (gCB dLen (aCons (gVar 3) aNil))))) (sRet (gC (.bl false))) sNext)
    (sSeq (sFor (iRange1 (aCons (gCB dLen (aCons (gVar 3) aNil)) aNil)) (dName 6) (sSeq (sIf (gOr (gNot (gTest (gCall (sp__law_is_fraction K) (aCons (gOp dIx (gVar 5) (gVar 6)) aNil)))) (gNot (gTest (gCall (sp__law_same_worth K) (aCons (gOp dIx (gVar 5) (gVar 6)) (aCons (gOp dIx (gVar 3) (gVar 6)) aNil)))))) (sRet (gC (.bl false))) sNext)
    (sIf (gNot (gTest (gCall (sp__law_at_most K) (aCons (gOp dIx (gVar 5) (gVar 6)) (aCons (gTup (aCons (gC (.int 1)) (aCons (gC (.int 1)) aNil))) aNil))))) (sRet (gC (.bl false))) sNext)))
    (sSeq (sSet 7 (gOp dIx (gVar 5) (gOp dSub (gCB dLen (aCons (gVar 5) aNil)) (gC (.int 1)))))
    (sSeq (sSet 8 (gCall (sp_closes_at K) (aCons (gVar 0) aNil)))
    (sSeq (sSet 9 (gCall (sp_rest_of K) (aCons (gCB dTupleOf (aCons (gVar 0) aNil)) aNil)))
    (sSeq (sIf (gTest (gOp dLe (gOp dIx (gVar 7) (gC (.int 0))) (gC (.int 0)))) (sIf (gOr (gNot (gTest (gCall (sp__law_int K) (aCons (gVar 8) aNil)))) (gOr (gTest (gOp dNe (gVar 8) (gOp dSub (gCB dLen (aCons (gVar 3) aNil)) (gC (.int 1))))) (gTest (gOp (dIsN fun b => !b) (gVar 9) (gC .non))))) (sRet (gC (.bl false))) sNext) (sSeq (sIf (gOr (gTest (gOp (dIsN fun b => !b) (gVar 8) (gC .non))) (gTest (gOp dNe (gCB dLen (aCons (gVar 3) aNil)) (gOp dAdd (gCB dLen (aCons (gVar 1) aNil)) (gC (.int 1)))))) (sRet (gC (.bl false))) sNext)
    (sIf (gOr (gNot (gTest (gCall (sp__law_is_fraction K) (aCons (gVar 9) aNil)))) (gNot (gTest (gCall (sp__law_same_worth K) (aCons (gVar 9) (aCons (gVar 7) aNil)))))) (sRet (gC (.bl false))) sNext)))
    (sRet (gAndV (gOp dEq (gVar 4) (gFrz (nLc (iSeqD (gVar 0)) (dName 2) gYes (gCB dRepr (aCons (gVar 2) aNil)) [2]))) (gOp dEq (gCall (sp_rests K) (aCons (gCB dTupleOf (aCons (gVar 0) aNil)) aNil)) (gVar 5))))))))))))))
theorem sc__law_tells : FnScope ["_law_losses_here", "_law_pairs", "_law_loss_here", "_law_due", "_law_kept", "_law_made", "_law_at", "_law_last", "_law_place", "_law_rest"] ["_law_losses_here"] (defScope s__law_tells) := ⟨rfl, rfl, rfl, by decide +kernel, rfl, by decide +kernel, by decide +kernel⟩
theorem w__law_tells (T : Tx K mg) (C__law_rests_due : OkD P w K mg base 1 "_law_rests_due" ["_law_pairs"] (sp__law_rests_due K)) (C_rests : OkD P w K mg base 6 "rests" ["losses"] (sp_rests K)) (C_closes_at : OkD P w K mg base 7 "closes_at" ["losses"] (sp_closes_at K)) (C_rest_of : OkD P w K mg base 7 "rest_of" ["losses"] (sp_rest_of K)) (C__law_pair : OkD P w K mg base 2 "_law_pair" ["_law_loss_here"] (sp__law_pair K)) (C__law_at_most : OkD P w K mg base 1 "_law_at_most" ["_law_one", "_law_other"] (sp__law_at_most K)) (C__law_is_fraction : OkD P w K mg base 2 "_law_is_fraction" ["_law_value"] (sp__law_is_fraction K)) (C__law_same_worth : OkD P w K mg base 1 "_law_same_worth" ["_law_one", "_law_other"] (sp__law_same_worth K)) (C__law_int : OkD P w K mg base 1 "_law_int" ["_law_value"] (sp__law_int K)) (len : ∀ ds M Q E, sp__law_tells K ds M Q E → ds.length = 1)
    (hb : ∀ d0 M Q E, sp__law_tells K [d0] M Q E → g__law_tells K { nx := fun _ M => Q .non M, rt := Q, ex := fun x _ M => E x M } [some d0, none, none, none, none, none, none, none, none, none] M) : OkDG P w K mg base 8 "_law_tells" ["_law_losses_here"] (sp__law_tells K) := by
  obtain ⟨fd, F⟩ := T.F__law_tells
  refine ⟨fd, dl_defG F sc__law_tells (by intro ds M Q E h; exact len ds M Q E h) (g__law_tells K) (by decide) (fun cdv A outer s H E gu hr => ?_) (fun ds M Q E h => ?_), F.binds fun _ _ _ _ _ _ us hl => match us, hl with | [_], _ => rfl, F.kp, T.g__law_tells, fun_lk F⟩
  · exact
   (fss_cons (fs_setLc (own := [("_law_loss_here", 2)]) 1 sc__law_tells.nd (fi_seq rfl (fv 0)) (blkOk_by (by kernel_rfl)) (fun s H C cl fp => (fg_name (vs := [2]) 2 sc__law_tells.nd)) (fun s H C cl fp => fts_nil) (fun s H C cl fp => (fe_callO C__law_pair (hr.mono (by decide)) takes0 (fa_cons (fv 2) fa_nil))) frz_im)
    (fss_cons (fs_set 3 sc__law_tells.nd (fe_callO C__law_rests_due (hr.mono (by decide)) (takes_of rfl rfl rfl rfl) (fa_cons (fv 1) fa_nil)))
    (fss_cons (fs_setLc (own := [("_law_loss_here", 2)]) 4 sc__law_tells.nd (fi_seq rfl (fv 0)) (blkOk_by (by kernel_rfl)) (fun s H C cl fp => (fg_name (vs := [2]) 2 sc__law_tells.nd)) (fun s H C cl fp => fts_nil) (fun s H C cl fp => (fe_cb (cd_repr rfl gu (hu66 hr)) T.n_repr bt_repr (fa_cons (fv 2) fa_nil))) frz_im)
    (fss_cons (fs_set 5 sc__law_tells.nd (fe_callO C_rests (hr.mono (by decide)) (takes_of rfl rfl rfl rfl) (fa_cons (fv 0) fa_nil)))
    (fss_cons (fs_if (FW.ft (fw_or (ft_not (ft_val (fe_cb (cd_isi rfl) T.n_isinstance bt_isinstance (fa_cons (fv 5) (fa_cons (fe_ty rfl T.n_tuple bt_tuple) fa_nil))))) (fw_or1 (ft_cmp (od_ne rfl (hu64 hr)) (fe_cb (cd_len rfl) T.n_len bt_len (fa_cons (fv 5) fa_nil)) (fe_cb (cd_len rfl) T.n_len bt_len (fa_cons (fv 3) fa_nil)) (nomark _))))) (fss_one (fs_ret fe_bl)) fss_nil)
    (fss_cons (fs_for (passes_of rfl) rfl (fi_range1 (by rfl) T.n_range (fa_cons (fe_cb (cd_len rfl) T.n_len bt_len (fa_cons (fv 3) fa_nil)) fa_nil)) (fg_name (vs := [6]) 6 sc__law_tells.nd) (fss_cons (fs_if (FW.ft (fw_or (ft_not (ft_val (fe_callO C__law_is_fraction (hr.mono (by decide)) (takes_of rfl rfl rfl rfl) (fa_cons (fe_ix (xd_ix rfl) (fv 5) (fv 6) (fun _ _ => rfl)) fa_nil)))) (fw_or1 (ft_not (ft_val (fe_callO C__law_same_worth (hr.mono (by decide)) (takes_of rfl rfl rfl rfl) (fa_cons (fe_ix (xd_ix rfl) (fv 5) (fv 6) (fun _ _ => rfl)) (fa_cons (fe_ix (xd_ix rfl) (fv 3) (fv 6) (fun _ _ => rfl)) fa_nil)))))))) (fss_one (fs_ret fe_bl)) fss_nil)
    (fss_one (fs_if (ft_not (ft_val (fe_callO C__law_at_most (hr.mono (by decide)) (takes_of rfl rfl rfl rfl) (fa_cons (fe_ix (xd_ix rfl) (fv 5) (fv 6) (fun _ _ => rfl)) (fa_cons (fe_tup (fa_cons fe_int (fa_cons fe_int fa_nil))) fa_nil))))) (fss_one (fs_ret fe_bl)) fss_nil))))
    (fss_cons (fs_set 7 sc__law_tells.nd (fe_ix (xd_ix rfl) (fv 5) (fe_op (od_sub) (fe_cb (cd_len rfl) T.n_len bt_len (fa_cons (fv 5) fa_nil)) fe_int) (fun _ _ => rfl)))
    (fss_cons (fs_set 8 sc__law_tells.nd (fe_callO C_closes_at (hr.mono (by decide)) (takes_of rfl rfl rfl rfl) (fa_cons (fv 0) fa_nil)))
    (fss_cons (fs_set 9 sc__law_tells.nd (fe_callO C_rest_of (hr.mono (by decide)) (takes_of rfl rfl rfl rfl) (fa_cons (fe_ct (cd_tuple rfl) T.n_tuple bt_tuple (fa_cons (fv 0) fa_nil)) fa_nil)))
    (fss_cons (fs_if (ft_cmp (od_le) (fe_ix (xd_ix rfl) (fv 7) fe_int (fun _ _ => rfl)) fe_int (nomark _)) (fss_one (fs_if (FW.ft (fw_or (ft_not (ft_val (fe_callO C__law_int (hr.mono (by decide)) (takes_of rfl rfl rfl rfl) (fa_cons (fv 8) fa_nil)))) (fw_or (ft_cmp (od_ne rfl (hu64 hr)) (fv 8) (fe_op (od_sub) (fe_cb (cd_len rfl) T.n_len bt_len (fa_cons (fv 3) fa_nil)) fe_int) (nomark _)) (fw_or1 (ft_cmp (od_notN) (fv 9) fe_non (nomark _)))))) (fss_one (fs_ret fe_bl)) fss_nil)) (fss_cons (fs_if (FW.ft (fw_or (ft_cmp (od_notN) (fv 8) fe_non (nomark _)) (fw_or1 (ft_cmp (od_ne rfl (hu64 hr)) (fe_cb (cd_len rfl) T.n_len bt_len (fa_cons (fv 3) fa_nil)) (fe_op (od_add rfl) (fe_cb (cd_len rfl) T.n_len bt_len (fa_cons (fv 1) fa_nil)) fe_int) (nomark _))))) (fss_one (fs_ret fe_bl)) fss_nil)
    (fss_one (fs_if (FW.ft (fw_or (ft_not (ft_val (fe_callO C__law_is_fraction (hr.mono (by decide)) (takes_of rfl rfl rfl rfl) (fa_cons (fv 9) fa_nil)))) (fw_or1 (ft_not (ft_val (fe_callO C__law_same_worth (hr.mono (by decide)) (takes_of rfl rfl rfl rfl) (fa_cons (fv 9) (fa_cons (fv 7) fa_nil)))))))) (fss_one (fs_ret fe_bl)) fss_nil))))
    (fss_one (fs_ret (fe_and (fe_cmp (od_eq rfl (hu64 hr)) (fv 4) (FN.frz (fn_lc (own := [("_law_loss_here", 2)]) sc__law_tells.nd (fi_seq rfl (fv 0)) (blkOk_by (by kernel_rfl)) (fun s H C cl fp => (fg_name (vs := [2]) 2 sc__law_tells.nd)) (fun s H C cl fp => fts_nil) (fun s H C cl fp => (fe_cb (cd_repr rfl gu (hu66 hr)) T.n_repr bt_repr (fa_cons (fv 2) fa_nil))))) (nomark _)) (fe_one (fe_cmp (od_eq rfl (hu64 hr)) (fe_callO C_rests (hr.mono (by decide)) (takes_of rfl rfl rfl rfl) (fa_cons (fe_ct (cd_tuple rfl) T.n_tuple bt_tuple (fa_cons (fv 0) fa_nil)) fa_nil)) (fv 5) (nomark _))))))))))))))))
  · match ds, len _ _ _ _ h with
    | [d0], _ => exact hb d0 M Q E h
def g__law_closed_by (K : PySem.W.Frag) : DS :=
  (sSeq (sSet 2 (gCall (sp_closes_at K) (aCons (gVar 0) aNil)))
    (sRet (gAndV (gCall (sp__law_int K) (aCons (gVar 2) aNil)) (gOp dLe (gVar 2) (gVar 1)))))
theorem sc__law_closed_by : FnScope ["_law_losses_here", "_law_place", "_law_told"] ["_law_losses_here", "_law_place"] (defScope s__law_closed_by) := ⟨rfl, rfl, rfl, by decide +kernel, rfl, by decide +kernel, by decide +kernel⟩
theorem w__law_closed_by (T : Tx K mg) (C_closes_at : OkD P w K mg base 7 "closes_at" ["losses"] (sp_closes_at K)) (C__law_int : OkD P w K mg base 1 "_law_int" ["_law_value"] (sp__law_int K)) (len : ∀ ds M Q E, sp__law_closed_by K ds M Q E → ds.length = 2)
    (hb : ∀ d0 d1 M Q E, sp__law_closed_by K [d0, d1] M Q E → g__law_closed_by K { nx := fun _ M => Q .non M, rt := Q, ex := fun x _ M => E x M } [some d0, some d1, none] M) : OkD P w K mg base 8 "_law_closed_by" ["_law_losses_here", "_law_place"] (sp__law_closed_by K) := by
  obtain ⟨fd, F⟩ := T.F__law_closed_by
  refine ⟨fd, dl_def F sc__law_closed_by (by intro ds M Q E h; exact len ds M Q E h) (g__law_closed_by K) (by decide) (fun cdv A outer s H E hr => ?_) (fun ds M Q E h => ?_), F.binds fun _ _ _ _ _ _ us hl => match us, hl with | [_, _], _ => rfl, F.kp, T.g__law_closed_by, fun_lk F⟩
  · exact
   (fss_cons (fs_set 2 sc__law_closed_by.nd (fe_callO C_closes_at (hr.mono (by decide)) (takes_of rfl rfl rfl rfl) (fa_cons (fv 0) fa_nil)))
    (fss_one (fs_ret (fe_and (fe_callO C__law_int (hr.mono (by decide)) (takes_of rfl rfl rfl rfl) (fa_cons (fv 2) fa_nil)) (fe_one (fe_cmp (od_le) (fv 2) (fv 1) (nomark _)))))))
  · match ds, len _ _ _ _ h with
    | [d0, d1], _ => exact hb d0 d1 M Q E h
def g__law_raised (K : PySem.W.Frag) : DS :=
  (sSeq (sSet 3 (gCall (sp__law_pair K) (aCons (gOp dIx (gVar 0) (gVar 1)) aNil)))
    (sSeq (sSet 4 (gOp dIx (gFrz (nLst (aCons (gTup (aCons (gOp dAdd (gOp dIx (gVar 3) (gC (.int 0))) (gOp dIx (gVar 3) (gC (.int 1)))) (aCons (gOp dMul (gC (.int 2)) (gOp dIx (gVar 3) (gC (.int 1)))) aNil))) (aCons (gTup (aCons (gC (.int 1)) (aCons (gC (.int 1)) aNil))) (aCons (gVar 3) aNil))))) (gVar 2)))
    (sSeq (sIf (gTest (gOp dGt (gOp dIx (gVar 3) (gC (.int 1))) (gC (.int 1000)))) (sSet 4 (gTup (aCons (gC (.int 1)) (aCons (gC (.int 1)) aNil)))) sNext)
    (sSeq (sSet 5 (gOp dAdd (gOp dAdd (gSl (gVar 0) oNone (oSome (gVar 1))) (gFrz (nLst (aCons (gVar 4) aNil)))) (gSl (gVar 0) (oSome (gOp dAdd (gVar 1) (gC (.int 1)))) oNone)))
    (sSeq (sSet 6 (gCall (sp_rests K) (aCons (gVar 0) aNil)))
    (sSeq (sSet 7 (gCall (sp_rests K) (aCons (gVar 5) aNil)))
    (sSeq (sFor (iRange1 (aCons (gCB dMin (aCons (gCB dLen (aCons (gVar 6) aNil)) (aCons (gCB dLen (aCons (gVar 7) aNil)) aNil))) aNil)) (dName 8) (sIf (gNot (gTest (gCall (sp__law_at_most K) (aCons (gOp dIx (gVar 7) (gVar 8)) (aCons (gOp dIx (gVar 6) (gVar 8)) aNil))))) (sRet (gC (.bl false))) sNext))
    (sSeq (sSet 9 (gCall (sp_closes_at K) (aCons (gVar 0) aNil)))
    (sSeq (sIf (gAnd (gTest (gOp (dIsN fun b => !b) (gVar 9) (gC .non))) (gNot (gTest (gCall (sp__law_closed_by K) (aCons (gVar 5) (aCons (gVar 9) aNil)))))) (sRet (gC (.bl false))) sNext)
    (sRet (gOp dLe (gCB dLen (aCons (gVar 7) aNil)) (gCB dLen (aCons (gVar 6) aNil)))))))))))))
theorem sc__law_raised : FnScope ["_law_losses_here", "_law_place", "_law_word", "_law_pair_here", "_law_more", "_law_higher", "_law_one", "_law_other", "_law_at", "_law_told"] ["_law_losses_here", "_law_place", "_law_word"] (defScope s__law_raised) := ⟨rfl, rfl, rfl, by decide +kernel, rfl, by decide +kernel, by decide +kernel⟩
theorem w__law_raised (T : Tx K mg) (C__law_pair : OkD P w K mg base 2 "_law_pair" ["_law_loss_here"] (sp__law_pair K)) (C_rests : OkD P w K mg base 6 "rests" ["losses"] (sp_rests K)) (C_closes_at : OkD P w K mg base 7 "closes_at" ["losses"] (sp_closes_at K)) (C__law_at_most : OkD P w K mg base 1 "_law_at_most" ["_law_one", "_law_other"] (sp__law_at_most K)) (C__law_closed_by : OkD P w K mg base 8 "_law_closed_by" ["_law_losses_here", "_law_place"] (sp__law_closed_by K)) (len : ∀ ds M Q E, sp__law_raised K ds M Q E → ds.length = 3)
    (hb : ∀ d0 d1 d2 M Q E, sp__law_raised K [d0, d1, d2] M Q E → g__law_raised K { nx := fun _ M => Q .non M, rt := Q, ex := fun x _ M => E x M } [some d0, some d1, some d2, none, none, none, none, none, none, none] M) : OkD P w K mg base 9 "_law_raised" ["_law_losses_here", "_law_place", "_law_word"] (sp__law_raised K) := by
  obtain ⟨fd, F⟩ := T.F__law_raised
  refine ⟨fd, dl_def F sc__law_raised (by intro ds M Q E h; exact len ds M Q E h) (g__law_raised K) (by decide) (fun cdv A outer s H E hr => ?_) (fun ds M Q E h => ?_), F.binds fun _ _ _ _ _ _ us hl => match us, hl with | [_, _, _], _ => rfl, F.kp, T.g__law_raised, fun_lk F⟩
  · exact
   (fss_cons (fs_set 3 sc__law_raised.nd (fe_callO C__law_pair (hr.mono (by decide)) (takes_of rfl rfl rfl rfl) (fa_cons (fe_ix (xd_ix rfl) (fv 0) (fv 1) (fun _ _ => rfl)) fa_nil)))
    (fss_cons (fs_set 4 sc__law_raised.nd (fe_ix (xd_ix rfl) (FN.frz (fn_lst (fa_cons (fe_tup (fa_cons (fe_op (od_add rfl) (fe_ix (xd_ix rfl) (fv 3) fe_int (fun _ _ => rfl)) (fe_ix (xd_ix rfl) (fv 3) fe_int (fun _ _ => rfl))) (fa_cons (fe_op (od_mul) fe_int (fe_ix (xd_ix rfl) (fv 3) fe_int (fun _ _ => rfl))) fa_nil))) (fa_cons (fe_tup (fa_cons fe_int (fa_cons fe_int fa_nil))) (fa_cons (fv 3) fa_nil))))) (fv 2) (fun _ _ => rfl)))
    (fss_cons (fs_if (ft_cmp (od_gt) (fe_ix (xd_ix rfl) (fv 3) fe_int (fun _ _ => rfl)) fe_int (nomark _)) (fss_one (fs_set 4 sc__law_raised.nd (fe_tup (fa_cons fe_int (fa_cons fe_int fa_nil))))) fss_nil)
    (fss_cons (fs_set 5 sc__law_raised.nd (fe_op (od_add rfl) (fe_op (od_add rfl) (fe_slice rfl (fv 0) fo_none (fo_some (fv 1))) (FN.frz (fn_lst (fa_cons (fv 4) fa_nil)))) (fe_slice rfl (fv 0) (fo_some (fe_op (od_add rfl) (fv 1) fe_int)) fo_none)))
    (fss_cons (fs_set 6 sc__law_raised.nd (fe_callO C_rests (hr.mono (by decide)) (takes_of rfl rfl rfl rfl) (fa_cons (fv 0) fa_nil)))
    (fss_cons (fs_set 7 sc__law_raised.nd (fe_callO C_rests (hr.mono (by decide)) (takes_of rfl rfl rfl rfl) (fa_cons (fv 5) fa_nil)))
    (fss_cons (fs_for (passes_of rfl) rfl (fi_range1 (by rfl) T.n_range (fa_cons (fe_cb (cd_min rfl rfl (hu64 hr)) T.n_min bt_min (fa_cons (fe_cb (cd_len rfl) T.n_len bt_len (fa_cons (fv 6) fa_nil)) (fa_cons (fe_cb (cd_len rfl) T.n_len bt_len (fa_cons (fv 7) fa_nil)) fa_nil))) fa_nil)) (fg_name (vs := [8]) 8 sc__law_raised.nd) (fss_one (fs_if (ft_not (ft_val (fe_callO C__law_at_most (hr.mono (by decide)) (takes_of rfl rfl rfl rfl) (fa_cons (fe_ix (xd_ix rfl) (fv 7) (fv 8) (fun _ _ => rfl)) (fa_cons (fe_ix (xd_ix rfl) (fv 6) (fv 8) (fun _ _ => rfl)) fa_nil))))) (fss_one (fs_ret fe_bl)) fss_nil)))
    (fss_cons (fs_set 9 sc__law_raised.nd (fe_callO C_closes_at (hr.mono (by decide)) (takes_of rfl rfl rfl rfl) (fa_cons (fv 0) fa_nil)))
    (fss_cons (fs_if (FW.ft (fw_and (ft_cmp (od_notN) (fv 9) fe_non (nomark _)) (fw_and1 (ft_not (ft_val (fe_callO C__law_closed_by (hr.mono (by decide)) (takes_of rfl rfl rfl rfl) (fa_cons (fv 5) (fa_cons (fv 9) fa_nil)))))))) (fss_one (fs_ret fe_bl)) fss_nil)
    (fss_one (fs_ret (fe_cmp (od_le) (fe_cb (cd_len rfl) T.n_len bt_len (fa_cons (fv 7) fa_nil)) (fe_cb (cd_len rfl) T.n_len bt_len (fa_cons (fv 6) fa_nil)) (nomark _)))))))))))))
  · match ds, len _ _ _ _ h with
    | [d0, d1, d2], _ => exact hb d0 d1 d2 M Q E h
def g__law_longer (K : PySem.W.Frag) : DS :=
  (sSeq (sSet 2 (gCall (sp_closes_at K) (aCons (gVar 0) aNil)))
    (sSeq (sIf (gTest (gOp (dIsN fun b => b) (gVar 2) (gC .non))) (sRet (gC (.bl true))) sNext)
    (sSeq (sIf (gTest (gOp dNe (gCall (sp_closes_at K) (aCons (gOp dAdd (gVar 0) (gFrz (nLst (aCons (gVar 1) aNil)))) aNil)) (gVar 2))) (sRet (gC (.bl false))) sNext)
    (sRet (gCall (sp__law_closed_by K) (aCons (gOp dAdd (gFrz (nLst (aCons (gVar 1) aNil))) (gVar 0)) (aCons (gOp dAdd (gVar 2) (gC (.int 1))) aNil)))))))
theorem sc__law_longer : FnScope ["_law_losses_here", "_law_extra", "_law_told"] ["_law_losses_here", "_law_extra"] (defScope s__law_longer) := ⟨rfl, rfl, rfl, by decide +kernel, rfl, by decide +kernel, by decide +kernel⟩
theorem w__law_longer (T : Tx K mg) (C_closes_at : OkD P w K mg base 7 "closes_at" ["losses"] (sp_closes_at K)) (C__law_closed_by : OkD P w K mg base 8 "_law_closed_by" ["_law_losses_here", "_law_place"] (sp__law_closed_by K)) (len : ∀ ds M Q E, sp__law_longer K ds M Q E → ds.length = 2)
    (hb : ∀ d0 d1 M Q E, sp__law_longer K [d0, d1] M Q E → g__law_longer K { nx := fun _ M => Q .non M, rt := Q, ex := fun x _ M => E x M } [some d0, some d1, none] M) : OkD P w K mg base 9 "_law_longer" ["_law_losses_here", "_law_extra"] (sp__law_longer K) := by
  obtain ⟨fd, F⟩ := T.F__law_longer
  refine ⟨fd, dl_def F sc__law_longer (by intro ds M Q E h; exact len ds M Q E h) (g__law_longer K) (by decide) (fun cdv A outer s H E hr => ?_) (fun ds M Q E h => ?_), F.binds fun _ _ _ _ _ _ us hl => match us, hl with | [_, _], _ => rfl, F.kp, T.g__law_longer, fun_lk F⟩
  · exact
   (fss_cons (fs_set 2 sc__law_longer.nd (fe_callO C_closes_at (hr.mono (by decide)) (takes_of rfl rfl rfl rfl) (fa_cons (fv 0) fa_nil)))
    (fss_cons (fs_if (ft_cmp (od_isN) (fv 2) fe_non (nomark _)) (fss_one (fs_ret fe_bl)) fss_nil)
    (fss_cons (fs_if (ft_cmp (od_ne rfl (hu64 hr)) (fe_callO C_closes_at (hr.mono (by decide)) (takes_of rfl rfl rfl rfl) (fa_cons (fe_op (od_add rfl) (fv 0) (FN.frz (fn_lst (fa_cons (fv 1) fa_nil)))) fa_nil)) (fv 2) (nomark _)) (fss_one (fs_ret fe_bl)) fss_nil)
    (fss_one (fs_ret (fe_callO C__law_closed_by (hr.mono (by decide)) (takes_of rfl rfl rfl rfl) (fa_cons (fe_op (od_add rfl) (FN.frz (fn_lst (fa_cons (fv 1) fa_nil))) (fv 0)) (fa_cons (fe_op (od_add rfl) (fv 2) fe_int) fa_nil))))))))
  · match ds, len _ _ _ _ h with
    | [d0, d1], _ => exact hb d0 d1 M Q E h
def g__law_forced (K : PySem.W.Frag) : DS :=
  (sSeq (sSet 1 (gFrz (nLc (iSeqD (gVar 0)) (dName 2) gYes (gCall (sp__law_pair K) (aCons (gVar 2) aNil)) [2])))
    (sSeq (sSet 3 (gC (.bl true)))
    (sSeq (sFor (iRange1 (aCons (gCB dLen (aCons (gVar 1) aNil)) aNil)) (dName 4) (sSeq (sIf (gAnd (gTest (gOp dEq (gOp dIx (gOp dIx (gVar 1) (gVar 4)) (gC (.int 0))) (gOp dIx (gOp dIx (gVar 1) (gVar 4)) (gC (.int 1))))) (gNot (gTest (gCall (sp__law_closed_by K) (aCons (gVar 0) (aCons (gOp dAdd (gVar 4) (gC (.int 1))) aNil)))))) (sRet (gC (.bl false))) sNext)
    (sSeq (sIf (gTest (gOp dGt (gOp dMul (gC (.int 4)) (gOp dIx (gOp dIx (gVar 1) (gVar 4)) (gC (.int 0)))) (gOp dIx (gOp dIx (gVar 1) (gVar 4)) (gC (.int 1))))) (sSet 3 (gC (.bl false))) sNext)
    (sIf (gTest (gOp dGt (gVar 4) (gC (.int 0)))) (sSeq (sSet 5 (gOp dIx (gVar 1) (gOp dSub (gVar 4) (gC (.int 1)))))
    (sSeq (sSet 6 (gOp dAdd (gOp dMul (gOp dIx (gVar 5) (gC (.int 0))) (gOp dIx (gOp dIx (gVar 1) (gVar 4)) (gC (.int 1)))) (gOp dMul (gOp dIx (gOp dIx (gVar 1) (gVar 4)) (gC (.int 0))) (gOp dIx (gVar 5) (gC (.int 1))))))
    (sIf (gAnd (gTest (gOp dGe (gVar 6) (gOp dMul (gOp dIx (gVar 5) (gC (.int 1))) (gOp dIx (gOp dIx (gVar 1) (gVar 4)) (gC (.int 1)))))) (gNot (gTest (gCall (sp__law_closed_by K) (aCons (gVar 0) (aCons (gOp dAdd (gVar 4) (gC (.int 1))) aNil)))))) (sRet (gC (.bl false))) sNext))) sNext))))
    (sSeq (sIf (gTest (gVar 3)) (sSeq (sFor (iSeqD (gCall (sp_rests K) (aCons (gVar 0) aNil))) (dName 7) (sIf (gNot (gTest (gCall (sp__law_at_most K) (aCons (gTup (aCons (gC (.int 1)) (aCons (gC (.int 2)) aNil))) (aCons (gVar 7) aNil))))) (sRet (gC (.bl false))) sNext))
    (sRet (gOp (dIsN fun b => b) (gCall (sp_closes_at K) (aCons (gVar 0) aNil)) (gC .non)))) sNext)
    (sRet (gC (.bl true)))))))
theorem sc__law_forced : FnScope ["_law_losses_here", "_law_pairs", "_law_loss_here", "_law_small", "_law_at", "_law_before", "_law_both", "_law_told"] ["_law_losses_here"] (defScope s__law_forced) := ⟨rfl, rfl, rfl, by decide +kernel, rfl, by decide +kernel, by decide +kernel⟩
theorem w__law_forced (T : Tx K mg) (C__law_pair : OkD P w K mg base 2 "_law_pair" ["_law_loss_here"] (sp__law_pair K)) (C_rests : OkD P w K mg base 6 "rests" ["losses"] (sp_rests K)) (C_closes_at : OkD P w K mg base 7 "closes_at" ["losses"] (sp_closes_at K)) (C__law_closed_by : OkD P w K mg base 8 "_law_closed_by" ["_law_losses_here", "_law_place"] (sp__law_closed_by K)) (C__law_at_most : OkD P w K mg base 1 "_law_at_most" ["_law_one", "_law_other"] (sp__law_at_most K)) (len : ∀ ds M Q E, sp__law_forced K ds M Q E → ds.length = 1)
    (hb : ∀ d0 M Q E, sp__law_forced K [d0] M Q E → g__law_forced K { nx := fun _ M => Q .non M, rt := Q, ex := fun x _ M => E x M } [some d0, none, none, none, none, none, none, none] M) : OkD P w K mg base 9 "_law_forced" ["_law_losses_here"] (sp__law_forced K) := by
  obtain ⟨fd, F⟩ := T.F__law_forced
  refine ⟨fd, dl_def F sc__law_forced (by intro ds M Q E h; exact len ds M Q E h) (g__law_forced K) (by decide) (fun cdv A outer s H E hr => ?_) (fun ds M Q E h => ?_), F.binds fun _ _ _ _ _ _ us hl => match us, hl with | [_], _ => rfl, F.kp, T.g__law_forced, fun_lk F⟩
  · exact
   (fss_cons (fs_setLc (own := [("_law_loss_here", 2)]) 1 sc__law_forced.nd (fi_seq rfl (fv 0)) (blkOk_by (by kernel_rfl)) (fun s H C cl fp => (fg_name (vs := [2]) 2 sc__law_forced.nd)) (fun s H C cl fp => fts_nil) (fun s H C cl fp => (fe_callO C__law_pair (hr.mono (by decide)) takes0 (fa_cons (fv 2) fa_nil))) frz_im)
    (fss_cons (fs_set 3 sc__law_forced.nd fe_bl)
    (fss_cons (fs_for (passes_of rfl) rfl (fi_range1 (by rfl) T.n_range (fa_cons (fe_cb (cd_len rfl) T.n_len bt_len (fa_cons (fv 1) fa_nil)) fa_nil)) (fg_name (vs := [4]) 4 sc__law_forced.nd) (fss_cons (fs_if (FW.ft (fw_and (ft_cmp (od_eq rfl (hu64 hr)) (fe_ix (xd_ix rfl) (fe_ix (xd_ix rfl) (fv 1) (fv 4) (fun _ _ => rfl)) fe_int (fun _ _ => rfl)) (fe_ix (xd_ix rfl) (fe_ix (xd_ix rfl) (fv 1) (fv 4) (fun _ _ => rfl)) fe_int (fun _ _ => rfl)) (nomark _)) (fw_and1 (ft_not (ft_val (fe_callO C__law_closed_by (hr.mono (by decide)) (takes_of rfl rfl rfl rfl) (fa_cons (fv 0) (fa_cons (fe_op (od_add rfl) (fv 4) fe_int) fa_nil)))))))) (fss_one (fs_ret fe_bl)) fss_nil)
    (fss_cons (fs_if (ft_cmp (od_gt) (fe_op (od_mul) fe_int (fe_ix (xd_ix rfl) (fe_ix (xd_ix rfl) (fv 1) (fv 4) (fun _ _ => rfl)) fe_int (fun _ _ => rfl))) (fe_ix (xd_ix rfl) (fe_ix (xd_ix rfl) (fv 1) (fv 4) (fun _ _ => rfl)) fe_int (fun _ _ => rfl)) (nomark _)) (fss_one (fs_set 3 sc__law_forced.nd fe_bl)) fss_nil)
    (fss_one (fs_if (ft_cmp (od_gt) (fv 4) fe_int (nomark _)) (fss_cons (fs_set 5 sc__law_forced.nd (fe_ix (xd_ix rfl) (fv 1) (fe_op (od_sub) (fv 4) fe_int) (fun _ _ => rfl)))
    (fss_cons (fs_set 6 sc__law_forced.nd (fe_op (od_add rfl) (fe_op (od_mul) (fe_ix (xd_ix rfl) (fv 5) fe_int (fun _ _ => rfl)) (fe_ix (xd_ix rfl) (fe_ix (xd_ix rfl) (fv 1) (fv 4) (fun _ _ => rfl)) fe_int (fun _ _ => rfl))) (fe_op (od_mul) (fe_ix (xd_ix rfl) (fe_ix (xd_ix rfl) (fv 1) (fv 4) (fun _ _ => rfl)) fe_int (fun _ _ => rfl)) (fe_ix (xd_ix rfl) (fv 5) fe_int (fun _ _ => rfl)))))
    (fss_one (fs_if (FW.ft (fw_and (ft_cmp (od_ge) (fv 6) (fe_op (od_mul) (fe_ix (xd_ix rfl) (fv 5) fe_int (fun _ _ => rfl)) (fe_ix (xd_ix rfl) (fe_ix (xd_ix rfl) (fv 1) (fv 4) (fun _ _ => rfl)) fe_int (fun _ _ => rfl))) (nomark _)) (fw_and1 (ft_not (ft_val (fe_callO C__law_closed_by (hr.mono (by decide)) (takes_of rfl rfl rfl rfl) (fa_cons (fv 0) (fa_cons (fe_op (od_add rfl) (fv 4) fe_int) fa_nil)))))))) (fss_one (fs_ret fe_bl)) fss_nil)))) fss_nil)))))
    (fss_cons (fs_if (ft_val (fv 3)) (fss_cons (fs_for (passes_of rfl) rfl (fi_seq rfl (fe_callO C_rests (hr.mono (by decide)) (takes_of rfl rfl rfl rfl) (fa_cons (fv 0) fa_nil))) (fg_name (vs := [7]) 7 sc__law_forced.nd) (fss_one (fs_if (ft_not (ft_val (fe_callO C__law_at_most (hr.mono (by decide)) (takes_of rfl rfl rfl rfl) (fa_cons (fe_tup (fa_cons fe_int (fa_cons fe_int fa_nil))) (fa_cons (fv 7) fa_nil))))) (fss_one (fs_ret fe_bl)) fss_nil)))
    (fss_one (fs_ret (fe_cmp (od_isN) (fe_callO C_closes_at (hr.mono (by decide)) (takes_of rfl rfl rfl rfl) (fa_cons (fv 0) fa_nil)) fe_non (nomark _))))) fss_nil)
    (fss_one (fs_ret fe_bl))))))
  · match ds, len _ _ _ _ h with
    | [d0], _ => exact hb d0 M Q E h
def g__law_quarters (K : PySem.W.Frag) : DS :=
  (sSeq (sSet 1 (gCall (sp_rests K) (aCons (gFrz (nLc (iRange1 (aCons (gVar 0) aNil)) (dName 2) gYes (gTup (aCons (gC (.int 1)) (aCons (gC (.int 4)) aNil))) [2])) aNil)))
    (sSeq (sIf (gOr (gNot (gTest (gCB dIsi (aCons (gVar 1) (aCons (gC (.ty "tuple")) aNil))))) (gTest (gOp dNe (gCB dLen (aCons (gVar 1) aNil)) (gOp dAdd (gVar 0) (gC (.int 1)))))) (sRet (gC (.bl false))) sNext)
    (sSeq (sFor (iRange1 (aCons (gOp dAdd (gVar 0) (gC (.int 1))) aNil)) (dName 2) (sIf (gNot (gTest (gCall (sp__law_same_worth K) (aCons (gOp dIx (gVar 1) (gVar 2)) (aCons (gTup (aCons (gOp dAdd (gVar 2) (gC (.int 2))) (aCons (gOp dAdd (gOp dMul (gC (.int 2)) (gVar 2)) (gC (.int 2))) aNil))) aNil))))) (sRet (gC (.bl false))) sNext))
    (sRet (gOp (dIsN fun b => b) (gCall (sp_closes_at K) (aCons (gFrz (nLc (iRange1 (aCons (gVar 0) aNil)) (dName 2) gYes (gFrz (nLst (aCons (gC (.int 1)) (aCons (gC (.int 4)) aNil)))) [2])) aNil)) (gC .non))))))
theorem sc__law_quarters : FnScope ["_law_many", "_law_made", "_law_at"] ["_law_many"] (defScope s__law_quarters) := ⟨rfl, rfl, rfl, by decide +kernel, rfl, by decide +kernel, by decide +kernel⟩
theorem w__law_quarters (T : Tx K mg) (C_rests : OkD P w K mg base 6 "rests" ["losses"] (sp_rests K)) (C_closes_at : OkD P w K mg base 7 "closes_at" ["losses"] (sp_closes_at K)) (C__law_same_worth : OkD P w K mg base 1 "_law_same_worth" ["_law_one", "_law_other"] (sp__law_same_worth K)) (len : ∀ ds M Q E, sp__law_quarters K ds M Q E → ds.length = 1)
    (hb : ∀ d0 M Q E, sp__law_quarters K [d0] M Q E → g__law_quarters K { nx := fun _ M => Q .non M, rt := Q, ex := fun x _ M => E x M } [some d0, none, none] M) : OkD P w K mg base 8 "_law_quarters" ["_law_many"] (sp__law_quarters K) := by
  obtain ⟨fd, F⟩ := T.F__law_quarters
  refine ⟨fd, dl_def F sc__law_quarters (by intro ds M Q E h; exact len ds M Q E h) (g__law_quarters K) (by decide) (fun cdv A outer s H E hr => ?_) (fun ds M Q E h => ?_), F.binds fun _ _ _ _ _ _ us hl => match us, hl with | [_], _ => rfl, F.kp, T.g__law_quarters, fun_lk F⟩
  · exact
   (fss_cons (fs_set 1 sc__law_quarters.nd (fe_callO C_rests (hr.mono (by decide)) (takes_of rfl rfl rfl rfl) (fa_cons (FN.frz (fn_lc (own := [("_law_at", 2)]) sc__law_quarters.nd (fi_range1 (by rfl) T.n_range (fa_cons (fv 0) fa_nil)) (blkOk_by (by kernel_rfl)) (fun s H C cl fp => (fg_name (vs := [2]) 2 sc__law_quarters.nd)) (fun s H C cl fp => fts_nil) (fun s H C cl fp => (fe_tup (fa_cons fe_int (fa_cons fe_int fa_nil)))))) fa_nil)))
    (fss_cons (fs_if (FW.ft (fw_or (ft_not (ft_val (fe_cb (cd_isi rfl) T.n_isinstance bt_isinstance (fa_cons (fv 1) (fa_cons (fe_ty rfl T.n_tuple bt_tuple) fa_nil))))) (fw_or1 (ft_cmp (od_ne rfl (hu64 hr)) (fe_cb (cd_len rfl) T.n_len bt_len (fa_cons (fv 1) fa_nil)) (fe_op (od_add rfl) (fv 0) fe_int) (nomark _))))) (fss_one (fs_ret fe_bl)) fss_nil)
    (fss_cons (fs_for (passes_of rfl) rfl (fi_range1 (by rfl) T.n_range (fa_cons (fe_op (od_add rfl) (fv 0) fe_int) fa_nil)) (fg_name (vs := [2]) 2 sc__law_quarters.nd) (fss_one (fs_if (ft_not (ft_val (fe_callO C__law_same_worth (hr.mono (by decide)) (takes_of rfl rfl rfl rfl) (fa_cons (fe_ix (xd_ix rfl) (fv 1) (fv 2) (fun _ _ => rfl)) (fa_cons (fe_tup (fa_cons (fe_op (od_add rfl) (fv 2) fe_int) (fa_cons (fe_op (od_add rfl) (fe_op (od_mul) fe_int (fv 2)) fe_int) fa_nil))) fa_nil))))) (fss_one (fs_ret fe_bl)) fss_nil)))
    (fss_one (fs_ret (fe_cmp (od_isN) (fe_callO C_closes_at (hr.mono (by decide)) (takes_of rfl rfl rfl rfl) (fa_cons (FN.frz (fn_lc (own := [("_law_at", 2)]) sc__law_quarters.nd (fi_range1 (by rfl) T.n_range (fa_cons (fv 0) fa_nil)) (blkOk_by (by kernel_rfl)) (fun s H C cl fp => (fg_name (vs := [2]) 2 sc__law_quarters.nd)) (fun s H C cl fp => fts_nil) (fun s H C cl fp => (FN.frz (fn_lst (fa_cons fe_int (fa_cons fe_int fa_nil))))))) fa_nil)) fe_non (nomark _)))))))
  · match ds, len _ _ _ _ h with
    | [d0], _ => exact hb d0 M Q E h
def g__law_back (K : PySem.W.Frag) : DS :=
  (sRet (gFrz (nLstRev (gFrz (nCB nListOf (aCons (gVar 0) aNil))))))
theorem sc__law_back : FnScope ["_law_row"] ["_law_row"] (defScope s__law_back) := ⟨rfl, rfl, rfl, by decide +kernel, rfl, by decide +kernel, by decide +kernel⟩
theorem w__law_back (T : Tx K mg)  (len : ∀ ds M Q E, sp__law_back K ds M Q E → ds.length = 1)
    (hb : ∀ d0 M Q E, sp__law_back K [d0] M Q E → g__law_back K { nx := fun _ M => Q .non M, rt := Q, ex := fun x _ M => E x M } [some d0] M) : OkD P w K mg base 1 "_law_back" ["_law_row"] (sp__law_back K) := by
  obtain ⟨fd, F⟩ := T.F__law_back
  refine ⟨fd, dl_def F sc__law_back (by intro ds M Q E h; exact len ds M Q E h) (g__law_back K) (by decide) (fun cdv A outer s H E hr => ?_) (fun ds M Q E h => ?_), F.binds fun _ _ _ _ _ _ us hl => match us, hl with | [_], _ => rfl, F.kp, T.g__law_back, fun_lk F⟩
  · exact
   (fss_one (fs_ret (FN.frz (fn_lstRev rfl T.n_list T.n_reversed (FN.frz (fn_ct (cn_list rfl) T.n_list bt_list (fa_cons (fv 0) fa_nil)))))))
  · match ds, len _ _ _ _ h with
    | [d0], _ => exact hb d0 M Q E h
def g__law_backwards (K : PySem.W.Frag) : DS :=
  (sSeq (sSet 1 (gFrz (nLc (iSeqD (gVar 0)) (dName 2) gYes (gCall (sp__law_pair K) (aCons (gVar 2) aNil)) [2])))
    (sSeq (sSet 3 (gCall (sp_closes_at K) (aCons (gVar 0) aNil)))
    (sSeq (sSet 4 (gCall (sp_closes_at K) (aCons (gCB dTupleOf (aCons (gCall (sp__law_back K) (aCons (gVar 0) aNil)) aNil)) aNil)))
    (sSeq (sIf (gOr (gTest (gOp dNe (gVar 3) (gCall (sp__law_closes K) (aCons (gVar 1) aNil)))) (gTest (gOp dNe (gVar 4) (gCall (sp__law_closes K) (aCons (gCall (sp__law_back K) (aCons (gVar 1) aNil)) aNil))))) (sRet (gC (.bl false))) sNext)
    (sRet (gOp dEq (gOp (dIsN fun b => b) (gVar 3) (gC .non)) (gOp (dIsN fun b => b) (gVar 4) (gC .non))))))))
theorem sc__law_backwards : FnScope ["_law_losses_here", "_law_pairs", "_law_loss_here", "_law_place", "_law_back_here"] ["_law_losses_here"] (defScope s__law_backwards) := ⟨rfl, rfl, rfl, by decide +kernel, rfl, by decide +kernel, by decide +kernel⟩
theorem w__law_backwards (T : Tx K mg) (C_closes_at : OkD P w K mg base 7 "closes_at" ["losses"] (sp_closes_at K)) (C__law_pair : OkD P w K mg base 2 "_law_pair" ["_law_loss_here"] (sp__law_pair K)) (C__law_back : OkD P w K mg base 1 "_law_back" ["_law_row"] (sp__law_back K)) (C__law_closes : OkD P w K mg base 1 "_law_closes" ["_law_losses_here"] (sp__law_closes K)) (len : ∀ ds M Q E, sp__law_backwards K ds M Q E → ds.length = 1)
    (hb : ∀ d0 M Q E, sp__law_backwards K [d0] M Q E → g__law_backwards K { nx := fun _ M => Q .non M, rt := Q, ex := fun x _ M => E x M } [some d0, none, none, none, none] M) : OkD P w K mg base 8 "_law_backwards" ["_law_losses_here"] (sp__law_backwards K) := by
  obtain ⟨fd, F⟩ := T.F__law_backwards
  refine ⟨fd, dl_def F sc__law_backwards (by intro ds M Q E h; exact len ds M Q E h) (g__law_backwards K) (by decide) (fun cdv A outer s H E hr => ?_) (fun ds M Q E h => ?_), F.binds fun _ _ _ _ _ _ us hl => match us, hl with | [_], _ => rfl, F.kp, T.g__law_backwards, fun_lk F⟩
  · exact
   (fss_cons (fs_setLc (own := [("_law_loss_here", 2)]) 1 sc__law_backwards.nd (fi_seq rfl (fv 0)) (blkOk_by (by kernel_rfl)) (fun s H C cl fp => (fg_name (vs := [2]) 2 sc__law_backwards.nd)) (fun s H C cl fp => fts_nil) (fun s H C cl fp => (fe_callO C__law_pair (hr.mono (by decide)) takes0 (fa_cons (fv 2) fa_nil))) frz_im)
    (fss_cons (fs_set 3 sc__law_backwards.nd (fe_callO C_closes_at (hr.mono (by decide)) (takes_of rfl rfl rfl rfl) (fa_cons (fv 0) fa_nil)))
    (fss_cons (fs_set 4 sc__law_backwards.nd (fe_callO C_closes_at (hr.mono (by decide)) (takes_of rfl rfl rfl rfl) (fa_cons (fe_ct (cd_tuple rfl) T.n_tuple bt_tuple (fa_cons (fe_callO C__law_back (hr.mono (by decide)) (takes_of rfl rfl rfl rfl) (fa_cons (fv 0) fa_nil)) fa_nil)) fa_nil)))
    (fss_cons (fs_if (FW.ft (fw_or (ft_cmp (od_ne rfl (hu64 hr)) (fv 3) (fe_callO C__law_closes (hr.mono (by decide)) (takes_of rfl rfl rfl rfl) (fa_cons (fv 1) fa_nil)) (nomark _)) (fw_or1 (ft_cmp (od_ne rfl (hu64 hr)) (fv 4) (fe_callO C__law_closes (hr.mono (by decide)) (takes_of rfl rfl rfl rfl) (fa_cons (fe_callO C__law_back (hr.mono (by decide)) (takes_of rfl rfl rfl rfl) (fa_cons (fv 1) fa_nil)) fa_nil)) (nomark _))))) (fss_one (fs_ret fe_bl)) fss_nil)
    (fss_one (fs_ret (fe_cmp (od_eq rfl (hu64 hr)) (fe_cmp (od_isN) (fv 3) fe_non (nomark _)) (fe_cmp (od_isN) (fv 4) fe_non (nomark _)) (nomark _))))))))
  · match ds, len _ _ _ _ h with
    | [d0], _ => exact hb d0 M Q E h
def g__law_cut (K : PySem.W.Frag) : DS :=
  (sSeq (sSet 2 (gCall (sp_rest_of K) (aCons (gSl (gVar 0) oNone (oSome (gVar 1))) aNil)))
    (sSeq (sSet 3 (gCall (sp_rest_of K) (aCons (gCall (sp__law_back K) (aCons (gSl (gVar 0) (oSome (gOp dAdd (gVar 1) (gC (.int 1)))) oNone) aNil)) aNil)))
    (sSeq (sSet 4 (gOp (dIsN fun b => !b) (gCall (sp_closes_at K) (aCons (gVar 0) aNil)) (gC .non)))
    (sSeq (sIf (gOr (gTest (gOp (dIsN fun b => b) (gVar 2) (gC .non))) (gTest (gOp (dIsN fun b => b) (gVar 3) (gC .non)))) (sRet (gVar 4)) sNext)
    (sSeq (sIf (gOr (gNot (gTest (gCall (sp__law_is_fraction K) (aCons (gVar 2) aNil)))) (gNot (gTest (gCall (sp__law_is_fraction K) (aCons (gVar 3) aNil))))) (sRet (gC (.bl false))) sNext)
    (sRet (gOp dEq (gVar 4) (gCall (sp__law_at_most K) (aCons (gTup (aCons (gOp dMul (gOp dIx (gVar 2) (gC (.int 0))) (gOp dIx (gVar 3) (gC (.int 0)))) (aCons (gOp dMul (gOp dIx (gVar 2) (gC (.int 1))) (gOp dIx (gVar 3) (gC (.int 1)))) aNil))) (aCons (gCall (sp__law_pair K) (aCons (gOp dIx (gVar 0) (gVar 1)) aNil)) aNil))))))))))
theorem sc__law_cut : FnScope ["_law_losses_here", "_law_at", "_law_left", "_law_right", "_law_closed"] ["_law_losses_here", "_law_at"] (defScope s__law_cut) := ⟨rfl, rfl, rfl, by decide +kernel, rfl, by decide +kernel, by decide +kernel⟩
theorem w__law_cut (T : Tx K mg) (C_rest_of : OkD P w K mg base 7 "rest_of" ["losses"] (sp_rest_of K)) (C__law_back : OkD P w K mg base 1 "_law_back" ["_law_row"] (sp__law_back K)) (C_closes_at : OkD P w K mg base 7 "closes_at" ["losses"] (sp_closes_at K)) (C__law_at_most : OkD P w K mg base 1 "_law_at_most" ["_law_one", "_law_other"] (sp__law_at_most K)) (C__law_is_fraction : OkD P w K mg base 2 "_law_is_fraction" ["_law_value"] (sp__law_is_fraction K)) (C__law_pair : OkD P w K mg base 2 "_law_pair" ["_law_loss_here"] (sp__law_pair K)) (len : ∀ ds M Q E, sp__law_cut K ds M Q E → ds.length = 2)
    (hb : ∀ d0 d1 M Q E, sp__law_cut K [d0, d1] M Q E → g__law_cut K { nx := fun _ M => Q .non M, rt := Q, ex := fun x _ M => E x M } [some d0, some d1, none, none, none] M) : OkD P w K mg base 8 "_law_cut" ["_law_losses_here", "_law_at"] (sp__law_cut K) := by
  obtain ⟨fd, F⟩ := T.F__law_cut
  refine ⟨fd, dl_def F sc__law_cut (by intro ds M Q E h; exact len ds M Q E h) (g__law_cut K) (by decide) (fun cdv A outer s H E hr => ?_) (fun ds M Q E h => ?_), F.binds fun _ _ _ _ _ _ us hl => match us, hl with | [_, _], _ => rfl, F.kp, T.g__law_cut, fun_lk F⟩
  · exact
   (fss_cons (fs_set 2 sc__law_cut.nd (fe_callO C_rest_of (hr.mono (by decide)) (takes_of rfl rfl rfl rfl) (fa_cons (fe_slice rfl (fv 0) fo_none (fo_some (fv 1))) fa_nil)))
    (fss_cons (fs_set 3 sc__law_cut.nd (fe_callO C_rest_of (hr.mono (by decide)) (takes_of rfl rfl rfl rfl) (fa_cons (fe_callO C__law_back (hr.mono (by decide)) (takes_of rfl rfl rfl rfl) (fa_cons (fe_slice rfl (fv 0) (fo_some (fe_op (od_add rfl) (fv 1) fe_int)) fo_none) fa_nil)) fa_nil)))
    (fss_cons (fs_set 4 sc__law_cut.nd (fe_cmp (od_notN) (fe_callO C_closes_at (hr.mono (by decide)) (takes_of rfl rfl rfl rfl) (fa_cons (fv 0) fa_nil)) fe_non (nomark _)))
    (fss_cons (fs_if (FW.ft (fw_or (ft_cmp (od_isN) (fv 2) fe_non (nomark _)) (fw_or1 (ft_cmp (od_isN) (fv 3) fe_non (nomark _))))) (fss_one (fs_ret (fv 4))) fss_nil)
    (fss_cons (fs_if (FW.ft (fw_or (ft_not (ft_val (fe_callO C__law_is_fraction (hr.mono (by decide)) (takes_of rfl rfl rfl rfl) (fa_cons (fv 2) fa_nil)))) (fw_or1 (ft_not (ft_val (fe_callO C__law_is_fraction (hr.mono (by decide)) (takes_of rfl rfl rfl rfl) (fa_cons (fv 3) fa_nil))))))) (fss_one (fs_ret fe_bl)) fss_nil)
    (fss_one (fs_ret (fe_cmp (od_eq rfl (hu64 hr)) (fv 4) (fe_callO C__law_at_most (hr.mono (by decide)) (takes_of rfl rfl rfl rfl) (fa_cons (fe_tup (fa_cons (fe_op (od_mul) (fe_ix (xd_ix rfl) (fv 2) fe_int (fun _ _ => rfl)) (fe_ix (xd_ix rfl) (fv 3) fe_int (fun _ _ => rfl))) (fa_cons (fe_op (od_mul) (fe_ix (xd_ix rfl) (fv 2) fe_int (fun _ _ => rfl)) (fe_ix (xd_ix rfl) (fv 3) fe_int (fun _ _ => rfl))) fa_nil))) (fa_cons (fe_callO C__law_pair (hr.mono (by decide)) (takes_of rfl rfl rfl rfl) (fa_cons (fe_ix (xd_ix rfl) (fv 0) (fv 1) (fun _ _ => rfl)) fa_nil)) fa_nil))) (nomark _)))))))))
  · match ds, len _ _ _ _ h with
    | [d0, d1], _ => exact hb d0 d1 M Q E h
def g__law_edge (K : PySem.W.Frag) : DS :=
  (sSeq (sSet 1 (gFrz (nLc (iRange1 (aCons (gCall (sp__law_take K) (aCons (gVar 0) (aCons (gC (.int 3)) aNil))) aNil)) (dName 2) gYes (gCall (sp__law_chance K) (aCons (gVar 0) aNil)) [2])))
    (sSeq (sSet 3 (gFrz (nLc (iRange1 (aCons (gOp dIx (gFrz (nLst (aCons (gC (.int 1)) (aCons (gC (.int 2)) (aCons (gC (.int 0)) aNil))))) (gCall (sp__law_take K) (aCons (gVar 0) (aCons (gC (.int 3)) aNil)))) aNil)) (dName 2) gYes (gCall (sp__law_chance K) (aCons (gVar 0) aNil)) [2])))
    (sSeq (sSet 4 (gOp dAdd (gC (.int 1)) (gCall (sp__law_take K) (aCons (gVar 0) (aCons (gC (.int 20)) aNil)))))
    (sSeq (sSet 5 (gOp dIx (gCall (sp__law_rests_due K) (aCons (gVar 1) aNil)) (gUn dNeg (gC (.int 1)))))
    (sSeq (sSet 6 (gOp dIx (gCall (sp__law_rests_due K) (aCons (gCall (sp__law_back K) (aCons (gVar 3) aNil)) aNil)) (gUn dNeg (gC (.int 1)))))
    (sSeq (sIf (gOr (gTest (gOp dLe (gOp dIx (gVar 5) (gC (.int 0))) (gC (.int 0)))) (gTest (gOp dLe (gOp dIx (gVar 6) (gC (.int 0))) (gC (.int 0))))) (sRet (gOp (dIsN fun b => !b) (gCall (sp_closes_at K) (aCons (gOp dAdd (gOp dAdd (gVar 1) (gFrz (nLst (aCons (gTup (aCons (gC (.int 0)) (aCons (gC (.int 1)) aNil))) aNil)))) (gVar 3)) aNil)) (gC .non))) sNext)
    (sSeq (sSet 7 (gCall (sp__law_divisor K) (aCons (gOp dMul (gOp dIx (gVar 5) (gC (.int 0))) (gOp dIx (gVar 6) (gC (.int 0)))) (aCons (gOp dMul (gOp dIx (gVar 5) (gC (.int 1))) (gOp dIx (gVar 6) (gC (.int 1)))) aNil))))
    (sSeq (sSet 8 (gTup (aCons (gOp dFdiv (gOp dMul (gOp dIx (gVar 5) (gC (.int 0))) (gOp dIx (gVar 6) (gC (.int 0)))) (gVar 7)) (aCons (gOp dFdiv (gOp dMul (gOp dIx (gVar 5) (gC (.int 1))) (gOp dIx (gVar 6) (gC (.int 1)))) (gVar 7)) aNil))))
    (sSeq (sSet 9 (gTup (aCons (gOp dMul (gOp dIx (gVar 8) (gC (.int 0))) (gVar 4)) (aCons (gOp dMul (gOp dIx (gVar 8) (gC (.int 1))) (gOp dAdd (gVar 4) (gC (.int 1)))) aNil))))
    (sSeq (sSet 10 (gTup (aCons (gOp dAdd (gOp dIx (gVar 8) (gC (.int 0))) (gOp dMul (gVar 4) (gOp dIx (gVar 8) (gC (.int 1))))) (aCons (gOp dMul (gOp dIx (gVar 8) (gC (.int 1))) (gOp dAdd (gVar 4) (gC (.int 1)))) aNil))))
    (sSeq (sFor (iSeqD (gFrz (nLst (aCons (gOp dAdd (gOp dAdd (gVar 1) (gFrz (nLst (aCons (gVar 8) aNil)))) (gVar 3)) (aCons (gCall (sp__law_back K) (aCons (gOp dAdd (gOp dAdd (gVar 1) (gFrz (nLst (aCons (gVar 8) aNil)))) (gVar 3)) aNil)) aNil))))) (dName 11) (sSeq (sSet 12 (gCall (sp_rests K) (aCons (gVar 11) aNil)))
    (sIf (gOr (gNot (gTest (gCB dIsi (aCons (gVar 12) (aCons (gC (.ty "tuple")) aNil))))) (gTest (gOp dNe (gOp dIx (gVar 12) (gOp dSub (gCB dLen (aCons (gVar 12) aNil)) (gC (.int 1)))) (gTup (aCons (gC (.int 0)) (aCons (gC (.int 1)) aNil)))))) (sRet (gC (.bl false))) sNext)))
    (sSeq (sFor (iSeqD (gFrz (nLst (aCons (gOp dAdd (gOp dAdd (gVar 1) (gFrz (nLst (aCons (gVar 9) aNil)))) (gVar 3)) (aCons (gCall (sp__law_back K) (aCons (gOp dAdd (gOp dAdd (gVar 1) (gFrz (nLst (aCons (gVar 9) aNil)))) (gVar 3)) aNil)) aNil))))) (dName 11) (sSeq (sSet 12 (gCall (sp_rest_of K) (aCons (gVar 11) aNil)))
    (sIf (gOr (gTest (gOp (dIsN fun b => !b) (gCall (sp_closes_at K) (aCons (gVar 11) aNil)) (gC .non))) (gOr (gNot (gTest (gCall (sp__law_is_fraction K) (aCons (gVar 12) aNil)))) (gTest (gOp dLe (gOp dIx (gVar 12) (gC (.int 0))) (gC (.int 0)))))) (sRet (gC (.bl false))) sNext)))
    (sSeq (sSet 13 (gCall (sp_rest_of K) (aCons (gOp dAdd (gVar 1) (gFrz (nLst (aCons (gVar 9) aNil)))) aNil)))
    (sSeq (sIf (gOr (gNot (gTest (gCall (sp__law_is_fraction K) (aCons (gVar 13) aNil)))) (gNot (gTest (gCall (sp__law_at_most K) (aCons (gTup (aCons (gC (.int 1)) (aCons (gOp dAdd (gVar 4) (gC (.int 1))) aNil))) (aCons (gVar 13) aNil)))))) (sRet (gC (.bl false))) sNext)
    (sRet (gOp (dIsN fun b => !b) (gCall (sp_closes_at K) (aCons (gOp dAdd (gOp dAdd (gVar 1) (gFrz (nLst (aCons (gVar 10) aNil)))) (gVar 3)) aNil)) (gC .non)))))))))))))))))
theorem sc__law_edge : FnScope ["_law_drawn", "_law_left", "_law_at", "_law_right", "_law_part", "_law_one", "_law_other", "_law_shared", "_law_edge_here", "_law_lower", "_law_higher", "_law_row", "_law_told", "_law_rest"] ["_law_drawn"] (defScope s__law_edge) := ⟨rfl, rfl, rfl, by decide +kernel, rfl, by decide +kernel, by decide +kernel⟩
theorem w__law_edge (T : Tx K mg) (C__law_divisor : OkD P w K mg base 1 "_law_divisor" ["_law_one", "_law_other"] (sp__law_divisor K)) (C_rest_of : OkD P w K mg base 7 "rest_of" ["losses"] (sp_rest_of K)) (C__law_chance : OkD P w K mg base 2 "_law_chance" ["_law_drawn"] (sp__law_chance K)) (C__law_take : OkD P w K mg base 1 "_law_take" ["_law_drawn", "_law_many"] (sp__law_take K)) (C__law_rests_due : OkD P w K mg base 1 "_law_rests_due" ["_law_pairs"] (sp__law_rests_due K)) (C__law_back : OkD P w K mg base 1 "_law_back" ["_law_row"] (sp__law_back K)) (C_rests : OkD P w K mg base 6 "rests" ["losses"] (sp_rests K)) (C_closes_at : OkD P w K mg base 7 "closes_at" ["losses"] (sp_closes_at K)) (C__law_is_fraction : OkD P w K mg base 2 "_law_is_fraction" ["_law_value"] (sp__law_is_fraction K)) (C__law_at_most : OkD P w K mg base 1 "_law_at_most" ["_law_one", "_law_other"] (sp__law_at_most K)) (len : ∀ ds M Q E, sp__law_edge K ds M Q E → ds.length = 1)
    (hb : ∀ d0 M Q E, sp__law_edge K [d0] M Q E → g__law_edge K { nx := fun _ M => Q .non M, rt := Q, ex := fun x _ M => E x M } [some d0, none, none, none, none, none, none, none, none, none, none, none, none, none] M) : OkD P w K mg base 8 "_law_edge" ["_law_drawn"] (sp__law_edge K) := by
  obtain ⟨fd, F⟩ := T.F__law_edge
  refine ⟨fd, dl_def F sc__law_edge (by intro ds M Q E h; exact len ds M Q E h) (g__law_edge K) (by decide) (fun cdv A outer s H E hr => ?_) (fun ds M Q E h => ?_), F.binds fun _ _ _ _ _ _ us hl => match us, hl with | [_], _ => rfl, F.kp, T.g__law_edge, fun_lk F⟩
  · exact
   (fss_cons (fs_setLc (own := [("_law_at", 2)]) 1 sc__law_edge.nd (fi_range1 (by rfl) T.n_range (fa_cons (fe_callO C__law_take (hr.mono (by decide)) (takes_of rfl rfl rfl rfl) (fa_cons (fv 0) (fa_cons fe_int fa_nil))) fa_nil)) (blkOk_by (by kernel_rfl)) (fun s H C cl fp => (fg_name (vs := [2]) 2 sc__law_edge.nd)) (fun s H C cl fp => fts_nil) (fun s H C cl fp => (fe_callO C__law_chance (hr.mono (by decide)) takes0 (fa_cons (fv 0) fa_nil))) frz_im)
    (fss_cons (fs_setLc (own := [("_law_at", 2)]) 3 sc__law_edge.nd (fi_range1 (by rfl) T.n_range (fa_cons (fe_ix (xd_ix rfl) (FN.frz (fn_lst (fa_cons fe_int (fa_cons fe_int (fa_cons fe_int fa_nil))))) (fe_callO C__law_take (hr.mono (by decide)) (takes_of rfl rfl rfl rfl) (fa_cons (fv 0) (fa_cons fe_int fa_nil))) (fun _ _ => rfl)) fa_nil)) (blkOk_by (by kernel_rfl)) (fun s H C cl fp => (fg_name (vs := [2]) 2 sc__law_edge.nd)) (fun s H C cl fp => fts_nil) (fun s H C cl fp => (fe_callO C__law_chance (hr.mono (by decide)) takes0 (fa_cons (fv 0) fa_nil))) frz_im)
    (fss_cons (fs_set 4 sc__law_edge.nd (fe_op (od_add rfl) fe_int (fe_callO C__law_take (hr.mono (by decide)) (takes_of rfl rfl rfl rfl) (fa_cons (fv 0) (fa_cons fe_int fa_nil)))))
    (fss_cons (fs_set 5 sc__law_edge.nd (fe_ix (xd_ix rfl) (fe_callO C__law_rests_due (hr.mono (by decide)) (takes_of rfl rfl rfl rfl) (fa_cons (fv 1) fa_nil)) (fe_un ud_neg fe_int) (fun _ _ => rfl)))
    (fss_cons (fs_set 6 sc__law_edge.nd (fe_ix (xd_ix rfl) (fe_callO C__law_rests_due (hr.mono (by decide)) (takes_of rfl rfl rfl rfl) (fa_cons (fe_callO C__law_back (hr.mono (by decide)) (takes_of rfl rfl rfl rfl) (fa_cons (fv 3) fa_nil)) fa_nil)) (fe_un ud_neg fe_int) (fun _ _ => rfl)))
    (fss_cons (fs_if (FW.ft (fw_or (ft_cmp (od_le) (fe_ix (xd_ix rfl) (fv 5) fe_int (fun _ _ => rfl)) fe_int (nomark _)) (fw_or1 (ft_cmp (od_le) (fe_ix (xd_ix rfl) (fv 6) fe_int (fun _ _ => rfl)) fe_int (nomark _))))) (fss_one (fs_ret (fe_cmp (od_notN) (fe_callO C_closes_at (hr.mono (by decide)) (takes_of rfl rfl rfl rfl) (fa_cons (fe_op (od_add rfl) (fe_op (od_add rfl) (fv 1) (FN.frz (fn_lst (fa_cons (fe_tup (fa_cons fe_int (fa_cons fe_int fa_nil))) fa_nil)))) (fv 3)) fa_nil)) fe_non (nomark _)))) fss_nil)
    (fss_cons (fs_set 7 sc__law_edge.nd (fe_callO C__law_divisor (hr.mono (by decide)) (takes_of rfl rfl rfl rfl) (fa_cons (fe_op (od_mul) (fe_ix (xd_ix rfl) (fv 5) fe_int (fun _ _ => rfl)) (fe_ix (xd_ix rfl) (fv 6) fe_int (fun _ _ => rfl))) (fa_cons (fe_op (od_mul) (fe_ix (xd_ix rfl) (fv 5) fe_int (fun _ _ => rfl)) (fe_ix (xd_ix rfl) (fv 6) fe_int (fun _ _ => rfl))) fa_nil))))
    (fss_cons (fs_set 8 sc__law_edge.nd (fe_tup (fa_cons (fe_op (od_fdiv) (fe_op (od_mul) (fe_ix (xd_ix rfl) (fv 5) fe_int (fun _ _ => rfl)) (fe_ix (xd_ix rfl) (fv 6) fe_int (fun _ _ => rfl))) (fv 7)) (fa_cons (fe_op (od_fdiv) (fe_op (od_mul) (fe_ix (xd_ix rfl) (fv 5) fe_int (fun _ _ => rfl)) (fe_ix (xd_ix rfl) (fv 6) fe_int (fun _ _ => rfl))) (fv 7)) fa_nil))))
    (fss_cons (fs_set 9 sc__law_edge.nd (fe_tup (fa_cons (fe_op (od_mul) (fe_ix (xd_ix rfl) (fv 8) fe_int (fun _ _ => rfl)) (fv 4)) (fa_cons (fe_op (od_mul) (fe_ix (xd_ix rfl) (fv 8) fe_int (fun _ _ => rfl)) (fe_op (od_add rfl) (fv 4) fe_int)) fa_nil))))
    (fss_cons (fs_set 10 sc__law_edge.nd (fe_tup (fa_cons (fe_op (od_add rfl) (fe_ix (xd_ix rfl) (fv 8) fe_int (fun _ _ => rfl)) (fe_op (od_mul) (fv 4) (fe_ix (xd_ix rfl) (fv 8) fe_int (fun _ _ => rfl)))) (fa_cons (fe_op (od_mul) (fe_ix (xd_ix rfl) (fv 8) fe_int (fun _ _ => rfl)) (fe_op (od_add rfl) (fv 4) fe_int)) fa_nil))))
    (fss_cons (fs_for (passes_of rfl) rfl (fi_seq rfl (FN.frz (fn_lst (fa_cons (fe_op (od_add rfl) (fe_op (od_add rfl) (fv 1) (FN.frz (fn_lst (fa_cons (fv 8) fa_nil)))) (fv 3)) (fa_cons (fe_callO C__law_back (hr.mono (by decide)) (takes_of rfl rfl rfl rfl) (fa_cons (fe_op (od_add rfl) (fe_op (od_add rfl) (fv 1) (FN.frz (fn_lst (fa_cons (fv 8) fa_nil)))) (fv 3)) fa_nil)) fa_nil))))) (fg_name (vs := [11]) 11 sc__law_edge.nd) (fss_cons (fs_set 12 sc__law_edge.nd (fe_callO C_rests (hr.mono (by decide)) (takes_of rfl rfl rfl rfl) (fa_cons (fv 11) fa_nil)))
    (fss_one (fs_if (FW.ft (fw_or (ft_not (ft_val (fe_cb (cd_isi rfl) T.n_isinstance bt_isinstance (fa_cons (fv 12) (fa_cons (fe_ty rfl T.n_tuple bt_tuple) fa_nil))))) (fw_or1 (ft_cmp (od_ne rfl (hu64 hr)) (fe_ix (xd_ix rfl) (fv 12) (fe_op (od_sub) (fe_cb (cd_len rfl) T.n_len bt_len (fa_cons (fv 12) fa_nil)) fe_int) (fun _ _ => rfl)) (fe_tup (fa_cons fe_int (fa_cons fe_int fa_nil))) (nomark _))))) (fss_one (fs_ret fe_bl)) fss_nil))))
    (fss_cons (fs_for (passes_of rfl) rfl (fi_seq rfl (FN.frz (fn_lst (fa_cons (fe_op (od_add rfl) (fe_op (od_add rfl) (fv 1) (FN.frz (fn_lst (fa_cons (fv 9) fa_nil)))) (fv 3)) (fa_cons (fe_callO C__law_back (hr.mono (by decide)) (takes_of rfl rfl rfl rfl) (fa_cons (fe_op (od_add rfl) (fe_op (od_add rfl) (fv 1) (FN.frz (fn_lst (fa_cons (fv 9) fa_nil)))) (fv 3)) fa_nil)) fa_nil))))) (fg_name (vs := [11]) 11 sc__law_edge.nd) (fss_cons (fs_set 12 sc__law_edge.nd (fe_callO C_rest_of (hr.mono (by decide)) (takes_of rfl rfl rfl rfl) (fa_cons (fv 11) fa_nil)))
    (fss_one (fs_if (FW.ft (fw_or (ft_cmp (od_notN) (fe_callO C_closes_at (hr.mono (by decide)) (takes_of rfl rfl rfl rfl) (fa_cons (fv 11) fa_nil)) fe_non (nomark _)) (fw_or (ft_not (ft_val (fe_callO C__law_is_fraction (hr.mono (by decide)) (takes_of rfl rfl rfl rfl) (fa_cons (fv 12) fa_nil)))) (fw_or1 (ft_cmp (od_le) (fe_ix (xd_ix rfl) (fv 12) fe_int (fun _ _ => rfl)) fe_int (nomark _)))))) (fss_one (fs_ret fe_bl)) fss_nil))))
    (fss_cons (fs_set 13 sc__law_edge.nd (fe_callO C_rest_of (hr.mono (by decide)) (takes_of rfl rfl rfl rfl) (fa_cons (fe_op (od_add rfl) (fv 1) (FN.frz (fn_lst (fa_cons (fv 9) fa_nil)))) fa_nil)))
    (fss_cons (fs_if (FW.ft (fw_or (ft_not (ft_val (fe_callO C__law_is_fraction (hr.mono (by decide)) (takes_of rfl rfl rfl rfl) (fa_cons (fv 13) fa_nil)))) (fw_or1 (ft_not (ft_val (fe_callO C__law_at_most (hr.mono (by decide)) (takes_of rfl rfl rfl rfl) (fa_cons (fe_tup (fa_cons fe_int (fa_cons (fe_op (od_add rfl) (fv 4) fe_int) fa_nil))) (fa_cons (fv 13) fa_nil)))))))) (fss_one (fs_ret fe_bl)) fss_nil)
    (fss_one (fs_ret (fe_cmp (od_notN) (fe_callO C_closes_at (hr.mono (by decide)) (takes_of rfl rfl rfl rfl) (fa_cons (fe_op (od_add rfl) (fe_op (od_add rfl) (fv 1) (FN.frz (fn_lst (fa_cons (fv 10) fa_nil)))) (fv 3)) fa_nil)) fe_non (nomark _))))))))))))))))))
  · match ds, len _ _ _ _ h with
    | [d0], _ => exact hb d0 M Q E h
def g__law_refusal (K : PySem.W.Frag) : DS :=
  (sSeq (sSet 2 (gFrz (nLst (aCons (gC (.str "nothing")) (aCons (gC (.str "")) (aCons (gC (.bl false)) aNil))))))
    (sSeq (sTry K (sSeq (sIf (gTest (gOp dEq (gVar 0) (gC (.int 0)))) (sDrop (gCall (sp_rests K) (aCons (gVar 1) aNil))) sNext)
    (sSeq (sIf (gTest (gOp dEq (gVar 0) (gC (.int 1)))) (sDrop (gCall (sp_closes_at K) (aCons (gVar 1) aNil))) sNext)
    (sIf (gTest (gOp dEq (gVar 0) (gC (.int 2)))) (sDrop (gCall (sp_rest_of K) (aCons (gVar 1) aNil))) sNext))) [(Value.ref (He.ga K "BadNumber"), some 3, fun a cls d fs => (sSet 2 (gFrz (nLst (aCons (gC (.str "number")) (aCons (gXf a cls d (He.ga K "BadNumber") "name" (gVar 3)) (aCons (gAndV (gCB (dIsXT K cls a d (He.ga K "BadNumber")) (aCons (gVar 3) (aCons (gC (.ty "ValueError")) aNil))) (gNotV (gCB (dIsX K cls a d (He.ga K "BadNumber")) (aCons (gVar 3) (aCons (gC (.ref (He.ga K "TooMany"))) aNil))))) aNil))))))), (Value.ref (He.ga K "DiceError"), some 3, fun a cls d fs => (sSet 2 (gFrz (nLst (aCons (gC (.str "other")) (aCons (gC (.str "")) (aCons (gC (.bl false)) aNil)))))))])
    (sRet (gVar 2))))
theorem sc__law_refusal : FnScope ["_law_word", "_law_losses_here", "_law_told", "error"] ["_law_word", "_law_losses_here"] (defScope s__law_refusal) := ⟨rfl, rfl, rfl, by decide +kernel, rfl, by decide +kernel, by decide +kernel⟩
theorem w__law_refusal (T : Tx K mg) (C_rests : OkD P w K mg base 6 "rests" ["losses"] (sp_rests K)) (C_closes_at : OkD P w K mg base 7 "closes_at" ["losses"] (sp_closes_at K)) (C_rest_of : OkD P w K mg base 7 "rest_of" ["losses"] (sp_rest_of K)) (len : ∀ ds M Q E, sp__law_refusal K ds M Q E → ds.length = 2)
    (hb : ∀ d0 d1 M Q E, sp__law_refusal K [d0, d1] M Q E → g__law_refusal K { nx := fun _ M => Q .non M, rt := Q, ex := fun x _ M => E x M } [some d0, some d1, none, none] M) : OkD P w K mg base 8 "_law_refusal" ["_law_word", "_law_losses_here"] (sp__law_refusal K) := by
  obtain ⟨fd, F⟩ := T.F__law_refusal
  refine ⟨fd, dl_def F sc__law_refusal (by intro ds M Q E h; exact len ds M Q E h) (g__law_refusal K) (by decide) (fun cdv A outer s H E hr => ?_) (fun ds M Q E h => ?_), F.binds fun _ _ _ _ _ _ us hl => match us, hl with | [_, _], _ => rfl, F.kp, T.g__law_refusal, fun_lk F⟩
  · exact
   (fss_cons (fs_set 2 sc__law_refusal.nd (FN.frz (fn_lst (fa_cons fe_str (fa_cons fe_str (fa_cons fe_bl fa_nil))))))
    (fss_cons (fs_try sc__law_refusal.nd (takes_of rfl rfl rfl rfl) (fun W pn xe tk' po' => (fss_cons (fs_if (ft_cmp (od_eq rfl (hu64 hr)) (fv 0) fe_int (nomark _)) (fss_one (fs_expr (fe_callO C_rests (hr.mono (by decide)) tk' (fa_cons (fv 1) fa_nil)))) fss_nil)
    (fss_cons (fs_if (ft_cmp (od_eq rfl (hu64 hr)) (fv 0) fe_int (nomark _)) (fss_one (fs_expr (fe_callO C_closes_at (hr.mono (by decide)) tk' (fa_cons (fv 1) fa_nil)))) fss_nil)
    (fss_one (fs_if (ft_cmp (od_eq rfl (hu64 hr)) (fv 0) fe_int (nomark _)) (fss_one (fs_expr (fe_callO C_rest_of (hr.mono (by decide)) tk' (fa_cons (fv 1) fa_nil)))) fss_nil)))))
      (.as 3 (names_g T.g_BadNumber) rfl rfl (fun a oe cls d fs pn hz hf => (fss_one (fs_set 2 sc__law_refusal.nd (FN.frz (fn_lst (fa_cons fe_str (fa_cons (fe_xf rfl T.e_BadNumber hz hf (by decide) (fv 3)) (fa_cons (fe_and (fe_cb (cd_isXT rfl T.e_BadNumber.is hz hf) T.n_isinstance bt_isinstance (fa_cons (fv 3) (fa_cons (fe_ty rfl T.n_ValueError bt_ValueError) fa_nil))) (fe_one (fe_not (fe_cb (cd_isX rfl T.e_BadNumber.is hz hf) T.n_isinstance bt_isinstance (fa_cons (fv 3) (fa_cons (fe_own rfl T.g_TooMany) fa_nil)))))) fa_nil))))))))
      (.as 3 (names_g T.g_DiceError) rfl rfl (fun a oe cls d fs pn hz hf => (fss_one (fs_set 2 sc__law_refusal.nd (FN.frz (fn_lst (fa_cons fe_str (fa_cons fe_str (fa_cons fe_bl fa_nil))))))))
      .nil)))
    (fss_one (fs_ret (fv 2)))))
  · match ds, len _ _ _ _ h with
    | [d0, d1], _ => exact hb d0 d1 M Q E h
def g__law_refuses (K : PySem.W.Frag) : DS :=
  (sSeq (sSet 2 (gFrz (nLst (aCons (gTup (aCons (gC (.int 3)) (aCons (gC (.int 2)) aNil))) (aCons (gUn dNeg (gC (.int 1))) (aCons (gC (.bl true)) (aCons (gTup (aCons (gC (.int 1)) (aCons (gC (.int 0)) aNil))) (aCons (gTup (aCons (gUn dNeg (gC (.int 1))) (aCons (gC (.int 2)) aNil))) (aCons (gC .non) (aCons (gC (.int 2)) (aCons (gTup (aCons (gC (.int 1)) (aCons (gC (.int 2)) (aCons (gC (.int 3)) aNil)))) (aCons (gC (.str "half")) (aCons (gTup (aCons (gC (.int 1)) (aCons (gUn dNeg (gC (.int 2))) aNil))) (aCons (gTup (aCons (gC (.bl true)) (aCons (gC (.int 2)) aNil))) (aCons (gFrz (nLst aNil)) aNil)))))))))))))))
    (sSeq (sSet 3 (gOp dIx (gVar 2) (gCall (sp__law_take K) (aCons (gVar 0) (aCons (gC (.int 12)) aNil)))))
    (sSeq (sSet 4 (gCall (sp__law_take K) (aCons (gVar 0) (aCons (gOp dAdd (gCB dLen (aCons (gVar 1) aNil)) (gC (.int 1))) aNil))))
    (sSeq (sSet 5 (gSl (gOp dAdd (gOp dAdd (gSl (gVar 1) oNone (oSome (gVar 4))) (gFrz (nLst (aCons (gVar 3) aNil)))) (gSl (gVar 1) (oSome (gVar 4)) oNone)) oNone (oSome (gC (.int 16)))))
    (sSeq (sIf (gTest (gOp dEq (gVar 4) (gC (.int 16)))) (sSet 5 (gOp dAdd (gSl (gVar 1) oNone (oSome (gC (.int 15)))) (gFrz (nLst (aCons (gVar 3) aNil))))) sNext)
    (sSeq (sFor (iRange1 (aCons (gC (.int 3)) aNil)) (dName 6) (sSeq (sFor (iSeqD (gFrz (nLst (aCons (gVar 5) (aCons (gCB dTupleOf (aCons (gVar 5) aNil)) (aCons (gC (.int 5)) (aCons (gC .non) (aCons (gC (.str "row")) (aCons (gC (.bl true)) aNil))))))))) (dName 7) (sIf (gTest (gOp dNe (gCall (sp__law_refusal K) (aCons (gVar 6) (aCons (gVar 7) aNil))) (gFrz (nLst (aCons (gC (.str "number")) (aCons (gC (.str "losses")) (aCons (gC (.bl true)) aNil))))))) (sRet (gC (.bl false))) sNext))
    (sFor (iSeqD (gFrz (nLst (aCons (gFrz (nLst aNil)) (aCons (gTup aNil) (aCons (gFrz (nLst (aCons (gC (.int 0)) aNil))) (aCons (gFrz (nLst (aCons (gTup (aCons (gC (.int 1)) (aCons (gC (.int 1)) aNil))) aNil))) (aCons (gTup (aCons (gTup (aCons (gC (.int 0)) (aCons (gC (.int 1)) aNil))) (aCons (gTup (aCons (gC (.int 1)) (aCons (gC (.int 2)) aNil))) aNil))) aNil)))))))) (dName 7) (sIf (gTest (gOp dNe (gCall (sp__law_refusal K) (aCons (gVar 6) (aCons (gVar 7) aNil))) (gFrz (nLst (aCons (gC (.str "nothing")) (aCons (gC (.str "")) (aCons (gC (.bl false)) aNil))))))) (sRet (gC (.bl false))) sNext))))
    (sRet (gC (.bl true)))))))))
theorem sc__law_refuses : FnScope ["_law_drawn", "_law_losses_here", "_law_wrong", "_law_bad", "_law_place", "_law_row", "_law_word", "_law_thing"] ["_law_drawn", "_law_losses_here"] (defScope s__law_refuses) := ⟨rfl, rfl, rfl, by decide +kernel, rfl, by decide +kernel, by decide +kernel⟩
theorem w__law_refuses (T : Tx K mg) (C__law_take : OkD P w K mg base 1 "_law_take" ["_law_drawn", "_law_many"] (sp__law_take K)) (C__law_refusal : OkD P w K mg base 8 "_law_refusal" ["_law_word", "_law_losses_here"] (sp__law_refusal K)) (len : ∀ ds M Q E, sp__law_refuses K ds M Q E → ds.length = 2)
    (hb : ∀ d0 d1 M Q E, sp__law_refuses K [d0, d1] M Q E → g__law_refuses K { nx := fun _ M => Q .non M, rt := Q, ex := fun x _ M => E x M } [some d0, some d1, none, none, none, none, none, none] M) : OkD P w K mg base 9 "_law_refuses" ["_law_drawn", "_law_losses_here"] (sp__law_refuses K) := by
  obtain ⟨fd, F⟩ := T.F__law_refuses
  refine ⟨fd, dl_def F sc__law_refuses (by intro ds M Q E h; exact len ds M Q E h) (g__law_refuses K) (by decide) (fun cdv A outer s H E hr => ?_) (fun ds M Q E h => ?_), F.binds fun _ _ _ _ _ _ us hl => match us, hl with | [_, _], _ => rfl, F.kp, T.g__law_refuses, fun_lk F⟩
  · exact
   (fss_cons (fs_set 2 sc__law_refuses.nd (FN.frz (fn_lst (fa_cons (fe_tup (fa_cons fe_int (fa_cons fe_int fa_nil))) (fa_cons (fe_un ud_neg fe_int) (fa_cons fe_bl (fa_cons (fe_tup (fa_cons fe_int (fa_cons fe_int fa_nil))) (fa_cons (fe_tup (fa_cons (fe_un ud_neg fe_int) (fa_cons fe_int fa_nil))) (fa_cons fe_non (fa_cons fe_int (fa_cons (fe_tup (fa_cons fe_int (fa_cons fe_int (fa_cons fe_int fa_nil)))) (fa_cons fe_str (fa_cons (fe_tup (fa_cons fe_int (fa_cons (fe_un ud_neg fe_int) fa_nil))) (fa_cons (fe_tup (fa_cons fe_bl (fa_cons fe_int fa_nil))) (fa_cons (FN.frz (fn_lst fa_nil)) fa_nil)))))))))))))))
    (fss_cons (fs_set 3 sc__law_refuses.nd (fe_ix (xd_ix rfl) (fv 2) (fe_callO C__law_take (hr.mono (by decide)) (takes_of rfl rfl rfl rfl) (fa_cons (fv 0) (fa_cons fe_int fa_nil))) (fun _ _ => rfl)))
    (fss_cons (fs_set 4 sc__law_refuses.nd (fe_callO C__law_take (hr.mono (by decide)) (takes_of rfl rfl rfl rfl) (fa_cons (fv 0) (fa_cons (fe_op (od_add rfl) (fe_cb (cd_len rfl) T.n_len bt_len (fa_cons (fv 1) fa_nil)) fe_int) fa_nil))))
    (fss_cons (fs_set 5 sc__law_refuses.nd (fe_slice rfl (fe_op (od_add rfl) (fe_op (od_add rfl) (fe_slice rfl (fv 1) fo_none (fo_some (fv 4))) (FN.frz (fn_lst (fa_cons (fv 3) fa_nil)))) (fe_slice rfl (fv 1) (fo_some (fv 4)) fo_none)) fo_none (fo_some fe_int)))
    (fss_cons (fs_if (ft_cmp (od_eq rfl (hu64 hr)) (fv 4) fe_int (nomark _)) (fss_one (fs_set 5 sc__law_refuses.nd (fe_op (od_add rfl) (fe_slice rfl (fv 1) fo_none (fo_some fe_int)) (FN.frz (fn_lst (fa_cons (fv 3) fa_nil)))))) fss_nil)
    (fss_cons (fs_for (passes_of rfl) rfl (fi_range1 (by rfl) T.n_range (fa_cons fe_int fa_nil)) (fg_name (vs := [6]) 6 sc__law_refuses.nd) (fss_cons (fs_for (passes_of rfl) rfl (fi_seq rfl (FN.frz (fn_lst (fa_cons (fv 5) (fa_cons (fe_ct (cd_tuple rfl) T.n_tuple bt_tuple (fa_cons (fv 5) fa_nil)) (fa_cons fe_int (fa_cons fe_non (fa_cons fe_str (fa_cons fe_bl fa_nil))))))))) (fg_name (vs := [7]) 7 sc__law_refuses.nd) (fss_one (fs_if (ft_cmp (od_ne rfl (hu64 hr)) (fe_callO C__law_refusal (hr.mono (by decide)) (takes_of rfl rfl rfl rfl) (fa_cons (fv 6) (fa_cons (fv 7) fa_nil))) (FN.frz (fn_lst (fa_cons fe_str (fa_cons fe_str (fa_cons fe_bl fa_nil))))) (nomark _)) (fss_one (fs_ret fe_bl)) fss_nil)))
    (fss_one (fs_for (passes_of rfl) rfl (fi_seq rfl (FN.frz (fn_lst (fa_cons (FN.frz (fn_lst fa_nil)) (fa_cons (fe_tup fa_nil) (fa_cons (FN.frz (fn_lst (fa_cons fe_int fa_nil))) (fa_cons (FN.frz (fn_lst (fa_cons (fe_tup (fa_cons fe_int (fa_cons fe_int fa_nil))) fa_nil))) (fa_cons (fe_tup (fa_cons (fe_tup (fa_cons fe_int (fa_cons fe_int fa_nil))) (fa_cons (fe_tup (fa_cons fe_int (fa_cons fe_int fa_nil))) fa_nil))) fa_nil)))))))) (fg_name (vs := [7]) 7 sc__law_refuses.nd) (fss_one (fs_if (ft_cmp (od_ne rfl (hu64 hr)) (fe_callO C__law_refusal (hr.mono (by decide)) (takes_of rfl rfl rfl rfl) (fa_cons (fv 6) (fa_cons (fv 7) fa_nil))) (FN.frz (fn_lst (fa_cons fe_str (fa_cons fe_str (fa_cons fe_bl fa_nil))))) (nomark _)) (fss_one (fs_ret fe_bl)) fss_nil))))))
    (fss_one (fs_ret fe_bl))))))))
  · match ds, len _ _ _ _ h with
    | [d0, d1], _ => exact hb d0 d1 M Q E h
def g_law (K : PySem.W.Frag) : DS :=
  (sSeq (sSet 1 (gCall (sp__law_draws K) (aCons (gVar 0) aNil)))
    (sSeq (sSet 2 (gCall (sp__law_losses K) (aCons (gVar 1) aNil)))
    (sSeq (sIf (gNot (gTest (gCall (sp__law_tells K) (aCons (gVar 2) aNil)))) (sRetF (gC (.bl false))) sNext)
    (sSeq (sIf (gOr (gTest (gOp dNe (gCall (sp_closes_at K) (aCons (gFrz (nLst (aCons (gTup (aCons (gC (.int 1)) (aCons (gC (.int 2)) aNil))) (aCons (gTup (aCons (gC (.int 1)) (aCons (gC (.int 2)) aNil))) aNil)))) aNil)) (gC (.int 2)))) (gTest (gOp (dIsN fun b => !b) (gCall (sp_closes_at K) (aCons (gTup (aCons (gTup (aCons (gC (.int 1)) (aCons (gC (.int 2)) aNil))) (aCons (gC (.int 0)) (aCons (gFrz (nLst (aCons (gC (.int 1)) (aCons (gC (.int 2)) aNil)))) aNil)))) aNil)) (gC .non)))) (sRetF (gC (.bl false))) sNext)
    (sSeq (sIf (gOr (gTest (gOp dNe (gCall (sp_closes_at K) (aCons (gFrz (nLst (aCons (gTup (aCons (gC (.int 1)) (aCons (gC (.int 2)) aNil))) (aCons (gTup (aCons (gC (.int 1)) (aCons (gC (.int 2)) aNil))) (aCons (gC (.int 0)) aNil))))) aNil)) (gC (.int 2)))) (gTest (gOp dNe (gCall (sp_closes_at K) (aCons (gFrz (nLst (aCons (gC (.int 0)) (aCons (gTup (aCons (gC (.int 1)) (aCons (gC (.int 2)) aNil))) (aCons (gTup (aCons (gC (.int 1)) (aCons (gC (.int 2)) aNil))) aNil))))) aNil)) (gC (.int 3))))) (sRetF (gC (.bl false))) sNext)
    (sSeq (sIf (gOr (gNot (gTest (gCall (sp__law_backwards K) (aCons (gVar 2) aNil)))) (gOr (gNot (gTest (gCall (sp__law_edge K) (aCons (gVar 1) aNil)))) (gNot (gTest (gCall (sp__law_edge K) (aCons (gVar 1) aNil)))))) (sRetF (gC (.bl false))) sNext)
    (sSeq (sFor (iRange1 (aCons (gCB dLen (aCons (gVar 2) aNil)) aNil)) (dName 3) (sIf (gNot (gTest (gCall (sp__law_cut K) (aCons (gVar 2) (aCons (gVar 3) aNil))))) (sRetF (gC (.bl false))) sNext))
    (sSeq (sIf (gOr (gNot (gTest (gCall (sp__law_forced K) (aCons (gVar 2) aNil)))) (gNot (gTest (gCall (sp__law_quarters K) (aCons (gCall (sp__law_take K) (aCons (gVar 1) (aCons (gC (.int 17)) aNil))) aNil))))) (sRetF (gC (.bl false))) sNext)
    (sSeq (sIf (gTest (gOp dGt (gCB dLen (aCons (gVar 2) aNil)) (gC (.int 0)))) (sSeq (sSet 4 (gCall (sp__law_take K) (aCons (gVar 1) (aCons (gCB dLen (aCons (gVar 2) aNil)) aNil))))
    (sIf (gNot (gTest (gCall (sp__law_raised K) (aCons (gVar 2) (aCons (gVar 4) (aCons (gCall (sp__law_take K) (aCons (gVar 1) (aCons (gC (.int 3)) aNil))) aNil)))))) (sRetF (gC (.bl false))) sNext)) sNext)
    (sSeq (sSet 5 (gCall (sp__law_loss K) (aCons (gVar 1) aNil)))
    (sSeq (sIf (gAnd (gTest (gOp dLt (gCB dLen (aCons (gVar 2) aNil)) (gC (.int 16)))) (gNot (gTest (gCall (sp__law_longer K) (aCons (gVar 2) (aCons (gVar 5) aNil)))))) (sRetF (gC (.bl false))) sNext)
    (sSeq (sIf (gNot (gTest (gCall (sp__law_refuses K) (aCons (gVar 1) (aCons (gVar 2) aNil))))) (sRetF (gC (.bl false))) sNext)
    (sSeq (sSet 6 (gCall (sp_rests K) (aCons (gVar 2) aNil)))
    (sSeq (sSet 7 (gFrz (nCB nListOf (aCons (gVar 2) aNil))))
    (sSeq (sSet 8 (gCel (nCB nListOf (aCons (gVar 2) aNil))))
    (sSeq (sIf (gTest (gOp dNe (gCall (sp_rests K) (aCons (gVar 8) aNil)) (gVar 6))) (sRetF (gC (.bl false))) sNext)
    (sSeq (sDrop (gMt dAppend (gVar 8) (aCons (gC (.int 1)) aNil)))
    (sSeq (sIf (gTest (gOp dNe (gCall (sp_rests K) (aCons (gSl (gVar 8) oNone (oSome (gC (.int 16)))) aNil)) (gCall (sp_rests K) (aCons (gSl (gOp dAdd (gVar 7) (gFrz (nLst (aCons (gC (.int 1)) aNil)))) oNone (oSome (gC (.int 16)))) aNil)))) (sRetF (gC (.bl false))) sNext)
    (sRetF (gAndV (gOp dEq (gCall (sp_rests K) (aCons (gVar 2) aNil)) (gVar 6)) (gCall (sp__law_tells K) (aCons (gSl (gOp dAdd (gVar 7) (gFrz (nLst (aCons (gVar 5) aNil)))) oNone (oSome (gC (.int 16)))) aNil))))))))))))))))))))))
theorem sc_law : FnScope ["_law_script", "_law_drawn", "_law_losses_here", "_law_at", "_law_place", "_law_extra", "_law_first", "_law_changed", "_law_handed"] ["_law_script"] (defScope s_law) := ⟨rfl, rfl, rfl, by decide +kernel, rfl, by decide +kernel, by decide +kernel⟩
theorem w_law (T : Tx K mg) (C__law_draws : OkD P w K mg base 1 "_law_draws" ["_law_script"] (sp__law_draws K)) (C__law_losses : OkD P w K mg base 4 "_law_losses" ["_law_drawn"] (sp__law_losses K)) (C__law_loss : OkD P w K mg base 3 "_law_loss" ["_law_drawn"] (sp__law_loss K)) (C_rests : OkD P w K mg base 6 "rests" ["losses"] (sp_rests K)) (C__law_tells : OkDG P w K mg base 8 "_law_tells" ["_law_losses_here"] (sp__law_tells K)) (C__law_take : OkD P w K mg base 1 "_law_take" ["_law_drawn", "_law_many"] (sp__law_take K)) (C__law_refuses : OkD P w K mg base 9 "_law_refuses" ["_law_drawn", "_law_losses_here"] (sp__law_refuses K)) (C_closes_at : OkD P w K mg base 7 "closes_at" ["losses"] (sp_closes_at K)) (C__law_backwards : OkD P w K mg base 8 "_law_backwards" ["_law_losses_here"] (sp__law_backwards K)) (C__law_edge : OkD P w K mg base 8 "_law_edge" ["_law_drawn"] (sp__law_edge K)) (C__law_cut : OkD P w K mg base 8 "_law_cut" ["_law_losses_here", "_law_at"] (sp__law_cut K)) (C__law_forced : OkD P w K mg base 9 "_law_forced" ["_law_losses_here"] (sp__law_forced K)) (C__law_quarters : OkD P w K mg base 8 "_law_quarters" ["_law_many"] (sp__law_quarters K)) (C__law_raised : OkD P w K mg base 9 "_law_raised" ["_law_losses_here", "_law_place", "_law_word"] (sp__law_raised K)) (C__law_longer : OkD P w K mg base 9 "_law_longer" ["_law_losses_here", "_law_extra"] (sp__law_longer K)) (len : ∀ ds M Q E, sp_law K ds M Q E → ds.length = 1)
    (hb : ∀ d0 M Q E, sp_law K [d0] M Q E → g_law K { nx := fun _ M => Q .non M, rt := Q, ex := fun x _ M => E x M } [some d0, none, none, none, none, none, none, none, none] M) : OkDG P w K mg base 10 "law" ["_law_script"] (sp_law K) := by
  obtain ⟨fd, F⟩ := T.F_law
  refine ⟨fd, dl_defG F sc_law (by intro ds M Q E h; exact len ds M Q E h) (g_law K) (by decide) (fun cdv A outer s H E gu hr => ?_) (fun ds M Q E h => ?_), F.binds fun _ _ _ _ _ _ us hl => match us, hl with | [_], _ => rfl, F.kp, T.g_law, fun_lk F⟩
  · exact
   (fss_cons (fs_set 1 sc_law.nd (fe_callO C__law_draws (hr.mono (by decide)) (takes_of rfl rfl rfl rfl) (fa_cons (fv 0) fa_nil)))
    (fss_cons (fs_set 2 sc_law.nd (fe_callO C__law_losses (hr.mono (by decide)) (takes_of rfl rfl rfl rfl) (fa_cons (fv 1) fa_nil)))
    (fss_cons (fs_if (ft_not (ft_val (fe_callOG C__law_tells gu (hr.mono (by decide)) (takes_of rfl rfl rfl rfl) (fa_cons (fv 2) fa_nil)))) (fss_one (fs_retF fe_bl)) fss_nil)
    (fss_cons (fs_if (FW.ft (fw_or (ft_cmp (od_ne rfl (hu64 hr)) (fe_callO C_closes_at (hr.mono (by decide)) (takes_of rfl rfl rfl rfl) (fa_cons (FN.frz (fn_lst (fa_cons (fe_tup (fa_cons fe_int (fa_cons fe_int fa_nil))) (fa_cons (fe_tup (fa_cons fe_int (fa_cons fe_int fa_nil))) fa_nil)))) fa_nil)) fe_int (nomark _)) (fw_or1 (ft_cmp (od_notN) (fe_callO C_closes_at (hr.mono (by decide)) (takes_of rfl rfl rfl rfl) (fa_cons (fe_tup (fa_cons (fe_tup (fa_cons fe_int (fa_cons fe_int fa_nil))) (fa_cons fe_int (fa_cons (FN.frz (fn_lst (fa_cons fe_int (fa_cons fe_int fa_nil)))) fa_nil)))) fa_nil)) fe_non (nomark _))))) (fss_one (fs_retF fe_bl)) fss_nil)
    (fss_cons (fs_if (FW.ft (fw_or (ft_cmp (od_ne rfl (hu64 hr)) (fe_callO C_closes_at (hr.mono (by decide)) (takes_of rfl rfl rfl rfl) (fa_cons (FN.frz (fn_lst (fa_cons (fe_tup (fa_cons fe_int (fa_cons fe_int fa_nil))) (fa_cons (fe_tup (fa_cons fe_int (fa_cons fe_int fa_nil))) (fa_cons fe_int fa_nil))))) fa_nil)) fe_int (nomark _)) (fw_or1 (ft_cmp (od_ne rfl (hu64 hr)) (fe_callO C_closes_at (hr.mono (by decide)) (takes_of rfl rfl rfl rfl) (fa_cons (FN.frz (fn_lst (fa_cons fe_int (fa_cons (fe_tup (fa_cons fe_int (fa_cons fe_int fa_nil))) (fa_cons (fe_tup (fa_cons fe_int (fa_cons fe_int fa_nil))) fa_nil))))) fa_nil)) fe_int (nomark _))))) (fss_one (fs_retF fe_bl)) fss_nil)
    (fss_cons (fs_if (FW.ft (fw_or (ft_not (ft_val (fe_callO C__law_backwards (hr.mono (by decide)) (takes_of rfl rfl rfl rfl) (fa_cons (fv 2) fa_nil)))) (fw_or (ft_not (ft_val (fe_callO C__law_edge (hr.mono (by decide)) (takes_of rfl rfl rfl rfl) (fa_cons (fv 1) fa_nil)))) (fw_or1 (ft_not (ft_val (fe_callO C__law_edge (hr.mono (by decide)) (takes_of rfl rfl rfl rfl) (fa_cons (fv 1) fa_nil)))))))) (fss_one (fs_retF fe_bl)) fss_nil)
    (fss_cons (fs_for (passes_of rfl) rfl (fi_range1 (by rfl) T.n_range (fa_cons (fe_cb (cd_len rfl) T.n_len bt_len (fa_cons (fv 2) fa_nil)) fa_nil)) (fg_name (vs := [3]) 3 sc_law.nd) (fss_one (fs_if (ft_not (ft_val (fe_callO C__law_cut (hr.mono (by decide)) (takes_of rfl rfl rfl rfl) (fa_cons (fv 2) (fa_cons (fv 3) fa_nil))))) (fss_one (fs_retF fe_bl)) fss_nil)))
    (fss_cons (fs_if (FW.ft (fw_or (ft_not (ft_val (fe_callO C__law_forced (hr.mono (by decide)) (takes_of rfl rfl rfl rfl) (fa_cons (fv 2) fa_nil)))) (fw_or1 (ft_not (ft_val (fe_callO C__law_quarters (hr.mono (by decide)) (takes_of rfl rfl rfl rfl) (fa_cons (fe_callO C__law_take (hr.mono (by decide)) (takes_of rfl rfl rfl rfl) (fa_cons (fv 1) (fa_cons fe_int fa_nil))) fa_nil))))))) (fss_one (fs_retF fe_bl)) fss_nil)
    (fss_cons (fs_if (ft_cmp (od_gt) (fe_cb (cd_len rfl) T.n_len bt_len (fa_cons (fv 2) fa_nil)) fe_int (nomark _)) (fss_cons (fs_set 4 sc_law.nd (fe_callO C__law_take (hr.mono (by decide)) (takes_of rfl rfl rfl rfl) (fa_cons (fv 1) (fa_cons (fe_cb (cd_len rfl) T.n_len bt_len (fa_cons (fv 2) fa_nil)) fa_nil))))
    (fss_one (fs_if (ft_not (ft_val (fe_callO C__law_raised (hr.mono (by decide)) (takes_of rfl rfl rfl rfl) (fa_cons (fv 2) (fa_cons (fv 4) (fa_cons (fe_callO C__law_take (hr.mono (by decide)) (takes_of rfl rfl rfl rfl) (fa_cons (fv 1) (fa_cons fe_int fa_nil))) fa_nil)))))) (fss_one (fs_retF fe_bl)) fss_nil))) fss_nil)
    (fss_cons (fs_set 5 sc_law.nd (fe_callO C__law_loss (hr.mono (by decide)) (takes_of rfl rfl rfl rfl) (fa_cons (fv 1) fa_nil)))
    (fss_cons (fs_if (FW.ft (fw_and (ft_cmp (od_lt) (fe_cb (cd_len rfl) T.n_len bt_len (fa_cons (fv 2) fa_nil)) fe_int (nomark _)) (fw_and1 (ft_not (ft_val (fe_callO C__law_longer (hr.mono (by decide)) (takes_of rfl rfl rfl rfl) (fa_cons (fv 2) (fa_cons (fv 5) fa_nil)))))))) (fss_one (fs_retF fe_bl)) fss_nil)
    (fss_cons (fs_if (ft_not (ft_val (fe_callO C__law_refuses (hr.mono (by decide)) (takes_of rfl rfl rfl rfl) (fa_cons (fv 1) (fa_cons (fv 2) fa_nil))))) (fss_one (fs_retF fe_bl)) fss_nil)
    (fss_cons (fs_set 6 sc_law.nd (fe_callO C_rests (hr.mono (by decide)) (takes_of rfl rfl rfl rfl) (fa_cons (fv 2) fa_nil)))
    (fss_cons (fs_set 7 sc_law.nd (FN.frz (fn_ct (cn_list rfl) T.n_list bt_list (fa_cons (fv 2) fa_nil))))
    (fss_cons (fs_set 8 sc_law.nd (FN.cel (fn_ct (cn_list rfl) T.n_list bt_list (fa_cons (fv 2) fa_nil))))
    (fss_cons (fs_if (ft_cmp (od_ne rfl (hu64 hr)) (fe_callO C_rests (hr.mono (by decide)) (takes_of rfl rfl rfl rfl) (fa_cons (fv 8) fa_nil)) (fv 6) (nomark _)) (fss_one (fs_retF fe_bl)) fss_nil)
    (fss_cons (fs_expr (fe_mt rfl (PySem.F.slot_list_append) PySem.F.type_list_append md_append (fv 8) (fa_cons fe_int fa_nil)))
    (fss_cons (fs_if (ft_cmp (od_ne rfl (hu64 hr)) (fe_callO C_rests (hr.mono (by decide)) (takes_of rfl rfl rfl rfl) (fa_cons (fe_slice rfl (fv 8) fo_none (fo_some fe_int)) fa_nil)) (fe_callO C_rests (hr.mono (by decide)) (takes_of rfl rfl rfl rfl) (fa_cons (fe_slice rfl (fe_op (od_add rfl) (fv 7) (FN.frz (fn_lst (fa_cons fe_int fa_nil)))) fo_none (fo_some fe_int)) fa_nil)) (nomark _)) (fss_one (fs_retF fe_bl)) fss_nil)
    (fss_one (fs_retF (fe_and (fe_cmp (od_eq rfl (hu64 hr)) (fe_callO C_rests (hr.mono (by decide)) (takes_of rfl rfl rfl rfl) (fa_cons (fv 2) fa_nil)) (fv 6) (nomark _)) (fe_one (fe_callOG C__law_tells gu (hr.mono (by decide)) (takes_of rfl rfl rfl rfl) (fa_cons (fe_slice rfl (fe_op (od_add rfl) (fv 7) (FN.frz (fn_lst (fa_cons (fv 5) fa_nil)))) fo_none (fo_some fe_int)) fa_nil))))))))))))))))))))))))
  · match ds, len _ _ _ _ h with
    | [d0], _ => exact hb d0 M Q E h
end
end LW

namespace LW
open PySem PySem.Spec PyProof.Rows L2 DL
theorem nb_mono {n m : Nat} {x : Int} (h : nb n x) (l : n ≤ m) : nb m x := Nat.lt_of_lt_of_le h (Nat.pow_le_pow_right (by decide) l)
theorem nb_mul {a b : Nat} {x y : Int} (hx : nb a x) (hy : nb b y) : nb (a + b) (x * y) := by
  unfold nb at *
  rw [Int.natAbs_mul, Nat.pow_add]
  exact Nat.mul_lt_mul'' hx hy
theorem nb_add {n : Nat} {x y : Int} (hx : nb n x) (hy : nb n y) : nb (n + 1) (x + y) := by
  unfold nb at *
  have := Int.natAbs_add_le x y
  rw [Nat.pow_succ]
  omega
theorem nb_neg {n : Nat} {x : Int} (h : nb n x) : nb n (-x) := by
  unfold nb at *
  rw [Int.natAbs_neg]
  exact h
theorem nb_sub {n : Nat} {x y : Int} (hx : nb n x) (hy : nb n y) : nb (n + 1) (x - y) := nb_add hx (nb_neg hy)
theorem log_nb {n : Nat} {x : Int} (h : nb n x) : x.natAbs.log2 ≤ n := by
  by_cases z : x.natAbs = 0
  · rw [z]
    exact Nat.zero_le _
  · exact Nat.le_of_lt ((Nat.log2_lt z).mpr h)
theorem cmul {a b : Nat} {x y : Int} (hx : nb a x) (hy : nb b y) (h : a + b < 1000000 := by omega) : CMulW x y := by
  unfold CMulW
  have := log_nb hx
  have := log_nb hy
  omega
theorem cdiv {n : Nat} {x y : Int} (h0 : 0 < y) (hy : nb n y) (h : n < 9000 := by omega) : CDivW x y := ⟨h0, Nat.lt_of_le_of_lt (log_nb hy) h⟩
theorem gcdL_snoc (l : List Int) (a : Int) : gcdL (l ++ [a]) = Nat.gcd (gcdL l) a.natAbs := by
  unfold gcdL
  rw [List.foldl_append]
  rfl
theorem gcdL_two (t b : Int) : gcdL [t, b] = Int.gcd t b := by
  show Nat.gcd (Nat.gcd 0 t.natAbs) b.natAbs = _
  rw [Nat.gcd_zero_left]
  rfl
theorem g_pos {t b : Int} (h : 0 < b) : 0 < Int.gcd t b := Int.gcd_pos_of_ne_zero_right _ (by omega)
theorem lo_top (t b : Int) : (lo t b).1 * (Int.gcd t b : Int) = t := Int.ediv_mul_cancel (Int.gcd_dvd_left ..)
theorem lo_bot (t b : Int) : (lo t b).2 * (Int.gcd t b : Int) = b := Int.ediv_mul_cancel (Int.gcd_dvd_right ..)
theorem lo_pos {t b : Int} (h : 0 < b) : 0 < (lo t b).2 := by
  have e := lo_bot t b
  have g : (0 : Int) < (Int.gcd t b : Int) := by have := g_pos (t := t) h; omega
  exact Int.pos_of_mul_pos_left (by rw [e]; exact h) g
theorem lo_cross (t b : Int) : (lo t b).1 * b = t * (lo t b).2 := by
  have e1 := lo_top t b
  have e2 := lo_bot t b
  calc (lo t b).1 * b = (lo t b).1 * ((lo t b).2 * (Int.gcd t b : Int)) := by rw [e2]
    _ = (lo t b).1 * (Int.gcd t b : Int) * (lo t b).2 := by rw [Int.mul_comm (lo t b).2, Int.mul_assoc]
    _ = t * (lo t b).2 := by rw [e1]
theorem lo_gcd {t b : Int} (h : 0 < b) : Int.gcd (lo t b).1 (lo t b).2 = 1 := by
  have g := g_pos (t := t) h
  have e : Int.gcd ((lo t b).1 * (Int.gcd t b : Int)) ((lo t b).2 * (Int.gcd t b : Int)) = Int.gcd t b := by rw [lo_top, lo_bot]
  rw [Int.gcd_mul_right] at e
  have e2 : ((Int.gcd t b : Nat) : Int).natAbs = Int.gcd t b := Int.natAbs_natCast _
  rw [e2] at e
  exact Nat.eq_of_mul_eq_mul_right g (by rw [e, Nat.one_mul])
theorem cop_uniq {u v u' v' : Int} (h : 0 < v) (h' : 0 < v') (c : Int.gcd u v = 1) (c' : Int.gcd u' v' = 1) (e : u * v' = u' * v) : u = u' ∧ v = v' := by
  have d1 : v.natAbs ∣ v'.natAbs := by
    have : v ∣ u * v' := by rw [e]; exact Int.dvd_mul_left _ _
    have := Int.natAbs_dvd_natAbs.mpr this
    rw [Int.natAbs_mul] at this
    exact Nat.Coprime.dvd_of_dvd_mul_left (Nat.coprime_comm.mp c) this
  have d2 : v'.natAbs ∣ v.natAbs := by
    have : v' ∣ u' * v := by rw [← e]; exact Int.dvd_mul_left _ _
    have := Int.natAbs_dvd_natAbs.mpr this
    rw [Int.natAbs_mul] at this
    exact Nat.Coprime.dvd_of_dvd_mul_left (Nat.coprime_comm.mp c') this
  have e1 := Nat.dvd_antisymm d1 d2
  have e2 : v = v' := by omega
  subst e2
  exact ⟨Int.eq_of_mul_eq_mul_right (by omega) e, rfl⟩
theorem lo_uniq {t b t' b' : Int} (h : 0 < b) (h' : 0 < b') (e : t * b' = t' * b) : lo t b = lo t' b' := by
  have c1 := lo_cross t b
  have c2 := lo_cross t' b'
  have key : (lo t b).1 * (lo t' b').2 = (lo t' b').1 * (lo t b).2 := by
    have z : b * b' ≠ 0 := Int.ne_of_gt (Int.mul_pos h h')
    refine Int.eq_of_mul_eq_mul_right z ?_
    calc (lo t b).1 * (lo t' b').2 * (b * b') = ((lo t b).1 * b) * ((lo t' b').2 * b') := by rw [Int.mul_assoc, Int.mul_assoc, Int.mul_left_comm (lo t' b').2]
      _ = (t * (lo t b).2) * ((lo t' b').2 * b') := by rw [c1]
      _ = (t * b') * ((lo t b).2 * (lo t' b').2) := by rw [Int.mul_assoc, Int.mul_assoc, Int.mul_comm (lo t' b').2 b', Int.mul_left_comm (lo t b).2]
      _ = (t' * b) * ((lo t b).2 * (lo t' b').2) := by rw [e]
      _ = (t' * (lo t' b').2) * ((lo t b).2 * b) := by rw [Int.mul_assoc, Int.mul_assoc, Int.mul_comm (lo t b).2 b, Int.mul_left_comm (lo t' b').2, Int.mul_comm (lo t b).2 (lo t' b').2]
      _ = ((lo t' b').1 * b') * ((lo t b).2 * b) := by rw [c2]
      _ = (lo t' b').1 * (lo t b).2 * (b * b') := by rw [Int.mul_assoc, Int.mul_assoc, Int.mul_left_comm b', Int.mul_comm b' b]
  obtain ⟨k1, k2⟩ := cop_uniq (lo_pos h) (lo_pos h') (lo_gcd h) (lo_gcd h') key
  exact Prod.ext k1 k2
theorem lo_one (t : Int) : lo t 1 = (t, 1) := by
  unfold lo
  rw [Int.gcd_one]
  simp
theorem lo_self {t b : Int} (h : Int.gcd t b = 1) : lo t b = (t, b) := by
  unfold lo
  rw [h]
  simp
theorem abs_le_mul {x g : Int} (h : 0 < g) : x.natAbs ≤ (x * g).natAbs := by
  rw [Int.natAbs_mul]
  exact Nat.le_mul_of_pos_right _ (by omega)
theorem lo_nb1 {n : Nat} {t b : Int} (h : 0 < b) (ht : nb n t) : nb n (lo t b).1 := by
  have g : (0 : Int) < (Int.gcd t b : Int) := by have := g_pos (t := t) h; omega
  have := abs_le_mul (x := (lo t b).1) g
  rw [lo_top] at this
  exact Nat.lt_of_le_of_lt this ht
theorem lo_nb2 {n : Nat} {t b : Int} (h : 0 < b) (hb : nb n b) : nb n (lo t b).2 := by
  have g : (0 : Int) < (Int.gcd t b : Int) := by have := g_pos (t := t) h; omega
  have := abs_le_mul (x := (lo t b).2) g
  rw [lo_bot] at this
  exact Nat.lt_of_le_of_lt this hb
theorem frD_uniq {t b t' b' : Int} (h : 0 < b) (h' : 0 < b') (e : t * b' = t' * b) : frD t b = frD t' b' := by
  unfold frD
  rw [lo_uniq h h' e]
section
variable {K : PySem.W.Frag}
theorem b_is_int : ∀ d0 M Q E, sp_is_int K [d0] M Q E → g_is_int K { nx := fun _ M => Q .non M, rt := Q, ex := fun x _ M => E x M } [some d0] M := by
  rintro d0 M Q E ⟨k, h, q⟩
  unfold g_is_int
  (try dsimp only [q_op, q_un, q_var, q_c, q_nil, q_cons, q_tup, q_frz, q_cel, q_lst, q_test, q_onB, q_and, q_or, q_not, q_andV, q_orV, q_notV, q_if, q_chain, q_next, q_seq, q_drop, q_ret, q_retF, q_retN, q_sif, q_break, q_cont, q_name, q_dnil, q_dcons, q_dtup, q_asg, q_set, q_par, q_for, q_range1, q_range2, q_iseq, q_ienum, q_call, q_cb, q_ncb, q_nop, q_lenset, q_mt, q_mt0, q_setix, q_augs, q_aug, q_nsl, q_onone, q_osome, q_gsl, q_raise, q_raiseF, q_try, q_lc, q_lc2, q_yes, q_wipe0, q_wipe, q_xf, q_I, q_I0, q_U, q_add, q_addT, q_addL, q_addR, q_onL, q_onSt, q_onSl, q_onSs, q_onSrct, q_onSrcl, q_eqI, q_eqB, q_eqS, q_eqN, q_isN, q_ix, q_ixL, q_in, q_len, q_sum, q_max, q_min, q_max2, q_min2, q_abs, q_int, q_intB, q_tupof, q_lstof, q_sort, q_rep, q_cat, q_isi, q_isis, q_setat, q_onC, q_append, q_pop, q_popAt, q_reverse, q_insert, q_sp1, q_sp2, q_sp3, q_sp4, q_at0, q_atS, q_st0, q_stS, q_iteT, q_iteF, q_isB, q_sumS, q_all, q_any, q_repT, q_spV, q_nLcX, q_sFz, q_gFld, q_sFldD, q_gMake, q_gCallI, q_gMeth, q_iOwnF, q_isO, q_gIxI, q_lenO, q_modN, q_divmod, q_gSMeth, q_dtupA, q_dtupAL, q_gRevD, q_revT, q_revL, q_gCallKw, q_eqO, q_gCallVS, q_gOpO, q_gUnO, q_gCMeth, q_gMakeV, q_gSlot, q_gMakeS, q_sSlot, q_gMethS, q_isS, q_lc3, q_tru, q_onTl, q_onTt, q_onTb, q_onTi, q_onTn, q_lstRev, q_lstRg2, q_lstRg1, q_prop, q_inO, q_gOpL, q_neO, q_gOpN, q_lstZip, q_repr, q_isXT])
  refine ⟨k, _, h, rfl, ?_⟩
  (try dsimp only [q_op, q_un, q_var, q_c, q_nil, q_cons, q_tup, q_frz, q_cel, q_lst, q_test, q_onB, q_and, q_or, q_not, q_andV, q_orV, q_notV, q_if, q_chain, q_next, q_seq, q_drop, q_ret, q_retF, q_retN, q_sif, q_break, q_cont, q_name, q_dnil, q_dcons, q_dtup, q_asg, q_set, q_par, q_for, q_range1, q_range2, q_iseq, q_ienum, q_call, q_cb, q_ncb, q_nop, q_lenset, q_mt, q_mt0, q_setix, q_augs, q_aug, q_nsl, q_onone, q_osome, q_gsl, q_raise, q_raiseF, q_try, q_lc, q_lc2, q_yes, q_wipe0, q_wipe, q_xf, q_I, q_I0, q_U, q_add, q_addT, q_addL, q_addR, q_onL, q_onSt, q_onSl, q_onSs, q_onSrct, q_onSrcl, q_eqI, q_eqB, q_eqS, q_eqN, q_isN, q_ix, q_ixL, q_in, q_len, q_sum, q_max, q_min, q_max2, q_min2, q_abs, q_int, q_intB, q_tupof, q_lstof, q_sort, q_rep, q_cat, q_isi, q_isis, q_setat, q_onC, q_append, q_pop, q_popAt, q_reverse, q_insert, q_sp1, q_sp2, q_sp3, q_sp4, q_at0, q_atS, q_st0, q_stS, q_iteT, q_iteF, q_isB, q_sumS, q_all, q_any, q_repT, q_spV, q_nLcX, q_sFz, q_gFld, q_sFldD, q_gMake, q_gCallI, q_gMeth, q_iOwnF, q_isO, q_gIxI, q_lenO, q_modN, q_divmod, q_gSMeth, q_dtupA, q_dtupAL, q_gRevD, q_revT, q_revL, q_gCallKw, q_eqO, q_gCallVS, q_gOpO, q_gUnO, q_gCMeth, q_gMakeV, q_gSlot, q_gMakeS, q_sSlot, q_gMethS, q_isS, q_lc3, q_tru, q_onTl, q_onTt, q_onTb, q_onTi, q_onTn, q_lstRev, q_lstRg2, q_lstRg1, q_prop, q_inO, q_gOpL, q_neO, q_gOpN, q_lstZip, q_repr, q_isXT])
  cases k
  all_goals first
    | (rw [if_neg (by decide)]; exact q)
    | (rw [if_pos (by decide)]; exact ⟨_, _, h, rfl, q⟩)
theorem b__law_int : ∀ d0 M Q E, sp__law_int K [d0] M Q E → g__law_int K { nx := fun _ M => Q .non M, rt := Q, ex := fun x _ M => E x M } [some d0] M := b_is_int (K := K)
theorem b_is_row : ∀ d0 M Q E, sp_is_row K [d0] M Q E → g_is_row K { nx := fun _ M => Q .non M, rt := Q, ex := fun x _ M => E x M } [some d0] M := by
  rintro d0 M Q E ⟨k, h, q⟩
  refine ⟨by show 2 ≤ sizeLine; decide, k, _, h, ?_, ⟨["list", "tuple"], rfl⟩, q⟩
  cases k <;> decide +kernel
theorem b__law_take : ∀ d0 d1 M Q E, sp__law_take K [d0, d1] M Q E → g__law_take K { nx := fun _ M => Q .non M, rt := Q, ex := fun x _ M => E x M } [some d0, some d1] M := by
  rintro d0 d1 M Q E ⟨p, n, rfl, rfl, hn, ⟨xs, hM⟩, q⟩
  unfold g__law_take
  (try dsimp only [q_op, q_un, q_var, q_c, q_nil, q_cons, q_tup, q_frz, q_cel, q_lst, q_test, q_onB, q_and, q_or, q_not, q_andV, q_orV, q_notV, q_if, q_chain, q_next, q_seq, q_drop, q_ret, q_retF, q_retN, q_sif, q_break, q_cont, q_name, q_dnil, q_dcons, q_dtup, q_asg, q_set, q_par, q_for, q_range1, q_range2, q_iseq, q_ienum, q_call, q_cb, q_ncb, q_nop, q_lenset, q_mt, q_mt0, q_setix, q_augs, q_aug, q_nsl, q_onone, q_osome, q_gsl, q_raise, q_raiseF, q_try, q_lc, q_lc2, q_yes, q_wipe0, q_wipe, q_xf, q_I, q_I0, q_U, q_add, q_addT, q_addL, q_addR, q_onL, q_onSt, q_onSl, q_onSs, q_onSrct, q_onSrcl, q_eqI, q_eqB, q_eqS, q_eqN, q_isN, q_ix, q_ixL, q_in, q_len, q_sum, q_max, q_min, q_max2, q_min2, q_abs, q_int, q_intB, q_tupof, q_lstof, q_sort, q_rep, q_cat, q_isi, q_isis, q_setat, q_onC, q_append, q_pop, q_popAt, q_reverse, q_insert, q_sp1, q_sp2, q_sp3, q_sp4, q_at0, q_atS, q_st0, q_stS, q_iteT, q_iteF, q_isB, q_sumS, q_all, q_any, q_repT, q_spV, q_nLcX, q_sFz, q_gFld, q_sFldD, q_gMake, q_gCallI, q_gMeth, q_iOwnF, q_isO, q_gIxI, q_lenO, q_modN, q_divmod, q_gSMeth, q_dtupA, q_dtupAL, q_gRevD, q_revT, q_revL, q_gCallKw, q_eqO, q_gCallVS, q_gOpO, q_gUnO, q_gCMeth, q_gMakeV, q_gSlot, q_gMakeS, q_sSlot, q_gMethS, q_isS, q_lc3, q_tru, q_onTl, q_onTt, q_onTb, q_onTi, q_onTn, q_lstRev, q_lstRg2, q_lstRg1, q_prop, q_inO, q_gOpL, q_neO, q_gOpN, q_lstZip, q_repr, q_isXT])
  refine RowD.onS (RowD.ref hM) ?_
  (try dsimp only [q_op, q_un, q_var, q_c, q_nil, q_cons, q_tup, q_frz, q_cel, q_lst, q_test, q_onB, q_and, q_or, q_not, q_andV, q_orV, q_notV, q_if, q_chain, q_next, q_seq, q_drop, q_ret, q_retF, q_retN, q_sif, q_break, q_cont, q_name, q_dnil, q_dcons, q_dtup, q_asg, q_set, q_par, q_for, q_range1, q_range2, q_iseq, q_ienum, q_call, q_cb, q_ncb, q_nop, q_lenset, q_mt, q_mt0, q_setix, q_augs, q_aug, q_nsl, q_onone, q_osome, q_gsl, q_raise, q_raiseF, q_try, q_lc, q_lc2, q_yes, q_wipe0, q_wipe, q_xf, q_I, q_I0, q_U, q_add, q_addT, q_addL, q_addR, q_onL, q_onSt, q_onSl, q_onSs, q_onSrct, q_onSrcl, q_eqI, q_eqB, q_eqS, q_eqN, q_isN, q_ix, q_ixL, q_in, q_len, q_sum, q_max, q_min, q_max2, q_min2, q_abs, q_int, q_intB, q_tupof, q_lstof, q_sort, q_rep, q_cat, q_isi, q_isis, q_setat, q_onC, q_append, q_pop, q_popAt, q_reverse, q_insert, q_sp1, q_sp2, q_sp3, q_sp4, q_at0, q_atS, q_st0, q_stS, q_iteT, q_iteF, q_isB, q_sumS, q_all, q_any, q_repT, q_spV, q_nLcX, q_sFz, q_gFld, q_sFldD, q_gMake, q_gCallI, q_gMeth, q_iOwnF, q_isO, q_gIxI, q_lenO, q_modN, q_divmod, q_gSMeth, q_dtupA, q_dtupAL, q_gRevD, q_revT, q_revL, q_gCallKw, q_eqO, q_gCallVS, q_gOpO, q_gUnO, q_gCMeth, q_gMakeV, q_gSlot, q_gMakeS, q_sSlot, q_gMethS, q_isS, q_lc3, q_tru, q_onTl, q_onTt, q_onTb, q_onTi, q_onTn, q_lstRev, q_lstRg2, q_lstRg1, q_prop, q_inO, q_gOpL, q_neO, q_gOpN, q_lstZip, q_repr, q_isXT])
  by_cases h : xs = []
  · subst h
    rw [if_pos (by decide)]
    have := q 0 [] (by omega) hn
    rw [mset_id hM] at this
    exact this
  · have hl : 0 < xs.length := List.length_pos_iff.mpr h
    rw [if_neg (by simp; omega)]
    refine ⟨onL_ref hM trivial, _, hM, .int (xs.getD (xs.length - 1) 0), ?_, ?_⟩
    · simp [List.getD, show xs.length - 1 < xs.length by omega]
    · (try dsimp only [q_op, q_un, q_var, q_c, q_nil, q_cons, q_tup, q_frz, q_cel, q_lst, q_test, q_onB, q_and, q_or, q_not, q_andV, q_orV, q_notV, q_if, q_chain, q_next, q_seq, q_drop, q_ret, q_retF, q_retN, q_sif, q_break, q_cont, q_name, q_dnil, q_dcons, q_dtup, q_asg, q_set, q_par, q_for, q_range1, q_range2, q_iseq, q_ienum, q_call, q_cb, q_ncb, q_nop, q_lenset, q_mt, q_mt0, q_setix, q_augs, q_aug, q_nsl, q_onone, q_osome, q_gsl, q_raise, q_raiseF, q_try, q_lc, q_lc2, q_yes, q_wipe0, q_wipe, q_xf, q_I, q_I0, q_U, q_add, q_addT, q_addL, q_addR, q_onL, q_onSt, q_onSl, q_onSs, q_onSrct, q_onSrcl, q_eqI, q_eqB, q_eqS, q_eqN, q_isN, q_ix, q_ixL, q_in, q_len, q_sum, q_max, q_min, q_max2, q_min2, q_abs, q_int, q_intB, q_tupof, q_lstof, q_sort, q_rep, q_cat, q_isi, q_isis, q_setat, q_onC, q_append, q_pop, q_popAt, q_reverse, q_insert, q_sp1, q_sp2, q_sp3, q_sp4, q_at0, q_atS, q_st0, q_stS, q_iteT, q_iteF, q_isB, q_sumS, q_all, q_any, q_repT, q_spV, q_nLcX, q_sFz, q_gFld, q_sFldD, q_gMake, q_gCallI, q_gMeth, q_iOwnF, q_isO, q_gIxI, q_lenO, q_modN, q_divmod, q_gSMeth, q_dtupA, q_dtupAL, q_gRevD, q_revT, q_revL, q_gCallKw, q_eqO, q_gCallVS, q_gOpO, q_gUnO, q_gCMeth, q_gMakeV, q_gSlot, q_gMakeS, q_sSlot, q_gMethS, q_isS, q_lc3, q_tru, q_onTl, q_onTt, q_onTb, q_onTi, q_onTn, q_lstRev, q_lstRg2, q_lstRg1, q_prop, q_inO, q_gOpL, q_neO, q_gOpN, q_lstZip, q_repr, q_isXT])
      refine ⟨hn, ?_⟩
      have e : (iD xs).dropLast = iD xs.dropLast := by
        rw [List.dropLast_eq_take, List.dropLast_eq_take]
        simp [List.map_take]
      rw [e]
      exact q _ _ (Int.emod_nonneg _ (by omega)) (Int.emod_lt_of_pos _ hn)
theorem kind_kd {M : Mem} {d : D} (h : kindB d = true) : ∃ k, kdOf M d = some k ∧ ((k == .int) = true ↔ ∃ i, d = .int i) := by
  cases d <;> first
    | (cases h; done)
    | exact ⟨_, rfl, by constructor <;> (intro z; first | (cases z; done) | (obtain ⟨_, z⟩ := z; cases z; done) | rfl | exact ⟨_, rfl⟩)⟩
theorem if_f {c : Bool} {A B : Prop} (h : c = false) (b : B) : if c = true then A else B := by rw [h, if_neg Bool.false_ne_true]; exact b
theorem if_t {c : Bool} {A B : Prop} (h : c = true) (a : A) : if c = true then A else B := by rw [h, if_pos rfl]; exact a
theorem not_row {t : Kd} (h1 : t ≠ .tuple) (h2 : t ≠ .list) : (t == Kd.tuple || t == Kd.list) = false := by
  cases t <;> first | rfl | (exact absurd rfl h1) | exact absurd rfl h2
theorem row_kd {M : Mem} {d : D} {xs : List D} (row : RowD M d xs) : ∃ k, kdOf M d = some k ∧ (k == Kd.tuple || k == .list) = true := by
  rcases row.kd with z | z
  · exact ⟨_, z, rfl⟩
  · exact ⟨_, z, rfl⟩
end
section
variable {K : PySem.W.Frag}
theorem atI_iD {ns : List Int} {i : Nat} (h : i < ns.length) : atI (iD ns) ((i : Nat) : Int) = some (.int (ns.getD i 0)) := by
  rw [atI_nat (by simpa using h)]
  simp [List.getD, h]
theorem add_ll {a b : List D} {M : Mem} {Q : DVK} (h : a.length + b.length ≤ 16777216) (q : Q (.lst (a ++ b)) M) : dAdd (.lst a) (.lst b) M Q := ⟨by rw [sz]; exact h, q⟩
theorem cut_take {α : Type} (xs : List α) {i : Nat} (h : i ≤ xs.length) : DL.cutD xs none (some ((i : Nat) : Int)) = xs.take i := by
  unfold DL.cutD
  have e1 : HT.sIx xs.length 0 none = 0 := rfl
  have e2 : HT.sIx xs.length xs.length (some ((i : Nat) : Int)) = i := by rw [HT.sIx_nat]; omega
  rw [e1, e2]
  simp
theorem cut_drop {α : Type} (xs : List α) (i : Nat) : DL.cutD xs (some ((i : Nat) : Int)) none = xs.drop i := by
  unfold DL.cutD
  have e1 : HT.sIx xs.length 0 (some ((i : Nat) : Int)) = min i xs.length := HT.sIx_nat ..
  have e2 : HT.sIx xs.length xs.length none = xs.length := rfl
  rw [e1, e2]
  by_cases c : i ≤ xs.length
  · rw [Nat.min_eq_left c, List.take_of_length_le (by rw [List.length_drop]; omega)]
  · rw [Nat.min_eq_right (by omega), List.drop_of_length_le (Nat.le_refl _), List.drop_of_length_le (by omega)]
    simp
theorem atI_last {α : Type} (l : List α) (x : α) : atI (l ++ [x]) (-1) = some x := by
  have e : ixN (l ++ [x]).length (-1) = some l.length := by
    unfold ixN
    rw [List.length_append, List.length_singleton, if_neg (by omega), if_pos (by omega)]
    congr 1
    omega
  unfold atI
  rw [e]
  simp
end
section
variable {K : PySem.W.Frag}
end
section
variable {K : PySem.W.Frag}
theorem abs_D (x : Int) : (if x < 0 then -x else x) = ((x.natAbs : Nat) : Int) := by split <;> omega
theorem b_common_divisor : ∀ d0 M Q E, sp_common_divisor K [d0] M Q E → g_common_divisor K { nx := fun _ M => Q .non M, rt := Q, ex := fun x _ M => E x M } [some d0, none, none, none] M := by
  rintro d0 M Q E ⟨ns, row, hn, q⟩
  unfold g_common_divisor
  dsimp only [q_op, q_un, q_var, q_c, q_nil, q_cons, q_tup, q_frz, q_cel, q_lst, q_test, q_onB, q_and, q_or, q_not, q_andV, q_orV, q_notV, q_if, q_chain, q_next, q_seq, q_drop, q_ret, q_retF, q_retN, q_sif, q_break, q_cont, q_name, q_dnil, q_dcons, q_dtup, q_asg, q_set, q_par, q_for, q_range1, q_range2, q_iseq, q_ienum, q_call, q_cb, q_ncb, q_nop, q_lenset, q_mt, q_mt0, q_setix, q_augs, q_aug, q_nsl, q_onone, q_osome, q_gsl, q_raise, q_raiseF, q_try, q_lc, q_lc2, q_yes, q_wipe0, q_wipe, q_xf, q_I, q_I0, q_U, q_add, q_addT, q_addL, q_addR, q_onL, q_onSt, q_onSl, q_onSs, q_onSrct, q_onSrcl, q_eqI, q_eqB, q_eqS, q_eqN, q_isN, q_ix, q_ixL, q_in, q_len, q_sum, q_max, q_min, q_max2, q_min2, q_abs, q_int, q_intB, q_tupof, q_lstof, q_sort, q_rep, q_cat, q_isi, q_isis, q_setat, q_onC, q_append, q_pop, q_popAt, q_reverse, q_insert, q_sp1, q_sp2, q_sp3, q_sp4, q_at0, q_atS, q_st0, q_stS, q_iteT, q_iteF, q_isB, q_sumS, q_all, q_any, q_repT, q_spV, q_nLcX, q_sFz, q_gFld, q_sFldD, q_gMake, q_gCallI, q_gMeth, q_iOwnF, q_isO, q_gIxI, q_lenO, q_modN, q_divmod, q_gSMeth, q_dtupA, q_dtupAL, q_gRevD, q_revT, q_revL, q_gCallKw, q_eqO, q_gCallVS, q_gOpO, q_gUnO, q_gCMeth, q_gMakeV, q_gSlot, q_gMakeS, q_sSlot, q_gMethS, q_isS, q_lc3, q_tru, q_onTl, q_onTt, q_onTb, q_onTi, q_onTn, q_lstRev, q_lstRg2, q_lstRg1, q_prop, q_inO, q_gOpL, q_neO, q_gOpN, q_lstZip, q_repr, q_isXT]
  show onSrc M d0 _
  refine row.onSrc fun ok ho ho2 => ?_
  refine loop_map D.int ns (fun s ρ M' => (∃ a b, ρ = [some d0, some (.int (gcdL (ns.take s) : Nat)), a, b]) ∧ M' = M) (fun i ρ M' _ ⟨_, e⟩ => by rw [e]; exact ho) ?_ ?_ ⟨⟨_, _, rfl⟩, rfl⟩
  · rintro s x ρ M' hx ⟨⟨a, b, rfl⟩, rfl⟩ Nx hN
    have hs := (List.getElem?_eq_some_iff.mp hx).1
    have nx := hn x (List.mem_of_getElem? hx)
    have et : ns.take (s + 1) = ns.take s ++ [x] := by rw [List.take_succ, hx]; rfl
    (try dsimp only [q_op, q_un, q_var, q_c, q_nil, q_cons, q_tup, q_frz, q_cel, q_lst, q_test, q_onB, q_and, q_or, q_not, q_andV, q_orV, q_notV, q_if, q_chain, q_next, q_seq, q_drop, q_ret, q_retF, q_retN, q_sif, q_break, q_cont, q_name, q_dnil, q_dcons, q_dtup, q_asg, q_set, q_par, q_for, q_range1, q_range2, q_iseq, q_ienum, q_call, q_cb, q_ncb, q_nop, q_lenset, q_mt, q_mt0, q_setix, q_augs, q_aug, q_nsl, q_onone, q_osome, q_gsl, q_raise, q_raiseF, q_try, q_lc, q_lc2, q_yes, q_wipe0, q_wipe, q_xf, q_I, q_I0, q_U, q_add, q_addT, q_addL, q_addR, q_onL, q_onSt, q_onSl, q_onSs, q_onSrct, q_onSrcl, q_eqI, q_eqB, q_eqS, q_eqN, q_isN, q_ix, q_ixL, q_in, q_len, q_sum, q_max, q_min, q_max2, q_min2, q_abs, q_int, q_intB, q_tupof, q_lstof, q_sort, q_rep, q_cat, q_isi, q_isis, q_setat, q_onC, q_append, q_pop, q_popAt, q_reverse, q_insert, q_sp1, q_sp2, q_sp3, q_sp4, q_at0, q_atS, q_st0, q_stS, q_iteT, q_iteF, q_isB, q_sumS, q_all, q_any, q_repT, q_spV, q_nLcX, q_sFz, q_gFld, q_sFldD, q_gMake, q_gCallI, q_gMeth, q_iOwnF, q_isO, q_gIxI, q_lenO, q_modN, q_divmod, q_gSMeth, q_dtupA, q_dtupAL, q_gRevD, q_revT, q_revL, q_gCallKw, q_eqO, q_gCallVS, q_gOpO, q_gUnO, q_gCMeth, q_gMakeV, q_gSlot, q_gMakeS, q_sSlot, q_gMethS, q_isS, q_lc3, q_tru, q_onTl, q_onTt, q_onTb, q_onTi, q_onTn, q_lstRev, q_lstRg2, q_lstRg1, q_prop, q_inO, q_gOpL, q_neO, q_gOpN, q_lstZip, q_repr, q_isXT])
    rw [abs_D]
    refine ⟨fun m ρ M2 => (∃ d r : Nat, ρ = [some d0, some (.int (d : Nat)), some (.int x), some (.int (r : Nat))] ∧ Nat.gcd d r = Nat.gcd (gcdL (ns.take s)) x.natAbs ∧ r = m ∧ nb 4000 (r : Nat)) ∧ M2 = M', ⟨x.natAbs, ⟨_, _, rfl, rfl, rfl, ?_⟩, rfl⟩, ?_⟩
    · unfold nb
      rw [Int.natAbs_natCast]
      exact nx
    rintro m ρ M2 ⟨⟨d, r, rfl, hg, rfl, hr⟩, rfl⟩
    (try dsimp only [q_op, q_un, q_var, q_c, q_nil, q_cons, q_tup, q_frz, q_cel, q_lst, q_test, q_onB, q_and, q_or, q_not, q_andV, q_orV, q_notV, q_if, q_chain, q_next, q_seq, q_drop, q_ret, q_retF, q_retN, q_sif, q_break, q_cont, q_name, q_dnil, q_dcons, q_dtup, q_asg, q_set, q_par, q_for, q_range1, q_range2, q_iseq, q_ienum, q_call, q_cb, q_ncb, q_nop, q_lenset, q_mt, q_mt0, q_setix, q_augs, q_aug, q_nsl, q_onone, q_osome, q_gsl, q_raise, q_raiseF, q_try, q_lc, q_lc2, q_yes, q_wipe0, q_wipe, q_xf, q_I, q_I0, q_U, q_add, q_addT, q_addL, q_addR, q_onL, q_onSt, q_onSl, q_onSs, q_onSrct, q_onSrcl, q_eqI, q_eqB, q_eqS, q_eqN, q_isN, q_ix, q_ixL, q_in, q_len, q_sum, q_max, q_min, q_max2, q_min2, q_abs, q_int, q_intB, q_tupof, q_lstof, q_sort, q_rep, q_cat, q_isi, q_isis, q_setat, q_onC, q_append, q_pop, q_popAt, q_reverse, q_insert, q_sp1, q_sp2, q_sp3, q_sp4, q_at0, q_atS, q_st0, q_stS, q_iteT, q_iteF, q_isB, q_sumS, q_all, q_any, q_repT, q_spV, q_nLcX, q_sFz, q_gFld, q_sFldD, q_gMake, q_gCallI, q_gMeth, q_iOwnF, q_isO, q_gIxI, q_lenO, q_modN, q_divmod, q_gSMeth, q_dtupA, q_dtupAL, q_gRevD, q_revT, q_revL, q_gCallKw, q_eqO, q_gCallVS, q_gOpO, q_gUnO, q_gCMeth, q_gMakeV, q_gSlot, q_gMakeS, q_sSlot, q_gMethS, q_isS, q_lc3, q_tru, q_onTl, q_onTt, q_onTb, q_onTi, q_onTn, q_lstRev, q_lstRg2, q_lstRg1, q_prop, q_inO, q_gOpL, q_neO, q_gOpN, q_lstZip, q_repr, q_isXT])
    by_cases c : r = 0
    · subst c
      refine if_f (by rfl) (hN _ _ ⟨⟨some (.int x), some (.int ((0 : Nat) : Int)), ?_⟩, rfl⟩)
      rw [et, gcdL_snoc, ← hg, Nat.gcd_zero_right]
    · refine if_t (decide_eq_true (by omega)) ⟨by omega, d % r, Nat.mod_lt _ (by omega), ⟨r, d % r, rfl, ?_, rfl, ?_⟩, rfl⟩
      · rw [← hg, Nat.gcd_comm d r, Nat.gcd_rec r d, Nat.gcd_comm]
      · unfold nb at *
        rw [Int.natAbs_natCast] at hr ⊢
        have := Nat.mod_lt d (show r > 0 by omega)
        omega
  · rintro ρ M' ⟨⟨a, b, rfl⟩, rfl⟩
    rw [List.take_length]
    (try dsimp only [q_op, q_un, q_var, q_c, q_nil, q_cons, q_tup, q_frz, q_cel, q_lst, q_test, q_onB, q_and, q_or, q_not, q_andV, q_orV, q_notV, q_if, q_chain, q_next, q_seq, q_drop, q_ret, q_retF, q_retN, q_sif, q_break, q_cont, q_name, q_dnil, q_dcons, q_dtup, q_asg, q_set, q_par, q_for, q_range1, q_range2, q_iseq, q_ienum, q_call, q_cb, q_ncb, q_nop, q_lenset, q_mt, q_mt0, q_setix, q_augs, q_aug, q_nsl, q_onone, q_osome, q_gsl, q_raise, q_raiseF, q_try, q_lc, q_lc2, q_yes, q_wipe0, q_wipe, q_xf, q_I, q_I0, q_U, q_add, q_addT, q_addL, q_addR, q_onL, q_onSt, q_onSl, q_onSs, q_onSrct, q_onSrcl, q_eqI, q_eqB, q_eqS, q_eqN, q_isN, q_ix, q_ixL, q_in, q_len, q_sum, q_max, q_min, q_max2, q_min2, q_abs, q_int, q_intB, q_tupof, q_lstof, q_sort, q_rep, q_cat, q_isi, q_isis, q_setat, q_onC, q_append, q_pop, q_popAt, q_reverse, q_insert, q_sp1, q_sp2, q_sp3, q_sp4, q_at0, q_atS, q_st0, q_stS, q_iteT, q_iteF, q_isB, q_sumS, q_all, q_any, q_repT, q_spV, q_nLcX, q_sFz, q_gFld, q_sFldD, q_gMake, q_gCallI, q_gMeth, q_iOwnF, q_isO, q_gIxI, q_lenO, q_modN, q_divmod, q_gSMeth, q_dtupA, q_dtupAL, q_gRevD, q_revT, q_revL, q_gCallKw, q_eqO, q_gCallVS, q_gOpO, q_gUnO, q_gCMeth, q_gMakeV, q_gSlot, q_gMakeS, q_sSlot, q_gMethS, q_isS, q_lc3, q_tru, q_onTl, q_onTt, q_onTb, q_onTi, q_onTn, q_lstRev, q_lstRg2, q_lstRg1, q_prop, q_inO, q_gOpL, q_neO, q_gOpN, q_lstZip, q_repr, q_isXT])
    exact q
theorem nb_gcd {n : Nat} {t b : Int} (h : 0 < b) (hb : nb n b) : nb n (Int.gcd t b : Nat) := by
  have : Int.gcd t b ≤ b.natAbs := Nat.gcd_le_right _ (by omega)
  unfold nb at *
  rw [Int.natAbs_natCast]
  omega
theorem b_lowest : ∀ d0 d1 M Q E, sp_lowest K [d0, d1] M Q E → g_lowest K { nx := fun _ M => Q .non M, rt := Q, ex := fun x _ M => E x M } [some d0, some d1, none] M := by
  rintro d0 d1 M Q E ⟨t, b, rfl, rfl, hb, n1, n2, q⟩
  unfold g_lowest
  dsimp only [q_op, q_un, q_var, q_c, q_nil, q_cons, q_tup, q_frz, q_cel, q_lst, q_test, q_onB, q_and, q_or, q_not, q_andV, q_orV, q_notV, q_if, q_chain, q_next, q_seq, q_drop, q_ret, q_retF, q_retN, q_sif, q_break, q_cont, q_name, q_dnil, q_dcons, q_dtup, q_asg, q_set, q_par, q_for, q_range1, q_range2, q_iseq, q_ienum, q_call, q_cb, q_ncb, q_nop, q_lenset, q_mt, q_mt0, q_setix, q_augs, q_aug, q_nsl, q_onone, q_osome, q_gsl, q_raise, q_raiseF, q_try, q_lc, q_lc2, q_yes, q_wipe0, q_wipe, q_xf, q_I, q_I0, q_U, q_add, q_addT, q_addL, q_addR, q_onL, q_onSt, q_onSl, q_onSs, q_onSrct, q_onSrcl, q_eqI, q_eqB, q_eqS, q_eqN, q_isN, q_ix, q_ixL, q_in, q_len, q_sum, q_max, q_min, q_max2, q_min2, q_abs, q_int, q_intB, q_tupof, q_lstof, q_sort, q_rep, q_cat, q_isi, q_isis, q_setat, q_onC, q_append, q_pop, q_popAt, q_reverse, q_insert, q_sp1, q_sp2, q_sp3, q_sp4, q_at0, q_atS, q_st0, q_stS, q_iteT, q_iteF, q_isB, q_sumS, q_all, q_any, q_repT, q_spV, q_nLcX, q_sFz, q_gFld, q_sFldD, q_gMake, q_gCallI, q_gMeth, q_iOwnF, q_isO, q_gIxI, q_lenO, q_modN, q_divmod, q_gSMeth, q_dtupA, q_dtupAL, q_gRevD, q_revT, q_revL, q_gCallKw, q_eqO, q_gCallVS, q_gOpO, q_gUnO, q_gCMeth, q_gMakeV, q_gSlot, q_gMakeS, q_sSlot, q_gMethS, q_isS, q_lc3, q_tru, q_onTl, q_onTt, q_onTb, q_onTi, q_onTn, q_lstRev, q_lstRg2, q_lstRg1, q_prop, q_inO, q_gOpL, q_neO, q_gOpN, q_lstZip, q_repr, q_isXT, sp_common_divisor]
  have g0 : (0 : Int) < (Int.gcd t b : Nat) := by have := g_pos (t := t) hb; omega
  refine ⟨by rw [sz]; show 2 ≤ 16777216; omega, [t, b], RowD.tup, fun a ha => ?_, ?_⟩
  · rcases List.mem_cons.mp ha with rfl | ha
    · exact nb_mono n1 (by decide)
    · rw [List.mem_singleton.mp ha]
      exact nb_mono n2 (by decide)
  rw [gcdL_two]
  (try dsimp only [q_op, q_un, q_var, q_c, q_nil, q_cons, q_tup, q_frz, q_cel, q_lst, q_test, q_onB, q_and, q_or, q_not, q_andV, q_orV, q_notV, q_if, q_chain, q_next, q_seq, q_drop, q_ret, q_retF, q_retN, q_sif, q_break, q_cont, q_name, q_dnil, q_dcons, q_dtup, q_asg, q_set, q_par, q_for, q_range1, q_range2, q_iseq, q_ienum, q_call, q_cb, q_ncb, q_nop, q_lenset, q_mt, q_mt0, q_setix, q_augs, q_aug, q_nsl, q_onone, q_osome, q_gsl, q_raise, q_raiseF, q_try, q_lc, q_lc2, q_yes, q_wipe0, q_wipe, q_xf, q_I, q_I0, q_U, q_add, q_addT, q_addL, q_addR, q_onL, q_onSt, q_onSl, q_onSs, q_onSrct, q_onSrcl, q_eqI, q_eqB, q_eqS, q_eqN, q_isN, q_ix, q_ixL, q_in, q_len, q_sum, q_max, q_min, q_max2, q_min2, q_abs, q_int, q_intB, q_tupof, q_lstof, q_sort, q_rep, q_cat, q_isi, q_isis, q_setat, q_onC, q_append, q_pop, q_popAt, q_reverse, q_insert, q_sp1, q_sp2, q_sp3, q_sp4, q_at0, q_atS, q_st0, q_stS, q_iteT, q_iteF, q_isB, q_sumS, q_all, q_any, q_repT, q_spV, q_nLcX, q_sFz, q_gFld, q_sFldD, q_gMake, q_gCallI, q_gMeth, q_iOwnF, q_isO, q_gIxI, q_lenO, q_modN, q_divmod, q_gSMeth, q_dtupA, q_dtupAL, q_gRevD, q_revT, q_revL, q_gCallKw, q_eqO, q_gCallVS, q_gOpO, q_gUnO, q_gCMeth, q_gMakeV, q_gSlot, q_gMakeS, q_sSlot, q_gMethS, q_isS, q_lc3, q_tru, q_onTl, q_onTt, q_onTb, q_onTi, q_onTn, q_lstRev, q_lstRg2, q_lstRg1, q_prop, q_inO, q_gOpL, q_neO, q_gOpN, q_lstZip, q_repr, q_isXT])
  exact ⟨cdiv g0 (nb_gcd hb n2), cdiv g0 (nb_gcd hb n2), by rw [sz]; show 2 ≤ 16777216; omega, q⟩
theorem euc_step {x y : Nat} (h : y < x) (h0 : 0 < y) : x % y < y ∧ 2 * (y * (x % y)) < x * y := by
  have h1 := Nat.mod_lt x h0
  have h2 : x % y + y ≤ x := by
    have e := Nat.div_add_mod x y
    have hd : 1 ≤ x / y := (Nat.le_div_iff_mul_le h0).mpr (by omega)
    have := Nat.mul_le_mul_left y hd
    omega
  refine ⟨h1, ?_⟩
  have h3 : 2 * (x % y) < x := by omega
  calc 2 * (y * (x % y)) = (2 * (x % y)) * y := by rw [Nat.mul_comm y, Nat.mul_assoc]
    _ < x * y := Nat.mul_lt_mul_of_pos_right h3 h0
theorem b__law_divisor : ∀ d0 d1 M Q E, sp__law_divisor K [d0, d1] M Q E → g__law_divisor K { nx := fun _ M => Q .non M, rt := Q, ex := fun x _ M => E x M } [some d0, some d1, none, none] M := by
  rintro d0 d1 M Q E ⟨x, y, rfl, rfl, hy, hn, q⟩
  unfold g__law_divisor
  dsimp only [q_op, q_un, q_var, q_c, q_nil, q_cons, q_tup, q_frz, q_cel, q_lst, q_test, q_onB, q_and, q_or, q_not, q_andV, q_orV, q_notV, q_if, q_chain, q_next, q_seq, q_drop, q_ret, q_retF, q_retN, q_sif, q_break, q_cont, q_name, q_dnil, q_dcons, q_dtup, q_asg, q_set, q_par, q_for, q_range1, q_range2, q_iseq, q_ienum, q_call, q_cb, q_ncb, q_nop, q_lenset, q_mt, q_mt0, q_setix, q_augs, q_aug, q_nsl, q_onone, q_osome, q_gsl, q_raise, q_raiseF, q_try, q_lc, q_lc2, q_yes, q_wipe0, q_wipe, q_xf, q_I, q_I0, q_U, q_add, q_addT, q_addL, q_addR, q_onL, q_onSt, q_onSl, q_onSs, q_onSrct, q_onSrcl, q_eqI, q_eqB, q_eqS, q_eqN, q_isN, q_ix, q_ixL, q_in, q_len, q_sum, q_max, q_min, q_max2, q_min2, q_abs, q_int, q_intB, q_tupof, q_lstof, q_sort, q_rep, q_cat, q_isi, q_isis, q_setat, q_onC, q_append, q_pop, q_popAt, q_reverse, q_insert, q_sp1, q_sp2, q_sp3, q_sp4, q_at0, q_atS, q_st0, q_stS, q_iteT, q_iteF, q_isB, q_sumS, q_all, q_any, q_repT, q_spV, q_nLcX, q_sFz, q_gFld, q_sFldD, q_gMake, q_gCallI, q_gMeth, q_iOwnF, q_isO, q_gIxI, q_lenO, q_modN, q_divmod, q_gSMeth, q_dtupA, q_dtupAL, q_gRevD, q_revT, q_revL, q_gCallKw, q_eqO, q_gCallVS, q_gOpO, q_gUnO, q_gCMeth, q_gMakeV, q_gSlot, q_gMakeS, q_sSlot, q_gMethS, q_isS, q_lc3, q_tru, q_onTl, q_onTt, q_onTb, q_onTi, q_onTn, q_lstRev, q_lstRg2, q_lstRg1, q_prop, q_inO, q_gOpL, q_neO, q_gOpN, q_lstZip, q_repr, q_isXT]
  refine ⟨by decide, ?_⟩
  rw [show ((4000 : Int).toNat) = 4000 by rfl]
  refine loop_rg0 (fun s ρ M' => (∃ (u v : Int) (a b : Option D), ρ = [some (.int u), some (.int v), a, b] ∧ Int.gcd u v = Int.gcd x y ∧ ((s = 0 ∧ u = x ∧ v = y) ∨ ∃ m n : Nat, u = m ∧ v = n ∧ 1 ≤ s ∧ s ≤ 3001 ∧ n < m ∧ m * n < 2 ^ (3001 - s) ∧ m < 2 ^ 1500)) ∧ M' = M) ?_ ?_ ⟨⟨x, y, none, none, rfl, rfl, .inl ⟨rfl, rfl, rfl⟩⟩, rfl⟩
  · rintro s ρ M' hs ⟨⟨u, v, a, b, rfl, hg, hc⟩, rfl⟩ Nx hN
    (try dsimp only [q_op, q_un, q_var, q_c, q_nil, q_cons, q_tup, q_frz, q_cel, q_lst, q_test, q_onB, q_and, q_or, q_not, q_andV, q_orV, q_notV, q_if, q_chain, q_next, q_seq, q_drop, q_ret, q_retF, q_retN, q_sif, q_break, q_cont, q_name, q_dnil, q_dcons, q_dtup, q_asg, q_set, q_par, q_for, q_range1, q_range2, q_iseq, q_ienum, q_call, q_cb, q_ncb, q_nop, q_lenset, q_mt, q_mt0, q_setix, q_augs, q_aug, q_nsl, q_onone, q_osome, q_gsl, q_raise, q_raiseF, q_try, q_lc, q_lc2, q_yes, q_wipe0, q_wipe, q_xf, q_I, q_I0, q_U, q_add, q_addT, q_addL, q_addR, q_onL, q_onSt, q_onSl, q_onSs, q_onSrct, q_onSrcl, q_eqI, q_eqB, q_eqS, q_eqN, q_isN, q_ix, q_ixL, q_in, q_len, q_sum, q_max, q_min, q_max2, q_min2, q_abs, q_int, q_intB, q_tupof, q_lstof, q_sort, q_rep, q_cat, q_isi, q_isis, q_setat, q_onC, q_append, q_pop, q_popAt, q_reverse, q_insert, q_sp1, q_sp2, q_sp3, q_sp4, q_at0, q_atS, q_st0, q_stS, q_iteT, q_iteF, q_isB, q_sumS, q_all, q_any, q_repT, q_spV, q_nLcX, q_sFz, q_gFld, q_sFldD, q_gMake, q_gCallI, q_gMeth, q_iOwnF, q_isO, q_gIxI, q_lenO, q_modN, q_divmod, q_gSMeth, q_dtupA, q_dtupAL, q_gRevD, q_revT, q_revL, q_gCallKw, q_eqO, q_gCallVS, q_gOpO, q_gUnO, q_gCMeth, q_gMakeV, q_gSlot, q_gMakeS, q_sSlot, q_gMethS, q_isS, q_lc3, q_tru, q_onTl, q_onTt, q_onTb, q_onTi, q_onTn, q_lstRev, q_lstRg2, q_lstRg1, q_prop, q_inO, q_gOpL, q_neO, q_gOpN, q_lstZip, q_repr, q_isXT])
    have hv : 0 ≤ v := by
      rcases hc with ⟨_, _, rfl⟩ | ⟨m, n, _, rfl, _⟩
      · exact hy
      · omega
    by_cases c : v = 0
    · refine if_t (decide_eq_true c) ?_
      rw [abs_D]
      have : u.natAbs = Int.gcd x y := by rw [← hg, c, Int.gcd_zero_right]
      rw [this]
      exact q
    · refine if_f (decide_eq_false c) ?_
      (try dsimp only [q_op, q_un, q_var, q_c, q_nil, q_cons, q_tup, q_frz, q_cel, q_lst, q_test, q_onB, q_and, q_or, q_not, q_andV, q_orV, q_notV, q_if, q_chain, q_next, q_seq, q_drop, q_ret, q_retF, q_retN, q_sif, q_break, q_cont, q_name, q_dnil, q_dcons, q_dtup, q_asg, q_set, q_par, q_for, q_range1, q_range2, q_iseq, q_ienum, q_call, q_cb, q_ncb, q_nop, q_lenset, q_mt, q_mt0, q_setix, q_augs, q_aug, q_nsl, q_onone, q_osome, q_gsl, q_raise, q_raiseF, q_try, q_lc, q_lc2, q_yes, q_wipe0, q_wipe, q_xf, q_I, q_I0, q_U, q_add, q_addT, q_addL, q_addR, q_onL, q_onSt, q_onSl, q_onSs, q_onSrct, q_onSrcl, q_eqI, q_eqB, q_eqS, q_eqN, q_isN, q_ix, q_ixL, q_in, q_len, q_sum, q_max, q_min, q_max2, q_min2, q_abs, q_int, q_intB, q_tupof, q_lstof, q_sort, q_rep, q_cat, q_isi, q_isis, q_setat, q_onC, q_append, q_pop, q_popAt, q_reverse, q_insert, q_sp1, q_sp2, q_sp3, q_sp4, q_at0, q_atS, q_st0, q_stS, q_iteT, q_iteF, q_isB, q_sumS, q_all, q_any, q_repT, q_spV, q_nLcX, q_sFz, q_gFld, q_sFldD, q_gMake, q_gCallI, q_gMeth, q_iOwnF, q_isO, q_gIxI, q_lenO, q_modN, q_divmod, q_gSMeth, q_dtupA, q_dtupAL, q_gRevD, q_revT, q_revL, q_gCallKw, q_eqO, q_gCallVS, q_gOpO, q_gUnO, q_gCMeth, q_gMakeV, q_gSlot, q_gMakeS, q_sSlot, q_gMethS, q_isS, q_lc3, q_tru, q_onTl, q_onTt, q_onTb, q_onTi, q_onTn, q_lstRev, q_lstRg2, q_lstRg1, q_prop, q_inO, q_gOpL, q_neO, q_gOpN, q_lstZip, q_repr, q_isXT])
      refine ⟨by omega, hN _ _ ⟨⟨v, u % v, _, _, rfl, ?_, ?_⟩, rfl⟩⟩
      · rw [← hg, Int.gcd_comm u v, Int.emod_def]
        first
          | rw [Int.gcd_sub_mul_left_right]
          | rw [Int.gcd_sub_mul_right_right]
          | (rw [Int.mul_comm]; rw [Int.gcd_sub_mul_left_right])
          | (rw [Int.mul_comm]; rw [Int.gcd_sub_mul_right_right])
      · obtain ⟨n, rfl⟩ : ∃ n : Nat, v = (n : Int) := ⟨v.toNat, by omega⟩
        rcases hc with ⟨rfl, rfl, rfl⟩ | ⟨m, n', rfl, e, h1, h2, h3, h4, h5⟩
        · have h0 := Int.emod_nonneg u (show (n : Int) ≠ 0 by omega)
          have h1 := Int.emod_lt_of_pos u (show (0 : Int) < n by omega)
          unfold nb at hn
          rw [Int.natAbs_natCast] at hn
          refine .inr ⟨n, (u % (n : Int)).toNat, rfl, by omega, by omega, by omega, by omega, ?_, hn⟩
          have h2 : (u % (n : Int)).toNat < 2 ^ 1500 := by omega
          calc n * (u % (n : Int)).toNat < 2 ^ 1500 * 2 ^ 1500 := Nat.mul_lt_mul'' hn h2
            _ = 2 ^ (3001 - (0 + 1)) := by rw [← Nat.pow_add]
        · have en : n' = n := by omega
          subst en
          have h0 : 0 < n' := by omega
          obtain ⟨k1, k2⟩ := euc_step h3 h0
          have hs2 : s < 3001 := by
            refine Classical.byContradiction fun z => ?_
            have z2 : 3001 - s = 0 := by omega
            rw [z2] at h4
            have := Nat.mul_pos (show 0 < m by omega) h0
            omega
          refine .inr ⟨n', m % n', rfl, rfl, by omega, by omega, k1, ?_, by omega⟩
          have e2 : 2 ^ (3001 - s) = 2 ^ (3001 - (s + 1)) * 2 := by rw [← Nat.pow_succ]; congr 1; omega
          rw [e2] at h4
          omega
  · rintro ρ M' ⟨⟨u, v, a, b, rfl, hg, hc⟩, rfl⟩
    rcases hc with ⟨z, _⟩ | ⟨_, _, _, _, _, z, _⟩
    · exact absurd z (by decide)
    · exact absurd z (by decide)
theorem b__law_is_fraction : ∀ d0 M Q E, sp__law_is_fraction K [d0] M Q E → g__law_is_fraction K { nx := fun _ M => Q .non M, rt := Q, ex := fun x _ M => E x M } [some d0] M := by
  rintro d0 M Q E ⟨t, b, rfl, hb, hn, q⟩
  have hp := lo_pos (t := t) hb
  unfold g__law_is_fraction frD
  dsimp only [q_op, q_un, q_var, q_c, q_nil, q_cons, q_tup, q_frz, q_cel, q_lst, q_test, q_onB, q_and, q_or, q_not, q_andV, q_orV, q_notV, q_if, q_chain, q_next, q_seq, q_drop, q_ret, q_retF, q_retN, q_sif, q_break, q_cont, q_name, q_dnil, q_dcons, q_dtup, q_asg, q_set, q_par, q_for, q_range1, q_range2, q_iseq, q_ienum, q_call, q_cb, q_ncb, q_nop, q_lenset, q_mt, q_mt0, q_setix, q_augs, q_aug, q_nsl, q_onone, q_osome, q_gsl, q_raise, q_raiseF, q_try, q_lc, q_lc2, q_yes, q_wipe0, q_wipe, q_xf, q_I, q_I0, q_U, q_add, q_addT, q_addL, q_addR, q_onL, q_onSt, q_onSl, q_onSs, q_onSrct, q_onSrcl, q_eqI, q_eqB, q_eqS, q_eqN, q_isN, q_ix, q_ixL, q_in, q_len, q_sum, q_max, q_min, q_max2, q_min2, q_abs, q_int, q_intB, q_tupof, q_lstof, q_sort, q_rep, q_cat, q_isi, q_isis, q_setat, q_onC, q_append, q_pop, q_popAt, q_reverse, q_insert, q_sp1, q_sp2, q_sp3, q_sp4, q_at0, q_atS, q_st0, q_stS, q_iteT, q_iteF, q_isB, q_sumS, q_all, q_any, q_repT, q_spV, q_nLcX, q_sFz, q_gFld, q_sFldD, q_gMake, q_gCallI, q_gMeth, q_iOwnF, q_isO, q_gIxI, q_lenO, q_modN, q_divmod, q_gSMeth, q_dtupA, q_dtupAL, q_gRevD, q_revT, q_revL, q_gCallKw, q_eqO, q_gCallVS, q_gOpO, q_gUnO, q_gCMeth, q_gMakeV, q_gSlot, q_gMakeS, q_sSlot, q_gMethS, q_isS, q_lc3, q_tru, q_onTl, q_onTt, q_onTb, q_onTi, q_onTn, q_lstRev, q_lstRg2, q_lstRg1, q_prop, q_inO, q_gOpL, q_neO, q_gOpN, q_lstZip, q_repr, q_isXT, sp__law_int, sp__law_divisor]
  refine ⟨.tuple, true, rfl, rfl, ?_⟩
  (try dsimp only [q_op, q_un, q_var, q_c, q_nil, q_cons, q_tup, q_frz, q_cel, q_lst, q_test, q_onB, q_and, q_or, q_not, q_andV, q_orV, q_notV, q_if, q_chain, q_next, q_seq, q_drop, q_ret, q_retF, q_retN, q_sif, q_break, q_cont, q_name, q_dnil, q_dcons, q_dtup, q_asg, q_set, q_par, q_for, q_range1, q_range2, q_iseq, q_ienum, q_call, q_cb, q_ncb, q_nop, q_lenset, q_mt, q_mt0, q_setix, q_augs, q_aug, q_nsl, q_onone, q_osome, q_gsl, q_raise, q_raiseF, q_try, q_lc, q_lc2, q_yes, q_wipe0, q_wipe, q_xf, q_I, q_I0, q_U, q_add, q_addT, q_addL, q_addR, q_onL, q_onSt, q_onSl, q_onSs, q_onSrct, q_onSrcl, q_eqI, q_eqB, q_eqS, q_eqN, q_isN, q_ix, q_ixL, q_in, q_len, q_sum, q_max, q_min, q_max2, q_min2, q_abs, q_int, q_intB, q_tupof, q_lstof, q_sort, q_rep, q_cat, q_isi, q_isis, q_setat, q_onC, q_append, q_pop, q_popAt, q_reverse, q_insert, q_sp1, q_sp2, q_sp3, q_sp4, q_at0, q_atS, q_st0, q_stS, q_iteT, q_iteF, q_isB, q_sumS, q_all, q_any, q_repT, q_spV, q_nLcX, q_sFz, q_gFld, q_sFldD, q_gMake, q_gCallI, q_gMeth, q_iOwnF, q_isO, q_gIxI, q_lenO, q_modN, q_divmod, q_gSMeth, q_dtupA, q_dtupAL, q_gRevD, q_revT, q_revL, q_gCallKw, q_eqO, q_gCallVS, q_gOpO, q_gUnO, q_gCMeth, q_gMakeV, q_gSlot, q_gMakeS, q_sSlot, q_gMethS, q_isS, q_lc3, q_tru, q_onTl, q_onTt, q_onTb, q_onTi, q_onTn, q_lstRev, q_lstRg2, q_lstRg1, q_prop, q_inO, q_gOpL, q_neO, q_gOpN, q_lstZip, q_repr, q_isXT])
  refine if_f (by rfl) (if_f (by rfl) ⟨_, rfl, .int, rfl, ?_⟩)
  (try dsimp only [q_op, q_un, q_var, q_c, q_nil, q_cons, q_tup, q_frz, q_cel, q_lst, q_test, q_onB, q_and, q_or, q_not, q_andV, q_orV, q_notV, q_if, q_chain, q_next, q_seq, q_drop, q_ret, q_retF, q_retN, q_sif, q_break, q_cont, q_name, q_dnil, q_dcons, q_dtup, q_asg, q_set, q_par, q_for, q_range1, q_range2, q_iseq, q_ienum, q_call, q_cb, q_ncb, q_nop, q_lenset, q_mt, q_mt0, q_setix, q_augs, q_aug, q_nsl, q_onone, q_osome, q_gsl, q_raise, q_raiseF, q_try, q_lc, q_lc2, q_yes, q_wipe0, q_wipe, q_xf, q_I, q_I0, q_U, q_add, q_addT, q_addL, q_addR, q_onL, q_onSt, q_onSl, q_onSs, q_onSrct, q_onSrcl, q_eqI, q_eqB, q_eqS, q_eqN, q_isN, q_ix, q_ixL, q_in, q_len, q_sum, q_max, q_min, q_max2, q_min2, q_abs, q_int, q_intB, q_tupof, q_lstof, q_sort, q_rep, q_cat, q_isi, q_isis, q_setat, q_onC, q_append, q_pop, q_popAt, q_reverse, q_insert, q_sp1, q_sp2, q_sp3, q_sp4, q_at0, q_atS, q_st0, q_stS, q_iteT, q_iteF, q_isB, q_sumS, q_all, q_any, q_repT, q_spV, q_nLcX, q_sFz, q_gFld, q_sFldD, q_gMake, q_gCallI, q_gMeth, q_iOwnF, q_isO, q_gIxI, q_lenO, q_modN, q_divmod, q_gSMeth, q_dtupA, q_dtupAL, q_gRevD, q_revT, q_revL, q_gCallKw, q_eqO, q_gCallVS, q_gOpO, q_gUnO, q_gCMeth, q_gMakeV, q_gSlot, q_gMakeS, q_sSlot, q_gMethS, q_isS, q_lc3, q_tru, q_onTl, q_onTt, q_onTb, q_onTi, q_onTn, q_lstRev, q_lstRg2, q_lstRg1, q_prop, q_inO, q_gOpL, q_neO, q_gOpN, q_lstZip, q_repr, q_isXT])
  refine if_f (by rfl) ⟨_, rfl, .int, rfl, ?_⟩
  (try dsimp only [q_op, q_un, q_var, q_c, q_nil, q_cons, q_tup, q_frz, q_cel, q_lst, q_test, q_onB, q_and, q_or, q_not, q_andV, q_orV, q_notV, q_if, q_chain, q_next, q_seq, q_drop, q_ret, q_retF, q_retN, q_sif, q_break, q_cont, q_name, q_dnil, q_dcons, q_dtup, q_asg, q_set, q_par, q_for, q_range1, q_range2, q_iseq, q_ienum, q_call, q_cb, q_ncb, q_nop, q_lenset, q_mt, q_mt0, q_setix, q_augs, q_aug, q_nsl, q_onone, q_osome, q_gsl, q_raise, q_raiseF, q_try, q_lc, q_lc2, q_yes, q_wipe0, q_wipe, q_xf, q_I, q_I0, q_U, q_add, q_addT, q_addL, q_addR, q_onL, q_onSt, q_onSl, q_onSs, q_onSrct, q_onSrcl, q_eqI, q_eqB, q_eqS, q_eqN, q_isN, q_ix, q_ixL, q_in, q_len, q_sum, q_max, q_min, q_max2, q_min2, q_abs, q_int, q_intB, q_tupof, q_lstof, q_sort, q_rep, q_cat, q_isi, q_isis, q_setat, q_onC, q_append, q_pop, q_popAt, q_reverse, q_insert, q_sp1, q_sp2, q_sp3, q_sp4, q_at0, q_atS, q_st0, q_stS, q_iteT, q_iteF, q_isB, q_sumS, q_all, q_any, q_repT, q_spV, q_nLcX, q_sFz, q_gFld, q_sFldD, q_gMake, q_gCallI, q_gMeth, q_iOwnF, q_isO, q_gIxI, q_lenO, q_modN, q_divmod, q_gSMeth, q_dtupA, q_dtupAL, q_gRevD, q_revT, q_revL, q_gCallKw, q_eqO, q_gCallVS, q_gOpO, q_gUnO, q_gCMeth, q_gMakeV, q_gSlot, q_gMakeS, q_sSlot, q_gMethS, q_isS, q_lc3, q_tru, q_onTl, q_onTt, q_onTb, q_onTi, q_onTn, q_lstRev, q_lstRg2, q_lstRg1, q_prop, q_inO, q_gOpL, q_neO, q_gOpN, q_lstZip, q_repr, q_isXT])
  refine if_f (by rfl) ⟨_, rfl, ?_⟩
  (try dsimp only [q_op, q_un, q_var, q_c, q_nil, q_cons, q_tup, q_frz, q_cel, q_lst, q_test, q_onB, q_and, q_or, q_not, q_andV, q_orV, q_notV, q_if, q_chain, q_next, q_seq, q_drop, q_ret, q_retF, q_retN, q_sif, q_break, q_cont, q_name, q_dnil, q_dcons, q_dtup, q_asg, q_set, q_par, q_for, q_range1, q_range2, q_iseq, q_ienum, q_call, q_cb, q_ncb, q_nop, q_lenset, q_mt, q_mt0, q_setix, q_augs, q_aug, q_nsl, q_onone, q_osome, q_gsl, q_raise, q_raiseF, q_try, q_lc, q_lc2, q_yes, q_wipe0, q_wipe, q_xf, q_I, q_I0, q_U, q_add, q_addT, q_addL, q_addR, q_onL, q_onSt, q_onSl, q_onSs, q_onSrct, q_onSrcl, q_eqI, q_eqB, q_eqS, q_eqN, q_isN, q_ix, q_ixL, q_in, q_len, q_sum, q_max, q_min, q_max2, q_min2, q_abs, q_int, q_intB, q_tupof, q_lstof, q_sort, q_rep, q_cat, q_isi, q_isis, q_setat, q_onC, q_append, q_pop, q_popAt, q_reverse, q_insert, q_sp1, q_sp2, q_sp3, q_sp4, q_at0, q_atS, q_st0, q_stS, q_iteT, q_iteF, q_isB, q_sumS, q_all, q_any, q_repT, q_spV, q_nLcX, q_sFz, q_gFld, q_sFldD, q_gMake, q_gCallI, q_gMeth, q_iOwnF, q_isO, q_gIxI, q_lenO, q_modN, q_divmod, q_gSMeth, q_dtupA, q_dtupAL, q_gRevD, q_revT, q_revL, q_gCallKw, q_eqO, q_gCallVS, q_gOpO, q_gUnO, q_gCMeth, q_gMakeV, q_gSlot, q_gMakeS, q_sSlot, q_gMethS, q_isS, q_lc3, q_tru, q_onTl, q_onTt, q_onTb, q_onTi, q_onTn, q_lstRev, q_lstRg2, q_lstRg1, q_prop, q_inO, q_gOpL, q_neO, q_gOpN, q_lstZip, q_repr, q_isXT])
  refine if_f (decide_eq_false (by omega)) ⟨_, rfl, _, rfl, _, _, rfl, rfl, by omega, nb_mono (lo_nb2 hb hn) (by decide), ?_⟩
  rw [lo_gcd hb]
  (try dsimp only [q_op, q_un, q_var, q_c, q_nil, q_cons, q_tup, q_frz, q_cel, q_lst, q_test, q_onB, q_and, q_or, q_not, q_andV, q_orV, q_notV, q_if, q_chain, q_next, q_seq, q_drop, q_ret, q_retF, q_retN, q_sif, q_break, q_cont, q_name, q_dnil, q_dcons, q_dtup, q_asg, q_set, q_par, q_for, q_range1, q_range2, q_iseq, q_ienum, q_call, q_cb, q_ncb, q_nop, q_lenset, q_mt, q_mt0, q_setix, q_augs, q_aug, q_nsl, q_onone, q_osome, q_gsl, q_raise, q_raiseF, q_try, q_lc, q_lc2, q_yes, q_wipe0, q_wipe, q_xf, q_I, q_I0, q_U, q_add, q_addT, q_addL, q_addR, q_onL, q_onSt, q_onSl, q_onSs, q_onSrct, q_onSrcl, q_eqI, q_eqB, q_eqS, q_eqN, q_isN, q_ix, q_ixL, q_in, q_len, q_sum, q_max, q_min, q_max2, q_min2, q_abs, q_int, q_intB, q_tupof, q_lstof, q_sort, q_rep, q_cat, q_isi, q_isis, q_setat, q_onC, q_append, q_pop, q_popAt, q_reverse, q_insert, q_sp1, q_sp2, q_sp3, q_sp4, q_at0, q_atS, q_st0, q_stS, q_iteT, q_iteF, q_isB, q_sumS, q_all, q_any, q_repT, q_spV, q_nLcX, q_sFz, q_gFld, q_sFldD, q_gMake, q_gCallI, q_gMeth, q_iOwnF, q_isO, q_gIxI, q_lenO, q_modN, q_divmod, q_gSMeth, q_dtupA, q_dtupAL, q_gRevD, q_revT, q_revL, q_gCallKw, q_eqO, q_gCallVS, q_gOpO, q_gUnO, q_gCMeth, q_gMakeV, q_gSlot, q_gMakeS, q_sSlot, q_gMethS, q_isS, q_lc3, q_tru, q_onTl, q_onTt, q_onTb, q_onTi, q_onTn, q_lstRev, q_lstRg2, q_lstRg1, q_prop, q_inO, q_gOpL, q_neO, q_gOpN, q_lstZip, q_repr, q_isXT])
  exact q
theorem b__law_same_worth : ∀ d0 d1 M Q E, sp__law_same_worth K [d0, d1] M Q E → g__law_same_worth K { nx := fun _ M => Q .non M, rt := Q, ex := fun x _ M => E x M } [some d0, some d1] M := by
  rintro d0 d1 M Q E ⟨a, b, c, d, rfl, rfl, n1, n2, n3, n4, q⟩
  unfold g__law_same_worth
  dsimp only [q_op, q_un, q_var, q_c, q_nil, q_cons, q_tup, q_frz, q_cel, q_lst, q_test, q_onB, q_and, q_or, q_not, q_andV, q_orV, q_notV, q_if, q_chain, q_next, q_seq, q_drop, q_ret, q_retF, q_retN, q_sif, q_break, q_cont, q_name, q_dnil, q_dcons, q_dtup, q_asg, q_set, q_par, q_for, q_range1, q_range2, q_iseq, q_ienum, q_call, q_cb, q_ncb, q_nop, q_lenset, q_mt, q_mt0, q_setix, q_augs, q_aug, q_nsl, q_onone, q_osome, q_gsl, q_raise, q_raiseF, q_try, q_lc, q_lc2, q_yes, q_wipe0, q_wipe, q_xf, q_I, q_I0, q_U, q_add, q_addT, q_addL, q_addR, q_onL, q_onSt, q_onSl, q_onSs, q_onSrct, q_onSrcl, q_eqI, q_eqB, q_eqS, q_eqN, q_isN, q_ix, q_ixL, q_in, q_len, q_sum, q_max, q_min, q_max2, q_min2, q_abs, q_int, q_intB, q_tupof, q_lstof, q_sort, q_rep, q_cat, q_isi, q_isis, q_setat, q_onC, q_append, q_pop, q_popAt, q_reverse, q_insert, q_sp1, q_sp2, q_sp3, q_sp4, q_at0, q_atS, q_st0, q_stS, q_iteT, q_iteF, q_isB, q_sumS, q_all, q_any, q_repT, q_spV, q_nLcX, q_sFz, q_gFld, q_sFldD, q_gMake, q_gCallI, q_gMeth, q_iOwnF, q_isO, q_gIxI, q_lenO, q_modN, q_divmod, q_gSMeth, q_dtupA, q_dtupAL, q_gRevD, q_revT, q_revL, q_gCallKw, q_eqO, q_gCallVS, q_gOpO, q_gUnO, q_gCMeth, q_gMakeV, q_gSlot, q_gMakeS, q_sSlot, q_gMethS, q_isS, q_lc3, q_tru, q_onTl, q_onTt, q_onTb, q_onTi, q_onTn, q_lstRev, q_lstRg2, q_lstRg1, q_prop, q_inO, q_gOpL, q_neO, q_gOpN, q_lstZip, q_repr, q_isXT]
  refine ⟨_, rfl, _, rfl, ?_⟩
  (try dsimp only [q_op, q_un, q_var, q_c, q_nil, q_cons, q_tup, q_frz, q_cel, q_lst, q_test, q_onB, q_and, q_or, q_not, q_andV, q_orV, q_notV, q_if, q_chain, q_next, q_seq, q_drop, q_ret, q_retF, q_retN, q_sif, q_break, q_cont, q_name, q_dnil, q_dcons, q_dtup, q_asg, q_set, q_par, q_for, q_range1, q_range2, q_iseq, q_ienum, q_call, q_cb, q_ncb, q_nop, q_lenset, q_mt, q_mt0, q_setix, q_augs, q_aug, q_nsl, q_onone, q_osome, q_gsl, q_raise, q_raiseF, q_try, q_lc, q_lc2, q_yes, q_wipe0, q_wipe, q_xf, q_I, q_I0, q_U, q_add, q_addT, q_addL, q_addR, q_onL, q_onSt, q_onSl, q_onSs, q_onSrct, q_onSrcl, q_eqI, q_eqB, q_eqS, q_eqN, q_isN, q_ix, q_ixL, q_in, q_len, q_sum, q_max, q_min, q_max2, q_min2, q_abs, q_int, q_intB, q_tupof, q_lstof, q_sort, q_rep, q_cat, q_isi, q_isis, q_setat, q_onC, q_append, q_pop, q_popAt, q_reverse, q_insert, q_sp1, q_sp2, q_sp3, q_sp4, q_at0, q_atS, q_st0, q_stS, q_iteT, q_iteF, q_isB, q_sumS, q_all, q_any, q_repT, q_spV, q_nLcX, q_sFz, q_gFld, q_sFldD, q_gMake, q_gCallI, q_gMeth, q_iOwnF, q_isO, q_gIxI, q_lenO, q_modN, q_divmod, q_gSMeth, q_dtupA, q_dtupAL, q_gRevD, q_revT, q_revL, q_gCallKw, q_eqO, q_gCallVS, q_gOpO, q_gUnO, q_gCMeth, q_gMakeV, q_gSlot, q_gMakeS, q_sSlot, q_gMethS, q_isS, q_lc3, q_tru, q_onTl, q_onTt, q_onTb, q_onTi, q_onTn, q_lstRev, q_lstRg2, q_lstRg1, q_prop, q_inO, q_gOpL, q_neO, q_gOpN, q_lstZip, q_repr, q_isXT])
  refine ⟨cmul n1 n4, _, rfl, _, rfl, ?_⟩
  (try dsimp only [q_op, q_un, q_var, q_c, q_nil, q_cons, q_tup, q_frz, q_cel, q_lst, q_test, q_onB, q_and, q_or, q_not, q_andV, q_orV, q_notV, q_if, q_chain, q_next, q_seq, q_drop, q_ret, q_retF, q_retN, q_sif, q_break, q_cont, q_name, q_dnil, q_dcons, q_dtup, q_asg, q_set, q_par, q_for, q_range1, q_range2, q_iseq, q_ienum, q_call, q_cb, q_ncb, q_nop, q_lenset, q_mt, q_mt0, q_setix, q_augs, q_aug, q_nsl, q_onone, q_osome, q_gsl, q_raise, q_raiseF, q_try, q_lc, q_lc2, q_yes, q_wipe0, q_wipe, q_xf, q_I, q_I0, q_U, q_add, q_addT, q_addL, q_addR, q_onL, q_onSt, q_onSl, q_onSs, q_onSrct, q_onSrcl, q_eqI, q_eqB, q_eqS, q_eqN, q_isN, q_ix, q_ixL, q_in, q_len, q_sum, q_max, q_min, q_max2, q_min2, q_abs, q_int, q_intB, q_tupof, q_lstof, q_sort, q_rep, q_cat, q_isi, q_isis, q_setat, q_onC, q_append, q_pop, q_popAt, q_reverse, q_insert, q_sp1, q_sp2, q_sp3, q_sp4, q_at0, q_atS, q_st0, q_stS, q_iteT, q_iteF, q_isB, q_sumS, q_all, q_any, q_repT, q_spV, q_nLcX, q_sFz, q_gFld, q_sFldD, q_gMake, q_gCallI, q_gMeth, q_iOwnF, q_isO, q_gIxI, q_lenO, q_modN, q_divmod, q_gSMeth, q_dtupA, q_dtupAL, q_gRevD, q_revT, q_revL, q_gCallKw, q_eqO, q_gCallVS, q_gOpO, q_gUnO, q_gCMeth, q_gMakeV, q_gSlot, q_gMakeS, q_sSlot, q_gMethS, q_isS, q_lc3, q_tru, q_onTl, q_onTt, q_onTb, q_onTi, q_onTn, q_lstRev, q_lstRg2, q_lstRg1, q_prop, q_inO, q_gOpL, q_neO, q_gOpN, q_lstZip, q_repr, q_isXT])
  exact ⟨cmul n3 n2, q⟩
end
theorem lo_sign {u v : Int} (h : 0 < v) : ((lo u v).1 = 0 ↔ u = 0) ∧ ((lo u v).1 < 0 ↔ u < 0) := by
  have g : (0 : Int) < (Int.gcd u v : Int) := by have := g_pos (t := u) h; omega
  have e := lo_top u v
  rcases Int.lt_trichotomy (lo u v).1 0 with z | z | z
  · have := Int.mul_neg_of_neg_of_pos z g
    rw [e] at this
    omega
  · rw [z, Int.zero_mul] at e
    omega
  · have := Int.mul_pos z g
    rw [e] at this
    omega
theorem neg4 (x y z w : Int) : -x * y * (-z * w) = x * y * (z * w) := by rw [Int.neg_mul x y, Int.neg_mul z w, Int.neg_mul_neg]
section
variable {t b u v : Int}
theorem sub_raw (hb : 0 < b) (hv : 0 < v) : frD ((lo t b).1 * (lo u v).2 - (lo u v).1 * (lo t b).2) ((lo t b).2 * (lo u v).2) = frD (t * v - u * b) (b * v) := by
  refine frD_uniq (Int.mul_pos (lo_pos hb) (lo_pos hv)) (Int.mul_pos hb hv) ?_
  have hA := lo_cross t b
  have hB := lo_cross u v
  have e1 : (lo t b).1 * (lo u v).2 * (b * v) = ((lo t b).1 * b) * ((lo u v).2 * v) := by ac_rfl
  have e2 : (lo u v).1 * (lo t b).2 * (b * v) = ((lo u v).1 * v) * ((lo t b).2 * b) := by ac_rfl
  have e3 : t * v * ((lo t b).2 * (lo u v).2) = (t * (lo t b).2) * ((lo u v).2 * v) := by ac_rfl
  have e4 : u * b * ((lo t b).2 * (lo u v).2) = (u * (lo u v).2) * ((lo t b).2 * b) := by ac_rfl
  rw [Int.sub_mul, Int.sub_mul, e1, e2, e3, e4, hA, hB]
theorem div_raw (hb : 0 < b) (hv : 0 < v) (hu : 0 < u) : frD ((lo t b).1 * (lo u v).2) ((lo u v).1 * (lo t b).2) = frD (t * v) (u * b) := by
  have hu' : 0 < (lo u v).1 := by have := lo_sign (u := u) hv; omega
  refine frD_uniq (Int.mul_pos hu' (lo_pos hb)) (Int.mul_pos hu hb) ?_
  have e1 : (lo t b).1 * (lo u v).2 * (u * b) = ((lo t b).1 * b) * (u * (lo u v).2) := by ac_rfl
  have e2 : t * v * ((lo u v).1 * (lo t b).2) = (t * (lo t b).2) * ((lo u v).1 * v) := by ac_rfl
  rw [e1, e2, lo_cross, lo_cross]
theorem div_raw2 (hb : 0 < b) (hv : 0 < v) (hu : u < 0) : frD (-(lo t b).1 * (lo u v).2) (-(lo u v).1 * (lo t b).2) = frD (-t * v) (-u * b) := by
  have hu' : (lo u v).1 < 0 := by have := lo_sign (u := u) hv; omega
  refine frD_uniq (Int.mul_pos (by omega) (lo_pos hb)) (Int.mul_pos (by omega) hb) ?_
  rw [neg4, neg4]
  have e1 : (lo t b).1 * (lo u v).2 * (u * b) = ((lo t b).1 * b) * (u * (lo u v).2) := by ac_rfl
  have e2 : t * v * ((lo u v).1 * (lo t b).2) = (t * (lo t b).2) * ((lo u v).1 * v) := by ac_rfl
  rw [e1, e2, lo_cross, lo_cross]
end
section
variable {K : PySem.W.Frag}
theorem fracC_imp {M : Mem} {v : D} {nm : Str} {E E' : DXK} {k k' : Int → Int → Prop} (h1 : ∀ x, E x M → E' x M) (h : ∀ t b, 0 < b → nb 1000 t → nb 1000 b → k t b → k' t b) : fracC K M v nm E k → fracC K M v nm E' k' := by
  rintro (⟨t, e, n, q⟩ | ⟨t, b, r, hb, n1, n2, q⟩ | ⟨a, b, q⟩)
  · exact .inl ⟨t, e, n, h t 1 (by decide) n (nb_mono (show nb 1 1 by unfold nb; decide) (by decide)) q⟩
  · exact .inr (.inl ⟨t, b, r, hb, n1, n2, h t b (by omega) n1 n2 q⟩)
  · exact .inr (.inr ⟨a, b, h1 _ q⟩)
theorem twoF_imp {M : Mem} {a b : D} {E E' : DXK} {k k' : Int → Int → Int → Int → Prop} (h1 : ∀ x, E x M → E' x M) (h : ∀ t b u v, 0 < b → 0 < v → nb 1000 t → nb 1000 b → nb 1000 u → nb 1000 v → k t b u v → k' t b u v) : twoF K M a b E k → twoF K M a b E' k' :=
  fracC_imp h1 fun t b hb n1 n2 => fracC_imp h1 fun u v hv n3 n4 q => h t b u v hb hv n1 n2 n3 n4 q
theorem b_fraction : ∀ d0 d1 M Q E, sp_fraction K [d0, d1] M Q E → g_fraction K { nx := fun _ M => Q .non M, rt := Q, ex := fun x _ M => E x M } [some d0, some d1, none, none] M := by
  rintro d0 d1 M Q E ⟨nm, rfl, h⟩
  unfold g_fraction
  dsimp only [q_op, q_un, q_var, q_c, q_nil, q_cons, q_tup, q_frz, q_cel, q_lst, q_test, q_onB, q_and, q_or, q_not, q_andV, q_orV, q_notV, q_if, q_chain, q_next, q_seq, q_drop, q_ret, q_retF, q_retN, q_sif, q_break, q_cont, q_name, q_dnil, q_dcons, q_dtup, q_asg, q_set, q_par, q_for, q_range1, q_range2, q_iseq, q_ienum, q_call, q_cb, q_ncb, q_nop, q_lenset, q_mt, q_mt0, q_setix, q_augs, q_aug, q_nsl, q_onone, q_osome, q_gsl, q_raise, q_raiseF, q_try, q_lc, q_lc2, q_yes, q_wipe0, q_wipe, q_xf, q_I, q_I0, q_U, q_add, q_addT, q_addL, q_addR, q_onL, q_onSt, q_onSl, q_onSs, q_onSrct, q_onSrcl, q_eqI, q_eqB, q_eqS, q_eqN, q_isN, q_ix, q_ixL, q_in, q_len, q_sum, q_max, q_min, q_max2, q_min2, q_abs, q_int, q_intB, q_tupof, q_lstof, q_sort, q_rep, q_cat, q_isi, q_isis, q_setat, q_onC, q_append, q_pop, q_popAt, q_reverse, q_insert, q_sp1, q_sp2, q_sp3, q_sp4, q_at0, q_atS, q_st0, q_stS, q_iteT, q_iteF, q_isB, q_sumS, q_all, q_any, q_repT, q_spV, q_nLcX, q_sFz, q_gFld, q_sFldD, q_gMake, q_gCallI, q_gMeth, q_iOwnF, q_isO, q_gIxI, q_lenO, q_modN, q_divmod, q_gSMeth, q_dtupA, q_dtupAL, q_gRevD, q_revT, q_revL, q_gCallKw, q_eqO, q_gCallVS, q_gOpO, q_gUnO, q_gCMeth, q_gMakeV, q_gSlot, q_gMakeS, q_sSlot, q_gMethS, q_isS, q_lc3, q_tru, q_onTl, q_onTt, q_onTb, q_onTi, q_onTn, q_lstRev, q_lstRg2, q_lstRg1, q_prop, q_inO, q_gOpL, q_neO, q_gOpN, q_lstZip, q_repr, q_isXT, sp_is_int, sp_is_row, sp_lowest]
  rcases h with ⟨t, rfl, n, q⟩ | ⟨t, b, row, hb, n1, n2, q⟩ | ⟨hni, hbad, q⟩
  · refine ⟨.int, rfl, ?_⟩
    (try dsimp only [q_op, q_un, q_var, q_c, q_nil, q_cons, q_tup, q_frz, q_cel, q_lst, q_test, q_onB, q_and, q_or, q_not, q_andV, q_orV, q_notV, q_if, q_chain, q_next, q_seq, q_drop, q_ret, q_retF, q_retN, q_sif, q_break, q_cont, q_name, q_dnil, q_dcons, q_dtup, q_asg, q_set, q_par, q_for, q_range1, q_range2, q_iseq, q_ienum, q_call, q_cb, q_ncb, q_nop, q_lenset, q_mt, q_mt0, q_setix, q_augs, q_aug, q_nsl, q_onone, q_osome, q_gsl, q_raise, q_raiseF, q_try, q_lc, q_lc2, q_yes, q_wipe0, q_wipe, q_xf, q_I, q_I0, q_U, q_add, q_addT, q_addL, q_addR, q_onL, q_onSt, q_onSl, q_onSs, q_onSrct, q_onSrcl, q_eqI, q_eqB, q_eqS, q_eqN, q_isN, q_ix, q_ixL, q_in, q_len, q_sum, q_max, q_min, q_max2, q_min2, q_abs, q_int, q_intB, q_tupof, q_lstof, q_sort, q_rep, q_cat, q_isi, q_isis, q_setat, q_onC, q_append, q_pop, q_popAt, q_reverse, q_insert, q_sp1, q_sp2, q_sp3, q_sp4, q_at0, q_atS, q_st0, q_stS, q_iteT, q_iteF, q_isB, q_sumS, q_all, q_any, q_repT, q_spV, q_nLcX, q_sFz, q_gFld, q_sFldD, q_gMake, q_gCallI, q_gMeth, q_iOwnF, q_isO, q_gIxI, q_lenO, q_modN, q_divmod, q_gSMeth, q_dtupA, q_dtupAL, q_gRevD, q_revT, q_revL, q_gCallKw, q_eqO, q_gCallVS, q_gOpO, q_gUnO, q_gCMeth, q_gMakeV, q_gSlot, q_gMakeS, q_sSlot, q_gMethS, q_isS, q_lc3, q_tru, q_onTl, q_onTt, q_onTb, q_onTi, q_onTn, q_lstRev, q_lstRg2, q_lstRg1, q_prop, q_inO, q_gOpL, q_neO, q_gOpN, q_lstZip, q_repr, q_isXT])
    refine if_t (by rfl) ⟨by rw [sz]; show 2 ≤ 16777216; omega, ?_⟩
    unfold frD at q
    rw [lo_one] at q
    exact q
  · have hk : ∃ k, kdOf M d0 = some k ∧ (k == Kd.int) = false ∧ (k == Kd.tuple || k == .list) = true := by
      rcases row.kd with z | z
      · exact ⟨_, z, rfl, rfl⟩
      · exact ⟨_, z, rfl, rfl⟩
    obtain ⟨k, k1, k2, k3⟩ := hk
    refine ⟨k, k1, ?_⟩
    (try dsimp only [q_op, q_un, q_var, q_c, q_nil, q_cons, q_tup, q_frz, q_cel, q_lst, q_test, q_onB, q_and, q_or, q_not, q_andV, q_orV, q_notV, q_if, q_chain, q_next, q_seq, q_drop, q_ret, q_retF, q_retN, q_sif, q_break, q_cont, q_name, q_dnil, q_dcons, q_dtup, q_asg, q_set, q_par, q_for, q_range1, q_range2, q_iseq, q_ienum, q_call, q_cb, q_ncb, q_nop, q_lenset, q_mt, q_mt0, q_setix, q_augs, q_aug, q_nsl, q_onone, q_osome, q_gsl, q_raise, q_raiseF, q_try, q_lc, q_lc2, q_yes, q_wipe0, q_wipe, q_xf, q_I, q_I0, q_U, q_add, q_addT, q_addL, q_addR, q_onL, q_onSt, q_onSl, q_onSs, q_onSrct, q_onSrcl, q_eqI, q_eqB, q_eqS, q_eqN, q_isN, q_ix, q_ixL, q_in, q_len, q_sum, q_max, q_min, q_max2, q_min2, q_abs, q_int, q_intB, q_tupof, q_lstof, q_sort, q_rep, q_cat, q_isi, q_isis, q_setat, q_onC, q_append, q_pop, q_popAt, q_reverse, q_insert, q_sp1, q_sp2, q_sp3, q_sp4, q_at0, q_atS, q_st0, q_stS, q_iteT, q_iteF, q_isB, q_sumS, q_all, q_any, q_repT, q_spV, q_nLcX, q_sFz, q_gFld, q_sFldD, q_gMake, q_gCallI, q_gMeth, q_iOwnF, q_isO, q_gIxI, q_lenO, q_modN, q_divmod, q_gSMeth, q_dtupA, q_dtupAL, q_gRevD, q_revT, q_revL, q_gCallKw, q_eqO, q_gCallVS, q_gOpO, q_gUnO, q_gCMeth, q_gMakeV, q_gSlot, q_gMakeS, q_sSlot, q_gMethS, q_isS, q_lc3, q_tru, q_onTl, q_onTt, q_onTb, q_onTi, q_onTn, q_lstRev, q_lstRg2, q_lstRg1, q_prop, q_inO, q_gOpL, q_neO, q_gOpN, q_lstZip, q_repr, q_isXT])
    refine if_f k2 ⟨k, k1, ?_⟩
    (try dsimp only [q_op, q_un, q_var, q_c, q_nil, q_cons, q_tup, q_frz, q_cel, q_lst, q_test, q_onB, q_and, q_or, q_not, q_andV, q_orV, q_notV, q_if, q_chain, q_next, q_seq, q_drop, q_ret, q_retF, q_retN, q_sif, q_break, q_cont, q_name, q_dnil, q_dcons, q_dtup, q_asg, q_set, q_par, q_for, q_range1, q_range2, q_iseq, q_ienum, q_call, q_cb, q_ncb, q_nop, q_lenset, q_mt, q_mt0, q_setix, q_augs, q_aug, q_nsl, q_onone, q_osome, q_gsl, q_raise, q_raiseF, q_try, q_lc, q_lc2, q_yes, q_wipe0, q_wipe, q_xf, q_I, q_I0, q_U, q_add, q_addT, q_addL, q_addR, q_onL, q_onSt, q_onSl, q_onSs, q_onSrct, q_onSrcl, q_eqI, q_eqB, q_eqS, q_eqN, q_isN, q_ix, q_ixL, q_in, q_len, q_sum, q_max, q_min, q_max2, q_min2, q_abs, q_int, q_intB, q_tupof, q_lstof, q_sort, q_rep, q_cat, q_isi, q_isis, q_setat, q_onC, q_append, q_pop, q_popAt, q_reverse, q_insert, q_sp1, q_sp2, q_sp3, q_sp4, q_at0, q_atS, q_st0, q_stS, q_iteT, q_iteF, q_isB, q_sumS, q_all, q_any, q_repT, q_spV, q_nLcX, q_sFz, q_gFld, q_sFldD, q_gMake, q_gCallI, q_gMeth, q_iOwnF, q_isO, q_gIxI, q_lenO, q_modN, q_divmod, q_gSMeth, q_dtupA, q_dtupAL, q_gRevD, q_revT, q_revL, q_gCallKw, q_eqO, q_gCallVS, q_gOpO, q_gUnO, q_gCMeth, q_gMakeV, q_gSlot, q_gMakeS, q_sSlot, q_gMethS, q_isS, q_lc3, q_tru, q_onTl, q_onTt, q_onTb, q_onTi, q_onTn, q_lstRev, q_lstRg2, q_lstRg1, q_prop, q_inO, q_gOpL, q_neO, q_gOpN, q_lstZip, q_repr, q_isXT])
    refine if_f (by rw [k3]; rfl) (row.onS ?_)
    (try dsimp only [q_op, q_un, q_var, q_c, q_nil, q_cons, q_tup, q_frz, q_cel, q_lst, q_test, q_onB, q_and, q_or, q_not, q_andV, q_orV, q_notV, q_if, q_chain, q_next, q_seq, q_drop, q_ret, q_retF, q_retN, q_sif, q_break, q_cont, q_name, q_dnil, q_dcons, q_dtup, q_asg, q_set, q_par, q_for, q_range1, q_range2, q_iseq, q_ienum, q_call, q_cb, q_ncb, q_nop, q_lenset, q_mt, q_mt0, q_setix, q_augs, q_aug, q_nsl, q_onone, q_osome, q_gsl, q_raise, q_raiseF, q_try, q_lc, q_lc2, q_yes, q_wipe0, q_wipe, q_xf, q_I, q_I0, q_U, q_add, q_addT, q_addL, q_addR, q_onL, q_onSt, q_onSl, q_onSs, q_onSrct, q_onSrcl, q_eqI, q_eqB, q_eqS, q_eqN, q_isN, q_ix, q_ixL, q_in, q_len, q_sum, q_max, q_min, q_max2, q_min2, q_abs, q_int, q_intB, q_tupof, q_lstof, q_sort, q_rep, q_cat, q_isi, q_isis, q_setat, q_onC, q_append, q_pop, q_popAt, q_reverse, q_insert, q_sp1, q_sp2, q_sp3, q_sp4, q_at0, q_atS, q_st0, q_stS, q_iteT, q_iteF, q_isB, q_sumS, q_all, q_any, q_repT, q_spV, q_nLcX, q_sFz, q_gFld, q_sFldD, q_gMake, q_gCallI, q_gMeth, q_iOwnF, q_isO, q_gIxI, q_lenO, q_modN, q_divmod, q_gSMeth, q_dtupA, q_dtupAL, q_gRevD, q_revT, q_revL, q_gCallKw, q_eqO, q_gCallVS, q_gOpO, q_gUnO, q_gCMeth, q_gMakeV, q_gSlot, q_gMakeS, q_sSlot, q_gMethS, q_isS, q_lc3, q_tru, q_onTl, q_onTt, q_onTb, q_onTi, q_onTn, q_lstRev, q_lstRg2, q_lstRg1, q_prop, q_inO, q_gOpL, q_neO, q_gOpN, q_lstZip, q_repr, q_isXT])
    refine if_f (by rfl) (row.onS ⟨_, rfl, row.onS ⟨_, rfl, .int, rfl, ?_⟩⟩)
    (try dsimp only [q_op, q_un, q_var, q_c, q_nil, q_cons, q_tup, q_frz, q_cel, q_lst, q_test, q_onB, q_and, q_or, q_not, q_andV, q_orV, q_notV, q_if, q_chain, q_next, q_seq, q_drop, q_ret, q_retF, q_retN, q_sif, q_break, q_cont, q_name, q_dnil, q_dcons, q_dtup, q_asg, q_set, q_par, q_for, q_range1, q_range2, q_iseq, q_ienum, q_call, q_cb, q_ncb, q_nop, q_lenset, q_mt, q_mt0, q_setix, q_augs, q_aug, q_nsl, q_onone, q_osome, q_gsl, q_raise, q_raiseF, q_try, q_lc, q_lc2, q_yes, q_wipe0, q_wipe, q_xf, q_I, q_I0, q_U, q_add, q_addT, q_addL, q_addR, q_onL, q_onSt, q_onSl, q_onSs, q_onSrct, q_onSrcl, q_eqI, q_eqB, q_eqS, q_eqN, q_isN, q_ix, q_ixL, q_in, q_len, q_sum, q_max, q_min, q_max2, q_min2, q_abs, q_int, q_intB, q_tupof, q_lstof, q_sort, q_rep, q_cat, q_isi, q_isis, q_setat, q_onC, q_append, q_pop, q_popAt, q_reverse, q_insert, q_sp1, q_sp2, q_sp3, q_sp4, q_at0, q_atS, q_st0, q_stS, q_iteT, q_iteF, q_isB, q_sumS, q_all, q_any, q_repT, q_spV, q_nLcX, q_sFz, q_gFld, q_sFldD, q_gMake, q_gCallI, q_gMeth, q_iOwnF, q_isO, q_gIxI, q_lenO, q_modN, q_divmod, q_gSMeth, q_dtupA, q_dtupAL, q_gRevD, q_revT, q_revL, q_gCallKw, q_eqO, q_gCallVS, q_gOpO, q_gUnO, q_gCMeth, q_gMakeV, q_gSlot, q_gMakeS, q_sSlot, q_gMethS, q_isS, q_lc3, q_tru, q_onTl, q_onTt, q_onTb, q_onTi, q_onTn, q_lstRev, q_lstRg2, q_lstRg1, q_prop, q_inO, q_gOpL, q_neO, q_gOpN, q_lstZip, q_repr, q_isXT])
    refine if_f (by rfl) ⟨.int, rfl, ?_⟩
    (try dsimp only [q_op, q_un, q_var, q_c, q_nil, q_cons, q_tup, q_frz, q_cel, q_lst, q_test, q_onB, q_and, q_or, q_not, q_andV, q_orV, q_notV, q_if, q_chain, q_next, q_seq, q_drop, q_ret, q_retF, q_retN, q_sif, q_break, q_cont, q_name, q_dnil, q_dcons, q_dtup, q_asg, q_set, q_par, q_for, q_range1, q_range2, q_iseq, q_ienum, q_call, q_cb, q_ncb, q_nop, q_lenset, q_mt, q_mt0, q_setix, q_augs, q_aug, q_nsl, q_onone, q_osome, q_gsl, q_raise, q_raiseF, q_try, q_lc, q_lc2, q_yes, q_wipe0, q_wipe, q_xf, q_I, q_I0, q_U, q_add, q_addT, q_addL, q_addR, q_onL, q_onSt, q_onSl, q_onSs, q_onSrct, q_onSrcl, q_eqI, q_eqB, q_eqS, q_eqN, q_isN, q_ix, q_ixL, q_in, q_len, q_sum, q_max, q_min, q_max2, q_min2, q_abs, q_int, q_intB, q_tupof, q_lstof, q_sort, q_rep, q_cat, q_isi, q_isis, q_setat, q_onC, q_append, q_pop, q_popAt, q_reverse, q_insert, q_sp1, q_sp2, q_sp3, q_sp4, q_at0, q_atS, q_st0, q_stS, q_iteT, q_iteF, q_isB, q_sumS, q_all, q_any, q_repT, q_spV, q_nLcX, q_sFz, q_gFld, q_sFldD, q_gMake, q_gCallI, q_gMeth, q_iOwnF, q_isO, q_gIxI, q_lenO, q_modN, q_divmod, q_gSMeth, q_dtupA, q_dtupAL, q_gRevD, q_revT, q_revL, q_gCallKw, q_eqO, q_gCallVS, q_gOpO, q_gUnO, q_gCMeth, q_gMakeV, q_gSlot, q_gMakeS, q_sSlot, q_gMethS, q_isS, q_lc3, q_tru, q_onTl, q_onTt, q_onTb, q_onTi, q_onTn, q_lstRev, q_lstRg2, q_lstRg1, q_prop, q_inO, q_gOpL, q_neO, q_gOpN, q_lstZip, q_repr, q_isXT])
    exact if_f (by rfl) (if_f (decide_eq_false (by omega)) ⟨t, b, rfl, rfl, by omega, nb_mono n1 (by decide), nb_mono n2 (by decide), q⟩)
  · have rk : ∀ {xs : List D}, RowD M d0 xs → ∃ k, kdOf M d0 = some k ∧ (k == Kd.int) = false ∧ (k == Kd.tuple || k == .list) = true := fun row => by
      rcases row.kd with z | z
      · exact ⟨_, z, rfl, rfl⟩
      · exact ⟨_, z, rfl, rfl⟩
    rcases hbad with ⟨t, hk, h0, h1, h2⟩ | ⟨xs, row, hx⟩ | ⟨x, y, row, kx, ky, hno⟩
    · refine ⟨t, hk, ?_⟩
      (try dsimp only [q_op, q_un, q_var, q_c, q_nil, q_cons, q_tup, q_frz, q_cel, q_lst, q_test, q_onB, q_and, q_or, q_not, q_andV, q_orV, q_notV, q_if, q_chain, q_next, q_seq, q_drop, q_ret, q_retF, q_retN, q_sif, q_break, q_cont, q_name, q_dnil, q_dcons, q_dtup, q_asg, q_set, q_par, q_for, q_range1, q_range2, q_iseq, q_ienum, q_call, q_cb, q_ncb, q_nop, q_lenset, q_mt, q_mt0, q_setix, q_augs, q_aug, q_nsl, q_onone, q_osome, q_gsl, q_raise, q_raiseF, q_try, q_lc, q_lc2, q_yes, q_wipe0, q_wipe, q_xf, q_I, q_I0, q_U, q_add, q_addT, q_addL, q_addR, q_onL, q_onSt, q_onSl, q_onSs, q_onSrct, q_onSrcl, q_eqI, q_eqB, q_eqS, q_eqN, q_isN, q_ix, q_ixL, q_in, q_len, q_sum, q_max, q_min, q_max2, q_min2, q_abs, q_int, q_intB, q_tupof, q_lstof, q_sort, q_rep, q_cat, q_isi, q_isis, q_setat, q_onC, q_append, q_pop, q_popAt, q_reverse, q_insert, q_sp1, q_sp2, q_sp3, q_sp4, q_at0, q_atS, q_st0, q_stS, q_iteT, q_iteF, q_isB, q_sumS, q_all, q_any, q_repT, q_spV, q_nLcX, q_sFz, q_gFld, q_sFldD, q_gMake, q_gCallI, q_gMeth, q_iOwnF, q_isO, q_gIxI, q_lenO, q_modN, q_divmod, q_gSMeth, q_dtupA, q_dtupAL, q_gRevD, q_revT, q_revL, q_gCallKw, q_eqO, q_gCallVS, q_gOpO, q_gUnO, q_gCMeth, q_gMakeV, q_gSlot, q_gMakeS, q_sSlot, q_gMethS, q_isS, q_lc3, q_tru, q_onTl, q_onTt, q_onTb, q_onTi, q_onTn, q_lstRev, q_lstRg2, q_lstRg1, q_prop, q_inO, q_gOpL, q_neO, q_gOpN, q_lstZip, q_repr, q_isXT])
      refine if_f (by cases t <;> first | rfl | exact absurd rfl h0) ⟨t, hk, ?_⟩
      (try dsimp only [q_op, q_un, q_var, q_c, q_nil, q_cons, q_tup, q_frz, q_cel, q_lst, q_test, q_onB, q_and, q_or, q_not, q_andV, q_orV, q_notV, q_if, q_chain, q_next, q_seq, q_drop, q_ret, q_retF, q_retN, q_sif, q_break, q_cont, q_name, q_dnil, q_dcons, q_dtup, q_asg, q_set, q_par, q_for, q_range1, q_range2, q_iseq, q_ienum, q_call, q_cb, q_ncb, q_nop, q_lenset, q_mt, q_mt0, q_setix, q_augs, q_aug, q_nsl, q_onone, q_osome, q_gsl, q_raise, q_raiseF, q_try, q_lc, q_lc2, q_yes, q_wipe0, q_wipe, q_xf, q_I, q_I0, q_U, q_add, q_addT, q_addL, q_addR, q_onL, q_onSt, q_onSl, q_onSs, q_onSrct, q_onSrcl, q_eqI, q_eqB, q_eqS, q_eqN, q_isN, q_ix, q_ixL, q_in, q_len, q_sum, q_max, q_min, q_max2, q_min2, q_abs, q_int, q_intB, q_tupof, q_lstof, q_sort, q_rep, q_cat, q_isi, q_isis, q_setat, q_onC, q_append, q_pop, q_popAt, q_reverse, q_insert, q_sp1, q_sp2, q_sp3, q_sp4, q_at0, q_atS, q_st0, q_stS, q_iteT, q_iteF, q_isB, q_sumS, q_all, q_any, q_repT, q_spV, q_nLcX, q_sFz, q_gFld, q_sFldD, q_gMake, q_gCallI, q_gMeth, q_iOwnF, q_isO, q_gIxI, q_lenO, q_modN, q_divmod, q_gSMeth, q_dtupA, q_dtupAL, q_gRevD, q_revT, q_revL, q_gCallKw, q_eqO, q_gCallVS, q_gOpO, q_gUnO, q_gCMeth, q_gMakeV, q_gSlot, q_gMakeS, q_sSlot, q_gMethS, q_isS, q_lc3, q_tru, q_onTl, q_onTt, q_onTb, q_onTi, q_onTn, q_lstRev, q_lstRg2, q_lstRg1, q_prop, q_inO, q_gOpL, q_neO, q_gOpN, q_lstZip, q_repr, q_isXT])
      exact if_t (by rw [not_row h1 h2]; rfl) (if_t (by rfl) ⟨rfl, q⟩)
    · obtain ⟨k, k1, k2, k3⟩ := rk row
      refine ⟨k, k1, ?_⟩
      (try dsimp only [q_op, q_un, q_var, q_c, q_nil, q_cons, q_tup, q_frz, q_cel, q_lst, q_test, q_onB, q_and, q_or, q_not, q_andV, q_orV, q_notV, q_if, q_chain, q_next, q_seq, q_drop, q_ret, q_retF, q_retN, q_sif, q_break, q_cont, q_name, q_dnil, q_dcons, q_dtup, q_asg, q_set, q_par, q_for, q_range1, q_range2, q_iseq, q_ienum, q_call, q_cb, q_ncb, q_nop, q_lenset, q_mt, q_mt0, q_setix, q_augs, q_aug, q_nsl, q_onone, q_osome, q_gsl, q_raise, q_raiseF, q_try, q_lc, q_lc2, q_yes, q_wipe0, q_wipe, q_xf, q_I, q_I0, q_U, q_add, q_addT, q_addL, q_addR, q_onL, q_onSt, q_onSl, q_onSs, q_onSrct, q_onSrcl, q_eqI, q_eqB, q_eqS, q_eqN, q_isN, q_ix, q_ixL, q_in, q_len, q_sum, q_max, q_min, q_max2, q_min2, q_abs, q_int, q_intB, q_tupof, q_lstof, q_sort, q_rep, q_cat, q_isi, q_isis, q_setat, q_onC, q_append, q_pop, q_popAt, q_reverse, q_insert, q_sp1, q_sp2, q_sp3, q_sp4, q_at0, q_atS, q_st0, q_stS, q_iteT, q_iteF, q_isB, q_sumS, q_all, q_any, q_repT, q_spV, q_nLcX, q_sFz, q_gFld, q_sFldD, q_gMake, q_gCallI, q_gMeth, q_iOwnF, q_isO, q_gIxI, q_lenO, q_modN, q_divmod, q_gSMeth, q_dtupA, q_dtupAL, q_gRevD, q_revT, q_revL, q_gCallKw, q_eqO, q_gCallVS, q_gOpO, q_gUnO, q_gCMeth, q_gMakeV, q_gSlot, q_gMakeS, q_sSlot, q_gMethS, q_isS, q_lc3, q_tru, q_onTl, q_onTt, q_onTb, q_onTi, q_onTn, q_lstRev, q_lstRg2, q_lstRg1, q_prop, q_inO, q_gOpL, q_neO, q_gOpN, q_lstZip, q_repr, q_isXT])
      refine if_f k2 ⟨k, k1, ?_⟩
      (try dsimp only [q_op, q_un, q_var, q_c, q_nil, q_cons, q_tup, q_frz, q_cel, q_lst, q_test, q_onB, q_and, q_or, q_not, q_andV, q_orV, q_notV, q_if, q_chain, q_next, q_seq, q_drop, q_ret, q_retF, q_retN, q_sif, q_break, q_cont, q_name, q_dnil, q_dcons, q_dtup, q_asg, q_set, q_par, q_for, q_range1, q_range2, q_iseq, q_ienum, q_call, q_cb, q_ncb, q_nop, q_lenset, q_mt, q_mt0, q_setix, q_augs, q_aug, q_nsl, q_onone, q_osome, q_gsl, q_raise, q_raiseF, q_try, q_lc, q_lc2, q_yes, q_wipe0, q_wipe, q_xf, q_I, q_I0, q_U, q_add, q_addT, q_addL, q_addR, q_onL, q_onSt, q_onSl, q_onSs, q_onSrct, q_onSrcl, q_eqI, q_eqB, q_eqS, q_eqN, q_isN, q_ix, q_ixL, q_in, q_len, q_sum, q_max, q_min, q_max2, q_min2, q_abs, q_int, q_intB, q_tupof, q_lstof, q_sort, q_rep, q_cat, q_isi, q_isis, q_setat, q_onC, q_append, q_pop, q_popAt, q_reverse, q_insert, q_sp1, q_sp2, q_sp3, q_sp4, q_at0, q_atS, q_st0, q_stS, q_iteT, q_iteF, q_isB, q_sumS, q_all, q_any, q_repT, q_spV, q_nLcX, q_sFz, q_gFld, q_sFldD, q_gMake, q_gCallI, q_gMeth, q_iOwnF, q_isO, q_gIxI, q_lenO, q_modN, q_divmod, q_gSMeth, q_dtupA, q_dtupAL, q_gRevD, q_revT, q_revL, q_gCallKw, q_eqO, q_gCallVS, q_gOpO, q_gUnO, q_gCMeth, q_gMakeV, q_gSlot, q_gMakeS, q_sSlot, q_gMethS, q_isS, q_lc3, q_tru, q_onTl, q_onTt, q_onTb, q_onTi, q_onTn, q_lstRev, q_lstRg2, q_lstRg1, q_prop, q_inO, q_gOpL, q_neO, q_gOpN, q_lstZip, q_repr, q_isXT])
      refine if_f (by rw [k3]; rfl) (row.onS ?_)
      (try dsimp only [q_op, q_un, q_var, q_c, q_nil, q_cons, q_tup, q_frz, q_cel, q_lst, q_test, q_onB, q_and, q_or, q_not, q_andV, q_orV, q_notV, q_if, q_chain, q_next, q_seq, q_drop, q_ret, q_retF, q_retN, q_sif, q_break, q_cont, q_name, q_dnil, q_dcons, q_dtup, q_asg, q_set, q_par, q_for, q_range1, q_range2, q_iseq, q_ienum, q_call, q_cb, q_ncb, q_nop, q_lenset, q_mt, q_mt0, q_setix, q_augs, q_aug, q_nsl, q_onone, q_osome, q_gsl, q_raise, q_raiseF, q_try, q_lc, q_lc2, q_yes, q_wipe0, q_wipe, q_xf, q_I, q_I0, q_U, q_add, q_addT, q_addL, q_addR, q_onL, q_onSt, q_onSl, q_onSs, q_onSrct, q_onSrcl, q_eqI, q_eqB, q_eqS, q_eqN, q_isN, q_ix, q_ixL, q_in, q_len, q_sum, q_max, q_min, q_max2, q_min2, q_abs, q_int, q_intB, q_tupof, q_lstof, q_sort, q_rep, q_cat, q_isi, q_isis, q_setat, q_onC, q_append, q_pop, q_popAt, q_reverse, q_insert, q_sp1, q_sp2, q_sp3, q_sp4, q_at0, q_atS, q_st0, q_stS, q_iteT, q_iteF, q_isB, q_sumS, q_all, q_any, q_repT, q_spV, q_nLcX, q_sFz, q_gFld, q_sFldD, q_gMake, q_gCallI, q_gMeth, q_iOwnF, q_isO, q_gIxI, q_lenO, q_modN, q_divmod, q_gSMeth, q_dtupA, q_dtupAL, q_gRevD, q_revT, q_revL, q_gCallKw, q_eqO, q_gCallVS, q_gOpO, q_gUnO, q_gCMeth, q_gMakeV, q_gSlot, q_gMakeS, q_sSlot, q_gMethS, q_isS, q_lc3, q_tru, q_onTl, q_onTt, q_onTb, q_onTi, q_onTn, q_lstRev, q_lstRg2, q_lstRg1, q_prop, q_inO, q_gOpL, q_neO, q_gOpN, q_lstZip, q_repr, q_isXT])
      exact if_t (by rw [decide_eq_false (by omega)]; rfl) ⟨rfl, q⟩
    · obtain ⟨k, k1, k2, k3⟩ := rk row
      refine ⟨k, k1, ?_⟩
      (try dsimp only [q_op, q_un, q_var, q_c, q_nil, q_cons, q_tup, q_frz, q_cel, q_lst, q_test, q_onB, q_and, q_or, q_not, q_andV, q_orV, q_notV, q_if, q_chain, q_next, q_seq, q_drop, q_ret, q_retF, q_retN, q_sif, q_break, q_cont, q_name, q_dnil, q_dcons, q_dtup, q_asg, q_set, q_par, q_for, q_range1, q_range2, q_iseq, q_ienum, q_call, q_cb, q_ncb, q_nop, q_lenset, q_mt, q_mt0, q_setix, q_augs, q_aug, q_nsl, q_onone, q_osome, q_gsl, q_raise, q_raiseF, q_try, q_lc, q_lc2, q_yes, q_wipe0, q_wipe, q_xf, q_I, q_I0, q_U, q_add, q_addT, q_addL, q_addR, q_onL, q_onSt, q_onSl, q_onSs, q_onSrct, q_onSrcl, q_eqI, q_eqB, q_eqS, q_eqN, q_isN, q_ix, q_ixL, q_in, q_len, q_sum, q_max, q_min, q_max2, q_min2, q_abs, q_int, q_intB, q_tupof, q_lstof, q_sort, q_rep, q_cat, q_isi, q_isis, q_setat, q_onC, q_append, q_pop, q_popAt, q_reverse, q_insert, q_sp1, q_sp2, q_sp3, q_sp4, q_at0, q_atS, q_st0, q_stS, q_iteT, q_iteF, q_isB, q_sumS, q_all, q_any, q_repT, q_spV, q_nLcX, q_sFz, q_gFld, q_sFldD, q_gMake, q_gCallI, q_gMeth, q_iOwnF, q_isO, q_gIxI, q_lenO, q_modN, q_divmod, q_gSMeth, q_dtupA, q_dtupAL, q_gRevD, q_revT, q_revL, q_gCallKw, q_eqO, q_gCallVS, q_gOpO, q_gUnO, q_gCMeth, q_gMakeV, q_gSlot, q_gMakeS, q_sSlot, q_gMethS, q_isS, q_lc3, q_tru, q_onTl, q_onTt, q_onTb, q_onTi, q_onTn, q_lstRev, q_lstRg2, q_lstRg1, q_prop, q_inO, q_gOpL, q_neO, q_gOpN, q_lstZip, q_repr, q_isXT])
      refine if_f k2 ⟨k, k1, ?_⟩
      (try dsimp only [q_op, q_un, q_var, q_c, q_nil, q_cons, q_tup, q_frz, q_cel, q_lst, q_test, q_onB, q_and, q_or, q_not, q_andV, q_orV, q_notV, q_if, q_chain, q_next, q_seq, q_drop, q_ret, q_retF, q_retN, q_sif, q_break, q_cont, q_name, q_dnil, q_dcons, q_dtup, q_asg, q_set, q_par, q_for, q_range1, q_range2, q_iseq, q_ienum, q_call, q_cb, q_ncb, q_nop, q_lenset, q_mt, q_mt0, q_setix, q_augs, q_aug, q_nsl, q_onone, q_osome, q_gsl, q_raise, q_raiseF, q_try, q_lc, q_lc2, q_yes, q_wipe0, q_wipe, q_xf, q_I, q_I0, q_U, q_add, q_addT, q_addL, q_addR, q_onL, q_onSt, q_onSl, q_onSs, q_onSrct, q_onSrcl, q_eqI, q_eqB, q_eqS, q_eqN, q_isN, q_ix, q_ixL, q_in, q_len, q_sum, q_max, q_min, q_max2, q_min2, q_abs, q_int, q_intB, q_tupof, q_lstof, q_sort, q_rep, q_cat, q_isi, q_isis, q_setat, q_onC, q_append, q_pop, q_popAt, q_reverse, q_insert, q_sp1, q_sp2, q_sp3, q_sp4, q_at0, q_atS, q_st0, q_stS, q_iteT, q_iteF, q_isB, q_sumS, q_all, q_any, q_repT, q_spV, q_nLcX, q_sFz, q_gFld, q_sFldD, q_gMake, q_gCallI, q_gMeth, q_iOwnF, q_isO, q_gIxI, q_lenO, q_modN, q_divmod, q_gSMeth, q_dtupA, q_dtupAL, q_gRevD, q_revT, q_revL, q_gCallKw, q_eqO, q_gCallVS, q_gOpO, q_gUnO, q_gCMeth, q_gMakeV, q_gSlot, q_gMakeS, q_sSlot, q_gMethS, q_isS, q_lc3, q_tru, q_onTl, q_onTt, q_onTb, q_onTi, q_onTn, q_lstRev, q_lstRg2, q_lstRg1, q_prop, q_inO, q_gOpL, q_neO, q_gOpN, q_lstZip, q_repr, q_isXT])
      refine if_f (by rw [k3]; rfl) (row.onS ?_)
      (try dsimp only [q_op, q_un, q_var, q_c, q_nil, q_cons, q_tup, q_frz, q_cel, q_lst, q_test, q_onB, q_and, q_or, q_not, q_andV, q_orV, q_notV, q_if, q_chain, q_next, q_seq, q_drop, q_ret, q_retF, q_retN, q_sif, q_break, q_cont, q_name, q_dnil, q_dcons, q_dtup, q_asg, q_set, q_par, q_for, q_range1, q_range2, q_iseq, q_ienum, q_call, q_cb, q_ncb, q_nop, q_lenset, q_mt, q_mt0, q_setix, q_augs, q_aug, q_nsl, q_onone, q_osome, q_gsl, q_raise, q_raiseF, q_try, q_lc, q_lc2, q_yes, q_wipe0, q_wipe, q_xf, q_I, q_I0, q_U, q_add, q_addT, q_addL, q_addR, q_onL, q_onSt, q_onSl, q_onSs, q_onSrct, q_onSrcl, q_eqI, q_eqB, q_eqS, q_eqN, q_isN, q_ix, q_ixL, q_in, q_len, q_sum, q_max, q_min, q_max2, q_min2, q_abs, q_int, q_intB, q_tupof, q_lstof, q_sort, q_rep, q_cat, q_isi, q_isis, q_setat, q_onC, q_append, q_pop, q_popAt, q_reverse, q_insert, q_sp1, q_sp2, q_sp3, q_sp4, q_at0, q_atS, q_st0, q_stS, q_iteT, q_iteF, q_isB, q_sumS, q_all, q_any, q_repT, q_spV, q_nLcX, q_sFz, q_gFld, q_sFldD, q_gMake, q_gCallI, q_gMeth, q_iOwnF, q_isO, q_gIxI, q_lenO, q_modN, q_divmod, q_gSMeth, q_dtupA, q_dtupAL, q_gRevD, q_revT, q_revL, q_gCallKw, q_eqO, q_gCallVS, q_gOpO, q_gUnO, q_gCMeth, q_gMakeV, q_gSlot, q_gMakeS, q_sSlot, q_gMethS, q_isS, q_lc3, q_tru, q_onTl, q_onTt, q_onTb, q_onTi, q_onTn, q_lstRev, q_lstRg2, q_lstRg1, q_prop, q_inO, q_gOpL, q_neO, q_gOpN, q_lstZip, q_repr, q_isXT])
      obtain ⟨a, a1, a2⟩ := kind_kd (M := M) kx
      obtain ⟨b, b1, b2⟩ := kind_kd (M := M) ky
      refine if_f (by rfl) (row.onS ⟨_, rfl, row.onS ⟨_, rfl, a, a1, ?_⟩⟩)
      (try dsimp only [q_op, q_un, q_var, q_c, q_nil, q_cons, q_tup, q_frz, q_cel, q_lst, q_test, q_onB, q_and, q_or, q_not, q_andV, q_orV, q_notV, q_if, q_chain, q_next, q_seq, q_drop, q_ret, q_retF, q_retN, q_sif, q_break, q_cont, q_name, q_dnil, q_dcons, q_dtup, q_asg, q_set, q_par, q_for, q_range1, q_range2, q_iseq, q_ienum, q_call, q_cb, q_ncb, q_nop, q_lenset, q_mt, q_mt0, q_setix, q_augs, q_aug, q_nsl, q_onone, q_osome, q_gsl, q_raise, q_raiseF, q_try, q_lc, q_lc2, q_yes, q_wipe0, q_wipe, q_xf, q_I, q_I0, q_U, q_add, q_addT, q_addL, q_addR, q_onL, q_onSt, q_onSl, q_onSs, q_onSrct, q_onSrcl, q_eqI, q_eqB, q_eqS, q_eqN, q_isN, q_ix, q_ixL, q_in, q_len, q_sum, q_max, q_min, q_max2, q_min2, q_abs, q_int, q_intB, q_tupof, q_lstof, q_sort, q_rep, q_cat, q_isi, q_isis, q_setat, q_onC, q_append, q_pop, q_popAt, q_reverse, q_insert, q_sp1, q_sp2, q_sp3, q_sp4, q_at0, q_atS, q_st0, q_stS, q_iteT, q_iteF, q_isB, q_sumS, q_all, q_any, q_repT, q_spV, q_nLcX, q_sFz, q_gFld, q_sFldD, q_gMake, q_gCallI, q_gMeth, q_iOwnF, q_isO, q_gIxI, q_lenO, q_modN, q_divmod, q_gSMeth, q_dtupA, q_dtupAL, q_gRevD, q_revT, q_revL, q_gCallKw, q_eqO, q_gCallVS, q_gOpO, q_gUnO, q_gCMeth, q_gMakeV, q_gSlot, q_gMakeS, q_sSlot, q_gMethS, q_isS, q_lc3, q_tru, q_onTl, q_onTt, q_onTb, q_onTi, q_onTn, q_lstRev, q_lstRg2, q_lstRg1, q_prop, q_inO, q_gOpL, q_neO, q_gOpN, q_lstZip, q_repr, q_isXT])
      cases ha : (a == Kd.int) with
      | false => exact if_t (by rfl) (if_t (by rfl) ⟨rfl, q⟩)
      | true =>
        refine if_f (by rfl) ⟨b, b1, ?_⟩
        (try dsimp only [q_op, q_un, q_var, q_c, q_nil, q_cons, q_tup, q_frz, q_cel, q_lst, q_test, q_onB, q_and, q_or, q_not, q_andV, q_orV, q_notV, q_if, q_chain, q_next, q_seq, q_drop, q_ret, q_retF, q_retN, q_sif, q_break, q_cont, q_name, q_dnil, q_dcons, q_dtup, q_asg, q_set, q_par, q_for, q_range1, q_range2, q_iseq, q_ienum, q_call, q_cb, q_ncb, q_nop, q_lenset, q_mt, q_mt0, q_setix, q_augs, q_aug, q_nsl, q_onone, q_osome, q_gsl, q_raise, q_raiseF, q_try, q_lc, q_lc2, q_yes, q_wipe0, q_wipe, q_xf, q_I, q_I0, q_U, q_add, q_addT, q_addL, q_addR, q_onL, q_onSt, q_onSl, q_onSs, q_onSrct, q_onSrcl, q_eqI, q_eqB, q_eqS, q_eqN, q_isN, q_ix, q_ixL, q_in, q_len, q_sum, q_max, q_min, q_max2, q_min2, q_abs, q_int, q_intB, q_tupof, q_lstof, q_sort, q_rep, q_cat, q_isi, q_isis, q_setat, q_onC, q_append, q_pop, q_popAt, q_reverse, q_insert, q_sp1, q_sp2, q_sp3, q_sp4, q_at0, q_atS, q_st0, q_stS, q_iteT, q_iteF, q_isB, q_sumS, q_all, q_any, q_repT, q_spV, q_nLcX, q_sFz, q_gFld, q_sFldD, q_gMake, q_gCallI, q_gMeth, q_iOwnF, q_isO, q_gIxI, q_lenO, q_modN, q_divmod, q_gSMeth, q_dtupA, q_dtupAL, q_gRevD, q_revT, q_revL, q_gCallKw, q_eqO, q_gCallVS, q_gOpO, q_gUnO, q_gCMeth, q_gMakeV, q_gSlot, q_gMakeS, q_sSlot, q_gMethS, q_isS, q_lc3, q_tru, q_onTl, q_onTt, q_onTb, q_onTi, q_onTn, q_lstRev, q_lstRg2, q_lstRg1, q_prop, q_inO, q_gOpL, q_neO, q_gOpN, q_lstZip, q_repr, q_isXT])
        cases hb : (b == Kd.int) with
        | false => exact if_t (by rfl) (if_t (by rfl) ⟨rfl, q⟩)
        | true =>
          obtain ⟨t, rfl⟩ := a2.mp ha
          obtain ⟨u, rfl⟩ := b2.mp hb
          refine if_f (by rfl) ?_
          (try dsimp only [q_op, q_un, q_var, q_c, q_nil, q_cons, q_tup, q_frz, q_cel, q_lst, q_test, q_onB, q_and, q_or, q_not, q_andV, q_orV, q_notV, q_if, q_chain, q_next, q_seq, q_drop, q_ret, q_retF, q_retN, q_sif, q_break, q_cont, q_name, q_dnil, q_dcons, q_dtup, q_asg, q_set, q_par, q_for, q_range1, q_range2, q_iseq, q_ienum, q_call, q_cb, q_ncb, q_nop, q_lenset, q_mt, q_mt0, q_setix, q_augs, q_aug, q_nsl, q_onone, q_osome, q_gsl, q_raise, q_raiseF, q_try, q_lc, q_lc2, q_yes, q_wipe0, q_wipe, q_xf, q_I, q_I0, q_U, q_add, q_addT, q_addL, q_addR, q_onL, q_onSt, q_onSl, q_onSs, q_onSrct, q_onSrcl, q_eqI, q_eqB, q_eqS, q_eqN, q_isN, q_ix, q_ixL, q_in, q_len, q_sum, q_max, q_min, q_max2, q_min2, q_abs, q_int, q_intB, q_tupof, q_lstof, q_sort, q_rep, q_cat, q_isi, q_isis, q_setat, q_onC, q_append, q_pop, q_popAt, q_reverse, q_insert, q_sp1, q_sp2, q_sp3, q_sp4, q_at0, q_atS, q_st0, q_stS, q_iteT, q_iteF, q_isB, q_sumS, q_all, q_any, q_repT, q_spV, q_nLcX, q_sFz, q_gFld, q_sFldD, q_gMake, q_gCallI, q_gMeth, q_iOwnF, q_isO, q_gIxI, q_lenO, q_modN, q_divmod, q_gSMeth, q_dtupA, q_dtupAL, q_gRevD, q_revT, q_revL, q_gCallKw, q_eqO, q_gCallVS, q_gOpO, q_gUnO, q_gCMeth, q_gMakeV, q_gSlot, q_gMakeS, q_sSlot, q_gMethS, q_isS, q_lc3, q_tru, q_onTl, q_onTt, q_onTb, q_onTi, q_onTn, q_lstRev, q_lstRg2, q_lstRg1, q_prop, q_inO, q_gOpL, q_neO, q_gOpN, q_lstZip, q_repr, q_isXT])
          refine if_t (decide_eq_true ?_) ⟨rfl, q⟩
          refine Classical.byContradiction fun z => hno ⟨t, u, rfl, rfl, by omega⟩
theorem b_both_fractions : ∀ d0 d1 M Q E, sp_both_fractions K [d0, d1] M Q E → g_both_fractions K { nx := fun _ M => Q .non M, rt := Q, ex := fun x _ M => E x M } [some d0, some d1, none, none, none, none] M := by
  rintro d0 d1 M Q E h
  have h : twoF K M d0 d1 (fun x M => E x M) fun t b u v => Q (.tup [.int (lo t b).1, .int (lo t b).2, .int (lo u v).1, .int (lo u v).2]) M := h
  unfold g_both_fractions
  dsimp only [q_op, q_un, q_var, q_c, q_nil, q_cons, q_tup, q_frz, q_cel, q_lst, q_test, q_onB, q_and, q_or, q_not, q_andV, q_orV, q_notV, q_if, q_chain, q_next, q_seq, q_drop, q_ret, q_retF, q_retN, q_sif, q_break, q_cont, q_name, q_dnil, q_dcons, q_dtup, q_asg, q_set, q_par, q_for, q_range1, q_range2, q_iseq, q_ienum, q_call, q_cb, q_ncb, q_nop, q_lenset, q_mt, q_mt0, q_setix, q_augs, q_aug, q_nsl, q_onone, q_osome, q_gsl, q_raise, q_raiseF, q_try, q_lc, q_lc2, q_yes, q_wipe0, q_wipe, q_xf, q_I, q_I0, q_U, q_add, q_addT, q_addL, q_addR, q_onL, q_onSt, q_onSl, q_onSs, q_onSrct, q_onSrcl, q_eqI, q_eqB, q_eqS, q_eqN, q_isN, q_ix, q_ixL, q_in, q_len, q_sum, q_max, q_min, q_max2, q_min2, q_abs, q_int, q_intB, q_tupof, q_lstof, q_sort, q_rep, q_cat, q_isi, q_isis, q_setat, q_onC, q_append, q_pop, q_popAt, q_reverse, q_insert, q_sp1, q_sp2, q_sp3, q_sp4, q_at0, q_atS, q_st0, q_stS, q_iteT, q_iteF, q_isB, q_sumS, q_all, q_any, q_repT, q_spV, q_nLcX, q_sFz, q_gFld, q_sFldD, q_gMake, q_gCallI, q_gMeth, q_iOwnF, q_isO, q_gIxI, q_lenO, q_modN, q_divmod, q_gSMeth, q_dtupA, q_dtupAL, q_gRevD, q_revT, q_revL, q_gCallKw, q_eqO, q_gCallVS, q_gOpO, q_gUnO, q_gCMeth, q_gMakeV, q_gSlot, q_gMakeS, q_sSlot, q_gMethS, q_isS, q_lc3, q_tru, q_onTl, q_onTt, q_onTb, q_onTi, q_onTn, q_lstRev, q_lstRg2, q_lstRg1, q_prop, q_inO, q_gOpL, q_neO, q_gOpN, q_lstZip, q_repr, q_isXT, sp_fraction]
  refine ⟨_, rfl, fracC_imp (fun _ z => z) (fun t b hb n1 n2 h => ?_) h⟩
  refine ⟨rfl, rfl, _, rfl, fracC_imp (fun _ z => z) (fun u v hv n3 n4 h => ?_) h⟩
  refine ⟨rfl, rfl, by rw [sz]; show 4 ≤ 16777216; omega, h⟩
theorem b_taken_off : ∀ d0 d1 M Q E, sp_taken_off K [d0, d1] M Q E → g_taken_off K { nx := fun _ M => Q .non M, rt := Q, ex := fun x _ M => E x M } [some d0, some d1, none, none, none, none] M := by
  rintro d0 d1 M Q E h
  have h : twoF K M d0 d1 (fun x M => E x M) fun t b u v => Q (frD (t * v - u * b) (b * v)) M := h
  unfold g_taken_off
  dsimp only [q_op, q_un, q_var, q_c, q_nil, q_cons, q_tup, q_frz, q_cel, q_lst, q_test, q_onB, q_and, q_or, q_not, q_andV, q_orV, q_notV, q_if, q_chain, q_next, q_seq, q_drop, q_ret, q_retF, q_retN, q_sif, q_break, q_cont, q_name, q_dnil, q_dcons, q_dtup, q_asg, q_set, q_par, q_for, q_range1, q_range2, q_iseq, q_ienum, q_call, q_cb, q_ncb, q_nop, q_lenset, q_mt, q_mt0, q_setix, q_augs, q_aug, q_nsl, q_onone, q_osome, q_gsl, q_raise, q_raiseF, q_try, q_lc, q_lc2, q_yes, q_wipe0, q_wipe, q_xf, q_I, q_I0, q_U, q_add, q_addT, q_addL, q_addR, q_onL, q_onSt, q_onSl, q_onSs, q_onSrct, q_onSrcl, q_eqI, q_eqB, q_eqS, q_eqN, q_isN, q_ix, q_ixL, q_in, q_len, q_sum, q_max, q_min, q_max2, q_min2, q_abs, q_int, q_intB, q_tupof, q_lstof, q_sort, q_rep, q_cat, q_isi, q_isis, q_setat, q_onC, q_append, q_pop, q_popAt, q_reverse, q_insert, q_sp1, q_sp2, q_sp3, q_sp4, q_at0, q_atS, q_st0, q_stS, q_iteT, q_iteF, q_isB, q_sumS, q_all, q_any, q_repT, q_spV, q_nLcX, q_sFz, q_gFld, q_sFldD, q_gMake, q_gCallI, q_gMeth, q_iOwnF, q_isO, q_gIxI, q_lenO, q_modN, q_divmod, q_gSMeth, q_dtupA, q_dtupAL, q_gRevD, q_revT, q_revL, q_gCallKw, q_eqO, q_gCallVS, q_gOpO, q_gUnO, q_gCMeth, q_gMakeV, q_gSlot, q_gMakeS, q_sSlot, q_gMethS, q_isS, q_lc3, q_tru, q_onTl, q_onTt, q_onTb, q_onTi, q_onTn, q_lstRev, q_lstRg2, q_lstRg1, q_prop, q_inO, q_gOpL, q_neO, q_gOpN, q_lstZip, q_repr, q_isXT, sp_both_fractions, sp_lowest]
  refine twoF_imp (fun _ z => z) (fun t b u v hb hv n1 n2 n3 n4 q => ?_) h
  have m1 := lo_nb1 hb n1
  have m2 := lo_nb2 hb n2 (t := t)
  have m3 := lo_nb1 hv n3
  have m4 := lo_nb2 hv n4 (t := u)
  refine ⟨rfl, rfl, cmul m1 m4, cmul m3 m2, cmul m2 m4, _, _, rfl, rfl, Int.mul_pos (lo_pos hb) (lo_pos hv), nb_mono (nb_sub (nb_mul m1 m4) (nb_mul m3 m2)) (by decide), nb_mono (nb_mul m2 m4) (by decide), ?_⟩
  rw [sub_raw hb hv]
  exact q
theorem b_divided : ∀ d0 d1 M Q E, sp_divided K [d0, d1] M Q E → g_divided K { nx := fun _ M => Q .non M, rt := Q, ex := fun x _ M => E x M } [some d0, some d1, none, none, none, none] M := by
  rintro d0 d1 M Q E h
  have h : twoF K M d0 d1 (fun x M => E x M) fun t b u v => if u = 0 then (fun x M => E x M) (xBN K "divisor") M else if u < 0 then Q (frD (-t * v) (-u * b)) M else Q (frD (t * v) (u * b)) M := h
  unfold g_divided
  dsimp only [q_op, q_un, q_var, q_c, q_nil, q_cons, q_tup, q_frz, q_cel, q_lst, q_test, q_onB, q_and, q_or, q_not, q_andV, q_orV, q_notV, q_if, q_chain, q_next, q_seq, q_drop, q_ret, q_retF, q_retN, q_sif, q_break, q_cont, q_name, q_dnil, q_dcons, q_dtup, q_asg, q_set, q_par, q_for, q_range1, q_range2, q_iseq, q_ienum, q_call, q_cb, q_ncb, q_nop, q_lenset, q_mt, q_mt0, q_setix, q_augs, q_aug, q_nsl, q_onone, q_osome, q_gsl, q_raise, q_raiseF, q_try, q_lc, q_lc2, q_yes, q_wipe0, q_wipe, q_xf, q_I, q_I0, q_U, q_add, q_addT, q_addL, q_addR, q_onL, q_onSt, q_onSl, q_onSs, q_onSrct, q_onSrcl, q_eqI, q_eqB, q_eqS, q_eqN, q_isN, q_ix, q_ixL, q_in, q_len, q_sum, q_max, q_min, q_max2, q_min2, q_abs, q_int, q_intB, q_tupof, q_lstof, q_sort, q_rep, q_cat, q_isi, q_isis, q_setat, q_onC, q_append, q_pop, q_popAt, q_reverse, q_insert, q_sp1, q_sp2, q_sp3, q_sp4, q_at0, q_atS, q_st0, q_stS, q_iteT, q_iteF, q_isB, q_sumS, q_all, q_any, q_repT, q_spV, q_nLcX, q_sFz, q_gFld, q_sFldD, q_gMake, q_gCallI, q_gMeth, q_iOwnF, q_isO, q_gIxI, q_lenO, q_modN, q_divmod, q_gSMeth, q_dtupA, q_dtupAL, q_gRevD, q_revT, q_revL, q_gCallKw, q_eqO, q_gCallVS, q_gOpO, q_gUnO, q_gCMeth, q_gMakeV, q_gSlot, q_gMakeS, q_sSlot, q_gMethS, q_isS, q_lc3, q_tru, q_onTl, q_onTt, q_onTb, q_onTi, q_onTn, q_lstRev, q_lstRg2, q_lstRg1, q_prop, q_inO, q_gOpL, q_neO, q_gOpN, q_lstZip, q_repr, q_isXT, sp_both_fractions, sp_lowest]
  refine twoF_imp (fun _ z => z) (fun t b u v hb hv n1 n2 n3 n4 q => ?_) h
  have m1 := lo_nb1 hb n1
  have m2 := lo_nb2 hb n2 (t := t)
  have m3 := lo_nb1 hv n3
  have m4 := lo_nb2 hv n4 (t := u)
  obtain ⟨s1, s2⟩ := lo_sign (u := u) hv
  refine ⟨rfl, rfl, ?_⟩
  (try dsimp only [q_op, q_un, q_var, q_c, q_nil, q_cons, q_tup, q_frz, q_cel, q_lst, q_test, q_onB, q_and, q_or, q_not, q_andV, q_orV, q_notV, q_if, q_chain, q_next, q_seq, q_drop, q_ret, q_retF, q_retN, q_sif, q_break, q_cont, q_name, q_dnil, q_dcons, q_dtup, q_asg, q_set, q_par, q_for, q_range1, q_range2, q_iseq, q_ienum, q_call, q_cb, q_ncb, q_nop, q_lenset, q_mt, q_mt0, q_setix, q_augs, q_aug, q_nsl, q_onone, q_osome, q_gsl, q_raise, q_raiseF, q_try, q_lc, q_lc2, q_yes, q_wipe0, q_wipe, q_xf, q_I, q_I0, q_U, q_add, q_addT, q_addL, q_addR, q_onL, q_onSt, q_onSl, q_onSs, q_onSrct, q_onSrcl, q_eqI, q_eqB, q_eqS, q_eqN, q_isN, q_ix, q_ixL, q_in, q_len, q_sum, q_max, q_min, q_max2, q_min2, q_abs, q_int, q_intB, q_tupof, q_lstof, q_sort, q_rep, q_cat, q_isi, q_isis, q_setat, q_onC, q_append, q_pop, q_popAt, q_reverse, q_insert, q_sp1, q_sp2, q_sp3, q_sp4, q_at0, q_atS, q_st0, q_stS, q_iteT, q_iteF, q_isB, q_sumS, q_all, q_any, q_repT, q_spV, q_nLcX, q_sFz, q_gFld, q_sFldD, q_gMake, q_gCallI, q_gMeth, q_iOwnF, q_isO, q_gIxI, q_lenO, q_modN, q_divmod, q_gSMeth, q_dtupA, q_dtupAL, q_gRevD, q_revT, q_revL, q_gCallKw, q_eqO, q_gCallVS, q_gOpO, q_gUnO, q_gCMeth, q_gMakeV, q_gSlot, q_gMakeS, q_sSlot, q_gMethS, q_isS, q_lc3, q_tru, q_onTl, q_onTt, q_onTb, q_onTi, q_onTn, q_lstRev, q_lstRg2, q_lstRg1, q_prop, q_inO, q_gOpL, q_neO, q_gOpN, q_lstZip, q_repr, q_isXT])
  by_cases c : u = 0
  · rw [if_pos c] at q
    exact if_t (decide_eq_true (s1.mpr c)) ⟨rfl, q⟩
  rw [if_neg c] at q
  refine if_f (decide_eq_false fun z => c (s1.mp z)) ?_
  by_cases c2 : u < 0
  · rw [if_pos c2] at q
    refine if_t (decide_eq_true (s2.mpr c2)) ⟨cmul (nb_neg m1) m4, cmul (nb_neg m3) m2, _, _, rfl, rfl, Int.mul_pos (by have := s2.mpr c2; omega) (lo_pos hb), nb_mono (nb_mul (nb_neg m1) m4) (by decide), nb_mono (nb_mul (nb_neg m3) m2) (by decide), ?_⟩
    rw [div_raw2 hb hv c2]
    exact q
  · rw [if_neg c2] at q
    refine if_f (decide_eq_false fun z => c2 (s2.mp z)) ⟨cmul m1 m4, cmul m3 m2, _, _, rfl, rfl, Int.mul_pos (by omega) (lo_pos hb), nb_mono (nb_mul m1 m4) (by decide), nb_mono (nb_mul m3 m2) (by decide), ?_⟩
    rw [div_raw hb hv (by omega)]
    exact q
end
section
variable {K : PySem.W.Frag} {mg : Str → Option Value}
theorem b_told_chance : ∀ d0 d1 M Q E, sp_told_chance K [d0, d1] M Q E → g_told_chance K { nx := fun _ M => Q .non M, rt := Q, ex := fun x _ M => E x M } [some d0, some d1, none, none] M := by
  rintro d0 d1 M Q E ⟨nm, rfl, h⟩
  have h : fracC K M d0 nm (fun x M => E x M) fun t b => if t < 0 ∨ b < t then E (xBN K nm) M else Q (frD t b) M := h
  unfold g_told_chance
  dsimp only [q_op, q_un, q_var, q_c, q_nil, q_cons, q_tup, q_frz, q_cel, q_lst, q_test, q_onB, q_and, q_or, q_not, q_andV, q_orV, q_notV, q_if, q_chain, q_next, q_seq, q_drop, q_ret, q_retF, q_retN, q_sif, q_break, q_cont, q_name, q_dnil, q_dcons, q_dtup, q_asg, q_set, q_par, q_for, q_range1, q_range2, q_iseq, q_ienum, q_call, q_cb, q_ncb, q_nop, q_lenset, q_mt, q_mt0, q_setix, q_augs, q_aug, q_nsl, q_onone, q_osome, q_gsl, q_raise, q_raiseF, q_try, q_lc, q_lc2, q_yes, q_wipe0, q_wipe, q_xf, q_I, q_I0, q_U, q_add, q_addT, q_addL, q_addR, q_onL, q_onSt, q_onSl, q_onSs, q_onSrct, q_onSrcl, q_eqI, q_eqB, q_eqS, q_eqN, q_isN, q_ix, q_ixL, q_in, q_len, q_sum, q_max, q_min, q_max2, q_min2, q_abs, q_int, q_intB, q_tupof, q_lstof, q_sort, q_rep, q_cat, q_isi, q_isis, q_setat, q_onC, q_append, q_pop, q_popAt, q_reverse, q_insert, q_sp1, q_sp2, q_sp3, q_sp4, q_at0, q_atS, q_st0, q_stS, q_iteT, q_iteF, q_isB, q_sumS, q_all, q_any, q_repT, q_spV, q_nLcX, q_sFz, q_gFld, q_sFldD, q_gMake, q_gCallI, q_gMeth, q_iOwnF, q_isO, q_gIxI, q_lenO, q_modN, q_divmod, q_gSMeth, q_dtupA, q_dtupAL, q_gRevD, q_revT, q_revL, q_gCallKw, q_eqO, q_gCallVS, q_gOpO, q_gUnO, q_gCMeth, q_gMakeV, q_gSlot, q_gMakeS, q_sSlot, q_gMethS, q_isS, q_lc3, q_tru, q_onTl, q_onTt, q_onTb, q_onTi, q_onTn, q_lstRev, q_lstRg2, q_lstRg1, q_prop, q_inO, q_gOpL, q_neO, q_gOpN, q_lstZip, q_repr, q_isXT, sp_fraction]
  refine ⟨_, rfl, fracC_imp (fun _ z => z) (fun t b hb n1 n2 q => ?_) h⟩
  have e1 := lo_top t b
  have e2 := lo_bot t b
  have hg : (0 : Int) < (Int.gcd t b : Nat) := by have := g_pos (t := t) hb; omega
  have sg := (lo_sign (u := t) hb).2
  have gt : (lo t b).2 < (lo t b).1 ↔ b < t := by
    constructor
    · intro z
      have := Int.mul_lt_mul_of_pos_right z hg
      omega
    · intro z
      refine Int.lt_of_mul_lt_mul_right (a := (Int.gcd t b : Nat)) ?_ (by omega)
      omega
  have l2 : [D.int (lo t b).1, D.int (lo t b).2].length ≤ sizeLine := by rw [sz]; show 2 ≤ 16777216; omega
  unfold frD at *
  (try dsimp only [q_op, q_un, q_var, q_c, q_nil, q_cons, q_tup, q_frz, q_cel, q_lst, q_test, q_onB, q_and, q_or, q_not, q_andV, q_orV, q_notV, q_if, q_chain, q_next, q_seq, q_drop, q_ret, q_retF, q_retN, q_sif, q_break, q_cont, q_name, q_dnil, q_dcons, q_dtup, q_asg, q_set, q_par, q_for, q_range1, q_range2, q_iseq, q_ienum, q_call, q_cb, q_ncb, q_nop, q_lenset, q_mt, q_mt0, q_setix, q_augs, q_aug, q_nsl, q_onone, q_osome, q_gsl, q_raise, q_raiseF, q_try, q_lc, q_lc2, q_yes, q_wipe0, q_wipe, q_xf, q_I, q_I0, q_U, q_add, q_addT, q_addL, q_addR, q_onL, q_onSt, q_onSl, q_onSs, q_onSrct, q_onSrcl, q_eqI, q_eqB, q_eqS, q_eqN, q_isN, q_ix, q_ixL, q_in, q_len, q_sum, q_max, q_min, q_max2, q_min2, q_abs, q_int, q_intB, q_tupof, q_lstof, q_sort, q_rep, q_cat, q_isi, q_isis, q_setat, q_onC, q_append, q_pop, q_popAt, q_reverse, q_insert, q_sp1, q_sp2, q_sp3, q_sp4, q_at0, q_atS, q_st0, q_stS, q_iteT, q_iteF, q_isB, q_sumS, q_all, q_any, q_repT, q_spV, q_nLcX, q_sFz, q_gFld, q_sFldD, q_gMake, q_gCallI, q_gMeth, q_iOwnF, q_isO, q_gIxI, q_lenO, q_modN, q_divmod, q_gSMeth, q_dtupA, q_dtupAL, q_gRevD, q_revT, q_revL, q_gCallKw, q_eqO, q_gCallVS, q_gOpO, q_gUnO, q_gCMeth, q_gMakeV, q_gSlot, q_gMakeS, q_sSlot, q_gMethS, q_isS, q_lc3, q_tru, q_onTl, q_onTt, q_onTb, q_onTi, q_onTn, q_lstRev, q_lstRg2, q_lstRg1, q_prop, q_inO, q_gOpL, q_neO, q_gOpN, q_lstZip, q_repr, q_isXT])
  refine ⟨rfl, rfl, ?_⟩
  by_cases c : t < 0
  · rw [if_pos (.inl c)] at q
    exact if_t (decide_eq_true (sg.mpr c)) (if_t rfl ⟨rfl, q⟩)
  · refine if_f (decide_eq_false (fun z => c (sg.mp z))) ?_
    by_cases c2 : b < t
    · rw [if_pos (.inr c2)] at q
      exact if_t (decide_eq_true (gt.mpr c2)) ⟨rfl, q⟩
    · rw [if_neg (fun z => z.elim c c2)] at q
      exact if_f (decide_eq_false (fun z => c2 (gt.mp z))) ⟨l2, q⟩
end
section
variable {K : PySem.W.Frag} {mg : Str → Option Value}
theorem b__law_at_most : ∀ d0 d1 M Q E, sp__law_at_most K [d0, d1] M Q E → g__law_at_most K { nx := fun _ M => Q .non M, rt := Q, ex := fun x _ M => E x M } [some d0, some d1] M := by
  rintro d0 d1 M Q E ⟨a, b, c, d, rfl, rfl, h1, h2, h3, h4, q⟩
  unfold g__law_at_most
  dsimp only [q_op, q_un, q_var, q_c, q_nil, q_cons, q_tup, q_frz, q_cel, q_lst, q_test, q_onB, q_and, q_or, q_not, q_andV, q_orV, q_notV, q_if, q_chain, q_next, q_seq, q_drop, q_ret, q_retF, q_retN, q_sif, q_break, q_cont, q_name, q_dnil, q_dcons, q_dtup, q_asg, q_set, q_par, q_for, q_range1, q_range2, q_iseq, q_ienum, q_call, q_cb, q_ncb, q_nop, q_lenset, q_mt, q_mt0, q_setix, q_augs, q_aug, q_nsl, q_onone, q_osome, q_gsl, q_raise, q_raiseF, q_try, q_lc, q_lc2, q_yes, q_wipe0, q_wipe, q_xf, q_I, q_I0, q_U, q_add, q_addT, q_addL, q_addR, q_onL, q_onSt, q_onSl, q_onSs, q_onSrct, q_onSrcl, q_eqI, q_eqB, q_eqS, q_eqN, q_isN, q_ix, q_ixL, q_in, q_len, q_sum, q_max, q_min, q_max2, q_min2, q_abs, q_int, q_intB, q_tupof, q_lstof, q_sort, q_rep, q_cat, q_isi, q_isis, q_setat, q_onC, q_append, q_pop, q_popAt, q_reverse, q_insert, q_sp1, q_sp2, q_sp3, q_sp4, q_at0, q_atS, q_st0, q_stS, q_iteT, q_iteF, q_isB, q_sumS, q_all, q_any, q_repT, q_spV, q_nLcX, q_sFz, q_gFld, q_sFldD, q_gMake, q_gCallI, q_gMeth, q_iOwnF, q_isO, q_gIxI, q_lenO, q_modN, q_divmod, q_gSMeth, q_dtupA, q_dtupAL, q_gRevD, q_revT, q_revL, q_gCallKw, q_eqO, q_gCallVS, q_gOpO, q_gUnO, q_gCMeth, q_gMakeV, q_gSlot, q_gMakeS, q_sSlot, q_gMethS, q_isS, q_lc3, q_tru, q_onTl, q_onTt, q_onTb, q_onTi, q_onTn, q_lstRev, q_lstRg2, q_lstRg1, q_prop, q_inO, q_gOpL, q_neO, q_gOpN, q_lstZip, q_repr, q_isXT]
  refine ⟨_, rfl, _, rfl, ?_⟩
  (try dsimp only [q_op, q_un, q_var, q_c, q_nil, q_cons, q_tup, q_frz, q_cel, q_lst, q_test, q_onB, q_and, q_or, q_not, q_andV, q_orV, q_notV, q_if, q_chain, q_next, q_seq, q_drop, q_ret, q_retF, q_retN, q_sif, q_break, q_cont, q_name, q_dnil, q_dcons, q_dtup, q_asg, q_set, q_par, q_for, q_range1, q_range2, q_iseq, q_ienum, q_call, q_cb, q_ncb, q_nop, q_lenset, q_mt, q_mt0, q_setix, q_augs, q_aug, q_nsl, q_onone, q_osome, q_gsl, q_raise, q_raiseF, q_try, q_lc, q_lc2, q_yes, q_wipe0, q_wipe, q_xf, q_I, q_I0, q_U, q_add, q_addT, q_addL, q_addR, q_onL, q_onSt, q_onSl, q_onSs, q_onSrct, q_onSrcl, q_eqI, q_eqB, q_eqS, q_eqN, q_isN, q_ix, q_ixL, q_in, q_len, q_sum, q_max, q_min, q_max2, q_min2, q_abs, q_int, q_intB, q_tupof, q_lstof, q_sort, q_rep, q_cat, q_isi, q_isis, q_setat, q_onC, q_append, q_pop, q_popAt, q_reverse, q_insert, q_sp1, q_sp2, q_sp3, q_sp4, q_at0, q_atS, q_st0, q_stS, q_iteT, q_iteF, q_isB, q_sumS, q_all, q_any, q_repT, q_spV, q_nLcX, q_sFz, q_gFld, q_sFldD, q_gMake, q_gCallI, q_gMeth, q_iOwnF, q_isO, q_gIxI, q_lenO, q_modN, q_divmod, q_gSMeth, q_dtupA, q_dtupAL, q_gRevD, q_revT, q_revL, q_gCallKw, q_eqO, q_gCallVS, q_gOpO, q_gUnO, q_gCMeth, q_gMakeV, q_gSlot, q_gMakeS, q_sSlot, q_gMethS, q_isS, q_lc3, q_tru, q_onTl, q_onTt, q_onTb, q_onTi, q_onTn, q_lstRev, q_lstRg2, q_lstRg1, q_prop, q_inO, q_gOpL, q_neO, q_gOpN, q_lstZip, q_repr, q_isXT])
  refine ⟨cmul h1 h4, _, rfl, _, rfl, ?_⟩
  (try dsimp only [q_op, q_un, q_var, q_c, q_nil, q_cons, q_tup, q_frz, q_cel, q_lst, q_test, q_onB, q_and, q_or, q_not, q_andV, q_orV, q_notV, q_if, q_chain, q_next, q_seq, q_drop, q_ret, q_retF, q_retN, q_sif, q_break, q_cont, q_name, q_dnil, q_dcons, q_dtup, q_asg, q_set, q_par, q_for, q_range1, q_range2, q_iseq, q_ienum, q_call, q_cb, q_ncb, q_nop, q_lenset, q_mt, q_mt0, q_setix, q_augs, q_aug, q_nsl, q_onone, q_osome, q_gsl, q_raise, q_raiseF, q_try, q_lc, q_lc2, q_yes, q_wipe0, q_wipe, q_xf, q_I, q_I0, q_U, q_add, q_addT, q_addL, q_addR, q_onL, q_onSt, q_onSl, q_onSs, q_onSrct, q_onSrcl, q_eqI, q_eqB, q_eqS, q_eqN, q_isN, q_ix, q_ixL, q_in, q_len, q_sum, q_max, q_min, q_max2, q_min2, q_abs, q_int, q_intB, q_tupof, q_lstof, q_sort, q_rep, q_cat, q_isi, q_isis, q_setat, q_onC, q_append, q_pop, q_popAt, q_reverse, q_insert, q_sp1, q_sp2, q_sp3, q_sp4, q_at0, q_atS, q_st0, q_stS, q_iteT, q_iteF, q_isB, q_sumS, q_all, q_any, q_repT, q_spV, q_nLcX, q_sFz, q_gFld, q_sFldD, q_gMake, q_gCallI, q_gMeth, q_iOwnF, q_isO, q_gIxI, q_lenO, q_modN, q_divmod, q_gSMeth, q_dtupA, q_dtupAL, q_gRevD, q_revT, q_revL, q_gCallKw, q_eqO, q_gCallVS, q_gOpO, q_gUnO, q_gCMeth, q_gMakeV, q_gSlot, q_gMakeS, q_sSlot, q_gMethS, q_isS, q_lc3, q_tru, q_onTl, q_onTt, q_onTb, q_onTi, q_onTn, q_lstRev, q_lstRg2, q_lstRg1, q_prop, q_inO, q_gOpL, q_neO, q_gOpN, q_lstZip, q_repr, q_isXT])
  exact ⟨cmul h3 h2, q⟩
end
end LW

namespace LW
open PySem PySem.Spec PyProof.Rows L2 DL
section
variable {K : PySem.W.Frag}
theorem cmulw {i j : Int} (hi : i.natAbs < 2 ^ 64) (hj : j.natAbs < 2 ^ 64) : CMulW i j := by
  unfold CMulW
  have key : ∀ x : Nat, x < 2 ^ 64 → x.log2 < 64 ∨ x = 0 := fun x hx => by
    by_cases z : x = 0
    · exact .inr z
    · exact .inl ((Nat.log2_lt z).mpr hx)
  have l0 : Nat.log2 0 = 0 := by decide
  rcases key _ hi with h1 | h1 <;> rcases key _ hj with h2 | h2
  · omega
  · rw [h2, l0]; omega
  · rw [h1, l0]; omega
  · rw [h1, h2, l0]; omega
theorem cpow18 : CPow 10 18 := by unfold CPow; decide
theorem cdiv30 {y : Int} : CDivW y 30 := by unfold CDivW; decide
theorem iD_snoc (xs : List Int) (x : Int) : iD xs ++ [D.int x] = iD (xs ++ [x]) := by simp
theorem b__law_draws : ∀ d0 M Q E, sp__law_draws K [d0] M Q E → g__law_draws K { nx := fun _ M => Q .non M, rt := Q, ex := fun x _ M => E x M } [some d0, none, none, none, none, none] M := by
  rintro d0 M Q E ⟨ns, rfl, q⟩
  unfold g__law_draws
  (try dsimp only [q_op, q_un, q_var, q_c, q_nil, q_cons, q_tup, q_frz, q_cel, q_lst, q_test, q_onB, q_and, q_or, q_not, q_andV, q_orV, q_notV, q_if, q_chain, q_next, q_seq, q_drop, q_ret, q_retF, q_retN, q_sif, q_break, q_cont, q_name, q_dnil, q_dcons, q_dtup, q_asg, q_set, q_par, q_for, q_range1, q_range2, q_iseq, q_ienum, q_call, q_cb, q_ncb, q_nop, q_lenset, q_mt, q_mt0, q_setix, q_augs, q_aug, q_nsl, q_onone, q_osome, q_gsl, q_raise, q_raiseF, q_try, q_lc, q_lc2, q_yes, q_wipe0, q_wipe, q_xf, q_I, q_I0, q_U, q_add, q_addT, q_addL, q_addR, q_onL, q_onSt, q_onSl, q_onSs, q_onSrct, q_onSrcl, q_eqI, q_eqB, q_eqS, q_eqN, q_isN, q_ix, q_ixL, q_in, q_len, q_sum, q_max, q_min, q_max2, q_min2, q_abs, q_int, q_intB, q_tupof, q_lstof, q_sort, q_rep, q_cat, q_isi, q_isis, q_setat, q_onC, q_append, q_pop, q_popAt, q_reverse, q_insert, q_sp1, q_sp2, q_sp3, q_sp4, q_at0, q_atS, q_st0, q_stS, q_iteT, q_iteF, q_isB, q_sumS, q_all, q_any, q_repT, q_spV, q_nLcX, q_sFz, q_gFld, q_sFldD, q_gMake, q_gCallI, q_gMeth, q_iOwnF, q_isO, q_gIxI, q_lenO, q_modN, q_divmod, q_gSMeth, q_dtupA, q_dtupAL, q_gRevD, q_revT, q_revL, q_gCallKw, q_eqO, q_gCallVS, q_gOpO, q_gUnO, q_gCMeth, q_gMakeV, q_gSlot, q_gMakeS, q_sSlot, q_gMethS, q_isS, q_lc3, q_tru, q_onTl, q_onTt, q_onTb, q_onTi, q_onTn, q_lstRev, q_lstRg2, q_lstRg1, q_prop, q_inO, q_gOpL, q_neO, q_gOpN, q_lstZip, q_repr, q_isXT])
  refine ⟨Nat.zero_le _, fun p hp => ?_⟩
  (try dsimp only [q_op, q_un, q_var, q_c, q_nil, q_cons, q_tup, q_frz, q_cel, q_lst, q_test, q_onB, q_and, q_or, q_not, q_andV, q_orV, q_notV, q_if, q_chain, q_next, q_seq, q_drop, q_ret, q_retF, q_retN, q_sif, q_break, q_cont, q_name, q_dnil, q_dcons, q_dtup, q_asg, q_set, q_par, q_for, q_range1, q_range2, q_iseq, q_ienum, q_call, q_cb, q_ncb, q_nop, q_lenset, q_mt, q_mt0, q_setix, q_augs, q_aug, q_nsl, q_onone, q_osome, q_gsl, q_raise, q_raiseF, q_try, q_lc, q_lc2, q_yes, q_wipe0, q_wipe, q_xf, q_I, q_I0, q_U, q_add, q_addT, q_addL, q_addR, q_onL, q_onSt, q_onSl, q_onSs, q_onSrct, q_onSrcl, q_eqI, q_eqB, q_eqS, q_eqN, q_isN, q_ix, q_ixL, q_in, q_len, q_sum, q_max, q_min, q_max2, q_min2, q_abs, q_int, q_intB, q_tupof, q_lstof, q_sort, q_rep, q_cat, q_isi, q_isis, q_setat, q_onC, q_append, q_pop, q_popAt, q_reverse, q_insert, q_sp1, q_sp2, q_sp3, q_sp4, q_at0, q_atS, q_st0, q_stS, q_iteT, q_iteF, q_isB, q_sumS, q_all, q_any, q_repT, q_spV, q_nLcX, q_sFz, q_gFld, q_sFldD, q_gMake, q_gCallI, q_gMeth, q_iOwnF, q_isO, q_gIxI, q_lenO, q_modN, q_divmod, q_gSMeth, q_dtupA, q_dtupAL, q_gRevD, q_revT, q_revL, q_gCallKw, q_eqO, q_gCallVS, q_gOpO, q_gUnO, q_gCMeth, q_gMakeV, q_gSlot, q_gMakeS, q_sSlot, q_gMethS, q_isS, q_lc3, q_tru, q_onTl, q_onTt, q_onTb, q_onTi, q_onTn, q_lstRev, q_lstRg2, q_lstRg1, q_prop, q_inO, q_gOpL, q_neO, q_gOpN, q_lstZip, q_repr, q_isXT])
  refine ⟨⟨by omega, by omega⟩, ?_⟩
  refine loop_rg0 (fun i ρ M' => (∃ a b c e, ρ = [some (.scr ns), some (.ref p), a, b, c, e]) ∧ ∃ xs : List Int, xs.length ≤ 48 * i ∧ M' = mset M p (.lst (iD xs))) ?_ ?_ ⟨⟨_, _, _, _, rfl⟩, [], Nat.zero_le _, rfl⟩
  · rintro i ρ M' hi ⟨⟨a, b, c, e, rfl⟩, xs, hx, rfl⟩ Nx hN
    have hin : i < ns.length := by simp at hi; omega
    have hi63 : i < 63 := by simp at hi; omega
    (try dsimp only [q_op, q_un, q_var, q_c, q_nil, q_cons, q_tup, q_frz, q_cel, q_lst, q_test, q_onB, q_and, q_or, q_not, q_andV, q_orV, q_notV, q_if, q_chain, q_next, q_seq, q_drop, q_ret, q_retF, q_retN, q_sif, q_break, q_cont, q_name, q_dnil, q_dcons, q_dtup, q_asg, q_set, q_par, q_for, q_range1, q_range2, q_iseq, q_ienum, q_call, q_cb, q_ncb, q_nop, q_lenset, q_mt, q_mt0, q_setix, q_augs, q_aug, q_nsl, q_onone, q_osome, q_gsl, q_raise, q_raiseF, q_try, q_lc, q_lc2, q_yes, q_wipe0, q_wipe, q_xf, q_I, q_I0, q_U, q_add, q_addT, q_addL, q_addR, q_onL, q_onSt, q_onSl, q_onSs, q_onSrct, q_onSrcl, q_eqI, q_eqB, q_eqS, q_eqN, q_isN, q_ix, q_ixL, q_in, q_len, q_sum, q_max, q_min, q_max2, q_min2, q_abs, q_int, q_intB, q_tupof, q_lstof, q_sort, q_rep, q_cat, q_isi, q_isis, q_setat, q_onC, q_append, q_pop, q_popAt, q_reverse, q_insert, q_sp1, q_sp2, q_sp3, q_sp4, q_at0, q_atS, q_st0, q_stS, q_iteT, q_iteF, q_isB, q_sumS, q_all, q_any, q_repT, q_spV, q_nLcX, q_sFz, q_gFld, q_sFldD, q_gMake, q_gCallI, q_gMeth, q_iOwnF, q_isO, q_gIxI, q_lenO, q_modN, q_divmod, q_gSMeth, q_dtupA, q_dtupAL, q_gRevD, q_revT, q_revL, q_gCallKw, q_eqO, q_gCallVS, q_gOpO, q_gUnO, q_gCMeth, q_gMakeV, q_gSlot, q_gMakeS, q_sSlot, q_gMethS, q_isS, q_lc3, q_tru, q_onTl, q_onTt, q_onTb, q_onTi, q_onTn, q_lstRev, q_lstRg2, q_lstRg1, q_prop, q_inO, q_gOpL, q_neO, q_gOpN, q_lstZip, q_repr, q_isXT])
    refine ⟨_, atI_iD hin, ?_⟩
    (try dsimp only [q_op, q_un, q_var, q_c, q_nil, q_cons, q_tup, q_frz, q_cel, q_lst, q_test, q_onB, q_and, q_or, q_not, q_andV, q_orV, q_notV, q_if, q_chain, q_next, q_seq, q_drop, q_ret, q_retF, q_retN, q_sif, q_break, q_cont, q_name, q_dnil, q_dcons, q_dtup, q_asg, q_set, q_par, q_for, q_range1, q_range2, q_iseq, q_ienum, q_call, q_cb, q_ncb, q_nop, q_lenset, q_mt, q_mt0, q_setix, q_augs, q_aug, q_nsl, q_onone, q_osome, q_gsl, q_raise, q_raiseF, q_try, q_lc, q_lc2, q_yes, q_wipe0, q_wipe, q_xf, q_I, q_I0, q_U, q_add, q_addT, q_addL, q_addR, q_onL, q_onSt, q_onSl, q_onSs, q_onSrct, q_onSrcl, q_eqI, q_eqB, q_eqS, q_eqN, q_isN, q_ix, q_ixL, q_in, q_len, q_sum, q_max, q_min, q_max2, q_min2, q_abs, q_int, q_intB, q_tupof, q_lstof, q_sort, q_rep, q_cat, q_isi, q_isis, q_setat, q_onC, q_append, q_pop, q_popAt, q_reverse, q_insert, q_sp1, q_sp2, q_sp3, q_sp4, q_at0, q_atS, q_st0, q_stS, q_iteT, q_iteF, q_isB, q_sumS, q_all, q_any, q_repT, q_spV, q_nLcX, q_sFz, q_gFld, q_sFldD, q_gMake, q_gCallI, q_gMeth, q_iOwnF, q_isO, q_gIxI, q_lenO, q_modN, q_divmod, q_gSMeth, q_dtupA, q_dtupAL, q_gRevD, q_revT, q_revL, q_gCallKw, q_eqO, q_gCallVS, q_gOpO, q_gUnO, q_gCMeth, q_gMakeV, q_gSlot, q_gMakeS, q_sSlot, q_gMethS, q_isS, q_lc3, q_tru, q_onTl, q_onTt, q_onTb, q_onTi, q_onTn, q_lstRev, q_lstRg2, q_lstRg1, q_prop, q_inO, q_gOpL, q_neO, q_gOpN, q_lstZip, q_repr, q_isXT])
    generalize ns.getD i 0 = z0
    have body : ∀ z : Int, 0 ≤ z → (sIf (gTest (gOp dGe (gVar 3) (gOp dPow (gC (.int 10)) (gC (.int 18))))) (sFor (iRange1 (aCons (gC (.int 48)) aNil)) (dName 4) (sIf (gTest (gOp dGt (gVar 3) (gC (.int 0)))) (sSeq (sDrop (gMt dAppend (gVar 1) (aCons (gOp dMod (gCB dInt (aCons (gVar 3) aNil)) (gC (.int 30))) aNil)))
        (sSet 3 (gOp dFdiv (gVar 3) (gC (.int 30))))) sNext)) (sSeq (sSet 5 (gOp dMod (gCB dInt (aCons (gOp dAdd (gOp dAdd (gOp dMul (gVar 3) (gC (.int 62089911))) (gOp dMul (gVar 2) (gC (.int 104729)))) (gC (.int 17))) aNil)) (gC (.int 2147483629))))
        (sFor (iRange1 (aCons (gC (.int 6)) aNil)) (dName 4) (sSeq (sSet 5 (gOp dMod (gCB dInt (aCons (gOp dAdd (gOp dAdd (gOp dAdd (gOp dMul (gVar 5) (gVar 5)) (gOp dMul (gVar 4) (gC (.int 7919)))) (gOp dMul (gVar 2) (gC (.int 31)))) (gC (.int 3))) aNil)) (gC (.int 2147483587))))
        (sDrop (gMt dAppend (gVar 1) (aCons (gVar 5) aNil)))))))
        { nx := Nx, rt := Q, bk := Nx, ct := Nx, ex := fun x _ M => E x M } [some (.scr ns), some (.ref p), some (.int (i : Nat)), some (.int z), c, e] (mset M p (.lst (iD xs))) := by
      intro z hz
      (try dsimp only [q_op, q_un, q_var, q_c, q_nil, q_cons, q_tup, q_frz, q_cel, q_lst, q_test, q_onB, q_and, q_or, q_not, q_andV, q_orV, q_notV, q_if, q_chain, q_next, q_seq, q_drop, q_ret, q_retF, q_retN, q_sif, q_break, q_cont, q_name, q_dnil, q_dcons, q_dtup, q_asg, q_set, q_par, q_for, q_range1, q_range2, q_iseq, q_ienum, q_call, q_cb, q_ncb, q_nop, q_lenset, q_mt, q_mt0, q_setix, q_augs, q_aug, q_nsl, q_onone, q_osome, q_gsl, q_raise, q_raiseF, q_try, q_lc, q_lc2, q_yes, q_wipe0, q_wipe, q_xf, q_I, q_I0, q_U, q_add, q_addT, q_addL, q_addR, q_onL, q_onSt, q_onSl, q_onSs, q_onSrct, q_onSrcl, q_eqI, q_eqB, q_eqS, q_eqN, q_isN, q_ix, q_ixL, q_in, q_len, q_sum, q_max, q_min, q_max2, q_min2, q_abs, q_int, q_intB, q_tupof, q_lstof, q_sort, q_rep, q_cat, q_isi, q_isis, q_setat, q_onC, q_append, q_pop, q_popAt, q_reverse, q_insert, q_sp1, q_sp2, q_sp3, q_sp4, q_at0, q_atS, q_st0, q_stS, q_iteT, q_iteF, q_isB, q_sumS, q_all, q_any, q_repT, q_spV, q_nLcX, q_sFz, q_gFld, q_sFldD, q_gMake, q_gCallI, q_gMeth, q_iOwnF, q_isO, q_gIxI, q_lenO, q_modN, q_divmod, q_gSMeth, q_dtupA, q_dtupAL, q_gRevD, q_revT, q_revL, q_gCallKw, q_eqO, q_gCallVS, q_gOpO, q_gUnO, q_gCMeth, q_gMakeV, q_gSlot, q_gMakeS, q_sSlot, q_gMethS, q_isS, q_lc3, q_tru, q_onTl, q_onTt, q_onTb, q_onTi, q_onTn, q_lstRev, q_lstRg2, q_lstRg1, q_prop, q_inO, q_gOpL, q_neO, q_gOpN, q_lstZip, q_repr, q_isXT])
      refine ⟨cpow18, ?_⟩
      by_cases h : (10 : Int) ^ (18 : Int).toNat ≤ z
      · rw [if_pos (by simpa using h)]
        refine ⟨by decide, ?_⟩
        refine loop_rg0 (fun t ρ M' => (∃ y c e, ρ = [some (.scr ns), some (.ref p), some (.int (i : Nat)), some (.int y), c, e]) ∧ ∃ ys : List Int, ys.length ≤ 48 * i + t ∧ M' = mset M p (.lst (iD ys))) ?_ ?_ ⟨⟨_, _, _, rfl⟩, xs, by omega, rfl⟩
        · rintro t ρ M' ht ⟨⟨y, c', e', rfl⟩, ys, hy, rfl⟩ Nt hNt
          (try dsimp only [q_op, q_un, q_var, q_c, q_nil, q_cons, q_tup, q_frz, q_cel, q_lst, q_test, q_onB, q_and, q_or, q_not, q_andV, q_orV, q_notV, q_if, q_chain, q_next, q_seq, q_drop, q_ret, q_retF, q_retN, q_sif, q_break, q_cont, q_name, q_dnil, q_dcons, q_dtup, q_asg, q_set, q_par, q_for, q_range1, q_range2, q_iseq, q_ienum, q_call, q_cb, q_ncb, q_nop, q_lenset, q_mt, q_mt0, q_setix, q_augs, q_aug, q_nsl, q_onone, q_osome, q_gsl, q_raise, q_raiseF, q_try, q_lc, q_lc2, q_yes, q_wipe0, q_wipe, q_xf, q_I, q_I0, q_U, q_add, q_addT, q_addL, q_addR, q_onL, q_onSt, q_onSl, q_onSs, q_onSrct, q_onSrcl, q_eqI, q_eqB, q_eqS, q_eqN, q_isN, q_ix, q_ixL, q_in, q_len, q_sum, q_max, q_min, q_max2, q_min2, q_abs, q_int, q_intB, q_tupof, q_lstof, q_sort, q_rep, q_cat, q_isi, q_isis, q_setat, q_onC, q_append, q_pop, q_popAt, q_reverse, q_insert, q_sp1, q_sp2, q_sp3, q_sp4, q_at0, q_atS, q_st0, q_stS, q_iteT, q_iteF, q_isB, q_sumS, q_all, q_any, q_repT, q_spV, q_nLcX, q_sFz, q_gFld, q_sFldD, q_gMake, q_gCallI, q_gMeth, q_iOwnF, q_isO, q_gIxI, q_lenO, q_modN, q_divmod, q_gSMeth, q_dtupA, q_dtupAL, q_gRevD, q_revT, q_revL, q_gCallKw, q_eqO, q_gCallVS, q_gOpO, q_gUnO, q_gCMeth, q_gMakeV, q_gSlot, q_gMakeS, q_sSlot, q_gMethS, q_isS, q_lc3, q_tru, q_onTl, q_onTt, q_onTb, q_onTi, q_onTn, q_lstRev, q_lstRg2, q_lstRg1, q_prop, q_inO, q_gOpL, q_neO, q_gOpN, q_lstZip, q_repr, q_isXT])
          by_cases hp0 : 0 < y
          · rw [if_pos (by simpa using hp0)]
            have ht48 : t < 48 := by simpa using ht
            refine ⟨onL_ref mset_same trivial, by decide, _, mset_same, by rw [sz, List.length_map]; omega, ?_⟩
            refine ⟨cdiv30, ?_⟩
            refine hNt _ _ ⟨⟨_, _, _, rfl⟩, ys ++ [y % 30], by simp; omega, ?_⟩
            rw [mset_mset, iD_snoc]
          · rw [if_neg (by simpa using hp0)]
            exact hNt _ _ ⟨⟨_, _, _, rfl⟩, ys, by omega, rfl⟩
        · rintro ρ M' ⟨⟨y, c', e', rfl⟩, ys, hy, rfl⟩
          refine hN _ _ ⟨⟨_, _, _, _, rfl⟩, ys, ?_, rfl⟩
          have : (48 : Int).toNat = 48 := rfl
          omega
      · rw [if_neg (by simpa using h)]
        have h' : z < 10 ^ 18 := by
          have : (10 : Int) ^ (18 : Int).toNat = 10 ^ 18 := rfl
          omega
        refine ⟨cmulw (by omega) (by decide), cmulw (by omega) (by decide), by decide, ?_⟩
        refine ⟨by decide, ?_⟩
        refine loop_rg0 (fun t ρ M' => (∃ y c, ρ = [some (.scr ns), some (.ref p), some (.int (i : Nat)), some (.int z), c, some (.int y)] ∧ 0 ≤ y ∧ y < 2147483629) ∧ ∃ ys : List Int, ys.length ≤ 48 * i + t ∧ M' = mset M p (.lst (iD ys))) ?_ ?_ ⟨⟨_, _, rfl, Int.emod_nonneg _ (by decide), Int.emod_lt_of_pos _ (by decide)⟩, xs, by omega, rfl⟩
        · rintro t ρ M' ht ⟨⟨y, c', rfl, y1, y2⟩, ys, hy, rfl⟩ Nt hNt
          have ht6 : t < 6 := by simpa using ht
          (try dsimp only [q_op, q_un, q_var, q_c, q_nil, q_cons, q_tup, q_frz, q_cel, q_lst, q_test, q_onB, q_and, q_or, q_not, q_andV, q_orV, q_notV, q_if, q_chain, q_next, q_seq, q_drop, q_ret, q_retF, q_retN, q_sif, q_break, q_cont, q_name, q_dnil, q_dcons, q_dtup, q_asg, q_set, q_par, q_for, q_range1, q_range2, q_iseq, q_ienum, q_call, q_cb, q_ncb, q_nop, q_lenset, q_mt, q_mt0, q_setix, q_augs, q_aug, q_nsl, q_onone, q_osome, q_gsl, q_raise, q_raiseF, q_try, q_lc, q_lc2, q_yes, q_wipe0, q_wipe, q_xf, q_I, q_I0, q_U, q_add, q_addT, q_addL, q_addR, q_onL, q_onSt, q_onSl, q_onSs, q_onSrct, q_onSrcl, q_eqI, q_eqB, q_eqS, q_eqN, q_isN, q_ix, q_ixL, q_in, q_len, q_sum, q_max, q_min, q_max2, q_min2, q_abs, q_int, q_intB, q_tupof, q_lstof, q_sort, q_rep, q_cat, q_isi, q_isis, q_setat, q_onC, q_append, q_pop, q_popAt, q_reverse, q_insert, q_sp1, q_sp2, q_sp3, q_sp4, q_at0, q_atS, q_st0, q_stS, q_iteT, q_iteF, q_isB, q_sumS, q_all, q_any, q_repT, q_spV, q_nLcX, q_sFz, q_gFld, q_sFldD, q_gMake, q_gCallI, q_gMeth, q_iOwnF, q_isO, q_gIxI, q_lenO, q_modN, q_divmod, q_gSMeth, q_dtupA, q_dtupAL, q_gRevD, q_revT, q_revL, q_gCallKw, q_eqO, q_gCallVS, q_gOpO, q_gUnO, q_gCMeth, q_gMakeV, q_gSlot, q_gMakeS, q_sSlot, q_gMethS, q_isS, q_lc3, q_tru, q_onTl, q_onTt, q_onTb, q_onTi, q_onTn, q_lstRev, q_lstRg2, q_lstRg1, q_prop, q_inO, q_gOpL, q_neO, q_gOpN, q_lstZip, q_repr, q_isXT])
          refine ⟨cmulw (by omega) (by omega), cmulw (by omega) (by decide), cmulw (by omega) (by decide), by decide, ?_⟩
          refine ⟨onL_ref mset_same trivial, _, mset_same, by rw [sz, List.length_map]; omega, ?_⟩
          refine hNt _ _ ⟨⟨_, _, rfl, Int.emod_nonneg _ (by decide), ?_⟩, ys ++ [(y * y + (t : Int) * 7919 + (i : Int) * 31 + 3) % 2147483587], by simp; omega, ?_⟩
          · exact Int.lt_trans (Int.emod_lt_of_pos _ (by decide)) (by decide)
          · rw [mset_mset, iD_snoc]
        · rintro ρ M' ⟨⟨y, c', rfl, _⟩, ys, hy, rfl⟩
          refine hN _ _ ⟨⟨_, _, _, _, rfl⟩, ys, ?_, rfl⟩
          have : (6 : Int).toNat = 6 := rfl
          omega
    by_cases hneg : z0 < 0
    · rw [if_pos (by simpa using hneg)]
      exact body _ (by omega)
    · rw [if_neg (by simpa using hneg)]
      exact body _ (by omega)
  · rintro ρ M' ⟨⟨a, b, c, e, rfl⟩, xs, hx, rfl⟩
    (try dsimp only [q_op, q_un, q_var, q_c, q_nil, q_cons, q_tup, q_frz, q_cel, q_lst, q_test, q_onB, q_and, q_or, q_not, q_andV, q_orV, q_notV, q_if, q_chain, q_next, q_seq, q_drop, q_ret, q_retF, q_retN, q_sif, q_break, q_cont, q_name, q_dnil, q_dcons, q_dtup, q_asg, q_set, q_par, q_for, q_range1, q_range2, q_iseq, q_ienum, q_call, q_cb, q_ncb, q_nop, q_lenset, q_mt, q_mt0, q_setix, q_augs, q_aug, q_nsl, q_onone, q_osome, q_gsl, q_raise, q_raiseF, q_try, q_lc, q_lc2, q_yes, q_wipe0, q_wipe, q_xf, q_I, q_I0, q_U, q_add, q_addT, q_addL, q_addR, q_onL, q_onSt, q_onSl, q_onSs, q_onSrct, q_onSrcl, q_eqI, q_eqB, q_eqS, q_eqN, q_isN, q_ix, q_ixL, q_in, q_len, q_sum, q_max, q_min, q_max2, q_min2, q_abs, q_int, q_intB, q_tupof, q_lstof, q_sort, q_rep, q_cat, q_isi, q_isis, q_setat, q_onC, q_append, q_pop, q_popAt, q_reverse, q_insert, q_sp1, q_sp2, q_sp3, q_sp4, q_at0, q_atS, q_st0, q_stS, q_iteT, q_iteF, q_isB, q_sumS, q_all, q_any, q_repT, q_spV, q_nLcX, q_sFz, q_gFld, q_sFldD, q_gMake, q_gCallI, q_gMeth, q_iOwnF, q_isO, q_gIxI, q_lenO, q_modN, q_divmod, q_gSMeth, q_dtupA, q_dtupAL, q_gRevD, q_revT, q_revL, q_gCallKw, q_eqO, q_gCallVS, q_gOpO, q_gUnO, q_gCMeth, q_gMakeV, q_gSlot, q_gMakeS, q_sSlot, q_gMethS, q_isS, q_lc3, q_tru, q_onTl, q_onTt, q_onTb, q_onTi, q_onTn, q_lstRev, q_lstRg2, q_lstRg1, q_prop, q_inO, q_gOpL, q_neO, q_gOpN, q_lstZip, q_repr, q_isXT])
    refine ⟨onL_ref mset_same trivial, _, mset_same, ?_⟩
    rw [mset_mset]
    have : (iD xs).reverse = iD xs.reverse := by simp
    rw [this]
    exact q p _ hp
end
end LW

namespace LW
open PySem PySem.Spec PyProof.Rows L2 DL
def RO (r : PP) : Prop := 0 < r.2 ∧ r.1 ≤ r.2
def pos (cs : List PP) (r : PP) : Prop := 0 < (finF cs r).1
theorem ro1 : RO (1, 1) := ⟨by decide, by decide⟩
theorem nxt_ok {c r : PP} (hc : ChOk c) (hr : RO r) (h : 0 < r.1) : RO (nxt c r) := by
  obtain ⟨h1, h2, h3, h4⟩ := hc
  refine ⟨Int.mul_pos (by omega) h, ?_⟩
  have := Int.mul_nonneg h1 (Int.le_of_lt hr.1)
  show c.2 * r.1 - c.1 * r.2 ≤ c.2 * r.1
  omega
theorem finF_app : ∀ (as bs : List PP) (r : PP), finF (as ++ bs) r = if 0 < (finF as r).1 then finF bs (finF as r) else finF as r
  | [], bs, r => by
    show finF bs r = if 0 < r.1 then finF bs r else r
    by_cases h : 0 < r.1
    · rw [if_pos h]
    · rw [if_neg h]
      cases bs with
      | nil => rfl
      | cons c cs => show (if 0 < r.1 then _ else r) = r; rw [if_neg h]
  | a :: as, bs, r => by
    show (if 0 < r.1 then finF (as ++ bs) (nxt a r) else r) = if 0 < (if 0 < r.1 then finF as (nxt a r) else r).1 then finF bs (if 0 < r.1 then finF as (nxt a r) else r) else (if 0 < r.1 then finF as (nxt a r) else r)
    by_cases h : 0 < r.1
    · simp only [if_pos h]
      exact finF_app as bs _
    · simp only [if_neg h]
theorem restsF_app : ∀ (as bs : List PP) (r : PP), restsF (as ++ bs) r = if 0 < (finF as r).1 then restsF as r ++ (restsF bs (finF as r)).tail else restsF as r
  | [], bs, r => by
    show restsF bs r = if 0 < r.1 then [r] ++ (restsF bs r).tail else [r]
    cases bs with
    | nil => show [r] = if 0 < r.1 then [r] ++ [] else [r]; split <;> rfl
    | cons c cs =>
      show (if 0 < r.1 then r :: restsF cs (nxt c r) else [r]) = if 0 < r.1 then [r] ++ (if 0 < r.1 then r :: restsF cs (nxt c r) else [r]).tail else [r]
      by_cases h : 0 < r.1
      · simp only [if_pos h]; rfl
      · simp only [if_neg h]
  | a :: as, bs, r => by
    show (if 0 < r.1 then r :: restsF (as ++ bs) (nxt a r) else [r]) = if 0 < (if 0 < r.1 then finF as (nxt a r) else r).1 then (if 0 < r.1 then r :: restsF as (nxt a r) else [r]) ++ (restsF bs (if 0 < r.1 then finF as (nxt a r) else r)).tail else (if 0 < r.1 then r :: restsF as (nxt a r) else [r])
    by_cases h : 0 < r.1
    · simp only [if_pos h]
      rw [restsF_app as bs]
      split <;> rfl
    · simp only [if_neg h]
theorem fin_snoc (cs : List PP) (c r : PP) : finF (cs ++ [c]) r = if 0 < (finF cs r).1 then nxt c (finF cs r) else finF cs r := by
  rw [finF_app]
  by_cases h : 0 < (finF cs r).1
  · rw [if_pos h, if_pos h]
    show (if 0 < (finF cs r).1 then nxt c (finF cs r) else finF cs r) = _
    rw [if_pos h]
  · rw [if_neg h, if_neg h]
theorem rests_snoc (cs : List PP) (c r : PP) : restsF (cs ++ [c]) r = if 0 < (finF cs r).1 then restsF cs r ++ [nxt c (finF cs r)] else restsF cs r := by
  rw [restsF_app]
  by_cases h : 0 < (finF cs r).1
  · rw [if_pos h, if_pos h]
    show _ ++ (if 0 < (finF cs r).1 then finF cs r :: [nxt c (finF cs r)] else [finF cs r]).tail = _
    rw [if_pos h]
    rfl
  · rw [if_neg h, if_neg h]
theorem rests_len : ∀ (cs : List PP) (r : PP), 1 ≤ (restsF cs r).length ∧ (restsF cs r).length ≤ cs.length + 1 ∧ (0 < (finF cs r).1 → (restsF cs r).length = cs.length + 1)
  | [], r => ⟨Nat.le_refl _, Nat.le_refl _, fun _ => rfl⟩
  | c :: cs, r => by
    have ih := rests_len cs (nxt c r)
    show 1 ≤ (if 0 < r.1 then r :: restsF cs (nxt c r) else [r]).length ∧ (if 0 < r.1 then r :: restsF cs (nxt c r) else [r]).length ≤ _ ∧ (0 < (if 0 < r.1 then finF cs (nxt c r) else r).1 → (if 0 < r.1 then r :: restsF cs (nxt c r) else [r]).length = _)
    by_cases h : 0 < r.1
    · simp only [if_pos h, List.length_cons]
      exact ⟨by omega, by omega, fun z => by rw [ih.2.2 z]⟩
    · simp only [if_neg h, List.length_cons, List.length_nil]
      exact ⟨by omega, by omega, fun z => (h z).elim⟩
theorem rests_last : ∀ (cs : List PP) (r : PP), (restsF cs r)[(restsF cs r).length - 1]? = some (finF cs r)
  | [], r => rfl
  | c :: cs, r => by
    have ih := rests_last cs (nxt c r)
    have l := rests_len cs (nxt c r)
    show (if 0 < r.1 then r :: restsF cs (nxt c r) else [r])[(if 0 < r.1 then r :: restsF cs (nxt c r) else [r]).length - 1]? = some (if 0 < r.1 then finF cs (nxt c r) else r)
    by_cases h : 0 < r.1
    · simp only [if_pos h, List.length_cons]
      obtain ⟨n, e⟩ : ∃ n, (restsF cs (nxt c r)).length = n + 1 := ⟨(restsF cs (nxt c r)).length - 1, by omega⟩
      rw [e] at ih ⊢
      exact ih
    · simp only [if_neg h]; rfl
theorem rests_ro : ∀ (cs : List PP) (r : PP), (∀ c ∈ cs, ChOk c) → RO r → ∀ s ∈ restsF cs r, RO s
  | [], r, _, hr, s, hs => by cases List.mem_singleton.mp hs; exact hr
  | c :: cs, r, hc, hr, s, hs => by
    have hs : s ∈ (if 0 < r.1 then r :: restsF cs (nxt c r) else [r]) := hs
    by_cases h : 0 < r.1
    · rw [if_pos h] at hs
      rcases List.mem_cons.mp hs with rfl | hs
      · exact hr
      · exact rests_ro cs _ (fun x hx => hc x (List.mem_cons_of_mem _ hx)) (nxt_ok (hc c (List.mem_cons_self ..)) hr h) s hs
    · rw [if_neg h] at hs
      cases List.mem_singleton.mp hs; exact hr
theorem fin_mem (cs : List PP) (r : PP) : finF cs r ∈ restsF cs r := List.mem_of_getElem? (rests_last cs r)
theorem fin_ro {cs : List PP} {r : PP} (hc : ∀ c ∈ cs, ChOk c) (hr : RO r) : RO (finF cs r) := rests_ro cs r hc hr _ (fin_mem cs r)
theorem rev_core : ∀ (ds : List PP) (r : PP), (∀ c ∈ ds, ChOk c) → RO r → (0 < (finF ds r).1 ↔ (0 < (finL ds.reverse).1 ∧ r.2 * (finL ds.reverse).2 < r.1 * (finL ds.reverse).2 + r.2 * (finL ds.reverse).1))
  | [], r, _, hr => by
    show 0 < r.1 ↔ (0 < (1 : Int) ∧ r.2 * 1 < r.1 * 1 + r.2 * 1)
    omega
  | d :: es, r, hc, hr => by
    have hd := hc d (List.mem_cons_self ..)
    have he : ∀ c ∈ es, ChOk c := fun x hx => hc x (List.mem_cons_of_mem _ hx)
    have hr' : ∀ c ∈ es.reverse, ChOk c := fun x hx => he x (List.mem_reverse.mp hx)
    have fo := fin_ro (cs := es.reverse) hr' ro1
    rw [List.reverse_cons]
    unfold finL at *
    rw [fin_snoc]
    show (0 < (if 0 < r.1 then finF es (nxt d r) else r).1 ↔ _)
    obtain ⟨d1, d2, d3, d4⟩ := hd
    obtain ⟨f1, f2⟩ := fo
    obtain ⟨r1, r2⟩ := hr
    generalize hu : (finF es.reverse (1, 1)).1 = u at *
    generalize hv : (finF es.reverse (1, 1)).2 = v at *
    obtain ⟨a, b⟩ := d
    obtain ⟨x, y⟩ := r
    dsimp only at *
    by_cases h : 0 < x
    · rw [if_pos h]
      have ih := rev_core es (nxt (a, b) (x, y)) he (nxt_ok ⟨d1, d2, d3, d4⟩ ⟨r1, r2⟩ h)
      unfold finL at ih
      rw [hu, hv] at ih
      rw [ih]
      by_cases h2 : 0 < u
      · rw [if_pos h2]
        unfold nxt
        dsimp only
        rw [hu, hv]
        have bu : 0 < b * u := Int.mul_pos (by omega) h2
        have key : (b * x * v < (b * x - a * y) * v + b * x * u) ↔ a * (y * v) < b * (x * u) := by
          have e : (b * x - a * y) * v + b * x * u = b * x * v - a * (y * v) + b * (x * u) := by grind
          rw [e]; omega
        have key2 : (y * (b * u) < x * (b * u) + y * (b * u - a * v)) ↔ a * (y * v) < b * (x * u) := by
          have e1 : x * (b * u) = b * (x * u) := by grind
          have e2 : y * (b * u - a * v) = y * (b * u) - a * (y * v) := by grind
          rw [e1, e2]; omega
        rw [key, key2]
        constructor
        · rintro ⟨_, k⟩
          refine ⟨?_, k⟩
          -- a y v < b x u <= b y u, so a v < b u
          have l : b * (x * u) ≤ b * (y * u) := Int.mul_le_mul_of_nonneg_left (Int.mul_le_mul_of_nonneg_right r2 (by omega)) (by omega)
          have m : y * (a * v) < y * (b * u) := by
            have e1 : y * (a * v) = a * (y * v) := by grind
            have e2 : y * (b * u) = b * (y * u) := by grind
            omega
          have := Int.lt_of_mul_lt_mul_left m (by omega)
          omega
        · rintro ⟨_, k⟩
          exact ⟨h2, k⟩
      · rw [if_neg h2]
        constructor
        · rintro ⟨z, _⟩; exact (h2 z).elim
        · rintro ⟨z, _⟩; rw [hu] at z; exact (h2 z).elim
    · rw [if_neg h]
      constructor
      · intro z; exact (h z).elim
      · by_cases h2 : 0 < u
        · rw [if_pos h2]
          unfold nxt
          dsimp only
          rw [hu, hv]
          rintro ⟨z, k⟩
          exfalso
          have e1 : x * (b * u) ≤ 0 := Int.mul_nonpos_of_nonpos_of_nonneg (by omega) (Int.le_of_lt (Int.mul_pos (by omega) h2))
          have e2 : y * (b * u - a * v) = y * (b * u) - y * (a * v) := by grind
          have e3 : 0 ≤ y * (a * v) := Int.mul_nonneg (by omega) (Int.mul_nonneg d1 (by omega))
          omega
        · rw [if_neg h2]
          rintro ⟨z, _⟩
          rw [hu] at z
          exact (h2 z).elim
theorem rev_pos {cs : List PP} (hc : ∀ c ∈ cs, ChOk c) : (0 < (finL cs).1 ↔ 0 < (finL cs.reverse).1) := by
  have k := rev_core cs (1, 1) hc ro1
  show (0 < (finF cs (1, 1)).1 ↔ _)
  rw [k]
  dsimp only
  omega
end LW

namespace LW
open PySem PySem.Spec PyProof.Rows L2 DL
theorem cut_iff {as bs : List PP} {c : PP} (ha : ∀ x ∈ as, ChOk x) (hb : ∀ x ∈ bs, ChOk x) (hc : ChOk c) :
    (0 < (finL (as ++ c :: bs)).1 ↔ (0 < (finL as).1 ∧ 0 < (finL bs.reverse).1 ∧ c.1 * ((finL as).2 * (finL bs.reverse).2) < (finL as).1 * (finL bs.reverse).1 * c.2)) := by
  have la := fin_ro (cs := as) ha ro1
  have lb := fin_ro (cs := bs.reverse) (fun x hx => hb x (List.mem_reverse.mp hx)) ro1
  show (0 < (finF (as ++ c :: bs) (1, 1)).1 ↔ _)
  rw [finF_app]
  unfold finL
  by_cases h : 0 < (finF as (1, 1)).1
  · rw [if_pos h]
    show (0 < (if 0 < (finF as (1, 1)).1 then finF bs (nxt c (finF as (1, 1))) else finF as (1, 1)).1 ↔ _)
    rw [if_pos h, rev_core bs _ hb (nxt_ok hc la h)]
    unfold finL
    generalize finF as (1, 1) = L at *
    generalize finF bs.reverse (1, 1) = R at *
    obtain ⟨p, q⟩ := L
    obtain ⟨u, v⟩ := R
    obtain ⟨a, b⟩ := c
    unfold nxt
    dsimp only at *
    have e1 : (b * p - a * q) * v + b * p * u = b * p * v - a * (q * v) + p * u * b := by grind
    rw [e1]
    constructor
    · rintro ⟨k1, k2⟩; exact ⟨h, k1, by omega⟩
    · rintro ⟨_, k1, k2⟩; exact ⟨k1, by omega⟩
  · rw [if_neg h]
    constructor
    · intro z; exact (h z).elim
    · rintro ⟨z, _⟩; exact (h z).elim
theorem edge_zero : ∀ (ds : List PP) (r : PP), (∀ c ∈ ds, ChOk c) → RO r → 0 < (finL ds.reverse).1 → r.1 * (finL ds.reverse).2 + r.2 * (finL ds.reverse).1 = r.2 * (finL ds.reverse).2 → (finF ds r).1 = 0
  | [], r, _, hr, _, e => by
    have e : r.1 * 1 + r.2 * 1 = r.2 * 1 := e
    show r.1 = 0
    omega
  | d :: es, r, hc, hr, hp, e => by
    have hd := hc d (List.mem_cons_self ..)
    have he : ∀ c ∈ es, ChOk c := fun x hx => hc x (List.mem_cons_of_mem _ hx)
    have fo := fin_ro (cs := es.reverse) (fun x hx => he x (List.mem_reverse.mp hx)) ro1
    have fo2 := fin_ro (cs := (d :: es).reverse) (fun x hx => hc x (List.mem_reverse.mp hx)) ro1
    rw [List.reverse_cons] at *
    show (if 0 < r.1 then finF es (nxt d r) else r).1 = 0
    by_cases h : 0 < r.1
    · rw [if_pos h]
      have hq : 0 < (finL es.reverse).1 := by
        unfold finL at hp ⊢
        rw [fin_snoc] at hp
        by_cases z : 0 < (finF es.reverse (1, 1)).1
        · exact z
        · rw [if_neg z] at hp; exact (z hp).elim
      refine edge_zero es (nxt d r) he (nxt_ok hd hr h) hq ?_
      unfold finL at *
      rw [fin_snoc, if_pos hq] at e
      generalize finF es.reverse (1, 1) = R at *
      unfold nxt at *
      dsimp only at *
      have e1 : r.1 * (d.2 * R.1) = d.1 * (r.2 * R.2) := by grind
      grind
    · rw [if_neg h]
      unfold finL at *
      generalize finF (es.reverse ++ [d]) (1, 1) = R at *
      obtain ⟨f1, f2⟩ := fo2
      have e2 : r.1 * R.2 = r.2 * (R.2 - R.1) := by grind
      have e3 : 0 ≤ r.2 * (R.2 - R.1) := Int.mul_nonneg (Int.le_of_lt hr.1) (by omega)
      rw [← e2] at e3
      rcases Int.lt_or_le r.1 0 with z | z
      · have := Int.mul_neg_of_neg_of_pos z f1
        omega
      · omega
def leR (r s : PP) : Prop := r.1 * s.2 ≤ s.1 * r.2
theorem leR_refl (r : PP) : leR r r := Int.le_refl _
theorem leR_pos {r s : PP} (h : leR r s) (hr : RO r) (hs : RO s) (p : 0 < r.1) : 0 < s.1 := by
  have h1 : 0 < r.1 * s.2 := Int.mul_pos p hs.1
  have h2 : 0 < s.1 * r.2 := Int.lt_of_lt_of_le h1 h
  rcases Int.lt_or_le 0 s.1 with z | z
  · exact z
  · have := Int.mul_nonpos_of_nonpos_of_nonneg z (Int.le_of_lt hr.1)
    omega
theorem nxt_le {c c' r r' : PP} (hc : ChOk c) (hc' : ChOk c') (hr : RO r) (hr' : RO r') (p' : 0 < r'.1) (h : leR r' r) (k : c.1 * c'.2 ≤ c'.1 * c.2) : leR (nxt c' r') (nxt c r) := by
  have p := leR_pos h hr' hr p'
  obtain ⟨a, b⟩ := c
  obtain ⟨a', b'⟩ := c'
  obtain ⟨x, y⟩ := r
  obtain ⟨x', y'⟩ := r'
  obtain ⟨c1, c2, c3, _⟩ := hc
  obtain ⟨c1', c2', c3', _⟩ := hc'
  obtain ⟨r1, r2⟩ := hr
  obtain ⟨r1', r2'⟩ := hr'
  unfold leR nxt at *
  dsimp only at *
  -- a y b' x' <= a' y' b x
  have k1 : (a * b') * (y * x') ≤ (a' * b) * (y * x') := Int.mul_le_mul_of_nonneg_right k (Int.mul_nonneg (by omega) (by omega))
  have k2 : (a' * b) * (x' * y) ≤ (a' * b) * (x * y') := Int.mul_le_mul_of_nonneg_left h (Int.mul_nonneg c1' (by omega))
  have e1 : (b' * x' - a' * y') * (b * x) = b' * x' * (b * x) - (a' * b) * (x * y') := by grind
  have e2 : (b * x - a * y) * (b' * x') = b' * x' * (b * x) - (a * b') * (y * x') := by grind
  have e3 : y * x' = x' * y := Int.mul_comm _ _
  rw [e1, e2]
  rw [e3] at k1
  rw [e3]
  omega
inductive Up : List PP → List PP → Prop
  | nil : Up [] []
  | cons {c c' : PP} {cs cs' : List PP} : ChOk c → ChOk c' → c.1 * c'.2 ≤ c'.1 * c.2 → Up cs cs' → Up (c :: cs) (c' :: cs')
theorem up_refl : ∀ {cs : List PP}, (∀ c ∈ cs, ChOk c) → Up cs cs
  | [], _ => .nil
  | c :: cs, h => .cons (h c (List.mem_cons_self ..)) (h c (List.mem_cons_self ..)) (Int.le_refl _) (up_refl fun x hx => h x (List.mem_cons_of_mem _ hx))
theorem mono_core : ∀ {cs cs' : List PP} (r r' : PP), Up cs cs' → RO r → RO r' → leR r' r → (restsF cs' r').length ≤ (restsF cs r).length ∧ (∀ (i : Nat) (s s' : PP), (restsF cs r)[i]? = some s → (restsF cs' r')[i]? = some s' → leR s' s) ∧ (0 < (finF cs' r').1 → 0 < (finF cs r).1)
  | _, _, r, r', .nil, hr, hr', h => ⟨Nat.le_refl _, (by
      intro i s s' e1 e2
      cases i with
      | zero => cases e1; cases e2; exact h
      | succ i => exact nomatch e1), fun p => leR_pos h hr' hr p⟩
  | _, _, r, r', @Up.cons c c' cs cs' h1 h2 h3 U, hr, hr', h => by
    show (if 0 < r'.1 then r' :: restsF cs' (nxt c' r') else [r']).length ≤ (if 0 < r.1 then r :: restsF cs (nxt c r) else [r]).length ∧ (∀ (i : Nat) (s s' : PP), (if 0 < r.1 then r :: restsF cs (nxt c r) else [r])[i]? = some s → (if 0 < r'.1 then r' :: restsF cs' (nxt c' r') else [r'])[i]? = some s' → leR s' s) ∧ (0 < (if 0 < r'.1 then finF cs' (nxt c' r') else r').1 → 0 < (if 0 < r.1 then finF cs (nxt c r) else r).1)
    by_cases p' : 0 < r'.1
    · have p := leR_pos h hr' hr p'
      simp only [if_pos p, if_pos p', List.length_cons]
      obtain ⟨i1, i2, i3⟩ := mono_core (nxt c r) (nxt c' r') U (nxt_ok h1 hr p) (nxt_ok h2 hr' p') (nxt_le h1 h2 hr hr' p' h h3)
      refine ⟨by omega, fun i s s' e1 e2 => ?_, i3⟩
      cases i with
      | zero => cases e1; cases e2; exact h
      | succ i => exact i2 i s s' e1 e2
    · simp only [if_neg p', List.length_cons, List.length_nil]
      refine ⟨?_, fun i s s' e1 e2 => ?_, fun z => (p' z).elim⟩
      · split
        · simp
        · simp
      · cases i with
        | zero =>
          cases e2
          by_cases p : 0 < r.1
          · rw [if_pos p] at e1; cases e1; exact h
          · rw [if_neg p] at e1; cases e1; exact h
        | succ i => exact nomatch e2
theorem clo_some {cs : List PP} {n : Nat} : cloL cs = some n ↔ (finL cs).1 ≤ 0 ∧ n + 1 = (restsL cs).length := by
  have l := rests_len cs (1, 1)
  unfold cloL restsL
  by_cases h : (finL cs).1 ≤ 0
  · rw [if_pos h]
    constructor
    · intro e; cases e; exact ⟨h, by omega⟩
    · rintro ⟨_, e⟩; rw [← e]; rfl
  · rw [if_neg h]
    constructor
    · intro e; cases e
    · rintro ⟨z, _⟩; exact (h z).elim
theorem clo_none {cs : List PP} : cloL cs = none ↔ 0 < (finL cs).1 := by
  unfold cloL
  by_cases h : (finL cs).1 ≤ 0
  · rw [if_pos h]
    constructor
    · intro e; cases e
    · intro z; omega
  · rw [if_neg h]
    constructor
    · intro _; omega
    · intro _; rfl
theorem by_iff {cs : List PP} {k : Int} : byB cs k = true ↔ (finL cs).1 ≤ 0 ∧ ((restsL cs).length : Int) ≤ k + 1 := by
  have l := rests_len cs (1, 1)
  unfold byB
  cases z : cloL cs with
  | none =>
    have := clo_none.mp z
    constructor
    · intro e; cases e
    · rintro ⟨e, _⟩; omega
  | some n =>
    obtain ⟨z1, z2⟩ := clo_some.mp z
    dsimp only
    rw [decide_eq_true_iff]
    constructor
    · intro e; exact ⟨z1, by omega⟩
    · rintro ⟨_, e⟩; omega
theorem by_part {as bs : List PP} (h : (finL as).1 ≤ 0) : byB (as ++ bs) as.length = true := by
  have l := rests_len as (1, 1)
  have n : ¬ 0 < (finF as (1, 1)).1 := by unfold finL at h; omega
  rw [by_iff]
  unfold finL restsL at *
  rw [finF_app, restsF_app, if_neg n, if_neg n]
  exact ⟨h, by omega⟩
theorem rests_more {as bs : List PP} (h : (finL as).1 ≤ 0) : restsL (as ++ bs) = restsL as ∧ finL (as ++ bs) = finL as := by
  have n : ¬ 0 < (finF as (1, 1)).1 := by unfold finL at h; omega
  unfold finL restsL
  rw [finF_app, restsF_app, if_neg n, if_neg n]
  exact ⟨rfl, rfl⟩
theorem by_ahead {cs : List PP} {e : PP} {n : Nat} (hc : ∀ c ∈ cs, ChOk c) (he : ChOk e) (h : cloL cs = some n) : byB (e :: cs) ((n : Int) + 1) = true := by
  obtain ⟨z1, z2⟩ := clo_some.mp h
  have k := mono_core (1, 1) (nxt e (1, 1)) (up_refl hc) ro1 (nxt_ok he ro1 (by decide)) (by
    obtain ⟨e1, e2, e3, _⟩ := he
    unfold leR nxt
    dsimp only
    omega)
  rw [by_iff]
  unfold finL restsL at *
  show (if 0 < ((1, 1) : PP).1 then finF cs (nxt e (1, 1)) else (1, 1)).1 ≤ 0 ∧ ((if 0 < ((1, 1) : PP).1 then (1, 1) :: restsF cs (nxt e (1, 1)) else [(1, 1)]).length : Int) ≤ _
  rw [if_pos (by decide), if_pos (by decide), List.length_cons]
  refine ⟨?_, by have := k.1; omega⟩
  rcases Int.lt_or_le 0 (finF cs (nxt e (1, 1))).1 with z | z
  · have := k.2.2 z
    omega
  · exact z
theorem by_raised {cs cs' : List PP} {n : Nat} (U : Up cs cs') (h : cloL cs = some n) : byB cs' n = true ∧ (restsL cs').length ≤ (restsL cs).length := by
  obtain ⟨z1, z2⟩ := clo_some.mp h
  have k := mono_core (1, 1) (1, 1) U ro1 ro1 (leR_refl _)
  rw [by_iff]
  unfold finL restsL at *
  refine ⟨⟨?_, by have := k.1; omega⟩, k.1⟩
  rcases Int.lt_or_le 0 (finF cs' (1, 1)).1 with z | z
  · have := k.2.2 z
    omega
  · exact z
end LW

namespace LW
open PySem PySem.Spec PyProof.Rows L2 DL
section
variable {K : PySem.W.Frag} {mg : Str → Option Value}
theorem chsC_imp {M : Mem} {E E' : DXK} (h1 : ∀ x, E x M → E' x M) : ∀ (ds : List D) (k k' : List PP → Prop), (∀ cs, cs.length = ds.length → k cs → k' cs) → chsC K M E ds k → chsC K M E' ds k'
  | [], k, k', h, z => h [] rfl z
  | d :: ds, k, k', h, z => by
    unfold chsC chanceC at *
    refine fracC_imp h1 (fun t b _ _ _ q => ?_) z
    by_cases c : t < 0 ∨ b < t
    · rw [if_pos c] at q ⊢; exact h1 _ q
    · rw [if_neg c] at q ⊢
      exact chsC_imp h1 ds _ _ (fun cs e q => h _ (by simp [e]) q) q
theorem lossC_imp {M : Mem} {d : D} {E E' : DXK} {k k' : List PP → Prop} (h1 : ∀ x, E x M → E' x M) (h : ∀ cs, ChsOk cs → k cs → k' cs) : lossC K M d E k → lossC K M d E' k'
  | .inl ⟨t, a, b, c, e⟩ => .inl ⟨t, a, b, c, h1 _ e⟩
  | .inr ⟨ds, r, l, z⟩ => .inr ⟨ds, r, l, chsC_imp h1 ds _ _ (fun cs _ q => ⟨q.1, h cs q.1 q.2⟩) z⟩
theorem lcx_ch {M : Mem} {E : DXK} {a c : Option D} {ok : Mem → Prop} (ho : ok M) : ∀ (ds : List D) (acc : List D) (k : List PP → Prop) (Qn : List D → Mem → Prop), chsC K M E ds k → (∀ cs, k cs → Qn (acc ++ cs.map frP) M) → acc.length + ds.length < 16777216 →
    lcD ok (dName 3) gYes (fun _ => gCall (sp_told_chance K) (aCons (gVar 3) (aCons (gVar 1) aNil)) E) [a, some (.str "losses"), c, none] ds acc M Qn
  | [], acc, k, Qn, h1, h2, _ => by
    unfold lcD
    have := h2 [] h1
    rw [List.map_nil, List.append_nil] at this
    exact ⟨ho, this⟩
  | d :: ds, acc, k, Qn, h1, h2, hl => by
    unfold lcD
    rw [List.length_cons] at hl
    refine ⟨ho, ?_⟩
    show if true = true then sp_told_chance K [d, .str "losses"] M (fun y M3 => acc.length < sizeLine ∧ lcD ok (dName 3) gYes (fun _ => gCall (sp_told_chance K) (aCons (gVar 3) (aCons (gVar 1) aNil)) E) [a, some (.str "losses"), c, none] ds (acc ++ [y]) M3 Qn) E else lcD ok (dName 3) gYes (fun _ => gCall (sp_told_chance K) (aCons (gVar 3) (aCons (gVar 1) aNil)) E) [a, some (.str "losses"), c, none] ds acc M Qn
    rw [if_pos rfl]
    refine ⟨"losses", rfl, ?_⟩
    unfold chsC chanceC at *
    refine fracC_imp (fun _ z => z) (fun t u _ _ _ q => ?_) h1
    by_cases z : t < 0 ∨ u < t
    · rw [if_pos z] at q ⊢; exact q
    · rw [if_neg z] at q ⊢
      refine ⟨by rw [sz]; omega, lcx_ch ho ds (acc ++ [frD t u]) _ Qn q (fun cs q => ?_) (by rw [List.length_append, List.length_singleton]; omega)⟩
      have := h2 _ q
      rw [List.map_cons] at this
      rw [List.append_assoc]
      exact this
theorem b__chances_of : ∀ d0 d1 d2 M Q E, sp__chances_of K [d0, d1, d2] M Q E → g__chances_of K { nx := fun _ M => Q .non M, rt := Q, ex := fun x _ M => E x M } [some d0, some d1, some d2, none] M := by
  rintro d0 d1 d2 M Q E ⟨rfl, rfl, h⟩
  unfold g__chances_of
  dsimp only [q_op, q_un, q_var, q_c, q_nil, q_cons, q_tup, q_frz, q_cel, q_lst, q_test, q_onB, q_and, q_or, q_not, q_andV, q_orV, q_notV, q_if, q_chain, q_next, q_seq, q_drop, q_ret, q_retF, q_retN, q_sif, q_break, q_cont, q_name, q_dnil, q_dcons, q_dtup, q_asg, q_set, q_par, q_for, q_range1, q_range2, q_iseq, q_ienum, q_call, q_cb, q_ncb, q_nop, q_lenset, q_mt, q_mt0, q_setix, q_augs, q_aug, q_nsl, q_onone, q_osome, q_gsl, q_raise, q_raiseF, q_try, q_lc, q_lc2, q_yes, q_wipe0, q_wipe, q_xf, q_I, q_I0, q_U, q_add, q_addT, q_addL, q_addR, q_onL, q_onSt, q_onSl, q_onSs, q_onSrct, q_onSrcl, q_eqI, q_eqB, q_eqS, q_eqN, q_isN, q_ix, q_ixL, q_in, q_len, q_sum, q_max, q_min, q_max2, q_min2, q_abs, q_int, q_intB, q_tupof, q_lstof, q_sort, q_rep, q_cat, q_isi, q_isis, q_setat, q_onC, q_append, q_pop, q_popAt, q_reverse, q_insert, q_sp1, q_sp2, q_sp3, q_sp4, q_at0, q_atS, q_st0, q_stS, q_iteT, q_iteF, q_isB, q_sumS, q_all, q_any, q_repT, q_spV, q_nLcX, q_sFz, q_gFld, q_sFldD, q_gMake, q_gCallI, q_gMeth, q_iOwnF, q_isO, q_gIxI, q_lenO, q_modN, q_divmod, q_gSMeth, q_dtupA, q_dtupAL, q_gRevD, q_revT, q_revL, q_gCallKw, q_eqO, q_gCallVS, q_gOpO, q_gUnO, q_gCMeth, q_gMakeV, q_gSlot, q_gMakeS, q_sSlot, q_gMethS, q_isS, q_lc3, q_tru, q_onTl, q_onTt, q_onTb, q_onTi, q_onTn, q_lstRev, q_lstRg2, q_lstRg1, q_prop, q_inO, q_gOpL, q_neO, q_gOpN, q_lstZip, q_repr, q_isXT, sp_is_row]
  rcases h with ⟨t, hk, h1, h2, q⟩ | ⟨ds, row, hl, h⟩
  · refine ⟨t, hk, ?_⟩
    (try dsimp only [q_op, q_un, q_var, q_c, q_nil, q_cons, q_tup, q_frz, q_cel, q_lst, q_test, q_onB, q_and, q_or, q_not, q_andV, q_orV, q_notV, q_if, q_chain, q_next, q_seq, q_drop, q_ret, q_retF, q_retN, q_sif, q_break, q_cont, q_name, q_dnil, q_dcons, q_dtup, q_asg, q_set, q_par, q_for, q_range1, q_range2, q_iseq, q_ienum, q_call, q_cb, q_ncb, q_nop, q_lenset, q_mt, q_mt0, q_setix, q_augs, q_aug, q_nsl, q_onone, q_osome, q_gsl, q_raise, q_raiseF, q_try, q_lc, q_lc2, q_yes, q_wipe0, q_wipe, q_xf, q_I, q_I0, q_U, q_add, q_addT, q_addL, q_addR, q_onL, q_onSt, q_onSl, q_onSs, q_onSrct, q_onSrcl, q_eqI, q_eqB, q_eqS, q_eqN, q_isN, q_ix, q_ixL, q_in, q_len, q_sum, q_max, q_min, q_max2, q_min2, q_abs, q_int, q_intB, q_tupof, q_lstof, q_sort, q_rep, q_cat, q_isi, q_isis, q_setat, q_onC, q_append, q_pop, q_popAt, q_reverse, q_insert, q_sp1, q_sp2, q_sp3, q_sp4, q_at0, q_atS, q_st0, q_stS, q_iteT, q_iteF, q_isB, q_sumS, q_all, q_any, q_repT, q_spV, q_nLcX, q_sFz, q_gFld, q_sFldD, q_gMake, q_gCallI, q_gMeth, q_iOwnF, q_isO, q_gIxI, q_lenO, q_modN, q_divmod, q_gSMeth, q_dtupA, q_dtupAL, q_gRevD, q_revT, q_revL, q_gCallKw, q_eqO, q_gCallVS, q_gOpO, q_gUnO, q_gCMeth, q_gMakeV, q_gSlot, q_gMakeS, q_sSlot, q_gMethS, q_isS, q_lc3, q_tru, q_onTl, q_onTt, q_onTb, q_onTi, q_onTn, q_lstRev, q_lstRg2, q_lstRg1, q_prop, q_inO, q_gOpL, q_neO, q_gOpN, q_lstZip, q_repr, q_isXT])
    exact if_t (by rw [not_row h1 h2]; rfl) ⟨rfl, q⟩
  obtain ⟨k, hk1, hk2⟩ := row_kd row
  refine ⟨k, hk1, ?_⟩
  (try dsimp only [q_op, q_un, q_var, q_c, q_nil, q_cons, q_tup, q_frz, q_cel, q_lst, q_test, q_onB, q_and, q_or, q_not, q_andV, q_orV, q_notV, q_if, q_chain, q_next, q_seq, q_drop, q_ret, q_retF, q_retN, q_sif, q_break, q_cont, q_name, q_dnil, q_dcons, q_dtup, q_asg, q_set, q_par, q_for, q_range1, q_range2, q_iseq, q_ienum, q_call, q_cb, q_ncb, q_nop, q_lenset, q_mt, q_mt0, q_setix, q_augs, q_aug, q_nsl, q_onone, q_osome, q_gsl, q_raise, q_raiseF, q_try, q_lc, q_lc2, q_yes, q_wipe0, q_wipe, q_xf, q_I, q_I0, q_U, q_add, q_addT, q_addL, q_addR, q_onL, q_onSt, q_onSl, q_onSs, q_onSrct, q_onSrcl, q_eqI, q_eqB, q_eqS, q_eqN, q_isN, q_ix, q_ixL, q_in, q_len, q_sum, q_max, q_min, q_max2, q_min2, q_abs, q_int, q_intB, q_tupof, q_lstof, q_sort, q_rep, q_cat, q_isi, q_isis, q_setat, q_onC, q_append, q_pop, q_popAt, q_reverse, q_insert, q_sp1, q_sp2, q_sp3, q_sp4, q_at0, q_atS, q_st0, q_stS, q_iteT, q_iteF, q_isB, q_sumS, q_all, q_any, q_repT, q_spV, q_nLcX, q_sFz, q_gFld, q_sFldD, q_gMake, q_gCallI, q_gMeth, q_iOwnF, q_isO, q_gIxI, q_lenO, q_modN, q_divmod, q_gSMeth, q_dtupA, q_dtupAL, q_gRevD, q_revT, q_revL, q_gCallKw, q_eqO, q_gCallVS, q_gOpO, q_gUnO, q_gCMeth, q_gMakeV, q_gSlot, q_gMakeS, q_sSlot, q_gMethS, q_isS, q_lc3, q_tru, q_onTl, q_onTt, q_onTb, q_onTi, q_onTn, q_lstRev, q_lstRg2, q_lstRg1, q_prop, q_inO, q_gOpL, q_neO, q_gOpN, q_lstZip, q_repr, q_isXT])
  refine if_f (by rw [hk2]; rfl) (row.onS ?_)
  (try dsimp only [q_op, q_un, q_var, q_c, q_nil, q_cons, q_tup, q_frz, q_cel, q_lst, q_test, q_onB, q_and, q_or, q_not, q_andV, q_orV, q_notV, q_if, q_chain, q_next, q_seq, q_drop, q_ret, q_retF, q_retN, q_sif, q_break, q_cont, q_name, q_dnil, q_dcons, q_dtup, q_asg, q_set, q_par, q_for, q_range1, q_range2, q_iseq, q_ienum, q_call, q_cb, q_ncb, q_nop, q_lenset, q_mt, q_mt0, q_setix, q_augs, q_aug, q_nsl, q_onone, q_osome, q_gsl, q_raise, q_raiseF, q_try, q_lc, q_lc2, q_yes, q_wipe0, q_wipe, q_xf, q_I, q_I0, q_U, q_add, q_addT, q_addL, q_addR, q_onL, q_onSt, q_onSl, q_onSs, q_onSrct, q_onSrcl, q_eqI, q_eqB, q_eqS, q_eqN, q_isN, q_ix, q_ixL, q_in, q_len, q_sum, q_max, q_min, q_max2, q_min2, q_abs, q_int, q_intB, q_tupof, q_lstof, q_sort, q_rep, q_cat, q_isi, q_isis, q_setat, q_onC, q_append, q_pop, q_popAt, q_reverse, q_insert, q_sp1, q_sp2, q_sp3, q_sp4, q_at0, q_atS, q_st0, q_stS, q_iteT, q_iteF, q_isB, q_sumS, q_all, q_any, q_repT, q_spV, q_nLcX, q_sFz, q_gFld, q_sFldD, q_gMake, q_gCallI, q_gMeth, q_iOwnF, q_isO, q_gIxI, q_lenO, q_modN, q_divmod, q_gSMeth, q_dtupA, q_dtupAL, q_gRevD, q_revT, q_revL, q_gCallKw, q_eqO, q_gCallVS, q_gOpO, q_gUnO, q_gCMeth, q_gMakeV, q_gSlot, q_gMakeS, q_sSlot, q_gMethS, q_isS, q_lc3, q_tru, q_onTl, q_onTt, q_onTb, q_onTi, q_onTn, q_lstRev, q_lstRg2, q_lstRg1, q_prop, q_inO, q_gOpL, q_neO, q_gOpN, q_lstZip, q_repr, q_isXT])
  refine if_f (decide_eq_false (by omega)) ?_
  refine row.onSrc fun ok ho ho2 => ?_
  refine lcx_ch ho ds [] _ _ h (fun cs q => ?_) (by simp; omega)
  rw [List.nil_append]
  exact q.2
theorem rests_nb : ∀ (cs : List PP) (r : PP) (n : Nat), (∀ c ∈ cs, ChOk c) → RO r → nb n r.1 → nb n r.2 → ∀ s ∈ restsF cs r, nb (n + 21 * cs.length) s.1 ∧ nb (n + 21 * cs.length) s.2
  | [], r, n, _, _, h1, h2, s, hs => by cases List.mem_singleton.mp hs; exact ⟨h1, h2⟩
  | c :: cs, r, n, hc, hr, h1, h2, s, hs => by
    have hs : s ∈ (if 0 < r.1 then r :: restsF cs (nxt c r) else [r]) := hs
    have up : n ≤ n + 21 * (c :: cs).length := by omega
    by_cases h : 0 < r.1
    · rw [if_pos h] at hs
      rcases List.mem_cons.mp hs with rfl | hs
      · exact ⟨nb_mono h1 up, nb_mono h2 up⟩
      · have k := hc c (List.mem_cons_self ..)
        obtain ⟨k1, k2, k3, k4⟩ := k
        have c1 : nb 20 c.1 := by unfold nb; omega
        have c2 : nb 20 c.2 := by unfold nb; omega
        have m1 : nb (n + 21) (nxt c r).1 := nb_mono (nb_sub (nb_mul c2 h1) (nb_mul c1 h2)) (by omega)
        have m2 : nb (n + 21) (nxt c r).2 := nb_mono (nb_mul c2 h1) (by omega)
        have := rests_nb cs (nxt c r) (n + 21) (fun x hx => hc x (List.mem_cons_of_mem _ hx)) (nxt_ok (hc c (List.mem_cons_self ..)) hr h) m1 m2 s hs
        rw [List.length_cons]
        rw [show n + 21 * (cs.length + 1) = n + 21 + 21 * cs.length by omega]
        exact this
    · rw [if_neg h] at hs
      cases List.mem_singleton.mp hs; exact ⟨nb_mono h1 up, nb_mono h2 up⟩
theorem rests_ok {cs : List PP} (h : ChsOk cs) {s : PP} (hs : s ∈ restsL cs) : RO s ∧ nb 400 s.1 ∧ nb 400 s.2 := by
  have k := rests_nb cs (1, 1) 1 h.2 ro1 (by unfold nb; decide) (by unfold nb; decide) s hs
  have l := h.1
  exact ⟨rests_ro cs _ h.2 ro1 s hs, nb_mono k.1 (by omega), nb_mono k.2 (by omega)⟩
theorem fracC_lo {M : Mem} {t b : Int} {nm : Str} {E : DXK} {k : Int → Int → Prop} (h : 0 < b) (ht : nb 1000 t) (hb : nb 1000 b) (q : k (lo t b).1 (lo t b).2) : fracC K M (frD t b) nm E k :=
  .inr (.inl ⟨_, _, RowD.tup, lo_pos h, lo_nb1 h ht, lo_nb2 h hb, q⟩)
theorem frP_nxt {c r : PP} (hc : 0 < c.2) (hr : 0 < r.1) (hr2 : 0 < r.2) : frD (1 * (lo (c.1 * r.2) (r.1 * c.2)).2 - (lo (c.1 * r.2) (r.1 * c.2)).1 * 1) (1 * (lo (c.1 * r.2) (r.1 * c.2)).2) = frP (nxt c r) := by
  have h := sub_raw (t := 1) (b := 1) (u := c.1 * r.2) (v := r.1 * c.2) (by decide) (Int.mul_pos hr hc)
  rw [lo_one] at h
  dsimp only at h
  rw [h]
  unfold frP nxt
  dsimp only
  congr 1 <;> grind
end
end LW

namespace LW
open PySem PySem.Spec PyProof.Rows L2 DL
section
variable {K : PySem.W.Frag} {mg : Str → Option Value}
theorem rests_ro' {cs : List PP} (h : ChsOk cs) : RO (finF cs (1, 1)) ∧ nb 400 (finF cs (1, 1)).1 ∧ nb 400 (finF cs (1, 1)).2 := rests_ok h (fin_mem cs _)
theorem nb_one {n : Nat} (h : 1 ≤ n) : nb n 1 := nb_mono (n := 1) (by unfold nb; decide) h
theorem rests_split (cs : List PP) (r : PP) : ∃ l, restsF cs r = l ++ [finF cs r] := by
  have h := rests_last cs r
  have l := rests_len cs r
  refine ⟨(restsF cs r).take ((restsF cs r).length - 1), ?_⟩
  have e : restsF cs r = (restsF cs r).take ((restsF cs r).length - 1 + 1) := by rw [List.take_of_length_le (by omega)]
  rw [List.take_succ, h] at e
  exact e
theorem rests_at (cs : List PP) (r : PP) : atI ((restsF cs r).map frP) (-1) = some (frP (finF cs r)) := by
  obtain ⟨l, e⟩ := rests_split cs r
  rw [e, List.map_append]
  exact atI_last _ _
theorem frP_sign {r : PP} (h : 0 < r.2) : ((lo r.1 r.2).1 ≤ 0 ↔ r.1 ≤ 0) := by
  have := lo_sign (u := r.1) h
  omega
theorem b_rests : ∀ d0 M Q E, sp_rests K [d0] M Q E → g_rests K { nx := fun _ M => Q .non M, rt := Q, ex := fun x _ M => E x M } [some d0, none, none, none] M := by
  intro d0 M Q E h
  have h : lossC K M d0 (fun x M => E x M) fun cs => Q (.tup ((restsL cs).map frP)) M := h
  unfold g_rests
  dsimp only [q_op, q_un, q_var, q_c, q_nil, q_cons, q_tup, q_frz, q_cel, q_lst, q_test, q_onB, q_and, q_or, q_not, q_andV, q_orV, q_notV, q_if, q_chain, q_next, q_seq, q_drop, q_ret, q_retF, q_retN, q_sif, q_break, q_cont, q_name, q_dnil, q_dcons, q_dtup, q_asg, q_set, q_par, q_for, q_range1, q_range2, q_iseq, q_ienum, q_call, q_cb, q_ncb, q_nop, q_lenset, q_mt, q_mt0, q_setix, q_augs, q_aug, q_nsl, q_onone, q_osome, q_gsl, q_raise, q_raiseF, q_try, q_lc, q_lc2, q_yes, q_wipe0, q_wipe, q_xf, q_I, q_I0, q_U, q_add, q_addT, q_addL, q_addR, q_onL, q_onSt, q_onSl, q_onSs, q_onSrct, q_onSrcl, q_eqI, q_eqB, q_eqS, q_eqN, q_isN, q_ix, q_ixL, q_in, q_len, q_sum, q_max, q_min, q_max2, q_min2, q_abs, q_int, q_intB, q_tupof, q_lstof, q_sort, q_rep, q_cat, q_isi, q_isis, q_setat, q_onC, q_append, q_pop, q_popAt, q_reverse, q_insert, q_sp1, q_sp2, q_sp3, q_sp4, q_at0, q_atS, q_st0, q_stS, q_iteT, q_iteF, q_isB, q_sumS, q_all, q_any, q_repT, q_spV, q_nLcX, q_sFz, q_gFld, q_sFldD, q_gMake, q_gCallI, q_gMeth, q_iOwnF, q_isO, q_gIxI, q_lenO, q_modN, q_divmod, q_gSMeth, q_dtupA, q_dtupAL, q_gRevD, q_revT, q_revL, q_gCallKw, q_eqO, q_gCallVS, q_gOpO, q_gUnO, q_gCMeth, q_gMakeV, q_gSlot, q_gMakeS, q_sSlot, q_gMethS, q_isS, q_lc3, q_tru, q_onTl, q_onTt, q_onTb, q_onTi, q_onTn, q_lstRev, q_lstRg2, q_lstRg1, q_prop, q_inO, q_gOpL, q_neO, q_gOpN, q_lstZip, q_repr, q_isXT, sp__chances_of, sp_divided, sp_taken_off]
  refine ⟨rfl, rfl, lossC_imp (fun _ z => z) (fun cs ok q => ?_) h⟩
  refine ⟨by rw [sz]; show 2 ≤ 16777216; omega, by rw [sz]; show 1 ≤ 16777216; omega, fun p hp => ?_⟩
  have fin : ∀ a : Option DL.D, sRetF (gCB dTupleOf (aCons (gVar 2) aNil)) { nx := fun x M => Q .non M, rt := Q, ex := fun x x_1 M => E x M } [some d0, some (.tup (cs.map frP)), some (.ref p), a] (mset M p (.lst ((restsL cs).map frP))) := by
    intro a
    (try dsimp only [q_op, q_un, q_var, q_c, q_nil, q_cons, q_tup, q_frz, q_cel, q_lst, q_test, q_onB, q_and, q_or, q_not, q_andV, q_orV, q_notV, q_if, q_chain, q_next, q_seq, q_drop, q_ret, q_retF, q_retN, q_sif, q_break, q_cont, q_name, q_dnil, q_dcons, q_dtup, q_asg, q_set, q_par, q_for, q_range1, q_range2, q_iseq, q_ienum, q_call, q_cb, q_ncb, q_nop, q_lenset, q_mt, q_mt0, q_setix, q_augs, q_aug, q_nsl, q_onone, q_osome, q_gsl, q_raise, q_raiseF, q_try, q_lc, q_lc2, q_yes, q_wipe0, q_wipe, q_xf, q_I, q_I0, q_U, q_add, q_addT, q_addL, q_addR, q_onL, q_onSt, q_onSl, q_onSs, q_onSrct, q_onSrcl, q_eqI, q_eqB, q_eqS, q_eqN, q_isN, q_ix, q_ixL, q_in, q_len, q_sum, q_max, q_min, q_max2, q_min2, q_abs, q_int, q_intB, q_tupof, q_lstof, q_sort, q_rep, q_cat, q_isi, q_isis, q_setat, q_onC, q_append, q_pop, q_popAt, q_reverse, q_insert, q_sp1, q_sp2, q_sp3, q_sp4, q_at0, q_atS, q_st0, q_stS, q_iteT, q_iteF, q_isB, q_sumS, q_all, q_any, q_repT, q_spV, q_nLcX, q_sFz, q_gFld, q_sFldD, q_gMake, q_gCallI, q_gMeth, q_iOwnF, q_isO, q_gIxI, q_lenO, q_modN, q_divmod, q_gSMeth, q_dtupA, q_dtupAL, q_gRevD, q_revT, q_revL, q_gCallKw, q_eqO, q_gCallVS, q_gOpO, q_gUnO, q_gCMeth, q_gMakeV, q_gSlot, q_gMakeS, q_sSlot, q_gMethS, q_isS, q_lc3, q_tru, q_onTl, q_onTt, q_onTb, q_onTi, q_onTn, q_lstRev, q_lstRg2, q_lstRg1, q_prop, q_inO, q_gOpL, q_neO, q_gOpN, q_lstZip, q_repr, q_isXT])
    exact onS_ref mset_same (ret_drop (MemUp.add hp) q)
  refine loop_map frP cs (fun k ρ M2 => (∃ a, ρ = [some d0, some (.tup (cs.map frP)), some (.ref p), a]) ∧ M2 = mset M p (.lst ((restsF (cs.take k) (1, 1)).map frP)) ∧ 0 < (finF (cs.take k) (1, 1)).1) (fun _ _ _ _ _ => trivial) ?_ ?_ ⟨⟨_, rfl⟩, by show _ = mset M p (.lst [frP (1, 1)]); rfl, by show (0 : Int) < 1; decide⟩
  · rintro k c ρ M2 hc ⟨⟨a, rfl⟩, rfl, hp0⟩ Nx hN
    have ck := ok.2 c (List.mem_of_getElem? hc)
    have okt : ChsOk (cs.take k) := ⟨by rw [List.length_take]; have := ok.1; omega, fun x hx => ok.2 x (List.mem_of_mem_take hx)⟩
    obtain ⟨ro, n1, n2⟩ := rests_ro' okt
    have et : cs.take (k + 1) = cs.take k ++ [c] := by rw [List.take_succ, hc]; rfl
    (try dsimp only [q_op, q_un, q_var, q_c, q_nil, q_cons, q_tup, q_frz, q_cel, q_lst, q_test, q_onB, q_and, q_or, q_not, q_andV, q_orV, q_notV, q_if, q_chain, q_next, q_seq, q_drop, q_ret, q_retF, q_retN, q_sif, q_break, q_cont, q_name, q_dnil, q_dcons, q_dtup, q_asg, q_set, q_par, q_for, q_range1, q_range2, q_iseq, q_ienum, q_call, q_cb, q_ncb, q_nop, q_lenset, q_mt, q_mt0, q_setix, q_augs, q_aug, q_nsl, q_onone, q_osome, q_gsl, q_raise, q_raiseF, q_try, q_lc, q_lc2, q_yes, q_wipe0, q_wipe, q_xf, q_I, q_I0, q_U, q_add, q_addT, q_addL, q_addR, q_onL, q_onSt, q_onSl, q_onSs, q_onSrct, q_onSrcl, q_eqI, q_eqB, q_eqS, q_eqN, q_isN, q_ix, q_ixL, q_in, q_len, q_sum, q_max, q_min, q_max2, q_min2, q_abs, q_int, q_intB, q_tupof, q_lstof, q_sort, q_rep, q_cat, q_isi, q_isis, q_setat, q_onC, q_append, q_pop, q_popAt, q_reverse, q_insert, q_sp1, q_sp2, q_sp3, q_sp4, q_at0, q_atS, q_st0, q_stS, q_iteT, q_iteF, q_isB, q_sumS, q_all, q_any, q_repT, q_spV, q_nLcX, q_sFz, q_gFld, q_sFldD, q_gMake, q_gCallI, q_gMeth, q_iOwnF, q_isO, q_gIxI, q_lenO, q_modN, q_divmod, q_gSMeth, q_dtupA, q_dtupAL, q_gRevD, q_revT, q_revL, q_gCallKw, q_eqO, q_gCallVS, q_gOpO, q_gUnO, q_gCMeth, q_gMakeV, q_gSlot, q_gMakeS, q_sSlot, q_gMethS, q_isS, q_lc3, q_tru, q_onTl, q_onTt, q_onTb, q_onTi, q_onTn, q_lstRev, q_lstRg2, q_lstRg1, q_prop, q_inO, q_gOpL, q_neO, q_gOpN, q_lstZip, q_repr, q_isXT])
    refine ⟨onL_ref (k := fun _ => True) mset_same trivial, by rw [sz]; show 2 ≤ 16777216; omega, onS_ref mset_same ⟨_, rests_at _ _, ?_⟩⟩
    have pp := Int.mul_pos hp0 (show 0 < c.2 by have := ck.2.2.1; omega)
    have cb : nb 20 c.1 ∧ nb 20 c.2 := by obtain ⟨k1, k2, k3, k4⟩ := ck; unfold nb; omega
    refine fracC_lo (by have := ck.2.2.1; omega) (nb_mono cb.1 (by omega)) (nb_mono cb.2 (by omega)) (fracC_lo ro.1 (nb_mono n1 (by omega)) (nb_mono n2 (by omega)) ?_)
    dsimp only
    rw [if_neg (by have := lo_sign (u := (finF (cs.take k) (1, 1)).1) ro.1; omega), if_neg (by have := lo_sign (u := (finF (cs.take k) (1, 1)).1) ro.1; omega), div_raw (by have := ck.2.2.1; omega) ro.1 hp0]
    have xb : nb 420 (c.1 * (finF (cs.take k) (1, 1)).2) := nb_mul cb.1 n2
    have yb : nb 420 ((finF (cs.take k) (1, 1)).1 * c.2) := nb_mono (nb_mul n1 cb.2) (by omega)
    refine .inr (.inl ⟨1, 1, RowD.tup, by decide, nb_one (by omega), nb_one (by omega), fracC_lo pp (nb_mono xb (by omega)) (nb_mono yb (by omega)) ?_⟩)
    dsimp only
    rw [frP_nxt (by have := ck.2.2.1; omega) hp0 ro.1]
    have es : (restsF (cs.take k) (1, 1)).map frP ++ [frP (nxt c (finF (cs.take k) (1, 1)))] = (restsF (cs.take (k + 1)) (1, 1)).map frP := by
      rw [et, rests_snoc, if_pos hp0, List.map_append]; rfl
    have ef : finF (cs.take (k + 1)) (1, 1) = nxt c (finF (cs.take k) (1, 1)) := by rw [et, fin_snoc, if_pos hp0]
    have okt' : ChsOk (cs.take (k + 1)) := ⟨by rw [List.length_take]; have := ok.1; omega, fun x hx => ok.2 x (List.mem_of_mem_take hx)⟩
    obtain ⟨ro', _, _⟩ := rests_ro' okt'
    have ll := rests_len (cs.take k) (1, 1)
    refine ⟨_, mset_same, by rw [sz, List.length_map]; have := ok.1; have := ll.2.1; rw [List.length_take] at this; omega, ?_⟩
    rw [mset_mset, es]
    refine onS_ref mset_same ⟨_, rests_at _ _, RowD.onS RowD.tup ⟨_, rfl, ?_⟩⟩
    (try dsimp only [q_op, q_un, q_var, q_c, q_nil, q_cons, q_tup, q_frz, q_cel, q_lst, q_test, q_onB, q_and, q_or, q_not, q_andV, q_orV, q_notV, q_if, q_chain, q_next, q_seq, q_drop, q_ret, q_retF, q_retN, q_sif, q_break, q_cont, q_name, q_dnil, q_dcons, q_dtup, q_asg, q_set, q_par, q_for, q_range1, q_range2, q_iseq, q_ienum, q_call, q_cb, q_ncb, q_nop, q_lenset, q_mt, q_mt0, q_setix, q_augs, q_aug, q_nsl, q_onone, q_osome, q_gsl, q_raise, q_raiseF, q_try, q_lc, q_lc2, q_yes, q_wipe0, q_wipe, q_xf, q_I, q_I0, q_U, q_add, q_addT, q_addL, q_addR, q_onL, q_onSt, q_onSl, q_onSs, q_onSrct, q_onSrcl, q_eqI, q_eqB, q_eqS, q_eqN, q_isN, q_ix, q_ixL, q_in, q_len, q_sum, q_max, q_min, q_max2, q_min2, q_abs, q_int, q_intB, q_tupof, q_lstof, q_sort, q_rep, q_cat, q_isi, q_isis, q_setat, q_onC, q_append, q_pop, q_popAt, q_reverse, q_insert, q_sp1, q_sp2, q_sp3, q_sp4, q_at0, q_atS, q_st0, q_stS, q_iteT, q_iteF, q_isB, q_sumS, q_all, q_any, q_repT, q_spV, q_nLcX, q_sFz, q_gFld, q_sFldD, q_gMake, q_gCallI, q_gMeth, q_iOwnF, q_isO, q_gIxI, q_lenO, q_modN, q_divmod, q_gSMeth, q_dtupA, q_dtupAL, q_gRevD, q_revT, q_revL, q_gCallKw, q_eqO, q_gCallVS, q_gOpO, q_gUnO, q_gCMeth, q_gMakeV, q_gSlot, q_gMakeS, q_sSlot, q_gMethS, q_isS, q_lc3, q_tru, q_onTl, q_onTt, q_onTb, q_onTi, q_onTn, q_lstRev, q_lstRg2, q_lstRg1, q_prop, q_inO, q_gOpL, q_neO, q_gOpN, q_lstZip, q_repr, q_isXT])
    by_cases z : (finF (cs.take (k + 1)) (1, 1)).1 ≤ 0
    · refine if_t (decide_eq_true ((frP_sign ro'.1).mpr z)) ?_
      have e := (rests_more (as := cs.take (k + 1)) (bs := cs.drop (k + 1)) z).1
      rw [List.take_append_drop] at e
      have := fin (some (frP c))
      rw [e] at this
      exact this
    · exact if_f (decide_eq_false fun w => z ((frP_sign ro'.1).mp w)) (hN _ _ ⟨⟨_, rfl⟩, rfl, by omega⟩)
  · rintro ρ M2 ⟨⟨a, rfl⟩, rfl, _⟩
    rw [List.take_of_length_le (Nat.le_refl _)]
    exact fin a
theorem cloD_some {cs : List PP} (h : (finL cs).1 ≤ 0) : cloD cs = .int (((restsL cs).length : Int) - 1) := by
  have l := (rests_len cs (1, 1)).1
  unfold cloD cloL
  rw [if_pos h]
  show DL.D.int _ = _
  unfold restsL
  congr 1
  omega
theorem cloD_none {cs : List PP} (h : 0 < (finL cs).1) : cloD cs = .non := by
  unfold cloD cloL
  rw [if_neg (by omega)]
theorem b_closes_at : ∀ d0 M Q E, sp_closes_at K [d0] M Q E → g_closes_at K { nx := fun _ M => Q .non M, rt := Q, ex := fun x _ M => E x M } [some d0, none] M := by
  intro d0 M Q E h
  have h : lossC K M d0 (fun x M => E x M) fun cs => Q (cloD cs) M := h
  unfold g_closes_at
  dsimp only [q_op, q_un, q_var, q_c, q_nil, q_cons, q_tup, q_frz, q_cel, q_lst, q_test, q_onB, q_and, q_or, q_not, q_andV, q_orV, q_notV, q_if, q_chain, q_next, q_seq, q_drop, q_ret, q_retF, q_retN, q_sif, q_break, q_cont, q_name, q_dnil, q_dcons, q_dtup, q_asg, q_set, q_par, q_for, q_range1, q_range2, q_iseq, q_ienum, q_call, q_cb, q_ncb, q_nop, q_lenset, q_mt, q_mt0, q_setix, q_augs, q_aug, q_nsl, q_onone, q_osome, q_gsl, q_raise, q_raiseF, q_try, q_lc, q_lc2, q_yes, q_wipe0, q_wipe, q_xf, q_I, q_I0, q_U, q_add, q_addT, q_addL, q_addR, q_onL, q_onSt, q_onSl, q_onSs, q_onSrct, q_onSrcl, q_eqI, q_eqB, q_eqS, q_eqN, q_isN, q_ix, q_ixL, q_in, q_len, q_sum, q_max, q_min, q_max2, q_min2, q_abs, q_int, q_intB, q_tupof, q_lstof, q_sort, q_rep, q_cat, q_isi, q_isis, q_setat, q_onC, q_append, q_pop, q_popAt, q_reverse, q_insert, q_sp1, q_sp2, q_sp3, q_sp4, q_at0, q_atS, q_st0, q_stS, q_iteT, q_iteF, q_isB, q_sumS, q_all, q_any, q_repT, q_spV, q_nLcX, q_sFz, q_gFld, q_sFldD, q_gMake, q_gCallI, q_gMeth, q_iOwnF, q_isO, q_gIxI, q_lenO, q_modN, q_divmod, q_gSMeth, q_dtupA, q_dtupAL, q_gRevD, q_revT, q_revL, q_gCallKw, q_eqO, q_gCallVS, q_gOpO, q_gUnO, q_gCMeth, q_gMakeV, q_gSlot, q_gMakeS, q_sSlot, q_gMethS, q_isS, q_lc3, q_tru, q_onTl, q_onTt, q_onTb, q_onTi, q_onTn, q_lstRev, q_lstRg2, q_lstRg1, q_prop, q_inO, q_gOpL, q_neO, q_gOpN, q_lstZip, q_repr, q_isXT, sp_rests]
  refine lossC_imp (fun _ z => z) (fun cs ok q => ?_) h
  obtain ⟨ro, n1, n2⟩ := rests_ro' ok
  refine ⟨_, rests_at _ _, ?_⟩
  refine RowD.onS RowD.tup ⟨_, rfl, ?_⟩
  (try dsimp only [q_op, q_un, q_var, q_c, q_nil, q_cons, q_tup, q_frz, q_cel, q_lst, q_test, q_onB, q_and, q_or, q_not, q_andV, q_orV, q_notV, q_if, q_chain, q_next, q_seq, q_drop, q_ret, q_retF, q_retN, q_sif, q_break, q_cont, q_name, q_dnil, q_dcons, q_dtup, q_asg, q_set, q_par, q_for, q_range1, q_range2, q_iseq, q_ienum, q_call, q_cb, q_ncb, q_nop, q_lenset, q_mt, q_mt0, q_setix, q_augs, q_aug, q_nsl, q_onone, q_osome, q_gsl, q_raise, q_raiseF, q_try, q_lc, q_lc2, q_yes, q_wipe0, q_wipe, q_xf, q_I, q_I0, q_U, q_add, q_addT, q_addL, q_addR, q_onL, q_onSt, q_onSl, q_onSs, q_onSrct, q_onSrcl, q_eqI, q_eqB, q_eqS, q_eqN, q_isN, q_ix, q_ixL, q_in, q_len, q_sum, q_max, q_min, q_max2, q_min2, q_abs, q_int, q_intB, q_tupof, q_lstof, q_sort, q_rep, q_cat, q_isi, q_isis, q_setat, q_onC, q_append, q_pop, q_popAt, q_reverse, q_insert, q_sp1, q_sp2, q_sp3, q_sp4, q_at0, q_atS, q_st0, q_stS, q_iteT, q_iteF, q_isB, q_sumS, q_all, q_any, q_repT, q_spV, q_nLcX, q_sFz, q_gFld, q_sFldD, q_gMake, q_gCallI, q_gMeth, q_iOwnF, q_isO, q_gIxI, q_lenO, q_modN, q_divmod, q_gSMeth, q_dtupA, q_dtupAL, q_gRevD, q_revT, q_revL, q_gCallKw, q_eqO, q_gCallVS, q_gOpO, q_gUnO, q_gCMeth, q_gMakeV, q_gSlot, q_gMakeS, q_sSlot, q_gMethS, q_isS, q_lc3, q_tru, q_onTl, q_onTt, q_onTb, q_onTi, q_onTn, q_lstRev, q_lstRg2, q_lstRg1, q_prop, q_inO, q_gOpL, q_neO, q_gOpN, q_lstZip, q_repr, q_isXT])
  rw [List.length_map]
  by_cases c : (finL cs).1 ≤ 0
  · rw [cloD_some c] at q
    exact if_t (decide_eq_true ((frP_sign ro.1).mpr c)) q
  · rw [cloD_none (by omega)] at q
    exact if_f (decide_eq_false fun z => c ((frP_sign ro.1).mp z)) q
theorem b_rest_of : ∀ d0 M Q E, sp_rest_of K [d0] M Q E → g_rest_of K { nx := fun _ M => Q .non M, rt := Q, ex := fun x _ M => E x M } [some d0, none] M := by
  intro d0 M Q E h
  have h : lossC K M d0 (fun x M => E x M) fun cs => Q (rofD cs) M := h
  unfold g_rest_of
  dsimp only [q_op, q_un, q_var, q_c, q_nil, q_cons, q_tup, q_frz, q_cel, q_lst, q_test, q_onB, q_and, q_or, q_not, q_andV, q_orV, q_notV, q_if, q_chain, q_next, q_seq, q_drop, q_ret, q_retF, q_retN, q_sif, q_break, q_cont, q_name, q_dnil, q_dcons, q_dtup, q_asg, q_set, q_par, q_for, q_range1, q_range2, q_iseq, q_ienum, q_call, q_cb, q_ncb, q_nop, q_lenset, q_mt, q_mt0, q_setix, q_augs, q_aug, q_nsl, q_onone, q_osome, q_gsl, q_raise, q_raiseF, q_try, q_lc, q_lc2, q_yes, q_wipe0, q_wipe, q_xf, q_I, q_I0, q_U, q_add, q_addT, q_addL, q_addR, q_onL, q_onSt, q_onSl, q_onSs, q_onSrct, q_onSrcl, q_eqI, q_eqB, q_eqS, q_eqN, q_isN, q_ix, q_ixL, q_in, q_len, q_sum, q_max, q_min, q_max2, q_min2, q_abs, q_int, q_intB, q_tupof, q_lstof, q_sort, q_rep, q_cat, q_isi, q_isis, q_setat, q_onC, q_append, q_pop, q_popAt, q_reverse, q_insert, q_sp1, q_sp2, q_sp3, q_sp4, q_at0, q_atS, q_st0, q_stS, q_iteT, q_iteF, q_isB, q_sumS, q_all, q_any, q_repT, q_spV, q_nLcX, q_sFz, q_gFld, q_sFldD, q_gMake, q_gCallI, q_gMeth, q_iOwnF, q_isO, q_gIxI, q_lenO, q_modN, q_divmod, q_gSMeth, q_dtupA, q_dtupAL, q_gRevD, q_revT, q_revL, q_gCallKw, q_eqO, q_gCallVS, q_gOpO, q_gUnO, q_gCMeth, q_gMakeV, q_gSlot, q_gMakeS, q_sSlot, q_gMethS, q_isS, q_lc3, q_tru, q_onTl, q_onTt, q_onTb, q_onTi, q_onTn, q_lstRev, q_lstRg2, q_lstRg1, q_prop, q_inO, q_gOpL, q_neO, q_gOpN, q_lstZip, q_repr, q_isXT, sp_rests]
  refine lossC_imp (fun _ z => z) (fun cs ok q => ?_) h
  obtain ⟨ro, n1, n2⟩ := rests_ro' ok
  refine ⟨_, rests_at _ _, ?_⟩
  refine RowD.onS RowD.tup ⟨_, rfl, ?_⟩
  (try dsimp only [q_op, q_un, q_var, q_c, q_nil, q_cons, q_tup, q_frz, q_cel, q_lst, q_test, q_onB, q_and, q_or, q_not, q_andV, q_orV, q_notV, q_if, q_chain, q_next, q_seq, q_drop, q_ret, q_retF, q_retN, q_sif, q_break, q_cont, q_name, q_dnil, q_dcons, q_dtup, q_asg, q_set, q_par, q_for, q_range1, q_range2, q_iseq, q_ienum, q_call, q_cb, q_ncb, q_nop, q_lenset, q_mt, q_mt0, q_setix, q_augs, q_aug, q_nsl, q_onone, q_osome, q_gsl, q_raise, q_raiseF, q_try, q_lc, q_lc2, q_yes, q_wipe0, q_wipe, q_xf, q_I, q_I0, q_U, q_add, q_addT, q_addL, q_addR, q_onL, q_onSt, q_onSl, q_onSs, q_onSrct, q_onSrcl, q_eqI, q_eqB, q_eqS, q_eqN, q_isN, q_ix, q_ixL, q_in, q_len, q_sum, q_max, q_min, q_max2, q_min2, q_abs, q_int, q_intB, q_tupof, q_lstof, q_sort, q_rep, q_cat, q_isi, q_isis, q_setat, q_onC, q_append, q_pop, q_popAt, q_reverse, q_insert, q_sp1, q_sp2, q_sp3, q_sp4, q_at0, q_atS, q_st0, q_stS, q_iteT, q_iteF, q_isB, q_sumS, q_all, q_any, q_repT, q_spV, q_nLcX, q_sFz, q_gFld, q_sFldD, q_gMake, q_gCallI, q_gMeth, q_iOwnF, q_isO, q_gIxI, q_lenO, q_modN, q_divmod, q_gSMeth, q_dtupA, q_dtupAL, q_gRevD, q_revT, q_revL, q_gCallKw, q_eqO, q_gCallVS, q_gOpO, q_gUnO, q_gCMeth, q_gMakeV, q_gSlot, q_gMakeS, q_sSlot, q_gMethS, q_isS, q_lc3, q_tru, q_onTl, q_onTt, q_onTb, q_onTi, q_onTn, q_lstRev, q_lstRg2, q_lstRg1, q_prop, q_inO, q_gOpL, q_neO, q_gOpN, q_lstZip, q_repr, q_isXT])
  unfold rofD at q
  by_cases c : (finL cs).1 ≤ 0
  · rw [if_pos c] at q
    exact if_t (decide_eq_true ((frP_sign ro.1).mpr c)) q
  · rw [if_neg c] at q
    exact if_f (decide_eq_false fun z => c ((frP_sign ro.1).mp z)) ⟨_, rests_at _ _, q⟩
end
end LW

namespace LW
open PySem PySem.Spec PyProof.Rows L2 DL
section
variable {K : PySem.W.Frag} {mg : Str → Option Value}
def menuC : List PP := [(1, 2), (2, 3), (1, 2), (3, 5), (3, 4), (1, 3), (5, 8), (0, 1), (1, 1), (8, 13), (7, 10), (2, 5)]
theorem menu_ok {i : Nat} (h : i < 12) : ∃ c, menuC[i]? = some c ∧ 0 ≤ c.1 ∧ c.1 ≤ c.2 ∧ 1 ≤ c.2 ∧ c.2 ≤ 13 := by
  have : ∀ i : Fin 12, ∃ c, menuC[i.1]? = some c ∧ 0 ≤ c.1 ∧ c.1 ≤ c.2 ∧ 1 ≤ c.2 ∧ c.2 ≤ 13 := by
    intro i
    have hc : ∃ c, menuC[i.1]? = some c := ⟨menuC[i.1], List.getElem?_eq_getElem i.2⟩
    obtain ⟨c, hc⟩ := hc
    have hm := List.mem_of_getElem? hc
    refine ⟨c, hc, ?_⟩
    have : ∀ c ∈ menuC, 0 ≤ c.1 ∧ c.1 ≤ c.2 ∧ 1 ≤ c.2 ∧ c.2 ≤ 13 := by decide
    exact this c hm
  exact this ⟨i, h⟩
theorem lsz {xs : List DL.D} (h : xs.length ≤ 100) : xs.length ≤ sizeLine := by rw [sz]; omega
theorem b__law_chance : ∀ d0 M Q E, sp__law_chance K [d0] M Q E → g__law_chance K { nx := fun _ M => Q .non M, rt := Q, ex := fun x _ M => E x M } [some d0, none, none, none] M := by
  rintro d0 M Q E ⟨p, rfl, hp, q⟩
  unfold g__law_chance
  dsimp only [q_op, q_un, q_var, q_c, q_nil, q_cons, q_tup, q_frz, q_cel, q_lst, q_test, q_onB, q_and, q_or, q_not, q_andV, q_orV, q_notV, q_if, q_chain, q_next, q_seq, q_drop, q_ret, q_retF, q_retN, q_sif, q_break, q_cont, q_name, q_dnil, q_dcons, q_dtup, q_asg, q_set, q_par, q_for, q_range1, q_range2, q_iseq, q_ienum, q_call, q_cb, q_ncb, q_nop, q_lenset, q_mt, q_mt0, q_setix, q_augs, q_aug, q_nsl, q_onone, q_osome, q_gsl, q_raise, q_raiseF, q_try, q_lc, q_lc2, q_yes, q_wipe0, q_wipe, q_xf, q_I, q_I0, q_U, q_add, q_addT, q_addL, q_addR, q_onL, q_onSt, q_onSl, q_onSs, q_onSrct, q_onSrcl, q_eqI, q_eqB, q_eqS, q_eqN, q_isN, q_ix, q_ixL, q_in, q_len, q_sum, q_max, q_min, q_max2, q_min2, q_abs, q_int, q_intB, q_tupof, q_lstof, q_sort, q_rep, q_cat, q_isi, q_isis, q_setat, q_onC, q_append, q_pop, q_popAt, q_reverse, q_insert, q_sp1, q_sp2, q_sp3, q_sp4, q_at0, q_atS, q_st0, q_stS, q_iteT, q_iteF, q_isB, q_sumS, q_all, q_any, q_repT, q_spV, q_nLcX, q_sFz, q_gFld, q_sFldD, q_gMake, q_gCallI, q_gMeth, q_iOwnF, q_isO, q_gIxI, q_lenO, q_modN, q_divmod, q_gSMeth, q_dtupA, q_dtupAL, q_gRevD, q_revT, q_revL, q_gCallKw, q_eqO, q_gCallVS, q_gOpO, q_gUnO, q_gCMeth, q_gMakeV, q_gSlot, q_gMakeS, q_sSlot, q_gMethS, q_isS, q_lc3, q_tru, q_onTl, q_onTt, q_onTb, q_onTi, q_onTn, q_lstRev, q_lstRg2, q_lstRg1, q_prop, q_inO, q_gOpL, q_neO, q_gOpN, q_lstZip, q_repr, q_isXT, sp__law_take]
  have z2 : ∀ a b : DL.D, [a, b].length ≤ sizeLine := fun a b => lsz (by simp)
  refine ⟨z2 _ _, z2 _ _, z2 _ _, z2 _ _, z2 _ _, z2 _ _, z2 _ _, z2 _ _, z2 _ _, z2 _ _, z2 _ _, z2 _ _, lsz (by simp), p, 14, rfl, rfl, by decide, hp, fun r xs r0 r1 => ?_⟩
  by_cases c : r < 12
  · obtain ⟨i, rfl⟩ : ∃ i : Nat, r = (i : Nat) := ⟨r.toNat, by omega⟩
    obtain ⟨m, hm, m1, m2, m3, m4⟩ := menu_ok (i := i) (by omega)
    refine if_t (decide_eq_true c) ⟨prD m, ?_, q m xs m1 m2 m3 m4⟩
    show atI (menuC.map prD) ((i : Nat) : Int) = _
    exact L2.atI_nat (by rw [List.getElem?_map, hm]; rfl)
  · refine if_f (decide_eq_false c) ⟨p, 11, rfl, rfl, by decide, ⟨xs, mset_same⟩, fun r2 xs2 r3 r4 => ?_⟩
    refine ⟨p, 2 + r2 + 1, rfl, rfl, by omega, ⟨xs2, mset_same⟩, fun r5 xs3 r6 r7 => ?_⟩
    rw [mset_mset, mset_mset]
    exact ⟨z2 _ _, q (r5, 2 + r2) xs3 r6 (by dsimp only; omega) (by dsimp only; omega) (by dsimp only; omega)⟩
theorem b__law_loss : ∀ d0 M Q E, sp__law_loss K [d0] M Q E → g__law_loss K { nx := fun _ M => Q .non M, rt := Q, ex := fun x _ M => E x M } [some d0, none, none] M := by
  rintro d0 M Q E ⟨p, rfl, hp, q⟩
  unfold g__law_loss
  dsimp only [q_op, q_un, q_var, q_c, q_nil, q_cons, q_tup, q_frz, q_cel, q_lst, q_test, q_onB, q_and, q_or, q_not, q_andV, q_orV, q_notV, q_if, q_chain, q_next, q_seq, q_drop, q_ret, q_retF, q_retN, q_sif, q_break, q_cont, q_name, q_dnil, q_dcons, q_dtup, q_asg, q_set, q_par, q_for, q_range1, q_range2, q_iseq, q_ienum, q_call, q_cb, q_ncb, q_nop, q_lenset, q_mt, q_mt0, q_setix, q_augs, q_aug, q_nsl, q_onone, q_osome, q_gsl, q_raise, q_raiseF, q_try, q_lc, q_lc2, q_yes, q_wipe0, q_wipe, q_xf, q_I, q_I0, q_U, q_add, q_addT, q_addL, q_addR, q_onL, q_onSt, q_onSl, q_onSs, q_onSrct, q_onSrcl, q_eqI, q_eqB, q_eqS, q_eqN, q_isN, q_ix, q_ixL, q_in, q_len, q_sum, q_max, q_min, q_max2, q_min2, q_abs, q_int, q_intB, q_tupof, q_lstof, q_sort, q_rep, q_cat, q_isi, q_isis, q_setat, q_onC, q_append, q_pop, q_popAt, q_reverse, q_insert, q_sp1, q_sp2, q_sp3, q_sp4, q_at0, q_atS, q_st0, q_stS, q_iteT, q_iteF, q_isB, q_sumS, q_all, q_any, q_repT, q_spV, q_nLcX, q_sFz, q_gFld, q_sFldD, q_gMake, q_gCallI, q_gMeth, q_iOwnF, q_isO, q_gIxI, q_lenO, q_modN, q_divmod, q_gSMeth, q_dtupA, q_dtupAL, q_gRevD, q_revT, q_revL, q_gCallKw, q_eqO, q_gCallVS, q_gOpO, q_gUnO, q_gCMeth, q_gMakeV, q_gSlot, q_gMakeS, q_sSlot, q_gMethS, q_isS, q_lc3, q_tru, q_onTl, q_onTt, q_onTb, q_onTi, q_onTn, q_lstRev, q_lstRg2, q_lstRg1, q_prop, q_inO, q_gOpL, q_neO, q_gOpN, q_lstZip, q_repr, q_isXT, sp__law_take, sp__law_chance]
  refine ⟨p, rfl, hp, fun c xs c1 c2 c3 c4 => ?_⟩
  refine ⟨p, 9, rfl, rfl, by decide, ⟨xs, mset_same⟩, fun w xs2 w0 w9 => ?_⟩
  rw [mset_mset]
  (try dsimp only [q_op, q_un, q_var, q_c, q_nil, q_cons, q_tup, q_frz, q_cel, q_lst, q_test, q_onB, q_and, q_or, q_not, q_andV, q_orV, q_notV, q_if, q_chain, q_next, q_seq, q_drop, q_ret, q_retF, q_retN, q_sif, q_break, q_cont, q_name, q_dnil, q_dcons, q_dtup, q_asg, q_set, q_par, q_for, q_range1, q_range2, q_iseq, q_ienum, q_call, q_cb, q_ncb, q_nop, q_lenset, q_mt, q_mt0, q_setix, q_augs, q_aug, q_nsl, q_onone, q_osome, q_gsl, q_raise, q_raiseF, q_try, q_lc, q_lc2, q_yes, q_wipe0, q_wipe, q_xf, q_I, q_I0, q_U, q_add, q_addT, q_addL, q_addR, q_onL, q_onSt, q_onSl, q_onSs, q_onSrct, q_onSrcl, q_eqI, q_eqB, q_eqS, q_eqN, q_isN, q_ix, q_ixL, q_in, q_len, q_sum, q_max, q_min, q_max2, q_min2, q_abs, q_int, q_intB, q_tupof, q_lstof, q_sort, q_rep, q_cat, q_isi, q_isis, q_setat, q_onC, q_append, q_pop, q_popAt, q_reverse, q_insert, q_sp1, q_sp2, q_sp3, q_sp4, q_at0, q_atS, q_st0, q_stS, q_iteT, q_iteF, q_isB, q_sumS, q_all, q_any, q_repT, q_spV, q_nLcX, q_sFz, q_gFld, q_sFldD, q_gMake, q_gCallI, q_gMeth, q_iOwnF, q_isO, q_gIxI, q_lenO, q_modN, q_divmod, q_gSMeth, q_dtupA, q_dtupAL, q_gRevD, q_revT, q_revL, q_gCallKw, q_eqO, q_gCallVS, q_gOpO, q_gUnO, q_gCMeth, q_gMakeV, q_gSlot, q_gMakeS, q_sSlot, q_gMethS, q_isS, q_lc3, q_tru, q_onTl, q_onTt, q_onTb, q_onTi, q_onTn, q_lstRev, q_lstRg2, q_lstRg1, q_prop, q_inO, q_gOpL, q_neO, q_gOpN, q_lstZip, q_repr, q_isXT])
  have z2 : ∀ a b : DL.D, [a, b].length ≤ sizeLine := fun a b => lsz (by simp)
  have cn : nb 10 c.1 ∧ nb 10 c.2 := by unfold nb; omega
  by_cases h8 : w = 8
  · refine if_t (decide_eq_true h8) ⟨p, 30, rfl, rfl, by decide, ⟨xs2, mset_same⟩, fun r xs3 r0 r1 => ⟨cmul (a := 10) (b := 20) (by unfold nb; omega) (by unfold nb; omega), z2 _ _, ?_⟩⟩
    rw [mset_mset]
    exact q (.t (333333 + r * 20011) 999983) xs3 (by unfold ChOk Ls.c; dsimp only; omega)
  refine if_f (decide_eq_false h8) ?_
  by_cases h7 : w = 7
  · refine if_t (decide_eq_true h7) (RowD.onS RowD.tup ⟨_, rfl, ?_⟩)
    (try dsimp only [q_op, q_un, q_var, q_c, q_nil, q_cons, q_tup, q_frz, q_cel, q_lst, q_test, q_onB, q_and, q_or, q_not, q_andV, q_orV, q_notV, q_if, q_chain, q_next, q_seq, q_drop, q_ret, q_retF, q_retN, q_sif, q_break, q_cont, q_name, q_dnil, q_dcons, q_dtup, q_asg, q_set, q_par, q_for, q_range1, q_range2, q_iseq, q_ienum, q_call, q_cb, q_ncb, q_nop, q_lenset, q_mt, q_mt0, q_setix, q_augs, q_aug, q_nsl, q_onone, q_osome, q_gsl, q_raise, q_raiseF, q_try, q_lc, q_lc2, q_yes, q_wipe0, q_wipe, q_xf, q_I, q_I0, q_U, q_add, q_addT, q_addL, q_addR, q_onL, q_onSt, q_onSl, q_onSs, q_onSrct, q_onSrcl, q_eqI, q_eqB, q_eqS, q_eqN, q_isN, q_ix, q_ixL, q_in, q_len, q_sum, q_max, q_min, q_max2, q_min2, q_abs, q_int, q_intB, q_tupof, q_lstof, q_sort, q_rep, q_cat, q_isi, q_isis, q_setat, q_onC, q_append, q_pop, q_popAt, q_reverse, q_insert, q_sp1, q_sp2, q_sp3, q_sp4, q_at0, q_atS, q_st0, q_stS, q_iteT, q_iteF, q_isB, q_sumS, q_all, q_any, q_repT, q_spV, q_nLcX, q_sFz, q_gFld, q_sFldD, q_gMake, q_gCallI, q_gMeth, q_iOwnF, q_isO, q_gIxI, q_lenO, q_modN, q_divmod, q_gSMeth, q_dtupA, q_dtupAL, q_gRevD, q_revT, q_revL, q_gCallKw, q_eqO, q_gCallVS, q_gOpO, q_gUnO, q_gCMeth, q_gMakeV, q_gSlot, q_gMakeS, q_sSlot, q_gMethS, q_isS, q_lc3, q_tru, q_onTl, q_onTt, q_onTb, q_onTi, q_onTn, q_lstRev, q_lstRg2, q_lstRg1, q_prop, q_inO, q_gOpL, q_neO, q_gOpN, q_lstZip, q_repr, q_isXT])
    refine ⟨cmul cn.1 (b := 10) (by unfold nb; omega), RowD.onS RowD.tup ⟨_, rfl, ?_⟩⟩
    (try dsimp only [q_op, q_un, q_var, q_c, q_nil, q_cons, q_tup, q_frz, q_cel, q_lst, q_test, q_onB, q_and, q_or, q_not, q_andV, q_orV, q_notV, q_if, q_chain, q_next, q_seq, q_drop, q_ret, q_retF, q_retN, q_sif, q_break, q_cont, q_name, q_dnil, q_dcons, q_dtup, q_asg, q_set, q_par, q_for, q_range1, q_range2, q_iseq, q_ienum, q_call, q_cb, q_ncb, q_nop, q_lenset, q_mt, q_mt0, q_setix, q_augs, q_aug, q_nsl, q_onone, q_osome, q_gsl, q_raise, q_raiseF, q_try, q_lc, q_lc2, q_yes, q_wipe0, q_wipe, q_xf, q_I, q_I0, q_U, q_add, q_addT, q_addL, q_addR, q_onL, q_onSt, q_onSl, q_onSs, q_onSrct, q_onSrcl, q_eqI, q_eqB, q_eqS, q_eqN, q_isN, q_ix, q_ixL, q_in, q_len, q_sum, q_max, q_min, q_max2, q_min2, q_abs, q_int, q_intB, q_tupof, q_lstof, q_sort, q_rep, q_cat, q_isi, q_isis, q_setat, q_onC, q_append, q_pop, q_popAt, q_reverse, q_insert, q_sp1, q_sp2, q_sp3, q_sp4, q_at0, q_atS, q_st0, q_stS, q_iteT, q_iteF, q_isB, q_sumS, q_all, q_any, q_repT, q_spV, q_nLcX, q_sFz, q_gFld, q_sFldD, q_gMake, q_gCallI, q_gMeth, q_iOwnF, q_isO, q_gIxI, q_lenO, q_modN, q_divmod, q_gSMeth, q_dtupA, q_dtupAL, q_gRevD, q_revT, q_revL, q_gCallKw, q_eqO, q_gCallVS, q_gOpO, q_gUnO, q_gCMeth, q_gMakeV, q_gSlot, q_gMakeS, q_sSlot, q_gMethS, q_isS, q_lc3, q_tru, q_onTl, q_onTt, q_onTb, q_onTi, q_onTn, q_lstRev, q_lstRg2, q_lstRg1, q_prop, q_inO, q_gOpL, q_neO, q_gOpN, q_lstZip, q_repr, q_isXT])
    exact ⟨cmul cn.2 (b := 10) (by unfold nb; omega), z2 _ _, q (.l (c.1 * 3) (c.2 * 3)) xs2 (by unfold ChOk Ls.c; dsimp only; omega)⟩
  refine if_f (decide_eq_false h7) (RowD.onS RowD.tup ⟨_, rfl, ?_⟩)
  (try dsimp only [q_op, q_un, q_var, q_c, q_nil, q_cons, q_tup, q_frz, q_cel, q_lst, q_test, q_onB, q_and, q_or, q_not, q_andV, q_orV, q_notV, q_if, q_chain, q_next, q_seq, q_drop, q_ret, q_retF, q_retN, q_sif, q_break, q_cont, q_name, q_dnil, q_dcons, q_dtup, q_asg, q_set, q_par, q_for, q_range1, q_range2, q_iseq, q_ienum, q_call, q_cb, q_ncb, q_nop, q_lenset, q_mt, q_mt0, q_setix, q_augs, q_aug, q_nsl, q_onone, q_osome, q_gsl, q_raise, q_raiseF, q_try, q_lc, q_lc2, q_yes, q_wipe0, q_wipe, q_xf, q_I, q_I0, q_U, q_add, q_addT, q_addL, q_addR, q_onL, q_onSt, q_onSl, q_onSs, q_onSrct, q_onSrcl, q_eqI, q_eqB, q_eqS, q_eqN, q_isN, q_ix, q_ixL, q_in, q_len, q_sum, q_max, q_min, q_max2, q_min2, q_abs, q_int, q_intB, q_tupof, q_lstof, q_sort, q_rep, q_cat, q_isi, q_isis, q_setat, q_onC, q_append, q_pop, q_popAt, q_reverse, q_insert, q_sp1, q_sp2, q_sp3, q_sp4, q_at0, q_atS, q_st0, q_stS, q_iteT, q_iteF, q_isB, q_sumS, q_all, q_any, q_repT, q_spV, q_nLcX, q_sFz, q_gFld, q_sFldD, q_gMake, q_gCallI, q_gMeth, q_iOwnF, q_isO, q_gIxI, q_lenO, q_modN, q_divmod, q_gSMeth, q_dtupA, q_dtupAL, q_gRevD, q_revT, q_revL, q_gCallKw, q_eqO, q_gCallVS, q_gOpO, q_gUnO, q_gCMeth, q_gMakeV, q_gSlot, q_gMakeS, q_sSlot, q_gMethS, q_isS, q_lc3, q_tru, q_onTl, q_onTt, q_onTb, q_onTi, q_onTn, q_lstRev, q_lstRg2, q_lstRg1, q_prop, q_inO, q_gOpL, q_neO, q_gOpN, q_lstZip, q_repr, q_isXT])
  by_cases h1 : c.2 = 1
  · refine if_t (decide_eq_true h1) (RowD.onS RowD.tup ⟨_, rfl, ?_⟩)
    exact q (.i c.1) xs2 (by unfold ChOk Ls.c; dsimp only; omega)
  · exact if_f (decide_eq_false h1) (q (.t c.1 c.2) xs2 (by unfold ChOk Ls.c; dsimp only; omega))
theorem b__law_pair : ∀ d0 M Q E, sp__law_pair K [d0] M Q E → g__law_pair K { nx := fun _ M => Q .non M, rt := Q, ex := fun x _ M => E x M } [some d0] M := by
  rintro d0 M Q E ⟨l, rfl, q⟩
  unfold g__law_pair
  dsimp only [q_op, q_un, q_var, q_c, q_nil, q_cons, q_tup, q_frz, q_cel, q_lst, q_test, q_onB, q_and, q_or, q_not, q_andV, q_orV, q_notV, q_if, q_chain, q_next, q_seq, q_drop, q_ret, q_retF, q_retN, q_sif, q_break, q_cont, q_name, q_dnil, q_dcons, q_dtup, q_asg, q_set, q_par, q_for, q_range1, q_range2, q_iseq, q_ienum, q_call, q_cb, q_ncb, q_nop, q_lenset, q_mt, q_mt0, q_setix, q_augs, q_aug, q_nsl, q_onone, q_osome, q_gsl, q_raise, q_raiseF, q_try, q_lc, q_lc2, q_yes, q_wipe0, q_wipe, q_xf, q_I, q_I0, q_U, q_add, q_addT, q_addL, q_addR, q_onL, q_onSt, q_onSl, q_onSs, q_onSrct, q_onSrcl, q_eqI, q_eqB, q_eqS, q_eqN, q_isN, q_ix, q_ixL, q_in, q_len, q_sum, q_max, q_min, q_max2, q_min2, q_abs, q_int, q_intB, q_tupof, q_lstof, q_sort, q_rep, q_cat, q_isi, q_isis, q_setat, q_onC, q_append, q_pop, q_popAt, q_reverse, q_insert, q_sp1, q_sp2, q_sp3, q_sp4, q_at0, q_atS, q_st0, q_stS, q_iteT, q_iteF, q_isB, q_sumS, q_all, q_any, q_repT, q_spV, q_nLcX, q_sFz, q_gFld, q_sFldD, q_gMake, q_gCallI, q_gMeth, q_iOwnF, q_isO, q_gIxI, q_lenO, q_modN, q_divmod, q_gSMeth, q_dtupA, q_dtupAL, q_gRevD, q_revT, q_revL, q_gCallKw, q_eqO, q_gCallVS, q_gOpO, q_gUnO, q_gCMeth, q_gMakeV, q_gSlot, q_gMakeS, q_sSlot, q_gMethS, q_isS, q_lc3, q_tru, q_onTl, q_onTt, q_onTb, q_onTi, q_onTn, q_lstRev, q_lstRg2, q_lstRg1, q_prop, q_inO, q_gOpL, q_neO, q_gOpN, q_lstZip, q_repr, q_isXT, sp__law_int]
  have z2 : ∀ a b : DL.D, [a, b].length ≤ sizeLine := fun a b => lsz (by simp)
  cases l with
  | i x => exact ⟨.int, rfl, if_t rfl ⟨z2 _ _, q⟩⟩
  | t a b => exact ⟨.tuple, rfl, if_f rfl (RowD.onS RowD.tup ⟨_, rfl, RowD.onS RowD.tup ⟨_, rfl, z2 _ _, q⟩⟩)⟩
  | l a b => exact ⟨.list, rfl, if_f rfl (RowD.onS RowD.lst ⟨_, rfl, RowD.onS RowD.lst ⟨_, rfl, z2 _ _, q⟩⟩)⟩
theorem b__law_back : ∀ d0 M Q E, sp__law_back K [d0] M Q E → g__law_back K { nx := fun _ M => Q .non M, rt := Q, ex := fun x _ M => E x M } [some d0] M := by
  rintro d0 M Q E ⟨ds, rfl, q⟩
  unfold g__law_back
  dsimp only [q_op, q_un, q_var, q_c, q_nil, q_cons, q_tup, q_frz, q_cel, q_lst, q_test, q_onB, q_and, q_or, q_not, q_andV, q_orV, q_notV, q_if, q_chain, q_next, q_seq, q_drop, q_ret, q_retF, q_retN, q_sif, q_break, q_cont, q_name, q_dnil, q_dcons, q_dtup, q_asg, q_set, q_par, q_for, q_range1, q_range2, q_iseq, q_ienum, q_call, q_cb, q_ncb, q_nop, q_lenset, q_mt, q_mt0, q_setix, q_augs, q_aug, q_nsl, q_onone, q_osome, q_gsl, q_raise, q_raiseF, q_try, q_lc, q_lc2, q_yes, q_wipe0, q_wipe, q_xf, q_I, q_I0, q_U, q_add, q_addT, q_addL, q_addR, q_onL, q_onSt, q_onSl, q_onSs, q_onSrct, q_onSrcl, q_eqI, q_eqB, q_eqS, q_eqN, q_isN, q_ix, q_ixL, q_in, q_len, q_sum, q_max, q_min, q_max2, q_min2, q_abs, q_int, q_intB, q_tupof, q_lstof, q_sort, q_rep, q_cat, q_isi, q_isis, q_setat, q_onC, q_append, q_pop, q_popAt, q_reverse, q_insert, q_sp1, q_sp2, q_sp3, q_sp4, q_at0, q_atS, q_st0, q_stS, q_iteT, q_iteF, q_isB, q_sumS, q_all, q_any, q_repT, q_spV, q_nLcX, q_sFz, q_gFld, q_sFldD, q_gMake, q_gCallI, q_gMeth, q_iOwnF, q_isO, q_gIxI, q_lenO, q_modN, q_divmod, q_gSMeth, q_dtupA, q_dtupAL, q_gRevD, q_revT, q_revL, q_gCallKw, q_eqO, q_gCallVS, q_gOpO, q_gUnO, q_gCMeth, q_gMakeV, q_gSlot, q_gMakeS, q_sSlot, q_gMethS, q_isS, q_lc3, q_tru, q_onTl, q_onTt, q_onTb, q_onTi, q_onTn, q_lstRev, q_lstRg2, q_lstRg1, q_prop, q_inO, q_gOpL, q_neO, q_gOpN, q_lstZip, q_repr, q_isXT]
  exact q
theorem b__law_closes : ∀ d0 M Q E, sp__law_closes K [d0] M Q E → g__law_closes K { nx := fun _ M => Q .non M, rt := Q, ex := fun x _ M => E x M } [some d0, none, none, none, none, none] M := by
  rintro d0 M Q E ⟨cs, rfl, ok, q⟩
  unfold g__law_closes
  dsimp only [q_op, q_un, q_var, q_c, q_nil, q_cons, q_tup, q_frz, q_cel, q_lst, q_test, q_onB, q_and, q_or, q_not, q_andV, q_orV, q_notV, q_if, q_chain, q_next, q_seq, q_drop, q_ret, q_retF, q_retN, q_sif, q_break, q_cont, q_name, q_dnil, q_dcons, q_dtup, q_asg, q_set, q_par, q_for, q_range1, q_range2, q_iseq, q_ienum, q_call, q_cb, q_ncb, q_nop, q_lenset, q_mt, q_mt0, q_setix, q_augs, q_aug, q_nsl, q_onone, q_osome, q_gsl, q_raise, q_raiseF, q_try, q_lc, q_lc2, q_yes, q_wipe0, q_wipe, q_xf, q_I, q_I0, q_U, q_add, q_addT, q_addL, q_addR, q_onL, q_onSt, q_onSl, q_onSs, q_onSrct, q_onSrcl, q_eqI, q_eqB, q_eqS, q_eqN, q_isN, q_ix, q_ixL, q_in, q_len, q_sum, q_max, q_min, q_max2, q_min2, q_abs, q_int, q_intB, q_tupof, q_lstof, q_sort, q_rep, q_cat, q_isi, q_isis, q_setat, q_onC, q_append, q_pop, q_popAt, q_reverse, q_insert, q_sp1, q_sp2, q_sp3, q_sp4, q_at0, q_atS, q_st0, q_stS, q_iteT, q_iteF, q_isB, q_sumS, q_all, q_any, q_repT, q_spV, q_nLcX, q_sFz, q_gFld, q_sFldD, q_gMake, q_gCallI, q_gMeth, q_iOwnF, q_isO, q_gIxI, q_lenO, q_modN, q_divmod, q_gSMeth, q_dtupA, q_dtupAL, q_gRevD, q_revT, q_revL, q_gCallKw, q_eqO, q_gCallVS, q_gOpO, q_gUnO, q_gCMeth, q_gMakeV, q_gSlot, q_gMakeS, q_sSlot, q_gMethS, q_isS, q_lc3, q_tru, q_onTl, q_onTt, q_onTb, q_onTi, q_onTn, q_lstRev, q_lstRg2, q_lstRg1, q_prop, q_inO, q_gOpL, q_neO, q_gOpN, q_lstZip, q_repr, q_isXT]
  rw [List.length_map]
  have l17 := ok.1
  refine ⟨by omega, ?_⟩
  rw [Int.toNat_natCast]
  refine loop_rg0 (fun k ρ M2 => (∃ bef now bot, ∃ a b : Option DL.D, ρ = [some (.lst (cs.map prD)), some (.int bef), some (.int now), some (.int bot), a, b] ∧ cloI cs 1 1 1 0 = cloI (cs.drop k) bef now bot k ∧ nb (41 * k + 1) bef ∧ nb (41 * k + 1) now ∧ nb 20 bot) ∧ M2 = M) ?_ ?_ ⟨⟨1, 1, 1, _, _, rfl, rfl, nb_one (by omega), nb_one (by omega), nb_one (by omega)⟩, rfl⟩
  · rintro k ρ M2 hk ⟨⟨bef, now, bot, a, b, rfl, e, n1, n2, n3⟩, rfl⟩ Nx hN
    obtain ⟨c, hc⟩ : ∃ c, cs[k]? = some c := ⟨_, List.getElem?_eq_getElem hk⟩
    obtain ⟨k1, k2, k3, k4⟩ := ok.2 c (List.mem_of_getElem? hc)
    have cn : nb 20 c.1 ∧ nb 20 c.2 := by unfold nb; omega
    have hcd : (cs.map prD)[k]? = some (prD c) := by rw [List.getElem?_map, hc]; rfl
    have ed : cs.drop k = c :: cs.drop (k + 1) := by
      rw [List.drop_eq_getElem_cons hk]
      rw [List.getElem?_eq_getElem hk] at hc
      cases hc
      rfl
    rw [ed] at e
    have e : cloI cs 1 1 1 0 = if c.2 * now - c.1 * bot * bef ≤ 0 then some (k + 1) else cloI (cs.drop (k + 1)) now (c.2 * now - c.1 * bot * bef) c.2 (k + 1) := e
    have m1 : nb (40 + (41 * k + 1)) (c.1 * bot * bef) := nb_mul (nb_mul cn.1 n3) n1
    have m2 : nb (40 + (41 * k + 1)) (c.2 * now) := nb_mono (nb_mul cn.2 n2) (by omega)
    have m3 : nb (41 * (k + 1) + 1) (c.2 * now - c.1 * bot * bef) := nb_mono (nb_sub m2 m1) (by omega)
    (try dsimp only [q_op, q_un, q_var, q_c, q_nil, q_cons, q_tup, q_frz, q_cel, q_lst, q_test, q_onB, q_and, q_or, q_not, q_andV, q_orV, q_notV, q_if, q_chain, q_next, q_seq, q_drop, q_ret, q_retF, q_retN, q_sif, q_break, q_cont, q_name, q_dnil, q_dcons, q_dtup, q_asg, q_set, q_par, q_for, q_range1, q_range2, q_iseq, q_ienum, q_call, q_cb, q_ncb, q_nop, q_lenset, q_mt, q_mt0, q_setix, q_augs, q_aug, q_nsl, q_onone, q_osome, q_gsl, q_raise, q_raiseF, q_try, q_lc, q_lc2, q_yes, q_wipe0, q_wipe, q_xf, q_I, q_I0, q_U, q_add, q_addT, q_addL, q_addR, q_onL, q_onSt, q_onSl, q_onSs, q_onSrct, q_onSrcl, q_eqI, q_eqB, q_eqS, q_eqN, q_isN, q_ix, q_ixL, q_in, q_len, q_sum, q_max, q_min, q_max2, q_min2, q_abs, q_int, q_intB, q_tupof, q_lstof, q_sort, q_rep, q_cat, q_isi, q_isis, q_setat, q_onC, q_append, q_pop, q_popAt, q_reverse, q_insert, q_sp1, q_sp2, q_sp3, q_sp4, q_at0, q_atS, q_st0, q_stS, q_iteT, q_iteF, q_isB, q_sumS, q_all, q_any, q_repT, q_spV, q_nLcX, q_sFz, q_gFld, q_sFldD, q_gMake, q_gCallI, q_gMeth, q_iOwnF, q_isO, q_gIxI, q_lenO, q_modN, q_divmod, q_gSMeth, q_dtupA, q_dtupAL, q_gRevD, q_revT, q_revL, q_gCallKw, q_eqO, q_gCallVS, q_gOpO, q_gUnO, q_gCMeth, q_gMakeV, q_gSlot, q_gMakeS, q_sSlot, q_gMethS, q_isS, q_lc3, q_tru, q_onTl, q_onTt, q_onTb, q_onTi, q_onTn, q_lstRev, q_lstRg2, q_lstRg1, q_prop, q_inO, q_gOpL, q_neO, q_gOpN, q_lstZip, q_repr, q_isXT])
    refine ⟨_, L2.atI_nat hcd, RowD.onS RowD.tup ⟨_, rfl, ?_⟩⟩
    (try dsimp only [q_op, q_un, q_var, q_c, q_nil, q_cons, q_tup, q_frz, q_cel, q_lst, q_test, q_onB, q_and, q_or, q_not, q_andV, q_orV, q_notV, q_if, q_chain, q_next, q_seq, q_drop, q_ret, q_retF, q_retN, q_sif, q_break, q_cont, q_name, q_dnil, q_dcons, q_dtup, q_asg, q_set, q_par, q_for, q_range1, q_range2, q_iseq, q_ienum, q_call, q_cb, q_ncb, q_nop, q_lenset, q_mt, q_mt0, q_setix, q_augs, q_aug, q_nsl, q_onone, q_osome, q_gsl, q_raise, q_raiseF, q_try, q_lc, q_lc2, q_yes, q_wipe0, q_wipe, q_xf, q_I, q_I0, q_U, q_add, q_addT, q_addL, q_addR, q_onL, q_onSt, q_onSl, q_onSs, q_onSrct, q_onSrcl, q_eqI, q_eqB, q_eqS, q_eqN, q_isN, q_ix, q_ixL, q_in, q_len, q_sum, q_max, q_min, q_max2, q_min2, q_abs, q_int, q_intB, q_tupof, q_lstof, q_sort, q_rep, q_cat, q_isi, q_isis, q_setat, q_onC, q_append, q_pop, q_popAt, q_reverse, q_insert, q_sp1, q_sp2, q_sp3, q_sp4, q_at0, q_atS, q_st0, q_stS, q_iteT, q_iteF, q_isB, q_sumS, q_all, q_any, q_repT, q_spV, q_nLcX, q_sFz, q_gFld, q_sFldD, q_gMake, q_gCallI, q_gMeth, q_iOwnF, q_isO, q_gIxI, q_lenO, q_modN, q_divmod, q_gSMeth, q_dtupA, q_dtupAL, q_gRevD, q_revT, q_revL, q_gCallKw, q_eqO, q_gCallVS, q_gOpO, q_gUnO, q_gCMeth, q_gMakeV, q_gSlot, q_gMakeS, q_sSlot, q_gMethS, q_isS, q_lc3, q_tru, q_onTl, q_onTt, q_onTb, q_onTi, q_onTn, q_lstRev, q_lstRg2, q_lstRg1, q_prop, q_inO, q_gOpL, q_neO, q_gOpN, q_lstZip, q_repr, q_isXT])
    refine ⟨cmul cn.2 n2, _, L2.atI_nat hcd, RowD.onS RowD.tup ⟨_, rfl, ?_⟩⟩
    (try dsimp only [q_op, q_un, q_var, q_c, q_nil, q_cons, q_tup, q_frz, q_cel, q_lst, q_test, q_onB, q_and, q_or, q_not, q_andV, q_orV, q_notV, q_if, q_chain, q_next, q_seq, q_drop, q_ret, q_retF, q_retN, q_sif, q_break, q_cont, q_name, q_dnil, q_dcons, q_dtup, q_asg, q_set, q_par, q_for, q_range1, q_range2, q_iseq, q_ienum, q_call, q_cb, q_ncb, q_nop, q_lenset, q_mt, q_mt0, q_setix, q_augs, q_aug, q_nsl, q_onone, q_osome, q_gsl, q_raise, q_raiseF, q_try, q_lc, q_lc2, q_yes, q_wipe0, q_wipe, q_xf, q_I, q_I0, q_U, q_add, q_addT, q_addL, q_addR, q_onL, q_onSt, q_onSl, q_onSs, q_onSrct, q_onSrcl, q_eqI, q_eqB, q_eqS, q_eqN, q_isN, q_ix, q_ixL, q_in, q_len, q_sum, q_max, q_min, q_max2, q_min2, q_abs, q_int, q_intB, q_tupof, q_lstof, q_sort, q_rep, q_cat, q_isi, q_isis, q_setat, q_onC, q_append, q_pop, q_popAt, q_reverse, q_insert, q_sp1, q_sp2, q_sp3, q_sp4, q_at0, q_atS, q_st0, q_stS, q_iteT, q_iteF, q_isB, q_sumS, q_all, q_any, q_repT, q_spV, q_nLcX, q_sFz, q_gFld, q_sFldD, q_gMake, q_gCallI, q_gMeth, q_iOwnF, q_isO, q_gIxI, q_lenO, q_modN, q_divmod, q_gSMeth, q_dtupA, q_dtupAL, q_gRevD, q_revT, q_revL, q_gCallKw, q_eqO, q_gCallVS, q_gOpO, q_gUnO, q_gCMeth, q_gMakeV, q_gSlot, q_gMakeS, q_sSlot, q_gMethS, q_isS, q_lc3, q_tru, q_onTl, q_onTt, q_onTb, q_onTi, q_onTn, q_lstRev, q_lstRg2, q_lstRg1, q_prop, q_inO, q_gOpL, q_neO, q_gOpN, q_lstZip, q_repr, q_isXT])
    refine ⟨cmul cn.1 n3, cmul (nb_mul cn.1 n3) n1, _, L2.atI_nat hcd, RowD.onS RowD.tup ⟨_, rfl, ?_⟩⟩
    (try dsimp only [q_op, q_un, q_var, q_c, q_nil, q_cons, q_tup, q_frz, q_cel, q_lst, q_test, q_onB, q_and, q_or, q_not, q_andV, q_orV, q_notV, q_if, q_chain, q_next, q_seq, q_drop, q_ret, q_retF, q_retN, q_sif, q_break, q_cont, q_name, q_dnil, q_dcons, q_dtup, q_asg, q_set, q_par, q_for, q_range1, q_range2, q_iseq, q_ienum, q_call, q_cb, q_ncb, q_nop, q_lenset, q_mt, q_mt0, q_setix, q_augs, q_aug, q_nsl, q_onone, q_osome, q_gsl, q_raise, q_raiseF, q_try, q_lc, q_lc2, q_yes, q_wipe0, q_wipe, q_xf, q_I, q_I0, q_U, q_add, q_addT, q_addL, q_addR, q_onL, q_onSt, q_onSl, q_onSs, q_onSrct, q_onSrcl, q_eqI, q_eqB, q_eqS, q_eqN, q_isN, q_ix, q_ixL, q_in, q_len, q_sum, q_max, q_min, q_max2, q_min2, q_abs, q_int, q_intB, q_tupof, q_lstof, q_sort, q_rep, q_cat, q_isi, q_isis, q_setat, q_onC, q_append, q_pop, q_popAt, q_reverse, q_insert, q_sp1, q_sp2, q_sp3, q_sp4, q_at0, q_atS, q_st0, q_stS, q_iteT, q_iteF, q_isB, q_sumS, q_all, q_any, q_repT, q_spV, q_nLcX, q_sFz, q_gFld, q_sFldD, q_gMake, q_gCallI, q_gMeth, q_iOwnF, q_isO, q_gIxI, q_lenO, q_modN, q_divmod, q_gSMeth, q_dtupA, q_dtupAL, q_gRevD, q_revT, q_revL, q_gCallKw, q_eqO, q_gCallVS, q_gOpO, q_gUnO, q_gCMeth, q_gMakeV, q_gSlot, q_gMakeS, q_sSlot, q_gMethS, q_isS, q_lc3, q_tru, q_onTl, q_onTt, q_onTb, q_onTi, q_onTn, q_lstRev, q_lstRg2, q_lstRg1, q_prop, q_inO, q_gOpL, q_neO, q_gOpN, q_lstZip, q_repr, q_isXT])
    by_cases z : c.2 * now - c.1 * bot * bef ≤ 0
    · rw [if_pos z] at e
      rw [e] at q
      exact if_t (decide_eq_true z) q
    · rw [if_neg z] at e
      exact if_f (decide_eq_false z) (hN _ _ ⟨⟨_, _, _, _, _, rfl, e, nb_mono n2 (by omega), m3, cn.2⟩, rfl⟩)
  · rintro ρ M2 ⟨⟨bef, now, bot, a, b, rfl, e, n1, n2, n3⟩, rfl⟩
    rw [List.drop_length] at e
    rw [e] at q
    exact q
theorem b__law_rests_due : ∀ d0 M Q E, sp__law_rests_due K [d0] M Q E → g__law_rests_due K { nx := fun _ M => Q .non M, rt := Q, ex := fun x _ M => E x M } [some d0, none, none, none] M := by
  rintro d0 M Q E ⟨cs, rfl, ok, q⟩
  unfold g__law_rests_due
  dsimp only [q_op, q_un, q_var, q_c, q_nil, q_cons, q_tup, q_frz, q_cel, q_lst, q_test, q_onB, q_and, q_or, q_not, q_andV, q_orV, q_notV, q_if, q_chain, q_next, q_seq, q_drop, q_ret, q_retF, q_retN, q_sif, q_break, q_cont, q_name, q_dnil, q_dcons, q_dtup, q_asg, q_set, q_par, q_for, q_range1, q_range2, q_iseq, q_ienum, q_call, q_cb, q_ncb, q_nop, q_lenset, q_mt, q_mt0, q_setix, q_augs, q_aug, q_nsl, q_onone, q_osome, q_gsl, q_raise, q_raiseF, q_try, q_lc, q_lc2, q_yes, q_wipe0, q_wipe, q_xf, q_I, q_I0, q_U, q_add, q_addT, q_addL, q_addR, q_onL, q_onSt, q_onSl, q_onSs, q_onSrct, q_onSrcl, q_eqI, q_eqB, q_eqS, q_eqN, q_isN, q_ix, q_ixL, q_in, q_len, q_sum, q_max, q_min, q_max2, q_min2, q_abs, q_int, q_intB, q_tupof, q_lstof, q_sort, q_rep, q_cat, q_isi, q_isis, q_setat, q_onC, q_append, q_pop, q_popAt, q_reverse, q_insert, q_sp1, q_sp2, q_sp3, q_sp4, q_at0, q_atS, q_st0, q_stS, q_iteT, q_iteF, q_isB, q_sumS, q_all, q_any, q_repT, q_spV, q_nLcX, q_sFz, q_gFld, q_sFldD, q_gMake, q_gCallI, q_gMeth, q_iOwnF, q_isO, q_gIxI, q_lenO, q_modN, q_divmod, q_gSMeth, q_dtupA, q_dtupAL, q_gRevD, q_revT, q_revL, q_gCallKw, q_eqO, q_gCallVS, q_gOpO, q_gUnO, q_gCMeth, q_gMakeV, q_gSlot, q_gMakeS, q_sSlot, q_gMethS, q_isS, q_lc3, q_tru, q_onTl, q_onTt, q_onTb, q_onTi, q_onTn, q_lstRev, q_lstRg2, q_lstRg1, q_prop, q_inO, q_gOpL, q_neO, q_gOpN, q_lstZip, q_repr, q_isXT]
  refine ⟨lsz (by simp), lsz (by simp), fun p hp => ?_⟩
  refine loop_map prD cs (fun k ρ M2 => (∃ a b, ρ = [some (.lst (cs.map prD)), some (.ref p), a, b]) ∧ M2 = mset M p (.lst ((restsF (cs.take k) (1, 1)).map prD))) (fun _ _ _ _ _ => trivial) ?_ ?_ ⟨⟨_, _, rfl⟩, rfl⟩
  · rintro k c ρ M2 hc ⟨⟨a, b, rfl⟩, rfl⟩ Nx hN
    obtain ⟨k1, k2, k3, k4⟩ := ok.2 c (List.mem_of_getElem? hc)
    have cn : nb 20 c.1 ∧ nb 20 c.2 := by unfold nb; omega
    have okt : ChsOk (cs.take k) := ⟨by rw [List.length_take]; have := ok.1; omega, fun x hx => ok.2 x (List.mem_of_mem_take hx)⟩
    obtain ⟨ro, n1, n2⟩ := rests_ro' okt
    have et : cs.take (k + 1) = cs.take k ++ [c] := by rw [List.take_succ, hc]; rfl
    have ll := rests_len (cs.take k) (1, 1)
    have la := rests_last (cs.take k) (1, 1)
    obtain ⟨n, en⟩ : ∃ n, (restsF (cs.take k) (1, 1)).length = n + 1 := ⟨(restsF (cs.take k) (1, 1)).length - 1, by omega⟩
    rw [en] at la
    (try dsimp only [q_op, q_un, q_var, q_c, q_nil, q_cons, q_tup, q_frz, q_cel, q_lst, q_test, q_onB, q_and, q_or, q_not, q_andV, q_orV, q_notV, q_if, q_chain, q_next, q_seq, q_drop, q_ret, q_retF, q_retN, q_sif, q_break, q_cont, q_name, q_dnil, q_dcons, q_dtup, q_asg, q_set, q_par, q_for, q_range1, q_range2, q_iseq, q_ienum, q_call, q_cb, q_ncb, q_nop, q_lenset, q_mt, q_mt0, q_setix, q_augs, q_aug, q_nsl, q_onone, q_osome, q_gsl, q_raise, q_raiseF, q_try, q_lc, q_lc2, q_yes, q_wipe0, q_wipe, q_xf, q_I, q_I0, q_U, q_add, q_addT, q_addL, q_addR, q_onL, q_onSt, q_onSl, q_onSs, q_onSrct, q_onSrcl, q_eqI, q_eqB, q_eqS, q_eqN, q_isN, q_ix, q_ixL, q_in, q_len, q_sum, q_max, q_min, q_max2, q_min2, q_abs, q_int, q_intB, q_tupof, q_lstof, q_sort, q_rep, q_cat, q_isi, q_isis, q_setat, q_onC, q_append, q_pop, q_popAt, q_reverse, q_insert, q_sp1, q_sp2, q_sp3, q_sp4, q_at0, q_atS, q_st0, q_stS, q_iteT, q_iteF, q_isB, q_sumS, q_all, q_any, q_repT, q_spV, q_nLcX, q_sFz, q_gFld, q_sFldD, q_gMake, q_gCallI, q_gMeth, q_iOwnF, q_isO, q_gIxI, q_lenO, q_modN, q_divmod, q_gSMeth, q_dtupA, q_dtupAL, q_gRevD, q_revT, q_revL, q_gCallKw, q_eqO, q_gCallVS, q_gOpO, q_gUnO, q_gCMeth, q_gMakeV, q_gSlot, q_gMakeS, q_sSlot, q_gMethS, q_isS, q_lc3, q_tru, q_onTl, q_onTt, q_onTb, q_onTi, q_onTn, q_lstRev, q_lstRg2, q_lstRg1, q_prop, q_inO, q_gOpL, q_neO, q_gOpN, q_lstZip, q_repr, q_isXT])
    refine onS_ref mset_same (onS_ref mset_same ⟨prD (finF (cs.take k) (1, 1)), ?_, RowD.onS RowD.tup ⟨_, rfl, ?_⟩⟩)
    · rw [List.length_map, en, show ((n + 1 : Nat) : Int) - 1 = ((n : Nat) : Int) by omega]
      exact L2.atI_nat (by rw [List.getElem?_map]; rw [show n + 1 - 1 = n from rfl] at la; rw [la]; rfl)
    (try dsimp only [q_op, q_un, q_var, q_c, q_nil, q_cons, q_tup, q_frz, q_cel, q_lst, q_test, q_onB, q_and, q_or, q_not, q_andV, q_orV, q_notV, q_if, q_chain, q_next, q_seq, q_drop, q_ret, q_retF, q_retN, q_sif, q_break, q_cont, q_name, q_dnil, q_dcons, q_dtup, q_asg, q_set, q_par, q_for, q_range1, q_range2, q_iseq, q_ienum, q_call, q_cb, q_ncb, q_nop, q_lenset, q_mt, q_mt0, q_setix, q_augs, q_aug, q_nsl, q_onone, q_osome, q_gsl, q_raise, q_raiseF, q_try, q_lc, q_lc2, q_yes, q_wipe0, q_wipe, q_xf, q_I, q_I0, q_U, q_add, q_addT, q_addL, q_addR, q_onL, q_onSt, q_onSl, q_onSs, q_onSrct, q_onSrcl, q_eqI, q_eqB, q_eqS, q_eqN, q_isN, q_ix, q_ixL, q_in, q_len, q_sum, q_max, q_min, q_max2, q_min2, q_abs, q_int, q_intB, q_tupof, q_lstof, q_sort, q_rep, q_cat, q_isi, q_isis, q_setat, q_onC, q_append, q_pop, q_popAt, q_reverse, q_insert, q_sp1, q_sp2, q_sp3, q_sp4, q_at0, q_atS, q_st0, q_stS, q_iteT, q_iteF, q_isB, q_sumS, q_all, q_any, q_repT, q_spV, q_nLcX, q_sFz, q_gFld, q_sFldD, q_gMake, q_gCallI, q_gMeth, q_iOwnF, q_isO, q_gIxI, q_lenO, q_modN, q_divmod, q_gSMeth, q_dtupA, q_dtupAL, q_gRevD, q_revT, q_revL, q_gCallKw, q_eqO, q_gCallVS, q_gOpO, q_gUnO, q_gCMeth, q_gMakeV, q_gSlot, q_gMakeS, q_sSlot, q_gMethS, q_isS, q_lc3, q_tru, q_onTl, q_onTt, q_onTb, q_onTi, q_onTn, q_lstRev, q_lstRg2, q_lstRg1, q_prop, q_inO, q_gOpL, q_neO, q_gOpN, q_lstZip, q_repr, q_isXT])
    by_cases z : 0 < (finF (cs.take k) (1, 1)).1
    · refine if_t (decide_eq_true z) ⟨onL_ref (k := fun _ => True) mset_same trivial, RowD.onS RowD.tup ⟨_, rfl, RowD.onS RowD.tup ⟨_, rfl, ?_⟩⟩⟩
      (try dsimp only [q_op, q_un, q_var, q_c, q_nil, q_cons, q_tup, q_frz, q_cel, q_lst, q_test, q_onB, q_and, q_or, q_not, q_andV, q_orV, q_notV, q_if, q_chain, q_next, q_seq, q_drop, q_ret, q_retF, q_retN, q_sif, q_break, q_cont, q_name, q_dnil, q_dcons, q_dtup, q_asg, q_set, q_par, q_for, q_range1, q_range2, q_iseq, q_ienum, q_call, q_cb, q_ncb, q_nop, q_lenset, q_mt, q_mt0, q_setix, q_augs, q_aug, q_nsl, q_onone, q_osome, q_gsl, q_raise, q_raiseF, q_try, q_lc, q_lc2, q_yes, q_wipe0, q_wipe, q_xf, q_I, q_I0, q_U, q_add, q_addT, q_addL, q_addR, q_onL, q_onSt, q_onSl, q_onSs, q_onSrct, q_onSrcl, q_eqI, q_eqB, q_eqS, q_eqN, q_isN, q_ix, q_ixL, q_in, q_len, q_sum, q_max, q_min, q_max2, q_min2, q_abs, q_int, q_intB, q_tupof, q_lstof, q_sort, q_rep, q_cat, q_isi, q_isis, q_setat, q_onC, q_append, q_pop, q_popAt, q_reverse, q_insert, q_sp1, q_sp2, q_sp3, q_sp4, q_at0, q_atS, q_st0, q_stS, q_iteT, q_iteF, q_isB, q_sumS, q_all, q_any, q_repT, q_spV, q_nLcX, q_sFz, q_gFld, q_sFldD, q_gMake, q_gCallI, q_gMeth, q_iOwnF, q_isO, q_gIxI, q_lenO, q_modN, q_divmod, q_gSMeth, q_dtupA, q_dtupAL, q_gRevD, q_revT, q_revL, q_gCallKw, q_eqO, q_gCallVS, q_gOpO, q_gUnO, q_gCMeth, q_gMakeV, q_gSlot, q_gMakeS, q_sSlot, q_gMethS, q_isS, q_lc3, q_tru, q_onTl, q_onTt, q_onTb, q_onTi, q_onTn, q_lstRev, q_lstRg2, q_lstRg1, q_prop, q_inO, q_gOpL, q_neO, q_gOpN, q_lstZip, q_repr, q_isXT])
      refine ⟨cmul cn.2 n1, RowD.onS RowD.tup ⟨_, rfl, RowD.onS RowD.tup ⟨_, rfl, ?_⟩⟩⟩
      (try dsimp only [q_op, q_un, q_var, q_c, q_nil, q_cons, q_tup, q_frz, q_cel, q_lst, q_test, q_onB, q_and, q_or, q_not, q_andV, q_orV, q_notV, q_if, q_chain, q_next, q_seq, q_drop, q_ret, q_retF, q_retN, q_sif, q_break, q_cont, q_name, q_dnil, q_dcons, q_dtup, q_asg, q_set, q_par, q_for, q_range1, q_range2, q_iseq, q_ienum, q_call, q_cb, q_ncb, q_nop, q_lenset, q_mt, q_mt0, q_setix, q_augs, q_aug, q_nsl, q_onone, q_osome, q_gsl, q_raise, q_raiseF, q_try, q_lc, q_lc2, q_yes, q_wipe0, q_wipe, q_xf, q_I, q_I0, q_U, q_add, q_addT, q_addL, q_addR, q_onL, q_onSt, q_onSl, q_onSs, q_onSrct, q_onSrcl, q_eqI, q_eqB, q_eqS, q_eqN, q_isN, q_ix, q_ixL, q_in, q_len, q_sum, q_max, q_min, q_max2, q_min2, q_abs, q_int, q_intB, q_tupof, q_lstof, q_sort, q_rep, q_cat, q_isi, q_isis, q_setat, q_onC, q_append, q_pop, q_popAt, q_reverse, q_insert, q_sp1, q_sp2, q_sp3, q_sp4, q_at0, q_atS, q_st0, q_stS, q_iteT, q_iteF, q_isB, q_sumS, q_all, q_any, q_repT, q_spV, q_nLcX, q_sFz, q_gFld, q_sFldD, q_gMake, q_gCallI, q_gMeth, q_iOwnF, q_isO, q_gIxI, q_lenO, q_modN, q_divmod, q_gSMeth, q_dtupA, q_dtupAL, q_gRevD, q_revT, q_revL, q_gCallKw, q_eqO, q_gCallVS, q_gOpO, q_gUnO, q_gCMeth, q_gMakeV, q_gSlot, q_gMakeS, q_sSlot, q_gMethS, q_isS, q_lc3, q_tru, q_onTl, q_onTt, q_onTb, q_onTi, q_onTn, q_lstRev, q_lstRg2, q_lstRg1, q_prop, q_inO, q_gOpL, q_neO, q_gOpN, q_lstZip, q_repr, q_isXT])
      refine ⟨cmul cn.1 n2, RowD.onS RowD.tup ⟨_, rfl, RowD.onS RowD.tup ⟨_, rfl, ?_⟩⟩⟩
      (try dsimp only [q_op, q_un, q_var, q_c, q_nil, q_cons, q_tup, q_frz, q_cel, q_lst, q_test, q_onB, q_and, q_or, q_not, q_andV, q_orV, q_notV, q_if, q_chain, q_next, q_seq, q_drop, q_ret, q_retF, q_retN, q_sif, q_break, q_cont, q_name, q_dnil, q_dcons, q_dtup, q_asg, q_set, q_par, q_for, q_range1, q_range2, q_iseq, q_ienum, q_call, q_cb, q_ncb, q_nop, q_lenset, q_mt, q_mt0, q_setix, q_augs, q_aug, q_nsl, q_onone, q_osome, q_gsl, q_raise, q_raiseF, q_try, q_lc, q_lc2, q_yes, q_wipe0, q_wipe, q_xf, q_I, q_I0, q_U, q_add, q_addT, q_addL, q_addR, q_onL, q_onSt, q_onSl, q_onSs, q_onSrct, q_onSrcl, q_eqI, q_eqB, q_eqS, q_eqN, q_isN, q_ix, q_ixL, q_in, q_len, q_sum, q_max, q_min, q_max2, q_min2, q_abs, q_int, q_intB, q_tupof, q_lstof, q_sort, q_rep, q_cat, q_isi, q_isis, q_setat, q_onC, q_append, q_pop, q_popAt, q_reverse, q_insert, q_sp1, q_sp2, q_sp3, q_sp4, q_at0, q_atS, q_st0, q_stS, q_iteT, q_iteF, q_isB, q_sumS, q_all, q_any, q_repT, q_spV, q_nLcX, q_sFz, q_gFld, q_sFldD, q_gMake, q_gCallI, q_gMeth, q_iOwnF, q_isO, q_gIxI, q_lenO, q_modN, q_divmod, q_gSMeth, q_dtupA, q_dtupAL, q_gRevD, q_revT, q_revL, q_gCallKw, q_eqO, q_gCallVS, q_gOpO, q_gUnO, q_gCMeth, q_gMakeV, q_gSlot, q_gMakeS, q_sSlot, q_gMethS, q_isS, q_lc3, q_tru, q_onTl, q_onTt, q_onTb, q_onTi, q_onTn, q_lstRev, q_lstRg2, q_lstRg1, q_prop, q_inO, q_gOpL, q_neO, q_gOpN, q_lstZip, q_repr, q_isXT])
      refine ⟨cmul cn.2 n1, lsz (by simp), _, mset_same, by rw [sz, List.length_map]; have := ok.1; have := ll.2.1; rw [List.length_take] at this; omega, hN _ _ ⟨⟨_, _, rfl⟩, ?_⟩⟩
      rw [mset_mset, et, rests_snoc, if_pos z, List.map_append]
      rfl
    · refine if_f (decide_eq_false z) (hN _ _ ⟨⟨_, _, rfl⟩, ?_⟩)
      rw [et, rests_snoc, if_neg z]
  · rintro ρ M2 ⟨⟨a, b, rfl⟩, rfl⟩
    rw [List.take_of_length_le (Nat.le_refl _)]
    (try dsimp only [q_op, q_un, q_var, q_c, q_nil, q_cons, q_tup, q_frz, q_cel, q_lst, q_test, q_onB, q_and, q_or, q_not, q_andV, q_orV, q_notV, q_if, q_chain, q_next, q_seq, q_drop, q_ret, q_retF, q_retN, q_sif, q_break, q_cont, q_name, q_dnil, q_dcons, q_dtup, q_asg, q_set, q_par, q_for, q_range1, q_range2, q_iseq, q_ienum, q_call, q_cb, q_ncb, q_nop, q_lenset, q_mt, q_mt0, q_setix, q_augs, q_aug, q_nsl, q_onone, q_osome, q_gsl, q_raise, q_raiseF, q_try, q_lc, q_lc2, q_yes, q_wipe0, q_wipe, q_xf, q_I, q_I0, q_U, q_add, q_addT, q_addL, q_addR, q_onL, q_onSt, q_onSl, q_onSs, q_onSrct, q_onSrcl, q_eqI, q_eqB, q_eqS, q_eqN, q_isN, q_ix, q_ixL, q_in, q_len, q_sum, q_max, q_min, q_max2, q_min2, q_abs, q_int, q_intB, q_tupof, q_lstof, q_sort, q_rep, q_cat, q_isi, q_isis, q_setat, q_onC, q_append, q_pop, q_popAt, q_reverse, q_insert, q_sp1, q_sp2, q_sp3, q_sp4, q_at0, q_atS, q_st0, q_stS, q_iteT, q_iteF, q_isB, q_sumS, q_all, q_any, q_repT, q_spV, q_nLcX, q_sFz, q_gFld, q_sFldD, q_gMake, q_gCallI, q_gMeth, q_iOwnF, q_isO, q_gIxI, q_lenO, q_modN, q_divmod, q_gSMeth, q_dtupA, q_dtupAL, q_gRevD, q_revT, q_revL, q_gCallKw, q_eqO, q_gCallVS, q_gOpO, q_gUnO, q_gCMeth, q_gMakeV, q_gSlot, q_gMakeS, q_sSlot, q_gMethS, q_isS, q_lc3, q_tru, q_onTl, q_onTt, q_onTb, q_onTi, q_onTn, q_lstRev, q_lstRg2, q_lstRg1, q_prop, q_inO, q_gOpL, q_neO, q_gOpN, q_lstZip, q_repr, q_isXT])
    exact ret_lst (MemUp.add hp) hp mset_same q
theorem chsC_ls {M : Mem} {E : DXK} : ∀ (ls : List Ls) (k : List PP → Prop), (∀ l ∈ ls, ChOk l.c) → k (lsC ls) → chsC K M E (ls.map Ls.d) k
  | [], k, _, q => q
  | l :: ls, k, h, q => by
    obtain ⟨k1, k2, k3, k4⟩ := h l (List.mem_cons_self ..)
    have rest : chsC K M E (ls.map Ls.d) fun cs => k (l.c :: cs) := chsC_ls ls _ (fun x hx => h x (List.mem_cons_of_mem _ hx)) q
    have cn : nb 1000 l.c.1 ∧ nb 1000 l.c.2 := ⟨nb_mono (n := 20) (by unfold nb; omega) (by omega), nb_mono (n := 20) (by unfold nb; omega) (by omega)⟩
    show chanceC K M l.d "losses" E fun t b => chsC K M E (ls.map Ls.d) fun cs => k ((t, b) :: cs)
    unfold chanceC
    cases l with
    | i x => exact .inl ⟨x, rfl, cn.1, by dsimp only; rw [if_neg (by have : 0 ≤ x := k1; have : x ≤ 1 := k2; omega)]; exact rest⟩
    | t a b => exact .inr (.inl ⟨a, b, RowD.tup, k3, cn.1, cn.2, by dsimp only; rw [if_neg (by have : 0 ≤ a := k1; have : a ≤ b := k2; omega)]; exact rest⟩)
    | l a b => exact .inr (.inl ⟨a, b, RowD.lst, k3, cn.1, cn.2, by dsimp only; rw [if_neg (by have : 0 ≤ a := k1; have : a ≤ b := k2; omega)]; exact rest⟩)
theorem ls_ok {ls : List Ls} (l17 : ls.length ≤ 17) (h : ∀ l ∈ ls, ChOk l.c) : ChsOk (lsC ls) := ⟨by unfold lsC; rw [List.length_map]; exact l17, fun c hc => by
  obtain ⟨l, hl, rfl⟩ := List.mem_map.mp hc
  exact h l hl⟩
theorem lossC_ls {M : Mem} {E : DXK} {d : DL.D} {ls : List Ls} {k : List PP → Prop} (r : RowD M d (ls.map Ls.d)) (l17 : ls.length ≤ 17) (h : ∀ l ∈ ls, ChOk l.c) (q : k (lsC ls)) : lossC K M d E k :=
  .inr ⟨_, r, by rw [List.length_map]; exact l17, chsC_ls ls _ h ⟨ls_ok l17 h, q⟩⟩
theorem b__law_closed_by : ∀ d0 d1 M Q E, sp__law_closed_by K [d0, d1] M Q E → g__law_closed_by K { nx := fun _ M => Q .non M, rt := Q, ex := fun x _ M => E x M } [some d0, some d1, none] M := by
  rintro d0 d1 M Q E ⟨ls, n, rfl, l17, lo, rfl, q⟩
  unfold g__law_closed_by
  dsimp only [q_op, q_un, q_var, q_c, q_nil, q_cons, q_tup, q_frz, q_cel, q_lst, q_test, q_onB, q_and, q_or, q_not, q_andV, q_orV, q_notV, q_if, q_chain, q_next, q_seq, q_drop, q_ret, q_retF, q_retN, q_sif, q_break, q_cont, q_name, q_dnil, q_dcons, q_dtup, q_asg, q_set, q_par, q_for, q_range1, q_range2, q_iseq, q_ienum, q_call, q_cb, q_ncb, q_nop, q_lenset, q_mt, q_mt0, q_setix, q_augs, q_aug, q_nsl, q_onone, q_osome, q_gsl, q_raise, q_raiseF, q_try, q_lc, q_lc2, q_yes, q_wipe0, q_wipe, q_xf, q_I, q_I0, q_U, q_add, q_addT, q_addL, q_addR, q_onL, q_onSt, q_onSl, q_onSs, q_onSrct, q_onSrcl, q_eqI, q_eqB, q_eqS, q_eqN, q_isN, q_ix, q_ixL, q_in, q_len, q_sum, q_max, q_min, q_max2, q_min2, q_abs, q_int, q_intB, q_tupof, q_lstof, q_sort, q_rep, q_cat, q_isi, q_isis, q_setat, q_onC, q_append, q_pop, q_popAt, q_reverse, q_insert, q_sp1, q_sp2, q_sp3, q_sp4, q_at0, q_atS, q_st0, q_stS, q_iteT, q_iteF, q_isB, q_sumS, q_all, q_any, q_repT, q_spV, q_nLcX, q_sFz, q_gFld, q_sFldD, q_gMake, q_gCallI, q_gMeth, q_iOwnF, q_isO, q_gIxI, q_lenO, q_modN, q_divmod, q_gSMeth, q_dtupA, q_dtupAL, q_gRevD, q_revT, q_revL, q_gCallKw, q_eqO, q_gCallVS, q_gOpO, q_gUnO, q_gCMeth, q_gMakeV, q_gSlot, q_gMakeS, q_sSlot, q_gMethS, q_isS, q_lc3, q_tru, q_onTl, q_onTt, q_onTb, q_onTi, q_onTn, q_lstRev, q_lstRg2, q_lstRg1, q_prop, q_inO, q_gOpL, q_neO, q_gOpN, q_lstZip, q_repr, q_isXT, sp_closes_at, sp__law_int]
  refine lossC_ls RowD.lst l17 lo ?_
  unfold cloD
  unfold byB at q
  cases z : cloL (lsC ls) with
  | none =>
    rw [z] at q
    exact ⟨.none, rfl, if_f rfl q⟩
  | some m =>
    rw [z] at q
    exact ⟨.int, rfl, if_t rfl q⟩
end
end LW

namespace LW
open PySem PySem.Spec PyProof.Rows L2 DL
section
variable {K : PySem.W.Frag} {mg : Str → Option Value}
theorem many_ok {i : Nat} (h : i < 10) : ∃ m : Nat, m ≤ 16 ∧ atI [DL.D.int 3, .int 2, .int 0, .int 4, .int 5, .int 1, .int 6, .int 8, .int 3, .int 16] ((i : Nat) : Int) = some (.int (m : Nat)) := by
  have : ∀ i : Fin 10, ∃ m : Nat, m ≤ 16 ∧ ([3, 2, 0, 4, 5, 1, 6, 8, 3, 16] : List Nat)[i.1]? = some m := by decide
  obtain ⟨m, h1, h2⟩ := this ⟨i, h⟩
  refine ⟨m, h1, L2.atI_nat ?_⟩
  have e : [DL.D.int 3, .int 2, .int 0, .int 4, .int 5, .int 1, .int 6, .int 8, .int 3, .int 16] = ([3, 2, 0, 4, 5, 1, 6, 8, 3, 16] : List Nat).map fun n : Nat => DL.D.int (n : Int) := rfl
  rw [e, List.getElem?_map, h2]
  rfl
theorem ls_app {as bs : List Ls} (ha : ∀ l ∈ as, ChOk l.c) (hb : ∀ l ∈ bs, ChOk l.c) : ∀ l ∈ as ++ bs, ChOk l.c := fun l h => (List.mem_append.mp h).elim (ha l) (hb l)
theorem ls_take {as : List Ls} (n : Nat) (ha : ∀ l ∈ as, ChOk l.c) : ∀ l ∈ as.take n, ChOk l.c := fun l h => ha l (List.mem_of_mem_take h)
theorem ls_drop {as : List Ls} (n : Nat) (ha : ∀ l ∈ as, ChOk l.c) : ∀ l ∈ as.drop n, ChOk l.c := fun l h => ha l (List.mem_of_mem_drop h)
theorem ls_one {l : Ls} (h : ChOk l.c) : ∀ x ∈ [l], ChOk x.c := fun x hx => by cases List.mem_singleton.mp hx; exact h
theorem cut_all {α : Type} (xs : List α) (i : Nat) : DL.cutD xs none (some ((i : Nat) : Int)) = xs.take i := by
  by_cases h : i ≤ xs.length
  · exact cut_take xs h
  · unfold DL.cutD
    have e1 : HT.sIx xs.length xs.length (some ((i : Nat) : Int)) = min i xs.length := HT.sIx_nat ..
    have e2 : HT.sIx xs.length 0 none = 0 := rfl
    rw [e1, e2, List.take_of_length_le (i := i) (by omega)]
    rw [Nat.min_eq_right (by omega)]
    simp
theorem sl_take {ls : List Ls} {j : Nat} {M : Mem} {Q : DVK} (q : Q (lsD (ls.take j)) M) : slD (lsD ls) none (some ((j : Nat) : Int)) M Q := by
  show Q (.lst (cutD (ls.map Ls.d) none (some ((j : Nat) : Int)))) M
  rw [cut_all, ← List.map_take]
  exact q
theorem sl_drop {ls : List Ls} {j : Nat} {M : Mem} {Q : DVK} (q : Q (lsD (ls.drop j)) M) : slD (lsD ls) (some ((j : Nat) : Int)) none M Q := by
  show Q (.lst (cutD (ls.map Ls.d) (some ((j : Nat) : Int)) none)) M
  rw [cut_drop, ← List.map_drop]
  exact q
theorem add_ls {as bs : List Ls} {M : Mem} {Q : DVK} (ha : as.length ≤ 100) (hb : bs.length ≤ 100) (q : Q (lsD (as ++ bs)) M) : dAdd (lsD as) (lsD bs) M Q := by
  refine add_ll (by rw [List.length_map, List.length_map]; omega) ?_
  rw [← List.map_append]
  exact q
theorem b__law_losses : ∀ d0 M Q E, sp__law_losses K [d0] M Q E → g__law_losses K { nx := fun _ M => Q .non M, rt := Q, ex := fun x _ M => E x M } [some d0, none, none, none, none, none, none, none] M := by
  rintro d0 M Q E ⟨p, rfl, hp, q⟩
  unfold g__law_losses
  dsimp only [q_op, q_un, q_var, q_c, q_nil, q_cons, q_tup, q_frz, q_cel, q_lst, q_test, q_onB, q_and, q_or, q_not, q_andV, q_orV, q_notV, q_if, q_chain, q_next, q_seq, q_drop, q_ret, q_retF, q_retN, q_sif, q_break, q_cont, q_name, q_dnil, q_dcons, q_dtup, q_asg, q_set, q_par, q_for, q_range1, q_range2, q_iseq, q_ienum, q_call, q_cb, q_ncb, q_nop, q_lenset, q_mt, q_mt0, q_setix, q_augs, q_aug, q_nsl, q_onone, q_osome, q_gsl, q_raise, q_raiseF, q_try, q_lc, q_lc2, q_yes, q_wipe0, q_wipe, q_xf, q_I, q_I0, q_U, q_add, q_addT, q_addL, q_addR, q_onL, q_onSt, q_onSl, q_onSs, q_onSrct, q_onSrcl, q_eqI, q_eqB, q_eqS, q_eqN, q_isN, q_ix, q_ixL, q_in, q_len, q_sum, q_max, q_min, q_max2, q_min2, q_abs, q_int, q_intB, q_tupof, q_lstof, q_sort, q_rep, q_cat, q_isi, q_isis, q_setat, q_onC, q_append, q_pop, q_popAt, q_reverse, q_insert, q_sp1, q_sp2, q_sp3, q_sp4, q_at0, q_atS, q_st0, q_stS, q_iteT, q_iteF, q_isB, q_sumS, q_all, q_any, q_repT, q_spV, q_nLcX, q_sFz, q_gFld, q_sFldD, q_gMake, q_gCallI, q_gMeth, q_iOwnF, q_isO, q_gIxI, q_lenO, q_modN, q_divmod, q_gSMeth, q_dtupA, q_dtupAL, q_gRevD, q_revT, q_revL, q_gCallKw, q_eqO, q_gCallVS, q_gOpO, q_gUnO, q_gCMeth, q_gMakeV, q_gSlot, q_gMakeS, q_sSlot, q_gMethS, q_isS, q_lc3, q_tru, q_onTl, q_onTt, q_onTb, q_onTi, q_onTn, q_lstRev, q_lstRg2, q_lstRg1, q_prop, q_inO, q_gOpL, q_neO, q_gOpN, q_lstZip, q_repr, q_isXT, sp__law_take, sp__law_chance, sp__law_loss]
  refine ⟨lsz (by simp), p, 10, rfl, rfl, by decide, hp, fun r xs r0 r1 => ?_⟩
  obtain ⟨i, rfl⟩ : ∃ i : Nat, r = (i : Nat) := ⟨r.toNat, by omega⟩
  obtain ⟨m, m16, em⟩ := many_ok (i := i) (by omega)
  refine ⟨_, em, p, 7, rfl, rfl, by decide, ⟨xs, mset_same⟩, fun kd xs1 k0 k7 => ?_⟩
  (try dsimp only [q_op, q_un, q_var, q_c, q_nil, q_cons, q_tup, q_frz, q_cel, q_lst, q_test, q_onB, q_and, q_or, q_not, q_andV, q_orV, q_notV, q_if, q_chain, q_next, q_seq, q_drop, q_ret, q_retF, q_retN, q_sif, q_break, q_cont, q_name, q_dnil, q_dcons, q_dtup, q_asg, q_set, q_par, q_for, q_range1, q_range2, q_iseq, q_ienum, q_call, q_cb, q_ncb, q_nop, q_lenset, q_mt, q_mt0, q_setix, q_augs, q_aug, q_nsl, q_onone, q_osome, q_gsl, q_raise, q_raiseF, q_try, q_lc, q_lc2, q_yes, q_wipe0, q_wipe, q_xf, q_I, q_I0, q_U, q_add, q_addT, q_addL, q_addR, q_onL, q_onSt, q_onSl, q_onSs, q_onSrct, q_onSrcl, q_eqI, q_eqB, q_eqS, q_eqN, q_isN, q_ix, q_ixL, q_in, q_len, q_sum, q_max, q_min, q_max2, q_min2, q_abs, q_int, q_intB, q_tupof, q_lstof, q_sort, q_rep, q_cat, q_isi, q_isis, q_setat, q_onC, q_append, q_pop, q_popAt, q_reverse, q_insert, q_sp1, q_sp2, q_sp3, q_sp4, q_at0, q_atS, q_st0, q_stS, q_iteT, q_iteF, q_isB, q_sumS, q_all, q_any, q_repT, q_spV, q_nLcX, q_sFz, q_gFld, q_sFldD, q_gMake, q_gCallI, q_gMeth, q_iOwnF, q_isO, q_gIxI, q_lenO, q_modN, q_divmod, q_gSMeth, q_dtupA, q_dtupAL, q_gRevD, q_revT, q_revL, q_gCallKw, q_eqO, q_gCallVS, q_gOpO, q_gUnO, q_gCMeth, q_gMakeV, q_gSlot, q_gMakeS, q_sSlot, q_gMethS, q_isS, q_lc3, q_tru, q_onTl, q_onTt, q_onTb, q_onTi, q_onTn, q_lstRev, q_lstRg2, q_lstRg1, q_prop, q_inO, q_gOpL, q_neO, q_gOpN, q_lstZip, q_repr, q_isXT])
  rw [mset_mset, Int.toNat_natCast]
  refine ⟨by omega, ?_⟩
  refine lc_inv (fun i acc M' => ∃ ls : List Ls, acc = ls.map Ls.d ∧ ls.length = i ∧ (∀ l ∈ ls, ChOk l.c) ∧ ∃ xs, M' = mset M p (.lst (iD xs))) (fun _ _ _ _ _ => trivial) ?_ ?_ ⟨[], rfl, rfl, (fun _ h => nomatch h), _, rfl⟩
  · rintro i acc M' d hd ⟨ls, rfl, hl, lo, xs, rfl⟩ N hN
    obtain ⟨hi, rfl⟩ := rgD_get hd
    (try dsimp only [q_op, q_un, q_var, q_c, q_nil, q_cons, q_tup, q_frz, q_cel, q_lst, q_test, q_onB, q_and, q_or, q_not, q_andV, q_orV, q_notV, q_if, q_chain, q_next, q_seq, q_drop, q_ret, q_retF, q_retN, q_sif, q_break, q_cont, q_name, q_dnil, q_dcons, q_dtup, q_asg, q_set, q_par, q_for, q_range1, q_range2, q_iseq, q_ienum, q_call, q_cb, q_ncb, q_nop, q_lenset, q_mt, q_mt0, q_setix, q_augs, q_aug, q_nsl, q_onone, q_osome, q_gsl, q_raise, q_raiseF, q_try, q_lc, q_lc2, q_yes, q_wipe0, q_wipe, q_xf, q_I, q_I0, q_U, q_add, q_addT, q_addL, q_addR, q_onL, q_onSt, q_onSl, q_onSs, q_onSrct, q_onSrcl, q_eqI, q_eqB, q_eqS, q_eqN, q_isN, q_ix, q_ixL, q_in, q_len, q_sum, q_max, q_min, q_max2, q_min2, q_abs, q_int, q_intB, q_tupof, q_lstof, q_sort, q_rep, q_cat, q_isi, q_isis, q_setat, q_onC, q_append, q_pop, q_popAt, q_reverse, q_insert, q_sp1, q_sp2, q_sp3, q_sp4, q_at0, q_atS, q_st0, q_stS, q_iteT, q_iteF, q_isB, q_sumS, q_all, q_any, q_repT, q_spV, q_nLcX, q_sFz, q_gFld, q_sFldD, q_gMake, q_gCallI, q_gMeth, q_iOwnF, q_isO, q_gIxI, q_lenO, q_modN, q_divmod, q_gSMeth, q_dtupA, q_dtupAL, q_gRevD, q_revT, q_revL, q_gCallKw, q_eqO, q_gCallVS, q_gOpO, q_gUnO, q_gCMeth, q_gMakeV, q_gSlot, q_gMakeS, q_sSlot, q_gMethS, q_isS, q_lc3, q_tru, q_onTl, q_onTt, q_onTb, q_onTi, q_onTn, q_lstRev, q_lstRg2, q_lstRg1, q_prop, q_inO, q_gOpL, q_neO, q_gOpN, q_lstZip, q_repr, q_isXT])
    refine if_t rfl ⟨p, rfl, ⟨xs, mset_same⟩, fun l xs2 ol => ⟨by rw [sz, List.length_map]; omega, hN _ _ ⟨ls ++ [l], by rw [List.map_append]; rfl, by rw [List.length_append, hl]; rfl, ls_app lo (ls_one ol), xs2, by rw [mset_mset]⟩⟩⟩
  · rintro acc M' ⟨ls, rfl, hl, lo, xs2, rfl⟩
    rw [rgD_len] at hl
    (try dsimp only [q_op, q_un, q_var, q_c, q_nil, q_cons, q_tup, q_frz, q_cel, q_lst, q_test, q_onB, q_and, q_or, q_not, q_andV, q_orV, q_notV, q_if, q_chain, q_next, q_seq, q_drop, q_ret, q_retF, q_retN, q_sif, q_break, q_cont, q_name, q_dnil, q_dcons, q_dtup, q_asg, q_set, q_par, q_for, q_range1, q_range2, q_iseq, q_ienum, q_call, q_cb, q_ncb, q_nop, q_lenset, q_mt, q_mt0, q_setix, q_augs, q_aug, q_nsl, q_onone, q_osome, q_gsl, q_raise, q_raiseF, q_try, q_lc, q_lc2, q_yes, q_wipe0, q_wipe, q_xf, q_I, q_I0, q_U, q_add, q_addT, q_addL, q_addR, q_onL, q_onSt, q_onSl, q_onSs, q_onSrct, q_onSrcl, q_eqI, q_eqB, q_eqS, q_eqN, q_isN, q_ix, q_ixL, q_in, q_len, q_sum, q_max, q_min, q_max2, q_min2, q_abs, q_int, q_intB, q_tupof, q_lstof, q_sort, q_rep, q_cat, q_isi, q_isis, q_setat, q_onC, q_append, q_pop, q_popAt, q_reverse, q_insert, q_sp1, q_sp2, q_sp3, q_sp4, q_at0, q_atS, q_st0, q_stS, q_iteT, q_iteF, q_isB, q_sumS, q_all, q_any, q_repT, q_spV, q_nLcX, q_sFz, q_gFld, q_sFldD, q_gMake, q_gCallI, q_gMeth, q_iOwnF, q_isO, q_gIxI, q_lenO, q_modN, q_divmod, q_gSMeth, q_dtupA, q_dtupAL, q_gRevD, q_revT, q_revL, q_gCallKw, q_eqO, q_gCallVS, q_gOpO, q_gUnO, q_gCMeth, q_gMakeV, q_gSlot, q_gMakeS, q_sSlot, q_gMethS, q_isS, q_lc3, q_tru, q_onTl, q_onTt, q_onTb, q_onTi, q_onTn, q_lstRev, q_lstRg2, q_lstRg1, q_prop, q_inO, q_gOpL, q_neO, q_gOpN, q_lstZip, q_repr, q_isXT])
    refine ⟨p, (m : Int) + 1, rfl, rfl, by omega, ⟨xs2, mset_same⟩, fun pl xs3 p0 p1 => ?_⟩
    rw [mset_mset]
    obtain ⟨j, rfl⟩ : ∃ j : Nat, pl = (j : Nat) := ⟨pl.toNat, by omega⟩
    have l16 : (ls.map Ls.d).length ≤ 16 := by rw [List.length_map, hl]; exact m16
    have lt : (ls.take j).length ≤ 16 := by rw [List.length_take]; omega
    have ld : (ls.drop j).length ≤ 16 := by rw [List.length_drop]; omega
    by_cases h1 : kd = 1
    · subst h1
      refine if_t rfl ⟨p, rfl, ⟨xs3, mset_same⟩, fun c xs4 c1 c2 c3 c4 => ?_⟩
      rw [mset_mset]
      have oc : ChOk c := ⟨c1, c2, c3, by omega⟩
      have cn : nb 20 c.1 ∧ nb 20 c.2 := by unfold nb; omega
      refine sl_take (ls := ls) (RowD.onS RowD.tup ⟨_, rfl, RowD.onS RowD.tup ⟨_, rfl, ?_⟩⟩)
      (try dsimp only [q_op, q_un, q_var, q_c, q_nil, q_cons, q_tup, q_frz, q_cel, q_lst, q_test, q_onB, q_and, q_or, q_not, q_andV, q_orV, q_notV, q_if, q_chain, q_next, q_seq, q_drop, q_ret, q_retF, q_retN, q_sif, q_break, q_cont, q_name, q_dnil, q_dcons, q_dtup, q_asg, q_set, q_par, q_for, q_range1, q_range2, q_iseq, q_ienum, q_call, q_cb, q_ncb, q_nop, q_lenset, q_mt, q_mt0, q_setix, q_augs, q_aug, q_nsl, q_onone, q_osome, q_gsl, q_raise, q_raiseF, q_try, q_lc, q_lc2, q_yes, q_wipe0, q_wipe, q_xf, q_I, q_I0, q_U, q_add, q_addT, q_addL, q_addR, q_onL, q_onSt, q_onSl, q_onSs, q_onSrct, q_onSrcl, q_eqI, q_eqB, q_eqS, q_eqN, q_isN, q_ix, q_ixL, q_in, q_len, q_sum, q_max, q_min, q_max2, q_min2, q_abs, q_int, q_intB, q_tupof, q_lstof, q_sort, q_rep, q_cat, q_isi, q_isis, q_setat, q_onC, q_append, q_pop, q_popAt, q_reverse, q_insert, q_sp1, q_sp2, q_sp3, q_sp4, q_at0, q_atS, q_st0, q_stS, q_iteT, q_iteF, q_isB, q_sumS, q_all, q_any, q_repT, q_spV, q_nLcX, q_sFz, q_gFld, q_sFldD, q_gMake, q_gCallI, q_gMeth, q_iOwnF, q_isO, q_gIxI, q_lenO, q_modN, q_divmod, q_gSMeth, q_dtupA, q_dtupAL, q_gRevD, q_revT, q_revL, q_gCallKw, q_eqO, q_gCallVS, q_gOpO, q_gUnO, q_gCMeth, q_gMakeV, q_gSlot, q_gMakeS, q_sSlot, q_gMethS, q_isS, q_lc3, q_tru, q_onTl, q_onTt, q_onTb, q_onTi, q_onTn, q_lstRev, q_lstRg2, q_lstRg1, q_prop, q_inO, q_gOpL, q_neO, q_gOpN, q_lstZip, q_repr, q_isXT])
      refine RowD.onS RowD.tup ⟨_, rfl, lsz (by simp), lsz (by simp), ?_⟩
      have z : LsOk ((ls.take j ++ [Ls.t c.1 c.2, Ls.t (c.2 - c.1) c.2] ++ ls.drop j).take 16) := ⟨by rw [List.length_take]; omega, ls_take _ (ls_app (ls_app (ls_take _ lo) fun l hl => by
        rcases List.mem_cons.mp hl with rfl | hl
        · exact oc
        · cases List.mem_singleton.mp hl
          exact ⟨by show 0 ≤ c.2 - c.1; omega, by show c.2 - c.1 ≤ c.2; omega, c3, by show c.2 ≤ _; omega⟩) (ls_drop _ lo))⟩
      refine add_ls (as := ls.take j) (bs := [.t c.1 c.2, .t (c.2 - c.1) c.2]) (by rw [List.length_take]; omega) (by simp) (sl_drop (ls := ls) (add_ls (by simp; omega) (by simp; omega) ?_))
      refine sl_take (j := 16) ?_
      exact if_f rfl (if_f rfl (if_f rfl (q _ xs4 z)))
    refine if_f (decide_eq_false h1) ?_
    by_cases h2 : kd = 2
    · subst h2
      refine if_t rfl ⟨by decide, ?_⟩
      show lcD _ _ _ _ _ (rgD 0 16) _ _ _
      refine lc_inv (fun i acc M' => ∃ ls : List Ls, acc = ls.map Ls.d ∧ ls.length = i ∧ (∀ l ∈ ls, ChOk l.c) ∧ ∃ xs, M' = mset M p (.lst (iD xs))) (fun _ _ _ _ _ => trivial) ?_ ?_ ⟨[], rfl, rfl, (fun _ h => nomatch h), _, rfl⟩
      · rintro i acc M' d hd ⟨ls, rfl, hl, lo, xs, rfl⟩ N hN
        obtain ⟨hi, rfl⟩ := rgD_get hd
        (try dsimp only [q_op, q_un, q_var, q_c, q_nil, q_cons, q_tup, q_frz, q_cel, q_lst, q_test, q_onB, q_and, q_or, q_not, q_andV, q_orV, q_notV, q_if, q_chain, q_next, q_seq, q_drop, q_ret, q_retF, q_retN, q_sif, q_break, q_cont, q_name, q_dnil, q_dcons, q_dtup, q_asg, q_set, q_par, q_for, q_range1, q_range2, q_iseq, q_ienum, q_call, q_cb, q_ncb, q_nop, q_lenset, q_mt, q_mt0, q_setix, q_augs, q_aug, q_nsl, q_onone, q_osome, q_gsl, q_raise, q_raiseF, q_try, q_lc, q_lc2, q_yes, q_wipe0, q_wipe, q_xf, q_I, q_I0, q_U, q_add, q_addT, q_addL, q_addR, q_onL, q_onSt, q_onSl, q_onSs, q_onSrct, q_onSrcl, q_eqI, q_eqB, q_eqS, q_eqN, q_isN, q_ix, q_ixL, q_in, q_len, q_sum, q_max, q_min, q_max2, q_min2, q_abs, q_int, q_intB, q_tupof, q_lstof, q_sort, q_rep, q_cat, q_isi, q_isis, q_setat, q_onC, q_append, q_pop, q_popAt, q_reverse, q_insert, q_sp1, q_sp2, q_sp3, q_sp4, q_at0, q_atS, q_st0, q_stS, q_iteT, q_iteF, q_isB, q_sumS, q_all, q_any, q_repT, q_spV, q_nLcX, q_sFz, q_gFld, q_sFldD, q_gMake, q_gCallI, q_gMeth, q_iOwnF, q_isO, q_gIxI, q_lenO, q_modN, q_divmod, q_gSMeth, q_dtupA, q_dtupAL, q_gRevD, q_revT, q_revL, q_gCallKw, q_eqO, q_gCallVS, q_gOpO, q_gUnO, q_gCMeth, q_gMakeV, q_gSlot, q_gMakeS, q_sSlot, q_gMethS, q_isS, q_lc3, q_tru, q_onTl, q_onTt, q_onTb, q_onTi, q_onTn, q_lstRev, q_lstRg2, q_lstRg1, q_prop, q_inO, q_gOpL, q_neO, q_gOpN, q_lstZip, q_repr, q_isXT])
        refine if_t rfl ⟨p, 2, rfl, rfl, by decide, ⟨xs, mset_same⟩, fun a ys a0 a2 => ⟨p, 5, rfl, rfl, by decide, ⟨ys, mset_same⟩, fun b zs b0 b5 => ?_⟩⟩
        rw [mset_mset, mset_mset]
        refine ⟨cmul (a := 10) (b := 10) (by unfold nb; omega) (by unfold nb; omega), lsz (by simp), by rw [sz, List.length_map]; omega, ?_⟩
        have ab : 0 ≤ a * b ∧ a * b ≤ 4 := by
          rcases (show a = 0 ∨ a = 1 by omega) with rfl | rfl
          · omega
          · omega
        exact hN _ _ ⟨ls ++ [.t 1 (4 + a * b)], by rw [List.map_append]; rfl, by rw [List.length_append, hl]; rfl, ls_app lo (ls_one ⟨by show (0 : Int) ≤ 1; decide, by show (1 : Int) ≤ 4 + a * b; omega, by show (1 : Int) ≤ 4 + a * b; omega, by show 4 + a * b ≤ _; omega⟩), zs, rfl⟩
      · rintro acc M' ⟨ls, rfl, hl, lo, xs2, rfl⟩
        rw [rgD_len] at hl
        (try dsimp only [q_op, q_un, q_var, q_c, q_nil, q_cons, q_tup, q_frz, q_cel, q_lst, q_test, q_onB, q_and, q_or, q_not, q_andV, q_orV, q_notV, q_if, q_chain, q_next, q_seq, q_drop, q_ret, q_retF, q_retN, q_sif, q_break, q_cont, q_name, q_dnil, q_dcons, q_dtup, q_asg, q_set, q_par, q_for, q_range1, q_range2, q_iseq, q_ienum, q_call, q_cb, q_ncb, q_nop, q_lenset, q_mt, q_mt0, q_setix, q_augs, q_aug, q_nsl, q_onone, q_osome, q_gsl, q_raise, q_raiseF, q_try, q_lc, q_lc2, q_yes, q_wipe0, q_wipe, q_xf, q_I, q_I0, q_U, q_add, q_addT, q_addL, q_addR, q_onL, q_onSt, q_onSl, q_onSs, q_onSrct, q_onSrcl, q_eqI, q_eqB, q_eqS, q_eqN, q_isN, q_ix, q_ixL, q_in, q_len, q_sum, q_max, q_min, q_max2, q_min2, q_abs, q_int, q_intB, q_tupof, q_lstof, q_sort, q_rep, q_cat, q_isi, q_isis, q_setat, q_onC, q_append, q_pop, q_popAt, q_reverse, q_insert, q_sp1, q_sp2, q_sp3, q_sp4, q_at0, q_atS, q_st0, q_stS, q_iteT, q_iteF, q_isB, q_sumS, q_all, q_any, q_repT, q_spV, q_nLcX, q_sFz, q_gFld, q_sFldD, q_gMake, q_gCallI, q_gMeth, q_iOwnF, q_isO, q_gIxI, q_lenO, q_modN, q_divmod, q_gSMeth, q_dtupA, q_dtupAL, q_gRevD, q_revT, q_revL, q_gCallKw, q_eqO, q_gCallVS, q_gOpO, q_gUnO, q_gCMeth, q_gMakeV, q_gSlot, q_gMakeS, q_sSlot, q_gMethS, q_isS, q_lc3, q_tru, q_onTl, q_onTt, q_onTb, q_onTi, q_onTn, q_lstRev, q_lstRg2, q_lstRg1, q_prop, q_inO, q_gOpL, q_neO, q_gOpN, q_lstZip, q_repr, q_isXT])
        exact if_f rfl (if_f rfl (q ls xs2 ⟨by omega, lo⟩))
    refine if_f (decide_eq_false h2) ?_
    by_cases h3 : kd = 3
    · subst h3
      refine if_t rfl (sl_take (ls := ls) ⟨lsz (by simp), ?_⟩)
      have z : LsOk ((ls.take j ++ [Ls.i 1] ++ ls.drop j).take 16) := ⟨by rw [List.length_take]; omega, ls_take _ (ls_app (ls_app (ls_take _ lo) (ls_one ⟨by decide, by decide, by decide, by decide⟩)) (ls_drop _ lo))⟩
      refine add_ls (as := ls.take j) (bs := [.i 1]) (by rw [List.length_take]; omega) (by simp) (sl_drop (ls := ls) (add_ls (by simp; omega) (by simp; omega) ?_))
      refine sl_take (j := 16) ?_
      exact if_f rfl (q _ xs3 z)
    refine if_f (decide_eq_false h3) ?_
    by_cases h4 : kd = 4
    · subst h4
      refine if_t rfl ⟨p, rfl, ⟨xs3, mset_same⟩, fun c xs4 c1 c2 c3 c4 => ?_⟩
      rw [mset_mset]
      (try dsimp only [q_op, q_un, q_var, q_c, q_nil, q_cons, q_tup, q_frz, q_cel, q_lst, q_test, q_onB, q_and, q_or, q_not, q_andV, q_orV, q_notV, q_if, q_chain, q_next, q_seq, q_drop, q_ret, q_retF, q_retN, q_sif, q_break, q_cont, q_name, q_dnil, q_dcons, q_dtup, q_asg, q_set, q_par, q_for, q_range1, q_range2, q_iseq, q_ienum, q_call, q_cb, q_ncb, q_nop, q_lenset, q_mt, q_mt0, q_setix, q_augs, q_aug, q_nsl, q_onone, q_osome, q_gsl, q_raise, q_raiseF, q_try, q_lc, q_lc2, q_yes, q_wipe0, q_wipe, q_xf, q_I, q_I0, q_U, q_add, q_addT, q_addL, q_addR, q_onL, q_onSt, q_onSl, q_onSs, q_onSrct, q_onSrcl, q_eqI, q_eqB, q_eqS, q_eqN, q_isN, q_ix, q_ixL, q_in, q_len, q_sum, q_max, q_min, q_max2, q_min2, q_abs, q_int, q_intB, q_tupof, q_lstof, q_sort, q_rep, q_cat, q_isi, q_isis, q_setat, q_onC, q_append, q_pop, q_popAt, q_reverse, q_insert, q_sp1, q_sp2, q_sp3, q_sp4, q_at0, q_atS, q_st0, q_stS, q_iteT, q_iteF, q_isB, q_sumS, q_all, q_any, q_repT, q_spV, q_nLcX, q_sFz, q_gFld, q_sFldD, q_gMake, q_gCallI, q_gMeth, q_iOwnF, q_isO, q_gIxI, q_lenO, q_modN, q_divmod, q_gSMeth, q_dtupA, q_dtupAL, q_gRevD, q_revT, q_revL, q_gCallKw, q_eqO, q_gCallVS, q_gOpO, q_gUnO, q_gCMeth, q_gMakeV, q_gSlot, q_gMakeS, q_sSlot, q_gMethS, q_isS, q_lc3, q_tru, q_onTl, q_onTt, q_onTb, q_onTi, q_onTn, q_lstRev, q_lstRg2, q_lstRg1, q_prop, q_inO, q_gOpL, q_neO, q_gOpN, q_lstZip, q_repr, q_isXT])
      refine ⟨by omega, ?_⟩
      refine lc_inv (fun i acc M' => acc = (List.replicate i (Ls.t c.1 c.2)).map Ls.d ∧ M' = mset M p (.lst (iD xs4))) (fun _ _ _ _ _ => trivial) ?_ ?_ ⟨rfl, rfl⟩
      · rintro i acc M' d hd ⟨rfl, rfl⟩ N hN
        obtain ⟨hi, rfl⟩ := rgD_get hd
        (try dsimp only [q_op, q_un, q_var, q_c, q_nil, q_cons, q_tup, q_frz, q_cel, q_lst, q_test, q_onB, q_and, q_or, q_not, q_andV, q_orV, q_notV, q_if, q_chain, q_next, q_seq, q_drop, q_ret, q_retF, q_retN, q_sif, q_break, q_cont, q_name, q_dnil, q_dcons, q_dtup, q_asg, q_set, q_par, q_for, q_range1, q_range2, q_iseq, q_ienum, q_call, q_cb, q_ncb, q_nop, q_lenset, q_mt, q_mt0, q_setix, q_augs, q_aug, q_nsl, q_onone, q_osome, q_gsl, q_raise, q_raiseF, q_try, q_lc, q_lc2, q_yes, q_wipe0, q_wipe, q_xf, q_I, q_I0, q_U, q_add, q_addT, q_addL, q_addR, q_onL, q_onSt, q_onSl, q_onSs, q_onSrct, q_onSrcl, q_eqI, q_eqB, q_eqS, q_eqN, q_isN, q_ix, q_ixL, q_in, q_len, q_sum, q_max, q_min, q_max2, q_min2, q_abs, q_int, q_intB, q_tupof, q_lstof, q_sort, q_rep, q_cat, q_isi, q_isis, q_setat, q_onC, q_append, q_pop, q_popAt, q_reverse, q_insert, q_sp1, q_sp2, q_sp3, q_sp4, q_at0, q_atS, q_st0, q_stS, q_iteT, q_iteF, q_isB, q_sumS, q_all, q_any, q_repT, q_spV, q_nLcX, q_sFz, q_gFld, q_sFldD, q_gMake, q_gCallI, q_gMeth, q_iOwnF, q_isO, q_gIxI, q_lenO, q_modN, q_divmod, q_gSMeth, q_dtupA, q_dtupAL, q_gRevD, q_revT, q_revL, q_gCallKw, q_eqO, q_gCallVS, q_gOpO, q_gUnO, q_gCMeth, q_gMakeV, q_gSlot, q_gMakeS, q_sSlot, q_gMethS, q_isS, q_lc3, q_tru, q_onTl, q_onTt, q_onTb, q_onTi, q_onTn, q_lstRev, q_lstRg2, q_lstRg1, q_prop, q_inO, q_gOpL, q_neO, q_gOpN, q_lstZip, q_repr, q_isXT])
        refine if_t rfl ⟨by rw [sz, List.length_map, List.length_replicate]; omega, hN _ _ ⟨?_, rfl⟩⟩
        rw [List.replicate_succ', List.map_append]
        rfl
      · rintro acc M' ⟨rfl, rfl⟩
        rw [rgD_len]
        exact q (List.replicate m (Ls.t c.1 c.2)) xs4 ⟨by rw [List.length_replicate]; exact m16, fun l hl => by
          rw [(List.mem_replicate.mp hl).2]
          exact ⟨c1, c2, c3, by show c.2 ≤ _; omega⟩⟩
    exact if_f (decide_eq_false h4) (q ls xs3 ⟨by omega, lo⟩)
end
end LW

namespace LW
open PySem PySem.Spec PyProof.Rows L2 DL
section
variable {K : PySem.W.Frag} {mg : Str → Option Value}
def Ls.p : Ls → PyData
  | .i x => .int x
  | .t a b => .tuple [.int a, .int b]
  | .l a b => .list [.int a, .int b]
theorem vw_ls {M : Mem} : ∀ l : Ls, Vw M l.d l.p
  | .i x => .int x
  | .t a b => .tup (.cons (.int a) (.cons (.int b) .nil))
  | .l a b => .lst (.cons (.int a) (.cons (.int b) .nil))
theorem sok_s (s : String) : PyData.strOk (Str.ofString s) = true := by
  rw [Str.ofString_eq_toList]
  unfold PyData.strOk
  rw [Array.all_eq_true_iff_forall_mem]
  intro x hx
  rw [List.mem_toArray] at hx
  obtain ⟨c, _, rfl⟩ := List.mem_map.mp hx
  refine decide_eq_true ?_
  rcases c.valid with h | ⟨_, h⟩
  · exact Nat.lt_trans h (by decide)
  · exact h
theorem sok_app {a b : Str} (ha : PyData.strOk a = true) (hb : PyData.strOk b = true) : PyData.strOk (a ++ b) = true := by
  unfold PyData.strOk at *
  rw [Str.cps_append, Array.all_append, ha, hb]
  rfl
theorem ls_small {l : Ls} (h : ChOk l.c) : PyData.showable l.p = true ∧ SeqAt.shaped l.p = true ∧ l.p.shown.length ≤ sizeLine ∧ ((∃ i, l.p = .int i) ∨ ∃ ps, l.p = .tuple ps ∨ l.p = .list ps) ∧ PyData.strOk l.p.shown = true := by
  obtain ⟨h1, h2, h3, h4⟩ := h
  have lg : ∀ x : Int, 0 ≤ x → x ≤ 1000000 → decide (x.natAbs.log2 < 1920) = true := fun x a b => decide_eq_true (by
    have := log_nb (n := 20) (x := x) (by unfold nb; omega)
    omega)
  have ln : ∀ x : Int, 0 ≤ x → x ≤ 1000000 → (PyData.shown (.int x)).length ≤ 13 := fun x a b => PyData.shown_int_le2 (by omega) (by omega)
  cases l with
  | i x =>
    have h1 : 0 ≤ x := h1
    have h2 : x ≤ 1 := h2
    exact ⟨lg x h1 (by omega), by rfl, by rw [sz]; have := ln x h1 (by omega); show (PyData.shown (.int x)).length ≤ _; omega, .inl ⟨_, rfl⟩, sok_s _⟩
  | t a b =>
    have h1 : 0 ≤ a := h1
    have h2 : a ≤ b := h2
    have h4 : b ≤ 1000000 := h4
    have la := ln a h1 (by omega)
    have lb := ln b (by omega) h4
    refine ⟨?_, by rfl, ?_, .inr ⟨_, .inl rfl⟩, ?_⟩
    · show (decide (a.natAbs.log2 < 1920) && (decide (b.natAbs.log2 < 1920) && true)) = true
      rw [lg a h1 (by omega), lg b (by omega) h4]
      rfl
    · have := tupleText_len_le [PyData.shown (.int a), PyData.shown (.int b)]
      rw [sz]
      show (tupleText [PyData.shown (.int a), PyData.shown (.int b)]).length ≤ _
      simp only [List.map_cons, List.map_nil, List.sum_cons, List.sum_nil, List.length_cons, List.length_nil] at this
      omega
    · show PyData.strOk (("(" : Str) ++ (Str.ofString (toString a) ++ (", " : Str) ++ Str.ofString (toString b)) ++ (")" : String)) = true
      exact sok_app (sok_app (sok_s _) (sok_app (sok_app (sok_s _) (sok_s _)) (sok_s _))) (sok_s _)
  | l a b =>
    have h1 : 0 ≤ a := h1
    have h2 : a ≤ b := h2
    have h4 : b ≤ 1000000 := h4
    have la := ln a h1 (by omega)
    have lb := ln b (by omega) h4
    refine ⟨?_, by rfl, ?_, .inr ⟨_, .inr rfl⟩, ?_⟩
    · show (decide (a.natAbs.log2 < 1920) && (decide (b.natAbs.log2 < 1920) && true)) = true
      rw [lg a h1 (by omega), lg b (by omega) h4]
      rfl
    · have := listText_len_le [PyData.shown (.int a), PyData.shown (.int b)]
      rw [sz]
      show (listText [PyData.shown (.int a), PyData.shown (.int b)]).length ≤ _
      simp only [List.map_cons, List.map_nil, List.sum_cons, List.sum_nil, List.length_cons, List.length_nil] at this
      omega
    · show PyData.strOk ((("[" : Str) ++ ("" : String) ++ Str.ofString (toString a)) ++ (", " : String) ++ Str.ofString (toString b) ++ ("]" : Str)) = true
      exact sok_app (sok_app (sok_app (sok_app (sok_app (sok_s _) (sok_s _)) (sok_s _)) (sok_s _)) (sok_s _)) (sok_s _)
theorem lc_repr {M : Mem} {Qn : List DL.D → Mem → Prop} {x0 x1 x3 x4 x5 x6 x7 x8 x9 : Option DL.D} {ls : List Ls} (l16 : ls.length ≤ 16) (lo : ∀ l ∈ ls, ChOk l.c) (q : Qn (ls.map fun l => .str l.p.shown) M) :
    lcD (fun _ => True) (dName 2) gYes (gCB dRepr (aCons (gVar 2) aNil)) [x0, x1, none, x3, x4, x5, x6, x7, x8, x9] (ls.map Ls.d) [] M Qn := by
  refine lc_map Ls.d (fun l => .str l.p.shown) trivial ls (fun l hl kk hk => ?_) dName_mono rfl (by rw [sz]; omega) q
  (try dsimp only [q_op, q_un, q_var, q_c, q_nil, q_cons, q_tup, q_frz, q_cel, q_lst, q_test, q_onB, q_and, q_or, q_not, q_andV, q_orV, q_notV, q_if, q_chain, q_next, q_seq, q_drop, q_ret, q_retF, q_retN, q_sif, q_break, q_cont, q_name, q_dnil, q_dcons, q_dtup, q_asg, q_set, q_par, q_for, q_range1, q_range2, q_iseq, q_ienum, q_call, q_cb, q_ncb, q_nop, q_lenset, q_mt, q_mt0, q_setix, q_augs, q_aug, q_nsl, q_onone, q_osome, q_gsl, q_raise, q_raiseF, q_try, q_lc, q_lc2, q_yes, q_wipe0, q_wipe, q_xf, q_I, q_I0, q_U, q_add, q_addT, q_addL, q_addR, q_onL, q_onSt, q_onSl, q_onSs, q_onSrct, q_onSrcl, q_eqI, q_eqB, q_eqS, q_eqN, q_isN, q_ix, q_ixL, q_in, q_len, q_sum, q_max, q_min, q_max2, q_min2, q_abs, q_int, q_intB, q_tupof, q_lstof, q_sort, q_rep, q_cat, q_isi, q_isis, q_setat, q_onC, q_append, q_pop, q_popAt, q_reverse, q_insert, q_sp1, q_sp2, q_sp3, q_sp4, q_at0, q_atS, q_st0, q_stS, q_iteT, q_iteF, q_isB, q_sumS, q_all, q_any, q_repT, q_spV, q_nLcX, q_sFz, q_gFld, q_sFldD, q_gMake, q_gCallI, q_gMeth, q_iOwnF, q_isO, q_gIxI, q_lenO, q_modN, q_divmod, q_gSMeth, q_dtupA, q_dtupAL, q_gRevD, q_revT, q_revL, q_gCallKw, q_eqO, q_gCallVS, q_gOpO, q_gUnO, q_gCMeth, q_gMakeV, q_gSlot, q_gMakeS, q_sSlot, q_gMethS, q_isS, q_lc3, q_tru, q_onTl, q_onTt, q_onTb, q_onTi, q_onTn, q_lstRev, q_lstRg2, q_lstRg1, q_prop, q_inO, q_gOpL, q_neO, q_gOpN, q_lstZip, q_repr, q_isXT])
  obtain ⟨a, b, c, d, e⟩ := ls_small (lo l hl)
  exact ⟨rfl, l.p, vw_ls l, b, a, c, d, hk⟩
theorem lo_le {t b : Int} (h : 0 < b) (l : t ≤ b) : (lo t b).1 ≤ (lo t b).2 := by
  have c := lo_cross t b
  have p := lo_pos (t := t) h
  have m : t * (lo t b).2 ≤ b * (lo t b).2 := Int.mul_le_mul_of_nonneg_right l (by omega)
  rw [← c, Int.mul_comm b] at m
  exact Int.le_of_mul_le_mul_right m h
theorem pl_frs (l : List PP) : plainN 9 (.tup (l.map frP)) = true := by
  show (l.map frP).all (plainN 8) = true
  rw [List.all_map]
  exact List.all_eq_true.mpr fun x _ => rfl
theorem pl_strs {l : List Ls} (h : ∀ x ∈ l, ChOk x.c) : plainN 9 (.lst (l.map fun x => .str x.p.shown)) = true := by
  show (l.map fun x => DL.D.str x.p.shown).all (plainN 8) = true
  rw [List.all_map]
  exact List.all_eq_true.mpr fun x hx => (ls_small (h x hx)).2.2.2.2
theorem frs_at {l : List PP} {i : Nat} {r : PP} (h : l[i]? = some r) : atI (l.map frP) ((i : Nat) : Int) = some (frP r) := L2.atI_nat (by rw [List.getElem?_map, h]; rfl)
theorem prs_at {l : List PP} {i : Nat} {r : PP} (h : l[i]? = some r) : atI (l.map prD) ((i : Nat) : Int) = some (prD r) := L2.atI_nat (by rw [List.getElem?_map, h]; rfl)
theorem b__law_tells : ∀ d0 M Q E, sp__law_tells K [d0] M Q E → g__law_tells K { nx := fun _ M => Q .non M, rt := Q, ex := fun x _ M => E x M } [some d0, none, none, none, none, none, none, none, none, none] M := by
  rintro d0 M Q E ⟨ls, rfl, ⟨l16, lo⟩, q⟩
  unfold g__law_tells
  generalize hT : (sSeq (sSet 3 _) _ : DS) = TL
  dsimp only [q_op, q_un, q_var, q_c, q_nil, q_cons, q_tup, q_frz, q_cel, q_lst, q_test, q_onB, q_and, q_or, q_not, q_andV, q_orV, q_notV, q_if, q_chain, q_next, q_seq, q_drop, q_ret, q_retF, q_retN, q_sif, q_break, q_cont, q_name, q_dnil, q_dcons, q_dtup, q_asg, q_set, q_par, q_for, q_range1, q_range2, q_iseq, q_ienum, q_call, q_cb, q_ncb, q_nop, q_lenset, q_mt, q_mt0, q_setix, q_augs, q_aug, q_nsl, q_onone, q_osome, q_gsl, q_raise, q_raiseF, q_try, q_lc, q_lc2, q_yes, q_wipe0, q_wipe, q_xf, q_I, q_I0, q_U, q_add, q_addT, q_addL, q_addR, q_onL, q_onSt, q_onSl, q_onSs, q_onSrct, q_onSrcl, q_eqI, q_eqB, q_eqS, q_eqN, q_isN, q_ix, q_ixL, q_in, q_len, q_sum, q_max, q_min, q_max2, q_min2, q_abs, q_int, q_intB, q_tupof, q_lstof, q_sort, q_rep, q_cat, q_isi, q_isis, q_setat, q_onC, q_append, q_pop, q_popAt, q_reverse, q_insert, q_sp1, q_sp2, q_sp3, q_sp4, q_at0, q_atS, q_st0, q_stS, q_iteT, q_iteF, q_isB, q_sumS, q_all, q_any, q_repT, q_spV, q_nLcX, q_sFz, q_gFld, q_sFldD, q_gMake, q_gCallI, q_gMeth, q_iOwnF, q_isO, q_gIxI, q_lenO, q_modN, q_divmod, q_gSMeth, q_dtupA, q_dtupAL, q_gRevD, q_revT, q_revL, q_gCallKw, q_eqO, q_gCallVS, q_gOpO, q_gUnO, q_gCMeth, q_gMakeV, q_gSlot, q_gMakeS, q_sSlot, q_gMethS, q_isS, q_lc3, q_tru, q_onTl, q_onTt, q_onTb, q_onTi, q_onTn, q_lstRev, q_lstRg2, q_lstRg1, q_prop, q_inO, q_gOpL, q_neO, q_gOpN, q_lstZip, q_repr, q_isXT, sp__law_pair]
  refine lc_map Ls.d (fun l => prD l.c) trivial ls (fun l hl kk hk => ?_) dName_mono rfl (by rw [sz]; omega) ?_
  · (try dsimp only [q_op, q_un, q_var, q_c, q_nil, q_cons, q_tup, q_frz, q_cel, q_lst, q_test, q_onB, q_and, q_or, q_not, q_andV, q_orV, q_notV, q_if, q_chain, q_next, q_seq, q_drop, q_ret, q_retF, q_retN, q_sif, q_break, q_cont, q_name, q_dnil, q_dcons, q_dtup, q_asg, q_set, q_par, q_for, q_range1, q_range2, q_iseq, q_ienum, q_call, q_cb, q_ncb, q_nop, q_lenset, q_mt, q_mt0, q_setix, q_augs, q_aug, q_nsl, q_onone, q_osome, q_gsl, q_raise, q_raiseF, q_try, q_lc, q_lc2, q_yes, q_wipe0, q_wipe, q_xf, q_I, q_I0, q_U, q_add, q_addT, q_addL, q_addR, q_onL, q_onSt, q_onSl, q_onSs, q_onSrct, q_onSrcl, q_eqI, q_eqB, q_eqS, q_eqN, q_isN, q_ix, q_ixL, q_in, q_len, q_sum, q_max, q_min, q_max2, q_min2, q_abs, q_int, q_intB, q_tupof, q_lstof, q_sort, q_rep, q_cat, q_isi, q_isis, q_setat, q_onC, q_append, q_pop, q_popAt, q_reverse, q_insert, q_sp1, q_sp2, q_sp3, q_sp4, q_at0, q_atS, q_st0, q_stS, q_iteT, q_iteF, q_isB, q_sumS, q_all, q_any, q_repT, q_spV, q_nLcX, q_sFz, q_gFld, q_sFldD, q_gMake, q_gCallI, q_gMeth, q_iOwnF, q_isO, q_gIxI, q_lenO, q_modN, q_divmod, q_gSMeth, q_dtupA, q_dtupAL, q_gRevD, q_revT, q_revL, q_gCallKw, q_eqO, q_gCallVS, q_gOpO, q_gUnO, q_gCMeth, q_gMakeV, q_gSlot, q_gMakeS, q_sSlot, q_gMethS, q_isS, q_lc3, q_tru, q_onTl, q_onTt, q_onTb, q_onTi, q_onTn, q_lstRev, q_lstRg2, q_lstRg1, q_prop, q_inO, q_gOpL, q_neO, q_gOpN, q_lstZip, q_repr, q_isXT])
    exact ⟨rfl, l, rfl, hk⟩
  subst hT
  dsimp only [q_op, q_un, q_var, q_c, q_nil, q_cons, q_tup, q_frz, q_cel, q_lst, q_test, q_onB, q_and, q_or, q_not, q_andV, q_orV, q_notV, q_if, q_chain, q_next, q_seq, q_drop, q_ret, q_retF, q_retN, q_sif, q_break, q_cont, q_name, q_dnil, q_dcons, q_dtup, q_asg, q_set, q_par, q_for, q_range1, q_range2, q_iseq, q_ienum, q_call, q_cb, q_ncb, q_nop, q_lenset, q_mt, q_mt0, q_setix, q_augs, q_aug, q_nsl, q_onone, q_osome, q_gsl, q_raise, q_raiseF, q_try, q_lc, q_lc2, q_yes, q_wipe0, q_wipe, q_xf, q_I, q_I0, q_U, q_add, q_addT, q_addL, q_addR, q_onL, q_onSt, q_onSl, q_onSs, q_onSrct, q_onSrcl, q_eqI, q_eqB, q_eqS, q_eqN, q_isN, q_ix, q_ixL, q_in, q_len, q_sum, q_max, q_min, q_max2, q_min2, q_abs, q_int, q_intB, q_tupof, q_lstof, q_sort, q_rep, q_cat, q_isi, q_isis, q_setat, q_onC, q_append, q_pop, q_popAt, q_reverse, q_insert, q_sp1, q_sp2, q_sp3, q_sp4, q_at0, q_atS, q_st0, q_stS, q_iteT, q_iteF, q_isB, q_sumS, q_all, q_any, q_repT, q_spV, q_nLcX, q_sFz, q_gFld, q_sFldD, q_gMake, q_gCallI, q_gMeth, q_iOwnF, q_isO, q_gIxI, q_lenO, q_modN, q_divmod, q_gSMeth, q_dtupA, q_dtupAL, q_gRevD, q_revT, q_revL, q_gCallKw, q_eqO, q_gCallVS, q_gOpO, q_gUnO, q_gCMeth, q_gMakeV, q_gSlot, q_gMakeS, q_sSlot, q_gMethS, q_isS, q_lc3, q_tru, q_onTl, q_onTt, q_onTb, q_onTi, q_onTn, q_lstRev, q_lstRg2, q_lstRg1, q_prop, q_inO, q_gOpL, q_neO, q_gOpN, q_lstZip, q_repr, q_isXT, sp__law_rests_due, sp_rests]
  have ok := ls_ok (by omega) lo
  have em : ls.map (fun l => prD l.c) = (lsC ls).map prD := by unfold lsC; rw [List.map_map]; rfl
  rw [em]
  refine ⟨lsC ls, rfl, ok, lc_repr l16 lo ?_⟩
  refine lossC_ls RowD.lst (by omega) lo ?_
  have ll := rests_len (lsC ls) (1, 1)
  have l17 : (lsC ls).length ≤ 16 := by unfold lsC; rw [List.length_map]; exact l16
  have hr : ∀ r ∈ restsL (lsC ls), RO r ∧ nb 400 r.1 ∧ nb 400 r.2 := fun r h => rests_ok ok h
  (try dsimp only [q_op, q_un, q_var, q_c, q_nil, q_cons, q_tup, q_frz, q_cel, q_lst, q_test, q_onB, q_and, q_or, q_not, q_andV, q_orV, q_notV, q_if, q_chain, q_next, q_seq, q_drop, q_ret, q_retF, q_retN, q_sif, q_break, q_cont, q_name, q_dnil, q_dcons, q_dtup, q_asg, q_set, q_par, q_for, q_range1, q_range2, q_iseq, q_ienum, q_call, q_cb, q_ncb, q_nop, q_lenset, q_mt, q_mt0, q_setix, q_augs, q_aug, q_nsl, q_onone, q_osome, q_gsl, q_raise, q_raiseF, q_try, q_lc, q_lc2, q_yes, q_wipe0, q_wipe, q_xf, q_I, q_I0, q_U, q_add, q_addT, q_addL, q_addR, q_onL, q_onSt, q_onSl, q_onSs, q_onSrct, q_onSrcl, q_eqI, q_eqB, q_eqS, q_eqN, q_isN, q_ix, q_ixL, q_in, q_len, q_sum, q_max, q_min, q_max2, q_min2, q_abs, q_int, q_intB, q_tupof, q_lstof, q_sort, q_rep, q_cat, q_isi, q_isis, q_setat, q_onC, q_append, q_pop, q_popAt, q_reverse, q_insert, q_sp1, q_sp2, q_sp3, q_sp4, q_at0, q_atS, q_st0, q_stS, q_iteT, q_iteF, q_isB, q_sumS, q_all, q_any, q_repT, q_spV, q_nLcX, q_sFz, q_gFld, q_sFldD, q_gMake, q_gCallI, q_gMeth, q_iOwnF, q_isO, q_gIxI, q_lenO, q_modN, q_divmod, q_gSMeth, q_dtupA, q_dtupAL, q_gRevD, q_revT, q_revL, q_gCallKw, q_eqO, q_gCallVS, q_gOpO, q_gUnO, q_gCMeth, q_gMakeV, q_gSlot, q_gMakeS, q_sSlot, q_gMethS, q_isS, q_lc3, q_tru, q_onTl, q_onTt, q_onTb, q_onTi, q_onTn, q_lstRev, q_lstRg2, q_lstRg1, q_prop, q_inO, q_gOpL, q_neO, q_gOpN, q_lstZip, q_repr, q_isXT])
  refine ⟨.tuple, true, rfl, rfl, ?_⟩
  (try dsimp only [q_op, q_un, q_var, q_c, q_nil, q_cons, q_tup, q_frz, q_cel, q_lst, q_test, q_onB, q_and, q_or, q_not, q_andV, q_orV, q_notV, q_if, q_chain, q_next, q_seq, q_drop, q_ret, q_retF, q_retN, q_sif, q_break, q_cont, q_name, q_dnil, q_dcons, q_dtup, q_asg, q_set, q_par, q_for, q_range1, q_range2, q_iseq, q_ienum, q_call, q_cb, q_ncb, q_nop, q_lenset, q_mt, q_mt0, q_setix, q_augs, q_aug, q_nsl, q_onone, q_osome, q_gsl, q_raise, q_raiseF, q_try, q_lc, q_lc2, q_yes, q_wipe0, q_wipe, q_xf, q_I, q_I0, q_U, q_add, q_addT, q_addL, q_addR, q_onL, q_onSt, q_onSl, q_onSs, q_onSrct, q_onSrcl, q_eqI, q_eqB, q_eqS, q_eqN, q_isN, q_ix, q_ixL, q_in, q_len, q_sum, q_max, q_min, q_max2, q_min2, q_abs, q_int, q_intB, q_tupof, q_lstof, q_sort, q_rep, q_cat, q_isi, q_isis, q_setat, q_onC, q_append, q_pop, q_popAt, q_reverse, q_insert, q_sp1, q_sp2, q_sp3, q_sp4, q_at0, q_atS, q_st0, q_stS, q_iteT, q_iteF, q_isB, q_sumS, q_all, q_any, q_repT, q_spV, q_nLcX, q_sFz, q_gFld, q_sFldD, q_gMake, q_gCallI, q_gMeth, q_iOwnF, q_isO, q_gIxI, q_lenO, q_modN, q_divmod, q_gSMeth, q_dtupA, q_dtupAL, q_gRevD, q_revT, q_revL, q_gCallKw, q_eqO, q_gCallVS, q_gOpO, q_gUnO, q_gCMeth, q_gMakeV, q_gSlot, q_gMakeS, q_sSlot, q_gMethS, q_isS, q_lc3, q_tru, q_onTl, q_onTt, q_onTb, q_onTi, q_onTn, q_lstRev, q_lstRg2, q_lstRg1, q_prop, q_inO, q_gOpL, q_neO, q_gOpN, q_lstZip, q_repr, q_isXT])
  rw [List.length_map, List.length_map]
  have lsz17 : (restsL (lsC ls)).length ≤ 17 := by have := ll.2.1; unfold restsL; omega
  refine if_f rfl (if_f (by simp) ⟨by omega, ?_⟩)
  rw [Int.toNat_natCast]
  refine loop_rg0 (fun k ρ M2 => (∃ a : Option DL.D, ρ = [some (lsD ls), some (.lst ((lsC ls).map prD)), none, some (.lst ((restsL (lsC ls)).map prD)), some (.lst (ls.map fun l => .str l.p.shown)), some (.tup ((restsL (lsC ls)).map frP)), a, none, none, none]) ∧ M2 = M) ?_ ?_ ⟨⟨_, rfl⟩, rfl⟩
  · rintro k ρ M2 hk ⟨⟨a, rfl⟩, rfl⟩ Nx hN
    have hg : (restsL (lsC ls))[k]? = some (restsL (lsC ls))[k] := List.getElem?_eq_getElem hk
    obtain ⟨ro, n1, n2⟩ := hr _ (List.mem_of_getElem? hg)
    generalize (restsL (lsC ls))[k] = r at *
    have m1 := lo_nb1 (t := r.1) ro.1 n1
    have m2 := lo_nb2 (t := r.1) ro.1 n2
    (try dsimp only [q_op, q_un, q_var, q_c, q_nil, q_cons, q_tup, q_frz, q_cel, q_lst, q_test, q_onB, q_and, q_or, q_not, q_andV, q_orV, q_notV, q_if, q_chain, q_next, q_seq, q_drop, q_ret, q_retF, q_retN, q_sif, q_break, q_cont, q_name, q_dnil, q_dcons, q_dtup, q_asg, q_set, q_par, q_for, q_range1, q_range2, q_iseq, q_ienum, q_call, q_cb, q_ncb, q_nop, q_lenset, q_mt, q_mt0, q_setix, q_augs, q_aug, q_nsl, q_onone, q_osome, q_gsl, q_raise, q_raiseF, q_try, q_lc, q_lc2, q_yes, q_wipe0, q_wipe, q_xf, q_I, q_I0, q_U, q_add, q_addT, q_addL, q_addR, q_onL, q_onSt, q_onSl, q_onSs, q_onSrct, q_onSrcl, q_eqI, q_eqB, q_eqS, q_eqN, q_isN, q_ix, q_ixL, q_in, q_len, q_sum, q_max, q_min, q_max2, q_min2, q_abs, q_int, q_intB, q_tupof, q_lstof, q_sort, q_rep, q_cat, q_isi, q_isis, q_setat, q_onC, q_append, q_pop, q_popAt, q_reverse, q_insert, q_sp1, q_sp2, q_sp3, q_sp4, q_at0, q_atS, q_st0, q_stS, q_iteT, q_iteF, q_isB, q_sumS, q_all, q_any, q_repT, q_spV, q_nLcX, q_sFz, q_gFld, q_sFldD, q_gMake, q_gCallI, q_gMeth, q_iOwnF, q_isO, q_gIxI, q_lenO, q_modN, q_divmod, q_gSMeth, q_dtupA, q_dtupAL, q_gRevD, q_revT, q_revL, q_gCallKw, q_eqO, q_gCallVS, q_gOpO, q_gUnO, q_gCMeth, q_gMakeV, q_gSlot, q_gMakeS, q_sSlot, q_gMethS, q_isS, q_lc3, q_tru, q_onTl, q_onTt, q_onTb, q_onTi, q_onTn, q_lstRev, q_lstRg2, q_lstRg1, q_prop, q_inO, q_gOpL, q_neO, q_gOpN, q_lstZip, q_repr, q_isXT])
    refine ⟨_, frs_at hg, ?_⟩
    dsimp only [q_op, q_un, q_var, q_c, q_nil, q_cons, q_tup, q_frz, q_cel, q_lst, q_test, q_onB, q_and, q_or, q_not, q_andV, q_orV, q_notV, q_if, q_chain, q_next, q_seq, q_drop, q_ret, q_retF, q_retN, q_sif, q_break, q_cont, q_name, q_dnil, q_dcons, q_dtup, q_asg, q_set, q_par, q_for, q_range1, q_range2, q_iseq, q_ienum, q_call, q_cb, q_ncb, q_nop, q_lenset, q_mt, q_mt0, q_setix, q_augs, q_aug, q_nsl, q_onone, q_osome, q_gsl, q_raise, q_raiseF, q_try, q_lc, q_lc2, q_yes, q_wipe0, q_wipe, q_xf, q_I, q_I0, q_U, q_add, q_addT, q_addL, q_addR, q_onL, q_onSt, q_onSl, q_onSs, q_onSrct, q_onSrcl, q_eqI, q_eqB, q_eqS, q_eqN, q_isN, q_ix, q_ixL, q_in, q_len, q_sum, q_max, q_min, q_max2, q_min2, q_abs, q_int, q_intB, q_tupof, q_lstof, q_sort, q_rep, q_cat, q_isi, q_isis, q_setat, q_onC, q_append, q_pop, q_popAt, q_reverse, q_insert, q_sp1, q_sp2, q_sp3, q_sp4, q_at0, q_atS, q_st0, q_stS, q_iteT, q_iteF, q_isB, q_sumS, q_all, q_any, q_repT, q_spV, q_nLcX, q_sFz, q_gFld, q_sFldD, q_gMake, q_gCallI, q_gMeth, q_iOwnF, q_isO, q_gIxI, q_lenO, q_modN, q_divmod, q_gSMeth, q_dtupA, q_dtupAL, q_gRevD, q_revT, q_revL, q_gCallKw, q_eqO, q_gCallVS, q_gOpO, q_gUnO, q_gCMeth, q_gMakeV, q_gSlot, q_gMakeS, q_sSlot, q_gMethS, q_isS, q_lc3, q_tru, q_onTl, q_onTt, q_onTb, q_onTi, q_onTn, q_lstRev, q_lstRg2, q_lstRg1, q_prop, q_inO, q_gOpL, q_neO, q_gOpN, q_lstZip, q_repr, q_isXT, sp__law_is_fraction, sp__law_same_worth, sp__law_at_most]
    refine ⟨r.1, r.2, rfl, ro.1, nb_mono n2 (by omega), ?_⟩
    (try dsimp only [q_op, q_un, q_var, q_c, q_nil, q_cons, q_tup, q_frz, q_cel, q_lst, q_test, q_onB, q_and, q_or, q_not, q_andV, q_orV, q_notV, q_if, q_chain, q_next, q_seq, q_drop, q_ret, q_retF, q_retN, q_sif, q_break, q_cont, q_name, q_dnil, q_dcons, q_dtup, q_asg, q_set, q_par, q_for, q_range1, q_range2, q_iseq, q_ienum, q_call, q_cb, q_ncb, q_nop, q_lenset, q_mt, q_mt0, q_setix, q_augs, q_aug, q_nsl, q_onone, q_osome, q_gsl, q_raise, q_raiseF, q_try, q_lc, q_lc2, q_yes, q_wipe0, q_wipe, q_xf, q_I, q_I0, q_U, q_add, q_addT, q_addL, q_addR, q_onL, q_onSt, q_onSl, q_onSs, q_onSrct, q_onSrcl, q_eqI, q_eqB, q_eqS, q_eqN, q_isN, q_ix, q_ixL, q_in, q_len, q_sum, q_max, q_min, q_max2, q_min2, q_abs, q_int, q_intB, q_tupof, q_lstof, q_sort, q_rep, q_cat, q_isi, q_isis, q_setat, q_onC, q_append, q_pop, q_popAt, q_reverse, q_insert, q_sp1, q_sp2, q_sp3, q_sp4, q_at0, q_atS, q_st0, q_stS, q_iteT, q_iteF, q_isB, q_sumS, q_all, q_any, q_repT, q_spV, q_nLcX, q_sFz, q_gFld, q_sFldD, q_gMake, q_gCallI, q_gMeth, q_iOwnF, q_isO, q_gIxI, q_lenO, q_modN, q_divmod, q_gSMeth, q_dtupA, q_dtupAL, q_gRevD, q_revT, q_revL, q_gCallKw, q_eqO, q_gCallVS, q_gOpO, q_gUnO, q_gCMeth, q_gMakeV, q_gSlot, q_gMakeS, q_sSlot, q_gMethS, q_isS, q_lc3, q_tru, q_onTl, q_onTt, q_onTb, q_onTi, q_onTn, q_lstRev, q_lstRg2, q_lstRg1, q_prop, q_inO, q_gOpL, q_neO, q_gOpN, q_lstZip, q_repr, q_isXT])
    refine if_f rfl ⟨_, frs_at hg, _, prs_at hg, _, _, _, _, rfl, rfl, nb_mono m1 (by omega), nb_mono m2 (by omega), nb_mono n1 (by omega), nb_mono n2 (by omega), ?_⟩
    rw [decide_eq_true (lo_cross r.1 r.2)]
    (try dsimp only [q_op, q_un, q_var, q_c, q_nil, q_cons, q_tup, q_frz, q_cel, q_lst, q_test, q_onB, q_and, q_or, q_not, q_andV, q_orV, q_notV, q_if, q_chain, q_next, q_seq, q_drop, q_ret, q_retF, q_retN, q_sif, q_break, q_cont, q_name, q_dnil, q_dcons, q_dtup, q_asg, q_set, q_par, q_for, q_range1, q_range2, q_iseq, q_ienum, q_call, q_cb, q_ncb, q_nop, q_lenset, q_mt, q_mt0, q_setix, q_augs, q_aug, q_nsl, q_onone, q_osome, q_gsl, q_raise, q_raiseF, q_try, q_lc, q_lc2, q_yes, q_wipe0, q_wipe, q_xf, q_I, q_I0, q_U, q_add, q_addT, q_addL, q_addR, q_onL, q_onSt, q_onSl, q_onSs, q_onSrct, q_onSrcl, q_eqI, q_eqB, q_eqS, q_eqN, q_isN, q_ix, q_ixL, q_in, q_len, q_sum, q_max, q_min, q_max2, q_min2, q_abs, q_int, q_intB, q_tupof, q_lstof, q_sort, q_rep, q_cat, q_isi, q_isis, q_setat, q_onC, q_append, q_pop, q_popAt, q_reverse, q_insert, q_sp1, q_sp2, q_sp3, q_sp4, q_at0, q_atS, q_st0, q_stS, q_iteT, q_iteF, q_isB, q_sumS, q_all, q_any, q_repT, q_spV, q_nLcX, q_sFz, q_gFld, q_sFldD, q_gMake, q_gCallI, q_gMeth, q_iOwnF, q_isO, q_gIxI, q_lenO, q_modN, q_divmod, q_gSMeth, q_dtupA, q_dtupAL, q_gRevD, q_revT, q_revL, q_gCallKw, q_eqO, q_gCallVS, q_gOpO, q_gUnO, q_gCMeth, q_gMakeV, q_gSlot, q_gMakeS, q_sSlot, q_gMethS, q_isS, q_lc3, q_tru, q_onTl, q_onTt, q_onTb, q_onTi, q_onTn, q_lstRev, q_lstRg2, q_lstRg1, q_prop, q_inO, q_gOpL, q_neO, q_gOpN, q_lstZip, q_repr, q_isXT])
    refine if_f rfl ⟨_, frs_at hg, lsz (by simp), _, _, _, _, rfl, rfl, nb_mono m1 (by omega), nb_mono m2 (by omega), nb_one (by omega), nb_one (by omega), ?_⟩
    have := LW.lo_le ro.1 ro.2
    rw [decide_eq_true (show (LW.lo r.1 r.2).1 * 1 ≤ 1 * (LW.lo r.1 r.2).2 by omega)]
    (try dsimp only [q_op, q_un, q_var, q_c, q_nil, q_cons, q_tup, q_frz, q_cel, q_lst, q_test, q_onB, q_and, q_or, q_not, q_andV, q_orV, q_notV, q_if, q_chain, q_next, q_seq, q_drop, q_ret, q_retF, q_retN, q_sif, q_break, q_cont, q_name, q_dnil, q_dcons, q_dtup, q_asg, q_set, q_par, q_for, q_range1, q_range2, q_iseq, q_ienum, q_call, q_cb, q_ncb, q_nop, q_lenset, q_mt, q_mt0, q_setix, q_augs, q_aug, q_nsl, q_onone, q_osome, q_gsl, q_raise, q_raiseF, q_try, q_lc, q_lc2, q_yes, q_wipe0, q_wipe, q_xf, q_I, q_I0, q_U, q_add, q_addT, q_addL, q_addR, q_onL, q_onSt, q_onSl, q_onSs, q_onSrct, q_onSrcl, q_eqI, q_eqB, q_eqS, q_eqN, q_isN, q_ix, q_ixL, q_in, q_len, q_sum, q_max, q_min, q_max2, q_min2, q_abs, q_int, q_intB, q_tupof, q_lstof, q_sort, q_rep, q_cat, q_isi, q_isis, q_setat, q_onC, q_append, q_pop, q_popAt, q_reverse, q_insert, q_sp1, q_sp2, q_sp3, q_sp4, q_at0, q_atS, q_st0, q_stS, q_iteT, q_iteF, q_isB, q_sumS, q_all, q_any, q_repT, q_spV, q_nLcX, q_sFz, q_gFld, q_sFldD, q_gMake, q_gCallI, q_gMeth, q_iOwnF, q_isO, q_gIxI, q_lenO, q_modN, q_divmod, q_gSMeth, q_dtupA, q_dtupAL, q_gRevD, q_revT, q_revL, q_gCallKw, q_eqO, q_gCallVS, q_gOpO, q_gUnO, q_gCMeth, q_gMakeV, q_gSlot, q_gMakeS, q_sSlot, q_gMethS, q_isS, q_lc3, q_tru, q_onTl, q_onTt, q_onTb, q_onTi, q_onTn, q_lstRev, q_lstRg2, q_lstRg1, q_prop, q_inO, q_gOpL, q_neO, q_gOpN, q_lstZip, q_repr, q_isXT])
    exact if_f rfl (hN _ _ ⟨⟨_, rfl⟩, rfl⟩)
  · rintro ρ M2 ⟨⟨a, rfl⟩, rfl⟩
    have la := rests_last (lsC ls) (1, 1)
    obtain ⟨n, en⟩ : ∃ n, (restsL (lsC ls)).length = n + 1 := ⟨(restsL (lsC ls)).length - 1, by unfold restsL; omega⟩
    have la : (restsL (lsC ls))[n]? = some (finL (lsC ls)) := by
      have e : (restsF (lsC ls) (1, 1)).length - 1 = n := by show (restsL (lsC ls)).length - 1 = n; omega
      rw [e] at la
      exact la
    obtain ⟨ro, n1, n2⟩ := hr _ (List.mem_of_getElem? la)
    dsimp only [q_op, q_un, q_var, q_c, q_nil, q_cons, q_tup, q_frz, q_cel, q_lst, q_test, q_onB, q_and, q_or, q_not, q_andV, q_orV, q_notV, q_if, q_chain, q_next, q_seq, q_drop, q_ret, q_retF, q_retN, q_sif, q_break, q_cont, q_name, q_dnil, q_dcons, q_dtup, q_asg, q_set, q_par, q_for, q_range1, q_range2, q_iseq, q_ienum, q_call, q_cb, q_ncb, q_nop, q_lenset, q_mt, q_mt0, q_setix, q_augs, q_aug, q_nsl, q_onone, q_osome, q_gsl, q_raise, q_raiseF, q_try, q_lc, q_lc2, q_yes, q_wipe0, q_wipe, q_xf, q_I, q_I0, q_U, q_add, q_addT, q_addL, q_addR, q_onL, q_onSt, q_onSl, q_onSs, q_onSrct, q_onSrcl, q_eqI, q_eqB, q_eqS, q_eqN, q_isN, q_ix, q_ixL, q_in, q_len, q_sum, q_max, q_min, q_max2, q_min2, q_abs, q_int, q_intB, q_tupof, q_lstof, q_sort, q_rep, q_cat, q_isi, q_isis, q_setat, q_onC, q_append, q_pop, q_popAt, q_reverse, q_insert, q_sp1, q_sp2, q_sp3, q_sp4, q_at0, q_atS, q_st0, q_stS, q_iteT, q_iteF, q_isB, q_sumS, q_all, q_any, q_repT, q_spV, q_nLcX, q_sFz, q_gFld, q_sFldD, q_gMake, q_gCallI, q_gMeth, q_iOwnF, q_isO, q_gIxI, q_lenO, q_modN, q_divmod, q_gSMeth, q_dtupA, q_dtupAL, q_gRevD, q_revT, q_revL, q_gCallKw, q_eqO, q_gCallVS, q_gOpO, q_gUnO, q_gCMeth, q_gMakeV, q_gSlot, q_gMakeS, q_sSlot, q_gMethS, q_isS, q_lc3, q_tru, q_onTl, q_onTt, q_onTb, q_onTi, q_onTn, q_lstRev, q_lstRg2, q_lstRg1, q_prop, q_inO, q_gOpL, q_neO, q_gOpN, q_lstZip, q_repr, q_isXT, sp_closes_at, sp_rest_of]
    rw [List.length_map, en, show ((n + 1 : Nat) : Int) - 1 = ((n : Nat) : Int) by omega]
    refine ⟨_, frs_at la, lossC_ls RowD.lst (by omega) lo (lossC_ls RowD.tup (by omega) lo (RowD.onS RowD.tup ⟨_, rfl, ?_⟩))⟩
    (try dsimp only [q_op, q_un, q_var, q_c, q_nil, q_cons, q_tup, q_frz, q_cel, q_lst, q_test, q_onB, q_and, q_or, q_not, q_andV, q_orV, q_notV, q_if, q_chain, q_next, q_seq, q_drop, q_ret, q_retF, q_retN, q_sif, q_break, q_cont, q_name, q_dnil, q_dcons, q_dtup, q_asg, q_set, q_par, q_for, q_range1, q_range2, q_iseq, q_ienum, q_call, q_cb, q_ncb, q_nop, q_lenset, q_mt, q_mt0, q_setix, q_augs, q_aug, q_nsl, q_onone, q_osome, q_gsl, q_raise, q_raiseF, q_try, q_lc, q_lc2, q_yes, q_wipe0, q_wipe, q_xf, q_I, q_I0, q_U, q_add, q_addT, q_addL, q_addR, q_onL, q_onSt, q_onSl, q_onSs, q_onSrct, q_onSrcl, q_eqI, q_eqB, q_eqS, q_eqN, q_isN, q_ix, q_ixL, q_in, q_len, q_sum, q_max, q_min, q_max2, q_min2, q_abs, q_int, q_intB, q_tupof, q_lstof, q_sort, q_rep, q_cat, q_isi, q_isis, q_setat, q_onC, q_append, q_pop, q_popAt, q_reverse, q_insert, q_sp1, q_sp2, q_sp3, q_sp4, q_at0, q_atS, q_st0, q_stS, q_iteT, q_iteF, q_isB, q_sumS, q_all, q_any, q_repT, q_spV, q_nLcX, q_sFz, q_gFld, q_sFldD, q_gMake, q_gCallI, q_gMeth, q_iOwnF, q_isO, q_gIxI, q_lenO, q_modN, q_divmod, q_gSMeth, q_dtupA, q_dtupAL, q_gRevD, q_revT, q_revL, q_gCallKw, q_eqO, q_gCallVS, q_gOpO, q_gUnO, q_gCMeth, q_gMakeV, q_gSlot, q_gMakeS, q_sSlot, q_gMethS, q_isS, q_lc3, q_tru, q_onTl, q_onTt, q_onTb, q_onTi, q_onTn, q_lstRev, q_lstRg2, q_lstRg1, q_prop, q_inO, q_gOpL, q_neO, q_gOpN, q_lstZip, q_repr, q_isXT])
    dsimp only [q_op, q_un, q_var, q_c, q_nil, q_cons, q_tup, q_frz, q_cel, q_lst, q_test, q_onB, q_and, q_or, q_not, q_andV, q_orV, q_notV, q_if, q_chain, q_next, q_seq, q_drop, q_ret, q_retF, q_retN, q_sif, q_break, q_cont, q_name, q_dnil, q_dcons, q_dtup, q_asg, q_set, q_par, q_for, q_range1, q_range2, q_iseq, q_ienum, q_call, q_cb, q_ncb, q_nop, q_lenset, q_mt, q_mt0, q_setix, q_augs, q_aug, q_nsl, q_onone, q_osome, q_gsl, q_raise, q_raiseF, q_try, q_lc, q_lc2, q_yes, q_wipe0, q_wipe, q_xf, q_I, q_I0, q_U, q_add, q_addT, q_addL, q_addR, q_onL, q_onSt, q_onSl, q_onSs, q_onSrct, q_onSrcl, q_eqI, q_eqB, q_eqS, q_eqN, q_isN, q_ix, q_ixL, q_in, q_len, q_sum, q_max, q_min, q_max2, q_min2, q_abs, q_int, q_intB, q_tupof, q_lstof, q_sort, q_rep, q_cat, q_isi, q_isis, q_setat, q_onC, q_append, q_pop, q_popAt, q_reverse, q_insert, q_sp1, q_sp2, q_sp3, q_sp4, q_at0, q_atS, q_st0, q_stS, q_iteT, q_iteF, q_isB, q_sumS, q_all, q_any, q_repT, q_spV, q_nLcX, q_sFz, q_gFld, q_sFldD, q_gMake, q_gCallI, q_gMeth, q_iOwnF, q_isO, q_gIxI, q_lenO, q_modN, q_divmod, q_gSMeth, q_dtupA, q_dtupAL, q_gRevD, q_revT, q_revL, q_gCallKw, q_eqO, q_gCallVS, q_gOpO, q_gUnO, q_gCMeth, q_gMakeV, q_gSlot, q_gMakeS, q_sSlot, q_gMethS, q_isS, q_lc3, q_tru, q_onTl, q_onTt, q_onTb, q_onTi, q_onTn, q_lstRev, q_lstRg2, q_lstRg1, q_prop, q_inO, q_gOpL, q_neO, q_gOpN, q_lstZip, q_repr, q_isXT, sp__law_int]
    by_cases c : (finL (lsC ls)).1 ≤ 0
    · refine if_t (decide_eq_true ((frP_sign ro.1).mpr c)) ?_
      have e1 : rofD (lsC ls) = .non := if_pos c
      rw [cloD_some c, e1, en, List.length_map, en]
      refine ⟨.int, rfl, ?_⟩
      (try dsimp only [q_op, q_un, q_var, q_c, q_nil, q_cons, q_tup, q_frz, q_cel, q_lst, q_test, q_onB, q_and, q_or, q_not, q_andV, q_orV, q_notV, q_if, q_chain, q_next, q_seq, q_drop, q_ret, q_retF, q_retN, q_sif, q_break, q_cont, q_name, q_dnil, q_dcons, q_dtup, q_asg, q_set, q_par, q_for, q_range1, q_range2, q_iseq, q_ienum, q_call, q_cb, q_ncb, q_nop, q_lenset, q_mt, q_mt0, q_setix, q_augs, q_aug, q_nsl, q_onone, q_osome, q_gsl, q_raise, q_raiseF, q_try, q_lc, q_lc2, q_yes, q_wipe0, q_wipe, q_xf, q_I, q_I0, q_U, q_add, q_addT, q_addL, q_addR, q_onL, q_onSt, q_onSl, q_onSs, q_onSrct, q_onSrcl, q_eqI, q_eqB, q_eqS, q_eqN, q_isN, q_ix, q_ixL, q_in, q_len, q_sum, q_max, q_min, q_max2, q_min2, q_abs, q_int, q_intB, q_tupof, q_lstof, q_sort, q_rep, q_cat, q_isi, q_isis, q_setat, q_onC, q_append, q_pop, q_popAt, q_reverse, q_insert, q_sp1, q_sp2, q_sp3, q_sp4, q_at0, q_atS, q_st0, q_stS, q_iteT, q_iteF, q_isB, q_sumS, q_all, q_any, q_repT, q_spV, q_nLcX, q_sFz, q_gFld, q_sFldD, q_gMake, q_gCallI, q_gMeth, q_iOwnF, q_isO, q_gIxI, q_lenO, q_modN, q_divmod, q_gSMeth, q_dtupA, q_dtupAL, q_gRevD, q_revT, q_revL, q_gCallKw, q_eqO, q_gCallVS, q_gOpO, q_gUnO, q_gCMeth, q_gMakeV, q_gSlot, q_gMakeS, q_sSlot, q_gMethS, q_isS, q_lc3, q_tru, q_onTl, q_onTt, q_onTb, q_onTi, q_onTn, q_lstRev, q_lstRg2, q_lstRg1, q_prop, q_inO, q_gOpL, q_neO, q_gOpN, q_lstZip, q_repr, q_isXT])
      refine if_f rfl (if_f (by simp) (if_f rfl ?_))
      refine lc_repr l16 lo (eq_self rfl (pl_strs lo) ?_)
      (try dsimp only [q_op, q_un, q_var, q_c, q_nil, q_cons, q_tup, q_frz, q_cel, q_lst, q_test, q_onB, q_and, q_or, q_not, q_andV, q_orV, q_notV, q_if, q_chain, q_next, q_seq, q_drop, q_ret, q_retF, q_retN, q_sif, q_break, q_cont, q_name, q_dnil, q_dcons, q_dtup, q_asg, q_set, q_par, q_for, q_range1, q_range2, q_iseq, q_ienum, q_call, q_cb, q_ncb, q_nop, q_lenset, q_mt, q_mt0, q_setix, q_augs, q_aug, q_nsl, q_onone, q_osome, q_gsl, q_raise, q_raiseF, q_try, q_lc, q_lc2, q_yes, q_wipe0, q_wipe, q_xf, q_I, q_I0, q_U, q_add, q_addT, q_addL, q_addR, q_onL, q_onSt, q_onSl, q_onSs, q_onSrct, q_onSrcl, q_eqI, q_eqB, q_eqS, q_eqN, q_isN, q_ix, q_ixL, q_in, q_len, q_sum, q_max, q_min, q_max2, q_min2, q_abs, q_int, q_intB, q_tupof, q_lstof, q_sort, q_rep, q_cat, q_isi, q_isis, q_setat, q_onC, q_append, q_pop, q_popAt, q_reverse, q_insert, q_sp1, q_sp2, q_sp3, q_sp4, q_at0, q_atS, q_st0, q_stS, q_iteT, q_iteF, q_isB, q_sumS, q_all, q_any, q_repT, q_spV, q_nLcX, q_sFz, q_gFld, q_sFldD, q_gMake, q_gCallI, q_gMeth, q_iOwnF, q_isO, q_gIxI, q_lenO, q_modN, q_divmod, q_gSMeth, q_dtupA, q_dtupAL, q_gRevD, q_revT, q_revL, q_gCallKw, q_eqO, q_gCallVS, q_gOpO, q_gUnO, q_gCMeth, q_gMakeV, q_gSlot, q_gMakeS, q_sSlot, q_gMethS, q_isS, q_lc3, q_tru, q_onTl, q_onTt, q_onTb, q_onTi, q_onTn, q_lstRev, q_lstRg2, q_lstRg1, q_prop, q_inO, q_gOpL, q_neO, q_gOpN, q_lstZip, q_repr, q_isXT])
      exact if_t rfl (lossC_ls RowD.tup (by omega) lo (eq_self rfl (pl_frs _) q))
    · refine if_f (decide_eq_false fun z => c ((frP_sign ro.1).mp z)) ?_
      have e1 : rofD (lsC ls) = frP (finL (lsC ls)) := if_neg c
      have e3 := ll.2.2 (by show 0 < (finL (lsC ls)).1; omega)
      have e3 : (restsL (lsC ls)).length = (lsC ls).length + 1 := e3
      rw [cloD_none (by omega), e1]
      refine if_f rfl ?_
      (try dsimp only [q_op, q_un, q_var, q_c, q_nil, q_cons, q_tup, q_frz, q_cel, q_lst, q_test, q_onB, q_and, q_or, q_not, q_andV, q_orV, q_notV, q_if, q_chain, q_next, q_seq, q_drop, q_ret, q_retF, q_retN, q_sif, q_break, q_cont, q_name, q_dnil, q_dcons, q_dtup, q_asg, q_set, q_par, q_for, q_range1, q_range2, q_iseq, q_ienum, q_call, q_cb, q_ncb, q_nop, q_lenset, q_mt, q_mt0, q_setix, q_augs, q_aug, q_nsl, q_onone, q_osome, q_gsl, q_raise, q_raiseF, q_try, q_lc, q_lc2, q_yes, q_wipe0, q_wipe, q_xf, q_I, q_I0, q_U, q_add, q_addT, q_addL, q_addR, q_onL, q_onSt, q_onSl, q_onSs, q_onSrct, q_onSrcl, q_eqI, q_eqB, q_eqS, q_eqN, q_isN, q_ix, q_ixL, q_in, q_len, q_sum, q_max, q_min, q_max2, q_min2, q_abs, q_int, q_intB, q_tupof, q_lstof, q_sort, q_rep, q_cat, q_isi, q_isis, q_setat, q_onC, q_append, q_pop, q_popAt, q_reverse, q_insert, q_sp1, q_sp2, q_sp3, q_sp4, q_at0, q_atS, q_st0, q_stS, q_iteT, q_iteF, q_isB, q_sumS, q_all, q_any, q_repT, q_spV, q_nLcX, q_sFz, q_gFld, q_sFldD, q_gMake, q_gCallI, q_gMeth, q_iOwnF, q_isO, q_gIxI, q_lenO, q_modN, q_divmod, q_gSMeth, q_dtupA, q_dtupAL, q_gRevD, q_revT, q_revL, q_gCallKw, q_eqO, q_gCallVS, q_gOpO, q_gUnO, q_gCMeth, q_gMakeV, q_gSlot, q_gMakeS, q_sSlot, q_gMethS, q_isS, q_lc3, q_tru, q_onTl, q_onTt, q_onTb, q_onTi, q_onTn, q_lstRev, q_lstRg2, q_lstRg1, q_prop, q_inO, q_gOpL, q_neO, q_gOpN, q_lstZip, q_repr, q_isXT])
      rw [List.length_map, List.length_map, e3]
      refine if_f (by simp) ?_
      dsimp only [q_op, q_un, q_var, q_c, q_nil, q_cons, q_tup, q_frz, q_cel, q_lst, q_test, q_onB, q_and, q_or, q_not, q_andV, q_orV, q_notV, q_if, q_chain, q_next, q_seq, q_drop, q_ret, q_retF, q_retN, q_sif, q_break, q_cont, q_name, q_dnil, q_dcons, q_dtup, q_asg, q_set, q_par, q_for, q_range1, q_range2, q_iseq, q_ienum, q_call, q_cb, q_ncb, q_nop, q_lenset, q_mt, q_mt0, q_setix, q_augs, q_aug, q_nsl, q_onone, q_osome, q_gsl, q_raise, q_raiseF, q_try, q_lc, q_lc2, q_yes, q_wipe0, q_wipe, q_xf, q_I, q_I0, q_U, q_add, q_addT, q_addL, q_addR, q_onL, q_onSt, q_onSl, q_onSs, q_onSrct, q_onSrcl, q_eqI, q_eqB, q_eqS, q_eqN, q_isN, q_ix, q_ixL, q_in, q_len, q_sum, q_max, q_min, q_max2, q_min2, q_abs, q_int, q_intB, q_tupof, q_lstof, q_sort, q_rep, q_cat, q_isi, q_isis, q_setat, q_onC, q_append, q_pop, q_popAt, q_reverse, q_insert, q_sp1, q_sp2, q_sp3, q_sp4, q_at0, q_atS, q_st0, q_stS, q_iteT, q_iteF, q_isB, q_sumS, q_all, q_any, q_repT, q_spV, q_nLcX, q_sFz, q_gFld, q_sFldD, q_gMake, q_gCallI, q_gMeth, q_iOwnF, q_isO, q_gIxI, q_lenO, q_modN, q_divmod, q_gSMeth, q_dtupA, q_dtupAL, q_gRevD, q_revT, q_revL, q_gCallKw, q_eqO, q_gCallVS, q_gOpO, q_gUnO, q_gCMeth, q_gMakeV, q_gSlot, q_gMakeS, q_sSlot, q_gMethS, q_isS, q_lc3, q_tru, q_onTl, q_onTt, q_onTb, q_onTi, q_onTn, q_lstRev, q_lstRg2, q_lstRg1, q_prop, q_inO, q_gOpL, q_neO, q_gOpN, q_lstZip, q_repr, q_isXT, sp__law_is_fraction, sp__law_same_worth]
      refine ⟨(finL (lsC ls)).1, (finL (lsC ls)).2, rfl, ro.1, nb_mono n2 (by omega), ?_⟩
      (try dsimp only [q_op, q_un, q_var, q_c, q_nil, q_cons, q_tup, q_frz, q_cel, q_lst, q_test, q_onB, q_and, q_or, q_not, q_andV, q_orV, q_notV, q_if, q_chain, q_next, q_seq, q_drop, q_ret, q_retF, q_retN, q_sif, q_break, q_cont, q_name, q_dnil, q_dcons, q_dtup, q_asg, q_set, q_par, q_for, q_range1, q_range2, q_iseq, q_ienum, q_call, q_cb, q_ncb, q_nop, q_lenset, q_mt, q_mt0, q_setix, q_augs, q_aug, q_nsl, q_onone, q_osome, q_gsl, q_raise, q_raiseF, q_try, q_lc, q_lc2, q_yes, q_wipe0, q_wipe, q_xf, q_I, q_I0, q_U, q_add, q_addT, q_addL, q_addR, q_onL, q_onSt, q_onSl, q_onSs, q_onSrct, q_onSrcl, q_eqI, q_eqB, q_eqS, q_eqN, q_isN, q_ix, q_ixL, q_in, q_len, q_sum, q_max, q_min, q_max2, q_min2, q_abs, q_int, q_intB, q_tupof, q_lstof, q_sort, q_rep, q_cat, q_isi, q_isis, q_setat, q_onC, q_append, q_pop, q_popAt, q_reverse, q_insert, q_sp1, q_sp2, q_sp3, q_sp4, q_at0, q_atS, q_st0, q_stS, q_iteT, q_iteF, q_isB, q_sumS, q_all, q_any, q_repT, q_spV, q_nLcX, q_sFz, q_gFld, q_sFldD, q_gMake, q_gCallI, q_gMeth, q_iOwnF, q_isO, q_gIxI, q_lenO, q_modN, q_divmod, q_gSMeth, q_dtupA, q_dtupAL, q_gRevD, q_revT, q_revL, q_gCallKw, q_eqO, q_gCallVS, q_gOpO, q_gUnO, q_gCMeth, q_gMakeV, q_gSlot, q_gMakeS, q_sSlot, q_gMethS, q_isS, q_lc3, q_tru, q_onTl, q_onTt, q_onTb, q_onTi, q_onTn, q_lstRev, q_lstRg2, q_lstRg1, q_prop, q_inO, q_gOpL, q_neO, q_gOpN, q_lstZip, q_repr, q_isXT])
      have m1 := lo_nb1 (t := (finL (lsC ls)).1) ro.1 n1
      have m2 := lo_nb2 (t := (finL (lsC ls)).1) ro.1 n2
      refine if_f rfl ⟨_, _, _, _, rfl, rfl, nb_mono m1 (by omega), nb_mono m2 (by omega), nb_mono m1 (by omega), nb_mono m2 (by omega), ?_⟩
      rw [decide_eq_true rfl]
      (try dsimp only [q_op, q_un, q_var, q_c, q_nil, q_cons, q_tup, q_frz, q_cel, q_lst, q_test, q_onB, q_and, q_or, q_not, q_andV, q_orV, q_notV, q_if, q_chain, q_next, q_seq, q_drop, q_ret, q_retF, q_retN, q_sif, q_break, q_cont, q_name, q_dnil, q_dcons, q_dtup, q_asg, q_set, q_par, q_for, q_range1, q_range2, q_iseq, q_ienum, q_call, q_cb, q_ncb, q_nop, q_lenset, q_mt, q_mt0, q_setix, q_augs, q_aug, q_nsl, q_onone, q_osome, q_gsl, q_raise, q_raiseF, q_try, q_lc, q_lc2, q_yes, q_wipe0, q_wipe, q_xf, q_I, q_I0, q_U, q_add, q_addT, q_addL, q_addR, q_onL, q_onSt, q_onSl, q_onSs, q_onSrct, q_onSrcl, q_eqI, q_eqB, q_eqS, q_eqN, q_isN, q_ix, q_ixL, q_in, q_len, q_sum, q_max, q_min, q_max2, q_min2, q_abs, q_int, q_intB, q_tupof, q_lstof, q_sort, q_rep, q_cat, q_isi, q_isis, q_setat, q_onC, q_append, q_pop, q_popAt, q_reverse, q_insert, q_sp1, q_sp2, q_sp3, q_sp4, q_at0, q_atS, q_st0, q_stS, q_iteT, q_iteF, q_isB, q_sumS, q_all, q_any, q_repT, q_spV, q_nLcX, q_sFz, q_gFld, q_sFldD, q_gMake, q_gCallI, q_gMeth, q_iOwnF, q_isO, q_gIxI, q_lenO, q_modN, q_divmod, q_gSMeth, q_dtupA, q_dtupAL, q_gRevD, q_revT, q_revL, q_gCallKw, q_eqO, q_gCallVS, q_gOpO, q_gUnO, q_gCMeth, q_gMakeV, q_gSlot, q_gMakeS, q_sSlot, q_gMethS, q_isS, q_lc3, q_tru, q_onTl, q_onTt, q_onTb, q_onTi, q_onTn, q_lstRev, q_lstRg2, q_lstRg1, q_prop, q_inO, q_gOpL, q_neO, q_gOpN, q_lstZip, q_repr, q_isXT])
      refine if_f rfl ?_
      refine lc_repr l16 lo (eq_self rfl (pl_strs lo) ?_)
      (try dsimp only [q_op, q_un, q_var, q_c, q_nil, q_cons, q_tup, q_frz, q_cel, q_lst, q_test, q_onB, q_and, q_or, q_not, q_andV, q_orV, q_notV, q_if, q_chain, q_next, q_seq, q_drop, q_ret, q_retF, q_retN, q_sif, q_break, q_cont, q_name, q_dnil, q_dcons, q_dtup, q_asg, q_set, q_par, q_for, q_range1, q_range2, q_iseq, q_ienum, q_call, q_cb, q_ncb, q_nop, q_lenset, q_mt, q_mt0, q_setix, q_augs, q_aug, q_nsl, q_onone, q_osome, q_gsl, q_raise, q_raiseF, q_try, q_lc, q_lc2, q_yes, q_wipe0, q_wipe, q_xf, q_I, q_I0, q_U, q_add, q_addT, q_addL, q_addR, q_onL, q_onSt, q_onSl, q_onSs, q_onSrct, q_onSrcl, q_eqI, q_eqB, q_eqS, q_eqN, q_isN, q_ix, q_ixL, q_in, q_len, q_sum, q_max, q_min, q_max2, q_min2, q_abs, q_int, q_intB, q_tupof, q_lstof, q_sort, q_rep, q_cat, q_isi, q_isis, q_setat, q_onC, q_append, q_pop, q_popAt, q_reverse, q_insert, q_sp1, q_sp2, q_sp3, q_sp4, q_at0, q_atS, q_st0, q_stS, q_iteT, q_iteF, q_isB, q_sumS, q_all, q_any, q_repT, q_spV, q_nLcX, q_sFz, q_gFld, q_sFldD, q_gMake, q_gCallI, q_gMeth, q_iOwnF, q_isO, q_gIxI, q_lenO, q_modN, q_divmod, q_gSMeth, q_dtupA, q_dtupAL, q_gRevD, q_revT, q_revL, q_gCallKw, q_eqO, q_gCallVS, q_gOpO, q_gUnO, q_gCMeth, q_gMakeV, q_gSlot, q_gMakeS, q_sSlot, q_gMethS, q_isS, q_lc3, q_tru, q_onTl, q_onTt, q_onTb, q_onTi, q_onTn, q_lstRev, q_lstRg2, q_lstRg1, q_prop, q_inO, q_gOpL, q_neO, q_gOpN, q_lstZip, q_repr, q_isXT])
      exact if_t rfl (lossC_ls RowD.tup (by omega) lo (eq_self rfl (pl_frs _) q))
end
end LW

namespace LW
open PySem PySem.Spec PyProof.Rows L2 DL
theorem shut {cs : List PP} {r : PP} (h : r.1 ≤ 0) : finF cs r = r ∧ restsF cs r = [r] := by
  cases cs with
  | nil => exact ⟨rfl, rfl⟩
  | cons c cs => exact ⟨if_neg (by omega), if_neg (by omega)⟩
theorem clo_int : ∀ (cs : List PP) (bef now bot : Int) (i : Nat) (r : PP), (∀ c ∈ cs, ChOk c) → 0 < r.1 → 0 < r.2 → 0 < now → 0 < bot * bef → r.1 * (bot * bef) = now * r.2 →
    cloI cs bef now bot i = if (finF cs r).1 ≤ 0 then some (i + (restsF cs r).length - 1) else none
  | [], bef, now, bot, i, r, _, x, _, _, _, _ => (if_neg (by show ¬ r.1 ≤ 0; omega)).symm
  | c :: cs, bef, now, bot, i, r, hc, x, y, n, b, e => by
    have k := hc c (List.mem_cons_self ..)
    have k3 : 0 < c.2 := by have := k.2.2.1; omega
    have cn := Int.mul_pos k3 n
    have cx := Int.mul_pos k3 x
    have pr : (nxt c r).1 * (c.2 * now) = (c.2 * now - c.1 * bot * bef) * (nxt c r).2 := by
      unfold nxt
      dsimp only
      grind
    have f1 : finF (c :: cs) r = finF cs (nxt c r) := if_pos x
    have f2 : restsF (c :: cs) r = r :: restsF cs (nxt c r) := if_pos x
    rw [f1, f2]
    show (if c.2 * now - c.1 * bot * bef ≤ 0 then some (i + 1) else cloI cs now (c.2 * now - c.1 * bot * bef) c.2 (i + 1)) = _
    have n2 : (nxt c r).2 = c.2 * r.1 := rfl
    by_cases z : c.2 * now - c.1 * bot * bef ≤ 0
    · rw [if_pos z]
      have : (nxt c r).1 ≤ 0 := by
        rcases Int.lt_or_le 0 (nxt c r).1 with w | w
        · have h1 := Int.mul_pos w cn
          have h2 := Int.mul_nonpos_of_nonpos_of_nonneg z (Int.le_of_lt (by rw [n2]; exact cx : 0 < (nxt c r).2))
          omega
        · exact w
      obtain ⟨g1, g2⟩ := shut (cs := cs) this
      rw [g1, g2, if_pos this]
      rfl
    · rw [if_neg z]
      have z' : 0 < c.2 * now - c.1 * bot * bef := by omega
      have : 0 < (nxt c r).1 := by
        rcases Int.lt_or_le 0 (nxt c r).1 with w | w
        · exact w
        · have h1 := Int.mul_nonpos_of_nonpos_of_nonneg w (Int.le_of_lt cn)
          have h2 := Int.mul_pos z' (by rw [n2]; exact cx : 0 < (nxt c r).2)
          omega
      rw [clo_int cs now _ c.2 (i + 1) (nxt c r) (fun a h => hc a (List.mem_cons_of_mem _ h)) this (by rw [n2]; exact cx) z' cn pr]
      by_cases w : (finF cs (nxt c r)).1 ≤ 0
      · rw [if_pos w, if_pos w, List.length_cons]
        congr 1
        omega
      · rw [if_neg w, if_neg w]
theorem cloI_eq {cs : List PP} (hc : ∀ c ∈ cs, ChOk c) : cloI cs 1 1 1 0 = cloL cs := by
  have l := (rests_len cs (1, 1)).1
  rw [clo_int cs 1 1 1 0 (1, 1) hc (by decide) (by decide) (by decide) (by decide) (by decide)]
  unfold cloL finL restsL
  rw [Nat.zero_add]
theorem optD_eq {cs : List PP} (hc : ∀ c ∈ cs, ChOk c) : optD (cloI cs 1 1 1 0) = cloD cs := by
  rw [cloI_eq hc]
  rfl
theorem quarter : ∀ (k i : Nat) (r : PP), 0 < r.2 → r.1 * (2 * (i : Int) + 2) = r.2 * ((i : Int) + 2) → 0 < (finF (List.replicate k (1, 4)) r).1 ∧ (restsF (List.replicate k (1, 4)) r).length = k + 1 ∧
    ∀ j : Nat, j ≤ k → ∃ s, (restsF (List.replicate k (1, 4)) r)[j]? = some s ∧ s.1 * (2 * ((i + j : Nat) : Int) + 2) = s.2 * (((i + j : Nat) : Int) + 2)
  | 0, i, r, y, e => by
    have x : 0 < r.1 := by
      rcases Int.lt_or_le 0 r.1 with w | w
      · exact w
      · have h1 := Int.mul_nonpos_of_nonpos_of_nonneg w (show 0 ≤ 2 * (i : Int) + 2 by omega)
        have h2 := Int.mul_pos y (show 0 < (i : Int) + 2 by omega)
        omega
    refine ⟨x, rfl, fun j hj => ?_⟩
    obtain rfl : j = 0 := by omega
    exact ⟨r, rfl, e⟩
  | k + 1, i, r, y, e => by
    have x : 0 < r.1 := by
      rcases Int.lt_or_le 0 r.1 with w | w
      · exact w
      · have h1 := Int.mul_nonpos_of_nonpos_of_nonneg w (show 0 ≤ 2 * (i : Int) + 2 by omega)
        have h2 := Int.mul_pos y (show 0 < (i : Int) + 2 by omega)
        omega
    rw [List.replicate_succ]
    have f1 : finF ((1, 4) :: List.replicate k (1, 4)) r = finF (List.replicate k (1, 4)) (nxt (1, 4) r) := if_pos x
    have f2 : restsF ((1, 4) :: List.replicate k (1, 4)) r = r :: restsF (List.replicate k (1, 4)) (nxt (1, 4) r) := if_pos x
    rw [f1, f2]
    obtain ⟨i1, i2, i3⟩ := quarter k (i + 1) (nxt (1, 4) r) (by show 0 < 4 * r.1; omega) (by
      unfold nxt
      dsimp only
      rw [show ((i + 1 : Nat) : Int) = (i : Int) + 1 by omega]
      -- y (i + 2) = x (2 i + 2)
      have h1 : (i : Int) * r.2 + 2 * r.2 = 2 * (i * r.1) + 2 * r.1 := by grind
      have h2 : (4 * r.1 - 1 * r.2) * (2 * ((i : Int) + 1) + 2) = 8 * (i * r.1) + 16 * r.1 - 2 * (i * r.2 + 2 * r.2) := by grind
      have h3 : 4 * r.1 * ((i : Int) + 1 + 2) = 4 * (i * r.1) + 12 * r.1 := by grind
      omega)
    refine ⟨i1, by rw [List.length_cons, i2], fun j hj => ?_⟩
    cases j with
    | zero => exact ⟨r, rfl, e⟩
    | succ j =>
      obtain ⟨s, h1, h2⟩ := i3 j (by omega)
      refine ⟨s, h1, ?_⟩
      rw [show i + (j + 1) = i + 1 + j by omega]
      exact h2
section
variable {K : PySem.W.Frag} {mg : Str → Option Value}
theorem cloD_int {cs : List PP} {n : Nat} (h : cloL cs = some n) : cloD cs = .int (n : Nat) := by unfold cloD; rw [h]
theorem cloD_non {cs : List PP} (h : cloL cs = none) : cloD cs = .non := by unfold cloD; rw [h]
theorem b__law_longer : ∀ d0 d1 M Q E, sp__law_longer K [d0, d1] M Q E → g__law_longer K { nx := fun _ M => Q .non M, rt := Q, ex := fun x _ M => E x M } [some d0, some d1, none] M := by
  rintro d0 d1 M Q E ⟨ls, l, rfl, ⟨l16, lo⟩, rfl, ol, q⟩
  unfold g__law_longer
  dsimp only [q_op, q_un, q_var, q_c, q_nil, q_cons, q_tup, q_frz, q_cel, q_lst, q_test, q_onB, q_and, q_or, q_not, q_andV, q_orV, q_notV, q_if, q_chain, q_next, q_seq, q_drop, q_ret, q_retF, q_retN, q_sif, q_break, q_cont, q_name, q_dnil, q_dcons, q_dtup, q_asg, q_set, q_par, q_for, q_range1, q_range2, q_iseq, q_ienum, q_call, q_cb, q_ncb, q_nop, q_lenset, q_mt, q_mt0, q_setix, q_augs, q_aug, q_nsl, q_onone, q_osome, q_gsl, q_raise, q_raiseF, q_try, q_lc, q_lc2, q_yes, q_wipe0, q_wipe, q_xf, q_I, q_I0, q_U, q_add, q_addT, q_addL, q_addR, q_onL, q_onSt, q_onSl, q_onSs, q_onSrct, q_onSrcl, q_eqI, q_eqB, q_eqS, q_eqN, q_isN, q_ix, q_ixL, q_in, q_len, q_sum, q_max, q_min, q_max2, q_min2, q_abs, q_int, q_intB, q_tupof, q_lstof, q_sort, q_rep, q_cat, q_isi, q_isis, q_setat, q_onC, q_append, q_pop, q_popAt, q_reverse, q_insert, q_sp1, q_sp2, q_sp3, q_sp4, q_at0, q_atS, q_st0, q_stS, q_iteT, q_iteF, q_isB, q_sumS, q_all, q_any, q_repT, q_spV, q_nLcX, q_sFz, q_gFld, q_sFldD, q_gMake, q_gCallI, q_gMeth, q_iOwnF, q_isO, q_gIxI, q_lenO, q_modN, q_divmod, q_gSMeth, q_dtupA, q_dtupAL, q_gRevD, q_revT, q_revL, q_gCallKw, q_eqO, q_gCallVS, q_gOpO, q_gUnO, q_gCMeth, q_gMakeV, q_gSlot, q_gMakeS, q_sSlot, q_gMethS, q_isS, q_lc3, q_tru, q_onTl, q_onTt, q_onTb, q_onTi, q_onTn, q_lstRev, q_lstRg2, q_lstRg1, q_prop, q_inO, q_gOpL, q_neO, q_gOpN, q_lstZip, q_repr, q_isXT, sp_closes_at, sp__law_closed_by]
  refine lossC_ls RowD.lst (by omega) lo ?_
  cases z : cloL (lsC ls) with
  | none =>
    rw [cloD_non z]
    exact if_t rfl q
  | some n =>
    have z1 := (clo_some.mp z).1
    rw [cloD_int z]
    refine if_f rfl ⟨lsz (by simp), add_ls (bs := [l]) (by omega) (by simp) ?_⟩
    refine lossC_ls RowD.lst (by simp; omega) (ls_app lo (ls_one ol)) ?_
    have e : cloD (lsC (ls ++ [l])) = .int (n : Nat) := by
      refine cloD_int ?_
      have := rests_more (bs := lsC [l]) z1
      have em : lsC (ls ++ [l]) = lsC ls ++ lsC [l] := by unfold lsC; rw [List.map_append]
      rw [em]
      unfold cloL at z ⊢
      rw [this.1, this.2]
      exact z
    rw [e]
    (try dsimp only [q_op, q_un, q_var, q_c, q_nil, q_cons, q_tup, q_frz, q_cel, q_lst, q_test, q_onB, q_and, q_or, q_not, q_andV, q_orV, q_notV, q_if, q_chain, q_next, q_seq, q_drop, q_ret, q_retF, q_retN, q_sif, q_break, q_cont, q_name, q_dnil, q_dcons, q_dtup, q_asg, q_set, q_par, q_for, q_range1, q_range2, q_iseq, q_ienum, q_call, q_cb, q_ncb, q_nop, q_lenset, q_mt, q_mt0, q_setix, q_augs, q_aug, q_nsl, q_onone, q_osome, q_gsl, q_raise, q_raiseF, q_try, q_lc, q_lc2, q_yes, q_wipe0, q_wipe, q_xf, q_I, q_I0, q_U, q_add, q_addT, q_addL, q_addR, q_onL, q_onSt, q_onSl, q_onSs, q_onSrct, q_onSrcl, q_eqI, q_eqB, q_eqS, q_eqN, q_isN, q_ix, q_ixL, q_in, q_len, q_sum, q_max, q_min, q_max2, q_min2, q_abs, q_int, q_intB, q_tupof, q_lstof, q_sort, q_rep, q_cat, q_isi, q_isis, q_setat, q_onC, q_append, q_pop, q_popAt, q_reverse, q_insert, q_sp1, q_sp2, q_sp3, q_sp4, q_at0, q_atS, q_st0, q_stS, q_iteT, q_iteF, q_isB, q_sumS, q_all, q_any, q_repT, q_spV, q_nLcX, q_sFz, q_gFld, q_sFldD, q_gMake, q_gCallI, q_gMeth, q_iOwnF, q_isO, q_gIxI, q_lenO, q_modN, q_divmod, q_gSMeth, q_dtupA, q_dtupAL, q_gRevD, q_revT, q_revL, q_gCallKw, q_eqO, q_gCallVS, q_gOpO, q_gUnO, q_gCMeth, q_gMakeV, q_gSlot, q_gMakeS, q_sSlot, q_gMethS, q_isS, q_lc3, q_tru, q_onTl, q_onTt, q_onTb, q_onTi, q_onTn, q_lstRev, q_lstRg2, q_lstRg1, q_prop, q_inO, q_gOpL, q_neO, q_gOpN, q_lstZip, q_repr, q_isXT])
    refine if_f (by simp) ⟨lsz (by simp), add_ls (as := [l]) (by simp) (by omega) ?_⟩
    (try dsimp only [q_op, q_un, q_var, q_c, q_nil, q_cons, q_tup, q_frz, q_cel, q_lst, q_test, q_onB, q_and, q_or, q_not, q_andV, q_orV, q_notV, q_if, q_chain, q_next, q_seq, q_drop, q_ret, q_retF, q_retN, q_sif, q_break, q_cont, q_name, q_dnil, q_dcons, q_dtup, q_asg, q_set, q_par, q_for, q_range1, q_range2, q_iseq, q_ienum, q_call, q_cb, q_ncb, q_nop, q_lenset, q_mt, q_mt0, q_setix, q_augs, q_aug, q_nsl, q_onone, q_osome, q_gsl, q_raise, q_raiseF, q_try, q_lc, q_lc2, q_yes, q_wipe0, q_wipe, q_xf, q_I, q_I0, q_U, q_add, q_addT, q_addL, q_addR, q_onL, q_onSt, q_onSl, q_onSs, q_onSrct, q_onSrcl, q_eqI, q_eqB, q_eqS, q_eqN, q_isN, q_ix, q_ixL, q_in, q_len, q_sum, q_max, q_min, q_max2, q_min2, q_abs, q_int, q_intB, q_tupof, q_lstof, q_sort, q_rep, q_cat, q_isi, q_isis, q_setat, q_onC, q_append, q_pop, q_popAt, q_reverse, q_insert, q_sp1, q_sp2, q_sp3, q_sp4, q_at0, q_atS, q_st0, q_stS, q_iteT, q_iteF, q_isB, q_sumS, q_all, q_any, q_repT, q_spV, q_nLcX, q_sFz, q_gFld, q_sFldD, q_gMake, q_gCallI, q_gMeth, q_iOwnF, q_isO, q_gIxI, q_lenO, q_modN, q_divmod, q_gSMeth, q_dtupA, q_dtupAL, q_gRevD, q_revT, q_revL, q_gCallKw, q_eqO, q_gCallVS, q_gOpO, q_gUnO, q_gCMeth, q_gMakeV, q_gSlot, q_gMakeS, q_sSlot, q_gMethS, q_isS, q_lc3, q_tru, q_onTl, q_onTt, q_onTb, q_onTi, q_onTn, q_lstRev, q_lstRg2, q_lstRg1, q_prop, q_inO, q_gOpL, q_neO, q_gOpN, q_lstZip, q_repr, q_isXT])
    refine ⟨[l] ++ ls, _, rfl, by simp; omega, ls_app (ls_one ol) lo, rfl, ?_⟩
    have : byB (lsC ([l] ++ ls)) ((n : Int) + 1) = true := by_ahead (cs := lsC ls) (ls_ok (by omega) lo).2 ol z
    rw [this]
    exact q
theorem b__law_backwards : ∀ d0 M Q E, sp__law_backwards K [d0] M Q E → g__law_backwards K { nx := fun _ M => Q .non M, rt := Q, ex := fun x _ M => E x M } [some d0, none, none, none, none] M := by
  rintro d0 M Q E ⟨ls, rfl, ⟨l16, lo⟩, q⟩
  unfold g__law_backwards
  dsimp only [q_op, q_un, q_var, q_c, q_nil, q_cons, q_tup, q_frz, q_cel, q_lst, q_test, q_onB, q_and, q_or, q_not, q_andV, q_orV, q_notV, q_if, q_chain, q_next, q_seq, q_drop, q_ret, q_retF, q_retN, q_sif, q_break, q_cont, q_name, q_dnil, q_dcons, q_dtup, q_asg, q_set, q_par, q_for, q_range1, q_range2, q_iseq, q_ienum, q_call, q_cb, q_ncb, q_nop, q_lenset, q_mt, q_mt0, q_setix, q_augs, q_aug, q_nsl, q_onone, q_osome, q_gsl, q_raise, q_raiseF, q_try, q_lc, q_lc2, q_yes, q_wipe0, q_wipe, q_xf, q_I, q_I0, q_U, q_add, q_addT, q_addL, q_addR, q_onL, q_onSt, q_onSl, q_onSs, q_onSrct, q_onSrcl, q_eqI, q_eqB, q_eqS, q_eqN, q_isN, q_ix, q_ixL, q_in, q_len, q_sum, q_max, q_min, q_max2, q_min2, q_abs, q_int, q_intB, q_tupof, q_lstof, q_sort, q_rep, q_cat, q_isi, q_isis, q_setat, q_onC, q_append, q_pop, q_popAt, q_reverse, q_insert, q_sp1, q_sp2, q_sp3, q_sp4, q_at0, q_atS, q_st0, q_stS, q_iteT, q_iteF, q_isB, q_sumS, q_all, q_any, q_repT, q_spV, q_nLcX, q_sFz, q_gFld, q_sFldD, q_gMake, q_gCallI, q_gMeth, q_iOwnF, q_isO, q_gIxI, q_lenO, q_modN, q_divmod, q_gSMeth, q_dtupA, q_dtupAL, q_gRevD, q_revT, q_revL, q_gCallKw, q_eqO, q_gCallVS, q_gOpO, q_gUnO, q_gCMeth, q_gMakeV, q_gSlot, q_gMakeS, q_sSlot, q_gMethS, q_isS, q_lc3, q_tru, q_onTl, q_onTt, q_onTb, q_onTi, q_onTn, q_lstRev, q_lstRg2, q_lstRg1, q_prop, q_inO, q_gOpL, q_neO, q_gOpN, q_lstZip, q_repr, q_isXT, sp__law_pair, sp_closes_at, sp__law_back, sp__law_closes]
  refine lc_map Ls.d (fun l => prD l.c) trivial ls (fun l hl kk hk => ?_) dName_mono rfl (by rw [sz]; omega) ?_
  · (try dsimp only [q_op, q_un, q_var, q_c, q_nil, q_cons, q_tup, q_frz, q_cel, q_lst, q_test, q_onB, q_and, q_or, q_not, q_andV, q_orV, q_notV, q_if, q_chain, q_next, q_seq, q_drop, q_ret, q_retF, q_retN, q_sif, q_break, q_cont, q_name, q_dnil, q_dcons, q_dtup, q_asg, q_set, q_par, q_for, q_range1, q_range2, q_iseq, q_ienum, q_call, q_cb, q_ncb, q_nop, q_lenset, q_mt, q_mt0, q_setix, q_augs, q_aug, q_nsl, q_onone, q_osome, q_gsl, q_raise, q_raiseF, q_try, q_lc, q_lc2, q_yes, q_wipe0, q_wipe, q_xf, q_I, q_I0, q_U, q_add, q_addT, q_addL, q_addR, q_onL, q_onSt, q_onSl, q_onSs, q_onSrct, q_onSrcl, q_eqI, q_eqB, q_eqS, q_eqN, q_isN, q_ix, q_ixL, q_in, q_len, q_sum, q_max, q_min, q_max2, q_min2, q_abs, q_int, q_intB, q_tupof, q_lstof, q_sort, q_rep, q_cat, q_isi, q_isis, q_setat, q_onC, q_append, q_pop, q_popAt, q_reverse, q_insert, q_sp1, q_sp2, q_sp3, q_sp4, q_at0, q_atS, q_st0, q_stS, q_iteT, q_iteF, q_isB, q_sumS, q_all, q_any, q_repT, q_spV, q_nLcX, q_sFz, q_gFld, q_sFldD, q_gMake, q_gCallI, q_gMeth, q_iOwnF, q_isO, q_gIxI, q_lenO, q_modN, q_divmod, q_gSMeth, q_dtupA, q_dtupAL, q_gRevD, q_revT, q_revL, q_gCallKw, q_eqO, q_gCallVS, q_gOpO, q_gUnO, q_gCMeth, q_gMakeV, q_gSlot, q_gMakeS, q_sSlot, q_gMethS, q_isS, q_lc3, q_tru, q_onTl, q_onTt, q_onTb, q_onTi, q_onTn, q_lstRev, q_lstRg2, q_lstRg1, q_prop, q_inO, q_gOpL, q_neO, q_gOpN, q_lstZip, q_repr, q_isXT])
    exact ⟨rfl, l, rfl, hk⟩
  have ok := ls_ok (by omega) lo
  have em : ls.map (fun l => prD l.c) = (lsC ls).map prD := by unfold lsC; rw [List.map_map]; rfl
  rw [em]
  have lr : ∀ l ∈ ls.reverse, ChOk l.c := fun l h => lo l (List.mem_reverse.mp h)
  have er : lsC ls.reverse = (lsC ls).reverse := by unfold lsC; rw [List.map_reverse]
  have okr : ChsOk (lsC ls).reverse := by rw [← er]; exact ls_ok (by rw [List.length_reverse]; omega) lr
  refine lossC_ls RowD.lst (by omega) lo ⟨_, rfl, ?_⟩
  refine lossC_ls (ls := ls.reverse) (by rw [List.map_reverse]; exact RowD.tup) (by rw [List.length_reverse]; omega) lr ⟨lsC ls, rfl, ok, ?_⟩
  rw [optD_eq ok.2, er]
  have ne : ∀ {cs : List PP} {M : Mem} {Q : DVK}, Q (.bl false) M → dNe (cloD cs) (cloD cs) M Q := fun {cs M Q} q => eq_self rfl (by unfold cloD; cases cloL cs <;> rfl) q
  refine ne ?_
  (try dsimp only [q_op, q_un, q_var, q_c, q_nil, q_cons, q_tup, q_frz, q_cel, q_lst, q_test, q_onB, q_and, q_or, q_not, q_andV, q_orV, q_notV, q_if, q_chain, q_next, q_seq, q_drop, q_ret, q_retF, q_retN, q_sif, q_break, q_cont, q_name, q_dnil, q_dcons, q_dtup, q_asg, q_set, q_par, q_for, q_range1, q_range2, q_iseq, q_ienum, q_call, q_cb, q_ncb, q_nop, q_lenset, q_mt, q_mt0, q_setix, q_augs, q_aug, q_nsl, q_onone, q_osome, q_gsl, q_raise, q_raiseF, q_try, q_lc, q_lc2, q_yes, q_wipe0, q_wipe, q_xf, q_I, q_I0, q_U, q_add, q_addT, q_addL, q_addR, q_onL, q_onSt, q_onSl, q_onSs, q_onSrct, q_onSrcl, q_eqI, q_eqB, q_eqS, q_eqN, q_isN, q_ix, q_ixL, q_in, q_len, q_sum, q_max, q_min, q_max2, q_min2, q_abs, q_int, q_intB, q_tupof, q_lstof, q_sort, q_rep, q_cat, q_isi, q_isis, q_setat, q_onC, q_append, q_pop, q_popAt, q_reverse, q_insert, q_sp1, q_sp2, q_sp3, q_sp4, q_at0, q_atS, q_st0, q_stS, q_iteT, q_iteF, q_isB, q_sumS, q_all, q_any, q_repT, q_spV, q_nLcX, q_sFz, q_gFld, q_sFldD, q_gMake, q_gCallI, q_gMeth, q_iOwnF, q_isO, q_gIxI, q_lenO, q_modN, q_divmod, q_gSMeth, q_dtupA, q_dtupAL, q_gRevD, q_revT, q_revL, q_gCallKw, q_eqO, q_gCallVS, q_gOpO, q_gUnO, q_gCMeth, q_gMakeV, q_gSlot, q_gMakeS, q_sSlot, q_gMethS, q_isS, q_lc3, q_tru, q_onTl, q_onTt, q_onTb, q_onTi, q_onTn, q_lstRev, q_lstRg2, q_lstRg1, q_prop, q_inO, q_gOpL, q_neO, q_gOpN, q_lstZip, q_repr, q_isXT])
  refine if_f rfl ⟨_, rfl, (lsC ls).reverse, by rw [List.map_reverse], okr, ?_⟩
  rw [optD_eq okr.2]
  refine ne ?_
  (try dsimp only [q_op, q_un, q_var, q_c, q_nil, q_cons, q_tup, q_frz, q_cel, q_lst, q_test, q_onB, q_and, q_or, q_not, q_andV, q_orV, q_notV, q_if, q_chain, q_next, q_seq, q_drop, q_ret, q_retF, q_retN, q_sif, q_break, q_cont, q_name, q_dnil, q_dcons, q_dtup, q_asg, q_set, q_par, q_for, q_range1, q_range2, q_iseq, q_ienum, q_call, q_cb, q_ncb, q_nop, q_lenset, q_mt, q_mt0, q_setix, q_augs, q_aug, q_nsl, q_onone, q_osome, q_gsl, q_raise, q_raiseF, q_try, q_lc, q_lc2, q_yes, q_wipe0, q_wipe, q_xf, q_I, q_I0, q_U, q_add, q_addT, q_addL, q_addR, q_onL, q_onSt, q_onSl, q_onSs, q_onSrct, q_onSrcl, q_eqI, q_eqB, q_eqS, q_eqN, q_isN, q_ix, q_ixL, q_in, q_len, q_sum, q_max, q_min, q_max2, q_min2, q_abs, q_int, q_intB, q_tupof, q_lstof, q_sort, q_rep, q_cat, q_isi, q_isis, q_setat, q_onC, q_append, q_pop, q_popAt, q_reverse, q_insert, q_sp1, q_sp2, q_sp3, q_sp4, q_at0, q_atS, q_st0, q_stS, q_iteT, q_iteF, q_isB, q_sumS, q_all, q_any, q_repT, q_spV, q_nLcX, q_sFz, q_gFld, q_sFldD, q_gMake, q_gCallI, q_gMeth, q_iOwnF, q_isO, q_gIxI, q_lenO, q_modN, q_divmod, q_gSMeth, q_dtupA, q_dtupAL, q_gRevD, q_revT, q_revL, q_gCallKw, q_eqO, q_gCallVS, q_gOpO, q_gUnO, q_gCMeth, q_gMakeV, q_gSlot, q_gMakeS, q_sSlot, q_gMethS, q_isS, q_lc3, q_tru, q_onTl, q_onTt, q_onTb, q_onTi, q_onTn, q_lstRev, q_lstRg2, q_lstRg1, q_prop, q_inO, q_gOpL, q_neO, q_gOpN, q_lstZip, q_repr, q_isXT])
  refine if_f rfl ?_
  have k := rev_pos ok.2
  have en : ∀ cs : List PP, DL.isNon (cloD cs) = decide (0 < (finL cs).1) := fun cs => by
    cases z : cloL cs with
    | none => rw [cloD_non z, decide_eq_true (clo_none.mp z)]; rfl
    | some n => rw [cloD_int z, decide_eq_false (by have := (clo_some.mp z).1; omega)]; rfl
  rw [en, en, decide_eq_decide.mpr k, decide_eq_true rfl]
  exact q
theorem b__law_quarters : ∀ d0 M Q E, sp__law_quarters K [d0] M Q E → g__law_quarters K { nx := fun _ M => Q .non M, rt := Q, ex := fun x _ M => E x M } [some d0, none, none] M := by
  rintro d0 M Q E ⟨n, rfl, n16, q⟩
  unfold g__law_quarters
  dsimp only [q_op, q_un, q_var, q_c, q_nil, q_cons, q_tup, q_frz, q_cel, q_lst, q_test, q_onB, q_and, q_or, q_not, q_andV, q_orV, q_notV, q_if, q_chain, q_next, q_seq, q_drop, q_ret, q_retF, q_retN, q_sif, q_break, q_cont, q_name, q_dnil, q_dcons, q_dtup, q_asg, q_set, q_par, q_for, q_range1, q_range2, q_iseq, q_ienum, q_call, q_cb, q_ncb, q_nop, q_lenset, q_mt, q_mt0, q_setix, q_augs, q_aug, q_nsl, q_onone, q_osome, q_gsl, q_raise, q_raiseF, q_try, q_lc, q_lc2, q_yes, q_wipe0, q_wipe, q_xf, q_I, q_I0, q_U, q_add, q_addT, q_addL, q_addR, q_onL, q_onSt, q_onSl, q_onSs, q_onSrct, q_onSrcl, q_eqI, q_eqB, q_eqS, q_eqN, q_isN, q_ix, q_ixL, q_in, q_len, q_sum, q_max, q_min, q_max2, q_min2, q_abs, q_int, q_intB, q_tupof, q_lstof, q_sort, q_rep, q_cat, q_isi, q_isis, q_setat, q_onC, q_append, q_pop, q_popAt, q_reverse, q_insert, q_sp1, q_sp2, q_sp3, q_sp4, q_at0, q_atS, q_st0, q_stS, q_iteT, q_iteF, q_isB, q_sumS, q_all, q_any, q_repT, q_spV, q_nLcX, q_sFz, q_gFld, q_sFldD, q_gMake, q_gCallI, q_gMeth, q_iOwnF, q_isO, q_gIxI, q_lenO, q_modN, q_divmod, q_gSMeth, q_dtupA, q_dtupAL, q_gRevD, q_revT, q_revL, q_gCallKw, q_eqO, q_gCallVS, q_gOpO, q_gUnO, q_gCMeth, q_gMakeV, q_gSlot, q_gMakeS, q_sSlot, q_gMethS, q_isS, q_lc3, q_tru, q_onTl, q_onTt, q_onTb, q_onTi, q_onTn, q_lstRev, q_lstRg2, q_lstRg1, q_prop, q_inO, q_gOpL, q_neO, q_gOpN, q_lstZip, q_repr, q_isXT, sp_rests, sp_closes_at, sp__law_same_worth]
  refine ⟨by omega, ?_⟩
  rw [Int.toNat_natCast]
  have q1 : ChOk (Ls.t 1 4).c := ⟨by decide, by decide, by decide, by decide⟩
  have q2 : ChOk (Ls.l 1 4).c := ⟨by decide, by decide, by decide, by decide⟩
  have e1 : lsC (List.replicate n (Ls.t 1 4)) = List.replicate n (1, 4) := by unfold lsC; rw [List.map_replicate]; rfl
  have e2 : lsC (List.replicate n (Ls.l 1 4)) = List.replicate n (1, 4) := by unfold lsC; rw [List.map_replicate]; rfl
  have lr : (List.replicate n (Ls.t 1 4)).length ≤ 17 := by rw [List.length_replicate]; omega
  have lr2 : (List.replicate n (Ls.l 1 4)).length ≤ 17 := by rw [List.length_replicate]; omega
  have o1 : ∀ l ∈ List.replicate n (Ls.t 1 4), ChOk l.c := fun l h => by rw [(List.mem_replicate.mp h).2]; exact q1
  have o2 : ∀ l ∈ List.replicate n (Ls.l 1 4), ChOk l.c := fun l h => by rw [(List.mem_replicate.mp h).2]; exact q2
  obtain ⟨f1, f2, f3⟩ := quarter n 0 (1, 1) (by decide) (by decide)
  refine lc_inv (fun i acc M' => acc = (List.replicate i (Ls.t 1 4)).map Ls.d ∧ M' = M) (fun _ _ _ _ _ => trivial) ?_ ?_ ⟨rfl, rfl⟩
  · rintro i acc M' d hd ⟨rfl, rfl⟩ N hN
    obtain ⟨hi, rfl⟩ := rgD_get hd
    (try dsimp only [q_op, q_un, q_var, q_c, q_nil, q_cons, q_tup, q_frz, q_cel, q_lst, q_test, q_onB, q_and, q_or, q_not, q_andV, q_orV, q_notV, q_if, q_chain, q_next, q_seq, q_drop, q_ret, q_retF, q_retN, q_sif, q_break, q_cont, q_name, q_dnil, q_dcons, q_dtup, q_asg, q_set, q_par, q_for, q_range1, q_range2, q_iseq, q_ienum, q_call, q_cb, q_ncb, q_nop, q_lenset, q_mt, q_mt0, q_setix, q_augs, q_aug, q_nsl, q_onone, q_osome, q_gsl, q_raise, q_raiseF, q_try, q_lc, q_lc2, q_yes, q_wipe0, q_wipe, q_xf, q_I, q_I0, q_U, q_add, q_addT, q_addL, q_addR, q_onL, q_onSt, q_onSl, q_onSs, q_onSrct, q_onSrcl, q_eqI, q_eqB, q_eqS, q_eqN, q_isN, q_ix, q_ixL, q_in, q_len, q_sum, q_max, q_min, q_max2, q_min2, q_abs, q_int, q_intB, q_tupof, q_lstof, q_sort, q_rep, q_cat, q_isi, q_isis, q_setat, q_onC, q_append, q_pop, q_popAt, q_reverse, q_insert, q_sp1, q_sp2, q_sp3, q_sp4, q_at0, q_atS, q_st0, q_stS, q_iteT, q_iteF, q_isB, q_sumS, q_all, q_any, q_repT, q_spV, q_nLcX, q_sFz, q_gFld, q_sFldD, q_gMake, q_gCallI, q_gMeth, q_iOwnF, q_isO, q_gIxI, q_lenO, q_modN, q_divmod, q_gSMeth, q_dtupA, q_dtupAL, q_gRevD, q_revT, q_revL, q_gCallKw, q_eqO, q_gCallVS, q_gOpO, q_gUnO, q_gCMeth, q_gMakeV, q_gSlot, q_gMakeS, q_sSlot, q_gMethS, q_isS, q_lc3, q_tru, q_onTl, q_onTt, q_onTb, q_onTi, q_onTn, q_lstRev, q_lstRg2, q_lstRg1, q_prop, q_inO, q_gOpL, q_neO, q_gOpN, q_lstZip, q_repr, q_isXT])
    refine if_t rfl ⟨lsz (by simp), by rw [sz, List.length_map, List.length_replicate]; omega, hN _ _ ⟨?_, rfl⟩⟩
    rw [List.replicate_succ', List.map_append]
    rfl
  · rintro acc M' ⟨rfl, rfl⟩
    rw [rgD_len]
    refine lossC_ls RowD.lst lr o1 ?_
    rw [e1]
    have el : (restsL (List.replicate n (1, 4))).length = n + 1 := f2
    (try dsimp only [q_op, q_un, q_var, q_c, q_nil, q_cons, q_tup, q_frz, q_cel, q_lst, q_test, q_onB, q_and, q_or, q_not, q_andV, q_orV, q_notV, q_if, q_chain, q_next, q_seq, q_drop, q_ret, q_retF, q_retN, q_sif, q_break, q_cont, q_name, q_dnil, q_dcons, q_dtup, q_asg, q_set, q_par, q_for, q_range1, q_range2, q_iseq, q_ienum, q_call, q_cb, q_ncb, q_nop, q_lenset, q_mt, q_mt0, q_setix, q_augs, q_aug, q_nsl, q_onone, q_osome, q_gsl, q_raise, q_raiseF, q_try, q_lc, q_lc2, q_yes, q_wipe0, q_wipe, q_xf, q_I, q_I0, q_U, q_add, q_addT, q_addL, q_addR, q_onL, q_onSt, q_onSl, q_onSs, q_onSrct, q_onSrcl, q_eqI, q_eqB, q_eqS, q_eqN, q_isN, q_ix, q_ixL, q_in, q_len, q_sum, q_max, q_min, q_max2, q_min2, q_abs, q_int, q_intB, q_tupof, q_lstof, q_sort, q_rep, q_cat, q_isi, q_isis, q_setat, q_onC, q_append, q_pop, q_popAt, q_reverse, q_insert, q_sp1, q_sp2, q_sp3, q_sp4, q_at0, q_atS, q_st0, q_stS, q_iteT, q_iteF, q_isB, q_sumS, q_all, q_any, q_repT, q_spV, q_nLcX, q_sFz, q_gFld, q_sFldD, q_gMake, q_gCallI, q_gMeth, q_iOwnF, q_isO, q_gIxI, q_lenO, q_modN, q_divmod, q_gSMeth, q_dtupA, q_dtupAL, q_gRevD, q_revT, q_revL, q_gCallKw, q_eqO, q_gCallVS, q_gOpO, q_gUnO, q_gCMeth, q_gMakeV, q_gSlot, q_gMakeS, q_sSlot, q_gMethS, q_isS, q_lc3, q_tru, q_onTl, q_onTt, q_onTb, q_onTi, q_onTn, q_lstRev, q_lstRg2, q_lstRg1, q_prop, q_inO, q_gOpL, q_neO, q_gOpN, q_lstZip, q_repr, q_isXT])
    refine ⟨.tuple, true, rfl, rfl, ?_⟩
    (try dsimp only [q_op, q_un, q_var, q_c, q_nil, q_cons, q_tup, q_frz, q_cel, q_lst, q_test, q_onB, q_and, q_or, q_not, q_andV, q_orV, q_notV, q_if, q_chain, q_next, q_seq, q_drop, q_ret, q_retF, q_retN, q_sif, q_break, q_cont, q_name, q_dnil, q_dcons, q_dtup, q_asg, q_set, q_par, q_for, q_range1, q_range2, q_iseq, q_ienum, q_call, q_cb, q_ncb, q_nop, q_lenset, q_mt, q_mt0, q_setix, q_augs, q_aug, q_nsl, q_onone, q_osome, q_gsl, q_raise, q_raiseF, q_try, q_lc, q_lc2, q_yes, q_wipe0, q_wipe, q_xf, q_I, q_I0, q_U, q_add, q_addT, q_addL, q_addR, q_onL, q_onSt, q_onSl, q_onSs, q_onSrct, q_onSrcl, q_eqI, q_eqB, q_eqS, q_eqN, q_isN, q_ix, q_ixL, q_in, q_len, q_sum, q_max, q_min, q_max2, q_min2, q_abs, q_int, q_intB, q_tupof, q_lstof, q_sort, q_rep, q_cat, q_isi, q_isis, q_setat, q_onC, q_append, q_pop, q_popAt, q_reverse, q_insert, q_sp1, q_sp2, q_sp3, q_sp4, q_at0, q_atS, q_st0, q_stS, q_iteT, q_iteF, q_isB, q_sumS, q_all, q_any, q_repT, q_spV, q_nLcX, q_sFz, q_gFld, q_sFldD, q_gMake, q_gCallI, q_gMeth, q_iOwnF, q_isO, q_gIxI, q_lenO, q_modN, q_divmod, q_gSMeth, q_dtupA, q_dtupAL, q_gRevD, q_revT, q_revL, q_gCallKw, q_eqO, q_gCallVS, q_gOpO, q_gUnO, q_gCMeth, q_gMakeV, q_gSlot, q_gMakeS, q_sSlot, q_gMethS, q_isS, q_lc3, q_tru, q_onTl, q_onTt, q_onTb, q_onTi, q_onTn, q_lstRev, q_lstRg2, q_lstRg1, q_prop, q_inO, q_gOpL, q_neO, q_gOpN, q_lstZip, q_repr, q_isXT])
    rw [List.length_map, el]
    refine if_f rfl (if_f (by simp) ⟨by omega, ?_⟩)
    rw [show ((n : Int) + 1).toNat = n + 1 by omega]
    refine loop_rg0 (fun k ρ M2 => (∃ a : Option DL.D, ρ = [some (.int (n : Nat)), some (.tup ((restsL (List.replicate n (1, 4))).map frP)), a]) ∧ M2 = M') ?_ ?_ ⟨⟨_, rfl⟩, rfl⟩
    · rintro k ρ M2 hk ⟨⟨a, rfl⟩, rfl⟩ Nx hN
      obtain ⟨s, s1, s2⟩ := f3 k (by omega)
      have ok : ChsOk (List.replicate n (1, 4)) := by rw [← e1]; exact ls_ok lr o1
      obtain ⟨ro, n1, n2⟩ := rests_ok ok (List.mem_of_getElem? s1)
      have s1 : (restsL (List.replicate n (1, 4)))[k]? = some s := s1
      rw [Nat.zero_add] at s2
      (try dsimp only [q_op, q_un, q_var, q_c, q_nil, q_cons, q_tup, q_frz, q_cel, q_lst, q_test, q_onB, q_and, q_or, q_not, q_andV, q_orV, q_notV, q_if, q_chain, q_next, q_seq, q_drop, q_ret, q_retF, q_retN, q_sif, q_break, q_cont, q_name, q_dnil, q_dcons, q_dtup, q_asg, q_set, q_par, q_for, q_range1, q_range2, q_iseq, q_ienum, q_call, q_cb, q_ncb, q_nop, q_lenset, q_mt, q_mt0, q_setix, q_augs, q_aug, q_nsl, q_onone, q_osome, q_gsl, q_raise, q_raiseF, q_try, q_lc, q_lc2, q_yes, q_wipe0, q_wipe, q_xf, q_I, q_I0, q_U, q_add, q_addT, q_addL, q_addR, q_onL, q_onSt, q_onSl, q_onSs, q_onSrct, q_onSrcl, q_eqI, q_eqB, q_eqS, q_eqN, q_isN, q_ix, q_ixL, q_in, q_len, q_sum, q_max, q_min, q_max2, q_min2, q_abs, q_int, q_intB, q_tupof, q_lstof, q_sort, q_rep, q_cat, q_isi, q_isis, q_setat, q_onC, q_append, q_pop, q_popAt, q_reverse, q_insert, q_sp1, q_sp2, q_sp3, q_sp4, q_at0, q_atS, q_st0, q_stS, q_iteT, q_iteF, q_isB, q_sumS, q_all, q_any, q_repT, q_spV, q_nLcX, q_sFz, q_gFld, q_sFldD, q_gMake, q_gCallI, q_gMeth, q_iOwnF, q_isO, q_gIxI, q_lenO, q_modN, q_divmod, q_gSMeth, q_dtupA, q_dtupAL, q_gRevD, q_revT, q_revL, q_gCallKw, q_eqO, q_gCallVS, q_gOpO, q_gUnO, q_gCMeth, q_gMakeV, q_gSlot, q_gMakeS, q_sSlot, q_gMethS, q_isS, q_lc3, q_tru, q_onTl, q_onTt, q_onTb, q_onTi, q_onTn, q_lstRev, q_lstRg2, q_lstRg1, q_prop, q_inO, q_gOpL, q_neO, q_gOpN, q_lstZip, q_repr, q_isXT])
      refine ⟨_, frs_at s1, ⟨cmul (a := 10) (b := 20) (by unfold nb; omega) (by unfold nb; omega), lsz (by simp), ?_⟩⟩
      have c := lo_cross s.1 s.2
      refine ⟨_, _, _, _, rfl, rfl, nb_mono (lo_nb1 ro.1 n1) (by omega), nb_mono (lo_nb2 ro.1 n2) (by omega), nb_mono (n := 20) (by unfold nb; omega) (by omega), nb_mono (n := 20) (by unfold nb; omega) (by omega), ?_⟩
      have p := lo_pos (t := s.1) ro.1
      have e : (LW.lo s.1 s.2).1 * (2 * (k : Int) + 2) = ((k : Int) + 2) * (LW.lo s.1 s.2).2 := by
        generalize (LW.lo s.1 s.2).1 = u at *
        generalize (LW.lo s.1 s.2).2 = v at *
        -- u s2 = s1 v, s1 (2k+2) = s2 (k+2)
        have h : s.2 * (u * (2 * (k : Int) + 2)) = s.2 * (((k : Int) + 2) * v) := by grind
        exact Int.eq_of_mul_eq_mul_left (by have := ro.1; omega) h
      rw [decide_eq_true e]
      exact if_f rfl (hN _ _ ⟨⟨_, rfl⟩, rfl⟩)
    · rintro ρ M2 ⟨⟨a, rfl⟩, rfl⟩
      (try dsimp only [q_op, q_un, q_var, q_c, q_nil, q_cons, q_tup, q_frz, q_cel, q_lst, q_test, q_onB, q_and, q_or, q_not, q_andV, q_orV, q_notV, q_if, q_chain, q_next, q_seq, q_drop, q_ret, q_retF, q_retN, q_sif, q_break, q_cont, q_name, q_dnil, q_dcons, q_dtup, q_asg, q_set, q_par, q_for, q_range1, q_range2, q_iseq, q_ienum, q_call, q_cb, q_ncb, q_nop, q_lenset, q_mt, q_mt0, q_setix, q_augs, q_aug, q_nsl, q_onone, q_osome, q_gsl, q_raise, q_raiseF, q_try, q_lc, q_lc2, q_yes, q_wipe0, q_wipe, q_xf, q_I, q_I0, q_U, q_add, q_addT, q_addL, q_addR, q_onL, q_onSt, q_onSl, q_onSs, q_onSrct, q_onSrcl, q_eqI, q_eqB, q_eqS, q_eqN, q_isN, q_ix, q_ixL, q_in, q_len, q_sum, q_max, q_min, q_max2, q_min2, q_abs, q_int, q_intB, q_tupof, q_lstof, q_sort, q_rep, q_cat, q_isi, q_isis, q_setat, q_onC, q_append, q_pop, q_popAt, q_reverse, q_insert, q_sp1, q_sp2, q_sp3, q_sp4, q_at0, q_atS, q_st0, q_stS, q_iteT, q_iteF, q_isB, q_sumS, q_all, q_any, q_repT, q_spV, q_nLcX, q_sFz, q_gFld, q_sFldD, q_gMake, q_gCallI, q_gMeth, q_iOwnF, q_isO, q_gIxI, q_lenO, q_modN, q_divmod, q_gSMeth, q_dtupA, q_dtupAL, q_gRevD, q_revT, q_revL, q_gCallKw, q_eqO, q_gCallVS, q_gOpO, q_gUnO, q_gCMeth, q_gMakeV, q_gSlot, q_gMakeS, q_sSlot, q_gMethS, q_isS, q_lc3, q_tru, q_onTl, q_onTt, q_onTb, q_onTi, q_onTn, q_lstRev, q_lstRg2, q_lstRg1, q_prop, q_inO, q_gOpL, q_neO, q_gOpN, q_lstZip, q_repr, q_isXT])
      refine ⟨by omega, ?_⟩
      rw [Int.toNat_natCast]
      refine lc_inv (fun i acc M' => acc = (List.replicate i (Ls.l 1 4)).map Ls.d ∧ M' = M2) (fun _ _ _ _ _ => trivial) ?_ ?_ ⟨rfl, rfl⟩
      · rintro i acc M' d hd ⟨rfl, rfl⟩ N hN
        obtain ⟨hi, rfl⟩ := rgD_get hd
        (try dsimp only [q_op, q_un, q_var, q_c, q_nil, q_cons, q_tup, q_frz, q_cel, q_lst, q_test, q_onB, q_and, q_or, q_not, q_andV, q_orV, q_notV, q_if, q_chain, q_next, q_seq, q_drop, q_ret, q_retF, q_retN, q_sif, q_break, q_cont, q_name, q_dnil, q_dcons, q_dtup, q_asg, q_set, q_par, q_for, q_range1, q_range2, q_iseq, q_ienum, q_call, q_cb, q_ncb, q_nop, q_lenset, q_mt, q_mt0, q_setix, q_augs, q_aug, q_nsl, q_onone, q_osome, q_gsl, q_raise, q_raiseF, q_try, q_lc, q_lc2, q_yes, q_wipe0, q_wipe, q_xf, q_I, q_I0, q_U, q_add, q_addT, q_addL, q_addR, q_onL, q_onSt, q_onSl, q_onSs, q_onSrct, q_onSrcl, q_eqI, q_eqB, q_eqS, q_eqN, q_isN, q_ix, q_ixL, q_in, q_len, q_sum, q_max, q_min, q_max2, q_min2, q_abs, q_int, q_intB, q_tupof, q_lstof, q_sort, q_rep, q_cat, q_isi, q_isis, q_setat, q_onC, q_append, q_pop, q_popAt, q_reverse, q_insert, q_sp1, q_sp2, q_sp3, q_sp4, q_at0, q_atS, q_st0, q_stS, q_iteT, q_iteF, q_isB, q_sumS, q_all, q_any, q_repT, q_spV, q_nLcX, q_sFz, q_gFld, q_sFldD, q_gMake, q_gCallI, q_gMeth, q_iOwnF, q_isO, q_gIxI, q_lenO, q_modN, q_divmod, q_gSMeth, q_dtupA, q_dtupAL, q_gRevD, q_revT, q_revL, q_gCallKw, q_eqO, q_gCallVS, q_gOpO, q_gUnO, q_gCMeth, q_gMakeV, q_gSlot, q_gMakeS, q_sSlot, q_gMethS, q_isS, q_lc3, q_tru, q_onTl, q_onTt, q_onTb, q_onTi, q_onTn, q_lstRev, q_lstRg2, q_lstRg1, q_prop, q_inO, q_gOpL, q_neO, q_gOpN, q_lstZip, q_repr, q_isXT])
        refine if_t rfl ⟨lsz (by simp), by rw [sz, List.length_map, List.length_replicate]; omega, hN _ _ ⟨?_, rfl⟩⟩
        rw [List.replicate_succ', List.map_append]
        rfl
      · rintro acc M' ⟨rfl, rfl⟩
        rw [rgD_len]
        refine lossC_ls RowD.lst lr2 o2 ?_
        rw [e2, cloD_none f1]
        exact q
end
end LW

namespace LW
open PySem PySem.Spec PyProof.Rows L2 DL
section
variable {K : PySem.W.Frag} {mg : Str → Option Value}
def gRs1 (K : PySem.W.Frag) : DS :=
  (sSeq (sSet 5 (gOp dAdd (gOp dAdd (gSl (gVar 0) oNone (oSome (gVar 1))) (gFrz (nLst (aCons (gVar 4) aNil)))) (gSl (gVar 0) (oSome (gOp dAdd (gVar 1) (gC (.int 1)))) oNone)))
    (sSeq (sSet 6 (gCall (sp_rests K) (aCons (gVar 0) aNil)))
    (sSeq (sSet 7 (gCall (sp_rests K) (aCons (gVar 5) aNil)))
    (sSeq (sFor (iRange1 (aCons (gCB dMin (aCons (gCB dLen (aCons (gVar 6) aNil)) (aCons (gCB dLen (aCons (gVar 7) aNil)) aNil))) aNil)) (dName 8) (sIf (gNot (gTest (gCall (sp__law_at_most K) (aCons (gOp dIx (gVar 7) (gVar 8)) (aCons (gOp dIx (gVar 6) (gVar 8)) aNil))))) (sRet (gC (.bl false))) sNext))
    (sSeq (sSet 9 (gCall (sp_closes_at K) (aCons (gVar 0) aNil)))
    (sSeq (sIf (gAnd (gTest (gOp (dIsN fun b => !b) (gVar 9) (gC .non))) (gNot (gTest (gCall (sp__law_closed_by K) (aCons (gVar 5) (aCons (gVar 9) aNil)))))) (sRet (gC (.bl false))) sNext)
    (sRet (gOp dLe (gCB dLen (aCons (gVar 7) aNil)) (gCB dLen (aCons (gVar 6) aNil))))))))))
theorem ls_split {ls : List Ls} {n : Nat} {l : Ls} (h : ls[n]? = some l) : ls = ls.take n ++ l :: ls.drop (n + 1) := by
  have hl := (List.getElem?_eq_some_iff.mp h).1
  have e : ls.drop n = l :: ls.drop (n + 1) := by
    rw [List.drop_eq_getElem_cons hl]
    rw [List.getElem?_eq_getElem hl] at h
    cases h
    rfl
  rw [← e, List.take_append_drop]
theorem up_app : ∀ {as bs cs : List PP} {c c' : PP}, (∀ x ∈ as, ChOk x) → (∀ x ∈ bs, ChOk x) → ChOk c → ChOk c' → c.1 * c'.2 ≤ c'.1 * c.2 → Up (as ++ c :: bs) (as ++ c' :: bs)
  | [], bs, _, c, c', _, hb, h1, h2, h => .cons h1 h2 h (up_refl hb)
  | a :: as, bs, cs, c, c', ha, hb, h1, h2, h => .cons (ha a (List.mem_cons_self ..)) (ha a (List.mem_cons_self ..)) (Int.le_refl _) (up_app (cs := cs) (fun x hx => ha x (List.mem_cons_of_mem _ hx)) hb h1 h2 h)
theorem ls_at {ls : List Ls} {n : Nat} {l : Ls} (h : ls[n]? = some l) : atI (ls.map Ls.d) ((n : Nat) : Int) = some l.d := L2.atI_nat (by rw [List.getElem?_map, h]; rfl)
theorem le_fr {r s : PP} (hr : 0 < r.2) (hs : 0 < s.2) (h : leR r s) : (LW.lo r.1 r.2).1 * (LW.lo s.1 s.2).2 ≤ (LW.lo s.1 s.2).1 * (LW.lo r.1 r.2).2 := by
  have c1 := lo_cross r.1 r.2
  have c2 := lo_cross s.1 s.2
  have p1 := lo_pos (t := r.1) hr
  have p2 := lo_pos (t := s.1) hs
  unfold leR at h
  generalize (LW.lo r.1 r.2).1 = a at *
  generalize (LW.lo r.1 r.2).2 = b at *
  generalize (LW.lo s.1 s.2).1 = c at *
  generalize (LW.lo s.1 s.2).2 = d at *
  -- a r2 = r1 b, c s2 = s1 d, r1 s2 <= s1 r2
  have m : (r.1 * s.2) * (b * d) ≤ (s.1 * r.2) * (b * d) := Int.mul_le_mul_of_nonneg_right h (Int.le_of_lt (Int.mul_pos p1 p2))
  have e1 : (r.1 * s.2) * (b * d) = (r.2 * s.2) * (a * d) := by grind
  have e2 : (s.1 * r.2) * (b * d) = (r.2 * s.2) * (c * b) := by grind
  rw [e1, e2] at m
  exact Int.le_of_mul_le_mul_left m (Int.mul_pos hr hs)
theorem raised_tail {M : Mem} {Q : DVK} {E : DXK} {ls : List Ls} {n : Nat} {l : Ls} {a b : Int} {x2 x3 : Option DL.D} (l16 : ls.length ≤ 16) (lo : ∀ l ∈ ls, ChOk l.c) (hl : ls[n]? = some l) (om : ChOk (a, b)) (h : l.c.1 * b ≤ a * l.c.2) (q : Q (.bl true) M) :
    gRs1 K { nx := fun _ M => Q .non M, rt := Q, ex := fun x _ M => E x M } [some (lsD ls), some (.int (n : Nat)), x2, x3, some (.tup [.int a, .int b]), none, none, none, none, none] M := by
  unfold gRs1
  dsimp only [q_op, q_un, q_var, q_c, q_nil, q_cons, q_tup, q_frz, q_cel, q_lst, q_test, q_onB, q_and, q_or, q_not, q_andV, q_orV, q_notV, q_if, q_chain, q_next, q_seq, q_drop, q_ret, q_retF, q_retN, q_sif, q_break, q_cont, q_name, q_dnil, q_dcons, q_dtup, q_asg, q_set, q_par, q_for, q_range1, q_range2, q_iseq, q_ienum, q_call, q_cb, q_ncb, q_nop, q_lenset, q_mt, q_mt0, q_setix, q_augs, q_aug, q_nsl, q_onone, q_osome, q_gsl, q_raise, q_raiseF, q_try, q_lc, q_lc2, q_yes, q_wipe0, q_wipe, q_xf, q_I, q_I0, q_U, q_add, q_addT, q_addL, q_addR, q_onL, q_onSt, q_onSl, q_onSs, q_onSrct, q_onSrcl, q_eqI, q_eqB, q_eqS, q_eqN, q_isN, q_ix, q_ixL, q_in, q_len, q_sum, q_max, q_min, q_max2, q_min2, q_abs, q_int, q_intB, q_tupof, q_lstof, q_sort, q_rep, q_cat, q_isi, q_isis, q_setat, q_onC, q_append, q_pop, q_popAt, q_reverse, q_insert, q_sp1, q_sp2, q_sp3, q_sp4, q_at0, q_atS, q_st0, q_stS, q_iteT, q_iteF, q_isB, q_sumS, q_all, q_any, q_repT, q_spV, q_nLcX, q_sFz, q_gFld, q_sFldD, q_gMake, q_gCallI, q_gMeth, q_iOwnF, q_isO, q_gIxI, q_lenO, q_modN, q_divmod, q_gSMeth, q_dtupA, q_dtupAL, q_gRevD, q_revT, q_revL, q_gCallKw, q_eqO, q_gCallVS, q_gOpO, q_gUnO, q_gCMeth, q_gMakeV, q_gSlot, q_gMakeS, q_sSlot, q_gMethS, q_isS, q_lc3, q_tru, q_onTl, q_onTt, q_onTb, q_onTi, q_onTn, q_lstRev, q_lstRg2, q_lstRg1, q_prop, q_inO, q_gOpL, q_neO, q_gOpN, q_lstZip, q_repr, q_isXT, sp_rests, sp_closes_at, sp__law_at_most, sp__law_closed_by]
  have nl := (List.getElem?_eq_some_iff.mp hl).1
  have hls : ls.length = (ls.take n ++ [Ls.t a b] ++ ls.drop (n + 1)).length := by simp; omega
  have oh : ∀ l ∈ ls.take n ++ [Ls.t a b] ++ ls.drop (n + 1), ChOk l.c := ls_app (ls_app (ls_take _ lo) (ls_one om)) (ls_drop _ lo)
  have ol := lo l (List.mem_of_getElem? hl)
  have ok := ls_ok (by omega) lo
  have okh := ls_ok (by omega) oh
  have U : Up (lsC ls) (lsC (ls.take n ++ [Ls.t a b] ++ ls.drop (n + 1))) := by
    have e1 : lsC ls = lsC (ls.take n) ++ l.c :: lsC (ls.drop (n + 1)) := by
      have := congrArg lsC (ls_split hl)
      rw [this]
      unfold lsC
      rw [List.map_append]
      rfl
    have e2 : lsC (ls.take n ++ [Ls.t a b] ++ ls.drop (n + 1)) = lsC (ls.take n) ++ (a, b) :: lsC (ls.drop (n + 1)) := by
      unfold lsC
      rw [List.map_append, List.map_append, List.append_assoc]
      rfl
    rw [e1, e2]
    exact up_app (cs := []) (ls_ok (by simp; omega) (ls_take _ lo)).2 (ls_ok (by simp; omega) (ls_drop _ lo)).2 ol om h
  have k := mono_core (1, 1) (1, 1) U ro1 ro1 (leR_refl _)
  refine sl_take (ls := ls) ⟨lsz (by simp), add_ls (as := ls.take n) (bs := [Ls.t a b]) (by simp; omega) (by simp) ?_⟩
  (try dsimp only [q_op, q_un, q_var, q_c, q_nil, q_cons, q_tup, q_frz, q_cel, q_lst, q_test, q_onB, q_and, q_or, q_not, q_andV, q_orV, q_notV, q_if, q_chain, q_next, q_seq, q_drop, q_ret, q_retF, q_retN, q_sif, q_break, q_cont, q_name, q_dnil, q_dcons, q_dtup, q_asg, q_set, q_par, q_for, q_range1, q_range2, q_iseq, q_ienum, q_call, q_cb, q_ncb, q_nop, q_lenset, q_mt, q_mt0, q_setix, q_augs, q_aug, q_nsl, q_onone, q_osome, q_gsl, q_raise, q_raiseF, q_try, q_lc, q_lc2, q_yes, q_wipe0, q_wipe, q_xf, q_I, q_I0, q_U, q_add, q_addT, q_addL, q_addR, q_onL, q_onSt, q_onSl, q_onSs, q_onSrct, q_onSrcl, q_eqI, q_eqB, q_eqS, q_eqN, q_isN, q_ix, q_ixL, q_in, q_len, q_sum, q_max, q_min, q_max2, q_min2, q_abs, q_int, q_intB, q_tupof, q_lstof, q_sort, q_rep, q_cat, q_isi, q_isis, q_setat, q_onC, q_append, q_pop, q_popAt, q_reverse, q_insert, q_sp1, q_sp2, q_sp3, q_sp4, q_at0, q_atS, q_st0, q_stS, q_iteT, q_iteF, q_isB, q_sumS, q_all, q_any, q_repT, q_spV, q_nLcX, q_sFz, q_gFld, q_sFldD, q_gMake, q_gCallI, q_gMeth, q_iOwnF, q_isO, q_gIxI, q_lenO, q_modN, q_divmod, q_gSMeth, q_dtupA, q_dtupAL, q_gRevD, q_revT, q_revL, q_gCallKw, q_eqO, q_gCallVS, q_gOpO, q_gUnO, q_gCMeth, q_gMakeV, q_gSlot, q_gMakeS, q_sSlot, q_gMethS, q_isS, q_lc3, q_tru, q_onTl, q_onTt, q_onTb, q_onTi, q_onTn, q_lstRev, q_lstRg2, q_lstRg1, q_prop, q_inO, q_gOpL, q_neO, q_gOpN, q_lstZip, q_repr, q_isXT])
  rw [show ((n : Nat) : Int) + 1 = ((n + 1 : Nat) : Int) by omega]
  refine sl_drop (ls := ls) (add_ls (by simp; omega) (by simp; omega) ?_)
  generalize ls.take n ++ [Ls.t a b] ++ ls.drop (n + 1) = hs at *
  refine lossC_ls RowD.lst (by omega) lo (lossC_ls RowD.lst (by omega) oh ?_)
  have l1 := rests_len (lsC ls) (1, 1)
  have l2 := rests_len (lsC hs) (1, 1)
  have b1 : (lsC ls).length ≤ 16 := by unfold lsC; rw [List.length_map]; exact l16
  have b2 : (lsC hs).length ≤ 16 := by unfold lsC; rw [List.length_map]; omega
  have k1 : (restsL (lsC hs)).length ≤ (restsL (lsC ls)).length := k.1
  have b3 : (restsL (lsC ls)).length ≤ 17 := by unfold restsL; omega
  (try dsimp only [q_op, q_un, q_var, q_c, q_nil, q_cons, q_tup, q_frz, q_cel, q_lst, q_test, q_onB, q_and, q_or, q_not, q_andV, q_orV, q_notV, q_if, q_chain, q_next, q_seq, q_drop, q_ret, q_retF, q_retN, q_sif, q_break, q_cont, q_name, q_dnil, q_dcons, q_dtup, q_asg, q_set, q_par, q_for, q_range1, q_range2, q_iseq, q_ienum, q_call, q_cb, q_ncb, q_nop, q_lenset, q_mt, q_mt0, q_setix, q_augs, q_aug, q_nsl, q_onone, q_osome, q_gsl, q_raise, q_raiseF, q_try, q_lc, q_lc2, q_yes, q_wipe0, q_wipe, q_xf, q_I, q_I0, q_U, q_add, q_addT, q_addL, q_addR, q_onL, q_onSt, q_onSl, q_onSs, q_onSrct, q_onSrcl, q_eqI, q_eqB, q_eqS, q_eqN, q_isN, q_ix, q_ixL, q_in, q_len, q_sum, q_max, q_min, q_max2, q_min2, q_abs, q_int, q_intB, q_tupof, q_lstof, q_sort, q_rep, q_cat, q_isi, q_isis, q_setat, q_onC, q_append, q_pop, q_popAt, q_reverse, q_insert, q_sp1, q_sp2, q_sp3, q_sp4, q_at0, q_atS, q_st0, q_stS, q_iteT, q_iteF, q_isB, q_sumS, q_all, q_any, q_repT, q_spV, q_nLcX, q_sFz, q_gFld, q_sFldD, q_gMake, q_gCallI, q_gMeth, q_iOwnF, q_isO, q_gIxI, q_lenO, q_modN, q_divmod, q_gSMeth, q_dtupA, q_dtupAL, q_gRevD, q_revT, q_revL, q_gCallKw, q_eqO, q_gCallVS, q_gOpO, q_gUnO, q_gCMeth, q_gMakeV, q_gSlot, q_gMakeS, q_sSlot, q_gMethS, q_isS, q_lc3, q_tru, q_onTl, q_onTt, q_onTb, q_onTi, q_onTn, q_lstRev, q_lstRg2, q_lstRg1, q_prop, q_inO, q_gOpL, q_neO, q_gOpN, q_lstZip, q_repr, q_isXT])
  rw [List.length_map, List.length_map]
  refine ⟨by omega, ?_⟩
  rw [show (min ((restsL (lsC ls)).length : Int) ((restsL (lsC hs)).length : Int)).toNat = (restsL (lsC hs)).length by omega]
  refine loop_rg0 (fun k ρ M2 => (∃ y : Option DL.D, ρ = [some (lsD ls), some (.int (n : Nat)), x2, x3, some (.tup [.int a, .int b]), some (lsD hs), some (.tup ((restsL (lsC ls)).map frP)), some (.tup ((restsL (lsC hs)).map frP)), y, none]) ∧ M2 = M) ?_ ?_ ⟨⟨_, rfl⟩, rfl⟩
  · rintro j ρ M2 hj ⟨⟨y, rfl⟩, rfl⟩ Nx hN
    have g2 : (restsL (lsC hs))[j]? = some (restsL (lsC hs))[j] := List.getElem?_eq_getElem hj
    have g1 : (restsL (lsC ls))[j]? = some ((restsL (lsC ls))[j]'(by omega)) := List.getElem?_eq_getElem (by omega)
    have le := k.2.1 j _ _ g1 g2
    obtain ⟨ro2, n3, n4⟩ := rests_ok okh (List.mem_of_getElem? g2)
    obtain ⟨ro1', n1, n2⟩ := rests_ok ok (List.mem_of_getElem? g1)
    generalize (restsL (lsC hs))[j] = r2 at *
    generalize (restsL (lsC ls))[j]'_ = r1 at *
    (try dsimp only [q_op, q_un, q_var, q_c, q_nil, q_cons, q_tup, q_frz, q_cel, q_lst, q_test, q_onB, q_and, q_or, q_not, q_andV, q_orV, q_notV, q_if, q_chain, q_next, q_seq, q_drop, q_ret, q_retF, q_retN, q_sif, q_break, q_cont, q_name, q_dnil, q_dcons, q_dtup, q_asg, q_set, q_par, q_for, q_range1, q_range2, q_iseq, q_ienum, q_call, q_cb, q_ncb, q_nop, q_lenset, q_mt, q_mt0, q_setix, q_augs, q_aug, q_nsl, q_onone, q_osome, q_gsl, q_raise, q_raiseF, q_try, q_lc, q_lc2, q_yes, q_wipe0, q_wipe, q_xf, q_I, q_I0, q_U, q_add, q_addT, q_addL, q_addR, q_onL, q_onSt, q_onSl, q_onSs, q_onSrct, q_onSrcl, q_eqI, q_eqB, q_eqS, q_eqN, q_isN, q_ix, q_ixL, q_in, q_len, q_sum, q_max, q_min, q_max2, q_min2, q_abs, q_int, q_intB, q_tupof, q_lstof, q_sort, q_rep, q_cat, q_isi, q_isis, q_setat, q_onC, q_append, q_pop, q_popAt, q_reverse, q_insert, q_sp1, q_sp2, q_sp3, q_sp4, q_at0, q_atS, q_st0, q_stS, q_iteT, q_iteF, q_isB, q_sumS, q_all, q_any, q_repT, q_spV, q_nLcX, q_sFz, q_gFld, q_sFldD, q_gMake, q_gCallI, q_gMeth, q_iOwnF, q_isO, q_gIxI, q_lenO, q_modN, q_divmod, q_gSMeth, q_dtupA, q_dtupAL, q_gRevD, q_revT, q_revL, q_gCallKw, q_eqO, q_gCallVS, q_gOpO, q_gUnO, q_gCMeth, q_gMakeV, q_gSlot, q_gMakeS, q_sSlot, q_gMethS, q_isS, q_lc3, q_tru, q_onTl, q_onTt, q_onTb, q_onTi, q_onTn, q_lstRev, q_lstRg2, q_lstRg1, q_prop, q_inO, q_gOpL, q_neO, q_gOpN, q_lstZip, q_repr, q_isXT])
    refine ⟨_, frs_at g2, _, frs_at g1, _, _, _, _, rfl, rfl, nb_mono (lo_nb1 ro2.1 n3) (by omega), nb_mono (lo_nb2 ro2.1 n4) (by omega), nb_mono (lo_nb1 ro1'.1 n1) (by omega), nb_mono (lo_nb2 ro1'.1 n2) (by omega), ?_⟩
    rw [decide_eq_true (le_fr ro2.1 ro1'.1 le)]
    exact if_f rfl (hN _ _ ⟨⟨_, rfl⟩, rfl⟩)
  · rintro ρ M2 ⟨⟨y, rfl⟩, rfl⟩
    dsimp only [q_op, q_un, q_var, q_c, q_nil, q_cons, q_tup, q_frz, q_cel, q_lst, q_test, q_onB, q_and, q_or, q_not, q_andV, q_orV, q_notV, q_if, q_chain, q_next, q_seq, q_drop, q_ret, q_retF, q_retN, q_sif, q_break, q_cont, q_name, q_dnil, q_dcons, q_dtup, q_asg, q_set, q_par, q_for, q_range1, q_range2, q_iseq, q_ienum, q_call, q_cb, q_ncb, q_nop, q_lenset, q_mt, q_mt0, q_setix, q_augs, q_aug, q_nsl, q_onone, q_osome, q_gsl, q_raise, q_raiseF, q_try, q_lc, q_lc2, q_yes, q_wipe0, q_wipe, q_xf, q_I, q_I0, q_U, q_add, q_addT, q_addL, q_addR, q_onL, q_onSt, q_onSl, q_onSs, q_onSrct, q_onSrcl, q_eqI, q_eqB, q_eqS, q_eqN, q_isN, q_ix, q_ixL, q_in, q_len, q_sum, q_max, q_min, q_max2, q_min2, q_abs, q_int, q_intB, q_tupof, q_lstof, q_sort, q_rep, q_cat, q_isi, q_isis, q_setat, q_onC, q_append, q_pop, q_popAt, q_reverse, q_insert, q_sp1, q_sp2, q_sp3, q_sp4, q_at0, q_atS, q_st0, q_stS, q_iteT, q_iteF, q_isB, q_sumS, q_all, q_any, q_repT, q_spV, q_nLcX, q_sFz, q_gFld, q_sFldD, q_gMake, q_gCallI, q_gMeth, q_iOwnF, q_isO, q_gIxI, q_lenO, q_modN, q_divmod, q_gSMeth, q_dtupA, q_dtupAL, q_gRevD, q_revT, q_revL, q_gCallKw, q_eqO, q_gCallVS, q_gOpO, q_gUnO, q_gCMeth, q_gMakeV, q_gSlot, q_gMakeS, q_sSlot, q_gMethS, q_isS, q_lc3, q_tru, q_onTl, q_onTt, q_onTb, q_onTi, q_onTn, q_lstRev, q_lstRg2, q_lstRg1, q_prop, q_inO, q_gOpL, q_neO, q_gOpN, q_lstZip, q_repr, q_isXT, sp_closes_at, sp__law_closed_by]
    refine lossC_ls RowD.lst (by omega) lo ?_
    rw [List.length_map, List.length_map]
    have fin : Q (.bl (decide (((restsL (lsC hs)).length : Int) ≤ ((restsL (lsC ls)).length : Int)))) M2 := by
      rw [decide_eq_true (by omega)]; exact q
    cases z : cloL (lsC ls) with
    | none =>
      rw [cloD_non z]
      exact if_f rfl fin
    | some m =>
      rw [cloD_int z]
      refine if_t rfl ⟨hs, _, rfl, by omega, oh, rfl, ?_⟩
      rw [(by_raised U z).1]
      exact if_f rfl fin
theorem b__law_raised : ∀ d0 d1 d2 M Q E, sp__law_raised K [d0, d1, d2] M Q E → g__law_raised K { nx := fun _ M => Q .non M, rt := Q, ex := fun x _ M => E x M } [some d0, some d1, some d2, none, none, none, none, none, none, none] M := by
  rintro d0 d1 d2 M Q E ⟨ls, n, i, rfl, ⟨l16, lo⟩, rfl, hn, rfl, i0, i3, q⟩
  obtain ⟨l, hl⟩ : ∃ l, ls[n]? = some l := ⟨_, List.getElem?_eq_getElem hn⟩
  have ol := lo l (List.mem_of_getElem? hl)
  unfold g__law_raised
  generalize hT : (sSeq (sSet 5 _) _ : DS) = TL
  have hT : gRs1 K = TL := hT
  dsimp only [q_op, q_un, q_var, q_c, q_nil, q_cons, q_tup, q_frz, q_cel, q_lst, q_test, q_onB, q_and, q_or, q_not, q_andV, q_orV, q_notV, q_if, q_chain, q_next, q_seq, q_drop, q_ret, q_retF, q_retN, q_sif, q_break, q_cont, q_name, q_dnil, q_dcons, q_dtup, q_asg, q_set, q_par, q_for, q_range1, q_range2, q_iseq, q_ienum, q_call, q_cb, q_ncb, q_nop, q_lenset, q_mt, q_mt0, q_setix, q_augs, q_aug, q_nsl, q_onone, q_osome, q_gsl, q_raise, q_raiseF, q_try, q_lc, q_lc2, q_yes, q_wipe0, q_wipe, q_xf, q_I, q_I0, q_U, q_add, q_addT, q_addL, q_addR, q_onL, q_onSt, q_onSl, q_onSs, q_onSrct, q_onSrcl, q_eqI, q_eqB, q_eqS, q_eqN, q_isN, q_ix, q_ixL, q_in, q_len, q_sum, q_max, q_min, q_max2, q_min2, q_abs, q_int, q_intB, q_tupof, q_lstof, q_sort, q_rep, q_cat, q_isi, q_isis, q_setat, q_onC, q_append, q_pop, q_popAt, q_reverse, q_insert, q_sp1, q_sp2, q_sp3, q_sp4, q_at0, q_atS, q_st0, q_stS, q_iteT, q_iteF, q_isB, q_sumS, q_all, q_any, q_repT, q_spV, q_nLcX, q_sFz, q_gFld, q_sFldD, q_gMake, q_gCallI, q_gMeth, q_iOwnF, q_isO, q_gIxI, q_lenO, q_modN, q_divmod, q_gSMeth, q_dtupA, q_dtupAL, q_gRevD, q_revT, q_revL, q_gCallKw, q_eqO, q_gCallVS, q_gOpO, q_gUnO, q_gCMeth, q_gMakeV, q_gSlot, q_gMakeS, q_sSlot, q_gMethS, q_isS, q_lc3, q_tru, q_onTl, q_onTt, q_onTb, q_onTi, q_onTn, q_lstRev, q_lstRg2, q_lstRg1, q_prop, q_inO, q_gOpL, q_neO, q_gOpN, q_lstZip, q_repr, q_isXT, sp__law_pair]
  refine ⟨_, ls_at hl, l, rfl, RowD.onS RowD.tup ⟨_, rfl, RowD.onS RowD.tup ⟨_, rfl, ?_⟩⟩⟩
  (try dsimp only [q_op, q_un, q_var, q_c, q_nil, q_cons, q_tup, q_frz, q_cel, q_lst, q_test, q_onB, q_and, q_or, q_not, q_andV, q_orV, q_notV, q_if, q_chain, q_next, q_seq, q_drop, q_ret, q_retF, q_retN, q_sif, q_break, q_cont, q_name, q_dnil, q_dcons, q_dtup, q_asg, q_set, q_par, q_for, q_range1, q_range2, q_iseq, q_ienum, q_call, q_cb, q_ncb, q_nop, q_lenset, q_mt, q_mt0, q_setix, q_augs, q_aug, q_nsl, q_onone, q_osome, q_gsl, q_raise, q_raiseF, q_try, q_lc, q_lc2, q_yes, q_wipe0, q_wipe, q_xf, q_I, q_I0, q_U, q_add, q_addT, q_addL, q_addR, q_onL, q_onSt, q_onSl, q_onSs, q_onSrct, q_onSrcl, q_eqI, q_eqB, q_eqS, q_eqN, q_isN, q_ix, q_ixL, q_in, q_len, q_sum, q_max, q_min, q_max2, q_min2, q_abs, q_int, q_intB, q_tupof, q_lstof, q_sort, q_rep, q_cat, q_isi, q_isis, q_setat, q_onC, q_append, q_pop, q_popAt, q_reverse, q_insert, q_sp1, q_sp2, q_sp3, q_sp4, q_at0, q_atS, q_st0, q_stS, q_iteT, q_iteF, q_isB, q_sumS, q_all, q_any, q_repT, q_spV, q_nLcX, q_sFz, q_gFld, q_sFldD, q_gMake, q_gCallI, q_gMeth, q_iOwnF, q_isO, q_gIxI, q_lenO, q_modN, q_divmod, q_gSMeth, q_dtupA, q_dtupAL, q_gRevD, q_revT, q_revL, q_gCallKw, q_eqO, q_gCallVS, q_gOpO, q_gUnO, q_gCMeth, q_gMakeV, q_gSlot, q_gMakeS, q_sSlot, q_gMethS, q_isS, q_lc3, q_tru, q_onTl, q_onTt, q_onTb, q_onTi, q_onTn, q_lstRev, q_lstRg2, q_lstRg1, q_prop, q_inO, q_gOpL, q_neO, q_gOpN, q_lstZip, q_repr, q_isXT])
  refine RowD.onS RowD.tup ⟨_, rfl, ?_⟩
  (try dsimp only [q_op, q_un, q_var, q_c, q_nil, q_cons, q_tup, q_frz, q_cel, q_lst, q_test, q_onB, q_and, q_or, q_not, q_andV, q_orV, q_notV, q_if, q_chain, q_next, q_seq, q_drop, q_ret, q_retF, q_retN, q_sif, q_break, q_cont, q_name, q_dnil, q_dcons, q_dtup, q_asg, q_set, q_par, q_for, q_range1, q_range2, q_iseq, q_ienum, q_call, q_cb, q_ncb, q_nop, q_lenset, q_mt, q_mt0, q_setix, q_augs, q_aug, q_nsl, q_onone, q_osome, q_gsl, q_raise, q_raiseF, q_try, q_lc, q_lc2, q_yes, q_wipe0, q_wipe, q_xf, q_I, q_I0, q_U, q_add, q_addT, q_addL, q_addR, q_onL, q_onSt, q_onSl, q_onSs, q_onSrct, q_onSrcl, q_eqI, q_eqB, q_eqS, q_eqN, q_isN, q_ix, q_ixL, q_in, q_len, q_sum, q_max, q_min, q_max2, q_min2, q_abs, q_int, q_intB, q_tupof, q_lstof, q_sort, q_rep, q_cat, q_isi, q_isis, q_setat, q_onC, q_append, q_pop, q_popAt, q_reverse, q_insert, q_sp1, q_sp2, q_sp3, q_sp4, q_at0, q_atS, q_st0, q_stS, q_iteT, q_iteF, q_isB, q_sumS, q_all, q_any, q_repT, q_spV, q_nLcX, q_sFz, q_gFld, q_sFldD, q_gMake, q_gCallI, q_gMeth, q_iOwnF, q_isO, q_gIxI, q_lenO, q_modN, q_divmod, q_gSMeth, q_dtupA, q_dtupAL, q_gRevD, q_revT, q_revL, q_gCallKw, q_eqO, q_gCallVS, q_gOpO, q_gUnO, q_gCMeth, q_gMakeV, q_gSlot, q_gMakeS, q_sSlot, q_gMethS, q_isS, q_lc3, q_tru, q_onTl, q_onTt, q_onTb, q_onTi, q_onTn, q_lstRev, q_lstRg2, q_lstRg1, q_prop, q_inO, q_gOpL, q_neO, q_gOpN, q_lstZip, q_repr, q_isXT])
  obtain ⟨o1, o2, o3, o4⟩ := id ol
  refine ⟨cmul (a := 10) (b := 20) (by unfold nb; omega) (by unfold nb; omega), lsz (by simp), lsz (by simp), lsz (by simp), ?_⟩
  have go : ∀ a b : Int, ChOk (a, b) → l.c.1 * b ≤ a * l.c.2 → ∀ x2 x3, TL { nx := fun x M => Q .non M, rt := Q, ex := fun x x_1 M => E x M } [some (lsD ls), some (.int (n : Nat)), x2, x3, some (.tup [.int a, .int b]), none, none, none, none, none] M := fun a b om h x2 x3 => by
    rw [← hT]
    exact raised_tail l16 lo hl om h q
  have one : ChOk (1, 1) := ⟨by decide, by decide, by decide, by decide⟩
  have big : ∀ d : DL.D, (l.c.2 ≤ 1000 → TL { nx := fun x M => Q .non M, rt := Q, ex := fun x x_1 M => E x M } [some (lsD ls), some (.int (n : Nat)), some (.int i), some (prD l.c), some d, none, none, none, none, none] M) → onS M (prD l.c) fun ds => ∃ d_1, atI ds 1 = some d_1 ∧ dGt d_1 (.int 1000) M fun d_2 M1 => onB (fun k M1 => if k = true then [DL.D.int 1, DL.D.int 1].length ≤ sizeLine ∧ TL { nx := fun x M => Q .non M, rt := Q, ex := fun x x_1 M => E x M } [some (lsD ls), some (.int (n : Nat)), some (.int i), some (prD l.c), some (.tup [.int 1, .int 1]), none, none, none, none, none] M1 else TL { nx := fun x M => Q .non M, rt := Q, ex := fun x x_1 M => E x M } [some (lsD ls), some (.int (n : Nat)), some (.int i), some (prD l.c), some d, none, none, none, none, none] M1) M1 d_2 := fun d h => by
    refine RowD.onS RowD.tup ⟨_, rfl, ?_⟩
    (try dsimp only [q_op, q_un, q_var, q_c, q_nil, q_cons, q_tup, q_frz, q_cel, q_lst, q_test, q_onB, q_and, q_or, q_not, q_andV, q_orV, q_notV, q_if, q_chain, q_next, q_seq, q_drop, q_ret, q_retF, q_retN, q_sif, q_break, q_cont, q_name, q_dnil, q_dcons, q_dtup, q_asg, q_set, q_par, q_for, q_range1, q_range2, q_iseq, q_ienum, q_call, q_cb, q_ncb, q_nop, q_lenset, q_mt, q_mt0, q_setix, q_augs, q_aug, q_nsl, q_onone, q_osome, q_gsl, q_raise, q_raiseF, q_try, q_lc, q_lc2, q_yes, q_wipe0, q_wipe, q_xf, q_I, q_I0, q_U, q_add, q_addT, q_addL, q_addR, q_onL, q_onSt, q_onSl, q_onSs, q_onSrct, q_onSrcl, q_eqI, q_eqB, q_eqS, q_eqN, q_isN, q_ix, q_ixL, q_in, q_len, q_sum, q_max, q_min, q_max2, q_min2, q_abs, q_int, q_intB, q_tupof, q_lstof, q_sort, q_rep, q_cat, q_isi, q_isis, q_setat, q_onC, q_append, q_pop, q_popAt, q_reverse, q_insert, q_sp1, q_sp2, q_sp3, q_sp4, q_at0, q_atS, q_st0, q_stS, q_iteT, q_iteF, q_isB, q_sumS, q_all, q_any, q_repT, q_spV, q_nLcX, q_sFz, q_gFld, q_sFldD, q_gMake, q_gCallI, q_gMeth, q_iOwnF, q_isO, q_gIxI, q_lenO, q_modN, q_divmod, q_gSMeth, q_dtupA, q_dtupAL, q_gRevD, q_revT, q_revL, q_gCallKw, q_eqO, q_gCallVS, q_gOpO, q_gUnO, q_gCMeth, q_gMakeV, q_gSlot, q_gMakeS, q_sSlot, q_gMethS, q_isS, q_lc3, q_tru, q_onTl, q_onTt, q_onTb, q_onTi, q_onTn, q_lstRev, q_lstRg2, q_lstRg1, q_prop, q_inO, q_gOpL, q_neO, q_gOpN, q_lstZip, q_repr, q_isXT])
    by_cases c : 1000 < l.c.2
    · exact if_t (decide_eq_true c) ⟨lsz (by simp), go 1 1 one (by omega) _ _⟩
    · exact if_f (decide_eq_false c) (h (by omega))
  rcases (show i = 0 ∨ i = 1 ∨ i = 2 by omega) with rfl | rfl | rfl
  · exact ⟨_, rfl, big _ fun h => go _ _ ⟨by show 0 ≤ l.c.1 + l.c.2; omega, by show l.c.1 + l.c.2 ≤ 2 * l.c.2; omega, by show 1 ≤ 2 * l.c.2; omega, by show 2 * l.c.2 ≤ _; omega⟩ (by
      have e : l.c.1 * (2 * l.c.2) = l.c.1 * l.c.2 + l.c.1 * l.c.2 := by grind
      have e2 : (l.c.1 + l.c.2) * l.c.2 = l.c.1 * l.c.2 + l.c.2 * l.c.2 := by grind
      have := Int.mul_le_mul_of_nonneg_right o2 (show 0 ≤ l.c.2 by omega)
      omega) _ _⟩
  · exact ⟨_, rfl, big _ fun h => go _ _ one (by omega) _ _⟩
  · exact ⟨_, rfl, big _ fun h => go _ _ ol (Int.le_refl _) _ _⟩
end
end LW

namespace LW
open PySem PySem.Spec PyProof.Rows L2 DL
theorem one_shut {as : List PP} {c : PP} (ha : ∀ x ∈ as, ChOk x) (hc : 0 < c.2) (h : c.1 = c.2) : (finL (as ++ [c])).1 ≤ 0 := by
  have ro := fin_ro ha ro1
  unfold finL
  rw [fin_snoc]
  by_cases z : 0 < (finF as (1, 1)).1
  · rw [if_pos z]
    generalize finF as (1, 1) = L at *
    unfold nxt
    dsimp only
    rw [h]
    have := Int.mul_le_mul_of_nonneg_left ro.2 (show 0 ≤ c.2 by omega)
    omega
  · rw [if_neg z]; omega
theorem two_shut {as : List PP} {c d : PP} (ha : ∀ x ∈ as, ChOk x) (hc : ChOk c) (hd : ChOk d) (h : c.2 * d.2 ≤ c.1 * d.2 + d.1 * c.2) : (finL (as ++ [c] ++ [d])).1 ≤ 0 := by
  have ro := fin_ro ha ro1
  unfold finL
  rw [fin_snoc]
  by_cases w : 0 < (finF (as ++ [c]) (1, 1)).1
  · rw [if_pos w]
    rw [fin_snoc] at w ⊢
    by_cases z : 0 < (finF as (1, 1)).1
    · rw [if_pos z] at w ⊢
      generalize finF as (1, 1) = L at *
      obtain ⟨p, q⟩ := L
      obtain ⟨a, b⟩ := c
      obtain ⟨u, v⟩ := d
      unfold nxt at *
      dsimp only at *
      obtain ⟨c1, c2, c3, _⟩ := hc
      obtain ⟨d1, d2, d3, _⟩ := hd
      dsimp only at *
      have m1 := Int.mul_le_mul_of_nonneg_left h (show 0 ≤ p by omega)
      have m2 := Int.mul_le_mul_of_nonneg_left ro.2 (show 0 ≤ a * v from Int.mul_nonneg c1 (by omega))
      dsimp only at m2
      have e1 : v * (b * p - a * q) - u * (b * p) = p * (b * v) - p * (u * b) - a * v * q := by grind
      have e2 : p * (a * v + u * b) = a * v * p + p * (u * b) := by grind
      omega
    · rw [if_neg z] at w; exact (z w).elim
  · rw [if_neg w]; omega
def SmallC (c : PP) : Prop := 4 * c.1 ≤ c.2
instance (c : PP) : Decidable (SmallC c) := inferInstanceAs (Decidable (4 * c.1 ≤ c.2))
theorem half_core : ∀ (cs : List PP) (r : PP), (∀ c ∈ cs, ChOk c) → (∀ c ∈ cs, SmallC c) → RO r → r.2 ≤ 2 * r.1 → 0 < (finF cs r).1 ∧ ∀ s ∈ restsF cs r, s.2 ≤ 2 * s.1
  | [], r, _, _, ro, h => ⟨by have := ro.1; show 0 < r.1; omega, fun s hs => by cases List.mem_singleton.mp hs; exact h⟩
  | c :: cs, r, hc, hs, ro, h => by
    have x : 0 < r.1 := by have := ro.1; omega
    have k := hc c (List.mem_cons_self ..)
    have f1 : finF (c :: cs) r = finF cs (nxt c r) := if_pos x
    have f2 : restsF (c :: cs) r = r :: restsF cs (nxt c r) := if_pos x
    rw [f1, f2]
    obtain ⟨i1, i2⟩ := half_core cs (nxt c r) (fun a h => hc a (List.mem_cons_of_mem _ h)) (fun a h => hs a (List.mem_cons_of_mem _ h)) (nxt_ok k ro x) (by
      have sm : 4 * c.1 ≤ c.2 := hs c (List.mem_cons_self ..)
      unfold nxt
      dsimp only
      have m1 := Int.mul_le_mul_of_nonneg_left h k.1
      have m2 := Int.mul_le_mul_of_nonneg_right sm (show 0 ≤ r.1 by omega)
      have e1 : c.1 * (2 * r.1) = 2 * (c.1 * r.1) := by grind
      have e2 : 4 * c.1 * r.1 = 4 * (c.1 * r.1) := by grind
      omega)
    exact ⟨i1, fun s hs => (List.mem_cons.mp hs).elim (fun e => by rw [e]; exact h) (i2 s)⟩
section
variable {K : PySem.W.Frag} {mg : Str → Option Value}
theorem lsC_at {ls : List Ls} {k : Nat} {l : Ls} (h : ls[k]? = some l) : (lsC ls)[k]? = some l.c := by unfold lsC; rw [List.getElem?_map, h]; rfl
theorem take_at {cs : List PP} {k : Nat} {c : PP} (h : cs[k]? = some c) : cs.take (k + 1) = cs.take k ++ [c] := by rw [List.take_succ, h]; rfl
theorem by_here {cs : List PP} {k : Nat} (hk : k < cs.length) (h : (finL (cs.take (k + 1))).1 ≤ 0) : byB cs ((k : Int) + 1) = true := by
  have := by_part (bs := cs.drop (k + 1)) h
  rw [List.take_append_drop, List.length_take, Nat.min_eq_left (by omega)] at this
  exact this
def gFo2 (K : PySem.W.Frag) : DS :=
  (sIf (gTest (gOp dGt (gVar 4) (gC (.int 0)))) (sSeq (sSet 5 (gOp dIx (gVar 1) (gOp dSub (gVar 4) (gC (.int 1)))))
    (sSeq (sSet 6 (gOp dAdd (gOp dMul (gOp dIx (gVar 5) (gC (.int 0))) (gOp dIx (gOp dIx (gVar 1) (gVar 4)) (gC (.int 1)))) (gOp dMul (gOp dIx (gOp dIx (gVar 1) (gVar 4)) (gC (.int 0))) (gOp dIx (gVar 5) (gC (.int 1))))))
    (sIf (gAnd (gTest (gOp dGe (gVar 6) (gOp dMul (gOp dIx (gVar 5) (gC (.int 1))) (gOp dIx (gOp dIx (gVar 1) (gVar 4)) (gC (.int 1)))))) (gNot (gTest (gCall (sp__law_closed_by K) (aCons (gVar 0) (aCons (gOp dAdd (gVar 4) (gC (.int 1))) aNil)))))) (sRet (gC (.bl false))) sNext))) sNext)
def gFo1 (K : PySem.W.Frag) : DS :=
  (sSeq (sIf (gTest (gOp dGt (gOp dMul (gC (.int 4)) (gOp dIx (gOp dIx (gVar 1) (gVar 4)) (gC (.int 0)))) (gOp dIx (gOp dIx (gVar 1) (gVar 4)) (gC (.int 1))))) (sSet 3 (gC (.bl false))) sNext)
    (gFo2 K))
theorem on_pr {M : Mem} {c : PP} {R : List DL.D → Prop} (h : R [.int c.1, .int c.2]) : onS M (prD c) R := RowD.onS RowD.tup h
theorem forced2 {M : Mem} {Q : DVK} {E : DXK} {Nx : Dv → Mem → Prop} {bk : Dv → Mem → Prop} {ls : List Ls} {k : Nat} {c : PP} {x3 b b2 : Option DL.D} (l16 : ls.length ≤ 16) (lo : ∀ l ∈ ls, ChOk l.c) (hc : (lsC ls)[k]? = some c)
    (hN : ∀ b c, Nx [some (lsD ls), some (.lst ((lsC ls).map prD)), none, x3, some (.int (k : Nat)), b, c, none] M) :
    gFo2 K { nx := Nx, ct := Nx, bk := bk, rt := Q, ex := fun x _ M => E x M } [some (lsD ls), some (.lst ((lsC ls).map prD)), none, x3, some (.int (k : Nat)), b, b2, none] M := by
  unfold gFo2
  dsimp only [q_op, q_un, q_var, q_c, q_nil, q_cons, q_tup, q_frz, q_cel, q_lst, q_test, q_onB, q_and, q_or, q_not, q_andV, q_orV, q_notV, q_if, q_chain, q_next, q_seq, q_drop, q_ret, q_retF, q_retN, q_sif, q_break, q_cont, q_name, q_dnil, q_dcons, q_dtup, q_asg, q_set, q_par, q_for, q_range1, q_range2, q_iseq, q_ienum, q_call, q_cb, q_ncb, q_nop, q_lenset, q_mt, q_mt0, q_setix, q_augs, q_aug, q_nsl, q_onone, q_osome, q_gsl, q_raise, q_raiseF, q_try, q_lc, q_lc2, q_yes, q_wipe0, q_wipe, q_xf, q_I, q_I0, q_U, q_add, q_addT, q_addL, q_addR, q_onL, q_onSt, q_onSl, q_onSs, q_onSrct, q_onSrcl, q_eqI, q_eqB, q_eqS, q_eqN, q_isN, q_ix, q_ixL, q_in, q_len, q_sum, q_max, q_min, q_max2, q_min2, q_abs, q_int, q_intB, q_tupof, q_lstof, q_sort, q_rep, q_cat, q_isi, q_isis, q_setat, q_onC, q_append, q_pop, q_popAt, q_reverse, q_insert, q_sp1, q_sp2, q_sp3, q_sp4, q_at0, q_atS, q_st0, q_stS, q_iteT, q_iteF, q_isB, q_sumS, q_all, q_any, q_repT, q_spV, q_nLcX, q_sFz, q_gFld, q_sFldD, q_gMake, q_gCallI, q_gMeth, q_iOwnF, q_isO, q_gIxI, q_lenO, q_modN, q_divmod, q_gSMeth, q_dtupA, q_dtupAL, q_gRevD, q_revT, q_revL, q_gCallKw, q_eqO, q_gCallVS, q_gOpO, q_gUnO, q_gCMeth, q_gMakeV, q_gSlot, q_gMakeS, q_sSlot, q_gMethS, q_isS, q_lc3, q_tru, q_onTl, q_onTt, q_onTb, q_onTi, q_onTn, q_lstRev, q_lstRg2, q_lstRg1, q_prop, q_inO, q_gOpL, q_neO, q_gOpN, q_lstZip, q_repr, q_isXT, sp__law_closed_by]
  have ok := ls_ok (by omega) lo
  have hk := (List.getElem?_eq_some_iff.mp hc).1
  by_cases z : (0 : Int) < (k : Int)
  · refine if_t (decide_eq_true z) ?_
    obtain ⟨j, rfl⟩ : ∃ j, k = j + 1 := ⟨k - 1, by omega⟩
    obtain ⟨e, he⟩ : ∃ e, (lsC ls)[j]? = some e := ⟨_, List.getElem?_eq_getElem (by omega)⟩
    have oc := ok.2 c (List.mem_of_getElem? hc)
    have oe := ok.2 e (List.mem_of_getElem? he)
    obtain ⟨o1, o2, o3, o4⟩ := id oc
    obtain ⟨p1, p2, p3, p4⟩ := id oe
    have cn : nb 20 c.1 ∧ nb 20 c.2 := by unfold nb; omega
    have en : nb 20 e.1 ∧ nb 20 e.2 := by unfold nb; omega
    rw [show ((j + 1 : Nat) : Int) - 1 = ((j : Nat) : Int) by omega]
    refine ⟨_, prs_at he, on_pr ⟨_, rfl, _, prs_at hc, on_pr ⟨_, rfl, ?_⟩⟩⟩
    (try dsimp only [q_op, q_un, q_var, q_c, q_nil, q_cons, q_tup, q_frz, q_cel, q_lst, q_test, q_onB, q_and, q_or, q_not, q_andV, q_orV, q_notV, q_if, q_chain, q_next, q_seq, q_drop, q_ret, q_retF, q_retN, q_sif, q_break, q_cont, q_name, q_dnil, q_dcons, q_dtup, q_asg, q_set, q_par, q_for, q_range1, q_range2, q_iseq, q_ienum, q_call, q_cb, q_ncb, q_nop, q_lenset, q_mt, q_mt0, q_setix, q_augs, q_aug, q_nsl, q_onone, q_osome, q_gsl, q_raise, q_raiseF, q_try, q_lc, q_lc2, q_yes, q_wipe0, q_wipe, q_xf, q_I, q_I0, q_U, q_add, q_addT, q_addL, q_addR, q_onL, q_onSt, q_onSl, q_onSs, q_onSrct, q_onSrcl, q_eqI, q_eqB, q_eqS, q_eqN, q_isN, q_ix, q_ixL, q_in, q_len, q_sum, q_max, q_min, q_max2, q_min2, q_abs, q_int, q_intB, q_tupof, q_lstof, q_sort, q_rep, q_cat, q_isi, q_isis, q_setat, q_onC, q_append, q_pop, q_popAt, q_reverse, q_insert, q_sp1, q_sp2, q_sp3, q_sp4, q_at0, q_atS, q_st0, q_stS, q_iteT, q_iteF, q_isB, q_sumS, q_all, q_any, q_repT, q_spV, q_nLcX, q_sFz, q_gFld, q_sFldD, q_gMake, q_gCallI, q_gMeth, q_iOwnF, q_isO, q_gIxI, q_lenO, q_modN, q_divmod, q_gSMeth, q_dtupA, q_dtupAL, q_gRevD, q_revT, q_revL, q_gCallKw, q_eqO, q_gCallVS, q_gOpO, q_gUnO, q_gCMeth, q_gMakeV, q_gSlot, q_gMakeS, q_sSlot, q_gMethS, q_isS, q_lc3, q_tru, q_onTl, q_onTt, q_onTb, q_onTi, q_onTn, q_lstRev, q_lstRg2, q_lstRg1, q_prop, q_inO, q_gOpL, q_neO, q_gOpN, q_lstZip, q_repr, q_isXT])
    refine ⟨cmul en.1 cn.2, _, prs_at hc, on_pr ⟨_, rfl, on_pr ⟨_, rfl, ?_⟩⟩⟩
    (try dsimp only [q_op, q_un, q_var, q_c, q_nil, q_cons, q_tup, q_frz, q_cel, q_lst, q_test, q_onB, q_and, q_or, q_not, q_andV, q_orV, q_notV, q_if, q_chain, q_next, q_seq, q_drop, q_ret, q_retF, q_retN, q_sif, q_break, q_cont, q_name, q_dnil, q_dcons, q_dtup, q_asg, q_set, q_par, q_for, q_range1, q_range2, q_iseq, q_ienum, q_call, q_cb, q_ncb, q_nop, q_lenset, q_mt, q_mt0, q_setix, q_augs, q_aug, q_nsl, q_onone, q_osome, q_gsl, q_raise, q_raiseF, q_try, q_lc, q_lc2, q_yes, q_wipe0, q_wipe, q_xf, q_I, q_I0, q_U, q_add, q_addT, q_addL, q_addR, q_onL, q_onSt, q_onSl, q_onSs, q_onSrct, q_onSrcl, q_eqI, q_eqB, q_eqS, q_eqN, q_isN, q_ix, q_ixL, q_in, q_len, q_sum, q_max, q_min, q_max2, q_min2, q_abs, q_int, q_intB, q_tupof, q_lstof, q_sort, q_rep, q_cat, q_isi, q_isis, q_setat, q_onC, q_append, q_pop, q_popAt, q_reverse, q_insert, q_sp1, q_sp2, q_sp3, q_sp4, q_at0, q_atS, q_st0, q_stS, q_iteT, q_iteF, q_isB, q_sumS, q_all, q_any, q_repT, q_spV, q_nLcX, q_sFz, q_gFld, q_sFldD, q_gMake, q_gCallI, q_gMeth, q_iOwnF, q_isO, q_gIxI, q_lenO, q_modN, q_divmod, q_gSMeth, q_dtupA, q_dtupAL, q_gRevD, q_revT, q_revL, q_gCallKw, q_eqO, q_gCallVS, q_gOpO, q_gUnO, q_gCMeth, q_gMakeV, q_gSlot, q_gMakeS, q_sSlot, q_gMethS, q_isS, q_lc3, q_tru, q_onTl, q_onTt, q_onTb, q_onTi, q_onTn, q_lstRev, q_lstRg2, q_lstRg1, q_prop, q_inO, q_gOpL, q_neO, q_gOpN, q_lstZip, q_repr, q_isXT])
    refine ⟨cmul cn.1 en.2, on_pr ⟨_, rfl, _, prs_at hc, on_pr ⟨_, rfl, ?_⟩⟩⟩
    (try dsimp only [q_op, q_un, q_var, q_c, q_nil, q_cons, q_tup, q_frz, q_cel, q_lst, q_test, q_onB, q_and, q_or, q_not, q_andV, q_orV, q_notV, q_if, q_chain, q_next, q_seq, q_drop, q_ret, q_retF, q_retN, q_sif, q_break, q_cont, q_name, q_dnil, q_dcons, q_dtup, q_asg, q_set, q_par, q_for, q_range1, q_range2, q_iseq, q_ienum, q_call, q_cb, q_ncb, q_nop, q_lenset, q_mt, q_mt0, q_setix, q_augs, q_aug, q_nsl, q_onone, q_osome, q_gsl, q_raise, q_raiseF, q_try, q_lc, q_lc2, q_yes, q_wipe0, q_wipe, q_xf, q_I, q_I0, q_U, q_add, q_addT, q_addL, q_addR, q_onL, q_onSt, q_onSl, q_onSs, q_onSrct, q_onSrcl, q_eqI, q_eqB, q_eqS, q_eqN, q_isN, q_ix, q_ixL, q_in, q_len, q_sum, q_max, q_min, q_max2, q_min2, q_abs, q_int, q_intB, q_tupof, q_lstof, q_sort, q_rep, q_cat, q_isi, q_isis, q_setat, q_onC, q_append, q_pop, q_popAt, q_reverse, q_insert, q_sp1, q_sp2, q_sp3, q_sp4, q_at0, q_atS, q_st0, q_stS, q_iteT, q_iteF, q_isB, q_sumS, q_all, q_any, q_repT, q_spV, q_nLcX, q_sFz, q_gFld, q_sFldD, q_gMake, q_gCallI, q_gMeth, q_iOwnF, q_isO, q_gIxI, q_lenO, q_modN, q_divmod, q_gSMeth, q_dtupA, q_dtupAL, q_gRevD, q_revT, q_revL, q_gCallKw, q_eqO, q_gCallVS, q_gOpO, q_gUnO, q_gCMeth, q_gMakeV, q_gSlot, q_gMakeS, q_sSlot, q_gMethS, q_isS, q_lc3, q_tru, q_onTl, q_onTt, q_onTb, q_onTi, q_onTn, q_lstRev, q_lstRg2, q_lstRg1, q_prop, q_inO, q_gOpL, q_neO, q_gOpN, q_lstZip, q_repr, q_isXT])
    refine ⟨cmul en.2 cn.2, ?_⟩
    by_cases w : e.2 * c.2 ≤ e.1 * c.2 + c.1 * e.2
    · refine if_t (decide_eq_true w) ⟨ls, _, rfl, by omega, lo, rfl, ?_⟩
      have : byB (lsC ls) (((j + 1 : Nat) : Int) + 1) = true := by
        refine by_here hk ?_
        rw [take_at hc, take_at he]
        exact two_shut (fun x hx => ok.2 x (List.mem_of_mem_take hx)) oe oc w
      rw [this]
      exact if_f rfl (hN _ _)
    · exact if_f (decide_eq_false w) (if_f rfl (hN _ _))
  · exact if_f (decide_eq_false z) (hN _ _)
theorem forced1 {M : Mem} {Q : DVK} {E : DXK} {Nx : Dv → Mem → Prop} {bk : Dv → Mem → Prop} {ls : List Ls} {k : Nat} {c : PP} {s : Bool} {b b2 : Option DL.D} (l16 : ls.length ≤ 16) (lo : ∀ l ∈ ls, ChOk l.c) (hc : (lsC ls)[k]? = some c)
    (hs : s = true → ∀ x ∈ (lsC ls).take k, SmallC x)
    (hN : ∀ (s : Bool) b c, (s = true → ∀ x ∈ (lsC ls).take (k + 1), SmallC x) → Nx [some (lsD ls), some (.lst ((lsC ls).map prD)), none, some (.bl s), some (.int (k : Nat)), b, c, none] M) :
    gFo1 K { nx := Nx, ct := Nx, bk := bk, rt := Q, ex := fun x _ M => E x M } [some (lsD ls), some (.lst ((lsC ls).map prD)), none, some (.bl s), some (.int (k : Nat)), b, b2, none] M := by
  unfold gFo1
  generalize hT : gFo2 K = TL
  dsimp only [q_op, q_un, q_var, q_c, q_nil, q_cons, q_tup, q_frz, q_cel, q_lst, q_test, q_onB, q_and, q_or, q_not, q_andV, q_orV, q_notV, q_if, q_chain, q_next, q_seq, q_drop, q_ret, q_retF, q_retN, q_sif, q_break, q_cont, q_name, q_dnil, q_dcons, q_dtup, q_asg, q_set, q_par, q_for, q_range1, q_range2, q_iseq, q_ienum, q_call, q_cb, q_ncb, q_nop, q_lenset, q_mt, q_mt0, q_setix, q_augs, q_aug, q_nsl, q_onone, q_osome, q_gsl, q_raise, q_raiseF, q_try, q_lc, q_lc2, q_yes, q_wipe0, q_wipe, q_xf, q_I, q_I0, q_U, q_add, q_addT, q_addL, q_addR, q_onL, q_onSt, q_onSl, q_onSs, q_onSrct, q_onSrcl, q_eqI, q_eqB, q_eqS, q_eqN, q_isN, q_ix, q_ixL, q_in, q_len, q_sum, q_max, q_min, q_max2, q_min2, q_abs, q_int, q_intB, q_tupof, q_lstof, q_sort, q_rep, q_cat, q_isi, q_isis, q_setat, q_onC, q_append, q_pop, q_popAt, q_reverse, q_insert, q_sp1, q_sp2, q_sp3, q_sp4, q_at0, q_atS, q_st0, q_stS, q_iteT, q_iteF, q_isB, q_sumS, q_all, q_any, q_repT, q_spV, q_nLcX, q_sFz, q_gFld, q_sFldD, q_gMake, q_gCallI, q_gMeth, q_iOwnF, q_isO, q_gIxI, q_lenO, q_modN, q_divmod, q_gSMeth, q_dtupA, q_dtupAL, q_gRevD, q_revT, q_revL, q_gCallKw, q_eqO, q_gCallVS, q_gOpO, q_gUnO, q_gCMeth, q_gMakeV, q_gSlot, q_gMakeS, q_sSlot, q_gMethS, q_isS, q_lc3, q_tru, q_onTl, q_onTt, q_onTb, q_onTi, q_onTn, q_lstRev, q_lstRg2, q_lstRg1, q_prop, q_inO, q_gOpL, q_neO, q_gOpN, q_lstZip, q_repr, q_isXT]
  have oc := (ls_ok (by omega) lo).2 c (List.mem_of_getElem? hc)
  obtain ⟨o1, o2, o3, o4⟩ := id oc
  refine ⟨_, prs_at hc, on_pr ⟨_, rfl, ?_⟩⟩
  (try dsimp only [q_op, q_un, q_var, q_c, q_nil, q_cons, q_tup, q_frz, q_cel, q_lst, q_test, q_onB, q_and, q_or, q_not, q_andV, q_orV, q_notV, q_if, q_chain, q_next, q_seq, q_drop, q_ret, q_retF, q_retN, q_sif, q_break, q_cont, q_name, q_dnil, q_dcons, q_dtup, q_asg, q_set, q_par, q_for, q_range1, q_range2, q_iseq, q_ienum, q_call, q_cb, q_ncb, q_nop, q_lenset, q_mt, q_mt0, q_setix, q_augs, q_aug, q_nsl, q_onone, q_osome, q_gsl, q_raise, q_raiseF, q_try, q_lc, q_lc2, q_yes, q_wipe0, q_wipe, q_xf, q_I, q_I0, q_U, q_add, q_addT, q_addL, q_addR, q_onL, q_onSt, q_onSl, q_onSs, q_onSrct, q_onSrcl, q_eqI, q_eqB, q_eqS, q_eqN, q_isN, q_ix, q_ixL, q_in, q_len, q_sum, q_max, q_min, q_max2, q_min2, q_abs, q_int, q_intB, q_tupof, q_lstof, q_sort, q_rep, q_cat, q_isi, q_isis, q_setat, q_onC, q_append, q_pop, q_popAt, q_reverse, q_insert, q_sp1, q_sp2, q_sp3, q_sp4, q_at0, q_atS, q_st0, q_stS, q_iteT, q_iteF, q_isB, q_sumS, q_all, q_any, q_repT, q_spV, q_nLcX, q_sFz, q_gFld, q_sFldD, q_gMake, q_gCallI, q_gMeth, q_iOwnF, q_isO, q_gIxI, q_lenO, q_modN, q_divmod, q_gSMeth, q_dtupA, q_dtupAL, q_gRevD, q_revT, q_revL, q_gCallKw, q_eqO, q_gCallVS, q_gOpO, q_gUnO, q_gCMeth, q_gMakeV, q_gSlot, q_gMakeS, q_sSlot, q_gMethS, q_isS, q_lc3, q_tru, q_onTl, q_onTt, q_onTb, q_onTi, q_onTn, q_lstRev, q_lstRg2, q_lstRg1, q_prop, q_inO, q_gOpL, q_neO, q_gOpN, q_lstZip, q_repr, q_isXT])
  refine ⟨cmul (a := 10) (b := 20) (by unfold nb; omega) (by unfold nb; omega), _, prs_at hc, on_pr ⟨_, rfl, ?_⟩⟩
  (try dsimp only [q_op, q_un, q_var, q_c, q_nil, q_cons, q_tup, q_frz, q_cel, q_lst, q_test, q_onB, q_and, q_or, q_not, q_andV, q_orV, q_notV, q_if, q_chain, q_next, q_seq, q_drop, q_ret, q_retF, q_retN, q_sif, q_break, q_cont, q_name, q_dnil, q_dcons, q_dtup, q_asg, q_set, q_par, q_for, q_range1, q_range2, q_iseq, q_ienum, q_call, q_cb, q_ncb, q_nop, q_lenset, q_mt, q_mt0, q_setix, q_augs, q_aug, q_nsl, q_onone, q_osome, q_gsl, q_raise, q_raiseF, q_try, q_lc, q_lc2, q_yes, q_wipe0, q_wipe, q_xf, q_I, q_I0, q_U, q_add, q_addT, q_addL, q_addR, q_onL, q_onSt, q_onSl, q_onSs, q_onSrct, q_onSrcl, q_eqI, q_eqB, q_eqS, q_eqN, q_isN, q_ix, q_ixL, q_in, q_len, q_sum, q_max, q_min, q_max2, q_min2, q_abs, q_int, q_intB, q_tupof, q_lstof, q_sort, q_rep, q_cat, q_isi, q_isis, q_setat, q_onC, q_append, q_pop, q_popAt, q_reverse, q_insert, q_sp1, q_sp2, q_sp3, q_sp4, q_at0, q_atS, q_st0, q_stS, q_iteT, q_iteF, q_isB, q_sumS, q_all, q_any, q_repT, q_spV, q_nLcX, q_sFz, q_gFld, q_sFldD, q_gMake, q_gCallI, q_gMeth, q_iOwnF, q_isO, q_gIxI, q_lenO, q_modN, q_divmod, q_gSMeth, q_dtupA, q_dtupAL, q_gRevD, q_revT, q_revL, q_gCallKw, q_eqO, q_gCallVS, q_gOpO, q_gUnO, q_gCMeth, q_gMakeV, q_gSlot, q_gMakeS, q_sSlot, q_gMethS, q_isS, q_lc3, q_tru, q_onTl, q_onTt, q_onTb, q_onTi, q_onTn, q_lstRev, q_lstRg2, q_lstRg1, q_prop, q_inO, q_gOpL, q_neO, q_gOpN, q_lstZip, q_repr, q_isXT])
  subst hT
  by_cases w : c.2 < 4 * c.1
  · exact if_t (decide_eq_true w) (forced2 l16 lo hc fun b c => hN false b c fun h => nomatch h)
  · refine if_f (decide_eq_false w) (forced2 l16 lo hc fun b c' => hN s b c' fun h x hx => ?_)
    rw [take_at hc] at hx
    rcases List.mem_append.mp hx with hx | hx
    · exact hs h x hx
    · cases List.mem_singleton.mp hx
      show 4 * c.1 ≤ c.2
      omega
theorem b__law_forced : ∀ d0 M Q E, sp__law_forced K [d0] M Q E → g__law_forced K { nx := fun _ M => Q .non M, rt := Q, ex := fun x _ M => E x M } [some d0, none, none, none, none, none, none, none] M := by
  rintro d0 M Q E ⟨ls, rfl, ⟨l16, lo⟩, q⟩
  unfold g__law_forced
  generalize hT2 : gFo1 K = TL
  have hT3 := hT2
  unfold gFo1 gFo2 at hT3
  rw [hT3]
  clear hT3
  dsimp only [q_op, q_un, q_var, q_c, q_nil, q_cons, q_tup, q_frz, q_cel, q_lst, q_test, q_onB, q_and, q_or, q_not, q_andV, q_orV, q_notV, q_if, q_chain, q_next, q_seq, q_drop, q_ret, q_retF, q_retN, q_sif, q_break, q_cont, q_name, q_dnil, q_dcons, q_dtup, q_asg, q_set, q_par, q_for, q_range1, q_range2, q_iseq, q_ienum, q_call, q_cb, q_ncb, q_nop, q_lenset, q_mt, q_mt0, q_setix, q_augs, q_aug, q_nsl, q_onone, q_osome, q_gsl, q_raise, q_raiseF, q_try, q_lc, q_lc2, q_yes, q_wipe0, q_wipe, q_xf, q_I, q_I0, q_U, q_add, q_addT, q_addL, q_addR, q_onL, q_onSt, q_onSl, q_onSs, q_onSrct, q_onSrcl, q_eqI, q_eqB, q_eqS, q_eqN, q_isN, q_ix, q_ixL, q_in, q_len, q_sum, q_max, q_min, q_max2, q_min2, q_abs, q_int, q_intB, q_tupof, q_lstof, q_sort, q_rep, q_cat, q_isi, q_isis, q_setat, q_onC, q_append, q_pop, q_popAt, q_reverse, q_insert, q_sp1, q_sp2, q_sp3, q_sp4, q_at0, q_atS, q_st0, q_stS, q_iteT, q_iteF, q_isB, q_sumS, q_all, q_any, q_repT, q_spV, q_nLcX, q_sFz, q_gFld, q_sFldD, q_gMake, q_gCallI, q_gMeth, q_iOwnF, q_isO, q_gIxI, q_lenO, q_modN, q_divmod, q_gSMeth, q_dtupA, q_dtupAL, q_gRevD, q_revT, q_revL, q_gCallKw, q_eqO, q_gCallVS, q_gOpO, q_gUnO, q_gCMeth, q_gMakeV, q_gSlot, q_gMakeS, q_sSlot, q_gMethS, q_isS, q_lc3, q_tru, q_onTl, q_onTt, q_onTb, q_onTi, q_onTn, q_lstRev, q_lstRg2, q_lstRg1, q_prop, q_inO, q_gOpL, q_neO, q_gOpN, q_lstZip, q_repr, q_isXT, sp__law_pair, sp__law_closed_by]
  refine lc_map Ls.d (fun l => prD l.c) trivial ls (fun l hl kk hk => ?_) dName_mono rfl (by rw [sz]; omega) ?_
  · (try dsimp only [q_op, q_un, q_var, q_c, q_nil, q_cons, q_tup, q_frz, q_cel, q_lst, q_test, q_onB, q_and, q_or, q_not, q_andV, q_orV, q_notV, q_if, q_chain, q_next, q_seq, q_drop, q_ret, q_retF, q_retN, q_sif, q_break, q_cont, q_name, q_dnil, q_dcons, q_dtup, q_asg, q_set, q_par, q_for, q_range1, q_range2, q_iseq, q_ienum, q_call, q_cb, q_ncb, q_nop, q_lenset, q_mt, q_mt0, q_setix, q_augs, q_aug, q_nsl, q_onone, q_osome, q_gsl, q_raise, q_raiseF, q_try, q_lc, q_lc2, q_yes, q_wipe0, q_wipe, q_xf, q_I, q_I0, q_U, q_add, q_addT, q_addL, q_addR, q_onL, q_onSt, q_onSl, q_onSs, q_onSrct, q_onSrcl, q_eqI, q_eqB, q_eqS, q_eqN, q_isN, q_ix, q_ixL, q_in, q_len, q_sum, q_max, q_min, q_max2, q_min2, q_abs, q_int, q_intB, q_tupof, q_lstof, q_sort, q_rep, q_cat, q_isi, q_isis, q_setat, q_onC, q_append, q_pop, q_popAt, q_reverse, q_insert, q_sp1, q_sp2, q_sp3, q_sp4, q_at0, q_atS, q_st0, q_stS, q_iteT, q_iteF, q_isB, q_sumS, q_all, q_any, q_repT, q_spV, q_nLcX, q_sFz, q_gFld, q_sFldD, q_gMake, q_gCallI, q_gMeth, q_iOwnF, q_isO, q_gIxI, q_lenO, q_modN, q_divmod, q_gSMeth, q_dtupA, q_dtupAL, q_gRevD, q_revT, q_revL, q_gCallKw, q_eqO, q_gCallVS, q_gOpO, q_gUnO, q_gCMeth, q_gMakeV, q_gSlot, q_gMakeS, q_sSlot, q_gMethS, q_isS, q_lc3, q_tru, q_onTl, q_onTt, q_onTb, q_onTi, q_onTn, q_lstRev, q_lstRg2, q_lstRg1, q_prop, q_inO, q_gOpL, q_neO, q_gOpN, q_lstZip, q_repr, q_isXT])
    exact ⟨rfl, l, rfl, hk⟩
  have ok := ls_ok (by omega) lo
  have em : ls.map (fun l => prD l.c) = (lsC ls).map prD := by unfold lsC; rw [List.map_map]; rfl
  have ln : (lsC ls).length = ls.length := by unfold lsC; rw [List.length_map]
  rw [em]
  (try dsimp only [q_op, q_un, q_var, q_c, q_nil, q_cons, q_tup, q_frz, q_cel, q_lst, q_test, q_onB, q_and, q_or, q_not, q_andV, q_orV, q_notV, q_if, q_chain, q_next, q_seq, q_drop, q_ret, q_retF, q_retN, q_sif, q_break, q_cont, q_name, q_dnil, q_dcons, q_dtup, q_asg, q_set, q_par, q_for, q_range1, q_range2, q_iseq, q_ienum, q_call, q_cb, q_ncb, q_nop, q_lenset, q_mt, q_mt0, q_setix, q_augs, q_aug, q_nsl, q_onone, q_osome, q_gsl, q_raise, q_raiseF, q_try, q_lc, q_lc2, q_yes, q_wipe0, q_wipe, q_xf, q_I, q_I0, q_U, q_add, q_addT, q_addL, q_addR, q_onL, q_onSt, q_onSl, q_onSs, q_onSrct, q_onSrcl, q_eqI, q_eqB, q_eqS, q_eqN, q_isN, q_ix, q_ixL, q_in, q_len, q_sum, q_max, q_min, q_max2, q_min2, q_abs, q_int, q_intB, q_tupof, q_lstof, q_sort, q_rep, q_cat, q_isi, q_isis, q_setat, q_onC, q_append, q_pop, q_popAt, q_reverse, q_insert, q_sp1, q_sp2, q_sp3, q_sp4, q_at0, q_atS, q_st0, q_stS, q_iteT, q_iteF, q_isB, q_sumS, q_all, q_any, q_repT, q_spV, q_nLcX, q_sFz, q_gFld, q_sFldD, q_gMake, q_gCallI, q_gMeth, q_iOwnF, q_isO, q_gIxI, q_lenO, q_modN, q_divmod, q_gSMeth, q_dtupA, q_dtupAL, q_gRevD, q_revT, q_revL, q_gCallKw, q_eqO, q_gCallVS, q_gOpO, q_gUnO, q_gCMeth, q_gMakeV, q_gSlot, q_gMakeS, q_sSlot, q_gMethS, q_isS, q_lc3, q_tru, q_onTl, q_onTt, q_onTb, q_onTi, q_onTn, q_lstRev, q_lstRg2, q_lstRg1, q_prop, q_inO, q_gOpL, q_neO, q_gOpN, q_lstZip, q_repr, q_isXT])
  rw [List.length_map, ln]
  refine ⟨by omega, ?_⟩
  rw [Int.toNat_natCast]
  refine loop_rg0 (fun k ρ M2 => (∃ (s : Bool) (a b c : Option DL.D), (s = true → ∀ x ∈ (lsC ls).take k, SmallC x) ∧ ρ = [some (lsD ls), some (.lst ((lsC ls).map prD)), none, some (.bl s), a, b, c, none]) ∧ M2 = M) ?_ ?_ ⟨⟨true, _, _, _, (fun _ _ h => by cases h), rfl⟩, rfl⟩
  · rintro k ρ M2 hk ⟨⟨s, a, b, c, hs, rfl⟩, rfl⟩ Nx hN
    obtain ⟨l, hl⟩ : ∃ l, ls[k]? = some l := ⟨_, List.getElem?_eq_getElem hk⟩
    have hc := lsC_at hl
    obtain ⟨o1, o2, o3, o4⟩ := id (lo l (List.mem_of_getElem? hl))
    have cn : nb 20 l.c.1 ∧ nb 20 l.c.2 := by unfold nb; omega
    have pa := prs_at hc
    (try dsimp only [q_op, q_un, q_var, q_c, q_nil, q_cons, q_tup, q_frz, q_cel, q_lst, q_test, q_onB, q_and, q_or, q_not, q_andV, q_orV, q_notV, q_if, q_chain, q_next, q_seq, q_drop, q_ret, q_retF, q_retN, q_sif, q_break, q_cont, q_name, q_dnil, q_dcons, q_dtup, q_asg, q_set, q_par, q_for, q_range1, q_range2, q_iseq, q_ienum, q_call, q_cb, q_ncb, q_nop, q_lenset, q_mt, q_mt0, q_setix, q_augs, q_aug, q_nsl, q_onone, q_osome, q_gsl, q_raise, q_raiseF, q_try, q_lc, q_lc2, q_yes, q_wipe0, q_wipe, q_xf, q_I, q_I0, q_U, q_add, q_addT, q_addL, q_addR, q_onL, q_onSt, q_onSl, q_onSs, q_onSrct, q_onSrcl, q_eqI, q_eqB, q_eqS, q_eqN, q_isN, q_ix, q_ixL, q_in, q_len, q_sum, q_max, q_min, q_max2, q_min2, q_abs, q_int, q_intB, q_tupof, q_lstof, q_sort, q_rep, q_cat, q_isi, q_isis, q_setat, q_onC, q_append, q_pop, q_popAt, q_reverse, q_insert, q_sp1, q_sp2, q_sp3, q_sp4, q_at0, q_atS, q_st0, q_stS, q_iteT, q_iteF, q_isB, q_sumS, q_all, q_any, q_repT, q_spV, q_nLcX, q_sFz, q_gFld, q_sFldD, q_gMake, q_gCallI, q_gMeth, q_iOwnF, q_isO, q_gIxI, q_lenO, q_modN, q_divmod, q_gSMeth, q_dtupA, q_dtupAL, q_gRevD, q_revT, q_revL, q_gCallKw, q_eqO, q_gCallVS, q_gOpO, q_gUnO, q_gCMeth, q_gMakeV, q_gSlot, q_gMakeS, q_sSlot, q_gMethS, q_isS, q_lc3, q_tru, q_onTl, q_onTt, q_onTb, q_onTi, q_onTn, q_lstRev, q_lstRg2, q_lstRg1, q_prop, q_inO, q_gOpL, q_neO, q_gOpN, q_lstZip, q_repr, q_isXT])
    refine ⟨_, pa, on_pr ⟨_, rfl, _, pa, on_pr ⟨_, rfl, ?_⟩⟩⟩
    (try dsimp only [q_op, q_un, q_var, q_c, q_nil, q_cons, q_tup, q_frz, q_cel, q_lst, q_test, q_onB, q_and, q_or, q_not, q_andV, q_orV, q_notV, q_if, q_chain, q_next, q_seq, q_drop, q_ret, q_retF, q_retN, q_sif, q_break, q_cont, q_name, q_dnil, q_dcons, q_dtup, q_asg, q_set, q_par, q_for, q_range1, q_range2, q_iseq, q_ienum, q_call, q_cb, q_ncb, q_nop, q_lenset, q_mt, q_mt0, q_setix, q_augs, q_aug, q_nsl, q_onone, q_osome, q_gsl, q_raise, q_raiseF, q_try, q_lc, q_lc2, q_yes, q_wipe0, q_wipe, q_xf, q_I, q_I0, q_U, q_add, q_addT, q_addL, q_addR, q_onL, q_onSt, q_onSl, q_onSs, q_onSrct, q_onSrcl, q_eqI, q_eqB, q_eqS, q_eqN, q_isN, q_ix, q_ixL, q_in, q_len, q_sum, q_max, q_min, q_max2, q_min2, q_abs, q_int, q_intB, q_tupof, q_lstof, q_sort, q_rep, q_cat, q_isi, q_isis, q_setat, q_onC, q_append, q_pop, q_popAt, q_reverse, q_insert, q_sp1, q_sp2, q_sp3, q_sp4, q_at0, q_atS, q_st0, q_stS, q_iteT, q_iteF, q_isB, q_sumS, q_all, q_any, q_repT, q_spV, q_nLcX, q_sFz, q_gFld, q_sFldD, q_gMake, q_gCallI, q_gMeth, q_iOwnF, q_isO, q_gIxI, q_lenO, q_modN, q_divmod, q_gSMeth, q_dtupA, q_dtupAL, q_gRevD, q_revT, q_revL, q_gCallKw, q_eqO, q_gCallVS, q_gOpO, q_gUnO, q_gCMeth, q_gMakeV, q_gSlot, q_gMakeS, q_sSlot, q_gMethS, q_isS, q_lc3, q_tru, q_onTl, q_onTt, q_onTb, q_onTi, q_onTn, q_lstRev, q_lstRg2, q_lstRg1, q_prop, q_inO, q_gOpL, q_neO, q_gOpN, q_lstZip, q_repr, q_isXT])
    have nxt : ∀ bk, TL { nx := Nx, ct := Nx, bk := bk, rt := Q, ex := fun x _ M => E x M } [some (lsD ls), some (.lst ((lsC ls).map prD)), none, some (.bl s), some (.int (k : Nat)), b, c, none] M2 := fun bk => by
      rw [← hT2]
      exact forced1 l16 lo hc hs fun s b c h => hN _ _ ⟨⟨s, _, b, c, h, rfl⟩, rfl⟩
    by_cases w : l.c.1 = l.c.2
    · refine if_t (decide_eq_true w) ⟨ls, _, rfl, by omega, lo, rfl, ?_⟩
      have : byB (lsC ls) ((k : Int) + 1) = true := by
        refine by_here (by omega) ?_
        rw [take_at hc]
        exact one_shut (fun x hx => ok.2 x (List.mem_of_mem_take hx)) (by omega) w
      rw [this]
      exact if_f rfl (nxt _)
    · exact if_f (decide_eq_false w) (if_f rfl (nxt _))
  · rintro ρ M2 ⟨⟨s, a, b, c, hs, rfl⟩, rfl⟩
    rw [List.take_of_length_le (by omega)] at hs
    dsimp only [q_op, q_un, q_var, q_c, q_nil, q_cons, q_tup, q_frz, q_cel, q_lst, q_test, q_onB, q_and, q_or, q_not, q_andV, q_orV, q_notV, q_if, q_chain, q_next, q_seq, q_drop, q_ret, q_retF, q_retN, q_sif, q_break, q_cont, q_name, q_dnil, q_dcons, q_dtup, q_asg, q_set, q_par, q_for, q_range1, q_range2, q_iseq, q_ienum, q_call, q_cb, q_ncb, q_nop, q_lenset, q_mt, q_mt0, q_setix, q_augs, q_aug, q_nsl, q_onone, q_osome, q_gsl, q_raise, q_raiseF, q_try, q_lc, q_lc2, q_yes, q_wipe0, q_wipe, q_xf, q_I, q_I0, q_U, q_add, q_addT, q_addL, q_addR, q_onL, q_onSt, q_onSl, q_onSs, q_onSrct, q_onSrcl, q_eqI, q_eqB, q_eqS, q_eqN, q_isN, q_ix, q_ixL, q_in, q_len, q_sum, q_max, q_min, q_max2, q_min2, q_abs, q_int, q_intB, q_tupof, q_lstof, q_sort, q_rep, q_cat, q_isi, q_isis, q_setat, q_onC, q_append, q_pop, q_popAt, q_reverse, q_insert, q_sp1, q_sp2, q_sp3, q_sp4, q_at0, q_atS, q_st0, q_stS, q_iteT, q_iteF, q_isB, q_sumS, q_all, q_any, q_repT, q_spV, q_nLcX, q_sFz, q_gFld, q_sFldD, q_gMake, q_gCallI, q_gMeth, q_iOwnF, q_isO, q_gIxI, q_lenO, q_modN, q_divmod, q_gSMeth, q_dtupA, q_dtupAL, q_gRevD, q_revT, q_revL, q_gCallKw, q_eqO, q_gCallVS, q_gOpO, q_gUnO, q_gCMeth, q_gMakeV, q_gSlot, q_gMakeS, q_sSlot, q_gMethS, q_isS, q_lc3, q_tru, q_onTl, q_onTt, q_onTb, q_onTi, q_onTn, q_lstRev, q_lstRg2, q_lstRg1, q_prop, q_inO, q_gOpL, q_neO, q_gOpN, q_lstZip, q_repr, q_isXT, sp_rests, sp__law_at_most, sp_closes_at]
    cases s with
    | false => exact if_f rfl q
    | true =>
      obtain ⟨h1, h2⟩ := half_core (lsC ls) (1, 1) ok.2 (hs rfl) ro1 (by decide)
      refine if_t rfl (lossC_ls RowD.lst (by omega) lo ?_)
      refine loop_map frP (restsL (lsC ls)) (fun k ρ M3 => (∃ y, ρ = [some (lsD ls), some (.lst ((lsC ls).map prD)), none, some (.bl true), a, b, c, y]) ∧ M3 = M2) (fun _ _ _ _ _ => trivial) ?_ ?_ ⟨⟨_, rfl⟩, rfl⟩
      · rintro k r ρ M3 hr ⟨⟨y, rfl⟩, rfl⟩ Nx hN
        have hm := List.mem_of_getElem? hr
        obtain ⟨ro, n1, n2⟩ := rests_ok ok hm
        have hh := h2 r hm
        (try dsimp only [q_op, q_un, q_var, q_c, q_nil, q_cons, q_tup, q_frz, q_cel, q_lst, q_test, q_onB, q_and, q_or, q_not, q_andV, q_orV, q_notV, q_if, q_chain, q_next, q_seq, q_drop, q_ret, q_retF, q_retN, q_sif, q_break, q_cont, q_name, q_dnil, q_dcons, q_dtup, q_asg, q_set, q_par, q_for, q_range1, q_range2, q_iseq, q_ienum, q_call, q_cb, q_ncb, q_nop, q_lenset, q_mt, q_mt0, q_setix, q_augs, q_aug, q_nsl, q_onone, q_osome, q_gsl, q_raise, q_raiseF, q_try, q_lc, q_lc2, q_yes, q_wipe0, q_wipe, q_xf, q_I, q_I0, q_U, q_add, q_addT, q_addL, q_addR, q_onL, q_onSt, q_onSl, q_onSs, q_onSrct, q_onSrcl, q_eqI, q_eqB, q_eqS, q_eqN, q_isN, q_ix, q_ixL, q_in, q_len, q_sum, q_max, q_min, q_max2, q_min2, q_abs, q_int, q_intB, q_tupof, q_lstof, q_sort, q_rep, q_cat, q_isi, q_isis, q_setat, q_onC, q_append, q_pop, q_popAt, q_reverse, q_insert, q_sp1, q_sp2, q_sp3, q_sp4, q_at0, q_atS, q_st0, q_stS, q_iteT, q_iteF, q_isB, q_sumS, q_all, q_any, q_repT, q_spV, q_nLcX, q_sFz, q_gFld, q_sFldD, q_gMake, q_gCallI, q_gMeth, q_iOwnF, q_isO, q_gIxI, q_lenO, q_modN, q_divmod, q_gSMeth, q_dtupA, q_dtupAL, q_gRevD, q_revT, q_revL, q_gCallKw, q_eqO, q_gCallVS, q_gOpO, q_gUnO, q_gCMeth, q_gMakeV, q_gSlot, q_gMakeS, q_sSlot, q_gMethS, q_isS, q_lc3, q_tru, q_onTl, q_onTt, q_onTb, q_onTi, q_onTn, q_lstRev, q_lstRg2, q_lstRg1, q_prop, q_inO, q_gOpL, q_neO, q_gOpN, q_lstZip, q_repr, q_isXT])
        refine ⟨lsz (by simp), _, _, _, _, rfl, rfl, nb_one (by omega), nb_mono (n := 20) (by unfold nb; omega) (by omega), nb_mono (lo_nb1 ro.1 n1) (by omega), nb_mono (lo_nb2 ro.1 n2) (by omega), ?_⟩
        have := le_fr (r := (1, 2)) (s := r) (by decide) ro.1 (by unfold leR; dsimp only; omega)
        have e12 : LW.lo 1 2 = (1, 2) := by decide
        dsimp only at this
        rw [e12] at this
        rw [decide_eq_true this]
        exact if_f rfl (hN _ _ ⟨⟨_, rfl⟩, rfl⟩)
      · rintro ρ M3 ⟨⟨y, rfl⟩, rfl⟩
        dsimp only [q_op, q_un, q_var, q_c, q_nil, q_cons, q_tup, q_frz, q_cel, q_lst, q_test, q_onB, q_and, q_or, q_not, q_andV, q_orV, q_notV, q_if, q_chain, q_next, q_seq, q_drop, q_ret, q_retF, q_retN, q_sif, q_break, q_cont, q_name, q_dnil, q_dcons, q_dtup, q_asg, q_set, q_par, q_for, q_range1, q_range2, q_iseq, q_ienum, q_call, q_cb, q_ncb, q_nop, q_lenset, q_mt, q_mt0, q_setix, q_augs, q_aug, q_nsl, q_onone, q_osome, q_gsl, q_raise, q_raiseF, q_try, q_lc, q_lc2, q_yes, q_wipe0, q_wipe, q_xf, q_I, q_I0, q_U, q_add, q_addT, q_addL, q_addR, q_onL, q_onSt, q_onSl, q_onSs, q_onSrct, q_onSrcl, q_eqI, q_eqB, q_eqS, q_eqN, q_isN, q_ix, q_ixL, q_in, q_len, q_sum, q_max, q_min, q_max2, q_min2, q_abs, q_int, q_intB, q_tupof, q_lstof, q_sort, q_rep, q_cat, q_isi, q_isis, q_setat, q_onC, q_append, q_pop, q_popAt, q_reverse, q_insert, q_sp1, q_sp2, q_sp3, q_sp4, q_at0, q_atS, q_st0, q_stS, q_iteT, q_iteF, q_isB, q_sumS, q_all, q_any, q_repT, q_spV, q_nLcX, q_sFz, q_gFld, q_sFldD, q_gMake, q_gCallI, q_gMeth, q_iOwnF, q_isO, q_gIxI, q_lenO, q_modN, q_divmod, q_gSMeth, q_dtupA, q_dtupAL, q_gRevD, q_revT, q_revL, q_gCallKw, q_eqO, q_gCallVS, q_gOpO, q_gUnO, q_gCMeth, q_gMakeV, q_gSlot, q_gMakeS, q_sSlot, q_gMethS, q_isS, q_lc3, q_tru, q_onTl, q_onTt, q_onTb, q_onTi, q_onTn, q_lstRev, q_lstRg2, q_lstRg1, q_prop, q_inO, q_gOpL, q_neO, q_gOpN, q_lstZip, q_repr, q_isXT, sp_closes_at]
        refine lossC_ls RowD.lst (by omega) lo ?_
        rw [cloD_none h1]
        exact q
end
end LW

namespace LW
open PySem PySem.Spec PyProof.Rows L2 DL
section
variable {K : PySem.W.Frag} {mg : Str → Option Value}
theorem isNon_clo (cs : List PP) : DL.isNon (cloD cs) = decide (0 < (finL cs).1) := by
  cases z : cloL cs with
  | none => rw [cloD_non z, decide_eq_true (clo_none.mp z)]; rfl
  | some n => rw [cloD_int z, decide_eq_false (by have := (clo_some.mp z).1; omega)]; rfl
theorem cut_lo {p q u v a b : Int} (hq : 0 < q) (hv : 0 < v) : ((LW.lo p q).1 * (LW.lo u v).1 * b ≤ a * ((LW.lo p q).2 * (LW.lo u v).2)) ↔ p * u * b ≤ a * (q * v) := by
  have g1 := g_pos (t := p) hq
  have g2 := g_pos (t := u) hv
  have e1 := lo_top p q
  have e2 := lo_bot p q
  have e3 := lo_top u v
  have e4 := lo_bot u v
  generalize hg : ((Int.gcd p q : Nat) : Int) = g at *
  generalize hh : ((Int.gcd u v : Nat) : Int) = h at *
  have g1 : 0 < g := by omega
  have g2 : 0 < h := by omega
  have gh := Int.mul_pos g1 g2
  generalize (LW.lo p q).1 = x at *
  generalize (LW.lo p q).2 = y at *
  generalize (LW.lo u v).1 = z at *
  generalize (LW.lo u v).2 = w at *
  have m1 : p * u * b = x * z * b * (g * h) := by rw [← e1, ← e3]; grind
  have m2 : a * (q * v) = a * (y * w) * (g * h) := by rw [← e2, ← e4]; grind
  rw [m1, m2]
  constructor
  · intro k; exact Int.mul_le_mul_of_nonneg_right k (by omega)
  · intro k; exact Int.le_of_mul_le_mul_right k gh
theorem fin_ok {cs : List PP} (h : ChsOk cs) : RO (finL cs) ∧ nb 400 (finL cs).1 ∧ nb 400 (finL cs).2 := rests_ro' h
theorem cut_dec {f : PP} {L R : PP} {a b : Int} (key : 0 < f.1 ↔ (0 < L.1 ∧ 0 < R.1 ∧ a * (L.2 * R.2) < L.1 * R.1 * b)) (h1 : 0 < L.2) (h2 : 0 < R.2) (h3 : 0 < L.1) (h4 : 0 < R.1) :
    (!decide (0 < f.1)) = decide ((LW.lo L.1 L.2).1 * (LW.lo R.1 R.2).1 * b ≤ a * ((LW.lo L.1 L.2).2 * (LW.lo R.1 R.2).2)) := by
  rw [decide_eq_decide.mpr (cut_lo h1 h2), decide_eq_decide.mpr key]
  by_cases w : a * (L.2 * R.2) < L.1 * R.1 * b
  · rw [decide_eq_true ⟨h3, h4, w⟩, decide_eq_false (by omega)]
    rfl
  · rw [decide_eq_false (fun z => w z.2.2), decide_eq_true (by omega)]
    rfl
theorem b__law_cut : ∀ d0 d1 M Q E, sp__law_cut K [d0, d1] M Q E → g__law_cut K { nx := fun _ M => Q .non M, rt := Q, ex := fun x _ M => E x M } [some d0, some d1, none, none, none] M := by
  rintro d0 d1 M Q E ⟨ls, n, rfl, ⟨l16, lo⟩, rfl, hn, q⟩
  obtain ⟨l, hl⟩ : ∃ l, ls[n]? = some l := ⟨_, List.getElem?_eq_getElem hn⟩
  have ol := lo l (List.mem_of_getElem? hl)
  unfold g__law_cut
  dsimp only [q_op, q_un, q_var, q_c, q_nil, q_cons, q_tup, q_frz, q_cel, q_lst, q_test, q_onB, q_and, q_or, q_not, q_andV, q_orV, q_notV, q_if, q_chain, q_next, q_seq, q_drop, q_ret, q_retF, q_retN, q_sif, q_break, q_cont, q_name, q_dnil, q_dcons, q_dtup, q_asg, q_set, q_par, q_for, q_range1, q_range2, q_iseq, q_ienum, q_call, q_cb, q_ncb, q_nop, q_lenset, q_mt, q_mt0, q_setix, q_augs, q_aug, q_nsl, q_onone, q_osome, q_gsl, q_raise, q_raiseF, q_try, q_lc, q_lc2, q_yes, q_wipe0, q_wipe, q_xf, q_I, q_I0, q_U, q_add, q_addT, q_addL, q_addR, q_onL, q_onSt, q_onSl, q_onSs, q_onSrct, q_onSrcl, q_eqI, q_eqB, q_eqS, q_eqN, q_isN, q_ix, q_ixL, q_in, q_len, q_sum, q_max, q_min, q_max2, q_min2, q_abs, q_int, q_intB, q_tupof, q_lstof, q_sort, q_rep, q_cat, q_isi, q_isis, q_setat, q_onC, q_append, q_pop, q_popAt, q_reverse, q_insert, q_sp1, q_sp2, q_sp3, q_sp4, q_at0, q_atS, q_st0, q_stS, q_iteT, q_iteF, q_isB, q_sumS, q_all, q_any, q_repT, q_spV, q_nLcX, q_sFz, q_gFld, q_sFldD, q_gMake, q_gCallI, q_gMeth, q_iOwnF, q_isO, q_gIxI, q_lenO, q_modN, q_divmod, q_gSMeth, q_dtupA, q_dtupAL, q_gRevD, q_revT, q_revL, q_gCallKw, q_eqO, q_gCallVS, q_gOpO, q_gUnO, q_gCMeth, q_gMakeV, q_gSlot, q_gMakeS, q_sSlot, q_gMethS, q_isS, q_lc3, q_tru, q_onTl, q_onTt, q_onTb, q_onTi, q_onTn, q_lstRev, q_lstRg2, q_lstRg1, q_prop, q_inO, q_gOpL, q_neO, q_gOpN, q_lstZip, q_repr, q_isXT, sp_rest_of, sp__law_back, sp_closes_at, sp__law_is_fraction, sp__law_at_most, sp__law_pair]
  have o1 := ls_take n lo
  have o2 : ∀ l ∈ (ls.drop (n + 1)).reverse, ChOk l.c := fun l h => ls_drop (n + 1) lo l (List.mem_reverse.mp h)
  have k1 := ls_ok (ls := ls.take n) (by simp; omega) o1
  have k2 := ls_ok (ls := (ls.drop (n + 1)).reverse) (by simp; omega) o2
  have kd := ls_ok (ls := ls.drop (n + 1)) (by simp; omega) (ls_drop _ lo)
  have er : lsC (ls.drop (n + 1)).reverse = (lsC (ls.drop (n + 1))).reverse := by unfold lsC; rw [List.map_reverse]
  have es : lsC ls = lsC (ls.take n) ++ l.c :: lsC (ls.drop (n + 1)) := by
    have := congrArg lsC (ls_split hl)
    rw [this]
    unfold lsC
    rw [List.map_append]
    rfl
  have key := cut_iff (as := lsC (ls.take n)) (bs := lsC (ls.drop (n + 1))) k1.2 kd.2 ol
  rw [← es, ← er] at key
  refine sl_take (ls := ls) (lossC_ls RowD.lst (by simp; omega) o1 ?_)
  rw [show ((n : Nat) : Int) + 1 = ((n + 1 : Nat) : Int) by omega]
  refine sl_drop (ls := ls) ⟨_, rfl, lossC_ls (ls := (ls.drop (n + 1)).reverse) (by rw [List.map_reverse]; exact RowD.lst) (by simp; omega) o2 (lossC_ls RowD.lst (by omega) lo ?_)⟩
  obtain ⟨r1, n1, n2⟩ := fin_ok k1
  obtain ⟨r2, n3, n4⟩ := fin_ok k2
  (try dsimp only [q_op, q_un, q_var, q_c, q_nil, q_cons, q_tup, q_frz, q_cel, q_lst, q_test, q_onB, q_and, q_or, q_not, q_andV, q_orV, q_notV, q_if, q_chain, q_next, q_seq, q_drop, q_ret, q_retF, q_retN, q_sif, q_break, q_cont, q_name, q_dnil, q_dcons, q_dtup, q_asg, q_set, q_par, q_for, q_range1, q_range2, q_iseq, q_ienum, q_call, q_cb, q_ncb, q_nop, q_lenset, q_mt, q_mt0, q_setix, q_augs, q_aug, q_nsl, q_onone, q_osome, q_gsl, q_raise, q_raiseF, q_try, q_lc, q_lc2, q_yes, q_wipe0, q_wipe, q_xf, q_I, q_I0, q_U, q_add, q_addT, q_addL, q_addR, q_onL, q_onSt, q_onSl, q_onSs, q_onSrct, q_onSrcl, q_eqI, q_eqB, q_eqS, q_eqN, q_isN, q_ix, q_ixL, q_in, q_len, q_sum, q_max, q_min, q_max2, q_min2, q_abs, q_int, q_intB, q_tupof, q_lstof, q_sort, q_rep, q_cat, q_isi, q_isis, q_setat, q_onC, q_append, q_pop, q_popAt, q_reverse, q_insert, q_sp1, q_sp2, q_sp3, q_sp4, q_at0, q_atS, q_st0, q_stS, q_iteT, q_iteF, q_isB, q_sumS, q_all, q_any, q_repT, q_spV, q_nLcX, q_sFz, q_gFld, q_sFldD, q_gMake, q_gCallI, q_gMeth, q_iOwnF, q_isO, q_gIxI, q_lenO, q_modN, q_divmod, q_gSMeth, q_dtupA, q_dtupAL, q_gRevD, q_revT, q_revL, q_gCallKw, q_eqO, q_gCallVS, q_gOpO, q_gUnO, q_gCMeth, q_gMakeV, q_gSlot, q_gMakeS, q_sSlot, q_gMethS, q_isS, q_lc3, q_tru, q_onTl, q_onTt, q_onTb, q_onTi, q_onTn, q_lstRev, q_lstRg2, q_lstRg1, q_prop, q_inO, q_gOpL, q_neO, q_gOpN, q_lstZip, q_repr, q_isXT])
  rw [isNon_clo]
  unfold rofD
  generalize finL (lsC (ls.take n)) = L at *
  generalize finL (lsC (ls.drop (n + 1)).reverse) = R at *
  by_cases hL : L.1 ≤ 0
  · rw [if_pos hL]
    refine if_t rfl (if_t rfl ?_)
    rw [decide_eq_false (fun z => by have := (key.mp z).1; omega)]
    exact q
  rw [if_neg hL]
  by_cases hR : R.1 ≤ 0
  · rw [if_pos hR]
    refine if_f rfl (if_t rfl ?_)
    rw [decide_eq_false (fun z => by have := (key.mp z).2.1; omega)]
    exact q
  rw [if_neg hR]
  refine if_f rfl (if_f rfl ⟨L.1, L.2, rfl, r1.1, nb_mono n2 (by omega), ?_⟩)
  refine if_f rfl ⟨R.1, R.2, rfl, r2.1, nb_mono n4 (by omega), ?_⟩
  refine if_f rfl ?_
  have m1 := lo_nb1 (t := L.1) r1.1 n1
  have m2 := lo_nb2 (t := L.1) r1.1 n2
  have m3 := lo_nb1 (t := R.1) r2.1 n3
  have m4 := lo_nb2 (t := R.1) r2.1 n4
  obtain ⟨c1, c2, c3, c4⟩ := id ol
  refine RowD.onS RowD.tup ⟨_, rfl, RowD.onS RowD.tup ⟨_, rfl, ?_⟩⟩
  (try dsimp only [q_op, q_un, q_var, q_c, q_nil, q_cons, q_tup, q_frz, q_cel, q_lst, q_test, q_onB, q_and, q_or, q_not, q_andV, q_orV, q_notV, q_if, q_chain, q_next, q_seq, q_drop, q_ret, q_retF, q_retN, q_sif, q_break, q_cont, q_name, q_dnil, q_dcons, q_dtup, q_asg, q_set, q_par, q_for, q_range1, q_range2, q_iseq, q_ienum, q_call, q_cb, q_ncb, q_nop, q_lenset, q_mt, q_mt0, q_setix, q_augs, q_aug, q_nsl, q_onone, q_osome, q_gsl, q_raise, q_raiseF, q_try, q_lc, q_lc2, q_yes, q_wipe0, q_wipe, q_xf, q_I, q_I0, q_U, q_add, q_addT, q_addL, q_addR, q_onL, q_onSt, q_onSl, q_onSs, q_onSrct, q_onSrcl, q_eqI, q_eqB, q_eqS, q_eqN, q_isN, q_ix, q_ixL, q_in, q_len, q_sum, q_max, q_min, q_max2, q_min2, q_abs, q_int, q_intB, q_tupof, q_lstof, q_sort, q_rep, q_cat, q_isi, q_isis, q_setat, q_onC, q_append, q_pop, q_popAt, q_reverse, q_insert, q_sp1, q_sp2, q_sp3, q_sp4, q_at0, q_atS, q_st0, q_stS, q_iteT, q_iteF, q_isB, q_sumS, q_all, q_any, q_repT, q_spV, q_nLcX, q_sFz, q_gFld, q_sFldD, q_gMake, q_gCallI, q_gMeth, q_iOwnF, q_isO, q_gIxI, q_lenO, q_modN, q_divmod, q_gSMeth, q_dtupA, q_dtupAL, q_gRevD, q_revT, q_revL, q_gCallKw, q_eqO, q_gCallVS, q_gOpO, q_gUnO, q_gCMeth, q_gMakeV, q_gSlot, q_gMakeS, q_sSlot, q_gMethS, q_isS, q_lc3, q_tru, q_onTl, q_onTt, q_onTb, q_onTi, q_onTn, q_lstRev, q_lstRg2, q_lstRg1, q_prop, q_inO, q_gOpL, q_neO, q_gOpN, q_lstZip, q_repr, q_isXT])
  refine ⟨cmul m1 m3, RowD.onS RowD.tup ⟨_, rfl, RowD.onS RowD.tup ⟨_, rfl, ?_⟩⟩⟩
  (try dsimp only [q_op, q_un, q_var, q_c, q_nil, q_cons, q_tup, q_frz, q_cel, q_lst, q_test, q_onB, q_and, q_or, q_not, q_andV, q_orV, q_notV, q_if, q_chain, q_next, q_seq, q_drop, q_ret, q_retF, q_retN, q_sif, q_break, q_cont, q_name, q_dnil, q_dcons, q_dtup, q_asg, q_set, q_par, q_for, q_range1, q_range2, q_iseq, q_ienum, q_call, q_cb, q_ncb, q_nop, q_lenset, q_mt, q_mt0, q_setix, q_augs, q_aug, q_nsl, q_onone, q_osome, q_gsl, q_raise, q_raiseF, q_try, q_lc, q_lc2, q_yes, q_wipe0, q_wipe, q_xf, q_I, q_I0, q_U, q_add, q_addT, q_addL, q_addR, q_onL, q_onSt, q_onSl, q_onSs, q_onSrct, q_onSrcl, q_eqI, q_eqB, q_eqS, q_eqN, q_isN, q_ix, q_ixL, q_in, q_len, q_sum, q_max, q_min, q_max2, q_min2, q_abs, q_int, q_intB, q_tupof, q_lstof, q_sort, q_rep, q_cat, q_isi, q_isis, q_setat, q_onC, q_append, q_pop, q_popAt, q_reverse, q_insert, q_sp1, q_sp2, q_sp3, q_sp4, q_at0, q_atS, q_st0, q_stS, q_iteT, q_iteF, q_isB, q_sumS, q_all, q_any, q_repT, q_spV, q_nLcX, q_sFz, q_gFld, q_sFldD, q_gMake, q_gCallI, q_gMeth, q_iOwnF, q_isO, q_gIxI, q_lenO, q_modN, q_divmod, q_gSMeth, q_dtupA, q_dtupAL, q_gRevD, q_revT, q_revL, q_gCallKw, q_eqO, q_gCallVS, q_gOpO, q_gUnO, q_gCMeth, q_gMakeV, q_gSlot, q_gMakeS, q_sSlot, q_gMethS, q_isS, q_lc3, q_tru, q_onTl, q_onTt, q_onTb, q_onTi, q_onTn, q_lstRev, q_lstRg2, q_lstRg1, q_prop, q_inO, q_gOpL, q_neO, q_gOpN, q_lstZip, q_repr, q_isXT])
  refine ⟨cmul m2 m4, lsz (by simp), _, ls_at hl, l, rfl, _, _, _, _, rfl, rfl, nb_mono (nb_mul m1 m3) (by omega), nb_mono (nb_mul m2 m4) (by omega), nb_mono (n := 20) (by unfold nb; omega) (by omega), nb_mono (n := 20) (by unfold nb; omega) (by omega), ?_⟩
  have e := cut_dec key r1.1 r2.1 (by omega) (by omega)
  rw [← e, decide_eq_true rfl]
  exact q
theorem chsC_bad {M : Mem} {E : DXK} {d : DL.D} (hd : ∀ k, chanceC K M d "losses" E k) : ∀ (as : List Ls) (bs : List DL.D) (k : List PP → Prop), (∀ l ∈ as, ChOk l.c) → chsC K M E (as.map Ls.d ++ d :: bs) k
  | [], bs, k, _ => hd _
  | l :: as, bs, k, h => by
    have rest := fun k => chsC_bad hd as bs k (fun x hx => h x (List.mem_cons_of_mem _ hx))
    have := chsC_ls (M := M) (E := E) (K := K) [l] (fun cs => chsC K M E (as.map Ls.d ++ d :: bs) fun cs' => k (cs ++ cs')) (fun x hx => by cases List.mem_singleton.mp hx; exact h l (List.mem_cons_self ..)) (rest _)
    exact this
theorem b__law_refusal (T : Tx K mg) : ∀ d0 d1 M Q E, sp__law_refusal K [d0, d1] M Q E → g__law_refusal K { nx := fun _ M => Q .non M, rt := Q, ex := fun x _ M => E x M } [some d0, some d1, none, none] M := by
  rintro d0 d1 M Q E ⟨i, rfl, i0, i3, h⟩
  unfold g__law_refusal
  dsimp only [q_op, q_un, q_var, q_c, q_nil, q_cons, q_tup, q_frz, q_cel, q_lst, q_test, q_onB, q_and, q_or, q_not, q_andV, q_orV, q_notV, q_if, q_chain, q_next, q_seq, q_drop, q_ret, q_retF, q_retN, q_sif, q_break, q_cont, q_name, q_dnil, q_dcons, q_dtup, q_asg, q_set, q_par, q_for, q_range1, q_range2, q_iseq, q_ienum, q_call, q_cb, q_ncb, q_nop, q_lenset, q_mt, q_mt0, q_setix, q_augs, q_aug, q_nsl, q_onone, q_osome, q_gsl, q_raise, q_raiseF, q_try, q_lc, q_lc2, q_yes, q_wipe0, q_wipe, q_xf, q_I, q_I0, q_U, q_add, q_addT, q_addL, q_addR, q_onL, q_onSt, q_onSl, q_onSs, q_onSrct, q_onSrcl, q_eqI, q_eqB, q_eqS, q_eqN, q_isN, q_ix, q_ixL, q_in, q_len, q_sum, q_max, q_min, q_max2, q_min2, q_abs, q_int, q_intB, q_tupof, q_lstof, q_sort, q_rep, q_cat, q_isi, q_isis, q_setat, q_onC, q_append, q_pop, q_popAt, q_reverse, q_insert, q_sp1, q_sp2, q_sp3, q_sp4, q_at0, q_atS, q_st0, q_stS, q_iteT, q_iteF, q_isB, q_sumS, q_all, q_any, q_repT, q_spV, q_nLcX, q_sFz, q_gFld, q_sFldD, q_gMake, q_gCallI, q_gMeth, q_iOwnF, q_isO, q_gIxI, q_lenO, q_modN, q_divmod, q_gSMeth, q_dtupA, q_dtupAL, q_gRevD, q_revT, q_revL, q_gCallKw, q_eqO, q_gCallVS, q_gOpO, q_gUnO, q_gCMeth, q_gMakeV, q_gSlot, q_gMakeS, q_sSlot, q_gMethS, q_isS, q_lc3, q_tru, q_onTl, q_onTt, q_onTb, q_onTi, q_onTn, q_lstRev, q_lstRg2, q_lstRg1, q_prop, q_inO, q_gOpL, q_neO, q_gOpN, q_lstZip, q_repr, q_isXT, sp_rests, sp_closes_at, sp_rest_of]
  refine ⟨lsz (by simp), ?_⟩
  have hx : ∀ (x : DX) (y : DL.D), refX K Q x M → dHds K { nx := sRet (gVar 2) { nx := fun x M => Q .non M, rt := Q, ex := fun x x_1 M => E x M }, rt := Q, ex := fun x x_1 M => E x M }
      [(Value.ref (He.ga K "BadNumber"), some 3, fun a cls d fs => sSet 2 (gFrz (nLst (aCons (gC (.str "number")) (aCons (gXf a cls d (He.ga K "BadNumber") "name" (gVar 3)) (aCons (gAndV (gCB (dIsXT K cls a d (He.ga K "BadNumber")) (aCons (gVar 3) (aCons (gC (.ty "ValueError")) aNil))) (gNotV (gCB (dIsX K cls a d (He.ga K "BadNumber")) (aCons (gVar 3) (aCons (gC (.ref (He.ga K "TooMany"))) aNil))))) aNil)))))),
        (Value.ref (He.ga K "DiceError"), some 3, fun a cls d fs => sSet 2 (gFrz (nLst (aCons (gC (.str "other")) (aCons (gC (.str "")) (aCons (gC (.bl false)) aNil))))))]
      x [some (.int i), some d1, some y, none] M := by
    rintro x y ⟨s, rfl, q⟩
    refine ⟨true, T.x_BadNumber_BadNumber, fun _ a d hd => ?_, fun z => nomatch z⟩
    (try dsimp only [q_op, q_un, q_var, q_c, q_nil, q_cons, q_tup, q_frz, q_cel, q_lst, q_test, q_onB, q_and, q_or, q_not, q_andV, q_orV, q_notV, q_if, q_chain, q_next, q_seq, q_drop, q_ret, q_retF, q_retN, q_sif, q_break, q_cont, q_name, q_dnil, q_dcons, q_dtup, q_asg, q_set, q_par, q_for, q_range1, q_range2, q_iseq, q_ienum, q_call, q_cb, q_ncb, q_nop, q_lenset, q_mt, q_mt0, q_setix, q_augs, q_aug, q_nsl, q_onone, q_osome, q_gsl, q_raise, q_raiseF, q_try, q_lc, q_lc2, q_yes, q_wipe0, q_wipe, q_xf, q_I, q_I0, q_U, q_add, q_addT, q_addL, q_addR, q_onL, q_onSt, q_onSl, q_onSs, q_onSrct, q_onSrcl, q_eqI, q_eqB, q_eqS, q_eqN, q_isN, q_ix, q_ixL, q_in, q_len, q_sum, q_max, q_min, q_max2, q_min2, q_abs, q_int, q_intB, q_tupof, q_lstof, q_sort, q_rep, q_cat, q_isi, q_isis, q_setat, q_onC, q_append, q_pop, q_popAt, q_reverse, q_insert, q_sp1, q_sp2, q_sp3, q_sp4, q_at0, q_atS, q_st0, q_stS, q_iteT, q_iteF, q_isB, q_sumS, q_all, q_any, q_repT, q_spV, q_nLcX, q_sFz, q_gFld, q_sFldD, q_gMake, q_gCallI, q_gMeth, q_iOwnF, q_isO, q_gIxI, q_lenO, q_modN, q_divmod, q_gSMeth, q_dtupA, q_dtupAL, q_gRevD, q_revT, q_revL, q_gCallKw, q_eqO, q_gCallVS, q_gOpO, q_gUnO, q_gCMeth, q_gMakeV, q_gSlot, q_gMakeS, q_sSlot, q_gMethS, q_isS, q_lc3, q_tru, q_onTl, q_onTt, q_onTb, q_onTi, q_onTn, q_lstRev, q_lstRg2, q_lstRg1, q_prop, q_inO, q_gOpL, q_neO, q_gOpN, q_lstZip, q_repr, q_isXT])
    refine ⟨rfl, _, .str s, rfl, by simp [xBN, exOf, List.lookup], ?_⟩
    refine ⟨rfl, ⟨_, rfl⟩, true, T.kv_BadNumber, ?_⟩
    (try dsimp only [q_op, q_un, q_var, q_c, q_nil, q_cons, q_tup, q_frz, q_cel, q_lst, q_test, q_onB, q_and, q_or, q_not, q_andV, q_orV, q_notV, q_if, q_chain, q_next, q_seq, q_drop, q_ret, q_retF, q_retN, q_sif, q_break, q_cont, q_name, q_dnil, q_dcons, q_dtup, q_asg, q_set, q_par, q_for, q_range1, q_range2, q_iseq, q_ienum, q_call, q_cb, q_ncb, q_nop, q_lenset, q_mt, q_mt0, q_setix, q_augs, q_aug, q_nsl, q_onone, q_osome, q_gsl, q_raise, q_raiseF, q_try, q_lc, q_lc2, q_yes, q_wipe0, q_wipe, q_xf, q_I, q_I0, q_U, q_add, q_addT, q_addL, q_addR, q_onL, q_onSt, q_onSl, q_onSs, q_onSrct, q_onSrcl, q_eqI, q_eqB, q_eqS, q_eqN, q_isN, q_ix, q_ixL, q_in, q_len, q_sum, q_max, q_min, q_max2, q_min2, q_abs, q_int, q_intB, q_tupof, q_lstof, q_sort, q_rep, q_cat, q_isi, q_isis, q_setat, q_onC, q_append, q_pop, q_popAt, q_reverse, q_insert, q_sp1, q_sp2, q_sp3, q_sp4, q_at0, q_atS, q_st0, q_stS, q_iteT, q_iteF, q_isB, q_sumS, q_all, q_any, q_repT, q_spV, q_nLcX, q_sFz, q_gFld, q_sFldD, q_gMake, q_gCallI, q_gMeth, q_iOwnF, q_isO, q_gIxI, q_lenO, q_modN, q_divmod, q_gSMeth, q_dtupA, q_dtupAL, q_gRevD, q_revT, q_revL, q_gCallKw, q_eqO, q_gCallVS, q_gOpO, q_gUnO, q_gCMeth, q_gMakeV, q_gSlot, q_gMakeS, q_sSlot, q_gMethS, q_isS, q_lc3, q_tru, q_onTl, q_onTt, q_onTb, q_onTi, q_onTn, q_lstRev, q_lstRg2, q_lstRg1, q_prop, q_inO, q_gOpL, q_neO, q_gOpN, q_lstZip, q_repr, q_isXT])
    refine if_t rfl ⟨rfl, ⟨_, rfl⟩, false, T.k_BadNumber_TooMany, lsz (by simp), q⟩
  rcases (show i = 0 ∨ i = 1 ∨ i = 2 by omega) with rfl | rfl | rfl
  · refine if_t rfl (lossC_imp (fun x z => hx x _ z) (fun cs _ q => ?_) h)
    exact if_f rfl (if_f rfl q)
  · refine if_f rfl (if_t rfl (lossC_imp (fun x z => hx x _ z) (fun cs _ q => ?_) h))
    exact if_f rfl q
  · refine if_f rfl (if_f rfl (if_t rfl (lossC_imp (fun x z => hx x _ z) (fun cs _ q => ?_) h)))
    exact q
theorem loop_all {ok : Mem → Prop} {gb : DS} {E : DEnds} {ρ : Dv} {M : Mem} {α : Type} {i : Nat} (v : α → DL.D) (xs : List α) (I : Dv → Mem → Prop) (hok : ∀ ρ M, I ρ M → ok M)
    (hs : ∀ x ρ M, x ∈ xs → I ρ M → ∀ Nx : Dv → Mem → Prop, (∀ ρ M, I ρ M → Nx ρ M) → gb { E with nx := Nx, ct := Nx, bk := E.nx } (ρ.set i (some (v x))) M)
    (hd : ∀ ρ M, I ρ M → E.nx ρ M) (h0 : I ρ M) : loopD ok (dName i) gb E (xs.map v) ρ M :=
  loop_map v xs (fun _ ρ M => I ρ M) (fun _ ρ M _ h => hok ρ M h) (fun _ x ρ M hx h Nx hN => hs x ρ M (List.mem_of_getElem? hx) h Nx hN) hd h0
def wrongL : List DL.D := [.tup [.int 3, .int 2], .int (-1), .bl true, .tup [.int 1, .int 0], .tup [.int (-1), .int 2], .non, .int 2, .tup [.int 1, .int 2, .int 3], .str "half", .tup [.int 1, .int (-2)], .tup [.bl true, .int 2], .lst []]
instance (c : PP) : Decidable (ChOk c) := inferInstanceAs (Decidable (0 ≤ c.1 ∧ c.1 ≤ c.2 ∧ 1 ≤ c.2 ∧ c.2 ≤ 1000000))
theorem wrong_bad {M : Mem} {E : DXK} {d : DL.D} (h : d ∈ wrongL) (e : E (xBN K "losses") M) : ∀ k, chanceC K M d "losses" E k := by
  intro k
  have n1 : ∀ x : Int, -10 ≤ x → x ≤ 10 → nb 1000 x := fun x a b => nb_mono (n := 20) (by unfold nb; omega) (by omega)
  have two : ∀ t b : Int, 1 ≤ b → -10 ≤ t → t ≤ 10 → b ≤ 10 → (t < 0 ∨ b < t) → chanceC K M (.tup [.int t, .int b]) "losses" E k := fun t b h1 h2 h3 h4 h5 => .inr (.inl ⟨t, b, RowD.tup, h1, n1 t h2 h3, n1 b (by omega) h4, by dsimp only; rw [if_pos h5]; exact e⟩)
  have int : ∀ t : Int, -10 ≤ t → t ≤ 10 → (t < 0 ∨ 1 < t) → chanceC K M (.int t) "losses" E k := fun t h2 h3 h5 => .inl ⟨t, rfl, n1 t h2 h3, by dsimp only; rw [if_pos h5]; exact e⟩
  have pair : ∀ x y : DL.D, kindB x = true → kindB y = true → (¬ ∃ t b : Int, x = .int t ∧ y = .int b ∧ 1 ≤ b) → chanceC K M (.tup [x, y]) "losses" E k := fun x y a b c => .inr (.inr ⟨(fun _ z => nomatch z), .inr (.inr ⟨x, y, RowD.tup, a, b, c⟩), e⟩)
  simp only [wrongL, List.mem_cons, List.not_mem_nil, or_false] at h
  rcases h with rfl | rfl | rfl | rfl | rfl | rfl | rfl | rfl | rfl | rfl | rfl | rfl
  · exact two 3 2 (by decide) (by decide) (by decide) (by decide) (by decide)
  · exact int (-1) (by decide) (by decide) (by decide)
  · exact .inr (.inr ⟨(fun _ z => nomatch z), .inl ⟨.bool, rfl, by decide, by decide, by decide⟩, e⟩)
  · exact pair _ _ rfl rfl (by rintro ⟨t, b, h1, h2, h3⟩; cases h2; omega)
  · exact two (-1) 2 (by decide) (by decide) (by decide) (by decide) (by decide)
  · exact .inr (.inr ⟨(fun _ z => nomatch z), .inl ⟨.none, rfl, by decide, by decide, by decide⟩, e⟩)
  · exact int 2 (by decide) (by decide) (by decide)
  · exact .inr (.inr ⟨(fun _ z => nomatch z), .inr (.inl ⟨_, RowD.tup, by decide⟩), e⟩)
  · exact .inr (.inr ⟨(fun _ z => nomatch z), .inl ⟨.str, rfl, by decide, by decide, by decide⟩, e⟩)
  · exact pair _ _ rfl rfl (by rintro ⟨t, b, h1, h2, h3⟩; cases h2; omega)
  · exact pair _ _ rfl rfl (by rintro ⟨t, b, h1, h2, h3⟩; cases h1)
  · exact .inr (.inr ⟨(fun _ z => nomatch z), .inr (.inl ⟨[], RowD.lst, by decide⟩), e⟩)
theorem row_bad {M : Mem} {E : DXK} {x d : DL.D} {as : List Ls} {bs : List DL.D} {k : List PP → Prop} (r : RowD M x (as.map Ls.d ++ d :: bs)) (l : as.length + bs.length ≤ 16) (lo : ∀ l ∈ as, ChOk l.c) (h : d ∈ wrongL) (e : E (xBN K "losses") M) : lossC K M x E k :=
  .inr ⟨_, r, by simp; omega, chsC_bad (wrong_bad h e) as bs _ lo⟩
theorem no_row {M : Mem} {E : DXK} {x : DL.D} {k : List PP → Prop} {t : Kd} (ht : kdOf M x = some t) (h1 : t ≠ .tuple) (h2 : t ≠ .list) (e : E (xBN K "losses") M) : lossC K M x E k := .inl ⟨t, ht, h1, h2, e⟩
def gRf1 (K : PySem.W.Frag) : DS :=
  (sSeq (sFor (iRange1 (aCons (gC (.int 3)) aNil)) (dName 6) (sSeq (sFor (iSeqD (gFrz (nLst (aCons (gVar 5) (aCons (gCB dTupleOf (aCons (gVar 5) aNil)) (aCons (gC (.int 5)) (aCons (gC .non) (aCons (gC (.str "row")) (aCons (gC (.bl true)) aNil))))))))) (dName 7) (sIf (gTest (gOp dNe (gCall (sp__law_refusal K) (aCons (gVar 6) (aCons (gVar 7) aNil))) (gFrz (nLst (aCons (gC (.str "number")) (aCons (gC (.str "losses")) (aCons (gC (.bl true)) aNil))))))) (sRet (gC (.bl false))) sNext))
    (sFor (iSeqD (gFrz (nLst (aCons (gFrz (nLst aNil)) (aCons (gTup aNil) (aCons (gFrz (nLst (aCons (gC (.int 0)) aNil))) (aCons (gFrz (nLst (aCons (gTup (aCons (gC (.int 1)) (aCons (gC (.int 1)) aNil))) aNil))) (aCons (gTup (aCons (gTup (aCons (gC (.int 0)) (aCons (gC (.int 1)) aNil))) (aCons (gTup (aCons (gC (.int 1)) (aCons (gC (.int 2)) aNil))) aNil))) aNil)))))))) (dName 7) (sIf (gTest (gOp dNe (gCall (sp__law_refusal K) (aCons (gVar 6) (aCons (gVar 7) aNil))) (gFrz (nLst (aCons (gC (.str "nothing")) (aCons (gC (.str "")) (aCons (gC (.bl false)) aNil))))))) (sRet (gC (.bl false))) sNext))))
    (sRet (gC (.bl true))))
theorem pl_str {s : String} {b : Bool} {x : DL.D} (h : plainN 8 x = true) : plainN 9 (.lst [.str (Str.ofString s), x, .bl b]) = true := by
  show (PyData.strOk (Str.ofString s) && (plainN 8 x && (true && true))) = true
  rw [sok_s, h]
  rfl
theorem thing_bad {M : Mem} {E : DXK} {x d : DL.D} {as : List Ls} {bs : List DL.D} {k : List PP → Prop} (hx : x ∈ [DL.D.lst (as.map Ls.d ++ d :: bs), .tup (as.map Ls.d ++ d :: bs), .int 5, .non, .str "row", .bl true]) (l : as.length + bs.length ≤ 16) (lo : ∀ l ∈ as, ChOk l.c) (h : d ∈ wrongL) (e : E (xBN K "losses") M) : lossC K M x E k := by
  simp only [List.mem_cons, List.not_mem_nil, or_false] at hx
  rcases hx with rfl | rfl | rfl | rfl | rfl | rfl
  · exact row_bad RowD.lst l lo h e
  · exact row_bad RowD.tup l lo h e
  · exact no_row (t := .int) rfl (by decide) (by decide) e
  · exact no_row (t := .none) rfl (by decide) (by decide) e
  · exact no_row (t := .str) rfl (by decide) (by decide) e
  · exact no_row (t := .bool) rfl (by decide) (by decide) e
theorem thing_good {M : Mem} {E : DXK} {x : DL.D} {q : Prop} (hx : x ∈ [DL.D.lst [], .tup [], .lst [.int 0], .lst [.tup [.int 1, .int 1]], .tup [.tup [.int 0, .int 1], .tup [.int 1, .int 2]]]) (h : q) : lossC K M x E fun _ => q := by
  have c0 : ChOk (0, 1) := by decide
  have c1 : ChOk (1, 1) := by decide
  have c2 : ChOk (1, 2) := by decide
  simp only [List.mem_cons, List.not_mem_nil, or_false] at hx
  rcases hx with rfl | rfl | rfl | rfl | rfl
  · exact lossC_ls (ls := []) RowD.lst (by simp) (fun _ h => nomatch h) h
  · exact lossC_ls (ls := []) RowD.tup (by simp) (fun _ h => nomatch h) h
  · exact lossC_ls (ls := [.i 0]) RowD.lst (by simp) (ls_one c0) h
  · exact lossC_ls (ls := [.t 1 1]) RowD.lst (by simp) (ls_one c1) h
  · exact lossC_ls (ls := [.t 0 1, .t 1 2]) RowD.tup (by simp) (ls_app (as := [.t 0 1]) (bs := [.t 1 2]) (ls_one c0) (ls_one c2)) h
theorem refuses_tail {M : Mem} {Q : DVK} {E : DXK} {x0 x1 x2 x3 x4 : Option DL.D} {as : List Ls} {bs : List DL.D} {d : DL.D} (l : as.length + bs.length ≤ 16) (lo : ∀ l ∈ as, ChOk l.c) (h : d ∈ wrongL) (q : Q (.bl true) M) :
    gRf1 K { nx := fun _ M => Q .non M, rt := Q, ex := fun x _ M => E x M } [x0, x1, x2, x3, x4, some (.lst (as.map Ls.d ++ d :: bs)), none, none] M := by
  unfold gRf1
  dsimp only [q_op, q_un, q_var, q_c, q_nil, q_cons, q_tup, q_frz, q_cel, q_lst, q_test, q_onB, q_and, q_or, q_not, q_andV, q_orV, q_notV, q_if, q_chain, q_next, q_seq, q_drop, q_ret, q_retF, q_retN, q_sif, q_break, q_cont, q_name, q_dnil, q_dcons, q_dtup, q_asg, q_set, q_par, q_for, q_range1, q_range2, q_iseq, q_ienum, q_call, q_cb, q_ncb, q_nop, q_lenset, q_mt, q_mt0, q_setix, q_augs, q_aug, q_nsl, q_onone, q_osome, q_gsl, q_raise, q_raiseF, q_try, q_lc, q_lc2, q_yes, q_wipe0, q_wipe, q_xf, q_I, q_I0, q_U, q_add, q_addT, q_addL, q_addR, q_onL, q_onSt, q_onSl, q_onSs, q_onSrct, q_onSrcl, q_eqI, q_eqB, q_eqS, q_eqN, q_isN, q_ix, q_ixL, q_in, q_len, q_sum, q_max, q_min, q_max2, q_min2, q_abs, q_int, q_intB, q_tupof, q_lstof, q_sort, q_rep, q_cat, q_isi, q_isis, q_setat, q_onC, q_append, q_pop, q_popAt, q_reverse, q_insert, q_sp1, q_sp2, q_sp3, q_sp4, q_at0, q_atS, q_st0, q_stS, q_iteT, q_iteF, q_isB, q_sumS, q_all, q_any, q_repT, q_spV, q_nLcX, q_sFz, q_gFld, q_sFldD, q_gMake, q_gCallI, q_gMeth, q_iOwnF, q_isO, q_gIxI, q_lenO, q_modN, q_divmod, q_gSMeth, q_dtupA, q_dtupAL, q_gRevD, q_revT, q_revL, q_gCallKw, q_eqO, q_gCallVS, q_gOpO, q_gUnO, q_gCMeth, q_gMakeV, q_gSlot, q_gMakeS, q_sSlot, q_gMethS, q_isS, q_lc3, q_tru, q_onTl, q_onTt, q_onTb, q_onTi, q_onTn, q_lstRev, q_lstRg2, q_lstRg1, q_prop, q_inO, q_gOpL, q_neO, q_gOpN, q_lstZip, q_repr, q_isXT, sp__law_refusal]
  refine ⟨by decide, ?_⟩
  show loopD _ _ _ _ (rgD 0 3) _ _
  refine loop_rg0 (fun k ρ M2 => (∃ a b : Option DL.D, ρ = [x0, x1, x2, x3, x4, some (.lst (as.map Ls.d ++ d :: bs)), a, b]) ∧ M2 = M) ?_ ?_ ⟨⟨_, _, rfl⟩, rfl⟩
  · rintro k ρ M2 hk ⟨⟨a, b, rfl⟩, rfl⟩ Nx hN
    have hk3 : k < 3 := hk
    (try dsimp only [q_op, q_un, q_var, q_c, q_nil, q_cons, q_tup, q_frz, q_cel, q_lst, q_test, q_onB, q_and, q_or, q_not, q_andV, q_orV, q_notV, q_if, q_chain, q_next, q_seq, q_drop, q_ret, q_retF, q_retN, q_sif, q_break, q_cont, q_name, q_dnil, q_dcons, q_dtup, q_asg, q_set, q_par, q_for, q_range1, q_range2, q_iseq, q_ienum, q_call, q_cb, q_ncb, q_nop, q_lenset, q_mt, q_mt0, q_setix, q_augs, q_aug, q_nsl, q_onone, q_osome, q_gsl, q_raise, q_raiseF, q_try, q_lc, q_lc2, q_yes, q_wipe0, q_wipe, q_xf, q_I, q_I0, q_U, q_add, q_addT, q_addL, q_addR, q_onL, q_onSt, q_onSl, q_onSs, q_onSrct, q_onSrcl, q_eqI, q_eqB, q_eqS, q_eqN, q_isN, q_ix, q_ixL, q_in, q_len, q_sum, q_max, q_min, q_max2, q_min2, q_abs, q_int, q_intB, q_tupof, q_lstof, q_sort, q_rep, q_cat, q_isi, q_isis, q_setat, q_onC, q_append, q_pop, q_popAt, q_reverse, q_insert, q_sp1, q_sp2, q_sp3, q_sp4, q_at0, q_atS, q_st0, q_stS, q_iteT, q_iteF, q_isB, q_sumS, q_all, q_any, q_repT, q_spV, q_nLcX, q_sFz, q_gFld, q_sFldD, q_gMake, q_gCallI, q_gMeth, q_iOwnF, q_isO, q_gIxI, q_lenO, q_modN, q_divmod, q_gSMeth, q_dtupA, q_dtupAL, q_gRevD, q_revT, q_revL, q_gCallKw, q_eqO, q_gCallVS, q_gOpO, q_gUnO, q_gCMeth, q_gMakeV, q_gSlot, q_gMakeS, q_sSlot, q_gMethS, q_isS, q_lc3, q_tru, q_onTl, q_onTt, q_onTb, q_onTi, q_onTn, q_lstRev, q_lstRg2, q_lstRg1, q_prop, q_inO, q_gOpL, q_neO, q_gOpN, q_lstZip, q_repr, q_isXT])
    refine ⟨lsz (by simp), ?_⟩
    refine loop_all (fun x : DL.D => x) [_, _, _, _, _, _] (fun ρ M3 => (∃ a : Option DL.D, ρ = [x0, x1, x2, x3, x4, some (.lst (as.map Ls.d ++ d :: bs)), some (.int (k : Nat)), a]) ∧ M3 = M2) (fun _ _ _ => trivial) ?_ ?_ ⟨⟨_, rfl⟩, rfl⟩
    · rintro x ρ M3 hx ⟨⟨a, rfl⟩, rfl⟩ Ny hNy
      (try dsimp only [q_op, q_un, q_var, q_c, q_nil, q_cons, q_tup, q_frz, q_cel, q_lst, q_test, q_onB, q_and, q_or, q_not, q_andV, q_orV, q_notV, q_if, q_chain, q_next, q_seq, q_drop, q_ret, q_retF, q_retN, q_sif, q_break, q_cont, q_name, q_dnil, q_dcons, q_dtup, q_asg, q_set, q_par, q_for, q_range1, q_range2, q_iseq, q_ienum, q_call, q_cb, q_ncb, q_nop, q_lenset, q_mt, q_mt0, q_setix, q_augs, q_aug, q_nsl, q_onone, q_osome, q_gsl, q_raise, q_raiseF, q_try, q_lc, q_lc2, q_yes, q_wipe0, q_wipe, q_xf, q_I, q_I0, q_U, q_add, q_addT, q_addL, q_addR, q_onL, q_onSt, q_onSl, q_onSs, q_onSrct, q_onSrcl, q_eqI, q_eqB, q_eqS, q_eqN, q_isN, q_ix, q_ixL, q_in, q_len, q_sum, q_max, q_min, q_max2, q_min2, q_abs, q_int, q_intB, q_tupof, q_lstof, q_sort, q_rep, q_cat, q_isi, q_isis, q_setat, q_onC, q_append, q_pop, q_popAt, q_reverse, q_insert, q_sp1, q_sp2, q_sp3, q_sp4, q_at0, q_atS, q_st0, q_stS, q_iteT, q_iteF, q_isB, q_sumS, q_all, q_any, q_repT, q_spV, q_nLcX, q_sFz, q_gFld, q_sFldD, q_gMake, q_gCallI, q_gMeth, q_iOwnF, q_isO, q_gIxI, q_lenO, q_modN, q_divmod, q_gSMeth, q_dtupA, q_dtupAL, q_gRevD, q_revT, q_revL, q_gCallKw, q_eqO, q_gCallVS, q_gOpO, q_gUnO, q_gCMeth, q_gMakeV, q_gSlot, q_gMakeS, q_sSlot, q_gMethS, q_isS, q_lc3, q_tru, q_onTl, q_onTt, q_onTb, q_onTi, q_onTn, q_lstRev, q_lstRg2, q_lstRg1, q_prop, q_inO, q_gOpL, q_neO, q_gOpN, q_lstZip, q_repr, q_isXT])
      refine ⟨(k : Int), rfl, by omega, by omega, ?_⟩
      refine thing_bad hx l lo h ⟨"losses", rfl, lsz (by simp), eq_self rfl (pl_str (sok_s _)) ?_⟩
      (try dsimp only [q_op, q_un, q_var, q_c, q_nil, q_cons, q_tup, q_frz, q_cel, q_lst, q_test, q_onB, q_and, q_or, q_not, q_andV, q_orV, q_notV, q_if, q_chain, q_next, q_seq, q_drop, q_ret, q_retF, q_retN, q_sif, q_break, q_cont, q_name, q_dnil, q_dcons, q_dtup, q_asg, q_set, q_par, q_for, q_range1, q_range2, q_iseq, q_ienum, q_call, q_cb, q_ncb, q_nop, q_lenset, q_mt, q_mt0, q_setix, q_augs, q_aug, q_nsl, q_onone, q_osome, q_gsl, q_raise, q_raiseF, q_try, q_lc, q_lc2, q_yes, q_wipe0, q_wipe, q_xf, q_I, q_I0, q_U, q_add, q_addT, q_addL, q_addR, q_onL, q_onSt, q_onSl, q_onSs, q_onSrct, q_onSrcl, q_eqI, q_eqB, q_eqS, q_eqN, q_isN, q_ix, q_ixL, q_in, q_len, q_sum, q_max, q_min, q_max2, q_min2, q_abs, q_int, q_intB, q_tupof, q_lstof, q_sort, q_rep, q_cat, q_isi, q_isis, q_setat, q_onC, q_append, q_pop, q_popAt, q_reverse, q_insert, q_sp1, q_sp2, q_sp3, q_sp4, q_at0, q_atS, q_st0, q_stS, q_iteT, q_iteF, q_isB, q_sumS, q_all, q_any, q_repT, q_spV, q_nLcX, q_sFz, q_gFld, q_sFldD, q_gMake, q_gCallI, q_gMeth, q_iOwnF, q_isO, q_gIxI, q_lenO, q_modN, q_divmod, q_gSMeth, q_dtupA, q_dtupAL, q_gRevD, q_revT, q_revL, q_gCallKw, q_eqO, q_gCallVS, q_gOpO, q_gUnO, q_gCMeth, q_gMakeV, q_gSlot, q_gMakeS, q_sSlot, q_gMethS, q_isS, q_lc3, q_tru, q_onTl, q_onTt, q_onTb, q_onTi, q_onTn, q_lstRev, q_lstRg2, q_lstRg1, q_prop, q_inO, q_gOpL, q_neO, q_gOpN, q_lstZip, q_repr, q_isXT])
      exact if_f rfl (hNy _ _ ⟨⟨_, rfl⟩, rfl⟩)
    · rintro ρ M3 ⟨⟨a, rfl⟩, rfl⟩
      (try dsimp only [q_op, q_un, q_var, q_c, q_nil, q_cons, q_tup, q_frz, q_cel, q_lst, q_test, q_onB, q_and, q_or, q_not, q_andV, q_orV, q_notV, q_if, q_chain, q_next, q_seq, q_drop, q_ret, q_retF, q_retN, q_sif, q_break, q_cont, q_name, q_dnil, q_dcons, q_dtup, q_asg, q_set, q_par, q_for, q_range1, q_range2, q_iseq, q_ienum, q_call, q_cb, q_ncb, q_nop, q_lenset, q_mt, q_mt0, q_setix, q_augs, q_aug, q_nsl, q_onone, q_osome, q_gsl, q_raise, q_raiseF, q_try, q_lc, q_lc2, q_yes, q_wipe0, q_wipe, q_xf, q_I, q_I0, q_U, q_add, q_addT, q_addL, q_addR, q_onL, q_onSt, q_onSl, q_onSs, q_onSrct, q_onSrcl, q_eqI, q_eqB, q_eqS, q_eqN, q_isN, q_ix, q_ixL, q_in, q_len, q_sum, q_max, q_min, q_max2, q_min2, q_abs, q_int, q_intB, q_tupof, q_lstof, q_sort, q_rep, q_cat, q_isi, q_isis, q_setat, q_onC, q_append, q_pop, q_popAt, q_reverse, q_insert, q_sp1, q_sp2, q_sp3, q_sp4, q_at0, q_atS, q_st0, q_stS, q_iteT, q_iteF, q_isB, q_sumS, q_all, q_any, q_repT, q_spV, q_nLcX, q_sFz, q_gFld, q_sFldD, q_gMake, q_gCallI, q_gMeth, q_iOwnF, q_isO, q_gIxI, q_lenO, q_modN, q_divmod, q_gSMeth, q_dtupA, q_dtupAL, q_gRevD, q_revT, q_revL, q_gCallKw, q_eqO, q_gCallVS, q_gOpO, q_gUnO, q_gCMeth, q_gMakeV, q_gSlot, q_gMakeS, q_sSlot, q_gMethS, q_isS, q_lc3, q_tru, q_onTl, q_onTt, q_onTb, q_onTi, q_onTn, q_lstRev, q_lstRg2, q_lstRg1, q_prop, q_inO, q_gOpL, q_neO, q_gOpN, q_lstZip, q_repr, q_isXT])
      refine ⟨lsz (by simp), lsz (by simp), lsz (by simp), lsz (by simp), lsz (by simp), lsz (by simp), lsz (by simp), lsz (by simp), lsz (by simp), ?_⟩
      refine loop_all (fun x : DL.D => x) [_, _, _, _, _] (fun ρ M4 => (∃ a : Option DL.D, ρ = [x0, x1, x2, x3, x4, some (.lst (as.map Ls.d ++ d :: bs)), some (.int (k : Nat)), a]) ∧ M4 = M3) (fun _ _ _ => trivial) ?_ ?_ ⟨⟨_, rfl⟩, rfl⟩
      · rintro x ρ M4 hx ⟨⟨a, rfl⟩, rfl⟩ Ny hNy
        (try dsimp only [q_op, q_un, q_var, q_c, q_nil, q_cons, q_tup, q_frz, q_cel, q_lst, q_test, q_onB, q_and, q_or, q_not, q_andV, q_orV, q_notV, q_if, q_chain, q_next, q_seq, q_drop, q_ret, q_retF, q_retN, q_sif, q_break, q_cont, q_name, q_dnil, q_dcons, q_dtup, q_asg, q_set, q_par, q_for, q_range1, q_range2, q_iseq, q_ienum, q_call, q_cb, q_ncb, q_nop, q_lenset, q_mt, q_mt0, q_setix, q_augs, q_aug, q_nsl, q_onone, q_osome, q_gsl, q_raise, q_raiseF, q_try, q_lc, q_lc2, q_yes, q_wipe0, q_wipe, q_xf, q_I, q_I0, q_U, q_add, q_addT, q_addL, q_addR, q_onL, q_onSt, q_onSl, q_onSs, q_onSrct, q_onSrcl, q_eqI, q_eqB, q_eqS, q_eqN, q_isN, q_ix, q_ixL, q_in, q_len, q_sum, q_max, q_min, q_max2, q_min2, q_abs, q_int, q_intB, q_tupof, q_lstof, q_sort, q_rep, q_cat, q_isi, q_isis, q_setat, q_onC, q_append, q_pop, q_popAt, q_reverse, q_insert, q_sp1, q_sp2, q_sp3, q_sp4, q_at0, q_atS, q_st0, q_stS, q_iteT, q_iteF, q_isB, q_sumS, q_all, q_any, q_repT, q_spV, q_nLcX, q_sFz, q_gFld, q_sFldD, q_gMake, q_gCallI, q_gMeth, q_iOwnF, q_isO, q_gIxI, q_lenO, q_modN, q_divmod, q_gSMeth, q_dtupA, q_dtupAL, q_gRevD, q_revT, q_revL, q_gCallKw, q_eqO, q_gCallVS, q_gOpO, q_gUnO, q_gCMeth, q_gMakeV, q_gSlot, q_gMakeS, q_sSlot, q_gMethS, q_isS, q_lc3, q_tru, q_onTl, q_onTt, q_onTb, q_onTi, q_onTn, q_lstRev, q_lstRg2, q_lstRg1, q_prop, q_inO, q_gOpL, q_neO, q_gOpN, q_lstZip, q_repr, q_isXT])
        refine ⟨(k : Int), rfl, by omega, by omega, ?_⟩
        refine thing_good hx ⟨lsz (by simp), eq_self rfl (pl_str (sok_s _)) ?_⟩
        (try dsimp only [q_op, q_un, q_var, q_c, q_nil, q_cons, q_tup, q_frz, q_cel, q_lst, q_test, q_onB, q_and, q_or, q_not, q_andV, q_orV, q_notV, q_if, q_chain, q_next, q_seq, q_drop, q_ret, q_retF, q_retN, q_sif, q_break, q_cont, q_name, q_dnil, q_dcons, q_dtup, q_asg, q_set, q_par, q_for, q_range1, q_range2, q_iseq, q_ienum, q_call, q_cb, q_ncb, q_nop, q_lenset, q_mt, q_mt0, q_setix, q_augs, q_aug, q_nsl, q_onone, q_osome, q_gsl, q_raise, q_raiseF, q_try, q_lc, q_lc2, q_yes, q_wipe0, q_wipe, q_xf, q_I, q_I0, q_U, q_add, q_addT, q_addL, q_addR, q_onL, q_onSt, q_onSl, q_onSs, q_onSrct, q_onSrcl, q_eqI, q_eqB, q_eqS, q_eqN, q_isN, q_ix, q_ixL, q_in, q_len, q_sum, q_max, q_min, q_max2, q_min2, q_abs, q_int, q_intB, q_tupof, q_lstof, q_sort, q_rep, q_cat, q_isi, q_isis, q_setat, q_onC, q_append, q_pop, q_popAt, q_reverse, q_insert, q_sp1, q_sp2, q_sp3, q_sp4, q_at0, q_atS, q_st0, q_stS, q_iteT, q_iteF, q_isB, q_sumS, q_all, q_any, q_repT, q_spV, q_nLcX, q_sFz, q_gFld, q_sFldD, q_gMake, q_gCallI, q_gMeth, q_iOwnF, q_isO, q_gIxI, q_lenO, q_modN, q_divmod, q_gSMeth, q_dtupA, q_dtupAL, q_gRevD, q_revT, q_revL, q_gCallKw, q_eqO, q_gCallVS, q_gOpO, q_gUnO, q_gCMeth, q_gMakeV, q_gSlot, q_gMakeS, q_sSlot, q_gMethS, q_isS, q_lc3, q_tru, q_onTl, q_onTt, q_onTb, q_onTi, q_onTn, q_lstRev, q_lstRg2, q_lstRg1, q_prop, q_inO, q_gOpL, q_neO, q_gOpN, q_lstZip, q_repr, q_isXT])
        exact if_f rfl (hNy _ _ ⟨⟨_, rfl⟩, rfl⟩)
      · rintro ρ M4 ⟨⟨a, rfl⟩, rfl⟩
        exact hN _ _ ⟨⟨_, _, rfl⟩, rfl⟩
  · rintro ρ M2 ⟨⟨a, b, rfl⟩, rfl⟩
    exact q
theorem b__law_refuses : ∀ d0 d1 M Q E, sp__law_refuses K [d0, d1] M Q E → g__law_refuses K { nx := fun _ M => Q .non M, rt := Q, ex := fun x _ M => E x M } [some d0, some d1, none, none, none, none, none, none] M := by
  rintro d0 d1 M Q E ⟨p, ls, rfl, hp, rfl, ⟨l16, lo⟩, q⟩
  unfold g__law_refuses
  generalize hT2 : gRf1 K = TL
  have hT3 := hT2
  unfold gRf1 at hT3
  rw [hT3]
  clear hT3
  dsimp only [q_op, q_un, q_var, q_c, q_nil, q_cons, q_tup, q_frz, q_cel, q_lst, q_test, q_onB, q_and, q_or, q_not, q_andV, q_orV, q_notV, q_if, q_chain, q_next, q_seq, q_drop, q_ret, q_retF, q_retN, q_sif, q_break, q_cont, q_name, q_dnil, q_dcons, q_dtup, q_asg, q_set, q_par, q_for, q_range1, q_range2, q_iseq, q_ienum, q_call, q_cb, q_ncb, q_nop, q_lenset, q_mt, q_mt0, q_setix, q_augs, q_aug, q_nsl, q_onone, q_osome, q_gsl, q_raise, q_raiseF, q_try, q_lc, q_lc2, q_yes, q_wipe0, q_wipe, q_xf, q_I, q_I0, q_U, q_add, q_addT, q_addL, q_addR, q_onL, q_onSt, q_onSl, q_onSs, q_onSrct, q_onSrcl, q_eqI, q_eqB, q_eqS, q_eqN, q_isN, q_ix, q_ixL, q_in, q_len, q_sum, q_max, q_min, q_max2, q_min2, q_abs, q_int, q_intB, q_tupof, q_lstof, q_sort, q_rep, q_cat, q_isi, q_isis, q_setat, q_onC, q_append, q_pop, q_popAt, q_reverse, q_insert, q_sp1, q_sp2, q_sp3, q_sp4, q_at0, q_atS, q_st0, q_stS, q_iteT, q_iteF, q_isB, q_sumS, q_all, q_any, q_repT, q_spV, q_nLcX, q_sFz, q_gFld, q_sFldD, q_gMake, q_gCallI, q_gMeth, q_iOwnF, q_isO, q_gIxI, q_lenO, q_modN, q_divmod, q_gSMeth, q_dtupA, q_dtupAL, q_gRevD, q_revT, q_revL, q_gCallKw, q_eqO, q_gCallVS, q_gOpO, q_gUnO, q_gCMeth, q_gMakeV, q_gSlot, q_gMakeS, q_sSlot, q_gMethS, q_isS, q_lc3, q_tru, q_onTl, q_onTt, q_onTb, q_onTi, q_onTn, q_lstRev, q_lstRg2, q_lstRg1, q_prop, q_inO, q_gOpL, q_neO, q_gOpN, q_lstZip, q_repr, q_isXT, sp__law_take]
  refine ⟨lsz (by simp), lsz (by simp), lsz (by simp), lsz (by simp), lsz (by simp), lsz (by simp), lsz (by simp), lsz (by simp), p, 12, rfl, rfl, by decide, hp, fun r xs r0 r1 => ?_⟩
  obtain ⟨i, rfl⟩ : ∃ i : Nat, r = (i : Nat) := ⟨r.toNat, by omega⟩
  obtain ⟨d, hd⟩ : ∃ d, wrongL[i]? = some d := ⟨_, List.getElem?_eq_getElem (show i < wrongL.length by show i < 12; omega)⟩
  have hm := List.mem_of_getElem? hd
  refine ⟨d, L2.atI_nat (j := i) hd, p, _, rfl, rfl, by omega, ⟨xs, mset_same⟩, fun j xs2 j0 j1 => ?_⟩
  obtain ⟨j, rfl⟩ : ∃ n : Nat, j = (n : Nat) := ⟨j.toNat, by omega⟩
  rw [List.length_map] at j1
  rw [mset_mset]
  refine sl_take (ls := ls) ⟨lsz (by simp), ?_⟩
  have la : (ls.take j).length = j := by rw [List.length_take]; omega
  refine add_ll (by simp; omega) (sl_drop (ls := ls) (add_ll (by simp; omega) ?_))
  show (if decide (((j : Nat) : Int) = 16) = true then _ else _ : Prop)
  by_cases c : j = 16
  · refine if_t (decide_eq_true (by omega)) (sl_take (ls := ls) (j := 15) ⟨lsz (by simp), add_ll (by simp; omega) ?_⟩)
    rw [← hT2]
    exact refuses_tail (as := ls.take 15) (bs := []) (by simp; omega) (ls_take _ lo) hm (q xs2)
  · refine if_f (decide_eq_false (by omega)) ?_
    have e : DL.cutD ((ls.take j).map Ls.d ++ [d] ++ (ls.drop j).map Ls.d) none (some 16) = (ls.take j).map Ls.d ++ d :: ((ls.drop j).map Ls.d).take (15 - j) := by
      have := cut_all ((ls.take j).map Ls.d ++ [d] ++ (ls.drop j).map Ls.d) 16
      have h16 : (((16 : Nat) : Int)) = 16 := rfl
      rw [h16] at this
      rw [this, List.append_assoc, List.take_append, List.length_map, la, List.take_of_length_le (by rw [List.length_map, la]; omega), show 16 - j = (15 - j) + 1 by omega]
      rfl
    rw [e, ← hT2]
    exact refuses_tail (by rw [la, List.length_take]; omega) (ls_take _ lo) hm (q xs2)
end
end LW

namespace LW
open PySem PySem.Spec PyProof.Rows L2 DL
theorem finF_one {as bs : List PP} {c : PP} (h : 0 < (finL as).1) : finL (as ++ [c] ++ bs) = finF bs (nxt c (finL as)) := by
  unfold finL at *
  rw [List.append_assoc, finF_app, if_pos h]
  show (if 0 < (finF as (1, 1)).1 then finF bs (nxt c (finF as (1, 1))) else _) = _
  rw [if_pos h]
theorem edge_row {as bs : List PP} {e : PP} (ha : ∀ x ∈ as, ChOk x) (hb : ∀ x ∈ bs, ChOk x) (he : ChOk e) (h1 : 0 < (finL as).1) (h2 : 0 < (finL bs.reverse).1) (h : e.1 * ((finL as).2 * (finL bs.reverse).2) = (finL as).1 * (finL bs.reverse).1 * e.2) : (finL (as ++ [e] ++ bs)).1 = 0 := by
  rw [finF_one h1]
  refine edge_zero bs _ hb (nxt_ok he (fin_ro ha ro1) h1) h2 ?_
  unfold nxt
  dsimp only
  generalize finL as = L at *
  generalize finL bs.reverse = R at *
  grind
theorem mid_iff {as bs : List PP} {c : PP} (ha : ∀ x ∈ as, ChOk x) (hb : ∀ x ∈ bs, ChOk x) (hc : ChOk c) :
    (0 < (finL (as ++ [c] ++ bs)).1 ↔ (0 < (finL as).1 ∧ 0 < (finL bs.reverse).1 ∧ c.1 * ((finL as).2 * (finL bs.reverse).2) < (finL as).1 * (finL bs.reverse).1 * c.2)) := by
  rw [List.append_assoc]
  exact cut_iff ha hb hc
theorem small_fin : ∀ (cs : List PP) (r : PP) (B : Int), (∀ c ∈ cs, ChOk c ∧ c.2 ≤ 13) → RO r → r.2 ≤ B → (finF cs r).2 ≤ 13 ^ cs.length * B
  | [], r, B, _, _, h => by show r.2 ≤ 13 ^ 0 * B; omega
  | c :: cs, r, B, hc, ro, h => by
    obtain ⟨k, k13⟩ := hc c (List.mem_cons_self ..)
    have B0 : 0 < B := by have := ro.1; omega
    show (if 0 < r.1 then finF cs (nxt c r) else r).2 ≤ 13 ^ (cs.length + 1) * B
    have e : (13 : Int) ^ (cs.length + 1) * B = 13 ^ cs.length * (13 * B) := by rw [Int.pow_succ]; grind
    rw [e]
    by_cases z : 0 < r.1
    · rw [if_pos z]
      refine small_fin cs (nxt c r) (13 * B) (fun x hx => hc x (List.mem_cons_of_mem _ hx)) (nxt_ok k ro z) ?_
      show c.2 * r.1 ≤ 13 * B
      have h1 : c.2 * r.1 ≤ 13 * r.1 := Int.mul_le_mul_of_nonneg_right k13 (by omega)
      have := ro.2
      omega
    · rw [if_neg z]
      have p1 : (0 : Int) < 13 ^ cs.length := Int.pow_pos (by decide)
      have p2 : 1 * (13 * B) ≤ 13 ^ cs.length * (13 * B) := Int.mul_le_mul_of_nonneg_right p1 (by omega)
      omega
def tL (cs : List PP) : List Ls := cs.map fun c => .t c.1 c.2
theorem tL_d (cs : List PP) : (tL cs).map Ls.d = cs.map prD := by unfold tL; rw [List.map_map]; rfl
theorem tL_c (cs : List PP) : lsC (tL cs) = cs := by
  unfold lsC tL
  rw [List.map_map]
  exact List.map_id cs
theorem tL_ok {cs : List PP} (h : ∀ c ∈ cs, ChOk c) : ∀ l ∈ tL cs, ChOk l.c := fun l hl => by
  obtain ⟨c, hc, rfl⟩ := List.mem_map.mp hl
  exact h c hc
section
variable {K : PySem.W.Frag} {mg : Str → Option Value}
theorem loss_ps {M : Mem} {E : DXK} {d : DL.D} {cs : List PP} {k : List PP → Prop} (r : RowD M d (cs.map prD)) (l17 : cs.length ≤ 17) (h : ∀ c ∈ cs, ChOk c) (q : k cs) : lossC K M d E k := by
  refine lossC_ls (ls := tL cs) (by rw [tL_d]; exact r) (by unfold tL; rw [List.length_map]; exact l17) (tL_ok h) ?_
  rw [tL_c]
  exact q
theorem add_ps {as bs : List PP} {M : Mem} {Q : DVK} (h : as.length + bs.length ≤ 100) (q : Q (.lst ((as ++ bs).map prD)) M) : dAdd (.lst (as.map prD)) (.lst (bs.map prD)) M Q := by
  refine add_ll (by rw [List.length_map, List.length_map]; omega) ?_
  rw [← List.map_append]
  exact q
def gEd4 (K : PySem.W.Frag) : DS :=
  (sSeq (sSet 13 (gCall (sp_rest_of K) (aCons (gOp dAdd (gVar 1) (gFrz (nLst (aCons (gVar 9) aNil)))) aNil)))
    (sSeq (sIf (gOr (gNot (gTest (gCall (sp__law_is_fraction K) (aCons (gVar 13) aNil)))) (gNot (gTest (gCall (sp__law_at_most K) (aCons (gTup (aCons (gC (.int 1)) (aCons (gOp dAdd (gVar 4) (gC (.int 1))) aNil))) (aCons (gVar 13) aNil)))))) (sRet (gC (.bl false))) sNext)
    (sRet (gOp (dIsN fun b => !b) (gCall (sp_closes_at K) (aCons (gOp dAdd (gOp dAdd (gVar 1) (gFrz (nLst (aCons (gVar 10) aNil)))) (gVar 3)) aNil)) (gC .non)))))
def gEd3 (K : PySem.W.Frag) : DS :=
  (sSeq (sFor (iSeqD (gFrz (nLst (aCons (gOp dAdd (gOp dAdd (gVar 1) (gFrz (nLst (aCons (gVar 9) aNil)))) (gVar 3)) (aCons (gCall (sp__law_back K) (aCons (gOp dAdd (gOp dAdd (gVar 1) (gFrz (nLst (aCons (gVar 9) aNil)))) (gVar 3)) aNil)) aNil))))) (dName 11) (sSeq (sSet 12 (gCall (sp_rest_of K) (aCons (gVar 11) aNil)))
    (sIf (gOr (gTest (gOp (dIsN fun b => !b) (gCall (sp_closes_at K) (aCons (gVar 11) aNil)) (gC .non))) (gOr (gNot (gTest (gCall (sp__law_is_fraction K) (aCons (gVar 12) aNil)))) (gTest (gOp dLe (gOp dIx (gVar 12) (gC (.int 0))) (gC (.int 0)))))) (sRet (gC (.bl false))) sNext)))
    (gEd4 K))
def gEd2 (K : PySem.W.Frag) : DS :=
  (sSeq (sFor (iSeqD (gFrz (nLst (aCons (gOp dAdd (gOp dAdd (gVar 1) (gFrz (nLst (aCons (gVar 8) aNil)))) (gVar 3)) (aCons (gCall (sp__law_back K) (aCons (gOp dAdd (gOp dAdd (gVar 1) (gFrz (nLst (aCons (gVar 8) aNil)))) (gVar 3)) aNil)) aNil))))) (dName 11) (sSeq (sSet 12 (gCall (sp_rests K) (aCons (gVar 11) aNil)))
    (sIf (gOr (gNot (gTest (gCB dIsi (aCons (gVar 12) (aCons (gC (.ty "tuple")) aNil))))) (gTest (gOp dNe (gOp dIx (gVar 12) (gOp dSub (gCB dLen (aCons (gVar 12) aNil)) (gC (.int 1)))) (gTup (aCons (gC (.int 0)) (aCons (gC (.int 1)) aNil)))))) (sRet (gC (.bl false))) sNext)))
    (gEd3 K))
def gEd5 (K : PySem.W.Frag) : DS :=
  (sSeq (sSet 9 (gTup (aCons (gOp dMul (gOp dIx (gVar 8) (gC (.int 0))) (gVar 4)) (aCons (gOp dMul (gOp dIx (gVar 8) (gC (.int 1))) (gOp dAdd (gVar 4) (gC (.int 1)))) aNil))))
    (sSeq (sSet 10 (gTup (aCons (gOp dAdd (gOp dIx (gVar 8) (gC (.int 0))) (gOp dMul (gVar 4) (gOp dIx (gVar 8) (gC (.int 1))))) (aCons (gOp dMul (gOp dIx (gVar 8) (gC (.int 1))) (gOp dAdd (gVar 4) (gC (.int 1)))) aNil))))
    (gEd2 K)))
def gEd1 (K : PySem.W.Frag) : DS :=
  (sSeq (sSet 7 (gCall (sp__law_divisor K) (aCons (gOp dMul (gOp dIx (gVar 5) (gC (.int 0))) (gOp dIx (gVar 6) (gC (.int 0)))) (aCons (gOp dMul (gOp dIx (gVar 5) (gC (.int 1))) (gOp dIx (gVar 6) (gC (.int 1)))) aNil))))
    (sSeq (sSet 8 (gTup (aCons (gOp dFdiv (gOp dMul (gOp dIx (gVar 5) (gC (.int 0))) (gOp dIx (gVar 6) (gC (.int 0)))) (gVar 7)) (aCons (gOp dFdiv (gOp dMul (gOp dIx (gVar 5) (gC (.int 1))) (gOp dIx (gVar 6) (gC (.int 1)))) (gVar 7)) aNil))))
    (gEd5 K)))
structure Ed (as bs : List PP) (e lw hg : PP) (k : Int) : Prop where
  a2 : as.length ≤ 2
  b2 : bs.length ≤ 2
  ha : ∀ x ∈ as, ChOk x
  hb : ∀ x ∈ bs, ChOk x
  oe : ChOk e
  ol : ChOk lw
  oh : ChOk hg
  k1 : 1 ≤ k
  k20 : k ≤ 20
  h1 : 0 < (finL as).1
  h2 : 0 < (finL bs.reverse).1
  h : e.1 * ((finL as).2 * (finL bs.reverse).2) = (finL as).1 * (finL bs.reverse).1 * e.2
  l1 : lw.1 = e.1 * k
  l2 : lw.2 = e.2 * (k + 1)
  g1 : hg.1 = e.1 + k * e.2
  g2 : hg.2 = e.2 * (k + 1)
theorem Ed.flip {as bs : List PP} {e lw hg : PP} {k : Int} (d : Ed as bs e lw hg k) : Ed bs.reverse as.reverse e lw hg k where
  a2 := by rw [List.length_reverse]; exact d.b2
  b2 := by rw [List.length_reverse]; exact d.a2
  ha := fun x hx => d.hb x (List.mem_reverse.mp hx)
  hb := fun x hx => d.ha x (List.mem_reverse.mp hx)
  oe := d.oe
  ol := d.ol
  oh := d.oh
  k1 := d.k1
  k20 := d.k20
  h1 := d.h2
  h2 := by rw [List.reverse_reverse]; exact d.h1
  h := by
    rw [List.reverse_reverse]
    have := d.h
    grind
  l1 := d.l1
  l2 := d.l2
  g1 := d.g1
  g2 := d.g2
theorem Ed.zero {as bs : List PP} {e lw hg : PP} {k : Int} (d : Ed as bs e lw hg k) : (finL (as ++ [e] ++ bs)).1 = 0 := edge_row d.ha d.hb d.oe d.h1 d.h2 d.h
theorem Ed.low {as bs : List PP} {e lw hg : PP} {k : Int} (d : Ed as bs e lw hg k) : 0 < (finL (as ++ [lw] ++ bs)).1 := by
  rw [mid_iff d.ha d.hb d.ol]
  refine ⟨d.h1, d.h2, ?_⟩
  rw [d.l1, d.l2]
  have h := d.h
  have w : 0 < (finL as).1 * (finL bs.reverse).1 * e.2 := Int.mul_pos (Int.mul_pos d.h1 d.h2) (by have := d.oe.2.2.1; omega)
  generalize finL as = L at *
  generalize finL bs.reverse = R at *
  have e1 : e.1 * k * (L.2 * R.2) = L.1 * R.1 * e.2 * k := by grind
  have e2 : L.1 * R.1 * (e.2 * (k + 1)) = L.1 * R.1 * e.2 * k + L.1 * R.1 * e.2 := by grind
  omega
theorem Ed.high {as bs : List PP} {e lw hg : PP} {k : Int} (d : Ed as bs e lw hg k) : (finL (as ++ [hg] ++ bs)).1 ≤ 0 := by
  rcases Int.lt_or_le 0 (finL (as ++ [hg] ++ bs)).1 with z | z
  · exfalso
    obtain ⟨_, _, w⟩ := (mid_iff d.ha d.hb d.oh).mp z
    rw [d.g1, d.g2] at w
    have h := d.h
    have r1 := fin_ro d.ha ro1
    have r2 := fin_ro (cs := bs.reverse) (fun x hx => d.hb x (List.mem_reverse.mp hx)) ro1
    have h1 := d.h1
    have h2 := d.h2
    have r1 : RO (finL as) := r1
    have r2 : RO (finL bs.reverse) := r2
    have e0 := d.oe.2.2.1
    have k0 := d.k1
    generalize finL as = L at *
    generalize finL bs.reverse = R at *
    have m1 : L.1 * R.1 ≤ L.2 * R.2 := Int.mul_le_mul r1.2 r2.2 (by omega) (by have := r1.1; omega)
    have m2 : k * e.2 * (L.1 * R.1) ≤ k * e.2 * (L.2 * R.2) := Int.mul_le_mul_of_nonneg_left m1 (Int.mul_nonneg (by omega) (by omega))
    have e1 : (e.1 + k * e.2) * (L.2 * R.2) = L.1 * R.1 * e.2 + k * e.2 * (L.2 * R.2) := by grind
    have e2 : L.1 * R.1 * (e.2 * (k + 1)) = L.1 * R.1 * e.2 + k * e.2 * (L.1 * R.1) := by grind
    omega
  · exact z
theorem Ed.rest {as bs : List PP} {e lw hg : PP} {k : Int} (d : Ed as bs e lw hg k) : 0 < (finL (as ++ [lw])).1 ∧ leR (1, k + 1) (finL (as ++ [lw])) := by
  have f : finL (as ++ [lw]) = nxt lw (finL as) := by
    have := finF_one (bs := []) (c := lw) d.h1
    rw [List.append_nil] at this
    exact this
  have r1 : RO (finL as) := fin_ro d.ha ro1
  have r2 : RO (finL bs.reverse) := fin_ro (cs := bs.reverse) (fun x hx => d.hb x (List.mem_reverse.mp hx)) ro1
  have h := d.h
  have h1 := d.h1
  have h2 := d.h2
  have e0 := d.oe.2.2.1
  have e00 := d.oe.1
  have k0 := d.k1
  rw [f]
  unfold leR nxt
  rw [d.l1, d.l2]
  dsimp only
  generalize finL as = L at *
  generalize finL bs.reverse = R at *
  -- e1 q <= e2 p
  have m0 : e.1 * L.2 * R.2 ≤ e.2 * L.1 * R.2 := by
    have a1 : e.1 * L.2 * R.2 = e.2 * L.1 * R.1 := by grind
    rw [a1]
    exact Int.mul_le_mul_of_nonneg_left r2.2 (Int.mul_nonneg (by omega) (by omega))
  have m1 : e.1 * L.2 ≤ e.2 * L.1 := Int.le_of_mul_le_mul_right m0 r2.1
  have m2 : k * (e.1 * L.2) ≤ k * (e.2 * L.1) := Int.mul_le_mul_of_nonneg_left m1 (by omega)
  have p1 : 0 < e.2 * L.1 := Int.mul_pos (by omega) h1
  have x1 : e.2 * (k + 1) * L.1 - e.1 * k * L.2 = k * (e.2 * L.1) + e.2 * L.1 - k * (e.1 * L.2) := by grind
  have x2 : e.2 * (k + 1) * L.1 = k * (e.2 * L.1) + e.2 * L.1 := by grind
  rw [x1, x2]
  refine ⟨by omega, ?_⟩
  have m3 : (e.2 * L.1) * (k + 1) ≤ (k * (e.2 * L.1) + e.2 * L.1 - k * (e.1 * L.2)) * (k + 1) := Int.mul_le_mul_of_nonneg_right (by omega) (by omega)
  have x3 : (e.2 * L.1) * (k + 1) = k * (e.2 * L.1) + e.2 * L.1 := by grind
  omega
theorem rev_mid (as bs : List PP) (c : PP) : ((as ++ [c] ++ bs).map prD).reverse = (bs.reverse ++ [c] ++ as.reverse).map prD := by
  rw [← List.map_reverse, List.reverse_append, List.reverse_append, List.append_assoc]
  rfl
theorem mid_ok {as bs : List PP} {c : PP} (a2 : as.length ≤ 2) (b2 : bs.length ≤ 2) (ha : ∀ x ∈ as, ChOk x) (hb : ∀ x ∈ bs, ChOk x) (hc : ChOk c) : (as ++ [c] ++ bs).length ≤ 17 ∧ ∀ x ∈ as ++ [c] ++ bs, ChOk x := by
  refine ⟨by simp; omega, fun x hx => ?_⟩
  rcases List.mem_append.mp hx with hx | hx
  · rcases List.mem_append.mp hx with hx | hx
    · exact ha x hx
    · cases List.mem_singleton.mp hx; exact hc
  · exact hb x hx
theorem last_at {cs : List PP} : ∃ n : Nat, (restsL cs).length = n + 1 ∧ (restsL cs)[n]? = some (finL cs) := by
  have l := rests_len cs (1, 1)
  have la := rests_last cs (1, 1)
  refine ⟨(restsL cs).length - 1, by unfold restsL; omega, la⟩
theorem edge4 {M : Mem} {Q : DVK} {E : DXK} {as bs : List PP} {e lw hg : PP} {k : Int} {x0 x2 x5 x6 x7 x11 x12 x13 : Option DL.D} (d : Ed as bs e lw hg k) (q : Q (.bl true) M) :
    gEd4 K { nx := fun _ M => Q .non M, rt := Q, ex := fun x _ M => E x M } [x0, some (.lst (as.map prD)), x2, some (.lst (bs.map prD)), some (.int k), x5, x6, x7, some (prD e), some (prD lw), some (prD hg), x11, x12, x13] M := by
  unfold gEd4
  dsimp only [q_op, q_un, q_var, q_c, q_nil, q_cons, q_tup, q_frz, q_cel, q_lst, q_test, q_onB, q_and, q_or, q_not, q_andV, q_orV, q_notV, q_if, q_chain, q_next, q_seq, q_drop, q_ret, q_retF, q_retN, q_sif, q_break, q_cont, q_name, q_dnil, q_dcons, q_dtup, q_asg, q_set, q_par, q_for, q_range1, q_range2, q_iseq, q_ienum, q_call, q_cb, q_ncb, q_nop, q_lenset, q_mt, q_mt0, q_setix, q_augs, q_aug, q_nsl, q_onone, q_osome, q_gsl, q_raise, q_raiseF, q_try, q_lc, q_lc2, q_yes, q_wipe0, q_wipe, q_xf, q_I, q_I0, q_U, q_add, q_addT, q_addL, q_addR, q_onL, q_onSt, q_onSl, q_onSs, q_onSrct, q_onSrcl, q_eqI, q_eqB, q_eqS, q_eqN, q_isN, q_ix, q_ixL, q_in, q_len, q_sum, q_max, q_min, q_max2, q_min2, q_abs, q_int, q_intB, q_tupof, q_lstof, q_sort, q_rep, q_cat, q_isi, q_isis, q_setat, q_onC, q_append, q_pop, q_popAt, q_reverse, q_insert, q_sp1, q_sp2, q_sp3, q_sp4, q_at0, q_atS, q_st0, q_stS, q_iteT, q_iteF, q_isB, q_sumS, q_all, q_any, q_repT, q_spV, q_nLcX, q_sFz, q_gFld, q_sFldD, q_gMake, q_gCallI, q_gMeth, q_iOwnF, q_isO, q_gIxI, q_lenO, q_modN, q_divmod, q_gSMeth, q_dtupA, q_dtupAL, q_gRevD, q_revT, q_revL, q_gCallKw, q_eqO, q_gCallVS, q_gOpO, q_gUnO, q_gCMeth, q_gMakeV, q_gSlot, q_gMakeS, q_sSlot, q_gMethS, q_isS, q_lc3, q_tru, q_onTl, q_onTt, q_onTb, q_onTi, q_onTn, q_lstRev, q_lstRg2, q_lstRg1, q_prop, q_inO, q_gOpL, q_neO, q_gOpN, q_lstZip, q_repr, q_isXT, sp_rest_of, sp_closes_at, sp__law_is_fraction, sp__law_at_most]
  have a2 := d.a2
  have b2 := d.b2
  have k1 := d.k1
  have k20 := d.k20
  obtain ⟨m1, m2⟩ := mid_ok (bs := []) d.a2 (by simp) d.ha (fun _ h => nomatch h) d.ol
  rw [List.append_nil] at m1 m2
  refine ⟨lsz (by simp), add_ps (as := as) (bs := [lw]) (by simp; omega) (loss_ps RowD.lst m1 m2 ?_)⟩
  obtain ⟨p1, p2⟩ := d.rest
  have ok : ChsOk (as ++ [lw]) := ⟨m1, m2⟩
  obtain ⟨ro, n1, n2⟩ := fin_ok ok
  have e1 : rofD (as ++ [lw]) = frP (finL (as ++ [lw])) := if_neg (by omega)
  rw [e1]
  refine ⟨(finL (as ++ [lw])).1, (finL (as ++ [lw])).2, rfl, ro.1, nb_mono n2 (by omega), ?_⟩
  (try dsimp only [q_op, q_un, q_var, q_c, q_nil, q_cons, q_tup, q_frz, q_cel, q_lst, q_test, q_onB, q_and, q_or, q_not, q_andV, q_orV, q_notV, q_if, q_chain, q_next, q_seq, q_drop, q_ret, q_retF, q_retN, q_sif, q_break, q_cont, q_name, q_dnil, q_dcons, q_dtup, q_asg, q_set, q_par, q_for, q_range1, q_range2, q_iseq, q_ienum, q_call, q_cb, q_ncb, q_nop, q_lenset, q_mt, q_mt0, q_setix, q_augs, q_aug, q_nsl, q_onone, q_osome, q_gsl, q_raise, q_raiseF, q_try, q_lc, q_lc2, q_yes, q_wipe0, q_wipe, q_xf, q_I, q_I0, q_U, q_add, q_addT, q_addL, q_addR, q_onL, q_onSt, q_onSl, q_onSs, q_onSrct, q_onSrcl, q_eqI, q_eqB, q_eqS, q_eqN, q_isN, q_ix, q_ixL, q_in, q_len, q_sum, q_max, q_min, q_max2, q_min2, q_abs, q_int, q_intB, q_tupof, q_lstof, q_sort, q_rep, q_cat, q_isi, q_isis, q_setat, q_onC, q_append, q_pop, q_popAt, q_reverse, q_insert, q_sp1, q_sp2, q_sp3, q_sp4, q_at0, q_atS, q_st0, q_stS, q_iteT, q_iteF, q_isB, q_sumS, q_all, q_any, q_repT, q_spV, q_nLcX, q_sFz, q_gFld, q_sFldD, q_gMake, q_gCallI, q_gMeth, q_iOwnF, q_isO, q_gIxI, q_lenO, q_modN, q_divmod, q_gSMeth, q_dtupA, q_dtupAL, q_gRevD, q_revT, q_revL, q_gCallKw, q_eqO, q_gCallVS, q_gOpO, q_gUnO, q_gCMeth, q_gMakeV, q_gSlot, q_gMakeS, q_sSlot, q_gMethS, q_isS, q_lc3, q_tru, q_onTl, q_onTt, q_onTb, q_onTi, q_onTn, q_lstRev, q_lstRg2, q_lstRg1, q_prop, q_inO, q_gOpL, q_neO, q_gOpN, q_lstZip, q_repr, q_isXT])
  refine if_f rfl ⟨lsz (by simp), _, _, _, _, rfl, rfl, nb_one (by omega), nb_mono (n := 20) (by unfold nb; omega) (by omega), nb_mono (lo_nb1 ro.1 n1) (by omega), nb_mono (lo_nb2 ro.1 n2) (by omega), ?_⟩
  have le := le_fr (r := (1, k + 1)) (by show 0 < k + 1; omega) ro.1 p2
  have e2 : LW.lo 1 (k + 1) = (1, k + 1) := lo_self (by rw [Int.gcd_comm, Int.gcd_one])
  dsimp only at le
  rw [e2] at le
  rw [decide_eq_true le]
  refine if_f rfl ⟨lsz (by simp), add_ps (as := as) (bs := [hg]) (by simp; omega) ?_⟩
  obtain ⟨m3, m4⟩ := mid_ok d.a2 d.b2 d.ha d.hb d.oh
  refine add_ps (as := as ++ [hg]) (by simp; omega) (loss_ps RowD.lst m3 m4 ?_)
  (try dsimp only [q_op, q_un, q_var, q_c, q_nil, q_cons, q_tup, q_frz, q_cel, q_lst, q_test, q_onB, q_and, q_or, q_not, q_andV, q_orV, q_notV, q_if, q_chain, q_next, q_seq, q_drop, q_ret, q_retF, q_retN, q_sif, q_break, q_cont, q_name, q_dnil, q_dcons, q_dtup, q_asg, q_set, q_par, q_for, q_range1, q_range2, q_iseq, q_ienum, q_call, q_cb, q_ncb, q_nop, q_lenset, q_mt, q_mt0, q_setix, q_augs, q_aug, q_nsl, q_onone, q_osome, q_gsl, q_raise, q_raiseF, q_try, q_lc, q_lc2, q_yes, q_wipe0, q_wipe, q_xf, q_I, q_I0, q_U, q_add, q_addT, q_addL, q_addR, q_onL, q_onSt, q_onSl, q_onSs, q_onSrct, q_onSrcl, q_eqI, q_eqB, q_eqS, q_eqN, q_isN, q_ix, q_ixL, q_in, q_len, q_sum, q_max, q_min, q_max2, q_min2, q_abs, q_int, q_intB, q_tupof, q_lstof, q_sort, q_rep, q_cat, q_isi, q_isis, q_setat, q_onC, q_append, q_pop, q_popAt, q_reverse, q_insert, q_sp1, q_sp2, q_sp3, q_sp4, q_at0, q_atS, q_st0, q_stS, q_iteT, q_iteF, q_isB, q_sumS, q_all, q_any, q_repT, q_spV, q_nLcX, q_sFz, q_gFld, q_sFldD, q_gMake, q_gCallI, q_gMeth, q_iOwnF, q_isO, q_gIxI, q_lenO, q_modN, q_divmod, q_gSMeth, q_dtupA, q_dtupAL, q_gRevD, q_revT, q_revL, q_gCallKw, q_eqO, q_gCallVS, q_gOpO, q_gUnO, q_gCMeth, q_gMakeV, q_gSlot, q_gMakeS, q_sSlot, q_gMethS, q_isS, q_lc3, q_tru, q_onTl, q_onTt, q_onTb, q_onTi, q_onTn, q_lstRev, q_lstRg2, q_lstRg1, q_prop, q_inO, q_gOpL, q_neO, q_gOpN, q_lstZip, q_repr, q_isXT])
  rw [isNon_clo, decide_eq_false (by have := d.high; omega)]
  exact q
theorem edge3 {M : Mem} {Q : DVK} {E : DXK} {as bs : List PP} {e lw hg : PP} {k : Int} {x0 x2 x5 x6 x7 x11 x12 x13 : Option DL.D} (d : Ed as bs e lw hg k) (q : Q (.bl true) M) :
    gEd3 K { nx := fun _ M => Q .non M, rt := Q, ex := fun x _ M => E x M } [x0, some (.lst (as.map prD)), x2, some (.lst (bs.map prD)), some (.int k), x5, x6, x7, some (prD e), some (prD lw), some (prD hg), x11, x12, x13] M := by
  unfold gEd3
  generalize hT : gEd4 K = TL
  dsimp only [q_op, q_un, q_var, q_c, q_nil, q_cons, q_tup, q_frz, q_cel, q_lst, q_test, q_onB, q_and, q_or, q_not, q_andV, q_orV, q_notV, q_if, q_chain, q_next, q_seq, q_drop, q_ret, q_retF, q_retN, q_sif, q_break, q_cont, q_name, q_dnil, q_dcons, q_dtup, q_asg, q_set, q_par, q_for, q_range1, q_range2, q_iseq, q_ienum, q_call, q_cb, q_ncb, q_nop, q_lenset, q_mt, q_mt0, q_setix, q_augs, q_aug, q_nsl, q_onone, q_osome, q_gsl, q_raise, q_raiseF, q_try, q_lc, q_lc2, q_yes, q_wipe0, q_wipe, q_xf, q_I, q_I0, q_U, q_add, q_addT, q_addL, q_addR, q_onL, q_onSt, q_onSl, q_onSs, q_onSrct, q_onSrcl, q_eqI, q_eqB, q_eqS, q_eqN, q_isN, q_ix, q_ixL, q_in, q_len, q_sum, q_max, q_min, q_max2, q_min2, q_abs, q_int, q_intB, q_tupof, q_lstof, q_sort, q_rep, q_cat, q_isi, q_isis, q_setat, q_onC, q_append, q_pop, q_popAt, q_reverse, q_insert, q_sp1, q_sp2, q_sp3, q_sp4, q_at0, q_atS, q_st0, q_stS, q_iteT, q_iteF, q_isB, q_sumS, q_all, q_any, q_repT, q_spV, q_nLcX, q_sFz, q_gFld, q_sFldD, q_gMake, q_gCallI, q_gMeth, q_iOwnF, q_isO, q_gIxI, q_lenO, q_modN, q_divmod, q_gSMeth, q_dtupA, q_dtupAL, q_gRevD, q_revT, q_revL, q_gCallKw, q_eqO, q_gCallVS, q_gOpO, q_gUnO, q_gCMeth, q_gMakeV, q_gSlot, q_gMakeS, q_sSlot, q_gMethS, q_isS, q_lc3, q_tru, q_onTl, q_onTt, q_onTb, q_onTi, q_onTn, q_lstRev, q_lstRg2, q_lstRg1, q_prop, q_inO, q_gOpL, q_neO, q_gOpN, q_lstZip, q_repr, q_isXT, sp__law_back, sp_rest_of, sp_closes_at, sp__law_is_fraction]
  have a2 := d.a2
  have b2 := d.b2
  refine ⟨lsz (by simp), add_ps (as := as) (bs := [lw]) (by simp; omega) (add_ps (as := as ++ [lw]) (by simp; omega) ⟨lsz (by simp), add_ps (as := as) (bs := [lw]) (by simp; omega) (add_ps (as := as ++ [lw]) (by simp; omega) ⟨_, rfl, lsz (by simp), ?_⟩)⟩)⟩
  rw [rev_mid]
  refine loop_all (fun cs : List PP => DL.D.lst (cs.map prD)) [as ++ [lw] ++ bs, bs.reverse ++ [lw] ++ as.reverse] (fun ρ M2 => (∃ y z : Option DL.D, ρ = [x0, some (.lst (as.map prD)), x2, some (.lst (bs.map prD)), some (.int k), x5, x6, x7, some (prD e), some (prD lw), some (prD hg), y, z, x13]) ∧ M2 = M) (fun _ _ _ => trivial) ?_ ?_ ⟨⟨_, _, rfl⟩, rfl⟩
  · rintro cs ρ M2 hx ⟨⟨y, z, rfl⟩, rfl⟩ Nx hN
    obtain ⟨c1, c2, c3⟩ : cs.length ≤ 17 ∧ (∀ x ∈ cs, ChOk x) ∧ 0 < (finL cs).1 := by
      simp only [List.mem_cons, List.not_mem_nil, or_false] at hx
      rcases hx with rfl | rfl
      · obtain ⟨m1, m2⟩ := mid_ok d.a2 d.b2 d.ha d.hb d.ol
        exact ⟨m1, m2, d.low⟩
      · obtain ⟨m1, m2⟩ := mid_ok d.flip.a2 d.flip.b2 d.flip.ha d.flip.hb d.flip.ol
        exact ⟨m1, m2, d.flip.low⟩
    have ok : ChsOk cs := ⟨c1, c2⟩
    obtain ⟨ro, n1, n2⟩ := fin_ok ok
    (try dsimp only [q_op, q_un, q_var, q_c, q_nil, q_cons, q_tup, q_frz, q_cel, q_lst, q_test, q_onB, q_and, q_or, q_not, q_andV, q_orV, q_notV, q_if, q_chain, q_next, q_seq, q_drop, q_ret, q_retF, q_retN, q_sif, q_break, q_cont, q_name, q_dnil, q_dcons, q_dtup, q_asg, q_set, q_par, q_for, q_range1, q_range2, q_iseq, q_ienum, q_call, q_cb, q_ncb, q_nop, q_lenset, q_mt, q_mt0, q_setix, q_augs, q_aug, q_nsl, q_onone, q_osome, q_gsl, q_raise, q_raiseF, q_try, q_lc, q_lc2, q_yes, q_wipe0, q_wipe, q_xf, q_I, q_I0, q_U, q_add, q_addT, q_addL, q_addR, q_onL, q_onSt, q_onSl, q_onSs, q_onSrct, q_onSrcl, q_eqI, q_eqB, q_eqS, q_eqN, q_isN, q_ix, q_ixL, q_in, q_len, q_sum, q_max, q_min, q_max2, q_min2, q_abs, q_int, q_intB, q_tupof, q_lstof, q_sort, q_rep, q_cat, q_isi, q_isis, q_setat, q_onC, q_append, q_pop, q_popAt, q_reverse, q_insert, q_sp1, q_sp2, q_sp3, q_sp4, q_at0, q_atS, q_st0, q_stS, q_iteT, q_iteF, q_isB, q_sumS, q_all, q_any, q_repT, q_spV, q_nLcX, q_sFz, q_gFld, q_sFldD, q_gMake, q_gCallI, q_gMeth, q_iOwnF, q_isO, q_gIxI, q_lenO, q_modN, q_divmod, q_gSMeth, q_dtupA, q_dtupAL, q_gRevD, q_revT, q_revL, q_gCallKw, q_eqO, q_gCallVS, q_gOpO, q_gUnO, q_gCMeth, q_gMakeV, q_gSlot, q_gMakeS, q_sSlot, q_gMethS, q_isS, q_lc3, q_tru, q_onTl, q_onTt, q_onTb, q_onTi, q_onTn, q_lstRev, q_lstRg2, q_lstRg1, q_prop, q_inO, q_gOpL, q_neO, q_gOpN, q_lstZip, q_repr, q_isXT])
    refine loss_ps RowD.lst c1 c2 (loss_ps RowD.lst c1 c2 ?_)
    have e1 : rofD cs = frP (finL cs) := if_neg (by omega)
    (try dsimp only [q_op, q_un, q_var, q_c, q_nil, q_cons, q_tup, q_frz, q_cel, q_lst, q_test, q_onB, q_and, q_or, q_not, q_andV, q_orV, q_notV, q_if, q_chain, q_next, q_seq, q_drop, q_ret, q_retF, q_retN, q_sif, q_break, q_cont, q_name, q_dnil, q_dcons, q_dtup, q_asg, q_set, q_par, q_for, q_range1, q_range2, q_iseq, q_ienum, q_call, q_cb, q_ncb, q_nop, q_lenset, q_mt, q_mt0, q_setix, q_augs, q_aug, q_nsl, q_onone, q_osome, q_gsl, q_raise, q_raiseF, q_try, q_lc, q_lc2, q_yes, q_wipe0, q_wipe, q_xf, q_I, q_I0, q_U, q_add, q_addT, q_addL, q_addR, q_onL, q_onSt, q_onSl, q_onSs, q_onSrct, q_onSrcl, q_eqI, q_eqB, q_eqS, q_eqN, q_isN, q_ix, q_ixL, q_in, q_len, q_sum, q_max, q_min, q_max2, q_min2, q_abs, q_int, q_intB, q_tupof, q_lstof, q_sort, q_rep, q_cat, q_isi, q_isis, q_setat, q_onC, q_append, q_pop, q_popAt, q_reverse, q_insert, q_sp1, q_sp2, q_sp3, q_sp4, q_at0, q_atS, q_st0, q_stS, q_iteT, q_iteF, q_isB, q_sumS, q_all, q_any, q_repT, q_spV, q_nLcX, q_sFz, q_gFld, q_sFldD, q_gMake, q_gCallI, q_gMeth, q_iOwnF, q_isO, q_gIxI, q_lenO, q_modN, q_divmod, q_gSMeth, q_dtupA, q_dtupAL, q_gRevD, q_revT, q_revL, q_gCallKw, q_eqO, q_gCallVS, q_gOpO, q_gUnO, q_gCMeth, q_gMakeV, q_gSlot, q_gMakeS, q_sSlot, q_gMethS, q_isS, q_lc3, q_tru, q_onTl, q_onTt, q_onTb, q_onTi, q_onTn, q_lstRev, q_lstRg2, q_lstRg1, q_prop, q_inO, q_gOpL, q_neO, q_gOpN, q_lstZip, q_repr, q_isXT])
    rw [isNon_clo, decide_eq_true c3, e1]
    refine if_f rfl ⟨(finL cs).1, (finL cs).2, rfl, ro.1, nb_mono n2 (by omega), ?_⟩
    (try dsimp only [q_op, q_un, q_var, q_c, q_nil, q_cons, q_tup, q_frz, q_cel, q_lst, q_test, q_onB, q_and, q_or, q_not, q_andV, q_orV, q_notV, q_if, q_chain, q_next, q_seq, q_drop, q_ret, q_retF, q_retN, q_sif, q_break, q_cont, q_name, q_dnil, q_dcons, q_dtup, q_asg, q_set, q_par, q_for, q_range1, q_range2, q_iseq, q_ienum, q_call, q_cb, q_ncb, q_nop, q_lenset, q_mt, q_mt0, q_setix, q_augs, q_aug, q_nsl, q_onone, q_osome, q_gsl, q_raise, q_raiseF, q_try, q_lc, q_lc2, q_yes, q_wipe0, q_wipe, q_xf, q_I, q_I0, q_U, q_add, q_addT, q_addL, q_addR, q_onL, q_onSt, q_onSl, q_onSs, q_onSrct, q_onSrcl, q_eqI, q_eqB, q_eqS, q_eqN, q_isN, q_ix, q_ixL, q_in, q_len, q_sum, q_max, q_min, q_max2, q_min2, q_abs, q_int, q_intB, q_tupof, q_lstof, q_sort, q_rep, q_cat, q_isi, q_isis, q_setat, q_onC, q_append, q_pop, q_popAt, q_reverse, q_insert, q_sp1, q_sp2, q_sp3, q_sp4, q_at0, q_atS, q_st0, q_stS, q_iteT, q_iteF, q_isB, q_sumS, q_all, q_any, q_repT, q_spV, q_nLcX, q_sFz, q_gFld, q_sFldD, q_gMake, q_gCallI, q_gMeth, q_iOwnF, q_isO, q_gIxI, q_lenO, q_modN, q_divmod, q_gSMeth, q_dtupA, q_dtupAL, q_gRevD, q_revT, q_revL, q_gCallKw, q_eqO, q_gCallVS, q_gOpO, q_gUnO, q_gCMeth, q_gMakeV, q_gSlot, q_gMakeS, q_sSlot, q_gMethS, q_isS, q_lc3, q_tru, q_onTl, q_onTt, q_onTb, q_onTi, q_onTn, q_lstRev, q_lstRg2, q_lstRg1, q_prop, q_inO, q_gOpL, q_neO, q_gOpN, q_lstZip, q_repr, q_isXT])
    refine if_f rfl (RowD.onS RowD.tup ⟨_, rfl, ?_⟩)
    (try dsimp only [q_op, q_un, q_var, q_c, q_nil, q_cons, q_tup, q_frz, q_cel, q_lst, q_test, q_onB, q_and, q_or, q_not, q_andV, q_orV, q_notV, q_if, q_chain, q_next, q_seq, q_drop, q_ret, q_retF, q_retN, q_sif, q_break, q_cont, q_name, q_dnil, q_dcons, q_dtup, q_asg, q_set, q_par, q_for, q_range1, q_range2, q_iseq, q_ienum, q_call, q_cb, q_ncb, q_nop, q_lenset, q_mt, q_mt0, q_setix, q_augs, q_aug, q_nsl, q_onone, q_osome, q_gsl, q_raise, q_raiseF, q_try, q_lc, q_lc2, q_yes, q_wipe0, q_wipe, q_xf, q_I, q_I0, q_U, q_add, q_addT, q_addL, q_addR, q_onL, q_onSt, q_onSl, q_onSs, q_onSrct, q_onSrcl, q_eqI, q_eqB, q_eqS, q_eqN, q_isN, q_ix, q_ixL, q_in, q_len, q_sum, q_max, q_min, q_max2, q_min2, q_abs, q_int, q_intB, q_tupof, q_lstof, q_sort, q_rep, q_cat, q_isi, q_isis, q_setat, q_onC, q_append, q_pop, q_popAt, q_reverse, q_insert, q_sp1, q_sp2, q_sp3, q_sp4, q_at0, q_atS, q_st0, q_stS, q_iteT, q_iteF, q_isB, q_sumS, q_all, q_any, q_repT, q_spV, q_nLcX, q_sFz, q_gFld, q_sFldD, q_gMake, q_gCallI, q_gMeth, q_iOwnF, q_isO, q_gIxI, q_lenO, q_modN, q_divmod, q_gSMeth, q_dtupA, q_dtupAL, q_gRevD, q_revT, q_revL, q_gCallKw, q_eqO, q_gCallVS, q_gOpO, q_gUnO, q_gCMeth, q_gMakeV, q_gSlot, q_gMakeS, q_sSlot, q_gMethS, q_isS, q_lc3, q_tru, q_onTl, q_onTt, q_onTb, q_onTi, q_onTn, q_lstRev, q_lstRg2, q_lstRg1, q_prop, q_inO, q_gOpL, q_neO, q_gOpN, q_lstZip, q_repr, q_isXT])
    have sg := frP_sign ro.1
    exact if_f (decide_eq_false (fun w => by have := sg.mp w; omega)) (hN _ _ ⟨⟨_, _, rfl⟩, rfl⟩)
  · rintro ρ M2 ⟨⟨y, z, rfl⟩, rfl⟩
    rw [← hT]
    exact edge4 d q
theorem edge2 {M : Mem} {Q : DVK} {E : DXK} {as bs : List PP} {e lw hg : PP} {k : Int} {x0 x2 x5 x6 x7 x11 x12 x13 : Option DL.D} (d : Ed as bs e lw hg k) (q : Q (.bl true) M) :
    gEd2 K { nx := fun _ M => Q .non M, rt := Q, ex := fun x _ M => E x M } [x0, some (.lst (as.map prD)), x2, some (.lst (bs.map prD)), some (.int k), x5, x6, x7, some (prD e), some (prD lw), some (prD hg), x11, x12, x13] M := by
  unfold gEd2
  generalize hT : gEd3 K = TL
  dsimp only [q_op, q_un, q_var, q_c, q_nil, q_cons, q_tup, q_frz, q_cel, q_lst, q_test, q_onB, q_and, q_or, q_not, q_andV, q_orV, q_notV, q_if, q_chain, q_next, q_seq, q_drop, q_ret, q_retF, q_retN, q_sif, q_break, q_cont, q_name, q_dnil, q_dcons, q_dtup, q_asg, q_set, q_par, q_for, q_range1, q_range2, q_iseq, q_ienum, q_call, q_cb, q_ncb, q_nop, q_lenset, q_mt, q_mt0, q_setix, q_augs, q_aug, q_nsl, q_onone, q_osome, q_gsl, q_raise, q_raiseF, q_try, q_lc, q_lc2, q_yes, q_wipe0, q_wipe, q_xf, q_I, q_I0, q_U, q_add, q_addT, q_addL, q_addR, q_onL, q_onSt, q_onSl, q_onSs, q_onSrct, q_onSrcl, q_eqI, q_eqB, q_eqS, q_eqN, q_isN, q_ix, q_ixL, q_in, q_len, q_sum, q_max, q_min, q_max2, q_min2, q_abs, q_int, q_intB, q_tupof, q_lstof, q_sort, q_rep, q_cat, q_isi, q_isis, q_setat, q_onC, q_append, q_pop, q_popAt, q_reverse, q_insert, q_sp1, q_sp2, q_sp3, q_sp4, q_at0, q_atS, q_st0, q_stS, q_iteT, q_iteF, q_isB, q_sumS, q_all, q_any, q_repT, q_spV, q_nLcX, q_sFz, q_gFld, q_sFldD, q_gMake, q_gCallI, q_gMeth, q_iOwnF, q_isO, q_gIxI, q_lenO, q_modN, q_divmod, q_gSMeth, q_dtupA, q_dtupAL, q_gRevD, q_revT, q_revL, q_gCallKw, q_eqO, q_gCallVS, q_gOpO, q_gUnO, q_gCMeth, q_gMakeV, q_gSlot, q_gMakeS, q_sSlot, q_gMethS, q_isS, q_lc3, q_tru, q_onTl, q_onTt, q_onTb, q_onTi, q_onTn, q_lstRev, q_lstRg2, q_lstRg1, q_prop, q_inO, q_gOpL, q_neO, q_gOpN, q_lstZip, q_repr, q_isXT, sp__law_back, sp_rests]
  have a2 := d.a2
  have b2 := d.b2
  refine ⟨lsz (by simp), add_ps (as := as) (bs := [e]) (by simp; omega) (add_ps (as := as ++ [e]) (by simp; omega) ⟨lsz (by simp), add_ps (as := as) (bs := [e]) (by simp; omega) (add_ps (as := as ++ [e]) (by simp; omega) ⟨_, rfl, lsz (by simp), ?_⟩)⟩)⟩
  rw [rev_mid]
  refine loop_all (fun cs : List PP => DL.D.lst (cs.map prD)) [as ++ [e] ++ bs, bs.reverse ++ [e] ++ as.reverse] (fun ρ M2 => (∃ y z : Option DL.D, ρ = [x0, some (.lst (as.map prD)), x2, some (.lst (bs.map prD)), some (.int k), x5, x6, x7, some (prD e), some (prD lw), some (prD hg), y, z, x13]) ∧ M2 = M) (fun _ _ _ => trivial) ?_ ?_ ⟨⟨_, _, rfl⟩, rfl⟩
  · rintro cs ρ M2 hx ⟨⟨y, z, rfl⟩, rfl⟩ Nx hN
    obtain ⟨c1, c2, c3⟩ : cs.length ≤ 17 ∧ (∀ x ∈ cs, ChOk x) ∧ (finL cs).1 = 0 := by
      simp only [List.mem_cons, List.not_mem_nil, or_false] at hx
      rcases hx with rfl | rfl
      · obtain ⟨m1, m2⟩ := mid_ok d.a2 d.b2 d.ha d.hb d.oe
        exact ⟨m1, m2, d.zero⟩
      · obtain ⟨m1, m2⟩ := mid_ok d.flip.a2 d.flip.b2 d.flip.ha d.flip.hb d.flip.oe
        exact ⟨m1, m2, d.flip.zero⟩
    have ok : ChsOk cs := ⟨c1, c2⟩
    obtain ⟨ro, n1, n2⟩ := fin_ok ok
    obtain ⟨n, en, la⟩ := last_at (cs := cs)
    (try dsimp only [q_op, q_un, q_var, q_c, q_nil, q_cons, q_tup, q_frz, q_cel, q_lst, q_test, q_onB, q_and, q_or, q_not, q_andV, q_orV, q_notV, q_if, q_chain, q_next, q_seq, q_drop, q_ret, q_retF, q_retN, q_sif, q_break, q_cont, q_name, q_dnil, q_dcons, q_dtup, q_asg, q_set, q_par, q_for, q_range1, q_range2, q_iseq, q_ienum, q_call, q_cb, q_ncb, q_nop, q_lenset, q_mt, q_mt0, q_setix, q_augs, q_aug, q_nsl, q_onone, q_osome, q_gsl, q_raise, q_raiseF, q_try, q_lc, q_lc2, q_yes, q_wipe0, q_wipe, q_xf, q_I, q_I0, q_U, q_add, q_addT, q_addL, q_addR, q_onL, q_onSt, q_onSl, q_onSs, q_onSrct, q_onSrcl, q_eqI, q_eqB, q_eqS, q_eqN, q_isN, q_ix, q_ixL, q_in, q_len, q_sum, q_max, q_min, q_max2, q_min2, q_abs, q_int, q_intB, q_tupof, q_lstof, q_sort, q_rep, q_cat, q_isi, q_isis, q_setat, q_onC, q_append, q_pop, q_popAt, q_reverse, q_insert, q_sp1, q_sp2, q_sp3, q_sp4, q_at0, q_atS, q_st0, q_stS, q_iteT, q_iteF, q_isB, q_sumS, q_all, q_any, q_repT, q_spV, q_nLcX, q_sFz, q_gFld, q_sFldD, q_gMake, q_gCallI, q_gMeth, q_iOwnF, q_isO, q_gIxI, q_lenO, q_modN, q_divmod, q_gSMeth, q_dtupA, q_dtupAL, q_gRevD, q_revT, q_revL, q_gCallKw, q_eqO, q_gCallVS, q_gOpO, q_gUnO, q_gCMeth, q_gMakeV, q_gSlot, q_gMakeS, q_sSlot, q_gMethS, q_isS, q_lc3, q_tru, q_onTl, q_onTt, q_onTb, q_onTi, q_onTn, q_lstRev, q_lstRg2, q_lstRg1, q_prop, q_inO, q_gOpL, q_neO, q_gOpN, q_lstZip, q_repr, q_isXT])
    refine loss_ps RowD.lst c1 c2 ?_
    refine ⟨.tuple, true, rfl, rfl, ?_⟩
    (try dsimp only [q_op, q_un, q_var, q_c, q_nil, q_cons, q_tup, q_frz, q_cel, q_lst, q_test, q_onB, q_and, q_or, q_not, q_andV, q_orV, q_notV, q_if, q_chain, q_next, q_seq, q_drop, q_ret, q_retF, q_retN, q_sif, q_break, q_cont, q_name, q_dnil, q_dcons, q_dtup, q_asg, q_set, q_par, q_for, q_range1, q_range2, q_iseq, q_ienum, q_call, q_cb, q_ncb, q_nop, q_lenset, q_mt, q_mt0, q_setix, q_augs, q_aug, q_nsl, q_onone, q_osome, q_gsl, q_raise, q_raiseF, q_try, q_lc, q_lc2, q_yes, q_wipe0, q_wipe, q_xf, q_I, q_I0, q_U, q_add, q_addT, q_addL, q_addR, q_onL, q_onSt, q_onSl, q_onSs, q_onSrct, q_onSrcl, q_eqI, q_eqB, q_eqS, q_eqN, q_isN, q_ix, q_ixL, q_in, q_len, q_sum, q_max, q_min, q_max2, q_min2, q_abs, q_int, q_intB, q_tupof, q_lstof, q_sort, q_rep, q_cat, q_isi, q_isis, q_setat, q_onC, q_append, q_pop, q_popAt, q_reverse, q_insert, q_sp1, q_sp2, q_sp3, q_sp4, q_at0, q_atS, q_st0, q_stS, q_iteT, q_iteF, q_isB, q_sumS, q_all, q_any, q_repT, q_spV, q_nLcX, q_sFz, q_gFld, q_sFldD, q_gMake, q_gCallI, q_gMeth, q_iOwnF, q_isO, q_gIxI, q_lenO, q_modN, q_divmod, q_gSMeth, q_dtupA, q_dtupAL, q_gRevD, q_revT, q_revL, q_gCallKw, q_eqO, q_gCallVS, q_gOpO, q_gUnO, q_gCMeth, q_gMakeV, q_gSlot, q_gMakeS, q_sSlot, q_gMethS, q_isS, q_lc3, q_tru, q_onTl, q_onTt, q_onTb, q_onTi, q_onTn, q_lstRev, q_lstRg2, q_lstRg1, q_prop, q_inO, q_gOpL, q_neO, q_gOpN, q_lstZip, q_repr, q_isXT])
    rw [List.length_map, en, show ((n + 1 : Nat) : Int) - 1 = ((n : Nat) : Int) by omega]
    refine if_f rfl ⟨_, frs_at la, lsz (by simp), ?_⟩
    have e0 : frP (finL cs) = .tup [.int 0, .int 1] := by
      have := frD_uniq (t := (finL cs).1) (b := (finL cs).2) (t' := 0) (b' := 1) ro.1 (by decide) (by rw [c3]; omega)
      unfold frP
      rw [this]
      rfl
    rw [e0]
    refine eq_self rfl rfl ?_
    (try dsimp only [q_op, q_un, q_var, q_c, q_nil, q_cons, q_tup, q_frz, q_cel, q_lst, q_test, q_onB, q_and, q_or, q_not, q_andV, q_orV, q_notV, q_if, q_chain, q_next, q_seq, q_drop, q_ret, q_retF, q_retN, q_sif, q_break, q_cont, q_name, q_dnil, q_dcons, q_dtup, q_asg, q_set, q_par, q_for, q_range1, q_range2, q_iseq, q_ienum, q_call, q_cb, q_ncb, q_nop, q_lenset, q_mt, q_mt0, q_setix, q_augs, q_aug, q_nsl, q_onone, q_osome, q_gsl, q_raise, q_raiseF, q_try, q_lc, q_lc2, q_yes, q_wipe0, q_wipe, q_xf, q_I, q_I0, q_U, q_add, q_addT, q_addL, q_addR, q_onL, q_onSt, q_onSl, q_onSs, q_onSrct, q_onSrcl, q_eqI, q_eqB, q_eqS, q_eqN, q_isN, q_ix, q_ixL, q_in, q_len, q_sum, q_max, q_min, q_max2, q_min2, q_abs, q_int, q_intB, q_tupof, q_lstof, q_sort, q_rep, q_cat, q_isi, q_isis, q_setat, q_onC, q_append, q_pop, q_popAt, q_reverse, q_insert, q_sp1, q_sp2, q_sp3, q_sp4, q_at0, q_atS, q_st0, q_stS, q_iteT, q_iteF, q_isB, q_sumS, q_all, q_any, q_repT, q_spV, q_nLcX, q_sFz, q_gFld, q_sFldD, q_gMake, q_gCallI, q_gMeth, q_iOwnF, q_isO, q_gIxI, q_lenO, q_modN, q_divmod, q_gSMeth, q_dtupA, q_dtupAL, q_gRevD, q_revT, q_revL, q_gCallKw, q_eqO, q_gCallVS, q_gOpO, q_gUnO, q_gCMeth, q_gMakeV, q_gSlot, q_gMakeS, q_sSlot, q_gMethS, q_isS, q_lc3, q_tru, q_onTl, q_onTt, q_onTb, q_onTi, q_onTn, q_lstRev, q_lstRg2, q_lstRg1, q_prop, q_inO, q_gOpL, q_neO, q_gOpN, q_lstZip, q_repr, q_isXT])
    exact if_f rfl (hN _ _ ⟨⟨_, _, rfl⟩, rfl⟩)
  · rintro ρ M2 ⟨⟨y, z, rfl⟩, rfl⟩
    rw [← hT]
    exact edge3 d q
end
end LW

namespace LW
open PySem PySem.Spec PyProof.Rows L2 DL
section
variable {K : PySem.W.Frag} {mg : Str → Option Value}
def Ch13 (cs : List PP) : Prop := ∀ c ∈ cs, ChOk c ∧ c.2 ≤ 13
theorem ed_of {as bs : List PP} {k : Int} (a2 : as.length ≤ 2) (b2 : bs.length ≤ 2) (ha : Ch13 as) (hb : Ch13 bs) (k1 : 1 ≤ k) (k20 : k ≤ 20) (h1 : 0 < (finL as).1) (h2 : 0 < (finL bs.reverse).1) (r1 : RO (finL as)) (r2 : RO (finL bs.reverse)) (s1 : (finL as).2 ≤ 169) (s2 : (finL bs.reverse).2 ≤ 169) :
    Ed as bs (LW.lo ((finL as).1 * (finL bs.reverse).1) ((finL as).2 * (finL bs.reverse).2)) ((LW.lo ((finL as).1 * (finL bs.reverse).1) ((finL as).2 * (finL bs.reverse).2)).1 * k, (LW.lo ((finL as).1 * (finL bs.reverse).1) ((finL as).2 * (finL bs.reverse).2)).2 * (k + 1)) ((LW.lo ((finL as).1 * (finL bs.reverse).1) ((finL as).2 * (finL bs.reverse).2)).1 + k * (LW.lo ((finL as).1 * (finL bs.reverse).1) ((finL as).2 * (finL bs.reverse).2)).2, (LW.lo ((finL as).1 * (finL bs.reverse).1) ((finL as).2 * (finL bs.reverse).2)).2 * (k + 1)) k := by
  have d : ∀ e : PP, e = LW.lo ((finL as).1 * (finL bs.reverse).1) ((finL as).2 * (finL bs.reverse).2) → Ed as bs e (e.1 * k, e.2 * (k + 1)) (e.1 + k * e.2, e.2 * (k + 1)) k := fun e ee => by
    have n : (finL as).2 * (finL bs.reverse).2 ≤ 169 * 169 := Int.mul_le_mul s1 s2 (by have := r2.1; omega) (by decide)
    have n0 : 0 < (finL as).2 * (finL bs.reverse).2 := Int.mul_pos r1.1 r2.1
    have m0 : 0 < (finL as).1 * (finL bs.reverse).1 := Int.mul_pos h1 h2
    have m1 : (finL as).1 * (finL bs.reverse).1 ≤ (finL as).2 * (finL bs.reverse).2 := Int.mul_le_mul r1.2 r2.2 (by omega) (by have := r1.1; omega)
    have c := lo_cross ((finL as).1 * (finL bs.reverse).1) ((finL as).2 * (finL bs.reverse).2)
    have p := lo_pos (t := (finL as).1 * (finL bs.reverse).1) n0
    have le := LW.lo_le n0 m1
    have g := lo_bot ((finL as).1 * (finL bs.reverse).1) ((finL as).2 * (finL bs.reverse).2)
    have gp := g_pos (t := (finL as).1 * (finL bs.reverse).1) n0
    rw [← ee] at c p le g
    have e20 : e.2 ≤ 28561 := by
      have : e.2 * 1 ≤ e.2 * ((Int.gcd ((finL as).1 * (finL bs.reverse).1) ((finL as).2 * (finL bs.reverse).2) : Nat) : Int) := Int.mul_le_mul_of_nonneg_left (by omega) (by omega)
      omega
    have e1 : 0 ≤ e.1 := by
      rcases Int.lt_or_le e.1 0 with z | z
      · have a := Int.mul_neg_of_neg_of_pos z n0
        have b := Int.mul_pos m0 p
        omega
      · exact z
    have x1 : e.2 * (k + 1) ≤ 28561 * 21 := Int.mul_le_mul e20 (by omega) (by omega) (by decide)
    have x2 : e.1 * k ≤ e.2 * (k + 1) := Int.mul_le_mul le (by omega) (by omega) (by omega)
    have x3 : e.1 + k * e.2 ≤ e.2 * (k + 1) := by
      have : e.2 * (k + 1) = k * e.2 + e.2 := by grind
      omega
    have x4 : 1 * 1 ≤ e.2 * (k + 1) := Int.mul_le_mul (by omega) (by omega) (by decide) (by omega)
    exact ⟨a2, b2, fun x hx => (ha x hx).1, fun x hx => (hb x hx).1, ⟨e1, le, by omega, by omega⟩, ⟨Int.mul_nonneg e1 (by omega), x2, by dsimp only; omega, by dsimp only; omega⟩,
      ⟨Int.add_nonneg e1 (Int.mul_nonneg (by omega) (by omega)), x3, by dsimp only; omega, by dsimp only; omega⟩, k1, k20, h1, h2, c, rfl, rfl, rfl, rfl⟩
  exact d _ rfl
theorem edge5 {M : Mem} {Q : DVK} {E : DXK} {as bs : List PP} {e : PP} {k : Int} {x0 x2 x5 x6 x7 x9 x10 x11 x12 x13 : Option DL.D} (d : Ed as bs e (e.1 * k, e.2 * (k + 1)) (e.1 + k * e.2, e.2 * (k + 1)) k) (q : Q (.bl true) M) :
    gEd5 K { nx := fun _ M => Q .non M, rt := Q, ex := fun x _ M => E x M } [x0, some (.lst (as.map prD)), x2, some (.lst (bs.map prD)), some (.int k), x5, x6, x7, some (prD e), x9, x10, x11, x12, x13] M := by
  unfold gEd5
  generalize hT : gEd2 K = TL
  dsimp only [q_op, q_un, q_var, q_c, q_nil, q_cons, q_tup, q_frz, q_cel, q_lst, q_test, q_onB, q_and, q_or, q_not, q_andV, q_orV, q_notV, q_if, q_chain, q_next, q_seq, q_drop, q_ret, q_retF, q_retN, q_sif, q_break, q_cont, q_name, q_dnil, q_dcons, q_dtup, q_asg, q_set, q_par, q_for, q_range1, q_range2, q_iseq, q_ienum, q_call, q_cb, q_ncb, q_nop, q_lenset, q_mt, q_mt0, q_setix, q_augs, q_aug, q_nsl, q_onone, q_osome, q_gsl, q_raise, q_raiseF, q_try, q_lc, q_lc2, q_yes, q_wipe0, q_wipe, q_xf, q_I, q_I0, q_U, q_add, q_addT, q_addL, q_addR, q_onL, q_onSt, q_onSl, q_onSs, q_onSrct, q_onSrcl, q_eqI, q_eqB, q_eqS, q_eqN, q_isN, q_ix, q_ixL, q_in, q_len, q_sum, q_max, q_min, q_max2, q_min2, q_abs, q_int, q_intB, q_tupof, q_lstof, q_sort, q_rep, q_cat, q_isi, q_isis, q_setat, q_onC, q_append, q_pop, q_popAt, q_reverse, q_insert, q_sp1, q_sp2, q_sp3, q_sp4, q_at0, q_atS, q_st0, q_stS, q_iteT, q_iteF, q_isB, q_sumS, q_all, q_any, q_repT, q_spV, q_nLcX, q_sFz, q_gFld, q_sFldD, q_gMake, q_gCallI, q_gMeth, q_iOwnF, q_isO, q_gIxI, q_lenO, q_modN, q_divmod, q_gSMeth, q_dtupA, q_dtupAL, q_gRevD, q_revT, q_revL, q_gCallKw, q_eqO, q_gCallVS, q_gOpO, q_gUnO, q_gCMeth, q_gMakeV, q_gSlot, q_gMakeS, q_sSlot, q_gMethS, q_isS, q_lc3, q_tru, q_onTl, q_onTt, q_onTb, q_onTi, q_onTn, q_lstRev, q_lstRg2, q_lstRg1, q_prop, q_inO, q_gOpL, q_neO, q_gOpN, q_lstZip, q_repr, q_isXT]
  have o := d.oe
  have k1 := d.k1
  have k20 := d.k20
  have k20' : nb 10 k := by unfold nb; omega
  have k21 : nb 10 (k + 1) := by unfold nb; omega
  have en1 : nb 20 e.1 := by obtain ⟨o1, o2, o3, o4⟩ := o; unfold nb; omega
  have en2 : nb 20 e.2 := by obtain ⟨o1, o2, o3, o4⟩ := o; unfold nb; omega
  refine on_pr ⟨_, rfl, ?_⟩
  (try dsimp only [q_op, q_un, q_var, q_c, q_nil, q_cons, q_tup, q_frz, q_cel, q_lst, q_test, q_onB, q_and, q_or, q_not, q_andV, q_orV, q_notV, q_if, q_chain, q_next, q_seq, q_drop, q_ret, q_retF, q_retN, q_sif, q_break, q_cont, q_name, q_dnil, q_dcons, q_dtup, q_asg, q_set, q_par, q_for, q_range1, q_range2, q_iseq, q_ienum, q_call, q_cb, q_ncb, q_nop, q_lenset, q_mt, q_mt0, q_setix, q_augs, q_aug, q_nsl, q_onone, q_osome, q_gsl, q_raise, q_raiseF, q_try, q_lc, q_lc2, q_yes, q_wipe0, q_wipe, q_xf, q_I, q_I0, q_U, q_add, q_addT, q_addL, q_addR, q_onL, q_onSt, q_onSl, q_onSs, q_onSrct, q_onSrcl, q_eqI, q_eqB, q_eqS, q_eqN, q_isN, q_ix, q_ixL, q_in, q_len, q_sum, q_max, q_min, q_max2, q_min2, q_abs, q_int, q_intB, q_tupof, q_lstof, q_sort, q_rep, q_cat, q_isi, q_isis, q_setat, q_onC, q_append, q_pop, q_popAt, q_reverse, q_insert, q_sp1, q_sp2, q_sp3, q_sp4, q_at0, q_atS, q_st0, q_stS, q_iteT, q_iteF, q_isB, q_sumS, q_all, q_any, q_repT, q_spV, q_nLcX, q_sFz, q_gFld, q_sFldD, q_gMake, q_gCallI, q_gMeth, q_iOwnF, q_isO, q_gIxI, q_lenO, q_modN, q_divmod, q_gSMeth, q_dtupA, q_dtupAL, q_gRevD, q_revT, q_revL, q_gCallKw, q_eqO, q_gCallVS, q_gOpO, q_gUnO, q_gCMeth, q_gMakeV, q_gSlot, q_gMakeS, q_sSlot, q_gMethS, q_isS, q_lc3, q_tru, q_onTl, q_onTt, q_onTb, q_onTi, q_onTn, q_lstRev, q_lstRg2, q_lstRg1, q_prop, q_inO, q_gOpL, q_neO, q_gOpN, q_lstZip, q_repr, q_isXT])
  refine ⟨cmul en1 k20', on_pr ⟨_, rfl, ?_⟩⟩
  (try dsimp only [q_op, q_un, q_var, q_c, q_nil, q_cons, q_tup, q_frz, q_cel, q_lst, q_test, q_onB, q_and, q_or, q_not, q_andV, q_orV, q_notV, q_if, q_chain, q_next, q_seq, q_drop, q_ret, q_retF, q_retN, q_sif, q_break, q_cont, q_name, q_dnil, q_dcons, q_dtup, q_asg, q_set, q_par, q_for, q_range1, q_range2, q_iseq, q_ienum, q_call, q_cb, q_ncb, q_nop, q_lenset, q_mt, q_mt0, q_setix, q_augs, q_aug, q_nsl, q_onone, q_osome, q_gsl, q_raise, q_raiseF, q_try, q_lc, q_lc2, q_yes, q_wipe0, q_wipe, q_xf, q_I, q_I0, q_U, q_add, q_addT, q_addL, q_addR, q_onL, q_onSt, q_onSl, q_onSs, q_onSrct, q_onSrcl, q_eqI, q_eqB, q_eqS, q_eqN, q_isN, q_ix, q_ixL, q_in, q_len, q_sum, q_max, q_min, q_max2, q_min2, q_abs, q_int, q_intB, q_tupof, q_lstof, q_sort, q_rep, q_cat, q_isi, q_isis, q_setat, q_onC, q_append, q_pop, q_popAt, q_reverse, q_insert, q_sp1, q_sp2, q_sp3, q_sp4, q_at0, q_atS, q_st0, q_stS, q_iteT, q_iteF, q_isB, q_sumS, q_all, q_any, q_repT, q_spV, q_nLcX, q_sFz, q_gFld, q_sFldD, q_gMake, q_gCallI, q_gMeth, q_iOwnF, q_isO, q_gIxI, q_lenO, q_modN, q_divmod, q_gSMeth, q_dtupA, q_dtupAL, q_gRevD, q_revT, q_revL, q_gCallKw, q_eqO, q_gCallVS, q_gOpO, q_gUnO, q_gCMeth, q_gMakeV, q_gSlot, q_gMakeS, q_sSlot, q_gMethS, q_isS, q_lc3, q_tru, q_onTl, q_onTt, q_onTb, q_onTi, q_onTn, q_lstRev, q_lstRg2, q_lstRg1, q_prop, q_inO, q_gOpL, q_neO, q_gOpN, q_lstZip, q_repr, q_isXT])
  refine ⟨cmul en2 k21, lsz (by simp), on_pr ⟨_, rfl, on_pr ⟨_, rfl, ?_⟩⟩⟩
  (try dsimp only [q_op, q_un, q_var, q_c, q_nil, q_cons, q_tup, q_frz, q_cel, q_lst, q_test, q_onB, q_and, q_or, q_not, q_andV, q_orV, q_notV, q_if, q_chain, q_next, q_seq, q_drop, q_ret, q_retF, q_retN, q_sif, q_break, q_cont, q_name, q_dnil, q_dcons, q_dtup, q_asg, q_set, q_par, q_for, q_range1, q_range2, q_iseq, q_ienum, q_call, q_cb, q_ncb, q_nop, q_lenset, q_mt, q_mt0, q_setix, q_augs, q_aug, q_nsl, q_onone, q_osome, q_gsl, q_raise, q_raiseF, q_try, q_lc, q_lc2, q_yes, q_wipe0, q_wipe, q_xf, q_I, q_I0, q_U, q_add, q_addT, q_addL, q_addR, q_onL, q_onSt, q_onSl, q_onSs, q_onSrct, q_onSrcl, q_eqI, q_eqB, q_eqS, q_eqN, q_isN, q_ix, q_ixL, q_in, q_len, q_sum, q_max, q_min, q_max2, q_min2, q_abs, q_int, q_intB, q_tupof, q_lstof, q_sort, q_rep, q_cat, q_isi, q_isis, q_setat, q_onC, q_append, q_pop, q_popAt, q_reverse, q_insert, q_sp1, q_sp2, q_sp3, q_sp4, q_at0, q_atS, q_st0, q_stS, q_iteT, q_iteF, q_isB, q_sumS, q_all, q_any, q_repT, q_spV, q_nLcX, q_sFz, q_gFld, q_sFldD, q_gMake, q_gCallI, q_gMeth, q_iOwnF, q_isO, q_gIxI, q_lenO, q_modN, q_divmod, q_gSMeth, q_dtupA, q_dtupAL, q_gRevD, q_revT, q_revL, q_gCallKw, q_eqO, q_gCallVS, q_gOpO, q_gUnO, q_gCMeth, q_gMakeV, q_gSlot, q_gMakeS, q_sSlot, q_gMethS, q_isS, q_lc3, q_tru, q_onTl, q_onTt, q_onTb, q_onTi, q_onTn, q_lstRev, q_lstRg2, q_lstRg1, q_prop, q_inO, q_gOpL, q_neO, q_gOpN, q_lstZip, q_repr, q_isXT])
  refine ⟨cmul k20' en2, on_pr ⟨_, rfl, ?_⟩⟩
  (try dsimp only [q_op, q_un, q_var, q_c, q_nil, q_cons, q_tup, q_frz, q_cel, q_lst, q_test, q_onB, q_and, q_or, q_not, q_andV, q_orV, q_notV, q_if, q_chain, q_next, q_seq, q_drop, q_ret, q_retF, q_retN, q_sif, q_break, q_cont, q_name, q_dnil, q_dcons, q_dtup, q_asg, q_set, q_par, q_for, q_range1, q_range2, q_iseq, q_ienum, q_call, q_cb, q_ncb, q_nop, q_lenset, q_mt, q_mt0, q_setix, q_augs, q_aug, q_nsl, q_onone, q_osome, q_gsl, q_raise, q_raiseF, q_try, q_lc, q_lc2, q_yes, q_wipe0, q_wipe, q_xf, q_I, q_I0, q_U, q_add, q_addT, q_addL, q_addR, q_onL, q_onSt, q_onSl, q_onSs, q_onSrct, q_onSrcl, q_eqI, q_eqB, q_eqS, q_eqN, q_isN, q_ix, q_ixL, q_in, q_len, q_sum, q_max, q_min, q_max2, q_min2, q_abs, q_int, q_intB, q_tupof, q_lstof, q_sort, q_rep, q_cat, q_isi, q_isis, q_setat, q_onC, q_append, q_pop, q_popAt, q_reverse, q_insert, q_sp1, q_sp2, q_sp3, q_sp4, q_at0, q_atS, q_st0, q_stS, q_iteT, q_iteF, q_isB, q_sumS, q_all, q_any, q_repT, q_spV, q_nLcX, q_sFz, q_gFld, q_sFldD, q_gMake, q_gCallI, q_gMeth, q_iOwnF, q_isO, q_gIxI, q_lenO, q_modN, q_divmod, q_gSMeth, q_dtupA, q_dtupAL, q_gRevD, q_revT, q_revL, q_gCallKw, q_eqO, q_gCallVS, q_gOpO, q_gUnO, q_gCMeth, q_gMakeV, q_gSlot, q_gMakeS, q_sSlot, q_gMethS, q_isS, q_lc3, q_tru, q_onTl, q_onTt, q_onTb, q_onTi, q_onTn, q_lstRev, q_lstRg2, q_lstRg1, q_prop, q_inO, q_gOpL, q_neO, q_gOpN, q_lstZip, q_repr, q_isXT])
  refine ⟨cmul en2 k21, lsz (by simp), ?_⟩
  rw [← hT]
  have z := edge2 (K := K) (M := M) (Q := Q) (E := E) (x0 := x0) (x2 := x2) (x5 := x5) (x6 := x6) (x7 := x7) (x11 := x11) (x12 := x12) (x13 := x13) d q
  exact z
theorem edge1 {M : Mem} {Q : DVK} {E : DXK} {as bs : List PP} {k : Int} {x0 x2 x7 x8 x9 x10 x11 x12 x13 : Option DL.D} (a2 : as.length ≤ 2) (b2 : bs.length ≤ 2) (ha : Ch13 as) (hb : Ch13 bs) (k1 : 1 ≤ k) (k20 : k ≤ 20) (h1 : 0 < (finL as).1) (h2 : 0 < (finL bs.reverse).1) (q : Q (.bl true) M) :
    gEd1 K { nx := fun _ M => Q .non M, rt := Q, ex := fun x _ M => E x M } [x0, some (.lst (as.map prD)), x2, some (.lst (bs.map prD)), some (.int k), some (prD (finL as)), some (prD (finL bs.reverse)), x7, x8, x9, x10, x11, x12, x13] M := by
  have hbr : Ch13 bs.reverse := fun x hx => hb x (List.mem_reverse.mp hx)
  have r1 : RO (finL as) := fin_ro (fun x hx => (ha x hx).1) ro1
  have r2 : RO (finL bs.reverse) := fin_ro (fun x hx => (hbr x hx).1) ro1
  have s : ∀ cs : List PP, cs.length ≤ 2 → Ch13 cs → (finL cs).2 ≤ 169 := fun cs l h => by
    have := small_fin cs (1, 1) 1 h ro1 (by decide)
    have e : (13 : Int) ^ cs.length ≤ 169 := by
      rcases (show cs.length = 0 ∨ cs.length = 1 ∨ cs.length = 2 by omega) with e | e | e <;> rw [e] <;> decide
    show (finF cs (1, 1)).2 ≤ 169
    omega
  have s1 := s as a2 ha
  have s2 := s bs.reverse (by rw [List.length_reverse]; exact b2) hbr
  have d := ed_of a2 b2 ha hb k1 k20 h1 h2 r1 r2 s1 s2
  have n1 : nb 10 (finL as).1 := by have := r1.2; unfold nb; omega
  have n2 : nb 10 (finL as).2 := by have := r1.1; unfold nb; omega
  have n3 : nb 10 (finL bs.reverse).1 := by have := r2.2; unfold nb; omega
  have n4 : nb 10 (finL bs.reverse).2 := by have := r2.1; unfold nb; omega
  have m2 := Int.mul_pos r1.1 r2.1
  have gp := g_pos (t := (finL as).1 * (finL bs.reverse).1) m2
  have gn := nb_gcd (t := (finL as).1 * (finL bs.reverse).1) m2 (nb_mul n2 n4)
  have z5 := edge5 (K := K) (Q := Q) (E := E) (M := M) (x0 := x0) (x2 := x2) (x5 := some (prD (finL as))) (x6 := some (prD (finL bs.reverse))) (x7 := some (.int (Int.gcd ((finL as).1 * (finL bs.reverse).1) ((finL as).2 * (finL bs.reverse).2) : Nat))) (x9 := x9) (x10 := x10) (x11 := x11) (x12 := x12) (x13 := x13) d q
  clear d
  unfold gEd1
  generalize hT : gEd5 K = TL at *
  dsimp only [q_op, q_un, q_var, q_c, q_nil, q_cons, q_tup, q_frz, q_cel, q_lst, q_test, q_onB, q_and, q_or, q_not, q_andV, q_orV, q_notV, q_if, q_chain, q_next, q_seq, q_drop, q_ret, q_retF, q_retN, q_sif, q_break, q_cont, q_name, q_dnil, q_dcons, q_dtup, q_asg, q_set, q_par, q_for, q_range1, q_range2, q_iseq, q_ienum, q_call, q_cb, q_ncb, q_nop, q_lenset, q_mt, q_mt0, q_setix, q_augs, q_aug, q_nsl, q_onone, q_osome, q_gsl, q_raise, q_raiseF, q_try, q_lc, q_lc2, q_yes, q_wipe0, q_wipe, q_xf, q_I, q_I0, q_U, q_add, q_addT, q_addL, q_addR, q_onL, q_onSt, q_onSl, q_onSs, q_onSrct, q_onSrcl, q_eqI, q_eqB, q_eqS, q_eqN, q_isN, q_ix, q_ixL, q_in, q_len, q_sum, q_max, q_min, q_max2, q_min2, q_abs, q_int, q_intB, q_tupof, q_lstof, q_sort, q_rep, q_cat, q_isi, q_isis, q_setat, q_onC, q_append, q_pop, q_popAt, q_reverse, q_insert, q_sp1, q_sp2, q_sp3, q_sp4, q_at0, q_atS, q_st0, q_stS, q_iteT, q_iteF, q_isB, q_sumS, q_all, q_any, q_repT, q_spV, q_nLcX, q_sFz, q_gFld, q_sFldD, q_gMake, q_gCallI, q_gMeth, q_iOwnF, q_isO, q_gIxI, q_lenO, q_modN, q_divmod, q_gSMeth, q_dtupA, q_dtupAL, q_gRevD, q_revT, q_revL, q_gCallKw, q_eqO, q_gCallVS, q_gOpO, q_gUnO, q_gCMeth, q_gMakeV, q_gSlot, q_gMakeS, q_sSlot, q_gMethS, q_isS, q_lc3, q_tru, q_onTl, q_onTt, q_onTb, q_onTi, q_onTn, q_lstRev, q_lstRg2, q_lstRg1, q_prop, q_inO, q_gOpL, q_neO, q_gOpN, q_lstZip, q_repr, q_isXT, sp__law_divisor]
  refine on_pr ⟨_, rfl, on_pr ⟨_, rfl, ?_⟩⟩
  (try dsimp only [q_op, q_un, q_var, q_c, q_nil, q_cons, q_tup, q_frz, q_cel, q_lst, q_test, q_onB, q_and, q_or, q_not, q_andV, q_orV, q_notV, q_if, q_chain, q_next, q_seq, q_drop, q_ret, q_retF, q_retN, q_sif, q_break, q_cont, q_name, q_dnil, q_dcons, q_dtup, q_asg, q_set, q_par, q_for, q_range1, q_range2, q_iseq, q_ienum, q_call, q_cb, q_ncb, q_nop, q_lenset, q_mt, q_mt0, q_setix, q_augs, q_aug, q_nsl, q_onone, q_osome, q_gsl, q_raise, q_raiseF, q_try, q_lc, q_lc2, q_yes, q_wipe0, q_wipe, q_xf, q_I, q_I0, q_U, q_add, q_addT, q_addL, q_addR, q_onL, q_onSt, q_onSl, q_onSs, q_onSrct, q_onSrcl, q_eqI, q_eqB, q_eqS, q_eqN, q_isN, q_ix, q_ixL, q_in, q_len, q_sum, q_max, q_min, q_max2, q_min2, q_abs, q_int, q_intB, q_tupof, q_lstof, q_sort, q_rep, q_cat, q_isi, q_isis, q_setat, q_onC, q_append, q_pop, q_popAt, q_reverse, q_insert, q_sp1, q_sp2, q_sp3, q_sp4, q_at0, q_atS, q_st0, q_stS, q_iteT, q_iteF, q_isB, q_sumS, q_all, q_any, q_repT, q_spV, q_nLcX, q_sFz, q_gFld, q_sFldD, q_gMake, q_gCallI, q_gMeth, q_iOwnF, q_isO, q_gIxI, q_lenO, q_modN, q_divmod, q_gSMeth, q_dtupA, q_dtupAL, q_gRevD, q_revT, q_revL, q_gCallKw, q_eqO, q_gCallVS, q_gOpO, q_gUnO, q_gCMeth, q_gMakeV, q_gSlot, q_gMakeS, q_sSlot, q_gMethS, q_isS, q_lc3, q_tru, q_onTl, q_onTt, q_onTb, q_onTi, q_onTn, q_lstRev, q_lstRg2, q_lstRg1, q_prop, q_inO, q_gOpL, q_neO, q_gOpN, q_lstZip, q_repr, q_isXT])
  refine ⟨cmul n1 n3, on_pr ⟨_, rfl, on_pr ⟨_, rfl, ?_⟩⟩⟩
  (try dsimp only [q_op, q_un, q_var, q_c, q_nil, q_cons, q_tup, q_frz, q_cel, q_lst, q_test, q_onB, q_and, q_or, q_not, q_andV, q_orV, q_notV, q_if, q_chain, q_next, q_seq, q_drop, q_ret, q_retF, q_retN, q_sif, q_break, q_cont, q_name, q_dnil, q_dcons, q_dtup, q_asg, q_set, q_par, q_for, q_range1, q_range2, q_iseq, q_ienum, q_call, q_cb, q_ncb, q_nop, q_lenset, q_mt, q_mt0, q_setix, q_augs, q_aug, q_nsl, q_onone, q_osome, q_gsl, q_raise, q_raiseF, q_try, q_lc, q_lc2, q_yes, q_wipe0, q_wipe, q_xf, q_I, q_I0, q_U, q_add, q_addT, q_addL, q_addR, q_onL, q_onSt, q_onSl, q_onSs, q_onSrct, q_onSrcl, q_eqI, q_eqB, q_eqS, q_eqN, q_isN, q_ix, q_ixL, q_in, q_len, q_sum, q_max, q_min, q_max2, q_min2, q_abs, q_int, q_intB, q_tupof, q_lstof, q_sort, q_rep, q_cat, q_isi, q_isis, q_setat, q_onC, q_append, q_pop, q_popAt, q_reverse, q_insert, q_sp1, q_sp2, q_sp3, q_sp4, q_at0, q_atS, q_st0, q_stS, q_iteT, q_iteF, q_isB, q_sumS, q_all, q_any, q_repT, q_spV, q_nLcX, q_sFz, q_gFld, q_sFldD, q_gMake, q_gCallI, q_gMeth, q_iOwnF, q_isO, q_gIxI, q_lenO, q_modN, q_divmod, q_gSMeth, q_dtupA, q_dtupAL, q_gRevD, q_revT, q_revL, q_gCallKw, q_eqO, q_gCallVS, q_gOpO, q_gUnO, q_gCMeth, q_gMakeV, q_gSlot, q_gMakeS, q_sSlot, q_gMethS, q_isS, q_lc3, q_tru, q_onTl, q_onTt, q_onTb, q_onTi, q_onTn, q_lstRev, q_lstRg2, q_lstRg1, q_prop, q_inO, q_gOpL, q_neO, q_gOpN, q_lstZip, q_repr, q_isXT])
  refine ⟨cmul n2 n4, _, _, rfl, rfl, by omega, nb_mono (nb_mul n2 n4) (by omega), on_pr ⟨_, rfl, on_pr ⟨_, rfl, ?_⟩⟩⟩
  (try dsimp only [q_op, q_un, q_var, q_c, q_nil, q_cons, q_tup, q_frz, q_cel, q_lst, q_test, q_onB, q_and, q_or, q_not, q_andV, q_orV, q_notV, q_if, q_chain, q_next, q_seq, q_drop, q_ret, q_retF, q_retN, q_sif, q_break, q_cont, q_name, q_dnil, q_dcons, q_dtup, q_asg, q_set, q_par, q_for, q_range1, q_range2, q_iseq, q_ienum, q_call, q_cb, q_ncb, q_nop, q_lenset, q_mt, q_mt0, q_setix, q_augs, q_aug, q_nsl, q_onone, q_osome, q_gsl, q_raise, q_raiseF, q_try, q_lc, q_lc2, q_yes, q_wipe0, q_wipe, q_xf, q_I, q_I0, q_U, q_add, q_addT, q_addL, q_addR, q_onL, q_onSt, q_onSl, q_onSs, q_onSrct, q_onSrcl, q_eqI, q_eqB, q_eqS, q_eqN, q_isN, q_ix, q_ixL, q_in, q_len, q_sum, q_max, q_min, q_max2, q_min2, q_abs, q_int, q_intB, q_tupof, q_lstof, q_sort, q_rep, q_cat, q_isi, q_isis, q_setat, q_onC, q_append, q_pop, q_popAt, q_reverse, q_insert, q_sp1, q_sp2, q_sp3, q_sp4, q_at0, q_atS, q_st0, q_stS, q_iteT, q_iteF, q_isB, q_sumS, q_all, q_any, q_repT, q_spV, q_nLcX, q_sFz, q_gFld, q_sFldD, q_gMake, q_gCallI, q_gMeth, q_iOwnF, q_isO, q_gIxI, q_lenO, q_modN, q_divmod, q_gSMeth, q_dtupA, q_dtupAL, q_gRevD, q_revT, q_revL, q_gCallKw, q_eqO, q_gCallVS, q_gOpO, q_gUnO, q_gCMeth, q_gMakeV, q_gSlot, q_gMakeS, q_sSlot, q_gMethS, q_isS, q_lc3, q_tru, q_onTl, q_onTt, q_onTb, q_onTi, q_onTn, q_lstRev, q_lstRg2, q_lstRg1, q_prop, q_inO, q_gOpL, q_neO, q_gOpN, q_lstZip, q_repr, q_isXT])
  refine ⟨cmul n1 n3, cdiv (by omega) gn, on_pr ⟨_, rfl, on_pr ⟨_, rfl, ?_⟩⟩⟩
  (try dsimp only [q_op, q_un, q_var, q_c, q_nil, q_cons, q_tup, q_frz, q_cel, q_lst, q_test, q_onB, q_and, q_or, q_not, q_andV, q_orV, q_notV, q_if, q_chain, q_next, q_seq, q_drop, q_ret, q_retF, q_retN, q_sif, q_break, q_cont, q_name, q_dnil, q_dcons, q_dtup, q_asg, q_set, q_par, q_for, q_range1, q_range2, q_iseq, q_ienum, q_call, q_cb, q_ncb, q_nop, q_lenset, q_mt, q_mt0, q_setix, q_augs, q_aug, q_nsl, q_onone, q_osome, q_gsl, q_raise, q_raiseF, q_try, q_lc, q_lc2, q_yes, q_wipe0, q_wipe, q_xf, q_I, q_I0, q_U, q_add, q_addT, q_addL, q_addR, q_onL, q_onSt, q_onSl, q_onSs, q_onSrct, q_onSrcl, q_eqI, q_eqB, q_eqS, q_eqN, q_isN, q_ix, q_ixL, q_in, q_len, q_sum, q_max, q_min, q_max2, q_min2, q_abs, q_int, q_intB, q_tupof, q_lstof, q_sort, q_rep, q_cat, q_isi, q_isis, q_setat, q_onC, q_append, q_pop, q_popAt, q_reverse, q_insert, q_sp1, q_sp2, q_sp3, q_sp4, q_at0, q_atS, q_st0, q_stS, q_iteT, q_iteF, q_isB, q_sumS, q_all, q_any, q_repT, q_spV, q_nLcX, q_sFz, q_gFld, q_sFldD, q_gMake, q_gCallI, q_gMeth, q_iOwnF, q_isO, q_gIxI, q_lenO, q_modN, q_divmod, q_gSMeth, q_dtupA, q_dtupAL, q_gRevD, q_revT, q_revL, q_gCallKw, q_eqO, q_gCallVS, q_gOpO, q_gUnO, q_gCMeth, q_gMakeV, q_gSlot, q_gMakeS, q_sSlot, q_gMethS, q_isS, q_lc3, q_tru, q_onTl, q_onTt, q_onTb, q_onTi, q_onTn, q_lstRev, q_lstRg2, q_lstRg1, q_prop, q_inO, q_gOpL, q_neO, q_gOpN, q_lstZip, q_repr, q_isXT])
  refine ⟨cmul n2 n4, cdiv (by omega) gn, lsz (by simp), ?_⟩
  exact z5
theorem lc_chance {M : Mem} {p : Addr} {xs0 : List Int} {Qn : List DL.D → Mem → Prop} {x1 x3 x4 x5 x6 x7 x8 x9 x10 x11 x12 x13 : Option DL.D} {n : Nat} (hn : n ≤ 2) (q : ∀ (cs : List PP) (xs : List Int), cs.length ≤ 2 → Ch13 cs → Qn (cs.map prD) (mset M p (.lst (iD xs)))) :
    lcD (fun _ => True) (dName 2) gYes (gCall (sp__law_chance K) (aCons (gVar 0) aNil)) [some (.ref p), x1, none, x3, x4, x5, x6, x7, x8, x9, x10, x11, x12, x13] (rgD 0 n) [] (mset M p (.lst (iD xs0))) Qn := by
  dsimp only [q_op, q_un, q_var, q_c, q_nil, q_cons, q_tup, q_frz, q_cel, q_lst, q_test, q_onB, q_and, q_or, q_not, q_andV, q_orV, q_notV, q_if, q_chain, q_next, q_seq, q_drop, q_ret, q_retF, q_retN, q_sif, q_break, q_cont, q_name, q_dnil, q_dcons, q_dtup, q_asg, q_set, q_par, q_for, q_range1, q_range2, q_iseq, q_ienum, q_call, q_cb, q_ncb, q_nop, q_lenset, q_mt, q_mt0, q_setix, q_augs, q_aug, q_nsl, q_onone, q_osome, q_gsl, q_raise, q_raiseF, q_try, q_lc, q_lc2, q_yes, q_wipe0, q_wipe, q_xf, q_I, q_I0, q_U, q_add, q_addT, q_addL, q_addR, q_onL, q_onSt, q_onSl, q_onSs, q_onSrct, q_onSrcl, q_eqI, q_eqB, q_eqS, q_eqN, q_isN, q_ix, q_ixL, q_in, q_len, q_sum, q_max, q_min, q_max2, q_min2, q_abs, q_int, q_intB, q_tupof, q_lstof, q_sort, q_rep, q_cat, q_isi, q_isis, q_setat, q_onC, q_append, q_pop, q_popAt, q_reverse, q_insert, q_sp1, q_sp2, q_sp3, q_sp4, q_at0, q_atS, q_st0, q_stS, q_iteT, q_iteF, q_isB, q_sumS, q_all, q_any, q_repT, q_spV, q_nLcX, q_sFz, q_gFld, q_sFldD, q_gMake, q_gCallI, q_gMeth, q_iOwnF, q_isO, q_gIxI, q_lenO, q_modN, q_divmod, q_gSMeth, q_dtupA, q_dtupAL, q_gRevD, q_revT, q_revL, q_gCallKw, q_eqO, q_gCallVS, q_gOpO, q_gUnO, q_gCMeth, q_gMakeV, q_gSlot, q_gMakeS, q_sSlot, q_gMethS, q_isS, q_lc3, q_tru, q_onTl, q_onTt, q_onTb, q_onTi, q_onTn, q_lstRev, q_lstRg2, q_lstRg1, q_prop, q_inO, q_gOpL, q_neO, q_gOpN, q_lstZip, q_repr, q_isXT, sp__law_chance]
  refine lc_inv (fun i acc M' => ∃ cs : List PP, acc = cs.map prD ∧ cs.length = i ∧ Ch13 cs ∧ ∃ xs, M' = mset M p (.lst (iD xs))) (fun _ _ _ _ _ => trivial) ?_ ?_ ⟨[], rfl, rfl, (fun _ h => nomatch h), _, rfl⟩
  · rintro i acc M' d hd ⟨cs, rfl, hl, lo, xs, rfl⟩ N hN
    obtain ⟨hi, rfl⟩ := rgD_get hd
    (try dsimp only [q_op, q_un, q_var, q_c, q_nil, q_cons, q_tup, q_frz, q_cel, q_lst, q_test, q_onB, q_and, q_or, q_not, q_andV, q_orV, q_notV, q_if, q_chain, q_next, q_seq, q_drop, q_ret, q_retF, q_retN, q_sif, q_break, q_cont, q_name, q_dnil, q_dcons, q_dtup, q_asg, q_set, q_par, q_for, q_range1, q_range2, q_iseq, q_ienum, q_call, q_cb, q_ncb, q_nop, q_lenset, q_mt, q_mt0, q_setix, q_augs, q_aug, q_nsl, q_onone, q_osome, q_gsl, q_raise, q_raiseF, q_try, q_lc, q_lc2, q_yes, q_wipe0, q_wipe, q_xf, q_I, q_I0, q_U, q_add, q_addT, q_addL, q_addR, q_onL, q_onSt, q_onSl, q_onSs, q_onSrct, q_onSrcl, q_eqI, q_eqB, q_eqS, q_eqN, q_isN, q_ix, q_ixL, q_in, q_len, q_sum, q_max, q_min, q_max2, q_min2, q_abs, q_int, q_intB, q_tupof, q_lstof, q_sort, q_rep, q_cat, q_isi, q_isis, q_setat, q_onC, q_append, q_pop, q_popAt, q_reverse, q_insert, q_sp1, q_sp2, q_sp3, q_sp4, q_at0, q_atS, q_st0, q_stS, q_iteT, q_iteF, q_isB, q_sumS, q_all, q_any, q_repT, q_spV, q_nLcX, q_sFz, q_gFld, q_sFldD, q_gMake, q_gCallI, q_gMeth, q_iOwnF, q_isO, q_gIxI, q_lenO, q_modN, q_divmod, q_gSMeth, q_dtupA, q_dtupAL, q_gRevD, q_revT, q_revL, q_gCallKw, q_eqO, q_gCallVS, q_gOpO, q_gUnO, q_gCMeth, q_gMakeV, q_gSlot, q_gMakeS, q_sSlot, q_gMethS, q_isS, q_lc3, q_tru, q_onTl, q_onTt, q_onTb, q_onTi, q_onTn, q_lstRev, q_lstRg2, q_lstRg1, q_prop, q_inO, q_gOpL, q_neO, q_gOpN, q_lstZip, q_repr, q_isXT])
    refine if_t rfl ⟨p, rfl, ⟨xs, mset_same⟩, fun c xs2 c1 c2 c3 c4 => ⟨by rw [sz, List.length_map]; omega, hN _ _ ⟨cs ++ [c], by rw [List.map_append]; rfl, by rw [List.length_append, hl]; rfl, fun x hx => ?_, xs2, by rw [mset_mset]⟩⟩⟩
    rcases List.mem_append.mp hx with hx | hx
    · exact lo x hx
    · cases List.mem_singleton.mp hx
      exact ⟨⟨c1, c2, c3, by omega⟩, c4⟩
  · rintro acc M' ⟨cs, rfl, hl, lo, xs2, rfl⟩
    rw [rgD_len] at hl
    exact q cs xs2 (by omega) lo
theorem b__law_edge : ∀ d0 M Q E, sp__law_edge K [d0] M Q E → g__law_edge K { nx := fun _ M => Q .non M, rt := Q, ex := fun x _ M => E x M } [some d0, none, none, none, none, none, none, none, none, none, none, none, none, none] M := by
  rintro d0 M Q E ⟨p, rfl, hp, q⟩
  unfold g__law_edge
  generalize hT2 : gEd1 K = TL
  have hT3 := hT2
  unfold gEd1 gEd5 gEd2 gEd3 gEd4 at hT3
  rw [hT3]
  clear hT3
  generalize hC : (gCall (sp__law_chance K) (aCons (gVar 0) aNil) : DE) = GC
  dsimp only [q_op, q_un, q_var, q_c, q_nil, q_cons, q_tup, q_frz, q_cel, q_lst, q_test, q_onB, q_and, q_or, q_not, q_andV, q_orV, q_notV, q_if, q_chain, q_next, q_seq, q_drop, q_ret, q_retF, q_retN, q_sif, q_break, q_cont, q_name, q_dnil, q_dcons, q_dtup, q_asg, q_set, q_par, q_for, q_range1, q_range2, q_iseq, q_ienum, q_call, q_cb, q_ncb, q_nop, q_lenset, q_mt, q_mt0, q_setix, q_augs, q_aug, q_nsl, q_onone, q_osome, q_gsl, q_raise, q_raiseF, q_try, q_lc, q_lc2, q_yes, q_wipe0, q_wipe, q_xf, q_I, q_I0, q_U, q_add, q_addT, q_addL, q_addR, q_onL, q_onSt, q_onSl, q_onSs, q_onSrct, q_onSrcl, q_eqI, q_eqB, q_eqS, q_eqN, q_isN, q_ix, q_ixL, q_in, q_len, q_sum, q_max, q_min, q_max2, q_min2, q_abs, q_int, q_intB, q_tupof, q_lstof, q_sort, q_rep, q_cat, q_isi, q_isis, q_setat, q_onC, q_append, q_pop, q_popAt, q_reverse, q_insert, q_sp1, q_sp2, q_sp3, q_sp4, q_at0, q_atS, q_st0, q_stS, q_iteT, q_iteF, q_isB, q_sumS, q_all, q_any, q_repT, q_spV, q_nLcX, q_sFz, q_gFld, q_sFldD, q_gMake, q_gCallI, q_gMeth, q_iOwnF, q_isO, q_gIxI, q_lenO, q_modN, q_divmod, q_gSMeth, q_dtupA, q_dtupAL, q_gRevD, q_revT, q_revL, q_gCallKw, q_eqO, q_gCallVS, q_gOpO, q_gUnO, q_gCMeth, q_gMakeV, q_gSlot, q_gMakeS, q_sSlot, q_gMethS, q_isS, q_lc3, q_tru, q_onTl, q_onTt, q_onTb, q_onTi, q_onTn, q_lstRev, q_lstRg2, q_lstRg1, q_prop, q_inO, q_gOpL, q_neO, q_gOpN, q_lstZip, q_repr, q_isXT, sp__law_take, sp__law_rests_due, sp__law_back, sp_closes_at]
  subst hC
  refine ⟨p, 3, rfl, rfl, by decide, hp, fun r xs r0 r1 => ⟨by omega, ?_⟩⟩
  refine lc_chance (by omega) fun as xs1 a2 ha => ⟨lsz (by simp), p, 3, rfl, rfl, by decide, ⟨xs1, mset_same⟩, fun w xs2 w0 w1 => ?_⟩
  rw [mset_mset]
  obtain ⟨m, hm, em⟩ : ∃ m : Nat, m ≤ 2 ∧ atI [DL.D.int 1, .int 2, .int 0] w = some (.int (m : Nat)) := by
    rcases (show w = 0 ∨ w = 1 ∨ w = 2 by omega) with rfl | rfl | rfl
    · exact ⟨1, by decide, rfl⟩
    · exact ⟨2, by decide, rfl⟩
    · exact ⟨0, by decide, rfl⟩
  refine ⟨_, em, ?_⟩
  (try dsimp only [q_op, q_un, q_var, q_c, q_nil, q_cons, q_tup, q_frz, q_cel, q_lst, q_test, q_onB, q_and, q_or, q_not, q_andV, q_orV, q_notV, q_if, q_chain, q_next, q_seq, q_drop, q_ret, q_retF, q_retN, q_sif, q_break, q_cont, q_name, q_dnil, q_dcons, q_dtup, q_asg, q_set, q_par, q_for, q_range1, q_range2, q_iseq, q_ienum, q_call, q_cb, q_ncb, q_nop, q_lenset, q_mt, q_mt0, q_setix, q_augs, q_aug, q_nsl, q_onone, q_osome, q_gsl, q_raise, q_raiseF, q_try, q_lc, q_lc2, q_yes, q_wipe0, q_wipe, q_xf, q_I, q_I0, q_U, q_add, q_addT, q_addL, q_addR, q_onL, q_onSt, q_onSl, q_onSs, q_onSrct, q_onSrcl, q_eqI, q_eqB, q_eqS, q_eqN, q_isN, q_ix, q_ixL, q_in, q_len, q_sum, q_max, q_min, q_max2, q_min2, q_abs, q_int, q_intB, q_tupof, q_lstof, q_sort, q_rep, q_cat, q_isi, q_isis, q_setat, q_onC, q_append, q_pop, q_popAt, q_reverse, q_insert, q_sp1, q_sp2, q_sp3, q_sp4, q_at0, q_atS, q_st0, q_stS, q_iteT, q_iteF, q_isB, q_sumS, q_all, q_any, q_repT, q_spV, q_nLcX, q_sFz, q_gFld, q_sFldD, q_gMake, q_gCallI, q_gMeth, q_iOwnF, q_isO, q_gIxI, q_lenO, q_modN, q_divmod, q_gSMeth, q_dtupA, q_dtupAL, q_gRevD, q_revT, q_revL, q_gCallKw, q_eqO, q_gCallVS, q_gOpO, q_gUnO, q_gCMeth, q_gMakeV, q_gSlot, q_gMakeS, q_sSlot, q_gMethS, q_isS, q_lc3, q_tru, q_onTl, q_onTt, q_onTb, q_onTi, q_onTn, q_lstRev, q_lstRg2, q_lstRg1, q_prop, q_inO, q_gOpL, q_neO, q_gOpN, q_lstZip, q_repr, q_isXT])
  rw [Int.toNat_natCast]
  refine ⟨by omega, lc_chance hm fun bs xs3 b2 hb => ⟨p, 20, rfl, rfl, by decide, ⟨xs3, mset_same⟩, fun k xs4 k0 k1 => ?_⟩⟩
  rw [mset_mset]
  have oa : ChsOk as := ⟨by omega, fun x hx => (ha x hx).1⟩
  have ob : ChsOk bs.reverse := ⟨by rw [List.length_reverse]; omega, fun x hx => (hb x (List.mem_reverse.mp hx)).1⟩
  have pat : ∀ cs : List PP, atI ((restsL cs).map prD) (-1) = some (prD (finL cs)) := fun cs => by
    obtain ⟨l, e⟩ := rests_split cs (1, 1)
    unfold restsL finL
    rw [e, List.map_append]
    exact atI_last _ _
  refine ⟨as, rfl, oa, _, pat as, _, rfl, bs.reverse, by rw [List.map_reverse], ob, _, pat bs.reverse, on_pr ⟨_, rfl, ?_⟩⟩
  (try dsimp only [q_op, q_un, q_var, q_c, q_nil, q_cons, q_tup, q_frz, q_cel, q_lst, q_test, q_onB, q_and, q_or, q_not, q_andV, q_orV, q_notV, q_if, q_chain, q_next, q_seq, q_drop, q_ret, q_retF, q_retN, q_sif, q_break, q_cont, q_name, q_dnil, q_dcons, q_dtup, q_asg, q_set, q_par, q_for, q_range1, q_range2, q_iseq, q_ienum, q_call, q_cb, q_ncb, q_nop, q_lenset, q_mt, q_mt0, q_setix, q_augs, q_aug, q_nsl, q_onone, q_osome, q_gsl, q_raise, q_raiseF, q_try, q_lc, q_lc2, q_yes, q_wipe0, q_wipe, q_xf, q_I, q_I0, q_U, q_add, q_addT, q_addL, q_addR, q_onL, q_onSt, q_onSl, q_onSs, q_onSrct, q_onSrcl, q_eqI, q_eqB, q_eqS, q_eqN, q_isN, q_ix, q_ixL, q_in, q_len, q_sum, q_max, q_min, q_max2, q_min2, q_abs, q_int, q_intB, q_tupof, q_lstof, q_sort, q_rep, q_cat, q_isi, q_isis, q_setat, q_onC, q_append, q_pop, q_popAt, q_reverse, q_insert, q_sp1, q_sp2, q_sp3, q_sp4, q_at0, q_atS, q_st0, q_stS, q_iteT, q_iteF, q_isB, q_sumS, q_all, q_any, q_repT, q_spV, q_nLcX, q_sFz, q_gFld, q_sFldD, q_gMake, q_gCallI, q_gMeth, q_iOwnF, q_isO, q_gIxI, q_lenO, q_modN, q_divmod, q_gSMeth, q_dtupA, q_dtupAL, q_gRevD, q_revT, q_revL, q_gCallKw, q_eqO, q_gCallVS, q_gOpO, q_gUnO, q_gCMeth, q_gMakeV, q_gSlot, q_gMakeS, q_sSlot, q_gMethS, q_isS, q_lc3, q_tru, q_onTl, q_onTt, q_onTb, q_onTi, q_onTn, q_lstRev, q_lstRg2, q_lstRg1, q_prop, q_inO, q_gOpL, q_neO, q_gOpN, q_lstZip, q_repr, q_isXT])
  have zero : ChOk (0, 1) := by decide
  have shutM : ∀ {M2 : Mem}, Q (.bl true) M2 → ¬ (0 < (finL as).1 ∧ 0 < (finL bs.reverse).1) → [DL.D.int 0, .int 1].length ≤ sizeLine ∧ [DL.D.tup [.int 0, .int 1]].length ≤ sizeLine ∧ dAdd (.lst (as.map prD)) (.lst [.tup [.int 0, .int 1]]) M2 fun x M1 => dAdd x (.lst (bs.map prD)) M1 fun d M1 => lossC K M1 d (fun x M => E x M) fun cs => Q (.bl !DL.isNon (cloD cs)) M1 := fun {M2} q n => by
    obtain ⟨m1, m2⟩ := mid_ok a2 b2 (fun x hx => (ha x hx).1) (fun x hx => (hb x hx).1) zero
    refine ⟨lsz (by simp), lsz (by simp), add_ps (as := as) (bs := [(0, 1)]) (by simp; omega) (add_ps (as := as ++ [(0, 1)]) (by simp; omega) (loss_ps RowD.lst m1 m2 ?_))⟩
    rw [isNon_clo, decide_eq_false]
    · exact q
    · intro z
      have := (mid_iff (fun x hx => (ha x hx).1) (fun x hx => (hb x hx).1) zero).mp z
      exact n ⟨this.1, this.2.1⟩
  by_cases c1 : (finL as).1 ≤ 0
  · exact if_t (decide_eq_true c1) (if_t rfl (shutM (q xs4) (by omega)))
  refine if_f (decide_eq_false c1) (on_pr ⟨_, rfl, ?_⟩)
  (try dsimp only [q_op, q_un, q_var, q_c, q_nil, q_cons, q_tup, q_frz, q_cel, q_lst, q_test, q_onB, q_and, q_or, q_not, q_andV, q_orV, q_notV, q_if, q_chain, q_next, q_seq, q_drop, q_ret, q_retF, q_retN, q_sif, q_break, q_cont, q_name, q_dnil, q_dcons, q_dtup, q_asg, q_set, q_par, q_for, q_range1, q_range2, q_iseq, q_ienum, q_call, q_cb, q_ncb, q_nop, q_lenset, q_mt, q_mt0, q_setix, q_augs, q_aug, q_nsl, q_onone, q_osome, q_gsl, q_raise, q_raiseF, q_try, q_lc, q_lc2, q_yes, q_wipe0, q_wipe, q_xf, q_I, q_I0, q_U, q_add, q_addT, q_addL, q_addR, q_onL, q_onSt, q_onSl, q_onSs, q_onSrct, q_onSrcl, q_eqI, q_eqB, q_eqS, q_eqN, q_isN, q_ix, q_ixL, q_in, q_len, q_sum, q_max, q_min, q_max2, q_min2, q_abs, q_int, q_intB, q_tupof, q_lstof, q_sort, q_rep, q_cat, q_isi, q_isis, q_setat, q_onC, q_append, q_pop, q_popAt, q_reverse, q_insert, q_sp1, q_sp2, q_sp3, q_sp4, q_at0, q_atS, q_st0, q_stS, q_iteT, q_iteF, q_isB, q_sumS, q_all, q_any, q_repT, q_spV, q_nLcX, q_sFz, q_gFld, q_sFldD, q_gMake, q_gCallI, q_gMeth, q_iOwnF, q_isO, q_gIxI, q_lenO, q_modN, q_divmod, q_gSMeth, q_dtupA, q_dtupAL, q_gRevD, q_revT, q_revL, q_gCallKw, q_eqO, q_gCallVS, q_gOpO, q_gUnO, q_gCMeth, q_gMakeV, q_gSlot, q_gMakeS, q_sSlot, q_gMethS, q_isS, q_lc3, q_tru, q_onTl, q_onTt, q_onTb, q_onTi, q_onTn, q_lstRev, q_lstRg2, q_lstRg1, q_prop, q_inO, q_gOpL, q_neO, q_gOpN, q_lstZip, q_repr, q_isXT])
  by_cases c2 : (finL bs.reverse).1 ≤ 0
  · exact if_t (decide_eq_true c2) (shutM (q xs4) (by omega))
  refine if_f (decide_eq_false c2) ?_
  rw [← hT2]
  exact edge1 a2 b2 ha hb (by omega) (by omega) (by omega) (by omega) (q xs4)
end
end LW

namespace LW
open PySem PySem.Spec PyProof.Rows L2 DL
section
variable {K : PySem.W.Frag} {mg : Str → Option Value}
def gLw5 (K : PySem.W.Frag) : DS :=
  (sSeq (sSet 6 (gCall (sp_rests K) (aCons (gVar 2) aNil)))
    (sSeq (sSet 7 (gFrz (nCB nListOf (aCons (gVar 2) aNil))))
    (sSeq (sSet 8 (gCel (nCB nListOf (aCons (gVar 2) aNil))))
    (sSeq (sIf (gTest (gOp dNe (gCall (sp_rests K) (aCons (gVar 8) aNil)) (gVar 6))) (sRetF (gC (.bl false))) sNext)
    (sSeq (sDrop (gMt dAppend (gVar 8) (aCons (gC (.int 1)) aNil)))
    (sSeq (sIf (gTest (gOp dNe (gCall (sp_rests K) (aCons (gSl (gVar 8) oNone (oSome (gC (.int 16)))) aNil)) (gCall (sp_rests K) (aCons (gSl (gOp dAdd (gVar 7) (gFrz (nLst (aCons (gC (.int 1)) aNil)))) oNone (oSome (gC (.int 16)))) aNil)))) (sRetF (gC (.bl false))) sNext)
    (sRetF (gAndV (gOp dEq (gCall (sp_rests K) (aCons (gVar 2) aNil)) (gVar 6)) (gCall (sp__law_tells K) (aCons (gSl (gOp dAdd (gVar 7) (gFrz (nLst (aCons (gVar 5) aNil)))) oNone (oSome (gC (.int 16)))) aNil))))))))))
def gLw4 (K : PySem.W.Frag) : DS :=
  (sSeq (sSet 5 (gCall (sp__law_loss K) (aCons (gVar 1) aNil)))
    (sSeq (sIf (gAnd (gTest (gOp dLt (gCB dLen (aCons (gVar 2) aNil)) (gC (.int 16)))) (gNot (gTest (gCall (sp__law_longer K) (aCons (gVar 2) (aCons (gVar 5) aNil)))))) (sRetF (gC (.bl false))) sNext)
    (sSeq (sIf (gNot (gTest (gCall (sp__law_refuses K) (aCons (gVar 1) (aCons (gVar 2) aNil))))) (sRetF (gC (.bl false))) sNext)
    (gLw5 K))))
def gLw3 (K : PySem.W.Frag) : DS :=
  (sSeq (sIf (gOr (gNot (gTest (gCall (sp__law_forced K) (aCons (gVar 2) aNil)))) (gNot (gTest (gCall (sp__law_quarters K) (aCons (gCall (sp__law_take K) (aCons (gVar 1) (aCons (gC (.int 17)) aNil))) aNil))))) (sRetF (gC (.bl false))) sNext)
    (sSeq (sIf (gTest (gOp dGt (gCB dLen (aCons (gVar 2) aNil)) (gC (.int 0)))) (sSeq (sSet 4 (gCall (sp__law_take K) (aCons (gVar 1) (aCons (gCB dLen (aCons (gVar 2) aNil)) aNil))))
    (sIf (gNot (gTest (gCall (sp__law_raised K) (aCons (gVar 2) (aCons (gVar 4) (aCons (gCall (sp__law_take K) (aCons (gVar 1) (aCons (gC (.int 3)) aNil))) aNil)))))) (sRetF (gC (.bl false))) sNext)) sNext)
    (gLw4 K)))
def gLw2 (K : PySem.W.Frag) : DS :=
  (sSeq (sIf (gOr (gNot (gTest (gCall (sp__law_backwards K) (aCons (gVar 2) aNil)))) (gOr (gNot (gTest (gCall (sp__law_edge K) (aCons (gVar 1) aNil)))) (gNot (gTest (gCall (sp__law_edge K) (aCons (gVar 1) aNil)))))) (sRetF (gC (.bl false))) sNext)
    (sSeq (sFor (iRange1 (aCons (gCB dLen (aCons (gVar 2) aNil)) aNil)) (dName 3) (sIf (gNot (gTest (gCall (sp__law_cut K) (aCons (gVar 2) (aCons (gVar 3) aNil))))) (sRetF (gC (.bl false))) sNext))
    (gLw3 K)))
def gLw1 (K : PySem.W.Frag) : DS :=
  (sSeq (sIf (gOr (gTest (gOp dNe (gCall (sp_closes_at K) (aCons (gFrz (nLst (aCons (gTup (aCons (gC (.int 1)) (aCons (gC (.int 2)) aNil))) (aCons (gTup (aCons (gC (.int 1)) (aCons (gC (.int 2)) aNil))) aNil)))) aNil)) (gC (.int 2)))) (gTest (gOp (dIsN fun b => !b) (gCall (sp_closes_at K) (aCons (gTup (aCons (gTup (aCons (gC (.int 1)) (aCons (gC (.int 2)) aNil))) (aCons (gC (.int 0)) (aCons (gFrz (nLst (aCons (gC (.int 1)) (aCons (gC (.int 2)) aNil)))) aNil)))) aNil)) (gC .non)))) (sRetF (gC (.bl false))) sNext)
    (sSeq (sIf (gOr (gTest (gOp dNe (gCall (sp_closes_at K) (aCons (gFrz (nLst (aCons (gTup (aCons (gC (.int 1)) (aCons (gC (.int 2)) aNil))) (aCons (gTup (aCons (gC (.int 1)) (aCons (gC (.int 2)) aNil))) (aCons (gC (.int 0)) aNil))))) aNil)) (gC (.int 2)))) (gTest (gOp dNe (gCall (sp_closes_at K) (aCons (gFrz (nLst (aCons (gC (.int 0)) (aCons (gTup (aCons (gC (.int 1)) (aCons (gC (.int 2)) aNil))) (aCons (gTup (aCons (gC (.int 1)) (aCons (gC (.int 2)) aNil))) aNil))))) aNil)) (gC (.int 3))))) (sRetF (gC (.bl false))) sNext)
    (gLw2 K)))
theorem lw5 {M : Mem} {Q : DVK} {E : DXK} {p : Addr} {ls : List Ls} {l : Ls} {x0 x3 x4 x6 x7 x8 : Option DL.D} (ok : LsOk ls) (ol : ChOk l.c) (qq : ∀ M', Q (.bl true) M') :
    gLw5 K { nx := fun _ M => Q .non M, rt := Q, ex := fun x _ M => E x M } [x0, some (.ref p), some (lsD ls), x3, x4, some l.d, x6, x7, x8] M := by
  obtain ⟨l16, lo⟩ := ok
  unfold gLw5
  dsimp only [q_op, q_un, q_var, q_c, q_nil, q_cons, q_tup, q_frz, q_cel, q_lst, q_test, q_onB, q_and, q_or, q_not, q_andV, q_orV, q_notV, q_if, q_chain, q_next, q_seq, q_drop, q_ret, q_retF, q_retN, q_sif, q_break, q_cont, q_name, q_dnil, q_dcons, q_dtup, q_asg, q_set, q_par, q_for, q_range1, q_range2, q_iseq, q_ienum, q_call, q_cb, q_ncb, q_nop, q_lenset, q_mt, q_mt0, q_setix, q_augs, q_aug, q_nsl, q_onone, q_osome, q_gsl, q_raise, q_raiseF, q_try, q_lc, q_lc2, q_yes, q_wipe0, q_wipe, q_xf, q_I, q_I0, q_U, q_add, q_addT, q_addL, q_addR, q_onL, q_onSt, q_onSl, q_onSs, q_onSrct, q_onSrcl, q_eqI, q_eqB, q_eqS, q_eqN, q_isN, q_ix, q_ixL, q_in, q_len, q_sum, q_max, q_min, q_max2, q_min2, q_abs, q_int, q_intB, q_tupof, q_lstof, q_sort, q_rep, q_cat, q_isi, q_isis, q_setat, q_onC, q_append, q_pop, q_popAt, q_reverse, q_insert, q_sp1, q_sp2, q_sp3, q_sp4, q_at0, q_atS, q_st0, q_stS, q_iteT, q_iteF, q_isB, q_sumS, q_all, q_any, q_repT, q_spV, q_nLcX, q_sFz, q_gFld, q_sFldD, q_gMake, q_gCallI, q_gMeth, q_iOwnF, q_isO, q_gIxI, q_lenO, q_modN, q_divmod, q_gSMeth, q_dtupA, q_dtupAL, q_gRevD, q_revT, q_revL, q_gCallKw, q_eqO, q_gCallVS, q_gOpO, q_gUnO, q_gCMeth, q_gMakeV, q_gSlot, q_gMakeS, q_sSlot, q_gMethS, q_isS, q_lc3, q_tru, q_onTl, q_onTt, q_onTb, q_onTi, q_onTn, q_lstRev, q_lstRg2, q_lstRg1, q_prop, q_inO, q_gOpL, q_neO, q_gOpN, q_lstZip, q_repr, q_isXT, sp_rests, sp__law_tells]
  refine lossC_ls RowD.lst (by omega) lo ?_
  (try dsimp only [q_op, q_un, q_var, q_c, q_nil, q_cons, q_tup, q_frz, q_cel, q_lst, q_test, q_onB, q_and, q_or, q_not, q_andV, q_orV, q_notV, q_if, q_chain, q_next, q_seq, q_drop, q_ret, q_retF, q_retN, q_sif, q_break, q_cont, q_name, q_dnil, q_dcons, q_dtup, q_asg, q_set, q_par, q_for, q_range1, q_range2, q_iseq, q_ienum, q_call, q_cb, q_ncb, q_nop, q_lenset, q_mt, q_mt0, q_setix, q_augs, q_aug, q_nsl, q_onone, q_osome, q_gsl, q_raise, q_raiseF, q_try, q_lc, q_lc2, q_yes, q_wipe0, q_wipe, q_xf, q_I, q_I0, q_U, q_add, q_addT, q_addL, q_addR, q_onL, q_onSt, q_onSl, q_onSs, q_onSrct, q_onSrcl, q_eqI, q_eqB, q_eqS, q_eqN, q_isN, q_ix, q_ixL, q_in, q_len, q_sum, q_max, q_min, q_max2, q_min2, q_abs, q_int, q_intB, q_tupof, q_lstof, q_sort, q_rep, q_cat, q_isi, q_isis, q_setat, q_onC, q_append, q_pop, q_popAt, q_reverse, q_insert, q_sp1, q_sp2, q_sp3, q_sp4, q_at0, q_atS, q_st0, q_stS, q_iteT, q_iteF, q_isB, q_sumS, q_all, q_any, q_repT, q_spV, q_nLcX, q_sFz, q_gFld, q_sFldD, q_gMake, q_gCallI, q_gMeth, q_iOwnF, q_isO, q_gIxI, q_lenO, q_modN, q_divmod, q_gSMeth, q_dtupA, q_dtupAL, q_gRevD, q_revT, q_revL, q_gCallKw, q_eqO, q_gCallVS, q_gOpO, q_gUnO, q_gCMeth, q_gMakeV, q_gSlot, q_gMakeS, q_sSlot, q_gMethS, q_isS, q_lc3, q_tru, q_onTl, q_onTt, q_onTb, q_onTi, q_onTn, q_lstRev, q_lstRg2, q_lstRg1, q_prop, q_inO, q_gOpL, q_neO, q_gOpN, q_lstZip, q_repr, q_isXT])
  intro q hq
  refine lossC_ls (RowD.ref mset_same) (by omega) lo (eq_self rfl (pl_frs _) ?_)
  (try dsimp only [q_op, q_un, q_var, q_c, q_nil, q_cons, q_tup, q_frz, q_cel, q_lst, q_test, q_onB, q_and, q_or, q_not, q_andV, q_orV, q_notV, q_if, q_chain, q_next, q_seq, q_drop, q_ret, q_retF, q_retN, q_sif, q_break, q_cont, q_name, q_dnil, q_dcons, q_dtup, q_asg, q_set, q_par, q_for, q_range1, q_range2, q_iseq, q_ienum, q_call, q_cb, q_ncb, q_nop, q_lenset, q_mt, q_mt0, q_setix, q_augs, q_aug, q_nsl, q_onone, q_osome, q_gsl, q_raise, q_raiseF, q_try, q_lc, q_lc2, q_yes, q_wipe0, q_wipe, q_xf, q_I, q_I0, q_U, q_add, q_addT, q_addL, q_addR, q_onL, q_onSt, q_onSl, q_onSs, q_onSrct, q_onSrcl, q_eqI, q_eqB, q_eqS, q_eqN, q_isN, q_ix, q_ixL, q_in, q_len, q_sum, q_max, q_min, q_max2, q_min2, q_abs, q_int, q_intB, q_tupof, q_lstof, q_sort, q_rep, q_cat, q_isi, q_isis, q_setat, q_onC, q_append, q_pop, q_popAt, q_reverse, q_insert, q_sp1, q_sp2, q_sp3, q_sp4, q_at0, q_atS, q_st0, q_stS, q_iteT, q_iteF, q_isB, q_sumS, q_all, q_any, q_repT, q_spV, q_nLcX, q_sFz, q_gFld, q_sFldD, q_gMake, q_gCallI, q_gMeth, q_iOwnF, q_isO, q_gIxI, q_lenO, q_modN, q_divmod, q_gSMeth, q_dtupA, q_dtupAL, q_gRevD, q_revT, q_revL, q_gCallKw, q_eqO, q_gCallVS, q_gOpO, q_gUnO, q_gCMeth, q_gMakeV, q_gSlot, q_gMakeS, q_sSlot, q_gMethS, q_isS, q_lc3, q_tru, q_onTl, q_onTt, q_onTb, q_onTi, q_onTn, q_lstRev, q_lstRg2, q_lstRg1, q_prop, q_inO, q_gOpL, q_neO, q_gOpN, q_lstZip, q_repr, q_isXT])
  refine if_f rfl ⟨onL_ref (k := fun _ => True) mset_same trivial, _, mset_same, by rw [sz, List.length_map]; omega, ?_⟩
  have o1 : ChOk (Ls.i 1).c := by decide
  have ok1 : ∀ l ∈ (ls ++ [Ls.i 1]).take 16, ChOk l.c := ls_take _ (ls_app lo (ls_one o1))
  have ok2 : ∀ x ∈ (ls ++ [l]).take 16, ChOk x.c := ls_take _ (ls_app lo (ls_one ol))
  have c16 : ∀ x : Ls, DL.cutD (ls.map Ls.d ++ [x.d]) none (some 16) = ((ls ++ [x]).take 16).map Ls.d := fun x => by
    have := cut_all (ls.map Ls.d ++ [x.d]) 16
    have h16 : (((16 : Nat) : Int)) = 16 := rfl
    rw [h16] at this
    rw [this, List.map_take, List.map_append]
    rfl
  have e1 : DL.cutD (ls.map Ls.d ++ [DL.D.int 1]) none (some 16) = ((ls ++ [Ls.i 1]).take 16).map Ls.d := c16 (.i 1)
  show onL _ (DL.D.ref q) _
  refine onL_ref mset_same ?_
  rw [e1]
  refine lossC_ls RowD.lst (by simp; omega) ok1 ⟨lsz (by simp), add_ll (by simp; omega) ?_⟩
  show lossC K _ (.lst (DL.cutD (ls.map Ls.d ++ [DL.D.int 1]) none (some 16))) _ _
  rw [e1]
  refine lossC_ls RowD.lst (by simp; omega) ok1 (eq_self rfl (pl_frs _) ?_)
  (try dsimp only [q_op, q_un, q_var, q_c, q_nil, q_cons, q_tup, q_frz, q_cel, q_lst, q_test, q_onB, q_and, q_or, q_not, q_andV, q_orV, q_notV, q_if, q_chain, q_next, q_seq, q_drop, q_ret, q_retF, q_retN, q_sif, q_break, q_cont, q_name, q_dnil, q_dcons, q_dtup, q_asg, q_set, q_par, q_for, q_range1, q_range2, q_iseq, q_ienum, q_call, q_cb, q_ncb, q_nop, q_lenset, q_mt, q_mt0, q_setix, q_augs, q_aug, q_nsl, q_onone, q_osome, q_gsl, q_raise, q_raiseF, q_try, q_lc, q_lc2, q_yes, q_wipe0, q_wipe, q_xf, q_I, q_I0, q_U, q_add, q_addT, q_addL, q_addR, q_onL, q_onSt, q_onSl, q_onSs, q_onSrct, q_onSrcl, q_eqI, q_eqB, q_eqS, q_eqN, q_isN, q_ix, q_ixL, q_in, q_len, q_sum, q_max, q_min, q_max2, q_min2, q_abs, q_int, q_intB, q_tupof, q_lstof, q_sort, q_rep, q_cat, q_isi, q_isis, q_setat, q_onC, q_append, q_pop, q_popAt, q_reverse, q_insert, q_sp1, q_sp2, q_sp3, q_sp4, q_at0, q_atS, q_st0, q_stS, q_iteT, q_iteF, q_isB, q_sumS, q_all, q_any, q_repT, q_spV, q_nLcX, q_sFz, q_gFld, q_sFldD, q_gMake, q_gCallI, q_gMeth, q_iOwnF, q_isO, q_gIxI, q_lenO, q_modN, q_divmod, q_gSMeth, q_dtupA, q_dtupAL, q_gRevD, q_revT, q_revL, q_gCallKw, q_eqO, q_gCallVS, q_gOpO, q_gUnO, q_gCMeth, q_gMakeV, q_gSlot, q_gMakeS, q_sSlot, q_gMethS, q_isS, q_lc3, q_tru, q_onTl, q_onTt, q_onTb, q_onTi, q_onTn, q_lstRev, q_lstRg2, q_lstRg1, q_prop, q_inO, q_gOpL, q_neO, q_gOpN, q_lstZip, q_repr, q_isXT])
  refine if_f rfl (lossC_ls RowD.lst (by omega) lo (eq_self rfl (pl_frs _) ?_))
  (try dsimp only [q_op, q_un, q_var, q_c, q_nil, q_cons, q_tup, q_frz, q_cel, q_lst, q_test, q_onB, q_and, q_or, q_not, q_andV, q_orV, q_notV, q_if, q_chain, q_next, q_seq, q_drop, q_ret, q_retF, q_retN, q_sif, q_break, q_cont, q_name, q_dnil, q_dcons, q_dtup, q_asg, q_set, q_par, q_for, q_range1, q_range2, q_iseq, q_ienum, q_call, q_cb, q_ncb, q_nop, q_lenset, q_mt, q_mt0, q_setix, q_augs, q_aug, q_nsl, q_onone, q_osome, q_gsl, q_raise, q_raiseF, q_try, q_lc, q_lc2, q_yes, q_wipe0, q_wipe, q_xf, q_I, q_I0, q_U, q_add, q_addT, q_addL, q_addR, q_onL, q_onSt, q_onSl, q_onSs, q_onSrct, q_onSrcl, q_eqI, q_eqB, q_eqS, q_eqN, q_isN, q_ix, q_ixL, q_in, q_len, q_sum, q_max, q_min, q_max2, q_min2, q_abs, q_int, q_intB, q_tupof, q_lstof, q_sort, q_rep, q_cat, q_isi, q_isis, q_setat, q_onC, q_append, q_pop, q_popAt, q_reverse, q_insert, q_sp1, q_sp2, q_sp3, q_sp4, q_at0, q_atS, q_st0, q_stS, q_iteT, q_iteF, q_isB, q_sumS, q_all, q_any, q_repT, q_spV, q_nLcX, q_sFz, q_gFld, q_sFldD, q_gMake, q_gCallI, q_gMeth, q_iOwnF, q_isO, q_gIxI, q_lenO, q_modN, q_divmod, q_gSMeth, q_dtupA, q_dtupAL, q_gRevD, q_revT, q_revL, q_gCallKw, q_eqO, q_gCallVS, q_gOpO, q_gUnO, q_gCMeth, q_gMakeV, q_gSlot, q_gMakeS, q_sSlot, q_gMethS, q_isS, q_lc3, q_tru, q_onTl, q_onTt, q_onTb, q_onTi, q_onTn, q_lstRev, q_lstRg2, q_lstRg1, q_prop, q_inO, q_gOpL, q_neO, q_gOpN, q_lstZip, q_repr, q_isXT])
  refine if_t rfl ⟨lsz (by simp), add_ll (by simp; omega) ?_⟩
  refine ⟨(ls ++ [l]).take 16, ?_, ⟨by rw [List.length_take]; omega, ok2⟩, ret_drop MemUp.refl (qq _)⟩
  rw [c16 l]
theorem lw4 {M : Mem} {Q : DVK} {E : DXK} {p : Addr} {ls : List Ls} {x0 x3 x4 x5 x6 x7 x8 : Option DL.D} (hp : Pool M p) (ok : LsOk ls) (qq : ∀ M', Q (.bl true) M') :
    gLw4 K { nx := fun _ M => Q .non M, rt := Q, ex := fun x _ M => E x M } [x0, some (.ref p), some (lsD ls), x3, x4, x5, x6, x7, x8] M := by
  unfold gLw4
  generalize hT : gLw5 K = TL
  dsimp only [q_op, q_un, q_var, q_c, q_nil, q_cons, q_tup, q_frz, q_cel, q_lst, q_test, q_onB, q_and, q_or, q_not, q_andV, q_orV, q_notV, q_if, q_chain, q_next, q_seq, q_drop, q_ret, q_retF, q_retN, q_sif, q_break, q_cont, q_name, q_dnil, q_dcons, q_dtup, q_asg, q_set, q_par, q_for, q_range1, q_range2, q_iseq, q_ienum, q_call, q_cb, q_ncb, q_nop, q_lenset, q_mt, q_mt0, q_setix, q_augs, q_aug, q_nsl, q_onone, q_osome, q_gsl, q_raise, q_raiseF, q_try, q_lc, q_lc2, q_yes, q_wipe0, q_wipe, q_xf, q_I, q_I0, q_U, q_add, q_addT, q_addL, q_addR, q_onL, q_onSt, q_onSl, q_onSs, q_onSrct, q_onSrcl, q_eqI, q_eqB, q_eqS, q_eqN, q_isN, q_ix, q_ixL, q_in, q_len, q_sum, q_max, q_min, q_max2, q_min2, q_abs, q_int, q_intB, q_tupof, q_lstof, q_sort, q_rep, q_cat, q_isi, q_isis, q_setat, q_onC, q_append, q_pop, q_popAt, q_reverse, q_insert, q_sp1, q_sp2, q_sp3, q_sp4, q_at0, q_atS, q_st0, q_stS, q_iteT, q_iteF, q_isB, q_sumS, q_all, q_any, q_repT, q_spV, q_nLcX, q_sFz, q_gFld, q_sFldD, q_gMake, q_gCallI, q_gMeth, q_iOwnF, q_isO, q_gIxI, q_lenO, q_modN, q_divmod, q_gSMeth, q_dtupA, q_dtupAL, q_gRevD, q_revT, q_revL, q_gCallKw, q_eqO, q_gCallVS, q_gOpO, q_gUnO, q_gCMeth, q_gMakeV, q_gSlot, q_gMakeS, q_sSlot, q_gMethS, q_isS, q_lc3, q_tru, q_onTl, q_onTt, q_onTb, q_onTi, q_onTn, q_lstRev, q_lstRg2, q_lstRg1, q_prop, q_inO, q_gOpL, q_neO, q_gOpN, q_lstZip, q_repr, q_isXT, sp__law_loss, sp__law_longer, sp__law_refuses]
  refine ⟨p, rfl, hp, fun l xs ol => ?_⟩
  have fin : ∀ M2, TL { nx := fun _ M => Q .non M, rt := Q, ex := fun x _ M => E x M } [x0, some (.ref p), some (lsD ls), x3, x4, some l.d, x6, x7, x8] M2 := fun M2 => by
    rw [← hT]
    exact lw5 ok ol qq
  (try dsimp only [q_op, q_un, q_var, q_c, q_nil, q_cons, q_tup, q_frz, q_cel, q_lst, q_test, q_onB, q_and, q_or, q_not, q_andV, q_orV, q_notV, q_if, q_chain, q_next, q_seq, q_drop, q_ret, q_retF, q_retN, q_sif, q_break, q_cont, q_name, q_dnil, q_dcons, q_dtup, q_asg, q_set, q_par, q_for, q_range1, q_range2, q_iseq, q_ienum, q_call, q_cb, q_ncb, q_nop, q_lenset, q_mt, q_mt0, q_setix, q_augs, q_aug, q_nsl, q_onone, q_osome, q_gsl, q_raise, q_raiseF, q_try, q_lc, q_lc2, q_yes, q_wipe0, q_wipe, q_xf, q_I, q_I0, q_U, q_add, q_addT, q_addL, q_addR, q_onL, q_onSt, q_onSl, q_onSs, q_onSrct, q_onSrcl, q_eqI, q_eqB, q_eqS, q_eqN, q_isN, q_ix, q_ixL, q_in, q_len, q_sum, q_max, q_min, q_max2, q_min2, q_abs, q_int, q_intB, q_tupof, q_lstof, q_sort, q_rep, q_cat, q_isi, q_isis, q_setat, q_onC, q_append, q_pop, q_popAt, q_reverse, q_insert, q_sp1, q_sp2, q_sp3, q_sp4, q_at0, q_atS, q_st0, q_stS, q_iteT, q_iteF, q_isB, q_sumS, q_all, q_any, q_repT, q_spV, q_nLcX, q_sFz, q_gFld, q_sFldD, q_gMake, q_gCallI, q_gMeth, q_iOwnF, q_isO, q_gIxI, q_lenO, q_modN, q_divmod, q_gSMeth, q_dtupA, q_dtupAL, q_gRevD, q_revT, q_revL, q_gCallKw, q_eqO, q_gCallVS, q_gOpO, q_gUnO, q_gCMeth, q_gMakeV, q_gSlot, q_gMakeS, q_sSlot, q_gMethS, q_isS, q_lc3, q_tru, q_onTl, q_onTt, q_onTb, q_onTi, q_onTn, q_lstRev, q_lstRg2, q_lstRg1, q_prop, q_inO, q_gOpL, q_neO, q_gOpN, q_lstZip, q_repr, q_isXT])
  have go : ∃ p_1 ls_2, DL.D.ref p = .ref p_1 ∧ Pool (mset M p (.lst (iD xs))) p_1 ∧ lsD ls = lsD ls_2 ∧ LsOk ls_2 ∧ ∀ (xs_1 : List Int), if (!true) = true then ∃ d' M2 S, Fz (mset (mset M p (.lst (iD xs))) p_1 (.lst (iD xs_1))) S (.bl false) d' ∧ MemFz (mset (mset M p (.lst (iD xs))) p_1 (.lst (iD xs_1))) M2 S ∧ Q d' M2 else TL { nx := fun _ M => Q .non M, rt := Q, ex := fun x _ M => E x M } [x0, some (.ref p), some (lsD ls), x3, x4, some l.d, x6, x7, x8] (mset (mset M p (.lst (iD xs))) p_1 (.lst (iD xs_1))) :=
    ⟨p, ls, rfl, ⟨xs, mset_same⟩, rfl, ok, fun xs_1 => if_f rfl (fin _)⟩
  by_cases c : ((ls.map Ls.d).length : Int) < 16
  · exact if_t (decide_eq_true c) ⟨ls, l, rfl, ok, rfl, ol, if_f rfl go⟩
  · exact if_f (decide_eq_false c) (if_f rfl go)
theorem lw3 {M : Mem} {Q : DVK} {E : DXK} {p : Addr} {ls : List Ls} {x0 x3 x4 x5 x6 x7 x8 : Option DL.D} (hp : Pool M p) (ok : LsOk ls) (qq : ∀ M', Q (.bl true) M') :
    gLw3 K { nx := fun _ M => Q .non M, rt := Q, ex := fun x _ M => E x M } [x0, some (.ref p), some (lsD ls), x3, x4, x5, x6, x7, x8] M := by
  unfold gLw3
  generalize hT : gLw4 K = TL
  dsimp only [q_op, q_un, q_var, q_c, q_nil, q_cons, q_tup, q_frz, q_cel, q_lst, q_test, q_onB, q_and, q_or, q_not, q_andV, q_orV, q_notV, q_if, q_chain, q_next, q_seq, q_drop, q_ret, q_retF, q_retN, q_sif, q_break, q_cont, q_name, q_dnil, q_dcons, q_dtup, q_asg, q_set, q_par, q_for, q_range1, q_range2, q_iseq, q_ienum, q_call, q_cb, q_ncb, q_nop, q_lenset, q_mt, q_mt0, q_setix, q_augs, q_aug, q_nsl, q_onone, q_osome, q_gsl, q_raise, q_raiseF, q_try, q_lc, q_lc2, q_yes, q_wipe0, q_wipe, q_xf, q_I, q_I0, q_U, q_add, q_addT, q_addL, q_addR, q_onL, q_onSt, q_onSl, q_onSs, q_onSrct, q_onSrcl, q_eqI, q_eqB, q_eqS, q_eqN, q_isN, q_ix, q_ixL, q_in, q_len, q_sum, q_max, q_min, q_max2, q_min2, q_abs, q_int, q_intB, q_tupof, q_lstof, q_sort, q_rep, q_cat, q_isi, q_isis, q_setat, q_onC, q_append, q_pop, q_popAt, q_reverse, q_insert, q_sp1, q_sp2, q_sp3, q_sp4, q_at0, q_atS, q_st0, q_stS, q_iteT, q_iteF, q_isB, q_sumS, q_all, q_any, q_repT, q_spV, q_nLcX, q_sFz, q_gFld, q_sFldD, q_gMake, q_gCallI, q_gMeth, q_iOwnF, q_isO, q_gIxI, q_lenO, q_modN, q_divmod, q_gSMeth, q_dtupA, q_dtupAL, q_gRevD, q_revT, q_revL, q_gCallKw, q_eqO, q_gCallVS, q_gOpO, q_gUnO, q_gCMeth, q_gMakeV, q_gSlot, q_gMakeS, q_sSlot, q_gMethS, q_isS, q_lc3, q_tru, q_onTl, q_onTt, q_onTb, q_onTi, q_onTn, q_lstRev, q_lstRg2, q_lstRg1, q_prop, q_inO, q_gOpL, q_neO, q_gOpN, q_lstZip, q_repr, q_isXT, sp__law_forced, sp__law_quarters, sp__law_take, sp__law_raised]
  have fin : ∀ M2 x4, Pool M2 p → TL { nx := fun _ M => Q .non M, rt := Q, ex := fun x _ M => E x M } [x0, some (.ref p), some (lsD ls), x3, x4, x5, x6, x7, x8] M2 := fun M2 x4 hp => by
    rw [← hT]
    exact lw4 hp ok qq
  refine ⟨ls, rfl, ok, if_f rfl ⟨p, 17, rfl, rfl, by decide, hp, fun r xs r0 r1 => ?_⟩⟩
  obtain ⟨r, rfl⟩ : ∃ n : Nat, r = (n : Nat) := ⟨r.toNat, by omega⟩
  refine ⟨r, rfl, by omega, if_f rfl ?_⟩
  rw [List.length_map]
  by_cases c : (0 : Int) < (ls.length : Int)
  · refine if_t (decide_eq_true c) ⟨p, _, rfl, rfl, c, ⟨xs, mset_same⟩, fun k xs2 k0 k1 => ⟨p, 3, rfl, rfl, by decide, ⟨xs2, mset_same⟩, fun w xs3 w0 w1 => ?_⟩⟩
    obtain ⟨k, rfl⟩ : ∃ n : Nat, k = (n : Nat) := ⟨k.toNat, by omega⟩
    exact ⟨ls, k, w, rfl, ok, rfl, by omega, rfl, w0, w1, if_f rfl (fin _ _ ⟨xs3, mset_same⟩)⟩
  · exact if_f (decide_eq_false c) (fin _ _ ⟨xs, mset_same⟩)
theorem lw2 {M : Mem} {Q : DVK} {E : DXK} {p : Addr} {ls : List Ls} {x0 x3 x4 x5 x6 x7 x8 : Option DL.D} (hp : Pool M p) (ok : LsOk ls) (qq : ∀ M', Q (.bl true) M') :
    gLw2 K { nx := fun _ M => Q .non M, rt := Q, ex := fun x _ M => E x M } [x0, some (.ref p), some (lsD ls), x3, x4, x5, x6, x7, x8] M := by
  unfold gLw2
  generalize hT : gLw3 K = TL
  dsimp only [q_op, q_un, q_var, q_c, q_nil, q_cons, q_tup, q_frz, q_cel, q_lst, q_test, q_onB, q_and, q_or, q_not, q_andV, q_orV, q_notV, q_if, q_chain, q_next, q_seq, q_drop, q_ret, q_retF, q_retN, q_sif, q_break, q_cont, q_name, q_dnil, q_dcons, q_dtup, q_asg, q_set, q_par, q_for, q_range1, q_range2, q_iseq, q_ienum, q_call, q_cb, q_ncb, q_nop, q_lenset, q_mt, q_mt0, q_setix, q_augs, q_aug, q_nsl, q_onone, q_osome, q_gsl, q_raise, q_raiseF, q_try, q_lc, q_lc2, q_yes, q_wipe0, q_wipe, q_xf, q_I, q_I0, q_U, q_add, q_addT, q_addL, q_addR, q_onL, q_onSt, q_onSl, q_onSs, q_onSrct, q_onSrcl, q_eqI, q_eqB, q_eqS, q_eqN, q_isN, q_ix, q_ixL, q_in, q_len, q_sum, q_max, q_min, q_max2, q_min2, q_abs, q_int, q_intB, q_tupof, q_lstof, q_sort, q_rep, q_cat, q_isi, q_isis, q_setat, q_onC, q_append, q_pop, q_popAt, q_reverse, q_insert, q_sp1, q_sp2, q_sp3, q_sp4, q_at0, q_atS, q_st0, q_stS, q_iteT, q_iteF, q_isB, q_sumS, q_all, q_any, q_repT, q_spV, q_nLcX, q_sFz, q_gFld, q_sFldD, q_gMake, q_gCallI, q_gMeth, q_iOwnF, q_isO, q_gIxI, q_lenO, q_modN, q_divmod, q_gSMeth, q_dtupA, q_dtupAL, q_gRevD, q_revT, q_revL, q_gCallKw, q_eqO, q_gCallVS, q_gOpO, q_gUnO, q_gCMeth, q_gMakeV, q_gSlot, q_gMakeS, q_sSlot, q_gMethS, q_isS, q_lc3, q_tru, q_onTl, q_onTt, q_onTb, q_onTi, q_onTn, q_lstRev, q_lstRg2, q_lstRg1, q_prop, q_inO, q_gOpL, q_neO, q_gOpN, q_lstZip, q_repr, q_isXT, sp__law_backwards, sp__law_edge, sp__law_cut]
  have fin : ∀ M2 x3, Pool M2 p → TL { nx := fun _ M => Q .non M, rt := Q, ex := fun x _ M => E x M } [x0, some (.ref p), some (lsD ls), x3, x4, x5, x6, x7, x8] M2 := fun M2 x3 hp => by
    rw [← hT]
    exact lw3 hp ok qq
  refine ⟨ls, rfl, ok, if_f rfl ⟨p, rfl, hp, fun xs => if_f rfl ⟨p, rfl, ⟨xs, mset_same⟩, fun xs2 => if_f rfl ?_⟩⟩⟩
  have l16 := ok.1
  rw [List.length_map]
  refine ⟨by omega, ?_⟩
  rw [Int.toNat_natCast]
  refine loop_rg0 (fun k ρ M2 => (∃ y : Option DL.D, ρ = [x0, some (.ref p), some (lsD ls), y, x4, x5, x6, x7, x8]) ∧ Pool M2 p) ?_ ?_ ⟨⟨_, rfl⟩, ⟨xs2, mset_same⟩⟩
  · rintro k ρ M2 hk ⟨⟨y, rfl⟩, h2⟩ Nx hN
    (try dsimp only [q_op, q_un, q_var, q_c, q_nil, q_cons, q_tup, q_frz, q_cel, q_lst, q_test, q_onB, q_and, q_or, q_not, q_andV, q_orV, q_notV, q_if, q_chain, q_next, q_seq, q_drop, q_ret, q_retF, q_retN, q_sif, q_break, q_cont, q_name, q_dnil, q_dcons, q_dtup, q_asg, q_set, q_par, q_for, q_range1, q_range2, q_iseq, q_ienum, q_call, q_cb, q_ncb, q_nop, q_lenset, q_mt, q_mt0, q_setix, q_augs, q_aug, q_nsl, q_onone, q_osome, q_gsl, q_raise, q_raiseF, q_try, q_lc, q_lc2, q_yes, q_wipe0, q_wipe, q_xf, q_I, q_I0, q_U, q_add, q_addT, q_addL, q_addR, q_onL, q_onSt, q_onSl, q_onSs, q_onSrct, q_onSrcl, q_eqI, q_eqB, q_eqS, q_eqN, q_isN, q_ix, q_ixL, q_in, q_len, q_sum, q_max, q_min, q_max2, q_min2, q_abs, q_int, q_intB, q_tupof, q_lstof, q_sort, q_rep, q_cat, q_isi, q_isis, q_setat, q_onC, q_append, q_pop, q_popAt, q_reverse, q_insert, q_sp1, q_sp2, q_sp3, q_sp4, q_at0, q_atS, q_st0, q_stS, q_iteT, q_iteF, q_isB, q_sumS, q_all, q_any, q_repT, q_spV, q_nLcX, q_sFz, q_gFld, q_sFldD, q_gMake, q_gCallI, q_gMeth, q_iOwnF, q_isO, q_gIxI, q_lenO, q_modN, q_divmod, q_gSMeth, q_dtupA, q_dtupAL, q_gRevD, q_revT, q_revL, q_gCallKw, q_eqO, q_gCallVS, q_gOpO, q_gUnO, q_gCMeth, q_gMakeV, q_gSlot, q_gMakeS, q_sSlot, q_gMethS, q_isS, q_lc3, q_tru, q_onTl, q_onTt, q_onTb, q_onTi, q_onTn, q_lstRev, q_lstRg2, q_lstRg1, q_prop, q_inO, q_gOpL, q_neO, q_gOpN, q_lstZip, q_repr, q_isXT])
    exact ⟨ls, k, rfl, ok, rfl, hk, if_f rfl (hN _ _ ⟨⟨_, rfl⟩, h2⟩)⟩
  · rintro ρ M2 ⟨⟨y, rfl⟩, h2⟩
    exact fin _ _ h2
theorem lw1 {M : Mem} {Q : DVK} {E : DXK} {p : Addr} {ls : List Ls} {x0 x3 x4 x5 x6 x7 x8 : Option DL.D} (hp : Pool M p) (ok : LsOk ls) (qq : ∀ M', Q (.bl true) M') :
    gLw1 K { nx := fun _ M => Q .non M, rt := Q, ex := fun x _ M => E x M } [x0, some (.ref p), some (lsD ls), x3, x4, x5, x6, x7, x8] M := by
  unfold gLw1
  generalize hT : gLw2 K = TL
  dsimp only [q_op, q_un, q_var, q_c, q_nil, q_cons, q_tup, q_frz, q_cel, q_lst, q_test, q_onB, q_and, q_or, q_not, q_andV, q_orV, q_notV, q_if, q_chain, q_next, q_seq, q_drop, q_ret, q_retF, q_retN, q_sif, q_break, q_cont, q_name, q_dnil, q_dcons, q_dtup, q_asg, q_set, q_par, q_for, q_range1, q_range2, q_iseq, q_ienum, q_call, q_cb, q_ncb, q_nop, q_lenset, q_mt, q_mt0, q_setix, q_augs, q_aug, q_nsl, q_onone, q_osome, q_gsl, q_raise, q_raiseF, q_try, q_lc, q_lc2, q_yes, q_wipe0, q_wipe, q_xf, q_I, q_I0, q_U, q_add, q_addT, q_addL, q_addR, q_onL, q_onSt, q_onSl, q_onSs, q_onSrct, q_onSrcl, q_eqI, q_eqB, q_eqS, q_eqN, q_isN, q_ix, q_ixL, q_in, q_len, q_sum, q_max, q_min, q_max2, q_min2, q_abs, q_int, q_intB, q_tupof, q_lstof, q_sort, q_rep, q_cat, q_isi, q_isis, q_setat, q_onC, q_append, q_pop, q_popAt, q_reverse, q_insert, q_sp1, q_sp2, q_sp3, q_sp4, q_at0, q_atS, q_st0, q_stS, q_iteT, q_iteF, q_isB, q_sumS, q_all, q_any, q_repT, q_spV, q_nLcX, q_sFz, q_gFld, q_sFldD, q_gMake, q_gCallI, q_gMeth, q_iOwnF, q_isO, q_gIxI, q_lenO, q_modN, q_divmod, q_gSMeth, q_dtupA, q_dtupAL, q_gRevD, q_revT, q_revL, q_gCallKw, q_eqO, q_gCallVS, q_gOpO, q_gUnO, q_gCMeth, q_gMakeV, q_gSlot, q_gMakeS, q_sSlot, q_gMethS, q_isS, q_lc3, q_tru, q_onTl, q_onTt, q_onTb, q_onTi, q_onTn, q_lstRev, q_lstRg2, q_lstRg1, q_prop, q_inO, q_gOpL, q_neO, q_gOpN, q_lstZip, q_repr, q_isXT, sp_closes_at]
  have fin : TL { nx := fun _ M => Q .non M, rt := Q, ex := fun x _ M => E x M } [x0, some (.ref p), some (lsD ls), x3, x4, x5, x6, x7, x8] M := by
    rw [← hT]
    exact lw2 hp ok qq
  have o12 : ChOk (1, 2) := by decide
  have o01 : ChOk (0, 1) := by decide
  have A : ∀ l ∈ [Ls.t 1 2, Ls.t 1 2], ChOk l.c := ls_app (as := [Ls.t 1 2]) (ls_one o12) (ls_one o12)
  have B : ∀ l ∈ [Ls.t 1 2, Ls.i 0, Ls.l 1 2], ChOk l.c := ls_app (as := [Ls.t 1 2]) (ls_one o12) (ls_app (as := [Ls.i 0]) (ls_one o01) (ls_one o12))
  have C : ∀ l ∈ [Ls.t 1 2, Ls.t 1 2, Ls.i 0], ChOk l.c := ls_app (as := [Ls.t 1 2]) (ls_one o12) (ls_app (as := [Ls.t 1 2]) (ls_one o12) (ls_one o01))
  have D : ∀ l ∈ [Ls.i 0, Ls.t 1 2, Ls.t 1 2], ChOk l.c := ls_app (as := [Ls.i 0]) (ls_one o01) A
  have a : cloD (lsC [Ls.t 1 2, Ls.t 1 2]) = .int 2 := cloD_int (n := 2) (by decide)
  have b : cloD (lsC [Ls.t 1 2, Ls.i 0, Ls.l 1 2]) = .non := cloD_non (by decide)
  have c : cloD (lsC [Ls.t 1 2, Ls.t 1 2, Ls.i 0]) = .int 2 := cloD_int (n := 2) (by decide)
  have d : cloD (lsC [Ls.i 0, Ls.t 1 2, Ls.t 1 2]) = .int 3 := cloD_int (n := 3) (by decide)
  refine ⟨lsz (by simp), lsz (by simp), lsz (by simp), lossC_ls (ls := [Ls.t 1 2, Ls.t 1 2]) RowD.lst (by simp) A ?_⟩
  rw [a]
  (try dsimp only [q_op, q_un, q_var, q_c, q_nil, q_cons, q_tup, q_frz, q_cel, q_lst, q_test, q_onB, q_and, q_or, q_not, q_andV, q_orV, q_notV, q_if, q_chain, q_next, q_seq, q_drop, q_ret, q_retF, q_retN, q_sif, q_break, q_cont, q_name, q_dnil, q_dcons, q_dtup, q_asg, q_set, q_par, q_for, q_range1, q_range2, q_iseq, q_ienum, q_call, q_cb, q_ncb, q_nop, q_lenset, q_mt, q_mt0, q_setix, q_augs, q_aug, q_nsl, q_onone, q_osome, q_gsl, q_raise, q_raiseF, q_try, q_lc, q_lc2, q_yes, q_wipe0, q_wipe, q_xf, q_I, q_I0, q_U, q_add, q_addT, q_addL, q_addR, q_onL, q_onSt, q_onSl, q_onSs, q_onSrct, q_onSrcl, q_eqI, q_eqB, q_eqS, q_eqN, q_isN, q_ix, q_ixL, q_in, q_len, q_sum, q_max, q_min, q_max2, q_min2, q_abs, q_int, q_intB, q_tupof, q_lstof, q_sort, q_rep, q_cat, q_isi, q_isis, q_setat, q_onC, q_append, q_pop, q_popAt, q_reverse, q_insert, q_sp1, q_sp2, q_sp3, q_sp4, q_at0, q_atS, q_st0, q_stS, q_iteT, q_iteF, q_isB, q_sumS, q_all, q_any, q_repT, q_spV, q_nLcX, q_sFz, q_gFld, q_sFldD, q_gMake, q_gCallI, q_gMeth, q_iOwnF, q_isO, q_gIxI, q_lenO, q_modN, q_divmod, q_gSMeth, q_dtupA, q_dtupAL, q_gRevD, q_revT, q_revL, q_gCallKw, q_eqO, q_gCallVS, q_gOpO, q_gUnO, q_gCMeth, q_gMakeV, q_gSlot, q_gMakeS, q_sSlot, q_gMethS, q_isS, q_lc3, q_tru, q_onTl, q_onTt, q_onTb, q_onTi, q_onTn, q_lstRev, q_lstRg2, q_lstRg1, q_prop, q_inO, q_gOpL, q_neO, q_gOpN, q_lstZip, q_repr, q_isXT])
  refine if_f rfl ⟨lsz (by simp), lsz (by simp), lsz (by simp), lossC_ls (ls := [Ls.t 1 2, Ls.i 0, Ls.l 1 2]) RowD.tup (by simp) B ?_⟩
  rw [b]
  refine if_f rfl ⟨lsz (by simp), lsz (by simp), lsz (by simp), lossC_ls (ls := [Ls.t 1 2, Ls.t 1 2, Ls.i 0]) RowD.lst (by simp) C ?_⟩
  rw [c]
  (try dsimp only [q_op, q_un, q_var, q_c, q_nil, q_cons, q_tup, q_frz, q_cel, q_lst, q_test, q_onB, q_and, q_or, q_not, q_andV, q_orV, q_notV, q_if, q_chain, q_next, q_seq, q_drop, q_ret, q_retF, q_retN, q_sif, q_break, q_cont, q_name, q_dnil, q_dcons, q_dtup, q_asg, q_set, q_par, q_for, q_range1, q_range2, q_iseq, q_ienum, q_call, q_cb, q_ncb, q_nop, q_lenset, q_mt, q_mt0, q_setix, q_augs, q_aug, q_nsl, q_onone, q_osome, q_gsl, q_raise, q_raiseF, q_try, q_lc, q_lc2, q_yes, q_wipe0, q_wipe, q_xf, q_I, q_I0, q_U, q_add, q_addT, q_addL, q_addR, q_onL, q_onSt, q_onSl, q_onSs, q_onSrct, q_onSrcl, q_eqI, q_eqB, q_eqS, q_eqN, q_isN, q_ix, q_ixL, q_in, q_len, q_sum, q_max, q_min, q_max2, q_min2, q_abs, q_int, q_intB, q_tupof, q_lstof, q_sort, q_rep, q_cat, q_isi, q_isis, q_setat, q_onC, q_append, q_pop, q_popAt, q_reverse, q_insert, q_sp1, q_sp2, q_sp3, q_sp4, q_at0, q_atS, q_st0, q_stS, q_iteT, q_iteF, q_isB, q_sumS, q_all, q_any, q_repT, q_spV, q_nLcX, q_sFz, q_gFld, q_sFldD, q_gMake, q_gCallI, q_gMeth, q_iOwnF, q_isO, q_gIxI, q_lenO, q_modN, q_divmod, q_gSMeth, q_dtupA, q_dtupAL, q_gRevD, q_revT, q_revL, q_gCallKw, q_eqO, q_gCallVS, q_gOpO, q_gUnO, q_gCMeth, q_gMakeV, q_gSlot, q_gMakeS, q_sSlot, q_gMethS, q_isS, q_lc3, q_tru, q_onTl, q_onTt, q_onTb, q_onTi, q_onTn, q_lstRev, q_lstRg2, q_lstRg1, q_prop, q_inO, q_gOpL, q_neO, q_gOpN, q_lstZip, q_repr, q_isXT])
  refine if_f rfl ⟨lsz (by simp), lsz (by simp), lsz (by simp), lossC_ls (ls := [Ls.i 0, Ls.t 1 2, Ls.t 1 2]) RowD.lst (by simp) D ?_⟩
  rw [d]
  (try dsimp only [q_op, q_un, q_var, q_c, q_nil, q_cons, q_tup, q_frz, q_cel, q_lst, q_test, q_onB, q_and, q_or, q_not, q_andV, q_orV, q_notV, q_if, q_chain, q_next, q_seq, q_drop, q_ret, q_retF, q_retN, q_sif, q_break, q_cont, q_name, q_dnil, q_dcons, q_dtup, q_asg, q_set, q_par, q_for, q_range1, q_range2, q_iseq, q_ienum, q_call, q_cb, q_ncb, q_nop, q_lenset, q_mt, q_mt0, q_setix, q_augs, q_aug, q_nsl, q_onone, q_osome, q_gsl, q_raise, q_raiseF, q_try, q_lc, q_lc2, q_yes, q_wipe0, q_wipe, q_xf, q_I, q_I0, q_U, q_add, q_addT, q_addL, q_addR, q_onL, q_onSt, q_onSl, q_onSs, q_onSrct, q_onSrcl, q_eqI, q_eqB, q_eqS, q_eqN, q_isN, q_ix, q_ixL, q_in, q_len, q_sum, q_max, q_min, q_max2, q_min2, q_abs, q_int, q_intB, q_tupof, q_lstof, q_sort, q_rep, q_cat, q_isi, q_isis, q_setat, q_onC, q_append, q_pop, q_popAt, q_reverse, q_insert, q_sp1, q_sp2, q_sp3, q_sp4, q_at0, q_atS, q_st0, q_stS, q_iteT, q_iteF, q_isB, q_sumS, q_all, q_any, q_repT, q_spV, q_nLcX, q_sFz, q_gFld, q_sFldD, q_gMake, q_gCallI, q_gMeth, q_iOwnF, q_isO, q_gIxI, q_lenO, q_modN, q_divmod, q_gSMeth, q_dtupA, q_dtupAL, q_gRevD, q_revT, q_revL, q_gCallKw, q_eqO, q_gCallVS, q_gOpO, q_gUnO, q_gCMeth, q_gMakeV, q_gSlot, q_gMakeS, q_sSlot, q_gMethS, q_isS, q_lc3, q_tru, q_onTl, q_onTt, q_onTb, q_onTi, q_onTn, q_lstRev, q_lstRg2, q_lstRg1, q_prop, q_inO, q_gOpL, q_neO, q_gOpN, q_lstZip, q_repr, q_isXT])
  exact if_f rfl fin
theorem b_law : ∀ d0 M Q E, sp_law K [d0] M Q E → g_law K { nx := fun _ M => Q .non M, rt := Q, ex := fun x _ M => E x M } [some d0, none, none, none, none, none, none, none, none] M := by
  rintro d0 M Q E ⟨ns, rfl, qq⟩
  unfold g_law
  generalize hT2 : gLw1 K = TL
  have hT3 := hT2
  unfold gLw1 gLw2 gLw3 gLw4 gLw5 at hT3
  rw [hT3]
  clear hT3
  dsimp only [q_op, q_un, q_var, q_c, q_nil, q_cons, q_tup, q_frz, q_cel, q_lst, q_test, q_onB, q_and, q_or, q_not, q_andV, q_orV, q_notV, q_if, q_chain, q_next, q_seq, q_drop, q_ret, q_retF, q_retN, q_sif, q_break, q_cont, q_name, q_dnil, q_dcons, q_dtup, q_asg, q_set, q_par, q_for, q_range1, q_range2, q_iseq, q_ienum, q_call, q_cb, q_ncb, q_nop, q_lenset, q_mt, q_mt0, q_setix, q_augs, q_aug, q_nsl, q_onone, q_osome, q_gsl, q_raise, q_raiseF, q_try, q_lc, q_lc2, q_yes, q_wipe0, q_wipe, q_xf, q_I, q_I0, q_U, q_add, q_addT, q_addL, q_addR, q_onL, q_onSt, q_onSl, q_onSs, q_onSrct, q_onSrcl, q_eqI, q_eqB, q_eqS, q_eqN, q_isN, q_ix, q_ixL, q_in, q_len, q_sum, q_max, q_min, q_max2, q_min2, q_abs, q_int, q_intB, q_tupof, q_lstof, q_sort, q_rep, q_cat, q_isi, q_isis, q_setat, q_onC, q_append, q_pop, q_popAt, q_reverse, q_insert, q_sp1, q_sp2, q_sp3, q_sp4, q_at0, q_atS, q_st0, q_stS, q_iteT, q_iteF, q_isB, q_sumS, q_all, q_any, q_repT, q_spV, q_nLcX, q_sFz, q_gFld, q_sFldD, q_gMake, q_gCallI, q_gMeth, q_iOwnF, q_isO, q_gIxI, q_lenO, q_modN, q_divmod, q_gSMeth, q_dtupA, q_dtupAL, q_gRevD, q_revT, q_revL, q_gCallKw, q_eqO, q_gCallVS, q_gOpO, q_gUnO, q_gCMeth, q_gMakeV, q_gSlot, q_gMakeS, q_sSlot, q_gMethS, q_isS, q_lc3, q_tru, q_onTl, q_onTt, q_onTb, q_onTi, q_onTn, q_lstRev, q_lstRg2, q_lstRg1, q_prop, q_inO, q_gOpL, q_neO, q_gOpN, q_lstZip, q_repr, q_isXT, sp__law_draws, sp__law_losses, sp__law_tells]
  refine ⟨ns, rfl, fun p xs hp => ⟨p, rfl, ⟨xs, mset_same⟩, fun ls xs2 ok => ⟨ls, rfl, ok, if_f rfl ?_⟩⟩⟩
  rw [← hT2]
  exact lw1 ⟨xs2, mset_same⟩ ok qq
end
end LW

namespace LW
open PySem PySem.Spec PyProof.Rows L2 DL
theorem ok_law {P : Program} {w : World} {K : PySem.W.Frag} {mg : Str → Option Value} {base : Heap} (T : Tx K mg) : OkDG P w K mg base 10 "law" ["_law_script"] (sp_law K) := by
  have C__law_draws := w__law_draws (P := P) (w := w) (base := base) T  (fun _ _ _ _ h => len_sp1 h) b__law_draws
  have C__law_take := w__law_take (P := P) (w := w) (base := base) T  (fun _ _ _ _ h => len_sp2 h) b__law_take
  have C__law_chance := w__law_chance (P := P) (w := w) (base := base) T C__law_take (fun _ _ _ _ h => len_sp1 h) b__law_chance
  have C__law_loss := w__law_loss (P := P) (w := w) (base := base) T C__law_chance C__law_take (fun _ _ _ _ h => len_sp1 h) b__law_loss
  have C__law_losses := w__law_losses (P := P) (w := w) (base := base) T C__law_take C__law_loss C__law_chance (fun _ _ _ _ h => len_sp1 h) b__law_losses
  have C_is_row := w_is_row (P := P) (w := w) (base := base) T  (fun _ _ _ _ h => len_sp1 h) b_is_row
  have C_is_int := w_is_int (P := P) (w := w) (base := base) T  (fun _ _ _ _ h => len_sp1 h) b_is_int
  have C_common_divisor := w_common_divisor (P := P) (w := w) (base := base) T  (fun _ _ _ _ h => len_sp1 h) b_common_divisor
  have C_lowest := w_lowest (P := P) (w := w) (base := base) T C_common_divisor (fun _ _ _ _ h => len_sp2 h) b_lowest
  have C_fraction := w_fraction (P := P) (w := w) (base := base) T C_is_int C_lowest C_is_row (fun _ _ _ _ h => len_sp2 h) b_fraction
  have C_told_chance := w_told_chance (P := P) (w := w) (base := base) T C_fraction (fun _ _ _ _ h => len_sp2 h) b_told_chance
  have C__chances_of := w__chances_of (P := P) (w := w) (base := base) T C_is_row C_told_chance (fun _ _ _ _ h => len_sp3 h) b__chances_of
  have C_both_fractions := w_both_fractions (P := P) (w := w) (base := base) T C_fraction (fun _ _ _ _ h => len_sp2 h) b_both_fractions
  have C_taken_off := w_taken_off (P := P) (w := w) (base := base) T C_both_fractions C_lowest (fun _ _ _ _ h => len_sp2 h) b_taken_off
  have C_divided := w_divided (P := P) (w := w) (base := base) T C_both_fractions C_lowest (fun _ _ _ _ h => len_sp2 h) b_divided
  have C_rests := w_rests (P := P) (w := w) (base := base) T C__chances_of C_taken_off C_divided (fun _ _ _ _ h => len_sp1 h) b_rests
  have C__law_rests_due := w__law_rests_due (P := P) (w := w) (base := base) T  (fun _ _ _ _ h => len_sp1 h) b__law_rests_due
  have C_closes_at := w_closes_at (P := P) (w := w) (base := base) T C_rests (fun _ _ _ _ h => len_sp1 h) b_closes_at
  have C_rest_of := w_rest_of (P := P) (w := w) (base := base) T C_rests (fun _ _ _ _ h => len_sp1 h) b_rest_of
  have C__law_int := w__law_int (P := P) (w := w) (base := base) T  (fun _ _ _ _ h => len_sp1 h) b__law_int
  have C__law_pair := w__law_pair (P := P) (w := w) (base := base) T C__law_int (fun _ _ _ _ h => len_sp1 h) b__law_pair
  have C__law_at_most := w__law_at_most (P := P) (w := w) (base := base) T  (fun _ _ _ _ h => len_sp2 h) b__law_at_most
  have C__law_divisor := w__law_divisor (P := P) (w := w) (base := base) T  (fun _ _ _ _ h => len_sp2 h) b__law_divisor
  have C__law_is_fraction := w__law_is_fraction (P := P) (w := w) (base := base) T C__law_divisor C__law_int (fun _ _ _ _ h => len_sp1 h) b__law_is_fraction
  have C__law_same_worth := w__law_same_worth (P := P) (w := w) (base := base) T  (fun _ _ _ _ h => len_sp2 h) b__law_same_worth
  have C__law_tells := w__law_tells (P := P) (w := w) (base := base) T C__law_rests_due C_rests C_closes_at C_rest_of C__law_pair C__law_at_most C__law_is_fraction C__law_same_worth C__law_int (fun _ _ _ _ h => len_sp1 h) b__law_tells
  have C__law_refusal := w__law_refusal (P := P) (w := w) (base := base) T C_rests C_closes_at C_rest_of (fun _ _ _ _ h => len_sp2 h) (b__law_refusal T)
  have C__law_refuses := w__law_refuses (P := P) (w := w) (base := base) T C__law_take C__law_refusal (fun _ _ _ _ h => len_sp2 h) b__law_refuses
  have C__law_back := w__law_back (P := P) (w := w) (base := base) T  (fun _ _ _ _ h => len_sp1 h) b__law_back
  have C__law_closes := w__law_closes (P := P) (w := w) (base := base) T  (fun _ _ _ _ h => len_sp1 h) b__law_closes
  have C__law_backwards := w__law_backwards (P := P) (w := w) (base := base) T C_closes_at C__law_pair C__law_back C__law_closes (fun _ _ _ _ h => len_sp1 h) b__law_backwards
  have C__law_edge := w__law_edge (P := P) (w := w) (base := base) T C__law_divisor C_rest_of C__law_chance C__law_take C__law_rests_due C__law_back C_rests C_closes_at C__law_is_fraction C__law_at_most (fun _ _ _ _ h => len_sp1 h) b__law_edge
  have C__law_cut := w__law_cut (P := P) (w := w) (base := base) T C_rest_of C__law_back C_closes_at C__law_at_most C__law_is_fraction C__law_pair (fun _ _ _ _ h => len_sp2 h) b__law_cut
  have C__law_closed_by := w__law_closed_by (P := P) (w := w) (base := base) T C_closes_at C__law_int (fun _ _ _ _ h => len_sp2 h) b__law_closed_by
  have C__law_forced := w__law_forced (P := P) (w := w) (base := base) T C__law_pair C_rests C_closes_at C__law_closed_by C__law_at_most (fun _ _ _ _ h => len_sp1 h) b__law_forced
  have C__law_quarters := w__law_quarters (P := P) (w := w) (base := base) T C_rests C_closes_at C__law_same_worth (fun _ _ _ _ h => len_sp1 h) b__law_quarters
  have C__law_raised := w__law_raised (P := P) (w := w) (base := base) T C__law_pair C_rests C_closes_at C__law_at_most C__law_closed_by (fun _ _ _ _ h => len_sp3 h) b__law_raised
  have C__law_longer := w__law_longer (P := P) (w := w) (base := base) T C_closes_at C__law_closed_by (fun _ _ _ _ h => len_sp2 h) b__law_longer
  exact w_law (P := P) (w := w) (base := base) T C__law_draws C__law_losses C__law_loss C_rests C__law_tells C__law_take C__law_refuses C_closes_at C__law_backwards C__law_edge C__law_cut C__law_forced C__law_quarters C__law_raised C__law_longer (fun _ _ _ _ h => len_sp1 h) b_law
end LW
open PySem PySem.W PySem.Calls PyProof.Rows
set_option maxRecDepth 100000 in
set_option maxHeartbeats 0 in
theorem PySem.Challenge.cw_dicewins_k52_chains_rests_raised_cut_bac_holds : PySem.Challenge.rw_dicewins_k52_chains_rests_raised_cut_bac.Holds := by
  w_on; o_law
  refine HandSHeadRun.head_any (r := OpenLaw.row PySem.Challenge.rw_dicewins_k52_chains_rests_raised_cut_bac) (q := view (OpenLaw.row PySem.Challenge.rw_dicewins_k52_chains_rests_raised_cut_bac).prog [46]) (H := LW.hk) (ob := LW.ob) (M := 12000) (loose := LW.loose) (d := HandSHeadRun.topDef (OpenLaw.row PySem.Challenge.rw_dicewins_k52_chains_rests_raised_cut_bac).prog 46) (kwd := []) LW.ob_eq
    (by kernel_rfl) (fun s => by kernel_rfl) LW.run (by kernel_rfl) (by kernel_rfl) (by kernel_rfl) (by rfl) (by first | assumption | decide +kernel) (by decide +kernel) ⟨rfl, rfl, rfl, rfl, rfl, by decide +kernel⟩ ?hw ?hc
  case hw => w_witness2
  case hc =>
    refine DL.walk_ofG (l := PySem.Challenge.rw_dicewins_k52_chains_rests_raised_cut_bac) (n := 63) (k := 10) (x := "_law_script") rfl (by decide) (by kernel_rfl) ⟨rfl, by decide, by decide⟩ ?F
    intro w mg fa h Y G hmg0
    obtain ⟨K, KX, c⟩ := Y
    have hmg : mg ("law" : PySem.Str) = some (.ref fa) := by
      have e : (HandSHeadRun.topDef (OpenLaw.row PySem.Challenge.rw_dicewins_k52_chains_rests_raised_cut_bac).prog 46).name = ("law" : PySem.Str) := by kernel_rfl
      rw [← e]
      exact hmg0
    have T := LW.tx_of KX G c
    have e := hmg.symm.trans T.g_law
    cases e
    obtain ⟨fd, F⟩ := T.F_law
    obtain ⟨oc, od, sl, lk⟩ := DL.fun_lk F
    have hb := DL.fun_bindsA (ps := ["_law_script"]) F fun _ _ _ _ _ _ us hl => match us, hl with | [_], _ => rfl
    refine ⟨K, fd, LW.sp_law K, KX, fun s u => hb s [u] rfl, fun ns => ⟨ns, rfl, fun _ => rfl⟩, fun base _ _ => ?_⟩
    obtain ⟨fd2, F2, _, _, _, oc2, od2, sl2, lk2⟩ := LW.ok_law (P := (PySem.Challenge.rw_dicewins_k52_chains_rests_raised_cut_bac).prog) (w := w) (base := base) T
    rw [lk] at lk2
    cases lk2
    exact F2
#print axioms PySem.Challenge.cw_dicewins_k52_chains_rests_raised_cut_bac_holds

