import PyProof.Rows.All
import Wide.All
import OpenK.AllK
import Wide.FinOn
import HandS.ForMost
import HandS.Exc
import HandS.Slots
import HandS.Lambda
import HandS.TupAny
import HandS.Conv
import KE.KDictKeyed
import KE.KDictLaw
import KE.GoesEnum
import HandS.Zip
import HandS.TupMul
import HandS.Style
import HandS.Deep
import HandS.TupLe
import HandS.IsInst
import HandS.DictComp
import HandS.Words
import HandS.WordsList
import HandS.WordsExc
import HandS.Star
import HandS.SlotsOwn
import HandS.NamedTupGet
import HandS.FStr
import HandS.Text
import PyProof.ReprRoads
import PyProof.CallFns
import HandS.Defaults
import HandS.HeadHook1
import HandS.HeadHook2
import HandS.Dict
import HandS.Ends
import HandS.HeadEnd
import HandS.HeadHook3
import HandS.HeadHook4
import HandS.Head0
import HandS.Head1
import HandS.Head2
import KE.KStateDown
import KE.KExcSuper
import KE.KExcInit
import HandS.ExcInit
import PyProof.ExcBaseAll.OverflowError
import PyProof.ExcBaseAll.ValueError
import PyProof.InstStoreFacts
import HandS.ExcValue
import HandS.ExcField
import KE.KExcIs
import HandS.ExcIs
import KE.KTryMore
import HandS.ExcBuiltin
import PyProof.ReprLen
import PyProof.FitsInt
import KE.KDflt
import KE.DataMinMax
import KE.SortData
import HandS.Flow
import KE.KDictCopyH
import HandS.ListItems
import HandS.ExcOwn
import HandS.Steps
import HandS.Iter
import KE.KIndexOf
import KE.KAssignIn
import HandS.GenList
import KE.KItemsList
import HandS.Finally
import HandS.DeepEq
import KE.LtData
import HandS.Property
import HandS.GenCall
import HandS.GenOver
import PySem.Challenge.RW_faceabout_k41_rows_listed
set_option Elab.async false
set_option linter.all false
set_option maxRecDepth 100000
set_option maxHeartbeats 4000000
/-! tuples that are known to their objects (which have no dict): the rules that make them, once more -/
namespace Dn
open PySem PySem.Spec PyProof.Rows L2
open Sem (wp)

/-- what is wanted of a new tuple -/
def NewT (vs : List V) (Q : VK) (H : Hp) : Prop := ∀ (p : Addr) (o : Obj), H p = none → o.dict = none → Q (.ref p) (upd H p (.frz o (.tup vs)))
section
variable {X : Cx} {pins : List (Addr × Obj)} {σ : L2.St} {H : Hp} {s : Shared}
theorem okF {h' : Heap} {a : Addr} {o : Obj} {vs : List V} {us : List Value} {n : Nat} (e : h'.get? a = some o) (hc : o.cls = .type "tuple") (hd : o.data = .seq us.toArray n) (r : Vals vs us) (z : vs.length ≤ sizeLine) (H' : Hp) :
    ObjOk X.prog X.w H' h' a (.frz o (.tup vs)) := ⟨e, z, us, r, ⟨o, e, hc, n, hd⟩⟩
theorem newF {vs : List V} {us : List Value} {Q : VK} {t : Nat} (I : Inv X pins σ H s) (r : Vals vs us) (z : vs.length ≤ sizeLine) (q : NewT vs Q H) :
    EP X pins σ Q (.ref s.heap.objs.size) { s with heap := s.heap.push { cls := .type "tuple", data := .seq us.toArray }, toks := t } :=
  ⟨.ref s.heap.objs.size, _, I.laid (t' := t) (fun _ _ e => Heap.get?_push_of_some _ e) (Nat.le_refl _) (okF (Heap.get?_push_size _ rfl) rfl rfl r z _), rfl, q _ _ (I.hok.fresh (Nat.le_refl _)) rfl⟩
end
section
variable {X : Cx}
/-! (a, b) -/
def tTupF (t : TA) : TE := fun σ H Q => t σ H fun xs H1 => xs.length ≤ sizeLine ∧ NewT xs Q H1
theorem pe_tupF {es : List Expr} {t : TA} {k : Nat} {pos : Pos} (h : PA X es t) : PE X (.Tuple es k pos) (tTupF t) := ⟨fun pins s σ H Q I hq =>
  wpAny_Tuple_spliced (thn (h.run pos pins s σ H _ I hq) fun us s1 ⟨xs, H1, I1, r, z, q⟩ => ⟨by rw [← r.length]; exact z, newF (t := s1.toks) I1 r z q⟩)⟩
/-! t + u -/
def rCatF (K : PySem.W.Frag) : R2 := fun x y H Q => ∃ a b xs ys, x = .ref a ∧ y = .ref b ∧ SqT K H a xs ∧ SqT K H b ys ∧ xs.length + ys.length ≤ sizeLine ∧
  (xs = [] → Q (.ref b) H) ∧ (xs ≠ [] → ys = [] → Q (.ref a) H) ∧ (xs ≠ [] → ys ≠ [] → NewT (xs ++ ys) Q H)
theorem op_catF : OpR X (binaryOp .Add) (rCatF X.K) := by
  intro pins s σ H x y v u Q I rx ry h
  obtain ⟨a, b, xs, ys, rfl, rfl, ha, hb, hz, q0, q1, q2⟩ := h
  by_cases hx : xs = []
  · exact op_catA pins s σ H _ _ v u Q I rx ry ⟨a, b, xs, ys, rfl, rfl, ha, hb, hz, q0, fun n => absurd hx n, fun n => absurd hx n⟩
  by_cases hy : ys = []
  · exact op_catA pins s σ H _ _ v u Q I rx ry ⟨a, b, xs, ys, rfl, rfl, ha, hb, hz, q0, fun n e => q1 n e, fun _ n => absurd hy n⟩
  cases rx
  cases ry
  obtain ⟨us, r1, p1, _⟩ := I.tuple ha
  obtain ⟨ws, r2, p2, _⟩ := I.tuple hb
  refine HT.cat_tup p1 p2 (fun z => hx (r1.nil_iff.mp z)) (fun z => absurd (r2.nil_iff.mp z) hy) (fun z => ?_) (by rw [← r1.length, ← r2.length]; exact hz)
  exact newF (t := s.toks) I (r1.append r2) (by rw [List.length_append]; exact hz) (q2 hx hy)
/-! t[lo:hi] -/
def rSlF (K : PySem.W.Frag) : V → Option Int → Option Int → Hp → VK → Prop := fun x lo hi H Q => ∃ a xs, x = .ref a ∧ SqT K H a xs ∧
  (HT.sIx xs.length 0 lo = 0 ∧ HT.sIx xs.length xs.length hi = xs.length → Q (.ref a) H) ∧ (¬ (HT.sIx xs.length 0 lo = 0 ∧ HT.sIx xs.length xs.length hi = xs.length) → NewT (cutV xs lo hi) Q H)
theorem sl_F : SlR X (rSlF X.K) := by
  intro pins s σ H x v vl vu lo hi sl Q I rx hs pl pu h
  obtain ⟨a, xs, rfl, hx, q1, q2⟩ := h
  by_cases hw : HT.sIx xs.length 0 lo = 0 ∧ HT.sIx xs.length xs.length hi = xs.length
  · exact sl_tupA pins s σ H _ v vl vu lo hi sl Q I rx hs pl pu ⟨a, xs, rfl, hx, q1, fun n => absurd hw n⟩
  cases rx
  obtain ⟨us, r, ht, hz⟩ := I.tuple hx
  have hl : us.toArray.size = xs.length := by rw [List.size_toArray]; exact r.length.symm
  refine ⟨"tuple", _, PyProof.Rows.slot_tuple_getitem.lookup, ht.typeIs, HT.getItem_tuple_cut ht hs pl pu (by rw [hl]; exact hw) ?_ (by rw [hl]; exact hz)⟩
  rw [hl]
  exact newF (t := s.toks) I ((r.drop _).take _) (Nat.le_trans (cutV_length xs lo hi) hz) (q2 hw)
/-! tuple(xs) -/
def rTupF (K : PySem.W.Frag) : List V → Hp → VK → Prop := fun xs H Q => ∃ p ys, xs = [.ref p] ∧ ((SqL K H p ys ∧ NewT ys Q H) ∨ (SqT K H p ys ∧ Q (.ref p) H))
theorem call_tupleF : CallR X (.type "tuple") (rTupF X.K) := by
  intro pins s σ H xs us Q I r h
  obtain ⟨p, ys, rfl, ⟨hq, q⟩ | ⟨hq, q⟩⟩ := h
  · obtain ⟨u, rfl, rx⟩ := vals1 r
    cases rx
    obtain ⟨ws, r', pl, hz⟩ := I.list hq
    have hl := r'.length
    refine call_tuple_list pl.isList (fun h' kp => ?_) (by simp only [List.size_toArray] <;> omega)
    exact newF (s := { s with heap := h' }) (t := s.toks) (I.kept (t' := s.toks) kp) r' hz q
  · exact call_tuple_of pins s σ H _ us Q I r ⟨p, ys, rfl, .inr ⟨hq, q⟩⟩
/-! tuple(range(..)) -/
def tTupRgF (te : L2.St → Hp → (Int → Int → Hp → Prop) → Prop) : TE := fun σ H Q => te σ H fun a b H1 => RgOk a b ∧ NewT (rgV a b) Q H1
theorem pe_tupRgF {e : Expr} {te : L2.St → Hp → (Int → Int → Hp → Prop) → Prop} {p pos : Pos} (hc : X.calm = true) (hg : Gl X "tuple") (hm : X.mg "tuple" = none) (he : PRg X e te)
    (na : starEach [e] X.env = (false, eval e X.env) :: starEach [] X.env := by rfl) : PE X (.Call (.Name "tuple" p) [e] [] pos) (tTupRgF te) := by
  refine ⟨fun pins s σ H Q I h => ?_⟩
  refine Call_ (ld_blt I hg hm boot_tuple (PyProof.Rows.callWith_type1 (args_cons (thn (he pins s σ H _ I h) fun x s1 ⟨r, a, b, t, u, v, H1, ex, hr, I1, ok, q⟩ => args_nil ?_) na) na))
  subst ex
  have ok' := ok
  obtain ⟨b1, b2, b3, b4, b5⟩ := ok'
  refine call_tuple_range (n := (b - a).toNat) (I1.ok.hd hc) hr (small_one b1 b2 b3 b4) (rangeSize_nat a b) b5 fun h' tk acc hk hi => ?_
  have w := newF (s := { s1 with heap := h', toks := tk }) (vs := rgV a b) (us := acc.toList) (t := tk) (I1.kept hk) (vals_rg hi) (by rw [rgV_length, sizeLine_eq]; omega) q
  rw [Array.toArray_toList] at w
  exact w
end
/-! the turns that make pairs -/
theorem new_none {X : Cx} {pins : List (Addr × Obj)} {H : Hp} {h : Heap} {fp : List Addr} {u : HO} (hf : ∀ b ∈ fp, FpOk X pins H b) (ob : ∀ b ∈ fp, ∃ o, h.get? b = some o ∧ ∀ v, o.data ≠ .cell v) : ∀ b ∈ fp, upd H h.objs.size u b = none := fun b hb => by
  obtain ⟨o, e, _⟩ := ob b hb
  rw [upd_ne (Nat.ne_of_lt (Heap.lt_size e))]
  exact (hf b hb).1
/-- a new pair at T -/
def PairF (H : Hp) (v : V) (H' : Hp) (x y : V) : Prop := ∃ (T : Addr) (o : Obj), v = .ref T ∧ H T = none ∧ o.dict = none ∧ H' = upd H T (.frz o (.tup [x, y]))
/-- enumerate of a list -/
def IteF (K : PySem.W.Frag) (a : Addr) : It where
  go := (Ite K a).go
  yld := fun i H v H' => ∃ x, PairF H v H' (.int (i : Nat)) x ∧ ∀ xs, SqL K H a xs → xs[i]? = some x
  stop := (Ite K a).stop
section
variable {P : Program} {w : World} {K : PySem.W.Frag} {elts : List Expr} {kk : Nat} {tpos : Pos}
theorem turn_enumF (a e it : Addr) : Turn P w K (.Tuple elts kk tpos) (IteF K a) [e, it] e (fun i h => (∃ old, IsEnum h e it ((i : Nat) : Int) old) ∧ h.IsListIter it a i ∧ e ≠ it) where
  mem := (turn_enum (P := P) (w := w) (K := K) (elts := elts) (kk := kk) (tpos := tpos) a e it).mem
  obj := (turn_enum (P := P) (w := w) (K := K) (elts := elts) (kk := kk) (tpos := tpos) a e it).obj
  keep := (turn_enum (P := P) (w := w) (K := K) (elts := elts) (kk := kk) (tpos := tpos) a e it).keep
  done := (turn_enum (P := P) (w := w) (K := K) (elts := elts) (kk := kk) (tpos := tpos) a e it).done
  self := (turn_enum (P := P) (w := w) (K := K) (elts := elts) (kk := kk) (tpos := tpos) a e it).self
  item := by
    intro X hP hw hK hc i pins s σ H E I hf st hg
    have ob := (turn_enum (P := P) (w := w) (K := K) (elts := elts) (kk := kk) (tpos := tpos) a e it).obj i s.heap st
    subst hP hw hK
    obtain ⟨⟨old, he⟩, hit, hne⟩ := st
    obtain ⟨xs, x, hq, hx⟩ := hg
    obtain ⟨us, rv, p, hz⟩ := I.list hq
    obtain ⟨u, hu, ru⟩ := rv.get hx
    have hel := Heap.lt_size he
    refine wpAny_pyNext_enum_item he hit p.isList (x := u) (by simpa using hu) hne fun h1 ho hit1 hT hsz hk => ⟨_, rfl, wpAny_letOwnedTupleGo_enum (s := { s with heap := h1, toks := s.toks + 1 }) ho fun h2 he2 sb => ?_⟩
    have J := I.turnedNew (t' := s.toks + 1) (h' := h2) (ch := [e, it]) (T := s.heap.objs.size) (fun b ob hb q => (sb.2 b (fun z => hb (by simp [z]))).trans (hk b ob (fun z => hb (by simp [z])) (fun z => hb (by simp [z])) q)) hf (Nat.le_refl _)
      (okF (vs := [.int (i : Nat), x]) (us := [.int i s.toks, u]) ((sb.2 _ (Nat.ne_of_gt hel)).trans hT) rfl rfl (.cons ⟨_, rfl⟩ (.cons ru .nil)) (by show 2 ≤ sizeLine; decide) _)
    refine ⟨.ref s.heap.objs.size, _, J, rfl, ⟨x, ⟨_, _, rfl, I.hok.fresh (Nat.le_refl _), rfl, rfl⟩, fun ys hy => by rw [I.list_inj hy hq]; exact hx⟩, ⟨⟨u, ?_⟩, hit1.at fun o q => (sb.2 it (Ne.symm hne)).trans q, hne⟩, new_none hf ob⟩
    rw [show ((i + 1 : Nat) : Int) = (i : Int) + 1 by omega]
    exact he2
end
/-- zip of lists, of tuples -/
def ItzF (K : PySem.W.Frag) (a b : Addr) : It where
  go := (Itz K a b).go
  yld := fun i H v H' => ∃ x y, PairF H v H' x y ∧ (∀ xs, SqL K H a xs → xs[i]? = some x) ∧ ∀ ys, SqL K H b ys → ys[i]? = some y
  stop := (Itz K a b).stop
def ItzTF (K : PySem.W.Frag) (a b : Addr) : It where
  go := (RZ.ItzT K a b).go
  yld := fun i H v H' => ∃ x y, PairF H v H' x y ∧ (∀ xs, SqT K H a xs → xs[i]? = some x) ∧ ∀ ys, SqT K H b ys → ys[i]? = some y
  stop := (RZ.ItzT K a b).stop
section
variable {P : Program} {w : World} {K : PySem.W.Frag} {elts : List Expr} {kk : Nat} {tpos : Pos} {a b z TI TO i1 i2 : Addr}
end
/-! zip(a, b) -/
def iZipF (K : PySem.W.Frag) (ta : TA) : TI := fun σ H R => ta σ H fun vs H1 => ∃ a b xs ys, vs = [.ref a, .ref b] ∧ ((SqL K H1 a xs ∧ SqL K H1 b ys ∧ R (ItzF K a b) H1) ∨ (SqT K H1 a xs ∧ SqT K H1 b ys ∧ R (ItzTF K a b) H1))
end Dn
namespace Dn
open PySem PySem.Spec PyProof.Rows L2

/-! data -/
inductive D where
  | non | bl (b : Bool) | int (i : Int) | str (x : Str)
  | tup (l : List D) | lst (l : List D)
  | obj (c : Nat) (d : D)
  | dct (l : List (Key × D))
  | exc (c : Nat) (l : List D)
  | drw
  | scr (ns : List Int)
  | dcn (l : List (NestedKey × D))
  | cel (k : Nat)
  | lcl (k j : Nat)
/-! keys as data -/
mutual
def kD : NestedKey → D
  | .none => .non
  | .num i => .int i
  | .text x => .str x
  | .tup l => .tup (kDs l)
def kDs : List NestedKey → List D
  | [] => []
  | k :: r => kD k :: kDs r
end
/-- the draws' dict, the objects that change -/
abbrev Ad := Option ((Addr × Addr × Addr) × List (List Addr))

abbrev AP := Addr → Prop
/-- the written part and the classes -/
structure Cl where
  K : PySem.W.Frag
  cl : Nat → Addr
  xc : Nat → Addr
  xf : Nat → Option Str
  T : List (Addr × Str)
  w : World

def Ext (A : AP) (H H' : Hp) : Prop := ∀ b o, ¬ A b → (∀ ps, o ≠ .tbl ps) → H b = some o → H' b = some o
abbrev Non : AP := fun _ => False
theorem Ext.refl {A : AP} {H : Hp} : Ext A H H := fun _ _ _ _ h => h
theorem Ext.trans {A : AP} {H H1 H2 : Hp} (a : Ext A H H1) (b : Ext A H1 H2) : Ext A H H2 := fun x o n t h => b x o n t (a x o n t h)
theorem Ext.imp {A B : AP} {H H1 : Hp} (a : Ext A H H1) (h : ∀ b, A b → B b) : Ext B H H1 := fun x o n t q => a x o (fun z => n (h x z)) t q
theorem Ext.new {A : AP} {H : Hp} {p : Addr} {o : HO} (h : H p = none) : Ext A H (upd H p o) := fun a u _ _ e => by
  rw [upd_ne (ne_of_none e h)]
  exact e
/-- no table of code objects, no code object -/
def Fre (H : Hp) (p : Addr) : Prop := ∀ u, H p = some u → (∀ ps, u ≠ .tbl ps) ∧ ∀ c q, u ≠ LamX.CodeO c q
theorem Fre.none {H : Hp} {p : Addr} (h : H p = Option.none) : Fre H p := fun u z => by
  rw [h] at z
  cases z
theorem Fre.of {H : Hp} {p : Addr} {u : HO} (h : H p = some u) (t : ∀ ps, u ≠ .tbl ps) (c : ∀ c q, u ≠ LamX.CodeO c q) : Fre H p := fun v z => by
  rw [h] at z
  cases z
  exact ⟨t, c⟩
theorem Fre.lst {H : Hp} {p : Addr} {vs : List V} (h : H p = some (.lst vs)) : Fre H p := .of h (fun ps z => by cases z) fun c q z => by
  unfold LamX.CodeO at z
  cases z
theorem Fre.dK {H : Hp} {p : Addr} {vs : List (Key × V)} (h : H p = some (.dK vs)) : Fre H p := .of h (fun ps z => by cases z) fun c q z => by
  unfold LamX.CodeO at z
  cases z
theorem Fre.own {H : Hp} {p a : Addr} (h : H p = some (.own a)) : Fre H p := .of h (fun ps z => by cases z) fun c q z => by
  unfold LamX.CodeO at z
  cases z
theorem Fre.ins {H : Hp} {p C d : Addr} {fs : List (Str × V)} (h : H p = some (.ins C d fs)) : Fre H p := .of h (fun ps z => by cases z) fun c q z => by
  unfold LamX.CodeO at z
  cases z
theorem tabS_upd {H : Hp} {p P : Addr} {q : Str} {o : HO} (t : LamX.TabS H P q) (f : Fre H p) : LamX.TabS (upd H p o) P q := by
  obtain ⟨ps, h1, h2, h3⟩ := t
  refine ⟨ps, ?_, h2, fun pos cv hc => ?_⟩
  · rw [upd_ne fun z => (f (.tbl ps) (by rw [← z]; exact h1)).1 ps rfl]
    exact h1
  · obtain ⟨c, e1, e2⟩ := h3 pos cv hc
    refine ⟨c, e1, ?_⟩
    rw [upd_ne fun z => (f (LamX.CodeO c q) (by rw [← z]; exact e2)).2 c q rfl]
    exact e2
theorem tabs_upd {H : Hp} {p : Addr} {T : List (Addr × Str)} {o : HO} (t : LamX.Tabs T H) (f : Fre H p) : LamX.Tabs T (upd H p o) := fun x hx => tabS_upd (t x hx) f
/-- new objects alone -/
structure ExN (H H' : Hp) : Prop where
  k : Ext Non H H'
  t : ∀ P q, LamX.TabS H P q → LamX.TabS H' P q
theorem ExN.tabs {H H' : Hp} {T : List (Addr × Str)} (e : ExN H H') (h : LamX.Tabs T H) : LamX.Tabs T H' := fun p hp => e.t _ _ (h p hp)
theorem ExN.refl {H : Hp} : ExN H H := ⟨.refl, fun _ _ h => h⟩
theorem ExN.trans {H H1 H2 : Hp} (a : ExN H H1) (b : ExN H1 H2) : ExN H H2 := ⟨a.k.trans b.k, fun P q h => b.t P q (a.t P q h)⟩
theorem ExN.new {H : Hp} {p : Addr} {o : HO} (h : H p = none) : ExN H (upd H p o) := ⟨.new h, fun P q t => tabS_upd t (.none h)⟩
theorem Ext.rd {A : AP} {H H' : Hp} {a : Addr} {u : HO} (e : Ext A H H') (n : ¬ A a) (h : Rd H a u) (nt : ∀ ps, u ≠ .tbl ps) : Rd H' a u := by
  rcases h with h | ⟨o, h⟩
  · exact .inl (e a _ n nt h)
  · exact .inr ⟨o, e a _ n (fun ps z => by cases z) h⟩
/-- two addresses apart -/
theorem Rd.some {H : Hp} {a : Addr} {u : HO} (h : Rd H a u) : H a ≠ none := by
  rcases h with h | ⟨o, h⟩ <;> rw [h] <;> exact fun z => nomatch z

def Liv (H : Hp) (b : Addr) : Prop := ∃ o, H b = some o ∧ ∀ ps, o ≠ .tbl ps
theorem Liv.ne {H : Hp} {b : Addr} (h : Liv H b) : H b ≠ none := by
  obtain ⟨o, q, _⟩ := h
  rw [q]
  exact fun z => nomatch z
theorem Liv.ext {A : AP} {H H' : Hp} {b : Addr} (h : Liv H b) (e : Ext A H H') (n : ¬ A b) : Liv H' b := by
  obtain ⟨o, q, t⟩ := h
  exact ⟨o, e b o n t q, t⟩
theorem Liv.nq {H : Hp} {a p : Addr} {o : HO} (n : ¬ Liv H p) (h : H a = some o) (t : ∀ ps, o ≠ .tbl ps) : a ≠ p := fun z => n (z ▸ ⟨o, h, t⟩)
theorem Liv.none {H : Hp} {p : Addr} (h : H p = Option.none) : ¬ Liv H p := fun l => l.ne h
/-- an address that H does not hold may change later -/
theorem Ext.chg {A : AP} {H H' : Hp} {p : Addr} {o : HO} (e : Ext A H H') (h : ¬ Liv H p ∨ A p) : Ext A H (upd H' p o) := fun a u n t q => by
  have ne : a ≠ p := by
    rcases h with h | h
    · exact Liv.nq h q t
    · intro z
      subst z
      exact n h
  rw [upd_ne ne]
  exact e a u n t q
/-- an exception's object that stands -/
def xob (a C : Addr) (dd : Option Addr) : HO := .ext fun h => ∃ (o : Obj) (vs : Array Value), h.get? a = some o ∧ o.cls = .ref C ∧ o.dict = dd ∧ o.data = .fields vs
theorem xob_ntbl {a C : Addr} {dd : Option Addr} (ps : Array Value) : xob a C dd ≠ .tbl ps := fun z => by
  unfold xob at z
  cases z
/-- a dict whose keys are tuples: the keys, where they stand, the values -/
def dN (w : World) (a : Addr) (kvs : List (NestedKey × Addr × V) × Obj) : HO := .ext fun h => h.get? a = some kvs.2 ∧ kvs.1.length ≤ sizeLine ∧ (a == sysModules) = false ∧ (∀ p ∈ kvs.1, p.1.depth ≤ 8) ∧ ∃ xs : List (NestedKey × Addr × Value),
  Paired (fun p q => p.1 = q.1 ∧ p.2.1 = q.2.1 ∧ RelV p.2.2 q.2.2) kvs.1 xs ∧
    ∃ (es : Array DictEntry) (ep : Nat), kvs.2.ExactDict ∧ kvs.2.data = .dict es ep ∧ es.toList = xs.map (fun x => (⟨NestedKey.hash w x.1, .ref x.2.1, x.2.2⟩ : DictEntry)) ∧ (xs.map (·.1)).Nodup
theorem dN_ntbl {w : World} {a : Addr} {kvs : List (NestedKey × Addr × V) × Obj} (ps : Array Value) : dN w a kvs ≠ .tbl ps := fun z => by
  unfold dN at z
  cases z
theorem dN_ncode {w : World} {a c : Addr} {q : Str} {vs : List (NestedKey × Addr × V) × Obj} : dN w a vs ≠ LamX.CodeO c q := fun z => by
  let ob : Obj := { cls := .none, data := .fields #[.none, .str q default] }
  let h1 : Heap := { objs := Array.replicate (a + c + 1) ob }
  have at_ : ∀ b, b < a + c + 1 → h1.get? b = some ob := fun b hb => by
    show (match (Array.replicate (a + c + 1) ob)[b]? with
      | some ⟨_, _, .freed, _⟩ => none
      | o => o) = some ob
    rw [Array.getElem?_replicate, if_pos hb]
  unfold dN LamX.CodeO at z
  have z2 := congrFun (HO.ext.inj z) h1
  obtain ⟨h3, _, _, _, xs, _, es, ep, h4, h5, _⟩ := z2.mpr ⟨ob, _, _, at_ c (Nat.lt_succ_of_le (Nat.le_add_left c a)), rfl, rfl⟩
  rw [at_ a (Nat.lt_succ_of_le (Nat.le_add_right a c))] at h3
  rw [← Option.some.inj h3] at h5
  cases h5
theorem Fre.dN {H : Hp} {p : Addr} {w : World} {a : Addr} {vs : List (NestedKey × Addr × V) × Obj} (h : H p = some (Dn.dN w a vs)) : Fre H p := .of h dN_ntbl fun c q z => dN_ncode z
/-- a tuple, known to its object, which has no dict -/
def TupH (H : Hp) (a : Addr) (vs : List V) : Prop := ∃ o : Obj, o.dict = none ∧ H a = some (.frz o (.tup vs))
theorem TupH.sq {K : PySem.W.Frag} {H : Hp} {a : Addr} {vs : List V} (h : TupH H a vs) : SqT K H a vs := let ⟨o, _, e⟩ := h; .inl (.inr ⟨o, e⟩)
theorem TupH.rd {H : Hp} {a : Addr} {vs : List V} (h : TupH H a vs) : Rd H a (.tup vs) := let ⟨o, _, e⟩ := h; .inr ⟨o, e⟩
theorem TupH.ext {A : AP} {H H' : Hp} {a : Addr} {vs : List V} (h : TupH H a vs) (e : Ext A H H') (n : ¬ A a) : TupH H' a vs := let ⟨o, d, q⟩ := h; ⟨o, d, e _ _ n (fun ps z => by cases z) q⟩
theorem TupH.liv {H : Hp} {a : Addr} {vs : List V} (h : TupH H a vs) : Liv H a := let ⟨o, d, q⟩ := h; ⟨_, q, fun ps z => by cases z⟩
theorem TupH.nq {H : Hp} {a p : Addr} {vs : List V} (n : ¬ Liv H p) (h : TupH H a vs) : a ≠ p := fun z => n (z ▸ h.liv)
theorem TupH.some {H : Hp} {a : Addr} {vs : List V} (h : TupH H a vs) : H a ≠ none := h.liv.ne
theorem TupH.new {H : Hp} {a : Addr} {vs : List V} {o : Obj} (d : o.dict = none) : TupH (upd H a (.frz o (.tup vs))) a vs := ⟨o, d, upd_same⟩
mutual
/-- v is the data d, at addresses that M does not hold -/
inductive Rep (G : Cl) (ma : Ad) (M : AP) (H : Hp) : V → D → Prop
  | non : Rep G ma M H .non .non
  | bl (b : Bool) : Rep G ma M H (.bl b) (.bl b)
  | int (i : Int) : Rep G ma M H (.int i) (.int i)
  | str (x : Str) : Rep G ma M H (.str x) (.str x)
  | tup {a : Addr} {vs : List V} {ds : List D} (h : TupH H a vs) (n : ¬ M a) (r : Reps G ma M H vs ds) : Rep G ma M H (.ref a) (.tup ds)
  | lst {a : Addr} {vs : List V} {ds : List D} (h : H a = some (.lst vs)) (n : ¬ M a) (r : Reps G ma M H vs ds) : Rep G ma M H (.ref a) (.lst ds)
  | obj {a dx : Addr} {c : Nat} {v : V} {d : D} (h : H a = some (SlX.SlO a (G.cl c) dx [some v])) (hx : H dx = some (.xd [])) (n : ¬ M a) (nx : ¬ M dx) (r : Rep G ma M H v d) : Rep G ma M H (.ref a) (.obj c d)
  | dct {a : Addr} {kvs : List (Key × V)} {l : List (Key × D)} (h : H a = some (.dK kvs)) (n : ¬ M a) (e : kvs.map (·.1) = l.map (·.1)) (r : Reps G ma M H (kvs.map (·.2)) (l.map (·.2))) : Rep G ma M H (.ref a) (.dct l)
  | drw {a c g : Addr} {l : List (List Addr)} (h : ma = some ((a, c, g), l)) : Rep G ma M H (.ref a) .drw
  | cel {a : Addr} {b : Addr × Addr × Addr} {r : List Addr} {l : List (List Addr)} {k : Nat} (h : ma = some (b, l)) (hk : l[k]? = some (a :: r)) : Rep G ma M H (.ref a) (.cel k)
  | dcn {a : Addr} {kvs : List (NestedKey × Addr × V) × Obj} {l : List (NestedKey × D)} (h : H a = some (dN G.w a kvs)) (n : ¬ M a) (e : kvs.1.map (·.1) = l.map (·.1)) (rk : Reps G ma M H (kvs.1.map fun p => V.ref p.2.1) (kDs (l.map (·.1)))) (r : Reps G ma M H (kvs.1.map (·.2.2)) (l.map (·.2))) : Rep G ma M H (.ref a) (.dcn l)
  | exc0 {a : Addr} {c : Nat} (h : H a = some (xob a (G.xc c) Option.none)) (n : ¬ M a) (q : G.xf c = Option.none) : Rep G ma M H (.ref a) (.exc c [])
  | exc1 {a dx : Addr} {c : Nat} {f : Str} {v : V} {d : D} (h : H a = some (xob a (G.xc c) (Option.some dx))) (hx : H dx = some (.xd [(f, v)])) (n : ¬ M a) (nx : ¬ M dx) (q : G.xf c = Option.some f) (r : Rep G ma M H v d) : Rep G ma M H (.ref a) (.exc c [d])
  | scrF {a : Addr} {o : Obj} {ns : List Int} (h : H a = some (.frz o (.lst (ns.map V.int)))) (n : ¬ M a) : Rep G ma M H (.ref a) (.scr ns)
  | scrK {a : Addr} {ns : List Int} (h : ∀ H' : Hp, SqL G.K H' a (ns.map V.int)) : Rep G ma M H (.ref a) (.scr ns)
  | lcl {a : Addr} {b : Addr × Addr × Addr} {r : List Addr} {l : List (List Addr)} {k j : Nat} (h : ma = some (b, l)) (hk : l[k]? = some r) (hj : r[j + 2]? = some a) : Rep G ma M H (.ref a) (.lcl k j)
inductive Reps (G : Cl) (ma : Ad) (M : AP) (H : Hp) : List V → List D → Prop
  | nil : Reps G ma M H [] []
  | cons {v : V} {vs : List V} {d : D} {ds : List D} (r : Rep G ma M H v d) (rs : Reps G ma M H vs ds) : Reps G ma M H (v :: vs) (d :: ds)
end
section
variable {G : Cl} {ma : Ad} {M M' A : AP} {H H' : Hp}
theorem slO_ntbl {a C dx : Addr} {vs : List (Option V)} (ps : Array Value) : SlX.SlO a C dx vs ≠ .tbl ps := fun z => by
  unfold SlX.SlO at z
  cases z
mutual
theorem Rep.mono (e : Ext A H H') (hA : ∀ b, A b → M b) (hM : ∀ b, M' b → M b) : ∀ {v : V} {d : D}, Rep G ma M H v d → Rep G ma M' H' v d
  | _, _, .non => .non
  | _, _, .bl b => .bl b
  | _, _, .int i => .int i
  | _, _, .str x => .str x
  | _, _, .tup h n r => .tup (h.ext e fun z => n (hA _ z)) (fun z => n (hM _ z)) (Reps.mono e hA hM r)
  | _, _, .lst h n r => .lst (e _ _ (fun z => n (hA _ z)) (fun ps z => by cases z) h) (fun z => n (hM _ z)) (Reps.mono e hA hM r)
  | _, _, .obj h hx n nx r => .obj (e _ _ (fun z => n (hA _ z)) slO_ntbl h) (e _ _ (fun z => nx (hA _ z)) (fun ps z => by cases z) hx) (fun z => n (hM _ z)) (fun z => nx (hM _ z)) (Rep.mono e hA hM r)
  | _, _, .dct h n e1 r => .dct (e _ _ (fun z => n (hA _ z)) (fun ps z => by cases z) h) (fun z => n (hM _ z)) e1 (Reps.mono e hA hM r)
  | _, _, .drw h => .drw h
  | _, _, .cel h hk => .cel h hk
  | _, _, .lcl h hk hj => .lcl h hk hj
  | _, _, .dcn h n e1 rk r => .dcn (e _ _ (fun z => n (hA _ z)) dN_ntbl h) (fun z => n (hM _ z)) e1 (Reps.mono e hA hM rk) (Reps.mono e hA hM r)
  | _, _, .exc0 h n q => .exc0 (e _ _ (fun z => n (hA _ z)) xob_ntbl h) (fun z => n (hM _ z)) q
  | _, _, .exc1 h hx n nx q r => .exc1 (e _ _ (fun z => n (hA _ z)) xob_ntbl h) (e _ _ (fun z => nx (hA _ z)) (fun ps z => by cases z) hx) (fun z => n (hM _ z)) (fun z => nx (hM _ z)) q (Rep.mono e hA hM r)
  | _, _, .scrF h n => .scrF (e _ _ (fun z => n (hA _ z)) (fun ps z => by cases z) h) (fun z => n (hM _ z))
  | _, _, .scrK h => .scrK h
theorem Reps.mono (e : Ext A H H') (hA : ∀ b, A b → M b) (hM : ∀ b, M' b → M b) : ∀ {vs : List V} {ds : List D}, Reps G ma M H vs ds → Reps G ma M' H' vs ds
  | _, _, .nil => .nil
  | _, _, .cons r rs => .cons (Rep.mono e hA hM r) (Reps.mono e hA hM rs)
end
theorem Rep.ext (e : Ext A H H') (hA : ∀ b, A b → M b) {v : V} {d : D} (r : Rep G ma M H v d) : Rep G ma M H' v d := r.mono e hA fun _ h => h
theorem Reps.ext (e : Ext A H H') (hA : ∀ b, A b → M b) {vs : List V} {ds : List D} (r : Reps G ma M H vs ds) : Reps G ma M H' vs ds := r.mono e hA fun _ h => h
theorem Rep.less (hM : ∀ b, M' b → M b) {v : V} {d : D} (r : Rep G ma M H v d) : Rep G ma M' H v d := r.mono (A := Non) Ext.refl (fun _ h => h.elim) hM
theorem Reps.less (hM : ∀ b, M' b → M b) {vs : List V} {ds : List D} (r : Reps G ma M H vs ds) : Reps G ma M' H vs ds := r.mono (A := Non) Ext.refl (fun _ h => h.elim) hM
mutual
theorem Rep.off {p : Addr} (o : ¬ Liv H p) : ∀ {v : V} {d : D}, Rep G ma M H v d → Rep G ma (fun b => M b ∨ b = p) H v d
  | _, _, .non => .non
  | _, _, .bl b => .bl b
  | _, _, .int i => .int i
  | _, _, .str x => .str x
  | _, _, .tup h n r => .tup h (fun z => z.elim n (TupH.nq o h)) (Reps.off o r)
  | _, _, .lst h n r => .lst h (fun z => z.elim n (Liv.nq o h fun ps z => by cases z)) (Reps.off o r)
  | _, _, .obj h hx n nx r => .obj h hx (fun z => z.elim n (Liv.nq o h slO_ntbl)) (fun z => z.elim nx (Liv.nq o hx fun ps z => by cases z)) (Rep.off o r)
  | _, _, .dct h n e r => .dct h (fun z => z.elim n (Liv.nq o h fun ps z => by cases z)) e (Reps.off o r)
  | _, _, .drw h => .drw h
  | _, _, .cel h hk => .cel h hk
  | _, _, .lcl h hk hj => .lcl h hk hj
  | _, _, .dcn h n e rk r => .dcn h (fun z => z.elim n (Liv.nq o h dN_ntbl)) e (Reps.off o rk) (Reps.off o r)
  | _, _, .exc0 h n q => .exc0 h (fun z => z.elim n (Liv.nq o h xob_ntbl)) q
  | _, _, .exc1 h hx n nx q r => .exc1 h hx (fun z => z.elim n (Liv.nq o h xob_ntbl)) (fun z => z.elim nx (Liv.nq o hx fun ps z => by cases z)) q (Rep.off o r)
  | _, _, .scrF h n => .scrF h (fun z => z.elim n (Liv.nq o h fun ps z => by cases z))
  | _, _, .scrK h => .scrK h
theorem Reps.off {p : Addr} (o : ¬ Liv H p) : ∀ {vs : List V} {ds : List D}, Reps G ma M H vs ds → Reps G ma (fun b => M b ∨ b = p) H vs ds
  | _, _, .nil => .nil
  | _, _, .cons r rs => .cons (Rep.off o r) (Reps.off o rs)
end
mutual
theorem Rep.or {N : AP} (o : ∀ b, N b → M b ∨ ¬ Liv H b) : ∀ {v : V} {d : D}, Rep G ma M H v d → Rep G ma (fun b => M b ∨ N b) H v d
  | _, _, .non => .non
  | _, _, .bl b => .bl b
  | _, _, .int i => .int i
  | _, _, .str x => .str x
  | _, _, .tup h n r => .tup h (fun z => z.elim n fun y => (o _ y).elim n fun w => w h.liv) (Reps.or o r)
  | _, _, .lst h n r => .lst h (fun z => z.elim n fun y => (o _ y).elim n fun w => w ⟨_, h, fun ps z => by cases z⟩) (Reps.or o r)
  | _, _, .obj h hx n nx r => .obj h hx (fun z => z.elim n fun y => (o _ y).elim n fun w => w ⟨_, h, slO_ntbl⟩) (fun z => z.elim nx fun y => (o _ y).elim nx fun w => w ⟨_, hx, fun ps z => by cases z⟩) (Rep.or o r)
  | _, _, .dct h n e r => .dct h (fun z => z.elim n fun y => (o _ y).elim n fun w => w ⟨_, h, fun ps z => by cases z⟩) e (Reps.or o r)
  | _, _, .drw h => .drw h
  | _, _, .cel h hk => .cel h hk
  | _, _, .lcl h hk hj => .lcl h hk hj
  | _, _, .dcn h n e rk r => .dcn h (fun z => z.elim n fun y => (o _ y).elim n fun w => w ⟨_, h, dN_ntbl⟩) e (Reps.or o rk) (Reps.or o r)
  | _, _, .exc0 h n q => .exc0 h (fun z => z.elim n fun y => (o _ y).elim n fun w => w ⟨_, h, xob_ntbl⟩) q
  | _, _, .exc1 h hx n nx q r => .exc1 h hx (fun z => z.elim n fun y => (o _ y).elim n fun w => w ⟨_, h, xob_ntbl⟩) (fun z => z.elim nx fun y => (o _ y).elim nx fun w => w ⟨_, hx, fun ps z => by cases z⟩) q (Rep.or o r)
  | _, _, .scrF h n => .scrF h (fun z => z.elim n fun y => (o _ y).elim n fun w => w ⟨_, h, fun ps z => by cases z⟩)
  | _, _, .scrK h => .scrK h
theorem Reps.or {N : AP} (o : ∀ b, N b → M b ∨ ¬ Liv H b) : ∀ {vs : List V} {ds : List D}, Reps G ma M H vs ds → Reps G ma (fun b => M b ∨ N b) H vs ds
  | _, _, .nil => .nil
  | _, _, .cons r rs => .cons (Rep.or o r) (Reps.or o rs)
end
theorem Reps.length : ∀ {vs : List V} {ds : List D}, Reps G ma M H vs ds → vs.length = ds.length
  | _, _, .nil => rfl
  | _, _, .cons _ rs => congrArg (· + 1) (Reps.length rs)
theorem Reps.get : ∀ {vs : List V} {ds : List D} {i : Nat} {v : V}, Reps G ma M H vs ds → vs[i]? = some v → ∃ d, ds[i]? = some d ∧ Rep G ma M H v d
  | _, _, _, _, .nil, e => by simp at e
  | _, _, 0, _, .cons r _, e => by simp at e; subst e; exact ⟨_, rfl, r⟩
  | _, _, i + 1, x, .cons _ t, e => by
    obtain ⟨u, h1, h2⟩ := Reps.get (i := i) (v := x) t (by simpa using e)
    exact ⟨u, by simpa using h1, h2⟩
theorem Reps.getD : ∀ {vs : List V} {ds : List D} {i : Nat} {d : D}, Reps G ma M H vs ds → ds[i]? = some d → ∃ v, vs[i]? = some v ∧ Rep G ma M H v d
  | _, _, _, _, .nil, e => by simp at e
  | _, _, 0, _, .cons r _, e => by simp at e; subst e; exact ⟨_, rfl, r⟩
  | _, _, i + 1, x, .cons _ t, e => by
    obtain ⟨u, h1, h2⟩ := Reps.getD (i := i) (d := x) t (by simpa using e)
    exact ⟨u, by simpa using h1, h2⟩
theorem Reps.append : ∀ {vs ws : List V} {ds es : List D}, Reps G ma M H vs ds → Reps G ma M H ws es → Reps G ma M H (vs ++ ws) (ds ++ es)
  | _, _, _, _, .nil, s => s
  | _, _, _, _, .cons r t, s => .cons r (Reps.append t s)
theorem Reps.one {v : V} {d : D} (r : Rep G ma M H v d) : Reps G ma M H [v] [d] := .cons r .nil
theorem Reps.take : ∀ {vs : List V} {ds : List D} (n : Nat), Reps G ma M H vs ds → Reps G ma M H (vs.take n) (ds.take n)
  | _, _, 0, _ => .nil
  | _, _, _ + 1, .nil => .nil
  | _, _, n + 1, .cons r t => .cons r (Reps.take n t)
theorem Reps.drop : ∀ {vs : List V} {ds : List D} (n : Nat), Reps G ma M H vs ds → Reps G ma M H (vs.drop n) (ds.drop n)
  | _, _, 0, r => r
  | _, _, _ + 1, .nil => .nil
  | _, _, n + 1, .cons _ t => Reps.drop n t
theorem Reps.set {v : V} {d : D} (r : Rep G ma M H v d) : ∀ {vs : List V} {ds : List D} (i : Nat), Reps G ma M H vs ds → Reps G ma M H (vs.set i v) (ds.set i d)
  | _, _, _, .nil => .nil
  | _, _, 0, .cons _ t => .cons r t
  | _, _, i + 1, .cons q t => .cons q (Reps.set r i t)
theorem Reps.rev {vs : List V} {ds : List D} (h : Reps G ma M H vs ds) : Reps G ma M H vs.reverse ds.reverse := by
  induction vs generalizing ds with
  | nil =>
    cases h
    exact .nil
  | cons v vs ih =>
    cases h with
    | cons r rs =>
      rw [List.reverse_cons, List.reverse_cons]
      exact (ih rs).append (.one r)
theorem reps_ints : ∀ ns : List Int, Reps G ma M H (ns.map V.int) (ns.map D.int)
  | [] => .nil
  | n :: r => .cons (.int n) (reps_ints r)
end

/-- any world -/
def w00 : World := ⟨fun _ _ => 0, { strHash := fun _ => 0, shareClass := fun a => a, mergeTok := fun t => t, idOf := fun _ => 0, idOfShared := fun _ _ => 0, followText := fun _ => false, idOfImm := fun _ => 0 }⟩
/-! the state of the draws, the objects that change -/
inductive Fd where
  | v (d : D)
  | mn (p : Addr) (l : List (NestedKey × D))
/-- an object that changes: where it stands, its dict, its class, its fields -/
structure Cel where
  a : Addr
  dx : Addr
  c : Nat
  fs : List (Str × Fd)
  ls : List (Addr × List D)
def Fd.ads : Fd → List Addr
  | .v _ => []
  | .mn p _ => [p]
def Cel.ads (c : Cel) : List Addr := c.a :: c.dx :: (c.ls.map (·.1) ++ c.fs.flatMap fun f => f.2.ads)
structure MS where
  am : Addr
  ac : Addr
  ag : Addr
  cells : List Int
  great : List Int
  spot : Nat
  cs : List Cel := []
abbrev Mo := Option MS
def MS.ads (r : MS) : List Addr := r.cs.flatMap Cel.ads
def Mo.ad : Mo → Ad
  | none => none
  | some r => some ((r.am, r.ac, r.ag), r.cs.map Cel.ads)
def Mo.has : Mo → AP
  | none => Non
  | some r => fun b => b = r.am ∨ b = r.ac ∨ b = r.ag ∨ b ∈ r.ads
def MRec (H : Hp) (r : MS) : Prop :=
  H r.am = some (.dK [(Sum.inr "cells", V.ref r.ac), (Sum.inr "great", V.ref r.ag), (Sum.inr "spot", V.int r.spot)]) ∧ H r.ac = some (.lst (r.cells.map V.int)) ∧ H r.ag = some (.lst (r.great.map V.int)) ∧ r.ac ≠ r.ag ∧
    r.cells.length = 64 ∧ (∀ c ∈ r.cells, 0 ≤ c ∧ c < 2147483647) ∧ r.great.length ≤ 63
def FdR (G : Cl) (ad : Ad) (M : AP) (H : Hp) (v : V) : Fd → Prop
  | .v d => Rep G ad M H v d
  | .mn p l => v = .ref p ∧ ∃ kvs : List (NestedKey × Addr × V) × Obj, H p = some (dN G.w p kvs) ∧ kvs.1.map (·.1) = l.map (·.1) ∧ Reps G ad M H (kvs.1.map fun p => V.ref p.2.1) (kDs (l.map (·.1))) ∧ Reps G ad M H (kvs.1.map (·.2.2)) (l.map (·.2))
abbrev FsR (G : Cl) (ad : Ad) (M : AP) (H : Hp) : List (Str × V) → List (Str × Fd) → Prop := Paired fun p q => p.1 = q.1 ∧ FdR G ad M H p.2 q.2
/-- the lists that are held beside an object -/
def LsR (G : Cl) (ad : Ad) (M : AP) (H : Hp) (ls : List (Addr × List D)) : Prop := ∀ p ∈ ls, ∃ vs, H p.1 = some (.lst vs) ∧ Reps G ad M H vs p.2
structure CRec (G : Cl) (ad : Ad) (M : AP) (H : Hp) (c : Cel) : Prop where
  at_ : ∃ vs : List (Str × V), H c.a = some (.ins (G.cl c.c) c.dx vs) ∧ FsR G ad M H vs c.fs
  own : H c.dx = some (.own c.a)
  len : c.fs.length ≤ 900
  lr : LsR G ad M H c.ls
structure CsR (G : Cl) (M : AP) (H : Hp) (r : MS) : Prop where
  c : ∀ c ∈ r.cs, CRec G (Mo.ad (some r)) M H c
  nd : r.ads.Nodup
  ap : ∀ b ∈ r.ads, b ≠ r.am ∧ b ≠ r.ac ∧ b ≠ r.ag
def MRep (G : Cl) (M : AP) (H : Hp) : Mo → Prop
  | none => True
  | some r => MRec H r ∧ CsR G M H r
section
variable {G : Cl} {ad : Ad} {M M' A : AP} {H H' : Hp}
theorem FdR.live {v : V} {f : Fd} (h : FdR G ad M H v f) : ∀ b ∈ f.ads, ∃ o, H b = some o ∧ ∀ ps, o ≠ .tbl ps := fun b hb => by
  cases f with
  | v d => cases hb
  | mn p l =>
    obtain ⟨_, kvs, h1, _⟩ := h
    cases List.mem_singleton.mp hb
    exact ⟨_, h1, dN_ntbl⟩
theorem FsR.live : ∀ {vs : List (Str × V)} {fs : List (Str × Fd)}, FsR G ad M H vs fs → ∀ b ∈ fs.flatMap (fun f => f.2.ads), ∃ o, H b = some o ∧ ∀ ps, o ≠ .tbl ps
  | _, _, .nil, b, hb => by cases hb
  | _, _, .cons r t, b, hb => by
    rw [List.flatMap_cons, List.mem_append] at hb
    exact hb.elim (r.2.live b) (FsR.live t b)
theorem CRec.live {c : Cel} (h : CRec G ad M H c) : ∀ b ∈ c.ads, ∃ o, H b = some o ∧ ∀ ps, o ≠ .tbl ps := fun b hb => by
  obtain ⟨vs, h1, h2⟩ := h.at_
  rcases List.mem_cons.mp hb with rfl | hb
  · exact ⟨_, h1, fun ps z => by cases z⟩
  · rcases List.mem_cons.mp hb with rfl | hb
    · exact ⟨_, h.own, fun ps z => by cases z⟩
    · rcases List.mem_append.mp hb with hb | hb
      · obtain ⟨p, hp, rfl⟩ := List.mem_map.mp hb
        obtain ⟨us, h3, _⟩ := h.lr p hp
        exact ⟨_, h3, fun ps z => by cases z⟩
      · exact h2.live b hb
theorem FdR.mono {v : V} {f : Fd} (h : FdR G ad M H v f) (e : Ext A H H') (hA : ∀ b, A b → M b) (hM : ∀ b, M' b → M b) (hn : ∀ b ∈ f.ads, ¬ A b) : FdR G ad M' H' v f := by
  cases f with
  | v d => exact Rep.mono e hA hM h
  | mn p l =>
    obtain ⟨h0, kvs, h1, h2, h3, h4⟩ := h
    exact ⟨h0, kvs, e _ _ (hn p (List.mem_singleton.mpr rfl)) dN_ntbl h1, h2, h3.mono e hA hM, h4.mono e hA hM⟩
theorem FsR.mono (e : Ext A H H') (hA : ∀ b, A b → M b) (hM : ∀ b, M' b → M b) : ∀ {vs : List (Str × V)} {fs : List (Str × Fd)}, FsR G ad M H vs fs → (∀ b ∈ fs.flatMap (fun f => f.2.ads), ¬ A b) → FsR G ad M' H' vs fs
  | _, _, .nil, _ => .nil
  | _, _, .cons r t, hn => .cons ⟨r.1, r.2.mono e hA hM fun b hb => hn b (by rw [List.flatMap_cons, List.mem_append]; exact .inl hb)⟩ (FsR.mono e hA hM t fun b hb => hn b (by rw [List.flatMap_cons, List.mem_append]; exact .inr hb))
theorem LsR.mono {ls : List (Addr × List D)} (h : LsR G ad M H ls) (e : Ext A H H') (hA : ∀ b, A b → M b) (hM : ∀ b, M' b → M b) (hn : ∀ b ∈ ls.map (·.1), ¬ A b) : LsR G ad M' H' ls := fun p hp => by
  obtain ⟨vs, h1, h2⟩ := h p hp
  exact ⟨vs, e _ _ (hn _ (List.mem_map.mpr ⟨p, hp, rfl⟩)) (fun ps z => by cases z) h1, h2.mono e hA hM⟩
theorem LsR.nil : LsR G ad M H [] := fun p hp => by cases hp
theorem CRec.mono {c : Cel} (h : CRec G ad M H c) (e : Ext A H H') (hA : ∀ b, A b → M b) (hM : ∀ b, M' b → M b) (hn : ∀ b ∈ c.ads, ¬ A b) : CRec G ad M' H' c := by
  obtain ⟨vs, h1, h2⟩ := h.at_
  refine ⟨⟨vs, e _ _ (hn _ (by unfold Cel.ads; simp)) (fun ps z => by cases z) h1, h2.mono e hA hM fun b hb => hn b (by unfold Cel.ads; simp only [List.mem_cons, List.mem_append]; exact .inr (.inr (.inr hb)))⟩, e _ _ (hn _ (by unfold Cel.ads; simp)) (fun ps z => by cases z) h.own, h.len, h.lr.mono e hA hM fun b hb => hn b (by unfold Cel.ads; simp only [List.mem_cons, List.mem_append]; exact .inr (.inr (.inl hb)))⟩
theorem FdR.off {v : V} {f : Fd} {p : Addr} (o : ¬ Liv H p) (h : FdR G ad M H v f) : FdR G ad (fun b => M b ∨ b = p) H v f := by
  cases f with
  | v d => exact Rep.off o h
  | mn q l =>
    obtain ⟨h0, kvs, h1, h2, h3, h4⟩ := h
    exact ⟨h0, kvs, h1, h2, h3.off o, h4.off o⟩
theorem FsR.off {p : Addr} (o : ¬ Liv H p) : ∀ {vs : List (Str × V)} {fs : List (Str × Fd)}, FsR G ad M H vs fs → FsR G ad (fun b => M b ∨ b = p) H vs fs
  | _, _, .nil => .nil
  | _, _, .cons r t => .cons ⟨r.1, r.2.off o⟩ (FsR.off o t)
theorem FdR.or {N : AP} {v : V} {f : Fd} (o : ∀ b, N b → M b ∨ ¬ Liv H b) (h : FdR G ad M H v f) : FdR G ad (fun b => M b ∨ N b) H v f := by
  cases f with
  | v d => exact Rep.or o h
  | mn q l =>
    obtain ⟨h0, kvs, h1, h2, h3, h4⟩ := h
    exact ⟨h0, kvs, h1, h2, h3.or o, h4.or o⟩
theorem FsR.or {N : AP} (o : ∀ b, N b → M b ∨ ¬ Liv H b) : ∀ {vs : List (Str × V)} {fs : List (Str × Fd)}, FsR G ad M H vs fs → FsR G ad (fun b => M b ∨ N b) H vs fs
  | _, _, .nil => .nil
  | _, _, .cons r t => .cons ⟨r.1, r.2.or o⟩ (FsR.or o t)
theorem LsR.off {ls : List (Addr × List D)} {p : Addr} (o : ¬ Liv H p) (h : LsR G ad M H ls) : LsR G ad (fun b => M b ∨ b = p) H ls := fun q hq => by
  obtain ⟨vs, h1, h2⟩ := h q hq
  exact ⟨vs, h1, h2.off o⟩
theorem LsR.or {ls : List (Addr × List D)} {N : AP} (o : ∀ b, N b → M b ∨ ¬ Liv H b) (h : LsR G ad M H ls) : LsR G ad (fun b => M b ∨ N b) H ls := fun q hq => by
  obtain ⟨vs, h1, h2⟩ := h q hq
  exact ⟨vs, h1, h2.or o⟩
end
section
variable {G : Cl} {M M' A : AP} {H H' : Hp} {m : Mo}
theorem mem_ads {r : MS} {c : Cel} (hc : c ∈ r.cs) {b : Addr} (hb : b ∈ c.ads) : b ∈ r.ads := List.mem_flatMap.mpr ⟨c, hc, hb⟩
theorem CsR.mono {r : MS} (h : CsR G M H r) (e : Ext A H H') (hA : ∀ b, A b → M b) (hM : ∀ b, M' b → M b) (hn : ∀ b ∈ r.ads, ¬ A b) : CsR G M' H' r :=
  ⟨fun c hc => (h.c c hc).mono e hA hM fun b hb => hn b (mem_ads hc hb), h.nd, h.ap⟩
theorem MRep.has : ∀ {m : Mo}, MRep G M H m → ∀ b, m.has b → ∃ o, H b = some o ∧ ∀ ps, o ≠ .tbl ps
  | none, _, _, h => h.elim
  | some r, ⟨⟨h1, h2, h3, _⟩, hc⟩, b, h => by
    rcases h with h | h | h | h
    · exact ⟨_, by rw [h]; exact h1, fun ps z => by cases z⟩
    · exact ⟨_, by rw [h]; exact h2, fun ps z => by cases z⟩
    · exact ⟨_, by rw [h]; exact h3, fun ps z => by cases z⟩
    · obtain ⟨c, h4, h5⟩ := List.mem_flatMap.mp h
      exact (hc.c c h4).live b h5
/-- the heap changes elsewhere -/
theorem MRep.mono (r : MRep G M H m) (e : Ext A H H') (hA : ∀ b, A b → M b) (hM : ∀ b, M' b → M b) (hn : ∀ b, m.has b → ¬ A b) : MRep G M' H' m := by
  cases m with
  | none => exact True.intro
  | some q =>
    obtain ⟨⟨h1, h2, h3, h4⟩, hc⟩ := r
    exact ⟨⟨e _ _ (hn _ (.inl rfl)) (fun ps z => by cases z) h1, e _ _ (hn _ (.inr (.inl rfl))) (fun ps z => by cases z) h2, e _ _ (hn _ (.inr (.inr (.inl rfl)))) (fun ps z => by cases z) h3, h4⟩,
      hc.mono e hA hM fun b hb => hn b (.inr (.inr (.inr hb)))⟩
theorem MRep.ext (r : MRep G M H m) (e : Ext Non H H') : MRep G M H' m := r.mono e (fun _ z => z.elim) (fun _ h => h) fun _ _ z => z
theorem MRep.less (r : MRep G M H m) (hM : ∀ b, M' b → M b) : MRep G M' H m := r.mono (A := Non) Ext.refl (fun _ z => z.elim) hM fun _ _ z => z
theorem MRep.off {p : Addr} (r : MRep G M H m) (o : ¬ Liv H p) : MRep G (fun b => M b ∨ b = p) H m := by
  cases m with
  | none => exact True.intro
  | some q =>
    obtain ⟨h1, hc⟩ := r
    exact ⟨h1, fun c hc' => ⟨let ⟨vs, a, b⟩ := (hc.c c hc').at_; ⟨vs, a, b.off o⟩, (hc.c c hc').own, (hc.c c hc').len, (hc.c c hc').lr.off o⟩, hc.nd, hc.ap⟩
theorem MRep.or {N : AP} (r : MRep G M H m) (o : ∀ b, N b → M b ∨ ¬ Liv H b) : MRep G (fun b => M b ∨ N b) H m := by
  cases m with
  | none => exact True.intro
  | some q =>
    obtain ⟨h1, hc⟩ := r
    exact ⟨h1, fun c hc' => ⟨let ⟨vs, a, b⟩ := (hc.c c hc').at_; ⟨vs, a, b.or o⟩, (hc.c c hc').own, (hc.c c hc').len, (hc.c c hc').lr.or o⟩, hc.nd, hc.ap⟩
end

/-! the frame -/
inductive Sv where
  | v (d : D)
  | ml (ds : List D)
  | mk (l : List (Key × D))
  | mn (l : List (NestedKey × D))
abbrev Ro := List (Option Sv)
def Sv.mu : Sv → Bool
  | .v _ => false
  | _ => true
def isM (ρ : Ro) (i : Nat) : Prop := ∃ s, ρ[i]? = some (some s) ∧ s.mu = true
/-- what stays in a def: the heap at its entry, what others may change, the draws' addresses -/
structure Bx where
  H0 : Hp
  X : AP
  ad : Ad
  A : AP
  T : List (Addr × Str)
structure EnvR (G : Cl) (B : Bx) (M : AP) (pm : Nat → Addr) (ρ : Ro) (m : Mo) (σ : L2.St) (H : Hp) : Prop where
  em : ∀ b, (B.A b ∨ B.X b ∨ ∃ i, isM ρ i ∧ pm i = b) → M b
  hl : ∀ b, M b → Liv H b
  ea : m.ad = B.ad
  eh : m.has = B.A
  len : σ.length = ρ.length
  sv : ∀ (i : Nat) (d : D), ρ[i]? = some (some (Sv.v d)) → ∃ v, σ[i]? = some (some v) ∧ Rep G B.ad M H v d
  sl : ∀ (i : Nat) (ds : List D), ρ[i]? = some (some (Sv.ml ds)) → ∃ vs, σ[i]? = some (some (V.ref (pm i))) ∧ H (pm i) = some (.lst vs) ∧ Reps G B.ad M H vs ds
  sk : ∀ (i : Nat) (l : List (Key × D)), ρ[i]? = some (some (Sv.mk l)) → ∃ kvs : List (Key × V), σ[i]? = some (some (V.ref (pm i))) ∧ H (pm i) = some (.dK kvs) ∧ kvs.map (·.1) = l.map (·.1) ∧ Reps G B.ad M H (kvs.map (·.2)) (l.map (·.2))
  sn : ∀ (i : Nat) (l : List (NestedKey × D)), ρ[i]? = some (some (Sv.mn l)) → ∃ kvs : List (NestedKey × Addr × V) × Obj, σ[i]? = some (some (V.ref (pm i))) ∧ H (pm i) = some (dN G.w (pm i) kvs) ∧ kvs.1.map (·.1) = l.map (·.1) ∧ Reps G B.ad M H (kvs.1.map fun p => V.ref p.2.1) (kDs (l.map (·.1))) ∧ Reps G B.ad M H (kvs.1.map (·.2.2)) (l.map (·.2))
  inj : ∀ i j : Nat, isM ρ i → isM ρ j → pm i = pm j → i = j
  fr : ∀ i : Nat, isM ρ i → ¬ Liv B.H0 (pm i) ∧ ¬ B.X (pm i)
  xs : ∀ b, B.X b → Liv H b
  mr : MRep G M H m
  mx : ∀ b, B.A b → ¬ B.X b
  mta : ∀ i : Nat, isM ρ i → ¬ B.A (pm i)
  ext : Ext B.A B.H0 H
  tb : LamX.Tabs B.T H
  tt : B.T = G.T

/-! what comes of an expression -/
inductive R (α : Type) where
  | bad
  | ok (a : α) (m : Mo)
  | exc (c : Nat) (l : List D) (m : Mo)
def R.bind {α β : Type} (r : R α) (f : α → Mo → R β) : R β := match r with
  | .bad => .bad
  | .ok a m => f a m
  | .exc c l m => .exc c l m
def R.of {α : Type} (o : Option α) (m : Mo) : R α := match o with
  | some a => .ok a m
  | none => .bad
structure Go (G : Cl) (B : Bx) (M : AP) (m' : Mo) (H H' : Hp) : Prop where
  x : Ext B.A H H'
  ea : m'.ad = B.ad
  eh : m'.has = B.A
  mr : MRep G M H' m'
  tb : LamX.Tabs B.T H'
theorem Go.trans {G : Cl} {B : Bx} {M : AP} {m1 m2 : Mo} {H H1 H2 : Hp} (a : Go G B M m1 H H1) (b : Go G B M m2 H1 H2) : Go G B M m2 H H2 := ⟨a.x.trans b.x, b.ea, b.eh, b.mr, b.tb⟩
theorem Go.less {G : Cl} {B : Bx} {M M' : AP} {m' : Mo} {H H' : Hp} (a : Go G B M m' H H') (hM : ∀ b, M' b → M b) : Go G B M' m' H H' := ⟨a.x, a.ea, a.eh, a.mr.less hM, a.tb⟩
theorem EnvR.here {G : Cl} {B : Bx} {M : AP} {pm : Nat → Addr} {ρ : Ro} {m : Mo} {σ : L2.St} {H : Hp} (e : EnvR G B M pm ρ m σ H) : Go G B M m H H := ⟨.refl, e.ea, e.eh, e.mr, e.tb⟩
theorem EnvR.same {G : Cl} {B : Bx} {M : AP} {pm : Nat → Addr} {ρ : Ro} {m : Mo} {σ : L2.St} {H H' : Hp} (e : EnvR G B M pm ρ m σ H) (x : ExN H H') : Go G B M m H H' := ⟨x.k.imp fun _ z => z.elim, e.ea, e.eh, e.mr.ext x.k, x.tabs e.tb⟩
section
variable {G : Cl} {B : Bx} {M : AP} {pm : Nat → Addr} {ρ : Ro} {m m' : Mo} {σ : L2.St} {H H' : Hp}
theorem EnvR.hm (e : EnvR G B M pm ρ m σ H) : ∀ b, M b → H b ≠ none := fun b h => (e.hl b h).ne
theorem EnvR.mut (e : EnvR G B M pm ρ m σ H) : ∀ i, isM ρ i → ¬ B.A (pm i) := e.mta
theorem EnvR.aM (e : EnvR G B M pm ρ m σ H) : ∀ b, B.A b → M b := fun b h => e.em b (.inl h)
/-- the frame behind an expression -/
theorem EnvR.go (e : EnvR G B M pm ρ m σ H) (g : Go G B M m' H H') : EnvR G B M pm ρ m' σ H' := by
  have x := g.x
  refine ⟨e.em, fun b hb => ?_, g.ea, g.eh, e.len, fun i d hd => ?_, fun i ds hd => ?_, fun i l hd => ?_, fun i l hd => ?_, e.inj, e.fr, fun b hb => (e.xs b hb).ext x fun z => e.mx b z hb, g.mr, e.mx, e.mta, e.ext.trans x, g.tb, e.tt⟩
  · by_cases hA : B.A b
    · exact g.mr.has b (by rw [g.eh]; exact hA)
    · exact (e.hl b hb).ext x hA
  · obtain ⟨v, h1, h2⟩ := e.sv i d hd
    exact ⟨v, h1, h2.ext x e.aM⟩
  · obtain ⟨vs, h1, h2, h3⟩ := e.sl i ds hd
    exact ⟨vs, h1, x _ _ (e.mut i ⟨_, hd, rfl⟩) (fun ps z => by cases z) h2, h3.ext x e.aM⟩
  · obtain ⟨vs, h1, h2, h3, h4⟩ := e.sk i l hd
    exact ⟨vs, h1, x _ _ (e.mut i ⟨_, hd, rfl⟩) (fun ps z => by cases z) h2, h3, h4.ext x e.aM⟩
  · obtain ⟨vs, h1, h2, h3, h4, h5⟩ := e.sn i l hd
    exact ⟨vs, h1, x _ _ (e.mut i ⟨_, hd, rfl⟩) dN_ntbl h2, h3, h4.ext x e.aM, h5.ext x e.aM⟩
end
/-- an exception's class and fields -/
def XRep (G : Cl) (ad : Ad) (M : AP) (H : Hp) (c : Nat) (l : List D) (cls : Value) (dd : Option Addr) : Prop :=
  cls = .ref (G.xc c) ∧ match G.xf c, l with
    | none, [] => dd = none
    | some f, [d] => ∃ a v, dd = some a ∧ H a = some (.xd [(f, v)]) ∧ ¬ M a ∧ Rep G ad M H v d
    | _, _ => False
theorem XRep.ext {G : Cl} {ad : Ad} {M A : AP} {H H' : Hp} {c : Nat} {l : List D} {cls : Value} {dd : Option Addr} (h : XRep G ad M H c l cls dd) (e : Ext A H H') (hA : ∀ b, A b → M b) : XRep G ad M H' c l cls dd := by
  obtain ⟨h1, h2⟩ := h
  refine ⟨h1, ?_⟩
  cases q : G.xf c with
  | none =>
    rw [q] at h2
    cases l with
    | nil => exact h2
    | cons a r => exact h2.elim
  | some f =>
    rw [q] at h2
    cases l with
    | nil => exact h2.elim
    | cons d r =>
      cases r with
      | cons _ _ => exact h2.elim
      | nil =>
        obtain ⟨a, v, e1, e2, e3, e4⟩ := h2
        exact ⟨a, v, e1, e _ _ (fun z => e3 (hA _ z)) (fun ps z => by cases z) e2, e3, e4.ext e hA⟩
def Post (G : Cl) (E : XK) (B : Bx) (M : AP) (H : Hp) {α β : Type} (rel : Hp → β → α → Prop) (r : R α) (Q : β → Hp → Prop) : Prop := match r with
  | .bad => False
  | .ok a m' => ∀ b H', Go G B M m' H H' → rel H' b a → Q b H'
  | .exc c l m' => ∀ cls dd H', Go G B M m' H H' → XRep G B.ad M H' c l cls dd → E cls dd H'
section
variable {G : Cl} {E : XK} {B : Bx} {M : AP} {H H1 : Hp} {α β α' β' : Type} {rel : Hp → β → α → Prop} {rel' : Hp → β' → α' → Prop} {m1 : Mo}
theorem Post.later {r : R α} {Q : β → Hp → Prop} (h : Post G E B M H rel r Q) (g : Go G B M m1 H H1) : Post G E B M H1 rel r Q := by
  cases r with
  | bad => exact h
  | ok a m' => exact fun b H' g' hr => h b H' (g.trans g') hr
  | exc c l m' => exact fun cls dd H' g' hx => h cls dd H' (g.trans g') hx
theorem Post.bind {r : R α} {k : α → Mo → R α'} {Q : β' → Hp → Prop} (h : Post G E B M H rel' (r.bind k) Q) :
    Post G E B M H rel r (fun b H1 => ∃ a m1, Go G B M m1 H H1 ∧ rel H1 b a ∧ Post G E B M H1 rel' (k a m1) Q) := by
  cases r with
  | bad => exact h
  | ok a m1 => exact fun b H' g hr => ⟨a, m1, g, hr, Post.later (show Post G E B M H rel' (k a m1) Q from h) g⟩
  | exc c l m' => exact h
end

theorem Post.weak {G : Cl} {E : XK} {B : Bx} {M : AP} {H : Hp} {α β : Type} {rel rel' : Hp → β → α → Prop} {r : R α} {Q : β → Hp → Prop} (h : Post G E B M H rel' r Q) (w : ∀ H' b a, rel H' b a → rel' H' b a) : Post G E B M H rel r Q := by
  cases r with
  | bad => exact h
  | ok a m' => exact fun b H' g hr => h b H' g (w _ _ _ hr)
  | exc c l m' => exact h
/-- the same, the relation knows the state -/
def PostM (G : Cl) (E : XK) (B : Bx) (M : AP) (H : Hp) {α β : Type} (rel : Mo → Hp → β → α → Prop) (r : R α) (Q : β → Hp → Prop) : Prop := match r with
  | .bad => False
  | .ok a m' => ∀ b H', Go G B M m' H H' → rel m' H' b a → Q b H'
  | .exc c l m' => ∀ cls dd H', Go G B M m' H H' → XRep G B.ad M H' c l cls dd → E cls dd H'
section
variable {G : Cl} {E : XK} {B : Bx} {M : AP} {H H1 : Hp} {α β α' β' : Type} {rel : Hp → β → α → Prop} {relM : Mo → Hp → β → α → Prop} {rel' : Mo → Hp → β' → α' → Prop} {m1 : Mo}
theorem PostM.later {r : R α} {Q : β → Hp → Prop} (h : PostM G E B M H relM r Q) (g : Go G B M m1 H H1) : PostM G E B M H1 relM r Q := by
  cases r with
  | bad => exact h
  | ok a m' => exact fun b H' g' hr => h b H' (g.trans g') hr
  | exc c l m' => exact fun cls dd H' g' hx => h cls dd H' (g.trans g') hx
theorem PostM.bind {r : R α} {k : α → Mo → R α'} {Q : β' → Hp → Prop} (h : PostM G E B M H rel' (r.bind k) Q) :
    Post G E B M H rel r (fun b H1 => ∃ a m1, Go G B M m1 H H1 ∧ rel H1 b a ∧ PostM G E B M H1 rel' (k a m1) Q) := by
  cases r with
  | bad => exact h
  | ok a m1 => exact fun b H' g hr => ⟨a, m1, g, hr, PostM.later (show PostM G E B M H rel' (k a m1) Q from h) g⟩
  | exc c l m' => exact h
theorem PostM.bindM {r : R α} {k : α → Mo → R α'} {Q : β' → Hp → Prop} (h : PostM G E B M H rel' (r.bind k) Q) :
    PostM G E B M H relM r (fun b H1 => ∃ a m1, Go G B M m1 H H1 ∧ relM m1 H1 b a ∧ PostM G E B M H1 rel' (k a m1) Q) := by
  cases r with
  | bad => exact h
  | ok a m1 => exact fun b H' g hr => ⟨a, m1, g, hr, PostM.later (show PostM G E B M H rel' (k a m1) Q from h) g⟩
  | exc c l m' => exact h
theorem PostM.imp' {r : R α} {Q Q' : β → Hp → Prop} (h : PostM G E B M H relM r Q) (w : ∀ b H', Q b H' → Q' b H') : PostM G E B M H relM r Q' := by
  cases r with
  | bad => exact h
  | ok a m' => exact fun b H' g hr => w _ _ (h b H' g hr)
  | exc c l m' => exact h
theorem Post.bindM {rel2 : Hp → β' → α' → Prop} {r : R α} {k : α → Mo → R α'} {Q : β' → Hp → Prop} (h : Post G E B M H rel2 (r.bind k) Q) :
    PostM G E B M H relM r (fun b H1 => ∃ a m1, Go G B M m1 H H1 ∧ relM m1 H1 b a ∧ Post G E B M H1 rel2 (k a m1) Q) := by
  cases r with
  | bad => exact h
  | ok a m1 => exact fun b H' g hr => ⟨a, m1, g, hr, Post.later (show Post G E B M H rel2 (k a m1) Q from h) g⟩
  | exc c l m' => exact h
end
/-! a value that is read: its own address may be one that is changed later -/
inductive RepT (G : Cl) (ad : Ad) (A M : AP) (H : Hp) : V → D → Prop
  | r {v : V} {d : D} (h : Rep G ad M H v d) : RepT G ad A M H v d
  | ml {a : Addr} {vs : List V} {ds : List D} (n : ¬ A a) (h : H a = some (.lst vs)) (r : Reps G ad M H vs ds) : RepT G ad A M H (.ref a) (.lst ds)
  | mk {a : Addr} {kvs : List (Key × V)} {l : List (Key × D)} (n : ¬ A a) (h : H a = some (.dK kvs)) (e : kvs.map (·.1) = l.map (·.1)) (r : Reps G ad M H (kvs.map (·.2)) (l.map (·.2))) : RepT G ad A M H (.ref a) (.dct l)
  | mn {a : Addr} {kvs : List (NestedKey × Addr × V) × Obj} {l : List (NestedKey × D)} (h : H a = some (dN G.w a kvs)) (e : kvs.1.map (·.1) = l.map (·.1)) (rk : Reps G ad M H (kvs.1.map fun p => V.ref p.2.1) (kDs (l.map (·.1)))) (r : Reps G ad M H (kvs.1.map (·.2.2)) (l.map (·.2))) (n : ¬ A a) : RepT G ad A M H (.ref a) (.dcn l)
theorem RepT.ext {G : Cl} {ad : Ad} {A M : AP} {H H' : Hp} {v : V} {d : D} (h : RepT G ad A M H v d) (e : Ext A H H') (hA : ∀ b, A b → M b) : RepT G ad A M H' v d := by
  cases h with
  | r h => exact .r (h.ext e hA)
  | ml n h r => exact .ml n (e _ _ n (fun ps z => by cases z) h) (r.ext e hA)
  | mk n h e1 r => exact .mk n (e _ _ n (fun ps z => by cases z) h) e1 (r.ext e hA)
  | mn h e1 rk r n => exact .mn (e _ _ n dN_ntbl h) e1 (rk.ext e hA) (r.ext e hA) n
abbrev DE := Ro → Mo → R D
abbrev DT := Ro → Mo → R Bool
abbrev DA := Ro → Mo → R (List D)
structure De (G : Cl) (E : XK) (t : TE) (f : DE) : Prop where
  run : ∀ {B : Bx} {M : AP} {pm : Nat → Addr} {ρ : Ro} {m : Mo} {σ : L2.St} {H : Hp}, EnvR G B M pm ρ m σ H → ∀ Q : VK, Post G E B M H (Rep G B.ad M) (f ρ m) Q → t σ H Q
structure Dq (G : Cl) (E : XK) (t : TE) (f : DE) : Prop where
  run : ∀ {B : Bx} {M : AP} {pm : Nat → Addr} {ρ : Ro} {m : Mo} {σ : L2.St} {H : Hp}, EnvR G B M pm ρ m σ H → ∀ Q : VK, Post G E B M H (RepT G B.ad B.A M) (f ρ m) Q → t σ H Q
structure Dt (G : Cl) (E : XK) (t : TT) (f : DT) : Prop where
  run : ∀ {B : Bx} {M : AP} {pm : Nat → Addr} {ρ : Ro} {m : Mo} {σ : L2.St} {H : Hp}, EnvR G B M pm ρ m σ H → ∀ Q : Bool → Hp → Prop, Post G E B M H (fun _ b a => b = a) (f ρ m) Q → t σ H Q
structure Da (G : Cl) (E : XK) (t : TA) (f : DA) : Prop where
  run : ∀ {B : Bx} {M : AP} {pm : Nat → Addr} {ρ : Ro} {m : Mo} {σ : L2.St} {H : Hp}, EnvR G B M pm ρ m σ H → ∀ Q : List V → Hp → Prop, Post G E B M H (Reps G B.ad M) (f ρ m) Q → t σ H Q
inductive RepTs (G : Cl) (ad : Ad) (A M : AP) (H : Hp) : List V → List D → Prop
  | nil : RepTs G ad A M H [] []
  | cons {v : V} {vs : List V} {d : D} {ds : List D} (r : RepT G ad A M H v d) (rs : RepTs G ad A M H vs ds) : RepTs G ad A M H (v :: vs) (d :: ds)
theorem RepTs.ext {G : Cl} {ad : Ad} {A M : AP} {H H' : Hp} (e : Ext A H H') (hA : ∀ b, A b → M b) : ∀ {vs : List V} {ds : List D}, RepTs G ad A M H vs ds → RepTs G ad A M H' vs ds
  | _, _, .nil => .nil
  | _, _, .cons r rs => .cons (r.ext e hA) (RepTs.ext e hA rs)
theorem Reps.q {G : Cl} {ad : Ad} {A M : AP} {H : Hp} : ∀ {vs : List V} {ds : List D}, Reps G ad M H vs ds → RepTs G ad A M H vs ds
  | _, _, .nil => .nil
  | _, _, .cons r rs => .cons (.r r) (Reps.q rs)
structure Dpa (G : Cl) (E : XK) (t : TA) (f : DA) : Prop where
  run : ∀ {B : Bx} {M : AP} {pm : Nat → Addr} {ρ : Ro} {m : Mo} {σ : L2.St} {H : Hp}, EnvR G B M pm ρ m σ H → ∀ Q : List V → Hp → Prop, Post G E B M H (RepTs G B.ad B.A M) (f ρ m) Q → t σ H Q
end Dn
namespace Dn
open PySem PySem.Spec PyProof.Rows L2

/-! rules on values, told by data -/
section
variable (G : Cl)
/-- two values to one -/
structure O2 (r : R2) (g : D → D → Option D) : Prop where
  run : ∀ {ad : Ad} {A M : AP} {H : Hp} {x y : V} {d e z : D}, (∀ b, M b → H b ≠ none) → (∀ b, A b → M b) → RepT G ad A M H x d → RepT G ad A M H y e → g d e = some z → ∀ Q : VK, (∀ v H', ExN H H' → Rep G ad M H' v z → Q v H') → r x y H Q
structure O1 (r : V → Hp → VK → Prop) (g : D → Option D) : Prop where
  run : ∀ {ad : Ad} {A M : AP} {H : Hp} {x : V} {d z : D}, (∀ b, M b → H b ≠ none) → (∀ b, A b → M b) → RepT G ad A M H x d → g d = some z → ∀ Q : VK, (∀ v H', ExN H H' → Rep G ad M H' v z → Q v H') → r x H Q
/-- arguments to a value -/
structure ON (r : List V → Hp → VK → Prop) (g : List D → Option D) : Prop where
  run : ∀ {ad : Ad} {A M : AP} {H : Hp} {xs : List V} {ds : List D} {z : D}, (∀ b, M b → H b ≠ none) → (∀ b, A b → M b) → RepTs G ad A M H xs ds → g ds = some z → ∀ Q : VK, (∀ v H', ExN H H' → Rep G ad M H' v z → Q v H') → r xs H Q
/-- a method's value, which changes nothing -/
structure OM (r : V → List V → Hp → VK → Prop) (g : D → List D → Option D) : Prop where
  run : ∀ {ad : Ad} {A M : AP} {H : Hp} {x : V} {xs : List V} {d : D} {ds : List D} {z : D}, (∀ b, M b → H b ≠ none) → (∀ b, A b → M b) → RepT G ad A M H x d → RepTs G ad A M H xs ds → g d ds = some z → ∀ Q : VK, (∀ v H', ExN H H' → Rep G ad M H' v z → Q v H') → r x xs H Q
end
section
variable {G : Cl} {E : XK}
theorem De.q {t : TE} {f : DE} (h : De G E t f) : Dq G E t f := ⟨fun e Q p => h.run e Q (p.weak fun _ _ _ r => .r r)⟩
theorem Da.q {t : TA} {f : DA} (h : Da G E t f) : Dpa G E t f := ⟨fun e Q p => h.run e Q (p.weak fun _ _ _ r => r.q)⟩
theorem Post.of {B : Bx} {M : AP} {pm : Nat → Addr} {ρ : Ro} {m : Mo} {σ : L2.St} {H : Hp} {α β : Type} {rel : Hp → β → α → Prop} {o : Option α} {Q : β → Hp → Prop} (e : EnvR G B M pm ρ m σ H) (h : Post G E B M H rel (R.of o m) Q) :
    ∃ a, o = some a ∧ ∀ b H', ExN H H' → rel H' b a → Q b H' := by
  cases o with
  | none => exact h.elim
  | some a => exact ⟨a, rfl, fun b H' x hr => h b H' (e.same x) hr⟩
/-- a value as it stands -/
theorem Post.ret {B : Bx} {M : AP} {pm : Nat → Addr} {ρ : Ro} {m : Mo} {σ : L2.St} {H : Hp} {α β : Type} {rel : Hp → β → α → Prop} {a : α} {b : β} {Q : β → Hp → Prop} (e : EnvR G B M pm ρ m σ H) (h : Post G E B M H rel (.ok a m) Q) (r : rel H b a) : Q b H :=
  h b H e.here r

theorem Post.imp' {B : Bx} {M : AP} {H : Hp} {α β : Type} {rel : Hp → β → α → Prop} {r : R α} {Q Q' : β → Hp → Prop} (h : Post G E B M H rel r Q) (w : ∀ b H', Q b H' → Q' b H') : Post G E B M H rel r Q' := by
  cases r with
  | bad => exact h
  | ok a m' => exact fun b H' g hr => w _ _ (h b H' g hr)
  | exc c l m' => exact h
/-! names, constants -/
def dVar (i : Nat) : DE := fun ρ m => match ρ[i]? with
  | some (some (.v d)) => .ok d m
  | _ => .bad
theorem de_var (i : Nat) : De G E (tVar i) (dVar i) := ⟨fun {B M pm ρ m σ H} e Q p => by
  unfold dVar at p
  split at p
  · rename_i d q
    obtain ⟨v, h1, h2⟩ := e.sv i d q
    exact ⟨v, h1, p v H e.here h2⟩
  · exact p.elim⟩
/-- a name that is only looked at -/
def dPeek (i : Nat) : DE := fun ρ m => match ρ[i]? with
  | some (some (.v d)) => .ok d m
  | some (some (.ml ds)) => .ok (.lst ds) m
  | some (some (.mk l)) => .ok (.dct l) m
  | some (some (.mn l)) => .ok (.dcn l) m
  | _ => .bad
theorem dq_var (i : Nat) : Dq G E (tVar i) (dPeek i) := ⟨fun {B M pm ρ m σ H} e Q p => by
  unfold dPeek at p
  split at p
  · rename_i d q
    obtain ⟨v, h1, h2⟩ := e.sv i d q
    exact ⟨v, h1, p v H e.here (.r h2)⟩
  · rename_i ds q
    obtain ⟨vs, h1, h2, h3⟩ := e.sl i ds q
    exact ⟨_, h1, p _ H e.here (.ml (e.mut i ⟨_, q, rfl⟩) h2 h3)⟩
  · rename_i l q
    obtain ⟨vs, h1, h2, h3, h4⟩ := e.sk i l q
    exact ⟨_, h1, p _ H e.here (.mk (e.mut i ⟨_, q, rfl⟩) h2 h3 h4)⟩
  · rename_i l q
    obtain ⟨vs, h1, h2, h3, h4, h5⟩ := e.sn i l q
    exact ⟨_, h1, p _ H e.here (.mn h2 h3 h4 h5 (e.mut i ⟨_, q, rfl⟩))⟩
  · exact p.elim⟩
def dC (d : D) : DE := fun _ m => .ok d m
theorem de_int {i : Int} : De G E (tC (.int i)) (dC (.int i)) := ⟨fun e Q p => p _ _ e.here (.int i)⟩
theorem de_bl {i : Bool} : De G E (tC (.bl i)) (dC (.bl i)) := ⟨fun e Q p => p _ _ e.here (.bl i)⟩
theorem de_str {i : Str} : De G E (tC (.str i)) (dC (.str i)) := ⟨fun e Q p => p _ _ e.here (.str i)⟩
theorem de_non : De G E (tC .non) (dC .non) := ⟨fun e Q p => p _ _ e.here .non⟩
/-! operators -/
def dOp (g : D → D → Option D) (fa fb : DE) : DE := fun ρ m => (fa ρ m).bind fun x m1 => (fb ρ m1).bind fun y m2 => R.of (g x y) m2
theorem de_op {r : R2} {g : D → D → Option D} {ta tb : TE} {fa fb : DE} (o : O2 G r g) (ha : Dq G E ta fa) (hb : Dq G E tb fb) : De G E (tOp r ta tb) (dOp g fa fb) := ⟨fun {B M pm ρ m σ H} e Q p => by
  refine ha.run e _ ((Post.bind p).imp' fun x H1 ⟨d1, m1, g1, r1, p1⟩ => ?_)
  have e1 := e.go g1
  refine hb.run e1 _ ((Post.bind p1).imp' fun y H2 ⟨d2, m2, g2, r2, p2⟩ => ?_)
  have e2 := e1.go g2
  obtain ⟨z, q, k⟩ := Post.of e2 p2
  exact o.run e2.hm e2.aM (r1.ext g2.x e2.aM) r2 q Q k⟩
def dUn (g : D → Option D) (fa : DE) : DE := fun ρ m => (fa ρ m).bind fun x m1 => R.of (g x) m1
/-! arguments -/
def dNil : DA := fun _ m => .ok [] m
def dCons (fa : DE) (fr : DA) : DA := fun ρ m => (fa ρ m).bind fun x m1 => (fr ρ m1).bind fun xs m2 => .ok (x :: xs) m2
theorem da_nil : Da G E tNil dNil := ⟨fun e Q p => p _ _ e.here .nil⟩
theorem dp_nil : Dpa G E tNil dNil := ⟨fun e Q p => p _ _ e.here .nil⟩
theorem da_cons {ta : TE} {tr : TA} {fa : DE} {fr : DA} (ha : De G E ta fa) (hr : Da G E tr fr) : Da G E (tCons ta tr) (dCons fa fr) := ⟨fun {B M pm ρ m σ H} e Q p => by
  refine ha.run e _ ((Post.bind p).imp' fun x H1 ⟨d1, m1, g1, r1, p1⟩ => ?_)
  have e1 := e.go g1
  refine hr.run e1 _ ((Post.bind p1).imp' fun y H2 ⟨d2, m2, g2, r2, p2⟩ => ?_)
  exact p2 _ _ (e1.go g2).here (.cons (r1.ext g2.x e.aM) r2)⟩
theorem dp_cons {ta : TE} {tr : TA} {fa : DE} {fr : DA} (ha : Dq G E ta fa) (hr : Dpa G E tr fr) : Dpa G E (tCons ta tr) (dCons fa fr) := ⟨fun {B M pm ρ m σ H} e Q p => by
  refine ha.run e _ ((Post.bind p).imp' fun x H1 ⟨d1, m1, g1, r1, p1⟩ => ?_)
  have e1 := e.go g1
  refine hr.run e1 _ ((Post.bind p1).imp' fun y H2 ⟨d2, m2, g2, r2, p2⟩ => ?_)
  exact p2 _ _ (e1.go g2).here (.cons (r1.ext g2.x e.aM) r2)⟩
def dCB (g : List D → Option D) (fa : DA) : DE := fun ρ m => (fa ρ m).bind fun xs m1 => R.of (g xs) m1
theorem de_cb {r : List V → Hp → VK → Prop} {g : List D → Option D} {ta : TA} {fa : DA} (o : ON G r g) (ha : Dpa G E ta fa) : De G E (tCB r ta) (dCB g fa) := ⟨fun {B M pm ρ m σ H} e Q p => by
  refine ha.run e _ ((Post.bind p).imp' fun x H1 ⟨d1, m1, g1, r1, p1⟩ => ?_)
  have e1 := e.go g1
  obtain ⟨z, q, k⟩ := Post.of e1 p1
  exact o.run e1.hm e1.aM r1 q Q k⟩
/-! displays -/
def dTup (fa : DA) : DE := fun ρ m => (fa ρ m).bind fun xs m1 => if xs.length ≤ 10000 then .ok (.tup xs) m1 else .bad
def dLst (fa : DA) : DE := fun ρ m => (fa ρ m).bind fun xs m1 => if xs.length ≤ 10000 then .ok (.lst xs) m1 else .bad
theorem sz_ok {n : Nat} (h : n ≤ 10000000) : n ≤ sizeLine := Nat.le_trans h (by decide)
theorem de_tup {ta : TA} {fa : DA} (ha : Da G E ta fa) : De G E (tTupF ta) (dTup fa) := ⟨fun {B M pm ρ m σ H} e Q p => by
  refine ha.run e _ ((Post.bind p).imp' fun x H1 ⟨d1, m1, g1, r1, p1⟩ => ?_)
  have e1 := e.go g1
  by_cases hl : d1.length ≤ 10000
  · rw [if_pos hl] at p1
    refine ⟨sz_ok (by rw [r1.length]; omega), fun q o hq hd => ?_⟩
    exact p1 _ _ (e1.same (ExN.new hq)) (.tup (TupH.new hd) (fun z => e1.hm _ z hq) (r1.ext (Ext.new (A := Non) hq) fun _ z => z.elim))
  · rw [if_neg hl] at p1
    exact p1.elim⟩
theorem de_lst {ta : TA} {fa : DA} (ha : Da G E ta fa) : De G E (tLst ta) (dLst fa) := ⟨fun {B M pm ρ m σ H} e Q p => by
  refine ha.run e _ ((Post.bind p).imp' fun x H1 ⟨d1, m1, g1, r1, p1⟩ => ?_)
  have e1 := e.go g1
  by_cases hl : d1.length ≤ 10000
  · rw [if_pos hl] at p1
    refine ⟨sz_ok (by rw [r1.length]; omega), fun q hq => ?_⟩
    exact p1 _ _ (e1.same (ExN.new hq)) (.lst upd_same (fun z => e1.hm _ z hq) (r1.ext (Ext.new (A := Non) hq) fun _ z => z.elim))
  · rw [if_neg hl] at p1
    exact p1.elim⟩
/-! tests -/
def dTest (fa : DE) : DT := fun ρ m => (fa ρ m).bind fun x m1 => match x with
  | .bl b => .ok b m1
  | _ => .bad
theorem dt_test {ta : TE} {fa : DE} (ha : De G E ta fa) : Dt G E (tTest ta) (dTest fa) := ⟨fun {B M pm ρ m σ H} e Q p => by
  refine ha.run e _ ((Post.bind p).imp' fun x H1 ⟨d1, m1, g1, r1, p1⟩ => ?_)
  cases r1 with
  | bl b => exact ⟨b, rfl, p1 _ _ (e.go g1).here rfl⟩
  | _ => exact p1.elim⟩
def dNot (fa : DT) : DT := fun ρ m => (fa ρ m).bind fun x m1 => .ok (!x) m1
theorem dt_not {ta : TT} {fa : DT} (ha : Dt G E ta fa) : Dt G E (tNot ta) (dNot fa) := ⟨fun {B M pm ρ m σ H} e Q p => by
  refine ha.run e _ ((Post.bind p).imp' fun x H1 ⟨d1, m1, g1, r1, p1⟩ => ?_)
  subst r1
  exact p1 _ _ (e.go g1).here rfl⟩
def dAnd (fa fb : DT) : DT := fun ρ m => (fa ρ m).bind fun x m1 => if x = true then fb ρ m1 else .ok false m1
def dOr (fa fb : DT) : DT := fun ρ m => (fa ρ m).bind fun x m1 => if x = true then .ok true m1 else fb ρ m1
theorem dt_and {ta tb : TT} {fa fb : DT} (ha : Dt G E ta fa) (hb : Dt G E tb fb) : Dt G E (tAnd ta tb) (dAnd fa fb) := ⟨fun {B M pm ρ m σ H} e Q p => by
  refine ha.run e _ ((Post.bind p).imp' fun x H1 ⟨d1, m1, g1, r1, p1⟩ => ?_)
  subst r1
  have e1 := e.go g1
  cases x with
  | true => exact hb.run e1 _ p1
  | false => exact p1 _ _ e1.here rfl⟩
theorem dt_or {ta tb : TT} {fa fb : DT} (ha : Dt G E ta fa) (hb : Dt G E tb fb) : Dt G E (tOr ta tb) (dOr fa fb) := ⟨fun {B M pm ρ m σ H} e Q p => by
  refine ha.run e _ ((Post.bind p).imp' fun x H1 ⟨d1, m1, g1, r1, p1⟩ => ?_)
  subst r1
  have e1 := e.go g1
  cases x with
  | true => exact p1 _ _ e1.here rfl
  | false => exact hb.run e1 _ p1⟩
def dIf (c : DT) (fa fb : DE) : DE := fun ρ m => (c ρ m).bind fun x m1 => if x = true then fa ρ m1 else fb ρ m1
theorem de_if {tc : TT} {ta tb : TE} {fc : DT} {fa fb : DE} (hc : Dt G E tc fc) (ha : De G E ta fa) (hb : De G E tb fb) : De G E (tIf tc ta tb) (dIf fc fa fb) := ⟨fun {B M pm ρ m σ H} e Q p => by
  refine hc.run e _ ((Post.bind p).imp' fun x H1 ⟨d1, m1, g1, r1, p1⟩ => ?_)
  subst r1
  have e1 := e.go g1
  cases x with
  | true => exact ha.run e1 _ p1
  | false => exact hb.run e1 _ p1⟩
/-- a test as a value -/
def dAndV (fa fb : DE) : DE := fun ρ m => (fa ρ m).bind fun x m1 => match x with
  | .bl true => fb ρ m1
  | .bl false => .ok (.bl false) m1
  | _ => .bad
def dOrV (fa fb : DE) : DE := fun ρ m => (fa ρ m).bind fun x m1 => match x with
  | .bl false => fb ρ m1
  | .bl true => .ok (.bl true) m1
  | _ => .bad
theorem de_and {ta tb : TE} {fa fb : DE} (ha : De G E ta fa) (hb : De G E tb fb) : De G E (tAndV ta tb) (dAndV fa fb) := ⟨fun {B M pm ρ m σ H} e Q p => by
  refine ha.run e _ ((Post.bind p).imp' fun x H1 ⟨d1, m1, g1, r1, p1⟩ => ?_)
  have e1 := e.go g1
  cases r1 with
  | bl b =>
    cases b with
    | true => exact ⟨true, rfl, hb.run e1 _ p1⟩
    | false => exact ⟨false, rfl, p1 _ _ e1.here (.bl false)⟩
  | _ => exact p1.elim⟩
def dNotV (fa : DE) : DE := fun ρ m => (fa ρ m).bind fun x m1 => match x with
  | .bl b => .ok (.bl (!b)) m1
  | _ => .bad
theorem de_not {ta : TE} {fa : DE} (ha : De G E ta fa) : De G E (tNotV ta) (dNotV fa) := ⟨fun {B M pm ρ m σ H} e Q p => by
  refine ha.run e _ ((Post.bind p).imp' fun x H1 ⟨d1, m1, g1, r1, p1⟩ => ?_)
  have e1 := e.go g1
  cases r1 with
  | bl b => exact ⟨b, rfl, p1 _ _ e1.here (.bl _)⟩
  | _ => exact p1.elim⟩
end
end Dn
namespace Dn
open PySem PySem.Spec PyProof.Rows L2

/-! data as the library's data -/
mutual
def D.py : D → PyData
  | .non => .none
  | .bl b => .bool b
  | .int i => .int i
  | .str x => .str x
  | .tup l => .tuple (D.pys l)
  | .lst l => .list (D.pys l)
  | _ => .none
def D.pys : List D → List PyData
  | [] => []
  | d :: r => D.py d :: D.pys r
end
mutual
/-- no objects within, at most n deep -/
def D.plain : Nat → D → Bool
  | _, .non => true
  | _, .bl _ => true
  | _, .int _ => true
  | _, .str x => PyData.strOk x
  | n + 1, .tup l => D.plains n l
  | n + 1, .lst l => D.plains n l
  | _, _ => false
def D.plains : Nat → List D → Bool
  | _, [] => true
  | n, d :: r => D.plain n d && D.plains n r
end
theorem D.pys_map : ∀ l : List D, D.pys l = l.map D.py
  | [] => by simp [D.pys]
  | d :: r => by simp [D.pys, D.pys_map r]
theorem D.plains_all (n : Nat) : ∀ l : List D, D.plains n l = l.all (D.plain n)
  | [] => by simp [D.plains]
  | d :: r => by simp [D.plains, D.plains_all n r]
mutual
theorem plain_lay : ∀ {n : Nat} {d : D}, d.plain n = true → d.py.canLay0 = true ∧ d.py.depth ≤ n
  | _, .non, _ => by simp [D.py, PyData.canLay0, PyData.depth]
  | _, .bl _, _ => by simp [D.py, PyData.canLay0, PyData.depth]
  | _, .int _, _ => by simp [D.py, PyData.canLay0, PyData.depth]
  | _, .str x, h => by
    have h' : PyData.strOk x = true := by simpa [D.plain] using h
    simp [D.py, PyData.canLay0, PyData.depth, h']
  | n + 1, .tup l, h => by
    have h' : D.plains n l = true := by simpa [D.plain] using h
    obtain ⟨h1, h2⟩ := plains_lay h'
    simp only [D.py, PyData.canLay0, PyData.depth]
    exact ⟨h1, by omega⟩
  | n + 1, .lst l, h => by
    have h' : D.plains n l = true := by simpa [D.plain] using h
    obtain ⟨h1, h2⟩ := plains_lay h'
    simp only [D.py, PyData.canLay0, PyData.depth]
    exact ⟨h1, by omega⟩
  | 0, .tup l, h => by simp [D.plain] at h
  | 0, .lst l, h => by simp [D.plain] at h
  | _, .obj _ _, h => by simp [D.plain] at h
  | _, .dct _, h => by simp [D.plain] at h
  | _, .exc _ _, h => by simp [D.plain] at h
  | _, .drw, h => by simp [D.plain] at h
  | _, .scr _, h => by simp [D.plain] at h
theorem plains_lay : ∀ {n : Nat} {l : List D}, D.plains n l = true → PyData.canLayAll0 (D.pys l) = true ∧ PyData.depthAll (D.pys l) ≤ n
  | _, [], _ => by simp [D.pys, PyData.canLayAll0, PyData.depthAll]
  | n, d :: r, h => by
    have h' : d.plain n = true ∧ D.plains n r = true := by simpa [D.plains] using h
    obtain ⟨a1, a2⟩ := plain_lay h'.1
    obtain ⟨b1, b2⟩ := plains_lay h'.2
    simp only [D.pys, PyData.canLayAll0, PyData.depthAll, Bool.and_eq_true]
    exact ⟨⟨a1, b1⟩, by omega⟩
end
theorem plain_shaped {n : Nat} {d : D} (h : d.plain n = true) (hn : n ≤ 64) : SeqAt.shaped d.py = true := by
  obtain ⟨h1, h2⟩ := plain_lay h
  unfold SeqAt.shaped
  rw [h1, decide_eq_true (by omega)]
  rfl
section
variable {G : Cl} {ad : Ad} {A M : AP} {H : Hp}
mutual
theorem Rep.dp_ : ∀ (n : Nat) (d : D) (v : V), d.plain n = true → Rep G ad M H v d → L2.Dp G.K H v d.py
  | _, .non, _, _, r => by cases r; simp only [D.py]; exact .non
  | _, .bl b, _, _, r => by cases r; simp only [D.py]; exact .bl b
  | _, .int b, _, _, r => by cases r; simp only [D.py]; exact .int b
  | _, .str b, _, _, r => by cases r; simp only [D.py]; exact .str b
  | 0, .tup _, _, h, _ => by simp [D.plain] at h
  | 0, .lst _, _, h, _ => by simp [D.plain] at h
  | n + 1, .tup ds, _, h, r => by
    have h' : D.plains n ds = true := by simpa [D.plain] using h
    cases r with
    | tup q _ r =>
      simp only [D.py]
      exact .tup q.sq (Reps.dp_ n ds _ h' r)
  | n + 1, .lst ds, _, h, r => by
    have h' : D.plains n ds = true := by simpa [D.plain] using h
    cases r with
    | lst q _ r =>
      simp only [D.py]
      exact .lst (SqL.of q) (Reps.dp_ n ds _ h' r)
  | _, .obj _ _, _, h, _ => by simp [D.plain] at h
  | _, .dct _, _, h, _ => by simp [D.plain] at h
  | _, .exc _ _, _, h, _ => by simp [D.plain] at h
  | _, .drw, _, h, _ => by simp [D.plain] at h
  | _, .scr _, _, h, _ => by simp [D.plain] at h
  | _, .dcn _, _, h, _ => by simp [D.plain] at h
  | _, .cel _, _, h, _ => by simp [D.plain] at h
theorem Reps.dp_ : ∀ (n : Nat) (ds : List D) (vs : List V), D.plains n ds = true → Reps G ad M H vs ds → DpAll G.K H vs (D.pys ds)
  | _, [], _, _, r => by cases r; simp only [D.pys]; exact .nil
  | n, d :: ds, _, h, r => by
    have h' : d.plain n = true ∧ D.plains n ds = true := by simpa [D.plains] using h
    cases r with
    | cons r rs =>
      simp only [D.pys]
      exact .cons (Rep.dp_ n d _ h'.1 r) (Reps.dp_ n ds _ h'.2 rs)
end
theorem Rep.dp {n : Nat} {v : V} {d : D} (h : d.plain n = true) (r : Rep G ad M H v d) : L2.Dp G.K H v d.py := Rep.dp_ n d v h r
theorem Reps.dp {n : Nat} {vs : List V} {ds : List D} (h : D.plains n ds = true) (r : Reps G ad M H vs ds) : DpAll G.K H vs (D.pys ds) := Reps.dp_ n ds vs h r
theorem RepT.dp {n : Nat} {v : V} {d : D} (h : d.plain n = true) (r : RepT G ad A M H v d) : L2.Dp G.K H v d.py := by
  cases r with
  | r r => exact Rep.dp h r
  | ml na q r =>
    cases n with
    | zero => simp [D.plain] at h
    | succ n =>
      simp only [D.py]
      exact .lst (SqL.of q) (Reps.dp (n := n) (by simpa [D.plain] using h) r)
  | mk na q e r => simp [D.plain] at h
  | mn q e rk r na => simp [D.plain] at h
theorem RepT.lst {v : V} {ds : List D} (r : RepT G ad A M H v (.lst ds)) : ∃ a vs, v = .ref a ∧ H a = some (.lst vs) ∧ Reps G ad M H vs ds := by
  cases r with
  | r r =>
    cases r with
    | lst h n r => exact ⟨_, _, rfl, h, r⟩
  | ml n h r => exact ⟨_, _, rfl, h, r⟩
theorem RepT.tup {v : V} {ds : List D} (r : RepT G ad A M H v (.tup ds)) : ∃ a vs, v = .ref a ∧ TupH H a vs ∧ ¬ M a ∧ Reps G ad M H vs ds := by
  cases r with
  | r r =>
    cases r with
    | tup h n r => exact ⟨_, _, rfl, h, n, r⟩
theorem RepT.int {v : V} {i : Int} (r : RepT G ad A M H v (.int i)) : v = .int i := by
  cases r with
  | r r =>
    cases r
    rfl
theorem RepT.bl {v : V} {i : Bool} (r : RepT G ad A M H v (.bl i)) : v = .bl i := by
  cases r with
  | r r =>
    cases r
    rfl
theorem RepT.str {v : V} {i : Str} (r : RepT G ad A M H v (.str i)) : v = .str i := by
  cases r with
  | r r =>
    cases r
    rfl
theorem RepT.non {v : V} (r : RepT G ad A M H v .non) : v = .non := by
  cases r with
  | r r =>
    cases r
    rfl
theorem Reps.newT {vs : List V} {ds : List D} {p : Addr} {o : Obj} (hm : ∀ b, M b → H b ≠ none) (hp : H p = none) (hd : o.dict = none) (r : Reps G ad M H vs ds) : Rep G ad M (upd H p (.frz o (.tup vs))) (.ref p) (.tup ds) :=
  .tup (TupH.new hd) (fun z => hm _ z hp) (r.ext (Ext.new (A := Non) hp) fun _ z => z.elim)
theorem Reps.newL {vs : List V} {ds : List D} {p : Addr} (hm : ∀ b, M b → H b ≠ none) (hp : H p = none) (r : Reps G ad M H vs ds) : Rep G ad M (upd H p (.lst vs)) (.ref p) (.lst ds) :=
  .lst upd_same (fun z => hm _ z hp) (r.ext (Ext.new (A := Non) hp) fun _ z => z.elim)
end

/-! + -/
def rAddU (K : PySem.W.Frag) : R2 := fun x y H Q => (∃ i j, x = .int i ∧ y = .int j ∧ Q (.int (i + j)) H) ∨ (∃ i j, x = .str i ∧ y = .str j ∧ i.length + j.length ≤ sizeLine ∧ Q (.str (i ++ j)) H) ∨ rCatF K x y H Q ∨ rCat x y H Q
theorem op_addU {X : Cx} : OpR X (binaryOp .Add) (rAddU X.K) := OpR.or op_add (OpR.or op_add_str (OpR.or op_catF op_cat))
def addD : D → D → Option D
  | .int i, .int j => some (.int (i + j))
  | .str x, .str y => if x.length + y.length ≤ 1000000 then some (.str (x ++ y)) else none
  | .tup x, .tup y => if x.length + y.length ≤ 1000000 then some (.tup (x ++ y)) else none
  | .lst x, .lst y => if x.length + y.length ≤ 1000000 then some (.lst (x ++ y)) else none
  | _, _ => none
theorem o_add {G : Cl} : O2 G (rAddU G.K) addD := ⟨fun {ad A M H x y d e z} hm hA rx ry g Q q => by
  unfold addD at g
  split at g
  · rename_i i j
    cases g
    exact .inl ⟨i, j, rx.int, ry.int, q _ _ .refl (.int _)⟩
  · rename_i i j
    split at g
    · rename_i hl
      cases g
      exact .inr (.inl ⟨i, j, rx.str, ry.str, sz_ok (by omega), q _ _ .refl (.str _)⟩)
    · cases g
  · rename_i i j
    split at g
    · rename_i hl
      cases g
      obtain ⟨a, vs, rfl, ha, na, ra⟩ := rx.tup
      obtain ⟨b, ws, rfl, hb, nb, rb⟩ := ry.tup
      refine .inr (.inr (.inl ⟨a, b, vs, ws, rfl, rfl, ha.sq, hb.sq, sz_ok (by rw [ra.length, rb.length]; omega), fun e => ?_, fun n e => ?_, fun n1 n2 p o hp hd => ?_⟩))
      · subst e
        cases ra
        exact q _ _ .refl (.tup hb nb rb)
      · subst e
        cases rb
        rw [List.append_nil] at q
        exact q _ _ .refl (.tup ha na ra)
      · exact q _ _ (ExN.new hp) ((ra.append rb).newT hm hp hd)
    · cases g
  · rename_i i j
    split at g
    · rename_i hl
      cases g
      obtain ⟨a, vs, rfl, ha, ra⟩ := rx.lst
      obtain ⟨b, ws, rfl, hb, rb⟩ := ry.lst
      exact .inr (.inr (.inr ⟨a, b, vs, ws, rfl, rfl, ha, hb, sz_ok (by rw [ra.length, rb.length]; omega), fun p hp => q _ _ (ExN.new hp) ((ra.append rb).newL hm hp)⟩))
    · cases g
  · cases g⟩
/-! - % // ** * -/
def subD : D → D → Option D
  | .int i, .int j => some (.int (i - j))
  | _, _ => none
theorem o_sub {G : Cl} : O2 G (rI0 fun i j => .int (i - j)) subD := ⟨fun {ad A M H x y d e z} hm hA rx ry g Q q => by
  unfold subD at g
  split at g
  · cases g
    exact ⟨_, _, rx.int, ry.int, q _ _ .refl (.int _)⟩
  · cases g⟩
def modD : D → D → Option D
  | .int i, .int j => if 0 < j then some (.int (i % j)) else none
  | _, _ => none
theorem o_mod {G : Cl} : O2 G (rI (fun _ j => 0 < j) fun i j => .int (i % j)) modD := ⟨fun {ad A M H x y d e z} hm hA rx ry g Q q => by
  unfold modD at g
  split at g
  · split at g
    · rename_i h
      cases g
      exact ⟨_, _, rx.int, ry.int, h, q _ _ .refl (.int _)⟩
    · cases g
  · cases g⟩
def divD : D → D → Option D
  | .int i, .int j => if 0 < j ∧ j < 1073741824 then some (.int (i / j)) else none
  | _, _ => none
theorem o_div {G : Cl} : O2 G (rI CDiv fun i j => .int (i / j)) divD := ⟨fun {ad A M H x y d e z} hm hA rx ry g Q q => by
  unfold divD at g
  split at g
  · split at g
    · rename_i h
      cases g
      exact ⟨_, _, rx.int, ry.int, h, q _ _ .refl (.int _)⟩
    · cases g
  · cases g⟩
def powD : D → D → Option D
  | .int i, .int j => if 0 ≤ j ∧ j ≤ 1000 ∧ i.natAbs < 1000 then some (.int (i ^ j.toNat)) else none
  | _, _ => none
theorem o_pow {G : Cl} : O2 G (rI CPow fun i j => .int (i ^ j.toNat)) powD := ⟨fun {ad A M H x y d e z} hm hA rx ry g Q q => by
  unfold powD at g
  split at g
  · split at g
    · rename_i h
      cases g
      exact ⟨_, _, rx.int, ry.int, ⟨h.1, by omega, Nat.lt_of_lt_of_le h.2.2 (by decide)⟩, q _ _ .refl (.int _)⟩
    · cases g
  · cases g⟩
def rMulU (K : PySem.W.Frag) : R2 := fun x y H Q => (∃ i j, x = .int i ∧ y = .int j ∧ CMul i j ∧ Q (.int (i * j)) H) ∨ rRep x y H Q
theorem op_mulU {X : Cx} : OpR X (binaryOp .Mult) (rMulU X.K) := OpR.or op_mul op_rep
def mulD : D → D → Option D
  | .int i, .int j => if (-(2 ^ 64) < i ∧ i < 2 ^ 64) ∨ (-(2 ^ 64) < j ∧ j < 2 ^ 64) then some (.int (i * j)) else none
  | .lst x, .int k => if 0 ≤ k ∧ k ≤ 1000 ∧ x.length ≤ 1000 then some (.lst (List.replicate k.toNat x).flatten) else none
  | _, _ => none
theorem Reps.rep {G : Cl} {ad : Ad} {M : AP} {H : Hp} {vs : List V} {ds : List D} (h : Reps G ad M H vs ds) : ∀ k : Nat, Reps G ad M H (List.replicate k vs).flatten (List.replicate k ds).flatten
  | 0 => .nil
  | k + 1 => by
    rw [List.replicate_succ, List.replicate_succ, List.flatten_cons, List.flatten_cons]
    exact h.append (Reps.rep h k)
theorem o_mul {G : Cl} : O2 G (rMulU G.K) mulD := ⟨fun {ad A M H x y d e z} hm hA rx ry g Q q => by
  unfold mulD at g
  split at g
  · split at g
    · rename_i h
      cases g
      exact .inl ⟨_, _, rx.int, ry.int, h, q _ _ .refl (.int _)⟩
    · cases g
  · split at g
    · rename_i h
      cases g
      obtain ⟨a, vs, rfl, ha, ra⟩ := rx.lst
      refine .inr (⟨a, _, vs, rfl, ry.int, ha, by omega, by omega, sz_ok ?_, fun p hp => q _ _ (ExN.new hp) ((ra.rep _).newL hm hp)⟩)
      rw [ra.length]
      exact Nat.le_trans (Nat.mul_le_mul h.2.2 (show _ ≤ 1000 by omega)) (by decide)
    · cases g
  · cases g⟩
/-! comparisons -/
def cmpD (p : Int → Int → Bool) : D → D → Option D
  | .int i, .int j => some (.bl (p i j))
  | _, _ => none
theorem o_cmp {G : Cl} (p : Int → Int → Bool) : O2 G (rI0 fun i j => .bl (p i j)) (cmpD p) := ⟨fun {ad A M H x y d e z} hm hA rx ry g Q q => by
  unfold cmpD at g
  split at g
  · cases g
    exact ⟨_, _, rx.int, ry.int, q _ _ .refl (.bl _)⟩
  · cases g⟩
def rEqU (K : PySem.W.Frag) : R2 := fun x y H Q => rEqD K x y H Q ∨ rEq x y H Q
def rNeU (K : PySem.W.Frag) : R2 := fun x y H Q => rNeD K x y H Q ∨ rNe x y H Q
theorem op_eqU {X : Cx} (hu : X.A.units + 64 < cLine) : OpR X (compareOp .Eq) (rEqU X.K) := OpR.or (op_eqD hu) op_eq
theorem op_neU {X : Cx} (hu : X.A.units + 64 < cLine) : OpR X (compareOp .NotEq) (rNeU X.K) := OpR.or (op_neD hu) op_ne
def eqD : D → D → Option D
  | .str x, .str y => some (.bl (decide (x = y)))
  | d, e => if d.plain 60 = true ∧ e.plain 60 = true then some (.bl (PyData.eqv d.py e.py)) else none
def neD : D → D → Option D
  | .str x, .str y => some (.bl (!decide (x = y)))
  | d, e => if d.plain 60 = true ∧ e.plain 60 = true then some (.bl (!PyData.eqv d.py e.py)) else none
theorem str_dec {x y : Str} : decide (V.str x = V.str y) = decide (x = y) := by
  by_cases h : x = y
  · subst h
    rw [decide_eq_true rfl, decide_eq_true rfl]
  · rw [decide_eq_false h, decide_eq_false fun z => h (V.str.inj z)]
theorem o_eq {G : Cl} : O2 G (rEqU G.K) eqD := ⟨fun {ad A M H x y d e z} hm hA rx ry g Q q => by
  unfold eqD at g
  split at g
  · cases g
    rw [rx.str, ry.str]
    exact .inr ⟨rfl, by rw [str_dec]; exact q _ _ .refl (.bl _)⟩
  · split at g
    · rename_i h
      cases g
      exact .inl ⟨_, _, rx.dp h.1, ry.dp h.2, plain_shaped h.1 (by omega), plain_shaped h.2 (by omega), q _ _ .refl (.bl _)⟩
    · cases g⟩
theorem o_ne {G : Cl} : O2 G (rNeU G.K) neD := ⟨fun {ad A M H x y d e z} hm hA rx ry g Q q => by
  unfold neD at g
  split at g
  · cases g
    rw [rx.str, ry.str]
    exact .inr ⟨rfl, by rw [str_dec]; exact q _ _ .refl (.bl _)⟩
  · split at g
    · rename_i h
      cases g
      exact .inl ⟨_, _, rx.dp h.1, ry.dp h.2, plain_shaped h.1 (by omega), plain_shaped h.2 (by omega), q _ _ .refl (.bl _)⟩
    · cases g⟩
/-! in -/
def inD (neg : Bool) : D → D → Option D
  | d, .lst l => if d.plain 60 = true ∧ D.plains 60 l = true then some (.bl (neg ^^ l.any fun z => PyData.eqv z.py d.py)) else none
  | d, .tup l => if d.plain 0 = true ∧ D.plains 0 l = true then some (.bl (neg ^^ l.any fun z => PyData.eqv z.py d.py)) else none
  | _, _ => none
def rInU (K : PySem.W.Frag) : R2 := fun x y H Q => rInD K x y H Q ∨ rIn K false x y H Q
def rNotInU (K : PySem.W.Frag) : R2 := fun x y H Q => rNotInD K x y H Q ∨ rIn K true x y H Q
theorem op_inU {X : Cx} (hu : X.A.units + 65 < cLine) : OpR X (compareOp .In) (rInU X.K) := OpR.or (op_inD hu) op_in_seq
theorem op_notInU {X : Cx} (hu : X.A.units + 65 < cLine) : OpR X (compareOp .NotIn) (rNotInU X.K) := OpR.or (op_notInD hu) op_notIn_seq
theorem any_pys (f : PyData → Bool) : ∀ l : List D, (D.pys l).any f = l.any fun z => f z.py
  | [] => by simp [D.pys]
  | d :: r => by simp [D.pys, any_pys f r]
theorem flat_rep {G : Cl} {ad : Ad} {M : AP} {H : Hp} {v : V} {d : D} (r : Rep G ad M H v d) (h : d.plain 0 = true) : flatV v = true := by
  cases r <;> first | rfl | (simp [D.plain] at h)
theorem flats_rep {G : Cl} {ad : Ad} {M : AP} {H : Hp} : ∀ {vs : List V} {ds : List D}, Reps G ad M H vs ds → D.plains 0 ds = true → vs.all flatV = true
  | _, _, .nil, _ => rfl
  | _, d :: ds, .cons r rs, h => by
    have h' : d.plain 0 = true ∧ D.plains 0 ds = true := by simpa [D.plains] using h
    rw [List.all_cons, flat_rep r h'.1, flats_rep rs h'.2]
    rfl
theorem eqV_py {G : Cl} {ad ad' : Ad} {M M' : AP} {H : Hp} {v w : V} {d e : D} (r : Rep G ad M H v d) (r' : Rep G ad' M' H w e) (h : d.plain 0 = true) (h' : e.plain 0 = true) : eqV v w = PyData.eqv d.py e.py := by
  cases r <;> first | (simp [D.plain] at h; done) | (cases r' <;> first | (simp [D.plain] at h'; done) | (simp [eqV, D.py, PyData.eqv]; done) | (simp [eqV, D.py, PyData.eqv]; rfl))
theorem inV_py {G : Cl} {ad ad' : Ad} {M M' : AP} {H : Hp} {w : V} {e : D} (r' : Rep G ad' M' H w e) (h' : e.plain 0 = true) : ∀ {vs : List V} {ds : List D}, Reps G ad M H vs ds → D.plains 0 ds = true → inV w vs = ds.any fun z => PyData.eqv z.py e.py
  | _, _, .nil, _ => rfl
  | _, d :: ds, .cons r rs, h => by
    have h2 : d.plain 0 = true ∧ D.plains 0 ds = true := by simpa [D.plains] using h
    have ih := inV_py r' h' rs h2.2
    unfold inV at ih ⊢
    rw [List.any_cons, List.any_cons, eqV_py r r' h2.1 h', ih]
end Dn
namespace Dn
open PySem PySem.Spec PyProof.Rows L2
theorem o_inG {G : Cl} : O2 G (rInU G.K) (inD false) := ⟨fun {ad A M H x y d e z} hm hA rx ry g Q q => by
  unfold inD at g
  split at g
  · rename_i l
    split at g
    · rename_i h
      cases g
      refine .inl ⟨_, D.pys l, rx.dp h.1, ?_, plain_shaped h.1 (by omega), ?_, ?_⟩
      · have z := ry.dp (n := 61) (d := .lst l) (by simpa [D.plain] using h.2)
        simpa only [D.py] using z
      · have z := plain_shaped (n := 61) (d := .lst l) (by simpa [D.plain] using h.2) (by omega)
        simpa only [D.py] using z
      · rw [any_pys]
        rw [Bool.false_xor] at q
        exact q _ _ .refl (.bl _)
    · cases g
  · rename_i l
    split at g
    · rename_i h
      cases g
      obtain ⟨a, vs, rfl, ha, na, ra⟩ := ry.tup
      have rx' : ∃ M', Rep G ad M' H x d := by
        cases rx with
        | r r => exact ⟨_, r⟩
        | ml _ _ _ => simp [D.plain] at h
        | mk _ _ _ _ => simp [D.plain] at h
        | mn _ _ _ _ _ => simp [D.plain] at h
      obtain ⟨M', rx'⟩ := rx'
      refine .inr ⟨a, vs, rfl, .inr ha.sq, flat_rep rx' h.1, flats_rep ra h.2, ?_⟩
      rw [inV_py rx' h.1 ra h.2, if_neg Bool.false_ne_true]
      rw [Bool.false_xor] at q
      exact q _ _ .refl (.bl _)
    · cases g
  · cases g⟩
theorem o_notInG {G : Cl} : O2 G (rNotInU G.K) (inD true) := ⟨fun {ad A M H x y d e z} hm hA rx ry g Q q => by
  unfold inD at g
  split at g
  · rename_i l
    split at g
    · rename_i h
      cases g
      refine .inl ⟨_, D.pys l, rx.dp h.1, ?_, plain_shaped h.1 (by omega), ?_, ?_⟩
      · have z := ry.dp (n := 61) (d := .lst l) (by simpa [D.plain] using h.2)
        simpa only [D.py] using z
      · have z := plain_shaped (n := 61) (d := .lst l) (by simpa [D.plain] using h.2) (by omega)
        simpa only [D.py] using z
      · rw [any_pys]
        rw [Bool.true_xor] at q
        exact q _ _ .refl (.bl _)
    · cases g
  · rename_i l
    split at g
    · rename_i h
      cases g
      obtain ⟨a, vs, rfl, ha, na, ra⟩ := ry.tup
      have rx' : ∃ M', Rep G ad M' H x d := by
        cases rx with
        | r r => exact ⟨_, r⟩
        | ml _ _ _ => simp [D.plain] at h
        | mk _ _ _ _ => simp [D.plain] at h
        | mn _ _ _ _ _ => simp [D.plain] at h
      obtain ⟨M', rx'⟩ := rx'
      refine .inr ⟨a, vs, rfl, .inr ha.sq, flat_rep rx' h.1, flats_rep ra h.2, ?_⟩
      rw [inV_py rx' h.1 ra h.2, if_pos rfl]
      rw [Bool.true_xor] at q
      exact q _ _ .refl (.bl _)
    · cases g
  · cases g⟩
/-! is None, is True -/
def D.isNon : D → Bool
  | .non => true
  | _ => false
def isD (neg : Bool) : D → D → Option D
  | d, .non => some (.bl (neg ^^ d.isNon))
  | .bl a, .bl b => some (.bl (neg ^^ (a == b)))
  | _, _ => none
def rIsU : R2 := fun x y H Q => (y = .non ∧ Q (.bl (decide (x = .non))) H) ∨ rIsB x y H Q
def rIsNotU : R2 := fun x y H Q => (y = .non ∧ Q (.bl (!decide (x = .non))) H) ∨ rNotB x y H Q
theorem op_isU {X : Cx} : OpR X (compareOp .Is) rIsU := OpR.or op_isN op_isBl
theorem non_rep {G : Cl} {ad : Ad} {A M : AP} {H : Hp} {v : V} {d : D} (r : RepT G ad A M H v d) : decide (v = .non) = d.isNon := by
  cases r with
  | r r => cases r <;> rfl
  | ml _ _ _ => rfl
  | mk _ _ _ _ => rfl
  | mn _ _ _ _ _ => rfl
theorem o_is {G : Cl} : O2 G rIsU (isD false) := ⟨fun {ad A M H x y d e z} hm hA rx ry g Q q => by
  unfold isD at g
  split at g
  · rename_i d'
    have hz : z = .bl (decide (x = .non)) := by
      rw [non_rep rx]
      cases g
      first | rw [Bool.false_xor] | rw [Bool.true_xor]
    subst hz
    exact .inl ⟨ry.non, q _ _ .refl (.bl _)⟩
  · rename_i a b
    cases g
    refine .inr ⟨a, b, rx.bl, ry.bl, ?_⟩
    have e : decide (a = b) = (false ^^ (a == b)) := by cases a <;> cases b <;> rfl
    rw [e]
    exact q _ _ .refl (.bl _)
  · cases g⟩
/-! items -/
def ixD : D → D → Option D
  | .lst l, .int i => atI l i
  | .tup l, .int i => atI l i
  | .str x, .int i => if x.length ≤ 1000000 then (atI x.cps.toList i).map fun c => .str ⟨#[c]⟩ else none
  | _, _ => none
theorem atI_rep {G : Cl} {ad : Ad} {M : AP} {H : Hp} {vs : List V} {ds : List D} {i : Int} {z : D} (r : Reps G ad M H vs ds) (h : atI ds i = some z) : ∃ v, atI vs i = some v ∧ Rep G ad M H v z := by
  unfold atI at h ⊢
  rw [r.length]
  cases e : ixN ds.length i with
  | none =>
    rw [e] at h
    cases h
  | some j =>
    rw [e] at h
    exact r.getD h
theorem o_ix {G : Cl} : O2 G (rIx G.K) ixD := ⟨fun {ad A M H x y d e z} hm hA rx ry g Q q => by
  unfold ixD at g
  split at g
  · obtain ⟨a, vs, rfl, ha, ra⟩ := rx.lst
    obtain ⟨v, hv, rv⟩ := atI_rep ra g
    exact .inl ⟨a, vs, _, v, rfl, ry.int, SqL.of ha, hv, q _ _ .refl rv⟩
  · obtain ⟨a, vs, rfl, ha, na, ra⟩ := rx.tup
    obtain ⟨v, hv, rv⟩ := atI_rep ra g
    exact .inr (.inl ⟨a, vs, _, v, rfl, ry.int, ha.sq, hv, q _ _ .refl rv⟩)
  · rename_i x i
    split at g
    · rename_i hl
      cases e : atI x.cps.toList i with
      | none =>
        rw [e] at g
        cases g
      | some c =>
        rw [e] at g
        cases g
        exact .inr (.inr ⟨x, i, c, rx.str, ry.int, sz_ok (by omega), e, q _ _ .refl (.str _)⟩)
    · cases g
  · cases g⟩
/-! slices -/
abbrev DO := Ro → Mo → R (Option Int)
structure Do (G : Cl) (E : XK) (t : TO) (f : DO) : Prop where
  run : ∀ {B : Bx} {M : AP} {pm : Nat → Addr} {ρ : Ro} {m : Mo} {σ : L2.St} {H : Hp}, EnvR G B M pm ρ m σ H → ∀ Q : Option Int → Hp → Prop, Post G E B M H (fun _ b a => b = a) (f ρ m) Q → t σ H Q
def dNoPart : DO := fun _ m => .ok none m
def dPart (f : DE) : DO := fun ρ m => (f ρ m).bind fun x m1 => match x with
  | .int i => .ok (some i) m1
  | _ => .bad
section
variable {G : Cl} {E : XK}
theorem do_none : Do G E tNoPart dNoPart := ⟨fun e Q p => p _ _ e.here rfl⟩
theorem do_some {t : TE} {f : DE} (h : De G E t f) : Do G E (tPart t) (dPart f) := ⟨fun {B M pm ρ m σ H} e Q p => by
  refine h.run e _ ((Post.bind p).imp' fun x H1 ⟨d1, m1, g1, r1, p1⟩ => ?_)
  cases r1 with
  | int i => exact ⟨i, rfl, p1 _ _ (e.go g1).here rfl⟩
  | _ => exact p1.elim⟩
def cutD (l : List D) (lo hi : Option Int) : List D := (l.drop (HT.sIx l.length 0 lo)).take (HT.sIx l.length l.length hi - HT.sIx l.length 0 lo)
def slD : D → Option Int → Option Int → Option D
  | .lst l, lo, hi => some (.lst (cutD l lo hi))
  | .tup l, lo, hi => some (.tup (cutD l lo hi))
  | _, _, _ => none
def rSlU (K : PySem.W.Frag) : V → Option Int → Option Int → Hp → VK → Prop := fun x lo hi H Q => rSlL K x lo hi H Q ∨ rSlF K x lo hi H Q
theorem sl_U {X : Cx} : L2.SlR X (rSlU X.K) := L2.SlR.or sl_list sl_F
def dSl (fx : DE) (fl fh : DO) : DE := fun ρ m => (fx ρ m).bind fun x m1 => (fl ρ m1).bind fun l m2 => (fh ρ m2).bind fun h m3 => R.of (slD x l h) m3
theorem cut_rep {ad : Ad} {M : AP} {H : Hp} {vs : List V} {ds : List D} {lo hi : Option Int} (r : Reps G ad M H vs ds) : Reps G ad M H (cutV vs lo hi) (cutD ds lo hi) := by
  unfold cutV cutD
  rw [r.length]
  exact (r.drop _).take _
theorem de_sl {tx : TE} {tl th : TO} {fx : DE} {fl fh : DO} (hx : Dq G E tx fx) (hl : Do G E tl fl) (hh : Do G E th fh) : De G E (tSl (rSlU G.K) tx tl th) (dSl fx fl fh) := ⟨fun {B M pm ρ m σ H} e Q p => by
  refine hx.run e _ ((Post.bind p).imp' fun x H1 ⟨d1, m1, g1, r1, p1⟩ => ?_)
  have e1 := e.go g1
  refine hl.run e1 _ ((Post.bind p1).imp' fun l H2 ⟨d2, m2, g2, r2, p2⟩ => ?_)
  subst r2
  have e2 := e1.go g2
  refine hh.run e2 _ ((Post.bind p2).imp' fun u H3 ⟨d3, m3, g3, r3, p3⟩ => ?_)
  subst r3
  have e3 := e2.go g3
  obtain ⟨z, g, q⟩ := Post.of e3 p3
  have rx := (r1.ext g2.x e.aM).ext g3.x e.aM
  unfold slD at g
  split at g
  · cases g
    obtain ⟨a, vs, rfl, ha, ra⟩ := rx.lst
    exact .inl ⟨a, vs, rfl, SqL.of ha, fun p hp => q _ _ (ExN.new hp) ((cut_rep ra).newL e3.hm hp)⟩
  · cases g
    obtain ⟨a, vs, rfl, ha, na, ra⟩ := rx.tup
    refine .inr ⟨a, vs, rfl, ha.sq, fun hw => ?_, fun _ p o hp hd => q _ _ (ExN.new hp) ((cut_rep ra).newT e3.hm hp hd)⟩
    have z : cutV vs l u = vs := by
      unfold cutV
      rw [hw.1, hw.2, List.drop_zero, Nat.sub_zero, List.take_length]
    have k := cut_rep (lo := l) (hi := u) ra
    rw [z] at k
    exact q _ _ .refl (.tup ha na k)
  · cases g⟩
/-- xs[::-1] of a list -/
def revD : D → Option D
  | .lst l => some (.lst l.reverse)
  | _ => none
end
/-! calls of built-ins -/
def lenD : List D → Option D
  | [.lst l] => some (.int l.length)
  | [.tup l] => some (.int l.length)
  | [.str x] => if x.length ≤ 1000000 then some (.int x.length) else none
  | _ => none
section
variable {G : Cl}
theorem RepTs.one {ad : Ad} {A M : AP} {H : Hp} {xs : List V} {d : D} (r : RepTs G ad A M H xs [d]) : ∃ x, xs = [x] ∧ RepT G ad A M H x d := by
  cases r with
  | cons r rs =>
    cases rs
    exact ⟨_, rfl, r⟩
theorem RepTs.two {ad : Ad} {A M : AP} {H : Hp} {xs : List V} {d e : D} (r : RepTs G ad A M H xs [d, e]) : ∃ x y, xs = [x, y] ∧ RepT G ad A M H x d ∧ RepT G ad A M H y e := by
  cases r with
  | cons r rs =>
    obtain ⟨y, rfl, r2⟩ := rs.one
    exact ⟨_, _, rfl, r, r2⟩
def rLenU (K : PySem.W.Frag) : List V → Hp → VK → Prop := fun xs H Q => ∃ x n, xs = [x] ∧ LenV K x H n ∧ Q (.int n) H
theorem call_lenU {X : Cx} : CallR X (.builtin "len") (rLenU X.K) := call_len
theorem n_len : ON G (rLenU G.K) lenD := ⟨fun {ad A M H xs ds z} hm hA r g Q q => by
  unfold lenD at g
  split at g
  · cases g
    obtain ⟨x, rfl, rx⟩ := r.one
    obtain ⟨a, vs, rfl, ha, ra⟩ := rx.lst
    exact ⟨_, _, rfl, .inl ⟨vs, SqL.of ha, ra.length.symm⟩, q _ _ .refl (.int _)⟩
  · cases g
    obtain ⟨x, rfl, rx⟩ := r.one
    obtain ⟨a, vs, rfl, ha, na, ra⟩ := rx.tup
    exact ⟨_, _, rfl, .inr ⟨vs, ha.sq, ra.length.symm⟩, q _ _ .refl (.int _)⟩
  · split at g
    · rename_i hl
      cases g
      obtain ⟨x, rfl, rx⟩ := r.one
      cases rx.str
      exact ⟨_, _, rfl, ⟨sz_ok (by omega), rfl⟩, q _ _ .refl (.int _)⟩
    · cases g
  · cases g⟩
def absD : List D → Option D
  | [.int i] => some (.int (if i < 0 then -i else i))
  | _ => none
theorem n_abs : ON G (fun xs H Q => ∃ i, xs = [.int i] ∧ Q (.int (if i < 0 then -i else i)) H) absD := ⟨fun {ad A M H xs ds z} hm hA r g Q q => by
  unfold absD at g
  split at g
  · cases g
    obtain ⟨x, rfl, rx⟩ := r.one
    cases rx.int
    exact ⟨_, rfl, q _ _ .refl (.int _)⟩
  · cases g⟩
def max2D : List D → Option D
  | [.int i, .int j] => some (.int (if j > i then j else i))
  | _ => none
def min2D : List D → Option D
  | [.int i, .int j] => some (.int (if j < i then j else i))
  | _ => none
def intD : List D → Option D
  | [.int i] => some (.int i)
  | [.bl b] => some (.int (if b then 1 else 0))
  | _ => none
theorem n_int : ON G (fun xs H Q => (∃ i, xs = [.int i] ∧ Q (.int i) H) ∨ ∃ k, xs = [.bl k] ∧ Q (.int (if k then 1 else 0)) H) intD := ⟨fun {ad A M H xs ds z} hm hA r g Q q => by
  unfold intD at g
  split at g
  · cases g
    obtain ⟨x, rfl, rx⟩ := r.one
    cases rx.int
    exact .inl ⟨_, rfl, q _ _ .refl (.int _)⟩
  · cases g
    obtain ⟨x, rfl, rx⟩ := r.one
    cases rx.bl
    exact .inr ⟨_, rfl, q _ _ .refl (.int _)⟩
  · cases g⟩
def strD : List D → Option D
  | [.int i] => if i.natAbs < 10 ^ 30 then some (.str (toString i)) else none
  | _ => none
def toTup : List D → Option D
  | [.lst l] => some (.tup l)
  | [.tup l] => some (.tup l)
  | _ => none
def toLst : List D → Option D
  | [.lst l] => some (.lst l)
  | [.tup l] => some (.lst l)
  | _ => none
theorem n_tuple : ON G (rTupF G.K) toTup := ⟨fun {ad A M H xs ds z} hm hA r g Q q => by
  unfold toTup at g
  split at g
  · cases g
    obtain ⟨x, rfl, rx⟩ := r.one
    obtain ⟨a, vs, rfl, ha, ra⟩ := rx.lst
    exact ⟨a, vs, rfl, .inl ⟨SqL.of ha, fun p o hp hd => q _ _ (ExN.new hp) (ra.newT hm hp hd)⟩⟩
  · cases g
    obtain ⟨x, rfl, rx⟩ := r.one
    obtain ⟨a, vs, rfl, ha, na, ra⟩ := rx.tup
    exact ⟨a, vs, rfl, .inr ⟨ha.sq, q _ _ .refl (.tup ha na ra)⟩⟩
  · cases g⟩
/-! lists of ints, of bools -/
def intsOf : List D → Option (List Int)
  | [] => some []
  | .int i :: r => (intsOf r).map (i :: ·)
  | _ :: _ => none
def blsOf : List D → Option (List Bool)
  | [] => some []
  | .bl i :: r => (blsOf r).map (i :: ·)
  | _ :: _ => none
theorem intsOf_map : ∀ ns : List Int, intsOf (ns.map D.int) = some ns
  | [] => rfl
  | n :: r => by simp [intsOf, intsOf_map r]
theorem intsOf_rep {ad : Ad} {M : AP} {H : Hp} : ∀ {vs : List V} {ds : List D} {ns : List Int}, Reps G ad M H vs ds → intsOf ds = some ns → vs = ns.map V.int
  | _, _, _, .nil, e => by
    cases e
    rfl
  | _, _, _, .cons (d := d) r rs, e => by
    cases r <;> simp only [intsOf, Option.map_eq_some_iff, reduceCtorEq] at e
    obtain ⟨l, h1, rfl⟩ := e
    rw [intsOf_rep rs h1]
    rfl
def sumD : List D → Option D
  | [.lst l] => (intsOf l).map fun ns => .int ns.sum
  | _ => none
def anyD : List D → Option D
  | [.lst l] => (blsOf l).map fun ns => .bl (ns.any id)
  | _ => none
def allD : List D → Option D
  | [.lst l] => (blsOf l).map fun ns => .bl (ns.all id)
  | _ => none
end
end Dn
namespace Dn
open PySem PySem.Spec PyProof.Rows L2

/-! what comes of a statement -/
inductive SR where
  | bad
  | nx (ρ : Ro) (m : Mo)
  | rt (d : D) (m : Mo)
  | bk (ρ : Ro) (m : Mo)
  | ct (ρ : Ro) (m : Mo)
  | exc (c : Nat) (l : List D) (m : Mo)
abbrev DS := Ro → Mo → SR
def sBind {α : Type} (r : R α) (k : α → Mo → SR) : SR := match r with
  | .bad => .bad
  | .ok a m => k a m
  | .exc c l m => .exc c l m
def SR.next (r : SR) (k : Ro → Mo → SR) : SR := match r with
  | .nx ρ m => k ρ m
  | r => r
/-- from one heap with what may be changed there to a later one -/
structure Stp (M : AP) (H : Hp) (M' : AP) (H' : Hp) : Prop where
  x : Ext M H H'
  n : ∀ b, M' b → M b ∨ ¬ Liv H b
theorem Stp.refl {M : AP} {H : Hp} : Stp M H M H := ⟨.refl, fun _ h => .inl h⟩
theorem Stp.trans {M M1 M2 : AP} {H H1 H2 : Hp} (a : Stp M H M1 H1) (b : Stp M1 H1 M2 H2) : Stp M H M2 H2 := by
  refine ⟨fun c o n t q => ?_, fun c h => ?_⟩
  · refine b.x c o (fun z => ?_) t (a.x c o n t q)
    rcases a.n c z with z | z
    · exact n z
    · exact z ⟨o, q, t⟩
  · rcases b.n c h with z | z
    · exact a.n c z
    · by_cases hm : M c
      · exact .inl hm
      · exact .inr fun l => z (l.ext a.x hm)
abbrev MB (B : Bx) : AP := fun b => B.A b ∨ B.X b
def PostS (G : Cl) (E : XK) (B : Bx) (M : AP) (H : Hp) (r : SR) (Z : Ends) : Prop := match r with
  | .bad => False
  | .nx ρ m => ∀ M' pm σ H', EnvR G B M' pm ρ m σ H' → Stp M H M' H' → Z.nx σ H'
  | .bk ρ m => ∀ M' pm σ H', EnvR G B M' pm ρ m σ H' → Stp M H M' H' → Z.bk σ H'
  | .ct ρ m => ∀ M' pm σ H', EnvR G B M' pm ρ m σ H' → Stp M H M' H' → Z.ct σ H'
  | .rt d m => ∀ v H', Go G B (MB B) m B.H0 H' → Rep G B.ad (MB B) H' v d → Z.rt v H'
  | .exc c l m => ∀ cls dd H', Go G B (MB B) m B.H0 H' → XRep G B.ad (MB B) H' c l cls dd → E cls dd H'
theorem PostS.later {G : Cl} {E : XK} {B : Bx} {M M1 : AP} {H H1 : Hp} {r : SR} {Z : Ends} (h : PostS G E B M H r Z) (s : Stp M H M1 H1) : PostS G E B M1 H1 r Z := by
  cases r with
  | bad => exact h
  | nx ρ m => exact fun M' pm σ H' e t => h M' pm σ H' e (s.trans t)
  | bk ρ m => exact fun M' pm σ H' e t => h M' pm σ H' e (s.trans t)
  | ct ρ m => exact fun M' pm σ H' e t => h M' pm σ H' e (s.trans t)
  | rt d m => exact h
  | exc c l m => exact h
structure Ds (G : Cl) (E : XK) (t : TS) (f : DS) : Prop where
  run : ∀ {B : Bx} {M : AP} {pm : Nat → Addr} {ρ : Ro} {m : Mo} {σ : L2.St} {H : Hp}, EnvR G B M pm ρ m σ H → ∀ Z : Ends, PostS G E B M H (f ρ m) Z → t Z σ H
theorem EnvR.mb {G : Cl} {B : Bx} {M : AP} {pm : Nat → Addr} {ρ : Ro} {m : Mo} {σ : L2.St} {H : Hp} (e : EnvR G B M pm ρ m σ H) : ∀ b, MB B b → M b := fun b h => e.em b (h.elim .inl fun z => .inr (.inl z))
theorem EnvR.stp {G : Cl} {B : Bx} {M : AP} {pm : Nat → Addr} {ρ : Ro} {m m' : Mo} {σ : L2.St} {H H' : Hp} (e : EnvR G B M pm ρ m σ H) (g : Go G B M m' H H') : Stp M H M H' := ⟨g.x.imp e.aM, fun _ h => .inl h⟩
theorem XRep.less {G : Cl} {ad : Ad} {M M' : AP} {H : Hp} {c : Nat} {l : List D} {cls : Value} {dd : Option Addr} (h : XRep G ad M H c l cls dd) (hM : ∀ b, M' b → M b) : XRep G ad M' H c l cls dd := by
  obtain ⟨h1, h2⟩ := h
  refine ⟨h1, ?_⟩
  cases q : G.xf c with
  | none =>
    rw [q] at h2
    cases l with
    | nil => exact h2
    | cons a r => exact h2.elim
  | some f =>
    rw [q] at h2
    cases l with
    | nil => exact h2.elim
    | cons d r =>
      cases r with
      | cons _ _ => exact h2.elim
      | nil =>
        obtain ⟨a, v, e1, e2, e3, e4⟩ := h2
        exact ⟨a, v, e1, e2, fun z => e3 (hM _ z), e4.less hM⟩
theorem Go.ofEnv {G : Cl} {B : Bx} {M : AP} {pm : Nat → Addr} {ρ : Ro} {m m' : Mo} {σ : L2.St} {H H' : Hp} (e : EnvR G B M pm ρ m σ H) (g : Go G B M m' H H') : Go G B (MB B) m' B.H0 H' := ⟨e.ext.trans g.x, g.ea, g.eh, g.mr.less e.mb, g.tb⟩
/-- an expression within a statement -/
theorem PostS.bind {G : Cl} {E : XK} {B : Bx} {M : AP} {pm : Nat → Addr} {ρ : Ro} {m : Mo} {σ : L2.St} {H : Hp} {α β : Type} {rel : Hp → β → α → Prop} {r : R α} {k : α → Mo → SR} {Z : Ends} (e : EnvR G B M pm ρ m σ H) (h : PostS G E B M H (sBind r k) Z) :
    Post G E B M H rel r (fun b H1 => ∃ a m1, Go G B M m1 H H1 ∧ rel H1 b a ∧ PostS G E B M H1 (k a m1) Z) := by
  cases r with
  | bad => exact h
  | ok a m1 => exact fun b H' g hr => ⟨a, m1, g, hr, PostS.later (show PostS G E B M H (k a m1) Z from h) (e.stp g)⟩
  | exc c l m' => exact fun cls dd H' g hx => h cls dd H' (Go.ofEnv e g) (hx.less e.mb)

/-! a name is stored -/
theorem isM_set {ρ : Ro} {i j : Nat} {s : Sv} : isM (ρ.set i (some s)) j → (j = i ∧ s.mu = true ∧ i < ρ.length) ∨ (j ≠ i ∧ isM ρ j) := fun ⟨u, h, hm⟩ => by
  by_cases hj : j = i
  · subst hj
    by_cases hl : j < ρ.length
    · rw [List.getElem?_set_self hl] at h
      cases h
      exact .inl ⟨rfl, hm, hl⟩
    · rw [List.getElem?_eq_none (by simpa using hl)] at h
      cases h
  · rw [List.getElem?_set_ne (Ne.symm hj)] at h
    exact .inr ⟨hj, u, h, hm⟩
section
variable {G : Cl} {B : Bx} {M : AP} {pm : Nat → Addr} {ρ : Ro} {m m' : Mo} {σ : L2.St} {H H' : Hp}
theorem EnvR.setv {i : Nat} {v : V} {d : D} (e : EnvR G B M pm ρ m σ H) (r : Rep G B.ad M H v d) : EnvR G B M pm (ρ.set i (some (.v d))) m (σ.set i (some v)) H := by
  have old : ∀ {j : Nat}, isM (ρ.set i (some (.v d))) j → isM ρ j ∧ j ≠ i := fun {j} hj => by
    rcases isM_set hj with ⟨_, z, _⟩ | ⟨z1, z⟩
    · cases z
    · exact ⟨z, z1⟩
  refine ⟨fun b h => e.em b ?_, e.hl, e.ea, e.eh, by rw [List.length_set, List.length_set, e.len], fun j d' hj => ?_, fun j ds hj => ?_, fun j l hj => ?_, fun j l hj => ?_, fun a b ha hb => e.inj a b (old ha).1 (old hb).1, fun a ha => e.fr a (old ha).1, e.xs, e.mr, e.mx, fun a ha => e.mut a (old ha).1, e.ext, e.tb, e.tt⟩
  · rcases h with h | h | ⟨j, hj, hb⟩
    · exact .inl h
    · exact .inr (.inl h)
    · exact .inr (.inr ⟨j, (old hj).1, hb⟩)
  · by_cases hji : j = i
    · subst hji
      by_cases hl : j < ρ.length
      · rw [List.getElem?_set_self hl] at hj
        cases hj
        exact ⟨v, List.getElem?_set_self (by rw [e.len]; exact hl), r⟩
      · rw [List.getElem?_eq_none (by simpa using hl)] at hj
        cases hj
    · rw [List.getElem?_set_ne (Ne.symm hji)] at hj
      obtain ⟨w, h1, h2⟩ := e.sv j d' hj
      exact ⟨w, by rw [List.getElem?_set_ne (Ne.symm hji)]; exact h1, h2⟩
  · have hji : j ≠ i := (old ⟨_, hj, rfl⟩).2
    rw [List.getElem?_set_ne (Ne.symm hji)] at hj
    obtain ⟨w, h1, h2, h3⟩ := e.sl j ds hj
    exact ⟨w, by rw [List.getElem?_set_ne (Ne.symm hji)]; exact h1, h2, h3⟩
  · have hji : j ≠ i := (old ⟨_, hj, rfl⟩).2
    rw [List.getElem?_set_ne (Ne.symm hji)] at hj
    obtain ⟨w, h1, h2, h3, h4⟩ := e.sk j l hj
    exact ⟨w, by rw [List.getElem?_set_ne (Ne.symm hji)]; exact h1, h2, h3, h4⟩
  · have hji : j ≠ i := (old ⟨_, hj, rfl⟩).2
    rw [List.getElem?_set_ne (Ne.symm hji)] at hj
    obtain ⟨w, h1, h2, h3, h4, h5⟩ := e.sn j l hj
    exact ⟨w, by rw [List.getElem?_set_ne (Ne.symm hji)]; exact h1, h2, h3, h4, h5⟩
/-- what a new list or dict at p is -/
def NewAt (G : Cl) (B : Bx) (M : AP) (H : Hp) (p : Addr) : Sv → Prop
  | .v _ => False
  | .ml ds => ∃ vs, H p = some (.lst vs) ∧ Reps G B.ad (fun b => M b ∨ b = p) H vs ds
  | .mk l => ∃ kvs : List (Key × V), H p = some (.dK kvs) ∧ kvs.map (·.1) = l.map (·.1) ∧ Reps G B.ad (fun b => M b ∨ b = p) H (kvs.map (·.2)) (l.map (·.2))
  | .mn l => ∃ kvs : List (NestedKey × Addr × V) × Obj, H p = some (dN G.w p kvs) ∧ kvs.1.map (·.1) = l.map (·.1) ∧ Reps G B.ad (fun b => M b ∨ b = p) H (kvs.1.map fun p => V.ref p.2.1) (kDs (l.map (·.1))) ∧ Reps G B.ad (fun b => M b ∨ b = p) H (kvs.1.map (·.2.2)) (l.map (·.2))
/-- all that is known avoids p -/
def Apart (G : Cl) (B : Bx) (M : AP) (H : Hp) (p : Addr) : Prop := ∀ {v : V} {d : D}, Rep G B.ad M H v d → Rep G B.ad (fun b => M b ∨ b = p) H v d
theorem Apart.s {p : Addr} (a : Apart G B M H p) : ∀ {vs : List V} {ds : List D}, Reps G B.ad M H vs ds → Reps G B.ad (fun b => M b ∨ b = p) H vs ds
  | _, _, .nil => .nil
  | _, _, .cons r rs => .cons (a r) (Apart.s a rs)
theorem EnvR.offX {p : Addr} (e : EnvR G B M pm ρ m σ H) (hp : ¬ Liv H p) : ¬ Liv B.H0 p ∧ ¬ B.X p ∧ ¬ B.A p := by
  have nA : ¬ B.A p := fun z => hp (e.mr.has p (by rw [e.eh]; exact z))
  exact ⟨fun l => hp (l.ext e.ext nA), fun z => hp (e.xs p z), nA⟩
/-- a new list or dict is stored -/
theorem EnvR.setm {i : Nat} {p : Addr} {s : Sv} (e : EnvR G B M pm ρ m σ H) (hp : ¬ Liv H p) (g : Go G B M m' H H') (n : NewAt G B M H' p s) (mr' : MRep G (fun b => M b ∨ b = p) H' m') (hi : i < ρ.length) :
    EnvR G B (fun b => M b ∨ b = p) (fun j => if j = i then p else pm j) (ρ.set i (some s)) m' (σ.set i (some (.ref p))) H' ∧ Stp M H (fun b => M b ∨ b = p) H' := by
  obtain ⟨o1, o2, o3⟩ := e.offX hp
  have x := g.x
  have up : ∀ {v : V} {d : D}, Rep G B.ad M H v d → Rep G B.ad (fun b => M b ∨ b = p) H' v d := fun {v d} r => (r.off hp).ext x fun b hb => .inl (e.aM b hb)
  have ups : ∀ {v : List V} {d : List D}, Reps G B.ad M H v d → Reps G B.ad (fun b => M b ∨ b = p) H' v d := fun {v d} r => (r.off hp).ext x fun b hb => .inl (e.aM b hb)
  have old : ∀ {j : Nat}, isM (ρ.set i (some s)) j → j = i ∨ (j ≠ i ∧ isM ρ j) := fun {j} hj => by
    rcases isM_set hj with ⟨z, _, _⟩ | ⟨z1, z⟩
    · exact .inl z
    · exact .inr ⟨z1, z⟩
  have npm : ∀ j, isM ρ j → pm j ≠ p := fun j hj z => by
    have q := e.hl (pm j) (e.em _ (.inr (.inr ⟨j, hj, rfl⟩)))
    rw [z] at q
    exact hp q
  have lp : Liv H' p := by
    cases s with
    | v d => exact n.elim
    | ml ds =>
      obtain ⟨vs, h1, _⟩ := n
      exact ⟨_, h1, fun ps z => by cases z⟩
    | mk l =>
      obtain ⟨vs, h1, _⟩ := n
      exact ⟨_, h1, fun ps z => by cases z⟩
    | mn l =>
      obtain ⟨vs, h1, _⟩ := n
      exact ⟨_, h1, dN_ntbl⟩
  refine ⟨⟨fun b h => ?_, fun b h => ?_, g.ea, g.eh, by rw [List.length_set, List.length_set, e.len], fun j d' hj => ?_, fun j ds hj => ?_, fun j l hj => ?_, fun j l hj => ?_, fun a b ha hb hab => ?_, fun a ha => ?_, fun b hb => (e.xs b hb).ext x fun z => e.mx b z hb, mr', e.mx, fun a ha => ?_, e.ext.trans x, g.tb, e.tt⟩,
    x.imp e.aM, fun b h => h.elim .inl fun z => .inr (by rw [z]; exact hp)⟩
  · rcases h with h | h | ⟨j, hj, hb⟩
    · exact .inl (e.em b (.inl h))
    · exact .inl (e.em b (.inr (.inl h)))
    · rcases old hj with z | ⟨z, z2⟩
      · exact .inr (by rw [← hb]; exact if_pos z)
      · exact .inl (e.em b (.inr (.inr ⟨j, z2, by rw [← hb]; exact (if_neg z).symm⟩)))
  · rcases h with h | h
    · exact (e.go g).hl b h
    · rw [h]
      exact lp
  · by_cases hji : j = i
    · subst hji
      rw [List.getElem?_set_self hi] at hj
      cases hj
      exact n.elim
    · rw [List.getElem?_set_ne (Ne.symm hji)] at hj
      obtain ⟨w, h1, h2⟩ := e.sv j d' hj
      exact ⟨w, by rw [List.getElem?_set_ne (Ne.symm hji)]; exact h1, up h2⟩
  · by_cases hji : j = i
    · subst hji
      rw [List.getElem?_set_self hi] at hj
      cases hj
      obtain ⟨vs, h1, h2⟩ := n
      exact ⟨vs, by rw [if_pos rfl, List.getElem?_set_self (by rw [e.len]; exact hi)], by rw [if_pos rfl]; exact h1, h2⟩
    · rw [List.getElem?_set_ne (Ne.symm hji)] at hj
      obtain ⟨w, h1, h2, h3⟩ := e.sl j ds hj
      exact ⟨w, by rw [List.getElem?_set_ne (Ne.symm hji), if_neg hji]; exact h1, by rw [if_neg hji]; exact x _ _ (e.mut j ⟨_, hj, rfl⟩) (fun ps z => by cases z) h2, ups h3⟩
  · by_cases hji : j = i
    · subst hji
      rw [List.getElem?_set_self hi] at hj
      cases hj
      obtain ⟨vs, h1, h2, h3⟩ := n
      exact ⟨vs, by rw [if_pos rfl, List.getElem?_set_self (by rw [e.len]; exact hi)], by rw [if_pos rfl]; exact h1, h2, h3⟩
    · rw [List.getElem?_set_ne (Ne.symm hji)] at hj
      obtain ⟨w, h1, h2, h3, h4⟩ := e.sk j l hj
      exact ⟨w, by rw [List.getElem?_set_ne (Ne.symm hji), if_neg hji]; exact h1, by rw [if_neg hji]; exact x _ _ (e.mut j ⟨_, hj, rfl⟩) (fun ps z => by cases z) h2, h3, ups h4⟩
  · by_cases hji : j = i
    · subst hji
      rw [List.getElem?_set_self hi] at hj
      cases hj
      obtain ⟨vs, h1, h2, h3, h4⟩ := n
      exact ⟨vs, by rw [if_pos rfl, List.getElem?_set_self (by rw [e.len]; exact hi)], by rw [if_pos rfl]; exact h1, h2, h3, h4⟩
    · rw [List.getElem?_set_ne (Ne.symm hji)] at hj
      obtain ⟨w, h1, h2, h3, h4, h5⟩ := e.sn j l hj
      exact ⟨w, by rw [List.getElem?_set_ne (Ne.symm hji), if_neg hji]; exact h1, by rw [if_neg hji]; exact x _ _ (e.mut j ⟨_, hj, rfl⟩) dN_ntbl h2, h3, ups h4, ups h5⟩
  · rcases old ha with rfl | ⟨z1, z2⟩ <;> rcases old hb with h | ⟨y1, y2⟩
    · exact h.symm
    · simp only [if_true, if_neg y1] at hab
      exact absurd hab.symm (npm b y2)
    · subst h
      simp only [if_true, if_neg z1] at hab
      exact absurd hab (npm a z2)
    · simp only [if_neg z1, if_neg y1] at hab
      exact e.inj a b z2 y2 hab
  · rcases old ha with rfl | ⟨z1, z2⟩
    · simp only [if_true]
      exact ⟨o1, o2⟩
    · simp only [if_neg z1]
      exact e.fr a z2
  · rcases old ha with rfl | ⟨z1, z2⟩
    · simp only [if_true]
      exact o3
    · simp only [if_neg z1]
      exact e.mut a z2
/-- a list or dict of the frame is changed -/
theorem EnvR.updm {i : Nat} {s s' : Sv} {o : HO} (e : EnvR G B M pm ρ m σ H) (hs : ρ[i]? = some (some s)) (hmu : s.mu = true)
    (n : match s' with
      | .v _ => False
      | .ml ds => ∃ vs, o = .lst vs ∧ Reps G B.ad M H vs ds
      | .mk l => ∃ kvs : List (Key × V), o = .dK kvs ∧ kvs.map (·.1) = l.map (·.1) ∧ Reps G B.ad M H (kvs.map (·.2)) (l.map (·.2))
      | .mn l => ∃ kvs : List (NestedKey × Addr × V) × Obj, o = dN G.w (pm i) kvs ∧ kvs.1.map (·.1) = l.map (·.1) ∧ Reps G B.ad M H (kvs.1.map fun p => V.ref p.2.1) (kDs (l.map (·.1))) ∧ Reps G B.ad M H (kvs.1.map (·.2.2)) (l.map (·.2))) :
    EnvR G B M pm (ρ.set i (some s')) m σ (upd H (pm i) o) ∧ Stp M H M (upd H (pm i) o) := by
  have him : isM ρ i := ⟨s, hs, hmu⟩
  have hMp : M (pm i) := e.em _ (.inr (.inr ⟨i, him, rfl⟩))
  have hi : i < ρ.length := (List.getElem?_eq_some_iff.mp hs).1
  have fre : Fre H (pm i) := by
    cases s with
    | v d => cases hmu
    | ml ds => obtain ⟨vs, _, h2, _⟩ := e.sl i ds hs; exact .lst h2
    | mk l => obtain ⟨vs, _, h2, _⟩ := e.sk i l hs; exact .dK h2
    | mn l => obtain ⟨vs, _, h2, _⟩ := e.sn i l hs; exact .dN h2
  have x : Ext M H (upd H (pm i) o) := Ext.refl.chg (.inr hMp)
  have hmu' : s'.mu = true := by
    cases s' with
    | v d => exact n.elim
    | ml _ => rfl
    | mk _ => rfl
    | mn _ => rfl
  have hsl : σ[i]? = some (some (V.ref (pm i))) := by
    cases s with
    | v d => cases hmu
    | ml ds => obtain ⟨vs, h1, _⟩ := e.sl i ds hs; exact h1
    | mk l => obtain ⟨vs, h1, _⟩ := e.sk i l hs; exact h1
    | mn l => obtain ⟨vs, h1, _⟩ := e.sn i l hs; exact h1
  have hm2 : ∀ j, isM (ρ.set i (some s')) j ↔ isM ρ j := fun j => by
    by_cases hji : j = i
    · subst hji
      exact ⟨fun _ => him, fun _ => ⟨s', List.getElem?_set_self hi, hmu'⟩⟩
    · unfold isM
      rw [List.getElem?_set_ne (Ne.symm hji)]
  have ne : ∀ b, B.A b → b ≠ pm i := fun b hb z => e.mut i him (z ▸ hb)
  have mr : MRep G M (upd H (pm i) o) m := e.mr.mono (A := fun b => b = pm i) (Ext.refl.chg (.inr rfl)) (fun b h => h ▸ hMp) (fun _ h => h) fun b hb => ne b (by rw [← e.eh]; exact hb)
  have lo : Liv (upd H (pm i) o) (pm i) := by
    cases s' with
    | v d => exact n.elim
    | ml ds =>
      obtain ⟨vs, rfl, _⟩ := n
      exact ⟨_, upd_same, fun ps z => by cases z⟩
    | mk l =>
      obtain ⟨vs, rfl, _⟩ := n
      exact ⟨_, upd_same, fun ps z => by cases z⟩
    | mn l =>
      obtain ⟨vs, rfl, _⟩ := n
      exact ⟨_, upd_same, dN_ntbl⟩
  refine ⟨⟨fun b h => e.em b ?_, fun b h => ?_, e.ea, e.eh, by rw [List.length_set, e.len], fun j d' hj => ?_, fun j ds hj => ?_, fun j l hj => ?_, fun j l hj => ?_, fun a b ha hb => e.inj a b ((hm2 a).mp ha) ((hm2 b).mp hb), fun a ha => e.fr a ((hm2 a).mp ha), fun b hb => ?_, mr, e.mx, fun a ha => e.mut a ((hm2 a).mp ha), ?_, tabs_upd e.tb fre, e.tt⟩, x, fun _ h => .inl h⟩
  · simpa only [hm2] using h
  · by_cases q : b = pm i
    · rw [q]
      exact lo
    · obtain ⟨u, h1, h2⟩ := e.hl b h
      exact ⟨u, by rw [upd_ne q]; exact h1, h2⟩
  · by_cases hji : j = i
    · subst hji
      rw [List.getElem?_set_self hi] at hj
      cases hj
      exact n.elim
    · rw [List.getElem?_set_ne (Ne.symm hji)] at hj
      obtain ⟨w, h1, h2⟩ := e.sv j d' hj
      exact ⟨w, h1, h2.ext x fun _ h => h⟩
  · by_cases hji : j = i
    · subst hji
      rw [List.getElem?_set_self hi] at hj
      cases hj
      obtain ⟨vs, rfl, h2⟩ := n
      exact ⟨vs, hsl, upd_same, h2.ext x fun _ h => h⟩
    · rw [List.getElem?_set_ne (Ne.symm hji)] at hj
      obtain ⟨w, h1, h2, h3⟩ := e.sl j ds hj
      exact ⟨w, h1, by rw [upd_ne (fun z => hji (e.inj j i ⟨_, hj, rfl⟩ him z))]; exact h2, h3.ext x fun _ h => h⟩
  · by_cases hji : j = i
    · subst hji
      rw [List.getElem?_set_self hi] at hj
      cases hj
      obtain ⟨vs, rfl, h2, h3⟩ := n
      exact ⟨vs, hsl, upd_same, h2, h3.ext x fun _ h => h⟩
    · rw [List.getElem?_set_ne (Ne.symm hji)] at hj
      obtain ⟨w, h1, h2, h3, h4⟩ := e.sk j l hj
      exact ⟨w, h1, by rw [upd_ne (fun z => hji (e.inj j i ⟨_, hj, rfl⟩ him z))]; exact h2, h3, h4.ext x fun _ h => h⟩
  · by_cases hji : j = i
    · subst hji
      rw [List.getElem?_set_self hi] at hj
      cases hj
      obtain ⟨vs, rfl, h2, h3, h4⟩ := n
      exact ⟨vs, hsl, upd_same, h2, h3.ext x fun _ h => h, h4.ext x fun _ h => h⟩
    · rw [List.getElem?_set_ne (Ne.symm hji)] at hj
      obtain ⟨w, h1, h2, h3, h4, h5⟩ := e.sn j l hj
      exact ⟨w, h1, by rw [upd_ne (fun z => hji (e.inj j i ⟨_, hj, rfl⟩ him z))]; exact h2, h3, h4.ext x fun _ h => h, h5.ext x fun _ h => h⟩
  · obtain ⟨u, q, t⟩ := e.xs b hb
    have nb : b ≠ pm i := fun z => (e.fr i him).2 (z ▸ hb)
    exact ⟨u, by rw [upd_ne nb]; exact q, t⟩
  · intro b u nb t q
    have nb' : b ≠ pm i := fun z => (e.fr i him).1 (z ▸ ⟨u, q, t⟩)
    rw [upd_ne nb']
    exact e.ext b u nb t q
/-- a name is emptied -/
theorem isM_clr {ρ : Ro} {i j : Nat} : isM (ρ.set i none) j → isM ρ j ∧ j ≠ i := fun ⟨u, h, hm⟩ => by
  by_cases hj : j = i
  · subst hj
    by_cases hl : j < ρ.length
    · rw [List.getElem?_set_self hl] at h
      cases h
    · rw [List.getElem?_eq_none (by simpa using hl)] at h
      cases h
  · rw [List.getElem?_set_ne (Ne.symm hj)] at h
    exact ⟨⟨u, h, hm⟩, hj⟩
theorem get_clr {ρ : Ro} {i j : Nat} {u : Sv} (h : (ρ.set i none)[j]? = some (some u)) : ρ[j]? = some (some u) := by
  by_cases hj : j = i
  · subst hj
    by_cases hl : j < ρ.length
    · rw [List.getElem?_set_self hl] at h
      cases h
    · rw [List.getElem?_eq_none (by simpa using hl)] at h
      cases h
  · rw [List.getElem?_set_ne (Ne.symm hj)] at h
    exact h
theorem EnvR.clr {i : Nat} (e : EnvR G B M pm ρ m σ H) : EnvR G B M pm (ρ.set i none) m σ H := by
  refine ⟨fun b h => e.em b ?_, e.hl, e.ea, e.eh, by rw [List.length_set, e.len], fun j d' hj => e.sv j d' (get_clr hj), fun j ds hj => e.sl j ds (get_clr hj), fun j l hj => e.sk j l (get_clr hj), fun j l hj => e.sn j l (get_clr hj), fun a b ha hb => e.inj a b (isM_clr ha).1 (isM_clr hb).1, fun a ha => e.fr a (isM_clr ha).1, e.xs, e.mr, e.mx, fun a ha => e.mut a (isM_clr ha).1, e.ext, e.tb, e.tt⟩
  rcases h with h | h | ⟨j, hj, hb⟩
  · exact .inl h
  · exact .inr (.inl h)
  · exact .inr (.inr ⟨j, (isM_clr hj).1, hb⟩)
/-- fewer addresses that are to be avoided -/
theorem EnvR.cut {N : AP} (e : EnvR G B M pm ρ m σ H) (hn : ∀ b, N b → M b) (h : ∀ b, (B.A b ∨ B.X b ∨ ∃ i, isM ρ i ∧ pm i = b) → N b) : EnvR G B N pm ρ m σ H := by
  refine ⟨h, fun b hb => e.hl b (hn b hb), e.ea, e.eh, e.len, fun j d hj => ?_, fun j ds hj => ?_, fun j l hj => ?_, fun j l hj => ?_, e.inj, e.fr, e.xs, e.mr.less hn, e.mx, e.mut, e.ext, e.tb, e.tt⟩
  · obtain ⟨w, h1, h2⟩ := e.sv j d hj
    exact ⟨w, h1, h2.less hn⟩
  · obtain ⟨w, h1, h2, h3⟩ := e.sl j ds hj
    exact ⟨w, h1, h2, h3.less hn⟩
  · obtain ⟨w, h1, h2, h3, h4⟩ := e.sk j l hj
    exact ⟨w, h1, h2, h3, h4.less hn⟩
  · obtain ⟨w, h1, h2, h3, h4, h5⟩ := e.sn j l hj
    exact ⟨w, h1, h2, h3, h4.less hn, h5.less hn⟩
end
end Dn
namespace Dn
open PySem PySem.Spec PyProof.Rows L2
section
variable {G : Cl} {B : Bx} {M : AP} {pm : Nat → Addr} {ρ : Ro} {m m' : Mo} {σ : L2.St} {H H' : Hp}
/-- a list of the frame that is changed no more -/
theorem EnvR.frz {i : Nat} {s : Sv} {d : D} (e : EnvR G B M pm ρ m σ H) (hs : ρ[i]? = some (some s)) (hd : match s with
    | .v _ => False
    | .ml ds => d = .lst ds
    | .mk l => d = .dct l
    | .mn l => d = .dcn l) : ∃ M', EnvR G B M' pm (ρ.set i (some (.v d))) m σ H ∧ Stp M H M' H := by
  have hmu : s.mu = true := by
    cases s with
    | v d => exact hd.elim
    | ml _ => rfl
    | mk _ => rfl
    | mn _ => rfl
  have him : isM ρ i := ⟨s, hs, hmu⟩
  have hi : i < ρ.length := (List.getElem?_eq_some_iff.mp hs).1
  have e1 := (e.clr (i := i)).cut (N := fun b => M b ∧ b ≠ pm i) (fun b h => h.1) fun b h => by
    refine ⟨(e.clr (i := i)).em b h, fun z => ?_⟩
    subst z
    rcases h with h | h | ⟨j, hj, hb⟩
    · exact e.mut i him h
    · exact (e.fr i him).2 h
    · exact (isM_clr hj).2 (e.inj j i (isM_clr hj).1 him hb)
  have sub : ∀ b, (M b ∧ b ≠ pm i) → M b := fun b h => h.1
  obtain ⟨v, hv, hr⟩ : ∃ v, σ[i]? = some (some v) ∧ Rep G B.ad (fun b => M b ∧ b ≠ pm i) H v d := by
    cases s with
    | v d => exact hd.elim
    | ml ds =>
      obtain ⟨vs, h1, h2, h3⟩ := e.sl i ds hs
      subst hd
      exact ⟨_, h1, .lst h2 (fun z => z.2 rfl) (h3.less sub)⟩
    | mk l =>
      obtain ⟨vs, h1, h2, h3, h4⟩ := e.sk i l hs
      subst hd
      exact ⟨_, h1, .dct h2 (fun z => z.2 rfl) h3 (h4.less sub)⟩
    | mn l =>
      obtain ⟨vs, h1, h2, h3, h4, h5⟩ := e.sn i l hs
      subst hd
      exact ⟨_, h1, .dcn h2 (fun z => z.2 rfl) h3 (h4.less sub) (h5.less sub)⟩
  have e2 := e1.setv (i := i) hr
  rw [List.set_set] at e2
  have es : σ.set i (some v) = σ := by
    apply List.ext_getElem?
    intro j
    by_cases q : j = i
    · subst q
      rw [List.getElem?_set_self (by rw [e.len]; exact hi), hv]
    · rw [List.getElem?_set_ne (Ne.symm q)]
  rw [es] at e2
  exact ⟨_, e2, .refl, fun b h => .inl h.1⟩
end
/-! values that are stored -/
def RepV (G : Cl) (B : Bx) (M : AP) (H : Hp) (m' : Mo) (H' : Hp) (v : V) : Sv → Prop
  | .v d => Rep G B.ad M H' v d
  | s => ∃ p, v = .ref p ∧ ¬ Liv H p ∧ NewAt G B M H' p s ∧ MRep G (fun b => M b ∨ b = p) H' m'
abbrev DV := Ro → Mo → R Sv
structure Dv (G : Cl) (E : XK) (t : TE) (f : DV) : Prop where
  run : ∀ {B : Bx} {M : AP} {pm : Nat → Addr} {ρ : Ro} {m : Mo} {σ : L2.St} {H : Hp}, EnvR G B M pm ρ m σ H → ∀ Q : VK, PostM G E B M H (RepV G B M H) (f ρ m) Q → t σ H Q
def R.map {α β : Type} (g : α → β) (r : R α) : R β := r.bind fun a m => .ok (g a) m
section
variable {G : Cl} {E : XK}
def dvV (f : DE) : DV := fun ρ m => (f ρ m).map .v
theorem dv {t : TE} {f : DE} (h : De G E t f) : Dv G E t (dvV f) := ⟨fun {B M pm ρ m σ H} e Q p => by
  refine h.run e _ ((PostM.bind p).imp' fun x H1 ⟨d1, m1, g1, r1, p1⟩ => ?_)
  exact p1 _ _ (e.go g1).here r1⟩
theorem none_back {B : Bx} {M : AP} {pm : Nat → Addr} {ρ : Ro} {m m' : Mo} {σ : L2.St} {H H' : Hp} {p : Addr} (e : EnvR G B M pm ρ m σ H) (g : Go G B M m' H H') (h : H' p = none) : ¬ Liv H p := fun ⟨o, q, t⟩ => by
  have nA : ¬ B.A p := fun z => by
    obtain ⟨o, q, _⟩ := g.mr.has p (by rw [g.eh]; exact z)
    rw [h] at q
    cases q
  have z := g.x p o nA t q
  rw [h] at z
  cases z
/-- a new address is new for what stood before -/
theorem Post.newV {B : Bx} {M : AP} {pm : Nat → Addr} {ρ : Ro} {m m1 : Mo} {σ : L2.St} {H H1 : Hp} {s : Sv} {o : HO} {p : Addr} {Q : VK} (e : EnvR G B M pm ρ m σ H) (g : Go G B M m1 H H1) (hp : H1 p = none) (hs : s.mu = true) (n : NewAt G B M (upd H1 p o) p s)
    (q : ∀ b H', Go G B M m1 H1 H' → RepV G B M H m1 H' b s → Q b H') : Q (.ref p) (upd H1 p o) := by
  refine q _ _ ((e.go g).same (ExN.new hp)) ?_
  cases s with
  | v d => cases hs
  | ml ds => exact ⟨p, rfl, none_back e g hp, n, (g.mr.off (Liv.none hp)).ext (Ext.new hp)⟩
  | mk l => exact ⟨p, rfl, none_back e g hp, n, (g.mr.off (Liv.none hp)).ext (Ext.new hp)⟩
  | mn l => exact ⟨p, rfl, none_back e g hp, n, (g.mr.off (Liv.none hp)).ext (Ext.new hp)⟩
theorem RepV.back {B : Bx} {M : AP} {H H1 H' : Hp} {m' : Mo} {v : V} {s : Sv} (h : RepV G B M H1 m' H' v s) (b : ∀ p, ¬ Liv H1 p → ¬ Liv H p) : RepV G B M H m' H' v s := by
  cases s with
  | v d => exact h
  | ml ds =>
    obtain ⟨p, e, n, q⟩ := h
    exact ⟨p, e, b p n, q⟩
  | mk l =>
    obtain ⟨p, e, n, q⟩ := h
    exact ⟨p, e, b p n, q⟩
  | mn l =>
    obtain ⟨p, e, n, q⟩ := h
    exact ⟨p, e, b p n, q⟩
def dvLst (fa : DA) : DV := fun ρ m => (fa ρ m).bind fun xs m1 => if xs.length ≤ 10000 then .ok (.ml xs) m1 else .bad
theorem dv_lst {ta : TA} {fa : DA} (ha : Da G E ta fa) : Dv G E (tLst ta) (dvLst fa) := ⟨fun {B M pm ρ m σ H} e Q p => by
  refine ha.run e _ ((PostM.bind p).imp' fun x H1 ⟨d1, m1, g1, r1, p1⟩ => ?_)
  have e1 := e.go g1
  by_cases hl : d1.length ≤ 10000
  · rw [if_pos hl] at p1
    refine ⟨sz_ok (by rw [r1.length]; omega), fun q hq => ?_⟩
    exact Post.newV (s := .ml _) e g1 hq rfl ⟨x, upd_same, (r1.off (Liv.none hq)).ext (Ext.new (A := Non) hq) fun _ z => z.elim⟩ p1
  · rw [if_neg hl] at p1
    exact p1.elim⟩
/-- {} -/
def dvNew : DV := fun _ m => .ok (.mk []) m
/-- list(x) -/
def dvList (fa : DA) : DV := fun ρ m => (fa ρ m).bind fun xs m1 => match xs with
  | [.lst l] => .ok (.ml l) m1
  | [.tup l] => .ok (.ml l) m1
  | _ => .bad
/-- xs * n of a list -/
def dvRep (fa fb : DE) : DV := fun ρ m => (fa ρ m).bind fun x m1 => (fb ρ m1).bind fun y m2 => match x, y with
  | .lst x, .int k => if 0 ≤ k ∧ k ≤ 1000 ∧ x.length ≤ 1000 then .ok (.ml (List.replicate k.toNat x).flatten) m2 else .bad
  | _, _ => .bad
/-- xs + ys of lists -/
def dvCat (fa fb : DE) : DV := fun ρ m => (fa ρ m).bind fun x m1 => (fb ρ m1).bind fun y m2 => match x, y with
  | .lst x, .lst y => if x.length + y.length ≤ 1000000 then .ok (.ml (x ++ y)) m2 else .bad
  | _, _ => .bad
theorem dv_cat {ta tb : TE} {fa fb : DE} (ha : Dq G E ta fa) (hb : Dq G E tb fb) : Dv G E (tOp (rAddU G.K) ta tb) (dvCat fa fb) := ⟨fun {B M pm ρ m σ H} e Q p => by
  refine ha.run e _ ((PostM.bind p).imp' fun x H1 ⟨d1, m1, g1, r1, p1⟩ => ?_)
  have e1 := e.go g1
  refine hb.run e1 _ ((PostM.bind p1).imp' fun y H2 ⟨d2, m2, g2, r2, p2⟩ => ?_)
  have e2 := e1.go g2
  have rx := r1.ext g2.x e.aM
  split at p2
  · split at p2
    · rename_i h
      obtain ⟨a, vs, rfl, ha, ra⟩ := rx.lst
      obtain ⟨b, ws, rfl, hb, rb⟩ := r2.lst
      exact .inr (.inr (.inr ⟨a, b, vs, ws, rfl, rfl, ha, hb, sz_ok (by rw [ra.length, rb.length]; omega), fun p hp => Post.newV (s := .ml _) e (g1.trans g2) hp rfl ⟨_, upd_same, ((ra.append rb).off (Liv.none hp)).ext (Ext.new (A := Non) hp) fun _ z => z.elim⟩ p2⟩))
    · exact p2.elim
  · exact p2.elim⟩
/-- a slice of a list -/
def dvSl (fx : DE) (fl fh : DO) : DV := fun ρ m => (fx ρ m).bind fun x m1 => (fl ρ m1).bind fun l m2 => (fh ρ m2).bind fun h m3 => match x with
  | .lst x => .ok (.ml (cutD x l h)) m3
  | _ => .bad
/-! statements -/
def sNx : DS := fun ρ m => .nx ρ m
def sSeq (f g : DS) : DS := fun ρ m => (f ρ m).next g
theorem ds_nil : Ds G E tNext sNx := ⟨fun e Z p => p _ _ _ _ e .refl⟩
theorem ds_seq {t u : TS} {f g : DS} (ht : Ds G E t f) (hu : Ds G E u g) : Ds G E (tSeq t u) (sSeq f g) := ⟨fun {B M pm ρ m σ H} e Z p => by
  refine ht.run e _ ?_
  unfold sSeq at p
  cases h : f ρ m with
  | nx ρ1 m1 =>
    rw [h] at p
    exact fun M1 pm1 σ1 H1 e1 s1 => hu.run e1 Z (PostS.later (show PostS G E B M H (g ρ1 m1) Z from p) s1)
  | bad => rw [h] at p; exact p
  | rt d m1 => rw [h] at p; exact p
  | bk ρ1 m1 => rw [h] at p; exact p
  | ct ρ1 m1 => rw [h] at p; exact p
  | exc c l m1 => rw [h] at p; exact p⟩
def sBrk : DS := fun ρ m => .bk ρ m
def sCt : DS := fun ρ m => .ct ρ m
def sRet (f : DE) : DS := fun ρ m => sBind (f ρ m) fun d m1 => .rt d m1
theorem ds_ret {t : TE} {f : DE} (h : De G E t f) : Ds G E (tRet t) (sRet f) := ⟨fun {B M pm ρ m σ H} e Z p => by
  refine h.run e _ ((PostS.bind e p).imp' fun x H1 ⟨d1, m1, g1, r1, p1⟩ => ?_)
  exact p1 _ _ (Go.ofEnv e g1) (r1.less e.mb)⟩
def sRetN : DS := fun _ m => .rt .non m
def sExpr (f : DE) : DS := fun ρ m => sBind (f ρ m) fun _ m1 => .nx ρ m1
theorem ds_expr {t : TE} {f : DE} (h : De G E t f) : Ds G E (tDrop t) (sExpr f) := ⟨fun {B M pm ρ m σ H} e Z p => by
  refine h.run e _ ((PostS.bind e p).imp' fun x H1 ⟨d1, m1, g1, r1, p1⟩ => ?_)
  exact p1 _ _ _ _ (e.go g1) .refl⟩
def sIf (c : DT) (f g : DS) : DS := fun ρ m => sBind (c ρ m) fun b m1 => if b = true then f ρ m1 else g ρ m1
theorem ds_if {tc : TT} {t u : TS} {fc : DT} {f g : DS} (hc : Dt G E tc fc) (ht : Ds G E t f) (hu : Ds G E u g) : Ds G E (tIfS tc t u) (sIf fc f g) := ⟨fun {B M pm ρ m σ H} e Z p => by
  refine hc.run e _ ((PostS.bind e p).imp' fun x H1 ⟨d1, m1, g1, r1, p1⟩ => ?_)
  subst r1
  have e1 := e.go g1
  cases x with
  | true => exact ht.run e1 Z p1
  | false => exact hu.run e1 Z p1⟩
/-- x = e -/
def sSet (i : Nat) (f : DV) : DS := fun ρ m => sBind (f ρ m) fun s m1 => if i < ρ.length then .nx (ρ.set i (some s)) m1 else .bad
theorem EnvR.setV {B : Bx} {M : AP} {pm : Nat → Addr} {ρ : Ro} {m m1 : Mo} {σ : L2.St} {H H1 : Hp} {i : Nat} {v : V} {s : Sv} (e : EnvR G B M pm ρ m σ H) (g : Go G B M m1 H H1) (r : RepV G B M H m1 H1 v s) (hi : i < ρ.length) :
    ∃ M' pm', EnvR G B M' pm' (ρ.set i (some s)) m1 (σ.set i (some v)) H1 ∧ Stp M H M' H1 := by
  cases s with
  | v d =>
    have e' := (e.go g).setv (i := i) (show Rep G B.ad M H1 v d from r)
    exact ⟨M, pm, e', e.stp g⟩
  | ml ds =>
    obtain ⟨p, rfl, hp, n, mr⟩ := r
    obtain ⟨e', s'⟩ := e.setm hp g n mr hi
    exact ⟨_, _, e', s'⟩
  | mk l =>
    obtain ⟨p, rfl, hp, n, mr⟩ := r
    obtain ⟨e', s'⟩ := e.setm hp g n mr hi
    exact ⟨_, _, e', s'⟩
  | mn l =>
    obtain ⟨p, rfl, hp, n, mr⟩ := r
    obtain ⟨e', s'⟩ := e.setm hp g n mr hi
    exact ⟨_, _, e', s'⟩
theorem PostS.bind0 {B : Bx} {M : AP} {pm : Nat → Addr} {ρ : Ro} {m : Mo} {σ : L2.St} {H : Hp} {α β : Type} {rel : Hp → β → α → Prop} {r : R α} {k : α → Mo → SR} {Z : Ends} (e : EnvR G B M pm ρ m σ H) (h : PostS G E B M H (sBind r k) Z) :
    Post G E B M H rel r (fun b H1 => ∃ a m1, Go G B M m1 H H1 ∧ rel H1 b a ∧ PostS G E B M H (k a m1) Z) := by
  cases r with
  | bad => exact h
  | ok a m1 => exact fun b H' g hr => ⟨a, m1, g, hr, h⟩
  | exc c l m' => exact fun cls dd H' g hx => h cls dd H' (Go.ofEnv e g) (hx.less e.mb)
theorem PostS.bindM {B : Bx} {M : AP} {pm : Nat → Addr} {ρ : Ro} {m : Mo} {σ : L2.St} {H : Hp} {α β : Type} {rel : Mo → Hp → β → α → Prop} {r : R α} {k : α → Mo → SR} {Z : Ends} (e : EnvR G B M pm ρ m σ H) (h : PostS G E B M H (sBind r k) Z) :
    PostM G E B M H rel r (fun b H1 => ∃ a m1, Go G B M m1 H H1 ∧ rel m1 H1 b a ∧ PostS G E B M H (k a m1) Z) := by
  cases r with
  | bad => exact h
  | ok a m1 => exact fun b H' g hr => ⟨a, m1, g, hr, h⟩
  | exc c l m' => exact fun cls dd H' g hx => h cls dd H' (Go.ofEnv e g) (hx.less e.mb)
theorem ds_set {i : Nat} {t : TE} {f : DV} (h : Dv G E t f) : Ds G E (tAsg t (gName i)) (sSet i f) := ⟨fun {B M pm ρ m σ H} e Z p => by
  have q := PostS.bindM (rel := RepV G B M H) e p
  refine h.run e _ (q.imp' fun x H1 ⟨d1, m1, g1, r1, p1⟩ => ?_)
  by_cases hi : i < ρ.length
  · rw [if_pos hi] at p1
    obtain ⟨M', pm', e', s'⟩ := e.setV g1 r1 hi
    exact p1 M' pm' _ H1 e' s'
  · rw [if_neg hi] at p1
    exact p1.elim⟩
/-- a list that changes no more from here on -/
def frzR (i : Nat) (ρ : Ro) : Ro := match ρ[i]? with
  | some (some (.ml ds)) => ρ.set i (some (.v (.lst ds)))
  | some (some (.mk l)) => ρ.set i (some (.v (.dct l)))
  | some (some (.mn l)) => ρ.set i (some (.v (.dcn l)))
  | _ => ρ
def sFrz (i : Nat) (f : DS) : DS := fun ρ m => f (frzR i ρ) m
theorem ds_frz {t : TS} {f : DS} (i : Nat) (h : Ds G E t f) : Ds G E t (sFrz i f) := ⟨fun {B M pm ρ m σ H} e Z p => by
  unfold sFrz frzR at p
  split at p
  · rename_i ds hs
    obtain ⟨M', e', s'⟩ := e.frz hs rfl
    exact h.run e' Z (p.later s')
  · rename_i l hs
    obtain ⟨M', e', s'⟩ := e.frz hs rfl
    exact h.run e' Z (p.later s')
  · rename_i l hs
    obtain ⟨M', e', s'⟩ := e.frz hs rfl
    exact h.run e' Z (p.later s')
  · exact h.run e Z p⟩
/-- xs.append(e) -/
def sApp (i : Nat) (f : DE) : DS := fun ρ m => match ρ[i]? with
  | some (some (.ml ds)) => sBind (f ρ m) fun d m1 => if ds.length ≤ 10000 then .nx (ρ.set i (some (.ml (ds ++ [d])))) m1 else .bad
  | _ => .bad
theorem ds_app {t : TE} {f : DE} (i : Nat) (h : De G E t f) : Ds G E (tDrop (tBM G.K "list" rAppend (tVar i) (tCons t tNil))) (sApp i f) := ⟨fun {B M pm ρ m σ H} e Z p => by
  unfold sApp at p
  split at p
  · rename_i ds hs
    obtain ⟨vs, h1, h2, h3⟩ := e.sl i ds hs
    refine ⟨_, h1, .inl ⟨rfl, _, SqL.of h2⟩, ?_⟩
    refine h.run e _ ((PostS.bind0 e p).imp' fun x H1 ⟨d1, m1, g1, r1, p1⟩ => ?_)
    have e1 := e.go g1
    obtain ⟨vs', h1', h2', h3'⟩ := e1.sl i ds hs
    by_cases hl : ds.length ≤ 10000
    · rw [if_pos hl] at p1
      refine ⟨_, vs', x, rfl, rfl, h2', Nat.lt_of_le_of_lt (Nat.le_of_eq h3'.length) (Nat.lt_of_le_of_lt hl (by decide)), ?_⟩
      obtain ⟨e2, s2⟩ := e1.updm (s' := .ml (ds ++ [d1])) (o := .lst (vs' ++ [x])) hs rfl ⟨_, rfl, h3'.append (.one r1)⟩
      exact p1 _ _ _ _ e2 ((e.stp g1).trans s2)
    · rw [if_neg hl] at p1
      exact p1.elim
  · exact p.elim⟩
/-- xs[k] = e -/
def sPut (i : Nat) (fv fk : DE) : DS := fun ρ m => sBind (fv ρ m) fun d m1 => match ρ[i]? with
  | some (some (.ml ds)) => sBind (fk ρ m1) fun k m2 => match k with
    | .int k => match ixN ds.length k with
      | some j => .nx (ρ.set i (some (.ml (ds.set j d)))) m2
      | none => .bad
    | _ => .bad
  | _ => .bad
/-- x += e, whole numbers -/
def sAug (i : Nat) (g : D → D → Option D) (f : DE) : DS := fun ρ m => match ρ[i]? with
  | some (some (.v d)) => sBind (f ρ m) fun y m1 => match g d y with
    | some z => .nx (ρ.set i (some (.v z))) m1
    | none => .bad
  | _ => .bad
end

/-! targets -/
structure Dg (G : Cl) (g : TG) (h : D → Ro → Option Ro) (os : List Nat) : Prop where
  run : ∀ {B : Bx} {M : AP} {pm : Nat → Addr} {ρ ρ' : Ro} {m : Mo} {σ : L2.St} {H : Hp} {v : V} {d : D}, EnvR G B M pm ρ m σ H → Rep G B.ad M H v d → h d ρ = some ρ' → ∀ Q : L2.St → Hp → Prop,
    (∀ σ', EnvR G B M pm ρ' m σ' H → (∀ vs, (∀ i ∈ os, i ∈ vs) → wipe σ' vs = wipe σ vs) → Q σ' H) → g v σ H Q
structure Dgs (G : Cl) (g : TGs) (h : List D → Ro → Option Ro) (os : List Nat) : Prop where
  run : ∀ {B : Bx} {M : AP} {pm : Nat → Addr} {ρ ρ' : Ro} {m : Mo} {σ : L2.St} {H : Hp} {v : List V} {d : List D}, EnvR G B M pm ρ m σ H → Reps G B.ad M H v d → h d ρ = some ρ' → ∀ Q : L2.St → Hp → Prop,
    (∀ σ', EnvR G B M pm ρ' m σ' H → (∀ vs, (∀ i ∈ os, i ∈ vs) → wipe σ' vs = wipe σ vs) → Q σ' H) → g v σ H Q
theorem wipe_get {σ : L2.St} {i : Nat} : ∀ {vs : List Nat}, (wipe σ vs)[i]? = if i ∈ vs then (if i < σ.length then some none else none) else σ[i]?
  | [] => by simp [wipe]
  | v :: vs => by
    unfold wipe
    by_cases hv : v = i
    · subst hv
      rw [if_pos List.mem_cons_self]
      by_cases hl : v < σ.length
      · rw [List.getElem?_set_self (by rw [wipe_length]; exact hl), if_pos hl]
      · rw [List.getElem?_eq_none (by rw [List.length_set, wipe_length]; omega), if_neg hl]
    · rw [List.getElem?_set_ne hv, wipe_get]
      have e : (i ∈ v :: vs) ↔ i ∈ vs := by
        rw [List.mem_cons]
        exact ⟨fun h => h.elim (fun z => absurd z.symm hv) id, .inr⟩
      simp only [e]
theorem wipe_set {σ : L2.St} {i : Nat} {x : Option V} {vs : List Nat} (h : i ∈ vs) : wipe (σ.set i x) vs = wipe σ vs := by
  apply List.ext_getElem?
  intro j
  rw [wipe_get, wipe_get, List.length_set]
  by_cases hj : j ∈ vs
  · rw [if_pos hj, if_pos hj]
  · rw [if_neg hj, if_neg hj, List.getElem?_set_ne (fun z : i = j => hj (by rw [← z]; exact h))]
def hName (i : Nat) : D → Ro → Option Ro := fun d ρ => some (ρ.set i (some (.v d)))
def hNil : List D → Ro → Option Ro := fun ds ρ => match ds with
  | [] => some ρ
  | _ => none
def hCons (h : D → Ro → Option Ro) (k : List D → Ro → Option Ro) : List D → Ro → Option Ro := fun ds ρ => match ds with
  | d :: r => (h d ρ).bind (k r)
  | [] => none
def hTup (n : Nat) (k : List D → Ro → Option Ro) : D → Ro → Option Ro := fun d ρ => match d with
  | .tup l => if l.length = n then k l ρ else none
  | _ => none
section
variable {G : Cl} {E : XK}
theorem dg_name (i : Nat) : Dg G (gName i) (hName i) [i] := ⟨fun {B M pm ρ ρ' m σ H v d} e r h Q q => by
  cases h
  exact q _ (e.setv (i := i) r) fun vs hv => wipe_set (hv i (by simp))⟩
theorem dgs_nil : Dgs G gNil hNil [] := ⟨fun {B M pm ρ ρ' m σ H v d} e r h Q q => by
  cases r with
  | nil =>
    cases h
    exact ⟨rfl, q σ e fun _ _ => rfl⟩
  | cons _ _ => cases h⟩
theorem dgs_cons {g : TG} {gs : TGs} {h : D → Ro → Option Ro} {k : List D → Ro → Option Ro} {os os' : List Nat} (a : Dg G g h os) (b : Dgs G gs k os') : Dgs G (gCons g gs) (hCons h k) (os ++ os') := ⟨fun {B M pm ρ ρ' m σ H v d} e r hh Q q => by
  cases r with
  | nil => cases hh
  | cons r rs =>
    rename_i v vs d ds
    have hh' : (h d ρ).bind (k ds) = some ρ' := hh
    cases q1 : h d ρ with
    | none =>
      rw [q1] at hh'
      cases hh'
    | some ρ1 =>
      rw [q1] at hh'
      exact ⟨v, vs, rfl, a.run e r q1 _ fun σ1 e1 w1 => b.run e1 rs hh' _ fun σ2 e2 w2 => q σ2 e2 fun vs hv => (w2 vs fun i hi => hv i (List.mem_append_right _ hi)).trans (w1 vs fun i hi => hv i (List.mem_append_left _ hi))⟩⟩
theorem dg_tup {gs : TGs} {k : List D → Ro → Option Ro} {os : List Nat} {n : Nat} (b : Dgs G gs k os) : Dg G (gTup G.K n gs) (hTup n k) os := ⟨fun {B M pm ρ ρ' m σ H v d} e r hh Q q => by
  unfold hTup at hh
  split at hh
  · split at hh
    · rename_i l hl
      cases r with
      | tup h n' r => exact ⟨_, _, rfl, h.sq, r.length.trans hl, b.run e r hh Q q⟩
    · cases hh
  · cases hh⟩
/-- a target gets a value -/
def sAsg (f : DE) (h : D → Ro → Option Ro) : DS := fun ρ m => sBind (f ρ m) fun d m1 => match h d ρ with
  | some ρ' => .nx ρ' m1
  | none => .bad
end
end Dn
namespace Dn
open PySem PySem.Spec PyProof.Rows L2

theorem Stp.mono {M M' : AP} {H H' : Hp} (s : Stp M H M' H') {G : Cl} {ad : Ad} {v : V} {d : D} (r : Rep G ad M H v d) : Rep G ad M' H' v d := by
  have k : Rep G ad (fun b => M b ∨ M' b) H v d := Rep.or s.n r
  exact k.mono s.x (fun b h => .inl h) fun b h => .inr h
/-! what is walked -/
structure Wk (G : Cl) (ad : Ad) (J : It) (ds : List D) (I : AP → Hp → Prop) : Prop where
  keep : ∀ {M M' : AP} {H H' : Hp}, I M H → Stp M H M' H' → I M' H'
  stop : ∀ {M : AP} {H : Hp}, I M H → J.stop ds.length H
  go : ∀ {M : AP} {H : Hp} {i : Nat}, I M H → i < ds.length → J.go i H
  yld : ∀ {M : AP} {H H' : Hp} {i : Nat} {d : D} {x : V}, I M H → (∀ b, M b → H b ≠ none) → ds[i]? = some d → J.yld i H x H' → ExN H H' ∧ Rep G ad M H' x d
abbrev DI := Ro → Mo → R (List D)
structure Di (G : Cl) (E : XK) (t : TI) (f : DI) : Prop where
  run : ∀ {B : Bx} {M : AP} {pm : Nat → Addr} {ρ : Ro} {m : Mo} {σ : L2.St} {H : Hp}, EnvR G B M pm ρ m σ H → ∀ Q : It → Hp → Prop, Post G E B M H (fun H' J ds => ∃ I, Wk G B.ad J ds I ∧ I M H') (f ρ m) Q → t σ H Q
section
variable {G : Cl} {E : XK}
/-- over a list or a tuple that stays -/
theorem wk_list {ad : Ad} {a : Addr} {ds : List D} : Wk G ad (Itl G.K a) ds (fun M H => Rep G ad M H (.ref a) (.lst ds)) where
  keep := fun r s => s.mono r
  stop := fun {M H} r => by
    cases r with
    | lst h n r => exact ⟨_, SqL.of h, Nat.le_of_eq r.length⟩
  go := fun {M H i} r hi => by
    cases r with
    | lst h n r =>
      rename_i vs
      have hl : i < vs.length := by rw [r.length]; exact hi
      exact ⟨vs, vs[i], SqL.of h, List.getElem?_eq_getElem hl⟩
  yld := fun {M H H' i d x} r _ hd y => by
    cases r with
    | lst h n r =>
      obtain ⟨rfl, y⟩ := y
      obtain ⟨v, hv, rv⟩ := r.getD hd
      have e := Option.some.inj ((y _ (SqL.of h)).symm.trans hv)
      subst e
      exact ⟨.refl, rv⟩
theorem wk_tup {ad : Ad} {a : Addr} {ds : List D} : Wk G ad (Itt G.K a) ds (fun M H => Rep G ad M H (.ref a) (.tup ds)) where
  keep := fun r s => s.mono r
  stop := fun {M H} r => by
    cases r with
    | tup h n r => exact ⟨_, h.sq, Nat.le_of_eq r.length⟩
  go := fun {M H i} r hi => by
    cases r with
    | tup h n r =>
      rename_i vs
      have hl : i < vs.length := by rw [r.length]; exact hi
      exact ⟨vs, vs[i], h.sq, List.getElem?_eq_getElem hl⟩
  yld := fun {M H H' i d x} r _ hd y => by
    cases r with
    | tup h n r =>
      obtain ⟨rfl, y⟩ := y
      obtain ⟨v, hv, rv⟩ := r.getD hd
      have e := Option.some.inj ((y _ h.sq).symm.trans hv)
      subst e
      exact ⟨.refl, rv⟩
def dItL (f : DE) : DI := fun ρ m => (f ρ m).bind fun d m1 => match d with
  | .lst l => .ok l m1
  | _ => .bad
def dItT (f : DE) : DI := fun ρ m => (f ρ m).bind fun d m1 => match d with
  | .tup l => .ok l m1
  | _ => .bad
/-- range -/
def rangeD (lo : Int) (n : Nat) : List D := (List.range n).map fun (i : Nat) => .int (lo + i)
theorem rangeD_get {lo : Int} {n i : Nat} {d : D} (h : (rangeD lo n)[i]? = some d) : d = .int (lo + i) := by
  unfold rangeD at h
  rw [List.getElem?_map] at h
  cases q : (List.range n)[i]? with
  | none =>
    rw [q] at h
    cases h
  | some j =>
    rw [q] at h
    obtain ⟨hl, e⟩ := List.getElem?_eq_some_iff.mp q
    rw [List.getElem_range] at e
    cases h
    rw [e]
theorem rangeD_len {lo : Int} {n : Nat} : (rangeD lo n).length = n := by
  unfold rangeD
  rw [List.length_map, List.length_range]
theorem wk_range {ad : Ad} {lo : Int} {n : Nat} : Wk G ad (Itr lo n) (rangeD lo n) (fun _ _ => True) where
  keep := fun _ _ => True.intro
  stop := fun {M H} _ => by
    rw [rangeD_len]
    exact Nat.le_refl n
  go := fun {M H i} _ hi => by
    rw [rangeD_len] at hi
    exact hi
  yld := fun {M H H' i d x} _ _ hd y => by
    obtain ⟨rfl, rfl⟩ := y
    rw [rangeD_get hd]
    exact ⟨.refl, .int _⟩
def dRng1 (f : DA) : DI := fun ρ m => (f ρ m).bind fun d m1 => match d with
  | [.int j] => if -1000000 ≤ j ∧ j ≤ 1000000 then .ok (rangeD 0 j.toNat) m1 else .bad
  | _ => .bad
def dRng2 (f : DA) : DI := fun ρ m => (f ρ m).bind fun d m1 => match d with
  | [.int i, .int j] => if -1000000 ≤ j ∧ j ≤ 1000000 ∧ -1000000 ≤ i ∧ i ≤ 1000000 then .ok (rangeD i (j - i).toNat) m1 else .bad
  | _ => .bad
theorem Reps.int1 {ad : Ad} {M : AP} {H : Hp} {vs : List V} {i : Int} (r : Reps G ad M H vs [.int i]) : vs = [.int i] := by
  cases r with
  | cons r rs =>
    cases rs
    cases r
    rfl
theorem Reps.int2 {ad : Ad} {M : AP} {H : Hp} {vs : List V} {i j : Int} (r : Reps G ad M H vs [.int i, .int j]) : vs = [.int i, .int j] := by
  cases r with
  | cons r rs =>
    cases r
    rw [rs.int1]
theorem di_rng1 {t : TA} {f : DA} (h : Da G E t f) : Di G E (iRng1 t) (dRng1 f) := ⟨fun {B M pm ρ m σ H} e Q p => by
  refine h.run e _ ((Post.bind p).imp' fun x H1 ⟨d1, m1, g1, r1, p1⟩ => ?_)
  have e1 := e.go g1
  split at p1
  · split at p1
    · exact ⟨_, r1.int1, by omega, by omega, p1 _ _ e1.here ⟨_, wk_range, True.intro⟩⟩
    · exact p1.elim
  · exact p1.elim⟩
theorem di_rng2 {t : TA} {f : DA} (h : Da G E t f) : Di G E (iRng2 t) (dRng2 f) := ⟨fun {B M pm ρ m σ H} e Q p => by
  refine h.run e _ ((Post.bind p).imp' fun x H1 ⟨d1, m1, g1, r1, p1⟩ => ?_)
  have e1 := e.go g1
  split at p1
  · split at p1
    · exact ⟨_, _, r1.int2, ⟨by omega, by omega, by omega, by omega⟩, p1 _ _ e1.here ⟨_, wk_range, True.intro⟩⟩
    · exact p1.elim
  · exact p1.elim⟩
/-- enumerate of a list -/
def enumD : Nat → List D → List D
  | _, [] => []
  | n, d :: r => .tup [.int n, d] :: enumD (n + 1) r
theorem enumD_len : ∀ (n : Nat) (l : List D), (enumD n l).length = l.length
  | _, [] => rfl
  | n, d :: r => congrArg (· + 1) (enumD_len (n + 1) r)
theorem enumD_get : ∀ {n : Nat} {l : List D} {i : Nat} {d : D}, (enumD n l)[i]? = some d → ∃ x, l[i]? = some x ∧ d = .tup [.int ((n + i : Nat) : Int), x]
  | _, [], _, _, h => by simp [enumD] at h
  | n, d :: r, 0, _, h => by
    simp [enumD] at h
    exact ⟨d, by simp, h.symm⟩
  | n, d :: r, i + 1, _, h => by
    simp only [enumD, List.getElem?_cons_succ] at h
    obtain ⟨x, h1, h2⟩ := enumD_get h
    refine ⟨x, by simpa using h1, ?_⟩
    rw [h2, show n + 1 + i = n + (i + 1) by omega]
theorem pair_rep {ad : Ad} {M : AP} {H : Hp} {T : Addr} {v w : V} {d e : D} {o : Obj} (hm : ∀ b, M b → H b ≠ none) (hT : H T = none) (ho : o.dict = none) (r : Rep G ad M H v d) (r' : Rep G ad M H w e) : ExN H (upd H T (.frz o (.tup [v, w]))) ∧ Rep G ad M (upd H T (.frz o (.tup [v, w]))) (.ref T) (.tup [d, e]) :=
  ⟨ExN.new hT, (Reps.cons r (.one r')).newT hm hT ho⟩
theorem wk_enum {ad : Ad} {a : Addr} {ds : List D} : Wk G ad (IteF G.K a) (enumD 0 ds) (fun M H => Rep G ad M H (.ref a) (.lst ds)) where
  keep := fun r s => s.mono r
  stop := fun {M H} r => by
    cases r with
    | lst h n r => exact ⟨_, SqL.of h, by rw [enumD_len]; exact Nat.le_of_eq r.length⟩
  go := fun {M H i} r hi => by
    cases r with
    | lst h n r =>
      rename_i vs
      rw [enumD_len] at hi
      have hl : i < vs.length := by rw [r.length]; exact hi
      exact ⟨vs, vs[i], SqL.of h, List.getElem?_eq_getElem hl⟩
  yld := fun {M H H' i d x} r hm hd y => by
    cases r with
    | lst h n r =>
      obtain ⟨y1, ⟨T, o, rfl, hT, ho, rfl⟩, y⟩ := y
      obtain ⟨z, h1, rfl⟩ := enumD_get hd
      obtain ⟨v, hv, rv⟩ := r.getD h1
      have e := Option.some.inj ((y _ (SqL.of h)).symm.trans hv)
      subst e
      rw [Nat.zero_add]
      exact pair_rep hm hT ho (.int _) rv
theorem Rep.scr {ad : Ad} {M : AP} {H : Hp} {v : V} {ns : List Int} (r : Rep G ad M H v (.scr ns)) : ∃ a, v = .ref a ∧ SqL G.K H a (ns.map V.int) := by
  cases r with
  | scrF h n => exact ⟨_, rfl, .inl (.inr ⟨_, h⟩)⟩
  | scrK h => exact ⟨_, rfl, h _⟩
theorem Rep.scr_ref {ad : Ad} {M : AP} {H : Hp} {a : Addr} {ns : List Int} (r : Rep G ad M H (.ref a) (.scr ns)) : SqL G.K H a (ns.map V.int) := by
  obtain ⟨b, e, h⟩ := r.scr
  cases e
  exact h
theorem wk_scr {ad : Ad} {a : Addr} {ns : List Int} : Wk G ad (Itl G.K a) (ns.map D.int) (fun M H => Rep G ad M H (.ref a) (.scr ns)) where
  keep := fun r s => s.mono r
  stop := fun {M H} r => ⟨_, r.scr_ref, by rw [List.length_map, List.length_map]; exact Nat.le_refl _⟩
  go := fun {M H i} r hi => by
    have hl : i < (ns.map V.int).length := by rw [List.length_map] at hi ⊢; exact hi
    exact ⟨_, _, r.scr_ref, List.getElem?_eq_getElem hl⟩
  yld := fun {M H H' i d x} r _ hd y => by
    obtain ⟨rfl, y⟩ := y
    obtain ⟨v, hv, rv⟩ := (reps_ints (G := G) (ma := ad) (M := M) (H := H') ns).getD hd
    have e := Option.some.inj ((y _ r.scr_ref).symm.trans hv)
    subst e
    exact ⟨.refl, rv⟩
theorem wk_enumS {ad : Ad} {a : Addr} {ns : List Int} : Wk G ad (IteF G.K a) (enumD 0 (ns.map D.int)) (fun M H => Rep G ad M H (.ref a) (.scr ns)) where
  keep := fun r s => s.mono r
  stop := fun {M H} r => ⟨_, r.scr_ref, by rw [enumD_len, List.length_map, List.length_map]; exact Nat.le_refl _⟩
  go := fun {M H i} r hi => by
    rw [enumD_len] at hi
    have hl : i < (ns.map V.int).length := by rw [List.length_map] at hi ⊢; exact hi
    exact ⟨_, _, r.scr_ref, List.getElem?_eq_getElem hl⟩
  yld := fun {M H H' i d x} r hm hd y => by
    obtain ⟨y1, ⟨T, o, rfl, hT, ho, rfl⟩, y⟩ := y
    obtain ⟨z, h1, rfl⟩ := enumD_get hd
    obtain ⟨v, hv, rv⟩ := (reps_ints (G := G) (ma := ad) (M := M) (H := H) ns).getD h1
    have e := Option.some.inj ((y _ r.scr_ref).symm.trans hv)
    subst e
    rw [Nat.zero_add]
    exact pair_rep hm hT ho (.int _) rv
def dEnumL (f : DA) : DI := fun ρ m => (f ρ m).bind fun d m1 => match d with
  | [.lst l] => .ok (enumD 0 l) m1
  | _ => .bad
/-- zip of two lists, of two tuples -/
def zipD : List D → List D → List D
  | d :: r, e :: s => .tup [d, e] :: zipD r s
  | _, _ => []
def dZip (f : DA) : DI := fun ρ m => (f ρ m).bind fun d m1 => match d with
  | [.lst l, .lst k] => .ok (zipD l k) m1
  | [.tup l, .tup k] => .ok (zipD l k) m1
  | _ => .bad
/-! for -/
def forD (h : D → Ro → Option Ro) (body : DS) : List D → Ro → Mo → SR
  | [], ρ, m => .nx ρ m
  | d :: r, ρ, m => match h d ρ with
    | none => .bad
    | some ρ1 => match body ρ1 m with
      | .nx ρ2 m2 => forD h body r ρ2 m2
      | .ct ρ2 m2 => forD h body r ρ2 m2
      | .bk ρ2 m2 => .nx ρ2 m2
      | x => x
def sFor (f : DI) (h : D → Ro → Option Ro) (body : DS) : DS := fun ρ m => sBind (f ρ m) fun ds m1 => forD h body ds ρ m1
theorem ds_for {wi : TI} {g : TG} {tb : TS} {fi : DI} {h : D → Ro → Option Ro} {fb : DS} {os : List Nat} (hi : Di G E wi fi) (hg : Dg G g h os) (hb : Ds G E tb fb) : Ds G E (tFor wi g tb) (sFor fi h fb) := ⟨fun {B M pm ρ m σ H} e Z p => by
  refine hi.run e _ ((PostS.bind e p).imp' fun J H1 ⟨ds, m1, g1, ⟨I, wk, hI⟩, p1⟩ => ?_)
  have e1 := e.go g1
  refine ⟨fun i n σ' H' => n = ds.length - i ∧ i ≤ ds.length ∧ ∃ M' pm' ρ' m', EnvR G B M' pm' ρ' m' σ' H' ∧ Stp M H1 M' H' ∧ I M' H' ∧ PostS G E B M' H' (forD h fb (ds.drop i) ρ' m') Z,
    ⟨ds.length, by omega, Nat.zero_le _, M, pm, ρ, m1, e1, .refl, hI, p1⟩, ?_⟩
  rintro i n σ' H' ⟨rfl, hile, M', pm', ρ', m', e', s', I', p'⟩
  by_cases hlt : i < ds.length
  · refine .inr ⟨wk.go I' hlt, fun σ2 H2 => ∃ M2 pm2 ρ2 m2, EnvR G B M2 pm2 ρ2 m2 σ2 H2 ∧ Stp M H1 M2 H2 ∧ I M2 H2 ∧ PostS G E B M2 H2 (forD h fb (ds.drop (i + 1)) ρ2 m2) Z, ?_, ?_⟩
    · rintro σ2 H2 ⟨M2, pm2, ρ2, m2, e2, s2, I2, p2⟩
      exact ⟨ds.length - (i + 1), by omega, rfl, by omega, M2, pm2, ρ2, m2, e2, s2, I2, p2⟩
    · intro x H2 hy
      obtain ⟨x2, r2⟩ := wk.yld I' e'.hm (List.getElem?_eq_getElem hlt) hy
      have g2 := e'.same x2
      have e2 := e'.go g2
      have st2 := e'.stp g2
      rw [List.drop_eq_getElem_cons hlt] at p'
      unfold forD at p'
      cases hρ : h ds[i] ρ' with
      | none =>
        rw [hρ] at p'
        exact p'.elim
      | some ρ1 =>
        rw [hρ] at p'
        dsimp only at p'
        refine hg.run e2 r2 hρ _ fun σ3 e3 _ => hb.run e3 _ ?_
        have s03 : Stp M' H' M' H2 := st2
        cases hb' : fb ρ1 m' with
        | nx ρ2 m2 =>
          rw [hb'] at p'
          intro M4 pm4 σ4 H4 e4 s4
          exact ⟨M4, pm4, ρ2, m2, e4, (s'.trans s03).trans s4, wk.keep I' (s03.trans s4), PostS.later p' (s03.trans s4)⟩
        | ct ρ2 m2 =>
          rw [hb'] at p'
          intro M4 pm4 σ4 H4 e4 s4
          exact ⟨M4, pm4, ρ2, m2, e4, (s'.trans s03).trans s4, wk.keep I' (s03.trans s4), PostS.later p' (s03.trans s4)⟩
        | bk ρ2 m2 =>
          rw [hb'] at p'
          intro M4 pm4 σ4 H4 e4 s4
          exact p' M4 pm4 σ4 H4 e4 (s03.trans s4)
        | bad => rw [hb'] at p'; exact p'
        | rt d m2 => rw [hb'] at p'; exact p'
        | exc c l m2 => rw [hb'] at p'; exact p'
  · have hi' : i = ds.length := by omega
    subst hi'
    rw [List.drop_length] at p'
    exact .inl ⟨wk.stop I', p' M' pm' σ' H' e' .refl⟩⟩
/-! while, with a bound of its turns -/
def whileD (c : DT) (body : DS) : Nat → DS
  | 0, _, _ => .bad
  | n + 1, ρ, m => sBind (c ρ m) fun b m1 => if b = true then match body ρ m1 with
      | .nx ρ2 m2 => whileD c body n ρ2 m2
      | .ct ρ2 m2 => whileD c body n ρ2 m2
      | .bk ρ2 m2 => .nx ρ2 m2
      | x => x
    else .nx ρ m1
theorem ds_while {tc : TT} {tb : TS} {fc : DT} {fb : DS} (n : Nat) (hc : Dt G E tc fc) (hb : Ds G E tb fb) : Ds G E (tWhile tc tb) (whileD fc fb n) := ⟨fun {B M pm ρ m σ H} e Z p => by
  refine ⟨fun k σ' H' => ∃ M' pm' ρ' m', EnvR G B M' pm' ρ' m' σ' H' ∧ PostS G E B M' H' (whileD fc fb k ρ' m') Z, ⟨n, M, pm, ρ, m, e, p⟩, ?_⟩
  rintro k σ' H' ⟨M', pm', ρ', m', e', p'⟩
  cases k with
  | zero => exact p'.elim
  | succ k =>
    unfold whileD at p'
    refine hc.run e' _ ((PostS.bind e' p').imp' fun b H1 ⟨d1, m1, g1, r1, p1⟩ => ?_)
    subst r1
    have e1 := e'.go g1
    cases b with
    | false => exact p1 M' pm' σ' H1 e1 .refl
    | true =>
      rw [if_pos rfl] at p1
      refine iteT ⟨fun σ2 H2 => ∃ M2 pm2 ρ2 m2, EnvR G B M2 pm2 ρ2 m2 σ2 H2 ∧ PostS G E B M2 H2 (whileD fc fb k ρ2 m2) Z, fun σ2 H2 q => ⟨k, Nat.lt_succ_self k, q⟩, ?_⟩
      refine hb.run e1 _ ?_
      cases hb' : fb ρ' m1 with
      | nx ρ2 m2 =>
        rw [hb'] at p1
        exact fun M4 pm4 σ4 H4 e4 s4 => ⟨M4, pm4, ρ2, m2, e4, PostS.later p1 s4⟩
      | ct ρ2 m2 =>
        rw [hb'] at p1
        exact fun M4 pm4 σ4 H4 e4 s4 => ⟨M4, pm4, ρ2, m2, e4, PostS.later p1 s4⟩
      | bk ρ2 m2 =>
        rw [hb'] at p1
        exact fun M4 pm4 σ4 H4 e4 s4 => p1 M4 pm4 σ4 H4 e4 s4
      | bad => rw [hb'] at p1; exact p1
      | rt d m2 => rw [hb'] at p1; exact p1
      | exc c l m2 => rw [hb'] at p1; exact p1⟩
end
end Dn
namespace Dn
open PySem PySem.Spec PyProof.Rows L2

/-! comprehensions -/
def wipeD (ρ : Ro) (vs : List Nat) : Ro := vs.foldr (fun v r => r.set v none) ρ
section
variable {G : Cl} {E : XK} {B : Bx} {M : AP} {pm : Nat → Addr} {ρ : Ro} {m m' : Mo} {σ : L2.St} {H H' : Hp}
theorem EnvR.keepσ {σ' : L2.St} (e : EnvR G B M pm ρ m σ H) (hl : σ'.length = σ.length) (hk : ∀ (i : Nat) (s : Sv), ρ[i]? = some (some s) → σ'[i]? = σ[i]?) : EnvR G B M pm ρ m σ' H :=
  ⟨e.em, e.hl, e.ea, e.eh, hl.trans e.len, fun i d h => by rw [hk i _ h]; exact e.sv i d h, fun i d h => by rw [hk i _ h]; exact e.sl i d h, fun i k h => by rw [hk i _ h]; exact e.sk i k h, fun i k h => by rw [hk i _ h]; exact e.sn i k h, e.inj, e.fr, e.xs, e.mr, e.mx, e.mut, e.ext, e.tb, e.tt⟩
theorem EnvR.wipe : ∀ {vs : List Nat}, EnvR G B M pm ρ m σ H → EnvR G B M pm (wipeD ρ vs) m (L2.wipe σ vs) H
  | [], e => e
  | v :: vs, e => by
    have e1 := EnvR.wipe (vs := vs) e
    have e2 := e1.clr (i := v)
    have ew : L2.wipe σ (v :: vs) = (L2.wipe σ vs).set v none := rfl
    refine e2.keepσ (by rw [ew, List.length_set]) fun i s h => ?_
    have hi : v ≠ i := fun z => by
      subst z
      have h' : ((wipeD ρ vs).set v none)[v]? = some (some s) := h
      by_cases hl : v < (wipeD ρ vs).length
      · rw [List.getElem?_set_self hl] at h'
        cases h'
      · rw [List.getElem?_eq_none (by simpa using hl)] at h'
        cases h'
    rw [ew]
    exact List.getElem?_set_ne hi
theorem wipe_twice {σ : L2.St} {vs : List Nat} : L2.wipe (L2.wipe σ vs) vs = L2.wipe σ vs := by
  apply List.ext_getElem?
  intro j
  rw [wipe_get, wipe_get, wipe_length]
  by_cases h : j ∈ vs
  · rw [if_pos h, if_pos h]
  · rw [if_neg h, if_neg h]
/-- something more that others may change -/
def Bx.plus (B : Bx) (p : Addr) : Bx := { B with X := fun b => B.X b ∨ b = p }
theorem EnvR.plus {p : Addr} {o : HO} (e : EnvR G B M pm ρ m σ H) (hp : H p = none) (t : ∀ ps, o ≠ .tbl ps) : EnvR G (B.plus p) (fun b => M b ∨ b = p) pm ρ m σ (upd H p o) := by
  have n := Liv.none hp
  obtain ⟨o1, o2, o3⟩ := e.offX n
  have x : Ext Non H (upd H p o) := Ext.new hp
  have up : ∀ {v : V} {d : D}, Rep G B.ad M H v d → Rep G B.ad (fun b => M b ∨ b = p) (upd H p o) v d := fun {v d} r => (r.off n).ext x fun _ z => z.elim
  have ups : ∀ {v : List V} {d : List D}, Reps G B.ad M H v d → Reps G B.ad (fun b => M b ∨ b = p) (upd H p o) v d := fun {v d} r => (r.off n).ext x fun _ z => z.elim
  have ne : ∀ {b : Addr} {u : HO}, H b = some u → upd H p o b = some u := fun {b u} q => by
    rw [upd_ne (ne_of_none q hp)]
    exact q
  have lp : Liv (upd H p o) p := ⟨o, upd_same, t⟩
  refine ⟨fun b h => ?_, fun b h => ?_, e.ea, e.eh, e.len, fun i d h => ?_, fun i ds h => ?_, fun i l h => ?_, fun i l h => ?_, e.inj, fun i hi => ⟨(e.fr i hi).1, fun z => z.elim (e.fr i hi).2 fun q => ?_⟩, fun b hb => ?_, (e.mr.off n).ext x, fun b hb z => z.elim (e.mx b hb) fun q => o3 (q ▸ hb), e.mut, ?_, tabs_upd e.tb (.none hp), e.tt⟩
  · rcases h with h | (h | h) | h
    · exact .inl (e.em b (.inl h))
    · exact .inl (e.em b (.inr (.inl h)))
    · exact .inr h
    · exact .inl (e.em b (.inr (.inr h)))
  · rcases h with h | h
    · exact (e.hl b h).ext x fun z => z
    · rw [h]
      exact lp
  · obtain ⟨v, h1, h2⟩ := e.sv i d h
    exact ⟨v, h1, up h2⟩
  · obtain ⟨v, h1, h2, h3⟩ := e.sl i ds h
    exact ⟨v, h1, ne h2, ups h3⟩
  · obtain ⟨v, h1, h2, h3, h4⟩ := e.sk i l h
    exact ⟨v, h1, ne h2, h3, ups h4⟩
  · obtain ⟨v, h1, h2, h3, h4, h5⟩ := e.sn i l h
    exact ⟨v, h1, ne h2, h3, ups h4, ups h5⟩
  · exact n (q ▸ e.hl (pm i) (e.em _ (.inr (.inr ⟨i, hi, rfl⟩))))
  · rcases hb with hb | hb
    · exact (e.xs b hb).ext x fun z => z
    · rw [hb]
      exact lp
  · exact e.ext.trans (x.imp fun _ z => z.elim)
/-- what others may change has been changed -/
theorem EnvR.chgX {p : Addr} {o : HO} (e : EnvR G B M pm ρ m σ H) (hp : B.X p) (h0 : ¬ Liv B.H0 p) (t : ∀ ps, o ≠ .tbl ps) (f : Fre H p) : EnvR G B M pm ρ m σ (upd H p o) := by
  have hM : M p := e.em p (.inr (.inl hp))
  have x : Ext (fun b => b = p) H (upd H p o) := Ext.refl.chg (.inr rfl)
  have ap : ∀ b, b = p → M b := fun b h => h ▸ hM
  have nA : ¬ B.A p := fun z => e.mx p z hp
  have ne : ∀ {b : Addr}, b ≠ p → upd H p o b = H b := fun h => upd_ne h
  have lv : ∀ {b : Addr}, Liv H b → Liv (upd H p o) b := fun {b} l => by
    by_cases q : b = p
    · rw [q]
      exact ⟨o, upd_same, t⟩
    · obtain ⟨u, h1, h2⟩ := l
      exact ⟨u, by rw [ne q]; exact h1, h2⟩
  refine ⟨e.em, fun b hb => lv (e.hl b hb), e.ea, e.eh, e.len, fun i d h => ?_, fun i ds h => ?_, fun i l h => ?_, fun i l h => ?_, e.inj, e.fr, fun b hb => lv (e.xs b hb), e.mr.mono x ap (fun _ h => h) fun b hb z => nA (by rw [← e.eh, ← z]; exact hb), e.mx, e.mut, ?_, tabs_upd e.tb f, e.tt⟩
  · obtain ⟨v, h1, h2⟩ := e.sv i d h
    exact ⟨v, h1, h2.ext x ap⟩
  · obtain ⟨v, h1, h2, h3⟩ := e.sl i ds h
    exact ⟨v, h1, by rw [ne (fun z : pm i = p => (e.fr i ⟨_, h, rfl⟩).2 (by rw [z]; exact hp))]; exact h2, h3.ext x ap⟩
  · obtain ⟨v, h1, h2, h3, h4⟩ := e.sk i l h
    exact ⟨v, h1, by rw [ne (fun z : pm i = p => (e.fr i ⟨_, h, rfl⟩).2 (by rw [z]; exact hp))]; exact h2, h3, h4.ext x ap⟩
  · obtain ⟨v, h1, h2, h3, h4, h5⟩ := e.sn i l h
    exact ⟨v, h1, by rw [ne (fun z : pm i = p => (e.fr i ⟨_, h, rfl⟩).2 (by rw [z]; exact hp))]; exact h2, h3, h4.ext x ap, h5.ext x ap⟩
  · exact e.ext.chg (.inl h0)
def wipeR (vs : List Nat) (ρ : Ro) : Ro := wipeD ρ vs
/-- the items that are kept, in a list -/
def lcD (h : D → Ro → Option Ro) (tt : DT) (fe : DE) : List D → Ro → Mo → R (List D)
  | [], _, m => .ok [] m
  | d :: r, ρ, m => match h d ρ with
    | none => .bad
    | some ρ1 => match tt ρ1 m with
      | .ok true m1 => match fe ρ1 m1 with
        | .ok x m2 => (lcD h tt fe r ρ m2).bind fun xs m3 => .ok (x :: xs) m3
        | _ => .bad
      | .ok false m1 => lcD h tt fe r ρ m1
      | _ => .bad
def dLc (fi : DI) (h : D → Ro → Option Ro) (tt : DT) (fe : DE) (vs : List Nat) : Ro → Mo → R (List D) := fun ρ m => (fi ρ m).bind fun ds m1 => if ds.length ≤ 100000 then lcD h tt fe ds (wipeD ρ vs) m1 else .bad
theorem dt_yes : Dt G E tYes (fun _ m => .ok true m) := ⟨fun e Q p => p _ _ e.here rfl⟩
theorem ok_bind {α β : Type} {r : R α} {k : α → Mo → R β} {x : β} {mx : Mo} (h : r.bind k = .ok x mx) : ∃ a m1, r = .ok a m1 ∧ k a m1 = .ok x mx := by
  cases r with
  | bad => cases h
  | ok a m1 => exact ⟨a, m1, rfl, h⟩
  | exc c l m' => cases h
abbrev E00 : XK := fun _ _ _ => False
theorem lcD_exc {h : D → Ro → Option Ro} {tt : DT} {fe : DE} {c : Nat} {l : List D} {mx : Mo} : ∀ (ds : List D) (ρ : Ro) (m : Mo), lcD h tt fe ds ρ m ≠ .exc c l mx
  | [], _, _ => fun z => by cases z
  | d :: r, ρ, m => fun z => by
    unfold lcD at z
    split at z
    · cases z
    · split at z
      · split at z
        · rename_i x m2 _
          cases q : lcD h tt fe r ρ m2 with
          | bad => rw [q] at z; cases z
          | ok a m' => rw [q] at z; cases z
          | exc c' l' m' => exact lcD_exc r _ _ q
        · cases z
      · exact lcD_exc r _ _ z
      · cases z
theorem lc_core {wi : TI} {g : TG} {tt : TT} {te : TE} {fi : DI} {h : D → Ro → Option Ro} {ft : DT} {fe : DE} {os vs : List Nat} (hi : Di G E wi fi) (hg : Dg G g h os) (ht : Dt G E00 tt ft) (he : De G E00 te fe) (hos : ∀ i ∈ os, i ∈ vs)
    (e : EnvR G B M pm ρ m σ H) (Q : VK) (p : PostM G E B M H (fun m' H' v xs => ∃ D vs', v = .ref D ∧ ¬ Liv H D ∧ H' D = some (.lst vs') ∧ Reps G B.ad (fun b => M b ∨ b = D) H' vs' xs ∧ MRep G (fun b => M b ∨ b = D) H' m') (dLc fi h ft fe vs ρ m) Q) : tLc wi g tt te vs σ H Q := by
  refine hi.run e _ ((PostM.bind p).imp' fun J H1 ⟨ds, m1, g1, ⟨I, wk, hI⟩, p1⟩ => ?_)
  have e1 := e.go g1
  split at p1
  rotate_left
  · exact p1.elim
  rename_i hlen
  intro D hD
  have xD : Ext Non H1 (upd H1 D (.lst [])) := Ext.new hD
  have eP := (e1.plus (o := .lst []) hD (fun ps z => by cases z))
  have offD := e1.offX (Liv.none hD)
  have eW := eP.wipe (vs := vs)
  have st0 : Stp M H1 (fun b => M b ∨ b = D) (upd H1 D (.lst [])) := ⟨xD.imp fun _ z => z.elim, fun b hb => hb.elim .inl fun z => .inr (by rw [z]; exact Liv.none hD)⟩
  cases hxs : lcD h ft fe ds (wipeD ρ vs) m1 with
  | bad =>
    rw [hxs] at p1
    exact p1.elim
  | exc c l mx => exact (lcD_exc ds _ _ hxs).elim
  | ok xs mx =>
    rw [hxs] at p1
    refine ⟨fun i n H' => n = ds.length - i ∧ i ≤ ds.length ∧ ∃ m' done left vs', done ++ left = xs ∧ lcD h ft fe (ds.drop i) (wipeD ρ vs) m' = .ok left mx ∧ EnvR G (B.plus D) (fun b => M b ∨ b = D) pm (wipeD ρ vs) m' (L2.wipe σ vs) H' ∧ Stp M H1 (fun b => M b ∨ b = D) H' ∧ I (fun b => M b ∨ b = D) H' ∧
        H' D = some (.lst vs') ∧ done.length ≤ i ∧ Reps G B.ad (fun b => M b ∨ b = D) H' vs' done ∧ Ext B.A H1 H',
      ⟨ds.length, by omega, Nat.zero_le _, m1, [], xs, [], rfl, hxs, eW, st0, wk.keep hI st0, upd_same, Nat.le_refl _, .nil, xD.imp fun _ z => z.elim⟩, ?_⟩
    rintro i n H' ⟨rfl, hile, m', done, left, vs', hdl, hl, e', s', I', hD', hdn, hr, xx⟩
    by_cases hlt : i < ds.length
    · refine .inr ⟨wk.go I' hlt, fun H2 => ∃ m2 done left vs2, done ++ left = xs ∧ lcD h ft fe (ds.drop (i + 1)) (wipeD ρ vs) m2 = .ok left mx ∧ EnvR G (B.plus D) (fun b => M b ∨ b = D) pm (wipeD ρ vs) m2 (L2.wipe σ vs) H2 ∧ Stp M H1 (fun b => M b ∨ b = D) H2 ∧ I (fun b => M b ∨ b = D) H2 ∧
          H2 D = some (.lst vs2) ∧ done.length ≤ i + 1 ∧ Reps G B.ad (fun b => M b ∨ b = D) H2 vs2 done ∧ Ext B.A H1 H2, ?_, ?_⟩
      · rintro H2 ⟨m2, done, left, vs2, a1, a2, a3, a4, a5, a6, a7, a8, a9⟩
        exact ⟨ds.length - (i + 1), by omega, rfl, by omega, m2, done, left, vs2, a1, a2, a3, a4, a5, a6, a7, a8, a9⟩
      · intro x H2 hy
        obtain ⟨x2, r2⟩ := wk.yld I' e'.hm (List.getElem?_eq_getElem hlt) hy
        have g2 := e'.same x2
        have e2 := e'.go g2
        rw [List.drop_eq_getElem_cons hlt] at hl
        unfold lcD at hl
        cases hρ : h ds[i] (wipeD ρ vs) with
        | none =>
          rw [hρ] at hl
          cases hl
        | some ρ1 =>
          rw [hρ] at hl
          dsimp only at hl
          refine hg.run e2 r2 hρ _ fun σ3 e3 w3 => ⟨?_, ?_⟩
          · rw [w3 vs hos]
            exact wipe_twice
          · refine ht.run e3 _ ?_
            cases hb : ft ρ1 m' with
            | bad => rw [hb] at hl; cases hl
            | exc c l m4 => rw [hb] at hl; cases hl
            | ok b m4 =>
              rw [hb] at hl
              intro b' H4 g4 hbb
              subst hbb
              have e4 := e2.go g4
              have s4 : Stp M H1 (fun b => M b ∨ b = D) H4 := (s'.trans (e'.stp g2)).trans (e2.stp g4)
              have I4 := wk.keep I' ((e'.stp g2).trans (e2.stp g4))
              have nD : ¬ (B.plus D).A D := offD.2.2
              have hD4 : H4 D = some (.lst vs') := g4.x _ _ nD (fun ps z => by cases z) (x2.k _ _ (fun z => z) (fun ps z => by cases z) hD')
              have hr4 : Reps G B.ad (fun b => M b ∨ b = D) H4 vs' done := (hr.ext x2.k fun _ z => z.elim).ext g4.x e2.aM
              have xx4 : Ext B.A H1 H4 := (xx.trans (x2.k.imp fun _ z => z.elim)).trans g4.x
              cases b' with
              | false =>
                refine iteF ?_
                exact ⟨m4, done, left, vs', hdl, hl, e4, s4, I4, hD4, Nat.le_succ_of_le hdn, hr4, xx4⟩
              | true =>
                refine iteT ?_
                have hl' : (match fe ρ1 m4 with
                  | .ok x m2 => (lcD h ft fe (ds.drop (i + 1)) (wipeD ρ vs) m2).bind fun xs m3 => R.ok (x :: xs) m3
                  | _ => .bad) = .ok left mx := hl
                have e34 := e3.go g4
                refine he.run e34 _ ?_
                cases hv : fe ρ1 m4 with
                | bad => rw [hv] at hl'; cases hl'
                | exc c l m5 => rw [hv] at hl'; cases hl'
                | ok z m5 =>
                  rw [hv] at hl'
                  obtain ⟨tl, m6, q1, q2⟩ := ok_bind hl'
                  cases q2
                  intro v H5 g5 rv
                  have e5 := e4.go g5
                  have hD5 : H5 D = some (.lst vs') := g5.x _ _ nD (fun ps z => by cases z) hD4
                  have hr5 : Reps G B.ad (fun b => M b ∨ b = D) H5 vs' done := hr4.ext g5.x e4.aM
                  refine ⟨vs', hD5, ?_, ?_⟩
                  · rw [hr5.length]
                    exact Nat.lt_of_le_of_lt hdn (Nat.lt_of_lt_of_le hlt (Nat.le_trans hlen (by decide)))
                  · have hXD : (B.plus D).X D := .inr rfl
                    have e6 := e5.chgX (o := .lst (vs' ++ [v])) hXD offD.1 (fun ps z => by cases z) (.lst hD5)
                    have x6 : Ext (fun b => M b ∨ b = D) H5 (upd H5 D (.lst (vs' ++ [v]))) := Ext.refl.chg (.inr (.inr rfl))
                    have s6 : Stp (fun b => M b ∨ b = D) H5 (fun b => M b ∨ b = D) (upd H5 D (.lst (vs' ++ [v]))) := ⟨x6, fun _ h => .inl h⟩
                    refine ⟨m5, done ++ [z], tl, vs' ++ [v], by rw [← hdl]; simp, q1, e6, (s4.trans (e4.stp g5)).trans s6, wk.keep I4 ((e4.stp g5).trans s6), upd_same, by simp; omega, ((hr5.append (.one rv)).ext x6 fun _ h => h), ?_⟩
                    exact (xx4.trans g5.x).chg (.inl (Liv.none hD))
    · have hi' : i = ds.length := by omega
      subst hi'
      rw [List.drop_length] at hl
      unfold lcD at hl
      cases hl
      rw [List.append_nil] at hdl
      subst hdl
      exact .inl ⟨wk.stop I', p1 _ _ ⟨xx, e'.ea, e'.eh, e'.mr.less fun b h => .inl h, e'.tb⟩ ⟨D, vs', rfl, none_back e g1 hD, hD', hr, e'.mr⟩⟩
theorem de_lc {wi : TI} {g : TG} {tt : TT} {te : TE} {fi : DI} {h : D → Ro → Option Ro} {ft : DT} {fe : DE} {os vs : List Nat} (hi : Di G E wi fi) (hg : Dg G g h os) (ht : Dt G E00 tt ft) (he : De G E00 te fe) (hos : ∀ i ∈ os, i ∈ vs) :
    De G E (tLc wi g tt te vs) (fun ρ m => (dLc fi h ft fe vs ρ m).map .lst) := ⟨fun {B M pm ρ m σ H} e Q p => by
  refine lc_core hi hg ht he hos e Q ((Post.bindM p).imp' fun v H' ⟨xs, m1, g1, ⟨D, vs', hv, hD, hD', hr, hmr⟩, p1⟩ => ?_)
  subst hv
  have e' := e.go g1
  have nM : ¬ M D := fun z => hD (e.hl D z)
  exact p1 _ _ e'.here (.lst hD' nM (hr.less fun b h => .inl h))⟩
theorem dv_lc {wi : TI} {g : TG} {tt : TT} {te : TE} {fi : DI} {h : D → Ro → Option Ro} {ft : DT} {fe : DE} {os vs : List Nat} (hi : Di G E wi fi) (hg : Dg G g h os) (ht : Dt G E00 tt ft) (he : De G E00 te fe) (hos : ∀ i ∈ os, i ∈ vs) :
    Dv G E (tLc wi g tt te vs) (fun ρ m => (dLc fi h ft fe vs ρ m).map .ml) := ⟨fun {B M pm ρ m σ H} e Q p => by
  refine lc_core hi hg ht he hos e Q ((PostM.bindM p).imp' fun v H' ⟨xs, m1, g1, ⟨D, vs', hv, hD, hD', hr, hmr⟩, p1⟩ => ?_)
  subst hv
  exact p1 _ _ (e.go g1).here ⟨D, rfl, hD, ⟨vs', hD', hr⟩, hmr⟩⟩
end
end Dn
namespace Dn
open PySem PySem.Spec PyProof.Rows L2

/-! calls, with nothing that is being shown -/
structure RG (k : Nat) (A : Around) : Prop where
  rm : Room k A
  gd : A.guards = some []
theorem RG.less {j k : Nat} {A : Around} (r : RG k A) (h : j ≤ k) : RG j A := ⟨r.rm.mono h, r.gd⟩
theorem RG.down {k : Nat} {A : Around} (r : RG (k + 1) A) (env : Env) : RG k (A.deeper env) := ⟨r.rm.deeper env, r.gd⟩
theorem RG.made {k : Nat} {A : Around} (r : RG (k + 1) A) (C : Addr) (zs : List Value) (kw : List (Str × Value)) : RG k (A.under (.builtin "type.__call__" ⟨.ref C :: zs, kw⟩)) :=
  ⟨r.rm.make C zs kw, by
    have e := r.gd
    simp [Around.under, e, pushGuards, Code.guards, Code.isGuard, guardIds]⟩
/-- a def's promise, whatever called it -/
def FnA (P : Program) (w : World) (K : PySem.W.Frag) (mg : Str → Option Value) (base : Heap) (k : Nat) (f : Addr) (sp : Sp) : Prop :=
  ∀ (A : Around) (out : List Env) (s : Shared) (H : Hp) (zs : List Value) (vs : List V) (Q : VK) (E : XK), RG k A → Env0 P w K mg base A out s H → Vals vs zs → sp vs H Q E →
    codeAny (model P w) A (.call (.ref f) ⟨zs, []⟩) (CR (L2.CX P w) out P w H s Q E) s
section
variable {P : Program} {w : World} {K : PySem.W.Frag} {mg : Str → Option Value} {base : Heap} {j k : Nat} {f : Addr} {sp sp' : Sp}
theorem FnA.less (F : FnA P w K mg base j f sp) (h : j ≤ k) : FnA P w K mg base k f sp := fun A out s H zs vs Q E hr => F A out s H zs vs Q E (hr.less h)
theorem FnA.imp (F : FnA P w K mg base k f sp) (h : ∀ vs H Q E, sp' vs H Q E → sp vs H Q E) : FnA P w K mg base k f sp' := fun A out s H zs vs Q E hr e r q => F A out s H zs vs Q E hr e r (h vs H Q E q)
/-- a def by its body -/
theorem fnA_of {x qual : Str} {st : Stmt} {fd : FuncData} {N ps : List Str} (F : Fun K x qual st f fd) (S : FnScope N ps (defScope st)) (hbi : Binds K fd ps [])
    (hbody : ∀ (cdv : Value) (A : Around) (out : List Env) (s : Shared) (H : Hp) (vs : List V) (Q : VK) (E : XK), RG k (A.deeper (envOfC qual (defScope st) s.heap.objs.size f cdv)) → sp vs H Q E → vs.length = ps.length ∧
      ∃ t, PSs (cxOf (L2.CX P w) P w K mg base N qual (defScope st) f cdv A out s H E) (defBody st) t ∧ t { nx := fun _ H' => Q .non H', rt := Q } (start N vs) H) :
    FnA P w K mg base (k + 1) f sp := by
  intro A out s H zs vs Q E hr env hv hsp
  obtain ⟨oc, od, kV, doc, pm, an, cdv, ct, osl, hfd, lk, hcd⟩ := F.ex
  have hdown := hr.down (envOfC qual (defScope st) s.heap.objs.size f cdv)
  obtain ⟨hlen, t, ht, hq⟩ := hbody cdv A out s H vs Q E hdown hsp
  have hzl : zs.length = ps.length := hv.length.symm.trans hlen
  have KX : K.In s.heap := env.mod.kin.keeps fun b o q => (env.bs b o q).1
  have lim : s.heap.NoLimit := env.mod.nolimit.keeps fun b o q => (env.bs b o q).1
  have hk1 : ∀ y ∈ ps.zip zs, (defScope st).names.lookup y.1 = some .local ∨ ((defScope st).names.lookup y.1 = some .cell ∧ ((cellsFrom (s.heap.objs.size + 1) (defScope st).names []).lookup y.1).isSome = true) := by
    rintro ⟨n, v⟩ hy
    exact (S.par n (List.of_mem_zip hy).1).imp id fun q => ⟨q, PySem.W.cellsFrom_some _ _ _ (.inl q)⟩
  have hbb := hbi s zs KX (by simpa using hzl)
  rw [List.append_nil] at hbb
  subst hfd
  refine codeAny_call_function hr.rm.depth (KX _ _ lk) rfl S.co S.gen rfl (PySem.W.codeRec_of KX hcd) (hbb _ _ _ _ ?_)
  refine wpAny_newFunctionEnv_cells S.kind hk1 fun en hen s1 cl => ?_
  subst hen
  refine ⟨lim.keeps cl.toInCall.keep, codeAny_func ?_⟩
  have I := inv_start (CX := L2.CX P w) (P := P) (E := E) S hr.rm.hd env hlen hv cl
  refine wpAny_mono (ht.run [] s1 (start N vs) H _ I hq) (fun fl s' hs => ?_) fun e s' hs => hs
  cases fl with
  | ret u =>
    obtain ⟨v, σ', H', J, rv, q⟩ := hs
    exact ⟨v, H', J.os, J.bare, J.base, J.hok, rv, q⟩
  | next =>
    obtain ⟨σ', H', J, q⟩ := hs
    exact ⟨.non, H', J.os, J.bare, J.base, J.hok, rfl, q⟩
  | brk => exact hs.elim fun _ z => z.elim fun _ z => z.2.elim
  | cont => exact hs.elim fun _ z => z.elim fun _ z => z.2.elim
end
section
variable {X : Cx} {k : Nat} {f C : Addr} {sp : Sp} {E : XK} {x m : Str} {p pos apos : Pos} {e o : Expr} {es : List Expr} {ta : TE} {t : TA}
/-- the callee below what runs -/
theorem runA {pins : List (Addr × Obj)} {σ : L2.St} {H : Hp} {s : Shared} {Q : VK} {zs : List Value} {vs : List V} {A : Around} (F : FnA X.prog X.w X.K X.mg X.base k f sp) (hr : RG k A) (he : Env0 X.prog X.w X.K X.mg X.base A X.stack s H) (hx : Passes (L2.CX X.prog X.w) X E)
    (I : Inv X pins σ H s) (r : Vals vs zs) (h : sp vs H Q E) : codeAny (model X.prog X.w) A (.call (.ref f) ⟨zs, []⟩) (fun r s' => match r with
      | .ok (.ret v) => EP X pins σ Q v s'
      | .ok _ => False
      | .error e => X.xe e s') s := by
  refine codeAny_mono (F A X.stack s H zs vs Q E hr he r h) fun res s' hq => ?_
  match res, hq with
  | .error u, hq => exact hx pins σ H s u s' I hq
  | .ok (.ret u), hq => exact I.after hq
  | .ok .next, hq => exact hq.elim
  | .ok .brk, hq => exact hq.elim
  | .ok .cont, hq => exact hq.elim
/-- f(e, ..) -/
def tCallA (sp : Sp) (E : XK) (t : TA) : TE := fun σ H Q => t σ H fun vs H1 => sp vs H1 Q E
theorem pe_callA (F : FnA X.prog X.w X.K X.mg X.base k f sp) (hr : RG k X.A) (hg : Gl X x) (hm : X.mg x = some (.ref f)) (hk : PySem.W.keepIn X.K (.ref f) = true) (hx : Passes (L2.CX X.prog X.w) X E)
    (ha : PA X (e :: es) t) (hdb : (x == ("__debug__" : Str)) = false := by decide) (hst : starEach (e :: es) X.env = (false, eval e X.env) :: starEach es X.env := by rfl) (hpl : (backTo pos (starEach es X.env)).any (·.1) = false := by rfl) :
    PE X (.Call (.Name x p) (e :: es) [] pos) (tCallA sp E t) := ⟨fun pins s σ H Q I h => by
  refine wpAny_Call_Name_kw (ld_glob I hg hm ?_ hdb)
  refine PySem.W.callWith_K (h₀ := X.base) I.ok.mod.kin hk (thn (ha.run pos pins s σ H _ I h) fun zs s1 ⟨vs, H1, J, r, q⟩ => ⟨J.kIn, ?_⟩) hst hpl
  exact wpAny_call (runA F hr J.env0 hx J r q)⟩
/-- C(e, ..) -/
theorem pe_makeA (M : Mk X.K C f) (F : FnA X.prog X.w X.K X.mg X.base k f sp) (hr : RG (k + 1) X.A) (hg : Gl X x) (hm : X.mg x = some (.ref C)) (hx : Passes (L2.CX X.prog X.w) X E) (ha : PA X (e :: es) t) (hdb : (x == ("__debug__" : Str)) = false := by decide)
    (hst : starEach (e :: es) X.env = (false, eval e X.env) :: starEach es X.env := by rfl) (hpl : (backTo pos (starEach es X.env)).any (·.1) = false := by rfl) : PE X (.Call (.Name x p) (e :: es) [] pos) (StX.tMakeR C sp E t) := ⟨fun pins s σ H Q I h => by
  refine wpAny_Call_Name_kw (ld_glob I hg hm ?_ hdb)
  refine PySem.W.callWith_K (h₀ := X.base) I.ok.mod.kin M.kp (thn (ha.run pos pins s σ H _ I h) fun zs s1 ⟨vs, H1, J, r, q⟩ => ⟨J.kIn, ?_⟩) hst hpl
  have top : s1.heap.objs.size < s1.heap.objs.size + 1 := Nat.lt_succ_self _
  have hq := q (s1.heap.objs.size + 1) s1.heap.objs.size (J.hok.fresh (Nat.le_of_lt top)) (J.hok.fresh (Nat.le_refl _)) (Nat.ne_of_lt top)
  have L := Inv.made (C := C) J
  refine wpAny_call (make_map (f := f) J.kIn M.makes M.init (beq_iff_eq.mp M.fn) (codeAny_mono (F _ X.stack _ _ (Value.ref (s1.heap.objs.size + 1) :: zs) (V.ref (s1.heap.objs.size + 1) :: vs) _ E (hr.made C zs []) (L.env0.make C zs []) (.cons rfl r) hq) fun res s' z => ?_))
  match res, z with
  | .error u, z => exact hx pins σ _ _ u s' L z
  | .ok .next, z => exact z.elim
  | .ok .brk, z => exact z.elim
  | .ok .cont, z => exact z.elim
  | .ok (.ret u), z =>
    obtain ⟨v, H', I3, rv, ev, q3⟩ := L.after z
    subst ev
    exact ⟨rv, ⟨V.ref (s1.heap.objs.size + 1), H', I3, rfl, q3⟩⟩⟩
end
end Dn
namespace Dn
open PySem PySem.Spec PyProof.Rows L2 PySem.W PySem.Calls Builtin

/-! len of an instance -/
section
variable {prog : Program} {w : World} {A : Around} {E : Value → Shared → Prop} {s : Shared} {K : PySem.W.Frag} {x C f : Addr} {ox : Obj} {odd : Option Obj}
theorem len_own {Q : Value → Shared → Prop} (X : K.In s.heap) (I : PySem.W.InstAt s.heap x ox C odd) (hs : PySem.W.findIn K (.ref C) "__len__" = some (some (.ref f))) (hf : PySem.W.isFn K (.ref f) = true)
    (h : wpAny (model prog w) A.in1 (call (.ref f) [.ref x]) (fun r s₁ => ∃ (n : Nat) (u : Tok), r = Value.int n u ∧ (n : Int) < 2 ^ 63 ∧ Q (.int n s₁.toks) { s₁ with toks := s₁.toks + 1 }) E s) : wpAny (model prog w) A (call (.builtin "len") [.ref x]) Q E s := by
  refine Calls.call_function_entry kind_len plain_len entry_len (args_len1 _) ?_
  unfold Builtin.«len»
  refine wpAny_bind (m := oneArg "len" _) (wpAny_pure ?_)
  refine wpAny_bind (m := callSpecial? (.ref x) (PySem.Str.ofString "__len__")) (PySem.W.special_fn X I hs (beq_iff_eq.mp hf) (wpAny_mono h (fun r s' hr => ?_) fun _ _ y => y))
  obtain ⟨n, u, rfl, hz, hq⟩ := hr
  refine wpAny_bind (wpAny_holding (wpAny_pure ?_))
  refine wpAny_bind (wpAny_letGo ?_)
  show wpAny _ _ (if ((n : Nat) : Int) < 0 then _ else _) _ _ _
  rw [if_neg (by omega)]
  show wpAny _ _ (if ((n : Nat) : Int) ≥ 2 ^ 63 then _ else _) _ _ _
  rw [if_neg (by omega)]
  exact wpAny_bind (wpAny_mkInt (wpAny_pure ⟨_, rfl, hq⟩))
end
theorem RG.in1 {k : Nat} {A : Around} (r : RG (k + 1) A) : RG k A.in1 := ⟨r.rm.in1, r.gd⟩
section
variable {X : Cx} {k : Nat} {C g : Addr} {sp : Sp} {E : XK}
/-- len(x), x an instance with slots -/
def rLenOwn (C : Addr) (sp : Sp) (E : XK) : List V → Hp → VK → Prop := fun xs H Q => ∃ a dx vs, xs = [V.ref a] ∧ SlX.Slt H a C dx vs ∧ sp [.ref a] H (fun z H' => ∃ n : Nat, z = .int n ∧ (n : Int) < 2 ^ 63 ∧ Q z H') E
theorem call_lenOwn (hs : PySem.W.findIn X.K (.ref C) "__len__" = some (some (.ref g))) (hf : PySem.W.isFn X.K (.ref g) = true) (F : FnA X.prog X.w X.K X.mg X.base k g sp) (hr : RG (k + 1) X.A) (hx : Passes (L2.CX X.prog X.w) X E) : CallR X (.builtin "len") (rLenOwn C sp E) := by
  intro pins s σ H xs zs Q I r h
  obtain ⟨a, dx, vs, rfl, hsl, q⟩ := h
  cases r with
  | cons ra rt =>
    cases rt
    cases ra
    obtain ⟨_, _, _, J, _⟩ := SlX.slt_inst I hsl
    refine len_own I.kIn J hs hf (wpAny_mono (wpAny_call (runA (zs := [.ref a]) (vs := [.ref a]) F hr.in1 I.env0.in1 hx I (.cons rfl .nil) q)) (fun z s' hz => ?_) fun _ _ i => i)
    obtain ⟨z', H', I', rz, n, en, hn, qz⟩ := hz
    subst en
    obtain ⟨t, et⟩ := (show ∃ t, z = Value.int n t from rz)
    exact ⟨n, t, et, hn, .int n, H', I'.tok _, ⟨_, rfl⟩, qz⟩
end
end Dn
namespace Dn
open PySem PySem.Spec PyProof.Rows L2

/-! promises by data -/
abbrev DF := List D → Mo → R D
def bxOf (G : Cl) (H : Hp) (M : AP) (m : Mo) : Bx := { H0 := H, X := fun b => M b ∧ ¬ m.has b, ad := m.ad, A := m.has, T := G.T }
structure Start (G : Cl) (M : AP) (m : Mo) (H : Hp) : Prop where
  mr : MRep G M H m
  aM : ∀ b, m.has b → M b
  hl : ∀ b, M b → Liv H b
  tb : LamX.Tabs G.T H
def spD (G : Cl) (n : Nat) (F : DF) : Sp := fun vs H Q E => ∃ (M : AP) (ds : List D) (m : Mo), ds.length = n ∧ Reps G m.ad M H vs ds ∧ Start G M m H ∧ Post G E (bxOf G H M m) M H (Rep G m.ad M) (F ds m) Q
def ro0 (N : Nat) (ds : List D) : Ro := ds.map (fun d => some (Sv.v d)) ++ List.replicate (N - ds.length) none
def runD (N : Nat) (f : DS) : DF := fun ds m => match f (ro0 N ds) m with
  | .nx _ m' => .ok .non m'
  | .rt d m' => .ok d m'
  | .exc c l m' => .exc c l m'
  | _ => .bad
section
variable {G : Cl} {E : XK} {B : Bx} {M : AP} {pm : Nat → Addr} {ρ : Ro} {m m' : Mo} {σ : L2.St} {H H' : Hp}
theorem ro0_get {N : Nat} {ds : List D} {i : Nat} {s : Sv} (h : (ro0 N ds)[i]? = some (some s)) : ∃ d, ds[i]? = some d ∧ s = .v d := by
  unfold ro0 at h
  by_cases hi : i < ds.length
  · rw [List.getElem?_append_left (by simpa using hi), List.getElem?_map] at h
    cases q : ds[i]? with
    | none => rw [q] at h; cases h
    | some d =>
      rw [q] at h
      cases h
      exact ⟨d, rfl, rfl⟩
  · rw [List.getElem?_append_right (by simpa using hi), List.getElem?_replicate] at h
    split at h <;> cases h
theorem start_get {N : List Str} {vs : List V} {i : Nat} {v : V} (h : vs[i]? = some v) : (L2.start N vs)[i]? = some (some v) := by
  obtain ⟨hi, _⟩ := List.getElem?_eq_some_iff.mp h
  unfold L2.start
  rw [List.getElem?_append_left (by simpa using hi), List.getElem?_map, h]
  rfl
theorem env_start {N : List Str} {vs : List V} {ds : List D} (st : Start G M m H) (r : Reps G m.ad M H vs ds) (pm : Nat → Addr) : EnvR G (bxOf G H M m) M pm (ro0 N.length ds) m (L2.start N vs) H := by
  have nm : ∀ i, ¬ isM (ro0 N.length ds) i := fun i ⟨s, h1, h2⟩ => by
    obtain ⟨d, _, rfl⟩ := ro0_get h1
    cases h2
  refine ⟨fun b h => ?_, st.hl, rfl, rfl, ?_, fun i d h => ?_, fun i ds h => (nm i ⟨_, h, rfl⟩).elim, fun i l h => (nm i ⟨_, h, rfl⟩).elim, fun i l h => (nm i ⟨_, h, rfl⟩).elim, fun i j h => (nm i h).elim, fun i h => (nm i h).elim, fun b h => st.hl b h.1, st.mr, fun b h z => z.2 h, fun i h => (nm i h).elim, .refl, st.tb, rfl⟩
  · rcases h with h | h | ⟨i, h, _⟩
    · exact st.aM b h
    · exact h.1
    · exact (nm i h).elim
  · have e := r.length
    unfold L2.start ro0
    simp only [List.length_append, List.length_map, List.length_replicate]
    omega
  · obtain ⟨d', h1, h2⟩ := ro0_get h
    cases h2
    obtain ⟨v, hv, rv⟩ := r.getD h1
    exact ⟨v, start_get hv, rv⟩
theorem bx_cover {b : Addr} (h : MB (bxOf G H M m) b) (st : Start G M m H) : M b := h.elim (st.aM b) fun z => z.1
theorem bx_back {b : Addr} (h : M b) : MB (bxOf G H M m) b := by
  by_cases q : m.has b
  · exact .inl q
  · exact .inr ⟨h, q⟩
/-- a body keeps its promise -/
theorem body_keeps {N : List Str} {vs : List V} {t : TS} {f : DS} {n : Nat} {Q : VK} (hd : Ds G E t f) (h : spD G n (runD N.length f) vs H Q E) : vs.length = n ∧ t { nx := fun _ H' => Q .non H', rt := Q } (L2.start N vs) H := by
  obtain ⟨M, ds, m, hn, r, st, p⟩ := h
  refine ⟨r.length.trans hn, hd.run (env_start st r fun _ => 0) _ ?_⟩
  unfold runD at p
  cases q : f (ro0 N.length ds) m with
  | bad => rw [q] at p; exact p
  | nx ρ m' =>
    rw [q] at p
    exact fun M' pm σ H' e s => p _ _ ⟨e.ext, e.ea, e.eh, e.mr.less fun b hb => e.mb b (bx_back hb), e.tb⟩ .non
  | rt d m' =>
    rw [q] at p
    exact fun v H' g rv => p v H' (g.less fun b hb => bx_back hb) (rv.less fun b hb => bx_back hb)
  | bk ρ m' => rw [q] at p; exact p.elim
  | ct ρ m' => rw [q] at p; exact p.elim
  | exc c l m' =>
    rw [q] at p
    exact fun cls dd H' g hx => p cls dd H' (g.less fun b hb => bx_back hb) (hx.less fun b hb => bx_back hb)
theorem fnD {P : Program} {w : World} {K : PySem.W.Frag} {mg : Str → Option Value} {base : Heap} {k : Nat} {f : Addr} {x qual : Str} {st : Stmt} {fd : FuncData} {N ps : List Str} {fb : DS} (F : Fun K x qual st f fd) (S : FnScope N ps (defScope st)) (hbi : Binds K fd ps [])
    (hbody : ∀ (cdv : Value) (A : Around) (out : List Env) (s : Shared) (H : Hp) (E : XK), RG k (A.deeper (envOfC qual (defScope st) s.heap.objs.size f cdv)) →
      ∃ t, PSs (cxOf (L2.CX P w) P w K mg base N qual (defScope st) f cdv A out s H E) (defBody st) t ∧ Ds G E t fb) :
    FnA P w K mg base (k + 1) f (spD G ps.length (runD N.length fb)) := fnA_of F S hbi fun cdv A out s H vs Q E hr h => by
  obtain ⟨t, h1, h2⟩ := hbody cdv A out s H E hr
  obtain ⟨e1, e2⟩ := body_keeps h2 h
  exact ⟨e1, t, h1, e2⟩
end
section
variable {G : Cl} {E : XK}
theorem Go.up {B : Bx} {M : AP} {pm : Nat → Addr} {ρ : Ro} {m m' : Mo} {σ : L2.St} {H H' : Hp} (e : EnvR G B M pm ρ m σ H) (g : Go G (bxOf G H M m) M m' H H') : Go G B M m' H H' := ⟨g.x.imp fun b hb => by rw [← e.eh]; exact hb, g.ea.trans e.ea, g.eh.trans e.eh, g.mr, by rw [e.tt]; exact g.tb⟩
theorem EnvR.start {B : Bx} {M : AP} {pm : Nat → Addr} {ρ : Ro} {m : Mo} {σ : L2.St} {H : Hp} (e : EnvR G B M pm ρ m σ H) : Start G M m H := ⟨e.mr, fun b hb => e.aM b (by rw [← e.eh]; exact hb), e.hl, by rw [← e.tt]; exact e.tb⟩
/-- a caller's wish is a callee's -/
theorem Post.down {B : Bx} {M : AP} {pm : Nat → Addr} {ρ : Ro} {m : Mo} {σ : L2.St} {H : Hp} {r : R D} {Q : VK} (e : EnvR G B M pm ρ m σ H) (p : Post G E B M H (Rep G B.ad M) r Q) : Post G E (bxOf G H M m) M H (Rep G m.ad M) r Q := by
  cases r with
  | bad => exact p
  | ok a m' => exact fun v H' g rv => p v H' (Go.up e g) (by rw [← e.ea]; exact rv)
  | exc c l m' => exact fun cls dd H' g hx => p cls dd H' (Go.up e g) (by rw [← e.ea]; exact hx)
def dCall (n : Nat) (F : DF) (fa : DA) : DE := fun ρ m => (fa ρ m).bind fun ds m1 => if ds.length = n then F ds m1 else .bad
theorem de_call {n : Nat} {F : DF} {t : TA} {fa : DA} (ha : Da G E t fa) : De G E (tCallA (spD G n F) E t) (dCall n F fa) := ⟨fun {B M pm ρ m σ H} e Q p => by
  refine ha.run e _ ((Post.bind p).imp' fun vs H1 ⟨ds, m1, g1, r1, p1⟩ => ?_)
  have e1 := e.go g1
  split at p1
  · rename_i hn
    exact ⟨M, ds, m1, hn, by rw [e1.ea]; exact r1, e1.start, p1.down e1⟩
  · exact p1.elim⟩
/-- o.m(..) -/
def dMeth (c n : Nat) (F : DF) (fo : DE) (fa : DA) : DE := fun ρ m => (fo ρ m).bind fun x m1 => match x with
  | .obj c' d => if c' = c then (fa ρ m1).bind fun ds m2 => if ds.length + 1 = n then F (.obj c' d :: ds) m2 else .bad
    else .bad
  | _ => .bad
theorem Rep.slt {ad : Ad} {M : AP} {H : Hp} {x : V} {c : Nat} {d : D} (r : Rep G ad M H x (.obj c d)) : ∃ a dx v, x = .ref a ∧ SlX.Slt H a (G.cl c) dx [some v] ∧ ¬ M a ∧ Rep G ad M H v d := by
  cases r with
  | obj h hx n nx r => exact ⟨_, _, _, rfl, .inr ⟨h, hx⟩, n, r⟩
/-- o.f of an instance -/
def dFld (c : Nat) (fo : DE) : DE := fun ρ m => (fo ρ m).bind fun x m1 => match x with
  | .obj c' d => if c' = c then .ok d m1 else .bad
  | _ => .bad
theorem de_fld {c : Nat} {to : TE} {fo : DE} {f : Str} {p : Addr} (ho : De G E to fo) (sc : SlX.SCls G.K (G.cl c)) (sl : SlX.Slot1 G.K (G.cl c) f p 0) : De G E (SlX.tSl G.K to f) (dFld c fo) := ⟨fun {B M pm ρ m σ H} e Q q => by
  refine ho.run e _ ((Post.bind q).imp' fun x H1 ⟨d, m1, g1, r1, p1⟩ => ?_)
  have e1 := e.go g1
  split at p1
  · split at p1
    · rename_i c' d' hc
      subst hc
      obtain ⟨a, dx, v, rfl, hs, _, rv⟩ := r1.slt
      exact ⟨a, _, dx, p, _, 0, v, rfl, hs, sc, sl, rfl, p1 _ _ e1.here rv⟩
    · exact p1.elim
  · exact p1.elim⟩
/-- len(o) of an instance -/
def dLenOwn (c : Nat) (F : DF) (fa : DA) : DE := fun ρ m => (fa ρ m).bind fun ds m1 => match ds with
  | [.obj c' d] => if c' = c then (F [.obj c' d] m1).bind fun z m2 => match z with
      | .int i => if 0 ≤ i ∧ i < 1000000 then .ok (.int i) m2 else .bad
      | _ => .bad
    else .bad
  | _ => .bad
theorem Post.seq {B : Bx} {M : AP} {pm : Nat → Addr} {ρ : Ro} {m : Mo} {σ : L2.St} {H : Hp} {r : R D} {k : D → Mo → R D} {Q : VK} (e : EnvR G B M pm ρ m σ H) (p : Post G E B M H (Rep G B.ad M) (r.bind k) Q) :
    Post G E (bxOf G H M m) M H (Rep G m.ad M) r (fun v H1 => ∃ a m1, Go G B M m1 H H1 ∧ Rep G B.ad M H1 v a ∧ Post G E B M H1 (Rep G B.ad M) (k a m1) Q) := Post.down e (Post.bind p)
theorem de_lenOwn {c : Nat} {F : DF} {t : TA} {fa : DA} (ha : Da G E t fa) : De G E (tCB (rLenOwn (G.cl c) (spD G 1 F) E) t) (dLenOwn c F fa) := ⟨fun {B M pm ρ m σ H} e Q q => by
  refine ha.run e _ ((Post.bind q).imp' fun vs H1 ⟨ds, m1, g1, r1, p1⟩ => ?_)
  have e1 := e.go g1
  split at p1
  · split at p1
    · rename_i c' d' hc
      subst hc
      cases r1 with
      | cons r rs =>
        cases rs
        obtain ⟨a, dx, v, rfl, hs, _, rv⟩ := r.slt
        refine ⟨a, dx, _, rfl, hs, M, [_], m1, rfl, by rw [e1.ea]; exact .cons r .nil, e1.start, (Post.seq e1 p1).imp' fun z H2 ⟨d2, m2, g2, r2, p2⟩ => ?_⟩
        have e2 := e1.go g2
        split at p2
        · split at p2
          · rename_i i hi
            cases r2
            exact ⟨i.toNat, by rw [Int.toNat_of_nonneg hi.1], by omega, p2 _ _ e2.here (.int _)⟩
          · exact p2.elim
        · exact p2.elim
    · exact p1.elim
  · exact p1.elim⟩
/-! making an instance with one slot: self.f = e behind a check -/
def initD (f1 fv : DE) : DF := fun ds m => match ds with
  | [d] => (f1 [none, some (.v d)] m).bind fun _ m1 => fv [none, some (.v d)] m1
  | _ => .bad
/-- __init__'s promise: a, dx are in M already -/
def spI (G : Cl) (c : Nat) (F : DF) : Sp := fun vs H Q E => ∃ (M : AP) (d : D) (m : Mo) (a dx : Addr) (v : V), vs = [.ref a, v] ∧ H a = some (.ins (G.cl c) dx []) ∧ H dx = some (.own a) ∧ dx ≠ a ∧ M a ∧ M dx ∧ ¬ m.has a ∧ ¬ m.has dx ∧ Rep G m.ad M H v d ∧ Start G M m H ∧
  Post G E (bxOf G H M m) M H (Rep G m.ad M) (F [d] m) (fun y H2 => H2 a = some (.ins (G.cl c) dx []) ∧ Q .non (SlX.slH H2 a (G.cl c) dx [some y]))
theorem init_keeps {c : Nat} {te tv : TE} {f1 fv : DE} {fld : Str} {p : Addr} {N : List Str} {vs : List V} {H : Hp} {Q : VK} (h1 : De G E te f1) (hv : De G E tv fv) (sc : SlX.SCls G.K (G.cl c)) (sl : SlX.Slot1 G.K (G.cl c) fld p 0) (hN : N.length = 2)
    (h : spI G c (initD f1 fv) vs H Q E) : vs.length = 2 ∧ tSeq (tDrop te) (SlX.sSl G.K (tVar 0) tv fld) { nx := fun _ H' => Q .non H', rt := Q } (L2.start N vs) H := by
  obtain ⟨M, d, m, a, dx, v, rfl, ha, hdx, ne, Ma, Mdx, na, ndx, rv, st, q⟩ := h
  have es : L2.start N [V.ref a, v] = [some (.ref a), some v] := by
    unfold L2.start
    rw [hN]
    rfl
  have e : EnvR G (bxOf G H M m) M (fun _ => 0) [none, some (.v d)] m [some (.ref a), some v] H := by
    have nm : ∀ i, ¬ isM [none, some (.v d)] i := fun i ⟨s, h1, h2⟩ => by
      match i, h1 with
      | 1, h1 =>
        cases h1
        cases h2
    refine ⟨fun b h => ?_, st.hl, rfl, rfl, rfl, fun i d' h => ?_, fun i ds h => (nm i ⟨_, h, rfl⟩).elim, fun i l h => (nm i ⟨_, h, rfl⟩).elim, fun i l h => (nm i ⟨_, h, rfl⟩).elim, fun i j h => (nm i h).elim, fun i h => (nm i h).elim, fun b h => st.hl b h.1, st.mr, fun b h z => z.2 h, fun i h => (nm i h).elim, .refl, st.tb, rfl⟩
    · rcases h with h | h | ⟨i, h, _⟩
      · exact st.aM b h
      · exact h.1
      · exact (nm i h).elim
    · match i, h with
      | 1, h =>
        cases h
        exact ⟨v, rfl, rv⟩
  refine ⟨rfl, ?_⟩
  rw [es]
  refine h1.run e _ ((Post.bind q).imp' fun x H1 ⟨d1, m1, g1, r1, p1⟩ => ?_)
  have e1 := e.go g1
  refine hv.run e1 _ (p1.imp' fun y H2 z => ?_)
  exact ⟨.ref a, rfl, a, G.cl c, dx, p, [], 0, rfl, .inl ⟨z.1, rfl⟩, sc, sl, z.2⟩
def dMake (c : Nat) (F : DF) (fa : DA) : DE := fun ρ m => (fa ρ m).bind fun ds m1 => match ds with
  | [d] => (F [d] m1).bind fun z m2 => .ok (.obj c z) m2
  | _ => .bad
theorem de_make {c : Nat} {F : DF} {t : TA} {fa : DA} (ha : Da G E t fa) : De G E (StX.tMakeR (G.cl c) (spI G c F) E t) (dMake c F fa) := ⟨fun {B M pm ρ m σ H} e Q q => by
  refine ha.run e _ ((Post.bind q).imp' fun vs H1 ⟨ds, m1, g1, r1, p1⟩ => ?_)
  have e1 := e.go g1
  split at p1
  · rename_i d
    obtain ⟨v, rfl, r⟩ : ∃ v, vs = [v] ∧ Rep G B.ad M H1 v d := match r1 with
      | .cons r .nil => ⟨_, rfl, r⟩
    · skip
      intro a dx hna hndx ne
      have la := Liv.none hna
      have ldx := Liv.none hndx
      obtain ⟨_, _, nAa⟩ := e1.offX la
      obtain ⟨_, _, nAdx⟩ := e1.offX ldx
      have y0 : ExN H1 (upd H1 dx (.own a)) := ExN.new hndx
      have hna' : upd H1 dx (.own a) a = none := by rw [upd_ne (Ne.symm ne)]; exact hna
      have y1 : ExN H1 (upd (upd H1 dx (.own a)) a (.ins (G.cl c) dx [])) := y0.trans (ExN.new hna')
      have x1 : Ext Non H1 (upd (upd H1 dx (.own a)) a (.ins (G.cl c) dx [])) := y1.k
      have e2 := e1.go (e1.same y1)
      have la1 : upd (upd H1 dx (.own a)) a (.ins (G.cl c) dx []) a = some (.ins (G.cl c) dx []) := upd_same
      have ldx1 : upd (upd H1 dx (.own a)) a (.ins (G.cl c) dx []) dx = some (.own a) := by rw [upd_ne ne]; exact upd_same
      have eA : m1.has = B.A := e1.eh
      refine ⟨fun b => (M b ∨ b = a) ∨ b = dx, d, m1, a, dx, v, rfl, la1, ldx1, ne, .inl (.inr rfl), .inr rfl, by rw [eA]; exact nAa, by rw [eA]; exact nAdx, ?_, ⟨((e1.mr.off la).off ldx).ext x1, fun b hb => .inl (.inl (e2.aM b (by rw [← eA]; exact hb))), fun b hb => ?_, by rw [← e2.tt]; exact e2.tb⟩, ?_⟩
      · rw [e1.ea]
        exact ((r.off la).off ldx).ext x1 fun _ z => z.elim
      · rcases hb with (hb | hb) | hb
        · exact e2.hl b hb
        · rw [hb]
          exact ⟨_, la1, fun ps z => by cases z⟩
        · rw [hb]
          exact ⟨_, ldx1, fun ps z => by cases z⟩
      · have lift : ∀ {m' : Mo} {H' : Hp}, Go G (bxOf G (upd (upd H1 dx (.own a)) a (.ins (G.cl c) dx [])) (fun b => (M b ∨ b = a) ∨ b = dx) m1) (fun b => (M b ∨ b = a) ∨ b = dx) m' (upd (upd H1 dx (.own a)) a (.ins (G.cl c) dx [])) H' → Go G B M m' H1 H' := fun {m' H'} g =>
          ⟨(x1.imp fun _ z => z.elim).trans (g.x.imp fun b hb => by rw [← eA]; exact hb), g.ea.trans e1.ea, g.eh.trans eA, g.mr.less fun b hb => .inl (.inl hb), by rw [e1.tt]; exact g.tb⟩
        cases q1 : F [d] m1 with
        | bad => rw [q1] at p1; exact p1
        | exc cc l m' =>
          rw [q1] at p1
          exact fun cls dd H' g hx => p1 cls dd H' (lift g) (by rw [← e1.ea]; exact hx.less fun b hb => .inl (.inl hb))
        | ok z m' =>
          rw [q1] at p1
          intro y H' g ry
          have g' := lift g
          have ha' : H' a = some (.ins (G.cl c) dx []) := g.x _ _ (by show ¬ m1.has a; rw [eA]; exact nAa) (fun ps z => by cases z) la1
          have hdx' : H' dx = some (.own a) := g.x _ _ (by show ¬ m1.has dx; rw [eA]; exact nAdx) (fun ps z => by cases z) ldx1
          refine ⟨ha', rfl, ?_⟩
          have xs : Ext (fun b => (M b ∨ b = a) ∨ b = dx) H' (SlX.slH H' a (G.cl c) dx [some y]) := (Ext.refl.chg (.inr (.inr rfl))).chg (.inr (.inl (.inr rfl)))
          have xb : Ext B.A H1 (SlX.slH H' a (G.cl c) dx [some y]) := (g'.x.chg (.inl ldx)).chg (.inl la)
          have fdx : Fre H' dx := .own hdx'
          have fa : ∀ {u : HO}, Fre (upd H' dx u) a := fun {u} => .ins (C := G.cl c) (d := dx) (fs := []) (by rw [upd_ne (Ne.symm ne)]; exact ha')
          have xq : Ext (fun b => b = a ∨ b = dx) H' (SlX.slH H' a (G.cl c) dx [some y]) := (Ext.refl.chg (.inr (.inr rfl))).chg (.inr (.inl rfl))
          have eh : m'.has = B.A := g.eh.trans eA
          have mr : MRep G M (SlX.slH H' a (G.cl c) dx [some y]) m' := g.mr.mono xq (fun b hb => hb.elim (fun z => .inl (.inr z)) fun z => .inr z) (fun b hb => .inl (.inl hb)) fun b hb z => z.elim (fun z => nAa (by rw [← eh, ← z]; exact hb)) fun z => nAdx (by rw [← eh, ← z]; exact hb)
          refine p1 _ _ ⟨xb, g'.ea, g'.eh, mr, tabs_upd (tabs_upd g'.tb fdx) fa⟩ (.obj (dx := dx) (v := y) upd_same (by unfold SlX.slH; rw [upd_ne ne, upd_same]) (fun z => la (e1.hl a z)) (fun z => ldx (e1.hl dx z)) ?_)
          have r3 := ry.ext xs fun b hb => hb
          rw [← e1.ea]
          exact r3.less fun b hb => .inl (.inl hb)
  · exact p1.elim⟩
end
end Dn
namespace Dn
open PySem PySem.Spec PyProof.Rows L2
open Sem (wp)

/-! enumerate of a tuple -/
def IteT (K : PySem.W.Frag) (a : Addr) : It where
  go := fun i H => ∃ (xs : List V) (x : V), SqT K H a xs ∧ xs[i]? = some x
  yld := fun i H v H' => ∃ x, PairF H v H' (.int (i : Nat)) x ∧ ∀ xs, SqT K H a xs → xs[i]? = some x
  stop := fun i H => ∃ xs : List V, SqT K H a xs ∧ xs.length = i
theorem turn_enumT {P : Program} {w : World} {K : PySem.W.Frag} {elts : List Expr} {kk : Nat} {tpos : Pos} (a e it : Addr) :
    Turn P w K (.Tuple elts kk tpos) (IteT K a) [e, it] e (fun i h => (∃ old, IsEnum h e it ((i : Nat) : Int) old) ∧ h.IsTupleIter it a i ∧ e ≠ it) where
  mem := by simp
  obj := fun i h st b hb => by
    obtain ⟨⟨old, he⟩, ⟨o, ho, hc, hd⟩, _⟩ := st
    rcases (show b = e ∨ b = it by simpa using hb) with z | z
    · rw [z]
      exact ⟨_, he, fun v q => nomatch q⟩
    · rw [z]
      exact ⟨o, ho, fun v q => by rw [hd] at q; cases q⟩
  keep := fun i h h' st k => let ⟨⟨old, he⟩, hi, hne⟩ := st; ⟨⟨old, k e (by simp) _ he⟩, hi.at fun o q => k it (by simp) o q, hne⟩
  item := by
    intro X hP hw hK hc i pins s σ H E I hf st hg
    subst hP hw hK
    obtain ⟨⟨old, he⟩, hit, hne⟩ := st
    obtain ⟨xs, x, hq, hx⟩ := hg
    obtain ⟨its, rv, p, hz⟩ := I.tuple hq
    obtain ⟨u, hu, ru⟩ := rv.get hx
    have hel : e < s.heap.objs.size := Heap.lt_size he
    have hil : it < s.heap.objs.size := by obtain ⟨_, q, _⟩ := hit; exact Heap.lt_size q
    have pt : s.heap.IsTuple a its.toArray := p
    have hai : a ≠ it := fun z => by
      obtain ⟨o, h1, h2, _⟩ := pt
      obtain ⟨o', h1', h2', _⟩ := hit
      rw [z, h1'] at h1
      cases h1
      exact absurd (Value.type.inj (h2.symm.trans h2')) (by decide)
    have hae : e ≠ a := fun z => by
      obtain ⟨o, h1, h2, _⟩ := pt
      rw [← z, he] at h1
      cases h1
      exact absurd (Value.type.inj (show Value.type "enumerate" = Value.type "tuple" from h2)) (by decide)
    have hlt : i < its.toArray.size := by
      rw [List.size_toArray]
      exact (List.getElem?_eq_some_iff.mp hu).1
    refine wpAny_pyNext_enum_itemD (Draws.tuple (A := X.A.in1) (I.ok.hd hc) it a hai its.toArray) he ⟨hit, pt⟩ hlt hne (by simp [hne, hae]) fun u2 h' tk hu2 ho hs2 hT hsz hk => ?_
    have eu : u2 = u := by
      have q : its.toArray[i]? = some u2 := hu2
      rw [List.getElem?_toArray, hu] at q
      exact (Option.some.inj q).symm
    subst eu
    refine ⟨_, rfl, wpAny_letOwnedTupleGo_enum (s := { s with heap := h', toks := tk + 1 }) ho fun h'' he' sb => ?_⟩
    have hT2 : h''.get? s.heap.objs.size = some { cls := .type "tuple", data := .seq #[.int i tk, u2] } := (sb.2 _ (Nat.ne_of_gt hel)).trans hT
    have J := I.turnedNew (t' := tk + 1) (h' := h'') (ch := [e, it]) (T := s.heap.objs.size) (fun b ob hb q => (sb.2 b (fun z => hb (by simp [z]))).trans (hk b ob (fun z => hb (by simp [z])) (fun z => hb (by simp [z])) q)) hf (Nat.le_refl _)
      (okF (vs := [.int (i : Nat), x]) (us := [.int i tk, u2]) hT2 rfl rfl (.cons ⟨_, rfl⟩ (.cons ru .nil)) (by show 2 ≤ sizeLine; decide) _)
    refine ⟨.ref s.heap.objs.size, _, J, rfl, ⟨x, ⟨_, _, rfl, I.hok.fresh (Nat.le_refl _), rfl, rfl⟩, fun ys hy => by rw [I.tuple_inj hy hq]; exact hx⟩, ⟨⟨u2, ?_⟩, hs2.1.at fun o q => (sb.2 it (Ne.symm hne)).trans q, hne⟩, fun b hb => ?_⟩
    · rw [show ((i + 1 : Nat) : Int) = (i : Int) + 1 by omega]
      exact he'
    · have hb' : b < s.heap.objs.size := by
        rcases (show b = e ∨ b = it by simpa using hb) with z | z
        · rw [z]; exact hel
        · rw [z]; exact hil
      rw [upd_ne (Nat.ne_of_lt hb')]
      exact (hf b hb).1
  done := by
    intro X hP hw hK hc i pins s σ H E I hf st hg
    subst hP hw hK
    obtain ⟨⟨old, he⟩, hit, hne⟩ := st
    obtain ⟨xs, hq, hx⟩ := hg
    obtain ⟨its, rv, p, hz⟩ := I.tuple hq
    obtain ⟨f0, f1, f2, f3, f4, f5⟩ := hf it (by simp)
    have hl := rv.length
    have pt : s.heap.IsTuple a its.toArray := p
    have hai : a ≠ it := fun z => by
      obtain ⟨o, h1, h2, _⟩ := pt
      obtain ⟨o', h1', h2', _⟩ := hit
      rw [z, h1'] at h1
      cases h1
      exact absurd (Value.type.inj (h2.symm.trans h2')) (by decide)
    have en : its.toArray.size = i := by rw [List.size_toArray]; omega
    subst en
    exact wpAny_pyNext_enum_endD (Draws.tuple (A := X.A.in1) (I.ok.hd hc) it a hai its.toArray) he ⟨hit, pt⟩ fun h' eb => ⟨rfl, I.turned (t' := s.toks) (fun b o hb q => eb b o hb q) f0 f1 f3 f4 f5⟩
  self := fun A i s Q E st h => let ⟨⟨_, he⟩, _⟩ := st; wpAny_pyIter_enum he h
def iEnumU (K : PySem.W.Frag) (ta : TA) : TI := fun σ H R => ta σ H fun vs H1 => ∃ a xs, vs = [.ref a] ∧ ((SqL K H1 a xs ∧ R (IteF K a) H1) ∨ (SqT K H1 a xs ∧ R (IteT K a) H1))
set_option maxHeartbeats 1000000 in
theorem enum_new1 {v : Value} {o : Obj} {HH : Heap → Prop} (B : Begins v o HH) :
    Meets (Builtin.«enumerate.__new__» ⟨[.type "enumerate", v], []⟩) (fun _ R s => HH s.heap ∧
      R (.ok (.ret (.ref (s.heap.push o).objs.size))) { s with heap := (s.heap.push o).push { cls := .type "enumerate", data := .fields #[.none, .bool false, .ref s.heap.objs.size, rawInt 0, .none, .none] } }) :=
  .of_wp fun prog w A R s hh => by
    obtain ⟨hp, g, d, tk, os⟩ := s
    obtain ⟨h1, hR⟩ := hh
    have hsub := sub_enumerate
    have q1 : ∀ {A' : Around} {E : Value → Shared → Prop} {Q : Value → Shared → Prop}, Q (.ref hp.objs.size) ⟨hp.push o, g, d, tk, os⟩ → wpAny (model prog w) A' (pyIter v) Q E ⟨hp, g, d, tk, os⟩ :=
      fun z => B.iter prog w _ _ ⟨hp, g, d, tk, os⟩ _ h1 z
    wp_walk using q1
    refine wpAny_stack_any fun st => wpAny_pure ?_
    split
    · rename_i c _ _ _ _ _
      cases (c == Value.type "enumerate")
      · wp_walk using q1
        exact ⟨_, rfl, hR⟩
      · wp_walk using q1
        exact ⟨_, rfl, hR⟩
    · wp_walk using q1
      exact ⟨_, rfl, hR⟩
section
variable {prog : Program} {w : World} {A : Around} {E : Value → Shared → Prop} {s : Shared}
theorem call_enum_tuple {t : Addr} {items : Array Value} {Q : Value → Shared → Prop} (hT : s.heap.IsTuple t items)
    (h : ∀ h', IsEnum h' (s.heap.objs.size + 1) s.heap.objs.size 0 .none → h'.IsTupleIter s.heap.objs.size t 0 → h'.objs.size = s.heap.objs.size + 2 → (∀ b o, s.heap.get? b = some o → h'.get? b = some o) → Q (.ref (s.heap.objs.size + 1)) { s with heap := h' }) :
    wpAny (model prog w) A (call (.type "enumerate") [.ref t]) Q E s := by
  refine callType_new F.called_enumerate (by decide) (F.typeCall_enumerate_1 _) (F.newCall_enumerate_1 _) (fun obj => F.args_object_init_2 obj _) F.entry_enumerate_new (enum_new1 (begins_tuple t items)) ⟨hT, ?_⟩
  have hz : (s.heap.push { cls := .type "tuple_iterator", data := .fields #[.ref t, .int 0 0] }).objs.size = s.heap.objs.size + 1 := Heap.size_push ..
  show _ ∧ _
  rw [hz]
  have he : IsEnum ((s.heap.push { cls := .type "tuple_iterator", data := .fields #[.ref t, .int 0 0] }).push { cls := .type "enumerate", data := .fields #[.none, .bool false, .ref s.heap.objs.size, rawInt 0, .none, .none] }) (s.heap.objs.size + 1) s.heap.objs.size 0 .none := by
    have z := Heap.get?_push_size (s.heap.push { cls := .type "tuple_iterator", data := .fields #[.ref t, .int 0 0] }) (o := { cls := .type "enumerate", data := .fields #[.none, .bool false, .ref s.heap.objs.size, rawInt 0, .none, .none] }) rfl
    rw [hz] at z
    exact z
  exact ⟨⟨_, he, rfl⟩, h _ he ⟨_, Heap.get?_push_of_some _ (Heap.get?_push_size _ rfl), rfl, rfl⟩ (by rw [Heap.size_push, hz]) fun b o x => Heap.get?_push_of_some _ (Heap.get?_push_of_some _ x)⟩
end
theorem pi_enumU {X : Cx} {e : Expr} {ta : TA} {p pos tpos : Pos} {elts : List Expr} {kk : Nat} (hg : Gl X "enumerate") (hm : X.mg "enumerate" = none) (ha : PA X [e] ta) (hst : starEach [e] X.env = [(false, eval e X.env)] := by rfl) :
    PI X (.Tuple elts kk tpos) (.Call (.Name "enumerate" p) [e] [] pos) (iEnumU X.K ta) := ⟨fun pins s σ H R I h => by
  refine Call_ (ld_blt I hg hm boot_enumerate (PyProof.Rows.callWith_type1 (thn (ha.run pos pins s σ H _ I h) fun zs s1 ⟨vs, H1, J, r1, a, xs, ex, q1⟩ => ?_) hst rfl))
  subst ex
  cases r1 with
  | cons r rr =>
    cases rr
    cases r
    have fre : ∀ b : Addr, b = s1.heap.objs.size + 1 ∨ b = s1.heap.objs.size → FpOk X pins H1 b := fun b z => by
      have hle : s1.heap.objs.size ≤ b := z.elim (fun z => by rw [z]; exact Nat.le_succ _) fun z => by rw [z]; exact Nat.le_refl _
      exact J.fpOk hle (J.hok.fresh hle)
    rcases q1 with ⟨hq, q⟩ | ⟨hq, q⟩
    · obtain ⟨its, rv, p', hz⟩ := J.list hq
      refine call_enumerate_list p'.isList fun h' he hit hsz hk => wpAny_pyIter_enum he ?_
      have J2 : Inv X pins σ H1 { s1 with heap := h' } := J.kept (t' := s1.toks) hk
      exact ⟨s1.heap.objs.size + 1, [s1.heap.objs.size + 1, s1.heap.objs.size], _, _, H1, rfl, J2, turn_enumF a (s1.heap.objs.size + 1) s1.heap.objs.size, ⟨⟨.none, he⟩, hit, Nat.succ_ne_self _⟩, fun b hb => fre b (by simpa using hb), q⟩
    · obtain ⟨its, rv, p', hz⟩ := J.tuple hq
      refine call_enum_tuple p' fun h' he hit hsz hk => wpAny_pyIter_enum he ?_
      have J2 : Inv X pins σ H1 { s1 with heap := h' } := J.kept (t' := s1.toks) hk
      exact ⟨s1.heap.objs.size + 1, [s1.heap.objs.size + 1, s1.heap.objs.size], _, _, H1, rfl, J2, turn_enumT a (s1.heap.objs.size + 1) s1.heap.objs.size, ⟨⟨.none, he⟩, hit, Nat.succ_ne_self _⟩, fun b hb => fre b (by simpa using hb), q⟩⟩
section
variable {G : Cl} {E : XK}
theorem wk_enumT {ad : Ad} {a : Addr} {ds : List D} : Wk G ad (IteT G.K a) (enumD 0 ds) (fun M H => Rep G ad M H (.ref a) (.tup ds)) where
  keep := fun r s => s.mono r
  stop := fun {M H} r => by
    cases r with
    | tup h n r => exact ⟨_, h.sq, by rw [enumD_len]; exact r.length⟩
  go := fun {M H i} r hi => by
    cases r with
    | tup h n r =>
      rename_i vs
      rw [enumD_len] at hi
      have hl : i < vs.length := by rw [r.length]; exact hi
      exact ⟨vs, vs[i], h.sq, List.getElem?_eq_getElem hl⟩
  yld := fun {M H H' i d x} r hm hd y => by
    cases r with
    | tup h n r =>
      obtain ⟨y1, ⟨T, o, rfl, hT, ho, rfl⟩, y⟩ := y
      obtain ⟨z, h1, rfl⟩ := enumD_get hd
      obtain ⟨v, hv, rv⟩ := r.getD h1
      have e := Option.some.inj ((y _ h.sq).symm.trans hv)
      subst e
      rw [Nat.zero_add]
      exact pair_rep hm hT ho (.int _) rv
def dEnumU (f : DA) : DI := fun ρ m => (f ρ m).bind fun d m1 => match d with
  | [.lst l] => .ok (enumD 0 l) m1
  | [.tup l] => .ok (enumD 0 l) m1
  | [.scr ns] => .ok (enumD 0 (ns.map D.int)) m1
  | _ => .bad
theorem di_enumU {t : TA} {f : DA} (h : Da G E t f) : Di G E (iEnumU G.K t) (dEnumU f) := ⟨fun {B M pm ρ m σ H} e Q p => by
  refine h.run e _ ((Post.bind p).imp' fun x H1 ⟨d1, m1, g1, r1, p1⟩ => ?_)
  have e1 := e.go g1
  split at p1
  · cases r1 with
    | cons r rs =>
      cases rs
      cases r with
      | lst q n r => exact ⟨_, _, rfl, .inl ⟨SqL.of q, p1 _ _ e1.here ⟨_, wk_enum, .lst q n r⟩⟩⟩
  · cases r1 with
    | cons r rs =>
      cases rs
      cases r with
      | tup q n r => exact ⟨_, _, rfl, .inr ⟨q.sq, p1 _ _ e1.here ⟨_, wk_enumT, .tup q n r⟩⟩⟩
  · cases r1 with
    | cons r rs =>
      cases rs
      obtain ⟨a, rfl, hs⟩ := r.scr
      exact ⟨_, _, rfl, .inl ⟨hs, p1 _ _ e1.here ⟨_, wk_enumS, r⟩⟩⟩
  · exact p1.elim⟩
end
end Dn
namespace HT
open PySem PySem.Spec PyProof.Rows L2
/-! xs[::-1] of a tuple -/
theorem fm_map {α β : Type} {f : α → Option β} {g : α → β} : ∀ {l : List α}, (∀ m ∈ l, f m = some (g m)) → l.filterMap f = l.map g
  | [], _ => rfl
  | x :: r, h => by
    rw [List.filterMap_cons, h x List.mem_cons_self, List.map_cons, fm_map fun m hm => h m (List.mem_cons_of_mem _ hm)]
theorem back_pick (xs : Array Value) : ((List.range xs.size).filterMap fun (m : Nat) => xs[(((xs.size : Nat) : Int) - 1 + (m : Int) * (-1)).toNat]?).toArray = xs.toList.reverse.toArray := by
  apply congrArg List.toArray
  apply List.ext_getElem?
  intro i
  have e : ∀ m ∈ List.range xs.size, (fun (m : Nat) => xs[(((xs.size : Nat) : Int) - 1 + (m : Int) * (-1)).toNat]?) m = (fun (m : Nat) => some (xs.toList.reverse.getD m default)) m := by
    intro m hm
    have hm' : m < xs.size := List.mem_range.mp hm
    have e1 : (((xs.size : Nat) : Int) - 1 + (m : Int) * (-1)).toNat = xs.size - 1 - m := by omega
    show xs[(((xs.size : Nat) : Int) - 1 + (m : Int) * (-1)).toNat]? = some (xs.toList.reverse.getD m default)
    rw [e1]
    have hl : xs.toList.reverse[m]? = xs.toList[xs.toList.length - 1 - m]? := List.getElem?_reverse (by simpa using hm')
    rw [List.getD_eq_getElem?_getD, hl]
    simp only [Array.length_toList, Array.getElem?_toList]
    rw [Array.getElem?_eq_getElem (by omega)]
    rfl
  rw [fm_map (g := fun (m : Nat) => xs.toList.reverse.getD m default) e]
  rw [List.getElem?_map]
  by_cases hi : i < xs.size
  · rw [List.getElem?_range hi]
    have hl : i < xs.toList.reverse.length := by simpa using hi
    rw [List.getElem?_eq_getElem hl]
    show some (xs.toList.reverse.getD i default) = _
    rw [List.getD_eq_getElem?_getD, List.getElem?_eq_getElem hl]
    rfl
  · rw [List.getElem?_eq_none (by simpa using hi), List.getElem?_eq_none (by simpa using hi)]
    rfl
section
variable {prog : Program} {w : World} {A : Around} {E : Value → Shared → Prop} {s : Shared}
theorem getItem_tuple_back {t sl : Addr} {items : Array Value} {vl vu vs : Value} {Q : Value → Shared → Prop} (ht : IsTup s.heap t items) (hs : s.heap.IsSliceOf sl vl vu vs) (pl : IsPart vl none) (pu : IsPart vu none) (ps : IsPart vs (some (-1)))
    (h : Q (.ref s.heap.objs.size) { s with heap := s.heap.push { cls := .type "tuple", data := .seq items.toList.reverse.toArray } }) (hsz : items.size ≤ sizeLine) : wpAny (model prog w) A (getItem (.ref t) (.ref sl)) Q E s := by
  have hz : sizeOk (.seq items.toList.reverse.toArray) := by
    show items.toList.reverse.toArray.size ≤ sizeLine
    rw [List.size_toArray, List.length_reverse, Array.length_toList]
    exact hsz
  obtain ⟨os, hos, hcs, hds⟩ := id hs
  have hTs : s.TypeIs (.ref sl) "slice" := ⟨os, hos, hcs⟩
  unfold getItem
  try with_reducible refine wpAny_holding ?_
  first | refine wpAny_bind (wpAny_pure ?_) | skip
  refine wpAny_bind (wpAny_sequenceKey ht.typeIs (by decide) ?_)
  refine wpAny_bind (wpAny_callSpecial?_slot (name := Str.ofString "__getitem__") ht.typeIs PyProof.Rows.slot_tuple_getitem (wpAny_call_entry PyProof.Rows.slot_tuple_getitem ht.typeIs entry_tuple_getitem ?_ (args_tuple_getitem _ _)))
  show wpAny _ _ (Builtin.Tuple.tupleItemsOf (.ref t) >>= _) _ _ s
  refine wpAny_bind (tupleItemsOf_ ht ?_)
  refine wpAny_bind (wpAny_typeOf hTs ?_)
  rw [if_pos (by decide)]
  refine wpAny_bind (wpAny_mono (show wpAny (model prog w) _ (Builtin.Slice.sliceApplied (.ref sl) (pure (items.size : Int))) (fun r s' => r = ((items.size : Int) - 1, -1, items.size) ∧ s' = s) _ s from ?_) (fun r s' hr => ?_) fun _ _ z => z)
  · unfold Builtin.Slice.sliceApplied Builtin.Slice.sliceFields
    refine wpAny_bind (wpAny_bind (wpAny_field hos hds (x := vl) rfl (wpAny_bind (wpAny_field hos hds (x := vu) rfl (wpAny_bind (wpAny_field hos hds (x := vs) rfl (wpAny_pure ?_)))))))
    refine wpAny_bind (slicePart_ ps ?_)
    show wpAny _ _ (if ((-1 : Int) == 0) = true then _ else _) _ _ s
    rw [if_neg (by decide)]
    refine wpAny_bind (slicePart_ pl (wpAny_bind (slicePart_ pu (wpAny_bind (wpAny_pure ?_)))))
    refine wpAny_pure ⟨?_, rfl⟩
    have e1 : Builtin.Slice.sliceAdjust none none (-1) (items.size : Int) = ((items.size : Int) - 1, -1) := rfl
    show ((Builtin.Slice.sliceAdjust none none (-1) (items.size : Int)).1, (-1 : Int), Builtin.Slice.slicePlaces (Builtin.Slice.sliceAdjust none none (-1) (items.size : Int)).1 (Builtin.Slice.sliceAdjust none none (-1) (items.size : Int)).2 (-1)) = _
    rw [e1]
    have e2 : Builtin.Slice.slicePlaces ((items.size : Int) - 1) (-1) (-1) = items.size := by
      unfold Builtin.Slice.slicePlaces
      have h1 : ¬ ((-1 : Int) > 0) := by omega
      simp only [h1, if_false]
      rw [show (-(-1) : Int) = 1 from rfl, Int.ediv_one]
      split <;> omega
    rw [e2]
  · obtain ⟨rfl, rfl⟩ := hr
    have hno : ¬ ((((items.size : Int) - 1 == 0 && (-1 : Int) == 1 && items.size == items.size)) = true) := by
      intro q
      rw [Bool.and_eq_true, Bool.and_eq_true] at q
      exact absurd q.1.2 (by decide)
    show wpAny _ _ (if ((items.size : Int) - 1 == 0 && (-1 : Int) == 1 && items.size == items.size) = true then _ else _) _ _ _
    rw [if_neg hno, back_pick]
    first
      | exact wpAny_bind (m := Builtin.Tuple.tupleExact _) (wpAny_newObj_type (wpAny_pure ⟨_, rfl, wpAny_pure h⟩) hz)
      | exact wpAny_bind (m := Builtin.Tuple.tupleExact _) (wpAny_newObj_type (wpAny_bind (wpAny_pure (wpAny_pure ⟨_, rfl, wpAny_pure h⟩))) hz)
      | exact wpAny_bind (wpAny_bind (m := Builtin.Tuple.tupleExact _) (wpAny_newObj_type (wpAny_pure (wpAny_pure ⟨_, rfl, wpAny_pure h⟩)) hz))
      | exact wpAny_bind (wpAny_bind (m := Builtin.Tuple.tupleExact _) (wpAny_newObj_type (wpAny_pure ⟨_, rfl, wpAny_pure h⟩) hz))
end
end HT
namespace Dn
open PySem PySem.Spec PyProof.Rows L2

/-! xs[::-1] -/
def tRevU (K : PySem.W.Frag) (te : TE) : TE := fun σ H Q => te σ H fun x H1 => ∃ a xs, x = .ref a ∧ ((SqL K H1 a xs ∧ ∀ p, H1 p = none → Q (.ref p) (upd H1 p (.lst xs.reverse))) ∨ (SqT K H1 a xs ∧ NewT xs.reverse Q H1))
theorem pe_revU {X : Cx} {e : Expr} {te : TE} {k : Nat} {p1 p2 p3 pos : Pos} (he : PE X e te) : PE X (.Subscript e (.Slice none none (some (.UnaryOp .USub (.Constant (.int 1) k p1) p2)) p3) pos) (tRevU X.K te) := ⟨fun pins s σ H Q I h => by
  refine Subscript_ (thn (he.run pins s σ H _ I h) fun v s1 ⟨x, H1, J1, r1, a, xs, ex, q⟩ => ?_)
  subst ex
  cases r1
  have hst : PO X (some (.UnaryOp .USub (.Constant (.int 1) k p1) p2)) (tPart (tUn (rU fun i => .int (-i)) (tC (.int 1)))) := po_some (pe_un un_neg pe_int)
  refine wpAny_Slice (thn (po_none.run pins s1 σ H1 (fun o H2 => o = none ∧ H2 = H1) J1 ⟨rfl, rfl⟩) fun vl s2 ⟨l, H2, J2, pl, el, e2⟩ => ?_)
  subst el e2
  refine thn (po_none.run pins s2 σ H2 (fun o H3 => o = none ∧ H3 = H2) J2 ⟨rfl, rfl⟩) fun vu s3 ⟨u, H3, J3, pu, eu, e3⟩ => ?_
  subst eu e3
  refine thn (hst.run pins s3 σ H3 (fun o H4 => o = some (-1) ∧ H4 = H3) J3 ⟨1, rfl, -1, rfl, rfl, rfl⟩) fun vs s4 ⟨o, H4, J4, ps, eo, e4⟩ => ?_
  subst eo e4
  have J5 : Inv X pins σ H4 { s4 with heap := s4.heap.push { cls := .type "slice", data := .fields #[vl, vu, vs] } } := J4.kept (t' := s4.toks) fun b ob q => Heap.get?_push_of_some _ q
  show wpAny (model X.prog X.w) X.A (subscriptTail e (.Slice none none (some (.UnaryOp .USub (.Constant (.int 1) k p1) p2)) p3) (.ref a) (.ref s4.heap.objs.size)) (EP X pins σ Q) X.xe { s4 with heap := s4.heap.push { cls := .type "slice", data := .fields #[vl, vu, vs] } }
  rcases q with ⟨hx, q⟩ | ⟨hx, q⟩
  · obtain ⟨its, r, ht, hz⟩ := J5.list hx
    have hlen := r.length
    refine tail_any (ops := [.ref a, .ref s4.heap.objs.size]) ht.isList.typeIs (PySem.slot_list_getitem.lookup) ?_ (by with_unfolding_all rfl)
    refine wpAny_getItem_list_slice ht.isList (Heap.IsSliceOf.new _ vl vu vs) pl pu ps (by decide) ?_ (by rw [List.size_toArray]; omega)
    rw [PySem.W.krv_pick]
    refine ⟨.ref _, _, J5.laid (t' := s4.toks) (o := .lst xs.reverse) (fun b ob q => Heap.get?_push_of_some _ q) (Nat.le_refl _) ?_, rfl, q _ (J5.hok.fresh (Nat.le_refl _))⟩
    exact ⟨by rw [List.length_reverse]; exact hz, _, 0, r.reverse, Heap.get?_push_size _ rfl⟩
  · obtain ⟨its, r, ht, hz⟩ := J5.tuple hx
    have hlen := r.length
    refine tail_any (ops := [.ref a, .ref s4.heap.objs.size]) ht.typeIs (PyProof.Rows.slot_tuple_getitem.lookup) ?_ (by with_unfolding_all rfl)
    refine HT.getItem_tuple_back ht (Heap.IsSliceOf.new _ vl vu vs) pl pu ps ?_ (by rw [List.size_toArray]; omega)
    have w := newF (t := s4.toks) J5 r.reverse (by rw [List.length_reverse]; exact hz) q
    exact w⟩
section
variable {G : Cl} {E : XK}
def revUD : D → Option D
  | .lst l => some (.lst l.reverse)
  | .tup l => some (.tup l.reverse)
  | _ => none
theorem de_revU {t : TE} {f : DE} (h : Dq G E t f) : De G E (tRevU G.K t) (dUn revUD f) := ⟨fun {B M pm ρ m σ H} e Q p => by
  refine h.run e _ ((Post.bind p).imp' fun x H1 ⟨d1, m1, g1, r1, p1⟩ => ?_)
  have e1 := e.go g1
  obtain ⟨z, q, k⟩ := Post.of e1 p1
  unfold revUD at q
  split at q
  · cases q
    obtain ⟨a, vs, rfl, ha, ra⟩ := r1.lst
    exact ⟨a, vs, rfl, .inl ⟨SqL.of ha, fun p hp => k _ _ (ExN.new hp) ((ra.rev).newL e1.hm hp)⟩⟩
  · cases q
    obtain ⟨a, vs, rfl, ha, na, ra⟩ := r1.tup
    exact ⟨a, vs, rfl, .inr ⟨ha.sq, fun p o hp hd => k _ _ (ExN.new hp) ((ra.rev).newT e1.hm hp hd)⟩⟩
  · cases q⟩
/-! a display with *e -/
def dStar (fa : DE) (fr : DA) : DA := fun ρ m => (fa ρ m).bind fun x m1 => match x with
  | .tup l => (fr ρ m1).bind fun xs m2 => .ok (l ++ xs) m2
  | .lst l => (fr ρ m1).bind fun xs m2 => .ok (l ++ xs) m2
  | _ => .bad
/-! f-strings -/
def dFmt (fa : DE) : DE := fun ρ m => (fa ρ m).bind fun x m1 => match x with
  | .str y => if y.length ≤ 1000000 then .ok (.str y) m1 else .bad
  | .int i => if i.natAbs.log2 < 1920 then .ok (.str (toString i)) m1 else .bad
  | _ => .bad
inductive DL (G : Cl) (E : XK) : List TE → List DE → Prop
  | nil : DL G E [] []
  | cons {t : TE} {f : DE} {ts : List TE} {fs : List DE} (h : De G E t f) (r : DL G E ts fs) : DL G E (t :: ts) (f :: fs)
def dJs : List DE → Str → Ro → Mo → R Str
  | [], acc, _, m => .ok acc m
  | f :: fs, acc, ρ, m => (f ρ m).bind fun x m1 => match x with
    | .str y => if (acc ++ y).length ≤ 1000000 then dJs fs (acc ++ y) ρ m1 else .bad
    | _ => .bad
def dJoined (fs : List DE) : DE := fun ρ m => (dJs fs Str.empty ρ m).bind fun x m1 => .ok (.str x) m1
/-! ''.join -/
def strsOf : List D → Option (List Str)
  | [] => some []
  | .str x :: r => (strsOf r).map (x :: ·)
  | _ => none
def joinD (a : Str) (ds : List D) : Option D := match strsOf ds with
  | some ys => if (ys.map (·.length)).sum + ys.length * a.length ≤ 1000000 then some (.str (Txt.join a ys)) else none
  | none => none
def dJoin (fo fe : DE) : DE := fun ρ m => (fo ρ m).bind fun x m1 => match x with
  | .str a => (fe ρ m1).bind fun y m2 => match y with
    | .lst l => R.of (joinD a l) m2
    | .tup l => R.of (joinD a l) m2
    | _ => .bad
  | _ => .bad
/-! pairs of assignments -/
def sPar (i j : Nat) (fa : DA) : DS := fun ρ m => sBind (fa ρ m) fun ds m1 => match ds with
  | [a, b] => .nx ((ρ.set i (some (.v a))).set j (some (.v b))) m1
  | _ => .bad
def sPar3 (i j l : Nat) (fa : DA) : DS := fun ρ m => sBind (fa ρ m) fun ds m1 => match ds with
  | [a, b, c] => .nx (((ρ.set i (some (.v a))).set j (some (.v b))).set l (some (.v c))) m1
  | _ => .bad
/-! a < b < c -/
def dChain (g g' : D → D → Option D) (fa fb fc : DE) : DE := fun ρ m => (fa ρ m).bind fun x m1 => (fb ρ m1).bind fun y m2 => match g x y with
  | some (.bl true) => (fc ρ m2).bind fun z m3 => R.of (g' y z) m3
  | some (.bl false) => .ok (.bl false) m2
  | _ => .bad
theorem de_chain {r r' : R2} {g g' : D → D → Option D} {ta tb tc : TE} {fa fb fc : DE} (o : O2 G r g) (o' : O2 G r' g') (ha : Dq G E ta fa) (hb : Dq G E tb fb) (hc : Dq G E tc fc) : De G E (tChain r r' ta tb tc) (dChain g g' fa fb fc) := ⟨fun {B M pm ρ m σ H} e Q p => by
  refine ha.run e _ ((Post.bind p).imp' fun x H1 ⟨d1, m1, g1, r1, p1⟩ => ?_)
  have e1 := e.go g1
  refine hb.run e1 _ ((Post.bind p1).imp' fun y H2 ⟨d2, m2, g2, r2, p2⟩ => ?_)
  have e2 := e1.go g2
  split at p2
  · rename_i hg
    refine o.run (A := B.A) e2.hm e2.aM (r1.ext g2.x e2.aM) r2 hg _ fun v H3 x3 rv => ?_
    cases rv
    have e3 := e2.go (e2.same x3)
    refine ⟨true, rfl, iteT ?_⟩
    have p3 := p2.later (e2.same x3)
    refine hc.run e3 _ ((Post.bind p3).imp' fun w H4 ⟨d4, m4, g4, r4, p4⟩ => ?_)
    have e4 := e3.go g4
    obtain ⟨z, q, k⟩ := Post.of e4 p4
    exact o'.run e4.hm e4.aM ((r2.ext (x3.k.imp fun _ z => z.elim) e2.aM).ext g4.x e4.aM) r4 q Q k
  · rename_i hg
    refine o.run (A := B.A) e2.hm e2.aM (r1.ext g2.x e2.aM) r2 hg _ fun v H3 x3 rv => ?_
    cases rv
    have e3 := e2.go (e2.same x3)
    exact ⟨false, rfl, iteF (p2 _ _ (e2.same x3) (.bl false))⟩
  · exact p2.elim⟩
/-! tuple(range(..)), list(range(..)) -/
def rgD (lo hi : Int) : List D := (List.range (hi - lo).toNat).map fun i => .int (lo + (i : Nat))
theorem rg_rep {ad : Ad} {M : AP} {H : Hp} (a b : Int) : Reps G ad M H (rgV a b) (rgD a b) := by
  unfold rgV rgD
  have e1 : (List.range (b - a).toNat).map (fun i => V.int (a + (i : Nat))) = ((List.range (b - a).toNat).map fun (i : Nat) => a + (i : Int)).map V.int := by rw [List.map_map]; rfl
  have e2 : (List.range (b - a).toNat).map (fun i => D.int (a + (i : Nat))) = ((List.range (b - a).toNat).map fun (i : Nat) => a + (i : Int)).map D.int := by rw [List.map_map]; rfl
  rw [e1, e2]
  exact reps_ints _
def rgOk (a b : Int) : Bool := decide (-1000000 ≤ a ∧ a ≤ 1000000 ∧ -1000000 ≤ b ∧ b ≤ 1000000)
theorem rgOk_ok {a b : Int} (h : rgOk a b = true) : RgOk a b := by
  have h' := of_decide_eq_true h
  exact ⟨by omega, by omega, by omega, by omega, by omega⟩
def dRgT1 (fa : DE) : DE := fun ρ m => (fa ρ m).bind fun x m1 => match x with
  | .int j => if rgOk 0 j = true then .ok (.tup (rgD 0 j)) m1 else .bad
  | _ => .bad
def dRgT2 (fa fb : DE) : DE := fun ρ m => (fa ρ m).bind fun x m1 => (fb ρ m1).bind fun y m2 => match x, y with
  | .int i, .int j => if rgOk i j = true then .ok (.tup (rgD i j)) m2 else .bad
  | _, _ => .bad
theorem de_rgT2 {ta tb : TE} {fa fb : DE} (ha : De G E ta fa) (hb : De G E tb fb) : De G E (tTupRgF (tRg2 ta tb)) (dRgT2 fa fb) := ⟨fun {B M pm ρ m σ H} e Q p => by
  refine ha.run e _ ((Post.bind p).imp' fun x H1 ⟨d1, m1, g1, r1, p1⟩ => ?_)
  have e1 := e.go g1
  refine hb.run e1 _ ((Post.bind p1).imp' fun y H2 ⟨d2, m2, g2, r2, p2⟩ => ?_)
  have e2 := e1.go g2
  split at p2
  · split at p2
    · rename_i h
      cases r1
      cases r2
      exact ⟨_, _, rfl, rfl, rgOk_ok h, fun q o hq hd => p2 _ _ (e2.same (ExN.new hq)) ((rg_rep _ _).newT e2.hm hq hd)⟩
    · exact p2.elim
  · exact p2.elim⟩
/-! truth -/
def truD : D → Option Bool
  | .non => some false
  | .bl b => some b
  | .int i => some (i != 0)
  | .str x => if x.length ≤ 1000000 then some ((x.length : Int) != 0) else none
  | .tup l => some (!l.isEmpty)
  | .lst l => some (!l.isEmpty)
  | _ => none
def dTru (f : DE) : DT := fun ρ m => (f ρ m).bind fun x m1 => R.of (truD x) m1
theorem Reps.isEmpty {ad : Ad} {M : AP} {H : Hp} {vs : List V} {ds : List D} (r : Reps G ad M H vs ds) : vs.isEmpty = ds.isEmpty := by
  cases r <;> rfl
theorem dt_tru {t : TE} {f : DE} (h : Dq G E t f) : Dt G E (fun σ H Q => t σ H fun x H' => ∃ k, TruV G.K x H' k ∧ Q k H') (dTru f) := ⟨fun {B M pm ρ m σ H} e Q p => by
  refine h.run e _ ((Post.bind p).imp' fun x H1 ⟨d1, m1, g1, r1, p1⟩ => ?_)
  have e1 := e.go g1
  obtain ⟨z, q, k⟩ := Post.of e1 p1
  refine ⟨z, ?_, k _ _ .refl rfl⟩
  cases d1 with
  | non => cases q; rw [r1.non]; exact rfl
  | bl b => cases q; rw [r1.bl]; exact rfl
  | int i => cases q; rw [r1.int]; exact rfl
  | str x =>
    rw [r1.str]
    have q' : (if x.length ≤ 1000000 then some ((x.length : Int) != 0) else none) = some z := q
    split at q'
    · rename_i hl
      cases q'
      exact ⟨sz_ok (by omega), rfl⟩
    · cases q'
  | tup l =>
    cases q
    obtain ⟨a, vs, rfl, ha, na, ra⟩ := r1.tup
    exact .inr (.inl ⟨vs, ha.sq, by rw [ra.isEmpty]⟩)
  | lst l =>
    cases q
    obtain ⟨a, vs, rfl, ha, ra⟩ := r1.lst
    exact .inl ⟨vs, SqL.of ha, by rw [ra.isEmpty]⟩
  | _ => cases q⟩
/-! isinstance -/
def tyD : D → Option String
  | .non => some "NoneType"
  | .bl _ => some "bool"
  | .int _ => some "int"
  | .str _ => some "str"
  | .tup _ => some "tuple"
  | .lst _ => some "list"
  | .dct _ => some "dict"
  | _ => none
theorem ty_rep {ad : Ad} {A M : AP} {H : Hp} {v : V} {d : D} {n : String} (r : RepT G ad A M H v d) (h : tyD d = some n) : TyX G.K H v (.type n) := by
  cases d with
  | non => cases h; rw [r.non]; exact .base .non
  | bl b => cases h; rw [r.bl]; exact .base (.bl b)
  | int i => cases h; rw [r.int]; exact .base (.int i)
  | str x => cases h; rw [r.str]; exact .base (.str x)
  | tup l =>
    cases h
    obtain ⟨a, vs, rfl, ha, na, ra⟩ := r.tup
    obtain ⟨o, _, e⟩ := ha
    exact .fTuple e
  | lst l =>
    cases h
    obtain ⟨a, vs, rfl, ha, ra⟩ := r.lst
    exact .base (.lst ha)
  | dct l =>
    cases h
    cases r with
    | r r =>
      cases r with
      | dct ha n e r => exact .base (.dK ha)
    | mk n ha e r => exact .base (.dK ha)
  | _ => cases h
end
end Dn
namespace Dn
open PySem PySem.Spec PyProof.Rows L2

/-! isinstance, built-in classes -/
def tyNames : List String := ["NoneType", "bool", "int", "str", "tuple", "list", "dict"]
def clNames : List String := ["int", "bool", "list", "tuple", "str", "dict"]
def sb (t n : String) : Bool := t == n || (t == "bool" && n == "int")
theorem kit_sb (K : PySem.W.Frag) : ∀ t ∈ tyNames, ∀ n ∈ clNames, PySem.W.kitOne K (.type t) (.type n) = some (sb t n) := by
  unfold tyNames clNames
  simp only [List.forall_mem_cons, List.not_mem_nil, false_implies, implies_true, and_true]
  repeat' apply And.intro
  all_goals rfl
theorem ty_names {d : D} {n : String} (h : tyD d = some n) : n ∈ tyNames := by
  cases d <;> cases h <;> (unfold tyNames; simp)
section
variable {G : Cl} {E : XK}
def dIsi (n : String) (fa : DE) : DE := fun ρ m => (fa ρ m).bind fun x m1 => match tyD x with
  | some t => if n ∈ clNames then .ok (.bl (sb t n)) m1 else .bad
  | none => .bad
theorem de_isi {n : String} {t : TE} {f : DE} (h : Dq G E t f) : De G E (tCB (rIsi G.K) (tCons t (tCons (tC (.ty n)) tNil))) (dIsi n f) := ⟨fun {B M pm ρ m σ H} e Q p => by
  refine h.run e _ ((Post.bind p).imp' fun x H1 ⟨d1, m1, g1, r1, p1⟩ => ?_)
  have e1 := e.go g1
  split at p1
  · rename_i tn ht
    split at p1
    · rename_i hn
      exact ⟨x, .ty n, .type tn, .type n, _, rfl, .ty n, ty_rep r1 ht, kit_sb G.K tn (ty_names ht) n hn, p1 _ _ e1.here (.bl _)⟩
    · exact p1.elim
  · exact p1.elim⟩
theorem kit_any (K : PySem.W.Frag) {t : String} (ht : t ∈ tyNames) : ∀ {ns : List String}, (∀ n ∈ ns, n ∈ clNames) → PySem.W.kitAny K (.type t) (ns.map Value.type) = some (ns.any (sb t))
  | [], _ => rfl
  | n :: r, h => by
    have h1 := kit_sb K t ht n (h n List.mem_cons_self)
    have h2 := kit_any K ht (ns := r) fun z hz => h z (List.mem_cons_of_mem _ hz)
    show (match PySem.W.kitOne K (.type t) (.type n) with
      | some true => some true
      | some false => PySem.W.kitAny K (.type t) (r.map Value.type)
      | none => none) = some (sb t n || r.any (sb t))
    rw [h1]
    cases sb t n with
    | true => rfl
    | false => exact h2
theorem paired_ty : ∀ ns : List String, Paired ClsV (ns.map V.ty) (ns.map Value.type)
  | [] => .nil
  | n :: r => .cons (.ty n) (paired_ty r)
/-- a display of built-in classes -/
def tTys : List String → TA
  | [] => tNil
  | n :: r => tCons (tC (.ty n)) (tTys r)
theorem tTys_run {σ : L2.St} {H : Hp} : ∀ {ns : List String} {Q : List V → Hp → Prop}, Q (ns.map V.ty) H → tTys ns σ H Q
  | [], _, q => q
  | n :: r, Q, q => tTys_run (ns := r) (Q := fun vs H' => Q (.ty n :: vs) H') q
def dIsiT (ns : List String) (fa : DE) : DE := fun ρ m => (fa ρ m).bind fun x m1 => match tyD x with
  | some t => if (∀ n ∈ ns, n ∈ clNames) ∧ ns.length ≤ 100 then .ok (.bl (ns.any (sb t))) m1 else .bad
  | none => .bad
theorem de_isiT {ns : List String} {t : TE} {f : DE} (h : Dq G E t f) : De G E (tCB (rIsiT G.K) (tCons t (tCons (tTup (tTys ns)) tNil))) (dIsiT ns f) := ⟨fun {B M pm ρ m σ H} e Q p => by
  refine h.run e _ ((Post.bind p).imp' fun x H1 ⟨d1, m1, g1, r1, p1⟩ => ?_)
  have e1 := e.go g1
  split at p1
  · rename_i tn ht
    split at p1
    · rename_i hn
      refine tTys_run ⟨sz_ok (by rw [List.length_map]; omega), fun q hq => ?_⟩
      have x2 : ExN H1 (upd H1 q (.tup (ns.map V.ty))) := ExN.new hq
      exact ⟨x, q, ns.map V.ty, .type tn, ns.map Value.type, _, rfl, upd_same, paired_ty ns, ty_rep (r1.ext (x2.k.imp fun _ z => z.elim) e1.aM) ht, kit_any G.K (ty_names ht) hn.1, p1 _ _ (e1.same x2) (.bl _)⟩
    · exact p1.elim
  · exact p1.elim⟩
end
/-! repr -/
def rReprD (K : PySem.W.Frag) : List V → Hp → VK → Prop := fun xs H Q => (∃ x, xs = [.str x] ∧ (reprText x).length ≤ sizeLine ∧ Q (.str (reprText x)) H) ∨ ∃ v d, xs = [v] ∧ L2.Dp K H v d ∧ SeqAt.shaped d = true ∧ d.showable = true ∧ d.shown.length ≤ sizeLine ∧ Q (.str d.shown) H
theorem call_reprD {X : Cx} (hg : X.A.guards = some []) (hu : X.A.units + 200 < cLine) : CallR X (.builtin "repr") (rReprD X.K) := by
  intro pins s σ H xs us Q I r h
  rcases h with ⟨x, rfl, hz, q⟩ | ⟨v, d, rfl, hd, sh, hw, hz, q⟩
  · cases r with
    | cons rv rt =>
      cases rt
      obtain ⟨t, rfl⟩ := rv
      exact PySem.P.repr_of_str ⟨.str (reprText x), H, I.tok _, ⟨_, rfl⟩, q⟩ hz
  cases r with
  | cons rv rt =>
    cases rt
    rename_i u
    obtain ⟨as, rd⟩ := Dp.reads I d v u hd rv
    have lay : d.canLay0 = true := SeqAt.canLay_of_shaped sh
    have hdep : d.depth ≤ 64 := by
      have z : (d.canLay0 && decide (d.depth ≤ 64)) = true := sh
      exact of_decide_eq_true (Bool.and_eq_true_iff.mp z).2
    have noD : d.hasDict = true → sysModules ∉ as := PyData.noDict_hsm (PyData.hasDict_of_canLay d lay)
    have fin : ∀ (h' : Heap) (t : Tok) (tk : Nat), (∀ b o, s.heap.get? b = some o → h'.get? b = some o) → EP X pins σ Q (.str d.shown t) { s with heap := h', toks := tk } := fun h' t tk hk => ⟨.str d.shown, H, I.kept (t' := tk) hk, ⟨t, rfl⟩, q⟩
    cases u with
    | ref a => exact repr_of_reads' rd hw noD hg (by omega) (fun _ _ e => e) fin hz
    | none =>
      cases d <;> first
        | (cases rd; done)
        | exact PySem.P.repr_of_none (fin s.heap _ _ fun _ _ e => e)
    | bool b =>
      cases d with
      | bool b' =>
        cases rd
        exact PySem.P.repr_of_bool (fin s.heap _ _ fun _ _ e => e)
      | _ => cases rd
    | int i t =>
      cases d with
      | int j =>
        cases rd
        exact PySem.P.repr_of_int (of_decide_eq_true hw) (fin s.heap _ _ fun _ _ e => e)
      | _ => cases rd
    | str x t =>
      cases d with
      | str y =>
        cases rd
        exact PySem.P.repr_of_str (fin s.heap _ _ fun _ _ e => e) hz
      | _ => cases rd
    | _ => cases d <;> cases rd
section
variable {G : Cl} {E : XK}
def reprD : List D → Option D
  | [.str x] => if (reprText x).length ≤ 10000000 then some (.str (reprText x)) else none
  | [d] => if d.plain 60 = true ∧ d.py.showable = true ∧ d.py.shown.length ≤ 10000000 then some (.str d.py.shown) else none
  | _ => none
theorem n_repr : ON G (rReprD G.K) reprD := ⟨fun {ad A M H xs ds z} hm hA r g Q q => by
  unfold reprD at g
  split at g
  · split at g
    · rename_i h
      cases g
      obtain ⟨x, rfl, rx⟩ := r.one
      rw [rx.str]
      exact .inl ⟨_, rfl, sz_ok (by omega), q _ _ .refl (.str _)⟩
    · cases g
  · split at g
    · rename_i h
      cases g
      obtain ⟨x, rfl, rx⟩ := r.one
      exact .inr ⟨x, _, rfl, rx.dp h.1, plain_shaped h.1 (by omega), h.2.1, sz_ok (by omega), q _ _ .refl (.str _)⟩
    · cases g
  · cases g⟩
end
end Dn
namespace Dn
open PySem PySem.Spec PyProof.Rows L2

/-! over a list or a tuple -/
def iSeqU (K : PySem.W.Frag) (tl : TE) : TI := fun σ H R => tl σ H fun x H1 => ∃ a, x = .ref a ∧ (((∃ xs, SqL K H1 a xs) ∧ R (Itl K a) H1) ∨ ((∃ xs, SqT K H1 a xs) ∧ R (Itt K a) H1))
theorem pi_seqU {X : Cx} {tg l : Expr} {tl : TE} (hl : PE X l tl) : PI X tg l (iSeqU X.K tl) := ⟨fun pins s σ H R I h => by
  refine thn (hl.run pins s σ H _ I h) fun v s1 ⟨x, H1, J, r1, a, ex, q1⟩ => ?_
  subst ex
  cases r1
  have fre : ∀ b ∈ [s1.heap.objs.size], FpOk X pins H1 b := fun b hb => by
    have z : b = s1.heap.objs.size := by simpa using hb
    rw [z]
    exact J.fpOk (Nat.le_refl _) (J.hok.fresh (Nat.le_refl _))
  rcases q1 with ⟨⟨xs, hq⟩, q⟩ | ⟨⟨xs, hq⟩, q⟩
  · obtain ⟨its, rv, p, hz⟩ := J.list hq
    exact wpAny_pyIter_list p.isList ⟨s1.heap.objs.size, [s1.heap.objs.size], _, _, H1, rfl, J.kept (t' := s1.toks) fun b o z => Heap.get?_push_of_some _ z, turn_list a _, ⟨_, Heap.get?_push_size _ rfl, rfl, rfl⟩, fre, q⟩
  · obtain ⟨its, rv, p, hz⟩ := J.tuple hq
    exact wpAny_pyIter_tuple (show s1.heap.IsTuple a its.toArray from p) ⟨s1.heap.objs.size, [s1.heap.objs.size], _, _, H1, rfl, J.kept (t' := s1.toks) fun b o z => Heap.get?_push_of_some _ z, turn_tuple a _, ⟨_, Heap.get?_push_size _ rfl, rfl, rfl⟩, fre, q⟩⟩
section
variable {G : Cl} {E : XK}
def dSeqU (f : DE) : DI := fun ρ m => (f ρ m).bind fun d m1 => match d with
  | .lst l => .ok l m1
  | .tup l => .ok l m1
  | .scr ns => .ok (ns.map D.int) m1
  | _ => .bad
theorem di_seqU {t : TE} {f : DE} (h : De G E t f) : Di G E (iSeqU G.K t) (dSeqU f) := ⟨fun {B M pm ρ m σ H} e Q p => by
  refine h.run e _ ((Post.bind p).imp' fun x H1 ⟨d1, m1, g1, r1, p1⟩ => ?_)
  have e1 := e.go g1
  split at p1
  · cases r1 with
    | lst q n r => exact ⟨_, rfl, .inl ⟨⟨_, SqL.of q⟩, p1 _ _ e1.here ⟨_, wk_list, .lst q n r⟩⟩⟩
  · cases r1 with
    | tup q n r => exact ⟨_, rfl, .inr ⟨⟨_, q.sq⟩, p1 _ _ e1.here ⟨_, wk_tup, .tup q n r⟩⟩⟩
  · obtain ⟨a, rfl, hs⟩ := r1.scr
    exact ⟨_, rfl, .inl ⟨⟨_, hs⟩, p1 _ _ e1.here ⟨_, wk_scr, r1⟩⟩⟩
  · exact p1.elim⟩
end
theorem RG.u64 {k : Nat} {A : Around} (r : RG k A) : A.units + 64 < cLine := by
  have z := r.rm.un
  omega
theorem RG.u65 {k : Nat} {A : Around} (r : RG k A) : A.units + 65 < cLine := by
  have z := r.rm.un
  omega
theorem RG.u200 {k : Nat} {A : Around} (r : RG k A) : A.units + 200 < cLine := by
  have z := r.rm.un
  omega
section
variable {P : Program} {w : World} {K : PySem.W.Frag} {mg : Str → Option Value} {base : Heap} {k : Nat} {f : Addr}
theorem pss0 {N : List Str} {q : Str} {sc : Scope} {cd : Value} {A : Around} {out : List Env} {s : Shared} {H : Hp} {E : XK} : Passes (L2.CX P w) (cxOf (L2.CX P w) P w K mg base N q sc f cd A out s H E) E := passes_call (takes_of rfl rfl rfl rfl) fun _ _ _ _ h => h
/-- a def of the head's -/
theorem funD_fun {x qual : Str} {st : Stmt} {fd : FuncData} (F : FunD K x qual (defArgs st) (defBody st) (defScope st) [] [] f fd) : Fun K x qual st f fd := by
  obtain ⟨oc, od, dV, kV, doc, pm, an, cdv, ct, osl, h1, h2, h3, h4, h5⟩ := F.ex
  rcases h4 with ⟨_, rfl⟩ | ⟨z, _⟩
  · exact ⟨⟨oc, od, kV, doc, pm, an, cdv, ct, osl, h1, h2, h3⟩, F.kp⟩
  · exact absurd rfl z
/-- a def of a class's body -/
def clsB : Stmt → List Stmt
  | .ClassDef (body := b) .. => b
  | _ => []
def nth (b : List Stmt) (i : Nat) : Stmt := b.getD i (.Pass ⟨0, 0, 0, 0⟩)
end
end Dn
namespace Dn
open PySem PySem.Spec PyProof.Rows L2

/-! facts of a class with slots -/
def clsX (K : PySem.W.Frag) (C : Addr) : Bool := PySem.W.plainGet K C Str.empty && (PySem.W.isClsIn K C && (PySem.W.plainOver K C && He.eqO (PySem.W.findIn K (.ref C) "__setattr__") (some (some (.builtin "object.__setattr__")))))
theorem clsX_ok {K : PySem.W.Frag} {C : Addr} (h : clsX K C = true) : SlX.SCls K C := by
  obtain ⟨h1, h⟩ := He.ba h
  obtain ⟨h2, h⟩ := He.ba h
  obtain ⟨h3, h4⟩ := He.ba h
  exact ⟨h1, h2, h3, He.eqO_ok h4⟩
def slotA (K : PySem.W.Frag) (C : Addr) (f : Str) : Addr := match PySem.W.findIn K (.ref C) f with
  | some (some (.ref p)) => p
  | _ => 0
def slotX (K : PySem.W.Frag) (C : Addr) (f : Str) : Bool := He.eqO (PySem.W.findIn K (.ref C) f) (some (some (.ref (slotA K C f)))) && (He.eqO (PySem.W.specialIn K (.ref (slotA K C f)) "__get__") (some (some (.builtin "member_descriptor.__get__"))) &&
  (decide (PySem.W.takesIn K (.ref (slotA K C f)) = some true) && (decide (PySem.W.typeIn K (.ref (slotA K C f)) = some (.type "member_descriptor")) && decide (PySem.W.slotIn K (slotA K C f) C = some 0))))
theorem slotX_ok {K : PySem.W.Frag} {C : Addr} {f : Str} (h : slotX K C f = true) : SlX.Slot1 K C f (slotA K C f) 0 := by
  obtain ⟨h1, h⟩ := He.ba h
  obtain ⟨h2, h⟩ := He.ba h
  obtain ⟨h3, h⟩ := He.ba h
  obtain ⟨h4, h5⟩ := He.ba h
  exact ⟨He.eqO_ok h1, He.eqO_ok h2, of_decide_eq_true h3, of_decide_eq_true h4, of_decide_eq_true h5, by decide⟩
/-! what is never reached -/
def tNone : TS := fun _ _ _ => False
def sAny : DS := fun _ _ => .bad
def negD : D → Option D
  | .int i => some (.int (-i))
  | _ => none
def addI : D → D → Option D
  | .int i, .int j => some (.int (i + j))
  | _, _ => none
def subI : D → D → Option D
  | .int i, .int j => some (.int (i - j))
  | _, _ => none
/-! the draws -/
def mixV (cell n : Int) : Int := let b := cell * (1 + 2 * n) * 48271 % 2147483647 + 7919 * n * n + 104729 * n
  b * 69621 % 2147483629 / 7
def drawV (r : MS) (L : Int) : Int :=
  if r.great ≠ [] ∧ 0 < r.great.getD (r.spot % r.great.length) 0 then r.great.getD (r.spot % r.great.length) 0 % L
  else mixV (mixV (r.cells.getD (r.spot % 64) 0 + 31 * ((r.spot / 64 : Nat) : Int)) r.spot) (r.spot + 7) % L
def drawM (r : MS) (L : Int) : MS :=
  if r.great ≠ [] ∧ 0 < r.great.getD (r.spot % r.great.length) 0 then { r with spot := r.spot + 1, great := r.great.set (r.spot % r.great.length) (r.great.getD (r.spot % r.great.length) 0 / L) }
  else { r with spot := r.spot + 1 }
end Dn
namespace Dn
open PySem PySem.Spec PyProof.Rows L2

theorem plain_ints (n : Nat) : ∀ ns : List Int, D.plains n (ns.map D.int) = true
  | [] => by simp [D.plains]
  | x :: r => by simp [D.plains, D.plain, plain_ints n r]
theorem plain_lints {n : Nat} {ns : List Int} : (D.lst (ns.map D.int)).plain (n + 1) = true := by simp [D.plain, plain_ints]
theorem mixV_le {c n : Int} (h0 : 0 ≤ n) : 0 ≤ mixV c n ∧ mixV c n < 306783376 := by
  unfold mixV
  dsimp only
  have h1 : 0 ≤ (c * (1 + 2 * n) * 48271 % 2147483647 + 7919 * n * n + 104729 * n) * 69621 % 2147483629 := Int.emod_nonneg _ (by decide)
  have h2 : (c * (1 + 2 * n) * 48271 % 2147483647 + 7919 * n * n + 104729 * n) * 69621 % 2147483629 < 2147483629 := Int.emod_lt_of_pos _ (by decide)
  omega
/-- what _law_mixed's denotation answers -/
theorem drawV_le {r : MS} {L : Int} (h : 0 < L) : 0 ≤ drawV r L ∧ drawV r L < L := by
  unfold drawV
  split
  · exact ⟨Int.emod_nonneg _ (by omega), Int.emod_lt_of_pos _ h⟩
  · exact ⟨Int.emod_nonneg _ (by omega), Int.emod_lt_of_pos _ h⟩
theorem drawM_ad {r : MS} {L : Int} : (drawM r L).am = r.am ∧ (drawM r L).ac = r.ac ∧ (drawM r L).ag = r.ag ∧ (drawM r L).spot = r.spot + 1 ∧ (drawM r L).cs = r.cs := by
  unfold drawM
  split <;> exact ⟨rfl, rfl, rfl, rfl, rfl⟩
theorem CsR.of {G : Cl} {M : AP} {H : Hp} {r r' : MS} (h : CsR G M H r) (e1 : r'.cs = r.cs) (e2 : r'.am = r.am) (e3 : r'.ac = r.ac) (e4 : r'.ag = r.ag) : CsR G M H r' := by
  have ea : Mo.ad (some r') = Mo.ad (some r) := by
    unfold Mo.ad
    dsimp only
    rw [e1, e2, e3, e4]
  have eb : r'.ads = r.ads := by
    unfold MS.ads
    rw [e1]
  exact ⟨fun c hc => by rw [ea]; exact h.c c (by rw [← e1]; exact hc), by rw [eb]; exact h.nd, fun b hb => by rw [e2, e3, e4]; exact h.ap b (by rw [← eb]; exact hb)⟩
/-- the draws' own objects -/
def drO (r : MS) : AP := fun b => b = r.am ∨ b = r.ac ∨ b = r.ag
/-- what a draw leaves -/
structure DrawOk (FM : DF) : Prop where
  mix : ∀ (m : Mo) (c n : Int), 0 ≤ c → c < 1000000000000 → 0 ≤ n → n < 1000000000000 → FM [.int c, .int n] m = .ok (.int (mixV c n)) m
abbrev dKm (r : MS) : HO := .dK [(Sum.inr "cells", V.ref r.ac), (Sum.inr "great", V.ref r.ag), (Sum.inr "spot", V.int r.spot)]
theorem dgC {H : Hp} {r : MS} (h : H r.am = some (dKm r)) : DGet H r.am (.str "cells") (some (.ref r.ac)) := .inl ⟨_, Sum.inr "cells", .inl h, rfl, rfl⟩
theorem dgG {H : Hp} {r : MS} (h : H r.am = some (dKm r)) : DGet H r.am (.str "great") (some (.ref r.ag)) := .inl ⟨_, Sum.inr "great", .inl h, rfl, rfl⟩
theorem dgS {H : Hp} {r : MS} (h : H r.am = some (dKm r)) : DGet H r.am (.str "spot") (some (.int r.spot)) := .inl ⟨_, Sum.inr "spot", .inl h, rfl, rfl⟩
theorem dpS {H : Hp} {r : MS} (h : H r.am = some (dKm r)) : DPut H r.am (.str "spot") (.int ((r.spot : Int) + 1)) (upd H r.am (dKm { r with spot := r.spot + 1 })) :=
  .inl ⟨_, Sum.inr "spot", h, rfl, by show 3 < sizeLine; decide, rfl⟩
end Dn
namespace Dn
open PySem PySem.Spec PyProof.Rows L2

/-! the denotations, evaluated -/
section
variable {α β : Type} {m m1 m2 : Mo} {ρ ρ1 : Ro}
theorem ev_bind {a : α} {k : α → Mo → R β} : (R.ok a m).bind k = k a m := Eq.trans rfl rfl
theorem ev_bindx {c : Nat} {l : List D} {k : α → Mo → R β} : (R.exc c l m : R α).bind k = .exc c l m := Eq.trans rfl rfl
theorem ev_map {a : α} {g : α → β} : (R.ok a m).map g = .ok (g a) m := Eq.trans rfl rfl
theorem ev_mapx {c : Nat} {l : List D} {g : α → β} : (R.exc c l m : R α).map g = .exc c l m := Eq.trans rfl rfl
theorem ev_of {a : α} : R.of (some a) m = .ok a m := Eq.trans rfl rfl
theorem ev_sb {a : α} {k : α → Mo → SR} : sBind (R.ok a m) k = k a m := Eq.trans rfl rfl
theorem ev_sbx {c : Nat} {l : List D} {k : α → Mo → SR} : sBind (R.exc c l m : R α) k = .exc c l m := Eq.trans rfl rfl
theorem ev_nx {k : Ro → Mo → SR} : (SR.nx ρ m).next k = k ρ m := Eq.trans rfl rfl
theorem ev_rt {d : D} {k : Ro → Mo → SR} : (SR.rt d m).next k = .rt d m := Eq.trans rfl rfl
theorem ev_nexc {c : Nat} {l : List D} {k : Ro → Mo → SR} : (SR.exc c l m).next k = .exc c l m := Eq.trans rfl rfl
theorem ev_var0 {d : D} {r : Ro} : dVar 0 (some (.v d) :: r) m = .ok d m := Eq.trans rfl rfl
theorem ev_varS {n : Nat} {x : Option Sv} {r : Ro} : dVar (n + 1) (x :: r) m = dVar n r m := Eq.trans rfl rfl
theorem ev_peek0 {d : D} {r : Ro} : dPeek 0 (some (.v d) :: r) m = .ok d m := Eq.trans rfl rfl
theorem ev_peekM0 {d : List D} {r : Ro} : dPeek 0 (some (.ml d) :: r) m = .ok (.lst d) m := Eq.trans rfl rfl
theorem ev_peekS {n : Nat} {x : Option Sv} {r : Ro} : dPeek (n + 1) (x :: r) m = dPeek n r m := Eq.trans rfl rfl
theorem ev_c {d : D} : dC d ρ m = .ok d m := Eq.trans rfl rfl
theorem ev_op {g : D → D → Option D} {fa fb : DE} : dOp g fa fb ρ m = (fa ρ m).bind fun x m1 => (fb ρ m1).bind fun y m2 => R.of (g x y) m2 := Eq.trans rfl rfl
theorem ev_un {g : D → Option D} {fa : DE} : dUn g fa ρ m = (fa ρ m).bind fun x m1 => R.of (g x) m1 := Eq.trans rfl rfl
theorem ev_nil : dNil ρ m = .ok [] m := Eq.trans rfl rfl
theorem ev_cons {fa : DE} {fr : DA} : dCons fa fr ρ m = (fa ρ m).bind fun x m1 => (fr ρ m1).bind fun xs m2 => .ok (x :: xs) m2 := Eq.trans rfl rfl
theorem ev_cb {g : List D → Option D} {fa : DA} : dCB g fa ρ m = (fa ρ m).bind fun xs m1 => R.of (g xs) m1 := Eq.trans rfl rfl
theorem ev_tup {fa : DA} : dTup fa ρ m = (fa ρ m).bind fun xs m1 => if xs.length ≤ 10000 then .ok (.tup xs) m1 else .bad := Eq.trans rfl rfl
theorem ev_lst {fa : DA} : dLst fa ρ m = (fa ρ m).bind fun xs m1 => if xs.length ≤ 10000 then .ok (.lst xs) m1 else .bad := Eq.trans rfl rfl
theorem ev_test {fa : DE} : dTest fa ρ m = (fa ρ m).bind fun x m1 => match x with
  | .bl b => .ok b m1
  | _ => .bad := Eq.trans rfl rfl
theorem ev_not {fa : DT} : dNot fa ρ m = (fa ρ m).bind fun x m1 => .ok (!x) m1 := Eq.trans rfl rfl
theorem ev_and {fa fb : DT} : dAnd fa fb ρ m = (fa ρ m).bind fun x m1 => if x = true then fb ρ m1 else .ok false m1 := Eq.trans rfl rfl
theorem ev_or {fa fb : DT} : dOr fa fb ρ m = (fa ρ m).bind fun x m1 => if x = true then .ok true m1 else fb ρ m1 := Eq.trans rfl rfl
theorem ev_if {c : DT} {fa fb : DE} : dIf c fa fb ρ m = (c ρ m).bind fun x m1 => if x = true then fa ρ m1 else fb ρ m1 := Eq.trans rfl rfl
theorem ev_tru {f : DE} : dTru f ρ m = (f ρ m).bind fun x m1 => R.of (truD x) m1 := Eq.trans rfl rfl
theorem ev_dv {f : DE} : dvV f ρ m = (f ρ m).map .v := Eq.trans rfl rfl
theorem ev_dvl {fa : DA} : dvLst fa ρ m = (fa ρ m).bind fun xs m1 => if xs.length ≤ 10000 then .ok (.ml xs) m1 else .bad := Eq.trans rfl rfl
theorem ev_fld {c : Nat} {fo : DE} : dFld c fo ρ m = (fo ρ m).bind fun x m1 => match x with
  | .obj c' d => if c' = c then .ok d m1 else .bad
  | _ => .bad := Eq.trans rfl rfl
theorem ev_call {n : Nat} {F : DF} {fa : DA} : dCall n F fa ρ m = (fa ρ m).bind fun ds m1 => if ds.length = n then F ds m1 else .bad := Eq.trans rfl rfl
theorem ev_meth {c n : Nat} {F : DF} {fo : DE} {fa : DA} : dMeth c n F fo fa ρ m = (fo ρ m).bind fun x m1 => match x with
  | .obj c' d => if c' = c then (fa ρ m1).bind fun ds m2 => if ds.length + 1 = n then F (.obj c' d :: ds) m2 else .bad
    else .bad
  | _ => .bad := Eq.trans rfl rfl
theorem ev_make {c : Nat} {F : DF} {fa : DA} : dMake c F fa ρ m = (fa ρ m).bind fun ds m1 => match ds with
  | [d] => (F [d] m1).bind fun z m2 => .ok (.obj c z) m2
  | _ => .bad := Eq.trans rfl rfl
theorem ev_seq {f g : DS} : sSeq f g ρ m = (f ρ m).next g := Eq.trans rfl rfl
theorem ev_set {i : Nat} {f : DV} : sSet i f ρ m = sBind (f ρ m) fun s m1 => if i < ρ.length then .nx (ρ.set i (some s)) m1 else .bad := Eq.trans rfl rfl
theorem ev_ret {f : DE} : sRet f ρ m = sBind (f ρ m) fun d m1 => .rt d m1 := Eq.trans rfl rfl
theorem ev_expr {f : DE} : sExpr f ρ m = sBind (f ρ m) fun _ m1 => .nx ρ m1 := Eq.trans rfl rfl
theorem ev_sif {c : DT} {f g : DS} : sIf c f g ρ m = sBind (c ρ m) fun b m1 => if b = true then f ρ m1 else g ρ m1 := Eq.trans rfl rfl
theorem ev_sNx : sNx ρ m = .nx ρ m := Eq.trans rfl rfl
theorem ev_par {i j : Nat} {fa : DA} : sPar i j fa ρ m = sBind (fa ρ m) fun ds m1 => match ds with
  | [a, b] => .nx ((ρ.set i (some (.v a))).set j (some (.v b))) m1
  | _ => .bad := Eq.trans rfl rfl
theorem ev_for {f : DI} {h : D → Ro → Option Ro} {body : DS} : sFor f h body ρ m = sBind (f ρ m) fun ds m1 => forD h body ds ρ m1 := Eq.trans rfl rfl
theorem ev_frz {i : Nat} {f : DS} : sFrz i f ρ m = f (frzR i ρ) m := Eq.trans rfl rfl
theorem ev_frzR {i : Nat} : frzR i ρ = match ρ[i]? with
  | some (some (.ml ds)) => ρ.set i (some (.v (.lst ds)))
  | some (some (.mk l)) => ρ.set i (some (.v (.dct l)))
  | some (some (.mn l)) => ρ.set i (some (.v (.dcn l)))
  | _ => ρ := Eq.trans rfl rfl
theorem ev_app {i : Nat} {f : DE} : sApp i f ρ m = match ρ[i]? with
  | some (some (.ml ds)) => sBind (f ρ m) fun d m1 => if ds.length ≤ 10000 then .nx (ρ.set i (some (.ml (ds ++ [d])))) m1 else .bad
  | _ => .bad := Eq.trans rfl rfl
theorem ev_put {i : Nat} {fv fk : DE} : sPut i fv fk ρ m = sBind (fv ρ m) fun d m1 => match ρ[i]? with
  | some (some (.ml ds)) => sBind (fk ρ m1) fun k m2 => match k with
    | .int k => match ixN ds.length k with
      | some j => .nx (ρ.set i (some (.ml (ds.set j d)))) m2
      | none => .bad
    | _ => .bad
  | _ => .bad := Eq.trans rfl rfl
theorem ev_run {N : Nat} {f : DS} {ds : List D} : runD N f ds m = match f (ro0 N ds) m with
  | .nx _ m' => .ok .non m'
  | .rt d m' => .ok d m'
  | .exc c l m' => .exc c l m'
  | _ => .bad := Eq.trans rfl rfl
theorem ev_init {f1 fv : DE} {d : D} : initD f1 fv [d] m = (f1 [none, some (.v d)] m).bind fun _ m1 => fv [none, some (.v d)] m1 := Eq.trans rfl rfl
theorem ev_rgT2 {fa fb : DE} : dRgT2 fa fb ρ m = (fa ρ m).bind fun x m1 => (fb ρ m1).bind fun y m2 => match x, y with
  | .int i, .int j => if rgOk i j = true then .ok (.tup (rgD i j)) m2 else .bad
  | _, _ => .bad := Eq.trans rfl rfl
theorem ev_rng1 {f : DA} : dRng1 f ρ m = (f ρ m).bind fun d m1 => match d with
  | [.int j] => if -1000000 ≤ j ∧ j ≤ 1000000 then .ok (rangeD 0 j.toNat) m1 else .bad
  | _ => .bad := Eq.trans rfl rfl
theorem ev_rng2 {f : DA} : dRng2 f ρ m = (f ρ m).bind fun d m1 => match d with
  | [.int i, .int j] => if -1000000 ≤ j ∧ j ≤ 1000000 ∧ -1000000 ≤ i ∧ i ≤ 1000000 then .ok (rangeD i (j - i).toNat) m1 else .bad
  | _ => .bad := Eq.trans rfl rfl
theorem ev_seqU {f : DE} : dSeqU f ρ m = (f ρ m).bind fun d m1 => match d with
  | .lst l => .ok l m1
  | .tup l => .ok l m1
  | .scr ns => .ok (ns.map D.int) m1
  | _ => .bad := Eq.trans rfl rfl
theorem ev_enumU {f : DA} : dEnumU f ρ m = (f ρ m).bind fun d m1 => match d with
  | [.lst l] => .ok (enumD 0 l) m1
  | [.tup l] => .ok (enumD 0 l) m1
  | [.scr ns] => .ok (enumD 0 (ns.map D.int)) m1
  | _ => .bad := Eq.trans rfl rfl
theorem ev_sl {fx : DE} {fl fh : DO} : dSl fx fl fh ρ m = (fx ρ m).bind fun x m1 => (fl ρ m1).bind fun l m2 => (fh ρ m2).bind fun h m3 => R.of (slD x l h) m3 := Eq.trans rfl rfl
theorem ev_nop : dNoPart ρ m = .ok none m := Eq.trans rfl rfl
theorem ev_part {f : DE} : dPart f ρ m = (f ρ m).bind fun x m1 => match x with
  | .int i => .ok (some i) m1
  | _ => .bad := Eq.trans rfl rfl
theorem ev_star {fa : DE} {fr : DA} : dStar fa fr ρ m = (fa ρ m).bind fun x m1 => match x with
  | .tup l => (fr ρ m1).bind fun xs m2 => .ok (l ++ xs) m2
  | .lst l => (fr ρ m1).bind fun xs m2 => .ok (l ++ xs) m2
  | _ => .bad := Eq.trans rfl rfl
theorem ev_chain {g g' : D → D → Option D} {fa fb fc : DE} : dChain g g' fa fb fc ρ m = (fa ρ m).bind fun x m1 => (fb ρ m1).bind fun y m2 => match g x y with
  | some (.bl true) => (fc ρ m2).bind fun z m3 => R.of (g' y z) m3
  | some (.bl false) => .ok (.bl false) m2
  | _ => .bad := Eq.trans rfl rfl
theorem ev_lc {fi : DI} {h : D → Ro → Option Ro} {tt : DT} {fe : DE} {vs : List Nat} : dLc fi h tt fe vs ρ m = (fi ρ m).bind fun ds m1 => if ds.length ≤ 100000 then lcD h tt fe ds (wipeD ρ vs) m1 else .bad := Eq.trans rfl rfl
theorem ev_isi {n : String} {fa : DE} : dIsi n fa ρ m = (fa ρ m).bind fun x m1 => match tyD x with
  | some t => if n ∈ clNames then .ok (.bl (sb t n)) m1 else .bad
  | none => .bad := Eq.trans rfl rfl
theorem ev_isiT {ns : List String} {fa : DE} : dIsiT ns fa ρ m = (fa ρ m).bind fun x m1 => match tyD x with
  | some t => if (∀ n ∈ ns, n ∈ clNames) ∧ ns.length ≤ 100 then .ok (.bl (ns.any (sb t))) m1 else .bad
  | none => .bad := Eq.trans rfl rfl
theorem ev_addI {i j : Int} : addD (.int i) (.int j) = some (.int (i + j)) := Eq.trans rfl rfl
theorem ev_addS {x y : Str} (h : x.length + y.length ≤ 1000000) : addD (.str x) (.str y) = some (.str (x ++ y)) := if_pos h
theorem ev_addT {x y : List D} (h : x.length + y.length ≤ 1000000) : addD (.tup x) (.tup y) = some (.tup (x ++ y)) := if_pos h
theorem ev_addL {x y : List D} (h : x.length + y.length ≤ 1000000) : addD (.lst x) (.lst y) = some (.lst (x ++ y)) := if_pos h
theorem ev_subI {i j : Int} : subD (.int i) (.int j) = some (.int (i - j)) := Eq.trans rfl rfl
theorem ev_mulR {i j : Int} (h : -18446744073709551616 < j ∧ j < 18446744073709551616) : mulD (.int i) (.int j) = some (.int (i * j)) := if_pos (.inr h)
theorem ev_mulL {i j : Int} (h : -18446744073709551616 < i ∧ i < 18446744073709551616) : mulD (.int i) (.int j) = some (.int (i * j)) := if_pos (.inl h)
theorem ev_modI {i j : Int} (h : 0 < j) : modD (.int i) (.int j) = some (.int (i % j)) := if_pos h
theorem ev_divI {i j : Int} (h : 0 < j ∧ j < 1073741824) : divD (.int i) (.int j) = some (.int (i / j)) := if_pos h
theorem ev_pow18 : powD (.int 10) (.int 18) = some (.int 1000000000000000000) := Eq.trans rfl rfl
theorem ev_truB {b : Bool} : truD (.bl b) = some b := Eq.trans rfl rfl
theorem ev_truI {i : Int} : truD (.int i) = some (i != 0) := Eq.trans rfl rfl
theorem ev_truT {l : List D} : truD (.tup l) = some (!l.isEmpty) := Eq.trans rfl rfl
theorem ev_truL {l : List D} : truD (.lst l) = some (!l.isEmpty) := Eq.trans rfl rfl
theorem ev_truN : truD .non = some false := Eq.trans rfl rfl
theorem ev_intI {i : Int} : Dn.intD [.int i] = some (.int i) := Eq.trans rfl rfl
theorem ev_absI {i : Int} : absD [.int i] = some (.int (if i < 0 then -i else i)) := Eq.trans rfl rfl
theorem ev_lenT {l : List D} : lenD [.tup l] = some (.int l.length) := Eq.trans rfl rfl
theorem ev_lenL {l : List D} : lenD [.lst l] = some (.int l.length) := Eq.trans rfl rfl
theorem ev_cmp {p : Int → Int → Bool} {i j : Int} : cmpD p (.int i) (.int j) = some (.bl (p i j)) := Eq.trans rfl rfl
theorem ev_eqI {i j : Int} : eqD (.int i) (.int j) = some (.bl (i == j)) := by
  show (if (D.int i).plain 60 = true ∧ (D.int j).plain 60 = true then some (D.bl (PyData.eqv (D.int i).py (D.int j).py)) else none) = _
  rw [if_pos ⟨by simp [D.plain], by simp [D.plain]⟩]
  simp [D.py, PyData.eqv]
theorem ev_neI {i j : Int} : neD (.int i) (.int j) = some (.bl (!(i == j))) := by
  show (if (D.int i).plain 60 = true ∧ (D.int j).plain 60 = true then some (D.bl (!PyData.eqv (D.int i).py (D.int j).py)) else none) = _
  rw [if_pos ⟨by simp [D.plain], by simp [D.plain]⟩]
  simp [D.py, PyData.eqv]
theorem ev_eqS {x y : Str} : eqD (.str x) (.str y) = some (.bl (decide (x = y))) := Eq.trans rfl rfl
theorem ev_neS {x y : Str} : neD (.str x) (.str y) = some (.bl (!decide (x = y))) := Eq.trans rfl rfl
theorem ev_toTupT {l : List D} : toTup [.tup l] = some (.tup l) := Eq.trans rfl rfl
theorem ev_toTupL {l : List D} : toTup [.lst l] = some (.tup l) := Eq.trans rfl rfl
theorem ev_hName {i : Nat} {d : D} : hName i d ρ = some (ρ.set i (some (.v d))) := Eq.trans rfl rfl
end
theorem ev_wipe0 {ρ : Ro} : wipeD ρ [] = ρ := Eq.trans rfl rfl
theorem ev_wipeS {ρ : Ro} {v : Nat} {vs : List Nat} : wipeD ρ (v :: vs) = (wipeD ρ vs).set v none := Eq.trans rfl rfl
theorem ev_hTup {n : Nat} {k : List D → Ro → Option Ro} {l : List D} {ρ : Ro} : hTup n k (.tup l) ρ = if l.length = n then k l ρ else none := Eq.trans rfl rfl
theorem ev_hCons {h : D → Ro → Option Ro} {k : List D → Ro → Option Ro} {d : D} {r : List D} {ρ : Ro} : hCons h k (d :: r) ρ = (h d ρ).bind (k r) := Eq.trans rfl rfl
theorem ev_hNil {ρ : Ro} : hNil [] ρ = some ρ := Eq.trans rfl rfl
theorem ev_some {α β : Type} {a : α} {f : α → Option β} : (some a).bind f = f a := Eq.trans rfl rfl
/-! comprehensions and loops, evaluated -/
theorem lcD_gen {α : Type} {h : D → Ro → Option Ro} {tt : DT} {fe : DE} {ρ : Ro} {m : Mo} (f : α → D) (p : α → Bool) (g : α → D) : ∀ (xs : List α), (∀ x ∈ xs, ∃ ρ1, h (f x) ρ = some ρ1 ∧ tt ρ1 m = .ok (p x) m ∧ (p x = true → fe ρ1 m = .ok (g x) m)) →
    lcD h tt fe (xs.map f) ρ m = .ok ((xs.filter p).map g) m
  | [], _ => rfl
  | x :: r, H => by
    obtain ⟨ρ1, h1, h2, h3⟩ := H x List.mem_cons_self
    have ih := lcD_gen f p g r fun y hy => H y (List.mem_cons_of_mem _ hy)
    rw [List.map_cons]
    unfold lcD
    rw [h1]
    dsimp only
    rw [h2]
    cases q : p x with
    | true =>
      dsimp only
      rw [h3 q, List.filter_cons_of_pos q]
      dsimp only
      rw [ih]
      rfl
    | false =>
      dsimp only
      rw [ih, List.filter_cons_of_neg (by rw [q]; exact Bool.false_ne_true)]
theorem lcD_all {α : Type} {h : D → Ro → Option Ro} {tt : DT} {fe : DE} {ρ : Ro} {m : Mo} (f : α → D) (g : α → D) (xs : List α) (H : ∀ x ∈ xs, ∃ ρ1, h (f x) ρ = some ρ1 ∧ tt ρ1 m = .ok true m ∧ fe ρ1 m = .ok (g x) m) :
    lcD h tt fe (xs.map f) ρ m = .ok (xs.map g) m := by
  have z := lcD_gen (h := h) (tt := tt) (fe := fe) (ρ := ρ) (m := m) f (fun _ => true) g xs fun x hx => by
    obtain ⟨ρ1, h1, h2, h3⟩ := H x hx
    exact ⟨ρ1, h1, h2, fun _ => h3⟩
  rw [z, List.filter_eq_self.mpr (fun _ _ => rfl)]
theorem forD_inv {h : D → Ro → Option Ro} {body : DS} (I : Nat → Ro → Mo → Prop) : ∀ (ds : List D) (k : Nat) (ρ : Ro) (m : Mo), (∀ i d ρ m, ds[i]? = some d → I (k + i) ρ m → ∃ ρ1 ρ2 m2, h d ρ = some ρ1 ∧ (body ρ1 m = .nx ρ2 m2 ∨ body ρ1 m = .ct ρ2 m2) ∧ I (k + i + 1) ρ2 m2) →
    I k ρ m → ∃ ρ' m', forD h body ds ρ m = .nx ρ' m' ∧ I (k + ds.length) ρ' m'
  | [], k, ρ, m, _, h0 => ⟨ρ, m, rfl, h0⟩
  | d :: r, k, ρ, m, st, h0 => by
    obtain ⟨ρ1, ρ2, m2, h1, h2, h3⟩ := st 0 d ρ m rfl h0
    obtain ⟨ρ', m', e, q⟩ := forD_inv I r (k + 1) ρ2 m2 (fun i d ρ m hi hI => by
      have e1 : k + 1 + i = k + (i + 1) := by omega
      rw [e1] at hI ⊢
      exact st (i + 1) d ρ m (by simpa using hi) hI) h3
    refine ⟨ρ', m', ?_, ?_⟩
    · unfold forD
      rw [h1]
      dsimp only
      rcases h2 with h2 | h2
      · rw [h2]
        exact e
      · rw [h2]
        exact e
    · rw [List.length_cons, show k + (r.length + 1) = k + 1 + r.length by omega]
      exact q
theorem forD_inv0 {h : D → Ro → Option Ro} {body : DS} (I : Nat → Ro → Mo → Prop) (ds : List D) (ρ : Ro) (m : Mo) (st : ∀ i d ρ m, ds[i]? = some d → I i ρ m → ∃ ρ1 ρ2 m2, h d ρ = some ρ1 ∧ (body ρ1 m = .nx ρ2 m2 ∨ body ρ1 m = .ct ρ2 m2) ∧ I (i + 1) ρ2 m2) (h0 : I 0 ρ m) :
    ∃ ρ' m', forD h body ds ρ m = .nx ρ' m' ∧ I ds.length ρ' m' := by
  have z := forD_inv I ds 0 ρ m (fun i d ρ m hi hI => by
    rw [Nat.zero_add] at hI ⊢
    exact st i d ρ m hi hI) h0
  rw [Nat.zero_add] at z
  exact z
theorem cut_lo {l : List D} {k : Nat} : Dn.cutD l (some (k : Int)) none = l.drop k := by
  unfold Dn.cutD
  rw [HT.sIx_nat, HT.sIx_none]
  by_cases h : k ≤ l.length
  · rw [Nat.min_eq_left h]
    exact List.take_of_length_le (by rw [List.length_drop]; exact Nat.le_refl _)
  · rw [Nat.min_eq_right (by omega), List.drop_eq_nil_of_le (Nat.le_refl _), List.drop_eq_nil_of_le (by omega)]
    exact List.take_nil
theorem cut_hi {l : List D} {k : Nat} : Dn.cutD l none (some (k : Int)) = l.take k := by
  unfold Dn.cutD
  rw [HT.sIx_nat, HT.sIx_none, List.drop_zero, Nat.sub_zero]
  by_cases h : k ≤ l.length
  · rw [Nat.min_eq_left h]
  · rw [Nat.min_eq_right (by omega), List.take_of_length_le (Nat.le_refl _), List.take_of_length_le (by omega)]
theorem cut_lh {l : List D} {i k : Nat} : Dn.cutD l (some (i : Int)) (some (k : Int)) = (l.drop i).take (k - i) := by
  unfold Dn.cutD
  rw [HT.sIx_nat, HT.sIx_nat]
  by_cases h : i ≤ l.length
  · rw [Nat.min_eq_left h]
    by_cases h2 : k ≤ l.length
    · rw [Nat.min_eq_left h2]
    · rw [Nat.min_eq_right (by omega), List.take_of_length_le (by rw [List.length_drop]; exact Nat.le_refl _), List.take_of_length_le (by rw [List.length_drop]; omega)]
  · have e : min i l.length = l.length := by omega
    rw [e, List.drop_length, List.drop_eq_nil_of_le (show l.length ≤ i by omega), List.take_nil, List.take_nil]
theorem ev_slT {l : List D} {lo hi : Option Int} : slD (.tup l) lo hi = some (.tup (Dn.cutD l lo hi)) := Eq.trans rfl rfl
theorem ev_revT {l : List D} : revUD (.tup l) = some (.tup l.reverse) := Eq.trans rfl rfl
theorem ev_slL {l : List D} {lo hi : Option Int} : slD (.lst l) lo hi = some (.lst (Dn.cutD l lo hi)) := Eq.trans rfl rfl
theorem ev_revL {l : List D} : revUD (.lst l) = some (.lst l.reverse) := Eq.trans rfl rfl
theorem rangeD_map (lo : Int) (n : Nat) : rangeD lo n = (List.range n).map fun (i : Nat) => D.int (lo + i) := rfl
theorem ixN_at {n j : Nat} (h : j < n) : ixN n (j : Int) = some j := by
  unfold ixN
  rw [if_pos (by omega), if_pos (by omega)]
  rfl
theorem ixD_int {ns : List Int} {j : Nat} {x : Int} (h : ns[j]? = some x) : ixD (.lst (ns.map D.int)) (.int (j : Int)) = some (.int x) := by
  show atI (ns.map D.int) (j : Int) = some (.int x)
  exact atI_nat (by rw [List.getElem?_map, h]; rfl)
end Dn
namespace Dn
open PySem PySem.Spec PyProof.Rows L2

/-! the law's call -/
theorem callerA_room {k : Nat} (h1 : callerA.depth + 3 * k + 5 < recursionLimit) (h2 : callerA.units + 16 * k + 200 < cLine) : RG k callerA := ⟨⟨rfl, h1, h2⟩, rfl⟩
/-- nothing but the script and tables -/
def OnlyT (H : Hp) : Prop := ∀ b, H b = none ∨ (∃ ps, H b = some (.tbl ps)) ∨ ∃ o xs, H b = some (.frz o (.lst xs))
abbrev tab0 : Obj := { cls := .none, data := .fields #[] }
structure TabsAt (K : PySem.W.Frag) (h : Heap) (cs : List (Addr × Addr)) : Prop where
  em : ∀ p ∈ cs, h.get? p.2 = some tab0
  ou : ∀ p ∈ cs, K.lookup p.2 = none
  hd : ∀ p ∈ cs, PySem.W.CodeHd h p.1 p.2
theorem law_callA {P : Program} {w : World} {K : PySem.W.Frag} {mg mb : Str → Option Value} {k : Nat} {fa a : Addr} {sp : Sp} {cs : List (Addr × Addr)} {s : Shared} {zs : List Value} {ns : List Int}
    (inK : K.In s.heap) (gl : s.heap.Ns mainGlobals mg) (bl : s.heap.Ns builtinsNs mb) (bo : ∀ x : Str, x ≠ "__name__" → mb x = bootBuiltins x) (nl : s.heap.NoLimit) (ng : s.gens = #[]) (ts : TabsAt K s.heap cs)
    (bmn : ∃ (m : Addr) (om : Obj), mg "__builtins__" = some (.ref m) ∧ m ≠ builtinsNs ∧ s.heap.get? m = some om ∧ om.cls = .type "module" ∧ om.dict = some builtinsNs ∧ om.data = .plain)
    (at_ : s.heap.get? a = some { cls := .type "list", data := .seq zs.toArray }) (are : IntsAre zs ns) (len : ns.length ≤ sizeLine) (hr : RG k callerA)
    (F : ∀ base : Heap, K.In base → base.Ns mainGlobals mg → (∀ p ∈ cs, LamX.TabB base mg p.1 p.2) → FnA P w K mg base k fa sp)
    (hsp : ∀ H : Hp, OnlyT H → (∀ p ∈ cs, H p.2 = some (.tbl #[])) → SqL K H a (ns.map V.int) → sp [.ref a] H (fun v _ => v = .bl true) fun _ _ _ => False) :
    codeAny (model P w) callerA (.call (.ref fa) ⟨[.ref a], []⟩) (fun r t => r = .ok (.ret (.bool true)) ∧ OldK s.heap t.heap ∧ t.os = s.os ∧ AllBare t.gens) s := by
  have vals := vals_ints are
  have ell := are.length
  have tmem : ∀ b : Addr, b ∈ cs.map (fun p => p.2) → s.heap.get? b = some tab0 ∧ K.lookup b = none ∧ ∃ p ∈ cs, p.2 = b := fun b hb => by
    obtain ⟨p, hp, rfl⟩ := List.mem_map.mp hb
    exact ⟨ts.em p hp, ts.ou p hp, p, hp, rfl⟩
  have memt : ∀ p ∈ cs, p.2 ∈ cs.map (fun p => p.2) := fun p hp => List.mem_map.mpr ⟨p, hp, rfl⟩
  have aNot : a ∉ cs.map (fun p => p.2) := fun z => by
    have y := (tmem a z).1
    rw [at_] at y
    have y' := congrArg Obj.data (Option.some.inj y)
    cases (show Data.seq zs.toArray _ = Data.fields #[] from y')
  have main : ∀ H : Hp, OnlyT H → (∀ p ∈ cs, H p.2 = some (.tbl #[])) → SqL K H a (ns.map V.int) → HOk P w H s.heap → (∀ b, H b ≠ none → b = a ∨ b ∈ cs.map (fun p => p.2)) → (∀ b ps, H b = some (.tbl ps) → b ∈ cs.map (fun p => p.2)) → (H a ≠ none → K.lookup a = none) →
      codeAny (model P w) callerA (.call (.ref fa) ⟨[.ref a], []⟩) (fun r t => r = .ok (.ret (.bool true)) ∧ OldK s.heap t.heap ∧ t.os = s.os ∧ AllBare t.gens) s := by
    intro H only tabs seq hok one onlyT noK
    have low : ∀ {b : Addr} {o : Obj}, s.heap.get? b = some o → H b = none → (hidT s.heap H).get? b = some o := fun q n => hidT_get q n
    have free : ∀ {b : Addr} {o : Obj}, s.heap.get? b = some o → (∀ vs n, o.data ≠ .seq vs n) → o.data ≠ .fields #[] → H b = none := fun {b o} q d1 d2 => by
      cases z : H b with
      | none => rfl
      | some u =>
        rcases one b (by rw [z]; exact Option.some_ne_none u) with eb | eb
        · rw [eb, at_] at q
          cases q
          exact (d1 _ _ rfl).elim
        · rw [(tmem b eb).1] at q
          cases q
          exact (d2 rfl).elim
    have lowNs : ∀ {b : Addr} {m : Str → Option Value}, s.heap.Ns b m → (hidT s.heap H).Ns b m := fun {b m} ⟨o, es, ep, q, d, r⟩ => ⟨o, es, ep, low q (free q (fun vs n z => by rw [d] at z; cases z) fun z => by rw [d] at z; cases z), d, r⟩
    have lowK : K.In (hidT s.heap H) := fun b o q => low (inK b o q) (by
      cases z : H b with
      | none => rfl
      | some u =>
        rcases one b (by rw [z]; exact Option.some_ne_none u) with eb | eb
        · subst eb
          rw [noK (by rw [z]; exact Option.some_ne_none u)] at q
          cases q
        · rw [(tmem b eb).2.1] at q
          cases q)
    obtain ⟨mc, l1, l2⟩ := nl
    have tabB : ∀ p ∈ cs, LamX.TabB (hidT s.heap H) mg p.1 p.2 := fun p hp => by
      refine ⟨?_, ?_, fun z => ?_⟩
      · obtain ⟨oc, uc, fl, tk, fg, tg, iF, tx, tt, q1, q2, q3, q4, q5, q6, q7, q8, q9, q10⟩ := ts.hd p hp
        refine ⟨oc, uc, fl, tk, fg, tg, iF, tx, tt, low q1 (free q1 (fun vs n z => ?_) fun z => ?_), q2, q3, q4, q5, q6, q7, q8, q9, q10⟩
        · rw [q3] at z
          cases z
        · rw [q3] at z
          cases z
          simp at q4
      · obtain ⟨m, om, c1, c2, c3, c4, c5, c6⟩ := bmn
        have ng1 : m ≠ mainGlobals := fun z => by
          obtain ⟨o, es, ep, y, d, _⟩ := gl
          rw [z, y] at c3
          cases c3
          rw [d] at c6
          cases c6
        have ng2 : m ≠ p.2 := fun z => by
          rw [z, ts.em p hp] at c3
          cases c3
          cases c6
        refine ⟨m, om, c1, c2, ng1, ng2, low c3 (free c3 (fun vs n z => ?_) fun z => ?_), c4, c5, c6⟩
        · rw [c6] at z
          cases z
        · rw [c6] at z
          cases z
      · obtain ⟨o, es, ep, y, d, _⟩ := gl
        rw [z, ts.em p hp] at y
        cases y
        cases d
    have env : Env0 P w K mg (hidT s.heap H) callerA [] s H := ⟨rfl, ⟨lowK, lowNs gl, ⟨mb, lowNs bl, bo⟩, ⟨mc, lowNs l1, l2⟩⟩, fun b o q => of_hidT q, Nat.le_of_eq (hidT_size _ _), trivial, fun b hb => absurd (show b ∈ ([] : List Addr) from hb) List.not_mem_nil, hok, .of_eq ng⟩
    refine codeAny_mono (F _ lowK (lowNs gl) tabB callerA [] s H [.ref a] [.ref a] _ _ hr env (.cons rfl .nil) (hsp H only tabs seq)) fun res t z => ?_
    match res, z with
    | .error u, z =>
      obtain ⟨_, _, _, _, _, _, _, _, _, _, _, _, y⟩ := z
      exact y.elim
    | .ok .next, z => exact z.elim
    | .ok .brk, z => exact z.elim
    | .ok .cont, z => exact z.elim
    | .ok (.ret u), z =>
      obtain ⟨v, H', os, bare, un, hok', rv, q⟩ := z
      have ev : v = .bl true := q
      subst ev
      have eu : u = Value.bool true := rv
      subst eu
      have same : ∀ b o, b ∉ cs.map (fun p => p.2) → s.heap.get? b = some o → t.heap.get? b = some o := fun b o nt q => by
        rcases only b with z | ⟨ps, z⟩ | ⟨ob, xs, z⟩
        · exact un.keep b o q z (fun y => absurd (show b ∈ ([] : List Addr) from y) List.not_mem_nil) List.not_mem_nil
        · exact absurd (onlyT b ps z) nt
        · obtain ⟨e1, _⟩ := hok b _ z
          obtain ⟨e2, _⟩ := hok' b _ (un.frzs b ob _ z)
          rw [q] at e1
          cases e1
          exact e2
      have more : ∀ p ∈ cs, ∃ ms : Array Value, t.heap.get? p.2 = some { cls := .none, data := .fields ms } := fun p hp => by
        obtain ⟨ms, z⟩ := un.tbls p.2 #[] (tabs p hp)
        exact ⟨_, hok' p.2 _ z⟩
      refine ⟨rfl, ⟨fun b o q => ?_, fun b o q => ?_⟩, os, bare⟩
      · by_cases hb : b ∈ cs.map (fun p => p.2)
        · obtain ⟨q1, _, p, hp, rfl⟩ := tmem b hb
          obtain ⟨ms, z⟩ := more p hp
          rw [q1] at q
          cases q
          exact .inr (.inl ⟨((ts.hd p hp).tab (ts.em p hp)).isCodeTable, rfl, #[], ms, rfl, by rw [Array.empty_append]; exact z⟩)
        · exact .inl (same b o hb q)
      · by_cases hb : b ∈ cs.map (fun p => p.2)
        · obtain ⟨_, _, p, hp, rfl⟩ := tmem b hb
          obtain ⟨ms, z⟩ := more p hp
          exact ⟨_, z⟩
        · exact ⟨o, same b o hb q⟩
  cases hk : K.lookup a with
  | some o =>
    have q := inK a o hk
    rw [at_] at q
    cases q
    have hT : ∀ b, b ∈ cs.map (fun p => p.2) → (fun b => if b ∈ cs.map (fun p => p.2) then some (HO.tbl #[]) else none) b = some (.tbl #[]) := fun b hb => if_pos hb
    have hN : ∀ b, b ∉ cs.map (fun p => p.2) → (fun b => if b ∈ cs.map (fun p => p.2) then some (HO.tbl #[]) else none) b = none := fun b hb => if_neg hb
    refine main (fun b => if b ∈ cs.map (fun p => p.2) then some (.tbl #[]) else none) (fun b => ?_) (fun p hp => hT _ (memt p hp)) (.inr ⟨_, zs.toArray, _, hk, rfl, rfl, rfl, by rw [List.size_toArray, ell]; exact len, by simpa using vals⟩) (fun b u z => ?_) (fun b z => ?_) (fun b ps z => ?_) fun z => absurd (hN a aNot) z
    · by_cases hb : b ∈ cs.map (fun p => p.2)
      · exact .inr (.inl ⟨_, hT b hb⟩)
      · exact .inl (hN b hb)
    · by_cases hb : b ∈ cs.map (fun p => p.2)
      · have y := (hT b hb).symm.trans z
        cases y
        exact (tmem b hb).1
      · have y := (hN b hb).symm.trans z
        cases y
    · by_cases hb : b ∈ cs.map (fun p => p.2)
      · exact .inr hb
      · exact absurd (hN b hb) z
    · by_cases hb : b ∈ cs.map (fun p => p.2)
      · exact hb
      · have y := (hN b hb).symm.trans z
        cases y
  | none =>
    have hA : (fun b => if b = a then some (HO.frz { cls := .type "list", data := .seq zs.toArray } (.lst (ns.map V.int))) else if b ∈ cs.map (fun p => p.2) then some (HO.tbl #[]) else none) a = some (HO.frz { cls := .type "list", data := .seq zs.toArray } (.lst (ns.map V.int))) := if_pos rfl
    have hT : ∀ b, b ∈ cs.map (fun p => p.2) → (fun b => if b = a then some (HO.frz { cls := .type "list", data := .seq zs.toArray } (.lst (ns.map V.int))) else if b ∈ cs.map (fun p => p.2) then some (HO.tbl #[]) else none) b = some (.tbl #[]) := fun b hb => (if_neg (show ¬ b = a from fun z => aNot (z ▸ hb))).trans (if_pos hb)
    have hN : ∀ b, b ≠ a → b ∉ cs.map (fun p => p.2) → (fun b => if b = a then some (HO.frz { cls := .type "list", data := .seq zs.toArray } (.lst (ns.map V.int))) else if b ∈ cs.map (fun p => p.2) then some (HO.tbl #[]) else none) b = none := fun b h1 h2 => (if_neg h1).trans (if_neg h2)
    generalize (fun b => if b = a then some (HO.frz { cls := .type "list", data := .seq zs.toArray } (.lst (ns.map V.int))) else if b ∈ cs.map (fun p => p.2) then some (HO.tbl #[]) else none) = H at hA hT hN
    refine main H (fun b => ?_) (fun p hp => hT _ (memt p hp)) (.inl (.inr ⟨_, hA⟩)) (fun b u z => ?_) (fun b z => ?_) (fun b ps z => ?_) fun _ => hk
    · by_cases hb : b = a
      · exact .inr (.inr ⟨_, _, hb ▸ hA⟩)
      · by_cases hc : b ∈ cs.map (fun p => p.2)
        · exact .inr (.inl ⟨_, hT b hc⟩)
        · exact .inl (hN b hb hc)
    · by_cases hb : b = a
      · subst hb
        rw [hA] at z
        cases z
        exact ⟨at_, by rw [List.length_map]; exact len, zs, _, vals, at_⟩
      · by_cases hc : b ∈ cs.map (fun p => p.2)
        · rw [hT b hc] at z
          cases z
          exact (tmem b hc).1
        · rw [hN b hb hc] at z
          cases z
    · by_cases hb : b = a
      · exact .inl hb
      · by_cases hc : b ∈ cs.map (fun p => p.2)
        · exact .inr hc
        · exact absurd (hN b hb hc) z
    · by_cases hb : b = a
      · subst hb
        rw [hA] at z
        cases z
      · by_cases hc : b ∈ cs.map (fun p => p.2)
        · exact hc
        · rw [hN b hb hc] at z
          cases z
/-- the law over a head by facts -/
theorem walk_A {l : PySem.W.OpenLaw} {n k : Nat} {q : Program} {loose : List Str} {XP : (Str → Option Value) → Heap → Prop} {YP : World → Heap → Prop} {d : DefRec} (hn : l.most = some n) (hz : n ≤ sizeLine) (hdf : d.params.defaults = []) (hr : RG k callerA)
    (F : ∀ (w : World) (mg : Str → Option Value) (fa : Addr) (h : Heap), YP w h → h.Ns mainGlobals mg → mg d.name = some (.ref fa) →
      ∃ (K : PySem.W.Frag) (sp : Sp) (cs : List (Addr × Addr)), K.In h ∧ TabsAt K h cs ∧ (∀ (H : Hp) (a : Addr) (ns : List Int), ns.length ≤ n → OnlyT H → (∀ p ∈ cs, H p.2 = some (.tbl #[])) → SqL K H a (ns.map V.int) → sp [.ref a] H (fun v _ => v = .bl true) fun _ _ _ => False) ∧
        ∀ base : Heap, K.In base → base.Ns mainGlobals mg → (∀ p ∈ cs, LamX.TabB base mg p.1 p.2) → FnA l.prog w K mg base k fa sp) :
    PySem.W.WalkO q loose XP YP l.row.toRowW d [] (fun f vs => PySem.call f vs) := by
  refine Att.attach_call hn hdf fun w s₀ s₁ mg mb fa o pm cd doc a vs ns G Y ho hd hcd hmg hobj hints hlen hg => ?_
  obtain ⟨K, sp, cs, KX, TS, hsp, hF⟩ := F w mg fa _ Y G.T.g hmg
  exact law_callA KX G.T.g G.T.b G.T.builtins G.T.nolimit hg TS G.T.bmain hobj hints (Nat.le_trans hlen hz) hr hF fun H hO hT hS => hsp H a ns hlen hO hT hS
/-- the script as data -/
theorem scr_rep {G : Cl} {ad : Ad} {H : Hp} {a : Addr} {ns : List Int} (hO : OnlyT H) (h : SqL G.K H a (ns.map V.int)) : Rep G ad Non H (.ref a) (.scr ns) := by
  rcases h with (h | ⟨o, h⟩) | h
  · rcases hO a with z | ⟨ps, z⟩ | ⟨o, xs, z⟩
    · rw [h] at z
      cases z
    · rw [h] at z
      cases z
    · rw [h] at z
      cases z
  · exact .scrF h (fun z => z)
  · exact .scrK fun H' => .inr h
/-- tables that hold nothing -/
theorem tabs_nil {H : Hp} {cs : List (Addr × Addr)} {T : List (Addr × Str)} (h : ∀ p ∈ cs, H p.2 = some (.tbl #[])) (hT : ∀ t ∈ T, ∃ p ∈ cs, p.2 = t.1) : LamX.Tabs T H := fun t ht => by
  obtain ⟨p, hp, e⟩ := hT t ht
  exact LamX.TabS.nil (by rw [← e]; exact h p hp)
/-- what a law promises -/
def spLaw (G : Cl) : Sp := fun vs H Q E => ∃ (ns : List Int) (v : V), vs = [v] ∧ Rep G none Non H v (.scr ns) ∧ ns.length ≤ 63 ∧ LamX.Tabs G.T H ∧ ∀ H', Q (.bl true) H'
/-- the law's rows behind the first -/
theorem law_rest {G : Cl} {E : XK} {t : TS} {f : DS} {k : Nat} {r : MS} {v : V} {H : Hp} {Q : VK} (hd : Ds G E t f) (mr : MRec H r) (hcs : r.cs = []) (tb : LamX.Tabs G.T H) (ht : ∃ m', f (none :: some (.v .drw) :: List.replicate k none) (some r) = .rt (.bl true) m') (p : ∀ H', Q (.bl true) H') :
    t { nx := fun _ H' => Q .non H', rt := Q } (some v :: some (.ref r.am) :: List.replicate k none) H := by
  have mr2 : MRep G (Mo.has (some r)) H (some r) := ⟨mr, ⟨fun c hc => (by rw [hcs] at hc; cases hc), (by unfold MS.ads; rw [hcs]; exact List.nodup_nil), fun b hb => (by unfold MS.ads at hb; rw [hcs] at hb; cases hb)⟩⟩
  have st : Start G (Mo.has (some r)) (some r) H := ⟨mr2, fun _ h => h, fun b hb => MRep.has mr2 b hb, tb⟩
  have e0 := env_start (N := List.replicate (k + 2) "x") (vs := [.non, .ref r.am]) (ds := [.non, .drw]) (m := some r) (G := G) st (.cons .non (.cons (.drw (l := r.cs.map Cel.ads) rfl) .nil)) (fun _ => 0)
  have e1 := e0.clr (i := 0)
  have er : (ro0 (List.replicate (k + 2) ("x" : Str)).length [.non, .drw]).set 0 none = none :: some (.v .drw) :: List.replicate k none := by
    unfold ro0
    rw [List.length_replicate]
    rfl
  have es : L2.start (List.replicate (k + 2) ("x" : Str)) [.non, .ref r.am] = some .non :: some (.ref r.am) :: List.replicate k none := by
    unfold L2.start
    rw [List.length_replicate]
    rfl
  rw [er, es] at e1
  have e2 := e1.keepσ (σ' := some v :: some (.ref r.am) :: List.replicate k none) rfl fun i s hi => by
    match i, hi with
    | 0, hi => cases hi
    | _ + 1, _ => rfl
  refine hd.run e2 _ ?_
  obtain ⟨m', hm⟩ := ht
  rw [hm]
  intro u H' g ru
  cases ru
  exact p H'
end Dn
namespace Dn
open PySem PySem.Spec PyProof.Rows L2
open PySem.W PySem.Calls
open Builtin Builtin.ObjectAttr

/-! an own exception class over a built-in one -/
structure XCls (K : Frag) (C : Addr) (B newId initId : String) (bmB : List Value) : Prop where
  ini : excInitIn K C bmB newId = true
  ovr : excOver K C bmB = true
  dct : hasDictIn K C = true
  sa : findIn K (.ref C) "__setattr__" = some (some (.builtin "object.__setattr__"))
  exC : subIn K (.ref C) (.type "BaseException") = some true
  tyC : typeIn K (.ref C) = some (.type "type")
  kC : keepIn K (.ref C) = true
  sB : subIn K (.ref C) (.type B) = some true
  sC : mroIn K C (.ref C) = some true
  sup : ks_superIn K C C "__init__" = some (some (.builtin initId))
  opq : nsIn K cStatics "thirdparty.any" = some none
/-- its own __init__: a def of the class, in the program's file -/
structure XFn (P : Program) (K : Frag) (C fI : Addr) (fd : FuncData) : Prop where
  at_ : ∃ od osl, K.lookup fI = some ⟨.type "function", od, .func fd, osl⟩
  clo : ∃ cc cl cld csl, fd.closure = [(("__class__" : Str), cc)] ∧ K.lookup cc = some ⟨cl, cld, .cell (some (.ref C)), csl⟩
  cod : ∃ cda ccl cdd ccs vs file tf, fd.code = .ref cda ∧ K.lookup cda = some ⟨ccl, cdd, .fields vs, ccs⟩ ∧ vs[2]? = some (.str file tf) ∧ ((P.main.file : Str) == file) = true
  glo : fd.globals = mainGlobals
  blt : fd.builtins = builtinsNs
  hcd : codeIn K fd.code fd.qualname = true
  fnd : findIn K (.ref C) "__init__" = some (some (.ref fI))

section
variable {P : Program} {w : World} {A : Around} {E : Value → Shared → Prop} {K : Frag} {C a L fI : Addr} {B newId initId : String} {bmB : List Value} {fd : FuncData} {mg m : Str → Option Value}
/-- super().__init__('..') -/
theorem supX_ok {body : List Stmt} {tx : Str} {j : Nat} {p0 p1 p2 p3 p4 p5 : Pos} {t0 : Addr} {h : Heap} {g : Array GenState} {d : Drawn} {t : Nat} {os : OsState} {ar : Arg} {Q : Flow → Shared → Prop}
    (FB : ExcBaseFacts B newId initId bmB) (KF : KxsFacts B initId) (T : XCls K C B newId initId bmB) (F : XFn P K C fI fd) (X : K.In h) (G : h.Ns mainGlobals mg) (hmg : mg "super" = none)
    (hb : ∃ mb, h.Ns builtinsNs mb ∧ mb "super" = some (.type "super")) (hL : h.Ns L m) (hm : m ar.arg = some (.ref a)) (he : h.get? a = some (excObj C t0 none .none))
    (hks : fd.scope.names.lookup ("super" : Str) = some .globalImplicit) (hkc : fd.scope.names.lookup ("__class__" : Str) = some .free) (hka : fd.scope.names.lookup ar.arg = some .local) (hk : fd.scope.kind = .function)
    {pl : Sem Bool} (hev : PySem.eval (.Call (.Attribute (.Call (.Name "super" p0) [] [] p1) "__init__" p2) [.Constant (.str tx) j p3] [] p4) (callEnv fd L fI) = (do
      let v ← attributeBase (.Call (.Name "super" p0) [] [] p1) "__init__" (callEnv fd L fI) (PySem.eval (.Call (.Name "super" p0) [] [] p1) (callEnv fd L fI))
      standAt p2.atName
      let (u, one) ← holding [v] (getMethod v "__init__" pl)
      callWith p4 u one (backTo p4 (starEach [.Constant (.str tx) j p3] (callEnv fd L fI))) []))
    (hp : (fd.params.posonlyargs ++ fd.params.args).head? = some ar) (htop : (P.main.scope.names.lookup ("super" : Str)).isSome = false)
    (hq : ∀ h' t' t1, (∀ b o, b ≠ a → h.get? b = some o → h'.get? b = some o) → h'.get? a = some (excObj C t1 none .none) → h.objs.size ≤ h'.objs.size → Q .next ⟨h', g, d, t', os⟩) :
    _root_.PySem.wpAt (model P w) A (.func body (callEnv fd L fI)) (exec (.Expr (.Call (.Attribute (.Call (.Name "super" p0) [] [] p1) "__init__" p2) [.Constant (.str tx) j p3] [] p4) p5) (callEnv fd L fI)) Q E ⟨h, g, d, t, os⟩ := by
  obtain ⟨od, osl, lk⟩ := F.at_
  obtain ⟨cc, cl, cld, csl, ec, lc⟩ := F.clo
  obtain ⟨cda, ccl, cdd, ccs, vs, file, tf, ed, ld, hvs, hfile⟩ := F.cod
  obtain ⟨mb, hb1, hb2⟩ := hb
  obtain ⟨nm, N', qn, bs, bm, hdct, sn', sub, ab, col, dd, k0, k1, k2, k3, k5, hC, hT⟩ := excInit_of X T.ini
  have hxC : a ≠ C := fun z => by
    rw [z, hC] at he
    cases he
  refine ks_wpAt_Expr_any (ks_wpAt_MethodCall (pl := pl) ?_ hev) (by
    show (fd.scope.kind == .module && _) = false
    rw [hk]
    rfl)
  refine ks_wpAt_super_base (env := callEnv fd L fI) hks hkc (by decide) rfl (X _ _ lk) rfl hp ed (X _ _ ld) rfl hvs hfile htop ?_
  refine ks_loadName_global hk hks (loadGlobal_builtin (env := callEnv fd L fI) (by rw [show (callEnv fd L fI).globals = mainGlobals from F.glo]; exact G) hmg (by rw [show (callEnv fd L fI).builtins = builtinsNs from F.blt]; exact hb1) hb2 ⟨rfl, ?_⟩)
  refine wpAny_loadName_free hk hkc (show fd.closure.lookup ("__class__" : Str) = some cc by rw [ec]; rfl) ⟨_, X _ _ lc, rfl⟩ ?_
  refine wpAny_loadName_local hk hka hL hm ?_
  refine ks_wpAny_isType_cls hC rfl ⟨rfl, ?_⟩
  refine ks_wpAny_call_super hC rfl he rfl (fun c e => by cases e) (looks_mroIn X T.sC) (fun h1 hso k1 => ?_)
  have X1 : K.In h1 := X.keeps k1
  have he1 := k1 _ _ he
  have I1 : InstAt h1 a (excObj C t0 none .none) C none := ⟨he1, rfl, rfl, trivial⟩
  have hI : Looks (model P w) h1 (isInstance (.ref a) (.type B)) true := I1.type.andThen (looks_subIn X1 T.sB)
  have hs := T.sup
  unfold ks_superIn at hs
  obtain ⟨cd, hcd, hal⟩ := Option.bind_eq_some_iff.mp hs
  refine kxs_getMethod KF hso (looks_opaque X1 T.opq) (l₀ := cd.mro) (fun A Q E s k q => wpAny_bind ((looks_clsIn X1 hcd) A _ E s k (wpAny_pure q))) rfl X1 hal hI hxC (by decide) ?_
  refine kxs_callWith (i := initId) (x := a) (by rfl) ?_
  show wpAny _ _ (evalArgs _ true ((false, eval (.Constant (.str tx) j p3) (callEnv fd L fI)) :: []) []) _ _ _
  refine evalArgs_plain (Calls.spliced_cons (Calls.Constant_str (Calls.spliced_nil ⟨?_, ?_⟩)))
  · exact Heap.get?_push_at rfl rfl
  have hu : (h1.push (kxs_mw initId a)).get? h1.objs.size = some (kxs_mw initId a) := Heap.get?_push_at rfl rfl
  refine wpAny_call (codeAny_of_tree ?_)
  show wpAny _ A.in1 (callAny (.ref h1.objs.size) _) _ _ _
  simp only [callAny]
  refine wpAny_bind (wpAny_load hu ?_)
  simp only [kxs_mw, show (Value.type "method-wrapper" == Value.type "method" || Value.type "method-wrapper" == Value.type "builtin_function_or_method" || Value.type "method-wrapper" == Value.type "method-wrapper") = true by decide, if_true]
  refine KFB.if_so (by decide) ?_
  have hC2 := Heap.get?_push_of_some (kxs_mw initId a) (k1 _ _ hC)
  have he2 := Heap.get?_push_of_some (kxs_mw initId a) he1
  refine wpAny_bind (check_bound_init FB.toExcCallFacts hC2 he2 rfl ?_)
  refine wpAny_bind (wpAny_pure (wpAny_pure ?_))
  refine ⟨plainId_quiet FB.init.plain _, codeAny_builtin FB.initEntry ?_⟩
  refine exc_init_tree (cls := .ref C) (t0 := t0) (dv := none) (c2 := .none) (c3 := .none) (b4 := .bool false) he2 ?_ fun h' k' e' t' => ?_
  · show ([_] : List Value).length ≤ sizeLine
    rw [sizeLine_eq]
    exact (by decide : 1 ≤ 16777216)
  · refine hq h' _ _ (fun b o hb q => k' b o hb (Heap.get?_push_of_some _ (k1 b o q))) e' ?_
    have l1 : h.objs.size < h1.objs.size := Heap.lt_size hso
    have l2 : (h1.push (kxs_mw initId a)).objs.size < h'.objs.size := Heap.lt_size t'
    rw [Heap.size_push] at l2
    exact Nat.le_of_lt (Nat.lt_of_lt_of_le l1 (Nat.le_of_lt (Nat.lt_of_le_of_lt (Nat.le_succ _) l2)))
/-- self.f = v, the first field -/
theorem osX_ok {f : Str} {t0 : Addr} {h : Heap} {g : Array GenState} {d : Drawn} {t : Nat} {os : OsState} {v : Value} {Q : Unit → Shared → Prop} (SF : StoreFacts B bmB "object.__setattr__" "object") (T : XCls K C B newId initId bmB) (X : K.In h)
    (he : h.get? a = some (excObj C t0 none .none)) (hf : takerIn K C f = some none)
    (hq : ∀ h' t' dx, (∀ b o, b ≠ a → h.get? b = some o → h'.get? b = some o) → h.objs.size ≤ dx → h'.get? a = some (excObj C t0 (some dx) .none) → h'.Ns1 dx (fun y => if y = f then some v else none) → Q () ⟨h', g, d, t', os⟩) :
    wpAny (model P w) A (setAttr (.ref a) f v) Q E ⟨h, g, d, t, os⟩ := by
  have has : a ≠ h.objs.size := Nat.ne_of_lt (Heap.lt_size he)
  refine set_plain X (ox := excObj C t0 none .none) (od := none) ⟨he, rfl, rfl, trivial⟩ T.sa ?_
  refine osa_openX (od := none) SF X ⟨he, rfl, rfl, trivial⟩ T.ovr hf fun b => ?_
  obtain ⟨cd, hc, hd'⟩ := any_some T.dct
  refine wpAny_bind (wpAny_pure (wpAny_bind (instanceDict_exc he (looks_clsIn X hc) hd' ?_)))
  show wpAny _ _ (storeInDict h.objs.size (.str f _) f v) _ _ _
  refine PySem.HandSPX.store_in_new ⟨_, #[], _, (Heap.get?_update_ne _ _ _ _ has.symm).trans (Heap.get?_push_at rfl rfl), rfl, fun e he => absurd he (by simp), fun _ => rfl⟩ fun h' tk' hn' hs => ?_
  have hx₁ : (h.push (dictOf [] 0)).get? a = some (excObj C t0 none .none) := Heap.get?_push_of_some _ he
  refine hq h' tk' h.objs.size (fun b o hb ho => ?_) (Nat.le_refl _) ?_ hn'
  · exact (hs.2 b (Nat.ne_of_lt (Heap.lt_size ho))).trans ((Heap.get?_update_ne _ _ _ _ hb).trans (Heap.get?_push_of_some _ ho))
  · exact (hs.2 a has).trans (Heap.get?_update_self _ hx₁ rfl)
end
end Dn
namespace Dn
open PySem PySem.Spec PyProof.Rows L2
open PySem.W PySem.Calls

theorem ns_at {h h' : Heap} {L : Addr} {m : Str → Option Value} (n : h.Ns L m) (e : ∀ o, h.get? L = some o → h'.get? L = some o) : h'.Ns L m := by
  obtain ⟨o, es, ep, ho, r⟩ := n
  exact ⟨o, es, ep, e o ho, r⟩
section
variable {P : Program} {w : World} {A : Around} {K : Frag} {C a fI : Addr} {B newId initId : String} {bmB : List Value} {fd : FuncData} {mg : Str → Option Value} {R : Result → Shared → Prop}
/-- what the program's text says of such an __init__ -/
structure XTxt (P : Program) (fd : FuncData) (sn : Str) (tx : Str) (j : Nat) (p0 p1 p2 p3 p4 p5 : Pos) : Prop where
  hks : fd.scope.names.lookup ("super" : Str) = some .globalImplicit
  hkc : fd.scope.names.lookup ("__class__" : Str) = some .free
  hka : fd.scope.names.lookup sn = some .local
  kind : fd.scope.kind = .function
  co : fd.scope.isCoroutine = false
  gen : fd.scope.isGenerator = false
  noc : ∀ x ∈ fd.scope.names, x.2 ≠ .cell
  hp : ∃ ar, (fd.params.posonlyargs ++ fd.params.args).head? = some ar ∧ ar.arg = sn
  top : (P.main.scope.names.lookup ("super" : Str)).isSome = false
  hev : ∃ pl : Sem Bool, ∀ env : Env, PySem.eval (.Call (.Attribute (.Call (.Name "super" p0) [] [] p1) "__init__" p2) [.Constant (.str tx) j p3] [] p4) env = (do
      let v ← attributeBase (.Call (.Name "super" p0) [] [] p1) "__init__" env (PySem.eval (.Call (.Name "super" p0) [] [] p1) env)
      standAt p2.atName
      let (u, one) ← holding [v] (getMethod v "__init__" pl)
      callWith p4 u one (backTo p4 (starEach [.Constant (.str tx) j p3] env)) [])
abbrev supStmt (tx : Str) (j : Nat) (p0 p1 p2 p3 p4 p5 : Pos) : Stmt := .Expr (.Call (.Attribute (.Call (.Name "super" p0) [] [] p1) "__init__" p2) [.Constant (.str tx) j p3] [] p4) p5
/-- what stands around -/
structure XAt (K : Frag) (mg : Str → Option Value) (a : Addr) (h : Heap) : Prop where
  kin : K.In h
  glo : h.Ns mainGlobals mg
  blt : ∃ mb, h.Ns builtinsNs mb ∧ mb "super" = some (.type "super")
  sup : mg "super" = none
  lim : h.NoLimit
  out : ∀ o, K.lookup a ≠ some o
theorem XAt.keeps {a : Addr} {h h' : Heap} (x : XAt K mg a h) (k : ∀ b o, h.get? b = some o → h'.get? b = some o) : XAt K mg a h' :=
  ⟨x.kin.keeps k, ns_at x.glo fun o => k _ o, let ⟨mb, h1, h2⟩ := x.blt; ⟨mb, ns_at h1 fun o => k _ o, h2⟩, x.sup, x.lim.keeps k, x.out⟩
/-- __init__(self, x): super().__init__('..'); self.f = x -/
theorem initX1 {sn x f tx : Str} {j : Nat} {p0 p1 p2 p3 p4 p5 q1 q2 q3 q4 : Pos} {t0 : Addr} {h : Heap} {g : Array GenState} {d : Drawn} {t : Nat} {os : OsState} {u : Value} {args : Args}
    (FB : ExcBaseFacts B newId initId bmB) (KF : KxsFacts B initId) (SF : StoreFacts B bmB "object.__setattr__" "object") (T : XCls K C B newId initId bmB) (F : XFn P K C fI fd) (Y : XTxt P fd sn tx j p0 p1 p2 p3 p4 p5) (X : XAt K mg a h) (hroom : A.depth < recursionLimit)
    (hbody : fd.body = .stmts [supStmt tx j p0 p1 p2 p3 p4 p5, .Assign [.Attribute (.Name sn q1) f q2] (.Name x q3) q4]) (hx : fd.scope.names.lookup x = some .local) (hne : x ≠ sn) (hds : (sn == ("__debug__" : Str)) = false) (hdx : (x == ("__debug__" : Str)) = false)
    (hsw : ∀ env, swapsWith (.Name x q3) (some (.Attribute (.Name sn q1) f q2)) q4.line env = pure false)
    (hbind : BindsTo ⟨h, g, d, t, os⟩ fd args [(sn, .ref a), (x, u)]) (hf : takerIn K C f = some none) (he : h.get? a = some (excObj C t0 none .none))
    (hq : ∀ h' t' t1 dx, (∀ b o, b ≠ a → h.get? b = some o → h'.get? b = some o) → h.objs.size ≤ dx → h'.get? a = some (excObj C t1 (some dx) .none) → h'.Ns1 dx (fun y => if y = f then some u else none) → R (.ok (.ret .none)) ⟨h', g, d, t', os⟩) :
    codeAny (model P w) A (.call (.ref fI) args) R ⟨h, g, d, t, os⟩ := by
  obtain ⟨od, osl, lk⟩ := F.at_
  obtain ⟨ar, hp, har⟩ := Y.hp
  obtain ⟨pl, hev⟩ := Y.hev
  refine ks_codeAny_call_defAt hroom (X.kin _ _ lk) rfl X.lim (codeRec_of X.kin F.hcd) hbody hbind Y.noc (fun y hy => ?_) (fun h₀ hns k0 => ?_) Y.co Y.gen Y.kind
  · simp only [List.mem_cons, List.not_mem_nil, or_false] at hy
    rcases hy with rfl | rfl
    · exact Y.hka
    · exact hx
  have X0 := X.keeps k0
  have hL : a ≠ h.objs.size := Nat.ne_of_lt (Heap.lt_size he)
  have m1 : ([(sn, Value.ref a), (x, u)] : List (Str × Value)).reverse.lookup sn = some (.ref a) := by
    simp [List.lookup, show (sn == x) = false by simpa using fun z => hne z.symm]
  have m2 : ([(sn, Value.ref a), (x, u)] : List (Str × Value)).reverse.lookup x = some u := by simp [List.lookup]
  refine ks_wpAt_execs_cons ?_
  refine supX_ok (m := fun y => ([(sn, Value.ref a), (x, u)] : List (Str × Value)).reverse.lookup y) FB KF T F X0.kin X0.glo X0.sup X0.blt hns (by rw [har]; exact m1) (k0 _ _ he) Y.hks Y.hkc (by rw [har]; exact Y.hka) Y.kind (hev _) hp Y.top fun h1 t1' tt k1 he1 sz => ?_
  have L1 : h1.Ns h.objs.size (fun y => ([(sn, Value.ref a), (x, u)] : List (Str × Value)).reverse.lookup y) := ns_at hns fun o => k1 _ o hL.symm
  have K1 : K.In h1 := fun b o q => by
    have z := X0.kin b o q
    exact k1 b o (fun e => X.out o (e ▸ q)) z
  have l0 : h.objs.size < h₀.objs.size := by
    obtain ⟨o, _, _, e, _⟩ := hns
    exact Heap.lt_size e
  refine ks_wpAt_execs_cons ?_
  refine ks_wpAt_Assign_Attr (wpAt_of_wpAny (ldc Y.kind hx L1 m2 (ldc Y.kind Y.hka L1 m1 ?_ hds) hdx)) (hsw _)
  refine osX_ok SF T K1 he1 hf fun h2 t2 dx k2 hdx2 he2 hn2 => ?_
  refine wpAt_of_wpAny (wpAny_pure ?_)
  exact hq h2 _ _ dx (fun b o hb q => k2 b o hb (k1 b o hb (k0 b o q))) (Nat.le_trans (Nat.le_of_lt l0) (Nat.le_trans sz hdx2)) he2 hn2
end
end Dn
namespace Dn
open PySem PySem.Spec PyProof.Rows L2
open PySem.W PySem.Calls

/-- an own exception class, its __init__ and what its text says: one field f | none -/
structure XAll (P : Program) (K : Frag) (C fI : Addr) (fo : Option Str) : Prop where
  ex : ∃ (B newId initId : String) (bmB : List Value) (fd : FuncData) (sn tx : Str) (j : Nat) (p0 p1 p2 p3 p4 p5 : Pos), ExcBaseFacts B newId initId bmB ∧ KxsFacts B initId ∧ StoreFacts B bmB "object.__setattr__" "object" ∧
    XCls K C B newId initId bmB ∧ XFn P K C fI fd ∧ XTxt P fd sn tx j p0 p1 p2 p3 p4 p5 ∧ typeIn K (.ref fI) = some (.type "function") ∧
    (match fo with
      | none => fd.body = .stmts [supStmt tx j p0 p1 p2 p3 p4 p5] ∧ ∀ (s : Shared) (v : Value), BindsTo s fd ⟨[v], []⟩ [(sn, v)]
      | some f => ∃ (x : Str) (q1 q2 q3 q4 : Pos), fd.body = .stmts [supStmt tx j p0 p1 p2 p3 p4 p5, .Assign [.Attribute (.Name sn q1) f q2] (.Name x q3) q4] ∧ fd.scope.names.lookup x = some .local ∧ x ≠ sn ∧ (sn == ("__debug__" : Str)) = false ∧ (x == ("__debug__" : Str)) = false ∧
        (∀ env, swapsWith (.Name x q3) (some (.Attribute (.Name sn q1) f q2)) q4.line env = pure false) ∧ takerIn K C f = some none ∧ ∀ (s : Shared) (v u : Value), BindsTo s fd ⟨[v, u], []⟩ [(sn, v), (x, u)])
section
variable {P : Program} {w : World} {A : Around} {K : Frag} {C fI : Addr} {fo : Option Str} {mg : Str → Option Value} {R : Result → Shared → Prop}
theorem XAll.excl (Y : XAll P K C fI fo) : subIn K (.ref C) (.type "BaseException") = some true ∧ typeIn K (.ref C) = some (.type "type") ∧ keepIn K (.ref C) = true := by
  obtain ⟨_, _, _, _, _, _, _, _, _, _, _, _, _, _, _, _, _, T, _⟩ := Y.ex
  exact ⟨T.exC, T.tyC, T.kC⟩
/-- C(u) -/
theorem makeX1 {f : Str} {h : Heap} {g : Array GenState} {d : Drawn} {t : Nat} {os : OsState} {u : Value} (Y : XAll P K C fI (some f)) (kin : K.In h) (glo : h.Ns mainGlobals mg) (blt : ∃ mb, h.Ns builtinsNs mb ∧ mb "super" = some (.type "super")) (sup : mg "super" = none) (lim : h.NoLimit)
    (hroom : (A.under (.builtin "type.__call__" ⟨.ref C :: [u], []⟩)).depth < recursionLimit)
    (hq : ∀ h' t' t1 a dx, (∀ b o, h.get? b = some o → h'.get? b = some o) → h.objs.size ≤ a → h.objs.size ≤ dx → h'.get? a = some (excObj C t1 (some dx) .none) → h'.Ns1 dx (fun y => if y = f then some u else none) → R (.ok (.ret (.ref a))) ⟨h', g, d, t', os⟩) :
    codeAny (model P w) A (.call (.ref C) ⟨[u], []⟩) R ⟨h, g, d, t, os⟩ := by
  obtain ⟨B, newId, initId, bmB, fd, sn, tx, j, p0, p1, p2, p3, p4, p5, FB, KF, SF, T, F, Tx, tI, x, q1, q2, q3, q4, hbody, hx, hne, hds, hdx, hsw, hf, hbind⟩ := Y.ex
  obtain ⟨nm, N', qn, bs, bm, hdct, sn', sub, ab, col, dd, k0, k1, k2, k3, k5, hC, hT⟩ := excInit_of kin T.ini
  have kk : ∀ b o, h.get? b = some o → ((h.push (kdv_tup [u])).push (PySem.HandSPX.excO C h.objs.size)).get? b = some o := fun b o e => Heap.get?_push_of_some _ (Heap.get?_push_of_some _ e)
  have hget : ((h.push (kdv_tup [u])).push (PySem.HandSPX.excO C h.objs.size)).get? (h.objs.size + 1) = some (PySem.HandSPX.excO C h.objs.size) := by heap_get
  have hnew : ∀ o, h.get? (h.objs.size + 1) ≠ some o := fun o e => absurd (Heap.lt_size e) (Nat.not_lt.mpr (Nat.le_succ _))
  have X : XAt K mg (h.objs.size + 1) h := ⟨kin, glo, blt, sup, lim, fun o e => hnew o (kin _ _ e)⟩
  refine PySem.HandSPX.call_own FB hT hC (looks_findIn kin F.fnd) (fun self => bind_fn kin self tI) (by rw [sizeLine_eq]; exact (by decide : 1 ≤ 16777216)) ?_
  refine initX1 FB KF SF T F Tx (X.keeps kk) hroom hbody hx hne hds hdx hsw (hbind _ _ _) hf hget fun h' t' t1 dx k hd he hn => ?_
  refine ⟨rfl, hq h' t' t1 _ dx (fun b o e => k b o (fun z => hnew o (z ▸ e)) (kk b o e)) (Nat.le_succ _) ?_ he hn⟩
  rw [Heap.size_push, Heap.size_push] at hd
  omega
end
section
variable {X : Cx} {C fI : Addr} {k : Nat} {x f : Str} {p pos : Pos} {e : Expr} {te : TE}
theorem inv_blt {pins : List (Addr × Obj)} {σ : L2.St} {H : Hp} {s : Shared} (I : Inv X pins σ H s) : ∃ mb, s.heap.Ns builtinsNs mb ∧ mb "super" = some (.type "super") := by
  obtain ⟨mb, h1, h2⟩ := I.mod.blt
  exact ⟨mb, h1.keeps I.bk, (h2 _ (by decide)).trans (by rfl)⟩
/-- the exception is let go, its field's table stays -/
theorem mk_X1 {pins : List (Addr × Obj)} {σ : L2.St} {H1 : Hp} {Q : XK} {hp h' : Heap} {g : Array GenState} {dr : Drawn} {t t' : Nat} {os : OsState} {a dx t1 : Addr} {y : V} {u : Value} (r : Raises X (.ref C)) (I1 : Inv X pins σ H1 ⟨hp, g, dr, t, os⟩)
    (kk : ∀ b o, hp.get? b = some o → h'.get? b = some o) (la : hp.objs.size ≤ a) (ld : hp.objs.size ≤ dx) (he : h'.get? a = some (excObj C t1 (some dx) .none)) (hn : h'.Ns1 dx (fun z => if z = f then some u else none)) (ry : RelV y u)
    (q : Q (.ref C) (some dx) (upd H1 dx (.xd [(f, y)]))) : MkP X pins σ Q (.ref a) ⟨h', g, dr, t', os⟩ := by
  obtain ⟨G, g1, g2⟩ := restrict h' fun b => decide (b ≠ a)
  have gk : ∀ b, b ≠ a → G.get? b = h'.get? b := fun b hb => g1 b (decide_eq_true hb)
  have ge : G.get? a = none := g2 a (by simp)
  have na : ∀ {b o}, hp.get? b = some o → b ≠ a := fun {b o} z e => by
    rw [e] at z
    exact absurd (Heap.lt_size z) (Nat.not_lt.mpr la)
  have hda : dx ≠ a := fun z => by
    obtain ⟨o, es, ep, e1, e2, _⟩ := hn
    rw [z, he] at e1
    cases e1
    cases e2
  have hnd : H1 dx = none := I1.hok.fresh ld
  have nG : G.Ns1 dx (fun z => if z = f then some u else none) := hn.at fun o y => (gk dx hda).trans y
  have J : Inv X pins σ (upd H1 dx (.xd [(f, y)])) ⟨G, g, dr, t', os⟩ := I1.laid (t' := t') (a := dx) (o := .xd [(f, y)]) (h' := G) (fun b o z => (gk b (na z)).trans (kk b o z)) ld
    ⟨_, nG, relO_put (fs := []) ry fun g => True.intro⟩
  refine ⟨a, _, _, ⟨G, g, dr, t', os⟩, _, .ref C, some dx, rfl, J, fun b o z => ?_, ge, he, ⟨rfl, rfl⟩, rfl, rfl, ?_, rfl, I1.bare, r, q⟩
  · by_cases hba : b = a
    · rw [hba, ge] at z
      cases z
    · exact (gk b hba).symm.trans z
  · rw [upd_ne (Ne.symm hda)]
    exact I1.hok.fresh la
/-- C(e), to be raised -/
theorem pmk_X1 (Y : XAll X.prog X.K C fI (some f)) (hr : RG (k + 1) X.A) (hg : Gl X x) (hm : X.mg x = some (.ref C)) (hs : X.mg "super" = none) (ha : PE X e te) (hdb : (x == ("__debug__" : Str)) = false := by decide)
    (he : starEach [e] X.env = (false, PySem.eval e X.env) :: starEach [] X.env := by rfl) (hpl : (backTo pos (starEach [] X.env)).any (·.1) = false := by rfl) :
    PMk X (.Call (.Name x p) [e] [] pos) (fun σ H Q => te σ H fun y H1 => ∀ d, H1 d = none → Q (.ref C) (some d) (upd H1 d (.xd [(f, y)]))) := by
  intro pins s σ H Q I h
  obtain ⟨c1, c2, c3⟩ := Y.excl
  refine wpAny_Call_Name_kw (ld_glob I hg hm ?_ hdb)
  refine callWith_K (h₀ := X.base) I.ok.mod.kin c3 (thn ((pa_cons ha pa_nil (hs := he)).run pos pins s σ H (fun vs H1 => match vs with
    | [y] => ∀ d, H1 d = none → Q (.ref C) (some d) (upd H1 d (.xd [(f, y)]))
    | _ => False) I h) fun us s1 ⟨vs, H1, I1, r1, q1⟩ => ⟨I1.kIn, ?_⟩) he hpl
  show wpAny _ _ (call (.ref C) us) _ _ _
  cases r1 with
  | nil => exact q1.elim
  | cons ry r2 =>
    cases r2 with
    | cons _ _ => exact q1.elim
    | nil =>
      obtain ⟨hp, g, dr, tk, os⟩ := s1
      refine wpAny_call (makeX1 Y I1.kIn (I1.mod.glob.keeps I1.bk) (inv_blt I1) hs I1.nolimit (hr.rm.make C [_] []).depth fun h' t' t1 a dx kk la ld he' hn => ?_)
      exact mk_X1 (raises_own c1 c2) I1 kk la ld he' hn ry (q1 dx (I1.hok.fresh ld))
end
/-! raise, as data -/
def sRaise1 (c : Nat) (f : DE) : DS := fun ρ m => sBind (f ρ m) fun d m1 => .exc c [d] m1
def sRaise0 (c : Nat) : DS := fun _ m => .exc c [] m
section
variable {G : Cl} {E : XK} {te : TE} {fe : DE}
theorem ds_raise1 {c : Nat} {f : Str} (hf : G.xf c = some f) (h : De G E te fe) :
    Ds G E (fun _ σ H => te σ H fun y H1 => ∀ d, H1 d = none → (fun cls d _ H' => E cls d H') (Value.ref (G.xc c)) (some d) σ (upd H1 d (.xd [(f, y)]))) (sRaise1 c fe) := ⟨fun {B M pm ρ m σ H} e Z p => by
  refine h.run e _ ?_
  have q := PostS.bind (rel := Rep G B.ad M) e (show PostS G E B M H (sBind (fe ρ m) fun d m1 => .exc c [d] m1) Z from p)
  cases hr : fe ρ m with
  | bad =>
    rw [hr] at q
    exact q
  | ok a m1 =>
    rw [hr] at q
    intro v H1 g r d hd
    obtain ⟨a', m1', g', r', p'⟩ := q v H1 g r
    have e1 := e.go g'
    have g2 := e1.same (ExN.new (o := .xd [(f, v)]) hd)
    refine p' (.ref (G.xc c)) (some d) _ (Go.ofEnv e1 g2) ⟨rfl, ?_⟩
    rw [hf]
    exact ⟨d, v, rfl, upd_same, fun z => (e1.hl _ (e1.mb _ z)).ne hd, (r'.ext g2.x e1.aM).less e1.mb⟩
  | exc c' l m1 =>
    rw [hr] at q
    exact q⟩
end
end Dn
namespace Dn
open PySem PySem.Spec PyProof.Rows L2
open PySem.W PySem.Calls

/-! what the head looks at beside He's facts: the __init__s of own exceptions -/
abbrev FnC : Type := Option (Str × Str × Arguments × FuncBody × Scope × Addr × List Str × Addr)
def fnC (K : Frag) (p : Str × Option Str) : FnC := match K.lookup (He.fAd K p) with
  | some ⟨_, _, .func fd, _⟩ => some (fd.name, fd.qualname, fd.params, fd.body, fd.scope, fd.globals, fd.closure.map fun q => q.1, fd.builtins)
  | _ => none
structure XD where
  x : Str
  ov : Bool
  fld : Option Str
  qual : Str
  params : Arguments
  body : List Stmt
  scope : Scope
def XD.val (d : XD) : FnC := some ("__init__", d.qual, d.params, .stmts d.body, d.scope, mainGlobals, [("__class__" : Str)], builtinsNs)
abbrev nB (ov : Bool) : String := if ov then "OverflowError" else "ValueError"
abbrev nN (ov : Bool) : String := if ov then "OverflowError.__new__" else "ValueError.__new__"
abbrev nI (ov : Bool) : String := if ov then "OverflowError.__init__" else "ValueError.__init__"
abbrev nM (ov : Bool) : List Value := if ov then [.type "OverflowError", .type "ArithmeticError", .type "Exception", .type "BaseException", .type "object"] else [.type "ValueError", .type "Exception", .type "BaseException", .type "object"]
theorem base_facts (ov : Bool) : ExcBaseFacts (nB ov) (nN ov) (nI ov) (nM ov) ∧ KxsFacts (nB ov) (nI ov) ∧ StoreFacts (nB ov) (nM ov) "object.__setattr__" "object" := by
  cases ov
  · exact ⟨PySem.F.excBase_ValueError, kxs_ValueError, PySem.F.store_ValueError⟩
  · exact ⟨PySem.F.excBase_OverflowError, kxs_OverflowError, PySem.F.store_OverflowError⟩
def xclsB (K : Frag) (C : Addr) (ov : Bool) : Bool := excInitIn K C (nM ov) (nN ov) && (excOver K C (nM ov) && (hasDictIn K C && (He.eqO (findIn K (.ref C) "__setattr__") (some (some (.builtin "object.__setattr__"))) &&
  (decide (subIn K (.ref C) (.type "BaseException") = some true) && (decide (typeIn K (.ref C) = some (.type "type")) && (keepIn K (.ref C) && (decide (subIn K (.ref C) (.type (nB ov)) = some true) &&
  (decide (mroIn K C (.ref C) = some true) && (He.eqO (ks_superIn K C C "__init__") (some (some (.builtin (nI ov)))) && He.eqO (nsIn K cStatics "thirdparty.any") (some none))))))))))
theorem xclsB_ok {K : Frag} {C : Addr} {ov : Bool} (h : xclsB K C ov = true) : XCls K C (nB ov) (nN ov) (nI ov) (nM ov) := by
  obtain ⟨h1, h⟩ := He.ba h
  obtain ⟨h2, h⟩ := He.ba h
  obtain ⟨h3, h⟩ := He.ba h
  obtain ⟨h4, h⟩ := He.ba h
  obtain ⟨h5, h⟩ := He.ba h
  obtain ⟨h6, h⟩ := He.ba h
  obtain ⟨h7, h⟩ := He.ba h
  obtain ⟨h8, h⟩ := He.ba h
  obtain ⟨h9, h⟩ := He.ba h
  obtain ⟨h10, h11⟩ := He.ba h
  exact ⟨h1, h2, h3, He.eqO_ok h4, of_decide_eq_true h5, of_decide_eq_true h6, h7, of_decide_eq_true h8, of_decide_eq_true h9, He.eqO_ok h10, He.eqO_ok h11⟩
/-- the closure's cell holds the class -/
def cellB (K : Frag) (C cc : Addr) : Bool := match K.lookup cc with
  | some ⟨_, _, .cell (some (.ref D)), _⟩ => decide (D = C)
  | _ => false
theorem cellB_ok {K : Frag} {C cc : Addr} (h : cellB K C cc = true) : ∃ cl cld csl, K.lookup cc = some ⟨cl, cld, .cell (some (.ref C)), csl⟩ := by
  unfold cellB at h
  split at h
  · rename_i a b D c e
    obtain rfl := of_decide_eq_true h
    exact ⟨a, b, c, e⟩
  · cases h
/-- the code is of the program's file -/
def fileB (P : Program) (K : Frag) (cd : Value) : Bool := match cd with
  | .ref c => (match K.lookup c with
    | some ⟨_, _, .fields vs, _⟩ => (match (vs[2]? : Option Value) with
      | some (.str f _) => (P.main.file : Str) == f
      | _ => false)
    | _ => false)
  | _ => false
theorem fileB_ok {P : Program} {K : Frag} {cd : Value} (h : fileB P K cd = true) : ∃ cda ccl cdd ccs vs file tf, cd = .ref cda ∧ K.lookup cda = some ⟨ccl, cdd, .fields vs, ccs⟩ ∧ vs[2]? = some (.str file tf) ∧ ((P.main.file : Str) == file) = true := by
  unfold fileB at h
  split at h
  · rename_i c
    split at h
    · rename_i a b vs d e
      split at h
      · rename_i f tf e2
        exact ⟨c, a, b, d, vs, f, tf, rfl, e, e2, h⟩
      · cases h
    · cases h
  · cases h
def xfnB (P : Program) (K : Frag) (C fI : Addr) (fld : Option Str) : Bool := (match K.lookup fI with
  | some ⟨.type "function", _, .func fd, _⟩ => codeIn K fd.code fd.qualname && (decide (fd.defaults = .none) && (fileB P K fd.code && (match fd.closure with
    | [(_, cc)] => cellB K C cc
    | _ => false)))
  | _ => false) && (He.eqO (findIn K (.ref C) "__init__") (some (some (.ref fI))) && (decide (typeIn K (.ref fI) = some (.type "function")) && (match fld with
    | none => true
    | some f => decide (takerIn K C f = some none))))
def XD.ok (P : Program) (K : Frag) (d : XD) : Bool := xclsB K (He.ga K d.x) d.ov && xfnB P K (He.ga K d.x) (He.fAd K (d.x, some "__init__")) d.fld
structure XSay (P : Program) (K : Frag) (d : XD) : Prop where
  cls : XCls K (He.ga K d.x) (nB d.ov) (nN d.ov) (nI d.ov) (nM d.ov)
  fn : ∃ fd, XFn P K (He.ga K d.x) (He.fAd K (d.x, some "__init__")) fd ∧ fd.params = d.params ∧ fd.body = .stmts d.body ∧ fd.scope = d.scope ∧ fd.defaults = .none
  ty : typeIn K (.ref (He.fAd K (d.x, some "__init__"))) = some (.type "function")
  tk : ∀ f, d.fld = some f → takerIn K (He.ga K d.x) f = some none
theorem XD.say {P : Program} {K : Frag} {d : XD} (e : fnC K (d.x, some "__init__") = d.val) (h : d.ok P K = true) : XSay P K d := by
  obtain ⟨h1, h⟩ := He.ba h
  obtain ⟨h2, h⟩ := He.ba h
  obtain ⟨h3, h⟩ := He.ba h
  obtain ⟨h4, h5⟩ := He.ba h
  refine ⟨xclsB_ok h1, ?_, of_decide_eq_true h4, fun f hf => ?_⟩
  · unfold fnC at e
    split at h2
    · rename_i od fd osl lk
      rw [lk] at e
      obtain ⟨h6, h7⟩ := He.ba h2
      obtain ⟨hdf, h7⟩ := He.ba h7
      obtain ⟨h7, h8⟩ := He.ba h7
      have e2 : (some (fd.name, fd.qualname, fd.params, fd.body, fd.scope, fd.globals, fd.closure.map (fun q => q.1), fd.builtins) : FnC) = some (("__init__" : Str), d.qual, d.params, FuncBody.stmts d.body, d.scope, mainGlobals, [("__class__" : Str)], builtinsNs) := e
      simp only [Option.some.injEq, Prod.mk.injEq] at e2
      obtain ⟨g1, g2, g3, g4, g5, g6, g7, g8⟩ := e2
      refine ⟨fd, ⟨⟨od, osl, lk⟩, ?_, fileB_ok h7, g6, g8, h6, He.eqO_ok h3⟩, g3, g4, g5, of_decide_eq_true hdf⟩
      split at h8
      · rename_i nm cc ec
        rw [ec] at g7
        obtain ⟨cl, cld, csl, lc⟩ := cellB_ok h8
        have en : nm = ("__class__" : Str) := by simpa using g7
        exact ⟨cc, cl, cld, csl, by rw [ec, en], lc⟩
      · cases h8
    · cases h2
  · rw [hf] at h5
    exact of_decide_eq_true h5
end Dn
namespace Dn
open PySem PySem.Spec PyProof.Rows L2
open PySem.W PySem.Calls

/-! the hook: He's, with the statics' table in the fragment and the own exceptions -/
theorem some_tab {o : Option Obj} (h : (match o with
    | some u => He.emptyTab u
    | none => false) = true) : o = some { cls := .none, data := .fields #[] } := by
  cases o with
  | none => cases h
  | some u => rw [He.emptyTab_eq (o := u) h]
abbrev frY (g : Addr → Option Obj) (n : Nat) : Frag := He.frT g (cStatics :: He.asD g n)
abbrev AlY : Type := He.AlX × Bool × List FnC
def obsY (P : Program) (n : Nat) (fa : List He.Fa) (fn : List He.DefD) (ts : List He.Tab) (tf : List He.Defn) (ex : Frag → Bool) (xs : List XD) (g : Addr → Option Obj) : AlY :=
  ((He.obsT fa fn ts (frY g n), ex (frY g n) && He.tabsB g tf (frY g n)), xs.all fun d => d.ok P (frY g n), xs.map fun d => fnC (frY g n) (d.x, some "__init__"))
def valY (fn : List He.DefD) (ts : List He.Tab) (xs : List XD) (w : World) : AlY := ((He.valT fn ts w, true), true, xs.map XD.val)
structure SaysY (P : Program) (fa : List He.Fa) (fn : List He.DefD) (ts : List He.Tab) (tf : List He.Defn) (ex : Frag → Bool) (xs : List XD) (w : World) (h : Heap) (K : Frag) : Prop where
  x : He.SaysX fa fn ts tf ex w h K
  own : ∀ d ∈ xs, XSay P K d
theorem map_all {α β : Type} {f g : α → β} : ∀ {l : List α}, l.map f = l.map g → ∀ a ∈ l, f a = g a
  | [], _, _, h => absurd h (by simp)
  | b :: l, e, a, h => by
    rw [List.map_cons, List.map_cons, List.cons.injEq] at e
    rcases List.mem_cons.mp h with rfl | h
    · exact e.1
    · exact map_all e.2 a h
theorem saysY_of {P : Program} {n : Nat} {fa : List He.Fa} {fn : List He.DefD} {ts : List He.Tab} {tf : List He.Defn} {ex : Frag → Bool} {xs : List XD} {w : World} {h : Heap} (e : obsY P n fa fn ts tf ex xs h.get? = valY fn ts xs w) : SaysY P fa fn ts tf ex xs w h (frY h.get? n) := by
  have e1 := congrArg (fun z : AlY => z.1.1) e
  have e2 := congrArg (fun z : AlY => z.1.2) e
  have e3 := congrArg (fun z : AlY => z.2.1) e
  have e4 := congrArg (fun z : AlY => z.2.2) e
  obtain ⟨h1, h2⟩ := He.ba (show (ex (frY h.get? n) && He.tabsB h.get? tf (frY h.get? n)) = true from e2)
  have one : ∀ p ∈ tf, codeHdIn (frY h.get? n) (He.cT (frY h.get? n) p).1 (He.cT (frY h.get? n) p).2 = true ∧ h.get? (He.cT (frY h.get? n) p).2 = some { cls := .none, data := .fields #[] } := fun p hp => by
    have z := He.ba (List.all_eq_true.mp h2 p hp)
    exact ⟨z.1, some_tab z.2⟩
  exact ⟨⟨e1, h1, fun p hp => (one p hp).1, fun p hp => He.frT_none (one p hp).2 (by rfl), fun p hp => (one p hp).2⟩,
    fun d hd => XD.say (map_all (show xs.map (fun d => fnC (frY h.get? n) (d.x, some "__init__")) = xs.map XD.val from e4) d hd) (List.all_eq_true.mp (show (xs.all fun d => d.ok P (frY h.get? n)) = true from e3) d hd)⟩
def hookY (P : Program) (n : Nat) (fa : List He.Fa) (fn : List He.DefD) (ts : List He.Tab) (tf : List He.Defn) (ex : Frag → Bool) (xs : List XD) : Hook where
  α := AlY
  obs := fun s => obsY P n fa fn ts tf ex xs s.heap.get?
  val := fun w => valY fn ts xs w
  says := fun w h => ∃ K : Frag, K.In h ∧ SaysY P fa fn ts tf ex xs w h K
  of := fun _ _ e => ⟨_, He.frT_in, saysY_of e⟩
  keeps := fun _ _ _ ⟨K, hK, c⟩ k => ⟨K, Frag.In.keeps hK k, ⟨⟨c.x.t, c.x.more, c.x.hd, c.x.out, fun p hp => k _ _ (c.x.empty p hp)⟩, c.own⟩⟩
theorem obsY_eq {P : Program} {n : Nat} {fa : List He.Fa} {fn : List He.DefD} {ts : List He.Tab} {tf : List He.Defn} {ex : Frag → Bool} {xs : List XD} {g : Addr → Option Obj} {s : Shared} (h : ∀ a, g a = s.heap.get? a) : obsY P n fa fn ts tf ex xs g = (hookY P n fa fn ts tf ex xs).obs s := by
  obtain rfl : g = s.heap.get? := funext h
  rfl
end Dn
namespace Dn
open PySem PySem.Spec PyProof.Rows L2
open PySem.W PySem.Calls

/-- what is asked of the text of an own exception's __init__ -/
structure XLit (P : Program) (d : XD) (sn tx : Str) (j : Nat) (p0 p1 p2 p3 p4 p5 : Pos) : Prop where
  hks : d.scope.names.lookup ("super" : Str) = some .globalImplicit
  hkc : d.scope.names.lookup ("__class__" : Str) = some .free
  hka : d.scope.names.lookup sn = some .local
  kind : d.scope.kind = .function
  co : d.scope.isCoroutine = false
  gen : d.scope.isGenerator = false
  noc : ∀ x ∈ d.scope.names, x.2 ≠ .cell
  hp : ∃ ar, (d.params.posonlyargs ++ d.params.args).head? = some ar ∧ ar.arg = sn
  top : (P.main.scope.names.lookup ("super" : Str)).isSome = false
  hev : ∃ pl : Sem Bool, ∀ env : Env, PySem.eval (.Call (.Attribute (.Call (.Name "super" p0) [] [] p1) "__init__" p2) [.Constant (.str tx) j p3] [] p4) env = (do
      let v ← attributeBase (.Call (.Name "super" p0) [] [] p1) "__init__" env (PySem.eval (.Call (.Name "super" p0) [] [] p1) env)
      standAt p2.atName
      let (u, one) ← holding [v] (getMethod v "__init__" pl)
      callWith p4 u one (backTo p4 (starEach [.Constant (.str tx) j p3] env)) [])
section
variable {P : Program} {K : Frag} {d : XD}
theorem xall_1 {sn tx x f : Str} {j : Nat} {p0 p1 p2 p3 p4 p5 q1 q2 q3 q4 : Pos} (S : XSay P K d) (hf : d.fld = some f) (Y : XLit P d sn tx j p0 p1 p2 p3 p4 p5)
    (hb : d.body = [supStmt tx j p0 p1 p2 p3 p4 p5, .Assign [.Attribute (.Name sn q1) f q2] (.Name x q3) q4]) (hx : d.scope.names.lookup x = some .local) (hne : x ≠ sn) (hds : (sn == ("__debug__" : Str)) = false) (hdx : (x == ("__debug__" : Str)) = false)
    (hsw : ∀ env, swapsWith (.Name x q3) (some (.Attribute (.Name sn q1) f q2)) q4.line env = pure false)
    (hbind : ∀ (fd : FuncData) (s : Shared) (v u : Value), fd.params = d.params → fd.defaults = .none → BindsTo s fd ⟨[v, u], []⟩ [(sn, v), (x, u)]) : XAll P K (He.ga K d.x) (He.fAd K (d.x, some "__init__")) (some f) := by
  obtain ⟨fd, F, e1, e2, e3, e4⟩ := S.fn
  obtain ⟨b1, b2, b3⟩ := base_facts d.ov
  refine ⟨nB d.ov, nN d.ov, nI d.ov, nM d.ov, fd, sn, tx, j, p0, p1, p2, p3, p4, p5, b1, b2, b3, S.cls, F, ⟨?_, ?_, ?_, ?_, ?_, ?_, ?_, ?_, Y.top, Y.hev⟩, S.ty, x, q1, q2, q3, q4, e2.trans (by rw [hb]), by rw [e3]; exact hx, hne, hds, hdx, hsw, S.tk f hf, fun s v u => hbind fd s v u e1 e4⟩
  · rw [e3]; exact Y.hks
  · rw [e3]; exact Y.hkc
  · rw [e3]; exact Y.hka
  · rw [e3]; exact Y.kind
  · rw [e3]; exact Y.co
  · rw [e3]; exact Y.gen
  · rw [e3]; exact Y.noc
  · rw [e1]; exact Y.hp
end
end Dn
namespace Dn
open PySem PySem.Spec PyProof.Rows L2
open PySem.W PySem.Calls

/-! an own exception as a value -/
theorem xob_ok {P : Program} {w : World} {H : Hp} {h : Heap} {a C : Addr} {dd : Option Addr} {o : Obj} {vs : Array Value} (ho : h.get? a = some o) (hc : o.cls = .ref C) (hd : o.dict = dd) (hv : o.data = .fields vs) : ObjOk P w H h a (xob a C dd) :=
  ⟨⟨o, vs, ho, hc, hd, hv⟩, ⟨_, ho⟩, fun h1 h2 z k => by
    obtain ⟨o, vs, q, r⟩ := z
    exact ⟨o, vs, k _ q, r⟩⟩
section
variable {X : Cx} {C fI : Addr} {k : Nat} {x f : Str} {p pos : Pos} {e : Expr} {te : TE}
end
end Dn
namespace Dn
open PySem PySem.Spec PyProof.Rows L2
open PySem.W PySem.Calls

/-! e.f of an exception that stands -/
def tXo (K : Frag) (f : Str) (te : TE) : TE := fun σ H Q => te σ H fun x H1 => ∃ (a C dx : Addr) (fs : List (Str × V)) (v : V), x = .ref a ∧ H1 a = some (xob a C (some dx)) ∧ H1 dx = some (.xd fs) ∧ fs.lookup f = some v ∧ XfC K C ∧ findIn K (.ref C) f = some none ∧ Q v H1
theorem xob_at {P : Program} {w : World} {H : Hp} {h : Heap} {a C : Addr} {dd : Option Addr} (hok : HOk P w H h) (e : H a = some (xob a C dd)) : ∃ (o : Obj) (vs : Array Value), h.get? a = some o ∧ o.cls = .ref C ∧ o.dict = dd ∧ o.data = .fields vs := by
  have x : ObjOk P w H h a (.ext fun h => ∃ (o : Obj) (vs : Array Value), h.get? a = some o ∧ o.cls = .ref C ∧ o.dict = dd ∧ o.data = .fields vs) := hok a _ e
  exact x.1
theorem pe_xo {X : Cx} {e : Expr} {te : TE} {pos : Pos} {f : Str} (he : PE X e te) (hb : attributeBase e f X.env (PySem.eval e X.env) = PySem.eval e X.env := by rfl) : PE X (.Attribute e f pos) (tXo X.K f te) := ⟨fun pins s σ H Q I h => by
  refine attr_of hb (thn (he.run pins s σ H _ I h) fun u s1 hh => ?_)
  obtain ⟨x, H1, I1, rx, a, C, dx, fs, v, ex, eo, ed, l, T, hno, q⟩ := hh
  subst ex
  cases (show u = Value.ref a from rx)
  obtain ⟨o, vs, ho, hc, hd, hv⟩ := xob_at I1.hok eo
  have hx : ObjOk X.prog X.w H1 s1.heap dx (.xd fs) := I1.hok dx _ ed
  obtain ⟨mA, hns, hr⟩ := hx
  obtain ⟨od, hod, hl⟩ := lookIn_ns hns
  obtain ⟨u, hu, ru⟩ := RelO.some_of (v := v) (o := mA f) (by rw [← l]; exact hr f)
  have J : InstAt s1.heap a o C (some od) := ⟨ho, hc, by unfold notCls; rw [hv] <;> rfl, by rw [hd]; exact hod⟩
  exact HandSPX.exc_get I1.kIn J T.ga T.gg T.exC (findObj_own T.hdC hno rfl (by rw [hl, hu])) (handed_of ru) ⟨v, H1, I1.tok _, ru, q⟩⟩
end Dn
namespace Dn
open PySem PySem.Spec PyProof.Rows L2
open PySem.W PySem.Calls

/-! C(e), e.f as data -/
def dExc (c : Nat) (f : DE) : DE := fun ρ m => (f ρ m).bind fun d m1 => .ok (.exc c [d]) m1
section
variable {G : Cl} {E : XK} {te : TE} {fe : DE}
def dXf (c : Nat → Bool) (f : DE) : DE := fun ρ m => (f ρ m).bind fun d m1 => match d with
  | .exc k [x] => if c k = true then .ok x m1 else .bad
  | _ => .bad
theorem de_xf {f : Str} {c : Nat → Bool} (hc : ∀ k, c k = true → G.xf k = some f ∧ XfC G.K (G.xc k) ∧ findIn G.K (.ref (G.xc k)) f = some none) (h : De G E te fe) : De G E (tXo G.K f te) (dXf c fe) := ⟨fun {B M pm ρ m σ H} e Q p => by
  refine h.run e _ (Post.imp' (Post.bind (rel := Rep G B.ad M) (show Post G E B M H (Rep G B.ad M) ((fe ρ m).bind fun d m1 => match d with
    | .exc k [x] => if c k = true then .ok x m1 else .bad
    | _ => .bad) Q from p)) fun v H1 hq => ?_)
  obtain ⟨d, m1, g, r, p1⟩ := hq
  cases r with
  | exc1 hx hxd n nx q r' =>
    rename_i a dx k f' v' d'
    by_cases hk : c k = true
    · obtain ⟨h1, h2, h3⟩ := hc k hk
      rw [h1] at q
      cases q
      have p2 : Post G E B M H1 (Rep G B.ad M) (if c k = true then .ok d' m1 else .bad) Q := p1
      rw [if_pos hk] at p2
      exact ⟨a, G.xc k, dx, [(f, v')], v', rfl, hx, hxd, by simp [List.lookup], h2, h3, p2 _ _ ((e.go g).here) r'⟩
    · have p2 : Post G E B M H1 (Rep G B.ad M) (if c k = true then .ok d' m1 else .bad) Q := p1
      rw [if_neg hk] at p2
      exact p2.elim
  | _ => exact p1.elim⟩
end
end Dn
namespace Dn
open PySem PySem.Spec PyProof.Rows L2
open PySem.W PySem.Calls

/-! isinstance of an exception that stands -/
def rIsO (K : Frag) : List V → Hp → VK → Prop := fun xs H Q => ∃ (a C : Addr) (dd : Option Addr) (c : V) (u : Value) (b : Bool), xs = [.ref a, c] ∧ H a = some (xob a C dd) ∧ (∀ dx, dd = some dx → ∃ fs, H dx = some (.xd fs)) ∧ ClsV c u ∧ L2.ExcC K C ∧ kitOne K (.ref C) u = some b ∧ Q (.bl b) H
theorem call_isO {X : Cx} : CallR X (.builtin "isinstance") (rIsO X.K) := by
  intro pins s σ H xs us Q I r h
  obtain ⟨a, C, dd, c, u, b, rfl, ea, ed, k, T, e, q⟩ := h
  obtain ⟨u1, u2, rfl, r1, r2⟩ := vals2 r
  have e2 := k.eq r2
  subst e2
  cases (show u1 = Value.ref a from r1)
  obtain ⟨o, vs, ho, hc, hd, hv⟩ := xob_at I.hok ea
  obtain ⟨cd, hcd, _⟩ := any_some T.hd
  have J : ∃ od, InstAt s.heap a o C od := by
    cases dd with
    | none => exact ⟨none, ho, hc, by unfold notCls; rw [hv] <;> rfl, by rw [hd] <;> exact True.intro⟩
    | some dx =>
      obtain ⟨fs, hf⟩ := ed dx rfl
      have hx : ObjOk X.prog X.w H s.heap dx (.xd fs) := I.hok dx _ hf
      obtain ⟨mA, hns, _⟩ := hx
      obtain ⟨od, hod, _⟩ := lookIn_ns hns
      exact ⟨some od, ho, hc, by unfold notCls; rw [hv] <;> rfl, by rw [hd]; exact hod⟩
  obtain ⟨od, J⟩ := J
  exact kia_one (kitx_exc (od := od) (ox := o) (by rw [hcd]; rfl) T.hg T.hk T.hs T.ha T.hn T.ht T.hm) I.kIn J e (fun z => nomatch z) fun tk => ⟨.bl b, H, I.kept (t' := tk) fun _ _ z => z, rfl, q⟩
end Dn
namespace Dn
open PySem PySem.Spec PyProof.Rows L2
open PySem.W PySem.Calls

/-! C() as a value -/
section
variable {X : Cx} {C fI : Addr} {k : Nat} {x : Str} {p pos : Pos}
end
def dExc0 (c : Nat) : DE := fun _ m => .ok (.exc c []) m
end Dn
namespace Dn
open PySem PySem.Spec PyProof.Rows L2
open PySem.W PySem.Calls

/-- isinstance of an exception as data: ok tells the classes served, b the answers -/
def dIsO (ok b : Nat → Bool) (f : DE) : DE := fun ρ m => (f ρ m).bind fun d m1 => match d with
  | .exc c _ => if ok c = true then .ok (.bl (b c)) m1 else .bad
  | _ => .bad
end Dn
namespace Dn
open PySem PySem.Spec PyProof.Rows L2
open PySem.W PySem.Calls

/-- a landed exception's object is taken into what is told of the heap -/
theorem inv_xob {X : Cx} {pins : List (Addr × Obj)} {σ : L2.St} {H : Hp} {sI s' : Shared} {B : Heap} {a C : Addr} {d : Option Addr} {oe : Obj} {vs : Array Value} (J : Inv X pins σ H sI) (nb : ∀ b o, sI.heap.get? b = some o → b ∉ frs X.stack → B.get? b = some o)
    (st : B.StaysIn s'.heap) (up : sI.heap.UpToSlots s'.heap) (os : s'.os = sI.os) (ag : AllBare s'.gens) (hB : B.get? a = none) (hfr : a ∉ frs X.stack) (na : H a = none) (he : s'.heap.get? a = some oe) (hc : oe.cls = .ref C) (hd : oe.dict = d) (hv : oe.data = .fields vs) :
    Inv X pins σ (upd H a (xob a C d)) s' := by
  obtain ⟨G, g1, g2⟩ := restrict s'.heap fun b => decide (b ≠ a)
  have gk : ∀ b, b ≠ a → G.get? b = s'.heap.get? b := fun b hb => g1 b (decide_eq_true hb)
  have ge : G.get? a = none := g2 a (by simp)
  have nB : ∀ {b o}, B.get? b = some o → b ≠ a := fun {b o} z e => by
    rw [e, hB] at z
    cases z
  have nI : ∀ {b o}, sI.heap.get? b = some o → b ≠ a := fun {b o} z e => by
    have y := nb b o z (by rw [e]; exact hfr)
    exact nB y e
  have JG : Inv X pins σ H { s' with heap := G } := J.landed (s' := { s' with heap := G }) nb (fun b o e => (gk b (nB e)).trans (st b o e)) (fun b o e => by
    have z := up b o e
    rw [← gk b (nI e)] at z
    exact z) os ag
  have L := Inv.laidN (s := { s' with heap := G }) (t' := s'.toks) (a := a) (o := xob a C d) (h' := s'.heap) JG (fun b o z => by
    by_cases hba : b = a
    · rw [hba, ge] at z
      cases z
    · exact (gk b hba).symm.trans z) ge na (xob_ok he hc hd hv)
  exact L
end Dn
namespace Dn
open PySem PySem.Spec PyProof.Rows L2
open PySem.W PySem.Calls

/-- in flight still, behind what only adds objects -/
theorem fly_more {B h h' : Heap} {l : List Env} {e : Addr} {Z : Obj → Prop} (fl : PySem.HandSPX.FlyingZ B l e Z h) (k : ∀ b o, h.get? b = some o → h'.get? b = some o) : PySem.HandSPX.FlyingZ B l e Z h' := by
  obtain ⟨f1, f2, f3, oe, vs, T, oT, ts, he, hz, hd, h1, hn, hne, hT, hdT, h3⟩ := fl
  refine ⟨fun b o q => k b o (f1 b o q), f2, f3.of_keeps fun b o q _ => ⟨o, k b o q, rfl⟩, oe, vs, T, oT, ts, k _ _ he, hz, hd, h1, hn, hne, k _ _ hT, hdT, h3⟩
end Dn
namespace Dn
open PySem PySem.Spec PyProof.Rows L2
open PySem.W PySem.Calls

/-! try: .. except (A, B) as e: .. : the exception's object is told from the suite on -/
section
variable {X : Cx} {pins : List (Addr × Obj)} {σ : L2.St} {H : Hp} {s : Shared}
theorem suite_in (J : Inv X pins σ H s) (a : Addr) : Inv (X.suite a (X.pn ++ pins)) [] σ H s :=
  ⟨J.ok.suite _ _, J.os, J.bare, J.base, J.loc, J.cell, J.free, J.freeC, fun p hp => J.pin p (by rw [List.append_nil] at hp; exact hp), J.hok, J.len⟩
theorem suite_out {a : Addr} {pn' : List (Addr × Obj)} (J : Inv (X.suite a (X.pn ++ pins)) pn' σ H s) (ok : X.Ok) : Inv X pins σ H s :=
  ⟨ok, J.os, J.bare, J.base, J.loc, J.cell, J.free, J.freeC, fun p hp => J.pin p (List.mem_append_left _ hp), J.hok, J.len⟩
end
/-- what the clause 'except (C1, C2) as n' wishes: all that comes is of these classes -/
def wGot (K : Frag) (C1 C2 : Addr) (i : Nat) (ts : TS) (Z : Ends) : WX := fun cls d σ H =>
  ∃ C, cls = .ref C ∧ exmAny K (.ref C) [.ref C1, .ref C2] = some true ∧ ∀ a, H a = none → ts { nx := fun σ' H' => Z.nx (σ'.set i none) H', rt := Z.rt, bk := fun σ' H' => Z.bk (σ'.set i none) H', ct := fun σ' H' => Z.ct (σ'.set i none) H' } (σ.set i (some (.ref a))) (upd H a (xob a C d))
structure NameC (X : Cx) (x : Str) (C : Addr) : Prop where
  g : Gl X x
  m : X.mg x = some (.ref C)
  d : (x == ("__debug__" : Str)) = false
theorem ps_try_got {X : Cx} {x1 x2 n : Str} {C1 C2 : Addr} {i kk : Nat} {body suite : List Stmt} {b₀ : Stmt} {q1 q2 q3 pos pos' : Pos} {tb : WX → TS} {ts : TS} (hs : X.stack = X.env :: X.outer) (hf : X.env.frame = some X.env.locals) (hN : X.N.Nodup) (hi : X.N[i]? = some n)
    (hln : X.env.kindOf n = some .local) (n1 : NameC X x1 C1) (n2 : NameC X x2 C2)
    (hb : ∀ (W : WX) (pn : List (Addr × Obj)) (xe : Value → Shared → Prop), Takes (X.tr pn xe) W → PassesOwn (model X.prog X.w) X.A X.env xe → PSs (X.tr pn xe) body (tb W))
    (hsu : ∀ (a : Addr) (pn : List (Addr × Obj)), PSs (X.suite a pn) (b₀ :: suite) ts) :
    PS X (.Try body [.ExceptHandler (some (.Tuple [.Name x1 q1, .Name x2 q2] kk q3)) (some n) (b₀ :: suite) pos'] [] [] pos) (fun Z σ H => tb (wGot X.K C1 C2 i ts Z) Z σ H) := by
  refine ⟨fun pins s σ H Z I h => ?_⟩
  have ok := I.ok
  have frs0 : X.A.frames = some (X.env :: X.outer) := by rw [ok.frames, hs]
  have loc0 : Loc X.env.scope n := .inl hln
  refine wpAny_Try_except ?_
  refine wpAny_mono ((hb (wGot X.K C1 C2 i ts Z) (X.pn ++ pins) (fun v t1 => wpAny (model X.prog X.w) X.A (noteFrame v X.env) (fun _ t2 => wpAny (model X.prog X.w) X.A (setFlight v none) (fun _ t3 =>
    wpAny (model X.prog X.w) X.A (handleBy v X.env [.ExceptHandler (some (.Tuple [.Name x1 q1, .Name x2 q2] kk q3)) (some n) (b₀ :: suite) pos']) (SP X pins Z) X.xe t3) X.xe t2) X.xe t1) (fun u t xx => ?_) PassesOwn.looking).run [] s σ H Z (I.toTry _) h) (fun f t1 hsp => ?_) (fun _ _ z => z)
  · obtain ⟨a, B, sI, pins', σ', H', cls, d, rfl, J', nb, up, sky, na, os, ag, C, rfl, hm, q⟩ := xx
    have J : Inv X pins σ' H' sI := J'.ofTry ok
    have sky' : Sky B (X.env :: X.outer) a (Zc (.ref C) d) X.env.locals t.heap := by rw [← hs]; exact sky
    show wpAny (model X.prog X.w) X.A (noteFrame (.ref a) X.env) _ _ _
    refine Sky.land Zc.steady frs0 hf sky' fun h3 fl3 up3 => ?_
    have J3 : Inv X pins σ' H' { t with heap := h3 } := J.landed nb fl3.1 (up.trans up3) os ag
    obtain ⟨oe3, vs3, he3, hz3, hd3⟩ := fl3.there
    have offFr : ∀ {h : Heap} {o : Obj} {vs : Array Value}, h.FunFrames B (X.env :: X.outer) → h.get? a = some o → o.data = .fields vs → a ∉ frs (X.env :: X.outer) := fun {h o vs} ff e dd z => by
      obtain ⟨_, o', e', hnf⟩ := ff.mem z
      rw [e] at e'
      cases e'
      exact hnf _ dd
    have nfr := offFr fl3.2.2.1 he3 hd3
    have hBa : B.get? a = none := fl3.2.1
    refine wpAny_handleBy_cons (codeAny_handlers_test ?_) (by intro z; cases z)
    have S3 := suite_in J3 a
    refine wpAny_Tuple ?_
    refine wpAny_items_cons (ld_glob (X := X.suite a (X.pn ++ pins)) S3 n1.g n1.m ?_ n1.d)
    refine wpAny_items_cons (ld_glob (X := X.suite a (X.pn ++ pins)) S3 n2.g n2.m ?_ n2.d)
    refine wpAny_items_nil ⟨by size_fits, ?_⟩
    have kp : ∀ b o, h3.get? b = some o → (h3.push { cls := .type "tuple", data := .seq [Value.ref C1, .ref C2].toArray }).get? b = some o := fun _ _ z => Heap.get?_push_of_some _ z
    have LT : Looks (model X.prog X.w) h3 (typeOf (.ref a)) (.ref C) := fun A Q E s k q => wpAny_typeOf_ref (k _ _ he3) (by rw [hz3.1]; exact q)
    refine (exm_tup2 (J3.kIn.keeps kp) (LT.keeps kp) (Heap.get?_push_size h3 rfl) hm).here ?_
    have fl5 := fly_more fl3 kp
    generalize hh5 : h3.push { cls := .type "tuple", data := .seq [Value.ref C1, .ref C2].toArray } = h5 at kp fl5
    have up5 : h3.UpToSlots h5 := Heap.UpToSlots.of_keeps kp
    refine codeAny_handlers_suite_as ?_
    refine HandSPX.lands_againZ fl5 fun h4 fl4 up4 => ?_
    obtain ⟨oe4, vs4, he4, hz4, hd4⟩ := fl4.there
    have J4 := inv_xob (s' := { t with heap := h4 }) J nb fl4.1 (((up.trans up3).trans up5).trans up4) os ag hBa (by rw [hs]; exact nfr) na he4 hz4.1 hz4.2 hd4
    have S4 := suite_in J4 a
    refine store_ok (X := X.suite a (X.pn ++ pins)) (v := .ref a) S4 hN hi loc0 rfl (fun s5 S5 => ?_) (.inr hln)
    refine wpAny_mono ((hsu a (X.pn ++ pins)).run [] s5 _ _ _ S5 (q a na)) (fun f s6 hsp => ?_) (fun _ _ z => False.elim z)
    have fin : ∀ {σ6 : L2.St} {H6 : Hp} {Q : Shared → Prop}, Inv (X.suite a (X.pn ++ pins)) [] σ6 H6 s6 → (∀ s7, Inv X pins (σ6.set i none) H6 s7 → Q s7) →
        wpAny (model X.prog X.w) X.A (do bindName X.env n .none; unbindBehindTheSuite X.env n pos') (fun _ s7 => Q s7) X.xe s6 := fun {σ6 H6 Q} S6 hq => gone_ok (suite_out S6 ok) hN hi hln hq
    cases f with
    | next =>
      obtain ⟨σ6, H6, S6, q6⟩ := hsp
      exact fin S6 fun s7 J7 => ⟨_, _, J7, q6⟩
    | brk =>
      obtain ⟨σ6, H6, S6, q6⟩ := hsp
      exact fin S6 fun s7 J7 => ⟨_, _, J7, q6⟩
    | cont =>
      obtain ⟨σ6, H6, S6, q6⟩ := hsp
      exact fin S6 fun s7 J7 => ⟨_, _, J7, q6⟩
    | ret u =>
      obtain ⟨v6, σ6, H6, S6, r6, q6⟩ := hsp
      exact fin S6 fun s7 J7 => ⟨_, _, _, J7, r6, q6⟩
  · cases f with
    | next =>
      obtain ⟨σ', H', J', z⟩ := hsp
      exact wpAny_execs_nil ⟨σ', H', J'.ofTry ok, z⟩
    | brk =>
      obtain ⟨σ', H', J', z⟩ := hsp
      exact ⟨σ', H', J'.ofTry ok, z⟩
    | cont =>
      obtain ⟨σ', H', J', z⟩ := hsp
      exact ⟨σ', H', J'.ofTry ok, z⟩
    | ret u =>
      obtain ⟨v, σ', H', J', r, z⟩ := hsp
      exact ⟨v, σ', H', J'.ofTry ok, r, z⟩
end Dn
namespace Dn
open PySem PySem.Spec PyProof.Rows L2 LamX

/-! g(lambda: body), with room and no guards -/
theorem passM {CX0 : CXT} {P : Program} {w : World} {K : PySem.W.Frag} {mg : Str → Option Value} {base : Heap} {N : List Str} {q : Str} {sc0 : Scope} {f0 : Addr} {cd : Value} {A0 : Around} {out0 : List Env} {s0 : Shared} {H0 : Hp} {E0 : XK} {A : Around} {out : List Env} {s : Shared} {H : Hp} {E : XK} {sc : Scope} {f c : Addr} :
    Passes (L2.CX P w) (lamCx (cxOf CX0 P w K mg base N q sc0 f0 cd A0 out0 s0 H0 E0) A out s H E sc f c) E := passes_call (takes_of rfl rfl rfl rfl) fun _ _ _ _ h => h
section
variable {X : Cx} {pins : List (Addr × Obj)} {σ : L2.St} {H : Hp} {s : Shared}
/-- a(), in the def that got the lambda -/
theorem act_A {Ng : List Str} {qg : Str} {sg : Scope} {g f c' : Addr} {cdg pm ctv : Value} {params : Arguments} {body : Expr} {scope : Scope} {k i : Nat} {a : Str} {pn : List (Addr × Obj)} {xe : Value → Shared → Prop} {W : WX} {tb : XK → TE} {p1 p2 : Pos}
    (I : Inv X pins σ H s) (L : LamS X.env.scope scope) (hf : s.heap.get? f = some (PySem.W.kla_obj "<lambda>" (X.env.qual ++ "<lambda>") params body scope (cloFrom X.env.cells scope.names []) pm c' ctv)) (hfn : H f = none) (hfr : f ∉ frs X.stack)
    (bnd : bindArgs (PySem.W.kla_fn "<lambda>" (X.env.qual ++ "<lambda>") params body scope (cloFrom X.env.cells scope.names []) pm (.ref c') ctv) ⟨[], []⟩ = pure [])
    (tk : Takes ((cxOf C8.CX0 X.prog X.w X.K X.mg X.base Ng qg sg g cdg X.A X.stack s H C8.E0).tr pn xe) W) (rm : RG (k + 1) (X.A.deeper (envOfC qg sg s.heap.objs.size g cdg)))
    (bd : ∀ (A : Around) (out : List Env) (s : Shared) (H : Hp) (E : XK), RG k (A.deeper (lamEnv X scope s.heap.objs.size f c')) → PE (lamCx X A out s H E scope f c') body (tb E))
    (hN : Ng[i]? = some a) (hv : Vis sg a) (hd : (a == ("__debug__" : Str)) = false) (hcd : (a == ("__classdict__" : Str)) = false) :
    PE ((cxOf C8.CX0 X.prog X.w X.K X.mg X.base Ng qg sg g cdg X.A X.stack s H C8.E0).tr pn xe) (.Call (.Name a p1) [] [] p2)
      (fun σZ HZ Q => σZ[i]? = some (some (.ref f)) ∧ HZ c' = some (CodeO c' (X.env.qual ++ "<lambda>")) ∧ ∃ E : XK, (∀ cls d H', E cls d H' → W cls d σZ H') ∧ tb E σ HZ Q) := by
  refine ⟨fun pinsZ sZ σZ HZ Q IZ hZ => ?_⟩
  obtain ⟨hs, hc, E, hW, ht⟩ := hZ
  refine wpAny_Call_Name_kw (thn ((pe_var (pos := p1) (i := i) hN hv hd hcd).run pinsZ sZ σZ HZ (fun v H1 => v = .ref f ∧ H1 = HZ) IZ ⟨.ref f, hs, rfl, rfl⟩) fun u s1 ⟨v, H1, I1, r1, ev, eH⟩ => ?_)
  subst ev
  subst eH
  obtain rfl : u = Value.ref f := r1
  have at1 : s1.heap.get? f = some (PySem.W.kla_obj "<lambda>" (X.env.qual ++ "<lambda>") params body scope (cloFrom X.env.cells scope.names []) pm c' ctv) := I1.base.keep f _ hf hfn hfr List.not_mem_nil
  refine PySem.W.callWith_F0 ⟨_, _, _, _, at1⟩ ?_
  have un1 : Un (frs X.stack) [] H H1 s.heap s1.heap := I1.base
  obtain ⟨⟨oc, vs, t, hoc, hdc, hvc⟩, _, _⟩ := I1.hok c' _ hc
  have runs : codeAny (model X.prog X.w) (X.A.deeper (envOfC qg sg s.heap.objs.size g cdg)) (.call (.ref f) ⟨[], []⟩) (CR (L2.CX X.prog X.w) (envOfC qg sg s.heap.objs.size g cdg :: X.stack) X.prog X.w H1 s1 Q E) s1 := by
    refine PySem.W.kla_callFunE rm.rm.depth at1 rfl L.co L.gen rfl ⟨c', oc, vs, t, rfl, hoc, hdc, hvc⟩ ?_
    rw [bnd]
    refine wpAny_pure (wpAny_newFunctionEnv (fun y hy => (L.own y hy).2) (fun y hy => absurd hy List.not_mem_nil) (fun h₁ hns hsb => ⟨I1.nolimit.fresh _ hsb, ?_⟩) L.kind)
    show codeAny _ _ (.expr body (lamEnv X scope s1.heap.objs.size f c')) _ _
    have kp1 : ∀ b o, s1.heap.get? b = some o → h₁.get? b = some o := fun b o q => hsb.extBut b o (Nat.ne_of_lt (Heap.lt_size q)) (Heap.get?_push_of_some _ q)
    have J : Inv (lamCx X (X.A.deeper (envOfC qg sg s.heap.objs.size g cdg)) (envOfC qg sg s.heap.objs.size g cdg :: X.stack) s1 H1 E scope f c') [] σ H1 { s1 with heap := h₁, toks := s1.toks + ([] : List (Str × Value)).length } :=
      lam_start2 I L I1.env0 rm.rm.hd un1 hns kp1
    refine PySem.W.kla_codeExpr (wpAny_mono ((bd _ _ s1 H1 E (rm.down _)).run [] _ _ H1 Q J ht) (fun v s' hq => ?_) fun _ _ z => z)
    obtain ⟨w', H', J', rv, q⟩ := hq
    exact ⟨w', H', J'.os, J'.bare, J'.base, J'.hok, rv, q⟩
  refine wpAny_call (codeAny_mono runs fun r s' hq => ?_)
  match r, hq with
  | .error u, hq => exact tk u s' (XE.of_call I1 (fun cls d H' z => hW cls d H' z) hq)
  | .ok (.ret u), hq => exact I1.after hq
  | .ok .next, hq => exact hq.elim
  | .ok .brk, hq => exact hq.elim
  | .ok .cont, hq => exact hq.elim
end
/-- the def that calls what it got: TT is what it makes of the lambda's reading -/
def GivesA (X : Cx) (Ng : List Str) (x : Str) (sg : Scope) (g : Addr) (cdg : Value) (bg : List Stmt) (a : Str) (q : Str) (TT : (XK → Hp → VK → Prop) → Hp → VK → Prop) : Prop :=
  ∀ (f c' : Addr) (s : Shared) (H : Hp) (Q : VK) (tl : XK → Hp → VK → Prop),
    (∀ (W : WX) (pn : List (Addr × Obj)) (xe : Value → Shared → Prop) (p1 p2 : Pos), Takes ((cxOf C8.CX0 X.prog X.w X.K X.mg X.base Ng x sg g cdg X.A X.stack s H C8.E0).tr pn xe) W →
      PE ((cxOf C8.CX0 X.prog X.w X.K X.mg X.base Ng x sg g cdg X.A X.stack s H C8.E0).tr pn xe) (.Call (.Name a p1) [] [] p2) (fun σZ HZ Q => σZ[0]? = some (some (.ref f)) ∧ HZ c' = some (CodeO c' q) ∧ ∃ E : XK, (∀ cls d H', E cls d H' → W cls d σZ H') ∧ tl E HZ Q)) →
    H c' = some (CodeO c' q) → TT tl H Q →
    ∃ t, PSs (cxOf C8.CX0 X.prog X.w X.K X.mg X.base Ng x sg g cdg X.A X.stack s H C8.E0).nox bg t ∧ t { nx := fun _ H' => Q .non H', rt := Q } (L2.start Ng [.ref f]) H
/-- the maker's code object, its table -/
structure TabO (X : Cx) (T : List (Addr × Str)) (c P : Addr) : Prop where
  tb : TabB X.base X.mg c P
  cd : X.env.code = .ref c
  mem : (P, X.env.qual ++ "<lambda>") ∈ T
  one : ∀ p ∈ T, p.1 = P → p.2 = X.env.qual ++ "<lambda>"
section
variable {X : Cx}
/-- g(lambda: body) -/
theorem pe_lamA {T : List (Addr × Str)} {TT : (XK → Hp → VK → Prop) → Hp → VK → Prop} {x a : Str} {g c P : Addr} {k : Nat} {sd : Stmt} {Ng : List Str}
    {params : Arguments} {body : Expr} {scope : Scope} {t : XK → TE} {p lpos pos : Pos} (hg : Gl X x) (hm : X.mg x = some (.ref g)) (F : ∃ fd, Fun X.K x x sd g fd ∧ L2.Binds X.K fd [a] []) (Sg : FnScope Ng [a] (defScope sd)) (hNg : Ng[0]? = some a) (hva : Vis (defScope sd) a)
    (hG : ∀ cdv : Value, GivesA X Ng x (defScope sd) g cdv (defBody sd) a (X.env.qual ++ "<lambda>") TT)
    (TO : TabO X T c P) (hr : RG (k + 2) X.A) (L : LamS X.env.scope scope) (hdef : defaultsOf params X.env = ([], []))
    (hbind : ∀ (q : Str) (cl : List (Str × Addr)) (pm cv ctv : Value), bindArgs (PySem.W.kla_fn "<lambda>" q params body scope cl pm cv ctv) ⟨[], []⟩ = pure [])
    (hbody : ∀ (A : Around) (out : List Env) (s : Shared) (H : Hp) (E : XK) (f c' : Addr), RG k (A.deeper (lamEnv X scope s.heap.objs.size f c')) → PE (lamCx X A out s H E scope f c') body (t E))
    (hdb : (x == ("__debug__" : Str)) = false := by decide) (hd : (a == ("__debug__" : Str)) = false := by decide) (hcd : (a == ("__classdict__" : Str)) = false := by decide) :
    PE X (.Call (.Name x p) [.Lambda params body scope lpos] [] pos) (tLam T TT t) := by
  refine ⟨fun pins s σ H Q I h => ?_⟩
  obtain ⟨hT, h⟩ := h
  obtain ⟨fd, F, hb⟩ := F
  obtain ⟨oc, od, kV, doc, pm, an, cdv, ct, osl, hfd, lk, hcg⟩ := F.ex
  subst hfd
  refine wpAny_Call_Name_kw (ld_glob I hg hm ?_ hdb)
  refine PySem.W.callWith_K (h₀ := X.base) I.ok.mod.kin F.kp ?_ (by rfl) (by rfl)
  show wpAny _ _ (spliced ((false, eval (.Lambda params body scope lpos) X.env) :: backTo pos (starEach [] X.env))) _ _ s
  refine Calls.spliced_cons (lam_make2 I TO.tb TO.cd TO.mem TO.one hT hdef (L.has I.ok) fun f c' pm' ctv H1 s' I1 eN T1 hf hfn hfr hco => ?_)
  refine Calls.spliced_nil ⟨I1.kIn, ?_⟩
  have res : codeAny (model X.prog X.w) X.A (.call (.ref g) ⟨[.ref f], []⟩) (CR C8.CX0 X.stack X.prog X.w H1 s' Q C8.E0) s' := by
    refine run_ofS (N := Ng) (ps := [a]) (us := [.ref f]) (vs := [.ref f]) (k := k + 1) lk hcg Sg hr.rm I1.env0 (hb s' [.ref f] I1.kIn rfl) (.cons rfl .nil) rfl fun _ => ?_
    obtain ⟨t', ht', hq'⟩ := hG cdv f c' s' H1 Q (fun E H' Q' => t E σ H' Q') (fun W pn xe p1 p2 tk => act_A (i := 0) (tb := t) I1 L hf hfn hfr (hbind _ _ _ _ _) tk (hr.down _) (fun A out s H E hr2 => hbody A out s H E f c' hr2) hNg hva hd hcd) hco (h H1 eN T1)
    exact ⟨t', ht'.nox, hq'⟩
  refine wpAny_call (codeAny_mono res fun r s2 hq => ?_)
  match r, hq with
  | .error u, hq => exact (show False from hq).elim
  | .ok (.ret u), hq => exact I1.after hq
  | .ok .next, hq => exact hq.elim
  | .ok .brk, hq => exact hq.elim
  | .ok .cont, hq => exact hq.elim
end
end Dn
namespace Dn
open PySem PySem.Spec PyProof.Rows L2 LamX

/-! a def that calls what it got within a try, its rest as data -/
def wrD (b : Bool) (d : D) : D := if b = true then .lst [d] else d
def iniD (b : Bool) : D := if b = true then .lst [] else .non
def outD : SR → R D
  | .nx _ m => .ok .non m
  | .rt d m => .ok d m
  | .exc c l m => .exc c l m
  | _ => .bad
/-- the slots: what is called, told, error, e, the rest's -/
def heardD (ok : Nat → Bool) (b : Bool) (n : Nat) (f : DS) (r : R D) : R D := match r with
  | .bad => .bad
  | .ok d m => outD (f (none :: some (.v (wrD b d)) :: some (.v .non) :: none :: List.replicate n none) m)
  | .exc c l m => if ok c = true then outD (f (none :: some (.v (iniD b)) :: some (.v (.exc c l)) :: none :: List.replicate n none) m) else .bad
def TTh (G : Cl) (F : R D → R D) : (XK → Hp → VK → Prop) → Hp → VK → Prop := fun tl H Q =>
  ∃ (M : AP) (m : Mo) (r : R D), Start G M m H ∧ (∀ (E : XK) (H' : Hp) (Q' : VK), Go G (bxOf G H M m) M m H H' → Post G E (bxOf G H M m) M H' (Rep G m.ad M) r Q' → tl E H' Q') ∧ Post G C8.E0 (bxOf G H M m) M H (Rep G m.ad M) (F r) Q
section
variable {G : Cl} {E : XK}
theorem outD_post {B : Bx} {M : AP} {H : Hp} {r : SR} {Q : VK} (hB : ∀ b, M b → MB B b) (hH : B.H0 = H) (p : Post G E B M H (Rep G B.ad M) (outD r) Q) : PostS G E B M H r { nx := fun _ H' => Q .non H', rt := Q } := by
  cases r with
  | bad => exact p
  | nx ρ m => exact fun M' pm σ H' e s => p _ _ ⟨by rw [← hH]; exact e.ext, e.ea, e.eh, e.mr.less fun b hb => e.mb b (hB b hb), e.tb⟩ .non
  | rt d m => exact fun v H' g rv => p v H' (by rw [← hH]; exact g.less hB) (rv.less hB)
  | bk ρ m => exact p.elim
  | ct ρ m => exact p.elim
  | exc c l m => exact fun cls dd H' g hx => p cls dd H' (by rw [← hH]; exact g.less hB) (hx.less hB)
/-- what the try's body makes of the call -/
def wrT (b : Bool) (tc : TE) : TE := if b = true then tLst (tCons tc tNil) else tc
/-- behind 'told, error = .., None': the try, and the rest -/
def tGot (f c' : Addr) (q : Str) (tl : XK → Hp → VK → Prop) (K : PySem.W.Frag) (C1 C2 : Addr) (b : Bool) : TS := fun Z σ H =>
  (fun (W : WX) (Z : Ends) (σ : L2.St) (H : Hp) => tAsg (wrT b fun σ H Q => σ[0]? = some (some (.ref f)) ∧ H c' = some (CodeO c' q) ∧ ∃ E : XK, (∀ cls d H', E cls d H' → W cls d σ H') ∧ tl E H Q) (gName 1) Z σ H)
    (wGot K C1 C2 3 (tAsg (tVar 3) (gName 2)) Z) Z σ H
theorem got_run {G : Cl} {f c' C1 C2 : Addr} {q : Str} {tl : XK → Hp → VK → Prop} {b : Bool} {n : Nat} {ok : Nat → Bool} {fr : DS} {tr : TS} {M : AP} {m : Mo} {r : R D} {H H1 : Hp} {Q : VK} {M1 : AP} {pm : Nat → Addr} {u1 u2 : Option V}
    (hok : ∀ c, ok c = true → PySem.W.exmAny G.K (.ref (G.xc c)) [.ref C1, .ref C2] = some true) (hrest : Ds G C8.E0 tr fr) (st : Start G M m H)
    (htl : ∀ (E : XK) (H' : Hp) (Q' : VK), Go G (bxOf G H M m) M m H H' → Post G E (bxOf G H M m) M H' (Rep G m.ad M) r Q' → tl E H' Q')
    (hco : H c' = some (CodeO c' q)) (hp : Post G C8.E0 (bxOf G H M m) M H (Rep G m.ad M) (heardD ok b n fr r) Q)
    (e : EnvR G (bxOf G H M m) M1 pm (none :: some (.v (iniD b)) :: some (.v .non) :: none :: List.replicate n none) m (some (V.ref f) :: u1 :: u2 :: none :: List.replicate n none) H1) (hc1 : H1 c' = some (CodeO c' q)) :
    tSeq (tGot f c' q tl G.K C1 C2 b) tr { nx := fun _ H' => Q .non H', rt := Q } (some (V.ref f) :: u1 :: u2 :: none :: List.replicate n none) H1 := by
  have hB : ∀ b, M b → MB (bxOf G H M m) b := fun b hb => bx_back hb
  have eM : EnvR G (bxOf G H M m) M pm (none :: some (.v (iniD b)) :: some (.v .non) :: none :: List.replicate n none) m (some (V.ref f) :: u1 :: u2 :: none :: List.replicate n none) H1 := e.cut (fun b hb => by
    rcases bx_back (m := m) (G := G) (H := H) hb with z | z
    · exact e.em b (.inl z)
    · exact e.em b (.inr (.inl z))) fun b hb => by
    rcases hb with z | z | ⟨i, ⟨s, h1, h2⟩, _⟩
    · exact st.aM b z
    · exact z.1
    · match i, h1 with
      | 1, h1 => cases h1; cases h2
      | 2, h1 => cases h1; cases h2
      | i + 4, h1 =>
        have h1' : (List.replicate n (none : Option Sv))[i]? = some (some s) := h1
        rw [List.getElem?_replicate] at h1'
        split at h1' <;> cases h1'
  clear e
  have g1 : Go G (bxOf G H M m) M m H H1 := ⟨eM.ext, eM.ea, eM.eh, eM.mr, eM.tb⟩
  -- the rest, from any frame that fits
  have rest : ∀ {m2 : Mo} {ρ : Ro} {σ2 : L2.St} {H2 : Hp}, EnvR G (bxOf G H M m) M pm ρ m2 σ2 H2 → Post G C8.E0 (bxOf G H M m) M H (Rep G m.ad M) (outD (fr ρ m2)) Q → tr { nx := fun _ H' => Q .non H', rt := Q } σ2 H2 := fun {m2 ρ σ2 H2} e2 p2 =>
    hrest.run e2 _ ((outD_post hB rfl p2).later ⟨e2.ext.imp fun b hb => st.aM b hb, fun b hb => .inl hb⟩)
  have all : ∀ Q' : VK, (∀ d m', r = .ok d m' → ∀ v H2, Go G (bxOf G H M m) M m' H1 H2 → Rep G m.ad M H2 v d → Q' v H2) →
      Post G (fun cls d H' => wGot G.K C1 C2 3 (tAsg (tVar 3) (gName 2)) { nx := tr { nx := fun _ H' => Q .non H', rt := Q }, rt := Q } cls d (some (V.ref f) :: u1 :: u2 :: none :: List.replicate n none) H') (bxOf G H M m) M H1 (Rep G m.ad M) r Q' := fun Q' hQ => by
    cases r with
    | bad => exact hp
    | ok d m' => exact fun v H2 g2 rv => hQ d m' rfl v H2 g2 rv
    | exc c l m' =>
      have hp' : Post G C8.E0 (bxOf G H M m) M H (Rep G m.ad M) (if ok c = true then outD (fr (none :: some (.v (iniD b)) :: some (.v (.exc c l)) :: none :: List.replicate n none) m') else .bad) Q := hp
      by_cases hc : ok c = true
      · rw [if_pos hc] at hp'
        intro cls dd H2 g2 hx
        have e2 := eM.go g2
        obtain ⟨hcls, hx⟩ := hx
        refine ⟨G.xc c, hcls, hok c hc, fun a ha => ?_⟩
        have x3 : ExN H2 (upd H2 a (xob a (G.xc c) dd)) := ExN.new ha
        have e3 := e2.go (e2.same x3)
        have na : ¬ M a := fun z => (e2.hl _ z).ne ha
        have rx : Rep G m.ad M (upd H2 a (xob a (G.xc c) dd)) (.ref a) (.exc c l) := by
          cases hf : G.xf c with
          | none =>
            rw [hf] at hx
            cases l with
            | cons _ _ => exact hx.elim
            | nil =>
              cases (show dd = none from hx)
              exact .exc0 upd_same na hf
          | some fl =>
            rw [hf] at hx
            match l, hx with
            | [d], hx =>
              obtain ⟨dx, v, rfl, hd, nd, rv⟩ := hx
              exact .exc1 (dx := dx) (f := fl) (v := v) upd_same (by rw [upd_ne (ne_of_none hd ha)]; exact hd) na nd hf (rv.ext x3.k fun _ z => z.elim)
        have e4 := e3.setv (i := 2) rx
        refine ⟨.ref a, rfl, ?_⟩
        refine rest (e4.keepσ rfl fun i s hi => ?_) hp'
        match i, hi with
        | 0, _ => rfl
        | 1, _ => rfl
        | 2, _ => rfl
        | i + 4, _ => rfl
      · rw [if_neg hc] at hp'
        exact hp'.elim
  cases b with
  | true =>
    refine ⟨rfl, hc1, _, fun _ _ _ z => z, htl _ _ _ g1 (all _ fun d m' hr v H2 g2 rv => ?_)⟩
    subst hr
    refine ⟨sz_ok (show 1 ≤ 10000000 by decide), fun p hpn => ?_⟩
    have e2 := eM.go g2
    have e3 := e2.go (e2.same (ExN.new (o := .lst [v]) hpn))
    have rl : Rep G m.ad M (upd H2 p (.lst [v])) (.ref p) (.lst [d]) := Reps.newL e2.hm hpn (.one rv)
    exact rest (e3.setv (i := 1) rl) hp
  | false =>
    refine ⟨rfl, hc1, _, fun _ _ _ z => z, htl _ _ _ g1 (all _ fun d m' hr v H2 g2 rv => ?_)⟩
    subst hr
    exact rest ((eM.go g2).setv (i := 1) rv) hp
end
end Dn
namespace Dn
open PySem PySem.Spec PyProof.Rows L2 LamX

/-! the def that hears a call -/
def iniT (b : Bool) : TE := if b = true then tLst tNil else tC .non
section
variable {X : Cx} {G : Cl} {Ng : List Str} {x a q : Str} {sg : Scope} {g C1 C2 : Addr} {cdg : Value} {bg : List Stmt} {b : Bool} {n : Nat} {ok : Nat → Bool} {trest : TS} {frest : DS}
end
end Dn
namespace Dn
open PySem PySem.Spec PyProof.Rows L2 LamX

/-! g(lambda: body) as data -/
def noX (r : R D) : R D := match r with
  | .exc _ _ _ => .bad
  | r => r
def dHeard (F : R D → R D) (f : DE) : DE := fun ρ m => noX (F (f ρ m))
theorem noX_post {G : Cl} {E : XK} {B : Bx} {M : AP} {H : Hp} {r : R D} {Q : VK} (p : Post G E B M H (Rep G B.ad M) (noX r) Q) : Post G C8.E0 B M H (Rep G B.ad M) r Q := by
  cases r with
  | bad => exact p
  | ok d m => exact p
  | exc c l m => exact p.elim
theorem de_heard {G : Cl} {E : XK} {t : XK → TE} {f : DE} {F : R D → R D} (ht : ∀ E' : XK, De G E' (t E') f) : De G E (tLam G.T (TTh G F) t) (dHeard F f) := ⟨fun {B M pm ρ m σ H} e Q p => by
  refine ⟨by rw [← e.tt]; exact e.tb, fun H1 eN T1 => ?_⟩
  have x1 : Ext Non H H1 := fun b o _ n h => eN b o h n
  have g1 : Go G B M m H H1 := ⟨x1.imp fun _ z => z.elim, e.ea, e.eh, e.mr.ext x1, by rw [e.tt]; exact T1⟩
  have e1 := e.go g1
  have p1 : Post G C8.E0 B M H1 (Rep G B.ad M) (F (f ρ m)) Q := (noX_post p).later g1
  refine ⟨M, m, f ρ m, e1.start, fun E' H' Q' g p' => ?_, p1.down e1⟩
  have g' : Go G B M m H1 H' := Go.up e1 g
  have e2 := e1.go g'
  refine (ht E').run e2 Q' ?_
  cases hr : f ρ m with
  | bad => rw [hr] at p'; exact p'.elim
  | ok d m' =>
    rw [hr] at p'
    exact fun v H'' g2 rv => p' v H'' ⟨g2.x.imp fun b hb => by show m.has b; rw [e.eh]; exact hb, g2.ea.trans e.ea.symm, g2.eh.trans e.eh.symm, g2.mr, by show LamX.Tabs G.T _; rw [← e.tt]; exact g2.tb⟩ (by rw [e.ea]; exact rv)
  | exc c l m' =>
    rw [hr] at p'
    exact fun cls dd H'' g2 hx => p' cls dd H'' ⟨g2.x.imp fun b hb => by show m.has b; rw [e.eh]; exact hb, g2.ea.trans e.ea.symm, g2.eh.trans e.eh.symm, g2.mr, by show LamX.Tabs G.T _; rw [← e.tt]; exact g2.tb⟩ (by show XRep G m.ad M _ _ _ _ _; rw [e.ea]; exact hx)⟩
/-! a def's own code object -/
def CodeAt (K : PySem.W.Frag) (f : Addr) (cdv : Value) : Prop := ∃ oc od osl fd c, K.lookup f = some ⟨oc, od, .func fd, osl⟩ ∧ fd.code = cdv ∧ cdv = .ref c
theorem codeIn_ref {K : PySem.W.Frag} {cdv : Value} {q : Str} (h : PySem.W.codeIn K cdv q = true) : ∃ c, cdv = .ref c := by
  unfold PySem.W.codeIn at h
  split at h
  · exact ⟨_, rfl⟩
  · cases h
theorem fnA_ofC {P : Program} {w : World} {K : PySem.W.Frag} {mg : Str → Option Value} {base : Heap} {k : Nat} {f : Addr} {sp : Sp} {x qual : Str} {st : Stmt} {fd : FuncData} {N ps : List Str} (F : Fun K x qual st f fd) (S : FnScope N ps (defScope st)) (hbi : Binds K fd ps [])
    (hbody : ∀ (cdv : Value) (A : Around) (out : List Env) (s : Shared) (H : Hp) (vs : List V) (Q : VK) (E : XK), CodeAt K f cdv → RG k (A.deeper (envOfC qual (defScope st) s.heap.objs.size f cdv)) → sp vs H Q E → vs.length = ps.length ∧
      ∃ t, PSs (cxOf (L2.CX P w) P w K mg base N qual (defScope st) f cdv A out s H E) (defBody st) t ∧ t { nx := fun _ H' => Q .non H', rt := Q } (start N vs) H) :
    FnA P w K mg base (k + 1) f sp := by
  intro A out s H zs vs Q E hr env hv hsp
  obtain ⟨oc, od, kV, doc, pm, an, cdv, ct, osl, hfd, lk, hcd⟩ := F.ex
  have hdown := hr.down (envOfC qual (defScope st) s.heap.objs.size f cdv)
  obtain ⟨hlen, t, ht, hq⟩ := hbody cdv A out s H vs Q E (let ⟨c, ec⟩ := codeIn_ref hcd; ⟨oc, od, osl, fd, c, lk, by rw [hfd], ec⟩) hdown hsp
  have hzl : zs.length = ps.length := hv.length.symm.trans hlen
  have KX : K.In s.heap := env.mod.kin.keeps fun b o q => (env.bs b o q).1
  have lim : s.heap.NoLimit := env.mod.nolimit.keeps fun b o q => (env.bs b o q).1
  have hk1 : ∀ y ∈ ps.zip zs, (defScope st).names.lookup y.1 = some .local ∨ ((defScope st).names.lookup y.1 = some .cell ∧ ((cellsFrom (s.heap.objs.size + 1) (defScope st).names []).lookup y.1).isSome = true) := by
    rintro ⟨n, v⟩ hy
    exact (S.par n (List.of_mem_zip hy).1).imp id fun q => ⟨q, PySem.W.cellsFrom_some _ _ _ (.inl q)⟩
  have hbb := hbi s zs KX (by simpa using hzl)
  rw [List.append_nil] at hbb
  subst hfd
  refine codeAny_call_function hr.rm.depth (KX _ _ lk) rfl S.co S.gen rfl (PySem.W.codeRec_of KX hcd) (hbb _ _ _ _ ?_)
  refine wpAny_newFunctionEnv_cells S.kind hk1 fun en hen s1 cl => ?_
  subst hen
  refine ⟨lim.keeps cl.toInCall.keep, codeAny_func ?_⟩
  have I := inv_start (CX := L2.CX P w) (P := P) (E := E) S hr.rm.hd env hlen hv cl
  refine wpAny_mono (ht.run [] s1 (start N vs) H _ I hq) (fun fl s' hs => ?_) fun e s' hs => hs
  cases fl with
  | ret u =>
    obtain ⟨v, σ', H', J, rv, q⟩ := hs
    exact ⟨v, H', J.os, J.bare, J.base, J.hok, rv, q⟩
  | next =>
    obtain ⟨σ', H', J, q⟩ := hs
    exact ⟨.non, H', J.os, J.bare, J.base, J.hok, rfl, q⟩
  | brk => exact hs.elim fun _ z => z.elim fun _ z => z.2.elim
  | cont => exact hs.elim fun _ z => z.elim fun _ z => z.2.elim
theorem tabO_of {X : Cx} {p : He.Defn} {T : List (Addr × Str)} (hc : CodeAt X.K (He.fAd X.K p) X.env.code) (hd : PySem.W.codeHdIn X.K (He.cT X.K p).1 (He.cT X.K p).2 = true) (tb : TabB X.base X.mg (He.cT X.K p).1 (He.cT X.K p).2)
    (mem : ((He.cT X.K p).2, X.env.qual ++ "<lambda>") ∈ T) (one : ∀ y ∈ T, y.1 = (He.cT X.K p).2 → y.2 = X.env.qual ++ "<lambda>") : TabO X T (He.cT X.K p).1 (He.cT X.K p).2 := by
  refine ⟨tb, ?_, mem, one⟩
  obtain ⟨oc, od, osl, fd, c, lk, e, ec⟩ := hc
  show X.env.code = .ref (He.codeOf X.K p)
  unfold He.codeOf
  rw [lk]
  rw [ec] at e ⊢
  simp [e]
end Dn
namespace Dn
open PySem PySem.Spec PyProof.Rows L2
open PySem.W PySem.Calls Builtin

/-! x == y, x != y, x of a class with its own __eq__ -/
section
variable {prog : Program} {w : World} {A : Around} {E : Value → Shared → Prop} {s : Shared} {K : Frag} {x C f : Addr} {ox : Obj} {od : Option Obj} {b tb : Value}
end
end Dn
namespace Dn
open PySem PySem.Spec PyProof.Rows L2
open PySem.W PySem.Calls Builtin

/-! == and != of an instance with slots and anything -/
inductive TyA (K : Frag) (H : Hp) : V → Value → Prop where
  | b {x : V} {t : Value} (h : TyX K H x t) : TyA K H x t
  | s {a C dx : Addr} {vs : List (Option V)} (h : SlX.Slt H a C dx vs) : TyA K H (.ref a) (.ref C)
structure EqC (K : Frag) (C g : Addr) : Prop where
  eq : findIn K (.ref C) "__eq__" = some (some (.ref g))
  fn : isFn K (.ref g) = true
  ne : findIn K (.ref C) "__ne__" = some (some (.builtin "object.__ne__"))
  ob : subIn K (.ref C) (.type "object") = some true
def eqCB (K : Frag) (C g : Addr) : Bool := He.eqO (findIn K (.ref C) "__eq__") (some (some (.ref g))) && (isFn K (.ref g) && (He.eqO (findIn K (.ref C) "__ne__") (some (some (.builtin "object.__ne__"))) && decide (subIn K (.ref C) (.type "object") = some true)))
def rOwnX (neg : Bool) (K : Frag) (C : Addr) (sp : Sp) (E : XK) : R2 := fun x y H Q => ∃ a dx vs t, x = .ref a ∧ SlX.Slt H a C dx vs ∧ TyA K H y t ∧ notFirst K C t = true ∧ sp [x, y] H (fun z H' => ∃ k, z = .bl k ∧ Q (.bl (neg ^^ k)) H') E
section
variable {X : Cx} {k : Nat} {C g : Addr} {sp : Sp} {E : XK}
end
/-! as data -/
def rEqA (K : Frag) (C : Addr) (sp : Sp) (E : XK) : R2 := fun x y H Q => rEqU K x y H Q ∨ rOwnX false K C sp E x y H Q
def rNeA (K : Frag) (C : Addr) (sp : Sp) (E : XK) : R2 := fun x y H Q => rNeU K x y H Q ∨ rOwnX true K C sp E x y H Q
/-- the class of an instance, 0 else -/
def D.ok2 (okc : Nat → Bool) : D → Bool
  | .obj c _ => okc c
  | d => (tyD d).isSome
def dEqA (neg : Bool) (c : Nat) (okc : Nat → Bool) (F : DF) (fa fb : DE) : DE := fun ρ m => (fa ρ m).bind fun x m1 => (fb ρ m1).bind fun y m2 => match x with
  | .obj c' d => if c' = c ∧ y.ok2 okc = true then (F [.obj c' d, y] m2).bind fun z m3 => match z with
      | .bl k => .ok (.bl (neg ^^ k)) m3
      | _ => .bad
    else .bad
  | x => R.of (if neg = true then neD x y else eqD x y) m2
/-- what is asked of the fragment -/
structure NfC (G : Cl) (c : Nat) (okc : Nat → Bool) : Prop where
  t : ∀ n ∈ tyNames, notFirst G.K (G.cl c) (.type n) = true
  o : ∀ c', okc c' = true → notFirst G.K (G.cl c) (.ref (G.cl c')) = true
/-! isinstance, own classes and others -/
def rIsA (K : Frag) (u : Value) : List V → Hp → VK → Prop := fun xs H Q => rIsi K xs H Q ∨ SlX.rIsiSl K u xs H Q ∨ rIsO K xs H Q
theorem call_isA {X : Cx} (u : Value) : CallR X (.builtin "isinstance") (rIsA X.K u) := CallR.or call_isi (CallR.or (SlX.call_isiSl u) call_isO)
/-- the answers: of built-in types, of own instances, of exceptions -/
structure IsT where
  t : String → Option Bool
  o : Nat → Option Bool
  x : Nat → Option Bool
def IsT.of (I : IsT) : D → Option Bool
  | .obj c _ => I.o c
  | .exc c _ => I.x c
  | d => (tyD d).bind I.t
structure IsOk (G : Cl) (u : Value) (I : IsT) : Prop where
  t : ∀ n ∈ tyNames, ∀ b, I.t n = some b → kitOne G.K (.type n) u = some b
  o : ∀ c b, I.o c = some b → SlX.SCls G.K (G.cl c) ∧ SlX.SIsi G.K (G.cl c) ∧ kitOne G.K (.ref (G.cl c)) u = some b
  x : ∀ c b, I.x c = some b → L2.ExcC G.K (G.xc c) ∧ kitOne G.K (.ref (G.xc c)) u = some b
def dIsA (I : IsT) (f : DE) : DE := fun ρ m => (f ρ m).bind fun d m1 => match I.of d with
  | some b => .ok (.bl b) m1
  | none => .bad
theorem de_isA {G : Cl} {E : XK} {t : TE} {f : DE} {cv : V} {u : Value} {I : IsT} (k : ClsV cv u) (hI : IsOk G u I) (h : Dq G E t f) : De G E (tCB (rIsA G.K u) (tCons t (tCons (tC cv) tNil))) (dIsA I f) := ⟨fun {B M pm ρ m σ H} e Q p => by
  refine h.run e _ ((Post.bind p).imp' fun x H1 ⟨d1, m1, g1, r1, p1⟩ => ?_)
  have e1 := e.go g1
  split at p1
  · rename_i b hb
    have gen : ∀ n, tyD d1 = some n → I.t n = some b → rIsA G.K u [x, cv] H1 Q := fun n hn hb => .inl ⟨x, cv, .type n, u, b, rfl, k, ty_rep r1 hn, hI.t n (ty_names hn) b hb, p1 _ _ e1.here (.bl _)⟩
    cases d1 with
    | obj c d =>
      obtain ⟨h1, h2, h3⟩ := hI.o c b hb
      cases r1 with
      | r r1 =>
        obtain ⟨a, dx, v', rfl, hs, _, _⟩ := r1.slt
        refine .inr (.inl ⟨a, G.cl c, dx, _, cv, b, rfl, ?_, fun w => k.eq, hs, h1, h2, h3, p1 _ _ e1.here (.bl _)⟩)
        cases k with
        | ty n => rfl
        | own C => rfl
    | exc c l =>
      obtain ⟨h1, h2⟩ := hI.x c b hb
      cases r1 with
      | r r1 =>
        cases r1 with
        | exc0 hx n q => exact .inr (.inr ⟨_, G.xc c, none, cv, u, b, rfl, hx, (fun dx z => nomatch z), k, h1, h2, p1 _ _ e1.here (.bl _)⟩)
        | exc1 hx hxd n nx q r' => exact .inr (.inr ⟨_, G.xc c, _, cv, u, b, rfl, hx, (fun dx' z => by cases z; exact ⟨_, hxd⟩), k, h1, h2, p1 _ _ e1.here (.bl _)⟩)
    | non => exact gen _ rfl hb
    | bl y => exact gen _ rfl hb
    | int y => exact gen _ rfl hb
    | str y => exact gen _ rfl hb
    | tup y => exact gen _ rfl hb
    | lst y => exact gen _ rfl hb
    | dct y => exact gen _ rfl hb
    | drw => cases hb
    | scr y => cases hb
    | dcn y => cases hb
    | cel y => cases hb
    | lcl y z => cases hb
  · exact p1.elim⟩
end Dn
namespace Dn
open PySem PySem.Spec PyProof.Rows L2

/-! frames told otherwise -/
section
variable {G : Cl} {B : Bx} {M : AP} {pm : Nat → Addr} {ρ : Ro} {m m' : Mo} {σ : L2.St} {H H' : Hp}
end
section
variable {G : Cl} {E : XK}
/-- xi, xj = xj, [] -/
def sMov (i j : Nat) : DS := fun ρ m => match ρ[j]? with
  | some (some (.ml ds)) => if i < ρ.length ∧ i ≠ j then .nx ((ρ.set i (some (.ml ds))).set j (some (.ml []))) m else .bad
  | _ => .bad
/-! expressions that change a list of the frame -/
inductive RX where
  | bad
  | ok (d : D) (ρ : Ro) (m : Mo)
  | exc (c : Nat) (l : List D) (m : Mo)
abbrev DX := Ro → Mo → RX
def PostX (G : Cl) (E : XK) (B : Bx) (M : AP) (pm : Nat → Addr) (σ : L2.St) (H : Hp) (r : RX) (Q : VK) : Prop := match r with
  | .bad => False
  | .ok d ρ m => ∀ v H', EnvR G B M pm ρ m σ H' → Stp M H M H' → Rep G B.ad M H' v d → Q v H'
  | .exc c l m => ∀ cls dd H', Go G B (MB B) m B.H0 H' → XRep G B.ad (MB B) H' c l cls dd → E cls dd H'
structure Dx (G : Cl) (E : XK) (t : TE) (f : DX) : Prop where
  run : ∀ {B : Bx} {M : AP} {pm : Nat → Addr} {ρ : Ro} {m : Mo} {σ : L2.St} {H : Hp}, EnvR G B M pm ρ m σ H → ∀ Q : VK, PostX G E B M pm σ H (f ρ m) Q → t σ H Q
def xBind (r : R D) (k : D → Mo → RX) : RX := match r with
  | .bad => .bad
  | .ok a m => k a m
  | .exc c l m => .exc c l m
theorem PostX.bind {B : Bx} {M : AP} {pm : Nat → Addr} {ρ : Ro} {m : Mo} {σ : L2.St} {H : Hp} {r : R D} {k : D → Mo → RX} {Q : VK} (e : EnvR G B M pm ρ m σ H) (h : PostX G E B M pm σ H (xBind r k) Q) :
    Post G E B M H (Rep G B.ad M) r (fun b H1 => ∃ a m1, Go G B M m1 H H1 ∧ Rep G B.ad M H1 b a ∧ PostX G E B M pm σ H (k a m1) Q) := by
  cases r with
  | bad => exact h
  | ok a m1 => exact fun b H' g hr => ⟨a, m1, g, hr, h⟩
  | exc c l m' => exact fun cls dd H' g hx => h cls dd H' (Go.ofEnv e g) (hx.less e.mb)
/-- xs.pop(k) -/
def xPop (j : Nat) (fk : DE) : DX := fun ρ m => match ρ[j]? with
  | some (some (.ml ds)) => xBind (fk ρ m) fun k m1 => match k with
    | .int k => match ixN ds.length k with
      | some n => match ds[n]? with
        | some d => if ds.length ≤ 100000 then .ok d (ρ.set j (some (.ml (ds.eraseIdx n)))) m1 else .bad
        | none => .bad
      | none => .bad
    | _ => .bad
  | _ => .bad
theorem Reps.erase {ad : Ad} {M : AP} {H : Hp} : ∀ {vs : List V} {ds : List D} (n : Nat), Reps G ad M H vs ds → Reps G ad M H (vs.eraseIdx n) (ds.eraseIdx n)
  | _, _, _, .nil => .nil
  | _, _, 0, .cons _ t => t
  | _, _, n + 1, .cons r t => .cons r (Reps.erase n t)
/-- without a change -/
def xOf (f : DE) : DX := fun ρ m => xBind (f ρ m) fun d m1 => .ok d ρ m1
/-- x op y, the left one changes -/
def xOpL (g : D → D → Option D) (fa : DX) (fb : DE) : DX := fun ρ m => match fa ρ m with
  | .bad => .bad
  | .exc c l m1 => .exc c l m1
  | .ok x ρ1 m1 => xBind (fb ρ1 m1) fun y m2 => match g x y with
    | some z => .ok z ρ1 m2
    | none => .bad
theorem PostX.later {B : Bx} {M : AP} {pm : Nat → Addr} {σ : L2.St} {H H1 : Hp} {r : RX} {Q : VK} (h : PostX G E B M pm σ H r Q) (s : Stp M H M H1) : PostX G E B M pm σ H1 r Q := by
  cases r with
  | bad => exact h
  | ok d ρ m => exact fun v H' e s' rv => h v H' e (s.trans s') rv
  | exc c l m => exact h
/-- xs.append(x) -/
def sAppX (i : Nat) (f : DX) : DS := fun ρ m => match ρ[i]? with
  | some (some (.ml _)) => match f ρ m with
    | .bad => .bad
    | .exc c l m1 => .exc c l m1
    | .ok d ρ1 m1 => match ρ1[i]? with
      | some (some (.ml ds)) => if ds.length ≤ 10000 then .nx (ρ1.set i (some (.ml (ds ++ [d])))) m1 else .bad
      | _ => .bad
  | _ => .bad
/-! list(range(..)) -/
def dvRg2 (fa fb : DE) : DV := fun ρ m => (fa ρ m).bind fun x m1 => (fb ρ m1).bind fun y m2 => match x, y with
  | .int i, .int j => if rgOk i j = true then .ok (.ml (rgD i j)) m2 else .bad
  | _, _ => .bad
def dRgL2 (fa fb : DE) : DE := fun ρ m => (fa ρ m).bind fun x m1 => (fb ρ m1).bind fun y m2 => match x, y with
  | .int i, .int j => if rgOk i j = true then .ok (.lst (rgD i j)) m2 else .bad
  | _, _ => .bad
/-! a list of the frame lent to an expression -/
mutual
/-- no lists, no dicts within -/
def D.noL : D → Bool
  | .non => true
  | .bl _ => true
  | .int _ => true
  | .str _ => true
  | .tup l => D.noLs l
  | .obj _ d => D.noL d
  | _ => false
def D.noLs : List D → Bool
  | [] => true
  | d :: r => D.noL d && D.noLs r
end
section
variable {ad : Ad} {M : AP} {H : Hp} {p : Addr} {vs : List V}
mutual
theorem Rep.apart (hp : H p = some (.lst vs)) : ∀ (d : D) (v : V), d.noL = true → Rep G ad M H v d → Rep G ad (fun b => M b ∨ b = p) H v d
  | .non, _, _, .non => .non
  | .bl _, _, _, .bl b => .bl b
  | .int _, _, _, .int i => .int i
  | .str _, _, _, .str x => .str x
  | .tup ds, _, h, .tup h1 n r => .tup h1 (fun z => z.elim n fun q => by subst q; obtain ⟨o, _, e⟩ := h1; rw [hp] at e; cases e) (Reps.apart hp ds _ (by simpa [D.noL] using h) r)
  | .obj _ d, _, h, .obj h1 hx n nx r => .obj h1 hx (fun z => z.elim n fun q => by subst q; rw [hp] at h1; unfold SlX.SlO at h1; cases h1) (fun z => z.elim nx fun q => by subst q; rw [hp] at hx; cases hx) (Rep.apart hp d _ (by simpa [D.noL] using h) r)
  | .lst _, _, h, _ => by simp [D.noL] at h
  | .dct _, _, h, _ => by simp [D.noL] at h
  | .exc _ _, _, h, _ => by simp [D.noL] at h
  | .drw, _, h, _ => by simp [D.noL] at h
  | .scr _, _, h, _ => by simp [D.noL] at h
  | .dcn _, _, h, _ => by simp [D.noL] at h
  | .cel _, _, h, _ => by simp [D.noL] at h
  | .lcl _ _, _, h, _ => by simp [D.noL] at h
theorem Reps.apart (hp : H p = some (.lst vs)) : ∀ (ds : List D) (ws : List V), D.noLs ds = true → Reps G ad M H ws ds → Reps G ad (fun b => M b ∨ b = p) H ws ds
  | [], _, _, .nil => .nil
  | d :: ds, _, h, .cons r rs => by
    have h' : d.noL = true ∧ D.noLs ds = true := by simpa [D.noLs] using h
    exact .cons (Rep.apart hp d _ h'.1 r) (Reps.apart hp ds _ h'.2 rs)
end
mutual
theorem kD_noL : ∀ k : NestedKey, (kD k).noL = true
  | .none => rfl
  | .num _ => rfl
  | .text _ => rfl
  | .tup l => by
    unfold kD D.noL
    exact kDs_noL l
theorem kDs_noL : ∀ ks : List NestedKey, D.noLs (kDs ks) = true
  | [] => rfl
  | k :: r => by
    unfold kDs D.noLs
    rw [kD_noL k, kDs_noL r]
    rfl
end
end
/-- no lists in what changes -/
def Fd.noL : Fd → Bool
  | .v d => d.noL
  | .mn _ l => D.noLs (l.map (·.2))
def Mo.noL : Mo → Bool
  | none => true
  | some r => r.cs.all fun c => (c.fs.all fun f => f.2.noL) && c.ls.all fun p => D.noLs p.2
section
variable {ad : Ad} {M : AP} {H : Hp} {p : Addr} {us : List V}
theorem FdR.apart (hp : H p = some (.lst us)) {v : V} {f : Fd} (hn : f.noL = true) (h : FdR G ad M H v f) : FdR G ad (fun b => M b ∨ b = p) H v f := by
  cases f with
  | v d => exact Rep.apart hp d v hn h
  | mn q l =>
    obtain ⟨h0, kvs, h1, h2, h3, h4⟩ := h
    exact ⟨h0, kvs, h1, h2, Reps.apart hp _ _ (kDs_noL _) h3, Reps.apart hp _ _ hn h4⟩
theorem FsR.apart (hp : H p = some (.lst us)) : ∀ {vs : List (Str × V)} {fs : List (Str × Fd)}, (fs.all fun f => f.2.noL) = true → FsR G ad M H vs fs → FsR G ad (fun b => M b ∨ b = p) H vs fs
  | _, _, _, .nil => .nil
  | _, _, hn, .cons r t => by
    rw [List.all_cons, Bool.and_eq_true] at hn
    exact .cons ⟨r.1, r.2.apart hp hn.1⟩ (FsR.apart hp hn.2 t)
theorem MRep.apart {m : Mo} (r : MRep G M H m) (hp : H p = some (.lst us)) (hn : m.noL = true) : MRep G (fun b => M b ∨ b = p) H m := by
  cases m with
  | none => exact True.intro
  | some q =>
    obtain ⟨h1, hc⟩ := r
    have hn2 : (q.cs.all fun c => (c.fs.all fun f => f.2.noL) && c.ls.all fun p => D.noLs p.2) = true := hn
    rw [List.all_eq_true] at hn2
    have hn3 := fun c hc' => (Bool.and_eq_true _ _).mp (hn2 c hc')
    exact ⟨h1, fun c hc' => ⟨let ⟨vs, a, b⟩ := (hc.c c hc').at_; ⟨vs, a, b.apart hp (hn3 c hc').1⟩, (hc.c c hc').own, (hc.c c hc').len, fun p' hp' => let ⟨vs, a, b⟩ := (hc.c c hc').lr p' hp'; ⟨vs, a, Reps.apart hp _ _ (List.all_eq_true.mp (hn3 c hc').2 p' hp') b⟩⟩, hc.nd, hc.ap⟩
end
def dLend (i : Nat) (f : DE) : DE := fun ρ m => match ρ[i]? with
  | some (some (.ml ds)) => match f (ρ.set i (some (.v (.lst ds)))) m with
    | .ok d m1 => if d.noL = true ∧ m1.noL = true then .ok d m1 else .bad
    | .exc c l m1 => if l = [] ∧ m1.noL = true then .exc c l m1 else .bad
    | .bad => .bad
  | _ => f ρ m
end
end Dn
namespace Dn
open PySem PySem.Spec PyProof.Rows L2 PySem.W

/-! what the head looks at, as one list of Bools -/
theorem all_at {l : List Bool} (h : l.all id = true) (i : Nat) {b : Bool} (hb : l[i]? = some b) : b = true := by
  have z := List.all_eq_true.mp h b (List.mem_of_getElem? hb)
  exact z
def excCB (K : Frag) (C : Addr) : Bool := He.eqO (findIn K (.ref C) "__getattribute__") (some (some (.builtin "BaseException.__getattribute__"))) && (He.eqO (findIn K (.ref C) "__getattr__") (some none) && (decide (subIn K (.ref C) (.type "BaseException") = some true) && (hasDictIn K C && (He.eqO (findIn K (.ref C) "__class__") (some (some (.builtin "object.__class__"))) &&
  (He.eqO (specialIn K (.builtin "object.__class__") "__get__") (some (some (.builtin "getset_descriptor.__get__"))) && (decide (takesIn K (.builtin "object.__class__") = some true) && decide (mroIn K C (.type "object") = some true)))))))
theorem excCB_ok {K : Frag} {C : Addr} (h : excCB K C = true) : L2.ExcC K C ∧ XfC K C := by
  obtain ⟨h1, h⟩ := He.ba h
  obtain ⟨h2, h⟩ := He.ba h
  obtain ⟨h3, h⟩ := He.ba h
  obtain ⟨h4, h⟩ := He.ba h
  obtain ⟨h5, h⟩ := He.ba h
  obtain ⟨h6, h⟩ := He.ba h
  obtain ⟨h7, h8⟩ := He.ba h
  have e1 := He.eqO_ok h1
  have e2 := He.eqO_ok h2
  exact ⟨⟨e1, e2, of_decide_eq_true h3, h4, He.eqO_ok h5, He.eqO_ok h6, of_decide_eq_true h7, of_decide_eq_true h8⟩, ⟨e1, e2, of_decide_eq_true h3, h4⟩⟩
def sIsiB (K : Frag) (C : Addr) : Bool := He.eqO (findIn K (.ref C) "__class__") (some (some (.builtin "object.__class__"))) && (He.eqO (specialIn K (.builtin "object.__class__") "__get__") (some (some (.builtin "getset_descriptor.__get__"))) && (decide (takesIn K (.builtin "object.__class__") = some true) && decide (mroIn K C (.type "object") = some true)))
theorem sIsiB_ok {K : Frag} {C : Addr} (h : sIsiB K C = true) : SlX.SIsi K C := by
  obtain ⟨h1, h⟩ := He.ba h
  obtain ⟨h2, h⟩ := He.ba h
  obtain ⟨h3, h4⟩ := He.ba h
  exact ⟨He.eqO_ok h1, He.eqO_ok h2, of_decide_eq_true h3, of_decide_eq_true h4⟩
/-- own classes with slots (their numbers below n), exceptions (below k) -/
def clAllB (G : Cl) (n k : Nat) : Bool := (List.range n).all (fun c => clsX G.K (G.cl c) && sIsiB G.K (G.cl c)) && (List.range k).all fun c => excCB G.K (G.xc c)
structure ClsOk (G : Cl) (n k : Nat) : Prop where
  o : ∀ c, c < n → SlX.SCls G.K (G.cl c) ∧ SlX.SIsi G.K (G.cl c)
  x : ∀ c, c < k → L2.ExcC G.K (G.xc c) ∧ XfC G.K (G.xc c)
theorem clAllB_ok {G : Cl} {n k : Nat} (h : clAllB G n k = true) : ClsOk G n k := by
  obtain ⟨h1, h2⟩ := He.ba h
  refine ⟨fun c hc => ?_, fun c hc => excCB_ok (List.all_eq_true.mp h2 c (List.mem_range.mpr hc))⟩
  obtain ⟨h3, h4⟩ := He.ba (List.all_eq_true.mp h1 c (List.mem_range.mpr hc))
  exact ⟨clsX_ok h3, sIsiB_ok h4⟩
/-- isinstance's answers as lists -/
def isT (ts : List (String × Bool)) (os xs : List Bool) : IsT := ⟨fun n => ts.lookup n, fun c => os[c]?, fun c => xs[c]?⟩
def isB (G : Cl) (u : Value) (ts : List (String × Bool)) (os xs : List Bool) : Bool := ts.all (fun p => decide (kitOne G.K (.type p.1) u = some p.2)) && ((List.range os.length).all (fun c => decide (kitOne G.K (.ref (G.cl c)) u = os[c]?)) && (List.range xs.length).all fun c => decide (kitOne G.K (.ref (G.xc c)) u = xs[c]?))
theorem isB_ok {G : Cl} {u : Value} {ts : List (String × Bool)} {os xs : List Bool} {n k : Nat} (h : isB G u ts os xs = true) (c : ClsOk G n k) (h1 : os.length ≤ n) (h2 : xs.length ≤ k) : IsOk G u (isT ts os xs) := by
  obtain ⟨a1, a⟩ := He.ba h
  obtain ⟨a2, a3⟩ := He.ba h |>.2 |> He.ba
  refine ⟨fun n hn b hb => ?_, fun i b hb => ?_, fun i b hb => ?_⟩
  · have hb' : ts.lookup n = some b := hb
    have hm : (n, b) ∈ ts := by
      clear a a1 a2 a3 h
      induction ts with
      | nil => cases hb'
      | cons p r ih =>
        obtain ⟨p1, p2⟩ := p
        simp only [List.lookup] at hb'
        split at hb'
        · rename_i q
          cases hb'
          rw [beq_iff_eq.mp q]
          exact List.mem_cons_self
        · exact List.mem_cons_of_mem _ (ih hb' hb')
    exact of_decide_eq_true (List.all_eq_true.mp a1 _ hm)
  · have hb' : os[i]? = some b := hb
    have hi : i < os.length := (List.getElem?_eq_some_iff.mp hb').1
    have z := of_decide_eq_true (List.all_eq_true.mp a2 i (List.mem_range.mpr hi))
    obtain ⟨z1, z2⟩ := c.o i (Nat.lt_of_lt_of_le hi h1)
    exact ⟨z1, z2, z.trans hb'⟩
  · have hb' : xs[i]? = some b := hb
    have hi : i < xs.length := (List.getElem?_eq_some_iff.mp hb').1
    have z := of_decide_eq_true (List.all_eq_true.mp a3 i (List.mem_range.mpr hi))
    exact ⟨(c.x i (Nat.lt_of_lt_of_le hi h2)).1, z.trans hb'⟩
/-- the left side of == goes first -/
def nfB (G : Cl) (c : Nat) (os : List Nat) : Bool := tyNames.all (fun n => notFirst G.K (G.cl c) (.type n)) && os.all fun c' => notFirst G.K (G.cl c) (.ref (G.cl c'))
/-- all exceptions are caught -/
def exmB (G : Cl) (C1 C2 : Addr) (k : Nat) : Bool := (List.range k).all fun c => decide (exmAny G.K (.ref (G.xc c)) [.ref C1, .ref C2] = some true)
theorem exmB_ok {G : Cl} {C1 C2 : Addr} {k : Nat} (h : exmB G C1 C2 k = true) : ∀ c, decide (c < k) = true → exmAny G.K (.ref (G.xc c)) [.ref C1, .ref C2] = some true := fun c hc =>
  of_decide_eq_true (List.all_eq_true.mp h c (List.mem_range.mpr (of_decide_eq_true hc)))
/-- a field of exceptions -/
def fldB (G : Cl) (f : Str) (xs : List Nat) : Bool := xs.all fun c => decide (G.xf c = some f) && He.eqO (findIn G.K (.ref (G.xc c)) f) (some none)
theorem fldB_ok {G : Cl} {f : Str} {xs : List Nat} {n k : Nat} (h : fldB G f xs = true) (c : ClsOk G n k) (hk : ∀ i ∈ xs, i < k) : ∀ i, xs.contains i = true → G.xf i = some f ∧ XfC G.K (G.xc i) ∧ findIn G.K (.ref (G.xc i)) f = some none := fun i hi => by
  have hi' : i ∈ xs := by simpa using hi
  obtain ⟨h1, h2⟩ := He.ba (List.all_eq_true.mp h i hi')
  exact ⟨of_decide_eq_true h1, (c.x i (hk i hi')).2, He.eqO_ok h2⟩
/-! tables -/
theorem one_of {T : List (Addr × Str)} {P : Addr} {q : Str} (hn : (T.map (·.1)).Nodup) (h : (P, q) ∈ T) : ∀ y ∈ T, y.1 = P → y.2 = q := by
  induction T with
  | nil => cases h
  | cons a r ih =>
    rw [List.map_cons, List.nodup_cons] at hn
    intro y hy e
    rcases List.mem_cons.mp h with h' | h' <;> rcases List.mem_cons.mp hy with hy' | hy'
    · rw [hy', ← h']
    · exact (hn.1 (List.mem_map.mpr ⟨y, hy', by rw [e, ← h']⟩)).elim
    · exact (hn.1 (List.mem_map.mpr ⟨(P, q), h', by rw [← hy']; exact e.symm⟩)).elim
    · exact ih hn.2 h' y hy' e
theorem tabsAt_of {K : Frag} {h : Heap} {tf : List He.Defn} (X : K.In h) (hd : ∀ p ∈ tf, codeHdIn K (He.cT K p).1 (He.cT K p).2 = true) (ou : ∀ p ∈ tf, K.lookup (He.cT K p).2 = none) (em : ∀ p ∈ tf, h.get? (He.cT K p).2 = some { cls := .none, data := .fields #[] }) : TabsAt K h (tf.map (He.cT K)) := by
  refine ⟨fun p hp => ?_, fun p hp => ?_, fun p hp => ?_⟩ <;> obtain ⟨q, hq, rfl⟩ := List.mem_map.mp hp
  · exact em q hq
  · exact ou q hq
  · exact codeHd_of_K X (hd q hq)
/-! the new denotations, evaluated -/
section
variable {m : Mo} {ρ : Ro}
theorem ev_isA {I : IsT} {f : DE} : dIsA I f ρ m = (f ρ m).bind fun d m1 => match I.of d with
  | some b => .ok (.bl b) m1
  | none => .bad := Eq.trans rfl rfl
theorem ev_eqA {neg : Bool} {c : Nat} {okc : Nat → Bool} {F : DF} {fa fb : DE} : dEqA neg c okc F fa fb ρ m = (fa ρ m).bind fun x m1 => (fb ρ m1).bind fun y m2 => match x with
  | .obj c' d => if c' = c ∧ y.ok2 okc = true then (F [.obj c' d, y] m2).bind fun z m3 => match z with
      | .bl k => .ok (.bl (neg ^^ k)) m3
      | _ => .bad
    else .bad
  | x => R.of (if neg = true then neD x y else eqD x y) m2 := Eq.trans rfl rfl
theorem ev_heard {F : R D → R D} {f : DE} : dHeard F f ρ m = noX (F (f ρ m)) := Eq.trans rfl rfl
theorem ev_heardD {ok : Nat → Bool} {b : Bool} {n : Nat} {f : DS} {d : D} : heardD ok b n f (.ok d m) = outD (f (none :: some (.v (wrD b d)) :: some (.v .non) :: none :: List.replicate n none) m) := Eq.trans rfl rfl
theorem ev_heardX {ok : Nat → Bool} {b : Bool} {n : Nat} {f : DS} {c : Nat} {l : List D} : heardD ok b n f (.exc c l m) = if ok c = true then outD (f (none :: some (.v (iniD b)) :: some (.v (.exc c l)) :: none :: List.replicate n none) m) else .bad := Eq.trans rfl rfl
theorem ev_xf {c : Nat → Bool} {f : DE} : dXf c f ρ m = (f ρ m).bind fun d m1 => match d with
  | .exc k [x] => if c k = true then .ok x m1 else .bad
  | _ => .bad := Eq.trans rfl rfl
theorem ev_exc {c : Nat} {f : DE} : dExc c f ρ m = (f ρ m).bind fun d m1 => .ok (.exc c [d]) m1 := Eq.trans rfl rfl
theorem ev_exc0 {c : Nat} : dExc0 c ρ m = .ok (.exc c []) m := Eq.trans rfl rfl
theorem ev_mov {i j : Nat} : sMov i j ρ m = match ρ[j]? with
  | some (some (.ml ds)) => if i < ρ.length ∧ i ≠ j then .nx ((ρ.set i (some (.ml ds))).set j (some (.ml []))) m else .bad
  | _ => .bad := Eq.trans rfl rfl
theorem ev_lend {i : Nat} {f : DE} : dLend i f ρ m = match ρ[i]? with
  | some (some (.ml ds)) => match f (ρ.set i (some (.v (.lst ds)))) m with
    | .ok d m1 => if d.noL = true ∧ m1.noL = true then .ok d m1 else .bad
    | .exc c l m1 => if l = [] ∧ m1.noL = true then .exc c l m1 else .bad
    | .bad => .bad
  | _ => f ρ m := Eq.trans rfl rfl
theorem ev_raise1 {c : Nat} {f : DE} : sRaise1 c f ρ m = sBind (f ρ m) fun d m1 => .exc c [d] m1 := Eq.trans rfl rfl
theorem ev_raise0 {c : Nat} : sRaise0 c ρ m = .exc c [] m := Eq.trans rfl rfl
theorem ev_rgL2 {fa fb : DE} : dRgL2 fa fb ρ m = (fa ρ m).bind fun x m1 => (fb ρ m1).bind fun y m2 => match x, y with
  | .int i, .int j => if rgOk i j = true then .ok (.lst (rgD i j)) m2 else .bad
  | _, _ => .bad := Eq.trans rfl rfl
theorem ev_dvRg2 {fa fb : DE} : dvRg2 fa fb ρ m = (fa ρ m).bind fun x m1 => (fb ρ m1).bind fun y m2 => match x, y with
  | .int i, .int j => if rgOk i j = true then .ok (.ml (rgD i j)) m2 else .bad
  | _, _ => .bad := Eq.trans rfl rfl
end
end Dn
namespace Dn
open PySem PySem.Spec PyProof.Rows L2
section
variable {G : Cl} {E : XK}
/-- {} as a value -/
def dDNew : DE := fun _ m => .ok (.dct []) m
theorem de_dnew : De G E tDNewK dDNew := ⟨fun {B M pm ρ m σ H} e Q p => by
  intro q hq
  exact p _ _ (e.same (ExN.new hq)) (Rep.dct (kvs := []) (l := []) upd_same (fun z => (e.hl _ z).ne hq) rfl .nil)⟩
/-- {i: j} of written numbers -/
def dDI (i j : Int) : DE := fun _ m => .ok (.dct [(Sum.inl i, .int j)]) m
theorem ev_dnew {ρ : Ro} {m : Mo} : dDNew ρ m = .ok (.dct []) m := Eq.trans rfl rfl
theorem ev_dI {ρ : Ro} {m : Mo} {i j : Int} : dDI i j ρ m = .ok (.dct [(Sum.inl i, .int j)]) m := Eq.trans rfl rfl
end
section
variable {m m1 : Mo} {ρ : Ro}
theorem ev_andV {fa fb : DE} : dAndV fa fb ρ m = (fa ρ m).bind fun x m1 => match x with
  | .bl true => fb ρ m1
  | .bl false => .ok (.bl false) m1
  | _ => .bad := Eq.trans rfl rfl
theorem ev_orV {fa fb : DE} : dOrV fa fb ρ m = (fa ρ m).bind fun x m1 => match x with
  | .bl false => fb ρ m1
  | .bl true => .ok (.bl true) m1
  | _ => .bad := Eq.trans rfl rfl
theorem ev_notV {fa : DE} : dNotV fa ρ m = (fa ρ m).bind fun x m1 => match x with
  | .bl b => .ok (.bl (!b)) m1
  | _ => .bad := Eq.trans rfl rfl
variable {ts : List (String × Bool)} {os xs : List Bool}
theorem ev_ofX {c : Nat} {l : List D} : (isT ts os xs).of (.exc c l) = xs[c]? := Eq.trans rfl rfl
theorem ev_ofO {c : Nat} {d : D} : (isT ts os xs).of (.obj c d) = os[c]? := Eq.trans rfl rfl
theorem ev_ofI {i : Int} : (isT ts os xs).of (.int i) = ts.lookup "int" := Eq.trans rfl rfl
theorem ev_ofN : (isT ts os xs).of .non = ts.lookup "NoneType" := Eq.trans rfl rfl
theorem ev_ofB {b : Bool} : (isT ts os xs).of (.bl b) = ts.lookup "bool" := Eq.trans rfl rfl
theorem ev_ofS {x : Str} : (isT ts os xs).of (.str x) = ts.lookup "str" := Eq.trans rfl rfl
theorem ev_ofT {l : List D} : (isT ts os xs).of (.tup l) = ts.lookup "tuple" := Eq.trans rfl rfl
theorem ev_ofL {l : List D} : (isT ts os xs).of (.lst l) = ts.lookup "list" := Eq.trans rfl rfl
theorem ev_outN {ρ : Ro} : outD (.nx ρ m) = .ok .non m := Eq.trans rfl rfl
theorem ev_outR {d : D} : outD (.rt d m) = .ok d m := Eq.trans rfl rfl
theorem ev_outX {c : Nat} {l : List D} : outD (.exc c l m) = .exc c l m := Eq.trans rfl rfl
theorem ev_noX {d : D} : noX (.ok d m) = .ok d m := Eq.trans rfl rfl
/-- a loop, its body as it stands -/
theorem forD_gen {h : D → Ro → Option Ro} {body : DS} {ds : List D} {r : SR} (e : forD h body ds ρ m = r) (I : Nat → Ro → Mo → Prop) (h0 : I 0 ρ m) (st : ∀ i d ρ m, ds[i]? = some d → I i ρ m → ∃ ρ1 ρ2 m2, h d ρ = some ρ1 ∧ (body ρ1 m = .nx ρ2 m2 ∨ body ρ1 m = .ct ρ2 m2) ∧ I (i + 1) ρ2 m2) :
    ∃ ρ' m', r = .nx ρ' m' ∧ I ds.length ρ' m' := by
  obtain ⟨ρ', m', e', q⟩ := forD_inv0 I ds ρ m st h0
  exact ⟨ρ', m', e.symm.trans e', q⟩
theorem forD_nil {h : D → Ro → Option Ro} {body : DS} : forD h body [] ρ m = .nx ρ m := Eq.trans rfl rfl
theorem forD_cons {h : D → Ro → Option Ro} {body : DS} {d : D} {r : List D} {ρ1 : Ro} (e : h d ρ = some ρ1) : forD h body (d :: r) ρ m = match body ρ1 m with
    | .nx ρ2 m2 => forD h body r ρ2 m2
    | .ct ρ2 m2 => forD h body r ρ2 m2
    | .bk ρ2 m2 => .nx ρ2 m2
    | x => x := by
  show (match h d ρ with
    | none => SR.bad
    | some ρ1 => match body ρ1 m with
      | .nx ρ2 m2 => forD h body r ρ2 m2
      | .ct ρ2 m2 => forD h body r ρ2 m2
      | .bk ρ2 m2 => .nx ρ2 m2
      | x => x) = _
  rw [e]
theorem while_step {c : DT} {body : DS} {n : Nat} : whileD c body (n + 1) ρ m = sBind (c ρ m) fun b m1 => if b = true then match body ρ m1 with
    | .nx ρ2 m2 => whileD c body n ρ2 m2
    | .ct ρ2 m2 => whileD c body n ρ2 m2
    | .bk ρ2 m2 => .nx ρ2 m2
    | x => x
  else .nx ρ m1 := Eq.trans rfl rfl
/-- a while, by a number that falls -/
theorem while_gen {c : DT} {body : DS} (I : Nat → Ro → Mo → Prop) (J : Ro → Mo → Prop) (st : ∀ k ρ m, I k ρ m → (c ρ m = .ok false m ∧ J ρ m) ∨ (∃ ρ2 m2, c ρ m = .ok true m ∧ (body ρ m = .nx ρ2 m2 ∨ body ρ m = .ct ρ2 m2) ∧ ∃ k', k = k' + 1 ∧ I k' ρ2 m2)) :
    ∀ (k n : Nat) (ρ : Ro) (m : Mo), k < n → I k ρ m → ∃ ρ' m', whileD c body n ρ m = .nx ρ' m' ∧ J ρ' m'
  | k, 0, ρ, m, h, _ => absurd h (by omega)
  | k, n + 1, ρ, m, h, hI => by
    rw [while_step]
    rcases st k ρ m hI with ⟨e, hJ⟩ | ⟨ρ2, m2, e, hb, k', rfl, hI2⟩
    · rw [e]
      exact ⟨ρ, m, rfl, hJ⟩
    · rw [e]
      obtain ⟨ρ', m', e', hJ⟩ := while_gen I J st k' n ρ2 m2 (by omega) hI2
      refine ⟨ρ', m', ?_, hJ⟩
      show (if true = true then match body ρ m with
        | .nx ρ2 m2 => whileD c body n ρ2 m2
        | .ct ρ2 m2 => whileD c body n ρ2 m2
        | .bk ρ2 m2 => .nx ρ2 m2
        | x => x
      else .nx ρ m) = _
      rw [if_pos rfl]
      rcases hb with hb | hb <;> rw [hb] <;> exact e'
theorem ev_toLstL {l : List D} : toLst [.lst l] = some (.lst l) := Eq.trans rfl rfl
theorem ev_toLstT {l : List D} : toLst [.tup l] = some (.lst l) := Eq.trans rfl rfl
theorem ev_negI {i : Int} : negD (.int i) = some (.int (-i)) := Eq.trans rfl rfl
theorem ev_max2 {i j : Int} : max2D [.int i, .int j] = some (.int (if j > i then j else i)) := Eq.trans rfl rfl
theorem ev_min2 {i j : Int} : min2D [.int i, .int j] = some (.int (if j < i then j else i)) := Eq.trans rfl rfl
end
end Dn
namespace Dn
open PySem PySem.Spec PyProof.Rows L2

/-! what repr shows, and that it fits -/
mutual
def mx : D → Nat
  | .non => 4
  | .bl _ => 5
  | .int _ => 1921
  | .str x => 10 * x.length + 2
  | .tup l => mxs l + 3
  | .lst l => mxs l + 3
  | _ => 0
def mxs : List D → Nat
  | [] => 0
  | d :: r => mx d + 2 + mxs r
end
mutual
def fitD : Nat → D → Bool
  | _, .non => true
  | _, .bl _ => true
  | _, .int i => decide (i.natAbs < 10 ^ 100)
  | _, .str x => PyData.strOk x && x.cps.toList.all fun c => decide (c < 16 ^ 8)
  | n + 1, .tup l => fits n l
  | n + 1, .lst l => fits n l
  | _, _ => false
def fits : Nat → List D → Bool
  | _, [] => true
  | n, d :: r => fitD n d && fits n r
end
theorem log_small {i : Int} (h : i.natAbs < 10 ^ 100) : i.natAbs.log2 < 1920 := PySem.Flt.log2_lt_of (by decide) (Nat.lt_trans h (by decide +kernel))
mutual
theorem fit_ok : ∀ (n : Nat) (d : D), fitD n d = true → d.plain n = true ∧ d.py.showable = true ∧ d.py.shown.length ≤ mx d
  | _, .non, _ => by
    simp only [D.plain, D.py, PyData.showable, PyData.shown, mx]
    exact ⟨trivial, trivial, by decide⟩
  | _, .bl b, _ => by
    simp only [D.plain, D.py, PyData.showable, PyData.shown, mx]
    exact ⟨trivial, trivial, by cases b <;> decide⟩
  | _, .int i, h => by
    have h' : i.natAbs < 10 ^ 100 := by simpa [fitD] using h
    simp only [D.plain, D.py, PyData.showable, PyData.shown, mx]
    refine ⟨trivial, decide_eq_true (log_small h'), ?_⟩
    exact PyProof.Rows.int_text_len_1921 (log_small h')
  | _, .str x, h => by
    have h' : PyData.strOk x = true ∧ ∀ c ∈ x.cps.toList, c < 16 ^ 8 := by simpa only [fitD, Bool.and_eq_true, List.all_eq_true, decide_eq_true_iff] using h
    simp only [D.plain, D.py, PyData.showable, PyData.shown, mx]
    exact ⟨h'.1, trivial, PySem.StrLaws.reprText_len x h'.2⟩
  | n + 1, .tup l, h => by
    obtain ⟨h1, h2, h3⟩ := fits_ok n l (by simpa [fitD] using h)
    simp only [D.plain, D.py, PyData.showable, PyData.shown, mx]
    refine ⟨h1, h2, Nat.le_trans (PySem.tupleText_len_le _) ?_⟩
    omega
  | n + 1, .lst l, h => by
    obtain ⟨h1, h2, h3⟩ := fits_ok n l (by simpa [fitD] using h)
    simp only [D.plain, D.py, PyData.showable, PyData.shown, mx]
    refine ⟨h1, h2, Nat.le_trans (PySem.listText_len_le _) ?_⟩
    omega
  | 0, .tup l, h => by simp [fitD] at h
  | 0, .lst l, h => by simp [fitD] at h
  | _, .obj _ _, h => by simp [fitD] at h
  | _, .dct _, h => by simp [fitD] at h
  | _, .exc _ _, h => by simp [fitD] at h
  | _, .drw, h => by simp [fitD] at h
  | _, .scr _, h => by simp [fitD] at h
theorem fits_ok : ∀ (n : Nat) (l : List D), fits n l = true → D.plains n l = true ∧ PyData.showableAll (D.pys l) = true ∧ ((PyData.shownAll (D.pys l)).map (·.length)).sum + 2 * (PyData.shownAll (D.pys l)).length ≤ mxs l
  | _, [], _ => by simp [D.plains, D.pys, PyData.showableAll, PyData.shownAll, mxs]
  | n, d :: r, h => by
    have h' : fitD n d = true ∧ fits n r = true := by simpa [fits] using h
    obtain ⟨a1, a2, a3⟩ := fit_ok n d h'.1
    obtain ⟨b1, b2, b3⟩ := fits_ok n r h'.2
    simp only [D.plains, D.pys, PyData.showableAll, PyData.shownAll, mxs, a1, a2, b1, b2, List.map_cons, List.sum_cons, List.length_cons]
    exact ⟨rfl, rfl, by omega⟩
end
theorem reprD_ne {d : D} (hd : ∀ x, d ≠ .str x) : reprD [d] = if d.plain 60 = true ∧ d.py.showable = true ∧ d.py.shown.length ≤ 10000000 then some (.str d.py.shown) else none := by
  cases d <;> first | rfl | exact absurd rfl (hd _)
theorem repr_fitD {d : D} (h : fitD 60 d = true) (hm : mx d ≤ 10000000) : reprD [d] = some (.str d.py.shown) := by
  obtain ⟨h1, h2, h3⟩ := fit_ok 60 d h
  cases d with
  | str x =>
    have e : (D.str x).py.shown = reprText x := by simp only [D.py, PyData.shown]
    rw [e] at h3 ⊢
    exact if_pos (by omega)
  | _ =>
    rw [reprD_ne (fun x z => by cases z), if_pos ⟨h1, h2, by omega⟩]
theorem ev_dvList {fa : DA} {ρ : Ro} {m : Mo} : dvList fa ρ m = (fa ρ m).bind fun xs m1 => match xs with
  | [.lst l] => .ok (.ml l) m1
  | [.tup l] => .ok (.ml l) m1
  | _ => .bad := Eq.trans rfl rfl
theorem ev_lenOwn {c : Nat} {F : DF} {fa : DA} {ρ : Ro} {m : Mo} : dLenOwn c F fa ρ m = (fa ρ m).bind fun ds m1 => match ds with
  | [.obj c' d] => if c' = c then (F [.obj c' d] m1).bind fun z m2 => match z with
      | .int i => if 0 ≤ i ∧ i < 1000000 then .ok (.int i) m2 else .bad
      | _ => .bad
    else .bad
  | _ => .bad := Eq.trans rfl rfl
end Dn
namespace Dn
open PySem PySem.Spec PyProof.Rows L2

/-! repr of what holds dicts, but no lists -/
def keyP : Key → PyData
  | .inl i => .int i
  | .inr x => .str x
mutual
inductive DpE (K : PySem.W.Frag) (H : Hp) : V → PyData → Prop
  | non : DpE K H .non .none
  | bl (b : Bool) : DpE K H (.bl b) (.bool b)
  | int (i : Int) : DpE K H (.int i) (.int i)
  | str (x : Str) : DpE K H (.str x) (.str x)
  | tup {a : Addr} {xs : List V} {ds : List PyData} : SqT K H a xs → DpEs K H xs ds → DpE K H (.ref a) (.tuple ds)
  | dk {a : Addr} {kvs : List (Key × V)} {ds : List PyData} : H a = some (.dK kvs) → DpEs K H (kvs.map (·.2)) ds → DpE K H (.ref a) (.dict ((kvs.map fun p => keyP p.1).zip ds))
inductive DpEs (K : PySem.W.Frag) (H : Hp) : List V → List PyData → Prop
  | nil : DpEs K H [] []
  | cons {v : V} {vs : List V} {d : PyData} {ds : List PyData} : DpE K H v d → DpEs K H vs ds → DpEs K H (v :: vs) (d :: ds)
end
theorem DpEs.length {K : PySem.W.Frag} {H : Hp} : ∀ {vs : List V} {ds : List PyData}, DpEs K H vs ds → vs.length = ds.length
  | _, _, .nil => rfl
  | _, _, .cons _ r => congrArg (· + 1) (DpEs.length r)
section
variable {X : Cx} {pins : List (Addr × Obj)} {σ : L2.St} {H : Hp} {s : Shared}
theorem reads_keys {P : Program} {w : World} {h : Heap} : ∀ {es : List DictEntry} {vs : List (Key × Value)}, Pairs (mixKind P w) es vs → ReadsAll h (es.map (·.key)) (vs.map fun p => keyP p.1) []
  | _, _, .nil => .nil
  | _, _, .cons (kv := kv) h1 _ r => by
    have z := reads_keys (h := h) r
    obtain ⟨k, u⟩ := kv
    have h1' : keyIs k _ = true := h1
    rcases keyIs_shape h1' with ⟨i, t, e1, e2⟩ | ⟨x, t, e1, e2⟩
    · rw [List.map_cons, List.map_cons, e2]
      dsimp only
      rw [e1]
      exact ReadsAll.cons (as := []) (bs := []) (Reads.int i t) z
    · rw [List.map_cons, List.map_cons, e2]
      dsimp only
      rw [e1]
      exact ReadsAll.cons (as := []) (bs := []) (Reads.str x t) z
theorem pairs_vals {P : Program} {w : World} : ∀ {es : List DictEntry} {vs : List (Key × Value)}, Pairs (mixKind P w) es vs → es.map (·.val) = vs.map (·.2)
  | _, _, .nil => rfl
  | _, _, .cons _ h2 r => by rw [List.map_cons, List.map_cons, pairs_vals r, h2]
theorem kv_keys : ∀ {kvs : List (Key × V)} {vs : List (Key × Value)}, KV kvs vs → vs.map (fun p => keyP p.1) = kvs.map fun p => keyP p.1
  | _, _, .nil => rfl
  | _, _, .cons h r => by rw [List.map_cons, List.map_cons, kv_keys r, h.1]
theorem kv_vals : ∀ {kvs : List (Key × V)} {vs : List (Key × Value)}, KV kvs vs → Vals (kvs.map (·.2)) (vs.map (·.2))
  | _, _, .nil => .nil
  | _, _, .cons h r => .cons h.2 (kv_vals r)
mutual
theorem DpE.reads (I : Inv X pins σ H s) : ∀ {v : V} {d : PyData} (u : Value), DpE X.K H v d → RelV v u → ∃ as, Reads s.heap u d as ∧ sysModules ∉ as
  | _, _, u, .non, r => by
    cases r
    exact ⟨_, Reads.none, by simp⟩
  | _, _, u, .bl b, r => by
    cases r
    exact ⟨_, Reads.bool b, by simp⟩
  | _, _, u, .int i, r => by
    obtain ⟨t, rfl⟩ := r
    exact ⟨_, Reads.int i t, by simp⟩
  | _, _, u, .str x, r => by
    obtain ⟨t, rfl⟩ := r
    exact ⟨_, Reads.str x t, by simp⟩
  | _, _, u, .tup hs ha, r => by
    cases r
    obtain ⟨its, rv, ⟨o, ho, hc, n, hd⟩, _⟩ := I.tuple hs
    obtain ⟨as, hr, hn⟩ := DpEs.reads I its ha rv
    exact ⟨_, Reads.tuple ho hc hd hr, hn⟩
  | _, _, u, .dk (ds := ds) h ha, r => by
    cases r
    obtain ⟨_, hsm, vs, kv, o, es, ep, ho, hx, hd, _, hp, _⟩ := dk_of I.hok h
    have l1 := ha.length
    rw [List.length_map] at l1
    obtain ⟨as, hr, hn⟩ := DpEs.reads I (vs.map (·.2)) ha (kv_vals kv)
    rw [← pairs_vals hp] at hr
    have hk := reads_keys (h := s.heap) hp
    rw [kv_keys kv] at hk
    refine ⟨_, Reads.dict (as := []) (bs := as) ho hx.1 hd ?_ ?_, ?_⟩
    · rw [List.map_fst_zip (by rw [List.length_map]; omega)]
      exact hk
    · rw [List.map_snd_zip (by rw [List.length_map]; omega)]
      exact hr
    · intro z
      rcases List.mem_cons.mp z with z | z
      · rw [← z] at hsm
        simp at hsm
      · exact hn z
theorem DpEs.reads (I : Inv X pins σ H s) : ∀ {vs : List V} {ds : List PyData} (us : List Value), DpEs X.K H vs ds → Vals vs us → ∃ as, ReadsAll s.heap us ds as ∧ sysModules ∉ as
  | _, _, us, .nil, r => by
    cases r
    exact ⟨_, ReadsAll.nil, by simp⟩
  | _, _, us, .cons h1 h2, r => by
    cases r with
    | cons r1 r2 =>
      obtain ⟨as, q1, n1⟩ := DpE.reads I _ h1 r1
      obtain ⟨bs, q2, n2⟩ := DpEs.reads I _ h2 r2
      exact ⟨_, ReadsAll.cons q1 q2, fun z => (List.mem_append.mp z).elim n1 n2⟩
end
end
/-- a list whose items hold dicts, but no lists -/
theorem showsBy_items {prog : Program} {w : World} {h0 : Heap} {a : Addr} {o : Obj} {us : List Value} {n : Nat} {xs : List PyData} {bs0 : List Addr} (h1 : h0.get? a = some o) (h2 : o.cls = .type "list") (h3 : o.data = .seq us.toArray n) (h4 : ReadsAll h0 us xs bs0)
    (hs : (PyData.list xs).showable = true) (hn : sysModules ∉ bs0) (hsz : (PyData.list xs).shown.length ≤ sizeLine) : ShowsBy prog w h0 a (.list xs) "list" "list.__repr__" := by
  have hz : (listText (PyData.shownAll xs)).length ≤ sizeLine := by simpa only [PyData.shown] using hsz
  have h4' : ReadsAll h0 us.toArray.toList xs bs0 := by rw [List.toList_toArray]; exact h4
  obtain ⟨bs, hb, hk⟩ := ReprAllK.of_readsAll (prog := prog) (w := w) h4 (by simpa [PyData.showable] using hs) (fun _ => hn) (fun t ht => Nat.le_trans (listText_mem_le ht) hz)
  have far : a ∉ bs := not_mem_of_deeper (.list h1 h2 h3 h4') (by simp only [PyData.depth]; omega) hb
  refine ⟨F.slot_list_repr.toG, F.slot_list_str, F.slot_list_format, fun s k => ⟨o, k _ _ h1, h2⟩, fun A E s Q hg hu k hQ => ?_⟩
  simp only [PyData.depth] at hu
  simp only [PyData.shown] at hQ
  cases us with
  | nil =>
    cases h4
    simp only [PyData.shownAll, listText_nil] at hQ
    exact call_list_repr_empty ⟨o, k _ _ h1, h2⟩ (k _ _ h1) h3 (hQ s.heap _ _ fun _ _ e => e)
  | cons x l => exact call_list_reprK h1 h2 h3 far (by simpa using hk.length_eq) (fun i y e => hk.item i y (by simpa using e)) hg (fun b _ => Clear.nil b) hu k hQ hz
def rReprE (K : PySem.W.Frag) : List V → Hp → VK → Prop := fun xs H Q => rReprD K xs H Q ∨ (∃ a d, xs = [.ref a] ∧ DpE K H (.ref a) d ∧ d.depth ≤ 64 ∧ d.showable = true ∧ d.shown.length ≤ sizeLine ∧ Q (.str d.shown) H) ∨
  ∃ a ys ds, xs = [.ref a] ∧ SqL K H a ys ∧ DpEs K H ys ds ∧ (PyData.list ds).depth ≤ 64 ∧ (PyData.list ds).showable = true ∧ (PyData.list ds).shown.length ≤ sizeLine ∧ Q (.str (PyData.list ds).shown) H
theorem call_reprE {X : Cx} (hg : X.A.guards = some []) (hu : X.A.units + 200 < cLine) : CallR X (.builtin "repr") (rReprE X.K) := by
  intro pins s σ H xs us Q I r h
  rcases h with h | ⟨a, d, rfl, hd, hdep, hw, hz, q⟩ | ⟨a, ys, ds, rfl, hs, hd, hdep, hw, hz, q⟩
  · exact call_reprD hg hu pins s σ H xs us Q I r h
  · cases r with
    | cons rv rt =>
      cases rt
      cases rv
      obtain ⟨as, rd, hn⟩ := DpE.reads I _ hd rfl
      have fin : ∀ (h' : Heap) (t : Tok) (tk : Nat), (∀ b o, s.heap.get? b = some o → h'.get? b = some o) → EP X pins σ Q (.str d.shown t) { s with heap := h', toks := tk } := fun h' t tk hk => ⟨.str d.shown, H, I.kept (t' := tk) hk, ⟨t, rfl⟩, q⟩
      exact repr_of_reads' rd hw (fun _ => hn) hg (by omega) (fun _ _ e => e) fin hz
  · cases r with
    | cons rv rt =>
      cases rt
      cases rv
      obtain ⟨us, rv, ⟨o, n, ho, hc, _, hda⟩, _⟩ := I.list hs
      obtain ⟨as, rd, hn⟩ := DpEs.reads I us hd rv
      have S := showsBy_items (prog := X.prog) (w := X.w) ho hc hda rd hw hn hz
      have fin : ∀ (h' : Heap) (t : Tok) (tk : Nat), (∀ b o, s.heap.get? b = some o → h'.get? b = some o) → EP X pins σ Q (.str (PyData.list ds).shown t) { s with heap := h', toks := tk } := fun h' t tk hk => ⟨.str (PyData.list ds).shown, H, I.kept (t' := tk) hk, ⟨t, rfl⟩, q⟩
      exact call_repr_slot (by omega) (S.typeIs s fun _ _ e => e) S.slotRepr (S.call X.A.in1 _ s _ hg (by show X.A.units + 1 + (PyData.list ds).depth < cLine; omega) (fun _ _ e => e) fun h' u tk hk => ⟨_, _, rfl, fin h' u tk hk⟩)
mutual
def D.pyE : D → PyData
  | .non => .none
  | .bl b => .bool b
  | .int i => .int i
  | .str x => .str x
  | .tup l => .tuple (D.pysE l)
  | .dct l => .dict (D.pyKv l)
  | _ => .none
def D.pysE : List D → List PyData
  | [] => []
  | d :: r => D.pyE d :: D.pysE r
def D.pyKv : List (Key × D) → List (PyData × PyData)
  | [] => []
  | (k, d) :: r => (keyP k, D.pyE d) :: D.pyKv r
end
mutual
def D.plE : Nat → D → Bool
  | _, .non => true
  | _, .bl _ => true
  | _, .int _ => true
  | _, .str x => PyData.strOk x
  | n + 1, .tup l => D.plsE n l
  | n + 1, .dct l => D.plKv n l
  | _, _ => false
def D.plsE : Nat → List D → Bool
  | _, [] => true
  | n, d :: r => D.plE n d && D.plsE n r
def D.plKv : Nat → List (Key × D) → Bool
  | _, [] => true
  | n, (_, d) :: r => D.plE n d && D.plKv n r
end
section
variable {G : Cl} {ad : Ad} {A M : AP} {H : Hp}
theorem pyKv_zip : ∀ l : List (Key × D), D.pyKv l = ((l.map (·.1)).map keyP).zip (D.pysE (l.map (·.2)))
  | [] => by simp [D.pyKv]
  | (k, d) :: r => by
    simp only [D.pyKv, D.pysE, List.map_cons, List.zip_cons_cons, pyKv_zip r]
theorem plKv_zip (n : Nat) : ∀ l : List (Key × D), D.plKv n l = true → D.plsE n (l.map (·.2)) = true
  | [], _ => by simp [D.plsE]
  | (k, d) :: r, z => by
    have z' : d.plE n = true ∧ D.plKv n r = true := by simpa [D.plKv] using z
    simp only [List.map_cons, D.plsE, Bool.and_eq_true]
    exact ⟨z'.1, plKv_zip n r z'.2⟩
theorem reps_dpE {n : Nat} (ih : ∀ (d : D) (v : V), d.plE n = true → Rep G ad M H v d → DpE G.K H v d.pyE) : ∀ (ds : List D) (vs : List V), D.plsE n ds = true → Reps G ad M H vs ds → DpEs G.K H vs (D.pysE ds)
  | [], _, _, r => by cases r; simp only [D.pysE]; exact .nil
  | d :: ds, _, h, r => by
    have h' : d.plE n = true ∧ D.plsE n ds = true := by simpa [D.plsE] using h
    cases r with
    | cons r rs =>
      simp only [D.pysE]
      exact .cons (ih d _ h'.1 r) (reps_dpE ih ds _ h'.2 rs)
theorem Rep.dpE : ∀ (n : Nat) (d : D) (v : V), d.plE n = true → Rep G ad M H v d → DpE G.K H v d.pyE := by
  intro n
  induction n with
  | zero =>
    intro d v h r
    cases r <;> first
      | (simp [D.plE] at h; done)
      | (simp only [D.pyE]; constructor)
  | succ n ih =>
    intro d v h r
    cases r with
    | tup q _ r =>
      simp only [D.pyE]
      exact .tup q.sq (reps_dpE ih _ _ (by simpa [D.plE] using h) r)
    | @dct a kvs l q _ e r =>
      have h' : D.plsE n (l.map (·.2)) = true := plKv_zip n l (by simpa [D.plE] using h)
      simp only [D.pyE]
      rw [pyKv_zip, ← e, List.map_map]
      exact .dk q (reps_dpE ih _ _ h' r)
    | _ => first
      | (simp [D.plE] at h; done)
      | (simp only [D.pyE]; constructor)
def isCon : D → Bool
  | .tup _ => true
  | .dct _ => true
  | _ => false
theorem RepT.dpE {v : V} {d : D} (hc : isCon d = true) (h : d.plE 60 = true) (r : RepT G ad A M H v d) : ∃ a, v = .ref a ∧ DpE G.K H (.ref a) d.pyE := by
  cases r with
  | r r =>
    have z := Rep.dpE 60 d v h r
    cases r with
    | tup q n r => exact ⟨_, rfl, z⟩
    | dct q n e r => exact ⟨_, rfl, z⟩
    | _ => cases hc
  | ml n q r => cases hc
  | mn q e rk r na => cases hc
  | @mk a kvs l na q e r =>
    have h' : D.plsE 59 (l.map (·.2)) = true := plKv_zip 59 l (by simpa [D.plE] using h)
    refine ⟨_, rfl, ?_⟩
    simp only [D.pyE]
    rw [pyKv_zip, ← e, List.map_map]
    exact .dk q (reps_dpE (Rep.dpE 59) _ _ h' r)
end
section
variable {G : Cl} {E : XK}
def reprE : List D → Option D
  | [d] => match reprD [d] with
    | some z => some z
    | none => if isCon d = true then (if d.plE 60 = true ∧ d.pyE.depth ≤ 64 ∧ d.pyE.showable = true ∧ d.pyE.shown.length ≤ 10000000 then some (.str d.pyE.shown) else none) else match d with
      | .lst l => if D.plsE 60 l = true ∧ (PyData.list (D.pysE l)).depth ≤ 64 ∧ (PyData.list (D.pysE l)).showable = true ∧ (PyData.list (D.pysE l)).shown.length ≤ 10000000 then some (.str (PyData.list (D.pysE l)).shown) else none
      | _ => none
  | _ => none
theorem n_reprE : ON G (rReprE G.K) reprE := ⟨fun {ad A M H xs ds z} hm hA r g Q q => by
  unfold reprE at g
  split at g
  · rename_i d
    split at g
    · rename_i y hy
      cases g
      exact .inl (n_repr.run hm hA r hy Q q)
    · split at g
      · rename_i hc
        split at g
        · rename_i h
          cases g
          obtain ⟨x, rfl, rx⟩ := r.one
          obtain ⟨a, rfl, hd⟩ := rx.dpE hc h.1
          exact .inr (.inl ⟨a, _, rfl, hd, h.2.1, h.2.2.1, sz_ok (by omega), q _ _ .refl (.str _)⟩)
        · cases g
      · split at g
        · rename_i l hl
          split at g
          · rename_i h
            cases g
            obtain ⟨x, rfl, rx⟩ := r.one
            obtain ⟨a, vs, rfl, ha, ra⟩ := rx.lst
            exact .inr (.inr ⟨a, vs, _, rfl, SqL.of ha, reps_dpE (Rep.dpE 60) _ _ h.1 ra, h.2.1, h.2.2.1, sz_ok (by omega), q _ _ .refl (.str _)⟩)
          · cases g
        · cases g
  · cases g⟩
theorem reprE_D {d z : D} (h : reprD [d] = some z) : reprE [d] = some z := by
  show (match reprD [d] with
    | some z => some z
    | none => _) = _
  rw [h]
theorem ev_asg {f : DE} {h : D → Ro → Option Ro} {ρ : Ro} {m : Mo} : sAsg f h ρ m = sBind (f ρ m) fun d m1 => match h d ρ with
  | some ρ' => .nx ρ' m1
  | none => .bad := Eq.trans rfl rfl
theorem ev_ok2O {okc : Nat → Bool} {c : Nat} {d : D} : (D.obj c d).ok2 okc = okc c := Eq.trans rfl rfl
end
end Dn
namespace Dn
open PySem PySem.Spec PyProof.Rows L2

/-! comprehensions with two fors -/
def lc2D (h : D → Ro → Option Ro) (tt : DT) (f2 : Ro → Mo → R (List D)) : List D → Ro → Mo → R (List D)
  | [], _, m => .ok [] m
  | d :: r, ρ, m => match h d ρ with
    | none => .bad
    | some ρ1 => match tt ρ1 m with
      | .ok true m1 => match f2 ρ1 m1 with
        | .ok xs m2 => (lc2D h tt f2 r ρ m2).bind fun ys m3 => .ok (xs ++ ys) m3
        | _ => .bad
      | .ok false m1 => lc2D h tt f2 r ρ m1
      | _ => .bad
def dLc2 (fi : DI) (h : D → Ro → Option Ro) (tt : DT) (fi1 : DI) (h1 : D → Ro → Option Ro) (tt1 : DT) (fe : DE) (vs vs1 : List Nat) : Ro → Mo → R (List D) := fun ρ m => (fi ρ m).bind fun ds m1 => if ds.length ≤ 100000 then (lc2D h tt (dLc fi1 h1 tt1 fe vs1) ds (wipeD ρ vs) m1).bind fun xs m2 => if xs.length ≤ 100000 then .ok xs m2 else .bad else .bad
section
variable {G : Cl} {E : XK} {B : Bx} {M : AP} {pm : Nat → Addr} {ρ : Ro} {m m' : Mo} {σ : L2.St} {H H' : Hp}
end
theorem ev_lc2 {fi fi1 : DI} {h h1 : D → Ro → Option Ro} {tt tt1 : DT} {fe : DE} {vs vs1 : List Nat} {ρ : Ro} {m : Mo} : dLc2 fi h tt fi1 h1 tt1 fe vs vs1 ρ m = (fi ρ m).bind fun ds m1 => if ds.length ≤ 100000 then (lc2D h tt (dLc fi1 h1 tt1 fe vs1) ds (wipeD ρ vs) m1).bind fun xs m2 => if xs.length ≤ 100000 then .ok xs m2 else .bad else .bad := Eq.trans rfl rfl
end Dn
namespace Dn
open PySem PySem.Spec PyProof.Rows L2

/-! a, b = x, [] where b is changed later -/
section
variable {G : Cl} {E : XK}
def sPar2L (i j : Nat) (fa : DE) : DS := fun ρ m => sBind (fa ρ m) fun x m1 => if j < ρ.length then .nx ((ρ.set i (some (.v x))).set j (some (.ml []))) m1 else .bad
def sPar3L (i j l : Nat) (fa fb : DE) : DS := fun ρ m => sBind (fa ρ m) fun x m1 => sBind (fb ρ m1) fun y m2 => if l < ρ.length then .nx (((ρ.set i (some (.v x))).set j (some (.v y))).set l (some (.ml []))) m2 else .bad
end
theorem ev_par2L {i j : Nat} {fa : DE} {ρ : Ro} {m : Mo} : sPar2L i j fa ρ m = sBind (fa ρ m) fun x m1 => if j < ρ.length then .nx ((ρ.set i (some (.v x))).set j (some (.ml []))) m1 else .bad := Eq.trans rfl rfl
theorem ev_par3L {i j l : Nat} {fa fb : DE} {ρ : Ro} {m : Mo} : sPar3L i j l fa fb ρ m = sBind (fa ρ m) fun x m1 => sBind (fb ρ m1) fun y m2 => if l < ρ.length then .nx (((ρ.set i (some (.v x))).set j (some (.v y))).set l (some (.ml []))) m2 else .bad := Eq.trans rfl rfl
end Dn
namespace Dn
open PySem PySem.Spec PyProof.Rows L2

/-! a, b = [], x where a is changed later -/
section
variable {G : Cl} {E : XK}
def sPar2F (i j : Nat) (fb : DE) : DS := fun ρ m => sBind (fb ρ m) fun y m1 => if i < ρ.length then .nx ((ρ.set i (some (.ml []))).set j (some (.v y))) m1 else .bad
def sPar2K (i j : Nat) (fb : DE) : DS := fun ρ m => sBind (fb ρ m) fun y m1 => if i < ρ.length then .nx ((ρ.set i (some (.mk []))).set j (some (.v y))) m1 else .bad
end
theorem ev_par2F {i j : Nat} {fb : DE} {ρ : Ro} {m : Mo} : sPar2F i j fb ρ m = sBind (fb ρ m) fun y m1 => if i < ρ.length then .nx ((ρ.set i (some (.ml []))).set j (some (.v y))) m1 else .bad := Eq.trans rfl rfl
theorem ev_par2K {i j : Nat} {fb : DE} {ρ : Ro} {m : Mo} : sPar2K i j fb ρ m = sBind (fb ρ m) fun y m1 => if i < ρ.length then .nx ((ρ.set i (some (.mk []))).set j (some (.v y))) m1 else .bad := Eq.trans rfl rfl
end Dn
namespace Dn
open PySem PySem.Spec PyProof.Rows L2 LamX

/-! g(lambda y=0: body): a parameter that is not given -/
structure LamD (sc scope : Scope) (y : Str) : Prop where
  kind : scope.kind = .function
  co : scope.isCoroutine = false
  gen : scope.isGenerator = false
  own : ∀ z ∈ scope.names, z.2 ≠ .cell ∧ (z.2 = .local → z.1 = y)
  loc : scope.names.lookup y = some .local
  free : ∀ z ∈ scope.names, z.2 = .free → sc.names.lookup z.1 = some .cell ∨ sc.names.lookup z.1 = some .free
def lamDB (sc scope : Scope) (y : Str) : Bool :=
  decide (scope.kind = .function) && (!scope.isCoroutine && (!scope.isGenerator && (decide (scope.names.lookup y = some .local) && scope.names.all fun z =>
    !decide (z.2 = .cell) && ((!decide (z.2 = .local) || decide (z.1 = y)) && (!decide (z.2 = .free) || decide (sc.names.lookup z.1 = some .cell) || decide (sc.names.lookup z.1 = some .free))))))
theorem LamD.has {X : Cx} {scope : Scope} {y : Str} (L : LamD X.env.scope scope y) (ok : X.Ok) : ∀ z ∈ scope.names, z.2 = .free → ∃ c, X.env.cells.lookup z.1 = some c := fun z hz e => by
  rcases L.free z hz e with k | k
  · exact ok.has _ (.inl k)
  · exact ok.has _ (.inr k)
/-- the names that the body sees by their places -/
def nmOk (N N' : List Str) (y : Str) : Bool := decide (N'.length = N.length) && (N.zip N').all fun q => decide (q.2 = "") || (decide (q.1 = q.2) && decide (q.2 ≠ y))
def lamCxN (X : Cx) (N' : List Str) (A : Around) (outs : List Env) (s : Shared) (H : Hp) (E : XK) (scope : Scope) (f c' : Addr) : Cx := { lamCx X A outs s H E scope f c' with N := N' }
section
variable {X : Cx} {pins : List (Addr × Obj)} {σ : L2.St} {H HZ : Hp} {s s1 : Shared}
/-- the function object -/
abbrev lamOb (q : Str) (params : Arguments) (body : Expr) (scope : Scope) (cl : List (Str × Addr)) (T : Addr) (doc pm : Value) (c' : Addr) (ctv : Value) : Obj := PySem.W.kdv_obj "<lambda>" q params (.expr body) scope cl (.ref T) doc pm c' ctv
end
/-! passes within such a lambda -/
end Dn
namespace Dn
open PySem PySem.Spec PyProof.Rows L2 LamX

/-! found, error = None, None: a tuple that is there already -/
section
variable {X : Cx} {G : Cl} {Ng : List Str} {x a q : Str} {sg : Scope} {g C1 C2 : Addr} {cdg : Value} {bg : List Stmt} {n : Nat} {ok : Nat → Bool} {trest : TS} {frest : DS}
theorem heard_coreN (hN : L2.start Ng [V.non] = some V.non :: none :: none :: none :: List.replicate n none) (hlen : Ng.length = n + 4) (hG : G.K = X.K)
    (hk : ∀ (f c' : Addr) (s : Shared) (H : Hp) (tl : XK → Hp → VK → Prop),
      (∀ (W : WX) (pn : List (Addr × Obj)) (xe : Value → Shared → Prop) (p1 p2 : Pos), Takes ((cxOf C8.CX0 X.prog X.w X.K X.mg X.base Ng x sg g cdg X.A X.stack s H C8.E0).tr pn xe) W →
        PE ((cxOf C8.CX0 X.prog X.w X.K X.mg X.base Ng x sg g cdg X.A X.stack s H C8.E0).tr pn xe) (.Call (.Name a p1) [] [] p2) (fun σZ HZ Q => σZ[0]? = some (some (.ref f)) ∧ HZ c' = some (CodeO c' q) ∧ ∃ E : XK, (∀ cls d H', E cls d H' → W cls d σZ H') ∧ tl E HZ Q)) →
      PSs (cxOf C8.CX0 X.prog X.w X.K X.mg X.base Ng x sg g cdg X.A X.stack s H C8.E0).nox bg (tSeq (tAsg (tTup (tCons (tC .non) (tCons (tC .non) tNil))) (gTup X.K 2 (gCons (gName 1) (gCons (gName 2) gNil)))) (tSeq (tGot f c' q tl G.K C1 C2 false) trest)))
    (hrest : Ds G C8.E0 trest frest) (hok : ∀ c, ok c = true → PySem.W.exmAny G.K (.ref (G.xc c)) [.ref C1, .ref C2] = some true) :
    GivesA X Ng x sg g cdg bg a q (TTh G (heardD ok false n frest)) := by
  intro f c' s H Q tl act hc h
  refine ⟨_, hk f c' s H tl act, ?_⟩
  obtain ⟨M, m, r, st, htl, hp⟩ := h
  have e0 : EnvR G (bxOf G H M m) M (fun _ => 0) (none :: none :: none :: none :: List.replicate n none) m (some (V.ref f) :: none :: none :: none :: List.replicate n none) H := by
    have z := env_start (N := Ng) (vs := [V.non]) (ds := [D.non]) st (.cons .non .nil) (fun _ => 0)
    have er : ro0 Ng.length [D.non] = some (.v .non) :: none :: none :: none :: List.replicate n none := by
      unfold ro0
      rw [hlen]
      rfl
    rw [er, hN] at z
    refine (z.clr (i := 0)).keepσ rfl fun i s hi => ?_
    match i, hi with
    | i + 1, _ => rfl
  have es : L2.start Ng [V.ref f] = some (V.ref f) :: none :: none :: none :: List.replicate n none := by
    have z : L2.start Ng [V.ref f] = (L2.start Ng [V.non]).set 0 (some (V.ref f)) := rfl
    rw [z, hN]
    rfl
  rw [es]
  refine ⟨by show 2 ≤ sizeLine; decide, fun t ht => ⟨t, _, rfl, SqT.of upd_same, rfl, _, _, rfl, _, _, rfl, rfl, ?_⟩⟩
  have x1 : ExN H (upd H t (.tup [.non, .non])) := ExN.new ht
  have e1 := (((e0.go (e0.same x1)).setv (i := 1) (d := iniD false) .non).setv (i := 2) .non)
  exact got_run hok hrest st htl hc hp e1 (x1.k _ _ (fun z => z) codeO_ne hc)
/-- found = call() -/
theorem heard_3N {nt ne nx x1 x2 : Str} {p1 p2 p3 p4 p5 p6 p7 r1 r2 r3 r5 q1 q2 q3 s1 s2 s3 pos pos' : Pos} {k1 k2 k3 k4 k5 : Nat} {rest : List Stmt} (hG : G.K = X.K)
    (hN : L2.start Ng [V.non] = some V.non :: none :: none :: none :: List.replicate n none) (hlen : Ng.length = n + 4) (nd : Ng.Nodup) (h1 : Ng[1]? = some nt) (h2 : Ng[2]? = some nx) (h3 : Ng[3]? = some ne)
    (l1 : sg.names.lookup nt = some .local) (l2 : sg.names.lookup nx = some .local) (l3 : sg.names.lookup ne = some .local) (v3 : Vis sg ne) (hd1 : (ne == ("__debug__" : Str)) = false) (hd2 : (ne == ("__classdict__" : Str)) = false)
    (n1 : sg.names.lookup x1 = some .globalImplicit ∧ X.mg x1 = some (.ref C1) ∧ (x1 == ("__debug__" : Str)) = false) (n2 : sg.names.lookup x2 = some .globalImplicit ∧ X.mg x2 = some (.ref C2) ∧ (x2 == ("__debug__" : Str)) = false)
    (has : ∀ (s : Shared) (H : Hp), PS (cxOf C8.CX0 X.prog X.w X.K X.mg X.base Ng x sg g cdg X.A X.stack s H C8.E0).nox (.Assign [.Tuple [.Name nt p1, .Name nx p2] k1 p3] (.Tuple [.Constant .none k5 p4, .Constant .none k2 p5] k3 p6) p7) (tAsg (tTup (tCons (tC .non) (tCons (tC .non) tNil))) (gTup X.K 2 (gCons (gName 1) (gCons (gName 2) gNil)))))
    (hrest : Ds G C8.E0 trest frest) (hr : ∀ (s : Shared) (H : Hp), PSs (cxOf C8.CX0 X.prog X.w X.K X.mg X.base Ng x sg g cdg X.A X.stack s H C8.E0).nox rest trest) (hok : ∀ c, ok c = true → PySem.W.exmAny G.K (.ref (G.xc c)) [.ref C1, .ref C2] = some true) :
    GivesA X Ng x sg g cdg (.Assign [.Tuple [.Name nt p1, .Name nx p2] k1 p3] (.Tuple [.Constant .none k5 p4, .Constant .none k2 p5] k3 p6) p7 ::
      .Try [.Assign [.Name nt r1] (.Call (.Name a r2) [] [] r3) r5] [.ExceptHandler (some (.Tuple [.Name x1 q1, .Name x2 q2] k4 q3)) (some ne) [.Assign [.Name nx s1] (.Name ne s2) s3] pos'] [] [] pos :: rest) a q (TTh G (heardD ok false n frest)) := by
  refine heard_coreN hN hlen hG (fun f c' s H tl act => ?_) hrest hok
  refine pss_cons (has s H) (pss_cons ?_ (hr s H))
  rw [hG]
  exact ps_try_got (X := (cxOf C8.CX0 X.prog X.w X.K X.mg X.base Ng x sg g cdg X.A X.stack s H C8.E0).nox) (tb := fun W => tAsg (wrT false fun σ H Q => σ[0]? = some (some (.ref f)) ∧ H c' = some (CodeO c' q) ∧ ∃ E : XK, (∀ cls d H', E cls d H' → W cls d σ H') ∧ tl E H Q) (gName 1)) (ts := tAsg (tVar 3) (gName 2))
    rfl rfl nd (i := 3) h3 l3 ⟨n1.1, n1.2.1, n1.2.2⟩ ⟨n2.1, n2.2.1, n2.2.2⟩ (fun W pn xe tk _ => pss_one (ps_set (i := 1) nd h1 (.inl l1) (act W pn xe r2 r3 tk))) fun a pn => pss_one (ps_set (i := 2) nd h2 (.inl l2) (pe_var (i := 3) h3 v3 hd1 hd2))
end
end Dn
namespace Dn
open PySem PySem.Spec PyProof.Rows L2

/-! a, b, c = x, y, z: new lists and dicts among them that are changed later -/
section
variable {G : Cl} {B : Bx} {M : AP} {pm : Nat → Addr} {ρ : Ro} {m m' : Mo} {σ : L2.St} {H H' : Hp}
/-- what a list or dict at p is, all else being known to avoid p -/
def CnAt (G : Cl) (ad : Ad) (M : AP) (H : Hp) (p : Addr) : Sv → Prop
  | .v _ => False
  | .ml ds => ∃ vs, H p = some (.lst vs) ∧ Reps G ad M H vs ds
  | .mk l => ∃ kvs : List (Key × V), H p = some (.dK kvs) ∧ kvs.map (·.1) = l.map (·.1) ∧ Reps G ad M H (kvs.map (·.2)) (l.map (·.2))
  | .mn l => ∃ kvs : List (NestedKey × Addr × V) × Obj, H p = some (dN G.w p kvs) ∧ kvs.1.map (·.1) = l.map (·.1) ∧ Reps G ad M H (kvs.1.map fun p => V.ref p.2.1) (kDs (l.map (·.1))) ∧ Reps G ad M H (kvs.1.map (·.2.2)) (l.map (·.2))
theorem CnAt.mu {ad : Ad} {p : Addr} {s : Sv} (h : CnAt G ad M H p s) : s.mu = true := by
  cases s with
  | v d => exact h.elim
  | ml _ => rfl
  | mk _ => rfl
  | mn _ => rfl
theorem CnAt.live {ad : Ad} {p : Addr} {s : Sv} (h : CnAt G ad M H p s) : Liv H p := by
  cases s with
  | v d => exact h.elim
  | ml ds =>
    obtain ⟨vs, h1, _⟩ := h
    exact ⟨_, h1, fun ps z => by cases z⟩
  | mk l =>
    obtain ⟨vs, h1, _⟩ := h
    exact ⟨_, h1, fun ps z => by cases z⟩
  | mn l =>
    obtain ⟨vs, h1, _⟩ := h
    exact ⟨_, h1, dN_ntbl⟩
theorem CnAt.mono {ad : Ad} {p : Addr} {s : Sv} {A M' : AP} (h : CnAt G ad M H p s) (e : Ext A H H') (hA : ∀ b, A b → M b) (hM : ∀ b, M' b → M b) (n : ¬ A p) : CnAt G ad M' H' p s := by
  cases s with
  | v d => exact h.elim
  | ml ds =>
    obtain ⟨vs, h1, h2⟩ := h
    exact ⟨vs, e _ _ n (fun ps z => by cases z) h1, h2.mono e hA hM⟩
  | mk l =>
    obtain ⟨vs, h1, h2, h3⟩ := h
    exact ⟨vs, e _ _ n (fun ps z => by cases z) h1, h2, h3.mono e hA hM⟩
  | mn l =>
    obtain ⟨vs, h1, h2, h3, h4⟩ := h
    exact ⟨vs, e _ _ n dN_ntbl h1, h2, h3.mono e hA hM, h4.mono e hA hM⟩
theorem CnAt.off {ad : Ad} {p q : Addr} {s : Sv} (h : CnAt G ad M H p s) (o : ¬ Liv H q) : CnAt G ad (fun b => M b ∨ b = q) H p s := by
  cases s with
  | v d => exact h.elim
  | ml ds =>
    obtain ⟨vs, h1, h2⟩ := h
    exact ⟨vs, h1, h2.off o⟩
  | mk l =>
    obtain ⟨vs, h1, h2, h3⟩ := h
    exact ⟨vs, h1, h2, h3.off o⟩
  | mn l =>
    obtain ⟨vs, h1, h2, h3, h4⟩ := h
    exact ⟨vs, h1, h2, h3.off o, h4.off o⟩
theorem NewAt.cn {p : Addr} {s : Sv} (n : NewAt G B M H p s) : CnAt G B.ad (fun b => M b ∨ b = p) H p s := by
  cases s <;> exact n
/-- a new list or dict, kept aside -/
theorem EnvR.aside {p : Addr} (e : EnvR G B M pm ρ m σ H) (hp : ¬ Liv H p) (g : Go G B M m' H H') (lp : Liv H' p) (mr' : MRep G (fun b => M b ∨ b = p) H' m') : EnvR G (B.plus p) (fun b => M b ∨ b = p) pm ρ m' σ H' := by
  obtain ⟨o1, o2, o3⟩ := e.offX hp
  have x := g.x
  have up : ∀ {v : V} {d : D}, Rep G B.ad M H v d → Rep G B.ad (fun b => M b ∨ b = p) H' v d := fun {v d} r => (r.off hp).ext x fun b hb => .inl (e.aM b hb)
  have ups : ∀ {v : List V} {d : List D}, Reps G B.ad M H v d → Reps G B.ad (fun b => M b ∨ b = p) H' v d := fun {v d} r => (r.off hp).ext x fun b hb => .inl (e.aM b hb)
  refine ⟨fun b h => ?_, fun b h => ?_, g.ea, g.eh, e.len, fun i d h => ?_, fun i ds h => ?_, fun i l h => ?_, fun i l h => ?_, e.inj, fun i hi => ⟨(e.fr i hi).1, fun z => z.elim (e.fr i hi).2 fun q => ?_⟩, fun b hb => ?_, mr', fun b hb z => z.elim (e.mx b hb) fun q => o3 (q ▸ hb), e.mut, e.ext.trans x, g.tb, e.tt⟩
  · rcases h with h | (h | h) | h
    · exact .inl (e.em b (.inl h))
    · exact .inl (e.em b (.inr (.inl h)))
    · exact .inr h
    · exact .inl (e.em b (.inr (.inr h)))
  · rcases h with h | h
    · exact (e.go g).hl b h
    · rw [h]
      exact lp
  · obtain ⟨v, h1, h2⟩ := e.sv i d h
    exact ⟨v, h1, up h2⟩
  · obtain ⟨v, h1, h2, h3⟩ := e.sl i ds h
    exact ⟨v, h1, x _ _ (e.mut i ⟨_, h, rfl⟩) (fun ps z => by cases z) h2, ups h3⟩
  · obtain ⟨v, h1, h2, h3, h4⟩ := e.sk i l h
    exact ⟨v, h1, x _ _ (e.mut i ⟨_, h, rfl⟩) (fun ps z => by cases z) h2, h3, ups h4⟩
  · obtain ⟨v, h1, h2, h3, h4, h5⟩ := e.sn i l h
    exact ⟨v, h1, x _ _ (e.mut i ⟨_, h, rfl⟩) dN_ntbl h2, h3, ups h4, ups h5⟩
  · exact hp (q ▸ e.hl (pm i) (e.em _ (.inr (.inr ⟨i, hi, rfl⟩))))
  · rcases hb with hb | hb
    · exact (e.xs b hb).ext x fun z => e.mx b z hb
    · rw [hb]
      exact lp
/-- what was kept aside gets a name -/
theorem EnvR.named {i : Nat} {p : Addr} {s : Sv} (e : EnvR G (B.plus p) M pm ρ m σ H) (o1 : ¬ Liv B.H0 p) (o2 : ¬ B.X p) (o3 : ¬ B.A p) (n : CnAt G B.ad M H p s) (hi : i < ρ.length) :
    EnvR G B M (fun j => if j = i then p else pm j) (ρ.set i (some s)) m (σ.set i (some (.ref p))) H := by
  have hmu := n.mu
  have hMp : M p := e.em p (.inr (.inl (.inr rfl)))
  have old : ∀ {j : Nat}, isM (ρ.set i (some s)) j → j = i ∨ (j ≠ i ∧ isM ρ j) := fun {j} hj => by
    rcases isM_set hj with ⟨z, _, _⟩ | ⟨z1, z⟩
    · exact .inl z
    · exact .inr ⟨z1, z⟩
  have npm : ∀ j, isM ρ j → pm j ≠ p := fun j hj z => (e.fr j hj).2 (.inr z)
  refine ⟨fun b h => ?_, e.hl, e.ea, e.eh, by rw [List.length_set, List.length_set, e.len], fun j d' hj => ?_, fun j ds hj => ?_, fun j l hj => ?_, fun j l hj => ?_, fun a b ha hb hab => ?_, fun a ha => ?_, fun b hb => e.xs b (.inl hb), e.mr, fun b hb z => e.mx b hb (.inl z), fun a ha => ?_, e.ext, e.tb, e.tt⟩
  · rcases h with h | h | ⟨j, hj, hb⟩
    · exact e.em b (.inl h)
    · exact e.em b (.inr (.inl (.inl h)))
    · rcases old hj with z | ⟨z, z2⟩
      · have q : p = b := by rw [← hb]; exact (if_pos z).symm
        rw [← q]
        exact hMp
      · exact e.em b (.inr (.inr ⟨j, z2, by rw [← hb]; exact (if_neg z).symm⟩))
  · by_cases hji : j = i
    · subst hji
      rw [List.getElem?_set_self hi] at hj
      cases hj
      exact n.elim
    · rw [List.getElem?_set_ne (Ne.symm hji)] at hj
      obtain ⟨w, h1, h2⟩ := e.sv j d' hj
      exact ⟨w, by rw [List.getElem?_set_ne (Ne.symm hji)]; exact h1, h2⟩
  · by_cases hji : j = i
    · subst hji
      rw [List.getElem?_set_self hi] at hj
      cases hj
      obtain ⟨vs, h1, h2⟩ := n
      exact ⟨vs, by rw [if_pos rfl, List.getElem?_set_self (by rw [e.len]; exact hi)], by rw [if_pos rfl]; exact h1, h2⟩
    · rw [List.getElem?_set_ne (Ne.symm hji)] at hj
      obtain ⟨w, h1, h2, h3⟩ := e.sl j ds hj
      exact ⟨w, by rw [List.getElem?_set_ne (Ne.symm hji), if_neg hji]; exact h1, by rw [if_neg hji]; exact h2, h3⟩
  · by_cases hji : j = i
    · subst hji
      rw [List.getElem?_set_self hi] at hj
      cases hj
      obtain ⟨vs, h1, h2, h3⟩ := n
      exact ⟨vs, by rw [if_pos rfl, List.getElem?_set_self (by rw [e.len]; exact hi)], by rw [if_pos rfl]; exact h1, h2, h3⟩
    · rw [List.getElem?_set_ne (Ne.symm hji)] at hj
      obtain ⟨w, h1, h2, h3, h4⟩ := e.sk j l hj
      exact ⟨w, by rw [List.getElem?_set_ne (Ne.symm hji), if_neg hji]; exact h1, by rw [if_neg hji]; exact h2, h3, h4⟩
  · by_cases hji : j = i
    · subst hji
      rw [List.getElem?_set_self hi] at hj
      cases hj
      obtain ⟨vs, h1, h2, h3, h4⟩ := n
      exact ⟨vs, by rw [if_pos rfl, List.getElem?_set_self (by rw [e.len]; exact hi)], by rw [if_pos rfl]; exact h1, h2, h3, h4⟩
    · rw [List.getElem?_set_ne (Ne.symm hji)] at hj
      obtain ⟨w, h1, h2, h3, h4, h5⟩ := e.sn j l hj
      exact ⟨w, by rw [List.getElem?_set_ne (Ne.symm hji), if_neg hji]; exact h1, by rw [if_neg hji]; exact h2, h3, h4, h5⟩
  · rcases old ha with rfl | ⟨z1, z2⟩ <;> rcases old hb with h | ⟨y1, y2⟩
    · exact h.symm
    · simp only [if_true, if_neg y1] at hab
      exact absurd hab.symm (npm b y2)
    · subst h
      simp only [if_true, if_neg z1] at hab
      exact absurd hab (npm a z2)
    · simp only [if_neg z1, if_neg y1] at hab
      exact e.inj a b z2 y2 hab
  · rcases old ha with rfl | ⟨z1, z2⟩
    · simp only [if_true]
      exact ⟨o1, o2⟩
    · simp only [if_neg z1]
      exact ⟨(e.fr a z2).1, fun z => (e.fr a z2).2 (.inl z)⟩
  · rcases old ha with rfl | ⟨z1, z2⟩
    · simp only [if_true]
      exact o3
    · simp only [if_neg z1]
      exact e.mut a z2
end
/-! values in a row, new ones kept aside -/
def Bx.plusL (B : Bx) : List Addr → Bx
  | [] => B
  | p :: ps => (B.plus p).plusL ps
def MpL (M : AP) : List Addr → AP
  | [] => M
  | p :: ps => MpL (fun b => M b ∨ b = p) ps
theorem MpL.sub {M : AP} : ∀ {ps : List Addr} {b : Addr}, M b → MpL M ps b
  | [], _, h => h
  | _ :: ps, _, h => MpL.sub (ps := ps) (.inl h)
theorem plusL_f {B : Bx} : ∀ {ps : List Addr}, (B.plusL ps).A = B.A ∧ (B.plusL ps).ad = B.ad ∧ (B.plusL ps).H0 = B.H0 ∧ (B.plusL ps).T = B.T
  | [] => ⟨rfl, rfl, rfl, rfl⟩
  | p :: ps => by
    obtain ⟨h1, h2, h3, h4⟩ := plusL_f (B := B.plus p) (ps := ps)
    exact ⟨h1, h2, h3, h4⟩
/-- the values and what stands aside for them, from the left -/
inductive VsR (G : Cl) (M : AP) (H : Hp) : Bx → List V → List Sv → List Addr → Prop
  | nil {B : Bx} : VsR G M H B [] [] []
  | v {B : Bx} {v : V} {d : D} {vs : List V} {ss : List Sv} {ps : List Addr} (r : Rep G B.ad M H v d) (t : VsR G M H B vs ss ps) : VsR G M H B (v :: vs) (.v d :: ss) ps
  | n {B : Bx} {p : Addr} {s : Sv} {vs : List V} {ss : List Sv} {ps : List Addr} (o1 : ¬ Liv B.H0 p) (o2 : ¬ B.X p) (o3 : ¬ B.A p) (c : CnAt G B.ad M H p s) (t : VsR G M H (B.plus p) vs ss ps) : VsR G M H B (.ref p :: vs) (s :: ss) (p :: ps)
abbrev DVs := Ro → Mo → R (List Sv)
def PostVs (G : Cl) (E : XK) (B : Bx) (M : AP) (pm : Nat → Addr) (ρ : Ro) (σ : L2.St) (H : Hp) (r : R (List Sv)) (Q : List V → Hp → Prop) : Prop := match r with
  | .bad => False
  | .ok ss m' => ∀ vs ps H', EnvR G (B.plusL ps) (MpL M ps) pm ρ m' σ H' → VsR G (MpL M ps) H' B vs ss ps → Ext B.A H H' → (∀ b, MpL M ps b → M b ∨ ¬ Liv H b) → Q vs H'
  | .exc c l m' => ∀ cls dd H', Go G B (MB B) m' B.H0 H' → XRep G B.ad (MB B) H' c l cls dd → E cls dd H'
structure Dvs (G : Cl) (E : XK) (t : TA) (f : DVs) : Prop where
  run : ∀ {B : Bx} {M : AP} {pm : Nat → Addr} {ρ : Ro} {m : Mo} {σ : L2.St} {H : Hp}, EnvR G B M pm ρ m σ H → ∀ Q : List V → Hp → Prop, PostVs G E B M pm ρ σ H (f ρ m) Q → t σ H Q
def dvsNil : DVs := fun _ m => .ok [] m
def dvsCons (f : DV) (g : DVs) : DVs := fun ρ m => (f ρ m).bind fun s m1 => (g ρ m1).bind fun ss m2 => .ok (s :: ss) m2
section
variable {G : Cl} {E : XK}
theorem dvs_nil : Dvs G E tNil dvsNil := ⟨fun {B M pm ρ m σ H} e Q p => p [] [] H e .nil .refl fun _ h => .inl h⟩
theorem dvs_cons {t : TE} {f : DV} {u : TA} {g : DVs} (hf : Dv G E t f) (hg : Dvs G E u g) : Dvs G E (tCons t u) (dvsCons f g) := ⟨fun {B M pm ρ m σ H} e Q p => by
  unfold dvsCons at p
  refine hf.run e _ ?_
  cases hr : f ρ m with
  | bad => rw [hr] at p; exact p
  | exc c l m1 =>
    rw [hr] at p
    exact fun cls dd H' g' hx => p cls dd H' (Go.ofEnv e g') (hx.less e.mb)
  | ok s m1 =>
    rw [hr] at p
    intro v H1 g1 r1
    have p1 : PostVs G E B M pm ρ σ H ((g ρ m1).bind fun ss m2 => .ok (s :: ss) m2) Q := p
    have e1 := e.go g1
    -- a value that stays
    have plain : ∀ d, s = .v d → Rep G B.ad M H1 v d → u σ H1 fun vs H2 => Q (v :: vs) H2 := fun d hs rv => by
      subst hs
      refine hg.run e1 _ ?_
      cases hr2 : g ρ m1 with
      | bad => rw [hr2] at p1; exact p1
      | exc c l m2 => rw [hr2] at p1; exact p1
      | ok ss m2 =>
        rw [hr2] at p1
        intro vs ps H2 e2 w2 x2 k2
        obtain ⟨fA, fa, _, _⟩ := plusL_f (B := B) (ps := ps)
        have rz : Rep G B.ad (MpL M ps) H2 v d := by
          have z : Rep G B.ad (fun b => M b ∨ MpL M ps b) H1 v d := Rep.or k2 rv
          exact (z.ext x2 fun b hb => .inl (e.aM b hb)).less fun b hb => .inr hb
        refine p1 (v :: vs) ps H2 e2 (.v rz w2) (g1.x.trans x2) fun b hb => ?_
        · rcases k2 b hb with q | q
          · exact .inl q
          · by_cases hm : M b
            · exact .inl hm
            · exact .inr fun l => q (l.ext g1.x fun z => hm (e.aM b z))
    -- a new one
    have fresh : ∀ q, v = .ref q → ¬ Liv H q → NewAt G B M H1 q s → MRep G (fun b => M b ∨ b = q) H1 m1 → u σ H1 fun vs H2 => Q (v :: vs) H2 := fun q hv hq n mr => by
      subst hv
      obtain ⟨o1, o2, o3⟩ := e.offX hq
      have c1 := n.cn
      have e1' := e.aside hq g1 c1.live mr
      refine hg.run e1' _ ?_
      cases hr2 : g ρ m1 with
      | bad => rw [hr2] at p1; exact p1
      | exc c l m2 =>
        rw [hr2] at p1
        intro cls dd H' g' hx
        have sub : ∀ b, MB B b → MB (B.plus q) b := fun b h => h.elim .inl fun z => .inr (.inl z)
        exact p1 cls dd H' ⟨g'.x, g'.ea, g'.eh, g'.mr.less sub, g'.tb⟩ (hx.less sub)
      | ok ss m2 =>
        rw [hr2] at p1
        intro vs ps H2 e2 w2 x2 k2
        have cz : CnAt G B.ad (MpL (fun b => M b ∨ b = q) ps) H2 q s := by
          have z : CnAt G B.ad (fun b => (M b ∨ b = q) ∨ MpL (fun b => M b ∨ b = q) ps b) H1 q s := by
            cases s with
            | v d => exact c1.elim
            | ml ds =>
              obtain ⟨vs, h1, h2⟩ := c1
              exact ⟨vs, h1, h2.or k2⟩
            | mk l =>
              obtain ⟨vs, h1, h2, h3⟩ := c1
              exact ⟨vs, h1, h2, h3.or k2⟩
            | mn l =>
              obtain ⟨vs, h1, h2, h3, h4⟩ := c1
              exact ⟨vs, h1, h2, h3.or k2, h4.or k2⟩
          exact z.mono x2 (fun b hb => .inl (.inl (e.aM b hb))) (fun b hb => .inr hb) o3
        refine p1 (.ref q :: vs) (q :: ps) H2 e2 (.n o1 o2 o3 cz w2) (g1.x.trans x2) fun b hb => ?_
        · rcases k2 b hb with (h | h) | h
          · exact .inl h
          · exact .inr (h ▸ hq)
          · by_cases hm : M b
            · exact .inl hm
            · exact .inr fun l => h (l.ext g1.x fun z => hm (e.aM b z))
    cases s with
    | v d => exact plain d rfl r1
    | ml ds =>
      obtain ⟨q, hv, hq, n, mr⟩ := r1
      exact fresh q hv hq n mr
    | mk l =>
      obtain ⟨q, hv, hq, n, mr⟩ := r1
      exact fresh q hv hq n mr
    | mn l =>
      obtain ⟨q, hv, hq, n, mr⟩ := r1
      exact fresh q hv hq n mr⟩
/-- names get values, from the left -/
def setsD : List Nat → List Sv → Ro → Ro
  | i :: is, s :: ss, ρ => setsD is ss (ρ.set i (some s))
  | _, _, ρ => ρ
def setsσ : List Nat → List V → L2.St → L2.St
  | i :: is, v :: vs, σ => setsσ is vs (σ.set i (some v))
  | _, _, σ => σ
theorem EnvR.swapB {B B' : Bx} {M : AP} {pm : Nat → Addr} {ρ : Ro} {m : Mo} {σ : L2.St} {H : Hp} (e : EnvR G B M pm ρ m σ H) (h0 : B'.H0 = B.H0) (hX : ∀ b, B'.X b ↔ B.X b) (hd : B'.ad = B.ad) (hA : B'.A = B.A) (hT : B'.T = B.T) : EnvR G B' M pm ρ m σ H := by
  obtain ⟨b1, b2, b3, b4, b5⟩ := B
  obtain ⟨c1, c2, c3, c4, c5⟩ := B'
  cases (show c1 = b1 from h0)
  cases (show c3 = b3 from hd)
  cases (show c4 = b4 from hA)
  cases (show c5 = b5 from hT)
  cases (show c2 = b2 from funext fun b => propext (hX b))
  exact e
theorem plusL_X {B : Bx} : ∀ {ps : List Addr} {b : Addr}, (B.plusL ps).X b ↔ B.X b ∨ b ∈ ps
  | [], b => by simp [Bx.plusL]
  | p :: ps, b => by
    show ((B.plus p).plusL ps).X b ↔ _
    rw [plusL_X (B := B.plus p) (ps := ps)]
    show (B.X b ∨ b = p) ∨ b ∈ ps ↔ _
    rw [List.mem_cons, or_assoc]
theorem sets_env {M : AP} {m : Mo} {H : Hp} : ∀ {vs : List V} {ss : List Sv} {ps : List Addr} {B : Bx} {is : List Nat} {pm : Nat → Addr} {ρ : Ro} {σ : L2.St}, VsR G M H B vs ss ps → EnvR G (B.plusL ps) M pm ρ m σ H → is.length = ss.length → (∀ i ∈ is, i < ρ.length) →
    ∃ pm', EnvR G B M pm' (setsD is ss ρ) m (setsσ is vs σ) H
  | _, _, _, B, is, pm, ρ, σ, .nil, e, hl, _ => by
    cases is with
    | nil => exact ⟨pm, e⟩
    | cons i is => cases hl
  | _, _, _, B, is, pm, ρ, σ, .v (v := v) (d := d) (ps := ps) r t, e, hl, hi => by
    cases is with
    | nil => cases hl
    | cons i is =>
      obtain ⟨fA, fa, _, _⟩ := plusL_f (B := B) (ps := ps)
      have e1 := e.setv (i := i) (v := v) (d := d) (by rw [fa]; exact r)
      have z := sets_env (is := is) t e1 (Nat.succ.inj hl) fun j hj => by rw [List.length_set]; exact hi j (List.mem_cons_of_mem _ hj)
      exact z
  | _, _, _, B, is, pm, ρ, σ, .n (p := p) (s := s) (vs := us) (ss := ts) (ps := ps) o1 o2 o3 c t, e, hl, hi => by
    cases is with
    | nil => cases hl
    | cons i is =>
      -- the first one is named while the others are still aside
      obtain ⟨fA, fa, f0, fT⟩ := plusL_f (B := B) (ps := ps)
      obtain ⟨gA, ga, g0, gT⟩ := plusL_f (B := B) (ps := p :: ps)
      have np : p ∉ ps := by
        clear e hl hi c o1 o2 o3
        have key : ∀ {vs : List V} {ss : List Sv} {qs : List Addr} {B' : Bx}, VsR G M H B' vs ss qs → B'.X p → p ∉ qs := by
          intro vs ss qs B' w
          induction w with
          | nil => exact fun _ z => by cases z
          | v r t ih => exact ih
          | n a1 a2 a3 c t ih =>
            intro hx z
            rcases List.mem_cons.mp z with rfl | z
            · exact a2 hx
            · exact ih (.inl hx) z
        exact key t (.inr rfl)
      have e' : EnvR G ((B.plusL ps).plus p) M pm ρ m σ H := e.swapB (by rw [g0]; exact f0) (fun b => by
        show (B.plusL ps).X b ∨ b = p ↔ _
        rw [plusL_X, plusL_X, List.mem_cons]
        constructor
        · rintro ((h | h) | h)
          · exact .inl h
          · exact .inr (.inr h)
          · exact .inr (.inl h)
        · rintro (h | h | h)
          · exact .inl (.inl h)
          · exact .inr h
          · exact .inl (.inr h)) (by rw [ga]; exact fa) (by rw [gA]; exact fA) (by rw [gT]; exact fT)
      have e1 := e'.named (i := i) (p := p) (s := s) (by rw [f0]; exact o1) (fun z => by rw [plusL_X] at z; exact z.elim o2 np) (by rw [fA]; exact o3) (by rw [fa]; exact c) (hi i (List.mem_cons_self ..))
      have t' : VsR G M H B us ts ps := by
        clear e e' e1 hl hi
        have key : ∀ {vs : List V} {ss : List Sv} {qs : List Addr} {C C' : Bx}, VsR G M H C vs ss qs → C'.H0 = C.H0 → C'.ad = C.ad → C'.A = C.A → (∀ b, C'.X b → C.X b) → VsR G M H C' vs ss qs := by
          intro vs ss qs C C' w
          induction w generalizing C' with
          | nil => exact fun _ _ _ _ => .nil
          | v r t ih => exact fun h0 hd hA hX => .v (by rw [hd]; exact r) (ih h0 hd hA hX)
          | n a1 a2 a3 c t ih => exact fun h0 hd hA hX => .n (by rw [h0]; exact a1) (fun z => a2 (hX _ z)) (by rw [hA]; exact a3) (by rw [hd]; exact c) (ih h0 hd hA fun b z => z.elim (fun z => .inl (hX b z)) .inr)
        exact key t rfl rfl rfl fun b z => .inl z
      have z := sets_env (is := is) t' e1 (Nat.succ.inj hl) fun j hj => by rw [List.length_set]; exact hi j (List.mem_cons_of_mem _ hj)
      exact z
def sParV (is : List Nat) (f : DVs) : DS := fun ρ m => sBind (f ρ m) fun ss m1 => if ss.length = is.length ∧ (∀ i ∈ is, i < ρ.length) then .nx (setsD is ss ρ) m1 else .bad
theorem VsR.len {M : AP} {H : Hp} {B : Bx} {vs : List V} {ss : List Sv} {ps : List Addr} (w : VsR G M H B vs ss ps) : vs.length = ss.length := by
  induction w with
  | nil => rfl
  | v r t ih => exact congrArg Nat.succ ih
  | n a1 a2 a3 c t ih => exact congrArg Nat.succ ih
theorem parV_run {is : List Nat} {t : TA} {f : DVs} (h : Dvs G E t f) {B : Bx} {M : AP} {pm : Nat → Addr} {ρ : Ro} {m : Mo} {σ : L2.St} {H : Hp} (e : EnvR G B M pm ρ m σ H) (Z : Ends) (p : PostS G E B M H (sParV is f ρ m) Z) (Q : List V → Hp → Prop)
    (hQ : ∀ vs H', vs.length = is.length → (∀ H2 : Hp, ExN H' H2 → Z.nx (setsσ is vs σ) H2) → Q vs H') : t σ H Q := by
  refine h.run e _ ?_
  unfold sParV at p
  cases hr : f ρ m with
  | bad => rw [hr] at p; exact p
  | exc c l m1 => rw [hr] at p; exact p
  | ok ss m1 =>
    rw [hr] at p
    have p1 : PostS G E B M H (if ss.length = is.length ∧ (∀ i ∈ is, i < ρ.length) then .nx (setsD is ss ρ) m1 else .bad) Z := p
    split at p1
    rotate_left
    · exact p1.elim
    rename_i hc
    intro vs ps H' e' w x k
    obtain ⟨pm', e2⟩ := sets_env w e' hc.1.symm hc.2
    have st : Stp M H (MpL M ps) H' := ⟨x.imp e.aM, k⟩
    exact hQ vs H' (w.len.trans hc.1) fun H2 x2 => p1 _ _ _ _ (e2.go (e2.same x2)) (st.trans (e2.stp (e2.same x2)))
theorem two_of {α : Type} {l : List α} (h : l.length = 2) : ∃ a b, l = [a, b] := match l, h with | [a, b], _ => ⟨a, b, rfl⟩
theorem three_of {α : Type} {l : List α} (h : l.length = 3) : ∃ a b c, l = [a, b, c] := match l, h with | [a, b, c], _ => ⟨a, b, c, rfl⟩
theorem ds_parV2 {i j : Nat} {t : TA} {f : DVs} (h : Dvs G E t f) : Ds G E (tPar i j t) (sParV [i, j] f) := ⟨fun {B M pm ρ m σ H} e Z p => by
  refine parV_run h e Z p _ fun vs H' hl k => ?_
  obtain ⟨a, b, rfl⟩ := two_of hl
  exact ⟨a, b, rfl, k H' ExN.refl⟩⟩
theorem ds_parV3 {i j l : Nat} {t : TA} {f : DVs} (h : Dvs G E t f) : Ds G E (tPar3 i j l t) (sParV [i, j, l] f) := ⟨fun {B M pm ρ m σ H} e Z p => by
  refine parV_run h e Z p _ fun vs H' hl k => ?_
  obtain ⟨a, b, c, rfl⟩ := three_of hl
  exact ⟨a, b, c, rfl, k H' ExN.refl⟩⟩
end
section
variable {ρ : Ro} {m : Mo}
theorem ev_parV {is : List Nat} {f : DVs} : sParV is f ρ m = sBind (f ρ m) fun ss m1 => if ss.length = is.length ∧ (∀ i ∈ is, i < ρ.length) then .nx (setsD is ss ρ) m1 else .bad := Eq.trans rfl rfl
theorem ev_dvsN : dvsNil ρ m = .ok [] m := Eq.trans rfl rfl
theorem ev_dvsC {f : DV} {g : DVs} : dvsCons f g ρ m = (f ρ m).bind fun s m1 => (g ρ m1).bind fun ss m2 => .ok (s :: ss) m2 := Eq.trans rfl rfl
theorem ev_setsC {i : Nat} {is : List Nat} {s : Sv} {ss : List Sv} : setsD (i :: is) (s :: ss) ρ = setsD is ss (ρ.set i (some s)) := Eq.trans rfl rfl
theorem ev_setsN {ss : List Sv} : setsD [] ss ρ = ρ := by cases ss <;> rfl
end
end Dn
namespace Dn
open PySem PySem.Spec PyProof.Rows L2

/-! dicts whose keys are tuples: what the object's rules ask -/
mutual
inductive NKey (H : Hp) : V → NestedKey → Prop
  | none : NKey H .non .none
  | num (i : Int) : NKey H (.int i) (.num i)
  | text (x : Str) : NKey H (.str x) (.text x)
  | tup {a : Addr} {vs : List V} {ks : List NestedKey} (h : TupH H a vs) (r : NKeys H vs ks) : NKey H (.ref a) (.tup ks)
inductive NKeys (H : Hp) : List V → List NestedKey → Prop
  | nil : NKeys H [] []
  | cons {v : V} {k : NestedKey} {vs : List V} {ks : List NestedKey} (r : NKey H v k) (t : NKeys H vs ks) : NKeys H (v :: vs) (k :: ks)
end
section
variable {G : Cl} {ad : Ad} {M : AP} {H : Hp}
mutual
theorem Rep.nkey : ∀ (k : NestedKey) (v : V), Rep G ad M H v (kD k) → NKey H v k
  | .none, _, r => by unfold kD at r; cases r; exact .none
  | .num i, _, r => by unfold kD at r; cases r; exact .num i
  | .text x, _, r => by unfold kD at r; cases r; exact .text x
  | .tup l, _, r => by
    unfold kD at r
    cases r with
    | tup h n r => exact .tup h (Reps.nkeys l _ r)
theorem Reps.nkeys : ∀ (ks : List NestedKey) (vs : List V), Reps G ad M H vs (kDs ks) → NKeys H vs ks
  | [], _, r => by unfold kDs at r; cases r; exact .nil
  | k :: ks, _, r => by
    unfold kDs at r
    cases r with
    | cons r t => exact .cons (Rep.nkey k _ r) (Reps.nkeys ks _ t)
end
end
section
variable {P : Program} {w : World} {H : Hp} {h : Heap}
mutual
theorem NKey.is (ok : HOk P w H h) : ∀ {v : V} {k : NestedKey} {u : Value}, NKey H v k → RelV v u → NestedIs h k u
  | _, _, u, .none, r => by cases (show u = Value.none from r); exact .none
  | _, _, u, .num i, r => by
    obtain ⟨t, rfl⟩ : ∃ t, u = .int i t := r
    exact .int i t
  | _, _, u, .text x, r => by
    obtain ⟨t, rfl⟩ : ∃ t, u = .str x t := r
    exact .text x t
  | _, _, u, .tup (a := a) q t, r => by
    cases (show u = Value.ref a from r)
    obtain ⟨_, its, rv, ob, e, c, n, d⟩ := q.rd.ok ok
    refine .tup e c d ?_
    rw [List.toList_toArray]
    exact NKeys.is ok t rv
theorem NKeys.is (ok : HOk P w H h) : ∀ {vs : List V} {ks : List NestedKey} {us : List Value}, NKeys H vs ks → Vals vs us → NestedAll h ks us
  | _, _, _, .nil, .nil => .nil
  | _, _, _, .cons r t, .cons q qs => .cons (NKey.is ok r q) (NKeys.is ok t qs)
end
end
abbrev KvN := List (NestedKey × Addr × V)
def valN (kvs : KvN) (k : NestedKey) : Option V := (kvs.find? fun p => decide (p.1 = k)).map (·.2.2)
def putN (kvs : KvN) (k : NestedKey) (b : Addr) (v : V) : KvN := if (valN kvs k).isSome = true then kvs.map (fun p => if p.1 = k then (p.1, p.2.1, v) else p) else kvs ++ [(k, b, v)]
abbrev NRel : KvN → List (NestedKey × Addr × Value) → Prop := Paired fun p q => p.1 = q.1 ∧ p.2.1 = q.2.1 ∧ RelV p.2.2 q.2.2
theorem NRel.val {kvs : KvN} {xs : List (NestedKey × Addr × Value)} (r : NRel kvs xs) (k : NestedKey) : RelO (valN kvs k) ((atKey xs k).map (·.2)) := by
  induction r with
  | nil => trivial
  | cons q t ih =>
    rename_i p x l l'
    obtain ⟨e1, e2, e3⟩ := q
    unfold valN atKey at ih ⊢
    rw [List.find?_cons, List.find?_cons, ← e1]
    by_cases hk : p.1 = k
    · rw [decide_eq_true hk]
      exact e3
    · rw [decide_eq_false hk]
      exact ih
theorem NRel.repl {kvs : KvN} {xs : List (NestedKey × Addr × Value)} (r : NRel kvs xs) (k : NestedKey) {v : V} {u : Value} (rv : RelV v u) : NRel (kvs.map fun p => if p.1 = k then (p.1, p.2.1, v) else p) (xs.map (putAt k u)) := by
  induction r with
  | nil => exact .nil
  | cons q t ih =>
    rename_i p x l l'
    obtain ⟨e1, e2, e3⟩ := q
    refine .cons ?_ ih
    unfold putAt
    dsimp only
    by_cases hk : p.1 = k
    · rw [if_pos hk, if_pos (by rw [← e1]; exact hk)]
      exact ⟨e1, e2, rv⟩
    · rw [if_neg hk, if_neg (by rw [← e1]; exact hk)]
      exact ⟨e1, e2, e3⟩
theorem NRel.snoc {kvs : KvN} {xs : List (NestedKey × Addr × Value)} (r : NRel kvs xs) {k : NestedKey} {b : Addr} {v : V} {u : Value} (rv : RelV v u) : NRel (kvs ++ [(k, b, v)]) (xs ++ [(k, b, u)]) := by
  induction r with
  | nil => exact .cons ⟨rfl, rfl, rv⟩ .nil
  | cons q t ih => exact .cons q ih
theorem NRel.put {kvs : KvN} {xs : List (NestedKey × Addr × Value)} (r : NRel kvs xs) (k : NestedKey) (b : Addr) {v : V} {u : Value} (rv : RelV v u) : NRel (putN kvs k b v) (storedH xs k b u) := by
  have e : (valN kvs k).isSome = (atKey xs k).isSome := by
    have z := (r.val k).isSome_eq
    rw [Option.isSome_map] at z
    exact z
  unfold putN storedH
  rw [e]
  by_cases h : (atKey xs k).isSome = true
  · rw [if_pos h, if_pos h]
    exact r.repl k rv
  · rw [if_neg h, if_neg h]
    exact r.snoc rv
theorem NRel.mem {kvs : KvN} {xs : List (NestedKey × Addr × Value)} {x : NestedKey × Addr × Value} (r : NRel kvs xs) (hx : x ∈ xs) : ∃ p ∈ kvs, p.1 = x.1 ∧ p.2.1 = x.2.1 := by
  induction r with
  | nil => cases hx
  | cons q t ih =>
    rename_i p y l l'
    rcases List.mem_cons.mp hx with rfl | hx
    · exact ⟨p, List.mem_cons_self .., q.1, q.2.1⟩
    · obtain ⟨p', hp', e⟩ := ih hx
      exact ⟨p', List.mem_cons_of_mem _ hp', e⟩
theorem length_putN (kvs : KvN) (k : NestedKey) (b : Addr) (v : V) : (putN kvs k b v).length ≤ kvs.length + 1 := by
  unfold putN
  split <;> simp
/-- at a stands such a dict, its keys stand as they are told -/
structure NDict (w : World) (H : Hp) (a : Addr) (kvs : KvN × Obj) : Prop where
  at_ : H a = some (dN w a kvs)
  ks : ∀ p ∈ kvs.1, NKey H (.ref p.2.1) p.1
structure KeyAt (H : Hp) (y : V) (k : NestedKey) (b : Addr) : Prop where
  e : y = .ref b
  nk : NKey H (.ref b) k
  d : k.depth ≤ 8
theorem NDict.raw {P : Program} {w : World} {H : Hp} {h : Heap} {a : Addr} {kvs : KvN × Obj} (ok : HOk P w H h) (D : NDict w H a kvs) : h.get? a = some kvs.2 ∧ kvs.1.length ≤ sizeLine ∧ (a == sysModules) = false ∧ ∃ xs, NRel kvs.1 xs ∧ h.DictOfH (nestedKind P w) a xs := by
  obtain ⟨⟨h0, z, hd, hdep, xs, r, es, ep, h2, h3, h4, h5⟩, _, _⟩ := ok _ _ D.at_
  refine ⟨h0, z, hd, xs, r, kvs.2, es, ep, h0, h2, h3, h4, fun x hx => ?_, h5⟩
  obtain ⟨p, hp, e1, e2⟩ := NRel.mem r hx
  rw [← e1, ← e2]
  exact ⟨(D.ks p hp).is ok rfl, hdep p hp⟩
theorem KeyAt.is {P : Program} {w : World} {H : Hp} {h : Heap} {y : V} {k : NestedKey} {b : Addr} (ok : HOk P w H h) (K : KeyAt H y k b) : (nestedKind P w).is h k b := ⟨K.nk.is ok rfl, K.d⟩
abbrev dictO : Obj := { cls := .type "dict", data := .dict #[] }
theorem NDict.empty {P : Program} {w : World} {H : Hp} (h : Heap) (hb : sysModules < h.objs.size) : ObjOk P w H (h.push dictO) h.objs.size (dN w h.objs.size ([], dictO)) := by
  refine ⟨⟨Heap.get?_push_size _ rfl, Nat.zero_le _, ?_, (fun p hp => by cases hp), [], .nil, #[], 0, ⟨rfl, rfl, rfl⟩, rfl, rfl, List.nodup_nil⟩, ⟨_, Heap.get?_push_size _ rfl⟩, fun h1 h2 a1 st => ⟨st _ a1.1, a1.2⟩⟩
  have : h.objs.size ≠ sysModules := Nat.ne_of_gt hb
  simpa using this
/-! the rules -/
section
variable {X : Cx} {pins : List (Addr × Obj)} {σ : L2.St} {H : Hp} {s : Shared} {a b : Addr} {kvs : KvN × Obj} {k : NestedKey} {y v : V} {u r : Value} {A : Around} {E : Value → Shared → Prop}
theorem room8 (hu : A.units + 10 < cLine) : (nestedKind X.prog X.w).room A.in1 := by
  show A.in1.units + 8 < cLine
  have : A.in1.units = A.units + 1 := rfl
  omega
theorem n_getItem {Q : Value → Shared → Prop} (hu : A.units + 10 < cLine) (I : Inv X pins σ H s) (D : NDict X.w H a kvs) (K : KeyAt H y k b) (hv : valN kvs.1 k = some v) (ry : RelV y u) (h : ∀ w' s', Inv X pins σ H s' → RelV v w' → Q w' s') :
    wpAny (model X.prog X.w) A (getItem (.ref a) u) Q E s := by
  obtain ⟨_, z, hd, xs, rel, dd⟩ := D.raw I.hok
  have e := K.e
  subst e
  cases (show u = Value.ref b from ry)
  obtain ⟨w', hw, rw'⟩ := RelO.some_of (v := v) (o := (atKey xs k).map (·.2)) (by rw [← hv]; exact NRel.val rel k)
  obtain ⟨p, hp, hp2⟩ := Option.map_eq_some_iff.mp hw
  refine wpAny_getItem_heap (room8 hu) (K.is I.hok) dd hp ?_
  rw [hp2]
  exact h w' _ (I.tok _) rw'
theorem n_in {Q : Value → Shared → Prop} (hu : A.units + 10 < cLine) (I : Inv X pins σ H s) (D : NDict X.w H a kvs) (K : KeyAt H y k b) (ry : RelV y u) (h : ∀ s', Inv X pins σ H s' → Q (.bool (valN kvs.1 k).isSome) s') :
    wpAny (model X.prog X.w) A (compareOp .In u (.ref a)) Q E s := by
  obtain ⟨_, z, hd, xs, rel, dd⟩ := D.raw I.hok
  have e := K.e
  subst e
  cases (show u = Value.ref b from ry)
  refine wpAny_in_heap (room8 hu) (K.is I.hok) hd dd ?_
  have q := (NRel.val rel k).isSome_eq
  rw [Option.isSome_map] at q
  rw [← q]
  exact h _ (I.tok _)
theorem n_notIn {Q : Value → Shared → Prop} (hu : A.units + 10 < cLine) (I : Inv X pins σ H s) (D : NDict X.w H a kvs) (K : KeyAt H y k b) (ry : RelV y u) (h : ∀ s', Inv X pins σ H s' → Q (.bool (!(valN kvs.1 k).isSome)) s') :
    wpAny (model X.prog X.w) A (compareOp .NotIn u (.ref a)) Q E s := by
  obtain ⟨_, z, hd, xs, rel, dd⟩ := D.raw I.hok
  have e := K.e
  subst e
  cases (show u = Value.ref b from ry)
  refine wpAny_notIn_heap (room8 hu) (K.is I.hok) hd dd ?_
  have q := (NRel.val rel k).isSome_eq
  rw [Option.isSome_map] at q
  rw [← q]
  exact h _ (I.tok _)
theorem n_setItem {Q : Unit → Shared → Prop} (hu : A.units + 10 < cLine) (I : Inv X pins σ H s) (D : NDict X.w H a kvs) (K : KeyAt H y k b) (hl : kvs.1.length < sizeLine) (ry : RelV y u) (rv : RelV v r) (h : ∀ s' ob, Inv X pins σ (upd H a (dN X.w a (putN kvs.1 k b v, ob))) s' → Q () s') :
    wpAny (model X.prog X.w) A (setItem (.ref a) u r) Q E s := by
  obtain ⟨_, z, hd, xs, rel, dd⟩ := D.raw I.hok
  obtain ⟨⟨_, _, _, hdep, _⟩, _, _⟩ := I.hok _ _ D.at_
  have e := K.e
  subst e
  cases (show u = Value.ref b from ry)
  have hz : xs.length ≤ sizeLine := by rw [← Paired.length rel]; exact z
  have hl2 : (putN kvs.1 k b v).length ≤ sizeLine := by have := length_putN kvs.1 k b v; omega
  have hdep2 : ∀ p ∈ putN kvs.1 k b v, p.1.depth ≤ 8 := fun p hp => by
    unfold putN at hp
    split at hp
    · obtain ⟨q, hq, e⟩ := List.mem_map.mp hp
      split at e <;> rw [← e] <;> exact hdep q hq
    · rcases List.mem_append.mp hp with hp | hp
      · exact hdep p hp
      · cases List.mem_singleton.mp hp
        exact K.d
  refine wpAny_setItem_heap (hsz := hz) (room8 hu) (K.is I.hok) dd fun h' dd' hs => ?_
  obtain ⟨q, es, ep, hq, h2, h3, h4, _, h5⟩ := dd'
  refine h _ q (d_write I (by rw [D.at_]; unfold dN; exact True.intro) hs ⟨q, hq⟩ ⟨⟨hq, hl2, hd, hdep2, _, NRel.put rel k b rv, es, ep, h2, h3, h4, h5⟩, ⟨q, hq⟩, fun h1 h2 a1 st => ⟨st _ a1.1, a1.2⟩⟩)
end
end Dn
namespace Dn
open PySem PySem.Spec PyProof.Rows L2

/-! subscripts, in, stores: lists, tuples, texts and dicts alike -/
def DGetU (w : World) (H : Hp) (a : Addr) (y : V) (o : Option V) : Prop := DGet H a y o ∨ ∃ kvs k b, NDict w H a kvs ∧ KeyAt H y k b ∧ valN kvs.1 k = o
section
variable {X : Cx} {pins : List (Addr × Obj)} {σ : L2.St} {H : Hp} {s : Shared} {a : Addr} {y v d : V} {u r : Value} {o : Option V} {A : Around} {E : Value → Shared → Prop}
theorem u_getItem {Q : Value → Shared → Prop} (hu : A.units + 10 < cLine) (I : Inv X pins σ H s) (g : DGetU X.w H a y (some v)) (ry : RelV y u) (h : ∀ w' s', Inv X pins σ H s' → RelV v w' → Q w' s') :
    wpAny (model X.prog X.w) A (getItem (.ref a) u) Q E s := by
  rcases g with g | ⟨kvs, k, b, D, K, e⟩
  · exact d_getItem (by omega) I g ry h
  · exact n_getItem hu I D K e ry h
theorem u_typeIs (I : Inv X pins σ H s) (g : DGetU X.w H a y o) : s.TypeIs (.ref a) "dict" := by
  rcases g with g | ⟨kvs, k, b, D, K, e⟩
  · exact dict_typeIs I g
  · obtain ⟨_, _, _, xs, _, dd⟩ := D.raw I.hok
    exact dd.typeIs
theorem u_in {Q : Value → Shared → Prop} (hu : A.units + 10 < cLine) (I : Inv X pins σ H s) (g : DGetU X.w H a y o) (ry : RelV y u) (h : ∀ s', Inv X pins σ H s' → Q (.bool o.isSome) s') :
    wpAny (model X.prog X.w) A (compareOp .In u (.ref a)) Q E s := by
  rcases g with g | ⟨kvs, k, b, D, K, e⟩
  · exact d_in (by omega) I g ry h
  · subst e
    exact n_in hu I D K ry h
theorem u_notIn {Q : Value → Shared → Prop} (hu : A.units + 10 < cLine) (I : Inv X pins σ H s) (g : DGetU X.w H a y o) (ry : RelV y u) (h : ∀ s', Inv X pins σ H s' → Q (.bool (!o.isSome)) s') :
    wpAny (model X.prog X.w) A (compareOp .NotIn u (.ref a)) Q E s := by
  rcases g with g | ⟨kvs, k, b, D, K, e⟩
  · exact d_notIn (by omega) I g ry h
  · subst e
    exact n_notIn hu I D K ry h
end
/-- a subscript's end, of a built-in type -/
theorem subT_end {prog : Program} {w : World} {A : Around} {E : Value → Shared → Prop} {s : Shared} {vx sx : Expr} {T id : String} {ov iv : Value} {Q : Value → Shared → Prop} (hT : s.TypeIs ov T)
    (hl : typeLookup (.type T) "__getitem__" = pure (some (.builtin id))) (hs : subscripted sx false ov iv = operate [ov, iv] (getItem ov iv)) (h : wpAny (model prog w) A (getItem ov iv) Q E s) : wpAny (model prog w) A (subscriptTail vx sx ov iv) Q E s := by
  unfold subscriptTail
  refine wpAny_bind ?_
  rw [getitemInPython_of_ne hT.not_modules]
  refine wpAny_bind (wpAny_specialOf hT hl ?_)
  have fin : wpAny (model prog w) A (subscripted sx false ov iv) (fun z s3 => wpAny (model prog w) A (letTemporaryGo vx ov z >>= fun _ => pure z) Q E s3) E s := by
    rw [hs]
    exact wpAny_operating (wpAny_mono h (fun z s3 q => wpAny_bind (wpAny_letTemporaryGo (wpAny_pure q))) fun _ _ z => z)
  first
    | exact wpAny_pure (wpAny_bind fin)
    | exact wpAny_bind (wpAny_pure (wpAny_bind fin))
    | exact wpAny_bind fin
def rIxD (w : World) : R2 := fun x y H Q => ∃ a v, x = .ref a ∧ DGetU w H a y (some v) ∧ Q v H
theorem ix_dict {X : Cx} (hu : X.A.units + 10 < cLine) : IxR X (rIxD X.w) := by
  intro value slice pins s σ H x y v u Q I rx ry h hs
  obtain ⟨a, z, rfl, g, q⟩ := h
  cases (show v = Value.ref a from rx)
  exact subT_end (u_typeIs I g) PySem.F.slot_dict_getitem.lookup hs (u_getItem hu I g ry fun w' s3 I3 rw' => ⟨z, H, I3, rw', q⟩)
def rIxV (K : PySem.W.Frag) (w : World) : R2 := fun x y H Q => rIx K x y H Q ∨ rIxD w x y H Q
theorem ix_V {X : Cx} (hu : X.A.units + 10 < cLine) : IxR X (rIxV X.K X.w) := IxR.or ix_seq (ix_dict hu)
def rInD2 (neg : Bool) (w : World) : R2 := fun x y H Q => ∃ a o, y = .ref a ∧ DGetU w H a x o ∧ Q (.bl (neg ^^ o.isSome)) H
theorem op_inD2 {X : Cx} (hu : X.A.units + 10 < cLine) : OpR X (compareOp .In) (rInD2 false X.w) := by
  intro pins s σ H x y v u Q I rx ry h
  obtain ⟨a, o, rfl, g, q⟩ := h
  cases (show u = Value.ref a from ry)
  refine u_in hu I g rx fun s3 I3 => ⟨.bl o.isSome, H, I3, rfl, ?_⟩
  rw [Bool.false_xor] at q
  exact q
theorem op_notInD2 {X : Cx} (hu : X.A.units + 10 < cLine) : OpR X (compareOp .NotIn) (rInD2 true X.w) := by
  intro pins s σ H x y v u Q I rx ry h
  obtain ⟨a, o, rfl, g, q⟩ := h
  cases (show u = Value.ref a from ry)
  refine u_notIn hu I g rx fun s3 I3 => ⟨.bl (!o.isSome), H, I3, rfl, ?_⟩
  rw [Bool.true_xor] at q
  exact q
def rInV (K : PySem.W.Frag) (w : World) : R2 := fun x y H Q => rInU K x y H Q ∨ rInD2 false w x y H Q
def rNotInV (K : PySem.W.Frag) (w : World) : R2 := fun x y H Q => rNotInU K x y H Q ∨ rInD2 true w x y H Q
theorem op_inV {X : Cx} (hu : X.A.units + 65 < cLine) : OpR X (compareOp .In) (rInV X.K X.w) := OpR.or (op_inU hu) (op_inD2 (by omega))
theorem op_notInV {X : Cx} (hu : X.A.units + 65 < cLine) : OpR X (compareOp .NotIn) (rNotInV X.K X.w) := OpR.or (op_notInU hu) (op_notInD2 (by omega))
theorem PSet.or {X : Cx} {t t' : TSet} (h : PSet X t) (h' : PSet X t') : PSet X (fun o i v H Q => t o i v H Q ∨ t' o i v H Q) := by
  intro pins s σ H o i v ov iv u Q I ro ri rv q
  rcases q with q | q
  · exact h pins s σ H o i v ov iv u Q I ro ri rv q
  · exact h' pins s σ H o i v ov iv u Q I ro ri rv q
def rSetD (w : World) : TSet := fun o i v H Q => (∃ a H', o = .ref a ∧ DPut H a i v H' ∧ Q H') ∨ ∃ a kvs k b, o = .ref a ∧ NDict w H a kvs ∧ KeyAt H i k b ∧ kvs.1.length < sizeLine ∧ ∀ ob, Q (upd H a (dN w a (putN kvs.1 k b v, ob)))
theorem set_dict {X : Cx} (hu : X.A.units + 10 < cLine) : PSet X (rSetD X.w) := by
  intro pins s σ H o i v ov iv u Q I ro ri rv h
  rcases h with ⟨a, H', rfl, g, q⟩ | ⟨a, kvs, k, b, rfl, D, K, hl, q⟩
  · cases (show ov = Value.ref a from ro)
    exact d_setItem (by omega) I g ri rv fun s3 I3 => ⟨H', I3, q⟩
  · cases (show ov = Value.ref a from ro)
    exact n_setItem hu I D K hl ri rv fun s3 ob I3 => ⟨_, I3, q ob⟩
def rSetV (w : World) : TSet := fun o i v H Q => rSetL o i v H Q ∨ rSetD w o i v H Q
theorem set_V {X : Cx} (hu : X.A.units + 10 < cLine) : PSet X (rSetV X.w) := PSet.or set_list (set_dict hu)
def IsDU (w : World) (H : Hp) (a : Addr) : Prop := IsD H a ∨ ∃ kvs, NDict w H a kvs
/-- d.get(k, x) -/
def tDGetU2 (w : World) (td ty tx : TE) : TE := fun σ H Q => td σ H fun x H1 => ∃ a, x = .ref a ∧ IsDU w H1 a ∧ ty σ H1 fun y H2 => tx σ H2 fun z H3 => ∃ o, DGetU w H3 a y o ∧ Q (o.getD z) H3
/-! as data -/
section
variable {κ : Type} [DecidableEq κ]
def kvGet (l : List (κ × D)) (k : κ) : Option D := (l.find? fun p => decide (p.1 = k)).map (·.2)
def kvPut (l : List (κ × D)) (k : κ) (d : D) : List (κ × D) := if (kvGet l k).isSome = true then l.map (fun p => if p.1 = k then (p.1, d) else p) else l ++ [(k, d)]
end
def D.key : D → Option Key
  | .int i => some (.inl i)
  | .str x => some (.inr x)
  | _ => none
mutual
def D.nk : D → Option NestedKey
  | .non => some .none
  | .int i => some (.num i)
  | .str x => some (.text x)
  | .tup l => (D.nks l).map .tup
  | _ => none
def D.nks : List D → Option (List NestedKey)
  | [] => some []
  | d :: r => match d.nk, D.nks r with
    | some k, some ks => some (k :: ks)
    | _, _ => none
end
mutual
theorem nk_kD : ∀ {d : D} {k : NestedKey}, d.nk = some k → kD k = d
  | .non, _, h => by cases (show some NestedKey.none = some _ from h); rfl
  | .int i, _, h => by cases (show some (NestedKey.num i) = some _ from h); rfl
  | .str x, _, h => by cases (show some (NestedKey.text x) = some _ from h); rfl
  | .tup l, k, h => by
    have h' : (D.nks l).map NestedKey.tup = some k := h
    cases q : D.nks l with
    | none => rw [q] at h'; cases h'
    | some ks =>
      rw [q] at h'
      cases h'
      unfold kD
      rw [nks_kD q]
  | .bl _, _, h => nomatch (show (none : Option NestedKey) = some _ from h)
  | .lst _, _, h => nomatch (show (none : Option NestedKey) = some _ from h)
  | .obj _ _, _, h => nomatch (show (none : Option NestedKey) = some _ from h)
  | .dct _, _, h => nomatch (show (none : Option NestedKey) = some _ from h)
  | .exc _ _, _, h => nomatch (show (none : Option NestedKey) = some _ from h)
  | .drw, _, h => nomatch (show (none : Option NestedKey) = some _ from h)
  | .scr _, _, h => nomatch (show (none : Option NestedKey) = some _ from h)
  | .dcn _, _, h => nomatch (show (none : Option NestedKey) = some _ from h)
  | .cel _, _, h => nomatch (show (none : Option NestedKey) = some _ from h)
  | .lcl _ _, _, h => nomatch (show (none : Option NestedKey) = some _ from h)
theorem nks_kD : ∀ {l : List D} {ks : List NestedKey}, D.nks l = some ks → kDs ks = l
  | [], _, h => by cases (show some ([] : List NestedKey) = some _ from h); rfl
  | d :: r, ks, h => by
    have h' : (match d.nk, D.nks r with
      | some k, some ks => some (k :: ks)
      | _, _ => none) = some ks := h
    cases q1 : d.nk with
    | none => rw [q1] at h'; cases h'
    | some k =>
      cases q2 : D.nks r with
      | none => rw [q1, q2] at h'; cases h'
      | some ks2 =>
        rw [q1, q2] at h'
        cases h'
        unfold kDs
        rw [nk_kD q1, nks_kD q2]
end
def D.nkey : D → Option NestedKey
  | .tup l => match D.nks l with
    | some ks => if (NestedKey.tup ks).depth ≤ 8 then some (.tup ks) else none
    | none => none
  | _ => none
theorem nkey_of {d : D} {k : NestedKey} (h : d.nkey = some k) : kD k = d ∧ k.depth ≤ 8 ∧ ∃ l, d = .tup l := by
  cases d with
  | tup l =>
    have h' : (match D.nks l with
      | some ks => if (NestedKey.tup ks).depth ≤ 8 then some (NestedKey.tup ks) else none
      | none => none) = some k := h
    cases q : D.nks l with
    | none => rw [q] at h'; cases h'
    | some ks =>
      rw [q] at h'
      dsimp only at h'
      split at h'
      · rename_i hd
        cases h'
        refine ⟨?_, hd, l, rfl⟩
        unfold kD
        rw [nks_kD q]
      · cases h'
  | _ => cases h
section
variable {G : Cl} {ad : Ad} {A M : AP} {H H' : Hp}
theorem RepT.keyAt {y : V} {d : D} {k : NestedKey} (r : RepT G ad A M H y d) (h : d.nkey = some k) : ∃ b, KeyAt H y k b ∧ Rep G ad M H (.ref b) (kD k) := by
  obtain ⟨h1, h2, l, rfl⟩ := nkey_of h
  obtain ⟨a, vs, rfl, ha, na, ra⟩ := r.tup
  have rr : Rep G ad M H (.ref a) (kD k) := by
    rw [h1]
    exact .tup ha na ra
  exact ⟨a, ⟨rfl, rr.nkey, h2⟩, rr⟩
theorem RepT.key {y : V} {d : D} {k : Key} (r : RepT G ad A M H y d) (h : d.key = some k) : y = kV k := by
  cases d with
  | int i =>
    cases (show some (Sum.inl i) = some k from h)
    exact r.int
  | str x =>
    cases (show some (Sum.inr x) = some k from h)
    exact r.str
  | _ => cases h
/-- what is found, in values and in data -/
def LkR (G : Cl) (ad : Ad) (M : AP) (H : Hp) : Option D → Option V → Prop
  | some z, o => ∃ v, o = some v ∧ Rep G ad M H v z
  | none, o => o = none
theorem LkR.isSome {o : Option D} {o' : Option V} (h : LkR G ad M H o o') : o'.isSome = o.isSome := by
  cases o with
  | none => rw [show o' = none from h]; rfl
  | some z =>
    obtain ⟨v, h, _⟩ := h
    rw [h]
    rfl
theorem kv_get {κ : Type} [DecidableEq κ] (k : κ) : ∀ {kvs : List (κ × V)} {l : List (κ × D)}, kvs.map (·.1) = l.map (·.1) → Reps G ad M H (kvs.map (·.2)) (l.map (·.2)) → LkR G ad M H (kvGet l k) (valV kvs k)
  | [], [], _, _ => rfl
  | [], _ :: _, e, _ => by simp at e
  | _ :: _, [], e, _ => by simp at e
  | p :: kvs, q :: l, e, .cons r rs => by
    simp only [List.map_cons, List.cons.injEq] at e
    have ih := kv_get k e.2 rs
    unfold kvGet valV at ih ⊢
    rw [List.find?_cons, List.find?_cons, e.1]
    by_cases hk : q.1 = k
    · rw [decide_eq_true hk]
      exact ⟨_, rfl, r⟩
    · rw [decide_eq_false hk]
      exact ih
theorem kv_put {κ : Type} [DecidableEq κ] (k : κ) {kvs : List (κ × V)} {l : List (κ × D)} {v : V} {d : D} (e : kvs.map (·.1) = l.map (·.1)) (r : Reps G ad M H (kvs.map (·.2)) (l.map (·.2))) (rv : Rep G ad M H v d) :
    (putK kvs k v).map (·.1) = (kvPut l k d).map (·.1) ∧ Reps G ad M H ((putK kvs k v).map (·.2)) ((kvPut l k d).map (·.2)) := by
  have hs : (kvs.any fun kv => decide (kv.1 = k)) = (kvGet l k).isSome := by
    rw [valV_any]
    exact (kv_get k e r).isSome
  unfold putK kvPut
  rw [hs]
  by_cases h : (kvGet l k).isSome = true
  · rw [if_pos h, if_pos h]
    clear hs h
    induction kvs generalizing l with
    | nil =>
      cases l with
      | nil => exact ⟨rfl, .nil⟩
      | cons => simp at e
    | cons p kvs ih =>
      cases l with
      | nil => simp at e
      | cons q l =>
        simp only [List.map_cons, List.cons.injEq] at e
        cases r with
        | cons r rs =>
          obtain ⟨i1, i2⟩ := ih e.2 rs
          simp only [List.map_cons]
          by_cases hk : q.1 = k
          · rw [if_pos hk, if_pos (by rw [e.1]; exact hk)]
            exact ⟨by rw [i1, e.1], .cons rv i2⟩
          · rw [if_neg hk, if_neg (by rw [e.1]; exact hk)]
            exact ⟨by rw [i1, e.1], .cons r i2⟩
  · rw [if_neg h, if_neg h]
    simp only [List.map_append, List.map_cons, List.map_nil]
    exact ⟨by rw [e], r.append (.one rv)⟩
/-- the addresses put aside -/
def unN (kvs : KvN) : List (NestedKey × V) := kvs.map fun p => (p.1, p.2.2)
theorem unN_1 (kvs : KvN) : (unN kvs).map (·.1) = kvs.map (·.1) := by unfold unN; rw [List.map_map]; rfl
theorem unN_2 (kvs : KvN) : (unN kvs).map (·.2) = kvs.map (·.2.2) := by unfold unN; rw [List.map_map]; rfl
theorem valN_un (k : NestedKey) : ∀ kvs : KvN, valN kvs k = valV (unN kvs) k
  | [] => rfl
  | p :: kvs => by
    have ih := valN_un k kvs
    unfold valN valV unN at ih ⊢
    rw [List.map_cons, List.find?_cons, List.find?_cons]
    by_cases hk : p.1 = k
    · rw [decide_eq_true hk]
      rfl
    · rw [decide_eq_false hk]
      exact ih
theorem putN_un (k : NestedKey) (b : Addr) (v : V) (kvs : KvN) : unN (putN kvs k b v) = putK (unN kvs) k v := by
  have hs : (valN kvs k).isSome = ((unN kvs).any fun kv => decide (kv.1 = k)) := by rw [valN_un, valV_any]
  unfold putN putK
  rw [hs]
  by_cases h : ((unN kvs).any fun kv => decide (kv.1 = k)) = true
  · rw [if_pos h, if_pos h]
    unfold unN
    rw [List.map_map, List.map_map]
    apply List.map_congr_left
    intro p _
    show ((if p.1 = k then (p.1, p.2.1, v) else p).1, (if p.1 = k then (p.1, p.2.1, v) else p).2.2) = if p.1 = k then (p.1, v) else (p.1, p.2.2)
    by_cases hk : p.1 = k
    · rw [if_pos hk, if_pos hk]
    · rw [if_neg hk, if_neg hk]
  · rw [if_neg h, if_neg h]
    unfold unN
    rw [List.map_append]
    rfl
theorem kDs_map : ∀ ks : List NestedKey, kDs ks = ks.map kD
  | [] => rfl
  | k :: r => by
    unfold kDs
    rw [kDs_map r]
    rfl
theorem putN_keys {k : NestedKey} {b : Addr} {v : V} {d : D} {kvs : KvN} {l : List (NestedKey × D)} (e : kvs.map (·.1) = l.map (·.1)) (r : Reps G ad M H (kvs.map (·.2.2)) (l.map (·.2))) (rk : Reps G ad M H (kvs.map fun p => V.ref p.2.1) (kDs (l.map (·.1)))) (rb : Rep G ad M H (.ref b) (kD k)) :
    Reps G ad M H ((putN kvs k b v).map fun p => V.ref p.2.1) (kDs ((kvPut l k d).map (·.1))) := by
  have hs : (valN kvs k).isSome = (kvGet l k).isSome := by
    rw [valN_un]
    exact (kv_get (kvs := unN kvs) k (by rw [unN_1]; exact e) (by rw [unN_2]; exact r)).isSome
  unfold putN kvPut
  rw [hs]
  by_cases h : (kvGet l k).isSome = true
  · rw [if_pos h, if_pos h, List.map_map, List.map_map]
    have e1 : ((fun (p : NestedKey × Addr × V) => V.ref p.2.1) ∘ fun p => if p.1 = k then (p.1, p.2.1, v) else p) = fun p => V.ref p.2.1 := by
      funext p
      show V.ref (if p.1 = k then (p.1, p.2.1, v) else p).2.1 = _
      split <;> rfl
    have e2 : ((fun (p : NestedKey × D) => p.1) ∘ fun p => if p.1 = k then (p.1, d) else p) = fun p => p.1 := by
      funext p
      show (if p.1 = k then (p.1, d) else p).1 = _
      split <;> rfl
    rw [e1, e2]
    exact rk
  · rw [if_neg h, if_neg h, List.map_append, List.map_append, kDs_map, List.map_append]
    rw [kDs_map] at rk
    exact rk.append (.one rb)
/-- a dict that is read -/
theorem RepT.dct_ {v : V} {l : List (Key × D)} (r : RepT G ad A M H v (.dct l)) : ∃ a kvs, v = .ref a ∧ H a = some (.dK kvs) ∧ kvs.map (·.1) = l.map (·.1) ∧ Reps G ad M H (kvs.map (·.2)) (l.map (·.2)) := by
  cases r with
  | r r =>
    cases r with
    | dct h n e r => exact ⟨_, _, rfl, h, e, r⟩
  | mk n h e r => exact ⟨_, _, rfl, h, e, r⟩
theorem RepT.dcn_ {v : V} {l : List (NestedKey × D)} (r : RepT G ad A M H v (.dcn l)) : ∃ a kvs, v = .ref a ∧ NDict G.w H a kvs ∧ kvs.1.map (·.1) = l.map (·.1) ∧ Reps G ad M H (kvs.1.map fun p => V.ref p.2.1) (kDs (l.map (·.1))) ∧ Reps G ad M H (kvs.1.map (·.2.2)) (l.map (·.2)) := by
  have ks : ∀ {kvs : KvN} {l : List (NestedKey × D)}, kvs.map (·.1) = l.map (·.1) → Reps G ad M H (kvs.map fun p => V.ref p.2.1) (kDs (l.map (·.1))) → ∀ p ∈ kvs, NKey H (.ref p.2.1) p.1 := by
    intro kvs l e rk
    rw [← e] at rk
    clear e l
    induction kvs with
    | nil => exact fun p hp => by cases hp
    | cons q kvs ih =>
      simp only [List.map_cons] at rk
      unfold kDs at rk
      cases rk with
      | cons r rs =>
        intro p hp
        rcases List.mem_cons.mp hp with rfl | hp
        · exact r.nkey
        · exact ih rs p hp
  cases r with
  | r r =>
    cases r with
    | dcn h n e rk r => exact ⟨_, _, rfl, ⟨h, ks e rk⟩, e, rk, r⟩
  | mn h e rk r n => exact ⟨_, _, rfl, ⟨h, ks e rk⟩, e, rk, r⟩
/-- what a look-up tells -/
def lookD : D → D → Option (Option D)
  | .dct l, e => e.key.map (kvGet l)
  | .dcn l, e => e.nkey.map (kvGet l)
  | _, _ => none
theorem look_rep {x y : V} {d e : D} {o : Option D} (rx : RepT G ad A M H x d) (ry : RepT G ad A M H y e) (h : lookD d e = some o) : ∃ a o', x = .ref a ∧ IsDU G.w H a ∧ DGetU G.w H a y o' ∧ LkR G ad M H o o' := by
  cases d with
  | dct l =>
    have h' : e.key.map (kvGet l) = some o := h
    obtain ⟨k, hk, rfl⟩ := Option.map_eq_some_iff.mp h'
    obtain ⟨a, kvs, rfl, ha, e1, r⟩ := rx.dct_
    have hy := ry.key hk
    subst hy
    refine ⟨a, valV kvs k, rfl, .inl (.inl ⟨kvs, .inl ha⟩), .inl (DGet.k ha), ?_⟩
    exact kv_get k e1 r
  | dcn l =>
    have h' : e.nkey.map (kvGet l) = some o := h
    obtain ⟨k, hk, rfl⟩ := Option.map_eq_some_iff.mp h'
    obtain ⟨a, kvs, rfl, D, e1, rk, r⟩ := rx.dcn_
    obtain ⟨b, K, rb⟩ := ry.keyAt hk
    refine ⟨a, valN kvs.1 k, rfl, .inr ⟨kvs, D⟩, .inr ⟨kvs, k, b, D, K, rfl⟩, ?_⟩
    rw [valN_un]
    exact kv_get (kvs := unN kvs.1) k (by rw [unN_1]; exact e1) (by rw [unN_2]; exact r)
  | _ => cases h
end
def ixV (d e : D) : Option D := match lookD d e with
  | some o => o
  | none => ixD d e
theorem o_ixV {G : Cl} : O2 G (rIxV G.K G.w) ixV := ⟨fun {ad A M H x y d e z} hm hA rx ry g Q q => by
  unfold ixV at g
  cases h : lookD d e with
  | none =>
    rw [h] at g
    exact .inl (o_ix.run hm hA rx ry g Q q)
  | some o =>
    rw [h] at g
    cases (show o = some z from g)
    obtain ⟨a, o', rfl, _, g', v, rfl, rv⟩ := look_rep rx ry h
    exact .inr ⟨a, v, rfl, g', q v H .refl rv⟩⟩
def inV (neg : Bool) (e d : D) : Option D := match lookD d e with
  | some o => some (.bl (neg ^^ o.isSome))
  | none => inD neg e d
theorem o_inV {G : Cl} : O2 G (rInV G.K G.w) (inV false) := ⟨fun {ad A M H x y d e z} hm hA rx ry g Q q => by
  unfold inV at g
  cases h : lookD e d with
  | none =>
    rw [h] at g
    exact .inl (o_inG.run hm hA rx ry g Q q)
  | some o =>
    rw [h] at g
    obtain rfl := Option.some.inj g
    obtain ⟨a, o', rfl, _, g', hv⟩ := look_rep ry rx h
    refine .inr ⟨a, o', rfl, g', ?_⟩
    rw [hv.isSome]
    exact q _ H .refl (.bl _)⟩
theorem o_notInV {G : Cl} : O2 G (rNotInV G.K G.w) (inV true) := ⟨fun {ad A M H x y d e z} hm hA rx ry g Q q => by
  unfold inV at g
  cases h : lookD e d with
  | none =>
    rw [h] at g
    exact .inl (o_notInG.run hm hA rx ry g Q q)
  | some o =>
    rw [h] at g
    obtain rfl := Option.some.inj g
    obtain ⟨a, o', rfl, _, g', hv⟩ := look_rep ry rx h
    refine .inr ⟨a, o', rfl, g', ?_⟩
    rw [hv.isSome]
    exact q _ H .refl (.bl _)⟩
section
variable {G : Cl} {E : XK}
/-- d.get(k, x) -/
def dGet2 (fd fk fx : DE) : DE := fun ρ m => (fd ρ m).bind fun d m1 => (fk ρ m1).bind fun k m2 => (fx ρ m2).bind fun x m3 => match lookD d k with
  | some o => .ok (o.getD x) m3
  | none => .bad
def isDictD : D → Bool
  | .dct _ => true
  | .dcn _ => true
  | _ => false
/-- d.get(k, x), d a dict for sure -/
def dGetU (fd fk fx : DE) : DE := fun ρ m => (fd ρ m).bind fun d m1 => if isDictD d = true then (fk ρ m1).bind fun k m2 => (fx ρ m2).bind fun x m3 => match lookD d k with
  | some o => .ok (o.getD x) m3
  | none => .bad
  else .bad
/-- xs[k] = e, d[k] = e, of a name of the frame -/
def storeD (i : Nat) (d k : D) (ρ : Ro) : Option Ro := match ρ[i]? with
  | some (some (.ml ds)) => match k with
    | .int k => (ixN ds.length k).map fun j => ρ.set i (some (.ml (ds.set j d)))
    | _ => none
  | some (some (.mk l)) => match k.key with
    | some k => if l.length ≤ 100000 then some (ρ.set i (some (.mk (kvPut l k d)))) else none
    | none => none
  | some (some (.mn l)) => match k.nkey with
    | some k => if l.length ≤ 100000 then some (ρ.set i (some (.mn (kvPut l k d)))) else none
    | none => none
  | _ => none
def hasM (ρ : Ro) (i : Nat) : Bool := match ρ[i]? with
  | some (some s) => s.mu
  | _ => false
def sStore (i : Nat) (fk : DE) (d : D) : DS := fun ρ m => if hasM ρ i = true then sBind (fk ρ m) fun k m1 => match storeD i d k ρ with
    | some ρ' => .nx ρ' m1
    | none => .bad
  else .bad
def sPutU (i : Nat) (fv fk : DE) : DS := fun ρ m => sBind (fv ρ m) fun d m1 => sStore i fk d ρ m1
theorem hasM_at {B : Bx} {M : AP} {pm : Nat → Addr} {ρ : Ro} {m : Mo} {σ : L2.St} {H : Hp} {i : Nat} (e : EnvR G B M pm ρ m σ H) (h : hasM ρ i = true) : σ[i]? = some (some (.ref (pm i))) := by
  unfold hasM at h
  split at h
  · rename_i s hs
    cases s with
    | v d => cases h
    | ml ds => obtain ⟨_, h1, _⟩ := e.sl i ds hs; exact h1
    | mk l => obtain ⟨_, h1, _⟩ := e.sk i l hs; exact h1
    | mn l => obtain ⟨_, h1, _⟩ := e.sn i l hs; exact h1
  · cases h
/-- the store itself -/
theorem store_at {i : Nat} {B : Bx} {M : AP} {pm : Nat → Addr} {ρ ρ' : Ro} {m : Mo} {σ : L2.St} {H : Hp} {v y : V} {d k : D} {Q : Hp → Prop} (e : EnvR G B M pm ρ m σ H) (rv : Rep G B.ad M H v d) (ry : Rep G B.ad M H y k) (h : storeD i d k ρ = some ρ')
    (q : ∀ H', EnvR G B M pm ρ' m σ H' → Stp M H M H' → Q H') : rSetV G.w (.ref (pm i)) y v H Q := by
  unfold storeD at h
  split at h
  · rename_i ds hs
    obtain ⟨vs, h1, h2, h3⟩ := e.sl i ds hs
    split at h
    · rename_i k
      obtain ⟨j, hj, rfl⟩ := Option.map_eq_some_iff.mp h
      cases ry
      obtain ⟨e', s'⟩ := e.updm (s' := .ml (ds.set j d)) (o := .lst (vs.set j v)) hs rfl ⟨_, rfl, h3.set rv j⟩
      exact .inl ⟨_, vs, k, j, rfl, rfl, h2, by rw [h3.length]; exact hj, q _ e' s'⟩
    · cases h
  · rename_i l hs
    obtain ⟨kvs, h1, h2, h3, h4⟩ := e.sk i l hs
    split at h
    rotate_left
    · cases h
    rename_i k hk
    split at h
    rotate_left
    · cases h
    rename_i hl
    cases h
    have hy := RepT.key (A := B.A) (.r ry) hk
    subst hy
    obtain ⟨q1, q2⟩ := kv_put k h3 h4 rv
    obtain ⟨e', s'⟩ := e.updm (s' := .mk (kvPut l k d)) (o := .dK (putK kvs k v)) hs rfl ⟨_, rfl, q1, q2⟩
    have hlen : kvs.length = l.length := by simpa using congrArg List.length h3
    exact .inr (.inl ⟨_, _, rfl, DPut.k h2 (by rw [hlen]; exact Nat.lt_of_le_of_lt hl (by decide)), q _ e' s'⟩)
  · rename_i l hs
    obtain ⟨kvs, h1, h2, h3, h4, h5⟩ := e.sn i l hs
    split at h
    rotate_left
    · cases h
    rename_i k hk
    split at h
    rotate_left
    · cases h
    rename_i hl
    cases h
    obtain ⟨b, K, rb⟩ := RepT.keyAt (A := B.A) (.r ry) hk
    obtain ⟨a, kvs', ea, D, e1, rk, r⟩ := RepT.dcn_ (.mn h2 h3 h4 h5 (e.mut i ⟨_, hs, rfl⟩))
    cases ea
    obtain ⟨q1, q2⟩ := kv_put (kvs := unN kvs'.1) k (by rw [unN_1]; exact e1) (by rw [unN_2]; exact r) rv
    have hlen : kvs'.1.length = l.length := by simpa using congrArg List.length e1
    refine .inr (.inr ⟨_, kvs', k, b, rfl, D, K, by rw [hlen]; exact Nat.lt_of_le_of_lt hl (by decide), fun ob => ?_⟩)
    obtain ⟨e', s'⟩ := e.updm (s' := .mn (kvPut l k d)) (o := dN G.w (pm i) (putN kvs'.1 k b v, ob)) hs rfl ⟨(putN kvs'.1 k b v, ob), rfl, by
      show (putN kvs'.1 k b v).map (·.1) = _
      rw [← unN_1, putN_un]
      exact q1, putN_keys e1 r rk rb, by
      show Reps G B.ad M H ((putN kvs'.1 k b v).map (·.2.2)) _
      rw [← unN_2, putN_un]
      exact q2⟩
    exact q _ e' s'
  · cases h
theorem store_run {i : Nat} {tk : TE} {fk : DE} {B : Bx} {M : AP} {pm : Nat → Addr} {ρ : Ro} {m : Mo} {σ : L2.St} {H : Hp} {v : V} {d : D} {Z : Ends} {q : L2.St → Hp → Prop} (hk : Dq G E tk fk) (hkv : De G E tk fk) (e : EnvR G B M pm ρ m σ H) (rv : Rep G B.ad M H v d) (p : PostS G E B M H (sStore i fk d ρ m) { Z with nx := q }) :
    gSub (tVar i) tk (rSetV G.w) v σ H q := by
  unfold sStore at p
  split at p
  rotate_left
  · exact p.elim
  rename_i hm
  refine ⟨_, hasM_at e hm, ?_⟩
  refine hkv.run e _ ((PostS.bind0 e p).imp' fun y H2 ⟨d2, m2, g2, r2, p2⟩ => ?_)
  have e2 := e.go g2
  split at p2
  rotate_left
  · exact p2.elim
  rename_i ρ' hs
  exact store_at e2 (rv.ext g2.x e.aM) r2 hs fun H' e' s' => p2 _ _ _ _ e' ((e.stp g2).trans s')
theorem ds_putU {tv tk : TE} {fv fk : DE} (i : Nat) (hv : De G E tv fv) (hk : De G E tk fk) : Ds G E (tAsg tv (gSub (tVar i) tk (rSetV G.w))) (sPutU i fv fk) := ⟨fun {B M pm ρ m σ H} e Z p => by
  refine hv.run e _ ((PostS.bind e p).imp' fun v H1 ⟨d1, m1, g1, r1, p1⟩ => ?_)
  exact store_run (Z := Z) hk.q hk (e.go g1) r1 p1⟩
/-- d[k], d[l] = x, y -/
def sPut2 (i j : Nat) (fa fb fk fl : DE) : DS := fun ρ m => sBind (fa ρ m) fun x m1 => sBind (fb ρ m1) fun y m2 => match sStore i fk x ρ m2 with
  | .nx ρ1 m3 => sStore j fl y ρ1 m3
  | .exc c l m3 => .exc c l m3
  | _ => .bad
end
end Dn
namespace Dn
open PySem PySem.Spec PyProof.Rows L2

theorem RG.u10 {k : Nat} {A : Around} (r : RG k A) : A.units + 10 < cLine := by
  have := r.u64
  omega
section
variable {m m1 : Mo} {ρ : Ro} {n : Bool} {l : List D} {e d : D} {i k : Int} {x y : Str}
theorem ev_ixVL : ixV (.lst l) e = ixD (.lst l) e := Eq.trans rfl rfl
theorem ev_ixVT : ixV (.tup l) e = ixD (.tup l) e := Eq.trans rfl rfl
theorem ev_ixVS : ixV (.str x) e = ixD (.str x) e := Eq.trans rfl rfl
theorem ev_ixVI {l : List (Key × D)} : ixV (.dct l) (.int k) = kvGet l (.inl k) := Eq.trans rfl rfl
theorem ev_ixVX {l : List (Key × D)} : ixV (.dct l) (.str x) = kvGet l (.inr x) := Eq.trans rfl rfl
theorem ev_inVL : inV n e (.lst l) = inD n e (.lst l) := Eq.trans rfl rfl
theorem ev_inVT : inV n e (.tup l) = inD n e (.tup l) := Eq.trans rfl rfl
theorem ev_inVI {l : List (Key × D)} : inV n (.int k) (.dct l) = some (.bl (n ^^ (kvGet l (.inl k)).isSome)) := Eq.trans rfl rfl
theorem ev_inVX {l : List (Key × D)} : inV n (.str x) (.dct l) = some (.bl (n ^^ (kvGet l (.inr x)).isSome)) := Eq.trans rfl rfl
theorem ev_inVN {l : List (NestedKey × D)} {k : NestedKey} (h : e.nkey = some k) : inV n e (.dcn l) = some (.bl (n ^^ (kvGet l k).isSome)) := by
  show (match e.nkey.map (kvGet l) with
    | some o => some (D.bl (n ^^ o.isSome))
    | none => inD n e (.dcn l)) = _
  rw [h]
  rfl
theorem ev_getU {fd fk fx : DE} : dGetU fd fk fx ρ m = (fd ρ m).bind fun d m1 => if isDictD d = true then (fk ρ m1).bind fun k m2 => (fx ρ m2).bind fun x m3 => match lookD d k with
  | some o => .ok (o.getD x) m3
  | none => .bad
  else .bad := Eq.trans rfl rfl
theorem ev_isDd {l : List (Key × D)} : isDictD (.dct l) = true := Eq.trans rfl rfl
theorem ev_isDn {l : List (NestedKey × D)} : isDictD (.dcn l) = true := Eq.trans rfl rfl
theorem ev_lookI {l : List (Key × D)} : lookD (.dct l) (.int k) = some (kvGet l (.inl k)) := Eq.trans rfl rfl
theorem ev_lookX {l : List (Key × D)} : lookD (.dct l) (.str x) = some (kvGet l (.inr x)) := Eq.trans rfl rfl
theorem ev_putU {i : Nat} {fv fk : DE} : sPutU i fv fk ρ m = sBind (fv ρ m) fun d m1 => sStore i fk d ρ m1 := Eq.trans rfl rfl
theorem ev_put2 {i j : Nat} {fa fb fk fl : DE} : sPut2 i j fa fb fk fl ρ m = sBind (fa ρ m) fun x m1 => sBind (fb ρ m1) fun y m2 => match sStore i fk x ρ m2 with
  | .nx ρ1 m3 => sStore j fl y ρ1 m3
  | .exc c l m3 => .exc c l m3
  | _ => .bad := Eq.trans rfl rfl
theorem ev_store {i : Nat} {fk : DE} : sStore i fk d ρ m = if hasM ρ i = true then sBind (fk ρ m) fun k m1 => match storeD i d k ρ with
    | some ρ' => .nx ρ' m1
    | none => .bad
  else .bad := Eq.trans rfl rfl
theorem ev_hasM {i : Nat} : hasM ρ i = match ρ[i]? with
  | some (some s) => s.mu
  | _ => false := Eq.trans rfl rfl
theorem ev_muL {ds : List D} : (Sv.ml ds).mu = true := Eq.trans rfl rfl
theorem ev_muK {l : List (Key × D)} : (Sv.mk l).mu = true := Eq.trans rfl rfl
theorem ev_muN {l : List (NestedKey × D)} : (Sv.mn l).mu = true := Eq.trans rfl rfl
theorem ev_storeD {i : Nat} {k : D} : storeD i d k ρ = match ρ[i]? with
  | some (some (.ml ds)) => match k with
    | .int k => (ixN ds.length k).map fun j => ρ.set i (some (.ml (ds.set j d)))
    | _ => none
  | some (some (.mk l)) => match k.key with
    | some k => if l.length ≤ 100000 then some (ρ.set i (some (.mk (kvPut l k d)))) else none
    | none => none
  | some (some (.mn l)) => match k.nkey with
    | some k => if l.length ≤ 100000 then some (ρ.set i (some (.mn (kvPut l k d)))) else none
    | none => none
  | _ => none := Eq.trans rfl rfl
theorem ev_keyI : (D.int i).key = some (.inl i) := Eq.trans rfl rfl
theorem ev_keyX : (D.str x).key = some (.inr x) := Eq.trans rfl rfl
theorem ev_dvnew : dvNew ρ m = .ok (.mk []) m := Eq.trans rfl rfl
theorem ev_peekK0 {l : List (Key × D)} {r : Ro} : dPeek 0 (some (.mk l) :: r) m = .ok (.dct l) m := Eq.trans rfl rfl
theorem ev_peekN0 {l : List (NestedKey × D)} {r : Ro} : dPeek 0 (some (.mn l) :: r) m = .ok (.dcn l) m := Eq.trans rfl rfl
end
/-! look-ups behind stores -/
section
variable {κ : Type} [DecidableEq κ]
theorem kvPut_new {l : List (κ × D)} {k : κ} {d : D} (h : kvGet l k = none) : kvPut l k d = l ++ [(k, d)] := by
  unfold kvPut
  rw [h]
  rfl
theorem kvGet_none {l : List (κ × D)} {k : κ} : kvGet l k = none ↔ k ∉ l.map (·.1) := by
  induction l with
  | nil => simp [kvGet]
  | cons p r ih =>
    unfold kvGet at ih ⊢
    rw [List.find?_cons]
    by_cases hk : p.1 = k
    · rw [decide_eq_true hk]
      simp [hk]
    · rw [decide_eq_false hk, ih]
      simp [Ne.symm hk, eq_comm]
end
end Dn
namespace Dn
open PySem PySem.Spec PyProof.Rows L2

/-! dict comprehensions, by what an entry asks -/
section
variable {X : Cx}
def tDcG (o0 : Addr → HO) (Sx : V → V → Addr → Hp → (Hp → Prop) → Prop) (wi : TI) (g : TG) (tt : TT) (tk tv : TE) (vs : List Nat) : TE := fun σ H Q => wi σ H fun J H1 => ∀ D, H1 D = none → ∃ W : Nat → Nat → Hp → Prop, (∃ m, W 0 m (upd H1 D (o0 D))) ∧ ∀ i m H, W i m H →
  (J.stop i H ∧ Q (.ref D) H) ∨ (J.go i H ∧ ∃ Nx : Hp → Prop, (∀ H', Nx H' → ∃ m', m' < m ∧ W (i + 1) m' H') ∧ ∀ x H', J.yld i H x H' → g x (wipe σ vs) H' fun σ2 H2 => wipe σ2 vs = wipe σ vs ∧ tt σ2 H2 fun b H3 =>
    if b = true then tk σ2 H3 fun y H4 => tv σ2 H4 fun z H5 => Sx y z D H5 Nx else Nx H3)
def SetG (P : Program) (w : World) (un : Nat) (Sx : V → V → Addr → Hp → (Hp → Prop) → Prop) : Prop := ∀ {X : Cx} {pins : List (Addr × Obj)} {σ : L2.St} {H : Hp} {s : Shared} {E : Value → Shared → Prop} {D : Addr} {y v : V} {u r : Value} {Q : Unit → Shared → Prop} {Nx : Hp → Prop}, X.prog = P → X.w = w → X.A.units = un → Inv X pins σ H s → Sx y v D H Nx → RelV y u → RelV v r →
  (∀ s' H', Inv X pins σ H' s' → Nx H' → Q () s') → wpAny (model X.prog X.w) X.A (dictSet D u r) Q E s
def stK (y z : V) (D : Addr) (H : Hp) (Nx : Hp → Prop) : Prop := ∃ kvs k, y = kV k ∧ H D = some (.dK kvs) ∧ kvs.length < sizeLine ∧ Nx (upd H D (.dK (putK kvs k z)))
def stN (w : World) (y z : V) (D : Addr) (H : Hp) (Nx : Hp → Prop) : Prop := ∃ (kvs : KvN × Obj) (k : NestedKey) (b : Addr), NDict w H D kvs ∧ KeyAt H y k b ∧ kvs.1.length < sizeLine ∧ ∀ ob, Nx (upd H D (dN w D (putN kvs.1 k b z, ob)))
theorem setN {P : Program} {w : World} {un : Nat} (hu : un + 10 < cLine) : SetG P w un (stN w) := fun {X pins σ H s E D y v u r Q Nx} _ ew eu I h ry rv q => by
  obtain ⟨kvs, k, b, dd, K, hl, n⟩ := h
  subst ew
  subst eu
  obtain ⟨_, z, hd, xs, rel, d2⟩ := dd.raw I.hok
  obtain ⟨⟨_, _, _, hdep, _⟩, _, _⟩ := I.hok _ _ dd.at_
  have e := K.e
  subst e
  cases (show u = Value.ref b from ry)
  have hz : xs.length ≤ sizeLine := by rw [← Paired.length rel]; exact z
  have hl2 : (putN kvs.1 k b v).length ≤ sizeLine := by have := length_putN kvs.1 k b v; omega
  have hdep2 : ∀ p ∈ putN kvs.1 k b v, p.1.depth ≤ 8 := fun p hp => by
    unfold putN at hp
    split at hp
    · obtain ⟨q, hq, e⟩ := List.mem_map.mp hp
      split at e <;> rw [← e] <;> exact hdep q hq
    · rcases List.mem_append.mp hp with hp | hp
      · exact hdep p hp
      · cases List.mem_singleton.mp hp
        exact K.d
  have room : (nestedKind X.prog X.w).room X.A := by
    show X.A.units + 8 < cLine
    omega
  refine wpAny_dictSet_heap (hsz := hz) room (K.is I.hok) d2 fun h' dd' hs => ?_
  obtain ⟨q1, es, ep, hq, h2, h3, h4, _, h5⟩ := dd'
  refine q _ (upd H D (dN X.w D (putN kvs.1 k b v, q1))) (d_write I (by rw [dd.at_]; unfold dN; exact True.intro) hs ⟨q1, hq⟩ ⟨⟨hq, hl2, hd, hdep2, _, NRel.put rel k b rv, es, ep, h2, h3, h4, h5⟩, ⟨q1, hq⟩, fun h1 h2 a1 st => ⟨st _ a1.1, a1.2⟩⟩) (n q1)
def o0K (_ : Addr) : HO := .dK []
def o0N (w : World) (D : Addr) : HO := dN w D ([], dictO)
theorem empN {P : Program} {w : World} (H : Hp) (hh : Heap) (hb : sysModules < hh.objs.size) : ObjOk P w H (hh.push dictO) hh.objs.size (o0N w hh.objs.size) := NDict.empty hh hb
/-- {} for keys that are tuples -/
def tDNewN (w : World) : TE := fun _ H Q => ∀ p, H p = none → Q (.ref p) (upd H p (o0N w p))
end
end Dn
namespace Dn
open PySem PySem.Spec PyProof.Rows L2

/-! dict comprehensions over data -/
section
variable {κ : Type} [DecidableEq κ]
def dcD (kf : D → Option κ) (h : D → Ro → Option Ro) (tt : DT) (fk fv : DE) : List D → List (κ × D) → Ro → Mo → R (List (κ × D))
  | [], acc, _, m => .ok acc m
  | d :: r, acc, ρ, m => match h d ρ with
    | none => .bad
    | some ρ1 => match tt ρ1 m with
      | .ok true m1 => match fk ρ1 m1 with
        | .ok y m2 => match fv ρ1 m2 with
          | .ok x m3 => match kf y with
            | some k => if acc.length ≤ 100000 then dcD kf h tt fk fv r (kvPut acc k x) ρ m3 else .bad
            | none => .bad
          | _ => .bad
        | _ => .bad
      | .ok false m1 => dcD kf h tt fk fv r acc ρ m1
      | _ => .bad
def dDcG (kf : D → Option κ) (fi : DI) (h : D → Ro → Option Ro) (tt : DT) (fk fv : DE) (vs : List Nat) : Ro → Mo → R (List (κ × D)) := fun ρ m => (fi ρ m).bind fun ds m1 => if ds.length ≤ 100000 then dcD kf h tt fk fv ds [] (wipeD ρ vs) m1 else .bad
/-- what an entry's store needs to be told -/
structure StOk (G : Cl) (kf : D → Option κ) (mkS : List (κ × D) → Sv) (o0 : Addr → HO) (Sx : V → V → Addr → Hp → (Hp → Prop) → Prop) : Prop where
  t0 : ∀ q ps, o0 q ≠ .tbl ps
  c0 : ∀ {ad : Ad} {M : AP} {H : Hp} {q : Addr}, CnAt G ad M (upd H q (o0 q)) q (mkS [])
  fre : ∀ {ad : Ad} {M : AP} {H : Hp} {q : Addr} {l : List (κ × D)}, CnAt G ad M H q (mkS l) → Fre H q
  sto : ∀ {ad : Ad} {M : AP} {H : Hp} {q : Addr} {l : List (κ × D)} {y z : V} {e x : D} {k : κ} {Nx : Hp → Prop}, CnAt G ad M H q (mkS l) → Rep G ad M H y e → Rep G ad M H z x → kf e = some k → l.length ≤ 100000 → M q →
    (∀ o, (∀ ps, o ≠ .tbl ps) → CnAt G ad M (upd H q o) q (mkS (kvPut l k x)) → Nx (upd H q o)) → Sx y z q H Nx
theorem stOkN {G : Cl} : StOk G D.nkey Sv.mn (o0N G.w) (stN G.w) where
  t0 := fun D ps => dN_ntbl ps
  c0 := fun {ad M H D} => ⟨([], dictO), upd_same, rfl, .nil, .nil⟩
  fre := fun {ad M H D l} h => by
    obtain ⟨kvs, h1, _⟩ := h
    exact .dN h1
  sto := fun {ad M H D l y z e x k Nx} c ry rz hk hl hM q => by
    obtain ⟨kvs0, h1, h2, h3, h4⟩ := c
    obtain ⟨b, K, rb⟩ := RepT.keyAt (A := Non) (.r ry) hk
    obtain ⟨a, kvs, ea, DD, e1, rk, r⟩ := RepT.dcn_ (A := Non) (.mn h1 h2 h3 h4 fun z => z)
    cases ea
    obtain ⟨q1, q2⟩ := kv_put (kvs := unN kvs.1) k (by rw [unN_1]; exact e1) (by rw [unN_2]; exact r) rz
    have hlen : kvs.1.length = l.length := by simpa using congrArg List.length e1
    refine ⟨kvs, k, b, DD, K, by rw [hlen]; exact Nat.lt_of_le_of_lt hl (by decide), fun ob => q _ dN_ntbl ?_⟩
    have xx : Ext (fun b => b = D) H (upd H D (dN G.w D (putN kvs.1 k b z, ob))) := Ext.refl.chg (.inr rfl)
    have hA : ∀ b, b = D → M b := fun b hb => hb ▸ hM
    exact ⟨(putN kvs.1 k b z, ob), upd_same, by
      show (putN kvs.1 k b z).map (·.1) = _
      rw [← unN_1, putN_un]
      exact q1, (putN_keys e1 r rk rb).ext xx hA, by
      show Reps G ad M _ ((putN kvs.1 k b z).map (·.2.2)) _
      rw [← unN_2, putN_un]
      exact q2.ext xx hA⟩
section
variable {G : Cl} {E : XK} {B : Bx} {M : AP} {pm : Nat → Addr} {ρ : Ro} {m m' : Mo} {σ : L2.St} {H H' : Hp}
/-- {} for keys that are tuples -/
def dvNewN : DV := fun _ m => .ok (.mn []) m
end
end
end Dn
namespace Dn
open PySem PySem.Spec PyProof.Rows L2

/-! walking a dict whose keys are tuples: its object is pinned, so no lock is needed -/
def Itn (w : World) (d : Addr) (kvs : KvN × Obj) : It :=
  ⟨fun i H => NDict w H d kvs ∧ i < kvs.1.length, fun i H x H' => H' = H ∧ ∃ (k : NestedKey) (q : Addr) (v : V), kvs.1[i]? = some (k, q, v) ∧ x = .ref q, fun i H => NDict w H d kvs ∧ kvs.1.length ≤ i⟩
section
variable {X : Cx} {pins : List (Addr × Obj)} {σ : L2.St} {H : Hp} {s : Shared} {d : Addr} {kvs : KvN × Obj}
theorem NDict.ents (I : Inv X pins σ H s) (D : NDict X.w H d kvs) : (d == sysModules) = false ∧ s.heap.get? d = some kvs.2 ∧ kvs.2.ExactDict ∧ ∃ (es : Array DictEntry) (ep : Nat), kvs.2.data = .dict es ep ∧ es.size = kvs.1.length ∧
    ∀ (i : Nat) (k : NestedKey) (q : Addr) (v : V), kvs.1[i]? = some (k, q, v) → ∃ en : DictEntry, es[i]? = some en ∧ en.key = .ref q ∧ RelV v en.val := by
  obtain ⟨⟨h0, z, hd, hdep, xs, r, es, ep, h2, h3, h4, h5⟩, _, _⟩ := I.hok _ _ D.at_
  have l1 : es.size = xs.length := by
    have e := congrArg List.length h4
    rw [List.length_map, Array.length_toList] at e
    exact e
  refine ⟨hd, h0, h2, es, ep, h3, by rw [l1]; exact (Paired.length r).symm, fun i k q v e => ?_⟩
  obtain ⟨b, hb, e1, e2, e3⟩ := paired_get r e
  refine ⟨⟨NestedKey.hash X.w b.1, .ref b.2.1, b.2.2⟩, ?_, ?_, e3⟩
  · rw [← Array.getElem?_toList, h4, List.getElem?_map, hb]
    rfl
  · show Value.ref b.2.1 = Value.ref q
    rw [← e2]
end
section
variable {P : Program} {w : World} {K : PySem.W.Frag} {tg : Expr} {d : Addr} {es : Array DictEntry} {ep : Nat}
end
def iKeysN (w : World) (td : TE) : TI := fun σ H R => td σ H fun x H1 => ∃ d kvs, x = .ref d ∧ NDict w H1 d kvs ∧ R (Itn w d kvs) H1
section
variable {G : Cl} {E : XK}
theorem Reps.stp {ad : Ad} {M M' : AP} {H H' : Hp} (s : Stp M H M' H') : ∀ {vs : List V} {ds : List D}, Reps G ad M H vs ds → Reps G ad M' H' vs ds
  | _, _, .nil => .nil
  | _, _, .cons r rs => .cons (s.mono r) (Reps.stp s rs)
def dKeysN (f : DE) : DI := fun ρ m => (f ρ m).bind fun d m1 => match d with
  | .dcn l => .ok (kDs (l.map (·.1))) m1
  | _ => .bad
end
end Dn
namespace Dn
open PySem PySem.Spec PyProof.Rows L2
open PySem.W (dataLt alike AlikeAll iter_listW cmpIn_lt cmpIn_gt moved_old argBest_fold iter_tupleW)

/-! min, max and sorted of lists of alike values -/
def betterD (mx : Bool) (x y : PyData) : Bool := if mx = true then dataLt y x else dataLt x y
def rBest (K : PySem.W.Frag) (mx : Bool) : List V → Hp → VK → Prop := fun vs H Q => ∃ a xs ds, vs = [V.ref a] ∧ (SqL K H a xs ∨ SqT K H a xs) ∧ DpAll K H xs ds ∧ 0 < ds.length ∧ AlikeAll ds ∧ PyData.depthAll ds ≤ 60 ∧
  ∀ x, xs[argBest (fun i j => betterD mx (ds.getD i .none) (ds.getD j .none)) (ds.length - 1)]? = some x → Q x H
section
variable {X : Cx}
end
def bestD (mx : Bool) (x : D) (xs : List D) : D := xs.foldl (fun a y => if betterD mx y.py a.py then y else a) x
def isSomeD : D → Bool
  | .non => false
  | _ => true
def ordOk (ds : List D) : Bool := D.plains 60 ds && (ds.all fun x => ds.all fun y => alike x.py y.py) && ds.all isSomeD
def bestLD (mx : Bool) : List D → Option D
  | [.lst (x :: xs)] => if ordOk (x :: xs) = true then some (bestD mx x xs) else none
  | [.tup (x :: xs)] => if ordOk (x :: xs) = true then some (bestD mx x xs) else none
  | _ => none
end Dn
namespace Dn
open PySem PySem.Spec PyProof.Rows L2
open PySem.W (alike AllAlike EachIs dataLe sorted_data)

/-! sorted of lists of alike values -/
def rSrt (K : PySem.W.Frag) : List V → Hp → VK → Prop := fun vs H Q => ∃ a xs ds, vs = [V.ref a] ∧ SqL K H a xs ∧ DpAll K H xs ds ∧ AllAlike ds ∧ PySem.W.Sortable ds ∧ PyData.depthAll ds ≤ 60 ∧
  ∀ p, H p = none → Q (.ref p) (upd H p (.lst (((xs.zip ds).mergeSort (dataLe false (·.2))).map (·.1))))
theorem dpAll_len {K : PySem.W.Frag} {H : Hp} : ∀ {xs : List V} {ds : List PyData}, DpAll K H xs ds → xs.length = ds.length
  | _, _, .nil => rfl
  | _, _, .cons _ t => by rw [List.length_cons, List.length_cons, dpAll_len t]
theorem map_snd_zip' {α β : Type} : ∀ {xs : List α} {ds : List β}, xs.length = ds.length → (xs.zip ds).map (·.2) = ds ∧ (xs.zip ds).map (·.1) = xs
  | [], [], _ => ⟨rfl, rfl⟩
  | x :: xs, d :: ds, h => by
    obtain ⟨a, b⟩ := map_snd_zip' (xs := xs) (ds := ds) (by simpa using h)
    exact ⟨by simp only [List.zip_cons_cons, List.map_cons, a], by simp only [List.zip_cons_cons, List.map_cons, b]⟩
  | [], _ :: _, h => by simp at h
  | _ :: _, [], h => by simp at h
theorem depth_mem : ∀ {ds : List PyData} {d : PyData}, d ∈ ds → d.depth ≤ PyData.depthAll ds
  | x :: r, d, h => by
    rcases List.mem_cons.mp h with rfl | h
    · exact Nat.le_max_left _ _
    · exact Nat.le_trans (depth_mem h) (Nat.le_max_right _ _)
section
variable {X : Cx}
theorem each_zip {s : Shared} {K : PySem.W.Frag} {H : Hp} (rd : ∀ (d : PyData) (v : V) (u : Value), Dp K H v d → RelV v u → ∃ as, Reads s.heap u d as) : ∀ {xs : List V} {ds : List PyData} {us : List Value}, DpAll K H xs ds → Vals xs us →
    EachIs (fun u (b : V × PyData) => RelV b.1 u) us (xs.zip ds) ∧ EachIs (fun u (b : V × PyData) => ∃ as, Reads s.heap u b.2 as) us (xs.zip ds)
  | _, _, _, .nil, .nil => ⟨.nil, .nil⟩
  | _, _, _, .cons d t, .cons r rs => by
    obtain ⟨a, b⟩ := each_zip rd t rs
    exact ⟨.cons r a, .cons (rd _ _ _ d r) b⟩
theorem each_vals {out : List Value} : ∀ {bs : List (V × PyData)}, EachIs (fun u (b : V × PyData) => RelV b.1 u) out bs → Vals (bs.map (·.1)) out
  | _, h => by
    induction h with
    | nil => exact .nil
    | cons r t ih => exact .cons r ih
theorem call_sortU (hu : X.A.units + 200 < cLine) : CallR X (.builtin "sorted") (rSrt X.K) := by
  intro pi s σ H vs us Q I r h
  obtain ⟨a, xs, ds, rfl, hs, dp, hal, hk, hd, q⟩ := h
  obtain ⟨its, rv, hl, hz⟩ := I.list hs
  rw [Vals.ref1 r]
  obtain ⟨e1, e2⟩ := each_zip (s := s) (fun d v u h r => Dp.reads I d v u h r) dp rv
  have el := dpAll_len dp
  obtain ⟨z1, z2⟩ := map_snd_zip' el
  have hlz : (xs.zip ds).length = xs.length := by
    rw [← List.length_map (f := (·.1)), z2]
  refine sorted_data (enc := fun b : V × PyData => b.2) hl.isList e1 e2 (by rw [z1]; exact hal) (by rw [z1]; exact hk) (by rw [hlz]; exact hz) (fun b hb => ?_) fun out ho hE => ?_
  · have : b.2 ∈ ds := by
      rw [← z1]
      exact List.mem_map_of_mem hb
    have := depth_mem this
    omega
  · have rv2 := each_vals hE
    obtain ⟨ep, he'⟩ := PyProof.Rows.sortedAll_at s.heap its out.toArray
    have hlen : (((xs.zip ds).mergeSort (dataLe false (·.2))).map (·.1)).length ≤ sizeLine := by
      rw [List.length_map, List.length_mergeSort, hlz]
      exact hz
    exact ⟨.ref _, _, I.laid (t' := s.toks) (fun _ _ => PyProof.Rows.sortedAll_old) (Nat.le_succ _) (a := s.heap.objs.size + 1) (o := .lst (((xs.zip ds).mergeSort (dataLe false (·.2))).map (·.1))) ⟨hlen, out, ep, rv2, by simpa using he'⟩, rfl, q _ (I.hok.fresh (Nat.le_succ _))⟩
end
def srtOk (ds : List D) : Bool := D.plains 60 ds && (ds.all fun x => ds.all fun y => alike x.py y.py) && ((ds.all fun | .tup (_ :: _) => true | _ => false) || ds.all fun | .tup _ => false | .non => false | _ => true)
def srtLD : List D → Option D
  | [.lst l] => if srtOk l = true then some (.lst (l.mergeSort (dataLe false D.py))) else none
  | _ => none
theorem srtOk_ok {ds : List D} (h : srtOk ds = true) : D.plains 60 ds = true ∧ AllAlike (D.pys ds) ∧ PySem.W.Sortable (D.pys ds) := by
  unfold srtOk at h
  rw [Bool.and_eq_true, Bool.and_eq_true] at h
  have hp := h.1.1
  rw [D.plains_all] at hp
  refine ⟨h.1.1, fun x hx y hy => ?_, ?_⟩
  · rw [D.pys_map] at hx hy
    obtain ⟨a, ha, rfl⟩ := List.mem_map.mp hx
    obtain ⟨b, hb, rfl⟩ := List.mem_map.mp hy
    exact List.all_eq_true.mp (List.all_eq_true.mp h.1.2 a ha) b hb
  · rcases Bool.or_eq_true_iff.mp h.2 with q | q
    · refine .inl fun x hx => ?_
      rw [D.pys_map] at hx
      obtain ⟨a, ha, rfl⟩ := List.mem_map.mp hx
      have z := List.all_eq_true.mp q a ha
      cases a with
      | tup l =>
        cases l with
        | nil => cases z
        | cons y r => exact ⟨y.py, D.pys r, by simp [D.py, D.pys]⟩
      | _ => cases z
    · refine .inr fun x hx => ?_
      rw [D.pys_map] at hx
      obtain ⟨a, ha, rfl⟩ := List.mem_map.mp hx
      have z := List.all_eq_true.mp q a ha
      have hpa := List.all_eq_true.mp hp a ha
      cases a with
      | tup l => cases z
      | non => cases z
      | obj _ _ => simp [D.plain] at hpa
      | dct _ => simp [D.plain] at hpa
      | dcn _ => simp [D.plain] at hpa
      | exc _ _ => simp [D.plain] at hpa
      | drw => simp [D.plain] at hpa
      | scr _ => simp [D.plain] at hpa
      | cel _ => simp [D.plain] at hpa
      | lcl _ _ => simp [D.plain] at hpa
      | bl b => exact ⟨by simp [D.py], fun xs z => by simp [D.py] at z⟩
      | int b => exact ⟨by simp [D.py], fun xs z => by simp [D.py] at z⟩
      | str b => exact ⟨by simp [D.py], fun xs z => by simp [D.py] at z⟩
      | lst b => exact ⟨by simp [D.py], fun xs z => by simp [D.py] at z⟩
theorem reps_zip {G : Cl} {ad : Ad} {M : AP} {H : Hp} {vs : List V} {ds : List D} (r : Reps G ad M H vs ds) : ∀ p ∈ vs.zip ds, Rep G ad M H p.1 p.2 := by
  induction vs generalizing ds with
  | nil => exact fun p hp => by simp at hp
  | cons v vs ih =>
    cases r with
    | cons r t =>
      intro p hp
      rcases List.mem_cons.mp hp with rfl | hp
      · exact r
      · exact ih t p hp
theorem reps_of {G : Cl} {ad : Ad} {M : AP} {H : Hp} : ∀ {l : List (V × D)}, (∀ p ∈ l, Rep G ad M H p.1 p.2) → Reps G ad M H (l.map (·.1)) (l.map (·.2))
  | [], _ => .nil
  | p :: r, h => .cons (h p List.mem_cons_self) (reps_of fun q hq => h q (List.mem_cons_of_mem _ hq))
theorem n_srt {G : Cl} : ON G (rSrt G.K) srtLD := ⟨fun {ad A M H xs ds z} hm hA r g Q q => by
  unfold srtLD at g
  split at g
  · rename_i l
    split at g
    · rename_i ho
      cases g
      obtain ⟨p1, p2, p3⟩ := srtOk_ok ho
      obtain ⟨y, rfl, ry⟩ := r.one
      obtain ⟨a, vs, rfl, ha, ra⟩ := ry.lst
      have dp : DpAll G.K H vs (D.pys l) := Reps.dp p1 ra
      refine ⟨a, vs, _, rfl, SqL.of ha, dp, p2, p3, (plains_lay p1).2, fun p hp => q _ _ (ExN.new hp) ?_⟩
      have el : vs.length = l.length := ra.length
      obtain ⟨z1, z2⟩ := map_snd_zip' el
      have e1 : ((vs.zip (D.pys l)).mergeSort (dataLe false (·.2))) = ((vs.zip l).mergeSort (dataLe false fun p : V × D => p.2.py)).map fun p => (p.1, p.2.py) := by
        rw [List.map_mergeSort (r := dataLe false fun p : V × D => p.2.py) (s := dataLe false (·.2)) (f := fun p : V × D => (p.1, p.2.py)) (fun a _ b _ => rfl)]
        congr 1
        rw [D.pys_map]
        clear z1 z2 dp p1 p2 p3 ho
        have : ∀ (vs : List V) (l : List D), vs.zip (l.map D.py) = (vs.zip l).map fun p => (p.1, p.2.py) := by
          intro vs
          induction vs with
          | nil => intro l; simp
          | cons v vs ih =>
            intro l
            cases l with
            | nil => simp
            | cons d l => simp [ih]
        exact this vs l
      have e2 : l.mergeSort (dataLe false D.py) = ((vs.zip l).mergeSort (dataLe false fun p : V × D => p.2.py)).map (·.2) := by
        rw [List.map_mergeSort (r := dataLe false fun p : V × D => p.2.py) (s := dataLe false D.py) (f := fun p : V × D => p.2) (fun a _ b _ => rfl), z1]
      rw [e1, e2, List.map_map]
      refine Reps.newL hm hp (reps_of fun p hp => reps_zip ra p ((List.mergeSort_perm _ _).subset hp))
    · cases g
  · cases g⟩
end Dn
namespace Dn
open PySem PySem.Spec PyProof.Rows L2
section
variable {G : Cl} {E : XK}
/-- a = b = e -/
def sAsg2 (f : DE) (h1 h2 : D → Ro → Option Ro) : DS := fun ρ m => sBind (f ρ m) fun d m1 => match h1 d ρ with
  | some ρ1 => match h2 d ρ1 with
    | some ρ2 => .nx ρ2 m1
    | none => .bad
  | none => .bad
/-- list(range(n)) -/
def dRgL1 (fa : DE) : DE := fun ρ m => (fa ρ m).bind fun x m1 => match x with
  | .int j => if rgOk 0 j = true then .ok (.lst (rgD 0 j)) m1 else .bad
  | _ => .bad
/-- what is never reached -/
def dNever : DE := fun _ _ => .bad
def sNever : DS := fun _ _ => .bad
end
section
variable {m m1 : Mo} {ρ : Ro}
theorem ev_asg2 {f : DE} {h1 h2 : D → Ro → Option Ro} : sAsg2 f h1 h2 ρ m = sBind (f ρ m) fun d m1 => match h1 d ρ with
  | some ρ1 => match h2 d ρ1 with
    | some ρ2 => .nx ρ2 m1
    | none => .bad
  | none => .bad := Eq.trans rfl rfl
theorem ev_rgL1 {fa : DE} : dRgL1 fa ρ m = (fa ρ m).bind fun x m1 => match x with
  | .int j => if rgOk 0 j = true then .ok (.lst (rgD 0 j)) m1 else .bad
  | _ => .bad := Eq.trans rfl rfl
theorem ev_bestL {mx : Bool} {x : D} {l : List D} : bestLD mx [.lst (x :: l)] = if ordOk (x :: l) = true then some (bestD mx x l) else none := Eq.trans rfl rfl
theorem ev_anyL {l : List D} : anyD [.lst l] = (blsOf l).map fun ns => .bl (ns.any id) := Eq.trans rfl rfl
theorem ev_dcG {κ : Type} [DecidableEq κ] {kf : D → Option κ} {fi : DI} {h : D → Ro → Option Ro} {tt : DT} {fk fv : DE} {vs : List Nat} : dDcG kf fi h tt fk fv vs ρ m = (fi ρ m).bind fun ds m1 => if ds.length ≤ 100000 then dcD kf h tt fk fv ds [] (wipeD ρ vs) m1 else .bad := Eq.trans rfl rfl
theorem ev_keysN {f : DE} : dKeysN f ρ m = (f ρ m).bind fun d m1 => match d with
  | .dcn l => .ok (kDs (l.map (·.1))) m1
  | _ => .bad := Eq.trans rfl rfl
theorem ev_dvnewN : dvNewN ρ m = .ok (.mn []) m := Eq.trans rfl rfl
end
end Dn
namespace Dn
open PySem PySem.Spec PyProof.Rows L2
section
variable {X : Cx}
end
end Dn
namespace Dn
open PySem PySem.Spec PyProof.Rows L2
abbrev rTupOf (K : PySem.W.Frag) : List V → Hp → VK → Prop := rTupF K
abbrev rLstOf (K : PySem.W.Frag) : List V → Hp → VK → Prop := fun xs H Q => ∃ p ys, xs = [.ref p] ∧ (SqL K H p ys ∨ SqT K H p ys) ∧ ∀ l, H l = none → Q (.ref l) (upd H l (.lst ys))
abbrev tTruK (K : PySem.W.Frag) (ta : TE) : TT := fun σ H Q => ta σ H fun x H' => ∃ k, TruV K x H' k ∧ Q k H'
end Dn
namespace Dn
open PySem PySem.Spec PyProof.Rows L2
section
variable {G : Cl} {E : XK}
/-- xs.pop() -/
def xPop0 (j : Nat) : DX := fun ρ m => match ρ[j]? with
  | some (some (.ml ds)) => match ds[ds.length - 1]? with
    | some d => .ok d (ρ.set j (some (.ml ds.dropLast))) m
    | none => .bad
  | _ => .bad
theorem Reps.dropLast {ad : Ad} {M : AP} {H : Hp} : ∀ {vs : List V} {ds : List D}, Reps G ad M H vs ds → Reps G ad M H vs.dropLast ds.dropLast
  | _, _, .nil => .nil
  | _, _, .cons r .nil => .nil
  | _, _, .cons r (.cons r2 t) => .cons r (Reps.dropLast (.cons r2 t))
/-- x = an expression that changes a list of the frame -/
def sSetX (i : Nat) (f : DX) : DS := fun ρ m => match f ρ m with
  | .ok d ρ1 m1 => .nx (ρ1.set i (some (.v d))) m1
  | .bad => .bad
  | .exc c l m1 => .exc c l m1
/-- xs.index(x), whole numbers -/
def ixOf (x : Int) (ns : List Int) : Option Nat := if x ∈ ns then some (ns.idxOf x) else none
def dIndex (fo fx : DE) : DE := fun ρ m => (fo ρ m).bind fun d m1 => match d with
  | .lst l => (fx ρ m1).bind fun e m2 => match e with
    | .int x => match (intsOf l).bind (ixOf x) with
      | some j => .ok (.int (j : Int)) m2
      | none => .bad
    | _ => .bad
  | _ => .bad
section
variable {m : Mo} {ρ : Ro}
theorem ev_setX {i : Nat} {f : DX} : sSetX i f ρ m = match f ρ m with
  | .ok d ρ1 m1 => .nx (ρ1.set i (some (.v d))) m1
  | .bad => .bad
  | .exc c l m1 => .exc c l m1 := Eq.trans rfl rfl
theorem ev_index {fo fx : DE} : dIndex fo fx ρ m = (fo ρ m).bind fun d m1 => match d with
  | .lst l => (fx ρ m1).bind fun e m2 => match e with
    | .int x => match (intsOf l).bind (ixOf x) with
      | some j => .ok (.int (j : Int)) m2
      | none => .bad
    | _ => .bad
  | _ => .bad := Eq.trans rfl rfl
end
end
end Dn
namespace Dn
open PySem PySem.Spec PyProof.Rows L2
end Dn
namespace Dn
open PySem PySem.Spec PyProof.Rows L2
open PySem.W (dataLe)

/-! sorted, as a function that can be run: all keys differ -/
def leD (a b : D) : Bool := dataLe false D.py a b
def insD (a : D) : List D → List D
  | [] => [a]
  | b :: r => if leD a b = true then a :: b :: r else b :: insD a r
def sortD : List D → List D
  | [] => []
  | a :: r => insD a (sortD r)
def ltAll : List D → Bool
  | [] => true
  | a :: r => (r.all fun b => leD a b && !leD b a) && ltAll r
def srtLX : List D → Option D
  | [.lst l] => if srtOk l = true ∧ ltAll (sortD l) = true then some (.lst (sortD l)) else none
  | _ => none
theorem ev_srtX {l : List D} : srtLX [.lst l] = if srtOk l = true ∧ ltAll (sortD l) = true then some (.lst (sortD l)) else none := Eq.trans rfl rfl
end Dn
namespace Dn
open PySem PySem.Spec PyProof.Rows L2
/-! in, a tuple of deep values -/
def rInT (K : PySem.W.Frag) : R2 := fun x y H Q => ∃ d ds, Dp K H x d ∧ Dp K H y (.tuple ds) ∧ SeqAt.shaped d = true ∧ SeqAt.shaped (.tuple ds) = true ∧ Q (.bl (ds.any fun z => PyData.eqv z d)) H
def inTD : D → D → Option D
  | d, .tup l => if d.plain 60 = true ∧ D.plains 60 l = true then some (.bl (l.any fun z => PyData.eqv z.py d.py)) else none
  | _, _ => none
def rNotInT (K : PySem.W.Frag) : R2 := fun x y H Q => ∃ d ds, Dp K H x d ∧ Dp K H y (.tuple ds) ∧ SeqAt.shaped d = true ∧ SeqAt.shaped (.tuple ds) = true ∧ Q (.bl (!ds.any fun z => PyData.eqv z d)) H
def notInTD : D → D → Option D
  | d, .tup l => if d.plain 60 = true ∧ D.plains 60 l = true then some (.bl (!l.any fun z => PyData.eqv z.py d.py)) else none
  | _, _ => none
end Dn
namespace Dn
open PySem PySem.Spec PyProof.Rows L2
/-! {k: v}, the key a tuple -/
def tDisp1N (w : World) (tk tv : TE) : TE := fun σ H Q => ∀ p, H p = none → tk σ (upd H p (o0N w p)) fun x H1 => tv σ H1 fun y H2 => stN w x y p H2 (fun H3 => Q (.ref p) H3)
theorem pe_disp1N {X : Cx} {k v : Expr} {pos : Pos} {tk tv : TE} (hu : X.A.units + 10 < cLine) (hk : PE X k tk) (hv : PE X v tv) : PE X (.Dict [some k] [v] pos) (tDisp1N X.w tk tv) := by
  refine ⟨fun pi s σ H Q I q => ?_⟩
  have hn := I.hok.fresh (Nat.le_refl s.heap.objs.size)
  have I1 := I.laid (a := s.heap.objs.size) (o := o0N X.w s.heap.objs.size) (h' := s.heap.push dictO) (t' := s.toks) (fun _ _ q => Heap.get?_push_of_some _ q) (Nat.le_refl _) (empN _ s.heap I.big)
  rw [arm_eval_Dict, zip_pairTrees [some k] [v] X.env pos rfl rfl, dictDisplay_pairs (pairTrees [some k] [v] X.env pos) (by simp [pairTrees]) (by simp [pairTrees])]
  refine wpAny_bind (wpAny_standAt (wpAny_bind ?_))
  unfold subDict
  refine wpAny_bind (wpAny_alloc ?_)
  refine wpAny_bind (wpAny_holding ?_)
  rw [if_pos (by simp [pairTrees])]
  refine wpAny_bind ?_
  refine pairTrees_cons_walk (thn (hk.run pi _ σ _ _ I1 (q _ hn)) fun u s1 ⟨x, H1, I2, rx, q1⟩ => thn (hv.run pi s1 σ H1 _ I2 q1) fun u2 s2 ⟨y, H2, I3, ry, q2⟩ => pairTrees_nil_walk ?_)
  refine wpAny_holding ?_
  rw [List.forIn_cons]
  refine wpAny_bind (wpAny_bind (wpAny_bind (setN hu rfl rfl rfl I3 q2 rx ry fun s3 H3 I4 q3 => wpAny_pure ?_)))
  show wpAny _ _ (forIn [] PUnit.unit _) _ _ _
  rw [List.forIn_nil]
  exact wpAny_pure (wpAny_pure (wpAny_pure (wpAny_pure ⟨.ref s.heap.objs.size, H3, I4, rfl, q3⟩)))
section
variable {G : Cl} {E : XK}
def dvDisp1N (fk fv : DE) : DV := fun ρ m => match fk ρ m with
  | .ok x m1 => match fv ρ m1 with
    | .ok y m2 => match x.nkey with
      | some k => .ok (.mn [(k, y)]) m2
      | none => .bad
    | _ => .bad
  | _ => .bad
theorem dv_disp1N {tk tv : TE} {fk fv : DE} (hk : De G E00 tk fk) (hv : De G E00 tv fv) : Dv G E (tDisp1N G.w tk tv) (dvDisp1N fk fv) := ⟨fun {B M pm ρ m σ H} e Q p => by
  intro q hq
  have eP := e.plus (o := o0N G.w q) hq (fun ps => dN_ntbl ps)
  have offD := e.offX (Liv.none hq)
  have nD : ¬ (B.plus q).A q := offD.2.2
  have x0 : Ext Non H (upd H q (o0N G.w q)) := Ext.new hq
  unfold dvDisp1N at p
  refine hk.run eP _ ?_
  cases h1 : fk ρ m with
  | bad => rw [h1] at p; exact p.elim
  | exc c l m' => rw [h1] at p; exact p.elim
  | ok d m1 =>
    rw [h1] at p
    intro y H1 g1 ry
    have e1 := eP.go g1
    dsimp only at p
    refine hv.run e1 _ ?_
    cases h2 : fv ρ m1 with
    | bad => rw [h2] at p; exact p.elim
    | exc c l m' => rw [h2] at p; exact p.elim
    | ok d2 m2 =>
      rw [h2] at p
      intro z H2 g2 rz
      have e2 := e1.go g2
      dsimp only at p
      split at p
      rotate_left
      · exact p.elim
      rename_i k hkk
      have c0 : CnAt G B.ad (fun b => M b ∨ b = q) (upd H q (o0N G.w q)) q (.mn []) := stOkN.c0
      have c2 := (c0.mono g1.x eP.aM (fun _ h => h) nD).mono g2.x e1.aM (fun _ h => h) nD
      refine stOkN.sto c2 (ry.ext g2.x e1.aM) rz hkk (by decide) (.inr rfl) fun o to cn => ?_
      have hXD : (B.plus q).X q := .inr rfl
      have e3 := e2.chgX (o := o) hXD offD.1 to (stOkN.fre c2)
      refine p _ _ ⟨(((x0.imp fun _ z => z.elim).trans g1.x).trans g2.x).chg (.inl (Liv.none hq)), e3.ea, e3.eh, e3.mr.less fun b h => .inl h, e3.tb⟩ ⟨q, rfl, Liv.none hq, cn, e3.mr⟩⟩
end
end Dn
/-! range(i, j, -1) -/
open PySem PySem.Spec PyProof.Rows L2
namespace Dn
section
variable {G : Cl} {E : XK}
def rangeDn (lo : Int) (n : Nat) : List D := (List.range n).map fun (i : Nat) => .int (lo - i)
def dRng3 (f : DA) : DI := fun ρ m => (f ρ m).bind fun d m1 => match d with
  | [.int i, .int j, .int k] => if (-1000000 ≤ j ∧ j ≤ 1000000 ∧ -1000000 ≤ i ∧ i ≤ 1000000) ∧ k = -1 then .ok (rangeDn i (i - j).toNat) m1 else .bad
  | _ => .bad
end
end Dn
/-! list(range(i, j, -1)) -/
open PySem PySem.Spec PyProof.Rows L2
namespace Dn
def rgVn (a : Int) (n : Nat) : List V := (List.range n).map fun i => V.int (a - (i : Nat))
def RgOkn (a b : Int) : Prop := -(2 ^ 62) ≤ a ∧ a < 2 ^ 62 ∧ -(2 ^ 62) ≤ b ∧ b < 2 ^ 62 ∧ (a - b).toNat ≤ 2 ^ 24
def tLstRg3 (ta : TA) : TE := fun σ H Q => ta σ H fun vs H1 => ∃ i j, vs = [.int i, .int j, .int (-1)] ∧ RgOkn i j ∧ ∀ q, H1 q = none → Q (.ref q) (upd H1 q (.lst (rgVn i (i - j).toNat)))
section
variable {X : Cx}
end
section
variable {G : Cl} {E : XK}
def dRgL3 (f : DA) : DE := fun ρ m => (f ρ m).bind fun d m1 => match d with
  | [.int i, .int j, .int k] => if (-1000000 ≤ j ∧ j ≤ 1000000 ∧ -1000000 ≤ i ∧ i ≤ 1000000) ∧ k = -1 then .ok (.lst (rangeDn i (i - j).toNat)) m1 else .bad
  | _ => .bad
end
end Dn
namespace Dn
open PySem PySem.Spec PyProof.Rows L2

/-! a < b < c < d -/
def tChain3 (r r' r'' : R2) (ta tb tc td : TE) : TE := fun σ H Q => ta σ H fun x H1 => tb σ H1 fun y H2 => r x y H2 fun z H3 => ∃ k, z = .bl k ∧
  (if k = true then tc σ H3 fun w' H4 => r' y w' H4 fun z' H5 => ∃ k', z' = .bl k' ∧ (if k' = true then td σ H5 fun u' H6 => r'' w' u' H6 Q else Q (.bl false) H5) else Q (.bl false) H3)
section
variable {X : Cx} {a b c d : Expr} {ta tb tc td : TE} {pos : Pos} {op op' op'' : CmpOp} {r r' r'' : R2}
end
def dChain3 (g g' g'' : D → D → Option D) (fa fb fc fd : DE) : DE := fun ρ m => (fa ρ m).bind fun x m1 => (fb ρ m1).bind fun y m2 => match g x y with
  | some (.bl true) => (fc ρ m2).bind fun z m3 => match g' y z with
    | some (.bl true) => (fd ρ m3).bind fun u m4 => R.of (g'' z u) m4
    | some (.bl false) => .ok (.bl false) m3
    | _ => .bad
  | some (.bl false) => .ok (.bl false) m2
  | _ => .bad
section
variable {G : Cl} {E : XK}
end
theorem ev_chain3 {g g' g'' : D → D → Option D} {fa fb fc fd : DE} {ρ : Ro} {m : Mo} : dChain3 g g' g'' fa fb fc fd ρ m = (fa ρ m).bind fun x m1 => (fb ρ m1).bind fun y m2 => match g x y with
  | some (.bl true) => (fc ρ m2).bind fun z m3 => match g' y z with
    | some (.bl true) => (fd ρ m3).bind fun u m4 => R.of (g'' z u) m4
    | some (.bl false) => .ok (.bl false) m3
    | _ => .bad
  | some (.bl false) => .ok (.bl false) m2
  | _ => .bad := Eq.trans rfl rfl
/-- a call in a def that lets nothing out -/
theorem passE0 {P : Program} {w : World} {X : Cx} : Passes (L2.CX P w) X C8.E0 := fun _ _ _ _ _ _ _ h => by
  obtain ⟨_, _, _, _, _, _, _, _, _, _, _, _, hE⟩ := h
  exact hE.elim
end Dn
namespace Dn
open PySem PySem.Spec PyProof.Rows L2
/-! {k: v, k2: v2}, the keys tuples -/
def tDisp2N (w : World) (tk tv tk2 tv2 : TE) : TE := fun σ H Q => ∀ p, H p = none → tk σ (upd H p (o0N w p)) fun x H1 => tv σ H1 fun y H2 => tk2 σ H2 fun x2 H3 => tv2 σ H3 fun y2 H4 => stN w x y p H4 (fun H5 => stN w x2 y2 p H5 (fun H6 => Q (.ref p) H6))
section
variable {G : Cl} {E : XK}
def dvDisp2N (fk fv fk2 fv2 : DE) : DV := fun ρ m => match fk ρ m with
  | .ok x m1 => match fv ρ m1 with
    | .ok y m2 => match fk2 ρ m2 with
      | .ok x2 m3 => match fv2 ρ m3 with
        | .ok y2 m4 => match x.nkey with
          | some k => match x2.nkey with
            | some k2 => .ok (.mn (kvPut [(k, y)] k2 y2)) m4
            | none => .bad
          | none => .bad
        | _ => .bad
      | _ => .bad
    | _ => .bad
  | _ => .bad
end
end Dn
namespace Dn
open PySem PySem.Spec PyProof.Rows L2
/-! list(d), len(d), list(d.values()), max(d.values()) of dicts whose keys are tuples -/
def rLstN (w : World) : List V → Hp → VK → Prop := fun xs H Q => ∃ d kvs, xs = [V.ref d] ∧ NDict w H d kvs ∧ ∀ q, H q = none → Q (.ref q) (upd H q (.lst (kvs.1.map fun p => V.ref p.2.1)))
def rLenN (w : World) : List V → Hp → VK → Prop := fun xs H Q => ∃ d kvs, xs = [V.ref d] ∧ NDict w H d kvs ∧ Q (.int (kvs.1.length : Int)) H
section
variable {X : Cx}
theorem NDict.small {pins : List (Addr × Obj)} {σ : L2.St} {H : Hp} {s : Shared} {d : Addr} {kvs : KvN × Obj} (I : Inv X pins σ H s) (D : NDict X.w H d kvs) : kvs.1.length ≤ sizeLine := by
  obtain ⟨⟨h0, z, _⟩, _, _⟩ := I.hok _ _ D.at_
  exact z
theorem call_listN (hc : X.calm = true) : CallR X (.type "list") (rLstN X.w) := by
  intro pins s σ H xs us Q I r h
  obtain ⟨d, kvs, rfl, D, q⟩ := h
  rw [Vals.ref1 r]
  obtain ⟨hd, hgd, hx, es, ep, hdt, hsz, ent⟩ := NDict.ents I D
  have z := D.small I
  refine PySem.W.kdl_call (kdl_raw hd hx hdt) (I.ok.hd hc) hgd (by omega) fun h' tk acc' c' kp e it => ?_
  refine ⟨.ref s.heap.objs.size, _, I.laid (t' := tk) (o := .lst (kvs.1.map fun p => V.ref p.2.1)) kp (Nat.le_refl _) ?_, rfl, q _ (I.hok.fresh (Nat.le_refl _))⟩
  refine ⟨by rw [List.length_map]; exact z, acc'.toList, c', vals_of_at (by rw [List.length_map, Array.length_toList, it.1, hsz]) (fun j x u h1 h2 => ?_), by rw [Array.toArray_toList]; exact e⟩
  rw [List.getElem?_map] at h1
  obtain ⟨⟨k, b, v⟩, hk, rfl⟩ := Option.map_eq_some_iff.mp h1
  obtain ⟨en, hen, hv⟩ := it.2 j u (by rw [← Array.getElem?_toList]; exact h2)
  obtain ⟨en2, hen2, hkey, _⟩ := ent j k b v hk
  rw [hen] at hen2
  cases hen2
  rw [hv, hkey]
  rfl
end
/-- list(e.values()) -/
def tLstVals (w : World) (te : TE) : TE := fun σ H Q => te σ H fun x H1 => ∃ d kvs, x = .ref d ∧ NDict w H1 d kvs ∧ ∀ q, H1 q = none → Q (.ref q) (upd H1 q (.lst (kvs.1.map (·.2.2))))
section
variable {X : Cx} {e : Expr} {te : TE} {p apos cpos pos : Pos}
end
/-- max(e.values()) of whole numbers -/
def tMaxVals (w : World) (te : TE) : TE := fun σ H Q => te σ H fun x H1 => ∃ (d : Addr) (kvs : KvN × Obj) (is : List Int), x = .ref d ∧ NDict w H1 d kvs ∧ kvs.1.map (·.2.2) = is.map V.int ∧ 0 < is.length ∧
  ∀ i, is[argBest (fun i j => decide (is.getD i 0 > is.getD j 0)) (is.length - 1)]? = some i → Q (.int i) H1
section
variable {X : Cx} {e : Expr} {te : TE} {p apos cpos pos : Pos}
end
section
variable {G : Cl} {E : XK}
def toLstN : List D → Option D
  | [.dcn l] => some (.lst (kDs (l.map (·.1))))
  | _ => none
def lenND : List D → Option D
  | [.dcn l] => some (.int (l.length : Int))
  | _ => none
theorem n_listN : ON G (rLstN G.w) toLstN := ⟨fun {ad A M H xs ds z} hm hA r g Q q => by
  unfold toLstN at g
  split at g
  · cases g
    obtain ⟨x, rfl, rx⟩ := r.one
    obtain ⟨a, kvs, rfl, D, e1, rk, rr⟩ := rx.dcn_
    exact ⟨a, kvs, rfl, D, fun p hp => q _ _ (ExN.new hp) (rk.newL hm hp)⟩
  · cases g⟩
def dLstVals (fa : DE) : DE := fun ρ m => (fa ρ m).bind fun x m1 => match x with
  | .dcn l => .ok (.lst (l.map (·.2))) m1
  | _ => .bad
def dMaxVals (fa : DE) : DE := fun ρ m => (fa ρ m).bind fun x m1 => match x with
  | .dcn l => match intsOf (l.map (·.2)) with
    | some (i :: is) => .ok (.int (is.foldl (fun a y => if a < y then y else a) i)) m1
    | _ => .bad
  | _ => .bad
end
section
variable {ρ : Ro} {m : Mo}
theorem ev_toLstN {l : List (NestedKey × D)} : toLstN [.dcn l] = some (.lst (kDs (l.map (·.1)))) := Eq.trans rfl rfl
theorem ev_lenN {l : List (NestedKey × D)} : lenND [.dcn l] = some (.int (l.length : Int)) := Eq.trans rfl rfl
theorem ev_lstVals {fa : DE} : dLstVals fa ρ m = (fa ρ m).bind fun x m1 => match x with
  | .dcn l => .ok (.lst (l.map (·.2))) m1
  | _ => .bad := Eq.trans rfl rfl
theorem ev_maxVals {fa : DE} : dMaxVals fa ρ m = (fa ρ m).bind fun x m1 => match x with
  | .dcn l => match intsOf (l.map (·.2)) with
    | some (i :: is) => .ok (.int (is.foldl (fun a y => if a < y then y else a) i)) m1
    | _ => .bad
  | _ => .bad := Eq.trans rfl rfl
end
end Dn
namespace Dn
open PySem PySem.Spec PyProof.Rows L2
/-! objects that change: one more of them, one of them less -/
mutual
/-- no object that changes but the first n of them (no dicts but empty ones) -/
def D.cok (n : Nat) : D → Bool
  | .cel k => decide (k < n)
  | .lcl k _ => decide (k < n)
  | .tup l => D.coks n l
  | .lst l => D.coks n l
  | .obj _ d => d.cok n
  | .exc _ l => D.coks n l
  | .dct l => l.isEmpty
  | .dcn _ => false
  | _ => true
def D.coks (n : Nat) : List D → Bool
  | [] => true
  | d :: r => d.cok n && D.coks n r
end
section
variable {G : Cl} {M : AP} {H : Hp} {b : Addr × Addr × Addr} {l l' : List (List Addr)}
mutual
theorem Rep.adup : ∀ {v : V} {d : D}, Rep G (some (b, l)) M H v d → Rep G (some (b, l ++ l')) M H v d
  | _, _, .non => .non
  | _, _, .bl x => .bl x
  | _, _, .int i => .int i
  | _, _, .str x => .str x
  | _, _, .tup h n r => .tup h n (Reps.adup r)
  | _, _, .lst h n r => .lst h n (Reps.adup r)
  | _, _, .obj h hx n nx r => .obj h hx n nx (Rep.adup r)
  | _, _, .dct h n e r => .dct h n e (Reps.adup r)
  | _, _, .drw h => by
    cases h
    exact .drw rfl
  | _, _, .cel h hk => by
    cases h
    exact .cel rfl (by rw [List.getElem?_append_left (List.getElem?_eq_some_iff.mp hk).1]; exact hk)
  | _, _, .lcl h hk hj => by
    cases h
    exact .lcl rfl (by rw [List.getElem?_append_left (List.getElem?_eq_some_iff.mp hk).1]; exact hk) hj
  | _, _, .dcn h n e rk r => .dcn h n e (Reps.adup rk) (Reps.adup r)
  | _, _, .exc0 h n q => .exc0 h n q
  | _, _, .exc1 h hx n nx q r => .exc1 h hx n nx q (Rep.adup r)
  | _, _, .scrF h n => .scrF h n
  | _, _, .scrK h => .scrK h
theorem Reps.adup : ∀ {vs : List V} {ds : List D}, Reps G (some (b, l)) M H vs ds → Reps G (some (b, l ++ l')) M H vs ds
  | _, _, .nil => .nil
  | _, _, .cons r t => .cons (Rep.adup r) (Reps.adup t)
end
mutual
theorem Rep.adown : ∀ {v : V} {d : D}, Rep G (some (b, l ++ l')) M H v d → d.cok l.length = true → Rep G (some (b, l)) M H v d
  | _, _, .non, _ => .non
  | _, _, .bl x, _ => .bl x
  | _, _, .int i, _ => .int i
  | _, _, .str x, _ => .str x
  | _, _, .tup h n r, c => .tup h n (Reps.adown r (by simpa only [D.cok] using c))
  | _, _, .lst h n r, c => .lst h n (Reps.adown r (by simpa only [D.cok] using c))
  | _, _, .obj h hx n nx r, c => .obj h hx n nx (Rep.adown r (by simpa only [D.cok] using c))
  | _, _, .dct (kvs := kvs) (l := l) h n e r, c => by
    simp only [D.cok] at c
    cases l with
    | cons a b => cases c
    | nil =>
      cases kvs with
      | cons a b => simp at e
      | nil => exact .dct h n e .nil
  | _, _, .drw h, _ => by
    cases h
    exact .drw rfl
  | _, _, .cel h hk, c => by
    cases h
    simp only [D.cok, decide_eq_true_eq] at c
    exact .cel rfl (by rw [List.getElem?_append_left c] at hk; exact hk)
  | _, _, .lcl h hk hj, c => by
    cases h
    simp only [D.cok, decide_eq_true_eq] at c
    exact .lcl rfl (by rw [List.getElem?_append_left c] at hk; exact hk) hj
  | _, _, .dcn h n e rk r, c => by simp only [D.cok] at c; cases c
  | _, _, .exc0 h n q, _ => .exc0 h n q
  | _, _, .exc1 h hx n nx q r, c => .exc1 h hx n nx q (Rep.adown r (by simp only [D.cok, D.coks, Bool.and_true] at c; exact c))
  | _, _, .scrF h n, _ => .scrF h n
  | _, _, .scrK h, _ => .scrK h
theorem Reps.adown : ∀ {vs : List V} {ds : List D}, Reps G (some (b, l ++ l')) M H vs ds → D.coks l.length ds = true → Reps G (some (b, l)) M H vs ds
  | _, _, .nil, _ => .nil
  | _, _, .cons r t, c => by
    simp only [D.coks, Bool.and_eq_true] at c
    exact .cons (Rep.adown r c.1) (Reps.adown t c.2)
end
def Fd.cok (n : Nat) : Fd → Bool
  | .v d => d.cok n
  | .mn _ l => D.coks n (l.map (·.2)) && D.coks n (kDs (l.map (·.1)))
def Cel.cok (n : Nat) (c : Cel) : Bool := (c.fs.all fun f => f.2.cok n) && c.ls.all fun p => D.coks n p.2
theorem FdR.adup {v : V} {f : Fd} (h : FdR G (some (b, l)) M H v f) : FdR G (some (b, l ++ l')) M H v f := by
  cases f with
  | v d => exact Rep.adup h
  | mn p q =>
    obtain ⟨h0, kvs, h1, h2, h3, h4⟩ := h
    exact ⟨h0, kvs, h1, h2, h3.adup, h4.adup⟩
theorem FsR.adup : ∀ {vs : List (Str × V)} {fs : List (Str × Fd)}, FsR G (some (b, l)) M H vs fs → FsR G (some (b, l ++ l')) M H vs fs
  | _, _, .nil => .nil
  | _, _, .cons r t => .cons ⟨r.1, r.2.adup⟩ (FsR.adup t)
theorem FdR.adown {v : V} {f : Fd} (h : FdR G (some (b, l ++ l')) M H v f) (c : f.cok l.length = true) : FdR G (some (b, l)) M H v f := by
  cases f with
  | v d => exact Rep.adown h c
  | mn p q =>
    obtain ⟨h0, kvs, h1, h2, h3, h4⟩ := h
    have c := (Bool.and_eq_true _ _).mp c
    exact ⟨h0, kvs, h1, h2, h3.adown c.2, h4.adown c.1⟩
theorem FsR.adown : ∀ {vs : List (Str × V)} {fs : List (Str × Fd)}, FsR G (some (b, l ++ l')) M H vs fs → (∀ f ∈ fs, f.2.cok l.length = true) → FsR G (some (b, l)) M H vs fs
  | _, _, .nil, _ => .nil
  | _, _, .cons r t, c => .cons ⟨r.1, r.2.adown (c _ List.mem_cons_self)⟩ (FsR.adown t fun f hf => c f (List.mem_cons_of_mem _ hf))
theorem CRec.adup {c : Cel} (h : CRec G (some (b, l)) M H c) : CRec G (some (b, l ++ l')) M H c := by
  obtain ⟨vs, h1, h2⟩ := h.at_
  exact ⟨⟨vs, h1, h2.adup⟩, h.own, h.len, fun p hp => let ⟨us, h3, h4⟩ := h.lr p hp; ⟨us, h3, h4.adup⟩⟩
theorem CRec.adown {c : Cel} (h : CRec G (some (b, l ++ l')) M H c) (k : c.cok l.length = true) : CRec G (some (b, l)) M H c := by
  obtain ⟨vs, h1, h2⟩ := h.at_
  have k := (Bool.and_eq_true _ _).mp k
  exact ⟨⟨vs, h1, h2.adown fun f hf => List.all_eq_true.mp k.1 f hf⟩, h.own, h.len, fun p hp => let ⟨us, h3, h4⟩ := h.lr p hp; ⟨us, h3, h4.adown (List.all_eq_true.mp k.2 p hp)⟩⟩
end
/-- where the draws and the objects that change stand -/
def hasOf : Ad → AP
  | none => Non
  | some ((a, c, g), l) => fun b => b = a ∨ b = c ∨ b = g ∨ b ∈ l.flatten
theorem has_of (m : Mo) : m.has = hasOf m.ad := by
  cases m with
  | none => rfl
  | some r =>
    show (fun b => b = r.am ∨ b = r.ac ∨ b = r.ag ∨ b ∈ r.ads) = fun b => b = r.am ∨ b = r.ac ∨ b = r.ag ∨ b ∈ (r.cs.map Cel.ads).flatten
    unfold MS.ads
    rw [List.flatMap_def]
/-- a frame in which there is one object more that changes -/
structure Grown (B B' : Bx) (ads : List Addr) : Prop where
  h0 : B'.H0 = B.H0
  X : B'.X = B.X
  T : B'.T = B.T
  ad : ∃ b l, B.ad = some (b, l) ∧ B'.ad = some (b, l ++ [ads])
  A : ∀ b, B'.A b ↔ B.A b ∨ b ∈ ads
  new : ∀ b ∈ ads, ¬ Liv B.H0 b ∧ ¬ B.X b ∧ ¬ B.A b
def MS.push (r : MS) (c : Cel) : MS := { r with cs := r.cs ++ [c] }
def MS.pop (r : MS) : MS := { r with cs := r.cs.dropLast }
def bornB (B : Bx) (m : Mo) : Bx := { B with ad := m.ad, A := m.has }
def bornH (G : Cl) (H : Hp) (c : Nat) (a dx : Addr) : Hp := upd (upd H dx (.own a)) a (.ins (G.cl c) dx [])
section
variable {G : Cl} {B : Bx} {M : AP} {pm : Nat → Addr} {ρ : Ro} {r : MS} {σ : L2.St} {H : Hp} {c : Nat} {a dx : Addr}
end
end Dn
namespace Dn
open PySem PySem.Spec PyProof.Rows L2
/-! an object that changes goes out of sight -/
def okC (n : Nat) (r : MS) : Bool := r.cs.dropLast.all fun c => c.cok n
section
variable {G : Cl} {B B' : Bx} {ads : List Addr}
theorem Grown.mb (gr : Grown B B' ads) {b : Addr} (h : MB B b) : MB B' b := h.elim (fun z => .inl ((gr.A b).mpr (.inl z))) fun z => .inr (by rw [gr.X]; exact z)
theorem Grown.pop_ad (gr : Grown B B' ads) {r : MS} (h : Mo.ad (some r) = B'.ad) : Mo.ad (some r.pop) = B.ad ∧ ∃ b, B.ad = some (b, r.cs.dropLast.map Cel.ads) ∧ B'.ad = some (b, r.cs.dropLast.map Cel.ads ++ [ads]) ∧ r.cs ≠ [] := by
  obtain ⟨b, l, e1, e2⟩ := gr.ad
  have h' : some ((r.am, r.ac, r.ag), r.cs.map Cel.ads) = some (b, l ++ [ads]) := h.trans e2
  have h2 := Option.some.inj h'
  have hb : (r.am, r.ac, r.ag) = b := congrArg Prod.fst h2
  have hl : r.cs.map Cel.ads = l ++ [ads] := congrArg Prod.snd h2
  have hd : r.cs.dropLast.map Cel.ads = l := by
    rw [List.map_dropLast, hl, List.dropLast_concat]
  refine ⟨?_, b, by rw [e1, hd], by rw [e2, hd], fun z => ?_⟩
  · show some ((r.am, r.ac, r.ag), r.cs.dropLast.map Cel.ads) = _
    rw [hd, hb, e1]
  · rw [z] at hl
    simp at hl
theorem Grown.rep (gr : Grown B B' ads) {r : MS} (h : Mo.ad (some r) = B'.ad) {M M' : AP} (hM : ∀ b, M b → M' b) {H : Hp} {v : V} {d : D} (q : Rep G B'.ad M' H v d) (c : d.cok (r.cs.length - 1) = true) : Rep G B.ad M H v d := by
  obtain ⟨_, b, e1, e2, _⟩ := gr.pop_ad h
  rw [e2] at q
  rw [e1]
  exact (q.adown (by rw [List.length_map, List.length_dropLast]; exact c)).less hM
theorem Grown.mrep (gr : Grown B B' ads) {r : MS} (h : Mo.ad (some r) = B'.ad) {M M' : AP} (hM : ∀ b, M b → M' b) {H : Hp} (q : MRep G M' H (some r)) (k : okC (r.cs.length - 1) r = true) : MRep G M H (some r.pop) := by
  obtain ⟨e0, b, e1, e2, ne⟩ := gr.pop_ad h
  obtain ⟨k1, k2⟩ := q
  have sub : ∀ c ∈ r.pop.cs, c ∈ r.cs := fun c hc => (List.dropLast_sublist r.cs).subset hc
  have hads : r.ads = r.pop.ads ++ (r.cs.getLast ne).ads := by
    show r.cs.flatMap Cel.ads = r.cs.dropLast.flatMap Cel.ads ++ _
    have z := List.dropLast_concat_getLast ne
    conv => lhs; rw [← z]
    rw [List.flatMap_append]
    simp
  have nd := k2.nd
  rw [hads] at nd
  refine ⟨k1, fun c hc => ?_, (List.nodup_append.mp nd).1, fun b hb => k2.ap b (by rw [hads]; exact List.mem_append_left _ hb)⟩
  have q1 := k2.c c (sub c hc)
  rw [h, e2] at q1
  rw [e0, e1]
  have q2 := q1.adown (by rw [List.length_map, List.length_dropLast]; exact List.all_eq_true.mp k c hc)
  exact q2.mono (A := Non) Ext.refl (fun _ z => z.elim) hM fun _ _ z => z
/-- the state behind, as it is without the object -/
theorem Grown.go (gr : Grown B B' ads) (hA : B.A = hasOf B.ad) {r : MS} {M M' : AP} {H H1 H' : Hp} (hM : ∀ b, M b → M' b) (fresh : ∀ b ∈ ads, ¬ Liv H b) (x : Ext Non H H1) (g : Go G B' M' (some r) H1 H') (k : okC (r.cs.length - 1) r = true) : Go G B M (some r.pop) H H' := by
  obtain ⟨e0, _⟩ := gr.pop_ad g.ea
  refine ⟨fun b o n t h => ?_, e0, by rw [has_of, e0, hA], gr.mrep g.ea hM g.mr k, by rw [← gr.T]; exact g.tb⟩
  refine g.x b o (fun z => ?_) t (x b o (fun z => z) t h)
  rcases (gr.A b).mp z with z | z
  · exact n z
  · exact fresh b z ⟨o, h, t⟩
end
theorem EnvR.hA {G : Cl} {B : Bx} {M : AP} {pm : Nat → Addr} {ρ : Ro} {m : Mo} {σ : L2.St} {H : Hp} (e : EnvR G B M pm ρ m σ H) : B.A = hasOf B.ad := by
  rw [← e.eh, has_of, e.ea]
/-! what comes, the object gone -/
def popS (n : Nat) : SR → SR
  | .rt d (some r) => if r.cs.length - 1 = n ∧ okC n r = true ∧ d.cok n = true then .rt d (some r.pop) else .bad
  | .exc c l (some r) => if r.cs.length - 1 = n ∧ okC n r = true ∧ D.coks n l = true then .exc c l (some r.pop) else .bad
  | _ => .bad
def popR (n : Nat) : R D → R D
  | .ok d (some r) => if r.cs.length - 1 = n ∧ okC n r = true ∧ d.cok n = true then .ok d (some r.pop) else .bad
  | .exc c l (some r) => if r.cs.length - 1 = n ∧ okC n r = true ∧ D.coks n l = true then .exc c l (some r.pop) else .bad
  | _ => .bad
open Classical in
noncomputable def allS (f : Addr → Addr → SR) : SR := if h : ∃ z, ∀ a dx, f a dx = z then Classical.choose h else .bad
open Classical in
noncomputable def allR (f : Addr → Addr → R D) : R D := if h : ∃ z, ∀ a dx, f a dx = z then Classical.choose h else .bad
/-- a statement that makes an object, and all that comes behind it -/
noncomputable def newS (c n : Nat) (F : DF) (ds : List D) (r : MS) (k : Mo → SR) : SR := if ds.length + 1 = n then allS fun a dx => popS r.cs.length (sBind (F (.cel r.cs.length :: ds) (some (r.push ⟨a, dx, c, [], []⟩))) fun y m2 => match y with
  | .non => k m2
  | _ => .bad) else .bad
noncomputable def newR (c n : Nat) (F : DF) (ds : List D) (r : MS) (k : Mo → R D) : R D := if ds.length + 1 = n then allR fun a dx => popR r.cs.length ((F (.cel r.cs.length :: ds) (some (r.push ⟨a, dx, c, [], []⟩))).bind fun y m2 => match y with
  | .non => k m2
  | _ => .bad) else .bad
section
variable {G : Cl} {E : XK} {B B' : Bx} {ads : List Addr} {M M4 : AP} {H H4 : Hp}
end
section
variable {G : Cl} {E : XK}
noncomputable def sNewP (js : List Nat) (c n : Nat) (F : DF) (fa : DA) (fvs : DVs) (rest : DS) : DS := fun ρ m => sBind (fa ρ m) fun ds m1 => match m1 with
  | none => .bad
  | some r => newS c n F ds r fun m2 => sBind (fvs ρ m2) fun ss m3 => if ss.length + 1 = js.length ∧ (∀ i ∈ js, i < ρ.length) then rest (setsD js (.v (.cel r.cs.length) :: ss) ρ) m3 else .bad
end
end Dn
namespace Dn
open PySem PySem.Spec PyProof.Rows L2
/-! fields of objects that change -/
def Mo.cell (m : Mo) (k : Nat) : Option Cel := match m with
  | some r => r.cs[k]?
  | none => none
def MS.put (r : MS) (k : Nat) (q : Cel) : MS := { r with cs := r.cs.set k q }
def putFd (f : Str) (d : D) : List (Str × Fd) → List (Str × Fd)
  | [] => [(f, .v d)]
  | (g, x) :: r => if g = f then (g, .v d) :: r else (g, x) :: putFd f d r
def okPut (f : Str) (fs : List (Str × Fd)) : Bool := match fs.lookup f with
  | some (.mn _ _) => false
  | _ => true
def getF (c0 : Nat) (f : Str) (x : D) (m : Mo) : Option D := match x with
  | .cel k => match m.cell k with
    | some q => if q.c = c0 then match q.fs.lookup f with
        | some (.v d) => some d
        | _ => none
      else none
    | none => none
  | _ => none
def setF (c0 : Nat) (f : Str) (x d : D) (m : Mo) : Option Mo := match x, m with
  | .cel k, some r => match r.cs[k]? with
    | some q => if q.c = c0 ∧ okPut f q.fs = true ∧ q.fs.length < 900 then some (some (r.put k { q with fs := putFd f d q.fs })) else none
    | none => none
  | _, _ => none
section
variable {G : Cl} {ad : Ad} {M : AP} {H : Hp}
theorem FsR.lookup {f : Str} : ∀ {vs : List (Str × V)} {fs : List (Str × Fd)}, FsR G ad M H vs fs → (∀ {x : Fd}, fs.lookup f = some x → ∃ v, vs.lookup f = some v ∧ FdR G ad M H v x) ∧ (fs.lookup f = none → vs.lookup f = none)
  | _, _, .nil => ⟨fun h => (by cases h), fun _ => rfl⟩
  | (g, v) :: vs, (g', x) :: fs, .cons r t => by
    obtain ⟨e, hr⟩ := r
    have e' : g = g' := e
    subst e'
    obtain ⟨i1, i2⟩ := FsR.lookup (f := f) t
    rw [List.lookup_cons, List.lookup_cons]
    cases h : (f == g) with
    | true => exact ⟨fun {y} q => ⟨v, rfl, by cases q; exact hr⟩, fun q => by cases q⟩
    | false => exact ⟨fun {y} q => i1 q, fun q => i2 q⟩
theorem FsR.put {f : Str} {v : V} {d : D} (r : Rep G ad M H v d) : ∀ {vs : List (Str × V)} {fs : List (Str × Fd)}, FsR G ad M H vs fs → FsR G ad M H (putF f v vs) (putFd f d fs)
  | _, _, .nil => .cons ⟨rfl, r⟩ .nil
  | (g, u) :: vs, (g', x) :: fs, .cons q t => by
    obtain ⟨e, hr⟩ := q
    have e' : g = g' := e
    subst e'
    unfold putF putFd
    by_cases h : g = f
    · rw [if_pos h, if_pos h]
      exact .cons ⟨rfl, r⟩ t
    · rw [if_neg h, if_neg h]
      exact .cons ⟨rfl, hr⟩ (FsR.put r t)
theorem putFd_ads {f : Str} {d : D} : ∀ {fs : List (Str × Fd)}, okPut f fs = true → (putFd f d fs).flatMap (fun x => x.2.ads) = fs.flatMap fun x => x.2.ads
  | [], _ => rfl
  | (g, x) :: r, h => by
    unfold okPut at h
    rw [List.lookup_cons] at h
    unfold putFd
    by_cases e : g = f
    · subst e
      rw [beq_self_eq_true] at h
      rw [if_pos rfl, List.flatMap_cons, List.flatMap_cons]
      cases x with
      | v d => rfl
      | mn p l => cases h
    · have e2 : (f == g) = false := beq_eq_false_iff_ne.mpr fun z => e z.symm
      rw [e2] at h
      rw [if_neg e, List.flatMap_cons, List.flatMap_cons, putFd_ads (fs := r) h]
theorem putFd_len {f : Str} {d : D} : ∀ {fs : List (Str × Fd)}, (putFd f d fs).length ≤ fs.length + 1
  | [] => by simp [putFd]
  | (g, x) :: r => by
    unfold putFd
    split
    · simp
    · have := putFd_len (f := f) (d := d) (fs := r)
      simp only [List.length_cons]
      omega
theorem flat_one : ∀ {cs : List Cel} {q : Cel}, (cs.flatMap Cel.ads).Nodup → q ∈ cs → q.ads.Nodup
  | [], _, _, h => by cases h
  | c :: cs, q, nd, h => by
    rw [List.flatMap_cons] at nd
    rcases List.mem_cons.mp h with rfl | h
    · exact (List.nodup_append.mp nd).1
    · exact flat_one (List.nodup_append.mp nd).2.1 h
theorem flat_disj : ∀ {cs : List Cel} {i j : Nat} {a b : Cel}, (cs.flatMap Cel.ads).Nodup → cs[i]? = some a → cs[j]? = some b → i ≠ j → ∀ x ∈ a.ads, x ∉ b.ads
  | [], i, _, _, _, _, h, _, _ => by simp at h
  | c :: cs, 0, 0, _, _, _, _, _, n => absurd rfl n
  | c :: cs, 0, j + 1, a, b, nd, h1, h2, _ => fun x hx hy => by
    rw [List.flatMap_cons] at nd
    cases h1
    exact (List.nodup_append.mp nd).2.2 x hx x (List.mem_flatMap.mpr ⟨b, List.mem_of_getElem? (by simpa using h2), hy⟩) rfl
  | c :: cs, i + 1, 0, a, b, nd, h1, h2, _ => fun x hx hy => by
    rw [List.flatMap_cons] at nd
    cases h2
    exact (List.nodup_append.mp nd).2.2 x hy x (List.mem_flatMap.mpr ⟨a, List.mem_of_getElem? (by simpa using h1), hx⟩) rfl
  | c :: cs, i + 1, j + 1, a, b, nd, h1, h2, n => by
    rw [List.flatMap_cons] at nd
    exact flat_disj (List.nodup_append.mp nd).2.1 (by simpa using h1) (by simpa using h2) fun z => n (by rw [z])
end
section
variable {G : Cl} {E : XK} {B : Bx} {M : AP} {pm : Nat → Addr} {ρ : Ro} {m : Mo} {σ : L2.St} {H : Hp}
theorem EnvR.cell {x : V} {k : Nat} (e : EnvR G B M pm ρ m σ H) (r : Rep G B.ad M H x (.cel k)) : ∃ (s : MS) (q : Cel), m = some s ∧ s.cs[k]? = some q ∧ x = .ref q.a ∧ CRec G B.ad M H q ∧ q ∈ s.cs := by
  cases r with
  | cel h hk =>
    cases m with
    | none =>
      have z := e.ea
      rw [h] at z
      cases z
    | some s =>
      have z := e.ea
      rw [h] at z
      have hl := congrArg Prod.snd (Option.some.inj z)
      dsimp only at hl
      rw [← hl, List.getElem?_map] at hk
      obtain ⟨q, hq, ha⟩ := Option.map_eq_some_iff.mp hk
      have hqa := (List.cons.inj ha).1
      have hm := List.mem_of_getElem? hq
      exact ⟨s, q, rfl, hq, by rw [← hqa], by have := e.mr.2.c q hm; rwa [e.ea] at this, hm⟩
/-- a field gets a value -/
theorem EnvR.put {s : MS} {k : Nat} {q : Cel} {f : Str} {v : V} {d : D} {vs : List (Str × V)} (e : EnvR G B M pm ρ (some s) σ H) (hq : s.cs[k]? = some q) (hv : H q.a = some (.ins (G.cl q.c) q.dx vs)) (hf : FsR G B.ad M H vs q.fs) (r : Rep G B.ad M H v d) (ok : okPut f q.fs = true) (hl : q.fs.length < 900) :
    Go G B M (some (s.put k { q with fs := putFd f d q.fs })) H (upd H q.a (.ins (G.cl q.c) q.dx (putF f v vs))) := by
  have hm := List.mem_of_getElem? hq
  obtain ⟨k1, k2⟩ := e.mr
  have inq : q.a ∈ q.ads := List.mem_cons_self
  have qA : B.A q.a := by
    rw [← e.eh]
    exact .inr (.inr (.inr (mem_ads hm inq)))
  have qM : M q.a := e.aM _ qA
  have ads' : ({ q with fs := putFd f d q.fs } : Cel).ads = q.ads := by
    unfold Cel.ads
    rw [putFd_ads ok]
  have eads : (s.put k { q with fs := putFd f d q.fs }).cs.map Cel.ads = s.cs.map Cel.ads := by
    show (s.cs.set k _).map Cel.ads = _
    rw [List.map_set, ads']
    apply List.ext_getElem?
    intro i
    rw [List.getElem?_set]
    by_cases h : k = i
    · subst h
      have hlt := (List.getElem?_eq_some_iff.mp hq).1
      rw [if_pos rfl, if_pos (by rw [List.length_map]; exact hlt), List.getElem?_map, hq]
      rfl
    · rw [if_neg h]
  have flat : (s.put k { q with fs := putFd f d q.fs }).ads = s.ads := by
    unfold MS.ads
    rw [List.flatMap_def, List.flatMap_def, eads]
  have ead : Mo.ad (some (s.put k { q with fs := putFd f d q.fs })) = Mo.ad (some s) := by
    show some ((s.am, s.ac, s.ag), _) = some ((s.am, s.ac, s.ag), _)
    rw [eads]
  have x1 : Ext (fun b => b = q.a) H (upd H q.a (.ins (G.cl q.c) q.dx (putF f v vs))) := Ext.refl.chg (.inr rfl)
  have one : ∀ b, b = q.a → M b := fun b hb => hb ▸ qM
  obtain ⟨p1, p2, p3⟩ := k2.ap q.a (mem_ads hm inq)
  refine ⟨Ext.refl.chg (.inr qA), by rw [ead]; exact e.ea, by rw [has_of, ead, e.ea]; exact e.hA.symm, ⟨?_, fun c hc => ?_, by rw [flat]; exact k2.nd, fun b hb => k2.ap b (by rw [← flat]; exact hb)⟩, tabs_upd e.tb (.ins hv)⟩
  · obtain ⟨h1, h2, h3, h4⟩ := k1
    exact ⟨by show upd H q.a _ s.am = _; rw [upd_ne p1.symm]; exact h1, by show upd H q.a _ s.ac = _; rw [upd_ne p2.symm]; exact h2, by show upd H q.a _ s.ag = _; rw [upd_ne p3.symm]; exact h3, h4⟩
  · rw [ead]
    obtain ⟨j, hj⟩ := List.getElem?_of_mem hc
    have hj' : (s.cs.set k { q with fs := putFd f d q.fs })[j]? = some c := hj
    rw [List.getElem?_set] at hj'
    have qr := k2.c q hm
    by_cases h : k = j
    · subst h
      have hlt := (List.getElem?_eq_some_iff.mp hq).1
      rw [if_pos rfl, if_pos hlt] at hj'
      cases hj'
      have ndx : q.dx ≠ q.a := fun z => by
        have nd : (q.ads).Nodup := flat_one k2.nd hm
        unfold Cel.ads at nd
        rw [List.nodup_cons] at nd
        exact nd.1 (by rw [← z]; exact List.mem_cons_self)
      have hads : ∀ b ∈ q.ls.map (·.1) ++ q.fs.flatMap (fun f => f.2.ads), ¬ b = q.a := fun b hb z => by
        have nd : (q.ads).Nodup := flat_one k2.nd hm
        unfold Cel.ads at nd
        rw [List.nodup_cons] at nd
        exact nd.1 (by rw [← z]; exact List.mem_cons_of_mem _ hb)
      have eaB : Mo.ad (some s) = B.ad := e.ea
      rw [eaB]
      refine ⟨⟨putF f v vs, upd_same, FsR.mono x1 one (fun _ h => h) (FsR.put r hf) fun b hb => ?_⟩, by show upd H q.a _ q.dx = _; rw [upd_ne ndx]; exact qr.own, ?_, ?_⟩
      · rw [putFd_ads ok] at hb
        exact hads b (List.mem_append_right _ hb)
      · have := putFd_len (f := f) (d := d) (fs := q.fs)
        show (putFd f d q.fs).length ≤ 900
        omega
      · have lq := qr.lr
        rw [eaB] at lq
        exact lq.mono x1 one (fun _ h => h) fun b hb => hads b (List.mem_append_left _ hb)
    · rw [if_neg h] at hj'
      have hcm := List.mem_of_getElem? hj'
      exact (k2.c c hcm).mono x1 one (fun _ h => h) fun b hb z => flat_disj k2.nd hj' hq (fun z => h z.symm) b hb (z ▸ inq)
end
def dCf (c0 : Nat) (f : Str) (fa : DE) : DE := fun ρ m => (fa ρ m).bind fun x m1 => R.of (getF c0 f x m1) m1
def sCset (c0 : Nat) (f : Str) (fa fv : DE) : DS := fun ρ m => sBind (fv ρ m) fun d m1 => sBind (fa ρ m1) fun x m2 => match setF c0 f x d m2 with
  | some m3 => .nx ρ m3
  | none => .bad
def sCaug (c0 : Nat) (f : Str) (g : D → D → Option D) (fa fv : DE) : DS := fun ρ m => sBind (fa ρ m) fun x m1 => match getF c0 f x m1 with
  | some v => sBind (fv ρ m1) fun y m2 => match g v y with
    | some z => match setF c0 f x z m2 with
      | some m3 => .nx ρ m3
      | none => .bad
    | none => .bad
  | none => .bad
section
variable {G : Cl} {E : XK} {c0 : Nat} {f : Str}
end
/-! methods of such objects -/
def tMethC (C : Addr) (m : Str) (sp : Sp) (E : XK) (ta : TE) (t : TA) : TE := fun σ H Q => ta σ H fun x H1 => ∃ a dx fs, x = .ref a ∧ H1 a = some (.ins C dx fs) ∧ fs.lookup m = none ∧ t σ H1 fun vs H2 => sp (x :: vs) H2 Q E
section
variable {X : Cx} {k : Nat} {f C : Addr} {sp : Sp} {E : XK} {m : Str} {pos apos : Pos} {o e : Expr} {es : List Expr} {ta : TE} {t : TA}
end
/-- is it such an object, without a field of that name -/
def isC (c0 : Nat) (f : Str) (x : D) (m : Mo) : Bool := match x with
  | .cel k => match m.cell k with
    | some q => decide (q.c = c0) && (q.fs.lookup f).isNone
    | none => false
  | _ => false
def dMethC (c0 : Nat) (f : Str) (n : Nat) (F : DF) (fo : DE) (fa : DA) : DE := fun ρ m => (fo ρ m).bind fun x m1 => if isC c0 f x m1 = true then (fa ρ m1).bind fun ds m2 => if ds.length + 1 = n then F (x :: ds) m2 else .bad else .bad
section
variable {G : Cl} {E : XK} {c0 : Nat} {f : Str}
end
end Dn
namespace Dn
open PySem PySem.Spec PyProof.Rows L2
/-! calls by names: f(k = v, ..) -/
def pick {α : Type} (d : α) (ix : List Nat) (l : List α) : List α := ix.map fun i => l.getD i d
theorem Vals.getD {vs : List V} {us : List Value} (r : Vals vs us) : ∀ i, RelV (vs.getD i .non) (us.getD i .none) := by
  induction r with
  | nil => exact fun i => by cases i <;> rfl
  | cons h t ih =>
    intro i
    cases i with
    | zero => exact h
    | succ i => exact ih i
theorem Vals.pick {vs : List V} {us : List Value} (r : Vals vs us) : ∀ ix, Vals (Dn.pick .non ix vs) (Dn.pick .none ix us)
  | [] => .nil
  | i :: ix => .cons (Vals.getD r i) (Vals.pick r ix)
def tPick (n : Nat) (ix : List Nat) (t : TA) : TA := fun σ H Q => t σ H fun zs H1 => zs.length = n ∧ Q (pick .non ix zs) H1
def dPick (n : Nat) (ix : List Nat) (fa : DA) : DA := fun ρ m => (fa ρ m).bind fun ds m1 => if ds.length = n then .ok (pick .non ix ds) m1 else .bad
/-- a def's promise to those who call it by names: nf values ahead (self), the others by the names ks; ix: where each parameter's value stands -/
def FnK (P : Program) (w : World) (K : PySem.W.Frag) (mg : Str → Option Value) (base : Heap) (k : Nat) (f : Addr) (nf : Nat) (ks : List Str) (ix : List Nat) (sp : Sp) : Prop :=
  ∀ (A : Around) (out : List Env) (s : Shared) (H : Hp) (us ws : List Value) (vs zs : List V) (Q : VK) (E : XK), RG k A → Env0 P w K mg base A out s H → us.length = nf → ws.length = ks.length → Vals vs us → Vals zs ws → sp (vs ++ pick .non ix zs) H Q E →
    codeAny (model P w) A (.call (.ref f) ⟨us, ks.zip ws⟩) (CR (L2.CX P w) out P w H s Q E) s
section
variable {P : Program} {w : World} {K : PySem.W.Frag} {mg : Str → Option Value} {base : Heap} {k : Nat} {f : Addr} {sp : Sp} {nf : Nat} {ks : List Str} {ix : List Nat}
end
section
variable {X : Cx} {k : Nat} {f C : Addr} {sp : Sp} {E : XK} {x m : Str} {p pos apos : Pos} {o : Expr} {ta : TE} {t : TA} {ks : List Str} {ix : List Nat} {kws : List Keyword}
end
section
variable {G : Cl} {E : XK}
theorem Reps.getI {ad : Ad} {M : AP} {H : Hp} : ∀ {vs : List V} {ds : List D}, Reps G ad M H vs ds → ∀ i, Rep G ad M H (vs.getD i .non) (ds.getD i .non)
  | _, _, .nil, i => by cases i <;> exact .non
  | _, _, .cons h t, 0 => h
  | _, _, .cons h t, i + 1 => Reps.getI t i
theorem Reps.pick {ad : Ad} {M : AP} {H : Hp} {vs : List V} {ds : List D} (r : Reps G ad M H vs ds) : ∀ ix, Reps G ad M H (Dn.pick .non ix vs) (Dn.pick .non ix ds)
  | [] => .nil
  | i :: ix => .cons (Reps.getI r i) (Reps.pick r ix)
end
end Dn
namespace Dn
open PySem PySem.Spec PyProof.Rows L2
open PySem.W PySem.Calls PySem.HandSPX
/-! own exceptions made by hand, by names: BadRow(place=q) -/
section
variable {M : Model} {A : Around} {E : Value → Shared → Prop} {h : Heap} {g : Array GenState} {d : Drawn} {t : Nat} {os : OsState}
variable {nm q : Str} {C N : Addr} {bs bm bmB : List Value} {hdct : Bool} {sn : List Str} {sub : List Value} {ab : Bool} {col : Option Bool} {dd : Option Addr} {k0 k1 k2 k3 k5 : Option Value} {B newId initId : String}
end
section
variable {prog : Program} {w : World} {A : Around} {E : Value → Shared → Prop} {R : Result → Shared → Prop} {h : Heap} {g : Array GenState} {d : Drawn} {t : Nat} {os : OsState}
variable {nm q : Str} {C N : Addr} {bs bm bmB : List Value} {hdct : Bool} {sn : List Str} {sub : List Value} {ab : Bool} {col : Option Bool} {dd : Option Addr} {k0 k1 k2 k3 k5 : Option Value} {B newId initId : String}
end
/-- an own exception class with one field, made by hand by the parameter's name xk -/
structure XAllK (P : Program) (K : Frag) (C fI : Addr) (f xk : Str) : Prop where
  ex : ∃ (B newId initId : String) (bmB : List Value) (fd : FuncData) (sn tx : Str) (j : Nat) (p0 p1 p2 p3 p4 p5 : Pos), ExcBaseFacts B newId initId bmB ∧ KxsFacts B initId ∧ StoreFacts B bmB "object.__setattr__" "object" ∧
    XCls K C B newId initId bmB ∧ XFn P K C fI fd ∧ XTxt P fd sn tx j p0 p1 p2 p3 p4 p5 ∧ typeIn K (.ref fI) = some (.type "function") ∧
    ∃ (x : Str) (q1 q2 q3 q4 : Pos), fd.body = .stmts [supStmt tx j p0 p1 p2 p3 p4 p5, .Assign [.Attribute (.Name sn q1) f q2] (.Name x q3) q4] ∧ fd.scope.names.lookup x = some .local ∧ x ≠ sn ∧ (sn == ("__debug__" : Str)) = false ∧ (x == ("__debug__" : Str)) = false ∧
        (∀ env, swapsWith (.Name x q3) (some (.Attribute (.Name sn q1) f q2)) q4.line env = pure false) ∧ takerIn K C f = some none ∧ ∀ (s : Shared) (v u : Value), BindsTo s fd ⟨[v], [(xk, u)]⟩ [(sn, v), (x, u)]
section
variable {P : Program} {w : World} {A : Around} {K : Frag} {C fI : Addr} {mg : Str → Option Value} {R : Result → Shared → Prop}
theorem XAllK.excl {f xk : Str} (Y : XAllK P K C fI f xk) : subIn K (.ref C) (.type "BaseException") = some true ∧ typeIn K (.ref C) = some (.type "type") ∧ keepIn K (.ref C) = true := by
  obtain ⟨_, _, _, _, _, _, _, _, _, _, _, _, _, _, _, _, _, T, _⟩ := Y.ex
  exact ⟨T.exC, T.tyC, T.kC⟩
end
section
variable {X : Cx} {C fI : Addr} {k : Nat} {x f xk : Str} {p pos kpos : Pos} {e : Expr} {te : TE}
end
end Dn
namespace PySem.SeqAt
open PySem.AutoSeq1 (wpAny_loadPart')
open MeetsSeq
/-! x == y, x of a built-in type, y an instance whose class tells ==: x declines, y is asked -/
end PySem.SeqAt
namespace Dn
open PySem PySem.Spec PyProof.Rows L2
open PySem.W PySem.Calls Builtin
section
variable {prog : Program} {w : World} {A : Around} {E : Value → Shared → Prop} {s : Shared} {K : Frag} {x C f : Addr} {ox : Obj} {od : Option Obj} {a : Value}
end
/-- plain data, by the type's name -/
inductive PlX (K : Frag) (H : Hp) : V → String → Prop where
  | non : PlX K H .non "NoneType"
  | int (i : Int) : PlX K H (.int i) "int"
  | str (t : Str) : PlX K H (.str t) "str"
  | lst {a : Addr} {xs : List V} (h : H a = some (.lst xs)) : PlX K H (.ref a) "list"
  | tup {a : Addr} {xs : List V} (h : SqT K H a xs) : PlX K H (.ref a) "tuple"
  | dct {a : Addr} {kvs : List (Key × V)} (h : H a = some (.dK kvs)) : PlX K H (.ref a) "dict"
def plNames : List String := ["NoneType", "int", "str", "list", "tuple", "dict"]
def rRefl (K : Frag) (C : Addr) (sp : Sp) (E : XK) : R2 := fun x y H Q => ∃ n a dx vs, PlX K H x n ∧ y = .ref a ∧ SlX.Slt H a C dx vs ∧ sp [y, x] H (fun z H' => ∃ k, z = .bl k ∧ Q (.bl k) H') E
section
variable {X : Cx} {k : Nat} {C g : Addr} {sp : Sp} {E : XK}
end
def plD : D → Bool
  | .non => true
  | .int _ => true
  | .str _ => true
  | .tup _ => true
  | .lst _ => true
  | .dct _ => true
  | _ => false
def dEqB (c : Nat) (F : DF) (fa fb : DE) : DE := fun ρ m => (fa ρ m).bind fun x m1 => (fb ρ m1).bind fun y m2 => match y with
  | .obj c' d => if c' = c ∧ plD x = true then (F [.obj c' d, x] m2).bind fun z m3 => match z with
      | .bl k => .ok (.bl k) m3
      | _ => .bad
    else .bad
  | _ => .bad
def reflB (K : Frag) (C : Addr) : Bool := plNames.all fun n => decide (subIn K (.ref C) (.type n) = some false)
/-- an exception class without its own __init__ -/
def excZB (K : Frag) (C : Addr) : Bool := excIn K C (nM false) (nN false) && keepIn K (.ref C)
end Dn
namespace Dn
open PySem PySem.Spec PyProof.Rows L2
open PySem.W
/-! classes whose objects have a dict: what is asked of the fragment; a sign in a text; int(text) -/
def clsDB (K : Frag) (C : Addr) : Bool := plainGet K C Str.empty && (hasDictIn K C && (plainOver K C && He.eqO (findIn K (.ref C) "__setattr__") (some (some (.builtin "object.__setattr__")))))
def noAttrB (K : Frag) (C : Addr) (f : Str) : Bool := He.eqO (findIn K (.ref C) f) (some none)
def inSD (neg : Bool) : D → D → Option D
  | .str x, .str z => match x.cps.toList with
    | [c] => some (.bl (neg ^^ decide (c ∈ z.cps.toList)))
    | _ => none
  | _, _ => none
/-- int of a whole number, a truth value or a text of one or two figures -/
def rIntS : List V → Hp → VK → Prop := fun xs H Q => ∃ a n, xs = [.str a] ∧ PySem.intText? a = some n ∧ a.length ≤ 640 ∧ Q (.int n) H
def rIntU : List V → Hp → VK → Prop := fun xs H Q => ((∃ i, xs = [.int i] ∧ Q (.int i) H) ∨ ∃ k, xs = [.bl k] ∧ Q (.int (if k then 1 else 0)) H) ∨ rIntS xs H Q
def intSD : List D → Option D
  | [.str a] => if a.length ≤ 640 then (PySem.intText? a).map .int else none
  | [.int i] => some (.int i)
  | [.bl b] => some (.int (if b then 1 else 0))
  | _ => none
/-! slices of texts -/
def slSD : D → Option Int → Option Int → Option D
  | .str z, lo, hi => if z.length ≤ 1000000 then some (.str (cutS z lo hi)) else none
  | _, _, _ => none
def dSlS (fx : DE) (fl fh : DO) : DE := fun ρ m => (fx ρ m).bind fun x m1 => (fl ρ m1).bind fun l m2 => (fh ρ m2).bind fun h m3 => R.of (slSD x l h) m3
/-! evaluator -/
section
variable {ρ : Ro} {m : Mo}
theorem ev_cf {c0 : Nat} {f : Str} {fa : DE} : dCf c0 f fa ρ m = (fa ρ m).bind fun x m1 => R.of (getF c0 f x m1) m1 := Eq.trans rfl rfl
theorem ev_cset {c0 : Nat} {f : Str} {fa fv : DE} : sCset c0 f fa fv ρ m = sBind (fv ρ m) fun d m1 => sBind (fa ρ m1) fun x m2 => match setF c0 f x d m2 with
  | some m3 => .nx ρ m3
  | none => .bad := Eq.trans rfl rfl
theorem ev_caug {c0 : Nat} {f : Str} {g : D → D → Option D} {fa fv : DE} : sCaug c0 f g fa fv ρ m = sBind (fa ρ m) fun x m1 => match getF c0 f x m1 with
  | some v => sBind (fv ρ m1) fun y m2 => match g v y with
    | some z => match setF c0 f x z m2 with
      | some m3 => .nx ρ m3
      | none => .bad
    | none => .bad
  | none => .bad := Eq.trans rfl rfl
theorem ev_methC {c0 n : Nat} {f : Str} {F : DF} {fo : DE} {fa : DA} : dMethC c0 f n F fo fa ρ m = (fo ρ m).bind fun x m1 => if isC c0 f x m1 = true then (fa ρ m1).bind fun ds m2 => if ds.length + 1 = n then F (x :: ds) m2 else .bad else .bad := Eq.trans rfl rfl
theorem ev_slS {fx : DE} {fl fh : DO} : dSlS fx fl fh ρ m = (fx ρ m).bind fun x m1 => (fl ρ m1).bind fun l m2 => (fh ρ m2).bind fun h m3 => R.of (slSD x l h) m3 := Eq.trans rfl rfl
theorem ev_pick {n : Nat} {ix : List Nat} {fa : DA} : dPick n ix fa ρ m = (fa ρ m).bind fun ds m1 => if ds.length = n then .ok (pick .non ix ds) m1 else .bad := Eq.trans rfl rfl
end
end Dn
namespace Dn
open PySem PySem.Spec PyProof.Rows L2
/-! walking a text -/
def charsD (x : Str) : List D := x.cps.toList.map fun c => .str ⟨#[c]⟩
def dSeqS (f : DE) : DI := fun ρ m => (f ρ m).bind fun d m1 => match d with
  | .str x => .ok (charsD x) m1
  | _ => .bad
section
variable {G : Cl} {E : XK}
theorem ev_seqS {f : DE} {ρ : Ro} {m : Mo} : dSeqS f ρ m = (f ρ m).bind fun d m1 => match d with
  | .str x => .ok (charsD x) m1
  | _ => .bad := Eq.trans rfl rfl
end
end Dn
namespace Dn
open PySem PySem.Spec PyProof.Rows L2

/-! t.index(x) of a tuple of whole numbers that was made at run time -/
def tIdxT (to te : TE) : TE := fun σ H Q => to σ H fun x H1 => ∃ a, x = .ref a ∧ (∃ vs, TupH H1 a vs) ∧ te σ H1 fun y H2 => ∃ (ns : List Int) (k : Int), TupH H2 a (ns.map V.int) ∧ y = .int k ∧ k ∈ ns ∧ Q (.int (ns.idxOf k : Nat)) H2
def dIdxT (fo fx : DE) : DE := fun ρ m => (fo ρ m).bind fun x m1 => match x with
  | .tup l => (fx ρ m1).bind fun y m2 => match y with
    | .int k => match intsOf l with
      | some ns => if k ∈ ns then .ok (.int (ns.idxOf k : Nat)) m2 else .bad
      | none => .bad
    | _ => .bad
  | _ => .bad
/-! __init__: a check; if t: raise; self.f = e -/
def initC (f1 : DE) (ft : DT) (fr : DS) (fv : DE) : DF := fun ds m => match ds with
  | [d] => (f1 [none, some (.v d)] m).bind fun _ m1 => (ft [none, some (.v d)] m1).bind fun b m2 => if b = true then (match fr [none, some (.v d)] m2 with
      | .exc c l m3 => .exc c l m3
      | _ => .bad) else fv [none, some (.v d)] m2
  | _ => .bad
/-! o.f, where o is of one of two classes -/
def fld2K (x : D) (m1 : Mo) : R D := match x with
  | .obj 0 d => .ok d m1
  | .obj 1 d => .ok d m1
  | _ => .bad
def dFld2 (fo : DE) : DE := fun ρ m => (fo ρ m).bind fun x m1 => fld2K x m1
theorem ev_fld2 {fo : DE} {ρ : Ro} {m : Mo} : dFld2 fo ρ m = (fo ρ m).bind fun x m1 => fld2K x m1 := Eq.trans rfl rfl
theorem ev_fld2_0 {d : D} {m : Mo} : fld2K (.obj 0 d) m = .ok d m := Eq.trans rfl rfl
theorem ev_fld2_1 {d : D} {m : Mo} : fld2K (.obj 1 d) m = .ok d m := Eq.trans rfl rfl
theorem ev_initC {f1 : DE} {ft : DT} {fr : DS} {fv : DE} {d : D} {m : Mo} : initC f1 ft fr fv [d] m = (f1 [none, some (.v d)] m).bind fun _ m1 => (ft [none, some (.v d)] m1).bind fun b m2 => if b = true then (match fr [none, some (.v d)] m2 with
      | .exc c l m3 => .exc c l m3
      | _ => .bad) else fv [none, some (.v d)] m2 := Eq.trans rfl rfl
theorem ev_idxT {fo fx : DE} {ρ : Ro} {m : Mo} : dIdxT fo fx ρ m = (fo ρ m).bind fun x m1 => match x with
  | .tup l => (fx ρ m1).bind fun y m2 => match y with
    | .int k => match intsOf l with
      | some ns => if k ∈ ns then .ok (.int (ns.idxOf k : Nat)) m2 else .bad
      | none => .bad
    | _ => .bad
  | _ => .bad := Eq.trans rfl rfl
section
variable {G : Cl} {E : XK}
end
end Dn
namespace Dn
open PySem PySem.Spec PyProof.Rows L2
/-! o.f = .. as a target; an object that is made with new dicts in its fields -/
def gFld (K : PySem.W.Frag) (ta : TE) (f : Str) : TG := fun v σ H Q => ta σ H fun x H1 => ∃ a C dx fs, x = .ref a ∧ H1 a = some (.ins C dx fs) ∧ Cls K C ∧ NoAttr K C f ∧ fs.length < 1000 ∧ Q σ (upd H1 a (.ins C dx (putF f v fs)))
section
variable {G : Cl} {E : XK} {B : Bx} {M : AP} {pm : Nat → Addr} {ρ : Ro} {m : Mo} {σ : L2.St} {H : Hp}
/-- a constructor's end: two fields with values, three with new dicts -/
structure CEnd (G : Cl) (fs : List Str) (M : AP) (m m' : Mo) (c : Nat) (a dx : Addr) (H H' : Hp) (v1 v2 : V) (p1 p2 p3 : Addr) : Prop where
  x : Ext (fun b => m.has b ∨ b = a) H H'
  ea : m'.ad = m.ad
  eh : m'.has = m.has
  mr : MRep G (fun b => M b ∨ b ∈ [p1, p2, p3]) H' m'
  tb : LamX.Tabs G.T H'
  at_ : H' a = some (.ins (G.cl c) dx (fs.zip [v1, v2, .ref p1, .ref p2, .ref p3]))
  d1 : H' p1 = some (o0N G.w p1)
  d2 : H' p2 = some (o0N G.w p2)
  d3 : H' p3 = some (o0N G.w p3)
  n1 : ¬ Liv H p1
  n2 : ¬ Liv H p2
  n3 : ¬ Liv H p3
  ne : p1 ≠ p2 ∧ p1 ≠ p3 ∧ p2 ≠ p3
/-- what a constructor promises: F tells the values of the fields -/
def spC (G : Cl) (c n : Nat) (fs : List Str) (F : List D → Mo → R (List D)) : Sp := fun vs H Q E => ∃ (M : AP) (ds : List D) (m : Mo) (a dx : Addr) (ws : List V), vs = .ref a :: ws ∧ ds.length = n ∧ Reps G m.ad M H ws ds ∧ Start G M m H ∧ M a ∧ ¬ m.has a ∧ H a = some (.ins (G.cl c) dx []) ∧
  match F ds m with
  | .ok xs m' => ∀ v1 v2 p1 p2 p3 H', CEnd G fs M m m' c a dx H H' v1 v2 p1 p2 p3 → Reps G m.ad (fun b => M b ∨ b ∈ [p1, p2, p3]) H' [v1, v2] xs → Q .non H'
  | _ => False
def roC (ds : List D) : Ro := none :: ds.map fun d => some (.v d)
def dCtr (fe1 fe2 : DE) : List D → Mo → R (List D) := fun ds m => (fe1 (roC ds) m).bind fun x m1 => (fe2 (roC ds) m1).bind fun y m2 => .ok [x, y] m2
def tCtr (K : PySem.W.Frag) (w : World) (t1 t2 : TE) (f1 f2 g1 g2 g3 : Str) : TS := tSeq (sFld K (tVar 0) t1 f1) (tSeq (sFld K (tVar 0) t2 f2) (tAsg (tTup (tCons (tDNewN w) (tCons (tDNewN w) (tCons (tDNewN w) tNil)))) (gTup K 3 (gCons (gFld K (tVar 0) g1) (gCons (gFld K (tVar 0) g2) (gCons (gFld K (tVar 0) g3) gNil))))))
end
end Dn
namespace Dn
open PySem PySem.Spec PyProof.Rows L2
/-! an object that stands, with all its fields, becomes one that changes -/
section
variable {G : Cl} {B : Bx} {M : AP} {pm : Nat → Addr} {ρ : Ro} {r r' : MS} {σ : L2.St} {H H' : Hp} {q : Cel}
end
open Classical in
noncomputable def all5 (f : Addr → Addr → Addr → Addr → Addr → SR) : SR := if h : ∃ z, ∀ a b c d e, f a b c d e = z then Classical.choose h else .bad
/-- an object as its constructor leaves it -/
def celC (c : Nat) (fs : List Str) (x y : D) (a dx p1 p2 p3 : Addr) : Cel := ⟨a, dx, c, fs.zip [.v x, .v y, .mn p1 [], .mn p2 [], .mn p3 []], []⟩
noncomputable def newC (c n : Nat) (fs : List Str) (F : List D → Mo → R (List D)) (ds : List D) (r : MS) (k : Nat → Mo → SR) : SR := if ds.length = n then match F ds (some r) with
  | .ok [x, y] (some r') => all5 fun a dx p1 p2 p3 => popS r'.cs.length (k r'.cs.length (some (r'.push (celC c fs x y a dx p1 p2 p3))))
  | _ => .bad
  else .bad
section
variable {G : Cl} {E : XK}
end
end Dn
namespace Dn
open PySem PySem.Spec PyProof.Rows L2
/-! statements that make such an object -/
section
variable {G : Cl} {E : XK}
/-- return C(..).m(..) -/
noncomputable def sRetNewC (c n : Nat) (fs : List Str) (F : List D → Mo → R (List D)) (fa : DA) (f : Str) (n2 : Nat) (F2 : DF) (fb : DA) : DS := fun ρ m => sBind (fa ρ m) fun ds m1 => match m1 with
  | none => .bad
  | some r => newC c n fs F ds r fun k m2 => sRet (dMethC c f n2 F2 (fun _ m => .ok (.cel k) m) fb) ρ m2
/-- names = C(..), values -/
noncomputable def sNewPC (js : List Nat) (c n : Nat) (fs : List Str) (F : List D → Mo → R (List D)) (fa : DA) (fvs : DVs) (rest : DS) : DS := fun ρ m => sBind (fa ρ m) fun ds m1 => match m1 with
  | none => .bad
  | some r => newC c n fs F ds r fun k m2 => sBind (fvs ρ m2) fun ss m3 => if ss.length + 1 = js.length ∧ (∀ i ∈ js, i < ρ.length) then rest (setsD js (.v (.cel k) :: ss) ρ) m3 else .bad
end
end Dn
namespace Dn
open PySem PySem.Spec PyProof.Rows L2
/-! dicts in fields of objects that change -/
def getN (c0 : Nat) (f : Str) (x : D) (m : Mo) : Option (Addr × List (NestedKey × D)) := match x with
  | .cel k => match m.cell k with
    | some q => if q.c = c0 then match q.fs.lookup f with
        | some (.mn p l) => some (p, l)
        | _ => none
      else none
    | none => none
  | _ => none
def setNd (f : Str) (l : List (NestedKey × D)) : List (Str × Fd) → List (Str × Fd)
  | [] => []
  | (g, x) :: r => if g = f then (g, match x with
    | .mn p _ => .mn p l
    | y => y) :: r else (g, x) :: setNd f l r
def putN' (f : Str) (x k d : D) (m : Mo) : Option Mo := match x, m with
  | .cel j, some r => match r.cs[j]? with
    | some q => match q.fs.lookup f with
      | some (.mn _ l) => match k.nkey with
        | some key => if l.length ≤ 100000 then some (some (r.put j { q with fs := setNd f (kvPut l key d) q.fs })) else none
        | none => none
      | _ => none
    | none => none
  | _, _ => none
section
variable {G : Cl} {ad : Ad} {M : AP} {H H' : Hp}
theorem setNd_ads {f : Str} {l : List (NestedKey × D)} : ∀ {fs : List (Str × Fd)}, (setNd f l fs).flatMap (fun x => x.2.ads) = fs.flatMap fun x => x.2.ads
  | [] => rfl
  | (g, x) :: r => by
    unfold setNd
    split
    · rw [List.flatMap_cons, List.flatMap_cons]
      congr 1
      cases x <;> rfl
    · rw [List.flatMap_cons, List.flatMap_cons, setNd_ads]
theorem setNd_len {f : Str} {l : List (NestedKey × D)} : ∀ {fs : List (Str × Fd)}, (setNd f l fs).length = fs.length
  | [] => rfl
  | (g, x) :: r => by
    unfold setNd
    split
    · rfl
    · rw [List.length_cons, List.length_cons, setNd_len]
theorem lookup_ads {f : Str} {p : Addr} {l : List (NestedKey × D)} : ∀ {fs : List (Str × Fd)}, fs.lookup f = some (.mn p l) → p ∈ fs.flatMap fun x => x.2.ads
  | [], h => by cases h
  | (g, x) :: r, h => by
    rw [List.flatMap_cons, List.mem_append]
    rw [List.lookup_cons] at h
    split at h
    · cases h
      exact .inl (List.mem_singleton.mpr rfl)
    · exact .inr (lookup_ads h)
theorem FsR.setN {f : Str} {p : Addr} {l l' : List (NestedKey × D)} (Mp : M p) (x : Ext (fun b => b = p) H H') (new : ∀ v, FdR G ad M H v (.mn p l) → FdR G ad M H' v (.mn p l')) : ∀ {vs : List (Str × V)} {fs : List (Str × Fd)}, FsR G ad M H vs fs → fs.lookup f = some (.mn p l) → (fs.flatMap fun x => x.2.ads).Nodup → FsR G ad M H' vs (setNd f l' fs)
  | _, _, .nil, h, _ => by cases h
  | _, (g, y) :: r, .cons q t, h, nd => by
    have xM : ∀ b, b = p → M b := fun b hb => hb ▸ Mp
    rw [List.flatMap_cons, List.nodup_append] at nd
    obtain ⟨n1, n2, n3⟩ := nd
    rw [List.lookup_cons] at h
    unfold setNd
    by_cases e : g = f
    · rw [if_pos e]
      have e2 : (f == g) = true := by rw [beq_iff_eq]; exact e.symm
      rw [e2] at h
      cases h
      refine .cons ⟨q.1, new _ q.2⟩ (FsR.mono x xM (fun _ h => h) t fun b hb z => ?_)
      exact n3 p (List.mem_singleton.mpr rfl) b hb z.symm
    · rw [if_neg e]
      have e2 : (f == g) = false := by rw [beq_eq_false_iff_ne]; exact fun z => e z.symm
      rw [e2] at h
      refine .cons ⟨q.1, q.2.mono x xM (fun _ h => h) fun b hb z => ?_⟩ (FsR.setN Mp x new t h n2)
      exact n3 b hb p (lookup_ads h) z
end
section
variable {G : Cl} {E : XK} {B : Bx} {M : AP} {pm : Nat → Addr} {ρ : Ro} {m : Mo} {σ : L2.St} {H : Hp}
/-- k in o.f, k not in o.f -/
def dInF (c0 : Nat) (f : Str) (neg : Bool) (fk fo : DE) : DE := fun ρ m => (fk ρ m).bind fun k m1 => (fo ρ m1).bind fun x m2 => match getN c0 f x m2 with
  | some (_, l) => match k.nkey with
    | some key => .ok (.bl (neg ^^ (kvGet l key).isSome)) m2
    | none => .bad
  | none => .bad
/-- o.f[k] -/
def dIxF (c0 : Nat) (f : Str) (fo fk : DE) : DE := fun ρ m => (fo ρ m).bind fun x m1 => match getN c0 f x m1 with
  | some (p, _) => (fk ρ m1).bind fun k m2 => match getN c0 f x m2 with
    | some (p', l) => if p = p' then match k.nkey with
        | some key => R.of (kvGet l key) m2
        | none => .bad
      else .bad
    | none => .bad
  | none => .bad
end
end Dn
namespace Dn
open PySem PySem.Spec PyProof.Rows L2
/-! o.f[k] = v -/
section
variable {G : Cl} {E : XK} {B : Bx} {M : AP} {pm : Nat → Addr} {ρ : Ro} {m : Mo} {σ : L2.St} {H : Hp}
theorem EnvR.putN {s : MS} {k : Nat} {q : Cel} {f : Str} {p : Addr} {l l' : List (NestedKey × D)} {o : HO} (e : EnvR G B M pm ρ (some s) σ H) (hq : s.cs[k]? = some q) (hl : q.fs.lookup f = some (.mn p l)) (fr : Fre H p)
    (new : ∀ v, FdR G B.ad M H v (.mn p l) → FdR G B.ad M (upd H p o) v (.mn p l')) : Go G B M (some (s.put k { q with fs := setNd f l' q.fs })) H (upd H p o) := by
  have hm := List.mem_of_getElem? hq
  obtain ⟨k1, k2⟩ := e.mr
  have inp : p ∈ q.ads := by
    unfold Cel.ads
    exact List.mem_cons_of_mem _ (List.mem_cons_of_mem _ (List.mem_append_right _ (lookup_ads hl)))
  have pA : B.A p := by
    rw [← e.eh]
    exact .inr (.inr (.inr (mem_ads hm inp)))
  have pM : M p := e.aM _ pA
  have ads' : ({ q with fs := setNd f l' q.fs } : Cel).ads = q.ads := by
    unfold Cel.ads
    rw [setNd_ads]
  have eads : (s.put k { q with fs := setNd f l' q.fs }).cs.map Cel.ads = s.cs.map Cel.ads := by
    show (s.cs.set k _).map Cel.ads = _
    rw [List.map_set, ads']
    apply List.ext_getElem?
    intro i
    rw [List.getElem?_set]
    by_cases h : k = i
    · subst h
      have hlt := (List.getElem?_eq_some_iff.mp hq).1
      rw [if_pos rfl, if_pos (by rw [List.length_map]; exact hlt), List.getElem?_map, hq]
      rfl
    · rw [if_neg h]
  have flat : (s.put k { q with fs := setNd f l' q.fs }).ads = s.ads := by
    unfold MS.ads
    rw [List.flatMap_def, List.flatMap_def, eads]
  have ead : Mo.ad (some (s.put k { q with fs := setNd f l' q.fs })) = Mo.ad (some s) := by
    show some ((s.am, s.ac, s.ag), _) = some ((s.am, s.ac, s.ag), _)
    rw [eads]
  have x1 : Ext (fun b => b = p) H (upd H p o) := Ext.refl.chg (.inr rfl)
  have one : ∀ b, b = p → M b := fun b hb => hb ▸ pM
  obtain ⟨p1, p2, p3⟩ := k2.ap p (mem_ads hm inp)
  refine ⟨Ext.refl.chg (.inr pA), by rw [ead]; exact e.ea, by rw [has_of, ead, e.ea]; exact e.hA.symm, ⟨?_, fun c hc => ?_, by rw [flat]; exact k2.nd, fun b hb => k2.ap b (by rw [← flat]; exact hb)⟩, tabs_upd e.tb fr⟩
  · obtain ⟨h1, h2, h3, h4⟩ := k1
    exact ⟨by show upd H p _ s.am = _; rw [upd_ne p1.symm]; exact h1, by show upd H p _ s.ac = _; rw [upd_ne p2.symm]; exact h2, by show upd H p _ s.ag = _; rw [upd_ne p3.symm]; exact h3, h4⟩
  · rw [ead]
    obtain ⟨j, hj⟩ := List.getElem?_of_mem hc
    have hj' : (s.cs.set k { q with fs := setNd f l' q.fs })[j]? = some c := hj
    rw [List.getElem?_set] at hj'
    have qr := k2.c q hm
    have nd : (q.ads).Nodup := flat_one k2.nd hm
    by_cases h : k = j
    · subst h
      have hlt := (List.getElem?_eq_some_iff.mp hq).1
      rw [if_pos rfl, if_pos hlt] at hj'
      cases hj'
      unfold Cel.ads at nd
      rw [List.nodup_cons, List.nodup_cons] at nd
      have na : q.a ≠ p := fun z => nd.1 (by rw [z]; exact List.mem_cons_of_mem _ (List.mem_append_right _ (lookup_ads hl)))
      have ndx : q.dx ≠ p := fun z => nd.2.1 (by rw [z]; exact List.mem_append_right _ (lookup_ads hl))
      have nd3 := List.nodup_append.mp nd.2.2
      have eaB : Mo.ad (some s) = B.ad := e.ea
      rw [eaB]
      obtain ⟨vs, h1, h2⟩ := qr.at_
      rw [eaB] at h2
      refine ⟨⟨vs, by show upd H p _ q.a = _; rw [upd_ne na]; exact h1, FsR.setN pM x1 new h2 hl nd3.2.1⟩, by show upd H p _ q.dx = _; rw [upd_ne ndx]; exact qr.own, ?_, ?_⟩
      · show (setNd f l' q.fs).length ≤ 900
        rw [setNd_len]
        exact qr.len
      · have lq := qr.lr
        rw [eaB] at lq
        exact lq.mono x1 one (fun _ h => h) fun b hb z => nd3.2.2 b hb p (lookup_ads hl) z
    · rw [if_neg h] at hj'
      have hcm := List.mem_of_getElem? hj'
      exact (k2.c c hcm).mono x1 one (fun _ h => h) fun b hb z => flat_disj k2.nd hj' hq (fun z => h z.symm) b hb (z ▸ inp)
end
def sPutF (c0 : Nat) (f : Str) (fv fo fk : DE) : DS := fun ρ m => sBind (fv ρ m) fun d m1 => sBind (fo ρ m1) fun x m2 => match getN c0 f x m2 with
  | some (p, _) => sBind (fk ρ m2) fun k m3 => match getN c0 f x m3 with
    | some (p', _) => if p = p' then match putN' f x k d m3 with
        | some m4 => .nx ρ m4
        | none => .bad
      else .bad
    | none => .bad
  | none => .bad
section
variable {G : Cl} {E : XK} {c0 : Nat} {f : Str}
end
end Dn
namespace Dn
open PySem PySem.Spec PyProof.Rows L2
/-! xs.extend(e) -/
section
variable {G : Cl} {E : XK}
def sExt (i : Nat) (f : DE) : DS := fun ρ m => match ρ[i]? with
  | some (some (.ml ds)) => sBind (f ρ m) fun d m1 => match d with
    | .lst es => if ds.length ≤ 100000 ∧ es.length ≤ 100000 then .nx (ρ.set i (some (.ml (ds ++ es)))) m1 else .bad
    | _ => .bad
  | _ => .bad
theorem ds_ext {t : TE} {f : DE} (i : Nat) (h : De G E t f) : Ds G E (tDrop (tBM G.K "list" rExtend (tVar i) (tCons t tNil))) (sExt i f) := ⟨fun {B M pm ρ m σ H} e Z p => by
  unfold sExt at p
  split at p
  · rename_i ds hs
    obtain ⟨vs, h1, h2, h3⟩ := e.sl i ds hs
    refine ⟨_, h1, .inl ⟨rfl, _, SqL.of h2⟩, ?_⟩
    refine h.run e _ ((PostS.bind0 e p).imp' fun x H1 ⟨d1, m1, g1, r1, p1⟩ => ?_)
    have e1 := e.go g1
    obtain ⟨vs', h1', h2', h3'⟩ := e1.sl i ds hs
    split at p1
    rotate_left
    · exact p1.elim
    rename_i es
    cases r1 with
    | lst hb nb rb =>
      by_cases hl : ds.length ≤ 100000 ∧ es.length ≤ 100000
      · rw [if_pos hl] at p1
        refine ⟨_, _, vs', _, rfl, rfl, h2', hb, ?_, ?_⟩
        · rw [h3'.length, rb.length]
          exact Nat.le_trans (Nat.add_le_add hl.1 hl.2) (by decide)
        · obtain ⟨e2, s2⟩ := e1.updm (s' := .ml (ds ++ es)) (o := .lst (vs' ++ _)) hs rfl ⟨_, rfl, h3'.append rb⟩
          exact p1 _ _ _ _ e2 ((e.stp g1).trans s2)
      · rw [if_neg hl] at p1
        exact p1.elim
  · exact p.elim⟩
theorem ev_ext {i : Nat} {f : DE} {ρ : Ro} {m : Mo} : sExt i f ρ m = match ρ[i]? with
  | some (some (.ml ds)) => sBind (f ρ m) fun d m1 => match d with
    | .lst es => if ds.length ≤ 100000 ∧ es.length ≤ 100000 then .nx (ρ.set i (some (.ml (ds ++ es)))) m1 else .bad
    | _ => .bad
  | _ => .bad := Eq.trans rfl rfl
end
end Dn
namespace Dn
open PySem PySem.Spec PyProof.Rows L2
/-! four names at once -/
section
variable {G : Cl} {E : XK}
end
end Dn
namespace Dn
open PySem PySem.Spec PyProof.Rows L2 GenW
/-! a generator def that refuses what it is given, before it hands out anything -/
abbrev SpX := List V → Hp → XK → Prop
/-- woken for the first time it raises -/
def WakeX (P : Program) (w : World) (k : Nat) (outer : List Env) (H : Hp) (s : Shared) (E : XK) (a : Addr) (g : Nat) (c : Code) (s' : Shared) : Prop :=
  ∀ (A : Around) (Y : Protocol) (s2 : Shared), RG k A → A.frames = some outer → (∀ b o, s'.heap.get? b = some o → s2.heap.get? b = some o) → s2.os = s.os → AllBare s2.gens →
    Seg (model P w) A (fun _ _ r s1 => ∃ e, r = .error e ∧ L2.CX P w outer H s E e s1 ∧ s1.heap.IsGen a g) Y 0 s2 c ((model P w).den c) [] s2
/-- a generator that has not begun, and will raise -/
structure GMadeX (P : Program) (w : World) (k : Nat) (outer : List Env) (H : Hp) (s : Shared) (E : XK) (a : Addr) (g : Nat) (c : Code) (s' : Shared) : Prop where
  lo : s.heap.objs.size ≤ a
  hi : a < s'.heap.objs.size
  gen : s'.heap.IsGen a g
  st : s'.gens[g]? = some (.fresh c)
  os : s'.os = s.os
  bare : AllBare s'.gens
  lim : s'.heap.NoLimit
  keep : ∀ b o, s.heap.get? b = some o → s'.heap.get? b = some o
  wake : WakeX P w k outer H s E a g c s'
def GFnX (P : Program) (w : World) (K : PySem.W.Frag) (mg : Str → Option Value) (base : Heap) (k : Nat) (f : Addr) (sp : SpX) : Prop :=
  ∀ (A : Around) (out : List Env) (s : Shared) (H : Hp) (zs : List Value) (vs : List V) (E : XK), RG k A → Env0 P w K mg base A out s H → Vals vs zs → sp vs H E →
    codeAny (model P w) A (.call (.ref f) ⟨zs, []⟩) (fun r s' => match r with
      | .ok (.ret u) => ∃ a g c, u = .ref a ∧ GMadeX P w k out H s E a g c s'
      | _ => False) s
theorem passG {P : Program} {w : World} {K : PySem.W.Frag} {mg : Str → Option Value} {base : Heap} {N : List Str} {qual : Str} {sc : Scope} {f : Addr} {cd : Value} {A : Around} {out : List Env} {s : Shared} {H : Hp} {E : XK} {pn : List (Addr × Obj)} :
    Passes (L2.CX P w) (gcxOf P w K mg base N qual sc f cd A out s H E pn) E := passes_call takes_gcx fun _ _ _ _ h => h
section
variable {P : Program} {w : World} {K : PySem.W.Frag} {mg : Str → Option Value} {base : Heap} {k : Nat} {f : Addr}
theorem gfnX_of {x qual : Str} {st : Stmt} {fd : FuncData} {N ps : List Str} {sp : SpX} (F : Fun K x qual st f fd) (S : GScope N ps (defScope st)) (hbi : Binds K fd ps [])
    (hlen : ∀ vs H E, sp vs H E → vs.length = ps.length)
    (hbody : ∀ (cdv : Value) (A : Around) (out : List Env) (s : Shared) (H : Hp) (vs : List V) (E : XK) (pn : List (Addr × Obj)), RG k (A.deeper (envOfC qual (defScope st) s.heap.objs.size f cdv)) → sp vs H E →
      ∃ s1 rest t, defBody st = s1 :: rest ∧ PS (gcxOf P w K mg base N qual (defScope st) f cdv A out s H E pn) s1 t ∧ t { nx := fun _ _ => False, rt := fun _ _ => False } (L2.start N vs) H) :
    GFnX P w K mg base (k + 1) f sp := by
  intro A out s H zs vs E hr env hv hsp
  obtain ⟨oc, od, kV, doc, pm, an, cdv, ct, osl, hfd, lk, hcd⟩ := F.ex
  have hl := hlen _ _ _ hsp
  have hzl : zs.length = ps.length := hv.length.symm.trans hl
  have KX : K.In s.heap := env.mod.kin.keeps fun b o q => (env.bs b o q).1
  have lim : s.heap.NoLimit := env.mod.nolimit.keeps fun b o q => (env.bs b o q).1
  have hk1 : ∀ y ∈ ps.zip zs, (defScope st).names.lookup y.1 = some .local ∨ ((defScope st).names.lookup y.1 = some .cell ∧ ((cellsFrom (s.heap.objs.size + 1) (defScope st).names []).lookup y.1).isSome = true) := by
    rintro ⟨n, v⟩ hy
    exact (S.par n (List.of_mem_zip hy).1).imp id fun q => ⟨q, PySem.W.cellsFrom_some _ _ _ (.inl q)⟩
  have hbb := hbi s zs KX (by simpa using hzl)
  rw [List.append_nil] at hbb
  subst hfd
  refine codeAny_call_generator hr.rm.depth (KX _ _ lk) rfl S.co S.gen rfl (PySem.W.codeRec_of KX hcd) (hbb _ _ _ _ ?_)
  refine wpAny_newFunctionEnv_cells S.kind hk1 fun en hen s1 cl => ?_
  subst hen
  have lim1 : s1.heap.NoLimit := lim.keeps cl.toInCall.keep
  refine ⟨lim1, ?_⟩
  obtain ⟨h1, tk, es1, _⟩ := cl.done
  have os1 : s1.os = s.os := by rw [es1]
  have ge1 : s1.gens = s.gens := by rw [es1]
  have lt1 : s.heap.objs.size < s1.heap.objs.size := cl.toInCall.ns.lt
  have kp1 : ∀ b o, s.heap.get? b = some o → s1.heap.get? b = some o := cl.toInCall.keep
  have main : ∀ (go : Obj) (nm qn : Value) (tk2 : Nat), go.cls = .type "generator" → go.data = .fields #[.int s1.gens.size 0, nm, qn] → go.slots = #[] → (∀ h : Heap, (h.push go).get? h.objs.size = some go) →
      GMadeX P w (k + 1) out H s E s1.heap.objs.size s1.gens.size (.func (defBody st) (envOfC qual (defScope st) s.heap.objs.size f cdv)) { s1 with gens := s1.gens.push (.fresh (.func (defBody st) (envOfC qual (defScope st) s.heap.objs.size f cdv))), toks := tk2, heap := s1.heap.push go } := by
    intro go nm qn tk2 hgc hgd hgs hgp
    have isg : ∀ h : Heap, h.get? s1.heap.objs.size = some go → h.IsGen s1.heap.objs.size s1.gens.size := fun h e => ⟨go, nm, qn, e, hgc, hgd, hgs⟩
    have hp := hgp s1.heap
    refine ⟨Nat.le_of_lt lt1, by show _ < (s1.heap.push _).objs.size; rw [Heap.size_push]; exact Nat.lt_succ_self _, isg _ hp, Array.getElem?_push_size .., os1, AllBare.push (by rw [ge1]; exact env.bare) rfl, lim1.keeps fun b o e => Heap.get?_push_of_some _ e, fun b o e => Heap.get?_push_of_some _ (kp1 b o e), ?_⟩
    intro Aw Y s2 hrw hfr hk2 hos hba
    have e0w : Env0 P w K mg base Aw out s H := ⟨hfr, env.mod, env.bs, env.bsz, env.funs, env.frf, env.hok, env.bare⟩
    obtain ⟨st1, rest, t, hdb, hps, ht⟩ := hbody cdv Aw out s H vs E [(s1.heap.objs.size, go)] (hrw.down _) hsp
    have I1 : Inv (gcxOf P w K mg base N qual (defScope st) f cdv Aw out s H E []) [] (L2.start N vs) H s1 := inv_startG S hrw.rm.hd e0w hl hv cl
    have kp2 : ∀ b o, s1.heap.get? b = some o → s2.heap.get? b = some o := fun b o e => hk2 b o (Heap.get?_push_of_some _ e)
    have I2 := I1.call' (s' := s2) (ch := []) (hos.trans os1.symm) (Un.kept kp2) (I1.hok.kept kp2) hba fun b z => by simp at z
    have hea : s2.heap.get? s1.heap.objs.size = some go := hk2 _ go hp
    have I3 : Inv (gcxOf P w K mg base N qual (defScope st) f cdv Aw out s H E [(s1.heap.objs.size, go)]) [] (L2.start N vs) H s2 := Inv.pinnedG I2 fun p hpm => by
      rw [List.append_nil, List.mem_singleton] at hpm
      subst hpm
      exact ⟨hea, I1.hok.fresh (Nat.le_refl _), Nat.ne_of_gt lt1, I1.nofs (Nat.le_refl _), fun v q => by rw [hgd] at q; cases q⟩
    refine seg_func ?_
    show Seg (model P w) Aw _ Y 0 s2 _ ((execs (defBody st) (envOfC qual (defScope st) s.heap.objs.size f cdv)).wrap _ _ id id) [] s2
    rw [hdb]
    refine seg_execs_cons (seg_wrap ?_)
    rw [over_func]
    refine wpAny_mono (hps.run [] s2 _ H _ I3 ht) (fun fl s' hs => ?_) fun e s' hx => seg_wrap ?_
    · cases fl with
      | next => obtain ⟨_, _, _, z⟩ := hs; exact False.elim z
      | brk => obtain ⟨_, _, _, z⟩ := hs; exact False.elim z
      | cont => obtain ⟨_, _, _, z⟩ := hs; exact False.elim z
      | ret u => obtain ⟨_, _, _, _, _, z⟩ := hs; exact False.elim z
    · rw [over_func]
      exact wpAny_mono (show wpAny (model P w) (Aw.deeper (envOfC qual (defScope st) s.heap.objs.size f cdv)) (leaving _ e) (fun _ s'' => L2.CX P w out H s E e s'' ∧ ∀ p ∈ [(s1.heap.objs.size, go)], s''.heap.get? p.1 = some p.2) (fun _ _ => False) s' from hx)
        (fun _ s'' q => seg_end (.error e) ⟨e, rfl, q.1, isg _ (q.2 _ List.mem_cons_self)⟩) fun _ s'' q => q.elim
  exact ⟨_, _, _, rfl, main _ _ _ _ rfl rfl rfl fun h => Heap.get?_push_size _ rfl⟩
end
end Dn
namespace Dn
open PySem PySem.Spec PyProof.Rows L2 GenW
/-! list(g) of a generator that raises -/
theorem rg_in {k : Nat} {A : Around} (h : RG (k + 1) A) : RG k A.in1.in1.in1 := ⟨⟨h.rm.hd, by have := h.rm.dp; show A.depth + 3 * k + 5 < _; omega, by have := h.rm.un; show A.units + 1 + 1 + 1 + 16 * k + 200 < _; omega⟩, h.gd⟩
theorem call_listX {P : Program} {w : World} {outer : List Env} {H : Hp} {sc s : Shared} {EX : XK} {A : Around} {k : Nat} {a : Addr} {g : Nat} {c : Code} {Q' : Value → Shared → Prop} {E : Value → Shared → Prop} (hr : RG (k + 1) A) (hfr : A.frames = some outer) (h : GMadeX P w k outer H sc EX a g c s)
    (hexc : ∀ e s', L2.CX P w outer H sc EX e s' → NotStop (model P w) e s'.heap ∧ E e (s'.setGen g .finished)) : wpAny (model P w) A (call (.type "list") [.ref a]) Q' E s := by
  have nS : s.heap.objs.size ≠ a := Nat.ne_of_gt h.hi
  refine callType_codes (Q₁ := fun obj s₁ => obj = .ref s.heap.objs.size ∧ s₁ = { s with heap := s.heap.push { cls := .type "list", data := .seq #[] } }) F.called_list (F.typeCall_list_1 _) F.entry_list_init (code_list_new _ ⟨rfl, rfl⟩) fun obj s₁ h₁ => ?_
  obtain ⟨rfl, rfl⟩ := h₁
  have o1 : (s.heap.push { cls := .type "list", data := .seq #[] }).get? s.heap.objs.size = some { cls := .type "list", data := .seq #[] } := Heap.get?_push_size _ rfl
  have push1 : ∀ b o, s.heap.get? b = some o → (s.heap.push { cls := .type "list", data := .seq #[] }).get? b = some o := fun b o e => Heap.get?_push_of_some _ e
  have step : ∀ (h : Heap) (f : Obj → Obj), (∀ b o, s.heap.get? b = some o → h.get? b = some o) → ∀ b o, s.heap.get? b = some o → (h.update s.heap.objs.size f).get? b = some o := fun h f q b o e => (Heap.get?_update_other _ _ (Ne.symm (Nat.ne_of_lt (Heap.lt_size e)))).trans (q b o e)
  have is : ∀ {h' : Heap}, (∀ b o, s.heap.get? b = some o → h'.get? b = some o) → h'.IsGen a g := fun {h'} q => h.gen.keeps q
  have push2 := step _ (Obj.mapSeq (fun _ => (#[] : Array Value))) push1
  have o2 := Heap.get?_update_self (Obj.mapSeq (fun _ => (#[] : Array Value))) o1 rfl
  have o3 := Heap.get?_update_self (Obj.mapSeq (·.push Value.none)) o2 rfl
  have push4 := step _ (Obj.mapSeq (·.pop)) (step _ (Obj.mapSeq (·.push Value.none)) push2)
  refine ⟨⟨_, o1, rfl⟩, F.args_list_init_2 _ _, ?_⟩
  show wpAny _ A.in1.in1 (Builtin.List.listItems (.ref s.heap.objs.size) >>= fun old => Builtin.List.listUpdate (.ref s.heap.objs.size) (fun _ => #[]) >>= fun _ => letGo old.toList.reverse >>= fun _ => Builtin.List.listExtendWith (.ref s.heap.objs.size) (.ref a) .none) _ _ _
  unfold Builtin.List.listItems
  refine wpAny_bind (wpAny_bind (wpAny_seqItems o1 rfl (wpAny_pure (?_ : wpAny _ A.in1.in1 (updateSeq s.heap.objs.size (fun _ => #[]) >>= fun _ => letGo (#[] : Array Value).toList.reverse >>= fun _ => Builtin.List.listExtendWith (.ref s.heap.objs.size) (.ref a) .none) _ _ _))))
  refine wpAny_bind (wpAny_updateSeq o1 rfl (wpAny_bind (wpAny_letGo ?_)))
  unfold Builtin.List.listExtendWith
  refine wpAny_bind (wpAny_typeOf (Heap.IsGen.typeIs (s := { s with heap := _ }) (is push2)) ?_)
  have b1 : Builtin.List.listSameRef (.ref s.heap.objs.size) (.ref a) = false := by simp [Builtin.List.listSameRef, nS]
  have b2 : (Value.type "generator" == Value.type "list") = false := by decide
  have b3 : (Value.type "generator" == Value.type "tuple") = false := by decide
  simp only [b1, b2, b3, Bool.or_false, Bool.false_eq_true, if_false]
  refine wpAny_bind (wpAny_pyIter_gen (s := { s with heap := _ }) (is push2) (wpAny_bind (wpAny_holding ?_)))
  unfold Builtin.List.listLengthHint
  refine wpAny_bind (wpAny_specialOf (Heap.IsGen.typeIs (s := { s with heap := _ }) (is push2)) F.gen_no_len (?_ : wpAny _ A.in1.in1 (specialOf (Value.ref a) (Str.ofString "__length_hint__") >>= _) _ _ _))
  refine wpAny_bind (wpAny_specialOf (Heap.IsGen.typeIs (s := { s with heap := _ }) (is push2)) F.gen_no_hint (wpAny_pure (?_ : wpAny _ A.in1.in1 (rule "list.extend.makes-room" >>= fun _ => Builtin.List.listTouch (.ref s.heap.objs.size) >>= fun _ => again (.builtin "list.extend.loop" ⟨[.ref s.heap.objs.size, .ref a, .none], []⟩)) _ _ _)))
  refine wpAny_bind (wpAny_rule (wpAny_bind (?_ : wpAny _ A.in1.in1 (updateSeq s.heap.objs.size (·.push .none) >>= fun _ => updateSeq s.heap.objs.size (·.pop)) _ _ _)))
  refine wpAny_bind (wpAny_updateSeq o2 rfl (wpAny_updateSeq (hz := by seq_fits) o3 rfl (wpAny_pure ⟨plainId_quiet F.plain_extend_loop _, codeAny_builtin F.entry_extend_loop ?_⟩)))
  rw [Around.under_plainId F.plain_extend_loop _]
  have room := hr.rm.dp
  refine wpAny_bind (m := pyNext (.ref a)) (next_genG (A := A.in1.in1) (n := 0) (F := fun _ _ _ => False) (Er := fun e s1 => L2.CX P w outer H sc EX e s1 ∧ s1.heap.IsGen a g) (Y := fun _ _ _ _ _ => False) hr.rm.hd (h.lim.keeps push4) (by show A.depth < _; omega) (is push4) h.st ⟨rfl, ?_⟩
    (fun v s1 gs' _ z => z.elim) (fun s1 z => z.elim) fun e s1 z => ?_)
  · refine seg_imp (fun n s₀ r s1 z => ?_) (fun n s₀ v s1 kap kap' _ z => z) 0 (h.wake _ (fun _ _ _ _ _ => False) _ (rg_in hr) hfr push4 h.os (allBare_setGen (s := { s with heap := _ }) h.bare rfl))
    obtain ⟨e, e1, e2, e3⟩ := z
    exact .inr ⟨e, e1, e2, e3⟩
  · obtain ⟨q1, q2⟩ := hexc e s1 z.1
    exact ⟨z.2, q1, q2⟩
/-! the expression list(f(..)) -/
def tListX (sp : SpX) (E : XK) (t : TA) : TE := fun σ H _ => t σ H fun vs H1 => sp vs H1 E ∧ True
section
variable {X : Cx} {k : Nat} {f : Addr} {sp : SpX} {E : XK} {x nm : Str} {p p' pos pos' : Pos} {e : Expr} {es : List Expr} {t : TA}
/-- the call f(..), which makes the generator -/
theorem call_gx {pins : List (Addr × Obj)} {σ : L2.St} {H : Hp} {s : Shared} {Q : List V → Hp → Prop} {R : Value → Shared → Prop} (F : GFnX X.prog X.w X.K X.mg X.base k f sp) (hr : RG k X.A) (hg : Gl X x) (hm : X.mg x = some (.ref f)) (hk : PySem.W.keepIn X.K (.ref f) = true)
    (ha : PA X (e :: es) t) (I : Inv X pins σ H s) (h : t σ H fun vs H1 => sp vs H1 E ∧ Q vs H1)
    (hR : ∀ vs H1 sc a g c s', Inv X pins σ H1 sc → Q vs H1 → GMadeX X.prog X.w k X.stack H1 sc E a g c s' → R (.ref a) s')
    (hdb : (x == ("__debug__" : Str)) = false := by decide) (hst : starEach (e :: es) X.env = (false, eval e X.env) :: starEach es X.env := by rfl) (hpl : (backTo pos (starEach es X.env)).any (·.1) = false := by rfl) :
    wpAny (model X.prog X.w) X.A (eval (.Call (.Name x p) (e :: es) [] pos) X.env) R X.xe s := by
  refine wpAny_Call_Name_kw (ld_glob I hg hm ?_ hdb)
  refine PySem.W.callWith_K (h₀ := X.base) I.ok.mod.kin hk (thn (ha.run pos pins s σ H _ I h) fun zs s1 ⟨vs, H1, J, r, q⟩ => ⟨J.kIn, wpAny_call ?_⟩) hst hpl
  refine codeAny_mono (F X.A X.stack s1 H1 zs vs E hr J.env0 r q.1) fun res s' hq => ?_
  match res, hq with
  | .error u, hq => exact hq.elim
  | .ok .next, hq => exact hq.elim
  | .ok .brk, hq => exact hq.elim
  | .ok .cont, hq => exact hq.elim
  | .ok (.ret u), ⟨a, g, c, eu, G⟩ =>
    subst eu
    exact hR vs H1 s1 a g c s' J q.2 G
theorem pe_listX (F : GFnX X.prog X.w X.K X.mg X.base k f sp) (hr : RG (k + 1) X.A) (hg : Gl X x) (hm : X.mg x = some (.ref f)) (hk : PySem.W.keepIn X.K (.ref f) = true) (hx : Passes (L2.CX X.prog X.w) X E) (hns : NoStop X.K E)
    (hgl : Gl X nm) (hml : X.mg nm = none) (hv : bootBuiltins nm = some (.type "list")) (ha : PA X (e :: es) t)
    (hdb : (x == ("__debug__" : Str)) = false := by decide) (hst : starEach (e :: es) X.env = (false, eval e X.env) :: starEach es X.env := by rfl) (hpl : (backTo pos (starEach es X.env)).any (·.1) = false := by rfl)
    (hnm : nm ≠ "__name__" := by decide) (hdb2 : (nm == ("__debug__" : Str)) = false := by decide)
    (he : starEach [.Call (.Name x p) (e :: es) [] pos] X.env = (false, eval (.Call (.Name x p) (e :: es) [] pos) X.env) :: starEach [] X.env := by rfl) : PE X (.Call (.Name nm p') [.Call (.Name x p) (e :: es) [] pos] [] pos') (tListX sp E t) := ⟨fun pins s σ H Q I hq => by
  refine wpAny_Call_Name_kw (ld_blt I hgl hml hv ?_ hnm hdb2)
  refine PyProof.Rows.callWith_type1 (args_cons (call_gx (Q := fun _ _ => True) F (hr.less (Nat.le_succ k)) hg hm hk ha I hq (fun vs H1 sc a g c s1 J _ G => args_nil ?_) hdb hst hpl) he) he rfl
  refine call_listX hr J.ok.frames G fun u s' hc => ?_
  have kin : X.K.In s'.heap := by
    obtain ⟨a, B, H', cls, d, _, fl, _, ub, _⟩ := id hc
    refine J.ok.mod.kin.keeps fun b o eb => fl.1 b o (ub.keep b o (J.bs b o eb).1 (J.bs b o eb).2 fun hm => ?_)
    rcases List.mem_cons.mp (J.stkSub b hm) with z | z
    · exact absurd (Nat.lt_of_lt_of_le (z ▸ Heap.lt_size eb) (Nat.le_trans J.ok.bsz J.ok.above)) (Nat.lt_irrefl _)
    · exact J.ok.nofr eb z
  refine ⟨notStop_of hns kin hc, hx pins σ H1 sc u _ J ?_⟩
  obtain ⟨a, B, H', cls, d, z1, fl, z2, ub, z3, z4, z5, z6⟩ := hc
  exact ⟨a, B, H', cls, d, z1, fl, z2, ub, z3, z4, allBare_setGen z5 rfl, z6⟩⟩
end
end Dn
namespace Dn
open PySem PySem.Spec PyProof.Rows L2 GenW
/-! zip(range(0), g): nothing is handed out, g is not woken -/
theorem meets_zipG (r a : Addr) (g : Nat) (t u v : Tok) : Meets (Builtin.«zip.__new__» ⟨[.type "zip", .ref r, .ref a], []⟩) (fun _ R s => IsRange s.heap r 0 0 1 t u v ∧ s.heap.IsGen a g ∧
      ∀ (h' : Heap), IsRangeIter h' s.heap.objs.size 0 0 1 → IsPair h' (s.heap.objs.size + 1) (.ref s.heap.objs.size) (.ref a) → IsPair h' (s.heap.objs.size + 2) .none .none → IsZip h' (s.heap.objs.size + 3) (s.heap.objs.size + 1) (s.heap.objs.size + 2) .none → (∀ c o, s.heap.get? c = some o → h'.get? c = some o) →
        R (.ok (.ret (.ref (s.heap.objs.size + 3)))) { s with heap := h' }) := .of_wp fun prog w A R s h => by
  obtain ⟨hp, gs, d, tk, os⟩ := s
  obtain ⟨hr, hg, h⟩ := h
  have hsub := sub_zip
  have hR : IsRange (Shared.heap ⟨hp, gs, d, tk, os⟩) r 0 0 1 t u v := hr
  have hG : (Shared.heap ⟨hp.push { cls := .type "range_iterator", data := .fields #[rawInt 0, rawInt (Builtin.Range.rangeSize 0 0 1), rawInt 1] }, gs, d, tk, os⟩).IsGen a g := hg.keeps fun b o e => Heap.get?_push_of_some _ e
  have hs : Builtin.Range.small 0 0 1 = true := by decide
  wp_walk using wpAny_pyIter_range hR hs, wpAny_pyIter_gen hG
  have fin : ∀ (o1 o2 o3 o4 : Obj), (∀ h : Heap, (h.push o1).get? h.objs.size = some o1) → (∀ h : Heap, (h.push o2).get? h.objs.size = some o2) → (∀ h : Heap, (h.push o3).get? h.objs.size = some o3) → (∀ h : Heap, (h.push o4).get? h.objs.size = some o4) →
      o1 = { cls := .type "range_iterator", dict := none, data := .fields #[rawInt 0, rawInt 0, rawInt 1], slots := #[] } → o2 = { cls := .type "tuple", data := .seq #[.ref hp.objs.size, .ref a] } → o3 = { cls := .type "tuple", data := .seq #[.none, .none] } →
      o4 = { cls := .type "zip", dict := none, data := .fields #[.none, .bool false, .bool false, .ref (hp.push o1).objs.size, .ref ((hp.push o1).push o2).objs.size], slots := #[] } →
      R (.ok (.ret (.ref (((hp.push o1).push o2).push o3).objs.size))) { heap := (((hp.push o1).push o2).push o3).push o4, gens := gs, drawn := d, toks := tk, os := os } := by
    intro o1 o2 o3 o4 p1 p2 p3 p4 e1 e2 e3 e4
    have z1 : (hp.push o1).objs.size = hp.objs.size + 1 := Heap.size_push ..
    have z2 : ((hp.push o1).push o2).objs.size = hp.objs.size + 2 := by rw [Heap.size_push, z1]
    have z3 : (((hp.push o1).push o2).push o3).objs.size = hp.objs.size + 3 := by rw [Heap.size_push, z2]
    have g1 := Heap.get?_push_of_some o4 (Heap.get?_push_of_some o3 (Heap.get?_push_of_some o2 (p1 hp)))
    have g2 := Heap.get?_push_of_some o4 (Heap.get?_push_of_some o3 (p2 (hp.push o1)))
    have g3 := Heap.get?_push_of_some o4 (p3 ((hp.push o1).push o2))
    have g4 := p4 (((hp.push o1).push o2).push o3)
    rw [z1] at g2
    rw [z2] at g3
    rw [z3] at g4 ⊢
    rw [z1, z2] at e4
    rw [e1] at g1
    refine h _ ?_ ?_ ?_ ?_ fun c o e => Heap.get?_push_of_some _ (Heap.get?_push_of_some _ (Heap.get?_push_of_some _ (Heap.get?_push_of_some _ e)))
    · rw [e1]; exact g1
    · exact g2.trans (congrArg some e2)
    · exact g3.trans (congrArg some e3)
    · exact g4.trans (congrArg some e4)
  exact ⟨_, rfl, fin _ _ _ _ (fun h => Heap.get?_push_size _ rfl) (fun h => Heap.get?_push_size _ rfl) (fun h => Heap.get?_push_size _ rfl) (fun h => Heap.get?_push_size _ rfl) rfl rfl rfl rfl⟩
section
variable {prog : Program} {w : World} {A : Around} {E : Value → Shared → Prop} {s : Shared}
theorem nextOf_range_end {it : Addr} {x left step : Int} {Q : Value → Shared → Prop} (hh : A.handled = none) (hit : IsRangeIter s.heap it x left step) (hleft : left ≤ 0)
    (hE : ∀ h' e, Heap.ExtBut it s.heap h' → (∃ o, h'.get? e = some o ∧ o.cls = .type "StopIteration") → E (.ref e) { s with heap := h' }) : wpAny (model prog w) A (Builtin.SmallTypes.nextOf (.ref it)) Q E s := by
  have hT : s.TypeIs (.ref it) "range_iterator" := ⟨_, hit, rfl⟩
  unfold Builtin.SmallTypes.nextOf
  refine wpAny_bind (wpAny_callSpecial?_slot (name := Str.ofString "__next__") hT F.slot_range_iterator_next (wpAny_call_entry F.slot_range_iterator_next hT F.entry_range_iterator_next (?_ : wpAny _ _ (field (.ref it) 0 >>= _) _ _ s) (F.args_range_iterator_next_1 _)))
  refine wpAny_bind (wpAny_field hit rfl (x := rawInt x) rfl (wpAny_bind (m := field (.ref it) 1) (wpAny_field hit rfl (x := rawInt left) rfl (wpAny_bind (m := field (.ref it) 2) (wpAny_field hit rfl (x := rawInt step) rfl ?_)))))
  show wpAny _ _ (if left ≤ 0 then _ else _) _ _ s
  rw [if_pos hleft]
  refine wpAny_bind (wpAny_rule (wpAny_bind (?_ : wpAny _ _ (newExc (.type "StopIteration") [] >>= _) _ _ _)))
  simp only [newExc, newTuple]
  refine wpAny_bind (wpAny_bind (wpAny_newObj_type (wpAny_bind (m := firstArgMember _ _) (wpAny_of_eq (a := Value.none) (by first | rfl | (simp only [firstArgMember]; rfl)) (wpAny_newObj_type ?_ (by size_fits)))) (by size_fits)))
  simp only [raiseNew]
  refine wpAny_bind (wpAny_handled ?_)
  first | rw [show A.in1.handled = none from hh] | rw [hh]
  refine wpAny_bind (wpAny_pure (wpAny_throw ?_))
  exact hE _ _ (fun b o _ e => Heap.get?_push_of_some _ (Heap.get?_push_of_some _ e)) ⟨_, Heap.get?_push_size _ rfl, rfl⟩
/-- it stops at once -/
theorem zipG_end {z TI TO i1 a : Addr} {x y : Value} {Q : Option Value → Shared → Prop} (hh : A.handled = none) (ne : TI ≠ z ∧ TO ≠ z ∧ i1 ≠ z) (hz : IsZip s.heap z TI TO .none) (hTI : IsPair s.heap TI (.ref i1) (.ref a)) (hTO : IsPair s.heap TO x y) (h1 : IsRangeIter s.heap i1 0 0 1)
    (hQ : ∀ h', (∀ c o, c ≠ z → c ≠ i1 → s.heap.get? c = some o → h'.get? c = some o) → Q none { s with heap := h' }) : wpAny (model prog w) A (pyNext (.ref z)) Q E s := by
  have hT : s.TypeIs (.ref z) "zip" := ⟨_, hz, rfl⟩
  unfold pyNext
  refine wpAny_bind (wpAny_attempt (wpAny_callSpecial?_slot (name := Str.ofString "__next__") hT F.slot_zip_next (wpAny_call_entry F.slot_zip_next hT F.entry_zip_next (?_ : wpAny _ _ (field (.ref z) 2 >>= _) _ _ _) (F.args_zip_next_1 _))))
  refine wpAny_bind (wpAny_field hz rfl (x := .bool false) rfl (?_ : wpAny _ _ (field (.ref z) 3 >>= _) _ _ _))
  refine wpAny_bind (wpAny_field hz rfl (x := .ref TI) rfl (wpAny_bind (wpAny_seqItems hTI rfl (?_ : wpAny _ _ (Builtin.SmallTypes.ownedTupleIsFree (.ref z) >>= _) _ _ _))))
  unfold Builtin.SmallTypes.ownedTupleIsFree
  refine wpAny_bind (wpAny_bind (wpAny_field hz rfl (x := .none) rfl (wpAny_pure ?_)))
  simp only [if_true]
  refine wpAny_bind (wpAny_rule (wpAny_bind (wpAny_field hz rfl (x := .ref TO) rfl (wpAny_bind (wpAny_setField_rec hz (by simp) fun h₁ hz₁ hs₁ => ?_)))))
  have hz2 : IsZip h₁ z TI TO .ellipsis := hz₁
  simp only [List.zipIdx_cons, List.zipIdx_nil, List.forIn_cons, List.forIn_nil]
  refine wpAny_bind (wpAny_bind (wpAny_bind (wpAny_onRaise (?_ : wpAny _ _ (Builtin.SmallTypes.nextOf (.ref i1) >>= _) _ _ _))))
  refine wpAny_bind (nextOf_range_end (s := { s with heap := h₁ }) hh (hs₁.extBut _ _ ne.2.2 h1) (by decide) fun h₂ e hs₂ he => ?_)
  obtain ⟨oe, hoe, hce⟩ := he
  have hz3 : IsZip h₂ z TI TO .ellipsis := hs₂ _ _ ne.2.2.symm hz2
  have hez : e ≠ z := fun q => by
    subst q
    rw [hz3] at hoe
    cases hoe
    simp at hce
  refine wpAny_setField_rec hz3 (by simp) fun h₃ _ hs₃ => ?_
  refine wpAny_bind (wpAny_isInstance (T := "StopIteration") (b := true) ⟨oe, hs₃.extBut _ _ hez hoe, hce⟩ isSubtype_stop ?_)
  exact wpAny_pure (hQ _ fun c o c1 c3 q => hs₃.extBut _ _ c1 (hs₂ _ _ c3 (hs₁.extBut _ _ c1 q)))
end
end Dn
namespace Dn
open PySem PySem.Spec PyProof.Rows L2 GenW
/-! for n, x in zip(range(0), f(..)) -/
def It0z : It := ⟨fun _ _ => False, fun _ _ _ _ => False, fun _ _ => True⟩
def iZipX (sp : SpX) (E : XK) (t : TA) : TI := fun σ H R => t σ H fun vs H1 => sp vs H1 E ∧ R It0z H1
theorem turn_zipG {P : Program} {w : World} {K : PySem.W.Frag} {elts : List Expr} {kk : Nat} {tpos : Pos} {z TI TO i1 a : Addr} (ne : TI ≠ z ∧ TO ≠ z ∧ i1 ≠ z) :
    Turn P w K (.Tuple elts kk tpos) It0z [z, TI, TO, i1] z (fun _ h => IsZip h z TI TO .none ∧ IsPair h TI (.ref i1) (.ref a) ∧ IsPair h TO .none .none ∧ IsRangeIter h i1 0 0 1) where
  mem := by simp
  obj := fun i h ⟨h1, h2, h3, h4⟩ b hb => by
    simp only [List.mem_cons, List.not_mem_nil, or_false] at hb
    rcases hb with rfl | rfl | rfl | rfl
    · exact ⟨_, h1, fun v q => by simp at q⟩
    · exact ⟨_, h2, fun v q => by simp at q⟩
    · exact ⟨_, h3, fun v q => by simp at q⟩
    · exact ⟨_, h4, fun v q => by simp at q⟩
  keep := fun i h h' ⟨h1, h2, h3, h4⟩ k => ⟨k z (by simp) _ h1, k TI (by simp) _ h2, k TO (by simp) _ h3, k i1 (by simp) _ h4⟩
  item := fun X hP hw hK hc i pins s σ H E I hf st hg => hg.elim
  done := by
    intro X hP hw hK hc i pins s σ H E I hf st hg
    subst hP hw hK
    obtain ⟨h1, h2, h3, h4⟩ := st
    exact zipG_end (I.ok.hd hc) ne h1 h2 h3 h4 fun h' hk => ⟨rfl, I.turnedL (t' := s.toks) (ch := [z, i1]) (fun c o hb q => hk c o (fun z => hb (by simp [z])) (fun z => hb (by simp [z])) q) fun c hcm => hf c (by
      simp only [List.mem_cons, List.not_mem_nil, or_false] at hcm ⊢
      rcases hcm with h | h
      · exact .inl h
      · exact .inr (.inr (.inr h)))⟩
  self := fun A i s Q E st h => wpAny_pyIter_zip st.1 h
theorem pi_zipX {X : Cx} {k : Nat} {f : Addr} {sp : SpX} {E : XK} {x : Str} {p p1 p2 pos pos1 pos2 tpos : Pos} {e0 e : Expr} {es : List Expr} {t : TA} {elts : List Expr} {kk : Nat} (FG : GFnX X.prog X.w X.K X.mg X.base k f sp) (hr : RG k X.A) (hg : Gl X x) (hm : X.mg x = some (.ref f)) (hk : PySem.W.keepIn X.K (.ref f) = true)
    (hgz : Gl X "zip") (hmz : X.mg "zip" = none) (hgr : Gl X "range") (hmr : X.mg "range" = none) (h0 : PE X e0 (fun σ H Q => Q (.int 0) H)) (ha : PA X (e :: es) t)
    (hdb : (x == ("__debug__" : Str)) = false := by decide) (hst : starEach (e :: es) X.env = (false, eval e X.env) :: starEach es X.env := by rfl) (hpl : (backTo pos2 (starEach es X.env)).any (·.1) = false := by rfl)
    (n0 : starEach [e0] X.env = (false, eval e0 X.env) :: starEach [] X.env := by rfl)
    (n1 : starEach [.Call (.Name "range" p1) [e0] [] pos1, .Call (.Name x p2) (e :: es) [] pos2] X.env = (false, eval (.Call (.Name "range" p1) [e0] [] pos1) X.env) :: starEach [.Call (.Name x p2) (e :: es) [] pos2] X.env := by rfl)
    (n2 : starEach [.Call (.Name x p2) (e :: es) [] pos2] X.env = (false, eval (.Call (.Name x p2) (e :: es) [] pos2) X.env) :: starEach [] X.env := by rfl)
    (n3 : (backTo pos (starEach [.Call (.Name x p2) (e :: es) [] pos2] X.env)).any (·.1) = false := by rfl) :
    PI X (.Tuple elts kk tpos) (.Call (.Name "zip" p) [.Call (.Name "range" p1) [e0] [] pos1, .Call (.Name x p2) (e :: es) [] pos2] [] pos) (iZipX sp E t) := ⟨fun pins s σ H R I h => by
  refine Call_ (ld_blt I hgz hmz PyProof.Rows.boot_zip (PyProof.Rows.callWith_type1 (args_cons ?_ n1) n1 n3))
  refine Call_ (ld_blt I hgr hmr boot_range (PyProof.Rows.callWith_type1 (one_arg h0 I (R := fun v H1 => v = .int 0 ∧ H1 = H) ⟨rfl, rfl⟩ (fun v s2 y H2 I2 r q => ?_) n0) n0))
  obtain ⟨rfl, rfl⟩ := q
  obtain ⟨tt, rfl⟩ := r
  refine call_range_1 ?_
  have hfr := I2.hok.fresh (Nat.le_refl s2.heap.objs.size)
  have I3 : Inv X pins σ H2 _ := I2.kept (h' := s2.heap.push { cls := .type "range", data := .fields #[.int 0 s2.toks, .int 0 tt, .int 1 (s2.toks + 1)] }) (t' := s2.toks + 1 + 1) fun b o e => Heap.get?_push_of_some _ e
  have ro : (s2.heap.push { cls := .type "range", data := .fields #[.int 0 s2.toks, .int 0 tt, .int 1 (s2.toks + 1)] }).get? s2.heap.objs.size = some { cls := .type "range", data := .fields #[.int 0 s2.toks, .int 0 tt, .int 1 (s2.toks + 1)] } := Heap.get?_push_size _ rfl
  have I4 := I3.pinned (fp := [s2.heap.objs.size]) (fun b hb => by
    rw [List.mem_singleton] at hb
    subst hb
    exact I2.fpOk (Nat.le_refl _) hfr) (fun b hb => by
    rw [List.mem_singleton] at hb
    subst hb
    exact ⟨_, ro, fun v q => by simp at q⟩)
  refine args_cons (call_gx (Q := fun _ H1 => R It0z H1) FG hr hg hm hk ha I4 h (fun vs H1 sc a g c s' J q G => args_nil ?_) hdb hst hpl) n2
  have hrs := G.keep _ _ (J.pin _ (List.mem_append_right _ (List.mem_append_right _ (mem_pinsAt (List.mem_singleton.mpr rfl) ro)))).1
  have J2 : Inv X pins σ H1 s' := (J.call' (s' := s') (ch := []) G.os (Un.kept G.keep) (J.hok.kept G.keep) G.bare fun b z => by simp at z).unpinned
  refine callType_new F.called_zip (by decide) (F.typeCall_zip_2 _ _) (F.newCall_zip_2 _ _) (fun obj => F.args_object_init_3 obj _ _) F.entry_zip_new (meets_zipG _ _ g _ _ _) ⟨hrs, G.gen, fun h' q1 q2 q3 q4 hk2 => ?_⟩
  have ne : s'.heap.objs.size + 1 ≠ s'.heap.objs.size + 3 ∧ s'.heap.objs.size + 2 ≠ s'.heap.objs.size + 3 ∧ s'.heap.objs.size ≠ s'.heap.objs.size + 3 := ⟨by omega, by omega, by omega⟩
  have free : ∀ c, c ∈ [s'.heap.objs.size + 3, s'.heap.objs.size + 1, s'.heap.objs.size + 2, s'.heap.objs.size] → FpOk X pins H1 c := fun c hc => by
    have hle : s'.heap.objs.size ≤ c := by
      simp only [List.mem_cons, List.not_mem_nil, or_false] at hc
      omega
    exact J2.fpOk hle (J2.hok.fresh hle)
  exact ⟨⟨_, q4, rfl⟩, wpAny_pyIter_zip q4 ⟨_, _, _, _, H1, rfl, J2.kept (t' := s'.toks) hk2, turn_zipG ne, ⟨q4, q2, q3, q1⟩, free, q⟩⟩⟩
/-! refused generators as data -/
def onlyX (ok : Nat → Bool) : R D → R D
  | .exc c l m => if ok c = true then .exc c l m else .bad
  | _ => .bad
def spXD (G : Cl) (ok : Nat → Bool) (n : Nat) (F : DF) : SpX := fun vs H E => spD G n (fun ds m => onlyX ok (F ds m)) vs H (fun _ _ => False) E
def nstB (G : Cl) (nx : Nat) : Bool := (List.range nx).all fun i => decide (PySem.W.subIn G.K (.ref (G.xc i)) (.type "StopIteration") = some false)
def NSt (G : Cl) (ok : Nat → Bool) : Prop := ∀ i, ok i = true → PySem.W.subIn G.K (.ref (G.xc i)) (.type "StopIteration") = some false
theorem nstB_ok {G : Cl} {nx : Nat} (h : nstB G nx = true) : NSt G fun i => decide (i < nx) := fun i hi => of_decide_eq_true (List.all_eq_true.mp h i (List.mem_range.mpr (of_decide_eq_true hi)))
/-- the exceptions wanted, none of which ends an iterator -/
def nsE (K : PySem.W.Frag) (E : XK) : XK := fun cls d H => E cls d H ∧ PySem.W.subIn K cls (.type "StopIteration") = some false
theorem passNs {X : Cx} {E : XK} {K : PySem.W.Frag} (h : Passes (L2.CX X.prog X.w) X E) : Passes (L2.CX X.prog X.w) X (nsE K E) := fun pins σ H s e s' I c => h pins σ H s e s' I (by
  obtain ⟨a, B, H', cls, d, z1, fl, z2, ub, z3, z4, z5, z6⟩ := c
  exact ⟨a, B, H', cls, d, z1, fl, z2, ub, z3, z4, z5, z6.1⟩)
section
variable {P : Program} {w : World} {K : PySem.W.Frag} {mg : Str → Option Value} {base : Heap} {k : Nat} {f : Addr} {G : Cl} {ok : Nat → Bool}
theorem onlyX_post {E : XK} {B : Bx} {M : AP} {H : Hp} {rel : Hp → V → D → Prop} {r : R D} {Q Q' : VK} (p : Post G E B M H rel (onlyX ok r) Q) : Post G E B M H rel r Q' := by
  cases r with
  | bad => exact p.elim
  | ok d m => exact (show False from p).elim
  | exc c l m =>
    have p1 : Post G E B M H rel (if ok c = true then .exc c l m else .bad) Q := p
    split at p1
    · exact p1
    · exact p1.elim
theorem onlyX_ns {E : XK} {B : Bx} {M : AP} {H : Hp} {rel : Hp → V → D → Prop} {r : R D} {Q Q' : VK} (hn : NSt G ok) (p : Post G E B M H rel (onlyX ok r) Q) : Post G (nsE G.K E) B M H rel (onlyX ok r) Q' := by
  cases r with
  | bad => exact p.elim
  | ok d m => exact (show False from p).elim
  | exc c l m =>
    have p1 : Post G E B M H rel (if ok c = true then .exc c l m else .bad) Q := p
    show Post G (nsE G.K E) B M H rel (if ok c = true then .exc c l m else .bad) Q'
    by_cases hc : ok c = true
    · rw [if_pos hc] at p1 ⊢
      exact fun cls dd H' g hx => ⟨p1 cls dd H' g hx, by rw [hx.1]; exact hn c hc⟩
    · rw [if_neg hc] at p1
      exact p1.elim
/-- a generator def whose first statement raises -/
theorem gnX {x qual : Str} {st : Stmt} {fd : FuncData} {N ps : List Str} {f1 : DS} (F : Fun K x qual st f fd) (S : GScope N ps (defScope st)) (hbi : Binds K fd ps [])
    (hbody : ∀ (cdv : Value) (A : Around) (out : List Env) (s : Shared) (H : Hp) (E : XK) (pn : List (Addr × Obj)), RG k (A.deeper (envOfC qual (defScope st) s.heap.objs.size f cdv)) →
      ∃ s1 rest t, defBody st = s1 :: rest ∧ PS (gcxOf P w K mg base N qual (defScope st) f cdv A out s H E pn) s1 t ∧ Ds G E t f1) : GFnX P w K mg base (k + 1) f (spXD G ok ps.length (runD N.length f1)) := by
  have wk : ∀ vs H E, spXD G ok ps.length (runD N.length f1) vs H E → spD G ps.length (runD N.length f1) vs H (fun _ _ => False) E := fun vs H E ⟨M, ds, m, h1, h2, h3, h4⟩ => ⟨M, ds, m, h1, h2, h3, onlyX_post h4⟩
  refine gfnX_of F S hbi (fun vs H E ⟨M, ds, m, h1, h2, _⟩ => h2.length.trans h1) fun cdv A out s H vs E pn hr hsp => ?_
  obtain ⟨s1, rest, t, h1, h2, h3⟩ := hbody cdv A out s H E pn hr
  exact ⟨s1, rest, t, h1, h2, (body_keeps h3 (wk _ _ _ hsp)).2⟩
def dListX (ok : Nat → Bool) (n : Nat) (F : DF) (fa : DA) : DE := fun ρ m => (fa ρ m).bind fun ds m1 => if ds.length = n then onlyX ok (F ds m1) else .bad
theorem de_listX {E : XK} {n : Nat} {F : DF} {t : TA} {fa : DA} (hn : NSt G ok) (ha : Da G E t fa) : De G E (tListX (spXD G ok n F) (nsE G.K E) t) (dListX ok n F fa) := ⟨fun {B M pm ρ m σ H} e Q p => by
  refine ha.run e _ ((Post.bind p).imp' fun vs H1 ⟨ds, m1, g1, r1, p1⟩ => ⟨?_, True.intro⟩)
  have e1 := e.go g1
  split at p1
  · rename_i hl
    exact ⟨M, ds, m1, hl, by rw [e1.ea]; exact r1, e1.start, onlyX_ns hn (p1.down e1)⟩
  · exact p1.elim⟩
/-- zip(range(0), f(..)) as data -/
def dZipX (ok : Nat → Bool) (n : Nat) (F : DF) (fa : DA) : DI := fun ρ m => (fa ρ m).bind fun ds m1 => if ds.length = n then match onlyX ok (F ds m1) with
  | .exc _ _ _ => .ok [] m1
  | _ => .bad
  else .bad
theorem wk_0z {ad : Ad} : Wk G ad It0z [] (fun M H => True) where
  keep := fun r s => True.intro
  stop := fun {M H} r => True.intro
  go := fun r hd => absurd hd (Nat.not_lt_zero _)
  yld := fun r hm hd y => y.elim
theorem de_zipX {E : XK} {n : Nat} {F : DF} {t : TA} {fa : DA} (ha : Da G E t fa) : Di G E (iZipX (spXD G ok n F) (fun _ _ _ => True) t) (dZipX ok n F fa) := ⟨fun {B M pm ρ m σ H} e Q p => by
  refine ha.run e _ ((Post.bind p).imp' fun vs H1 ⟨ds, m1, g1, r1, p1⟩ => ?_)
  have e1 := e.go g1
  split at p1
  rotate_left
  · exact p1.elim
  rename_i hl
  split at p1
  rotate_left
  · exact p1.elim
  rename_i c l m' hx
  refine ⟨⟨M, ds, m1, hl, by rw [e1.ea]; exact r1, e1.start, ?_⟩, p1 _ _ e1.here ⟨_, wk_0z, True.intro⟩⟩
  show Post G _ _ M H1 _ (onlyX ok (F ds m1)) _
  rw [hx]
  exact fun _ _ _ _ _ => True.intro⟩
end
end Dn
namespace Dn
open PySem PySem.Spec PyProof.Rows L2
/-! a dict that a call makes is new, if only whole numbers are handed in -/
def D.isI : D → Bool
  | .int _ => true
  | _ => false
def noCel : Mo → Bool
  | none => true
  | some r => r.cs.isEmpty
section
variable {G : Cl} {E : XK}
def dvCallF (n : Nat) (F : DF) (fa : DA) : DV := fun ρ m => (fa ρ m).bind fun ds m1 => if ds.length = n ∧ ds.all D.isI = true ∧ noCel m1 = true then match F ds m1 with
    | .ok (.dct l) m2 => if (l.map (·.2)).all D.isI = true ∧ noCel m2 = true then .ok (.mk l) m2 else .bad
    | .exc c l m2 => .exc c l m2
    | _ => .bad
  else .bad
/-! told.clear() -/
def sClr (i : Nat) : DS := fun ρ m => match ρ[i]? with
  | some (some (.mk _)) => .nx (ρ.set i (some (.mk []))) m
  | _ => .bad
end
end Dn
namespace Dn
open PySem PySem.Spec PyProof.Rows L2
/-! list(d.items()) -/
def layP : List (Addr × Obj) → List (Key × V) → Hp → Hp
  | (a, o) :: ts, (k, v) :: kvs, H => layP ts kvs (upd H a (.frz o (.tup [kV k, v])))
  | _, _, H => H
/-- where the pairs are laid -/
structure Lay (H : Hp) (q : Addr) (kvs : List (Key × V)) (tos : List (Addr × Obj)) : Prop where
  len : tos.length = kvs.length
  nd : (tos.map (·.1)).Nodup
  new : ∀ t ∈ tos, H t.1 = none ∧ t.1 ≠ q ∧ t.2.dict = none
def tLstItems (te : TE) : TE := fun σ H Q => te σ H fun x H1 => ∃ d kvs, x = .ref d ∧ H1 d = some (.dK kvs) ∧ ∀ q tos, H1 q = none → Lay H1 q kvs tos → Q (.ref q) (layP tos kvs (upd H1 q (.lst (tos.map fun t => .ref t.1))))
def cutH (h : Heap) (n : Nat) : Heap := { h with objs := h.objs.extract 0 n }
section
variable {X : Cx} {pins : List (Addr × Obj)} {σ : L2.St}
theorem paired_get {α β : Type} {R : α → β → Prop} : ∀ {as : List α} {bs : List β}, Paired R as bs → ∀ {j : Nat} {a : α}, as[j]? = some a → ∃ b, bs[j]? = some b ∧ R a b
  | _, _, .nil, j, a, h => by simp at h
  | _, _, .cons r t, 0, a, h => by
    cases h
    exact ⟨_, rfl, r⟩
  | _, _, .cons r t, j + 1, a, h => by
    obtain ⟨b, h1, h2⟩ := paired_get t (j := j) (a := a) (by simpa using h)
    exact ⟨b, by simpa using h1, h2⟩
end
section
variable {X : Cx} {e : Expr} {te : TE} {p apos cpos pos : Pos}
end
/-! the same as data -/
def keyDd : Key → D
  | .inl i => .int i
  | .inr x => .str x
section
variable {G : Cl} {E : XK}
def dLstItems (f : DE) : DE := fun ρ m => (f ρ m).bind fun d m1 => match d with
  | .dct l => .ok (.lst (l.map fun p => .tup [keyDd p.1, p.2])) m1
  | _ => .bad
end
end Dn
namespace Dn
open PySem PySem.Spec PyProof.Rows L2
/-! {i: j, ..} of written numbers -/
section
variable {G : Cl} {E : XK}
def dDIs (l : List (Int × Int)) : DE := fun _ m => .ok (.dct (l.map fun p => (Sum.inl p.1, .int p.2))) m
end
/-! == of dicts that are alike -/
def rEqW (K : PySem.W.Frag) : R2 := fun x y H Q => rEqU K x y H Q ∨ rEqV K x y H Q
def lookI (l : List (Key × D)) (k : Key) : Option D := (l.find? fun p => decide (p.1 = k)).map (·.2)
def alikeI (l l' : List (Key × D)) : Bool := decide (l.length = l'.length) && l.all fun p => match p.2, lookI l' p.1 with
  | .int i, some (.int j) => decide (i = j)
  | _, _ => false
def eqW : D → D → Option D
  | .dct l, .dct l' => if alikeI l l' = true then some (.bl true) else none
  | d, e => eqD d e
end Dn
namespace Dn
open PySem PySem.Spec PyProof.Rows L2
/-! sorted([()]) -/
def kd0 : PyProof.Rows.SortKind := by constructor
theorem kd0_lt (a b : Value) : (PyProof.Rows.keyLt' kd0 a b : Sem Bool) = (richCompare .Lt a b >>= fun v => truthOfDropped v) := rfl
open Classical in
noncomputable def oneKind (v : Value) : PyProof.Rows.KeyKind where
  α := Unit
  blt := fun _ _ => false
  irrefl := fun _ => rfl
  trans := fun _ _ _ h => by cases h
  negTrans := fun _ _ _ h => by cases h
  total := fun _ _ _ _ => rfl
  keyOf := fun u => if u = v then some () else none
  dflt := ()
theorem one_key {v : Value} : (oneKind v).keyOf v = some () := if_pos rfl
theorem one_of_key {v u : Value} {a : Unit} (h : (oneKind v).keyOf u = some a) : u = v := by
  by_cases e : u = v
  · exact e
  · have : (oneKind v).keyOf u = none := if_neg e
    rw [this] at h
    cases h
def rSrt1 (K : PySem.W.Frag) : List V → Hp → VK → Prop := fun vs H Q => ∃ a b, vs = [V.ref a] ∧ SqL K H a [.ref b] ∧ SqT K H b [] ∧ ∀ p, H p = none → Q (.ref p) (upd H p (.lst [.ref b]))
section
variable {X : Cx}
theorem call_sort1 (hu : X.A.units + 200 < cLine) : CallR X (.builtin "sorted") (rSrt1 X.K) := by
  intro pi s σ H vs us Q I r h
  obtain ⟨a, b, rfl, hs, ht, q⟩ := h
  obtain ⟨its, rv, hl, hz⟩ := I.list hs
  rw [Vals.ref1 r]
  have ei : its = [.ref b] := by
    cases rv with
    | cons r1 r2 =>
      cases r2
      cases r1
      rfl
  subst ei
  obtain ⟨ws, r2, ⟨o, ho, hc, n, hd⟩, _⟩ := I.tuple ht
  have ew : ws = [] := by
    cases r2
    rfl
  subst ew
  have lt : ∀ (A : Around) (s' : Shared), A.units + 10 < cLine → (∀ c ob, s.heap.get? c = some ob → s'.heap.get? c = some ob) → ∀ (E : Value → Shared → Prop) (Q' : Bool → Shared → Prop), Q' false s' → wpAny (model X.prog X.w) A (PyProof.Rows.keyLt' kd0 (.ref b) (.ref b)) Q' E s' := fun A s' hA kp E Q' q' => by
    rw [kd0_lt]
    have rd : Reads s'.heap (.ref b) (.tuple []) _ := Reads.tuple (kp _ _ ho) hc hd (by simpa using ReadsAll.nil)
    have z := PySem.W.rcLt_alike (.tuple []) (.tuple []) A s' (.ref b) (.ref b) _ _ rd rd (by decide) (by intro h; cases h) (by
      have : (PyData.tuple []).depth ≤ 5 := by decide
      omega)
    refine wpAny_bind (z X.prog X.w E (fun v s1 => wpAny _ _ (truthOfDropped v) Q' E s1) ?_)
    show wpAny _ _ (truthOfDropped (.bool (PySem.W.dataLt (.tuple []) (.tuple [])))) Q' E s'
    rw [show PySem.W.dataLt (.tuple []) (.tuple []) = false from by decide]
    exact wpAny_pure q'
  refine PySem.W.sorted_vals (κ := oneKind (.ref b)) hl.isList ⟨fun v hv => ?_, kd0, ?_, fun h => absurd h (by simp)⟩ (by show 1 ≤ sizeLine; decide) ?_
  · rw [List.mem_singleton] at hv
    subst hv
    exact ⟨(), one_key⟩
  · intro E x y a' b' Q' hx hy q'
    rw [one_of_key hx, one_of_key hy]
    refine lt _ _ (by show X.A.units + 1 + 1 + 10 < cLine; omega) (fun c ob e => ?_) E Q' q'
    exact PySem.W.sortingHeap_old (Nat.ne_of_lt (Nat.lt_succ_of_lt (Heap.lt_size e))) (PySem.W.copyHeap_old e)
  · have es : PySem.W.sortVals (oneKind (.ref b)) false [.ref b] [.ref b] = [.ref b] := by
      unfold PySem.W.sortVals
      show (List.mergeSort [((.ref b : Value), (.ref b : Value))] _).map Prod.snd = _
      rw [List.mergeSort_singleton]
      rfl
    rw [es]
    obtain ⟨ep, he'⟩ := PyProof.Rows.sortedAll_at s.heap [.ref b] [.ref b].toArray
    exact ⟨.ref _, _, I.laid (t' := s.toks) (fun _ _ => PyProof.Rows.sortedAll_old) (Nat.le_succ _) (a := s.heap.objs.size + 1) (o := .lst [.ref b]) ⟨by show 1 ≤ sizeLine; decide, [.ref b], ep, .cons rfl .nil, by simpa using he'⟩, rfl, q _ (I.hok.fresh (Nat.le_succ _))⟩
end
def rSrtW (K : PySem.W.Frag) : List V → Hp → VK → Prop := fun vs H Q => rSrt1 K vs H Q ∨ rSrt K vs H Q
theorem call_sortW {X : Cx} (hu : X.A.units + 200 < cLine) : CallR X (.builtin "sorted") (rSrtW X.K) := by
  intro pi s σ H vs us Q I r h
  rcases h with h | h
  · exact call_sort1 hu pi s σ H vs us Q I r h
  · exact call_sortU hu pi s σ H vs us Q I r h
def srtLW : List D → Option D
  | [.lst [.tup []]] => some (.lst [.tup []])
  | l => srtLD l
theorem n_srtW {G : Cl} : ON G (rSrtW G.K) srtLW := ⟨fun {ad A M H xs ds z} hm hA r g Q q => by
  unfold srtLW at g
  split at g
  · cases g
    obtain ⟨x, rfl, rx⟩ := r.one
    obtain ⟨a, vs, rfl, ha, ra⟩ := rx.lst
    cases ra with
    | cons r1 r2 =>
      cases r2
      cases r1 with
      | tup t1 t2 t3 =>
        cases t3
        refine .inl ⟨a, _, rfl, SqL.of ha, t1.sq, fun p hp => ?_⟩
        exact q _ _ (ExN.new hp) (.lst upd_same (fun z => hm _ z hp) (.cons ((Rep.tup t1 t2 .nil).ext (ExN.new hp).k fun _ z => z.elim) .nil))
  · exact .inr (n_srt.run hm hA r g Q q)⟩
end Dn
namespace Dn
open PySem PySem.Spec PyProof.Rows L2
/-! list(d) of dicts whose keys are numbers or texts -/
def toLstK : List D → Option D
  | [.dct l] => some (.lst (l.map fun p => keyDd p.1))
  | _ => none
end Dn
namespace Dn
open PySem PySem.Spec PyProof.Rows L2
open PySem.W PySem.Calls Builtin
/-! objects with a dict: properties, len -/
section
variable {X : Cx} {pins : List (Addr × Obj)} {σ : L2.St} {H : Hp} {s : Shared} {a C dx : Addr} {fs : List (Str × V)}
end
/-- o.f, f a property -/
def tPropA (C : Addr) (sp : Sp) (ta : TE) : TE := fun σ H Q => ta σ H fun x H1 => ∃ a dx fs, x = .ref a ∧ H1 a = some (.ins C dx fs) ∧ sp [.ref a] H1 Q (fun _ _ _ => False)
def rLenIns (C : Addr) (sp : Sp) (E : XK) : List V → Hp → VK → Prop := fun xs H Q => ∃ a dx fs, xs = [.ref a] ∧ H a = some (.ins C dx fs) ∧ sp [.ref a] H (fun z H' => ∃ n : Nat, z = .int n ∧ (n : Int) < 2 ^ 63 ∧ Q z H') E
section
variable {X : Cx} {k : Nat} {C p g : Addr} {sp : Sp} {E : XK} {e : Expr} {f : Str} {pos : Pos} {ta : TE}
end
/-! the same as data -/
/-- is it such an object -/
def isK (c0 : Nat) (x : D) (m : Mo) : Bool := match x with
  | .cel k => match m.cell k with
    | some q => decide (q.c = c0)
    | none => false
  | _ => false
/-- what does not raise -/
def noExc : R D → R D
  | .exc _ _ _ => .bad
  | r => r
def dPropC (c0 : Nat) (F : DF) (fo : DE) : DE := fun ρ m => (fo ρ m).bind fun x m1 => if isK c0 x m1 = true then noExc (F [x] m1) else .bad
def dLenC (c0 : Nat) (F : DF) (fo : DE) : DE := fun ρ m => (fo ρ m).bind fun x m1 => if isK c0 x m1 = true then (F [x] m1).bind fun z m2 => match z with
    | .int n => if 0 ≤ n ∧ n < 1000000 then .ok (.int n) m2 else .bad
    | _ => .bad
  else .bad
section
variable {G : Cl} {E : XK} {c0 : Nat}
theorem ev_propC {F : DF} {fo : DE} {ρ : Ro} {m : Mo} : dPropC c0 F fo ρ m = (fo ρ m).bind fun x m1 => if isK c0 x m1 = true then noExc (F [x] m1) else .bad := Eq.trans rfl rfl
theorem ev_lenC {F : DF} {fo : DE} {ρ : Ro} {m : Mo} : dLenC c0 F fo ρ m = (fo ρ m).bind fun x m1 => if isK c0 x m1 = true then (F [x] m1).bind fun z m2 => match z with
    | .int n => if 0 ≤ n ∧ n < 1000000 then .ok (.int n) m2 else .bad
    | _ => .bad
  else .bad := Eq.trans rfl rfl
end
end Dn
namespace Dn
open PySem PySem.Spec PyProof.Rows L2
/-! o.f, o.g = a, b -/
def sPutP (c0 : Nat) (f1 f2 : Str) (fa : DA) (fo1 fo2 : DE) : DS := fun ρ m => sBind (fa ρ m) fun ds m1 => match ds with
  | [d1, d2] => sBind (fo1 ρ m1) fun x m2 => match setF c0 f1 x d1 m2 with
    | some m3 => sBind (fo2 ρ m3) fun y m4 => match setF c0 f2 y d2 m4 with
      | some m5 => .nx ρ m5
      | none => .bad
    | none => .bad
  | _ => .bad
section
variable {G : Cl} {E : XK} {c0 : Nat}
end
end Dn
namespace Dn
open PySem PySem.Spec PyProof.Rows L2
open PySem.W PySem.Calls Builtin
/-! ==, != and isinstance of objects with a dict -/
structure InsC (K : Frag) (C : Addr) : Prop where
  cl : Cls K C
  fc : findIn K (.ref C) "__class__" = some (some (.builtin "object.__class__"))
  sc : specialIn K (.builtin "object.__class__") "__get__" = some (some (.builtin "getset_descriptor.__get__"))
  tk : takesIn K (.builtin "object.__class__") = some true
  mr : mroIn K C (.type "object") = some true
def insCB (K : Frag) (C : Addr) : Bool := clsDB K C && (He.eqO (findIn K (.ref C) "__class__") (some (some (.builtin "object.__class__"))) && (He.eqO (specialIn K (.builtin "object.__class__") "__get__") (some (some (.builtin "getset_descriptor.__get__"))) && (decide (takesIn K (.builtin "object.__class__") = some true) && decide (mroIn K C (.type "object") = some true))))
theorem InsC.ty {K : Frag} {C a dx : Addr} {H : Hp} {fs : List (Str × V)} (c : InsC K C) (h : H a = some (.ins C dx fs)) : TyX K H (.ref a) (.ref C) := .base (.ins h c.cl c.fc c.sc c.tk c.mr)
def rOwnI (neg : Bool) (K : Frag) (C : Addr) (sp : Sp) (E : XK) : R2 := fun x y H Q => ∃ a dx fs t, x = .ref a ∧ H a = some (.ins C dx fs) ∧ TyA K H y t ∧ notFirst K C t = true ∧ sp [x, y] H (fun z H' => ∃ k, z = .bl k ∧ Q (.bl (neg ^^ k)) H') E
section
variable {X : Cx} {k : Nat} {C g : Addr} {sp : Sp} {E : XK}
end
/-- the class of a value: own slotted instances by okc, own instances with a dict by oki -/
def okY (okc oki : Nat → Bool) (y : D) (m : Mo) : Bool := match y with
  | .cel k => match m.cell k with
    | some q => oki q.c
    | none => false
  | y => y.ok2 okc
/-- what is asked of the fragment -/
structure NfY (G : Cl) (c : Nat) (okc oki : Nat → Bool) : Prop where
  n : NfC G c okc
  i : ∀ c', oki c' = true → notFirst G.K (G.cl c) (.ref (G.cl c')) = true ∧ InsC G.K (G.cl c')
section
variable {G : Cl} {E : XK} {okc oki : Nat → Bool} {c : Nat}
def negK (neg : Bool) (r : R D) : R D := r.bind fun z m3 => match z with
  | .bl k => .ok (.bl (neg ^^ k)) m3
  | _ => .bad
/-- x == y, x such an object of class c -/
def dEqI (neg : Bool) (c : Nat) (okc oki : Nat → Bool) (F : DF) (fa fb : DE) : DE := fun ρ m => (fa ρ m).bind fun x m1 => (fb ρ m1).bind fun y m2 => if isK c x m2 = true ∧ okY okc oki y m2 = true then negK neg (F [x, y] m2) else .bad
/-- x == y, x a slotted instance of class c, y anything -/
def dEqO (neg : Bool) (c : Nat) (okc oki : Nat → Bool) (F : DF) (fa fb : DE) : DE := fun ρ m => (fa ρ m).bind fun x m1 => (fb ρ m1).bind fun y m2 => match x with
  | .obj c' d => if c' = c ∧ okY okc oki y m2 = true then negK neg (F [.obj c' d, y] m2) else .bad
  | _ => .bad
/-- isinstance, objects with a dict too -/
def dIsC (I : IsT) (i : Nat → Option Bool) (f : DE) : DE := fun ρ m => (f ρ m).bind fun d m1 => match d with
  | .cel k => match (m1.cell k).bind fun q => i q.c with
    | some b => .ok (.bl b) m1
    | none => .bad
  | d => match I.of d with
    | some b => .ok (.bl b) m1
    | none => .bad
structure IsI (G : Cl) (u : Value) (i : Nat → Option Bool) : Prop where
  i : ∀ c b, i c = some b → InsC G.K (G.cl c) ∧ kitOne G.K (.ref (G.cl c)) u = some b
end
end Dn
namespace Dn
open PySem PySem.Spec PyProof.Rows L2
open PySem.W PySem.Calls Builtin
/-! x == y, x of a built-in type, y an object with a dict -/
def rReflI (K : Frag) (C : Addr) (sp : Sp) (E : XK) : R2 := fun x y H Q => ∃ n a dx vs, PlX K H x n ∧ y = .ref a ∧ H a = some (.ins C dx vs) ∧ sp [y, x] H (fun z H' => ∃ k, z = .bl k ∧ Q (.bl k) H') E
section
variable {X : Cx} {k : Nat} {C g : Addr} {sp : Sp} {E : XK}
end
/-- x == y, y such an object of class c -/
def dEqJ (c : Nat) (F : DF) (fa fb : DE) : DE := fun ρ m => (fa ρ m).bind fun x m1 => (fb ρ m1).bind fun y m2 => if isK c y m2 = true ∧ plD x = true then negK false (F [y, x] m2) else .bad
end Dn
namespace Dn
open PySem PySem.Spec PyProof.Rows L2
/-! defs that return an object which they made -/
def celV (c : Nat) (fs : List (Str × D)) (a dx : Addr) : Cel := ⟨a, dx, c, fs.map fun p => (p.1, Fd.v p.2), []⟩
/-- a new object q -/
structure NewO (G : Cl) (M : AP) (m m' : Mo) (q : Cel) (H H' : Hp) : Prop where
  x : Ext m.has H H'
  ea : m'.ad = m.ad
  eh : m'.has = m.has
  mr : MRep G (fun b => M b ∨ b ∈ q.ads) H' m'
  tb : LamX.Tabs G.T H'
  cr : CRec G m.ad (fun b => M b ∨ b ∈ q.ads) H' q
  new : ∀ b ∈ q.ads, ¬ Liv H b
  nd : q.ads.Nodup
def PostN (G : Cl) (E : XK) (M : AP) (H : Hp) (m : Mo) (c : Nat) (r : R (List (Str × D))) (Q : VK) : Prop := match r with
  | .ok fs m' => ∀ a dx H', NewO G M m m' (celV c fs a dx) H H' → Q (.ref a) H'
  | .exc c l m' => ∀ cls dd H', Go G (bxOf G H M m) M m' H H' → XRep G m.ad M H' c l cls dd → E cls dd H'
  | .bad => False
def spN (G : Cl) (c n : Nat) (F : List D → Mo → R (List (Str × D))) : Sp := fun vs H Q E => ∃ (M : AP) (ds : List D) (m : Mo), ds.length = n ∧ Reps G m.ad M H vs ds ∧ Start G M m H ∧ PostN G E M H m c (F ds m) Q
/-- a call of such a def, and all that comes behind it -/
noncomputable def newM (c n : Nat) (F : List D → Mo → R (List (Str × D))) (ds : List D) (r : MS) (k : Nat → Mo → SR) : SR := if ds.length = n then match F ds (some r) with
    | .ok fs (some r') => allS fun a dx => popS r'.cs.length (k r'.cs.length (some (r'.push (celV c fs a dx))))
    | .exc c l m => .exc c l m
    | _ => .bad
  else .bad
section
variable {G : Cl} {E : XK}
end
end Dn
namespace Dn
open PySem PySem.Spec PyProof.Rows L2
/-! the body of a def that makes an object and returns it -/
def fldsD : List (Str × Fd) → Option (List (Str × D))
  | [] => some []
  | (f, .v d) :: r => match fldsD r with
    | some l => some ((f, d) :: l)
    | none => none
  | _ => none
def popN (c n : Nat) : SR → R (List (Str × D))
  | .rt (.cel k) (some r) => if k = n ∧ r.cs.length - 1 = n ∧ okC n r = true then match r.cs[n]? with
      | some q => if q.c = c ∧ q.cok n = true ∧ q.ls.isEmpty = true then match fldsD q.fs with
          | some fs => .ok fs (some r.pop)
          | none => .bad
        else .bad
      | none => .bad
    else .bad
  | .exc c l (some r) => if r.cs.length - 1 = n ∧ okC n r = true ∧ D.coks n l = true then .exc c l (some r.pop) else .bad
  | _ => .bad
open Classical in
noncomputable def allN (f : Addr → Addr → R (List (Str × D))) : R (List (Str × D)) := if h : ∃ z, ∀ a dx, f a dx = z then Classical.choose h else .bad
noncomputable def newN (c n : Nat) (F : DF) (ds : List D) (r : MS) (k : Mo → SR) : R (List (Str × D)) := if ds.length + 1 = n then allN fun a dx => popN c r.cs.length (sBind (F (.cel r.cs.length :: ds) (some (r.push ⟨a, dx, c, [], []⟩))) fun y m2 => match y with
  | .non => k m2
  | _ => .bad) else .bad
/-- x = C(..); ..; return x -/
noncomputable def madeD (N i c n : Nat) (F : DF) (fa : DA) (rest : DS) : List D → Mo → R (List (Str × D)) := fun ds m => (fa (ro0 N ds) m).bind fun as m1 => match m1 with
  | none => .bad
  | some r => if i < (ro0 N ds).length then newN c n F as r fun m2 => rest (setsD [i] [.v (.cel r.cs.length)] (ro0 N ds)) m2 else .bad
section
variable {G : Cl} {E : XK} {H0 : Hp}
end
end Dn
namespace Dn
open PySem PySem.Spec PyProof.Rows L2
/-! statements and expressions with objects that a def made -/
section
variable {G : Cl} {B B' : Bx} {ads : List Addr}
end
section
variable {G : Cl} {E : XK} {B B' : Bx} {ads : List Addr} {M M4 : AP} {H H4 : Hp}
end
noncomputable def newMR (c n : Nat) (F : List D → Mo → R (List (Str × D))) (ds : List D) (r : MS) (k : Nat → Mo → R D) : R D := if ds.length = n then match F ds (some r) with
    | .ok fs (some r') => allR fun a dx => popR r'.cs.length (k r'.cs.length (some (r'.push (celV c fs a dx))))
    | .exc c l m => .exc c l m
    | _ => .bad
  else .bad
section
variable {G : Cl} {E : XK}
/-- x == f(..), x an object of class c, f a def that returns a new one -/
noncomputable def dEqM (neg : Bool) (c : Nat) (okc oki : Nat → Bool) (Fe : DF) (cN nN : Nat) (FN : List D → Mo → R (List (Str × D))) (fa : DE) (fb : DA) : DE := fun ρ m => (fa ρ m).bind fun x m1 => (fb ρ m1).bind fun ds m2 => match m2 with
  | none => .bad
  | some r => newMR cN nN FN ds r fun k m3 => if isK c x m3 = true ∧ okY okc oki (.cel k) m3 = true then negK neg (Fe [x, .cel k] m3) else .bad
/-- names = f(..), values: and all that comes behind it -/
noncomputable def sMadeP (js : List Nat) (c n : Nat) (F : List D → Mo → R (List (Str × D))) (fa : DA) (fvs : DVs) (rest : DS) : DS := fun ρ m => sBind (fa ρ m) fun ds m1 => match m1 with
  | none => .bad
  | some r => newM c n F ds r fun k m2 => sBind (fvs ρ m2) fun ss m3 => if ss.length + 1 = js.length ∧ (∀ i ∈ js, i < ρ.length) then rest (setsD js (.v (.cel k) :: ss) ρ) m3 else .bad
/-- x, y = f(..), f(..) -/
noncomputable def sMade2 (i j : Nat) (c n : Nat) (F : List D → Mo → R (List (Str × D))) (fa fb : DA) (rest : DS) : DS := fun ρ m => sBind (fa ρ m) fun ds m1 => match m1 with
  | none => .bad
  | some r => newM c n F ds r fun k m2 => sBind (fb ρ m2) fun ds2 m3 => match m3 with
    | none => .bad
    | some r2 => newM c n F ds2 r2 fun k2 m4 => if i < ρ.length ∧ j < ρ.length ∧ k < k2 then rest (setsD [i, j] [.v (.cel k), .v (.cel k2)] ρ) m4 else .bad
end
end Dn
namespace Dn
open PySem PySem.Spec PyProof.Rows L2
open PySem.W PySem.Calls
/-! the hook, with the getters of properties -/
def gAd (K : Frag) (p : Str × Str) : Addr := match recIn K (He.ma K (He.ga K p.1) p.2) "property" with
  | some (.ref g :: _) => g
  | _ => 0
def gW (K : Frag) (p : Str × Str) : He.FnW := match K.lookup (gAd K p) with
  | some ⟨_, _, .func fd, _⟩ => some (fd.name, fd.qualname, fd.params, fd.body, fd.scope, fd.globals, fd.closure, fd.builtins)
  | _ => none
structure PD where
  at_ : Str × Str
  name : Str
  qual : Str
  params : Arguments
  body : List Stmt
  scope : Scope
def PD.val (d : PD) : He.FnW := some (d.name, d.qual, d.params, .stmts d.body, d.scope, mainGlobals, [], builtinsNs)
def PD.ok (K : Frag) (d : PD) : Bool := He.eqO (findIn K (.ref (He.ga K d.at_.1)) d.at_.2) (some (some (.ref (He.ma K (He.ga K d.at_.1) d.at_.2)))) && (He.eqO (specialIn K (.ref (He.ma K (He.ga K d.at_.1) d.at_.2)) "__get__") (some (some (.builtin "property.__get__"))) && (decide (takesIn K (.ref (He.ma K (He.ga K d.at_.1) d.at_.2)) = some true) && ((match recIn K (He.ma K (He.ga K d.at_.1) d.at_.2) "property" with
    | some (.ref _ :: _) => true
    | _ => false) && ((clsIn K (He.ga K d.at_.1)).isSome && (keepIn K (.ref (gAd K d.at_)) && (match K.lookup (gAd K d.at_) with
  | some ⟨_, _, .func fd, _⟩ => codeIn K fd.code d.qual && (He.dflB K fd.defaults [] && He.kwdB K fd.kwdefaults [])
  | _ => false))))))
structure PSay (K : Frag) (d : PD) : Prop where
  p : PropOf K (He.ga K d.at_.1) d.at_.2 (He.ma K (He.ga K d.at_.1) d.at_.2) (gAd K d.at_)
  ci : (clsIn K (He.ga K d.at_.1)).isSome = true
  fn : ∃ fd, FunD K d.name d.qual d.params d.body d.scope [] [] (gAd K d.at_) fd
theorem PD.say {K : Frag} {d : PD} (e : gW K d.at_ = d.val) (h : d.ok K = true) : PSay K d := by
  obtain ⟨h1, h⟩ := He.ba h
  obtain ⟨h2, h⟩ := He.ba h
  obtain ⟨h3, h⟩ := He.ba h
  obtain ⟨h4, h⟩ := He.ba h
  obtain ⟨h5, h⟩ := He.ba h
  obtain ⟨kp, c2⟩ := He.ba h
  refine ⟨⟨He.eqO_ok h1, He.eqO_ok h2, of_decide_eq_true h3, ?_⟩, h5, ?_⟩
  · unfold gAd
    cases q : recIn K (He.ma K (He.ga K d.at_.1) d.at_.2) "property" with
    | none => rw [q] at h4; cases h4
    | some l =>
      rw [q] at h4
      match l, h4 with
      | .ref g :: rest, _ => exact ⟨rest, rfl⟩
  · unfold gW at e
    cases q : K.lookup (gAd K d.at_) with
    | none =>
      rw [q] at c2
      cases c2
    | some o =>
      obtain ⟨oc, od, dt, osl⟩ := o
      rw [q] at c2 e
      cases dt with
      | func fd =>
        obtain ⟨n1, n2, n3, n4, n5, n6, n7, n8, n9, n10, n11, n12, n13, n14, n15⟩ := fd
        have e2 : (some (n1, n2, n3, n4, n5, n6, n7, n15) : He.FnW) = some (d.name, d.qual, d.params, .stmts d.body, d.scope, mainGlobals, [], builtinsNs) := e
        simp only [Option.some.injEq, Prod.mk.injEq] at e2
        obtain ⟨h1, h2, h3, h4, h5, h6, h7, h8⟩ := e2
        subst h1 h2 h3 h4 h5 h6 h7 h8
        have c3 : (codeIn K n13 d.qual && (He.dflB K n8 [] && He.kwdB K n9 [])) = true := c2
        obtain ⟨k1, k2⟩ := He.ba c3
        obtain ⟨k3, k4⟩ := He.ba k2
        exact ⟨_, ⟨oc, od, n8, n9, n10, n11, n12, n13, n14, osl, rfl, q, k1, He.dflB_ok k3, He.kwdB_ok k4⟩, kp⟩
      | _ => cases c2
abbrev AlP : Type := AlY × Bool × List He.FnW
def obsP (P : Program) (n : Nat) (fa : List He.Fa) (fn : List He.DefD) (ts : List He.Tab) (tf : List He.Defn) (ex : Frag → Bool) (xs : List XD) (ps : List PD) (g : Addr → Option Obj) : AlP :=
  (obsY P n fa fn ts tf ex xs g, ps.all (fun d => d.ok (frY g n)), ps.map fun d => gW (frY g n) d.at_)
def valP (fn : List He.DefD) (ts : List He.Tab) (xs : List XD) (ps : List PD) (w : World) : AlP := (valY fn ts xs w, true, ps.map PD.val)
structure SaysP (P : Program) (fa : List He.Fa) (fn : List He.DefD) (ts : List He.Tab) (tf : List He.Defn) (ex : Frag → Bool) (xs : List XD) (ps : List PD) (w : World) (h : Heap) (K : Frag) : Prop where
  y : SaysY P fa fn ts tf ex xs w h K
  p : ∀ d ∈ ps, PSay K d
theorem saysP_of {P : Program} {n : Nat} {fa : List He.Fa} {fn : List He.DefD} {ts : List He.Tab} {tf : List He.Defn} {ex : Frag → Bool} {xs : List XD} {ps : List PD} {w : World} {h : Heap} (e : obsP P n fa fn ts tf ex xs ps h.get? = valP fn ts xs ps w) : SaysP P fa fn ts tf ex xs ps w h (frY h.get? n) := by
  have e1 := congrArg (fun z : AlP => z.1) e
  have e2 := congrArg (fun z : AlP => z.2.1) e
  have e3 := congrArg (fun z : AlP => z.2.2) e
  exact ⟨saysY_of e1, fun d hd => PD.say (map_all (show ps.map (fun d => gW (frY h.get? n) d.at_) = ps.map PD.val from e3) d hd) (List.all_eq_true.mp (show (ps.all fun d => d.ok (frY h.get? n)) = true from e2) d hd)⟩
def hookP (P : Program) (n : Nat) (fa : List He.Fa) (fn : List He.DefD) (ts : List He.Tab) (tf : List He.Defn) (ex : Frag → Bool) (xs : List XD) (ps : List PD) : Hook where
  α := AlP
  obs := fun s => obsP P n fa fn ts tf ex xs ps s.heap.get?
  val := fun w => valP fn ts xs ps w
  says := fun w h => ∃ K : Frag, K.In h ∧ SaysP P fa fn ts tf ex xs ps w h K
  of := fun _ _ e => ⟨_, He.frT_in, saysP_of e⟩
  keeps := fun _ _ _ ⟨K, hK, c⟩ k => ⟨K, Frag.In.keeps hK k, ⟨⟨⟨c.y.x.t, c.y.x.more, c.y.x.hd, c.y.x.out, fun p hp => k _ _ (c.y.x.empty p hp)⟩, c.y.own⟩, c.p⟩⟩
end Dn
namespace Dn
open PySem PySem.Spec PyProof.Rows L2
/-! a def that returns an object which it made; the evaluator -/
section
variable {G : Cl}
theorem ev_isCl {I : IsT} {i : Nat → Option Bool} {f : DE} {ρ : Ro} {m : Mo} : dIsC I i f ρ m = (f ρ m).bind fun d m1 => match d with
  | .cel k => match (m1.cell k).bind fun q => i q.c with
    | some b => .ok (.bl b) m1
    | none => .bad
  | d => match I.of d with
    | some b => .ok (.bl b) m1
    | none => .bad := Eq.trans rfl rfl
end
end Dn
namespace PySem.SeqAt
open PySem.AutoSeq1 (wpAny_loadPart')
open MeetsSeq
end PySem.SeqAt
namespace Dn
open PySem PySem.Spec PyProof.Rows L2
open PySem.W PySem.Calls Builtin
/-! x == y, x of a built-in type or a truth value, y an object with a dict -/
def rReflB (K : Frag) (C : Addr) (sp : Sp) (E : XK) : R2 := fun x y H Q => ∃ c a dx vs, x = .bl c ∧ y = .ref a ∧ H a = some (.ins C dx vs) ∧ sp [y, x] H (fun z H' => ∃ k, z = .bl k ∧ Q (.bl k) H') E
def rReflK (K : Frag) (C : Addr) (sp : Sp) (E : XK) : R2 := fun x y H Q => rReflI K C sp E x y H Q ∨ rReflB K C sp E x y H Q
section
variable {X : Cx} {k : Nat} {C g : Addr} {sp : Sp} {E : XK}
end
def plE (x : D) : Bool := match x with
  | .bl _ => true
  | x => plD x
def dEqK (c : Nat) (F : DF) (fa fb : DE) : DE := fun ρ m => (fa ρ m).bind fun x m1 => (fb ρ m1).bind fun y m2 => if isK c y m2 = true ∧ plE x = true then negK false (F [y, x] m2) else .bad
end Dn
namespace Dn
open PySem PySem.Spec PyProof.Rows L2
/-! lists beside an object, handed about and changed by others -/
def getLs (x : D) (m : Mo) : Option (List D) := match x with
  | .lcl k j => match m.cell k with
    | some q => match q.ls[j]? with
      | some p => some p.2
      | none => none
    | none => none
  | _ => none
def setLs (x : D) (ds : List D) (m : Mo) : Option Mo := match x, m with
  | .lcl k j, some r => match r.cs[k]? with
    | some q => match q.ls[j]? with
      | some p => some (some (r.put k { q with ls := q.ls.set j (p.1, ds) }))
      | none => none
    | none => none
  | _, _ => none
section
variable {G : Cl} {E : XK} {B : Bx} {M : AP} {pm : Nat → Addr} {ρ : Ro} {m : Mo} {σ : L2.St} {H : Hp}
end
/-! what is asked of such a list -/
/-- an operator, such a list on the left -/
def dOpL (g : D → D → Option D) (fa fb : DE) : DE := fun ρ m => (fa ρ m).bind fun x m1 => (fb ρ m1).bind fun y m2 => match getLs x m2 with
  | some ds => R.of (g (.lst ds) y) m2
  | none => .bad
/-- len(xs) -/
def dCBL (g : List D → Option D) (fa : DE) : DE := fun ρ m => (fa ρ m).bind fun x m1 => match getLs x m1 with
  | some ds => R.of (g [.lst ds]) m1
  | none => .bad
/-- xs.append(e) -/
def sAppL (fx f : DE) : DS := fun ρ m => sBind (fx ρ m) fun x m1 => match getLs x m1 with
  | some _ => sBind (f ρ m1) fun d m2 => match getLs x m2 with
    | some ds => if ds.length ≤ 10000 then match setLs x (ds ++ [d]) m2 with
        | some m3 => .nx ρ m3
        | none => .bad
      else .bad
    | none => .bad
  | none => .bad
/-- xs.clear() -/
def sClrL (fx : DE) : DS := fun ρ m => sBind (fx ρ m) fun x m1 => match setLs x [] m1 with
  | some m3 => .nx ρ m3
  | none => .bad
/-- xs.pop() -/
def dPopL (fx : DE) : DE := fun ρ m => (fx ρ m).bind fun x m1 => match getLs x m1 with
  | some ds => match ds[ds.length - 1]? with
    | some d => match setLs x ds.dropLast m1 with
      | some m2 => .ok d m2
      | none => .bad
    | none => .bad
  | none => .bad
/-- [g(x, c) for x in xs] -/
def dLcL (j : Nat) (g : D → D → Option D) (c : D) (fx : DE) : DE := fun ρ m => (fx ρ m).bind fun x m1 => match getLs x m1 with
  | some ds => if ds.length ≤ 10000 ∧ j < ρ.length then match ds.mapM fun d => g d c with
      | some xs => .ok (.lst xs) m1
      | none => .bad
    else .bad
  | none => .bad
section
variable {G : Cl} {E : XK}
end
end Dn
namespace Dn
open PySem PySem.Spec PyProof.Rows L2
/-! x, y, z = C(..), [], []: the lists are held beside the new object -/
def AdW (l l' : List (List Addr)) : Prop := ∀ (k : Nat) (r : List Addr), l[k]? = some r → ∃ y, l'[k]? = some (r ++ y)
section
variable {G : Cl} {M : AP} {H : Hp} {b : Addr × Addr × Addr} {l l' : List (List Addr)}
mutual
theorem Rep.adw (w : AdW l l') : ∀ {v : V} {d : D}, Rep G (some (b, l)) M H v d → Rep G (some (b, l')) M H v d
  | _, _, .non => .non
  | _, _, .bl x => .bl x
  | _, _, .int i => .int i
  | _, _, .str x => .str x
  | _, _, .tup h n r => .tup h n (Reps.adw w r)
  | _, _, .lst h n r => .lst h n (Reps.adw w r)
  | _, _, .obj h hx n nx r => .obj h hx n nx (Rep.adw w r)
  | _, _, .dct h n e r => .dct h n e (Reps.adw w r)
  | _, _, .drw h => by
    cases h
    exact .drw rfl
  | _, _, .cel h hk => by
    cases h
    obtain ⟨y, e⟩ := w _ _ hk
    exact .cel rfl e
  | _, _, .lcl h hk hj => by
    cases h
    obtain ⟨y, e⟩ := w _ _ hk
    exact .lcl rfl e (by rw [List.getElem?_append_left (List.getElem?_eq_some_iff.mp hj).1]; exact hj)
  | _, _, .dcn h n e rk r => .dcn h n e (Reps.adw w rk) (Reps.adw w r)
  | _, _, .exc0 h n q => .exc0 h n q
  | _, _, .exc1 h hx n nx q r => .exc1 h hx n nx q (Rep.adw w r)
  | _, _, .scrF h n => .scrF h n
  | _, _, .scrK h => .scrK h
theorem Reps.adw (w : AdW l l') : ∀ {vs : List V} {ds : List D}, Reps G (some (b, l)) M H vs ds → Reps G (some (b, l')) M H vs ds
  | _, _, .nil => .nil
  | _, _, .cons r t => .cons (Rep.adw w r) (Reps.adw w t)
end
theorem FdR.adw (w : AdW l l') {v : V} {f : Fd} (h : FdR G (some (b, l)) M H v f) : FdR G (some (b, l')) M H v f := by
  cases f with
  | v d => exact Rep.adw w h
  | mn p q =>
    obtain ⟨h0, kvs, h1, h2, h3, h4⟩ := h
    exact ⟨h0, kvs, h1, h2, h3.adw w, h4.adw w⟩
theorem FsR.adw (w : AdW l l') : ∀ {vs : List (Str × V)} {fs : List (Str × Fd)}, FsR G (some (b, l)) M H vs fs → FsR G (some (b, l')) M H vs fs
  | _, _, .nil => .nil
  | _, _, .cons r t => .cons ⟨r.1, r.2.adw w⟩ (FsR.adw w t)
theorem CRec.adw (w : AdW l l') {c : Cel} (h : CRec G (some (b, l)) M H c) : CRec G (some (b, l')) M H c := by
  obtain ⟨vs, h1, h2⟩ := h.at_
  exact ⟨⟨vs, h1, h2.adw w⟩, h.own, h.len, fun p hp => let ⟨us, h3, h4⟩ := h.lr p hp; ⟨us, h3, h4.adw w⟩⟩
end
def grown2 (q : Cel) (p1 p2 : Addr) : Cel := { q with ls := [(p1, []), (p2, [])] }
/-- the last object gets two new lists -/
noncomputable def growL (n : Nat) (m : Mo) (k : Mo → SR) : SR := match m with
  | some r => match r.cs[n]? with
    | some q => if q.ls.isEmpty = true ∧ (q.fs.flatMap fun f => f.2.ads).isEmpty = true ∧ r.cs.length = n + 1 then allS fun p1 p2 => popS n (k (some (r.put n (grown2 q p1 p2)))) else .bad
    | none => .bad
  | none => .bad
section
variable {G : Cl} {B B' : Bx} {M : AP} {pm : Nat → Addr} {ρ : Ro} {r : MS} {σ : L2.St} {H : Hp} {q : Cel} {n : Nat} {ads : List Addr} {p1 p2 : Addr}
theorem last_split (hq : r.cs[n]? = some q) (hn : r.cs.length = n + 1) : r.cs = r.cs.dropLast ++ [q] := by
  have ne : r.cs ≠ [] := fun z => by
    rw [z] at hn
    cases hn
  have z := List.dropLast_concat_getLast ne
  have e : r.cs.getLast ne = q := by
    rw [List.getLast_eq_getElem]
    have := (List.getElem?_eq_some_iff.mp hq).2
    simp only [hn, Nat.add_sub_cancel]
    exact this
  rw [e] at z
  exact z.symm
theorem put_split (q' : Cel) (hq : r.cs[n]? = some q) (hn : r.cs.length = n + 1) : (r.put n q').cs = r.cs.dropLast ++ [q'] := by
  show r.cs.set n q' = _
  have e := last_split hq hn
  have hl : r.cs.dropLast.length = n := by rw [List.length_dropLast, hn]; rfl
  conv => lhs; rw [e]
  rw [List.set_append_right _ _ (by omega), hl, Nat.sub_self]
  rfl
theorem EnvR.growL (gr : Grown B B' ads) (e : EnvR G B' M pm ρ (some r) σ H) (hq : r.cs[n]? = some q) (hn : r.cs.length = n + 1) (hls : q.ls = []) (hfs : (q.fs.flatMap fun f => f.2.ads) = []) (h1 : H p1 = none) (h2 : upd H p1 (.lst []) p2 = none) :
    EnvR G (bornB B' (some (r.put n (grown2 q p1 p2)))) (fun b => (M b ∨ b = p1) ∨ b = p2) pm ρ (some (r.put n (grown2 q p1 p2))) σ (upd (upd H p1 (.lst [])) p2 (.lst [])) ∧ Grown B (bornB B' (some (r.put n (grown2 q p1 p2)))) [q.a, q.dx, p1, p2] ∧
      ∀ {v : V} {d : D}, Rep G B'.ad M H v d → Rep G (bornB B' (some (r.put n (grown2 q p1 p2)))).ad (fun b => (M b ∨ b = p1) ∨ b = p2) (upd (upd H p1 (.lst [])) p2 (.lst [])) v d := by
  have qads : q.ads = [q.a, q.dx] := by unfold Cel.ads; rw [hls, hfs]; rfl
  have gads : (grown2 q p1 p2).ads = [q.a, q.dx, p1, p2] := by
    show q.a :: q.dx :: ([p1, p2] ++ q.fs.flatMap fun f => f.2.ads) = _
    rw [hfs]
    rfl
  have s1 := last_split hq hn
  have s2 := put_split (grown2 q p1 p2) hq hn
  generalize hi : r.cs.dropLast = init at s1 s2
  have ne : p1 ≠ p2 := fun z => by
    rw [← z, upd_same] at h2
    cases h2
  have h2' : H p2 = none := by rw [upd_ne ne.symm] at h2; exact h2
  have l1 := Liv.none h1
  have l2 := Liv.none h2
  obtain ⟨a1, a2, a3⟩ := e.offX l1
  obtain ⟨d1, d2, d3⟩ := e.offX (Liv.none h2')
  have had : B'.ad = some ((r.am, r.ac, r.ag), init.map Cel.ads ++ [[q.a, q.dx]]) := by
    refine e.ea.symm.trans ?_
    show some ((r.am, r.ac, r.ag), r.cs.map Cel.ads) = _
    rw [s1, List.map_append, List.map_cons, List.map_nil, qads]
  have ead : (bornB B' (some (r.put n (grown2 q p1 p2)))).ad = some ((r.am, r.ac, r.ag), init.map Cel.ads ++ [[q.a, q.dx, p1, p2]]) := by
    show some ((r.am, r.ac, r.ag), (r.put n (grown2 q p1 p2)).cs.map Cel.ads) = _
    rw [s2, List.map_append, List.map_cons, List.map_nil, gads]
  have rads : r.ads = init.flatMap Cel.ads ++ [q.a, q.dx] := by
    show r.cs.flatMap Cel.ads = _
    rw [s1, List.flatMap_append, List.flatMap_cons, List.flatMap_nil, qads, List.append_nil]
  have nads : (r.put n (grown2 q p1 p2)).ads = r.ads ++ [p1, p2] := by
    show (r.put n (grown2 q p1 p2)).cs.flatMap Cel.ads = _
    rw [s2, List.flatMap_append, List.flatMap_cons, List.flatMap_nil, gads, rads, List.append_nil, List.append_assoc]
    rfl
  have w : AdW (init.map Cel.ads ++ [[q.a, q.dx]]) (init.map Cel.ads ++ [[q.a, q.dx, p1, p2]]) := fun k t hk => by
    by_cases hl : k < (init.map Cel.ads).length
    · rw [List.getElem?_append_left hl] at hk
      exact ⟨[], by rw [List.getElem?_append_left hl, hk, List.append_nil]⟩
    · rw [List.getElem?_append_right (Nat.le_of_not_lt hl)] at hk
      have hz : k - (init.map Cel.ads).length = 0 := by
        have := (List.getElem?_eq_some_iff.mp hk).1
        rw [List.length_singleton] at this
        omega
      rw [hz] at hk
      cases hk
      exact ⟨[p1, p2], by rw [List.getElem?_append_right (Nat.le_of_not_lt hl), hz]; rfl⟩
  have eA : ∀ b, (bornB B' (some (r.put n (grown2 q p1 p2)))).A b ↔ B'.A b ∨ b = p1 ∨ b = p2 := fun b => by
    have k1 : B'.A b ↔ b = r.am ∨ b = r.ac ∨ b = r.ag ∨ b ∈ r.ads := by rw [← e.eh]; exact Iff.rfl
    show (b = r.am ∨ b = r.ac ∨ b = r.ag ∨ b ∈ (r.put n (grown2 q p1 p2)).ads) ↔ _
    rw [k1, nads, List.mem_append]
    simp only [List.mem_cons, List.not_mem_nil, or_false]
    constructor
    · rintro (h | h | h | h | h)
      · exact .inl (.inl h)
      · exact .inl (.inr (.inl h))
      · exact .inl (.inr (.inr (.inl h)))
      · exact .inl (.inr (.inr (.inr h)))
      · exact .inr h
    · rintro ((h | h | h | h) | h)
      · exact .inl h
      · exact .inr (.inl h)
      · exact .inr (.inr (.inl h))
      · exact .inr (.inr (.inr (.inl h)))
      · exact .inr (.inr (.inr (.inr h)))
  obtain ⟨b0, l0, g1, g2⟩ := gr.ad
  have gl : l0 = init.map Cel.ads ∧ ads = [q.a, q.dx] ∧ b0 = (r.am, r.ac, r.ag) := by
    rw [g2] at had
    have z := Option.some.inj had
    have z1 := congrArg Prod.fst z
    have z2 := congrArg Prod.snd z
    dsimp only at z1 z2
    obtain ⟨z3, z4⟩ := List.append_inj' z2 rfl
    exact ⟨z3, (List.cons.inj z4).1, z1⟩
  obtain ⟨rfl, rfl, rfl⟩ := gl
  have gr' : Grown B (bornB B' (some (r.put n (grown2 q p1 p2)))) [q.a, q.dx, p1, p2] := ⟨gr.h0, gr.X, gr.T, ⟨_, _, g1, ead⟩, fun b => by
    rw [eA, gr.A]
    simp only [List.mem_cons, List.not_mem_nil, or_false, or_assoc], fun b hb => by
    have nb : ∀ {b}, ¬ Liv B'.H0 b ∧ ¬ B'.X b ∧ ¬ B'.A b → ¬ Liv B.H0 b ∧ ¬ B.X b ∧ ¬ B.A b := fun {b} z => by
      rw [gr.h0, gr.X] at z
      exact ⟨z.1, z.2.1, fun y => z.2.2 ((gr.A b).mpr (.inl y))⟩
    simp only [List.mem_cons, List.not_mem_nil, or_false] at hb
    rcases hb with rfl | rfl | rfl | rfl
    · exact gr.new _ (by simp)
    · exact gr.new _ (by simp)
    · exact nb ⟨a1, a2, a3⟩
    · exact nb ⟨d1, d2, d3⟩⟩
  have x1 : Ext Non H (upd H p1 (.lst [])) := Ext.new h1
  have x2 : Ext Non (upd H p1 (.lst [])) (upd (upd H p1 (.lst [])) p2 (.lst [])) := Ext.new h2
  have x : Ext Non H (upd (upd H p1 (.lst [])) p2 (.lst [])) := x1.trans x2
  have up : ∀ {v : V} {d : D}, Rep G B'.ad M H v d → Rep G (bornB B' (some (r.put n (grown2 q p1 p2)))).ad (fun b => (M b ∨ b = p1) ∨ b = p2) (upd (upd H p1 (.lst [])) p2 (.lst [])) v d := fun {v d} z => by
    rw [ead]
    rw [had] at z
    exact ((((z.off l1).ext x1 fun _ z => z.elim).off l2).ext x2 fun _ z => z.elim).adw w
  have ups : ∀ {v : List V} {d : List D}, Reps G B'.ad M H v d → Reps G (bornB B' (some (r.put n (grown2 q p1 p2)))).ad (fun b => (M b ∨ b = p1) ∨ b = p2) (upd (upd H p1 (.lst [])) p2 (.lst [])) v d := fun {v d} z => by
    rw [ead]
    rw [had] at z
    exact ((((z.off l1).ext x1 fun _ z => z.elim).off l2).ext x2 fun _ z => z.elim).adw w
  have apm : ∀ i, isM ρ i → pm i ≠ p1 ∧ pm i ≠ p2 := fun i hi => by
    have z := e.hl (pm i) (e.em _ (.inr (.inr ⟨i, hi, rfl⟩)))
    exact ⟨fun y => l1 (y ▸ z), fun y => Liv.none h2' (y ▸ z)⟩
  have lvA : ∀ b, B'.A b → Liv H b := fun b hb => by
    obtain ⟨o, h3, h4⟩ := MRep.has e.mr b (by rw [e.eh]; exact hb)
    exact ⟨o, h3, h4⟩
  have inA : ∀ b, (b = r.am ∨ b = r.ac ∨ b = r.ag ∨ b ∈ r.ads) → B'.A b := fun b hb => by rw [← e.eh]; exact hb
  have pl1 : upd (upd H p1 (.lst [])) p2 (.lst []) p1 = some (.lst []) := by rw [upd_ne ne]; exact upd_same
  have mr' : MRep G (fun b => (M b ∨ b = p1) ∨ b = p2) (upd (upd H p1 (.lst [])) p2 (.lst [])) (some (r.put n (grown2 q p1 p2))) := by
    obtain ⟨k1, k2⟩ := (((e.mr.off l1).ext x1).off l2).ext x2
    have kad : Mo.ad (some r) = some ((r.am, r.ac, r.ag), init.map Cel.ads ++ [[q.a, q.dx]]) := e.ea.trans had
    refine ⟨k1, fun z hz => ?_, ?_, fun b hb => ?_⟩
    · have kad' : Mo.ad (some (r.put n (grown2 q p1 p2))) = some ((r.am, r.ac, r.ag), init.map Cel.ads ++ [[q.a, q.dx, p1, p2]]) := ead
      rw [kad']
      rw [s2] at hz
      rcases List.mem_append.mp hz with y | y
      · have c := k2.c z (by rw [s1]; exact List.mem_append_left _ y)
        rw [kad] at c
        exact c.adw w
      · rw [List.mem_singleton] at y
        subst y
        have c := k2.c q (by rw [s1]; exact List.mem_append_right _ (List.mem_singleton.mpr rfl))
        rw [kad] at c
        have c' := c.adw w
        refine ⟨c'.at_, c'.own, c'.len, fun p hp => ?_⟩
        have hp' : p ∈ [(p1, ([] : List D)), (p2, [])] := hp
        simp only [List.mem_cons, List.not_mem_nil, or_false] at hp'
        rcases hp' with rfl | rfl
        · exact ⟨[], pl1, .nil⟩
        · exact ⟨[], upd_same, .nil⟩
    · rw [nads]
      refine List.nodup_append.mpr ⟨k2.nd, by simp [ne], fun u hu v hv z => ?_⟩
      subst z
      have lu := lvA u (inA u (.inr (.inr (.inr hu))))
      simp only [List.mem_cons, List.not_mem_nil, or_false] at hv
      rcases hv with rfl | rfl
      · exact l1 lu
      · exact Liv.none h2' lu
    · rw [nads] at hb
      rcases List.mem_append.mp hb with z | z
      · exact k2.ap b z
      · have nb : ¬ B'.A b := by
          simp only [List.mem_cons, List.not_mem_nil, or_false] at z
          rcases z with rfl | rfl
          · exact a3
          · exact d3
        exact ⟨fun y => nb (inA b (.inl y)), fun y => nb (inA b (.inr (.inl y))), fun y => nb (inA b (.inr (.inr (.inl y))))⟩
  refine ⟨⟨fun b h => ?_, fun b h => ?_, rfl, rfl, e.len, fun i d h => ?_, fun i ds h => ?_, fun i q h => ?_, fun i q h => ?_, e.inj, e.fr, fun b hb => (e.xs b hb).ext x fun z => z, mr', fun b hb hx => ?_, fun i hi hz => ?_, ?_, tabs_upd (tabs_upd e.tb (.none h1)) (.none h2), e.tt⟩, gr', up⟩
  · rcases h with h | h | h
    · rcases (eA b).mp h with z | z | z
      · exact .inl (.inl (e.em b (.inl z)))
      · exact .inl (.inr z)
      · exact .inr z
    · exact .inl (.inl (e.em b (.inr (.inl h))))
    · exact .inl (.inl (e.em b (.inr (.inr h))))
  · rcases h with (h | h) | h
    · exact (e.hl b h).ext x fun z => z
    · subst h
      exact ⟨_, pl1, fun ps z => by cases z⟩
    · subst h
      exact ⟨_, upd_same, fun ps z => by cases z⟩
  · obtain ⟨v, k1, k2⟩ := e.sv i d h
    exact ⟨v, k1, up k2⟩
  · obtain ⟨v, k1, k2, k3⟩ := e.sl i ds h
    exact ⟨v, k1, x _ _ (fun z => z) (fun ps z => by cases z) k2, ups k3⟩
  · obtain ⟨v, k1, k2, k3, k4⟩ := e.sk i q h
    exact ⟨v, k1, x _ _ (fun z => z) (fun ps z => by cases z) k2, k3, ups k4⟩
  · obtain ⟨v, k1, k2, k3, k4, k5⟩ := e.sn i q h
    exact ⟨v, k1, x _ _ (fun z => z) dN_ntbl k2, k3, ups k4, ups k5⟩
  · rcases (eA b).mp hb with z | z | z
    · exact e.mx b z hx
    · exact a2 (z ▸ hx)
    · exact d2 (z ▸ hx)
  · rcases (eA _).mp hz with z | z | z
    · exact e.mta i hi z
    · exact (apm i hi).1 z
    · exact (apm i hi).2 z
  · exact (e.ext.trans (x.imp fun _ z => z.elim)).imp fun b hb => (eA b).mpr (.inl hb)
end
noncomputable def newS0 (c n : Nat) (F : DF) (ds : List D) (r : MS) (k : Mo → SR) : SR := if ds.length + 1 = n then allS fun a dx => match F (.cel r.cs.length :: ds) (some (r.push ⟨a, dx, c, [], []⟩)) with
    | .ok .non m2 => k m2
    | .exc c' l m2 => popS r.cs.length (.exc c' l m2)
    | _ => .bad
  else .bad
noncomputable def newSL (c n : Nat) (F : DF) (ds : List D) (r : MS) (k : Mo → SR) : SR := newS0 c n F ds r fun m2 => growL r.cs.length m2 k
section
variable {G : Cl} {E : XK}
noncomputable def sNewL (i j l c n : Nat) (F : DF) (fa : DA) (rest : DS) : DS := fun ρ m => sBind (fa ρ m) fun ds m1 => match m1 with
  | none => .bad
  | some r => newSL c n F ds r fun m3 => if i < ρ.length ∧ j < ρ.length ∧ l < ρ.length then rest (((ρ.set i (some (.v (.cel r.cs.length)))).set j (some (.v (.lcl r.cs.length 0)))).set l (some (.v (.lcl r.cs.length 1)))) m3 else .bad
end
end Dn
namespace Dn
open PySem PySem.Spec PyProof.Rows L2
/-! C(..).m(), a new object within an expression; C(..) that raises -/
section
variable {G : Cl} {E : XK}
/-- C(..), which raises -/
noncomputable def dNewX (c n : Nat) (F : DF) (fa : DA) : DE := fun ρ m => (fa ρ m).bind fun ds m1 => match m1 with
  | none => .bad
  | some r => newR c n F ds r fun _ => .bad
/-- C(..).m() -/
noncomputable def dNewMeth (c n : Nat) (F : DF) (f : Str) (n2 : Nat) (F2 : DF) (fa : DA) : DE := fun ρ m => (fa ρ m).bind fun ds m1 => match m1 with
  | none => .bad
  | some r => newR c n F ds r fun m2 => if isC c f (.cel r.cs.length) m2 = true ∧ n2 = 1 then F2 [.cel r.cs.length] m2 else .bad
end
end Dn
namespace Dn
open PySem PySem.Spec PyProof.Rows L2
/-! laws that look at the script behind the first row -/
/-- len(script) -/
def lenSD : List D → Option D
  | [.scr ns] => some (.int ns.length)
  | _ => none
end Dn
namespace Dn
open PySem PySem.Spec PyProof.Rows L2 GenW
/-! for within a generator: the steps of its code -/
section
variable {prog : Program} {w : World} {A : Around} {R : GenEnd} {Y : Protocol} {n : Nat} {s₀ : Shared} {c : Code} {fs : List Frame} {s : Shared} {env : Env}
  {K : Flow → Sem PySem.Fin} {J : Value → Sem PySem.Fin} {gd : Bool → Bool} {lv : List Value → List Value} {tg iter : Expr} {body : List Stmt} {pos : Pos}
theorem segF_start (h : wpAny (model prog w) (A.over c fs) (eval iter env) (fun x s1 => wpAny (model prog w) (A.over c fs) (pyIter x) (fun it s2 => ∀ p, Seg (model prog w) A R Y n s₀ (.forLoop tg it body [] env) ((model prog w).den (.forLoop tg it body [] env))
      (.ret (fun r => ((match r with | .ok f => (.pure f : Sem Flow) | .error e => .raise e).onRaise (cameBack env)).wrap K J gd lv) none (gd false) (lv []) c p [] :: fs) s2) (fun e s' => Seg (model prog w) A R Y n s₀ c (J e) fs s') s1) (fun e s' => Seg (model prog w) A R Y n s₀ c (J e) fs s') s)
    (hs : ∀ x, foldedSetIterable iter env x = pure x) : Seg (model prog w) A R Y n s₀ c ((exec (.For tg iter body [] pos) env).wrap K J gd lv) fs s := by
  rw [exec_For]
  refine seg_at ?_
  show Seg _ _ _ _ _ _ _ ((eval iter env >>= fun x0 => foldedSetIterable iter env x0 >>= fun x => standAt iter.pos >>= fun _ => holding [x] (pyIter x) >>= fun it => runOwn (.forLoop tg it body [] env) env).wrap K J gd lv) fs s
  refine seg_bind_wrap (wpAny_mono h (fun x s1 h1 => ?_) fun _ _ z => z)
  refine seg_bind_wrap (wpAny_of_eq (hs x) ?_)
  refine seg_at ?_
  show Seg _ _ _ _ _ _ _ ((holding [x] (pyIter x) >>= fun it => runOwn (.forLoop tg it body [] env) env).wrap K J gd lv) fs s1
  refine seg_bind_wrap (wpAny_holding (wpAny_mono h1 (fun it s2 h2 => ?_) fun _ _ z => z))
  exact seg_call h2
/-- an exception leaves a turn -/
abbrev outF (env : Env) (e : Value) : Sem PySem.Fin := (do noteFrame e env; theTreesLotGoes e : Sem Unit).wrap (fun _ => .raise e) .raise id id
theorem segF_turn {it : Value} (h : wpAny (model prog w) (A.over (.forLoop tg it body [] env) fs) (pyNext it) (fun r s1 => match r with
      | none => Seg (model prog w) A R Y n s₀ (.block [] env) ((model prog w).den (.block [] env)) fs s1
      | some v => wpAny (model prog w) (A.over (.forLoop tg it body [] env) fs) (letOwnedTupleGo tg it v) (fun _ s2 => wpAny (model prog w) (A.over (.forLoop tg it body [] env) fs) (assign tg env v) (fun _ s3 =>
          Seg (model prog w) A R Y n s₀ (.forLoop tg it body [] env) ((execs body env).wrap (fun f => match f with
            | .next | .cont => .pure (.again (.forLoop tg it body [] env))
            | .brk => .pure (.done .next)
            | .ret v => .pure (.done (.ret v))) (outF env) id id) fs s3) (fun e s' => Seg (model prog w) A R Y n s₀ (.forLoop tg it body [] env) (outF env e) fs s') s2) (fun _ _ => False) s1) (fun _ _ => False) s) :
    Seg (model prog w) A R Y n s₀ (.forLoop tg it body [] env) ((model prog w).den (.forLoop tg it body [] env)) fs s := by
  have eo : ∀ e, ((do noteFrame e env; theTreesLotGoes e : Sem Unit).bind (fun _ => .raise e) : Sem PySem.Fin) = outF env e := fun e => Sem.bind_eq_wrap _ _
  show Seg _ A R Y n s₀ _ ((forTurn tg it body [] env).onRaise (fun x => do noteFrame x env; theTreesLotGoes x)) fs s
  rw [Sem.onRaise_eq_wrap]
  unfold forTurn
  refine seg_at ?_
  refine seg_bind_wrap (wpAny_pure ?_)
  refine seg_bind_wrap (wpAny_onRaise (wpAny_mono h (fun r s1 h1 => ?_) fun _ _ z => z.elim))
  cases r with
  | none => exact seg_again rfl h1
  | some v =>
    refine seg_bind_wrap (wpAny_mono h1 (fun _ s2 h2 => ?_) fun _ _ z => z.elim)
    refine seg_bind_wrap (wpAny_mono h2 (fun _ s3 h3 => ?_) fun e s3 z => ?_)
    · rw [Sem.bind_eq_wrap', Sem.wrap_wrap]
      rw [Sem.wrap_congr (execs body env) _ _ (K' := fun f => match f with
            | .next | .cont => .pure (.again (.forLoop tg it body [] env))
            | .brk => .pure (.done .next)
            | .ret v => .pure (.done (.ret v))) (H' := outF env)
        (fun f => by cases f <;> rfl) (fun e => by show (do noteFrame e env; theTreesLotGoes e : Sem Unit).bind (fun _ => .raise e) = _; rw [Sem.bind_eq_wrap])]
      exact h3
    · rw [← eo] at z
      exact z
/-- nothing more to walk -/
theorem segF_block {k : Result → Sem PySem.Fin} {g : Bool} {l kp : List Value} {p : Pos} (h : Seg (model prog w) A R Y n s₀ c (k (.ok .next)) fs s) : Seg (model prog w) A R Y n s₀ (.block [] env) ((model prog w).den (.block [] env)) (.ret k none g l c p kp :: fs) s :=
  seg_leaf (.ok .next) h
end
end Dn
namespace Dn
open PySem PySem.Spec PyProof.Rows L2 GenW
/-! the body of a generator whose consumer does something at each item -/
/-- what is wanted behind a statement; how many items are out -/
structure GEndsY where
  nx : Nat → L2.St → Hp → Prop
  rt : Nat → VK
  bk : Nat → L2.St → Hp → Prop := fun _ _ _ => False
  ct : Nat → L2.St → Hp → Prop := fun _ _ _ => False
/-- the consumer: an item, the heap, what is wanted of the heap when it goes on -/
abbrev YlK := Nat → V → Hp → (Hp → Prop) → Prop
abbrev TGY := YlK → GEndsY → Nat → L2.St → Hp → Prop
def GEndsY.at (D : GEndsY) (k : Nat) : Ends := { nx := D.nx k, rt := D.rt k, bk := D.bk k, ct := D.ct k }
/-- running; ca: where the consumer's own objects stand, ip: the generator's own iterators -/
def GIY (X : Cx) (ca : List Addr) (ip : List (Addr × Obj)) (s₀ : Shared) (σ : L2.St) (H : Hp) (s : Shared) : Prop := ∃ pc : List (Addr × Obj), (pc.map (·.1) = ca ∧ ∀ p ∈ pc, s₀.heap.get? p.1 = some p.2) ∧ Inv X (pc ++ ip) σ H s
def GYP (X : Cx) (ca : List Addr) (yl : YlK) : Protocol := fun n s₀ v s kap =>
  ∃ k x ip σ H kk, n + 1 + k = sizeLine ∧ (∀ p ∈ ip, p.1 ∉ ca) ∧ RelV x v ∧ GIY X ca ip s₀ σ H s ∧ yl k x H kk ∧ ∀ s' H', GIY X ca ip s' σ H' s' → kk H' → kap (.send .none) s'
def GSPY (X : Cx) (ca : List Addr) (ip : List (Addr × Obj)) (s₀ : Shared) (D : GEndsY) (k : Nat) (f : Flow) (s : Shared) : Prop := match f with
  | .next => ∃ σ H, GIY X ca ip s₀ σ H s ∧ D.nx k σ H
  | .brk => ∃ σ H, GIY X ca ip s₀ σ H s ∧ D.bk k σ H
  | .cont => ∃ σ H, GIY X ca ip s₀ σ H s ∧ D.ct k σ H
  | .ret u => ∃ v σ H, GIY X ca ip s₀ σ H s ∧ RelV v u ∧ D.rt k v H
structure GCY (X : Cx) (A : Around) (c : Code) (fs : List Frame) (gd : Bool → Bool) : Prop where
  over : A.over c fs = X.A
  split : splitAtGen fs = none
  guard : fs.any Frame.guarded = false
  gd : gd false = false
structure GKY (X : Cx) (ca : List Addr) (ip : List (Addr × Obj)) (A : Around) (R : GenEnd) (yl : YlK) (c : Code) (fs : List Frame) (K : Flow → Sem PySem.Fin) (J : Value → Sem PySem.Fin) (D : GEndsY) : Prop where
  ok : ∀ (n k : Nat) (s₀ s : Shared) (f : Flow), n + k = sizeLine → GSPY X ca ip s₀ D k f s → Seg (model X.prog X.w) A R (GYP X ca yl) n s₀ c (K f) fs s
  exc : ∀ (n : Nat) (s₀ : Shared) (e : Value) (s : Shared), X.xe e s → Seg (model X.prog X.w) A R (GYP X ca yl) n s₀ c (J e) fs s
structure GSY (X : Cx) (st : Stmt) (t : TGY) : Prop where
  run : ∀ (A : Around) (ca : List Addr) (ip : List (Addr × Obj)) (R : GenEnd) (n k : Nat) (s₀ : Shared) (c : Code) (fs : List Frame) (K : Flow → Sem PySem.Fin) (J : Value → Sem PySem.Fin) (gd : Bool → Bool) (lv : List Value → List Value) (s : Shared) (σ : L2.St) (H : Hp) (yl : YlK) (D : GEndsY),
    (∀ p ∈ ip, p.1 ∉ ca) → GCY X A c fs gd → n + k = sizeLine → GKY X ca ip A R yl c fs K J D → GIY X ca ip s₀ σ H s → t yl D k σ H → Seg (model X.prog X.w) A R (GYP X ca yl) n s₀ c ((exec st X.env).wrap K J gd lv) fs s
structure GSsY (X : Cx) (st : List Stmt) (t : TGY) : Prop where
  run : ∀ (A : Around) (ca : List Addr) (ip : List (Addr × Obj)) (R : GenEnd) (n k : Nat) (s₀ : Shared) (c : Code) (fs : List Frame) (K : Flow → Sem PySem.Fin) (J : Value → Sem PySem.Fin) (gd : Bool → Bool) (lv : List Value → List Value) (s : Shared) (σ : L2.St) (H : Hp) (yl : YlK) (D : GEndsY),
    (∀ p ∈ ip, p.1 ∉ ca) → GCY X A c fs gd → n + k = sizeLine → GKY X ca ip A R yl c fs K J D → GIY X ca ip s₀ σ H s → t yl D k σ H → Seg (model X.prog X.w) A R (GYP X ca yl) n s₀ c ((execs st X.env).wrap K J gd lv) fs s
section
variable {X : Cx} {st : Stmt} {rest : List Stmt}
theorem GSPY.of {ca : List Addr} {pc ip : List (Addr × Obj)} {s s₀ : Shared} {D : GEndsY} {k : Nat} {f : Flow} (e : pc.map (·.1) = ca ∧ ∀ p ∈ pc, s₀.heap.get? p.1 = some p.2) (h : SP X (pc ++ ip) (D.at k) f s) : GSPY X ca ip s₀ D k f s := by
  cases f with
  | next => obtain ⟨σ, H, I, q⟩ := h; exact ⟨σ, H, ⟨pc, e, I⟩, q⟩
  | brk => obtain ⟨σ, H, I, q⟩ := h; exact ⟨σ, H, ⟨pc, e, I⟩, q⟩
  | cont => obtain ⟨σ, H, I, q⟩ := h; exact ⟨σ, H, ⟨pc, e, I⟩, q⟩
  | ret u => obtain ⟨v, σ, H, I, r1, q⟩ := h; exact ⟨v, σ, H, ⟨pc, e, I⟩, r1, q⟩
/-- a statement that hands out nothing -/
def tPlainY (t : TS) : TGY := fun _ D k σ H => t (D.at k) σ H
theorem gsy_ps {t : TS} (h : PS X st t) : GSY X st (tPlainY t) := ⟨fun A ca ip R n k s₀ c fs K J gd lv s σ H yl D ap g hn kk hI ht => by
  obtain ⟨pc, e, I⟩ := hI
  refine seg_wrap ?_
  rw [g.over]
  exact wpAny_mono (h.run _ s σ H (D.at k) I ht) (fun f s' hs => kk.ok n k s₀ s' f hn (.of e hs)) fun x s' hx => kk.exc n s₀ x s' hx⟩
def tNilY : TGY := fun _ D k σ H => D.nx k σ H
theorem gssy_nil : GSsY X [] tNilY := ⟨fun A ca ip R n k s₀ c fs K J gd lv s σ H yl D ap g hn kk hI ht => seg_execs_nil (kk.ok n k s₀ s .next hn ⟨σ, H, hI, ht⟩)⟩
def tThenY (t u : TGY) : TGY := fun yl D k σ H => t yl { D with nx := fun k' σ' H' => u yl D k' σ' H' } k σ H
theorem gssy_cons {t u : TGY} (a : GSY X st t) (b : GSsY X rest u) : GSsY X (st :: rest) (tThenY t u) := ⟨fun A ca ip R n k s₀ c fs K J gd lv s σ H yl D ap g hn kk hI ht => by
  refine seg_execs_cons (a.run A ca ip R n k s₀ c fs _ J gd lv s σ H yl { D with nx := fun k' σ' H' => u yl D k' σ' H' } ap g hn ⟨fun n' k' s₀' s' f hn' hs => ?_, kk.exc⟩ hI ht)
  cases f with
  | next =>
    obtain ⟨σ', H', I', q⟩ := hs
    exact b.run A ca ip R n' k' s₀' c fs K J gd lv s' σ' H' yl D ap g hn' kk I' q
  | brk => exact kk.ok n' k' s₀' s' .brk hn' hs
  | cont => exact kk.ok n' k' s₀' s' .cont hn' hs
  | ret u => exact kk.ok n' k' s₀' s' (.ret u) hn' hs⟩
/-- yield e -/
def tYieldY (te : TE) : TGY := fun yl D k σ H => k < sizeLine ∧ te σ H fun x H1 => ∃ kk, yl k x H1 kk ∧ ∀ H', kk H' → D.nx (k + 1) σ H'
theorem gsy_yield {e : Expr} {yp pos : Pos} {te : TE} (he : PE X e te) (hco : X.env.scope.isCoroutine = false := by rfl) (hi : interactive X.env = false := by rfl) : GSY X (.Expr (.Yield (some e) yp) pos) (tYieldY te) := ⟨fun A ca ip R n k s₀ c fs K J gd lv s σ H yl D ap g hn kk hI ht => by
  obtain ⟨hlt, ht⟩ := ht
  obtain ⟨n, rfl⟩ : ∃ m, n = m + 1 := ⟨n - 1, by omega⟩
  obtain ⟨pc, ep, I⟩ := hI
  refine seg_Expr_Yield g.split g.gd g.guard ?_ hco hi
  rw [g.over]
  refine wpAny_mono (he.run _ s σ H _ I ht) (fun v s' hv => ?_) fun x s' hx => kk.exc _ s₀ x s' hx
  obtain ⟨x, H1, I1, rv, kx, q1, q2⟩ := hv
  intro kap hk
  refine ⟨k, x, ip, σ, H1, kx, hn, ap, rv, ⟨pc, ep, I1⟩, q1, fun s'' H' z1 z2 => hk .none s'' ?_⟩
  exact kk.ok n (k + 1) s'' s'' .next (by omega) ⟨σ, H', z1, q2 H' z2⟩⟩
/-- for .. in .. -/
def tForY (wi : TI) (g : TG) (tb : TGY) : TGY := fun yl D k σ H => wi σ H fun J H1 => ∃ W : Nat → Nat → Nat → L2.St → Hp → Prop, (∃ m, W 0 m k σ H1) ∧ ∀ i m k σ H, W i m k σ H →
  (J.stop i H ∧ D.nx k σ H) ∨ (J.go i H ∧ ∃ N : Nat → L2.St → Hp → Prop, (∀ k' σ' H', N k' σ' H' → ∃ m', m' < m ∧ W (i + 1) m' k' σ' H') ∧ ∀ x H', J.yld i H x H' → g x σ H' fun σ2 H2 => tb yl { D with nx := N, ct := N, bk := D.nx } k σ2 H2)
theorem gcy_loop {A : Around} {c c' : Code} {fs : List Frame} {gd : Bool → Bool} {k : Result → Sem PySem.Fin} {l kp : List Value} {p : Pos} (g : GCY X A c fs gd) (hw : c'.weight = 0) (hu : c'.cUnits = 0) : GCY X A c' (.ret k none (gd false) l c p kp :: fs) id where
  over := (over_loop hw hu).trans g.over
  split := by
    show (splitAtGen fs).map _ = none
    rw [g.split]; rfl
  guard := by
    show (gd false || fs.any Frame.guarded) = false
    rw [g.gd, g.guard]; rfl
  gd := rfl
theorem seg_cameBackY {ca : List Addr} {ip : List (Addr × Obj)} {A : Around} {R : GenEnd} {yl : YlK} {c : Code} {fs : List Frame} {K : Flow → Sem PySem.Fin} {J : Value → Sem PySem.Fin} {gd : Bool → Bool} {lv : List Value → List Value} {D : GEndsY} {n : Nat} {s₀ s : Shared} {e : Value}
    (g : GCY X A c fs gd) (k : GKY X ca ip A R yl c fs K J D) (h : cameBackBy (model X.prog X.w) X.A X.env X.xe e s) :
    Seg (model X.prog X.w) A R (GYP X ca yl) n s₀ c (((Sem.raise e : Sem Flow).onRaise (cameBack X.env)).wrap K J gd lv) fs s := by
  show Seg _ _ _ _ _ _ _ (((cameBack X.env e).bind fun _ => (Sem.raise e : Sem Flow)).wrap K J gd lv) _ _
  rw [Sem.bind_eq_wrap, Sem.wrap_wrap]
  refine seg_wrap ?_
  rw [g.over]
  exact wpAny_mono h (fun _ s' hx => k.exc n s₀ e s' hx) fun x s' hx => k.exc n s₀ x s' hx
theorem gsy_for {tg iter : Expr} {body : List Stmt} {pos : Pos} {wi : TI} {g : TG} {tb : TGY} (hp : PassesOwn (model X.prog X.w) X.A X.env X.xe) (hc : X.calm = true) (hi : PI X tg iter wi) (hg : PG X tg g) (hb : GSsY X body tb)
    (hs : ∀ x, foldedSetIterable iter X.env x = pure x := by intro _; rfl) : GSY X (.For tg iter body [] pos) (tForY wi g tb) := ⟨fun A ca ip R n k s₀ c fs K J gd lv s σ H yl D ap gc hn kk hI ht => by
  obtain ⟨pc, ep, I⟩ := hI
  refine segF_start ?_ hs
  rw [gc.over]
  refine wpAny_mono (hi.run _ s σ H _ I ht) (fun v s1 h1 => wpAny_mono h1 (fun itv s2 h2 => ?_) fun x s' hx => kk.exc n s₀ x s' hx) fun x s' hx => kk.exc n s₀ x s' hx
  obtain ⟨it, fp, tn, J', H2, e, I2, T, st2, f2, W, ⟨m0, w0⟩, turn⟩ := h2
  subst e
  intro p
  have gl := fun (kk : Result → Sem PySem.Fin) => gcy_loop (k := kk) (c' := .forLoop tg (.ref it) body [] X.env) (l := lv []) (kp := []) (p := p) gc rfl rfl
  have stat : ∀ {H' : Hp} {pc' : List (Addr × Obj)}, (pc'.map (·.1) = ca) → (∀ b ∈ fp, H' b = none) → ∀ b ∈ fp, FpOk X (pc' ++ ip) H' b := fun {H' pc'} e' hn b hb => by
    obtain ⟨_, a2, a3, a4, a5, a6⟩ := f2 b hb
    refine ⟨hn b hb, a2, a3, a4, a5, fun q hq => ?_⟩
    rcases List.mem_append.mp hq with z | z
    · exact a6 q (List.mem_append_left _ z)
    · rcases List.mem_append.mp z with z | z
      · have hm : q.1 ∈ pc.map (·.1) := by rw [ep.1, ← e']; exact List.mem_map.mpr ⟨q, z, rfl⟩
        obtain ⟨q', hq', eq'⟩ := List.mem_map.mp hm
        rw [← eq']
        exact a6 q' (List.mem_append_right _ (List.mem_append_left _ hq'))
      · exact a6 q (List.mem_append_right _ (List.mem_append_right _ z))
  have loop : ∀ (m i n k : Nat) (s₀ s : Shared) (σ : L2.St) (H : Hp), n + k = sizeLine → W i m k σ H → GIY X ca ip s₀ σ H s → tn i s.heap → (∀ b ∈ fp, H b = none) →
      Seg (model X.prog X.w) A R (GYP X ca yl) n s₀ (.forLoop tg (.ref it) body [] X.env) ((model X.prog X.w).den (.forLoop tg (.ref it) body [] X.env))
        (.ret (fun r => ((match r with | .ok f => (.pure f : Sem Flow) | .error e => .raise e).onRaise (cameBack X.env)).wrap K J gd lv) none (gd false) (lv []) c p [] :: fs) s := by
    intro m
    induction m using Nat.strongRecOn with
    | ind m ih =>
      intro i n k s₀ s σ H hn w hI st hf
      have ee : ∀ (n : Nat) (s₀ : Shared) (x : Value) (s' : Shared), X.xe x s' → Seg (model X.prog X.w) A R (GYP X ca yl) n s₀ (.forLoop tg (.ref it) body [] X.env) (outF X.env x)
          (.ret (fun r => ((match r with | .ok f => (.pure f : Sem Flow) | .error e => .raise e).onRaise (cameBack X.env)).wrap K J gd lv) none (gd false) (lv []) c p [] :: fs) s' := fun n s₀ x s' hx => by
        refine seg_wrap ?_
        rw [(gl _).over]
        refine wpAny_bind (wpAny_mono (hp x s' hx) (fun _ s'' hcb => wpAny_theTreesLotGoes ?_) fun y s'' hcb => ?_)
        · exact seg_leaf (.error x) (seg_cameBackY gc kk hcb)
        · exact seg_leaf (.error y) (seg_cameBackY gc kk hcb)
      obtain ⟨pc1, ep1, I1⟩ := hI
      refine segF_turn ?_
      rw [(gl _).over]
      rcases turn i m k σ H w with ⟨stop, qn⟩ | ⟨go, N, hN, step⟩
      · refine wpAny_mono (T.done X rfl rfl rfl hc i _ s σ H (fun _ _ => False) I1 (stat ep1.1 hf) st stop) (fun r s4 ⟨hr, I4⟩ => ?_) fun _ _ z => z.elim
        subst hr
        exact segF_block (kk.ok n k s₀ s4 .next hn ⟨σ, H, ⟨pc1, ep1, I4⟩, qn⟩)
      · refine wpAny_mono (T.item X rfl rfl rfl hc i _ s σ H (fun _ _ => False) I1 (stat ep1.1 hf) st go) (fun r s4 ⟨u, hr, h4⟩ => ?_) fun _ _ z => z.elim
        subst hr
        refine wpAny_mono h4 (fun _ s5 ⟨x, H5, I5, r5, y5, st5, fr5⟩ => ?_) fun _ _ z => z.elim
        have I5' := I5.pinned (stat ep1.1 fr5) (T.obj _ _ st5)
        refine wpAny_mono (hg.run _ s5 σ H5 x u _ I5' r5 (step x H5 y5)) (fun _ s6 ⟨σ6, H6, I6, q6⟩ => ?_) fun e s' hx => ee n s₀ e s' hx
        rw [List.append_assoc] at I6
        have back : ∀ {σ7 : L2.St} {H7 : Hp} {s7 s8 : Shared}, GIY X ca (ip ++ pinsAt fp s5.heap) s8 σ7 H7 s7 → GIY X ca ip s8 σ7 H7 s7 ∧ tn (i + 1) s7.heap ∧ ∀ b ∈ fp, H7 b = none := fun {σ7 H7 s7 s8} ⟨pc7, ep7, I7⟩ => by
          refine ⟨⟨pc7, ep7, I7.pins_of fun q hq => I7.pin q (List.mem_append_right _ ?_)⟩, T.keep _ _ _ st5 fun b hb o e => (I7.pin (b, o) (List.mem_append_right _ (List.mem_append_right _ (List.mem_append_right _ (mem_pinsAt hb e))))).1, fun b hb => ?_⟩
          · rcases List.mem_append.mp hq with z | z
            · exact List.mem_append_left _ z
            · exact List.mem_append_right _ (List.mem_append_left _ z)
          · obtain ⟨o, e, _⟩ := T.obj _ _ st5 b hb
            exact (I7.pin (b, o) (List.mem_append_right _ (List.mem_append_right _ (List.mem_append_right _ (mem_pinsAt hb e))))).2.1
        have ap2 : ∀ p ∈ ip ++ pinsAt fp s5.heap, p.1 ∉ ca := fun p hp => by
          rcases List.mem_append.mp hp with z | z
          · exact ap p z
          · obtain ⟨hb', _⟩ := of_pinsAt z
            rw [← ep.1]
            intro hm
            obtain ⟨q', hq', eq'⟩ := List.mem_map.mp hm
            exact (f2 p.1 hb').2.2.2.2.2 q' (List.mem_append_right _ (List.mem_append_left _ hq')) eq'
        refine hb.run A ca (ip ++ pinsAt fp s5.heap) R n k s₀ _ _ _ _ id id s6 σ6 H6 yl { D with nx := N, ct := N, bk := D.nx } ap2 (gl _) hn ⟨fun n' k' s₀' s7 f hn' hs => ?_, fun n' s₀' x s7 hx => ee n' s₀' x s7 hx⟩ ⟨pc1, ep1, I6⟩ q6
        cases f with
        | next =>
          obtain ⟨σ7, H7, I7, n7⟩ := hs
          obtain ⟨m', hm, w7⟩ := hN k' σ7 H7 n7
          obtain ⟨b1, b2, b3⟩ := back I7
          exact seg_again rfl (ih m' hm (i + 1) n' k' s₀' s7 σ7 H7 hn' w7 b1 b2 b3)
        | cont =>
          obtain ⟨σ7, H7, I7, n7⟩ := hs
          obtain ⟨m', hm, w7⟩ := hN k' σ7 H7 n7
          obtain ⟨b1, b2, b3⟩ := back I7
          exact seg_again rfl (ih m' hm (i + 1) n' k' s₀' s7 σ7 H7 hn' w7 b1 b2 b3)
        | brk =>
          obtain ⟨σ7, H7, I7, q7⟩ := hs
          exact seg_leaf (.ok .next) (kk.ok n' k' s₀' s7 .next hn' ⟨σ7, H7, (back I7).1, q7⟩)
        | ret v =>
          obtain ⟨x7, σ7, H7, I7, r7, q7⟩ := hs
          exact seg_leaf (.ok (.ret v)) (kk.ok n' k' s₀' s7 (.ret v) hn' ⟨x7, σ7, H7, (back I7).1, r7, q7⟩)
  exact loop m0 0 n k s₀ s2 σ H2 hn w0 ⟨pc, ep, I2⟩ st2 fun b hb => (f2 b hb).1⟩
end
end Dn
namespace Dn
open PySem PySem.Spec PyProof.Rows L2 GenW
/-! generators asleep: what does not wake them leaves them as they are -/
theorem no_unsup {M : Model} {Γ : PySem.Ctx} {p : Pos} {t : Sem PySem.Fin} {fs : List Frame} {s s' : Shared} {e : End} (h : Runs M Γ p t fs s e s') : ∀ w, t ≠ .unsupported w := by
  induction h with
  | segRet _ _ ih _ => exact ih
  | segGen _ _ ih _ => exact ih
  | segSuspOut _ _ ih => exact ih
  | segSuspGen _ _ _ _ ih _ => exact ih
  | _ => intro w z; cases z
/-- no generator's frame among the frames -/
def clean : GenState → Prop
  | .suspended _ _ _ _ fs _ => splitAtGen fs = none
  | _ => True
def eclean : End → Prop
  | .ret _ => True
  | .susp _ _ _ _ _ _ fs => splitAtGen fs = none
theorem eclean.st {e : End} (h : eclean e) : clean e.genState := by cases e <;> exact h
theorem split_ret {k : Result → Sem PySem.Fin} {h : Option Value} {g : Bool} {l kp : List Value} {c : Code} {p : Pos} {fs : List Frame} : splitAtGen (.ret k h g l c p kp :: fs) = none ↔ splitAtGen fs = none := by
  show (splitAtGen fs).map _ = none ↔ _
  cases splitAtGen fs <;> simp
theorem split_append : ∀ {a b : List Frame}, splitAtGen a = none → splitAtGen b = none → splitAtGen (a ++ b) = none
  | [], _, _, h => h
  | .ret .. :: a, b, h, h' => split_ret.mpr (split_append (split_ret.mp h) h')
  | .gen .. :: a, b, h, _ => by cases h
abbrev Lk := Nat → Option GenState
structure Locked (G : Lk) (s : Shared) : Prop where
  lock : ∀ i st, G i = some st → ∃ k l c p fs, st = .suspended k l c p fs false ∧ s.gens[i]? = some (.suspended (fun _ => .unsupported "") l c p fs false)
  rest : ∀ i x, G i = none → s.gens[i]? = some x → clean x
def mend (G : Lk) (s : Shared) : Shared := { s with gens := s.gens.mapIdx fun i x => (G i).getD x }
section
variable {G : Lk} {s : Shared} {g : Nat} {x : GenState}
theorem mend_get (i : Nat) : (mend G s).gens[i]? = (s.gens[i]?).map fun x => (G i).getD x := by
  show (s.gens.mapIdx fun i x => (G i).getD x)[i]? = _
  rw [Array.getElem?_mapIdx]
theorem mend_size : (mend G s).gens.size = s.gens.size := by
  show (s.gens.mapIdx fun i x => (G i).getD x).size = _
  rw [Array.size_mapIdx]
theorem mend_free (hG : G g = none) : (mend G s).gens[g]? = s.gens[g]? := by
  rw [mend_get, hG]
  cases s.gens[g]? <;> rfl
theorem setGen_get (i : Nat) : (s.setGen g x).gens[i]? = if g = i then (if i < s.gens.size then some x else none) else s.gens[i]? := by
  show (s.gens.setIfInBounds g x)[i]? = _
  rw [Array.getElem?_setIfInBounds]
  by_cases h : g = i
  · subst h; simp
  · simp [h]
theorem gens_eq {a b : Array GenState} (h : ∀ i : Nat, a[i]? = b[i]?) : ({ s with gens := a } : Shared) = { s with gens := b } := by
  have : a = b := Array.ext_getElem? h
  rw [this]
theorem mend_set (hG : G g = none) : mend G (s.setGen g x) = (mend G s).setGen g x := by
  refine gens_eq (s := s) fun i => ?_
  have h1 : (mend G (s.setGen g x)).gens[i]? = ((mend G s).setGen g x).gens[i]? := by
    rw [mend_get, setGen_get, setGen_get, mend_get, mend_size]
    by_cases h : g = i
    · subst h
      rw [hG]
      by_cases h2 : g < s.gens.size <;> simp [h2]
    · simp [h]
  exact h1
theorem mend_push (hG : G s.gens.size = none) : mend G { s with gens := s.gens.push x } = { mend G s with gens := (mend G s).gens.push x } := by
  refine gens_eq (s := s) fun i => ?_
  have h1 : (mend G { s with gens := s.gens.push x }).gens[i]? = ((mend G s).gens.push x)[i]? := by
    rw [mend_get]
    show (((s.gens.push x)[i]?).map _) = _
    rw [Array.getElem?_push (xs := (mend G s).gens), Array.getElem?_push, mend_size, mend_get]
    by_cases h : i = s.gens.size
    · subst h; simp [hG]
    · simp [h]
  exact h1
theorem Locked.set (h : Locked G s) (hG : G g = none) (hx : clean x) : Locked G (s.setGen g x) where
  lock := fun i st e => by
    obtain ⟨k, l, c, p, fs, e1, e2⟩ := h.lock i st e
    refine ⟨k, l, c, p, fs, e1, ?_⟩
    rw [setGen_get, if_neg (fun z => by subst z; rw [hG] at e; cases e)]
    exact e2
  rest := fun i y e1 e2 => by
    rw [setGen_get] at e2
    by_cases z : g = i
    · rw [if_pos z] at e2
      split at e2
      · cases e2; exact hx
      · cases e2
    · rw [if_neg z] at e2
      exact h.rest i y e1 e2
theorem Locked.top (h : Locked G s) : G s.gens.size = none := by
  cases e : G s.gens.size with
  | none => rfl
  | some st =>
    obtain ⟨_, _, _, _, _, _, e2⟩ := h.lock _ st e
    rw [Array.getElem?_eq_none (Nat.le_refl _)] at e2
    cases e2
theorem Locked.push (h : Locked G s) (hx : clean x) : Locked G { s with gens := s.gens.push x } where
  lock := fun i st e => by
    obtain ⟨k, l, c, p, fs, e1, e2⟩ := h.lock i st e
    refine ⟨k, l, c, p, fs, e1, ?_⟩
    show (s.gens.push x)[i]? = _
    rw [Array.getElem?_push, if_neg (fun z => by subst z; rw [h.top] at e; cases e)]
    exact e2
  rest := fun i y e1 e2 => by
    have e2 : (s.gens.push x)[i]? = some y := e2
    rw [Array.getElem?_push] at e2
    split at e2
    · cases e2; exact hx
    · exact h.rest i y e1 e2
/-- one that is asleep is locked, or among the rest -/
theorem Locked.sees (h : Locked G s) {st : GenState} (e : s.gens[g]? = some st) : (∃ k l c p fs, G g = some (.suspended k l c p fs false) ∧ st = .suspended (fun _ => .unsupported "") l c p fs false) ∨ (G g = none ∧ clean st) := by
  cases eg : G g with
  | none => exact .inr ⟨rfl, h.rest g st eg e⟩
  | some st' =>
    obtain ⟨k, l, c, p, fs, e1, e2⟩ := h.lock g st' eg
    rw [e] at e2
    cases e2
    exact .inl ⟨k, l, c, p, fs, by rw [e1], rfl⟩
theorem Locked.free (h : Locked G s) {st : GenState} (e : s.gens[g]? = some st) (hn : ∀ k l c p fs cl, st ≠ .suspended k l c p fs cl) : G g = none := by
  rcases h.sees e with ⟨k, l, c, p, fs, _, e2⟩ | ⟨e1, _⟩
  · exact absurd e2 (hn _ _ _ _ _ _)
  · exact e1
end
theorem runs_mend {M : Model} {Γ : PySem.Ctx} {p : Pos} {t : Sem PySem.Fin} {fs : List Frame} {s s' : Shared} {e : End} (h : Runs M Γ p t fs s e s') : ∀ G, Locked G s → splitAtGen fs = none → (Locked G s' ∧ eclean e) ∧ Runs M Γ p t fs (mend G s) e (mend G s') := by
  induction h with
  | done => exact fun G L _ => ⟨⟨L, True.intro⟩, .done⟩
  | raise => exact fun G L _ => ⟨⟨L, True.intro⟩, .raise⟩
  | again q _ ih => exact fun G L n => ⟨(ih G L n).1, .again q (ih G L n).2⟩
  | rule _ ih => exact fun G L n => ⟨(ih G L n).1, .rule (ih G L n).2⟩
  | «at» _ ih => exact fun G L n => ⟨(ih G L n).1, .at (ih G L n).2⟩
  | load ho _ ih => exact fun G L n => ⟨(ih G L n).1, .load ho (ih G L n).2⟩
  | update ho _ ih => exact fun G L n => ⟨(ih G ⟨L.lock, L.rest⟩ n).1, .update ho (ih G ⟨L.lock, L.rest⟩ n).2⟩
  | loadIfAlive _ ih => exact fun G L n => ⟨(ih G L n).1, .loadIfAlive (ih G L n).2⟩
  | point _ ih => exact fun G L n => ⟨(ih G L n).1, .point (ih G L n).2⟩
  | alloc _ ih => exact fun G L n => ⟨(ih G ⟨L.lock, L.rest⟩ n).1, .alloc (ih G ⟨L.lock, L.rest⟩ n).2⟩
  | fresh _ ih => exact fun G L n => ⟨(ih G ⟨L.lock, L.rest⟩ n).1, .fresh (ih G ⟨L.lock, L.rest⟩ n).2⟩
  | ask _ ih => exact fun G L n => ⟨(ih G L n).1, .ask (ih G L n).2⟩
  | choose hn _ ih => exact fun G L n => ⟨(ih G ⟨L.lock, L.rest⟩ n).1, .choose hn (ih G ⟨L.lock, L.rest⟩ n).2⟩
  | os _ ih => exact fun G L n => ⟨(ih G ⟨L.lock, L.rest⟩ n).1, .os (ih G ⟨L.lock, L.rest⟩ n).2⟩
  | handled _ ih => exact fun G L n => ⟨(ih G L n).1, .handled (ih G L n).2⟩
  | genState hs _ ih =>
    intro G L n
    refine ⟨(ih G L n).1, ?_⟩
    rcases L.sees hs with ⟨k, l, c, p, fs, e1, e2⟩ | ⟨e1, _⟩
    · subst e2
      exact .genState (st := .suspended k l c p fs false) (by rw [mend_get, hs, e1]; rfl) (ih G L n).2
    · exact .genState (by rw [mend_free e1]; exact hs) (ih G L n).2
  | stack _ ih => exact fun G L n => ⟨(ih G L n).1, .stack (ih G L n).2⟩
  | thread _ ih => exact fun G L n => ⟨(ih G L n).1, .thread (ih G L n).2⟩
  | newGen _ ih =>
    intro G L n
    have q := ih G (L.push (show clean (.fresh _) from True.intro)) n
    refine ⟨q.1, .newGen ?_⟩
    rw [mend_size, ← mend_push L.top]
    exact q.2
  | call _ _ ih1 ih2 =>
    intro G L n
    obtain ⟨⟨L1, _⟩, r1⟩ := ih1 G L rfl
    obtain ⟨q, r2⟩ := ih2 G L1 n
    exact ⟨q, .call r1 r2⟩
  | callSusp _ ih =>
    intro G L n
    obtain ⟨⟨L1, c1⟩, r1⟩ := ih G L rfl
    exact ⟨⟨L1, split_append c1 (split_ret.mpr rfl)⟩, .callSusp r1⟩
  | yield => exact fun G L n => ⟨⟨L, rfl⟩, .yield⟩
  | resumeFresh hs _ hq _ ih1 ih2 =>
    intro G L n
    have hG := L.free hs (fun _ _ _ _ _ _ z => by cases z)
    obtain ⟨⟨L1, c1⟩, r1⟩ := ih1 G (L.set hG (show clean .running from True.intro)) rfl
    obtain ⟨q, r2⟩ := ih2 G (L1.set hG c1.st) n
    rw [mend_set hG] at r1 r2
    exact ⟨q, .resumeFresh (by rw [mend_free hG]; exact hs) r1 hq r2⟩
  | resumeSuspended hs hr hq _ ih1 ih2 =>
    intro G L n
    rcases L.sees hs with ⟨k, l, c, p, fs, e1, e2⟩ | ⟨hG, hc⟩
    · cases e2
      exact absurd rfl (no_unsup hr "")
    · obtain ⟨⟨L1, c1⟩, r1⟩ := ih1 G (L.set hG (show clean .running from True.intro)) hc
      obtain ⟨q, r2⟩ := ih2 G (L1.set hG c1.st) n
      rw [mend_set hG] at r1 r2
      exact ⟨q, .resumeSuspended (by rw [mend_free hG]; exact hs) r1 hq r2⟩
  | resumeJustStarted hs hv _ ih =>
    intro G L n
    exact ⟨(ih G L n).1, .resumeJustStarted (by rw [mend_free (L.free hs (fun _ _ _ _ _ _ z => by cases z))]; exact hs) hv (ih G L n).2⟩
  | resumeThrowFresh hs _ ih =>
    intro G L n
    have hG := L.free hs (fun _ _ _ _ _ _ z => by cases z)
    obtain ⟨q, r⟩ := ih G (L.set hG (show clean .finished from True.intro)) n
    rw [mend_set hG] at r
    exact ⟨q, .resumeThrowFresh (by rw [mend_free hG]; exact hs) r⟩
  | resumeRunning hs _ ih =>
    intro G L n
    exact ⟨(ih G L n).1, .resumeRunning (by rw [mend_free (L.free hs (fun _ _ _ _ _ _ z => by cases z))]; exact hs) (ih G L n).2⟩
  | resumeFinished hs _ ih =>
    intro G L n
    exact ⟨(ih G L n).1, .resumeFinished (by rw [mend_free (L.free hs (fun _ _ _ _ _ _ z => by cases z))]; exact hs) (ih G L n).2⟩
  | segRet _ _ ih1 ih2 =>
    intro G L n
    obtain ⟨⟨L1, _⟩, r1⟩ := ih1 G L rfl
    obtain ⟨q, r2⟩ := ih2 G L1 (split_ret.mp n)
    exact ⟨q, .segRet r1 r2⟩
  | segGen _ _ _ _ => intro G L n; cases n
  | segSuspOut hn _ ih =>
    intro G L n
    obtain ⟨⟨L1, c1⟩, r1⟩ := ih G L rfl
    exact ⟨⟨L1, split_append c1 hn⟩, .segSuspOut hn r1⟩
  | segSuspGen hn _ _ _ _ _ => intro G L n; rw [hn] at n; cases n
theorem wakes_mend {M : Model} {Γ : PySem.Ctx} {p : Pos} {g : Nat} {r : Resume} {s s' : Shared} {res : GenResult} {G : Lk} (L : Locked G s) (h : Wakes M Γ p g r s res s') : Locked G s' ∧ Wakes M Γ p g r (mend G s) res (mend G s') := by
  cases hs : s.gens[g]? with
  | none => unfold Wakes at h; rw [hs] at h; exact h.elim
  | some st =>
    rcases L.sees hs with ⟨k, l, c, p1, fs, e1, e2⟩ | ⟨hG, hc⟩
    · subst e2
      unfold Wakes at h
      rw [hs] at h
      obtain ⟨e₁, s₁, hr, _⟩ := h
      exact absurd rfl (no_unsup hr "")
    · have hs' : (mend G s).gens[g]? = some st := by rw [mend_free hG]; exact hs
      unfold Wakes at h ⊢
      rw [hs] at h
      rw [hs']
      cases st with
      | fresh c =>
        cases r with
        | throw x =>
          obtain ⟨h1, h2⟩ := h
          subst h2
          exact ⟨L.set hG True.intro, h1, mend_set hG⟩
        | send v =>
          cases v with
          | none =>
            obtain ⟨e₁, s₁, hr, hq, h1, h2⟩ := h
            subst h2
            obtain ⟨⟨L1, c1⟩, r1⟩ := runs_mend hr G (L.set hG (show clean .running from True.intro)) rfl
            rw [mend_set hG] at r1
            exact ⟨L1.set hG c1.st, e₁, _, r1, hq, h1, mend_set hG⟩
          | _ =>
            obtain ⟨h1, h2⟩ := h
            subst h2
            exact ⟨L, h1, rfl⟩
      | suspended k l c p1 fs cl =>
        obtain ⟨e₁, s₁, hr, hq, h1, h2⟩ := h
        subst h2
        obtain ⟨⟨L1, c1⟩, r1⟩ := runs_mend hr G (L.set hG (show clean .running from True.intro)) hc
        rw [mend_set hG] at r1
        exact ⟨L1.set hG c1.st, e₁, _, r1, hq, h1, mend_set hG⟩
      | running =>
        obtain ⟨h1, h2⟩ := h
        subst h2
        exact ⟨L, h1, rfl⟩
      | finished =>
        obtain ⟨h1, h2⟩ := h
        subst h2
        exact ⟨L, h1, rfl⟩
theorem wp_mend {α : Type} (M : Model) (Γ : PySem.Ctx) (G : Lk) (t : Sem α) : ∀ (Q : α → Pos → Shared → Prop) (E : Value → Pos → Shared → Prop) (p : Pos) (s : Shared), Locked G s → PySem.Sem.wp M Γ t Q E p s →
    PySem.Sem.wp M Γ t (fun a p' s1 => ∃ s', Locked G s' ∧ s1 = mend G s' ∧ Q a p' s') (fun e p' s1 => ∃ s', Locked G s' ∧ s1 = mend G s' ∧ E e p' s') p (mend G s) := by
  induction t with
  | pure a => intro Q E p s L h; exact ⟨s, L, rfl, h⟩
  | raise e => intro Q E p s L h; exact ⟨s, L, rfl, h⟩
  | unsupported _ => intro Q E p s _ h; exact h
  | finish _ => intro Q E p s _ h; exact h
  | rule _ k ih => intro Q E p s L h; exact ih () Q E p s L h
  | «at» p' k ih => intro Q E p s L h; exact ih () Q E p' s L h
  | load a _ k ih => intro Q E p s L h; obtain ⟨o, ho, h⟩ := h; exact ⟨o, ho, ih o Q E p s L h⟩
  | update a _ f k ih => intro Q E p s L h; exact ⟨h.1, ih () Q E p { s with heap := s.heap.update a f } ⟨L.lock, L.rest⟩ h.2⟩
  | loadIfAlive a k ih => intro Q E p s L h; exact ih _ Q E p s L h
  | point _ k ih => intro Q E p s L h; exact ih () Q E p s L h
  | register _ _ => intro Q E p s _ h; exact h
  | alloc o k ih => intro Q E p s L h; exact ih _ Q E p { s with heap := s.heap.push o } ⟨L.lock, L.rest⟩ h
  | fresh k ih => intro Q E p s L h; exact ih _ Q E p { s with toks := s.toks + 1 } ⟨L.lock, L.rest⟩ h
  | ask k ih => intro Q E p s L h; exact ih _ Q E p s L h
  | choose src m k ih => intro Q E p s L h; exact ⟨h.1, ih _ Q E p { s with drawn := s.drawn.bump src } ⟨L.lock, L.rest⟩ h.2⟩
  | os q _ k ih => intro Q E p s L h; exact ih _ Q E p { s with os := (Os.step s.os q).1 } ⟨L.lock, L.rest⟩ h
  | call c hd _ _ k ih => intro Q E p s L h; obtain ⟨r, s', hr, h⟩ := h; obtain ⟨⟨L1, _⟩, r1⟩ := runs_mend hr G L rfl; exact ⟨r, _, r1, ih r Q E p s' L1 h⟩
  | handled own k ih => intro Q E p s L h; exact ih _ Q E p s L h
  | genState g k ih =>
    intro Q E p s L h
    obtain ⟨st, hs, h⟩ := h
    rcases L.sees hs with ⟨k, l, c, p1, fs, e1, e2⟩ | ⟨e1, _⟩
    · subst e2
      exact ⟨.suspended k l c p1 fs false, by rw [mend_get, hs, e1]; rfl, ih _ Q E p s L h⟩
    · exact ⟨st, by rw [mend_free e1]; exact hs, ih _ Q E p s L h⟩
  | newGen c k ih =>
    intro Q E p s L h
    have q := ih _ Q E p { s with gens := s.gens.push (.fresh c) } (L.push (show clean (.fresh _) from True.intro)) h
    show PySem.Sem.wp M Γ (k (mend G s).gens.size) _ _ p { mend G s with gens := (mend G s).gens.push (.fresh c) }
    rw [mend_size, ← mend_push L.top]
    exact q
  | resume g r _ k ih => intro Q E p s L h; obtain ⟨res, s', hw, h⟩ := h; obtain ⟨L1, w1⟩ := wakes_mend L hw; exact ⟨res, _, w1, ih res Q E p s' L1 h⟩
  | yield _ _ _ _ => intro Q E p s _ h; exact h
  | stack k ih => intro Q E p s L h; exact ih _ Q E p s L h
  | fork _ _ => intro Q E p s _ h; exact h
  | thread k ih => intro Q E p s L h; exact ih _ Q E p s L h
  | await _ _ _ _ _ => intro Q E p s _ h; exact h
theorem wpAny_mend {α : Type} {M : Model} {A : Around} {s : Shared} {t : Sem α} {Q : α → Shared → Prop} {E : Value → Shared → Prop} {G : Lk} (L : Locked G s) (h : wpAny M A t Q E s) :
    wpAny M A t (fun a s1 => ∃ s', Locked G s' ∧ s1 = mend G s' ∧ Q a s') (fun e s1 => ∃ s', Locked G s' ∧ s1 = mend G s' ∧ E e s') (mend G s) := fun Γ p hΓ => wp_mend M Γ G t _ _ p s L (h Γ p hΓ)
/-- all that are asleep are locked -/
def locks (s : Shared) : Lk := fun i => match s.gens[i]? with
  | some (.suspended k l c p fs cl) => some (.suspended k l c p fs cl)
  | _ => none
def lulled : GenState → GenState
  | .suspended _ l c p fs cl => .suspended (fun _ => .unsupported "") l c p fs cl
  | x => x
def lull (s : Shared) : Shared := { s with gens := s.gens.map lulled }
theorem lull_get {s : Shared} (i : Nat) : (lull s).gens[i]? = (s.gens[i]?).map lulled := by
  show (s.gens.map lulled)[i]? = _
  rw [Array.getElem?_map]
theorem bare_at {s : Shared} (hb : AllBare s.gens) {i : Nat} {x : GenState} (h : s.gens[i]? = some x) : x.bare = true := hb x (Array.mem_of_getElem? h)
theorem lull_bare {s : Shared} (hb : AllBare s.gens) : AllBare (lull s).gens := fun y hy => by
  obtain ⟨i, hi, e⟩ := Array.mem_iff_getElem.mp hy
  have q : (lull s).gens[i]? = some y := by rw [Array.getElem?_eq_getElem hi, e]
  rw [lull_get] at q
  cases e2 : s.gens[i]? with
  | none => rw [e2] at q; cases q
  | some x =>
    rw [e2] at q
    cases q
    have := bare_at hb e2
    cases x <;> exact this
theorem lull_locked {s : Shared} (hb : AllBare s.gens) : Locked (locks s) (lull s) where
  lock := fun i st e => by
    unfold locks at e
    split at e
    · rename_i k l c p fs cl h
      cases e
      have hc : cl = false := by have := bare_at hb h; simpa [GenState.bare] using this
      subst hc
      exact ⟨k, l, c, p, fs, rfl, by rw [lull_get, h]; rfl⟩
    · cases e
  rest := fun i x e1 e2 => by
    rw [lull_get] at e2
    cases h : s.gens[i]? with
    | none => rw [h] at e2; cases e2
    | some y =>
      rw [h] at e2
      cases e2
      cases y with
      | suspended k l c p fs cl => unfold locks at e1; rw [h] at e1; cases e1
      | _ => exact True.intro
theorem mend_lull {s : Shared} : mend (locks s) (lull s) = s := by
  refine gens_eq (s := s) (b := s.gens) fun i => ?_
  have h1 : (mend (locks s) (lull s)).gens[i]? = s.gens[i]? := by
    rw [mend_get, lull_get]
    unfold locks
    cases h : s.gens[i]? with
    | none => rfl
    | some y => cases y <;> simp [lulled]
  exact h1
theorem mend_bare {G : Lk} {s : Shared} (L : Locked G s) (hb : AllBare s.gens) : AllBare (mend G s).gens := fun y hy => by
  obtain ⟨i, hi, e⟩ := Array.mem_iff_getElem.mp hy
  have q : (mend G s).gens[i]? = some y := by rw [Array.getElem?_eq_getElem hi, e]
  rw [mend_get] at q
  cases e2 : s.gens[i]? with
  | none => rw [e2] at q; cases q
  | some x =>
    rw [e2] at q
    have q : (G i).getD x = y := by simpa using q
    cases eg : G i with
    | none => rw [eg] at q; subst q; exact bare_at hb e2
    | some st =>
      rw [eg] at q
      subst q
      obtain ⟨k, l, c, p, fs, e1, _⟩ := L.lock i st eg
      subst e1
      rfl
theorem mend_kept {s s' : Shared} (L : Locked (locks s) s') {g : Nat} {k : Resume → Sem PySem.Fin} {l : List Value} {c : Code} {p : Pos} {fs : List Frame} {cl : Bool} (h : s.gens[g]? = some (.suspended k l c p fs cl)) : (mend (locks s) s').gens[g]? = s.gens[g]? := by
  have eg : locks s g = some (.suspended k l c p fs cl) := by unfold locks; rw [h]
  obtain ⟨_, _, _, _, _, _, e2⟩ := L.lock g _ eg
  rw [mend_get, e2, eg, h]
  rfl
/-- what stands does not hang on the generators that are asleep -/
def Mends (E : Value → Shared → Prop) : Prop := ∀ (G : Lk) (e : Value) (s : Shared), Locked G s → E e s → E e (mend G s)
/-- it is run while generators are asleep -/
theorem wpAny_lull {α : Type} {M : Model} {A : Around} {s : Shared} {t : Sem α} {Q : α → Shared → Prop} {E : Value → Shared → Prop} (hb : AllBare s.gens) (hE : Mends E)
    (h : wpAny M A t (fun a s' => Locked (locks s) s' → Q a (mend (locks s) s')) E (lull s)) : wpAny M A t Q E s := by
  have q := wpAny_mend (lull_locked hb) h
  rw [mend_lull] at q
  exact wpAny_mono q (fun a s1 ⟨s', L, e, z⟩ => e ▸ z L) fun x s1 ⟨s', L, e, z⟩ => e ▸ hE _ _ _ L z
end Dn
namespace Dn
open PySem PySem.Spec PyProof.Rows L2 GenW
/-! a generator def, woken by one who does something at each item -/
def Asleep (gs : GenState) : Prop := ∃ k l c p fs, gs = .suspended k l c p fs false
theorem Asleep.bare {gs : GenState} (h : Asleep gs) : gs.bare = true := by
  obtain ⟨_, _, _, _, _, rfl⟩ := h
  rfl
theorem mend_asleep {s s' : Shared} (L : Locked (locks s) s') {g : Nat} {gs : GenState} (h : s.gens[g]? = some gs) (ha : Asleep gs) : (mend (locks s) s').gens[g]? = some gs := by
  obtain ⟨_, _, _, _, _, rfl⟩ := ha
  rw [mend_kept L h, h]
def GoN (M : Model) (A : Around) (R : GenEnd) (Y : Protocol) (gs : GenState) : Nat → Resume → Shared → Prop
  | 0 => fun _ _ => False
  | m + 1 => fun r s => gs.Goes M A R Y m r s
theorem wpAny_resumeS {M : Model} {A : Around} {R : GenEnd} {Y : Protocol} {n : Nat} {E : Value → Shared → Prop} {s : Shared} {g : Nat} {gs : GenState}
    {r : Resume} {l : List Value} {α : Type} {k : GenResult → Sem α} {Q : α → Shared → Prop} (hg : s.gens[g]? = some gs)
    (hgo : gs.Goes M A R Y n r (s.setGen g .running))
    (hR : ∀ x s₁, R n (s.setGen g .running) x s₁ → wpAny M A (k (End.ret x).result) Q E (s₁.setGen g .finished))
    (hY : ∀ v s₁ gs', Asleep gs' → Y (n - 1) (s.setGen g .running) v s₁ (GoN M A R Y gs' n) →
      wpAny M A (k (.yielded v)) Q E (s₁.setGen g gs')) :
    wpAny M A (.resume g r l k) Q E s := by
  intro Γ p hΓ
  rw [PySem.Sem.wp_resume]
  have hB : ∀ c, (Γ.wake c p).Woken A := fun c => hΓ.wake c p
  have fin : ∀ e₁ s₁, SegEnd R Y n (Seg.next M A R Y n) (s.setGen g .running) e₁ s₁ →
      PySem.Sem.wp M Γ (k e₁.result) (fun a _ s' => Q a s') (fun e _ s' => E e s') p (s₁.setGen g e₁.genState) := by
    intro e₁ s₁ he
    cases e₁ with
    | ret x => exact hR x s₁ he Γ p hΓ
    | susp v g₀ l₀ k₀ c₀ p₀ fs₀ =>
      refine hY v s₁ _ ?_ ?_ Γ p hΓ
      · have hq : (!(g₀ || fs₀.any Frame.guarded)) = true := he.1
        have hq' : (g₀ || fs₀.any Frame.guarded) = false := by simpa using hq
        refine ⟨k₀, l₀, c₀, p₀, fs₀, ?_⟩
        show GenState.suspended k₀ l₀ c₀ p₀ fs₀ (g₀ || fs₀.any Frame.guarded) = _
        rw [hq']
      · cases n with
        | zero => exact he.2
        | succ m => exact he.2
  have hqt : ∀ e₁ s₁, SegEnd R Y n (Seg.next M A R Y n) (s.setGen g .running) e₁ s₁ → e₁.quiet = true := by
    intro e₁ s₁ he
    cases e₁ with
    | ret x => rfl
    | susp v g₀ l₀ k₀ c₀ p₀ fs₀ => exact he.1
  cases gs with
  | fresh c =>
    obtain ⟨rfl, hs⟩ := hgo
    obtain ⟨e₁, s₁, hr, he⟩ := seg_iff.mp hs (Γ.wake c p) p rfl (hB c)
    exact ⟨_, _, by unfold Wakes; rw [hg]; exact ⟨e₁, s₁, hr, hqt e₁ s₁ he, rfl, rfl⟩, fin e₁ s₁ he⟩
  | suspended k₀ l₀ c₀ p₀ fs₀ cl =>
    obtain ⟨e₁, s₁, hr, he⟩ := seg_iff.mp hgo (Γ.wake c₀ p) p₀ rfl (hB c₀)
    exact ⟨_, _, by unfold Wakes; rw [hg]; exact ⟨e₁, s₁, hr, hqt e₁ s₁ he, rfl, rfl⟩, fin e₁ s₁ he⟩
  | running => exact hgo.elim
  | finished => exact hgo.elim
section
variable {P : Program} {w : World} {A : Around} {E : Value → Shared → Prop} {s : Shared}
theorem next_genS {a : Addr} {g n : Nat} {gs : GenState} {F : Nat → Shared → Shared → Prop} {Y : Protocol} {Q : Option Value → Shared → Prop} (hh : A.handled = none)
    (hl : s.heap.NoLimit) (hroom : A.depth < recursionLimit) (hg : s.heap.IsGen a g) (hgs : s.gens[g]? = some gs)
    (hgo : gs.Goes (model P w) A.in1 (fun n s₀ r s₁ => (r = .ok (.ret .none) ∨ r = .ok .next) ∧ F n s₀ s₁) Y n (.send .none) (s.setGen g .running))
    (hY : ∀ v s₁ gs', Asleep gs' → Y (n - 1) (s.setGen g .running) v s₁ (GoN (model P w) A.in1 (fun n s₀ r s₁ => (r = .ok (.ret .none) ∨ r = .ok .next) ∧ F n s₀ s₁) Y gs' n) → Q (some v) (s₁.setGen g gs'))
    (hP : ∀ s₁, F n (s.setGen g .running) s₁ → ∀ h', (∀ b o, s₁.heap.get? b = some o → h'.get? b = some o) → Q none { s₁.setGen g .finished with heap := h' }) :
    wpAny (model P w) A (pyNext (.ref a)) Q E s := by
  unfold pyNext
  refine wpAny_bind (wpAny_attempt (wpAny_callSpecial?_slot (name := Str.ofString "__next__") hg.typeIs slot_gen_next
    (wpAny_call_entry slot_gen_next hg.typeIs entry_gen_next ?_ (args_gen_next _))))
  show wpAny _ A.in1 (Builtin.Generator.genWake (.ref a) (.send .none)) _ _ s
  unfold Builtin.Generator.genWake
  refine wpAny_bind (wpAny_holding (wpAny_genNumber hg (wpAny_bind (wpAny_genState hgs ?_))))
  cases gs with
  | running => exact hgo.elim
  | finished => exact hgo.elim
  | _ =>
    refine wpAny_bind (wpAny_roomToWake hl hroom ?_)
    show wpAny _ A.in1 (.resume g (.send .none) [] _) _ _ s
    refine wpAny_resumeS hgs hgo (fun x s₁ hx => ?_) (fun v s₁ gs' hb hv => ?_)
    · obtain ⟨hr, hp⟩ := hx
      have hres : End.result (.ret x) = .returned .none := by
        rcases hr with hr | hr <;> rw [hr] <;> rfl
      first | rw [hres] | simp only [hres]
      show wpAny _ A.in1 (newExc (.type "StopIteration") [] >>= _) _ _ _
      refine wpAny_bind ?_
      simp only [newExc, newTuple]
      refine wpAny_bind (wpAny_newObj_type ?_ (by size_fits))
      refine wpAny_bind (m := firstArgMember _ _) (wpAny_of_eq (a := Value.none) (by first | rfl | (simp only [firstArgMember]; rfl)) ?_)
      refine wpAny_newObj_type ?_ (by size_fits)
      simp only [raiseNew]
      refine wpAny_bind (wpAny_bind (wpAny_handled ?_))
      first | rw [show A.in1.handled = none from hh] | rw [hh]
      refine wpAny_throw ?_
      refine wpAny_bind (wpAny_isInstance (T := "StopIteration") (b := true) ⟨_, Heap.get?_push_size _ rfl, rfl⟩ isSubtype_stop ?_)
      exact wpAny_pure (hP s₁ hp _ fun b o hb => Heap.get?_push_of_some _ (Heap.get?_push_of_some _ hb))
    · exact wpAny_pure ⟨v, rfl, wpAny_pure (hY v s₁ gs' hb hv)⟩
end
/-- what stands when the one hands over to the other; ca: where the consumer's own objects stand -/
structure Hand (P : Program) (w : World) (outer : List Env) (H : Hp) (s : Shared) (ca : List Addr) (pc : List (Addr × Obj)) (H' : Hp) (s' : Shared) : Prop where
  os : s'.os = s.os
  bare : AllBare s'.gens
  un : Un (frs outer) [] H H' s.heap s'.heap
  hok : HOk P w H' s'.heap
  ca : pc.map (·.1) = ca
  pin : ∀ p ∈ pc, s'.heap.get? p.1 = some p.2 ∧ H' p.1 = none ∧ p.1 ∉ frs outer ∧ ∀ v, p.2.data ≠ .cell v
abbrev SpY := List V → YlK → (Nat → Hp → Prop) → Hp → Prop
/-- an item is handed out; gp: the generator's own objects -/
def YItY (P : Program) (w : World) (outer : List Env) (H : Hp) (s : Shared) (ca : List Addr) (a : Addr) (g : Nat) (yl : YlK) : Protocol := fun n s₀ v s1 kap =>
  ∃ k x H1 kk pc, ∃ gp : List (Addr × Obj), n + 1 + k = sizeLine ∧ (∀ p ∈ pc, s₀.heap.get? p.1 = some p.2) ∧ RelV x v ∧ yl k x H1 kk ∧ Hand P w outer H s ca pc H1 s1 ∧ (∀ h : Heap, (∀ p ∈ gp, h.get? p.1 = some p.2) → h.IsGen a g) ∧
    (∀ p ∈ gp, s1.heap.get? p.1 = some p.2 ∧ H1 p.1 = none ∧ p.1 ∉ ca ∧ p.1 ∉ frs outer ∧ ∀ v, p.2.data ≠ .cell v) ∧
    ∀ s' H' pc', Hand P w outer H s ca pc' H' s' → (∀ p ∈ gp, s'.heap.get? p.1 = some p.2 ∧ H' p.1 = none) → kk H' → kap (.send .none) s'
def FinY (P : Program) (w : World) (outer : List Env) (H : Hp) (s : Shared) (ca : List Addr) (fin : Nat → Hp → Prop) : Nat → Shared → Shared → Prop := fun n s₀ s1 =>
  ∃ k H1 pc, (∀ p ∈ pc, s₀.heap.get? p.1 = some p.2) ∧ Hand P w outer H s ca pc H1 s1 ∧ fin k H1
def EndY (P : Program) (w : World) (outer : List Env) (H : Hp) (s : Shared) (ca : List Addr) (fin : Nat → Hp → Prop) : GenEnd := fun n s₀ r s1 =>
  (r = .ok (.ret .none) ∨ r = .ok .next) ∧ FinY P w outer H s ca fin n s₀ s1
structure GMadeY (P : Program) (w : World) (k : Nat) (outer : List Env) (H : Hp) (s : Shared) (sp : YlK → (Nat → Hp → Prop) → Hp → Prop) (a : Addr) (g : Nat) (c : Code) (s' : Shared) : Prop where
  lo : s.heap.objs.size ≤ a
  hi : a < s'.heap.objs.size
  gen : s'.heap.IsGen a g
  st : s'.gens[g]? = some (.fresh c)
  os : s'.os = s.os
  bare : AllBare s'.gens
  lim : s'.heap.NoLimit
  keep : ∀ b o, s.heap.get? b = some o → s'.heap.get? b = some o
  wake : ∀ (A : Around) (yl : YlK) (fin : Nat → Hp → Prop) (ca : List Addr) (pc : List (Addr × Obj)) (s2 : Shared) (H2 : Hp), RG k A → A.frames = some outer → Hand P w outer H s ca pc H2 s2 → (∀ b ∈ ca, s'.heap.objs.size ≤ b) →
    (∀ b o, s.heap.objs.size ≤ b → s'.heap.get? b = some o → s2.heap.get? b = some o ∧ H2 b = none) → sp yl fin H2 →
    Seg (model P w) A (EndY P w outer H s ca fin) (YItY P w outer H s ca a g yl) sizeLine s2 c ((model P w).den c) [] s2
def GFnY (P : Program) (w : World) (K : PySem.W.Frag) (mg : Str → Option Value) (base : Heap) (k : Nat) (f : Addr) (np : Nat) (sp : SpY) : Prop :=
  ∀ (A : Around) (out : List Env) (s : Shared) (H : Hp) (zs : List Value) (vs : List V), RG k A → Env0 P w K mg base A out s H → Vals vs zs → vs.length = np →
    codeAny (model P w) A (.call (.ref f) ⟨zs, []⟩) (fun r s' => match r with
      | .ok (.ret u) => ∃ a g c, u = .ref a ∧ GMadeY P w k out H s (sp vs) a g c s'
      | _ => False) s
/-- a frame without cells, at a later time -/
theorem Inv.again {X : Cx} {pins pins' : List (Addr × Obj)} {σ : L2.St} {H H' : Hp} {s s' : Shared} (I : Inv X pins σ H s) (hc : ∀ x, X.env.cells.lookup x = none) (hos : s'.os = X.s_0.os) (hb : AllBare s'.gens)
    (un : Un X.fs X.ex X.H_0 H' X.s_0.heap s'.heap) (hok : HOk X.prog X.w H' s'.heap) (hl : ∀ o, s.heap.get? X.env.locals = some o → s'.heap.get? X.env.locals = some o) (hf : H' X.env.locals = none)
    (hp : ∀ p ∈ X.pn ++ pins', s'.heap.get? p.1 = some p.2 ∧ H' p.1 = none ∧ p.1 ≠ X.env.locals ∧ p.1 ∉ X.fs ∧ ∀ v, p.2.data ≠ .cell v) : Inv X pins' σ H' s' where
  ok := I.ok
  os := hos
  bare := hb
  base := un
  loc := by
    obtain ⟨m, ⟨o, es, ep, h1, h2⟩, h3⟩ := I.loc
    refine ⟨m, ⟨o, es, ep, hl o h1, h2⟩, fun i x v a b c => ?_⟩
    obtain ⟨u, r, l⟩ := h3 i x v a b c
    refine ⟨u, r, ?_⟩
    rcases l with l | ⟨_, c', e, _⟩
    · exact .inl l
    · rw [hc] at e; cases e
  cell := fun x c e => by rw [hc] at e; cases e
  free := hf
  freeC := fun x c e => by rw [hc] at e; cases e
  pin := hp
  hok := hok
  len := I.len
theorem Inv.frs_lt {X : Cx} {pins : List (Addr × Obj)} {σ : L2.St} {H : Hp} {s : Shared} (I : Inv X pins σ H s) {b : Addr} (hb : b ∈ X.fs) : b < X.s_0.heap.objs.size := by
  obtain ⟨_, o₀, e₀, _⟩ := I.ok.funs.mem hb
  exact Heap.lt_size e₀
section
variable {P : Program} {w : World} {K : PySem.W.Frag} {mg : Str → Option Value} {base : Heap} {k : Nat} {f : Addr}
abbrev E00g : XK := fun _ _ _ => False
theorem gfnY_of {x qual : Str} {st : Stmt} {fd : FuncData} {N ps : List Str} {sp : SpY} (F : Fun K x qual st f fd) (S : GScope N ps (defScope st)) (hbi : Binds K fd ps []) (hnc : ∀ n, cellsFrom n (defScope st).names [] = [])
    (hbody : ∀ (cdv : Value) (A : Around) (out : List Env) (s : Shared) (H : Hp) (vs : List V) (pn : List (Addr × Obj)), RG k (A.deeper (envOfC qual (defScope st) s.heap.objs.size f cdv)) → vs.length = ps.length →
      ∃ t, GSsY (gcxOf P w K mg base N qual (defScope st) f cdv A out s H E00g pn) (defBody st) t ∧ ∀ yl fin H2, sp vs yl fin H2 → t yl { nx := fun k _ H' => fin k H', rt := fun k v H' => v = .non ∧ fin k H' } 0 (L2.start N vs) H2) :
    GFnY P w K mg base (k + 1) f ps.length sp := by
  intro A out s H zs vs hr env hv hl
  obtain ⟨oc, od, kV, doc, pm, an, cdv, ct, osl, hfd, lk, hcd⟩ := F.ex
  have hzl : zs.length = ps.length := hv.length.symm.trans hl
  have KX : K.In s.heap := env.mod.kin.keeps fun b o q => (env.bs b o q).1
  have lim : s.heap.NoLimit := env.mod.nolimit.keeps fun b o q => (env.bs b o q).1
  have hk1 : ∀ y ∈ ps.zip zs, (defScope st).names.lookup y.1 = some .local ∨ ((defScope st).names.lookup y.1 = some .cell ∧ ((cellsFrom (s.heap.objs.size + 1) (defScope st).names []).lookup y.1).isSome = true) := by
    rintro ⟨n, v⟩ hy
    exact (S.par n (List.of_mem_zip hy).1).imp id fun q => ⟨q, PySem.W.cellsFrom_some _ _ _ (.inl q)⟩
  have hbb := hbi s zs KX (by simpa using hzl)
  rw [List.append_nil] at hbb
  subst hfd
  refine codeAny_call_generator hr.rm.depth (KX _ _ lk) rfl S.co S.gen rfl (PySem.W.codeRec_of KX hcd) (hbb _ _ _ _ ?_)
  refine wpAny_newFunctionEnv_cells S.kind hk1 fun en hen s1 cl => ?_
  subst hen
  have lim1 : s1.heap.NoLimit := lim.keeps cl.toInCall.keep
  refine ⟨lim1, ?_⟩
  obtain ⟨h1, tk, es1, _⟩ := cl.done
  have os1 : s1.os = s.os := by rw [es1]
  have ge1 : s1.gens = s.gens := by rw [es1]
  have lt1 : s.heap.objs.size < s1.heap.objs.size := cl.toInCall.ns.lt
  have kp1 : ∀ b o, s.heap.get? b = some o → s1.heap.get? b = some o := cl.toInCall.keep
  have main : ∀ (go : Obj) (nm qn : Value) (tk2 : Nat), go.cls = .type "generator" → go.data = .fields #[.int s1.gens.size 0, nm, qn] → go.slots = #[] → (∀ h : Heap, (h.push go).get? h.objs.size = some go) →
      GMadeY P w (k + 1) out H s (sp vs) s1.heap.objs.size s1.gens.size (.func (defBody st) (envOfC qual (defScope st) s.heap.objs.size f cdv)) { s1 with gens := s1.gens.push (.fresh (.func (defBody st) (envOfC qual (defScope st) s.heap.objs.size f cdv))), toks := tk2, heap := s1.heap.push go } := by
    intro go nm qn tk2 hgc hgd hgs hgp
    have isg : ∀ h : Heap, h.get? s1.heap.objs.size = some go → h.IsGen s1.heap.objs.size s1.gens.size := fun h e => ⟨go, nm, qn, e, hgc, hgd, hgs⟩
    have hp := hgp s1.heap
    refine ⟨Nat.le_of_lt lt1, by show _ < (s1.heap.push _).objs.size; rw [Heap.size_push]; exact Nat.lt_succ_self _, isg _ hp, Array.getElem?_push_size .., os1, AllBare.push (by rw [ge1]; exact env.bare) rfl, lim1.keeps fun b o e => Heap.get?_push_of_some _ e, fun b o e => Heap.get?_push_of_some _ (kp1 b o e), ?_⟩
    intro Aw yl fin ca pc s2 H2 hrw hfr hand hca hown hsp
    have hca : ∀ b ∈ ca, s1.heap.objs.size + 1 ≤ b := fun b hb => by
      have q := hca b hb
      have q : (s1.heap.push go).objs.size ≤ b := q
      rw [Heap.size_push] at q
      exact q
    have e0w : Env0 P w K mg base Aw out s H := ⟨hfr, env.mod, env.bs, env.bsz, env.funs, env.frf, env.hok, env.bare⟩
    obtain ⟨t, ht, hq⟩ := hbody cdv Aw out s H vs [(s1.heap.objs.size, go)] (hrw.down _) hl
    have I1 : Inv (gcxOf P w K mg base N qual (defScope st) f cdv Aw out s H E00g []) [] (L2.start N vs) H s1 := inv_startG S hrw.rm.hd e0w hl hv cl
    have noc : ∀ y, (envOfC qual (defScope st) s.heap.objs.size f cdv).cells.lookup y = none := fun y => by
      show (cellsFrom (s.heap.objs.size + 1) (defScope st).names []).lookup y = none
      rw [hnc]; rfl
    have hea : s2.heap.get? s1.heap.objs.size = some go ∧ H2 s1.heap.objs.size = none := hown _ go (Nat.le_of_lt lt1) hp
    obtain ⟨m1, hns, _⟩ := I1.loc
    obtain ⟨o1, es, ep, ho1, hd1, hns⟩ := hns
    have ho1 : s1.heap.get? s.heap.objs.size = some o1 := ho1
    have hL := hown s.heap.objs.size o1 (Nat.le_refl _) (Heap.get?_push_of_some _ ho1)
    have nofs : ∀ b, s.heap.objs.size ≤ b → b ∉ frs out := fun b hb hm => absurd (Nat.lt_of_lt_of_le (Inv.frs_lt I1 hm) hb) (Nat.lt_irrefl _)
    have hgcd : ∀ v, go.data ≠ .cell v := fun v q => by rw [hgd] at q; cases q
    have pcok : ∀ {pc' : List (Addr × Obj)} {H' : Hp} {s' : Shared}, Hand P w out H s ca pc' H' s' → ∀ p ∈ pc', s'.heap.get? p.1 = some p.2 ∧ H' p.1 = none ∧ p.1 ≠ s.heap.objs.size ∧ p.1 ∉ frs out ∧ ∀ v, p.2.data ≠ .cell v := fun {pc' H' s'} h p hp => by
      obtain ⟨a1, a2, a3, a4⟩ := h.pin p hp
      have hm : p.1 ∈ ca := by rw [← h.ca]; exact List.mem_map.mpr ⟨p, hp, rfl⟩
      have := hca p.1 hm
      exact ⟨a1, a2, Nat.ne_of_gt (Nat.lt_of_lt_of_le lt1 (Nat.le_trans (Nat.le_succ _) this)), a3, a4⟩
    have I2 : Inv (gcxOf P w K mg base N qual (defScope st) f cdv Aw out s H E00g []) [] (L2.start N vs) H2 s2 := Inv.again I1 noc hand.os hand.bare hand.un hand.hok (fun o e => by
      have e : s1.heap.get? s.heap.objs.size = some o := e
      rw [ho1] at e; cases e; exact hL.1) hL.2 fun p hp => by cases hp
    have I3 : Inv (gcxOf P w K mg base N qual (defScope st) f cdv Aw out s H E00g [(s1.heap.objs.size, go)]) (pc ++ []) (L2.start N vs) H2 s2 := Inv.pinnedG I2 fun p hpm => by
      rw [List.append_nil] at hpm
      rcases List.mem_append.mp hpm with z | z
      · rw [List.mem_singleton.mp z]
        exact ⟨hea.1, hea.2, Nat.ne_of_gt lt1, nofs _ (Nat.le_of_lt lt1), hgcd⟩
      · exact pcok hand p z
    refine seg_imp (R := EndY P w out H s ca fin) (Y := GYP (gcxOf P w K mg base N qual (defScope st) f cdv Aw out s H E00g [(s1.heap.objs.size, go)]) ca yl) (fun _ _ _ _ z => z) (fun n s₀ v s' kap kap' hk hy => ?_) sizeLine ?_
    · obtain ⟨kk, x, ip, σ, H1, kn, hn, ap, rv, ⟨pc1, ep1, J1⟩, hyl, hgo⟩ := hy
      obtain ⟨m2, hns2, _⟩ := J1.loc
      obtain ⟨o2, es2, ep2, ho2, hd2, hns2⟩ := hns2
      have ho2 : s'.heap.get? s.heap.objs.size = some o2 := ho2
      have gpin := J1.pin (s1.heap.objs.size, go) (List.mem_append_left _ List.mem_cons_self)
      refine ⟨kk, x, H1, kn, pc1, (s.heap.objs.size, o2) :: (s1.heap.objs.size, go) :: ip, hn, ep1.2, rv, hyl, ⟨J1.os, J1.bare, J1.base, J1.hok, ep1.1, fun p hp => ?_⟩, fun h hh => isg h (hh _ (List.mem_cons_of_mem _ List.mem_cons_self)), fun p hp => ?_, fun s3 H3 pc3 hand3 hgp3 hkk => hk _ _ (hgo s3 H3 ⟨pc3, ⟨hand3.ca, fun p hp => (hand3.pin p hp).1⟩, ?_⟩ hkk)⟩
      · obtain ⟨a1, a2, a3, a4, a5⟩ := J1.pin p (List.mem_append_right _ (List.mem_append_left _ hp))
        exact ⟨a1, a2, a4, a5⟩
      · rcases List.mem_cons.mp hp with z | hp
        · subst z
          exact ⟨ho2, J1.free, fun z => by have := hca _ z; have : s1.heap.objs.size + 1 ≤ s.heap.objs.size := this; omega, nofs _ (Nat.le_refl _), fun v q => by rw [hd2] at q; cases q⟩
        · rcases List.mem_cons.mp hp with z | hp
          · subst z
            exact ⟨gpin.1, gpin.2.1, fun z => by have := hca _ z; have : s1.heap.objs.size + 1 ≤ s1.heap.objs.size := this; omega, gpin.2.2.2.1, hgcd⟩
          · obtain ⟨a1, a2, a3, a4, a5⟩ := J1.pin p (List.mem_append_right _ (List.mem_append_right _ hp))
            exact ⟨a1, a2, ap p hp, a4, a5⟩
      · refine Inv.again J1 noc hand3.os hand3.bare hand3.un hand3.hok (fun o e => ?_) (hgp3 _ List.mem_cons_self).2 fun p hp => ?_
        · have e : s'.heap.get? s.heap.objs.size = some o := e
          rw [ho2] at e; cases e
          exact (hgp3 _ List.mem_cons_self).1
        · rcases List.mem_append.mp hp with z | hp
          · obtain ⟨_, _, a3, a4, a5⟩ := J1.pin p (List.mem_append_left _ z)
            have hm : p ∈ (s.heap.objs.size, o2) :: (s1.heap.objs.size, go) :: ip := by
              rw [List.mem_singleton.mp z]; exact List.mem_cons_of_mem _ List.mem_cons_self
            exact ⟨(hgp3 p hm).1, (hgp3 p hm).2, a3, a4, a5⟩
          · rcases List.mem_append.mp hp with z | hp
            · exact pcok hand3 p z
            · obtain ⟨_, _, a3, a4, a5⟩ := J1.pin p (List.mem_append_right _ (List.mem_append_right _ hp))
              have hm : p ∈ (s.heap.objs.size, o2) :: (s1.heap.objs.size, go) :: ip := List.mem_cons_of_mem _ (List.mem_cons_of_mem _ hp)
              exact ⟨(hgp3 p hm).1, (hgp3 p hm).2, a3, a4, a5⟩
    · refine seg_func ?_
      refine ht.run Aw ca [] (EndY P w out H s ca fin) sizeLine 0 s2 _ [] _ _ id id s2 _ H2 yl _ (fun p hp => by cases hp) ⟨over_func, rfl, rfl, rfl⟩ (by omega) ⟨fun n kk s₀ s' fl hn hs => ?_, fun n s₀ e s' hx => ?_⟩ ⟨pc, ⟨hand.ca, fun p hp => (hand.pin p hp).1⟩, I3⟩ (hq yl fin H2 hsp)
      · have out1 : ∀ {σ : L2.St} {H' : Hp}, GIY (gcxOf P w K mg base N qual (defScope st) f cdv Aw out s H E00g [(s1.heap.objs.size, go)]) ca [] s₀ σ H' s' → fin kk H' → FinY P w out H s ca fin n s₀ s' := fun {σ H'} ⟨pc1, ep1, J1⟩ hf =>
          ⟨kk, H', pc1, ep1.2, ⟨J1.os, J1.bare, J1.base, J1.hok, ep1.1, fun p hp => let ⟨a1, a2, a3, a4, a5⟩ := J1.pin p (List.mem_append_right _ (List.mem_append_left _ hp)); ⟨a1, a2, a4, a5⟩⟩, hf⟩
        cases fl with
        | next => obtain ⟨σ, H', J, q⟩ := hs; exact seg_end (.ok (.ret .none)) ⟨.inl rfl, out1 J q⟩
        | brk => obtain ⟨_, _, _, z⟩ := hs; exact False.elim z
        | cont => obtain ⟨_, _, _, z⟩ := hs; exact False.elim z
        | ret u =>
          obtain ⟨v, σ, H', J, r, e, q⟩ := hs
          subst e
          cases (show u = Value.none from r)
          exact seg_end (.ok (.ret .none)) ⟨.inl rfl, out1 J q⟩
      · refine seg_wrap ?_
        rw [over_func]
        refine wpAny_mono (show wpAny (model P w) (Aw.deeper (envOfC qual (defScope st) s.heap.objs.size f cdv)) (leaving _ e) (fun _ s'' => L2.CX P w out H s E00g e s'' ∧ ∀ p ∈ [(s1.heap.objs.size, go)], s''.heap.get? p.1 = some p.2) (fun _ _ => False) s' from hx)
          (fun _ s'' q => ?_) fun _ s'' q => q.elim
        obtain ⟨_, _, _, _, _, _, _, _, _, _, _, _, z⟩ := q.1
        exact z.elim
  exact ⟨_, _, _, rfl, main _ _ _ _ rfl rfl rfl fun h => Heap.get?_push_size _ rfl⟩
end
end Dn
namespace Dn
open PySem PySem.Spec PyProof.Rows L2 GenW
/-! [.. for .. in g if ..], g a generator -/
theorem Inv.gens {X : Cx} {pins : List (Addr × Obj)} {σ : L2.St} {H : Hp} {s s' : Shared} (I : Inv X pins σ H s) (hh : s'.heap = s.heap) (ho : s'.os = s.os) (hb : AllBare s'.gens) : Inv X pins σ H s' := by
  obtain ⟨h, g, d, t, o⟩ := s
  obtain ⟨h', g', d', t', o'⟩ := s'
  cases (show h' = h from hh)
  cases (show o' = o from ho)
  exact ⟨I.ok, I.os, hb, I.base, I.loc, I.cell, I.free, I.freeC, I.pin, I.hok, I.len⟩
/-- what leaves Inv standing leaves a generator asleep as it is -/
theorem inv_asleep {α : Type} {X : Cx} {pins : List (Addr × Obj)} {σ : L2.St} {H : Hp} {s : Shared} {t : Sem α} {Φ : α → L2.St → Hp → Prop} {g : Nat} {gs : GenState} {E : Value → Shared → Prop} (I : Inv X pins σ H s) (hg : s.gens[g]? = some gs) (ha : Asleep gs)
    (h : ∀ s0, Inv X pins σ H s0 → wpAny (model X.prog X.w) X.A t (fun a s' => ∃ σ' H', Inv X pins σ' H' s' ∧ Φ a σ' H') (fun _ _ => False) s0) :
    wpAny (model X.prog X.w) X.A t (fun a s' => ∃ σ' H', Inv X pins σ' H' s' ∧ s'.gens[g]? = some gs ∧ Φ a σ' H') E s :=
  wpAny_mono (wpAny_lull (Q := fun a s' => ∃ σ' H', Inv X pins σ' H' s' ∧ s'.gens[g]? = some gs ∧ Φ a σ' H') (E := fun _ _ => False) I.bare (fun _ _ _ _ z => z)
    (wpAny_mono (h (lull s) (Inv.gens I rfl rfl (lull_bare I.bare))) (fun a s' ⟨σ', H', J, q⟩ L => ⟨σ', H', Inv.gens J rfl rfl (mend_bare L J.bare), mend_asleep L hg ha, q⟩) fun _ _ z => z)) (fun _ _ z => z) fun _ _ z => z.elim
/-- an expression that makes a generator -/
abbrev TGn := L2.St → Hp → ((YlK → (Nat → Hp → Prop) → Hp → Prop) → Hp → Prop) → Prop
structure PGn (X : Cx) (k : Nat) (e : Expr) (t : TGn) : Prop where
  run : ∀ (pins : List (Addr × Obj)) (s : Shared) (σ : L2.St) (H : Hp) (Q : (YlK → (Nat → Hp → Prop) → Hp → Prop) → Hp → Prop), Inv X pins σ H s → t σ H Q →
    wpAny (model X.prog X.w) X.A (eval e X.env) (fun v s' => ∃ sp H1 sc a g c, v = .ref a ∧ Inv X pins σ H1 sc ∧ GMadeY X.prog X.w k X.stack H1 sc sp a g c s' ∧ Q sp H1) X.xe s
def tGnC (np : Nat) (sp : SpY) (t : TA) : TGn := fun σ H Q => t σ H fun vs H1 => vs.length = np ∧ Q (sp vs) H1
section
variable {X : Cx} {k : Nat} {f : Addr} {np : Nat} {sp : SpY} {x nm : Str} {p pos : Pos} {e : Expr} {es : List Expr} {t : TA}
theorem pgn_call (F : GFnY X.prog X.w X.K X.mg X.base k f np sp) (hr : RG k X.A) (hg : Gl X x) (hm : X.mg x = some (.ref f)) (hk : PySem.W.keepIn X.K (.ref f) = true) (ha : PA X (e :: es) t)
    (hdb : (x == ("__debug__" : Str)) = false := by decide) (hst : starEach (e :: es) X.env = (false, eval e X.env) :: starEach es X.env := by rfl) (hpl : (backTo pos (starEach es X.env)).any (·.1) = false := by rfl) :
    PGn X k (.Call (.Name x p) (e :: es) [] pos) (tGnC np sp t) := ⟨fun pins s σ H Q I h => by
  refine wpAny_Call_Name_kw (ld_glob I hg hm ?_ hdb)
  refine PySem.W.callWith_K (h₀ := X.base) I.ok.mod.kin hk (thn (ha.run pos pins s σ H _ I h) fun zs s1 ⟨vs, H1, J, r, q⟩ => ⟨J.kIn, wpAny_call ?_⟩) hst hpl
  refine codeAny_mono (F X.A X.stack s1 H1 zs vs hr J.env0 r q.1) fun res s' hq => ?_
  match res, hq with
  | .error u, hq => exact hq.elim
  | .ok .next, hq => exact hq.elim
  | .ok .brk, hq => exact hq.elim
  | .ok .cont, hq => exact hq.elim
  | .ok (.ret u), ⟨a, g, c, eu, G⟩ => exact ⟨sp vs, H1, s1, a, g, c, eu, J, G, q.2⟩⟩
end
/-- the consumer's reading: D its list -/
def ylLc (g : TG) (tt : TT) (te : TE) (vs : List Nat) (σ : L2.St) (D : Addr) : YlK := fun _ x H kk => (∃ acc, H D = some (.lst acc)) ∧ g x (wipe σ vs) H fun σ2 H2 => wipe σ2 vs = wipe σ vs ∧ tt σ2 H2 fun b H3 =>
  if b = true then te σ2 H3 fun y H4 => ∃ acc, H4 D = some (.lst acc) ∧ acc.length < sizeLine ∧ kk (upd H4 D (.lst (acc ++ [y]))) else kk H3
def tLcG (tn : TGn) (g : TG) (tt : TT) (te : TE) (vs : List Nat) : TE := fun σ H Q => tn σ H fun sp H1 => ∀ D, H1 D = none → sp (ylLc g tt te vs σ D) (fun _ H' => Q (.ref D) H') (upd H1 D (.lst []))
section
variable {X : Cx}
theorem isgen_go {P : Program} {w : World} {A : Around} {E : Value → Shared → Prop} {s : Shared} {tg : Expr} {a : Addr} {g : Nat} {u : Value} {Q : Unit → Shared → Prop} (h : s.heap.IsGen a g) (hQ : Q () s) : wpAny (model P w) A (letOwnedTupleGo tg (.ref a) u) Q E s := by
  obtain ⟨o, nm, qn, ho, hc, hd, _⟩ := h
  exact go_of ho hc hd (by decide) hQ
theorem lcG_core {k : Nat} {pins : List (Addr × Obj)} {s : Shared} {σ : L2.St} {H : Hp} {Q : VK} {elt tg iter : Expr} {ifs : List Expr} {scope : Scope} {own : List (Str × Nat)} {pos pos' : Pos} {tn : TGn} {g : TG} {tt : TT} {te : TE} {use : Option (Value → Sem Unit)} {Qf : Value → Shared → Prop}
    (hr : RG (k + 1) X.A) (hc : X.calm = true) (hN : X.N.Nodup) (I : Inv X pins σ H s) (hi : PGn X k iter tn) (ok : BlkOk X.N X.env.scope scope own) (hnc : ∀ n acc, cellsFrom n scope.names acc = acc)
    (hg : ∀ (s : Shared) (H : Hp) (C : Addr) (cl : List (Str × Addr)) (fp : List Addr), PG (X.blk s H scope (compEnvC scope cl C X.env) fp) tg g) (ht : ∀ (s : Shared) (H : Hp) (C : Addr) (cl : List (Str × Addr)) (fp : List Addr), PTs (X.blk s H scope (compEnvC scope cl C X.env) fp) ifs tt)
    (he : ∀ (s : Shared) (H : Hp) (C : Addr) (cl : List (Str × Addr)) (fp : List Addr), PE (X.blk s H scope (compEnvC scope cl C X.env) fp) elt te) (hs : ∀ x, foldedSetIterable iter X.env x = pure x)
    (h : tLcG tn g tt te (own.map (·.2)) σ H Q)
    (hRR : ∀ D C s' m H', Inv X pins σ H' s' → Q (.ref D) H' → s'.heap.Ns C m → FpOk X pins H' C → compPost (model X.prog X.w) X.A X.xe use Qf (.ref D) C (.ok .next) s') :
    wpAny (model X.prog X.w) X.A (comprehension (.ListComp elt [⟨tg, iter, ifs, 0⟩] scope pos) scope X.env pos' (newList []) false (eval iter X.env) use) Qf X.xe s := by
  have hfree : ∀ y ∈ scope.names, y.2 = .free → ∃ c, X.env.cells.lookup y.1 = some c := fun y hy e => by
    rcases ok.free y hy e with k | k
    · exact I.ok.has _ (.inl k)
    · exact I.ok.has _ (.inr k)
  refine wpAny_comprehension_free (use := use) rfl hs (closure_ok hfree) ok.kind (fun y hy e => by rw [ok.uniq y hy, e])
    (thn (hi.run pins s σ H _ I h) fun xv s2 ⟨sp, Hc, sc, a, g0, c, e, Ic, M, q⟩ => ?_)
  subst e
  refine wpAny_pyIter_gen M.gen ?_
  have lesz : sc.heap.objs.size ≤ s2.heap.objs.size := Nat.le_of_lt (Nat.lt_of_le_of_lt M.lo M.hi)
  have I2 : Inv X pins σ Hc s2 := Ic.call' (ch := []) M.os (Un.kept M.keep) (Ic.hok.kept M.keep) M.bare fun b z => by cases z
  refine wpAny_newObj_type (newEnv_comp ?_) (by show 0 ≤ sizeLine; decide)
  generalize hD : s2.heap.objs.size = D
  have hDn : Hc D = none := I2.hok.fresh (Nat.le_of_eq hD)
  have q := q D hDn
  generalize hs3 : ({ s2 with heap := s2.heap.push { cls := .type "list", data := .seq ([] : List Value).toArray } } : Shared) = s3
  have I3 : Inv X pins σ (upd Hc D (.lst [])) s3 := by
    rw [← hs3]
    refine I2.laid (t' := s2.toks) (fun b o e => Heap.get?_push_of_some _ e) (Nat.le_of_eq hD) ⟨Nat.zero_le _, [], 0, .nil, ?_⟩
    rw [← hD]
    exact Heap.get?_push_size _ rfl
  have h3 : s3.heap = s2.heap.push { cls := .type "list", data := .seq ([] : List Value).toArray } := by rw [← hs3]
  have g3 : s3.gens = s2.gens := by rw [← hs3]
  have o3 : s3.os = s2.os := by rw [← hs3]
  have sz3 : s3.heap.objs.size = D + 1 := by rw [h3, Heap.size_push, hD]
  have kp3 : ∀ b o, s2.heap.get? b = some o → s3.heap.get? b = some o := fun b o e => by rw [h3]; exact Heap.get?_push_of_some _ e
  have I4' := block_start (fp := []) I3 ok hN (fun b hb => by cases hb)
  show codeAny _ _ (.compStart (.ListComp elt [⟨tg, iter, ifs, 0⟩] scope pos) 0 (.ref a) (.ref D) (compEnvC scope (cellsFrom (s3.heap.objs.size + 1) scope.names (cloFrom X.env.cells scope.names [])) s3.heap.objs.size X.env)) (compPost (model X.prog X.w) X.A X.xe use Qf (.ref D) s3.heap.objs.size) { s3 with heap := pushCells (s3.heap.push { cls := .type "dict", data := .dict #[] }) scope.names }
  rw [hnc] at I4' ⊢
  have pg := hg sc Hc s3.heap.objs.size (cloFrom X.env.cells scope.names []) []
  have pt := ht sc Hc s3.heap.objs.size (cloFrom X.env.cells scope.names []) []
  have pe := he sc Hc s3.heap.objs.size (cloFrom X.env.cells scope.names []) []
  generalize hC : s3.heap.objs.size = C at I4' pg pt pe ⊢
  have hCle : sc.heap.objs.size ≤ C := by rw [← hC, sz3]; omega
  have cm : ∀ {y c}, (compEnvC scope (cloFrom X.env.cells scope.names []) C X.env).cells.lookup y = some c → (∃ v, sc.heap.IsCell c v) ∧ Hc c = none := fun {y c} hm => by
    have hm : (cloFrom X.env.cells scope.names []).lookup y = some c := hm
    rcases cloFrom_mem (PySem.mem_of_lookup hm) with hm | ⟨h1, rfl⟩
    · cases hm
    · obtain ⟨c, hc⟩ := hfree _ h1 rfl
      rw [hc]
      exact ⟨Ic.cell _ _ hc, Ic.freeC _ _ hc⟩
  generalize hce : compEnvC scope (cloFrom X.env.cells scope.names []) C X.env = ce at I4' pg pt pe cm ⊢
  have cL : ce.locals = C := by subst hce; rfl
  generalize hH3 : upd Hc D (.lst []) = H3 at I3 I4' q
  generalize hs4 : ({ s3 with heap := pushCells (s3.heap.push { cls := .type "dict", data := .dict #[] }) scope.names } : Shared) = s4 at I4' ⊢
  have g4 : s4.gens = s2.gens := by rw [← hs4]; exact g3
  have kp4 : ∀ b o, s2.heap.get? b = some o → s4.heap.get? b = some o := fun b o e => by rw [← hs4]; exact pushCells_keeps _ _ _ _ (Heap.get?_push_of_some _ (kp3 b o e))
  have nofs : ∀ b, sc.heap.objs.size ≤ b → b ∉ frs X.stack := fun b hb hm => by
    obtain ⟨_, o₀, e₀, _⟩ := Ic.env0.funs.mem hm
    exact absurd (Nat.lt_of_lt_of_le (Heap.lt_size e₀) hb) (Nat.lt_irrefl _)
  -- the block, seen from the call
  have unc3 : Un (frs X.stack) [] Hc H3 sc.heap s3.heap := by
    have keep : ∀ b o, sc.heap.get? b = some o → s3.heap.get? b = some o := fun b o e => kp3 b o (M.keep b o e)
    have ne : ∀ b o, sc.heap.get? b = some o → b ≠ D := fun b o e => Nat.ne_of_lt (Nat.lt_of_lt_of_le (Heap.lt_size e) (by rw [← hD]; exact lesz))
    rw [← hH3]
    refine ⟨fun b o e _ _ _ => keep b o e, fun b o e _ _ _ => ⟨o.slots, keep b o e⟩, fun b o e n _ => ?_, fun b o e _ => ⟨o, keep b o e⟩, fun b xs e => ?_, fun b o u e => ?_, fun b ps e => ⟨#[], ?_⟩⟩
    · rw [upd_ne (ne b o e)]; exact n
    · rw [upd_ne (ne_of_none e hDn)]; exact e
    · rw [upd_ne (ne_of_none e hDn)]; exact e
    · rw [upd_ne (ne_of_none e hDn), Array.append_empty]; exact e
  have okb : (X.blk sc Hc scope ce []).Ok := by
    have o := I4'.ok
    have e0 := Ic.env0
    exact ⟨o.mod, o.kind, o.glob, o.blt, by show sc.heap.objs.size ≤ ce.locals; rw [cL]; exact hCle, o.inj, o.has, fun x c h1 h2 => Nat.le_trans (Nat.le_trans lesz (by rw [← hD] at sz3; rw [sz3]; exact Nat.le_succ _)) (o.cab x c h1 h2), o.hd, o.frames, o.stk, fun b hb => (nomatch hb), e0.bs, e0.bsz, fun b _ _ hb => (nomatch hb), fun b hb => (nomatch hb), e0.funs, e0.frf⟩
  have reb : ∀ {pl : List (Addr × Obj)} {σ' : L2.St} {H' : Hp} {s' : Shared}, Inv (X.blk s3 H3 scope ce []) pl σ' H' s' → Inv (X.blk sc Hc scope ce []) pl σ' H' s' := fun {pl σ' H' s'} J =>
    ⟨okb, J.os.trans (o3.trans M.os), J.bare, unc3.trans J.base, J.loc, J.cell, J.free, J.freeC, J.pin, J.hok, J.len⟩
  have I4 := reb I4'
  obtain ⟨HH, hHH⟩ : ∃ Z, Z = X.blk sc Hc scope ce [] := ⟨_, rfl⟩
  have unXb : ∀ {pl : List (Addr × Obj)} {σ' : L2.St} {H' : Hp} {s' : Shared}, Inv (X.blk sc Hc scope ce []) pl σ' H' s' → ∃ oC, s'.heap.get? C = some oC ∧ (∀ v, oC.data ≠ .cell v) ∧ ∀ x : GenState, Hand X.prog X.w X.stack Hc sc [C] [(C, oC)] H' (s'.setGen g0 x) ∨ x.bare = false := fun {pl σ' H' s'} J => by
    obtain ⟨m, ⟨o, es, ep, ho, hd, _⟩, _⟩ := J.loc
    have ho : s'.heap.get? ce.locals = some o := ho
    rw [cL] at ho
    have hf : H' ce.locals = none := J.free
    rw [cL] at hf
    have nd : ∀ v, o.data ≠ .cell v := fun v z => by rw [hd] at z; cases z
    refine ⟨o, ho, nd, fun x => ?_⟩
    cases hx : x.bare with
    | false => exact .inr rfl
    | true => exact .inl ⟨J.os, allBare_setGen J.bare hx, J.base, J.hok, rfl, fun p hp => by
        rw [List.mem_singleton.mp hp]
        exact ⟨ho, hf, nofs C hCle, nd⟩⟩
  have hand : ∀ {pl : List (Addr × Obj)} {σ' : L2.St} {H' : Hp} {s' : Shared}, Inv (X.blk sc Hc scope ce []) pl σ' H' s' → ∃ oC, s'.heap.get? C = some oC ∧ Hand X.prog X.w X.stack Hc sc [C] [(C, oC)] H' (s'.setGen g0 .running) := fun {pl σ' H' s'} J => by
    obtain ⟨oC, h1, _, h2⟩ := unXb J
    rcases h2 .running with z | z
    · exact ⟨oC, h1, z⟩
    · cases z
  -- back from the generator
  have regen : ∀ {σ' : L2.St} {H5 H' : Hp} {s5 s' : Shared} {pc gp : List (Addr × Obj)}, Inv (X.blk sc Hc scope ce []) [] σ' H5 s5 → Hand X.prog X.w X.stack Hc sc [C] pc H' s' → (∀ p ∈ pc, s5.heap.get? p.1 = some p.2) →
      (∀ p ∈ gp, s'.heap.get? p.1 = some p.2 ∧ H' p.1 = none ∧ p.1 ∉ [C] ∧ p.1 ∉ frs X.stack ∧ ∀ v, p.2.data ≠ .cell v) → Inv (X.blk sc Hc scope ce []) gp σ' H' s' := fun {σ' H5 H' s5 s' pc gp} J hd hpc hgp => by
    obtain ⟨oC, hoC, hpin, hpo⟩ : ∃ oC, s5.heap.get? C = some oC ∧ s'.heap.get? C = some oC ∧ H' C = none := by
      have hm := hd.ca
      cases pc with
      | nil => cases hm
      | cons p0 r =>
        have e1 : p0.1 = C := by
          have := hm
          simp only [List.map_cons, List.cons.injEq] at this
          exact this.1
        obtain ⟨z1, z2, _⟩ := hd.pin p0 List.mem_cons_self
        have z3 := hpc p0 List.mem_cons_self
        rw [e1] at z1 z2 z3
        exact ⟨p0.2, z3, z1, z2⟩
    have cells : ∀ {y c}, ce.cells.lookup y = some c → ∀ v, s5.heap.IsCell c v → s'.heap.IsCell c v := fun {y c} hc v ⟨o5, e5, d5⟩ => by
      obtain ⟨⟨v0, o0, e0, d0⟩, n0⟩ := cm hc
      obtain ⟨sl1, e1⟩ := (show Un (frs X.stack) [] Hc H5 sc.heap s5.heap from J.base).any e0 n0 (by simp)
      obtain ⟨sl2, e2⟩ := hd.un.any e0 n0 (by simp)
      rw [e5] at e1
      cases e1
      exact ⟨_, e2, d5⟩
    refine ⟨okb, hd.os, hd.bare, hd.un, ?_, fun x c e => ?_, ?_, fun x c e => ?_, fun p hp => ?_, hd.hok, J.len⟩
    · obtain ⟨m, ⟨o, es, ep, h1, h2⟩, h3⟩ := J.loc
      have h1 : s5.heap.get? ce.locals = some o := h1
      rw [cL, hoC] at h1
      cases h1
      refine ⟨m, ⟨oC, es, ep, by show s'.heap.get? ce.locals = _; rw [cL]; exact hpin, h2⟩, fun i x v a1 b1 c1 => ?_⟩
      obtain ⟨u, r, l⟩ := h3 i x v a1 b1 c1
      refine ⟨u, r, ?_⟩
      rcases l with l | ⟨z, c', e1, e2⟩
      · exact .inl l
      · exact .inr ⟨z, c', e1, cells e1 _ e2⟩
    · obtain ⟨v, q1⟩ := J.cell x c e
      exact ⟨v, cells e v q1⟩
    · show H' ce.locals = none
      rw [cL]; exact hpo
    · obtain ⟨⟨v0, o0, e0, d0⟩, n0⟩ := cm e
      exact hd.un.free c o0 e0 n0 (by simp)
    · obtain ⟨a1, a2, a3, a4, a5⟩ := hgp p (by simpa using hp)
      exact ⟨a1, a2, by show p.1 ≠ ce.locals; rw [cL]; exact fun z => a3 (by rw [z]; exact List.mem_cons_self), a4, a5⟩
  have room := hr.rm.dp
  have hlt : X.A.depth < recursionLimit := by have := hr.rm.depth; omega
  have loop : codeAny (model X.prog X.w) X.A (.compLoop (.ListComp elt [⟨tg, iter, ifs, 0⟩] scope pos) 0 (.ref a) (.ref D) ce) (compPost (model X.prog X.w) X.A X.xe use Qf (.ref D) C) s4 := by
    refine compLoop_any (fun n s' => ∃ H' gs, Inv (X.blk sc Hc scope ce []) [] (wipe σ (own.map (·.2))) H' s' ∧ s'.heap.IsGen a g0 ∧ s'.gens[g0]? = some gs ∧
      gs.Goes (model X.prog X.w) X.A.in1 (EndY X.prog X.w X.stack Hc sc [C] (fun _ H' => Q (.ref D) H')) (YItY X.prog X.w X.stack Hc sc [C] a g0 (ylLc g tt te (own.map (·.2)) σ D)) n (.send .none) (s'.setGen g0 .running)) ?_ sizeLine ?_
    · rintro n s5 ⟨H5, gs, I5, ig5, hg5, go5⟩
      have hgl5 : g0 < s5.gens.size := (Array.getElem?_eq_some_iff.mp hg5).1
      refine wpAny_gsz (n := g0 + 1) hgl5 (next_genS (hr.rm.hd) (I5.ok.mod.nolimit.keeps I5.bk) hlt ig5 hg5 go5 (fun v s6 gs' has hy => ?_) fun s6 hf h' hk' => ?_)
      · intro hsz
        obtain ⟨kk, x, H6, kn, pc, gp, hn, hpc, rv, ⟨⟨acc0, hD6⟩, hyl⟩, hd6, hgi, hgp, hgo⟩ := hy
        have hpc : ∀ p ∈ pc, s5.heap.get? p.1 = some p.2 := hpc
        have hgl : g0 < s6.gens.size := by rw [setGen_size] at hsz; exact hsz
        have I6' : Inv (X.blk sc Hc scope ce []) gp (wipe σ (own.map (·.2))) H6 s6 := regen I5 hd6 hpc hgp
        have I6 : Inv (X.blk sc Hc scope ce []) gp (wipe σ (own.map (·.2))) H6 (s6.setGen g0 gs') := Inv.gens I6' rfl rfl (allBare_setGen I6'.bare has.bare)
        have ge6 : (s6.setGen g0 gs').gens[g0]? = some gs' := setGen_at hgl
        refine isgen_go (hgi _ fun p hp => (hgp p hp).1) ?_
        refine wpAny_mono (inv_asleep (X := X.blk sc Hc scope ce []) (Φ := fun _ σ2 H2 => _) (E := fun _ _ => False) I6 ge6 has fun s0 J => pg.run gp s0 _ H6 x v _ J rv hyl) (fun _ s7 ⟨σ7, H7, I7, ge7, hw7, q7⟩ => ?_) fun _ _ z => z.elim
        refine wpAny_mono (inv_asleep (X := X.blk sc Hc scope ce []) (E := fun _ _ => False) (Φ := fun b σ' H' => σ' = σ7 ∧ if b = true then te σ7 H' fun y H4 => ∃ acc, H4 D = some (.lst acc) ∧ acc.length < sizeLine ∧ kn (upd H4 D (.lst (acc ++ [y]))) else kn H') I7 ge7 has fun s0 J => thnF (pt.run gp s0 σ7 H7 _ J q7) fun b s8 ⟨H8, J8, q8⟩ => ⟨σ7, H8, J8, rfl, q8⟩) (fun b s8 ⟨σ8, H8, I8, ge8, e8, q8⟩ => ?_) fun _ _ z => z.elim
        subst e8
        have fin : ∀ {s' : Shared} {H' : Hp}, Inv (X.blk sc Hc scope ce []) gp σ8 H' s' → s'.gens[g0]? = some gs' → kn H' → ∃ m, m < n ∧ ∃ H' gs, Inv (X.blk sc Hc scope ce []) [] (wipe σ (own.map (·.2))) H' s' ∧ s'.heap.IsGen a g0 ∧ s'.gens[g0]? = some gs ∧
            gs.Goes (model X.prog X.w) X.A.in1 (EndY X.prog X.w X.stack Hc sc [C] (fun _ H' => Q (.ref D) H')) (YItY X.prog X.w X.stack Hc sc [C] a g0 (ylLc g tt te (own.map (·.2)) σ D)) m (.send .none) (s'.setGen g0 .running) := fun {s' H'} I' ge' nx => by
          obtain ⟨oC, _, hd'⟩ := hand I'
          have gk := hgo (s'.setGen g0 .running) H' _ hd' (fun p hp => let z := I'.pin p (by simpa using hp); ⟨z.1, z.2.1⟩) nx
          have hl : (wipe σ (own.map (·.2))).length = σ8.length := by rw [← hw7, wipe_length]
          cases n with
          | zero => exact gk.elim
          | succ m => exact ⟨m, Nat.lt_succ_self _, H', gs', (Inv.pins_of I' (pins' := []) fun p hp => by cases hp).weak hl (fun j v e => by rw [← hw7] at e; exact (wipe_some e).1), hgi _ fun p hp => (I'.pin p (by simpa using hp)).1, ge', gk⟩
        cases b with
        | false =>
          simp only [Bool.false_eq_true, if_false] at q8 ⊢
          exact fin I8 ge8 q8
        | true =>
          simp only [if_true] at q8 ⊢
          refine wpAny_mono (inv_asleep (X := X.blk sc Hc scope ce []) (E := fun _ _ => False) (Φ := fun z σ' H' => σ' = σ8 ∧ ∃ yv, RelV yv z ∧ ∃ acc, H' D = some (.lst acc) ∧ acc.length < sizeLine ∧ kn (upd H' D (.lst (acc ++ [yv])))) I8 ge8 has fun s0 J => thnF (pe.run gp s0 σ8 H8 _ J q8) fun z s9 ⟨yv, H9, J9, r9, q9⟩ => ⟨σ8, H9, J9, rfl, yv, r9, q9⟩) (fun z s9 ⟨σ9, H9, I9, ge9, e9, yv, r9, acc, hD9, hz9, nx⟩ => ?_) fun _ _ z => z.elim
          subst e9
          refine wpAny_mono (inv_asleep (X := X.blk sc Hc scope ce []) (E := fun _ _ => False) (Φ := fun _ σ' H' => σ' = σ9 ∧ H' = upd H9 D (.lst (acc ++ [yv]))) I9 ge9 has fun s0 J => app_ok J hD9 hz9 r9 fun s10 I10 => ⟨σ9, _, I10, rfl, rfl⟩) (fun _ s10 ⟨σ10, H10, I10, ge10, e10, e11⟩ => ?_) fun _ _ z => z.elim
          subst e10
          subst e11
          exact fin I10 ge10 nx
      · intro _
        obtain ⟨kk, H6, pc, hpc, hd6, hq⟩ := hf
        have keep : ∀ b o, s6.heap.get? b = some o → h'.get? b = some o := hk'
        have hok' := hd6.hok.kept keep
        have I7 : Inv X pins σ H6 { s6.setGen g0 .finished with heap := h' } := Ic.call' (ch := []) hd6.os (hd6.un.trans (Un.kept keep)) hok' (allBare_setGen hd6.bare rfl) fun b z => by cases z
        have J6 := regen (gp := []) I5 hd6 hpc fun p hp => by cases hp
        obtain ⟨m, hn, _⟩ := J6.loc
        have hn : s6.heap.Ns ce.locals m := hn
        have nC : H6 ce.locals = none := J6.free
        rw [cL] at hn nC
        obtain ⟨o, es, ep, h1, h2⟩ := hn
        exact hRR D C _ m H6 I7 hq ⟨o, es, ep, keep _ _ h1, h2⟩ (Ic.fpOk hCle nC)
    · refine ⟨H3, .fresh c, I4, M.gen.keeps kp4, by rw [g4]; exact M.st, rfl, ?_⟩
      obtain ⟨oC, _, hd⟩ := hand I4
      refine M.wake X.A.in1 _ _ [C] [(C, oC)] (s4.setGen g0 .running) H3 ⟨⟨hr.rm.hd, ?_, ?_⟩, hr.gd⟩ Ic.ok.frames hd (fun b hb => ?_) (fun b o hb e => ⟨kp4 b o e, ?_⟩) q
      · have := hr.rm.dp; show X.A.depth + 3 * k + 5 < _; omega
      · have := hr.rm.un; show X.A.units + 1 + 16 * k + 200 < _; omega
      · rw [List.mem_singleton.mp hb, ← hC, sz3]; omega
      · rw [← hH3, upd_ne (Nat.ne_of_lt (by rw [← hD]; exact Heap.lt_size e))]
        exact Ic.hok.fresh hb
  exact codeAny_compStart_list loop (wpAny_pyIter_gen (M.gen.keeps kp4) loop)
theorem pe_lcG {k : Nat} {elt tg iter : Expr} {ifs : List Expr} {scope : Scope} {own : List (Str × Nat)} {pos : Pos} {tn : TGn} {g : TG} {tt : TT} {te : TE} (hr : RG (k + 1) X.A) (hc : X.calm = true) (hN : X.N.Nodup) (hi : PGn X k iter tn) (ok : BlkOk X.N X.env.scope scope own) (hnc : ∀ n acc, cellsFrom n scope.names acc = acc)
    (hg : ∀ (s : Shared) (H : Hp) (C : Addr) (cl : List (Str × Addr)) (fp : List Addr), PG (X.blk s H scope (compEnvC scope cl C X.env) fp) tg g) (ht : ∀ (s : Shared) (H : Hp) (C : Addr) (cl : List (Str × Addr)) (fp : List Addr), PTs (X.blk s H scope (compEnvC scope cl C X.env) fp) ifs tt)
    (he : ∀ (s : Shared) (H : Hp) (C : Addr) (cl : List (Str × Addr)) (fp : List Addr), PE (X.blk s H scope (compEnvC scope cl C X.env) fp) elt te) (hs : ∀ x, foldedSetIterable iter X.env x = pure x := by intro _; rfl) :
    PE X (.ListComp elt [⟨tg, iter, ifs, 0⟩] scope pos) (tLcG tn g tt te (own.map (·.2))) := by
  refine ⟨fun pins s σ H Q I h => ?_⟩
  rw [eval_ListComp]
  refine lcG_core hr hc hN I hi ok hnc hg ht he hs h fun D C s' m H' I' q hn f => ⟨m, hn, fun h'' sb => ?_⟩
  obtain ⟨f0, f1, f2, f3, f4, f5⟩ := f
  exact ⟨.ref D, H', I'.turned (t' := s'.toks) (fun b o hb e => (sb.2 b hb).trans e) f0 f1 f3 f4 f5, rfl, q⟩
end
end Dn
namespace Dn
open PySem PySem.Spec PyProof.Rows L2 GenW
/-! generators as data: what is handed out, with the state behind each item -/
abbrev Its := List (D × Mo)
inductive YR where
  | bad
  | nx (ρ : Ro) (m : Mo) (l : Its)
  | bk (ρ : Ro) (m : Mo) (l : Its)
  | ct (ρ : Ro) (m : Mo) (l : Its)
  | rt (m : Mo) (l : Its)
abbrev DY := Ro → Mo → YR
def YR.pre (l : Its) : YR → YR
  | .bad => .bad
  | .nx ρ m k => .nx ρ m (l ++ k)
  | .bk ρ m k => .bk ρ m (l ++ k)
  | .ct ρ m k => .ct ρ m (l ++ k)
  | .rt m k => .rt m (l ++ k)
def yThen (f g : DY) : DY := fun ρ m => match f ρ m with
  | .nx ρ1 m1 l => (g ρ1 m1).pre l
  | r => r
def yNil : DY := fun ρ m => .nx ρ m []
def yPlain (f : DS) : DY := fun ρ m => match f ρ m with
  | .nx ρ m => .nx ρ m []
  | .bk ρ m => .bk ρ m []
  | .ct ρ m => .ct ρ m []
  | .rt .non m => .rt m []
  | _ => .bad
def muO : Option Sv → Bool
  | some s => s.mu
  | none => false
def yYield (f : DE) : DY := fun ρ m => match f ρ m with
  | .ok d m1 => if ρ.any muO = true then .bad else .nx ρ m1 [(d, m1)]
  | _ => .bad
def forY (h : D → Ro → Option Ro) (body : DY) : List D → Ro → Mo → YR
  | [], ρ, m => .nx ρ m []
  | d :: r, ρ, m => match h d ρ with
    | none => .bad
    | some ρ1 => match body ρ1 m with
      | .nx ρ2 m2 l => (forY h body r ρ2 m2).pre l
      | .ct ρ2 m2 l => (forY h body r ρ2 m2).pre l
      | .bk ρ2 m2 l => .nx ρ2 m2 l
      | .rt m2 l => .rt m2 l
      | .bad => .bad
def yFor (f : DI) (h : D → Ro → Option Ro) (body : DY) : DY := fun ρ m => match f ρ m with
  | .ok ds m1 => forY h body ds ρ m1
  | _ => .bad
/-- the consumer: P what stands with it, by what is to come -/
structure Con (G : Cl) (B : Bx) (yl : YlK) (P : Its → Nat → Hp → Prop) : Prop where
  lt : ∀ {it : D × Mo} {rest : Its} {k : Nat} {H0 : Hp}, P (it :: rest) k H0 → k < sizeLine
  step : ∀ {d : D} {m : Mo} {rest : Its} {k : Nat} {H0 H : Hp} {M : AP} {x : V}, P ((d, m) :: rest) k H0 → Ext B.A H0 H → m.ad = B.ad → m.has = B.A → MRep G M H m → LamX.Tabs B.T H → (∀ b, MB B b → M b) → (∀ b, M b → Liv H b) → Rep G B.ad (MB B) H x d →
    ∃ kk, yl k x H kk ∧ ∀ H', kk H' → P rest (k + 1) H' ∧ Ext (MB B) H H' ∧ MRep G (MB B) H' m ∧ LamX.Tabs B.T H' ∧ ∀ b, MB B b → Liv H' b
def BR (B B' : Bx) : Prop := ∃ h, B' = { B with H0 := h }
theorem BR.refl {B : Bx} : BR B B := ⟨B.H0, rfl⟩
theorem BR.trans {B B' B'' : Bx} (a : BR B B') (b : BR B' B'') : BR B B'' := by
  obtain ⟨h, rfl⟩ := a
  obtain ⟨h', rfl⟩ := b
  exact ⟨h', rfl⟩
theorem Con.br {G : Cl} {B B' : Bx} {yl : YlK} {P : Its → Nat → Hp → Prop} (c : Con G B yl P) (b : BR B B') : Con G B' yl P := by
  obtain ⟨h, rfl⟩ := b
  exact ⟨c.lt, c.step⟩
def PostY (G : Cl) (B : Bx) (M : AP) (H : Hp) (P : Its → Nat → Hp → Prop) (Z : GEndsY) (k : Nat) (r : YR) : Prop := match r with
  | .bad => False
  | .nx ρ m l => ∃ rest, P (l ++ rest) k B.H0 ∧ ∀ B' M' pm σ H', BR B B' → EnvR G B' M' pm ρ m σ H' → Stp M H M' H' → P rest (k + l.length) B'.H0 → Z.nx (k + l.length) σ H'
  | .bk ρ m l => ∃ rest, P (l ++ rest) k B.H0 ∧ ∀ B' M' pm σ H', BR B B' → EnvR G B' M' pm ρ m σ H' → Stp M H M' H' → P rest (k + l.length) B'.H0 → Z.bk (k + l.length) σ H'
  | .ct ρ m l => ∃ rest, P (l ++ rest) k B.H0 ∧ ∀ B' M' pm σ H', BR B B' → EnvR G B' M' pm ρ m σ H' → Stp M H M' H' → P rest (k + l.length) B'.H0 → Z.ct (k + l.length) σ H'
  | .rt m l => ∃ rest, P (l ++ rest) k B.H0 ∧ ∀ B' v H', BR B B' → Go G B' (MB B') m B'.H0 H' → P rest (k + l.length) B'.H0 → v = V.non → Z.rt (k + l.length) v H'
theorem PostY.later {G : Cl} {B : Bx} {M M1 : AP} {H H1 : Hp} {P : Its → Nat → Hp → Prop} {Z : GEndsY} {k : Nat} {r : YR} (h : PostY G B M H P Z k r) (s : Stp M H M1 H1) : PostY G B M1 H1 P Z k r := by
  cases r with
  | bad => exact h
  | nx ρ m l => obtain ⟨rest, a, b⟩ := h; exact ⟨rest, a, fun B' M' pm σ H' br e t => b B' M' pm σ H' br e (s.trans t)⟩
  | bk ρ m l => obtain ⟨rest, a, b⟩ := h; exact ⟨rest, a, fun B' M' pm σ H' br e t => b B' M' pm σ H' br e (s.trans t)⟩
  | ct ρ m l => obtain ⟨rest, a, b⟩ := h; exact ⟨rest, a, fun B' M' pm σ H' br e t => b B' M' pm σ H' br e (s.trans t)⟩
  | rt m l => exact h
/-- some was handed out, the rest comes -/
theorem PostY.pre {G : Cl} {B : Bx} {M : AP} {H : Hp} {P : Its → Nat → Hp → Prop} {Z : GEndsY} {k : Nat} {r : YR} {l1 : Its} (h : PostY G B M H P Z k (r.pre l1)) :
    ∃ rest, P (l1 ++ rest) k B.H0 ∧ ∀ B' M' H', BR B B' → Stp M H M' H' → P rest (k + l1.length) B'.H0 → PostY G B' M' H' P Z (k + l1.length) r := by
  have len : ∀ l : Its, k + (l1 ++ l).length = k + l1.length + l.length := fun l => by rw [List.length_append]; omega
  cases r with
  | bad => exact h.elim
  | nx ρ m l =>
    obtain ⟨rest, a, b⟩ := h
    refine ⟨l ++ rest, by rw [← List.append_assoc]; exact a, fun B' M' H' br s p => ⟨rest, p, fun B2 M2 pm σ H2 br2 e t q => ?_⟩⟩
    have z := b B2 M2 pm σ H2 (br.trans br2) e (s.trans t)
    rw [len] at z
    exact z q
  | bk ρ m l =>
    obtain ⟨rest, a, b⟩ := h
    refine ⟨l ++ rest, by rw [← List.append_assoc]; exact a, fun B' M' H' br s p => ⟨rest, p, fun B2 M2 pm σ H2 br2 e t q => ?_⟩⟩
    have z := b B2 M2 pm σ H2 (br.trans br2) e (s.trans t)
    rw [len] at z
    exact z q
  | ct ρ m l =>
    obtain ⟨rest, a, b⟩ := h
    refine ⟨l ++ rest, by rw [← List.append_assoc]; exact a, fun B' M' H' br s p => ⟨rest, p, fun B2 M2 pm σ H2 br2 e t q => ?_⟩⟩
    have z := b B2 M2 pm σ H2 (br.trans br2) e (s.trans t)
    rw [len] at z
    exact z q
  | rt m l =>
    obtain ⟨rest, a, b⟩ := h
    refine ⟨l ++ rest, by rw [← List.append_assoc]; exact a, fun B' M' H' br s p => ⟨rest, p, fun B2 v H2 br2 g q => ?_⟩⟩
    have z := b B2 v H2 (br.trans br2) g
    rw [len] at z
    exact z q
structure DsY (G : Cl) (t : TGY) (f : DY) : Prop where
  run : ∀ {B : Bx} {M : AP} {pm : Nat → Addr} {ρ : Ro} {m : Mo} {σ : L2.St} {H : Hp}, EnvR G B M pm ρ m σ H → ∀ (yl : YlK) (P : Its → Nat → Hp → Prop) (Z : GEndsY) (k : Nat), Con G B yl P → PostY G B M H P Z k (f ρ m) → t yl Z k σ H
section
variable {G : Cl} {t u : TGY} {f g : DY}
theorem dsy_nil : DsY G tNilY yNil := ⟨fun {B M pm ρ m σ H} e yl P Z k c p => by
  obtain ⟨rest, a, b⟩ := p
  exact b B M pm σ H .refl e .refl a⟩
theorem dsy_cons (a : DsY G t f) (b : DsY G u g) : DsY G (tThenY t u) (yThen f g) := ⟨fun {B M pm ρ m σ H} e yl P Z k c p => by
  refine a.run e yl P { Z with nx := fun k' σ' H' => u yl Z k' σ' H' } k c ?_
  unfold yThen at p
  cases hf : f ρ m with
  | nx ρ1 m1 l =>
    rw [hf] at p
    obtain ⟨rest, q1, q2⟩ := PostY.pre p
    exact ⟨rest, q1, fun B' M' pm' σ' H' br e' s' q => b.run e' yl P Z _ (c.br br) (q2 B' M' H' br s' q)⟩
  | bad => rw [hf] at p; exact p
  | bk ρ1 m1 l => rw [hf] at p; exact p
  | ct ρ1 m1 l => rw [hf] at p; exact p
  | rt m1 l => rw [hf] at p; exact p⟩
theorem dsy_plain {t : TS} {f : DS} (h : Ds G E00g t f) : DsY G (tPlainY t) (yPlain f) := ⟨fun {B M pm ρ m σ H} e yl P Z k c p => by
  refine h.run e (Z.at k) ?_
  unfold yPlain at p
  cases hf : f ρ m with
  | nx ρ1 m1 =>
    rw [hf] at p
    obtain ⟨rest, q1, q2⟩ := p
    exact fun M' pm' σ' H' e' s' => q2 B M' pm' σ' H' .refl e' s' q1
  | bk ρ1 m1 =>
    rw [hf] at p
    obtain ⟨rest, q1, q2⟩ := p
    exact fun M' pm' σ' H' e' s' => q2 B M' pm' σ' H' .refl e' s' q1
  | ct ρ1 m1 =>
    rw [hf] at p
    obtain ⟨rest, q1, q2⟩ := p
    exact fun M' pm' σ' H' e' s' => q2 B M' pm' σ' H' .refl e' s' q1
  | bad => rw [hf] at p; exact p.elim
  | exc c l m1 => rw [hf] at p; exact p.elim
  | rt d m1 =>
    rw [hf] at p
    cases d with
    | non =>
      obtain ⟨rest, q1, q2⟩ := p
      intro v H' g r
      cases r
      exact q2 B _ H' .refl g q1 rfl
    | _ => exact p.elim⟩
theorem dsy_yield {te : TE} {fe : DE} (he : De G E00g te fe) : DsY G (tYieldY te) (yYield fe) := ⟨fun {B M pm ρ m σ H} e yl P Z k c p => by
  unfold yYield at p
  cases hf : fe ρ m with
  | bad => rw [hf] at p; exact p.elim
  | exc c l m1 => rw [hf] at p; exact p.elim
  | ok d m1 =>
    rw [hf] at p
    dsimp only at p
    split at p
    · exact p.elim
    rename_i hmu
    have nm : ∀ i, ¬ isM ρ i := fun i ⟨s, h1, h2⟩ => hmu (List.any_eq_true.mpr ⟨some s, List.mem_of_getElem? h1, h2⟩)
    obtain ⟨rest, q1, q2⟩ := p
    have q1 : P ((d, m1) :: rest) k B.H0 := q1
    refine ⟨c.lt q1, he.run e _ ?_⟩
    rw [hf]
    intro x H1 g1 r1
    have e1 := e.go g1
    obtain ⟨kk, h1, h2⟩ := c.step (M := M) (x := x) q1 e1.ext e1.ea e1.eh e1.mr e1.tb e1.mb e1.hl (r1.less e1.mb)
    refine ⟨kk, h1, fun H' hk => ?_⟩
    obtain ⟨p1, xx, mr', tb', hl'⟩ := h2 H' hk
    have e2 : EnvR G { B with H0 := H' } (MB B) pm ρ m1 σ H' := by
      refine ⟨fun b hb => ?_, hl', e1.ea, e1.eh, e1.len, fun i d' hd => ?_, fun i l hd => (nm i ⟨_, hd, rfl⟩).elim, fun i l hd => (nm i ⟨_, hd, rfl⟩).elim, fun i l hd => (nm i ⟨_, hd, rfl⟩).elim, fun i j hi => (nm i hi).elim, fun i hi => (nm i hi).elim, fun b hb => hl' b (.inr hb), mr', e1.mx, fun i hi => (nm i hi).elim, .refl, tb', e1.tt⟩
      · rcases hb with h | h | ⟨i, h, _⟩
        · exact .inl h
        · exact .inr h
        · exact (nm i h).elim
      · obtain ⟨v, a1, a2⟩ := e1.sv i d' hd
        exact ⟨v, a1, (a2.less e1.mb).ext xx fun _ h => h⟩
    exact q2 { B with H0 := H' } (MB B) pm σ H' ⟨H', rfl⟩ e2 ((e.stp g1).trans ⟨xx.imp e1.mb, fun b hb => .inl (e1.mb b hb)⟩) p1⟩
theorem dsy_for {wi : TI} {gt : TG} {tb : TGY} {fi : DI} {h : D → Ro → Option Ro} {fb : DY} {os : List Nat} (hi : Di G E00g wi fi) (hg : Dg G gt h os) (hb : DsY G tb fb) : DsY G (tForY wi gt tb) (yFor fi h fb) := ⟨fun {B M pm ρ m σ H} e yl P Z k c p => by
  unfold yFor at p
  cases hf : fi ρ m with
  | bad => rw [hf] at p; exact p.elim
  | exc c l m1 => rw [hf] at p; exact p.elim
  | ok ds m1 =>
    rw [hf] at p
    dsimp only at p
    refine hi.run e _ ?_
    rw [hf]
    rintro J H1 g1 ⟨I, wk, hI⟩
    have e1 := e.go g1
    have p1 := PostY.later p (e.stp g1)
    refine ⟨fun i n k' σ' H' => n = ds.length - i ∧ i ≤ ds.length ∧ ∃ B' M' pm' ρ' m', BR B B' ∧ EnvR G B' M' pm' ρ' m' σ' H' ∧ I M' H' ∧ PostY G B' M' H' P Z k' (forY h fb (ds.drop i) ρ' m'),
      ⟨ds.length, by omega, Nat.zero_le _, B, M, pm, ρ, m1, .refl, e1, hI, p1⟩, ?_⟩
    rintro i n k' σ' H' ⟨rfl, hile, B', M', pm', ρ', m', br, e', I', p'⟩
    have wk' : Wk G B'.ad J ds I := by
      obtain ⟨h0, rfl⟩ := br
      exact wk
    by_cases hlt : i < ds.length
    · refine .inr ⟨wk'.go I' hlt, fun k2 σ2 H2 => ∃ B2 M2 pm2 ρ2 m2, BR B B2 ∧ EnvR G B2 M2 pm2 ρ2 m2 σ2 H2 ∧ I M2 H2 ∧ PostY G B2 M2 H2 P Z k2 (forY h fb (ds.drop (i + 1)) ρ2 m2), ?_, ?_⟩
      · rintro k2 σ2 H2 ⟨B2, M2, pm2, ρ2, m2, br2, e2, I2, p2⟩
        exact ⟨ds.length - (i + 1), by omega, rfl, by omega, B2, M2, pm2, ρ2, m2, br2, e2, I2, p2⟩
      · intro x H2 hy
        obtain ⟨x2, r2⟩ := wk'.yld I' e'.hm (List.getElem?_eq_getElem hlt) hy
        have g2 := e'.same x2
        have e2 := e'.go g2
        have st2 := e'.stp g2
        rw [List.drop_eq_getElem_cons hlt] at p'
        unfold forY at p'
        cases hρ : h ds[i] ρ' with
        | none =>
          rw [hρ] at p'
          exact p'.elim
        | some ρ1 =>
          rw [hρ] at p'
          dsimp only at p'
          refine hg.run e2 r2 hρ _ fun σ3 e3 _ => hb.run e3 yl P _ k' (c.br br) ?_
          cases hb' : fb ρ1 m' with
          | nx ρ2 m2 l2 =>
            rw [hb'] at p'
            obtain ⟨rest, q1, q2⟩ := PostY.pre p'
            exact ⟨rest, q1, fun B4 M4 pm4 σ4 H4 br4 e4 s4 q4 => ⟨B4, M4, pm4, ρ2, m2, br.trans br4, e4, wk'.keep I' (st2.trans s4), q2 B4 M4 H4 br4 (st2.trans s4) q4⟩⟩
          | ct ρ2 m2 l2 =>
            rw [hb'] at p'
            obtain ⟨rest, q1, q2⟩ := PostY.pre p'
            exact ⟨rest, q1, fun B4 M4 pm4 σ4 H4 br4 e4 s4 q4 => ⟨B4, M4, pm4, ρ2, m2, br.trans br4, e4, wk'.keep I' (st2.trans s4), q2 B4 M4 H4 br4 (st2.trans s4) q4⟩⟩
          | bk ρ2 m2 l2 =>
            rw [hb'] at p'
            obtain ⟨rest, q1, q2⟩ := p'
            exact ⟨rest, q1, fun B4 M4 pm4 σ4 H4 br4 e4 s4 q4 => q2 B4 M4 pm4 σ4 H4 br4 e4 (st2.trans s4) q4⟩
          | rt m2 l2 => rw [hb'] at p'; exact p'
          | bad => rw [hb'] at p'; exact p'
    · have hi' : i = ds.length := by omega
      subst hi'
      rw [List.drop_length] at p'
      obtain ⟨rest, q1, q2⟩ := p'
      exact .inl ⟨wk'.stop I', q2 B' M' pm' σ' H' .refl e' .refl q1⟩⟩
end
/-! the promise of a generator def, as data -/
def spYD (G : Cl) (nN : Nat) (f : DY) : SpY := fun vs yl fin H2 => ∃ M m ds P, Start G M m H2 ∧ Reps G m.ad M H2 vs ds ∧ Con G (bxOf G H2 M m) yl P ∧
  PostY G (bxOf G H2 M m) M H2 P { nx := fun k _ H' => fin k H', rt := fun k v H' => v = .non ∧ fin k H' } 0 (f (ro0 nN ds) m)
theorem gnY {G : Cl} {P : Program} {w : World} {K : PySem.W.Frag} {mg : Str → Option Value} {base : Heap} {k : Nat} {f : Addr} {x qual : Str} {st : Stmt} {fd : FuncData} {N ps : List Str} {fy : DY} (F : Fun K x qual st f fd) (S : GScope N ps (defScope st)) (hbi : Binds K fd ps []) (hnc : ∀ n, cellsFrom n (defScope st).names [] = [])
    (hbody : ∀ (cdv : Value) (A : Around) (out : List Env) (s : Shared) (H : Hp) (pn : List (Addr × Obj)), RG k (A.deeper (envOfC qual (defScope st) s.heap.objs.size f cdv)) →
      ∃ t, GSsY (gcxOf P w K mg base N qual (defScope st) f cdv A out s H E00g pn) (defBody st) t ∧ DsY G t fy) : GFnY P w K mg base (k + 1) f ps.length (spYD G N.length fy) :=
  gfnY_of F S hbi hnc fun cdv A out s H vs pn hr hl => by
    obtain ⟨t, h1, h2⟩ := hbody cdv A out s H pn hr
    exact ⟨t, h1, fun yl fin H2 ⟨M, m, ds, Pp, st0, r, c, p⟩ => h2.run (env_start st0 r fun _ => 0) yl Pp _ 0 c p⟩
def genD (nN : Nat) (f : DY) (ds : List D) (m : Mo) : Option (Its × Mo) := match f (ro0 nN ds) m with
  | .nx _ m' l => some (l, m')
  | .rt m' l => some (l, m')
  | _ => none
/-! [.. for .. in g(..) if ..] as data -/
def lcY (h : D → Ro → Option Ro) (ft : DT) (fe : DE) : Its → Ro → Option (List D)
  | [], _ => some []
  | (d, m) :: r, ρ => match h d ρ with
    | none => none
    | some ρ1 => match ft ρ1 m with
      | .ok true m1 => match fe ρ1 m1 with
        | .ok x _ => (lcY h ft fe r ρ).map (x :: ·)
        | _ => none
      | .ok false _ => lcY h ft fe r ρ
      | _ => none
def dLcG (np nN : Nat) (f : DY) (fa : DA) (h : D → Ro → Option Ro) (ft : DT) (fe : DE) (vs : List Nat) : DE := fun ρ m => (fa ρ m).bind fun ds m1 => if ds.length = np then match genD nN f ds m1 with
  | some (l, m2) => if l.length ≤ 100000 then match lcY h ft fe l (wipeD ρ vs) with
    | some xs => .ok (.lst xs) m2
    | none => .bad
    else .bad
  | none => .bad
  else .bad
/-- the state stays -/
def Still {α : Type} (f : Ro → Mo → R α) : Prop := ∀ ρ m a m', f ρ m = .ok a m' → m' = m
section
variable {G : Cl} {E : XK}
theorem de_lcG {np nN : Nat} {fy : DY} {ta : TA} {fa : DA} {g : TG} {tt : TT} {te : TE} {h : D → Ro → Option Ro} {ft : DT} {fe : DE} {os vs : List Nat} (ha : Da G E ta fa) (hg : Dg G g h os) (ht : Dt G E00 tt ft) (he : De G E00 te fe) (hos : ∀ i ∈ os, i ∈ vs) (st : Still ft) (se : Still fe) :
    De G E (tLcG (tGnC np (spYD G nN fy) ta) g tt te vs) (dLcG np nN fy fa h ft fe vs) := ⟨fun {B M pm ρ m σ H} e Q p => by
  refine ha.run e _ ((Post.bind p).imp' fun vs0 H1 ⟨ds, m1, g1, r1, p1⟩ => ?_)
  have e1 := e.go g1
  split at p1
  rotate_left
  · exact p1.elim
  rename_i hnp
  refine ⟨r1.length.trans hnp, fun D hD => ?_⟩
  split at p1
  rotate_left
  · exact p1.elim
  rename_i l m2 hgen
  split at p1
  rotate_left
  · exact p1.elim
  rename_i hlen
  split at p1
  rotate_left
  · exact p1.elim
  rename_i xs hxs
  have xD : Ext Non H1 (upd H1 D (.lst [])) := Ext.new hD
  have eP := (e1.plus (o := .lst []) hD (fun ps z => by cases z))
  have offD := e1.offX (Liv.none hD)
  have eW := eP.wipe (vs := vs)
  have nD : ¬ (B.plus D).A D := offD.2.2
  have hbA : m1.has = B.A := e1.eh
  have hba : m1.ad = B.ad := e1.ea
  have hbT : B.T = G.T := e1.tt
  have mb2 : ∀ b, (M b ∨ b = D) → MB (bxOf G (upd H1 D (.lst [])) (fun b => M b ∨ b = D) m1) b := fun b hb => bx_back hb
  have mb3 : ∀ b, MB (bxOf G (upd H1 D (.lst [])) (fun b => M b ∨ b = D) m1) b → (M b ∨ b = D) := fun b hb => bx_cover hb eP.start
  -- what the consumer knows
  let P : Its → Nat → Hp → Prop := fun l k H0 => ∃ mH done left vs', done ++ left = xs ∧ lcY h ft fe l (wipeD ρ vs) = some left ∧ EnvR G (B.plus D) (fun b => M b ∨ b = D) pm (wipeD ρ vs) mH (L2.wipe σ vs) H0 ∧ H0 D = some (.lst vs') ∧ done.length ≤ k ∧ k + l.length ≤ 100000 ∧
    Reps G B.ad (fun b => M b ∨ b = D) H0 vs' done ∧ Ext B.A H1 H0
  have fin : ∀ (k : Nat) (B' : Bx) (M' : AP) (H' : Hp), BR (bxOf G (upd H1 D (.lst [])) (fun b => M b ∨ b = D) m1) B' → Go G B' M' m2 B'.H0 H' → (∀ b, (M b ∨ b = D) → M' b) → P [] k B'.H0 → Q (.ref D) H' := fun k B' M' H' br gg hM' hp => by
    obtain ⟨h0, rfl⟩ := br
    obtain ⟨mH, done, left, vs', hdl, hl, e', hD', hdn, hk, hr, xx⟩ := hp
    unfold lcY at hl
    cases hl
    rw [List.append_nil] at hdl
    subst hdl
    have gB : Go G (B.plus D) (fun b => M b ∨ b = D) m2 h0 H' := ⟨gg.x.imp fun b hb => hbA ▸ hb, gg.ea.trans hba, gg.eh.trans hbA, gg.mr.less hM', by show LamX.Tabs B.T H'; rw [hbT]; exact gg.tb⟩
    have e2 := e'.go gB
    have hD2 : H' D = some (.lst vs') := gB.x _ _ nD (fun ps z => by cases z) hD'
    have nM : ¬ M D := fun z => Liv.none hD (e1.hl D z)
    exact p1 _ _ ⟨xx.trans gB.x, e2.ea, e2.eh, e2.mr.less fun b h => .inl h, e2.tb⟩ (.lst hD2 nM ((hr.ext gB.x fun b hb => .inl (e1.aM b hb)).less fun b h => .inl h))
  refine ⟨fun b => M b ∨ b = D, m1, ds, P, eP.start, ?_, ⟨fun {it rest k H0} hp => ?_, fun {d m rest k H0 H M' x} hp xA ea eh mr tb hMB hMl rx => ?_⟩, ?_⟩
  · rw [hba]
    exact (r1.off (Liv.none hD)).ext xD fun _ z => z.elim
  · obtain ⟨mH, done, left, vs', _, _, _, _, _, hk, _⟩ := hp
    simp only [List.length_cons] at hk
    exact Nat.lt_of_lt_of_le (by omega : k < 100001) (by decide)
  · obtain ⟨mH, done, left, vs', hdl, hl, e', hD', hdn, hk, hr, xx⟩ := hp
    have gB : Go G (B.plus D) (fun b => M b ∨ b = D) m H0 H := ⟨xA.imp fun b hb => hbA ▸ hb, ea.trans hba, eh.trans hbA, mr.less fun b hb => hMB b (mb2 b hb), by show LamX.Tabs B.T H; rw [hbT]; exact tb⟩
    have e2 := e'.go gB
    have rx : Rep G m1.ad (MB (bxOf G (upd H1 D (.lst [])) (fun b => M b ∨ b = D) m1)) H x d := rx
    rw [hba] at rx
    have r2 : Rep G (B.plus D).ad (fun b => M b ∨ b = D) H x d := rx.less mb2
    have hD2 : H D = some (.lst vs') := gB.x _ _ nD (fun ps z => by cases z) hD'
    have hr2 : Reps G B.ad (fun b => M b ∨ b = D) H vs' done := hr.ext gB.x fun b hb => .inl (e1.aM b hb)
    have aM2 : ∀ b, (B.plus D).A b → (M b ∨ b = D) := fun b hb => .inl (e1.aM b hb)
    unfold lcY at hl
    cases hρ : h d (wipeD ρ vs) with
    | none => rw [hρ] at hl; cases hl
    | some ρ1 =>
      rw [hρ] at hl
      dsimp only at hl
      let KK : Hp → Prop := fun H' => P rest (k + 1) H' ∧ Ext (fun b => M b ∨ b = D) H H' ∧ MRep G (fun b => M b ∨ b = D) H' m ∧ LamX.Tabs B.T H' ∧ ∀ b, (M b ∨ b = D) → Liv H' b
      refine ⟨KK, ⟨⟨vs', hD2⟩, hg.run e2 r2 hρ _ fun σ3 e3 w3 => ⟨?_, ?_⟩⟩, fun H' ⟨z1, z2, z3, z4, z5⟩ => ⟨z1, z2.imp mb2, z3.less mb3, by show LamX.Tabs G.T H'; rw [← hbT]; exact z4, fun b hb => z5 b (mb3 b hb)⟩⟩
      · rw [w3 vs hos]
        exact wipe_twice
      · refine ht.run e3 _ ?_
        cases hb : ft ρ1 m with
        | bad => rw [hb] at hl; cases hl
        | exc c l m4 => rw [hb] at hl; cases hl
        | ok b m4 =>
          have e44 := st _ _ _ _ hb
          subst e44
          rw [hb] at hl
          intro b' H4 g4 hbb
          subst hbb
          have e4 := e2.go g4
          have hD4 : H4 D = some (.lst vs') := g4.x _ _ nD (fun ps z => by cases z) hD2
          have hr4 : Reps G B.ad (fun b => M b ∨ b = D) H4 vs' done := hr2.ext g4.x aM2
          have xx4 : Ext B.A H1 H4 := (xx.trans gB.x).trans g4.x
          have x4 : Ext (fun b => M b ∨ b = D) H H4 := g4.x.imp aM2
          simp only [List.length_cons] at hk
          cases b' with
          | false =>
            refine iteF ?_
            exact ⟨⟨m4, done, left, vs', hdl, hl, e4, hD4, Nat.le_succ_of_le hdn, by omega, hr4, xx4⟩, x4, e4.mr, e4.tb, e4.hl⟩
          | true =>
            refine iteT ?_
            have e34 := e3.go g4
            dsimp only at hl
            refine he.run e34 _ ?_
            cases hv : fe ρ1 m4 with
            | bad => rw [hv] at hl; cases hl
            | exc c l m5 => rw [hv] at hl; cases hl
            | ok z m5 =>
              have e55 := se _ _ _ _ hv
              subst e55
              rw [hv] at hl
              obtain ⟨tl, q1, q2⟩ := Option.map_eq_some_iff.mp hl
              subst q2
              intro v H5 g5 rv
              have e5 := e4.go g5
              have hD5 : H5 D = some (.lst vs') := g5.x _ _ nD (fun ps z => by cases z) hD4
              have hr5 : Reps G B.ad (fun b => M b ∨ b = D) H5 vs' done := hr4.ext g5.x aM2
              refine ⟨vs', hD5, ?_, ?_⟩
              · rw [hr5.length]
                exact Nat.lt_of_le_of_lt hdn (Nat.lt_of_lt_of_le (by omega : k < 100001) (by decide))
              · have hXD : (B.plus D).X D := .inr rfl
                have e6 := e5.chgX (o := .lst (vs' ++ [v])) hXD offD.1 (fun ps z => by cases z) (.lst hD5)
                have x6 : Ext (fun b => M b ∨ b = D) H5 (upd H5 D (.lst (vs' ++ [v]))) := Ext.refl.chg (.inr (.inr rfl))
                exact ⟨⟨m5, done ++ [z], tl, vs' ++ [v], by rw [← hdl]; simp, q1, e6, upd_same, by simp; omega, by omega, ((hr5.append (.one rv)).ext x6 fun _ h => h), (xx4.trans g5.x).chg (.inl (Liv.none hD))⟩, (x4.trans (g5.x.imp aM2)).trans x6, e6.mr, e6.tb, e6.hl⟩
  · have hp0 : ∀ l', l' = l → P (l' ++ []) 0 (upd H1 D (.lst [])) := fun l' hl' => by
      subst hl'
      rw [List.append_nil]
      exact ⟨m1, [], xs, [], rfl, hxs, eW, upd_same, Nat.le_refl _, by omega, .nil, xD.imp fun _ z => z.elim⟩
    unfold genD at hgen
    cases hf : fy (ro0 nN ds) m1 with
    | bad => rw [hf] at hgen; cases hgen
    | bk ρ' m' l' => rw [hf] at hgen; cases hgen
    | ct ρ' m' l' => rw [hf] at hgen; cases hgen
    | nx ρ' m' l' =>
      rw [hf] at hgen
      cases hgen
      exact ⟨[], hp0 _ rfl, fun B' M' pm' σ' H' br e' s' q => fin _ B' M' H' br ⟨e'.ext, e'.ea, e'.eh, e'.mr, e'.tb⟩ (fun b hb => by
        obtain ⟨h0, rfl⟩ := br
        exact e'.mb b (mb2 b hb)) q⟩
    | rt m' l' =>
      rw [hf] at hgen
      cases hgen
      exact ⟨[], hp0 _ rfl, fun B' v H' br gg q ev => ⟨ev, fin _ B' (MB B') H' br gg (fun b hb => by
        obtain ⟨h0, rfl⟩ := br
        exact mb2 b hb) q⟩⟩⟩
end
end Dn
namespace Dn
open PySem PySem.Spec PyProof.Rows L2 GenW
/-! name = [.. for .. in g(..)] on one line -/
section
variable {X : Cx}
theorem ps_setLcG {k : Nat} {i : Nat} {y : Str} {py : Pos} {elt tg iter : Expr} {ifs : List Expr} {scope : Scope} {own : List (Str × Nat)} {pos spos : Pos} {tn : TGn} {g : TG} {tt : TT} {te : TE} (hr : RG (k + 1) X.A) (hc : X.calm = true) (hN : X.N.Nodup) (hy : X.N[i]? = some y) (hyl : X.env.scope.names.lookup y = some .local)
    (hsw : swapsWith (.ListComp elt [⟨tg, iter, ifs, 0⟩] scope pos) (some (.Name y py)) spos.line X.env = pure true) (hi : PGn X k iter tn) (ok : BlkOk X.N X.env.scope scope own) (hnc : ∀ n acc, cellsFrom n scope.names acc = acc)
    (hg : ∀ (s : Shared) (H : Hp) (C : Addr) (cl : List (Str × Addr)) (fp : List Addr), PG (X.blk s H scope (compEnvC scope cl C X.env) fp) tg g) (ht : ∀ (s : Shared) (H : Hp) (C : Addr) (cl : List (Str × Addr)) (fp : List Addr), PTs (X.blk s H scope (compEnvC scope cl C X.env) fp) ifs tt)
    (he : ∀ (s : Shared) (H : Hp) (C : Addr) (cl : List (Str × Addr)) (fp : List Addr), PE (X.blk s H scope (compEnvC scope cl C X.env) fp) elt te) (hs : ∀ x, foldedSetIterable iter X.env x = pure x := by intro _; rfl) :
    PS X (.Assign [.Name y py] (.ListComp elt [⟨tg, iter, ifs, 0⟩] scope pos) spos) (tAsg (tLcG tn g tt te (own.map (·.2))) (gName i)) := by
  refine ⟨fun pins s σ H D I h => ?_⟩
  rw [exec_Assign_Name_used _ _ _ _ hsw]
  refine wpAny_bind (wpAny_standAt (wpAny_bind ?_))
  show wpAny _ X.A (do let _ ← comprehension (.ListComp elt [⟨tg, iter, ifs, 0⟩] scope pos) scope X.env (firstIterPos [⟨tg, iter, ifs, 0⟩] pos) (newList []) false (eval iter X.env) (some (assign (.Name y py) X.env))) _ _ s
  have h : tLcG tn g tt te (own.map (·.2)) σ H (fun x H1 => gName i x σ H1 D.nx) := h
  refine wpAny_bind (thn (lcG_core (Qf := fun _ s' => SP X pins D .next s') hr hc hN I hi ok hnc hg ht he hs h fun L C s' m H' I' q hn f => ?_) fun _ s' hq => wpAny_pure (wpAny_pure hq))
  show wpAny _ _ (assign (.Name y py) X.env (.ref L)) _ _ _
  refine wpAny_assign_Name (store_ok2 (v := V.ref L) I' hN hy (.inl hyl) rfl (fun s2 I2 ⟨a, sb, ha⟩ => ?_) (.inr hyl))
  obtain ⟨f0, f1, f2, f3, f4, f5⟩ := f
  have haC : C ≠ a := by
    rcases ha with z | z
    · rw [z]; exact f1
    · exact fun e => f4 y a z e.symm
  refine ⟨m, hn.sameBut sb haC, fun h3 sb3 => ?_⟩
  exact ⟨_, H', I2.turned (t' := s2.toks) (fun b o hb e => (sb3.2 b hb).trans e) f0 f1 f3 f4 f5, q⟩
end
/-! the state stays -/
section
variable {f f' : DE} {g : D → D → Option D} {gl : List D → Option D} {fa : DA}
theorem still_yes : Still (α := Bool) fun _ m => .ok true m := fun ρ m a m' h => by cases h; rfl
theorem still_var {i : Nat} : Still (dVar i) := fun ρ m a m' h => by
  unfold dVar at h
  split at h
  · cases h; rfl
  · cases h
theorem still_of {α : Type} {o : Option α} {m m' : Mo} {a : α} (h : R.of o m = .ok a m') : m' = m := by
  cases o with
  | none => cases h
  | some x => cases h; rfl
theorem still_fld {c : Nat} (h : Still f) : Still (dFld c f) := fun ρ m a m' e => by
  obtain ⟨x, m1, e1, e2⟩ := ok_bind e
  have := h _ _ _ _ e1
  subst this
  split at e2
  · split at e2
    · cases e2; rfl
    · cases e2
  · cases e2
theorem still_op (h : Still f) (h' : Still f') : Still (dOp g f f') := fun ρ m a m' e => by
  obtain ⟨x, m1, e1, e2⟩ := ok_bind e
  obtain ⟨y, m2, e3, e4⟩ := ok_bind e2
  rw [still_of e4, h' _ _ _ _ e3, h _ _ _ _ e1]
theorem still_nil : Still dNil := fun ρ m a m' h => by cases h; rfl
theorem still_cons (h : Still f) (h' : Still fa) : Still (dCons f fa) := fun ρ m a m' e => by
  obtain ⟨x, m1, e1, e2⟩ := ok_bind e
  obtain ⟨y, m2, e3, e4⟩ := ok_bind e2
  cases e4
  rw [h' _ _ _ _ e3, h _ _ _ _ e1]
theorem still_cb (h : Still fa) : Still (dCB gl fa) := fun ρ m a m' e => by
  obtain ⟨x, m1, e1, e2⟩ := ok_bind e
  rw [still_of e2, h _ _ _ _ e1]
theorem still_test (h : Still f) : Still (dTest f) := fun ρ m a m' e => by
  obtain ⟨x, m1, e1, e2⟩ := ok_bind e
  have := h _ _ _ _ e1
  subst this
  split at e2
  · cases e2; rfl
  · cases e2
def StillF (F : DF) : Prop := ∀ ds m a m', F ds m = .ok a m' → m' = m
def StillS (s : DS) : Prop := ∀ ρ m, (∀ ρ' m', s ρ m = .nx ρ' m' → m' = m) ∧ ∀ d m', s ρ m = .rt d m' → m' = m
theorem stillS_ret (h : Still f) : StillS (sRet f) := fun ρ m => by
  refine ⟨fun ρ' m' e => ?_, fun d m' e => ?_⟩
  · unfold sRet sBind at e
    split at e
    · cases e
    · cases e
    · cases e
  · unfold sRet sBind at e
    split at e
    · cases e
    · rename_i e1
      cases e
      exact h _ _ _ _ e1
    · cases e
theorem stillF_run {N : Nat} {s : DS} (h : StillS s) : StillF (runD N s) := fun ds m a m' e => by
  unfold runD at e
  split at e
  · rename_i e1
    cases e
    exact (h _ _).1 _ _ e1
  · rename_i e1
    cases e
    exact (h _ _).2 _ _ e1
  · cases e
  · cases e
theorem still_lenOwn {c : Nat} {F : DF} (h : Still fa) (hF : StillF F) : Still (dLenOwn c F fa) := fun ρ m a m' e => by
  obtain ⟨x, m1, e1, e2⟩ := ok_bind e
  have := h _ _ _ _ e1
  subst this
  split at e2
  · split at e2
    · obtain ⟨y, m2, e3, e4⟩ := ok_bind e2
      have := hF _ _ _ _ e3
      subst this
      split at e4
      · split at e4
        · cases e4; rfl
        · cases e4
      · cases e4
    · cases e2
  · cases e2
end
end Dn
namespace Law
open PySem PySem.Spec PyProof.Rows L2 Dn
local macro_rules | `(tactic| and_intros) => `(tactic| simp (disch := omega) only [ev_cf, ev_isCl, ev_propC, ev_lenC, ev_cset, ev_caug, ev_methC, ev_pick, ev_slS, ev_seqS, ev_bind, ev_bindx, ev_map, ev_mapx, ev_of, ev_sb, ev_sbx, ev_nx, ev_rt, ev_nexc, ev_var0, ev_varS, ev_peek0, ev_peekM0, ev_peekS, ev_c, ev_op, ev_un, ev_nil, ev_cons, ev_cb, ev_tup, ev_lst, ev_test, ev_not, ev_and, ev_or, ev_if, ev_tru, ev_dv, ev_dvl, ev_fld, ev_fld2, ev_fld2_0, ev_fld2_1, ev_initC, ev_idxT, ev_call, ev_meth, ev_make, ev_seq, ev_set, ev_ret, ev_expr, ev_sif, ev_sNx, ev_par, ev_frz, ev_frzR, ev_app, ev_put, ev_run, ev_init, ev_rgT2, ev_rng1, ev_rng2, ev_seqU, ev_enumU, ev_sl, ev_nop, ev_part, ev_star, ev_chain, ev_chain3, ev_isi, ev_isiT, ev_addI, ev_addS, ev_addT, ev_addL, ev_subI, ev_mulR, ev_mulL, ev_modI, ev_divI, ev_intI, ev_absI, ev_lenT, ev_lenL, ev_cmp, ev_eqI, ev_neI, ev_toTupT, ev_toTupL, ev_hName, ro0, List.map_cons, List.map_nil, List.length_cons, List.length_nil, List.cons_append, List.nil_append, List.getElem?_cons_zero, List.getElem?_cons_succ, List.set_cons_zero, List.set_cons_succ, Nat.reduceAdd, Nat.reduceSub, List.replicate_succ, List.replicate_zero, Nat.reduceLT, Nat.reduceLeDiff, if_true, if_false, reduceIte, Bool.true_eq_false, Bool.false_eq_true, Bool.not_true, Bool.not_false, Nat.zero_add, List.append_nil, Nat.lt_add_one, Nat.succ_eq_add_one, ev_lc, ev_for, ev_wipe0, ev_wipeS, ev_hTup, ev_hCons, ev_hNil, ev_some, rangeD_len, Int.reduceToNat, Int.reduceSub, Int.reduceLE, Int.reduceLT, Int.reduceNeg, and_self, ev_pow18, Int.toNat_natCast, ev_slT, ev_slL, ev_revT, ev_revL, ev_truB, ev_truI, ev_truT, ev_truL, ev_truN, ev_eqS, ev_neS, ev_isA, ev_eqA, ev_heard, ev_heardD, ev_heardX, ev_xf, ev_exc, ev_exc0, ev_mov, ev_lend, ev_raise1, ev_raise0, ev_rgL2, ev_dvRg2, ev_dnew, ev_dI, ev_andV, ev_orV, ev_notV, ev_ofX, ev_ofO, ev_ofI, ev_ofN, ev_ofB, ev_ofS, ev_ofT, ev_ofL, ev_outN, ev_outR, ev_outX, ev_noX, ev_toLstL, ev_toLstT, ev_negI, ev_max2, ev_min2, ev_dvList, ev_lenOwn, ev_asg, ev_ok2O, ev_lc2, ev_par2L, ev_par3L, ev_par2F, ev_par2K, ev_parV, ev_dvsN, ev_dvsC, ev_setsC, ev_setsN, ev_ixVL, ev_ixVT, ev_ixVS, ev_ixVI, ev_ixVX, ev_inVL, ev_inVT, ev_inVI, ev_inVX, ev_getU, ev_isDd, ev_isDn, ev_lookI, ev_lookX, ev_putU, ev_put2, ev_store, ev_hasM, ev_muL, ev_muK, ev_muN, ev_storeD, ev_keyI, ev_keyX, ev_dvnew, ev_peekK0, ev_peekN0, List.mem_cons, List.not_mem_nil, or_false, forall_eq_or_imp, forall_eq, Option.map_some, Bool.false_xor, Bool.true_xor, ev_asg2, ev_rgL1, ev_bestL, ev_srtX, ev_anyL, ev_dcG, ev_keysN, ev_dvnewN, ev_setX, ev_index, ev_toLstN, ev_lenN, ev_lstVals, ev_maxVals])
def top (i : Nat) : Stmt := nth PySem.Challenge.pw_faceabout_k41_rows_listed.main.body i
abbrev s_is_whole : Stmt := top 14
def N_is_whole : List Str := ["value"]
theorem sc_is_whole : FnScope N_is_whole ["value"] (defScope s_is_whole) := ⟨rfl, rfl, rfl, by decide +kernel, rfl, by decide +kernel, by decide +kernel⟩
def d_is_whole : He.DefD := ⟨("is_whole", none), "is_whole", "is_whole", defArgs s_is_whole, defBody s_is_whole, defScope s_is_whole, [], []⟩
abbrev s_is_among : Stmt := top 15
def N_is_among : List Str := ["value", "least", "most"]
theorem sc_is_among : FnScope N_is_among ["value", "least", "most"] (defScope s_is_among) := ⟨rfl, rfl, rfl, by decide +kernel, rfl, by decide +kernel, by decide +kernel⟩
def d_is_among : He.DefD := ⟨("is_among", none), "is_among", "is_among", defArgs s_is_among, defBody s_is_among, defScope s_is_among, [], []⟩
abbrev s_is_list : Stmt := top 16
def N_is_list : List Str := ["value"]
theorem sc_is_list : FnScope N_is_list ["value"] (defScope s_is_list) := ⟨rfl, rfl, rfl, by decide +kernel, rfl, by decide +kernel, by decide +kernel⟩
def d_is_list : He.DefD := ⟨("is_list", none), "is_list", "is_list", defArgs s_is_list, defBody s_is_list, defScope s_is_list, [], []⟩
abbrev s_need_waggons : Stmt := top 17
def N_need_waggons : List Str := ["waggons", "known", "place", "waggon"]
theorem sc_need_waggons : FnScope N_need_waggons ["waggons"] (defScope s_need_waggons) := ⟨rfl, rfl, rfl, by decide +kernel, rfl, by decide +kernel, by decide +kernel⟩
def d_need_waggons : He.DefD := ⟨("need_waggons", none), "need_waggons", "need_waggons", defArgs s_need_waggons, defBody s_need_waggons, defScope s_need_waggons, [], []⟩
abbrev s_Row___init__ : Stmt := nth (clsB (top 18)) 1
def N_Row___init__ : List Str := ["self", "waggons"]
theorem sc_Row___init__ : FnScope N_Row___init__ ["self", "waggons"] (defScope s_Row___init__) := ⟨rfl, rfl, rfl, by decide +kernel, rfl, by decide +kernel, by decide +kernel⟩
def d_Row___init__ : He.DefD := ⟨("Row", some "__init__"), "__init__", "Row.__init__", defArgs s_Row___init__, defBody s_Row___init__, defScope s_Row___init__, [], []⟩
abbrev s_Row___len__ : Stmt := nth (clsB (top 18)) 2
def N_Row___len__ : List Str := ["self"]
theorem sc_Row___len__ : FnScope N_Row___len__ ["self"] (defScope s_Row___len__) := ⟨rfl, rfl, rfl, by decide +kernel, rfl, by decide +kernel, by decide +kernel⟩
def d_Row___len__ : He.DefD := ⟨("Row", some "__len__"), "__len__", "Row.__len__", defArgs s_Row___len__, defBody s_Row___len__, defScope s_Row___len__, [], []⟩
abbrev s_Row___eq__ : Stmt := nth (clsB (top 18)) 3
def N_Row___eq__ : List Str := ["self", "other"]
def d_Row___eq__ : He.DefD := ⟨("Row", some "__eq__"), "__eq__", "Row.__eq__", defArgs s_Row___eq__, defBody s_Row___eq__, defScope s_Row___eq__, [], []⟩
abbrev s_need_counted : Stmt := top 21
def N_need_counted : List Str := ["many"]
theorem sc_need_counted : FnScope N_need_counted ["many"] (defScope s_need_counted) := ⟨rfl, rfl, rfl, by decide +kernel, rfl, by decide +kernel, by decide +kernel⟩
def d_need_counted : He.DefD := ⟨("need_counted", none), "need_counted", "need_counted", defArgs s_need_counted, defBody s_need_counted, defScope s_need_counted, [], []⟩
abbrev s_rows_so : Stmt := top 22
def N_rows_so : List Str := ["many", "found", "again", "longer", "waggons", "known", "some", "waggon"]
theorem sc_rows_so : FnScope N_rows_so ["many"] (defScope s_rows_so) := ⟨rfl, rfl, rfl, by decide +kernel, rfl, by decide +kernel, by decide +kernel⟩
def d_rows_so : He.DefD := ⟨("rows_so", none), "rows_so", "rows_so", defArgs s_rows_so, defBody s_rows_so, defScope s_rows_so, [], []⟩
abbrev s_rows_of : Stmt := top 23
def N_rows_of : List Str := ["many", "waggons"]
theorem sc_rows_of : GScope N_rows_of ["many"] (defScope s_rows_of) := ⟨rfl, rfl, rfl, by decide +kernel, rfl, by decide +kernel, by decide +kernel⟩
def d_rows_of : He.DefD := ⟨("rows_of", none), "rows_of", "rows_of", defArgs s_rows_of, defBody s_rows_of, defScope s_rows_of, [], []⟩
abbrev s__law_mixed : Stmt := top 25
def N__law_mixed : List Str := ["cell", "n", "blend"]
theorem sc__law_mixed : FnScope N__law_mixed ["cell", "n"] (defScope s__law_mixed) := ⟨rfl, rfl, rfl, by decide +kernel, rfl, by decide +kernel, by decide +kernel⟩
def d__law_mixed : He.DefD := ⟨("_law_mixed", none), "_law_mixed", "_law_mixed", defArgs s__law_mixed, defBody s__law_mixed, defScope s__law_mixed, [], []⟩
abbrev s__law_folded : Stmt := top 26
def N__law_folded : List Str := ["script", "found", "n", "cell"]
theorem sc__law_folded : FnScope N__law_folded ["script"] (defScope s__law_folded) := ⟨rfl, rfl, rfl, by decide +kernel, rfl, by decide +kernel, by decide +kernel⟩
def d__law_folded : He.DefD := ⟨("_law_folded", none), "_law_folded", "_law_folded", defArgs s__law_folded, defBody s__law_folded, defScope s__law_folded, [], []⟩
abbrev s__law_draw : Stmt := top 27
def N__law_draw : List Str := ["m", "limit", "n", "lot", "here", "cell"]
theorem sc__law_draw : FnScope N__law_draw ["m", "limit"] (defScope s__law_draw) := ⟨rfl, rfl, rfl, by decide +kernel, rfl, by decide +kernel, by decide +kernel⟩
def d__law_draw : He.DefD := ⟨("_law_draw", none), "_law_draw", "_law_draw", defArgs s__law_draw, defBody s__law_draw, defScope s__law_draw, [], []⟩
abbrev s__law_begun : Stmt := top 28
def N__law_begun : List Str := ["script", "m", "cell"]
theorem sc__law_begun : FnScope N__law_begun ["script"] (defScope s__law_begun) := ⟨rfl, rfl, rfl, by decide +kernel, rfl, by decide +kernel, by decide +kernel⟩
def d__law_begun : He.DefD := ⟨("_law_begun", none), "_law_begun", "_law_begun", defArgs s__law_begun, defBody s__law_begun, defScope s__law_begun, [], []⟩
abbrev s__law_turn : Stmt := top 29
def N__law_turn : List Str := ["waggons", "first", "last", "one"]
theorem sc__law_turn : FnScope N__law_turn ["waggons", "first", "last"] (defScope s__law_turn) := ⟨rfl, rfl, rfl, by decide +kernel, rfl, by decide +kernel, by decide +kernel⟩
def d__law_turn : He.DefD := ⟨("_law_turn", none), "_law_turn", "_law_turn", defArgs s__law_turn, defBody s__law_turn, defScope s__law_turn, [], []⟩
abbrev s__law_walked : Stmt := top 30
def N__law_walked : List Str := ["many", "start", "found", "layer", "number", "later", "waggons", "first", "last", "near"]
theorem sc__law_walked : FnScope N__law_walked ["many"] (defScope s__law_walked) := ⟨rfl, rfl, rfl, by decide +kernel, rfl, by decide +kernel, by decide +kernel⟩
def d__law_walked : He.DefD := ⟨("_law_walked", none), "_law_walked", "_law_walked", defArgs s__law_walked, defBody s__law_walked, defScope s__law_walked, [], []⟩
abbrev s__law_class : Stmt := top 31
def N__law_class : List Str := ["error", "rows", "words", "word", "holds"]
theorem sc__law_class : FnScope N__law_class ["error"] (defScope s__law_class) := ⟨rfl, rfl, rfl, by decide +kernel, rfl, by decide +kernel, by decide +kernel⟩
def d__law_class : He.DefD := ⟨("_law_class", none), "_law_class", "_law_class", defArgs s__law_class, defBody s__law_class, defScope s__law_class, [], []⟩
abbrev s__law_told : Stmt := top 32
def N__law_told : List Str := ["call", "found", "error", "e"]
theorem sc__law_told : FnScope N__law_told ["call"] (defScope s__law_told) := ⟨rfl, rfl, rfl, by decide +kernel, rfl, by decide +kernel, by decide +kernel⟩
def d__law_told : He.DefD := ⟨("_law_told", none), "_law_told", "_law_told", defArgs s__law_told, defBody s__law_told, defScope s__law_told, [], []⟩
abbrev s_law : Stmt := top 33
def N_law : List Str := ["script", "m", "many", "odd", "told", "row", "n"]
theorem sc_law : FnScope N_law ["script"] (defScope s_law) := ⟨rfl, rfl, rfl, by decide +kernel, rfl, by decide +kernel, by decide +kernel⟩
def d_law : He.DefD := ⟨("law", none), "law", "law", defArgs s_law, defBody s_law, defScope s_law, [], []⟩
def fn : List He.DefD := [d_is_whole, d_is_among, d_is_list, d_need_waggons, d_Row___init__, d_Row___len__, d_Row___eq__, d_need_counted, d_rows_so, d_rows_of, d__law_mixed, d__law_folded, d__law_draw, d__law_begun, d__law_turn, d__law_walked, d__law_class, d__law_told, d_law]
def fa : List He.Fa := [.glo "is_whole", .glo "is_among", .glo "is_list", .glo "need_waggons", .meth "Row" "__init__", .meth "Row" "__len__", .meth "Row" "__eq__", .glo "need_counted", .glo "rows_so", .glo "rows_of", .glo "_law_mixed", .glo "_law_folded", .glo "_law_draw", .glo "_law_begun", .glo "_law_turn", .glo "_law_walked", .glo "_law_class", .glo "_law_told", .glo "law", .glo "BadRow", .glo "BadTurn", .glo "BadPlace", .glo "BadNumber", .glo "OtherLength", .glo "BadText", .glo "BadWay", .glo "NothingLeft", .glo "TooGreat", .glo "FaceError", .glo "Row", .mkr "Row", .free "dict", .free "ValueError", .free "OverflowError", .free "len", .free "abs", .free "range", .free "enumerate", .free "zip", .free "tuple", .free "list", .free "int", .free "str", .free "repr", .free "isinstance", .free "min", .free "max", .free "sum", .free "any", .free "all", .free "sorted", .free "bool", .free "super", .int "MOST_WAGGONS" 24, .int "MOST_COUNTED" 5, .str "__name__" "law_faceabout_k41_rows_listed"]
def xd (i : Nat) (x : Str) (ov : Bool) (fld : Option Str) : XD := ⟨x, ov, fld, x ++ ".__init__", defArgs (nth (clsB (top i)) 0), defBody (nth (clsB (top i)) 0), defScope (nth (clsB (top i)) 0)⟩
def xs : List XD := [xd 3 "BadRow" false (some "place"), xd 4 "BadTurn" false (some "place"), xd 5 "BadPlace" false (some "value"), xd 6 "BadNumber" false (some "value"), xd 7 "OtherLength" false none, xd 8 "BadText" false (some "place"), xd 9 "BadWay" false (some "value"), xd 10 "NothingLeft" false none, xd 11 "TooGreat" true (some "most")]
def tf : List He.Defn := [("law", none)]
def GG (w : World) (K : PySem.W.Frag) : Cl := { w := w, K := K, cl := fun n => match n with | 0 => He.ga K "Row" | _ => 0, xc := fun n => match n with | 0 => He.ga K "BadRow" | 1 => He.ga K "BadTurn" | 2 => He.ga K "BadPlace" | 3 => He.ga K "BadNumber" | 4 => He.ga K "OtherLength" | 5 => He.ga K "BadText" | 6 => He.ga K "BadWay" | 7 => He.ga K "NothingLeft" | 8 => He.ga K "TooGreat" | _ => 0, xf := fun n => match n with | 0 => (some "place") | 1 => (some "place") | 2 => (some "value") | 3 => (some "value") | 4 => none | 5 => (some "place") | 6 => (some "value") | 7 => none | 8 => (some "most") | _ => none, T := [((He.cT K ("law", none)).2, ("law" ++ ".<locals>." ++ "<lambda>" : Str))] }
def okR : Nat → Bool := fun c => [0].contains c
def xs_place : List Nat := [0, 1, 5]
def xs_value : List Nat := [2, 3, 6]
def xs_most : List Nat := [8]
def it_Row : IsT := isT [("NoneType", false), ("bool", false), ("int", false), ("str", false), ("tuple", false), ("list", false), ("dict", false)] [true] [false, false, false, false, false, false, false, false, false]
def it_BadRow : IsT := isT [("NoneType", false), ("bool", false), ("int", false), ("str", false), ("tuple", false), ("list", false), ("dict", false)] [false] [true, false, false, false, false, false, false, false, false]
def it_BadTurn : IsT := isT [("NoneType", false), ("bool", false), ("int", false), ("str", false), ("tuple", false), ("list", false), ("dict", false)] [false] [false, true, false, false, false, false, false, false, false]
def it_TooGreat : IsT := isT [("NoneType", false), ("bool", false), ("int", false), ("str", false), ("tuple", false), ("list", false), ("dict", false)] [false] [false, false, false, false, false, false, false, false, true]
def it_BadPlace : IsT := isT [("NoneType", false), ("bool", false), ("int", false), ("str", false), ("tuple", false), ("list", false), ("dict", false)] [false] [false, false, true, false, false, false, false, false, false]
def it_BadNumber : IsT := isT [("NoneType", false), ("bool", false), ("int", false), ("str", false), ("tuple", false), ("list", false), ("dict", false)] [false] [false, false, false, true, false, false, false, false, false]
def it_OtherLength : IsT := isT [("NoneType", false), ("bool", false), ("int", false), ("str", false), ("tuple", false), ("list", false), ("dict", false)] [false] [false, false, false, false, true, false, false, false, false]
def it_BadText : IsT := isT [("NoneType", false), ("bool", false), ("int", false), ("str", false), ("tuple", false), ("list", false), ("dict", false)] [false] [false, false, false, false, false, true, false, false, false]
def it_BadWay : IsT := isT [("NoneType", false), ("bool", false), ("int", false), ("str", false), ("tuple", false), ("list", false), ("dict", false)] [false] [false, false, false, false, false, false, true, false, false]
def it_NothingLeft : IsT := isT [("NoneType", false), ("bool", false), ("int", false), ("str", false), ("tuple", false), ("list", false), ("dict", false)] [false] [false, false, false, false, false, false, false, true, false]
def checks (K : PySem.W.Frag) : List Bool := [clAllB (GG w00 K) 1 9, slotX K (He.ga K "Row") "waggons", eqCB K (He.ga K "Row") (He.ma K (He.ga K "Row") "__eq__"), nfB (GG w00 K) 0 [0], isB (GG w00 K) (.ref (He.ga K "Row")) [("NoneType", false), ("bool", false), ("int", false), ("str", false), ("tuple", false), ("list", false), ("dict", false)] [true] [false, false, false, false, false, false, false, false, false], isB (GG w00 K) (.ref (He.ga K "BadRow")) [("NoneType", false), ("bool", false), ("int", false), ("str", false), ("tuple", false), ("list", false), ("dict", false)] [false] [true, false, false, false, false, false, false, false, false], isB (GG w00 K) (.ref (He.ga K "BadTurn")) [("NoneType", false), ("bool", false), ("int", false), ("str", false), ("tuple", false), ("list", false), ("dict", false)] [false] [false, true, false, false, false, false, false, false, false], isB (GG w00 K) (.ref (He.ga K "TooGreat")) [("NoneType", false), ("bool", false), ("int", false), ("str", false), ("tuple", false), ("list", false), ("dict", false)] [false] [false, false, false, false, false, false, false, false, true], isB (GG w00 K) (.ref (He.ga K "BadPlace")) [("NoneType", false), ("bool", false), ("int", false), ("str", false), ("tuple", false), ("list", false), ("dict", false)] [false] [false, false, true, false, false, false, false, false, false], isB (GG w00 K) (.ref (He.ga K "BadNumber")) [("NoneType", false), ("bool", false), ("int", false), ("str", false), ("tuple", false), ("list", false), ("dict", false)] [false] [false, false, false, true, false, false, false, false, false], isB (GG w00 K) (.ref (He.ga K "OtherLength")) [("NoneType", false), ("bool", false), ("int", false), ("str", false), ("tuple", false), ("list", false), ("dict", false)] [false] [false, false, false, false, true, false, false, false, false], isB (GG w00 K) (.ref (He.ga K "BadText")) [("NoneType", false), ("bool", false), ("int", false), ("str", false), ("tuple", false), ("list", false), ("dict", false)] [false] [false, false, false, false, false, true, false, false, false], isB (GG w00 K) (.ref (He.ga K "BadWay")) [("NoneType", false), ("bool", false), ("int", false), ("str", false), ("tuple", false), ("list", false), ("dict", false)] [false] [false, false, false, false, false, false, true, false, false], isB (GG w00 K) (.ref (He.ga K "NothingLeft")) [("NoneType", false), ("bool", false), ("int", false), ("str", false), ("tuple", false), ("list", false), ("dict", false)] [false] [false, false, false, false, false, false, false, true, false], exmB (GG w00 K) (He.ga K "FaceError") (He.ga K "TooGreat") 9, fldB (GG w00 K) "place" xs_place, fldB (GG w00 K) "value" xs_value, fldB (GG w00 K) "most" xs_most, nstB (GG w00 K) 9, decide ((GG w00 K).T.map (·.1)).Nodup]
def ex (K : PySem.W.Frag) : Bool := (checks K).all id
set_option maxHeartbeats 0
def loose0 : List Str := ["_wall", "FaceError", "BadRow", "BadTurn", "BadPlace", "BadNumber", "OtherLength", "BadText", "BadWay", "NothingLeft", "TooGreat", "MOST_WAGGONS", "is_whole", "is_among", "is_list", "need_waggons", "Row", "MOST_COUNTED", "need_counted", "rows_so", "rows_of", "_law_mixed", "_law_folded", "_law_draw", "_law_begun", "_law_turn", "_law_walked", "_law_class", "_law_told"]
def loose : List Str := loose0
abbrev HdR : PySem.W.OpenRow := PySem.W.OpenLaw.row PySem.Challenge.rw_faceabout_k41_rows_listed
abbrev hdK : PySem.W.Hook := hookY HdR.prog 4 fa fn [] tf ex xs
def hdO (s : PySem.W.SharedT) : AlY := obsY HdR.prog 4 fa fn [] tf ex xs (HandSHeadRun.getT s)
theorem hdO_eq (s : PySem.W.SharedT) : hdO s = hdK.obs s.abs := obsY_eq (HandSHeadRun.getT_eq s)
open PySem PySem.W PySem.Calls PyProof.Rows in
theorem hdRunA (w : World) (os : OsState) : (HandSHeadRun.endF (HandSHeadRun.stepQ (HandSHeadRun.denQ HandSHeadRun.tabQ) HdR.prog w) 6000 HdR.prog w os).map (fun s => (HandSHeadRun.looksF HdR.prog (boot_heap w.params) s.abs, HandSHeadRun.seenQ (PySem.W.view HdR.prog [33]) loose (importedModules HdR.prog.main.body) (fun s => xlAt (PySem.W.view HdR.prog [33]) [] s && recOk HdR.toRowW.records s) s.abs)) = some (true, openGood (PySem.W.view HdR.prog [33]) loose) := by kernel_rfl
open PySem PySem.W PySem.Calls PyProof.Rows in
theorem hdRunB (w : World) (os : OsState) : (HandSHeadRun.endF (HandSHeadRun.stepQ (HandSHeadRun.denQ HandSHeadRun.tabQ) HdR.prog w) 6000 HdR.prog w os).map (fun s => ((fa.all fun f => f.ok (Dn.frY (HandSHeadRun.getT s) 4)) && fn.all fun d => d.ok (Dn.frY (HandSHeadRun.getT s) 4))) = some true := by kernel_rfl
open PySem PySem.W PySem.Calls PyProof.Rows in
theorem hdRunC (w : World) (os : OsState) : (HandSHeadRun.endF (HandSHeadRun.stepQ (HandSHeadRun.denQ HandSHeadRun.tabQ) HdR.prog w) 6000 HdR.prog w os).map (fun s => fn.map fun d => He.fnW (Dn.frY (HandSHeadRun.getT s) 4) d.at_) = some (fn.map He.DefD.val) := by kernel_rfl
open PySem PySem.W PySem.Calls PyProof.Rows in
theorem hdRunD (w : World) (os : OsState) : (HandSHeadRun.endF (HandSHeadRun.stepQ (HandSHeadRun.denQ HandSHeadRun.tabQ) HdR.prog w) 6000 HdR.prog w os).map (fun s => ex (Dn.frY (HandSHeadRun.getT s) 4) && He.tabsB (HandSHeadRun.getT s) tf (Dn.frY (HandSHeadRun.getT s) 4)) = some true := by kernel_rfl
open PySem PySem.W PySem.Calls PyProof.Rows in
theorem hdRunE (w : World) (os : OsState) : (HandSHeadRun.endF (HandSHeadRun.stepQ (HandSHeadRun.denQ HandSHeadRun.tabQ) HdR.prog w) 6000 HdR.prog w os).map (fun s => (xs.all fun d => d.ok HdR.prog (Dn.frY (HandSHeadRun.getT s) 4), xs.map fun d => fnC (Dn.frY (HandSHeadRun.getT s) 4) (d.x, some "__init__"))) = some (true, xs.map XD.val) := by kernel_rfl
open PySem PySem.W PySem.Calls PyProof.Rows in
theorem hdRun (w : World) : HandSHeadRun.RunEq HdR (PySem.W.view HdR.prog [33]) hdK hdO 6000 loose w := by
  intro os
  have a := hdRunA w os
  have b := hdRunB w os
  have c := hdRunC w os
  have d := hdRunD w os
  have e := hdRunE w os
  revert a b c d e
  generalize (HandSHeadRun.endF (HandSHeadRun.stepQ (HandSHeadRun.denQ HandSHeadRun.tabQ) HdR.prog w) 6000 HdR.prog w os) = z
  intro a b c d e
  cases z with
  | none => cases a
  | some s =>
    have a := Option.some.inj a
    have b := Option.some.inj b
    have c := Option.some.inj c
    have d := Option.some.inj d
    have e := Option.some.inj e
    refine congrArg some (Prod.ext (congrArg (fun z => z.1) a) (Prod.ext (congrArg (fun z => z.2) a) ?_))
    exact Prod.ext (Prod.ext (Prod.ext (Prod.ext b c) rfl) d) e
set_option maxHeartbeats 4000000
structure CC (P : Program) (K : PySem.W.Frag) (mg : Str → Option Value) (base : Heap) : Prop where
  d : He.SaysD fa fn K
  e : ex K = true
  h : ∃ h : Heap, K.In h ∧ h.Ns mainGlobals mg
  x : ∀ d ∈ xs, XSay P K d
  t : (P.main.scope.names.lookup ("super" : Str)).isSome = false
  hd : ∀ p ∈ tf, PySem.W.codeHdIn K (He.cT K p).1 (He.cT K p).2 = true
  tb : ∀ p ∈ tf, LamX.TabB base mg (He.cT K p).1 (He.cT K p).2
section
variable {P : Program} {w : World} {K : PySem.W.Frag} {mg : Str → Option Value} {base : Heap}
theorem CC.cls (c : CC P K mg base) : ClsOk (GG w K) 1 9 := clAllB_ok (all_at c.e 0 rfl)
theorem CC.dist (c : CC P K mg base) : ((GG w K).T.map (·.1)).Nodup := of_decide_eq_true (all_at c.e 19 rfl)
theorem nst (c : CC P K mg base) : NSt (GG w K) fun i => decide (i < 9) := nstB_ok (G := GG w K) (all_at c.e 18 rfl)
theorem is_BadRow (c : CC P K mg base) : IsOk (GG w K) (.ref (He.ga K "BadRow")) it_BadRow := isB_ok (all_at c.e 5 rfl) c.cls (by decide) (by decide)
theorem is_BadTurn (c : CC P K mg base) : IsOk (GG w K) (.ref (He.ga K "BadTurn")) it_BadTurn := isB_ok (all_at c.e 6 rfl) c.cls (by decide) (by decide)
theorem is_TooGreat (c : CC P K mg base) : IsOk (GG w K) (.ref (He.ga K "TooGreat")) it_TooGreat := isB_ok (all_at c.e 7 rfl) c.cls (by decide) (by decide)
theorem is_BadPlace (c : CC P K mg base) : IsOk (GG w K) (.ref (He.ga K "BadPlace")) it_BadPlace := isB_ok (all_at c.e 8 rfl) c.cls (by decide) (by decide)
theorem is_BadNumber (c : CC P K mg base) : IsOk (GG w K) (.ref (He.ga K "BadNumber")) it_BadNumber := isB_ok (all_at c.e 9 rfl) c.cls (by decide) (by decide)
theorem is_OtherLength (c : CC P K mg base) : IsOk (GG w K) (.ref (He.ga K "OtherLength")) it_OtherLength := isB_ok (all_at c.e 10 rfl) c.cls (by decide) (by decide)
theorem is_BadText (c : CC P K mg base) : IsOk (GG w K) (.ref (He.ga K "BadText")) it_BadText := isB_ok (all_at c.e 11 rfl) c.cls (by decide) (by decide)
theorem is_BadWay (c : CC P K mg base) : IsOk (GG w K) (.ref (He.ga K "BadWay")) it_BadWay := isB_ok (all_at c.e 12 rfl) c.cls (by decide) (by decide)
theorem is_NothingLeft (c : CC P K mg base) : IsOk (GG w K) (.ref (He.ga K "NothingLeft")) it_NothingLeft := isB_ok (all_at c.e 13 rfl) c.cls (by decide) (by decide)
theorem exm (c : CC P K mg base) : ∀ i, decide (i < 9) = true → PySem.W.exmAny K (.ref ((GG w K).xc i)) [.ref (He.ga K "FaceError"), .ref (He.ga K "TooGreat")] = some true := exmB_ok (G := GG w K) (all_at c.e 14 rfl)
theorem xf_place (c : CC P K mg base) : ∀ i, xs_place.contains i = true → (GG w K).xf i = some "place" ∧ L2.XfC K ((GG w K).xc i) ∧ PySem.W.findIn K (.ref ((GG w K).xc i)) "place" = some none := fldB_ok (G := GG w K) (all_at c.e 15 rfl) c.cls (by decide)
theorem xf_value (c : CC P K mg base) : ∀ i, xs_value.contains i = true → (GG w K).xf i = some "value" ∧ L2.XfC K ((GG w K).xc i) ∧ PySem.W.findIn K (.ref ((GG w K).xc i)) "value" = some none := fldB_ok (G := GG w K) (all_at c.e 16 rfl) c.cls (by decide)
theorem xf_most (c : CC P K mg base) : ∀ i, xs_most.contains i = true → (GG w K).xf i = some "most" ∧ L2.XfC K ((GG w K).xc i) ∧ PySem.W.findIn K (.ref ((GG w K).xc i)) "most" = some none := fldB_ok (G := GG w K) (all_at c.e 17 rfl) c.cls (by decide)
theorem sx_Row (c : CC P K mg base) : SlX.SCls K (He.ga K "Row") := ((c.cls (w := w00)).o 0 (by decide)).1
theorem sl_Row_waggons (c : CC P K mg base) : SlX.Slot1 K (He.ga K "Row") "waggons" (slotA K (He.ga K "Row") "waggons") 0 := slotX_ok (all_at c.e 1 rfl)
theorem xa_BadRow (c : CC P K mg base) : XAll P K (He.ga K "BadRow") (He.fAd K ("BadRow", some "__init__")) (some "place") := xall_1 (sn := "self") (x := "place") (c.x (xd 3 "BadRow" false (some "place")) (by simp [xs])) rfl ⟨rfl, rfl, rfl, rfl, rfl, rfl, by decide +kernel, ⟨_, rfl, rfl⟩, c.t, ⟨_, fun env => rfl⟩⟩ rfl rfl (by decide) (by decide) (by decide) (fun env => rfl) (fun fd s v u e e2 => BindsTo.of_eq (by
    obtain ⟨n1, n2, n3, n4, n5, n6, n7, n8, n9, n10, n11, n12, n13, n14, n15⟩ := fd
    obtain rfl : n3 = _ := e
    obtain rfl : n8 = _ := e2
    rfl))
theorem xa_BadNumber (c : CC P K mg base) : XAll P K (He.ga K "BadNumber") (He.fAd K ("BadNumber", some "__init__")) (some "value") := xall_1 (sn := "self") (x := "value") (c.x (xd 6 "BadNumber" false (some "value")) (by simp [xs])) rfl ⟨rfl, rfl, rfl, rfl, rfl, rfl, by decide +kernel, ⟨_, rfl, rfl⟩, c.t, ⟨_, fun env => rfl⟩⟩ rfl rfl (by decide) (by decide) (by decide) (fun env => rfl) (fun fd s v u e e2 => BindsTo.of_eq (by
    obtain ⟨n1, n2, n3, n4, n5, n6, n7, n8, n9, n10, n11, n12, n13, n14, n15⟩ := fd
    obtain rfl : n3 = _ := e
    obtain rfl : n8 = _ := e2
    rfl))
theorem xa_TooGreat (c : CC P K mg base) : XAll P K (He.ga K "TooGreat") (He.fAd K ("TooGreat", some "__init__")) (some "most") := xall_1 (sn := "self") (x := "most") (c.x (xd 11 "TooGreat" true (some "most")) (by simp [xs])) rfl ⟨rfl, rfl, rfl, rfl, rfl, rfl, by decide +kernel, ⟨_, rfl, rfl⟩, c.t, ⟨_, fun env => rfl⟩⟩ rfl rfl (by decide) (by decide) (by decide) (fun env => rfl) (fun fd s v u e e2 => BindsTo.of_eq (by
    obtain ⟨n1, n2, n3, n4, n5, n6, n7, n8, n9, n10, n11, n12, n13, n14, n15⟩ := fd
    obtain rfl : n3 = _ := e
    obtain rfl : n8 = _ := e2
    rfl))
theorem gl_is_whole (c : CC P K mg base) : mg "is_whole" = some (.ref (He.ga K "is_whole")) := by
  obtain ⟨h, X, G⟩ := c.h
  exact He.glo_ok X G (c.d.fact 0 (f := .glo "is_whole") rfl)
theorem gl_is_among (c : CC P K mg base) : mg "is_among" = some (.ref (He.ga K "is_among")) := by
  obtain ⟨h, X, G⟩ := c.h
  exact He.glo_ok X G (c.d.fact 1 (f := .glo "is_among") rfl)
theorem gl_is_list (c : CC P K mg base) : mg "is_list" = some (.ref (He.ga K "is_list")) := by
  obtain ⟨h, X, G⟩ := c.h
  exact He.glo_ok X G (c.d.fact 2 (f := .glo "is_list") rfl)
theorem gl_need_waggons (c : CC P K mg base) : mg "need_waggons" = some (.ref (He.ga K "need_waggons")) := by
  obtain ⟨h, X, G⟩ := c.h
  exact He.glo_ok X G (c.d.fact 3 (f := .glo "need_waggons") rfl)
theorem me_Row___len__ (c : CC P K mg base) : Meth K (He.ga K "Row") "__len__" (He.ma K (He.ga K "Row") "__len__") := He.meth_ok (c.d.fact 5 (f := .meth "Row" "__len__") rfl)
theorem gl_need_counted (c : CC P K mg base) : mg "need_counted" = some (.ref (He.ga K "need_counted")) := by
  obtain ⟨h, X, G⟩ := c.h
  exact He.glo_ok X G (c.d.fact 7 (f := .glo "need_counted") rfl)
theorem gl_rows_so (c : CC P K mg base) : mg "rows_so" = some (.ref (He.ga K "rows_so")) := by
  obtain ⟨h, X, G⟩ := c.h
  exact He.glo_ok X G (c.d.fact 8 (f := .glo "rows_so") rfl)
theorem gl_rows_of (c : CC P K mg base) : mg "rows_of" = some (.ref (He.ga K "rows_of")) := by
  obtain ⟨h, X, G⟩ := c.h
  exact He.glo_ok X G (c.d.fact 9 (f := .glo "rows_of") rfl)
theorem gl__law_mixed (c : CC P K mg base) : mg "_law_mixed" = some (.ref (He.ga K "_law_mixed")) := by
  obtain ⟨h, X, G⟩ := c.h
  exact He.glo_ok X G (c.d.fact 10 (f := .glo "_law_mixed") rfl)
theorem gl__law_folded (c : CC P K mg base) : mg "_law_folded" = some (.ref (He.ga K "_law_folded")) := by
  obtain ⟨h, X, G⟩ := c.h
  exact He.glo_ok X G (c.d.fact 11 (f := .glo "_law_folded") rfl)
theorem gl__law_draw (c : CC P K mg base) : mg "_law_draw" = some (.ref (He.ga K "_law_draw")) := by
  obtain ⟨h, X, G⟩ := c.h
  exact He.glo_ok X G (c.d.fact 12 (f := .glo "_law_draw") rfl)
theorem gl__law_begun (c : CC P K mg base) : mg "_law_begun" = some (.ref (He.ga K "_law_begun")) := by
  obtain ⟨h, X, G⟩ := c.h
  exact He.glo_ok X G (c.d.fact 13 (f := .glo "_law_begun") rfl)
theorem gl__law_turn (c : CC P K mg base) : mg "_law_turn" = some (.ref (He.ga K "_law_turn")) := by
  obtain ⟨h, X, G⟩ := c.h
  exact He.glo_ok X G (c.d.fact 14 (f := .glo "_law_turn") rfl)
theorem gl__law_walked (c : CC P K mg base) : mg "_law_walked" = some (.ref (He.ga K "_law_walked")) := by
  obtain ⟨h, X, G⟩ := c.h
  exact He.glo_ok X G (c.d.fact 15 (f := .glo "_law_walked") rfl)
theorem gl__law_class (c : CC P K mg base) : mg "_law_class" = some (.ref (He.ga K "_law_class")) := by
  obtain ⟨h, X, G⟩ := c.h
  exact He.glo_ok X G (c.d.fact 16 (f := .glo "_law_class") rfl)
theorem gl__law_told (c : CC P K mg base) : mg "_law_told" = some (.ref (He.ga K "_law_told")) := by
  obtain ⟨h, X, G⟩ := c.h
  exact He.glo_ok X G (c.d.fact 17 (f := .glo "_law_told") rfl)
theorem gl_BadRow (c : CC P K mg base) : mg "BadRow" = some (.ref (He.ga K "BadRow")) := by
  obtain ⟨h, X, G⟩ := c.h
  exact He.glo_ok X G (c.d.fact 19 (f := .glo "BadRow") rfl)
theorem gl_BadTurn (c : CC P K mg base) : mg "BadTurn" = some (.ref (He.ga K "BadTurn")) := by
  obtain ⟨h, X, G⟩ := c.h
  exact He.glo_ok X G (c.d.fact 20 (f := .glo "BadTurn") rfl)
theorem gl_BadPlace (c : CC P K mg base) : mg "BadPlace" = some (.ref (He.ga K "BadPlace")) := by
  obtain ⟨h, X, G⟩ := c.h
  exact He.glo_ok X G (c.d.fact 21 (f := .glo "BadPlace") rfl)
theorem gl_BadNumber (c : CC P K mg base) : mg "BadNumber" = some (.ref (He.ga K "BadNumber")) := by
  obtain ⟨h, X, G⟩ := c.h
  exact He.glo_ok X G (c.d.fact 22 (f := .glo "BadNumber") rfl)
theorem gl_OtherLength (c : CC P K mg base) : mg "OtherLength" = some (.ref (He.ga K "OtherLength")) := by
  obtain ⟨h, X, G⟩ := c.h
  exact He.glo_ok X G (c.d.fact 23 (f := .glo "OtherLength") rfl)
theorem gl_BadText (c : CC P K mg base) : mg "BadText" = some (.ref (He.ga K "BadText")) := by
  obtain ⟨h, X, G⟩ := c.h
  exact He.glo_ok X G (c.d.fact 24 (f := .glo "BadText") rfl)
theorem gl_BadWay (c : CC P K mg base) : mg "BadWay" = some (.ref (He.ga K "BadWay")) := by
  obtain ⟨h, X, G⟩ := c.h
  exact He.glo_ok X G (c.d.fact 25 (f := .glo "BadWay") rfl)
theorem gl_NothingLeft (c : CC P K mg base) : mg "NothingLeft" = some (.ref (He.ga K "NothingLeft")) := by
  obtain ⟨h, X, G⟩ := c.h
  exact He.glo_ok X G (c.d.fact 26 (f := .glo "NothingLeft") rfl)
theorem gl_TooGreat (c : CC P K mg base) : mg "TooGreat" = some (.ref (He.ga K "TooGreat")) := by
  obtain ⟨h, X, G⟩ := c.h
  exact He.glo_ok X G (c.d.fact 27 (f := .glo "TooGreat") rfl)
theorem gl_FaceError (c : CC P K mg base) : mg "FaceError" = some (.ref (He.ga K "FaceError")) := by
  obtain ⟨h, X, G⟩ := c.h
  exact He.glo_ok X G (c.d.fact 28 (f := .glo "FaceError") rfl)
theorem gl_Row (c : CC P K mg base) : mg "Row" = some (.ref (He.ga K "Row")) := by
  obtain ⟨h, X, G⟩ := c.h
  exact He.glo_ok X G (c.d.fact 29 (f := .glo "Row") rfl)
theorem mk_Row (c : CC P K mg base) : Mk K (He.ga K "Row") (He.ma K (He.ga K "Row") "__init__") := He.mkr_ok (c.d.fact 30 (f := .mkr "Row") rfl)
theorem fr_len (c : CC P K mg base) : mg "len" = none := by
  obtain ⟨h, X, G⟩ := c.h
  exact He.free_ok X G (c.d.fact 34 (f := .free "len") rfl)
theorem fr_abs (c : CC P K mg base) : mg "abs" = none := by
  obtain ⟨h, X, G⟩ := c.h
  exact He.free_ok X G (c.d.fact 35 (f := .free "abs") rfl)
theorem fr_range (c : CC P K mg base) : mg "range" = none := by
  obtain ⟨h, X, G⟩ := c.h
  exact He.free_ok X G (c.d.fact 36 (f := .free "range") rfl)
theorem fr_enumerate (c : CC P K mg base) : mg "enumerate" = none := by
  obtain ⟨h, X, G⟩ := c.h
  exact He.free_ok X G (c.d.fact 37 (f := .free "enumerate") rfl)
theorem fr_zip (c : CC P K mg base) : mg "zip" = none := by
  obtain ⟨h, X, G⟩ := c.h
  exact He.free_ok X G (c.d.fact 38 (f := .free "zip") rfl)
theorem fr_tuple (c : CC P K mg base) : mg "tuple" = none := by
  obtain ⟨h, X, G⟩ := c.h
  exact He.free_ok X G (c.d.fact 39 (f := .free "tuple") rfl)
theorem fr_list (c : CC P K mg base) : mg "list" = none := by
  obtain ⟨h, X, G⟩ := c.h
  exact He.free_ok X G (c.d.fact 40 (f := .free "list") rfl)
theorem fr_int (c : CC P K mg base) : mg "int" = none := by
  obtain ⟨h, X, G⟩ := c.h
  exact He.free_ok X G (c.d.fact 41 (f := .free "int") rfl)
theorem fr_repr (c : CC P K mg base) : mg "repr" = none := by
  obtain ⟨h, X, G⟩ := c.h
  exact He.free_ok X G (c.d.fact 43 (f := .free "repr") rfl)
theorem fr_isinstance (c : CC P K mg base) : mg "isinstance" = none := by
  obtain ⟨h, X, G⟩ := c.h
  exact He.free_ok X G (c.d.fact 44 (f := .free "isinstance") rfl)
theorem fr_sorted (c : CC P K mg base) : mg "sorted" = none := by
  obtain ⟨h, X, G⟩ := c.h
  exact He.free_ok X G (c.d.fact 50 (f := .free "sorted") rfl)
theorem fr_bool (c : CC P K mg base) : mg "bool" = none := by
  obtain ⟨h, X, G⟩ := c.h
  exact He.free_ok X G (c.d.fact 51 (f := .free "bool") rfl)
theorem fr_super (c : CC P K mg base) : mg "super" = none := by
  obtain ⟨h, X, G⟩ := c.h
  exact He.free_ok X G (c.d.fact 52 (f := .free "super") rfl)
theorem gi_MOST_WAGGONS (c : CC P K mg base) : ∃ t, mg "MOST_WAGGONS" = some (.int 24 t) := by
  obtain ⟨h, X, G⟩ := c.h
  exact He.int_ok X G (c.d.fact 53 (f := .int "MOST_WAGGONS" 24) rfl)
theorem gi_MOST_COUNTED (c : CC P K mg base) : ∃ t, mg "MOST_COUNTED" = some (.int 5 t) := by
  obtain ⟨h, X, G⟩ := c.h
  exact He.int_ok X G (c.d.fact 54 (f := .int "MOST_COUNTED" 5) rfl)
theorem kp_is_whole (c : CC P K mg base) : PySem.W.keepIn K (.ref (He.ga K "is_whole")) = true := by
  obtain ⟨fd, F⟩ := c.d.def_ 0 (d := d_is_whole) rfl
  exact F.kp
theorem kp_is_among (c : CC P K mg base) : PySem.W.keepIn K (.ref (He.ga K "is_among")) = true := by
  obtain ⟨fd, F⟩ := c.d.def_ 1 (d := d_is_among) rfl
  exact F.kp
theorem kp_is_list (c : CC P K mg base) : PySem.W.keepIn K (.ref (He.ga K "is_list")) = true := by
  obtain ⟨fd, F⟩ := c.d.def_ 2 (d := d_is_list) rfl
  exact F.kp
theorem kp_need_waggons (c : CC P K mg base) : PySem.W.keepIn K (.ref (He.ga K "need_waggons")) = true := by
  obtain ⟨fd, F⟩ := c.d.def_ 3 (d := d_need_waggons) rfl
  exact F.kp
theorem kp_need_counted (c : CC P K mg base) : PySem.W.keepIn K (.ref (He.ga K "need_counted")) = true := by
  obtain ⟨fd, F⟩ := c.d.def_ 7 (d := d_need_counted) rfl
  exact F.kp
theorem kp_rows_so (c : CC P K mg base) : PySem.W.keepIn K (.ref (He.ga K "rows_so")) = true := by
  obtain ⟨fd, F⟩ := c.d.def_ 8 (d := d_rows_so) rfl
  exact F.kp
theorem kp_rows_of (c : CC P K mg base) : PySem.W.keepIn K (.ref (He.ga K "rows_of")) = true := by
  obtain ⟨fd, F⟩ := c.d.def_ 9 (d := d_rows_of) rfl
  exact F.kp
theorem kp__law_mixed (c : CC P K mg base) : PySem.W.keepIn K (.ref (He.ga K "_law_mixed")) = true := by
  obtain ⟨fd, F⟩ := c.d.def_ 10 (d := d__law_mixed) rfl
  exact F.kp
theorem kp__law_folded (c : CC P K mg base) : PySem.W.keepIn K (.ref (He.ga K "_law_folded")) = true := by
  obtain ⟨fd, F⟩ := c.d.def_ 11 (d := d__law_folded) rfl
  exact F.kp
theorem kp__law_draw (c : CC P K mg base) : PySem.W.keepIn K (.ref (He.ga K "_law_draw")) = true := by
  obtain ⟨fd, F⟩ := c.d.def_ 12 (d := d__law_draw) rfl
  exact F.kp
theorem kp__law_begun (c : CC P K mg base) : PySem.W.keepIn K (.ref (He.ga K "_law_begun")) = true := by
  obtain ⟨fd, F⟩ := c.d.def_ 13 (d := d__law_begun) rfl
  exact F.kp
theorem kp__law_turn (c : CC P K mg base) : PySem.W.keepIn K (.ref (He.ga K "_law_turn")) = true := by
  obtain ⟨fd, F⟩ := c.d.def_ 14 (d := d__law_turn) rfl
  exact F.kp
theorem kp__law_walked (c : CC P K mg base) : PySem.W.keepIn K (.ref (He.ga K "_law_walked")) = true := by
  obtain ⟨fd, F⟩ := c.d.def_ 15 (d := d__law_walked) rfl
  exact F.kp
theorem kp__law_class (c : CC P K mg base) : PySem.W.keepIn K (.ref (He.ga K "_law_class")) = true := by
  obtain ⟨fd, F⟩ := c.d.def_ 16 (d := d__law_class) rfl
  exact F.kp
end
section
variable {P : Program} {w : World} {K : PySem.W.Frag} {mg : Str → Option Value} {base : Heap}
noncomputable def den_is_whole : DS :=
  (sRet (dAndV (dIsi "int" (dVar 0)) (dNotV (dIsi "bool" (dVar 0)))))
noncomputable def F_is_whole : DF := runD 1 den_is_whole
theorem fn_is_whole (c : CC P K mg base) : FnA P w K mg base 1 (He.ga K "is_whole") (spD (GG w K) 1 F_is_whole) := by
  obtain ⟨fd, F⟩ := c.d.def_ 0 (d := d_is_whole) rfl
  exact fnD (funD_fun (st := s_is_whole) F) sc_is_whole (FunD.bindsN F fun _ _ _ _ _ _ us hl => match us, hl with | [_], _ => rfl) fun cdv A out s H E hr => ⟨_,
    (pss_one (ps_ret (pe_and (pe_callB call_isi (by rfl) (fr_isinstance c) PyProof.Rows.boot_isinstance (pa_cons (pv 0) (pa_cons (pe_bltn (v := .ty "int") (by rfl) (fr_int c) PyProof.Rows.boot_int rfl) pa_nil))) (pe_one (pe_not (pe_callB call_isi (by rfl) (fr_isinstance c) PyProof.Rows.boot_isinstance (pa_cons (pv 0) (pa_cons (pe_bltn (v := .ty "bool") (by rfl) (fr_bool c) PyProof.Rows.boot_bool rfl) pa_nil)))))))),
    (ds_ret (de_and (de_isi ((de_var 0)).q) (de_not (de_isi ((de_var 0)).q))))⟩

noncomputable def den_Row___eq__ : DS :=
  (sRet (dAndV (dIsA it_Row (dVar 1)) (dOp eqD (dFld 0 (dVar 0)) (dFld 0 (dVar 1)))))
noncomputable def F_Row___eq__ : DF := runD 2 den_Row___eq__
noncomputable def den_is_among : DS :=
  (sRet (dAndV (dCall 1 F_is_whole (dCons (dVar 0) dNil)) (dChain (cmpD fun i j => decide (i ≤ j)) (cmpD fun i j => decide (i ≤ j)) (dVar 1) (dVar 0) (dVar 2))))
noncomputable def F_is_among : DF := runD 3 den_is_among
theorem fn_is_among (c : CC P K mg base) : FnA P w K mg base 2 (He.ga K "is_among") (spD (GG w K) 3 F_is_among) := by
  obtain ⟨fd, F⟩ := c.d.def_ 1 (d := d_is_among) rfl
  exact fnD (funD_fun (st := s_is_among) F) sc_is_among (FunD.bindsN F fun _ _ _ _ _ _ us hl => match us, hl with | [_, _, _], _ => rfl) fun cdv A out s H E hr => ⟨_,
    (pss_one (ps_ret (pe_and (pe_callA (fn_is_whole (w := w) c) (hr.less (by decide)) (by rfl) (gl_is_whole c) (kp_is_whole c) pss0 (pa_cons (pv 0) pa_nil)) (pe_one (pe_chain op_le op_le (pv 1) (pv 0) (pv 2)))))),
    (ds_ret (de_and (de_call (da_cons (de_var 0) da_nil)) (de_chain (o_cmp fun i j => decide (i ≤ j)) (o_cmp fun i j => decide (i ≤ j)) ((de_var 1)).q ((de_var 0)).q ((de_var 2)).q)))⟩

noncomputable def den_is_list : DS :=
  (sRet (dIsiT ["list", "tuple"] (dVar 0)))
noncomputable def F_is_list : DF := runD 1 den_is_list
theorem fn_is_list (c : CC P K mg base) : FnA P w K mg base 1 (He.ga K "is_list") (spD (GG w K) 1 F_is_list) := by
  obtain ⟨fd, F⟩ := c.d.def_ 2 (d := d_is_list) rfl
  exact fnD (funD_fun (st := s_is_list) F) sc_is_list (FunD.bindsN F fun _ _ _ _ _ _ us hl => match us, hl with | [_], _ => rfl) fun cdv A out s H E hr => ⟨_,
    (pss_one (ps_ret (pe_callB call_isiT (by rfl) (fr_isinstance c) PyProof.Rows.boot_isinstance (pa_cons (pv 0) (pa_cons (pe_tup (pa_cons (pe_bltn (v := .ty "list") (by rfl) (fr_list c) PyProof.Rows.boot_list rfl) (pa_cons (pe_bltn (v := .ty "tuple") (by rfl) (fr_tuple c) PyProof.Rows.boot_tuple rfl) pa_nil))) pa_nil))))),
    (ds_ret (de_isiT (ns := ["list", "tuple"]) ((de_var 0)).q))⟩

noncomputable def den_Row___len__ : DS :=
  (sRet (dCB lenD (dCons (dFld 0 (dVar 0)) dNil)))
noncomputable def F_Row___len__ : DF := runD 1 den_Row___len__
theorem fn_Row___len__ (c : CC P K mg base) : FnA P w K mg base 1 (He.ma K (He.ga K "Row") "__len__") (spD (GG w K) 1 F_Row___len__) := by
  obtain ⟨fd, F⟩ := c.d.def_ 5 (d := d_Row___len__) rfl
  exact fnD (funD_fun (st := s_Row___len__) F) sc_Row___len__ (FunD.bindsN F fun _ _ _ _ _ _ us hl => match us, hl with | [_], _ => rfl) fun cdv A out s H E hr => ⟨_,
    (pss_one (ps_ret (pe_callB call_lenU (by rfl) (fr_len c) PySem.boot_len (pa_cons (SlX.pe_sl (pv 0)) pa_nil)))),
    (ds_ret (de_cb n_len (dp_cons ((de_fld (c := 0) (de_var 0) (sx_Row c) (sl_Row_waggons c))).q dp_nil)))⟩

noncomputable def den_need_waggons_b1 : DS :=
  (sSeq (sIf (dOr (dNot (dTru (dCall 1 F_is_whole (dCons (dVar 3) dNil)))) (dOr (dNot (dTest (dChain (cmpD fun i j => decide (i ≤ j)) (cmpD fun i j => decide (i ≤ j)) (dC (.int 1)) (dCB absD (dCons (dVar 3) dNil)) (dCB lenD (dCons (dVar 0) dNil))))) (dTest (dOp (inV false) (dCB absD (dCons (dVar 3) dNil)) (dPeek 1))))) (sRaise1 0 (dVar 2)) sNx)
    (sApp 1 (dCB absD (dCons (dVar 3) dNil))))
noncomputable def den_need_waggons : DS :=
  (sSeq (sIf (dNot (dTru (dCall 1 F_is_list (dCons (dVar 0) dNil)))) (sRaise1 0 (dC .non)) sNx)
    (sSeq (sIf (dTest (dOp (cmpD fun i j => decide (j < i)) (dCB lenD (dCons (dVar 0) dNil)) (dC (.int 24)))) (sRaise1 8 (dC (.int 24))) sNx)
    (sSeq (sSet 1 (dvLst dNil))
    (sFor (dEnumU (dCons (dVar 0) dNil)) (hTup 2 (hCons (hName 2) (hCons (hName 3) hNil))) den_need_waggons_b1))))
noncomputable def F_need_waggons : DF := runD 4 den_need_waggons
theorem fn_need_waggons (c : CC P K mg base) : FnA P w K mg base 2 (He.ga K "need_waggons") (spD (GG w K) 1 F_need_waggons) := by
  obtain ⟨fd, F⟩ := c.d.def_ 3 (d := d_need_waggons) rfl
  exact fnD (funD_fun (st := s_need_waggons) F) sc_need_waggons (FunD.bindsN F fun _ _ _ _ _ _ us hl => match us, hl with | [_], _ => rfl) fun cdv A out s H E hr => ⟨_,
    (pss_cons (ps_if (pt_not (pt_truth (pe_callA (fn_is_list (w := w) c) (hr.less (by decide)) (by rfl) (gl_is_list c) (kp_is_list c) pss0 (pa_cons (pv 0) pa_nil)) (by intro _; rfl))) (pss_one (ps_raise rfl (takes_of rfl rfl rfl rfl) (pmk_X1 (k := 0) (xa_BadRow c) (hr.less (by decide)) (by rfl) (gl_BadRow c) (fr_super c) pe_non))) pss_nil) (pss_cons (ps_if (pt_cmpR op_gt (pe_callB call_lenU (by rfl) (fr_len c) PySem.boot_len (pa_cons (pv 0) pa_nil)) (pe_glob (v := .int 24) (by rfl) (gi_MOST_WAGGONS c).choose_spec ⟨_, rfl⟩) (nomark _)) (pss_one (ps_raise rfl (takes_of rfl rfl rfl rfl) (pmk_X1 (k := 0) (xa_TooGreat c) (hr.less (by decide)) (by rfl) (gl_TooGreat c) (fr_super c) (pe_glob (v := .int 24) (by rfl) (gi_MOST_WAGGONS c).choose_spec ⟨_, rfl⟩)))) pss_nil) (pss_cons (ps_set (i := 1) sc_need_waggons.nd rfl (by first | exact .inl rfl | exact .inr rfl) (pe_lst pa_nil)) (pss_one (ps_for (passes_of rfl) rfl (pi_enumU (by rfl) (fr_enumerate c) (pa_cons (pv 0) pa_nil)) (pg_tup rfl (pgs_cons (pg_name (i := 2) sc_need_waggons.nd rfl (by first | exact .inl rfl | exact .inr rfl)) (pgs_cons (pg_name (i := 3) sc_need_waggons.nd rfl (by first | exact .inl rfl | exact .inr rfl)) pgs_nil))) (pss_cons (ps_if (PW.pt (pw_or (pt_not (pt_truth (pe_callA (fn_is_whole (w := w) c) (hr.less (by decide)) (by rfl) (gl_is_whole c) (kp_is_whole c) pss0 (pa_cons (pv 3) pa_nil)) (by intro _; rfl))) (pw_or (pt_not (pt_chain op_le op_le pe_int (pe_callB call_abs (by rfl) (fr_abs c) PyProof.Rows.boot_abs (pa_cons (pv 3) pa_nil)) (pe_callB call_lenU (by rfl) (fr_len c) PySem.boot_len (pa_cons (pv 0) pa_nil)))) (pw_or1 (pt_cmpR (op_inV hr.u65) (pe_callB call_abs (by rfl) (fr_abs c) PyProof.Rows.boot_abs (pa_cons (pv 3) pa_nil)) (pv 1) (by with_unfolding_all rfl)))))) (pss_one (ps_raise rfl (takes_of rfl rfl rfl rfl) (pmk_X1 (k := 0) (xa_BadRow c) (hr.less (by decide)) (by rfl) (gl_BadRow c) (fr_super c) (pv 2)))) pss_nil) (pss_one (ps_expr (pe_bm PySem.F.plainAttrs_list PySem.F.slot_list_append PySem.F.type_list_append mt_append (pv 1) (pa_cons (pe_callB call_abs (by rfl) (fr_abs c) PyProof.Rows.boot_abs (pa_cons (pv 3) pa_nil)) pa_nil)))))))))),
    (ds_seq (ds_if (dt_not (dt_tru ((de_call (da_cons (de_var 0) da_nil))).q)) (ds_raise1 (c := 0) rfl de_non) ds_nil) (ds_seq (ds_if (dt_test (de_op (o_cmp fun i j => decide (j < i)) ((de_cb n_len (dp_cons ((de_var 0)).q dp_nil))).q (de_int).q)) (ds_raise1 (c := 8) rfl de_int) ds_nil) (ds_seq (ds_set (i := 1) (dv_lst da_nil)) (ds_for (di_enumU (da_cons (de_var 0) da_nil)) (dg_tup (dgs_cons (dg_name 2) (dgs_cons (dg_name 3) dgs_nil))) (ds_seq (ds_if (dt_or (dt_not (dt_tru ((de_call (da_cons (de_var 3) da_nil))).q)) (dt_or (dt_not (dt_test (de_chain (o_cmp fun i j => decide (i ≤ j)) (o_cmp fun i j => decide (i ≤ j)) (de_int).q ((de_cb n_abs (dp_cons ((de_var 3)).q dp_nil))).q ((de_cb n_len (dp_cons ((de_var 0)).q dp_nil))).q))) (dt_test (de_op o_inV ((de_cb n_abs (dp_cons ((de_var 3)).q dp_nil))).q (dq_var 1))))) (ds_raise1 (c := 0) rfl (de_var 2)) ds_nil) (ds_app 1 (de_cb n_abs (dp_cons ((de_var 3)).q dp_nil))))))))⟩

noncomputable def F_Row___init__ : DF := initD (dCall 1 F_need_waggons (dCons (dVar 1) dNil)) (dCB toTup (dCons (dVar 1) dNil))
theorem fn_Row___init__ (c : CC P K mg base) : FnA P w K mg base 3 (He.ma K (He.ga K "Row") "__init__") (spI (GG w K) 0 F_Row___init__) := by
  obtain ⟨fd, F⟩ := c.d.def_ 4 (d := d_Row___init__) rfl
  exact fnA_of (funD_fun (st := s_Row___init__) F) sc_Row___init__ (FunD.bindsN F fun _ _ _ _ _ _ us hl => match us, hl with | [_, _], _ => rfl) fun cdv A out s H vs Q E hr h =>
    have z := init_keeps (N := N_Row___init__) (te := _) (tv := _) (de_call (da_cons (de_var 1) da_nil)) (de_cb n_tuple (dp_cons ((de_var 1)).q dp_nil)) (sx_Row c) (sl_Row_waggons c) rfl h
    ⟨z.1, _, pss_cons (ps_expr (pe_callA (fn_need_waggons (w := w) c) (hr.less (by decide)) (by rfl) (gl_need_waggons c) (kp_need_waggons c) pss0 (pa_cons (pv 1) pa_nil))) (pss_one (SlX.ps_sl (pv 0) (pe_callTy (call_tupleF) (by rfl) (fr_tuple c) PyProof.Rows.boot_tuple (pa_cons (pv 1) pa_nil)))), z.2⟩

noncomputable def den_need_counted : DS :=
  (sIf (dNot (dTru (dCall 3 F_is_among (dCons (dVar 0) (dCons (dC (.int 0)) (dCons (dC (.int 5)) dNil)))))) (sRaise1 3 (dVar 0)) sNx)
noncomputable def F_need_counted : DF := runD 1 den_need_counted
theorem fn_need_counted (c : CC P K mg base) : FnA P w K mg base 3 (He.ga K "need_counted") (spD (GG w K) 1 F_need_counted) := by
  obtain ⟨fd, F⟩ := c.d.def_ 7 (d := d_need_counted) rfl
  exact fnD (funD_fun (st := s_need_counted) F) sc_need_counted (FunD.bindsN F fun _ _ _ _ _ _ us hl => match us, hl with | [_], _ => rfl) fun cdv A out s H E hr => ⟨_,
    (pss_one (ps_if (pt_not (pt_truth (pe_callA (fn_is_among (w := w) c) (hr.less (by decide)) (by rfl) (gl_is_among c) (kp_is_among c) pss0 (pa_cons (pv 0) (pa_cons pe_int (pa_cons (pe_glob (v := .int 5) (by rfl) (gi_MOST_COUNTED c).choose_spec ⟨_, rfl⟩) pa_nil)))) (by intro _; rfl))) (pss_one (ps_raise rfl (takes_of rfl rfl rfl rfl) (pmk_X1 (k := 0) (xa_BadNumber c) (hr.less (by decide)) (by rfl) (gl_BadNumber c) (fr_super c) (pv 0)))) pss_nil)),
    (ds_if (dt_not (dt_tru ((de_call (da_cons (de_var 0) (da_cons de_int (da_cons de_int da_nil))))).q)) (ds_raise1 (c := 3) rfl (de_var 0)) ds_nil)⟩

noncomputable def den_rows_so_b1 : DS :=
  (sSeq (sSet 5 (dvV (fun ρ m => (dLc (dSeqU (dVar 4)) (hName 7) (fun _ m => .ok true m) (dCB absD (dCons (dVar 7) dNil)) [7] ρ m).map .lst)))
    (sSeq (sSet 6 (dvV (fun ρ m => (dLc (dRng2 (dCons (dOp subD (dC (.int 0)) (dVar 0)) (dCons (dOp addD (dVar 0) (dC (.int 1))) dNil))) (hName 7) ((dAnd (dTest (dOp neD (dVar 7) (dC (.int 0)))) (dTest (dOp (inV true) (dCB absD (dCons (dVar 7) dNil)) (dVar 5))))) (dVar 7) [7] ρ m).map .lst)))
    (sExt 3 (fun ρ m => (dLc (dSeqU (dVar 6)) (hName 7) (fun _ m => .ok true m) (dOp addD (dVar 4) (dTup (dCons (dVar 7) dNil))) [7] ρ m).map .lst))))
noncomputable def den_rows_so_b2 : DS :=
  (sSeq (sSet 3 (dvLst dNil))
    (sSeq (sFor (dSeqU (dVar 1)) (hName 4) den_rows_so_b1)
    (sFrz 3 (sSet 1 (dvV (dVar 3))))))
noncomputable def den_rows_so : DS :=
  (sSeq (sSet 1 (dvV (dLst (dCons (dTup dNil) dNil))))
    (sSeq (sFor (dRng1 (dCons (dVar 0) dNil)) (hName 2) den_rows_so_b2)
    (sRet (dVar 1))))
noncomputable def F_rows_so : DF := runD 8 den_rows_so
theorem fn_rows_so (c : CC P K mg base) : FnA P w K mg base 1 (He.ga K "rows_so") (spD (GG w K) 1 F_rows_so) := by
  obtain ⟨fd, F⟩ := c.d.def_ 8 (d := d_rows_so) rfl
  exact fnD (funD_fun (st := s_rows_so) F) sc_rows_so (FunD.bindsN F fun _ _ _ _ _ _ us hl => match us, hl with | [_], _ => rfl) fun cdv A out s H E hr => ⟨_,
    (pss_cons (ps_set (i := 1) sc_rows_so.nd rfl (by first | exact .inl rfl | exact .inr rfl) (pe_lst (pa_cons (pe_tupF pa_nil) pa_nil))) (pss_cons (ps_for (passes_of rfl) rfl (pi_range1 (by rfl) (fr_range c) (pa_cons (pv 0) pa_nil)) (pg_name (i := 2) sc_rows_so.nd rfl (by first | exact .inl rfl | exact .inr rfl)) (pss_cons (ps_set (i := 3) sc_rows_so.nd rfl (by first | exact .inl rfl | exact .inr rfl) (pe_lst pa_nil)) (pss_cons (ps_for (passes_of rfl) rfl (pi_seqU (pv 1)) (pg_name (i := 4) sc_rows_so.nd rfl (by first | exact .inl rfl | exact .inr rfl)) (pss_cons (ps_set (i := 5) sc_rows_so.nd rfl (by first | exact .inl rfl | exact .inr rfl) (pe_lc rfl sc_rows_so.nd (pi_seqU (pv 4)) (blkOk_by (N := N_rows_so) (sc := defScope s_rows_so) (own := [("waggon", 7)]) (by decide +kernel)) (fun _ _ _ _ _ => (pg_name (i := 7) sc_rows_so.nd rfl (by first | exact .inl rfl | exact .inr rfl))) (fun _ _ _ _ _ => pts_nil) (fun _ _ _ _ _ => (pe_callB call_abs (by rfl) (fr_abs c) PyProof.Rows.boot_abs (pa_cons (pv 7) pa_nil))))) (pss_cons (ps_setLc (i := 6) rfl sc_rows_so.nd rfl rfl rfl (pi_range2 (by rfl) (fr_range c) (pa_cons (pe_op op_sub pe_int (pv 0)) (pa_cons (pe_op op_addU (pv 0) pe_int) pa_nil))) (blkOk_by (N := N_rows_so) (sc := defScope s_rows_so) (own := [("waggon", 7)]) (by decide +kernel)) (fun _ _ _ _ _ => (pg_name (i := 7) sc_rows_so.nd rfl (by first | exact .inl rfl | exact .inr rfl))) (fun _ _ _ _ _ => (pts_one (PW.pt (pw_and (pt_cmpR (show OpR _ _ (rNeU K) from (op_neU hr.u64)) (pv 7) pe_int (nomark _)) (pw_and1 (pt_cmpR (show OpR _ _ (rNotInV K w) from (op_notInV hr.u65)) (pe_callB call_abs (by rfl) (fr_abs c) PyProof.Rows.boot_abs (pa_cons (pv 7) pa_nil)) (pv 5) (by with_unfolding_all rfl))))))) (fun _ _ _ _ _ => (pv 7))) (pss_one (ps_expr (pe_bm PySem.F.plainAttrs_list PySem.F.slot_list_extend PySem.F.type_list_extend mt_extend (pv 3) (pa_cons (pe_lc rfl sc_rows_so.nd (pi_seqU (pv 6)) (blkOk_by (N := N_rows_so) (sc := defScope s_rows_so) (own := [("waggon", 7)]) (by decide +kernel)) (fun _ _ _ _ _ => (pg_name (i := 7) sc_rows_so.nd rfl (by first | exact .inl rfl | exact .inr rfl))) (fun _ _ _ _ _ => pts_nil) (fun _ _ _ _ _ => (pe_op (show OpR _ _ (rAddU K) from op_addU) (pv 4) (pe_tupF (pa_cons (pv 7) pa_nil))))) pa_nil))))))) (pss_one (ps_set (i := 1) sc_rows_so.nd rfl (by first | exact .inl rfl | exact .inr rfl) (pv 3)))))) (pss_one (ps_ret (pv 1))))),
    (ds_seq (ds_set (i := 1) (dv (de_lst (da_cons (de_tup da_nil) da_nil)))) (ds_seq (ds_for (di_rng1 (da_cons (de_var 0) da_nil)) (dg_name 2) (ds_seq (ds_set (i := 3) (dv_lst da_nil)) (ds_seq (ds_for (di_seqU (de_var 1)) (dg_name 4) (ds_seq (ds_set (i := 5) (dv (de_lc (di_seqU (de_var 4)) (dg_name 7) dt_yes (de_cb n_abs (dp_cons ((de_var 7)).q dp_nil)) (by decide)))) (ds_seq (ds_set (i := 6) (dv (de_lc (di_rng2 (da_cons (de_op o_sub (de_int).q ((de_var 0)).q) (da_cons (de_op o_add ((de_var 0)).q (de_int).q) da_nil))) (dg_name 7) (dt_and (dt_test (de_op o_ne ((de_var 7)).q (de_int).q)) (dt_test (de_op o_notInV ((de_cb n_abs (dp_cons ((de_var 7)).q dp_nil))).q ((de_var 5)).q))) (de_var 7) (by decide)))) (ds_ext 3 (de_lc (di_seqU (de_var 6)) (dg_name 7) dt_yes (de_op o_add ((de_var 4)).q ((de_tup (da_cons (de_var 7) da_nil))).q) (by decide)))))) (ds_frz 3 (ds_set (i := 1) (dv (de_var 3))))))) (ds_ret (de_var 1))))⟩

noncomputable def den_rows_of : DS := (sExpr (dCall 1 F_need_counted (dCons (dVar 0) dNil)))
noncomputable def F_rows_of : DF := runD 2 den_rows_of
theorem fn_rows_of (c : CC P K mg base) : GFnX P w K mg base 4 (He.ga K "rows_of") (spXD (GG w K) (fun c => decide (c < 9)) 1 F_rows_of) := by
  obtain ⟨fd, F⟩ := c.d.def_ 9 (d := d_rows_of) rfl
  exact gnX (funD_fun (st := s_rows_of) F) sc_rows_of (FunD.bindsN F fun _ _ _ _ _ _ us hl => match us, hl with | [_], _ => rfl) fun cdv A out s H E pn hr => ⟨_, _, _, rfl, (ps_expr (pe_callA (fn_need_counted (w := w) c) (hr.less (by decide)) (by rfl) (gl_need_counted c) (kp_need_counted c) passG (pa_cons (pv 0) pa_nil))), (ds_expr (de_call (da_cons (de_var 0) da_nil)))⟩
noncomputable def y_rows_of : DY := (yThen (yPlain (sExpr (dCall 1 F_need_counted (dCons (dVar 0) dNil)))) (yThen (yFor (dSeqU (dCall 1 F_rows_so (dCons (dVar 0) dNil))) (hName 1) (yThen (yYield (dMake 0 F_Row___init__ (dCons (dVar 1) dNil))) yNil)) yNil))
theorem fny_rows_of (c : CC P K mg base) : GFnY P w K mg base 5 (He.ga K "rows_of") 1 (spYD (GG w K) 2 y_rows_of) := by
  obtain ⟨fd, F⟩ := c.d.def_ 9 (d := d_rows_of) rfl
  exact gnY (funD_fun (st := s_rows_of) F) sc_rows_of (FunD.bindsN F fun _ _ _ _ _ _ us hl => match us, hl with | [_], _ => rfl) (fun _ => rfl) fun cdv A out s H pn hr => ⟨_, (gssy_cons (gsy_ps (ps_expr (pe_callA (fn_need_counted (w := w) c) (hr.less (by decide)) (by rfl) (gl_need_counted c) (kp_need_counted c) passG (pa_cons (pv 0) pa_nil)))) (gssy_cons (gsy_for owns_gcx rfl (pi_seqU (pe_callA (fn_rows_so (w := w) c) (hr.less (by decide)) (by rfl) (gl_rows_so c) (kp_rows_so c) passG (pa_cons (pv 0) pa_nil))) (pg_name (i := 1) sc_rows_of.nd rfl (by first | exact .inl rfl | exact .inr rfl)) (gssy_cons (gsy_yield (pe_makeA (mk_Row c) (fn_Row___init__ (w := w) c) (hr.less (by decide)) (by rfl) (gl_Row c) passG (pa_cons (pv 1) pa_nil))) gssy_nil)) gssy_nil)), (dsy_cons (dsy_plain (ds_expr (de_call (da_cons (de_var 0) da_nil)))) (dsy_cons (dsy_for (di_seqU (de_call (da_cons (de_var 0) da_nil))) (dg_name 1) (dsy_cons (dsy_yield (de_make (da_cons (de_var 1) da_nil))) dsy_nil)) dsy_nil))⟩

noncomputable def den__law_mixed : DS :=
  (sSeq (sSet 2 (dvV (dOp addD (dOp addD (dOp modD (dCB intD (dCons (dOp mulD (dOp mulD (dVar 0) (dOp addD (dC (.int 1)) (dOp mulD (dC (.int 2)) (dVar 1)))) (dC (.int 48271))) dNil)) (dC (.int 2147483647))) (dOp mulD (dOp mulD (dC (.int 7919)) (dVar 1)) (dVar 1))) (dOp mulD (dC (.int 104729)) (dVar 1)))))
    (sRet (dOp divD (dOp modD (dCB intD (dCons (dOp mulD (dVar 2) (dC (.int 69621))) dNil)) (dC (.int 2147483629))) (dC (.int 7)))))
noncomputable def F__law_mixed : DF := runD 3 den__law_mixed
theorem fn__law_mixed (c : CC P K mg base) : FnA P w K mg base 1 (He.ga K "_law_mixed") (spD (GG w K) 2 F__law_mixed) := by
  obtain ⟨fd, F⟩ := c.d.def_ 10 (d := d__law_mixed) rfl
  exact fnD (funD_fun (st := s__law_mixed) F) sc__law_mixed (FunD.bindsN F fun _ _ _ _ _ _ us hl => match us, hl with | [_, _], _ => rfl) fun cdv A out s H E hr => ⟨_,
    (pss_cons (ps_set (i := 2) sc__law_mixed.nd rfl (by first | exact .inl rfl | exact .inr rfl) (pe_op op_addU (pe_op op_addU (pe_op op_mod (pe_callTy call_int1 (by rfl) (fr_int c) PyProof.Rows.boot_int (pa_cons (pe_op op_mulU (pe_op op_mulU (pv 0) (pe_op op_addU pe_int (pe_op op_mulU pe_int (pv 1)))) pe_int) pa_nil)) pe_int) (pe_op op_mulU (pe_op op_mulU pe_int (pv 1)) (pv 1))) (pe_op op_mulU pe_int (pv 1)))) (pss_one (ps_ret (pe_op op_fdiv (pe_op op_mod (pe_callTy call_int1 (by rfl) (fr_int c) PyProof.Rows.boot_int (pa_cons (pe_op op_mulU (pv 2) pe_int) pa_nil)) pe_int) pe_int)))),
    (ds_seq (ds_set (i := 2) (dv (de_op o_add ((de_op o_add ((de_op o_mod ((de_cb n_int (dp_cons ((de_op o_mul ((de_op o_mul ((de_var 0)).q ((de_op o_add (de_int).q ((de_op o_mul (de_int).q ((de_var 1)).q)).q)).q)).q (de_int).q)).q dp_nil))).q (de_int).q)).q ((de_op o_mul ((de_op o_mul (de_int).q ((de_var 1)).q)).q ((de_var 1)).q)).q)).q ((de_op o_mul (de_int).q ((de_var 1)).q)).q))) (ds_ret (de_op o_div ((de_op o_mod ((de_cb n_int (dp_cons ((de_op o_mul ((de_var 2)).q (de_int).q)).q dp_nil))).q (de_int).q)).q (de_int).q)))⟩

noncomputable def den__law_folded_b1 : DS :=
  (sPutU 1 (dOp modD (dCB intD (dCons (dOp addD (dOp mulD (dOp ixV (dPeek 1) (dOp modD (dCB intD (dCons (dVar 2) dNil)) (dC (.int 64)))) (dC (.int 48271))) (dVar 3)) dNil)) (dC (.int 2147483647))) (dOp modD (dCB intD (dCons (dVar 2) dNil)) (dC (.int 64))))
noncomputable def den__law_folded_b2 : DS :=
  (sPutU 1 (dOp modD (dCB intD (dCons (dOp addD (dOp ixV (dPeek 1) (dVar 2)) (dOp mulD (dOp ixV (dPeek 1) (dOp subD (dVar 2) (dC (.int 1)))) (dC (.int 16807)))) dNil)) (dC (.int 2147483647))) (dVar 2))
noncomputable def den__law_folded : DS :=
  (sSeq (sSet 1 (fun ρ m => (dLc (dRng1 (dCons (dC (.int 64)) dNil)) (hName 2) (fun _ m => .ok true m) (dOp addD (dC (.int 17)) (dVar 2)) [2] ρ m).map .ml))
    (sSeq (sFor (dEnumU (dCons (dVar 0) dNil)) (hTup 2 (hCons (hName 2) (hCons (hName 3) hNil))) den__law_folded_b1)
    (sSeq (sFor (dRng2 (dCons (dC (.int 1)) (dCons (dC (.int 64)) dNil))) (hName 2) den__law_folded_b2)
    (sFrz 1 (sRet (dVar 1))))))
noncomputable def F__law_folded : DF := runD 4 den__law_folded
theorem fn__law_folded (c : CC P K mg base) : FnA P w K mg base 1 (He.ga K "_law_folded") (spD (GG w K) 1 F__law_folded) := by
  obtain ⟨fd, F⟩ := c.d.def_ 11 (d := d__law_folded) rfl
  exact fnD (funD_fun (st := s__law_folded) F) sc__law_folded (FunD.bindsN F fun _ _ _ _ _ _ us hl => match us, hl with | [_], _ => rfl) fun cdv A out s H E hr => ⟨_,
    (pss_cons (ps_setLc (i := 1) rfl sc__law_folded.nd rfl rfl rfl (pi_range1 (by rfl) (fr_range c) (pa_cons pe_int pa_nil)) (blkOk_by (N := N__law_folded) (sc := defScope s__law_folded) (own := [("n", 2)]) (by decide +kernel)) (fun _ _ _ _ _ => (pg_name (i := 2) sc__law_folded.nd rfl (by first | exact .inl rfl | exact .inr rfl))) (fun _ _ _ _ _ => pts_nil) (fun _ _ _ _ _ => (pe_op (show OpR _ _ (rAddU K) from op_addU) pe_int (pv 2)))) (pss_cons (ps_for (passes_of rfl) rfl (pi_enumU (by rfl) (fr_enumerate c) (pa_cons (pv 0) pa_nil)) (pg_tup rfl (pgs_cons (pg_name (i := 2) sc__law_folded.nd rfl (by first | exact .inl rfl | exact .inr rfl)) (pgs_cons (pg_name (i := 3) sc__law_folded.nd rfl (by first | exact .inl rfl | exact .inr rfl)) pgs_nil))) (pss_one (ps_asg (pe_op op_mod (pe_callTy call_int1 (by rfl) (fr_int c) PyProof.Rows.boot_int (pa_cons (pe_op op_addU (pe_op op_mulU (pe_ix (ix_V hr.u10) (pv 1) (pe_op op_mod (pe_callTy call_int1 (by rfl) (fr_int c) PyProof.Rows.boot_int (pa_cons (pv 2) pa_nil)) pe_int) (fun _ _ => rfl)) pe_int) (pv 3)) pa_nil)) pe_int) (pg_sub (pv 1) (pe_op op_mod (pe_callTy call_int1 (by rfl) (fr_int c) PyProof.Rows.boot_int (pa_cons (pv 2) pa_nil)) pe_int) (set_V hr.u10))))) (pss_cons (ps_for (passes_of rfl) rfl (pi_range2 (by rfl) (fr_range c) (pa_cons pe_int (pa_cons pe_int pa_nil))) (pg_name (i := 2) sc__law_folded.nd rfl (by first | exact .inl rfl | exact .inr rfl)) (pss_one (ps_asg (pe_op op_mod (pe_callTy call_int1 (by rfl) (fr_int c) PyProof.Rows.boot_int (pa_cons (pe_op op_addU (pe_ix (ix_V hr.u10) (pv 1) (pv 2) (fun _ _ => rfl)) (pe_op op_mulU (pe_ix (ix_V hr.u10) (pv 1) (pe_op op_sub (pv 2) pe_int) (fun _ _ => rfl)) pe_int)) pa_nil)) pe_int) (pg_sub (pv 1) (pv 2) (set_V hr.u10))))) (pss_one (ps_ret (pv 1)))))),
    (ds_seq (ds_set (i := 1) (dv_lc (di_rng1 (da_cons de_int da_nil)) (dg_name 2) dt_yes (de_op o_add (de_int).q ((de_var 2)).q) (by decide))) (ds_seq (ds_for (di_enumU (da_cons (de_var 0) da_nil)) (dg_tup (dgs_cons (dg_name 2) (dgs_cons (dg_name 3) dgs_nil))) (ds_putU 1 (de_op o_mod ((de_cb n_int (dp_cons ((de_op o_add ((de_op o_mul ((de_op o_ixV (dq_var 1) ((de_op o_mod ((de_cb n_int (dp_cons ((de_var 2)).q dp_nil))).q (de_int).q)).q)).q (de_int).q)).q ((de_var 3)).q)).q dp_nil))).q (de_int).q) (de_op o_mod ((de_cb n_int (dp_cons ((de_var 2)).q dp_nil))).q (de_int).q))) (ds_seq (ds_for (di_rng2 (da_cons de_int (da_cons de_int da_nil))) (dg_name 2) (ds_putU 1 (de_op o_mod ((de_cb n_int (dp_cons ((de_op o_add ((de_op o_ixV (dq_var 1) ((de_var 2)).q)).q ((de_op o_mul ((de_op o_ixV (dq_var 1) ((de_op o_sub ((de_var 2)).q (de_int).q)).q)).q (de_int).q)).q)).q dp_nil))).q (de_int).q) (de_var 2))) (ds_frz 1 (ds_ret (de_var 1))))))⟩

theorem mixed_ok (m : Mo) (c n : Int) (h0 : 0 ≤ c) (h1 : c < 1000000000000) (h2 : 0 ≤ n) (h3 : n < 1000000000000) : F__law_mixed [.int c, .int n] m = .ok (.int (mixV c n)) m := by
  unfold F__law_mixed den__law_mixed
  and_intros
  rfl
open Classical in
noncomputable def F__law_draw : DF := fun ds m => match ds, m with
  | [.drw, .int L], some r => if (0 < L ∧ L < 1000000) ∧ r.spot < 1000000000 then .ok (.int (drawV r L)) (some (drawM r L)) else .bad
  | _, _ => .bad
/-- the row behind the great numbers -/
abbrev tDrawEnd (G : Cl) (E : XK) : TS := tSeq (tAsg (tDGet (tVar 0) (tC (.str "cells"))) (gName 3)) (tRet (tOp (rI (fun _ j => 0 < j) fun i j => .int (i % j)) (tCB (fun xs H Q => (∃ i, xs = [.int i] ∧ Q (.int i) H) ∨ ∃ k, xs = [.bl k] ∧ Q (.int (if k then 1 else 0)) H)
  (tCons (tCallA (spD G 2 F__law_mixed) E (tCons (tCallA (spD G 2 F__law_mixed) E (tCons (tOp (rAddU G.K) (tOp (rIx G.K) (tVar 3) (tOp (rI (fun _ j => 0 < j) fun i j => .int (i % j)) (tCB (fun xs H Q => (∃ i, xs = [.int i] ∧ Q (.int i) H) ∨ ∃ k, xs = [.bl k] ∧ Q (.int (if k then 1 else 0)) H) (tCons (tVar 2) tNil)) (tC (.int 64))))
    (tOp (rMulU G.K) (tC (.int 31)) (tOp (rI CDiv fun i j => .int (i / j)) (tVar 2) (tC (.int 64))))) (tCons (tVar 2) tNil))) (tCons (tOp (rAddU G.K) (tVar 2) (tC (.int 7))) tNil))) tNil)) (tVar 1)))
theorem draw_at {ns : List Int} {n k : Nat} (hl : ns.length = k) (hk : 0 < k) : atI (ns.map V.int) ((n : Int) % (k : Int)) = some (V.int (ns.getD (n % k) 0)) ∧ ixN (ns.map V.int).length ((n : Int) % (k : Int)) = some (n % k) := by
  have hm : n % k < ns.length := by rw [hl]; exact Nat.mod_lt _ hk
  have e : (n : Int) % (k : Int) = ((n % k : Nat) : Int) := by omega
  have e2 : ixN (ns.map V.int).length ((n : Int) % (k : Int)) = some (n % k) := by
    unfold ixN
    rw [if_pos (by omega), if_pos (by rw [List.length_map]; omega), e]
    rfl
  refine ⟨?_, e2⟩
  unfold atI
  rw [e2]
  show (ns.map V.int)[n % k]? = _
  rw [List.getElem?_map, List.getElem?_eq_getElem hm, List.getD_eq_getElem?_getD, List.getElem?_eq_getElem hm]
  rfl
theorem draw_live {G : Cl} {H : Hp} (tb : LamX.Tabs G.T H) : Start G Non none H := ⟨True.intro, fun _ h => h, fun b hb => hb.elim, tb⟩
theorem mrec_ext {H H' : Hp} {r : MS} (h : MRec H r) (e : Ext Non H H') : MRec H' r := by
  obtain ⟨h1, h2, h3, h4⟩ := h
  exact ⟨e _ _ (fun z => z) (fun ps z => by cases z) h1, e _ _ (fun z => z) (fun ps z => by cases z) h2, e _ _ (fun z => z) (fun ps z => by cases z) h3, h4⟩
theorem draw_end {G : Cl} {E : XK} {Q : VK} {L : Int} {r : MS} {x3 x4 x5 : Option V} {H2 : Hp} (hL : 0 < L) (hs : r.spot < 1000000000) (h : MRec H2 { r with spot := r.spot + 1 }) (tb : LamX.Tabs G.T H2)
    (q : ∀ H3, Ext (drO r) H2 H3 → MRec H3 { r with spot := r.spot + 1 } → LamX.Tabs G.T H3 → Q (.int (mixV (mixV (r.cells.getD (r.spot % 64) 0 + 31 * ((r.spot / 64 : Nat) : Int)) r.spot) (r.spot + 7) % L)) H3) :
    tDrawEnd G E { nx := fun _ H' => Q .non H', rt := Q } [some (.ref r.am), some (.int L), some (.int r.spot), x3, x4, x5] H2 := by
  obtain ⟨h1, h2, h3, hne, hl, hc, hg⟩ := id h
  have hcell : 0 ≤ r.cells.getD (r.spot % 64) 0 ∧ r.cells.getD (r.spot % 64) 0 < 2147483647 := by
    have hm : r.spot % 64 < r.cells.length := by rw [hl]; omega
    rw [List.getD_eq_getElem?_getD, List.getElem?_eq_getElem hm]
    exact hc _ (List.getElem_mem hm)
  obtain ⟨ea, _⟩ := draw_at (n := r.spot) hl (by decide : 0 < 64)
  have hdiv : ((r.spot : Int) / 64) = ((r.spot / 64 : Nat) : Int) := by omega
  refine ⟨.ref r.am, rfl, r.am, .ref r.ac, rfl, dgC (r := { r with spot := r.spot + 1 }) h1, ?_⟩
  refine ⟨.ref r.ac, rfl, .int r.spot, rfl, .inl ⟨_, rfl, _, _, rfl, rfl, (show (0 : Int) < 64 by decide), ?_⟩⟩
  refine .inl ⟨r.ac, _, _, _, rfl, rfl, SqL.of h2, ea, ?_⟩
  refine ⟨.int r.spot, rfl, _, _, rfl, rfl, ⟨by decide, by decide⟩, ?_⟩
  refine .inl ⟨31, ((r.spot / 64 : Nat) : Int), rfl, congrArg V.int hdiv, .inl ⟨by omega, by omega⟩, ?_⟩
  refine .inl ⟨_, _, rfl, rfl, ?_⟩
  refine ⟨.int r.spot, rfl, ?_⟩
  refine ⟨_, [.int (r.cells.getD (r.spot % 64) 0 + 31 * ((r.spot / 64 : Nat) : Int)), .int r.spot], none, rfl, .cons (.int _) (.cons (.int _) .nil), draw_live tb, ?_⟩
  rw [mixed_ok _ _ _ (by omega) (by omega) (by omega) (by omega)]
  intro v H3 g3 rv
  cases rv
  have k3 : MRec H3 { r with spot := r.spot + 1 } := mrec_ext h g3.x
  refine ⟨.int r.spot, rfl, .inl ⟨_, _, rfl, rfl, ?_⟩⟩
  have b1 := mixV_le (c := r.cells.getD (r.spot % 64) 0 + 31 * ((r.spot / 64 : Nat) : Int)) (n := r.spot) (by omega)
  refine ⟨_, [.int (mixV (r.cells.getD (r.spot % 64) 0 + 31 * ((r.spot / 64 : Nat) : Int)) r.spot), .int ((r.spot : Int) + 7)], none, rfl, .cons (.int _) (.cons (.int _) .nil), draw_live g3.tb, ?_⟩
  rw [mixed_ok _ _ _ (by omega) (by omega) (by omega) (by omega)]
  intro v H4 g4 rv
  cases rv
  have k4 : MRec H4 { r with spot := r.spot + 1 } := mrec_ext k3 g4.x
  refine .inl ⟨_, rfl, .int L, rfl, _, _, rfl, rfl, hL, ?_⟩
  exact q H4 ((g3.x.trans g4.x).imp fun _ z => z.elim) k4 g4.tb
theorem fn__law_draw (c : CC P K mg base) : FnA P w K mg base 4 (He.ga K "_law_draw") (spD (GG w K) 2 F__law_draw) := by
  obtain ⟨fd, F⟩ := c.d.def_ 12 (d := d__law_draw) rfl
  refine fnA_of (funD_fun (st := s__law_draw) F) sc__law_draw (FunD.bindsN F fun _ _ _ _ _ _ us hl => match us, hl with | [_, _], _ => rfl) fun cdv A out s H vs Q E hr h => ?_
  have hu : (A.deeper (envOfC "_law_draw" (defScope s__law_draw) s.heap.objs.size (He.ga K "_law_draw") cdv)).units + 1 < cLine := by
    have z := hr.u64
    exact Nat.lt_of_le_of_lt (Nat.add_le_add_left (by decide) _) z
  obtain ⟨M, ds, m, hn, rs, st, p⟩ := h
  refine ⟨rs.length.trans hn, _,
    (pss_cons (ps_set (i := 2) sc__law_draw.nd rfl (.inl rfl) (pe_dget hu (pv 0) pe_str (fun _ _ => rfl)))
    (pss_cons (ps_dput hu (pv 0) pe_str (pe_op op_addU (pv 2) pe_int) rfl)
    (pss_cons (ps_if (pt_cmpR (op_neD hr.u64) (pe_dget hu (pv 0) pe_str (fun _ _ => rfl)) (pe_lst pa_nil) (nomark _))
      (pss_cons (ps_set (i := 3) sc__law_draw.nd rfl (.inl rfl) (pe_dget hu (pv 0) pe_str (fun _ _ => rfl)))
      (pss_cons (ps_set (i := 4) sc__law_draw.nd rfl (.inl rfl) (pe_op op_mod (pe_callTy call_int1 (by rfl) (fr_int c) PyProof.Rows.boot_int (pa_cons (pv 2) pa_nil)) (pe_callB call_lenU (by rfl) (fr_len c) PySem.boot_len (pa_cons (pv 3) pa_nil))))
      (pss_cons (ps_set (i := 5) sc__law_draw.nd rfl (.inl rfl) (pe_ix ix_seq (pv 3) (pv 4) (fun _ _ => rfl)))
      (pss_one (ps_if (pt_cmpR op_gt (pv 5) pe_int (nomark _))
        (pss_cons (ps_asg (pe_op op_fdiv (pv 5) (pv 1)) (pg_sub (pv 3) (pv 4) set_list)) (pss_one (ps_ret (pe_op op_mod (pe_callTy call_int1 (by rfl) (fr_int c) PyProof.Rows.boot_int (pa_cons (pv 5) pa_nil)) (pv 1))))) pss_nil))))) pss_nil)
    (pss_cons (ps_set (i := 3) sc__law_draw.nd rfl (.inl rfl) (pe_dget hu (pv 0) pe_str (fun _ _ => rfl)))
    (pss_one (ps_ret (pe_op op_mod (pe_callTy call_int1 (by rfl) (fr_int c) PyProof.Rows.boot_int (pa_cons (pe_callA (fn__law_mixed c) (hr.less (by decide)) (by rfl) (gl__law_mixed c) (kp__law_mixed c) pss0
      (pa_cons (pe_callA (fn__law_mixed c) (hr.less (by decide)) (by rfl) (gl__law_mixed c) (kp__law_mixed c) pss0 (pa_cons (pe_op op_addU (pe_ix ix_seq (pv 3) (pe_op op_mod (pe_callTy call_int1 (by rfl) (fr_int c) PyProof.Rows.boot_int (pa_cons (pv 2) pa_nil)) pe_int) (fun _ _ => rfl)) (pe_op op_mulU pe_int (pe_op op_fdiv (pv 2) pe_int))) (pa_cons (pv 2) pa_nil)))
        (pa_cons (pe_op op_addU (pv 2) pe_int) pa_nil))) pa_nil)) (pv 1)))))))), ?_⟩
  unfold F__law_draw at p
  split at p
  rotate_left
  · exact p.elim
  rename_i L r
  split at p
  rotate_left
  · exact p.elim
  rename_i hc
  obtain ⟨⟨hL0, hL1⟩, hsp⟩ := hc
  cases rs with
  | cons r0 rs1 =>
  cases rs1 with
  | cons r1 rs2 =>
  cases rs2
  cases r1
  cases r0 with
  | drw h0 =>
  cases h0
  obtain ⟨⟨h1, h2, h3, hne, hl, hcs, hg⟩, hcel⟩ := st.mr
  have n1 : r.ac ≠ r.am := ne_of h2 h1 (fun z => by cases z)
  have n2 : r.ag ≠ r.am := ne_of h3 h1 (fun z => by cases z)
  have fin : ∀ {H2 : Hp} {r2 : MS} {v : Int}, v = drawV r L → r2 = drawM r L → Ext (drO r) H H2 → MRec H2 r2 → LamX.Tabs (GG w K).T H2 → Q (.int v) H2 := fun {H2 r2 v} e1 e2 x k tb => by
    subst e1 e2
    obtain ⟨a1, a2, a3, _, a5⟩ := drawM_ad (r := r) (L := L)
    have xh : ∀ b, drO r b → Mo.has (some r) b := fun b z => z.elim .inl fun z => .inr (z.elim .inl fun z => .inr (.inl z))
    refine p _ _ ⟨x.imp xh, ?_, ?_, ⟨k, (hcel.mono x (fun b z => st.aM b (xh b z)) (fun _ z => z) fun b hb z => ?_).of a5 a1 a2 a3⟩, tb⟩ (.int _)
    · show Mo.ad (some (drawM r L)) = Mo.ad (some r)
      unfold Mo.ad
      dsimp only
      rw [a1, a2, a3, a5]
    rotate_left
    · obtain ⟨b1, b2, b3⟩ := hcel.ap b hb
      exact z.elim b1 fun z => z.elim b2 b3
    show Mo.has (some (drawM r L)) = Mo.has (some r)
    unfold Mo.has MS.ads
    dsimp only
    rw [a1, a2, a3, a5]
  refine ⟨.ref r.am, rfl, r.am, .int r.spot, rfl, dgS h1, ?_⟩
  refine ⟨.int r.spot, rfl, .inl ⟨_, _, rfl, rfl, .ref r.am, rfl, r.am, _, rfl, dpS h1, ?_⟩⟩
  have x1 : Ext (drO r) H (upd H r.am (dKm { r with spot := r.spot + 1 })) := Ext.refl.chg (.inr (.inl rfl))
  have k1 : MRec (upd H r.am (dKm { r with spot := r.spot + 1 })) { r with spot := r.spot + 1 } := ⟨upd_same, by rw [upd_ne n1]; exact h2, by rw [upd_ne n2]; exact h3, hne, hl, hcs, hg⟩
  have tb1 : LamX.Tabs (GG w K).T (upd H r.am (dKm { r with spot := r.spot + 1 })) := tabs_upd st.tb (.dK h1)
  generalize upd H r.am (dKm { r with spot := r.spot + 1 }) = H1 at x1 k1 tb1
  obtain ⟨j1, j2, j3, _⟩ := id k1
  refine ⟨.ref r.am, rfl, r.am, .ref r.ag, rfl, dgG (r := { r with spot := r.spot + 1 }) j1, Nat.zero_le _, fun o ho => ?_⟩
  have xo : Ext Non H1 (upd H1 o (.lst [])) := Ext.new ho
  have k2 : MRec (upd H1 o (.lst [])) { r with spot := r.spot + 1 } := mrec_ext k1 xo
  have x2 : Ext (drO r) H (upd H1 o (.lst [])) := x1.trans (xo.imp fun _ z => z.elim)
  have ro : Rep (GG w K) none Non (upd H1 o (.lst [])) (.ref o) (.lst ([].map D.int)) := .lst upd_same (fun z => z) .nil
  obtain ⟨i1, i2, i3, _⟩ := id k2
  have rg : Rep (GG w K) none Non (upd H1 o (.lst [])) (.ref r.ag) (.lst (r.great.map D.int)) := .lst i3 (fun z => z) (reps_ints _)
  have tb2 : LamX.Tabs (GG w K).T (upd H1 o (.lst [])) := tabs_upd tb1 (.none ho)
  generalize upd H1 o (.lst []) = H2 at xo k2 x2 ro i1 i2 i3 rg tb2
  refine ⟨_, _, rg.dp (plain_lints (n := 5)), ro.dp (plain_lints (n := 5)), plain_shaped (plain_lints (n := 5)) (by omega), plain_shaped (plain_lints (n := 5)) (by omega), _, rfl, ?_⟩
  have eg : PyData.eqv (D.lst (r.great.map D.int)).py (D.lst (([] : List Int).map D.int)).py = decide (r.great = []) := by
    cases r.great with
    | nil => simp [D.py, D.pys, PyData.eqv, PyData.eqvAll]
    | cons a b => simp [D.py, D.pys, PyData.eqv, PyData.eqvAll]
  rw [eg]
  by_cases hgr : r.great = []
  · rw [decide_eq_true hgr]
    refine iteF ?_
    refine draw_end hL0 hsp k2 tb2 fun H3 x3 k3 t3 => fin ?_ ?_ (x2.trans x3) k3 t3
    · unfold drawV
      rw [if_neg fun z => z.1 hgr]
    · unfold drawM
      rw [if_neg fun z => z.1 hgr]
  · rw [decide_eq_false hgr]
    refine iteT ?_
    have hk : 0 < r.great.length := List.length_pos_iff.mpr hgr
    obtain ⟨ea, ei⟩ := draw_at (ns := r.great) (n := r.spot) rfl hk
    refine ⟨.ref r.am, rfl, r.am, .ref r.ag, rfl, dgG (r := { r with spot := r.spot + 1 }) i1, ?_⟩
    refine ⟨.int r.spot, rfl, .inl ⟨_, rfl, .ref r.ag, rfl, .ref r.ag, (r.great.map V.int).length, rfl, .inl ⟨_, SqL.of i3, rfl⟩, _, _, rfl, rfl, by rw [List.length_map]; omega, ?_⟩⟩
    rw [List.length_map]
    refine ⟨.ref r.ag, rfl, .int ((r.spot : Int) % (r.great.length : Int)), rfl, .inl ⟨r.ag, _, _, _, rfl, rfl, SqL.of i3, ea, ?_⟩⟩
    refine ⟨_, rfl, _, _, rfl, rfl, _, rfl, ?_⟩
    by_cases hpos : 0 < r.great.getD (r.spot % r.great.length) 0
    · rw [decide_eq_true hpos]
      refine iteT ?_
      refine ⟨_, rfl, .int L, rfl, _, _, rfl, rfl, ⟨hL0, by omega⟩, .ref r.ag, rfl, .int ((r.spot : Int) % (r.great.length : Int)), rfl, r.ag, r.great.map V.int, _, _, rfl, rfl, i3, ei, ?_⟩
      have n3 : r.ac ≠ r.ag := hne
      have n4 : r.am ≠ r.ag := Ne.symm n2
      refine ⟨_, rfl, .inl ⟨_, rfl, .int L, rfl, _, _, rfl, rfl, hL0, ?_⟩⟩
      refine fin (r2 := { r with spot := r.spot + 1, great := r.great.set (r.spot % r.great.length) (r.great.getD (r.spot % r.great.length) 0 / L) }) ?_ ?_ (x2.chg (.inr (.inr (.inr rfl)))) ⟨?_, ?_, ?_, hne, hl, hcs, ?_⟩ (tabs_upd tb2 (.lst i3))
      · unfold drawV
        rw [if_pos ⟨hgr, hpos⟩]
      · unfold drawM
        rw [if_pos ⟨hgr, hpos⟩]
      · rw [upd_ne n4]
        exact i1
      · rw [upd_ne n3]
        exact i2
      · rw [upd_same, List.map_set]
      · rw [List.length_set]
        exact hg
    · rw [decide_eq_false hpos]
      refine iteF ?_
      refine draw_end hL0 hsp k2 tb2 fun H3 x3 k3 t3 => fin ?_ ?_ (x2.trans x3) k3 t3
      · unfold drawV
        rw [if_neg fun z => hpos z.2]
      · unfold drawM
        rw [if_neg fun z => hpos z.2]

theorem folded_ok (ns : List Int) (m : Mo) : ∃ cells : List Int, F__law_folded [.scr ns] m = .ok (.lst (cells.map D.int)) m ∧ cells.length = 64 ∧ ∀ c ∈ cells, 0 ≤ c ∧ c < 2147483647 := by
  unfold F__law_folded den__law_folded den__law_folded_b1 den__law_folded_b2
  and_intros
  have e1 : lcD (hName 2) (fun x m => R.ok true m) (dOp addD (dC (D.int 17)) (dVar 2)) (rangeD 0 64) [some (Sv.v (D.scr ns)), none, none, none] m = .ok (((List.range 64).map fun (i : Nat) => (17 + (0 + (i : Int)))).map D.int) m := by
    rw [rangeD_map, lcD_all (fun (i : Nat) => D.int (0 + i)) (fun (i : Nat) => D.int (17 + (0 + (i : Int)))), List.map_map]
    · rfl
    · intro i _
      exact ⟨_, rfl, rfl, by and_intros⟩
  rw [e1]
  and_intros
  generalize hc0 : (List.range 64).map (fun (i : Nat) => (17 + (0 + (i : Int)))) = c0
  have l0 : c0.length = 64 := by rw [← hc0]; simp
  have b0 : ∀ c ∈ c0, 0 ≤ c ∧ c < 2147483647 := by
    intro c hc
    rw [← hc0] at hc
    obtain ⟨i, hi, rfl⟩ := List.mem_map.mp hc
    have hi' := List.mem_range.mp hi
    omega
  clear e1 hc0
  let I : Nat → Ro → Mo → Prop := fun _ ρ m' => m' = m ∧ ∃ (x2 x3 : Option Sv) (cs : List Int), ρ = [some (Sv.v (D.scr ns)), some (.ml (cs.map D.int)), x2, x3] ∧ cs.length = 64 ∧ ∀ c ∈ cs, 0 ≤ c ∧ c < 2147483647
  have put : ∀ (cs : List Int) (j : Nat) (x : Int), cs.length = 64 → (∀ c ∈ cs, 0 ≤ c ∧ c < 2147483647) → 0 ≤ x → x < 2147483647 → (cs.set j x).length = 64 ∧ ∀ c ∈ cs.set j x, 0 ≤ c ∧ c < 2147483647 := fun cs j x h1 h2 h3 h4 =>
    ⟨by rw [List.length_set]; exact h1, fun c hc => (List.mem_or_eq_of_mem_set hc).elim (h2 c) fun e => by rw [e]; exact ⟨h3, h4⟩⟩
  have md : ∀ z : Int, 0 ≤ z % 2147483647 ∧ z % 2147483647 < 2147483647 := fun z => ⟨Int.emod_nonneg _ (by decide), Int.emod_lt_of_pos _ (by decide)⟩
  have st : ∀ i d ρ m', (enumD 0 (ns.map D.int))[i]? = some d → I i ρ m' → ∃ ρ1 ρ2 m2, hTup 2 (hCons (hName 2) (hCons (hName 3) hNil)) d ρ = some ρ1 ∧ (sPutU 1 (dOp modD (dCB Dn.intD (dCons (dOp addD (dOp mulD (dOp ixV (dPeek 1) (dOp modD (dCB Dn.intD (dCons (dVar 2) dNil)) (dC (.int 64)))) (dC (.int 48271))) (dVar 3)) dNil)) (dC (.int 2147483647))) (dOp modD (dCB Dn.intD (dCons (dVar 2) dNil)) (dC (.int 64))) ρ1 m' = .nx ρ2 m2 ∨ sPutU 1 (dOp modD (dCB Dn.intD (dCons (dOp addD (dOp mulD (dOp ixV (dPeek 1) (dOp modD (dCB Dn.intD (dCons (dVar 2) dNil)) (dC (.int 64)))) (dC (.int 48271))) (dVar 3)) dNil)) (dC (.int 2147483647))) (dOp modD (dCB Dn.intD (dCons (dVar 2) dNil)) (dC (.int 64))) ρ1 m' = .ct ρ2 m2) ∧ I (i + 1) ρ2 m2 := by
    rintro i d ρ m' hd ⟨rfl, x2, x3, cs, rfl, h1, h2⟩
    obtain ⟨x, hx, rfl⟩ := enumD_get hd
    rw [List.getElem?_map] at hx
    obtain ⟨y, _, rfl⟩ := Option.map_eq_some_iff.mp hx
    rw [Nat.zero_add]
    have hj : i % 64 < cs.length := by omega
    have ej : ((i : Int) % 64) = ((i % 64 : Nat) : Int) := by omega
    obtain ⟨q1, q2⟩ := put cs (i % 64) ((cs[i % 64] * 48271 + y) % 2147483647) h1 h2 (md _).1 (md _).2
    refine ⟨_, _, m', by and_intros; rfl, .inl ?_, rfl, some (.v (.int i)), some (.v (.int y)), cs.set (i % 64) ((cs[i % 64] * 48271 + y) % 2147483647), rfl, q1, q2⟩
    and_intros
    rw [ej, ixD_int (List.getElem?_eq_getElem hj)]
    and_intros
    rw [ixN_at (by rw [List.length_map]; exact hj), List.map_set]
    rfl
  obtain ⟨ρ1, m1, e2, hI⟩ := forD_inv0 I (enumD 0 (ns.map D.int)) [some (Sv.v (D.scr ns)), some (Sv.ml (c0.map D.int)), none, none] m st ⟨rfl, _, _, c0, rfl, l0, b0⟩
  and_intros
  rw [e2]
  obtain ⟨rfl, x2, x3, cs, rfl, l1, b1⟩ := hI
  and_intros
  let I2 : Nat → Ro → Mo → Prop := fun _ ρ m' => m' = m1 ∧ ∃ (x2 x3 : Option Sv) (cs : List Int), ρ = [some (Sv.v (D.scr ns)), some (.ml (cs.map D.int)), x2, x3] ∧ cs.length = 64 ∧ ∀ c ∈ cs, 0 ≤ c ∧ c < 2147483647
  have st2 : ∀ i d ρ m', (rangeD 1 63)[i]? = some d → I2 i ρ m' → ∃ ρ1 ρ2 m2, hName 2 d ρ = some ρ1 ∧ (sPutU 1 (dOp modD (dCB Dn.intD (dCons (dOp addD (dOp ixV (dPeek 1) (dVar 2)) (dOp mulD (dOp ixV (dPeek 1) (dOp subD (dVar 2) (dC (.int 1)))) (dC (.int 16807)))) dNil)) (dC (.int 2147483647))) (dVar 2) ρ1 m' = .nx ρ2 m2 ∨ sPutU 1 (dOp modD (dCB Dn.intD (dCons (dOp addD (dOp ixV (dPeek 1) (dVar 2)) (dOp mulD (dOp ixV (dPeek 1) (dOp subD (dVar 2) (dC (.int 1)))) (dC (.int 16807)))) dNil)) (dC (.int 2147483647))) (dVar 2) ρ1 m' = .ct ρ2 m2) ∧ I2 (i + 1) ρ2 m2 := by
    rintro i d ρ m' hd ⟨rfl, x2, x3, cs, rfl, h1, h2⟩
    have hi : i < 63 := by
      have z := (List.getElem?_eq_some_iff.mp hd).1
      rw [rangeD_len] at z
      exact z
    rw [rangeD_get hd]
    have e1 : (1 + (i : Int)) = ((i + 1 : Nat) : Int) := by omega
    have e2 : (1 + (i : Int)) - 1 = ((i : Nat) : Int) := by omega
    obtain ⟨q1, q2⟩ := put cs (i + 1) ((cs[i + 1] + cs[i] * 16807) % 2147483647) h1 h2 (md _).1 (md _).2
    refine ⟨_, _, m', rfl, .inl ?_, rfl, some (.v (.int (1 + i))), x3, cs.set (i + 1) ((cs[i + 1] + cs[i] * 16807) % 2147483647), rfl, q1, q2⟩
    and_intros
    rw [e2, e1, ixD_int (List.getElem?_eq_getElem (show i + 1 < cs.length by omega)), ixD_int (List.getElem?_eq_getElem (show i < cs.length by omega))]
    and_intros
    rw [ixN_at (by rw [List.length_map]; omega), List.map_set]
    rfl
  obtain ⟨ρ2, m2, e3, hI2⟩ := forD_inv0 I2 (rangeD 1 63) [some (Sv.v (D.scr ns)), some (.ml (cs.map D.int)), x2, x3] m1 st2 ⟨rfl, _, _, cs, rfl, l1, b1⟩
  rw [e3]
  obtain ⟨rfl, y2, y3, cs2, rfl, l2, b2⟩ := hI2
  and_intros
  exact ⟨cs2, rfl, l2, b2⟩

/-- the great numbers -/
theorem great_ok (ns : List Int) (x1 : Option Sv) (m : Mo) (hl : ns.length ≤ 63) : (dLc (dSeqU (dVar 0)) (hName 2) (fun _ m => .ok true m) (dIf (dTest (dOp (cmpD fun i j => decide (j ≤ i)) (dVar 2) (dOp powD (dC (.int 10)) (dC (.int 18))))) (dVar 2) (dC (.int 0))) [2]) [some (.v (.scr ns)), x1, none] m = .ok ((ns.map fun c => if decide (1000000000000000000 ≤ c) = true then c else 0).map D.int) m := by
  and_intros
  split
  · rw [lcD_all D.int (fun c => D.int (if decide (1000000000000000000 ≤ c) = true then c else 0)), List.map_map]
    · rfl
    · intro c _
      refine ⟨_, rfl, rfl, ?_⟩
      and_intros
      split <;> rfl
  · rename_i h
    exact (h (by rw [List.length_map]; omega)).elim
/-- what _law_begun promises -/
def spBegun (G : Cl) : Sp := fun vs H Q E => ∃ (M : AP) (ns : List Int) (v : V), vs = [v] ∧ Rep G none M H v (.scr ns) ∧ ns.length ≤ 63 ∧ LamX.Tabs G.T H ∧ ∀ (r : MS) (H' : Hp), Ext Non H H' → LamX.Tabs G.T H' → MRec H' r → (∀ b, Mo.has (some r) b → ¬ Liv H b) → r.spot = 0 → r.cs = [] → Q (.ref r.am) H'
theorem fn__law_begun (c : CC P K mg base) : FnA P w K mg base 4 (He.ga K "_law_begun") (spBegun (GG w K)) := by
  obtain ⟨fd, F⟩ := c.d.def_ 13 (d := d__law_begun) rfl
  refine fnA_of (funD_fun (st := s__law_begun) F) sc__law_begun (FunD.bindsN F fun _ _ _ _ _ _ us hl => match us, hl with | [_], _ => rfl) fun cdv A out s H vs Q E hr h => ?_
  have hu : (A.deeper (envOfC "_law_begun" (defScope s__law_begun) s.heap.objs.size (He.ga K "_law_begun") cdv)).units + 1 < cLine := by
    have z := hr.u64
    exact Nat.lt_of_le_of_lt (Nat.add_le_add_left (by decide) _) z
  obtain ⟨M, ns, v, rfl, rv, hns, tb, p⟩ := h
  refine ⟨rfl, _,
    (pss_cons (ps_set (i := 1) sc__law_begun.nd rfl (by first | exact .inl rfl | exact .inr rfl) (pe_disp (pps_cons pe_str (pe_callA (fn__law_folded c) (hr.less (by decide)) (by rfl) (gl__law_folded c) (kp__law_folded c) pss0 (pa_cons (pv 0) pa_nil)) (pps_cons pe_str (pe_lst pa_nil) (pps_cons pe_str pe_int pps_nil))) rfl rfl (by decide) (by decide)))
    (pss_cons (ps_dput hu (pv 1) pe_str (pe_lc rfl sc__law_begun.nd (pi_seqU (pv 0)) (blkOk_by (N := N__law_begun) (sc := defScope s__law_begun) (own := [("cell", 2)]) (by decide +kernel)) (fun _ _ _ _ _ => (pg_name (i := 2) sc__law_begun.nd rfl (by first | exact .inl rfl | exact .inr rfl))) (fun _ _ _ _ _ => pts_nil) (fun _ _ _ _ _ => (pe_ifExp (pt_cmpR op_ge (pv 2) (pe_op op_pow pe_int pe_int) (nomark _)) (pv 2) pe_int))) rfl) (pss_one (ps_ret (pv 1))))), ?_⟩
  intro am ham
  have x1 : Ext Non H (upd H am (.dK [])) := Ext.new ham
  have tb1 : LamX.Tabs (GG w K).T (upd H am (.dK [])) := tabs_upd tb (.none ham)
  have d1 : upd H am (.dK []) am = some (.dK []) := upd_same
  have lam := Liv.none ham
  obtain ⟨M1, rv1, ml1, fr1⟩ : ∃ M1 : AP, Rep (GG w K) none M1 (upd H am (.dK [])) v (.scr ns) ∧ (∀ b, M1 b → Liv (upd H am (.dK [])) b) ∧ ∀ (b : Addr) (H2 : Hp) (xs : List V), Ext Non (upd H am (.dK [])) H2 → H2 b = some (.lst xs) → ¬ M1 b → ¬ Liv (upd H am (.dK [])) b := by
    cases rv with
    | scrF h n =>
      rename_i a o
      have h' : upd H am (.dK []) a = some (.frz o (.lst (ns.map V.int))) := x1 _ _ (fun z => z) (fun ps z => by cases z) h
      refine ⟨fun b => Liv (upd H am (.dK [])) b ∧ b ≠ a, .scrF h' (fun z => z.2 rfl), fun b z => z.1, fun b H2 xs x e n l => n ⟨l, fun z => ?_⟩⟩
      subst z
      rw [x _ _ (fun z => z) (fun ps z => by cases z) h'] at e
      cases e
    | scrK h => exact ⟨fun b => Liv (upd H am (.dK [])) b, .scrK h, fun b z => z, fun b H2 xs x e n => n⟩
  generalize upd H am (.dK []) = H1 at x1 d1 rv1 ml1 fr1 tb1
  obtain ⟨cells, ef, lc, bc⟩ := folded_ok ns none
  refine ⟨v, rfl, M1, [.scr ns], none, rfl, .cons rv1 .nil, ⟨True.intro, fun b z => z.elim, ml1, tb1⟩, ?_⟩
  rw [ef]
  intro lv H2 g2 rl
  have x2 : Ext Non H1 H2 := g2.x
  cases rl with
  | lst hl nl rl =>
  rename_i ac vs
  have ev := intsOf_rep rl (intsOf_map cells)
  subst ev
  have lac := fr1 ac H2 _ x2 hl nl
  refine ⟨Nat.zero_le _, fun gl hgl => ?_⟩
  have x3 : Ext Non H2 (upd H2 gl (.lst [])) := Ext.new hgl
  have d3 : upd H2 gl (.lst []) am = some (.dK []) := x3 _ _ (fun z => z) (fun ps z => by cases z) (x2 _ _ (fun z => z) (fun ps z => by cases z) d1)
  have c3 : upd H2 gl (.lst []) ac = some (.lst (cells.map V.int)) := x3 _ _ (fun z => z) (fun ps z => by cases z) hl
  have tb3 : LamX.Tabs (GG w K).T (upd H2 gl (.lst [])) := tabs_upd g2.tb (.none hgl)
  generalize upd H2 gl (.lst []) = H3 at x3 d3 c3 tb3
  refine ⟨d3, [(Sum.inr "cells", .ref ac), (Sum.inr "great", .ref gl), (Sum.inr "spot", .int 0)], rfl, (show 3 ≤ 15 by decide), ?_⟩
  have n1 : ac ≠ am := ne_of c3 d3 (fun z => by cases z)
  have e4 : mergeK [] [((Sum.inr "cells" : Key), V.ref ac), (Sum.inr "great", .ref gl), (Sum.inr "spot", .int 0)] = [((Sum.inr "cells" : Key), V.ref ac), ((Sum.inr "great" : Key), V.ref gl), ((Sum.inr "spot" : Key), V.int 0)] := rfl
  rw [e4]
  have x4 : Ext Non H (upd H3 am (.dK [(Sum.inr "cells", .ref ac), (Sum.inr "great", .ref gl), (Sum.inr "spot", .int 0)])) := ((x1.trans x2).trans x3).chg (.inl lam)
  have d4 : upd H3 am (.dK [((Sum.inr "cells" : Key), V.ref ac), (Sum.inr "great", .ref gl), (Sum.inr "spot", .int 0)]) am = some (.dK [(Sum.inr "cells", .ref ac), (Sum.inr "great", .ref gl), (Sum.inr "spot", .int 0)]) := upd_same
  have c4 : upd H3 am (.dK [((Sum.inr "cells" : Key), V.ref ac), (Sum.inr "great", .ref gl), (Sum.inr "spot", .int 0)]) ac = some (.lst (cells.map V.int)) := by rw [upd_ne n1]; exact c3
  have tb4 : LamX.Tabs (GG w K).T (upd H3 am (.dK [((Sum.inr "cells" : Key), V.ref ac), (Sum.inr "great", .ref gl), (Sum.inr "spot", .int 0)])) := tabs_upd tb3 (.dK d3)
  generalize upd H3 am (.dK [((Sum.inr "cells" : Key), V.ref ac), (Sum.inr "great", .ref gl), (Sum.inr "spot", .int 0)]) = H4 at x4 d4 c4 tb4
  have rv4 : Rep (GG w K) none Non H4 v (.scr ns) := (rv.less (M' := Non) fun b z => z.elim).ext x4 fun b z => z
  have en : EnvR (GG w K) (bxOf (GG w K) H4 Non none) Non (fun _ => 0) [some (.v (.scr ns)), none, none] none [some v, some (.ref am), none] H4 :=
    (env_start (N := N__law_begun) (vs := [v]) (ds := [.scr ns]) (m := none) (M := Non) ⟨True.intro, fun b z => z, fun b z => z.elim, tb4⟩ (.cons rv4 .nil) (fun _ => 0)).keepσ rfl fun i s hi => by
      match i, hi with
      | 0, _ => rfl
      | 1, hi => cases hi
      | 2, hi => cases hi
  show sDPut (tVar 1) (tC (.str "great")) (tLc (iSeqU (GG w K).K (tVar 0)) (gName 2) tYes (tIf (tTest (tOp (rI0 fun i j => .bl (decide (j ≤ i))) (tVar 2) (tOp (rI CPow fun i j => .int (i ^ j.toNat)) (tC (.int 10)) (tC (.int 18))))) (tVar 2) (tC (.int 0))) [2]) _ _ H4
  show tLc _ _ _ _ _ _ _ _
  refine Dn.lc_core (E := E) (vs := [2]) (di_seqU (de_var 0)) (dg_name 2) dt_yes (de_if (dt_test (de_op (o_cmp fun i j => decide (j ≤ i)) ((de_var 2)).q ((de_op o_pow (de_int).q (de_int).q)).q)) (de_var 2) de_int) (by decide) en _ ?_
  rw [great_ok ns none none hns]
  intro gv H5 g5 rg
  obtain ⟨ag, ws, rfl, hag, hl5, rg, _⟩ := rg
  have x5 : Ext Non H4 H5 := g5.x
  have eg := intsOf_rep rg (intsOf_map _)
  have d5 : H5 am = some (.dK [(Sum.inr "cells", .ref ac), (Sum.inr "great", .ref gl), (Sum.inr "spot", .int 0)]) := x5 _ _ (fun z => z) (fun ps z => by cases z) d4
  have c5 : H5 ac = some (.lst (cells.map V.int)) := x5 _ _ (fun z => z) (fun ps z => by cases z) c4
  have n2 : ag ≠ am := ne_of hl5 d5 (fun z => by cases z)
  have n3 : ac ≠ ag := fun z => hag (z ▸ ⟨_, c4, fun ps z => by cases z⟩)
  refine ⟨.ref am, rfl, am, _, rfl, .inl ⟨_, Sum.inr "great", d5, rfl, by show 3 < sizeLine; decide, rfl⟩, ?_⟩
  refine ⟨.ref am, rfl, ?_⟩
  refine p ⟨am, ac, ag, cells, ns.map fun c => if decide (1000000000000000000 ≤ c) = true then c else 0, 0, []⟩ _ ((x4.trans x5).chg (.inl lam)) (tabs_upd g5.tb (.dK d5)) ⟨upd_same, ?_, ?_, n3, lc, bc, by rw [List.length_map]; exact hns⟩ ?_ rfl rfl
  · rw [upd_ne n1]
    exact c5
  · rw [upd_ne n2, hl5, eg]
  · intro b hb
    rcases hb with hb | hb | hb | hb
    rotate_left 3
    · cases hb
    · rw [hb]
      exact lam
    · rw [hb]
      exact fun z => lac (z.ext x1 fun z => z)
    · rw [hb]
      exact fun z => hag (z.ext x4 fun z => z)

noncomputable def den__law_turn : DS :=
  (sRet (dOp addD (dOp addD (dSl (dVar 0) dNoPart (dPart (dVar 1))) (dCB toTup (dCons (fun ρ m => (dLc (dSeqU (dUn revUD (dSl (dVar 0) (dPart (dVar 1)) (dPart (dOp addD (dVar 2) (dC (.int 1))))))) (hName 3) (fun _ m => .ok true m) (dOp subD (dC (.int 0)) (dVar 3)) [3] ρ m).map .lst) dNil))) (dSl (dVar 0) (dPart (dOp addD (dVar 2) (dC (.int 1)))) dNoPart)))
noncomputable def F__law_turn : DF := runD 4 den__law_turn
theorem fn__law_turn (c : CC P K mg base) : FnA P w K mg base 1 (He.ga K "_law_turn") (spD (GG w K) 3 F__law_turn) := by
  obtain ⟨fd, F⟩ := c.d.def_ 14 (d := d__law_turn) rfl
  exact fnD (funD_fun (st := s__law_turn) F) sc__law_turn (FunD.bindsN F fun _ _ _ _ _ _ us hl => match us, hl with | [_, _, _], _ => rfl) fun cdv A out s H E hr => ⟨_,
    (pss_one (ps_ret (pe_op op_addU (pe_op op_addU (pe_slice sl_U (pv 0) po_none (po_some (pv 1))) (pe_callTy (call_tupleF) (by rfl) (fr_tuple c) PyProof.Rows.boot_tuple (pa_cons (pe_lc rfl sc__law_turn.nd (pi_seqU (pe_revU (pe_slice sl_U (pv 0) (po_some (pv 1)) (po_some (pe_op op_addU (pv 2) pe_int))))) (blkOk_by (N := N__law_turn) (sc := defScope s__law_turn) (own := [("one", 3)]) (by decide +kernel)) (fun _ _ _ _ _ => (pg_name (i := 3) sc__law_turn.nd rfl (by first | exact .inl rfl | exact .inr rfl))) (fun _ _ _ _ _ => pts_nil) (fun _ _ _ _ _ => (pe_op op_sub pe_int (pv 3)))) pa_nil))) (pe_slice sl_U (pv 0) (po_some (pe_op op_addU (pv 2) pe_int)) po_none)))),
    (ds_ret (de_op o_add ((de_op o_add ((de_sl ((de_var 0)).q do_none (do_some (de_var 1)))).q ((de_cb n_tuple (dp_cons ((de_lc (di_seqU (de_revU ((de_sl ((de_var 0)).q (do_some (de_var 1)) (do_some (de_op o_add ((de_var 2)).q (de_int).q)))).q)) (dg_name 3) dt_yes (de_op o_sub (de_int).q ((de_var 3)).q) (by decide))).q dp_nil))).q)).q ((de_sl ((de_var 0)).q (do_some (de_op o_add ((de_var 2)).q (de_int).q)) do_none)).q))⟩

noncomputable def den__law_walked_b1 : DS :=
  (sSeq (sSet 9 (dvV (dCall 3 F__law_turn (dCons (dVar 6) (dCons (dVar 7) (dCons (dVar 8) dNil))))))
    (sIf (dTest (dOp (inV true) (dVar 9) (dPeek 2))) (sSeq (sPutU 2 (dVar 4) (dVar 9))
    (sApp 5 (dVar 9))) sNx))
noncomputable def den__law_walked_b2 : DS :=
  (sFor (dRng2 (dCons (dVar 7) (dCons (dVar 0) dNil))) (hName 8) den__law_walked_b1)
noncomputable def den__law_walked_b3 : DS :=
  (sFor (dRng1 (dCons (dVar 0) dNil)) (hName 7) den__law_walked_b2)
noncomputable def den__law_walked_b4 : DS :=
  (sSeq (sParV [5, 4] (dvsCons (dvLst dNil) (dvsCons (dvV (dOp addD (dVar 4) (dC (.int 1)))) dvsNil)))
    (sSeq (sFor (dSeqU (dVar 3)) (hName 6) den__law_walked_b3)
    (sFrz 5 (sSet 3 (dvV (dVar 5))))))
noncomputable def den__law_walked : DS :=
  (sSeq (sSet 1 (dvV (dRgT2 (dC (.int 1)) (dOp addD (dVar 0) (dC (.int 1))))))
    (sSeq (sParV [2, 3, 4] (dvsCons (dvDisp1N (dVar 1) (dC (.int 0))) (dvsCons (dvV (dLst (dCons (dVar 1) dNil))) (dvsCons (dvV (dC (.int 0))) dvsNil))))
    (sSeq (whileD (dTest (dOp neD (dVar 3) (dLst dNil))) den__law_walked_b4 8000)
    (sFrz 2 (sRet (dVar 2))))))
noncomputable def F__law_walked : DF := runD 10 den__law_walked
theorem fn__law_walked (c : CC P K mg base) : FnA P w K mg base 2 (He.ga K "_law_walked") (spD (GG w K) 1 F__law_walked) := by
  obtain ⟨fd, F⟩ := c.d.def_ 15 (d := d__law_walked) rfl
  exact fnD (funD_fun (st := s__law_walked) F) sc__law_walked (FunD.bindsN F fun _ _ _ _ _ _ us hl => match us, hl with | [_], _ => rfl) fun cdv A out s H E hr => ⟨_,
    (pss_cons (ps_set (i := 1) sc__law_walked.nd rfl (by first | exact .inl rfl | exact .inr rfl) (pe_tupRgF rfl (by rfl) (fr_tuple c) (prg_2 (by rfl) (fr_range c) pe_int (pe_op op_addU (pv 0) pe_int)))) (pss_cons (ps_par3 (i := 2) (j := 3) (l := 4) rfl sc__law_walked.nd rfl rfl rfl (by decide) (by decide) (by decide) rfl rfl rfl (pa_cons (pe_disp1N hr.u10 (pv 1) pe_int) (pa_cons (pe_lst (pa_cons (pv 1) pa_nil)) (pa_cons pe_int pa_nil))) rfl) (pss_cons (ps_while (passes_of rfl) (pt_cmpR (op_neU hr.u64) (pv 3) (pe_lst pa_nil) (nomark _)) (pss_cons (ps_par (i := 5) (j := 4) rfl sc__law_walked.nd rfl rfl (by decide) rfl rfl (pa_cons (pe_lst pa_nil) (pa_cons (pe_op op_addU (pv 4) pe_int) pa_nil)) rfl) (pss_cons (ps_for (passes_of rfl) rfl (pi_seqU (pv 3)) (pg_name (i := 6) sc__law_walked.nd rfl (by first | exact .inl rfl | exact .inr rfl)) (pss_one (ps_for (passes_of rfl) rfl (pi_range1 (by rfl) (fr_range c) (pa_cons (pv 0) pa_nil)) (pg_name (i := 7) sc__law_walked.nd rfl (by first | exact .inl rfl | exact .inr rfl)) (pss_one (ps_for (passes_of rfl) rfl (pi_range2 (by rfl) (fr_range c) (pa_cons (pv 7) (pa_cons (pv 0) pa_nil))) (pg_name (i := 8) sc__law_walked.nd rfl (by first | exact .inl rfl | exact .inr rfl)) (pss_cons (ps_set (i := 9) sc__law_walked.nd rfl (by first | exact .inl rfl | exact .inr rfl) (pe_callA (fn__law_turn (w := w) c) (hr.less (by decide)) (by rfl) (gl__law_turn c) (kp__law_turn c) pss0 (pa_cons (pv 6) (pa_cons (pv 7) (pa_cons (pv 8) pa_nil))))) (pss_one (ps_if (pt_cmpR (op_notInV hr.u65) (pv 9) (pv 2) (by with_unfolding_all rfl)) (pss_cons (ps_asg (pv 4) (pg_sub (pv 2) (pv 9) (set_V hr.u10))) (pss_one (ps_expr (pe_bm PySem.F.plainAttrs_list PySem.F.slot_list_append PySem.F.type_list_append mt_append (pv 5) (pa_cons (pv 9) pa_nil))))) pss_nil)))))))) (pss_one (ps_set (i := 3) sc__law_walked.nd rfl (by first | exact .inl rfl | exact .inr rfl) (pv 5)))))) (pss_one (ps_ret (pv 2)))))),
    (ds_seq (ds_set (i := 1) (dv (de_rgT2 de_int (de_op o_add ((de_var 0)).q (de_int).q)))) (ds_seq (ds_parV3 (i := 2) (j := 3) (l := 4) (dvs_cons (dv_disp1N (de_var 1) de_int) (dvs_cons (dv (de_lst (da_cons (de_var 1) da_nil))) (dvs_cons (dv de_int) dvs_nil)))) (ds_seq (ds_while 8000 (dt_test (de_op o_ne ((de_var 3)).q ((de_lst da_nil)).q)) (ds_seq (ds_parV2 (i := 5) (j := 4) (dvs_cons (dv_lst da_nil) (dvs_cons (dv (de_op o_add ((de_var 4)).q (de_int).q)) dvs_nil))) (ds_seq (ds_for (di_seqU (de_var 3)) (dg_name 6) (ds_for (di_rng1 (da_cons (de_var 0) da_nil)) (dg_name 7) (ds_for (di_rng2 (da_cons (de_var 7) (da_cons (de_var 0) da_nil))) (dg_name 8) (ds_seq (ds_set (i := 9) (dv (de_call (da_cons (de_var 6) (da_cons (de_var 7) (da_cons (de_var 8) da_nil)))))) (ds_if (dt_test (de_op o_notInV ((de_var 9)).q (dq_var 2))) (ds_seq (ds_putU 2 (de_var 4) (de_var 9)) (ds_app 5 (de_var 9))) ds_nil))))) (ds_frz 5 (ds_set (i := 3) (dv (de_var 5))))))) (ds_frz 2 (ds_ret (de_var 2))))))⟩

noncomputable def den__law_class : DS :=
  (sSeq (sSet 1 (dvLst (dCons (dTup (dCons (dC (.str "BadRow")) (dCons (dIsA it_BadRow (dVar 0)) dNil))) (dCons (dTup (dCons (dC (.str "BadTurn")) (dCons (dIsA it_BadTurn (dVar 0)) dNil))) dNil))))
    (sSeq (sSet 1 (dvCat (dPeek 1) (dLst (dCons (dTup (dCons (dC (.str "BadPlace")) (dCons (dIsA it_BadPlace (dVar 0)) dNil))) (dCons (dTup (dCons (dC (.str "BadNumber")) (dCons (dIsA it_BadNumber (dVar 0)) dNil))) dNil)))))
    (sSeq (sSet 1 (dvCat (dPeek 1) (dLst (dCons (dTup (dCons (dC (.str "OtherLength")) (dCons (dIsA it_OtherLength (dVar 0)) dNil))) (dCons (dTup (dCons (dC (.str "BadText")) (dCons (dIsA it_BadText (dVar 0)) dNil))) dNil)))))
    (sSeq (sSet 1 (dvCat (dPeek 1) (dLst (dCons (dTup (dCons (dC (.str "BadWay")) (dCons (dIsA it_BadWay (dVar 0)) dNil))) (dCons (dTup (dCons (dC (.str "NothingLeft")) (dCons (dIsA it_NothingLeft (dVar 0)) dNil))) dNil)))))
    (sSeq (sApp 1 (dTup (dCons (dC (.str "TooGreat")) (dCons (dIsA it_TooGreat (dVar 0)) dNil))))
    (sFrz 1 (sSeq (sSet 2 (dvV (fun ρ m => (dLc (dSeqU (dVar 1)) (hTup 2 (hCons (hName 3) (hCons (hName 4) hNil))) ((dTru (dVar 4))) (dVar 3) [3, 4] ρ m).map .lst)))
    (sSeq (sIf (dTest (dOp neD (dCB lenD (dCons (dVar 2) dNil)) (dC (.int 1)))) (sRet (dTup (dCons (dC (.str "other")) dNil))) sNx)
    (sSeq (sIf (dTest (dOp (inV false) (dOp ixV (dVar 2) (dC (.int 0))) (dTup (dCons (dC (.str "BadRow")) (dCons (dC (.str "BadTurn")) (dCons (dC (.str "BadText")) dNil)))))) (sRet (dTup (dCons (dOp ixV (dVar 2) (dC (.int 0))) (dCons (dXf xs_place.contains (dVar 0)) dNil)))) sNx)
    (sSeq (sIf (dTest (dOp (inV false) (dOp ixV (dVar 2) (dC (.int 0))) (dTup (dCons (dC (.str "BadPlace")) (dCons (dC (.str "BadNumber")) (dCons (dC (.str "BadWay")) dNil)))))) (sRet (dTup (dCons (dOp ixV (dVar 2) (dC (.int 0))) (dCons (dXf xs_value.contains (dVar 0)) dNil)))) sNx)
    (sRet (dIf (dTest (dOp eqD (dOp ixV (dVar 2) (dC (.int 0))) (dC (.str "TooGreat")))) (dTup (dCons (dOp ixV (dVar 2) (dC (.int 0))) (dCons (dXf xs_most.contains (dVar 0)) dNil))) (dTup (dCons (dOp ixV (dVar 2) (dC (.int 0))) dNil))))))))))))))
noncomputable def F__law_class : DF := runD 5 den__law_class
theorem fn__law_class (c : CC P K mg base) : FnA P w K mg base 1 (He.ga K "_law_class") (spD (GG w K) 1 F__law_class) := by
  obtain ⟨fd, F⟩ := c.d.def_ 16 (d := d__law_class) rfl
  exact fnD (funD_fun (st := s__law_class) F) sc__law_class (FunD.bindsN F fun _ _ _ _ _ _ us hl => match us, hl with | [_], _ => rfl) fun cdv A out s H E hr => ⟨_,
    (pss_cons (ps_set (i := 1) sc__law_class.nd rfl (by first | exact .inl rfl | exact .inr rfl) (pe_lst (pa_cons (pe_tupF (pa_cons pe_str (pa_cons (pe_callB (call_isA (.ref (He.ga K "BadRow"))) (by rfl) (fr_isinstance c) PyProof.Rows.boot_isinstance (pa_cons (pv 0) (pa_cons (pe_glob (v := .ref (He.ga K "BadRow")) (by rfl) (gl_BadRow c) rfl) pa_nil))) pa_nil))) (pa_cons (pe_tupF (pa_cons pe_str (pa_cons (pe_callB (call_isA (.ref (He.ga K "BadTurn"))) (by rfl) (fr_isinstance c) PyProof.Rows.boot_isinstance (pa_cons (pv 0) (pa_cons (pe_glob (v := .ref (He.ga K "BadTurn")) (by rfl) (gl_BadTurn c) rfl) pa_nil))) pa_nil))) pa_nil)))) (pss_cons (ps_set (i := 1) sc__law_class.nd rfl (by first | exact .inl rfl | exact .inr rfl) (pe_op op_addU (pv 1) (pe_lst (pa_cons (pe_tupF (pa_cons pe_str (pa_cons (pe_callB (call_isA (.ref (He.ga K "BadPlace"))) (by rfl) (fr_isinstance c) PyProof.Rows.boot_isinstance (pa_cons (pv 0) (pa_cons (pe_glob (v := .ref (He.ga K "BadPlace")) (by rfl) (gl_BadPlace c) rfl) pa_nil))) pa_nil))) (pa_cons (pe_tupF (pa_cons pe_str (pa_cons (pe_callB (call_isA (.ref (He.ga K "BadNumber"))) (by rfl) (fr_isinstance c) PyProof.Rows.boot_isinstance (pa_cons (pv 0) (pa_cons (pe_glob (v := .ref (He.ga K "BadNumber")) (by rfl) (gl_BadNumber c) rfl) pa_nil))) pa_nil))) pa_nil))))) (pss_cons (ps_set (i := 1) sc__law_class.nd rfl (by first | exact .inl rfl | exact .inr rfl) (pe_op op_addU (pv 1) (pe_lst (pa_cons (pe_tupF (pa_cons pe_str (pa_cons (pe_callB (call_isA (.ref (He.ga K "OtherLength"))) (by rfl) (fr_isinstance c) PyProof.Rows.boot_isinstance (pa_cons (pv 0) (pa_cons (pe_glob (v := .ref (He.ga K "OtherLength")) (by rfl) (gl_OtherLength c) rfl) pa_nil))) pa_nil))) (pa_cons (pe_tupF (pa_cons pe_str (pa_cons (pe_callB (call_isA (.ref (He.ga K "BadText"))) (by rfl) (fr_isinstance c) PyProof.Rows.boot_isinstance (pa_cons (pv 0) (pa_cons (pe_glob (v := .ref (He.ga K "BadText")) (by rfl) (gl_BadText c) rfl) pa_nil))) pa_nil))) pa_nil))))) (pss_cons (ps_set (i := 1) sc__law_class.nd rfl (by first | exact .inl rfl | exact .inr rfl) (pe_op op_addU (pv 1) (pe_lst (pa_cons (pe_tupF (pa_cons pe_str (pa_cons (pe_callB (call_isA (.ref (He.ga K "BadWay"))) (by rfl) (fr_isinstance c) PyProof.Rows.boot_isinstance (pa_cons (pv 0) (pa_cons (pe_glob (v := .ref (He.ga K "BadWay")) (by rfl) (gl_BadWay c) rfl) pa_nil))) pa_nil))) (pa_cons (pe_tupF (pa_cons pe_str (pa_cons (pe_callB (call_isA (.ref (He.ga K "NothingLeft"))) (by rfl) (fr_isinstance c) PyProof.Rows.boot_isinstance (pa_cons (pv 0) (pa_cons (pe_glob (v := .ref (He.ga K "NothingLeft")) (by rfl) (gl_NothingLeft c) rfl) pa_nil))) pa_nil))) pa_nil))))) (pss_cons (ps_expr (pe_bm PySem.F.plainAttrs_list PySem.F.slot_list_append PySem.F.type_list_append mt_append (pv 1) (pa_cons (pe_tupF (pa_cons pe_str (pa_cons (pe_callB (call_isA (.ref (He.ga K "TooGreat"))) (by rfl) (fr_isinstance c) PyProof.Rows.boot_isinstance (pa_cons (pv 0) (pa_cons (pe_glob (v := .ref (He.ga K "TooGreat")) (by rfl) (gl_TooGreat c) rfl) pa_nil))) pa_nil))) pa_nil))) (pss_cons (ps_setLc (i := 2) rfl sc__law_class.nd rfl rfl rfl (pi_seqU (pv 1)) (blkOk_by (N := N__law_class) (sc := defScope s__law_class) (own := [("word", 3), ("holds", 4)]) (by decide +kernel)) (fun _ _ _ _ _ => (show PG _ _ (gTup K 2 (gCons (gName 3) (gCons (gName 4) gNil))) from (pg_tup rfl (pgs_cons (pg_name (i := 3) sc__law_class.nd rfl (by first | exact .inl rfl | exact .inr rfl)) (pgs_cons (pg_name (i := 4) sc__law_class.nd rfl (by first | exact .inl rfl | exact .inr rfl)) pgs_nil))))) (fun _ _ _ _ _ => (pts_one (show PT _ _ (tTruK K _) from (pt_truth (pv 4) (by intro _; rfl))))) (fun _ _ _ _ _ => (pv 3))) (pss_cons (ps_if (pt_cmpR (op_neU hr.u64) (pe_callB call_lenU (by rfl) (fr_len c) PySem.boot_len (pa_cons (pv 2) pa_nil)) pe_int (nomark _)) (pss_one (ps_ret (pe_tupF (pa_cons pe_str pa_nil)))) pss_nil) (pss_cons (ps_if (pt_cmpR (op_inV hr.u65) (pe_ix (ix_V hr.u10) (pv 2) pe_int (fun _ _ => rfl)) (pe_tupF (pa_cons pe_str (pa_cons pe_str (pa_cons pe_str pa_nil)))) (by with_unfolding_all rfl)) (pss_one (ps_ret (pe_tupF (pa_cons (pe_ix (ix_V hr.u10) (pv 2) pe_int (fun _ _ => rfl)) (pa_cons (pe_xo (pv 0)) pa_nil))))) pss_nil) (pss_cons (ps_if (pt_cmpR (op_inV hr.u65) (pe_ix (ix_V hr.u10) (pv 2) pe_int (fun _ _ => rfl)) (pe_tupF (pa_cons pe_str (pa_cons pe_str (pa_cons pe_str pa_nil)))) (by with_unfolding_all rfl)) (pss_one (ps_ret (pe_tupF (pa_cons (pe_ix (ix_V hr.u10) (pv 2) pe_int (fun _ _ => rfl)) (pa_cons (pe_xo (pv 0)) pa_nil))))) pss_nil) (pss_one (ps_ret (pe_ifExp (pt_cmpR (op_eqU hr.u64) (pe_ix (ix_V hr.u10) (pv 2) pe_int (fun _ _ => rfl)) pe_str (nomark _)) (pe_tupF (pa_cons (pe_ix (ix_V hr.u10) (pv 2) pe_int (fun _ _ => rfl)) (pa_cons (pe_xo (pv 0)) pa_nil))) (pe_tupF (pa_cons (pe_ix (ix_V hr.u10) (pv 2) pe_int (fun _ _ => rfl)) pa_nil)))))))))))))),
    (ds_seq (ds_set (i := 1) (dv_lst (da_cons (de_tup (da_cons de_str (da_cons (de_isA (.own _) (is_BadRow c) ((de_var 0)).q) da_nil))) (da_cons (de_tup (da_cons de_str (da_cons (de_isA (.own _) (is_BadTurn c) ((de_var 0)).q) da_nil))) da_nil)))) (ds_seq (ds_set (i := 1) (dv_cat (dq_var 1) ((de_lst (da_cons (de_tup (da_cons de_str (da_cons (de_isA (.own _) (is_BadPlace c) ((de_var 0)).q) da_nil))) (da_cons (de_tup (da_cons de_str (da_cons (de_isA (.own _) (is_BadNumber c) ((de_var 0)).q) da_nil))) da_nil)))).q)) (ds_seq (ds_set (i := 1) (dv_cat (dq_var 1) ((de_lst (da_cons (de_tup (da_cons de_str (da_cons (de_isA (.own _) (is_OtherLength c) ((de_var 0)).q) da_nil))) (da_cons (de_tup (da_cons de_str (da_cons (de_isA (.own _) (is_BadText c) ((de_var 0)).q) da_nil))) da_nil)))).q)) (ds_seq (ds_set (i := 1) (dv_cat (dq_var 1) ((de_lst (da_cons (de_tup (da_cons de_str (da_cons (de_isA (.own _) (is_BadWay c) ((de_var 0)).q) da_nil))) (da_cons (de_tup (da_cons de_str (da_cons (de_isA (.own _) (is_NothingLeft c) ((de_var 0)).q) da_nil))) da_nil)))).q)) (ds_seq (ds_app 1 (de_tup (da_cons de_str (da_cons (de_isA (.own _) (is_TooGreat c) ((de_var 0)).q) da_nil)))) (ds_frz 1 (ds_seq (ds_set (i := 2) (dv (de_lc (di_seqU (de_var 1)) (dg_tup (dgs_cons (dg_name 3) (dgs_cons (dg_name 4) dgs_nil))) (dt_tru ((de_var 4)).q) (de_var 3) (by decide)))) (ds_seq (ds_if (dt_test (de_op o_ne ((de_cb n_len (dp_cons ((de_var 2)).q dp_nil))).q (de_int).q)) (ds_ret (de_tup (da_cons de_str da_nil))) ds_nil) (ds_seq (ds_if (dt_test (de_op o_inV ((de_op o_ixV ((de_var 2)).q (de_int).q)).q ((de_tup (da_cons de_str (da_cons de_str (da_cons de_str da_nil))))).q)) (ds_ret (de_tup (da_cons (de_op o_ixV ((de_var 2)).q (de_int).q) (da_cons (de_xf (xf_place c) (de_var 0)) da_nil)))) ds_nil) (ds_seq (ds_if (dt_test (de_op o_inV ((de_op o_ixV ((de_var 2)).q (de_int).q)).q ((de_tup (da_cons de_str (da_cons de_str (da_cons de_str da_nil))))).q)) (ds_ret (de_tup (da_cons (de_op o_ixV ((de_var 2)).q (de_int).q) (da_cons (de_xf (xf_value c) (de_var 0)) da_nil)))) ds_nil) (ds_ret (de_if (dt_test (de_op o_eq ((de_op o_ixV ((de_var 2)).q (de_int).q)).q (de_str).q)) (de_tup (da_cons (de_op o_ixV ((de_var 2)).q (de_int).q) (da_cons (de_xf (xf_most c) (de_var 0)) da_nil))) (de_tup (da_cons (de_op o_ixV ((de_var 2)).q (de_int).q) da_nil))))))))))))))⟩

end
section
variable {P : Program} {w : World} {K : PySem.W.Frag} {mg : Str → Option Value} {base : Heap}
noncomputable def den__law_told : DS :=
  (sRet (dIf (dTest (dOp (isD false) (dVar 2) (dC .non))) (dLst (dCons (dVar 1) dNil)) (dCall 1 F__law_class (dCons (dVar 2) dNil))))
noncomputable def F__law_told : R D → R D := heardD (fun c => decide (c < 9)) false 0 den__law_told
theorem fun__law_told (c : CC P K mg base) : ∃ fd, Fun K "_law_told" "_law_told" s__law_told (He.ga K "_law_told") fd ∧ L2.Binds K fd ["call"] [] := by
  obtain ⟨fd, F⟩ := c.d.def_ 17 (d := d__law_told) rfl
  exact ⟨fd, funD_fun (st := s__law_told) F, FunD.bindsN F fun _ _ _ _ _ _ us hl => match us, hl with | [_], _ => rfl⟩
theorem rp__law_told (c : CC P K mg base) : ∃ t, (∀ (cdg : Value) (A : Around) (out : List Env) (s : Shared) (H : Hp), RG 2 (A.deeper (envOfC "_law_told" (defScope s__law_told) s.heap.objs.size (He.ga K "_law_told") cdg)) →
    PSs (cxOf C8.CX0 P w K mg base N__law_told "_law_told" (defScope s__law_told) (He.ga K "_law_told") cdg A out s H C8.E0).nox ((defBody s__law_told).drop 2) t) ∧ Ds (GG w K) C8.E0 t den__law_told := ⟨_, fun cdg A out s H hr =>
    (pss_one (ps_ret (pe_ifExp (pt_cmpR op_isU (pv 2) pe_non (nomark _)) (pe_lst (pa_cons (pv 1) pa_nil)) (pe_callA (fn__law_class (w := w) c) (hr.less (by decide)) (by rfl) (gl__law_class c) (kp__law_class c) passE0 (pa_cons (pv 2) pa_nil))))),
    (ds_ret (de_if (dt_test (de_op o_is ((de_var 2)).q (de_non).q)) (de_lst (da_cons (de_var 1) da_nil)) (de_call (da_cons (de_var 2) da_nil))))⟩
theorem gv__law_told {X : Cx} (c : CC X.prog X.K X.mg X.base) (hr0 : RG 3 X.A) (cdg : Value) {q : Str} : GivesA X N__law_told "_law_told" (defScope s__law_told) (He.ga X.K "_law_told") cdg (defBody s__law_told) "call" q (TTh (GG X.w X.K) F__law_told) := by
  obtain ⟨t, h1, h2⟩ := rp__law_told (w := X.w) c
  exact heard_3N (x := "_law_told") (g := He.ga X.K "_law_told") (cdg := cdg) (G := GG X.w X.K) (n := 0) rfl rfl rfl sc__law_told.nd rfl rfl rfl rfl rfl rfl (.inl rfl) (by decide) (by decide) ⟨rfl, gl_FaceError c, by decide⟩ ⟨rfl, gl_TooGreat c, by decide⟩ (fun _ _ => ps_asg (pe_tup (pa_cons pe_non (pa_cons pe_non pa_nil))) (pg_tup rfl (pgs_cons (pg_name (i := 1) sc__law_told.nd rfl (.inl rfl)) (pgs_cons (pg_name (i := 2) sc__law_told.nd rfl (.inl rfl)) pgs_nil))))
    h2 (fun s H => h1 cdg X.A X.stack s H (hr0.down _)) (exm c)

noncomputable def den_law_b1 : DS :=
  (sSeq (sSet 4 (dvV (dLcG 1 2 y_rows_of (dCons (dVar 2) dNil) (hName 5) (fun _ m => .ok true m) (dFld 0 (dVar 5)) [5])))
    (sSeq (sIf (dOr (dTest (dOp neD (dVar 4) (dCB srtLW (dCons (dCB toLstN (dCons (dCall 1 F__law_walked (dCons (dVar 2) dNil)) dNil)) dNil)))) (dTest (dOp neD (dLcG 1 2 y_rows_of (dCons (dVar 2) dNil) (hName 5) (fun _ m => .ok true m) (dFld 0 (dVar 5)) [5]) (dVar 4)))) (sRet (dC (.bl false))) sNx)
    (sIf (dOr (dTest (dOp neD (dCB lenD (dCons (dVar 4) dNil)) (dOp ixV (dLst (dCons (dC (.int 1)) (dCons (dC (.int 2)) (dCons (dC (.int 8)) (dCons (dC (.int 48)) (dCons (dC (.int 384)) (dCons (dC (.int 3840)) dNil))))))) (dVar 2)))) (dTest (dOp neD (dLcG 1 2 y_rows_of (dCons (dVar 2) dNil) (hName 5) ((dTest (dOp neD (dLenOwn 0 F_Row___len__ (dCons (dVar 5) dNil)) (dVar 2)))) (dVar 5) [5]) (dLst dNil)))) (sRet (dC (.bl false))) sNx)))
noncomputable def den_law : DS :=
  (sSeq (sFor (dRng1 (dCons (dOp addD (dC (.int 5)) (dCB intD (dCons (dOp eqD (dCall 2 F__law_draw (dCons (dVar 1) (dCons (dC (.int 6)) dNil))) (dC (.int 0))) dNil))) dNil)) (hName 2) den_law_b1)
    (sSeq (sSet 3 (dvV (dOp ixV (dLst (dCons (dC .non) (dCons (dC (.bl true)) (dCons (dC (.int 6)) (dCons (dOp subD (dC (.int 0)) (dC (.int 1))) (dCons (dC (.str "3")) (dCons (dTup (dCons (dC (.int 3)) dNil)) (dCons (dOp powD (dC (.int 10)) (dC (.int 30))) (dCons dDNew dNil))))))))) (dCall 2 F__law_draw (dCons (dVar 1) (dCons (dC (.int 8)) dNil))))))
    (sSeq (sIf (dTest (dOp neD (dCB reprE (dCons (dHeard F__law_told (dListX (fun c => decide (c < 9)) 1 F_rows_of (dCons (dVar 3) dNil))) dNil)) (dCB reprE (dCons (dTup (dCons (dC (.str "BadNumber")) (dCons (dVar 3) dNil))) dNil)))) (sRet (dC (.bl false))) sNx)
    (sSeq (sIf (dTest (dOp neD (fun ρ m => (dLc (dZipX (fun c => decide (c < 9)) 1 F_rows_of (dCons (dVar 3) dNil)) (hTup 2 (hCons (hName 6) (hCons (hName 5) hNil))) (fun _ m => .ok true m) (dVar 5) [6, 5] ρ m).map .lst) (dLst dNil))) (sRet (dC (.bl false))) sNx)
    (sRet (dOp eqD (dLcG 1 2 y_rows_of (dCons (dC (.int 1)) dNil) (hName 5) (fun _ m => .ok true m) (dFld 0 (dVar 5)) [5]) (dLst (dCons (dTup (dCons (dOp subD (dC (.int 0)) (dC (.int 1))) dNil)) (dCons (dTup (dCons (dC (.int 1)) dNil)) dNil)))))))))
theorem fn_law (c : CC P K mg base) (ht : ∀ r : MS, r.spot = 0 → r.cs = [] → ∃ m', den_law (none :: some (.v .drw) :: List.replicate 5 none) (some r) = .rt (.bl true) m') : FnA P w K mg base 10 (He.ga K "law") (spLaw (GG w K)) := by
  obtain ⟨fd, F⟩ := c.d.def_ 18 (d := d_law) rfl
  refine fnA_ofC (funD_fun (st := s_law) F) sc_law (FunD.bindsN F fun _ _ _ _ _ _ us hl => match us, hl with | [_], _ => rfl) fun cdv A out s H vs Q E hc hr h => ?_
  obtain ⟨ns, v, rfl, rv, hns, htb, p⟩ := h
  refine ⟨rfl, _, (pss_cons (ps_set (i := 1) sc_law.nd rfl (by first | exact .inl rfl | exact .inr rfl) (pe_callA (fn__law_begun c) (hr.less (by decide)) (by rfl) (gl__law_begun c) (kp__law_begun c) pss0 (pa_cons (pv 0) pa_nil)))
    (pss_cons (ps_for (passes_of rfl) rfl (pi_range1 (by rfl) (fr_range c) (pa_cons (pe_op op_addU pe_int (pe_callTy call_int1 (by rfl) (fr_int c) PyProof.Rows.boot_int (pa_cons (pe_cmpR (op_eqU hr.u64) (pe_callA (fn__law_draw (w := w) c) (hr.less (by decide)) (by rfl) (gl__law_draw c) (kp__law_draw c) pss0 (pa_cons (pv 1) (pa_cons pe_int pa_nil))) pe_int (nomark _)) pa_nil))) pa_nil)) (pg_name (i := 2) sc_law.nd rfl (by first | exact .inl rfl | exact .inr rfl)) (pss_cons (ps_setLcG (i := 4) (hr.less (by decide)) rfl sc_law.nd rfl rfl rfl (pgn_call (fny_rows_of (w := w) c) (hr.less (by decide)) (by rfl) (gl_rows_of c) (kp_rows_of c) (pa_cons (pv 2) pa_nil)) (blkOk_by (N := N_law) (sc := defScope s_law) (own := [("row", 5)]) (by decide +kernel)) (fun _ _ => rfl) (fun _ _ _ _ _ => (pg_name (i := 5) sc_law.nd rfl (by first | exact .inl rfl | exact .inr rfl))) (fun _ _ _ _ _ => pts_nil) (fun _ _ _ _ _ => (show PE _ _ (SlX.tSl K _ "waggons") from SlX.pe_sl (pv 5)))) (pss_cons (ps_if (PW.pt (pw_or (pt_cmpR (op_neU hr.u64) (pv 4) (pe_callB (call_sortW hr.u200) (by rfl) (fr_sorted c) PyProof.Rows.boot_sorted (pa_cons (pe_callTy (call_listN rfl) (by rfl) (fr_list c) PyProof.Rows.boot_list (pa_cons (pe_callA (fn__law_walked (w := w) c) (hr.less (by decide)) (by rfl) (gl__law_walked c) (kp__law_walked c) pss0 (pa_cons (pv 2) pa_nil)) pa_nil)) pa_nil)) (nomark _)) (pw_or1 (pt_cmpR (op_neU hr.u64) (pe_lcG (hr.less (by decide)) rfl sc_law.nd (pgn_call (fny_rows_of (w := w) c) (hr.less (by decide)) (by rfl) (gl_rows_of c) (kp_rows_of c) (pa_cons (pv 2) pa_nil)) (blkOk_by (N := N_law) (sc := defScope s_law) (own := [("row", 5)]) (by decide +kernel)) (fun _ _ => rfl) (fun _ _ _ _ _ => (pg_name (i := 5) sc_law.nd rfl (by first | exact .inl rfl | exact .inr rfl))) (fun _ _ _ _ _ => pts_nil) (fun _ _ _ _ _ => (show PE _ _ (SlX.tSl K _ "waggons") from SlX.pe_sl (pv 5)))) (pv 4) (nomark _))))) (pss_one (ps_ret pe_bl)) pss_nil) (pss_one (ps_if (PW.pt (pw_or (pt_cmpR (op_neU hr.u64) (pe_callB call_lenU (by rfl) (fr_len c) PySem.boot_len (pa_cons (pv 4) pa_nil)) (pe_ix (ix_V hr.u10) (pe_lst (pa_cons pe_int (pa_cons pe_int (pa_cons pe_int (pa_cons pe_int (pa_cons pe_int (pa_cons pe_int pa_nil))))))) (pv 2) (fun _ _ => rfl)) (nomark _)) (pw_or1 (pt_cmpR (op_neU hr.u64) (pe_lcG (hr.less (by decide)) rfl sc_law.nd (pgn_call (fny_rows_of (w := w) c) (hr.less (by decide)) (by rfl) (gl_rows_of c) (kp_rows_of c) (pa_cons (pv 2) pa_nil)) (blkOk_by (N := N_law) (sc := defScope s_law) (own := [("row", 5)]) (by decide +kernel)) (fun _ _ => rfl) (fun _ _ _ _ _ => (pg_name (i := 5) sc_law.nd rfl (by first | exact .inl rfl | exact .inr rfl))) (fun _ _ _ _ _ => (pts_one (pt_cmpR (show OpR _ _ (rNeU K) from (op_neU hr.u64)) (pe_callB (call_lenOwn (me_Row___len__ c).at_ (me_Row___len__ c).fn (fn_Row___len__ (w := w) c) (hr.less (by decide)) passL) (by rfl) (fr_len c) PySem.boot_len (pa_cons (pv 5) pa_nil)) (pv 2) (nomark _)))) (fun _ _ _ _ _ => (pv 5))) (pe_lst pa_nil) (nomark _))))) (pss_one (ps_ret pe_bl)) pss_nil))))) (pss_cons (ps_set (i := 3) sc_law.nd rfl (by first | exact .inl rfl | exact .inr rfl) (pe_ix (ix_V hr.u10) (pe_lst (pa_cons pe_non (pa_cons pe_bl (pa_cons pe_int (pa_cons (pe_op op_sub pe_int pe_int) (pa_cons pe_str (pa_cons (pe_tupF (pa_cons pe_int pa_nil)) (pa_cons (pe_op op_pow pe_int pe_int) (pa_cons pe_dnewK pa_nil))))))))) (pe_callA (fn__law_draw (w := w) c) (hr.less (by decide)) (by rfl) (gl__law_draw c) (kp__law_draw c) pss0 (pa_cons (pv 1) (pa_cons pe_int pa_nil))) (fun _ _ => rfl))) (pss_cons (ps_if (pt_cmpR (op_neU hr.u64) (pe_callB (call_reprE hr.gd hr.u200) (by rfl) (fr_repr c) PyProof.Rows.boot_repr (pa_cons (pe_lamA (k := 7) (by rfl) (gl__law_told c) (fun__law_told c) sc__law_told rfl (.inl rfl) (fun cdv => gv__law_told c (hr.less (by decide)) cdv) (tabO_of (p := ("law", none)) hc (c.hd _ (List.getElem_mem (l := tf) (n := 0) (by decide))) (c.tb _ (List.getElem_mem (l := tf) (n := 0) (by decide))) (List.mem_of_getElem? (i := 0) rfl) (one_of (CC.dist (w := w) c) (List.mem_of_getElem? (i := 0) rfl))) (hr.less (by decide)) (LamX.lamS_by (sc := defScope s_law) (by decide +kernel)) rfl (fun _ _ _ _ _ => rfl) (fun A out s H E f c1 hr => (pe_listX (fn_rows_of (w := w) c) (hr.less (by decide)) (by rfl) (gl_rows_of c) (kp_rows_of c) (passNs passM) (fun _ _ _ h => h.2) (by rfl) (fr_list c) PyProof.Rows.boot_list (pa_cons (pv 3) pa_nil)))) pa_nil)) (pe_callB (call_reprE hr.gd hr.u200) (by rfl) (fr_repr c) PyProof.Rows.boot_repr (pa_cons (pe_tupF (pa_cons pe_str (pa_cons (pv 3) pa_nil))) pa_nil)) (nomark _)) (pss_one (ps_ret pe_bl)) pss_nil) (pss_cons (ps_if (pt_cmpR (op_neU hr.u64) (pe_lc rfl sc_law.nd (pi_zipX (E := fun _ _ _ => True) (fn_rows_of (w := w) c) (hr.less (by decide)) (by rfl) (gl_rows_of c) (kp_rows_of c) (by rfl) (fr_zip c) (by rfl) (fr_range c) pe_int (pa_cons (pv 3) pa_nil)) (blkOk_by (N := N_law) (sc := defScope s_law) (own := [("n", 6), ("row", 5)]) (by decide +kernel)) (fun _ _ _ _ _ => (show PG _ _ (gTup K 2 (gCons (gName 6) (gCons (gName 5) gNil))) from (pg_tup rfl (pgs_cons (pg_name (i := 6) sc_law.nd rfl (by first | exact .inl rfl | exact .inr rfl)) (pgs_cons (pg_name (i := 5) sc_law.nd rfl (by first | exact .inl rfl | exact .inr rfl)) pgs_nil))))) (fun _ _ _ _ _ => pts_nil) (fun _ _ _ _ _ => (pv 5))) (pe_lst pa_nil) (nomark _)) (pss_one (ps_ret pe_bl)) pss_nil) (pss_one (ps_ret (pe_cmpR (op_eqU hr.u64) (pe_lcG (hr.less (by decide)) rfl sc_law.nd (pgn_call (fny_rows_of (w := w) c) (hr.less (by decide)) (by rfl) (gl_rows_of c) (kp_rows_of c) (pa_cons pe_int pa_nil)) (blkOk_by (N := N_law) (sc := defScope s_law) (own := [("row", 5)]) (by decide +kernel)) (fun _ _ => rfl) (fun _ _ _ _ _ => (pg_name (i := 5) sc_law.nd rfl (by first | exact .inl rfl | exact .inr rfl))) (fun _ _ _ _ _ => pts_nil) (fun _ _ _ _ _ => (show PE _ _ (SlX.tSl K _ "waggons") from SlX.pe_sl (pv 5)))) (pe_lst (pa_cons (pe_tupF (pa_cons (pe_op op_sub pe_int pe_int) pa_nil)) (pa_cons (pe_tupF (pa_cons pe_int pa_nil)) pa_nil))) (nomark _))))))))), ?_⟩
  exact ⟨v, rfl, Non, ns, v, rfl, rv, hns, htb, fun r H' x tb mr fr hs hcs => law_rest (G := GG w K) (E := E) (v := v) (H := H') (Q := Q) (k := 5)
    (ds_seq (ds_for (di_rng1 (da_cons (de_op o_add (de_int).q ((de_cb n_int (dp_cons ((de_op o_eq ((de_call (da_cons (de_var 1) (da_cons de_int da_nil)))).q (de_int).q)).q dp_nil))).q) da_nil)) (dg_name 2) (ds_seq (ds_set (i := 4) (dv (de_lcG (da_cons (de_var 2) da_nil) (dg_name 5) dt_yes (de_fld (c := 0) (de_var 5) (sx_Row c) (sl_Row_waggons c)) (by decide) still_yes (still_fld still_var)))) (ds_seq (ds_if (dt_or (dt_test (de_op o_ne ((de_var 4)).q ((de_cb n_srtW (dp_cons ((de_cb n_listN (dp_cons ((de_call (da_cons (de_var 2) da_nil))).q dp_nil))).q dp_nil))).q)) (dt_test (de_op o_ne ((de_lcG (da_cons (de_var 2) da_nil) (dg_name 5) dt_yes (de_fld (c := 0) (de_var 5) (sx_Row c) (sl_Row_waggons c)) (by decide) still_yes (still_fld still_var))).q ((de_var 4)).q))) (ds_ret de_bl) ds_nil) (ds_if (dt_or (dt_test (de_op o_ne ((de_cb n_len (dp_cons ((de_var 4)).q dp_nil))).q ((de_op o_ixV ((de_lst (da_cons de_int (da_cons de_int (da_cons de_int (da_cons de_int (da_cons de_int (da_cons de_int da_nil)))))))).q ((de_var 2)).q)).q)) (dt_test (de_op o_ne ((de_lcG (da_cons (de_var 2) da_nil) (dg_name 5) (dt_test (de_op o_ne ((de_lenOwn (c := 0) (da_cons (de_var 5) da_nil))).q ((de_var 2)).q)) (de_var 5) (by decide) (still_test (still_op (still_lenOwn (still_cons still_var still_nil) (stillF_run (stillS_ret (still_cb (still_cons (still_fld still_var) still_nil))))) still_var)) still_var)).q ((de_lst da_nil)).q))) (ds_ret de_bl) ds_nil)))) (ds_seq (ds_set (i := 3) (dv (de_op o_ixV ((de_lst (da_cons de_non (da_cons de_bl (da_cons de_int (da_cons (de_op o_sub (de_int).q (de_int).q) (da_cons de_str (da_cons (de_tup (da_cons de_int da_nil)) (da_cons (de_op o_pow (de_int).q (de_int).q) (da_cons de_dnew da_nil)))))))))).q ((de_call (da_cons (de_var 1) (da_cons de_int da_nil)))).q))) (ds_seq (ds_if (dt_test (de_op o_ne ((de_cb n_reprE (dp_cons ((de_heard fun E => (de_listX (nst c) (da_cons (de_var 3) da_nil)))).q dp_nil))).q ((de_cb n_reprE (dp_cons ((de_tup (da_cons de_str (da_cons (de_var 3) da_nil)))).q dp_nil))).q)) (ds_ret de_bl) ds_nil) (ds_seq (ds_if (dt_test (de_op o_ne ((de_lc (de_zipX (da_cons (de_var 3) da_nil)) (dg_tup (dgs_cons (dg_name 6) (dgs_cons (dg_name 5) dgs_nil))) dt_yes (de_var 5) (by decide))).q ((de_lst da_nil)).q)) (ds_ret de_bl) ds_nil) (ds_ret (de_op o_eq ((de_lcG (da_cons de_int da_nil) (dg_name 5) dt_yes (de_fld (c := 0) (de_var 5) (sx_Row c) (sl_Row_waggons c)) (by decide) still_yes (still_fld still_var))).q ((de_lst (da_cons (de_tup (da_cons (de_op o_sub (de_int).q (de_int).q) da_nil)) (da_cons (de_tup (da_cons de_int da_nil)) da_nil)))).q)))))) mr hcs tb (ht r hs hcs) p⟩

end
local macro_rules | `(tactic| exists [$ts,*]) => `(tactic| simp (disch := omega) only [ev_cf, ev_isCl, ev_propC, ev_lenC, ev_cset, ev_caug, ev_methC, ev_pick, ev_slS, ev_seqS, ev_bind, ev_bindx, ev_map, ev_mapx, ev_of, ev_sb, ev_sbx, ev_nx, ev_rt, ev_nexc, ev_var0, ev_varS, ev_peek0, ev_peekM0, ev_peekS, ev_c, ev_op, ev_un, ev_nil, ev_cons, ev_cb, ev_tup, ev_lst, ev_test, ev_not, ev_and, ev_or, ev_if, ev_tru, ev_dv, ev_dvl, ev_fld, ev_fld2, ev_fld2_0, ev_fld2_1, ev_initC, ev_idxT, ev_call, ev_meth, ev_make, ev_seq, ev_set, ev_ret, ev_expr, ev_sif, ev_sNx, ev_par, ev_frz, ev_frzR, ev_app, ev_put, ev_run, ev_init, ev_rgT2, ev_rng1, ev_rng2, ev_seqU, ev_enumU, ev_sl, ev_nop, ev_part, ev_star, ev_chain, ev_chain3, ev_isi, ev_isiT, ev_addI, ev_addS, ev_addT, ev_addL, ev_subI, ev_mulR, ev_mulL, ev_modI, ev_divI, ev_intI, ev_absI, ev_lenT, ev_lenL, ev_cmp, ev_eqI, ev_neI, ev_toTupT, ev_toTupL, ev_hName, ro0, List.map_cons, List.map_nil, List.length_cons, List.length_nil, List.cons_append, List.nil_append, List.getElem?_cons_zero, List.getElem?_cons_succ, List.set_cons_zero, List.set_cons_succ, Nat.reduceAdd, Nat.reduceSub, List.replicate_succ, List.replicate_zero, Nat.reduceLT, Nat.reduceLeDiff, if_true, if_false, reduceIte, Bool.true_eq_false, Bool.false_eq_true, Bool.not_true, Bool.not_false, Nat.zero_add, List.append_nil, Nat.lt_add_one, Nat.succ_eq_add_one, ev_lc, ev_for, ev_wipe0, ev_wipeS, ev_hTup, ev_hCons, ev_hNil, ev_some, rangeD_len, Int.reduceToNat, Int.reduceSub, Int.reduceLE, Int.reduceLT, Int.reduceNeg, and_self, ev_pow18, Int.toNat_natCast, ev_slT, ev_slL, ev_revT, ev_revL, ev_truB, ev_truI, ev_truT, ev_truL, ev_truN, ev_eqS, ev_neS, ev_isA, ev_eqA, ev_heard, ev_heardD, ev_heardX, ev_xf, ev_exc, ev_exc0, ev_mov, ev_lend, ev_raise1, ev_raise0, ev_rgL2, ev_dvRg2, ev_dnew, ev_dI, ev_andV, ev_orV, ev_notV, ev_ofX, ev_ofO, ev_ofI, ev_ofN, ev_ofB, ev_ofS, ev_ofT, ev_ofL, ev_outN, ev_outR, ev_outX, ev_noX, ev_toLstL, ev_toLstT, ev_negI, ev_max2, ev_min2, ev_dvList, ev_lenOwn, ev_asg, ev_ok2O, ev_lc2, ev_par2L, ev_par3L, ev_par2F, ev_par2K, ev_parV, ev_dvsN, ev_dvsC, ev_setsC, ev_setsN, ev_ixVL, ev_ixVT, ev_ixVS, ev_ixVI, ev_ixVX, ev_inVL, ev_inVT, ev_inVI, ev_inVX, ev_getU, ev_isDd, ev_isDn, ev_lookI, ev_lookX, ev_putU, ev_put2, ev_store, ev_hasM, ev_muL, ev_muK, ev_muN, ev_storeD, ev_keyI, ev_keyX, ev_dvnew, ev_peekK0, ev_peekN0, List.mem_cons, List.not_mem_nil, or_false, forall_eq_or_imp, forall_eq, Option.map_some, Bool.false_xor, Bool.true_xor, ev_asg2, ev_rgL1, ev_bestL, ev_srtX, ev_anyL, ev_dcG, ev_keysN, ev_dvnewN, ev_setX, ev_index, ev_toLstN, ev_lenN, ev_lstVals, ev_maxVals, $[$ts:term],*])
/-! draws -/
def Lim (k : Nat) (m : Mo) : Prop := ∃ r, m = some r ∧ r.spot + k ≤ 1000000000 ∧ r.cs = []
theorem Lim.le {j k : Nat} {m : Mo} (h : Lim k m) (hk : j ≤ k) : Lim j m := by
  obtain ⟨r, e, q, z⟩ := h
  exact ⟨r, e, by omega, z⟩
theorem draw_lim {L : Int} {m : Mo} {k : Nat} (h0 : 0 < L) (h1 : L < 1000000) (h : Lim (k + 1) m) : ∃ v m', F__law_draw [.drw, .int L] m = .ok (.int v) m' ∧ Lim k m' ∧ 0 ≤ v ∧ v < L := by
  obtain ⟨r, rfl, hs, hz⟩ := h
  refine ⟨drawV r L, some (drawM r L), if_pos ⟨⟨h0, h1⟩, by omega⟩, ⟨_, rfl, ?_, ?_⟩, (drawV_le h0).1, (drawV_le h0).2⟩
  · rw [drawM_ad.2.2.2.1]
    omega
  · rw [drawM_ad.2.2.2.2]
    exact hz
/-! rows -/
def Per (n : Nat) (w : List Int) : Prop := (w.map Int.natAbs).Perm (List.range' 1 n)
theorem Per.len {n : Nat} {w : List Int} (h : Per n w) : w.length = n := by
  have z := h.length_eq
  rw [List.length_map, List.length_range'] at z
  exact z
theorem Per.mem {n : Nat} {w : List Int} (h : Per n w) {x : Int} (hx : x ∈ w) : 1 ≤ x.natAbs ∧ x.natAbs ≤ n := by
  have z : x.natAbs ∈ List.range' 1 n := h.subset (List.mem_map.mpr ⟨x, hx, rfl⟩)
  have y := List.mem_range'_1.mp z
  omega
theorem Per.nodup {n : Nat} {w : List Int} (h : Per n w) : (w.map Int.natAbs).Nodup := h.nodup_iff.mpr List.nodup_range'
theorem Per.nil : Per 0 [] := .refl _
theorem Per.ins {n k : Nat} {w : List Int} {x : Int} (h : Per n w) (hx : x.natAbs = n + 1) : Per (n + 1) (w.take k ++ [x] ++ w.drop k) := by
  unfold Per
  rw [List.range'_concat, List.map_append, List.map_append, List.map_cons, List.map_nil, hx]
  have p1 : ((w.take k).map Int.natAbs ++ [n + 1] ++ (w.drop k).map Int.natAbs).Perm ((n + 1) :: ((w.take k).map Int.natAbs ++ (w.drop k).map Int.natAbs)) := by
    rw [List.append_assoc]
    exact List.perm_middle
  refine p1.trans ?_
  rw [← List.map_append, List.take_append_drop]
  have p2 : ((n + 1) :: w.map Int.natAbs).Perm ((n + 1) :: List.range' 1 n) := List.Perm.cons _ h
  refine p2.trans ?_
  rw [show 1 + 1 * n = n + 1 by omega]
  exact (List.perm_append_singleton _ _).symm
theorem Per.id (n : Nat) : Per n ((List.range n).map fun (i : Nat) => (1 + (i : Int))) := by
  unfold Per
  have e : ((List.range n).map fun (i : Nat) => (1 + (i : Int))).map Int.natAbs = List.range' 1 n := by
    rw [List.map_map, List.range'_eq_map_range]
    apply List.map_congr_left
    intro i _
    show (1 + (i : Int)).natAbs = 1 + i
    omega
  rw [e]
/-- a turning -/
def turnL (w : List Int) (f l : Nat) : List Int := w.take f ++ ((w.drop f).take (l + 1 - f)).reverse.map (fun x => 0 - x) ++ w.drop (l + 1)
theorem Per.turn {n f l : Nat} {w : List Int} (h : Per n w) (hfl : f ≤ l) : Per n (turnL w f l) := by
  refine List.Perm.trans ?_ h
  unfold turnL
  have e : (((w.drop f).take (l + 1 - f)).reverse.map (fun x : Int => 0 - x)).map Int.natAbs = (((w.drop f).take (l + 1 - f)).map Int.natAbs).reverse := by
    rw [List.map_map, List.map_reverse]
    congr 1
    apply List.map_congr_left
    intro x _
    show (0 - x).natAbs = x.natAbs
    omega
  rw [List.map_append, List.map_append, e]
  have p1 : ((w.take f).map Int.natAbs ++ (((w.drop f).take (l + 1 - f)).map Int.natAbs).reverse ++ (w.drop (l + 1)).map Int.natAbs).Perm ((w.take f).map Int.natAbs ++ ((w.drop f).take (l + 1 - f)).map Int.natAbs ++ (w.drop (l + 1)).map Int.natAbs) :=
    List.Perm.append_right _ (List.Perm.append_left _ (List.reverse_perm _))
  refine p1.trans ?_
  have e2 : w.take f ++ (w.drop f).take (l + 1 - f) ++ w.drop (l + 1) = w := by
    have e3 : w.drop (l + 1) = (w.drop f).drop (l + 1 - f) := by rw [List.drop_drop]; congr 1; omega
    rw [e3, List.append_assoc, List.take_append_drop, List.take_append_drop]
  rw [← List.map_append, ← List.map_append, e2]
theorem in_ints {ks : List Int} {a : Int} : inD false (.int a) (.lst (ks.map .int)) = some (.bl (decide (a ∈ ks))) := by
  show (if (D.int a).plain 60 = true ∧ D.plains 60 (ks.map .int) = true then some (D.bl (false ^^ (ks.map D.int).any fun z => PyData.eqv z.py (D.int a).py)) else none) = _
  rw [if_pos ⟨by simp [D.plain], plain_ints 60 ks⟩]
  congr 2
  rw [Bool.false_xor, List.any_map, Bool.eq_iff_iff, List.any_eq_true, decide_eq_true_iff]
  constructor
  · rintro ⟨x, hx, e⟩
    have e' : (x == a) = true := by simpa [D.py, PyData.eqv] using e
    rw [← eq_of_beq e']
    exact hx
  · intro h
    exact ⟨a, h, by simp [D.py, PyData.eqv]⟩
theorem abs_nat (x : Int) : (if x < 0 then -x else x) = ((x.natAbs : Nat) : Int) := by
  split <;> omega
/-! what is refused of a row's waggons -/
theorem is_whole_i {x : Int} {m : Mo} : F_is_whole [.int x] m = .ok (.bl true) m := by kernel_rfl
/-- an item of plain type that is no whole number -/
def oddD : D → Bool
  | .int _ => false
  | d => (tyD d).isSome
theorem is_whole_o {d : D} {m : Mo} (h : oddD d = true) : F_is_whole [d] m = .ok (.bl false) m := by
  cases d with
  | int i => cases h
  | non => kernel_rfl
  | bl b => kernel_rfl
  | str x => kernel_rfl
  | tup l => kernel_rfl
  | lst l => kernel_rfl
  | dct l => kernel_rfl
  | dcn l => first | cases h | kernel_rfl
  | cel k => cases h
  | lcl k j => cases h
  | obj c d => cases h
  | exc c l => cases h
  | drw => cases h
  | scr ns => cases h
/-- the first fault, from place i on, of rows of n; known: the numbers met -/
def flt (n : Nat) : Nat → List Nat → List D → Option Nat
  | _, _, [] => none
  | i, known, .int x :: r => if (1 ≤ x.natAbs ∧ x.natAbs ≤ n) ∧ x.natAbs ∉ known then flt n (i + 1) (known ++ [x.natAbs]) r else some i
  | i, _, _ :: _ => some i
def kn (known : List Nat) : List D := (known.map (Nat.cast : Nat → Int)).map D.int
theorem in_kn {known : List Nat} {a : Nat} : inD false (.int (a : Int)) (.lst (kn known)) = some (.bl (decide (a ∈ known))) := by
  unfold kn
  rw [in_ints]
  congr 2
  rw [Bool.eq_iff_iff, decide_eq_true_iff, decide_eq_true_iff]
  constructor
  · intro h
    obtain ⟨b, hb, e⟩ := List.mem_map.mp h
    have : b = a := by omega
    rwa [← this]
  · exact fun h => List.mem_map.mpr ⟨a, h, rfl⟩
/-- what a turn of the loop does -/
theorem need_turn {x : D} {known : List Nat} {n i : Nat} {d : D} {m : Mo} (el : lenD [x] = some (.int (n : Int))) (hk : known.length ≤ 1000) (hd : (tyD d).isSome = true) :
    den_need_waggons_b1 [some (.v x), some (.ml (kn known)), some (.v (.int (i : Int))), some (.v d)] m = match d with
      | .int z => if (1 ≤ z.natAbs ∧ z.natAbs ≤ n) ∧ z.natAbs ∉ known then .nx [some (.v x), some (.ml (kn (known ++ [z.natAbs]))), some (.v (.int (i : Int))), some (.v d)] m else .exc 0 [.int (i : Int)] m
      | _ => .exc 0 [.int (i : Int)] m := by
  have lk : (kn known).length = known.length := by unfold kn; simp
  by_cases ho : oddD d = true
  · unfold den_need_waggons_b1
    and_intros
    rw [is_whole_o ho]
    and_intros
    cases d with
    | int z => cases ho
    | _ => rfl
  · cases d with
    | int z =>
      unfold den_need_waggons_b1
      and_intros
      rw [is_whole_i]
      and_intros
      rw [el]
      and_intros
      rw [abs_nat]
      by_cases h1 : 1 ≤ z.natAbs
      · rw [decide_eq_true (show (1 : Int) ≤ (z.natAbs : Int) by omega)]
        and_intros
        by_cases h2 : z.natAbs ≤ n
        · rw [decide_eq_true (show (z.natAbs : Int) ≤ (n : Int) by omega)]
          and_intros
          rw [in_kn]
          by_cases h3 : z.natAbs ∈ known
          · rw [decide_eq_true h3, if_neg (show ¬ ((1 ≤ z.natAbs ∧ z.natAbs ≤ n) ∧ z.natAbs ∉ known) from fun w => w.2 h3)]
            and_intros
          · rw [decide_eq_false h3, if_pos ⟨⟨h1, h2⟩, h3⟩]
            and_intros
            rw [if_pos (by omega)]
            unfold kn
            rw [List.map_append, List.map_append, abs_nat]
            rfl
        · rw [decide_eq_false (show ¬ (z.natAbs : Int) ≤ (n : Int) by omega), if_neg (show ¬ ((1 ≤ z.natAbs ∧ z.natAbs ≤ n) ∧ z.natAbs ∉ known) from fun w => h2 w.1.2)]
          and_intros
      · rw [decide_eq_false (show ¬ (1 : Int) ≤ (z.natAbs : Int) by omega), if_neg (show ¬ ((1 ≤ z.natAbs ∧ z.natAbs ≤ n) ∧ z.natAbs ∉ known) from fun w => h1 w.1.1)]
        and_intros
    | non => exact absurd rfl ho
    | bl b => exact absurd rfl ho
    | str x => exact absurd rfl ho
    | tup l => exact absurd rfl ho
    | lst l => exact absurd rfl ho
    | dct l => exact absurd rfl ho
    | dcn l => first | cases hd | exact absurd rfl ho
    | cel k => cases hd
    | lcl k j => cases hd
    | obj c d => cases hd
    | exc c l => cases hd
    | drw => cases hd
    | scr ns => cases hd
abbrev needH : D → Ro → Option Ro := hTup 2 (hCons (hName 2) (hCons (hName 3) hNil))
theorem need_rec {x : D} {n : Nat} (el : lenD [x] = some (.int (n : Int))) : ∀ (ds : List D) (i : Nat) (known : List Nat) (x2 x3 : Option Sv) (m : Mo), known.length + ds.length ≤ 1000 → (∀ d ∈ ds, (tyD d).isSome = true) →
    (∃ k, flt n i known ds = some k ∧ forD needH den_need_waggons_b1 (enumD i ds) [some (.v x), some (.ml (kn known)), x2, x3] m = .exc 0 [.int (k : Int)] m) ∨
    (∃ ρ, flt n i known ds = none ∧ forD needH den_need_waggons_b1 (enumD i ds) [some (.v x), some (.ml (kn known)), x2, x3] m = .nx ρ m)
  | [], i, known, x2, x3, m, _, _ => .inr ⟨_, rfl, rfl⟩
  | d :: r, i, known, x2, x3, m, hl, ht => by
    have e1 : needH (.tup [.int (i : Int), d]) [some (.v x), some (.ml (kn known)), x2, x3] = some [some (.v x), some (.ml (kn known)), some (.v (.int (i : Int))), some (.v d)] := rfl
    have e2 : enumD i (d :: r) = .tup [.int (i : Int), d] :: enumD (i + 1) r := rfl
    rw [e2, forD_cons e1, need_turn el (by simp at hl; omega) (ht d List.mem_cons_self)]
    cases d with
    | int z =>
      dsimp only
      unfold flt
      by_cases hz : (1 ≤ z.natAbs ∧ z.natAbs ≤ n) ∧ z.natAbs ∉ known
      · rw [if_pos hz, if_pos hz]
        exact need_rec el r (i + 1) (known ++ [z.natAbs]) _ _ m (by simp at hl ⊢; omega) fun d hd => ht d (List.mem_cons_of_mem _ hd)
      · rw [if_neg hz, if_neg hz]
        exact .inl ⟨i, rfl, rfl⟩
    | _ => exact .inl ⟨i, rfl, rfl⟩
/-- Row's __init__ -/
theorem init_spec {x : D} {ds : List D} {m : Mo} (hx : x = .lst ds ∨ x = .tup ds) (hl : ds.length ≤ 1000) (ht : ∀ d ∈ ds, (tyD d).isSome = true) :
    F_Row___init__ [x] m = if 24 < ds.length then .exc 8 [.int 24] m else match flt ds.length 0 [] ds with
      | some k => .exc 0 [.int (k : Int)] m
      | none => .ok (.tup ds) m := by
  have el : lenD [x] = some (.int (ds.length : Int)) := by rcases hx with rfl | rfl <;> rfl
  have il : F_is_list [x] m = .ok (.bl true) m := by rcases hx with rfl | rfl <;> kernel_rfl
  have ee : dEnumU (dCons (dVar 0) dNil) [some (.v x), some (.ml []), none, none] m = .ok (enumD 0 ds) m := by rcases hx with rfl | rfl <;> rfl
  have et : toTup [x] = some (.tup ds) := by rcases hx with rfl | rfl <;> rfl
  have need : F_need_waggons [x] m = if 24 < ds.length then .exc 8 [.int 24] m else match flt ds.length 0 [] ds with
      | some k => .exc 0 [.int (k : Int)] m
      | none => .ok .non m := by
    unfold F_need_waggons den_need_waggons
    and_intros
    rw [il]
    and_intros
    rw [el]
    and_intros
    by_cases h : 24 < ds.length
    · rw [decide_eq_true (show (24 : Int) < (ds.length : Int) by omega), if_pos h]
      and_intros
    · rw [decide_eq_false (show ¬ (24 : Int) < (ds.length : Int) by omega), if_neg h]
      and_intros
      rcases hx with rfl | rfl
      all_goals
        and_intros
        rcases need_rec el ds 0 [] none none m (by simpa using hl) ht with ⟨k, e1, e2⟩ | ⟨ρ, e1, e2⟩
        · rw [e1]
          first
            | exact congrArg (fun r => match r with
                | .nx _ m' => R.ok D.non m'
                | .rt d m' => .ok d m'
                | .exc c l m' => .exc c l m'
                | _ => .bad) e2
        · rw [e1]
          exact congrArg (fun r => match r with
                | .nx _ m' => R.ok D.non m'
                | .rt d m' => .ok d m'
                | .exc c l m' => .exc c l m'
                | _ => .bad) e2
  unfold F_Row___init__
  and_intros
  rw [need]
  by_cases h : 24 < ds.length
  · rw [if_pos h, if_pos h]
    rfl
  · rw [if_neg h, if_neg h]
    cases flt ds.length 0 [] ds with
    | some k => rfl
    | none =>
      dsimp only
      and_intros
      rw [et]
      and_intros
/-! rows drawn as lists -/
theorem rgOk_small {a b : Nat} (h : a ≤ 1000) (h2 : b ≤ 1000) : rgOk a b = true := decide_eq_true ⟨by omega, by omega, by omega, by omega⟩
theorem rgD_one (n : Nat) : rgD 1 ((n : Int) + 1) = ((List.range n).map fun (i : Nat) => (1 + (i : Int))).map D.int := by
  unfold rgD
  rw [List.map_map, show ((n : Int) + 1 - 1).toNat = n by omega]
  rfl
/-- some are drawn out of the rest -/
def Dr (n : Nat) (found rest : List Int) : Prop := Per n (found ++ rest)
theorem Dr.step {n k : Nat} {found rest : List Int} {x y : Int} (h : Dr n found rest) (hk : rest[k]? = some x) (hy : y.natAbs = x.natAbs) : Dr n (found ++ [y]) (rest.eraseIdx k) := by
  unfold Dr Per at *
  refine List.Perm.trans ?_ h
  rw [List.map_append, List.map_append, List.map_append, List.append_assoc]
  refine List.Perm.append_left _ ?_
  rw [List.map_cons, List.map_nil, hy]
  obtain ⟨hl, e⟩ := List.getElem?_eq_some_iff.mp hk
  have e2 : rest = rest.take k ++ x :: rest.drop (k + 1) := by
    rw [← e, ← List.drop_eq_getElem_cons hl, List.take_append_drop]
  have e3 : rest.eraseIdx k = rest.take k ++ rest.drop (k + 1) := List.eraseIdx_eq_take_drop_succ ..
  rw [e3]
  conv => rhs; rw [e2]
  rw [List.map_append, List.map_append, List.map_cons]
  exact (show (x.natAbs :: ((rest.take k).map Int.natAbs ++ (rest.drop (k + 1)).map Int.natAbs)).Perm _ from List.perm_middle.symm)
theorem Dr.end {n : Nat} {found : List Int} (h : Dr n found []) : Per n found := by
  unfold Dr at h
  rwa [List.append_nil] at h
abbrev drS (found rest : List Int) (many : Nat) (v : Int) (x5 x6 x7 : Option Sv) : Ro := [some (.v .drw), some (.v (.int many)), some (.ml (found.map D.int)), some (.v (.int v)), some (.ml (rest.map D.int)), x5, x6, x7]
theorem Per.neg {n : Nat} {w : List Int} (h : Per n w) : Per n (w.reverse.map fun x => 0 - x) := by
  refine List.Perm.trans ?_ h
  have e : (w.reverse.map (fun x : Int => 0 - x)).map Int.natAbs = (w.map Int.natAbs).reverse := by
    rw [List.map_map, ← List.map_reverse]
    apply List.map_congr_left
    intro x _
    show (0 - x).natAbs = x.natAbs
    omega
  rw [e]
  exact List.reverse_perm _
/-! the first fault of rows that are spoiled -/
theorem flt_app (n : Nat) : ∀ (p : List Int) (i : Nat) (known : List Nat) (r : List D), (∀ x ∈ p, 1 ≤ x.natAbs ∧ x.natAbs ≤ n) → (known ++ p.map Int.natAbs).Nodup → flt n i known (p.map .int ++ r) = flt n (i + p.length) (known ++ p.map Int.natAbs) r
  | [], i, known, r, _, _ => by simp
  | x :: p, i, known, r, hv, nd => by
    have nd' : (known ++ [x.natAbs] ++ p.map Int.natAbs).Nodup := by
      rw [List.append_assoc]
      exact nd
    have hx : x.natAbs ∉ known := fun hm => by
      have z := (List.nodup_append.mp nd).2.2 _ hm x.natAbs (by simp)
      exact z rfl
    show (if (1 ≤ x.natAbs ∧ x.natAbs ≤ n) ∧ x.natAbs ∉ known then flt n (i + 1) (known ++ [x.natAbs]) (p.map .int ++ r) else some i) = _
    rw [if_pos ⟨hv x List.mem_cons_self, hx⟩, flt_app n p (i + 1) (known ++ [x.natAbs]) r (fun y hy => hv y (List.mem_cons_of_mem _ hy)) nd', List.length_cons, show i + 1 + p.length = i + (p.length + 1) by omega, List.append_assoc]
    rfl
theorem flt_none {n : Nat} {w : List Int} (h : Per n w) : flt n 0 [] (w.map .int) = none := by
  have z := flt_app n w 0 [] [] (fun x hx => h.mem hx) (by simpa using h.nodup)
  rw [List.append_nil] at z
  rw [z]
  rfl
/-- an item that no row of n may hold -/
def BadI (n : Nat) (d : D) : Prop := (tyD d).isSome = true ∧ ∀ x, d = .int x → ¬ (1 ≤ x.natAbs ∧ x.natAbs ≤ n)
theorem ty_ints {w : List Int} : ∀ d ∈ w.map D.int, (tyD d).isSome = true := fun d hd => by
  obtain ⟨x, _, rfl⟩ := List.mem_map.mp hd
  rfl
theorem init_ok {n : Nat} {w : List Int} {m : Mo} {d : D} (hp : Per n w) (hn : n ≤ 24) (hd : d = .tup (w.map .int) ∨ d = .lst (w.map .int)) : F_Row___init__ [d] m = .ok (.tup (w.map .int)) m := by
  have lw := hp.len
  rw [init_spec (ds := w.map .int) (hd.symm) (by rw [List.length_map]; omega) ty_ints, if_neg (by rw [List.length_map]; omega), List.length_map, lw, flt_none hp]
/-! the law -/
theorem len_row {w : List Int} {m : Mo} : F_Row___len__ [.obj 0 (.tup (w.map .int))] m = .ok (.int w.length) m := by
  unfold F_Row___len__ den_Row___len__
  and_intros
  rw [List.length_map]
/-! what a row tells -/
theorem among_i {x a b : Int} {m : Mo} : F_is_among [.int x, .int a, .int b] m = .ok (.bl (decide (a ≤ x ∧ x ≤ b))) m := by
  unfold F_is_among den_is_among
  and_intros
  rw [is_whole_i]
  and_intros
  by_cases h : a ≤ x
  · rw [decide_eq_true h]
    and_intros
    congr 2
    rw [Bool.eq_iff_iff, decide_eq_true_iff, decide_eq_true_iff]
    exact ⟨fun z => ⟨h, z⟩, fun z => z.2⟩
  · rw [decide_eq_false h, decide_eq_false (p := a ≤ x ∧ x ≤ b) (fun z => h z.1)]
    and_intros
theorem among_o {d : D} {a b : Int} {m : Mo} (h : oddD d = true) : F_is_among [d, .int a, .int b] m = .ok (.bl false) m := by
  unfold F_is_among den_is_among
  and_intros
  rw [is_whole_o h]
  and_intros
/-- what is no whole number from a to b -/
def Out (a b : Int) (d : D) : Prop := oddD d = true ∨ ∃ x, d = .int x ∧ ¬ (a ≤ x ∧ x ≤ b)
abbrev rw_ (w : List Int) : D := .obj 0 (.tup (w.map .int))
theorem plain_ti {n : Nat} {w : List Int} : (D.tup (w.map .int)).plain (n + 1) = true := by
  simp only [D.plain]
  exact plain_ints n w
theorem turn_len {w : List Int} {f l : Nat} (h1 : f ≤ l) (h2 : l < w.length) : (turnL w f l).length = w.length := by
  unfold turnL
  simp only [List.length_append, List.length_map, List.length_reverse, List.length_take, List.length_drop]
  omega
theorem turn_at {w : List Int} {f l i : Nat} (h1 : f ≤ l) (h2 : l < w.length) (hi : i < w.length) : (turnL w f l).getD i 0 = if f ≤ i ∧ i ≤ l then 0 - w.getD (f + l - i) 0 else w.getD i 0 := by
  unfold turnL
  have l1 : (w.take f).length = f := by rw [List.length_take]; omega
  have l2 : (((w.drop f).take (l + 1 - f)).reverse.map fun x : Int => 0 - x).length = l + 1 - f := by
    simp only [List.length_map, List.length_reverse, List.length_take, List.length_drop]
    omega
  rw [List.getD_eq_getElem?_getD, List.getD_eq_getElem?_getD, List.getD_eq_getElem?_getD]
  by_cases a : i < f
  · rw [if_neg (by omega), List.append_assoc, List.getElem?_append_left (by omega), List.getElem?_take_of_lt a]
  · by_cases b : i ≤ l
    · rw [if_pos ⟨by omega, b⟩, List.getElem?_append_left (by rw [List.length_append, l1, l2]; omega), List.getElem?_append_right (by omega), l1, List.getElem?_map, List.getElem?_reverse (by rw [List.length_take, List.length_drop]; omega), List.length_take, List.length_drop, List.getElem?_take_of_lt (by omega), List.getElem?_drop, show f + (min (l + 1 - f) (w.length - f) - 1 - (i - f)) = f + l - i by omega, List.getElem?_eq_getElem (show f + l - i < w.length by omega)]
      rfl
    · rw [if_neg (by omega), List.getElem?_append_right (by rw [List.length_append, l1, l2]; omega), List.length_append, l1, l2, List.getElem?_drop, show l + 1 + (i - (f + (l + 1 - f))) = i by omega]
theorem turn_turn {n f l : Nat} {w : List Int} (hw : Per n w) (h1 : f ≤ l) (h2 : l < n) : turnL (turnL w f l) f l = w := by
  have lw := hw.len
  have lt := turn_len (w := w) h1 (by omega)
  apply List.ext_getElem?
  intro i
  by_cases hi : i < n
  · have e : ∀ v : List Int, i < v.length → v[i]? = some (v.getD i 0) := fun v h => by
      rw [List.getD_eq_getElem?_getD, List.getElem?_eq_getElem h]
      rfl
    rw [e _ (by rw [turn_len h1 (by omega)]; omega), e w (by omega), turn_at h1 (by omega) (by omega)]
    congr 1
    by_cases q : f ≤ i ∧ i ≤ l
    · rw [if_pos q, turn_at h1 (by omega) (by omega), if_pos (by omega), show f + l - (f + l - i) = i by omega]
      omega
    · rw [if_neg q, turn_at h1 (by omega) (by omega), if_neg q]
  · rw [List.getElem?_eq_none (by rw [turn_len h1 (by omega)]; omega), List.getElem?_eq_none (by omega)]
theorem runD_rt {N : Nat} {f : DS} {ds : List D} {m m' : Mo} {d : D} (h : f (ro0 N ds) m = .rt d m') : runD N f ds m = .ok d m' := by
  unfold runD
  rw [h]
def idW (n : Nat) : List Int := (List.range n).map fun (i : Nat) => (1 + (i : Int))
abbrev tuD (w : List Int) : D := .tup (w.map .int)
theorem lturn_ok {w : List Int} {f l : Nat} {m : Mo} (h : w.length ≤ 1000) : F__law_turn [tuD w, .int (f : Int), .int (l : Int)] m = .ok (tuD (turnL w f l)) m := by
  unfold F__law_turn den__law_turn
  and_intros
  rw [show ((l : Int) + 1) = ((l + 1 : Nat) : Int) by omega, cut_hi, cut_lh]
  and_intros
  have e0 : ((w.map D.int).drop f).take (l + 1 - f) = ((w.drop f).take (l + 1 - f)).map D.int := by rw [List.map_take, List.map_drop]
  have l0 : ((w.drop f).take (l + 1 - f)).length ≤ 1000 := by
    rw [List.length_take, List.length_drop]
    omega
  rw [e0, ← List.map_reverse, if_pos (show (((w.drop f).take (l + 1 - f)).reverse.map D.int).length ≤ 100000 by rw [List.length_map, List.length_reverse]; omega), lcD_all D.int (fun x => D.int (0 - x))]
  · and_intros
    have e1 : (((w.drop f).take (l + 1 - f)).reverse.map fun x => D.int (0 - x)) = (((w.drop f).take (l + 1 - f)).reverse.map fun x => 0 - x).map D.int := by rw [List.map_map]; rfl
    have l1 : (((w.drop f).take (l + 1 - f)).reverse.map fun x => 0 - x).length ≤ 1000 := by
      rw [List.length_map, List.length_reverse]
      exact l0
    have l2 : (w.take f).length ≤ 1000 := by rw [List.length_take]; omega
    have l3 : (w.drop (l + 1)).length ≤ 1000 := by rw [List.length_drop]; omega
    rw [e1, ← List.map_take, ev_addT (by simp only [List.length_map] at *; omega)]
    and_intros
    rw [cut_lo]
    and_intros
    rw [← List.map_drop, ev_addT (by simp only [List.length_append, List.length_map] at *; omega)]
    and_intros
    unfold turnL
    show _ = R.ok (D.tup (List.map D.int _)) m
    rw [List.map_append, List.map_append]
  · intro x _
    exact ⟨_, rfl, rfl, by and_intros⟩
def kW (w : List Int) : NestedKey := .tup (w.map .num)
theorem nks_ints : ∀ w : List Int, D.nks (w.map .int) = some (w.map .num)
  | [] => rfl
  | x :: r => by
    have ih := nks_ints r
    show (match D.nk (.int x), D.nks (r.map .int) with
      | some k, some ks => some (k :: ks)
      | _, _ => none) = _
    rw [ih]
    rfl
theorem dep_ints : ∀ w : List Int, NestedKey.depthAll (w.map .num) ≤ 1
  | [] => by simp [NestedKey.depthAll]
  | x :: r => by
    have ih := dep_ints r
    simp only [List.map_cons, NestedKey.depthAll, NestedKey.depth]
    omega
theorem tu_key (w : List Int) : (tuD w).nkey = some (kW w) := by
  show (match D.nks (w.map .int) with
    | some ks => if (NestedKey.tup ks).depth ≤ 8 then some (NestedKey.tup ks) else none
    | none => none) = _
  rw [nks_ints]
  have := dep_ints w
  dsimp only
  rw [if_pos (by simp only [NestedKey.depth]; omega)]
  rfl
theorem kW_D (w : List Int) : kD (kW w) = tuD w := (nkey_of (tu_key w)).1
theorem map_num_inj : ∀ {a b : List Int}, a.map NestedKey.num = b.map NestedKey.num → a = b
  | [], [], _ => rfl
  | [], _ :: _, h => by simp at h
  | _ :: _, [], h => by simp at h
  | x :: a, y :: b, h => by
    rw [List.map_cons, List.map_cons] at h
    injection h with h1 h2
    injection h1 with h1
    rw [h1, map_num_inj h2]
theorem kW_inj {a b : List Int} (h : kW a = kW b) : a = b := by
  unfold kW at h
  injection h with h
  exact map_num_inj h
def allR : Nat → List Nat → List (List Int)
  | 0, _ => [[]]
  | k + 1, av => av.flatMap fun a => [((a : Nat) : Int), -((a : Nat) : Int)].flatMap fun x => (allR k (av.erase a)).map fun r => x :: r
theorem allR_mem : ∀ (w : List Int) (av : List Nat), (w.map Int.natAbs).Perm av → w ∈ allR w.length av
  | [], av, _ => by simp [allR]
  | x :: r, av, h => by
    have hx : x.natAbs ∈ av := h.subset (by simp)
    have h2 : (r.map Int.natAbs).Perm (av.erase x.natAbs) := by
      have := h.erase x.natAbs
      rwa [List.map_cons, List.erase_cons_head] at this
    have ih := allR_mem r (av.erase x.natAbs) h2
    show _ ∈ av.flatMap _
    refine List.mem_flatMap.mpr ⟨x.natAbs, hx, List.mem_flatMap.mpr ⟨x, ?_, List.mem_map.mpr ⟨r, ih, rfl⟩⟩⟩
    simp only [List.mem_cons, List.not_mem_nil, or_false]
    omega
theorem allR_per {n : Nat} {w : List Int} (h : Per n w) : w ∈ allR n (List.range' 1 n) := by
  have := allR_mem w (List.range' 1 n) h
  rwa [h.len] at this
theorem sub_lenD {α : Type} {l l' : List α} (nd : l.Nodup) (h : ∀ x ∈ l, x ∈ l') : l.length ≤ l'.length := by
  classical
  induction l generalizing l' with
  | nil => simp
  | cons a r ih =>
    have ⟨n1, n2⟩ := List.nodup_cons.mp nd
    have ha := h a (by simp)
    have := ih (l' := l'.erase a) n2 fun x hx => (List.mem_erase_of_ne (fun z => n1 (by rw [← z]; exact hx))).mpr (h x (by simp [hx]))
    rw [List.length_erase_of_mem ha] at this
    have := List.length_pos_of_mem ha
    simp only [List.length_cons]
    omega
theorem allR_len : ∀ n, n ≤ 5 → (allR n (List.range' 1 n)).length ≤ 3840
  | 0, _ => by decide
  | 1, _ => by decide
  | 2, _ => by decide +kernel
  | 3, _ => by decide +kernel
  | 4, _ => by decide +kernel
  | 5, _ => by decide +kernel
  | n + 6, h => absurd h (by omega)
theorem per_count {n : Nat} (hn : n ≤ 5) {ws : List (List Int)} (nd : ws.Nodup) (h : ∀ w ∈ ws, Per n w) : ws.length ≤ 3840 :=
  Nat.le_trans (sub_lenD nd fun w hw => allR_per (h w hw)) (allR_len n hn)
theorem ne_nil_tu {ws : List (List Int)} : neD (.lst (ws.map tuD)) (.lst []) = some (.bl (!ws.isEmpty)) := by
  have pl : ∀ ws : List (List Int), D.plains 59 (ws.map tuD) = true := fun ws => by
    induction ws with
    | nil => rfl
    | cons a r ih =>
      show ((tuD a).plain 59 && D.plains 59 (r.map tuD)) = true
      rw [ih, plain_ti (n := 58)]
      rfl
  show (if (D.lst (ws.map tuD)).plain 60 = true ∧ (D.lst []).plain 60 = true then some (D.bl (!PyData.eqv (D.lst (ws.map tuD)).py (D.lst []).py)) else none) = _
  rw [if_pos ⟨pl ws, rfl⟩]
  cases ws <;> simp [D.py, D.pys, PyData.eqv, PyData.eqvAll]
/-! the law's walk over all rows: its dict has all of them -/
theorem seq_nx {f g : DS} {ρ ρ' : Ro} {m m' : Mo} (h : f ρ m = .nx ρ' m') : sSeq f g ρ m = g ρ' m' := by
  unfold sSeq
  rw [h]
  rfl
/-- K: the rows in the dict as the layer began, lt: those found since -/
structure WS (n : Nat) (K : List (List Int)) (l : List (NestedKey × D)) (lt : List (List Int)) : Prop where
  keys : l.map (·.1) = (K ++ lt).map kW
  per : ∀ w ∈ K ++ lt, Per n w
  nd : (K ++ lt).Nodup
theorem WS.len {n : Nat} {K : List (List Int)} {l : List (NestedKey × D)} {lt : List (List Int)} (h : WS n K l lt) (hn : n ≤ 5) : l.length ≤ 3840 ∧ lt.length ≤ 3840 ∧ K.length + lt.length ≤ 3840 := by
  have a := per_count hn h.nd h.per
  have c : (l.map (·.1)).length = ((K ++ lt).map kW).length := by rw [h.keys]
  rw [List.length_map, List.length_map] at c
  rw [List.length_append] at a c
  omega
theorem WS.get {n : Nat} {K : List (List Int)} {l : List (NestedKey × D)} {lt : List (List Int)} (h : WS n K l lt) {w : List Int} : kvGet l (kW w) = none ↔ w ∉ K ++ lt := by
  rw [kvGet_none, h.keys]
  constructor
  · exact fun q hm => q (List.mem_map.mpr ⟨w, hm, rfl⟩)
  · intro q hm
    obtain ⟨v, hv, e⟩ := List.mem_map.mp hm
    exact q (kW_inj e ▸ hv)
theorem WS.add {n : Nat} {K : List (List Int)} {l : List (NestedKey × D)} {lt : List (List Int)} {z : List Int} {d : D} (h : WS n K l lt) (hz : Per n z) (no : kvGet l (kW z) = none) : WS n K (kvPut l (kW z) d) (lt ++ [z]) where
  keys := by
    rw [kvPut_new no, List.map_append, h.keys, ← List.append_assoc, List.map_append (l₂ := [z])]
    rfl
  per := fun w hw => by
    rw [← List.append_assoc] at hw
    rcases List.mem_append.mp hw with q | q
    · exact h.per w q
    · rw [List.mem_singleton] at q
      rw [q]
      exact hz
  nd := by
    rw [← List.append_assoc]
    refine List.nodup_append.mpr ⟨h.nd, by simp, fun a ha b hb e2 => ?_⟩
    rw [List.mem_singleton] at hb
    subst hb
    subst e2
    exact h.get.mp no ha
def Cv (K lt : List (List Int)) (w : List Int) : Prop := w ∈ K ++ lt
theorem Cv.mono {K lt lt' : List (List Int)} {w : List Int} (h : Cv K lt w) (k : ∀ x ∈ lt, x ∈ lt') : Cv K lt' w := (List.mem_append.mp h).elim (fun z => List.mem_append_left _ z) fun z => List.mem_append_right _ (k w z)
abbrev wkS (n : Nat) (st : D) (l : List (NestedKey × D)) (ly : D) (num : D) (lt : List (List Int)) (x6 x7 x8 x9 : Option Sv) : Ro := [some (.v (.int (n : Int))), some (.v st), some (.mn l), some (.v ly), some (.v num), some (.ml (lt.map tuD)), x6, x7, x8, x9]
theorem walk_b1 {n f k : Nat} {u : List Int} {K : List (List Int)} {l : List (NestedKey × D)} {lt : List (List Int)} {st ly num : D} {x9 : Option Sv} {m : Mo} (hn : n ≤ 5) (hu : Per n u) (h1 : f ≤ k) (h2 : k < n) (h : WS n K l lt) :
    ∃ l' lt' y9, den__law_walked_b1 (wkS n st l ly num lt (some (.v (tuD u))) (some (.v (.int (f : Int)))) (some (.v (.int (k : Int)))) x9) m = .nx (wkS n st l' ly num lt' (some (.v (tuD u))) (some (.v (.int (f : Int)))) (some (.v (.int (k : Int)))) y9) m ∧ WS n K l' lt' ∧ (∀ x ∈ lt, x ∈ lt') ∧ Cv K lt' (turnL u f k) := by
  have lu := hu.len
  have ht : Per n (turnL u f k) := hu.turn h1
  have ln := h.len hn
  have iv := fun (nn : Bool) => ev_inVN (n := nn) (l := l) (tu_key (turnL u f k))
  cases e : kvGet l (kW (turnL u f k)) with
  | none =>
    refine ⟨_, lt ++ [turnL u f k], some (.v (tuD (turnL u f k))), ?_, h.add (d := num) ht e, fun x hx => List.mem_append_left _ hx, List.mem_append_right _ (by simp)⟩
    unfold den__law_walked_b1
    exists [fun m => lturn_ok (w := u) (f := f) (l := k) (m := m) (by omega), iv, e, Option.isSome_none, Bool.xor_false, Bool.true_xor, tu_key, if_pos (show l.length ≤ 100000 by omega), List.length_map, if_pos (show lt.length ≤ 10000 by omega)]
    rw [show lt.map tuD ++ [tuD (turnL u f k)] = (lt ++ [turnL u f k]).map tuD by rw [List.map_append]; rfl]
  | some v =>
    refine ⟨l, lt, some (.v (tuD (turnL u f k))), ?_, h, fun x hx => hx, ?_⟩
    · unfold den__law_walked_b1
      exists [fun m => lturn_ok (w := u) (f := f) (l := k) (m := m) (by omega), iv, e, Option.isSome_some, Bool.xor_true, Bool.true_xor]
    · refine Classical.byContradiction fun q => ?_
      rw [h.get.mpr q] at e
      cases e
theorem walk_b2 {n f : Nat} {u : List Int} {K : List (List Int)} {l : List (NestedKey × D)} {lt : List (List Int)} {st ly num : D} {x8 x9 : Option Sv} {m : Mo} (hn : n ≤ 5) (hu : Per n u) (hf : f < n) (h : WS n K l lt) :
    ∃ l' lt' y8 y9, den__law_walked_b2 (wkS n st l ly num lt (some (.v (tuD u))) (some (.v (.int (f : Int)))) x8 x9) m = .nx (wkS n st l' ly num lt' (some (.v (tuD u))) (some (.v (.int (f : Int)))) y8 y9) m ∧ WS n K l' lt' ∧ (∀ x ∈ lt, x ∈ lt') ∧ ∀ k, f ≤ k → k < n → Cv K lt' (turnL u f k) := by
  unfold den__law_walked_b2
  and_intros
  rw [if_pos (show -1000000 ≤ (n : Int) ∧ (n : Int) ≤ 1000000 ∧ -1000000 ≤ (f : Int) ∧ (f : Int) ≤ 1000000 by omega)]
  and_intros
  generalize hfor : forD _ _ _ _ _ = q
  obtain ⟨ρ', m', rfl, hI⟩ := forD_gen hfor (fun i ρ m' => m' = m ∧ ∃ l' lt' y8 y9, ρ = wkS n st l' ly num lt' (some (.v (tuD u))) (some (.v (.int (f : Int)))) y8 y9 ∧ WS n K l' lt' ∧ (∀ x ∈ lt, x ∈ lt') ∧ ∀ k, f ≤ k → k < f + i → Cv K lt' (turnL u f k)) ⟨rfl, l, lt, x8, x9, rfl, h, fun x hx => hx, fun k a b => absurd b (by omega)⟩ (by
    rintro i z ρ m3 hd ⟨rfl, l1, lt1, y8, y9, rfl, hW, hs, hc⟩
    have hi : i < n - f := by
      have z := (List.getElem?_eq_some_iff.mp hd).1
      rw [rangeD_len] at z
      omega
    rw [rangeD_get hd, show (f : Int) + (i : Int) = ((f + i : Nat) : Int) from rfl]
    obtain ⟨l2, lt2, z9, e, hW2, hs2, hc2⟩ := walk_b1 (f := f) (st := st) (ly := ly) (num := num) (x9 := y9) (m := m3) (k := f + i) hn hu (by omega) (by omega) hW
    refine ⟨_, _, m3, rfl, .inl e, rfl, l2, lt2, _, z9, rfl, hW2, fun x hx => hs2 x (hs x hx), fun k a b => ?_⟩
    by_cases q : k = f + i
    · rw [q]
      exact hc2
    · exact (hc k a (by omega)).mono hs2)
  obtain ⟨rfl, l', lt', y8, y9, rfl, hW, hs, hc⟩ := hI
  rw [rangeD_len] at hc
  exact ⟨l', lt', y8, y9, rfl, hW, hs, fun k a b => hc k a (by omega)⟩
theorem walk_b3 {n : Nat} {u : List Int} {K : List (List Int)} {l : List (NestedKey × D)} {lt : List (List Int)} {st ly num : D} {x7 x8 x9 : Option Sv} {m : Mo} (hn : n ≤ 5) (hu : Per n u) (h : WS n K l lt) :
    ∃ l' lt' y7 y8 y9, den__law_walked_b3 (wkS n st l ly num lt (some (.v (tuD u))) x7 x8 x9) m = .nx (wkS n st l' ly num lt' (some (.v (tuD u))) y7 y8 y9) m ∧ WS n K l' lt' ∧ (∀ x ∈ lt, x ∈ lt') ∧ ∀ f k, f ≤ k → k < n → Cv K lt' (turnL u f k) := by
  unfold den__law_walked_b3
  and_intros
  rw [if_pos (show -1000000 ≤ (n : Int) ∧ (n : Int) ≤ 1000000 by omega)]
  and_intros
  generalize hfor : forD _ _ _ _ _ = q
  obtain ⟨ρ', m', rfl, hI⟩ := forD_gen hfor (fun i ρ m' => m' = m ∧ ∃ l' lt' y7 y8 y9, ρ = wkS n st l' ly num lt' (some (.v (tuD u))) y7 y8 y9 ∧ WS n K l' lt' ∧ (∀ x ∈ lt, x ∈ lt') ∧ ∀ f k, f < i → f ≤ k → k < n → Cv K lt' (turnL u f k)) ⟨rfl, l, lt, x7, x8, x9, rfl, h, fun x hx => hx, fun f k a => absurd a (by omega)⟩ (by
    rintro i z ρ m3 hd ⟨rfl, l1, lt1, y7, y8, y9, rfl, hW, hs, hc⟩
    have hi : i < n := by
      have z := (List.getElem?_eq_some_iff.mp hd).1
      rw [rangeD_len] at z
      omega
    rw [rangeD_get hd, Int.zero_add]
    obtain ⟨l2, lt2, z8, z9, e, hW2, hs2, hc2⟩ := walk_b2 (st := st) (ly := ly) (num := num) (x8 := y8) (x9 := y9) (m := m3) (f := i) hn hu hi hW
    refine ⟨_, _, m3, rfl, .inl e, rfl, l2, lt2, _, z8, z9, rfl, hW2, fun x hx => hs2 x (hs x hx), fun f k a b c => ?_⟩
    by_cases q : f = i
    · subst q
      exact hc2 k b c
    · exact (hc f k (by omega) b c).mono hs2)
  obtain ⟨rfl, l', lt', y7, y8, y9, rfl, hW, hs, hc⟩ := hI
  rw [rangeD_len] at hc
  exact ⟨l', lt', y7, y8, y9, rfl, hW, hs, fun f k a b => hc f k (by omega) a b⟩
/-- behind a layer: the rows of the dict but those of the layer have all their turns there -/
structure Ly (n : Nat) (K : List (List Int)) (l : List (NestedKey × D)) (ws : List (List Int)) : Prop where
  W : WS n K l []
  start : idW n ∈ K
  sub : ∀ w ∈ ws, w ∈ K
  shut : ∀ u ∈ K, u ∈ ws ∨ ∀ f k, f ≤ k → k < n → turnL u f k ∈ K
theorem walk_b4 {n : Nat} {d : Int} {K : List (List Int)} {l : List (NestedKey × D)} {ws : List (List Int)} {st : D} {x5 x6 x7 x8 x9 : Option Sv} {m : Mo} (hn : n ≤ 5) (h : Ly n K l ws) :
    ∃ l' ws' y5 y6 y7 y8 y9, den__law_walked_b4 [some (.v (.int (n : Int))), some (.v st), some (.mn l), some (.v (.lst (ws.map tuD))), some (.v (.int d)), x5, x6, x7, x8, x9] m = .nx [some (.v (.int (n : Int))), some (.v st), some (.mn l'), some (.v (.lst (ws'.map tuD))), some (.v (.int (d + 1))), y5, y6, y7, y8, y9] m ∧ Ly n (K ++ ws') l' ws' := by
  unfold den__law_walked_b4
  and_intros
  generalize hfor : forD _ _ _ _ _ = q
  obtain ⟨ρ', m', rfl, hI⟩ := forD_gen hfor (fun i ρ m' => m' = m ∧ ∃ l' lt' y6 y7 y8 y9, ρ = wkS n st l' (.lst (ws.map tuD)) (.int (d + 1)) lt' y6 y7 y8 y9 ∧ WS n K l' lt' ∧ ∀ (j : Nat) (u : List Int), j < i → ws[j]? = some u → ∀ f k, f ≤ k → k < n → Cv K lt' (turnL u f k)) ⟨rfl, l, [], x6, x7, x8, x9, rfl, h.W, fun j u a => absurd a (by omega)⟩ (by
    rintro i z ρ m3 hd ⟨rfl, l1, lt1, y6, y7, y8, y9, rfl, hW, hc⟩
    rw [List.getElem?_map] at hd
    obtain ⟨u, hu, rfl⟩ := Option.map_eq_some_iff.mp hd
    have hp : Per n u := h.W.per u (List.mem_append_left _ (h.sub u (List.mem_of_getElem? hu)))
    obtain ⟨l2, lt2, z7, z8, z9, e, hW2, hs2, hc2⟩ := walk_b3 (st := st) (ly := .lst (ws.map tuD)) (num := .int (d + 1)) (x7 := y7) (x8 := y8) (x9 := y9) (m := m3) hn hp hW
    refine ⟨_, _, m3, rfl, .inl e, rfl, l2, lt2, _, z7, z8, z9, rfl, hW2, fun j v a b f k c e' => ?_⟩
    by_cases q : j = i
    · subst q
      rw [hu] at b
      cases b
      exact hc2 f k c e'
    · exact (hc j v (by omega) b f k c e').mono hs2)
  obtain ⟨rfl, l', lt', y6, y7, y8, y9, rfl, hW, hc⟩ := hI
  rw [List.length_map] at hc
  refine ⟨l', lt', _, _, _, _, _, rfl, ⟨by rw [List.append_nil]; exact hW.keys, by rw [List.append_nil]; exact hW.per, by rw [List.append_nil]; exact hW.nd⟩, List.mem_append_left _ h.start, fun w hw => List.mem_append_right _ hw, fun u hu => ?_⟩
  rcases List.mem_append.mp hu with q | q
  · right
    intro f k a b
    rcases h.shut u q with z | z
    · obtain ⟨j, hj, e⟩ := List.mem_iff_getElem.mp z
      exact hc j u hj (by rw [List.getElem?_eq_getElem hj, e]) f k a b
    · exact List.mem_append_left _ (z f k a b)
  · exact .inl q
/-- the whole walk: a set of rows, shut under turns, with the row onward -/
structure Wkd (n : Nat) (K : List (List Int)) (l : List (NestedKey × D)) : Prop where
  W : WS n K l []
  start : idW n ∈ K
  shut : ∀ u ∈ K, ∀ f k, f ≤ k → k < n → turnL u f k ∈ K
theorem walked_ok {n : Nat} {m : Mo} (hn : n ≤ 5) : ∃ l K, F__law_walked [.int (n : Int)] m = .ok (.dcn l) m ∧ Wkd n K l := by
  have hid : Per n (idW n) := Per.id n
  have ly0 : Ly n [idW n] [(kW (idW n), .int 0)] [idW n] := ⟨⟨rfl, fun w hw => by
      rw [List.append_nil, List.mem_singleton] at hw
      rw [hw]
      exact hid, by simp⟩, List.mem_singleton.mpr rfl, fun w hw => hw, fun u hu => .inl hu⟩
  have wl : ∃ ρ' m', whileD (dTest (dOp neD (dVar 3) (dLst dNil))) den__law_walked_b4 8000 [some (.v (.int (n : Int))), some (.v (tuD (idW n))), some (.mn [(kW (idW n), .int 0)]), some (.v (.lst ([idW n].map tuD))), some (.v (.int 0)), none, none, none, none, none] m = .nx ρ' m' ∧ (m' = m ∧ ∃ l K y3 y4 y5 y6 y7 y8 y9, ρ' = [some (.v (.int (n : Int))), some (.v (tuD (idW n))), some (.mn l), y3, y4, y5, y6, y7, y8, y9] ∧ Wkd n K l) := by
    refine while_gen (fun i ρ m' => m' = m ∧ ∃ d K l ws y5 y6 y7 y8 y9, ρ = [some (.v (.int (n : Int))), some (.v (tuD (idW n))), some (.mn l), some (.v (.lst (ws.map tuD))), some (.v (.int d)), y5, y6, y7, y8, y9] ∧ Ly n K l ws ∧ 2 * (3841 - K.length) + (if ws = [] then 0 else 1) ≤ i) (fun ρ m' => m' = m ∧ ∃ l K y3 y4 y5 y6 y7 y8 y9, ρ = [some (.v (.int (n : Int))), some (.v (tuD (idW n))), some (.mn l), y3, y4, y5, y6, y7, y8, y9] ∧ Wkd n K l) ?_ 7999 8000 _ _ (by decide) ⟨rfl, 0, [idW n], _, [idW n], none, none, none, none, none, rfl, ly0, by simp⟩
    rintro i ρ m' ⟨rfl, d, K, l, ws, y5, y6, y7, y8, y9, rfl, hL, hd⟩
    cases ws with
    | nil =>
      left
      refine ⟨?_, rfl, l, K, _, _, _, _, _, _, _, rfl, hL.W, hL.start, fun u hu => (hL.shut u hu).resolve_left List.not_mem_nil⟩
      have e := ne_nil_tu (ws := [])
      rw [List.map_nil] at e
      exists [e, List.isEmpty_nil]
    | cons u r =>
      right
      obtain ⟨l', ws', z5, z6, z7, z8, z9, e, hL'⟩ := walk_b4 (d := d) (st := tuD (idW n)) (x5 := y5) (x6 := y6) (x7 := y7) (x8 := y8) (x9 := y9) (m := m') hn hL
      have c0 := (hL.W.len hn).2.2
      have c1 := (hL'.W.len hn).2.2
      rw [if_neg (by simp)] at hd
      simp only [List.length_nil, List.length_append] at c0 c1
      refine ⟨_, m', ?_, .inl e, i - 1, by omega, rfl, d + 1, _, l', ws', _, _, _, _, _, rfl, hL', ?_⟩
      · have e := ne_nil_tu (ws := u :: r)
        rw [List.map_cons] at e
        exists [e, List.isEmpty_cons]
      · rw [List.length_append]
        by_cases q : ws' = []
        · rw [if_pos q, q]
          simp only [List.length_nil]
          omega
        · rw [if_neg q]
          have : 0 < ws'.length := List.length_pos_iff.mpr q
          omega
  obtain ⟨ρ', m', ew, rfl, l, K, y3, y4, y5, y6, y7, y8, y9, rfl, hW⟩ := wl
  refine ⟨l, K, ?_, hW⟩
  have ed : ∀ ρ m, (hρ : ρ = [some (Sv.v (.int (n : Int))), some (.v (tuD (idW n))), none, none, none, none, none, none, none, none]) → dvDisp1N (dVar 1) (dC (.int 0)) ρ m = .ok (.mn [(kW (idW n), .int 0)]) m := by
    rintro ρ m rfl
    show (match (tuD (idW n)).nkey with
      | some k => R.ok (Sv.mn [(k, D.int 0)]) m
      | none => .bad) = _
    rw [tu_key]
  unfold F__law_walked den__law_walked
  exists [if_pos (show rgOk 1 ((n : Int) + 1) = true from rgOk_small (a := 1) (b := n + 1) (by omega) (by omega)), rgD_one]
  rw [show (some (Sv.v (D.tup (((List.range n).map fun (i : Nat) => (1 + (i : Int))).map D.int)))) = some (Sv.v (tuD (idW n))) from rfl, ed _ _ rfl]
  and_intros
  rw [show (some (Sv.v (D.lst [D.tup (List.map D.int (List.map (fun (i : Nat) => 1 + (i : Int)) (List.range n)))]))) = some (Sv.v (.lst ([idW n].map tuD))) from rfl, ew]
  and_intros
/-! every row is reached from the row onward -/
theorem Per.hit {n k : Nat} {w : List Int} (h : Per n w) (h1 : 1 ≤ k) (h2 : k ≤ n) : ∃ (i : Nat) (y : Int), w[i]? = some y ∧ y.natAbs = k := by
  have z : k ∈ w.map Int.natAbs := h.symm.subset (List.mem_range'_1.mpr ⟨h1, by omega⟩)
  obtain ⟨y, hy, e⟩ := List.mem_map.mp z
  obtain ⟨i, hi⟩ := List.getElem?_of_mem hy
  exact ⟨i, y, hi, e⟩
theorem fix_in {n : Nat} {K : List (List Int)} (hs : idW n ∈ K) (hk : ∀ u ∈ K, ∀ f k, f ≤ k → k < n → turnL u f k ∈ K) : ∀ (j : Nat), j ≤ n → ∀ u, Per n u → (∀ i, i < n - j → u.getD i 0 = ((i + 1 : Nat) : Int)) → u ∈ K
  | 0, _, u, hu, h => by
    have lu := hu.len
    have e : u = idW n := by
      refine List.ext_getElem (by rw [lu]; simp [idW]) fun i h1 h2 => ?_
      have := h i (by omega)
      rw [List.getD_eq_getElem?_getD, List.getElem?_eq_getElem h1] at this
      have this : u[i] = ((i + 1 : Nat) : Int) := this
      rw [this]
      simp only [idW, List.getElem_map, List.getElem_range]
      omega
    rw [e]
    exact hs
  | j + 1, hj, u, hu, h => by
    have lu := hu.len
    have back : ∀ {v : List Int} {f k : Nat}, Per n v → f ≤ k → k < n → turnL v f k ∈ K → v ∈ K := fun {v f k} hv c d hm => by
      have := hk _ hm f k c d
      rw [turn_turn hv c d] at this
      exact this
    obtain ⟨i, hi⟩ : ∃ i, i = n - (j + 1) := ⟨_, rfl⟩
    rw [← hi] at h
    obtain ⟨p, y, hp, hy⟩ := hu.hit (k := i + 1) (by omega) (by omega)
    obtain ⟨hpl, hpe⟩ := List.getElem?_eq_some_iff.mp hp
    have gp : u.getD p 0 = y := by
      rw [List.getD_eq_getElem?_getD, hp]
      rfl
    have hip : i ≤ p := Nat.le_of_not_lt fun z => by
      have := h p z
      rw [gp] at this
      omega
    have hu1 := hu.turn (f := i) (l := p) hip
    have l1 := hu1.len
    have a1 : ∀ q, q < n → (turnL u i p).getD q 0 = if i ≤ q ∧ q ≤ p then 0 - u.getD (i + p - q) 0 else u.getD q 0 := fun q hq => turn_at hip (by omega) (by omega)
    have b1 : (turnL u i p).getD i 0 = 0 - y := by
      rw [a1 i (by omega), if_pos ⟨Nat.le_refl _, hip⟩, show i + p - i = p by omega, gp]
    by_cases hn : y = -((i + 1 : Nat) : Int)
    · refine back hu hip (by omega) (fix_in hs hk j (by omega) _ hu1 fun q hq => ?_)
      by_cases qi : q = i
      · rw [qi, b1, hn]
        omega
      · rw [a1 q (by omega), if_neg (by omega)]
        exact h q (by omega)
    · have hy2 : y = ((i + 1 : Nat) : Int) := by omega
      have hu2 := hu1.turn (f := i) (l := i) (Nat.le_refl _)
      refine back hu hip (by omega) (back hu1 (Nat.le_refl _) (by omega) (fix_in hs hk j (by omega) _ hu2 fun q hq => ?_))
      rw [turn_at (Nat.le_refl _) (by omega) (by omega)]
      by_cases qi : q = i
      · subst qi
        rw [if_pos ⟨Nat.le_refl _, Nat.le_refl _⟩, show q + q - q = q by omega, b1, hy2]
        omega
      · rw [if_neg (by omega), a1 q (by omega), if_neg (by omega)]
        exact h q (by omega)
theorem walk_in {n : Nat} {K : List (List Int)} (hs : idW n ∈ K) (hk : ∀ u ∈ K, ∀ f k, f ≤ k → k < n → turnL u f k ∈ K) {w : List Int} (hw : Per n w) : w ∈ K :=
  fix_in hs hk n (Nat.le_refl _) w hw fun i hi => absurd hi (by omega)
def extX (n : Nat) (u : List Int) : List Int := ((List.range (2 * n + 1)).map fun (i : Nat) => (0 - (n : Int)) + (i : Int)).filter fun x => !(x == 0) && !decide (((x.natAbs : Nat) : Int) ∈ u.map fun y => ((y.natAbs : Nat) : Int))
def extK (n : Nat) (u : List Int) : List (List Int) := (extX n u).map fun x => u ++ [x]
def rowsK (n : Nat) : Nat → List (List Int)
  | 0 => [[]]
  | k + 1 => (rowsK n k).flatMap (extK n)
def rowsL (n : Nat) : List (List Int) := rowsK n n
def lexB : List Int → List Int → Bool
  | [], [] => false
  | [], _ :: _ => true
  | _ :: _, [] => false
  | x :: a, y :: b => if x = y then lexB a b else decide (x < y)
def chainB : List (List Int) → Bool
  | [] => true
  | [_] => true
  | a :: b :: r => lexB a b && chainB (b :: r)
def rowB (n : Nat) (w : List Int) : Bool := (w.map Int.natAbs).isPerm (List.range' 1 n)
def smallB (n k : Nat) : Bool := decide ((rowsK n k).length ≤ 4000) && (rowsK n k).all fun u => decide (u.length = k)
def factB (n : Nat) : Bool := (rowsL n).all (rowB n) && chainB (rowsL n) && decide ((rowsL n).length = (allR n (List.range' 1 n)).length) && (List.range n).all (smallB n)
theorem fact_n : ∀ n, n ≤ 5 → factB n = true
  | 0, _ => by decide +kernel
  | 1, _ => by decide +kernel
  | 2, _ => by decide +kernel
  | 3, _ => by decide +kernel
  | 4, _ => by decide +kernel
  | 5, _ => by decide +kernel
  | n + 6, h => absurd h (by omega)
theorem extX_len {n : Nat} {u : List Int} : (extX n u).length ≤ 2 * n + 1 := by
  unfold extX
  refine Nat.le_trans (List.length_filter_le _ _) ?_
  rw [List.length_map, List.length_range]
  exact Nat.le_refl _
theorem so_b1 {n : Nat} {u : List Int} {lo : List D} {x1 x2 x5 x6 x7 : Option Sv} {m : Mo} (hn : n ≤ 5) (hu : u.length ≤ 5) (hl : lo.length ≤ 100000) : ∃ y5 y6, den_rows_so_b1 [some (.v (.int (n : Int))), x1, x2, some (.ml lo), some (.v (tuD u)), x5, x6, x7] m = .nx [some (.v (.int (n : Int))), x1, x2, some (.ml (lo ++ (extK n u).map tuD)), some (.v (tuD u)), y5, y6, x7] m := by
  refine ⟨some (.v (.lst ((u.map fun y => ((y.natAbs : Nat) : Int)).map .int))), some (.v (.lst ((extX n u).map .int))), ?_⟩
  have c1 : lcD (hName 7) (fun _ m => .ok true m) (dCB absD (dCons (dVar 7) dNil)) (u.map .int) [some (.v (.int (n : Int))), x1, x2, some (.ml lo), some (.v (tuD u)), x5, x6, none] m = .ok ((u.map fun y => ((y.natAbs : Nat) : Int)).map .int) m := by
    have e : ((u.map fun y => ((y.natAbs : Nat) : Int)).map D.int) = u.map fun y => D.int ((y.natAbs : Nat) : Int) := by rw [List.map_map]; rfl
    rw [e]
    refine lcD_all D.int (fun y => D.int ((y.natAbs : Nat) : Int)) u fun x hx => ⟨[some (.v (.int (n : Int))), x1, x2, some (.ml lo), some (.v (tuD u)), x5, x6, some (.v (.int x))], rfl, rfl, ?_⟩
    and_intros
    rw [abs_nat]
  have c2 : lcD (hName 7) (dAnd (dTest (dOp neD (dVar 7) (dC (.int 0)))) (dTest (dOp (inV true) (dCB absD (dCons (dVar 7) dNil)) (dVar 5)))) (dVar 7) (rangeD (0 - (n : Int)) (2 * n + 1)) [some (.v (.int (n : Int))), x1, x2, some (.ml lo), some (.v (tuD u)), some (.v (.lst ((u.map fun y => ((y.natAbs : Nat) : Int)).map .int))), x6, none] m = .ok ((extX n u).map .int) m := by
    rw [rangeD_map]
    have e : ((List.range (2 * n + 1)).map fun (i : Nat) => D.int (0 - (n : Int) + i)) = ((List.range (2 * n + 1)).map fun (i : Nat) => (0 - (n : Int)) + (i : Int)).map D.int := by rw [List.map_map]; rfl
    rw [e]
    unfold extX
    refine lcD_gen D.int (fun x => !(x == 0) && !decide (((x.natAbs : Nat) : Int) ∈ u.map fun y => ((y.natAbs : Nat) : Int))) D.int ((List.range (2 * n + 1)).map fun (i : Nat) => (0 - (n : Int)) + (i : Int)) fun x hx => ⟨[some (.v (.int (n : Int))), x1, x2, some (.ml lo), some (.v (tuD u)), some (.v (.lst ((u.map fun y => ((y.natAbs : Nat) : Int)).map .int))), x6, some (.v (.int x))], rfl, ?_, fun _ => rfl⟩
    have iv : inD true (.int ((x.natAbs : Nat) : Int)) (.lst ((u.map fun y => ((y.natAbs : Nat) : Int)).map .int)) = some (.bl (!decide (((x.natAbs : Nat) : Int) ∈ u.map fun y => ((y.natAbs : Nat) : Int)))) := by
      have z := in_ints (ks := u.map fun y => ((y.natAbs : Nat) : Int)) (a := ((x.natAbs : Nat) : Int))
      have z2 : (if (D.int ((x.natAbs : Nat) : Int)).plain 60 = true ∧ D.plains 60 ((u.map fun y => ((y.natAbs : Nat) : Int)).map .int) = true then some (D.bl (false ^^ ((u.map fun y => ((y.natAbs : Nat) : Int)).map D.int).any fun z => PyData.eqv z.py (D.int ((x.natAbs : Nat) : Int)).py)) else none) = _ := z
      show (if (D.int ((x.natAbs : Nat) : Int)).plain 60 = true ∧ D.plains 60 ((u.map fun y => ((y.natAbs : Nat) : Int)).map .int) = true then some (D.bl (true ^^ ((u.map fun y => ((y.natAbs : Nat) : Int)).map D.int).any fun z => PyData.eqv z.py (D.int ((x.natAbs : Nat) : Int)).py)) else none) = _
      rw [if_pos ⟨by simp [D.plain], plain_ints 60 _⟩] at z2 ⊢
      rw [Bool.false_xor] at z2
      rw [Bool.true_xor]
      exact congrArg (fun b => some (D.bl (!b))) (D.bl.inj (Option.some.inj z2))
    cases h0 : (x == 0) with
    | true =>
      and_intros
      rw [h0]
      rfl
    | false =>
      and_intros
      rw [h0]
      and_intros
      rw [abs_nat]
      and_intros
      rw [iv]
      rfl
  have c3 : lcD (hName 7) (fun _ m => .ok true m) (dOp addD (dVar 4) (dTup (dCons (dVar 7) dNil))) ((extX n u).map .int) [some (.v (.int (n : Int))), x1, x2, some (.ml lo), some (.v (tuD u)), some (.v (.lst ((u.map fun y => ((y.natAbs : Nat) : Int)).map .int))), some (.v (.lst ((extX n u).map .int))), none] m = .ok ((extK n u).map tuD) m := by
    unfold extK
    have e : (((extX n u).map fun x => u ++ [x]).map tuD) = (extX n u).map fun x => tuD (u ++ [x]) := by rw [List.map_map]; rfl
    rw [e]
    refine lcD_all D.int (fun x => tuD (u ++ [x])) (extX n u) fun x hx => ⟨[some (.v (.int (n : Int))), x1, x2, some (.ml lo), some (.v (tuD u)), some (.v (.lst ((u.map fun y => ((y.natAbs : Nat) : Int)).map .int))), some (.v (.lst ((extX n u).map .int))), some (.v (.int x))], rfl, rfl, ?_⟩
    have ad : addD (.tup (u.map .int)) (.tup [.int x]) = some (tuD (u ++ [x])) := by
      show _ = some (D.tup ((u ++ [x]).map .int))
      rw [List.map_append]
      exact ev_addT (by rw [List.length_map]; simp only [List.length_cons, List.length_nil]; omega)
    exists [ad]
  have el := extX_len (n := n) (u := u)
  unfold den_rows_so_b1
  rw [seq_nx (ρ' := [some (.v (.int (n : Int))), x1, x2, some (.ml lo), some (.v (tuD u)), some (.v (.lst ((u.map fun y => ((y.natAbs : Nat) : Int)).map .int))), x6, x7]) (m' := m) (by exists [List.length_map, if_pos (show u.length ≤ 100000 by omega), c1])]
  rw [seq_nx (ρ' := [some (.v (.int (n : Int))), x1, x2, some (.ml lo), some (.v (tuD u)), some (.v (.lst ((u.map fun y => ((y.natAbs : Nat) : Int)).map .int))), some (.v (.lst ((extX n u).map .int))), x7]) (m' := m) (by
    exists [if_pos (show -1000000 ≤ (n : Int) + 1 ∧ (n : Int) + 1 ≤ 1000000 ∧ -1000000 ≤ 0 - (n : Int) ∧ 0 - (n : Int) ≤ 1000000 by omega), show ((n : Int) + 1 - (0 - (n : Int))).toNat = 2 * n + 1 by omega, if_pos (show 2 * n ≤ 99999 by omega), if_pos (show 2 * n + 1 ≤ 100000 by omega), c2])]
  have l3 : ((extK n u).map tuD).length ≤ 100000 := by
    unfold extK
    rw [List.length_map, List.length_map]
    omega
  rw [ev_ext]
  exists [List.length_map, if_pos (show (extX n u).length ≤ 100000 by omega), c3]
  rw [List.length_map] at l3
  rw [if_pos ⟨hl, l3⟩]
theorem so_for {n : Nat} {x1 x2 x7 : Option Sv} {m : Mo} (hn : n ≤ 5) : ∀ (us : List (List Int)) (lo : List D) (x4 x5 x6 : Option Sv), (∀ u ∈ us, u.length ≤ 5) → lo.length + 11 * us.length ≤ 100000 →
    ∃ y4 y5 y6, forD (hName 4) den_rows_so_b1 (us.map tuD) [some (.v (.int (n : Int))), x1, x2, some (.ml lo), x4, x5, x6, x7] m = .nx [some (.v (.int (n : Int))), x1, x2, some (.ml (lo ++ (us.flatMap (extK n)).map tuD)), y4, y5, y6, x7] m
  | [], lo, x4, x5, x6, _, _ => ⟨x4, x5, x6, by rw [List.map_nil, forD_nil, List.flatMap_nil, List.map_nil, List.append_nil]⟩
  | u :: us, lo, x4, x5, x6, hu, hl => by
    rw [List.length_cons] at hl
    obtain ⟨y5, y6, e1⟩ := so_b1 (n := n) (u := u) (lo := lo) (x1 := x1) (x2 := x2) (x5 := x5) (x6 := x6) (x7 := x7) (m := m) hn (hu u List.mem_cons_self) (by omega)
    have el := extX_len (n := n) (u := u)
    obtain ⟨z4, z5, z6, e2⟩ := so_for hn us (lo ++ (extK n u).map tuD) (some (.v (tuD u))) y5 y6 (fun v hv => hu v (List.mem_cons_of_mem _ hv)) (by
      rw [List.length_append, List.length_map]
      unfold extK
      rw [List.length_map]
      omega)
    refine ⟨z4, z5, z6, ?_⟩
    rw [List.map_cons, forD_cons (ρ1 := [some (.v (.int (n : Int))), x1, x2, some (.ml lo), some (.v (tuD u)), x5, x6, x7]) rfl, e1]
    rw [List.flatMap_cons, List.map_append, ← List.append_assoc]
    exact e2
theorem rows_so_ok {n : Nat} {m : Mo} (hn : n ≤ 5) : F_rows_so [.int (n : Int)] m = .ok (.lst ((rowsL n).map tuD)) m := by
  have hf := fact_n n hn
  unfold factB at hf
  simp only [Bool.and_eq_true] at hf
  have hs := List.all_eq_true.mp hf.2
  unfold F_rows_so
  refine runD_rt ?_
  unfold den_rows_so
  rw [show ro0 8 [.int (n : Int)] = [some (.v (.int (n : Int))), none, none, none, none, none, none, none] from rfl]
  rw [seq_nx (ρ' := [some (.v (.int (n : Int))), some (.v (.lst ((rowsK n 0).map tuD))), none, none, none, none, none, none]) (m' := m) (by
    and_intros
    rfl)]
  have lp : ∃ x2 x3 x4 x5 x6, (sFor (dRng1 (dCons (dVar 0) dNil)) (hName 2) den_rows_so_b2) [some (.v (.int (n : Int))), some (.v (.lst ((rowsK n 0).map tuD))), none, none, none, none, none, none] m = .nx [some (.v (.int (n : Int))), some (.v (.lst ((rowsK n n).map tuD))), x2, x3, x4, x5, x6, none] m := by
    exists [if_pos (show -1000000 ≤ (n : Int) ∧ (n : Int) ≤ 1000000 by omega)]
    generalize hfor : forD _ _ _ _ _ = q
    obtain ⟨ρ', m', rfl, hI⟩ := forD_gen hfor (fun i ρ m' => m' = m ∧ ∃ x2 x3 x4 x5 x6, ρ = [some (.v (.int (n : Int))), some (.v (.lst ((rowsK n i).map tuD))), x2, x3, x4, x5, x6, none]) ⟨rfl, none, none, none, none, none, rfl⟩ (by
      rintro i d ρ m3 hd ⟨rfl, x2, x3, x4, x5, x6, rfl⟩
      have hi : i < n := by
        have z := (List.getElem?_eq_some_iff.mp hd).1
        rw [rangeD_len] at z
        exact z
      have h1 := hs i (List.mem_range.mpr hi)
      unfold smallB at h1
      rw [Bool.and_eq_true, decide_eq_true_iff, List.all_eq_true] at h1
      obtain ⟨y4, y5, y6, e⟩ := so_for (n := n) (x1 := some (.v (.lst ((rowsK n i).map tuD)))) (x2 := some (.v d)) (x7 := none) (m := m3) hn (rowsK n i) [] x4 x5 x6 (fun u hu => by have := of_decide_eq_true (h1.2 u hu); omega) (by simp only [List.length_nil]; omega)
      rw [List.nil_append] at e
      refine ⟨[some (.v (.int (n : Int))), some (.v (.lst ((rowsK n i).map tuD))), some (.v d), x3, x4, x5, x6, none], [some (.v (.int (n : Int))), some (.v (.lst ((rowsK n (i + 1)).map tuD))), some (.v d), some (.v (.lst (((rowsK n i).flatMap (extK n)).map tuD))), y4, y5, y6, none], m3, rfl, .inl ?_, rfl, _, _, _, _, _, rfl⟩
      unfold den_rows_so_b2
      rw [seq_nx (ρ' := [some (.v (.int (n : Int))), some (.v (.lst ((rowsK n i).map tuD))), some (.v d), some (.ml []), x4, x5, x6, none]) (m' := m3) (by and_intros)]
      rw [seq_nx (ρ' := [some (.v (.int (n : Int))), some (.v (.lst ((rowsK n i).map tuD))), some (.v d), some (.ml (((rowsK n i).flatMap (extK n)).map tuD)), y4, y5, y6, none]) (m' := m3) (by
        and_intros
        exact e)]
      and_intros
      rfl)
    obtain ⟨rfl, x2, x3, x4, x5, x6, rfl⟩ := hI
    rw [rangeD_len]
    exact ⟨x2, x3, x4, x5, x6, rfl⟩
  obtain ⟨x2, x3, x4, x5, x6, e⟩ := lp
  rw [seq_nx e]
  and_intros
  rfl

theorem row_per {n : Nat} {w : List Int} (h : rowB n w = true) : Per n w := List.isPerm_iff.mp h
theorem lex_irr : ∀ a : List Int, lexB a a = false
  | [] => rfl
  | x :: a => by
    unfold lexB
    rw [if_pos rfl]
    exact lex_irr a
theorem lex_trans : ∀ {a b c : List Int}, lexB a b = true → lexB b c = true → lexB a c = true
  | [], [], _, h, _ => by cases h
  | [], _ :: _, [], _, h => by cases h
  | [], _ :: _, _ :: _, _, _ => rfl
  | _ :: _, [], _, h, _ => by cases h
  | _ :: _, _ :: _, [], _, h => by cases h
  | x :: a, y :: b, z :: c, h1, h2 => by
    unfold lexB at h1 h2 ⊢
    by_cases e1 : x = y
    · subst e1
      rw [if_pos rfl] at h1
      by_cases e2 : x = z
      · subst e2
        rw [if_pos rfl] at h2 ⊢
        exact lex_trans h1 h2
      · rw [if_neg e2] at h2 ⊢
        exact h2
    · rw [if_neg e1] at h1
      by_cases e2 : y = z
      · subst e2
        rw [if_neg e1]
        exact h1
      · rw [if_neg e2] at h2
        have p1 := of_decide_eq_true h1
        have p2 := of_decide_eq_true h2
        rw [if_neg (by omega)]
        exact decide_eq_true (by omega)
theorem chain_pw : ∀ {l : List (List Int)}, chainB l = true → l.Pairwise fun a b => lexB a b = true
  | [], _ => .nil
  | [_], _ => List.pairwise_singleton _ _
  | a :: b :: r, h => by
    unfold chainB at h
    rw [Bool.and_eq_true] at h
    have ih := chain_pw h.2
    refine .cons (fun c hc => ?_) ih
    rcases List.mem_cons.mp hc with rfl | hc
    · exact h.1
    · exact lex_trans h.1 (List.rel_of_pairwise_cons ih hc)
structure AllRows (n : Nat) (ws : List (List Int)) : Prop where
  per : ∀ w ∈ ws, Per n w
  all : ∀ w, Per n w → w ∈ ws
  nd : ws.Nodup
theorem rowsL_pw {n : Nat} (hn : n ≤ 5) : (rowsL n).Pairwise fun a b => lexB a b = true := by
  have hf := fact_n n hn
  unfold factB at hf
  simp only [Bool.and_eq_true] at hf
  exact chain_pw hf.1.1.2
theorem rowsL_all {n : Nat} (hn : n ≤ 5) : AllRows n (rowsL n) := by
  have hf := fact_n n hn
  unfold factB at hf
  simp only [Bool.and_eq_true] at hf
  have hp : ∀ w ∈ rowsL n, Per n w := fun w hw => row_per (List.all_eq_true.mp hf.1.1.1 w hw)
  have nd : (rowsL n).Nodup := (rowsL_pw hn).imp fun {a b} h e => by
    rw [e, lex_irr] at h
    cases h
  refine ⟨hp, fun w hw => Classical.byContradiction fun no => ?_, nd⟩
  have z := sub_lenD (l := w :: rowsL n) (List.nodup_cons.mpr ⟨no, nd⟩) fun v hv => by
    rcases List.mem_cons.mp hv with rfl | hv
    · exact allR_per hw
    · exact allR_per (hp v hv)
  have l1 := of_decide_eq_true hf.1.2
  rw [List.length_cons] at z
  omega
theorem rowsL_len {n : Nat} (hn : n ≤ 5) : (rowsL n).length ≤ 3840 := per_count hn (rowsL_all hn).nd (rowsL_all hn).per
theorem all_perm {n : Nat} {a b : List (List Int)} (ha : AllRows n a) (hb : AllRows n b) : a.Perm b := (List.perm_ext_iff_of_nodup ha.nd hb.nd).mpr fun w => ⟨fun h => hb.all w (ha.per w h), fun h => ha.all w (hb.per w h)⟩
theorem walk_all {n : Nat} {K : List (List Int)} {l : List (NestedKey × D)} (hn : n ≤ 5) (h : Wkd n K l) : AllRows n K :=
  ⟨fun w hw => h.W.per w (List.mem_append_left _ hw), fun w hw => walk_in h.start h.shut hw, by
    have := h.W.nd
    rwa [List.append_nil] at this⟩
theorem alike_tu {a b : List Int} (h : a.length = b.length) : PySem.W.alike (.tuple (a.map PyData.int)) (.tuple (b.map PyData.int)) = true := by
  show PySem.W.alikeAll (a.map PyData.int) (b.map PyData.int) = true
  exact PySem.W.alike_ints a b
open PySem.W (dataLe dataLt) in
theorem dle {a b : D} : dataLe false D.py a b = !dataLt b.py a.py := by
  rw [PySem.W.dataLe_eq]
  rfl
theorem py_tu (a : List Int) : (tuD a).py = .tuple (a.map PyData.int) := by
  show PyData.tuple (D.pys (a.map .int)) = _
  rw [D.pys_map, List.map_map]
  rfl
theorem dlt_tu : ∀ {a b : List Int}, a.length = b.length → PySem.W.dataLt (.tuple (a.map PyData.int)) (.tuple (b.map PyData.int)) = lexB a b
  | [], [], _ => by decide
  | x :: a, y :: b, h => by
    have ih := dlt_tu (a := a) (b := b) (by simpa using h)
    rw [PySem.W.dataLt_tuple] at ih
    rw [PySem.W.dataLt_tuple, List.map_cons, List.map_cons, PySem.W.dataLt_cons rfl, ih]
    show _ = if x = y then lexB a b else decide (x < y)
    have ev : (PyData.int x).eqv (.int y) = decide (x = y) := by
      show (x == y) = _
      by_cases q : x = y
      · rw [decide_eq_true q, q]
        exact beq_self_eq_true y
      · rw [decide_eq_false q]
        exact beq_eq_false_iff_ne.mpr q
    rw [ev]
    by_cases q : x = y
    · rw [decide_eq_true q, if_pos rfl, if_pos q]
    · rw [decide_eq_false q, if_neg (by decide), if_neg q, PySem.W.dataLt_int]
  | [], _ :: _, h => by simp at h
  | _ :: _, [], h => by simp at h
theorem lex_anti : ∀ {a b : List Int}, a.length = b.length → lexB a b = false → lexB b a = false → a = b
  | [], [], _, _, _ => rfl
  | x :: a, y :: b, h, h1, h2 => by
    unfold lexB at h1 h2
    by_cases q : x = y
    · subst q
      rw [if_pos rfl] at h1 h2
      rw [lex_anti (by simpa using h) h1 h2]
    · rw [if_neg q] at h1
      rw [if_neg fun z => q z.symm] at h2
      have := of_decide_eq_false h1
      have := of_decide_eq_false h2
      omega
  | [], _ :: _, h, _, _ => by simp at h
  | _ :: _, [], h, _, _ => by simp at h
theorem srt_rows {n : Nat} {ws rs : List (List Int)} (hp : rs.Perm ws) (hl : ∀ w ∈ rs, w.length = n) (pw : rs.Pairwise fun a b => lexB a b = true) : (ws.map tuD).mergeSort (PySem.W.dataLe false D.py) = rs.map tuD := by
  have T : PySem.W.TotalLe (PySem.W.dataLe false D.py) := PySem.W.sortLe_total _ _ _
  have p1 := List.pairwise_mergeSort (le := PySem.W.dataLe false D.py) T.trans (fun a b => Bool.or_eq_true_iff.mpr (T.total a b)) (ws.map tuD)
  have le : ∀ u ∈ rs, ∀ v ∈ rs, PySem.W.dataLe false D.py (tuD u) (tuD v) = !lexB v u := fun u hu v hv => by
    rw [dle, py_tu, py_tu, dlt_tu (by rw [hl u hu, hl v hv])]
  have pp : ((ws.map tuD).mergeSort (PySem.W.dataLe false D.py)).Perm (rs.map tuD) := (List.mergeSort_perm _ _).trans (hp.symm.map tuD)
  have asy : ∀ a b, lexB a b = true → lexB b a = false := fun a b h => by
    cases e : lexB b a with
    | false => rfl
    | true =>
      have := lex_trans h e
      rw [lex_irr] at this
      cases this
  have p2 : (rs.map tuD).Pairwise (fun a b => PySem.W.dataLe false D.py a b = true) := by
    rw [List.pairwise_map]
    refine (List.Pairwise.imp_of_mem ?_ pw)
    intro a b ha hb h
    rw [le a ha b hb, asy a b h]
    rfl
  refine List.Perm.eq_of_pairwise (le := fun a b => PySem.W.dataLe false D.py a b = true) (fun a b ha hb h1 h2 => ?_) p1 p2 pp
  obtain ⟨u, hu, rfl⟩ := List.mem_map.mp (pp.subset ha)
  obtain ⟨v, hv, rfl⟩ := List.mem_map.mp hb
  rw [le u hu v hv] at h1
  rw [le v hv u hu] at h2
  exact congrArg tuD (lex_anti (by rw [hl u hu, hl v hv]) (by simpa using h2) (by simpa using h1))
theorem srtW_rows {n : Nat} {ws rs : List (List Int)} (hp : rs.Perm ws) (hl : ∀ w ∈ rs, w.length = n) (pw : rs.Pairwise fun a b => lexB a b = true) (h0 : n = 0 → rs = [[]]) : srtLW [.lst (ws.map tuD)] = some (.lst (rs.map tuD)) := by
  by_cases z : n = 0
  · have e := h0 z
    subst e
    have ew : ws = [[]] := List.perm_singleton.mp hp.symm
    subst ew
    rfl
  · have e : srtLD [.lst (ws.map tuD)] = some (.lst (rs.map tuD)) := by
      unfold srtLD
      have lw : ∀ w ∈ ws, w.length = n := fun w hw => hl w (hp.symm.subset hw)
      have so : srtOk (ws.map tuD) = true := by
        unfold srtOk
        rw [Bool.and_eq_true, Bool.and_eq_true, Bool.or_eq_true]
        refine ⟨⟨?_, List.all_eq_true.mpr fun x hx => List.all_eq_true.mpr fun y hy => ?_⟩, .inl (List.all_eq_true.mpr fun x hx => ?_)⟩
        · rw [D.plains_all, List.all_eq_true]
          intro x hx
          obtain ⟨w, _, rfl⟩ := List.mem_map.mp hx
          exact plain_ints 59 w
        · obtain ⟨u, hu, rfl⟩ := List.mem_map.mp hx
          obtain ⟨v, hv, rfl⟩ := List.mem_map.mp hy
          rw [py_tu, py_tu]
          have : ∀ (a b : List Int), a.length = b.length → PySem.W.alike (.tuple (a.map PyData.int)) (.tuple (b.map PyData.int)) = true := fun a b h => alike_tu h
          exact this u v (by rw [lw u hu, lw v hv])
        · obtain ⟨w, hw, rfl⟩ := List.mem_map.mp hx
          cases w with
          | nil =>
            have := lw [] hw
            simp at this
            omega
          | cons a r => rfl
      show (if srtOk (ws.map tuD) = true then some (D.lst ((ws.map tuD).mergeSort (PySem.W.dataLe false D.py))) else none) = _
      rw [if_pos so, srt_rows hp hl pw]
    have ne : ∀ l : List D, l ≠ [.tup []] → srtLW [.lst l] = srtLD [.lst l] := fun l hl => by
      unfold srtLW
      split
      · rename_i q
        injection q with q1
        injection q1 with q2
        exact absurd q2 hl
      · rfl
    rw [ne _ fun q => ?_]
    · exact e
    · cases ws with
      | nil => cases q
      | cons w r =>
        rw [List.map_cons] at q
        have := (List.cons.inj q).1
        have lw := hl w (hp.symm.subset List.mem_cons_self)
        cases w with
        | nil => simp at lw; omega
        | cons a b => cases this

theorem ne_same {l : List D} (h : (D.lst l).plain 60 = true) : neD (.lst l) (.lst l) = some (.bl false) := by
  show (if _ ∧ _ then some (D.bl (!PyData.eqv (D.lst l).py (D.lst l).py)) else none) = _
  rw [if_pos ⟨h, h⟩, SeqAt.eqv_refl _ (SeqAt.canLay_of_shaped (plain_shaped h (by omega)))]
  rfl
theorem plain_tus {ws : List (List Int)} : (D.lst (ws.map tuD)).plain 60 = true := by
  show D.plains 59 (ws.map tuD) = true
  rw [D.plains_all, List.all_eq_true]
  intro x hx
  obtain ⟨w, _, rfl⟩ := List.mem_map.mp hx
  exact plain_ints 58 w

theorem rep_fit {d : D} (h : fitD 60 d = true) (hm : mx d ≤ 10000000) : ∃ s, reprE [d] = some (.str s) := ⟨_, reprE_D (repr_fitD h hm)⟩
theorem kDs_rows : ∀ ws : List (List Int), kDs (ws.map kW) = ws.map tuD
  | [] => by simp [kDs]
  | w :: r => by
    have ih := kDs_rows r
    rw [List.map_cons, List.map_cons]
    unfold kDs
    rw [kW_D, ih]
/-! rows_of, and what is listed of it -/
theorem counted_in {n : Nat} {m : Mo} (hn : n ≤ 5) : F_need_counted [.int (n : Int)] m = .ok .non m := by
  unfold F_need_counted den_need_counted
  exists [among_i, decide_eq_true (show (0 : Int) ≤ (n : Int) ∧ (n : Int) ≤ 5 by omega)]
noncomputable abbrev yTurn : DY := yThen (yYield (dMake 0 F_Row___init__ (dCons (dVar 1) dNil))) yNil
theorem y_turn {n : Nat} {w : List Int} {a : D} {m : Mo} (hw : Per n w) (hn : n ≤ 24) : yTurn [some (.v a), some (.v (tuD w))] m = .nx [some (.v a), some (.v (tuD w))] m [(rw_ w, m)] := by
  have e : dMake 0 F_Row___init__ (dCons (dVar 1) dNil) [some (.v a), some (.v (tuD w))] m = .ok (rw_ w) m := by
    exists [fun m => init_ok (m := m) hw hn (.inl rfl)]
  unfold yTurn yThen yYield
  rw [e]
  rfl
theorem y_for {n : Nat} {a : D} {m : Mo} (hn : n ≤ 24) : ∀ (ws : List (List Int)) (x1 : Option Sv), (∀ w ∈ ws, Per n w) → ∃ y1, forY (hName 1) yTurn (ws.map tuD) [some (.v a), x1] m = .nx [some (.v a), y1] m (ws.map fun w => (rw_ w, m))
  | [], x1, _ => ⟨x1, rfl⟩
  | w :: r, x1, h => by
    obtain ⟨y1, e⟩ := y_for hn r (some (.v (tuD w))) fun v hv => h v (List.mem_cons_of_mem _ hv)
    refine ⟨y1, ?_⟩
    show (match yTurn [some (.v a), some (.v (tuD w))] m with
      | .nx ρ2 m2 l => (forY (hName 1) yTurn (r.map tuD) ρ2 m2).pre l
      | .ct ρ2 m2 l => (forY (hName 1) yTurn (r.map tuD) ρ2 m2).pre l
      | .bk ρ2 m2 l => .nx ρ2 m2 l
      | .rt m2 l => .rt m2 l
      | .bad => .bad) = _
    rw [y_turn (h w List.mem_cons_self) hn]
    dsimp only
    rw [e]
    rfl
theorem genY_ok {n : Nat} {m : Mo} (hn : n ≤ 5) : genD 2 y_rows_of [.int (n : Int)] m = some ((rowsL n).map fun w => (rw_ w, m), m) := by
  have e1 : yPlain (sExpr (dCall 1 F_need_counted (dCons (dVar 0) dNil))) [some (.v (.int (n : Int))), none] m = .nx [some (.v (.int (n : Int))), none] m [] := by
    unfold yPlain
    rw [show sExpr (dCall 1 F_need_counted (dCons (dVar 0) dNil)) [some (.v (.int (n : Int))), none] m = .nx [some (.v (.int (n : Int))), none] m by exists [fun m => counted_in (m := m) hn]]
  have e2 : dSeqU (dCall 1 F_rows_so (dCons (dVar 0) dNil)) [some (.v (.int (n : Int))), none] m = .ok ((rowsL n).map tuD) m := by
    exists [fun m => rows_so_ok (m := m) hn]
  obtain ⟨y1, e3⟩ := y_for (n := n) (a := .int (n : Int)) (m := m) (by omega) (rowsL n) none (rowsL_all hn).per
  have e4 : yFor (dSeqU (dCall 1 F_rows_so (dCons (dVar 0) dNil))) (hName 1) yTurn [some (.v (.int (n : Int))), none] m = .nx [some (.v (.int (n : Int))), y1] m ((rowsL n).map fun w => (rw_ w, m)) := by
    unfold yFor
    rw [e2]
    exact e3
  have e5 : y_rows_of [some (.v (.int (n : Int))), none] m = .nx [some (.v (.int (n : Int))), y1] m ((rowsL n).map fun w => (rw_ w, m)) := by
    unfold y_rows_of
    show (match yPlain (sExpr (dCall 1 F_need_counted (dCons (dVar 0) dNil))) [some (.v (.int (n : Int))), none] m with
      | .nx ρ1 m1 l => (yThen (yFor (dSeqU (dCall 1 F_rows_so (dCons (dVar 0) dNil))) (hName 1) yTurn) yNil ρ1 m1).pre l
      | r => r) = _
    rw [e1]
    show (match yFor (dSeqU (dCall 1 F_rows_so (dCons (dVar 0) dNil))) (hName 1) yTurn [some (.v (.int (n : Int))), none] m with
      | .nx ρ1 m1 l => (yNil ρ1 m1).pre l
      | r => r).pre [] = _
    rw [e4]
    show YR.nx _ m ([] ++ (((rowsL n).map fun w => (rw_ w, m)) ++ [])) = _
    rw [List.nil_append, List.append_nil]
  unfold genD
  rw [show ro0 2 [.int (n : Int)] = [some (.v (.int (n : Int))), none] from rfl, e5]
theorem lcY_all {h : D → Ro → Option Ro} {ft : DT} {fe : DE} {g f : List Int → D} {m : Mo} {ρ : Ro} : ∀ ws : List (List Int), (∀ w ∈ ws, ∃ ρ1, h (g w) ρ = some ρ1 ∧ ft ρ1 m = .ok true m ∧ fe ρ1 m = .ok (f w) m) → lcY h ft fe (ws.map fun w => (g w, m)) ρ = some (ws.map f)
  | [], _ => rfl
  | w :: r, hh => by
    have ih := lcY_all (h := h) (ft := ft) (fe := fe) (g := g) (f := f) (m := m) (ρ := ρ) r fun v hv => hh v (List.mem_cons_of_mem _ hv)
    obtain ⟨ρ1, a, b, c⟩ := hh w List.mem_cons_self
    rw [List.map_cons]
    unfold lcY
    rw [a]
    dsimp only
    rw [b]
    dsimp only
    rw [c]
    dsimp only
    rw [ih]
    rfl
theorem lcY_none {h : D → Ro → Option Ro} {ft : DT} {fe : DE} {g : List Int → D} {m : Mo} {ρ : Ro} : ∀ ws : List (List Int), (∀ w ∈ ws, ∃ ρ1, h (g w) ρ = some ρ1 ∧ ft ρ1 m = .ok false m) → lcY h ft fe (ws.map fun w => (g w, m)) ρ = some []
  | [], _ => rfl
  | w :: r, hh => by
    have ih := lcY_none (h := h) (ft := ft) (fe := fe) (g := g) (m := m) (ρ := ρ) r fun v hv => hh v (List.mem_cons_of_mem _ hv)
    obtain ⟨ρ1, a, b⟩ := hh w List.mem_cons_self
    rw [List.map_cons]
    unfold lcY
    rw [a]
    dsimp only
    rw [b]
    dsimp only
    exact ih
theorem lcG_of {np nN : Nat} {f : DY} {fa : DA} {h : D → Ro → Option Ro} {ft : DT} {fe : DE} {vs : List Nat} {ρ : Ro} {m m1 m2 : Mo} {ds xs : List D} {l : Its} (ha : fa ρ m = .ok ds m1) (hl : ds.length = np) (hg : genD nN f ds m1 = some (l, m2)) (h1 : l.length ≤ 100000) (h2 : lcY h ft fe l (wipeD ρ vs) = some xs) :
    dLcG np nN f fa h ft fe vs ρ m = .ok (.lst xs) m2 := by
  unfold dLcG
  rw [ha]
  show (if ds.length = np then match genD nN f ds m1 with
    | some (l, m2) => if l.length ≤ 100000 then match lcY h ft fe l (wipeD ρ vs) with
      | some xs => R.ok (D.lst xs) m2
      | none => .bad
      else .bad
    | none => .bad
    else .bad) = _
  rw [if_pos hl, hg]
  dsimp only
  rw [if_pos h1, h2]
/-- the rows, as tuples -/
theorem told_all {n : Nat} {fa : DA} {x2 x3 x4 x5 x6 : Option Sv} {m : Mo} (hn : n ≤ 5) (ha : fa [none, some (.v .drw), x2, x3, x4, x5, x6] m = .ok [.int (n : Int)] m) :
    dLcG 1 2 y_rows_of fa (hName 5) (fun _ m => .ok true m) (dFld 0 (dVar 5)) [5] [none, some (.v .drw), x2, x3, x4, x5, x6] m = .ok (.lst ((rowsL n).map tuD)) m := by
  refine lcG_of ha rfl (genY_ok hn) (by rw [List.length_map]; have := rowsL_len hn; omega) (lcY_all _ fun w hw => ⟨[none, some (.v .drw), x2, x3, x4, some (.v (rw_ w)), x6], rfl, rfl, rfl⟩)
theorem len_of {w : List Int} {n : Nat} {x3 x4 x6 : Option Sv} {m : Mo} (hw : Per n w) (hn : n ≤ 24) : dTest (dOp neD (dLenOwn 0 F_Row___len__ (dCons (dVar 5) dNil)) (dVar 2)) [none, some (.v .drw), some (.v (.int (n : Int))), x3, x4, some (.v (rw_ w)), x6] m = .ok false m := by
  have lw := hw.len
  exists [fun m => len_row (w := w) (m := m), lw, beq_self_eq_true]
  rw [if_pos (by omega)]
  exists [beq_self_eq_true]
theorem told_odd {n : Nat} {x3 x4 x5 x6 : Option Sv} {m : Mo} (hn : n ≤ 5) :
    dLcG 1 2 y_rows_of (dCons (dVar 2) dNil) (hName 5) (dTest (dOp neD (dLenOwn 0 F_Row___len__ (dCons (dVar 5) dNil)) (dVar 2))) (dVar 5) [5] [none, some (.v .drw), some (.v (.int (n : Int))), x3, x4, x5, x6] m = .ok (.lst []) m := by
  refine lcG_of (ds := [.int (n : Int)]) (m1 := m) rfl rfl (genY_ok hn) (by rw [List.length_map]; have := rowsL_len hn; omega) (lcY_none _ fun w hw => ⟨[none, some (.v .drw), some (.v (.int (n : Int))), x3, x4, some (.v (rw_ w)), x6], rfl, len_of ((rowsL_all hn).per w hw) (by omega)⟩)
theorem ix_len : ∀ n, n ≤ 5 → ixD (.lst [.int 1, .int 2, .int 8, .int 48, .int 384, .int 3840]) (.int ((n : Nat) : Int)) = some (.int (((rowsL n).length : Nat) : Int))
  | 0, _ => by rw [show (rowsL 0).length = 1 by decide +kernel]; rfl
  | 1, _ => by rw [show (rowsL 1).length = 2 by decide +kernel]; rfl
  | 2, _ => by rw [show (rowsL 2).length = 8 by decide +kernel]; rfl
  | 3, _ => by rw [show (rowsL 3).length = 48 by decide +kernel]; rfl
  | 4, _ => by rw [show (rowsL 4).length = 384 by decide +kernel]; rfl
  | 5, _ => by rw [show (rowsL 5).length = 3840 by decide +kernel]; rfl
  | n + 6, h => absurd h (by omega)
/-! the law -/
theorem runD_ex {N : Nat} {f : DS} {ds l : List D} {m m' : Mo} {c : Nat} (h : f (ro0 N ds) m = .exc c l m') : runD N f ds m = .exc c l m' := by
  unfold runD
  rw [h]
theorem intB {t : Bool} : intD [.bl t] = some (.int (if t = true then 1 else 0)) := by cases t <;> rfl
theorem law_b1 {n : Nat} {x3 x4 x5 x6 : Option Sv} {m : Mo} (hn : n ≤ 5) : den_law_b1 [none, some (.v .drw), some (.v (.int (n : Int))), x3, x4, x5, x6] m = .nx [none, some (.v .drw), some (.v (.int (n : Int))), x3, some (.v (.lst ((rowsL n).map tuD))), x5, x6] m := by
  have ll := rowsL_len hn
  obtain ⟨l, K, ew, hW⟩ := walked_ok (m := m) hn
  have aw := walk_all hn hW
  have ek : kDs (l.map (·.1)) = K.map tuD := by
    rw [hW.W.keys, List.append_nil, kDs_rows]
  have so : srtLW [.lst (K.map tuD)] = some (.lst ((rowsL n).map tuD)) := srtW_rows (n := n) (all_perm (rowsL_all hn) aw) (fun w hw => ((rowsL_all hn).per w hw).len) (rowsL_pw hn) fun z => by
    subst z
    rfl
  have t1 : ∀ (x4 : Option Sv), dLcG 1 2 y_rows_of (dCons (dVar 2) dNil) (hName 5) (fun _ m => .ok true m) (dFld 0 (dVar 5)) [5] [none, some (.v .drw), some (.v (.int (n : Int))), x3, x4, x5, x6] m = .ok (.lst ((rowsL n).map tuD)) m := fun x4 => told_all hn rfl
  have ns : neD (.lst ((rowsL n).map tuD)) (.lst ((rowsL n).map tuD)) = some (.bl false) := ne_same plain_tus
  have n0 : neD (.lst []) (.lst []) = some (.bl false) := by kernel_rfl
  unfold den_law_b1
  rw [seq_nx (ρ' := [none, some (.v .drw), some (.v (.int (n : Int))), x3, some (.v (.lst ((rowsL n).map tuD))), x5, x6]) (m' := m) (by exists [t1])]
  rw [seq_nx (ρ' := [none, some (.v .drw), some (.v (.int (n : Int))), x3, some (.v (.lst ((rowsL n).map tuD))), x5, x6]) (m' := m) (by exists [t1, ew, ek, so, ns])]
  exists [ix_len n hn, List.length_map, told_odd hn, n0, beq_self_eq_true]
theorem counted_no {d : D} {m : Mo} (h : ∀ m, F_is_among [d, .int 0, .int 5] m = .ok (.bl false) m) : F_need_counted [d] m = .exc 3 [d] m := by
  unfold F_need_counted den_need_counted
  exists [h]
theorem told_num {k : D} {m : Mo} : F__law_told (.exc 3 [k] m) = .ok (.tup [.str "BadNumber", k]) m := by kernel_rfl
abbrev odds41 : List D := [.non, .bl true, .int 6, .int (-1), .str "3", .tup [.int 3], .int 1000000000000000000000000000000, .dct []]
theorem ix_mem {l : List D} {v : Int} (h0 : 0 ≤ v) (h1 : v < (l.length : Int)) : ∃ d, ixD (.lst l) (.int v) = some d ∧ d ∈ l := by
  obtain ⟨j, rfl⟩ : ∃ n : Nat, v = n := ⟨v.toNat, by omega⟩
  have hj : j < l.length := by omega
  refine ⟨l[j], ?_, List.getElem_mem hj⟩
  show atI l (j : Int) = _
  unfold atI
  rw [ixN_at hj]
  exact List.getElem?_eq_getElem hj
theorem odd41 {o : D} (h : o ∈ odds41) : (∀ m, F_is_among [o, .int 0, .int 5] m = .ok (.bl false) m) ∧ ∃ s, reprE [.tup [.str "BadNumber", o]] = some (.str s) := by
  simp only [List.mem_cons, List.not_mem_nil, or_false] at h
  rcases h with rfl | rfl | rfl | rfl | rfl | rfl | rfl | rfl
  · exact ⟨fun m => among_o rfl, rep_fit (by decide +kernel) (by decide +kernel)⟩
  · exact ⟨fun m => among_o rfl, rep_fit (by decide +kernel) (by decide +kernel)⟩
  · exact ⟨fun m => by rw [among_i, decide_eq_false (by omega)], rep_fit (by decide +kernel) (by decide +kernel)⟩
  · exact ⟨fun m => by rw [among_i, decide_eq_false (by omega)], rep_fit (by decide +kernel) (by decide +kernel)⟩
  · exact ⟨fun m => among_o rfl, rep_fit (by decide +kernel) (by decide +kernel)⟩
  · exact ⟨fun m => among_o rfl, rep_fit (by decide +kernel) (by decide +kernel)⟩
  · exact ⟨fun m => by rw [among_i, decide_eq_false (by omega)], rep_fit (by decide +kernel) (by decide +kernel)⟩
  · exact ⟨fun m => among_o rfl, "('BadNumber', {})", by kernel_rfl⟩
theorem pow_30 : powD (.int 10) (.int 30) = some (.int 1000000000000000000000000000000) := by kernel_rfl
theorem lc_nil {h : D → Ro → Option Ro} {t : DT} {f : DE} {ρ : Ro} {m : Mo} : lcD h t f [] ρ m = .ok [] m := rfl
theorem rows_ex {o : D} {m : Mo} (h : ∀ m, F_need_counted [o] m = .exc 3 [o] m) : F_rows_of [o] m = .exc 3 [o] m := by
  unfold F_rows_of
  refine runD_ex ?_
  unfold den_rows_of
  exists [h]
theorem listX_of {ok : Nat → Bool} {n : Nat} {F : DF} {fa : DA} {ρ : Ro} {m m1 m2 : Mo} {ds l : List D} {c : Nat} (h : fa ρ m = .ok ds m1) (hl : ds.length = n) (h2 : F ds m1 = .exc c l m2) (hc : ok c = true) : dListX ok n F fa ρ m = .exc c l m2 := by
  unfold dListX
  rw [h]
  show (if ds.length = n then onlyX ok (F ds m1) else .bad) = _
  rw [if_pos hl, h2]
  show (if ok c = true then R.exc c l m2 else .bad) = _
  rw [if_pos hc]
theorem zipX_of {ok : Nat → Bool} {n : Nat} {F : DF} {fa : DA} {ρ : Ro} {m m1 m2 : Mo} {ds l : List D} {c : Nat} (h : fa ρ m = .ok ds m1) (hl : ds.length = n) (h2 : F ds m1 = .exc c l m2) (hc : ok c = true) : dZipX ok n F fa ρ m = .ok [] m1 := by
  unfold dZipX
  rw [h]
  show (if ds.length = n then match onlyX ok (F ds m1) with
    | .exc _ _ _ => R.ok [] m1
    | _ => .bad
  else .bad) = _
  rw [if_pos hl, h2]
  show (match (if ok c = true then R.exc c l m2 else .bad : R D) with
    | .exc _ _ _ => R.ok [] m1
    | _ => .bad) = _
  rw [if_pos hc]
theorem law_true : ∀ r : MS, r.spot = 0 → r.cs = [] → ∃ m', den_law (none :: some (.v .drw) :: List.replicate 5 none) (some r) = .rt (.bl true) m' := by
  intro r hr hc
  have lim0 : Lim 1000 (some r) := ⟨r, rfl, by omega, hc⟩
  obtain ⟨u, m1, e1, lim1, u0, u1⟩ := draw_lim (L := 6) (k := 999) (by decide) (by decide) lim0
  obtain ⟨c, hc5, ec⟩ : ∃ c : Nat, c ≤ 6 ∧ (5 : Int) + (if (u == 0) = true then 1 else 0) = (c : Int) := by
    by_cases q : (u == 0) = true
    · exact ⟨6, by omega, by rw [if_pos q]; rfl⟩
    · exact ⟨5, by omega, by rw [if_neg q]; rfl⟩
  have first : ∃ x2 x4, (sFor (dRng1 (dCons (dOp addD (dC (.int 5)) (dCB intD (dCons (dOp eqD (dCall 2 F__law_draw (dCons (dVar 1) (dCons (dC (.int 6)) dNil))) (dC (.int 0))) dNil))) dNil)) (hName 2) den_law_b1) [none, some (.v .drw), none, none, none, none, none] (some r) = .nx [none, some (.v .drw), x2, none, x4, none, none] m1 := by
    have rg : dRng1 (dCons (dOp addD (dC (.int 5)) (dCB intD (dCons (dOp eqD (dCall 2 F__law_draw (dCons (dVar 1) (dCons (dC (.int 6)) dNil))) (dC (.int 0))) dNil))) dNil) [none, some (.v .drw), none, none, none, none, none] (some r) = .ok (rangeD 0 c) m1 := by
      exists [e1, intB, ec, if_pos (show -1000000 ≤ (c : Int) ∧ (c : Int) ≤ 1000000 by omega)]
    unfold sFor
    rw [rg, ev_sb]
    generalize hfor : forD _ _ _ _ _ = q
    obtain ⟨ρ', m', rfl, hI⟩ := forD_gen hfor (fun i ρ m' => m' = m1 ∧ ∃ x2 x4, ρ = [none, some (.v .drw), x2, none, x4, none, none]) ⟨rfl, none, none, rfl⟩ (by
      rintro i d ρ m3 hd ⟨rfl, x2, x4, rfl⟩
      have hi : i < c := by
        have z := (List.getElem?_eq_some_iff.mp hd).1
        rw [rangeD_len] at z
        exact z
      rw [rangeD_get hd, Int.zero_add]
      exact ⟨[none, some (.v .drw), some (.v (.int (i : Int))), none, x4, none, none], _, m3, rfl, .inl (law_b1 (n := i) (by omega)), rfl, _, _, rfl⟩)
    obtain ⟨rfl, x2, x4, rfl⟩ := hI
    exact ⟨x2, x4, rfl⟩
  obtain ⟨x2, x4, f1⟩ := first
  obtain ⟨b, m2, e2, lim2, b0, b1⟩ := draw_lim (L := 8) (k := 998) (by decide) (by decide) lim1
  obtain ⟨o, eo, ho⟩ := ix_mem (l := odds41) b0 b1
  obtain ⟨am, s, rs⟩ := odd41 ho
  have nc : ∀ m, F_need_counted [o] m = .exc 3 [o] m := fun m => counted_no am
  have lx : ∀ m, dListX (fun c => decide (c < 9)) 1 F_rows_of (dCons (dVar 3) dNil) [none, some (.v .drw), x2, some (.v o), x4, none, none] m = .exc 3 [o] m := fun m => listX_of (ds := [o]) (m1 := m) rfl rfl (rows_ex nc) (by decide)
  have zx : ∀ m, dZipX (fun c => decide (c < 9)) 1 F_rows_of (dCons (dVar 3) dNil) [none, some (.v .drw), x2, some (.v o), x4, none, none] m = .ok [] m := fun m => zipX_of (ds := [o]) (m1 := m) rfl rfl (rows_ex nc) (by decide)
  have n0 : neD (.lst []) (.lst []) = some (.bl false) := by kernel_rfl
  have ta : ∀ m, dLcG 1 2 y_rows_of (dCons (dC (.int 1)) dNil) (hName 5) (fun _ m => .ok true m) (dFld 0 (dVar 5)) [5] [none, some (.v .drw), x2, some (.v o), x4, none, none] m = .ok (.lst [.tup [.int (-1)], .tup [.int 1]]) m := fun m => by
    have e := told_all (n := 1) (x2 := x2) (x3 := some (.v o)) (x4 := x4) (x5 := none) (x6 := none) (m := m) (fa := dCons (dC (.int 1)) dNil) (by omega) rfl
    rw [show rowsL 1 = [[-1], [1]] by decide +kernel] at e
    exact e
  have qe : eqD (.lst [.tup [.int (-1)], .tup [.int 1]]) (.lst [.tup [.int (-1)], .tup [.int 1]]) = some (.bl true) := by kernel_rfl
  have m1' : (0 : Int) - 1 = -1 := by decide
  refine ⟨m2, ?_⟩
  unfold den_law
  rw [show (none :: some (Sv.v .drw) :: List.replicate 5 none : Ro) = [none, some (.v .drw), none, none, none, none, none] from rfl]
  rw [seq_nx f1]
  rw [seq_nx (ρ' := [none, some (.v .drw), x2, some (.v o), x4, none, none]) (m' := m2) (by exists [e2, pow_30, eo])]
  rw [seq_nx (ρ' := [none, some (.v .drw), x2, some (.v o), x4, none, none]) (m' := m2) (by exists [lx, told_num, rs, decide_true, Bool.not_true])]
  rw [seq_nx (ρ' := [none, some (.v .drw), x2, some (.v o), x4, none, none]) (m' := m2) (by exists [zx, lc_nil, n0])]
  exists [ta, m1', qe]
set_option maxHeartbeats 0
end Law
open PySem PySem.W PySem.Calls PyProof.Rows
theorem PySem.Challenge.cw_faceabout_k41_rows_listed_holds : PySem.Challenge.rw_faceabout_k41_rows_listed.Holds := by
  w_on; o_law
  refine HandSHeadRun.head_any (r := OpenLaw.row PySem.Challenge.rw_faceabout_k41_rows_listed) (q := view (OpenLaw.row PySem.Challenge.rw_faceabout_k41_rows_listed).prog [33]) (H := Law.hdK) (ob := Law.hdO) (M := 6000) (loose := Law.loose) (d := HandSHeadRun.topDef (OpenLaw.row PySem.Challenge.rw_faceabout_k41_rows_listed).prog 33) (kwd := []) Law.hdO_eq
    (by kernel_rfl) (fun s => by kernel_rfl) Law.hdRun (by kernel_rfl) (by kernel_rfl) (by kernel_rfl) (by rfl) (by first | assumption | decide +kernel) (by decide +kernel) ⟨rfl, rfl, rfl, rfl, rfl, by decide +kernel⟩ ?hw ?hc
  case hw => w_witness2
  case hc =>
    refine Dn.walk_A (l := PySem.Challenge.rw_faceabout_k41_rows_listed) (n := 63) (k := 10) rfl (by decide) (by kernel_rfl) (Dn.callerA_room (by decide) (by decide)) ?F
    intro w mg fa h Y G hmg0
    obtain ⟨K, KX, c0⟩ := Y
    have c := c0
    have hmg : mg ("law" : PySem.Str) = some (.ref fa) := by
      have e : (HandSHeadRun.topDef (OpenLaw.row PySem.Challenge.rw_faceabout_k41_rows_listed).prog 33).name = ("law" : PySem.Str) := by kernel_rfl
      rw [← e]
      exact hmg0
    have e := hmg.symm.trans (He.glo_ok KX G (c.x.t.d.fact 18 (f := .glo "law") rfl))
    cases e
    exact ⟨K, Dn.spLaw (Law.GG w K), Law.tf.map (He.cT K), KX, Dn.tabsAt_of KX c.x.hd c.x.out c.x.empty, fun H a ns hl hO hT hS => ⟨ns, .ref a, rfl, Dn.scr_rep hO hS, hl, Dn.tabs_nil hT (by intro t ht; simp only [Law.GG, List.mem_cons, List.not_mem_nil, or_false] at ht; rcases ht with rfl <;> exact ⟨_, List.mem_map.mpr ⟨_, by simp [Law.tf], rfl⟩, rfl⟩), fun _ => rfl⟩,
      fun base _ _ hB => Law.fn_law (⟨c.x.t.d, c.x.more, ⟨h, KX, G⟩, c.own, by decide +kernel, c.x.hd, fun p hp => hB _ (List.mem_map.mpr ⟨p, hp, rfl⟩)⟩ : Law.CC _ K mg base) Law.law_true⟩
